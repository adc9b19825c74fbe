import PyProof.Rows.All
import Wide.All
import OpenK.AllK
import Wide.FinOn
import HandS.ForMost
import HandS.IsInst
import HandS.Walk
import HandS.Wide
import HandS.TupAny
import HandS.Style
import HandS.Deep
import HandS.Text
import HandS.Zip
import HandS.More
import HandS.SetFor
import HandS.Strs
import HandS.Words
import KE.GoesEnum
import KE.GoesZip
import KE.GoesMore
import HandS.Dict
import HandS.Small
import HandS.WordsDict
import KE.KDictLaws
import HandS.SortInts
import HandS.Conv
import KE.KRevSl
import PyProof.Rows.SetFrom
import HandS.TupLen
import HandS.DictTup
import KE.KTupSum
import HandS.SortKw
import KE.DataMinMax
import HandS.TupMul
import HandS.Iter
import KE.KDictZip
import HandS.StrMore
import PyProof.NeKinds
import PyProof.Rows.EqBoolInt
import KE.SortKeyHeap
import KE.KSortKey
import PyProof.StrOps
import KE.SortData
import KE.DataFind
import PyProof.TupleOfSeq
import KE.KDictList
import PySem.Challenge.RW_treewithin_k24_whole_great_trees_turned
set_option Elab.async false
set_option linter.all false
set_option autoImplicit false
set_option maxRecDepth 100000
set_option maxHeartbeats 4000000
namespace M
open PySem PySem.Spec L2
open PyProof.Rows hiding St
/-- data by value: nothing in it ever changes again; txt: some text, whichever -/
inductive D where
  | non | bl (b : Bool) | int (i : Int) | str (x : Str) | ty (n : String) | tup (xs : List D) | lst (xs : List D) | kl (xs : List D) | dct (ks : List Key) (xs : List D)
  | txt
  | kt (xs : List D)
/-- what a name holds: data, or the number of a cell -/
inductive R where
  | v (d : D) | ref (n : Nat)
abbrev R.non : R := .v .non
abbrev R.bl (b : Bool) : R := .v (.bl b)
abbrev R.int (i : Int) : R := .v (.int i)
abbrev R.str (x : Str) : R := .v (.str x)
abbrev R.ty (n : String) : R := .v (.ty n)
abbrev R.tup (xs : List D) : R := .v (.tup xs)
abbrev R.lst (xs : List D) : R := .v (.lst xs)
abbrev R.kl (xs : List D) : R := .v (.kl xs)
/-- cells: objects that may change; fz: one that never will again -/
inductive MO where
  | lst (xs : List R)
  | dK (kvs : List (Key × R))
  | dT (kvs : List (List Key × R))
  | ins (C : Str) (fs : List (Str × R))
  | lkK (kvs : List (Key × R))
  | lkT (kvs : List (List Key × R))
  | fz (d : D)
abbrev Store := List MO
abbrev Env := List (Option R)
/-- an exception: its class, the attributes of its own dict -/
structure Exc where
  cls : Value
  dat : Option (List (Str × R))
inductive Out (α : Type) where
  | ok (a : α) (S : Store)
  | exc (c : Exc) (S : Store)
  | no
inductive OutS where
  | nx (m : Env) (S : Store)
  | bk (m : Env) (S : Store)
  | ct (m : Env) (S : Store)
  | rt (d : R) (S : Store)
  | exc (c : Exc) (m : Env) (S : Store)
  | no
def Out.bind {α β : Type} (o : Out α) (f : α → Store → Out β) : Out β := match o with
  | .ok a S => f a S
  | .exc c S => .exc c S
  | .no => .no
@[simp] theorem Out.bind_ok {α β : Type} (a : α) (S : Store) (f : α → Store → Out β) : (Out.ok a S).bind f = f a S := id rfl
@[simp] theorem Out.bind_no {α β : Type} (f : α → Store → Out β) : (Out.no : Out α).bind f = .no := id rfl
@[simp] theorem Out.bind_exc {α β : Type} (c : Exc) (S : Store) (f : α → Store → Out β) : (Out.exc c S : Out α).bind f = .exc c S := id rfl
abbrev ME := Env → Store → Out R
abbrev MT := Env → Store → Out Bool
abbrev MA := Env → Store → Out (List R)
abbrev MS := Env → Store → OutS
/-- the cells' addresses; the frozen ones -/
structure Wd where
  r : List Addr
  z : Addr → Prop
/-- a list that nobody writes: locked (the script), or an object of the module -/
def KL (K : PySem.W.Frag) (H : Hp) (a : Addr) (xs : List V) : Prop :=
  (∃ o, H a = some (.frz o (.lst xs))) ∨ ∃ (o : Obj) (its : Array Value) (n : Nat), K.lookup a = some o ∧ o.cls = .type "list" ∧ o.dict = none ∧ o.data = .seq its n ∧ its.size ≤ sizeLine ∧ Vals xs its.toList
theorem KL.sq {K : PySem.W.Frag} {H : Hp} {a : Addr} {xs : List V} (h : KL K H a xs) : SqL K H a xs := by
  rcases h with ⟨o, h⟩ | h
  · exact .inl (.inr ⟨o, h⟩)
  · exact .inr h
/-- one that is frozen -/
def FzL (H : Hp) (ρ : Wd) (a : Addr) (xs : List V) : Prop := ρ.z a ∧ H a = some (.lst xs)
/-- a tuple of the module -/
def KT' (K : PySem.W.Frag) (a : Addr) (xs : List V) : Prop := ∃ (o : Obj) (its : Array Value) (n : Nat), K.lookup a = some o ∧ o.cls = .type "tuple" ∧ o.data = .seq its n ∧ its.size ≤ sizeLine ∧ Vals xs its.toList
theorem KT'.sq {K : PySem.W.Frag} {H : Hp} {a : Addr} {xs : List V} (h : KT' K a xs) : SqT K H a xs := .inr h
theorem sqT_at {K : PySem.W.Frag} {H : Hp} {a : Addr} {xs : List V} (h : H a = some (.tup xs)) : SqT K H a xs := .inl (.inl h)
theorem FzL.sq {K : PySem.W.Frag} {H : Hp} {ρ : Wd} {a : Addr} {xs : List V} (h : FzL H ρ a xs) : SqL K H a xs := .inl (.inl h.2)
mutual
inductive Rp (K : PySem.W.Frag) (H : Hp) (ρ : Wd) : V → D → Prop
  | non : Rp K H ρ .non .non
  | bl (b : Bool) : Rp K H ρ (.bl b) (.bl b)
  | int (i : Int) : Rp K H ρ (.int i) (.int i)
  | str (x : Str) : Rp K H ρ (.str x) (.str x)
  | ty (n : String) : Rp K H ρ (.ty n) (.ty n)
  | tup {a : Addr} {xs : List V} {ds : List D} : H a = some (.tup xs) → RpA K H ρ xs ds → Rp K H ρ (.ref a) (.tup ds)
  | lst {a : Addr} {xs : List V} {ds : List D} : FzL H ρ a xs → RpA K H ρ xs ds → Rp K H ρ (.ref a) (.lst ds)
  | kl {a : Addr} {xs : List V} {ds : List D} : KL K H a xs → RpA K H ρ xs ds → Rp K H ρ (.ref a) (.kl ds)
  | dct {a : Addr} {ks : List Key} {xs : List V} {ds : List D} : ρ.z a → H a = some (.dK (ks.zip xs)) → ks.length = xs.length → RpA K H ρ xs ds → Rp K H ρ (.ref a) (.dct ks ds)
  | txt (x : Str) : x.length ≤ sizeLine → Rp K H ρ (.str x) .txt
  | kt {a : Addr} {xs : List V} {ds : List D} : KT' K a xs → RpA K H ρ xs ds → Rp K H ρ (.ref a) (.kt ds)
inductive RpA (K : PySem.W.Frag) (H : Hp) (ρ : Wd) : List V → List D → Prop
  | nil : RpA K H ρ [] []
  | cons {v : V} {vs : List V} {d : D} {ds : List D} : Rp K H ρ v d → RpA K H ρ vs ds → RpA K H ρ (v :: vs) (d :: ds)
end
inductive Rq (K : PySem.W.Frag) (H : Hp) (ρ : Wd) : V → R → Prop
  | v {v : V} {d : D} : Rp K H ρ v d → Rq K H ρ v (.v d)
  | ref {a : Addr} {n : Nat} : ρ.r[n]? = some a → Rq K H ρ (.ref a) (.ref n)
def RqA (K : PySem.W.Frag) (H : Hp) (ρ : Wd) (vs : List V) (ds : List R) : Prop := Paired (Rq K H ρ) vs ds
/-- what stays -/
structure Mo (K : PySem.W.Frag) (H : Hp) (ρ : Wd) (H' : Hp) (ρ' : Wd) : Prop where
  tup : ∀ a xs, H a = some (.tup xs) → H' a = some (.tup xs)
  kl : ∀ a xs, KL K H a xs → KL K H' a xs
  ref : ∀ (n : Nat) (a : Addr), ρ.r[n]? = some a → ρ'.r[n]? = some a
  z : ∀ a, ρ.z a → ρ'.z a ∧ H' a = H a
section
variable {K : PySem.W.Frag} {H H' H1 H2 : Hp} {ρ ρ' ρ1 ρ2 : Wd}
theorem Mo.refl : Mo K H ρ H ρ := ⟨fun _ _ h => h, fun _ _ h => h, fun _ _ h => h, fun _ h => ⟨h, rfl⟩⟩
theorem Mo.trans (a : Mo K H ρ H1 ρ1) (b : Mo K H1 ρ1 H2 ρ2) : Mo K H ρ H2 ρ2 := ⟨fun x xs h => b.tup x xs (a.tup x xs h), fun x xs h => b.kl x xs (a.kl x xs h), fun n x h => b.ref n x (a.ref n x h), fun x h => ⟨(b.z x (a.z x h).1).1, (b.z x (a.z x h).1).2.trans (a.z x h).2⟩⟩
theorem FzL.mono (mo : Mo K H ρ H' ρ') {a : Addr} {xs : List V} (h : FzL H ρ a xs) : FzL H' ρ' a xs := ⟨(mo.z _ h.1).1, by rw [(mo.z _ h.1).2]; exact h.2⟩
mutual
theorem Rp.mono (mo : Mo K H ρ H' ρ') : ∀ (d : D) (v : V), Rp K H ρ v d → Rp K H' ρ' v d
  | .non, _, h => by cases h; exact .non
  | .bl b, _, h => by cases h; exact .bl b
  | .int i, _, h => by cases h; exact .int i
  | .str x, _, h => by cases h; exact .str x
  | .ty n, _, h => by cases h; exact .ty n
  | .tup ds, _, h => by
    cases h with
    | tup hs ha => exact .tup (mo.tup _ _ hs) (RpA.mono mo ds _ ha)
  | .lst ds, _, h => by
    cases h with
    | lst hs ha => exact .lst (hs.mono mo) (RpA.mono mo ds _ ha)
  | .kl ds, _, h => by
    cases h with
    | kl hs ha => exact .kl (mo.kl _ _ hs) (RpA.mono mo ds _ ha)
  | .dct ks ds, _, h => by
    cases h with
    | dct hz hs hl ha => exact .dct (mo.z _ hz).1 (by rw [(mo.z _ hz).2]; exact hs) hl (RpA.mono mo ds _ ha)
  | .txt, _, h => by
    cases h with
    | txt x hx => exact .txt x hx
  | .kt ds, _, h => by
    cases h with
    | kt hs ha => exact .kt hs (RpA.mono mo ds _ ha)
theorem RpA.mono (mo : Mo K H ρ H' ρ') : ∀ (ds : List D) (vs : List V), RpA K H ρ vs ds → RpA K H' ρ' vs ds
  | [], _, h => by cases h; exact .nil
  | d :: ds, _, h => by
    cases h with
    | cons h1 h2 => exact .cons (Rp.mono mo d _ h1) (RpA.mono mo ds _ h2)
end
theorem Rp.mo {v : V} {d : D} (h : Rp K H ρ v d) (mo : Mo K H ρ H' ρ') : Rp K H' ρ' v d := Rp.mono mo d v h
theorem RpA.mo {v : List V} {d : List D} (h : RpA K H ρ v d) (mo : Mo K H ρ H' ρ') : RpA K H' ρ' v d := RpA.mono mo d v h
theorem Rq.mo {v : V} {d : R} (h : Rq K H ρ v d) (mo : Mo K H ρ H' ρ') : Rq K H' ρ' v d := by
  cases h with
  | v h => exact .v (h.mo mo)
  | ref e => exact .ref (mo.ref _ _ e)
theorem RqA.mo {v : List V} {d : List R} (h : RqA K H ρ v d) (mo : Mo K H ρ H' ρ') : RqA K H' ρ' v d := Paired.mapP h fun _ _ q => q.mo mo
theorem Rq.non : Rq K H ρ .non .non := .v .non
theorem Rq.bl (b : Bool) : Rq K H ρ (.bl b) (.bl b) := .v (.bl b)
theorem Rq.int (i : Int) : Rq K H ρ (.int i) (.int i) := .v (.int i)
theorem Rq.str (x : Str) : Rq K H ρ (.str x) (.str x) := .v (.str x)
theorem Rq.ty (x : String) : Rq K H ρ (.ty x) (.ty x) := .v (.ty x)
theorem RpA.length : ∀ {vs : List V} {ds : List D}, RpA K H ρ vs ds → vs.length = ds.length
  | _, [], h => by cases h; rfl
  | _, d :: ds, h => by
    cases h with
    | cons h1 h2 => exact congrArg (· + 1) (RpA.length h2)
theorem RqA.length {vs : List V} {ds : List R} (h : RqA K H ρ vs ds) : vs.length = ds.length := Paired.length h
/-- by value, item by item -/
theorem RpA.q : ∀ {vs : List V} {ds : List D}, RpA K H ρ vs ds → RqA K H ρ vs (ds.map .v)
  | _, [], h => by cases h; exact .nil
  | _, d :: ds, h => by
    cases h with
    | cons h1 h2 => exact .cons (.v h1) (RpA.q h2)
theorem RqA.p : ∀ {vs : List V} {ds : List D}, RqA K H ρ vs (ds.map .v) → RpA K H ρ vs ds
  | _, [], h => by cases h; exact .nil
  | _, d :: ds, h => by
    cases h with
    | cons h1 h2 =>
      cases h1 with
      | v h1 => exact .cons h1 (RqA.p h2)
theorem RqA.get {vs : List V} {ds : List R} : ∀ {i : Nat} {d : R}, RqA K H ρ vs ds → ds[i]? = some d → ∃ v, vs[i]? = some v ∧ Rq K H ρ v d := by
  intro i d h
  induction h generalizing i with
  | nil => intro e; simp at e
  | cons h1 h2 ih =>
    intro e
    cases i with
    | zero =>
      have q := Option.some.inj e
      subst q
      exact ⟨_, rfl, h1⟩
    | succ i =>
      obtain ⟨v, a, b⟩ := ih (i := i) (by simpa using e)
      exact ⟨v, by simpa using a, b⟩
theorem RqA.get' {vs : List V} {ds : List R} : ∀ {i : Nat} {v : V}, RqA K H ρ vs ds → vs[i]? = some v → ∃ d, ds[i]? = some d ∧ Rq K H ρ v d := by
  intro i d h
  induction h generalizing i with
  | nil => intro e; simp at e
  | cons h1 h2 ih =>
    intro e
    cases i with
    | zero =>
      have q := Option.some.inj e
      subst q
      exact ⟨_, rfl, h1⟩
    | succ i =>
      obtain ⟨v, a, b⟩ := ih (i := i) (by simpa using e)
      exact ⟨v, by simpa using a, b⟩
theorem RqA.set {v : V} {d : R} (r : Rq K H ρ v d) {vs : List V} {ds : List R} (h : RqA K H ρ vs ds) : ∀ (i : Nat), RqA K H ρ (vs.set i v) (ds.set i d) := by
  induction h with
  | nil => intro i; exact .nil
  | cons h1 h2 ih =>
    intro i
    cases i with
    | zero => exact .cons r h2
    | succ i => exact .cons h1 (ih i)
theorem RqA.append {vs ws : List V} {ds es : List R} (h : RqA K H ρ vs ds) (k : RqA K H ρ ws es) : RqA K H ρ (vs ++ ws) (ds ++ es) := by
  induction h with
  | nil => exact k
  | cons h1 h2 ih => exact .cons h1 ih
theorem RqA.take {vs : List V} {ds : List R} (h : RqA K H ρ vs ds) : ∀ n, RqA K H ρ (vs.take n) (ds.take n) := by
  induction h with
  | nil => intro n; rw [List.take_nil, List.take_nil]; exact .nil
  | cons h1 h2 ih =>
    intro n
    cases n with
    | zero => exact .nil
    | succ n => exact .cons h1 (ih n)
theorem RqA.drop {vs : List V} {ds : List R} (h : RqA K H ρ vs ds) : ∀ n, RqA K H ρ (vs.drop n) (ds.drop n) := by
  induction h with
  | nil => intro n; rw [List.drop_nil, List.drop_nil]; exact .nil
  | cons h1 h2 ih =>
    intro n
    cases n with
    | zero => exact .cons h1 h2
    | succ n => exact ih n
theorem RqA.reverse {vs : List V} {ds : List R} (h : RqA K H ρ vs ds) : RqA K H ρ vs.reverse ds.reverse := by
  induction h with
  | nil => exact .nil
  | cons h1 h2 ih =>
    rw [List.reverse_cons, List.reverse_cons]
    exact RqA.append ih (.cons h1 .nil)
theorem RpA.append {vs ws : List V} {ds es : List D} (h : RpA K H ρ vs ds) (k : RpA K H ρ ws es) : RpA K H ρ (vs ++ ws) (ds ++ es) := by
  refine RqA.p ?_
  rw [List.map_append]
  exact h.q.append k.q
theorem RpA.take {vs : List V} {ds : List D} (n : Nat) (h : RpA K H ρ vs ds) : RpA K H ρ (vs.take n) (ds.take n) := by
  refine RqA.p ?_
  rw [List.map_take]
  exact h.q.take n
theorem RpA.drop {vs : List V} {ds : List D} (n : Nat) (h : RpA K H ρ vs ds) : RpA K H ρ (vs.drop n) (ds.drop n) := by
  refine RqA.p ?_
  rw [List.map_drop]
  exact h.q.drop n
theorem RpA.reverse {vs : List V} {ds : List D} (h : RpA K H ρ vs ds) : RpA K H ρ vs.reverse ds.reverse := by
  refine RqA.p ?_
  rw [List.map_reverse]
  exact h.q.reverse
theorem RpA.get {vs : List V} {ds : List D} {i : Nat} {d : D} (h : RpA K H ρ vs ds) (e : ds[i]? = some d) : ∃ v, vs[i]? = some v ∧ Rp K H ρ v d := by
  obtain ⟨v, a, b⟩ := h.q.get (i := i) (d := .v d) (by rw [List.getElem?_map, e]; rfl)
  cases b with
  | v b => exact ⟨v, a, b⟩
theorem RpA.get' {vs : List V} {ds : List D} {i : Nat} {v : V} (h : RpA K H ρ vs ds) (e : vs[i]? = some v) : ∃ d, ds[i]? = some d ∧ Rp K H ρ v d := by
  obtain ⟨d, a, b⟩ := h.q.get' e
  rw [List.getElem?_map] at a
  obtain ⟨d', e1, rfl⟩ := Option.map_eq_some_iff.mp a
  cases b with
  | v b => exact ⟨d', e1, b⟩
theorem RpA.ints : ∀ {ns : List Int}, RpA K H ρ (ns.map V.int) (ns.map D.int)
  | [] => .nil
  | n :: ns => .cons (.int n) RpA.ints
/-- pairs of a key and a value -/
def RpP {κ : Type} (K : PySem.W.Frag) (H : Hp) (ρ : Wd) (vs : List (κ × V)) (ds : List (κ × R)) : Prop := Paired (fun (p : κ × V) (q : κ × R) => p.1 = q.1 ∧ Rq K H ρ p.2 q.2) vs ds
theorem RpP.mo {κ : Type} {vs : List (κ × V)} {ds : List (κ × R)} (h : RpP K H ρ vs ds) (mo : Mo K H ρ H' ρ') : RpP K H' ρ' vs ds := Paired.mapP h fun _ _ q => ⟨q.1, q.2.mo mo⟩
/-- what a cell is -/
def HoR (K : PySem.W.Frag) (H : Hp) (ρ : Wd) (a : Addr) : MO → Prop
  | .lst ds => ∃ xs, H a = some (.lst xs) ∧ RqA K H ρ xs ds
  | .dK kds => ∃ kvs, H a = some (.dK kvs) ∧ RpP K H ρ kvs kds
  | .dT kds => ∃ kvs, H a = some (.dT kvs) ∧ RpP K H ρ kvs kds
  | .ins c gs => ∃ C dx fs, PySem.W.nsIn K mainGlobals c = some (some (.ref C)) ∧ H a = some (.ins C dx fs) ∧ RpP K H ρ fs gs
  | .lkK kds => ρ.z a ∧ ∃ od kvs, H a = some (.frz od (.dK kvs)) ∧ RpP K H ρ kvs kds
  | .lkT kds => ρ.z a ∧ ∃ od kvs, H a = some (.frz od (.dT kvs)) ∧ RpP K H ρ kvs kds
  | .fz d => Rp K H ρ (.ref a) d
def MO.live : MO → Prop
  | .fz _ => False
  | .lkK _ => False
  | .lkT _ => False
  | _ => True
/-- the store -/
structure SR (K : PySem.W.Frag) (H : Hp) (ρ : Wd) (S : Store) : Prop where
  nd : ρ.r.Nodup
  len : ρ.r.length = S.length
  obj : ∀ (n : Nat) (a : Addr) (o : MO), ρ.r[n]? = some a → S[n]? = some o → HoR K H ρ a o
  lv : ∀ (n : Nat) (a : Addr) (o : MO), ρ.r[n]? = some a → S[n]? = some o → o.live → ¬ ρ.z a
  z : ∀ a, ρ.z a → H a ≠ none
  r : ∀ (n : Nat) (a : Addr), ρ.r[n]? = some a → H a ≠ none
/-- the frame's names -/
structure EnvR (K : PySem.W.Frag) (H : Hp) (ρ : Wd) (σ : St) (m : Env) : Prop where
  len : σ.length = m.length
  get : ∀ (i : Nat) (d : R), m[i]? = some (some d) → ∃ v, σ[i]? = some (some v) ∧ Rq K H ρ v d
theorem EnvR.mo {σ : St} {m : Env} (h : EnvR K H ρ σ m) (mo : Mo K H ρ H' ρ') : EnvR K H' ρ' σ m := ⟨h.len, fun i d e => by
  obtain ⟨v, a, b⟩ := h.get i d e
  exact ⟨v, a, b.mo mo⟩⟩
theorem EnvR.set {σ : St} {m : Env} {v : V} {d : R} (h : EnvR K H ρ σ m) (r : Rq K H ρ v d) (i : Nat) : EnvR K H ρ (σ.set i (some v)) (m.set i (some d)) := by
  refine ⟨by rw [List.length_set, List.length_set]; exact h.len, fun j e q => ?_⟩
  by_cases hij : i = j
  · subst hij
    by_cases hl : i < m.length
    · rw [List.getElem?_set_self hl] at q
      have q : d = e := by simpa using q
      subst q
      exact ⟨v, List.getElem?_set_self (by rw [h.len]; exact hl), r⟩
    · rw [List.getElem?_eq_none (by rw [List.length_set]; omega)] at q
      cases q
  · rw [List.getElem?_set_ne hij] at q ⊢
    exact h.get j e q
theorem EnvR.start {N : Nat} {vs : List V} {ds : List R} (h : RqA K H ρ vs ds) : EnvR K H ρ (vs.map some ++ List.replicate (N - vs.length) none) (ds.map some ++ List.replicate (N - ds.length) none) := by
  have hl := h.length
  refine ⟨by simp [hl], fun i d q => ?_⟩
  by_cases hi : i < ds.length
  · rw [List.getElem?_append_left (by simpa using hi), List.getElem?_map] at q
    obtain ⟨d', e1, e2⟩ := Option.map_eq_some_iff.mp q
    cases e2
    obtain ⟨v, a, b⟩ := h.get e1
    exact ⟨v, by rw [List.getElem?_append_left (by simpa [hl] using hi), List.getElem?_map, a]; rfl, b⟩
  · rw [List.getElem?_append_right (by simpa using hi), List.getElem?_replicate] at q
    split at q <;> cases q
theorem sqT_new {p : Addr} {u : HO} {a : Addr} {xs : List V} (hp : H p = none) (h : H a = some (.tup xs)) : upd H p u a = some (.tup xs) := by
  rw [upd_ne (ne_of_none h hp)]; exact h
/-- not a tuple, nor one that is locked -/
def Soft : HO → Prop
  | .tup _ => False
  | .frz _ (.dK _) => True
  | .frz _ (.dT _) => True
  | .frz _ _ => False
  | _ => True
theorem sqT_set {p : Addr} {u o : HO} {a : Addr} {xs : List V} (hp : H p = some o) (so : Soft o) (h : H a = some (.tup xs)) : upd H p u a = some (.tup xs) := by
  rw [upd_ne]
  · exact h
  · intro e; subst e; rw [h] at hp; cases hp; exact so
theorem kl_new {p : Addr} {u : HO} {a : Addr} {xs : List V} (hp : H p = none) (h : KL K H a xs) : KL K (upd H p u) a xs := by
  rcases h with ⟨o, h⟩ | h
  · exact .inl ⟨o, by rw [upd_ne (ne_of_none h hp)]; exact h⟩
  · exact .inr h
theorem kl_set {p : Addr} {u o : HO} {a : Addr} {xs : List V} (hp : H p = some o) (so : Soft o) (h : KL K H a xs) : KL K (upd H p u) a xs := by
  rcases h with ⟨o', h⟩ | h
  · refine .inl ⟨o', ?_⟩
    rw [upd_ne]
    · exact h
    · intro e; subst e; rw [h] at hp; cases hp; exact so
  · exact .inr h
/-- a new thing that nothing numbers -/
theorem Mo.new {S : Store} (sr : SR K H ρ S) {p : Addr} {u : HO} (hp : H p = none) : Mo K H ρ (upd H p u) ρ := ⟨fun _ _ h => sqT_new hp h, fun _ _ h => kl_new hp h, fun _ _ h => h, fun a h => ⟨h, upd_ne fun e => sr.z a h (e ▸ hp)⟩⟩
/-- .. a new cell -/
theorem Mo.newR {S : Store} (sr : SR K H ρ S) {p : Addr} {u : HO} (hp : H p = none) : Mo K H ρ (upd H p u) ⟨ρ.r ++ [p], ρ.z⟩ := ⟨fun _ _ h => sqT_new hp h, fun _ _ h => kl_new hp h, fun n a h => by
  have hn : n < ρ.r.length := by
    rcases Nat.lt_or_ge n ρ.r.length with z | z
    · exact z
    · rw [List.getElem?_eq_none z] at h; cases h
  show (ρ.r ++ [p])[n]? = _
  rw [List.getElem?_append_left hn]; exact h, fun a h => ⟨h, upd_ne fun e => sr.z a h (e ▸ hp)⟩⟩
/-- a live cell's object turns -/
theorem Mo.set {p : Addr} {u o : HO} (hp : H p = some o) (so : Soft o) (hz : ¬ ρ.z p) : Mo K H ρ (upd H p u) ρ := ⟨fun _ _ h => sqT_set hp so h, fun _ _ h => kl_set hp so h, fun _ _ h => h, fun a h => ⟨h, upd_ne fun e => hz (e ▸ h)⟩⟩
theorem HoR.mo (mo : Mo K H ρ H' ρ') {a : Addr} (ha : H' a = H a) : ∀ {o : MO}, HoR K H ρ a o → HoR K H' ρ' a o
  | .lst ds, ⟨xs, h, r⟩ => ⟨xs, by rw [ha]; exact h, RqA.mo r mo⟩
  | .dK ds, ⟨xs, h, r⟩ => ⟨xs, by rw [ha]; exact h, RpP.mo r mo⟩
  | .dT ds, ⟨xs, h, r⟩ => ⟨xs, by rw [ha]; exact h, RpP.mo r mo⟩
  | .ins C ds, ⟨c, dx, xs, hc, h, r⟩ => ⟨c, dx, xs, hc, by rw [ha]; exact h, RpP.mo r mo⟩
  | .lkK ds, ⟨hz, od, xs, h, r⟩ => ⟨(mo.z a hz).1, od, xs, by rw [ha]; exact h, RpP.mo r mo⟩
  | .lkT ds, ⟨hz, od, xs, h, r⟩ => ⟨(mo.z a hz).1, od, xs, by rw [ha]; exact h, RpP.mo r mo⟩
  | .fz d, h => Rp.mo h mo
theorem SR.none_of {S : Store} (sr : SR K H ρ S) {p : Addr} (hp : H p = none) : p ∉ ρ.r := fun hm => by
  obtain ⟨n, hn, e⟩ := List.getElem_of_mem hm
  exact sr.r n p (by rw [List.getElem?_eq_getElem hn, e]) hp
/-- only things that no number names have turned -/
theorem SR.other {S : Store} (sr : SR K H ρ S) (mo : Mo K H ρ H' ρ) (k : ∀ b ∈ ρ.r, H' b = H b) : SR K H' ρ S := ⟨sr.nd, sr.len, fun n a o e q => (sr.obj n a o e q).mo mo (k a (List.mem_of_getElem? e)), sr.lv, fun a h => by rw [(mo.z a h).2]; exact sr.z a h, fun n a e => by rw [k a (List.mem_of_getElem? e)]; exact sr.r n a e⟩
theorem SR.newT {S : Store} (sr : SR K H ρ S) {p : Addr} {u : HO} (hp : H p = none) : SR K (upd H p u) ρ S :=
  sr.other (.new sr hp) fun b hb => upd_ne fun e => sr.none_of hp (e ▸ hb)
theorem SR.new {S : Store} (sr : SR K H ρ S) {p : Addr} {u : HO} {o : MO} (hp : H p = none) (r : HoR K (upd H p u) ⟨ρ.r ++ [p], ρ.z⟩ p o) : SR K (upd H p u) ⟨ρ.r ++ [p], ρ.z⟩ (S ++ [o]) := by
  have mo : Mo K H ρ (upd H p u) ⟨ρ.r ++ [p], ρ.z⟩ := .newR sr hp
  have cas : ∀ (n : Nat) (a : Addr), (ρ.r ++ [p])[n]? = some a → ρ.r[n]? = some a ∨ (n = ρ.r.length ∧ a = p) := fun n a e => by
    by_cases hn : n < ρ.r.length
    · rw [List.getElem?_append_left hn] at e; exact .inl e
    · rw [List.getElem?_append_right (by omega)] at e
      have e0 : n - ρ.r.length = 0 := by
        rcases Nat.eq_zero_or_pos (n - ρ.r.length) with z | z
        · exact z
        · rw [List.getElem?_eq_none (by simp; omega)] at e; cases e
      rw [e0] at e
      exact .inr ⟨by omega, (Option.some.inj e).symm⟩
  have lt : ∀ (n : Nat) (a : Addr), ρ.r[n]? = some a → n < S.length := fun n a e => by
    rw [← sr.len]
    exact (List.getElem?_eq_some_iff.mp e).1
  refine ⟨?_, by simp [sr.len], fun n a o' e q => ?_, fun n a o' e q hl => ?_, fun a h => ?_, fun n a e => ?_⟩
  · show (ρ.r ++ [p]).Nodup
    rw [List.nodup_append]
    refine ⟨sr.nd, by simp, fun x hx y hy => ?_⟩
    have : y = p := by simpa using hy
    subst this
    intro e; subst e
    exact sr.none_of hp hx
  · rcases cas n a e with e | ⟨rfl, rfl⟩
    · rw [List.getElem?_append_left (lt n a e)] at q
      exact (sr.obj n a o' e q).mo mo (upd_ne fun (z : a = p) => sr.r n a e (by rw [z]; exact hp))
    · rw [sr.len, List.getElem?_append_right (Nat.le_refl _), Nat.sub_self] at q
      have eo : o = o' := Option.some.inj q
      subst eo
      exact r
  · rcases cas n a e with e | ⟨rfl, rfl⟩
    · rw [List.getElem?_append_left (lt n a e)] at q
      exact sr.lv n a o' e q hl
    · exact fun z => sr.z _ z hp
  · rw [(mo.z a h).2]; exact sr.z a h
  · rcases cas n a e with e | ⟨rfl, rfl⟩
    · rw [upd_ne fun (z : a = p) => sr.r n a e (by rw [z]; exact hp)]; exact sr.r n a e
    · rw [upd_same]; exact fun z => nomatch z
theorem nd_at {a b : Nat} {x : Addr} (nd : ρ.r.Nodup) (h : ρ.r[a]? = some x) (k : ρ.r[b]? = some x) : a = b := nd_ix nd h k
theorem SR.set {S : Store} (sr : SR K H ρ S) {n : Nat} {a : Addr} {u o : HO} {mo : MO} (e : ρ.r[n]? = some a) (ha : H a = some o) (so : Soft o) (hz : ¬ ρ.z a) (r : HoR K (upd H a u) ρ a mo) : SR K (upd H a u) ρ (S.set n mo) := by
  have mv : Mo K H ρ (upd H a u) ρ := .set ha so hz
  have cas : ∀ (k : Nat) (b : Addr) (o' : MO), ρ.r[k]? = some b → (S.set n mo)[k]? = some o' → (k = n ∧ b = a ∧ o' = mo) ∨ (k ≠ n ∧ b ≠ a ∧ S[k]? = some o') := fun k b o' e' q => by
    by_cases hk : n = k
    · subst hk
      rw [e] at e'; cases e'
      have hs : n < S.length := by
        rcases Nat.lt_or_ge n S.length with z | z
        · exact z
        · rw [List.getElem?_eq_none (by rw [List.length_set]; exact z)] at q; cases q
      rw [List.getElem?_set_self hs] at q
      exact .inl ⟨rfl, rfl, (Option.some.inj q).symm⟩
    · rw [List.getElem?_set_ne hk] at q
      exact .inr ⟨fun z => hk z.symm, fun z => hk (nd_at sr.nd e (z ▸ e')), q⟩
  refine ⟨sr.nd, by rw [List.length_set]; exact sr.len, fun k b o' e' q => ?_, fun k b o' e' q hl => ?_, fun b h => ?_, fun k b e' => ?_⟩
  · rcases cas k b o' e' q with ⟨rfl, rfl, rfl⟩ | ⟨_, hb, q⟩
    · exact r
    · exact (sr.obj k b o' e' q).mo mv (upd_ne hb)
  · rcases cas k b o' e' q with ⟨rfl, rfl, rfl⟩ | ⟨_, hb, q⟩
    · exact hz
    · exact sr.lv k b o' e' q hl
  · rw [(mv.z b h).2]; exact sr.z b h
  · by_cases hb : b = a
    · subst hb; rw [upd_same]; exact fun z => nomatch z
    · rw [upd_ne hb]; exact sr.r k b e'
/-- a list that is written -/
theorem SR.lst {S : Store} {n : Nat} {a : Addr} {ds : List R} (sr : SR K H ρ S) (e : ρ.r[n]? = some a) (h : S[n]? = some (.lst ds)) : ∃ xs, H a = some (.lst xs) ∧ RqA K H ρ xs ds ∧ ¬ ρ.z a := by
  obtain ⟨xs, hu, r⟩ := sr.obj n a _ e h
  exact ⟨xs, hu, r, sr.lv n a _ e h trivial⟩
/-- what is wanted of an outcome -/
def RO {α β : Type} (K : PySem.W.Frag) (rel : Hp → Wd → β → α → Prop) (E : XK) (H : Hp) (ρ : Wd) (o : Out α) (Q : β → Hp → Prop) : Prop := match o with
  | .ok d S' => ∀ v H' ρ', Mo K H ρ H' ρ' → SR K H' ρ' S' → rel H' ρ' v d → Q v H'
  | .exc c S' => ∀ dx H' ρ', Mo K H ρ H' ρ' → SR K H' ρ' S' → (match c.dat with
      | none => dx = none
      | some fs => ∃ a xs, dx = some a ∧ H' a = some (.xd xs) ∧ RpP K H' ρ' xs fs) → E c.cls dx H'
  | .no => False
theorem RO.mono {α β : Type} {rel : Hp → Wd → β → α → Prop} {E : XK} {o : Out α} {Q : β → Hp → Prop} (h : RO K rel E H ρ o Q) (mo : Mo K H ρ H1 ρ1) : RO K rel E H1 ρ1 o Q := by
  cases o with
  | ok d S => exact fun v H' ρ' m s r => h v H' ρ' (mo.trans m) s r
  | exc c S => exact fun dx H' ρ' m s r => h dx H' ρ' (mo.trans m) s r
  | no => exact h
theorem RO.bind {α β γ δ : Type} {relA : Hp → Wd → β → α → Prop} {rel : Hp → Wd → δ → γ → Prop} {E : XK} {o : Out α} {f : α → Store → Out γ} {Q : δ → Hp → Prop} {P : β → Hp → Prop} (h : RO K rel E H ρ (o.bind f) Q)
    (k : ∀ d S v H1 ρ1, Mo K H ρ H1 ρ1 → SR K H1 ρ1 S → relA H1 ρ1 v d → RO K rel E H1 ρ1 (f d S) Q → P v H1) : RO K relA E H ρ o P := by
  cases o with
  | ok d S => exact fun v H' ρ' m s r => k d S v H' ρ' m s r (RO.mono h m)
  | exc c S => exact h
  | no => exact h
abbrev relD (K : PySem.W.Frag) : Hp → Wd → V → R → Prop := fun H ρ v d => Rq K H ρ v d
abbrev relA (K : PySem.W.Frag) : Hp → Wd → List V → List R → Prop := fun H ρ v d => RqA K H ρ v d
abbrev relB : Hp → Wd → Bool → Bool → Prop := fun _ _ v d => v = d
def tE (K : PySem.W.Frag) (E : St → XK) (f : ME) : TE := fun σ H Q => ∃ ρ m S, SR K H ρ S ∧ EnvR K H ρ σ m ∧ RO K (relD K) (E σ) H ρ (f m S) Q
def tA (K : PySem.W.Frag) (E : St → XK) (f : MA) : TA := fun σ H Q => ∃ ρ m S, SR K H ρ S ∧ EnvR K H ρ σ m ∧ RO K (relA K) (E σ) H ρ (f m S) Q
def tT (K : PySem.W.Frag) (E : St → XK) (f : MT) : TT := fun σ H Q => ∃ ρ m S, SR K H ρ S ∧ EnvR K H ρ σ m ∧ RO K relB (E σ) H ρ (f m S) Q
def RS (K : PySem.W.Frag) (E : St → XK) (H : Hp) (ρ : Wd) (o : OutS) (D : Ends) : Prop := match o with
  | .nx m' S' => ∀ σ' H' ρ', Mo K H ρ H' ρ' → SR K H' ρ' S' → EnvR K H' ρ' σ' m' → D.nx σ' H'
  | .bk m' S' => ∀ σ' H' ρ', Mo K H ρ H' ρ' → SR K H' ρ' S' → EnvR K H' ρ' σ' m' → D.bk σ' H'
  | .ct m' S' => ∀ σ' H' ρ', Mo K H ρ H' ρ' → SR K H' ρ' S' → EnvR K H' ρ' σ' m' → D.ct σ' H'
  | .rt d S' => ∀ v H' ρ', Mo K H ρ H' ρ' → SR K H' ρ' S' → Rq K H' ρ' v d → D.rt v H'
  | .exc c m' S' => ∀ σ' dx H' ρ', Mo K H ρ H' ρ' → SR K H' ρ' S' → EnvR K H' ρ' σ' m' → (match c.dat with
      | none => dx = none
      | some fs => ∃ a xs, dx = some a ∧ H' a = some (.xd xs) ∧ RpP K H' ρ' xs fs) → E σ' c.cls dx H'
  | .no => False
def tS (K : PySem.W.Frag) (E : St → XK) (f : MS) : TS := fun D σ H => ∃ ρ m S, SR K H ρ S ∧ EnvR K H ρ σ m ∧ RS K E H ρ (f m S) D
theorem RS.mono {E : St → XK} {o : OutS} {D : Ends} (h : RS K E H ρ o D) (mo : Mo K H ρ H1 ρ1) : RS K E H1 ρ1 o D := by
  cases o with
  | nx m S => exact fun σ' H' ρ' m s r => h σ' H' ρ' (mo.trans m) s r
  | bk m S => exact fun σ' H' ρ' m s r => h σ' H' ρ' (mo.trans m) s r
  | ct m S => exact fun σ' H' ρ' m s r => h σ' H' ρ' (mo.trans m) s r
  | rt d S => exact fun σ' H' ρ' m s r => h σ' H' ρ' (mo.trans m) s r
  | exc c m S => exact fun σ' dx H' ρ' m s r => h σ' dx H' ρ' (mo.trans m) s r
  | no => exact h
/-- an expression's outcome, then a statement's -/
def Out.thenS {α : Type} (o : Out α) (m : Env) (f : α → Store → OutS) : OutS := match o with
  | .ok a S => f a S
  | .exc c S => .exc c m S
  | .no => .no
theorem RS.bind {α β : Type} {rel : Hp → Wd → β → α → Prop} {E : St → XK} {σ : St} {m : Env} {o : Out α} {f : α → Store → OutS} {D : Ends} {P : β → Hp → Prop} (er : EnvR K H ρ σ m) (h : RS K E H ρ (o.thenS m f) D)
    (k : ∀ d S v H1 ρ1, Mo K H ρ H1 ρ1 → SR K H1 ρ1 S → rel H1 ρ1 v d → EnvR K H1 ρ1 σ m → RS K E H1 ρ1 (f d S) D → P v H1) : RO K rel (E σ) H ρ o P := by
  cases o with
  | ok d S => exact fun v H' ρ' mo s r => k d S v H' ρ' mo s r (er.mo mo) (RS.mono h mo)
  | exc c S => exact fun dx H' ρ' mo s r => h σ dx H' ρ' mo s (er.mo mo) r
  | no => exact h
end
theorem PE.imp {X : Cx} {e : Expr} {t t' : TE} (h : PE X e t) (k : ∀ σ H Q, t' σ H Q → t σ H Q) : PE X e t' := ⟨fun pins s σ H Q I q => h.run pins s σ H Q I (k _ _ _ q)⟩
theorem PT.imp {X : Cx} {e : Expr} {t t' : TT} (h : PT X e t) (k : ∀ σ H Q, t' σ H Q → t σ H Q) : PT X e t' := ⟨fun pins s σ H Q I q => h.run pins s σ H Q I (k _ _ _ q)⟩
theorem PW.imp {X : Cx} {e : Expr} {t t' : TT} (h : PW X e t) (k : ∀ σ H Q, t' σ H Q → t σ H Q) : PW X e t' := ⟨fun w pins s σ H Q I q => h.run w pins s σ H Q I (k _ _ _ q)⟩
theorem PA.imp {X : Cx} {e : List Expr} {t t' : TA} (h : PA X e t) (k : ∀ σ H Q, t' σ H Q → t σ H Q) : PA X e t' := ⟨fun pos pins s σ H Q I q => h.run pos pins s σ H Q I (k _ _ _ q)⟩
theorem PS.imp {X : Cx} {e : Stmt} {t t' : TS} (h : PS X e t) (k : ∀ D σ H, t' D σ H → t D σ H) : PS X e t' := ⟨fun pins s σ H Q I q => h.run pins s σ H Q I (k _ _ _ q)⟩
theorem PSs.imp {X : Cx} {e : List Stmt} {t t' : TS} (h : PSs X e t) (k : ∀ D σ H, t' D σ H → t D σ H) : PSs X e t' := ⟨fun pins s σ H Q I q => h.run pins s σ H Q I (k _ _ _ q)⟩
/-- where a truth is wanted -/
def onBl {α : Type} (d : R) (f : Bool → Out α) : Out α := match d with
  | .v (.bl k) => f k
  | _ => .no
theorem RO.onBl {α β : Type} {K : PySem.W.Frag} {rel : Hp → Wd → β → α → Prop} {E : XK} {H : Hp} {ρ : Wd} {d : R} {v : V} {f : Bool → Out α} {Q : β → Hp → Prop} (r : Rq K H ρ v d) (h : RO K rel E H ρ (M.onBl d f) Q) : ∃ k, d = .bl k ∧ v = .bl k ∧ RO K rel E H ρ (f k) Q := by
  cases r with
  | ref e => exact h.elim
  | v r => cases r <;> first | exact (show False from h).elim | exact ⟨_, rfl, rfl, h⟩
section
variable {X : Cx} {E : St → XK} {a b c e : Expr} {es rest : List Expr} {pos : Pos} {ma mb mc : ME} {mt mu : MT} {mr : MA}
def mVar (i : Nat) : ME := fun m S => match m[i]? with
  | some (some d) => .ok d S
  | _ => .no
def mC (d : R) : ME := fun _ S => .ok d S
theorem pm_var (i : Nat) {x : Str} {pos : Pos} (hN : X.N[i]? = some x := by rfl) (hv : Vis X.env.scope x := by first | exact Or.inl rfl | exact Or.inr (Or.inl rfl) | exact Or.inr (Or.inr rfl)) (hd : (x == ("__debug__" : Str)) = false := by decide)
    (hcd : (x == ("__classdict__" : Str)) = false := by decide) : PE X (.Name x pos) (tE X.K E (mVar i)) := by
  refine PE.imp (pe_var hN hv hd hcd) ?_
  rintro σ H Q ⟨ρ, m, S, sr, er, h⟩
  unfold mVar at h
  split at h
  · rename_i d hd
    obtain ⟨v, e, r⟩ := er.get i d hd
    exact ⟨v, e, h v H ρ .refl sr r⟩
  · exact h.elim
theorem pm_c {v : V} {d : D} (h : PE X e (tC v)) (r : ∀ H ρ, Rp X.K H ρ v d) : PE X e (tE X.K E (mC (.v d))) := by
  refine PE.imp h ?_
  rintro σ H Q ⟨ρ, m, S, sr, er, h⟩
  exact h v H ρ .refl sr (.v (r _ _))
theorem pm_int {i j pos} : PE X (.Constant (.int i) j pos) (tE X.K E (mC (.int i))) := pm_c pe_int fun _ _ => .int i
theorem pm_bl {b j pos} : PE X (.Constant (.bool b) j pos) (tE X.K E (mC (.bl b))) := pm_c pe_bl fun _ _ => .bl b
theorem pm_non {j pos} : PE X (.Constant .none j pos) (tE X.K E (mC .non)) := pm_c pe_non fun _ _ => .non
theorem pm_str {x j pos} : PE X (.Constant (.str x) j pos) (tE X.K E (mC (.str x))) := pm_c pe_str fun _ _ => .str x
def rM (K : PySem.W.Frag) (g : R → R → Store → Out R) : R2 := fun x y H Q => ∃ (E : XK) (ρ : Wd) (S : Store) (d e : R), SR K H ρ S ∧ Rq K H ρ x d ∧ Rq K H ρ y e ∧ RO K (relD K) E H ρ (g d e S) Q
def rM1 (K : PySem.W.Frag) (g : R → Store → Out R) : V → Hp → VK → Prop := fun x H Q => ∃ (E : XK) (ρ : Wd) (S : Store) (d : R), SR K H ρ S ∧ Rq K H ρ x d ∧ RO K (relD K) E H ρ (g d S) Q
def rMA (K : PySem.W.Frag) (g : List R → Store → Out R) : List V → Hp → VK → Prop := fun xs H Q => ∃ (E : XK) (ρ : Wd) (S : Store) (ds : List R), SR K H ρ S ∧ RqA K H ρ xs ds ∧ RO K (relD K) E H ρ (g ds S) Q
def rMM (K : PySem.W.Frag) (g : R → List R → Store → Out R) : V → List V → Hp → VK → Prop := fun x xs H Q => ∃ (E : XK) (ρ : Wd) (S : Store) (d : R) (ds : List R), SR K H ρ S ∧ Rq K H ρ x d ∧ RqA K H ρ xs ds ∧ RO K (relD K) E H ρ (g d ds S) Q
def OpM (X : Cx) (f : Value → Value → Sem Value) (g : R → R → Store → Out R) : Prop := OpR X f (rM X.K g)
def UnM (X : Cx) (f : Value → Sem Value) (g : R → Store → Out R) : Prop := UnR X f (rM1 X.K g)
def CaM (X : Cx) (f : Value) (g : List R → Store → Out R) : Prop := CallR X f (rMA X.K g)
def mBin (g : R → R → Store → Out R) (a b : ME) : ME := fun m S => (a m S).bind fun x S1 => (b m S1).bind fun y S2 => g x y S2
def mUn (g : R → Store → Out R) (a : ME) : ME := fun m S => (a m S).bind fun x S1 => g x S1
theorem tOp_of {g : R → R → Store → Out R} {σ : St} {H : Hp} {Q : VK} (h : tE X.K E (mBin g ma mb) σ H Q) : tOp (rM X.K g) (tE X.K E ma) (tE X.K E mb) σ H Q := by
  obtain ⟨ρ, m, S, sr, er, h⟩ := h
  refine ⟨ρ, m, S, sr, er, RO.bind h fun d S1 v H1 ρ1 m1 s1 r1 h1 => ?_⟩
  refine ⟨ρ1, m, S1, s1, er.mo m1, RO.bind h1 fun e S2 w H2 ρ2 m2 s2 r2 h2 => ?_⟩
  exact ⟨_, ρ2, S2, d, e, s2, r1.mo m2, r2, h2⟩
theorem pm_bin {op : Operator} {g : R → R → Store → Out R} (ho : OpM X (binaryOp op) g) (ha : PE X a (tE X.K E ma)) (hb : PE X b (tE X.K E mb)) : PE X (.BinOp a op b pos) (tE X.K E (mBin g ma mb)) :=
  PE.imp (pe_op ho ha hb) fun _ _ _ h => tOp_of h
theorem pm_un {op : UnaryOp} {g : R → Store → Out R} (ho : UnM X (unaryOp op) g) (ha : PE X a (tE X.K E ma)) : PE X (.UnaryOp op a pos) (tE X.K E (mUn g ma)) := by
  refine PE.imp (pe_un ho ha) ?_
  rintro σ H Q ⟨ρ, m, S, sr, er, h⟩
  exact ⟨ρ, m, S, sr, er, RO.bind h fun d S1 v H1 ρ1 m1 s1 r1 h1 => ⟨_, ρ1, S1, d, s1, r1, h1⟩⟩
theorem pm_cmp {op : CmpOp} {g : R → R → Store → Out R} (ho : OpM X (compareOp op) g) (ha : PE X a (tE X.K E ma)) (hb : PE X b (tE X.K E mb)) (hm : behindInMarks op b = false := by first | exact nomark _ | rfl) : PE X (.Compare a [op] [b] pos) (tE X.K E (mBin g ma mb)) :=
  PE.imp (pe_cmpR ho ha hb hm) fun _ _ _ h => tOp_of h
def mtB (f : ME) : MT := fun m S => (f m S).bind fun d S1 => onBl d fun k => .ok k S1
theorem RO.bl {K : PySem.W.Frag} {E : XK} {H : Hp} {ρ : Wd} {o : Out R} {Q : Bool → Hp → Prop} (h : RO K relB E H ρ (o.bind fun d S1 => M.onBl d fun k => .ok k S1) Q) : RO K (relD K) E H ρ o fun x H' => ∃ k, x = .bl k ∧ Q k H' := by
  refine RO.bind h fun d S1 v H1 ρ1 m1 s1 r1 h1 => ?_
  obtain ⟨k, _, rfl, h1⟩ := RO.onBl r1 h1
  exact ⟨_, rfl, h1 _ H1 ρ1 .refl s1 rfl⟩
theorem tE.bl {K : PySem.W.Frag} {f : ME} {σ : St} {H : Hp} {Q : Bool → Hp → Prop} (h : tT K E (mtB f) σ H Q) : tE K E f σ H fun x H' => ∃ k, x = .bl k ∧ Q k H' := by
  obtain ⟨ρ, m, S, sr, er, h⟩ := h
  exact ⟨ρ, m, S, sr, er, RO.bl h⟩
theorem ptm_cmp {op : CmpOp} {g : R → R → Store → Out R} (ho : OpM X (compareOp op) g) (ha : PE X a (tE X.K E ma)) (hb : PE X b (tE X.K E mb)) (hm : behindInMarks op b = false := by first | exact nomark _ | rfl) : PT X (.Compare a [op] [b] pos) (tT X.K E (mtB (mBin g ma mb))) :=
  PT.imp (pt_cmpR ho ha hb hm) fun _ _ _ h => tOp_of (tE.bl h)
/-- a op b op' c -/
def mChain (g g' : R → R → Store → Out R) (a b c : ME) : ME := fun m S => (a m S).bind fun x S1 => (b m S1).bind fun y S2 => (g x y S2).bind fun z S3 => onBl z fun k => match k with
  | true => (c m S3).bind fun w S4 => g' y w S4
  | false => .ok (.bl false) S3
theorem tChain_of {g g' : R → R → Store → Out R} {σ : St} {H : Hp} {Q : VK} (h : tE X.K E (mChain g g' ma mb mc) σ H Q) : tChain (rM X.K g) (rM X.K g') (tE X.K E ma) (tE X.K E mb) (tE X.K E mc) σ H Q := by
  obtain ⟨ρ, m, S, sr, er, h⟩ := h
  refine ⟨ρ, m, S, sr, er, RO.bind h fun d S1 v H1 ρ1 m1 s1 r1 h1 => ?_⟩
  refine ⟨ρ1, m, S1, s1, er.mo m1, RO.bind h1 fun e S2 w H2 ρ2 m2 s2 r2 h2 => ?_⟩
  refine ⟨_, ρ2, S2, d, e, s2, r1.mo m2, r2, RO.bind h2 fun z S3 zv H3 ρ3 m3 s3 r3 h3 => ?_⟩
  obtain ⟨k, _, rfl, h3⟩ := RO.onBl r3 h3
  refine ⟨k, rfl, ?_⟩
  cases k with
  | false => exact h3 _ H3 ρ3 .refl s3 (.bl _)
  | true => exact ⟨ρ3, m, S3, s3, ((er.mo m1).mo m2).mo m3, RO.bind h3 fun c S4 cv H4 ρ4 m4 s4 r4 h4 => ⟨_, ρ4, S4, e, c, s4, (r2.mo m3).mo m4, r4, h4⟩⟩
theorem pm_chain {op op' : CmpOp} {g g' : R → R → Store → Out R} (ho : OpM X (compareOp op) g) (ho' : OpM X (compareOp op') g') (ha : PE X a (tE X.K E ma)) (hb : PE X b (tE X.K E mb)) (hc : PE X c (tE X.K E mc)) (hm : lastMarks [op, op'] [b, c] = false := by with_unfolding_all rfl) :
    PE X (.Compare a [op, op'] [b, c] pos) (tE X.K E (mChain g g' ma mb mc)) := PE.imp (pe_chain ho ho' ha hb hc hm) fun _ _ _ h => tChain_of h
theorem ptm_chain {op op' : CmpOp} {g g' : R → R → Store → Out R} (ho : OpM X (compareOp op) g) (ho' : OpM X (compareOp op') g') (ha : PE X a (tE X.K E ma)) (hb : PE X b (tE X.K E mb)) (hc : PE X c (tE X.K E mc)) (hm : lastMarks [op, op'] [b, c] = false := by with_unfolding_all rfl) :
    PT X (.Compare a [op, op'] [b, c] pos) (tT X.K E (mtB (mChain g g' ma mb mc))) := PT.imp (pt_chain ho ho' ha hb hc hm) fun _ _ _ h => tChain_of (tE.bl h)
/-- the items of a sequence -/
def seqC : MO → Option (List R)
  | .lst ds => some ds
  | .fz (.lst ds) => some (ds.map .v)
  | _ => none
def lsOf (S : Store) (n : Nat) : Option (List R) := S[n]?.bind seqC
/-- the items of a list, or a tuple -/
def seqOf (S : Store) : R → Option (List R)
  | .v (.tup ds) => some (ds.map .v)
  | .v (.lst ds) => some (ds.map .v)
  | .v (.kl ds) => some (ds.map .v)
  | .v (.kt ds) => some (ds.map .v)
  | .v _ => none
  | .ref n => lsOf S n
/-- of a list alone -/
def lstOf (S : Store) : R → Option (List R)
  | .v (.lst ds) => some (ds.map .v)
  | .v (.kl ds) => some (ds.map .v)
  | .v _ => none
  | .ref n => lsOf S n
theorem SR.ls {K : PySem.W.Frag} {H : Hp} {ρ : Wd} {S : Store} {n : Nat} {a : Addr} {ds : List R} (sr : SR K H ρ S) (e : ρ.r[n]? = some a) (h : lsOf S n = some ds) : ∃ xs, SqL K H a xs ∧ RqA K H ρ xs ds := by
  unfold lsOf at h
  obtain ⟨o, h1, h2⟩ := Option.bind_eq_some_iff.mp h
  have q := sr.obj n a o e h1
  unfold seqC at h2
  split at h2
  · cases h2
    obtain ⟨xs, hu, r⟩ := q
    exact ⟨xs, .inl (.inl hu), r⟩
  · cases h2
    have q : Rp K H ρ (.ref a) (.lst _) := q
    cases q with
    | lst hs ra => exact ⟨_, hs.sq, ra.q⟩
  · cases h2
theorem SR.seq {K : PySem.W.Frag} {H : Hp} {ρ : Wd} {S : Store} {v : V} {d : R} {ds : List R} (sr : SR K H ρ S) (r : Rq K H ρ v d) (e : seqOf S d = some ds) : ∃ p xs, v = .ref p ∧ (SqL K H p xs ∨ SqT K H p xs) ∧ RqA K H ρ xs ds := by
  cases r with
  | v r =>
    cases r <;> first | (cases e; done) | skip
    case tup hs ra => cases e; exact ⟨_, _, rfl, .inr (sqT_at hs), ra.q⟩
    case kt hs ra => cases e; exact ⟨_, _, rfl, .inr hs.sq, ra.q⟩
    case lst hs ra => cases e; exact ⟨_, _, rfl, .inl hs.sq, ra.q⟩
    case kl hs ra => cases e; exact ⟨_, _, rfl, .inl hs.sq, ra.q⟩
  | ref ea =>
    obtain ⟨xs, hq, ra⟩ := sr.ls ea e
    exact ⟨_, _, rfl, .inl hq, ra⟩
theorem SR.lsD {K : PySem.W.Frag} {H : Hp} {ρ : Wd} {S : Store} {v : V} {d : R} {ds : List R} (sr : SR K H ρ S) (r : Rq K H ρ v d) (h : lstOf S d = some ds) : ∃ a xs, v = .ref a ∧ SqL K H a xs ∧ RqA K H ρ xs ds := by
  cases r with
  | v r =>
    cases r <;> first | (cases h; done) | skip
    case lst hs ra => cases h; exact ⟨_, _, rfl, hs.sq, ra.q⟩
    case kl hs ra => cases h; exact ⟨_, _, rfl, hs.sq, ra.q⟩
  | ref ea =>
    obtain ⟨xs, q, r⟩ := sr.ls ea h
    exact ⟨_, _, rfl, q, r⟩
def truM (d : R) (S : Store) : Out Bool := match d with
  | .v .non => .ok false S
  | .v (.bl b) => .ok b S
  | .v (.int i) => .ok (i != 0) S
  | .v (.str x) => if x.length ≤ sizeLine then .ok ((x.length : Int) != 0) S else .no
  | .v (.tup ds) => .ok (!ds.isEmpty) S
  | .v (.lst ds) => .ok (!ds.isEmpty) S
  | .v (.kl ds) => .ok (!ds.isEmpty) S
  | .v (.dct ks _) => .ok (!ks.isEmpty) S
  | .v _ => .no
  | .ref n => match S[n]? with
    | some (.lst ds) => .ok (!ds.isEmpty) S
    | some (.fz (.lst ds)) => .ok (!ds.isEmpty) S
    | some (.dK kvs) => .ok (!kvs.isEmpty) S
    | _ => .no
def mtTru (f : ME) : MT := fun m S => (f m S).bind truM
theorem isEmpty_len {α β : Type} {xs : List α} {ys : List β} (h : xs.length = ys.length) : xs.isEmpty = ys.isEmpty := by
  cases xs <;> cases ys <;> first | rfl | simp at h
theorem tru_of {K : PySem.W.Frag} {E : XK} {H : Hp} {ρ : Wd} {S : Store} {v : V} {d : R} {Q : Bool → Hp → Prop} (sr : SR K H ρ S) (r : Rq K H ρ v d) (h : RO K relB E H ρ (truM d S) Q) : ∃ k, TruV K v H k ∧ Q k H := by
  cases r with
  | v r =>
    cases r with
    | non => exact ⟨_, rfl, h _ H ρ .refl sr rfl⟩
    | bl b => exact ⟨_, rfl, h _ H ρ .refl sr rfl⟩
    | int i => exact ⟨_, rfl, h _ H ρ .refl sr rfl⟩
    | str x =>
      have h : RO K relB E H ρ (if x.length ≤ sizeLine then .ok ((x.length : Int) != 0) S else .no) Q := h
      split at h
      · exact ⟨_, ⟨by assumption, rfl⟩, h _ H ρ .refl sr rfl⟩
      · exact h.elim
    | ty n => exact h.elim
    | txt x hx => exact h.elim
    | kt hs ha => exact h.elim
    | tup hs ha => exact ⟨_, .inr (.inl ⟨_, sqT_at hs, rfl⟩), h _ H ρ .refl sr (by rw [isEmpty_len ha.length])⟩
    | lst hs ha => exact ⟨_, .inl ⟨_, hs.sq, rfl⟩, h _ H ρ .refl sr (by rw [isEmpty_len ha.length])⟩
    | kl hs ha => exact ⟨_, .inl ⟨_, hs.sq, rfl⟩, h _ H ρ .refl sr (by rw [isEmpty_len ha.length])⟩
    | dct hz hd hl ha => exact ⟨_, .inr (.inr ⟨_, hd, rfl⟩), h _ H ρ .refl sr (by rename_i ks xs ds; rw [show (ks.zip xs).isEmpty = ks.isEmpty from isEmpty_len (by rw [List.length_zip, ← hl, Nat.min_self])])⟩
  | @ref a n e =>
    unfold truM at h
    simp only at h
    split at h
    · rename_i ds hs
      obtain ⟨xs, q, r⟩ := sr.ls (ds := ds) e (by unfold lsOf; rw [hs]; rfl)
      exact ⟨_, .inl ⟨xs, q, rfl⟩, h _ H ρ .refl sr (by rw [isEmpty_len r.length])⟩
    · rename_i ds hs
      obtain ⟨xs, q, r⟩ := sr.ls (ds := ds.map .v) e (by unfold lsOf; rw [hs]; rfl)
      exact ⟨_, .inl ⟨xs, q, rfl⟩, h _ H ρ .refl sr (by rw [show xs.isEmpty = ds.isEmpty from isEmpty_len (by rw [r.length, List.length_map])])⟩
    · rename_i kvs hs
      obtain ⟨u, hu, r⟩ := sr.obj n a _ e hs
      exact ⟨_, .inr (.inr ⟨_, hu, rfl⟩), h _ H ρ .refl sr (by rw [isEmpty_len (Paired.length r)])⟩
    · exact h.elim
theorem ptm_val (ha : PE X a (tE X.K E ma)) (he : ∀ whole, isTrue a X.env whole = (do let v ← whole; standAt a.pos; holding [v] (truthy v)) := by intro _; rfl) : PT X a (tT X.K E (mtTru ma)) := by
  refine PT.imp (pt_truth ha he) ?_
  rintro σ H Q ⟨ρ, m, S, sr, er, h⟩
  exact ⟨ρ, m, S, sr, er, RO.bind h fun d S1 v H1 ρ1 m1 s1 r1 h1 => tru_of s1 r1 h1⟩
def mtAnd (a b : MT) : MT := fun m S => (a m S).bind fun k S1 => match k with
  | true => b m S1
  | false => .ok false S1
def mtOr (a b : MT) : MT := fun m S => (a m S).bind fun k S1 => match k with
  | true => .ok true S1
  | false => b m S1
def mtNot (a : MT) : MT := fun m S => (a m S).bind fun k S1 => .ok (!k) S1
theorem ptm_not (ha : PT X a (tT X.K E mt)) : PT X (.UnaryOp .Not a pos) (tT X.K E (mtNot mt)) := by
  refine PT.imp (pt_not ha) ?_
  rintro σ H Q ⟨ρ, m, S, sr, er, h⟩
  exact ⟨ρ, m, S, sr, er, RO.bind h fun d S1 v H1 ρ1 m1 s1 r1 h1 => by subst r1; exact h1 _ H1 ρ1 .refl s1 rfl⟩
theorem pwm_and1 (ha : PT X a (tT X.K E mt)) : PW X (.BoolOp .And [a] pos) (tT X.K E mt) := pw_and1 ha
theorem pwm_or1 (ha : PT X a (tT X.K E mt)) : PW X (.BoolOp .Or [a] pos) (tT X.K E mt) := pw_or1 ha
theorem pwm_and (ha : PT X a (tT X.K E mt)) (hb : PW X (.BoolOp .And (b :: rest) pos) (tT X.K E mu)) : PW X (.BoolOp .And (a :: b :: rest) pos) (tT X.K E (mtAnd mt mu)) := by
  refine PW.imp (pw_and ha hb) ?_
  rintro σ H Q ⟨ρ, m, S, sr, er, h⟩
  refine ⟨ρ, m, S, sr, er, RO.bind h fun d S1 v H1 ρ1 m1 s1 r1 h1 => ?_⟩
  subst r1
  cases v with
  | true => exact iteT ⟨ρ1, m, S1, s1, er.mo m1, h1⟩
  | false => exact iteF (h1 _ H1 ρ1 .refl s1 rfl)
theorem pwm_or (ha : PT X a (tT X.K E mt)) (hb : PW X (.BoolOp .Or (b :: rest) pos) (tT X.K E mu)) : PW X (.BoolOp .Or (a :: b :: rest) pos) (tT X.K E (mtOr mt mu)) := by
  refine PW.imp (pw_or ha hb) ?_
  rintro σ H Q ⟨ρ, m, S, sr, er, h⟩
  refine ⟨ρ, m, S, sr, er, RO.bind h fun d S1 v H1 ρ1 m1 s1 r1 h1 => ?_⟩
  subst r1
  cases v with
  | true => exact iteT (h1 _ H1 ρ1 .refl s1 rfl)
  | false => exact iteF ⟨ρ1, m, S1, s1, er.mo m1, h1⟩
/-- and, or, not as values (bools ahead of the last) -/
def mAnd (a b : ME) : ME := fun m S => (a m S).bind fun k S1 => onBl k fun k => match k with
  | true => b m S1
  | false => .ok (.bl false) S1
def mOr (a b : ME) : ME := fun m S => (a m S).bind fun k S1 => onBl k fun k => match k with
  | true => .ok (.bl true) S1
  | false => b m S1
def mNot (a : ME) : ME := fun m S => (a m S).bind fun k S1 => onBl k fun k => .ok (.bl (!k)) S1
theorem pm_one {op} (h : PE X a (tE X.K E ma)) : PE X (.BoolOp op [a] pos) (tE X.K E ma) := pe_one h
theorem pm_and (ha : PE X a (tE X.K E ma)) (hb : PE X (.BoolOp .And (b :: rest) pos) (tE X.K E mb)) : PE X (.BoolOp .And (a :: b :: rest) pos) (tE X.K E (mAnd ma mb)) := by
  refine PE.imp (pe_and ha hb) ?_
  rintro σ H Q ⟨ρ, m, S, sr, er, h⟩
  refine ⟨ρ, m, S, sr, er, RO.bind h fun d S1 v H1 ρ1 m1 s1 r1 h1 => ?_⟩
  obtain ⟨k, _, rfl, h1⟩ := RO.onBl r1 h1
  refine ⟨k, rfl, ?_⟩
  cases k with
  | true => exact iteT ⟨ρ1, m, S1, s1, er.mo m1, h1⟩
  | false => exact iteF (h1 _ H1 ρ1 .refl s1 (.bl _))
theorem pm_or (ha : PE X a (tE X.K E ma)) (hb : PE X (.BoolOp .Or (b :: rest) pos) (tE X.K E mb)) : PE X (.BoolOp .Or (a :: b :: rest) pos) (tE X.K E (mOr ma mb)) := by
  refine PE.imp (pe_or ha hb) ?_
  rintro σ H Q ⟨ρ, m, S, sr, er, h⟩
  refine ⟨ρ, m, S, sr, er, RO.bind h fun d S1 v H1 ρ1 m1 s1 r1 h1 => ?_⟩
  obtain ⟨k, _, rfl, h1⟩ := RO.onBl r1 h1
  refine ⟨k, rfl, ?_⟩
  cases k with
  | true => exact iteT (h1 _ H1 ρ1 .refl s1 (.bl _))
  | false => exact iteF ⟨ρ1, m, S1, s1, er.mo m1, h1⟩
theorem pm_not (ha : PE X a (tE X.K E ma)) : PE X (.UnaryOp .Not a pos) (tE X.K E (mNot ma)) := by
  refine PE.imp (pe_not ha) ?_
  rintro σ H Q ⟨ρ, m, S, sr, er, h⟩
  refine ⟨ρ, m, S, sr, er, RO.bind h fun d S1 v H1 ρ1 m1 s1 r1 h1 => ?_⟩
  obtain ⟨k, _, rfl, h1⟩ := RO.onBl r1 h1
  exact ⟨_, rfl, h1 _ H1 ρ1 .refl s1 (.bl _)⟩
def mIf (t : MT) (a b : ME) : ME := fun m S => (t m S).bind fun k S1 => match k with
  | true => a m S1
  | false => b m S1
theorem pm_ifExp (hc : PT X c (tT X.K E mt)) (ha : PE X a (tE X.K E ma)) (hb : PE X b (tE X.K E mb)) : PE X (.IfExp c a b pos) (tE X.K E (mIf mt ma mb)) := by
  refine PE.imp (pe_ifExp hc ha hb) ?_
  rintro σ H Q ⟨ρ, m, S, sr, er, h⟩
  refine ⟨ρ, m, S, sr, er, RO.bind h fun d S1 v H1 ρ1 m1 s1 r1 h1 => ?_⟩
  subst r1
  cases v with
  | true => exact iteT ⟨ρ1, m, S1, s1, er.mo m1, h1⟩
  | false => exact iteF ⟨ρ1, m, S1, s1, er.mo m1, h1⟩
def mNil : MA := fun _ S => .ok [] S
def mCons (a : ME) (r : MA) : MA := fun m S => (a m S).bind fun d S1 => (r m S1).bind fun ds S2 => .ok (d :: ds) S2
theorem pam_nil : PA X [] (tA X.K E mNil) := by
  refine PA.imp pa_nil ?_
  rintro σ H Q ⟨ρ, m, S, sr, er, h⟩
  exact h _ H ρ .refl sr .nil
theorem pam_cons (ha : PE X e (tE X.K E ma)) (hr : PA X es (tA X.K E mr)) (hs : starEach (e :: es) X.env = (false, eval e X.env) :: starEach es X.env := by rfl) : PA X (e :: es) (tA X.K E (mCons ma mr)) := by
  refine PA.imp (pa_cons ha hr hs) ?_
  rintro σ H Q ⟨ρ, m, S, sr, er, h⟩
  refine ⟨ρ, m, S, sr, er, RO.bind h fun d S1 v H1 ρ1 m1 s1 r1 h1 => ?_⟩
  refine ⟨ρ1, m, S1, s1, er.mo m1, RO.bind h1 fun ds S2 vs H2 ρ2 m2 s2 r2 h2 => ?_⟩
  exact h2 _ H2 ρ2 .refl s2 (.cons (r1.mo m2) r2)
mutual
def frz : Nat → Store → R → Option (D × Store)
  | _, S, .v d => some (d, S)
  | 0, _, .ref _ => none
  | k + 1, S, .ref n => match S[n]? with
    | some (.fz d) => some (d, S)
    | some (.lst rs) => (frzA k S rs).bind fun p => some (.lst p.1, p.2.set n (.fz (.lst p.1)))
    | some (.dK kvs) => (frzA k S (kvs.map (·.2))).bind fun p => some (.dct (kvs.map (·.1)) p.1, p.2.set n (.fz (.dct (kvs.map (·.1)) p.1)))
    | _ => none
  termination_by k _ _ => (k, 0)
def frzA : Nat → Store → List R → Option (List D × Store)
  | _, S, [] => some ([], S)
  | k, S, r :: rs => (frz k S r).bind fun p => (frzA k p.2 rs).bind fun q => some (p.1 :: q.1, q.2)
  termination_by k _ rs => (k, rs.length + 1)
end
theorem frz_v (k : Nat) (S : Store) (d : D) : frz k S (.v d) = some (d, S) := by cases k <;> simp [frz]
theorem frzA_map (k : Nat) (S : Store) : ∀ ds : List D, frzA k S (ds.map .v) = some (ds, S)
  | [] => by simp [frzA]
  | d :: ds => by simp [frzA, frz_v, frzA_map k S ds]
theorem SR.freeze {K : PySem.W.Frag} {H : Hp} {ρ : Wd} {S : Store} {n : Nat} {a : Addr} {d : D} (sr : SR K H ρ S) (e : ρ.r[n]? = some a) (h : Rp K H ⟨ρ.r, fun b => ρ.z b ∨ b = a⟩ (.ref a) d) :
    SR K H ⟨ρ.r, fun b => ρ.z b ∨ b = a⟩ (S.set n (.fz d)) ∧ Mo K H ρ H ⟨ρ.r, fun b => ρ.z b ∨ b = a⟩ := by
  have mo : Mo K H ρ H ⟨ρ.r, fun b => ρ.z b ∨ b = a⟩ := ⟨fun _ _ h => h, fun _ _ h => h, fun _ _ h => h, fun b h => ⟨.inl h, rfl⟩⟩
  have cas : ∀ (k : Nat) (b : Addr) (o' : MO), ρ.r[k]? = some b → (S.set n (.fz d))[k]? = some o' → (k = n ∧ b = a ∧ o' = .fz d) ∨ (k ≠ n ∧ b ≠ a ∧ S[k]? = some o') := fun k b o' e' q => by
    by_cases hk : n = k
    · subst hk
      rw [e] at e'; cases e'
      have hs : n < S.length := by
        rcases Nat.lt_or_ge n S.length with z | z
        · exact z
        · rw [List.getElem?_eq_none (by rw [List.length_set]; exact z)] at q; cases q
      rw [List.getElem?_set_self hs] at q
      exact .inl ⟨rfl, rfl, (Option.some.inj q).symm⟩
    · rw [List.getElem?_set_ne hk] at q
      exact .inr ⟨fun z => hk z.symm, fun z => hk (nd_at sr.nd e (z ▸ e')), q⟩
  refine ⟨⟨sr.nd, by rw [List.length_set]; exact sr.len, fun k b o' e' q => ?_, fun k b o' e' q hl => ?_, fun b h => ?_, sr.r⟩, mo⟩
  · rcases cas k b o' e' q with ⟨rfl, rfl, rfl⟩ | ⟨_, hb, q⟩
    · exact h
    · exact (sr.obj k b o' e' q).mo mo rfl
  · rcases cas k b o' e' q with ⟨rfl, rfl, rfl⟩ | ⟨_, hb, q⟩
    · exact hl.elim
    · rintro (z | z)
      · exact sr.lv k b o' e' q hl z
      · exact hb z
  · rcases h with h | h
    · exact sr.z b h
    · subst h; exact sr.r n b e
mutual
theorem frz_ok {K : PySem.W.Frag} {H : Hp} : ∀ (k : Nat) (S : Store) (r : R) (d : D) (S' : Store) (ρ : Wd) (v : V), frz k S r = some (d, S') → SR K H ρ S → Rq K H ρ v r → ∃ z', SR K H ⟨ρ.r, z'⟩ S' ∧ Mo K H ρ H ⟨ρ.r, z'⟩ ∧ Rp K H ⟨ρ.r, z'⟩ v d
  | k, S, .v d, d', S', ρ, v, e, sr, r => by
    rw [frz_v] at e
    cases e
    cases r with
    | v r => exact ⟨ρ.z, sr, .refl, r⟩
  | 0, S, .ref n, d', S', ρ, v, e, sr, r => by simp [frz] at e
  | k + 1, S, .ref n, d', S', ρ, v, e, sr, r => by
    cases r with
    | @ref a _ ea =>
      unfold frz at e
      split at e
      · rename_i d hd
        cases e
        exact ⟨ρ.z, sr, .refl, sr.obj n a _ ea hd⟩
      · rename_i rs hd
        obtain ⟨⟨ds, S1⟩, e1, e2⟩ := Option.bind_eq_some_iff.mp e
        cases e2
        obtain ⟨xs, hu, ra⟩ := sr.obj n a _ ea hd
        obtain ⟨z1, s1, m1, r1⟩ := frzA_ok k S rs ds S1 ρ xs e1 sr ra
        have rp : Rp K H ⟨ρ.r, fun b => z1 b ∨ b = a⟩ (.ref a) (.lst ds) := .lst ⟨.inr rfl, hu⟩ (r1.mo ⟨fun _ _ h => h, fun _ _ h => h, fun _ _ h => h, fun b h => ⟨.inl h, rfl⟩⟩)
        obtain ⟨s2, m2⟩ := s1.freeze (n := n) (a := a) (d := .lst ds) ea rp
        exact ⟨_, s2, m1.trans m2, rp⟩
      · rename_i kvs hd
        obtain ⟨⟨ds, S1⟩, e1, e2⟩ := Option.bind_eq_some_iff.mp e
        cases e2
        obtain ⟨xs, hu, ra⟩ := sr.obj n a _ ea hd
        have ks : ∀ {xs : List (Key × V)} {kvs : List (Key × R)}, RpP K H ρ xs kvs → kvs.map (·.1) = xs.map (·.1) ∧ RqA K H ρ (xs.map (·.2)) (kvs.map (·.2)) := by
          intro xs kvs h
          induction h with
          | nil => exact ⟨rfl, .nil⟩
          | cons h1 h2 ih => exact ⟨by simp [h1.1, ih.1], .cons h1.2 ih.2⟩
        obtain ⟨k1, k2⟩ := ks ra
        obtain ⟨z1, s1, m1, r1⟩ := frzA_ok k S _ ds S1 ρ _ e1 sr k2
        have hz : xs = (kvs.map (·.1)).zip (xs.map (·.2)) := by
          rw [k1]
          clear hu ra k1 k2 r1
          induction xs with
          | nil => rfl
          | cons x xs ih => simp [← ih]
        have rp : Rp K H ⟨ρ.r, fun b => z1 b ∨ b = a⟩ (.ref a) (.dct (kvs.map (·.1)) ds) := .dct (.inr rfl) (by rw [← hz]; exact hu) (by rw [k1]; simp) (r1.mo ⟨fun _ _ h => h, fun _ _ h => h, fun _ _ h => h, fun b h => ⟨.inl h, rfl⟩⟩)
        obtain ⟨s2, m2⟩ := s1.freeze (n := n) (a := a) (d := .dct (kvs.map (·.1)) ds) ea rp
        exact ⟨_, s2, m1.trans m2, rp⟩
      · cases e
  termination_by k _ _ => (k, 0)
theorem frzA_ok {K : PySem.W.Frag} {H : Hp} : ∀ (k : Nat) (S : Store) (rs : List R) (ds : List D) (S' : Store) (ρ : Wd) (vs : List V), frzA k S rs = some (ds, S') → SR K H ρ S → RqA K H ρ vs rs → ∃ z', SR K H ⟨ρ.r, z'⟩ S' ∧ Mo K H ρ H ⟨ρ.r, z'⟩ ∧ RpA K H ⟨ρ.r, z'⟩ vs ds
  | k, S, [], ds, S', ρ, vs, e, sr, r => by
    unfold frzA at e
    cases e
    cases r
    exact ⟨ρ.z, sr, .refl, .nil⟩
  | k, S, r0 :: rs, ds, S', ρ, vs, e, sr, r => by
    unfold frzA at e
    obtain ⟨⟨d, S1⟩, e1, e2⟩ := Option.bind_eq_some_iff.mp e
    obtain ⟨⟨ds', S2⟩, e3, e4⟩ := Option.bind_eq_some_iff.mp e2
    cases e4
    cases r with
    | cons ra rb =>
      obtain ⟨z1, s1, m1, r1⟩ := frz_ok k S r0 d S1 ρ _ e1 sr ra
      obtain ⟨z2, s2, m2, r2⟩ := frzA_ok k S1 rs ds' S2 ⟨ρ.r, z1⟩ _ e3 s1 (RqA.mo rb m1)
      exact ⟨z2, s2, m1.trans m2, .cons (r1.mo m2) r2⟩
  termination_by k _ rs => (k, rs.length + 1)
end
def frzO {α : Type} (S : Store) (rs : List R) (f : List D → Store → Out α) : Out α := match frzA 8 S rs with
  | some p => f p.1 p.2
  | none => .no
theorem RO.frz {α β : Type} {K : PySem.W.Frag} {rel : Hp → Wd → β → α → Prop} {E : XK} {H : Hp} {ρ : Wd} {S : Store} {rs : List R} {vs : List V} {f : List D → Store → Out α} {Q : β → Hp → Prop} (sr : SR K H ρ S) (r : RqA K H ρ vs rs) (h : RO K rel E H ρ (frzO S rs f) Q) :
    ∃ ds S' ρ', SR K H ρ' S' ∧ Mo K H ρ H ρ' ∧ RpA K H ρ' vs ds ∧ RO K rel E H ρ' (f ds S') Q := by
  unfold frzO at h
  split at h
  · rename_i p e
    obtain ⟨z', s1, m1, r1⟩ := frzA_ok 8 S rs p.1 p.2 ρ vs e sr r
    exact ⟨_, _, _, s1, m1, r1, RO.mono h m1⟩
  · exact h.elim
/-- a new tuple; a new list that is a cell, one by value -/
def mTup (r : MA) : ME := fun m S => (r m S).bind fun rs S1 => frzO S1 rs fun ds S2 => if ds.length ≤ sizeLine then .ok (.tup ds) S2 else .no
def mLst (r : MA) : ME := fun m S => (r m S).bind fun ds S1 => if ds.length ≤ sizeLine then .ok (.ref S1.length) (S1 ++ [.lst ds]) else .no
def mLstV (r : MA) : ME := fun m S => (r m S).bind fun rs S1 => frzO S1 rs fun ds S2 => if ds.length ≤ sizeLine then .ok (.lst ds) S2 else .no
/-- a new list -/
theorem RO.lst {K : PySem.W.Frag} {E : XK} {H : Hp} {ρ : Wd} {S : Store} {ds : List R} {xs : List V} {Q : VK} (sr : SR K H ρ S) (r : RqA K H ρ xs ds) (h : RO K (relD K) E H ρ (.ok (.ref S.length) (S ++ [.lst ds])) Q) {p : Addr} (hp : H p = none) : Q (.ref p) (upd H p (.lst xs)) := by
  have mo : Mo K H ρ (upd H p (.lst xs)) ⟨ρ.r ++ [p], ρ.z⟩ := .newR sr hp
  refine h _ _ ⟨ρ.r ++ [p], ρ.z⟩ mo (sr.new hp ⟨xs, upd_same, r.mo mo⟩) (.ref ?_)
  show (ρ.r ++ [p])[S.length]? = _
  rw [List.getElem?_append_right (by rw [sr.len]; exact Nat.le_refl _), sr.len, Nat.sub_self]
  rfl
theorem RO.tup {K : PySem.W.Frag} {E : XK} {H : Hp} {ρ : Wd} {S : Store} {ds : List D} {xs : List V} {Q : VK} (sr : SR K H ρ S) (r : RpA K H ρ xs ds) (h : RO K (relD K) E H ρ (.ok (.tup ds) S) Q) {p : Addr} (hp : H p = none) : Q (.ref p) (upd H p (.tup xs)) :=
  h _ _ ρ (.new sr hp) (sr.newT hp) (.v (.tup upd_same (r.mo (.new sr hp))))
/-- a new thing, frozen at once -/
theorem SR.newZ {K : PySem.W.Frag} {H : Hp} {ρ : Wd} {S : Store} (sr : SR K H ρ S) {p : Addr} {u : HO} (hp : H p = none) : SR K (upd H p u) ⟨ρ.r, fun b => ρ.z b ∨ b = p⟩ S ∧ Mo K H ρ (upd H p u) ⟨ρ.r, fun b => ρ.z b ∨ b = p⟩ := by
  have s1 := sr.newT (u := u) hp
  have mo1 : Mo K H ρ (upd H p u) ρ := .new sr hp
  have mo : Mo K H ρ (upd H p u) ⟨ρ.r, fun b => ρ.z b ∨ b = p⟩ := ⟨mo1.tup, mo1.kl, mo1.ref, fun b h => ⟨.inl h, (mo1.z b h).2⟩⟩
  have mo2 : Mo K (upd H p u) ρ (upd H p u) ⟨ρ.r, fun b => ρ.z b ∨ b = p⟩ := ⟨fun _ _ h => h, fun _ _ h => h, fun _ _ h => h, fun b h => ⟨.inl h, rfl⟩⟩
  refine ⟨⟨s1.nd, s1.len, fun n a o e q => (s1.obj n a o e q).mo mo2 rfl, fun n a o e q hl => ?_, fun a h => ?_, s1.r⟩, mo⟩
  · rintro (z | z)
    · exact s1.lv n a o e q hl z
    · subst z; exact sr.r n a e hp
  · rcases h with h | h
    · exact s1.z a h
    · subst h; rw [upd_same]; exact fun z => nomatch z
theorem RO.lstV {K : PySem.W.Frag} {E : XK} {H : Hp} {ρ : Wd} {S : Store} {ds : List D} {xs : List V} {Q : VK} (sr : SR K H ρ S) (r : RpA K H ρ xs ds) (h : RO K (relD K) E H ρ (.ok (.lst ds) S) Q) {p : Addr} (hp : H p = none) : Q (.ref p) (upd H p (.lst xs)) := by
  obtain ⟨s1, mo⟩ := sr.newZ (u := .lst xs) hp
  exact h _ _ _ mo s1 (.v (.lst ⟨.inr rfl, upd_same⟩ (r.mo mo)))
theorem pm_tup {k : Nat} (ha : PA X es (tA X.K E mr)) : PE X (.Tuple es k pos) (tE X.K E (mTup mr)) := by
  refine PE.imp (pe_tup ha) ?_
  rintro σ H Q ⟨ρ, m, S, sr, er, h⟩
  refine ⟨ρ, m, S, sr, er, RO.bind h fun ds S1 xs H1 ρ1 m1 s1 r1 h1 => ?_⟩
  obtain ⟨es, S2, ρ2, s2, m2, r2, h2⟩ := RO.frz s1 r1 h1
  split at h2
  · exact ⟨by rw [r2.length]; assumption, fun p hp => RO.tup s2 r2 h2 hp⟩
  · exact h2.elim
theorem pm_lst (ha : PA X es (tA X.K E mr)) : PE X (.List es pos) (tE X.K E (mLst mr)) := by
  refine PE.imp (pe_lst ha) ?_
  rintro σ H Q ⟨ρ, m, S, sr, er, h⟩
  refine ⟨ρ, m, S, sr, er, RO.bind h fun ds S1 xs H1 ρ1 m1 s1 r1 h1 => ?_⟩
  split at h1
  · exact ⟨by rw [r1.length]; assumption, fun p hp => RO.lst s1 r1 h1 hp⟩
  · exact h1.elim
theorem pm_lstV (ha : PA X es (tA X.K E mr)) : PE X (.List es pos) (tE X.K E (mLstV mr)) := by
  refine PE.imp (pe_lst ha) ?_
  rintro σ H Q ⟨ρ, m, S, sr, er, h⟩
  refine ⟨ρ, m, S, sr, er, RO.bind h fun ds S1 xs H1 ρ1 m1 s1 r1 h1 => ?_⟩
  obtain ⟨es, S2, ρ2, s2, m2, r2, h2⟩ := RO.frz s1 r1 h1
  split at h2
  · exact ⟨by rw [r2.length]; assumption, fun p hp => RO.lstV s2 r2 h2 hp⟩
  · exact h2.elim
def mCall (g : List R → Store → Out R) (r : MA) : ME := fun m S => (r m S).bind g
theorem pm_callB {x : Str} {p : Pos} {id : String} {g : List R → Store → Out R} (hc : CaM X (.builtin id) g) (hg : Gl X x) (hm : X.mg x = none) (hv : bootBuiltins x = some (.builtin id)) (ha : PA X (e :: es) (tA X.K E mr)) (hn : x ≠ "__name__" := by decide) (hdb : (x == ("__debug__" : Str)) = false := by decide)
    (he : starEach (e :: es) X.env = (false, eval e X.env) :: starEach es X.env := by rfl) (hpl : (backTo pos (starEach es X.env)).any (·.1) = false := by rfl) : PE X (.Call (.Name x p) (e :: es) [] pos) (tE X.K E (mCall g mr)) := by
  refine PE.imp (pe_callB hc hg hm hv ha hn hdb he hpl) ?_
  rintro σ H Q ⟨ρ, m, S, sr, er, h⟩
  exact ⟨ρ, m, S, sr, er, RO.bind h fun ds S1 xs H1 ρ1 m1 s1 r1 h1 => ⟨_, ρ1, S1, ds, s1, r1, h1⟩⟩
theorem pm_callTy {x : Str} {p : Pos} {T : String} {g : List R → Store → Out R} (hc : CaM X (.type T) g) (hg : Gl X x) (hm : X.mg x = none) (hv : bootBuiltins x = some (.type T)) (ha : PA X (e :: es) (tA X.K E mr)) (hn : x ≠ "__name__" := by decide) (hdb : (x == ("__debug__" : Str)) = false := by decide)
    (he : starEach (e :: es) X.env = (false, eval e X.env) :: starEach es X.env := by rfl) (hpl : (backTo pos (starEach es X.env)).any (·.1) = false := by rfl) : PE X (.Call (.Name x p) (e :: es) [] pos) (tE X.K E (mCall g mr)) := by
  refine PE.imp (pe_callTy hc hg hm hv ha hn hdb he hpl) ?_
  rintro σ H Q ⟨ρ, m, S, sr, er, h⟩
  exact ⟨ρ, m, S, sr, er, RO.bind h fun ds S1 xs H1 ρ1 m1 s1 r1 h1 => ⟨_, ρ1, S1, ds, s1, r1, h1⟩⟩
/-- what a def promises that the mirror g tells -/
def spM (K : PySem.W.Frag) (n : Nat) (g : List R → Store → Out R) : Sp := fun vs H Q E => vs.length = n ∧ ∃ (ρ : Wd) (S : Store) (ds : List R), SR K H ρ S ∧ RqA K H ρ vs ds ∧ RO K (relD K) E H ρ (g ds S) Q
theorem pm_call {x : Str} {p : Pos} {CX : CXT} {k n : Nat} {f : Addr} {fd : FuncData} {ps : List Str} {g : List R → Store → Out R} (F : FnOk X.prog X.w X.K X.mg X.base CX k f fd ps (spM X.K n g)) (hr : Room k X.A) (hg : Gl X x) (hm : X.mg x = some (.ref f)) (hk : PySem.W.keepIn X.K (.ref f) = true) (hb : Binds X.K fd ps [])
    {E0 : XK} (hx : Passes CX X E0) (hE : ∀ σ, E σ = E0) (ha : PA X (e :: es) (tA X.K E mr)) (hl : (e :: es).length = n := by rfl) (hdb : (x == ("__debug__" : Str)) = false := by decide) (he : starEach (e :: es) X.env = (false, eval e X.env) :: starEach es X.env := by rfl) (hpl : (backTo pos (starEach es X.env)).any (·.1) = false := by rfl)
    (hA : ∀ m S ds S', mr m S = .ok ds S' → ds.length = n) : PE X (.Call (.Name x p) (e :: es) [] pos) (tE X.K E (mCall g mr)) := by
  refine PE.imp (pe_call F hr hg hm hk hb .nil hx ha hdb he hpl) ?_
  rintro σ H Q ⟨ρ, m, S, sr, er, h⟩
  have hA := hA m S
  refine ⟨ρ, m, S, sr, er, ?_⟩
  unfold mCall at h
  generalize mr m S = o at h hA ⊢
  cases o with
  | ok ds S1 =>
    refine fun xs H1 ρ1 m1 s1 r1 => ?_
    show spM X.K n g (xs ++ []) H1 Q E0
    rw [List.append_nil]
    refine ⟨by rw [r1.length]; exact hA ds S1 rfl, ρ1, S1, ds, s1, r1, ?_⟩
    rw [← hE σ]
    exact RO.mono h m1
  | exc c S1 => exact h
  | no => exact h
end
end M
namespace M
open PySem PySem.Spec L2
open PyProof.Rows hiding St
def R.lo (k : Nat) : R → Prop
  | .v _ => True
  | .ref n => n < k
def MO.lo (k : Nat) : MO → Prop
  | .lst rs => ∀ r ∈ rs, r.lo k
  | .dK kvs => ∀ p ∈ kvs, p.2.lo k
  | .dT kvs => ∀ p ∈ kvs, p.2.lo k
  | .ins _ fs => ∀ p ∈ fs, p.2.lo k
  | .lkK kvs => ∀ p ∈ kvs, p.2.lo k
  | .lkT kvs => ∀ p ∈ kvs, p.2.lo k
  | .fz _ => True
/-- what was there stands, or points to nothing new -/
def Upd (S T : Store) : Prop := T.length = S.length ∧ ∀ (i : Nat) (c : MO), T[i]? = some c → S[i]? = some c ∨ c.lo S.length
def OkCut (S T : Store) : Prop := S.length ≤ T.length ∧ Upd S (T.take S.length)
open Classical in
noncomputable def cut (S T : Store) : Store := if OkCut S T then T.take S.length else T
theorem Upd.refl (S : Store) : Upd S S := ⟨rfl, fun _ _ h => .inl h⟩
theorem Upd.set {S T : Store} {n : Nat} {c : MO} (h : Upd S T) (hc : c.lo S.length) : Upd S (T.set n c) := by
  refine ⟨by rw [List.length_set]; exact h.1, fun i c' e => ?_⟩
  by_cases hi : n = i
  · subst hi
    by_cases hl : n < T.length
    · rw [List.getElem?_set_self hl] at e
      cases e
      exact .inr hc
    · rw [List.getElem?_eq_none (by rw [List.length_set]; omega)] at e; cases e
  · rw [List.getElem?_set_ne hi] at e
    exact h.2 i c' e
theorem MO.lo.mono {k j : Nat} (h : k ≤ j) : ∀ {c : MO}, c.lo k → c.lo j := by
  have hr : ∀ r : R, r.lo k → r.lo j := fun r hr => by
    cases r with
    | v d => trivial
    | ref n => exact Nat.lt_of_lt_of_le hr h
  intro c hc
  cases c with
  | lst rs => exact fun r m => hr r (hc r m)
  | dK rs => exact fun r m => hr _ (hc r m)
  | dT rs => exact fun r m => hr _ (hc r m)
  | ins C rs => exact fun r m => hr _ (hc r m)
  | lkK rs => exact fun r m => hr _ (hc r m)
  | lkT rs => exact fun r m => hr _ (hc r m)
  | fz d => trivial
theorem Upd.trans {S T U : Store} (a : Upd S T) (b : Upd T U) : Upd S U := by
  refine ⟨b.1.trans a.1, fun i c e => ?_⟩
  rcases b.2 i c e with h | h
  · exact a.2 i c h
  · exact .inr (h.mono (Nat.le_of_eq a.1))
theorem cut_app {S T : Store} (t : Store) (h : Upd S T) : cut S (T ++ t) = T := by
  have e : (T ++ t).take S.length = T := by rw [← h.1, List.take_left]
  unfold cut
  rw [if_pos ⟨by rw [List.length_append, h.1]; omega, by rw [e]; exact h⟩, e]
theorem cut_upd {S T : Store} (h : Upd S T) : cut S T = T := by
  have := cut_app (t := []) h
  rwa [List.append_nil] at this
theorem cut_self (S : Store) : cut S S = S := cut_upd (.refl S)
section
variable {K : PySem.W.Frag} {H H' H0 : Hp} {ρ ρ' ρ0 : Wd} {S T : Store}
mutual
theorem Rp.zz {p q : List Addr} {z : Addr → Prop} : ∀ (d : D) (v : V), Rp K H ⟨p, z⟩ v d → Rp K H ⟨q, z⟩ v d
  | .non, _, h => by cases h; exact .non
  | .bl b, _, h => by cases h; exact .bl b
  | .int i, _, h => by cases h; exact .int i
  | .str x, _, h => by cases h; exact .str x
  | .ty n, _, h => by cases h; exact .ty n
  | .tup ds, _, h => by
    cases h with
    | tup hs ha => exact .tup hs (RpA.zz ds _ ha)
  | .lst ds, _, h => by
    cases h with
    | lst hs ha => exact .lst hs (RpA.zz ds _ ha)
  | .kl ds, _, h => by
    cases h with
    | kl hs ha => exact .kl hs (RpA.zz ds _ ha)
  | .dct ks ds, _, h => by
    cases h with
    | dct hz hs hl ha => exact .dct hz hs hl (RpA.zz ds _ ha)
  | .txt, _, h => by
    cases h with
    | txt x hx => exact .txt x hx
  | .kt ds, _, h => by
    cases h with
    | kt hs ha => exact .kt hs (RpA.zz ds _ ha)
theorem RpA.zz {p q : List Addr} {z : Addr → Prop} : ∀ (ds : List D) (vs : List V), RpA K H ⟨p, z⟩ vs ds → RpA K H ⟨q, z⟩ vs ds
  | [], _, h => by cases h; exact .nil
  | d :: ds, _, h => by
    cases h with
    | cons h1 h2 => exact .cons (Rp.zz d _ h1) (RpA.zz ds _ h2)
end
theorem Rq.lo {v : V} {r : R} (h : Rq K H ρ v r) : r.lo ρ.r.length := by
  cases h with
  | v h => trivial
  | ref e => exact (List.getElem?_eq_some_iff.mp e).1
theorem Rq.take {v : V} {r : R} {k : Nat} (h : Rq K H ρ v r) (hb : r.lo k) : Rq K H ⟨ρ.r.take k, ρ.z⟩ v r := by
  cases h with
  | v h => exact .v (Rp.zz _ _ h)
  | ref e => exact .ref (by rw [List.getElem?_take_of_lt hb]; exact e)
theorem RqA.lo {vs : List V} {rs : List R} (h : RqA K H ρ vs rs) : ∀ r ∈ rs, r.lo ρ.r.length := by
  induction h with
  | nil => intro r hr; cases hr
  | cons h1 h2 ih =>
    intro r hr
    rcases List.mem_cons.mp hr with rfl | hr
    · exact h1.lo
    · exact ih r hr
theorem RqA.takeW {vs : List V} {rs : List R} {k : Nat} (h : RqA K H ρ vs rs) (hb : ∀ r ∈ rs, r.lo k) : RqA K H ⟨ρ.r.take k, ρ.z⟩ vs rs := by
  induction h with
  | nil => exact .nil
  | cons h1 h2 ih => exact .cons (h1.take (hb _ (by simp))) (ih fun r hr => hb r (by simp [hr]))
theorem RpP.lo {κ : Type} {vs : List (κ × V)} {rs : List (κ × R)} (h : RpP K H ρ vs rs) : ∀ r ∈ rs, r.2.lo ρ.r.length := by
  induction h with
  | nil => intro r hr; cases hr
  | cons h1 h2 ih =>
    intro r hr
    rcases List.mem_cons.mp hr with rfl | hr
    · exact h1.2.lo
    · exact ih r hr
theorem RpP.takeW {κ : Type} {vs : List (κ × V)} {rs : List (κ × R)} {k : Nat} (h : RpP K H ρ vs rs) (hb : ∀ r ∈ rs, r.2.lo k) : RpP K H ⟨ρ.r.take k, ρ.z⟩ vs rs := by
  induction h with
  | nil => exact .nil
  | cons h1 h2 ih => exact .cons ⟨h1.1, h1.2.take (hb _ (by simp))⟩ (ih fun r hr => hb r (by simp [hr]))
theorem HoR.lo {a : Addr} : ∀ {c : MO}, HoR K H ρ a c → c.lo ρ.r.length
  | .lst _, ⟨_, _, r⟩ => RqA.lo r
  | .dK _, ⟨_, _, r⟩ => RpP.lo r
  | .dT _, ⟨_, _, r⟩ => RpP.lo r
  | .ins _ _, ⟨_, _, _, _, _, r⟩ => RpP.lo r
  | .lkK _, ⟨_, _, _, _, r⟩ => RpP.lo r
  | .lkT _, ⟨_, _, _, _, r⟩ => RpP.lo r
  | .fz _, _ => trivial
theorem HoR.takeW {a : Addr} {k : Nat} : ∀ {c : MO}, HoR K H ρ a c → c.lo k → HoR K H ⟨ρ.r.take k, ρ.z⟩ a c
  | .lst _, ⟨xs, h, r⟩, hb => ⟨xs, h, RqA.takeW r hb⟩
  | .dK _, ⟨xs, h, r⟩, hb => ⟨xs, h, RpP.takeW r hb⟩
  | .dT _, ⟨xs, h, r⟩, hb => ⟨xs, h, RpP.takeW r hb⟩
  | .ins _ _, ⟨c, dx, xs, hc, h, r⟩, hb => ⟨c, dx, xs, hc, h, RpP.takeW r hb⟩
  | .lkK _, ⟨hz, od, xs, h, r⟩, hb => ⟨hz, od, xs, h, RpP.takeW r hb⟩
  | .lkT _, ⟨hz, od, xs, h, r⟩, hb => ⟨hz, od, xs, h, RpP.takeW r hb⟩
  | .fz _, h, _ => Rp.zz _ _ h
theorem SR.cutW (s0 : SR K H0 ρ0 S) (mo : Mo K H0 ρ0 H' ρ') (s1 : SR K H' ρ' T) (ok : OkCut S T) : SR K H' ⟨ρ'.r.take S.length, ρ'.z⟩ (T.take S.length) ∧ Mo K H0 ρ0 H' ⟨ρ'.r.take S.length, ρ'.z⟩ := by
  have inj : ∀ {β : Type} (l : List β) (n k : Nat) (x : β), (l.take k)[n]? = some x → n < k ∧ l[n]? = some x := fun l n k x e => by
    have hn : n < k := by
      rcases Nat.lt_or_ge n k with z | z
      · exact z
      · rw [List.getElem?_eq_none (by rw [List.length_take]; omega)] at e; cases e
    rw [List.getElem?_take_of_lt hn] at e
    exact ⟨hn, e⟩
  refine ⟨⟨s1.nd.sublist (List.take_sublist _ _), by simp [List.length_take, s1.len], fun n a o e q => ?_, fun n a o e q hl => ?_, s1.z, fun n a e => ?_⟩, ⟨mo.tup, mo.kl, fun n a e => ?_, mo.z⟩⟩
  · obtain ⟨hn, e'⟩ := inj _ _ _ _ e
    obtain ⟨_, q'⟩ := inj _ _ _ _ q
    refine (s1.obj n a o e' q').takeW ?_
    rcases ok.2.2 n o q with h | h
    · have hn0 : n < ρ0.r.length := by rw [s0.len]; exact hn
      have e0 : ρ0.r[n]? = some ρ0.r[n] := List.getElem?_eq_getElem hn0
      have := (s0.obj n _ o e0 h).lo
      rw [s0.len] at this
      exact this
    · exact h
  · exact s1.lv n a o (inj _ _ _ _ e).2 (inj _ _ _ _ q).2 hl
  · exact s1.r n a (inj _ _ _ _ e).2
  · have hn : n < S.length := by rw [← s0.len]; exact (List.getElem?_eq_some_iff.mp e).1
    show (ρ'.r.take S.length)[n]? = _
    rw [List.getElem?_take_of_lt hn]
    exact mo.ref n a e
theorem SR.cut (s0 : SR K H0 ρ0 S) (mo : Mo K H0 ρ0 H' ρ') (s1 : SR K H' ρ' T) : ∃ r', SR K H' ⟨r', ρ'.z⟩ (M.cut S T) ∧ Mo K H0 ρ0 H' ⟨r', ρ'.z⟩ := by
  unfold M.cut
  split
  · rename_i ok
    exact ⟨_, s0.cutW mo s1 ok⟩
  · exact ⟨ρ'.r, s1, mo⟩
end
/-- by value, all that was made on the way forgotten -/
noncomputable def popV (S : Store) (r : R) (S' : Store) : Out R := match frz 8 S' r with
  | some p => .ok (.v p.1) (cut S p.2)
  | none => .no
noncomputable def mPop (f : ME) : ME := fun m S => (f m S).bind fun r S' => popV S r S'
theorem RO.pop {K : PySem.W.Frag} {E : XK} {H : Hp} {ρ : Wd} {S : Store} {o : Out R} {Q : VK} (sr : SR K H ρ S) (h : RO K (relD K) E H ρ (o.bind (popV S)) Q) : RO K (relD K) E H ρ o Q := by
  cases o with
  | no => exact h
  | exc c S1 => exact h
  | ok r S1 =>
    intro v H' ρ' mo s r
    have h : RO K (relD K) E H ρ (popV S _ S1) Q := h
    unfold popV at h
    split at h
    · rename_i p e
      obtain ⟨z', s1, m1, r1⟩ := frz_ok 8 S1 _ p.1 p.2 ρ' v e s r
      obtain ⟨r', s2, m2⟩ := sr.cut (mo.trans m1) s1
      exact h v H' _ m2 s2 (.v (Rp.zz _ _ r1))
    · exact h.elim
theorem pm_pop {X : Cx} {E : St → XK} {e : Expr} {f : ME} (h : PE X e (tE X.K E f)) : PE X e (tE X.K E (mPop f)) := by
  refine PE.imp h ?_
  rintro σ H Q ⟨ρ, m, S, sr, er, h⟩
  exact ⟨ρ, m, S, sr, er, RO.pop sr h⟩
def keepE (k : Nat) : Option R → Option R
  | some (.ref n) => if n < k then some (.ref n) else none
  | o => o
open Classical in
noncomputable def trim (S : Store) (m2 : Env) (S2 : Store) (f : Env → Store → OutS) : OutS := if S.length < S2.length ∧ OkCut S S2 then f (m2.map (keepE S.length)) (S2.take S.length) else f m2 S2
noncomputable def mTrim (f : MS) : MS := fun m S => match f m S with
  | .nx m2 S2 => trim S m2 S2 .nx
  | .ct m2 S2 => trim S m2 S2 .ct
  | o => o
theorem EnvR.keep {K : PySem.W.Frag} {H : Hp} {ρ : Wd} {σ : St} {m : Env} {k : Nat} (h : EnvR K H ρ σ m) : EnvR K H ⟨ρ.r.take k, ρ.z⟩ σ (m.map (keepE k)) := by
  refine ⟨by rw [List.length_map]; exact h.len, fun i d e => ?_⟩
  rw [List.getElem?_map] at e
  obtain ⟨o, e1, e2⟩ := Option.map_eq_some_iff.mp e
  cases o with
  | none => cases e2
  | some r =>
    obtain ⟨v, a, b⟩ := h.get i r e1
    cases r with
    | v d' =>
      cases e2
      exact ⟨v, a, b.take trivial⟩
    | ref n =>
      simp only [keepE] at e2
      split at e2
      · cases e2
        exact ⟨v, a, b.take (by assumption)⟩
      · cases e2
theorem psm_trim {X : Cx} {E : St → XK} {sts : List Stmt} {f : MS} (h : PSs X sts (tS X.K E f)) : PSs X sts (tS X.K E (mTrim f)) := by
  refine PSs.imp h ?_
  rintro D σ H ⟨ρ, m, S, sr, er, h⟩
  refine ⟨ρ, m, S, sr, er, ?_⟩
  have h : RS X.K E H ρ (match f m S with | .nx m2 S2 => trim S m2 S2 .nx | .ct m2 S2 => trim S m2 S2 .ct | o => o) D := h
  generalize f m S = o at h ⊢
  cases o with
  | bk m' S' => exact h
  | rt d S' => exact h
  | exc c m' S' => exact h
  | no => exact h
  | nx m' S' =>
    simp only [trim] at h
    split at h
    · rename_i hc
      intro σ' H' ρ' mo s e
      obtain ⟨s1, m1⟩ := sr.cutW mo s hc.2
      exact h σ' H' _ m1 s1 e.keep
    · exact h
  | ct m' S' =>
    simp only [trim] at h
    split at h
    · rename_i hc
      intro σ' H' ρ' mo s e
      obtain ⟨s1, m1⟩ := sr.cutW mo s hc.2
      exact h σ' H' _ m1 s1 e.keep
    · exact h
end M
namespace M
open PySem PySem.Spec L2
open PyProof.Rows hiding St
section
variable {X : Cx} {E : St → XK} {a b c e tgE iter : Expr} {es rest : List Expr} {pos : Pos} {ma mb mc : ME} {mt mu : MT} {mr : MA} {st : Stmt} {sts : List Stmt} {ms mz : MS}
def mSkip : MS := fun m S => .nx m S
def mSeq (f g : MS) : MS := fun m S => match f m S with
  | .nx m' S' => g m' S'
  | o => o
theorem psm_nil : PSs X [] (tS X.K E mSkip) := by
  refine PSs.imp pss_nil ?_
  rintro D σ H ⟨ρ, m, S, sr, er, h⟩
  exact h σ H ρ .refl sr er
theorem psm_cons (h1 : PS X st (tS X.K E ms)) (h2 : PSs X sts (tS X.K E mz)) : PSs X (st :: sts) (tS X.K E (mSeq ms mz)) := by
  refine PSs.imp (pss_cons h1 h2) ?_
  rintro D σ H ⟨ρ, m, S, sr, er, h⟩
  refine ⟨ρ, m, S, sr, er, ?_⟩
  have h : RS X.K E H ρ (match ms m S with | .nx m' S' => mz m' S' | o => o) D := h
  generalize ms m S = o at h ⊢
  cases o with
  | nx m' S' => exact fun σ' H' ρ' mo s r => ⟨ρ', m', S', s, r, RS.mono h mo⟩
  | bk m' S' => exact h
  | ct m' S' => exact h
  | rt d S' => exact h
  | exc c m' S' => exact h
  | no => exact h
theorem psm_one (h1 : PS X st (tS X.K E ms)) : PSs X [st] (tS X.K E ms) := pss_one h1
def mBrk : MS := fun m S => .bk m S
def mCnt : MS := fun m S => .ct m S
def mDrop (f : ME) : MS := fun m S => (f m S).thenS m fun _ S1 => .nx m S1
theorem psm_expr (he : PE X e (tE X.K E ma)) (hs : swapsWith e none pos.line X.env = pure false := by rfl) : PS X (.Expr e pos) (tS X.K E (mDrop ma)) := by
  refine PS.imp (ps_expr he hs) ?_
  rintro D σ H ⟨ρ, m, S, sr, er, h⟩
  exact ⟨ρ, m, S, sr, er, RS.bind er h fun d S1 v H1 ρ1 m1 s1 r1 e1 h1 => h1 σ H1 ρ1 .refl s1 e1⟩
def mRet (f : ME) : MS := fun m S => (f m S).thenS m fun d S1 => .rt d S1
theorem psm_ret (he : PE X e (tE X.K E ma)) : PS X (.Return (some e) pos) (tS X.K E (mRet ma)) := by
  refine PS.imp (ps_ret he) ?_
  rintro D σ H ⟨ρ, m, S, sr, er, h⟩
  exact ⟨ρ, m, S, sr, er, RS.bind er h fun d S1 v H1 ρ1 m1 s1 r1 e1 h1 => h1 v H1 ρ1 .refl s1 r1⟩
def mRetN : MS := fun m S => .rt .non S
def mIfS (t : MT) (f g : MS) : MS := fun m S => (t m S).thenS m fun k S1 => match k with
  | true => f m S1
  | false => g m S1
theorem psm_if {sa sb : List Stmt} (hc : PT X c (tT X.K E mt)) (ha : PSs X sa (tS X.K E ms)) (hb : PSs X sb (tS X.K E mz)) : PS X (.If c sa sb pos) (tS X.K E (mIfS mt ms mz)) := by
  refine PS.imp (ps_if hc ha hb) ?_
  rintro D σ H ⟨ρ, m, S, sr, er, h⟩
  refine ⟨ρ, m, S, sr, er, RS.bind er h fun d S1 v H1 ρ1 m1 s1 r1 e1 h1 => ?_⟩
  subst r1
  cases v with
  | true => exact iteT ⟨ρ1, m, S1, s1, e1, h1⟩
  | false => exact iteF ⟨ρ1, m, S1, s1, e1, h1⟩
def mSet (i : Nat) (f : ME) : MS := fun m S => (f m S).thenS m fun d S1 => .nx (m.set i (some d)) S1
theorem psm_set (i : Nat) {x : Str} {pos' : Pos} (hN : X.N.Nodup) (hi : X.N[i]? = some x) (hx : Loc X.env.scope x) (he : PE X e (tE X.K E ma)) (hs : swapsWith e (some (.Name x pos')) pos.line X.env = pure false := by rfl) (hf : X.fn x = true ∨ X.env.scope.names.lookup x = some .local := by first | exact .inl rfl | exact .inr rfl | assumption) :
    PS X (.Assign [.Name x pos'] e pos) (tS X.K E (mSet i ma)) := by
  refine PS.imp (ps_set hN hi hx he hs hf) ?_
  rintro D σ H ⟨ρ, m, S, sr, er, h⟩
  exact ⟨ρ, m, S, sr, er, RS.bind er h fun d S1 v H1 ρ1 m1 s1 r1 e1 h1 => h1 _ H1 ρ1 .refl s1 (e1.set r1 i)⟩
def mPar (i j : Nat) (f g : ME) : MS := fun m S => (f m S).thenS m fun x S1 => (g m S1).thenS m fun y S2 => .nx ((m.set i (some x)).set j (some y)) S2
theorem psm_par (i j : Nat) {x y : Str} {px py pt : Pos} {kt k2 pt2} (hc : X.calm = true) (hN : X.N.Nodup) (hi : X.N[i]? = some x) (hj : X.N[j]? = some y) (hij : i ≠ j)
    (hx : X.env.scope.names.lookup x = some .local) (hy : X.env.scope.names.lookup y = some .local) (ha : PE X a (tE X.K E ma)) (hb : PE X b (tE X.K E mb))
    (hw : swappedStores [.Tuple [.Name x px, .Name y py] kt pt] (.Tuple [a, b] k2 pt2) X.env = pure (some [x, y]))
    (hs : swapsWithSole [.Tuple [.Name x px, .Name y py] kt pt] (.Tuple [a, b] k2 pt2) pos.line X.env = pure false := by rfl)
    (h1 : starEach [a, b] X.env = (false, eval a X.env) :: starEach [b] X.env := by rfl) (h2 : starEach [b] X.env = (false, eval b X.env) :: starEach [] X.env := by rfl) :
    PS X (.Assign [.Tuple [.Name x px, .Name y py] kt pt] (.Tuple [a, b] k2 pt2) pos) (tS X.K E (mPar i j ma mb)) := by
  refine PS.imp (ps_par hc hN hi hj hij hx hy (pa_cons ha (pa_cons hb pa_nil h2) h1) hw hs) ?_
  rintro D σ H ⟨ρ, m, S, sr, er, h⟩
  refine ⟨ρ, m, S, sr, er, RS.bind er h fun d S1 v H1 ρ1 m1 s1 r1 e1 h1 => ?_⟩
  refine ⟨ρ1, m, S1, s1, e1, RS.bind e1 h1 fun d2 S2 w H2 ρ2 m2 s2 r2 e2 h2 => ?_⟩
  exact ⟨v, w, rfl, h2 _ H2 ρ2 .refl s2 ((e2.set (r1.mo m2) i).set r2 j)⟩
/-- name op= e -/
def mAug (i : Nat) (g : R → R → Store → Out R) (f : ME) : MS := fun m S => (mVar i m S).thenS m fun x S0 => (f m S0).thenS m fun y S1 => (g x y S1).thenS m fun z S2 => .nx (m.set i (some z)) S2
abbrev TgM := R → Env → Option Env
def tgN (i : Nat) : TgM := fun d m => some (m.set i (some d))
def bindAll : List TgM → List R → Env → Option Env
  | [], [], m => some m
  | t :: ts, d :: ds, m => (t d m).bind fun m' => bindAll ts ds m'
  | _, _, _ => none
def tgT (ts : List TgM) : TgM := fun d m => match d with
  | .v (.tup ds) => bindAll ts (ds.map .v) m
  | _ => none
def gM (K : PySem.W.Frag) (vs : List Nat) (g : TgM) : TG := fun v σ H Q => ∃ (ρ : Wd) (m : Env) (d : R) (m' : Env), EnvR K H ρ σ m ∧ Rq K H ρ v d ∧ g d m = some m' ∧
  ∀ σ', EnvR K H ρ σ' m' → (∀ j, j ∉ vs → σ'[j]? = σ[j]?) → σ'.length = σ.length → Q σ' H
def gMs (K : PySem.W.Frag) (vs : List Nat) (ts : List TgM) : TGs := fun xs σ H Q => ∃ (ρ : Wd) (m : Env) (ds : List R) (m' : Env), EnvR K H ρ σ m ∧ RqA K H ρ xs ds ∧ bindAll ts ds m = some m' ∧
  ∀ σ', EnvR K H ρ σ' m' → (∀ j, j ∉ vs → σ'[j]? = σ[j]?) → σ'.length = σ.length → Q σ' H
theorem PG.imp {e : Expr} {t t' : TG} (h : PG X e t) (k : ∀ v σ H Q, t' v σ H Q → t v σ H Q) : PG X e t' := ⟨fun pins s σ H v u Q I r q => h.run pins s σ H v u Q I r (k _ _ _ _ q)⟩
theorem PGs.imp {e : List Expr} {t t' : TGs} (h : PGs X e t) (k : ∀ v σ H Q, t' v σ H Q → t v σ H Q) : PGs X e t' := ⟨fun pins s σ H v u Q I r q => h.run pins s σ H v u Q I r (k _ _ _ _ q)⟩
theorem pgm_name (i : Nat) {x : Str} (hN : X.N.Nodup) (hi : X.N[i]? = some x) (hx : Loc X.env.scope x) (hf : X.fn x = true ∨ X.env.scope.names.lookup x = some .local := by first | exact .inl rfl | exact .inr rfl | assumption) : PG X (.Name x pos) (gM X.K [i] (tgN i)) := by
  refine PG.imp (pg_name hN hi hx hf) ?_
  rintro v σ H Q ⟨ρ, m, d, m', er, r, e, h⟩
  cases e
  refine h _ (er.set r i) (fun j hj => ?_) (List.length_set ..)
  rw [List.getElem?_set_ne (by intro q; subst q; simp at hj)]
theorem pgms_nil : PGs X [] (gMs X.K [] []) := by
  refine PGs.imp pgs_nil ?_
  rintro xs σ H Q ⟨ρ, m, ds, m', er, r, e, h⟩
  cases r with
  | nil =>
    cases e
    exact ⟨rfl, h σ er (fun _ _ => rfl) rfl⟩
  | cons r1 r2 => cases e
theorem pgms_cons {t : TgM} {ts : List TgM} {vs ws : List Nat} (h1 : PG X e (gM X.K vs t)) (h2 : PGs X es (gMs X.K ws ts)) (hs : (assignEach (e :: es) X.env).map (·.2) = assign e X.env :: (assignEach es X.env).map (·.2) := by rfl) : PGs X (e :: es) (gMs X.K (vs ++ ws) (t :: ts)) := by
  refine PGs.imp (pgs_cons h1 h2 hs) ?_
  rintro xs σ H Q ⟨ρ, m, ds, m', er, r, e, h⟩
  cases r with
  | nil => cases e
  | @cons v d xs ds r1 r2 =>
    have e : (t d m).bind (fun m' => bindAll ts ds m') = some m' := e
    cases et : t d m with
    | none => rw [et] at e; cases e
    | some m1 =>
      rw [et] at e
      refine ⟨v, xs, rfl, ρ, m, d, m1, er, r1, et, fun σ1 er1 k1 l1 => ⟨ρ, m1, ds, m', er1, r2, e, fun σ2 er2 k2 l2 => ?_⟩⟩
      refine h σ2 er2 (fun j hj => ?_) (l2.trans l1)
      rw [List.mem_append, not_or] at hj
      rw [k2 j hj.2, k1 j hj.1]
theorem pgm_tup {k : Nat} {ts : List TgM} {vs : List Nat} {n : Nat} (hc : X.calm = true) (h : PGs X es (gMs X.K vs ts)) (hn : (assignEach es X.env).length = n := by rfl) (hl : ts.length = n := by rfl) (hst : (assignEach es X.env).findIdx? (·.1) = none := by rfl) : PG X (.Tuple es k pos) (gM X.K vs (tgT ts)) := by
  refine PG.imp (pg_tup hc h hn hst) ?_
  rintro v σ H Q ⟨ρ, m, d, m', er, r, e, h⟩
  cases r with
  | ref _ => cases e
  | v r =>
  cases r with
  | @tup a xs ds hs ra =>
    have ra := ra.q
    have e : bindAll ts (ds.map .v) m = some m' := e
    refine ⟨a, xs, rfl, sqT_at hs, ?_, ρ, m, ds.map .v, m', er, ra, e, h⟩
    rw [ra.length, ← hl]
    have q : ∀ (ts : List TgM) (ds : List R) (m : Env), bindAll ts ds m = some m' → ds.length = ts.length := by
      intro ts
      induction ts with
      | nil => intro ds m e; cases ds with
        | nil => rfl
        | cons _ _ => cases e
      | cons t ts ih => intro ds m e; cases ds with
        | nil => cases e
        | cons d ds =>
          have e : (t d m).bind (fun m' => bindAll ts ds m') = some m' := e
          cases et : t d m with
          | none => rw [et] at e; cases e
          | some m1 => rw [et] at e; exact congrArg (· + 1) (ih ds m1 e)
    exact q ts _ m e
  | _ => cases e
def mAsg (t : TgM) (f : ME) : MS := fun m S => (f m S).thenS m fun d S1 => match t d m with
  | some m' => .nx m' S1
  | none => .no
theorem psm_asg {t : TgM} {vs : List Nat} (he : PE X e (tE X.K E ma)) (hg : PG X tgE (gM X.K vs t)) (hs : swapsWithSole [tgE] e pos.line X.env = pure false := by rfl) (hw : swappedStores [tgE] e X.env = pure none := by rfl)
    (h1 : (assignEach [tgE] X.env).map (·.2) = [assign tgE X.env] := by rfl) : PS X (.Assign [tgE] e pos) (tS X.K E (mAsg t ma)) := by
  refine PS.imp (ps_asg he hg hs hw h1) ?_
  rintro D σ H ⟨ρ, m, S, sr, er, h⟩
  refine ⟨ρ, m, S, sr, er, RS.bind er h fun d S1 v H1 ρ1 m1 s1 r1 e1 h1 => ?_⟩
  split at h1
  · rename_i m' et
    exact ⟨ρ1, m, d, m', e1, r1, et, fun σ' er' _ _ => h1 σ' H1 ρ1 .refl s1 er'⟩
  · exact h1.elim
/-- the items, and the objects that must stand meanwhile -/
structure Src where
  items : List R
  pins : List (Nat × MO)
def pinsOk : List (Nat × MO) → Store → Prop
  | [], _ => True
  | p :: r, S => S[p.1]? = some p.2 ∧ pinsOk r S
abbrev MI := Env → Store → Out Src
def okSrc (K : PySem.W.Frag) (it : Src) (H' : Hp) (ρ' : Wd) (J : It) : Prop := ∃ (G : Hp → Prop) (Y : Nat → Hp → V → Hp → Prop), Walk J it.items.length G Y ∧
  (∀ H2 ρ2 S2, Mo K H' ρ' H2 ρ2 → SR K H2 ρ2 S2 → pinsOk it.pins S2 → G H2) ∧
  ∀ i H2 x H3 ρ2 S2, i < it.items.length → Mo K H' ρ' H2 ρ2 → SR K H2 ρ2 S2 → pinsOk it.pins S2 → Y i H2 x H3 → ∃ d, it.items[i]? = some d ∧ Mo K H2 ρ2 H3 ρ2 ∧ SR K H3 ρ2 S2 ∧ Rq K H3 ρ2 x d
def tI (K : PySem.W.Frag) (E : St → XK) (f : MI) : TI := fun σ H R => ∃ (ρ : Wd) (m : Env) (S : Store), SR K H ρ S ∧ EnvR K H ρ σ m ∧ (match f m S with
  | .ok it S' => ∀ J H' ρ', Mo K H ρ H' ρ' → SR K H' ρ' S' → okSrc K it H' ρ' J → R J H'
  | .exc c S' => RO K (fun _ _ (_ : Unit) (_ : Unit) => True) (E σ) H ρ (.exc c S' : Out Unit) fun _ _ => True
  | .no => False)
theorem PI.imp {wi wi' : TI} (h : PI X tgE iter wi) (k : ∀ σ H R, wi' σ H R → wi σ H R) : PI X tgE iter wi' := ⟨fun pins s σ H R I q => h.run pins s σ H R I (k _ _ _ q)⟩
theorem PI.or {w1 w2 : TI} (h1 : PI X tgE iter w1) (h2 : PI X tgE iter w2) : PI X tgE iter fun σ H R => w1 σ H R ∨ w2 σ H R := ⟨fun pins s σ H R I q => q.elim (h1.run pins s σ H R I) (h2.run pins s σ H R I)⟩
open Classical in
noncomputable def mForGo (pins : List (Nat × MO)) (t : TgM) (body : MS) : List R → Env → Store → OutS
  | [], m, S => if pinsOk pins S then .nx m S else .no
  | d :: ds, m, S => if pinsOk pins S then (match t d m with
    | none => .no
    | some m' => match body m' S with
      | .nx m2 S2 => mForGo pins t body ds m2 S2
      | .ct m2 S2 => mForGo pins t body ds m2 S2
      | .bk m2 S2 => .nx m2 S2
      | .rt d S2 => .rt d S2
      | .exc c m2 S2 => .exc c m2 S2
      | .no => .no) else .no
noncomputable def mFor (f : MI) (t : TgM) (body : MS) : MS := fun m S => (f m S).thenS m fun it S1 => mForGo it.pins t body it.items m S1
theorem pins_of {K : PySem.W.Frag} {H : Hp} {ρ : Wd} {pins : List (Nat × MO)} {t : TgM} {body : MS} {ds : List R} {m : Env} {S : Store} {D : Ends} (h : RS K E H ρ (mForGo pins t body ds m S) D) : pinsOk pins S := by
  cases ds with
  | nil =>
    unfold mForGo at h
    split at h
    · assumption
    · exact h.elim
  | cons d ds =>
    unfold mForGo at h
    split at h
    · assumption
    · exact h.elim
theorem psm_for {body : List Stmt} {f : MI} {t : TgM} {vs : List Nat} (hp : PassesOwn (model X.prog X.w) X.A X.env X.xe) (hc : X.calm = true) (hi : PI X tgE iter (tI X.K E f)) (hg : PG X tgE (gM X.K vs t)) (hb : PSs X body (tS X.K E ms)) (hs : ∀ x, foldedSetIterable iter X.env x = pure x := by intro _; rfl) :
    PS X (.For tgE iter body [] pos) (tS X.K E (mFor f t ms)) := by
  refine PS.imp (ps_for hp hc hi hg hb hs) ?_
  rintro D σ H ⟨ρ, m, S, sr, er, h⟩
  refine ⟨ρ, m, S, sr, er, ?_⟩
  have h : RS X.K E H ρ ((f m S).thenS m fun it S1 => mForGo it.pins t ms it.items m S1) D := h
  generalize f m S = o at h ⊢
  cases o with
  | no => exact h
  | exc c S1 => exact fun dx H' ρ' mo s r => h σ dx H' ρ' mo s (er.mo mo) r
  | ok it S1 =>
    rintro J H1 ρ1 m1 s1 ⟨G, Y, wk, hG, hY⟩
    refine for_it wk (fun i σ2 H2 => ∃ ρ2 m2 S2, Mo X.K H1 ρ1 H2 ρ2 ∧ SR X.K H2 ρ2 S2 ∧ EnvR X.K H2 ρ2 σ2 m2 ∧ RS X.K E H2 ρ2 (mForGo it.pins t ms (it.items.drop i) m2 S2) D) ?_ ?_ ?_ ?_
    · exact ⟨ρ1, m, S1, .refl, s1, er.mo m1, RS.mono h m1⟩
    · rintro i σ2 H2 hi ⟨ρ2, m2, S2, mo2, s2, e2, h2⟩
      exact hG H2 ρ2 S2 mo2 s2 (pins_of h2)
    · rintro i x σ2 H2 H3 hi ⟨ρ2, m2, S2, mo2, s2, e2, h2⟩ hy
      obtain ⟨d, ed, mo3, s3, r3⟩ := hY i H2 x H3 ρ2 S2 hi mo2 s2 (pins_of h2) hy
      have hd : it.items.drop i = d :: it.items.drop (i + 1) := by
        rw [List.getElem?_eq_getElem hi] at ed
        rw [List.drop_eq_getElem_cons hi, Option.some.inj ed]
      rw [hd] at h2
      unfold mForGo at h2
      split at h2
      · split at h2
        · exact h2.elim
        · rename_i m' et
          refine ⟨ρ2, m2, d, m', e2.mo mo3, r3, et, fun σ' er' _ _ => ⟨ρ2, m', S2, s3, er', ?_⟩⟩
          generalize ms m' S2 = o at h2 ⊢
          cases o with
          | nx m4 S4 => exact fun σ5 H5 ρ5 mo5 s5 e5 => ⟨ρ5, m4, S4, (mo2.trans mo3).trans mo5, s5, e5, RS.mono h2 (mo3.trans mo5)⟩
          | ct m4 S4 => exact fun σ5 H5 ρ5 mo5 s5 e5 => ⟨ρ5, m4, S4, (mo2.trans mo3).trans mo5, s5, e5, RS.mono h2 (mo3.trans mo5)⟩
          | bk m4 S4 => exact fun σ5 H5 ρ5 mo5 s5 e5 => h2 σ5 H5 ρ5 (mo3.trans mo5) s5 e5
          | rt d4 S4 => exact fun v5 H5 ρ5 mo5 s5 e5 => h2 v5 H5 ρ5 (mo3.trans mo5) s5 e5
          | exc c m4 S4 => exact fun σ5 dx H5 ρ5 mo5 s5 e5 => h2 σ5 dx H5 ρ5 (mo3.trans mo5) s5 e5
          | no => exact h2
      · exact h2.elim
    · rintro σ2 H2 ⟨ρ2, m2, S2, mo2, s2, e2, h2⟩
      rw [List.drop_length] at h2
      unfold mForGo at h2
      split at h2
      · exact h2 σ2 H2 ρ2 .refl s2 e2
      · exact h2.elim
def mWhileGo (t : MT) (body : MS) : Nat → Env → Store → OutS
  | 0, _, _ => .no
  | k + 1, m, S => (t m S).thenS m fun b S1 => match b with
    | false => .nx m S1
    | true => match body m S1 with
      | .nx m2 S2 => mWhileGo t body k m2 S2
      | .ct m2 S2 => mWhileGo t body k m2 S2
      | .bk m2 S2 => .nx m2 S2
      | .rt d S2 => .rt d S2
      | .exc c m2 S2 => .exc c m2 S2
      | .no => .no
/-- the most turns -/
def turns : Nat := 1000000
def mWhile (t : MT) (body : MS) : MS := fun m S => mWhileGo t body turns m S
theorem psm_while {body : List Stmt} (hp : PassesOwn (model X.prog X.w) X.A X.env X.xe) (hc : PT X c (tT X.K E mt)) (hb : PSs X body (tS X.K E ms)) : PS X (.While c body [] pos) (tS X.K E (mWhile mt ms)) := by
  refine PS.imp (ps_while hp hc hb) ?_
  rintro D σ H ⟨ρ, m, S, sr, er, h⟩
  refine ⟨fun k σ2 H2 => ∃ ρ2 m2 S2, SR X.K H2 ρ2 S2 ∧ EnvR X.K H2 ρ2 σ2 m2 ∧ RS X.K E H2 ρ2 (mWhileGo mt ms k m2 S2) D, ⟨turns, ρ, m, S, sr, er, h⟩, ?_⟩
  rintro k σ2 H2 ⟨ρ2, m2, S2, s2, e2, h2⟩
  cases k with
  | zero => exact h2.elim
  | succ k =>
    refine ⟨ρ2, m2, S2, s2, e2, RS.bind e2 h2 fun b S3 v H3 ρ3 mo3 s3 r3 e3 h3 => ?_⟩
    subst r3
    cases v with
    | false => exact iteF (h3 σ2 H3 ρ3 .refl s3 e3)
    | true =>
      refine iteT ⟨fun σ4 H4 => ∃ ρ4 m4 S4, SR X.K H4 ρ4 S4 ∧ EnvR X.K H4 ρ4 σ4 m4 ∧ RS X.K E H4 ρ4 (mWhileGo mt ms k m4 S4) D, fun σ' H' q => ⟨k, Nat.lt_succ_self k, q⟩, ρ3, m2, S3, s3, e3, ?_⟩
      have h3 : RS X.K E H3 ρ3 (match ms m2 S3 with
        | .nx m2 S2 => mWhileGo mt ms k m2 S2
        | .ct m2 S2 => mWhileGo mt ms k m2 S2
        | .bk m2 S2 => .nx m2 S2
        | .rt d S2 => .rt d S2
        | .exc c m2 S2 => .exc c m2 S2
        | .no => .no) D := h3
      generalize ms m2 S3 = o at h3 ⊢
      cases o with
      | nx m4 S4 => exact fun σ5 H5 ρ5 mo5 s5 e5 => ⟨ρ5, m4, S4, s5, e5, RS.mono h3 mo5⟩
      | ct m4 S4 => exact fun σ5 H5 ρ5 mo5 s5 e5 => ⟨ρ5, m4, S4, s5, e5, RS.mono h3 mo5⟩
      | bk m4 S4 => exact h3
      | rt d4 S4 => exact h3
      | exc c m4 S4 => exact h3
      | no => exact h3
def wipeM (m : Env) : List Nat → Env
  | [] => m
  | v :: vs => (wipeM m vs).set v none
theorem EnvR.wipe {K : PySem.W.Frag} {H : Hp} {ρ : Wd} {σ : St} {m : Env} (h : EnvR K H ρ σ m) : ∀ vs : List Nat, EnvR K H ρ (wipe σ vs) (wipeM m vs)
  | [] => h
  | v :: vs => by
    have ih := EnvR.wipe h vs
    refine ⟨by unfold L2.wipe wipeM; rw [List.length_set, List.length_set]; exact ih.len, fun i d q => ?_⟩
    unfold wipeM at q
    unfold L2.wipe
    by_cases hv : v = i
    · subst hv
      by_cases hl : v < (wipeM m vs).length
      · rw [List.getElem?_set_self hl] at q; cases q
      · rw [List.getElem?_eq_none (by rw [List.length_set]; omega)] at q; cases q
    · rw [List.getElem?_set_ne hv] at q ⊢
      exact ih.get i d q
theorem wipe_get (σ : St) : ∀ (vs : List Nat) (j : Nat), (wipe σ vs)[j]? = if j ∈ vs ∧ j < σ.length then some none else σ[j]?
  | [], j => by
    unfold L2.wipe
    simp
  | v :: vs, j => by
    unfold L2.wipe
    by_cases hv : v = j
    · subst hv
      by_cases hl : v < σ.length
      · rw [List.getElem?_set_self (by rw [wipe_length]; exact hl), if_pos ⟨by simp, hl⟩]
      · rw [List.getElem?_eq_none (by rw [List.length_set, wipe_length]; omega), if_neg (fun z => hl z.2), List.getElem?_eq_none (by omega)]
    · rw [List.getElem?_set_ne hv, wipe_get σ vs j]
      have : (j ∈ v :: vs ∧ j < σ.length) ↔ (j ∈ vs ∧ j < σ.length) := by
        simp only [List.mem_cons]
        constructor
        · rintro ⟨h1, h2⟩
          rcases h1 with h1 | h1
          · exact absurd h1.symm hv
          · exact ⟨h1, h2⟩
        · rintro ⟨h1, h2⟩; exact ⟨.inr h1, h2⟩
      simp only [this]
theorem wipe_eq {σ σ' : St} {vs : List Nat} (hl : σ'.length = σ.length) (h : ∀ j, j ∉ vs → σ'[j]? = (wipe σ vs)[j]?) : wipe σ' vs = wipe σ vs := by
  refine List.ext_getElem? fun j => ?_
  rw [wipe_get, wipe_get, hl]
  by_cases hj : j ∈ vs
  · by_cases hb : j < σ.length
    · rw [if_pos ⟨hj, hb⟩, if_pos ⟨hj, hb⟩]
    · rw [if_neg (fun z => hb z.2), if_neg (fun z => hb z.2), List.getElem?_eq_none (by omega), List.getElem?_eq_none (by omega)]
  · rw [if_neg (fun z => hj z.1), if_neg (fun z => hj z.1), h j hj, wipe_get, if_neg (fun z => hj z.1)]
/-- nothing is raised -/
def Out.calm {α : Type} : Out α → Out α
  | .ok a S => .ok a S
  | _ => .no
@[simp] theorem Out.calm_ok {α : Type} (a : α) (S : Store) : (Out.ok a S).calm = .ok a S := id rfl
theorem RO.calm {α β γ δ : Type} {K : PySem.W.Frag} {H : Hp} {ρ : Wd} {relA : Hp → Wd → β → α → Prop} {rel : Hp → Wd → δ → γ → Prop} {E1 E2 : XK} {o : Out α} {f : α → Store → Out γ} {Q : δ → Hp → Prop} {P : β → Hp → Prop} (h : RO K rel E1 H ρ (o.calm.bind f) Q)
    (k : ∀ d S v H1 ρ1, Mo K H ρ H1 ρ1 → SR K H1 ρ1 S → relA H1 ρ1 v d → RO K rel E1 H1 ρ1 (f d S) Q → P v H1) : RO K relA E2 H ρ o P := by
  cases o with
  | ok d S => exact fun v H' ρ' m s r => k d S v H' ρ' m s r (RO.mono h m)
  | exc c S => exact h.elim
  | no => exact h
open Classical in
noncomputable def mLcGo (pins : List (Nat × MO)) (t : TgM) (c : MT) (f : ME) (n : Nat) (m : Env) : List R → Store → Out R
  | [], S => if pinsOk pins S then .ok (.ref n) S else .no
  | d :: ds, S => if pinsOk pins S then (match t d m with
    | none => .no
    | some m' => (c m' S).calm.bind fun k S1 => match k with
      | false => mLcGo pins t c f n m ds S1
      | true => (f m' S1).calm.bind fun y S2 => match S2[n]? with
        | some (.lst acc) => if acc.length < sizeLine then mLcGo pins t c f n m ds (S2.set n (.lst (acc ++ [y]))) else .no
        | _ => .no) else .no
noncomputable def mLc (src : MI) (vs : List Nat) (t : TgM) (c : MT) (f : ME) : ME := fun m S => (src m S).bind fun it S1 => mLcGo it.pins t c f S1.length (wipeM m vs) it.items (S1 ++ [.lst []])
theorem pinsL_of {K : PySem.W.Frag} {H : Hp} {ρ : Wd} {pins : List (Nat × MO)} {t : TgM} {c : MT} {f : ME} {n : Nat} {ds : List R} {m : Env} {S : Store} {E1 : XK} {Q : VK} (h : RO K (relD K) E1 H ρ (mLcGo pins t c f n m ds S) Q) : pinsOk pins S := by
  cases ds with
  | nil =>
    unfold mLcGo at h
    split at h
    · assumption
    · exact h.elim
  | cons d ds =>
    unfold mLcGo at h
    split at h
    · assumption
    · exact h.elim
def mtYes : MT := fun _ S => .ok true S
theorem ptsm_nil : PTs X [] (tT X.K E mtYes) := ⟨fun pins s σ H Q I ⟨ρ, m, S, sr, er, h⟩ => pts_nil.run pins s σ H Q I (h _ H ρ .refl sr rfl)⟩
theorem ptsm_one (h : PT X c (tT X.K E mt)) : PTs X [c] (tT X.K E mt) := pts_one h
def E0' : St → XK := fun _ _ _ _ => False
theorem tLc_of {K : PySem.W.Frag} {f : MI} {vs ws : List Nat} {t : TgM} {σ : St} {H : Hp} {Q : VK} (hv : ∀ j, j ∉ ws → j ∉ vs) (h : tE K E (mLc f ws t mt ma) σ H Q) : tLc (tI K E f) (gM K vs t) (tT K E0' mt) (tE K E0' ma) ws σ H Q := by
  obtain ⟨ρ, m, S, sr, er, h⟩ := h
  refine ⟨ρ, m, S, sr, er, ?_⟩
  have h : RO K (relD K) (E σ) H ρ ((f m S).bind fun it S1 => mLcGo it.pins t mt ma S1.length (wipeM m ws) it.items (S1 ++ [.lst []])) Q := h
  generalize f m S = o at h ⊢
  cases o with
  | no => exact h
  | exc c S1 => exact fun dx H' ρ' mo s r => h dx H' ρ' mo s r
  | ok it S1 =>
    rintro J H1 ρ1 m1 s1 ⟨G, Y, wk, hG, hY⟩ D hD
    have moD : Mo K H1 ρ1 (upd H1 D (.lst [])) ⟨ρ1.r ++ [D], ρ1.z⟩ := .newR s1 hD
    have sD : SR K (upd H1 D (.lst [])) ⟨ρ1.r ++ [D], ρ1.z⟩ (S1 ++ [.lst []]) := s1.new hD ⟨[], upd_same, .nil⟩
    have eD : (ρ1.r ++ [D])[S1.length]? = some D := by
      rw [List.getElem?_append_right (by rw [s1.len]; exact Nat.le_refl _), s1.len, Nat.sub_self]; rfl
    refine lc_it wk (fun i H2 => ∃ ρ2 S2, Mo K (upd H1 D (.lst [])) ⟨ρ1.r ++ [D], ρ1.z⟩ H2 ρ2 ∧ SR K H2 ρ2 S2 ∧ RO K (relD K) (E σ) H2 ρ2 (mLcGo it.pins t mt ma S1.length (wipeM m ws) (it.items.drop i) S2) Q) ?_ ?_ ?_ ?_
    · exact ⟨_, _, .refl, sD, RO.mono h (m1.trans moD)⟩
    · rintro i H2 hi ⟨ρ2, S2, mo2, s2, h2⟩
      exact hG H2 ρ2 S2 (moD.trans mo2) s2 (pinsL_of h2)
    · rintro i x H2 H3 hi ⟨ρ2, S2, mo2, s2, h2⟩ hy
      obtain ⟨d, ed, mo3, s3, r3⟩ := hY i H2 x H3 ρ2 S2 hi (moD.trans mo2) s2 (pinsL_of h2) hy
      have e3 : EnvR K H3 ρ2 (wipe σ ws) (wipeM m ws) := ((((er.mo m1).mo moD).mo mo2).mo mo3).wipe ws
      have hd : it.items.drop i = d :: it.items.drop (i + 1) := by
        rw [List.getElem?_eq_getElem hi] at ed
        rw [List.drop_eq_getElem_cons hi, Option.some.inj ed]
      rw [hd] at h2
      unfold mLcGo at h2
      split at h2
      · split at h2
        · exact h2.elim
        · rename_i m' et
          refine ⟨ρ2, wipeM m ws, d, m', e3, r3, et, fun σ' er' k' l' => ⟨?_, ρ2, m', S2, s3, er', ?_⟩⟩
          · refine wipe_eq ?_ fun j hj => ?_
            · rw [l', wipe_length]
            · exact k' j (hv j hj)
          · exact RO.calm (RO.mono h2 mo3) fun k S4 kb H4 ρ4 mo4 s4 r4 h4 => by
              subst r4
              cases kb with
              | false => exact iteF ⟨ρ4, S4, (mo2.trans mo3).trans mo4, s4, h4⟩
              | true =>
                refine iteT ⟨ρ4, m', S4, s4, er'.mo mo4, RO.calm h4 fun y S5 yv H5 ρ5 mo5 s5 r5 h5 => ?_⟩
                split at h5
                · rename_i acc hacc
                  split at h5
                  · rename_i hz
                    have eD5 : ρ5.r[S1.length]? = some D := mo5.ref _ _ (mo4.ref _ _ (mo2.ref _ _ eD))
                    obtain ⟨xs, hu, ru, hz5⟩ := s5.lst eD5 hacc
                    have mo6 : Mo K H5 ρ5 (upd H5 D (.lst (xs ++ [yv]))) ρ5 := .set hu trivial hz5
                    refine ⟨xs, hu, by rw [ru.length]; exact hz, ρ5, _, (((mo2.trans mo3).trans mo4).trans mo5).trans mo6, s5.set (mo := .lst (acc ++ [y])) eD5 hu trivial hz5 ⟨_, upd_same, ?_⟩, RO.mono h5 mo6⟩
                    exact (ru.append (.cons r5 .nil)).mo mo6
                  · exact h5.elim
                · exact h5.elim
      · exact h2.elim
    · rintro H2 ⟨ρ2, S2, mo2, s2, h2⟩
      rw [List.drop_length] at h2
      unfold mLcGo at h2
      split at h2
      · exact h2 _ H2 ρ2 .refl s2 (.ref (mo2.ref _ _ eD))
      · exact h2.elim
theorem pm_lc {elt : Expr} {ifs : List Expr} {scope : Scope} {own : List (Str × Nat)} {f : MI} {vs : List Nat} {t : TgM} (hc : X.calm = true) (hN : X.N.Nodup) (hi : PI X tgE iter (tI X.K E f)) (ok : BlkOk X.N X.env.scope scope own)
    (hg : ∀ (s : Shared) (H : Hp) (C : Addr) (cl : List (Str × Addr)) (fp : List Addr), PG (X.blk s H scope (compEnvC scope cl C X.env) fp) tgE (gM X.K vs t)) (ht : ∀ (s : Shared) (H : Hp) (C : Addr) (cl : List (Str × Addr)) (fp : List Addr), PTs (X.blk s H scope (compEnvC scope cl C X.env) fp) ifs (tT X.K E0' mt))
    (he : ∀ (s : Shared) (H : Hp) (C : Addr) (cl : List (Str × Addr)) (fp : List Addr), PE (X.blk s H scope (compEnvC scope cl C X.env) fp) elt (tE X.K E0' ma)) (hv : ∀ j ∈ vs, j ∈ own.map (·.2) := by decide) (hs : ∀ x, foldedSetIterable iter X.env x = pure x := by intro _; rfl) :
    PE X (.ListComp elt [⟨tgE, iter, ifs, 0⟩] scope pos) (tE X.K E (mLc f (own.map (·.2)) t mt ma)) := PE.imp (pe_lc hc hN hi ok hg ht he hs) fun _ _ _ h => tLc_of (fun j h1 h2 => h1 (hv j h2)) h
theorem psm_setLc (i : Nat) {y : Str} {py spos : Pos} {elt : Expr} {ifs : List Expr} {scope : Scope} {own : List (Str × Nat)} {f : MI} {vs : List Nat} {t : TgM} (hc : X.calm = true) (hN : X.N.Nodup) (hy : X.N[i]? = some y) (hyl : X.env.scope.names.lookup y = some .local)
    (hsw : swapsWith (.ListComp elt [⟨tgE, iter, ifs, 0⟩] scope pos) (some (.Name y py)) spos.line X.env = pure true) (hi : PI X tgE iter (tI X.K E f)) (ok : BlkOk X.N X.env.scope scope own)
    (hg : ∀ (s : Shared) (H : Hp) (C : Addr) (cl : List (Str × Addr)) (fp : List Addr), PG (X.blk s H scope (compEnvC scope cl C X.env) fp) tgE (gM X.K vs t)) (ht : ∀ (s : Shared) (H : Hp) (C : Addr) (cl : List (Str × Addr)) (fp : List Addr), PTs (X.blk s H scope (compEnvC scope cl C X.env) fp) ifs (tT X.K E0' mt))
    (he : ∀ (s : Shared) (H : Hp) (C : Addr) (cl : List (Str × Addr)) (fp : List Addr), PE (X.blk s H scope (compEnvC scope cl C X.env) fp) elt (tE X.K E0' ma)) (hv : ∀ j ∈ vs, j ∈ own.map (·.2) := by decide) (hs : ∀ x, foldedSetIterable iter X.env x = pure x := by intro _; rfl) :
    PS X (.Assign [.Name y py] (.ListComp elt [⟨tgE, iter, ifs, 0⟩] scope pos) spos) (tS X.K E (mSet i (mLc f (own.map (·.2)) t mt ma))) := by
  refine PS.imp (ps_setLc hc hN hy hyl hsw hi ok hg ht he hs) ?_
  rintro D σ H ⟨ρ, m, S, sr, er, h⟩
  refine tLc_of (fun j h1 h2 => h1 (hv j h2)) ⟨ρ, m, S, sr, er, RS.bind er h fun d S1 v H1 ρ1 m1 s1 r1 e1 h1 => h1 _ H1 ρ1 .refl s1 (e1.set r1 i)⟩
end
/-- a def's mirror: N names in all (nothing is raised) -/
def mDef (N : Nat) (f : MS) : List R → Store → Out R := fun ds S => match f (ds.map some ++ List.replicate (N - ds.length) none) S with
  | .rt d S' => .ok d S'
  | .nx _ S' => .ok .non S'
  | _ => .no
theorem okM {P : Program} {w : World} {K : PySem.W.Frag} {mg : Str → Option Value} {base : Heap} {x qual : Str} {st : Stmt} {f : Addr} {fd : FuncData} {N ps : List Str} {k n : Nat} {g : MS} (F : Fun K x qual st f fd) (S : FnScope N ps (defScope st)) (hn : ps.length = n)
    (h : ∀ (cdv : Value) (A : Around) (outer : List PySem.Env) (s : Shared) (H : Hp) (E : XK), Room k (A.deeper (envOfC qual (defScope st) s.heap.objs.size f cdv)) → PSs (cxOf CX0 P w K mg base N qual (defScope st) f cdv A outer s H E).nox (defBody st) (tS K E0' g)) :
    FnOk P w K mg base CX0 (k + 1) f fd ps (spM K n (mDef N.length g)) := by
  refine F.ok S (fun vs H Q E h => h.1.trans hn.symm) (fun cdv A outer s H vs Q E hr hq => ⟨_, h cdv A outer s H E hr, ?_⟩)
  obtain ⟨hl, ρ, S1, ds, sr, r, q⟩ := hq
  refine ⟨ρ, _, S1, sr, EnvR.start r, ?_⟩
  unfold mDef at q
  generalize g (ds.map some ++ List.replicate (N.length - ds.length) none) S1 = o at q ⊢
  cases o with
  | rt d S' => exact q
  | nx m S' => exact fun σ' H' ρ' mo s _ => q _ H' ρ' mo s .non
  | exc c m S' => exact q.elim
  | bk m S' => exact q.elim
  | ct m S' => exact q.elim
  | no => exact q
end M
namespace M
open PySem PySem.Spec L2
open PyProof.Rows hiding St
@[irreducible] def smBits : Nat := 400000
@[irreducible] def dvBits : Nat := 9000
theorem smBits_eq : smBits = 400000 := by unfold smBits; rfl
theorem dvBits_eq : dvBits = 9000 := by unfold dvBits; rfl
@[irreducible] def smLine : Nat := 2 ^ smBits
@[irreducible] def dvLine : Nat := 2 ^ dvBits
theorem smLine_eq : smLine = 2 ^ smBits := by unfold smLine; rfl
theorem dvLine_eq : dvLine = 2 ^ dvBits := by unfold dvLine; rfl
theorem sm_lt {i : Int} (k : Nat) (h : i.natAbs < 2 ^ k) (hk : k ≤ 400000) : i.natAbs < smLine := by
  rw [smLine_eq]; exact Nat.lt_of_lt_of_le h (Nat.pow_le_pow_right (by decide) (by rw [smBits_eq]; exact hk))
theorem dv_lt {i : Int} (k : Nat) (h : i.natAbs < 2 ^ k) (hk : k ≤ 9000) : i.natAbs < dvLine := by
  rw [dvLine_eq]; exact Nat.lt_of_lt_of_le h (Nat.pow_le_pow_right (by decide) (by rw [dvBits_eq]; exact hk))
theorem mulW {i j : Int} (h : i.natAbs < smLine ∧ j.natAbs < smLine) : CMulW i j := by
  rw [smLine_eq] at h
  exact wide_mul h.1 h.2 (by rw [smBits_eq]; decide) (by rw [smBits_eq]; decide) (by rw [smBits_eq]; decide)
theorem divW {j : Int} (h : 0 < j ∧ j.natAbs < dvLine) {i : Int} : CDivW i j := by
  rw [dvLine_eq] at h
  exact wide_div h.1 h.2 (by rw [dvBits_eq]; decide) (by rw [dvBits_eq]; decide)
@[irreducible] def shLine : Nat := 2 ^ 60
theorem shLine_eq : shLine = 2 ^ 60 := by unfold shLine; rfl
/-- what stands there now, by value -/
def view (S : Store) (r : R) : Option D := (frz 8 S r).map (·.1)
theorem view_ok {K : PySem.W.Frag} {H : Hp} {ρ : Wd} {S : Store} {v : V} {r : R} {d : D} (sr : SR K H ρ S) (q : Rq K H ρ v r) (e : view S r = some d) : ∃ z', Rp K H ⟨ρ.r, z'⟩ v d := by
  obtain ⟨p, e1, e2⟩ := Option.map_eq_some_iff.mp e
  subst e2
  obtain ⟨z', _, _, r1⟩ := frz_ok 8 S r p.1 p.2 ρ v e1 sr q
  exact ⟨z', r1⟩
theorem view_v (S : Store) (d : D) : view S (.v d) = some d := by simp [view, frz_v]
theorem view_ref {S : Store} {n : Nat} {ds : List D} (h : S[n]? = some (.lst (ds.map .v))) : view S (.ref n) = some (.lst ds) := by
  simp [view, frz, h, frzA_map]
theorem frz_ref {S : Store} {n : Nat} {k : Nat} {ds : List D} (h : S[n]? = some (.lst (ds.map .v))) : frz (k + 1) S (.ref n) = some (.lst ds, S.set n (.fz (.lst ds))) := by
  simp [frz, h, frzA_map]
mutual
def D.py : D → Option PyData
  | .non => some .none
  | .bl b => some (.bool b)
  | .int i => some (.int i)
  | .str x => some (.str x)
  | .ty _ => none
  | .tup ds => (D.pys ds).map .tuple
  | .lst ds => (D.pys ds).map .list
  | .kl ds => (D.pys ds).map .list
  | .dct _ _ => none
  | .txt => none
  | .kt _ => none
def D.pys : List D → Option (List PyData)
  | [] => some []
  | d :: ds => (D.py d).bind fun p => (D.pys ds).bind fun ps => some (p :: ps)
end
section
variable {X : Cx} {K : PySem.W.Frag} {H : Hp} {ρ : Wd} {S : Store}
mutual
theorem dp_of : ∀ (d : D) (v : V) (p : PyData), Rp K H ρ v d → d.py = some p → Dp K H v p
  | .non, v, p, r, e => by cases r; cases e; exact .non
  | .bl b, v, p, r, e => by cases r; cases e; exact .bl b
  | .int b, v, p, r, e => by cases r; cases e; exact .int b
  | .str b, v, p, r, e => by cases r; cases e; exact .str b
  | .ty b, v, p, r, e => by cases e
  | .tup ds, v, p, r, e => by
    cases r with
    | tup hs ra =>
      obtain ⟨ps, e1, e2⟩ := Option.map_eq_some_iff.mp (show (D.pys ds).map PyData.tuple = some p from e)
      subst e2
      exact .tup (sqT_at hs) (dpA_of ds _ ps ra e1)
  | .lst ds, v, p, r, e => by
    cases r with
    | lst hs ra =>
      obtain ⟨ps, e1, e2⟩ := Option.map_eq_some_iff.mp (show (D.pys ds).map PyData.list = some p from e)
      subst e2
      exact .lst hs.sq (dpA_of ds _ ps ra e1)
  | .kl ds, v, p, r, e => by
    cases r with
    | kl hs ra =>
      obtain ⟨ps, e1, e2⟩ := Option.map_eq_some_iff.mp (show (D.pys ds).map PyData.list = some p from e)
      subst e2
      exact .lst hs.sq (dpA_of ds _ ps ra e1)
  | .dct ks ds, v, p, r, e => by cases e
  | .txt, v, p, r, e => by cases e
  | .kt _, v, p, r, e => by cases e
theorem dpA_of : ∀ (ds : List D) (xs : List V) (ps : List PyData), RpA K H ρ xs ds → D.pys ds = some ps → DpAll K H xs ps
  | [], xs, ps, r, e => by cases r; cases e; exact .nil
  | d :: ds, xs, ps, r, e => by
    cases r with
    | cons r1 r2 =>
      obtain ⟨p, e1, e2⟩ := Option.bind_eq_some_iff.mp (show ((D.py d).bind fun p => (D.pys ds).bind fun ps => some (p :: ps)) = some ps from e)
      obtain ⟨qs, e3, e4⟩ := Option.bind_eq_some_iff.mp e2
      cases e4
      exact .cons (dp_of d _ p r1 e1) (dpA_of ds _ qs r2 e3)
end
/-- .. of a form that == walks -/
def D.pyS (d : D) : Option PyData := d.py.bind fun p => if SeqAt.shaped p = true then some p else none
theorem pyS_dp {v : V} {d : D} {p : PyData} (r : Rp K H ρ v d) (e : d.pyS = some p) : Dp K H v p ∧ SeqAt.shaped p = true := by
  obtain ⟨q, e1, e2⟩ := Option.bind_eq_some_iff.mp e
  split at e2
  · cases e2; exact ⟨dp_of d v _ r e1, by assumption⟩
  · cases e2
def pyOf (S : Store) (r : R) : Option PyData := (view S r).bind D.pyS
theorem pyOf_dp (sr : SR K H ρ S) {v : V} {r : R} {p : PyData} (q : Rq K H ρ v r) (e : pyOf S r = some p) : Dp K H v p ∧ SeqAt.shaped p = true := by
  obtain ⟨d, e1, e2⟩ := Option.bind_eq_some_iff.mp e
  obtain ⟨z', r1⟩ := view_ok sr q e1
  exact pyS_dp r1 e2
def opAdd (d e : R) (S : Store) : Out R := match d, e with
  | .v (.int i), .v (.int j) => .ok (.int (i + j)) S
  | .v (.int i), .v (.bl k) => .ok (.int (i + b2i k)) S
  | .v (.str x), .v (.str y) => if x.length + y.length ≤ sizeLine then .ok (.str (x ++ y)) S else .no
  | .v (.tup xs), .v (.tup ys) => if xs.length + ys.length ≤ sizeLine then .ok (.tup (xs ++ ys)) S else .no
  | .v (.lst xs), .v (.lst ys) => if xs.length + ys.length ≤ sizeLine then .ok (.ref S.length) (S ++ [.lst (xs.map .v ++ ys.map .v)]) else .no
  | .v (.lst xs), .ref k => match lsOf S k with
    | some ys => if xs.length + ys.length ≤ sizeLine then .ok (.ref S.length) (S ++ [.lst (xs.map .v ++ ys)]) else .no
    | none => .no
  | .ref n, .v (.lst ys) => match lsOf S n with
    | some xs => if xs.length + ys.length ≤ sizeLine then .ok (.ref S.length) (S ++ [.lst (xs ++ ys.map .v)]) else .no
    | none => .no
  | .ref n, .ref k => match lsOf S n, lsOf S k with
    | some xs, some ys => if xs.length + ys.length ≤ sizeLine then .ok (.ref S.length) (S ++ [.lst (xs ++ ys)]) else .no
    | _, _ => .no
  | _, _ => .no
theorem SR.lsE {n : Nat} {a : Addr} {ds : List R} (sr : SR K H ρ S) (e : ρ.r[n]? = some a) (h : lsOf S n = some ds) : ∃ xs, H a = some (.lst xs) ∧ RqA K H ρ xs ds := by
  unfold lsOf at h
  obtain ⟨o, h1, h2⟩ := Option.bind_eq_some_iff.mp h
  have q := sr.obj n a o e h1
  unfold seqC at h2
  split at h2
  · cases h2
    obtain ⟨xs, hu, r⟩ := q
    exact ⟨xs, hu, r⟩
  · cases h2
    have q : Rp K H ρ (.ref a) (.lst _) := q
    cases q with
    | lst hs ra => exact ⟨_, hs.2, ra.q⟩
  · cases h2
theorem opm_add : OpM X (binaryOp .Add) opAdd := by
  rintro pins s σ H x y v u Q I rx ry ⟨E, ρ, S, d, e, sr, rd, re, h⟩
  cases rd with
  | v rd =>
    cases re with
    | v re =>
      cases rd <;> cases re <;> first | exact (show False from h).elim | skip
      case int.bl i k => exact op_add_ib pins s σ H _ _ v u Q I rx ry ⟨_, _, rfl, rfl, h _ _ _ .refl sr (.int _)⟩
      case int.int i j => exact op_add pins s σ H _ _ v u Q I rx ry ⟨_, _, rfl, rfl, h _ _ _ .refl sr (.int _)⟩
      case str.str i j =>
        unfold opAdd at h
        simp only at h
        split at h
        · exact op_add_str pins s σ H _ _ v u Q I rx ry ⟨_, _, rfl, rfl, by assumption, h _ _ _ .refl sr (.str _)⟩
        · exact h.elim
      case tup.tup a xs ds hs ra b ys es hs2 ra2 =>
        unfold opAdd at h
        simp only at h
        split at h
        · rename_i hz
          refine op_catA pins s σ H _ _ v u Q I rx ry ⟨_, _, _, _, rfl, rfl, sqT_at hs, sqT_at hs2, by rw [ra.length, ra2.length]; exact hz, fun q => ?_, fun q1 q => ?_, fun q1 q2 p hp => RO.tup sr (ra.append ra2) h hp⟩
          · subst q; cases ra; exact h _ _ _ .refl sr (.v (.tup hs2 ra2))
          · subst q; cases ra2; rw [List.append_nil] at h; exact h _ _ _ .refl sr (.v (.tup hs ra))
        · exact h.elim
      case lst.lst a xs ds hs ra b ys es hs2 ra2 =>
        unfold opAdd at h
        simp only at h
        split at h
        · rename_i hz
          exact op_cat pins s σ H _ _ v u Q I rx ry ⟨_, _, _, _, rfl, rfl, hs.2, hs2.2, by rw [ra.length, ra2.length]; exact hz, fun p hp => RO.lst sr (ra.q.append ra2.q) h hp⟩
        · exact h.elim
    | ref eb =>
      cases rd <;> first | exact (show False from h).elim | skip
      case lst a xs ds hs ra =>
        unfold opAdd at h
        simp only at h
        split at h
        · rename_i ys hy
          split at h
          · rename_i hz
            obtain ⟨bs, hb, rb⟩ := sr.lsE eb hy
            exact op_cat pins s σ H _ _ v u Q I rx ry ⟨_, _, _, _, rfl, rfl, hs.2, hb, by rw [ra.length, rb.length]; exact hz, fun p hp => RO.lst sr (ra.q.append rb) h hp⟩
          · exact h.elim
        · exact h.elim
  | ref ea =>
    cases re with
    | v re =>
      cases re <;> first | exact (show False from h).elim | skip
      case lst b ys es hs2 ra2 =>
        unfold opAdd at h
        simp only at h
        split at h
        · rename_i ys hy
          split at h
          · rename_i hz
            obtain ⟨bs, hb, rb⟩ := sr.lsE ea hy
            exact op_cat pins s σ H _ _ v u Q I rx ry ⟨_, _, _, _, rfl, rfl, hb, hs2.2, by rw [rb.length, ra2.length]; exact hz, fun p hp => RO.lst sr (rb.append ra2.q) h hp⟩
          · exact h.elim
        · exact h.elim
    | ref eb =>
      unfold opAdd at h
      simp only at h
      split at h
      · rename_i xs ys h1 h2
        split at h
        · rename_i hz
          obtain ⟨as, ha, ra⟩ := sr.lsE ea h1
          obtain ⟨bs, hb, rb⟩ := sr.lsE eb h2
          exact op_cat pins s σ H _ _ v u Q I rx ry ⟨_, _, _, _, rfl, rfl, ha, hb, by rw [ra.length, rb.length]; exact hz, fun p hp => RO.lst sr (ra.append rb) h hp⟩
        · exact h.elim
      · exact h.elim
/-- where two ints are wanted -/
def onII {α : Type} (d e : R) (f : Int → Int → Out α) : Out α := match d, e with
  | .v (.int i), .v (.int j) => f i j
  | _, _ => .no
theorem RO.onII {α β : Type} {rel : Hp → Wd → β → α → Prop} {E : XK} {d e : R} {v u : V} {f : Int → Int → Out α} {Q : β → Hp → Prop} (r : Rq K H ρ v d) (r' : Rq K H ρ u e) (h : RO K rel E H ρ (M.onII d e f) Q) : ∃ i j, d = .int i ∧ e = .int j ∧ v = .int i ∧ u = .int j ∧ RO K rel E H ρ (f i j) Q := by
  cases r with
  | ref e => exact h.elim
  | v r =>
    cases r' with
    | ref e => cases r <;> exact (show False from h).elim
    | v r' => cases r <;> cases r' <;> first | exact (show False from h).elim | exact ⟨_, _, rfl, rfl, rfl, rfl, h⟩
def opSub (d e : R) (S : Store) : Out R := onII d e fun i j => .ok (.int (i - j)) S
theorem opm_sub : OpM X (binaryOp .Sub) opSub := by
  rintro pins s σ H x y v u Q I rx ry ⟨E, ρ, S, d, e, sr, rd, re, h⟩
  obtain ⟨i, j, _, _, rfl, rfl, h⟩ := RO.onII rd re h
  exact op_sub pins s σ H _ _ v u Q I rx ry ⟨_, _, rfl, rfl, h _ _ _ .refl sr (.int _)⟩
def opFdiv (d e : R) (S : Store) : Out R := onII d e fun i j => if 0 < j ∧ j.natAbs < dvLine then .ok (.int (i / j)) S else .no
theorem opm_fdiv : OpM X (binaryOp .FloorDiv) opFdiv := by
  rintro pins s σ H x y v u Q I rx ry ⟨E, ρ, S, d, e, sr, rd, re, h⟩
  obtain ⟨i, j, _, _, rfl, rfl, h⟩ := RO.onII rd re h
  split at h
  · rename_i hz
    exact op_fdivW pins s σ H _ _ v u Q I rx ry ⟨_, _, rfl, rfl, divW hz, h _ _ _ .refl sr (.int _)⟩
  · exact h.elim
def opMod (d e : R) (S : Store) : Out R := onII d e fun i j => if 0 < j then .ok (.int (i % j)) S else .no
theorem opm_mod : OpM X (binaryOp .Mod) opMod := by
  rintro pins s σ H x y v u Q I rx ry ⟨E, ρ, S, d, e, sr, rd, re, h⟩
  obtain ⟨i, j, _, _, rfl, rfl, h⟩ := RO.onII rd re h
  split at h
  · exact op_mod pins s σ H _ _ v u Q I rx ry ⟨_, _, rfl, rfl, by assumption, h _ _ _ .refl sr (.int _)⟩
  · exact h.elim
def opPow (d e : R) (S : Store) : Out R := onII d e fun i j => if 0 ≤ j ∧ j ≤ 1000000 ∧ i.natAbs < 2 ^ 64 then .ok (.int (i ^ j.toNat)) S else .no
theorem opm_pow : OpM X (binaryOp .Pow) opPow := by
  rintro pins s σ H x y v u Q I rx ry ⟨E, ρ, S, d, e, sr, rd, re, h⟩
  obtain ⟨i, j, _, _, rfl, rfl, h⟩ := RO.onII rd re h
  split at h
  · exact op_pow pins s σ H _ _ v u Q I rx ry ⟨_, _, rfl, rfl, by assumption, h _ _ _ .refl sr (.int _)⟩
  · exact h.elim
/-- a list many times -/
def repR (k : Int) (xs : List R) : List R := (List.replicate k.toNat xs).flatten
theorem RqA.rep {xs : List V} {ds : List R} (h : RqA K H ρ xs ds) : ∀ n : Nat, RqA K H ρ (List.replicate n xs).flatten (List.replicate n ds).flatten
  | 0 => .nil
  | n + 1 => by
    rw [List.replicate_succ, List.replicate_succ, List.flatten_cons, List.flatten_cons]
    exact RqA.append h (RqA.rep h n)
def opMul (d e : R) (S : Store) : Out R := match d, e with
  | .v (.int i), .v (.int j) => if (i.natAbs < smLine ∧ j.natAbs < smLine) ∨ j.natAbs < shLine then .ok (.int (i * j)) S else .no
  | .v (.lst xs), .v (.int k) => if k < 2 ^ 20 ∧ -(2 ^ 63) ≤ k ∧ xs.length * k.toNat ≤ sizeLine then .ok (.ref S.length) (S ++ [.lst (repR k (xs.map .v))]) else .no
  | .ref n, .v (.int k) => match lsOf S n with
    | some xs => if k < 2 ^ 20 ∧ -(2 ^ 63) ≤ k ∧ xs.length * k.toNat ≤ sizeLine then .ok (.ref S.length) (S ++ [.lst (repR k xs)]) else .no
    | none => .no
  | _, _ => .no
theorem opm_mul : OpM X (binaryOp .Mult) opMul := by
  rintro pins s σ H x y v u Q I rx ry ⟨E, ρ, S, d, e, sr, rd, re, h⟩
  cases re with
  | ref eb =>
    cases rd with
    | ref ea => exact (show False from h).elim
    | v rd => cases rd <;> exact (show False from h).elim
  | v re =>
    cases rd with
    | v rd =>
      cases rd <;> cases re <;> first | exact (show False from h).elim | skip
      case int.int i j =>
        have h : RO X.K (relD X.K) E H ρ (if (i.natAbs < smLine ∧ j.natAbs < smLine) ∨ j.natAbs < shLine then .ok (.int (i * j)) S else .no) Q := h
        split at h
        · rename_i hz
          rcases hz with hz | hz
          · exact op_mulW pins s σ H _ _ v u Q I rx ry ⟨_, _, rfl, rfl, mulW hz, h _ _ _ .refl sr (.int _)⟩
          · rw [shLine_eq] at hz
            exact op_mul pins s σ H _ _ v u Q I rx ry ⟨_, _, rfl, rfl, .inr (by omega), h _ _ _ .refl sr (.int _)⟩
        · exact h.elim
      case lst.int a xs ds hs ra k =>
        unfold opMul at h
        simp only at h
        split at h
        · rename_i hz
          exact op_rep pins s σ H _ _ v u Q I rx ry ⟨_, _, _, rfl, rfl, hs.2, hz.2.1, by omega, by rw [ra.length]; exact hz.2.2, fun p hp => RO.lst sr (ra.q.rep _) h hp⟩
        · exact h.elim
    | ref ea =>
      cases re <;> first | exact (show False from h).elim | skip
      case int k =>
        unfold opMul at h
        simp only at h
        split at h
        · rename_i xs hx
          split at h
          · rename_i hz
            obtain ⟨as, ha, ra⟩ := sr.lsE ea hx
            exact op_rep pins s σ H _ _ v u Q I rx ry ⟨_, _, _, rfl, rfl, ha, hz.2.1, by omega, by rw [ra.length]; exact hz.2.2, fun p hp => RO.lst sr (ra.rep _) h hp⟩
          · exact h.elim
        · exact h.elim
def opNeg (d : R) (S : Store) : Out R := match d with
  | .v (.int i) => .ok (.int (-i)) S
  | _ => .no
theorem unm_neg : UnM X (unaryOp .USub) opNeg := by
  rintro pins s σ H x v Q I rx ⟨E, ρ, S, d, sr, rd, h⟩
  cases rd with
  | ref ea => exact (show False from h).elim
  | v rd =>
    cases rd <;> first | exact (show False from h).elim | skip
    exact un_neg pins s σ H _ v Q I rx ⟨_, rfl, h _ _ _ .refl sr (.int _)⟩
def opIadd (d e : R) (S : Store) : Out R := match d, e with
  | .v (.int i), .v (.int j) => .ok (.int (i + j)) S
  | .v (.str x), .v (.str y) => if x.length + y.length ≤ sizeLine then .ok (.str (x ++ y)) S else .no
  | _, _ => .no
theorem ipm_add : PIp X .Add (rM X.K opIadd) := by
  rintro pins s σ H x y v u Q I rx ry ⟨E, ρ, S, d, e, sr, rd, re, h⟩
  cases rd with
  | ref ea => exact (show False from h).elim
  | v rd =>
  cases re with
  | ref eb => cases rd <;> exact (show False from h).elim
  | v re =>
  cases rd <;> cases re <;> first | exact (show False from h).elim | skip
  case int.int i j => exact ip_add pins s σ H _ _ v u Q I rx ry ⟨_, _, rfl, rfl, h _ _ _ .refl sr (.int _)⟩
  case str.str i j =>
    unfold opIadd at h
    simp only at h
    split at h
    · exact iop_add_str pins s σ H _ _ v u Q I rx ry ⟨_, _, rfl, rfl, by assumption, h _ _ _ .refl sr (.str _)⟩
    · exact h.elim
def opCmpI (p : Int → Int → Bool) (d e : R) (S : Store) : Out R := onII d e fun i j => .ok (.bl (p i j)) S
theorem opm_ge : OpM X (compareOp .GtE) (opCmpI fun i j => decide (j ≤ i)) := by
  rintro pins s σ H x y v u Q I rx ry ⟨E, ρ, S, d, e, sr, rd, re, h⟩
  obtain ⟨i, j, _, _, rfl, rfl, h⟩ := RO.onII rd re h
  exact op_ge pins s σ H _ _ v u Q I rx ry ⟨_, _, rfl, rfl, h _ _ _ .refl sr (.bl _)⟩
theorem opm_lt : OpM X (compareOp .Lt) (opCmpI fun i j => decide (i < j)) := by
  rintro pins s σ H x y v u Q I rx ry ⟨E, ρ, S, d, e, sr, rd, re, h⟩
  obtain ⟨i, j, _, _, rfl, rfl, h⟩ := RO.onII rd re h
  exact op_lt pins s σ H _ _ v u Q I rx ry ⟨_, _, rfl, rfl, h _ _ _ .refl sr (.bl _)⟩
theorem opm_le : OpM X (compareOp .LtE) (opCmpI fun i j => decide (i ≤ j)) := by
  rintro pins s σ H x y v u Q I rx ry ⟨E, ρ, S, d, e, sr, rd, re, h⟩
  obtain ⟨i, j, _, _, rfl, rfl, h⟩ := RO.onII rd re h
  exact op_le pins s σ H _ _ v u Q I rx ry ⟨_, _, rfl, rfl, h _ _ _ .refl sr (.bl _)⟩
theorem opm_gt : OpM X (compareOp .Gt) (opCmpI fun i j => decide (j < i)) := by
  rintro pins s σ H x y v u Q I rx ry ⟨E, ρ, S, d, e, sr, rd, re, h⟩
  obtain ⟨i, j, _, _, rfl, rfl, h⟩ := RO.onII rd re h
  exact op_gt pins s σ H _ _ v u Q I rx ry ⟨_, _, rfl, rfl, h _ _ _ .refl sr (.bl _)⟩
def opEq (d e : R) (S : Store) : Out R := match pyOf S d, pyOf S e with
  | some p, some q => .ok (.bl (PyData.eqv p q)) S
  | _, _ => .no
def opNe (d e : R) (S : Store) : Out R := match pyOf S d, pyOf S e with
  | some p, some q => .ok (.bl (!PyData.eqv p q)) S
  | _, _ => .no
theorem opm_eq (hu : X.A.units + 64 < cLine) : OpM X (compareOp .Eq) opEq := by
  rintro pins s σ H x y v u Q I rx ry ⟨E, ρ, S, d, e, sr, rd, re, h⟩
  unfold opEq at h
  split at h
  · rename_i p q h1 h2
    obtain ⟨d1, s1⟩ := pyOf_dp sr rd h1
    obtain ⟨d2, s2⟩ := pyOf_dp sr re h2
    exact op_eqD hu pins s σ H _ _ v u Q I rx ry ⟨_, _, d1, d2, s1, s2, h _ _ _ .refl sr (.bl _)⟩
  · exact h.elim
theorem opm_ne (hu : X.A.units + 64 < cLine) : OpM X (compareOp .NotEq) opNe := by
  rintro pins s σ H x y v u Q I rx ry ⟨E, ρ, S, d, e, sr, rd, re, h⟩
  unfold opNe at h
  split at h
  · rename_i p q h1 h2
    obtain ⟨d1, s1⟩ := pyOf_dp sr rd h1
    obtain ⟨d2, s2⟩ := pyOf_dp sr re h2
    exact op_neD hu pins s σ H _ _ v u Q I rx ry ⟨_, _, d1, d2, s1, s2, h _ _ _ .refl sr (.bl _)⟩
  · exact h.elim
def seqPy : PyData → Option (List PyData)
  | .list ps => some ps
  | .tuple ps => some ps
  | _ => none
/-- a sign -/
def signOf (x : Str) : Option Nat := match x.cps.toList with
  | [c] => some c
  | _ => none
theorem signOf_eq {x : Str} {c : Nat} (h : signOf x = some c) : x = ⟨#[c]⟩ := by
  unfold signOf at h
  split at h
  · rename_i c' e
    cases h
    cases x with
    | mk a => simp only at e; simp only [Str.mk.injEq]; exact Array.toList_inj.mp (by simpa using e)
  · cases h
def inM (S : Store) (d e : R) : Option Bool := match d, e with
  | .v (.str x), .v (.str z) => (signOf x).map fun c => decide (c ∈ z.cps.toList)
  | d, e => match pyOf S d, (pyOf S e).bind seqPy with
    | some p, some qs => some (qs.any fun z => PyData.eqv z p)
    | _, _ => none
def opIn (d e : R) (S : Store) : Out R := match inM S d e with
  | some k => .ok (.bl k) S
  | none => .no
def opNotIn (d e : R) (S : Store) : Out R := match inM S d e with
  | some k => .ok (.bl (!k)) S
  | none => .no
theorem inM_cases (sr : SR K H ρ S) {d e : R} {x y : V} {k : Bool} (rd : Rq K H ρ x d) (re : Rq K H ρ y e) (h : inM S d e = some k) :
    (∃ c z, x = .str ⟨#[c]⟩ ∧ y = .str z ∧ k = decide (c ∈ z.cps.toList)) ∨ ∃ p q qs, Dp K H x p ∧ Dp K H y q ∧ (q = .list qs ∨ q = .tuple qs) ∧ SeqAt.shaped p = true ∧ SeqAt.shaped q = true ∧ k = qs.any fun z => PyData.eqv z p := by
  have gen : (match pyOf S d, (pyOf S e).bind seqPy with
    | some p, some qs => some (qs.any fun z => PyData.eqv z p)
    | _, _ => none) = some k → ∃ p q qs, Dp K H x p ∧ Dp K H y q ∧ (q = .list qs ∨ q = .tuple qs) ∧ SeqAt.shaped p = true ∧ SeqAt.shaped q = true ∧ k = qs.any fun z => PyData.eqv z p := by
    intro h
    split at h
    · rename_i p qs h1 h2
      obtain ⟨q, h3, h4⟩ := Option.bind_eq_some_iff.mp h2
      obtain ⟨d1, s1⟩ := pyOf_dp sr rd h1
      obtain ⟨d2, s2⟩ := pyOf_dp sr re h3
      refine ⟨p, q, qs, d1, d2, ?_, s1, s2, (Option.some.inj h).symm⟩
      unfold seqPy at h4
      split at h4
      · cases h4; exact .inl rfl
      · cases h4; exact .inr rfl
      · cases h4
    · cases h
  unfold inM at h
  split at h
  · rename_i x' z
    obtain ⟨c, h1, h2⟩ := Option.map_eq_some_iff.mp h
    have := signOf_eq h1
    subst this
    cases rd with
    | v rd =>
      cases rd
      cases re with
      | v re =>
        cases re
        exact .inl ⟨c, z, rfl, rfl, h2.symm⟩
  · exact .inr (gen h)
theorem opm_in (hu : X.A.units + 65 < cLine) : OpM X (compareOp .In) opIn := by
  rintro pins s σ H x y v u Q I rx ry ⟨E, ρ, S, d, e, sr, rd, re, h⟩
  unfold opIn at h
  split at h
  · rename_i k hk
    rcases inM_cases sr rd re hk with ⟨c, z, rfl, rfl, rfl⟩ | ⟨p, q, qs, d1, d2, hq, s1, s2, rfl⟩
    · exact op_in_sign pins s σ H _ _ v u Q I rx ry ⟨_, _, rfl, rfl, h _ _ _ .refl sr (.bl _)⟩
    · rcases hq with rfl | rfl
      · exact op_inD hu pins s σ H _ _ v u Q I rx ry ⟨_, _, d1, d2, s1, s2, h _ _ _ .refl sr (.bl _)⟩
      · obtain ⟨as, r1⟩ := Dp.reads I p x v d1 rx
        obtain ⟨bs, r2⟩ := Dp.reads I (.tuple qs) y u d2 ry
        exact SeqAt.in_tuple_reads r2 r1 (SeqAt.canLay_of_shaped s2) (SeqAt.canLay_of_shaped s1) (PyProof.Rows.room_in_shaped s1 hu) ⟨.bl _, H, I, rfl, h _ _ _ .refl sr (.bl _)⟩
  · exact h.elim
theorem opm_notIn (hu : X.A.units + 65 < cLine) : OpM X (compareOp .NotIn) opNotIn := by
  rintro pins s σ H x y v u Q I rx ry ⟨E, ρ, S, d, e, sr, rd, re, h⟩
  unfold opNotIn at h
  split at h
  · rename_i k hk
    rcases inM_cases sr rd re hk with ⟨c, z, rfl, rfl, rfl⟩ | ⟨p, q, qs, d1, d2, hq, s1, s2, rfl⟩
    · exact op_notIn_sign pins s σ H _ _ v u Q I rx ry ⟨_, _, rfl, rfl, h _ _ _ .refl sr (.bl _)⟩
    · rcases hq with rfl | rfl
      · exact op_notInD hu pins s σ H _ _ v u Q I rx ry ⟨_, _, d1, d2, s1, s2, h _ _ _ .refl sr (.bl _)⟩
      · obtain ⟨as, r1⟩ := Dp.reads I p x v d1 rx
        obtain ⟨bs, r2⟩ := Dp.reads I (.tuple qs) y u d2 ry
        exact SeqAt.notIn_tuple_reads r2 r1 (SeqAt.canLay_of_shaped s2) (SeqAt.canLay_of_shaped s1) (PyProof.Rows.room_in_shaped s1 hu) ⟨.bl _, H, I, rfl, h _ _ _ .refl sr (.bl _)⟩
  · exact h.elim
def isNon : R → Bool
  | .v .non => true
  | _ => false
def isV (d e : R) : Option Bool := match e with
  | .v .non => some (isNon d)
  | .v (.bl b) => match d with
    | .v (.bl a) => some (decide (a = b))
    | _ => none
  | _ => none
def opIs (d e : R) (S : Store) : Out R := match isV d e with
  | some k => .ok (.bl k) S
  | none => .no
def opIsNot (d e : R) (S : Store) : Out R := match isV d e with
  | some k => .ok (.bl (!k)) S
  | none => .no
theorem isN_rq {v : V} {d : R} (r : Rq K H ρ v d) : decide (v = .non) = isNon d := by
  cases r with
  | ref e => rfl
  | v r => cases r <;> rfl
theorem isV_cases {d e : R} {x y : V} {k : Bool} (rd : Rq K H ρ x d) (re : Rq K H ρ y e) (h : isV d e = some k) : (y = .non ∧ k = decide (x = .non)) ∨ ∃ a b, x = .bl a ∧ y = .bl b ∧ k = decide (a = b) := by
  unfold isV at h
  split at h
  · cases h
    cases re with
    | v re => cases re; exact .inl ⟨rfl, (isN_rq rd).symm⟩
  · split at h
    · cases h
      cases re with
      | v re =>
        cases re
        cases rd with
        | v rd => cases rd; exact .inr ⟨_, _, rfl, rfl, rfl⟩
    · cases h
  · cases h
theorem opm_is : OpM X (compareOp .Is) opIs := by
  rintro pins s σ H x y v u Q I rx ry ⟨E, ρ, S, d, e, sr, rd, re, h⟩
  unfold opIs at h
  split at h
  · rename_i k hk
    rcases isV_cases rd re hk with ⟨rfl, rfl⟩ | ⟨a, b, rfl, rfl, rfl⟩
    · exact op_isN pins s σ H _ _ v u Q I rx ry ⟨rfl, h _ _ _ .refl sr (.bl _)⟩
    · exact op_isBl pins s σ H _ _ v u Q I rx ry ⟨_, _, rfl, rfl, h _ _ _ .refl sr (.bl _)⟩
  · exact h.elim
theorem opm_isNot : OpM X (compareOp .IsNot) opIsNot := by
  rintro pins s σ H x y v u Q I rx ry ⟨E, ρ, S, d, e, sr, rd, re, h⟩
  unfold opIsNot at h
  split at h
  · rename_i k hk
    rcases isV_cases rd re hk with ⟨rfl, rfl⟩ | ⟨a, b, rfl, rfl, rfl⟩
    · exact op_notN pins s σ H _ _ v u Q I rx ry ⟨rfl, h _ _ _ .refl sr (.bl _)⟩
    · exact op_notBl pins s σ H _ _ v u Q I rx ry ⟨_, _, rfl, rfl, h _ _ _ .refl sr (.bl _)⟩
  · exact h.elim
end
end M
namespace M
open PySem PySem.Spec L2
open PyProof.Rows hiding St
section
variable {X : Cx} {E : St → XK} {a b c e tgE iter : Expr} {es rest : List Expr} {pos : Pos} {ma mb mc : ME} {mt mu : MT} {mr : MA} {K : PySem.W.Frag} {H : Hp} {ρ : Wd} {S : Store}
theorem atI_rqa {xs : List V} {ds : List R} {i : Int} {d : R} (r : RqA K H ρ xs ds) (h : atI ds i = some d) : ∃ v, atI xs i = some v ∧ Rq K H ρ v d := by
  unfold atI at h ⊢
  rw [r.length]
  cases e : ixN ds.length i with
  | none => rw [e] at h; cases h
  | some j =>
    rw [e] at h
    exact r.get h
def opIx (d e : R) (S : Store) : Out R := match e with
  | .v (.int i) => match d with
    | .v (.str x) => if x.length ≤ sizeLine then (match atI x.cps.toList i with
      | some c => .ok (.str ⟨#[c]⟩) S
      | none => .no) else .no
    | d => match seqOf S d with
      | some ds => match atI ds i with
        | some x => .ok x S
        | none => .no
      | none => .no
  | _ => .no
theorem ixm : IxR X (rM X.K opIx) := by
  rintro value slice pins s σ H x y v u Q I rx ry ⟨E, ρ, S, d, e, sr, rd, re, h⟩ hs
  cases re with
  | ref _ => exact (show False from h).elim
  | v re =>
  cases re <;> first | exact (show False from h).elim | skip
  case int i =>
    have gen : ∀ ds, seqOf S d = some ds → RO X.K (relD X.K) E H ρ (match atI ds i with
        | some x => .ok x S
        | none => .no) Q → wpAny (model X.prog X.w) X.A _ _ _ s := fun ds hds h => by
      split at h
      · rename_i x hx
        obtain ⟨p, xs, rfl, hq, ra⟩ := sr.seq rd hds
        obtain ⟨w, hw, rw'⟩ := atI_rqa ra hx
        rcases hq with hq | hq
        · exact ix_list value slice pins s σ H _ _ v u Q I rx ry ⟨_, _, _, _, rfl, rfl, hq, hw, h _ _ _ .refl sr rw'⟩ hs
        · exact ix_tup value slice pins s σ H _ _ v u Q I rx ry ⟨_, _, _, _, rfl, rfl, hq, hw, h _ _ _ .refl sr rw'⟩ hs
      · exact h.elim
    unfold opIx at h
    simp only at h
    split at h
    · split at h
      · split at h
        · rename_i x hz _ c hc
          cases rd with
          | v rd =>
            cases rd
            exact ix_str value slice pins s σ H _ _ v u Q I rx ry ⟨_, _, _, rfl, rfl, hz, hc, h _ _ _ .refl sr (.str _)⟩ hs
        · exact h.elim
      · exact h.elim
    · split at h
      · rename_i ds hds
        exact gen ds hds h
      · exact h.elim
theorem pm_ix (ha : PE X a (tE X.K E ma)) (hb : PE X b (tE X.K E mb)) (hs : PlainIx b := by exact fun _ _ => rfl) : PE X (.Subscript a b pos) (tE X.K E (mBin opIx ma mb)) := PE.imp (pe_ix ixm ha hb hs) fun _ _ _ h => tOp_of h
abbrev MO_ := Env → Store → Out (Option Int)
def tO (K : PySem.W.Frag) (E : St → XK) (f : MO_) : TO := fun σ H Q => ∃ ρ m S, SR K H ρ S ∧ EnvR K H ρ σ m ∧ RO K (fun _ _ (v d : Option Int) => v = d) (E σ) H ρ (f m S) Q
theorem PO.imp {e : Option Expr} {t t' : TO} (h : PO X e t) (k : ∀ σ H Q, t' σ H Q → t σ H Q) : PO X e t' := ⟨fun pins s σ H Q I q => h.run pins s σ H Q I (k _ _ _ q)⟩
def moN : MO_ := fun _ S => .ok none S
def moS (f : ME) : MO_ := fun m S => (f m S).bind fun d S1 => match d with
  | .v (.int i) => .ok (some i) S1
  | _ => .no
theorem pom_none : PO X none (tO X.K E moN) := PO.imp po_none fun σ H Q ⟨ρ, m, S, sr, er, h⟩ => h _ H ρ .refl sr rfl
theorem pom_some (he : PE X e (tE X.K E ma)) : PO X (some e) (tO X.K E (moS ma)) := by
  refine PO.imp (po_some he) ?_
  rintro σ H Q ⟨ρ, m, S, sr, er, h⟩
  refine ⟨ρ, m, S, sr, er, RO.bind h fun d S1 v H1 ρ1 m1 s1 r1 h1 => ?_⟩
  cases r1 with
  | ref _ => exact (show False from h1).elim
  | v r1 =>
    cases r1 <;> first | exact (show False from h1).elim | exact ⟨_, rfl, h1 _ H1 ρ1 .refl s1 rfl⟩
def cutD {α : Type} (xs : List α) (lo hi : Option Int) : List α := (xs.drop (HT.sIx xs.length 0 lo)).take (HT.sIx xs.length xs.length hi - HT.sIx xs.length 0 lo)
theorem cut_rqa {xs : List V} {ds : List R} {lo hi : Option Int} (r : RqA K H ρ xs ds) : RqA K H ρ (cutV xs lo hi) (cutD ds lo hi) := by
  unfold cutV cutD
  rw [r.length]
  exact (r.drop _).take _
theorem cut_rpa {xs : List V} {ds : List D} {lo hi : Option Int} (r : RpA K H ρ xs ds) : RpA K H ρ (cutV xs lo hi) (cutD ds lo hi) := by
  unfold cutV cutD
  rw [r.length]
  exact (r.drop _).take _
def opSl (d : R) (lo hi : Option Int) (S : Store) : Out R := match d with
  | .v (.tup ds) => .ok (.tup (cutD ds lo hi)) S
  | .v (.str x) => if x.length ≤ sizeLine then .ok (.str (cutS x lo hi)) S else .no
  | d => match lstOf S d with
    | some ds => .ok (.ref S.length) (S ++ [.lst (cutD ds lo hi)])
    | none => .no
def rMS (K : PySem.W.Frag) : V → Option Int → Option Int → Hp → VK → Prop := fun x lo hi H Q => ∃ (E : XK) (ρ : Wd) (S : Store) (d : R), SR K H ρ S ∧ Rq K H ρ x d ∧ RO K (relD K) E H ρ (opSl d lo hi S) Q
theorem slm : SlR X (rMS X.K) := by
  rintro pins s σ H x v vl vu lo hi sl Q I rx hs pl pu ⟨E, ρ, S, d, sr, rd, h⟩
  unfold opSl at h
  split at h
  · rename_i ds
    cases rd with
    | v rd =>
      cases rd with
      | tup hq ra =>
        refine sl_tupA pins s σ H _ v vl vu lo hi sl Q I rx hs pl pu ⟨_, _, rfl, sqT_at hq, fun q => ?_, fun _ p hp => RO.tup sr (cut_rpa ra) h hp⟩
        have e : cutD ds lo hi = ds := by
          unfold cutD
          rw [ra.length] at q
          rw [q.1, q.2]
          simp
        rw [e] at h
        exact h _ _ _ .refl sr (.v (.tup hq ra))
  · cases rd with
    | v rd =>
      cases rd
      split at h
      · exact sl_str pins s σ H _ v vl vu lo hi sl Q I rx hs pl pu ⟨_, rfl, by assumption, h _ _ _ .refl sr (.str _)⟩
      · exact h.elim
  · split at h
    · rename_i ds hds
      obtain ⟨p, xs, rfl, hq, ra⟩ := sr.lsD rd hds
      exact sl_list pins s σ H _ v vl vu lo hi sl Q I rx hs pl pu ⟨_, _, rfl, hq, fun p hp => RO.lst sr (cut_rqa ra) h hp⟩
    · exact h.elim
def mSl (f : ME) (l u : MO_) : ME := fun m S => (f m S).bind fun d S1 => (l m S1).bind fun lo S2 => (u m S2).bind fun hi S3 => opSl d lo hi S3
theorem pm_slice {lo hi : Option Expr} {ml mh : MO_} {p2 : Pos} (he : PE X e (tE X.K E ma)) (hl : PO X lo (tO X.K E ml)) (hu : PO X hi (tO X.K E mh)) : PE X (.Subscript e (.Slice lo hi none p2) pos) (tE X.K E (mSl ma ml mh)) := by
  refine PE.imp (pe_slice slm he hl hu) ?_
  rintro σ H Q ⟨ρ, m, S, sr, er, h⟩
  refine ⟨ρ, m, S, sr, er, RO.bind h fun d S1 v H1 ρ1 m1 s1 r1 h1 => ?_⟩
  refine ⟨ρ1, m, S1, s1, er.mo m1, RO.bind h1 fun lo S2 lo' H2 ρ2 m2 s2 r2 h2 => ?_⟩
  subst r2
  refine ⟨ρ2, m, S2, s2, (er.mo m1).mo m2, RO.bind h2 fun hi S3 hi' H3 ρ3 m3 s3 r3 h3 => ?_⟩
  subst r3
  exact ⟨_, ρ3, S3, d, s3, (r1.mo m2).mo m3, h3⟩
theorem RqA.one {xs : List V} {d : R} (r : RqA K H ρ xs [d]) : ∃ v, xs = [v] ∧ Rq K H ρ v d := by
  cases r with
  | cons r1 r2 => cases r2; exact ⟨_, rfl, r1⟩
theorem RqA.two {xs : List V} {d e : R} (r : RqA K H ρ xs [d, e]) : ∃ v w, xs = [v, w] ∧ Rq K H ρ v d ∧ Rq K H ρ w e := by
  cases r with
  | cons r1 r2 => obtain ⟨w, rfl, r3⟩ := RqA.one r2; exact ⟨_, _, rfl, r1, r3⟩
theorem RpA.two {xs : List V} {d e : D} (r : RpA K H ρ xs [d, e]) : ∃ v w, xs = [v, w] ∧ Rp K H ρ v d ∧ Rp K H ρ w e := by
  cases r with
  | cons r1 r2 => cases r2 with
    | cons r2 r3 => cases r3; exact ⟨_, _, rfl, r1, r2⟩
def biLen (ds : List R) (S : Store) : Out R := match ds with
  | [.v (.str x)] => if x.length ≤ sizeLine then .ok (.int x.length) S else .no
  | [d] => match seqOf S d with
    | some es => .ok (.int es.length) S
    | none => .no
  | _ => .no
theorem cam_len : CaM X (.builtin "len") biLen := by
  rintro pins s σ H xs us Q I rv ⟨E, ρ, S, ds, sr, r, h⟩
  unfold biLen at h
  split at h
  · obtain ⟨v, rfl, r1⟩ := r.one
    cases r1 with
    | v r1 =>
      cases r1
      split at h
      · exact call_len_str pins s σ H _ us Q I rv ⟨_, rfl, by assumption, h _ _ _ .refl sr (.int _)⟩
      · exact h.elim
  · split at h
    · rename_i es hes
      obtain ⟨v, rfl, r1⟩ := r.one
      obtain ⟨p, xs, rfl, hq, ra⟩ := sr.seq r1 hes
      exact call_len_seq pins s σ H _ us Q I rv ⟨_, _, rfl, hq, by rw [ra.length]; exact h _ _ _ .refl sr (.int _)⟩
    · exact h.elim
  · exact h.elim
def biAbs (ds : List R) (S : Store) : Out R := match ds with
  | [.v (.int i)] => .ok (.int (if i < 0 then -i else i)) S
  | _ => .no
theorem cam_abs : CaM X (.builtin "abs") biAbs := by
  rintro pins s σ H xs us Q I rv ⟨E, ρ, S, ds, sr, r, h⟩
  unfold biAbs at h
  split at h
  · obtain ⟨v, rfl, r1⟩ := r.one
    cases r1 with
    | v r1 => cases r1; exact call_abs pins s σ H _ us Q I rv ⟨_, rfl, h _ _ _ .refl sr (.int _)⟩
  · exact h.elim
/-- int of an int, a truth, a text of figures -/
def biInt (ds : List R) (S : Store) : Out R := match ds with
  | [.v (.int i)] => .ok (.int i) S
  | [.v (.bl k)] => .ok (.int (if k = true then 1 else 0)) S
  | [.v (.str x)] => match PySem.intText? x with
    | some n => if x.length ≤ 640 then .ok (.int n) S else .no
    | none => .no
  | _ => .no
theorem cam_int : CaM X (.type "int") biInt := by
  rintro pins s σ H xs us Q I rv ⟨E, ρ, S, ds, sr, r, h⟩
  unfold biInt at h
  split at h
  · obtain ⟨v, rfl, r1⟩ := r.one
    cases r1 with
    | v r1 => cases r1; exact call_int1 pins s σ H _ us Q I rv (.inl ⟨_, rfl, h _ _ _ .refl sr (.int _)⟩)
  · obtain ⟨v, rfl, r1⟩ := r.one
    cases r1 with
    | v r1 => cases r1; exact call_int1 pins s σ H _ us Q I rv (.inr ⟨_, rfl, h _ _ _ .refl sr (.int _)⟩)
  · obtain ⟨v, rfl, r1⟩ := r.one
    split at h
    · rename_i n hn
      split at h
      · cases r1 with
        | v r1 => cases r1; exact call_int_str pins s σ H _ us Q I rv ⟨_, _, rfl, hn, by assumption, h _ _ _ .refl sr (.int _)⟩
      · exact h.elim
    · exact h.elim
  · exact h.elim
def biList (ds : List R) (S : Store) : Out R := match ds with
  | [d] => match seqOf S d with
    | some es => .ok (.ref S.length) (S ++ [.lst es])
    | none => .no
  | _ => .no
theorem cam_list : CaM X (.type "list") biList := by
  rintro pins s σ H xs us Q I rv ⟨E, ρ, S, ds, sr, r, h⟩
  unfold biList at h
  split at h
  · split at h
    · rename_i es hes
      obtain ⟨v, rfl, r1⟩ := r.one
      obtain ⟨p, xs, rfl, hq, ra⟩ := sr.seq r1 hes
      exact call_list_of pins s σ H _ us Q I rv ⟨_, _, rfl, hq, fun l hl => RO.lst sr ra h hl⟩
    · exact h.elim
  · exact h.elim
def biTuple (ds : List R) (S : Store) : Out R := match ds with
  | [.v (.tup es)] => .ok (.tup es) S
  | [d] => match lstOf S d with
    | some es => frzO S es fun ds S2 => .ok (.tup ds) S2
    | none => .no
  | _ => .no
theorem cam_tuple : CaM X (.type "tuple") biTuple := by
  rintro pins s σ H xs us Q I rv ⟨E, ρ, S, ds, sr, r, h⟩
  unfold biTuple at h
  split at h
  · obtain ⟨v, rfl, r1⟩ := r.one
    cases r1 with
    | v r1 =>
      cases r1 with
      | tup hs ra => exact call_tuple_of pins s σ H _ us Q I rv ⟨_, _, rfl, .inr ⟨sqT_at hs, h _ _ _ .refl sr (.v (.tup hs ra))⟩⟩
  · split at h
    · rename_i es hes
      obtain ⟨v, rfl, r1⟩ := r.one
      obtain ⟨p, xs, rfl, hq, ra⟩ := sr.lsD r1 hes
      obtain ⟨es', S2, ρ2, s2, m2, r2, h2⟩ := RO.frz sr ra h
      exact call_tuple_of pins s σ H _ us Q I rv ⟨_, _, rfl, .inl ⟨hq, fun l hl => RO.tup s2 r2 h2 hl⟩⟩
    · exact h.elim
  · exact h.elim
def blsOf : List R → Option (List Bool)
  | [] => some []
  | .v (.bl b) :: r => (blsOf r).map (b :: ·)
  | _ => none
theorem rqa_bls : ∀ {xs : List V} {ds : List R} {bs : List Bool}, RqA K H ρ xs ds → blsOf ds = some bs → xs = bs.map V.bl
  | _, [], bs, r, e => by cases r; cases e; rfl
  | _, d :: ds, bs, r, e => by
    cases r with
    | cons r1 r2 =>
      cases r1 with
      | ref _ => cases e
      | v r1 =>
        cases r1 <;> first | (cases e; done) | skip
        rename_i b
        obtain ⟨cs, e1, e2⟩ := Option.map_eq_some_iff.mp (show (blsOf ds).map (b :: ·) = some bs from e)
        subst e2
        rw [rqa_bls r2 e1]
        rfl
def intsOf : List R → Option (List Int)
  | [] => some []
  | .v (.int b) :: r => (intsOf r).map (b :: ·)
  | _ => none
theorem rqa_ints : ∀ {xs : List V} {ds : List R} {bs : List Int}, RqA K H ρ xs ds → intsOf ds = some bs → xs = bs.map V.int
  | _, [], bs, r, e => by cases r; cases e; rfl
  | _, d :: ds, bs, r, e => by
    cases r with
    | cons r1 r2 =>
      cases r1 with
      | ref _ => cases e
      | v r1 =>
        cases r1 <;> first | (cases e; done) | skip
        rename_i b
        obtain ⟨cs, e1, e2⟩ := Option.map_eq_some_iff.mp (show (intsOf ds).map (b :: ·) = some bs from e)
        subst e2
        rw [rqa_ints r2 e1]
        rfl
def biAll (ds : List R) (S : Store) : Out R := match ds with
  | [d] => match (lstOf S d).bind blsOf with
    | some bs => .ok (.bl (bs.all id)) S
    | none => .no
  | _ => .no
def biAny (ds : List R) (S : Store) : Out R := match ds with
  | [d] => match (lstOf S d).bind blsOf with
    | some bs => .ok (.bl (bs.any id)) S
    | none => .no
  | _ => .no
def biSum (ds : List R) (S : Store) : Out R := match ds with
  | [d] => match (lstOf S d).bind intsOf with
    | some bs => .ok (.int bs.sum) S
    | none => .no
  | _ => .no
theorem cam_all (hc : X.calm = true) : CaM X (.builtin "all") biAll := by
  rintro pins s σ H xs us Q I rv ⟨E, ρ, S, ds, sr, r, h⟩
  unfold biAll at h
  split at h
  · split at h
    · rename_i n bs hbs
      obtain ⟨es, h1, h2⟩ := Option.bind_eq_some_iff.mp hbs
      obtain ⟨v, rfl, r1⟩ := r.one
      obtain ⟨a, xs, rfl, hq, ra⟩ := sr.lsD r1 h1
      exact cr_all hc pins s σ H _ us Q I rv ⟨_, bs, rfl, by rw [← rqa_bls ra h2]; exact hq, h _ _ _ .refl sr (.bl _)⟩
    · exact h.elim
  · exact h.elim
theorem cam_any (hc : X.calm = true) : CaM X (.builtin "any") biAny := by
  rintro pins s σ H xs us Q I rv ⟨E, ρ, S, ds, sr, r, h⟩
  unfold biAny at h
  split at h
  · split at h
    · rename_i n bs hbs
      obtain ⟨es, h1, h2⟩ := Option.bind_eq_some_iff.mp hbs
      obtain ⟨v, rfl, r1⟩ := r.one
      obtain ⟨a, xs, rfl, hq, ra⟩ := sr.lsD r1 h1
      exact cr_any hc pins s σ H _ us Q I rv ⟨_, bs, rfl, by rw [← rqa_bls ra h2]; exact hq, h _ _ _ .refl sr (.bl _)⟩
    · exact h.elim
  · exact h.elim
theorem cam_sum (hc : X.calm = true) : CaM X (.builtin "sum") biSum := by
  rintro pins s σ H xs us Q I rv ⟨E, ρ, S, ds, sr, r, h⟩
  unfold biSum at h
  split at h
  · split at h
    · rename_i n bs hbs
      obtain ⟨es, h1, h2⟩ := Option.bind_eq_some_iff.mp hbs
      obtain ⟨v, rfl, r1⟩ := r.one
      obtain ⟨a, xs, rfl, hq, ra⟩ := sr.lsD r1 h1
      exact cr_sum hc pins s σ H _ us Q I rv ⟨_, bs, rfl, by rw [← rqa_ints ra h2]; exact hq, h _ _ _ .refl sr (.int _)⟩
    · exact h.elim
  · exact h.elim
/-- the greatest, the least of ints (two of them, or a list) -/
def maxL : List Int → Int
  | [] => 0
  | x :: xs => xs.foldl max x
def minL : List Int → Int
  | [] => 0
  | x :: xs => xs.foldl min x
theorem foldl_max_spec : ∀ (xs : List Int) (a : Int), (xs.foldl max a = a ∨ xs.foldl max a ∈ xs) ∧ a ≤ xs.foldl max a ∧ ∀ y ∈ xs, y ≤ xs.foldl max a
  | [], a => by simp
  | x :: xs, a => by
    obtain ⟨h1, h2, h3⟩ := foldl_max_spec xs (max a x)
    simp only [List.foldl_cons, List.mem_cons]
    refine ⟨?_, by omega, fun y hy => ?_⟩
    · rcases h1 with h1 | h1
      · rw [h1]; rcases Int.le_total a x with h | h
        · exact .inr (.inl (by omega))
        · exact .inl (by omega)
      · exact .inr (.inr h1)
    · rcases hy with rfl | hy
      · omega
      · exact h3 y hy
theorem foldl_min_spec : ∀ (xs : List Int) (a : Int), (xs.foldl min a = a ∨ xs.foldl min a ∈ xs) ∧ xs.foldl min a ≤ a ∧ ∀ y ∈ xs, xs.foldl min a ≤ y
  | [], a => by simp
  | x :: xs, a => by
    obtain ⟨h1, h2, h3⟩ := foldl_min_spec xs (min a x)
    simp only [List.foldl_cons, List.mem_cons]
    refine ⟨?_, by omega, fun y hy => ?_⟩
    · rcases h1 with h1 | h1
      · rw [h1]; rcases Int.le_total a x with h | h
        · exact .inl (by omega)
        · exact .inr (.inl (by omega))
      · exact .inr (.inr h1)
    · rcases hy with rfl | hy
      · omega
      · exact h3 y hy
theorem maxL_spec {xs : List Int} (h : xs ≠ []) : maxL xs ∈ xs ∧ ∀ y ∈ xs, y ≤ maxL xs := by
  cases xs with
  | nil => exact absurd rfl h
  | cons x xs =>
    obtain ⟨h1, h2, h3⟩ := foldl_max_spec xs x
    refine ⟨?_, fun y hy => ?_⟩
    · rcases h1 with h1 | h1
      · show xs.foldl max x ∈ _; rw [h1]; simp
      · exact List.mem_cons_of_mem _ h1
    · rcases List.mem_cons.mp hy with rfl | hy
      · exact h2
      · exact h3 y hy
theorem minL_spec {xs : List Int} (h : xs ≠ []) : minL xs ∈ xs ∧ ∀ y ∈ xs, minL xs ≤ y := by
  cases xs with
  | nil => exact absurd rfl h
  | cons x xs =>
    obtain ⟨h1, h2, h3⟩ := foldl_min_spec xs x
    refine ⟨?_, fun y hy => ?_⟩
    · rcases h1 with h1 | h1
      · show xs.foldl min x ∈ _; rw [h1]; simp
      · exact List.mem_cons_of_mem _ h1
    · rcases List.mem_cons.mp hy with rfl | hy
      · exact h2
      · exact h3 y hy
def biMax (ds : List R) (S : Store) : Out R := match ds with
  | [.v (.int i), .v (.int j)] => .ok (.int (if j > i then j else i)) S
  | [d] => match (lstOf S d).bind intsOf with
    | some bs => if bs ≠ [] then .ok (.int (maxL bs)) S else .no
    | none => .no
  | _ => .no
def biMin (ds : List R) (S : Store) : Out R := match ds with
  | [.v (.int i), .v (.int j)] => .ok (.int (if j < i then j else i)) S
  | [d] => match (lstOf S d).bind intsOf with
    | some bs => if bs ≠ [] then .ok (.int (minL bs)) S else .no
    | none => .no
  | _ => .no
theorem cam_max (hc : X.calm = true) : CaM X (.builtin "max") biMax := by
  rintro pins s σ H xs us Q I rv ⟨E, ρ, S, ds, sr, r, h⟩
  unfold biMax at h
  split at h
  · obtain ⟨v, w, rfl, r1, r2⟩ := r.two
    cases r1 with
    | v r1 => cases r2 with
      | v r2 =>
        cases r1; cases r2
        exact call_max2 hc pins s σ H _ us Q I rv ⟨_, _, rfl, h _ _ _ .refl sr (.int _)⟩
  · split at h
    · rename_i n bs hbs
      split at h
      · rename_i hn
        obtain ⟨es, h1, h2⟩ := Option.bind_eq_some_iff.mp hbs
        obtain ⟨v, rfl, r1⟩ := r.one
        obtain ⟨a, xs, rfl, hq, ra⟩ := sr.lsD r1 h1
        refine cr_max hc pins s σ H _ us Q I rv ⟨_, bs, rfl, by rw [← rqa_ints ra h2]; exact hq, List.length_pos_iff.mpr hn, fun m hm hy => ?_⟩
        obtain ⟨q1, q2⟩ := maxL_spec hn
        have e : m = maxL bs := Int.le_antisymm (q2 m hm) (hy _ q1)
        subst e
        exact h _ _ _ .refl sr (.int _)
      · exact h.elim
    · exact h.elim
  · exact h.elim
theorem cam_min (hc : X.calm = true) : CaM X (.builtin "min") biMin := by
  rintro pins s σ H xs us Q I rv ⟨E, ρ, S, ds, sr, r, h⟩
  unfold biMin at h
  split at h
  · obtain ⟨v, w, rfl, r1, r2⟩ := r.two
    cases r1 with
    | v r1 => cases r2 with
      | v r2 =>
        cases r1; cases r2
        exact call_min2 hc pins s σ H _ us Q I rv ⟨_, _, rfl, h _ _ _ .refl sr (.int _)⟩
  · split at h
    · rename_i n bs hbs
      split at h
      · rename_i hn
        obtain ⟨es, h1, h2⟩ := Option.bind_eq_some_iff.mp hbs
        obtain ⟨v, rfl, r1⟩ := r.one
        obtain ⟨a, xs, rfl, hq, ra⟩ := sr.lsD r1 h1
        refine cr_min hc pins s σ H _ us Q I rv ⟨_, bs, rfl, by rw [← rqa_ints ra h2]; exact hq, List.length_pos_iff.mpr hn, fun m hm hy => ?_⟩
        obtain ⟨q1, q2⟩ := minL_spec hn
        have e : m = minL bs := Int.le_antisymm (hy _ q1) (q2 m hm)
        subst e
        exact h _ _ _ .refl sr (.int _)
      · exact h.elim
    · exact h.elim
  · exact h.elim
/-- a built-in type's name -/
def tyD : D → Option String
  | .non => some "NoneType"
  | .bl _ => some "bool"
  | .int _ => some "int"
  | .str _ => some "str"
  | .tup _ => some "tuple"
  | .kl _ => some "list"
  | .lst _ => some "list"
  | .dct _ _ => some "dict"
  | .txt => some "str"
  | .kt _ => some "tuple"
  | .ty _ => none
def tyName (S : Store) : R → Option String
  | .v d => tyD d
  | .ref n => match S[n]? with
    | some (.lst _) => some "list"
    | some (.dK _) => some "dict"
    | some (.dT _) => some "dict"
    | some (.fz d) => tyD d
    | _ => none
theorem tyx_d {v : V} {d : D} {n : String} (r : Rp K H ρ v d) (e : tyD d = some n) : TyX K H v (.type n) := by
  cases r with
  | non => cases e; exact .base .non
  | bl b => cases e; exact .base (.bl b)
  | int i => cases e; exact .base (.int i)
  | str x => cases e; exact .base (.str x)
  | ty n => cases e
  | tup hs ra =>
    cases e
    exact .base (.tup hs)
  | kt hs ra =>
    cases e
    obtain ⟨o, its, n, h1, h2, _⟩ := hs
    exact .kTuple h1 h2
  | kl hs ra =>
    cases e
    rcases hs with ⟨o, hs⟩ | ⟨o, its, n, h1, h2, _⟩
    · exact .base (.frz hs)
    · exact .kList h1 h2
  | lst hs ra => cases e; exact .base (.lst hs.2)
  | dct hz hd hl ra => cases e; exact .base (.dK hd)
  | txt x hx => cases e; exact .base (.str x)
theorem tyx_of (sr : SR K H ρ S) {v : V} {d : R} {n : String} (r : Rq K H ρ v d) (e : tyName S d = some n) : TyX K H v (.type n) := by
  cases r with
  | v r => exact tyx_d r e
  | @ref a k ea =>
    unfold tyName at e
    simp only at e
    split at e
    all_goals first | (cases e; done) | skip
    · rename_i xs hx
      cases e
      obtain ⟨u, hu, ru⟩ := sr.obj _ _ _ ea hx
      exact .base (.lst hu)
    · rename_i xs hx
      cases e
      obtain ⟨u, hu, ru⟩ := sr.obj _ _ _ ea hx
      exact .base (.dK hu)
    · rename_i xs hx
      cases e
      obtain ⟨u, hu, ru⟩ := sr.obj _ _ _ ea hx
      exact .base (.dT hu)
    · rename_i d hx
      exact tyx_d (sr.obj _ _ _ ea hx) e
def biIsi (ds : List R) (S : Store) : Out R := match ds with
  | [d, .v (.ty t)] => match (tyName S d).bind fun n => kitB n t with
    | some k => .ok (.bl k) S
    | none => .no
  | _ => .no
theorem cam_isi : CaM X (.builtin "isinstance") biIsi := by
  rintro pins s σ H xs us Q I rv ⟨E, ρ, S, ds, sr, r, h⟩
  unfold biIsi at h
  split at h
  · split at h
    · rename_i d t _ k hk
      obtain ⟨n, h1, h2⟩ := Option.bind_eq_some_iff.mp hk
      obtain ⟨v, w, rfl, r1, r2⟩ := r.two
      cases r2 with
      | v r2 =>
        cases r2
        exact call_isi pins s σ H _ us Q I rv ⟨_, _, _, _, k, rfl, .ty t, tyx_of sr r1 h1, kit_ty h2, h _ _ _ .refl sr (.bl _)⟩
    · exact h.elim
  · exact h.elim
/-- a built-in type as a value -/
theorem pm_ty {x : Str} {T : String} (hg : Gl X x) (hm : X.mg x = none) (hv : bootBuiltins x = some (.type T)) (hn : x ≠ "__name__" := by decide) (hdb : (x == ("__debug__" : Str)) = false := by decide) : PE X (.Name x pos) (tE X.K E (mC (.ty T))) :=
  pm_c (pe_bltn (v := V.ty T) hg hm hv rfl hn hdb) fun _ _ => .ty T
def tyOk (T : String) (S : Store) : R → Bool
  | .v (.str _) => T == "str"
  | .v (.kl _) => T == "list"
  | .v (.lst _) => T == "list"
  | .v _ => false
  | .ref n => match S[n]? with
    | some (.lst _) => T == "list"
    | some (.dK _) => T == "dict"
    | some (.dT _) => T == "dict"
    | some (.fz (.lst _)) => T == "list"
    | _ => false
theorem tyV_of (sr : SR K H ρ S) {T : String} {v : V} {d : R} (r : Rq K H ρ v d) (e : tyOk T S d = true) : tyV K T v H := by
  cases r with
  | v r =>
    cases r <;> first | (cases e; done) | skip
    case str => exact eq_of_beq e
    case kl hs ra => exact .inl ⟨eq_of_beq e, _, hs.sq⟩
    case lst hs ra => exact .inl ⟨eq_of_beq e, _, hs.sq⟩
  | @ref a k ea =>
    unfold tyOk at e
    simp only at e
    split at e
    all_goals first | (cases e; done) | skip
    · rename_i xs hx
      obtain ⟨u, hu, ru⟩ := sr.obj _ _ _ ea hx
      exact .inl ⟨eq_of_beq e, _, .inl (.inl hu)⟩
    · rename_i xs hx
      obtain ⟨u, hu, ru⟩ := sr.obj _ _ _ ea hx
      exact .inr (.inr (.inl ⟨eq_of_beq e, .inl ⟨_, hu⟩⟩))
    · rename_i xs hx
      obtain ⟨u, hu, ru⟩ := sr.obj _ _ _ ea hx
      exact .inr (.inr (.inl ⟨eq_of_beq e, .inr ⟨_, hu⟩⟩))
    · rename_i ds hx
      have q : Rp K H ρ (.ref a) (.lst _) := sr.obj _ _ _ ea hx
      cases q with
      | lst hs ra => exact .inl ⟨eq_of_beq e, _, hs.sq⟩
def MtMm (X : Cx) (id : String) (g : R → List R → Store → Out R) : Prop := MtR X id (rMM X.K g)
def mMeth (T : String) (g : R → List R → Store → Out R) (f : ME) (r : MA) : ME := fun m S => (f m S).bind fun d S1 => if tyOk T S1 d = true then (r m S1).bind fun ds S2 => g d ds S2 else .no
theorem pm_bm {o : Expr} {name : Str} {apos cpos : Pos} {T id : String} {g : R → List R → Store → Out R} (pa : PlainAttrs T) (slot : Slot T name id) (hty : typeOf (.builtin id) = pure (.type "method_descriptor")) (hm : MtMm X id g) (ho : PE X o (tE X.K E ma)) (ha : PA X (e :: es) (tA X.K E mr))
    (hbase : attributeBase o name X.env (eval o X.env) = eval o X.env := by rfl)
    (hfew : ((backTo cpos (starEach (e :: es) X.env)).all (fun x => !x.1) && (backToKw cpos (keywordEach [] X.env)).all (fun x => x.1.isSome)
      && decide ((e :: es).length + ([] : List Keyword).length + (if ([] : List Keyword).isEmpty then 0 else 1) < 30)) = true := by rfl)
    (hline : (apos.endLine == cpos.line) = true := by rfl) (hs : starEach (e :: es) X.env = (false, eval e X.env) :: starEach es X.env := by rfl) (hplain : (backTo cpos (starEach es X.env)).any (·.1) = false := by rfl) :
    PE X (.Call (.Attribute o name apos) (e :: es) [] cpos) (tE X.K E (mMeth T g ma mr)) := by
  refine PE.imp (pe_bm pa slot hty hm ho ha hbase hfew hline hs hplain) ?_
  rintro σ H Q ⟨ρ, m, S, sr, er, h⟩
  refine ⟨ρ, m, S, sr, er, RO.bind h fun d S1 v H1 ρ1 m1 s1 r1 h1 => ?_⟩
  split at h1
  · rename_i hk
    refine ⟨tyV_of s1 r1 hk, ρ1, m, S1, s1, er.mo m1, RO.bind h1 fun ds S2 xs H2 ρ2 m2 s2 r2 h2 => ?_⟩
    exact ⟨_, ρ2, S2, d, ds, s2, r1.mo m2, r2, h2⟩
  · exact h1.elim
/-- without arguments -/
def mMeth0 (T : String) (g : R → List R → Store → Out R) (f : ME) : ME := fun m S => (f m S).bind fun d S1 => if tyOk T S1 d = true then g d [] S1 else .no
def mtAppend (d : R) (ds : List R) (S : Store) : Out R := match d, ds with
  | .ref n, [y] => match S[n]? with
    | some (.lst xs) => if xs.length < sizeLine then .ok .non (S.set n (.lst (xs ++ [y]))) else .no
    | _ => .no
  | _, _ => .no
theorem mtm_append : MtMm X "list.append" mtAppend := by
  rintro pins s σ H x vs v us Q I rx rv ⟨E, ρ, S, d, ds, sr, rd, r, h⟩
  unfold mtAppend at h
  split at h
  · split at h
    · rename_i n y _ xs hx
      split at h
      · rename_i hz
        cases rd with
        | ref ea =>
          obtain ⟨w, rfl, r1⟩ := r.one
          obtain ⟨zs, hu, ra, hl⟩ := sr.lst ea hx
          refine (mt_append : MtR X "list.append" rAppend) pins s σ H _ _ v us Q I rx rv ⟨_, zs, w, rfl, rfl, hu, by rw [ra.length]; exact hz, ?_⟩
          have mo : Mo X.K H ρ (upd H _ (.lst (zs ++ [w]))) ρ := .set hu trivial hl
          exact h _ _ ρ mo (sr.set (mo := .lst (xs ++ [y])) ea hu trivial hl ⟨_, upd_same, (ra.append (.cons r1 .nil)).mo mo⟩) .non
      · exact h.elim
    · exact h.elim
  · exact h.elim
def mtExtend (d : R) (ds : List R) (S : Store) : Out R := match d, ds with
  | .ref n, [y] => match S[n]?, lstOf S y with
    | some (.lst xs), some zs => if xs.length + zs.length ≤ sizeLine then .ok .non (S.set n (.lst (xs ++ zs))) else .no
    | _, _ => .no
  | _, _ => .no
theorem SR.lsE2 {v : V} {y : R} {ds : List R} (sr : SR K H ρ S) (r : Rq K H ρ v y) (hk : ∀ zs, y ≠ .kl zs) (h : lstOf S y = some ds) : ∃ a xs, v = .ref a ∧ H a = some (.lst xs) ∧ RqA K H ρ xs ds := by
  cases r with
  | v r =>
    cases r <;> first | (cases h; done) | skip
    case lst hs ra => cases h; exact ⟨_, _, rfl, hs.2, ra.q⟩
    case kl hs ra => exact absurd rfl (hk _)
  | ref e =>
    obtain ⟨xs, h1, h2⟩ := sr.lsE e h
    exact ⟨_, xs, rfl, h1, h2⟩
def notKl : R → Bool
  | .v (.kl _) => false
  | _ => true
theorem notKl_of {y : R} (h : notKl y = true) : ∀ zs, y ≠ .kl zs := by
  intro zs e; subst e; cases h
theorem mtm_extend : MtMm X "list.extend" fun d ds S => if ds.all notKl = true then mtExtend d ds S else .no := by
  rintro pins s σ H x vs v us Q I rx rv ⟨E, ρ, S, d, ds, sr, rd, r, h⟩
  replace h : RO X.K (relD X.K) E H ρ (if ds.all notKl = true then mtExtend d ds S else .no) Q := h
  split at h
  · rename_i hk
    unfold mtExtend at h
    split at h
    · split at h
      · rename_i n y xs zs hx hy
        split at h
        · rename_i hz
          cases rd with
          | ref ea =>
            obtain ⟨w, rfl, r1⟩ := r.one
            obtain ⟨ys, hu, ra, hl⟩ := sr.lst ea hx
            obtain ⟨b, bs, rfl, hb, rb⟩ := sr.lsE2 r1 (notKl_of (by simpa using hk)) hy
            refine (mt_extend : MtM X "list.extend" rExtend) pins s σ H _ _ v us Q I rx rv ⟨_, _, ys, bs, rfl, rfl, hu, hb, by rw [ra.length, rb.length]; exact hz, ?_⟩
            have mo : Mo X.K H ρ (upd H _ (.lst (ys ++ bs))) ρ := .set hu trivial hl
            exact h _ _ ρ mo (sr.set (mo := .lst (xs ++ zs)) ea hu trivial hl ⟨_, upd_same, (ra.append rb).mo mo⟩) .non
        · exact h.elim
      · exact h.elim
    · exact h.elim
  · exact h.elim
theorem RqA.dropLast {vs : List V} {ds : List R} (h : RqA K H ρ vs ds) : RqA K H ρ vs.dropLast ds.dropLast := by
  rw [List.dropLast_eq_take, List.dropLast_eq_take, h.length]
  exact h.take _
theorem RqA.eraseIdx {vs : List V} {ds : List R} (h : RqA K H ρ vs ds) : ∀ k : Nat, RqA K H ρ (vs.eraseIdx k) (ds.eraseIdx k) := by
  induction h with
  | nil => intro k; exact .nil
  | cons h1 h2 ih =>
    intro k
    cases k with
    | zero => exact h2
    | succ k => exact .cons h1 (ih k)
/-- pop(), pop(i) -/
def mtPop (d : R) (ds : List R) (S : Store) : Out R := match d, ds with
  | .ref n, [] => match S[n]? with
    | some (.lst xs) => match xs[xs.length - 1]? with
      | some y => .ok y (S.set n (.lst xs.dropLast))
      | none => .no
    | _ => .no
  | .ref n, [.v (.int i)] => match S[n]? with
    | some (.lst xs) => if 0 ≤ i ∧ i < xs.length ∧ xs.length < 2 ^ 62 then (match xs[i.toNat]? with
      | some y => .ok y (S.set n (.lst (xs.eraseIdx i.toNat)))
      | none => .no) else .no
    | _ => .no
  | _, _ => .no
/-- remove(k), of ints -/
def mtRemove (d : R) (ds : List R) (S : Store) : Out R := match d, ds with
  | .ref n, [.v (.int k)] => match S[n]? with
    | some (.lst xs) => match intsOf xs with
      | some ns => if k ∈ ns then .ok .non (S.set n (.lst ((ns.erase k).map .int))) else .no
      | none => .no
    | _ => .no
  | _, _ => .no
theorem mtm_remove : MtMm X "list.remove" mtRemove := by
  rintro pins s σ H x vs v us Q I rx rv ⟨E, ρ, S, d, ds, sr, rd, r, h⟩
  unfold mtRemove at h
  split at h
  · split at h
    · rename_i n k _ xs hx
      split at h
      · rename_i ns hns
        split at h
        · rename_i hk
          cases rd with
          | ref ea =>
            obtain ⟨w0, rfl, r1⟩ := r.one
            cases r1 with
            | v r1 =>
            cases r1
            obtain ⟨zs, hu, ra, hl⟩ := sr.lst ea hx
            have e := rqa_ints ra hns
            subst e
            have key : ∀ (ns : List Int) (k : Int), k ∈ ns → ∃ j, ns[j]? = some k ∧ (∀ m : Nat, m < j → ns[m]? ≠ some k) ∧ ns.eraseIdx j = ns.erase k := by
              intro ns k
              induction ns with
              | nil => intro h; cases h
              | cons x xs ih =>
                intro hm
                by_cases hx : x = k
                · subst hx
                  exact ⟨0, rfl, fun m hm => by omega, by simp⟩
                · obtain ⟨j, h1, h2, h3⟩ := ih (by rcases List.mem_cons.mp hm with h | h; exact absurd h.symm hx; exact h)
                  refine ⟨j + 1, by simpa using h1, fun m hm => ?_, ?_⟩
                  · cases m with
                    | zero => simp; exact hx
                    | succ m => simpa using h2 m (by omega)
                  · rw [List.eraseIdx_cons_succ, h3, List.erase_cons_tail (by simpa using hx)]
            obtain ⟨j, j1, j2, j3⟩ := key ns k hk
            have mo : Mo X.K H ρ (upd H _ (.lst ((ns.eraseIdx j).map V.int))) ρ := .set hu trivial hl
            refine (mt_remove : MtM X "list.remove" rRemI) pins s σ H _ _ v us Q I rx rv ⟨_, ns, k, j, rfl, rfl, hu, j1, j2, h _ _ ρ mo (sr.set (mo := .lst ((ns.erase k).map .int)) ea hu trivial hl ⟨_, upd_same, ?_⟩) .non⟩
            rw [j3]
            have q : ∀ (H' : Hp) (l : List Int), RqA X.K H' ρ (l.map V.int) (l.map R.int) := fun H' l => by
              have := (RpA.ints (K := X.K) (H := H') (ρ := ρ) (ns := l)).q
              rw [List.map_map] at this
              exact this
            exact q _ _
        · exact h.elim
      · exact h.elim
    · exact h.elim
  · exact h.elim
/-- list.index(x): the first equal one (data of any depth) -/
def mtIndex (d : R) (ds : List R) (S : Store) : Out R := match ds with
  | [y] => match pyOf S d, pyOf S y with
    | some (.list ps), some q => match ps.findIdx? (fun z => PyData.eqv z q) with
      | some j => .ok (.int (j : Nat)) S
      | none => .no
    | _, _ => .no
  | _ => .no
theorem mtm_index (hu : X.A.units + 65 < cLine) : MtMm X "list.index" mtIndex := by
  rintro pins s σ H x vs v us Q I rx rv ⟨E, ρ, S, d, ds, sr, rd, r, h⟩
  unfold mtIndex at h
  split at h
  · split at h
    · rename_i y _ _ ps q h1 h2
      split at h
      · rename_i j hj
        obtain ⟨w, rfl, r1⟩ := r.one
        obtain ⟨d1, s1⟩ := pyOf_dp sr rd h1
        obtain ⟨d2, s2⟩ := pyOf_dp sr r1 h2
        have hx : ∃ a, x = V.ref a := by cases d1; exact ⟨_, rfl⟩
        obtain ⟨a, rfl⟩ := hx
        obtain ⟨hlt, hpj, hno⟩ := List.findIdx?_eq_some_iff_getElem.mp hj
        refine mt_indexD hu pins s σ H _ _ v us Q I rx rv ⟨a, w, q, ps, j, ps[j], rfl, rfl, d1, d2, s1, s2, List.getElem?_eq_getElem hlt, hpj, fun m z' hm hz => ?_, h _ _ _ .refl sr (.int _)⟩
        have hml : m < ps.length := by omega
        rw [List.getElem?_eq_getElem hml] at hz
        cases hz
        have := hno m hm
        simpa using this
      · exact h.elim
    · exact h.elim
  · exact h.elim
/-- o[i] = x of a list -/
def setIx (x y d : R) (S : Store) : Option Store := match x, y with
  | .ref n, .v (.int k) => match S[n]? with
    | some (.lst ds) => match ixN ds.length k with
      | some j => some (S.set n (.lst (ds.set j d)))
      | none => none
    | _ => none
  | _, _ => none
theorem setIx_ok {K : PySem.W.Frag} {H : Hp} {ρ : Wd} {S S' : Store} {x y d : R} {xv yv v : V} {Q : Hp → Prop} (sr : SR K H ρ S) (rx : Rq K H ρ xv x) (ry : Rq K H ρ yv y) (rd : Rq K H ρ v d) (h : setIx x y d S = some S')
    (k : ∀ H', Mo K H ρ H' ρ → SR K H' ρ S' → Q H') : rSetL xv yv v H Q := by
  unfold setIx at h
  split at h
  · split at h
    · rename_i n z _ ds hds
      split at h
      · rename_i j hj
        cases h
        cases ry with
        | v ry =>
        cases ry
        cases rx with
        | ref ea =>
          obtain ⟨xs, hu, ra, hl⟩ := sr.lst ea hds
          have mo : Mo K H ρ (upd H _ (.lst (xs.set j v))) ρ := .set hu trivial hl
          exact ⟨_, xs, z, j, rfl, rfl, hu, by rw [ra.length]; exact hj, k _ mo (sr.set (mo := .lst (ds.set j d)) ea hu trivial hl ⟨_, upd_same, (RqA.set rd ra j).mo mo⟩)⟩
      · cases h
    · cases h
  · cases h
def mSetIx (f o i : ME) : MS := fun m S => (f m S).thenS m fun d S1 => (o m S1).thenS m fun x S2 => (i m S2).thenS m fun y S3 => match setIx x y d S3 with
  | some S4 => .nx m S4
  | none => .no
theorem psm_setIx {o i : Expr} {mo mi : ME} {p : Pos} (he : PE X e (tE X.K E ma)) (ho : PE X o (tE X.K E mo)) (hi : PE X i (tE X.K E mi)) (hs : swapsWithSole [.Subscript o i p] e pos.line X.env = pure false := by rfl) (hw : swappedStores [.Subscript o i p] e X.env = pure none := by rfl)
    (h1 : (assignEach [.Subscript o i p] X.env).map (·.2) = [assign (.Subscript o i p) X.env] := by rfl)
    (h2 : ∀ v, assign (.Subscript o i p) X.env v = (do
      let ov ← holding [v] (eval o X.env)
      let iv ← holding [v, ov] (eval i X.env)
      standAt p
      holding [v, ov, iv] (setItem ov iv v)
      release [v, ov, iv] []) := by intro _; rfl) : PS X (.Assign [.Subscript o i p] e pos) (tS X.K E (mSetIx ma mo mi)) := by
  refine PS.imp (ps_asg he (pg_sub ho hi set_list h2) hs hw h1) ?_
  rintro D σ H ⟨ρ, m, S, sr, er, h⟩
  refine ⟨ρ, m, S, sr, er, RS.bind er h fun d S1 v H1 ρ1 m1 s1 r1 e1 h1 => ?_⟩
  refine ⟨ρ1, m, S1, s1, e1, RS.bind e1 h1 fun x S2 xv H2 ρ2 m2 s2 r2 e2 h2 => ?_⟩
  refine ⟨ρ2, m, S2, s2, e2, RS.bind e2 h2 fun y S3 yv H3 ρ3 m3 s3 r3 e3 h3 => ?_⟩
  split at h3
  · rename_i S4 hS4
    exact setIx_ok s3 (r2.mo m3) r3 ((r1.mo m2).mo m3) hS4 fun H4 m4 s4 => h3 σ H4 ρ3 m4 s4 (e3.mo m4)
  · exact h3.elim
/-- o[lo:hi] = .. -/
def gSlice (to : TE) (tl th : TO) : TG := fun v σ H Q => to σ H fun o H1 => tl σ H1 fun l H2 => th σ H2 fun u H3 => ∃ p b xs ys x z, o = .ref p ∧ v = .ref b ∧ l = some x ∧ u = some z ∧ H3 p = some (.lst xs) ∧ H3 b = some (.lst ys) ∧ p ≠ b ∧
  0 ≤ x ∧ x ≤ z ∧ z ≤ xs.length ∧ xs.length + ys.length ≤ sizeLine ∧ Q σ (upd H3 p (.lst (xs.take x.toNat ++ ys ++ xs.drop z.toNat)))
theorem pg_slice {o : Expr} {lo hi : Option Expr} {p2 p : Pos} {to : TE} {tl th : TO} (ho : PE X o to) (hl : PO X lo tl) (hu : PO X hi th)
    (ha : ∀ v, assign (.Subscript o (.Slice lo hi none p2) p) X.env v = (do
      let ov ← holding [v] (eval o X.env)
      let iv ← holding [v, ov] (eval (.Slice lo hi none p2) X.env)
      standAt p
      holding [v, ov, iv] (setItem ov iv v)
      release [iv, v, ov] []) := by intro _; rfl) : PG X (.Subscript o (.Slice lo hi none p2) p) (gSlice to tl th) := by
  refine ⟨fun pins s σ H v u Q I r h => ?_⟩
  rw [ha]
  refine wpAny_bind (wpAny_holding (thn (ho.run pins s σ H _ I h) fun ov s1 ⟨x, H1, I1, r1, q1⟩ => ?_))
  refine wpAny_bind (wpAny_holding ?_)
  refine wpAny_Slice (thn (hl.run pins s1 σ H1 _ I1 q1) fun vl s2 ⟨l, H2, I2, pl, q2⟩ => thn (hu.run pins s2 σ H2 _ I2 q2) fun vu s3 ⟨w, H3, I3, pu, q3⟩ => ?_)
  rw [evalPart_none]
  refine wpAny_pure ?_
  obtain ⟨p', b, xs, ys, x', z, rfl, rfl, rfl, rfl, hp, hb, hne, h0, h1, h2, hz, q⟩ := q3
  have I4 : Inv X pins σ H3 { s3 with heap := s3.heap.push { cls := .type "slice", data := .fields #[vl, vu, .none] } } := I3.kept (t' := s3.toks) fun b ob q => Heap.get?_push_of_some _ q
  cases r1
  cases r
  refine wpAny_bind (wpAny_standAt (wpAny_bind (wpAny_holding ?_)))
  cases pl with
  | int i t =>
    cases pu with
    | int j t' =>
      refine set_slice I4 hp hb hne (Heap.IsSliceOf.new ..) ⟨t, rfl⟩ ⟨t', rfl⟩ h0 h1 h2 hz fun s' I' => ?_
      exact wpAny_release ⟨σ, _, I', q⟩
open Classical in
noncomputable def mSetSl (f o : ME) (l u : MO_) : MS := fun m S => (f m S).thenS m fun d S1 => (o m S1).thenS m fun x S2 => (l m S2).thenS m fun lo S3 => (u m S3).thenS m fun hi S4 => match x, lo, hi with
  | .ref n, some a, some c => match S4[n]?, lstOf S4 d with
    | some (.lst xs), some ys => if notKl d = true ∧ d ≠ .ref n ∧ 0 ≤ a ∧ a ≤ c ∧ c ≤ xs.length ∧ xs.length + ys.length ≤ sizeLine then .nx m (S4.set n (.lst (xs.take a.toNat ++ ys ++ xs.drop c.toNat))) else .no
    | _, _ => .no
  | _, _, _ => .no
theorem psm_setSl {o : Expr} {lo hi : Option Expr} {p2 p : Pos} {mo : ME} {ml mh : MO_} (he : PE X e (tE X.K E ma)) (ho : PE X o (tE X.K E mo)) (hl : PO X lo (tO X.K E ml)) (hu : PO X hi (tO X.K E mh))
    (hs : swapsWithSole [.Subscript o (.Slice lo hi none p2) p] e pos.line X.env = pure false := by rfl) (hw : swappedStores [.Subscript o (.Slice lo hi none p2) p] e X.env = pure none := by rfl)
    (h1 : (assignEach [.Subscript o (.Slice lo hi none p2) p] X.env).map (·.2) = [assign (.Subscript o (.Slice lo hi none p2) p) X.env] := by rfl)
    (h2 : ∀ v, assign (.Subscript o (.Slice lo hi none p2) p) X.env v = (do
      let ov ← holding [v] (eval o X.env)
      let iv ← holding [v, ov] (eval (.Slice lo hi none p2) X.env)
      standAt p
      holding [v, ov, iv] (setItem ov iv v)
      release [iv, v, ov] []) := by intro _; rfl) : PS X (.Assign [.Subscript o (.Slice lo hi none p2) p] e pos) (tS X.K E (mSetSl ma mo ml mh)) := by
  refine PS.imp (ps_asg he (pg_slice ho hl hu h2) hs hw h1) ?_
  rintro D σ H ⟨ρ, m, S, sr, er, h⟩
  refine ⟨ρ, m, S, sr, er, RS.bind er h fun d S1 v H1 ρ1 m1 s1 r1 e1 h1 => ?_⟩
  refine ⟨ρ1, m, S1, s1, e1, RS.bind e1 h1 fun x S2 xv H2 ρ2 m2 s2 r2 e2 h2 => ?_⟩
  refine ⟨ρ2, m, S2, s2, e2, RS.bind e2 h2 fun lo S3 lo' H3 ρ3 m3 s3 r3 e3 h3 => ?_⟩
  subst r3
  refine ⟨ρ3, m, S3, s3, e3, RS.bind e3 h3 fun hi S4 hi' H4 ρ4 m4 s4 r4 e4 h4 => ?_⟩
  subst r4
  split at h4
  · split at h4
    · rename_i n a c _ _ xs ys hx hy
      split at h4
      · rename_i hz
        obtain ⟨z0, z1, z2, z3, z4, z5⟩ := hz
        cases (r2.mo m3).mo m4 with
        | ref ea =>
          obtain ⟨us, hu, ra, hl⟩ := s4.lst ea hx
          have rd4 := ((r1.mo m2).mo m3).mo m4
          obtain ⟨b, ws, rfl, hb, rb⟩ := s4.lsE2 rd4 (notKl_of z0) hy
          have mo : Mo X.K H4 ρ4 (upd H4 _ (.lst (us.take a.toNat ++ ws ++ us.drop c.toNat))) ρ4 := .set hu trivial hl
          refine ⟨_, _, us, ws, a, c, rfl, rfl, rfl, rfl, hu, hb, fun z => z1 ?_, z2, z3, by rw [ra.length]; exact z4, by rw [ra.length, rb.length]; exact z5, h4 σ _ ρ4 mo (s4.set (mo := .lst (xs.take a.toNat ++ ys ++ xs.drop c.toNat)) ea hu trivial hl ⟨_, upd_same, ?_⟩) (e4.mo mo)⟩
          · subst z
            cases rd4 with
            | v rd4 =>
              cases rd4 with
              | lst hs _ => exact absurd hs.1 hl
              | kl _ _ => cases z0
              | _ => cases hy
            | ref eb => rw [nd_at s4.nd eb ea]
          · exact (((ra.take _).append rb).append (ra.drop _)).mo mo
      · exact h4.elim
    · exact h4.elim
  · exact h4.elim
def chars (x : Str) : List R := x.cps.toList.map fun c => .str ⟨#[c]⟩
def srcAny (f : ME) : MI := fun m S => (f m S).bind fun d S1 => match d with
  | .v (.tup ds) => .ok ⟨ds.map .v, []⟩ S1
  | .v (.kt ds) => .ok ⟨ds.map .v, []⟩ S1
  | .v (.lst ds) => .ok ⟨ds.map .v, []⟩ S1
  | .v (.kl ds) => .ok ⟨ds.map .v, []⟩ S1
  | .v (.str x) => .ok ⟨chars x, []⟩ S1
  | .ref n => match S1[n]? with
    | some (.lst ds) => .ok ⟨ds, [(n, .lst ds)]⟩ S1
    | some (.fz (.lst ds)) => .ok ⟨ds.map .v, []⟩ S1
    | _ => .no
  | _ => .no
theorem okSrc_kt {a : Addr} {xs : List V} {ds : List R} (hs : KT' K a xs) (ra : RqA K H ρ xs ds) : okSrc K ⟨ds, []⟩ H ρ (Itt K a) := by
  refine ⟨fun H => SqT K H a xs, YAt xs, by rw [show (⟨ds, []⟩ : Src).items.length = xs.length from ra.length.symm]; exact walk_tup, fun H2 ρ2 S2 mo _ _ => hs.sq, ?_⟩
  rintro i H2 x H3 ρ2 S2 hi mo sr pins ⟨rfl, y⟩
  obtain ⟨d, hd, rd⟩ := ra.get' y
  exact ⟨d, hd, .refl, sr, rd.mo mo⟩
theorem okSrc_tup {a : Addr} {xs : List V} {ds : List R} (hs : H a = some (.tup xs)) (ra : RqA K H ρ xs ds) : okSrc K ⟨ds, []⟩ H ρ (Itt K a) := by
  refine ⟨fun H => SqT K H a xs, YAt xs, by rw [show (⟨ds, []⟩ : Src).items.length = xs.length from ra.length.symm]; exact walk_tup, fun H2 ρ2 S2 mo _ _ => sqT_at (mo.tup _ _ hs), ?_⟩
  rintro i H2 x H3 ρ2 S2 hi mo s2 _ ⟨rfl, hx⟩
  obtain ⟨d, hd, r⟩ := ra.get' hx
  exact ⟨d, hd, .refl, s2, r.mo mo⟩
theorem okSrc_kl {a : Addr} {xs : List V} {ds : List R} (hs : ∀ H' ρ', Mo K H ρ H' ρ' → SqL K H' a xs) (ra : RqA K H ρ xs ds) : okSrc K ⟨ds, []⟩ H ρ (Itl K a) := by
  refine ⟨fun H => SqL K H a xs, YAt xs, by rw [show (⟨ds, []⟩ : Src).items.length = xs.length from ra.length.symm]; exact walk_list, fun H2 ρ2 S2 mo _ _ => hs _ _ mo, ?_⟩
  rintro i H2 x H3 ρ2 S2 hi mo s2 _ ⟨rfl, hx⟩
  obtain ⟨d, hd, r⟩ := ra.get' hx
  exact ⟨d, hd, .refl, s2, r.mo mo⟩
theorem okSrc_ls {a : Addr} {n : Nat} {o : MO} {ds : List R} (ea : ρ.r[n]? = some a) (ho : ∀ S : Store, S[n]? = some o → lsOf S n = some ds) : okSrc K ⟨ds, [(n, o)]⟩ H ρ (Itl K a) := by
  have w : Walk (Itl K a) ds.length (fun H => ∃ xs, SqL K H a xs ∧ xs.length = ds.length) (fun i H x H' => H' = H ∧ ∀ xs, SqL K H a xs → xs[i]? = some x) := by
    refine ⟨fun i H hi q => ?_, fun H q => ?_, fun _ _ _ _ _ _ y => y⟩
    · obtain ⟨xs, q, hl⟩ := q
      exact ⟨xs, xs[i]'(by omega), q, by simp [hl, hi]⟩
    · obtain ⟨xs, q, hl⟩ := q
      exact ⟨xs, q, by omega⟩
  refine ⟨_, _, w, fun H2 ρ2 S2 mo s2 pk => ?_, ?_⟩
  · obtain ⟨xs, q, r⟩ := s2.ls (mo.ref _ _ ea) (ho S2 pk.1)
    exact ⟨xs, q, r.length⟩
  · rintro i H2 x H3 ρ2 S2 hi mo s2 pk ⟨rfl, hx⟩
    obtain ⟨xs, q, r⟩ := s2.ls (mo.ref _ _ ea) (ho S2 pk.1)
    obtain ⟨d, hd, r'⟩ := r.get' (hx xs q)
    exact ⟨d, hd, .refl, s2, r'⟩
theorem okSrc_str {x : Str} : okSrc K ⟨chars x, []⟩ H ρ (Its x) := by
  have hl : (chars x).length = x.cps.size := by simp [chars]
  refine ⟨_, _, by rw [show (⟨chars x, []⟩ : Src).items.length = x.cps.size from hl]; exact walk_str, fun _ _ _ _ _ _ => trivial, ?_⟩
  rintro i H2 v H3 ρ2 S2 hi mo s2 _ ⟨rfl, c, hc, rfl⟩
  refine ⟨.str ⟨#[c]⟩, ?_, .refl, s2, .str _⟩
  show (x.cps.toList.map fun c => R.str ⟨#[c]⟩)[i]? = _
  rw [List.getElem?_map, Array.getElem?_toList, hc]
  rfl
theorem fzl_all {a : Addr} {xs : List V} (hs : FzL H ρ a xs) : ∀ H' ρ', Mo K H ρ H' ρ' → SqL K H' a xs := fun H' ρ' mo => (hs.mono mo).sq
theorem pim_any (he : PE X e (tE X.K E ma)) : PI X tgE e (tI X.K E (srcAny ma)) := by
  refine PI.imp (PI.or (pi_tup he) (PI.or (pi_list he) (pi_str he))) ?_
  rintro σ H R ⟨ρ, m, S, sr, er, h⟩
  unfold srcAny at h
  cases hm : ma m S with
  | no => rw [hm] at h; exact h.elim
  | exc c S1 =>
    rw [hm] at h
    refine .inl ⟨ρ, m, S, sr, er, ?_⟩
    rw [hm]
    exact h
  | ok d S1 =>
    rw [hm] at h
    cases d with
    | v d =>
      cases d with
      | tup ds =>
        refine .inl ⟨ρ, m, S, sr, er, ?_⟩
        rw [hm]
        intro v H1 ρ1 m1 s1 r1
        cases r1 with
        | v r1 =>
        cases r1 with
        | tup hs ra => exact ⟨_, rfl, ⟨_, sqT_at hs⟩, h _ H1 ρ1 m1 s1 (okSrc_tup hs ra.q)⟩
      | kt ds =>
        refine .inl ⟨ρ, m, S, sr, er, ?_⟩
        rw [hm]
        intro v H1 ρ1 m1 s1 r1
        cases r1 with
        | v r1 =>
        cases r1 with
        | kt hs ra => exact ⟨_, rfl, ⟨_, hs.sq⟩, h _ H1 ρ1 m1 s1 (okSrc_kt hs ra.q)⟩
      | kl ds =>
        refine .inr (.inl ⟨ρ, m, S, sr, er, ?_⟩)
        rw [hm]
        intro v H1 ρ1 m1 s1 r1
        cases r1 with
        | v r1 =>
        cases r1 with
        | kl hs ra => exact ⟨_, rfl, ⟨_, hs.sq⟩, h _ H1 ρ1 m1 s1 (okSrc_kl (fun H' ρ' mo => (mo.kl _ _ hs).sq) ra.q)⟩
      | lst ds =>
        refine .inr (.inl ⟨ρ, m, S, sr, er, ?_⟩)
        rw [hm]
        intro v H1 ρ1 m1 s1 r1
        cases r1 with
        | v r1 =>
        cases r1 with
        | lst hs ra => exact ⟨_, rfl, ⟨_, hs.sq⟩, h _ H1 ρ1 m1 s1 (okSrc_kl (fzl_all hs) ra.q)⟩
      | str x =>
        refine .inr (.inr ⟨ρ, m, S, sr, er, ?_⟩)
        rw [hm]
        intro v H1 ρ1 m1 s1 r1
        cases r1 with
        | v r1 =>
        cases r1
        exact ⟨_, rfl, h _ H1 ρ1 m1 s1 okSrc_str⟩
      | _ => exact h.elim
    | ref n =>
      refine .inr (.inl ⟨ρ, m, S, sr, er, ?_⟩)
      rw [hm]
      intro v H1 ρ1 m1 s1 r1
      cases r1 with
      | ref ea =>
        simp only [Out.bind_ok] at h
        split at h
        · rename_i it S' ho
          split at ho
          · rename_i ds hds
            cases ho
            obtain ⟨xs, q, r⟩ := s1.ls (ds := ds) ea (by unfold lsOf; rw [hds]; rfl)
            exact ⟨_, rfl, ⟨_, q⟩, h _ H1 ρ1 m1 s1 (okSrc_ls ea fun S hS => by unfold lsOf; rw [hS]; rfl)⟩
          · rename_i ds hds
            cases ho
            have q : Rp X.K H1 ρ1 (.ref _) (.lst ds) := s1.obj _ _ _ ea hds
            cases q with
            | lst hs ra => exact ⟨_, rfl, ⟨_, hs.sq⟩, h _ H1 ρ1 m1 s1 (okSrc_kl (fzl_all hs) ra.q)⟩
          · cases ho
        · rename_i ho
          split at ho <;> cases ho
        · exact h.elim
/-- lo, lo + 1, .. -/
def rangeD (lo : Int) (n : Nat) : List R := (List.range n).map fun (i : Nat) => .int (lo + (i : Int))
theorem okSrc_range {lo : Int} {n : Nat} : okSrc K ⟨rangeD lo n, []⟩ H ρ (Itr lo n) := by
  have hl : (rangeD lo n).length = n := by simp [rangeD]
  refine ⟨_, _, by rw [show (⟨rangeD lo n, []⟩ : Src).items.length = n from hl]; exact walk_range, fun _ _ _ _ _ _ => trivial, ?_⟩
  rintro i H2 v H3 ρ2 S2 hi mo s2 _ ⟨rfl, rfl⟩
  refine ⟨.int (lo + (i : Int)), ?_, .refl, s2, .int _⟩
  show ((List.range n).map fun (i : Nat) => R.int (lo + (i : Int)))[i]? = _
  rw [List.getElem?_map, List.getElem?_range (by rw [← hl]; exact hi)]
  rfl
/-- within 62 bits -/
@[irreducible] def rgOk (j : Int) : Bool := decide (-(2 ^ 62) ≤ j ∧ j < 2 ^ 62)
theorem rg_of {j : Int} (h0 : -(2 ^ 62) ≤ j) (h1 : j < 2 ^ 62) : rgOk j = true := by unfold rgOk; exact decide_eq_true ⟨h0, h1⟩
theorem of_rg {j : Int} (h : rgOk j = true) : -(2 ^ 62) ≤ j ∧ j < 2 ^ 62 := by unfold rgOk at h; exact of_decide_eq_true h
def rg1 (ds : List R) (S1 : Store) : Out Src := match ds with
  | [.v (.int j)] => if rgOk j = true then .ok ⟨rangeD 0 j.toNat, []⟩ S1 else .no
  | _ => .no
def srcRange1 (r : MA) : MI := fun m S => (r m S).bind rg1
def rg2 (ds : List R) (S1 : Store) : Out Src := match ds with
  | [.v (.int i), .v (.int j)] => if rgOk i = true ∧ rgOk j = true then .ok ⟨rangeD i (j - i).toNat, []⟩ S1 else .no
  | _ => .no
def srcRange2 (r : MA) : MI := fun m S => (r m S).bind rg2
/-- the source by the outcome of the arguments -/
theorem tI_of {f : MA} {g : List R → Store → Out Src} {σ : St} {R : It → Hp → Prop} {P : List V → Hp → Prop} (h : tI K E (fun m S => (f m S).bind g) σ H R)
    (k : ∀ ds S1 xs H1 ρ1, SR K H1 ρ1 S1 → RqA K H1 ρ1 xs ds → (match g ds S1 with
      | .ok it S' => ∀ J H' ρ', Mo K H1 ρ1 H' ρ' → SR K H' ρ' S' → okSrc K it H' ρ' J → R J H'
      | .exc c S' => RO K (fun _ _ (_ : Unit) (_ : Unit) => True) (E σ) H1 ρ1 (.exc c S' : Out Unit) fun _ _ => True
      | .no => False) → P xs H1) : tA K E f σ H P := by
  obtain ⟨ρ, m, S, sr, er, h⟩ := h
  refine ⟨ρ, m, S, sr, er, ?_⟩
  cases hm : f m S with
  | no => simp only [hm, Out.bind_no] at h
  | exc c S1 => simp only [hm, Out.bind_exc] at h; exact h
  | ok ds S1 =>
    simp only [hm, Out.bind_ok] at h
    intro xs H1 ρ1 m1 s1 r1
    refine k ds S1 xs H1 ρ1 s1 r1 ?_
    generalize g ds S1 = o at h ⊢
    cases o with
    | no => exact h
    | exc c S2 => exact fun dx H' ρ' mo s r => h dx H' ρ' (m1.trans mo) s r
    | ok it S2 => exact fun J H' ρ' mo s r => h J H' ρ' (m1.trans mo) s r
theorem pim_range1 {p : Pos} (hg : Gl X "range") (hm : X.mg "range" = none) (ha : PA X [a] (tA X.K E mr)) (hs : starEach [a] X.env = [(false, eval a X.env)] := by rfl) : PI X tgE (.Call (.Name "range" p) [a] [] pos) (tI X.K E (srcRange1 mr)) := by
  refine PI.imp (pi_range1 hg hm ha hs) ?_
  intro σ H R h
  refine tI_of h fun ds S1 xs H1 ρ1 s1 r1 h1 => ?_
  split at h1
  · rename_i it S' ho
    first | unfold rg1 at ho | unfold rg2 at ho
    split at ho
    · split at ho
      · rename_i hz
        cases ho
        obtain ⟨v, rfl, r2⟩ := r1.one
        cases r2 with
        | v r2 =>
        cases r2
        exact ⟨_, rfl, (of_rg hz).1, (of_rg hz).2, h1 _ H1 ρ1 .refl s1 okSrc_range⟩
      · cases ho
    · cases ho
  · rename_i ho
    first | unfold rg1 at ho | unfold rg2 at ho
    split at ho
    · split at ho <;> cases ho
    · cases ho
  · exact h1.elim
end
end M
namespace M
open PySem PySem.Spec L2
open PyProof.Rows hiding St
abbrev opLt := opCmpI fun i j => decide (i < j)
abbrev opLe := opCmpI fun i j => decide (i ≤ j)
abbrev opGt := opCmpI fun i j => decide (j < i)
abbrev opGe := opCmpI fun i j => decide (j ≤ i)
/-- so many arguments -/
def ArgN (n : Nat) (r : MA) : Prop := ∀ m S ds S', r m S = .ok ds S' → ds.length = n
theorem an_nil : ArgN 0 mNil := by
  intro m S ds S' h
  cases h; rfl
theorem an_cons {n : Nat} {a : ME} {r : MA} (h : ArgN n r) : ArgN (n + 1) (mCons a r) := by
  intro m S ds S' e
  unfold mCons at e
  cases h1 : a m S with
  | no => rw [h1] at e; cases e
  | exc c S1 => rw [h1] at e; cases e
  | ok d S1 =>
    rw [h1] at e
    simp only [Out.bind_ok] at e
    cases h2 : r m S1 with
    | no => rw [h2] at e; cases e
    | exc c S2 => rw [h2] at e; cases e
    | ok es S2 =>
      rw [h2] at e
      cases e
      exact congrArg (· + 1) (h m S1 es _ h2)
section
variable {P : Program} {w : World} {K : PySem.W.Frag} {mg : Str → Option Value} {base : Heap}
theorem FnOk.none {CX : CXT} {j n : Nat} {f : Addr} {fd : FuncData} {ps : List Str} (hn : ps.length = n) : FnOk P w K mg base CX j f fd ps (spM K n fun _ _ => .no) :=
  ⟨fun vs H Q E h => h.1.trans hn.symm, fun A outer s H args us vs Q E _ _ _ _ h => by
    obtain ⟨_, ρ, S, ds, _, _, h⟩ := h
    exact h.elim⟩
/-- the law's promise, from what its mirror answers -/
theorem law_sp {g : List R → Store → Out R} {H : Hp} {a : Addr} {ns : List Int} (hO : Only H) (hS : SqL K H a (ns.map V.int)) (h : ∃ S', g [.v (.kl (ns.map D.int))] [] = .ok (.bl true) S') : spM K 1 g [.ref a] H (fun v _ => v = .bl true) fun _ _ _ => False := by
  obtain ⟨S', h⟩ := h
  refine ⟨rfl, ⟨[], fun _ => False⟩, [], [.v (.kl (ns.map D.int))], ⟨List.nodup_nil, rfl, fun n a o e => by simp at e, fun n a o e => by simp at e, fun a h => h.elim, fun n a e => by simp at e⟩, .cons (.v (.kl ?_ RpA.ints)) .nil, ?_⟩
  · rcases hS with (hS | ⟨o, hS⟩) | hS
    · rcases hO a with z | ⟨o, xs, z⟩
      · rw [hS] at z; cases z
      · rw [hS] at z; cases z
    · exact .inl ⟨o, hS⟩
    · exact .inr hS
  · rw [h]
    intro v H' ρ' _ _ r
    cases r with
    | v r => cases r; rfl
end
noncomputable def mDefV (N : Nat) (f : MS) : List R → Store → Out R := fun ds S => (mDef N f ds S).bind (popV S)
section
variable {P : Program} {w : World} {K : PySem.W.Frag} {mg : Str → Option Value} {base : Heap}
theorem FnOk.pop {CX : CXT} {k n : Nat} {f : Addr} {fd : FuncData} {ps : List Str} {g : List R → Store → Out R} (F : FnOk P w K mg base CX k f fd ps (spM K n g)) : FnOk P w K mg base CX k f fd ps (spM K n fun ds S => (g ds S).bind (popV S)) :=
  F.imp fun vs H Q E h => by
    obtain ⟨hl, ρ, S, ds, sr, r, h⟩ := h
    exact ⟨hl, ρ, S, ds, sr, r, RO.pop sr h⟩
theorem okMV {x qual : Str} {st : Stmt} {f : Addr} {fd : FuncData} {N ps : List Str} {k n : Nat} {g : MS} (F : Fun K x qual st f fd) (S : FnScope N ps (defScope st)) (hn : ps.length = n)
    (h : ∀ (cdv : Value) (A : Around) (outer : List PySem.Env) (s : Shared) (H : Hp) (E : XK), Room k (A.deeper (envOfC qual (defScope st) s.heap.objs.size f cdv)) → PSs (cxOf CX0 P w K mg base N qual (defScope st) f cdv A outer s H E).nox (defBody st) (tS K E0' g)) :
    FnOk P w K mg base CX0 (k + 1) f fd ps (spM K n (mDefV N.length g)) := FnOk.pop (okM F S hn h)
end
/-- y = [..] by value -/
noncomputable def mSetP (i : Nat) (f : ME) : MS := fun m S => if i < m.length then mSet i (mPop f) m S else .no
theorem psm_pop {X : Cx} {E : St → XK} {st : Stmt} {i : Nat} {f : ME} (h : PS X st (tS X.K E (mSet i f))) : PS X st (tS X.K E (mSetP i f)) := by
  refine PS.imp h ?_
  rintro D σ H ⟨ρ, m, S, sr, er, h⟩
  refine ⟨ρ, m, S, sr, er, ?_⟩
  unfold mSetP at h
  split at h
  case isFalse => exact h.elim
  rename_i hi
  have h : RS X.K E H ρ (((f m S).bind fun r S' => popV S r S').thenS m fun d S1 => .nx (m.set i (some d)) S1) D := h
  show RS X.K E H ρ ((f m S).thenS m fun d S1 => .nx (m.set i (some d)) S1) D
  generalize f m S = o at h ⊢
  cases o with
  | no => exact h
  | exc c S1 => exact h
  | ok d S1 =>
    intro σ' H' ρ' mo s e
    have h : RS X.K E H ρ ((popV S d S1).thenS m fun d S1 => .nx (m.set i (some d)) S1) D := h
    unfold popV at h
    split at h
    · rename_i p hp
      obtain ⟨v, e1, e2⟩ := e.get i d (by rw [List.getElem?_set_self hi])
      obtain ⟨z', s1, m1, r1⟩ := frz_ok 8 S1 _ p.1 p.2 ρ' v hp s e2
      obtain ⟨r', s2, m2⟩ := sr.cut (mo.trans m1) s1
      refine h σ' H' _ m2 s2 ⟨by rw [List.length_set]; have := e.len; rwa [List.length_set] at this, fun j d' hj => ?_⟩
      by_cases hij : i = j
      · subst hij
        rw [List.getElem?_set_self hi] at hj
        cases hj
        exact ⟨v, e1, .v (Rp.zz _ _ r1)⟩
      · rw [List.getElem?_set_ne hij] at hj
        have e3 : (m.set i (some d))[j]? = some (some d') := by rw [List.getElem?_set_ne hij]; exact hj
        obtain ⟨v', e4, e5⟩ := e.get j d' e3
        obtain ⟨v0, e6, e7⟩ := er.get j d' hj
        refine ⟨v', e4, ?_⟩
        cases d' with
        | v d' =>
          cases e5 with
          | v e5 => exact .v (Rp.zz _ _ (e5.mo m1))
        | ref n =>
          cases e5 with
          | ref ea =>
            cases e7 with
            | ref eb =>
              have := m2.ref n _ eb
              have q := mo.ref n _ eb
              rw [ea] at q
              cases q
              exact .ref this
    · exact h.elim
theorem bb_len : bootBuiltins "len" = some (.builtin "len") := by decide +kernel
theorem bb_abs : bootBuiltins "abs" = some (.builtin "abs") := by decide +kernel
theorem bb_isinstance : bootBuiltins "isinstance" = some (.builtin "isinstance") := by decide +kernel
theorem bb_all : bootBuiltins "all" = some (.builtin "all") := by decide +kernel
theorem bb_any : bootBuiltins "any" = some (.builtin "any") := by decide +kernel
theorem bb_sum : bootBuiltins "sum" = some (.builtin "sum") := by decide +kernel
theorem bb_min : bootBuiltins "min" = some (.builtin "min") := by decide +kernel
theorem bb_max : bootBuiltins "max" = some (.builtin "max") := by decide +kernel
theorem bb_sorted : bootBuiltins "sorted" = some (.builtin "sorted") := by decide +kernel
theorem bb_int : bootBuiltins "int" = some (.type "int") := by decide +kernel
theorem bb_list : bootBuiltins "list" = some (.type "list") := by decide +kernel
theorem bb_tuple : bootBuiltins "tuple" = some (.type "tuple") := by decide +kernel
theorem bb_str : bootBuiltins "str" = some (.type "str") := by decide +kernel
theorem bb_bool : bootBuiltins "bool" = some (.type "bool") := by decide +kernel
end M
namespace M
open PySem hiding Env
open L2
section
variable {a b c : ME} {f g : MS} {t u : MT} {r : MA} {m m' : Env} {S S' S1 S2 : Store} {d e : R}
@[simp] theorem onBl_bl {α : Type} (k : Bool) (f : Bool → Out α) : onBl (.v (.bl k)) f = f k := id rfl
@[simp] theorem mFor_eq (src : MI) (tg : TgM) (body : MS) : mFor src tg body m S = (src m S).thenS m fun it S1 => mForGo it.pins tg body it.items m S1 := id rfl
@[simp] theorem srcRange1_eq : srcRange1 r m S = (r m S).bind rg1 := id rfl
@[simp] theorem srcRange2_eq : srcRange2 r m S = (r m S).bind rg2 := id rfl
theorem rg1_int {j : Int} (h0 : 0 ≤ j) (h1 : j < 2 ^ 62) : rg1 [.v (.int j)] S = .ok ⟨rangeD 0 j.toNat, []⟩ S := if_pos (rg_of (by omega) h1)
theorem srcAny_eq : srcAny a m S = (a m S).bind fun d S1 => match d with
  | .v (.tup ds) => .ok ⟨ds.map .v, []⟩ S1
  | .v (.kt ds) => .ok ⟨ds.map .v, []⟩ S1
  | .v (.lst ds) => .ok ⟨ds.map .v, []⟩ S1
  | .v (.kl ds) => .ok ⟨ds.map .v, []⟩ S1
  | .v (.str x) => .ok ⟨chars x, []⟩ S1
  | .ref n => match S1[n]? with
    | some (.lst ds) => .ok ⟨ds, [(n, .lst ds)]⟩ S1
    | some (.fz (.lst ds)) => .ok ⟨ds.map .v, []⟩ S1
    | _ => .no
  | _ => .no := id rfl
@[simp] theorem onII_int {α : Type} (i j : Int) (f : Int → Int → Out α) : onII (.v (.int i)) (.v (.int j)) f = f i j := id rfl
@[simp] theorem mVar_eq (i : Nat) : mVar i m S = match m[i]? with | some (some d) => .ok d S | _ => .no := id rfl
@[simp] theorem mC_eq : mC d m S = .ok d S := id rfl
@[simp] theorem mBin_eq (op : R → R → Store → Out R) : mBin op a b m S = (a m S).bind fun x S1 => (b m S1).bind fun y S2 => op x y S2 := id rfl
@[simp] theorem mUn_eq (op : R → Store → Out R) : mUn op a m S = (a m S).bind fun x S1 => op x S1 := id rfl
@[simp] theorem mNil_eq : mNil m S = .ok [] S := id rfl
@[simp] theorem mCons_eq : mCons a r m S = (a m S).bind fun d S1 => (r m S1).bind fun ds S2 => .ok (d :: ds) S2 := id rfl
@[simp] theorem mCall_eq (F : List R → Store → Out R) : mCall F r m S = (r m S).bind F := id rfl
@[simp] theorem mTup_eq : mTup r m S = (r m S).bind fun rs S1 => frzO S1 rs fun ds S2 => if ds.length ≤ sizeLine then .ok (.v (.tup ds)) S2 else .no := id rfl
@[simp] theorem mLst_eq : mLst r m S = (r m S).bind fun ds S1 => if ds.length ≤ sizeLine then .ok (.ref S1.length) (S1 ++ [.lst ds]) else .no := id rfl
@[simp] theorem mLstV_eq : mLstV r m S = (r m S).bind fun rs S1 => frzO S1 rs fun ds S2 => if ds.length ≤ sizeLine then .ok (.v (.lst ds)) S2 else .no := id rfl
@[simp] theorem mIf_eq : mIf t a b m S = (t m S).bind fun k S1 => match k with | true => a m S1 | false => b m S1 := id rfl
@[simp] theorem mAnd_eq : mAnd a b m S = (a m S).bind fun k S1 => onBl k fun k => match k with | true => b m S1 | false => .ok (.v (.bl false)) S1 := id rfl
@[simp] theorem mOr_eq : mOr a b m S = (a m S).bind fun k S1 => onBl k fun k => match k with | true => .ok (.v (.bl true)) S1 | false => b m S1 := id rfl
@[simp] theorem mNot_eq : mNot a m S = (a m S).bind fun k S1 => onBl k fun k => .ok (.v (.bl (!k))) S1 := id rfl
@[simp] theorem mtB_eq : mtB a m S = (a m S).bind fun d S1 => onBl d fun k => .ok k S1 := id rfl
@[simp] theorem mtTru_eq : mtTru a m S = (a m S).bind truM := id rfl
@[simp] theorem mtAnd_eq : mtAnd t u m S = (t m S).bind fun k S1 => match k with | true => u m S1 | false => .ok false S1 := id rfl
@[simp] theorem mtOr_eq : mtOr t u m S = (t m S).bind fun k S1 => match k with | true => .ok true S1 | false => u m S1 := id rfl
@[simp] theorem mtNot_eq : mtNot t m S = (t m S).bind fun k S1 => .ok (!k) S1 := id rfl
@[simp] theorem mtYes_eq : mtYes m S = .ok true S := id rfl
@[simp] theorem mMeth_eq (T : String) (F : R → List R → Store → Out R) : mMeth T F a r m S = (a m S).bind fun d S1 => if tyOk T S1 d = true then (r m S1).bind fun ds S2 => F d ds S2 else .no := id rfl
@[simp] theorem mMeth0_eq (T : String) (F : R → List R → Store → Out R) : mMeth0 T F a m S = (a m S).bind fun d S1 => if tyOk T S1 d = true then F d [] S1 else .no := id rfl
@[simp] theorem mSl_eq (l h : MO_) : mSl a l h m S = (a m S).bind fun d S1 => (l m S1).bind fun lo S2 => (h m S2).bind fun hi S3 => opSl d lo hi S3 := id rfl
@[simp] theorem moN_eq : moN m S = .ok none S := id rfl
theorem moS_eq : moS a m S = (a m S).bind fun d S1 => match d with | .v (.int i) => .ok (some i) S1 | _ => .no := id rfl
@[simp] theorem moS_int {i : Int} (h : a m S = .ok (.v (.int i)) S1) : moS a m S = .ok (some i) S1 := by rw [moS_eq, h]; rfl
@[simp] theorem mChain_eq (p q : R → R → Store → Out R) : mChain p q a b c m S = (a m S).bind fun x S1 => (b m S1).bind fun y S2 => (p x y S2).bind fun z S3 => onBl z fun k => match k with
  | true => (c m S3).bind fun w S4 => q y w S4
  | false => .ok (.v (.bl false)) S3 := id rfl
@[simp] theorem mPop_eq : mPop a m S = (a m S).bind fun r S' => popV S r S' := id rfl
@[simp] theorem thenS_ok {α : Type} (x : α) (F : α → Store → OutS) : (Out.ok x S).thenS m F = F x S := id rfl
@[simp] theorem mSkip_eq : mSkip m S = .nx m S := id rfl
@[simp] theorem mSeq_eq : mSeq f g m S = match f m S with | .nx m' S' => g m' S' | o => o := id rfl
@[simp] theorem mBrk_eq : mBrk m S = .bk m S := id rfl
@[simp] theorem mCnt_eq : mCnt m S = .ct m S := id rfl
@[simp] theorem mDrop_eq : mDrop a m S = (a m S).thenS m fun _ S1 => .nx m S1 := id rfl
@[simp] theorem mRet_eq : mRet a m S = (a m S).thenS m fun d S1 => .rt d S1 := id rfl
@[simp] theorem mRetN_eq : mRetN m S = .rt (.v .non) S := id rfl
@[simp] theorem mIfS_eq : mIfS t f g m S = (t m S).thenS m fun k S1 => match k with | true => f m S1 | false => g m S1 := id rfl
@[simp] theorem mSet_eq (i : Nat) : mSet i a m S = (a m S).thenS m fun d S1 => .nx (m.set i (some d)) S1 := id rfl
theorem mSetP_eq (i : Nat) : mSetP i a m S = if i < m.length then mSet i (mPop a) m S else .no := id rfl
@[simp] theorem mSetP_lt (i : Nat) (h : i < m.length) : mSetP i a m S = mSet i (mPop a) m S := if_pos h
@[simp] theorem mPar_eq (i j : Nat) : mPar i j a b m S = (a m S).thenS m fun x S1 => (b m S1).thenS m fun y S2 => .nx ((m.set i (some x)).set j (some y)) S2 := id rfl
@[simp] theorem mAug_eq (i : Nat) (op : R → R → Store → Out R) : mAug i op a m S = (mVar i m S).thenS m fun x S0 => (a m S0).thenS m fun y S1 => (op x y S1).thenS m fun z S2 => .nx (m.set i (some z)) S2 := id rfl
@[simp] theorem mAsg_eq (t : TgM) : mAsg t a m S = (a m S).thenS m fun d S1 => match t d m with | some m' => .nx m' S1 | none => .no := id rfl
@[simp] theorem tgN_eq (i : Nat) : tgN i d m = some (m.set i (some d)) := id rfl
@[simp] theorem tgT_tup (ts : List TgM) (ds : List D) : tgT ts (.v (.tup ds)) m = bindAll ts (ds.map .v) m := id rfl
@[simp] theorem bindAll_nil : bindAll [] [] m = some m := id rfl
@[simp] theorem bindAll_cons (t : TgM) (ts : List TgM) (ds : List R) : bindAll (t :: ts) (d :: ds) m = (t d m).bind fun m' => bindAll ts ds m' := id rfl
@[simp] theorem mSetIx_eq : mSetIx a b c m S = (a m S).thenS m fun d S1 => (b m S1).thenS m fun x S2 => (c m S2).thenS m fun y S3 => match setIx x y d S3 with
  | some S4 => .nx m S4
  | none => .no := id rfl
theorem mDef_rt {N : Nat} {f : MS} {ds : List R} {S S' : Store} {d : R} (h : f (ds.map some ++ List.replicate (N - ds.length) none) S = .rt d S') : mDef N f ds S = .ok d S' := by
  unfold mDef; rw [h]
@[simp] theorem popV_v (S S' : Store) (d : D) : popV S (.v d) S' = .ok (.v d) (cut S S') := by unfold popV; rw [frz_v]
theorem popV_ref {S S' : Store} {n : Nat} {ds : List D} (h : S'[n]? = some (.lst (ds.map .v))) : popV S (.ref n) S' = .ok (.v (.lst ds)) (cut S (S'.set n (.fz (.lst ds)))) := by unfold popV; rw [frz_ref h]
@[simp] theorem cut_self' (S : Store) : cut S S = S := cut_self S
@[simp] theorem cut_app' (S t : Store) : cut S (S ++ t) = S := cut_app t (.refl S)
theorem set_len (S : Store) (c x : MO) (cs : Store) : (S ++ c :: cs).set S.length x = S ++ x :: cs := by
  rw [List.set_append_right _ _ (Nat.le_refl _), Nat.sub_self]; rfl
theorem get_len (S : Store) (c : MO) (cs : Store) : (S ++ c :: cs)[S.length]? = some c := by
  rw [List.getElem?_append_right (Nat.le_refl _), Nat.sub_self]; rfl
/-- a new list, by value -/
theorem popV_new (S : Store) (ds : List D) : popV S (.ref S.length) (S ++ [.lst (ds.map .v)]) = .ok (.v (.lst ds)) S := by
  rw [popV_ref (get_len S _ [])]
  rw [set_len, cut_app']
theorem popV_newU {S T : Store} (ds : List D) (hu : Upd S T) : popV S (.ref T.length) (T ++ [.lst (ds.map .v)]) = .ok (.v (.lst ds)) T := by
  rw [popV_ref (get_len T _ [])]
  rw [set_len, cut_app _ hu]
theorem mDefV_rt {N : Nat} {f : MS} {ds : List R} {S S' : Store} {d : R} {o : Out R} (h : f (ds.map some ++ List.replicate (N - ds.length) none) S = .rt d S') (h2 : popV S d S' = o) : mDefV N f ds S = o := by
  unfold mDefV; rw [mDef_rt h]; exact h2
theorem mDefV_rt0 {N : Nat} {f : MS} {ds : List R} {S : Store} {d : D} (h : f (ds.map some ++ List.replicate (N - ds.length) none) S = .rt (.v d) S) : mDefV N f ds S = .ok (.v d) S :=
  mDefV_rt h (by rw [popV_v, cut_self])
theorem mDefV_rtG {N : Nat} {f : MS} {ds : List R} {S T : Store} {d : D} (t : Store) (h : f (ds.map some ++ List.replicate (N - ds.length) none) S = .rt (.v d) (T ++ t)) (hu : Upd S T) : mDefV N f ds S = .ok (.v d) T :=
  mDefV_rt h (by rw [popV_v, cut_app t hu])
theorem mDefV_rtL {N : Nat} {f : MS} {ds : List R} {S T : Store} {n : Nat} {xs : List D} (t : Store) (h : f (ds.map some ++ List.replicate (N - ds.length) none) S = .rt (.ref n) (T ++ t)) (hn : (T ++ t)[n]? = some (.lst (xs.map .v))) (hT : T.length ≤ n) (hu : Upd S T) : mDefV N f ds S = .ok (.v (.lst xs)) T :=
  mDefV_rt h (by
    rw [popV_ref hn, List.set_append_right _ _ hT, cut_app _ hu])
theorem mDefV_rtU {N : Nat} {f : MS} {ds : List R} {S T : Store} {d : D} (h : f (ds.map some ++ List.replicate (N - ds.length) none) S = .rt (.v d) T) (hu : Upd S T) : mDefV N f ds S = .ok (.v d) T :=
  mDefV_rt h (by rw [popV_v, cut_upd hu])
theorem mSeq_nx {f g : MS} {m m' : Env} {S S' : Store} (h : f m S = .nx m' S') : mSeq f g m S = g m' S' := by rw [mSeq_eq, h]
end
section
variable {S : Store} {n : Nat} {o x y : MO}
theorem lt_of_get (h : S[n]? = some o) : n < S.length := (List.getElem?_eq_some_iff.mp h).1
theorem get_old (h : S[n]? = some o) (cs : Store) : (S ++ cs)[n]? = some o := by rw [List.getElem?_append_left (lt_of_get h), h]
theorem set_old (h : S[n]? = some o) (cs : Store) (x : MO) : (S ++ cs).set n x = S.set n x ++ cs := by rw [List.set_append_left _ _ (lt_of_get h)]
theorem get_ne {S : Store} {n w : Nat} (h : n ≠ w) (c : MO) : (S.set n c)[w]? = S[w]? := List.getElem?_set_ne h
theorem get_set (h : S[n]? = some o) (x : MO) : (S.set n x)[n]? = some x := by rw [List.getElem?_set_self (lt_of_get h)]
@[simp] theorem get_at0 (c : MO) (cs : Store) : (S ++ c :: cs)[S.length]? = some c := get_len S c cs
@[simp] theorem set_at0 (c x : MO) (cs : Store) : (S ++ c :: cs).set S.length x = S ++ x :: cs := set_len S c x cs
@[simp] theorem get_at1 (b c : MO) (cs : Store) : (S ++ b :: c :: cs)[S.length + 1]? = some c := by
  rw [List.getElem?_append_right (by omega), Nat.add_sub_cancel_left]; rfl
@[simp] theorem set_at1 (b c x : MO) (cs : Store) : (S ++ b :: c :: cs).set (S.length + 1) x = S ++ b :: x :: cs := by
  rw [List.set_append_right _ _ (by omega), Nat.add_sub_cancel_left]; rfl
@[simp] theorem get_at2 (a b c : MO) (cs : Store) : (S ++ a :: b :: c :: cs)[S.length + 2]? = some c := by
  rw [List.getElem?_append_right (by omega), Nat.add_sub_cancel_left]; rfl
@[simp] theorem set_at2 (a b c x : MO) (cs : Store) : (S ++ a :: b :: c :: cs).set (S.length + 2) x = S ++ a :: b :: x :: cs := by
  rw [List.set_append_right _ _ (by omega), Nat.add_sub_cancel_left]; rfl
@[simp] theorem get_at3 (z a b c : MO) (cs : Store) : (S ++ z :: a :: b :: c :: cs)[S.length + 3]? = some c := by
  rw [List.getElem?_append_right (by omega), Nat.add_sub_cancel_left]; rfl
@[simp] theorem set_at3 (z a b c x : MO) (cs : Store) : (S ++ z :: a :: b :: c :: cs).set (S.length + 3) x = S ++ z :: a :: b :: x :: cs := by
  rw [List.set_append_right _ _ (by omega), Nat.add_sub_cancel_left]; rfl
@[simp] theorem set_get (h : S[n]? = some o) : S.set n o = S := by
  obtain ⟨hl, e⟩ := List.getElem?_eq_some_iff.mp h
  rw [← e]
  exact List.set_getElem_self hl
@[simp] theorem upd_refl : Upd S S ↔ True := ⟨fun _ => trivial, fun _ => .refl S⟩
theorem lo_lst (ds : List D) (k : Nat) : (MO.lst (ds.map .v)).lo k := by
  intro r hr
  obtain ⟨d, _, rfl⟩ := List.mem_map.mp hr
  trivial
theorem upd_set (n : Nat) {c : MO} (hc : c.lo S.length) : Upd S (S.set n c) := (Upd.refl S).set hc
end
section
variable {S : Store}
@[simp] theorem view_v' (d : D) : view S (.v d) = some d := view_v S d
@[simp] theorem opAdd_int (i j : Int) : opAdd (.v (.int i)) (.v (.int j)) S = .ok (.v (.int (i + j))) S := id rfl
theorem opAdd_str {x y : Str} (h : x.length + y.length ≤ sizeLine) : opAdd (.v (.str x)) (.v (.str y)) S = .ok (.v (.str (x ++ y))) S := if_pos h
theorem opAdd_tup {x y : List D} (h : x.length + y.length ≤ sizeLine) : opAdd (.v (.tup x)) (.v (.tup y)) S = .ok (.v (.tup (x ++ y))) S := if_pos h
theorem opAdd_lst {x y : List D} (h : x.length + y.length ≤ sizeLine) : opAdd (.v (.lst x)) (.v (.lst y)) S = .ok (.ref S.length) (S ++ [.lst (x.map .v ++ y.map .v)]) := if_pos h
/-- list + list, by value -/
theorem popAdd {x y : List D} (h : x.length + y.length ≤ sizeLine) : (opAdd (.v (.lst x)) (.v (.lst y)) S).bind (fun r S' => popV S r S') = .ok (.v (.lst (x ++ y))) S := by
  rw [opAdd_lst h, Out.bind_ok, ← List.map_append]
  exact popV_new S _
@[simp] theorem lsOf_lst {n : Nat} {ds : List R} (h : S[n]? = some (.lst ds)) : lsOf S n = some ds := by unfold lsOf; rw [h]; rfl
@[simp] theorem opSub_int (i j : Int) : opSub (.v (.int i)) (.v (.int j)) S = .ok (.v (.int (i - j))) S := id rfl
theorem opMul_int {i j : Int} (h1 : i.natAbs < smLine) (h2 : j.natAbs < smLine) : opMul (.v (.int i)) (.v (.int j)) S = .ok (.v (.int (i * j))) S := if_pos (.inl ⟨h1, h2⟩)
theorem opFdiv_int {i j : Int} (h1 : 0 < j) (h2 : j.natAbs < dvLine) : opFdiv (.v (.int i)) (.v (.int j)) S = .ok (.v (.int (i / j))) S := if_pos ⟨h1, h2⟩
theorem opMod_int {i j : Int} (h1 : 0 < j) : opMod (.v (.int i)) (.v (.int j)) S = .ok (.v (.int (i % j))) S := if_pos h1
@[simp] theorem opNeg_int (i : Int) : opNeg (.v (.int i)) S = .ok (.v (.int (-i))) S := id rfl
@[simp] theorem opIadd_int (i j : Int) : opIadd (.v (.int i)) (.v (.int j)) S = .ok (.v (.int (i + j))) S := id rfl
@[simp] theorem opCmpI_int (p : Int → Int → Bool) (i j : Int) : opCmpI p (.v (.int i)) (.v (.int j)) S = .ok (.v (.bl (p i j))) S := id rfl
theorem sm64 {i : Int} (h : i.natAbs < 2 ^ 64) : i.natAbs < smLine := sm_lt 64 h (by decide)
theorem dv64 {i : Int} (h : i.natAbs < 2 ^ 64) : i.natAbs < dvLine := dv_lt 64 h (by decide)
theorem shaped_int (i : Int) : SeqAt.shaped (.int i) = true := by simp [SeqAt.shaped, PyData.canLay0, PyData.depth]
theorem shaped_bool (i : Bool) : SeqAt.shaped (.bool i) = true := by simp [SeqAt.shaped, PyData.canLay0, PyData.depth]
theorem shaped_none : SeqAt.shaped .none = true := by simp [SeqAt.shaped, PyData.canLay0, PyData.depth]
theorem shaped_str {x : Str} (h : x.cps.all (· < 0x110000) = true) : SeqAt.shaped (.str x) = true := by simp [SeqAt.shaped, PyData.canLay0, PyData.depth, PyData.strOk, h]
@[simp] theorem pyS_int (i : Int) : D.pyS (.int i) = some (.int i) := by simp [D.pyS, D.py, shaped_int]
@[simp] theorem pyS_bl (i : Bool) : D.pyS (.bl i) = some (.bool i) := by simp [D.pyS, D.py, shaped_bool]
@[simp] theorem pyS_non : D.pyS .non = some .none := by simp [D.pyS, D.py, shaped_none]
theorem pyS_str {x : Str} (h : x.cps.all (· < 0x110000) = true) : D.pyS (.str x) = some (.str x) := by simp [D.pyS, D.py, shaped_str h]
@[simp] theorem pyOf_v (d : D) : pyOf S (.v d) = d.pyS := by simp [pyOf]
theorem pyOf_ref {n : Nat} {ds : List D} (h : S[n]? = some (.lst (ds.map .v))) : pyOf S (.ref n) = D.pyS (.lst ds) := by simp [pyOf, view_ref h]
@[simp] theorem opEq_int (i j : Int) : opEq (.v (.int i)) (.v (.int j)) S = .ok (.v (.bl (i == j))) S := by simp [opEq, PyData.eqv]
@[simp] theorem opNe_int (i j : Int) : opNe (.v (.int i)) (.v (.int j)) S = .ok (.v (.bl (!(i == j)))) S := by simp [opNe, PyData.eqv]
@[simp] theorem opEq_bl (i j : Bool) : opEq (.v (.bl i)) (.v (.bl j)) S = .ok (.v (.bl (i == j))) S := by simp [opEq, PyData.eqv]
@[simp] theorem opNe_bl (i j : Bool) : opNe (.v (.bl i)) (.v (.bl j)) S = .ok (.v (.bl (!(i == j)))) S := by simp [opNe, PyData.eqv]
theorem opEq_str {x y : Str} (hx : x.cps.all (· < 0x110000) = true) (hy : y.cps.all (· < 0x110000) = true) : opEq (.v (.str x)) (.v (.str y)) S = .ok (.v (.bl (x == y))) S := by simp [opEq, pyS_str hx, pyS_str hy, PyData.eqv]
/-- data that == walks: what it is, that it is of the form -/
theorem opEq_py {d e : D} {p q : PyData} (h1 : d.pyS = some p) (h2 : e.pyS = some q) : opEq (.v d) (.v e) S = .ok (.v (.bl (PyData.eqv p q))) S := by simp [opEq, h1, h2]
theorem opNe_py {d e : D} {p q : PyData} (h1 : d.pyS = some p) (h2 : e.pyS = some q) : opNe (.v d) (.v e) S = .ok (.v (.bl (!PyData.eqv p q))) S := by simp [opNe, h1, h2]
@[simp] theorem truM_bl (b : Bool) : truM (.v (.bl b)) S = .ok b S := id rfl
@[simp] theorem truM_int (b : Int) : truM (.v (.int b)) S = .ok (b != 0) S := id rfl
@[simp] theorem truM_non : truM (.v .non) S = .ok false S := id rfl
@[simp] theorem truM_tup (ds : List D) : truM (.v (.tup ds)) S = .ok (!ds.isEmpty) S := id rfl
@[simp] theorem opIs_non (d : R) : opIs d (.v .non) S = .ok (.v (.bl (isNon d))) S := id rfl
@[simp] theorem opIsNot_non (d : R) : opIsNot d (.v .non) S = .ok (.v (.bl (!(isNon d)))) S := id rfl
@[simp] theorem opIs_bl (a b : Bool) : opIs (.v (.bl a)) (.v (.bl b)) S = .ok (.v (.bl (decide (a = b)))) S := id rfl
@[simp] theorem opIsNot_bl (a b : Bool) : opIsNot (.v (.bl a)) (.v (.bl b)) S = .ok (.v (.bl (!decide (a = b)))) S := id rfl
theorem atI_lt {α : Type} {xs : List α} {i : Int} (h0 : 0 ≤ i) : atI xs i = xs[i.toNat]? := by
  unfold atI ixN
  rw [if_pos h0]
  by_cases h : i < (xs.length : Int)
  · rw [if_pos h]; rfl
  · rw [if_neg h, List.getElem?_eq_none (by omega)]; rfl
theorem atI_neg {α : Type} {xs : List α} {i : Int} (h0 : i < 0) (h1 : -i ≤ xs.length) : atI xs i = xs[(i + xs.length).toNat]? := by
  unfold atI ixN
  rw [if_neg (by omega), if_pos (by omega)]
  rfl
theorem atI_map {α β : Type} (f : α → β) (xs : List α) (i : Int) : atI (xs.map f) i = (atI xs i).map f := by
  unfold atI
  rw [List.length_map]
  cases ixN xs.length i with
  | none => rfl
  | some j => simp
theorem atI_some {α : Type} {xs : List α} {i : Int} (h0 : 0 ≤ i) (h : i < xs.length) : ∃ d, atI xs i = some d ∧ d ∈ xs := by
  rw [atI_lt h0]
  have : i.toNat < xs.length := by omega
  exact ⟨xs[i.toNat], List.getElem?_eq_getElem this, List.getElem_mem _⟩
theorem opIx_tup {ds : List D} {i : Int} {d : D} (h : atI ds i = some d) : opIx (.v (.tup ds)) (.v (.int i)) S = .ok (.v d) S := by
  simp [opIx, seqOf, atI_map, h]
theorem opIx_lst {ds : List D} {i : Int} {d : D} (h : atI ds i = some d) : opIx (.v (.lst ds)) (.v (.int i)) S = .ok (.v d) S := by
  simp [opIx, seqOf, atI_map, h]
theorem opIx_kl {ds : List D} {i : Int} {d : D} (h : atI ds i = some d) : opIx (.v (.kl ds)) (.v (.int i)) S = .ok (.v d) S := by
  simp [opIx, seqOf, atI_map, h]
theorem opIx_ref {n : Nat} {ds : List R} {i : Int} {d : R} (h : S[n]? = some (.lst ds)) (h2 : atI ds i = some d) : opIx (.ref n) (.v (.int i)) S = .ok d S := by
  simp [opIx, seqOf, lsOf_lst h, h2]
theorem opIx_str {x : Str} {i : Int} {c : Nat} (h : x.length ≤ sizeLine) (h2 : atI x.cps.toList i = some c) : opIx (.v (.str x)) (.v (.int i)) S = .ok (.v (.str ⟨#[c]⟩)) S := by
  simp [opIx, h, h2]
/-- written places of written sequences -/
@[simp] theorem atI_0 {α : Type} (a : α) (xs : List α) : atI (a :: xs) 0 = some a := by rw [atI_lt (by decide)]; rfl
@[simp] theorem atI_1 {α : Type} (a b : α) (xs : List α) : atI (a :: b :: xs) 1 = some b := by rw [atI_lt (by decide)]; rfl
@[simp] theorem atI_2 {α : Type} (a b c : α) (xs : List α) : atI (a :: b :: c :: xs) 2 = some c := by rw [atI_lt (by decide)]; rfl
@[simp] theorem atI_3 {α : Type} (a b c d : α) (xs : List α) : atI (a :: b :: c :: d :: xs) 3 = some d := by rw [atI_lt (by decide)]; rfl
theorem ixN_lt0 {n : Nat} {k : Int} (h0 : 0 ≤ k) (h1 : k < n) : ixN n k = some k.toNat := by unfold ixN; rw [if_pos h0, if_pos h1]
theorem setIx_ref {n : Nat} {ds : List R} {k : Int} {d : R} (h : S[n]? = some (.lst ds)) (h0 : 0 ≤ k) (h1 : k < ds.length) : setIx (.ref n) (.v (.int k)) d S = some (S.set n (.lst (ds.set k.toNat d))) := by
  unfold setIx; simp only [h, ixN_lt0 h0 h1]
@[simp] theorem frzO_nil {α : Type} (f : List D → Store → Out α) : frzO S [] f = f [] S := by simp [frzO, frzA]
theorem frzO_vs {α : Type} (ds : List D) (f : List D → Store → Out α) : frzO S (ds.map .v) f = f ds S := by simp [frzO, frzA_map]
@[simp] theorem frzO_1 {α : Type} (a : D) (f : List D → Store → Out α) : frzO S [.v a] f = f [a] S := frzO_vs [a] f
@[simp] theorem frzO_2 {α : Type} (a b : D) (f : List D → Store → Out α) : frzO S [.v a, .v b] f = f [a, b] S := frzO_vs [a, b] f
@[simp] theorem frzO_3 {α : Type} (a b c : D) (f : List D → Store → Out α) : frzO S [.v a, .v b, .v c] f = f [a, b, c] S := frzO_vs [a, b, c] f
@[simp] theorem frzO_4 {α : Type} (a b c d : D) (f : List D → Store → Out α) : frzO S [.v a, .v b, .v c, .v d] f = f [a, b, c, d] S := frzO_vs [a, b, c, d] f
@[simp] theorem frzO_5 {α : Type} (a b c d e : D) (f : List D → Store → Out α) : frzO S [.v a, .v b, .v c, .v d, .v e] f = f [a, b, c, d, e] S := frzO_vs [a, b, c, d, e] f
@[simp] theorem frzO_6 {α : Type} (a b c d e g : D) (f : List D → Store → Out α) : frzO S [.v a, .v b, .v c, .v d, .v e, .v g] f = f [a, b, c, d, e, g] S := frzO_vs [a, b, c, d, e, g] f
theorem sz_of {n : Nat} (h : n ≤ 16777216) : n ≤ sizeLine := by rw [sizeLine_eq]; exact h
theorem sz_lt {n : Nat} (h : n < 16777216) : n < sizeLine := by rw [sizeLine_eq]; exact h
@[simp] theorem sz0 : (0 ≤ sizeLine) = True := by simp
@[simp] theorem sz1 : (1 ≤ sizeLine) = True := eq_true (sz_of (by decide))
@[simp] theorem sz2 : (2 ≤ sizeLine) = True := eq_true (sz_of (by decide))
@[simp] theorem sz3 : (3 ≤ sizeLine) = True := eq_true (sz_of (by decide))
@[simp] theorem sz4 : (4 ≤ sizeLine) = True := eq_true (sz_of (by decide))
@[simp] theorem sz5 : (5 ≤ sizeLine) = True := eq_true (sz_of (by decide))
@[simp] theorem sz6 : (6 ≤ sizeLine) = True := eq_true (sz_of (by decide))
@[simp] theorem sz7 : (7 ≤ sizeLine) = True := eq_true (sz_of (by decide))
@[simp] theorem sz8 : (8 ≤ sizeLine) = True := eq_true (sz_of (by decide))
@[simp] theorem sz9 : (9 ≤ sizeLine) = True := eq_true (sz_of (by decide))
@[simp] theorem sz10 : (10 ≤ sizeLine) = True := eq_true (sz_of (by decide))
@[simp] theorem szl0 : (0 < sizeLine) = True := eq_true (sz_lt (by decide))
@[simp] theorem szl1 : (1 < sizeLine) = True := eq_true (sz_lt (by decide))
@[simp] theorem biLen_tup (ds : List D) : biLen [.v (.tup ds)] S = .ok (.v (.int ds.length)) S := by simp [biLen, seqOf]
@[simp] theorem biLen_lst (ds : List D) : biLen [.v (.lst ds)] S = .ok (.v (.int ds.length)) S := by simp [biLen, seqOf]
@[simp] theorem biLen_kl (ds : List D) : biLen [.v (.kl ds)] S = .ok (.v (.int ds.length)) S := by simp [biLen, seqOf]
theorem biLen_ref {n : Nat} {ds : List R} (h : S[n]? = some (.lst ds)) : biLen [.ref n] S = .ok (.v (.int ds.length)) S := by simp [biLen, seqOf, lsOf_lst h]
@[simp] theorem biAbs_int (i : Int) : biAbs [.v (.int i)] S = .ok (.v (.int (if i < 0 then -i else i))) S := id rfl
@[simp] theorem biInt_int (i : Int) : biInt [.v (.int i)] S = .ok (.v (.int i)) S := id rfl
@[simp] theorem biInt_bl (i : Bool) : biInt [.v (.bl i)] S = .ok (.v (.int (if i = true then 1 else 0))) S := id rfl
@[simp] theorem biTuple_tup (ds : List D) : biTuple [.v (.tup ds)] S = .ok (.v (.tup ds)) S := id rfl
@[simp] theorem biTuple_lst (ds : List D) : biTuple [.v (.lst ds)] S = .ok (.v (.tup ds)) S := by simp [biTuple, lstOf, frzO_vs]
theorem biTuple_ref {n : Nat} {ds : List D} (h : S[n]? = some (.lst (ds.map .v))) : biTuple [.ref n] S = .ok (.v (.tup ds)) S := by simp [biTuple, lstOf, lsOf_lst h, frzO_vs]
@[simp] theorem biList_tup (ds : List D) : biList [.v (.tup ds)] S = .ok (.ref S.length) (S ++ [.lst (ds.map .v)]) := by simp [biList, seqOf]
@[simp] theorem biList_lst (ds : List D) : biList [.v (.lst ds)] S = .ok (.ref S.length) (S ++ [.lst (ds.map .v)]) := by simp [biList, seqOf]
theorem intsOf_map : ∀ xs : List Int, intsOf (xs.map fun x => R.v (.int x)) = some xs
  | [] => rfl
  | x :: xs => by simp [intsOf, intsOf_map xs]
theorem blsOf_map : ∀ xs : List Bool, blsOf (xs.map fun x => R.v (.bl x)) = some xs
  | [] => rfl
  | x :: xs => by simp [blsOf, blsOf_map xs]
theorem biAll_lst (bs : List Bool) : biAll [.v (.lst (bs.map .bl))] S = .ok (.v (.bl (bs.all id))) S := by
  have := blsOf_map bs
  simp only [biAll, lstOf, List.map_map, Option.bind_some]
  rw [show (R.v ∘ D.bl) = fun x => R.v (.bl x) from rfl, this]
theorem biAny_lst (bs : List Bool) : biAny [.v (.lst (bs.map .bl))] S = .ok (.v (.bl (bs.any id))) S := by
  have := blsOf_map bs
  simp only [biAny, lstOf, List.map_map, Option.bind_some]
  rw [show (R.v ∘ D.bl) = fun x => R.v (.bl x) from rfl, this]
theorem biSum_lst (bs : List Int) : biSum [.v (.lst (bs.map .int))] S = .ok (.v (.int bs.sum)) S := by
  have := intsOf_map bs
  simp only [biSum, lstOf, List.map_map, Option.bind_some]
  rw [show (R.v ∘ D.int) = fun x => R.v (.int x) from rfl, this]
@[simp] theorem biMax_ii (i j : Int) : biMax [.v (.int i), .v (.int j)] S = .ok (.v (.int (if j > i then j else i))) S := id rfl
@[simp] theorem biMin_ii (i j : Int) : biMin [.v (.int i), .v (.int j)] S = .ok (.v (.int (if j < i then j else i))) S := id rfl
theorem kb_ss : kitB "str" "str" = some true := by decide +kernel
theorem kb_st : kitB "str" "tuple" = some false := by decide +kernel
theorem kb_si : kitB "str" "int" = some false := by decide +kernel
theorem kb_sb : kitB "str" "bool" = some false := by decide +kernel
theorem kb_ts : kitB "tuple" "str" = some false := by decide +kernel
theorem kb_tt : kitB "tuple" "tuple" = some true := by decide +kernel
theorem kb_ti : kitB "tuple" "int" = some false := by decide +kernel
theorem kb_tb : kitB "tuple" "bool" = some false := by decide +kernel
theorem kb_is : kitB "int" "str" = some false := by decide +kernel
theorem kb_it : kitB "int" "tuple" = some false := by decide +kernel
theorem kb_ii : kitB "int" "int" = some true := by decide +kernel
theorem kb_ib : kitB "int" "bool" = some false := by decide +kernel
theorem kb_bs : kitB "bool" "str" = some false := by decide +kernel
theorem kb_bt : kitB "bool" "tuple" = some false := by decide +kernel
theorem kb_bi : kitB "bool" "int" = some true := by decide +kernel
theorem kb_bb : kitB "bool" "bool" = some true := by decide +kernel
theorem kb_ns : kitB "NoneType" "str" = some false := by decide +kernel
theorem kb_nt : kitB "NoneType" "tuple" = some false := by decide +kernel
theorem kb_ni : kitB "NoneType" "int" = some false := by decide +kernel
theorem kb_nb : kitB "NoneType" "bool" = some false := by decide +kernel
theorem kb_ls : kitB "list" "str" = some false := by decide +kernel
theorem kb_lt : kitB "list" "tuple" = some false := by decide +kernel
theorem kb_li : kitB "list" "int" = some false := by decide +kernel
theorem kb_lb : kitB "list" "bool" = some false := by decide +kernel
theorem kb_ds : kitB "dict" "str" = some false := by decide +kernel
theorem kb_dt : kitB "dict" "tuple" = some false := by decide +kernel
theorem kb_di : kitB "dict" "int" = some false := by decide +kernel
theorem kb_db : kitB "dict" "bool" = some false := by decide +kernel
@[simp] theorem isi_str_str (x : Str) : biIsi [.v (.str x), .v (.ty "str")] S = .ok (.v (.bl true)) S := by simp [biIsi, tyName, tyD, kb_ss]
@[simp] theorem isi_str_tup (x : Str) : biIsi [.v (.str x), .v (.ty "tuple")] S = .ok (.v (.bl false)) S := by simp [biIsi, tyName, tyD, kb_st]
@[simp] theorem isi_str_int (x : Str) : biIsi [.v (.str x), .v (.ty "int")] S = .ok (.v (.bl false)) S := by simp [biIsi, tyName, tyD, kb_si]
@[simp] theorem isi_str_bool (x : Str) : biIsi [.v (.str x), .v (.ty "bool")] S = .ok (.v (.bl false)) S := by simp [biIsi, tyName, tyD, kb_sb]
@[simp] theorem isi_tup_str (x : List D) : biIsi [.v (.tup x), .v (.ty "str")] S = .ok (.v (.bl false)) S := by simp [biIsi, tyName, tyD, kb_ts]
@[simp] theorem isi_tup_tup (x : List D) : biIsi [.v (.tup x), .v (.ty "tuple")] S = .ok (.v (.bl true)) S := by simp [biIsi, tyName, tyD, kb_tt]
@[simp] theorem isi_tup_int (x : List D) : biIsi [.v (.tup x), .v (.ty "int")] S = .ok (.v (.bl false)) S := by simp [biIsi, tyName, tyD, kb_ti]
@[simp] theorem isi_int_str (x : Int) : biIsi [.v (.int x), .v (.ty "str")] S = .ok (.v (.bl false)) S := by simp [biIsi, tyName, tyD, kb_is]
@[simp] theorem isi_int_tup (x : Int) : biIsi [.v (.int x), .v (.ty "tuple")] S = .ok (.v (.bl false)) S := by simp [biIsi, tyName, tyD, kb_it]
@[simp] theorem isi_int_int (x : Int) : biIsi [.v (.int x), .v (.ty "int")] S = .ok (.v (.bl true)) S := by simp [biIsi, tyName, tyD, kb_ii]
@[simp] theorem isi_int_bool (x : Int) : biIsi [.v (.int x), .v (.ty "bool")] S = .ok (.v (.bl false)) S := by simp [biIsi, tyName, tyD, kb_ib]
@[simp] theorem isi_bl_str (x : Bool) : biIsi [.v (.bl x), .v (.ty "str")] S = .ok (.v (.bl false)) S := by simp [biIsi, tyName, tyD, kb_bs]
@[simp] theorem isi_bl_tup (x : Bool) : biIsi [.v (.bl x), .v (.ty "tuple")] S = .ok (.v (.bl false)) S := by simp [biIsi, tyName, tyD, kb_bt]
@[simp] theorem isi_bl_int (x : Bool) : biIsi [.v (.bl x), .v (.ty "int")] S = .ok (.v (.bl true)) S := by simp [biIsi, tyName, tyD, kb_bi]
@[simp] theorem isi_bl_bool (x : Bool) : biIsi [.v (.bl x), .v (.ty "bool")] S = .ok (.v (.bl true)) S := by simp [biIsi, tyName, tyD, kb_bb]
@[simp] theorem isi_non_str : biIsi [.v .non, .v (.ty "str")] S = .ok (.v (.bl false)) S := by simp [biIsi, tyName, tyD, kb_ns]
@[simp] theorem isi_non_tup : biIsi [.v .non, .v (.ty "tuple")] S = .ok (.v (.bl false)) S := by simp [biIsi, tyName, tyD, kb_nt]
@[simp] theorem isi_non_int : biIsi [.v .non, .v (.ty "int")] S = .ok (.v (.bl false)) S := by simp [biIsi, tyName, tyD, kb_ni]
@[simp] theorem tyOk_str (x : Str) : tyOk "str" S (.v (.str x)) = true := id rfl
@[simp] theorem tyOk_lstV (x : List D) : tyOk "list" S (.v (.lst x)) = true := id rfl
theorem tyOk_lst {n : Nat} {ds : List R} (h : S[n]? = some (.lst ds)) : tyOk "list" S (.ref n) = true := by simp [tyOk, h]
theorem mtAppend_ref {n : Nat} {ds : List R} {y : R} (h : S[n]? = some (.lst ds)) (hz : ds.length < sizeLine) : mtAppend (.ref n) [y] S = .ok (.v .non) (S.set n (.lst (ds ++ [y]))) := by
  unfold mtAppend; simp only [h, if_pos hz]
end
/-- a for that goes through: I holds ahead of each turn -/
theorem forGo_inv {pins : List (Nat × MO)} {t : TgM} {body : MS} (I : Nat → Env → Store → Prop) :
    ∀ (ds : List R) (j : Nat) (m : Env) (S : Store), I j m S → (∀ i m S, I i m S → pinsOk pins S) →
      (∀ i d m S, ds[i]? = some d → I (j + i) m S → ∃ m1, t d m = some m1 ∧ ∃ m2 S2, (body m1 S = .nx m2 S2 ∨ body m1 S = .ct m2 S2) ∧ I (j + i + 1) m2 S2) →
      ∃ m' S', mForGo pins t body ds m S = .nx m' S' ∧ I (j + ds.length) m' S'
  | [], j, m, S, h, hp, _ => ⟨m, S, by unfold mForGo; rw [if_pos (hp j m S h)], h⟩
  | d :: ds, j, m, S, h, hp, hs => by
    obtain ⟨m1, e1, m2, S2, e2, h2⟩ := hs 0 d m S rfl h
    obtain ⟨m', S', e3, h3⟩ := forGo_inv I ds (j + 1) m2 S2 h2 hp fun i d m S hi hI => by
      have := hs (i + 1) d m S hi (by rw [show j + (i + 1) = j + 1 + i by omega]; exact hI)
      rwa [show j + (i + 1) = j + 1 + i by omega] at this
    refine ⟨m', S', ?_, by rw [List.length_cons, show j + (ds.length + 1) = j + 1 + ds.length by omega]; exact h3⟩
    unfold mForGo
    rw [if_pos (hp j m S h), e1]
    rcases e2 with e2 | e2
    · simp only [e2]; exact e3
    · simp only [e2]; exact e3
/-- .. nothing pinned -/
theorem for_inv {t : TgM} {body : MS} {ds : List R} {m : Env} {S : Store} (I : Nat → Env → Store → Prop) (h : I 0 m S) (hs : ∀ i d m S, ds[i]? = some d → I i m S → ∃ m1, t d m = some m1 ∧ ∃ m2 S2, (body m1 S = .nx m2 S2 ∨ body m1 S = .ct m2 S2) ∧ I (i + 1) m2 S2) :
    ∃ m' S', mForGo [] t body ds m S = .nx m' S' ∧ I ds.length m' S' := by
  obtain ⟨m', S', e, hI⟩ := forGo_inv (pins := []) (t := t) (body := body) I ds 0 m S h (fun _ _ _ _ => trivial) fun i d m S hi hI => by
    have := hs i d m S hi (by simpa using hI)
    simpa using this
  exact ⟨m', S', e, by simpa using hI⟩
@[simp] theorem mLc_eq (src : MI) (vs : List Nat) (t : TgM) (c : MT) (f : ME) (m : Env) (S : Store) : mLc src vs t c f m S = (src m S).bind fun it S1 => mLcGo it.pins t c f S1.length (wipeM m vs) it.items (S1 ++ [.lst []]) := id rfl
/-- a comprehension by value whose turns leave the store: p by a test, g the elements -/
theorem lc_mapU {α : Type} {t : TgM} {c : MT} {f : ME} {m : Env} {S0 S : Store} (hu : Upd S0 S) (r : α → R) (p : α → Bool) (g : α → D) (xs : List α) (hz : xs.length ≤ sizeLine)
    (hs : ∀ x ∈ xs, ∀ acc : List R, ∃ m1, t (r x) m = some m1 ∧ c m1 (S ++ [.lst acc]) = .ok (p x) (S ++ [.lst acc]) ∧ (p x = true → f m1 (S ++ [.lst acc]) = .ok (.v (g x)) (S ++ [.lst acc]))) :
    (mLcGo [] t c f S.length m (xs.map r) (S ++ [.lst []])).bind (fun r S' => popV S0 r S') = .ok (.v (.lst ((xs.filter p).map g))) S := by
  have key : ∀ (xs ys : List α), ys.length + xs.length ≤ sizeLine → (∀ x ∈ xs, ∀ acc : List R, ∃ m1, t (r x) m = some m1 ∧ c m1 (S ++ [.lst acc]) = .ok (p x) (S ++ [.lst acc]) ∧ (p x = true → f m1 (S ++ [.lst acc]) = .ok (.v (g x)) (S ++ [.lst acc]))) →
      mLcGo [] t c f S.length m (xs.map r) (S ++ [.lst ((ys.map g).map .v)]) = .ok (.ref S.length) (S ++ [.lst (((ys ++ xs.filter p).map g).map .v)]) := by
    intro xs
    induction xs with
    | nil => intro ys _ _; unfold mLcGo; simp [pinsOk]
    | cons x xs ih =>
      intro ys hl hs
      obtain ⟨m1, e1, e2, e3⟩ := hs x (by simp) ((ys.map g).map .v)
      rw [List.map_cons]
      unfold mLcGo
      rw [if_pos (show pinsOk [] _ from trivial), e1]
      simp only [e2, Out.calm_ok, Out.bind_ok]
      rw [List.length_cons] at hl
      cases hp : p x with
      | false =>
        simp only
        rw [ih ys (by omega) fun x hx => hs x (by simp [hx]), List.filter_cons_of_neg (by simp [hp])]
      | true =>
        simp only [e3 hp, Out.calm_ok, Out.bind_ok, get_len]
        rw [if_pos (by rw [List.length_map, List.length_map]; omega), set_len, List.filter_cons_of_pos hp]
        have := ih (ys ++ [x]) (by rw [List.length_append]; simp; omega) fun x hx => hs x (by simp [hx])
        simp only [List.map_append, List.map_cons, List.map_nil, List.append_assoc, List.cons_append, List.nil_append] at this ⊢
        exact this
  have := key xs [] (by simpa using hz) hs
  simp only [List.map_nil, List.nil_append] at this
  rw [this, Out.bind_ok]
  exact popV_newU _ hu
theorem lc_map {α : Type} {t : TgM} {c : MT} {f : ME} {m : Env} {S : Store} (r : α → R) (p : α → Bool) (g : α → D) (xs : List α) (hz : xs.length ≤ sizeLine)
    (hs : ∀ x ∈ xs, ∀ acc : List R, ∃ m1, t (r x) m = some m1 ∧ c m1 (S ++ [.lst acc]) = .ok (p x) (S ++ [.lst acc]) ∧ (p x = true → f m1 (S ++ [.lst acc]) = .ok (.v (g x)) (S ++ [.lst acc]))) :
    (mLcGo [] t c f S.length m (xs.map r) (S ++ [.lst []])).bind (fun r S' => popV S r S') = .ok (.v (.lst ((xs.filter p).map g))) S := lc_mapU (.refl S) r p g xs hz hs
/-- a comprehension by value whose turns change the store below it: P of the turn, the list so far, the store -/
theorem lc_st {α : Type} {t : TgM} {f : ME} {m : Env} {S0 S : Store} (r : α → R) (xs : List α) (P : Nat → List D → Store → Prop) (hz : xs.length ≤ sizeLine) (h0 : P 0 [] S) (hu : ∀ i ys T, P i ys T → Upd S0 T)
    (hs : ∀ i x ys T, xs[i]? = some x → P i ys T → ∃ m1, t (r x) m = some m1 ∧ ∃ y T', f m1 (T ++ [.lst (ys.map .v)]) = .ok (.v y) (T' ++ [.lst (ys.map .v)]) ∧ P (i + 1) (ys ++ [y]) T') :
    ∃ ys T, (mLcGo [] t mtYes f S.length m (xs.map r) (S ++ [.lst []])).bind (fun r S' => popV S0 r S') = .ok (.v (.lst ys)) T ∧ P xs.length ys T ∧ ys.length = xs.length := by
  have hS0 : S.length = S0.length := (hu 0 [] S h0).1
  have key : ∀ (xs : List α) (j : Nat) (ys : List D) (T : Store), ys.length + xs.length ≤ sizeLine → P j ys T → (∀ i x ys T, xs[i]? = some x → P (j + i) ys T → ∃ m1, t (r x) m = some m1 ∧ ∃ y T', f m1 (T ++ [.lst (ys.map .v)]) = .ok (.v y) (T' ++ [.lst (ys.map .v)]) ∧ P (j + i + 1) (ys ++ [y]) T') →
      ∃ zs T', mLcGo [] t mtYes f S.length m (xs.map r) (T ++ [.lst (ys.map .v)]) = .ok (.ref S.length) (T' ++ [.lst (zs.map .v)]) ∧ P (j + xs.length) zs T' ∧ zs.length = ys.length + xs.length := by
    intro xs
    induction xs with
    | nil => intro j ys T _ h _; exact ⟨ys, T, by unfold mLcGo; simp [pinsOk], h, rfl⟩
    | cons x xs ih =>
      intro j ys T hl h hs
      obtain ⟨m1, e1, y, T1, e2, h2⟩ := hs 0 x ys T rfl h
      rw [List.length_cons] at hl
      obtain ⟨zs, T2, e3, h3, l3⟩ := ih (j + 1) (ys ++ [y]) T1 (by simp; omega) h2 fun i x ys T hx hp => by
        have := hs (i + 1) x ys T hx (by rw [show j + (i + 1) = j + 1 + i by omega]; exact hp)
        rwa [show j + (i + 1) = j + 1 + i by omega] at this
      refine ⟨zs, T2, ?_, by rw [List.length_cons, show j + (xs.length + 1) = j + 1 + xs.length by omega]; exact h3, by rw [l3]; simp; omega⟩
      rw [List.map_cons]
      unfold mLcGo
      rw [if_pos (show pinsOk [] _ from trivial), e1]
      have hT : T1.length = S.length := (hu _ _ _ h2).1.trans hS0.symm
      have g1 : (T1 ++ [MO.lst (ys.map R.v)])[S.length]? = some (.lst (ys.map .v)) := by rw [← hT]; exact get_len T1 _ []
      have g2 : (T1 ++ [MO.lst (ys.map R.v)]).set S.length (.lst (ys.map .v ++ [.v y])) = T1 ++ [.lst ((ys ++ [y]).map .v)] := by rw [← hT, set_len, List.map_append]; rfl
      simp only [mtYes_eq, Out.calm_ok, Out.bind_ok, e2, g1]
      rw [if_pos (by rw [List.length_map]; omega), g2]
      exact e3
  obtain ⟨zs, T, e, h, l⟩ := key xs 0 [] S (by simpa using hz) h0 fun i x ys T hx hp => by
    have := hs i x ys T hx (by simpa using hp)
    simpa using this
  refine ⟨zs, T, ?_, by simpa using h, by simpa using l⟩
  have hT : T.length = S.length := (hu _ _ _ h).1.trans hS0.symm
  rw [List.map_nil] at e
  rw [e, Out.bind_ok, popV_ref (ds := zs) (by rw [← hT]; exact get_len T _ [])]
  rw [← hT, set_len, cut_app _ (hu _ _ _ h)]
@[simp] theorem keepE_v (k : Nat) (d : D) : keepE k (some (.v d)) = some (.v d) := id rfl
@[simp] theorem keepE_none (k : Nat) : keepE k none = none := id rfl
theorem trim_app {S T t : Store} {m2 : Env} {f : Env → Store → OutS} (hu : Upd S T) (ht : t ≠ []) : trim S m2 (T ++ t) f = f (m2.map (keepE S.length)) T := by
  unfold trim
  have e : (T ++ t).take S.length = T := by rw [← hu.1, List.take_left]
  have hp : 0 < t.length := List.length_pos_iff.mpr ht
  rw [if_pos ⟨by rw [List.length_append, hu.1]; omega, by rw [List.length_append, hu.1]; omega, by rw [e]; exact hu⟩, e]
@[simp] theorem mTrim_eq (f : MS) (m : Env) (S : Store) : mTrim f m S = match f m S with
  | .nx m2 S2 => trim S m2 S2 .nx
  | .ct m2 S2 => trim S m2 S2 .ct
  | o => o := id rfl
end M
namespace M
open PySem hiding Env
open L2
theorem str_len (x : Str) : x.length = x.cps.size := rfl
theorem str_len_append (x y : Str) : (x ++ y).length = x.length + y.length := by
  show (x.cps ++ y.cps).size = _
  rw [Array.size_append]; rfl
theorem cps_app (x y : Str) : (x ++ y).cps.toList = x.cps.toList ++ y.cps.toList := by
  show (x.cps ++ y.cps).toList = _
  simp
/-- a word -/
def GoodW (w : Str) : Prop := 1 ≤ w.length ∧ w.length ≤ 8 ∧ ∀ c ∈ w.cps.toList, 97 ≤ c ∧ c ≤ 122
theorem GoodW.ok {w : Str} (h : GoodW w) : w.cps.all (· < 0x110000) = true := by
  rw [← Array.all_toList, List.all_eq_true]
  intro c hc
  have := h.2.2 c hc
  simp; omega
inductive T where
  | leaf (w : Str)
  | node (l r : T)
  deriving DecidableEq
def T.d : T → D
  | .leaf w => .str w
  | .node l r => .tup [l.d, r.d]
def T.ls : T → List Str
  | .leaf w => [w]
  | .node l r => l.ls ++ r.ls
def T.depth : T → Nat
  | .leaf _ => 0
  | .node l r => max l.depth r.depth + 1
theorem T.ls_ne : ∀ t : T, t.ls ≠ []
  | .leaf w => by simp [T.ls]
  | .node l r => by simp [T.ls, T.ls_ne l]
theorem T.ls_pos (t : T) : 0 < t.ls.length := List.length_pos_iff.mpr t.ls_ne
theorem T.depth_lt : ∀ t : T, t.depth < t.ls.length
  | .leaf w => by simp [T.ls, T.depth]
  | .node l r => by
    have h1 := T.depth_lt l
    have h2 := T.depth_lt r
    have h3 := T.ls_pos l
    have h4 := T.ls_pos r
    simp only [T.ls, T.depth, List.length_append]
    omega
/-- all its words are words -/
def T.Ok (t : T) : Prop := ∀ w ∈ t.ls, GoodW w
theorem T.Ok.l {l r : T} (h : (T.node l r).Ok) : l.Ok := fun w hw => h w (by simp [T.ls, hw])
theorem T.Ok.r {l r : T} (h : (T.node l r).Ok) : r.Ok := fun w hw => h w (by simp [T.ls, hw])
def T.py : T → PyData
  | .leaf w => .str w
  | .node l r => .tuple [l.py, r.py]
theorem T.dpy : ∀ t : T, t.d.py = some t.py
  | .leaf w => rfl
  | .node l r => by
    show (D.pys [l.d, r.d]).map PyData.tuple = _
    simp [D.pys, T.dpy l, T.dpy r, T.py]
theorem T.py_lay : ∀ t : T, t.Ok → t.py.canLay0 = true
  | .leaf w, h => by
    have := (h w (by simp [T.ls])).ok
    simp [T.py, PyData.canLay0, PyData.strOk, this]
  | .node l r, h => by simp [T.py, PyData.canLay0, PyData.canLayAll0, T.py_lay l h.l, T.py_lay r h.r]
theorem T.py_depth : ∀ t : T, t.py.depth = t.depth
  | .leaf w => by simp [T.py, PyData.depth, T.depth]
  | .node l r => by simp [T.py, PyData.depth, PyData.depthAll, T.depth, T.py_depth l, T.py_depth r]
theorem T.pyS {t : T} (h : t.Ok) (hd : t.depth ≤ 64) : t.d.pyS = some t.py := by
  simp [D.pyS, T.dpy, SeqAt.shaped, T.py_lay t h, T.py_depth, hd]
theorem T.eqv : ∀ t u : T, PyData.eqv t.py u.py = true ↔ t = u
  | .leaf w, .leaf v => by simp [T.py, PyData.eqv]
  | .leaf w, .node l r => by simp [T.py, PyData.eqv]
  | .node l r, .leaf w => by simp [T.py, PyData.eqv]
  | .node a b, .node c d => by simp [T.py, PyData.eqv, PyData.eqvAll, T.eqv a c, T.eqv b d]
@[simp] theorem isi_T_str (t : T) (S : Store) : biIsi [.v t.d, .v (.ty "str")] S = .ok (.v (.bl (match t with | .leaf _ => true | _ => false))) S := by
  cases t <;> simp [T.d]
@[simp] theorem isi_T_tup (t : T) (S : Store) : biIsi [.v t.d, .v (.ty "tuple")] S = .ok (.v (.bl (match t with | .node _ _ => true | _ => false))) S := by
  cases t <;> simp [T.d]
def strOkB (x : Str) : Bool := x.cps.all (· < 0x110000)
theorem pys_ints : ∀ ns : List Int, D.pys (ns.map D.int) = some (ns.map PyData.int)
  | [] => rfl
  | n :: ns => by simp [D.pys, D.py, pys_ints ns]
theorem lay_ints : ∀ ns : List Int, PyData.canLayAll0 (ns.map PyData.int) = true ∧ PyData.depthAll (ns.map PyData.int) = 0
  | [] => ⟨by simp [PyData.canLayAll0], by simp [PyData.depthAll]⟩
  | n :: ns => by
    obtain ⟨h1, h2⟩ := lay_ints ns
    exact ⟨by simp [PyData.canLayAll0, PyData.canLay0, h1], by simp [PyData.depthAll, PyData.depth, h2]⟩
theorem pyS_kints (ns : List Int) : D.pyS (.kl (ns.map D.int)) = some (.list (ns.map PyData.int)) := by
  obtain ⟨h1, h2⟩ := lay_ints ns
  simp [D.pyS, D.py, pys_ints, SeqAt.shaped, PyData.canLay0, PyData.depth, h1, h2]
theorem pyS_lnil : D.pyS (.lst []) = some (.list []) := by
  simp [D.pyS, D.py, D.pys, SeqAt.shaped, PyData.canLay0, PyData.canLayAll0, PyData.depth, PyData.depthAll]
@[simp] theorem opNe_kints_nil {S : Store} (ns : List Int) : opNe (.v (.kl (ns.map D.int))) (.v (.lst [])) S = .ok (.v (.bl (!ns.isEmpty))) S := by
  rw [opNe_py (pyS_kints ns) pyS_lnil]
  cases ns <;> simp [PyData.eqv, PyData.eqvAll]
theorem cutD_take {α : Type} (xs : List α) {k : Int} (h : 0 ≤ k) : cutD xs none (some k) = xs.take k.toNat := by
  unfold cutD
  rw [show HT.sIx xs.length 0 none = 0 from rfl, show HT.sIx xs.length xs.length (some k) = min k.toNat xs.length by unfold HT.sIx; simp only; rw [if_neg (by omega)]]
  rw [List.drop_zero, Nat.sub_zero]
  rcases Nat.le_total k.toNat xs.length with h | h
  · rw [Nat.min_eq_left h]
  · rw [Nat.min_eq_right h, List.take_of_length_le (Nat.le_refl _), List.take_of_length_le h]
theorem cutD_drop {α : Type} (xs : List α) {k : Int} (h : 0 ≤ k) : cutD xs (some k) none = xs.drop k.toNat := by
  unfold cutD
  rw [show HT.sIx xs.length xs.length none = xs.length from rfl, show HT.sIx xs.length 0 (some k) = min k.toNat xs.length by unfold HT.sIx; simp only; rw [if_neg (by omega)]]
  rcases Nat.le_total k.toNat xs.length with h | h
  · rw [Nat.min_eq_left h, List.take_of_length_le (by rw [List.length_drop]; exact Nat.le_refl _)]
  · rw [Nat.min_eq_right h, Nat.sub_self, List.take_zero, List.drop_of_length_le h]
theorem cutD_map {α β : Type} (f : α → β) (xs : List α) (lo hi : Option Int) : cutD (xs.map f) lo hi = (cutD xs lo hi).map f := by
  unfold cutD; simp
@[simp] theorem opSl_tup {S : Store} (ds : List D) (lo hi : Option Int) : opSl (.v (.tup ds)) lo hi S = .ok (.v (.tup (cutD ds lo hi))) S := rfl
theorem rangeD_get {lo : Int} {n i : Nat} {d : R} (h : (rangeD lo n)[i]? = some d) : i < n ∧ d = .v (.int (lo + (i : Int))) := by
  have hi : i < n := by
    have := (List.getElem?_eq_some_iff.mp h).1
    simpa [rangeD] using this
  unfold rangeD at h
  rw [List.getElem?_map, List.getElem?_range hi] at h
  exact ⟨hi, by simpa using h.symm⟩
@[simp] theorem rangeD_len (lo : Int) (n : Nat) : (rangeD lo n).length = n := by simp [rangeD]
end M
namespace M
open PySem PySem.Spec L2
open PyProof.Rows hiding St
def SqS (K : PySem.W.Frag) (H : Hp) (k : Bool) (a : Addr) (xs : List V) : Prop := match k with
  | true => SqT K H a xs
  | false => SqL K H a xs
def ItS (k : Bool) (h : Heap) (it a : Addr) (i : Nat) : Prop := match k with
  | true => h.IsTupleIter it a i
  | false => h.IsListIter it a i
def InS (k : Bool) (h : Heap) (a : Addr) (items : Array Value) : Prop := match k with
  | true => h.IsTuple a items
  | false => h.IsList a items
def objS (k : Bool) (a : Addr) : Obj := match k with
  | true => { cls := .type "tuple_iterator", data := .fields #[.ref a, .int 0 0] }
  | false => { cls := .type "list_iterator", data := .fields #[.ref a, .int 0 0] }
section
variable {X : Cx} {pins : List (Addr × Obj)} {σ : St} {H : Hp} {s : Shared} {prog : Program} {w : World} {A : Around} {k : Bool} {a it : Addr} {xs ys : List V} {h h' : Heap} {i : Nat}
theorem sqS_at (I : Inv X pins σ H s) (q : SqS X.K H k a xs) : ∃ its : List Value, Vals xs its ∧ InS k s.heap a its.toArray := by
  cases k with
  | true =>
    obtain ⟨its, r, p, _⟩ := I.tuple q
    exact ⟨its, r, p⟩
  | false =>
    obtain ⟨its, r, p, _⟩ := I.list q
    exact ⟨its, r, p.isList⟩
theorem sqS_inj (I : Inv X pins σ H s) (q : SqS X.K H k a xs) (q' : SqS X.K H k a ys) : xs = ys := by
  cases k with
  | true => exact I.tuple_inj q q'
  | false => exact I.list_inj q q'
theorem drawsS (hh : A.handled = none) (k : Bool) (it a : Addr) (hne : a ≠ it) (items : Array Value) : Draws prog w A it [it, a] items.size (fun i v => items[i]? = some v) (fun i h => ItS k h it a i ∧ InS k h a items) := by
  cases k with
  | true => exact Draws.tuple hh it a hne items
  | false => exact Draws.list hh it a hne items
theorem beginsS (k : Bool) (a : Addr) (items : Array Value) : Begins (.ref a) (objS k a) fun h => InS k h a items := by
  cases k with
  | true => exact begins_tuple a items
  | false => exact begins_list a items
theorem itS_at (q : ItS k h it a i) (e : ∀ o, h.get? it = some o → h'.get? it = some o) : ItS k h' it a i := by
  cases k with
  | true => exact Heap.IsTupleIter.at q e
  | false => exact Heap.IsListIter.at q e
theorem itS_obj (q : ItS k h it a i) : ∃ o, h.get? it = some o ∧ ∀ v, o.data ≠ .cell v := by
  cases k with
  | true => obtain ⟨o, e, _, d⟩ := q; exact ⟨o, e, fun v z => by rw [d] at z; cases z⟩
  | false => obtain ⟨o, e, _, d⟩ := q; exact ⟨o, e, fun v z => by rw [d] at z; cases z⟩
theorem itS_new (e : h.get? it = some (objS k a)) : ItS k h it a 0 := by
  cases k with
  | true => exact ⟨_, e, rfl, rfl⟩
  | false => exact ⟨_, e, rfl, rfl⟩
theorem ne_it {items : Array Value} {b : Addr} (p : InS k h a items) (q : ItS k h it b i) : a ≠ it := fun e => by
  cases k with
  | true =>
    obtain ⟨o', p1, p2, _⟩ := p
    obtain ⟨o2, q1, q2, _⟩ := q
    rw [e, q1] at p1
    cases p1
    rw [q2] at p2
    exact absurd p2 (by decide)
  | false =>
    obtain ⟨o', p1, p2, _⟩ := p
    obtain ⟨o2, q1, q2, _⟩ := q
    rw [e, q1] at p1
    cases p1
    rw [q2] at p2
    exact absurd p2 (by decide)
theorem inS_lt {items : Array Value} (q : InS k h a items) : ∃ o, h.get? a = some o := by
  cases k with
  | true => obtain ⟨o, e, _⟩ := q; exact ⟨o, e⟩
  | false => obtain ⟨o, e, _⟩ := q; exact ⟨o, e⟩
end
def ItZ2 (K : PySem.W.Frag) (k1 k2 : Bool) (a b : Addr) : It :=
  ⟨fun i H => ∃ (xs ys : List V) (x y : V), SqS K H k1 a xs ∧ SqS K H k2 b ys ∧ xs[i]? = some x ∧ ys[i]? = some y,
    fun i H v H' => ∃ T x y, v = .ref T ∧ H T = none ∧ H' = upd H T (.tup [x, y]) ∧ (∀ xs, SqS K H k1 a xs → xs[i]? = some x) ∧ ∀ ys, SqS K H k2 b ys → ys[i]? = some y,
    fun i H => ∃ xs ys : List V, SqS K H k1 a xs ∧ SqS K H k2 b ys ∧ i ≤ xs.length ∧ i ≤ ys.length ∧ (i = xs.length ∨ i = ys.length)⟩
theorem turn_zip2 {P : Program} {w : World} {K : PySem.W.Frag} {elts : List Expr} {kk : Nat} {tpos : Pos} {k1 k2 : Bool} {a b z TI TO i1 i2 : Addr} (D : ZipSep2 z TI TO i1 i2 [i1, a] [i2, b]) :
    Turn P w K (.Tuple elts kk tpos) (ItZ2 K k1 k2 a b) [z, TI, TO, i1, i2] z (fun i h => IsZip h z TI TO .none ∧ IsTupOf2 h TI (.ref i1) (.ref i2) ∧ (∃ x y, IsTupOf2 h TO x y) ∧ ItS k1 h i1 a i ∧ ItS k2 h i2 b i) where
  mem := by simp
  obj := fun i h st c hc => by
    obtain ⟨hz, hTI, ⟨x, y, hTO⟩, h1, h2⟩ := st
    have e' : c = z ∨ c = TI ∨ c = TO ∨ c = i1 ∨ c = i2 := by simpa using hc
    rcases e' with q | q | q | q | q
    · rw [q]; exact ⟨_, hz, fun v q => nomatch q⟩
    · rw [q]; exact ⟨_, hTI, fun v q => nomatch q⟩
    · rw [q]; exact ⟨_, hTO, fun v q => nomatch q⟩
    · rw [q]; exact itS_obj h1
    · rw [q]; exact itS_obj h2
  keep := fun i h h' st k => by
    obtain ⟨hz, hTI, ⟨x, y, hTO⟩, h1, h2⟩ := st
    exact ⟨k z (by simp) _ hz, k TI (by simp) _ hTI, ⟨x, y, k TO (by simp) _ hTO⟩, itS_at h1 fun o q => k i1 (by simp) o q, itS_at h2 fun o q => k i2 (by simp) o q⟩
  item := by
    intro X hP hw hK hc i pins s σ H E I hf st hg
    subst hP hw hK
    obtain ⟨hz, hTI, ⟨x0, y0, hTO⟩, h1, h2⟩ := st
    obtain ⟨xs, ys, x, y, hqx, hqy, hx, hy⟩ := hg
    obtain ⟨its, rv, p⟩ := sqS_at I hqx
    obtain ⟨its2, rv2, p2⟩ := sqS_at I hqy
    obtain ⟨u, hu, ru⟩ := rv.get hx
    obtain ⟨u2, hu2, ru2⟩ := rv2.get hy
    have hzl : z < s.heap.objs.size := Heap.lt_size hz
    have hh : X.A.in1.handled = none := I.ok.hd hc
    have hn1 : a ≠ i1 := ne_it p h1
    have hn2 : b ≠ i2 := ne_it p2 h2
    have hl1 : i < its.toArray.size := by have := (List.getElem?_eq_some_iff.mp hu).1; simpa using this
    have hl2 : i < its2.toArray.size := by have := (List.getElem?_eq_some_iff.mp hu2).1; simpa using this
    refine wpAny_pyNext_zipD2_item D (drawsS hh k1 i1 a hn1 its.toArray) (drawsS hh k2 i2 b hn2 its2.toArray) hz hTI hTO ⟨h1, p⟩ ⟨h2, p2⟩ hl1 hl2 fun v1 v2 h' tk e1 e2 z' TO' h1' h2' hT hsz hk => ?_
    have ev1 : v1 = u := by
      have : its.toArray[i]? = some u := by simpa using hu
      rw [this] at e1; exact (Option.some.inj e1).symm
    have ev2 : v2 = u2 := by
      have : its2.toArray[i]? = some u2 := by simpa using hu2
      rw [this] at e2; exact (Option.some.inj e2).symm
    subst ev1 ev2
    refine ⟨_, rfl, wpAny_letOwnedTupleGo_zip (s := { s with heap := h', toks := tk }) z' fun h'' z'' sb => ?_⟩
    have hT2 : h''.get? s.heap.objs.size = some { cls := .type "tuple", data := .seq #[v1, v2] } := (sb.2 _ (Nat.ne_of_gt hzl)).trans hT
    have new : ObjOk X.prog X.w (upd H s.heap.objs.size (.tup [x, y])) h'' s.heap.objs.size (.tup [x, y]) :=
      ⟨by show 2 ≤ sizeLine; decide, [v1, v2], .cons ru (.cons ru2 .nil), ⟨_, hT2, rfl, _, rfl⟩⟩
    have I1 : Inv X pins σ (upd H s.heap.objs.size (.tup [x, y])) { s with heap := h'', toks := tk } :=
      I.turnedNew (t' := tk) (ch := [z, TI, TO, i1, i2]) (fun c o hb q => (sb.2 c (fun q' => hb (by simp [q']))).trans (hk c o (fun q' => hb (by simp [q'])) (fun q' => hb (by simp [q'])) (fun q' => hb (by simp [q'])) (fun q' => hb (by simp [q'])) q)) hf (Nat.le_refl _) new
    refine ⟨.ref s.heap.objs.size, _, I1, rfl, ⟨_, x, y, rfl, I.hok.fresh (Nat.le_refl _), rfl, fun l hl => by rw [sqS_inj I hl hqx]; exact hx, fun l hl => by rw [sqS_inj I hl hqy]; exact hy⟩, ⟨z'', ?_, ⟨v1, v2, ?_⟩, ?_, ?_⟩, fun c hcm => ?_⟩
    · exact (sb.2 _ D.TIz).trans (hk _ _ D.TIz D.TITO D.TIi1 D.TIi2 hTI)
    · exact (sb.2 _ D.TOz).trans TO'
    · exact itS_at h1'.1 fun o q => (sb.2 _ (Ne.symm D.zi1)).trans q
    · exact itS_at h2'.1 fun o q => (sb.2 _ (Ne.symm D.zi2)).trans q
    · have hlt : c < s.heap.objs.size := by
        have e' : c = z ∨ c = TI ∨ c = TO ∨ c = i1 ∨ c = i2 := by simpa using hcm
        rcases e' with q | q | q | q | q
        · rw [q]; exact hzl
        · rw [q]; exact Heap.lt_size hTI
        · rw [q]; exact Heap.lt_size hTO
        · rw [q]; obtain ⟨_, e1, _⟩ := itS_obj h1; exact Heap.lt_size e1
        · rw [q]; obtain ⟨_, e2, _⟩ := itS_obj h2; exact Heap.lt_size e2
      rw [upd_ne (Nat.ne_of_lt hlt)]
      exact (hf c hcm).1
  done := by
    intro X hP hw hK hc i pins s σ H E I hf st hg
    subst hP hw hK
    obtain ⟨hz, hTI, ⟨x0, y0, hTO⟩, h1, h2⟩ := st
    obtain ⟨xs, ys, hqx, hqy, hb1, hb2, hend⟩ := hg
    obtain ⟨its, rv, p⟩ := sqS_at I hqx
    obtain ⟨its2, rv2, p2⟩ := sqS_at I hqy
    have l1 := rv.length
    have l2 := rv2.length
    have hh : X.A.in1.handled = none := I.ok.hd hc
    have hn1 : a ≠ i1 := ne_it p h1
    have hn2 : b ≠ i2 := ne_it p2 h2
    exact wpAny_pyNext_zipD2_end D (drawsS hh k1 i1 a hn1 its.toArray) (drawsS hh k2 i2 b hn2 its2.toArray) hz hTI hTO ⟨h1, p⟩ ⟨h2, p2⟩ (by simp; omega) (by simp; omega) (by simp; omega) fun h' tk hk => ⟨rfl, I.turnedL (t' := tk) (ch := [z, TI, TO, i1, i2]) (fun c o hb q =>
      hk c o (fun q' => hb (by simp [q'])) (fun q' => hb (by simp [q'])) (fun q' => hb (by simp [q'])) (fun q' => hb (by simp [q'])) q) hf⟩
  self := fun A i s Q E st h => wpAny_pyIter_zip st.1 h
def iZip2 (K : PySem.W.Frag) (ta : TA) : TI := fun σ H R => ta σ H fun vs H1 => ∃ k1 k2 a b xs ys, vs = [.ref a, .ref b] ∧ SqS K H1 k1 a xs ∧ SqS K H1 k2 b ys ∧ R (ItZ2 K k1 k2 a b) H1
theorem pi_zip2 {X : Cx} {e e2 : Expr} {ta : TA} {p pos tpos : Pos} {elts : List Expr} {kk : Nat} (hg : Gl X "zip") (hm : X.mg "zip" = none) (ha : PA X [e, e2] ta)
    (hs : starEach [e, e2] X.env = (false, eval e X.env) :: starEach [e2] X.env := by rfl) (hpl : (backTo pos (starEach [e2] X.env)).any (·.1) = false := by rfl) :
    PI X (.Tuple elts kk tpos) (.Call (.Name "zip" p) [e, e2] [] pos) (iZip2 X.K ta) := by
  refine ⟨fun pins s σ H R I h => ?_⟩
  refine Call_ (ld_blt I hg hm PyProof.Rows.boot_zip (PyProof.Rows.callWith_type1 (thn (ha.run pos pins s σ H _ I h) fun us s1 ⟨vs, H1, I1, r1, q1⟩ => ?_) hs hpl))
  obtain ⟨k1, k2, a, b, xs, ys, ex, hqx, hqy, q⟩ := q1
  subst ex
  cases r1 with
  | cons r rr =>
    cases rr with
    | cons r' rr =>
      cases rr
      cases r
      cases r'
      have fresh5 : ∀ c, c ∈ [s1.heap.objs.size + 4, s1.heap.objs.size + 2, s1.heap.objs.size + 3, s1.heap.objs.size, s1.heap.objs.size + 1] → FpOk X pins H1 c := fun c hcm => by
        have e' : c = s1.heap.objs.size + 4 ∨ c = s1.heap.objs.size + 2 ∨ c = s1.heap.objs.size + 3 ∨ c = s1.heap.objs.size ∨ c = s1.heap.objs.size + 1 := by simpa using hcm
        have hle : s1.heap.objs.size ≤ c := by
          rcases e' with z | z | z | z | z
          · rw [z]; exact Nat.le_add_right _ _
          · rw [z]; exact Nat.le_add_right _ _
          · rw [z]; exact Nat.le_add_right _ _
          · rw [z]; exact Nat.le_refl _
          · rw [z]; exact Nat.le_add_right _ _
        exact I1.fpOk hle (I1.hok.fresh hle)
      obtain ⟨its, rv, p1⟩ := sqS_at I1 hqx
      obtain ⟨its2, rv2, p2⟩ := sqS_at I1 hqy
      obtain ⟨o1, ho1⟩ := inS_lt p1
      obtain ⟨o2, ho2⟩ := inS_lt p2
      refine zip_begins2 (beginsS k1 a its.toArray) (beginsS k2 b its2.toArray) p1 p2 fun h' hz hTI hTO h1 h2 hsz hk => wpAny_pyIter_zip hz ?_
      have I2 : Inv X pins σ H1 { s1 with heap := h' } := I1.kept (t' := s1.toks) hk
      exact ⟨s1.heap.objs.size + 4, [s1.heap.objs.size + 4, s1.heap.objs.size + 2, s1.heap.objs.size + 3, s1.heap.objs.size, s1.heap.objs.size + 1], _, _, H1, rfl, I2, turn_zip2 (zip_sep2 (fp1 := [a]) (fp2 := [b]) (fun c hc => by simp only [List.mem_singleton] at hc; subst hc; exact Heap.lt_size ho1) (fun c hc => by simp only [List.mem_singleton] at hc; subst hc; exact Heap.lt_size ho2)), ⟨hz, hTI, ⟨_, _, hTO⟩, itS_new h1, itS_new h2⟩, fresh5, q⟩
def ItE (K : PySem.W.Frag) (k : Bool) (a : Addr) : It :=
  ⟨fun i H => ∃ (xs : List V) (x : V), SqS K H k a xs ∧ xs[i]? = some x, fun i H v H' => ∃ T x, v = .ref T ∧ H T = none ∧ H' = upd H T (.tup [.int (i : Nat), x]) ∧ ∀ xs, SqS K H k a xs → xs[i]? = some x, fun i H => ∃ xs : List V, SqS K H k a xs ∧ xs.length = i⟩
theorem turn_enumS {P : Program} {w : World} {K : PySem.W.Frag} {elts : List Expr} {kk : Nat} {tpos : Pos} (k : Bool) (a e it : Addr) (hea : e ≠ a) :
    Turn P w K (.Tuple elts kk tpos) (ItE K k a) [e, it] e (fun i h => (∃ old, IsEnum h e it ((i : Nat) : Int) old) ∧ ItS k h it a i ∧ e ≠ it) where
  mem := by simp
  obj := fun i h st b hb => by
    obtain ⟨⟨old, he⟩, hi, _⟩ := st
    have e' : b = e ∨ b = it := by simpa using hb
    rcases e' with z | z
    · rw [z]; exact ⟨_, he, fun v q => nomatch q⟩
    · rw [z]; exact itS_obj hi
  keep := fun i h h' st k => let ⟨⟨old, he⟩, hi, hne⟩ := st; ⟨⟨old, k e (by simp) _ he⟩, itS_at hi fun o q => k it (by simp) o q, hne⟩
  item := by
    intro X hP hw hK hc i pins s σ H E I hf st hg
    subst hP hw hK
    obtain ⟨⟨old, he⟩, hit, hne⟩ := st
    obtain ⟨xs, x, hq, hx⟩ := hg
    obtain ⟨its, rv, p⟩ := sqS_at I hq
    obtain ⟨u, hu, ru⟩ := rv.get hx
    have hel : e < s.heap.objs.size := Heap.lt_size he
    have hil : it < s.heap.objs.size := by obtain ⟨_, q, _⟩ := itS_obj hit; exact Heap.lt_size q
    have hh : X.A.in1.handled = none := I.ok.hd hc
    have hn : a ≠ it := ne_it p hit
    have hl1 : i < its.toArray.size := by have := (List.getElem?_eq_some_iff.mp hu).1; simpa using this
    refine wpAny_pyNext_enum_itemC (drawsS hh k it a hn its.toArray) he ⟨hit, p⟩ hl1 hne (by simp [hne, hea]) fun v h' tk e1 ho hit' hT hsz hk => ?_
    have ev : v = u := by
      have : its.toArray[i]? = some u := by simpa using hu
      rw [this] at e1; exact (Option.some.inj e1).symm
    subst ev
    refine ⟨_, rfl, wpAny_letOwnedTupleGo_enum (s := { s with heap := h', toks := tk + 1 }) ho fun h'' he' sb => ?_⟩
    have hT2 : h''.get? s.heap.objs.size = some { cls := .type "tuple", data := .seq #[.int i tk, v] } := (sb.2 _ (Nat.ne_of_gt hel)).trans hT
    have new : ObjOk X.prog X.w (upd H s.heap.objs.size (.tup [.int (i : Nat), x])) h'' s.heap.objs.size (.tup [.int (i : Nat), x]) :=
      ⟨by show 2 ≤ sizeLine; decide, [.int i tk, v], .cons ⟨_, rfl⟩ (.cons ru .nil), ⟨_, hT2, rfl, _, rfl⟩⟩
    have I1 : Inv X pins σ (upd H s.heap.objs.size (.tup [.int (i : Nat), x])) { s with heap := h'', toks := tk + 1 } :=
      I.turnedNew (ch := [e, it]) (fun b ob hb q => (sb.2 b (fun z => hb (by simp [z]))).trans (hk b ob (fun z => hb (by simp [z])) (fun z => hb (by simp [z])) q)) hf (Nat.le_refl _) new
    refine ⟨.ref s.heap.objs.size, _, I1, rfl, ⟨_, x, rfl, I.hok.fresh (Nat.le_refl _), rfl, fun ys hy => by rw [sqS_inj I hy hq]; exact hx⟩, ⟨⟨v, ?_⟩, itS_at hit'.1 fun o q => (sb.2 it (Ne.symm hne)).trans q, hne⟩, fun b hb => ?_⟩
    · have e1 : ((i + 1 : Nat) : Int) = (i : Int) + 1 := by omega
      rw [e1]; exact he'
    · have hb' : b < s.heap.objs.size := by
        have e' : b = e ∨ b = it := by simpa using hb
        rcases e' with z | z
        · rw [z]; exact hel
        · rw [z]; exact hil
      rw [upd_ne (Nat.ne_of_lt hb')]
      exact (hf b hb).1
  done := by
    intro X hP hw hK hc i pins s σ H E I hf st hg
    subst hP hw hK
    obtain ⟨⟨old, he⟩, hit, hne⟩ := st
    obtain ⟨xs, hq, hx⟩ := hg
    obtain ⟨its, rv, p⟩ := sqS_at I hq
    obtain ⟨f0, f1, f2, f3, f4, f5⟩ := hf it (by simp)
    have hl := rv.length
    have hh : X.A.in1.handled = none := I.ok.hd hc
    have hn : a ≠ it := ne_it p hit
    have hi : its.toArray.size = i := by simp; omega
    exact wpAny_pyNext_enum_endD (drawsS hh k it a hn its.toArray) he (by rw [hi]; exact ⟨hit, p⟩) fun h' eb => ⟨rfl, I.turned (t' := s.toks) (fun b o hb q => eb b o hb q) f0 f1 f3 f4 f5⟩
  self := fun A i s Q E st h => let ⟨⟨_, he⟩, _⟩ := st; wpAny_pyIter_enum he h
def iEnumS (K : PySem.W.Frag) (ta : TA) : TI := fun σ H R => ta σ H fun vs H1 => ∃ k a xs, vs = [.ref a] ∧ SqS K H1 k a xs ∧ R (ItE K k a) H1
theorem meets_enumerate_newT (l : Addr) (items : Array Value) (n : Nat) (dct : Option Addr) (sl : Array (Option Value)) :
    Meets (Builtin.«enumerate.__new__» ⟨[.type "enumerate", .ref l], []⟩) (fun _ R s => s.heap.get? l = some { cls := .type "tuple", dict := dct, data := .seq items n, slots := sl } ∧
      R (.ok (.ret (.ref (s.heap.push { cls := .type "tuple_iterator", data := .fields #[.ref l, .int 0 0] }).objs.size)))
        { s with heap := (s.heap.push { cls := .type "tuple_iterator", data := .fields #[.ref l, .int 0 0] }).push { cls := .type "enumerate", data := .fields #[.none, .bool false, .ref s.heap.objs.size, rawInt 0, .none, .none] } }) :=
  .of_wp fun prog w A R s h => by
    obtain ⟨hp, g, d, tk, os⟩ := s; obtain ⟨hl, h⟩ := h
    have hsub := sub_enumerate
    have hL : Heap.IsTuple (Shared.heap ⟨hp, g, d, tk, os⟩) l items := ⟨_, hl, rfl, n, rfl⟩
    wp_walk using AutoSeq1.wpAny_loadPart' hl
    refine wpAny_stack_any fun st => wpAny_pure ?_
    split
    · rename_i c _ _ _ _ _
      cases (c == Value.type "enumerate")
      · wp_walk using AutoSeq1.wpAny_loadPart' hl, wpAny_pyIter_tuple hL
        exact ⟨_, rfl, h⟩
      · wp_walk using AutoSeq1.wpAny_loadPart' hl, wpAny_pyIter_tuple hL
        exact ⟨_, rfl, h⟩
    · wp_walk using AutoSeq1.wpAny_loadPart' hl, wpAny_pyIter_tuple hL
      exact ⟨_, rfl, h⟩
theorem call_enumerate_tup {prog : Program} {w : World} {A : Around} {E : Value → Shared → Prop} {s : Shared} {l : Addr} {items : Array Value} {Q : Value → Shared → Prop} (hL : s.heap.IsTuple l items)
    (h : ∀ h', IsEnum h' (s.heap.objs.size + 1) s.heap.objs.size 0 .none → h'.IsTupleIter s.heap.objs.size l 0 → h'.objs.size = s.heap.objs.size + 2 →
      (∀ b o, s.heap.get? b = some o → h'.get? b = some o) → Q (.ref (s.heap.objs.size + 1)) { s with heap := h' }) :
    wpAny (model prog w) A (call (.type "enumerate") [.ref l]) Q E s := by
  obtain ⟨⟨c, dct, dt, sl⟩, hl, hc, n, hd⟩ := hL
  replace hc : c = .type "tuple" := hc
  replace hd : dt = .seq items n := hd
  subst hc hd
  refine callType_new F.called_enumerate (by decide) (F.typeCall_enumerate_1 _) (F.newCall_enumerate_1 _) (fun obj => F.args_object_init_2 obj _) F.entry_enumerate_new
    (meets_enumerate_newT l items n dct sl) ⟨hl, ?_⟩
  have hz : (s.heap.push { cls := .type "tuple_iterator", data := .fields #[.ref l, .int 0 0] }).objs.size = s.heap.objs.size + 1 := Heap.size_push ..
  show _ ∧ _
  rw [hz]
  have he : IsEnum ((s.heap.push { cls := .type "tuple_iterator", data := .fields #[.ref l, .int 0 0] }).push
      { cls := .type "enumerate", data := .fields #[.none, .bool false, .ref s.heap.objs.size, rawInt 0, .none, .none] }) (s.heap.objs.size + 1) s.heap.objs.size 0 .none := by
    have := Heap.get?_push_size (s.heap.push { cls := .type "tuple_iterator", data := .fields #[.ref l, .int 0 0] })
      (o := { cls := .type "enumerate", data := .fields #[.none, .bool false, .ref s.heap.objs.size, rawInt 0, .none, .none] }) rfl
    rw [hz] at this; exact this
  refine ⟨⟨_, he, rfl⟩, h _ he ⟨_, Heap.get?_push_of_some _ (Heap.get?_push_size _ rfl), rfl, rfl⟩ (by rw [Heap.size_push, hz]) fun b o x => Heap.get?_push_of_some _ (Heap.get?_push_of_some _ x)⟩
theorem pi_enumS {X : Cx} {e : Expr} {ta : TA} {p pos tpos : Pos} {elts : List Expr} {kk : Nat} (hg : Gl X "enumerate") (hm : X.mg "enumerate" = none) (ha : PA X [e] ta) (hs : starEach [e] X.env = [(false, eval e X.env)] := by rfl) :
    PI X (.Tuple elts kk tpos) (.Call (.Name "enumerate" p) [e] [] pos) (iEnumS X.K ta) := by
  refine ⟨fun pins s σ H R I h => ?_⟩
  refine Call_ (ld_blt I hg hm boot_enumerate (PyProof.Rows.callWith_type1 (thn (ha.run pos pins s σ H _ I h) fun us s1 ⟨vs, H1, I1, r1, q1⟩ => ?_) hs rfl))
  obtain ⟨k, a, xs, ex, hq, q⟩ := q1
  subst ex
  cases r1 with
  | cons r rr =>
    cases rr
    cases r
    obtain ⟨its, rv, p'⟩ := sqS_at I1 hq
    obtain ⟨o1, ho1⟩ := inS_lt p'
    have fin : ∀ h', IsEnum h' (s1.heap.objs.size + 1) s1.heap.objs.size 0 .none → ItS k h' s1.heap.objs.size a 0 → (∀ b o, s1.heap.get? b = some o → h'.get? b = some o) → PIE X pins σ (.Tuple elts kk tpos) R (.ref (s1.heap.objs.size + 1)) { s1 with heap := h' } := fun h' he hit hk => by
      have I2 : Inv X pins σ H1 { s1 with heap := h' } := I1.kept (t' := s1.toks) hk
      refine ⟨s1.heap.objs.size + 1, [s1.heap.objs.size + 1, s1.heap.objs.size], _, _, H1, rfl, I2, turn_enumS k a (s1.heap.objs.size + 1) s1.heap.objs.size (fun z => ?_), ⟨⟨.none, he⟩, hit, Nat.succ_ne_self _⟩, fun b hb => ?_, q⟩
      · have := Heap.lt_size ho1
        rw [← z] at this
        exact absurd this (by simp)
      · have e' : b = s1.heap.objs.size + 1 ∨ b = s1.heap.objs.size := by simpa using hb
        have hle : s1.heap.objs.size ≤ b := by
          rcases e' with z | z
          · rw [z]; exact Nat.le_add_right _ _
          · rw [z]; exact Nat.le_refl _
        exact I1.fpOk hle (I1.hok.fresh hle)
    cases k with
    | true => exact call_enumerate_tup p' fun h' he hit hsz hk => wpAny_pyIter_enum he (fin h' he hit hk)
    | false => exact call_enumerate_list p' fun h' he hit hsz hk => wpAny_pyIter_enum he (fin h' he hit hk)
def valsOf : List R → Option (List D)
  | [] => some []
  | .v d :: r => (valsOf r).map (d :: ·)
  | _ => none
theorem valsOf_eq : ∀ {rs : List R} {ds : List D}, valsOf rs = some ds → rs = ds.map .v
  | [], ds, h => by cases h; rfl
  | .v d :: r, ds, h => by
    obtain ⟨es, h1, h2⟩ := Option.map_eq_some_iff.mp (show (valsOf r).map (d :: ·) = some ds from h)
    subst h2
    rw [valsOf_eq h1]; rfl
  | .ref n :: r, ds, h => by cases h
/-- the items by value, and what must stand meanwhile -/
def seqP (S : Store) : R → Option (List D × List (Nat × MO))
  | .v (.tup ds) => some (ds, [])
  | .v (.lst ds) => some (ds, [])
  | .v (.kl ds) => some (ds, [])
  | .v _ => none
  | .ref n => match S[n]? with
    | some (.lst rs) => (valsOf rs).map fun ds => (ds, [(n, .lst rs)])
    | some (.fz (.lst ds)) => some (ds, [])
    | _ => none
section
variable {X : Cx} {E : St → XK} {a b e : Expr} {mr : MA} {K : PySem.W.Frag} {H : Hp} {ρ : Wd} {S : Store} {pos : Pos}
def SeqNow (K : PySem.W.Frag) (H : Hp) (ρ : Wd) (pins : List (Nat × MO)) (k : Bool) (a : Addr) (ds : List D) : Prop :=
  ∀ H2 ρ2 S2, Mo K H ρ H2 ρ2 → SR K H2 ρ2 S2 → pinsOk pins S2 → ∃ xs, SqS K H2 k a xs ∧ RpA K H2 ρ2 xs ds
theorem SeqNow.app {q : List (Nat × MO)} {k : Bool} {a : Addr} {ds : List D} : ∀ {p : List (Nat × MO)}, SeqNow K H ρ p k a ds → SeqNow K H ρ (p ++ q) k a ds ∧ SeqNow K H ρ (q ++ p) k a ds := by
  intro p h
  have l : ∀ (p q : List (Nat × MO)) (S : Store), pinsOk (p ++ q) S → pinsOk p S ∧ pinsOk q S := by
    intro p
    induction p with
    | nil => intro q S h; exact ⟨trivial, h⟩
    | cons x p ih => intro q S h; exact ⟨⟨h.1, (ih q S h.2).1⟩, (ih q S h.2).2⟩
  exact ⟨fun H2 ρ2 S2 mo s pk => h H2 ρ2 S2 mo s (l _ _ _ pk).1, fun H2 ρ2 S2 mo s pk => h H2 ρ2 S2 mo s (l _ _ _ pk).2⟩
theorem seqP_now (sr : SR K H ρ S) {v : V} {d : R} {ds : List D} {pins : List (Nat × MO)} (r : Rq K H ρ v d) (h : seqP S d = some (ds, pins)) : ∃ k a, v = .ref a ∧ SeqNow K H ρ pins k a ds ∧ pinsOk pins S := by
  cases r with
  | v r =>
    cases r <;> first | (cases h; done) | skip
    case tup hs ra => cases h; exact ⟨true, _, rfl, fun H2 ρ2 S2 mo _ _ => ⟨_, sqT_at (mo.tup _ _ hs), ra.mo mo⟩, trivial⟩
    case lst hs ra => cases h; exact ⟨false, _, rfl, fun H2 ρ2 S2 mo _ _ => ⟨_, (hs.mono mo).sq, ra.mo mo⟩, trivial⟩
    case kl hs ra => cases h; exact ⟨false, _, rfl, fun H2 ρ2 S2 mo _ _ => ⟨_, (mo.kl _ _ hs).sq, ra.mo mo⟩, trivial⟩
  | @ref a n ea =>
    unfold seqP at h
    simp only at h
    split at h
    · rename_i rs hrs
      obtain ⟨es, h1, h2⟩ := Option.map_eq_some_iff.mp h
      cases h2
      have e := valsOf_eq h1
      refine ⟨false, a, rfl, fun H2 ρ2 S2 mo s pk => ?_, ⟨hrs, trivial⟩⟩
      obtain ⟨xs, hu, ra⟩ := s.obj n a _ (mo.ref _ _ ea) pk.1
      rw [e] at ra
      exact ⟨xs, .inl (.inl hu), ra.p⟩
    · rename_i ds' hds
      cases h
      have q : Rp K H ρ (.ref a) (.lst _) := sr.obj n a _ ea hds
      cases q with
      | lst hs ra => exact ⟨false, a, rfl, fun H2 ρ2 S2 mo _ _ => ⟨_, (hs.mono mo).sq, ra.mo mo⟩, trivial⟩
    · cases h
def enumI (ds : List D) : List R := ds.zipIdx.map fun p => .v (.tup [.int (p.2 : Int), p.1])
def zipI (ds es : List D) : List R := (ds.zip es).map fun p => .v (.tup [p.1, p.2])
theorem enumI_get (ds : List D) (i : Nat) : (enumI ds)[i]? = (ds[i]?).map fun d => .v (.tup [.int (i : Int), d]) := by
  unfold enumI
  rw [List.getElem?_map, List.getElem?_zipIdx]
  cases ds[i]? <;> simp
@[simp] theorem enumI_len (ds : List D) : (enumI ds).length = ds.length := by simp [enumI]
@[simp] theorem zipI_len (ds es : List D) : (zipI ds es).length = min ds.length es.length := by simp [zipI]
theorem okSrc_enum {k : Bool} {a : Addr} {ds : List D} {pins : List (Nat × MO)} (h : SeqNow K H ρ pins k a ds) : okSrc K ⟨enumI ds, pins⟩ H ρ (ItE K k a) := by
  have w : Walk (ItE K k a) ds.length (fun H => ∃ xs, SqS K H k a xs ∧ xs.length = ds.length) (fun i H v H' => ∃ T x, v = .ref T ∧ H T = none ∧ H' = upd H T (.tup [.int (i : Nat), x]) ∧ ∀ xs, SqS K H k a xs → xs[i]? = some x) := by
    refine ⟨fun i H hi q => ?_, fun H q => ?_, fun _ _ _ _ _ _ y => y⟩
    · obtain ⟨xs, q, hl⟩ := q
      exact ⟨xs, xs[i]'(by omega), q, by simp [hl, hi]⟩
    · obtain ⟨xs, q, hl⟩ := q
      exact ⟨xs, q, hl⟩
  refine ⟨_, _, by rw [show (⟨enumI ds, pins⟩ : Src).items.length = ds.length from enumI_len ds]; exact w, fun H2 ρ2 S2 mo s pk => ?_, ?_⟩
  · obtain ⟨xs, q, r⟩ := h H2 ρ2 S2 mo s pk
    exact ⟨xs, q, r.length⟩
  · rintro i H2 v H3 ρ2 S2 hi mo s2 pk ⟨T, x, rfl, hT, rfl, hx⟩
    obtain ⟨xs, q, r⟩ := h H2 ρ2 S2 mo s2 pk
    obtain ⟨d, hd, rd⟩ := r.get' (hx xs q)
    have mv : Mo K H2 ρ2 (upd H2 T (.tup [.int (i : Nat), x])) ρ2 := .new s2 hT
    exact ⟨.v (.tup [.int (i : Int), d]), by show (enumI ds)[i]? = _; rw [enumI_get, hd]; rfl, mv, s2.newT hT, .v (.tup upd_same (.cons (.int _) (.cons (rd.mo mv) .nil)))⟩
theorem okSrc_zip {k1 k2 : Bool} {a b : Addr} {ds es : List D} {pins : List (Nat × MO)} (h1 : SeqNow K H ρ pins k1 a ds) (h2 : SeqNow K H ρ pins k2 b es) : okSrc K ⟨zipI ds es, pins⟩ H ρ (ItZ2 K k1 k2 a b) := by
  have w : Walk (ItZ2 K k1 k2 a b) (min ds.length es.length) (fun H => ∃ xs ys, SqS K H k1 a xs ∧ SqS K H k2 b ys ∧ xs.length = ds.length ∧ ys.length = es.length)
      (fun i H v H' => ∃ T x y, v = .ref T ∧ H T = none ∧ H' = upd H T (.tup [x, y]) ∧ (∀ xs, SqS K H k1 a xs → xs[i]? = some x) ∧ ∀ ys, SqS K H k2 b ys → ys[i]? = some y) := by
    refine ⟨fun i H hi q => ?_, fun H q => ?_, fun _ _ _ _ _ _ y => y⟩
    · obtain ⟨xs, ys, q, q', hl, hl'⟩ := q
      exact ⟨xs, ys, xs[i]'(by omega), ys[i]'(by omega), q, q', List.getElem?_eq_getElem _, List.getElem?_eq_getElem _⟩
    · obtain ⟨xs, ys, q, q', hl, hl'⟩ := q
      exact ⟨xs, ys, q, q', by omega, by omega, by omega⟩
  refine ⟨_, _, by rw [show (⟨zipI ds es, pins⟩ : Src).items.length = min ds.length es.length from zipI_len ds es]; exact w, fun H2 ρ2 S2 mo s pk => ?_, ?_⟩
  · obtain ⟨xs, q, r⟩ := h1 H2 ρ2 S2 mo s pk
    obtain ⟨ys, q', r'⟩ := h2 H2 ρ2 S2 mo s pk
    exact ⟨xs, ys, q, q', r.length, r'.length⟩
  · rintro i H2 v H3 ρ2 S2 hi mo s2 pk ⟨T, x, y, rfl, hT, rfl, hx, hy⟩
    obtain ⟨xs, q, r⟩ := h1 H2 ρ2 S2 mo s2 pk
    obtain ⟨ys, q', r'⟩ := h2 H2 ρ2 S2 mo s2 pk
    obtain ⟨d, hd, rd⟩ := r.get' (hx xs q)
    obtain ⟨d', hd', rd'⟩ := r'.get' (hy ys q')
    have mv : Mo K H2 ρ2 (upd H2 T (.tup [x, y])) ρ2 := .new s2 hT
    refine ⟨.v (.tup [d, d']), ?_, mv, s2.newT hT, .v (.tup upd_same (.cons (rd.mo mv) (.cons (rd'.mo mv) .nil)))⟩
    show (zipI ds es)[i]? = _
    unfold zipI
    rw [List.getElem?_map, show (ds.zip es)[i]? = some (d, d') from List.getElem?_zip_eq_some.mpr ⟨hd, hd'⟩]
    rfl
def en1 (ds : List R) (S : Store) : Out Src := match ds with
  | [d] => match seqP S d with
    | some p => .ok ⟨enumI p.1, p.2⟩ S
    | none => .no
  | _ => .no
def srcEnum (r : MA) : MI := fun m S => (r m S).bind en1
def zp2 (ds : List R) (S : Store) : Out Src := match ds with
  | [d, e] => match seqP S d, seqP S e with
    | some p, some q => .ok ⟨zipI p.1 q.1, p.2 ++ q.2⟩ S
    | _, _ => .no
  | _ => .no
def srcZip (r : MA) : MI := fun m S => (r m S).bind zp2
theorem pim_enum {p tpos : Pos} {elts : List Expr} {kk : Nat} (hg : Gl X "enumerate") (hm : X.mg "enumerate" = none) (ha : PA X [a] (tA X.K E mr)) (hs : starEach [a] X.env = [(false, eval a X.env)] := by rfl) : PI X (.Tuple elts kk tpos) (.Call (.Name "enumerate" p) [a] [] pos) (tI X.K E (srcEnum mr)) := by
  refine PI.imp (pi_enumS hg hm ha hs) ?_
  intro σ H R h
  refine tI_of h fun ds S1 xs H1 ρ1 s1 r1 h1 => ?_
  split at h1
  · rename_i it S' ho
    unfold en1 at ho
    split at ho
    · split at ho
      · rename_i p hp
        cases ho
        obtain ⟨v, rfl, r2⟩ := r1.one
        obtain ⟨k, a', rfl, hn, hpk⟩ := seqP_now s1 r2 (ds := p.1) (pins := p.2) hp
        obtain ⟨ys, q, _⟩ := hn H1 ρ1 _ .refl s1 hpk
        exact ⟨k, a', ys, rfl, q, h1 _ H1 ρ1 .refl s1 (okSrc_enum hn)⟩
      · cases ho
    · cases ho
  · rename_i ho
    unfold en1 at ho
    split at ho
    · split at ho <;> cases ho
    · cases ho
  · exact h1.elim
theorem pim_zip {p tpos : Pos} {elts : List Expr} {kk : Nat} (hg : Gl X "zip") (hm : X.mg "zip" = none) (ha : PA X [a, b] (tA X.K E mr)) (hs : starEach [a, b] X.env = (false, eval a X.env) :: starEach [b] X.env := by rfl) (hpl : (backTo pos (starEach [b] X.env)).any (·.1) = false := by rfl) : PI X (.Tuple elts kk tpos) (.Call (.Name "zip" p) [a, b] [] pos) (tI X.K E (srcZip mr)) := by
  refine PI.imp (pi_zip2 hg hm ha hs hpl) ?_
  intro σ H R h
  refine tI_of h fun ds S1 xs H1 ρ1 s1 r1 h1 => ?_
  split at h1
  · rename_i it S' ho
    unfold zp2 at ho
    split at ho
    · split at ho
      · rename_i p q hp hq
        cases ho
        obtain ⟨v, w, rfl, r2, r3⟩ := r1.two
        obtain ⟨k, a', rfl, hn, hpk⟩ := seqP_now s1 r2 (ds := p.1) (pins := p.2) hp
        obtain ⟨k', b', rfl, hn', hpk'⟩ := seqP_now s1 r3 (ds := q.1) (pins := q.2) hq
        obtain ⟨ys, q1, _⟩ := hn H1 ρ1 _ .refl s1 hpk
        obtain ⟨zs, q2, _⟩ := hn' H1 ρ1 _ .refl s1 hpk'
        exact ⟨k, k', a', b', ys, zs, rfl, q1, q2, h1 _ H1 ρ1 .refl s1 (okSrc_zip (hn.app).1 (hn'.app).2)⟩
      · cases ho
    · cases ho
  · rename_i ho
    unfold zp2 at ho
    split at ho
    · split at ho <;> cases ho
    · cases ho
  · exact h1.elim
end
section
variable {S : Store} {r : MA} {m : Env}
@[simp] theorem srcEnum_eq : srcEnum r m S = (r m S).bind en1 := id rfl
@[simp] theorem srcZip_eq : srcZip r m S = (r m S).bind zp2 := id rfl
@[simp] theorem en1_tup (ds : List D) : en1 [.v (.tup ds)] S = .ok ⟨enumI ds, []⟩ S := id rfl
@[simp] theorem en1_lst (ds : List D) : en1 [.v (.lst ds)] S = .ok ⟨enumI ds, []⟩ S := id rfl
@[simp] theorem zp2_tt (ds es : List D) : zp2 [.v (.tup ds), .v (.tup es)] S = .ok ⟨zipI ds es, []⟩ S := id rfl
@[simp] theorem zp2_tl (ds es : List D) : zp2 [.v (.tup ds), .v (.lst es)] S = .ok ⟨zipI ds es, []⟩ S := id rfl
@[simp] theorem zp2_lt (ds es : List D) : zp2 [.v (.lst ds), .v (.tup es)] S = .ok ⟨zipI ds es, []⟩ S := id rfl
@[simp] theorem zp2_ll (ds es : List D) : zp2 [.v (.lst ds), .v (.lst es)] S = .ok ⟨zipI ds es, []⟩ S := id rfl
end
end M
namespace L2
open PySem PySem.Spec
theorem Room.units65 {k : Nat} {A : Around} (r : Room k A) : A.units + 65 < cLine := by have := r.un; omega
end L2
namespace M
open PySem PySem.Spec L2
open PyProof.Rows hiding St
def mtExt (d : R) (ds : List R) (S : Store) : Out R := if ds.all notKl = true then mtExtend d ds S else .no
theorem mtm_ext {X : Cx} : MtMm X "list.extend" mtExt := mtm_extend
section
variable {S : Store}
theorem mtExt_ref {n : Nat} {xs zs : List R} {y : R} (h : S[n]? = some (.lst xs)) (hy : lstOf S y = some zs) (hk : notKl y = true) (hz : xs.length + zs.length ≤ sizeLine) : mtExt (.ref n) [y] S = .ok (.v .non) (S.set n (.lst (xs ++ zs))) := by
  unfold mtExt mtExtend
  simp [hk, h, hy, hz]
/-- isinstance of data -/
def isStr : D → Bool
  | .str _ => true
  | .txt => true
  | _ => false
def isTup : D → Bool
  | .tup _ => true
  | _ => false
def notTy : D → Bool
  | .ty _ => false
  | .txt => false
  | .kt _ => false
  | _ => true
end
end M
namespace M
open PySem PySem.Spec L2
open PyProof.Rows hiding St
variable {K : PySem.W.Frag} {H H' : Hp} {ρ ρ' : Wd} {S : Store}
def keyOf : R → Option Key
  | .v (.int i) => some (.inl i)
  | .v (.str x) => some (.inr x)
  | _ => none
theorem keyOf_kV {v : V} {d : R} {k : Key} (r : Rq K H ρ v d) (h : keyOf d = some k) : v = kV k := by
  cases r with
  | v r => cases r <;> first | (cases h; rfl) | cases h
  | ref e => cases h
/-- in its place, or at the end -/
def putR (kvs : List (Key × R)) (k : Key) (v : R) : List (Key × R) :=
  if (kvs.any fun kv => decide (kv.1 = k)) = true then kvs.map (fun kv => if kv.1 = k then (kv.1, v) else kv) else kvs ++ [(k, v)]
def valR (kvs : List (Key × R)) (k : Key) : Option R := (kvs.find? fun kv => decide (kv.1 = k)).map (·.2)
def mergeR (kvs more : List (Key × R)) : List (Key × R) := more.foldl (fun acc kv => putR acc kv.1 kv.2) kvs
theorem RpP.any {vs : List (Key × V)} {ds : List (Key × R)} (h : RpP K H ρ vs ds) (k : Key) : (vs.any fun kv => decide (kv.1 = k)) = ds.any fun kv => decide (kv.1 = k) := by
  unfold RpP at h
  induction h with
  | nil => rfl
  | cons h1 h2 ih => rw [List.any_cons, List.any_cons, ih, h1.1]
theorem RpP.append {vs ws : List (Key × V)} {ds es : List (Key × R)} (h : RpP K H ρ vs ds) (k : RpP K H ρ ws es) : RpP K H ρ (vs ++ ws) (ds ++ es) := by
  unfold RpP at h
  induction h with
  | nil => exact k
  | cons h1 h2 ih => exact .cons h1 ih
theorem RpP.repl {vs : List (Key × V)} {ds : List (Key × R)} (h : RpP K H ρ vs ds) (k : Key) {v : V} {d : R} (r : Rq K H ρ v d) : RpP K H ρ (vs.map fun kv => if kv.1 = k then (kv.1, v) else kv) (ds.map fun kv => if kv.1 = k then (kv.1, d) else kv) := by
  unfold RpP at h
  induction h with
  | nil => exact .nil
  | @cons p q ps qs h1 h2 ih =>
    refine .cons ?_ ih
    by_cases hk : p.1 = k
    · have hk' : q.1 = k := by rw [← h1.1]; exact hk
      simp only [if_pos hk, if_pos hk']
      exact ⟨h1.1, r⟩
    · have hk' : ¬ q.1 = k := by rw [← h1.1]; exact hk
      simp only [if_neg hk, if_neg hk']
      exact h1
theorem RpP.put {vs : List (Key × V)} {ds : List (Key × R)} (h : RpP K H ρ vs ds) (k : Key) {v : V} {d : R} (r : Rq K H ρ v d) : RpP K H ρ (putK vs k v) (putR ds k d) := by
  unfold putK putR
  rw [h.any k]
  split
  · exact h.repl k r
  · exact h.append (.cons ⟨rfl, r⟩ .nil)
theorem RpP.val {vs : List (Key × V)} {ds : List (Key × R)} (h : RpP K H ρ vs ds) (k : Key) : (valV vs k = none ∧ valR ds k = none) ∨ ∃ v d, valV vs k = some v ∧ valR ds k = some d ∧ Rq K H ρ v d := by
  unfold RpP at h
  induction h with
  | nil => exact .inl ⟨rfl, rfl⟩
  | @cons p q ps qs h1 h2 ih =>
    by_cases hk : p.1 = k
    · have hk' : q.1 = k := by rw [← h1.1]; exact hk
      refine .inr ⟨p.2, q.2, valV_pos hk, ?_, h1.2⟩
      simp [valR, List.find?_cons, hk']
    · have hk' : ¬ q.1 = k := by rw [← h1.1]; exact hk
      rw [valV_neg hk]
      have : valR (q :: qs) k = valR qs k := by simp [valR, List.find?_cons, hk']
      rw [this]
      exact ih
/-- a cell that is a dict -/
theorem SR.dK {n : Nat} {a : Addr} {ds : List (Key × R)} (sr : SR K H ρ S) (e : ρ.r[n]? = some a) (h : S[n]? = some (.dK ds)) : ∃ xs, H a = some (.dK xs) ∧ RpP K H ρ xs ds ∧ ¬ ρ.z a := by
  obtain ⟨xs, hu, r⟩ := sr.obj n a _ e h
  exact ⟨xs, hu, r, sr.lv n a _ e h trivial⟩
def mDct0 : ME := fun _ S => .ok (.ref S.length) (S ++ [.dK []])
def getC (x y : R) (S : Store) : Option R := match x with
  | .ref n => match S[n]? with
    | some (.lst ds) => match y with
      | .v (.int i) => atI ds i
      | _ => none
    | some (.dK kvs) => (keyOf y).bind fun k => valR kvs k
    | _ => none
  | _ => none
def setC (x y d : R) (S : Store) : Option Store := match x with
  | .ref n => match S[n]? with
    | some (.lst ds) => match y with
      | .v (.int i) => match ixN ds.length i with
        | some j => some (S.set n (.lst (ds.set j d)))
        | none => none
      | _ => none
    | some (.dK kvs) => (keyOf y).bind fun k => if kvs.length < sizeLine then some (S.set n (.dK (putR kvs k d))) else none
    | _ => none
  | _ => none
section
variable {X : Cx}
theorem getItem_listV {A : Around} {pins : List (Addr × Obj)} {s : Shared} {σ : St} {H : Hp} {p : Addr} {xs : List V} {i : Int} {z : V} {u : Value} {Q : Value → Shared → Prop} {E : Value → Shared → Prop} (I : Inv X pins σ H s) (hp : SqL X.K H p xs) (ri : RelV (.int i) u) (he : atI xs i = some z) (h : ∀ w, RelV z w → Q w s) :
    wpAny (model X.prog X.w) A (getItem (.ref p) u) Q E s := by
  obtain ⟨t, rfl⟩ := ri
  obtain ⟨its, r, pl, hz⟩ := I.list hp
  obtain ⟨j, h1, h2, h3, h4, h5⟩ := atI_get he
  obtain ⟨w, ew, rw'⟩ := r.get h2
  have hl := r.length
  have hn := line63
  by_cases h0 : 0 ≤ i
  · have hj : i.toNat = j := by
      rw [seqIndex_of h0 h5] at h1
      exact Option.some.inj h1
    exact wpAny_getItem_list pl.isList h0 (by omega) (by rw [hj]; simpa using ew) (h w rw')
  · have hj : (i + (its.toArray.size : Int)).toNat = j := by
      rw [seqIndex_neg (by omega) h4] at h1
      rw [List.size_toArray, ← hl]
      exact Option.some.inj h1
    exact wpAny_getItem_list_neg pl.isList (by omega) (by rw [List.size_toArray] <;> omega) (by omega) (by rw [hj]; simpa using ew) (h w rw')
theorem getC_ok {pins : List (Addr × Obj)} {s : Shared} {σ : St} {H : Hp} {ρ : Wd} {S : Store} {x y d : R} {xv yv : V} {ov iv : Value} {Q : Value → Shared → Prop} {E : Value → Shared → Prop} (hu : X.A.units + 1 < cLine) (I : Inv X pins σ H s) (sr : SR X.K H ρ S) (rx : Rq X.K H ρ xv x) (ry : Rq X.K H ρ yv y) (ro : RelV xv ov) (ri : RelV yv iv)
    (h : getC x y S = some d) (k : ∀ z w s', Rq X.K H ρ z d → RelV z w → Inv X pins σ H s' → Q w s') : wpAny (model X.prog X.w) X.A (getItem ov iv) Q E s := by
  unfold getC at h
  split at h
  · rename_i n
    cases rx with
    | ref ea =>
    cases ro
    split at h
    · rename_i ds hds
      split at h
      · rename_i i
        obtain ⟨xs, hx, ra, hz⟩ := sr.lst ea hds
        obtain ⟨z, hz1, hz2⟩ := atI_rqa ra h
        cases ry with
        | v ry =>
        cases ry
        exact getItem_listV I (.inl (.inl hx)) ri hz1 fun w rw' => k z w s hz2 rw' I
      · cases h
    · rename_i kvs hds
      obtain ⟨key, hk, hv⟩ := Option.bind_eq_some_iff.mp h
      obtain ⟨xs, hx, ra, hz⟩ := sr.dK ea hds
      have hy := keyOf_kV ry hk
      subst hy
      rcases ra.val key with ⟨_, h2⟩ | ⟨v, d', h1, h2, h3⟩
      · rw [h2] at hv; cases hv
      · rw [h2] at hv; cases hv
        exact d_getItem hu I (by have := DGet.k (k := key) hx; rwa [h1] at this) ri fun w s' I' rw' => k v w s' h3 rw' I'
    · cases h
  · cases h
theorem setC_ok {pins : List (Addr × Obj)} {s : Shared} {σ : St} {H : Hp} {ρ : Wd} {S S' : Store} {x y d : R} {xv yv v : V} {ov iv u : Value} {Q : Hp → Prop} (hu : X.A.units + 1 < cLine) (I : Inv X pins σ H s) (sr : SR X.K H ρ S) (rx : Rq X.K H ρ xv x) (ry : Rq X.K H ρ yv y) (rd : Rq X.K H ρ v d) (ro : RelV xv ov) (ri : RelV yv iv) (rv : RelV v u)
    (h : setC x y d S = some S') (k : ∀ H', Mo X.K H ρ H' ρ → SR X.K H' ρ S' → Q H') : wpAny (model X.prog X.w) X.A (setItem ov iv u) (fun _ s' => ∃ H', Inv X pins σ H' s' ∧ Q H') X.xe s := by
  unfold setC at h
  split at h
  · rename_i n
    split at h
    · rename_i ds hds
      split at h
      · rename_i i
        split at h
        · rename_i j hj
          cases h
          refine set_list pins s σ H xv yv v ov iv u Q I ro ri rv ?_
          exact setIx_ok (S' := S.set n (.lst (ds.set j d))) sr rx ry rd (by unfold setIx; simp only [hds, hj]) k
        · cases h
      · cases h
    · rename_i kvs hds
      obtain ⟨key, hk, hv⟩ := Option.bind_eq_some_iff.mp h
      split at hv
      · rename_i hz
        cases hv
        cases rx with
        | ref ea =>
        obtain ⟨xs, hx, ra, hl⟩ := sr.dK ea hds
        have hy := keyOf_kV ry hk
        subst hy
        cases ro
        have hlen : xs.length = kvs.length := Paired.length ra
        have mo : Mo X.K H ρ (upd H _ (.dK (putK xs key v))) ρ := .set hx trivial hl
        exact d_setItem hu I (DPut.k hx (by rw [hlen]; exact hz)) ri rv fun s' I' => ⟨_, I', k _ mo (sr.set ea hx trivial hl ⟨_, upd_same, (ra.put key rd).mo mo⟩)⟩
      · cases hv
    · cases h
  · cases h
def mAugIx (f o i : ME) (g : R → R → Store → Out R) : MS := fun m S => (o m S).thenS m fun x S1 => (i m S1).thenS m fun y S2 => match getC x y S2 with
  | some old => (f m S2).thenS m fun d S3 => (g old d S3).thenS m fun z S4 => match setC x y z S4 with
    | some S5 => .nx m S5
    | none => .no
  | none => .no
theorem psm_augIx {E : St → XK} {o i value : Expr} {tpos pos : Pos} {op : Operator} {ma mo mi : ME} {g : R → R → Store → Out R} (hu : X.A.units + 65 < cLine) (ho : PE X o (tE X.K E mo)) (hi : PE X i (tE X.K E mi)) (he : PE X value (tE X.K E ma)) (hp : PIp X op (rM X.K g))
    (hi2 : ∀ ov iv new, augStore i ov iv new = (do holding [new, ov, iv] (setItem ov iv new); release [new, ov, iv] []; pure .next) := by intros; rfl) :
    PS X (.AugAssign (.Subscript o i tpos) op value pos) (tS X.K E (mAugIx ma mo mi g)) := by
  refine ⟨fun pins s σ H D I h => ?_⟩
  obtain ⟨ρ, m, S, sr, er, h⟩ := h
  have q1 : tE X.K E mo σ H fun xv H1 => ∃ x S1 ρ1, Mo X.K H ρ H1 ρ1 ∧ SR X.K H1 ρ1 S1 ∧ Rq X.K H1 ρ1 xv x ∧ EnvR X.K H1 ρ1 σ m ∧ RS X.K E H1 ρ1 ((mi m S1).thenS m fun y S2 => match getC x y S2 with
      | some old => (ma m S2).thenS m fun d S3 => (g old d S3).thenS m fun z S4 => match setC x y z S4 with
        | some S5 => .nx m S5
        | none => .no
      | none => .no) D := ⟨ρ, m, S, sr, er, RS.bind er h fun x S1 xv H1 ρ1 m1 s1 r1 e1 h1 => ⟨x, S1, ρ1, m1, s1, r1, e1, h1⟩⟩
  refine wpAny_AugAssign_SubscriptAny (thn (ho.run pins s σ H _ I q1) fun ov t1 ⟨xv, H1, I1, rx, x, S1, ρ1, m1, s1, r1, e1, h1⟩ => ?_) hi2
  have q2 : tE X.K E mi σ H1 fun yv H2 => ∃ y S2 ρ2, Mo X.K H1 ρ1 H2 ρ2 ∧ SR X.K H2 ρ2 S2 ∧ Rq X.K H2 ρ2 yv y ∧ EnvR X.K H2 ρ2 σ m ∧ RS X.K E H2 ρ2 (match getC x y S2 with
      | some old => (ma m S2).thenS m fun d S3 => (g old d S3).thenS m fun z S4 => match setC x y z S4 with
        | some S5 => .nx m S5
        | none => .no
      | none => .no) D := ⟨ρ1, m, S1, s1, e1, RS.bind e1 h1 fun y S2 yv H2 ρ2 m2 s2 r2 e2 h2 => ⟨y, S2, ρ2, m2, s2, r2, e2, h2⟩⟩
  refine thn (hi.run pins t1 σ H1 _ I1 q2) fun iv t2 ⟨yv, H2, I2, ry, y, S2, ρ2, m2, s2, r2, e2, h2⟩ => ?_
  split at h2
  · rename_i old hold
    refine getC_ok (by omega) I2 s2 (r1.mo m2) r2 rx ry hold fun zo wo t3 rzo rwo I3 => ?_
    have q3 : tE X.K E ma σ H2 fun dv H3 => ∃ d S3 ρ3, Mo X.K H2 ρ2 H3 ρ3 ∧ SR X.K H3 ρ3 S3 ∧ Rq X.K H3 ρ3 dv d ∧ EnvR X.K H3 ρ3 σ m ∧ RS X.K E H3 ρ3 ((g old d S3).thenS m fun z S4 => match setC x y z S4 with
        | some S5 => .nx m S5
        | none => .no) D := ⟨ρ2, m, S2, s2, e2, RS.bind e2 h2 fun d S3 dv H3 ρ3 m3 s3 r3 e3 h3 => ⟨d, S3, ρ3, m3, s3, r3, e3, h3⟩⟩
    refine thn (he.run pins t3 σ H2 _ I3 q3) fun dw t4 ⟨dv, H3, I4, rdv, d, S3, ρ3, m3, s3, r3, e3, h3⟩ => ?_
    have q4 : rM X.K g zo dv H3 fun zv H4 => ∃ z S4 ρ4, Mo X.K H3 ρ3 H4 ρ4 ∧ SR X.K H4 ρ4 S4 ∧ Rq X.K H4 ρ4 zv z ∧ EnvR X.K H4 ρ4 σ m ∧ RS X.K E H4 ρ4 (match setC x y z S4 with
        | some S5 => .nx m S5
        | none => .no) D := ⟨_, ρ3, S3, old, d, s3, rzo.mo m3, r3, RS.bind e3 h3 fun z S4 zv H4 ρ4 m4 s4 r4 e4 h4 => ⟨z, S4, ρ4, m4, s4, r4, e4, h4⟩⟩
    refine thn (hp pins t4 σ H3 zo dv wo dw _ I4 rwo rdv q4) fun zw t5 ⟨zv, H4, I5, rzv, z, S4, ρ4, m4, s4, r4, e4, h4⟩ => ?_
    split at h4
    · rename_i S5 hS5
      refine thn (setC_ok (Q := fun H5 => D.nx σ H5) (by omega) I5 s4 (((r1.mo m2).mo m3).mo m4) ((r2.mo m3).mo m4) r4 rx ry rzv hS5 fun H5 m5 s5 => ?_) fun _ t6 ⟨H5, I6, q⟩ => ⟨σ, H5, I6, q⟩
      exact h4 σ H5 ρ4 m5 s5 (e4.mo m5)
    · exact h4.elim
  · exact h2.elim
end
def dkOf (S : Store) : R → Option (List (Key × R))
  | .v (.dct ks ds) => some (ks.zip (ds.map .v))
  | .ref n => match S[n]? with
    | some (.dK kvs) => some kvs
    | _ => none
  | _ => none
theorem RpP.zip : ∀ {ks : List Key} {xs : List V} {ds : List R}, RqA K H ρ xs ds → RpP K H ρ (ks.zip xs) (ks.zip ds)
  | [], _, _, _ => .nil
  | _ :: _, _, _, .nil => .nil
  | _ :: _, _, _, .cons h1 h2 => .cons ⟨rfl, h1⟩ (RpP.zip h2)
end M
namespace HT
open PySem PySem.Spec L2
open PyProof.Rows hiding St
section
variable {prog : Program} {w : World} {A : Around} {E : Value → Shared → Prop} {s : Shared}
theorem places_rev (n : Nat) : Builtin.Slice.slicePlaces ((n : Int) - 1) (-1) (-1) = n := by
  unfold Builtin.Slice.slicePlaces
  rw [if_neg (by decide)]
  split
  · rw [show (- -1 : Int) = 1 by decide, Int.ediv_one]; omega
  · omega
theorem sliceApplied_rev {sl : Addr} {vs : Value} {n : Nat} {Q : Int × Int × Nat → Shared → Prop} (hs : s.heap.IsSliceOf sl .none .none vs) (ps : IsPart vs (some (-1))) (h : Q ((n : Int) - 1, -1, n) s) :
    wpAny (model prog w) A (Builtin.Slice.sliceApplied (.ref sl) (pure (n : Int))) Q E s := by
  obtain ⟨os, hos, hcs, hds⟩ := id hs
  unfold Builtin.Slice.sliceApplied Builtin.Slice.sliceFields
  refine wpAny_bind (wpAny_bind (wpAny_field hos hds (x := .none) rfl (wpAny_bind (wpAny_field hos hds (x := .none) rfl (wpAny_bind (wpAny_field hos hds (x := vs) rfl (wpAny_pure ?_)))))))
  refine wpAny_bind (slicePart_ ps ?_)
  show wpAny _ _ (if ((-1 : Int) == 0) = true then _ else _) _ _ s
  rw [if_neg (by decide)]
  refine wpAny_bind (slicePart_none (wpAny_bind (slicePart_none (wpAny_bind (wpAny_pure ?_)))))
  show wpAny _ _ (pure ((n : Int) - 1, (-1 : Int), Builtin.Slice.slicePlaces ((n : Int) - 1) (-1) (-1))) _ _ s
  rw [places_rev]
  exact wpAny_pure h
theorem filterMap_same {α β : Type} {f g : α → Option β} : ∀ {l : List α}, (∀ k ∈ l, f k = g k) → l.filterMap f = l.filterMap g
  | [], _ => rfl
  | x :: l, h => by
    rw [List.filterMap_cons, List.filterMap_cons, h x (by simp), filterMap_same fun k hk => h k (by simp [hk])]
theorem pick_rev (xs : Array Value) : ((List.range xs.size).filterMap fun (k : Nat) => xs[((xs.size : Int) - 1 + (k : Int) * (-1)).toNat]?).toArray = xs.toList.reverse.toArray := by
  have e : ∀ k ∈ List.range xs.size, xs[((xs.size : Int) - 1 + (k : Int) * (-1)).toNat]? = (fun k => xs[xs.size - 1 - k]?) k := by
    intro k hk
    have := List.mem_range.mp hk
    show _ = xs[xs.size - 1 - k]?
    congr 1
    omega
  congr 1
  rw [filterMap_same e]
  have : (List.range xs.size).filterMap (fun k => xs[xs.size - 1 - k]?) = ((List.range xs.size).map fun k => xs.size - 1 - k).filterMap (xs[·]?) := by rw [List.filterMap_map]; rfl
  rw [this, PySem.W.krv_range, List.filterMap_reverse, PySem.W.krv_all]
theorem getItem_tuple_rev {t sl : Addr} {items : Array Value} {vs : Value} {Q : Value → Shared → Prop} (ht : IsTup s.heap t items) (hs : s.heap.IsSliceOf sl .none .none vs) (ps : IsPart vs (some (-1)))
    (h : Q (.ref s.heap.objs.size) { s with heap := s.heap.push { cls := .type "tuple", data := .seq items.toList.reverse.toArray } }) (hsz : items.size ≤ sizeLine) : wpAny (model prog w) A (getItem (.ref t) (.ref sl)) Q E s := by
  have hok : sizeOk (.seq items.toList.reverse.toArray) := by
    show items.toList.reverse.toArray.size ≤ sizeLine
    rw [List.size_toArray, List.length_reverse, Array.length_toList]
    exact hsz
  obtain ⟨os, hos, hcs, hds⟩ := id hs
  have hTs : s.TypeIs (.ref sl) "slice" := ⟨os, hos, hcs⟩
  unfold getItem
  try with_reducible refine wpAny_holding ?_
  first | refine wpAny_bind (wpAny_pure ?_) | skip
  refine wpAny_bind (wpAny_sequenceKey ht.typeIs (by decide) ?_)
  refine wpAny_bind (wpAny_callSpecial?_slot (name := Str.ofString "__getitem__") ht.typeIs PyProof.Rows.slot_tuple_getitem
    (wpAny_call_entry PyProof.Rows.slot_tuple_getitem ht.typeIs entry_tuple_getitem ?_ (args_tuple_getitem _ _)))
  show wpAny _ _ (Builtin.Tuple.tupleItemsOf (.ref t) >>= _) _ _ s
  refine wpAny_bind (tupleItemsOf_ ht ?_)
  refine wpAny_bind (wpAny_typeOf hTs ?_)
  rw [if_pos (by decide)]
  refine wpAny_bind (sliceApplied_rev hs ps ?_)
  show wpAny _ _ (if (((items.size : Int) - 1) == 0 && (-1 : Int) == 1 && items.size == items.size) = true then _ else _) _ _ s
  rw [if_neg (by rw [show ((-1 : Int) == 1) = false from rfl, Bool.and_false, Bool.false_and]; exact Bool.false_ne_true), pick_rev]
  first
    | exact wpAny_bind (m := Builtin.Tuple.tupleExact _) (wpAny_newObj_type (wpAny_pure ⟨_, rfl, wpAny_pure h⟩) hok)
    | exact wpAny_bind (m := Builtin.Tuple.tupleExact _) (wpAny_newObj_type (wpAny_bind (wpAny_pure (wpAny_pure ⟨_, rfl, wpAny_pure h⟩))) hok)
    | exact wpAny_bind (wpAny_bind (m := Builtin.Tuple.tupleExact _) (wpAny_newObj_type (wpAny_pure (wpAny_pure ⟨_, rfl, wpAny_pure h⟩)) hok))
    | exact wpAny_bind (wpAny_bind (m := Builtin.Tuple.tupleExact _) (wpAny_newObj_type (wpAny_pure ⟨_, rfl, wpAny_pure h⟩) hok))
end
end HT
namespace M
open PySem PySem.Spec L2
open PyProof.Rows hiding St
def tRevA (K : PySem.W.Frag) (te : TE) : TE := fun σ H Q => te σ H fun x H1 => ∃ a xs, x = .ref a ∧ ((SqL K H1 a xs ∧ ∀ p, H1 p = none → Q (.ref p) (upd H1 p (.lst xs.reverse))) ∨ (SqT K H1 a xs ∧ ∀ p, H1 p = none → Q (.ref p) (upd H1 p (.tup xs.reverse))))
theorem pe_revA {X : Cx} {e : Expr} {te : TE} {k : Nat} {p1 p2 p3 pos : Pos} (he : PE X e te) : PE X (.Subscript e (.Slice none none (some (.UnaryOp .USub (.Constant (.int 1) k p1) p2)) p3) pos) (tRevA X.K te) := by
  refine ⟨fun pins s σ H Q I h => ?_⟩
  refine Subscript_ (thn (he.run pins s σ H _ I h) fun v s1 ⟨x, H1, I1, r1, a, xs, ex, q⟩ => ?_)
  subst ex
  cases r1
  have hst : PO X (some (.UnaryOp .USub (.Constant (.int 1) k p1) p2)) (tPart (tUn (rU fun i => .int (-i)) (tC (.int 1)))) := po_some (pe_un un_neg pe_int)
  refine wpAny_Slice (thn (po_none.run pins s1 σ H1 (fun o H2 => o = none ∧ H2 = H1) I1 ⟨rfl, rfl⟩) fun vl s2 ⟨l, H2, I2, pl, el, e2⟩ => ?_)
  subst el e2
  refine thn (po_none.run pins s2 σ H2 (fun o H3 => o = none ∧ H3 = H2) I2 ⟨rfl, rfl⟩) fun vu s3 ⟨u, H3, I3, pu, eu, e3⟩ => ?_
  subst eu e3
  refine thn (hst.run pins s3 σ H3 (fun o H4 => o = some (-1) ∧ H4 = H3) I3 ⟨1, rfl, -1, rfl, rfl, rfl⟩) fun vs s4 ⟨o, H4, I4, ps, eo, e4⟩ => ?_
  subst eo e4
  cases pl
  cases pu
  have I5 : Inv X pins σ H4 { s4 with heap := s4.heap.push { cls := .type "slice", data := .fields #[.none, .none, vs] } } := I4.kept (t' := s4.toks) fun b ob q => Heap.get?_push_of_some _ q
  show wpAny (model X.prog X.w) X.A (subscriptTail e (.Slice none none (some (.UnaryOp .USub (.Constant (.int 1) k p1) p2)) p3) (.ref a) (.ref s4.heap.objs.size)) (EP X pins σ Q) X.xe { s4 with heap := s4.heap.push { cls := .type "slice", data := .fields #[.none, .none, vs] } }
  rcases q with ⟨hx, q⟩ | ⟨hx, q⟩
  · obtain ⟨its, r, ht, hz⟩ := I5.list hx
    have hlen := r.length
    refine tail_any (ops := [.ref a, .ref s4.heap.objs.size]) ht.isList.typeIs (PySem.slot_list_getitem.lookup) ?_ (by with_unfolding_all rfl)
    refine wpAny_getItem_list_slice ht.isList (Heap.IsSliceOf.new _ .none .none vs) .none .none ps (by decide) ?_ (by rw [List.size_toArray]; omega)
    rw [PySem.W.krv_pick]
    refine ⟨.ref _, _, I5.laid (t' := s4.toks) (o := .lst xs.reverse) (fun b ob q => Heap.get?_push_of_some _ q) (Nat.le_refl _) ?_, rfl, q _ (I5.hok.fresh (Nat.le_refl _))⟩
    exact ⟨by rw [List.length_reverse]; exact hz, _, 0, r.reverse, Heap.get?_push_size _ rfl⟩
  · obtain ⟨its, r, ht, hz⟩ := I5.tuple hx
    have hlen := r.length
    refine tail_any (ops := [.ref a, .ref s4.heap.objs.size]) ht.typeIs (PyProof.Rows.slot_tuple_getitem.lookup) ?_ (by with_unfolding_all rfl)
    refine HT.getItem_tuple_rev ht (Heap.IsSliceOf.new _ .none .none vs) ps ?_ (by rw [List.size_toArray]; omega)
    refine ⟨.ref _, _, I5.laid (t' := s4.toks) (o := .tup xs.reverse) (fun b ob q => Heap.get?_push_of_some _ q) (Nat.le_refl _) ?_, rfl, q _ (I5.hok.fresh (Nat.le_refl _))⟩
    exact ⟨by rw [List.length_reverse]; exact hz, _, r.reverse, IsTup.new _ _⟩
def opRev (d : R) (S : Store) : Out R := match d with
  | .v (.tup ds) => .ok (.v (.tup ds.reverse)) S
  | d => match lstOf S d with
    | some ds => .ok (.ref S.length) (S ++ [.lst ds.reverse])
    | none => .no
theorem RqA.reverse' {K : PySem.W.Frag} {H : Hp} {ρ : Wd} {vs : List V} {ds : List R} (h : RqA K H ρ vs ds) : RqA K H ρ vs.reverse ds.reverse := by
  induction h with
  | nil => exact .nil
  | cons h1 h2 ih => rw [List.reverse_cons, List.reverse_cons]; exact RqA.append ih (.cons h1 .nil)
theorem pm_rev {X : Cx} {E : St → XK} {e : Expr} {ma : ME} {k : Nat} {p1 p2 p3 pos : Pos} (he : PE X e (tE X.K E ma)) : PE X (.Subscript e (.Slice none none (some (.UnaryOp .USub (.Constant (.int 1) k p1) p2)) p3) pos) (tE X.K E (mUn opRev ma)) := by
  refine PE.imp (pe_revA he) ?_
  rintro σ H Q ⟨ρ, m, S, sr, er, h⟩
  refine ⟨ρ, m, S, sr, er, RO.bind h fun d S1 v H1 ρ1 m1 s1 r1 h1 => ?_⟩
  unfold opRev at h1
  split at h1
  · cases r1 with
    | v r1 =>
    cases r1 with
    | tup hq ra => exact ⟨_, _, rfl, .inr ⟨sqT_at hq, fun p hp => RO.tup s1 ra.reverse h1 hp⟩⟩
  · split at h1
    · rename_i ds hds
      obtain ⟨p, xs, rfl, hq, ra⟩ := s1.lsD r1 hds
      exact ⟨_, _, rfl, .inl ⟨hq, fun p hp => RO.lst s1 (RqA.reverse' ra) h1 hp⟩⟩
    · exact h1.elim
def isort (ns : List Int) : List Int := ns.mergeSort fun a b => decide (a ≤ b)
theorem isort_perm (ns : List Int) : (isort ns).Perm ns := List.mergeSort_perm _ _
theorem isort_sorted (ns : List Int) : (isort ns).Pairwise (· ≤ ·) := by
  have := List.pairwise_mergeSort (le := fun a b : Int => decide (a ≤ b)) (fun a b c h1 h2 => by simp only [decide_eq_true_eq] at *; omega) (fun a b => by simp only [Bool.or_eq_true, decide_eq_true_eq]; omega) ns
  exact this.imp fun h => by simpa using h
theorem isort_eq {ns ms : List Int} (h : ms.Perm ns) (p : ms.Pairwise (· ≤ ·)) : ms = isort ns :=
  List.Perm.eq_of_pairwise (fun a b _ _ h1 h2 => by omega) p (isort_sorted ns) (h.trans (isort_perm ns).symm)
def biSorted (ds : List R) (S : Store) : Out R := match ds with
  | [d] => match (lstOf S d).bind intsOf with
    | some ns => .ok (.ref S.length) (S ++ [.lst ((isort ns).map fun i => R.int i)])
    | none => .no
  | _ => .no
theorem rqa_of_ints {K : PySem.W.Frag} {H : Hp} {ρ : Wd} : ∀ ns : List Int, RqA K H ρ (ns.map V.int) (ns.map fun i => R.int i)
  | [] => .nil
  | n :: ns => .cons (.v (.int n)) (rqa_of_ints ns)
theorem cam_sorted {X : Cx} : CaM X (.builtin "sorted") biSorted := by
  rintro pins s σ H xs us Q I rv ⟨E, ρ, S, ds, sr, r, h⟩
  unfold biSorted at h
  split at h
  · split at h
    · rename_i d ns hbs
      obtain ⟨es, h1, h2⟩ := Option.bind_eq_some_iff.mp hbs
      obtain ⟨v, rfl, r1⟩ := r.one
      obtain ⟨a, xs, rfl, hq, ra⟩ := sr.lsD r1 h1
      refine cr_sortedI pins s σ H _ us Q I rv ⟨_, ns, rfl, by rw [← rqa_ints ra h2]; exact hq, fun ns' p hp hs hn => ?_⟩
      have := isort_eq hp hs
      subst this
      exact RO.lst sr (rqa_of_ints _) h hn
    · exact h.elim
  · exact h.elim
end M
namespace M
open PySem PySem.Spec L2
open PyProof.Rows hiding St
theorem lt_of_get' {S : Store} {n : Nat} {o : MO} (h : S[n]? = some o) : n < S.length := (List.getElem?_eq_some_iff.mp h).1
variable {K : PySem.W.Frag} {H H' : Hp} {ρ ρ' : Wd} {S S' : Store}
structure ClsT (K : PySem.W.Frag) (c : Str) (C : Addr) : Prop where
  at_ : PySem.W.nsIn K mainGlobals c = some (some (.ref C))
  cl : Cls K C
def putR' (f : Str) (d : R) : List (Str × R) → List (Str × R)
  | [] => [(f, d)]
  | (g, x) :: r => if g = f then (g, d) :: r else (g, x) :: putR' f d r
theorem RpP.look {vs : List (Str × V)} {ds : List (Str × R)} (h : RpP K H ρ vs ds) (f : Str) {d : R} (e : ds.lookup f = some d) : ∃ v, vs.lookup f = some v ∧ Rq K H ρ v d := by
  unfold RpP at h
  induction h with
  | nil => cases e
  | @cons p q ps qs h1 h2 ih =>
    obtain ⟨g, v⟩ := p
    obtain ⟨g', x⟩ := q
    obtain ⟨e1, e2⟩ := h1
    have e1 : g = g' := e1
    subst e1
    rw [List.lookup_cons] at e ⊢
    split at e
    · cases e; exact ⟨v, rfl, e2⟩
    · exact ih e
theorem RpP.lookN {vs : List (Str × V)} {ds : List (Str × R)} (h : RpP K H ρ vs ds) (f : Str) (e : ds.lookup f = none) : vs.lookup f = none := by
  unfold RpP at h
  induction h with
  | nil => rfl
  | @cons p q ps qs h1 h2 ih =>
    obtain ⟨g, v⟩ := p
    obtain ⟨g', x⟩ := q
    obtain ⟨e1, e2⟩ := h1
    have e1 : g = g' := e1
    subst e1
    rw [List.lookup_cons] at e ⊢
    split at e
    · cases e
    · exact ih e
theorem RpP.putF {vs : List (Str × V)} {ds : List (Str × R)} (h : RpP K H ρ vs ds) (f : Str) {v : V} {d : R} (r : Rq K H ρ v d) : RpP K H ρ (L2.putF f v vs) (putR' f d ds) := by
  unfold RpP at h
  induction h with
  | nil => exact .cons ⟨rfl, r⟩ .nil
  | @cons p q ps qs h1 h2 ih =>
    obtain ⟨g, w⟩ := p
    obtain ⟨g', x⟩ := q
    obtain ⟨e1, e2⟩ := h1
    have e1 : g = g' := e1
    subst e1
    show RpP K H ρ (if g = f then (g, v) :: ps else (g, w) :: L2.putF f v ps) (if g = f then (g, d) :: qs else (g, x) :: putR' f d qs)
    split
    · exact .cons ⟨rfl, r⟩ h2
    · exact .cons ⟨rfl, e2⟩ ih
def insOf (c : Str) (S : Store) : R → Option (List (Str × R))
  | .ref n => match S[n]? with
    | some (.ins c' fs) => if c' = c then some fs else none
    | _ => none
  | _ => none
theorem SR.ins {c : Str} {C : Addr} {v : V} {d : R} {gs : List (Str × R)} (T : ClsT K c C) (sr : SR K H ρ S) (r : Rq K H ρ v d) (h : insOf c S d = some gs) :
    ∃ n a dx fs, d = .ref n ∧ v = .ref a ∧ ρ.r[n]? = some a ∧ S[n]? = some (.ins c gs) ∧ H a = some (.ins C dx fs) ∧ RpP K H ρ fs gs ∧ ¬ ρ.z a := by
  cases r with
  | v r => cases h
  | @ref a n ea =>
    unfold insOf at h
    simp only at h
    split at h
    · rename_i c' fs hx
      split at h
      · rename_i hc
        cases h
        subst hc
        obtain ⟨C', dx, vs, h1, h2, h3⟩ := sr.obj n a _ ea hx
        have e : C' = C := by
          have := h1.symm.trans T.at_
          cases this
          rfl
        subst e
        exact ⟨n, a, dx, vs, rfl, rfl, ea, hx, h2, h3, sr.lv n a _ ea hx trivial⟩
      · cases h
    · cases h
def mFld (c f : Str) (a : ME) : ME := fun m S => (a m S).bind fun d S1 => match (insOf c S1 d).bind fun fs => fs.lookup f with
  | some r => .ok r S1
  | none => .no
def mSetFld (c f : Str) (o v : ME) : MS := fun m S => (v m S).thenS m fun d S1 => (o m S1).thenS m fun x S2 => match x, insOf c S2 x with
  | .ref n, some fs => if fs.length < 1000 then .nx m (S2.set n (.ins c (putR' f d fs))) else .no
  | _, _ => .no
def mAugFld (c f : Str) (o : ME) (g : R → R → Store → Out R) (v : ME) : MS := fun m S => (o m S).thenS m fun x S1 => match (insOf c S1 x).bind fun fs => fs.lookup f with
  | some old => (v m S1).thenS m fun d S2 => (g old d S2).thenS m fun z S3 => match x, insOf c S3 x with
    | .ref n, some fs => if fs.length < 1000 then .nx m (S3.set n (.ins c (putR' f z fs))) else .no
    | _, _ => .no
  | none => .no
def mMethC (c m' : Str) (g : List R → Store → Out R) (o : ME) (r : MA) : ME := fun m S => (o m S).bind fun x S1 => match insOf c S1 x with
  | some fs => match fs.lookup m' with
    | none => (r m S1).bind fun ds S2 => g (x :: ds) S2
    | some _ => .no
  | none => .no
def mMake (c : Str) (g : List R → Store → Out R) (r : MA) : ME := fun m S => (r m S).bind fun ds S1 => (g (.ref S1.length :: ds) (S1 ++ [.ins c []])).bind fun z S2 => match z with
  | .v .non => .ok (.ref S1.length) S2
  | _ => .no
section
variable {X : Cx} {E : St → XK} {a b o e value : Expr} {es : List Expr} {ma mb mo mv : ME} {mr : MA} {c f : Str} {C : Addr} {pos pos' apos tpos p : Pos}
theorem pm_fld (T : ClsT X.K c C) (n : NoAttr X.K C f) (ha : PE X a (tE X.K E ma)) (hb : attributeBase a f X.env (eval a X.env) = eval a X.env := by rfl) : PE X (.Attribute a f pos) (tE X.K E (mFld c f ma)) := by
  refine PE.imp (pe_fld ha hb) ?_
  rintro σ H Q ⟨ρ, m, S, sr, er, h⟩
  refine ⟨ρ, m, S, sr, er, RO.bind h fun d S1 v H1 ρ1 m1 s1 r1 h1 => ?_⟩
  split at h1
  · rename_i r hr
    obtain ⟨gs, hg, hl⟩ := Option.bind_eq_some_iff.mp hr
    obtain ⟨k, q, dx, fs, rfl, rfl, e1, e2, e3, e4, e5⟩ := s1.ins T r1 hg
    obtain ⟨w, l1, l2⟩ := e4.look f hl
    exact ⟨q, C, dx, fs, w, rfl, e3, T.cl, n, l1, h1 _ _ _ .refl s1 l2⟩
  · exact h1.elim
theorem psm_fld (T : ClsT X.K c C) (n : NoAttr X.K C f) (ho : PE X o (tE X.K E mo)) (hv : PE X value (tE X.K E mv)) (hs : swapsWith value (some (.Attribute o f pos')) pos.line X.env = pure false := by rfl) : PS X (.Assign [.Attribute o f pos'] value pos) (tS X.K E (mSetFld c f mo mv)) := by
  refine PS.imp (ps_fld ho hv hs) ?_
  rintro D σ H ⟨ρ, m, S, sr, er, h⟩
  refine ⟨ρ, m, S, sr, er, RS.bind er h fun d S1 v H1 ρ1 m1 s1 r1 er1 h1 => ?_⟩
  refine ⟨ρ1, m, S1, s1, er1, RS.bind er1 h1 fun x S2 w H2 ρ2 m2 s2 r2 er2 h2 => ?_⟩
  split at h2
  · rename_i k gs hk
    split at h2
    · rename_i hz
      obtain ⟨k', q, dx, fs, e0, rfl, e1, e2, e3, e4, e5⟩ := s2.ins T r2 hk
      cases e0
      have mo : Mo X.K H2 ρ2 (upd H2 q (.ins C dx (L2.putF f v fs))) ρ2 := .set e3 trivial e5
      refine ⟨q, C, dx, fs, rfl, e3, T.cl, n, by rw [show fs.length = gs.length from Paired.length e4]; exact hz, ?_⟩
      exact h2 σ _ ρ2 mo (s2.set e1 e3 trivial e5 ⟨C, dx, _, T.at_, upd_same, (e4.putF f (r1.mo m2)).mo mo⟩) (er2.mo mo)
    · exact h2.elim
  · exact h2.elim
/-- where arguments are handed on -/
theorem spM_in {n : Nat} {g : List R → Store → Out R} {vs : List V} {H : Hp} {Q : VK} {E : XK} {ρ : Wd} {S : Store} {ds : List R} (hn : ds.length = n) (sr : SR K H ρ S) (r : RqA K H ρ vs ds) (h : RO K (relD K) E H ρ (g ds S) Q) : spM K n g vs H Q E := ⟨by rw [r.length, hn], ρ, S, ds, sr, r, h⟩
theorem pm_meth {m' : Str} {CX : CXT} {k n : Nat} {fa : Addr} {fd : FuncData} {ps : List Str} {g : List R → Store → Out R} {pl : Sem Bool} (T : ClsT X.K c C) (hm : Meth X.K C m' fa) (F : FnOk X.prog X.w X.K X.mg X.base CX k fa fd ps (spM X.K (n + 1) g)) (hr : Room k X.A) (hb : Binds X.K fd ps [])
    {E0 : XK} (hx : Passes CX X E0) (hE : ∀ σ, E σ = E0) (ho : PE X o (tE X.K E mo)) (ha : PA X (e :: es) (tA X.K E mr)) (hA : ∀ m S ds S', mr m S = .ok ds S' → ds.length = n)
    (hst : starEach (e :: es) X.env = (false, eval e X.env) :: starEach es X.env := by rfl) (hpl : (backTo pos (starEach es X.env)).any (·.1) = false := by rfl)
    (ht : eval (.Call (.Attribute o m' apos) (e :: es) [] pos) X.env = (do
      let ov ← eval o X.env
      standAt apos.atName
      let (f, first) ← holding [ov] (getMethod ov m' pl)
      callWith pos f first (backTo pos (starEach (e :: es) X.env)) (backToKw pos (keywordEach [] X.env))) := by rfl) :
    PE X (.Call (.Attribute o m' apos) (e :: es) [] pos) (tE X.K E (mMethC c m' g mo mr)) := by
  refine PE.imp (pe_meth (E := E0) ho T.cl hm F hr hb .nil hx ha hst hpl ht) ?_
  rintro σ H Q ⟨ρ, m, S, sr, er, h⟩
  refine ⟨ρ, m, S, sr, er, RO.bind h fun x S1 v H1 ρ1 m1 s1 r1 h1 => ?_⟩
  split at h1
  · rename_i gs hg
    obtain ⟨k', q, dx, fs, rfl, rfl, e1, e2, e3, e4, e5⟩ := s1.ins T r1 hg
    split at h1
    · rename_i hl
      refine ⟨q, dx, fs, rfl, e3, e4.lookN _ hl, ρ1, m, S1, s1, er.mo m1, ?_⟩
      have hA := hA m S1
      generalize mr m S1 = oo at h1 hA ⊢
      cases oo with
      | ok ds S2 =>
        intro vs H2 ρ2 m2 s2 r2
        rw [List.append_nil]
        refine spM_in (by rw [List.length_cons, hA ds S2 rfl]) s2 (.cons (r1.mo m2) r2) ?_
        have := RO.mono h1 m2
        rw [hE] at this
        exact this
      | exc c' S2 => exact h1
      | no => exact h1
    · exact h1.elim
  · exact h1.elim
theorem made {c : Str} {C x dx : Addr} {vs : List V} {ds : List R} {g : List R → Store → Out R} {n : Nat} {Q : VK} {E0 : XK} (T : ClsT K c C) (sr : SR K H ρ S) (r : RqA K H ρ vs ds) (hn : ds.length = n) (hx : H x = none) (hd : H dx = none) (hne : dx ≠ x)
    (h : RO K (relD K) E0 H ρ ((g (.ref S.length :: ds) (S ++ [.ins c []])).bind fun z S2 => match z with | .v .non => .ok (.ref S.length) S2 | _ => .no) Q) :
    spM K (n + 1) g (.ref x :: vs) (upd (upd H dx (.own x)) x (.ins C dx [])) (fun v H2 => v = .non ∧ Q (.ref x) H2) E0 := by
  have m1 : Mo K H ρ (upd H dx (.own x)) ρ := .new sr hd
  have s1 : SR K (upd H dx (.own x)) ρ S := sr.newT hd
  have hx1 : upd H dx (.own x) x = none := by rw [upd_ne (Ne.symm hne)]; exact hx
  have m2 : Mo K (upd H dx (.own x)) ρ (upd (upd H dx (.own x)) x (.ins C dx [])) ⟨ρ.r ++ [x], ρ.z⟩ := .newR s1 hx1
  have s2 : SR K (upd (upd H dx (.own x)) x (.ins C dx [])) ⟨ρ.r ++ [x], ρ.z⟩ (S ++ [.ins c []]) := s1.new hx1 ⟨C, dx, [], T.at_, upd_same, .nil⟩
  have hr : (ρ.r ++ [x])[S.length]? = some x := by rw [← sr.len, List.getElem?_append_right (Nat.le_refl _), Nat.sub_self]; rfl
  refine spM_in (by rw [List.length_cons, hn]) s2 (.cons (.ref hr) ((r.mo m1).mo m2)) (RO.bind (RO.mono (RO.mono h m1) m2) fun z S2 zv H2 ρ2 m3 s3 r3 h3 => ?_)
  split at h3
  · cases r3 with
    | v r3 => cases r3; exact ⟨rfl, h3 _ _ _ .refl s3 (.ref (m3.ref _ _ hr))⟩
  · exact h3.elim
theorem pm_make {x : Str} {CX : CXT} {k n : Nat} {fa : Addr} {fd : FuncData} {ps : List Str} {g : List R → Store → Out R} (T : ClsT X.K x C) (Mc : Mk X.K C fa) (F : FnOk X.prog X.w X.K X.mg X.base CX k fa fd ps (spM X.K (n + 1) g)) (hr : Room (k + 1) X.A) (hg : Gl X x) (hm : X.mg x = some (.ref C)) (hb : Binds X.K fd ps [])
    {E0 : XK} (hx : Passes CX X E0) (hE : ∀ σ, E σ = E0) (ha : PA X (e :: es) (tA X.K E mr)) (hA : ∀ m S ds S', mr m S = .ok ds S' → ds.length = n) (hdb : (x == ("__debug__" : Str)) = false := by decide) (he : starEach (e :: es) X.env = (false, eval e X.env) :: starEach es X.env := by rfl) (hpl : (backTo pos (starEach es X.env)).any (·.1) = false := by rfl) :
    PE X (.Call (.Name x p) (e :: es) [] pos) (tE X.K E (mMake x g mr)) := by
  refine PE.imp (pe_make (E := E0) Mc F hr hg hm hb .nil hx ha hdb he hpl) ?_
  rintro σ H Q ⟨ρ, m, S, sr, er, h⟩
  have hA := hA m S
  refine ⟨ρ, m, S, sr, er, ?_⟩
  unfold mMake at h
  generalize mr m S = oo at h hA ⊢
  cases oo with
  | ok ds S1 =>
    intro vs H1 ρ1 m1 s1 r1 y dy hy hdy hne
    rw [List.append_nil]
    have h2 := RO.mono h m1
    rw [hE] at h2
    exact made T s1 r1 (hA ds S1 rfl) hy hdy hne h2
  | exc c' S1 => exact h
  | no => exact h
end
def keyD : D → Option Key
  | .int i => some (.inl i)
  | .str x => some (.inr x)
  | _ => none
def keyDs : List D → Option (List Key)
  | [] => some []
  | d :: ds => match keyD d, keyDs ds with
    | some k, some ks => some (k :: ks)
    | _, _ => none
def keyT : R → Option (List Key)
  | .v (.tup ds) => keyDs ds
  | _ => none
def dKey : Key → D
  | .inl i => .int i
  | .inr x => .str x
theorem keyD_kV {v : V} {d : D} {k : Key} (r : Rp K H ρ v d) (h : keyD d = some k) : v = kV k := by
  cases r <;> first | (cases h; rfl) | cases h
theorem keyDs_kV : ∀ {ds : List D} {vs : List V} {ks : List Key}, RpA K H ρ vs ds → keyDs ds = some ks → vs = ks.map kV
  | [], _, _, .nil, h => by cases h; rfl
  | d :: ds, _, ks, .cons h1 h2, h => by
    unfold keyDs at h
    split at h
    · rename_i k ks' hk hks
      cases h
      rw [keyD_kV h1 hk, keyDs_kV h2 hks]; rfl
    · cases h
theorem keyT_kV {v : V} {d : R} {ks : List Key} (r : Rq K H ρ v d) (h : keyT d = some ks) : ∃ b, v = .ref b ∧ H b = some (.tup (ks.map kV)) := by
  cases r with
  | ref e => cases h
  | v r =>
    cases r <;> first | (cases h; done) | skip
    case tup hs ra =>
      refine ⟨_, rfl, ?_⟩
      rw [← keyDs_kV ra h]; exact hs
theorem kV_dKey (k : Key) : Rp K H ρ (kV k) (dKey k) := by
  cases k with
  | inl i => exact .int i
  | inr x => exact .str x
theorem kVs_dKey : ∀ ks : List Key, RpA K H ρ (ks.map kV) (ks.map dKey)
  | [] => .nil
  | k :: ks => .cons (kV_dKey k) (kVs_dKey ks)
def putT (kvs : List (List Key × R)) (k : List Key) (v : R) : List (List Key × R) :=
  if (kvs.any fun kv => decide (kv.1 = k)) = true then kvs.map (fun kv => if kv.1 = k then (kv.1, v) else kv) else kvs ++ [(k, v)]
def valT (kvs : List (List Key × R)) (k : List Key) : Option R := (kvs.find? fun kv => decide (kv.1 = k)).map (·.2)
section
variable {κ : Type} [DecidableEq κ]
theorem RpPk.any {vs : List (κ × V)} {ds : List (κ × R)} (h : RpP K H ρ vs ds) (k : κ) : (vs.any fun kv => decide (kv.1 = k)) = ds.any fun kv => decide (kv.1 = k) := by
  unfold RpP at h
  induction h with
  | nil => rfl
  | cons h1 h2 ih => rw [List.any_cons, List.any_cons, ih, h1.1]
theorem RpPk.append {vs ws : List (κ × V)} {ds es : List (κ × R)} (h : RpP K H ρ vs ds) (k : RpP K H ρ ws es) : RpP K H ρ (vs ++ ws) (ds ++ es) := by
  unfold RpP at h
  induction h with
  | nil => exact k
  | cons h1 h2 ih => exact .cons h1 ih
theorem RpPk.repl {vs : List (κ × V)} {ds : List (κ × R)} (h : RpP K H ρ vs ds) (k : κ) {v : V} {d : R} (r : Rq K H ρ v d) : RpP K H ρ (vs.map fun kv => if kv.1 = k then (kv.1, v) else kv) (ds.map fun kv => if kv.1 = k then (kv.1, d) else kv) := by
  unfold RpP at h
  induction h with
  | nil => exact .nil
  | @cons p q ps qs h1 h2 ih =>
    refine .cons ?_ ih
    by_cases hk : p.1 = k
    · have hk' : q.1 = k := by rw [← h1.1]; exact hk
      simp only [if_pos hk, if_pos hk']
      exact ⟨h1.1, r⟩
    · have hk' : ¬ q.1 = k := by rw [← h1.1]; exact hk
      simp only [if_neg hk, if_neg hk']
      exact h1
theorem RpPk.val {vs : List (κ × V)} {ds : List (κ × R)} (h : RpP K H ρ vs ds) (k : κ) : (valV vs k = none ∧ (ds.find? fun kv => decide (kv.1 = k)).map (·.2) = none) ∨ ∃ v d, valV vs k = some v ∧ (ds.find? fun kv => decide (kv.1 = k)).map (·.2) = some d ∧ Rq K H ρ v d := by
  unfold RpP at h
  induction h with
  | nil => exact .inl ⟨rfl, rfl⟩
  | @cons p q ps qs h1 h2 ih =>
    unfold valV at ih ⊢
    by_cases hk : p.1 = k
    · have hk' : q.1 = k := by rw [← h1.1]; exact hk
      refine .inr ⟨p.2, q.2, ?_, ?_, h1.2⟩
      · rw [List.find?_cons_of_pos (by simpa using hk)]; rfl
      · rw [List.find?_cons_of_pos (by simpa using hk')]; rfl
    · have hk' : ¬ q.1 = k := by rw [← h1.1]; exact hk
      rw [List.find?_cons_of_neg (by simpa using hk), List.find?_cons_of_neg (by simpa using hk')]
      exact ih
end
theorem RpP.putT {vs : List (List Key × V)} {ds : List (List Key × R)} (h : RpP K H ρ vs ds) (k : List Key) {v : V} {d : R} (r : Rq K H ρ v d) : RpP K H ρ (putK vs k v) (putT ds k d) := by
  unfold putK M.putT
  rw [RpPk.any h k]
  split
  · exact RpPk.repl h k r
  · exact RpPk.append h (.cons ⟨rfl, r⟩ .nil)
/-- read, locked or not -/
def dtOf (S : Store) : R → Option (List (List Key × R))
  | .ref n => match S[n]? with
    | some (.dT kvs) => some kvs
    | some (.lkT kvs) => some kvs
    | _ => none
  | _ => none
theorem SR.dt {v : V} {d : R} {kds : List (List Key × R)} (sr : SR K H ρ S) (r : Rq K H ρ v d) (h : dtOf S d = some kds) : ∃ a xs, v = .ref a ∧ Rd H a (.dT xs) ∧ RpP K H ρ xs kds := by
  cases r with
  | v r => cases h
  | @ref a n ea =>
    unfold dtOf at h
    simp only at h
    split at h
    · rename_i kvs hx
      cases h
      obtain ⟨xs, h1, h2⟩ := sr.obj n a _ ea hx
      exact ⟨a, xs, rfl, .inl h1, h2⟩
    · rename_i kvs hx
      cases h
      obtain ⟨_, od, xs, h1, h2⟩ := sr.obj n a _ ea hx
      exact ⟨a, xs, rfl, .inr ⟨_, h1⟩, h2⟩
    · cases h
theorem SR.dgetT {v y : V} {d e : R} {kds : List (List Key × R)} {k : List Key} (sr : SR K H ρ S) (r : Rq K H ρ v d) (h : dtOf S d = some kds) (re : Rq K H ρ y e) (he : keyT e = some k) : ∃ a o, v = .ref a ∧ DGet H a y o ∧ (match valT kds k with
    | some w => ∃ x, o = some x ∧ Rq K H ρ x w
    | none => o = none) := by
  obtain ⟨a, xs, rfl, hd, rp⟩ := sr.dt r h
  obtain ⟨b, rfl, hb⟩ := keyT_kV re he
  refine ⟨a, valV xs k, rfl, .inr ⟨xs, k, b, hd, rfl, hb, rfl⟩, ?_⟩
  unfold valT
  rcases RpPk.val rp k with ⟨h1, h2⟩ | ⟨w, z, h1, h2, h3⟩
  · rw [h1, h2]
  · rw [h1, h2]; exact ⟨w, rfl, h3⟩
def opIxT (d e : R) (S : Store) : Out R := match dtOf S d, keyT e with
  | some kvs, some k => match valT kvs k with
    | some x => .ok x S
    | none => .no
  | _, _ => .no
def biLenT (ds : List R) (S : Store) : Out R := match ds with
  | [d] => match dtOf S d with
    | some kvs => .ok (.v (.int kvs.length)) S
    | none => .no
  | _ => .no
def mDctT0 : ME := fun _ S => .ok (.ref S.length) (S ++ [.dT []])
def mSetT (f o i : ME) : MS := fun m S => (f m S).thenS m fun d S1 => (o m S1).thenS m fun x S2 => (i m S2).thenS m fun y S3 => match x, keyT y with
  | .ref n, some k => match S3[n]? with
    | some (.dT kvs) => if kvs.length < sizeLine then .nx m (S3.set n (.dT (putT kvs k d))) else .no
    | _ => .no
  | _, _ => .no
section
variable {X : Cx} {E : St → XK} {a b c o i e f value : Expr} {ma mb mc mo mi mv : ME} {pos pos' apos cpos : Pos}
theorem pm_dctT0 : PE X (.Dict [] [] pos) (tE X.K E mDctT0) := by
  refine PE.imp pe_dnewT ?_
  rintro σ H Q ⟨ρ, m, S, sr, er, h⟩
  exact fun p hp => h _ _ _ (.newR sr hp) (sr.new hp ⟨[], upd_same, .nil⟩) (.ref (by rw [← sr.len]; show (ρ.r ++ [p])[ρ.r.length]? = _; rw [List.getElem?_append_right (Nat.le_refl _), Nat.sub_self]; rfl))
theorem pm_ixT (hu : X.A.units + 65 < cLine) (ha : PE X a (tE X.K E ma)) (hb : PE X b (tE X.K E mb)) (hs : NoSl b := by exact fun _ _ => rfl) : PE X (.Subscript a b pos) (tE X.K E (mBin opIxT ma mb)) := by
  refine PE.imp (pe_dget (by omega) ha hb hs) ?_
  rintro σ H Q ⟨ρ, m, S, sr, er, h⟩
  refine ⟨ρ, m, S, sr, er, RO.bind h fun d S1 v H1 ρ1 m1 s1 r1 h1 => ?_⟩
  refine ⟨ρ1, m, S1, s1, er.mo m1, RO.bind h1 fun e S2 w H2 ρ2 m2 s2 r2 h2 => ?_⟩
  unfold opIxT at h2
  split at h2
  · rename_i kvs k hk he
    obtain ⟨q, oo, rfl, g, hv⟩ := s2.dgetT (r1.mo m2) hk r2 he
    split at h2
    · rename_i x hx
      rw [hx] at hv
      obtain ⟨y, rfl, ry⟩ := hv
      exact ⟨q, y, rfl, g, h2 _ _ _ .refl s2 ry⟩
    · exact h2.elim
  · exact h2.elim
theorem psm_setT (hu : X.A.units + 65 < cLine) (hv : PE X value (tE X.K E mv)) (ho : PE X o (tE X.K E mo)) (hi : PE X i (tE X.K E mi)) (hs : swapsWith value (some (.Subscript o i pos')) pos.line X.env = pure false := by rfl) : PS X (.Assign [.Subscript o i pos'] value pos) (tS X.K E (mSetT mv mo mi)) := by
  refine PS.imp (ps_dput (by omega) ho hi hv hs) ?_
  rintro D σ H ⟨ρ, m, S, sr, er, h⟩
  refine ⟨ρ, m, S, sr, er, RS.bind er h fun d S1 v H1 ρ1 m1 s1 r1 er1 h1 => ?_⟩
  refine ⟨ρ1, m, S1, s1, er1, RS.bind er1 h1 fun x S2 w H2 ρ2 m2 s2 r2 er2 h2 => ?_⟩
  refine ⟨ρ2, m, S2, s2, er2, RS.bind er2 h2 fun y S3 z H3 ρ3 m3 s3 r3 er3 h3 => ?_⟩
  split at h3
  · rename_i n k hk
    split at h3
    · rename_i kvs hx
      split at h3
      · rename_i hz
        have r2' := r2.mo m3
        cases r2' with
        | @ref q _ ea =>
        obtain ⟨xs, hq, rp⟩ := s3.obj n q _ ea hx
        have hl := s3.lv n q _ ea hx trivial
        obtain ⟨bb, rfl, hb⟩ := keyT_kV r3 hk
        have mo : Mo X.K H3 ρ3 (upd H3 q (.dT (putK xs k v))) ρ3 := .set hq trivial hl
        refine ⟨q, _, rfl, DPut.t hq hb (by rw [show xs.length = kvs.length from Paired.length rp]; exact hz), ?_⟩
        exact h3 σ _ ρ3 mo (s3.set ea hq trivial hl ⟨_, upd_same, (rp.putT k ((r1.mo m2).mo m3)).mo mo⟩) (er3.mo mo)
      · exact h3.elim
    · exact h3.elim
  · exact h3.elim
theorem cam_lenT : CaM X (.builtin "len") biLenT := by
  rintro pins s σ H xs us Q I r ⟨E, ρ, S, ds, sr, rd, h⟩
  unfold biLenT at h
  split at h
  · split at h
    · rename_i d kvs hk
      obtain ⟨w, rfl, r1⟩ := rd.one
      obtain ⟨a, ys, rfl, ha, ra⟩ := sr.dt r1 hk
      obtain ⟨u, rfl, ru⟩ := r.one
      cases ru
      obtain ⟨z, hd, zs, rel, dd⟩ := dt_rd I.hok ha
      have hl : ys.length = zs.length := Paired.length rel
      refine call_len_dictH hd dd (by rw [← hl]; rw [sizeLine_eq] at z; omega) ?_
      rw [← hl]
      refine ⟨.int ((ys.length : Nat) : Int), H, I.tok _, ⟨_, rfl⟩, ?_⟩
      rw [show ys.length = kvs.length from Paired.length ra]
      exact h _ _ _ .refl sr (.v (.int _))
    · exact h.elim
  · exact h.elim
end
structure Wk (K : PySem.W.Frag) (H : Hp) (ρ : Wd) (H' : Hp) (ρ' : Wd) : Prop where
  tup : ∀ a xs, H a = some (.tup xs) → H' a = some (.tup xs)
  kl : ∀ a xs, KL K H a xs → KL K H' a xs
  ref : ∀ (n : Nat) (a : Addr), ρ.r[n]? = some a → ρ'.r[n]? = some a
  zl : ∀ a xs, ρ.z a → H a = some (.lst xs) → ρ'.z a ∧ H' a = some (.lst xs)
  zd : ∀ a kvs, ρ.z a → H a = some (.dK kvs) → ρ'.z a ∧ H' a = some (.dK kvs)
mutual
theorem Rp.wk (w : Wk K H ρ H' ρ') : ∀ (d : D) (v : V), Rp K H ρ v d → Rp K H' ρ' v d
  | .non, _, h => by cases h; exact .non
  | .bl b, _, h => by cases h; exact .bl b
  | .int i, _, h => by cases h; exact .int i
  | .str x, _, h => by cases h; exact .str x
  | .ty n, _, h => by cases h; exact .ty n
  | .tup ds, _, h => by
    cases h with
    | tup hs ha => exact .tup (w.tup _ _ hs) (RpA.wk w ds _ ha)
  | .lst ds, _, h => by
    cases h with
    | lst hs ha => exact .lst (w.zl _ _ hs.1 hs.2) (RpA.wk w ds _ ha)
  | .kl ds, _, h => by
    cases h with
    | kl hs ha => exact .kl (w.kl _ _ hs) (RpA.wk w ds _ ha)
  | .dct ks ds, _, h => by
    cases h with
    | dct hz hs hl ha => exact .dct (w.zd _ _ hz hs).1 (w.zd _ _ hz hs).2 hl (RpA.wk w ds _ ha)
  | .txt, _, h => by
    cases h with
    | txt x hx => exact .txt x hx
  | .kt ds, _, h => by
    cases h with
    | kt hs ha => exact .kt hs (RpA.wk w ds _ ha)
theorem RpA.wk (w : Wk K H ρ H' ρ') : ∀ (ds : List D) (vs : List V), RpA K H ρ vs ds → RpA K H' ρ' vs ds
  | [], _, h => by cases h; exact .nil
  | d :: ds, _, h => by
    cases h with
    | cons h1 h2 => exact .cons (Rp.wk w d _ h1) (RpA.wk w ds _ h2)
end
theorem Rq.wk (w : Wk K H ρ H' ρ') {v : V} {d : R} (h : Rq K H ρ v d) : Rq K H' ρ' v d := by
  cases h with
  | v h => exact .v (Rp.wk w _ _ h)
  | ref e => exact .ref (w.ref _ _ e)
theorem RqA.wk (w : Wk K H ρ H' ρ') {v : List V} {d : List R} (h : RqA K H ρ v d) : RqA K H' ρ' v d := Paired.mapP h fun _ _ q => q.wk w
theorem RpP.wk {κ : Type} (w : Wk K H ρ H' ρ') {vs : List (κ × V)} {ds : List (κ × R)} (h : RpP K H ρ vs ds) : RpP K H' ρ' vs ds := Paired.mapP h fun _ _ q => ⟨q.1, q.2.wk w⟩
theorem EnvR.wk (w : Wk K H ρ H' ρ') {σ : St} {m : Env} (h : EnvR K H ρ σ m) : EnvR K H' ρ' σ m := ⟨h.len, fun i d e => by
  obtain ⟨v, a, b⟩ := h.get i d e
  exact ⟨v, a, b.wk w⟩⟩
theorem HoR.wk (w : Wk K H ρ H' ρ') {a : Addr} (ha : H' a = H a) (hz : ρ.z a → ρ'.z a) : ∀ {o : MO}, HoR K H ρ a o → HoR K H' ρ' a o
  | .lst ds, ⟨xs, h, r⟩ => ⟨xs, by rw [ha]; exact h, r.wk w⟩
  | .dK ds, ⟨xs, h, r⟩ => ⟨xs, by rw [ha]; exact h, r.wk w⟩
  | .dT ds, ⟨xs, h, r⟩ => ⟨xs, by rw [ha]; exact h, r.wk w⟩
  | .ins C ds, ⟨c, dx, xs, hc, h, r⟩ => ⟨c, dx, xs, hc, by rw [ha]; exact h, r.wk w⟩
  | .lkK ds, ⟨z, od, xs, h, r⟩ => ⟨hz z, od, xs, by rw [ha]; exact h, r.wk w⟩
  | .lkT ds, ⟨z, od, xs, h, r⟩ => ⟨hz z, od, xs, by rw [ha]; exact h, r.wk w⟩
  | .fz d, h => Rp.wk w _ _ h
/-- a locked dict, free, and the store that says so -/
inductive LkU : HO → MO → MO → Prop
  | t {xs : List (List Key × V)} {kvs : List (List Key × R)} : LkU (.dT xs) (.dT kvs) (.lkT kvs)
  | k {xs : List (Key × V)} {kvs : List (Key × R)} : LkU (.dK xs) (.dK kvs) (.lkK kvs)
def wdLock (ρ : Wd) (d : Addr) : Wd := ⟨ρ.r, fun b => ρ.z b ∨ b = d⟩
def wdFree (ρ : Wd) (d : Addr) : Wd := ⟨ρ.r, fun b => ρ.z b ∧ b ≠ d⟩
theorem lock_in {n : Nat} {d : Addr} {u od : HO} {o : Obj} {f l : MO} (sr : SR K H ρ S) (e : ρ.r[n]? = some d) (hx : S[n]? = some f) (hl : LkU u f l) (hd : H d = some u) (hr : HoR K H ρ d f) (hz : ¬ ρ.z d) :
    Mo K H ρ (upd H d (.frz o u)) (wdLock ρ d) ∧ SR K (upd H d (.frz o u)) (wdLock ρ d) (S.set n l) := by
  have so : Soft u := by cases hl <;> trivial
  have m0 : Mo K H ρ (upd H d (.frz o u)) ρ := .set hd so hz
  have mo : Mo K H ρ (upd H d (.frz o u)) (wdLock ρ d) := ⟨m0.tup, m0.kl, m0.ref, fun a h => ⟨.inl h, (m0.z a h).2⟩⟩
  refine ⟨mo, ⟨sr.nd, by rw [List.length_set]; exact sr.len, fun k a o' e' q => ?_, fun k a o' e' q hlv => ?_, fun a h => ?_, fun k a e' => ?_⟩⟩
  · by_cases hk : n = k
    · subst hk
      have ea : a = d := by rw [show (wdLock ρ d).r = ρ.r from rfl, e] at e'; exact (Option.some.inj e').symm
      subst ea
      rw [List.getElem?_set_self (lt_of_get' hx)] at q
      cases q
      cases hl with
      | t =>
        obtain ⟨xs, h1, h2⟩ := hr
        rw [hd] at h1; cases h1
        exact ⟨.inr rfl, o, _, upd_same, RpP.mo h2 mo⟩
      | k =>
        obtain ⟨xs, h1, h2⟩ := hr
        rw [hd] at h1; cases h1
        exact ⟨.inr rfl, o, _, upd_same, RpP.mo h2 mo⟩
    · rw [List.getElem?_set_ne hk] at q
      have hne : a ≠ d := fun z => hk (nd_at sr.nd e (z ▸ e'))
      exact (sr.obj k a o' e' q).mo mo (upd_ne hne)
  · by_cases hk : n = k
    · subst hk
      rw [List.getElem?_set_self (lt_of_get' hx)] at q
      cases q
      cases hl <;> exact hlv.elim
    · rw [List.getElem?_set_ne hk] at q
      have hne : a ≠ d := fun z => hk (nd_at sr.nd e (z ▸ e'))
      exact fun z => z.elim (sr.lv k a o' e' q hlv) hne
  · by_cases hne : a = d
    · subst hne; rw [upd_same]; exact fun z => nomatch z
    · rw [upd_ne hne]; exact sr.z a (h.resolve_right hne)
  · by_cases hne : a = d
    · subst hne; rw [upd_same]; exact fun z => nomatch z
    · rw [upd_ne hne]; exact sr.r k a e'
theorem lock_out {n : Nat} {d : Addr} {u : HO} {o : Obj} {f l : MO} {H1 : Hp} {ρ1 : Wd} {S1 : Store} (sr : SR K H ρ S) (e : ρ.r[n]? = some d) (hl : LkU u f l) (hd : H d = some u) (hr : HoR K H ρ d f) (hz : ¬ ρ.z d)
    (mo : Mo K (upd H d (.frz o u)) (wdLock ρ d) H1 ρ1) (m0 : Mo K H ρ (upd H d (.frz o u)) (wdLock ρ d)) (s1 : SR K H1 ρ1 S1) (hx : S1[n]? = some l) :
    H1 d = some (.frz o u) ∧ Wk K H1 ρ1 (upd H1 d u) (wdFree ρ1 d) ∧ Mo K H ρ (upd H1 d u) (wdFree ρ1 d) ∧ SR K (upd H1 d u) (wdFree ρ1 d) (S1.set n f) := by
  have hd1 : H1 d = some (.frz o u) := by rw [(mo.z d (.inr rfl)).2, upd_same]
  have nu : ∀ xs, u ≠ .tup xs ∧ u ≠ .lst xs := fun xs => by cases hl <;> exact ⟨(fun z => nomatch z), (fun z => nomatch z)⟩
  have e1 : ρ1.r[n]? = some d := mo.ref n d e
  have wk : Wk K H1 ρ1 (upd H1 d u) (wdFree ρ1 d) := by
    refine ⟨fun a xs h => ?_, fun a xs h => ?_, fun _ _ h => h, fun a xs hz' h => ?_, fun a xs hz' h => ?_⟩
    · have hne : a ≠ d := fun z => by subst z; rw [hd1] at h; cases h
      rw [upd_ne hne]; exact h
    · rcases h with ⟨o', h⟩ | h
      · have hne : a ≠ d := fun z => by
          subst z; rw [hd1] at h
          have q := (HO.frz.inj (Option.some.inj h)).2
          exact (nu xs).2 q
        exact .inl ⟨o', by rw [upd_ne hne]; exact h⟩
      · exact .inr h
    · have hne : a ≠ d := fun z => by subst z; rw [hd1] at h; cases h
      exact ⟨⟨hz', hne⟩, by rw [upd_ne hne]; exact h⟩
    · have hne : a ≠ d := fun z => by subst z; rw [hd1] at h; cases h
      exact ⟨⟨hz', hne⟩, by rw [upd_ne hne]; exact h⟩
  have mm := m0.trans mo
  have m2 : Mo K H ρ (upd H1 d u) (wdFree ρ1 d) := by
    refine ⟨fun a xs h => wk.tup a xs (mm.tup a xs h), fun a xs h => wk.kl a xs (mm.kl a xs h), mm.ref, fun a h => ?_⟩
    have hne : a ≠ d := fun z => hz (z ▸ h)
    exact ⟨⟨(mm.z a h).1, hne⟩, by rw [upd_ne hne]; exact (mm.z a h).2⟩
  refine ⟨hd1, wk, m2, ⟨s1.nd, by rw [List.length_set]; exact s1.len, fun k a o' e' q => ?_, fun k a o' e' q hlv => ?_, fun a h => ?_, fun k a e' => ?_⟩⟩
  · by_cases hk : n = k
    · subst hk
      have ea : a = d := by rw [show (wdFree ρ1 d).r = ρ1.r from rfl, e1] at e'; exact (Option.some.inj e').symm
      subst ea
      rw [List.getElem?_set_self (lt_of_get' hx)] at q
      cases q
      cases hl with
      | t =>
        obtain ⟨xs, h1, h2⟩ := hr
        rw [hd] at h1; cases h1
        exact ⟨_, upd_same, RpP.mo h2 m2⟩
      | k =>
        obtain ⟨xs, h1, h2⟩ := hr
        rw [hd] at h1; cases h1
        exact ⟨_, upd_same, RpP.mo h2 m2⟩
    · rw [List.getElem?_set_ne hk] at q
      have hne : a ≠ d := fun z => hk (nd_at s1.nd e1 (z ▸ e'))
      exact (s1.obj k a o' e' q).wk wk (upd_ne hne) fun z => ⟨z, hne⟩
  · by_cases hne : a = d
    · exact fun z => z.2 hne
    · by_cases hk : n = k
      · subst hk
        exact absurd (Option.some.inj (e'.symm.trans e1)) hne
      · rw [List.getElem?_set_ne hk] at q
        exact fun z => s1.lv k a o' e' q hlv z.1
  · rw [upd_ne h.2]; exact s1.z a h.1
  · by_cases hne : a = d
    · subst hne; rw [upd_same]; exact fun z => nomatch z
    · rw [upd_ne hne]; exact s1.r k a e'
abbrev LA := Env → Store → Option Nat
def laV (i : Nat) : LA := fun m _ => match m[i]? with
  | some (some (.ref n)) => some n
  | _ => none
def laF (c f : Str) (a : LA) : LA := fun m S => match a m S with
  | some n => match (insOf c S (.ref n)).bind fun fs => fs.lookup f with
    | some (.ref k) => some k
    | _ => none
  | none => none
def lkOf : MO → Option MO
  | .dT kvs => some (.lkT kvs)
  | .dK kvs => some (.lkK kvs)
  | _ => none
open Classical in
noncomputable def unlkS (n : Nat) (l f : MO) : OutS → OutS
  | .nx m S => if S[n]? = some l then .nx m (S.set n f) else .no
  | .rt d S => if S[n]? = some l then .rt d (S.set n f) else .no
  | _ => .no
open Classical in
noncomputable def unlkE (n : Nat) (l f : MO) : Out R → Out R
  | .ok d S => if S[n]? = some l then .ok d (S.set n f) else .no
  | _ => .no
noncomputable def mLockS0 (la : LA) (g : MS) : MS := fun m S => match la m S with
  | some n => match S[n]? with
    | some f => match lkOf f with
      | some l => unlkS n l f (g m (S.set n l))
      | none => .no
    | none => .no
  | none => .no
noncomputable def mLockE0 (la : LA) (g : ME) : ME := fun m S => match la m S with
  | some n => match S[n]? with
    | some f => match lkOf f with
      | some l => unlkE n l f (g m (S.set n l))
      | none => .no
    | none => .no
  | none => .no
/-- is the cell locked by now -/
def isLk (S : Store) (n : Nat) : Bool := match S[n]? with
  | some (.lkT _) => true
  | some (.lkK _) => true
  | _ => false
noncomputable def mLockS (la : LA) (g : MS) : MS := fun m S => match la m S with
  | some n => if isLk S n = true then g m S else mLockS0 la g m S
  | none => .no
noncomputable def mLockE (la : LA) (g : ME) : ME := fun m S => match la m S with
  | some n => if isLk S n = true then g m S else mLockE0 la g m S
  | none => .no
theorem lkU_of {f l : MO} {d : Addr} (sr : SR K H ρ S) {n : Nat} (e : ρ.r[n]? = some d) (hx : S[n]? = some f) (h : lkOf f = some l) : ∃ u, LkU u f l ∧ H d = some u ∧ HoR K H ρ d f ∧ ¬ ρ.z d ∧ Mut (some u) := by
  have hr := sr.obj n d f e hx
  cases f with
  | dT kvs =>
    cases h
    obtain ⟨xs, h1, h2⟩ := id hr
    exact ⟨_, .t, h1, hr, sr.lv n d _ e hx trivial, trivial⟩
  | dK kvs =>
    cases h
    obtain ⟨xs, h1, h2⟩ := id hr
    exact ⟨_, .k, h1, hr, sr.lv n d _ e hx trivial, trivial⟩
  | _ => cases h
theorem SR.addr {n : Nat} {f : MO} (sr : SR K H ρ S) (hx : S[n]? = some f) : ∃ d, ρ.r[n]? = some d := by
  have := lt_of_get' hx
  exact ⟨ρ.r[n]'(by rw [sr.len]; exact this), List.getElem?_eq_getElem _⟩
section
variable {X : Cx} {E : St → XK} {e : Expr} {st : Stmt}
theorem psm_lock0 (la : LA) {g : MS} (h : PS X st (tS X.K E g)) : PS X st (tS X.K E (mLockS0 la g)) := by
  refine PS.imp (ps_lock h) ?_
  rintro D σ H ⟨ρ, m, S, sr, er, h⟩
  unfold mLockS0 at h
  split at h
  · rename_i n _
    split at h
    · rename_i f hx
      split at h
      · rename_i l hlk
        obtain ⟨d, ed⟩ := sr.addr hx
        obtain ⟨u, hl, hd, hr, hz, mu⟩ := lkU_of sr ed hx hlk
        refine ⟨d, u, hd, mu, fun o => ?_⟩
        obtain ⟨m0, s0⟩ := lock_in (o := o) (od := u) sr ed hx hl hd hr hz
        refine ⟨wdLock ρ d, m, S.set n l, s0, er.mo m0, ?_⟩
        generalize g m (S.set n l) = oo at h ⊢
        cases oo with
        | nx m2 S2 =>
          intro σ' H1 ρ1 mo s1 er1
          unfold unlkS at h
          simp only at h
          split at h
          · rename_i hx1
            obtain ⟨h1, wk, m2', s2⟩ := lock_out sr ed hl hd hr hz mo m0 s1 hx1
            exact ⟨h1, h σ' _ _ m2' s2 (er1.wk wk)⟩
          · exact h.elim
        | rt d2 S2 =>
          intro v H1 ρ1 mo s1 r1
          unfold unlkS at h
          simp only at h
          split at h
          · rename_i hx1
            obtain ⟨h1, wk, m2', s2⟩ := lock_out sr ed hl hd hr hz mo m0 s1 hx1
            exact ⟨h1, h v _ _ m2' s2 (r1.wk wk)⟩
          · exact h.elim
        | bk m2 S2 => exact h.elim
        | ct m2 S2 => exact h.elim
        | exc c m2 S2 => exact h.elim
        | no => exact h
      · exact h.elim
    · exact h.elim
  · exact h.elim
theorem pm_lock0 (la : LA) {g : ME} (h : PE X e (tE X.K E g)) : PE X e (tE X.K E (mLockE0 la g)) := by
  refine PE.imp (pe_lock h) ?_
  rintro σ H Q ⟨ρ, m, S, sr, er, h⟩
  unfold mLockE0 at h
  split at h
  · rename_i n _
    split at h
    · rename_i f hx
      split at h
      · rename_i l hlk
        obtain ⟨d, ed⟩ := sr.addr hx
        obtain ⟨u, hl, hd, hr, hz, mu⟩ := lkU_of sr ed hx hlk
        refine ⟨d, u, hd, mu, fun o => ?_⟩
        obtain ⟨m0, s0⟩ := lock_in (o := o) (od := u) sr ed hx hl hd hr hz
        refine ⟨wdLock ρ d, m, S.set n l, s0, er.mo m0, ?_⟩
        generalize g m (S.set n l) = oo at h ⊢
        cases oo with
        | ok d2 S2 =>
          intro v H1 ρ1 mo s1 r1
          unfold unlkE at h
          simp only at h
          split at h
          · rename_i hx1
            obtain ⟨h1, wk, m2', s2⟩ := lock_out sr ed hl hd hr hz mo m0 s1 hx1
            exact ⟨h1, h v _ _ m2' s2 (r1.wk wk)⟩
          · exact h.elim
        | exc c S2 => exact h.elim
        | no => exact h
      · exact h.elim
    · exact h.elim
  · exact h.elim
theorem psm_lock (la : LA) {g : MS} (h : PS X st (tS X.K E g)) : PS X st (tS X.K E (mLockS la g)) := by
  have h0 := psm_lock0 la h
  refine ⟨fun pins s σ H Q I q => ?_⟩
  obtain ⟨ρ, m, S, sr, er, q⟩ := q
  unfold mLockS at q
  split at q
  · split at q
    · exact h.run pins s σ H Q I ⟨ρ, m, S, sr, er, q⟩
    · exact h0.run pins s σ H Q I ⟨ρ, m, S, sr, er, q⟩
  · exact q.elim
theorem pm_lock (la : LA) {g : ME} (h : PE X e (tE X.K E g)) : PE X e (tE X.K E (mLockE la g)) := by
  have h0 := pm_lock0 la h
  refine ⟨fun pins s σ H Q I q => ?_⟩
  obtain ⟨ρ, m, S, sr, er, q⟩ := q
  unfold mLockE at q
  split at q
  · split at q
    · exact h.run pins s σ H Q I ⟨ρ, m, S, sr, er, q⟩
    · exact h0.run pins s σ H Q I ⟨ρ, m, S, sr, er, q⟩
  · exact q.elim
end
def keysT (kvs : List (List Key × R)) : List R := kvs.map fun kv => .v (.tup (kv.1.map dKey))
def vOf : R → Option D
  | .v d => some d
  | .ref _ => none
def itemsT (kvs : List (List Key × R)) : Option (List R) := kvs.mapM fun kv => (vOf kv.2).map fun d => R.v (.tup [.tup (kv.1.map dKey), d])
def keysK (kvs : List (Key × R)) : List R := kvs.map fun kv => .v (dKey kv.1)
def lkD (S : Store) : R → Option MO
  | .ref n => S[n]?
  | _ => none
def srcKeys (a : ME) : MI := fun m S => (a m S).bind fun d S1 => match lkD S1 d with
  | some (.lkT kvs) => .ok ⟨keysT kvs, []⟩ S1
  | some (.lkK kvs) => .ok ⟨keysK kvs, []⟩ S1
  | _ => .no
def srcItemsT (a : ME) : MI := fun m S => (a m S).bind fun d S1 => match lkD S1 d with
  | some (.lkT kvs) => match itemsT kvs with
    | some xs => .ok ⟨xs, []⟩ S1
    | none => .no
  | _ => .no
theorem SR.lk {v : V} {d : R} {o : MO} (sr : SR K H ρ S) (r : Rq K H ρ v d) (h : lkD S d = some o) : ∃ a, v = .ref a ∧ HoR K H ρ a o := by
  cases r with
  | v r => cases h
  | @ref a n ea => exact ⟨a, rfl, sr.obj n a _ ea h⟩
theorem mapM_get {α β : Type} (f : α → Option β) : ∀ {xs : List α} {ys : List β}, xs.mapM f = some ys → ys.length = xs.length ∧ ∀ (i : Nat) (x : α), xs[i]? = some x → ∃ y, ys[i]? = some y ∧ f x = some y
  | [], ys, h => by
    simp at h; subst h
    exact ⟨rfl, fun i x hx => by simp at hx⟩
  | x :: xs, ys, h => by
    rw [List.mapM_cons] at h
    obtain ⟨y, hy, h⟩ := Option.bind_eq_some_iff.mp h
    obtain ⟨zs, hz, h⟩ := Option.bind_eq_some_iff.mp h
    cases h
    obtain ⟨h1, h2⟩ := mapM_get f hz
    refine ⟨by simp [h1], fun i a hi => ?_⟩
    cases i with
    | zero => simp at hi; subst hi; exact ⟨y, rfl, hy⟩
    | succ i => simpa using h2 i a (by simpa using hi)
theorem RpP.get {κ : Type} {vs : List (κ × V)} {ds : List (κ × R)} (h : RpP K H ρ vs ds) : ∀ {i : Nat} {p : κ × V}, vs[i]? = some p → ∃ d, ds[i]? = some (p.1, d) ∧ Rq K H ρ p.2 d := by
  unfold RpP at h
  induction h with
  | nil => intro i p e; simp at e
  | @cons a b as bs h1 h2 ih =>
    intro i p e
    cases i with
    | zero =>
      simp at e
      subst e
      exact ⟨b.2, by simp [h1.1], h1.2⟩
    | succ i => simpa using ih (by simpa using e)
theorem okSrc_keysT {a : Addr} {o : Obj} {xs : List (List Key × V)} {kvs : List (List Key × R)} (hz : ρ.z a) (hd : H a = some (.frz o (.dT xs))) (rp : RpP K H ρ xs kvs) : okSrc K ⟨keysT kvs, []⟩ H ρ (Itkt a o xs) := by
  have hl : (keysT kvs).length = xs.length := by rw [keysT, List.length_map]; exact (Paired.length rp).symm
  refine ⟨_, _, by rw [show (⟨keysT kvs, []⟩ : Src).items.length = xs.length from hl]; exact walk_keysT, fun H2 ρ2 S2 mo _ _ => by rw [(mo.z a hz).2]; exact hd, ?_⟩
  rintro i H2 x H3 ρ2 S2 hi mo sr _ ⟨rfl, k, v, q, hk, rfl, hq⟩
  obtain ⟨d, h1, h2⟩ := rp.get hk
  refine ⟨.v (.tup (k.map dKey)), by show (keysT kvs)[i]? = _; rw [keysT, List.getElem?_map, h1]; rfl, .refl, sr, .v (.tup hq (kVs_dKey k))⟩
theorem okSrc_keysK {a : Addr} {o : Obj} {xs : List (Key × V)} {kvs : List (Key × R)} (hz : ρ.z a) (hd : H a = some (.frz o (.dK xs))) (rp : RpP K H ρ xs kvs) : okSrc K ⟨keysK kvs, []⟩ H ρ (Itk a o xs) := by
  have hl : (keysK kvs).length = xs.length := by rw [keysK, List.length_map]; exact (Paired.length rp).symm
  refine ⟨fun H => H a = some (.frz o (.dK xs)), fun i H x H' => H' = H ∧ ∃ k v, xs[i]? = some (k, v) ∧ x = kV k, by rw [show (⟨keysK kvs, []⟩ : Src).items.length = xs.length from hl]; exact ⟨fun _ _ hi q => ⟨q, hi⟩, fun _ q => ⟨q, Nat.le_refl _⟩, fun _ _ _ _ _ _ y => y⟩, fun H2 ρ2 S2 mo _ _ => by show H2 a = _; rw [(mo.z a hz).2]; exact hd, ?_⟩
  rintro i H2 x H3 ρ2 S2 hi mo sr _ ⟨rfl, k, v, hk, rfl⟩
  obtain ⟨d, h1, h2⟩ := rp.get hk
  refine ⟨.v (dKey k), by show (keysK kvs)[i]? = _; rw [keysK, List.getElem?_map, h1]; rfl, .refl, sr, .v (kV_dKey k)⟩
/-- the pairs of a dict with tuple keys, each a new tuple -/
def ItiT (d : Addr) (o : Obj) (kvs : List (List Key × V)) : It :=
  ⟨fun i H => H d = some (.frz o (.dT kvs)) ∧ i < kvs.length, fun i H x H' => ∃ T k v q, kvs[i]? = some (k, v) ∧ x = .ref T ∧ H q = some (.tup (k.map kV)) ∧ H T = none ∧ H' = upd H T (.tup [.ref q, v]), fun i H => H d = some (.frz o (.dT kvs)) ∧ kvs.length ≤ i⟩
theorem okSrc_itemsT {a : Addr} {o : Obj} {xs : List (List Key × V)} {kvs : List (List Key × R)} {ys : List R} (hi : itemsT kvs = some ys) (hz : ρ.z a) (hd : H a = some (.frz o (.dT xs))) (rp : RpP K H ρ xs kvs) : okSrc K ⟨ys, []⟩ H ρ (ItiT a o xs) := by
  obtain ⟨q1, q2⟩ := mapM_get _ hi
  have hl : ys.length = xs.length := by rw [q1]; exact (Paired.length rp).symm
  refine ⟨fun H => H a = some (.frz o (.dT xs)), fun i H x H' => ∃ T k v q, xs[i]? = some (k, v) ∧ x = .ref T ∧ H q = some (.tup (k.map kV)) ∧ H T = none ∧ H' = upd H T (.tup [.ref q, v]), by rw [show (⟨ys, []⟩ : Src).items.length = xs.length from hl]; exact ⟨fun _ _ hi q => ⟨q, hi⟩, fun _ q => ⟨q, Nat.le_refl _⟩, fun _ _ _ _ _ _ y => y⟩, fun H2 ρ2 S2 mo _ _ => by show H2 a = _; rw [(mo.z a hz).2]; exact hd, ?_⟩
  rintro i H2 x H3 ρ2 S2 hi mo sr _ ⟨T, k, v, q, hk, rfl, hq, hT, rfl⟩
  obtain ⟨d, h1, h2⟩ := rp.get hk
  obtain ⟨w, hw, ew⟩ := q2 i _ h1
  obtain ⟨d', hd', rfl⟩ := Option.map_eq_some_iff.mp ew
  cases d with
  | ref n => cases hd'
  | v d =>
    cases hd'
    have mv : Mo K H2 ρ2 (upd H2 T (.tup [.ref q, v])) ρ2 := .new sr hT
    have h2' := (h2.mo mo).mo mv
    cases h2' with
    | v h2' => exact ⟨_, hw, mv, sr.newT hT, .v (.tup upd_same (.cons (.tup (mv.tup _ _ hq) (kVs_dKey k)) (.cons h2' .nil)))⟩
section
variable {P : Program} {w : World} {K : PySem.W.Frag} {d : Addr} {o : Obj} {es : Array DictEntry} {ep : Nat}
theorem frzTV {X : Cx} {pins : List (Addr × Obj)} {σ : St} {H : Hp} {s : Shared} {d : Addr} {o : Obj} {kvs : List (List Key × V)} (I : Inv X pins σ H s) (h : H d = some (.frz o (.dT kvs))) :
    (d == sysModules) = false ∧ s.heap.get? d = some o ∧ o.ExactDict ∧ ∃ (es : Array DictEntry) (ep : Nat), o.data = .dict es ep ∧ es.size = kvs.length ∧
      ∀ (i : Nat) (k : List Key) (v : V), kvs[i]? = some (k, v) → ∃ (en : DictEntry) (q : Addr), es[i]? = some en ∧ en.key = .ref q ∧ H q = some (.tup (k.map kV)) ∧ RelV v en.val := by
  obtain ⟨hd, z, hs, xs, pr, o', es, ep, ho, hx, hdt, he, _⟩ := I.hok d _ h
  rw [hd] at ho
  cases ho
  refine ⟨hs, hd, hx, es, ep, hdt, ?_, fun i k v e => ?_⟩
  · have l1 : es.size = xs.length := size_of_entries he
    have l2 : kvs.length = xs.length := Paired.length pr
    omega
  · obtain ⟨b, hb, e1, e2, e3⟩ := paired_get pr e
    have q := entry_at he i
    rw [hb] at q
    exact ⟨_, b.2.1, q, rfl, e2, e3⟩
theorem turn_itemsT {kvs : List (List Key × V)} {elts : List Expr} {kk : Nat} {tpos : Pos} (it : Addr) (hod : o.data = .dict es ep) :
    Turn P w K (.Tuple elts kk tpos) (ItiT d o kvs) [it] it (fun i h => ∃ ok ov, IsItemIter h it d i kvs.length ep ok ov) where
  mem := by simp
  obj := fun i h st b hb => by
    have e : b = it := by simpa using hb
    subst e
    obtain ⟨ok, ov, e⟩ := st
    exact ⟨_, e, fun v z => nomatch z⟩
  keep := fun i h h' st k => let ⟨ok, ov, e⟩ := st; ⟨ok, ov, k it (by simp) _ e⟩
  item := by
    intro X hP hw hK hc i pins s σ H E I hf st hg
    subst hP hw hK
    obtain ⟨hd, hi⟩ := hg
    obtain ⟨hs, hgd, hx, es', ep', hdt, hsz, ent⟩ := frzTV I hd
    obtain ⟨rfl, rfl⟩ := dict_ep hod hdt
    obtain ⟨⟨k, v⟩, hkv⟩ : ∃ p, kvs[i]? = some p := ⟨kvs[i], List.getElem?_eq_getElem hi⟩
    obtain ⟨en, q, hen, hkey, hq, rv⟩ := ent i k v hkv
    obtain ⟨ok, ov, he⟩ := st
    rw [← hsz] at he
    have hlt : it < s.heap.objs.size := Heap.lt_size he
    have hi' : i < es'.size := by omega
    have hee : es'[i] = en := by
      have := Array.getElem?_eq_getElem hi'
      rw [this] at hen
      exact Option.some.inj hen
    refine DT.nextI he ⟨o, hgd, hx, hdt⟩ hi' fun h' ho hT hz hk => ?_
    rw [hee] at ho hT
    refine ⟨_, rfl, wpAny_letOwnedTupleGo_items (s := { s with heap := h' }) ho fun h'' he' sb => ?_⟩
    have hT2 : h''.get? s.heap.objs.size = some { cls := .type "tuple", data := .seq #[en.key, en.val] } := (sb.2 _ (Nat.ne_of_gt hlt)).trans hT
    have new : ObjOk X.prog X.w (upd H s.heap.objs.size (.tup [.ref q, v])) h'' s.heap.objs.size (.tup [.ref q, v]) :=
      ⟨by show 2 ≤ sizeLine; decide, [en.key, en.val], .cons hkey (.cons rv .nil), ⟨_, hT2, rfl, _, rfl⟩⟩
    have I1 : Inv X pins σ (upd H s.heap.objs.size (.tup [.ref q, v])) { s with heap := h'' } :=
      I.turnedNew (t' := s.toks) (ch := [it]) (fun b ob hb e => (sb.2 b (by simpa using hb)).trans (hk b ob (by simpa using hb) e)) hf (Nat.le_refl _) new
    refine ⟨.ref s.heap.objs.size, _, I1, rfl, ⟨_, k, v, q, hkv, rfl, hq, I.hok.fresh (Nat.le_refl _), rfl⟩, ⟨en.key, en.val, ?_⟩, fun b hb => ?_⟩
    · rw [← hsz]; exact he'
    · have e : b = it := by simpa using hb
      rw [e, upd_ne (Nat.ne_of_lt hlt)]
      exact (hf it (by simp)).1
  done := by
    intro X hP hw hK hc i pins s σ H E I hf st hg
    subst hP hw hK
    obtain ⟨hd, hi⟩ := hg
    obtain ⟨f0, f1, f2, f3, f4, f5⟩ := hf it (by simp)
    obtain ⟨hs, hgd, hx, es', ep', hdt, hsz, ent⟩ := frzTV I hd
    obtain ⟨rfl, rfl⟩ := dict_ep hod hdt
    obtain ⟨ok, ov, he⟩ := st
    rw [← hsz] at he
    exact DT.endI (I.ok.hd hc) he ⟨o, hgd, hx, hdt⟩ (by omega) fun h' eb => ⟨rfl, I.turned (t' := s.toks) (fun b ob hb e => eb b ob hb e) f0 f1 f3 f4 f5⟩
  self := fun A i s Q E st h => let ⟨_, _, e⟩ := st; PySem.W.kcp_self e h
end
def iItemsT (td : TE) : TI := fun σ H R => td σ H fun x H1 => ∃ d o kvs, x = .ref d ∧ H1 d = some (.frz o (.dT kvs)) ∧ R (ItiT d o kvs) H1
section
variable {X : Cx} {tg e : Expr} {td : TE} {apos cpos : Pos} {E : St → XK} {ma : ME}
theorem pi_itemsT {elts : List Expr} {kk : Nat} {tpos : Pos} (he : PE X e td) (hbase : attributeBase e "items" X.env (eval e X.env) = eval e X.env := by rfl) (hline : (apos.endLine == cpos.line) = true := by rfl) :
    PI X (.Tuple elts kk tpos) (.Call (.Attribute e "items" apos) [] [] cpos) (iItemsT td) := by
  refine ⟨fun pins s σ H R I h => ?_⟩
  refine wpAny_Call_method (T := "dict") (id := "dict.items") hbase rfl hline PySem.F.plainAttrs_dict PySem.F.slot_dict_items PySem.F.type_dict_items (thn (he.run pins s σ H _ I h) fun u s1 ⟨x, H1, I1, rx, d, o, kvs, ex, hd, q⟩ => ?_)
  subst ex
  obtain rfl : u = Value.ref d := rx
  obtain ⟨hs, hgd, hx, es, ep, hdt, hsz, ent⟩ := frzTV I1 hd
  have rw_ : DT.Raw s1.heap d es ep := ⟨o, hgd, hx, hdt⟩
  refine ⟨rw_.typeIs, fun b q => by cases q; exact ⟨o, hgd, hx.2.1⟩, ?_⟩
  have I2 : Inv X pins σ H1 { s1 with heap := s1.heap.push { cls := .type "dict_items", data := .fields #[.ref d] } } := I1.kept (t' := s1.toks) fun b ob q => Heap.get?_push_of_some _ q
  have fin : wpAny (model X.prog X.w) X.A (pyIter (.ref s1.heap.objs.size)) (PIE X pins σ (.Tuple elts kk tpos) R) X.xe { s1 with heap := s1.heap.push { cls := .type "dict_items", data := .fields #[.ref d] } } := by
    refine DT.iterI (d := d) ⟨_, Heap.get?_push_size _ rfl, rfl, rfl⟩ (rw_.push _) (pi_one (tk := s1.toks) I2 _ (turn_itemsT _ hdt) ⟨.none, .none, ?_⟩ q)
    rw [← hsz]
    exact Heap.get?_push_size _ rfl
  show wpAny _ _ (callWith cpos (.builtin "dict.items") [.ref d] [] []) _ X.xe s1
  exact method_meetsIn PySem.F.slot_dict_items PySem.F.entry_dict_items rfl (PySem.evalArgs_none ⟨rfl, rw_.typeIs, PySem.F.args_dict_items_1 _, _, DT.meetsItems (es := es) (ep := ep) hs, ⟨rw_, fin⟩⟩)
theorem tI_of1 {g : R → Store → Out Src} {σ : St} {H : Hp} {R : It → Hp → Prop} (h : tI X.K E (fun m S => (ma m S).bind fun d S1 => g d S1) σ H R) {P : V → Hp → Prop}
    (k : ∀ d S1 v H1 ρ1, SR X.K H1 ρ1 S1 → Rq X.K H1 ρ1 v d → (match g d S1 with
      | .ok it S' => ∀ J H' ρ', Mo X.K H1 ρ1 H' ρ' → SR X.K H' ρ' S' → okSrc X.K it H' ρ' J → R J H'
      | .exc c S' => RO X.K (fun _ _ (_ : Unit) (_ : Unit) => True) (E σ) H1 ρ1 (.exc c S' : Out Unit) fun _ _ => True
      | .no => False) → P v H1) : tE X.K E ma σ H P := by
  obtain ⟨ρ, m, S, sr, er, h⟩ := h
  refine ⟨ρ, m, S, sr, er, ?_⟩
  simp only at h
  generalize ma m S = oo at h ⊢
  cases oo with
  | ok d S1 =>
    intro v H1 ρ1 m1 s1 r1
    refine k d S1 v H1 ρ1 s1 r1 ?_
    rw [Out.bind_ok] at h
    generalize g d S1 = o2 at h ⊢
    cases o2 with
    | ok it S' => exact fun J H' ρ' mo s q => h J H' ρ' (m1.trans mo) s q
    | exc c S' => exact RO.mono h m1
    | no => exact h
  | exc c S1 => exact h
  | no => exact h
theorem pim_keys (he : PE X e (tE X.K E ma)) : PI X tg e (tI X.K E (srcKeys ma)) := by
  refine PI.imp (pi_keys he) ?_
  intro σ H R h
  refine tI_of1 (g := fun d S1 => match lkD S1 d with
    | some (.lkT kvs) => .ok ⟨keysT kvs, []⟩ S1
    | some (.lkK kvs) => .ok ⟨keysK kvs, []⟩ S1
    | _ => .no) h fun d S1 v H1 ρ1 s1 r1 h1 => ?_
  split at h1
  · rename_i it S' ho
    split at ho
    · rename_i kvs hk
      cases ho
      obtain ⟨a, rfl, hz, od, xs, hd, rp⟩ := s1.lk r1 hk
      exact ⟨a, od, rfl, .inr ⟨xs, hd, h1 _ _ _ .refl s1 (okSrc_keysT hz hd rp)⟩⟩
    · rename_i kvs hk
      cases ho
      obtain ⟨a, rfl, hz, od, xs, hd, rp⟩ := s1.lk r1 hk
      exact ⟨a, od, rfl, .inl ⟨xs, hd, h1 _ _ _ .refl s1 (okSrc_keysK hz hd rp)⟩⟩
    · cases ho
  · rename_i c S' ho
    split at ho <;> cases ho
  · exact h1.elim
theorem pim_itemsT {elts : List Expr} {kk : Nat} {tpos : Pos} (he : PE X e (tE X.K E ma)) (hbase : attributeBase e "items" X.env (eval e X.env) = eval e X.env := by rfl) (hline : (apos.endLine == cpos.line) = true := by rfl) : PI X (.Tuple elts kk tpos) (.Call (.Attribute e "items" apos) [] [] cpos) (tI X.K E (srcItemsT ma)) := by
  refine PI.imp (pi_itemsT he hbase hline) ?_
  intro σ H R h
  refine tI_of1 (g := fun d S1 => match lkD S1 d with
    | some (.lkT kvs) => match itemsT kvs with
      | some xs => .ok ⟨xs, []⟩ S1
      | none => .no
    | _ => .no) h fun d S1 v H1 ρ1 s1 r1 h1 => ?_
  split at h1
  · rename_i it S' ho
    split at ho
    · rename_i kvs hk
      split at ho
      · rename_i ys hy
        cases ho
        obtain ⟨a, rfl, hz, od, xs, hd, rp⟩ := s1.lk r1 hk
        exact ⟨a, od, xs, rfl, hd, h1 _ _ _ .refl s1 (okSrc_itemsT hy hz hd rp)⟩
      · cases ho
    · cases ho
  · rename_i c S' ho
    split at ho
    · split at ho <;> cases ho
    · cases ho
  · exact h1.elim
end
end M
namespace M
open PySem PySem.Spec L2
open PyProof.Rows hiding St
end M
namespace M
open PySem hiding Env
open L2
def wE {α : Type} (o : Out α) (K : Out α → Prop) : Prop := K o
def wS (o : OutS) (K : OutS → Prop) : Prop := K o
def wTg (o : Option Env) (P : Env → Prop) : Prop := match o with
  | some m => P m
  | none => False
def kB {α β : Type} (f : α → Store → Out β) (K : Out β → Prop) : Out α → Prop := fun o => K (o.bind f)
def kT {α : Type} (m : Env) (f : α → Store → OutS) (K : OutS → Prop) : Out α → Prop := fun o => K (o.thenS m f)
def kSeq (g : MS) (K : OutS → Prop) : OutS → Prop := fun o => K (match o with | .nx m S => g m S | o => o)
def kDef (K : Out R → Prop) : OutS → Prop := fun o => K (match o with | .rt d S' => .ok d S' | .nx _ S' => .ok .non S' | _ => .no)
def kTrim (S : Store) (K : OutS → Prop) : OutS → Prop := fun o => K (match o with | .nx m2 S2 => trim S m2 S2 .nx | .ct m2 S2 => trim S m2 S2 .ct | o => o)
section
variable {α β : Type} {m m' : Env} {S S' : Store}
theorem wE_ok (a : α) (K : Out α → Prop) : wE (.ok a S) K = K (.ok a S) := id rfl
theorem wE_bind (o : Out α) (f : α → Store → Out β) (K : Out β → Prop) : wE (o.bind f) K = wE o (kB f K) := id rfl
theorem kB_ok (f : α → Store → Out β) (K : Out β → Prop) (a : α) : kB f K (.ok a S) = wE (f a S) K := id rfl
theorem kB_exc (f : α → Store → Out β) (K : Out β → Prop) (c : Exc) : kB f K (.exc c S) = K (.exc c S) := id rfl
theorem wS_then (o : Out α) (f : α → Store → OutS) (K : OutS → Prop) : wS (o.thenS m f) K = wE o (kT m f K) := id rfl
theorem kT_ok (f : α → Store → OutS) (K : OutS → Prop) (a : α) : kT m f K (.ok a S) = wS (f a S) K := id rfl
theorem kT_exc (f : α → Store → OutS) (K : OutS → Prop) (c : Exc) : kT m f K (.exc c S) = K (.exc c m S) := id rfl
theorem wS_nx (K : OutS → Prop) : wS (.nx m S) K = K (.nx m S) := id rfl
theorem wS_ct (K : OutS → Prop) : wS (.ct m S) K = K (.ct m S) := id rfl
theorem wS_bk (K : OutS → Prop) : wS (.bk m S) K = K (.bk m S) := id rfl
theorem wS_rt (d : R) (K : OutS → Prop) : wS (.rt d S) K = K (.rt d S) := id rfl
theorem wS_exc (c : Exc) (K : OutS → Prop) : wS (.exc c m S) K = K (.exc c m S) := id rfl
theorem wS_seq (f g : MS) (K : OutS → Prop) : wS (mSeq f g m S) K = wS (f m S) (kSeq g K) := id rfl
theorem kSeq_nx (g : MS) (K : OutS → Prop) : kSeq g K (.nx m S) = wS (g m S) K := id rfl
theorem kSeq_ct (g : MS) (K : OutS → Prop) : kSeq g K (.ct m S) = K (.ct m S) := id rfl
theorem kSeq_bk (g : MS) (K : OutS → Prop) : kSeq g K (.bk m S) = K (.bk m S) := id rfl
theorem kSeq_rt (g : MS) (K : OutS → Prop) (d : R) : kSeq g K (.rt d S) = K (.rt d S) := id rfl
theorem kSeq_exc (g : MS) (K : OutS → Prop) (c : Exc) : kSeq g K (.exc c m S) = K (.exc c m S) := id rfl
theorem wE_def (N : Nat) (f : MS) (ds : List R) (K : Out R → Prop) : wE (mDef N f ds S) K = wS (f (ds.map some ++ List.replicate (N - ds.length) none) S) (kDef K) := id rfl
theorem wE_defV (N : Nat) (f : MS) (ds : List R) (K : Out R → Prop) : wE (mDefV N f ds S) K = wS (f (ds.map some ++ List.replicate (N - ds.length) none) S) (kDef (kB (popV S) K)) := id rfl
theorem kDef_rt (K : Out R → Prop) (d : R) : kDef K (.rt d S) = K (.ok d S) := id rfl
theorem kDef_nx (K : Out R → Prop) : kDef K (.nx m S) = K (.ok (.v .non) S) := id rfl
theorem wS_trim (f : MS) (K : OutS → Prop) : wS (mTrim f m S) K = wS (f m S) (kTrim S K) := id rfl
theorem kTrim_nx (K : OutS → Prop) : kTrim S K (.nx m S') = wS (trim S m S' .nx) K := id rfl
theorem kTrim_ct (K : OutS → Prop) : kTrim S K (.ct m S') = wS (trim S m S' .ct) K := id rfl
theorem kTrim_bk (K : OutS → Prop) : kTrim S K (.bk m S') = K (.bk m S') := id rfl
theorem kTrim_rt (K : OutS → Prop) (d : R) : kTrim S K (.rt d S') = K (.rt d S') := id rfl
theorem wTg_some (P : Env → Prop) : wTg (some m) P = P m := id rfl
theorem wE_eq {o o' : Out α} {K : Out α → Prop} (h : o = o') (k : K o') : wE o K := h ▸ k
theorem eq_wE {o o' : Out α} (h : wE o fun x => x = o') : o = o' := h
/-- ends by value, and Q -/
def Ends (Q : D → Store → Prop) : Out R → Prop
  | .ok (.v d) S => Q d S
  | _ => False
end
def setAll : Env → List Nat → List (Option R) → Env
  | m, i :: vs, x :: xs => setAll (m.set i x) vs xs
  | m, _, _ => m
def getAll (m : Env) (vs : List Nat) : List (Option R) := vs.map fun i => (m[i]?).getD none
theorem setAll_nil (m : Env) (xs : List (Option R)) : setAll m [] xs = m := by cases xs <;> rfl
theorem setAll_cons (m : Env) (i : Nat) (vs : List Nat) (x : Option R) (xs : List (Option R)) : setAll m (i :: vs) (x :: xs) = setAll (m.set i x) vs xs := id rfl
theorem getAll_nil (m : Env) : getAll m [] = [] := id rfl
theorem getAll_cons (m : Env) (i : Nat) (vs : List Nat) : getAll m (i :: vs) = (m[i]?).getD none :: getAll m vs := id rfl
/-- behind a turn: the frame but for vs as ahead, J of these -/
def kTurn (m : Env) (vs : List Nat) (J : List (Option R) → Store → Prop) (K : OutS → Prop) : OutS → Prop
  | .nx m2 S2 => setAll m vs (getAll m2 vs) = m2 ∧ J (getAll m2 vs) S2
  | .ct m2 S2 => setAll m vs (getAll m2 vs) = m2 ∧ J (getAll m2 vs) S2
  | .bk m2 S2 => K (.nx m2 S2)
  | .rt d S2 => K (.rt d S2)
  | .exc c m2 S2 => K (.exc c m2 S2)
  | .no => False
section
variable {m : Env} {vs : List Nat} {J : List (Option R) → Store → Prop} {K : OutS → Prop} {m2 : Env} {S2 S : Store}
theorem kTurn_nx : kTurn m vs J K (.nx m2 S2) = (setAll m vs (getAll m2 vs) = m2 ∧ J (getAll m2 vs) S2) := id rfl
theorem kTurn_ct : kTurn m vs J K (.ct m2 S2) = (setAll m vs (getAll m2 vs) = m2 ∧ J (getAll m2 vs) S2) := id rfl
theorem kTurn_bk : kTurn m vs J K (.bk m2 S2) = K (.nx m2 S2) := id rfl
theorem kTurn_rt (d : R) : kTurn m vs J K (.rt d S2) = K (.rt d S2) := id rfl
theorem kTurn_exc (c : Exc) : kTurn m vs J K (.exc c m2 S2) = K (.exc c m2 S2) := id rfl
/-- a for: I of the turn, the changed names, the store -/
theorem forP_wp {pins : List (Nat × MO)} {t : TgM} {body : MS} {ds : List R} (vs : List Nat) (I : Nat → List (Option R) → Store → Prop) (h0 : setAll m vs (getAll m vs) = m) (h : I 0 (getAll m vs) S)
    (hp : ∀ i ws S, I i ws S → pinsOk pins S)
    (hs : ∀ i d ws S, ds[i]? = some d → I i ws S → wTg (t d (setAll m vs ws)) fun m1 => wS (body m1 S) (kTurn m vs (I (i + 1)) K))
    (he : ∀ ws S, I ds.length ws S → K (.nx (setAll m vs ws) S)) : wS (mForGo pins t body ds m S) K := by
  have key : ∀ (ds : List R) (j : Nat) (ws : List (Option R)) (S : Store), I j ws S →
      (∀ i d ws S, ds[i]? = some d → I (j + i) ws S → wTg (t d (setAll m vs ws)) fun m1 => wS (body m1 S) (kTurn m vs (I (j + i + 1)) K)) →
      (∀ ws S, I (j + ds.length) ws S → K (.nx (setAll m vs ws) S)) → K (mForGo pins t body ds (setAll m vs ws) S) := by
    intro ds
    induction ds with
    | nil =>
      intro j ws S h _ he
      unfold mForGo
      rw [if_pos (hp j ws S h)]
      exact he ws S h
    | cons d ds ih =>
      intro j ws S h hs he
      have h1 := hs 0 d ws S rfl h
      unfold mForGo
      rw [if_pos (hp j ws S h)]
      cases et : t d (setAll m vs ws) with
      | none => rw [et] at h1; exact h1.elim
      | some m1 =>
        rw [et] at h1
        have h1 : kTurn m vs (I (j + 1)) K (body m1 S) := h1
        simp only
        have next : ∀ ws2 S2, I (j + 1) ws2 S2 → K (mForGo pins t body ds (setAll m vs ws2) S2) := fun ws2 S2 h2 => by
          refine ih (j + 1) ws2 S2 h2 (fun i d ws S hi hI => ?_) fun ws S h3 => ?_
          · have := hs (i + 1) d ws S hi (by rw [show j + (i + 1) = j + 1 + i by omega]; exact hI)
            rwa [show j + (i + 1) = j + 1 + i by omega] at this
          · exact he ws S (by rw [List.length_cons, show j + (ds.length + 1) = j + 1 + ds.length by omega]; exact h3)
        cases eb : body m1 S with
        | nx m2 S2 => rw [eb] at h1; have := next _ S2 h1.2; rw [h1.1] at this; exact this
        | ct m2 S2 => rw [eb] at h1; have := next _ S2 h1.2; rw [h1.1] at this; exact this
        | bk m2 S2 => rw [eb] at h1; exact h1
        | rt d S2 => rw [eb] at h1; exact h1
        | exc c m2 S2 => rw [eb] at h1; exact h1
        | no => rw [eb] at h1; exact h1.elim
  have := key ds 0 _ S h (fun i d ws S hi hI => by
    have := hs i d ws S hi (by simpa using hI)
    simpa using this) fun ws S h3 => he ws S (by simpa using h3)
  rw [h0] at this
  exact this
theorem for_wp {t : TgM} {body : MS} {ds : List R} (vs : List Nat) (I : Nat → List (Option R) → Store → Prop) (h0 : setAll m vs (getAll m vs) = m) (h : I 0 (getAll m vs) S)
    (hs : ∀ i d ws S, ds[i]? = some d → I i ws S → wTg (t d (setAll m vs ws)) fun m1 => wS (body m1 S) (kTurn m vs (I (i + 1)) K))
    (he : ∀ ws S, I ds.length ws S → K (.nx (setAll m vs ws) S)) : wS (mForGo [] t body ds m S) K :=
  forP_wp vs I h0 h (fun _ _ _ _ => trivial) hs he
/-- a while: I of a number that falls; behind a false test P of names and store -/
theorem while_wp {t : MT} {body : MS} (vs : List Nat) (n : Nat) (I : Nat → List (Option R) → Store → Prop) (hn : n < 1000000) (h0 : setAll m vs (getAll m vs) = m) (h : I n (getAll m vs) S)
    (hs : ∀ j ws S, I j ws S → wE (t (setAll m vs ws) S) fun o => ∃ S1 b, o = .ok b S1 ∧ match b with
      | false => K (.nx (setAll m vs ws) S1)
      | true => wS (body (setAll m vs ws) S1) (kTurn m vs (fun ws2 S2 => ∃ j', j' < j ∧ I j' ws2 S2) K)) : wS (mWhile t body m S) K := by
  have key : ∀ (k j : Nat) (ws : List (Option R)) (S : Store), j < k → I j ws S → K (mWhileGo t body k (setAll m vs ws) S) := by
    intro k
    induction k with
    | zero => intro j _ _ h; omega
    | succ k ih =>
      intro j ws S hj hI
      obtain ⟨S1, b, e1, h1⟩ := hs j ws S hI
      unfold mWhileGo
      rw [e1, thenS_ok]
      cases b with
      | false => exact h1
      | true =>
        have h1 : kTurn m vs (fun ws2 S2 => ∃ j', j' < j ∧ I j' ws2 S2) K (body (setAll m vs ws) S1) := h1
        simp only
        cases eb : body (setAll m vs ws) S1 with
        | nx m2 S2 => rw [eb] at h1; obtain ⟨q, j', hl, h2⟩ := h1; have := ih j' _ S2 (by omega) h2; rw [q] at this; exact this
        | ct m2 S2 => rw [eb] at h1; obtain ⟨q, j', hl, h2⟩ := h1; have := ih j' _ S2 (by omega) h2; rw [q] at this; exact this
        | bk m2 S2 => rw [eb] at h1; exact h1
        | rt d S2 => rw [eb] at h1; exact h1
        | exc c m2 S2 => rw [eb] at h1; exact h1
        | no => rw [eb] at h1; exact h1.elim
  have := key turns n _ S (by unfold turns; omega) h
  rw [h0] at this
  exact this
end
section
variable {pins : List (Nat × MO)} {t : TgM} {c : MT} {f : ME} {m : Env} {S S0 : Store} {K : Out R → Prop} {ds : List R}
/-- by value, the turns leave the store: p a test, g the elements -/
theorem lcP_wp {α : Type} (xs : List α) (r : α → R) (p : α → Bool) (g : α → D) (hd : ds = xs.map r) (hp : ∀ acc, pinsOk pins (S ++ [.lst acc])) (hu : Upd S0 S) (hz : xs.length ≤ sizeLine)
    (hs : ∀ x ∈ xs, ∀ acc, wTg (t (r x) m) fun m1 => c m1 (S ++ [.lst acc]) = .ok (p x) (S ++ [.lst acc]) ∧ (p x = true → wE (f m1 (S ++ [.lst acc])) fun o => o = .ok (.v (g x)) (S ++ [.lst acc])))
    (k : K (.ok (.v (.lst ((xs.filter p).map g))) S)) : wE (mLcGo pins t c f S.length m ds (S ++ [.lst []])) (kB (fun r S' => popV S0 r S') K) := by
  subst hd
  have key : ∀ (xs ys : List α), ys.length + xs.length ≤ sizeLine → (∀ x ∈ xs, ∀ acc, wTg (t (r x) m) fun m1 => c m1 (S ++ [.lst acc]) = .ok (p x) (S ++ [.lst acc]) ∧ (p x = true → wE (f m1 (S ++ [.lst acc])) fun o => o = .ok (.v (g x)) (S ++ [.lst acc]))) →
      mLcGo pins t c f S.length m (xs.map r) (S ++ [.lst ((ys.map g).map .v)]) = .ok (.ref S.length) (S ++ [.lst (((ys ++ xs.filter p).map g).map .v)]) := by
    intro xs
    induction xs with
    | nil => intro ys _ _; rw [List.map_nil]; unfold mLcGo; rw [if_pos (hp _)]; simp
    | cons x xs ih =>
      intro ys hl hs
      have h1 := hs x (by simp) ((ys.map g).map .v)
      cases et : t (r x) m with
      | none => rw [et] at h1; exact h1.elim
      | some m1 =>
        rw [et] at h1
        obtain ⟨e2, e3⟩ := h1
        rw [List.map_cons]
        unfold mLcGo
        rw [if_pos (hp _), et]
        simp only [e2, Out.calm_ok, Out.bind_ok]
        rw [List.length_cons] at hl
        cases hpx : p x with
        | false =>
          simp only
          rw [ih ys (by omega) fun x hx => hs x (by simp [hx]), List.filter_cons_of_neg (by simp [hpx])]
        | true =>
          have e3 : f m1 (S ++ [MO.lst ((ys.map g).map R.v)]) = _ := e3 hpx
          simp only [e3, Out.calm_ok, Out.bind_ok, get_len]
          rw [if_pos (by rw [List.length_map, List.length_map]; omega), set_len, List.filter_cons_of_pos hpx]
          have := ih (ys ++ [x]) (by rw [List.length_append]; simp; omega) fun x hx => hs x (by simp [hx])
          simp only [List.map_append, List.map_cons, List.map_nil, List.append_assoc, List.cons_append, List.nil_append] at this ⊢
          exact this
  have := key xs [] (by simpa using hz) hs
  simp only [List.map_nil, List.nil_append] at this
  unfold wE kB
  rw [this, Out.bind_ok, popV_newU _ hu]
  exact k
theorem lc_wp {α : Type} (xs : List α) (r : α → R) (p : α → Bool) (g : α → D) (hd : ds = xs.map r) (hu : Upd S0 S) (hz : xs.length ≤ sizeLine)
    (hs : ∀ x ∈ xs, ∀ acc, wTg (t (r x) m) fun m1 => c m1 (S ++ [.lst acc]) = .ok (p x) (S ++ [.lst acc]) ∧ (p x = true → wE (f m1 (S ++ [.lst acc])) fun o => o = .ok (.v (g x)) (S ++ [.lst acc])))
    (k : K (.ok (.v (.lst ((xs.filter p).map g))) S)) : wE (mLcGo [] t c f S.length m ds (S ++ [.lst []])) (kB (fun r S' => popV S0 r S') K) :=
  lcP_wp xs r p g hd (fun _ => trivial) hu hz hs k
/-- .. without a test -/
theorem lcT_wp {α : Type} (xs : List α) (r : α → R) (g : α → D) (hd : ds = xs.map r) (hu : Upd S0 S) (hz : xs.length ≤ sizeLine)
    (hs : ∀ x ∈ xs, ∀ acc, wTg (t (r x) m) fun m1 => wE (f m1 (S ++ [.lst acc])) fun o => o = .ok (.v (g x)) (S ++ [.lst acc]))
    (k : K (.ok (.v (.lst (xs.map g))) S)) : wE (mLcGo [] t mtYes f S.length m ds (S ++ [.lst []])) (kB (fun r S' => popV S0 r S') K) :=
  lc_wp xs r (fun _ => true) g hd hu hz (fun x hx acc => by
    have := hs x hx acc
    cases e : t (r x) m with
    | none => rw [e] at this; exact this.elim
    | some m1 => rw [e] at this; exact ⟨rfl, fun _ => this⟩) (by rw [List.filter_eq_self.mpr fun _ _ => rfl]; exact k)
/-- the turns change the store below the new list: P of the turn, the list so far, the store -/
theorem lcS_wp {α : Type} (xs : List α) (r : α → R) (P : Nat → List D → Store → Prop) (hd : ds = xs.map r) (hz : xs.length ≤ sizeLine) (h0 : P 0 [] S) (hu : ∀ i ys T, P i ys T → Upd S0 T)
    (hs : ∀ i x ys T, xs[i]? = some x → P i ys T → wTg (t (r x) m) fun m1 => wE (f m1 (T ++ [.lst (ys.map .v)])) fun o => ∃ y T', o = .ok (.v y) (T' ++ [.lst (ys.map .v)]) ∧ P (i + 1) (ys ++ [y]) T')
    (k : ∀ ys T, P xs.length ys T → ys.length = xs.length → K (.ok (.v (.lst ys)) T)) : wE (mLcGo [] t mtYes f S.length m ds (S ++ [.lst []])) (kB (fun r S' => popV S0 r S') K) := by
  subst hd
  obtain ⟨ys, T, e, h1, h2⟩ := lc_st (t := t) (f := f) (m := m) (S0 := S0) (S := S) r xs P hz h0 hu fun i x ys T hx hp => by
    have := hs i x ys T hx hp
    cases et : t (r x) m with
    | none => rw [et] at this; exact this.elim
    | some m1 =>
      rw [et] at this
      obtain ⟨y, T', e, p⟩ := this
      exact ⟨m1, rfl, y, T', e, p⟩
  unfold wE kB
  rw [e]
  exact k ys T h1 h2
end
section
variable {S T : Store} {n w : Nat} {a b c o x : MO} {cs : Store}
theorem get_app' (h : S[n]? = some o) (cs : Store) : (S ++ cs)[n]? = some o := get_old h cs
theorem get_set' (h : S[n]? = some o) (x : MO) : (S.set n x)[n]? = some x := get_set h x
theorem get_setlt (h : n < S.length) (x : MO) : (S.set n x)[n]? = some x := by rw [List.getElem?_set_self h]
theorem get_ne' (hn : n ≠ w) (h : S[w]? = some o) (x : MO) : (S.set n x)[w]? = some o := by rw [get_ne hn]; exact h
theorem set_applt (h : n < S.length) (cs : Store) (x : MO) : (S ++ cs).set n x = S.set n x ++ cs := List.set_append_left _ _ h
theorem get_L0 {k : Nat} (hl : S.length = k) (c : MO) (cs : Store) : (S ++ c :: cs)[k]? = some c := by subst hl; simp
theorem set_L0 {k : Nat} (hl : S.length = k) (c x : MO) (cs : Store) : (S ++ c :: cs).set k x = S ++ x :: cs := by subst hl; simp
theorem get_L1 {k : Nat} (hl : S.length = k) (b c : MO) (cs : Store) : (S ++ b :: c :: cs)[k + 1]? = some c := by subst hl; simp
theorem set_L1 {k : Nat} (hl : S.length = k) (b c x : MO) (cs : Store) : (S ++ b :: c :: cs).set (k + 1) x = S ++ b :: x :: cs := by subst hl; simp
theorem get_L2 {k : Nat} (hl : S.length = k) (a b c : MO) (cs : Store) : (S ++ a :: b :: c :: cs)[k + 2]? = some c := by subst hl; simp
theorem set_L2 {k : Nat} (hl : S.length = k) (a b c x : MO) (cs : Store) : (S ++ a :: b :: c :: cs).set (k + 2) x = S ++ a :: b :: x :: cs := by subst hl; simp
theorem cut_appU {S T : Store} (h : Upd S T) (t : Store) : cut S (T ++ t) = T := cut_app t h
theorem cut_U {S T : Store} (h : Upd S T) : cut S T = T := cut_upd h
end
section
variable {S S' : Store} {m : Env} {n : Nat} {c f : Str} {fs : List (Str × R)}
theorem insOf_get (h : S[n]? = some (.ins c fs)) : insOf c S (.ref n) = some fs := by unfold insOf; simp [h]
def fldR (c f : Str) (d : R) (S : Store) : Out R := match (insOf c S d).bind fun fs => fs.lookup f with
  | some r => .ok r S
  | none => .no
theorem mFld_run (c f : Str) (a : ME) : mFld c f a m S = (a m S).bind fun d S1 => fldR c f d S1 := id rfl
theorem fldR_get {r : R} (h : S[n]? = some (.ins c fs)) (hf : fs.lookup f = some r) : fldR c f (.ref n) S = .ok r S := by unfold fldR; rw [insOf_get h]; simp [hf]
def setFldR (c f : Str) (m : Env) (x d : R) (S : Store) : OutS := match x, insOf c S x with
  | .ref n, some fs => if fs.length < 1000 then .nx m (S.set n (.ins c (putR' f d fs))) else .no
  | _, _ => .no
theorem mSetFld_run (c f : Str) (o v : ME) : mSetFld c f o v m S = (v m S).thenS m fun d S1 => (o m S1).thenS m fun x S2 => setFldR c f m x d S2 := id rfl
theorem setFldR_get {d : R} (h : S[n]? = some (.ins c fs)) (hl : fs.length < 1000) : setFldR c f m (.ref n) d S = .nx m (S.set n (.ins c (putR' f d fs))) := by unfold setFldR; rw [insOf_get h]; simp [hl]
theorem mAugFld_run (c f : Str) (o : ME) (g : R → R → Store → Out R) (v : ME) : mAugFld c f o g v m S = (o m S).thenS m fun x S1 => (fldR c f x S1).thenS m fun old S1' => (v m S1').thenS m fun d S2 => (g old d S2).thenS m fun z S3 => setFldR c f m x z S3 := by
  unfold mAugFld fldR setFldR
  cases o m S with
  | ok x S1 =>
    simp only [thenS_ok]
    cases h : (insOf c S1 x).bind fun fs => List.lookup f fs with
    | none => rfl
    | some old => rfl
  | exc e S1 => rfl
  | no => rfl
def methR (c m' : Str) (x : R) (S : Store) (k : Out R) : Out R := match insOf c S x with
  | some fs => match fs.lookup m' with
    | none => k
    | some _ => .no
  | none => .no
theorem mMethC_run (c m' : Str) (g : List R → Store → Out R) (o : ME) (r : MA) : mMethC c m' g o r m S = (o m S).bind fun x S1 => methR c m' x S1 ((r m S1).bind fun ds S2 => g (x :: ds) S2) := id rfl
theorem methR_get {m' : Str} {k : Out R} (h : S[n]? = some (.ins c fs)) (hf : fs.lookup m' = none) : methR c m' (.ref n) S k = k := by unfold methR; rw [insOf_get h]; simp [hf]
def nonR (n : Nat) : R → Store → Out R := fun z S2 => match z with
  | .v .non => .ok (.ref n) S2
  | _ => .no
theorem mMake_run (c : Str) (g : List R → Store → Out R) (r : MA) : mMake c g r m S = (r m S).bind fun ds S1 => (g (.ref S1.length :: ds) (S1 ++ [.ins c []])).bind (nonR S1.length) := id rfl
theorem nonR_non : nonR n (.v .non) S = .ok (.ref n) S := id rfl
theorem mDctT0_eq : mDctT0 m S = .ok (.ref S.length) (S ++ [.dT []]) := id rfl
def setTR (m : Env) (x y d : R) (S : Store) : OutS := match x, keyT y with
  | .ref n, some k => match S[n]? with
    | some (.dT kvs) => if kvs.length < sizeLine then .nx m (S.set n (.dT (putT kvs k d))) else .no
    | _ => .no
  | _, _ => .no
theorem mSetT_run (f o i : ME) : mSetT f o i m S = (f m S).thenS m fun d S1 => (o m S1).thenS m fun x S2 => (i m S2).thenS m fun y S3 => setTR m x y d S3 := id rfl
theorem setTR_get {kvs : List (List Key × R)} {y d : R} {k : List Key} (h : S[n]? = some (.dT kvs)) (hk : keyT y = some k) (hz : kvs.length < sizeLine) : setTR m (.ref n) y d S = .nx m (S.set n (.dT (putT kvs k d))) := by
  unfold setTR; simp only [hk, h, if_pos hz]
theorem dtOf_T {kvs : List (List Key × R)} (h : S[n]? = some (.dT kvs)) : dtOf S (.ref n) = some kvs := by unfold dtOf; simp [h]
theorem dtOf_L {kvs : List (List Key × R)} (h : S[n]? = some (.lkT kvs)) : dtOf S (.ref n) = some kvs := by unfold dtOf; simp [h]
theorem opIxT_get {kvs : List (List Key × R)} {d y x : R} {k : List Key} (h : dtOf S d = some kvs) (hk : keyT y = some k) (hv : valT kvs k = some x) : opIxT d y S = .ok x S := by unfold opIxT; simp [h, hk, hv]
theorem biLenT_get {kvs : List (List Key × R)} {d : R} (h : dtOf S d = some kvs) : biLenT [d] S = .ok (.v (.int kvs.length)) S := by unfold biLenT; simp [h]
theorem lockS_run {la : LA} {g : MS} {f l : MO} {K : OutS → Prop} (h1 : la m S = some n) (h2 : S[n]? = some f) (h3 : lkOf f = some l) (h4 : wS (g m (S.set n l)) fun o => ∃ S', S'[n]? = some l ∧ ((∃ m', o = .nx m' S' ∧ K (.nx m' (S'.set n f))) ∨ ∃ d, o = .rt d S' ∧ K (.rt d (S'.set n f)))) : wS (mLockS la g m S) K := by
  have hk : isLk S n = false := by unfold isLk; rw [h2]; cases f <;> first | rfl | cases h3
  unfold wS mLockS mLockS0
  simp only [h1, hk, h2, h3]
  obtain ⟨S', e1, ⟨m', e2, k⟩ | ⟨d, e2, k⟩⟩ := h4
  · simp only [Bool.false_eq_true, if_false]; rw [e2]; unfold unlkS; simp only [if_pos e1]; exact k
  · simp only [Bool.false_eq_true, if_false]; rw [e2]; unfold unlkS; simp only [if_pos e1]; exact k
theorem lockE_in {la : LA} {g : ME} {K : Out R → Prop} (h1 : la m S = some n) (h2 : isLk S n = true) (h4 : wE (g m S) K) : wE (mLockE la g m S) K := by
  unfold wE mLockE; simp only [h1, h2, if_true]; exact h4
theorem srcKeys_run (a : ME) : srcKeys a m S = (a m S).bind fun d S1 => match lkD S1 d with
  | some (.lkT kvs) => .ok ⟨keysT kvs, []⟩ S1
  | some (.lkK kvs) => .ok ⟨keysK kvs, []⟩ S1
  | _ => .no := id rfl
theorem srcItemsT_run (a : ME) : srcItemsT a m S = (a m S).bind fun d S1 => match lkD S1 d with
  | some (.lkT kvs) => match itemsT kvs with
    | some xs => .ok ⟨xs, []⟩ S1
    | none => .no
  | _ => .no := id rfl
theorem lkD_get {o : MO} (h : S[n]? = some o) : lkD S (.ref n) = some o := h
end
section
variable {S S0 : Store} {m : Env} {c f : Str} {fs : List (Str × R)} {cs : Store} {d x : R} {K : Out R → Prop}
theorem fldR_L0 (S : Store) (c f : Str) (fs : List (Str × R)) (cs : Store) {r : R} (h : fs.lookup f = some r) : fldR c f (.ref S.length) (S ++ .ins c fs :: cs) = .ok r (S ++ .ins c fs :: cs) := fldR_get (get_len S _ cs) h
theorem setFldR_L0 (S : Store) (m : Env) (c f : Str) (fs : List (Str × R)) (cs : Store) (d : R) (h : fs.length < 1000) : setFldR c f m (.ref S.length) d (S ++ .ins c fs :: cs) = .nx m (S ++ .ins c (putR' f d fs) :: cs) := by rw [setFldR_get (get_len S _ cs) h, set_len]
theorem methR_L0 (S : Store) (c f : Str) (fs : List (Str × R)) (cs : Store) (k : Out R) (h : fs.lookup f = none) : methR c f (.ref S.length) (S ++ .ins c fs :: cs) k = k := methR_get (get_len S _ cs) h
theorem popAdd_eq {x y : List D} (h : x.length + y.length ≤ sizeLine) : wE (opAdd (.v (.lst x)) (.v (.lst y)) S) (kB (fun r S' => popV S r S') K) = K (.ok (.v (.lst (x ++ y))) S) := by
  unfold wE kB; rw [popAdd h]
end
section
variable {S S0 : Store} {n : Nat} {K : Out R → Prop}
theorem popMul_eq {xs : List D} {k : Int} (hu : Upd S0 S) (h : k < 2 ^ 20 ∧ -(2 ^ 63) ≤ k ∧ xs.length * k.toNat ≤ sizeLine) : wE (opMul (.v (.lst xs)) (.v (.int k)) S) (kB (fun r S' => popV S0 r S') K) = K (.ok (.v (.lst (List.replicate k.toNat xs).flatten)) S) := by
  have e : repR k (xs.map R.v) = ((List.replicate k.toNat xs).flatten).map .v := by
    unfold repR; rw [List.map_flatten, List.map_replicate]
  unfold wE kB
  simp only [opMul]
  rw [if_pos h, e, Out.bind_ok, popV_newU _ hu]
theorem popMul1_eq {xs : List D} (hu : Upd S0 S) (h : xs.length ≤ sizeLine) : wE (opMul (.v (.lst xs)) (.v (.int 1)) S) (kB (fun r S' => popV S0 r S') K) = K (.ok (.v (.lst xs)) S) := by
  rw [popMul_eq hu ⟨by decide, by decide, by simpa using h⟩]; simp
theorem popMul0_eq {xs : List D} (hu : Upd S0 S) : wE (opMul (.v (.lst xs)) (.v (.int 0)) S) (kB (fun r S' => popV S0 r S') K) = K (.ok (.v (.lst [])) S) := by
  rw [popMul_eq hu ⟨by decide, by decide, by simp⟩]; simp
theorem mtExt_lst {xs : List R} {zs : List D} (h : S[n]? = some (.lst xs)) (hz : xs.length + zs.length ≤ sizeLine) : mtExt (.ref n) [.v (.lst zs)] S = .ok (.v .non) (S.set n (.lst (xs ++ zs.map .v))) :=
  mtExt_ref h rfl rfl (by rw [List.length_map]; exact hz)
end
theorem wS_eq {o o' : OutS} {K : OutS → Prop} (h : o = o') (k : K o') : wS o K := h ▸ k
section
variable {S : Store} {a b c d : D} {xs : List D}
theorem opIx_t0 : opIx (.v (.tup (a :: xs))) (.v (.int 0)) S = .ok (.v a) S := opIx_tup (atI_0 _ _)
theorem opIx_t1 : opIx (.v (.tup (a :: b :: xs))) (.v (.int 1)) S = .ok (.v b) S := opIx_tup (atI_1 _ _ _)
theorem opIx_t2 : opIx (.v (.tup (a :: b :: c :: xs))) (.v (.int 2)) S = .ok (.v c) S := opIx_tup (atI_2 _ _ _ _)
theorem opIx_t3 : opIx (.v (.tup (a :: b :: c :: d :: xs))) (.v (.int 3)) S = .ok (.v d) S := opIx_tup (atI_3 _ _ _ _ _)
end
end M
local macro_rules
  | `(tactic| simp_arith [$ls,*]) => `(tactic| simp only [M.wE_ok, M.wE_bind, M.kB_ok, M.kB_exc, M.wS_then, M.kT_ok, M.kT_exc, M.wS_nx, M.wS_ct, M.wS_bk, M.wS_rt, M.wS_exc, M.wS_seq, M.kSeq_nx, M.kSeq_ct, M.kSeq_bk, M.kSeq_rt, M.kSeq_exc, M.wE_def, M.wE_defV, M.kDef_rt, M.kDef_nx, M.wS_trim, M.kTrim_nx, M.kTrim_ct, M.kTrim_bk, M.kTrim_rt, M.wTg_some, M.kTurn_nx, M.kTurn_ct, M.kTurn_bk, M.kTurn_rt, M.kTurn_exc,
    M.mVar_eq, M.mC_eq, M.mBin_eq, M.mUn_eq, M.mNil_eq, M.mCons_eq, M.mCall_eq, M.mTup_eq, M.mLst_eq, M.mLstV_eq, M.mIf_eq, M.mAnd_eq, M.mOr_eq, M.mNot_eq, M.mtB_eq, M.mtTru_eq, M.mtAnd_eq, M.mtOr_eq, M.mtNot_eq, M.mtYes_eq, M.mMeth_eq, M.mMeth0_eq, M.mSl_eq, M.moN_eq, M.moS_eq, M.mChain_eq, M.mPop_eq, M.mSkip_eq, M.mBrk_eq, M.mCnt_eq, M.mDrop_eq, M.mRet_eq, M.mRetN_eq, M.mIfS_eq, M.mSet_eq, M.mSetP_eq, M.mPar_eq, M.mAug_eq, M.mAsg_eq, M.mSetIx_eq, M.mFor_eq, M.srcRange1_eq, M.srcRange2_eq, M.srcAny_eq, M.mLc_eq, M.tgN_eq, M.tgT_tup, M.bindAll_nil, M.bindAll_cons, Option.bind_some, M.onBl_bl, M.onII_int, M.Out.bind_ok, M.Out.bind_exc, M.thenS_ok, M.wipeM,
    M.mFld_run, M.mSetFld_run, M.mAugFld_run, M.mMethC_run, M.mMake_run, M.nonR_non, M.mDctT0_eq, M.mSetT_run, M.srcKeys_run, M.srcItemsT_run, M.mDct0,
    List.map_cons, List.map_nil, List.length_cons, List.length_nil, List.replicate_succ, List.replicate_zero, List.cons_append, List.nil_append, List.append_assoc, List.getElem?_cons_zero, List.getElem?_cons_succ, List.set_cons_zero, List.set_cons_succ, List.length_set, List.length_append, List.set_set, M.setAll_cons, M.setAll_nil, M.getAll_cons, M.getAll_nil, Option.getD_some, Option.getD_none,
    M.opAdd_int, M.opSub_int, M.opNeg_int, M.opIadd_int, M.opCmpI_int, M.opEq_int, M.opNe_int, M.opEq_bl, M.opNe_bl, M.opIs_non, M.opIsNot_non, M.opIs_bl, M.opIsNot_bl, M.isNon, M.truM_bl, M.truM_int, M.truM_non, M.truM_tup, M.biLen_tup, M.biLen_lst, M.biLen_kl, M.biAbs_int, M.biInt_int, M.biInt_bl, M.biMax_ii, M.biMin_ii, M.biTuple_tup, M.biTuple_lst, M.tyOk_str, M.tyOk_lstV, M.isi_str_str, M.isi_str_tup, M.isi_str_int, M.isi_str_bool, M.isi_tup_str, M.isi_tup_tup, M.isi_tup_int, M.isi_int_str, M.isi_int_tup, M.isi_int_int, M.isi_int_bool, M.isi_bl_str, M.isi_bl_tup, M.isi_bl_int, M.isi_bl_bool, M.isi_non_str, M.isi_non_tup, M.isi_non_int,
    M.frzO_nil, M.frzO_1, M.frzO_2, M.frzO_3, M.frzO_4, M.frzO_5, M.frzO_6, M.sz0, M.sz1, M.sz2, M.sz3, M.sz4, M.sz5, M.sz6, M.sz7, M.sz8, M.sz9, M.sz10, M.szl0, M.szl1, if_true, if_false, Bool.false_eq_true, M.popV_v, M.cut_self', M.opIx_t0, M.opIx_t1, M.opIx_t2, M.opIx_t3, M.atI_0, M.atI_1, M.atI_2, M.atI_3, M.opSl_tup, Bool.not_true, Bool.not_false, true_and, and_true, Nat.reduceAdd, Nat.reduceSub, Nat.reduceMul, Nat.reduceLT, Int.reduceAdd, Int.reduceSub, Int.reduceMul, Int.reduceNeg, Int.reduceLT, Int.reduceLE, Int.reduceEq, reduceIte, Nat.zero_add, M.keepE_v, M.keepE_none, $ls,*])
local macro_rules
  | `(tactic| walk_at "cell") => `(tactic| repeat' first | assumption | refine M.get_app' ?_ _ | refine M.get_set' ?_ _ | exact M.get_L0 (by simp only [List.length_set]) _ _ | exact M.get_L1 (by simp only [List.length_set]) _ _ _ | exact M.get_L2 (by simp only [List.length_set]) _ _ _ _)
namespace M
open PySem hiding Env
open PySem.Spec PyProof.Rows
open L2
section
variable {X : Cx}
/-- l.count(x) (data of any depth) -/
def mtCount (d : R) (ds : List R) (S : Store) : Out R := match ds with
  | [y] => match pyOf S d, pyOf S y with
    | some (.list ps), some q => .ok (.int ((ps.countP fun z => PyData.eqv z q : Nat))) S
    | _, _ => .no
  | _ => .no
def rCountD (K : PySem.W.Frag) : V → List V → Hp → VK → Prop := fun x xs H Q => ∃ (a : Addr) (y : V) (d : PyData) (ds : List PyData), x = V.ref a ∧ xs = [y] ∧ Dp K H (V.ref a) (.list ds) ∧ Dp K H y d ∧
  SeqAt.shaped (.list ds) = true ∧ SeqAt.shaped d = true ∧ Q (.int ((ds.countP fun z => PyData.eqv z d : Nat))) H
theorem mt_countD (hu : X.A.units + 65 < cLine) : MtR X "list.count" (rCountD X.K) := by
  intro pins s σ H x xs v us Q I rx rxs h
  obtain ⟨a, y, d, ds, rfl, rfl, hl, hy, sl, sd, q⟩ := h
  cases rx
  cases rxs with
  | cons ry rt =>
    rename_i uy ut
    cases rt
    obtain ⟨bs, r1⟩ := Dp.reads I d y uy hy ry
    have hxs : PyData.canLayAll0 ds = true := SeqAt.canLay_of_shaped sl
    have hroom : X.A.units + 1 + min (PyData.depthAll ds) d.depth < cLine := room_in_shaped sd hu
    cases hl with
    | lst hs ha =>
      obtain ⟨its, rv, ⟨⟨cls, dd, data, sls⟩, n, ho, hc, hdn, hdt⟩, hlen⟩ := I.list hs
      simp only at hc hdt
      subst hc hdt
      obtain ⟨as, h4⟩ := Dp.readsAll I ds _ its ha rv
      have hmap : its.map (SeqAt.readOf s.heap) = ds := SeqAt.readsAll_map ds its as hxs h4
      refine call_meets PySem.F.slot_list_count ⟨_, ho, rfl⟩ PySem.F.entry_list_count (PySem.F.args_list_count_2 _ _)
        (SeqAt.list_countAt a its.toArray n dd sls uy (fun u => PyData.eqv (SeqAt.readOf s.heap u) d)) ⟨ho, SeqAt.items_eqAt (vs := its.toArray) (show ReadsAll s.heap its.toArray.toList ds as from h4) r1 hxs (SeqAt.canLay_of_shaped sd) hroom, ?_⟩
      refine ⟨.int ((ds.countP fun z => PyData.eqv z d : Nat)), H, I.tok _, ⟨s.toks, ?_⟩, q⟩
      show Value.int ((its.toArray.toList.countP fun u => PyData.eqv (SeqAt.readOf s.heap u) d : Nat) : Int) s.toks = _
      rw [← hmap, List.countP_map]
      rfl
theorem mtm_count (hu : X.A.units + 65 < cLine) : MtMm X "list.count" mtCount := by
  rintro pins s σ H x vs v us Q I rx rv ⟨E, ρ, S, d, ds, sr, rd, r, h⟩
  unfold mtCount at h
  split at h
  · split at h
    · rename_i y _ _ ps q h1 h2
      obtain ⟨w, rfl, r1⟩ := r.one
      obtain ⟨d1, s1⟩ := pyOf_dp sr rd h1
      obtain ⟨d2, s2⟩ := pyOf_dp sr r1 h2
      have hx : ∃ a, x = V.ref a := by cases d1; exact ⟨_, rfl⟩
      obtain ⟨a, rfl⟩ := hx
      exact mt_countD hu pins s σ H _ _ v us Q I rx rv ⟨a, w, q, ps, rfl, rfl, d1, d2, s1, s2, h _ _ _ .refl sr (.int _)⟩
    · exact h.elim
  · exact h.elim
end
/-- a tuple of the module, by value -/
def KtR (K : PySem.W.Frag) (a : Addr) (ds : List D) : Prop := ∃ xs, KT' K a xs ∧ ∀ H ρ, RpA K H ρ xs ds
theorem KtR.rp {K : PySem.W.Frag} {a : Addr} {ds : List D} (h : KtR K a ds) (H : Hp) (ρ : Wd) : Rp K H ρ (.ref a) (.kt ds) := by
  obtain ⟨xs, h1, h2⟩ := h
  exact .kt h1 (h2 H ρ)
theorem KtR.of {K : PySem.W.Frag} {a : Addr} {ds : List D} {dd : Option Addr} {its : Array Value} {n : Nat} {sl : Array (Option Value)} {xs : List V} (h : K.lookup a = some ⟨.type "tuple", dd, .seq its n, sl⟩) (hz : its.size ≤ 1000) (hv : Vals xs its.toList) (hr : ∀ H ρ, RpA K H ρ xs ds) : KtR K a ds :=
  ⟨xs, ⟨_, its, n, h, rfl, rfl, sz_of (by omega), hv⟩, hr⟩
end M
namespace M
open PySem hiding Env
open PySem.Spec PyProof.Rows
open L2
section
variable {X : Cx} {E : L2.St → XK}
structure KdR (K : PySem.W.Frag) (w : World) (A : Addr) (hits : List (Str × Int)) (miss : List Str) : Prop where
  D : ∃ es n, KDict K w A es n
  hit : ∀ p ∈ hits, ∃ t, PySem.W.nsIn K A p.1 = some (some (.int p.2 t))
  no : ∀ z ∈ miss, PySem.W.nsIn K A z = some none
variable {hits : List (Str × Int)} {miss : List Str} {A : Addr} {x : Str} {p pos : Pos} {a : Expr} {ma : ME}
end
theorem KdR.of {K : PySem.W.Frag} {w : World} {A : Addr} {es : Array DictEntry} {n : Nat} {hits : List (Str × Int)} {miss : List Str} (o : K.lookup A = some ⟨.type "dict", none, .dict es n, #[]⟩) (k : PySem.W.KeysLit w.params es.toList) (l : (A == sysModules) = false)
    (h1 : ∀ p ∈ hits, ∃ t, PySem.W.nsIn K A p.1 = some (some (.int p.2 t))) (h2 : ∀ z ∈ miss, PySem.W.nsIn K A z = some none) : KdR K w A hits miss := ⟨⟨es, n, o, k, l⟩, h1, h2⟩
end M
namespace M
open PySem hiding Env
open PySem.Spec PyProof.Rows
open L2
end M
namespace L2
open PySem PySem.Spec PyProof.Rows
end L2
namespace M
open PySem hiding Env
open PySem.Spec PyProof.Rows
open L2
end M
namespace M
open PySem hiding Env
open PySem.Spec PyProof.Rows
open L2
variable {X : Cx} {E : L2.St → XK}
/-- hi, hi - 1, .. (n of them) -/
def rangeU (hi : Int) (n : Nat) : List R := (List.range n).map fun (i : Nat) => .int (hi - (i : Int))
def rg3 (ds : List R) (S1 : Store) : Out Src := match ds with
  | [.v (.int i), .v (.int j), .v (.int c)] => if c = -1 ∧ rgOk i = true ∧ rgOk j = true then .ok ⟨rangeU i (i - j).toNat, []⟩ S1 else .no
  | _ => .no
def srcRange3 (r : MA) : MI := fun m S => (r m S).bind rg3
@[simp] theorem srcRange3_eq {r : MA} {m : Env} {S : Store} : srcRange3 r m S = (r m S).bind rg3 := id rfl
/-- a, b, c = x, y, z -/
def mPar3 (i j l : Nat) (f g h : ME) : MS := fun m S => (f m S).thenS m fun x S1 => (g m S1).thenS m fun y S2 => (h m S2).thenS m fun z S3 => .nx (((m.set i (some x)).set j (some y)).set l (some z)) S3
@[simp] theorem mPar3_eq (i j l : Nat) {a b c : ME} {m : Env} {S : Store} : mPar3 i j l a b c m S = (a m S).thenS m fun x S1 => (b m S1).thenS m fun y S2 => (c m S2).thenS m fun z S3 => .nx (((m.set i (some x)).set j (some y)).set l (some z)) S3 := id rfl
end M
namespace M
open PySem PySem.Spec L2
open PyProof.Rows hiding St
/-- dict(zip(a, b)) -/
def biDzip (ds : List R) (S : Store) : Out R := match ds with
  | [d, e] => match seqP S d, seqP S e with
    | some p, some q => match keyDs p.1 with
      | some kk => if q.1.length ≤ sizeLine then .ok (.ref S.length) (S ++ [.dK (mergeR [] (kk.zip (q.1.map R.v)))]) else .no
      | none => .no
    | _, _ => .no
  | _ => .no
def mDzip (r : MA) : ME := fun m S => (r m S).bind biDzip
@[simp] theorem mDzip_eq {r : MA} {m : Env} {S : Store} : mDzip r m S = (r m S).bind biDzip := id rfl
end M
namespace M
open PySem PySem.Spec L2
open PyProof.Rows hiding St
def mGetK (d k x : ME) : ME := fun m S => (d m S).bind fun a S1 => match dkOf S1 a with
  | none => .no
  | some _ => (k m S1).bind fun e S2 => (x m S2).bind fun z S3 => match dkOf S3 a, keyOf e with
    | some kvs, some q => .ok ((valR kvs q).getD z) S3
    | _, _ => .no
def getKO (a e z : R) (S : Store) : Out R := match dkOf S a, keyOf e with
    | some kvs, some q => .ok ((valR kvs q).getD z) S
    | _, _ => .no
/-- d[k] = v of a dict with texts or numbers as keys -/
def mSetK (f o i : ME) : MS := fun m S => (f m S).thenS m fun d S1 => (o m S1).thenS m fun x S2 => (i m S2).thenS m fun y S3 => match x, keyOf y with
  | .ref n, some k => match S3[n]? with
    | some (.dK kvs) => if kvs.length < sizeLine then .nx m (S3.set n (.dK (putR kvs k d))) else .no
    | _ => .no
  | _, _ => .no
def setKR (m : Env) (x y d : R) (S : Store) : OutS := match x, keyOf y with
  | .ref n, some k => match S[n]? with
    | some (.dK kvs) => if kvs.length < sizeLine then .nx m (S.set n (.dK (putR kvs k d))) else .no
    | _ => .no
  | _, _ => .no
@[simp] theorem mSetK_run {f o i : ME} {m : Env} {S : Store} : mSetK f o i m S = (f m S).thenS m fun d S1 => (o m S1).thenS m fun x S2 => (i m S2).thenS m fun y S3 => setKR m x y d S3 := id rfl
def getK1 (k x : ME) (m : Env) (a : R) (S1 : Store) : Out R := match dkOf S1 a with
  | none => .no
  | some _ => (k m S1).bind fun e S2 => (x m S2).bind fun z S3 => getKO a e z S3
@[simp] theorem mGetK_run {d k x : ME} {m : Env} {S : Store} : mGetK d k x m S = (d m S).bind fun a S1 => getK1 k x m a S1 := id rfl
end M
namespace Q
open PySem hiding Env
open L2 M
end Q
namespace Q
open PySem hiding Env
open L2 M
/-- what is drawn from -/
structure Hnd where
  x : Int
  y : Int
  hx : 0 ≤ x
  hy : 0 ≤ y
  hz : y < 2305843009213693951
def Hnd.c (h : Hnd) : MO := .lst [.v (.int h.x), .v (.int h.y)]
theorem Hnd.lo (h : Hnd) (k : Nat) : h.c.lo k := lo_lst [.int h.x, .int h.y] k
theorem nab {i : Int} {k : Nat} (h0 : 0 ≤ i) (h : i < 2 ^ k) : i.natAbs < 2 ^ k := by
  have : ((i.natAbs : Nat) : Int) = i := by omega
  have h2 : ((i.natAbs : Nat) : Int) < ((2 ^ k : Nat) : Int) := by rw [this]; simpa using h
  exact_mod_cast h2
theorem get_atL {S' : Store} {k : Nat} (hl : S'.length = k) (c : MO) (cs : Store) : (S' ++ c :: cs)[k]? = some c := by subst hl; simp
theorem set_atL {S' : Store} {k : Nat} (hl : S'.length = k) (c x : MO) (cs : Store) : (S' ++ c :: cs).set k x = S' ++ x :: cs := by subst hl; simp
/-- the j-th word: begin, letter, end -/
def wordAt (b : Str) (f st : Int) (j : Nat) (e : Str) : Str := b ++ ⟨#[97 + ((f + st * (j : Int)) % 26).toNat]⟩ ++ e
theorem letter_at : ∀ i : Nat, i < 26 → (Str.ofString "abcdefghijklmnopqrstuvwxyz").cps.toList[i]? = some (97 + i) := by decide +kernel
theorem wordAt_inj {b e e' : Str} {f st : Int} {i j : Nat} (hs : st = 1 ∨ st = 3 ∨ st = 5 ∨ st = 7 ∨ st = 9 ∨ st = 11) (hi : i < 26) (hj : j < 26) (h : wordAt b f st i e = wordAt b f st j e') : i = j := by
  have q := congrArg (fun x : Str => x.cps.toList) h
  simp only [wordAt, cps_app, List.append_assoc] at q
  have q2 := List.append_cancel_left q
  simp only [List.cons_append, List.nil_append, List.cons.injEq] at q2
  have q3 := q2.1
  have h1 : 0 ≤ (f + st * (i : Int)) % 26 ∧ (f + st * (i : Int)) % 26 < 26 := ⟨Int.emod_nonneg _ (by decide), Int.emod_lt_of_pos _ (by decide)⟩
  have h2 : 0 ≤ (f + st * (j : Int)) % 26 ∧ (f + st * (j : Int)) % 26 < 26 := ⟨Int.emod_nonneg _ (by decide), Int.emod_lt_of_pos _ (by decide)⟩
  have q4 : (f + st * (i : Int)) % 26 = (f + st * (j : Int)) % 26 := by omega
  rcases hs with rfl | rfl | rfl | rfl | rfl | rfl <;> omega
/-- two neighbours put together -/
theorem cut2 {us : List T} {a : Nat} (h : a + 2 ≤ us.length) : ∃ l r, us[a]? = some l ∧ us[a + 1]? = some r ∧ us = us.take a ++ l :: r :: us.drop (a + 2) := by
  refine ⟨us[a], us[a + 1], List.getElem?_eq_getElem (by omega), List.getElem?_eq_getElem (by omega), ?_⟩
  conv => lhs; rw [← List.take_append_drop a us]
  rw [List.drop_eq_getElem_cons (show a < us.length by omega), List.drop_eq_getElem_cons (show a + 1 < us.length by omega)]
end Q
namespace Q
open PySem hiding Env
open L2 M
end Q
namespace Q
open PySem hiding Env
open L2 M
theorem isi_str (d : D) (h : notTy d = true) (S : Store) : biIsi [.v d, .v (.ty "str")] S = .ok (.v (.bl (isStr d))) S := by
  cases d <;> first | (simp [biIsi, tyName, tyD, kb_ss, kb_ts, kb_is, kb_bs, kb_ns, kb_ls, kb_ds, isStr]; done) | cases h
theorem isi_tuple (d : D) (h : notTy d = true) (S : Store) : biIsi [.v d, .v (.ty "tuple")] S = .ok (.v (.bl (isTup d))) S := by
  cases d <;> first | (simp [biIsi, tyName, tyD, kb_st, kb_tt, kb_it, kb_bt, kb_nt, kb_lt, kb_dt, isTup]; done) | cases h
theorem flat_leaf : ∀ row : List Str, (row.map T.leaf).flatMap T.ls = row
  | [] => rfl
  | w :: r => by simp [T.ls, flat_leaf r]
end Q
namespace Q
open PySem hiding Env
open L2 M
noncomputable def m_put_nodes (g_put_nodes : List R → Store → Out R) : MS :=
  (mSeq (mIfS (mtTru (mCall biIsi (mCons (mVar 0) (mCons (mC (.ty "tuple")) mNil)))) (mSeq (mSet 2 (mCall g_put_nodes (mCons (mBin opIx (mVar 0) (mC (.int 0))) (mCons (mVar 1) mNil))))
  (mDrop (mMeth "list" mtAppend (mVar 1) (mCons (mTup (mCons (mVar 2) (mCons (mCall g_put_nodes (mCons (mBin opIx (mVar 0) (mC (.int 1))) (mCons (mVar 1) mNil))) mNil))) mNil)))) (mDrop (mMeth "list" mtAppend (mVar 1) (mCons (mVar 0) mNil))))
  (mRet (mBin opSub (mCall biLen (mCons (mVar 1) mNil)) (mC (.int 1)))))
noncomputable def R_put_nodes : Nat → List R → Store → Out R
  | 0 => fun _ _ => .no
  | k + 1 => mDefV 3 (m_put_nodes (R_put_nodes k))
noncomputable def m_nodes (g_put_nodes : List R → Store → Out R) : MS :=
  (mSeq (mSet 1 (mLst mNil))
  (mSeq (mDrop (mCall g_put_nodes (mCons (mVar 0) (mCons (mVar 1) mNil))))
  (mRet (mCall biTuple (mCons (mVar 1) mNil)))))
noncomputable def M_nodes : List R → Store → Out R := mDefV 2 (m_nodes (R_put_nodes 70))
end Q
namespace M
open PySem hiding Env
open L2
def T.cnt : T → Nat
  | .leaf _ => 1
  | .node l r => l.cnt + r.cnt + 1
theorem T.cnt_ls : ∀ t : T, t.cnt + 1 = 2 * t.ls.length
  | .leaf w => rfl
  | .node l r => by
    have h1 := T.cnt_ls l
    have h2 := T.cnt_ls r
    simp only [T.cnt, T.ls, List.length_append]; omega
theorem T.cnt_pos (t : T) : 0 < t.cnt := by have := t.cnt_ls; have := t.ls_pos; omega
/-- the nodes of a tree whose first has the number k -/
def T.nodesFrom : Nat → T → List D
  | _, .leaf w => [.str w]
  | k, .node l r => T.nodesFrom k l ++ T.nodesFrom (k + l.cnt) r ++ [.tup [.int ((k + l.cnt - 1 : Nat) : Int), .int ((k + l.cnt + r.cnt - 1 : Nat) : Int)]]
def T.nodes (t : T) : List D := T.nodesFrom 0 t
theorem T.nodesFrom_len : ∀ (t : T) (k : Nat), (T.nodesFrom k t).length = t.cnt
  | .leaf w, k => rfl
  | .node l r, k => by simp only [T.nodesFrom, List.length_append, T.nodesFrom_len l, T.nodesFrom_len r, T.cnt, List.length_cons, List.length_nil]
theorem T.nodes_len (t : T) : t.nodes.length = t.cnt := t.nodesFrom_len 0
end M
namespace Q
open PySem hiding Env
open L2 M
theorem T_leaves_nodes : ∀ (t : T) (k : Nat), (T.nodesFrom k t).filter isStr = t.ls.map D.str
  | .leaf w, k => rfl
  | .node l r, k => by
    simp only [T.nodesFrom, T.ls, List.filter_append, T_leaves_nodes l, T_leaves_nodes r, List.map_append]
    simp [isStr]
theorem put_nodes_spec : ∀ (k : Nat) (t : T) (S : Store) (n : Nat) (xs : List D), t.depth < k → S[n]? = some (.lst (xs.map .v)) → xs.length + 2 * t.ls.length ≤ 10000000 →
    R_put_nodes k [.v t.d, .ref n] S = .ok (.v (.int ((xs.length + t.cnt - 1 : Nat) : Int))) (S.set n (.lst ((xs ++ T.nodesFrom xs.length t).map .v)))
  | 0, t, S, n, xs, h, _, _ => by omega
  | k + 1, .leaf w, S, n, xs, h, e, hz => by
    have hl : (xs.map R.v).length < sizeLine := sz_lt (by simp; omega)
    have e2 := get_set e (.lst ((xs ++ [D.str w]).map .v))
    refine mDefV_rtU (T := S.set n (.lst ((xs ++ [D.str w]).map .v))) ?_ (upd_set n (lo_lst _ _))
    have e3 : mtAppend (.ref n) [.v (.str w)] S = .ok (.v .non) (S.set n (.lst ((xs ++ [D.str w]).map .v))) := by rw [mtAppend_ref e hl, List.map_append]; rfl
    simp only [m_put_nodes, T.d, List.map_cons, List.map_nil, List.length_cons, List.length_nil, List.replicate, List.cons_append, List.nil_append, Nat.reduceAdd, Nat.reduceSub, mSeq_eq, mIfS_eq, mtTru_eq, mCall_eq, mCons_eq, mVar_eq, mC_eq, mNil_eq, List.getElem?_cons_zero, List.getElem?_cons_succ, Out.bind_ok, isi_str_tup, truM_bl, thenS_ok, mDrop_eq, mMeth_eq, tyOk_lst e, if_true, e3, mRet_eq, mBin_eq, biLen_ref e2, opSub_int]
    congr 3
    simp [T.cnt]
  | k + 1, .node l r, S, n, xs, h, e, hz => by
    simp only [T.depth] at h
    simp only [T.ls, List.length_append] at hz
    have c1 := l.cnt_ls
    have c2 := r.cnt_ls
    have p1 := l.cnt_pos
    have p2 := r.cnt_pos
    have e1 := put_nodes_spec k l S n xs (by omega) e (by omega)
    have l1 : (xs ++ T.nodesFrom xs.length l).length = xs.length + l.cnt := by rw [List.length_append, T.nodesFrom_len]
    have e2 := put_nodes_spec k r (S.set n (.lst ((xs ++ T.nodesFrom xs.length l).map .v))) n (xs ++ T.nodesFrom xs.length l) (by omega) (get_set e _) (by rw [l1]; omega)
    rw [l1, List.set_set] at e2
    have e3 := get_set e (.lst ((xs ++ T.nodesFrom xs.length l ++ T.nodesFrom (xs.length + l.cnt) r).map .v))
    have hl : ((xs ++ T.nodesFrom xs.length l ++ T.nodesFrom (xs.length + l.cnt) r).map R.v).length < sizeLine := sz_lt (by simp only [List.length_map, List.length_append, T.nodesFrom_len]; omega)
    let last : D := .tup [.int ((xs.length + l.cnt - 1 : Nat) : Int), .int ((xs.length + l.cnt + r.cnt - 1 : Nat) : Int)]
    have hfin : xs ++ T.nodesFrom xs.length (.node l r) = xs ++ T.nodesFrom xs.length l ++ T.nodesFrom (xs.length + l.cnt) r ++ [last] := by simp [T.nodesFrom, last]
    have e4 : mtAppend (.ref n) [.v last] (S.set n (.lst ((xs ++ T.nodesFrom xs.length l ++ T.nodesFrom (xs.length + l.cnt) r).map .v))) = .ok (.v .non) (S.set n (.lst ((xs ++ T.nodesFrom xs.length (.node l r)).map .v))) := by
      rw [mtAppend_ref e3 hl, List.set_set, hfin]; simp
    have e5 := get_set e (.lst ((xs ++ T.nodesFrom xs.length (.node l r)).map .v))
    have i0 : ∀ S, opIx (.v (.tup [l.d, r.d])) (.v (.int 0)) S = .ok (.v l.d) S := fun S => opIx_tup (atI_0 _ _)
    have i1 : ∀ S, opIx (.v (.tup [l.d, r.d])) (.v (.int 1)) S = .ok (.v r.d) S := fun S => opIx_tup (atI_1 _ _ _)
    refine mDefV_rtU ?_ (upd_set n (lo_lst _ _))
    simp only [m_put_nodes, T.d, List.map_cons, List.map_nil, List.length_cons, List.length_nil, List.replicate, List.cons_append, List.nil_append, Nat.reduceAdd, Nat.reduceSub, mSeq_eq, mIfS_eq, mtTru_eq, mCall_eq, mCons_eq, mVar_eq, mC_eq, mNil_eq, List.getElem?_cons_zero, List.getElem?_cons_succ, Out.bind_ok, isi_tup_tup, truM_bl, thenS_ok, mSet_eq, mBin_eq, i0, e1, List.set_cons_succ, List.set_cons_zero, mDrop_eq, mMeth_eq, tyOk_lst (get_set e _), if_true, mTup_eq, i1, e2, frzO_2, Nat.zero_add, sz2]
    have e4' := e4
    simp only [last, List.map_append] at e4'
    simp only [List.map_append, e4', thenS_ok, mRet_eq, mBin_eq, mCall_eq, mCons_eq, mVar_eq, mNil_eq, mC_eq, List.getElem?_cons_zero, List.getElem?_cons_succ, Out.bind_ok, List.set_cons_succ, List.set_cons_zero]
    rw [← List.map_append, biLen_ref e5]
    simp only [Out.bind_ok, opSub_int, thenS_ok]
    congr 3
    simp only [List.length_map, List.length_append, T.nodesFrom_len, T.cnt]
    omega
theorem nodes_spec {t : T} {S : Store} (hd : t.depth < 70) (hz : t.ls.length ≤ 1000000) : M_nodes [.v t.d] S = .ok (.v (.tup t.nodes)) S := by
  have e1 := put_nodes_spec 70 t (S ++ [.lst []]) S.length [] hd (get_len S _ []) (by simp; omega)
  rw [set_len, List.nil_append] at e1
  have e2 := get_len S (.lst ((T.nodesFrom 0 t).map .v)) []
  refine mDefV_rtG [.lst ((T.nodesFrom 0 t).map .v)] ?_ (.refl S)
  simp only [m_nodes, List.map_cons, List.map_nil, List.length_cons, List.length_nil, List.replicate, List.cons_append, List.nil_append, Nat.reduceAdd, Nat.reduceSub, mSeq_eq, mSet_eq, mLst_eq, mNil_eq, Out.bind_ok, Nat.zero_le, sz0, if_true, thenS_ok, List.set_cons_succ, List.set_cons_zero, mDrop_eq, mCall_eq, mCons_eq, mVar_eq, List.getElem?_cons_zero, List.getElem?_cons_succ, e1, mRet_eq, biTuple_ref e2]
  rfl
end Q
namespace Q
open PySem hiding Env
open L2 M
end Q
namespace M
open PySem PySem.Spec L2
open PyProof.Rows hiding St
theorem cutS_cps (z : Str) (lo hi : Option Int) : (cutS z lo hi).cps.toList = cutD z.cps.toList lo hi := by
  unfold cutS cutD
  rw [show z.cps.toList.length = z.length from Array.length_toList]
/-- a comprehension over a cell -/
theorem lc_mapP {α : Type} {pins : List (Nat × MO)} {t : TgM} {c : MT} {f : ME} {m : Env} {S0 S : Store} (hu : Upd S0 S) (hp : ∀ o, pinsOk pins (S ++ [o])) (r : α → R) (p : α → Bool) (g : α → D) (xs : List α) (hz : xs.length ≤ sizeLine)
    (hs : ∀ x ∈ xs, ∀ acc : List R, ∃ m1, t (r x) m = some m1 ∧ c m1 (S ++ [.lst acc]) = .ok (p x) (S ++ [.lst acc]) ∧ (p x = true → f m1 (S ++ [.lst acc]) = .ok (.v (g x)) (S ++ [.lst acc]))) :
    (mLcGo pins t c f S.length m (xs.map r) (S ++ [.lst []])).bind (fun r S' => popV S0 r S') = .ok (.v (.lst ((xs.filter p).map g))) S := by
  have key : ∀ (xs ys : List α), ys.length + xs.length ≤ sizeLine → (∀ x ∈ xs, ∀ acc : List R, ∃ m1, t (r x) m = some m1 ∧ c m1 (S ++ [.lst acc]) = .ok (p x) (S ++ [.lst acc]) ∧ (p x = true → f m1 (S ++ [.lst acc]) = .ok (.v (g x)) (S ++ [.lst acc]))) →
      mLcGo pins t c f S.length m (xs.map r) (S ++ [.lst ((ys.map g).map .v)]) = .ok (.ref S.length) (S ++ [.lst (((ys ++ xs.filter p).map g).map .v)]) := by
    intro xs
    induction xs with
    | nil => intro ys _ _; unfold mLcGo; simp [hp]
    | cons x xs ih =>
      intro ys hl hs
      obtain ⟨m1, e1, e2, e3⟩ := hs x (by simp) ((ys.map g).map .v)
      rw [List.map_cons]
      unfold mLcGo
      rw [if_pos (hp _), e1]
      simp only [e2, Out.calm_ok, Out.bind_ok]
      rw [List.length_cons] at hl
      cases hpx : p x with
      | false =>
        simp only
        rw [ih ys (by omega) fun x hx => hs x (by simp [hx]), List.filter_cons_of_neg (by simp [hpx])]
      | true =>
        simp only [e3 hpx, Out.calm_ok, Out.bind_ok, get_len]
        rw [if_pos (by rw [List.length_map, List.length_map]; omega), set_len, List.filter_cons_of_pos hpx]
        have := ih (ys ++ [x]) (by rw [List.length_append]; simp; omega) fun x hx => hs x (by simp [hx])
        simp only [List.map_append, List.map_cons, List.map_nil, List.append_assoc, List.cons_append, List.nil_append] at this ⊢
        exact this
  have := key xs [] (by simpa using hz) hs
  simp only [List.map_nil, List.nil_append] at this
  rw [this, Out.bind_ok]
  exact popV_newU _ hu
end M
namespace Q
open PySem hiding Env
open L2 M
theorem opIx_2' {a b : D} {S : Store} {c : Bool} : opIx (.v (.lst [a, b])) (.v (.int (if c = true then 1 else 0))) S = .ok (.v (if c = true then b else a)) S := by
  cases c
  · exact opIx_lst (atI_0 _ _)
  · exact opIx_lst (atI_1 _ _ _)
end Q
namespace Q
open PySem hiding Env
open L2 M
noncomputable def m_take_2 : MS :=
  (mSeq (mIfS (mtB (mBin opGt (mBin opIx (mVar 0) (mC (.int 0))) (mC (.int 0)))) (mSeq (mSet 2 (mBin opMod (mBin opIx (mVar 0) (mC (.int 0))) (mVar 1)))
  (mSeq (mSetIx (mBin opFdiv (mBin opIx (mVar 0) (mC (.int 0))) (mVar 1)) (mVar 0) (mC (.int 0)))
  (mRet (mVar 2)))) mSkip)
  (mSeq (mAugIx (mC (.int 1)) (mVar 0) (mC (.int 2)) opIadd)
  (mSeq (mSet 3 (mBin opMod (mBin opAdd (mBin opAdd (mBin opMul (mBin opIx (mVar 0) (mC (.int 1))) (mC (.int 69069))) (mBin opMul (mC (.int 9973)) (mBin opIx (mVar 0) (mC (.int 2))))) (mC (.int 5))) (mC (.int 2305843009213693921))))
  (mSeq (mSetIx (mBin opMod (mBin opMul (mVar 3) (mBin opAdd (mBin opAdd (mBin opMod (mVar 3) (mC (.int 999983))) (mBin opMul (mC (.int 2)) (mBin opIx (mVar 0) (mC (.int 2))))) (mC (.int 3)))) (mC (.int 2305843009213693907))) (mVar 0) (mC (.int 1)))
  (mRet (mBin opMod (mBin opFdiv (mBin opIx (mVar 0) (mC (.int 1))) (mC (.int 65537))) (mVar 1)))))))
noncomputable def M_take_2 : List R → Store → Out R := mDefV 4 (m_take_2)
noncomputable def m_pot : MS :=
  (mSeq (mSet 2 (mC (.int 0)))
  (mSeq (mIfS (mtB (mBin opLt (mVar 1) (mCall biLen (mCons (mVar 0) mNil)))) (mSet 2 (mCall biAbs (mCons (mBin opIx (mVar 0) (mVar 1)) mNil))) mSkip)
  (mSeq (mSet 3 (mBin opMul (mBin opMod (mVar 2) (mBin opMul (mBin opPow (mC (.int 10)) (mC (.int 60))) (mBin opPow (mC (.int 10)) (mC (.int 60))))) (mCall biInt (mCons (mBin opGe (mVar 2) (mBin opPow (mC (.int 10)) (mC (.int 18)))) mNil))))
  (mRet (mLst (mCons (mVar 3) (mCons (mBin opMod (mBin opAdd (mBin opAdd (mVar 2) (mBin opMul (mC (.int 104729)) (mVar 1))) (mC (.int 7))) (mC (.int 2305843009213693951))) (mCons (mC (.int 0)) mNil))))))))
noncomputable def M_pot : List R → Store → Out R := mDef 4 (m_pot)
noncomputable def b1_words_2 : MS :=
  (mSeq (mSet 9 (mBin opIx (mVar 2) (mBin opMod (mBin opAdd (mVar 3) (mBin opMul (mVar 4) (mVar 8))) (mC (.int 26)))))
  (mDrop (mMeth "list" mtAppend (mVar 7) (mCons (mBin opAdd (mBin opAdd (mVar 5) (mVar 9)) (mBin opIx (mVar 6) (mBin opMod (mBin opAdd (mVar 3) (mVar 8)) (mC (.int 4))))) mNil))))
noncomputable def m_words_2 (g_take_2 : List R → Store → Out R) : MS :=
  (mSeq (mSet 2 (mC (.str "abcdefghijklmnopqrstuvwxyz")))
  (mSeq (mSet 3 (mCall g_take_2 (mCons (mVar 0) (mCons (mC (.int 26)) mNil))))
  (mSeq (mSet 4 (mBin opIx (mLstV (mCons (mC (.int 1)) (mCons (mC (.int 3)) (mCons (mC (.int 5)) (mCons (mC (.int 7)) (mCons (mC (.int 9)) (mCons (mC (.int 11)) mNil))))))) (mCall g_take_2 (mCons (mVar 0) (mCons (mC (.int 6)) mNil)))))
  (mSeq (mSet 5 (mBin opIx (mLstV (mCons (mC (.str "")) (mCons (mC (.str "k")) mNil))) (mCall g_take_2 (mCons (mVar 0) (mCons (mC (.int 2)) mNil)))))
  (mSeq (mSet 6 (mLstV (mCons (mC (.str "")) (mCons (mC (.str "q")) (mCons (mC (.str "zz")) (mCons (mC (.str "abcdef")) mNil))))))
  (mSeq (mSet 7 (mLst mNil))
  (mSeq (mFor (srcRange1 (mCons (mVar 1) mNil)) (tgN 8) b1_words_2)
  (mRet (mVar 7)))))))))
noncomputable def M_words_2 : List R → Store → Out R := mDefV 10 (m_words_2 M_take_2)
noncomputable def b1_tree (g_take_2 : List R → Store → Out R) : MS :=
  (mSeq (mSet 4 (mBin opIx (mLstV (mCons (mCall g_take_2 (mCons (mVar 0) (mCons (mBin opSub (mCall biLen (mCons (mVar 2) mNil)) (mC (.int 1))) mNil))) (mCons (mBin opSub (mCall biLen (mCons (mVar 2) mNil)) (mC (.int 2))) (mCons (mC (.int 0)) (mCons (mC (.int 0)) mNil))))) (mVar 3)))
  (mSeq (mSet 5 (mTup (mCons (mBin opIx (mVar 2) (mVar 4)) (mCons (mBin opIx (mVar 2) (mBin opAdd (mVar 4) (mC (.int 1)))) mNil))))
  (mSeq (mIfS (mtAnd (mtB (mBin opEq (mVar 3) (mC (.int 3)))) (mtB (mBin opEq (mCall g_take_2 (mCons (mVar 0) (mCons (mC (.int 2)) mNil))) (mC (.int 0))))) (mSet 5 (mTup (mCons (mBin opIx (mVar 2) (mBin opAdd (mVar 4) (mC (.int 1)))) (mCons (mBin opIx (mVar 2) (mVar 4)) mNil)))) mSkip)
  (mSetSl (mLstV (mCons (mVar 5) mNil)) (mVar 2) (moS (mVar 4)) (moS (mBin opAdd (mVar 4) (mC (.int 2))))))))
noncomputable def m_tree (g_take_2 : List R → Store → Out R) : MS :=
  (mSeq (mSet 2 (mCall biList (mCons (mVar 1) mNil)))
  (mSeq (mSet 3 (mCall g_take_2 (mCons (mVar 0) (mCons (mC (.int 4)) mNil))))
  (mSeq (mWhile (mtB (mBin opGt (mCall biLen (mCons (mVar 2) mNil)) (mC (.int 1)))) (b1_tree g_take_2))
  (mRet (mBin opIx (mVar 2) (mC (.int 0)))))))
noncomputable def M_tree : List R → Store → Out R := mDefV 6 (m_tree M_take_2)
noncomputable def m_great_2 (g_take_2 : List R → Store → Out R) (g_words_2 : List R → Store → Out R) (g_tree : List R → Store → Out R) : MS :=
  (mRet (mCall g_tree (mCons (mVar 0) (mCons (mCall g_words_2 (mCons (mVar 0) (mCons (mBin opAdd (mC (.int 1)) (mCall g_take_2 (mCons (mVar 0) (mCons (mBin opIx (mLstV (mCons (mC (.int 5)) (mCons (mC (.int 8)) mNil))) (mCall biInt (mCons (mBin opEq (mCall g_take_2 (mCons (mVar 0) (mCons (mC (.int 8)) mNil))) (mC (.int 0))) mNil))) mNil)))) mNil))) mNil))))
noncomputable def M_great_2 : List R → Store → Out R := mDefV 1 (m_great_2 M_take_2 M_words_2 M_tree)
end Q
namespace M
open PySem PySem.Spec L2
open PyProof.Rows hiding St
/-- a while whose turns are counted down -/
theorem while_dec {t : MT} {body : MS} (I : Nat → Env → Store → Prop) (h0 : ∀ m S, I 0 m S → t m S = .ok false S) (hs : ∀ j m S, I (j + 1) m S → t m S = .ok true S ∧ ∃ m2 S2, body m S = .nx m2 S2 ∧ I j m2 S2) :
    ∀ (n k : Nat) (m : Env) (S : Store), I n m S → n < k → ∃ m' S', mWhileGo t body k m S = .nx m' S' ∧ I 0 m' S'
  | n, 0, m, S, _, hk => by omega
  | 0, k + 1, m, S, h, _ => ⟨m, S, by unfold mWhileGo; rw [h0 m S h]; rfl, h⟩
  | n + 1, k + 1, m, S, h, hk => by
    obtain ⟨e1, m2, S2, e2, h2⟩ := hs n m S h
    obtain ⟨m', S', e3, h3⟩ := while_dec I h0 hs n k m2 S2 h2 (by omega)
    refine ⟨m', S', ?_, h3⟩
    unfold mWhileGo
    rw [e1]
    simp only [thenS_ok, e2]
    exact e3
theorem while_dec' {t : MT} {body : MS} (I : Nat → Env → Store → Prop) (n : Nat) {m : Env} {S : Store} (h : I n m S) (hn : n < 1000000) (h0 : ∀ m S, I 0 m S → t m S = .ok false S) (hs : ∀ j m S, I (j + 1) m S → t m S = .ok true S ∧ ∃ m2 S2, body m S = .nx m2 S2 ∧ I j m2 S2) :
    ∃ m' S', mWhile t body m S = .nx m' S' ∧ I 0 m' S' := while_dec I h0 hs n turns m S h hn
theorem getC_ref {S : Store} {n : Nat} {ds : List R} {i : Int} {d : R} (h : S[n]? = some (.lst ds)) (h2 : atI ds i = some d) : getC (.ref n) (.v (.int i)) S = some d := by
  unfold getC; simp only [h, h2]
theorem setC_ref {S : Store} {n : Nat} {ds : List R} {k : Int} {d : R} (h : S[n]? = some (.lst ds)) (h0 : 0 ≤ k) (h1 : k < ds.length) : setC (.ref n) (.v (.int k)) d S = some (S.set n (.lst (ds.set k.toNat d))) := by
  unfold setC; simp only [h, ixN_lt0 h0 h1]
@[simp] theorem mAugIx_eq (f o i : ME) (g : R → R → Store → Out R) (m : Env) (S : Store) : mAugIx f o i g m S = (o m S).thenS m fun x S1 => (i m S1).thenS m fun y S2 => match getC x y S2 with
  | some old => (f m S2).thenS m fun d S3 => (g old d S3).thenS m fun z S4 => match setC x y z S4 with
    | some S5 => .nx m S5
    | none => .no
  | none => .no := id rfl
end M
namespace Q
open PySem hiding Env
open L2 M
/-- a pot: digits, a number, how often it was drawn -/
structure Pot (b : Nat) where
  x : Int
  y : Int
  z : Int
  hx : 0 ≤ x
  hy : 0 ≤ y
  hyl : y < 2305843009213693951
  hz : 0 ≤ z
  hzb : z ≤ b
def Pot.c {b : Nat} (h : Pot b) : MO := .lst [.v (.int h.x), .v (.int h.y), .v (.int h.z)]
theorem Pot.lo {b : Nat} (h : Pot b) (k : Nat) : h.c.lo k := lo_lst [.int h.x, .int h.y, .int h.z] k
def Pot.up {b c : Nat} (h : Pot b) (hb : b ≤ c) : Pot c := ⟨h.x, h.y, h.z, h.hx, h.hy, h.hyl, h.hz, by have := h.hzb; omega⟩
theorem take_2_spec {b : Nat} {S : Store} {n : Nat} {h : Pot b} {k : Int} (e : S[n]? = some h.c) (hb : b ≤ 2 ^ 40) (h0 : 0 < k) (h1 : k < 2 ^ 62) : ∃ (r : Int) (h' : Pot (b + 1)), M_take_2 [.ref n, .v (.int k)] S = .ok (.v (.int r)) (S.set n h'.c) ∧ 0 ≤ r ∧ r < k := by
  have hk : k.natAbs < dvLine := dv64 (Nat.lt_of_lt_of_le (nab (k := 62) (by omega) h1) (by decide))
  obtain ⟨x, y, z, hx, hy, hyl, hz, hzb⟩ := h
  have e : S[n]? = some (.lst [.v (.int x), .v (.int y), .v (.int z)]) := e
  by_cases hp : 0 < x
  · refine ⟨x % k, ⟨x / k, y, z, Int.ediv_nonneg hx (by omega), hy, hyl, hz, by omega⟩, ?_, Int.emod_nonneg _ (by omega), Int.emod_lt_of_pos _ h0⟩
    refine mDefV_rtU (T := S.set n (.lst [.v (.int (x / k)), .v (.int y), .v (.int z)])) ?_ (upd_set n (lo_lst [.int (x / k), .int y, .int z] _))
    simp [m_take_2, opIx_ref e, hp, opMod_int h0, opFdiv_int h0 hk, setIx_ref e]
  · generalize hq : (y * 69069 + 9973 * (z + 1) + 5) % 2305843009213693921 = w
    have hw : 0 ≤ w ∧ w < 2305843009213693921 := by rw [← hq]; exact ⟨Int.emod_nonneg _ (by decide), Int.emod_lt_of_pos _ (by decide)⟩
    have hw2 : 0 ≤ w % 999983 ∧ w % 999983 < 999983 := ⟨Int.emod_nonneg _ (by decide), Int.emod_lt_of_pos _ (by decide)⟩
    generalize hr : w * (w % 999983 + 2 * (z + 1) + 3) % 2305843009213693907 = v
    have hv : 0 ≤ v ∧ v < 2305843009213693907 := by rw [← hr]; exact ⟨Int.emod_nonneg _ (by decide), Int.emod_lt_of_pos _ (by decide)⟩
    have hzb' : z ≤ 2 ^ 40 := by omega
    refine ⟨v / 65537 % k, ⟨x, v, z + 1, hx, hv.1, by omega, by omega, by omega⟩, ?_, Int.emod_nonneg _ (by omega), Int.emod_lt_of_pos _ h0⟩
    refine mDefV_rtU (T := S.set n (.lst [.v (.int x), .v (.int v), .v (.int (z + 1))])) ?_ (upd_set n (lo_lst [.int x, .int v, .int (z + 1)] _))
    have sy : y.natAbs < smLine := sm64 (by omega)
    have s1 : (69069 : Int).natAbs < smLine := sm64 (by decide)
    have s2 : (9973 : Int).natAbs < smLine := sm64 (by decide)
    have s3 : (z + 1).natAbs < smLine := sm64 (by omega)
    have s4 : w.natAbs < smLine := sm64 (by omega)
    have s5 : (2 : Int).natAbs < smLine := sm64 (by decide)
    have s6 : (w % 999983 + 2 * (z + 1) + 3).natAbs < smLine := sm64 (by omega)
    have d1 : (65537 : Int).natAbs < dvLine := dv64 (by decide)
    have g0 : opIx (.ref n) (.v (.int 0)) S = .ok (.v (.int x)) S := opIx_ref e rfl
    have f1 : getC (.ref n) (.v (.int 2)) S = some (.v (.int z)) := getC_ref e rfl
    have f2 : setC (.ref n) (.v (.int 2)) (.v (.int (z + 1))) S = some (S.set n (.lst [.v (.int x), .v (.int y), .v (.int (z + 1))])) := by rw [setC_ref e (by decide) (by simp)]; rfl
    have e1 : (S.set n (.lst [.v (.int x), .v (.int y), .v (.int (z + 1))]))[n]? = some (.lst [.v (.int x), .v (.int y), .v (.int (z + 1))]) := get_set e _
    have g1 : opIx (.ref n) (.v (.int 1)) (S.set n (.lst [.v (.int x), .v (.int y), .v (.int (z + 1))])) = .ok (.v (.int y)) (S.set n (.lst [.v (.int x), .v (.int y), .v (.int (z + 1))])) := opIx_ref e1 rfl
    have g2 : opIx (.ref n) (.v (.int 2)) (S.set n (.lst [.v (.int x), .v (.int y), .v (.int (z + 1))])) = .ok (.v (.int (z + 1))) (S.set n (.lst [.v (.int x), .v (.int y), .v (.int (z + 1))])) := opIx_ref e1 rfl
    have f3 : setIx (.ref n) (.v (.int 1)) (.v (.int v)) (S.set n (.lst [.v (.int x), .v (.int y), .v (.int (z + 1))])) = some (S.set n (.lst [.v (.int x), .v (.int v), .v (.int (z + 1))])) := by rw [setIx_ref e1 (by decide) (by simp), List.set_set]; rfl
    have e2 : (S.set n (.lst [.v (.int x), .v (.int v), .v (.int (z + 1))]))[n]? = some (.lst [.v (.int x), .v (.int v), .v (.int (z + 1))]) := get_set e _
    have g3 : opIx (.ref n) (.v (.int 1)) (S.set n (.lst [.v (.int x), .v (.int v), .v (.int (z + 1))])) = .ok (.v (.int v)) (S.set n (.lst [.v (.int x), .v (.int v), .v (.int (z + 1))])) := opIx_ref e2 rfl
    have hpf : decide (0 < x) = false := decide_eq_false hp
    simp only [m_take_2, List.map_cons, List.map_nil, List.length_cons, List.length_nil, List.replicate, List.cons_append, List.nil_append, Nat.reduceAdd, Nat.reduceSub, mSeq_eq, mIfS_eq, mtB_eq, mBin_eq, mVar_eq, mC_eq, List.getElem?_cons_zero, List.getElem?_cons_succ, Out.bind_ok, g0, opCmpI_int, onBl_bl, hpf, thenS_ok, mSkip_eq, mAugIx_eq, f1, opIadd_int, f2, mSet_eq, g1, opMul_int sy s1, g2, opMul_int s2 s3, opAdd_int, opMod_int (show (0 : Int) < 2305843009213693921 by decide), hq, List.set_cons_succ, List.set_cons_zero, mSetIx_eq, opMod_int (show (0 : Int) < 999983 by decide), opMul_int s5 s3, opMul_int s4 s6, opMod_int (show (0 : Int) < 2305843009213693907 by decide), hr, f3, mRet_eq, g3, opFdiv_int (show (0 : Int) < 65537 by decide) d1, opMod_int h0]
theorem pick_2_spec {b : Nat} {S : Store} {n i : Nat} {h : Pot b} {m : Env} {r : MA} {ds : List D} {k : Int} (e : S[n]? = some h.c) (hb : b ≤ 2 ^ 40) (hr : mLstV r m S = .ok (.v (.lst ds)) S) (hm : m[i]? = some (some (.ref n))) (hk : k = ds.length) (h0 : 0 < k) (h1 : k < 2 ^ 62) :
    ∃ (d : D) (h' : Pot (b + 1)), mBin opIx (mLstV r) (mCall M_take_2 (mCons (mVar i) (mCons (mC (.v (.int k))) mNil))) m S = .ok (.v d) (S.set n h'.c) ∧ d ∈ ds := by
  obtain ⟨x, h', e1, h2, h3⟩ := take_2_spec e hb h0 h1
  obtain ⟨d, hd, hmem⟩ := atI_some (xs := ds) h2 (by omega)
  refine ⟨d, h', ?_, hmem⟩
  rw [mBin_eq, hr]
  simp [hm, e1, opIx_lst hd]
theorem pot_spec {S : Store} {ns : List Int} {k : Int} (h0 : 0 ≤ k) (h1 : k < 2 ^ 20) : ∃ h : Pot 0, M_pot [.v (.kl (ns.map D.int)), .v (.int k)] S = .ok (.ref S.length) (S ++ [h.c]) := by
  have p60 : opPow (.v (.int 10)) (.v (.int 60)) S = .ok (.v (.int (10 ^ 60))) S := by
    simp only [opPow, onII_int]
    rw [if_pos (by decide)]
    rfl
  have p18 : opPow (.v (.int 10)) (.v (.int 18)) S = .ok (.v (.int (10 ^ 18))) S := by
    simp only [opPow, onII_int]
    rw [if_pos (by decide)]
    rfl
  have q1 : opMul (.v (.int (10 ^ 60))) (.v (.int (10 ^ 60))) S = .ok (.v (.int (10 ^ 60 * 10 ^ 60))) S := opMul_int (sm_lt 400 (by decide) (by decide)) (sm_lt 400 (by decide) (by decide))
  have pos : (0 : Int) < 10 ^ 60 * 10 ^ 60 := by decide
  generalize hP : (10 ^ 60 * 10 ^ 60 : Int) = P at q1 pos
  have hPs : P < 2 ^ 1000 := by rw [← hP]; decide
  have cell : ∃ c : Int, 0 ≤ c ∧ mSeq (mSet 2 (mC (.v (.int 0)))) (mIfS (mtB (mBin opLt (mVar 1) (mCall biLen (mCons (mVar 0) mNil)))) (mSet 2 (mCall biAbs (mCons (mBin opIx (mVar 0) (mVar 1)) mNil))) mSkip) [some (.v (.kl (ns.map D.int))), some (.v (.int k)), none, none] S = .nx [some (.v (.kl (ns.map D.int))), some (.v (.int k)), some (.v (.int c)), none] S := by
    by_cases hl : k < ((ns.map D.int).length : Int)
    · obtain ⟨d, hd, hm⟩ := atI_some (xs := ns.map D.int) h0 hl
      obtain ⟨c, _, rfl⟩ := List.mem_map.mp hm
      refine ⟨if c < 0 then -c else c, by split <;> omega, ?_⟩
      simp only [mSeq_eq, mSet_eq, mC_eq, thenS_ok, List.set_cons_succ, List.set_cons_zero, mIfS_eq, mtB_eq, mBin_eq, mVar_eq, List.getElem?_cons_zero, List.getElem?_cons_succ, Out.bind_ok, mCall_eq, mCons_eq, mNil_eq, biLen_kl, opCmpI_int, onBl_bl, decide_eq_true hl, opIx_kl hd, biAbs_int]
    · refine ⟨0, Int.le_refl _, ?_⟩
      simp only [mSeq_eq, mSet_eq, mC_eq, thenS_ok, List.set_cons_succ, List.set_cons_zero, mIfS_eq, mtB_eq, mBin_eq, mVar_eq, List.getElem?_cons_zero, List.getElem?_cons_succ, Out.bind_ok, mCall_eq, mCons_eq, mNil_eq, biLen_kl, opCmpI_int, onBl_bl, decide_eq_false hl, mSkip_eq]
  obtain ⟨c, hc, e1⟩ := cell
  have hx : 0 ≤ c % P ∧ c % P < P := ⟨Int.emod_nonneg _ (by omega), Int.emod_lt_of_pos _ pos⟩
  have s1 : (c % P).natAbs < smLine := sm_lt 1000 (nab hx.1 (Int.lt_trans hx.2 hPs)) (by decide)
  have hb : ∀ b : Bool, (0 : Int) ≤ (if b = true then (1 : Int) else 0) ∧ (if b = true then (1 : Int) else 0) ≤ 1 := fun b => by cases b <;> decide
  have s2 : ∀ b : Bool, (if b = true then (1 : Int) else 0).natAbs < smLine := fun b => sm64 (by cases b <;> decide)
  have m1 : (104729 : Int).natAbs < smLine ∧ k.natAbs < smLine := ⟨sm64 (by decide), sm64 (by omega)⟩
  refine ⟨⟨c % P * (if decide (10 ^ 18 ≤ c) = true then 1 else 0), (c + 104729 * k + 7) % 2305843009213693951, 0, Int.mul_nonneg hx.1 (hb _).1, Int.emod_nonneg _ (by decide), Int.emod_lt_of_pos _ (by decide), Int.le_refl _, Int.le_refl _⟩, mDef_rt ?_⟩
  rw [show ([R.v (D.kl (ns.map D.int)), .v (.int k)].map some ++ List.replicate (4 - [R.v (D.kl (ns.map D.int)), .v (.int k)].length) none) = [some (.v (.kl (ns.map D.int))), some (.v (.int k)), none, none] from rfl]
  have assoc : ∀ (f g h : MS) (m : Env) (S : Store), mSeq f (mSeq g h) m S = mSeq (mSeq f g) h m S := fun f g h m S => by
    simp only [mSeq_eq]
    cases f m S <;> rfl
  unfold m_pot
  rw [assoc, mSeq_nx e1]
  simp only [mSeq_eq, mSet_eq, mBin_eq, mC_eq, mCall_eq, mCons_eq, mNil_eq, mVar_eq, List.getElem?_cons_succ, List.getElem?_cons_zero, Out.bind_ok, thenS_ok, p60, q1, hP, opMod_int pos, p18, opCmpI_int, biInt_bl, opMul_int s1 (s2 _), List.set_cons_succ, List.set_cons_zero, mRet_eq, mLst_eq, opMul_int m1.1 m1.2, opAdd_int, opMod_int (show (0 : Int) < 2305843009213693951 by decide), List.length_cons, List.length_nil]
  rw [if_pos (by simp)]
  rfl
def begs2 : List Str := ["", "k"]
def ends2 : List Str := ["", "q", "zz", "abcdef"]
theorem begs2_ok : ∀ b ∈ begs2, b.length ≤ 1 ∧ ∀ c ∈ b.cps.toList, 97 ≤ c ∧ c ≤ 122 := by decide +kernel
theorem ends2_ok : ∀ b ∈ ends2, b.length ≤ 6 ∧ ∀ c ∈ b.cps.toList, 97 ≤ c ∧ c ≤ 122 := by decide +kernel
theorem wordAt_good2 {b e : Str} {f st : Int} {j : Nat} (hb : b ∈ begs2) (he : e ∈ ends2) : GoodW (wordAt b f st j e) := by
  obtain ⟨h1, h2⟩ := begs2_ok b hb
  obtain ⟨h3, h4⟩ := ends2_ok e he
  have hm : 0 ≤ (f + st * (j : Int)) % 26 ∧ (f + st * (j : Int)) % 26 < 26 := ⟨Int.emod_nonneg _ (by decide), Int.emod_lt_of_pos _ (by decide)⟩
  refine ⟨?_, ?_, ?_⟩
  · unfold wordAt; rw [str_len_append, str_len_append, str_len ⟨#[_]⟩]; simp; omega
  · unfold wordAt; rw [str_len_append, str_len_append, str_len ⟨#[_]⟩]; simp; omega
  · unfold wordAt
    intro c hc
    rw [cps_app, cps_app] at hc
    simp only [List.mem_append, List.mem_cons, List.not_mem_nil, or_false] at hc
    rcases hc with (hc | hc) | hc
    · exact h2 c hc
    · subst hc; omega
    · exact h4 c hc
theorem tree_spec {b0 : Nat} {S : Store} {n : Nat} {h : Pot b0} {ts : List T} (e : S[n]? = some h.c) (hne : ts ≠ []) (hz : ts.length ≤ 1000) (hb0 : b0 + 3 * ts.length ≤ 2 ^ 40) : ∃ (h' : Pot (b0 + 3 * ts.length)) (t : T), M_tree [.ref n, .v (.lst (ts.map T.d))] S = .ok (.v t.d) (S.set n h'.c) ∧ t.ls.Perm (ts.flatMap T.ls) := by
  have hp : 0 < ts.length := List.length_pos_iff.mpr hne
  have hn := lt_of_get e
  obtain ⟨st, g1, e1, s0, s1⟩ := take_2_spec (k := 4) (get_old e [.lst ((ts.map T.d).map .v)]) (by omega) (by decide) (by decide)
  rw [set_old e] at e1
  let m0 : Option R → Option R → Env := fun w1 w2 => [some (.ref n), some (.v (.lst (ts.map T.d))), some (.ref S.length), some (.v (.int st)), w1, w2]
  obtain ⟨m', S', eL, g', us, hS', ⟨w1, w2, hm'⟩, ⟨hlen, _⟩, hls⟩ := while_dec' (t := mtB (mBin opGt (mCall biLen (mCons (mVar 2) mNil)) (mC (.v (.int 1))))) (body := b1_tree M_take_2)
    (fun j m X => ∃ (g : Pot (b0 + 3 * (ts.length - j))) (us : List T), X = S.set n g.c ++ [.lst ((us.map T.d).map .v)] ∧ (∃ w1 w2, m = m0 w1 w2) ∧ (us.length = j + 1 ∧ j < ts.length) ∧ (us.flatMap T.ls).Perm (ts.flatMap T.ls))
    (ts.length - 1) (m := m0 none none) (S := S.set n g1.c ++ [.lst ((ts.map T.d).map .v)])
    ⟨g1.up (by omega), ts, rfl, ⟨none, none, rfl⟩, ⟨by omega, by omega⟩, .refl _⟩ (by omega)
    (by
      rintro m X ⟨g, us, rfl, ⟨w1, w2, rfl⟩, ⟨hl, _⟩, _⟩
      have g6 := get_atL (show (S.set n g.c).length = S.length by simp) (.lst ((us.map T.d).map R.v)) []
      simp only [mtB_eq, mBin_eq, mCall_eq, mCons_eq, mVar_eq, mNil_eq, mC_eq, m0, List.getElem?_cons_succ, List.getElem?_cons_zero, Out.bind_ok, biLen_ref g6, opCmpI_int, onBl_bl, List.length_map, hl]
      rfl)
    (by
      rintro j m X ⟨g, us, rfl, ⟨w1, w2, rfl⟩, ⟨hl, hj⟩, hf⟩
      have hS : ∀ {b : Nat} (g : Pot b), (S.set n g.c).length = S.length := fun g => by simp
      have eg := get_old (get_set e g.c) [.lst ((us.map T.d).map .v)]
      have g6 := get_atL (hS g) (.lst ((us.map T.d).map R.v)) []
      refine ⟨?_, ?_⟩
      · simp only [mtB_eq, mBin_eq, mCall_eq, mCons_eq, mVar_eq, mNil_eq, mC_eq, m0, List.getElem?_cons_succ, List.getElem?_cons_zero, Out.bind_ok, biLen_ref g6, opCmpI_int, onBl_bl, List.length_map, hl]
        rw [decide_eq_true (by omega)]
      obtain ⟨r1, g3, e3, a0, a1⟩ := take_2_spec (k := (us.length : Int) - 1) eg (by omega) (by omega) (by omega)
      rw [set_old (get_set e g.c), List.set_set] at e3
      obtain ⟨ad, had, hmem⟩ := atI_some (xs := [D.int r1, .int ((us.length : Int) - 2), .int 0, .int 0]) (i := st) s0 (by simpa using s1)
      obtain ⟨a, rfl, ha0, ha1⟩ : ∃ a : Int, ad = .int a ∧ 0 ≤ a ∧ a ≤ (us.length : Int) - 2 := by
        simp only [List.mem_cons, List.not_mem_nil, or_false] at hmem
        rcases hmem with rfl | rfl | rfl | rfl
        · exact ⟨_, rfl, by omega, by omega⟩
        · exact ⟨_, rfl, by omega, by omega⟩
        · exact ⟨_, rfl, by omega, by omega⟩
        · exact ⟨_, rfl, by omega, by omega⟩
      obtain ⟨lt, rt, c1, c2, c3⟩ := cut2 (us := us) (a := a.toNat) (by omega)
      have i1 : atI ((us.map T.d).map R.v) a = some (.v lt.d) := by rw [atI_map, atI_map, atI_lt ha0, c1]; rfl
      have i2 : atI ((us.map T.d).map R.v) (a + 1) = some (.v rt.d) := by rw [atI_map, atI_map, atI_lt (by omega), show (a + 1).toNat = a.toNat + 1 by omega, c2]; rfl
      -- the pair
      have pair : ∃ (g4 : Pot (b0 + 3 * (ts.length - (j + 1)) + 2)) (p : T), mSeq (mSet 5 (mTup (mCons (mBin opIx (mVar 2) (mVar 4)) (mCons (mBin opIx (mVar 2) (mBin opAdd (mVar 4) (mC (.v (.int 1))))) mNil))))
          (mIfS (mtAnd (mtB (mBin opEq (mVar 3) (mC (.v (.int 3))))) (mtB (mBin opEq (mCall M_take_2 (mCons (mVar 0) (mCons (mC (.v (.int 2))) mNil))) (mC (.v (.int 0)))))) (mSet 5 (mTup (mCons (mBin opIx (mVar 2) (mBin opAdd (mVar 4) (mC (.v (.int 1))))) (mCons (mBin opIx (mVar 2) (mVar 4)) mNil)))) mSkip)
          [some (.ref n), some (.v (.lst (ts.map T.d))), some (.ref S.length), some (.v (.int st)), some (.v (.int a)), w2] (S.set n g3.c ++ [.lst ((us.map T.d).map .v)]) =
          .nx [some (.ref n), some (.v (.lst (ts.map T.d))), some (.ref S.length), some (.v (.int st)), some (.v (.int a)), some (.v p.d)] (S.set n g4.c ++ [.lst ((us.map T.d).map .v)]) ∧ p.ls.Perm (lt.ls ++ rt.ls) := by
        have g5 := get_atL (hS g3) (.lst ((us.map T.d).map R.v)) []
        by_cases h3 : (st == 3) = true
        · obtain ⟨r2, g4, e4, b0', b1'⟩ := take_2_spec (k := 2) (get_old (get_set e g3.c) [.lst ((us.map T.d).map .v)]) (by omega) (by decide) (by decide)
          rw [set_old (get_set e g3.c), List.set_set] at e4
          have g7 := get_atL (hS g4) (.lst ((us.map T.d).map R.v)) []
          by_cases hc : (r2 == 0) = true
          · refine ⟨g4, .node rt lt, ?_, List.perm_append_comm⟩
            simp only [mSeq_eq, mSet_eq, mTup_eq, mCons_eq, mBin_eq, mVar_eq, mC_eq, mNil_eq, mCall_eq, List.getElem?_cons_succ, List.getElem?_cons_zero, Out.bind_ok, opIx_ref g5 i1, opIx_ref g5 i2, opAdd_int, frzO_2, List.length_cons, List.length_nil, Nat.zero_add, Nat.reduceAdd, sz2, if_true, thenS_ok, List.set_cons_succ, List.set_cons_zero, mIfS_eq, mtAnd_eq, mtB_eq, opEq_int, onBl_bl, h3, e4, hc, opIx_ref g7 i1, opIx_ref g7 i2, T.d]
          · have hc : (r2 == 0) = false := by simpa using hc
            refine ⟨g4, .node lt rt, ?_, .refl _⟩
            simp only [mSeq_eq, mSet_eq, mTup_eq, mCons_eq, mBin_eq, mVar_eq, mC_eq, mNil_eq, mCall_eq, List.getElem?_cons_succ, List.getElem?_cons_zero, Out.bind_ok, opIx_ref g5 i1, opIx_ref g5 i2, opAdd_int, frzO_2, List.length_cons, List.length_nil, Nat.zero_add, Nat.reduceAdd, sz2, if_true, thenS_ok, List.set_cons_succ, List.set_cons_zero, mIfS_eq, mtAnd_eq, mtB_eq, opEq_int, onBl_bl, h3, e4, hc, mSkip_eq, T.d]
        · have h3 : (st == 3) = false := by simpa using h3
          refine ⟨g3.up (by omega), .node lt rt, ?_, .refl _⟩
          simp only [mSeq_eq, mSet_eq, mTup_eq, mCons_eq, mBin_eq, mVar_eq, mC_eq, mNil_eq, mCall_eq, List.getElem?_cons_succ, List.getElem?_cons_zero, Out.bind_ok, opIx_ref g5 i1, opIx_ref g5 i2, opAdd_int, frzO_2, List.length_cons, List.length_nil, Nat.zero_add, Nat.reduceAdd, sz2, if_true, thenS_ok, List.set_cons_succ, List.set_cons_zero, mIfS_eq, mtAnd_eq, mtB_eq, opEq_int, onBl_bl, h3, mSkip_eq, T.d]
          rfl
      obtain ⟨g4, p, e4, hpp⟩ := pair
      have g8 := get_atL (hS g4) (.lst ((us.map T.d).map R.v)) []
      have hsz : (((us.map T.d).map R.v).length : Nat) + 1 ≤ sizeLine := sz_of (by simp; omega)
      have fin : (S.set n g4.c ++ [MO.lst ((us.map T.d).map R.v)]).set S.length (.lst (((us.map T.d).map R.v).take a.toNat ++ [R.v p.d] ++ ((us.map T.d).map R.v).drop (a + 2).toNat)) = S.set n g4.c ++ [.lst (((us.take a.toNat ++ p :: us.drop (a.toNat + 2)).map T.d).map .v)] := by
        rw [set_atL (hS g4), show (a + 2).toNat = a.toNat + 2 by omega]
        simp [List.map_take, List.map_drop]
      refine ⟨m0 (some (.v (.int a))) (some (.v p.d)), S.set n g4.c ++ [.lst (((us.take a.toNat ++ p :: us.drop (a.toNat + 2)).map T.d).map .v)], ?_, g4.up (by omega), us.take a.toNat ++ p :: us.drop (a.toNat + 2), rfl, ⟨_, _, rfl⟩, ⟨?_, by omega⟩, ?_⟩
      · have assoc : ∀ (f g h : MS) (m : Env) (S : Store), mSeq f (mSeq g h) m S = mSeq (mSeq f g) h m S := fun f g h m S => by
          simp only [mSeq_eq]
          cases f m S <;> rfl
        unfold b1_tree
        rw [mSeq_nx (m' := [some (.ref n), some (.v (.lst (ts.map T.d))), some (.ref S.length), some (.v (.int st)), some (.v (.int a)), w2]) (S' := S.set n g3.c ++ [.lst ((us.map T.d).map .v)]) (by
          simp only [m0, mSet_eq, mBin_eq, mCall_eq, mCons_eq, mVar_eq, mNil_eq, mC_eq, List.set_cons_succ, List.set_cons_zero, List.getElem?_cons_succ, List.getElem?_cons_zero, Out.bind_ok, biLen_ref g6, biLen_ref (get_atL (hS g3) (.lst ((us.map T.d).map R.v)) []), opSub_int, thenS_ok, mLstV_eq, List.length_map, e3, frzO_4, List.length_cons, List.length_nil, Nat.zero_add, Nat.reduceAdd, sz4, if_true, opIx_lst had])]
        rw [assoc, mSeq_nx e4]
        unfold mSetSl
        simp only [mLstV_eq, mCons_eq, mBin_eq, mVar_eq, mC_eq, mNil_eq, List.getElem?_cons_succ, List.getElem?_cons_zero, Out.bind_ok, opAdd_int, frzO_1, List.length_cons, List.length_nil, Nat.zero_add, Nat.reduceAdd, sz1, if_true, thenS_ok, moS_eq, g8, lstOf, List.map_cons, List.map_nil]
        rw [if_pos ⟨rfl, by simp, ha0, by omega, by simp; omega, by simpa using hsz⟩, fin]
      · have q := congrArg List.length c3
        simp only [List.length_append, List.length_cons] at q ⊢
        omega
      · refine List.Perm.trans ?_ hf
        conv => rhs; rw [c3]
        simp only [List.flatMap_append, List.flatMap_cons]
        refine List.Perm.append_left _ ?_
        rw [← List.append_assoc]
        exact List.Perm.append_right _ hpp)
  subst hS' hm'
  obtain ⟨t, rfl⟩ : ∃ t, us = [t] := by
    match us, hlen with
    | [t], _ => exact ⟨t, rfl⟩
    | [], h => simp at h
    | _ :: _ :: _, h => simp at h
  have g5 := get_atL (show (S.set n g'.c).length = S.length by simp) (.lst ([R.v t.d])) []
  refine ⟨g'.up (by omega), t, mDefV_rtG [.lst [.v t.d]] ?_ (upd_set n (g'.lo _)), by simpa using hls⟩
  have bl : biList [.v (.lst (ts.map T.d))] S = .ok (.ref S.length) (S ++ [.lst ((ts.map T.d).map .v)]) := biList_lst _
  have eL' : mWhile (mtB (mBin opGt (mCall biLen (mCons (mVar 2) mNil)) (mC (.v (.int 1))))) (b1_tree M_take_2) [some (.ref n), some (.v (.lst (ts.map T.d))), some (.ref S.length), some (.v (.int st)), none, none] (S.set n g1.c ++ [.lst ((ts.map T.d).map .v)]) = _ := eL
  simp only [m_tree, List.map_cons, List.map_nil, List.length_cons, List.length_nil, List.replicate, List.cons_append, List.nil_append, Nat.reduceAdd, Nat.reduceSub, mSeq_eq, mSet_eq, mCall_eq, mCons_eq, mVar_eq, mNil_eq, mC_eq, List.getElem?_cons_succ, List.getElem?_cons_zero, Out.bind_ok, bl, thenS_ok, List.set_cons_succ, List.set_cons_zero, e1, eL', m0, mRet_eq, mBin_eq]
  rw [opIx_ref g5 (atI_0 _ _)]
  rfl
end Q
namespace Q
open PySem hiding Env
open L2 M
end Q
namespace M
open PySem PySem.Spec L2
open PyProof.Rows hiding St
def oD : Option Nat → D
  | none => .non
  | some p => .int (p : Int)
/-- above each node but the last: the number of its own -/
def T.ahdI : Nat → T → List (Option Nat)
  | _, .leaf _ => []
  | k, .node l r => T.ahdI k l ++ some (k + l.cnt + r.cnt) :: (T.ahdI (k + l.cnt) r ++ [some (k + l.cnt + r.cnt)])
theorem T.ahdI_len : ∀ (t : T) (k : Nat), (T.ahdI k t).length + 1 = t.cnt
  | .leaf w, k => rfl
  | .node l r, k => by
    have h1 := T.ahdI_len l k
    have h2 := T.ahdI_len r (k + l.cnt)
    simp only [T.ahdI, T.cnt, List.length_append, List.length_cons, List.length_nil]; omega
def T.ahead (t : T) : List (Option Nat) := T.ahdI 0 t ++ [none]
/-- from each node up to the last, those in up behind it -/
def T.lines : Nat → List Nat → T → List (List Nat)
  | k, up, .leaf _ => [k :: up]
  | k, up, .node l r => T.lines k ((k + l.cnt + r.cnt) :: up) l ++ T.lines (k + l.cnt) ((k + l.cnt + r.cnt) :: up) r ++ [(k + l.cnt + r.cnt) :: up]
theorem T.lines_len : ∀ (t : T) (k : Nat) (up : List Nat), (T.lines k up t).length = t.cnt
  | .leaf w, k, up => rfl
  | .node l r, k, up => by simp only [T.lines, List.length_append, T.lines_len l, T.lines_len r, T.cnt, List.length_cons, List.length_nil]
/-- the leaves' numbers -/
def T.lvs : Nat → T → List Nat
  | k, .leaf _ => [k]
  | k, .node l r => T.lvs k l ++ T.lvs (k + l.cnt) r
def T.blw : Nat → T → List (List Nat)
  | k, .leaf _ => [[k]]
  | k, .node l r => T.blw k l ++ T.blw (k + l.cnt) r ++ [T.lvs k l ++ T.lvs (k + l.cnt) r]
theorem T.blw_len : ∀ (t : T) (k : Nat), (T.blw k t).length = t.cnt
  | .leaf w, k => rfl
  | .node l r, k => by simp only [T.blw, List.length_append, T.blw_len l, T.blw_len r, T.cnt, List.length_cons, List.length_nil]
/-- which of two lists stands where, in two put together and one behind -/
theorem three {α : Type} {a b : List α} {c x : α} {i : Nat} (h : (a ++ b ++ [c])[i]? = some x) : (i < a.length ∧ a[i]? = some x) ∨ (∃ j, i = a.length + j ∧ j < b.length ∧ b[j]? = some x) ∨ (i = a.length + b.length ∧ x = c) := by
  by_cases h1 : i < a.length
  · rw [List.append_assoc, List.getElem?_append_left h1] at h
    exact .inl ⟨h1, h⟩
  · rw [List.append_assoc, List.getElem?_append_right (by omega)] at h
    by_cases h2 : i - a.length < b.length
    · rw [List.getElem?_append_left h2] at h
      exact .inr (.inl ⟨i - a.length, by omega, h2, h⟩)
    · rw [List.getElem?_append_right (by omega)] at h
      have h3 : i - a.length - b.length = 0 := by
        rcases Nat.eq_zero_or_pos (i - a.length - b.length) with z | z
        · exact z
        · rw [List.getElem?_eq_none (by simp; omega)] at h; cases h
      rw [h3] at h
      cases h
      exact .inr (.inr ⟨by omega, rfl⟩)
/-- each the next one's own -/
def Chn (A : List (Option Nat)) : List Nat → Prop
  | [] => False
  | [x] => A[x]? = some none
  | x :: y :: r => A[x]? = some (some y) ∧ Chn A (y :: r)
theorem mid {α : Type} {P Q : List α} {x : α} {n : Nat} (h : P.length = n) : (P ++ x :: Q)[n]? = some x := by subst h; simp
theorem T.chains : ∀ (t : T) (A P Q : List (Option Nat)) (up : List Nat), A = P ++ (T.ahdI P.length t ++ up.head? :: Q) → (up = [] ∨ Chn A up) → ∀ (j : Nat) (ln : List Nat), (T.lines P.length up t)[j]? = some ln → ln.head? = some (P.length + j) ∧ Chn A ln
  | .leaf w, A, P, Q, up, hA, hup, j, ln, h => by
    have : j = 0 ∧ ln = P.length :: up := by
      cases j with
      | zero => cases h; exact ⟨rfl, rfl⟩
      | succ j => simp [T.lines] at h
    obtain ⟨rfl, rfl⟩ := this
    refine ⟨rfl, ?_⟩
    have e : A[P.length]? = some up.head? := by rw [hA]; exact mid rfl
    cases up with
    | nil => exact e
    | cons y r => exact ⟨e, hup.resolve_left (by simp)⟩
  | .node l r, A, P, Q, up, hA, hup, j, ln, h => by
    have c1 := T.ahdI_len l P.length
    have c2 := T.ahdI_len r (P.length + l.cnt)
    have p1 := l.cnt_pos
    have p2 := r.cnt_pos
    let last := P.length + l.cnt + r.cnt
    simp only [T.ahdI] at hA
    have eA : A = P ++ (T.ahdI P.length l ++ some last :: (T.ahdI (P.length + l.cnt) r ++ some last :: up.head? :: Q)) := by rw [hA]; simp [last]
    have eA2 : A = (P ++ T.ahdI P.length l ++ [some last]) ++ (T.ahdI (P ++ T.ahdI P.length l ++ [some last]).length r ++ some last :: up.head? :: Q) := by
      rw [eA, show (P ++ T.ahdI P.length l ++ [some last]).length = P.length + l.cnt by simp; omega]
      simp
    have eA3 : A = (P ++ T.ahdI P.length l ++ [some last] ++ T.ahdI (P.length + l.cnt) r ++ [some last]) ++ up.head? :: Q := by rw [eA]; simp
    have el : A[last]? = some up.head? := by rw [eA3]; exact mid (by simp; omega)
    have hup2 : Chn A (last :: up) := by
      cases up with
      | nil => exact el
      | cons y r => exact ⟨el, hup.resolve_left (by simp)⟩
    have i1 := T.chains l A P (T.ahdI (P.length + l.cnt) r ++ some last :: up.head? :: Q) (last :: up) eA (.inr hup2)
    have i2 := T.chains r A (P ++ T.ahdI P.length l ++ [some last]) (up.head? :: Q) (last :: up) eA2 (.inr hup2)
    rw [show (P ++ T.ahdI P.length l ++ [some last]).length = P.length + l.cnt by simp; omega] at i2
    have L1 := T.lines_len l P.length (last :: up)
    have L2 := T.lines_len r (P.length + l.cnt) (last :: up)
    rcases three h with ⟨a1, a2⟩ | ⟨a, a1, a2, a3⟩ | ⟨a1, a2⟩
    · exact i1 j ln a2
    · have := i2 a ln a3
      refine ⟨?_, this.2⟩
      rw [this.1, a1, L1, Nat.add_assoc]
    · subst a2
      refine ⟨?_, hup2⟩
      rw [a1, L1, L2]
      simp only [List.head?_cons, last]
      congr 1
      omega
theorem T.line_of (t : T) {h : Nat} {ln : List Nat} (e : (T.lines 0 [] t)[h]? = some ln) : ln.head? = some h ∧ Chn t.ahead ln := by
  have := T.chains t t.ahead [] [] [] (by simp [T.ahead]) (.inl rfl) h ln e
  simpa using this
end M
namespace Q
open PySem hiding Env
open L2 M
noncomputable def b1_ahead_of : MS :=
  (mIfS (mtTru (mCall biIsi (mCons (mVar 4) (mCons (mC (.ty "tuple")) mNil)))) (mSeq (mSetIx (mVar 3) (mVar 2) (mBin opIx (mVar 4) (mC (.int 0))))
  (mSetIx (mVar 3) (mVar 2) (mBin opIx (mVar 4) (mC (.int 1))))) mSkip)
noncomputable def m_ahead_of (g_nodes : List R → Store → Out R) : MS :=
  (mSeq (mSet 1 (mCall g_nodes (mCons (mVar 0) mNil)))
  (mSeq (mSet 2 (mBin opMul (mLstV (mCons (mC .non) mNil)) (mCall biLen (mCons (mVar 1) mNil))))
  (mSeq (mFor (srcEnum (mCons (mVar 1) mNil)) (tgT [(tgN 3), (tgN 4)]) b1_ahead_of)
  (mRet (mCall biTuple (mCons (mVar 2) mNil))))))
noncomputable def M_ahead_of : List R → Store → Out R := mDefV 5 (m_ahead_of M_nodes)
noncomputable def b1_line_up : MS :=
  (mSeq (mDrop (mMeth "list" mtAppend (mVar 2) (mCons (mVar 1) mNil)))
  (mSet 1 (mBin opIx (mVar 0) (mVar 1))))
noncomputable def m_line_up : MS :=
  (mSeq (mSet 2 (mLst mNil))
  (mSeq (mWhile (mtB (mBin opIsNot (mVar 1) (mC .non))) b1_line_up)
  (mRet (mVar 2))))
noncomputable def M_line_up : List R → Store → Out R := mDefV 3 (m_line_up)
noncomputable def m_name_of : MS :=
  (mSeq (mIfS (mtTru (mCall biIsi (mCons (mVar 0) (mCons (mC (.ty "str")) mNil)))) (mRet (mVar 0)) mSkip)
  (mRet (mVar 1)))
noncomputable def M_name_of : List R → Store → Out R := mDefV 2 (m_name_of)
noncomputable def m_straight_under : MS :=
  (mSeq (mIfS (mtTru (mCall biIsi (mCons (mVar 0) (mCons (mC (.ty "str")) mNil)))) (mRet (mTup mNil)) mSkip)
  (mRet (mVar 0)))
noncomputable def M_straight_under : List R → Store → Out R := mDefV 1 (m_straight_under)
noncomputable def b1_ground (g_name_of : List R → Store → Out R) (g_straight_under : List R → Store → Out R) : MS :=
  (mSeq (mSetP 6 (mLc (srcRange1 (mCons (mCall biLen (mCons (mVar 2) mNil)) mNil)) [7] (tgN 7) (mtAnd (mtB (mBin opNotIn (mVar 7) (mBin opIx (mVar 2) (mVar 4)))) (mtB (mBin opNotIn (mVar 4) (mBin opIx (mVar 2) (mVar 7))))) (mVar 7)))
  (mDrop (mMeth "list" mtAppend (mVar 3) (mCons (mTup (mCons (mCall g_name_of (mCons (mVar 5) (mCons (mVar 4) mNil))) (mCons (mC (.int 0)) (mCons (mCall g_straight_under (mCons (mVar 5) mNil)) (mCons (mCall biTuple (mCons (mVar 6) mNil)) mNil))))) mNil))))
noncomputable def m_ground (g_ahead_of : List R → Store → Out R) (g_line_up : List R → Store → Out R) (g_nodes : List R → Store → Out R) (g_straight_under : List R → Store → Out R) (g_name_of : List R → Store → Out R) : MS :=
  (mSeq (mSet 1 (mCall g_ahead_of (mCons (mVar 0) mNil)))
  (mSeq (mSet 2 (mPop (mLc (srcRange1 (mCons (mCall biLen (mCons (mVar 1) mNil)) mNil)) [4] (tgN 4) mtYes (mCall g_line_up (mCons (mVar 1) (mCons (mVar 4) mNil))))))
  (mSeq (mSet 3 (mLst mNil))
  (mSeq (mFor (srcEnum (mCons (mCall g_nodes (mCons (mVar 0) mNil)) mNil)) (tgT [(tgN 4), (tgN 5)]) (b1_ground g_name_of g_straight_under))
  (mRet (mCall biTuple (mCons (mVar 3) mNil)))))))
noncomputable def M_ground : List R → Store → Out R := mDefV 8 (m_ground M_ahead_of M_line_up M_nodes M_straight_under M_name_of)
end Q
namespace M
open PySem PySem.Spec L2
open PyProof.Rows hiding St
/-- a for's turns over xs, none of which breaks -/
def Runs (t : TgM) (body : MS) (xs : List R) (m : Env) (S : Store) (m' : Env) (S' : Store) : Prop := ∀ ys, mForGo [] t body (xs ++ ys) m S = mForGo [] t body ys m' S'
theorem Runs.nil {t : TgM} {body : MS} {m : Env} {S : Store} : Runs t body [] m S m S := fun ys => rfl
theorem Runs.app {t : TgM} {body : MS} {xs ys : List R} {m m1 m2 : Env} {S S1 S2 : Store} (h1 : Runs t body xs m S m1 S1) (h2 : Runs t body ys m1 S1 m2 S2) : Runs t body (xs ++ ys) m S m2 S2 := fun zs => by
  rw [List.append_assoc, h1, h2]
theorem Runs.one {t : TgM} {body : MS} {d : R} {m m1 m2 : Env} {S S2 : Store} (h1 : t d m = some m1) (h2 : body m1 S = .nx m2 S2) : Runs t body [d] m S m2 S2 := fun zs => by
  rw [List.singleton_append]
  conv => lhs; unfold mForGo
  rw [if_pos (show pinsOk [] S from trivial), h1]
  simp only [h2]
theorem Runs.end {t : TgM} {body : MS} {xs : List R} {m m1 : Env} {S S1 : Store} (h : Runs t body xs m S m1 S1) : mForGo [] t body xs m S = .nx m1 S1 := by
  have := h []
  rw [List.append_nil] at this
  rw [this]
  unfold mForGo
  rw [if_pos (show pinsOk [] S1 from trivial)]
def enumF (k : Nat) (ds : List D) : List R := (ds.zipIdx k).map fun p => .v (.tup [.int (p.2 : Int), p.1])
theorem enumF_app (k : Nat) (xs ys : List D) : enumF k (xs ++ ys) = enumF k xs ++ enumF (k + xs.length) ys := by
  unfold enumF
  rw [List.zipIdx_append, List.map_append]
theorem enumF_one (k : Nat) (d : D) : enumF k [d] = [.v (.tup [.int (k : Int), d])] := rfl
theorem set_mid {α : Type} {P Q : List α} {x y : α} {n : Nat} (h : P.length = n) : (P ++ x :: Q).set n y = P ++ y :: Q := by
  subst h
  rw [List.set_append_right _ _ (Nat.le_refl _), Nat.sub_self]
  rfl
theorem any_ints (w : Int) : ∀ ws : List Int, ((ws.map PyData.int).any fun z => PyData.eqv z (.int w)) = decide (w ∈ ws)
  | [] => rfl
  | x :: ws => by
    rw [List.map_cons, List.any_cons, any_ints w ws]
    have : PyData.eqv (.int x) (.int w) = decide (x = w) := by
      rw [PyData.eqv]
      by_cases h : x = w
      · subst h; simp
      · simp [h]
    rw [this]
    by_cases h : x = w
    · subst h; simp
    · have h' : ¬ w = x := fun e => h e.symm
      simp [h, h', List.mem_cons]
theorem pyS_lints (ns : List Int) : D.pyS (.lst (ns.map D.int)) = some (.list (ns.map PyData.int)) := by
  have h := lay_ints ns
  unfold D.pyS
  rw [show D.py (.lst (ns.map D.int)) = some (.list (ns.map PyData.int)) by simp [D.py, pys_ints]]
  simp [SeqAt.shaped, PyData.canLay0, PyData.depth, h.1, h.2]
theorem pyS_tints (ns : List Int) : D.pyS (.tup (ns.map D.int)) = some (.tuple (ns.map PyData.int)) := by
  have h := lay_ints ns
  unfold D.pyS
  rw [show D.py (.tup (ns.map D.int)) = some (.tuple (ns.map PyData.int)) by simp [D.py, pys_ints]]
  simp [SeqAt.shaped, PyData.canLay0, PyData.depth, h.1, h.2]
theorem opIn_ints {S : Store} {w : Int} {ws : List Int} {e : D} (he : e = .lst (ws.map D.int) ∨ e = .tup (ws.map D.int)) :
    opIn (.v (.int w)) (.v e) S = .ok (.v (.bl (decide (w ∈ ws)))) S ∧ opNotIn (.v (.int w)) (.v e) S = .ok (.v (.bl (!decide (w ∈ ws)))) S := by
  have key : inM S (.v (.int w)) (.v e) = some (decide (w ∈ ws)) := by
    rcases he with rfl | rfl
    · simp only [inM, pyOf_v, pyS_int, pyS_lints, Option.bind_some, seqPy, any_ints]
    · simp only [inM, pyOf_v, pyS_int, pyS_tints, Option.bind_some, seqPy, any_ints]
  exact ⟨by unfold opIn; rw [key], by unfold opNotIn; rw [key]⟩
/-- numbers as data -/
def natD (n : Nat) : D := .int (n : Int)
theorem natD_ints (ns : List Nat) : ns.map natD = (ns.map fun n : Nat => (n : Int)).map D.int := by rw [List.map_map]; rfl
theorem opIn_nats {S : Store} {w : Nat} {ws : List Nat} {e : D} (he : e = .lst (ws.map natD) ∨ e = .tup (ws.map natD)) :
    opIn (.v (.int (w : Int))) (.v e) S = .ok (.v (.bl (decide (w ∈ ws)))) S ∧ opNotIn (.v (.int (w : Int))) (.v e) S = .ok (.v (.bl (!decide (w ∈ ws)))) S := by
  have := opIn_ints (S := S) (w := (w : Int)) (ws := ws.map fun n : Nat => (n : Int)) (e := e) (by rw [← natD_ints]; exact he)
  have e : decide ((w : Int) ∈ ws.map fun n : Nat => (n : Int)) = decide (w ∈ ws) := by
    apply Bool.eq_iff_iff.mpr
    simp only [decide_eq_true_eq, List.mem_map]
    constructor
    · rintro ⟨a, h, e⟩
      have : a = w := by omega
      rwa [this] at h
    · intro h
      exact ⟨w, h, rfl⟩
  rwa [e] at this
end M
namespace Q
open PySem hiding Env
open L2 M
theorem ahead_seg : ∀ (t : T) (P Q : List D) (S : Store) (a0 a1 w3 w4 : Option R), P.length + t.cnt + Q.length ≤ 10000000 →
    ∃ w3' w4', Runs (tgT [tgN 3, tgN 4]) b1_ahead_of (enumF P.length (T.nodesFrom P.length t)) [a0, a1, some (.ref S.length), w3, w4] (S ++ [.lst ((P ++ (List.replicate t.cnt D.non ++ Q)).map .v)])
      [a0, a1, some (.ref S.length), w3', w4'] (S ++ [.lst ((P ++ ((T.ahdI P.length t).map oD ++ .non :: Q)).map .v)])
  | .leaf w, P, Q, S, a0, a1, w3, w4, hz => by
    refine ⟨some (.v (.int (P.length : Int))), some (.v (.str w)), Runs.one (m1 := [a0, a1, some (.ref S.length), some (.v (.int (P.length : Int))), some (.v (.str w))]) rfl ?_⟩
    simp [b1_ahead_of, T.ahdI, T.cnt]
  | .node l r, P, Q, S, a0, a1, w3, w4, hz => by
    simp only [T.cnt] at hz
    have c1 := T.ahdI_len l P.length
    have c2 := T.ahdI_len r (P.length + l.cnt)
    have p1 := l.cnt_pos
    have p2 := r.cnt_pos
    obtain ⟨x3, x4, h1⟩ := ahead_seg l P (List.replicate r.cnt .non ++ .non :: Q) S a0 a1 w3 w4 (by simp; omega)
    have hL : (P ++ (T.ahdI P.length l).map oD ++ [D.non]).length = P.length + l.cnt := by simp; omega
    obtain ⟨y3, y4, h2⟩ := ahead_seg r (P ++ (T.ahdI P.length l).map oD ++ [.non]) (.non :: Q) S a0 a1 x3 x4 (by rw [hL]; simp; omega)
    rw [hL] at h2
    have e1 : P ++ (List.replicate (T.node l r).cnt D.non ++ Q) = P ++ (List.replicate l.cnt D.non ++ (List.replicate r.cnt .non ++ .non :: Q)) := by
      simp only [T.cnt]
      rw [← List.replicate_append_replicate, ← List.replicate_append_replicate, show List.replicate 1 D.non = [D.non] from rfl]
      simp only [List.append_assoc, List.cons_append, List.nil_append]
    have e2 : P ++ ((T.ahdI P.length l).map oD ++ D.non :: (List.replicate r.cnt .non ++ .non :: Q)) = P ++ (T.ahdI P.length l).map oD ++ [.non] ++ (List.replicate r.cnt .non ++ .non :: Q) := by simp
    rw [← e1] at h1
    rw [e2] at h1
    have h3 := h1.app h2
    let last : Nat := P.length + l.cnt + r.cnt
    let A : List D := P ++ (T.ahdI P.length l).map oD
    let B : List D := (T.ahdI (P.length + l.cnt) r).map oD
    have hA : A.length = P.length + l.cnt - 1 := by simp [A]; omega
    have hB : B.length + 1 = r.cnt := by simp [B]; omega
    have e3 : P ++ (T.ahdI P.length l).map oD ++ [D.non] ++ ((T.ahdI (P.length + l.cnt) r).map oD ++ .non :: .non :: Q) = A ++ .non :: (B ++ .non :: .non :: Q) := by simp [A, B]
    rw [e3] at h3
    have hS1 : (A ++ D.non :: (B ++ .non :: .non :: Q)).length ≤ 10000000 := by simp [hA]; omega
    have g1 := get_len S (.lst ((A ++ D.non :: (B ++ .non :: .non :: Q)).map R.v)) []
    have s1 : setIx (.ref S.length) (.v (.int ((P.length + l.cnt - 1 : Nat) : Int))) (.v (.int (last : Int))) (S ++ [.lst ((A ++ D.non :: (B ++ .non :: .non :: Q)).map .v)]) = some (S ++ [.lst ((A ++ D.int last :: (B ++ .non :: .non :: Q)).map .v)]) := by
      rw [setIx_ref g1 (by omega) (by simp [hA]; omega), set_len]
      congr 4
      rw [← List.map_set, show ((P.length + l.cnt - 1 : Nat) : Int).toNat = P.length + l.cnt - 1 by omega, set_mid hA]
    have g2 := get_len S (.lst ((A ++ D.int last :: (B ++ .non :: .non :: Q)).map R.v)) []
    have s2 : setIx (.ref S.length) (.v (.int ((P.length + l.cnt + r.cnt - 1 : Nat) : Int))) (.v (.int (last : Int))) (S ++ [.lst ((A ++ D.int last :: (B ++ .non :: .non :: Q)).map .v)]) = some (S ++ [.lst ((A ++ D.int last :: (B ++ .int last :: .non :: Q)).map .v)]) := by
      rw [setIx_ref g2 (by omega) (by simp [hA]; omega), set_len]
      congr 4
      rw [← List.map_set, show ((P.length + l.cnt + r.cnt - 1 : Nat) : Int).toNat = P.length + l.cnt + r.cnt - 1 by omega]
      congr 1
      rw [show A ++ D.int last :: (B ++ .non :: .non :: Q) = (A ++ D.int last :: B) ++ .non :: .non :: Q by simp, set_mid (by simp [hA]; omega)]
      simp
    have hroot := Runs.one (t := tgT [tgN 3, tgN 4]) (body := b1_ahead_of) (d := .v (.tup [.int (last : Int), .tup [.int ((P.length + l.cnt - 1 : Nat) : Int), .int ((P.length + l.cnt + r.cnt - 1 : Nat) : Int)]])) (m := [a0, a1, some (.ref S.length), y3, y4])
      (m1 := [a0, a1, some (.ref S.length), some (.v (.int (last : Int))), some (.v (.tup [.int ((P.length + l.cnt - 1 : Nat) : Int), .int ((P.length + l.cnt + r.cnt - 1 : Nat) : Int)]))])
      (m2 := [a0, a1, some (.ref S.length), some (.v (.int (last : Int))), some (.v (.tup [.int ((P.length + l.cnt - 1 : Nat) : Int), .int ((P.length + l.cnt + r.cnt - 1 : Nat) : Int)]))])
      (S := S ++ [.lst ((A ++ D.non :: (B ++ .non :: .non :: Q)).map .v)]) (S2 := S ++ [.lst ((A ++ D.int last :: (B ++ .int last :: .non :: Q)).map .v)]) rfl (by
        simp only [b1_ahead_of, mIfS_eq, mtTru_eq, mCall_eq, mCons_eq, mVar_eq, mC_eq, mNil_eq, List.getElem?_cons_succ, List.getElem?_cons_zero, Out.bind_ok, isi_tup_tup, truM_bl, thenS_ok, mSeq_eq, mSetIx_eq, mBin_eq, opIx_tup (atI_0 _ _), opIx_tup (atI_1 _ _ _), s1, s2])
    have h4 := h3.app hroot
    have e4 : enumF P.length (T.nodesFrom P.length l) ++ enumF (P.length + l.cnt) (T.nodesFrom (P.length + l.cnt) r) ++ [R.v (.tup [.int (last : Int), .tup [.int ((P.length + l.cnt - 1 : Nat) : Int), .int ((P.length + l.cnt + r.cnt - 1 : Nat) : Int)]])] = enumF P.length (T.nodesFrom P.length (.node l r)) := by
      simp only [T.nodesFrom]
      rw [enumF_app, enumF_app, List.length_append, T.nodesFrom_len, T.nodesFrom_len, enumF_one, ← Nat.add_assoc]
    have e5 : A ++ D.int last :: (B ++ .int last :: .non :: Q) = P ++ ((T.ahdI P.length (.node l r)).map oD ++ .non :: Q) := by simp [A, B, T.ahdI, oD, last]
    rw [e4, e5] at h4
    exact ⟨_, _, h4⟩
theorem ahead_of_spec {t : T} {S : Store} (hd : t.depth < 70) (hz : t.ls.length ≤ 100000) : M_ahead_of [.v t.d] S = .ok (.v (.tup (t.ahead.map oD))) S := by
  have e1 := nodes_spec (S := S) hd (by omega)
  have c := t.cnt_ls
  have hn := t.nodes_len
  obtain ⟨w3, w4, h⟩ := ahead_seg t [] [] S (some (.v t.d)) (some (.v (.tup t.nodes))) none none (by simp; omega)
  have h1 := h.end
  simp only [List.length_nil, List.nil_append, List.append_nil] at h1
  have ml : opMul (.v (.lst [D.non])) (.v (.int (t.cnt : Int))) S = .ok (.ref S.length) (S ++ [.lst ((List.replicate t.cnt D.non).map .v)]) := by
    unfold opMul
    simp only
    rw [if_pos ⟨by omega, by omega, sz_of (by simp; omega)⟩]
    congr 4
    unfold repR
    rw [show ((t.cnt : Nat) : Int).toNat = t.cnt by omega]
    rw [List.map_replicate]
    simp [List.flatten_replicate_singleton]
  have g := get_len S (.lst (((T.ahdI 0 t).map oD ++ [D.non]).map R.v)) []
  have hfin : t.ahead.map oD = (T.ahdI 0 t).map oD ++ [.non] := by simp [T.ahead, oD]
  rw [hfin]
  have h1' : mForGo [] (tgT [tgN 3, tgN 4]) b1_ahead_of (enumI t.nodes) [some (.v t.d), some (.v (.tup t.nodes)), some (.ref S.length), none, none] (S ++ [.lst ((List.replicate t.cnt D.non).map .v)]) = .nx [some (.v t.d), some (.v (.tup t.nodes)), some (.ref S.length), w3, w4] (S ++ [.lst (((T.ahdI 0 t).map oD ++ [D.non]).map R.v)]) := h1
  refine mDefV_rtG [.lst (((T.ahdI 0 t).map oD ++ [D.non]).map .v)] ?_ (.refl S)
  simp only [m_ahead_of, List.map_cons, List.map_nil, List.length_cons, List.length_nil, List.replicate, List.cons_append, List.nil_append, Nat.reduceAdd, Nat.reduceSub, mSeq_eq, mSet_eq, mCall_eq, mCons_eq, mVar_eq, mNil_eq, mC_eq, List.getElem?_cons_succ, List.getElem?_cons_zero, Out.bind_ok, e1, thenS_ok, List.set_cons_succ, List.set_cons_zero, mBin_eq, mLstV_eq, frzO_1, Nat.zero_add, sz1, if_true, biLen_tup, hn, ml, mFor_eq, srcEnum_eq, en1_tup, h1', mRet_eq, biTuple_ref g]
theorem line_up_spec {A : List (Option Nat)} {ln : List Nat} {S : Store} (h : Chn A ln) (hl : ln.length < 100000) : M_line_up [.v (.tup (A.map oD)), .v (natD (ln.headD 0))] S = .ok (.v (.lst (ln.map natD))) S := by
  let cur : List Nat → R := fun r => match r with
    | [] => .v .non
    | x :: _ => .v (natD x)
  obtain ⟨m', S', eL, dn, rest, hS, hm, hdr, hr, _⟩ := while_dec' (t := mtB (mBin opIsNot (mVar 1) (mC (.v .non)))) (body := b1_line_up)
    (fun j m X => ∃ (dn rest : List Nat), X = S ++ [.lst ((dn.map natD).map .v)] ∧ m = [some (.v (.tup (A.map oD))), some (cur rest), some (.ref S.length)] ∧ dn ++ rest = ln ∧ rest.length = j ∧ (rest = [] ∨ Chn A rest))
    ln.length (m := [some (.v (.tup (A.map oD))), some (cur ln), some (.ref S.length)]) (S := S ++ [.lst []]) ⟨[], ln, rfl, rfl, rfl, rfl, .inr h⟩ (by omega)
    (by
      rintro m X ⟨dn, rest, rfl, rfl, _, hr, _⟩
      have : rest = [] := List.eq_nil_of_length_eq_zero hr
      subst this
      rfl)
    (by
      rintro j m X ⟨dn, rest, rfl, rfl, hdr, hr, hc⟩
      match rest, hr with
      | x :: r, hr =>
        refine ⟨rfl, ?_⟩
        have hc : Chn A (x :: r) := hc.resolve_left (by simp)
        have gt := get_len S (.lst ((dn.map natD).map R.v)) []
        have dl : dn.length + (x :: r).length = ln.length := by rw [← hdr, List.length_append]
        have ap : mtAppend (.ref S.length) [.v (natD x)] (S ++ [.lst ((dn.map natD).map .v)]) = .ok (.v .non) (S ++ [.lst (((dn ++ [x]).map natD).map .v)]) := by
          rw [mtAppend_ref gt (sz_lt (by simp at dl ⊢; omega)), set_len]
          simp
        have nxt : opIx (.v (.tup (A.map oD))) (.v (.int (x : Int))) (S ++ [.lst (((dn ++ [x]).map natD).map .v)]) = .ok (cur r) (S ++ [.lst (((dn ++ [x]).map natD).map .v)]) := by
          cases r with
          | nil =>
            refine opIx_tup ?_
            have hc : A[x]? = some none := hc
            rw [atI_map, atI_lt (by omega), show ((x : Nat) : Int).toNat = x by omega, hc]
            rfl
          | cons y r =>
            refine opIx_tup ?_
            have hc : A[x]? = some (some y) := hc.1
            rw [atI_map, atI_lt (by omega), show ((x : Nat) : Int).toNat = x by omega, hc]
            rfl
        refine ⟨_, _, ?_, dn ++ [x], r, rfl, rfl, by rw [← hdr]; simp, by simpa using hr, ?_⟩
        · have hcur : cur (x :: r) = .v (.int (x : Int)) := rfl
          have ap' : mtAppend (.ref S.length) [.v (.int (x : Int))] (S ++ [.lst ((dn.map natD).map .v)]) = .ok (.v .non) (S ++ [.lst (((dn ++ [x]).map natD).map .v)]) := ap
          simp only [b1_line_up, hcur, mSeq_eq, mDrop_eq, mMeth_eq, mVar_eq, List.getElem?_cons_succ, List.getElem?_cons_zero, Out.bind_ok, tyOk_lst gt, if_true, mCons_eq, mNil_eq, ap', thenS_ok, mSet_eq, mBin_eq, nxt, List.set_cons_succ, List.set_cons_zero]
        · cases r with
          | nil => exact .inl rfl
          | cons y r => exact .inr hc.2)
  have : rest = [] := List.eq_nil_of_length_eq_zero hr
  subst this
  rw [List.append_nil] at hdr
  subst hS hm hdr
  have hh : cur dn = .v (natD (dn.headD 0)) := by
    cases dn with
    | nil => exact h.elim
    | cons x r => rfl
  rw [hh] at eL
  refine mDefV_rtL (n := S.length) (xs := dn.map natD) [.lst ((dn.map natD).map .v)] ?_ (get_len _ _ _) (Nat.le_refl _) (.refl S)
  simp only [m_line_up, List.map_cons, List.map_nil, List.length_cons, List.length_nil, List.replicate, List.cons_append, List.nil_append, Nat.reduceAdd, Nat.reduceSub, mSeq_eq, mSet_eq, mLst_eq, mNil_eq, Out.bind_ok, Nat.zero_le, sz0, if_true, thenS_ok, List.set_cons_succ, List.set_cons_zero, eL, mRet_eq, mVar_eq, List.getElem?_cons_succ, List.getElem?_cons_zero]
end Q
namespace M
open PySem PySem.Spec L2
open PyProof.Rows hiding St
def T.lns (t : T) : List (List Nat) := T.lines 0 [] t
def stayD (h : Nat) (d : D) (oth : List Nat) : D := .tup [if isStr d = true then d else natD h, .int 0, if isStr d = true then .tup [] else d, .tup (oth.map natD)]
/-- beside a house -/
def T.aside (t : T) (h : Nat) : List Nat := (List.range t.cnt).filter fun o => !decide (o ∈ t.lns.getD h []) && !decide (h ∈ t.lns.getD o [])
def T.ground (t : T) : List D := t.nodes.zipIdx.map fun p => stayD p.2 p.1 (t.aside p.2)
theorem T.lns_len (t : T) : t.lns.length = t.cnt := T.lines_len t 0 []
theorem range_getD {α : Type} (xs : List α) (z : α) : ((List.range xs.length).map fun i => xs.getD i z) = xs := by
  refine List.ext_getElem (by simp) fun i h1 h2 => ?_
  simp at h1
  simp [h1]
theorem T.notTy_nodes (t : T) (k : Nat) : ∀ x ∈ T.nodesFrom k t, notTy x = true := by
  induction t generalizing k with
  | leaf w => intro x hx; simp only [T.nodesFrom, List.mem_singleton] at hx; subst hx; rfl
  | node l r h1 h2 =>
    intro x hx
    simp only [T.nodesFrom, List.mem_append, List.mem_singleton] at hx
    rcases hx with (hx | hx) | rfl
    · exact h1 _ x hx
    · exact h2 _ x hx
    · rfl
end M
namespace Q
open PySem hiding Env
open L2 M
theorem name_of_spec {d x : D} (h : notTy d = true) (S : Store) : M_name_of [.v d, .v x] S = .ok (.v (if isStr d = true then d else x)) S := by
  refine mDefV_rt0 ?_
  have e := isi_str d h S
  cases hs : isStr d <;> simp [m_name_of, e, hs]
theorem straight_under_spec {d : D} (h : notTy d = true) (S : Store) : M_straight_under [.v d] S = .ok (.v (if isStr d = true then .tup [] else d)) S := by
  refine mDefV_rt0 ?_
  have e := isi_str d h S
  cases hs : isStr d <;> simp [m_straight_under, e, hs]
theorem line_get {t : T} {h : Nat} (hh : h < t.cnt) : ∃ ln, t.lns[h]? = some ln ∧ t.lns.getD h [] = ln ∧ ln.headD 0 = h ∧ Chn t.ahead ln ∧ ln.length ≤ t.cnt := by
  have hl := t.lns_len
  have e : t.lns[h]? = some (t.lns[h]'(by omega)) := List.getElem?_eq_getElem (by omega)
  obtain ⟨h1, h2⟩ := T.line_of t e
  refine ⟨_, e, by rw [List.getD_eq_getElem?_getD, e]; rfl, ?_, h2, ?_⟩
  · generalize t.lns[h] = ln at h1
    cases ln with
    | nil => cases h1
    | cons x r => simpa using h1
  · -- no node twice on a line
    have key : ∀ (u : T) (k : Nat) (up ln : List Nat), ln ∈ T.lines k up u → ln.length ≤ u.cnt + up.length := by
      intro u
      induction u with
      | leaf w => intro k up ln h; simp only [T.lines, List.mem_singleton] at h; subst h; simp [T.cnt]; omega
      | node l r h1 h2 =>
        intro k up ln h
        simp only [T.lines, List.mem_append, List.mem_singleton] at h
        simp only [T.cnt]
        rcases h with (h | h) | rfl
        · have := h1 _ _ ln h; simp only [List.length_cons] at this; omega
        · have := h2 _ _ ln h; simp only [List.length_cons] at this; omega
        · simp only [List.length_cons]; omega
    have := key t 0 [] _ (List.mem_of_getElem? e)
    simpa using this
theorem ground_spec {t : T} {S : Store} (hd : t.depth < 70) (hz : t.ls.length ≤ 10000) : M_ground [.v t.d] S = .ok (.v (.tup t.ground)) S := by
  have e1 := ahead_of_spec (S := S) hd (by omega)
  have c := t.cnt_ls
  have hn := t.nodes_len
  have hal : (t.ahead.map oD).length = t.cnt := by simp [T.ahead]; exact t.ahdI_len 0
  have hll := t.lns_len
  -- the lines
  have lc := lc_map (S := S) (t := tgN 4) (c := mtYes) (f := mCall M_line_up (mCons (mVar 1) (mCons (mVar 4) mNil))) (m := [some (.v t.d), some (.v (.tup (t.ahead.map oD))), none, none, none, none, none, none]) (fun k : Nat => .v (.int (0 + (k : Int)))) (fun _ => true) (fun k => .lst ((t.lns.getD k []).map natD)) (List.range t.cnt) (sz_of (by simp; omega)) (by
    intro k hk acc
    have hk : k < t.cnt := by simpa using hk
    obtain ⟨ln, _, e2, e3, e4, e5⟩ := line_get hk
    refine ⟨_, rfl, rfl, fun _ => ?_⟩
    have q := line_up_spec (A := t.ahead) (ln := ln) (S := S ++ [.lst acc]) e4 (by omega)
    rw [e3] at q
    rw [e2]
    simp only [mCall_eq, mCons_eq, mVar_eq, mNil_eq, List.set_cons_succ, List.set_cons_zero, List.getElem?_cons_succ, List.getElem?_cons_zero, Out.bind_ok, Int.zero_add]
    exact q)
  rw [List.filter_eq_self.mpr (by simp)] at lc
  have hLL : ((List.range t.cnt).map fun k => D.lst ((t.lns.getD k []).map natD)) = t.lns.map fun ln => D.lst (ln.map natD) := by
    conv => rhs; rw [← range_getD t.lns []]
    rw [List.map_map, hll]; rfl
  rw [hLL] at lc
  let LL : D := .lst (t.lns.map fun ln => D.lst (ln.map natD))
  have ixL : ∀ (k : Nat) (S : Store), k < t.cnt → opIx (.v LL) (.v (.int (k : Int))) S = .ok (.v (.lst ((t.lns.getD k []).map natD))) S := fun k S hk => opIx_lst (by
    obtain ⟨ln, e1, e2, _⟩ := line_get hk
    rw [atI_map, atI_lt (by omega), show ((k : Nat) : Int).toNat = k by omega, e1, e2]; rfl)
  -- the stays
  obtain ⟨m', S', eL, hS', w4, w5, w6, w7, hm'⟩ := for_inv (t := tgT [tgN 4, tgN 5]) (body := b1_ground M_name_of M_straight_under) (ds := enumI t.nodes) (m := [some (.v t.d), some (.v (.tup (t.ahead.map oD))), some (.v LL), some (.ref S.length), none, none, none, none]) (S := S ++ [.lst []])
    (fun i m X => X = S ++ [.lst ((t.ground.take i).map .v)] ∧ ∃ w4 w5 w6 w7, m = [some (.v t.d), some (.v (.tup (t.ahead.map oD))), some (.v LL), some (.ref S.length), w4, w5, w6, w7]) ⟨rfl, _, _, _, _, rfl⟩ (by
      rintro h d m X hdd ⟨rfl, w4, w5, w6, w7, rfl⟩
      rw [enumI_get] at hdd
      obtain ⟨nd, hnd, rfl⟩ := Option.map_eq_some_iff.mp hdd
      have hh : h < t.cnt := by rw [← hn]; exact (List.getElem?_eq_some_iff.mp hnd).1
      have nty : notTy nd = true := T.notTy_nodes t 0 nd (List.mem_of_getElem? hnd)
      have gt := get_len S (.lst ((t.ground.take h).map R.v)) []
      have lc2 := lc_map (S := S ++ [.lst ((t.ground.take h).map .v)]) (t := tgN 7) (c := mtAnd (mtB (mBin opNotIn (mVar 7) (mBin opIx (mVar 2) (mVar 4)))) (mtB (mBin opNotIn (mVar 4) (mBin opIx (mVar 2) (mVar 7))))) (f := mVar 7)
        (m := [some (.v t.d), some (.v (.tup (t.ahead.map oD))), some (.v LL), some (.ref S.length), some (.v (.int (h : Int))), some (.v nd), w6, none]) (fun k : Nat => .v (.int (0 + (k : Int)))) (fun o => !decide (o ∈ t.lns.getD h []) && !decide (h ∈ t.lns.getD o [])) (fun k => natD k) (List.range t.cnt) (sz_of (by simp; omega)) (by
          intro o ho acc
          have ho : o < t.cnt := by simpa using ho
          have q1 := (opIn_nats (S := S ++ [.lst ((t.ground.take h).map .v)] ++ [.lst acc]) (w := o) (ws := t.lns.getD h []) (.inl rfl)).2
          have q2 := (opIn_nats (S := S ++ [.lst ((t.ground.take h).map .v)] ++ [.lst acc]) (w := h) (ws := t.lns.getD o []) (.inl rfl)).2
          refine ⟨_, rfl, ?_, fun _ => ?_⟩
          · simp only [Int.zero_add, mtAnd_eq, mtB_eq, mBin_eq, mVar_eq, List.set_cons_succ, List.set_cons_zero, List.getElem?_cons_succ, List.getElem?_cons_zero, Out.bind_ok, ixL h _ hh, ixL o _ ho, q1, q2, onBl_bl]
            cases decide (o ∈ t.lns.getD h []) <;> rfl
          · simp only [Int.zero_add, mVar_eq, List.set_cons_succ, List.set_cons_zero, List.getElem?_cons_succ, List.getElem?_cons_zero]
            rfl)
      have hst : t.ground[h]? = some (stayD h nd (t.aside h)) := by
        simp only [T.ground, List.getElem?_map, List.getElem?_zipIdx, hnd, Option.map_some, Nat.zero_add]
      have htk : t.ground.take (h + 1) = t.ground.take h ++ [stayD h nd (t.aside h)] := by
        rw [List.take_add_one, hst]; rfl
      have hgl : t.ground.length = t.cnt := by simp [T.ground, hn]
      have ap : mtAppend (.ref S.length) [.v (stayD h nd (t.aside h))] (S ++ [.lst ((t.ground.take h).map .v)]) = .ok (.v .non) (S ++ [.lst ((t.ground.take (h + 1)).map .v)]) := by
        rw [mtAppend_ref gt (sz_lt (by simp; omega)), set_len, htk]
        simp
      have e8 := name_of_spec (d := nd) (x := natD h) nty (S ++ [.lst ((t.ground.take h).map .v)])
      have e9 := straight_under_spec (d := nd) nty (S ++ [.lst ((t.ground.take h).map .v)])
      simp only [natD] at e8
      have lc3 : ((mLcGo [] (tgN 7) (mtAnd (mtB (mBin opNotIn (mVar 7) (mBin opIx (mVar 2) (mVar 4)))) (mtB (mBin opNotIn (mVar 4) (mBin opIx (mVar 2) (mVar 7))))) (mVar 7) (S ++ [MO.lst ((t.ground.take h).map R.v)]).length [some (.v t.d), some (.v (.tup (t.ahead.map oD))), some (.v LL), some (.ref S.length), some (.v (.int (h : Int))), some (.v nd), w6, none] (rangeD 0 (Int.toNat (t.cnt : Int))) (S ++ [.lst ((t.ground.take h).map .v)] ++ [.lst []])).bind fun r S' => popV (S ++ [.lst ((t.ground.take h).map .v)]) r S') = .ok (.v (.lst ((t.aside h).map natD))) (S ++ [.lst ((t.ground.take h).map .v)]) := lc2
      refine ⟨[some (.v t.d), some (.v (.tup (t.ahead.map oD))), some (.v LL), some (.ref S.length), some (.v (.int (h : Int))), some (.v nd), w6, w7], rfl, _, _, .inl ?_, rfl, some (.v (.int (h : Int))), some (.v nd), some (.v (.lst ((t.aside h).map natD))), w7, rfl⟩
      have blL : ∀ S, biLen [.v LL] S = .ok (.v (.int (t.cnt : Int))) S := fun S => by rw [show LL = .lst (t.lns.map fun ln => D.lst (ln.map natD)) from rfl, biLen_lst, List.length_map, hll]
      unfold b1_ground
      rw [mSeq_nx (m' := [some (.v t.d), some (.v (.tup (t.ahead.map oD))), some (.v LL), some (.ref S.length), some (.v (.int (h : Int))), some (.v nd), some (.v (.lst ((t.aside h).map natD))), w7]) (S' := S ++ [.lst ((t.ground.take h).map .v)]) (by
        rw [mSetP_lt 6 (by simp), mSet_eq]
        simp only [mPop_eq, mLc_eq, srcRange1_eq, mCons_eq, mCall_eq, mVar_eq, mNil_eq, List.getElem?_cons_succ, List.getElem?_cons_zero, Out.bind_ok, blL, rg1_int (show 0 ≤ (t.cnt : Int) by omega) (show (t.cnt : Int) < 2 ^ 62 by omega), wipeM, List.foldl_cons, List.foldl_nil, List.set_cons_succ, List.set_cons_zero, lc3, thenS_ok])]
      simp only [mDrop_eq, mMeth_eq, mVar_eq, List.getElem?_cons_succ, List.getElem?_cons_zero, Out.bind_ok, tyOk_lst gt, if_true, mCons_eq, mNil_eq, mTup_eq, mCall_eq, mC_eq, e8, e9, biTuple_lst, frzO_4, List.length_cons, List.length_nil, Nat.zero_add, Nat.reduceAdd, sz4]
      have ap' : mtAppend (.ref S.length) [.v (.tup [if isStr nd = true then nd else .int (h : Int), .int 0, if isStr nd = true then .tup [] else nd, .tup ((t.aside h).map natD)])] (S ++ [.lst ((t.ground.take h).map .v)]) = _ := ap
      rw [ap']
      rfl)
  subst hS' hm'
  rw [enumI_len, hn] at eL
  have hgl : t.ground.length = t.cnt := by simp [T.ground, hn]
  rw [List.take_of_length_le (by omega)] at eL
  have e2 := nodes_spec (S := S ++ [.lst []]) hd (by omega)
  have g := get_len S (.lst (t.ground.map R.v)) []
  have lc' : ((mLcGo [] (tgN 4) mtYes (mCall M_line_up (mCons (mVar 1) (mCons (mVar 4) mNil))) S.length [some (.v t.d), some (.v (.tup (t.ahead.map oD))), none, none, none, none, none, none] (rangeD 0 (Int.toNat (t.cnt : Int))) (S ++ [.lst []])).bind fun r S' => popV S r S') = .ok (.v LL) S := lc
  refine mDefV_rtG [.lst (t.ground.map .v)] ?_ (.refl S)
  simp only [m_ground, List.map_cons, List.map_nil, List.length_cons, List.length_nil, List.replicate, List.cons_append, List.nil_append, Nat.reduceAdd, Nat.reduceSub, mSeq_eq, mSet_eq, mCall_eq, mCons_eq, mVar_eq, mNil_eq, mC_eq, List.getElem?_cons_succ, List.getElem?_cons_zero, Out.bind_ok, e1, thenS_ok, List.set_cons_succ, List.set_cons_zero, mPop_eq, mLc_eq, srcRange1_eq, biLen_tup, hal, rg1_int (show 0 ≤ (t.cnt : Int) by omega) (show (t.cnt : Int) < 2 ^ 62 by omega), wipeM, List.foldl_cons, List.foldl_nil, lc', mLst_eq, Nat.zero_le, sz0, if_true, mFor_eq, srcEnum_eq, e2, en1_tup, eL, mRet_eq, biTuple_ref g]
end Q
namespace Q
open PySem hiding Env
open L2 M
noncomputable def b1_nodes_3 : MS :=
  (mDrop (mMeth "list" mtAppend (mVar 1) (mCons (mIf (mtTru (mCall biIsi (mCons (mVar 3) (mCons (mC (.ty "str")) mNil)))) (mVar 3) (mTup (mCons (mBin opAdd (mBin opIx (mVar 3) (mC (.int 0))) (mVar 2)) (mCons (mBin opAdd (mBin opIx (mVar 3) (mC (.int 1))) (mVar 2)) mNil)))) mNil)))
noncomputable def m_nodes_3 (g_nodes_3 : List R → Store → Out R) : MS :=
  (mSeq (mIfS (mtTru (mCall biIsi (mCons (mVar 0) (mCons (mC (.ty "str")) mNil)))) (mRet (mLst (mCons (mVar 0) mNil))) mSkip)
  (mSeq (mSet 1 (mCall g_nodes_3 (mCons (mBin opIx (mVar 0) (mC (.int 0))) mNil)))
  (mSeq (mSet 2 (mCall biLen (mCons (mVar 1) mNil)))
  (mSeq (mFor (srcAny (mCall g_nodes_3 (mCons (mBin opIx (mVar 0) (mC (.int 1))) mNil))) (tgN 3) b1_nodes_3)
  (mRet (mBin opAdd (mVar 1) (mLstV (mCons (mTup (mCons (mBin opSub (mVar 2) (mC (.int 1))) (mCons (mBin opSub (mCall biLen (mCons (mVar 1) mNil)) (mC (.int 1))) mNil))) mNil))))))))
noncomputable def R_nodes_3 : Nat → List R → Store → Out R
  | 0 => fun _ _ => .no
  | k + 1 => mDef 4 (m_nodes_3 (R_nodes_3 k))
noncomputable def m_same_2 (g_same_2 : List R → Store → Out R) : MS :=
  (mSeq (mIfS (mtTru (mCall biIsi (mCons (mVar 1) (mCons (mC (.ty "tuple")) mNil)))) (mSeq (mIfS (mtOr (mtNot (mtTru (mCall biIsi (mCons (mVar 0) (mCons (mC (.ty "tuple")) mNil))))) (mtB (mBin opNe (mCall biLen (mCons (mVar 0) mNil)) (mCall biLen (mCons (mVar 1) mNil))))) (mRet (mC (.bl false))) mSkip)
  (mRet (mCall biAll (mCons (mPop (mLc (srcZip (mCons (mVar 0) (mCons (mVar 1) mNil))) [2, 3] (tgT [(tgN 2), (tgN 3)]) mtYes (mCall g_same_2 (mCons (mVar 2) (mCons (mVar 3) mNil))))) mNil)))) mSkip)
  (mSeq (mIfS (mtOr (mtTru (mCall biIsi (mCons (mVar 1) (mCons (mC (.ty "str")) mNil)))) (mtB (mBin opIs (mVar 1) (mC .non)))) (mRet (mAnd (mBin opEq (mCall biIsi (mCons (mVar 0) (mCons (mC (.ty "str")) mNil))) (mCall biIsi (mCons (mVar 1) (mCons (mC (.ty "str")) mNil)))) (mBin opEq (mVar 0) (mVar 1)))) mSkip)
  (mRet (mAnd (mCall biIsi (mCons (mVar 0) (mCons (mC (.ty "int")) mNil))) (mAnd (mNot (mCall biIsi (mCons (mVar 0) (mCons (mC (.ty "bool")) mNil)))) (mBin opEq (mVar 0) (mVar 1)))))))
noncomputable def R_same_2 : Nat → List R → Store → Out R
  | 0 => fun _ _ => .no
  | k + 1 => mDefV 4 (m_same_2 (R_same_2 k))
end Q
namespace M
open PySem PySem.Spec L2
open PyProof.Rows hiding St
def shiftD (k : Nat) : D → D
  | .tup [.int a, .int b] => .tup [.int (a + (k : Int)), .int (b + (k : Int))]
  | d => d
theorem T.nodes_shift (k : Nat) : ∀ (t : T) (j : Nat), T.nodesFrom (j + k) t = (T.nodesFrom j t).map (shiftD k)
  | .leaf w, j => rfl
  | .node l r, j => by
    have p1 := l.cnt_pos
    have p2 := r.cnt_pos
    simp only [T.nodesFrom, List.map_append, List.map_cons, List.map_nil, shiftD]
    rw [T.nodes_shift k l j, show j + k + l.cnt = j + l.cnt + k by omega, T.nodes_shift k r (j + l.cnt)]
    congr 2
    have e1 : ((j + l.cnt + k - 1 : Nat) : Int) = ((j + l.cnt - 1 : Nat) : Int) + (k : Int) := by omega
    have e2 : ((j + l.cnt + k + r.cnt - 1 : Nat) : Int) = ((j + l.cnt + r.cnt - 1 : Nat) : Int) + (k : Int) := by omega
    rw [e1, e2]
theorem T.blw_last : ∀ (t : T) (k : Nat), (T.blw k t)[t.cnt - 1]? = some (T.lvs k t)
  | .leaf w, k => rfl
  | .node l r, k => by
    have h1 := T.blw_len l k
    have h2 := T.blw_len r (k + l.cnt)
    simp only [T.blw, T.lvs, T.cnt]
    rw [List.getElem?_append_right (by simp; omega)]
    simp [h1, h2]
theorem T.blw_at : ∀ (t : T) (k i : Nat) (d : D), (T.nodesFrom k t)[i]? = some d → (isStr d = true ∧ (T.blw k t)[i]? = some [k + i]) ∨ ∃ a b ba bb, d = .tup [natD (k + a), natD (k + b)] ∧ a < i ∧ b < i ∧ (T.blw k t)[a]? = some ba ∧ (T.blw k t)[b]? = some bb ∧ (T.blw k t)[i]? = some (ba ++ bb)
  | .leaf w, k, i, d, h => by
    cases i with
    | zero => cases h; exact .inl ⟨rfl, rfl⟩
    | succ i => simp [T.nodesFrom] at h
  | .node l r, k, i, d, h => by
    have n1 := T.nodesFrom_len l k
    have n2 := T.nodesFrom_len r (k + l.cnt)
    have b1 := T.blw_len l k
    have b2 := T.blw_len r (k + l.cnt)
    have p1 := l.cnt_pos
    have p2 := r.cnt_pos
    have inl : ∀ (i : Nat) (b : List Nat), (T.blw k l)[i]? = some b → (T.blw k (.node l r))[i]? = some b := fun i b e => by
      have hi : i < (T.blw k l).length := (List.getElem?_eq_some_iff.mp e).1
      simp only [T.blw]
      rw [List.append_assoc, List.getElem?_append_left hi, e]
    have inr : ∀ (i : Nat) (b : List Nat), (T.blw (k + l.cnt) r)[i]? = some b → (T.blw k (.node l r))[l.cnt + i]? = some b := fun i b e => by
      have hi : i < (T.blw (k + l.cnt) r).length := (List.getElem?_eq_some_iff.mp e).1
      simp only [T.blw]
      rw [List.append_assoc, List.getElem?_append_right (by omega), b1, Nat.add_sub_cancel_left, List.getElem?_append_left hi, e]
    rcases three h with ⟨a1, a2⟩ | ⟨a, a1, a2, a3⟩ | ⟨a1, a2⟩
    · rcases T.blw_at l k i d a2 with ⟨q1, q2⟩ | ⟨a, b, ba, bb, q1, q2, q3, q4, q5, q6⟩
      · exact .inl ⟨q1, inl _ _ q2⟩
      · exact .inr ⟨a, b, ba, bb, q1, q2, q3, inl _ _ q4, inl _ _ q5, inl _ _ q6⟩
    · rw [n1] at a1
      subst a1
      rcases T.blw_at r (k + l.cnt) a d a3 with ⟨q1, q2⟩ | ⟨x, y, ba, bb, q1, q2, q3, q4, q5, q6⟩
      · exact .inl ⟨q1, by rw [inr _ _ q2]; congr 2; omega⟩
      · exact .inr ⟨l.cnt + x, l.cnt + y, ba, bb, by rw [q1, Nat.add_assoc, Nat.add_assoc], by omega, by omega, inr _ _ q4, inr _ _ q5, inr _ _ q6⟩
    · subst a2
      rw [n1, n2] at a1
      subst a1
      refine .inr ⟨l.cnt - 1, l.cnt + (r.cnt - 1), T.lvs k l, T.lvs (k + l.cnt) r, ?_, by omega, by omega, inl _ _ (T.blw_last l k), inr _ _ (T.blw_last r (k + l.cnt)), ?_⟩
      · simp only [natD]
        congr 3
        · congr 2; omega
        · congr 3; omega
      · have := T.blw_last (.node l r) k
        simpa [T.cnt, T.lvs] using this
/-- plain data so many deep -/
def Pln : Nat → D → Prop
  | 0, _ => False
  | k + 1, .tup ds => ds.length ≤ 100000 ∧ ∀ d ∈ ds, Pln k d
  | _ + 1, .str w => strOkB w = true
  | _ + 1, .int _ => True
  | _ + 1, .non => True
  | _ + 1, _ => False
theorem zipI_self (ds : List D) : zipI ds ds = ds.map fun d => .v (.tup [d, d]) := by
  unfold zipI
  induction ds with
  | nil => rfl
  | cons d ds ih => simp [ih]
end M
namespace Q
open PySem hiding Env
open L2 M
theorem nodes_3_spec : ∀ (k : Nat) (t : T) (S : Store), t.depth < k → t.ls.length ≤ 100000 → ∃ (w : Nat) (g : Store), R_nodes_3 k [.v t.d] S = .ok (.ref w) (S ++ g) ∧ (S ++ g)[w]? = some (.lst ((T.nodesFrom 0 t).map .v)) ∧ S.length ≤ w
  | 0, t, S, h, _ => by omega
  | k + 1, .leaf w, S, h, _ => by
    refine ⟨S.length, [.lst [.v (.str w)]], mDef_rt ?_, by simp [T.nodesFrom], Nat.le_refl _⟩
    simp [m_nodes_3, T.d]
  | k + 1, .node l r, S, h, hz => by
    simp only [T.depth] at h
    simp only [T.ls, List.length_append] at hz
    have c1 := l.cnt_ls
    have c2 := r.cnt_ls
    have p1 := l.cnt_pos
    have p2 := r.cnt_pos
    have n1 := T.nodesFrom_len l 0
    have n2 := T.nodesFrom_len r 0
    obtain ⟨w1, x1, e1, q1, h1⟩ := nodes_3_spec k l S (by omega) (by omega)
    obtain ⟨w2, x2, e2, q2, h2⟩ := nodes_3_spec k r (S ++ x1) (by omega) (by omega)
    have lt1 := lt_of_get q1
    have q1' := get_old q1 x2
    have hne : w1 ≠ w2 := by omega
    let Z : List D → Store := fun xs => (S ++ x1 ++ x2).set w1 (.lst (xs.map .v))
    have Z1 : ∀ xs, (Z xs)[w1]? = some (.lst (xs.map .v)) := fun xs => get_set q1' _
    have Z2 : ∀ xs, (Z xs)[w2]? = some (.lst ((T.nodesFrom 0 r).map .v)) := fun xs => by rw [get_ne hne]; exact q2
    have Z0 : Z (T.nodesFrom 0 l) = S ++ x1 ++ x2 := set_get q1'
    obtain ⟨m', S', eL, hS', w3, hm'⟩ := forGo_inv (pins := [(w2, .lst ((T.nodesFrom 0 r).map .v))]) (t := tgN 3) (body := b1_nodes_3)
      (fun i m X => X = Z (T.nodesFrom 0 l ++ ((T.nodesFrom 0 r).map (shiftD l.cnt)).take i) ∧ ∃ w3, m = [some (.v (.tup [l.d, r.d])), some (.ref w1), some (.v (.int (l.cnt : Int))), w3])
      ((T.nodesFrom 0 r).map .v) 0 [some (.v (.tup [l.d, r.d])), some (.ref w1), some (.v (.int (l.cnt : Int))), none] (S ++ x1 ++ x2) ⟨by simp [Z0], _, rfl⟩
      (by rintro i m X ⟨rfl, _⟩; exact ⟨Z2 _, trivial⟩)
      (by
        rintro i d m X hd ⟨rfl, w3, rfl⟩
        rw [Nat.zero_add] at *
        rw [List.getElem?_map] at hd
        obtain ⟨nd, hnd, rfl⟩ := Option.map_eq_some_iff.mp hd
        have nty : notTy nd = true := T.notTy_nodes r 0 nd (List.mem_of_getElem? hnd)
        have hsh : ((T.nodesFrom 0 r).map (shiftD l.cnt)).take (i + 1) = ((T.nodesFrom 0 r).map (shiftD l.cnt)).take i ++ [shiftD l.cnt nd] := by
          rw [List.take_add_one, List.getElem?_map, hnd]; rfl
        have hi : i < r.cnt := by rw [← n2]; exact (List.getElem?_eq_some_iff.mp hnd).1
        have tl := tyOk_lst (Z1 (T.nodesFrom 0 l ++ ((T.nodesFrom 0 r).map (shiftD l.cnt)).take i))
        have ap : mtAppend (.ref w1) [.v (shiftD l.cnt nd)] (Z (T.nodesFrom 0 l ++ ((T.nodesFrom 0 r).map (shiftD l.cnt)).take i)) = .ok (.v .non) (Z (T.nodesFrom 0 l ++ ((T.nodesFrom 0 r).map (shiftD l.cnt)).take (i + 1))) := by
          rw [mtAppend_ref (Z1 _) (sz_lt (by simp [n1, n2]; omega))]
          simp only [Z]
          rw [List.set_set, hsh]
          simp
        refine ⟨_, rfl, [some (.v (.tup [l.d, r.d])), some (.ref w1), some (.v (.int (l.cnt : Int))), some (.v nd)], _, .inl ?_, rfl, some (.v nd), rfl⟩
        have is := isi_str nd nty
        rcases T.blw_at r 0 i nd hnd with ⟨s1, _⟩ | ⟨a, b, _, _, hab, _⟩
        · have hsd : shiftD l.cnt nd = nd := by cases nd <;> first | rfl | cases s1
          rw [hsd] at ap
          simp only [b1_nodes_3, mDrop_eq, mMeth_eq, mVar_eq, List.set_cons_succ, List.set_cons_zero, List.getElem?_cons_succ, List.getElem?_cons_zero, Out.bind_ok, tl, if_true, mCons_eq, mNil_eq, mIf_eq, mtTru_eq, mCall_eq, mC_eq, is, s1, truM_bl, ap, thenS_ok]
        · rw [Nat.zero_add, Nat.zero_add] at hab
          subst hab
          have i0 : ∀ S, opIx (.v (.tup [natD a, natD b])) (.v (.int 0)) S = .ok (.v (.int (a : Int))) S := fun S => opIx_tup (atI_0 _ _)
          have i1 : ∀ S, opIx (.v (.tup [natD a, natD b])) (.v (.int 1)) S = .ok (.v (.int (b : Int))) S := fun S => opIx_tup (atI_1 _ _ _)
          have hs0 : isStr (.tup [natD a, natD b]) = false := rfl
          have ap' : mtAppend (.ref w1) [.v (.tup [.int ((a : Int) + (l.cnt : Int)), .int ((b : Int) + (l.cnt : Int))])] (Z (T.nodesFrom 0 l ++ ((T.nodesFrom 0 r).map (shiftD l.cnt)).take i)) = _ := ap
          simp only [b1_nodes_3, mDrop_eq, mMeth_eq, mVar_eq, List.set_cons_succ, List.set_cons_zero, List.getElem?_cons_succ, List.getElem?_cons_zero, Out.bind_ok, tl, if_true, mCons_eq, mNil_eq, mIf_eq, mtTru_eq, mCall_eq, mC_eq, is, hs0, truM_bl, mTup_eq, mBin_eq, i0, i1, opAdd_int, frzO_2, List.length_cons, List.length_nil, Nat.zero_add, Nat.reduceAdd, sz2]
          rw [ap']
          rfl)
    subst hS' hm'
    rw [List.length_map, Nat.zero_add, List.take_of_length_le (by simp)] at eL
    rw [← T.nodes_shift l.cnt r 0, Nat.zero_add] at eL
    generalize hFd : T.nodesFrom 0 l ++ T.nodesFrom l.cnt r = F at eL
    have hF : F.length = l.cnt + r.cnt := by rw [← hFd]; simp [n1, T.nodesFrom_len]
    have gF : (Z F)[w1]? = some (.lst (F.map .v)) := Z1 F
    have hlen : (Z F).length = (S ++ x1 ++ x2).length := by simp [Z]
    obtain ⟨g', hg'⟩ : ∃ g', Z F = S ++ g' := by
      refine ⟨(x1 ++ x2).set (w1 - S.length) (.lst (F.map .v)), ?_⟩
      simp only [Z]
      rw [List.append_assoc, List.set_append_right _ _ h1]
    have hroot : T.nodesFrom 0 (.node l r) = F ++ [.tup [.int ((l.cnt : Int) - 1), .int ((F.length : Int) - 1)]] := by
      have z1 : ((l.cnt - 1 : Nat) : Int) = (l.cnt : Int) - 1 := by omega
      have z2 : ((l.cnt + r.cnt - 1 : Nat) : Int) = (F.length : Int) - 1 := by rw [hF]; omega
      simp only [T.nodesFrom, Nat.zero_add, hFd, z1, z2]
    have ad : opAdd (.ref w1) (.v (.lst [.tup [.int ((l.cnt : Int) - 1), .int ((F.length : Int) - 1)]])) (Z F) = .ok (.ref (Z F).length) (Z F ++ [.lst ((T.nodesFrom 0 (.node l r)).map .v)]) := by
      unfold opAdd
      simp only [lsOf_lst gF]
      rw [if_pos (sz_of (by simp [hF]; omega)), hroot]
      simp
    have e3 := biLen_ref q1
    rw [List.length_map, n1] at e3
    have i0 : opIx (.v (.tup [l.d, r.d])) (.v (.int 0)) S = .ok (.v l.d) S := opIx_tup (atI_0 _ _)
    have i1 : opIx (.v (.tup [l.d, r.d])) (.v (.int 1)) (S ++ x1) = .ok (.v r.d) (S ++ x1) := opIx_tup (atI_1 _ _ _)
    have e5 := biLen_ref gF
    rw [List.length_map] at e5
    refine ⟨(Z F).length, g' ++ [.lst ((T.nodesFrom 0 (.node l r)).map .v)], mDef_rt ?_, ?_, ?_⟩
    · rw [← List.append_assoc, ← hg']
      simp only [T.d, m_nodes_3, List.map_cons, List.map_nil, List.length_cons, List.length_nil, List.replicate, List.cons_append, List.nil_append, Nat.reduceAdd, Nat.reduceSub, mSeq_eq, mIfS_eq, mtTru_eq, mCall_eq, mCons_eq, mVar_eq, mC_eq, mNil_eq, List.getElem?_cons_zero, List.getElem?_cons_succ, Out.bind_ok, isi_tup_str, truM_bl, thenS_ok, mSkip_eq, mSet_eq, mBin_eq, i0, e1, List.set_cons_succ, List.set_cons_zero, e3, mFor_eq, srcAny, i1, e2, q2, eL, mRet_eq, opSub_int, e5, frzO_2, mLstV_eq, mTup_eq, frzO_1, Nat.zero_add, sz2, sz1, if_true, ad]
    · rw [← List.append_assoc, ← hg', get_len]
    · rw [hlen]; simp only [List.length_append]; omega
theorem same_2_refl : ∀ (k : Nat) (d : D) (S : Store), Pln k d → R_same_2 k [.v d, .v d] S = .ok (.v (.bl true)) S
  | 0, d, S, h => h.elim
  | k + 1, d, S, h => by
    refine mDefV_rt0 ?_
    cases d with
    | non =>
      have q : opEq (.v .non) (.v .non) S = .ok (.v (.bl true)) S := by simp [opEq, PyData.eqv]
      have z : opIs (.v .non) (.v .non) S = .ok (.v (.bl true)) S := rfl
      simp [m_same_2, z, q, M.isNon]
    | int i => simp [m_same_2, M.isNon]
    | str w =>
      have hw : strOkB w = true := h
      have q : opEq (.v (.str w)) (.v (.str w)) S = .ok (.v (.bl true)) S := by rw [opEq_str hw hw]; simp
      simp [m_same_2, q, M.isNon]
    | tup ds =>
      obtain ⟨hl, hp⟩ : ds.length ≤ 100000 ∧ ∀ d ∈ ds, Pln k d := h
      have lc := lc_map (S := S) (t := tgT [tgN 2, tgN 3]) (c := mtYes) (f := mCall (R_same_2 k) (mCons (mVar 2) (mCons (mVar 3) mNil))) (m := [some (.v (.tup ds)), some (.v (.tup ds)), none, none]) (fun d : D => .v (.tup [d, d])) (fun _ => true) (fun _ => .bl true) ds (sz_of (by omega)) (by
        intro d hd acc
        have := same_2_refl k d (S ++ [.lst acc]) (hp d hd)
        refine ⟨_, rfl, rfl, fun _ => ?_⟩
        simp only [mCall_eq, mCons_eq, mVar_eq, mNil_eq, List.set_cons_succ, List.set_cons_zero, List.getElem?_cons_succ, List.getElem?_cons_zero, Out.bind_ok, this])
      rw [List.filter_eq_self.mpr (by simp)] at lc
      have hm2 : (ds.map fun _ => D.bl true) = (ds.map fun _ => true).map D.bl := by rw [List.map_map]; rfl
      rw [hm2, ← zipI_self] at lc
      have hall : ((ds.map fun _ => true).all id) = true := by simp
      have hne : opNe (.v (.int (ds.length : Int))) (.v (.int (ds.length : Int))) S = .ok (.v (.bl false)) S := by simp
      simp only [m_same_2, List.map_cons, List.map_nil, List.length_cons, List.length_nil, List.replicate, List.cons_append, List.nil_append, Nat.reduceAdd, Nat.reduceSub, mSeq_eq, mIfS_eq, mtTru_eq, mCall_eq, mCons_eq, mVar_eq, mC_eq, mNil_eq, List.getElem?_cons_zero, List.getElem?_cons_succ, Out.bind_ok, isi_tup_tup, truM_bl, thenS_ok, mtOr_eq, mtNot_eq, Bool.not_true, mtB_eq, mBin_eq, biLen_tup, hne, onBl_bl, mSkip_eq, mRet_eq, mPop_eq, mLc_eq, srcZip_eq, zp2_tt, wipeM, List.foldl_cons, List.foldl_nil, List.set_cons_succ, List.set_cons_zero, lc, biAll_lst, hall]
    | _ => exact h.elim
end Q
namespace Q
open PySem hiding Env
open L2 M
noncomputable def m_inner_dates (g_nodes : List R → Store → Out R) : MS :=
  (mRet (mPop (mLc (srcZip (mCons (mCall g_nodes (mCons (mVar 0) mNil)) (mCons (mVar 1) mNil))) [2, 3] (tgT [(tgN 2), (tgN 3)]) (mtNot (mtTru (mCall biIsi (mCons (mVar 2) (mCons (mC (.ty "str")) mNil))))) (mVar 3))))
noncomputable def M_inner_dates : List R → Store → Out R := mDefV 4 (m_inner_dates M_nodes)
end Q
namespace M
open PySem PySem.Spec L2
open PyProof.Rows hiding St
/-- whether a house's date can stand: what is_date tells -/
def nodeOk (ds : List Int) (h : Nat) : D → Bool
  | .tup [.int a, .int b] => (decide (1 ≤ ds.getD h 0) && decide (ds.getD h 0 ≤ 99)) && (decide (ds.getD a.toNat 0 < ds.getD h 0) && decide (ds.getD b.toNat 0 < ds.getD h 0))
  | _ => ds.getD h 0 == 0
def innerD (t : T) (ds : List Int) : List Int := ((t.nodes.zip ds).filter fun p => !isStr p.1).map (·.2)
/-- what is_dates tells of whole numbers -/
def isDt (t : T) (ds : List Int) : Bool := decide (ds.length = t.cnt) && (((List.range t.cnt).all fun h => nodeOk ds h (t.nodes.getD h .non)) && decide (innerD t ds).Nodup)
/-- a node: a leaf, or two ahead of it -/
theorem T.node_cases (t : T) {h : Nat} {d : D} (e : t.nodes[h]? = some d) : (∃ w, d = .str w) ∨ ∃ a b : Nat, d = .tup [natD a, natD b] ∧ a < h ∧ b < h := by
  rcases T.blw_at t 0 h d e with ⟨q, _⟩ | ⟨a, b, _, _, q1, q2, q3, _⟩
  · have nt := T.notTy_nodes t 0 d (List.mem_of_getElem? e)
    cases d <;> first | exact .inl ⟨_, rfl⟩ | (cases q; done) | cases nt
  · rw [Nat.zero_add, Nat.zero_add] at q1
    exact .inr ⟨a, b, q1, q2, q3⟩
theorem intD_get {ds : List Int} {h : Nat} (hh : h < ds.length) : atI (ds.map D.int) (h : Int) = some (.int (ds.getD h 0)) := by
  rw [atI_map, atI_lt (by omega), show ((h : Nat) : Int).toNat = h by omega, List.getD_eq_getElem?_getD, List.getElem?_eq_getElem hh]; rfl
end M
namespace Q
open PySem hiding Env
open L2 M
theorem inner_dates_spec {t : T} {ds : List Int} {S : Store} (hd : t.depth < 70) (hz : t.ls.length ≤ 1000) (hl : ds.length ≤ 100000) : M_inner_dates [.v t.d, .v (.tup (ds.map D.int))] S = .ok (.v (.lst ((innerD t ds).map D.int))) S := by
  have e1 := nodes_spec (S := S) hd (by omega)
  have c := t.cnt_ls
  have hn := t.nodes_len
  have nty : ∀ p ∈ t.nodes.zip ds, notTy p.1 = true := fun p hp => T.notTy_nodes t 0 p.1 (List.of_mem_zip hp).1
  have lc := lc_map (S := S) (t := tgT [tgN 2, tgN 3]) (c := mtNot (mtTru (mCall biIsi (mCons (mVar 2) (mCons (mC (.ty "str")) mNil))))) (f := mVar 3) (m := [some (.v t.d), some (.v (.tup (ds.map D.int))), none, none]) (fun p : D × Int => .v (.tup [p.1, .int p.2])) (fun p => !isStr p.1) (fun p => .int p.2) (t.nodes.zip ds) (sz_of (by rw [List.length_zip]; omega)) (by
    intro p hp acc
    refine ⟨_, rfl, ?_, fun _ => rfl⟩
    simp only [mtNot_eq, mtTru_eq, mCall_eq, mCons_eq, mVar_eq, mC_eq, mNil_eq, List.set_cons_succ, List.set_cons_zero, List.getElem?_cons_succ, List.getElem?_cons_zero, Out.bind_ok, isi_str p.1 (nty p hp), truM_bl])
  have hzip : zipI t.nodes (ds.map D.int) = (t.nodes.zip ds).map fun p : D × Int => R.v (.tup [p.1, .int p.2]) := by
    unfold zipI
    rw [List.zip_map_right, List.map_map]
    rfl
  rw [← hzip] at lc
  have hin : ((t.nodes.zip ds).filter fun p => !isStr p.1).map (fun p => D.int p.2) = (innerD t ds).map D.int := by rw [innerD, List.map_map]; rfl
  rw [hin] at lc
  refine mDefV_rt0 ?_
  simp only [m_inner_dates, List.map_cons, List.map_nil, List.length_cons, List.length_nil, List.replicate, List.cons_append, List.nil_append, Nat.reduceAdd, Nat.reduceSub, mRet_eq, mPop_eq, mLc_eq, srcZip_eq, mCons_eq, mCall_eq, mVar_eq, mNil_eq, List.getElem?_cons_succ, List.getElem?_cons_zero, Out.bind_ok, e1, zp2_tt, wipeM, List.foldl_cons, List.foldl_nil, List.set_cons_succ, List.set_cons_zero, lc, thenS_ok]
end Q
namespace Q
open PySem hiding Env
open L2 M
end Q
namespace M
open PySem PySem.Spec L2
open PyProof.Rows hiding St
theorem pyS_lnats (L : List Nat) : D.pyS (.lst (L.map natD)) = some (.list ((L.map fun n : Nat => (n : Int)).map PyData.int)) := by
  rw [natD_ints, pyS_lints]
theorem opNe_ref_nil {S : Store} {n : Nat} {L : List Nat} (h : S[n]? = some (.lst ((L.map natD).map .v))) : opNe (.ref n) (.v (.lst [])) S = .ok (.v (.bl (!L.isEmpty))) S := by
  have h1 := pyOf_ref h
  rw [pyS_lnats] at h1
  unfold opNe
  simp only [h1, pyOf_v, pyS_lnil]
  cases L <;> simp [PyData.eqv, PyData.eqvAll]
theorem opNotIn_ref {S : Store} {n w : Nat} {L : List Nat} (h : S[n]? = some (.lst ((L.map natD).map .v))) : opNotIn (.v (.int (w : Int))) (.ref n) S = .ok (.v (.bl (!decide (w ∈ L)))) S := by
  have h1 := pyOf_ref h
  rw [pyS_lnats] at h1
  have e : decide ((w : Int) ∈ L.map fun n : Nat => (n : Int)) = decide (w ∈ L) := by
    apply Bool.eq_iff_iff.mpr
    simp only [decide_eq_true_eq, List.mem_map]
    constructor
    · rintro ⟨a, h, e⟩
      have : a = w := by omega
      rwa [this] at h
    · intro h
      exact ⟨w, h, rfl⟩
  have key : inM S (.v (.int (w : Int))) (.ref n) = some (decide (w ∈ L)) := by
    unfold inM
    simp only [pyOf_v, pyS_int, h1, Option.bind_some, seqPy, any_ints, e]
  unfold opNotIn
  rw [key]
theorem erase_nats (L : List Nat) (h : Nat) : (L.map fun n : Nat => (n : Int)).erase (h : Int) = (L.erase h).map fun n : Nat => (n : Int) := by
  induction L with
  | nil => rfl
  | cons x L ih =>
    by_cases hx : x = h
    · subst hx; simp
    · have hx' : ¬ (x : Int) = (h : Int) := by omega
      rw [List.map_cons, List.erase_cons_tail (by simpa using hx'), List.erase_cons_tail (by simpa using hx), List.map_cons, ih]
theorem mtRemove_nats {S : Store} {n h : Nat} {L : List Nat} (e : S[n]? = some (.lst ((L.map natD).map .v))) (hm : h ∈ L) : mtRemove (.ref n) [.v (.int (h : Int))] S = .ok (.v .non) (S.set n (.lst (((L.erase h).map natD).map .v))) := by
  have h1 : intsOf ((L.map natD).map R.v) = some (L.map fun n : Nat => (n : Int)) := by
    rw [natD_ints, List.map_map]
    exact intsOf_map _
  unfold mtRemove
  simp only [e, h1]
  have e2 : ((L.erase h).map fun n : Nat => (n : Int)).map R.int = ((L.erase h).map natD).map R.v := by rw [List.map_map, List.map_map]; rfl
  rw [if_pos (List.mem_map_of_mem hm), erase_nats, e2]
/-- the houses of two -/
def T.innerIx (t : T) : List Nat := (List.range t.cnt).filter fun h => !isStr (t.nodes.getD h .non)
theorem innerD_ix {t : T} {ds : List Int} (hl : ds.length = t.cnt) : innerD t ds = t.innerIx.map fun h => ds.getD h 0 := by
  have hn := t.nodes_len
  have hz : t.nodes.zip ds = (List.range t.cnt).map fun h => (t.nodes.getD h .non, ds.getD h 0) := by
    refine List.ext_getElem (by simp [hn, hl]) fun i h1 h2 => ?_
    simp [hn, hl] at h1
    simp [hn, hl, h1]
  unfold innerD T.innerIx
  rw [hz, List.filter_map, List.map_map]
  rfl
theorem nodup_map_on {α β : Type} {f : α → β} : ∀ {l : List α}, l.Nodup → (∀ a ∈ l, ∀ b ∈ l, f a = f b → a = b) → (l.map f).Nodup
  | [], _, _ => by simp
  | x :: l, h, hf => by
    rw [List.nodup_cons] at h
    rw [List.map_cons, List.nodup_cons]
    refine ⟨fun hm => ?_, nodup_map_on h.2 fun a ha b hb => hf a (by simp [ha]) b (by simp [hb])⟩
    obtain ⟨y, hy, e⟩ := List.mem_map.mp hm
    have := hf y (by simp [hy]) x (by simp) e
    subst this
    exact h.1 hy
/-- dates so far: those of the houses left are none yet -/
structure DtInv (t : T) (L : List Nat) (ds : List Int) (cur : Int) : Prop where
  len : ds.length = t.cnt
  srt : L.Pairwise (· < ·)
  lin : ∀ h ∈ L, h ∈ t.innerIx
  c0 : 0 ≤ cur
  lf : ∀ h, h < t.cnt → h ∉ t.innerIx → ds.getD h 0 = 0
  dn : ∀ h ∈ t.innerIx, h ∉ L → 1 ≤ ds.getD h 0 ∧ ds.getD h 0 ≤ cur ∧ ∀ a b, t.nodes[h]? = some (.tup [natD a, natD b]) → a ∉ L ∧ b ∉ L ∧ ds.getD a 0 < ds.getD h 0 ∧ ds.getD b 0 < ds.getD h 0
  inj : ∀ h ∈ t.innerIx, ∀ k ∈ t.innerIx, h ∉ L → k ∉ L → ds.getD h 0 = ds.getD k 0 → h = k
theorem T.inner_mem {t : T} {h : Nat} : h ∈ t.innerIx ↔ h < t.cnt ∧ ∃ a b, t.nodes[h]? = some (.tup [natD a, natD b]) ∧ a < h ∧ b < h := by
  have hn := t.nodes_len
  unfold T.innerIx
  rw [List.mem_filter, List.mem_range]
  constructor
  · rintro ⟨h1, h2⟩
    have hg : t.nodes[h]? = some (t.nodes.getD h .non) := by rw [List.getD_eq_getElem?_getD, List.getElem?_eq_getElem (by omega)]; rfl
    refine ⟨h1, ?_⟩
    rcases t.node_cases hg with ⟨w, e⟩ | ⟨a, b, e, q1, q2⟩
    · rw [e] at h2; cases h2
    · exact ⟨a, b, by rw [hg, e], q1, q2⟩
  · rintro ⟨h1, a, b, e, _, _⟩
    refine ⟨h1, ?_⟩
    rw [List.getD_eq_getElem?_getD, e]
    rfl
theorem DtInv.done {t : T} {ds : List Int} {cur : Int} (I : DtInv t [] ds cur) (hc : cur ≤ 99) : isDt t ds = true := by
  have hn := t.nodes_len
  unfold isDt
  rw [decide_eq_true I.len, Bool.true_and, Bool.and_eq_true]
  refine ⟨List.all_eq_true.mpr fun h hh => ?_, ?_⟩
  · have hh : h < t.cnt := by simpa using hh
    have hg : t.nodes[h]? = some (t.nodes.getD h .non) := by rw [List.getD_eq_getElem?_getD, List.getElem?_eq_getElem (by omega)]; rfl
    rcases t.node_cases hg with ⟨w, e⟩ | ⟨a, b, e, q1, q2⟩
    · rw [e]
      have : h ∉ t.innerIx := fun hm => by
        obtain ⟨_, a, b, e2, _⟩ := T.inner_mem.mp hm
        rw [hg, e] at e2
        cases e2
      show (ds.getD h 0 == 0) = true
      rw [I.lf h hh this]; rfl
    · rw [e]
      rw [e] at hg
      have hm : h ∈ t.innerIx := T.inner_mem.mpr ⟨hh, a, b, hg, q1, q2⟩
      obtain ⟨d1, d2, d3⟩ := I.dn h hm (by simp)
      obtain ⟨_, _, d4, d5⟩ := d3 a b hg
      simp only [nodeOk, natD, Int.toNat_natCast, Bool.and_eq_true, decide_eq_true_eq]
      exact ⟨⟨d1, by omega⟩, d4, d5⟩
  · rw [innerD_ix I.len]
    exact decide_eq_true (nodup_map_on (List.Pairwise.filter _ List.nodup_range) fun a ha b hb e => I.inj a ha b hb (by simp) (by simp) e)
theorem getD_set {ds : List Int} {h k : Nat} {x : Int} (hh : h < ds.length) : (ds.set h x).getD k 0 = if k = h then x else ds.getD k 0 := by
  rw [List.getD_eq_getElem?_getD, List.getD_eq_getElem?_getD]
  by_cases hk : k = h
  · subst hk; simp [hh]
  · rw [List.getElem?_set_ne (fun e => hk e.symm), if_neg hk]
theorem DtInv.step {t : T} {L : List Nat} {ds : List Int} {cur x : Int} {h a b : Nat} (I : DtInv t L ds cur) (hm : h ∈ L) (e : t.nodes[h]? = some (.tup [natD a, natD b])) (ha : a ∉ L) (hb : b ∉ L) (hx : cur < x) : DtInv t (L.erase h) (ds.set h x) x := by
  have hin := I.lin h hm
  obtain ⟨hc, a', b', e', a1, b1⟩ := T.inner_mem.mp hin
  rw [e] at e'
  have ea : a = a' := by
    have := Option.some.inj e'
    injection this with this
    injection this with this _
    injection this with this
    omega
  have eb : b = b' := by
    have := Option.some.inj e'
    injection this with this
    injection this with _ this
    injection this with this _
    injection this with this
    omega
  subst ea eb
  have hlen : h < ds.length := by rw [I.len]; exact hc
  have nd : L.Nodup := I.srt.imp fun h => Nat.ne_of_lt h
  have er : ∀ k, k ∈ L.erase h ↔ k ∈ L ∧ k ≠ h := fun k => by
    rw [List.Nodup.mem_erase_iff nd]
    exact ⟨fun q => ⟨q.2, q.1⟩, fun q => ⟨q.2, q.1⟩⟩
  have low : ∀ k, k ∉ L → ds.getD k 0 ≤ cur := fun k hk => by
    by_cases hki : k ∈ t.innerIx
    · exact (I.dn k hki hk).2.1
    · by_cases hkc : k < t.cnt
      · rw [I.lf k hkc hki]; exact I.c0
      · rw [List.getD_eq_getElem?_getD, List.getElem?_eq_none (by rw [I.len]; omega)]; exact I.c0
  have c0 := I.c0
  refine ⟨by rw [List.length_set]; exact I.len, I.srt.sublist List.erase_sublist, fun k hk => I.lin k ((er k).mp hk).1, by omega, fun k hk hki => ?_, fun k hki hk => ?_, fun k hki l hli hk hl e2 => ?_⟩
  · rw [getD_set hlen, if_neg (fun e => hki (by rw [e]; exact hin))]
    exact I.lf k hk hki
  · by_cases hkh : k = h
    · subst hkh
      rw [getD_set hlen, if_pos rfl]
      refine ⟨by omega, by omega, fun a2 b2 e2 => ?_⟩
      rw [e] at e2
      have ea : a = a2 := by
        have := Option.some.inj e2
        injection this with this
        injection this with this _
        injection this with this
        omega
      have eb : b = b2 := by
        have := Option.some.inj e2
        injection this with this
        injection this with _ this
        injection this with this _
        injection this with this
        omega
      subst ea eb
      have h1 := low a ha
      have h2 := low b hb
      rw [getD_set hlen, getD_set hlen, if_neg (by omega), if_neg (by omega)]
      exact ⟨fun q => ha ((er _).mp q).1, fun q => hb ((er _).mp q).1, by omega, by omega⟩
    · have hkL : k ∉ L := fun q => hk ((er k).mpr ⟨q, hkh⟩)
      obtain ⟨d1, d2, d3⟩ := I.dn k hki hkL
      rw [getD_set hlen, if_neg hkh]
      refine ⟨d1, by omega, fun a2 b2 e2 => ?_⟩
      obtain ⟨q1, q2, q3, q4⟩ := d3 a2 b2 e2
      rw [getD_set hlen, getD_set hlen, if_neg (fun e => q1 (by rw [e]; exact hm)), if_neg (fun e => q2 (by rw [e]; exact hm))]
      exact ⟨fun q => q1 ((er _).mp q).1, fun q => q2 ((er _).mp q).1, q3, q4⟩
  · rw [getD_set hlen, getD_set hlen] at e2
    by_cases hkh : k = h
    · by_cases hlh : l = h
      · omega
      · have hlL : l ∉ L := fun q => hl ((er l).mpr ⟨q, hlh⟩)
        rw [if_pos hkh, if_neg hlh] at e2
        have := low l hlL
        omega
    · have hkL : k ∉ L := fun q => hk ((er k).mpr ⟨q, hkh⟩)
      by_cases hlh : l = h
      · rw [if_neg hkh, if_pos hlh] at e2
        have := low k hkL
        omega
      · have hlL : l ∉ L := fun q => hl ((er l).mpr ⟨q, hlh⟩)
        rw [if_neg hkh, if_neg hlh] at e2
        exact I.inj k hki l hli hkL hlL e2
end M
namespace Q
open PySem hiding Env
open L2 M
noncomputable def m_pick (g_take_2 : List R → Store → Out R) : MS :=
  (mRet (mBin opIx (mVar 1) (mCall g_take_2 (mCons (mVar 0) (mCons (mCall biLen (mCons (mVar 1) mNil)) mNil)))))
noncomputable def M_pick : List R → Store → Out R := mDefV 2 (m_pick M_take_2)
noncomputable def b1_dates (g_pick : List R → Store → Out R) (g_take_2 : List R → Store → Out R) : MS :=
  (mSeq (mSetP 5 (mLc (srcAny (mVar 3)) [6] (tgN 6) (mtAnd (mtB (mBin opNotIn (mBin opIx (mBin opIx (mVar 1) (mVar 6)) (mC (.int 0))) (mVar 3))) (mtB (mBin opNotIn (mBin opIx (mBin opIx (mVar 1) (mVar 6)) (mC (.int 1))) (mVar 3)))) (mVar 6)))
  (mSeq (mSet 6 (mCall g_pick (mCons (mVar 0) (mCons (mVar 5) mNil))))
  (mSeq (mSet 4 (mBin opAdd (mBin opAdd (mVar 4) (mC (.int 1))) (mCall g_take_2 (mCons (mVar 0) (mCons (mBin opIx (mLstV (mCons (mC (.int 1)) (mCons (mC (.int 3)) (mCons (mC (.int 13)) mNil)))) (mCall g_take_2 (mCons (mVar 0) (mCons (mC (.int 3)) mNil)))) mNil)))))
  (mSeq (mSetIx (mVar 4) (mVar 2) (mVar 6))
  (mDrop (mMeth "list" mtRemove (mVar 3) (mCons (mVar 6) mNil)))))))
noncomputable def m_dates (g_pick : List R → Store → Out R) (g_take_2 : List R → Store → Out R) : MS :=
  (mSeq (mSet 2 (mBin opMul (mLstV (mCons (mC (.int 0)) mNil)) (mCall biLen (mCons (mVar 1) mNil))))
  (mSeq (mSet 3 (mLc (srcEnum (mCons (mVar 1) mNil)) [6, 7] (tgT [(tgN 6), (tgN 7)]) (mtNot (mtTru (mCall biIsi (mCons (mVar 7) (mCons (mC (.ty "str")) mNil))))) (mVar 6)))
  (mSeq (mSet 4 (mC (.int 0)))
  (mSeq (mWhile (mtB (mBin opNe (mVar 3) (mLstV mNil))) (b1_dates g_pick g_take_2))
  (mRet (mCall biTuple (mCons (mVar 2) mNil)))))))
noncomputable def M_dates : List R → Store → Out R := mDefV 8 (m_dates M_pick M_take_2)
end Q
namespace M
open PySem PySem.Spec L2
open PyProof.Rows hiding St
theorem lc_raw {α : Type} {pins : List (Nat × MO)} {t : TgM} {c : MT} {f : ME} {m : Env} {S : Store} (hp : ∀ o, pinsOk pins (S ++ [o])) (r : α → R) (p : α → Bool) (g : α → D) (xs : List α) (hz : xs.length ≤ sizeLine)
    (hs : ∀ x ∈ xs, ∀ acc : List R, ∃ m1, t (r x) m = some m1 ∧ c m1 (S ++ [.lst acc]) = .ok (p x) (S ++ [.lst acc]) ∧ (p x = true → f m1 (S ++ [.lst acc]) = .ok (.v (g x)) (S ++ [.lst acc]))) :
    mLcGo pins t c f S.length m (xs.map r) (S ++ [.lst []]) = .ok (.ref S.length) (S ++ [.lst (((xs.filter p).map g).map .v)]) := by
  have key : ∀ (xs ys : List α), ys.length + xs.length ≤ sizeLine → (∀ x ∈ xs, ∀ acc : List R, ∃ m1, t (r x) m = some m1 ∧ c m1 (S ++ [.lst acc]) = .ok (p x) (S ++ [.lst acc]) ∧ (p x = true → f m1 (S ++ [.lst acc]) = .ok (.v (g x)) (S ++ [.lst acc]))) →
      mLcGo pins t c f S.length m (xs.map r) (S ++ [.lst ((ys.map g).map .v)]) = .ok (.ref S.length) (S ++ [.lst (((ys ++ xs.filter p).map g).map .v)]) := by
    intro xs
    induction xs with
    | nil => intro ys _ _; unfold mLcGo; simp [hp]
    | cons x xs ih =>
      intro ys hl hs
      obtain ⟨m1, e1, e2, e3⟩ := hs x (by simp) ((ys.map g).map .v)
      rw [List.map_cons]
      unfold mLcGo
      rw [if_pos (hp _), e1]
      simp only [e2, Out.calm_ok, Out.bind_ok]
      rw [List.length_cons] at hl
      cases hpx : p x with
      | false =>
        simp only
        rw [ih ys (by omega) fun x hx => hs x (by simp [hx]), List.filter_cons_of_neg (by simp [hpx])]
      | true =>
        simp only [e3 hpx, Out.calm_ok, Out.bind_ok, get_len]
        rw [if_pos (by rw [List.length_map, List.length_map]; omega), set_len, List.filter_cons_of_pos hpx]
        have := ih (ys ++ [x]) (by rw [List.length_append]; simp; omega) fun x hx => hs x (by simp [hx])
        simp only [List.map_append, List.map_cons, List.map_nil, List.append_assoc, List.cons_append, List.nil_append] at this ⊢
        exact this
  have := key xs [] (by simpa using hz) hs
  simpa using this
theorem zipIdx_range {t : T} : t.nodes.zipIdx = (List.range t.cnt).map fun h => (t.nodes.getD h .non, h) := by
  have hn := t.nodes_len
  refine List.ext_getElem (by simp [hn]) fun i h1 h2 => ?_
  simp [hn] at h1
  simp [hn, h1]
theorem inner_idx (t : T) : ((t.nodes.zipIdx.filter fun p => !isStr p.1).map fun p : D × Nat => natD p.2) = t.innerIx.map natD := by
  unfold T.innerIx
  rw [zipIdx_range, List.filter_map, List.map_map]
  rfl
def chA (t : T) (h : Nat) : Nat := match t.nodes.getD h .non with
  | .tup [.int a, .int _] => a.toNat
  | _ => 0
def chB (t : T) (h : Nat) : Nat := match t.nodes.getD h .non with
  | .tup [.int _, .int b] => b.toNat
  | _ => 0
theorem T.kids {t : T} {h : Nat} (hm : h ∈ t.innerIx) : t.nodes[h]? = some (.tup [natD (chA t h), natD (chB t h)]) ∧ chA t h < h ∧ chB t h < h ∧ h < t.cnt := by
  obtain ⟨h1, a, b, e, q1, q2⟩ := T.inner_mem.mp hm
  have hg : t.nodes.getD h .non = .tup [natD a, natD b] := by rw [List.getD_eq_getElem?_getD, e]; rfl
  have ea : chA t h = a := by unfold chA; rw [hg]; simp [natD]
  have eb : chB t h = b := by unfold chB; rw [hg]; simp [natD]
  rw [ea, eb]
  exact ⟨e, q1, q2, h1⟩
theorem srt_len : ∀ (L : List Nat) (k n : Nat), L.Pairwise (· < ·) → (∀ x ∈ L, k ≤ x) → (∀ x ∈ L, x < n) → k ≤ n → L.length + k ≤ n
  | [], k, n, _, _, _, h => by simpa using h
  | x :: r, k, n, hp, h1, h2, _ => by
    rw [List.pairwise_cons] at hp
    have a1 := h1 x (by simp)
    have a2 := h2 x (by simp)
    have := srt_len r (x + 1) n hp.2 (fun y hy => hp.1 y hy) (fun y hy => h2 y (by simp [hy])) (by omega)
    rw [List.length_cons]
    omega
theorem get_atL1 {S' : Store} {k : Nat} (hl : S'.length = k) (a b : MO) (cs : Store) : (S' ++ a :: b :: cs)[k + 1]? = some b := by subst hl; simp
theorem set_atL1 {S' : Store} {k : Nat} (hl : S'.length = k) (a b x : MO) (cs : Store) : (S' ++ a :: b :: cs).set (k + 1) x = S' ++ a :: x :: cs := by subst hl; simp
theorem DtInv.start (t : T) : DtInv t t.innerIx (List.replicate t.cnt 0) 0 := by
  refine ⟨by simp, (List.pairwise_lt_range (n := t.cnt)).filter _, fun h hh => hh, Int.le_refl _, fun h hh _ => ?_, fun h hh hn => absurd hh hn, fun h hh k hk hn => absurd hh hn⟩
  rw [List.getD_eq_getElem?_getD, List.getElem?_replicate, if_pos hh]; rfl
theorem DtInv.bound {t : T} {ds : List Int} {cur : Int} (I : DtInv t [] ds cur) : ∀ x ∈ ds, 0 ≤ x ∧ x ≤ cur := by
  intro x hx
  obtain ⟨h, hh, e⟩ := List.getElem_of_mem hx
  have eg : ds.getD h 0 = x := by rw [List.getD_eq_getElem?_getD, List.getElem?_eq_getElem hh, e]; rfl
  have c0 := I.c0
  by_cases hi : h ∈ t.innerIx
  · have := I.dn h hi (by simp)
    rw [eg] at this
    omega
  · have := I.lf h (by rw [← I.len]; exact hh) hi
    rw [eg] at this
    omega
end M
namespace Q
open PySem hiding Env
open L2 M
theorem pick_spec2 {b : Nat} {S : Store} {n : Nat} {h : Pot b} {ds : List D} (e : S[n]? = some h.c) (hb : b ≤ 2 ^ 40) (hne : ds ≠ []) (hz : ds.length ≤ 100000) : ∃ (d : D) (h' : Pot (b + 1)), M_pick [.ref n, .v (.lst ds)] S = .ok (.v d) (S.set n h'.c) ∧ d ∈ ds := by
  have hp : 0 < ds.length := List.length_pos_iff.mpr hne
  obtain ⟨x, h', e1, h2, h3⟩ := take_2_spec (k := (ds.length : Int)) e hb (by omega) (by omega)
  obtain ⟨d, hd, hmem⟩ := atI_some (xs := ds) h2 h3
  refine ⟨d, h', mDefV_rtU ?_ (upd_set n (h'.lo _)), hmem⟩
  simp only [m_pick, List.map_cons, List.map_nil, List.length_cons, List.length_nil, List.replicate, List.cons_append, List.nil_append, Nat.reduceAdd, Nat.reduceSub, mRet_eq, mBin_eq, mCall_eq, mCons_eq, mVar_eq, mNil_eq, List.getElem?_cons_succ, List.getElem?_cons_zero, Out.bind_ok, biLen_lst, e1, opIx_lst hd, thenS_ok]
end Q
namespace M
open PySem PySem.Spec L2
open PyProof.Rows hiding St
theorem filter_both {α : Type} (p : α → Bool) : ∀ l : List α, (l.filter p).length + (l.filter fun x => !p x).length = l.length
  | [] => rfl
  | x :: l => by
    have := filter_both p l
    cases hp : p x
    · rw [List.filter_cons_of_neg (by simp [hp]), List.filter_cons_of_pos (by simp [hp])]
      simp only [List.length_cons]; omega
    · rw [List.filter_cons_of_pos hp, List.filter_cons_of_neg (by simp [hp])]
      simp only [List.length_cons]; omega
end M
namespace Q
open PySem hiding Env
open L2 M
theorem inner_len (t : T) : t.innerIx.length + t.ls.length = t.cnt := by
  have hn := t.nodes_len
  have h1 : (t.nodes.filter isStr).length = t.ls.length := by
    have := congrArg List.length (T_leaves_nodes t 0)
    rw [List.length_map] at this
    exact this
  have h2 := filter_both isStr t.nodes
  have h3 : (t.nodes.filter fun x => !isStr x).length = t.innerIx.length := by
    have e : t.nodes = (List.range t.cnt).map fun h => t.nodes.getD h .non := by rw [← hn]; exact (range_getD _ _).symm
    unfold T.innerIx
    conv => lhs; rw [e]
    rw [List.filter_map, List.length_map]
    rfl
  omega
end Q
namespace Q
open PySem hiding Env
open L2 M
noncomputable def m_Slices_first_slice : MS :=
  (mRet (mMeth "list" mtIndex (mFld "Slices" "floors" (mVar 0)) (mCons (mBin opIx (mFld "Slices" "dates" (mVar 0)) (mVar 1)) mNil)))
noncomputable def M_Slices_first_slice : List R → Store → Out R := mDefV 2 (m_Slices_first_slice)
noncomputable def m_Slices_last_slice : MS :=
  (mSeq (mIfS (mtB (mBin opIs (mBin opIx (mFld "Slices" "aheads" (mVar 0)) (mVar 1)) (mC .non))) (mRet (mBin opSub (mCall biLen (mCons (mFld "Slices" "floors" (mVar 0)) mNil)) (mC (.int 1)))) mSkip)
  (mRet (mBin opSub (mMeth "list" mtIndex (mFld "Slices" "floors" (mVar 0)) (mCons (mBin opIx (mFld "Slices" "dates" (mVar 0)) (mBin opIx (mFld "Slices" "aheads" (mVar 0)) (mVar 1))) mNil)) (mC (.int 1)))))
noncomputable def M_Slices_last_slice : List R → Store → Out R := mDefV 2 (m_Slices_last_slice)
noncomputable def b1_Slices___init__ (g_Slices_first_slice : List R → Store → Out R) (g_Slices_last_slice : List R → Store → Out R) : MS :=
  (mIfS (mtB (mChain opLe opLe (mMethC "Slices" "first_slice" g_Slices_first_slice (mVar 0) (mCons (mVar 4) mNil)) (mVar 3) (mMethC "Slices" "last_slice" g_Slices_last_slice (mVar 0) (mCons (mVar 4) mNil)))) (mSetT (mCall biLenT (mCons (mFld "Slices" "places" (mVar 0)) mNil)) (mFld "Slices" "places" (mVar 0)) (mTup (mCons (mVar 4) (mCons (mVar 3) mNil)))) mSkip)
noncomputable def b2_Slices___init__ (g_Slices_first_slice : List R → Store → Out R) (g_Slices_last_slice : List R → Store → Out R) : MS :=
  (mFor (srcRange1 (mCons (mCall biLen (mCons (mFld "Slices" "rows" (mVar 0)) mNil)) mNil)) (tgN 4) (b1_Slices___init__ g_Slices_first_slice g_Slices_last_slice))
noncomputable def m_Slices___init__ (g_nodes : List R → Store → Out R) (g_ahead_of : List R → Store → Out R) (g_inner_dates : List R → Store → Out R) (g_Slices_first_slice : List R → Store → Out R) (g_Slices_last_slice : List R → Store → Out R) : MS :=
  (mSeq (mSetFld "Slices" "rows" (mVar 0) (mCall g_nodes (mCons (mVar 1) mNil)))
  (mSeq (mSetFld "Slices" "aheads" (mVar 0) (mCall g_ahead_of (mCons (mVar 1) mNil)))
  (mSeq (mSetFld "Slices" "dates" (mVar 0) (mVar 2))
  (mSeq (mSetFld "Slices" "floors" (mVar 0) (mPop (mBin opAdd (mLstV (mCons (mC (.int 0)) mNil)) (mPop (mCall biSorted (mCons (mCall g_inner_dates (mCons (mVar 1) (mCons (mVar 2) mNil))) mNil))))))
  (mSeq (mSetFld "Slices" "places" (mVar 0) mDctT0)
  (mFor (srcRange1 (mCons (mCall biLen (mCons (mFld "Slices" "floors" (mVar 0)) mNil)) mNil)) (tgN 3) (b2_Slices___init__ g_Slices_first_slice g_Slices_last_slice)))))))
noncomputable def M_Slices___init__ : List R → Store → Out R := mDef 5 (m_Slices___init__ M_nodes M_ahead_of M_inner_dates M_Slices_first_slice M_Slices_last_slice)
noncomputable def m_Slices_under_of (g_Slices_first_slice : List R → Store → Out R) : MS :=
  (mSeq (mSet 3 (mBin opIx (mFld "Slices" "rows" (mVar 0)) (mVar 1)))
  (mSeq (mIfS (mtB (mBin opLt (mMethC "Slices" "first_slice" g_Slices_first_slice (mVar 0) (mCons (mVar 1) mNil)) (mVar 2))) (mRet (mTup (mCons (mBin opIxT (mFld "Slices" "places" (mVar 0)) (mTup (mCons (mVar 1) (mCons (mBin opSub (mVar 2) (mC (.int 1))) mNil)))) mNil))) mSkip)
  (mSeq (mIfS (mtTru (mCall biIsi (mCons (mVar 3) (mCons (mC (.ty "str")) mNil)))) (mRet (mTup mNil)) mSkip)
  (mRet (mTup (mCons (mBin opIxT (mFld "Slices" "places" (mVar 0)) (mTup (mCons (mBin opIx (mVar 3) (mC (.int 0))) (mCons (mBin opSub (mVar 2) (mC (.int 1))) mNil)))) (mCons (mBin opIxT (mFld "Slices" "places" (mVar 0)) (mTup (mCons (mBin opIx (mVar 3) (mC (.int 1))) (mCons (mBin opSub (mVar 2) (mC (.int 1))) mNil)))) mNil)))))))
noncomputable def M_Slices_under_of : List R → Store → Out R := mDefV 4 (m_Slices_under_of M_Slices_first_slice)
noncomputable def m_Slices_beside_of : MS :=
  (mRet (mCall biTuple (mCons (mPop (mLockE (laF "Slices" "places" (laV 0)) (mLc (srcItemsT (mFld "Slices" "places" (mVar 0))) [3, 4, 5] (tgT [(tgT [(tgN 4), (tgN 5)]), (tgN 3)]) (mtAnd (mtB (mBin opEq (mVar 5) (mVar 2))) (mtB (mBin opNe (mVar 4) (mVar 1)))) (mVar 3)))) mNil)))
noncomputable def M_Slices_beside_of : List R → Store → Out R := mDefV 6 (m_Slices_beside_of)
noncomputable def b1_dated_2 (g_name_of : List R → Store → Out R) (g_Slices_under_of : List R → Store → Out R) (g_Slices_beside_of : List R → Store → Out R) : MS :=
  (mSeq (mSet 6 (mCall g_name_of (mCons (mBin opIx (mFld "Slices" "rows" (mVar 2)) (mVar 4)) (mCons (mVar 4) mNil))))
  (mDrop (mMeth "list" mtAppend (mVar 3) (mCons (mTup (mCons (mVar 6) (mCons (mVar 5) (mCons (mMethC "Slices" "under_of" g_Slices_under_of (mVar 2) (mCons (mVar 4) (mCons (mVar 5) mNil))) (mCons (mMethC "Slices" "beside_of" g_Slices_beside_of (mVar 2) (mCons (mVar 4) (mCons (mVar 5) mNil))) mNil))))) mNil))))
noncomputable def m_dated_2 (g_Slices___init__ : List R → Store → Out R) (g_name_of : List R → Store → Out R) (g_Slices_beside_of : List R → Store → Out R) (g_Slices_under_of : List R → Store → Out R) : MS :=
  (mSeq (mSet 2 (mMake "Slices" g_Slices___init__ (mCons (mVar 0) (mCons (mVar 1) mNil))))
  (mSeq (mSet 3 (mLst mNil))
  (mSeq (mLockS (laF "Slices" "places" (laV 2)) (mFor (srcKeys (mFld "Slices" "places" (mVar 2))) (tgT [(tgN 4), (tgN 5)]) (b1_dated_2 g_name_of g_Slices_under_of g_Slices_beside_of)))
  (mRet (mCall biTuple (mCons (mVar 3) mNil))))))
noncomputable def M_dated_2 : List R → Store → Out R := mDefV 7 (m_dated_2 M_Slices___init__ M_name_of M_Slices_beside_of M_Slices_under_of)
end Q
namespace Q
open PySem hiding Env
open L2 M
def fs_Slices1 (r0 : R) : List (Str × R) := [(("rows" : Str), r0)]
def fs_Slices2 (r0 r1 : R) : List (Str × R) := [(("rows" : Str), r0), (("aheads" : Str), r1)]
def fs_Slices3 (r0 r1 r2 : R) : List (Str × R) := [(("rows" : Str), r0), (("aheads" : Str), r1), (("dates" : Str), r2)]
def fs_Slices4 (r0 r1 r2 r3 : R) : List (Str × R) := [(("rows" : Str), r0), (("aheads" : Str), r1), (("dates" : Str), r2), (("floors" : Str), r3)]
def fs_Slices (r0 r1 r2 r3 r4 : R) : List (Str × R) := [(("rows" : Str), r0), (("aheads" : Str), r1), (("dates" : Str), r2), (("floors" : Str), r3), (("places" : Str), r4)]
theorem fs_Slices1_put_aheads (r0 x : R) : putR' ("aheads" : Str) x (fs_Slices1 r0) = fs_Slices2 r0 x := rfl
theorem fs_Slices2_put_dates (r0 r1 x : R) : putR' ("dates" : Str) x (fs_Slices2 r0 r1) = fs_Slices3 r0 r1 x := rfl
theorem fs_Slices3_put_floors (r0 r1 r2 x : R) : putR' ("floors" : Str) x (fs_Slices3 r0 r1 r2) = fs_Slices4 r0 r1 r2 x := rfl
theorem fs_Slices4_put_places (r0 r1 r2 r3 x : R) : putR' ("places" : Str) x (fs_Slices4 r0 r1 r2 r3) = fs_Slices r0 r1 r2 r3 x := rfl
theorem fs_Slices_at_rows (r0 r1 r2 r3 r4 : R) : (fs_Slices r0 r1 r2 r3 r4).lookup ("rows" : Str) = some r0 := rfl
theorem fs_Slices_at_aheads (r0 r1 r2 r3 r4 : R) : (fs_Slices r0 r1 r2 r3 r4).lookup ("aheads" : Str) = some r1 := rfl
theorem fs_Slices_at_dates (r0 r1 r2 r3 r4 : R) : (fs_Slices r0 r1 r2 r3 r4).lookup ("dates" : Str) = some r2 := rfl
theorem fs_Slices_at_floors (r0 r1 r2 r3 r4 : R) : (fs_Slices r0 r1 r2 r3 r4).lookup ("floors" : Str) = some r3 := rfl
theorem fs_Slices_at_places (r0 r1 r2 r3 r4 : R) : (fs_Slices r0 r1 r2 r3 r4).lookup ("places" : Str) = some r4 := rfl
theorem fs_Slices_no_first_slice (r0 r1 r2 r3 r4 : R) : (fs_Slices r0 r1 r2 r3 r4).lookup ("first_slice" : Str) = none := rfl
theorem fs_Slices0_put (x : R) : putR' ("rows" : Str) x [] = fs_Slices1 x := rfl
end Q
namespace M
open PySem PySem.Spec L2
open PyProof.Rows hiding St
theorem T.ahd_kid : ∀ (t : T) (k i a b : Nat), (T.nodesFrom k t)[i]? = some (.tup [natD a, natD b]) → ∃ ja jb, a = k + ja ∧ b = k + jb ∧ (T.ahdI k t)[ja]? = some (some (k + i)) ∧ (T.ahdI k t)[jb]? = some (some (k + i))
  | .leaf w, k, i, a, b, h => by
    cases i with
    | zero => cases h
    | succ i => simp [T.nodesFrom] at h
  | .node l r, k, i, a, b, h => by
    have hl := T.ahdI_len l k
    have hr := T.ahdI_len r (k + l.cnt)
    have cl := l.cnt_pos
    have cr := r.cnt_pos
    simp only [T.nodesFrom] at h
    rcases three h with ⟨h1, h2⟩ | ⟨j, rfl, h1, h2⟩ | ⟨rfl, h2⟩
    · obtain ⟨ja, jb, e1, e2, e3, e4⟩ := T.ahd_kid l k i a b h2
      have l1 := (List.getElem?_eq_some_iff.mp e3).1
      have l2 := (List.getElem?_eq_some_iff.mp e4).1
      exact ⟨ja, jb, e1, e2, by rw [T.ahdI, List.getElem?_append_left l1, e3], by rw [T.ahdI, List.getElem?_append_left l2, e4]⟩
    · rw [T.nodesFrom_len] at *
      obtain ⟨ja, jb, e1, e2, e3, e4⟩ := T.ahd_kid r (k + l.cnt) j a b h2
      have l1 := (List.getElem?_eq_some_iff.mp e3).1
      have l2 := (List.getElem?_eq_some_iff.mp e4).1
      have key : ∀ j', j' < (T.ahdI (k + l.cnt) r).length → (T.ahdI k (.node l r))[l.cnt + j']? = (T.ahdI (k + l.cnt) r)[j']? := by
        intro j' hj
        rw [T.ahdI, List.getElem?_append_right (by omega), show l.cnt + j' - (T.ahdI k l).length = j' + 1 by omega, List.getElem?_cons_succ, List.getElem?_append_left hj]
      exact ⟨l.cnt + ja, l.cnt + jb, by omega, by omega, by rw [key ja l1, e3]; congr 2; omega, by rw [key jb l2, e4]; congr 2; omega⟩
    · rw [T.nodesFrom_len, T.nodesFrom_len] at *
      simp only [D.tup.injEq, List.cons.injEq, and_true, natD, D.int.injEq] at h2
      obtain ⟨q1, q2⟩ := h2
      refine ⟨l.cnt - 1, l.cnt + r.cnt - 1, by omega, by omega, ?_, ?_⟩
      · rw [T.ahdI, List.getElem?_append_right (by omega), show l.cnt - 1 - (T.ahdI k l).length = 0 by omega]
        simp; omega
      · rw [T.ahdI, List.getElem?_append_right (by omega), show l.cnt + r.cnt - 1 - (T.ahdI k l).length = (T.ahdI (k + l.cnt) r).length + 1 by omega, List.getElem?_cons_succ, List.getElem?_append_right (Nat.le_refl _)]
        simp; omega
theorem T.ahd_par : ∀ (t : T) (k i : Nat) (o : Option Nat), (T.ahdI k t)[i]? = some o → ∃ j a b, o = some (k + j) ∧ (T.nodesFrom k t)[j]? = some (.tup [natD a, natD b]) ∧ (k + i = a ∨ k + i = b)
  | .leaf w, k, i, o, h => by simp [T.ahdI] at h
  | .node l r, k, i, o, h => by
    have hl := T.ahdI_len l k
    have hr := T.ahdI_len r (k + l.cnt)
    have cl := l.cnt_pos
    have cr := r.cnt_pos
    have nl := l.nodesFrom_len k
    have nr := r.nodesFrom_len (k + l.cnt)
    have top : (T.nodesFrom k (.node l r))[l.cnt + r.cnt]? = some (.tup [natD (k + l.cnt - 1), natD (k + l.cnt + r.cnt - 1)]) := by
      rw [T.nodesFrom, List.getElem?_append_right (by rw [List.length_append]; omega), List.length_append, nl, nr, Nat.sub_self]; rfl
    rw [T.ahdI] at h
    by_cases h1 : i < (T.ahdI k l).length
    · rw [List.getElem?_append_left h1] at h
      obtain ⟨j, a, b, e1, e2, e3⟩ := T.ahd_par l k i o h
      have l1 := (List.getElem?_eq_some_iff.mp e2).1
      exact ⟨j, a, b, e1, by rw [T.nodesFrom, List.append_assoc, List.getElem?_append_left l1, e2], e3⟩
    · rw [List.getElem?_append_right (by omega)] at h
      cases hx : i - (T.ahdI k l).length with
      | zero =>
        rw [hx] at h
        simp at h
        exact ⟨l.cnt + r.cnt, _, _, by rw [← h]; congr 1; omega, top, .inl (by omega)⟩
      | succ j =>
        rw [hx, List.getElem?_cons_succ] at h
        by_cases h2 : j < (T.ahdI (k + l.cnt) r).length
        · rw [List.getElem?_append_left h2] at h
          obtain ⟨j', a, b, e1, e2, e3⟩ := T.ahd_par r (k + l.cnt) j o h
          have l1 := (List.getElem?_eq_some_iff.mp e2).1
          exact ⟨l.cnt + j', a, b, by rw [e1]; congr 1; omega, by rw [T.nodesFrom, List.append_assoc, List.getElem?_append_right (by omega), show l.cnt + j' - (T.nodesFrom k l).length = j' by omega, List.getElem?_append_left l1, e2], by omega⟩
        · rw [List.getElem?_append_right (by omega)] at h
          have hz : j - (T.ahdI (k + l.cnt) r).length = 0 := by
            rcases Nat.eq_zero_or_pos (j - (T.ahdI (k + l.cnt) r).length) with z | z
            · exact z
            · rw [List.getElem?_eq_none (by simp; omega)] at h; cases h
          rw [hz] at h
          simp at h
          exact ⟨l.cnt + r.cnt, _, _, by rw [← h]; congr 1; omega, top, .inr (by omega)⟩
theorem T.ahead_len (t : T) : t.ahead.length = t.cnt := by rw [T.ahead, List.length_append]; exact t.ahdI_len 0
theorem T.ahead_kid {t : T} {h a b : Nat} (e : t.nodes[h]? = some (.tup [natD a, natD b])) : t.ahead[a]? = some (some h) ∧ t.ahead[b]? = some (some h) := by
  obtain ⟨ja, jb, e1, e2, e3, e4⟩ := T.ahd_kid t 0 h a b e
  rw [Nat.zero_add] at e1 e2 e3 e4
  subst e1 e2
  have l1 := (List.getElem?_eq_some_iff.mp e3).1
  have l2 := (List.getElem?_eq_some_iff.mp e4).1
  exact ⟨by rw [T.ahead, List.getElem?_append_left l1, e3], by rw [T.ahead, List.getElem?_append_left l2, e4]⟩
theorem T.ahead_par {t : T} {i p : Nat} (e : t.ahead[i]? = some (some p)) : ∃ a b, t.nodes[p]? = some (.tup [natD a, natD b]) ∧ (i = a ∨ i = b) := by
  rw [T.ahead] at e
  by_cases h : i < (T.ahdI 0 t).length
  · rw [List.getElem?_append_left h] at e
    obtain ⟨j, a, b, e1, e2, e3⟩ := T.ahd_par t 0 i _ e
    cases e1
    rw [Nat.zero_add] at e3 ⊢
    exact ⟨a, b, e2, e3⟩
  · rw [List.getElem?_append_right (by omega)] at e
    cases hx : i - (T.ahdI 0 t).length with
    | zero => rw [hx] at e; simp at e
    | succ j => rw [hx] at e; simp at e
def fls (t : T) (ds : List Int) : List Int := 0 :: isort (innerD t ds)
/-- whether a house stands in a slice -/
def stands (t : T) (ds : List Int) (l h : Nat) : Bool := decide (ds.getD h 0 ≤ (fls t ds).getD l 0) && (match t.ahead.getD h none with
  | none => true
  | some p => decide ((fls t ds).getD l 0 < ds.getD p 0))
def standL (t : T) (ds : List Int) (l n : Nat) : List (Nat × Nat) := ((List.range n).filter (stands t ds l)).map fun h => (h, l)
def standTo (t : T) (ds : List Int) (n : Nat) : List (Nat × Nat) := (List.range n).flatMap fun l => standL t ds l t.cnt
/-- all stays, as they are numbered: a house, a slice -/
def standing (t : T) (ds : List Int) : List (Nat × Nat) := standTo t ds (fls t ds).length
def pix (t : T) (ds : List Int) (h l : Nat) : Nat := (standing t ds).idxOf (h, l)
/-- straight under -/
def undr (t : T) (ds : List Int) (h l : Nat) : List Nat :=
  if ds.getD h 0 < (fls t ds).getD l 0 then [pix t ds h (l - 1)]
  else if isStr (t.nodes.getD h .non) = true then [] else [pix t ds (chA t h) (l - 1), pix t ds (chB t h) (l - 1)]
def besd (t : T) (ds : List Int) (h l : Nat) : List Nat := (((standing t ds).zipIdx).filter fun p => decide (p.1.2 = l) && !decide (p.1.1 = h)).map (·.2)
def stayOf (t : T) (ds : List Int) (p : Nat × Nat) : D := .tup [if isStr (t.nodes.getD p.1 .non) = true then t.nodes.getD p.1 .non else natD p.1, natD p.2, .tup ((undr t ds p.1 p.2).map natD), .tup ((besd t ds p.1 p.2).map natD)]
def T.dated (t : T) (ds : List Int) : List D := (standing t ds).map (stayOf t ds)
structure Dts (t : T) (ds : List Int) : Prop where
  len : ds.length = t.cnt
  lf : ∀ h, h < t.cnt → isStr (t.nodes.getD h .non) = true → ds.getD h 0 = 0
  inr : ∀ h ∈ t.innerIx, 1 ≤ ds.getD h 0 ∧ ds.getD h 0 ≤ 99 ∧ ds.getD (chA t h) 0 < ds.getD h 0 ∧ ds.getD (chB t h) 0 < ds.getD h 0
  nd : (innerD t ds).Nodup
theorem Dts.of {t : T} {ds : List Int} (h : isDt t ds = true) : Dts t ds := by
  unfold isDt at h
  simp only [Bool.and_eq_true, decide_eq_true_eq, List.all_eq_true, List.mem_range] at h
  obtain ⟨h1, h2, h3⟩ := h
  refine ⟨h1, fun k hk hs => ?_, fun k hk => ?_, h3⟩
  · have := h2 k hk
    have hn := t.nodes_len
    have hg : t.nodes[k]? = some (t.nodes.getD k .non) := by rw [List.getD_eq_getElem?_getD, List.getElem?_eq_getElem (by omega)]; rfl
    rcases t.node_cases hg with ⟨w, e⟩ | ⟨a, b, e, _, _⟩
    · rw [e] at this
      exact eq_of_beq (show (ds.getD k 0 == 0) = true from this)
    · rw [e] at hs; cases hs
  · obtain ⟨e, ha, hb, hc⟩ := T.kids hk
    have := h2 k hc
    rw [show t.nodes.getD k .non = .tup [natD (chA t k), natD (chB t k)] by rw [List.getD_eq_getElem?_getD, e]; rfl] at this
    have this : ((decide (1 ≤ ds.getD k 0) && decide (ds.getD k 0 ≤ 99)) && (decide (ds.getD ((chA t k : Nat) : Int).toNat 0 < ds.getD k 0) && decide (ds.getD ((chB t k : Nat) : Int).toNat 0 < ds.getD k 0))) = true := this
    simp only [Bool.and_eq_true, decide_eq_true_eq, Int.toNat_natCast] at this
    omega
theorem Dts.notIn {t : T} {h : Nat} (hh : h < t.cnt) : h ∈ t.innerIx ↔ isStr (t.nodes.getD h .non) = false := by
  unfold T.innerIx
  rw [List.mem_filter, List.mem_range]
  simp [hh]
theorem fls_si {t : T} {ds : List Int} (I : Dts t ds) : (fls t ds).Pairwise (· < ·) := by
  unfold fls
  rw [List.pairwise_cons]
  have hp := isort_perm (innerD t ds)
  refine ⟨fun x hx => ?_, ?_⟩
  · have := hp.mem_iff.mp hx
    rw [innerD_ix I.len] at this
    obtain ⟨h, hh, rfl⟩ := List.mem_map.mp this
    have := (I.inr h hh).1
    omega
  · have s1 := isort_sorted (innerD t ds)
    have s2 : (isort (innerD t ds)).Nodup := hp.nodup_iff.mpr I.nd
    exact (s1.and s2).imp fun h => by omega
theorem mem_fls {t : T} {ds : List Int} (I : Dts t ds) {h : Nat} (hh : h < t.cnt) : ds.getD h 0 ∈ fls t ds := by
  unfold fls
  cases hs : isStr (t.nodes.getD h .non) with
  | true => rw [I.lf h hh hs]; simp
  | false =>
    refine List.mem_cons_of_mem _ ((isort_perm _).mem_iff.mpr ?_)
    rw [innerD_ix I.len]
    exact List.mem_map_of_mem (f := fun h => ds.getD h 0) ((Dts.notIn hh).mpr hs)
/-- places in a rising list -/
theorem si_idx {L : List Int} (hs : L.Pairwise (· < ·)) {x : Int} (hx : x ∈ L) {l : Nat} (hl : l < L.length) : (L.idxOf x ≤ l ↔ x ≤ L.getD l 0) ∧ (l < L.idxOf x ↔ L.getD l 0 < x) := by
  have hi := List.idxOf_lt_length_of_mem hx
  have e : L[L.idxOf x] = x := List.getElem_idxOf hi
  have el : L.getD l 0 = L[l] := by rw [List.getD_eq_getElem?_getD, List.getElem?_eq_getElem hl]; rfl
  have mono := List.pairwise_iff_getElem.mp hs
  rw [el]
  have key : ∀ (i j : Nat) (hi : i < L.length) (hj : j < L.length), i < j → L[i] < L[j] := fun i j hi hj h => mono i j hi hj h
  rcases Nat.lt_trichotomy (L.idxOf x) l with q | q | q
  · have := key _ _ hi hl q
    rw [e] at this
    constructor <;> constructor <;> intro <;> omega
  · subst q
    rw [e]
    constructor <;> constructor <;> intro <;> omega
  · have := key _ _ hl hi q
    rw [e] at this
    constructor <;> constructor <;> intro <;> omega
def encP (L : List (Nat × Nat)) : List (List Key × R) := L.zipIdx.map fun p => ([.inl (p.1.1 : Int), .inl (p.1.2 : Int)], .v (.int (p.2 : Int)))
theorem encP_len (L : List (Nat × Nat)) : (encP L).length = L.length := by simp [encP]
theorem key_inj {p q : Nat × Nat} (h : ([.inl (p.1 : Int), .inl (p.2 : Int)] : List Key) = [.inl (q.1 : Int), .inl (q.2 : Int)]) : p = q := by
  simp at h
  exact Prod.ext (by have := h.1; omega) (by have := h.2; omega)
theorem encP_any {L : List (Nat × Nat)} {p : Nat × Nat} (h : p ∉ L) : ((encP L).any fun kv => decide (kv.1 = ([.inl (p.1 : Int), .inl (p.2 : Int)] : List Key))) = false := by
  rw [List.any_eq_false]
  intro kv hkv
  obtain ⟨q, hq, rfl⟩ := List.mem_map.mp hkv
  simp only [decide_eq_true_eq]
  intro e
  have e2 : q.1 = p := key_inj (p := q.1) (q := p) e
  exact h (by rw [← e2]; exact List.fst_mem_of_mem_zipIdx hq)
theorem encP_put {L : List (Nat × Nat)} {p : Nat × Nat} (h : p ∉ L) : putT (encP L) [.inl (p.1 : Int), .inl (p.2 : Int)] (.v (.int (L.length : Int))) = encP (L ++ [p]) := by
  unfold putT
  rw [encP_any h]
  simp [encP, List.zipIdx_append]
theorem encP_val {L : List (Nat × Nat)} {p : Nat × Nat} (h : p ∈ L) : valT (encP L) [.inl (p.1 : Int), .inl (p.2 : Int)] = some (.v (.int (L.idxOf p : Int))) := by
  have key : ∀ (L : List (Nat × Nat)) (k : Nat), p ∈ L → ((L.zipIdx k).map fun p => (([.inl (p.1.1 : Int), .inl (p.1.2 : Int)] : List Key), R.v (.int (p.2 : Int)))).find? (fun kv => decide (kv.1 = ([.inl (p.1 : Int), .inl (p.2 : Int)] : List Key))) = some ([.inl (p.1 : Int), .inl (p.2 : Int)], .v (.int ((k + L.idxOf p : Nat) : Int))) := by
    intro L
    induction L with
    | nil => intro k h; simp at h
    | cons q L ih =>
      intro k h
      rw [List.zipIdx_cons, List.map_cons]
      by_cases hq : q = p
      · subst hq
        rw [List.find?_cons_of_pos (by simp), List.idxOf_cons_self]; rfl
      · rw [List.find?_cons_of_neg (by simp only [decide_eq_true_eq]; exact fun e => hq (key_inj (p := q) (q := p) e)), ih (k + 1) (by simpa [Ne.symm hq] using h), List.idxOf_cons, show (q == p) = false by simpa using hq]
        simp; omega
  have := key L 0 h
  unfold valT
  rw [show encP L = (L.zipIdx 0).map fun p => (([.inl (p.1.1 : Int), .inl (p.1.2 : Int)] : List Key), R.v (.int (p.2 : Int))) from rfl, this]
  simp
theorem standL_mem {t : T} {ds : List Int} {l n : Nat} {p : Nat × Nat} : p ∈ standL t ds l n ↔ p.2 = l ∧ p.1 < n ∧ stands t ds l p.1 = true := by
  unfold standL
  simp only [List.mem_map, List.mem_filter, List.mem_range]
  constructor
  · rintro ⟨h, ⟨h1, h2⟩, rfl⟩; exact ⟨rfl, h1, h2⟩
  · rintro ⟨h1, h2, h3⟩; exact ⟨p.1, ⟨h2, h3⟩, by rw [← h1]⟩
theorem standTo_mem {t : T} {ds : List Int} {n : Nat} {p : Nat × Nat} : p ∈ standTo t ds n ↔ p.2 < n ∧ p.1 < t.cnt ∧ stands t ds p.2 p.1 = true := by
  unfold standTo
  simp only [List.mem_flatMap, List.mem_range, standL_mem]
  constructor
  · rintro ⟨l, h1, h2, h3, h4⟩; subst h2; exact ⟨h1, h3, h4⟩
  · rintro ⟨h1, h2, h3⟩; exact ⟨p.2, h1, rfl, h2, h3⟩
theorem standTo_succ (t : T) (ds : List Int) (n : Nat) : standTo t ds (n + 1) = standTo t ds n ++ standL t ds n t.cnt := by
  unfold standTo
  rw [List.range_succ, List.flatMap_append, List.flatMap_singleton]
theorem standL_succ (t : T) (ds : List Int) (l n : Nat) : standL t ds l (n + 1) = standL t ds l n ++ (if stands t ds l n = true then [(n, l)] else []) := by
  unfold standL
  rw [List.range_succ, List.filter_append, List.map_append]
  cases h : stands t ds l n <;> simp [h]
theorem standL_len (t : T) (ds : List Int) (l n : Nat) : (standL t ds l n).length ≤ n := by
  unfold standL
  rw [List.length_map]
  exact Nat.le_trans (List.length_filter_le _ _) (by simp)
theorem standTo_len (t : T) (ds : List Int) (n : Nat) : (standTo t ds n).length ≤ n * t.cnt := by
  induction n with
  | zero => simp [standTo]
  | succ n ih =>
    rw [standTo_succ, List.length_append, Nat.succ_mul]
    have := standL_len t ds n t.cnt
    omega
theorem fls_len (t : T) (ds : List Int) (hl : ds.length = t.cnt) : (fls t ds).length ≤ t.cnt + 1 := by
  unfold fls
  rw [List.length_cons, (isort_perm _).length_eq, innerD_ix hl, List.length_map]
  unfold T.innerIx
  have := List.length_filter_le (fun h => !isStr (t.nodes.getD h .non)) (List.range t.cnt)
  rw [List.length_range] at this
  omega
/-- who stands somewhere, stood in the slice below, or his two did -/
theorem stands_low {t : T} {ds : List Int} (I : Dts t ds) {l h : Nat} (hl : l < (fls t ds).length) (hh : h < t.cnt) (hs : stands t ds l h = true) :
    (ds.getD h 0 < (fls t ds).getD l 0 → 1 ≤ l ∧ (h, l - 1) ∈ standing t ds) ∧ (¬ ds.getD h 0 < (fls t ds).getD l 0 → isStr (t.nodes.getD h .non) = false → 1 ≤ l ∧ (chA t h, l - 1) ∈ standing t ds ∧ (chB t h, l - 1) ∈ standing t ds) := by
  have si := fls_si I
  have hm := mem_fls I hh
  have h1 := si_idx si hm hl
  have z0 : (fls t ds).getD 0 0 = 0 := rfl
  have pos : 0 ≤ ds.getD h 0 := by
    cases e : isStr (t.nodes.getD h .non) with
    | true => rw [I.lf h hh e]; omega
    | false => have := (I.inr h ((Dts.notIn hh).mpr e)).1; omega
  unfold stands at hs
  simp only [Bool.and_eq_true, decide_eq_true_eq] at hs
  refine ⟨fun hlt => ?_, fun hge hi => ?_⟩
  · have hl1 : 1 ≤ l := by
      rcases Nat.eq_zero_or_pos l with z | z
      · subst z; rw [z0] at hlt; omega
      · exact z
    refine ⟨hl1, standTo_mem.mpr ⟨by simp; omega, hh, ?_⟩⟩
    have hl' : l - 1 < (fls t ds).length := by omega
    have h2 := si_idx si hm hl'
    have q1 : (fls t ds).idxOf (ds.getD h 0) < l := by
      rcases Nat.lt_or_ge ((fls t ds).idxOf (ds.getD h 0)) l with q | q
      · exact q
      · have : (fls t ds).idxOf (ds.getD h 0) = l := by have := h1.1.mpr hs.1; omega
        have e := List.getElem_idxOf (List.idxOf_lt_length_of_mem hm)
        have el : (fls t ds).getD l 0 = (fls t ds)[l] := by rw [List.getD_eq_getElem?_getD, List.getElem?_eq_getElem hl]; rfl
        rw [el] at hlt
        simp only [this] at e
        omega
    have q2 : (fls t ds).getD (l - 1) 0 < (fls t ds).getD l 0 := by
      have := List.pairwise_iff_getElem.mp si (l - 1) l hl' hl (by omega)
      simpa [List.getD_eq_getElem?_getD, List.getElem?_eq_getElem hl, List.getElem?_eq_getElem hl'] using this
    unfold stands
    simp only [Bool.and_eq_true, decide_eq_true_eq]
    refine ⟨h2.1.mp (by omega), ?_⟩
    have hs2 := hs.2
    split at hs2
    · rfl
    · simp only [decide_eq_true_eq] at hs2 ⊢; omega
  · have hi2 := (Dts.notIn hh).mpr hi
    obtain ⟨ek, ha, hb, _⟩ := T.kids hi2
    obtain ⟨d1, d2, d3, d4⟩ := I.inr h hi2
    have e : ds.getD h 0 = (fls t ds).getD l 0 := by omega
    have hl1 : 1 ≤ l := by
      rcases Nat.eq_zero_or_pos l with z | z
      · subst z; rw [z0] at e; omega
      · exact z
    have hl' : l - 1 < (fls t ds).length := by omega
    obtain ⟨ka, kb⟩ := T.ahead_kid ek
    have q2 : (fls t ds).getD (l - 1) 0 < (fls t ds).getD l 0 := by
      have := List.pairwise_iff_getElem.mp si (l - 1) l hl' hl (by omega)
      simpa [List.getD_eq_getElem?_getD, List.getElem?_eq_getElem hl, List.getElem?_eq_getElem hl'] using this
    have low : ∀ c, c < t.cnt → t.ahead[c]? = some (some h) → ds.getD c 0 < ds.getD h 0 → (c, l - 1) ∈ standing t ds := by
      intro c hc hac hcd
      refine standTo_mem.mpr ⟨by simp; omega, hc, ?_⟩
      unfold stands
      rw [show t.ahead.getD c none = some h by rw [List.getD_eq_getElem?_getD, hac]; rfl]
      simp only [Bool.and_eq_true, decide_eq_true_eq]
      refine ⟨(si_idx si (mem_fls I hc) hl').1.mp ?_, by omega⟩
      have := (si_idx si (mem_fls I hc) hl).2
      rcases Nat.lt_or_ge ((fls t ds).idxOf (ds.getD c 0)) l with q | q
      · omega
      · rcases Nat.lt_or_ge l ((fls t ds).idxOf (ds.getD c 0)) with q3 | q3
        · have := this.mp q3; omega
        · have e3 : (fls t ds).idxOf (ds.getD c 0) = l := by omega
          have e4 := List.getElem_idxOf (List.idxOf_lt_length_of_mem (mem_fls I hc))
          simp only [e3] at e4
          have el : (fls t ds).getD l 0 = (fls t ds)[l] := by rw [List.getD_eq_getElem?_getD, List.getElem?_eq_getElem hl]; rfl
          omega
    exact ⟨hl1, low _ (by omega) ka d3, low _ (by omega) kb d4⟩
theorem standing_mem {t : T} {ds : List Int} {h l : Nat} : (h, l) ∈ standing t ds ↔ l < (fls t ds).length ∧ h < t.cnt ∧ stands t ds l h = true := standTo_mem
end M
namespace Q
open PySem hiding Env
open L2 M
theorem mtIndex_ints {ns : List Int} {x : Int} {S : Store} (h : x ∈ ns) : mtIndex (.v (.lst (ns.map D.int))) [.v (.int x)] S = .ok (.v (.int (ns.idxOf x : Int))) S := by
  have e : (ns.map PyData.int).findIdx? (fun z => PyData.eqv z (.int x)) = some (ns.idxOf x) := by
    induction ns with
    | nil => simp at h
    | cons n ns ih =>
      rw [List.map_cons, List.findIdx?_cons, show PyData.eqv (.int n) (.int x) = (n == x) by simp [PyData.eqv], List.idxOf_cons]
      by_cases hn : n = x
      · simp [hn]
      · have hm : x ∈ ns := by simpa [Ne.symm hn] using h
        simp [hn, ih hm, show (n == x) = false by simpa using hn]
  simp only [mtIndex, pyOf_v, pyS_lints, pyS_int, e]
/-- an instance of the slices of dates of a tree -/
structure SlIn (t : T) (ds : List Int) (S : Store) (n p : Nat) : Prop where
  ins : S[n]? = some (.ins "Slices" (fs_Slices (.v (.tup t.nodes)) (.v (.tup (t.ahead.map oD))) (.v (.tup (ds.map D.int))) (.v (.lst ((fls t ds).map D.int))) (.ref p)))
theorem first_slice_spec {t : T} {ds : List Int} {S : Store} {n p h : Nat} (I : Dts t ds) (hi : SlIn t ds S n p) (hh : h < t.cnt) : M_Slices_first_slice [.ref n, .v (.int (h : Int))] S = .ok (.v (.int ((fls t ds).idxOf (ds.getD h 0) : Int))) S := by
  refine eq_wE ?_
  simp_arith [M_Slices_first_slice, m_Slices_first_slice, fldR_get hi.ins (fs_Slices_at_floors ..), fldR_get hi.ins (fs_Slices_at_dates ..), opIx_tup (intD_get (show h < ds.length by rw [I.len]; exact hh)), mtIndex_ints (mem_fls I hh)]
theorem ahead_at {t : T} {h : Nat} (hh : h < t.cnt) : atI (t.ahead.map oD) (h : Int) = some (oD (t.ahead.getD h none)) := by
  have := t.ahead_len
  rw [atI_map, atI_lt (by omega), show ((h : Nat) : Int).toNat = h by omega, List.getD_eq_getElem?_getD, List.getElem?_eq_getElem (by omega)]; rfl
theorem last_slice_spec {t : T} {ds : List Int} {S : Store} {n p h : Nat} (I : Dts t ds) (hi : SlIn t ds S n p) (hh : h < t.cnt) : M_Slices_last_slice [.ref n, .v (.int (h : Int))] S = .ok (.v (.int (match t.ahead.getD h none with
    | none => ((fls t ds).length : Int) - 1
    | some q => ((fls t ds).idxOf (ds.getD q 0) : Int) - 1))) S := by
  refine eq_wE ?_
  cases e : t.ahead.getD h none with
  | none => simp_arith [M_Slices_last_slice, m_Slices_last_slice, fldR_get hi.ins (fs_Slices_at_floors ..), fldR_get hi.ins (fs_Slices_at_aheads ..), opIx_tup (ahead_at hh), e, oD, List.length_map]
  | some q =>
    have hq : q < t.cnt := by
      have l := t.ahead_len
      obtain ⟨a, b, e2, _⟩ := T.ahead_par (t := t) (i := h) (p := q) (by rw [List.getD_eq_getElem?_getD, List.getElem?_eq_getElem (by omega)] at e; rw [List.getElem?_eq_getElem (by omega)]; simpa using e)
      have := (List.getElem?_eq_some_iff.mp e2).1
      rw [t.nodes_len] at this; exact this
    simp_arith [M_Slices_last_slice, m_Slices_last_slice, fldR_get hi.ins (fs_Slices_at_floors ..), fldR_get hi.ins (fs_Slices_at_aheads ..), fldR_get hi.ins (fs_Slices_at_dates ..), opIx_tup (ahead_at hh), e, oD, opIx_tup (intD_get (show q < ds.length by rw [I.len]; exact hq)), mtIndex_ints (mem_fls I hq)]
theorem dSorted {ns : List Int} {S : Store} : biSorted [.v (.lst (ns.map D.int))] S = .ok (.ref S.length) (S ++ [.lst ((isort ns).map fun i => R.int i)]) := by
  have := intsOf_map ns
  simp only [biSorted, lstOf, List.map_map, Option.bind_some]
  rw [show (R.v ∘ D.int) = fun x => R.v (.int x) from rfl, this]
theorem popSorted_eq {ns : List Int} {S : Store} {K : Out R → Prop} : wE (biSorted [.v (.lst (ns.map D.int))] S) (kB (fun r S' => popV S r S') K) = K (.ok (.v (.lst ((isort ns).map D.int))) S) := by
  unfold wE kB
  rw [dSorted, Out.bind_ok, show ((isort ns).map fun i => R.int i) = ((isort ns).map D.int).map .v by rw [List.map_map]; rfl, popV_new]
theorem stand_iff {t : T} {ds : List Int} (I : Dts t ds) {l h : Nat} (hl : l < (fls t ds).length) (hh : h < t.cnt) :
    (decide (((fls t ds).idxOf (ds.getD h 0) : Int) ≤ (l : Int)) && decide ((l : Int) ≤ (match t.ahead.getD h none with
      | none => ((fls t ds).length : Int) - 1
      | some q => ((fls t ds).idxOf (ds.getD q 0) : Int) - 1))) = stands t ds l h := by
  have si := fls_si I
  have h1 := si_idx si (mem_fls I hh) hl
  unfold stands
  congr 1
  · exact decide_eq_decide.mpr (by rw [← h1.1]; omega)
  · cases e : t.ahead.getD h none with
    | none => simp only; exact decide_eq_true (by omega)
    | some q =>
      have hq : q < t.cnt := by
        have l := t.ahead_len
        obtain ⟨a, b, e2, _⟩ := T.ahead_par (t := t) (i := h) (p := q) (by rw [List.getD_eq_getElem?_getD, List.getElem?_eq_getElem (by omega)] at e; rw [List.getElem?_eq_getElem (by omega)]; simpa using e)
        have := (List.getElem?_eq_some_iff.mp e2).1
        rw [t.nodes_len] at this; exact this
      have h2 := si_idx si (mem_fls I hq) hl
      simp only
      exact decide_eq_decide.mpr (by rw [← h2.2]; omega)
theorem init_spec {t : T} {ds : List Int} {S : Store} (I : Dts t ds) (hd : t.depth < 70) (hz : t.ls.length ≤ 1000) :
    M_Slices___init__ [.ref S.length, .v t.d, .v (.tup (ds.map D.int))] (S ++ [.ins "Slices" []]) = .ok (.v .non) (S ++ [.ins "Slices" (fs_Slices (.v (.tup t.nodes)) (.v (.tup (t.ahead.map oD))) (.v (.tup (ds.map D.int))) (.v (.lst ((fls t ds).map D.int))) (.ref (S.length + 1))), .dT (encP (standing t ds))]) := by
  have cl := t.cnt_ls
  have fl := fls_len t ds I.len
  have il : (innerD t ds).length ≤ t.cnt := by
    have : (fls t ds).length = (innerD t ds).length + 1 := by unfold fls; rw [List.length_cons, (isort_perm _).length_eq]
    omega
  refine eq_wE ?_
  simp_arith [M_Slices___init__, m_Slices___init__, setFldR_L0 _ _ _ _ _ _ _ (show ([] : List (Str × R)).length < 1000 by decide), nodes_spec hd (show t.ls.length ≤ 1000000 by omega), ahead_of_spec hd (show t.ls.length ≤ 100000 by omega), fs_Slices0_put, setFldR_L0 _ _ _ _ (fs_Slices1 _) _ _ (show 1 < 1000 by decide), setFldR_L0 _ _ _ _ (fs_Slices2 _ _) _ _ (show 2 < 1000 by decide), setFldR_L0 _ _ _ _ (fs_Slices3 _ _ _) _ _ (show 3 < 1000 by decide), setFldR_L0 _ _ _ _ (fs_Slices4 _ _ _ _) _ _ (show 4 < 1000 by decide),
    fs_Slices1_put_aheads, fs_Slices2_put_dates, fs_Slices3_put_floors, fs_Slices4_put_places, inner_dates_spec hd hz (show ds.length ≤ 100000 by rw [I.len]; omega), popSorted_eq, popAdd_eq (show [D.int 0].length + ((isort (innerD t ds)).map D.int).length ≤ sizeLine from sz_of (by rw [List.length_map, (isort_perm _).length_eq]; simp; omega))]
  have ef : (D.lst (D.int 0 :: List.map D.int (isort (innerD t ds)))) = D.lst ((fls t ds).map D.int) := rfl
  rw [ef]
  have hr1 : ∀ S : Store, rg1 [.v (.int ((fls t ds).length : Int))] S = .ok ⟨rangeD 0 (fls t ds).length, []⟩ S := fun S => by rw [rg1_int (by omega) (by omega), Int.toNat_natCast]
  have hr2 : ∀ S : Store, rg1 [.v (.int (t.cnt : Int))] S = .ok ⟨rangeD 0 t.cnt, []⟩ S := fun S => by rw [rg1_int (by omega) (by omega), Int.toNat_natCast]
  simp_arith [fldR_L0 _ _ _ (fs_Slices _ _ _ _ _) _ (fs_Slices_at_floors ..), List.length_map, hr1]
  generalize hfs : fs_Slices (.v (.tup t.nodes)) (.v (.tup (t.ahead.map oD))) (.v (.tup (ds.map D.int))) (.v (.lst ((fls t ds).map D.int))) (.ref (S.length + 1)) = fs
  have a1 : fs.lookup ("rows" : Str) = some (.v (.tup t.nodes)) := by rw [← hfs]; rfl
  have a2 : fs.lookup ("places" : Str) = some (.ref (S.length + 1)) := by rw [← hfs]; rfl
  have n1 : fs.lookup ("first_slice" : Str) = none := by rw [← hfs]; rfl
  have n2 : fs.lookup ("last_slice" : Str) = none := by rw [← hfs]; rfl
  refine for_wp [3, 4] (fun l ws T => ∃ a b, ws = [a, b] ∧ l ≤ (fls t ds).length ∧ T = S ++ [.ins "Slices" fs, .dT (encP (standTo t ds l))]) rfl ⟨none, none, rfl, by omega, rfl⟩ ?_ ?_
  · rintro l d ws T hd ⟨a, b, rfl, _, rfl⟩
    obtain ⟨hl, rfl⟩ := rangeD_get hd
    simp_arith [b2_Slices___init__, fldR_L0 _ _ _ _ _ a1, t.nodes_len, hr2]
    refine for_wp [4] (fun h ws T => ∃ b, ws = [b] ∧ h ≤ t.cnt ∧ T = S ++ [.ins "Slices" fs, .dT (encP (standTo t ds l ++ standL t ds l h))]) rfl ⟨b, rfl, by omega, by simp [standL]⟩ ?_ ?_
    · rintro h d ws T hd ⟨b, rfl, _, rfl⟩
      obtain ⟨hh, rfl⟩ := rangeD_get hd
      simp only [Int.zero_add]
      have hi : SlIn t ds (S ++ [.ins "Slices" fs, .dT (encP (standTo t ds l ++ standL t ds l h))]) S.length (S.length + 1) := ⟨by rw [get_len, ← hfs]⟩
      have hst := stand_iff I hl hh
      have hsz : (standTo t ds l ++ standL t ds l h).length < 5000000 := by
        have q1 := standTo_len t ds l
        have q2 := standL_len t ds l h
        have q3 : l * t.cnt ≤ 2000 * 2000 := Nat.mul_le_mul (by omega) (by omega)
        rw [List.length_append]; omega
      have hk : dtOf (S ++ [.ins "Slices" fs, .dT (encP (standTo t ds l ++ standL t ds l h))]) (.ref (S.length + 1)) = some (encP (standTo t ds l ++ standL t ds l h)) := dtOf_T (get_L1 rfl _ _ [])
      have hput : ∀ m d, setTR m (.ref (S.length + 1)) (.v (.tup [.int (h : Int), .int (l : Int)])) d (S ++ [.ins "Slices" fs, .dT (encP (standTo t ds l ++ standL t ds l h))]) = .nx m (S ++ [.ins "Slices" fs, .dT (putT (encP (standTo t ds l ++ standL t ds l h)) [.inl (h : Int), .inl (l : Int)] d)]) := fun m d => by
        rw [setTR_get (get_L1 rfl _ _ []) rfl (by rw [encP_len]; exact sz_lt (by omega)), set_L1 rfl]
      simp_arith [b1_Slices___init__, methR_L0 _ _ _ _ _ _ n1, methR_L0 _ _ _ _ _ _ n2, first_slice_spec I hi hh, last_slice_spec I hi hh]
      cases h1 : decide (((fls t ds).idxOf (ds.getD h 0) : Int) ≤ (l : Int)) with
      | false =>
        rw [h1, Bool.false_and] at hst
        simp_arith []
        exact ⟨_, rfl, by omega, by rw [standL_succ, ← hst]; simp⟩
      | true =>
        rw [h1, Bool.true_and] at hst
        simp_arith [hst, last_slice_spec I hi hh, methR_L0 _ _ _ _ _ _ n2]
        cases h2 : stands t ds l h with
        | false =>
          simp_arith []
          exact ⟨_, rfl, by omega, by rw [standL_succ, h2]; simp⟩
        | true =>
          simp_arith [fldR_L0 _ _ _ _ _ a2, biLenT_get hk, hput]
          refine ⟨_, rfl, by omega, ?_⟩
          have hni : (h, l) ∉ standTo t ds l ++ standL t ds l h := by
            rw [List.mem_append, standTo_mem, standL_mem]
            simp only
            omega
          rw [encP_len, encP_put hni, standL_succ, h2, List.append_assoc]
          simp
    · rintro ws T ⟨b, rfl, _, rfl⟩
      simp_arith []
      exact ⟨_, _, rfl, by omega, by rw [standTo_succ, rangeD_len]⟩
  · rintro ws T ⟨a, b, rfl, _, rfl⟩
    simp_arith [rangeD_len]
    rfl
theorem dtOf_encP {t : T} {ds : List Int} {S : Store} {p h l : Nat} (hp : dtOf S (.ref p) = some (encP (standing t ds))) (hm : (h, l) ∈ standing t ds) : opIxT (.ref p) (.v (.tup [.int (h : Int), .int (l : Int)])) S = .ok (.v (.int (pix t ds h l : Int))) S :=
  opIxT_get hp rfl (encP_val (p := (h, l)) hm)
theorem node_at {t : T} {h : Nat} (hh : h < t.cnt) : atI t.nodes (h : Int) = some (t.nodes.getD h .non) := by
  have := t.nodes_len
  rw [atI_lt (by omega), show ((h : Nat) : Int).toNat = h by omega, List.getD_eq_getElem?_getD, List.getElem?_eq_getElem (by omega)]; rfl
theorem node_nt {t : T} {h : Nat} (hh : h < t.cnt) : notTy (t.nodes.getD h .non) = true := T.notTy_nodes t 0 _ (by rw [List.getD_eq_getElem?_getD, List.getElem?_eq_getElem (by rw [t.nodes_len]; exact hh)]; exact List.getElem_mem _)
theorem under_of_spec {t : T} {ds : List Int} {S : Store} {n p h l : Nat} (I : Dts t ds) (hi : SlIn t ds S n p) (hp : dtOf S (.ref p) = some (encP (standing t ds))) (hm : (h, l) ∈ standing t ds) :
    M_Slices_under_of [.ref n, .v (.int (h : Int)), .v (.int (l : Int))] S = .ok (.v (.tup ((undr t ds h l).map natD))) S := by
  obtain ⟨hl, hh, hs⟩ := standing_mem.mp hm
  obtain ⟨k1, k2⟩ := stands_low I hl hh hs
  have h1 := si_idx (fls_si I) (mem_fls I hh) hl
  refine eq_wE ?_
  simp_arith [M_Slices_under_of, m_Slices_under_of, fldR_get hi.ins (fs_Slices_at_rows ..), opIx_tup (node_at hh), methR_get hi.ins (fs_Slices_no_first_slice ..), first_slice_spec I hi hh]
  by_cases q : ds.getD h 0 < (fls t ds).getD l 0
  · obtain ⟨z, k⟩ := k1 q
    have hlt : ((fls t ds).idxOf (ds.getD h 0) : Int) < (l : Int) := by
      have e := List.getElem_idxOf (List.idxOf_lt_length_of_mem (mem_fls I hh))
      have := h1.1.mpr (by omega)
      rcases Nat.lt_or_ge ((fls t ds).idxOf (ds.getD h 0)) l with w | w
      · omega
      · have e3 : (fls t ds).idxOf (ds.getD h 0) = l := by omega
        simp only [e3] at e
        have el : (fls t ds).getD l 0 = (fls t ds)[l] := by rw [List.getD_eq_getElem?_getD, List.getElem?_eq_getElem hl]; rfl
        omega
    have el : ((l : Int) - 1) = ((l - 1 : Nat) : Int) := by omega
    simp_arith [decide_eq_true hlt, fldR_get hi.ins (fs_Slices_at_places ..), el, dtOf_encP hp k]
    rw [undr, if_pos q]; rfl
  · have hlt : ¬ ((fls t ds).idxOf (ds.getD h 0) : Int) < (l : Int) := by
      intro w
      have := List.pairwise_iff_getElem.mp (fls_si I) ((fls t ds).idxOf (ds.getD h 0)) l (List.idxOf_lt_length_of_mem (mem_fls I hh)) hl (by omega)
      rw [List.getElem_idxOf] at this
      have el : (fls t ds).getD l 0 = (fls t ds)[l] := by rw [List.getD_eq_getElem?_getD, List.getElem?_eq_getElem hl]; rfl
      omega
    have hnt : notTy (t.nodes.getD h .non) = true := T.notTy_nodes t 0 _ (by rw [List.getD_eq_getElem?_getD, List.getElem?_eq_getElem (by rw [t.nodes_len]; exact hh)]; exact List.getElem_mem _)
    simp_arith [decide_eq_false hlt, isi_str _ hnt]
    cases hs2 : isStr (t.nodes.getD h .non) with
    | true =>
      simp_arith []
      rw [undr, if_neg q, if_pos hs2]; rfl
    | false =>
      obtain ⟨z, ka, kb⟩ := k2 q hs2
      have hin := (Dts.notIn hh).mpr hs2
      have ek : t.nodes.getD h .non = .tup [.int (chA t h : Int), .int (chB t h : Int)] := by rw [List.getD_eq_getElem?_getD, (T.kids hin).1]; rfl
      have el : ((l : Int) - 1) = ((l - 1 : Nat) : Int) := by omega
      have i0 : ∀ S, opIx (.v (t.nodes.getD h .non)) (.v (.int 0)) S = .ok (.v (.int (chA t h : Int))) S := fun S => by rw [ek]; exact opIx_tup (atI_0 _ _)
      have i1 : ∀ S, opIx (.v (t.nodes.getD h .non)) (.v (.int 1)) S = .ok (.v (.int (chB t h : Int))) S := fun S => by rw [ek]; exact opIx_tup (atI_1 _ _ _)
      simp_arith [i0, i1, fldR_get hi.ins (fs_Slices_at_places ..), el, dtOf_encP hp ka, dtOf_encP hp kb]
      rw [undr, if_neg q, hs2]; rfl
theorem itemsT_encP (L : List (Nat × Nat)) : itemsT (encP L) = some (L.zipIdx.map fun p => R.v (.tup [.tup [.int (p.1.1 : Int), .int (p.1.2 : Int)], .int (p.2 : Int)])) := by
  have key : ∀ (L : List (Nat × Nat)) (k : Nat), itemsT ((L.zipIdx k).map fun p => (([.inl (p.1.1 : Int), .inl (p.1.2 : Int)] : List Key), R.v (.int (p.2 : Int)))) = some ((L.zipIdx k).map fun p => R.v (.tup [.tup [.int (p.1.1 : Int), .int (p.1.2 : Int)], .int (p.2 : Int)])) := by
    intro L
    induction L with
    | nil => intro k; rfl
    | cons q L ih =>
      intro k
      have := ih (k + 1)
      unfold itemsT at this ⊢
      simp only [List.zipIdx_cons, List.map_cons, List.mapM_cons, this, show ∀ d, vOf (R.v d) = some d from fun _ => rfl, Option.map_some, dKey, List.map_nil]
      rfl
  exact key L 0
theorem beside_of_spec {t : T} {ds : List Int} {S : Store} {n p h l : Nat} (hi : SlIn t ds S n p) (hp : S[p]? = some (.lkT (encP (standing t ds)))) (hz : (standing t ds).length ≤ 10000000) :
    M_Slices_beside_of [.ref n, .v (.int (h : Int)), .v (.int (l : Int))] S = .ok (.v (.tup ((besd t ds h l).map natD))) S := by
  refine eq_wE ?_
  simp_arith [M_Slices_beside_of, m_Slices_beside_of]
  have hla : laF "Slices" "places" (laV 0) [some (.ref n), some (.v (.int (h : Int))), some (.v (.int (l : Int))), none, none, none] S = some p := by
    simp only [laF, laV, List.getElem?_cons_zero, insOf_get hi.ins, Option.bind_some, fs_Slices_at_places]
  refine lockE_in hla (by unfold isLk; rw [hp]) ?_
  simp_arith [fldR_get hi.ins (fs_Slices_at_places ..), lkD_get hp, itemsT_encP]
  refine lc_wp ((standing t ds).zipIdx) (fun p => R.v (.tup [.tup [.int (p.1.1 : Int), .int (p.1.2 : Int)], .int (p.2 : Int)])) (fun p => decide (p.1.2 = l) && !decide (p.1.1 = h)) (fun p => natD p.2) rfl (.refl S) (sz_of (by rw [List.length_zipIdx]; omega)) ?_ ?_
  · rintro ⟨⟨h', l'⟩, i⟩ hx acc
    simp_arith []
    have e1 : ((l' : Int) == (l : Int)) = decide (l' = l) := by by_cases q : l' = l <;> simp [q]; omega
    have e2 : ((h' : Int) == (h : Int)) = decide (h' = h) := by by_cases q : h' = h <;> simp [q]; omega
    refine ⟨?_, fun _ => rfl⟩
    rw [e1, e2]
    cases decide (l' = l) <;> rfl
  · simp_arith []
    rw [besd, List.map_map]
    rfl
theorem keysT_encP (L : List (Nat × Nat)) : keysT (encP L) = L.map fun p => R.v (.tup [.int (p.1 : Int), .int (p.2 : Int)]) := by
  unfold keysT encP
  rw [List.map_map]
  have : ∀ (L : List (Nat × Nat)) (k : Nat), (L.zipIdx k).map ((fun kv : List Key × R => R.v (.tup (kv.1.map dKey))) ∘ fun p => ([.inl (p.1.1 : Int), .inl (p.1.2 : Int)], .v (.int (p.2 : Int)))) = L.map fun p => R.v (.tup [.int (p.1 : Int), .int (p.2 : Int)]) := by
    intro L
    induction L with
    | nil => intro k; rfl
    | cons q L ih => intro k; rw [List.zipIdx_cons, List.map_cons, ih]; rfl
  exact this L 0
theorem standing_len {t : T} {ds : List Int} (I : Dts t ds) (hz : t.ls.length ≤ 1000) : (standing t ds).length ≤ 5000000 := by
  have cl := t.cnt_ls
  have fl := fls_len t ds I.len
  have q1 := standTo_len t ds (fls t ds).length
  have q3 : (fls t ds).length * t.cnt ≤ 2000 * 2000 := Nat.mul_le_mul (by omega) (by omega)
  unfold standing; omega
theorem dated_spec {t : T} {ds : List Int} {S : Store} (I : Dts t ds) (hd : t.depth < 70) (hz : t.ls.length ≤ 1000) : M_dated_2 [.v t.d, .v (.tup (ds.map D.int))] S = .ok (.v (.tup (t.dated ds))) S := by
  have hl := standing_len I hz
  refine eq_wE ?_
  simp_arith [M_dated_2, m_dated_2, init_spec I hd hz]
  generalize hfs : fs_Slices (.v (.tup t.nodes)) (.v (.tup (t.ahead.map oD))) (.v (.tup (ds.map D.int))) (.v (.lst ((fls t ds).map D.int))) (.ref (S.length + 1)) = fs
  have ap : fs.lookup ("places" : Str) = some (.ref (S.length + 1)) := by rw [← hfs]; rfl
  have ar : fs.lookup ("rows" : Str) = some (.v (.tup t.nodes)) := by rw [← hfs]; rfl
  have n1 : fs.lookup ("under_of" : Str) = none := by rw [← hfs]; rfl
  have n2 : fs.lookup ("beside_of" : Str) = none := by rw [← hfs]; rfl
  have hla : laF "Slices" "places" (laV 2) [some (.v t.d), some (.v (.tup (ds.map D.int))), some (.ref S.length), some (.ref (S.length + (1 + 1))), none, none, none] (S ++ [.ins "Slices" fs, .dT (encP (standing t ds)), .lst []]) = some (S.length + 1) := by
    simp only [laF, laV, List.getElem?_cons_zero, List.getElem?_cons_succ, insOf_get (get_len S (.ins "Slices" fs) _), Option.bind_some, ap]
  refine lockS_run (l := .lkT (encP (standing t ds))) hla (get_L1 rfl _ _ _) rfl ?_
  rw [set_L1 rfl]
  simp_arith [fldR_L0 _ _ _ _ _ ap, lkD_get (get_L1 rfl _ _ _), keysT_encP]
  refine for_wp [4, 5, 6] (fun i ws T => ∃ a b c, ws = [a, b, c] ∧ T = S ++ [.ins "Slices" fs, .lkT (encP (standing t ds)), .lst (((standing t ds).take i).map fun p => .v (stayOf t ds p))]) rfl ⟨_, _, _, rfl, rfl⟩ ?_ ?_
  · rintro i d ws T hd ⟨a, b, c, rfl, rfl⟩
    rw [List.getElem?_map] at hd
    obtain ⟨⟨h, l⟩, hp, rfl⟩ := Option.map_eq_some_iff.mp hd
    have hm : (h, l) ∈ standing t ds := List.mem_of_getElem? hp
    obtain ⟨hlf, hh, hs⟩ := standing_mem.mp hm
    have hil := (List.getElem?_eq_some_iff.mp hp).1
    generalize hT : S ++ [MO.ins "Slices" fs, .lkT (encP (standing t ds)), .lst (((standing t ds).take i).map fun p => R.v (stayOf t ds p))] = T
    have g0 : T[S.length]? = some (.ins "Slices" fs) := by rw [← hT]; exact get_len S _ _
    have g1 : T[S.length + 1]? = some (.lkT (encP (standing t ds))) := by rw [← hT]; exact get_L1 rfl _ _ _
    have g2 : T[S.length + 2]? = some (.lst (((standing t ds).take i).map fun p => R.v (stayOf t ds p))) := by rw [← hT]; exact get_L2 rfl _ _ _ _
    have hi : SlIn t ds T S.length (S.length + 1) := ⟨by rw [hfs]; exact g0⟩
    have hnt := node_nt hh
    simp_arith [b1_dated_2, fldR_get g0 ar, opIx_tup (node_at hh), name_of_spec hnt]
    have s3 : (((standing t ds).take i).map fun p => R.v (stayOf t ds p)).length < sizeLine := sz_lt (by rw [List.length_map, List.length_take]; omega)
    simp_arith [tyOk_lst g2, methR_get g0 n1, under_of_spec I hi (dtOf_L g1) hm, methR_get g0 n2, beside_of_spec hi g1 (show (standing t ds).length ≤ 10000000 by omega), mtAppend_ref g2 s3]
    refine ⟨_, _, _, rfl, ?_⟩
    rw [← hT, set_L2 rfl, List.take_succ, List.getElem?_eq_getElem hil]
    have : (standing t ds)[i] = (h, l) := by rw [List.getElem?_eq_getElem hil] at hp; exact Option.some.inj hp
    simp [this, stayOf, natD]
  · rintro ws T ⟨a, b, c, rfl, rfl⟩
    refine ⟨_, get_L1 rfl _ _ _, .inl ⟨_, rfl, ?_⟩⟩
    rw [set_L1 rfl, List.length_map, List.take_length]
    have g2 : (S ++ [MO.ins "Slices" fs, .dT (encP (standing t ds)), .lst ((standing t ds).map fun p => R.v (stayOf t ds p))])[S.length + 2]? = some (.lst ((t.dated ds).map .v)) := by rw [get_L2 rfl, T.dated, List.map_map]; rfl
    simp_arith [biTuple_ref g2, cut_appU (.refl S)]
end Q
namespace Q
open PySem hiding Env
open L2 M
section
variable {b b0 : Nat} {S : Store} {n p : Nat} {K : Out R → Prop}
theorem take_2_wp {h : Pot b} {k : Int} (e : S[n]? = some h.c) (hb : b ≤ 2 ^ 40) (h0 : 0 < k) (h1 : k < 2 ^ 62) (c : ∀ (r : Int) (h' : Pot (b + 1)), 0 ≤ r → r < k → K (.ok (.v (.int r)) (S.set n h'.c))) : wE (M_take_2 [.ref n, .v (.int k)] S) K := by
  obtain ⟨r, h', e1, p0, p1⟩ := take_2_spec e hb h0 h1
  exact wE_eq e1 (c r h' p0 p1)
theorem pick_wp {h : Pot b} {ds : List D} (e : S[n]? = some h.c) (hb : b ≤ 2 ^ 40) (hne : ds ≠ []) (hz : ds.length ≤ 100000) (c : ∀ (d : D) (h' : Pot (b + 1)), d ∈ ds → K (.ok (.v d) (S.set n h'.c))) : wE (M_pick [.ref n, .v (.lst ds)] S) K := by
  obtain ⟨r, h', e1, p0⟩ := pick_spec2 e hb hne hz
  exact wE_eq e1 (c r h' p0)
theorem pot_wp {ns : List Int} {k : Int} (h0 : 0 ≤ k) (h1 : k < 2 ^ 20) (c : ∀ h : Pot 0, K (.ok (.ref S.length) (S ++ [h.c]))) : wE (M_pot [.v (.kl (ns.map D.int)), .v (.int k)] S) K := by
  obtain ⟨h, e⟩ := pot_spec (S := S) (ns := ns) h0 h1
  exact wE_eq e (c h)
theorem tree_wp {h : Pot b} {ts : List T} (e : S[n]? = some h.c) (hne : ts ≠ []) (hz : ts.length ≤ 1000) (hb : b + 3 * ts.length ≤ 2 ^ 40) (c : ∀ (t : T) (h' : Pot (b + 3 * ts.length)), t.ls.Perm (ts.flatMap T.ls) → K (.ok (.v t.d) (S.set n h'.c))) : wE (M_tree [.ref n, .v (.lst (ts.map T.d))] S) K := by
  obtain ⟨h', t, e1, p0⟩ := tree_spec e hne hz hb
  exact wE_eq e1 (c t h' p0)
theorem nodes_3_wp {k : Nat} {t : T} (hd : t.depth < k) (hz : t.ls.length ≤ 100000) (c : ∀ (w : Nat) (g : Store), (S ++ g)[w]? = some (.lst (t.nodes.map .v)) → S.length ≤ w → K (.ok (.ref w) (S ++ g))) : wE (R_nodes_3 k [.v t.d] S) K := by
  obtain ⟨w, g, e1, p0, p1⟩ := nodes_3_spec k t S hd hz
  exact wE_eq e1 (c w g p0 p1)
end
theorem rg1_nat {S : Store} (n : Nat) (h : n < 2 ^ 60) : rg1 [.v (.int (n : Int))] S = .ok ⟨rangeD 0 n, []⟩ S := by rw [rg1_int (by omega) (by omega), Int.toNat_natCast]
theorem trim_nil {m : Env} {U : Store} {f : Env → Store → OutS} (h : U ≠ []) : trim [] m U f = f (m.map (keepE 0)) [] := by
  have := trim_app (S := []) (T := []) (t := U) (m2 := m) (f := f) (.refl _) h
  simpa using this
/-- how often a law's own loop turns -/
theorem top_count (a b : Int) (hb : 1 ≤ b) (hb2 : b ≤ 1000) : ∃ q : Nat, (if (if b < a then b else a) > 1 then (if b < a then b else a) else 1) = (q : Int) ∧ 1 ≤ q ∧ q ≤ 1000 := by
  refine ⟨(if (if b < a then b else a) > 1 then (if b < a then b else a) else 1).toNat, ?_, ?_, ?_⟩ <;> (split <;> split <;> omega)
theorem depth_lt8 {t : T} (h : t.ls.length ≤ 8) : t.depth < 70 := by have := t.depth_lt; omega
end Q
namespace M
open PySem PySem.Spec L2
open PyProof.Rows hiding St
theorem ahead_lt {t : T} {h p : Nat} (e : t.ahead.getD h none = some p) : h < p ∧ p < t.cnt ∧ p ∈ t.innerIx ∧ (h = chA t p ∨ h = chB t p) := by
  have hc : t.ahead[h]? = some (some p) := by
    rw [List.getD_eq_getElem?_getD] at e
    cases q : t.ahead[h]? with
    | none => rw [q] at e; cases e
    | some o => rw [q] at e; simpa using e
  obtain ⟨a, b, e2, e3⟩ := T.ahead_par hc
  have hp := (List.getElem?_eq_some_iff.mp e2).1
  rw [t.nodes_len] at hp
  have hs : isStr (t.nodes.getD p .non) = false := by rw [List.getD_eq_getElem?_getD, e2]; rfl
  have hm := (Dts.notIn hp).mpr hs
  obtain ⟨k1, k2, k3, k4⟩ := T.kids hm
  rw [k1] at e2
  simp only [Option.some.injEq, D.tup.injEq, List.cons.injEq, and_true, natD, D.int.injEq] at e2
  refine ⟨?_, hp, hm, ?_⟩ <;> omega
end M
namespace Q
open PySem hiding Env
open L2 M
noncomputable def m_is_stay : MS :=
  (mRet (mAnd (mCall biIsi (mCons (mVar 1) (mCons (mC (.ty "int")) mNil))) (mAnd (mNot (mCall biIsi (mCons (mVar 1) (mCons (mC (.ty "bool")) mNil)))) (mChain opLe opLt (mC (.int 0)) (mVar 1) (mCall biLen (mCons (mVar 0) mNil))))))
noncomputable def M_is_stay : List R → Store → Out R := mDefV 2 (m_is_stay)
noncomputable def m_is_path (g_is_stay : List R → Store → Out R) : MS :=
  (mSeq (mIfS (mtOr (mtNot (mtTru (mCall biIsi (mCons (mVar 1) (mCons (mC (.ty "tuple")) mNil))))) (mtOr (mtB (mBin opEq (mCall biLen (mCons (mVar 1) mNil)) (mC (.int 0)))) (mtNot (mtTru (mCall biAll (mCons (mPop (mLc (srcAny (mVar 1)) [2] (tgN 2) mtYes (mCall g_is_stay (mCons (mVar 0) (mCons (mVar 2) mNil))))) mNil)))))) (mRet (mC (.bl false))) mSkip)
  (mRet (mCall biAll (mCons (mPop (mLc (srcZip (mCons (mVar 1) (mCons (mPop (mSl (mVar 1) (moS (mC (.int 1))) moN)) mNil))) [2, 3] (tgT [(tgN 2), (tgN 3)]) mtYes (mBin opIn (mVar 3) (mBin opIx (mBin opIx (mVar 0) (mVar 2)) (mC (.int 2)))))) mNil))))
noncomputable def M_is_path : List R → Store → Out R := mDefV 4 (m_is_path M_is_stay)
noncomputable def m_may_be_found : MS :=
  (mRet (mAnd (mBin opEq (mBin opIx (mBin opIx (mVar 0) (mVar 1)) (mC (.int 2))) (mTup mNil)) (mBin opEq (mBin opIx (mBin opIx (mVar 0) (mVar 1)) (mC (.int 0))) (mVar 2))))
noncomputable def M_may_be_found : List R → Store → Out R := mDefV 3 (m_may_be_found)
noncomputable def m_may_be_done : MS :=
  (mSeq (mAsg (tgT [(tgN 5), (tgN 6)]) (mPop (mSl (mBin opIx (mVar 0) (mVar 1)) (moS (mC (.int 2))) moN)))
  (mSeq (mIfS (mtB (mBin opEq (mVar 2) (mC (.str "doubled")))) (mRet (mAnd (mBin opEq (mVar 3) (mVar 1)) (mBin opEq (mVar 4) (mVar 1)))) mSkip)
  (mSeq (mIfS (mtB (mBin opEq (mVar 2) (mC (.str "split")))) (mRet (mAnd (mBin opEq (mCall biLen (mCons (mVar 5) mNil)) (mC (.int 2))) (mBin opIn (mTup (mCons (mVar 3) (mCons (mVar 4) mNil))) (mTup (mCons (mVar 5) (mCons (mPop (mUn opRev (mVar 5))) mNil)))))) mSkip)
  (mRet (mAnd (mBin opEq (mVar 2) (mC (.str "over"))) (mOr (mAnd (mBin opEq (mVar 3) (mVar 1)) (mBin opIn (mVar 4) (mVar 6))) (mAnd (mBin opEq (mVar 4) (mVar 1)) (mBin opIn (mVar 3) (mVar 6)))))))))
noncomputable def M_may_be_done : List R → Store → Out R := mDefV 7 (m_may_be_done)
noncomputable def m_is_way_of (g_is_path : List R → Store → Out R) (g_may_be_found : List R → Store → Out R) (g_is_way_of : List R → Store → Out R) (g_may_be_done : List R → Store → Out R) : MS :=
  (mSeq (mSet 4 (mBin opIx (mVar 1) (mVar 2)))
  (mSeq (mIfS (mtOr (mtNot (mtTru (mCall biIsi (mCons (mVar 3) (mCons (mC (.ty "tuple")) mNil))))) (mtOr (mtB (mBin opNotIn (mCall biLen (mCons (mVar 3) mNil)) (mTup (mCons (mC (.int 2)) (mCons (mC (.int 4)) mNil))))) (mtNot (mtTru (mCall g_is_path (mCons (mVar 0) (mCons (mBin opIx (mVar 3) (mC (.int 0))) mNil))))))) (mRet (mC (.bl false))) mSkip)
  (mSeq (mIfS (mtOr (mtNot (mtTru (mCall biIsi (mCons (mBin opIx (mVar 3) (mC (.int 1))) (mCons (mC (.ty "str")) mNil))))) (mtB (mBin opNe (mBin opEq (mCall biLen (mCons (mVar 3) mNil)) (mC (.int 2))) (mCall biIsi (mCons (mVar 4) (mCons (mC (.ty "str")) mNil)))))) (mRet (mC (.bl false))) mSkip)
  (mSeq (mSet 5 (mBin opIx (mBin opIx (mVar 3) (mC (.int 0))) (mUn opNeg (mC (.int 1)))))
  (mSeq (mIfS (mtB (mBin opEq (mCall biLen (mCons (mVar 3) mNil)) (mC (.int 2)))) (mRet (mAnd (mBin opEq (mBin opIx (mVar 3) (mC (.int 1))) (mC (.str "found"))) (mCall g_may_be_found (mCons (mVar 0) (mCons (mVar 5) (mCons (mVar 4) mNil)))))) mSkip)
  (mSeq (mIfS (mtOr (mtNot (mtTru (mCall g_is_way_of (mCons (mVar 0) (mCons (mVar 1) (mCons (mBin opIx (mVar 4) (mC (.int 0))) (mCons (mBin opIx (mVar 3) (mC (.int 2))) mNil))))))) (mtNot (mtTru (mCall g_is_way_of (mCons (mVar 0) (mCons (mVar 1) (mCons (mBin opIx (mVar 4) (mC (.int 1))) (mCons (mBin opIx (mVar 3) (mC (.int 3))) mNil)))))))) (mRet (mC (.bl false))) mSkip)
  (mRet (mCall g_may_be_done (mCons (mVar 0) (mCons (mVar 5) (mCons (mBin opIx (mVar 3) (mC (.int 1))) (mCons (mBin opIx (mBin opIx (mBin opIx (mVar 3) (mC (.int 2))) (mC (.int 0))) (mC (.int 0))) (mCons (mBin opIx (mBin opIx (mBin opIx (mVar 3) (mC (.int 3))) (mC (.int 0))) (mC (.int 0))) mNil)))))))))))))
noncomputable def R_is_way_of : Nat → List R → Store → Out R
  | 0 => fun _ _ => .no
  | k + 1 => mDefV 6 (m_is_way_of M_is_path M_may_be_found (R_is_way_of k) M_may_be_done)
noncomputable def m_is_way (g_nodes : List R → Store → Out R) (g_is_way_of : List R → Store → Out R) : MS :=
  (mSeq (mSet 3 (mCall g_nodes (mCons (mVar 1) mNil)))
  (mRet (mAnd (mCall g_is_way_of (mCons (mVar 0) (mCons (mVar 3) (mCons (mBin opSub (mCall biLen (mCons (mVar 3) mNil)) (mC (.int 1))) (mCons (mVar 2) mNil))))) (mBin opEq (mCall biLen (mCons (mBin opIx (mVar 2) (mC (.int 0))) mNil)) (mC (.int 1))))))
noncomputable def M_is_way : List R → Store → Out R := mDefV 4 (m_is_way M_nodes (R_is_way_of 70))
end Q
namespace M
open PySem PySem.Spec L2
open PyProof.Rows hiding St
def Nic : Nat → D → Prop
  | _, .int _ => True
  | _, .str w => strOkB w = true
  | k + 1, .tup ds => ∀ d ∈ ds, Nic k d
  | k + 1, .lst ds => ∀ d ∈ ds, Nic k d
  | _, _ => False
theorem nics_py {k : Nat} {ds : List D} (ih : ∀ d, Nic k d → ∃ p, d.py = some p ∧ PyData.canLay0 p = true ∧ PyData.depth p ≤ k) (h : ∀ d ∈ ds, Nic k d) : ∃ ps, D.pys ds = some ps ∧ PyData.canLayAll0 ps = true ∧ PyData.depthAll ps ≤ k := by
  induction ds with
  | nil => exact ⟨[], rfl, by simp [PyData.canLayAll0], by simp [PyData.depthAll]⟩
  | cons d ds ih2 =>
    obtain ⟨p, e1, e2, e3⟩ := ih d (h d (by simp))
    obtain ⟨ps, f1, f2, f3⟩ := ih2 fun x hx => h x (by simp [hx])
    refine ⟨p :: ps, by simp [D.pys, e1, f1], by simp [PyData.canLayAll0, e2, f2], ?_⟩
    simp only [PyData.depthAll]; omega
theorem nic_py : ∀ (k : Nat) (d : D), Nic k d → ∃ p, d.py = some p ∧ PyData.canLay0 p = true ∧ PyData.depth p ≤ k
  | k, .int i, _ => ⟨.int i, rfl, by simp [PyData.canLay0], by simp [PyData.depth]⟩
  | k, .str w, h => ⟨.str w, rfl, by
      have h : strOkB w = true := by cases k <;> exact h
      have : PyData.strOk w = true := h
      simp [PyData.canLay0, this], by simp [PyData.depth]⟩
  | k + 1, .tup ds, h => by
    obtain ⟨ps, f1, f2, f3⟩ := nics_py (nic_py k) (h : ∀ d ∈ ds, Nic k d)
    refine ⟨.tuple ps, by simp [D.py, f1], by simp [PyData.canLay0, f2], ?_⟩
    simp only [PyData.depth]; omega
  | k + 1, .lst ds, h => by
    obtain ⟨ps, f1, f2, f3⟩ := nics_py (nic_py k) (h : ∀ d ∈ ds, Nic k d)
    refine ⟨.list ps, by simp [D.py, f1], by simp [PyData.canLay0, f2], ?_⟩
    simp only [PyData.depth]; omega
  | 0, .tup _, h => h.elim
  | 0, .lst _, h => h.elim
  | 0, .non, h | _ + 1, .non, h => h.elim
  | 0, .bl _, h | _ + 1, .bl _, h => h.elim
  | 0, .ty _, h | _ + 1, .ty _, h => h.elim
  | 0, .kl _, h | _ + 1, .kl _, h => h.elim
  | 0, .dct _ _, h | _ + 1, .dct _ _, h => h.elim
  | 0, .txt, h | _ + 1, .txt, h => h.elim
  | 0, .kt _, h | _ + 1, .kt _, h => h.elim
theorem nics_eqv {k : Nat} (ih : ∀ d e p q, Nic k d → Nic k e → d.py = some p → e.py = some q → (PyData.eqv p q = true ↔ d = e)) : ∀ (ds es : List D) (ps qs : List PyData), (∀ d ∈ ds, Nic k d) → (∀ d ∈ es, Nic k d) → D.pys ds = some ps → D.pys es = some qs → (PyData.eqvAll ps qs = true ↔ ds = es) := by
  have cons_ : ∀ (d : D) (ds : List D) (ps : List PyData), D.pys (d :: ds) = some ps → ∃ p qs, ps = p :: qs ∧ d.py = some p ∧ D.pys ds = some qs := by
    intro d ds ps h
    simp only [D.pys, Option.bind_eq_some_iff] at h
    obtain ⟨p, e1, qs, e2, e3⟩ := h
    cases e3
    exact ⟨p, qs, rfl, e1, e2⟩
  intro ds
  induction ds with
  | nil =>
    intro es ps qs _ _ h1 h2
    cases h1
    cases es with
    | nil => cases h2; simp [PyData.eqvAll]
    | cons e es => obtain ⟨p, qs', rfl, _, _⟩ := cons_ _ _ _ h2; simp [PyData.eqvAll]
  | cons d ds ih2 =>
    intro es ps qs n1 n2 h1 h2
    obtain ⟨p, ps', rfl, a1, a2⟩ := cons_ _ _ _ h1
    cases es with
    | nil => cases h2; simp [PyData.eqvAll]
    | cons e es =>
      obtain ⟨q, qs', rfl, b1, b2⟩ := cons_ _ _ _ h2
      have q1 := ih d e p q (n1 d (by simp)) (n2 e (by simp)) a1 b1
      have q2 := ih2 es ps' qs' (fun x hx => n1 x (by simp [hx])) (fun x hx => n2 x (by simp [hx])) a2 b2
      rw [PyData.eqvAll, Bool.and_eq_true, q1, q2, List.cons.injEq]
theorem nic_eqv : ∀ (k : Nat) (d e : D) (p q : PyData), Nic k d → Nic k e → d.py = some p → e.py = some q → (PyData.eqv p q = true ↔ d = e) := by
  intro k
  induction k with
  | zero =>
    intro d e p q h1 h2 e1 e2
    cases d <;> first | exact h1.elim | skip
    all_goals (cases e <;> first | exact h2.elim | skip)
    all_goals (cases e1; cases e2; simp [PyData.eqv])
  | succ k ih =>
    intro d e p q h1 h2 e1 e2
    cases d <;> first | exact h1.elim | skip
    all_goals (cases e <;> first | exact h2.elim | skip)
    all_goals (simp only [D.py, Option.map_eq_some_iff, Option.some.injEq] at e1 e2)
    all_goals (try obtain ⟨ps, e1, rfl⟩ := e1)
    all_goals (try obtain ⟨qs, e2, rfl⟩ := e2)
    all_goals (try subst e1)
    all_goals (try subst e2)
    all_goals first
      | (rw [PyData.eqv, nics_eqv ih _ _ _ _ h1 h2 e1 e2]; simp only [D.tup.injEq, D.lst.injEq])
      | simp [PyData.eqv]
theorem nic_pyS {k : Nat} {d : D} (h : Nic k d) (hk : k ≤ 60) : ∃ p, d.pyS = some p ∧ d.py = some p := by
  obtain ⟨p, e1, e2, e3⟩ := nic_py k d h
  refine ⟨p, ?_, e1⟩
  have : SeqAt.shaped p = true := by simp only [SeqAt.shaped, e2, Bool.true_and, decide_eq_true_eq]; omega
  simp [D.pyS, e1, this]
theorem opEq_nic {S : Store} {d e : D} (k : Nat) (h1 : Nic k d) (h2 : Nic k e) (hk : k ≤ 60) {b : Bool} (hb : b = true ↔ d = e) : opEq (.v d) (.v e) S = .ok (.v (.bl b)) S ∧ opNe (.v d) (.v e) S = .ok (.v (.bl (!b))) S := by
  obtain ⟨p, e1, e2⟩ := nic_pyS h1 hk
  obtain ⟨q, f1, f2⟩ := nic_pyS h2 hk
  have : PyData.eqv p q = b := Bool.eq_iff_iff.mpr ((nic_eqv k d e p q h1 h2 e2 f2).trans hb.symm)
  exact ⟨by rw [opEq_py e1 f1, this], by rw [opNe_py e1 f1, this]⟩
theorem opIn_nic {S : Store} {d : D} {es : List D} {z : R} (k : Nat) (h1 : Nic k d) (h2 : ∀ e ∈ es, Nic k e) (hk : k + 1 ≤ 60) (hz : view S z = some (.tup es) ∨ view S z = some (.lst es)) {b : Bool} (hb : b = true ↔ d ∈ es) : opIn (.v d) z S = .ok (.v (.bl b)) S ∧ opNotIn (.v d) z S = .ok (.v (.bl (!b))) S := by
  obtain ⟨p, e1, e2⟩ := nic_pyS h1 (by omega)
  have key : ∃ qs, (pyOf S z).bind seqPy = some qs ∧ D.pys es = some qs := by
    rcases hz with hz | hz
    · obtain ⟨q, f1, f2⟩ := nic_pyS (k := k + 1) (d := .tup es) h2 hk
      obtain ⟨qs, f3, rfl⟩ := Option.map_eq_some_iff.mp (show (D.pys es).map PyData.tuple = some q from f2)
      exact ⟨qs, by simp [pyOf, hz, f1, seqPy], f3⟩
    · obtain ⟨q, f1, f2⟩ := nic_pyS (k := k + 1) (d := .lst es) h2 hk
      obtain ⟨qs, f3, rfl⟩ := Option.map_eq_some_iff.mp (show (D.pys es).map PyData.list = some q from f2)
      exact ⟨qs, by simp [pyOf, hz, f1, seqPy], f3⟩
  obtain ⟨qs, f1, f2⟩ := key
  have any_ : ∀ (es : List D) (qs : List PyData), (∀ e ∈ es, Nic k e) → D.pys es = some qs → ((qs.any fun z => PyData.eqv z p) = true ↔ d ∈ es) := by
    intro es
    induction es with
    | nil => intro qs _ h; cases h; simp
    | cons e es ih =>
      intro qs n h
      simp only [D.pys, Option.bind_eq_some_iff] at h
      obtain ⟨q, a1, qs', a2, a3⟩ := h
      cases a3
      rw [List.any_cons, Bool.or_eq_true, ih qs' (fun x hx => n x (by simp [hx])) a2, nic_eqv k e d q p (n e (by simp)) h1 a1 e2, List.mem_cons]
      constructor <;> rintro (h | h)
      · exact .inl h.symm
      · exact .inr h
      · exact .inl h.symm
      · exact .inr h
  have e : (qs.any fun z => PyData.eqv z p) = b := Bool.eq_iff_iff.mpr ((any_ es qs h2 f2).trans hb.symm)
  have hin : inM S (.v d) z = some b := by
    have gen : (match pyOf S (.v d), (pyOf S z).bind seqPy with
      | some p, some qs => some (qs.any fun z => PyData.eqv z p)
      | _, _ => none) = some b := by rw [f1, pyOf_v, e1]; simp only; rw [e]
    cases d <;> first | exact gen | skip
    cases z with
    | ref n => exact gen
    | v z =>
      cases z <;> first | exact gen | skip
      rw [show ∀ x, view S (.v (D.str x)) = some (.str x) from fun x => by simp [view, frz_v]] at hz
      rcases hz with hz | hz <;> cases hz
  exact ⟨by unfold opIn; rw [hin], by unfold opNotIn; rw [hin]⟩
structure Sty where
  nm : D
  lv : Nat
  un : List Nat
  bs : List Nat
def Sty.d (s : Sty) : D := .tup [s.nm, natD s.lv, .tup (s.un.map natD), .tup (s.bs.map natD)]
abbrev Gr := List Sty
def grD (g : Gr) : D := .tup (g.map Sty.d)
def atG (g : Gr) (i : Nat) : Sty := g.getD i ⟨.int 0, 0, [], []⟩
structure Grd (g : Gr) : Prop where
  ne : g ≠ []
  len : g.length ≤ 1000
  nm : ∀ s ∈ g, (∃ w, GoodW w ∧ s.nm = .str w) ∨ ∃ n : Nat, s.nm = natD n
  un : ∀ i, i < g.length → (∀ u ∈ (atG g i).un, u < i) ∧ (atG g i).un.length ≤ 2 ∧ (∀ b ∈ (atG g i).bs, b < g.length) ∧ (atG g i).bs.length ≤ 1000
  top : ∀ i, i + 1 < g.length → ∃ j, j < g.length ∧ i ∈ (atG g j).un
/-- a word may be found at a stay -/
def fndN (g : Gr) (s : Nat) (w : Str) : Bool := (atG g s).un.isEmpty && (match (atG g s).nm with | .str x => decide (x = w) | _ => false)
/-- a path -/
def pathN (g : Gr) (p : List Nat) : Bool := !p.isEmpty && p.all (fun i => decide (i < g.length)) && (p.zip p.tail).all fun q => decide (q.2 ∈ (atG g q.1).un)
/-- a deed at a stay -/
def domN (g : Gr) (s : Nat) (d : Str) (a b : Nat) : Bool :=
  if d = "doubled" then decide (a = s) && decide (b = s)
  else if d = "split" then decide ((atG g s).un.length = 2) && (decide ([a, b] = (atG g s).un) || decide ([a, b] = (atG g s).un.reverse))
  else decide (d = "over") && ((decide (a = s) && decide (b ∈ (atG g s).bs)) || (decide (b = s) && decide (a ∈ (atG g s).bs)))
/-- ways -/
inductive Wy
  | one (p : List Nat) (d : Str)
  | two (p : List Nat) (d : Str) (a b : Wy)
def Wy.p : Wy → List Nat
  | .one p _ => p
  | .two p _ _ _ => p
def Wy.dd : Wy → Str
  | .one _ d => d
  | .two _ d _ _ => d
def pD (p : List Nat) : D := .tup (p.map natD)
def Wy.d : Wy → D
  | .one p d => .tup [pD p, .str d]
  | .two p d a b => .tup [pD p, .str d, a.d, b.d]
def wayN (g : Gr) : T → Wy → Bool
  | .leaf w, .one p d => pathN g p && (decide (d = "found") && fndN g (p.getLastD 0) w)
  | .node l r, .two p d a b => pathN g p && (wayN g l a && (wayN g r b && domN g (p.getLastD 0) d (a.p.headD 0) (b.p.headD 0)))
  | _, _ => false
def T.subs : T → List T
  | .leaf w => [.leaf w]
  | .node l r => l.subs ++ r.subs ++ [.node l r]
theorem T.subs_len : ∀ t : T, t.subs.length = t.cnt
  | .leaf _ => rfl
  | .node l r => by simp [T.subs, T.cnt, l.subs_len, r.subs_len]; omega
theorem T.sub_at : ∀ (t : T) (k i : Nat) (s : T), t.subs[i]? = some s → ∃ d, (T.nodesFrom k t)[i]? = some d ∧ match s with
    | .leaf w => d = .str w
    | .node l r => ∃ a b : Nat, d = .tup [natD (k + a), natD (k + b)] ∧ t.subs[a]? = some l ∧ t.subs[b]? = some r ∧ a < i ∧ b < i
  | .leaf w, k, i, s, h => by
    cases i with
    | zero => cases h; exact ⟨_, rfl, rfl⟩
    | succ i => simp [T.subs] at h
  | .node l r, k, i, s, h => by
    have hl := l.subs_len
    have hr := r.subs_len
    have cl := l.cnt_pos
    have cr := r.cnt_pos
    have nl := l.nodesFrom_len k
    have nr := r.nodesFrom_len (k + l.cnt)
    have il : l.subs[l.cnt - 1]? = some l := by cases l <;> simp [T.subs, T.cnt, T.subs_len]
    have ir : r.subs[r.cnt - 1]? = some r := by cases r <;> simp [T.subs, T.cnt, T.subs_len]
    simp only [T.subs] at h
    by_cases h1 : i < l.cnt
    · rw [List.append_assoc, List.getElem?_append_left (by omega)] at h
      obtain ⟨d, e1, e2⟩ := T.sub_at l k i s h
      refine ⟨d, by rw [T.nodesFrom, List.append_assoc, List.getElem?_append_left (by omega), e1], ?_⟩
      cases s with
      | leaf w => exact e2
      | node u v =>
        obtain ⟨a, b, q1, q2, q3, q4, q5⟩ := e2
        exact ⟨a, b, q1, by simp only [T.subs]; rw [List.append_assoc, List.getElem?_append_left (by omega), q2], by simp only [T.subs]; rw [List.append_assoc, List.getElem?_append_left (by omega), q3], q4, q5⟩
    · by_cases h2 : i < l.cnt + r.cnt
      · rw [List.append_assoc, List.getElem?_append_right (by omega), List.getElem?_append_left (by omega)] at h
        obtain ⟨d, e1, e2⟩ := T.sub_at r (k + l.cnt) (i - l.subs.length) s h
        refine ⟨d, by rw [T.nodesFrom, List.append_assoc, List.getElem?_append_right (by omega), List.getElem?_append_left (by omega), nl, show i - l.cnt = i - l.subs.length by omega, e1], ?_⟩
        cases s with
        | leaf w => exact e2
        | node u v =>
          obtain ⟨a, b, q1, q2, q3, q4, q5⟩ := e2
          have key : ∀ c, c < r.cnt → ((l.subs ++ r.subs ++ [T.node l r])[l.cnt + c]? = r.subs[c]?) := fun c hc => by
            rw [List.append_assoc, List.getElem?_append_right (by omega), List.getElem?_append_left (by omega), hl, show l.cnt + c - l.cnt = c by omega]
          have la := (List.getElem?_eq_some_iff.mp q2).1
          have lb := (List.getElem?_eq_some_iff.mp q3).1
          refine ⟨l.cnt + a, l.cnt + b, ?_, ?_, ?_, by omega, by omega⟩
          · rw [q1, show k + l.cnt + a = k + (l.cnt + a) by omega, show k + l.cnt + b = k + (l.cnt + b) by omega]
          · simp only [T.subs]; rw [key a (by omega), q2]
          · simp only [T.subs]; rw [key b (by omega), q3]
      · have hi : i = l.cnt + r.cnt := by
          have := (List.getElem?_eq_some_iff.mp h).1
          simp only [List.length_append, List.length_cons, List.length_nil] at this
          omega
        subst hi
        rw [List.getElem?_append_right (by simp only [List.length_append]; omega), List.length_append, hl, hr, Nat.sub_self] at h
        cases h
        refine ⟨_, by rw [T.nodesFrom, List.getElem?_append_right (by rw [List.length_append]; omega), List.length_append, nl, nr, Nat.sub_self]; rfl, l.cnt - 1, l.cnt + r.cnt - 1, ?_, ?_, ?_, by omega, by omega⟩
        · rw [show k + l.cnt - 1 = k + (l.cnt - 1) by omega, show k + l.cnt + r.cnt - 1 = k + (l.cnt + r.cnt - 1) by omega] <;> rfl
        · simp only [T.subs]; rw [List.append_assoc, List.getElem?_append_left (by omega), il]
        · simp only [T.subs]; rw [List.append_assoc, List.getElem?_append_right (by omega), List.getElem?_append_left (by omega), show l.cnt + r.cnt - 1 - l.subs.length = r.cnt - 1 by omega, ir]
theorem T.sub_leaf {t : T} {i : Nat} {w : Str} (h : t.subs[i]? = some (.leaf w)) : t.nodes[i]? = some (.str w) := by
  obtain ⟨d, e1, rfl⟩ := T.sub_at t 0 i _ h
  exact e1
theorem T.sub_node {t l r : T} {i : Nat} (h : t.subs[i]? = some (.node l r)) : ∃ a b : Nat, t.nodes[i]? = some (.tup [natD a, natD b]) ∧ t.subs[a]? = some l ∧ t.subs[b]? = some r ∧ a < i ∧ b < i := by
  obtain ⟨d, e1, a, b, e2, e3, e4, e5, e6⟩ := T.sub_at t 0 i _ h
  rw [Nat.zero_add, Nat.zero_add] at e2
  exact ⟨a, b, by rw [T.nodes, e1, e2], e3, e4, e5, e6⟩
theorem T.sub_top (t : T) : t.subs[t.cnt - 1]? = some t := by cases t <;> simp [T.subs, T.cnt, T.subs_len]
theorem atG_get {g : Gr} {i : Nat} (h : i < g.length) : g[i]? = some (atG g i) := by
  rw [atG, List.getD_eq_getElem?_getD, List.getElem?_eq_getElem h]; rfl
theorem opIx_gr {S : Store} {g : Gr} {i : Nat} (h : i < g.length) : opIx (.v (grD g)) (.v (.int (i : Int))) S = .ok (.v (atG g i).d) S := by
  refine opIx_tup ?_
  rw [atI_map, atI_lt (by omega), Int.toNat_natCast, atG_get h]; rfl
theorem atI_last {α : Type} (p : List α) (z : α) (h : p ≠ []) : atI p (-1) = some (p.getLastD z) := by
  have : 0 < p.length := List.length_pos_iff.mpr h
  rw [atI_neg (by decide) (by omega), show ((-1 : Int) + p.length).toNat = p.length - 1 by omega, List.getLastD_eq_getLast?, List.getLast?_eq_getElem?, List.getElem?_eq_getElem (by omega)]; rfl
theorem opIx_last {S : Store} {p : List Nat} (h : p ≠ []) : opIx (.v (pD p)) (.v (.int (-1))) S = .ok (.v (natD (p.getLastD 0))) S := by
  refine opIx_tup ?_
  rw [atI_map, atI_last p 0 h]; rfl
theorem opIx_head {S : Store} {p : List Nat} (h : p ≠ []) : opIx (.v (pD p)) (.v (.int 0)) S = .ok (.v (natD (p.headD 0))) S := by
  refine opIx_tup ?_
  cases p with
  | nil => exact absurd rfl h
  | cons a p => exact atI_0 _ _
theorem nic_nat (k n : Nat) : Nic k (natD n) := by cases k <;> trivial
theorem nic_pD (k : Nat) (p : List Nat) : Nic (k + 1) (pD p) := fun d hd => by
  obtain ⟨x, _, rfl⟩ := List.mem_map.mp hd
  exact nic_nat _ _
theorem natD_inj {a b : Nat} (h : natD a = natD b) : a = b := by
  simp only [natD, D.int.injEq] at h; omega
theorem map_natD_inj : ∀ {p q : List Nat}, p.map natD = q.map natD → p = q
  | [], [], _ => rfl
  | [], _ :: _, h => by cases h
  | _ :: _, [], h => by cases h
  | a :: p, b :: q, h => by
    simp only [List.map_cons, List.cons.injEq] at h
    rw [natD_inj h.1, map_natD_inj h.2]
theorem opEq_pD {S : Store} {p q : List Nat} : opEq (.v (pD p)) (.v (pD q)) S = .ok (.v (.bl (decide (p = q)))) S := (opEq_nic 1 (nic_pD 0 p) (nic_pD 0 q) (by decide) (by
  rw [decide_eq_true_eq]
  constructor
  · intro h; rw [h]
  · intro h; exact map_natD_inj (by simpa [pD] using h))).1
def isIn : D → Bool
  | .int _ | .bl _ => true
  | _ => false
def isBo : D → Bool
  | .bl _ => true
  | _ => false
theorem isi_inA (d : D) (h : notTy d = true) (S : Store) : biIsi [.v d, .v (.ty "int")] S = .ok (.v (.bl (isIn d))) S := by
  cases d <;> first | (cases h; done) | simp [biIsi, tyName, tyD, isIn, kb_si, kb_ti, kb_ii, kb_bi, kb_ni, kb_li, kb_di]
theorem isi_boA (d : D) (h : notTy d = true) (S : Store) : biIsi [.v d, .v (.ty "bool")] S = .ok (.v (.bl (isBo d))) S := by
  cases d <;> first | (cases h; done) | simp [biIsi, tyName, tyD, isBo, kb_sb, kb_tb, kb_ib, kb_bb, kb_nb, kb_lb, kb_db]
def Sane : Nat → D → Prop
  | 0, d => notTy d = true
  | k + 1, d => notTy d = true ∧ (∀ ds, d = .tup ds → ds.length ≤ 100000 ∧ ∀ x ∈ ds, Sane k x) ∧ ∀ w, d = .str w → strOkB w = true
theorem Sane.ty {k : Nat} {d : D} (h : Sane k d) : notTy d = true := by cases k with
  | zero => exact h
  | succ k => exact h.1
theorem sane_le : ∀ {j k : Nat} {d : D}, j ≤ k → Sane k d → Sane j d
  | 0, _, _, _, h => h.ty
  | j + 1, 0, _, h, _ => by omega
  | j + 1, k + 1, d, hl, h => ⟨h.1, fun ds e => ⟨(h.2.1 ds e).1, fun x hx => sane_le (by omega) ((h.2.1 ds e).2 x hx)⟩, h.2.2⟩
theorem T.subs_ls : ∀ (t : T) (i : Nat) (s : T), t.subs[i]? = some s → ∀ w ∈ s.ls, w ∈ t.ls
  | .leaf w, i, s, h => by
    cases i with
    | zero => cases h; exact fun _ h => h
    | succ i => simp [T.subs] at h
  | .node l r, i, s, h => by
    have : s ∈ (T.node l r).subs := List.mem_of_getElem? h
    simp only [T.subs, List.mem_append, List.mem_singleton] at this
    intro w hw
    rcases this with (h | h) | rfl
    · obtain ⟨j, hj, e⟩ := List.getElem_of_mem h
      have := T.subs_ls l j s (by rw [List.getElem?_eq_getElem hj, e]) w hw
      simp [T.ls, this]
    · obtain ⟨j, hj, e⟩ := List.getElem_of_mem h
      have := T.subs_ls r j s (by rw [List.getElem?_eq_getElem hj, e]) w hw
      simp [T.ls, this]
    · exact hw
theorem T.subs_ok {t s : T} {i : Nat} (ho : t.Ok) (h : t.subs[i]? = some s) : s.Ok := fun w hw => ho w (T.subs_ls t i s h w hw)
def stayB (n : Nat) : D → Bool
  | .int i => decide (0 ≤ i) && decide (i < (n : Int))
  | _ => false
def natsOf : List D → Option (List Nat)
  | [] => some []
  | .int i :: ds => if 0 ≤ i then (natsOf ds).map (i.toNat :: ·) else none
  | _ => none
theorem natsOf_map : ∀ p : List Nat, natsOf (p.map natD) = some p
  | [] => rfl
  | a :: p => by
    have : natsOf (natD a :: p.map natD) = if (0 : Int) ≤ (a : Int) then (natsOf (p.map natD)).map ((a : Int).toNat :: ·) else none := rfl
    rw [List.map_cons, this, natsOf_map p, if_pos (by omega)]; rfl
theorem natsOf_inv : ∀ {ds : List D} {p : List Nat}, natsOf ds = some p → ds = p.map natD
  | [], p, h => by cases h; rfl
  | d :: ds, p, h => by
    cases d <;> first | (cases h; done) | skip
    rename_i i
    have h : (if (0 : Int) ≤ i then (natsOf ds).map (i.toNat :: ·) else none) = some p := h
    split at h
    · obtain ⟨q, e1, rfl⟩ := Option.map_eq_some_iff.mp h
      rw [natsOf_inv e1, List.map_cons, natD, Int.toNat_of_nonneg (by assumption)]
    · cases h
theorem stays_nats {n : Nat} : ∀ {ds : List D}, ds.all (stayB n) = true → ∃ p : List Nat, ds = p.map natD ∧ ∀ x ∈ p, x < n
  | [], _ => ⟨[], rfl, by simp⟩
  | d :: ds, h => by
    rw [List.all_cons, Bool.and_eq_true] at h
    obtain ⟨p, e, hp⟩ := stays_nats h.2
    cases d <;> first | (cases h.1; done) | skip
    rename_i i
    have h1 : (decide (0 ≤ i) && decide (i < (n : Int))) = true := h.1
    simp only [Bool.and_eq_true, decide_eq_true_eq] at h1
    refine ⟨i.toNat :: p, by rw [e, List.map_cons, natD, Int.toNat_of_nonneg h1.1], fun x hx => ?_⟩
    rcases List.mem_cons.mp hx with rfl | hx
    · omega
    · exact hp x hx
theorem stayB_nat (n a : Nat) : stayB n (natD a) = decide (a < n) := by
  show (decide (0 ≤ (a : Int)) && decide ((a : Int) < (n : Int))) = _
  rw [decide_eq_true (by omega), Bool.true_and]
  by_cases q : a < n <;> simp [q]
def pathD (g : Gr) : D → Bool
  | .tup ds => match natsOf ds with
    | some p => pathN g p
    | none => false
  | _ => false
theorem pathD_pD (g : Gr) (p : List Nat) : pathD g (pD p) = pathN g p := by
  show (match natsOf (p.map natD) with | some p => pathN g p | none => false) = _
  rw [natsOf_map]
theorem pathD_inv {g : Gr} {d : D} (h : pathD g d = true) : ∃ p, d = pD p ∧ pathN g p = true := by
  cases d <;> first | (cases h; done) | skip
  rename_i ds
  have h : (match natsOf ds with | some p => pathN g p | none => false) = true := h
  cases e : natsOf ds with
  | none => rw [e] at h; cases h
  | some p => rw [e] at h; exact ⟨p, by rw [natsOf_inv e]; rfl, h⟩
theorem pathN_inv {g : Gr} {p : List Nat} (h : pathN g p = true) : p ≠ [] ∧ (∀ x ∈ p, x < g.length) ∧ ∀ q ∈ p.zip p.tail, q.2 ∈ (atG g q.1).un := by
  unfold pathN at h
  simp only [Bool.and_eq_true, Bool.not_eq_true', List.isEmpty_eq_false_iff, List.all_eq_true, decide_eq_true_eq] at h
  exact ⟨h.1.1, h.1.2, h.2⟩
def lastD (d : D) : Nat := match d with
  | .tup ds => ((natsOf ds).getD []).getLastD 0
  | _ => 0
def headD (d : D) : Nat := match d with
  | .tup (.tup ds :: _) => ((natsOf ds).getD []).headD 0
  | _ => 0
/-- a path of one stay -/
def oneD : D → Bool
  | .tup (.tup p :: _) => decide (p.length = 1)
  | _ => false
/-- what is_way_of tells of anything -/
def wayD (g : Gr) : T → D → Bool
  | .leaf w, .tup [p, .str d] => pathD g p && (decide (d = "found") && fndN g (lastD p) w)
  | .node l r, .tup [p, .str d, a, b] => pathD g p && (wayD g l a && (wayD g r b && domN g (lastD p) d (headD a) (headD b)))
  | _, _ => false
theorem lastD_pD (p : List Nat) : lastD (pD p) = p.getLastD 0 := by
  show ((natsOf (p.map natD)).getD []).getLastD 0 = _
  rw [natsOf_map]; rfl
theorem headD_d (w : Wy) : headD w.d = w.p.headD 0 := by
  cases w with
  | one p d => show ((natsOf (p.map natD)).getD []).headD 0 = _; rw [natsOf_map]; rfl
  | two p d a b => show ((natsOf (p.map natD)).getD []).headD 0 = _; rw [natsOf_map]; rfl
theorem wayD_d (g : Gr) : ∀ (t : T) (w : Wy), wayD g t w.d = wayN g t w
  | .leaf x, .one p d => by
    show (pathD g (pD p) && (decide (d = "found") && fndN g (lastD (pD p)) x)) = _
    rw [pathD_pD, lastD_pD]; rfl
  | .node l r, .two p d a b => by
    show (pathD g (pD p) && (wayD g l a.d && (wayD g r b.d && domN g (lastD (pD p)) d (headD a.d) (headD b.d)))) = _
    rw [pathD_pD, lastD_pD, wayD_d g l a, wayD_d g r b, headD_d, headD_d]; rfl
  | .leaf _, .two _ _ _ _ => rfl
  | .node _ _, .one _ _ => rfl
end M
namespace Q
open PySem hiding Env
open L2 M
theorem is_stay_spec {g : Gr} {d : D} {S : Store} (h : notTy d = true) : M_is_stay [.v (grD g), .v d] S = .ok (.v (.bl (stayB g.length d))) S := by
  refine eq_wE ?_
  simp only [grD]
  simp_arith [M_is_stay, m_is_stay, isi_inA d h, isi_boA d h]
  cases d <;> first | (cases h; done) | simp_arith [isIn, isBo, stayB]
  simp_arith [List.length_map]
  rename_i i
  cases q : decide (0 ≤ i) <;> simp_arith [stayB, q, Bool.true_and, Bool.false_and]
theorem is_path_spec {g : Gr} {d : D} {S : Store} (G : Grd g) (hd : Sane 2 d) : M_is_path [.v (grD g), .v d] S = .ok (.v (.bl (pathD g d))) S := by
  refine eq_wE ?_
  simp_arith [M_is_path, m_is_path, isi_tuple d hd.1]
  cases ht : isTup d with
  | false =>
    have : pathD g d = false := by cases d <;> first | rfl | cases ht
    simp_arith [this]
  | true =>
    obtain ⟨ds, rfl⟩ : ∃ ds, d = .tup ds := by cases d <;> first | exact ⟨_, rfl⟩ | cases ht
    obtain ⟨hl, hx⟩ := hd.2.1 ds rfl
    simp_arith []
    cases q : ((ds.length : Int) == 0) with
    | true =>
      have : ds = [] := by
        have : ds.length = 0 := by have := eq_of_beq q; omega
        exact List.length_eq_zero_iff.mp this
      subst this
      simp_arith []
      rfl
    | false =>
      have hne : ds ≠ [] := by rintro rfl; simp at q
      simp_arith []
      refine lcT_wp ds .v (fun d => .bl (stayB g.length d)) rfl (.refl S) (sz_of (by omega)) ?_ ?_
      · intro x hm acc
        simp_arith [is_stay_spec (hx x hm).ty]
      have e : (ds.map fun d => D.bl (stayB g.length d)) = (ds.map (stayB g.length)).map D.bl := by rw [List.map_map]; rfl
      simp_arith [e, biAll_lst]
      have e2 : (ds.map (stayB g.length)).all id = ds.all (stayB g.length) := by rw [List.all_map]; rfl
      rw [e2]
      cases ha : ds.all (stayB g.length) with
      | false =>
        have : pathD g (.tup ds) = false := by
          cases hp : pathD g (.tup ds) with
          | false => rfl
          | true =>
            obtain ⟨p, e, hp⟩ := pathD_inv hp
            cases e
            rw [show D.tup (p.map natD) = pD p from rfl, pathD_pD] at hp
            obtain ⟨_, h2, _⟩ := pathN_inv hp
            rw [List.all_map] at ha
            have : p.all (stayB g.length ∘ natD) = true := List.all_eq_true.mpr fun x hx => by rw [Function.comp_apply, stayB_nat, decide_eq_true_eq]; exact h2 x hx
            rw [this] at ha; cases ha
        simp_arith [this]
      | true =>
        obtain ⟨p, rfl, hp⟩ := stays_nats ha
        simp_arith [cutD_drop _ (show (0 : Int) ≤ 1 by decide), srcZip_eq, zp2_tt]
        have hpd : pathD g (.tup (p.map natD)) = pathN g p := pathD_pD g p
        rw [hpd]
        refine lcT_wp (p.zip p.tail) (fun q => .v (.tup [natD q.1, natD q.2])) (fun q => .bl (decide (q.2 ∈ (atG g q.1).un))) ?_ (.refl S) (sz_of (by rw [List.length_zip, List.length_tail]; rw [List.length_map] at hl; omega)) ?_ ?_
        · show zipI _ _ = _
          unfold zipI
          rw [show (1 : Int).toNat = 1 from rfl, ← List.map_drop, List.drop_one, List.zip_map, List.map_map]; rfl
        · intro x hm acc
          have h1 := List.of_mem_zip hm
          have hi := hp x.1 h1.1
          have hin := fun S => (opIn_nic (S := S) (d := natD x.2) (es := (atG g x.1).un.map natD) (z := .v (.tup ((atG g x.1).un.map natD))) 0 (nic_nat _ _) (fun e he => by obtain ⟨y, _, rfl⟩ := List.mem_map.mp he; exact nic_nat _ _) (by decide) (.inl (view_v _ _)) (b := decide (x.2 ∈ (atG g x.1).un)) (by
            rw [decide_eq_true_eq, List.mem_map]
            exact ⟨fun h => ⟨_, h, rfl⟩, fun ⟨y, h, e⟩ => natD_inj e ▸ h⟩)).1
          simp only [natD] at hin ⊢
          simp_arith [opIx_gr hi, Sty.d, opIx_tup (atI_2 _ _ _ _), natD, hin]
        · have e : ((p.zip p.tail).map fun q => D.bl (decide (q.2 ∈ (atG g q.1).un))) = ((p.zip p.tail).map fun q => decide (q.2 ∈ (atG g q.1).un)).map D.bl := by rw [List.map_map]; rfl
          simp_arith [e, biAll_lst]
          have : pathN g p = (p.zip p.tail).all fun q => decide (q.2 ∈ (atG g q.1).un) := by
            unfold pathN
            have h1 : p.isEmpty = false := by cases p with
              | nil => exact absurd rfl hne
              | cons a p => rfl
            have h2 : p.all (fun i => decide (i < g.length)) = true := List.all_eq_true.mpr fun x hx => decide_eq_true (hp x hx)
            rw [h1, h2]; rfl
          rw [this, List.all_map]; rfl
theorem opEq_strs {S : Store} {x y : Str} (hx : strOkB x = true) (hy : strOkB y = true) : opEq (.v (.str x)) (.v (.str y)) S = .ok (.v (.bl (decide (x = y)))) S :=
  (opEq_nic 0 (show Nic 0 (.str x) from hx) (show Nic 0 (.str y) from hy) (by decide) (by rw [decide_eq_true_eq]; exact ⟨fun h => by rw [h], fun h => by cases h; rfl⟩)).1
theorem atG_mem {g : Gr} {i : Nat} (h : i < g.length) : atG g i ∈ g := List.mem_of_getElem? (atG_get h)
theorem opIn_natp {S : Store} (a : Nat) (p : List Nat) : opIn (.v (.int (a : Int))) (.v (.tup (p.map natD))) S = .ok (.v (.bl (decide (a ∈ p)))) S :=
  (opIn_nic (S := S) (d := natD a) (es := p.map natD) (z := .v (.tup (p.map natD))) 0 (nic_nat _ _) (fun e he => by obtain ⟨y, _, rfl⟩ := List.mem_map.mp he; exact nic_nat _ _) (by decide) (.inl (view_v _ _)) (b := decide (a ∈ p)) (by
    rw [decide_eq_true_eq, List.mem_map]
    exact ⟨fun h => ⟨_, h, rfl⟩, fun ⟨y, h, e⟩ => natD_inj e ▸ h⟩)).1
theorem beq_nat (a b : Nat) : ((a : Int) == (b : Int)) = decide (a = b) := by by_cases q : a = b <;> simp [q]; omega
theorem may_be_found_spec {g : Gr} {i : Nat} {w : Str} {S : Store} (G : Grd g) (hi : i < g.length) (hw : strOkB w = true) : M_may_be_found [.v (grD g), .v (.int (i : Int)), .v (.str w)] S = .ok (.v (.bl (fndN g i w))) S := by
  have e1 : opEq (.v (.tup ((atG g i).un.map natD))) (.v (.tup [])) S = .ok (.v (.bl (atG g i).un.isEmpty)) S := by
    have := opEq_pD (S := S) (p := (atG g i).un) (q := [])
    rw [show decide ((atG g i).un = []) = (atG g i).un.isEmpty by cases (atG g i).un <;> rfl] at this
    exact this
  refine eq_wE ?_
  simp_arith [M_may_be_found, m_may_be_found, opIx_gr hi, Sty.d, e1]
  unfold fndN
  cases q : (atG g i).un.isEmpty with
  | false => simp_arith [Bool.false_and]
  | true =>
    simp_arith [Bool.true_and]
    rcases G.nm _ (atG_mem hi) with ⟨x, hx, e⟩ | ⟨n, e⟩
    · rw [e]; simp_arith [opEq_strs hx.ok hw]
    · rw [e]
      have : opEq (.v (natD n)) (.v (.str w)) S = .ok (.v (.bl false)) S := (opEq_nic (b := false) 0 (nic_nat 0 n) (show Nic 0 (.str w) from hw) (by decide) (by simp [natD])).1
      simp_arith [this]
      rfl
theorem may_be_done_spec {g : Gr} {i a b : Nat} {w : Str} {S : Store} (hi : i < g.length) (hw : strOkB w = true) : M_may_be_done [.v (grD g), .v (.int (i : Int)), .v (.str w), .v (.int (a : Int)), .v (.int (b : Int))] S = .ok (.v (.bl (domN g i w a b))) S := by
  have o1 : strOkB "doubled" = true := by decide +kernel
  have o2 : strOkB "split" = true := by decide +kernel
  have o3 : strOkB "over" = true := by decide +kernel
  have hin : opIn (.v (.tup [.int (a : Int), .int (b : Int)])) (.v (.tup [.tup ((atG g i).un.map natD), .tup ((atG g i).un.map natD).reverse])) S = .ok (.v (.bl (decide ([a, b] = (atG g i).un) || decide ([a, b] = (atG g i).un.reverse)))) S :=
    (opIn_nic (S := S) (d := pD [a, b]) (es := [pD (atG g i).un, pD (atG g i).un.reverse]) (z := .v (.tup [.tup ((atG g i).un.map natD), .tup ((atG g i).un.map natD).reverse])) 1 (nic_pD 0 _) (fun e he => by
      simp only [List.mem_cons, List.not_mem_nil, or_false] at he
      rcases he with rfl | rfl <;> exact nic_pD 0 _) (by decide) (.inl (by rw [view_v, pD, pD, List.map_reverse])) (b := decide ([a, b] = (atG g i).un) || decide ([a, b] = (atG g i).un.reverse)) (by
        rw [Bool.or_eq_true, decide_eq_true_eq, decide_eq_true_eq, List.mem_cons, List.mem_cons]
        have inj : ∀ p q : List Nat, pD p = pD q ↔ p = q := fun p q => ⟨fun h => map_natD_inj (by simpa [pD] using h), fun h => by rw [h]⟩
        rw [inj, inj]; simp)).1
  have hrev : opRev (.v (.tup ((atG g i).un.map natD))) S = .ok (.v (.tup ((atG g i).un.map natD).reverse)) S := id rfl
  refine eq_wE ?_
  simp_arith [M_may_be_done, m_may_be_done, opIx_gr hi, Sty.d, cutD_drop _ (show (0 : Int) ≤ 2 by decide), show (2 : Int).toNat = 2 from rfl, List.drop_succ_cons, List.drop_zero, opEq_strs hw o1, opEq_strs hw o2, opEq_strs hw o3]
  unfold domN
  cases q1 : decide (w = "doubled") with
  | true =>
    rw [if_pos (of_decide_eq_true q1)]
    simp_arith [opEq_strs hw o2, opEq_strs hw o3, beq_nat]
    cases decide (a = i) <;> simp_arith [opEq_strs hw o2, opEq_strs hw o3, beq_nat, Bool.true_and, Bool.false_and]
  | false =>
    rw [if_neg (of_decide_eq_false q1)]
    simp_arith [opEq_strs hw o2, opEq_strs hw o3]
    cases q2 : decide (w = "split") with
    | true =>
      rw [if_pos (of_decide_eq_true q2)]
      have e2 : (((atG g i).un.length : Int) == 2) = decide ((atG g i).un.length = 2) := beq_nat _ 2
      simp_arith [opEq_strs hw o2, opEq_strs hw o3, List.length_map, e2]
      cases decide ((atG g i).un.length = 2) <;> simp_arith [opEq_strs hw o2, opEq_strs hw o3, hrev, hin, Bool.true_and, Bool.false_and]
    | false =>
      rw [if_neg (of_decide_eq_false q2)]
      simp_arith [opEq_strs hw o2, opEq_strs hw o3]
      cases decide (w = "over") with
      | false => simp_arith [opEq_strs hw o2, opEq_strs hw o3, Bool.false_and]
      | true =>
        simp_arith [opEq_strs hw o2, opEq_strs hw o3, beq_nat, Bool.true_and]
        cases decide (a = i) <;> cases decide (b = i) <;> simp_arith [opEq_strs hw o2, opEq_strs hw o3, opIn_natp, beq_nat, Bool.true_and, Bool.false_and, Bool.false_or, Bool.or_false]
        all_goals cases decide (b ∈ (atG g i).bs) <;> simp_arith [M.onBl_bl, opEq_strs hw o2, opEq_strs hw o3, opIn_natp, beq_nat, Bool.true_and, Bool.false_and, Bool.false_or, Bool.or_false, Bool.true_or]
theorem pathN_last {g : Gr} {p : List Nat} (h : pathN g p = true) : p.getLastD 0 < g.length := by
  obtain ⟨h1, h2, _⟩ := pathN_inv h
  refine h2 _ ?_
  rw [List.getLastD_eq_getLast?, List.getLast?_eq_some_getLast h1]
  exact List.getLast_mem h1
theorem wayD_path {g : Gr} {t : T} {d : D} (h : wayD g t d = true) : ∃ p ds, d = .tup (pD p :: ds) ∧ pathN g p = true := by
  cases t with
  | leaf w =>
    unfold wayD at h
    split at h
    all_goals first | (cases h; done) | skip
    all_goals
      rw [Bool.and_eq_true] at h
      obtain ⟨p, rfl, hp⟩ := pathD_inv h.1
      exact ⟨p, _, rfl, hp⟩
  | node l r =>
    unfold wayD at h
    split at h
    all_goals first | (cases h; done) | skip
    all_goals
      rw [Bool.and_eq_true] at h
      obtain ⟨p, rfl, hp⟩ := pathD_inv h.1
      exact ⟨p, _, rfl, hp⟩
theorem is_way_of_spec {g : Gr} {t0 : T} (G : Grd g) (ho : t0.Ok) {S : Store} : ∀ (k : Nat) (s : T) (i : Nat) (d : D), t0.subs[i]? = some s → s.depth < k → Sane (s.depth + 3) d → R_is_way_of k [.v (grD g), .v (.tup t0.nodes), .v (.int (i : Int)), .v d] S = .ok (.v (.bl (wayD g s d))) S
  | 0, _, _, _, _, h, _ => by omega
  | k + 1, s, i, d, hs, hd, hsn => by
    have hfnd : strOkB "found" = true := by decide +kernel
    refine eq_wE ?_
    have hix : ∀ x, t0.nodes[i]? = some x → opIx (.v (.tup t0.nodes)) (.v (.int (i : Int))) S = .ok (.v x) S := fun x hx => opIx_tup (by rw [atI_lt (by omega), Int.toNat_natCast, hx])
    obtain ⟨x, hx, hxt⟩ : ∃ x, t0.nodes[i]? = some x ∧ isStr x = (match s with | .leaf _ => true | _ => false) := by
      cases s with
      | leaf w => exact ⟨_, T.sub_leaf hs, rfl⟩
      | node l r => obtain ⟨a, b, e, _⟩ := T.sub_node hs; exact ⟨_, e, rfl⟩
    have hxn : notTy x = true := T.notTy_nodes t0 0 _ (List.mem_of_getElem? hx)
    simp_arith [R_is_way_of, m_is_way_of, hix x hx, isi_tuple d hsn.ty]
    have bad : (∀ ds, d = .tup ds → ds.length ≠ 2 ∧ ds.length ≠ 4) → wayD g s d = false := fun h => by
      cases s <;> unfold wayD <;> split <;> first | rfl | (have := h _ rfl; simp at this)
    cases ht : isTup d with
    | false => simp_arith [bad fun ds e => by rw [e] at ht; cases ht]
    | true =>
      obtain ⟨ds, rfl⟩ : ∃ ds, d = .tup ds := by cases d <;> first | exact ⟨_, rfl⟩ | cases ht
      obtain ⟨hl, hm⟩ := hsn.2.1 ds rfl
      have hin : opNotIn (.v (.int (ds.length : Int))) (.v (.tup [.int 2, .int 4])) S = .ok (.v (.bl (!decide (ds.length ∈ [2, 4])))) S :=
        (opIn_nic (S := S) (d := natD ds.length) (es := [2, 4].map natD) (z := .v (.tup [.int 2, .int 4])) 0 (nic_nat _ _) (fun e he => by obtain ⟨y, _, rfl⟩ := List.mem_map.mp he; exact nic_nat _ _) (by decide) (.inl (view_v _ _)) (b := decide (ds.length ∈ [2, 4])) (by
          rw [decide_eq_true_eq, List.mem_map]
          exact ⟨fun h => ⟨_, h, rfl⟩, fun ⟨y, h, e⟩ => natD_inj e ▸ h⟩)).2
      simp_arith [hin]
      cases hq : decide (ds.length ∈ [2, 4]) with
      | false =>
        have hq := of_decide_eq_false hq
        simp at hq
        simp_arith [bad fun ds' e => by cases e; exact hq]
      | true =>
        have hq := of_decide_eq_true hq
        simp at hq
        obtain ⟨p, c, rest, rfl⟩ : ∃ p c rest, ds = p :: c :: rest := by
          match ds, hq with
          | p :: c :: rest, _ => exact ⟨p, c, rest, rfl⟩
          | [], h => simp at h
          | [_], h => simp at h
        have hr2 : rest.length = 0 ∨ rest.length = 2 := by simp only [List.length_cons] at hq; omega
        have sp : Sane 2 p := sane_le (by omega) (hm p (by simp))
        have sc : Sane (s.depth + 2) c := hm c (by simp)
        simp_arith [opIx_tup (atI_0 _ _), opIx_tup (atI_1 _ _ _), is_path_spec G sp]
        have wp : wayD g s (.tup (p :: c :: rest)) = true → pathD g p = true := fun h => by
          obtain ⟨p', ds', e, hp⟩ := wayD_path h
          cases e
          rw [pathD_pD]; exact hp
        cases hp : pathD g p with
        | false =>
          have : wayD g s (.tup (p :: c :: rest)) = false := by
            cases h : wayD g s (.tup (p :: c :: rest)) with
            | false => rfl
            | true => rw [wp h] at hp; cases hp
          simp_arith [this]
        | true =>
          obtain ⟨p, rfl, hpn⟩ := pathD_inv hp
          simp_arith [isi_str c sc.ty]
          cases hc : isStr c with
          | false =>
            have : wayD g s (.tup (pD p :: c :: rest)) = false := by
              cases s <;> unfold wayD <;> split <;> first | rfl | skip
              all_goals (rename_i e; cases e; cases hc)
            simp_arith [this]
          | true =>
            obtain ⟨c, rfl⟩ : ∃ w, c = .str w := by cases c <;> first | exact ⟨_, rfl⟩ | (cases hc; done) | cases sc.ty
            have oc : strOkB c = true := sc.2.2 c rfl
            simp_arith [isi_str x hxn, hxt]
            have hlast := pathN_last hpn
            have ilast : opIx (.v (pD p)) (.v (.int (-1))) S = .ok (.v (.int (p.getLastD 0 : Int))) S := opIx_last (pathN_inv hpn).1
            cases s with
            | leaf w =>
              have ew : x = .str w := by have := T.sub_leaf hs; rw [hx] at this; exact Option.some.inj this
              subst ew
              have ow : strOkB w = true := by
                have := T.subs_ok ho hs
                exact (this w (by simp [T.ls])).ok
              rcases hr2 with hq | hq
              · have : rest = [] := List.length_eq_zero_iff.mp hq
                subst this
                simp_arith [List.length_cons, List.length_nil, show (((0 + 1 + 1 : Nat) : Int) == 2) = true from rfl, show (!((true : Bool) == true)) = false from rfl, ilast, opEq_strs oc hfnd, opNe_bl]
                have e : wayD g (.leaf w) (.tup [pD p, .str c]) = (decide (c = "found") && fndN g (p.getLastD 0) w) := by
                  show (pathD g (pD p) && (decide (c = "found") && fndN g (lastD (pD p)) w)) = _
                  rw [pathD_pD, hpn, lastD_pD, Bool.true_and]
                rw [e]
                cases decide (c = "found") <;> simp_arith [may_be_found_spec G hlast ow, Bool.true_and, Bool.false_and]
              · have e : wayD g (.leaf w) (.tup (pD p :: .str c :: rest)) = false := by
                  match rest, hq with
                  | [_, _], _ => rfl
                simp_arith [hq, e, show (((2 + 1 + 1 : Nat) : Int) == 2) = false from rfl, opNe_bl, show (!((false : Bool) == true)) = true from rfl]
            | node l r =>
              obtain ⟨a, b, ex, ha, hb, la, lb⟩ := T.sub_node hs
              rw [hx] at ex
              cases ex
              rcases hr2 with hq | hq
              · have : rest = [] := List.length_eq_zero_iff.mp hq
                subst this
                simp_arith [show (((0 + 1 + 1 : Nat) : Int) == 2) = true from rfl, opNe_bl, show (!((true : Bool) == false)) = true from rfl]
                rfl
              · obtain ⟨u, v, rfl⟩ : ∃ u v, rest = [u, v] := by
                  match rest, hq with
                  | [u, v], _ => exact ⟨u, v, rfl⟩
                simp only [T.depth] at hd hsn hm
                have su : Sane (l.depth + 3) u := sane_le (by omega) (hm u (by simp))
                have sv : Sane (r.depth + 3) v := sane_le (by omega) (hm v (by simp))
                simp_arith [show (((0 + 1 + 1 + 1 + 1 : Nat) : Int) == 2) = false from rfl, opNe_bl, show (!((false : Bool) == false)) = false from rfl, ilast, opIx_tup (atI_2 _ _ _ _), opIx_tup (atI_3 _ _ _ _ _), natD, is_way_of_spec G ho k l a u ha (by omega) su]
                have e : wayD g (.node l r) (.tup [pD p, .str c, u, v]) = (wayD g l u && (wayD g r v && domN g (p.getLastD 0) c (headD u) (headD v))) := by
                  show (pathD g (pD p) && (wayD g l u && (wayD g r v && domN g (lastD (pD p)) c (headD u) (headD v)))) = _
                  rw [pathD_pD, hpn, lastD_pD, Bool.true_and]
                rw [e]
                cases hu : wayD g l u with
                | false => simp_arith [Bool.false_and]
                | true =>
                  simp_arith [is_way_of_spec G ho k r b v hb (by omega) sv]
                  cases hv : wayD g r v with
                  | false => simp_arith [Bool.false_and, Bool.true_and]
                  | true =>
                    obtain ⟨p1, d1, rfl, h1⟩ := wayD_path hu
                    obtain ⟨p2, d2, rfl, h2⟩ := wayD_path hv
                    have q1 : headD (.tup (pD p1 :: d1)) = p1.headD 0 := by show ((natsOf (p1.map natD)).getD []).headD 0 = _; rw [natsOf_map]; rfl
                    have q2 : headD (.tup (pD p2 :: d2)) = p2.headD 0 := by show ((natsOf (p2.map natD)).getD []).headD 0 = _; rw [natsOf_map]; rfl
                    have i1 : opIx (.v (pD p1)) (.v (.int 0)) S = .ok (.v (.int (p1.headD 0 : Int))) S := opIx_head (pathN_inv h1).1
                    have i2 : opIx (.v (pD p2)) (.v (.int 0)) S = .ok (.v (.int (p2.headD 0 : Int))) S := opIx_head (pathN_inv h2).1
                    simp_arith [opIx_tup (atI_0 _ _), i1, i2, may_be_done_spec hlast oc, q1, q2, Bool.true_and]
theorem is_way_spec {g : Gr} {t : T} {d : D} {S : Store} (G : Grd g) (ho : t.Ok) (hd : t.depth < 60) (hz : t.ls.length ≤ 10000) (hsn : Sane (t.depth + 3) d) :
    M_is_way [.v (grD g), .v t.d, .v d] S = .ok (.v (.bl (wayD g t d && oneD d))) S := by
  refine eq_wE ?_
  have ec : ((t.nodes.length : Int) - 1) = ((t.cnt - 1 : Nat) : Int) := by rw [t.nodes_len]; have := t.cnt_pos; omega
  simp_arith [M_is_way, m_is_way, nodes_spec (show t.depth < 70 by omega) (by omega), ec, is_way_of_spec G ho 70 t (t.cnt - 1) d t.sub_top (by omega) hsn]
  cases h : wayD g t d with
  | false => simp_arith [Bool.false_and]
  | true =>
    obtain ⟨p, ds, rfl, _⟩ := wayD_path h
    simp_arith [opIx_tup (atI_0 _ _), pD, List.length_map, Bool.true_and]
    rw [show ((p.length : Int) == 1) = decide (p.length = 1) from beq_nat _ 1, show oneD (.tup (.tup (p.map natD) :: ds)) = decide (p.length = 1) by simp [oneD]]
end Q
namespace Q
open PySem hiding Env
open L2 M
noncomputable def m_small_6 (g_nodes_3 : List R → Store → Out R) (g_take_2 : List R → Store → Out R) (g_pick : List R → Store → Out R) (g_tree : List R → Store → Out R) : MS :=
  (mSeq (mSet 2 (mPop (mLc (srcAny (mCall g_nodes_3 (mCons (mVar 1) mNil))) [4] (tgN 4) (mtTru (mCall biIsi (mCons (mVar 4) (mCons (mC (.ty "str")) mNil)))) (mVar 4))))
  (mSeq (mSet 3 (mBin opAdd (mC (.int 1)) (mCall g_take_2 (mCons (mVar 0) (mCons (mBin opIx (mLstV (mCons (mC (.int 6)) (mCons (mC (.int 10)) mNil))) (mCall biInt (mCons (mBin opEq (mCall g_take_2 (mCons (mVar 0) (mCons (mC (.int 8)) mNil))) (mC (.int 0))) mNil))) mNil)))))
  (mRet (mCall g_tree (mCons (mVar 0) (mCons (mPop (mLc (srcRange1 (mCons (mVar 3) mNil)) [5] (tgN 5) mtYes (mCall g_pick (mCons (mVar 0) (mCons (mVar 2) mNil))))) mNil))))))
noncomputable def M_small_6 : List R → Store → Out R := mDefV 6 (m_small_6 (R_nodes_3 70) M_take_2 M_pick M_tree)
noncomputable def b1_deeds : MS :=
  (mDrop (mMeth "list" mtExt (mVar 6) (mCons (mLstV (mCons (mTup (mCons (mC (.str "over")) (mCons (mVar 1) (mCons (mVar 7) mNil)))) (mCons (mTup (mCons (mC (.str "over")) (mCons (mVar 7) (mCons (mVar 1) mNil)))) mNil))) mNil)))
noncomputable def m_deeds : MS :=
  (mSeq (mAsg (tgT [(tgN 2), (tgN 3), (tgN 4), (tgN 5)]) (mBin opIx (mVar 0) (mVar 1)))
  (mSeq (mSet 6 (mLst (mCons (mTup (mCons (mC (.str "doubled")) (mCons (mVar 1) (mCons (mVar 1) mNil)))) mNil)))
  (mSeq (mIfS (mtB (mBin opEq (mCall biLen (mCons (mVar 4) mNil)) (mC (.int 2)))) (mDrop (mMeth "list" mtExt (mVar 6) (mCons (mLstV (mCons (mTup (mCons (mC (.str "split")) (mCons (mBin opIx (mVar 4) (mC (.int 0))) (mCons (mBin opIx (mVar 4) (mC (.int 1))) mNil)))) (mCons (mTup (mCons (mC (.str "split")) (mCons (mBin opIx (mVar 4) (mC (.int 1))) (mCons (mBin opIx (mVar 4) (mC (.int 0))) mNil)))) mNil))) mNil))) mSkip)
  (mSeq (mFor (srcAny (mVar 5)) (tgN 7) b1_deeds)
  (mRet (mVar 6))))))
noncomputable def M_deeds : List R → Store → Out R := mDefV 8 (m_deeds)
noncomputable def m_done (g_deeds : List R → Store → Out R) : MS :=
  (mSeq (mSet 5 (mBin opIx (mVar 1) (mVar 3)))
  (mSeq (mIfS (mtTru (mCall biIsi (mCons (mVar 5) (mCons (mC (.ty "str")) mNil)))) (mRet (mPop (mBin opMul (mLstV (mCons (mTup (mCons (mC (.str "found")) (mCons (mVar 4) (mCons (mVar 4) mNil)))) mNil)) (mCall biInt (mCons (mAnd (mBin opEq (mBin opIx (mBin opIx (mVar 0) (mVar 4)) (mC (.int 2))) (mTup mNil)) (mBin opEq (mBin opIx (mBin opIx (mVar 0) (mVar 4)) (mC (.int 0))) (mVar 5))) mNil))))) mSkip)
  (mRet (mPop (mLc (srcAny (mCall g_deeds (mCons (mVar 0) (mCons (mVar 4) mNil)))) [6] (tgN 6) (mtAnd (mtTru (mBin opIx (mBin opIx (mVar 2) (mBin opIx (mVar 5) (mC (.int 0)))) (mBin opIx (mVar 6) (mC (.int 1))))) (mtTru (mBin opIx (mBin opIx (mVar 2) (mBin opIx (mVar 5) (mC (.int 1)))) (mBin opIx (mVar 6) (mC (.int 2)))))) (mVar 6))))))
noncomputable def M_done : List R → Store → Out R := mDefV 7 (m_done M_deeds)
noncomputable def b1_can (g_done : List R → Store → Out R) : MS :=
  (mSeq (mSet 5 (mCall biAny (mCons (mPop (mLc (srcAny (mBin opIx (mBin opIx (mVar 0) (mVar 4)) (mC (.int 2)))) [6] (tgN 6) mtYes (mBin opIx (mBin opIx (mVar 2) (mVar 3)) (mVar 6)))) mNil)))
  (mSetIx (mOr (mVar 5) (mBin opNe (mCall g_done (mCons (mVar 0) (mCons (mVar 1) (mCons (mVar 2) (mCons (mVar 3) (mCons (mVar 4) mNil)))))) (mLstV mNil))) (mBin opIx (mVar 2) (mVar 3)) (mVar 4)))
noncomputable def b2_can (g_done : List R → Store → Out R) : MS :=
  (mSeq (mDrop (mMeth "list" mtAppend (mVar 2) (mCons (mBin opMul (mLstV (mCons (mC (.bl false)) mNil)) (mCall biLen (mCons (mVar 0) mNil))) mNil)))
  (mFor (srcRange1 (mCons (mCall biLen (mCons (mVar 0) mNil)) mNil)) (tgN 4) (b1_can g_done)))
noncomputable def m_can (g_done : List R → Store → Out R) : MS :=
  (mSeq (mSet 2 (mLst mNil))
  (mSeq (mFor (srcRange1 (mCons (mCall biLen (mCons (mVar 1) mNil)) mNil)) (tgN 3) (b2_can g_done))
  (mRet (mVar 2))))
noncomputable def M_can : List R → Store → Out R := mDefV 7 (m_can M_done)
noncomputable def b1_path (g_done : List R → Store → Out R) (g_take_2 : List R → Store → Out R) (g_pick : List R → Store → Out R) : MS :=
  (mSeq (mSetP 8 (mLc (srcAny (mBin opIx (mBin opIx (mVar 1) (mBin opIx (mVar 6) (mUn opNeg (mC (.int 1))))) (mC (.int 2)))) [10] (tgN 10) (mtTru (mBin opIx (mBin opIx (mVar 3) (mVar 4)) (mVar 10))) (mVar 10)))
  (mSeq (mSet 9 (mOr (mBin opEq (mCall g_done (mCons (mVar 1) (mCons (mVar 2) (mCons (mVar 3) (mCons (mVar 4) (mCons (mBin opIx (mVar 6) (mUn opNeg (mC (.int 1)))) mNil)))))) (mLstV mNil)) (mBin opEq (mCall g_take_2 (mCons (mVar 0) (mCons (mC (.int 3)) mNil))) (mC (.int 0)))))
  (mIfS (mtAnd (mtB (mBin opNe (mVar 8) (mLstV mNil))) (mtTru (mVar 9))) (mDrop (mMeth "list" mtAppend (mVar 6) (mCons (mCall g_pick (mCons (mVar 0) (mCons (mVar 8) mNil))) mNil))) mSkip)))
noncomputable def b2_path (g_pick : List R → Store → Out R) : MS :=
  (mDrop (mMeth "list" mtAppend (mVar 6) (mCons (mCall g_pick (mCons (mVar 0) (mCons (mPop (mLc (srcAny (mBin opIx (mBin opIx (mVar 1) (mBin opIx (mVar 6) (mUn opNeg (mC (.int 1))))) (mC (.int 2)))) [10] (tgN 10) (mtTru (mBin opIx (mBin opIx (mVar 3) (mVar 4)) (mVar 10))) (mVar 10))) mNil))) mNil)))
noncomputable def m_path (g_done : List R → Store → Out R) (g_take_2 : List R → Store → Out R) (g_pick : List R → Store → Out R) : MS :=
  (mSeq (mSet 6 (mLst (mCons (mVar 5) mNil)))
  (mSeq (mFor (srcRange1 (mCons (mCall biLen (mCons (mVar 1) mNil)) mNil)) (tgN 7) (b1_path g_done g_take_2 g_pick))
  (mSeq (mWhile (mtB (mBin opEq (mCall g_done (mCons (mVar 1) (mCons (mVar 2) (mCons (mVar 3) (mCons (mVar 4) (mCons (mBin opIx (mVar 6) (mUn opNeg (mC (.int 1)))) mNil)))))) (mLstV mNil))) (b2_path g_pick))
  (mRet (mCall biTuple (mCons (mVar 6) mNil))))))
noncomputable def M_path : List R → Store → Out R := mDefV 11 (m_path M_done M_take_2 M_pick)
noncomputable def m_way (g_done : List R → Store → Out R) (g_pick : List R → Store → Out R) (g_path : List R → Store → Out R) (g_way : List R → Store → Out R) : MS :=
  (mSeq (mAsg (tgT [(tgN 6), (tgN 7), (tgN 8)]) (mCall g_pick (mCons (mVar 0) (mCons (mCall g_done (mCons (mVar 1) (mCons (mVar 2) (mCons (mVar 3) (mCons (mVar 4) (mCons (mBin opIx (mVar 5) (mUn opNeg (mC (.int 1)))) mNil)))))) mNil))))
  (mSeq (mIfS (mtB (mBin opEq (mVar 6) (mC (.str "found")))) (mRet (mTup (mCons (mVar 5) (mCons (mVar 6) mNil)))) mSkip)
  (mSeq (mSet 9 (mBin opIx (mVar 2) (mVar 4)))
  (mSeq (mSet 10 (mCall g_way (mCons (mVar 0) (mCons (mVar 1) (mCons (mVar 2) (mCons (mVar 3) (mCons (mBin opIx (mVar 9) (mC (.int 0))) (mCons (mCall g_path (mCons (mVar 0) (mCons (mVar 1) (mCons (mVar 2) (mCons (mVar 3) (mCons (mBin opIx (mVar 9) (mC (.int 0))) (mCons (mVar 7) mNil))))))) mNil))))))))
  (mRet (mTup (mCons (mVar 5) (mCons (mVar 6) (mCons (mVar 10) (mCons (mCall g_way (mCons (mVar 0) (mCons (mVar 1) (mCons (mVar 2) (mCons (mVar 3) (mCons (mBin opIx (mVar 9) (mC (.int 1))) (mCons (mCall g_path (mCons (mVar 0) (mCons (mVar 1) (mCons (mVar 2) (mCons (mVar 3) (mCons (mBin opIx (mVar 9) (mC (.int 1))) (mCons (mVar 8) mNil))))))) mNil))))))) mNil))))))))))
noncomputable def R_way : Nat → List R → Store → Out R
  | 0 => fun _ _ => .no
  | k + 1 => mDefV 11 (m_way M_done M_pick M_path (R_way k))
noncomputable def m_whole_way (g_nodes_3 : List R → Store → Out R) (g_can : List R → Store → Out R) (g_done : List R → Store → Out R) (g_pick : List R → Store → Out R) (g_way : List R → Store → Out R) : MS :=
  (mSeq (mSet 3 (mCall g_nodes_3 (mCons (mVar 2) mNil)))
  (mSeq (mSet 4 (mCall g_can (mCons (mVar 1) (mCons (mVar 3) mNil))))
  (mSeq (mSet 5 (mBin opSub (mCall biLen (mCons (mVar 3) mNil)) (mC (.int 1))))
  (mSeq (mSetP 6 (mLc (srcRange1 (mCons (mCall biLen (mCons (mVar 1) mNil)) mNil)) [7] (tgN 7) (mtB (mBin opNe (mCall g_done (mCons (mVar 1) (mCons (mVar 3) (mCons (mVar 4) (mCons (mVar 5) (mCons (mVar 7) mNil)))))) (mLstV mNil))) (mVar 7)))
  (mRet (mCall g_way (mCons (mVar 0) (mCons (mVar 1) (mCons (mVar 3) (mCons (mVar 4) (mCons (mVar 5) (mCons (mTup (mCons (mCall g_pick (mCons (mVar 0) (mCons (mVar 6) mNil))) mNil)) mNil))))))))))))
noncomputable def M_whole_way : List R → Store → Out R := mDefV 8 (m_whole_way (R_nodes_3 70) M_can M_done M_pick (R_way 70))
end Q
namespace M
open PySem PySem.Spec L2
open PyProof.Rows hiding St
def ddsN (g : Gr) (s : Nat) : List (Str × Nat × Nat) :=
  (("doubled" : Str), s, s) :: ((if (atG g s).un.length = 2 then [(("split" : Str), (atG g s).un.getD 0 0, (atG g s).un.getD 1 0), (("split" : Str), (atG g s).un.getD 1 0, (atG g s).un.getD 0 0)] else []) ++ (atG g s).bs.flatMap fun o => [(("over" : Str), s, o), (("over" : Str), o, s)])
def dd3 (x : Str × Nat × Nat) : D := .tup [.str x.1, natD x.2.1, natD x.2.2]
theorem dds_dom {g : Gr} {s : Nat} {x : Str × Nat × Nat} (h : x ∈ ddsN g s) : domN g s x.1 x.2.1 x.2.2 = true := by
  have o1 : ("split" : Str) ≠ "doubled" := by decide +kernel
  have o2 : ("over" : Str) ≠ "doubled" := by decide +kernel
  have o3 : ("over" : Str) ≠ "split" := by decide +kernel
  rcases List.mem_cons.mp h with rfl | h
  · simp [domN]
  rcases List.mem_append.mp h with h | h
  · by_cases hu : (atG g s).un.length = 2
    · rw [if_pos hu] at h
      obtain ⟨a, b, e⟩ : ∃ a b, (atG g s).un = [a, b] := by
        match (atG g s).un, hu with
        | [a, b], _ => exact ⟨a, b, rfl⟩
      rw [e] at h
      simp only [List.mem_cons, List.not_mem_nil, or_false] at h
      rcases h with rfl | rfl <;> simp [domN, o1, e]
    · rw [if_neg hu] at h; simp at h
  · obtain ⟨o, ho, h⟩ := List.mem_flatMap.mp h
    simp only [List.mem_cons, List.not_mem_nil, or_false] at h
    rcases h with rfl | rfl <;> simp [domN, o2, o3, ho]
theorem dds_rng {g : Gr} (G : Grd g) {s : Nat} (hs : s < g.length) {x : Str × Nat × Nat} (h : x ∈ ddsN g s) : x.2.1 < g.length ∧ x.2.2 < g.length := by
  obtain ⟨h1, h2, h3, h4⟩ := G.un s hs
  rcases List.mem_cons.mp h with rfl | h
  · exact ⟨hs, hs⟩
  rcases List.mem_append.mp h with h | h
  · by_cases hu : (atG g s).un.length = 2
    · rw [if_pos hu] at h
      obtain ⟨a, b, e⟩ : ∃ a b, (atG g s).un = [a, b] := by
        match (atG g s).un, hu with
        | [a, b], _ => exact ⟨a, b, rfl⟩
      rw [e] at h h1
      have ha := h1 a (by simp)
      have hb := h1 b (by simp)
      simp only [List.mem_cons, List.not_mem_nil, or_false] at h
      rcases h with rfl | rfl
      · exact ⟨show a < _ by omega, show b < _ by omega⟩
      · exact ⟨show b < _ by omega, show a < _ by omega⟩
    · rw [if_neg hu] at h; simp at h
  · obtain ⟨o, ho, h⟩ := List.mem_flatMap.mp h
    have := h3 o ho
    simp only [List.mem_cons, List.not_mem_nil, or_false] at h
    rcases h with rfl | rfl
    · exact ⟨hs, this⟩
    · exact ⟨this, hs⟩
theorem dds_len {g : Gr} (G : Grd g) {s : Nat} (hs : s < g.length) : (ddsN g s).length ≤ 3000 := by
  obtain ⟨h1, h2, h3, h4⟩ := G.un s hs
  have : ∀ L : List Nat, (L.flatMap fun o => [(("over" : Str), s, o), (("over" : Str), o, s)]).length = 2 * L.length := by
    intro L
    induction L with
    | nil => rfl
    | cons a L ih => rw [List.flatMap_cons, List.length_append, ih]; simp; omega
  unfold ddsN
  rw [List.length_cons, List.length_append, this]
  split <;> simp <;> omega
/-- one row of what can be -/
def crow (g : Gr) (dn : Nat → Bool) : Nat → List Bool
  | 0 => []
  | n + 1 => crow g dn n ++ [(atG g n).un.any (fun u => (crow g dn n).getD u false) || dn n]
theorem crow_len (g : Gr) (dn : Nat → Bool) : ∀ n, (crow g dn n).length = n
  | 0 => rfl
  | n + 1 => by simp [crow, crow_len g dn n]
def can1 (g : Gr) (dn : Nat → Bool) (s : Nat) : Bool := (crow g dn (s + 1)).getD s false
theorem crow_get (g : Gr) (dn : Nat → Bool) : ∀ (n s : Nat), s < n → (crow g dn n).getD s false = can1 g dn s
  | 0, s, h => by omega
  | n + 1, s, h => by
    by_cases q : s = n
    · subst q; rfl
    · have := crow_get g dn n s (by omega)
      rw [← this, crow, List.getD_eq_getElem?_getD, List.getElem?_append_left (by rw [crow_len]; omega), ← List.getD_eq_getElem?_getD]
theorem crow_eq (g : Gr) (dn : Nat → Bool) (n : Nat) : crow g dn n = (List.range n).map (can1 g dn) := by
  refine List.ext_getElem (by rw [crow_len]; simp) fun i h1 h2 => ?_
  have h1' : i < n := by rwa [crow_len] at h1
  have := crow_get g dn n i h1'
  rw [List.getD_eq_getElem?_getD, List.getElem?_eq_getElem h1] at this
  simpa using this
theorem can1_eq {g : Gr} (G : Grd g) (dn : Nat → Bool) {s : Nat} (hs : s < g.length) : can1 g dn s = ((atG g s).un.any (can1 g dn) || dn s) := by
  unfold can1
  rw [crow, List.getD_eq_getElem?_getD, List.getElem?_append_right (by rw [crow_len]; omega), crow_len, Nat.sub_self]
  show (_ || dn s) = _
  congr 1
  have h := (G.un s hs).1
  rw [Bool.eq_iff_iff, List.any_eq_true, List.any_eq_true]
  constructor
  · rintro ⟨u, hu, e⟩; exact ⟨u, hu, by rw [crow_get g dn s u (h u hu)] at e; exact e⟩
  · rintro ⟨u, hu, e⟩; exact ⟨u, hu, by rw [crow_get g dn s u (h u hu)]; exact e⟩
def dnN (g : Gr) : T → Nat → List (Str × Nat × Nat)
  | .leaf w, s => if fndN g s w = true then [(("found" : Str), s, s)] else []
  | .node l r, s => (ddsN g s).filter fun x => can1 g (fun s => !(dnN g l s).isEmpty) x.2.1 && can1 g (fun s => !(dnN g r s).isEmpty) x.2.2
def canN (g : Gr) (t : T) (s : Nat) : Bool := can1 g (fun s => !(dnN g t s).isEmpty) s
theorem canN_eq {g : Gr} (G : Grd g) (t : T) {s : Nat} (hs : s < g.length) : canN g t s = ((atG g s).un.any (canN g t) || !(dnN g t s).isEmpty) := can1_eq G _ hs
theorem dnN_node (g : Gr) (l r : T) (s : Nat) : dnN g (.node l r) s = (ddsN g s).filter fun x => canN g l x.2.1 && canN g r x.2.2 := rfl
/-- from the top on there is a way to where one can be -/
theorem canN_up {g : Gr} (G : Grd g) (t : T) : ∀ (k s : Nat), s + k + 1 = g.length → canN g t s = true → canN g t (g.length - 1) = true := by
  have key : ∀ (n s : Nat), g.length - s ≤ n → s < g.length → canN g t s = true → canN g t (g.length - 1) = true := by
    intro n
    induction n with
    | zero => intro s h1 h2; omega
    | succ n ih =>
      intro s h1 h2 h
      by_cases q : s + 1 < g.length
      · obtain ⟨j, hj, hu⟩ := G.top s q
        have hlt := (G.un j hj).1 s hu
        refine ih j (by omega) hj ?_
        rw [canN_eq G t hj, Bool.or_eq_true]
        exact .inl (List.any_eq_true.mpr ⟨s, hu, h⟩)
      · rw [show g.length - 1 = s by omega]; exact h
  exact fun k s hk => key g.length s (by omega) (by omega)
/-- all words are found -/
def Fnd (g : Gr) (ws : List Str) : Prop := ∀ w ∈ ws, ∃ s, s < g.length ∧ fndN g s w = true
theorem canN_top {g : Gr} (G : Grd g) : ∀ t : T, Fnd g t.ls → canN g t (g.length - 1) = true
  | .leaf w, h => by
    obtain ⟨s, hs, e⟩ := h w (by simp [T.ls])
    refine canN_up G _ (g.length - 1 - s) s (by omega) ?_
    rw [canN_eq G _ hs, Bool.or_eq_true]
    exact .inr (by simp [dnN, e])
  | .node l r, h => by
    have hp : 0 < g.length := List.length_pos_iff.mpr G.ne
    have h1 := canN_top G l fun w hw => h w (by simp [T.ls, hw])
    have h2 := canN_top G r fun w hw => h w (by simp [T.ls, hw])
    rw [canN_eq G _ (by omega), Bool.or_eq_true]
    refine .inr ?_
    have : (("doubled" : Str), g.length - 1, g.length - 1) ∈ dnN g (.node l r) (g.length - 1) := by
      rw [dnN_node, List.mem_filter]
      exact ⟨by simp [ddsN], by simp [h1, h2]⟩
    cases hd : dnN g (.node l r) (g.length - 1) with
    | nil => rw [hd] at this; simp at this
    | cons x xs => rfl
theorem dn_top {g : Gr} (G : Grd g) (t : T) (h : Fnd g t.ls) : ∃ s, s < g.length ∧ dnN g t s ≠ [] := by
  have hp : 0 < g.length := List.length_pos_iff.mpr G.ne
  have key : ∀ (n s : Nat), s ≤ n → s < g.length → canN g t s = true → ∃ s, s < g.length ∧ dnN g t s ≠ [] := by
    intro n
    induction n with
    | zero =>
      intro s h1 h2 h
      rw [canN_eq G t h2, Bool.or_eq_true] at h
      rcases h with h | h
      · obtain ⟨u, hu, _⟩ := List.any_eq_true.mp h
        have := (G.un s h2).1 u hu; omega
      · exact ⟨s, h2, by simpa using h⟩
    | succ n ih =>
      intro s h1 h2 h
      rw [canN_eq G t h2, Bool.or_eq_true] at h
      rcases h with h | h
      · obtain ⟨u, hu, hc⟩ := List.any_eq_true.mp h
        have := (G.un s h2).1 u hu
        exact ih u (by omega) (by omega) hc
      · exact ⟨s, h2, by simpa using h⟩
  exact key _ _ (Nat.le_refl _) (by omega) (canN_top G t h)
theorem dnN_len {g : Gr} (G : Grd g) (t : T) {s : Nat} (hs : s < g.length) : (dnN g t s).length ≤ 3000 := by
  cases t with
  | leaf w => unfold dnN; split <;> simp
  | node l r => exact Nat.le_trans (List.length_filter_le _ _) (dds_len G hs)
/-- paths -/
def stepsN (g : Gr) (p : List Nat) : Prop := ∀ q ∈ p.zip p.tail, q.2 ∈ (atG g q.1).un
theorem pathN_iff {g : Gr} {p : List Nat} : pathN g p = true ↔ p ≠ [] ∧ (∀ x ∈ p, x < g.length) ∧ stepsN g p := by
  refine ⟨pathN_inv, fun ⟨h1, h2, h3⟩ => ?_⟩
  unfold pathN
  simp only [Bool.and_eq_true, Bool.not_eq_true', List.isEmpty_eq_false_iff, List.all_eq_true, decide_eq_true_eq]
  exact ⟨⟨h1, h2⟩, h3⟩
theorem steps_snoc {g : Gr} {p : List Nat} {x : Nat} (hp : p ≠ []) (h : stepsN g p) (hx : x ∈ (atG g (p.getLastD 0)).un) : stepsN g (p ++ [x]) := by
  induction p with
  | nil => exact absurd rfl hp
  | cons a p ih =>
    cases p with
    | nil => intro q hq; simp at hq; subst hq; simpa using hx
    | cons b p =>
      intro q hq
      simp only [List.cons_append, List.tail_cons, List.zip_cons_cons, List.mem_cons] at hq
      rcases hq with rfl | hq
      · exact h (a, b) (by simp)
      · refine ih (by simp) (fun q hq => h q (by simp only [List.tail_cons, List.zip_cons_cons, List.mem_cons]; exact .inr hq)) (by simpa using hx) q ?_
        simpa using hq
theorem path_snoc {g : Gr} {p : List Nat} {x : Nat} (h : pathN g p = true) (hx : x ∈ (atG g (p.getLastD 0)).un) (hl : x < g.length) : pathN g (p ++ [x]) = true := by
  obtain ⟨h1, h2, h3⟩ := pathN_iff.mp h
  refine pathN_iff.mpr ⟨by simp, fun y hy => ?_, steps_snoc h1 h3 hx⟩
  rcases List.mem_append.mp hy with hy | hy
  · exact h2 y hy
  · simp at hy; omega
theorem last_snoc (p : List Nat) (x : Nat) : (p ++ [x]).getLastD 0 = x := by simp [List.getLastD_eq_getLast?]
theorem set_same {S : Store} {n : Nat} {o : MO} (h : S[n]? = some o) : S.set n o = S := by
  refine List.ext_getElem? fun j => ?_
  by_cases hj : n = j
  · subst hj; rw [get_set h, h]
  · rw [get_ne hj]
theorem frzA_refs (k : Nat) : ∀ (rs : List (Nat × List D)) (T : Store), (∀ p ∈ rs, T[p.1]? = some (.lst (p.2.map .v))) → (rs.map (·.1)).Nodup →
    ∃ T', frzA (k + 1) T (rs.map fun p => .ref p.1) = some (rs.map fun p => .lst p.2, T') ∧ T'.length = T.length ∧ ∀ j, j ∉ rs.map (·.1) → T'[j]? = T[j]?
  | [], T, _, _ => ⟨T, by simp [frzA], rfl, fun _ _ => rfl⟩
  | p :: rs, T, h, hn => by
    rw [List.map_cons, List.nodup_cons] at hn
    have hp := h p (by simp)
    obtain ⟨T', e1, e2, e3⟩ := frzA_refs k rs (T.set p.1 (.fz (.lst p.2))) (fun q hq => by
      have : q.1 ≠ p.1 := fun e => hn.1 (List.mem_map.mpr ⟨q, hq, e⟩)
      rw [get_ne (Ne.symm this)]; exact h q (by simp [hq])) hn.2
    refine ⟨T', ?_, by rw [e2, List.length_set], fun j hj => ?_⟩
    · rw [List.map_cons, frzA, frz_ref hp, Option.bind_some]
      simp only [e1, Option.bind_some, List.map_cons]
    · rw [List.map_cons, List.mem_cons, not_or] at hj
      rw [e3 j hj.2, get_ne (Ne.symm hj.1)]
/-- a list of lists, all new, by value -/
theorem popV_rows {S : Store} (L : List (List D)) {T : Store} (hT : T = S ++ .lst ((List.range L.length).map fun j => .ref (S.length + 1 + j)) :: L.map fun ds => .lst (ds.map .v)) : popV S (.ref S.length) T = .ok (.v (.lst (L.map .lst))) S := by
  have g0 : T[S.length]? = some (.lst ((List.range L.length).map fun j => .ref (S.length + 1 + j))) := by rw [hT, get_len]
  have hz : ∀ p ∈ ((List.range L.length).map fun j => (S.length + 1 + j, L.getD j [])), T[p.1]? = some (.lst (p.2.map .v)) := by
    intro p hp
    obtain ⟨j, hj, rfl⟩ := List.mem_map.mp hp
    have hj : j < L.length := by simpa using hj
    rw [hT, List.getElem?_append_right (by simp; omega), show S.length + 1 + j - S.length = j + 1 by omega, List.getElem?_cons_succ, List.getElem?_map, List.getElem?_eq_getElem hj, List.getD_eq_getElem?_getD, List.getElem?_eq_getElem hj]; rfl
  obtain ⟨T', e1, e2, e3⟩ := frzA_refs 6 _ T hz (by
    rw [List.map_map, List.nodup_iff_pairwise_ne, List.pairwise_map]
    exact List.nodup_range.imp fun h e => h (by simp at e; exact e))
  have er : ((List.range L.length).map fun j => (S.length + 1 + j, L.getD j [])).map (fun p => R.ref p.1) = (List.range L.length).map fun j => .ref (S.length + 1 + j) := by rw [List.map_map]; rfl
  have ed : ((List.range L.length).map fun j => (S.length + 1 + j, L.getD j [])).map (fun p => D.lst p.2) = L.map .lst := by
    rw [List.map_map]
    refine List.ext_getElem (by simp) fun i h1 h2 => ?_
    have hi : i < L.length := by simpa using h1
    simp [List.getD_eq_getElem?_getD, hi]
  rw [er, ed] at e1
  have fz : frz 8 T (.ref S.length) = some (.lst (L.map .lst), T'.set S.length (.fz (.lst (L.map .lst)))) := by
    unfold frz; simp only [g0, e1, Option.bind_some]
  have eT : T'.set S.length (.fz (.lst (L.map .lst))) = S ++ (T'.set S.length (.fz (.lst (L.map .lst)))).drop S.length := by
    refine List.ext_getElem? fun j => ?_
    by_cases hj : j < S.length
    · rw [List.getElem?_append_left hj, get_ne (by omega), e3 j (by
        intro h
        obtain ⟨p, hp, e⟩ := List.mem_map.mp h
        obtain ⟨i, _, rfl⟩ := List.mem_map.mp hp
        simp at e; omega), hT, List.getElem?_append_left hj]
    · rw [List.getElem?_append_right (by omega), List.getElem?_drop]; congr 1; omega
  unfold popV
  rw [fz]
  simp only
  rw [eT, cut_app']
end M
namespace Q
open PySem hiding Env
open L2 M
theorem deeds_spec {g : Gr} {s : Nat} {S : Store} (G : Grd g) (hs : s < g.length) : M_deeds [.v (grD g), .v (.int (s : Int))] S = .ok (.v (.lst ((ddsN g s).map dd3))) S := by
  obtain ⟨hu1, hu2, hb1, hb2⟩ := G.un s hs
  refine eq_wE ?_
  simp_arith [M_deeds, m_deeds, opIx_gr hs, Sty.d, List.length_map]
  have g0 : ∀ c, (S ++ [MO.lst c])[S.length]? = some (.lst c) := fun c => get_len S _ []
  have sf : ∀ c x, (S ++ [MO.lst c]).set S.length x = S ++ [x] := fun c x => set_len S _ x []
  have ext2 : ∀ (ys : List R) (x y : D), ys.length ≤ 10000 → mtExt (.ref S.length) [.v (.lst [x, y])] (S ++ [.lst ys]) = .ok (.v .non) (S ++ [.lst (ys ++ [.v x, .v y])]) := fun ys x y h => by
    rw [mtExt_lst (g0 ys) (sz_of (by simp only [List.length_cons, List.length_nil]; omega)), sf]; rfl
  have e2 : (((atG g s).un.length : Int) == 2) = decide ((atG g s).un.length = 2) := beq_nat _ 2
  rw [e2]
  let base : List (Str × Nat × Nat) := if (atG g s).un.length = 2 then [(("split" : Str), (atG g s).un.getD 0 0, (atG g s).un.getD 1 0), (("split" : Str), (atG g s).un.getD 1 0, (atG g s).un.getD 0 0)] else []
  refine wS_eq (o' := .nx [some (.v (grD g)), some (.v (.int (s : Int))), some (.v (atG g s).nm), some (.v (natD (atG g s).lv)), some (.v (.tup ((atG g s).un.map natD))), some (.v (.tup ((atG g s).bs.map natD))), some (.ref S.length), none] (S ++ [.lst ((((("doubled" : Str), s, s) :: base).map dd3).map .v)])) ?_ ?_
  · by_cases q : (atG g s).un.length = 2
    · obtain ⟨a, b, e⟩ : ∃ a b, (atG g s).un = [a, b] := by
        match (atG g s).un, q with
        | [a, b], _ => exact ⟨a, b, rfl⟩
      have eb : base = [(("split" : Str), a, b), (("split" : Str), b, a)] := by show (if _ then _ else _) = _; rw [if_pos q, e]; rfl
      rw [eb, decide_eq_true q, e]
      show wS _ (fun x => x = _)
      simp_arith [natD, tyOk_lst (g0 _)]
      refine wE_eq (ext2 _ _ _ (by simp)) ?_
      simp_arith []
      rfl
    · have eb : base = [] := if_neg q
      rw [eb, decide_eq_false q]
      rfl
  simp_arith []
  have bl : base.length ≤ 2 := by show (if _ then _ else _ : List _).length ≤ 2; split <;> simp
  refine for_wp [7] (fun i ws U => ∃ a, ws = [a] ∧ U = S ++ [.lst ((((("doubled" : Str), s, s) :: (base ++ ((atG g s).bs.take i).flatMap fun o => [(("over" : Str), s, o), (("over" : Str), o, s)])).map dd3).map .v)]) rfl ⟨_, rfl, by simp⟩ ?_ ?_
  · rintro i d ws U hd ⟨a, rfl, rfl⟩
    rw [List.map_map, List.getElem?_map] at hd
    obtain ⟨o, ho, rfl⟩ := Option.map_eq_some_iff.mp hd
    have hi := (List.getElem?_eq_some_iff.mp ho).1
    have hl : ∀ L : List Nat, (L.flatMap fun o => [(("over" : Str), s, o), (("over" : Str), o, s)]).length = 2 * L.length := by
      intro L
      induction L with
      | nil => rfl
      | cons a L ih => rw [List.flatMap_cons, List.length_append, ih]; simp; omega
    simp only [Function.comp_apply, natD]
    simp_arith [b1_deeds, tyOk_lst (g0 _)]
    refine wE_eq (ext2 _ _ _ (by simp only [List.length_map, List.length_cons, List.length_append, hl, List.length_take]; omega)) ?_
    simp_arith []
    refine ⟨_, rfl, ?_⟩
    rw [List.take_succ, ho, List.flatMap_append]
    simp [dd3, natD]
  · rintro ws U ⟨a, rfl, rfl⟩
    have pn := popV_new S ((ddsN g s).map dd3)
    have e : (("doubled" : Str), s, s) :: (base ++ (atG g s).bs.flatMap fun o => [(("over" : Str), s, o), (("over" : Str), o, s)]) = ddsN g s := rfl
    simp_arith [List.take_length]
    rw [List.length_map, List.length_map, List.take_length]
    exact wE_eq pn rfl
structure CanV (S : Store) (r : R) (c : Nat → Nat → Bool) (n m : Nat) : Prop where
  at_ : ∀ (cs : Store) (a : Nat), a < n → ∃ ra, opIx r (.v (.int (a : Int))) (S ++ cs) = .ok ra (S ++ cs) ∧ ∀ s : Nat, s < m → opIx ra (.v (.int (s : Int))) (S ++ cs) = .ok (.v (.bl (c a s))) (S ++ cs)
def canI (g : Gr) (t0 : T) (i s : Nat) : Bool := match t0.subs[i]? with
  | some t => canN g t s
  | none => false
theorem canI_eq {g : Gr} {t0 t : T} {i : Nat} (h : t0.subs[i]? = some t) (s : Nat) : canI g t0 i s = canN g t s := by unfold canI; rw [h]
theorem opIx_rows {S : Store} {w : Nat} {t0 : T} (hw : S[w]? = some (.lst (t0.nodes.map .v))) {i : Nat} {x : D} (hx : t0.nodes[i]? = some x) : opIx (.ref w) (.v (.int (i : Int))) S = .ok (.v x) S :=
  opIx_ref hw (by rw [atI_map, atI_lt (by omega), Int.toNat_natCast, hx]; rfl)
theorem done_spec {g : Gr} {t0 s : T} {i x w : Nat} {rc : R} {S : Store} (G : Grd g) (ho : t0.Ok) (hw : S[w]? = some (.lst (t0.nodes.map .v))) (hs : t0.subs[i]? = some s) (hx : x < g.length) (hc : CanV S rc (canI g t0) i g.length) :
    M_done [.v (grD g), .ref w, rc, .v (.int (i : Int)), .v (.int (x : Int))] S = .ok (.v (.lst ((dnN g s x).map dd3))) S := by
  refine eq_wE ?_
  cases s with
  | leaf u =>
    have ou : strOkB u = true := (T.subs_ok ho hs u (by simp [T.ls])).ok
    have e1 : opEq (.v (.tup ((atG g x).un.map natD))) (.v (.tup [])) S = .ok (.v (.bl (atG g x).un.isEmpty)) S := by
      have := opEq_pD (S := S) (p := (atG g x).un) (q := [])
      rw [show decide ((atG g x).un = []) = (atG g x).un.isEmpty by cases (atG g x).un <;> rfl] at this
      exact this
    simp_arith [M_done, m_done, opIx_rows hw (T.sub_leaf hs), opIx_gr hx, Sty.d, e1]
    have hb : ∀ (b : Bool) (K : Out R → Prop), b = fndN g x u → K (.ok (.v (.lst ((dnN g (.leaf u) x).map dd3))) S) → wE (opMul (.v (.lst [.tup [.str "found", .int (x : Int), .int (x : Int)]])) (.v (.int (if b = true then 1 else 0))) S) (kB (fun r S' => popV S r S') K) := by
      intro b K hb k
      cases b with
      | true => rw [if_pos rfl, popMul1_eq (.refl S) (sz_of (by simp))]; rw [dnN, ← hb] at k; exact k
      | false => rw [if_neg (by simp), popMul0_eq (.refl S)]; rw [dnN, ← hb] at k; exact k
    cases q : (atG g x).un.isEmpty with
    | false =>
      simp_arith []
      refine hb false _ (by unfold fndN; rw [q]; rfl) ?_
      simp_arith []
    | true =>
      simp_arith []
      rcases G.nm _ (atG_mem hx) with ⟨v, hv, e⟩ | ⟨n, e⟩
      · rw [e]
        simp_arith [opEq_strs hv.ok ou]
        refine hb (decide (v = u)) _ (by unfold fndN; rw [q, e]; rfl) ?_
        simp_arith []
      · rw [e]
        have : opEq (.v (natD n)) (.v (.str u)) S = .ok (.v (.bl false)) S := (opEq_nic (b := false) 0 (nic_nat 0 n) (show Nic 0 (.str u) from ou) (by decide) (by simp [natD])).1
        simp_arith [this]
        refine hb false _ (by unfold fndN; rw [q, e]; rfl) ?_
        simp_arith []
  | node l r =>
    obtain ⟨a, b, ex, ha, hb, la, lb⟩ := T.sub_node hs
    simp_arith [M_done, m_done, opIx_rows hw ex, deeds_spec G hx]
    refine lc_wp (ddsN g x) (fun y => .v (dd3 y)) (fun y => canN g l y.2.1 && canN g r y.2.2) dd3 (by rw [List.map_map]; rfl) (.refl S) (sz_of (by have := dds_len G hx; omega)) ?_ ?_
    · intro y hy acc
      obtain ⟨r1, r2⟩ := dds_rng G hx hy
      obtain ⟨ra, ea, sa⟩ := hc.at_ [.lst acc] a la
      obtain ⟨rb, eb, sb⟩ := hc.at_ [.lst acc] b lb
      have sa1 := sa y.2.1 r1
      have sb1 := sb y.2.2 r2
      rw [canI_eq ha] at sa1
      rw [canI_eq hb] at sb1
      have i0 : opIx (.v (.tup [natD a, natD b])) (.v (.int 0)) (S ++ [.lst acc]) = .ok (.v (.int (a : Int))) (S ++ [.lst acc]) := opIx_tup (atI_0 _ _)
      have i1 : opIx (.v (.tup [natD a, natD b])) (.v (.int 1)) (S ++ [.lst acc]) = .ok (.v (.int (b : Int))) (S ++ [.lst acc]) := opIx_tup (atI_1 _ _ _)
      have j1 : opIx (.v (dd3 y)) (.v (.int 1)) (S ++ [.lst acc]) = .ok (.v (.int (y.2.1 : Int))) (S ++ [.lst acc]) := opIx_tup (atI_1 _ _ _)
      have j2 : opIx (.v (dd3 y)) (.v (.int 2)) (S ++ [.lst acc]) = .ok (.v (.int (y.2.2 : Int))) (S ++ [.lst acc]) := opIx_tup (atI_2 _ _ _ _)
      simp_arith [natD, i0, i1, j1, j2, ea, sa1]
      cases canN g l y.2.1 <;> simp_arith [natD, i0, i1, j1, j2, eb, sb1, Bool.true_and, Bool.false_and]
      · exact fun h => by cases h
      · exact fun _ => trivial
    · simp_arith []
      rfl
def canRow (g : Gr) (t0 : T) (i : Nat) : List Bool := (List.range g.length).map (canI g t0 i)
theorem canRow_eq {g : Gr} {t0 t : T} {i : Nat} (h : t0.subs[i]? = some t) : canRow g t0 i = crow g (fun s => !(dnN g t s).isEmpty) g.length := by
  unfold canRow
  rw [crow_eq]
  refine List.map_congr_left fun s _ => ?_
  rw [canI_eq h]; rfl
/-- the cells of the rows so far -/
def canSt (g : Gr) (t0 : T) (S : Store) (k : Nat) (more : Store) : Store := S ++ .lst ((List.range (k + more.length)).map fun j => .ref (S.length + 1 + j)) :: (((List.range k).map fun j => .lst (((canRow g t0 j).map D.bl).map .v)) ++ more)
theorem canSt_0 (g : Gr) (t0 : T) (S : Store) (k : Nat) (more : Store) : (canSt g t0 S k more)[S.length]? = some (.lst ((List.range (k + more.length)).map fun j => .ref (S.length + 1 + j))) := get_len S _ _
theorem canSt_row (g : Gr) (t0 : T) (S : Store) (k : Nat) (more : Store) (j : Nat) (h : j < k) : (canSt g t0 S k more)[S.length + 1 + j]? = some (.lst (((canRow g t0 j).map D.bl).map .v)) := by
  unfold canSt
  rw [List.getElem?_append_right (by omega), show S.length + 1 + j - S.length = j + 1 by omega, List.getElem?_cons_succ, List.getElem?_append_left (by simpa using h), List.getElem?_map, List.getElem?_range h]; rfl
theorem canSt_last (g : Gr) (t0 : T) (S : Store) (k : Nat) (c : MO) : (canSt g t0 S k [c])[S.length + 1 + k]? = some c := by
  unfold canSt
  rw [List.getElem?_append_right (by omega), show S.length + 1 + k - S.length = k + 1 by omega, List.getElem?_cons_succ, List.getElem?_append_right (by simp)]
  simp
theorem canSt_set (g : Gr) (t0 : T) (S : Store) (k : Nat) (c x : MO) : (canSt g t0 S k [c]).set (S.length + 1 + k) x = canSt g t0 S k [x] := by
  unfold canSt
  rw [List.set_append_right _ _ (by omega), show S.length + 1 + k - S.length = k + 1 by omega, List.set_cons_succ, List.set_append_right _ _ (by simp)]
  simp
theorem canSt_up (g : Gr) (t0 : T) (S : Store) (k : Nat) : canSt g t0 S k [.lst (((canRow g t0 k).map D.bl).map .v)] = canSt g t0 S (k + 1) [] := by
  unfold canSt
  rw [List.range_succ (n := k), List.map_append]
  simp
theorem atI_range (n : Nat) (f : Nat → R) (j : Nat) (h : j < n) : atI ((List.range n).map f) (j : Int) = some (f j) := by
  rw [atI_map, atI_lt (by omega), Int.toNat_natCast, List.getElem?_range h]; rfl
theorem atI_bls {L : List Bool} {s : Nat} (h : s < L.length) : atI ((L.map D.bl).map R.v) (s : Int) = some (.v (.bl (L.getD s false))) := by
  rw [List.map_map, atI_map, atI_lt (by omega), Int.toNat_natCast, List.getElem?_eq_getElem h, List.getD_eq_getElem?_getD, List.getElem?_eq_getElem h]; rfl
theorem canRow_len (g : Gr) (t0 : T) (j : Nat) : (canRow g t0 j).length = g.length := by simp [canRow]
theorem canRow_get (g : Gr) (t0 : T) (j : Nat) {s : Nat} (h : s < g.length) : (canRow g t0 j).getD s false = canI g t0 j s := by
  rw [List.getD_eq_getElem?_getD, canRow, List.getElem?_map, List.getElem?_range h]; rfl
theorem canV_st (g : Gr) (t0 : T) (S : Store) (k : Nat) (more : Store) : CanV (canSt g t0 S k more) (.ref S.length) (canI g t0) k g.length := ⟨fun cs a ha => ⟨.ref (S.length + 1 + a), opIx_ref (get_app' (canSt_0 ..) cs) (atI_range _ _ a (by omega)), fun s hs => opIx_ref (get_app' (canSt_row g t0 S k more a ha) cs) (by rw [atI_bls (by rw [canRow_len]; exact hs), canRow_get g t0 a hs])⟩⟩
def canD (g : Gr) (t0 : T) : D := .lst ((List.range t0.cnt).map fun j => .lst ((canRow g t0 j).map D.bl))
theorem canV_v (g : Gr) (t0 : T) (S : Store) : CanV S (.v (canD g t0)) (canI g t0) t0.cnt g.length := ⟨fun cs a ha => ⟨.v (.lst ((canRow g t0 a).map D.bl)), opIx_lst (by rw [atI_map, atI_lt (by omega), Int.toNat_natCast, List.getElem?_range ha]; rfl), fun s hs => opIx_lst (by rw [atI_map, atI_lt (by omega), Int.toNat_natCast, List.getElem?_eq_getElem (by rw [canRow_len]; exact hs)]; have := canRow_get g t0 a hs; rw [List.getD_eq_getElem?_getD, List.getElem?_eq_getElem (by rw [canRow_len]; exact hs)] at this; rw [← this]; rfl)⟩⟩
theorem nic_dd3s (L : List (Str × Nat × Nat)) (hL : ∀ x ∈ L, strOkB x.1 = true) : Nic 2 (.lst (L.map dd3)) := by
  show ∀ d ∈ L.map dd3, Nic 1 d
  intro d hd
  obtain ⟨x, hx, rfl⟩ := List.mem_map.mp hd
  show ∀ d ∈ [D.str x.1, natD x.2.1, natD x.2.2], Nic 0 d
  intro d hd
  simp only [List.mem_cons, List.not_mem_nil, or_false] at hd
  rcases hd with rfl | rfl | rfl
  · exact hL x hx
  · exact nic_nat _ _
  · exact nic_nat _ _
theorem opNe_nil3 {S : Store} (L : List (Str × Nat × Nat)) (hL : ∀ x ∈ L, strOkB x.1 = true) : opEq (.v (.lst (L.map dd3))) (.v (.lst [])) S = .ok (.v (.bl L.isEmpty)) S ∧ opNe (.v (.lst (L.map dd3))) (.v (.lst [])) S = .ok (.v (.bl (!L.isEmpty))) S :=
  opEq_nic (b := L.isEmpty) 2 (nic_dd3s L hL) (nic_dd3s [] (by simp)) (by decide) (by cases L <;> simp)
theorem dds_str {g : Gr} {s : Nat} {x : Str × Nat × Nat} (h : x ∈ ddsN g s) : strOkB x.1 = true := by
  have o1 : strOkB "doubled" = true := by decide +kernel
  have o2 : strOkB "split" = true := by decide +kernel
  have o3 : strOkB "over" = true := by decide +kernel
  rcases List.mem_cons.mp h with rfl | h
  · exact o1
  rcases List.mem_append.mp h with h | h
  · split at h
    · simp only [List.mem_cons, List.not_mem_nil, or_false] at h
      rcases h with rfl | rfl <;> exact o2
    · simp at h
  · obtain ⟨o, ho, h⟩ := List.mem_flatMap.mp h
    simp only [List.mem_cons, List.not_mem_nil, or_false] at h
    rcases h with rfl | rfl <;> exact o3
theorem dn_str {g : Gr} {t : T} {s : Nat} : ∀ x ∈ dnN g t s, strOkB x.1 = true := by
  intro x hx
  cases t with
  | leaf w =>
    unfold dnN at hx
    split at hx
    · simp at hx; rw [hx]; show strOkB "found" = true; decide +kernel
    · simp at hx
  | node l r => exact dds_str (List.mem_filter.mp hx).1
theorem can_spec {g : Gr} {t0 : T} {w : Nat} {S : Store} (G : Grd g) (ho : t0.Ok) (hz : t0.cnt ≤ 10000) (hw : S[w]? = some (.lst (t0.nodes.map .v))) : M_can [.v (grD g), .ref w] S = .ok (.v (canD g t0)) S := by
  have glen := G.len
  refine eq_wE ?_
  have e0 : S ++ [MO.lst []] = canSt g t0 S 0 [] := rfl
  have gl : ((g.map Sty.d).length : Int) = (g.length : Int) := by rw [List.length_map]
  have lw : ∀ cs : Store, biLen [.ref w] (S ++ cs) = .ok (.v (.int (t0.cnt : Int))) (S ++ cs) := fun cs => by rw [biLen_ref (get_app' hw cs), List.length_map, t0.nodes_len]
  simp_arith [M_can, m_can, lw, rg1_nat t0.cnt (by omega)]
  refine for_wp [3, 4, 5, 6] (fun k vs U => k ≤ t0.cnt ∧ ∃ a b c d, vs = [a, b, c, d] ∧ U = canSt g t0 S k []) rfl ⟨by omega, _, _, _, _, rfl, e0⟩ ?_ ?_
  · rintro k d vs U hd ⟨hk, a, b, c, d', rfl, rfl⟩
    obtain ⟨hk, rfl⟩ := rangeD_get hd
    simp only [Int.zero_add]
    obtain ⟨s, hs⟩ : ∃ s, t0.subs[k]? = some s := ⟨_, List.getElem?_eq_getElem (by rw [t0.subs_len]; exact hk)⟩
    have h0 := canSt_0 g t0 S k []
    have hmul : opMul (.v (.lst [.bl false])) (.v (.int (g.length : Int))) (canSt g t0 S k []) = .ok (.ref (S.length + 1 + k)) (canSt g t0 S k [] ++ [.lst (((List.replicate g.length false).map D.bl).map .v)]) := by
      have hl : (canSt g t0 S k []).length = S.length + 1 + k := by simp [canSt]; omega
      have hc : (g.length : Int) < 2 ^ 20 ∧ -(2 ^ 63) ≤ (g.length : Int) ∧ [D.bl false].length * (g.length : Int).toNat ≤ sizeLine := ⟨by omega, by omega, sz_of (by simp; omega)⟩
      simp only [opMul]
      rw [if_pos hc, hl]
      have : repR (g.length : Int) ([D.bl false].map R.v) = ((List.replicate g.length false).map D.bl).map .v := by
        unfold repR
        rw [Int.toNat_natCast, List.map_replicate, List.map_replicate]
        generalize g.length = n
        induction n with
        | zero => rfl
        | succ n ih => rw [List.replicate_succ, List.flatten_cons, ih, List.replicate_succ]; rfl
      rw [this]
    have happ : mtAppend (.ref S.length) [.ref (S.length + 1 + k)] (canSt g t0 S k [] ++ [.lst (((List.replicate g.length false).map D.bl).map .v)]) = .ok (.v .non) (canSt g t0 S k [.lst (((List.replicate g.length false).map D.bl).map .v)]) := by
      rw [mtAppend_ref (get_app' h0 _) (sz_lt (by simp; omega))]
      refine congrArg (Out.ok (R.v D.non)) ?_
      unfold canSt
      rw [List.append_assoc, List.set_append_right _ _ (Nat.le_refl _), Nat.sub_self]
      simp only [List.cons_append, List.set_cons_zero, List.append_nil, List.map_cons, List.map_nil, List.length_nil, List.length_cons, Nat.add_zero, Nat.zero_add, List.range_succ, List.map_append]
    simp_arith [b2_can, grD, gl]
    simp_arith [hmul]
    simp_arith [tyOk_lst h0, happ]
    simp_arith [gl, rg1_nat g.length (by omega)]
    have hcr := canRow_eq (g := g) hs
    refine for_wp [4, 5, 6] (fun x vs U => x ≤ g.length ∧ ∃ a b c, vs = [a, b, c] ∧ U = canSt g t0 S k [.lst (((crow g (fun s' => !(dnN g s s').isEmpty) x ++ List.replicate (g.length - x) false).map D.bl).map .v)]) rfl ⟨by omega, _, _, _, rfl, rfl⟩ ?_ ?_
    · rintro x d vs U hd ⟨hx, a, b, c, rfl, rfl⟩
      obtain ⟨hx, rfl⟩ := rangeD_get hd
      simp only [Int.zero_add]
      obtain ⟨hu1, hu2, hb1, hb2⟩ := G.un x hx
      generalize hrow : crow g (fun s' => !(dnN g s s').isEmpty) x ++ List.replicate (g.length - x) false = row
      have hrl : row.length = g.length := by rw [← hrow, List.length_append, crow_len, List.length_replicate]; omega
      have g0 := canSt_0 g t0 S k [.lst ((row.map D.bl).map .v)]
      have g1 := canSt_last g t0 S k (.lst ((row.map D.bl).map .v))
      have hcv := canV_st g t0 S k [.lst ((row.map D.bl).map .v)]
      have hww : (canSt g t0 S k [.lst ((row.map D.bl).map .v)])[w]? = some (.lst (t0.nodes.map .v)) := get_app' hw _
      have hset := fun c => canSt_set g t0 S k (.lst ((row.map D.bl).map .v)) c
      generalize hU : canSt g t0 S k [.lst ((row.map D.bl).map .v)] = U at g0 g1 hcv hww hset ⊢
      have ik : ∀ cs, opIx (.ref S.length) (.v (.int (k : Int))) (U ++ cs) = .ok (.ref (S.length + 1 + k)) (U ++ cs) := fun cs => opIx_ref (get_app' g0 cs) (atI_range _ _ k (by simp))
      have ik0 := ik []
      rw [List.append_nil] at ik0
      have eg := fun S => opIx_gr (S := S) hx
      simp only [grD] at eg
      simp_arith [b1_can, eg, Sty.d]
      refine lcT_wp (atG g x).un (fun u => .v (.int (u : Int))) (fun u => .bl (can1 g (fun s' => !(dnN g s s').isEmpty) u)) (by rw [List.map_map]; rfl) (.refl U) (sz_of (by omega)) ?_ ?_
      · intro u hu acc
        have hul := hu1 u hu
        have iu : opIx (.ref (S.length + 1 + k)) (.v (.int (u : Int))) (U ++ [.lst acc]) = .ok (.v (.bl (row.getD u false))) (U ++ [.lst acc]) := opIx_ref (get_app' g1 _) (atI_bls (by omega))
        have er : row.getD u false = can1 g (fun s' => !(dnN g s s').isEmpty) u := by
          rw [← hrow, List.getD_eq_getElem?_getD, List.getElem?_append_left (by rw [crow_len]; omega), ← List.getD_eq_getElem?_getD, crow_get _ _ _ _ (by omega)]
        simp_arith [ik, iu, er]
      · have e : ((atG g x).un.map fun u => D.bl (can1 g (fun s' => !(dnN g s s').isEmpty) u)) = ((atG g x).un.map (can1 g fun s' => !(dnN g s s').isEmpty)).map D.bl := by rw [List.map_map]; rfl
        have hdone := done_spec G ho hww hs hx hcv
        simp only [grD] at hdone
        have hne := (opNe_nil3 (S := U) (dnN g s x) dn_str).2
        have hset2 : ∀ b : Bool, setIx (.ref (S.length + 1 + k)) (.v (.int (x : Int))) (.v (.bl b)) U = some (canSt g t0 S k [.lst (((row.set x b).map D.bl).map .v)]) := fun b => by
          rw [setIx_ref g1 (by omega) (by simp; omega), hset]
          rw [Int.toNat_natCast, List.map_set, List.map_set]
        have fin : row.set x (can1 g (fun s' => !(dnN g s s').isEmpty) x) = crow g (fun s' => !(dnN g s s').isEmpty) (x + 1) ++ List.replicate (g.length - (x + 1)) false := by
          rw [← hrow, List.set_append_right _ _ (by rw [crow_len]; omega), crow_len, Nat.sub_self, show g.length - x = (g.length - (x + 1)) + 1 by omega, List.replicate_succ, List.set_cons_zero]
          have : crow g (fun s' => !(dnN g s s').isEmpty) (x + 1) = crow g (fun s' => !(dnN g s s').isEmpty) x ++ [can1 g (fun s' => !(dnN g s s').isEmpty) x] := by rw [crow_eq, crow_eq, List.range_succ, List.map_append]; rfl
          rw [this]; simp
        have hval := can1_eq G (fun s' => !(dnN g s s').isEmpty) hx
        simp_arith [e, biAny_lst]
        have e3 : ((atG g x).un.map (can1 g fun s' => !(dnN g s s').isEmpty)).any id = (atG g x).un.any (can1 g fun s' => !(dnN g s s').isEmpty) := by rw [List.any_map]; rfl
        rw [e3]
        cases q : (atG g x).un.any (can1 g fun s' => !(dnN g s s').isEmpty) with
        | true =>
          rw [q, Bool.true_or] at hval
          simp_arith [ik0, hset2]
          exact ⟨by omega, _, _, _, rfl, by rw [← fin, hval]⟩
        | false =>
          rw [q, Bool.false_or] at hval
          simp_arith [hdone, hne, ik0, hset2]
          exact ⟨by omega, _, _, _, rfl, by rw [← fin, hval]⟩
    · rintro vs U ⟨_, a, b, c, rfl, rfl⟩
      simp_arith [rangeD_len, Nat.sub_self, List.append_nil]
      refine ⟨by omega, _, _, _, _, rfl, ?_⟩
      rw [← hcr, canSt_up]
  · rintro vs U ⟨_, a, b, c, d, rfl, rfl⟩
    rw [rangeD_len]
    simp_arith []
    refine wE_eq (popV_rows ((List.range t0.cnt).map fun j => (canRow g t0 j).map D.bl) (S := S) ?_) ?_
    · unfold canSt; simp [List.map_map]
    · rw [canD, List.map_map]; rfl
/-- a path from a stay on, at whose end a deed leads on -/
structure Pth (g : Gr) (s : T) (x : Nat) (p : List Nat) : Prop where
  path : pathN g p = true
  hd : p.headD 0 = x
  can : canN g s (p.getLastD 0) = true
  len : p.length ≤ 2 * g.length
theorem Pth.ne {g : Gr} {s : T} {x : Nat} {p : List Nat} (h : Pth g s x p) : p ≠ [] := (pathN_inv h.path).1
theorem Pth.last {g : Gr} {s : T} {x : Nat} {p : List Nat} (h : Pth g s x p) : p.getLastD 0 < g.length := pathN_last h.path
theorem Pth.one {g : Gr} {s : T} {x : Nat} (hx : x < g.length) (hc : canN g s x = true) : Pth g s x [x] := ⟨pathN_iff.mpr ⟨by simp, by simpa using hx, fun q hq => by simp at hq⟩, rfl, hc, by simp; omega⟩
def onN (g : Gr) (s : T) (y : Nat) : List Nat := (atG g y).un.filter (canN g s)
theorem steps_len {g : Gr} (G : Grd g) : ∀ {p : List Nat}, (∀ x ∈ p, x < g.length) → stepsN g p → p.length + p.getLastD 0 ≤ p.headD 0 + 1
  | [], _, _ => by simp
  | [a], _, _ => by simp; omega
  | a :: b :: p, h1, h2 => by
    have ih := steps_len G (p := b :: p) (fun x hx => h1 x (by simp [hx])) (fun q hq => h2 q (by simp only [List.tail_cons, List.zip_cons_cons, List.mem_cons]; exact .inr hq))
    have hb : b ∈ (atG g a).un := h2 (a, b) (by simp)
    have := (G.un a (h1 a (by simp))).1 b hb
    have e : (a :: b :: p).getLastD 0 = (b :: p).getLastD 0 := by simp
    rw [e]
    simp only [List.length_cons, List.headD_cons] at *
    omega
theorem Pth.snoc {g : Gr} (G : Grd g) {s : T} {x y : Nat} {p : List Nat} (h : Pth g s x p) (hy : y ∈ onN g s (p.getLastD 0)) : Pth g s x (p ++ [y]) := by
  obtain ⟨h1, h2⟩ := List.mem_filter.mp hy
  have hl := (G.un _ h.last).1 y h1
  have hp := path_snoc h.path h1 (by have := h.last; omega)
  have hh : (p ++ [y]).headD 0 = x := by
    have := h.hd
    cases p with
    | nil => exact absurd rfl h.ne
    | cons a p => exact this
  refine ⟨hp, hh, by rw [last_snoc]; exact h2, ?_⟩
  obtain ⟨a1, a2, a3⟩ := pathN_inv hp
  have := steps_len G a2 a3
  rw [hh] at this
  have hx : x < g.length := by rw [← hh]; refine a2 _ ?_; cases hq : p ++ [y] with
    | nil => exact absurd hq a1
    | cons a q => simp
  omega
theorem onN_ne {g : Gr} (G : Grd g) {s : T} {y : Nat} (hy : y < g.length) (hc : canN g s y = true) (hd : dnN g s y = []) : onN g s y ≠ [] := by
  rw [canN_eq G s hy, hd] at hc
  simp only [List.isEmpty_nil, Bool.not_true, Bool.or_false, List.any_eq_true] at hc
  obtain ⟨u, hu, e⟩ := hc
  exact List.ne_nil_of_mem (List.mem_filter.mpr ⟨hu, e⟩)
theorem on_wp {g : Gr} {t0 s : T} {i y : Nat} {U : Store} {K : Out R → Prop} {cd : R} {m : Env} (G : Grd g) (hy : y < g.length) (hs : t0.subs[i]? = some s) (hi : i < t0.cnt) (hcv : CanV U cd (canI g t0) t0.cnt g.length)
    (e1 : m[1]? = some (some (.v (.tup (g.map Sty.d))))) (e3 : m[3]? = some (some cd)) (e4 : m[4]? = some (some (.v (.int (i : Int))))) (hm : m.length = 11)
    (k : K (.ok (.v (.lst ((onN g s y).map natD))) U)) :
    wE (mLcGo [] (tgN 10) (mtTru (mBin opIx (mBin opIx (mVar 3) (mVar 4)) (mVar 10))) (mVar 10) U.length m (((atG g y).un.map natD).map .v) (U ++ [.lst []])) (kB (fun r S' => popV U r S') K) := by
  obtain ⟨hu1, hu2, _, _⟩ := G.un y hy
  have s10 : ∀ (r : R), (m.set 10 (some r))[1]? = some (some (.v (.tup (g.map Sty.d)))) ∧ (m.set 10 (some r))[3]? = some (some cd) ∧ (m.set 10 (some r))[4]? = some (some (.v (.int (i : Int)))) ∧ (m.set 10 (some r))[10]? = some (some r) := fun r =>
    ⟨by rw [List.getElem?_set_ne (by decide)]; exact e1, by rw [List.getElem?_set_ne (by decide)]; exact e3, by rw [List.getElem?_set_ne (by decide)]; exact e4, by rw [List.getElem?_set_self (by omega)]⟩
  refine lc_wp (atG g y).un (fun u => .v (.int (u : Int))) (canN g s) natD (by rw [List.map_map]; rfl) (.refl U) (sz_of (by omega)) ?_ k
  intro u hu acc
  have hul := hu1 u hu
  obtain ⟨ra, ea, sa⟩ := hcv.at_ [.lst acc] i hi
  have sa1 := sa u (by omega)
  rw [canI_eq hs] at sa1
  obtain ⟨q1, q3, q4, q10⟩ := s10 (.v (.int (u : Int)))
  simp_arith [q1, q3, q4, q10, ea, sa1]
  exact fun _ => rfl
theorem map_ne {L : List Nat} (h : L.isEmpty = false) : L.map natD ≠ [] := by cases L with
  | nil => cases h
  | cons a l => simp
theorem opNe_nats {S : Store} (L : List Nat) : opNe (.v (.lst (L.map natD))) (.v (.lst [])) S = .ok (.v (.bl (!L.isEmpty))) S :=
  (opEq_nic (b := L.isEmpty) 1 (show Nic 1 (.lst (L.map natD)) from fun d hd => by obtain ⟨x, _, rfl⟩ := List.mem_map.mp hd; exact nic_nat _ _) (show Nic 1 (.lst []) from fun d hd => by simp at hd) (by decide) (by cases L <;> simp)).2
theorem path_spec {b : Nat} {g : Gr} {t0 s : T} {i x w n : Nat} {S : Store} {h : Pot b} {cd : R} (G : Grd g) (ho : t0.Ok) (hi : i < t0.cnt) (hs : t0.subs[i]? = some s) (hx : x < g.length) (hc : canN g s x = true) (hb : b + 4000 ≤ 2 ^ 40)
    (e : S[n]? = some h.c) (hnw : n ≠ w) (hw : S[w]? = some (.lst (t0.nodes.map .v))) (hcd : cd = .v (canD g t0)) :
    ∃ (p : List Nat) (h' : Pot (b + 4000)), M_path [.ref n, .v (grD g), .ref w, cd, .v (.int (i : Int)), .v (.int (x : Int))] S = .ok (.v (pD p)) (S.set n h'.c) ∧ Pth g s x p ∧ dnN g s (p.getLastD 0) ≠ [] := by
  have glen := G.len
  have hn := lt_of_get e
  have gl : ((g.map Sty.d).length : Int) = (g.length : Int) := by rw [List.length_map]
  suffices hh : wE (M_path [.ref n, .v (grD g), .ref w, cd, .v (.int (i : Int)), .v (.int (x : Int))] S) (fun o => ∃ (p : List Nat) (h' : Pot (b + 4000)), o = .ok (.v (pD p)) (S.set n h'.c) ∧ Pth g s x p ∧ dnN g s (p.getLastD 0) ≠ []) by
    exact hh
  -- the cell of a path
  have key : ∀ (U : Store) (p : List Nat), Pth g s x p → U[n]? = some h.c → True := fun _ _ _ _ => trivial
  simp only [grD]
  simp_arith [M_path, m_path, gl, rg1_nat g.length (by omega)]
  refine for_wp [7, 8, 9, 10] (fun j vs U => j ≤ g.length ∧ ∃ (p : List Nat) (h' : Pot (b + 2 * j)) (a c d f : Option R), vs = [a, c, d, f] ∧ Pth g s x p ∧ U = S.set n h'.c ++ [.lst ((p.map natD).map .v)]) rfl ⟨by omega, [x], h, _, _, _, _, rfl, .one hx hc, by rw [show S.set n h.c = S from set_same e]; rfl⟩ ?_ ?_
  · rintro j d vs U hd ⟨_, p, h1, a, c, d', f, rfl, P, rfl⟩
    obtain ⟨hj, rfl⟩ := rangeD_get hd
    have hlast := P.last
    obtain ⟨hu1, hu2, hb1, hb2⟩ := G.un _ hlast
    have g1 : (S.set n h1.c ++ [MO.lst ((p.map natD).map .v)])[S.length]? = some (.lst ((p.map natD).map .v)) := get_L0 (by simp) _ _
    have gn : (S.set n h1.c ++ [MO.lst ((p.map natD).map .v)])[n]? = some h1.c := get_app' (get_setlt hn _) _
    have gw : (S.set n h1.c ++ [MO.lst ((p.map natD).map .v)])[w]? = some (.lst (t0.nodes.map .v)) := get_app' (get_ne' hnw hw _) _
    have st : ∀ c', (S.set n h1.c ++ [MO.lst ((p.map natD).map .v)]).set n c' = S.set n c' ++ [.lst ((p.map natD).map .v)] := fun c' => by rw [set_applt (by simpa using hn), List.set_set]
    have lp : opIx (.ref S.length) (.v (.int (-1))) (S.set n h1.c ++ [MO.lst ((p.map natD).map .v)]) = .ok (.v (.int (p.getLastD 0 : Int))) (S.set n h1.c ++ [MO.lst ((p.map natD).map .v)]) := opIx_ref g1 (by rw [atI_map, atI_map, atI_last p 0 P.ne]; rfl)
    generalize hU : S.set n h1.c ++ [MO.lst ((p.map natD).map .v)] = U at g1 gn gw st lp
    have eg := fun S => opIx_gr (S := S) hlast
    simp only [grD] at eg
    simp_arith [b1_path, lp, eg, Sty.d]
    refine on_wp (y := p.getLastD 0) G hlast hs hi (by rw [hcd]; exact canV_v g t0 U) rfl rfl rfl rfl ?_
    have hdone := done_spec G ho gw hs hlast (by rw [hcd]; exact ⟨fun cs a ha => (canV_v g t0 U).at_ cs a (by omega)⟩ : CanV U cd (canI g t0) i g.length)
    simp only [grD] at hdone
    have heq := (opNe_nil3 (S := U) (dnN g s (p.getLastD 0)) dn_str).1
    have ne1 : ∀ U : Store, opNe (.v (.lst ((onN g s (p.getLastD 0)).map natD))) (.v (.lst [])) U = .ok (.v (.bl (!(onN g s (p.getLastD 0)).isEmpty))) U := fun U => opNe_nats _
    have ol : (onN g s (p.getLastD 0)).length ≤ 2 := Nat.le_trans (List.length_filter_le _ _) hu2
    have psz : p.length ≤ 3000 := by have := P.len; omega
    have app : ∀ (h2 : MO) (y : Nat), mtAppend (.ref S.length) [.v (natD y)] (S.set n h2 ++ [.lst ((p.map natD).map .v)]) = .ok (.v .non) (S.set n h2 ++ [.lst (((p ++ [y]).map natD).map .v)]) := fun h2 y => by
      rw [mtAppend_ref (get_L0 (by simp) _ _) (sz_lt (by simp; omega)), set_L0 (by simp), List.map_append, List.map_append]; rfl
    simp_arith [lp, hdone, heq]
    cases q : (dnN g s (p.getLastD 0)).isEmpty with
    | true =>
      simp_arith [ne1]
      cases q2 : (onN g s (p.getLastD 0)).isEmpty with
      | true =>
        simp_arith []
        exact ⟨by omega, p, h1.up (by omega), _, _, _, _, rfl, P, hU.symm⟩
      | false =>
        simp_arith [tyOk_lst g1]
        refine pick_wp gn (by omega) (map_ne q2) (by rw [List.length_map]; omega) fun y h2 hy => ?_
        obtain ⟨y, hm, rfl⟩ := List.mem_map.mp hy
        simp_arith [st, app]
        exact ⟨by omega, p ++ [y], h2.up (by omega), _, _, _, _, rfl, P.snoc G hm, rfl⟩
    | false =>
      simp_arith []
      refine take_2_wp gn (by omega) (by decide) (by decide) fun r h2 r0 r1 => ?_
      simp_arith [st, ne1]
      cases q2 : (onN g s (p.getLastD 0)).isEmpty with
      | true =>
        simp_arith []
        exact ⟨by omega, p, h2.up (by omega), _, _, _, _, rfl, P, rfl⟩
      | false =>
        cases q3 : (r == 0) with
        | false =>
          simp_arith []
          exact ⟨by omega, p, h2.up (by omega), _, _, _, _, rfl, P, rfl⟩
        | true =>
          simp_arith [tyOk_lst (get_L0 (show (S.set n h2.c).length = S.length by simp) (.lst ((p.map natD).map R.v)) [])]
          refine pick_wp (get_app' (get_setlt hn h2.c) [.lst ((p.map natD).map R.v)]) (by omega) (map_ne q2) (by rw [List.length_map]; omega) fun y h3 hy => ?_
          obtain ⟨y, hm, rfl⟩ := List.mem_map.mp hy
          simp_arith [set_applt (show n < (S.set n h2.c).length by simpa using hn), List.set_set, app]
          exact ⟨by omega, p ++ [y], h3.up (by omega), _, _, _, _, rfl, P.snoc G hm, rfl⟩
  · rintro vs U ⟨_, p, h1, a, c, d', f, rfl, P, rfl⟩
    have rl : (rangeD 0 g.length).length = g.length := rangeD_len _ _
    simp_arith []
    refine while_wp [] (p.getLastD 0) (fun j vs U => vs = [] ∧ ∃ (p : List Nat) (b' : Nat) (h' : Pot b'), b' + j ≤ b + 3900 ∧ p.getLastD 0 = j ∧ Pth g s x p ∧ U = S.set n h'.c ++ [.lst ((p.map natD).map .v)]) (by have := P.last; omega) rfl ⟨rfl, p, _, h1, by have := P.last; omega, rfl, P, rfl⟩ ?_
    rintro j vs U ⟨rfl, p, b', h2, hb', rfl, P, rfl⟩
    have hlast := P.last
    obtain ⟨hu1, hu2, hb1, hb2⟩ := G.un _ hlast
    have g1 : (S.set n h2.c ++ [MO.lst ((p.map natD).map .v)])[S.length]? = some (.lst ((p.map natD).map .v)) := get_L0 (by simp) _ _
    have gn : (S.set n h2.c ++ [MO.lst ((p.map natD).map .v)])[n]? = some h2.c := get_app' (get_setlt hn _) _
    have gw : (S.set n h2.c ++ [MO.lst ((p.map natD).map .v)])[w]? = some (.lst (t0.nodes.map .v)) := get_app' (get_ne' hnw hw _) _
    have st : ∀ c', (S.set n h2.c ++ [MO.lst ((p.map natD).map .v)]).set n c' = S.set n c' ++ [.lst ((p.map natD).map .v)] := fun c' => by rw [set_applt (by simpa using hn), List.set_set]
    have lp : opIx (.ref S.length) (.v (.int (-1))) (S.set n h2.c ++ [MO.lst ((p.map natD).map .v)]) = .ok (.v (.int (p.getLastD 0 : Int))) (S.set n h2.c ++ [MO.lst ((p.map natD).map .v)]) := opIx_ref g1 (by rw [atI_map, atI_map, atI_last p 0 P.ne]; rfl)
    have tu : biTuple [.ref S.length] (S.set n h2.c ++ [MO.lst ((p.map natD).map .v)]) = .ok (.v (pD p)) (S.set n h2.c ++ [MO.lst ((p.map natD).map .v)]) := biTuple_ref g1
    have sl : cut S (S.set n h2.c ++ [MO.lst ((p.map natD).map .v)]) = S.set n h2.c := cut_appU ((Upd.refl S).set (h2.lo _)) _
    have app : ∀ (h2 : MO) (y : Nat), mtAppend (.ref S.length) [.v (natD y)] (S.set n h2 ++ [.lst ((p.map natD).map .v)]) = .ok (.v .non) (S.set n h2 ++ [.lst (((p ++ [y]).map natD).map .v)]) := fun h2 y => by
      rw [mtAppend_ref (get_L0 (by simp) _ _) (sz_lt (by have := P.len; simp; omega)), set_L0 (by simp), List.map_append, List.map_append]; rfl
    have ol : (onN g s (p.getLastD 0)).length ≤ 2 := Nat.le_trans (List.length_filter_le _ _) hu2
    generalize hU : S.set n h2.c ++ [MO.lst ((p.map natD).map .v)] = U at g1 gn gw st lp tu sl
    have eg := fun S => opIx_gr (S := S) hlast
    simp only [grD] at eg
    have hdone := done_spec G ho gw hs hlast (by rw [hcd]; exact ⟨fun cs a ha => (canV_v g t0 U).at_ cs a (by omega)⟩ : CanV U cd (canI g t0) i g.length)
    simp only [grD] at hdone
    have heq := (opNe_nil3 (S := U) (dnN g s (p.getLastD 0)) dn_str).1
    simp_arith [lp, hdone, heq]
    refine ⟨_, _, rfl, ?_⟩
    cases q : (dnN g s (p.getLastD 0)).isEmpty with
    | false =>
      simp_arith [tu, sl]
      exact ⟨p, h2.up (by omega), rfl, P, by simpa using q⟩
    | true =>
      simp_arith [tyOk_lst g1, b2_path, lp, eg, Sty.d]
      refine on_wp (y := p.getLastD 0) G hlast hs hi (by rw [hcd]; exact canV_v g t0 U) rfl rfl rfl rfl ?_
      simp_arith []
      refine pick_wp gn (by omega) (map_ne (by cases hq : onN g s (p.getLastD 0) with | nil => exact absurd hq (onN_ne G hlast P.can (List.isEmpty_iff.mp q)) | cons a l => rfl)) (by rw [List.length_map]; omega) fun y h3 hy => ?_
      obtain ⟨y, hm, rfl⟩ := List.mem_map.mp hy
      simp_arith [st, app]
      have hlt := hu1 y (List.mem_filter.mp hm).1
      exact ⟨y, hlt, p ++ [y], b' + 1, h3, by omega, last_snoc _ _, P.snoc G hm, rfl⟩
end Q
namespace M
open PySem PySem.Spec L2
open PyProof.Rows hiding St
def nmOf (t : T) (h : Nat) : D := if isStr (t.nodes.getD h .non) = true then t.nodes.getD h .non else natD h
def grO (t : T) : Gr := (List.range t.cnt).map fun h => ⟨nmOf t h, 0, if isStr (t.nodes.getD h .non) = true then [] else [chA t h, chB t h], t.aside h⟩
def grW (t : T) (ds : List Int) : Gr := (standing t ds).map fun p => ⟨nmOf t p.1, p.2, undr t ds p.1 p.2, besd t ds p.1 p.2⟩
theorem node_getD {t : T} {h : Nat} (hh : h < t.cnt) : t.nodes[h]? = some (t.nodes.getD h .non) := by
  rw [List.getD_eq_getElem?_getD, List.getElem?_eq_getElem (by rw [t.nodes_len]; exact hh)]; rfl
theorem nd_inner {t : T} {h : Nat} (hh : h < t.cnt) (hs : isStr (t.nodes.getD h .non) = false) : h ∈ t.innerIx := by
  unfold T.innerIx
  rw [List.mem_filter, List.mem_range, hs]; exact ⟨hh, rfl⟩
theorem grO_d (t : T) : grD (grO t) = .tup t.ground := by
  unfold grD grO T.ground
  rw [zipIdx_range, List.map_map, List.map_map]
  congr 1
  refine List.map_congr_left fun h hh => ?_
  have hh : h < t.cnt := by simpa using hh
  show D.tup [nmOf t h, natD 0, .tup ((if isStr (t.nodes.getD h .non) = true then [] else [chA t h, chB t h]).map natD), .tup ((t.aside h).map natD)] = stayD h (t.nodes.getD h .non) (t.aside h)
  unfold stayD nmOf
  cases hs : isStr (t.nodes.getD h .non) with
  | true => rfl
  | false =>
    have e := (T.kids (nd_inner hh hs)).1
    rw [node_getD hh] at e
    have e := Option.some.inj e
    rw [if_neg (by simp), if_neg (by simp), if_neg (by simp), e]; rfl
theorem nmOf_leaf {t : T} {h : Nat} {w : Str} (e : t.nodes.getD h .non = .str w) : nmOf t h = .str w := by unfold nmOf; rw [e]; rfl
theorem grW_d (t : T) (ds : List Int) : grD (grW t ds) = .tup (t.dated ds) := by
  unfold grD grW T.dated
  rw [List.map_map]; rfl
theorem nmOf_nm {t : T} (ho : t.Ok) {h : Nat} (hh : h < t.cnt) : (∃ w, GoodW w ∧ nmOf t h = .str w) ∨ ∃ n : Nat, nmOf t h = natD n := by
  unfold nmOf
  rcases t.node_cases (node_getD hh) with ⟨w, e⟩ | ⟨a, b, e, _, _⟩
  · refine .inl ⟨w, ?_, by rw [e]; rfl⟩
    have hm : D.str w ∈ t.nodes.filter isStr := List.mem_filter.mpr ⟨by rw [← e]; exact List.mem_of_getElem? (node_getD hh), rfl⟩
    rw [T.nodes, Q.T_leaves_nodes] at hm
    obtain ⟨w', hw', e'⟩ := List.mem_map.mp hm
    cases e'
    exact ho w hw'
  · exact .inr ⟨h, by rw [e]; rfl⟩
theorem word_node {t : T} {w : Str} (hw : w ∈ t.ls) : ∃ h, h < t.cnt ∧ t.nodes.getD h .non = .str w := by
  have hm : D.str w ∈ t.nodes.filter isStr := by rw [T.nodes, Q.T_leaves_nodes]; exact List.mem_map_of_mem hw
  obtain ⟨h, hh, e⟩ := List.getElem_of_mem (List.mem_filter.mp hm).1
  refine ⟨h, by rw [← t.nodes_len]; exact hh, ?_⟩
  rw [List.getD_eq_getElem?_getD, List.getElem?_eq_getElem hh, e]; rfl
theorem ahead_some {t : T} {i : Nat} (h : i + 1 < t.cnt) : ∃ p, t.ahead[i]? = some (some p) := by
  have hl := t.ahdI_len 0
  rw [T.ahead, List.getElem?_append_left (by omega)]
  have hi : i < (T.ahdI 0 t).length := by omega
  obtain ⟨j, a, b, e, _⟩ := T.ahd_par t 0 i _ (List.getElem?_eq_getElem hi)
  exact ⟨0 + j, by rw [List.getElem?_eq_getElem hi, e]⟩
theorem grO_at {t : T} {h : Nat} (hh : h < t.cnt) : atG (grO t) h = ⟨nmOf t h, 0, if isStr (t.nodes.getD h .non) = true then [] else [chA t h, chB t h], t.aside h⟩ := by
  unfold atG grO
  rw [List.getD_eq_getElem?_getD, List.getElem?_map, List.getElem?_range hh]; rfl
theorem grO_len (t : T) : (grO t).length = t.cnt := by simp [grO]
theorem grO_ok {t : T} (ho : t.Ok) (hz : t.ls.length ≤ 8) : Grd (grO t) := by
  have cl := t.cnt_ls
  have cp := t.cnt_pos
  have gl := grO_len t
  refine ⟨fun e => by rw [e] at gl; simp at gl; omega, by omega, fun s hs => ?_, fun i hi => ?_, fun i hi => ?_⟩
  · obtain ⟨h, hh, rfl⟩ := List.mem_map.mp hs
    exact nmOf_nm ho (by simpa using hh)
  · rw [gl] at hi
    rw [grO_at hi]
    refine ⟨fun u hu => ?_, ?_, fun b hb => ?_, ?_⟩
    · cases hs : isStr (t.nodes.getD i .non) with
      | true => simp only [hs] at hu; simp at hu
      | false =>
        simp only [hs] at hu
        obtain ⟨_, q1, q2, _⟩ := T.kids (nd_inner hi hs)
        simp at hu
        omega
    · simp only; split <;> simp
    · have := (List.mem_filter.mp hb).1
      rw [gl]; simpa using this
    · exact Nat.le_trans (List.length_filter_le _ _) (by rw [List.length_range]; omega)
  · rw [gl] at hi
    obtain ⟨p, hp⟩ := ahead_some hi
    obtain ⟨a, b, e, q⟩ := T.ahead_par hp
    have hpl : p < t.cnt := by rw [← t.nodes_len]; exact (List.getElem?_eq_some_iff.mp e).1
    refine ⟨p, by rw [gl]; exact hpl, ?_⟩
    have hg : t.nodes.getD p .non = .tup [natD a, natD b] := by rw [List.getD_eq_getElem?_getD, e]; rfl
    have ea : chA t p = a := by unfold chA; rw [hg]; simp [natD]
    have eb : chB t p = b := by unfold chB; rw [hg]; simp [natD]
    rw [grO_at hpl, hg, ea, eb]
    rcases q with rfl | rfl <;> simp [isStr]
theorem grO_fnd {t : T} {ws : List Str} (h : ∀ w ∈ ws, w ∈ t.ls) : Fnd (grO t) ws := by
  intro w hw
  obtain ⟨i, hi, e⟩ := word_node (h w hw)
  refine ⟨i, by rw [grO_len]; exact hi, ?_⟩
  unfold fndN
  rw [grO_at hi, nmOf_leaf e, e]
  simp [isStr]
theorem idx_pre {α : Type} [BEq α] [LawfulBEq α] {A B : List α} {x y : α} (hx : x ∈ A) (hy : y ∉ A) : (A ++ B).idxOf x < (A ++ B).idxOf y := by
  rw [List.idxOf_append, List.idxOf_append, if_pos hx, if_neg hy]
  have := List.idxOf_lt_length_of_mem hx
  omega
theorem standTo_split (t : T) (ds : List Int) (n : Nat) : ∀ k, ∃ B, standTo t ds (n + k) = standTo t ds n ++ B
  | 0 => ⟨[], by simp⟩
  | k + 1 => by
    obtain ⟨B, e⟩ := standTo_split t ds n k
    exact ⟨B ++ standL t ds (n + k) t.cnt, by rw [← Nat.add_assoc, standTo_succ, e, List.append_assoc]⟩
theorem pix_lt {t : T} {ds : List Int} {x h l : Nat} (hx : (x, l - 1) ∈ standing t ds) (hl : 1 ≤ l) (hh : (h, l) ∈ standing t ds) : pix t ds x (l - 1) < pix t ds h l := by
  obtain ⟨h1, h2, h3⟩ := standing_mem.mp hh
  obtain ⟨B, e⟩ := standTo_split t ds l ((fls t ds).length - l)
  rw [show l + ((fls t ds).length - l) = (fls t ds).length by omega] at e
  unfold pix standing
  rw [e]
  refine idx_pre ?_ ?_
  · obtain ⟨q1, q2, q3⟩ := standing_mem.mp hx
    exact standTo_mem.mpr ⟨by simp only; omega, q2, q3⟩
  · intro hm
    have := (standTo_mem.mp hm).1
    simp at this
theorem pix_get {t : T} {ds : List Int} {p : Nat × Nat} (h : p ∈ standing t ds) : (standing t ds)[pix t ds p.1 p.2]? = some p := by
  have hl := List.idxOf_lt_length_of_mem h
  show (standing t ds)[(standing t ds).idxOf p]? = some p
  rw [List.getElem?_eq_getElem hl, List.getElem_idxOf]
theorem standing_nd (t : T) (ds : List Int) : (standing t ds).Nodup := by
  unfold standing
  generalize (fls t ds).length = n
  induction n with
  | zero => simp [standTo]
  | succ n ih =>
    rw [standTo_succ, List.nodup_append]
    refine ⟨ih, ?_, fun a ha b hb e => ?_⟩
    · unfold standL
      rw [List.nodup_iff_pairwise_ne, List.pairwise_map]
      exact ((List.nodup_range).sublist List.filter_sublist).imp fun h e => h (by simp at e; exact e)
    · subst e
      have h1 := (standTo_mem.mp ha).1
      have h2 := (standL_mem.mp hb).1
      omega
theorem pix_of {t : T} {ds : List Int} {p : Nat × Nat} {i : Nat} (h : (standing t ds)[i]? = some p) : pix t ds p.1 p.2 = i := by
  have hi := (List.getElem?_eq_some_iff.mp h).1
  have e := (List.getElem?_eq_some_iff.mp h).2
  show (standing t ds).idxOf p = i
  have := (standing_nd t ds)
  rw [← e]
  exact List.Nodup.idxOf_getElem this i hi
theorem grW_len (t : T) (ds : List Int) : (grW t ds).length = (standing t ds).length := by simp [grW]
theorem grW_at {t : T} {ds : List Int} {i : Nat} {p : Nat × Nat} (h : (standing t ds)[i]? = some p) : atG (grW t ds) i = ⟨nmOf t p.1, p.2, undr t ds p.1 p.2, besd t ds p.1 p.2⟩ := by
  unfold atG grW
  rw [List.getD_eq_getElem?_getD, List.getElem?_map, h]; rfl
theorem stands_iff {t : T} {ds : List Int} {l h : Nat} : stands t ds l h = true ↔ ds.getD h 0 ≤ (fls t ds).getD l 0 ∧ ∀ p, t.ahead[h]? = some (some p) → (fls t ds).getD l 0 < ds.getD p 0 := by
  unfold stands
  rw [Bool.and_eq_true, decide_eq_true_eq]
  refine and_congr_right fun _ => ?_
  rw [List.getD_eq_getElem?_getD (l := t.ahead)]
  cases e : t.ahead[h]? with
  | none => simp
  | some o => cases o with
    | none => simp
    | some p => simp
theorem par_date {t : T} {ds : List Int} (I : Dts t ds) {h p : Nat} (e : t.ahead[h]? = some (some p)) : p ∈ t.innerIx ∧ ds.getD h 0 < ds.getD p 0 ∧ (h = chA t p ∨ h = chB t p) := by
  obtain ⟨a, b, e2, q⟩ := T.ahead_par e
  have hpl : p < t.cnt := by rw [← t.nodes_len]; exact (List.getElem?_eq_some_iff.mp e2).1
  have hg : t.nodes.getD p .non = .tup [natD a, natD b] := by rw [List.getD_eq_getElem?_getD, e2]; rfl
  have hin : p ∈ t.innerIx := nd_inner hpl (by rw [hg]; rfl)
  have ea : chA t p = a := by unfold chA; rw [hg]; simp [natD]
  have eb : chB t p = b := by unfold chB; rw [hg]; simp [natD]
  obtain ⟨_, _, q1, q2⟩ := I.inr p hin
  rw [ea] at q1
  rw [eb] at q2
  refine ⟨hin, ?_, by omega⟩
  rcases q with rfl | rfl <;> omega
theorem fls_mono {t : T} {ds : List Int} (I : Dts t ds) {i j : Nat} (hij : i < j) (hj : j < (fls t ds).length) : (fls t ds).getD i 0 < (fls t ds).getD j 0 := by
  have := List.pairwise_iff_getElem.mp (fls_si I) i j (by omega) hj hij
  rw [List.getD_eq_getElem?_getD, List.getD_eq_getElem?_getD, List.getElem?_eq_getElem hj, List.getElem?_eq_getElem (show i < _ by omega)]
  exact this
theorem fls_top {t : T} {ds : List Int} (I : Dts t ds) {h : Nat} (hh : h < t.cnt) : ds.getD h 0 ≤ (fls t ds).getD ((fls t ds).length - 1) 0 := by
  have hm := mem_fls I hh
  have hi := List.idxOf_lt_length_of_mem hm
  have e : (fls t ds).getD ((fls t ds).idxOf (ds.getD h 0)) 0 = ds.getD h 0 := by
    rw [List.getD_eq_getElem?_getD, List.getElem?_eq_getElem hi, List.getElem_idxOf]; rfl
  rw [← e]
  by_cases q : (fls t ds).idxOf (ds.getD h 0) = (fls t ds).length - 1
  · rw [q]; exact Int.le_refl _
  · exact Int.le_of_lt (fls_mono I (by omega) (by omega))
/-- under what a stay stands -/
theorem stand_up {t : T} {ds : List Int} (I : Dts t ds) {h l : Nat} (hm : (h, l) ∈ standing t ds) (hl : l + 1 < (fls t ds).length) : ∃ p, (p, l + 1) ∈ standing t ds ∧ pix t ds h l ∈ undr t ds p (l + 1) := by
  obtain ⟨h1, h2, h3⟩ := standing_mem.mp hm
  obtain ⟨s1, s2⟩ := stands_iff.mp h3
  have mono := fls_mono I (show l < l + 1 by omega) hl
  by_cases hs : stands t ds (l + 1) h = true
  · refine ⟨h, standing_mem.mpr ⟨hl, h2, hs⟩, ?_⟩
    unfold undr
    rw [if_pos (by omega)]
    simp
  · have : ∃ p, t.ahead[h]? = some (some p) ∧ ds.getD p 0 ≤ (fls t ds).getD (l + 1) 0 := by
      rcases Classical.em (∃ p, t.ahead[h]? = some (some p) ∧ ds.getD p 0 ≤ (fls t ds).getD (l + 1) 0) with q | q
      · exact q
      · refine absurd (stands_iff.mpr ⟨by omega, fun p hp => ?_⟩) hs
        rcases Int.lt_or_le ((fls t ds).getD (l + 1) 0) (ds.getD p 0) with w | w
        · exact w
        · exact absurd ⟨p, hp, w⟩ q
    obtain ⟨p, hp, hle⟩ := this
    have hlt := s2 p hp
    obtain ⟨pin, _, hk⟩ := par_date I hp
    obtain ⟨pe, _, _, pl⟩ := T.kids pin
    have pm := mem_fls I pl
    have pi := List.idxOf_lt_length_of_mem pm
    have pg : (fls t ds).getD ((fls t ds).idxOf (ds.getD p 0)) 0 = ds.getD p 0 := by
      rw [List.getD_eq_getElem?_getD, List.getElem?_eq_getElem pi, List.getElem_idxOf]; rfl
    have hdp : ds.getD p 0 = (fls t ds).getD (l + 1) 0 := by
      rcases Nat.lt_trichotomy ((fls t ds).idxOf (ds.getD p 0)) (l + 1) with q | q | q
      · by_cases q2 : (fls t ds).idxOf (ds.getD p 0) = l
        · rw [q2] at pg; omega
        · have := fls_mono I (show (fls t ds).idxOf (ds.getD p 0) < l by omega) h1
          omega
      · rw [q] at pg; omega
      · have := fls_mono I q pi
        omega
    have hps : stands t ds (l + 1) p = true := stands_iff.mpr ⟨by omega, fun r hr => by have := (par_date I hr).2.1; omega⟩
    refine ⟨p, standing_mem.mpr ⟨hl, pl, hps⟩, ?_⟩
    unfold undr
    have pns : isStr (t.nodes.getD p .non) = false := (Dts.notIn pl).mp pin
    rw [if_neg (by omega), pns]
    simp only [Bool.false_eq_true, if_false, Nat.add_sub_cancel]
    rcases hk with rfl | rfl <;> simp
theorem fls_pos (t : T) (ds : List Int) : 0 < (fls t ds).length := by simp [fls]
theorem besd_mem {t : T} {ds : List Int} {h l b : Nat} (hb : b ∈ besd t ds h l) : b < (standing t ds).length := by
  unfold besd at hb
  obtain ⟨p, hp, rfl⟩ := List.mem_map.mp hb
  have := (List.mem_filter.mp hp).1
  have := List.snd_lt_of_mem_zipIdx this
  omega
theorem root_last {t : T} {h : Nat} (hh : h < t.cnt) (e : ∀ p, t.ahead[h]? ≠ some (some p)) : h = t.cnt - 1 := by
  by_cases q : h + 1 < t.cnt
  · obtain ⟨p, hp⟩ := ahead_some q
    exact absurd hp (e p)
  · omega
theorem last_stay {t : T} {ds : List Int} (I : Dts t ds) {h l : Nat} (hm : (h, l) ∈ standing t ds) (hl : ¬ l + 1 < (fls t ds).length) : pix t ds h l = (standing t ds).length - 1 := by
  obtain ⟨h1, h2, h3⟩ := standing_mem.mp hm
  obtain ⟨s1, s2⟩ := stands_iff.mp h3
  have hle : l = (fls t ds).length - 1 := by omega
  have hroot : ∀ x, (x, l) ∈ standing t ds → x = t.cnt - 1 := fun x hx => by
    obtain ⟨g1, g2, g3⟩ := standing_mem.mp hx
    obtain ⟨r1, r2⟩ := stands_iff.mp g3
    refine root_last g2 fun p hp => ?_
    have a1 := r2 p hp
    have pl : p < t.cnt := (T.kids (par_date I hp).1).2.2.2
    have := fls_top I pl
    rw [← hle] at this
    omega
  have hhr := hroot h hm
  have hs : standing t ds = standTo t ds l ++ standL t ds l t.cnt := by
    unfold standing
    rw [show (fls t ds).length = l + 1 by omega, standTo_succ]
  have hsl : standL t ds l t.cnt = [(h, l)] := by
    have hnd := standing_nd t ds
    rw [hs, List.nodup_append] at hnd
    have hall : ∀ p ∈ standL t ds l t.cnt, p = (h, l) := fun p hp => by
      have h2 := (standL_mem.mp hp).1
      have : (p.1, l) ∈ standing t ds := by rw [hs]; exact List.mem_append_right _ (by have e : (p.1, l) = p := Prod.ext rfl h2.symm; rw [e]; exact hp)
      have := hroot p.1 this
      exact Prod.ext (by omega) h2
    have hin : (h, l) ∈ standL t ds l t.cnt := standL_mem.mpr ⟨rfl, h2, h3⟩
    have nd2 := hnd.2.1
    cases hL : standL t ds l t.cnt with
    | nil => rw [hL] at hin; simp at hin
    | cons a L =>
      rw [hL] at hall nd2
      have ha := hall a (by simp)
      cases L with
      | nil => rw [ha]
      | cons b L =>
        have hb := hall b (by simp)
        rw [List.nodup_cons] at nd2
        exact absurd (by rw [ha, ← hb]; simp) nd2.1
  have hno : (h, l) ∉ standTo t ds l := fun hm => by have := (standTo_mem.mp hm).1; simp at this
  unfold pix
  rw [hs, hsl, List.idxOf_append, if_neg hno]
  simp
theorem grW_ok {t : T} {ds : List Int} (I : Dts t ds) (ho : t.Ok) (hz : t.ls.length ≤ 8) : Grd (grW t ds) := by
  have cl := t.cnt_ls
  have cp := t.cnt_pos
  have gl := grW_len t ds
  have fl := fls_len t ds I.len
  have sl : (standing t ds).length ≤ 300 := by
    have q1 := standTo_len t ds (fls t ds).length
    have q3 : (fls t ds).length * t.cnt ≤ 16 * 15 := Nat.mul_le_mul (by omega) (by omega)
    unfold standing; omega
  obtain ⟨w, hw⟩ : ∃ w, w ∈ t.ls := by
    cases h : t.ls with
    | nil => rw [h] at cl; simp at cl
    | cons a l => exact ⟨a, by simp⟩
  obtain ⟨i0, hi0, e0⟩ := word_node hw
  have st0 : ∀ i, i < t.cnt → isStr (t.nodes.getD i .non) = true → (i, 0) ∈ standing t ds := fun i hi hs => by
    refine standing_mem.mpr ⟨fls_pos t ds, hi, stands_iff.mpr ⟨?_, fun p hp => ?_⟩⟩
    · rw [I.lf i hi hs]; exact Int.le_refl _
    · have := (I.inr p (par_date I hp).1).1
      have : (fls t ds).getD 0 0 = 0 := rfl
      omega
  have hne : standing t ds ≠ [] := List.ne_nil_of_mem (st0 i0 hi0 (by rw [e0]; rfl))
  refine ⟨fun e => by rw [e] at gl; simp at gl; exact hne (List.length_eq_zero_iff.mp gl.symm), by omega, fun s hs => ?_, fun i hi => ?_, fun i hi => ?_⟩
  · obtain ⟨p, hp, rfl⟩ := List.mem_map.mp hs
    exact nmOf_nm ho (standing_mem.mp (show (p.1, p.2) ∈ _ from hp)).2.1
  · rw [gl] at hi
    have hp : (standing t ds)[i]? = some (standing t ds)[i] := List.getElem?_eq_getElem hi
    generalize (standing t ds)[i] = p at hp
    obtain ⟨h, l⟩ := p
    have hm : (h, l) ∈ standing t ds := List.mem_of_getElem? hp
    obtain ⟨h1, h2, h3⟩ := standing_mem.mp hm
    obtain ⟨k1, k2⟩ := stands_low I h1 h2 h3
    have hpi : pix t ds h l = i := pix_of hp
    rw [grW_at hp]
    refine ⟨fun u hu => ?_, ?_, fun b hb => ?_, ?_⟩
    · simp only at hu
      unfold undr at hu
      split at hu
      · rename_i q
        simp at hu
        subst hu
        rw [← hpi]
        exact pix_lt (k1 q).2 (k1 q).1 hm
      · rename_i q
        split at hu
        · simp at hu
        · rename_i q2
          obtain ⟨z, ka, kb⟩ := k2 q (by simpa using q2)
          simp at hu
          rw [← hpi]
          rcases hu with rfl | rfl
          · exact pix_lt ka z hm
          · exact pix_lt kb z hm
    · simp only; unfold undr; split <;> (try split) <;> simp
    · rw [gl]; exact besd_mem hb
    · simp only
      unfold besd
      rw [List.length_map]
      exact Nat.le_trans (List.length_filter_le _ _) (by rw [List.length_zipIdx]; omega)
  · rw [gl] at hi
    have hi' : i < (standing t ds).length := by omega
    have hp : (standing t ds)[i]? = some (standing t ds)[i] := List.getElem?_eq_getElem hi'
    generalize (standing t ds)[i] = p at hp
    obtain ⟨h, l⟩ := p
    have hm : (h, l) ∈ standing t ds := List.mem_of_getElem? hp
    have hpi : pix t ds h l = i := pix_of hp
    by_cases hl : l + 1 < (fls t ds).length
    · obtain ⟨q, hq, hu⟩ := stand_up I hm hl
      have hg := pix_get hq
      refine ⟨pix t ds q (l + 1), by rw [gl]; exact (List.getElem?_eq_some_iff.mp hg).1, ?_⟩
      rw [grW_at hg, ← hpi]; exact hu
    · have := last_stay I hm hl
      omega
theorem grW_fnd {t : T} {ds : List Int} (I : Dts t ds) {ws : List Str} (h : ∀ w ∈ ws, w ∈ t.ls) : Fnd (grW t ds) ws := by
  intro w hw
  obtain ⟨i, hi, e⟩ := word_node (h w hw)
  have hs : isStr (t.nodes.getD i .non) = true := by rw [e]; rfl
  have hm : (i, 0) ∈ standing t ds := by
    refine standing_mem.mpr ⟨fls_pos t ds, hi, stands_iff.mpr ⟨?_, fun p hp => ?_⟩⟩
    · rw [I.lf i hi hs]; exact Int.le_refl _
    · have := (I.inr p (par_date I hp).1).1
      have : (fls t ds).getD 0 0 = 0 := rfl
      omega
  have hg := pix_get hm
  refine ⟨pix t ds i 0, by rw [grW_len]; exact (List.getElem?_eq_some_iff.mp hg).1, ?_⟩
  unfold fndN
  rw [grW_at hg]
  have hz : ¬ ds.getD i 0 < (fls t ds).getD 0 0 := by rw [I.lf i hi hs]; show ¬ (0 : Int) < 0; omega
  have eu : undr t ds i 0 = [] := by unfold undr; rw [if_neg hz, hs, if_pos rfl]
  show ((undr t ds i 0).isEmpty && (match nmOf t i with | .str x => decide (x = w) | _ => false)) = true
  rw [eu, nmOf_leaf e]
  simp
/-- the ground of a great tree, without dates or with drawn ones -/
structure GrOf (t : T) (g : Gr) : Prop where
  ok : Grd g
  fnd : ∀ ws : List Str, (∀ w ∈ ws, w ∈ t.ls) → Fnd g ws
  of : g = grO t ∨ ∃ ds, isDt t ds = true ∧ g = grW t ds
end M
namespace M
open PySem hiding Env
open L2
section
variable {pins : List (Nat × MO)} {t : TgM} {c : MT} {f : ME} {m : Env} {S S0 x : Store} {K : Out R → Prop} {ds : List R}
/-- .. what stood behind S0 is forgotten, too -/
theorem lcX_wp {α : Type} (xs : List α) (r : α → R) (p : α → Bool) (g : α → D) (hd : ds = xs.map r) (hp : ∀ acc, pinsOk pins (S ++ [.lst acc])) (hS : S = S0 ++ x) (hz : xs.length ≤ sizeLine)
    (hs : ∀ x ∈ xs, ∀ acc, wTg (t (r x) m) fun m1 => c m1 (S ++ [.lst acc]) = .ok (p x) (S ++ [.lst acc]) ∧ (p x = true → wE (f m1 (S ++ [.lst acc])) fun o => o = .ok (.v (g x)) (S ++ [.lst acc])))
    (k : K (.ok (.v (.lst ((xs.filter p).map g))) S0)) : wE (mLcGo pins t c f S.length m ds (S ++ [.lst []])) (kB (fun r S' => popV S0 r S') K) := by
  subst hd
  have key : ∀ (xs ys : List α), ys.length + xs.length ≤ sizeLine → (∀ x ∈ xs, ∀ acc, wTg (t (r x) m) fun m1 => c m1 (S ++ [.lst acc]) = .ok (p x) (S ++ [.lst acc]) ∧ (p x = true → wE (f m1 (S ++ [.lst acc])) fun o => o = .ok (.v (g x)) (S ++ [.lst acc]))) →
      mLcGo pins t c f S.length m (xs.map r) (S ++ [.lst ((ys.map g).map .v)]) = .ok (.ref S.length) (S ++ [.lst (((ys ++ xs.filter p).map g).map .v)]) := by
    intro xs
    induction xs with
    | nil => intro ys _ _; rw [List.map_nil]; unfold mLcGo; rw [if_pos (hp _)]; simp
    | cons x xs ih =>
      intro ys hl hs
      have h1 := hs x (by simp) ((ys.map g).map .v)
      cases et : t (r x) m with
      | none => rw [et] at h1; exact h1.elim
      | some m1 =>
        rw [et] at h1
        obtain ⟨e2, e3⟩ := h1
        rw [List.map_cons]
        unfold mLcGo
        rw [if_pos (hp _), et]
        simp only [e2, Out.calm_ok, Out.bind_ok]
        rw [List.length_cons] at hl
        cases hpx : p x with
        | false =>
          simp only
          rw [ih ys (by omega) fun x hx => hs x (by simp [hx]), List.filter_cons_of_neg (by simp [hpx])]
        | true =>
          have e3 : f m1 (S ++ [MO.lst ((ys.map g).map R.v)]) = _ := e3 hpx
          simp only [e3, Out.calm_ok, Out.bind_ok, get_len]
          rw [if_pos (by rw [List.length_map, List.length_map]; omega), set_len, List.filter_cons_of_pos hpx]
          have := ih (ys ++ [x]) (by rw [List.length_append]; simp; omega) fun x hx => hs x (by simp [hx])
          simp only [List.map_append, List.map_cons, List.map_nil, List.append_assoc, List.cons_append, List.nil_append] at this ⊢
          exact this
  have := key xs [] (by simpa using hz) hs
  simp only [List.map_nil, List.nil_append] at this
  unfold wE kB
  rw [this, Out.bind_ok]
  have e : popV S0 (.ref S.length) (S ++ [.lst (((xs.filter p).map g).map .v)]) = .ok (.v (.lst ((xs.filter p).map g))) S0 := by
    rw [popV_ref (get_len S _ []), set_len, hS, List.append_assoc, cut_app']
  rw [e]
  exact k
end
end M
namespace Q
open PySem hiding Env
open L2 M
theorem cut_pot {b n : Nat} (S : Store) (h : Pot b) : cut S (S.set n h.c) = S.set n h.c := cut_U ((Upd.refl S).set (h.lo _))
theorem dn_found {g : Gr} {w : Str} {y : Nat} {x : Str × Nat × Nat} (h : x ∈ dnN g (.leaf w) y) : x = (("found" : Str), y, y) ∧ fndN g y w = true := by
  unfold dnN at h
  split at h
  · rename_i q; simp at h; exact ⟨h, q⟩
  · simp at h
theorem dds_nf {g : Gr} {s : Nat} {x : Str × Nat × Nat} (h : x ∈ ddsN g s) : x.1 ≠ "found" := by
  have o1 : ("doubled" : Str) ≠ "found" := by decide +kernel
  have o2 : ("split" : Str) ≠ "found" := by decide +kernel
  have o3 : ("over" : Str) ≠ "found" := by decide +kernel
  rcases List.mem_cons.mp h with rfl | h
  · exact o1
  rcases List.mem_append.mp h with h | h
  · split at h
    · simp only [List.mem_cons, List.not_mem_nil, or_false] at h
      rcases h with rfl | rfl <;> exact o2
    · simp at h
  · obtain ⟨o, ho, h⟩ := List.mem_flatMap.mp h
    simp only [List.mem_cons, List.not_mem_nil, or_false] at h
    rcases h with rfl | rfl <;> exact o3
theorem path_wp {b : Nat} {g : Gr} {t0 s : T} {i x w n : Nat} {S : Store} {h : Pot b} {K : Out R → Prop} (G : Grd g) (ho : t0.Ok) (hi : i < t0.cnt) (hs : t0.subs[i]? = some s) (hx : x < g.length) (hc : canN g s x = true) (hb : b + 4000 ≤ 2 ^ 40)
    (e : S[n]? = some h.c) (hnw : n ≠ w) (hw : S[w]? = some (.lst (t0.nodes.map .v)))
    (k : ∀ (p : List Nat) (h' : Pot (b + 4000)), Pth g s x p → dnN g s (p.getLastD 0) ≠ [] → K (.ok (.v (pD p)) (S.set n h'.c))) : wE (M_path [.ref n, .v (grD g), .ref w, .v (canD g t0), .v (.int (i : Int)), .v (.int (x : Int))] S) K := by
  obtain ⟨p, h', e1, p1, p2⟩ := path_spec G ho hi hs hx hc hb e hnw hw rfl
  exact wE_eq e1 (k p h' p1 p2)
theorem way_spec {g : Gr} {t0 : T} {w n : Nat} (G : Grd g) (ho : t0.Ok) (hnw : n ≠ w) : ∀ (k : Nat) (s : T) (i b : Nat) (p : List Nat) (S : Store) (h : Pot b), t0.subs[i]? = some s → s.depth < k → b + 9000 * s.cnt ≤ 2 ^ 40 → S[n]? = some h.c → S[w]? = some (.lst (t0.nodes.map .v)) → pathN g p = true → dnN g s (p.getLastD 0) ≠ [] →
    ∃ (y : Wy) (h' : Pot (b + 9000 * s.cnt)), R_way k [.ref n, .v (grD g), .ref w, .v (canD g t0), .v (.int (i : Int)), .v (pD p)] S = .ok (.v y.d) (S.set n h'.c) ∧ wayN g s y = true ∧ y.p = p
  | 0, _, _, _, _, _, _, _, h, _, _, _, _, _ => by omega
  | k + 1, s, i, b, p, S, h, hs, hd, hb, e, hw, hp, hdn => by
    have hi : i < t0.cnt := by rw [← t0.subs_len]; exact (List.getElem?_eq_some_iff.mp hs).1
    have hn := lt_of_get e
    have hlast := pathN_last hp
    have hpne := (pathN_inv hp).1
    have glen := G.len
    have hf : strOkB "found" = true := by decide +kernel
    have ilast : ∀ S, opIx (.v (pD p)) (.v (.int (-1))) S = .ok (.v (.int (p.getLastD 0 : Int))) S := fun S => opIx_last hpne
    have hdone := done_spec (S := S) (rc := .v (canD g t0)) G ho hw hs hlast ⟨fun cs a ha => (canV_v g t0 S).at_ cs a (by omega)⟩
    have cp := s.cnt_pos
    suffices hh : wE (R_way (k + 1) [.ref n, .v (grD g), .ref w, .v (canD g t0), .v (.int (i : Int)), .v (pD p)] S) (fun o => ∃ (y : Wy) (h' : Pot (b + 9000 * s.cnt)), o = .ok (.v y.d) (S.set n h'.c) ∧ wayN g s y = true ∧ y.p = p) from hh
    simp_arith [R_way, m_way, ilast, hdone]
    refine pick_wp e (by omega) (by simpa [List.getLastD_eq_getLast?] using hdn) (by rw [List.length_map]; have := dnN_len G s hlast; omega) fun d h1 hm => ?_
    obtain ⟨⟨dd, a, c⟩, hx, rfl⟩ := List.mem_map.mp hm
    have hw1 : (S.set n h1.c)[w]? = some (.lst (t0.nodes.map .v)) := get_ne' hnw hw _
    have e1 : (S.set n h1.c)[n]? = some h1.c := get_setlt hn _
    cases s with
    | leaf u =>
      obtain ⟨ex, hfn⟩ := dn_found hx
      cases ex
      simp_arith [dd3, natD, opEq_strs hf hf, decide_true, cut_pot]
      refine ⟨.one p "found", h1.up (by omega), rfl, ?_, rfl⟩
      show (pathN g p && (decide (("found" : Str) = "found") && fndN g (p.getLastD 0) u)) = true
      rw [hp, hfn, decide_eq_true rfl]; rfl
    | node l r =>
      have hx' := List.mem_filter.mp (show (dd, a, c) ∈ (ddsN g (p.getLastD 0)).filter _ from hx)
      have hds := hx'.1
      obtain ⟨ra, rc⟩ := dds_rng G hlast hds
      have hcan : canN g l a = true ∧ canN g r c = true := by have := hx'.2; rw [Bool.and_eq_true] at this; exact this
      have hne : decide (dd = "found") = false := decide_eq_false (dds_nf hds)
      obtain ⟨ia, ib, ex, ha, hb', la, lb⟩ := T.sub_node hs
      simp only [T.cnt] at hb cp ⊢
      simp only [T.depth] at hd
      have cl := l.cnt_pos
      have cr := r.cnt_pos
      simp_arith [dd3, natD, opEq_strs (show strOkB dd = true from dds_str hds) hf, hne, opIx_rows hw1 ex]
      refine path_wp G ho (by omega) ha ra hcan.1 (by omega) e1 hnw hw1 fun p1 h2 P1 D1 => ?_
      simp_arith [List.set_set]
      have hw2 : (S.set n h2.c)[w]? = some (.lst (t0.nodes.map .v)) := get_ne' hnw hw _
      have e2 : (S.set n h2.c)[n]? = some h2.c := get_setlt hn _
      obtain ⟨y1, h3, q1, q2, q3⟩ := way_spec G ho hnw k l ia _ p1 (S.set n h2.c) h2 ha (by omega) (by omega) e2 hw2 P1.path D1
      refine wE_eq q1 ?_
      simp_arith [List.set_set]
      have hw3 : (S.set n h3.c)[w]? = some (.lst (t0.nodes.map .v)) := get_ne' hnw hw _
      have e3 : (S.set n h3.c)[n]? = some h3.c := get_setlt hn _
      refine path_wp G ho (by omega) hb' rc hcan.2 (by omega) e3 hnw hw3 fun p2 h4 P2 D2 => ?_
      simp_arith [List.set_set]
      have hw4 : (S.set n h4.c)[w]? = some (.lst (t0.nodes.map .v)) := get_ne' hnw hw _
      have e4 : (S.set n h4.c)[n]? = some h4.c := get_setlt hn _
      obtain ⟨y2, h5, s1, s2, s3⟩ := way_spec G ho hnw k r ib _ p2 (S.set n h4.c) h4 hb' (by omega) (by omega) e4 hw4 P2.path D2
      refine wE_eq s1 ?_
      simp_arith [List.set_set, cut_pot]
      refine ⟨.two p dd y1 y2, h5.up (by omega), rfl, ?_, rfl⟩
      show (pathN g p && (wayN g l y1 && (wayN g r y2 && domN g (p.getLastD 0) dd (y1.p.headD 0) (y2.p.headD 0)))) = true
      rw [hp, q2, s2, q3, s3, P1.hd, P2.hd, dds_dom hds]; rfl
/-- a small tree's leaves are the great one's -/
structure Sml (t s : T) : Prop where
  ok : s.Ok
  len : s.ls.length ≤ 10
  sub : ∀ w ∈ s.ls, w ∈ t.ls
theorem whole_way_wp {b : Nat} {g : Gr} {t : T} {n : Nat} {S : Store} {h : Pot b} {K : Out R → Prop} (G : Grd g) (ho : t.Ok) (hz : t.ls.length ≤ 10) (hF : Fnd g t.ls) (hb : b + 200000 ≤ 2 ^ 40) (e : S[n]? = some h.c)
    (k : ∀ (y : Wy) (h' : Pot (b + 200000)), wayN g t y = true → y.p.length = 1 → K (.ok (.v y.d) (S.set n h'.c))) : wE (M_whole_way [.ref n, .v (grD g), .v t.d] S) K := by
  have hn := lt_of_get e
  have cl := t.cnt_ls
  have cp := t.cnt_pos
  have glen := G.len
  have hd : t.depth < 70 := by have := t.depth_lt; omega
  have gl : ((g.map Sty.d).length : Int) = (g.length : Int) := by rw [List.length_map]
  simp_arith [M_whole_way, m_whole_way]
  refine nodes_3_wp hd (by omega) fun w x hw hwl => ?_
  have ec : ((t.nodes.length : Int) - 1) = ((t.cnt - 1 : Nat) : Int) := by rw [t.nodes_len]; omega
  have lw : biLen [.ref w] (S ++ x) = .ok (.v (.int (t.nodes.length : Int))) (S ++ x) := by rw [biLen_ref hw, List.length_map]
  have hcan := can_spec G ho (by omega) hw
  have hrg : rg1 [.v (.int (g.length : Int))] (S ++ x) = .ok ⟨(List.range g.length).map fun (x : Nat) => .v (.int (x : Int)), []⟩ (S ++ x) := by
    rw [rg1_nat g.length (by omega)]
    congr 2
    unfold rangeD
    refine List.map_congr_left fun i _ => ?_
    rw [Int.zero_add]
  have hlg : biLen [.v (grD g)] (S ++ x) = .ok (.v (.int (g.length : Int))) (S ++ x) := by rw [grD, biLen_tup, gl]
  simp_arith [hcan, lw, ec, hlg]
  have hUl : n < (S ++ x).length := by rw [List.length_append]; omega
  have e' : (S ++ x)[n]? = some h.c := get_app' e x
  have hset : ∀ c, (S ++ x).set n c = S.set n c ++ x := fun c => set_applt hn x c
  generalize S ++ x = U at hw lw hcan hlg hrg e' hUl hset ⊢
  simp_arith [hrg]
  refine lc_wp (List.range g.length) (fun y => .v (.int (y : Int))) (fun y => !(dnN g t y).isEmpty) natD rfl (.refl _) (sz_of (by rw [List.length_range]; omega)) ?_ ?_
  · intro y hy acc
    have hy : y < g.length := by simpa using hy
    have hdone := done_spec (S := U ++ [.lst acc]) (rc := .v (canD g t)) G ho (get_app' hw _) t.sub_top hy ⟨fun cs a ha => (canV_v g t _).at_ cs a (by omega)⟩
    have hne := (opNe_nil3 (S := U ++ [.lst acc]) (dnN g t y) dn_str).2
    simp_arith [hdone, hne]
    exact fun _ => rfl
  · simp_arith []
    refine pick_wp e' (by omega) ?_ (by rw [List.length_map]; exact Nat.le_trans (List.length_filter_le _ _) (by rw [List.length_range]; omega)) fun d h1 hm => ?_
    · obtain ⟨y, hy, hy2⟩ := dn_top G t hF
      have : natD y ∈ ((List.range g.length).filter fun y => !(dnN g t y).isEmpty).map natD := List.mem_map_of_mem (List.mem_filter.mpr ⟨by simpa using hy, by simpa using hy2⟩)
      exact List.ne_nil_of_mem this
    · obtain ⟨y, hy, rfl⟩ := List.mem_map.mp hm
      obtain ⟨y1, y2⟩ := List.mem_filter.mp hy
      have y1 : y < g.length := by simpa using y1
      have y2 : dnN g t y ≠ [] := by simpa using y2
      have P : pathN g [y] = true := pathN_iff.mpr ⟨by simp, by simpa using y1, fun q hq => by simp at hq⟩
      simp_arith []
      obtain ⟨z, h2, q1, q2, q3⟩ := way_spec G ho (n := n) (w := w) (by omega) 70 t (t.cnt - 1) _ [y] (U.set n h1.c) h1 t.sub_top hd (by omega) (get_setlt hUl _) (get_ne' (by omega) hw _) P y2
      refine wE_eq (show R_way 70 [.ref n, .v (grD g), .ref w, .v (canD g t), .v (.int ((t.cnt - 1 : Nat) : Int)), .v (.tup [natD y])] _ = _ from q1) ?_
      simp_arith [List.set_set, hset, set_applt (show n < (S.set n h1.c).length by rw [List.length_set]; exact hn), cut_appU ((Upd.refl S).set (h2.lo _))]
      exact k z (h2.up (by omega)) q2 (by rw [q3]; rfl)
theorem leaves_ls : ∀ ws : List Str, (ws.map T.leaf).flatMap T.ls = ws
  | [] => rfl
  | a :: ws => by rw [List.map_cons, List.flatMap_cons, leaves_ls ws]; rfl
theorem small_6_wp {b : Nat} {t : T} {n : Nat} {S : Store} {h : Pot b} {K : Out R → Prop} (ho : t.Ok) (hz : t.ls.length ≤ 8) (hb : b + 100 ≤ 2 ^ 40) (e : S[n]? = some h.c)
    (k : ∀ (s : T) (h' : Pot (b + 100)), Sml t s → K (.ok (.v s.d) (S.set n h'.c))) : wE (M_small_6 [.ref n, .v t.d] S) K := by
  have hn := lt_of_get e
  have cl := t.cnt_ls
  have cp := t.cnt_pos
  have hd := depth_lt8 hz
  simp_arith [M_small_6, m_small_6]
  refine nodes_3_wp hd (by omega) fun w x hw hwl => ?_
  have hpin : ∀ acc, pinsOk [(w, .lst (t.nodes.map .v))] ((S ++ x) ++ [.lst acc]) := fun acc => ⟨get_app' hw _, trivial⟩
  have hSx : S ++ x = S ++ x := rfl
  have hnt : ∀ d ∈ t.nodes, notTy d = true := fun d hd => T.notTy_nodes t 0 d hd
  have hnl := t.nodes_len
  simp_arith [hw]
  rw [← List.append_assoc, ← List.length_append]
  refine lcX_wp (S0 := S) (x := x) t.nodes .v isStr (fun d => d) rfl hpin rfl (sz_of (by omega)) ?_ ?_
  · intro d hd acc
    simp_arith [isi_str d (hnt d hd)]
    exact fun _ => trivial
  · rw [List.map_id', show t.nodes.filter isStr = t.ls.map D.str from T_leaves_nodes t 0]
    simp_arith []
    refine take_2_wp e (by omega) (by decide) (by decide) fun r h1 r0 r1 => ?_
    simp_arith []
    obtain ⟨m, hm, m0, m1⟩ : ∃ m : Int, opIx (.v (.lst [.int 6, .int 10])) (.v (.int (if (r == 0) = true then 1 else 0))) (S.set n h1.c) = .ok (.v (.int m)) (S.set n h1.c) ∧ 6 ≤ m ∧ m ≤ 10 := by
      by_cases hc : (r == 0) = true
      · exact ⟨10, by rw [if_pos hc]; exact opIx_lst (atI_1 _ _ _), by decide, by decide⟩
      · exact ⟨6, by rw [if_neg hc]; exact opIx_lst (atI_0 _ _), by decide, by decide⟩
    simp_arith [hm]
    refine take_2_wp (get_setlt hn h1.c) (by omega) (by omega) (by omega) fun r2 h2 r20 r21 => ?_
    simp_arith [List.set_set]
    obtain ⟨q, hq, q1, q2⟩ : ∃ q : Nat, (1 + r2 : Int) = (q : Int) ∧ 1 ≤ q ∧ q ≤ 10 := ⟨(1 + r2).toNat, by omega, by omega, by omega⟩
    rw [hq]
    have hU2 : ∀ (b' : Nat) (h' : Pot b'), Upd (S.set n h2.c) (S.set n h'.c) := fun b' h' => by
      rw [show S.set n h'.c = (S.set n h2.c).set n h'.c by rw [List.set_set]]; exact (Upd.refl _).set (h'.lo _)
    have hU3 : S.set n h2.c = S.set n h2.c := rfl
    generalize hUU : S.set n h2.c = U2 at hU2
    simp_arith [rg1_nat q (by omega)]
    have hg2 : (S.set n h2.c)[n]? = some h2.c := get_setlt hn _
    have hne : t.ls.map D.str ≠ [] := by intro z; have := congrArg List.length z; rw [List.length_map, List.length_nil] at this; omega
    refine lcS_wp (List.range q) (fun (i : Nat) => .v (.int (0 + (i : Int)))) (fun i ys U => ∃ (ws : List Str) (h' : Pot (b + 1 + 1 + i)), ys = ws.map D.str ∧ (∀ w ∈ ws, w ∈ t.ls) ∧ U = S.set n h'.c) rfl (sz_of (by simp; omega)) ⟨[], h2, rfl, by simp, hUU.symm⟩ (fun i ys U ⟨ws, h', _, _, e⟩ => by rw [e]; exact hU2 _ h') ?_ ?_
    · rintro i _ ys U hi ⟨ws, h', rfl, hws, rfl⟩
      have hi' : i < q := by have := (List.getElem?_eq_some_iff.mp hi).1; simpa using this
      simp_arith []
      refine pick_wp (get_app' (get_setlt hn h'.c) _) (by omega) hne (by rw [List.length_map]; omega) fun d h3 hm => ?_
      obtain ⟨u, hu, rfl⟩ := List.mem_map.mp hm
      rw [set_applt (by simpa using hn), List.set_set]
      refine ⟨_, _, rfl, ws ++ [u], h3, by simp, fun v hv => ?_, rfl⟩
      rcases List.mem_append.mp hv with hv | hv
      · exact hws v hv
      · simp at hv; subst hv; exact hu
    · rintro ys U ⟨ws, h', rfl, hws, rfl⟩ hl
      have hl : ws.length = q := by simpa using hl
      have et : ws.map D.str = (ws.map T.leaf).map T.d := by rw [List.map_map]; rfl
      have hlr : (List.range q).length = q := List.length_range
      simp_arith [et]
      refine tree_wp (get_setlt hn h'.c) (by intro z; have := congrArg List.length z; rw [List.length_map, List.length_nil] at this; omega) (by rw [List.length_map]; omega) (by rw [hlr, List.length_map]; omega) fun s h3 hp => ?_
      rw [leaves_ls] at hp
      simp_arith [List.set_set, cut_pot]
      refine k s (h3.up (by rw [hlr, List.length_map]; omega)) ⟨fun w hw => ho w (hws w (hp.mem_iff.mp hw)), by rw [hp.length_eq]; omega, fun w hw => hws w (hp.mem_iff.mp hw)⟩
theorem Sml.depth {t s : T} (h : Sml t s) : s.depth ≤ 10 := by have := s.depth_lt; have := h.len; omega
end Q
namespace Q
open PySem hiding Env
open L2 M
end Q
namespace M
open PySem PySem.Spec L2
open PyProof.Rows hiding St
def Wy.Ok : Wy → Prop
  | .one p d => p.length ≤ 100000 ∧ strOkB d = true
  | .two p d a b => p.length ≤ 100000 ∧ strOkB d = true ∧ a.Ok ∧ b.Ok
theorem natD_sane (k n : Nat) : Sane k (natD n) := by
  cases k with
  | zero => rfl
  | succ k => exact ⟨rfl, fun ds e => by simp [natD] at e, fun w e => by simp [natD] at e⟩
theorem pD_sane {p : List Nat} (h : p.length ≤ 100000) : ∀ k, Sane k (pD p)
  | 0 => rfl
  | k + 1 => ⟨rfl, fun ds e => by
      cases e
      refine ⟨by rw [List.length_map]; exact h, fun x hx => ?_⟩
      obtain ⟨n, _, rfl⟩ := List.mem_map.mp hx
      exact natD_sane k n, fun w e => by simp [pD] at e⟩
theorem str_sane {d : Str} (h : strOkB d = true) : ∀ k, Sane k (.str d)
  | 0 => rfl
  | k + 1 => ⟨rfl, fun ds e => (by cases e), fun w e => (by cases e; exact h)⟩
theorem Wy.Ok.sane : ∀ {y : Wy}, y.Ok → ∀ k, Sane k y.d
  | .one p d, h, 0 => rfl
  | .two p d a b, h, 0 => rfl
  | .one p d, h, k + 1 => ⟨rfl, fun ds e => by
      cases e
      refine ⟨by simp, fun x hx => ?_⟩
      simp only [List.mem_cons, List.not_mem_nil, or_false] at hx
      rcases hx with rfl | rfl
      · exact pD_sane h.1 k
      · exact str_sane h.2 k, fun w e => by cases e⟩
  | .two p d a b, h, k + 1 => ⟨rfl, fun ds e => by
      cases e
      refine ⟨by simp, fun x hx => ?_⟩
      simp only [List.mem_cons, List.not_mem_nil, or_false] at hx
      rcases hx with rfl | rfl | rfl | rfl
      · exact pD_sane h.1 k
      · exact str_sane h.2.1 k
      · exact h.2.2.1.sane k
      · exact h.2.2.2.sane k, fun w e => by cases e⟩
theorem domN_str {g : Gr} {s a b : Nat} {d : Str} (h : domN g s d a b = true) : d = "doubled" ∨ d = "split" ∨ d = "over" := by
  unfold domN at h
  split at h
  · exact .inl ‹_›
  · split at h
    · exact .inr (.inl ‹_›)
    · rw [Bool.and_eq_true, decide_eq_true_eq] at h
      exact .inr (.inr h.1)
theorem path_len {g : Gr} (G : Grd g) {p : List Nat} (h : pathN g p = true) : p.length ≤ 1000 := by
  obtain ⟨h1, h2, h3⟩ := pathN_inv h
  have := Q.steps_len G h2 h3
  have hh : p.headD 0 < g.length := by
    cases p with
    | nil => exact absurd rfl h1
    | cons a p => exact h2 a (by simp)
  have := G.len
  omega
theorem way_inv2 {g : Gr} {t : T} {p : List Nat} {d : Str} {a b : Wy} (h : wayN g t (.two p d a b) = true) : ∃ l r, t = .node l r ∧ pathN g p = true ∧ wayN g l a = true ∧ wayN g r b = true ∧ domN g (p.getLastD 0) d (a.p.headD 0) (b.p.headD 0) = true := by
  cases t with
  | leaf w => cases h
  | node l r =>
    have h : (pathN g p && (wayN g l a && (wayN g r b && domN g (p.getLastD 0) d (a.p.headD 0) (b.p.headD 0)))) = true := h
    simp only [Bool.and_eq_true] at h
    exact ⟨l, r, rfl, h.1, h.2.1, h.2.2.1, h.2.2.2⟩
theorem way_inv1 {g : Gr} {t : T} {p : List Nat} {d : Str} (h : wayN g t (.one p d) = true) : ∃ w, t = .leaf w ∧ pathN g p = true ∧ d = "found" ∧ fndN g (p.getLastD 0) w = true := by
  cases t with
  | node l r => cases h
  | leaf w =>
    have h : (pathN g p && (decide (d = "found") && fndN g (p.getLastD 0) w)) = true := h
    simp only [Bool.and_eq_true, decide_eq_true_eq] at h
    exact ⟨w, rfl, h.1, h.2.1, h.2.2⟩
theorem way_ok {g : Gr} (G : Grd g) : ∀ {t : T} {y : Wy}, wayN g t y = true → y.Ok
  | t, .one p d, h => by
    obtain ⟨w, rfl, h1, rfl, _⟩ := way_inv1 h
    exact ⟨by have := path_len G h1; omega, by decide +kernel⟩
  | t, .two p d a b, h => by
    obtain ⟨l, r, rfl, h1, h2, h3, h4⟩ := way_inv2 h
    refine ⟨by have := path_len G h1; omega, ?_, way_ok G h2, way_ok G h3⟩
    rcases domN_str h4 with rfl | rfl | rfl <;> decide +kernel
def Wy.rest : Wy → List D
  | .one _ d => [.str d]
  | .two _ d u v => [.str d, u.d, v.d]
theorem Wy.d_eq (y : Wy) : y.d = .tup (pD y.p :: y.rest) := by cases y <;> rfl
end M
namespace Q
open PySem hiding Env
open L2 M
theorem is_way_wy {g : Gr} {t : T} {y : Wy} {S : Store} (G : Grd g) (ho : t.Ok) (hd : t.depth < 60) (hz : t.ls.length ≤ 10000) (hy : y.Ok) : M_is_way [.v (grD g), .v t.d, .v y.d] S = .ok (.v (.bl (wayN g t y && decide (y.p.length = 1)))) S := by
  have := is_way_spec (S := S) G ho hd hz (hy.sane (t.depth + 3))
  rw [wayD_d] at this
  rw [this]
  have : oneD y.d = decide (y.p.length = 1) := by rw [Wy.d_eq]; show decide ((y.p.map natD).length = 1) = _; rw [List.length_map]
  rw [this]
end Q
namespace Q
open PySem hiding Env
open L2 M
noncomputable def m_parts_of : MS :=
  (mRet (mPop (mSl (mVar 0) (moS (mC (.int 2))) moN)))
noncomputable def M_parts_of : List R → Store → Out R := mDefV 1 (m_parts_of)
noncomputable def b1_all_ways (g_all_ways : List R → Store → Out R) : MS :=
  (mDrop (mMeth "list" mtExt (mVar 1) (mCons (mCall g_all_ways (mCons (mVar 2) mNil)) mNil)))
noncomputable def m_all_ways (g_parts_of : List R → Store → Out R) (g_all_ways : List R → Store → Out R) : MS :=
  (mSeq (mSet 1 (mLst mNil))
  (mSeq (mFor (srcAny (mCall g_parts_of (mCons (mVar 0) mNil))) (tgN 2) (b1_all_ways g_all_ways))
  (mRet (mPop (mBin opAdd (mVar 1) (mLstV (mCons (mVar 0) mNil)))))))
noncomputable def R_all_ways : Nat → List R → Store → Out R
  | 0 => fun _ _ => .no
  | k + 1 => mDefV 3 (m_all_ways M_parts_of (R_all_ways k))
noncomputable def m_places (g_all_ways : List R → Store → Out R) : MS :=
  (mRet (mCall biTuple (mCons (mPop (mLc (srcAny (mCall g_all_ways (mCons (mVar 0) mNil))) [1] (tgN 1) mtYes (mTup (mCons (mBin opIx (mBin opIx (mVar 1) (mC (.int 0))) (mUn opNeg (mC (.int 1)))) (mCons (mBin opIx (mVar 1) (mC (.int 1))) mNil))))) mNil)))
noncomputable def M_places : List R → Store → Out R := mDefV 2 (m_places (R_all_ways 70))
end Q
namespace M
open PySem PySem.Spec L2
open PyProof.Rows hiding St
def Wy.all : Wy → List Wy
  | .one p d => [.one p d]
  | .two p d a b => a.all ++ b.all ++ [.two p d a b]
def Wy.hgt : Wy → Nat
  | .one _ _ => 0
  | .two _ _ a b => max a.hgt b.hgt + 1
def Wy.plc (y : Wy) : List (Nat × Str) := y.all.map fun w => (w.p.getLastD 0, w.dd)
def plD (x : Nat × Str) : D := .tup [natD x.1, .str x.2]
theorem way_shape {g : Gr} : ∀ {t : T} {y : Wy}, wayN g t y = true → y.all.length = t.cnt ∧ y.hgt = t.depth
  | t, .one p d, h => by obtain ⟨w, rfl, _⟩ := way_inv1 h; exact ⟨rfl, rfl⟩
  | t, .two p d a b, h => by
    obtain ⟨l, r, rfl, _, h1, h2, _⟩ := way_inv2 h
    obtain ⟨a1, a2⟩ := way_shape h1
    obtain ⟨b1, b2⟩ := way_shape h2
    refine ⟨by simp [Wy.all, T.cnt, a1, b1]; omega, by simp [Wy.hgt, T.depth, a2, b2]⟩
def Wy.kids : Wy → List Wy
  | .one _ _ => []
  | .two _ _ a b => [a, b]
theorem Wy.all_eq (y : Wy) : y.all = y.kids.flatMap Wy.all ++ [y] := by cases y <;> simp [Wy.all, Wy.kids]
theorem Wy.rest_eq (y : Wy) : y.rest = .str y.dd :: y.kids.map Wy.d := by cases y <;> rfl
theorem Wy.d_eq2 (y : Wy) : y.d = .tup (pD y.p :: .str y.dd :: y.kids.map Wy.d) := by rw [Wy.d_eq, Wy.rest_eq]
theorem Wy.kids_hgt {y k : Wy} (h : k ∈ y.kids) : k.hgt < y.hgt := by
  cases y with
  | one p d => simp [Wy.kids] at h
  | two p d a b =>
    simp only [Wy.kids, List.mem_cons, List.not_mem_nil, or_false] at h
    simp only [Wy.hgt]
    rcases h with rfl | rfl <;> omega
theorem way_all {g : Gr} : ∀ {t : T} {y : Wy}, wayN g t y = true → ∀ w ∈ y.all, pathN g w.p = true ∧ strOkB w.dd = true
  | t, .one p d, h, w, hw => by
    obtain ⟨x, rfl, h1, rfl, _⟩ := way_inv1 h
    simp [Wy.all] at hw; subst hw
    exact ⟨h1, by show strOkB "found" = true; decide +kernel⟩
  | t, .two p d a b, h, w, hw => by
    obtain ⟨l, r, rfl, h1, h2, h3, h4⟩ := way_inv2 h
    simp only [Wy.all, List.mem_append, List.mem_singleton] at hw
    rcases hw with (hw | hw) | rfl
    · exact way_all h2 w hw
    · exact way_all h3 w hw
    · exact ⟨h1, by show strOkB d = true; rcases domN_str h4 with rfl | rfl | rfl <;> decide +kernel⟩
section
variable {S S0 S1 x : Store} {n : Nat} {K : Out R → Prop}
theorem popAddR {xs ys : List D} (h : S[n]? = some (.lst (xs.map .v))) (hS : S = S1 ++ x) (hu : Upd S0 S1) (hz : xs.length + ys.length ≤ sizeLine) : wE (opAdd (.ref n) (.v (.lst ys)) S) (kB (fun r S' => popV S0 r S') K) = K (.ok (.v (.lst (xs ++ ys))) S1) := by
  have e : opAdd (.ref n) (.v (.lst ys)) S = .ok (.ref S.length) (S ++ [.lst ((xs ++ ys).map .v)]) := by
    simp only [opAdd, lsOf_lst h]
    rw [if_pos (by rw [List.length_map]; exact hz), List.map_append]
  unfold wE kB
  rw [e, Out.bind_ok, popV_ref (get_len S _ []), set_len, hS, List.append_assoc, cut_app _ hu]
end
end M
namespace Q
open PySem hiding Env
open L2 M
theorem all_ways_spec : ∀ (k : Nat) (y : Wy) (S : Store), y.hgt < k → y.all.length ≤ 100000 → R_all_ways k [.v y.d] S = .ok (.v (.lst (y.all.map Wy.d))) S
  | 0, _, _, h, _ => by omega
  | k + 1, y, S, hh, hl => by
    refine eq_wE ?_
    have hk : ∀ S : Store, M_parts_of [.v y.d] S = .ok (.v (.tup (y.kids.map Wy.d))) S := fun S => by
      refine eq_wE ?_
      rw [Wy.d_eq2]
      simp_arith [M_parts_of, m_parts_of, cutD_drop _ (show (0 : Int) ≤ 2 by decide), show (2 : Int).toNat = 2 from rfl, List.drop_succ_cons, List.drop_zero]
    have hal : y.all.length = (y.kids.flatMap Wy.all).length + 1 := by rw [Wy.all_eq, List.length_append]; rfl
    simp_arith [R_all_ways, m_all_ways, hk]
    refine for_wp [2] (fun i ws U => ∃ a, ws = [a] ∧ U = S ++ [.lst ((((y.kids.take i).flatMap Wy.all).map Wy.d).map .v)]) rfl ⟨_, rfl, rfl⟩ ?_ ?_
    · rintro i d ws U hd ⟨a, rfl, rfl⟩
      rw [List.map_map, List.getElem?_map] at hd
      obtain ⟨z, hz, rfl⟩ := Option.map_eq_some_iff.mp hd
      have hm : z ∈ y.kids := List.mem_of_getElem? hz
      have hi := (List.getElem?_eq_some_iff.mp hz).1
      have hzl : ((y.kids.take i).flatMap Wy.all).length + z.all.length ≤ (y.kids.flatMap Wy.all).length := by
        have e1 : y.kids = y.kids.take i ++ z :: y.kids.drop (i + 1) := by
          have hz' := (List.getElem?_eq_some_iff.mp hz).2
          rw [← hz', ← List.drop_eq_getElem_cons hi, List.take_append_drop]
        have e2 := congrArg (fun L : List Wy => (L.flatMap Wy.all).length) e1
        simp only [List.flatMap_append, List.flatMap_cons, List.length_append] at e2
        omega
      have g0 := get_len S (.lst ((((y.kids.take i).flatMap Wy.all).map Wy.d).map R.v)) []
      have ih := fun S => all_ways_spec k z S (by have := Wy.kids_hgt hm; omega) (by omega)
      simp only [Function.comp_apply]
      have hsz : ((((y.kids.take i).flatMap Wy.all).map Wy.d).map R.v).length + (z.all.map Wy.d).length ≤ sizeLine := sz_of (by rw [List.length_map, List.length_map, List.length_map]; omega)
      simp_arith [b1_all_ways, ih, tyOk_lst g0, mtExt_lst g0 hsz, set_len]
      refine ⟨_, rfl, ?_⟩
      rw [List.take_succ, hz, List.flatMap_append, List.map_append, List.map_append]
      simp
    · rintro ws U ⟨a, rfl, rfl⟩
      rw [List.length_map, List.length_map, List.take_length]
      have g0 := get_len S (.lst (((y.kids.flatMap Wy.all).map Wy.d).map R.v)) []
      simp_arith []
      rw [popAddR g0 (x := []) (by simp) (.refl _) (sz_of (by rw [List.length_map, List.length_cons, List.length_nil]; omega))]
      simp_arith [cut_app']
      rw [Wy.all_eq y, List.map_append]; rfl
theorem places_spec {y : Wy} {S : Store} (hh : y.hgt < 70) (hl : y.all.length ≤ 100000) (hp : ∀ w ∈ y.all, w.p ≠ []) : M_places [.v y.d] S = .ok (.v (.tup (y.plc.map plD))) S := by
  refine eq_wE ?_
  simp_arith [M_places, m_places, all_ways_spec 70 y S hh hl]
  refine lcT_wp y.all (fun w => .v w.d) (fun w => plD (w.p.getLastD 0, w.dd)) (by rw [List.map_map]; rfl) (.refl S) (sz_of (by omega)) ?_ ?_
  · intro w hw acc
    have i0 : ∀ S, opIx (.v w.d) (.v (.int 0)) S = .ok (.v (pD w.p)) S := fun S => by rw [Wy.d_eq2]; exact opIx_t0
    have i1 : ∀ S, opIx (.v w.d) (.v (.int 1)) S = .ok (.v (.str w.dd)) S := fun S => by rw [Wy.d_eq2]; exact opIx_t1
    have il : ∀ S, opIx (.v (pD w.p)) (.v (.int (-1))) S = .ok (.v (natD (w.p.getLastD 0))) S := fun S => opIx_last (hp w hw)
    simp_arith [i0, i1, il]
    rfl
  · simp_arith []
    rw [Wy.plc, List.map_map]; rfl
end Q
namespace Q
open PySem hiding Env
open L2 M
end Q
namespace M
open PySem PySem.Spec L2
open PyProof.Rows hiding St
end M
namespace Q
open PySem hiding Env
open L2 M
end Q
namespace Q
open PySem hiding Env
open L2 M
end Q
namespace M
open PySem PySem.Spec L2
open PyProof.Rows hiding St
theorem pln_plc {L : List (Nat × Str)} (k : Nat) (hl : L.length ≤ 100000) (h : ∀ x ∈ L, strOkB x.2 = true) : Pln (k + 3) (.tup (L.map plD)) := by
  refine ⟨by rw [List.length_map]; exact hl, fun d hd => ?_⟩
  obtain ⟨x, hx, rfl⟩ := List.mem_map.mp hd
  refine ⟨by simp, fun d hd => ?_⟩
  simp only [List.mem_cons, List.not_mem_nil, or_false] at hd
  rcases hd with rfl | rfl
  · trivial
  · exact h x hx
/-- what is asked of a way's nodes -/
structure Wys (y : Wy) : Prop where
  hgt : y.hgt < 70
  len : y.all.length ≤ 100000
  ne : ∀ w ∈ y.all, w.p ≠ [] ∧ strOkB w.dd = true
theorem Wys.of {g : Gr} {t : T} {y : Wy} (h : wayN g t y = true) (hz : t.ls.length ≤ 10) : Wys y := by
  obtain ⟨h1, h2⟩ := way_shape h
  have := t.depth_lt
  have := t.cnt_ls
  exact ⟨by omega, by omega, fun w hw => ⟨(pathN_inv (way_all h w hw).1).1, (way_all h w hw).2⟩⟩
theorem Wys.l {p : List Nat} {d : Str} {a b : Wy} (h : Wys (.two p d a b)) : Wys a := by
  have h1 := h.hgt; have h2 := h.len
  simp only [Wy.hgt] at h1
  simp only [Wy.all, List.length_append] at h2
  exact ⟨by omega, by omega, fun w hw => h.ne w (by simp [Wy.all, hw])⟩
theorem Wys.r {p : List Nat} {d : Str} {a b : Wy} (h : Wys (.two p d a b)) : Wys b := by
  have h1 := h.hgt; have h2 := h.len
  simp only [Wy.hgt] at h1
  simp only [Wy.all, List.length_append] at h2
  exact ⟨by omega, by omega, fun w hw => h.ne w (by simp [Wy.all, hw])⟩
theorem Wys.str {y : Wy} (h : Wys y) : ∀ x ∈ y.plc, strOkB x.2 = true := fun x hx => by
  obtain ⟨w, hw, rfl⟩ := List.mem_map.mp hx
  exact (h.ne w hw).2
end M
namespace Q
open PySem hiding Env
open L2 M
theorem places_wys {y : Wy} {S : Store} (h : Wys y) : M_places [.v y.d] S = .ok (.v (.tup (y.plc.map plD))) S := places_spec h.hgt h.len fun w hw => (h.ne w hw).1
end Q
namespace Q
open PySem hiding Env
open L2 M
noncomputable def m_losses : MS :=
  (mRet (mCall biLen (mCons (mPop (mLc (srcAny (mPop (mSl (mVar 1) moN (moS (mUn opNeg (mC (.int 1))))))) [2] (tgN 2) (mtB (mBin opEq (mCall biLen (mCons (mBin opIx (mBin opIx (mVar 0) (mVar 2)) (mC (.int 2))) mNil)) (mC (.int 2)))) (mVar 2))) mNil)))
noncomputable def M_losses : List R → Store → Out R := mDefV 3 (m_losses)
noncomputable def m_counted (g_all_ways : List R → Store → Out R) (g_losses : List R → Store → Out R) : MS :=
  (mSeq (mSet 2 (mCall g_all_ways (mCons (mVar 1) mNil)))
  (mSeq (mSet 3 (mPop (mLc (srcAny (mVar 2)) [4] (tgN 4) mtYes (mBin opIx (mVar 4) (mC (.int 1))))))
  (mRet (mCall biTuple (mCons (mPop (mBin opAdd (mPop (mLc (srcAny (mC (.v (.kt [.str "split", .str "doubled", .str "over"])))) [5] (tgN 5) mtYes (mMeth "list" mtCount (mVar 3) (mCons (mVar 5) mNil)))) (mLstV (mCons (mCall biSum (mCons (mPop (mLc (srcAny (mVar 2)) [4] (tgN 4) mtYes (mCall g_losses (mCons (mVar 0) (mCons (mBin opIx (mVar 4) (mC (.int 0))) mNil))))) mNil)) mNil)))) mNil)))))
noncomputable def M_counted : List R → Store → Out R := mDefV 6 (m_counted (R_all_ways 70) M_losses)
end Q
namespace M
open PySem PySem.Spec L2
open PyProof.Rows hiding St
def lossN (g : Gr) (p : List Nat) : Nat := (p.dropLast.filter fun s => decide ((atG g s).un.length = 2)).length
def cntD (L : List Wy) (d : Str) : Nat := (L.map Wy.dd).count d
def lostN (g : Gr) (L : List Wy) : Nat := (L.map fun w => lossN g w.p).sum
def cntL (g : Gr) (y : Wy) : List Nat := [cntD y.all "split", cntD y.all "doubled", cntD y.all "over", lostN g y.all]
section
variable {S : Store} {K : Out R → Prop}
theorem mtCount_strs {L : List Str} {d : Str} (hL : ∀ x ∈ L, strOkB x = true) (hd : strOkB d = true) : mtCount (.v (.lst (L.map D.str))) [.v (.str d)] S = .ok (.v (.int (L.count d : Nat))) S := by
  have n1 : Nic 1 (.lst (L.map D.str)) := by
    show ∀ x ∈ L.map D.str, Nic 0 x
    intro x hx
    obtain ⟨y, hy, rfl⟩ := List.mem_map.mp hx
    exact hL y hy
  obtain ⟨p, e1, e2⟩ := nic_pyS n1 (by decide)
  obtain ⟨q, f1, f2⟩ := nic_pyS (show Nic 0 (.str d) from hd) (by decide)
  cases f2
  have ep : p = .list (L.map PyData.str) := by
    have hs : D.pys (L.map D.str) = some (L.map PyData.str) := by
      clear hL n1 e1 e2
      induction L with
      | nil => rfl
      | cons a L ih => simp [D.pys, D.py, ih]
    have : D.py (.lst (L.map D.str)) = some (.list (L.map PyData.str)) := by simp [D.py, hs]
    rw [this] at e2; exact (Option.some.inj e2).symm
  subst ep
  simp only [mtCount, pyOf_v, e1, f1]
  rw [List.countP_map]
  have : (fun z => PyData.eqv z (.str d)) ∘ PyData.str = fun x => x == d := by funext x; simp [PyData.eqv]
  rw [this]
  rfl
end
end M
namespace Q
open PySem hiding Env
open L2 M
theorem slpD (S : Store) (p : List Nat) (lo hi : Option Int) : opSl (.v (pD p)) lo hi S = .ok (.v (pD (cutD p lo hi))) S := by
  rw [pD, opSl_tup, cutD_map]; rfl
theorem losses_spec {g : Gr} {p : List Nat} {S : Store} (hp : ∀ x ∈ p, x < g.length) (hl : p.length ≤ 100000) : M_losses [.v (grD g), .v (pD p)] S = .ok (.v (.int (lossN g p : Nat))) S := by
  refine eq_wE ?_
  have hsl : ∀ S, opSl (.v (pD p)) none (some (-1)) S = .ok (.v (pD p.dropLast)) S := fun S => by
    rw [slpD]
    congr 3
    unfold cutD
    cases p with
    | nil => rfl
    | cons a p =>
      have e1 : HT.sIx (a :: p).length 0 none = 0 := rfl
      have e2 : HT.sIx (a :: p).length (a :: p).length (some (-1)) = p.length := by
        simp [HT.sIx]; omega
      rw [e1, e2, List.drop_zero, Nat.sub_zero, List.dropLast_eq_take]; rfl
  simp_arith [M_losses, m_losses, hsl]
  simp only [pD]
  simp_arith []
  refine lc_wp p.dropLast (fun x => .v (.int (x : Int))) (fun s => decide ((atG g s).un.length = 2)) natD (by rw [List.map_map]; rfl) (.refl S) (sz_of (by rw [List.length_dropLast]; omega)) ?_ ?_
  · intro x hx acc
    have hi := hp x (List.dropLast_subset p hx)
    have e2 : (((atG g x).un.length : Int) == 2) = decide ((atG g x).un.length = 2) := beq_nat _ 2
    simp_arith [opIx_gr hi, Sty.d, List.length_map, e2]
    exact fun _ => rfl
  · simp_arith [List.length_map]
    rfl
theorem counted_spec {g : Gr} {t : T} {y : Wy} {S : Store} (G : Grd g) (hy : wayN g t y = true) (Y : Wys y) : M_counted [.v (grD g), .v y.d] S = .ok (.v (pD (cntL g y))) S := by
  have o1 : strOkB "doubled" = true := by decide +kernel
  have o2 : strOkB "split" = true := by decide +kernel
  have o3 : strOkB "over" = true := by decide +kernel
  refine eq_wE ?_
  have hl := Y.len
  simp_arith [M_counted, m_counted, all_ways_spec 70 y S Y.hgt Y.len]
  refine lcT_wp y.all (fun w => .v w.d) (fun w => .str w.dd) (by rw [List.map_map]; rfl) (.refl S) (sz_of (by omega)) ?_ ?_
  · intro w hw acc
    have i1 : ∀ S, opIx (.v w.d) (.v (.int 1)) S = .ok (.v (.str w.dd)) S := fun S => by rw [Wy.d_eq2]; exact opIx_t1
    simp_arith [i1]
  have ed : (y.all.map fun w => D.str w.dd) = (y.all.map Wy.dd).map D.str := by rw [List.map_map]; rfl
  rw [ed]
  simp_arith []
  have hc : ∀ (d : Str) (S : Store), strOkB d = true → mtCount (.v (.lst ((y.all.map Wy.dd).map D.str))) [.v (.str d)] S = .ok (.v (.int (cntD y.all d : Nat))) S := fun d S hd => mtCount_strs (fun x hx => by
    obtain ⟨w, hw, rfl⟩ := List.mem_map.mp hx
    exact (Y.ne w hw).2) hd
  refine lcT_wp [("split" : Str), "doubled", "over"] (fun d => .v (.str d)) (fun d => natD (cntD y.all d)) rfl (.refl S) (sz_of (by simp)) ?_ ?_
  · intro d hd acc
    have od : strOkB d = true := by
      simp only [List.mem_cons, List.not_mem_nil, or_false] at hd
      rcases hd with rfl | rfl | rfl <;> assumption
    simp_arith [show ∀ (S : Store) (ds : List D), tyOk "list" S (.v (.lst ds)) = true from fun _ _ => tyOk_lstV .., hc d _ od]
    rfl
  simp_arith []
  refine lcT_wp y.all (fun w => .v w.d) (fun w => .int (lossN g w.p : Nat)) (by rw [List.map_map]; rfl) (.refl S) (sz_of (by omega)) ?_ ?_
  · intro w hw acc
    have i0 : ∀ S, opIx (.v w.d) (.v (.int 0)) S = .ok (.v (pD w.p)) S := fun S => by rw [Wy.d_eq2]; exact opIx_t0
    have hpn := (way_all hy w hw).1
    simp_arith [i0, losses_spec (pathN_inv hpn).2.1 (show w.p.length ≤ 100000 by have := path_len G hpn; omega)]
  have es : (y.all.map fun w => D.int (lossN g w.p : Nat)) = (y.all.map fun w => (lossN g w.p : Int)).map .int := by rw [List.map_map]; rfl
  have e2 : (y.all.map fun w => (lossN g w.p : Int)).sum = (lostN g y.all : Int) := by
    unfold lostN
    induction y.all with
    | nil => rfl
    | cons w L ih => rw [List.map_cons, List.sum_cons, ih, List.map_cons, List.sum_cons]; omega
  simp_arith [es, biSum_lst, e2]
  rw [popAdd_eq (sz_of (by simp))]
  simp_arith []
  rfl
end Q
namespace Q
open PySem hiding Env
open L2 M
end Q
namespace M
open PySem PySem.Spec L2
open PyProof.Rows hiding St
/-- all nodes: paths not empty, short -/
def Wy.Vd (y : Wy) : Prop := ∀ w ∈ y.all, w.p ≠ [] ∧ w.p.length ≤ 1000 ∧ strOkB w.dd = true
theorem Vd.of {g : Gr} (G : Grd g) {t : T} {y : Wy} (h : wayN g t y = true) : y.Vd := fun w hw => by
  obtain ⟨h1, h2⟩ := way_all h w hw
  exact ⟨(pathN_inv h1).1, path_len G h1, h2⟩
theorem Vd.l {p : List Nat} {d : Str} {a b : Wy} (h : (Wy.two p d a b).Vd) : a.Vd := fun w hw => h w (by simp [Wy.all, hw])
theorem Vd.r {p : List Nat} {d : Str} {a b : Wy} (h : (Wy.two p d a b).Vd) : b.Vd := fun w hw => h w (by simp [Wy.all, hw])
theorem Vd.self {y : Wy} (h : y.Vd) : y.p ≠ [] ∧ y.p.length ≤ 1000 ∧ strOkB y.dd = true := h y (by cases y <;> simp [Wy.all])
theorem Vd.ok : ∀ {y : Wy}, y.Vd → y.Ok
  | .one p d, h => ⟨by have := (Vd.self h).2.1; simp only [Wy.p] at this; omega, (Vd.self h).2.2⟩
  | .two p d a b, h => ⟨by have := (Vd.self h).2.1; simp only [Wy.p] at this; omega, (Vd.self h).2.2, Vd.ok (Vd.l h), Vd.ok (Vd.r h)⟩
end M
namespace Q
open PySem hiding Env
open L2 M
end Q
namespace M
open PySem hiding Env
open L2
end M
namespace M
open PySem PySem.Spec L2
open PyProof.Rows hiding St
end M
namespace Q
open PySem hiding Env
open L2 M
end Q
namespace Q
open PySem hiding Env
open L2 M
end Q
namespace M
open PySem PySem.Spec L2
open PyProof.Rows hiding St
theorem filt_uniq {α : Type} {p : α → Bool} {x : α} (hp : p x = true) : ∀ {L : List α} {i j : Nat}, (L.filter p).Nodup → L[i]? = some x → L[j]? = some x → i = j
  | [], i, j, _, h, _ => by simp at h
  | a :: L, 0, 0, _, _, _ => rfl
  | a :: L, 0, j + 1, hn, h1, h2 => by
    simp at h1 h2
    subst h1
    rw [List.filter_cons_of_pos hp, List.nodup_cons] at hn
    exact absurd (List.mem_filter.mpr ⟨List.mem_of_getElem? h2, hp⟩) hn.1
  | a :: L, i + 1, 0, hn, h1, h2 => by
    simp at h1 h2
    subst h2
    rw [List.filter_cons_of_pos hp, List.nodup_cons] at hn
    exact absurd (List.mem_filter.mpr ⟨List.mem_of_getElem? h1, hp⟩) hn.1
  | a :: L, i + 1, j + 1, hn, h1, h2 => by
    simp at h1 h2
    have : (L.filter p).Nodup := by
      by_cases q : p a = true
      · rw [List.filter_cons_of_pos q, List.nodup_cons] at hn; exact hn.2
      · rwa [List.filter_cons_of_neg q] at hn
    rw [filt_uniq hp this h1 h2]
theorem word_uniq {t : T} (hn : t.ls.Nodup) {i j : Nat} {w : Str} (h1 : t.nodes[i]? = some (.str w)) (h2 : t.nodes[j]? = some (.str w)) : i = j := by
  refine filt_uniq (p := isStr) rfl ?_ h1 h2
  rw [T.nodes, Q.T_leaves_nodes, List.nodup_iff_pairwise_ne, List.pairwise_map]
  exact (List.nodup_iff_pairwise_ne.mp hn).imp fun h e => h (by cases e; rfl)
theorem nic_nodes {t : T} (ho : t.Ok) : ∀ d ∈ t.nodes, Nic 1 d := fun d hd => by
  obtain ⟨i, hi, e⟩ := List.getElem_of_mem hd
  have hg : t.nodes[i]? = some d := by rw [List.getElem?_eq_getElem hi, e]
  rcases t.node_cases hg with ⟨w, rfl⟩ | ⟨a, b, rfl, _, _⟩
  · have hm : D.str w ∈ t.nodes.filter isStr := List.mem_filter.mpr ⟨hd, rfl⟩
    rw [T.nodes, Q.T_leaves_nodes] at hm
    obtain ⟨w', hw', e'⟩ := List.mem_map.mp hm
    cases e'
    exact (ho w hw').ok
  · show ∀ x ∈ [natD a, natD b], Nic 0 x
    intro x hx
    simp only [List.mem_cons, List.not_mem_nil, or_false] at hx
    rcases hx with rfl | rfl <;> exact nic_nat _ _
theorem pys_all : ∀ {es : List D} {qs : List PyData}, D.pys es = some qs → ∀ i : Nat, (es[i]?).bind D.py = qs[i]?
  | [], qs, h, i => by cases h; simp
  | e :: es, qs, h, i => by
    simp only [D.pys, Option.bind_eq_some_iff] at h
    obtain ⟨q, a1, qs', a2, a3⟩ := h
    cases a3
    cases i with
    | zero => simp [a1]
    | succ i => simpa using pys_all a2 i
theorem mtIndex_nic {S : Store} {r : R} {es : List D} {d : D} {j : Nat} (k : Nat) (hr : view S r = some (.lst es)) (h1 : Nic k d) (h2 : ∀ e ∈ es, Nic k e) (hk : k + 1 ≤ 60) (hj : es[j]? = some d) (hf : ∀ i, es[i]? = some d → i = j) : mtIndex r [.v d] S = .ok (.v (.int (j : Nat))) S := by
  obtain ⟨p, e1, e2⟩ := nic_pyS h1 (by omega)
  obtain ⟨q, f1, f2⟩ := nic_pyS (k := k + 1) (d := .lst es) h2 hk
  obtain ⟨qs, f3, rfl⟩ := Option.map_eq_some_iff.mp (show (D.pys es).map PyData.list = some q from f2)
  have hpr : pyOf S r = some (.list qs) := by simp [pyOf, hr, f1]
  have hfi : qs.findIdx? (fun z => PyData.eqv z p) = some j := by
    rw [List.findIdx?_eq_some_iff_getElem]
    have hjq : qs[j]? = some p := by rw [← pys_all f3 j, hj]; exact e2
    obtain ⟨hjl, hjv⟩ := List.getElem?_eq_some_iff.mp hjq
    refine ⟨hjl, by rw [hjv]; exact (nic_eqv k d d p p h1 h1 e2 e2).mpr rfl, fun i hi => ?_⟩
    have hil : i < qs.length := by omega
    have hiq := pys_all f3 i
    rw [List.getElem?_eq_getElem hil] at hiq
    obtain ⟨e, he, hep⟩ := Option.bind_eq_some_iff.mp hiq
    cases hq : PyData.eqv qs[i] p with
    | false => simp
    | true =>
      have := (nic_eqv k e d qs[i] p (h2 e (List.mem_of_getElem? he)) h1 hep e2).mp hq
      subst this
      have := hf i he
      omega
  simp only [mtIndex, hpr, pyOf_v, e1, hfi]
end M
namespace Q
open PySem hiding Env
open L2 M
end Q
namespace Q
open PySem hiding Env
open L2 M
end Q
namespace M
open PySem PySem.Spec L2
end M
namespace Q
open PySem hiding Env
open L2 M
end Q
namespace Q
open PySem hiding Env
open L2 M
def one (r : Nat → Nat) (l : Nat) (x : Option Nat) : Nat := match x with
  | none => 0
  | some p => if r p ≤ l then 1 else 0
theorem zipIdx_range {α : Type} (L : List α) (d : α) : L.zipIdx 0 = (List.range L.length).map fun i => (L.getD i d, i) := by
  refine List.ext_getElem (by simp) fun i h1 h2 => ?_
  simp only [List.length_zipIdx] at h1
  rw [List.getElem_zipIdx, List.getElem_map, List.getElem_range, List.getD_eq_getElem?_getD, List.getElem?_eq_getElem h1]
  simp
end Q
namespace Q
open PySem hiding Env
open L2 M
end Q
namespace Q
open PySem hiding Env
open L2 M
def pairDn (p : Nat × Nat) : D := .tup [.int (p.1 : Int), .int (p.2 : Int)]
def pairPy (p : Nat × Nat) : PyData := .tuple [.int (p.1 : Int), .int (p.2 : Int)]
theorem pys_pairs : ∀ L : List (Nat × Nat), D.pys (L.map pairDn) = some (L.map pairPy)
  | [] => rfl
  | p :: L => by simp [D.pys, pairDn, D.py, pairPy, pys_pairs L]
theorem lay_pairs : ∀ L : List (Nat × Nat), PyData.canLayAll0 (L.map pairPy) = true ∧ PyData.depthAll (L.map pairPy) ≤ 1
  | [] => ⟨by simp [PyData.canLayAll0], by simp [PyData.depthAll]⟩
  | p :: L => by
    obtain ⟨h1, h2⟩ := lay_pairs L
    refine ⟨by simp [PyData.canLayAll0, PyData.canLay0, pairPy, h1], ?_⟩
    simp only [List.map_cons, PyData.depthAll, pairPy, PyData.depth]
    omega
theorem pyS_pairs (L : List (Nat × Nat)) : D.pyS (.lst (L.map pairDn)) = some (.list (L.map pairPy)) := by
  obtain ⟨h1, h2⟩ := lay_pairs L
  simp [D.pyS, D.py, pys_pairs, SeqAt.shaped, PyData.canLay0, PyData.depth, h1]; omega
theorem pyS_pair (p : Nat × Nat) : D.pyS (pairDn p) = some (pairPy p) := by
  simp [D.pyS, pairDn, D.py, D.pys, pairPy, SeqAt.shaped, PyData.canLay0, PyData.canLayAll0, PyData.depth, PyData.depthAll]
theorem eqv_pair (p q : Nat × Nat) : PyData.eqv (pairPy p) (pairPy q) = decide (p = q) := by
  simp only [pairPy, PyData.eqv, PyData.eqvAll]
  by_cases h : p = q
  · subst h; simp
  · rw [decide_eq_false h]
    have : ¬ (p.1 = q.1 ∧ p.2 = q.2) := fun z => h (Prod.ext z.1 z.2)
    by_cases h1 : p.1 = q.1
    · have h2 : ¬ p.2 = q.2 := fun z => this ⟨h1, z⟩
      simp [h1]; omega
    · simp; omega
theorem mtIndex_pairs {L : List (Nat × Nat)} {p : Nat × Nat} {S : Store} (h : p ∈ L) : mtIndex (.v (.lst (L.map pairDn))) [.v (pairDn p)] S = .ok (.v (.int (L.idxOf p : Int))) S := by
  have e : (L.map pairPy).findIdx? (fun z => PyData.eqv z (pairPy p)) = some (L.idxOf p) := by
    induction L with
    | nil => simp at h
    | cons n ns ih =>
      rw [List.map_cons, List.findIdx?_cons, eqv_pair, List.idxOf_cons]
      by_cases hn : n = p
      · simp [hn]
      · have hm : p ∈ ns := by simpa [Ne.symm hn] using h
        simp [hn, ih hm, show (n == p) = false by simpa using hn]
  simp only [mtIndex, pyOf_v, pyS_pairs, pyS_pair, e]
end Q
namespace Q
open PySem hiding Env
open L2 M
end Q
namespace Q
open PySem hiding Env
open L2 M
open PySem.Spec
theorem range_getD {α : Type} (L : List α) (d : α) : (List.range L.length).map (fun j => L.getD j d) = L := by
  refine List.ext_getElem (by simp) fun i h1 h2 => ?_
  rw [List.getElem_map, List.getElem_range, List.getD_eq_getElem?_getD, List.getElem?_eq_getElem h2]; rfl
def newW (w : Str) : Str := Str.ofString "w" ++ cutS w none (some 7)
theorem newW_ok {w : Str} (h : GoodW w) : GoodW (newW w) := by
  obtain ⟨h1, h2, h3⟩ := h
  have e := cutS_cps w none (some 7)
  have l7 : (cutD w.cps.toList none (some 7)).length ≤ 7 := by
    unfold cutD
    rw [List.length_take]
    have : HT.sIx w.cps.toList.length w.cps.toList.length (some 7) ≤ 7 := by
      have := HT.sIx_nat w.cps.toList.length w.cps.toList.length 7
      rw [show ((7 : Nat) : Int) = 7 from rfl] at this
      rw [this]; omega
    omega
  have ll : (cutS w none (some 7)).length ≤ 7 := by
    rw [str_len, ← Array.length_toList, e]; exact l7
  refine ⟨?_, ?_, ?_⟩
  · unfold newW; rw [str_len_append]; have : (Str.ofString "w").length = 1 := rfl; omega
  · unfold newW; rw [str_len_append]; have : (Str.ofString "w").length = 1 := rfl; omega
  · unfold newW
    intro c hc
    rw [cps_app] at hc
    rcases List.mem_append.mp hc with q | q
    · have : (Str.ofString "w").cps.toList = [119] := rfl
      rw [this] at q
      simp at q
      omega
    · rw [e] at q
      unfold cutD at q
      exact h3 c (List.mem_of_mem_drop (List.mem_of_mem_take q))
end Q
namespace M
open PySem PySem.Spec L2
open PyProof.Rows hiding St
def c3 (x y z : Int) : MO := .lst [.v (.int x), .v (.int y), .v (.int z)]
theorem perm_getElem {α : Type} : ∀ {l : List α} {i : Nat} {x : α}, l[i]? = some x → l.Perm (x :: l.eraseIdx i)
  | [], i, x, h => by simp at h
  | a :: l, 0, x, h => by simp at h; subst h; exact .refl _
  | a :: l, i + 1, x, h => by
    rw [List.getElem?_cons_succ] at h
    exact ((perm_getElem h).cons a).trans (.swap _ _ _)
end M
namespace Q
open PySem hiding Env
open L2 M
end Q
namespace M
open PySem PySem.Spec L2
open PyProof.Rows hiding St
def oadd : Option Int → Option Int → Option Int
  | some a, some b => some (a + b)
  | _, _ => none
def entD : Option Int → D
  | none => .non
  | some i => .int i
def leastO (l : List (Option Int)) : Option Int := if l.filterMap id = [] then none else some (minL (l.filterMap id))
/-- prices: split, doubled, over, lost -/
structure Prc where
  sp : Int
  db : Int
  ov : Int
  ls : Int
def Prc.d (p : Prc) : D := .tup [.int p.sp, .int p.db, .int p.ov, .int p.ls]
def Prc.of (p : Prc) (w : Str) : Int := if w = "split" then p.sp else if w = "doubled" then p.db else if w = "over" then p.ov else if w = "lost" then p.ls else 0
theorem Prc.of_split (p : Prc) : p.of "split" = p.sp := rfl
theorem Prc.of_doubled (p : Prc) : p.of "doubled" = p.db := by unfold Prc.of; rw [if_neg (by decide +kernel), if_pos rfl]
theorem Prc.of_over (p : Prc) : p.of "over" = p.ov := by unfold Prc.of; rw [if_neg (by decide +kernel), if_neg (by decide +kernel), if_pos rfl]
theorem Prc.of_lost (p : Prc) : p.of "lost" = p.ls := by unfold Prc.of; rw [if_neg (by decide +kernel), if_neg (by decide +kernel), if_neg (by decide +kernel), if_pos rfl]
theorem Prc.of_found (p : Prc) : p.of "found" = 0 := by unfold Prc.of; rw [if_neg (by decide +kernel), if_neg (by decide +kernel), if_neg (by decide +kernel), if_neg (by decide +kernel)]
theorem Prc.of_on (p : Prc) : p.of "on" = 0 := by unfold Prc.of; rw [if_neg (by decide +kernel), if_neg (by decide +kernel), if_neg (by decide +kernel), if_neg (by decide +kernel)]
/-- the words that price_of is asked of -/
def kwd (w : Str) : Prop := w = "split" ∨ w = "doubled" ∨ w = "over" ∨ w = "lost" ∨ w = "found" ∨ w = "on"
def rowC (g : Gr) (st : Nat → Int) (dd : Nat → List (Option Int)) : Nat → List (Option Int)
  | 0 => []
  | n + 1 => rowC g st dd n ++ [leastO (dd n ++ (atG g n).un.map fun b => oadd (some (st n)) ((rowC g st dd n).getD b none))]
def colC (g : Gr) (st : Nat → Int) (dd : Nat → List (Option Int)) (x : Nat) : Option Int := (rowC g st dd (x + 1)).getD x none
def stC (g : Gr) (pr : Prc) (x : Nat) : Int := if (atG g x).un.length = 2 then pr.ls else 0
/-- what a deed comes to by the columns of both -/
def dedC (g : Gr) (pr : Prc) (f h : Nat → Option Int) (x : Nat) : List (Option Int) := (ddsN g x).map fun d => oadd (oadd (some (pr.of d.1)) (f d.2.1)) (h d.2.2)
/-- the least that a way of a tree costs from a stay on -/
def E (g : Gr) (pr : Prc) : T → Nat → Option Int
  | .leaf w => colC g (stC g pr) fun x => if fndN g x w = true then [some 0] else []
  | .node l r => colC g (stC g pr) fun x => dedC g pr (E g pr l) (E g pr r) x
/-- by the number of a node -/
def entI (g : Gr) (pr : Prc) (t0 : T) (i x : Nat) : Option Int := match t0.subs[i]? with
  | some s => E g pr s x
  | none => none
def rowI (g : Gr) (pr : Prc) (t0 : T) (i : Nat) : List D := (List.range g.length).map fun x => entD (entI g pr t0 i x)
def tabD (g : Gr) (pr : Prc) (t0 : T) : D := .tup ((List.range t0.cnt).map fun i => .tup (rowI g pr t0 i))
/-- the numbers of both of a node's -/
theorem sub_kids {t0 l r : T} {i : Nat} (h : t0.subs[i]? = some (.node l r)) : t0.nodes[i]? = some (.tup [natD (chA t0 i), natD (chB t0 i)]) ∧ t0.subs[chA t0 i]? = some l ∧ t0.subs[chB t0 i]? = some r ∧ chA t0 i < i ∧ chB t0 i < i := by
  obtain ⟨a, b, e, ha, hb, la, lb⟩ := T.sub_node h
  have hg : t0.nodes.getD i .non = .tup [natD a, natD b] := by rw [List.getD_eq_getElem?_getD, e]; rfl
  have ea : chA t0 i = a := by unfold chA; rw [hg]; simp [natD]
  have eb : chB t0 i = b := by unfold chB; rw [hg]; simp [natD]
  rw [ea, eb]
  exact ⟨e, ha, hb, la, lb⟩
end M
namespace Q
open PySem hiding Env
open L2 M
end Q
namespace Q
open PySem hiding Env
open L2 M
end Q
namespace M
open PySem PySem.Spec L2
open PyProof.Rows hiding St
end M
namespace Q
open PySem hiding Env
open L2 M
end Q
namespace Q
open PySem hiding Env
open L2 M
end Q
namespace Q
open PySem hiding Env
open L2 M
end Q
namespace Q
open PySem hiding Env
open L2 M
end Q
namespace M
open PySem PySem.Spec L2
open PyProof.Rows hiding St
structure Prc.Ok (p : Prc) : Prop where
  sp : 0 ≤ p.sp ∧ p.sp ≤ 10 ^ 30
  db : 0 ≤ p.db ∧ p.db ≤ 10 ^ 30
  ov : 0 ≤ p.ov ∧ p.ov ≤ 10 ^ 30
  ls : 0 ≤ p.ls ∧ p.ls ≤ 10 ^ 30
/-- a small tree of some words -/
structure Smw (ws : List Str) (s : T) : Prop where
  ok : s.Ok
  sub : ∀ w ∈ s.ls, w ∈ ws
  len : s.ls.length ≤ 10
theorem Smw.depth {ws : List Str} {s : T} (h : Smw ws s) : s.depth < 60 := by have := s.depth_lt; have := h.len; omega
end M
namespace Q
open PySem hiding Env
open L2 M
section
variable {b n : Nat} {S : Store} {K : Out R → Prop}
/-- a ground, a small tree, prices -/
structure Cas (t : T) (g : Gr) (s : T) : Prop where
  ok : t.Ok
  nd : t.ls.Nodup
  len : t.ls.length ≤ 8
  gr : GrOf t g
  sok : s.Ok
  sub : ∀ w ∈ s.ls, w ∈ t.ls
  slen : s.ls.length ≤ 10
theorem Cas.depth {t : T} {g : Gr} {s : T} (h : Cas t g s) : s.depth < 60 := by have := s.depth_lt; have := h.slen; omega
end
end Q
namespace M
open PySem PySem.Spec L2
open PyProof.Rows hiding St
end M
namespace Q
open PySem hiding Env
open L2 M
end Q
namespace M
open PySem PySem.Spec L2
open PyProof.Rows hiding St
def nk (i x : Nat) : List Key := [.inl (i : Int), .inl (x : Int)]
theorem nk_inj {i x j y : Nat} (h : nk i x = nk j y) : i = j ∧ x = y := by
  simp only [nk, List.cons.injEq, Sum.inl.injEq, and_true] at h
  omega
end M
namespace Q
open PySem hiding Env
open L2 M
theorem opNe_ints {S : Store} (L : List Int) : opNe (.v (.lst (L.map D.int))) (.v (.lst [])) S = .ok (.v (.bl (!L.isEmpty))) S :=
  (opEq_nic (b := L.isEmpty) 1 (show Nic 1 (.lst (L.map D.int)) from fun d hd => by obtain ⟨x, _, rfl⟩ := List.mem_map.mp hd; exact trivial) (show Nic 1 (.lst []) from fun d hd => by simp at hd) (by decide) (by cases L <;> simp)).2
end Q
namespace Q
open PySem hiding Env
open L2 M
end Q
namespace M
open PySem PySem.Spec L2
open PyProof.Rows hiding St
theorem kwd_of {P : Str → Prop} (h1 : P "split") (h2 : P "doubled") (h3 : P "over") (h4 : P "lost") (h5 : P "found") (h6 : P "on") : ∀ w, kwd w → P w := by
  rintro w (rfl | rfl | rfl | rfl | rfl | rfl) <;> assumption
end M
namespace Q
open PySem hiding Env
open L2 M
end Q
namespace M
open PySem PySem.Spec L2
open PyProof.Rows hiding St
def costW (g : Gr) (pr : Prc) : Wy → Int
  | .one p d => pr.ls * (lossN g p : Nat) + pr.of d
  | .two p d a b => pr.ls * (lossN g p : Nat) + (pr.of d + costW g pr a + costW g pr b)
theorem pathN_cons {g : Gr} {x b : Nat} {q : List Nat} : pathN g (x :: b :: q) = true ↔ x < g.length ∧ b ∈ (atG g x).un ∧ pathN g (b :: q) = true := by
  simp [pathN, and_assoc]
  intro _
  constructor
  · rintro ⟨h2, h3, h4, h5⟩; exact ⟨h4, h2, h3, h5⟩
  · rintro ⟨h4, h2, h3, h5⟩; exact ⟨h2, h3, h4, h5⟩
theorem pathN_one {g : Gr} {x : Nat} : pathN g [x] = true ↔ x < g.length := by simp [pathN]
theorem way_inv1' {g : Gr} {t : T} {p : List Nat} {d : Str} (h : wayN g t (.one p d) = true) : ∃ w, t = .leaf w ∧ pathN g p = true ∧ d = "found" ∧ fndN g (p.getLastD 0) w = true := by
  cases t with
  | node l r => cases h
  | leaf w =>
    simp only [wayN, Bool.and_eq_true, decide_eq_true_eq] at h
    exact ⟨w, rfl, h.1, h.2.1, h.2.2⟩
theorem way_inv2' {g : Gr} {t : T} {p : List Nat} {d : Str} {a b : Wy} (h : wayN g t (.two p d a b) = true) : ∃ l r, t = .node l r ∧ pathN g p = true ∧ wayN g l a = true ∧ wayN g r b = true ∧ domN g (p.getLastD 0) d (a.p.headD 0) (b.p.headD 0) = true := by
  cases t with
  | leaf w => cases h
  | node l r =>
    simp only [wayN, Bool.and_eq_true] at h
    exact ⟨l, r, rfl, h.1, h.2.1, h.2.2.1, h.2.2.2⟩
theorem way_head {g : Gr} {t : T} {y : Wy} (h : wayN g t y = true) : y.p.headD 0 < g.length ∧ y.p ≠ [] := by
  have hp : pathN g y.p = true := by
    cases y with
    | one p d => obtain ⟨_, _, h1, _⟩ := way_inv1' h; exact h1
    | two p d a b => obtain ⟨_, _, _, h1, _⟩ := way_inv2' h; exact h1
  obtain ⟨h1, h2, _⟩ := pathN_inv hp
  refine ⟨?_, h1⟩
  match hy : y.p, h1, h2 with
  | x :: q, _, h2 => exact h2 x (by simp)
structure LWy (g : Gr) (pr : Prc) (t : T) (x : Nat) (y : Wy) : Prop where
  way : wayN g t y = true
  head : y.p.headD 0 = x
  cost : E g pr t x = some (costW g pr y)
/-- one more stay ahead -/
def Wy.up (x : Nat) : Wy → Wy
  | .one p d => .one (x :: p) d
  | .two p d a b => .two (x :: p) d a b
mutual
def Wy.P : Wy → PyData
  | .one p d => .tuple [.tuple (p.map fun i : Nat => PyData.int (i : Int)), .str d]
  | .two p d a b => .tuple [.tuple (p.map fun i : Nat => PyData.int (i : Int)), .str d, a.P, b.P]
end
theorem ints_py : ∀ p : List Nat, D.pys (p.map natD) = some (p.map fun i : Nat => PyData.int (i : Int))
  | [] => rfl
  | a :: p => by simp only [List.map_cons, D.pys, ints_py p]; rfl
theorem Wy.py : ∀ y : Wy, y.d.py = some y.P
  | .one p d => by
    show (D.pys [pD p, .str d]).map PyData.tuple = _
    simp only [D.pys, pD, D.py, ints_py p]
    simp [Wy.P]
  | .two p d a b => by
    show (D.pys [pD p, .str d, a.d, b.d]).map PyData.tuple = _
    simp only [D.pys, pD, D.py, ints_py p, Wy.py a, Wy.py b]
    simp [Wy.P]
end M
namespace M
open PySem PySem.Spec L2
open PyProof.Rows hiding St
def opNeNil (d e : R) (S : Store) : Out R := match lstOf S d, lstOf S e with
  | some xs, some [] => .ok (.v (.bl (decide (xs ≠ [])))) S
  | _, _ => .no
@[simp] theorem opNeNil_ref {n : Nat} {xs : List R} {S : Store} (h : S[n]? = some (.lst xs)) : opNeNil (.ref n) (.v (.lst [])) S = .ok (.v (.bl (decide (xs ≠ [])))) S := by
  simp [opNeNil, lstOf, lsOf_lst h]
end M
namespace M
open PySem PySem.Spec PySem.W L2
open PyProof.Rows hiding St
end M
namespace M
open PySem PySem.Spec PySem.W L2
open PyProof.Rows hiding St
section
variable {prog : Program} {w : World} {A : Around} {E : Value → Shared → Prop} {s : Shared}
/-- what list(t) lays ahead of a sort -/
def laid (h : Heap) (items : Array Value) : Heap := (h.push { cls := .type "list", data := .seq ([] : List Value).toArray }).update h.objs.size (Obj.mapSeq (· ++ items))
end
end M
namespace M
open PySem PySem.Spec L2
open PyProof.Rows hiding St
def wlt (y z : Wy) : Bool := PySem.W.dataLt y.P z.P
/-- the first of the least ways -/
structure LWf (g : Gr) (pr : Prc) (t : T) (x : Nat) (w : Wy) : Prop extends LWy g pr t x w where
  first : ∀ y, LWy g pr t x y → wlt y w = false
end M
namespace Q
open PySem hiding Env
open L2 M
end Q
namespace Q
open PySem hiding Env
open L2 M
def fs_LeastWays (r0 r1 r2 r3 r4 : R) : List (Str × R) := [(("stays_told" : Str), r0), (("nodes_told" : Str), r1), (("prices_told" : Str), r2), (("least_rows" : Str), r3), (("first_ways" : Str), r4)]
end Q
namespace M
open PySem PySem.Spec L2
open PyProof.Rows hiding St
theorem nodup_len {α : Type} [DecidableEq α] : ∀ {L M : List α}, L.Nodup → (∀ x ∈ L, x ∈ M) → L.length ≤ M.length
  | [], _, _, _ => Nat.zero_le _
  | a :: L, M, hn, hs => by
    obtain ⟨h1, h2⟩ := List.nodup_cons.mp hn
    have ha := hs a (by simp)
    have := nodup_len (L := L) (M := M.erase a) h2 fun x hx => (List.mem_erase_of_ne (by rintro rfl; exact h1 hx)).mpr (hs x (by simp [hx]))
    rw [List.length_erase_of_mem ha] at this
    have := List.length_pos_of_mem ha
    simp only [List.length_cons]; omega
theorem valT_mem {kvs : List (List Key × R)} {k : List Key} {v : R} (h : valT kvs k = some v) : (k, v) ∈ kvs := by
  unfold valT at h
  obtain ⟨p, hp, rfl⟩ := Option.map_eq_some_iff.mp h
  have h1 := List.mem_of_find?_eq_some hp
  have h2 := List.find?_some hp
  simp only [decide_eq_true_eq] at h2
  rw [← h2]; exact h1
structure Memo (g : Gr) (pr : Prc) (t0 : T) (kvs : List (List Key × R)) : Prop where
  nd : (kvs.map Prod.fst).Nodup
  el : ∀ kv ∈ kvs, ∃ i x s w, i < t0.cnt ∧ x < g.length ∧ t0.subs[i]? = some s ∧ LWf g pr s x w ∧ kv = (nk i x, .v w.d)
theorem Memo.nil (g : Gr) (pr : Prc) (t0 : T) : Memo g pr t0 [] := ⟨by simp, fun _ h => by cases h⟩
theorem Memo.len {g : Gr} {pr : Prc} {t0 : T} {kvs : List (List Key × R)} (h : Memo g pr t0 kvs) : kvs.length ≤ t0.cnt * g.length := by
  have := nodup_len (L := kvs.map Prod.fst) (M := (List.range t0.cnt).flatMap fun i => (List.range g.length).map fun x => nk i x) h.nd fun k hk => by
    obtain ⟨kv, hkv, rfl⟩ := List.mem_map.mp hk
    obtain ⟨i, x, s, w, hi, hx, _, _, rfl⟩ := h.el kv hkv
    exact List.mem_flatMap.mpr ⟨i, List.mem_range.mpr hi, List.mem_map.mpr ⟨x, List.mem_range.mpr hx, rfl⟩⟩
  have e : ∀ L : List Nat, (L.flatMap fun i => (List.range g.length).map fun x => nk i x).length = L.length * g.length := fun L => by
    induction L with
    | nil => simp
    | cons a L ih => rw [List.flatMap_cons, List.length_append, ih, List.length_map, List.length_range, List.length_cons, Nat.add_mul]; omega
  rw [e, List.length_map, List.length_range] at this
  exact this
theorem Memo.put {g : Gr} {pr : Prc} {t0 s : T} {kvs : List (List Key × R)} (h : Memo g pr t0 kvs) {i x : Nat} {w : Wy} (hi : i < t0.cnt) (hx : x < g.length) (hs : t0.subs[i]? = some s) (hw : LWf g pr s x w) : Memo g pr t0 (putT kvs (nk i x) (.v w.d)) := by
  unfold putT
  split
  · rename_i q
    refine ⟨?_, fun kv hkv => ?_⟩
    · have : (kvs.map fun kv => if kv.1 = nk i x then (kv.1, R.v w.d) else kv).map Prod.fst = kvs.map Prod.fst := by
        rw [List.map_map]
        refine List.map_congr_left fun kv _ => ?_
        simp only [Function.comp_apply]
        split <;> rfl
      rw [this]; exact h.nd
    · obtain ⟨kv', h', rfl⟩ := List.mem_map.mp hkv
      split
      · rename_i e; exact ⟨i, x, s, w, hi, hx, hs, hw, by rw [e]⟩
      · exact h.el kv' h'
  · rename_i q
    refine ⟨?_, fun kv hkv => ?_⟩
    · rw [List.map_append]
      refine List.nodup_append.mpr ⟨h.nd, by simp, fun a ha b hb => ?_⟩
      simp at hb
      subst hb
      rintro rfl
      obtain ⟨kv, hkv, e⟩ := List.mem_map.mp ha
      exact q (List.any_eq_true.mpr ⟨kv, hkv, by simpa using e⟩)
    · rcases List.mem_append.mp hkv with hkv | hkv
      · exact h.el kv hkv
      · simp at hkv; subst hkv; exact ⟨i, x, s, w, hi, hx, hs, hw, rfl⟩
theorem Memo.get {g : Gr} {pr : Prc} {t0 s : T} {kvs : List (List Key × R)} (h : Memo g pr t0 kvs) {i x : Nat} {v : R} (hs : t0.subs[i]? = some s) (hv : valT kvs (nk i x) = some v) : ∃ w, v = .v w.d ∧ LWf g pr s x w := by
  obtain ⟨j, y, s', w, _, _, hs', hw, e⟩ := h.el _ (valT_mem hv)
  have e1 := congrArg Prod.fst e
  have e2 := congrArg Prod.snd e
  obtain ⟨rfl, rfl⟩ := nk_inj e1
  rw [hs] at hs'; cases hs'
  exact ⟨w, e2, hw⟩
theorem Memo.lo {g : Gr} {pr : Prc} {t0 : T} {kvs : List (List Key × R)} (h : Memo g pr t0 kvs) (k : Nat) : (MO.dT kvs).lo k := fun kv hkv => by
  obtain ⟨_, _, _, w, _, _, _, _, rfl⟩ := h.el kv hkv
  trivial
end M
namespace Q
open PySem hiding Env
open L2 M
/-- the object and its memo -/
structure Obj (B : Store) (n d : Nat) (g : Gr) (pr : Prc) (t0 : T) : Prop where
  ins : B[n]? = some (.ins "LeastWays" (fs_LeastWays (.v (grD g)) (.v (.tup t0.nodes)) (.v pr.d) (.v (tabD g pr t0)) (.ref d)))
  ne : n ≠ d
  lt : d < B.length
theorem Obj.app {B : Store} {n d : Nat} {g : Gr} {pr : Prc} {t0 : T} (h : Obj B n d g pr t0) (C : Store) : Obj (B ++ C) n d g pr t0 := ⟨get_app' h.ins C, h.ne, by rw [List.length_append]; have := h.lt; omega⟩
theorem Obj.at {B : Store} {n d : Nat} {g : Gr} {pr : Prc} {t0 : T} (h : Obj B n d g pr t0) (c : MO) (C : Store) : (B.set d c ++ C)[n]? = some (.ins "LeastWays" (fs_LeastWays (.v (grD g)) (.v (.tup t0.nodes)) (.v pr.d) (.v (tabD g pr t0)) (.ref d))) := get_app' (by rw [List.getElem?_set_ne (Ne.symm h.ne)]; exact h.ins) C
end Q
namespace M
open PySem PySem.Spec L2
open PyProof.Rows hiding St
end M
namespace Q
open PySem hiding Env
open L2 M
end Q
namespace Q
open PySem hiding Env
open L2 M
end Q
namespace M
open PySem PySem.Spec L2
open PyProof.Rows hiding St
end M
namespace Q
open PySem hiding Env
open L2 M
end Q
namespace Q
open PySem hiding Env
open L2 M
end Q
namespace M
open PySem PySem.Spec L2
open PyProof.Rows hiding St
end M
namespace Q
open PySem hiding Env
open L2 M
end Q
namespace M
open PySem PySem.Spec L2
open PyProof.Rows hiding St
def Prc.l (p : Prc) : List Int := [p.sp, p.db, p.ov, p.ls]
def Prc.map (f : Int → Int) (p : Prc) : Prc := ⟨f p.sp, f p.db, f p.ov, f p.ls⟩
def Prc.zip (f : Int → Int → Int) (p q : Prc) : Prc := ⟨f p.sp q.sp, f p.db q.db, f p.ov q.ov, f p.ls q.ls⟩
/-- what holds of all prices holds of what any word costs -/
theorem Prc.all {P : Int → Prop} {p : Prc} (h0 : P 0) (h1 : P p.sp) (h2 : P p.db) (h3 : P p.ov) (h4 : P p.ls) : ∀ w, kwd w → P (p.of w) := by
  refine kwd_of ?_ ?_ ?_ ?_ ?_ ?_
  · rw [Prc.of_split]; exact h1
  · rw [Prc.of_doubled]; exact h2
  · rw [Prc.of_over]; exact h3
  · rw [Prc.of_lost]; exact h4
  · rw [Prc.of_found]; exact h0
  · rw [Prc.of_on]; exact h0
end M
namespace Q
open PySem hiding Env
open L2 M
end Q
namespace M
open PySem PySem.Spec L2
open PyProof.Rows hiding St
end M
namespace Q
open PySem hiding Env
open L2 M
end Q
namespace Q
open PySem hiding Env
open L2 M
end Q
namespace M
open PySem PySem.Spec L2
open PyProof.Rows hiding St
end M
namespace Q
open PySem hiding Env
open L2 M
end Q
namespace M
open PySem PySem.Spec L2
open PyProof.Rows hiding St
end M
namespace M
open PySem PySem.Spec L2
open PyProof.Rows hiding St
end M
namespace Q
open PySem hiding Env
open L2 M
end Q
namespace M
open PySem PySem.Spec L2
open PyProof.Rows hiding St
end M
namespace M
open PySem PySem.Spec L2
open PyProof.Rows hiding St
theorem T.sub_cnt : ∀ (t : T) (i : Nat) (u : T), t.subs[i]? = some u → u.cnt ≤ i + 1
  | .leaf w, i, u, h => by
    cases i with
    | zero => cases h; exact Nat.le_refl _
    | succ i => simp [T.subs] at h
  | .node l r, i, u, h => by
    have n1 := l.subs_len
    have n2 := r.subs_len
    simp only [T.subs] at h
    rw [List.append_assoc] at h
    by_cases h1 : i < l.cnt
    · rw [List.getElem?_append_left (by omega)] at h
      exact T.sub_cnt l i u h
    · rw [List.getElem?_append_right (by omega)] at h
      by_cases h2 : i - l.subs.length < r.cnt
      · rw [List.getElem?_append_left (by omega)] at h
        have := T.sub_cnt r _ u h
        omega
      · rw [List.getElem?_append_right (by omega)] at h
        cases q : i - l.subs.length - r.subs.length with
        | zero => rw [q] at h; cases h; simp only [T.cnt]; omega
        | succ j => rw [q] at h; simp at h
/-- l, r, the top: where a number lies -/
theorem sub_l {l r : T} {i : Nat} (h : i < l.cnt) : (T.node l r).subs[i]? = l.subs[i]? := by
  have n1 := l.subs_len
  simp only [T.subs]
  rw [List.append_assoc, List.getElem?_append_left (by omega)]
theorem sub_r {l r : T} {i : Nat} (h : i < r.cnt) : (T.node l r).subs[l.cnt + i]? = r.subs[i]? := by
  have n1 := l.subs_len
  have n2 := r.subs_len
  simp only [T.subs]
  rw [List.append_assoc, List.getElem?_append_right (by omega), List.getElem?_append_left (by omega), n1, Nat.add_sub_cancel_left]
theorem sub_t (l r : T) : (T.node l r).subs[l.cnt + r.cnt]? = some (.node l r) := by
  have := (T.node l r).sub_top
  simpa [T.cnt] using this
theorem at_node : ∀ (t : T) (k i : Nat) (l r : T), t.subs[i]? = some (.node l r) → (T.nodesFrom k t)[i]? = some (.tup [natD (k + i - 1 - r.cnt), natD (k + i - 1)])
  | .leaf w, k, i, l, r, h => by
    cases i with
    | zero => cases h
    | succ i => simp [T.subs] at h
  | .node l0 r0, k, i, l, r, h => by
    have n1 := T.nodesFrom_len l0 k
    have n2 := T.nodesFrom_len r0 (k + l0.cnt)
    have hi : i < (T.node l0 r0).cnt := by rw [← T.subs_len]; exact (List.getElem?_eq_some_iff.mp h).1
    simp only [T.cnt] at hi
    simp only [T.nodesFrom]
    rw [List.append_assoc]
    by_cases h1 : i < l0.cnt
    · rw [sub_l h1] at h
      rw [List.getElem?_append_left (by omega)]
      exact at_node l0 k i l r h
    · rw [List.getElem?_append_right (by omega), n1]
      by_cases h2 : i - l0.cnt < r0.cnt
      · have e : i = l0.cnt + (i - l0.cnt) := by omega
        rw [e, sub_r h2] at h
        rw [List.getElem?_append_left (by omega), at_node r0 (k + l0.cnt) _ l r h]
        congr 4
        · congr 1; omega
        · congr 2; omega
      · have e : i = l0.cnt + r0.cnt := by omega
        subst e
        rw [sub_t] at h
        cases h
        rw [List.getElem?_append_right (by omega), n2]
        rw [show l0.cnt + r0.cnt - l0.cnt - r0.cnt = 0 by omega]
        show some (D.tup [natD (k + l0.cnt - 1), natD (k + l0.cnt + r0.cnt - 1)]) = _
        rw [show k + l0.cnt + r0.cnt - 1 = k + (l0.cnt + r0.cnt) - 1 by omega, show k + l0.cnt - 1 = k + (l0.cnt + r0.cnt) - 1 - r0.cnt by omega]
/-- j is i or above it -/
def anc (t : T) (j i : Nat) : Prop := ∃ u, t.subs[j]? = some u ∧ i ≤ j ∧ j < i + u.cnt
theorem anc_ll {l r : T} {i j : Nat} (hj : j < l.cnt) : anc (.node l r) j i ↔ anc l j i := by unfold anc; rw [sub_l hj]
theorem anc_rr {l r : T} {i j : Nat} (hj : j < r.cnt) : anc (.node l r) (l.cnt + j) (l.cnt + i) ↔ anc r j i := by
  unfold anc
  rw [sub_r hj]
  exact ⟨fun ⟨u, a, b, c⟩ => ⟨u, a, by omega, by omega⟩, fun ⟨u, a, b, c⟩ => ⟨u, a, by omega, by omega⟩⟩
theorem anc_rl {l r : T} {i j : Nat} (hj : j < r.cnt) (hi : i < l.cnt) : ¬ anc (.node l r) (l.cnt + j) i := by
  rintro ⟨u, a, b, c⟩
  rw [sub_r hj] at a
  have := T.sub_cnt r j u a
  omega
theorem anc_lr {t : T} {i j : Nat} (h : j < i) : ¬ anc t j i := fun ⟨u, a, b, c⟩ => by omega
theorem anc_t {l r : T} {i : Nat} (hi : i ≤ l.cnt + r.cnt) : anc (.node l r) (l.cnt + r.cnt) i := ⟨_, sub_t l r, hi, by simp only [T.cnt]; omega⟩
theorem line_anc : ∀ (t : T) (k : Nat) (up : List Nat) (i : Nat), i < t.cnt → ∀ o, o ∈ (T.lines k up t).getD i [] ↔ o ∈ up ∨ ∃ j, j < t.cnt ∧ o = k + j ∧ anc t j i
  | .leaf w, k, up, i, hi, o => by
    have : i = 0 := by simp [T.cnt] at hi; exact hi
    subst this
    show o ∈ k :: up ↔ _
    rw [List.mem_cons]
    constructor
    · rintro (h | h)
      · exact .inr ⟨0, Nat.one_pos, by omega, .leaf w, rfl, Nat.le_refl _, by simp [T.cnt]⟩
      · exact .inl h
    · rintro (h | ⟨j, h1, h2, _⟩)
      · exact .inr h
      · have h1 : j < 1 := h1
        exact .inl (by omega)
  | .node l r, k, up, i, hi, o => by
    have n1 := T.lines_len l k ((k + l.cnt + r.cnt) :: up)
    have n2 := T.lines_len r (k + l.cnt) ((k + l.cnt + r.cnt) :: up)
    simp only [T.cnt] at hi ⊢
    simp only [T.lines]
    rw [List.getD_eq_getElem?_getD, List.append_assoc]
    by_cases h1 : i < l.cnt
    · rw [List.getElem?_append_left (by omega), ← List.getD_eq_getElem?_getD, line_anc l k _ i h1 o, List.mem_cons]
      constructor
      · rintro ((h | h) | ⟨j, a, b, c⟩)
        · exact .inr ⟨l.cnt + r.cnt, by omega, by omega, anc_t (by omega)⟩
        · exact .inl h
        · exact .inr ⟨j, by omega, b, (anc_ll a).mpr c⟩
      · rintro (h | ⟨j, a, b, c⟩)
        · exact .inl (.inr h)
        · by_cases j1 : j < l.cnt
          · exact .inr ⟨j, j1, b, (anc_ll j1).mp c⟩
          · by_cases j2 : j - l.cnt < r.cnt
            · rw [show j = l.cnt + (j - l.cnt) by omega] at c
              exact absurd c (anc_rl j2 h1)
            · exact .inl (.inl (by omega))
    · rw [List.getElem?_append_right (by omega), n1]
      by_cases h2 : i - l.cnt < r.cnt
      · rw [List.getElem?_append_left (by omega), ← List.getD_eq_getElem?_getD, line_anc r (k + l.cnt) _ _ h2 o, List.mem_cons]
        constructor
        · rintro ((h | h) | ⟨j, a, b, c⟩)
          · exact .inr ⟨l.cnt + r.cnt, by omega, by omega, anc_t (by omega)⟩
          · exact .inl h
          · refine .inr ⟨l.cnt + j, by omega, by omega, ?_⟩
            rw [show i = l.cnt + (i - l.cnt) by omega]
            exact (anc_rr a).mpr c
        · rintro (h | ⟨j, a, b, c⟩)
          · exact .inl (.inr h)
          · by_cases j1 : j < l.cnt
            · exact absurd c (anc_lr (by omega))
            · by_cases j2 : j - l.cnt < r.cnt
              · rw [show j = l.cnt + (j - l.cnt) by omega, show i = l.cnt + (i - l.cnt) by omega] at c
                exact .inr ⟨j - l.cnt, j2, by omega, (anc_rr j2).mp c⟩
              · exact .inl (.inl (by omega))
      · have e : i = l.cnt + r.cnt := by omega
        subst e
        rw [List.getElem?_append_right (by omega), n2, show l.cnt + r.cnt - l.cnt - r.cnt = 0 by omega]
        show o ∈ (k + l.cnt + r.cnt) :: up ↔ _
        rw [List.mem_cons]
        constructor
        · rintro (h | h)
          · exact .inr ⟨l.cnt + r.cnt, by omega, by omega, anc_t (by omega)⟩
          · exact .inl h
        · rintro (h | ⟨j, a, b, u, c1, c2, c3⟩)
          · exact .inr h
          · exact .inl (by omega)
theorem aside_anc {t : T} {h o : Nat} (hh : h < t.cnt) : o ∈ t.aside h ↔ o < t.cnt ∧ ¬ anc t o h ∧ ¬ anc t h o := by
  have key : ∀ i j, i < t.cnt → j < t.cnt → (j ∈ t.lns.getD i [] ↔ anc t j i) := fun i j hi hj => by
    have := line_anc t 0 [] i hi j
    unfold T.lns
    rw [this]
    constructor
    · rintro (h | ⟨j', _, e, c⟩)
      · cases h
      · rw [show j = j' by omega]; exact c
    · exact fun c => .inr ⟨j, hj, by omega, c⟩
  unfold T.aside
  rw [List.mem_filter, List.mem_range, Bool.and_eq_true, Bool.not_eq_true', Bool.not_eq_true', decide_eq_false_iff_not, decide_eq_false_iff_not]
  constructor
  · rintro ⟨a, b, c⟩
    exact ⟨a, fun z => b ((key h o hh a).mpr z), fun z => c ((key o h a hh).mpr z)⟩
  · rintro ⟨a, b, c⟩
    exact ⟨a, fun z => b ((key h o hh a).mp z), fun z => c ((key o h a hh).mp z)⟩
inductive Trn (ρ : Str → Str) : T → T → Prop
  | leaf (w : Str) : Trn ρ (.leaf w) (.leaf (ρ w))
  | node {l r l' r' : T} : Trn ρ l l' → Trn ρ r r' → Trn ρ (.node l r) (.node l' r')
  | swap {l r l' r' : T} : Trn ρ l l' → Trn ρ r r' → Trn ρ (.node l r) (.node r' l')
theorem Trn.cnt {ρ : Str → Str} {t t' : T} (h : Trn ρ t t') : t'.cnt = t.cnt := by
  induction h with
  | leaf w => rfl
  | node _ _ a b => simp only [T.cnt, a, b]
  | swap _ _ a b => simp only [T.cnt, a, b]; omega
structure Pos (ρ : Str → Str) (t t' : T) (σ : Nat → Nat) : Prop where
  lt : ∀ i, i < t.cnt → σ i < t.cnt
  tp : σ (t.cnt - 1) = t.cnt - 1
  lf : ∀ i w, t.subs[i]? = some (.leaf w) → t'.subs[σ i]? = some (.leaf (ρ w))
  nd : ∀ i l r, t.subs[i]? = some (.node l r) → ∃ l' r', t'.subs[σ i]? = some (.node l' r') ∧ ((σ i - 1 - r'.cnt = σ (i - 1 - r.cnt) ∧ σ i - 1 = σ (i - 1)) ∨ (σ i - 1 - r'.cnt = σ (i - 1) ∧ σ i - 1 = σ (i - 1 - r.cnt)))
  an : ∀ i j, i < t.cnt → j < t.cnt → anc t' (σ j) (σ i) → anc t j i
theorem Trn.pos {ρ : Str → Str} {t t' : T} (h : Trn ρ t t') : ∃ σ, Pos ρ t t' σ := by
  induction h with
  | leaf w =>
    refine ⟨fun _ => 0, ⟨fun i hi => Nat.one_pos, rfl, fun i w' h => ?_, fun i l r h => ?_, fun i j hi hj _ => ?_⟩⟩
    · cases i with
      | zero => cases h; rfl
      | succ i => simp [T.subs] at h
    · cases i with
      | zero => cases h
      | succ i => simp [T.subs] at h
    · have hi : i < 1 := hi
      have hj : j < 1 := hj
      exact ⟨.leaf w, by rw [show j = 0 by omega]; rfl, by omega, by simp [T.cnt]; omega⟩
  | @node l r l' r' hl hr il ir =>
    obtain ⟨a, A⟩ := il
    obtain ⟨b, B⟩ := ir
    have cl := hl.cnt
    have cr := hr.cnt
    have pl := l.cnt_pos
    have pr := r.cnt_pos
    let σ : Nat → Nat := fun i => if i < l.cnt then a i else if i < l.cnt + r.cnt then l.cnt + b (i - l.cnt) else l.cnt + r.cnt
    have sl : ∀ i, i < l.cnt → σ i = a i := fun i h => if_pos h
    have sr : ∀ i, i < r.cnt → σ (l.cnt + i) = l.cnt + b i := fun i h => by
      show (if l.cnt + i < l.cnt then _ else if l.cnt + i < l.cnt + r.cnt then _ else _) = _
      rw [if_neg (by omega), if_pos (by omega), Nat.add_sub_cancel_left]
    have st : σ (l.cnt + r.cnt) = l.cnt + r.cnt := by
      show (if l.cnt + r.cnt < l.cnt then _ else if l.cnt + r.cnt < l.cnt + r.cnt then _ else _) = _
      rw [if_neg (by omega), if_neg (by omega)]
    have split : ∀ i, i < (T.node l r).cnt → i < l.cnt ∨ (∃ j, j < r.cnt ∧ i = l.cnt + j) ∨ i = l.cnt + r.cnt := fun i h => by
      simp only [T.cnt] at h
      by_cases h1 : i < l.cnt
      · exact .inl h1
      · by_cases h2 : i - l.cnt < r.cnt
        · exact .inr (.inl ⟨_, h2, by omega⟩)
        · exact .inr (.inr (by omega))
    have ixl : ∀ {i u}, (T.node l r).subs[i]? = some u → i < (T.node l r).cnt := fun h => by rw [← T.subs_len]; exact (List.getElem?_eq_some_iff.mp h).1
    have wl : ∀ i, i < l.cnt → (T.node l' r').subs[a i]? = l'.subs[a i]? := fun i h => sub_l (by rw [cl]; exact A.lt i h)
    have wr : ∀ i, i < r.cnt → (T.node l' r').subs[l.cnt + b i]? = r'.subs[b i]? := fun i h => by rw [← cl]; exact sub_r (by rw [cr]; exact B.lt i h)
    have wt : (T.node l' r').subs[l.cnt + r.cnt]? = some (.node l' r') := by rw [← cl, ← cr]; exact sub_t l' r'
    refine ⟨σ, ⟨fun i hi => ?_, ?_, fun i w h => ?_, fun i p q h => ?_, fun i j hi hj h => ?_⟩⟩
    · rcases split i hi with h | ⟨j, h, rfl⟩ | rfl
      · rw [sl i h]; have := A.lt i h; simp only [T.cnt]; omega
      · rw [sr j h]; have := B.lt j h; simp only [T.cnt]; omega
      · rw [st]; simp only [T.cnt]; omega
    · simp only [T.cnt, Nat.add_sub_cancel]; exact st
    · rcases split i (ixl h) with q | ⟨j, q, rfl⟩ | rfl
      · rw [sub_l q] at h; rw [sl i q, wl i q]; exact A.lf i w h
      · rw [sub_r q] at h; rw [sr j q, wr j q]; exact B.lf j w h
      · rw [sub_t] at h; cases h
    · rcases split i (ixl h) with z | ⟨j, z, rfl⟩ | rfl
      · rw [sub_l z] at h
        have k0 := T.sub_cnt l i _ h
        simp only [T.cnt] at k0
        obtain ⟨p', q', e, f⟩ := A.nd i p q h
        rw [sl i z, wl i z, sl (i - 1 - q.cnt) (by omega), sl (i - 1) (by omega)]
        exact ⟨p', q', e, f⟩
      · rw [sub_r z] at h
        have k0 := T.sub_cnt r j _ h
        simp only [T.cnt] at k0
        have pc := p.cnt_pos
        obtain ⟨p', q', e, f⟩ := B.nd j p q h
        have k1 := T.sub_cnt r' _ _ e
        simp only [T.cnt] at k1
        have pc' := p'.cnt_pos
        rw [sr j z, wr j z, show l.cnt + j - 1 - q.cnt = l.cnt + (j - 1 - q.cnt) by omega, show l.cnt + j - 1 = l.cnt + (j - 1) by omega, sr (j - 1 - q.cnt) (by omega), sr (j - 1) (by omega)]
        exact ⟨p', q', e, by omega⟩
      · rw [sub_t] at h
        cases h
        have ta := A.tp
        have tb := B.tp
        rw [st, wt, show l.cnt + r.cnt - 1 - r.cnt = l.cnt - 1 by omega, show l.cnt + r.cnt - 1 = l.cnt + (r.cnt - 1) by omega, sl _ (by omega), sr _ (by omega), ta, tb]
        exact ⟨l', r', rfl, .inl ⟨by omega, rfl⟩⟩
    · rcases split i hi with z | ⟨i, z, rfl⟩ | rfl <;> rcases split j hj with y | ⟨j, y, rfl⟩ | rfl
      · rw [sl i z, sl j y] at h
        exact (anc_ll y).mpr (A.an i j z y ((anc_ll (by rw [cl]; exact A.lt j y)).mp h))
      · rw [sl i z, sr j y, ← cl] at h
        exact absurd h (anc_rl (by rw [cr]; exact B.lt j y) (by rw [cl]; exact A.lt i z))
      · exact anc_t (by omega)
      · rw [sr i z, sl j y] at h
        have := A.lt j y
        exact absurd h (anc_lr (by omega))
      · rw [sr i z, sr j y, ← cl] at h
        exact (anc_rr y).mpr (B.an i j z y ((anc_rr (by rw [cr]; exact B.lt j y)).mp h))
      · exact anc_t (by omega)
      · rw [st, sl j y] at h
        have := A.lt j y
        exact absurd h (anc_lr (by omega))
      · rw [st, sr j y] at h
        have := B.lt j y
        exact absurd h (anc_lr (by omega))
      · exact anc_t (by omega)
  | @swap l r l' r' hl hr il ir =>
    obtain ⟨a, A⟩ := il
    obtain ⟨b, B⟩ := ir
    have cl := hl.cnt
    have cr := hr.cnt
    have pl := l.cnt_pos
    have pr := r.cnt_pos
    let σ : Nat → Nat := fun i => if i < l.cnt then r.cnt + a i else if i < l.cnt + r.cnt then b (i - l.cnt) else l.cnt + r.cnt
    have sl : ∀ i, i < l.cnt → σ i = r.cnt + a i := fun i h => if_pos h
    have sr : ∀ i, i < r.cnt → σ (l.cnt + i) = b i := fun i h => by
      show (if l.cnt + i < l.cnt then _ else if l.cnt + i < l.cnt + r.cnt then _ else _) = _
      rw [if_neg (by omega), if_pos (by omega), Nat.add_sub_cancel_left]
    have st : σ (l.cnt + r.cnt) = l.cnt + r.cnt := by
      show (if l.cnt + r.cnt < l.cnt then _ else if l.cnt + r.cnt < l.cnt + r.cnt then _ else _) = _
      rw [if_neg (by omega), if_neg (by omega)]
    have split : ∀ i, i < (T.node l r).cnt → i < l.cnt ∨ (∃ j, j < r.cnt ∧ i = l.cnt + j) ∨ i = l.cnt + r.cnt := fun i h => by
      simp only [T.cnt] at h
      by_cases h1 : i < l.cnt
      · exact .inl h1
      · by_cases h2 : i - l.cnt < r.cnt
        · exact .inr (.inl ⟨_, h2, by omega⟩)
        · exact .inr (.inr (by omega))
    have ixl : ∀ {i u}, (T.node l r).subs[i]? = some u → i < (T.node l r).cnt := fun h => by rw [← T.subs_len]; exact (List.getElem?_eq_some_iff.mp h).1
    have wl : ∀ i, i < l.cnt → (T.node r' l').subs[r.cnt + a i]? = l'.subs[a i]? := fun i h => by rw [← cr]; exact sub_r (by rw [cl]; exact A.lt i h)
    have wr : ∀ i, i < r.cnt → (T.node r' l').subs[b i]? = r'.subs[b i]? := fun i h => sub_l (by rw [cr]; exact B.lt i h)
    have wt : (T.node r' l').subs[l.cnt + r.cnt]? = some (.node r' l') := by rw [← cl, ← cr, Nat.add_comm]; exact sub_t r' l'
    refine ⟨σ, ⟨fun i hi => ?_, ?_, fun i w h => ?_, fun i p q h => ?_, fun i j hi hj h => ?_⟩⟩
    · rcases split i hi with h | ⟨j, h, rfl⟩ | rfl
      · rw [sl i h]; have := A.lt i h; simp only [T.cnt]; omega
      · rw [sr j h]; have := B.lt j h; simp only [T.cnt]; omega
      · rw [st]; simp only [T.cnt]; omega
    · simp only [T.cnt, Nat.add_sub_cancel]; exact st
    · rcases split i (ixl h) with q | ⟨j, q, rfl⟩ | rfl
      · rw [sub_l q] at h; rw [sl i q, wl i q]; exact A.lf i w h
      · rw [sub_r q] at h; rw [sr j q, wr j q]; exact B.lf j w h
      · rw [sub_t] at h; cases h
    · rcases split i (ixl h) with z | ⟨j, z, rfl⟩ | rfl
      · rw [sub_l z] at h
        have k0 := T.sub_cnt l i _ h
        simp only [T.cnt] at k0
        obtain ⟨p', q', e, f⟩ := A.nd i p q h
        have k1 := T.sub_cnt l' _ _ e
        simp only [T.cnt] at k1
        have pc' := p'.cnt_pos
        rw [sl i z, wl i z, sl (i - 1 - q.cnt) (by omega), sl (i - 1) (by omega)]
        exact ⟨p', q', e, by omega⟩
      · rw [sub_r z] at h
        have k0 := T.sub_cnt r j _ h
        simp only [T.cnt] at k0
        have pc := p.cnt_pos
        obtain ⟨p', q', e, f⟩ := B.nd j p q h
        rw [sr j z, wr j z, show l.cnt + j - 1 - q.cnt = l.cnt + (j - 1 - q.cnt) by omega, show l.cnt + j - 1 = l.cnt + (j - 1) by omega, sr (j - 1 - q.cnt) (by omega), sr (j - 1) (by omega)]
        exact ⟨p', q', e, f⟩
      · rw [sub_t] at h
        cases h
        have ta := A.tp
        have tb := B.tp
        rw [st, wt, show l.cnt + r.cnt - 1 - r.cnt = l.cnt - 1 by omega, show l.cnt + r.cnt - 1 = l.cnt + (r.cnt - 1) by omega, sl _ (by omega), sr _ (by omega), ta, tb]
        exact ⟨r', l', rfl, .inr ⟨by omega, by omega⟩⟩
    · rcases split i hi with z | ⟨i, z, rfl⟩ | rfl <;> rcases split j hj with y | ⟨j, y, rfl⟩ | rfl
      · rw [sl i z, sl j y, ← cr] at h
        exact (anc_ll y).mpr (A.an i j z y ((anc_rr (by rw [cl]; exact A.lt j y)).mp h))
      · rw [sl i z, sr j y] at h
        have := B.lt j y
        exact absurd h (anc_lr (by omega))
      · exact anc_t (by omega)
      · rw [sr i z, sl j y, ← cr] at h
        exact absurd h (anc_rl (by rw [cl]; exact A.lt j y) (by rw [cr]; exact B.lt i z))
      · rw [sr i z, sr j y] at h
        exact (anc_rr y).mpr (B.an i j z y ((anc_ll (by rw [cr]; exact B.lt j y)).mp h))
      · exact anc_t (by omega)
      · rw [st, sl j y] at h
        have := A.lt j y
        exact absurd h (anc_lr (by omega))
      · rw [st, sr j y] at h
        have := B.lt j y
        exact absurd h (anc_lr (by omega))
      · exact anc_t (by omega)
end M
namespace Q
open PySem hiding Env
open L2 M
end Q
namespace M
open PySem PySem.Spec L2
open PyProof.Rows hiding St
end M
namespace Q
open PySem hiding Env
open L2 M
end Q
namespace Q
open PySem hiding Env
open L2 M
end Q
namespace M
open PySem PySem.Spec L2
open PyProof.Rows hiding St
end M
namespace Q
open PySem hiding Env
open L2 M
end Q
namespace M
open PySem PySem.Spec L2
open PyProof.Rows hiding St
section
variable {g g' : Gr} {pr : Prc}
/-- grounds alike -/
structure Iso (g g' : Gr) (σ : Nat → Nat) (ρ : Str → Str) : Prop where
  lt : ∀ x, x < g.length → σ x < g'.length
  un : ∀ x, x < g.length → (atG g' (σ x)).un = (atG g x).un.map σ ∨ (atG g' (σ x)).un = ((atG g x).un.map σ).reverse
  bs : ∀ x, x < g.length → ∀ b ∈ (atG g x).bs, σ b ∈ (atG g' (σ x)).bs
  nm : ∀ x, x < g.length → ∀ w, fndN g x w = true → fndN g' (σ x) (ρ w) = true
variable {σ : Nat → Nat} {ρ : Str → Str}
theorem Iso.len (I : Iso g g' σ ρ) {x : Nat} (hx : x < g.length) : (atG g' (σ x)).un.length = (atG g x).un.length := by
  rcases I.un x hx with h | h <;> rw [h] <;> simp
theorem Iso.path (I : Iso g g' σ ρ) : ∀ p : List Nat, pathN g p = true → pathN g' (p.map σ) = true
  | [], h => by simp [pathN] at h
  | [x], h => by
    have := pathN_one.mp h
    exact pathN_one.mpr (I.lt x this)
  | x :: b :: q, h => by
    obtain ⟨h1, h2, h3⟩ := pathN_cons.mp h
    refine pathN_cons.mpr ⟨I.lt x h1, ?_, I.path (b :: q) h3⟩
    rcases I.un x h1 with e | e
    · rw [e]; exact List.mem_map_of_mem h2
    · rw [e, List.mem_reverse]; exact List.mem_map_of_mem h2
theorem last_map (σ : Nat → Nat) : ∀ p : List Nat, p ≠ [] → (p.map σ).getLastD 0 = σ (p.getLastD 0)
  | [x], _ => rfl
  | x :: b :: q, _ => by
    have := last_map σ (b :: q) (by simp)
    simpa using this
theorem head_map (σ : Nat → Nat) : ∀ p : List Nat, p ≠ [] → (p.map σ).headD 0 = σ (p.headD 0)
  | x :: q, _ => rfl
theorem Iso.dom (I : Iso g g' σ ρ) {x a b : Nat} {d : Str} (hx : x < g.length) (h : domN g x d a b = true) : domN g' (σ x) d (σ a) (σ b) = true := by
  unfold domN at h ⊢
  by_cases h1 : d = "doubled"
  · rw [if_pos h1] at h ⊢
    simp only [Bool.and_eq_true, decide_eq_true_eq] at h ⊢
    exact ⟨by rw [h.1], by rw [h.2]⟩
  · rw [if_neg h1] at h ⊢
    by_cases h2 : d = "split"
    · rw [if_pos h2] at h ⊢
      simp only [Bool.and_eq_true, Bool.or_eq_true, decide_eq_true_eq] at h ⊢
      refine ⟨by rw [I.len hx]; exact h.1, ?_⟩
      rcases I.un x hx with e | e <;> rw [e] <;> rcases h.2 with q | q
      · left; rw [← q]; rfl
      · right; rw [← List.map_reverse, ← q]; rfl
      · right; rw [List.reverse_reverse, ← q]; rfl
      · left; rw [← List.map_reverse, ← q]; rfl
    · rw [if_neg h2] at h ⊢
      simp only [Bool.and_eq_true, Bool.or_eq_true, decide_eq_true_eq] at h ⊢
      refine ⟨h.1, ?_⟩
      rcases h.2 with ⟨q1, q2⟩ | ⟨q1, q2⟩
      · left; exact ⟨by rw [q1], I.bs x hx b q2⟩
      · right; exact ⟨by rw [q1], I.bs x hx a q2⟩
theorem Iso.loss (I : Iso g g' σ ρ) {p : List Nat} (hp : pathN g p = true) : lossN g' (p.map σ) = lossN g p := by
  have hin := (pathN_inv hp).2.1
  unfold lossN
  rw [← List.map_dropLast, List.filter_map, List.length_map]
  congr 1
  refine List.filter_congr fun x hx => ?_
  have := I.len (hin x (List.dropLast_subset _ hx))
  simp only [Function.comp_apply, this]
theorem path_last {p : List Nat} (hp : pathN g p = true) : p.getLastD 0 < g.length := Q.pathN_last hp
end
theorem un_leaf {t : T} {i : Nat} {w : Str} (h : t.subs[i]? = some (.leaf w)) : (atG (grO t) i).un = [] ∧ (atG (grO t) i).nm = .str w := by
  have hi : i < t.cnt := by rw [← t.subs_len]; exact (List.getElem?_eq_some_iff.mp h).1
  have e : t.nodes.getD i .non = .str w := by rw [List.getD_eq_getElem?_getD, T.sub_leaf h]; rfl
  rw [grO_at hi]
  simp only [e]
  exact ⟨rfl, nmOf_leaf e⟩
theorem un_node {t l r : T} {i : Nat} (h : t.subs[i]? = some (.node l r)) : (atG (grO t) i).un = [i - 1 - r.cnt, i - 1] := by
  have hi : i < t.cnt := by rw [← t.subs_len]; exact (List.getElem?_eq_some_iff.mp h).1
  have e0 := at_node t 0 i l r h
  rw [Nat.zero_add] at e0
  have e : t.nodes.getD i .non = .tup [natD (i - 1 - r.cnt), natD (i - 1)] := by
    rw [List.getD_eq_getElem?_getD]
    show ((T.nodesFrom 0 t)[i]?).getD D.non = _
    rw [e0]; rfl
  rw [grO_at hi]
  simp only
  rw [if_neg (by rw [e]; exact Bool.false_ne_true)]
  have ea : chA t i = i - 1 - r.cnt := by unfold chA; rw [e]; simp [natD]
  have eb : chB t i = i - 1 := by unfold chB; rw [e]; simp [natD]
  rw [ea, eb]
theorem Pos.iso {ρ : Str → Str} {t t' : T} {σ : Nat → Nat} (P : Pos ρ t t' σ) (hc : t'.cnt = t.cnt) : Iso (grO t) (grO t') σ ρ := by
  have at_ : ∀ i, i < t.cnt → (∃ w, t.subs[i]? = some (.leaf w)) ∨ ∃ l r, t.subs[i]? = some (.node l r) := fun i hi => by
    have : i < t.subs.length := by rw [t.subs_len]; exact hi
    cases h : t.subs[i] with
    | leaf w => exact .inl ⟨w, by rw [List.getElem?_eq_getElem this, h]⟩
    | node l r => exact .inr ⟨l, r, by rw [List.getElem?_eq_getElem this, h]⟩
  refine ⟨fun x hx => ?_, fun x hx => ?_, fun x hx b hb => ?_, fun x hx w hw => ?_⟩
  · rw [grO_len] at hx ⊢
    rw [hc]; exact P.lt x hx
  · rw [grO_len] at hx
    rcases at_ x hx with ⟨w, h⟩ | ⟨l, r, h⟩
    · rw [(un_leaf h).1, (un_leaf (P.lf x w h)).1]; exact .inl rfl
    · obtain ⟨l', r', e, f⟩ := P.nd x l r h
      rw [un_node h, un_node e]
      rcases f with ⟨f1, f2⟩ | ⟨f1, f2⟩
      · left; rw [f1, f2]; rfl
      · right; rw [f1, f2]; rfl
  · rw [grO_len] at hx
    have hx' := P.lt x hx
    rw [grO_at hx] at hb
    rw [grO_at (by rw [hc]; exact hx')]
    obtain ⟨b1, b2, b3⟩ := (aside_anc hx).mp hb
    exact (aside_anc (by rw [hc]; exact hx')).mpr ⟨by rw [hc]; exact P.lt b b1, fun z => b2 (P.an x b hx b1 z), fun z => b3 (P.an b x b1 hx z)⟩
  · rw [grO_len] at hx
    rcases at_ x hx with ⟨w', h⟩ | ⟨l, r, h⟩
    · obtain ⟨u1, u2⟩ := un_leaf h
      obtain ⟨u3, u4⟩ := un_leaf (P.lf x w' h)
      unfold fndN at hw ⊢
      rw [u1, u2] at hw
      rw [u3, u4]
      simp only [List.isEmpty_nil, Bool.true_and, decide_eq_true_eq] at hw ⊢
      rw [hw]
    · unfold fndN at hw
      rw [un_node h] at hw
      simp at hw
end M
namespace Q
open PySem hiding Env
open L2 M
end Q
namespace M
open PySem PySem.Spec L2
open PyProof.Rows hiding St
def T.mapL (ρ : Str → Str) : T → T
  | .leaf w => .leaf (ρ w)
  | .node l r => .node (l.mapL ρ) (r.mapL ρ)
theorem T.mapL_ls (ρ : Str → Str) : ∀ t : T, (t.mapL ρ).ls = t.ls.map ρ
  | .leaf w => rfl
  | .node l r => by simp only [T.mapL, T.ls, List.map_append, l.mapL_ls ρ, r.mapL_ls ρ]
theorem Trn.perm {ρ : Str → Str} {t t' : T} (h : Trn ρ t t') : t'.ls.Perm (t.ls.map ρ) := by
  induction h with
  | leaf w => exact .refl _
  | node _ _ a b => simp only [T.ls, List.map_append]; exact a.append b
  | swap _ _ a b => simp only [T.ls, List.map_append]; exact (b.append a).trans List.perm_append_comm
end M
namespace Q
open PySem hiding Env
open L2 M
end Q
namespace Q
open PySem hiding Env
open L2 M
noncomputable def m_called (g_called : List R → Store → Out R) : MS :=
  (mSeq (mIfS (mtTru (mCall biIsi (mCons (mVar 0) (mCons (mC (.ty "str")) mNil)))) (mRet (mPop (mBin opAdd (mC (.str "w")) (mPop (mSl (mVar 0) moN (moS (mC (.int 7)))))))) mSkip)
  (mSeq (mPar 2 3 (mCall g_called (mCons (mBin opIx (mVar 0) (mC (.int 0))) (mCons (mVar 1) mNil))) (mCall g_called (mCons (mBin opIx (mVar 0) (mC (.int 1))) (mCons (mVar 1) mNil))))
  (mRet (mBin opIx (mLstV (mCons (mTup (mCons (mVar 2) (mCons (mVar 3) mNil))) (mCons (mTup (mCons (mVar 3) (mCons (mVar 2) mNil))) mNil))) (mVar 1)))))
noncomputable def R_called : Nat → List R → Store → Out R
  | 0 => fun _ _ => .no
  | k + 1 => mDefV 4 (m_called (R_called k))
noncomputable def m_numbers (g_numbers : List R → Store → Out R) : MS :=
  (mSeq (mIfS (mtTru (mCall biIsi (mCons (mVar 0) (mCons (mC (.ty "str")) mNil)))) (mRet (mLstV (mCons (mVar 1) mNil))) mSkip)
  (mSeq (mSet 2 (mCall g_numbers (mCons (mBin opIx (mVar 0) (mC (.int 0))) (mCons (mVar 1) mNil))))
  (mSeq (mSet 3 (mCall g_numbers (mCons (mBin opIx (mVar 0) (mC (.int 1))) (mCons (mBin opAdd (mVar 1) (mCall biLen (mCons (mVar 2) mNil))) mNil))))
  (mRet (mPop (mBin opAdd (mBin opAdd (mVar 3) (mVar 2)) (mLstV (mCons (mBin opAdd (mBin opAdd (mVar 1) (mCall biLen (mCons (mVar 2) mNil))) (mCall biLen (mCons (mVar 3) mNil))) mNil))))))))
noncomputable def R_numbers : Nat → List R → Store → Out R
  | 0 => fun _ _ => .no
  | k + 1 => mDefV 4 (m_numbers (R_numbers k))
noncomputable def m_house_of : MS :=
  (mRet (mIf (mtTru (mCall biIsi (mCons (mBin opIx (mVar 1) (mC (.int 0))) (mCons (mC (.ty "str")) mNil)))) (mMeth "list" mtIndex (mVar 0) (mCons (mBin opIx (mVar 1) (mC (.int 0))) mNil)) (mBin opIx (mVar 1) (mC (.int 0)))))
noncomputable def M_house_of : List R → Store → Out R := mDefV 2 (m_house_of)
noncomputable def m_moved (g_moved : List R → Store → Out R) : MS :=
  (mSeq (mSet 2 (mCall biTuple (mCons (mPop (mLc (srcAny (mBin opIx (mVar 0) (mC (.int 0)))) [3] (tgN 3) mtYes (mBin opIx (mVar 1) (mVar 3)))) mNil)))
  (mRet (mBin opAdd (mTup (mCons (mVar 2) (mCons (mBin opIx (mVar 0) (mC (.int 1))) mNil))) (mCall biTuple (mCons (mPop (mLc (srcAny (mPop (mSl (mVar 0) (moS (mC (.int 2))) moN))) [4] (tgN 4) mtYes (mCall g_moved (mCons (mVar 4) (mCons (mVar 1) mNil))))) mNil)))))
noncomputable def R_moved : Nat → List R → Store → Out R
  | 0 => fun _ _ => .no
  | k + 1 => mDefV 5 (m_moved (R_moved k))
end Q
namespace M
open PySem PySem.Spec L2
open PyProof.Rows hiding St
/-- the two of all nodes exchanged, the words called anew -/
def T.turn (ρ : Str → Str) : T → T
  | .leaf w => .leaf (ρ w)
  | .node l r => .node (r.turn ρ) (l.turn ρ)
theorem T.turn_trn (ρ : Str → Str) : ∀ t : T, Trn ρ t (t.turn ρ)
  | .leaf w => .leaf w
  | .node l r => .swap (l.turn_trn ρ) (r.turn_trn ρ)
/-- which node of the tree each of the turned one is -/
def NN : T → Nat → List Nat
  | .leaf _, k => [k]
  | .node l r, k => NN r (k + l.cnt) ++ NN l k ++ [k + l.cnt + r.cnt]
theorem NN_len : ∀ (t : T) (k : Nat), (NN t k).length = t.cnt
  | .leaf _, k => rfl
  | .node l r, k => by simp only [NN, List.length_append, NN_len l, NN_len r, T.cnt, List.length_cons, List.length_nil]; omega
theorem NN_perm : ∀ (t : T) (k : Nat), (NN t k).Perm (List.range' k t.cnt)
  | .leaf _, k => by simp [NN, T.cnt, List.range'_succ]
  | .node l r, k => by
    have e : List.range' k (T.node l r).cnt = List.range' k l.cnt ++ List.range' (k + l.cnt) r.cnt ++ [k + l.cnt + r.cnt] := by
      simp only [T.cnt]
      rw [List.range'_concat, List.range'_append_1]
      simp [Nat.add_assoc]
    rw [e]
    exact ((NN_perm r _).append (NN_perm l _)).trans List.perm_append_comm |>.append_right _
/-- a way, its stays called anew -/
def Wy.mv (σ : Nat → Nat) : Wy → Wy
  | .one p d => .one (p.map σ) d
  | .two p d a b => .two (p.map σ) d (a.mv σ) (b.mv σ)
end M
namespace Q
open PySem hiding Env
open L2 M
theorem newW_inj {b e e' : Str} {f st : Int} {i j : Nat} (hb : b.length ≤ 1) (hs : st = 1 ∨ st = 3 ∨ st = 5 ∨ st = 7 ∨ st = 9 ∨ st = 11) (hi : i < 26) (hj : j < 26) (h : newW (wordAt b f st i e) = newW (wordAt b f st j e')) : i = j := by
  have q := congrArg (fun x : Str => x.cps.toList) h
  simp only [newW, cps_app] at q
  have q2 := List.append_cancel_left q
  rw [cutS_cps, cutS_cps] at q2
  have tk : ∀ xs : List Nat, cutD xs none (some 7) = xs.take 7 := fun xs => cutD_take xs (by decide)
  rw [tk, tk] at q2
  simp only [wordAt, cps_app, List.append_assoc] at q2
  have hbl : b.cps.toList.length ≤ 1 := by rw [show b.cps.toList.length = b.length from Array.length_toList]; exact hb
  have q3 := congrArg (fun x : List Nat => x[b.cps.toList.length]?) q2
  simp only [List.getElem?_take] at q3
  rw [if_pos (by omega), if_pos (by omega), List.getElem?_append_right (Nat.le_refl _), List.getElem?_append_right (Nat.le_refl _), Nat.sub_self] at q3
  simp only [List.cons_append, List.nil_append, List.getElem?_cons_zero, Option.some.injEq] at q3
  have h1 : 0 ≤ (f + st * (i : Int)) % 26 ∧ (f + st * (i : Int)) % 26 < 26 := ⟨Int.emod_nonneg _ (by decide), Int.emod_lt_of_pos _ (by decide)⟩
  have h2 : 0 ≤ (f + st * (j : Int)) % 26 ∧ (f + st * (j : Int)) % 26 < 26 := ⟨Int.emod_nonneg _ (by decide), Int.emod_lt_of_pos _ (by decide)⟩
  have q4 : (f + st * (i : Int)) % 26 = (f + st * (j : Int)) % 26 := by omega
  rcases hs with rfl | rfl | rfl | rfl | rfl | rfl <;> omega
theorem words_2_newW {b0 : Nat} {S : Store} {n : Nat} {h : Pot b0} {k : Int} (e : S[n]? = some h.c) (hb0 : b0 + 3 ≤ 2 ^ 40) (h0 : 0 ≤ k) (h1 : k ≤ 26) : ∃ (h' : Pot (b0 + 3)) (ws : List Str), M_words_2 [.ref n, .v (.int k)] S = .ok (.v (.lst (ws.map D.str))) (S.set n h'.c) ∧ (ws.length : Int) = k ∧ (ws.map newW).Nodup ∧ ws.Nodup ∧ ∀ x ∈ ws, GoodW x := by
  have hn := lt_of_get e
  let L : R := .v (.str "abcdefghijklmnopqrstuvwxyz")
  obtain ⟨f, g1, e1, f0, f1⟩ := take_2_spec (k := 26) e (by omega) (by decide) (by decide)
  obtain ⟨st, g2, e2, hst⟩ := pick_2_spec (i := 0) (m := [some (.ref n), some (.v (.int k)), some L, some (.v (.int f)), none, none, none, none, none, none]) (r := mCons (mC (.int 1)) (mCons (mC (.int 3)) (mCons (mC (.int 5)) (mCons (mC (.int 7)) (mCons (mC (.int 9)) (mCons (mC (.int 11)) mNil))))))
    (ds := [.int 1, .int 3, .int 5, .int 7, .int 9, .int 11]) (k := 6) (get_set e g1.c) (by omega) (by simp) rfl rfl (by decide) (by decide)
  obtain ⟨z, rfl, hz⟩ : ∃ z : Int, st = .int z ∧ (z = 1 ∨ z = 3 ∨ z = 5 ∨ z = 7 ∨ z = 9 ∨ z = 11) := by
    simp only [List.mem_cons, List.not_mem_nil, or_false] at hst
    rcases hst with rfl | rfl | rfl | rfl | rfl | rfl <;> exact ⟨_, rfl, by decide⟩
  rw [List.set_set] at e2
  obtain ⟨bd, g3, e3, hb⟩ := pick_2_spec (i := 0) (m := [some (.ref n), some (.v (.int k)), some L, some (.v (.int f)), some (.v (.int z)), none, none, none, none, none]) (r := mCons (mC (.str "")) (mCons (mC (.str "k")) mNil))
    (ds := [.str "", .str "k"]) (k := 2) (get_set e g2.c) (by omega) (by simp) rfl rfl (by decide) (by decide)
  obtain ⟨b, rfl, hbb⟩ : ∃ b : Str, bd = .str b ∧ b ∈ begs2 := by
    simp only [List.mem_cons, List.not_mem_nil, or_false] at hb
    rcases hb with rfl | rfl <;> exact ⟨_, rfl, by decide +kernel⟩
  rw [List.set_set] at e3
  have Le : (Str.ofString "abcdefghijklmnopqrstuvwxyz").length ≤ sizeLine := sz_of (by decide +kernel)
  let En : R := .v (.lst [.str "", .str "q", .str "zz", .str "abcdef"])
  have hS : (S.set n g3.c).length = S.length := by simp
  obtain ⟨m', S', eL, ws, hS', ⟨w1, w2, hm'⟩, hlen, hws⟩ := for_inv (t := tgN 8) (body := b1_words_2) (ds := rangeD 0 k.toNat) (m := [some (.ref n), some (.v (.int k)), some L, some (.v (.int f)), some (.v (.int z)), some (.v (.str b)), some En, some (.ref S.length), none, none]) (S := S.set n g3.c ++ [.lst []])
    (fun i m T => ∃ (ws : List Str), T = S.set n g3.c ++ [.lst (ws.map fun x => .v (.str x))] ∧ (∃ w1 w2, m = [some (.ref n), some (.v (.int k)), some L, some (.v (.int f)), some (.v (.int z)), some (.v (.str b)), some En, some (.ref S.length), w1, w2]) ∧ ws.length = i ∧ ∀ j w, ws[j]? = some w → ∃ e ∈ ends2, w = wordAt b f z j e)
    ⟨[], rfl, ⟨none, none, rfl⟩, rfl, fun j w hj => by simp at hj⟩ (by
      rintro i d m T hd ⟨ws, rfl, ⟨w1, w2, rfl⟩, hl, hws⟩
      obtain ⟨hi, rfl⟩ := rangeD_get hd
      simp only [Int.zero_add]
      have zs : z.natAbs < smLine := sm64 (by omega)
      have is : (i : Int).natAbs < smLine := sm64 (by omega)
      have hmod : 0 ≤ (f + z * (i : Int)) % 26 ∧ (f + z * (i : Int)) % 26 < 26 := ⟨Int.emod_nonneg _ (by decide), Int.emod_lt_of_pos _ (by decide)⟩
      have hlet := letter_at ((f + z * (i : Int)) % 26).toNat (by omega)
      rw [← atI_lt hmod.1] at hlet
      obtain ⟨ed, hed, hem⟩ := atI_some (xs := [D.str "", .str "q", .str "zz", .str "abcdef"]) (i := (f + (i : Int)) % 4) (Int.emod_nonneg _ (by decide)) (by have := Int.emod_lt_of_pos (f + (i : Int)) (show (0 : Int) < 4 by decide); simpa using this)
      obtain ⟨en, rfl, hen⟩ : ∃ b : Str, ed = .str b ∧ b ∈ ends2 := by
        simp only [List.mem_cons, List.not_mem_nil, or_false] at hem
        rcases hem with rfl | rfl | rfl | rfl <;> exact ⟨_, rfl, by decide +kernel⟩
      have hb1 := (begs2_ok b hbb).1
      have he1 := (ends2_ok en hen).1
      have s1 : b.length + (⟨#[97 + ((f + z * (i : Int)) % 26).toNat]⟩ : Str).length ≤ sizeLine := sz_of (by rw [str_len ⟨#[_]⟩]; simp; omega)
      have s2 : (b ++ (⟨#[97 + ((f + z * (i : Int)) % 26).toNat]⟩ : Str)).length + en.length ≤ sizeLine := sz_of (by rw [str_len_append, str_len ⟨#[_]⟩]; simp; omega)
      have hz1 : (ws.map fun x => R.v (D.str x)).length < sizeLine := sz_lt (by rw [List.length_map]; omega)
      have gt := get_atL hS (.lst (ws.map fun x => R.v (D.str x))) []
      refine ⟨_, rfl, [some (.ref n), some (.v (.int k)), some L, some (.v (.int f)), some (.v (.int z)), some (.v (.str b)), some En, some (.ref S.length), some (.v (.int (i : Int))), some (.v (.str ⟨#[97 + ((f + z * (i : Int)) % 26).toNat]⟩))], S.set n g3.c ++ [.lst ((ws ++ [wordAt b f z i en]).map fun x => .v (.str x))], .inl ?_, ws ++ [wordAt b f z i en], rfl, ⟨_, _, rfl⟩, by simp [hl], fun j w hj => ?_⟩
      · have ap : mtAppend (.ref S.length) [.v (.str (b ++ ⟨#[97 + ((f + z * (i : Int)) % 26).toNat]⟩ ++ en))] (S.set n g3.c ++ [.lst (ws.map fun x => R.v (D.str x))]) = .ok (.v .non) (S.set n g3.c ++ [.lst ((ws ++ [wordAt b f z i en]).map fun x => .v (.str x))]) := by
          rw [mtAppend_ref gt hz1, set_atL hS]
          simp [wordAt]
        simp only [b1_words_2, L, En, mSeq_eq, mSet_eq, mBin_eq, mVar_eq, mC_eq, List.set_cons_succ, List.set_cons_zero, List.getElem?_cons_succ, List.getElem?_cons_zero, Out.bind_ok, opMul_int zs is, opAdd_int, opMod_int (show (0 : Int) < 26 by decide), opIx_str Le hlet, thenS_ok, mDrop_eq, mMeth_eq, tyOk_lst gt, if_true, mCons_eq, mNil_eq, opAdd_str s1, opMod_int (show (0 : Int) < 4 by decide), opIx_lst hed, opAdd_str s2, ap]
      · rcases Nat.lt_trichotomy j ws.length with hj' | hj' | hj'
        · rw [List.getElem?_append_left hj'] at hj
          exact hws j w hj
        · subst hj'
          rw [List.getElem?_append_right (Nat.le_refl _), Nat.sub_self] at hj
          cases hj
          exact ⟨en, hen, by rw [hl]⟩
        · rw [List.getElem?_eq_none (by simp; omega)] at hj
          cases hj)
  subst hS' hm'
  have hl : ws.length = k.toNat := by rw [hlen, rangeD_len]
  refine ⟨g3, ws, ?_, by omega, ?_, ?_, fun x hx => ?_⟩
  · refine mDefV_rtL (n := S.length) (xs := ws.map D.str) [.lst (ws.map fun x => .v (.str x))] ?_ (by rw [get_atL hS]; simp) (by simp) (upd_set n (g3.lo _))
    have e2' : (mBin opIx (mLstV (mCons (mC (.v (.int 1))) (mCons (mC (.v (.int 3))) (mCons (mC (.v (.int 5))) (mCons (mC (.v (.int 7))) (mCons (mC (.v (.int 9))) (mCons (mC (.v (.int 11))) mNil))))))) (mCall M_take_2 (mCons (mVar 0) (mCons (mC (.v (.int 6))) mNil)))) [some (.ref n), some (.v (.int k)), some L, some (.v (.int f)), none, none, none, none, none, none] (S.set n g1.c) = .ok (.v (.int z)) (S.set n g2.c) := e2
    have e3' : (mBin opIx (mLstV (mCons (mC (.v (.str ""))) (mCons (mC (.v (.str "k"))) mNil))) (mCall M_take_2 (mCons (mVar 0) (mCons (mC (.v (.int 2))) mNil)))) [some (.ref n), some (.v (.int k)), some L, some (.v (.int f)), some (.v (.int z)), none, none, none, none, none] (S.set n g2.c) = .ok (.v (.str b)) (S.set n g3.c) := e3
    unfold m_words_2
    simp only [List.map_cons, List.map_nil, List.length_cons, List.length_nil, List.replicate, List.cons_append, List.nil_append, Nat.reduceAdd, Nat.reduceSub]
    rw [mSeq_nx (m' := [some (.ref n), some (.v (.int k)), some L, none, none, none, none, none, none, none]) (S' := S) (by simp [L])]
    rw [mSeq_nx (m' := [some (.ref n), some (.v (.int k)), some L, some (.v (.int f)), none, none, none, none, none, none]) (S' := S.set n g1.c) (by simp [e1])]
    rw [mSeq_nx (m' := [some (.ref n), some (.v (.int k)), some L, some (.v (.int f)), some (.v (.int z)), none, none, none, none, none]) (S' := S.set n g2.c) (by rw [mSet_eq, e2']; rfl)]
    rw [mSeq_nx (m' := [some (.ref n), some (.v (.int k)), some L, some (.v (.int f)), some (.v (.int z)), some (.v (.str b)), none, none, none, none]) (S' := S.set n g3.c) (by rw [mSet_eq, e3']; rfl)]
    rw [mSeq_nx (m' := [some (.ref n), some (.v (.int k)), some L, some (.v (.int f)), some (.v (.int z)), some (.v (.str b)), some En, none, none, none]) (S' := S.set n g3.c) (by simp [En])]
    rw [mSeq_nx (m' := [some (.ref n), some (.v (.int k)), some L, some (.v (.int f)), some (.v (.int z)), some (.v (.str b)), some En, some (.ref S.length), none, none]) (S' := S.set n g3.c ++ [.lst []]) (by simp)]
    simp only [mSeq_eq, mFor_eq, srcRange1_eq, mCons_eq, mVar_eq, mNil_eq, List.getElem?_cons_zero, List.getElem?_cons_succ, Out.bind_ok, rg1_int h0 (show k < 2 ^ 62 by omega), thenS_ok, eL, mRet_eq]
  · refine List.pairwise_iff_getElem.mpr fun i j hi hj hij q => ?_
    rw [List.length_map] at hi hj
    rw [List.getElem_map, List.getElem_map] at q
    obtain ⟨e5, _, h5⟩ := hws i ws[i] (List.getElem?_eq_getElem hi)
    obtain ⟨e6, _, h6⟩ := hws j ws[j] (List.getElem?_eq_getElem hj)
    rw [h5, h6] at q
    have := newW_inj (begs2_ok b hbb).1 hz (by omega) (by omega) q
    omega
  · refine List.pairwise_iff_getElem.mpr fun i j hi hj hij q => ?_
    obtain ⟨e5, _, h5⟩ := hws i ws[i] (List.getElem?_eq_getElem hi)
    obtain ⟨e6, _, h6⟩ := hws j ws[j] (List.getElem?_eq_getElem hj)
    rw [h5, h6] at q
    have := wordAt_inj hz (by omega) (by omega) q
    omega
  · obtain ⟨j, hj, q⟩ := List.getElem_of_mem hx
    obtain ⟨e5, h5, h6⟩ := hws j x (by rw [List.getElem?_eq_getElem hj, q])
    rw [h6]
    exact wordAt_good2 hbb h5
theorem great_2_newW {b0 : Nat} {S : Store} {n : Nat} {h : Pot b0} (e : S[n]? = some h.c) (hb0 : b0 + 40 ≤ 2 ^ 40) : ∃ (h' : Pot (b0 + 40)) (t : T), M_great_2 [.ref n] S = .ok (.v t.d) (S.set n h'.c) ∧ t.Ok ∧ t.ls.Nodup ∧ (t.ls.map newW).Nodup ∧ t.ls.length ≤ 8 := by
  obtain ⟨a, g1, e1, a0, a1⟩ := take_2_spec (k := 8) e (by omega) (by decide) (by decide)
  obtain ⟨lim, hlim, l0, l1⟩ : ∃ lim : Int, (if (a == 0) = true then D.int 8 else .int 5) = .int lim ∧ 5 ≤ lim ∧ lim ≤ 8 := by
    by_cases hc : (a == 0) = true
    · exact ⟨8, by simp [hc], by decide, by decide⟩
    · exact ⟨5, by simp [hc], by decide, by decide⟩
  obtain ⟨b, g2, e2, b0', b1⟩ := take_2_spec (k := lim) (get_set e g1.c) (by omega) (by omega) (by omega)
  rw [List.set_set] at e2
  obtain ⟨g3, ws, e3, hwl, hnw, hnd, hok⟩ := words_2_newW (k := 1 + b) (get_set e g2.c) (by omega) (by omega) (by omega)
  rw [List.set_set] at e3
  obtain ⟨g4, t, e4, ht⟩ := tree_spec (ts := ws.map T.leaf) (get_set e g3.c) (by intro h; have := congrArg List.length h; simp at this; rw [this] at hwl; simp at hwl; omega) (by simp; omega) (by simp; omega)
  rw [List.set_set] at e4
  have htl : t.ls.Perm ws := by rw [flat_leaf] at ht; exact ht
  have e4' : M_tree [.ref n, .v (.lst (ws.map D.str))] (S.set n g3.c) = .ok (.v t.d) (S.set n g4.c) := by
    rw [List.map_map] at e4
    exact e4
  have hlen : (ws.map T.leaf).length = ws.length := by simp
  refine ⟨g4.up (by rw [hlen]; omega), t, mDefV_rtU ?_ (upd_set n (g4.lo _)), fun x hx => hok x (htl.mem_iff.mp hx), htl.nodup_iff.mpr hnd, (htl.map newW).nodup_iff.mpr hnw, by rw [htl.length_eq]; omega⟩
  simp only [m_great_2, List.map_cons, List.map_nil, List.length_cons, List.length_nil, List.replicate, List.cons_append, List.nil_append, Nat.reduceAdd, Nat.reduceSub, mBin_eq, mC_eq, mCall_eq, mCons_eq, mVar_eq, mNil_eq, List.getElem?_cons_succ, List.getElem?_cons_zero, Out.bind_ok, mLstV_eq, frzO_2, Nat.zero_add, sz2, if_true, e1, opEq_int, biInt_bl, opIx_2', hlim, e2, opAdd_int, thenS_ok, mRet_eq, e3, e4']
  rfl
theorem c7W {v : Str} (g : GoodW v) (S : Store) : opSl (.v (.str v)) none (some 7) S = .ok (.v (.str (cutS v none (some 7)))) S := by
  unfold opSl; simp only; rw [if_pos (sz_of (by have := g.2.1; omega))]
theorem addW {v : Str} (g : GoodW v) (S : Store) : opAdd (.v (.str "w")) (.v (.str (cutS v none (some 7)))) S = .ok (.v (.str (newW v))) S := by
  have s1 : (Str.ofString "w").length + (cutS v none (some 7)).length ≤ sizeLine := by
    have := (newW_ok g).2.1
    unfold newW at this
    rw [str_len_append] at this
    exact sz_of (by omega)
  rw [opAdd_str s1]; rfl
theorem called_0 : ∀ (t : T) (k : Nat) (S : Store), t.depth < k → t.Ok → R_called k [.v t.d, .v (.int 0)] S = .ok (.v (t.mapL newW).d) S
  | _, 0, _, h, _ => by omega
  | .leaf w, k + 1, S, hk, ho => by
    have g := ho w (by simp [T.ls])
    refine eq_wE ?_
    simp only [T.d]
    simp_arith [R_called, m_called, c7W g, addW g]
    rfl
  | .node l r, k + 1, S, hk, ho => by
    simp only [T.depth] at hk
    have m1 : l.depth ≤ Nat.max l.depth r.depth := Nat.le_max_left ..
    have m2 : r.depth ≤ Nat.max l.depth r.depth := Nat.le_max_right ..
    have hk' : Nat.max l.depth r.depth + 1 < k + 1 := hk
    have e1 := fun S => called_0 l k S (by omega) (fun w hw => ho w (by simp [T.ls, hw]))
    have e2 := fun S => called_0 r k S (by omega) (fun w hw => ho w (by simp [T.ls, hw]))
    have i0 : ∀ S, opIx (.v (.tup [l.d, r.d])) (.v (.int 0)) S = .ok (.v l.d) S := fun S => opIx_t0
    have i1 : ∀ S, opIx (.v (.tup [l.d, r.d])) (.v (.int 1)) S = .ok (.v r.d) S := fun S => opIx_t1
    refine eq_wE ?_
    rw [T.d]
    have ix : ∀ a b : D, ∀ S, opIx (.v (.lst [a, b])) (.v (.int 0)) S = .ok (.v a) S := fun a b S => rfl
    simp_arith [R_called, m_called, i0, i1, e1, e2, ix]
    rfl
theorem called_1 : ∀ (t : T) (k : Nat) (S : Store), t.depth < k → t.Ok → R_called k [.v t.d, .v (.int 1)] S = .ok (.v (t.turn newW).d) S
  | _, 0, _, h, _ => by omega
  | .leaf w, k + 1, S, hk, ho => by
    have g := ho w (by simp [T.ls])
    refine eq_wE ?_
    simp only [T.d]
    simp_arith [R_called, m_called, c7W g, addW g]
    rfl
  | .node l r, k + 1, S, hk, ho => by
    simp only [T.depth] at hk
    have m1 : l.depth ≤ Nat.max l.depth r.depth := Nat.le_max_left ..
    have m2 : r.depth ≤ Nat.max l.depth r.depth := Nat.le_max_right ..
    have hk' : Nat.max l.depth r.depth + 1 < k + 1 := hk
    have e1 := fun S => called_1 l k S (by omega) (fun w hw => ho w (by simp [T.ls, hw]))
    have e2 := fun S => called_1 r k S (by omega) (fun w hw => ho w (by simp [T.ls, hw]))
    have i0 : ∀ S, opIx (.v (.tup [l.d, r.d])) (.v (.int 0)) S = .ok (.v l.d) S := fun S => opIx_t0
    have i1 : ∀ S, opIx (.v (.tup [l.d, r.d])) (.v (.int 1)) S = .ok (.v r.d) S := fun S => opIx_t1
    refine eq_wE ?_
    rw [T.d]
    have ix : ∀ a b : D, ∀ S, opIx (.v (.lst [a, b])) (.v (.int 1)) S = .ok (.v b) S := fun a b S => rfl
    simp_arith [R_called, m_called, i0, i1, e1, e2, ix]
    rfl
theorem numbers_spec : ∀ (t : T) (k : Nat) (n : Nat) (S : Store), t.depth < k → t.ls.length ≤ 1000 → R_numbers k [.v t.d, .v (natD n)] S = .ok (.v (.lst ((NN t n).map natD))) S
  | _, 0, _, _, h, _ => by omega
  | .leaf w, k + 1, n, S, hk, hz => by
    refine eq_wE ?_
    simp only [T.d]
    simp_arith [R_numbers, m_numbers]
    rfl
  | .node l r, k + 1, n, S, hk, hz => by
    simp only [T.depth] at hk
    have m1 : l.depth ≤ Nat.max l.depth r.depth := Nat.le_max_left ..
    have m2 : r.depth ≤ Nat.max l.depth r.depth := Nat.le_max_right ..
    have hk' : Nat.max l.depth r.depth + 1 < k + 1 := hk
    have hz' : l.ls.length + r.ls.length ≤ 1000 := by simpa [T.ls] using hz
    have c1 := l.cnt_ls
    have c2 := r.cnt_ls
    have e1 := fun n S => numbers_spec l k n S (by omega) (by omega)
    have e2 := fun n S => numbers_spec r k n S (by omega) (by omega)
    have i0 : ∀ S, opIx (.v (.tup [l.d, r.d])) (.v (.int 0)) S = .ok (.v l.d) S := fun S => opIx_t0
    have i1 : ∀ S, opIx (.v (.tup [l.d, r.d])) (.v (.int 1)) S = .ok (.v r.d) S := fun S => opIx_t1
    have b1 : ∀ n S, biLen [.v (.lst ((NN l n).map natD))] S = .ok (.v (natD l.cnt)) S := fun n S => by rw [biLen_lst, List.length_map, NN_len]; rfl
    have b2 : ∀ n S, biLen [.v (.lst ((NN r n).map natD))] S = .ok (.v (natD r.cnt)) S := fun n S => by rw [biLen_lst, List.length_map, NN_len]; rfl
    have ad : ∀ a b S, opAdd (.v (natD a)) (.v (natD b)) S = .ok (.v (natD (a + b))) S := fun a b S => by unfold natD; rw [opAdd_int]; rfl
    refine eq_wE ?_
    rw [T.d]
    simp_arith [R_numbers, m_numbers, i0, i1, e1, e2, b1, b2, ad]
    have l1 := NN_len l n
    have l2 := NN_len r (n + l.cnt)
    rw [wE, opAdd_lst (sz_of (by simp [l1, l2]; omega)), kB_ok]
    refine (popAddR (S1 := S) (xs := (NN r (n + l.cnt)).map natD ++ (NN l n).map natD) (by rw [List.getElem?_append_right (Nat.le_refl _), Nat.sub_self, List.map_append]; rfl) rfl (.refl S) (sz_of (by simp [l1, l2]; omega))).mpr ?_
    simp_arith []
    simp [NN]
theorem house_nat {q : R} {h : Nat} {x y z : D} {S : Store} : M_house_of [q, .v (.tup [natD h, x, y, z])] S = .ok (.v (natD h)) S := by
  refine eq_wE ?_
  unfold natD
  simp_arith [M_house_of, m_house_of]
theorem path_short {g : Gr} (G : Grd g) : ∀ p : List Nat, pathN g p = true → p.length ≤ 1000 := by
  have key : ∀ p : List Nat, pathN g p = true → p.length ≤ p.headD 0 + 1 := fun p => by
    induction p with
    | nil => intro h; simp [pathN] at h
    | cons x q ih =>
      intro h
      cases q with
      | nil => simp
      | cons b q =>
        obtain ⟨h1, h2, h3⟩ := pathN_cons.mp h
        have := ih h3
        have hb := (G.un x h1).1 b h2
        simp only [List.headD_cons, List.length_cons] at this ⊢
        omega
  intro p h
  have h1 := key p h
  have h2 := (pathN_inv h).2.1 (p.headD 0) (by
    have := (pathN_inv h).1
    cases p with
    | nil => exact absurd rfl this
    | cons x q => simp)
  have := G.len
  omega
theorem moved_spec {σ : Nat → Nat} {sp : List Nat} {g : Gr} (G : Grd g) (hs : ∀ x, x < g.length → sp[x]? = some (σ x)) : ∀ (y : Wy) (s : T) (k : Nat) (S : Store), wayN g s y = true → s.depth < k → R_moved k [.v y.d, .v (.lst (sp.map natD))] S = .ok (.v (y.mv σ).d) S
  | _, _, 0, _, _, h => by omega
  | .one p d, s, k + 1, S, hy, hk => by
    obtain ⟨w', e1, h1, rfl, h2⟩ := way_inv1' hy
    have pl := path_short G p h1
    have pi := (pathN_inv h1).2.1
    have ix : ∀ x ∈ p, ∀ S, opIx (.v (.lst (sp.map natD))) (.v (natD x)) S = .ok (.v (natD (σ x))) S := fun x hx S => opIx_lst (by
      unfold natD
      rw [atI_lt (by omega), Int.toNat_natCast, List.getElem?_map, hs x (pi x hx)]; rfl)
    have i0 : ∀ S, opIx (.v (Wy.one p "found").d) (.v (.int 0)) S = .ok (.v (pD p)) S := fun S => rfl
    have i1 : ∀ S, opIx (.v (Wy.one p "found").d) (.v (.int 1)) S = .ok (.v (.str "found")) S := fun S => rfl
    have sl : ∀ S, opSl (.v (Wy.one p "found").d) (some 2) none S = .ok (.v (.tup [])) S := fun S => rfl
    refine eq_wE ?_
    simp_arith [R_moved, m_moved, i0, pD]
    refine lcT_wp p (fun x => .v (natD x)) (fun x => natD (σ x)) (by rw [List.map_map]; rfl) (.refl _) (sz_of (by omega)) ?_ ?_
    · intro x hx acc
      simp_arith [ix x hx]
    simp_arith [i1, sl]
    refine lcT_wp ([] : List Wy) (fun x => .v x.d) (fun x => x.d) rfl (.refl _) (sz_of (by simp)) ?_ ?_
    · intro x hx; simp at hx
    simp_arith []
    refine wE_eq (opAdd_tup (sz_of (by simp))) ?_
    simp_arith []
    simp [Wy.mv, Wy.d, pD]
  | .two p d a b, s, k + 1, S, hy, hk => by
    obtain ⟨l, r, rfl, h1, h2, h3, h4⟩ := way_inv2' hy
    simp only [T.depth] at hk
    have m1 : l.depth ≤ Nat.max l.depth r.depth := Nat.le_max_left ..
    have m2 : r.depth ≤ Nat.max l.depth r.depth := Nat.le_max_right ..
    have hk' : Nat.max l.depth r.depth + 1 < k + 1 := hk
    have ea := fun S => moved_spec G hs a l k S h2 (by omega)
    have eb := fun S => moved_spec G hs b r k S h3 (by omega)
    have pl := path_short G p h1
    have pi := (pathN_inv h1).2.1
    have ix : ∀ x ∈ p, ∀ S, opIx (.v (.lst (sp.map natD))) (.v (natD x)) S = .ok (.v (natD (σ x))) S := fun x hx S => opIx_lst (by
      unfold natD
      rw [atI_lt (by omega), Int.toNat_natCast, List.getElem?_map, hs x (pi x hx)]; rfl)
    have i0 : ∀ S, opIx (.v (Wy.two p d a b).d) (.v (.int 0)) S = .ok (.v (pD p)) S := fun S => rfl
    have i1 : ∀ S, opIx (.v (Wy.two p d a b).d) (.v (.int 1)) S = .ok (.v (.str d)) S := fun S => rfl
    have sl : ∀ S, opSl (.v (Wy.two p d a b).d) (some 2) none S = .ok (.v (.tup [a.d, b.d])) S := fun S => rfl
    refine eq_wE ?_
    simp_arith [R_moved, m_moved, i0, pD]
    refine lcT_wp p (fun x => .v (natD x)) (fun x => natD (σ x)) (by rw [List.map_map]; rfl) (.refl _) (sz_of (by omega)) ?_ ?_
    · intro x hx acc
      simp_arith [ix x hx]
    simp_arith [i1, sl]
    refine lcT_wp ([a, b] : List Wy) (fun x => .v x.d) (fun x => (x.mv σ).d) rfl (.refl _) (sz_of (by simp)) ?_ ?_
    · intro x hx acc
      simp only [List.mem_cons, List.not_mem_nil, or_false] at hx
      rcases hx with rfl | rfl
      · simp_arith [ea]
      · simp_arith [eb]
    simp_arith []
    refine wE_eq (opAdd_tup (sz_of (by simp))) ?_
    simp_arith []
    simp [Wy.mv, Wy.d, pD]
end Q
namespace M
open PySem PySem.Spec L2
open PyProof.Rows hiding St
theorem Iso.mv {g g' : Gr} {σ : Nat → Nat} {ρ : Str → Str} (I : Iso g g' σ ρ) : ∀ (s : T) (y : Wy), wayN g s y = true → wayN g' (s.mapL ρ) (y.mv σ) = true := by
  intro s
  induction s with
  | leaf w =>
    intro y hy
    cases y with
    | two p d a b => cases hy
    | one p d =>
      obtain ⟨w', e1, h1, rfl, h2⟩ := way_inv1' hy
      cases e1
      have hne := (pathN_inv h1).1
      have h3 := I.nm _ (path_last h1) w h2
      rw [← last_map σ p hne] at h3
      simp only [T.mapL, Wy.mv, wayN, I.path p h1, h3]; decide
  | node l r il ir =>
    intro y hy
    cases y with
    | one p d => cases hy
    | two p d a b =>
      obtain ⟨l1, r1, e1, h1, h2, h3, h4⟩ := way_inv2' hy
      cases e1
      have hne := (pathN_inv h1).1
      have h5 := I.dom (path_last h1) h4
      have pm : ∀ y : Wy, (y.mv σ).p = y.p.map σ := fun y => by cases y <;> rfl
      rw [← last_map σ p hne, ← head_map σ a.p (way_head h2).2, ← head_map σ b.p (way_head h3).2, ← pm, ← pm] at h5
      simp only [T.mapL, Wy.mv, wayN, I.path p h1, il a h2, ir b h3, h5]; decide
end M
namespace M
open PySem PySem.Spec L2
open PyProof.Rows hiding St
theorem pos_swap {ρ : Str → Str} {l r l' r' : T} {a b : Nat → Nat} (A : Pos ρ l l' a) (B : Pos ρ r r' b) (cl : l'.cnt = l.cnt) (cr : r'.cnt = r.cnt) : Pos ρ (.node l r) (.node r' l') (fun i => if i < l.cnt then r.cnt + a i else if i < l.cnt + r.cnt then b (i - l.cnt) else l.cnt + r.cnt) := by
  have pl := l.cnt_pos
  have pr := r.cnt_pos
  let σ : Nat → Nat := fun i => if i < l.cnt then r.cnt + a i else if i < l.cnt + r.cnt then b (i - l.cnt) else l.cnt + r.cnt
  have sl : ∀ i, i < l.cnt → σ i = r.cnt + a i := fun i h => if_pos h
  have sr : ∀ i, i < r.cnt → σ (l.cnt + i) = b i := fun i h => by
    show (if l.cnt + i < l.cnt then _ else if l.cnt + i < l.cnt + r.cnt then _ else _) = _
    rw [if_neg (by omega), if_pos (by omega), Nat.add_sub_cancel_left]
  have st : σ (l.cnt + r.cnt) = l.cnt + r.cnt := by
    show (if l.cnt + r.cnt < l.cnt then _ else if l.cnt + r.cnt < l.cnt + r.cnt then _ else _) = _
    rw [if_neg (by omega), if_neg (by omega)]
  have split : ∀ i, i < (T.node l r).cnt → i < l.cnt ∨ (∃ j, j < r.cnt ∧ i = l.cnt + j) ∨ i = l.cnt + r.cnt := fun i h => by
    simp only [T.cnt] at h
    by_cases h1 : i < l.cnt
    · exact .inl h1
    · by_cases h2 : i - l.cnt < r.cnt
      · exact .inr (.inl ⟨_, h2, by omega⟩)
      · exact .inr (.inr (by omega))
  have ixl : ∀ {i u}, (T.node l r).subs[i]? = some u → i < (T.node l r).cnt := fun h => by rw [← T.subs_len]; exact (List.getElem?_eq_some_iff.mp h).1
  have wl : ∀ i, i < l.cnt → (T.node r' l').subs[r.cnt + a i]? = l'.subs[a i]? := fun i h => by rw [← cr]; exact sub_r (by rw [cl]; exact A.lt i h)
  have wr : ∀ i, i < r.cnt → (T.node r' l').subs[b i]? = r'.subs[b i]? := fun i h => sub_l (by rw [cr]; exact B.lt i h)
  have wt : (T.node r' l').subs[l.cnt + r.cnt]? = some (.node r' l') := by rw [← cl, ← cr, Nat.add_comm]; exact sub_t r' l'
  show Pos ρ (.node l r) (.node r' l') σ
  refine ⟨fun i hi => ?_, ?_, fun i w h => ?_, fun i p q h => ?_, fun i j hi hj h => ?_⟩
  · rcases split i hi with h | ⟨j, h, rfl⟩ | rfl
    · rw [sl i h]; have := A.lt i h; simp only [T.cnt]; omega
    · rw [sr j h]; have := B.lt j h; simp only [T.cnt]; omega
    · rw [st]; simp only [T.cnt]; omega
  · simp only [T.cnt, Nat.add_sub_cancel]; exact st
  · rcases split i (ixl h) with q | ⟨j, q, rfl⟩ | rfl
    · rw [sub_l q] at h; rw [sl i q, wl i q]; exact A.lf i w h
    · rw [sub_r q] at h; rw [sr j q, wr j q]; exact B.lf j w h
    · rw [sub_t] at h; cases h
  · rcases split i (ixl h) with z | ⟨j, z, rfl⟩ | rfl
    · rw [sub_l z] at h
      have k0 := T.sub_cnt l i _ h
      simp only [T.cnt] at k0
      obtain ⟨p', q', e, f⟩ := A.nd i p q h
      have k1 := T.sub_cnt l' _ _ e
      simp only [T.cnt] at k1
      have pc' := p'.cnt_pos
      rw [sl i z, wl i z, sl (i - 1 - q.cnt) (by omega), sl (i - 1) (by omega)]
      exact ⟨p', q', e, by omega⟩
    · rw [sub_r z] at h
      have k0 := T.sub_cnt r j _ h
      simp only [T.cnt] at k0
      have pc := p.cnt_pos
      obtain ⟨p', q', e, f⟩ := B.nd j p q h
      rw [sr j z, wr j z, show l.cnt + j - 1 - q.cnt = l.cnt + (j - 1 - q.cnt) by omega, show l.cnt + j - 1 = l.cnt + (j - 1) by omega, sr (j - 1 - q.cnt) (by omega), sr (j - 1) (by omega)]
      exact ⟨p', q', e, f⟩
    · rw [sub_t] at h
      cases h
      have ta := A.tp
      have tb := B.tp
      rw [st, wt, show l.cnt + r.cnt - 1 - r.cnt = l.cnt - 1 by omega, show l.cnt + r.cnt - 1 = l.cnt + (r.cnt - 1) by omega, sl _ (by omega), sr _ (by omega), ta, tb]
      exact ⟨r', l', rfl, .inr ⟨by omega, by omega⟩⟩
  · rcases split i hi with z | ⟨i, z, rfl⟩ | rfl <;> rcases split j hj with y | ⟨j, y, rfl⟩ | rfl
    · rw [sl i z, sl j y, ← cr] at h
      exact (anc_ll y).mpr (A.an i j z y ((anc_rr (by rw [cl]; exact A.lt j y)).mp h))
    · rw [sl i z, sr j y] at h
      have := B.lt j y
      exact absurd h (anc_lr (by omega))
    · exact anc_t (by omega)
    · rw [sr i z, sl j y, ← cr] at h
      exact absurd h (anc_rl (by rw [cl]; exact A.lt j y) (by rw [cr]; exact B.lt i z))
    · rw [sr i z, sr j y] at h
      exact (anc_rr y).mpr (B.an i j z y ((anc_ll (by rw [cr]; exact B.lt j y)).mp h))
    · exact anc_t (by omega)
    · rw [st, sl j y] at h
      have := A.lt j y
      exact absurd h (anc_lr (by omega))
    · rw [st, sr j y] at h
      have := B.lt j y
      exact absurd h (anc_lr (by omega))
    · exact anc_t (by omega)
/-- where each node of a tree lies in the turned one -/
def tau : T → Nat → Nat
  | .leaf _, _ => 0
  | .node l r, i => if i < l.cnt then r.cnt + tau l i else if i < l.cnt + r.cnt then tau r (i - l.cnt) else l.cnt + r.cnt
theorem tau_pos (ρ : Str → Str) : ∀ t : T, Pos ρ t (t.turn ρ) (tau t)
  | .leaf w => by
    show Pos ρ (.leaf w) (.leaf (ρ w)) (fun _ => 0)
    refine ⟨fun i hi => Nat.one_pos, rfl, fun i w' h => ?_, fun i l r h => ?_, fun i j hi hj _ => ?_⟩
    · cases i with
      | zero => cases h; rfl
      | succ i => simp [T.subs] at h
    · cases i with
      | zero => cases h
      | succ i => simp [T.subs] at h
    · have hi : i < 1 := hi
      have hj : j < 1 := hj
      exact ⟨.leaf w, by rw [show j = 0 by omega]; rfl, by omega, by simp [T.cnt]; omega⟩
  | .node l r => pos_swap (tau_pos ρ l) (tau_pos ρ r) (l.turn_trn ρ).cnt (r.turn_trn ρ).cnt
theorem NN_tau : ∀ (t : T) (k i : Nat), i < t.cnt → (NN t k)[tau t i]? = some (k + i)
  | .leaf w, k, i, h => by
    have h : i < 1 := h
    have : i = 0 := by omega
    subst this; rfl
  | .node l r, k, i, h => by
    simp only [T.cnt] at h
    have ll := NN_len l k
    have lr := NN_len r (k + l.cnt)
    have tl := (tau_pos id l).lt
    have tr := (tau_pos id r).lt
    simp only [NN, tau]
    by_cases h1 : i < l.cnt
    · have := tl i h1
      rw [if_pos h1, List.getElem?_append_left (by rw [List.length_append]; omega), List.getElem?_append_right (by omega), lr, Nat.add_sub_cancel_left]
      exact NN_tau l k i h1
    · by_cases h2 : i < l.cnt + r.cnt
      · have := tr (i - l.cnt) (by omega)
        rw [if_neg h1, if_pos h2, List.getElem?_append_left (by rw [List.length_append]; omega), List.getElem?_append_left (by omega), NN_tau r _ _ (by omega)]
        congr 1; omega
      · rw [if_neg h1, if_neg h2, List.getElem?_append_right (by rw [List.length_append]; omega), List.length_append, lr, ll, show l.cnt + r.cnt - (r.cnt + l.cnt) = 0 by omega]
        show some _ = some _
        congr 1; omega
theorem NN_nodup (t : T) (k : Nat) : (NN t k).Nodup := (NN_perm t k).nodup_iff.mpr (List.nodup_range' (step := 1) (by decide))
theorem NN_mem {t : T} {k x : Nat} : x ∈ NN t k ↔ k ≤ x ∧ x < k + t.cnt := by
  rw [(NN_perm t k).mem_iff, List.mem_range'_1]
/-- which node of the tree a node of the turned one is -/
def nu (t : T) (i : Nat) : Nat := (NN t 0).getD i 0
theorem nu_at {t : T} {i : Nat} (h : i < t.cnt) : (NN t 0)[i]? = some (nu t i) := by
  unfold nu
  rw [List.getD_eq_getElem?_getD, List.getElem?_eq_getElem (by rw [NN_len]; exact h)]; rfl
theorem nu_lt {t : T} {i : Nat} (h : i < t.cnt) : nu t i < t.cnt := by
  have := NN_mem.mp (List.mem_of_getElem? (nu_at h))
  omega
theorem nu_tau {t : T} {i : Nat} (h : i < t.cnt) : nu t (tau t i) = i := by
  have h1 := NN_tau t 0 i h
  rw [nu_at ((tau_pos id t).lt i h), Nat.zero_add] at h1
  exact Option.some.inj h1
theorem tau_nu {t : T} {i : Nat} (h : i < t.cnt) : tau t (nu t i) = i := by
  have h1 := NN_tau t 0 (nu t i) (nu_lt h)
  rw [Nat.zero_add] at h1
  have h2 := nu_at h
  obtain ⟨a1, a2⟩ := List.getElem?_eq_some_iff.mp h1
  obtain ⟨b1, b2⟩ := List.getElem?_eq_some_iff.mp h2
  have e1 := (NN_nodup t 0).idxOf_getElem _ a1
  have e2 := (NN_nodup t 0).idxOf_getElem _ b1
  rw [a2] at e1
  rw [b2] at e2
  exact e1.symm.trans e2
/-- the bare ground -/
theorem turn_iso (ρ : Str → Str) (t : T) : Iso (grO t) (grO (t.turn ρ)) (tau t) ρ := (tau_pos ρ t).iso (t.turn_trn ρ).cnt
end M
namespace Q
open PySem hiding Env
open L2 M
end Q
namespace M
open PySem PySem.Spec L2
open PyProof.Rows hiding St
theorem sm_of {i : Int} {k : Nat} (h0 : 0 ≤ i) (h : i < 2 ^ k) (hk : k ≤ 400000) : i.natAbs < smLine := by
  refine sm_lt k ?_ hk
  have e : ((i.natAbs : Nat) : Int) = i := Int.natAbs_of_nonneg h0
  have : ((i.natAbs : Nat) : Int) < ((2 ^ k : Nat) : Int) := by rw [e]; simpa using h
  exact Int.ofNat_lt.mp this
end M
namespace Q
open PySem hiding Env
open L2 M
end Q
namespace M
open PySem PySem.Spec L2
open PyProof.Rows hiding St
end M
namespace Q
open PySem hiding Env
open L2 M
end Q
namespace Q
open PySem hiding Env
open L2 M
noncomputable def b1_take_6 : MS :=
  (mDrop (mMeth "list" mtPop (mBin opIx (mVar 0) (mC (.int 0))) (mCons (mC (.int 0)) mNil)))
noncomputable def m_take_6 : MS :=
  (mSeq (mWhile (mtAnd (mtB (mBin opNe (mBin opIx (mVar 0) (mC (.int 0))) (mLstV mNil))) (mtB (mBin opEq (mBin opIx (mBin opIx (mVar 0) (mC (.int 0))) (mC (.int 0))) (mC (.int 0))))) b1_take_6)
  (mSeq (mIfS (mtB (mBin opNe (mBin opIx (mVar 0) (mC (.int 0))) (mLstV mNil))) (mSeq (mSet 2 (mBin opMod (mBin opIx (mBin opIx (mVar 0) (mC (.int 0))) (mC (.int 0))) (mVar 1)))
  (mSeq (mSetIx (mBin opFdiv (mBin opIx (mBin opIx (mVar 0) (mC (.int 0))) (mC (.int 0))) (mVar 1)) (mBin opIx (mVar 0) (mC (.int 0))) (mC (.int 0)))
  (mRet (mVar 2)))) mSkip)
  (mSeq (mSetIx (mBin opAdd (mBin opIx (mVar 0) (mC (.int 2))) (mC (.int 1))) (mVar 0) (mC (.int 2)))
  (mSeq (mSet 3 (mBin opMod (mBin opMul (mBin opAdd (mBin opAdd (mBin opIx (mVar 0) (mC (.int 1))) (mBin opMul (mBin opMul (mC (.int 104729)) (mBin opIx (mVar 0) (mC (.int 2)))) (mBin opIx (mVar 0) (mC (.int 2))))) (mC (.int 7))) (mC (.int 69621))) (mC (.int 2305843009213693921))))
  (mSeq (mSet 3 (mBin opMod (mBin opMul (mVar 3) (mBin opAdd (mBin opMod (mVar 3) (mC (.int 999983))) (mBin opMul (mC (.int 65537)) (mBin opIx (mVar 0) (mC (.int 2)))))) (mC (.int 2305843009213693907))))
  (mRet (mBin opMod (mBin opAdd (mBin opFdiv (mVar 3) (mC (.int 89))) (mBin opFdiv (mVar 3) (mC (.int 999979)))) (mVar 1))))))))
noncomputable def M_take_6 : List R → Store → Out R := mDefV 4 (m_take_6)
noncomputable def m_of (g_take_6 : List R → Store → Out R) : MS :=
  (mRet (mBin opIx (mVar 1) (mCall g_take_6 (mCons (mVar 0) (mCons (mCall biLen (mCons (mVar 1) mNil)) mNil)))))
noncomputable def M_of : List R → Store → Out R := mDefV 2 (m_of M_take_6)
end Q
namespace M
open PySem PySem.Spec L2
open PyProof.Rows hiding St
structure PtE (b : Nat) where
  cs : List Int
  y : Int
  z : Int
  hc : ∀ c ∈ cs, 0 ≤ c
  hl : cs.length ≤ 63
  hy : 0 ≤ y
  hyl : y < 2305843009213693951
  hz : 0 ≤ z
  hzb : z ≤ b
def PtE.a {b : Nat} (h : PtE b) : MO := .lst ((h.cs.map D.int).map .v)
def PtE.c {b : Nat} (h : PtE b) (n : Nat) : MO := .lst [.ref n, .v (.int h.y), .v (.int h.z)]
def PtE.up {b c : Nat} (h : PtE b) (hb : b ≤ c) : PtE c := ⟨h.cs, h.y, h.z, h.hc, h.hl, h.hy, h.hyl, h.hz, by have := h.hzb; omega⟩
/-- it lies at n, n + 1 -/
structure AtE {b : Nat} (S : Store) (n : Nat) (h : PtE b) : Prop where
  a : S[n]? = some h.a
  c : S[n + 1]? = some (h.c n)
def ptE {b : Nat} (S : Store) (n : Nat) (h : PtE b) : Store := (S.set n h.a).set (n + 1) (h.c n)
section
variable {b b' : Nat} {S : Store} {n : Nat}
theorem AtE.lt {h : PtE b} (e : AtE S n h) : n + 1 < S.length := (List.getElem?_eq_some_iff.mp e.c).1
theorem ptE_at {h : PtE b} (h' : PtE b') (e : AtE S n h) : AtE (ptE S n h') n h' := by
  have := e.lt
  refine ⟨?_, ?_⟩
  · unfold ptE
    rw [List.getElem?_set_ne (by omega), List.getElem?_set_self (by omega)]
  · unfold ptE
    rw [List.getElem?_set_self (by simp; omega)]
theorem ptE_same {h : PtE b} (e : AtE S n h) : ptE S n h = S := by
  unfold ptE
  rw [set_same e.a, set_same e.c]
theorem AtE.app {h : PtE b} (e : AtE S n h) (C : Store) : AtE (S ++ C) n h := ⟨get_app' e.a C, get_app' e.c C⟩
theorem ptE_upd {h : PtE b} (h' : PtE b') (e : AtE S n h) : Upd S (ptE S n h') := by
  have := e.lt
  refine ((Upd.refl S).set (lo_lst _ _)).set ?_
  intro r hr
  simp only [List.mem_cons, List.not_mem_nil, or_false] at hr
  rcases hr with rfl | rfl | rfl
  · show n < S.length
    omega
  · trivial
  · trivial
end
end M
namespace Q
open PySem hiding Env
open L2 M
theorem opNe_view {S : Store} {r e : R} {d : D} (h : view S r = some d) : opNe r e S = opNe (.v d) e S := by
  unfold opNe pyOf
  rw [h, view_v]
section
variable {b n : Nat} {S : Store} {K : Out R → Prop}
theorem take_6_wp {h : PtE b} {k : Int} (e : AtE S n h) (hb : b ≤ 2 ^ 40) (h0 : 0 < k) (h1 : k < 2 ^ 62) (c : ∀ (r : Int) (h' : PtE (b + 1)), 0 ≤ r → r < k → K (.ok (.v (.int r)) (ptE S n h'))) : wE (M_take_6 [.ref (n + 1), .v (.int k)] S) K := by
  have hk : k.natAbs < dvLine := dv64 (Nat.lt_of_lt_of_le (nab (k := 62) (by omega) h1) (by decide))
  have p0 : ∀ {b'} (g : PtE b') (U : Store), AtE U n g → opIx (.ref (n + 1)) (.v (.int 0)) U = .ok (.ref n) U := fun g U eg => opIx_ref eg.c rfl
  have p1 : ∀ {b'} (g : PtE b') (U : Store), AtE U n g → opIx (.ref (n + 1)) (.v (.int 1)) U = .ok (.v (.int g.y)) U := fun g U eg => opIx_ref eg.c rfl
  have p2 : ∀ {b'} (g : PtE b') (U : Store), AtE U n g → opIx (.ref (n + 1)) (.v (.int 2)) U = .ok (.v (.int g.z)) U := fun g U eg => opIx_ref eg.c rfl
  have ne0 : ∀ {b'} (g : PtE b') (U : Store), AtE U n g → opNe (.ref n) (.v (.lst [])) U = .ok (.v (.bl (!g.cs.isEmpty))) U := fun g U eg => by
    rw [opNe_view (view_ref eg.a), opNe_ints]
  have q0 : ∀ {b'} (g : PtE b') (U : Store) (x : Int) (xs : List Int), AtE U n g → g.cs = x :: xs → opIx (.ref n) (.v (.int 0)) U = .ok (.v (.int x)) U := fun g U x xs eg hx => opIx_ref eg.a (by rw [hx, List.map_cons, List.map_cons, atI_lt (by decide)]; rfl)
  have cu : ∀ {b'} (g : PtE b'), cut S (ptE S n g) = ptE S n g := fun g => cut_U (ptE_upd g e)
  simp_arith [M_take_6, m_take_6]
  refine while_wp [] h.cs.length (fun j ws U => ∃ g : PtE b, g.cs.length = j ∧ ws = [] ∧ U = ptE S n g) (by have := h.hl; omega) rfl ⟨h, rfl, rfl, (ptE_same e).symm⟩ ?_
  rintro j ws U ⟨g, rfl, rfl, rfl⟩
  have eg := ptE_at g e
  simp_arith [p0 g _ eg, ne0 g _ eg]
  cases hcs : g.cs with
  | nil =>
    simp_arith [List.isEmpty_nil, Bool.not_true]
    refine ⟨_, _, rfl, ?_⟩
    simp_arith [List.isEmpty_nil, Bool.not_true, p0 g _ eg, ne0 g _ eg, hcs, p2 g _ eg]
    have s1 : setIx (.ref (n + 1)) (.v (.int 2)) (.v (.int (g.z + 1))) (ptE S n g) = some (ptE S n (⟨g.cs, g.y, g.z + 1, g.hc, g.hl, g.hy, g.hyl, by have := g.hz; omega, by have := g.hzb; omega⟩ : PtE (b + 1))) := by
      rw [setIx_ref eg.c (by decide) (by simp)]
      refine congrArg some ?_
      unfold ptE
      rw [List.set_set]; rfl
    simp_arith [s1]
    generalize hg : (⟨g.cs, g.y, g.z + 1, g.hc, g.hl, g.hy, g.hyl, by have := g.hz; omega, by have := g.hzb; omega⟩ : PtE (b + 1)) = g2
    have eg2 := ptE_at g2 e
    have y0 := g2.hy; have y1 := g2.hyl; have z0 := g2.hz; have z1 := g2.hzb
    have m1 : (104729 : Int).natAbs < smLine := sm64 (by decide)
    have m2 : g2.z.natAbs < smLine := sm64 (by omega)
    have m3 : (104729 * g2.z).natAbs < smLine := sm64 (by omega)
    have mz : 104729 * g2.z * g2.z < 2 ^ 100 := by
      have h1 : g2.z * g2.z ≤ (2 ^ 40 + 1) * (2 ^ 40 + 1) := Int.mul_le_mul (by omega) (by omega) z0 (by omega)
      rw [Int.mul_assoc]
      omega
    have mz0 : 0 ≤ 104729 * g2.z * g2.z := by rw [Int.mul_assoc]; exact Int.mul_nonneg (by decide) (Int.mul_nonneg z0 z0)
    have m4 : (g2.y + 104729 * g2.z * g2.z + 7).natAbs < smLine := sm_of (k := 101) (by omega) (by omega) (by decide)
    have m5 : (69621 : Int).natAbs < smLine := sm64 (by decide)
    generalize hw : (g2.y + 104729 * g2.z * g2.z + 7) * 69621 % 2305843009213693921 = w
    have w0 : 0 ≤ w ∧ w < 2305843009213693921 := by rw [← hw]; exact ⟨Int.emod_nonneg _ (by decide), Int.emod_lt_of_pos _ (by decide)⟩
    have w2 : 0 ≤ w % 999983 ∧ w % 999983 < 999983 := ⟨Int.emod_nonneg _ (by decide), Int.emod_lt_of_pos _ (by decide)⟩
    have m6 : w.natAbs < smLine := sm64 (by omega)
    have m7 : (65537 : Int).natAbs < smLine := sm64 (by decide)
    have m8 : (w % 999983 + 65537 * g2.z).natAbs < smLine := sm64 (by omega)
    have d1 : (89 : Int).natAbs < dvLine := dv64 (by decide)
    have d2 : (999979 : Int).natAbs < dvLine := dv64 (by decide)
    simp_arith [p1 g2 _ eg2, p2 g2 _ eg2, opMul_int m1 m2, opMul_int m3 m2, opMul_int m4 m5, opMod_int (show (0 : Int) < 2305843009213693921 by decide), hw, opMod_int (show (0 : Int) < 999983 by decide), opMul_int m7 m2, opMul_int m6 m8, opMod_int (show (0 : Int) < 2305843009213693907 by decide), opFdiv_int (show (0 : Int) < 89 by decide) d1, opFdiv_int (show (0 : Int) < 999979 by decide) d2, opMod_int h0, cu]
    exact c _ g2 (Int.emod_nonneg _ (by omega)) (Int.emod_lt_of_pos _ h0)
  | cons x xs =>
    simp_arith [List.isEmpty_cons, Bool.not_false, p0 g _ eg, q0 g _ x xs eg hcs]
    by_cases hx : x = 0
    · rw [show ((x == 0) : Bool) = true from beq_iff_eq.mpr hx]
      let g2 : PtE b := ⟨xs, g.y, g.z, fun c hc => g.hc c (by rw [hcs]; exact List.mem_cons_of_mem _ hc), by have := g.hl; rw [hcs] at this; simp at this; omega, g.hy, g.hyl, g.hz, g.hzb⟩
      have pop : mtPop (.ref n) [.v (.int 0)] (ptE S n g) = .ok (.v (.int x)) (ptE S n g2) := by
        have ga := eg.a
        have hl := g.hl
        rw [hcs] at hl
        unfold PtE.a at ga
        rw [hcs] at ga
        simp only [mtPop, ga]
        rw [if_pos ⟨by decide, by simp, by simp at hl ⊢; omega⟩]
        simp only [Int.toNat_zero, List.map_cons, List.getElem?_cons_zero, List.eraseIdx_cons_zero]
        unfold ptE
        rw [List.set_comm _ _ (show n + 1 ≠ n by omega), List.set_set]; rfl
      have ty : tyOk "list" (ptE S n g) (.ref n) = true := tyOk_lst eg.a
      refine ⟨_, _, rfl, ?_⟩
      simp_arith [b1_take_6, p0 g _ eg, ty, pop]
      exact ⟨xs.length, Nat.lt_succ_self _, g2, rfl, rfl⟩
    · rw [show ((x == 0) : Bool) = false from beq_eq_false_iff_ne.mpr hx]
      have x0 : 0 ≤ x := g.hc x (by rw [hcs]; simp)
      let g2 : PtE (b + 1) := ⟨(x / k) :: xs, g.y, g.z, fun c hc => by
        rcases List.mem_cons.mp hc with rfl | hc
        · exact Int.ediv_nonneg x0 (by omega)
        · exact g.hc c (by rw [hcs]; exact List.mem_cons_of_mem _ hc), by have := g.hl; rw [hcs] at this; simpa using this, g.hy, g.hyl, g.hz, by have := g.hzb; omega⟩
      have s1 : setIx (.ref n) (.v (.int 0)) (.v (.int (x / k))) (ptE S n g) = some (ptE S n g2) := by
        have ga := eg.a
        unfold PtE.a at ga
        rw [hcs] at ga
        rw [setIx_ref ga (by decide) (by simp)]
        refine congrArg some ?_
        unfold ptE
        rw [List.set_comm _ _ (show n + 1 ≠ n by omega), List.set_set]; rfl
      refine ⟨_, _, rfl, ?_⟩
      simp_arith [p0 g _ eg, ne0 g _ eg, hcs, List.isEmpty_cons, Bool.not_false, q0 g _ x xs eg hcs, opMod_int h0, opFdiv_int h0 hk, s1, cu]
      exact c _ g2 (Int.emod_nonneg _ (by omega)) (Int.emod_lt_of_pos _ h0)
end
end Q
namespace Q
open PySem hiding Env
open L2 M
end Q
namespace M
open PySem PySem.Spec L2
open PyProof.Rows hiding St
end M
namespace Q
open PySem hiding Env
open L2 M
end Q
namespace Q
open PySem hiding Env
open L2 M
end Q
namespace Q
open PySem hiding Env
open L2 M
section
variable {b n : Nat} {S : Store} {K : Out R → Prop}
theorem of_wp {h : PtE b} {ds : List D} (e : AtE S n h) (hb : b ≤ 2 ^ 40) (hne : ds ≠ []) (hz : ds.length ≤ 1000) (c : ∀ (d : D) (h' : PtE (b + 1)), d ∈ ds → K (.ok (.v d) (ptE S n h'))) : wE (M_of [.ref (n + 1), .v (.lst ds)] S) K := by
  have hp : 0 < ds.length := List.length_pos_iff.mpr hne
  have bl : ∀ S, biLen [.v (.lst ds)] S = .ok (.v (.int (ds.length : Int))) S := fun S => biLen_lst _
  simp_arith [M_of, m_of, bl]
  refine take_6_wp e hb (by omega) (by omega) fun r h' r0 r1 => ?_
  obtain ⟨d, hd, hm⟩ := atI_some (xs := ds) r0 (by omega)
  have ix : ∀ S, opIx (.v (.lst ds)) (.v (.int r)) S = .ok (.v d) S := fun S => opIx_lst hd
  simp_arith [ix, cut_U (ptE_upd h' e)]
  exact c d h' hm
end
end Q
namespace Q
open PySem hiding Env
open L2 M
end Q
namespace Q
open PySem hiding Env
open L2 M
end Q
namespace Q
open PySem hiding Env
open L2 M
end Q
namespace M
open PySem PySem.Spec L2
open PyProof.Rows hiding St
def inn : Nat → T → List Nat
  | _, .leaf _ => []
  | k, .node l r => inn k l ++ inn (k + l.cnt) r ++ [k + l.cnt + r.cnt]
theorem inner_sub {t : T} {j : Nat} : j ∈ t.innerIx ↔ ∃ l r, t.subs[j]? = some (.node l r) := by
  constructor
  · intro h
    obtain ⟨h1, a, b, e, _⟩ := T.inner_mem.mp h
    have hj : j < t.subs.length := by rw [t.subs_len]; exact h1
    have hs : t.subs[j]? = some t.subs[j] := List.getElem?_eq_getElem hj
    generalize t.subs[j] = u at hs
    cases u with
    | leaf w => rw [T.sub_leaf hs] at e; cases e
    | node l r => exact ⟨l, r, hs⟩
  · rintro ⟨l, r, h⟩
    obtain ⟨a, b, e, _, _, la, lb⟩ := T.sub_node h
    exact T.inner_mem.mpr ⟨by rw [← t.subs_len]; exact (List.getElem?_eq_some_iff.mp h).1, a, b, e, la, lb⟩
theorem inner_nd (t : T) : t.innerIx.Nodup := List.nodup_range.filter _
/-- the inner nodes at a node and below -/
def blw (t : T) (f : Nat) : List Nat := match t.subs[f]? with
  | some u => inn (f + 1 - u.cnt) u
  | none => []
def szN (t : T) (f : Nat) : Nat := match t.subs[f]? with
  | some u => u.cnt
  | none => 0
theorem blw_leaf {t : T} {f : Nat} {w : Str} (h : t.subs[f]? = some (.leaf w)) : blw t f = [] := by unfold blw; rw [h]; rfl
theorem kids_at {t l r : T} {f : Nat} (h : t.subs[f]? = some (.node l r)) : chA t f = f - 1 - r.cnt ∧ chB t f = f - 1 ∧ t.subs[f - 1 - r.cnt]? = some l ∧ t.subs[f - 1]? = some r ∧ l.cnt + r.cnt + 1 ≤ f + 1 := by
  have e0 := at_node t 0 f l r h
  rw [Nat.zero_add] at e0
  have e : t.nodes.getD f .non = .tup [natD (f - 1 - r.cnt), natD (f - 1)] := by
    rw [List.getD_eq_getElem?_getD]
    show ((T.nodesFrom 0 t)[f]?).getD D.non = _
    rw [e0]; rfl
  have ea : chA t f = f - 1 - r.cnt := by unfold chA; rw [e]; simp [natD]
  have eb : chB t f = f - 1 := by unfold chB; rw [e]; simp [natD]
  obtain ⟨_, k2, k3, _, _⟩ := sub_kids h
  rw [ea] at k2
  rw [eb] at k3
  have := T.sub_cnt t f _ h
  exact ⟨ea, eb, k2, k3, this⟩
theorem blw_node {t l r : T} {f : Nat} (h : t.subs[f]? = some (.node l r)) : (blw t f).Perm (f :: (blw t (chA t f) ++ blw t (chB t f))) ∧ szN t f = szN t (chA t f) + szN t (chB t f) + 1 := by
  obtain ⟨ea, eb, k2, k3, k4⟩ := kids_at h
  have pl := l.cnt_pos
  have pr := r.cnt_pos
  rw [ea, eb]
  constructor
  · unfold blw
    rw [h, k2, k3]
    simp only [inn, T.cnt]
    rw [show f + 1 - (l.cnt + r.cnt + 1) + l.cnt + r.cnt = f by omega, show f + 1 - (l.cnt + r.cnt + 1) = f - 1 - r.cnt + 1 - l.cnt by omega, show f - 1 - r.cnt + 1 - l.cnt + l.cnt = f - 1 + 1 - r.cnt by omega]
    exact List.perm_append_comm
  · unfold szN
    rw [h, k2, k3]
    simp only [T.cnt]
/-- the state of the search: F yet to be looked at, O in order -/
structure Srch (t : T) (F O : List Nat) : Prop where
  lt : ∀ f ∈ F, f < t.cnt
  pm : (O ++ F.flatMap (blw t)).Perm t.innerIx
  od : ∀ (i x : Nat), O[i]? = some x → ∀ c, (c = chA t x ∨ c = chB t x) → c ∈ t.innerIx → c ∈ F ∨ ∃ j, i < j ∧ O[j]? = some c
theorem Srch.leaf {t : T} {F O : List Nat} {i f : Nat} {w : Str} (I : Srch t F O) (hf : F[i]? = some f) (h : t.subs[f]? = some (.leaf w)) : Srch t (F.eraseIdx i) O ∧ ((F.eraseIdx i).map (szN t)).sum < (F.map (szN t)).sum := by
  have p := perm_getElem hf
  refine ⟨⟨fun g hg => I.lt g (List.mem_of_mem_eraseIdx hg), ?_, fun i' x hx c hc hi => ?_⟩, ?_⟩
  · refine List.Perm.trans ?_ I.pm
    refine List.Perm.append_left _ ?_
    refine List.Perm.trans ?_ (p.flatMap_right (blw t)).symm
    rw [List.flatMap_cons, blw_leaf h]; exact .refl _
  · rcases I.od i' x hx c hc hi with q | q
    · rcases List.mem_cons.mp (p.mem_iff.mp q) with rfl | q
      · obtain ⟨l, r, z⟩ := inner_sub.mp hi
        rw [h] at z; cases z
      · exact .inl q
    · exact .inr q
  · rw [(p.map (szN t)).sum_nat, List.map_cons, List.sum_cons]
    have : szN t f = 1 := by unfold szN; rw [h]; rfl
    omega
theorem Srch.node {t l r : T} {F O : List Nat} {i f : Nat} (I : Srch t F O) (hf : F[i]? = some f) (h : t.subs[f]? = some (.node l r)) : Srch t (F.eraseIdx i ++ [chA t f, chB t f]) (O ++ [f]) ∧ ((F.eraseIdx i ++ [chA t f, chB t f]).map (szN t)).sum < (F.map (szN t)).sum := by
  have p := perm_getElem hf
  obtain ⟨ea, eb, k2, k3, k4⟩ := kids_at h
  obtain ⟨b1, b2⟩ := blw_node h
  have hfl : f < t.cnt := I.lt f (List.mem_of_getElem? hf)
  have pr := r.cnt_pos
  have pl := l.cnt_pos
  refine ⟨⟨fun g hg => ?_, ?_, fun i' x hx c hc hi => ?_⟩, ?_⟩
  · rcases List.mem_append.mp hg with hg | hg
    · exact I.lt g (List.mem_of_mem_eraseIdx hg)
    · simp only [List.mem_cons, List.not_mem_nil, or_false] at hg
      rcases hg with rfl | rfl
      · rw [ea]; omega
      · rw [eb]; omega
  · refine List.Perm.trans ?_ I.pm
    rw [List.append_assoc]
    refine List.Perm.append_left _ ?_
    refine List.Perm.trans ?_ (p.flatMap_right (blw t)).symm
    rw [List.flatMap_cons, List.flatMap_append]
    simp only [List.flatMap_cons, List.flatMap_nil, List.append_nil, List.cons_append, List.nil_append]
    refine List.Perm.trans ?_ (List.Perm.append_right _ b1.symm)
    rw [List.cons_append]
    exact List.Perm.cons _ List.perm_append_comm
  · by_cases q : i' < O.length
    · rw [List.getElem?_append_left q] at hx
      rcases I.od i' x hx c hc hi with z | ⟨j, z1, z2⟩
      · rcases List.mem_cons.mp (p.mem_iff.mp z) with rfl | z
        · exact .inr ⟨O.length, q, by simp⟩
        · exact .inl (List.mem_append_left _ z)
      · exact .inr ⟨j, z1, by rw [List.getElem?_append_left (List.getElem?_eq_some_iff.mp z2).1]; exact z2⟩
    · rw [List.getElem?_append_right (by omega)] at hx
      have : i' - O.length = 0 := by
        cases z : i' - O.length with
        | zero => rfl
        | succ m => rw [z] at hx; simp at hx
      rw [this] at hx
      cases hx
      refine .inl (List.mem_append_right _ ?_)
      rcases hc with rfl | rfl <;> simp
  · rw [(p.map (szN t)).sum_nat, List.map_append, List.sum_append]
    simp only [List.map_cons, List.map_nil, List.sum_cons, List.sum_nil]
    omega
/-- the order is of all inner nodes, parents first -/
theorem Srch.done {t : T} {O : List Nat} (I : Srch t [] O) : O.Perm t.innerIx ∧ O.Nodup ∧ ∀ (i x : Nat), O[i]? = some x → ∀ c, (c = chA t x ∨ c = chB t x) → c ∉ O.take (i + 1) := by
  have hp : O.Perm t.innerIx := by simpa using I.pm
  have nd : O.Nodup := hp.nodup_iff.mpr (inner_nd t)
  refine ⟨hp, nd, fun i x hx c hc hm => ?_⟩
  have hci : c ∈ t.innerIx := hp.mem_iff.mp (List.mem_of_mem_take hm)
  rcases I.od i x hx c hc hci with q | ⟨j, q1, q2⟩
  · cases q
  · obtain ⟨k, hk⟩ := List.mem_iff_getElem?.mp hm
    have hk1 : k < i + 1 := by have := (List.getElem?_eq_some_iff.mp hk).1; rw [List.length_take] at this; omega
    rw [List.getElem?_take_of_lt hk1] at hk
    obtain ⟨a1, a2⟩ := List.getElem?_eq_some_iff.mp q2
    obtain ⟨c1, c2⟩ := List.getElem?_eq_some_iff.mp hk
    have e1 := nd.idxOf_getElem j a1
    have e2 := nd.idxOf_getElem k c1
    rw [a2] at e1
    rw [c2] at e2
    omega
end M
namespace M
open PySem PySem.Spec L2
open PyProof.Rows hiding St
/-- the dates of the turned tree -/
def dT (t : T) (ds : List Int) : List Int := (NN t 0).map fun h => ds.getD h 0
section
variable {ρ : Str → Str} {t : T} {ds : List Int}
theorem turn_cnt : (t.turn ρ).cnt = t.cnt := (t.turn_trn ρ).cnt
theorem dT_len : (dT t ds).length = t.cnt := by unfold dT; rw [List.length_map, NN_len]
theorem dT_tau {h : Nat} (hh : h < t.cnt) : (dT t ds).getD (tau t h) 0 = ds.getD h 0 := by
  have := NN_tau t 0 h hh
  unfold dT
  rw [List.getD_eq_getElem?_getD, List.getElem?_map, this, Nat.zero_add]; rfl
theorem tau_lt {h : Nat} (hh : h < t.cnt) : tau t h < t.cnt := (tau_pos id t).lt h hh
theorem sub_at {h : Nat} (hh : h < t.cnt) : (∃ w, t.subs[h]? = some (.leaf w)) ∨ ∃ l r, t.subs[h]? = some (.node l r) := by
  have : h < t.subs.length := by rw [t.subs_len]; exact hh
  cases e : t.subs[h] with
  | leaf w => exact .inl ⟨w, by rw [List.getElem?_eq_getElem this, e]⟩
  | node l r => exact .inr ⟨l, r, by rw [List.getElem?_eq_getElem this, e]⟩
theorem nd_leaf {h : Nat} {w : Str} (e : t.subs[h]? = some (.leaf w)) : t.nodes.getD h .non = .str w := by rw [List.getD_eq_getElem?_getD, T.sub_leaf e]; rfl
theorem nd_node {h : Nat} {l r : T} (e : t.subs[h]? = some (.node l r)) : t.nodes.getD h .non = .tup [natD (h - 1 - r.cnt), natD (h - 1)] ∧ chA t h = h - 1 - r.cnt ∧ chB t h = h - 1 := by
  have e0 := at_node t 0 h l r e
  rw [Nat.zero_add] at e0
  have e1 : t.nodes.getD h .non = .tup [natD (h - 1 - r.cnt), natD (h - 1)] := by
    rw [List.getD_eq_getElem?_getD]
    show ((T.nodesFrom 0 t)[h]?).getD D.non = _
    rw [e0]; rfl
  exact ⟨e1, by unfold chA; rw [e1]; simp [natD], by unfold chB; rw [e1]; simp [natD]⟩
theorem tau_str {h : Nat} (hh : h < t.cnt) : isStr ((t.turn ρ).nodes.getD (tau t h) .non) = isStr (t.nodes.getD h .non) := by
  rcases sub_at hh with ⟨w, e⟩ | ⟨l, r, e⟩
  · rw [nd_leaf e, nd_leaf ((tau_pos ρ t).lf h w e)]; rfl
  · obtain ⟨l', r', e', _⟩ := (tau_pos ρ t).nd h l r e
    rw [(nd_node e).1, (nd_node e').1]; rfl
theorem tau_word {h : Nat} {w : Str} (hh : h < t.cnt) (e : t.nodes.getD h .non = .str w) : (t.turn ρ).nodes.getD (tau t h) .non = .str (ρ w) := by
  rcases sub_at hh with ⟨v, e1⟩ | ⟨l, r, e1⟩
  · rw [nd_leaf e1] at e
    cases e
    exact nd_leaf ((tau_pos ρ t).lf h _ e1)
  · rw [(nd_node e1).1] at e; cases e
theorem tau_inner {h : Nat} (hh : h < t.cnt) : tau t h ∈ (t.turn ρ).innerIx ↔ h ∈ t.innerIx := by
  rw [Dts.notIn (by rw [turn_cnt]; exact tau_lt hh), Dts.notIn hh, tau_str hh]
theorem tau_kids {h : Nat} (hm : h ∈ t.innerIx) : (chA (t.turn ρ) (tau t h) = tau t (chA t h) ∧ chB (t.turn ρ) (tau t h) = tau t (chB t h)) ∨ (chA (t.turn ρ) (tau t h) = tau t (chB t h) ∧ chB (t.turn ρ) (tau t h) = tau t (chA t h)) := by
  obtain ⟨_, _, _, hh⟩ := T.kids hm
  rcases sub_at hh with ⟨w, e⟩ | ⟨l, r, e⟩
  · have := (Dts.notIn hh).mp hm
    rw [nd_leaf e] at this; cases this
  · obtain ⟨l', r', e', f⟩ := (tau_pos ρ t).nd h l r e
    obtain ⟨_, a1, a2⟩ := nd_node e
    obtain ⟨_, b1, b2⟩ := nd_node e'
    rw [a1, a2, b1, b2]
    exact f
theorem tau_inj {h k : Nat} (hh : h < t.cnt) (hk : k < t.cnt) (e : tau t h = tau t k) : h = k := by
  rw [← nu_tau hh, ← nu_tau hk, e]
theorem inner_turn : (t.turn ρ).innerIx.Perm (t.innerIx.map (tau t)) := by
  refine (List.perm_ext_iff_of_nodup (inner_nd _) ?_).mpr fun x => ?_
  · refine List.pairwise_map.mpr ((inner_nd t).imp_of_mem fun {a b} ha hb hne e => hne ?_)
    exact tau_inj (T.kids ha).2.2.2 (T.kids hb).2.2.2 e
  · constructor
    · intro hx
      have hx2 : x < t.cnt := by have := (T.kids hx).2.2.2; rwa [turn_cnt] at this
      refine List.mem_map.mpr ⟨nu t x, ?_, tau_nu hx2⟩
      have := tau_inner (ρ := ρ) (nu_lt hx2)
      rw [tau_nu hx2] at this
      exact this.mp hx
    · intro hx
      obtain ⟨y, hy, rfl⟩ := List.mem_map.mp hx
      exact (tau_inner (T.kids hy).2.2.2).mpr hy
theorem innerD_turn (I : Dts t ds) : (innerD (t.turn ρ) (dT t ds)).Perm (innerD t ds) := by
  rw [innerD_ix (by rw [dT_len, turn_cnt]), innerD_ix I.len]
  refine (inner_turn.map _).trans ?_
  rw [List.map_map]
  refine List.Perm.of_eq (List.map_congr_left fun h hh => ?_)
  exact dT_tau (T.kids hh).2.2.2
theorem fls_turn (I : Dts t ds) : fls (t.turn ρ) (dT t ds) = fls t ds := by
  unfold fls
  congr 1
  refine List.Perm.eq_of_pairwise (le := fun a b : Int => a ≤ b) (fun a b _ _ h1 h2 => Int.le_antisymm h1 h2) (isort_sorted _) (isort_sorted _) ?_
  exact (isort_perm _).trans ((innerD_turn I).trans (isort_perm _).symm)
theorem dts_turn (I : Dts t ds) : Dts (t.turn ρ) (dT t ds) := by
  refine ⟨by rw [dT_len, turn_cnt], fun h hh hs => ?_, fun h hm => ?_, (innerD_turn I).nodup_iff.mpr I.nd⟩
  · rw [turn_cnt] at hh
    have k := nu_lt hh
    rw [← tau_nu hh] at hs ⊢
    rw [tau_str k] at hs
    rw [dT_tau k]
    exact I.lf _ k hs
  · have hh : h < t.cnt := by have := (T.kids hm).2.2.2; rwa [turn_cnt] at this
    have k := nu_lt hh
    rw [← tau_nu hh] at hm ⊢
    have hm' := (tau_inner k).mp hm
    obtain ⟨_, ka, kb, _⟩ := T.kids hm'
    obtain ⟨i1, i2, i3, i4⟩ := I.inr _ hm'
    rw [dT_tau k]
    rcases tau_kids (ρ := ρ) hm' with ⟨e1, e2⟩ | ⟨e1, e2⟩
    · rw [e1, e2, dT_tau (by omega), dT_tau (by omega)]
      exact ⟨i1, i2, i3, i4⟩
    · rw [e1, e2, dT_tau (by omega), dT_tau (by omega)]
      exact ⟨i1, i2, i4, i3⟩
end
end M
namespace M
open PySem PySem.Spec L2
open PyProof.Rows hiding St
section
variable {ρ : Str → Str} {t : T} {ds : List Int}
theorem ahd_lt {t : T} {h p : Nat} (e : t.ahead[h]? = some (some p)) : p < t.cnt ∧ p ∈ t.innerIx ∧ (h = chA t p ∨ h = chB t p) := by
  have := ahead_lt (t := t) (h := h) (p := p) (by rw [List.getD_eq_getElem?_getD, e]; rfl)
  exact ⟨this.2.1, this.2.2.1, this.2.2.2⟩
theorem ahead_turn {h : Nat} (hh : h < t.cnt) {p' : Nat} : (t.turn ρ).ahead[tau t h]? = some (some p') ↔ ∃ p, t.ahead[h]? = some (some p) ∧ p' = tau t p := by
  constructor
  · intro e
    obtain ⟨a1, a2, a3⟩ := ahd_lt e
    rw [turn_cnt] at a1
    have k := nu_lt a1
    have m : nu t p' ∈ t.innerIx := (tau_inner (ρ := ρ) k).mp (by rw [tau_nu a1]; exact a2)
    obtain ⟨e0, ka, kb, _⟩ := T.kids m
    obtain ⟨q1, q2⟩ := T.ahead_kid e0
    refine ⟨nu t p', ?_, (tau_nu a1).symm⟩
    have tk := tau_kids (ρ := ρ) m
    rw [tau_nu a1] at tk
    rcases tk with ⟨c1, c2⟩ | ⟨c1, c2⟩ <;> rw [c1, c2] at a3 <;> rcases a3 with z | z
    · rw [tau_inj hh (by omega) z]; exact q1
    · rw [tau_inj hh (by omega) z]; exact q2
    · rw [tau_inj hh (by omega) z]; exact q2
    · rw [tau_inj hh (by omega) z]; exact q1
  · rintro ⟨p, e, rfl⟩
    obtain ⟨a1, a2, a3⟩ := ahd_lt e
    obtain ⟨e0, _⟩ := T.kids ((tau_inner (ρ := ρ) a1).mpr a2)
    obtain ⟨q1, q2⟩ := T.ahead_kid e0
    rcases tau_kids (ρ := ρ) a2 with ⟨c1, c2⟩ | ⟨c1, c2⟩ <;> rw [c1] at q1 <;> rw [c2] at q2 <;> rcases a3 with rfl | rfl <;> assumption
theorem stands_turn (I : Dts t ds) {h l : Nat} (hh : h < t.cnt) : stands (t.turn ρ) (dT t ds) l (tau t h) = true ↔ stands t ds l h = true := by
  rw [stands_iff, stands_iff, fls_turn I, dT_tau hh]
  refine and_congr_right fun _ => ⟨fun f p hp => ?_, fun f p' hp' => ?_⟩
  · have := f _ ((ahead_turn (ρ := ρ) hh).mpr ⟨p, hp, rfl⟩)
    rwa [dT_tau (ahd_lt hp).1] at this
  · obtain ⟨p, hp, rfl⟩ := (ahead_turn hh).mp hp'
    rw [dT_tau (ahd_lt hp).1]
    exact f p hp
theorem standing_turn (I : Dts t ds) {h l : Nat} (hh : h < t.cnt) : (tau t h, l) ∈ standing (t.turn ρ) (dT t ds) ↔ (h, l) ∈ standing t ds := by
  rw [standing_mem, standing_mem, fls_turn I, turn_cnt, stands_turn I hh]
  exact ⟨fun ⟨a, _, c⟩ => ⟨a, hh, c⟩, fun ⟨a, _, c⟩ => ⟨a, tau_lt hh, c⟩⟩
/-- where each stay lies on the turned tree's ground -/
def spt (ρ : Str → Str) (t : T) (ds : List Int) (x : Nat) : Nat :=
  pix (t.turn ρ) (dT t ds) (tau t ((standing t ds).getD x (0, 0)).1) ((standing t ds).getD x (0, 0)).2
theorem spt_at {x : Nat} {p : Nat × Nat} (e : (standing t ds)[x]? = some p) : spt ρ t ds x = pix (t.turn ρ) (dT t ds) (tau t p.1) p.2 := by
  unfold spt
  rw [List.getD_eq_getElem?_getD, e]; rfl
theorem spt_pix {h l : Nat} (m : (h, l) ∈ standing t ds) : spt ρ t ds (pix t ds h l) = pix (t.turn ρ) (dT t ds) (tau t h) l := spt_at (pix_get m)
theorem besd_iff {h l b : Nat} : b ∈ besd t ds h l ↔ ∃ k, (standing t ds)[b]? = some (k, l) ∧ k ≠ h := by
  unfold besd
  rw [List.mem_map]
  constructor
  · rintro ⟨⟨⟨k, l'⟩, b'⟩, hp, rfl⟩
    obtain ⟨h1, h2⟩ := List.mem_filter.mp hp
    simp only [Bool.and_eq_true, decide_eq_true_eq, Bool.not_eq_true', decide_eq_false_iff_not] at h2
    have := List.mem_zipIdx_iff_getElem?.mp h1
    obtain ⟨rfl, h3⟩ := h2
    exact ⟨k, this, h3⟩
  · rintro ⟨k, e, hk⟩
    refine ⟨((k, l), b), List.mem_filter.mpr ⟨List.mem_zipIdx_iff_getElem?.mpr e, ?_⟩, rfl⟩
    simp [hk]
theorem dated_iso (I : Dts t ds) : Iso (grW t ds) (grW (t.turn ρ) (dT t ds)) (spt ρ t ds) ρ := by
  have get : ∀ x, x < (grW t ds).length → ∃ h l, (standing t ds)[x]? = some (h, l) ∧ (h, l) ∈ standing t ds ∧ h < t.cnt ∧ (standing (t.turn ρ) (dT t ds))[spt ρ t ds x]? = some (tau t h, l) := fun x hx => by
    rw [grW_len] at hx
    have e := List.getElem?_eq_getElem hx
    generalize (standing t ds)[x] = p at e
    obtain ⟨h, l⟩ := p
    have m : (h, l) ∈ standing t ds := List.mem_of_getElem? e
    have hh := (standing_mem.mp m).2.1
    refine ⟨h, l, e, m, hh, ?_⟩
    rw [spt_at e]
    exact pix_get ((standing_turn I hh).mpr m)
  have UN : ∀ x, x < (grW t ds).length → (atG (grW (t.turn ρ) (dT t ds)) (spt ρ t ds x)).un = (atG (grW t ds) x).un.map (spt ρ t ds) ∨ (atG (grW (t.turn ρ) (dT t ds)) (spt ρ t ds x)).un = ((atG (grW t ds) x).un.map (spt ρ t ds)).reverse := fun x hx => by
    obtain ⟨h, l, e, m, hh, e'⟩ := get x hx
    obtain ⟨m1, _, m3⟩ := standing_mem.mp m
    obtain ⟨k1, k2⟩ := stands_low I m1 hh m3
    rw [grW_at e, grW_at e']
    simp only
    unfold undr
    rw [fls_turn I, dT_tau hh, tau_str hh]
    by_cases q : ds.getD h 0 < (fls t ds).getD l 0
    · rw [if_pos q, if_pos q]
      left
      rw [List.map_cons, List.map_nil, spt_pix (k1 q).2]
    · rw [if_neg q, if_neg q]
      cases hs : isStr (t.nodes.getD h .non) with
      | true => left; rfl
      | false =>
        obtain ⟨_, a1, a2⟩ := k2 q hs
        rw [if_neg (by decide), if_neg (by decide)]
        rw [List.map_cons, List.map_cons, List.map_nil, spt_pix a1, spt_pix a2]
        rcases tau_kids (ρ := ρ) ((Dts.notIn hh).mpr hs) with ⟨c1, c2⟩ | ⟨c1, c2⟩
        · left; rw [c1, c2]
        · right; rw [c1, c2]; rfl
  refine ⟨fun x hx => ?_, UN, fun x hx b hb => ?_, fun x hx w hw => ?_⟩
  · obtain ⟨h, l, _, _, _, e'⟩ := get x hx
    rw [grW_len]
    exact (List.getElem?_eq_some_iff.mp e').1
  · obtain ⟨h, l, e, m, hh, e'⟩ := get x hx
    rw [grW_at e] at hb
    rw [grW_at e']
    obtain ⟨k, ek, hk⟩ := besd_iff.mp hb
    have mk : (k, l) ∈ standing t ds := List.mem_of_getElem? ek
    have kk := (standing_mem.mp mk).2.1
    refine besd_iff.mpr ⟨tau t k, ?_, fun z => hk (tau_inj kk hh z)⟩
    rw [spt_at ek]
    exact pix_get ((standing_turn I kk).mpr mk)
  · have hu := UN x hx
    obtain ⟨h, l, e, m, hh, e'⟩ := get x hx
    unfold fndN at hw ⊢
    rw [Bool.and_eq_true, List.isEmpty_iff] at hw
    obtain ⟨w1, w2⟩ := hw
    rw [w1] at hu
    have u2 : (atG (grW (t.turn ρ) (dT t ds)) (spt ρ t ds x)).un = [] := by rcases hu with z | z <;> rw [z] <;> rfl
    rw [u2]
    rw [grW_at e] at w2
    rw [grW_at e']
    simp only at w2 ⊢
    have hn : t.nodes.getD h .non = .str w := by
      unfold nmOf at w2
      cases hs : isStr (t.nodes.getD h .non) with
      | false => rw [hs] at w2; simp [natD] at w2
      | true =>
        rw [hs, if_pos rfl] at w2
        cases hd : t.nodes.getD h .non <;> rw [hd] at w2 hs <;> first | (cases hs; done) | (simp at w2; done) | (simp at w2; rw [w2])
    rw [nmOf_leaf (tau_word hh hn)]
    simp
end
end M
namespace M
open PySem PySem.Spec L2
open PyProof.Rows hiding St
theorem mv_all (σ : Nat → Nat) : ∀ y : Wy, (y.mv σ).all = y.all.map (Wy.mv σ)
  | .one p d => rfl
  | .two p d a b => by simp only [Wy.mv, Wy.all, List.map_append, mv_all σ a, mv_all σ b]; rfl
theorem mv_p (σ : Nat → Nat) (y : Wy) : (y.mv σ).p = y.p.map σ := by cases y <;> rfl
theorem mv_dd (σ : Nat → Nat) (y : Wy) : (y.mv σ).dd = y.dd := by cases y <;> rfl
theorem mv_plc (σ : Nat → Nat) {y : Wy} (h : ∀ w ∈ y.all, w.p ≠ []) : (y.mv σ).plc = y.plc.map fun x => (σ x.1, x.2) := by
  unfold Wy.plc
  rw [mv_all, List.map_map, List.map_map]
  refine List.map_congr_left fun w hw => ?_
  simp only [Function.comp_apply, mv_p, mv_dd, last_map σ w.p (h w hw)]
theorem all_paths {g : Gr} : ∀ (s : T) (y : Wy), wayN g s y = true → ∀ w ∈ y.all, pathN g w.p = true := fun s => by
  induction s with
  | leaf v =>
    intro y hy w hw
    cases y with
    | two p d a b => cases hy
    | one p d =>
      obtain ⟨_, _, h1, _, _⟩ := way_inv1' hy
      simp [Wy.all] at hw
      subst hw; exact h1
  | node l r il ir =>
    intro y hy w hw
    cases y with
    | one p d => cases hy
    | two p d a b =>
      obtain ⟨l1, r1, e1, h1, h2, h3, h4⟩ := way_inv2' hy
      cases e1
      simp only [Wy.all, List.mem_append, List.mem_cons, List.not_mem_nil, or_false] at hw
      rcases hw with (hw | hw) | rfl
      · exact il a h2 w hw
      · exact ir b h3 w hw
      · exact h1
theorem mv_cnt {g g' : Gr} {σ : Nat → Nat} {ρ : Str → Str} (I : Iso g g' σ ρ) {s : T} {y : Wy} (hy : wayN g s y = true) : cntL g' (y.mv σ) = cntL g y := by
  have hc : ∀ d, cntD (y.mv σ).all d = cntD y.all d := fun d => by
    unfold cntD
    rw [mv_all, List.map_map]
    congr 1
    exact List.map_congr_left fun w _ => mv_dd σ w
  have hl : lostN g' (y.mv σ).all = lostN g y.all := by
    unfold lostN
    rw [mv_all, List.map_map]
    congr 1
    refine List.map_congr_left fun w hw => ?_
    simp only [Function.comp_apply, mv_p]
    exact I.loss (all_paths s y hy w hw)
  unfold cntL
  rw [hc, hc, hc, hl]
end M
namespace Q
open PySem hiding Env
open L2 M
theorem dates_turnV {b0 : Nat} {S : Store} {p : Nat} {h : Pot b0} {t : T} {L : List Nat} {ds : List Int} {cur : Int} {w5 w6 w7 : Option R} (e : S[p]? = some h.c) (hz : t.ls.length ≤ 1000) (hb : b0 + 3 ≤ 2 ^ 40) (I : DtInv t L ds cur) (hne : L ≠ []) :
    ∃ (h' : Pot (b0 + 3)) (L' : List Nat) (ds' : List Int) (cur' : Int) (v5 v6 : Option R), b1_dates M_pick M_take_2 [some (.ref p), some (.v (.lst t.nodes)), some (.ref S.length), some (.ref (S.length + 1)), some (.v (.int cur)), w5, w6, w7] (S ++ [.lst ((ds.map D.int).map .v), .lst ((L.map natD).map .v)]) =
        .nx [some (.ref p), some (.v (.lst t.nodes)), some (.ref S.length), some (.ref (S.length + 1)), some (.v (.int cur')), v5, v6, w7] (S.set p h'.c ++ [.lst ((ds'.map D.int).map .v), .lst ((L'.map natD).map .v)]) ∧ DtInv t L' ds' cur' ∧ L'.length + 1 = L.length ∧ cur' ≤ cur + 13 := by
  have c := t.cnt_ls
  have hn := t.nodes_len
  let Z : Store := S ++ [.lst ((ds.map D.int).map .v), .lst ((L.map natD).map .v)]
  have zl : Z[S.length + 1]? = some (.lst ((L.map natD).map .v)) := get_atL1 rfl _ _ _
  have zp : Z[p]? = some h.c := get_old e _
  have nd : L.Nodup := I.srt.imp fun h => Nat.ne_of_lt h
  have hLc : L.length ≤ t.cnt := by
    have := srt_len L 0 t.cnt I.srt (fun _ _ => Nat.zero_le _) (fun x hx => (T.kids (I.lin x hx)).2.2.2) (Nat.zero_le _)
    omega
  -- the ready ones
  let pr : Nat → Bool := fun k => !decide (chA t k ∈ L) && !decide (chB t k ∈ L)
  have lc := lc_mapP (S := Z) (S0 := Z) (pins := [(S.length + 1, .lst ((L.map natD).map .v))]) (.refl Z) (fun o => ⟨get_old zl _, trivial⟩) (t := tgN 6) (c := mtAnd (mtB (mBin opNotIn (mBin opIx (mBin opIx (mVar 1) (mVar 6)) (mC (.v (.int 0)))) (mVar 3))) (mtB (mBin opNotIn (mBin opIx (mBin opIx (mVar 1) (mVar 6)) (mC (.v (.int 1)))) (mVar 3)))) (f := mVar 6)
    (m := [some (.ref p), some (.v (.lst t.nodes)), some (.ref S.length), some (.ref (S.length + 1)), some (.v (.int cur)), w5, none, w7]) (fun k : Nat => .v (natD k)) pr natD L (sz_of (by omega)) (by
      intro k hk acc
      obtain ⟨k1, k2, k3, k4⟩ := T.kids (I.lin k hk)
      have i0 : ∀ S, opIx (.v (.tup [natD (chA t k), natD (chB t k)])) (.v (.int 0)) S = .ok (.v (.int (chA t k : Int))) S := fun S => opIx_tup (atI_0 _ _)
      have i1 : ∀ S, opIx (.v (.tup [natD (chA t k), natD (chB t k)])) (.v (.int 1)) S = .ok (.v (.int (chB t k : Int))) S := fun S => opIx_tup (atI_1 _ _ _)
      have ir : opIx (.v (.lst t.nodes)) (.v (.int (k : Int))) (Z ++ [.lst acc]) = .ok (.v (.tup [natD (chA t k), natD (chB t k)])) (Z ++ [.lst acc]) := opIx_lst (by rw [atI_lt (by omega), show ((k : Nat) : Int).toNat = k by omega, k1])
      have o1 := opNotIn_ref (w := chA t k) (get_old zl [.lst acc])
      have o2 := opNotIn_ref (w := chB t k) (get_old zl [.lst acc])
      refine ⟨_, rfl, ?_, fun _ => rfl⟩
      simp only [mtAnd_eq, mtB_eq, mBin_eq, mVar_eq, mC_eq, List.set_cons_succ, List.set_cons_zero, List.getElem?_cons_succ, List.getElem?_cons_zero, Out.bind_ok, natD, ir, i0, i1]
      simp only [natD] at ir i0 i1
      simp only [ir, i0, i1, Out.bind_ok, o1, o2, onBl_bl]
      show _ = Out.ok (!decide (chA t k ∈ L) && !decide (chB t k ∈ L)) _
      cases decide (chA t k ∈ L) <;> rfl)
  have hm1 : (L.map fun k : Nat => R.v (natD k)) = (L.map natD).map R.v := by rw [List.map_map]; rfl
  rw [hm1] at lc
  generalize hrd : L.filter pr = rd at lc
  have hrne : rd ≠ [] := by
    obtain ⟨x, r, hLx⟩ : ∃ x r, L = x :: r := by
      cases L with
      | nil => exact absurd rfl hne
      | cons x r => exact ⟨x, r, rfl⟩
    have hxm : x ∈ L := by rw [hLx]; simp
    have hx := T.kids (I.lin x hxm)
    have hsm : ∀ y, y < x → y ∉ L := fun y hy hm => by
      have hs := I.srt
      rw [hLx] at hs hm
      rw [List.pairwise_cons] at hs
      rcases List.mem_cons.mp hm with e | hm
      · omega
      · have := hs.1 y hm; omega
    have hp : pr x = true := by
      show (!decide (chA t x ∈ L) && !decide (chB t x ∈ L)) = true
      rw [decide_eq_false (hsm _ hx.2.1), decide_eq_false (hsm _ hx.2.2.1)]; rfl
    have : x ∈ rd := by rw [← hrd]; exact List.mem_filter.mpr ⟨hxm, hp⟩
    intro h0
    rw [h0] at this
    cases this
  have hrl : rd.length ≤ L.length := by rw [← hrd]; exact List.length_filter_le _ _
  obtain ⟨d, h1, e1, hd⟩ := pick_spec2 (ds := rd.map natD) zp (by omega) (by simpa using hrne) (by simp; omega)
  obtain ⟨x, hx, rfl⟩ := List.mem_map.mp hd
  rw [← hrd] at hx
  obtain ⟨hxL, hxp⟩ := List.mem_filter.mp hx
  have hxp : (!decide (chA t x ∈ L) && !decide (chB t x ∈ L)) = true := hxp
  simp only [Bool.and_eq_true, Bool.not_eq_true', decide_eq_false_iff_not] at hxp
  have hk := T.kids (I.lin x hxL)
  obtain ⟨r1, h2, e2, q0, q1⟩ := take_2_spec (k := 3) (get_set zp h1.c) (by omega) (by decide) (by decide)
  rw [List.set_set] at e2
  obtain ⟨ad, had, hmem⟩ := atI_some (xs := [D.int 1, .int 3, .int 13]) (i := r1) q0 (by simpa using q1)
  obtain ⟨a, rfl, ha0, ha1⟩ : ∃ a : Int, ad = .int a ∧ 1 ≤ a ∧ a ≤ 13 := by
    simp only [List.mem_cons, List.not_mem_nil, or_false] at hmem
    rcases hmem with rfl | rfl | rfl <;> exact ⟨_, rfl, by decide, by decide⟩
  obtain ⟨r2, h3, e3, p0, p1⟩ := take_2_spec (k := a) (get_set zp h2.c) (by omega) (by omega) (by omega)
  rw [List.set_set] at e3
  have hS : (S.set p h3.c).length = S.length := by simp
  have hZ3 : Z.set p h3.c = S.set p h3.c ++ [.lst ((ds.map D.int).map .v), .lst ((L.map natD).map .v)] := set_old e _ _
  have gD := get_atL hS (.lst ((ds.map D.int).map R.v)) [.lst ((L.map natD).map .v)]
  have hlen : ((ds.map D.int).map R.v).length = t.cnt := by simp [I.len]
  have s1 : setIx (.ref S.length) (.v (.int (x : Int))) (.v (.int (cur + 1 + r2))) (Z.set p h3.c) = some (S.set p h3.c ++ [.lst (((ds.set x (cur + 1 + r2)).map D.int).map .v), .lst ((L.map natD).map .v)]) := by
    rw [hZ3, setIx_ref gD (by omega) (by rw [hlen]; have := hk.2.2.2; omega), set_atL hS, show ((x : Nat) : Int).toNat = x by omega]
    simp [List.map_set]
  have gL := get_atL1 hS (.lst (((ds.set x (cur + 1 + r2)).map D.int).map R.v)) (.lst ((L.map natD).map R.v)) []
  have rm := mtRemove_nats gL hxL
  rw [set_atL1 hS] at rm
  refine ⟨h3, L.erase x, ds.set x (cur + 1 + r2), cur + 1 + r2, some (.v (.lst (rd.map natD))), some (.v (natD x)), ?_, I.step hxL hk.1 hxp.1 hxp.2 (by omega), ?_, by omega⟩
  · show b1_dates M_pick M_take_2 _ Z = _
    unfold b1_dates
    rw [mSeq_nx (m' := [some (.ref p), some (.v (.lst t.nodes)), some (.ref S.length), some (.ref (S.length + 1)), some (.v (.int cur)), some (.v (.lst (rd.map natD))), w6, w7]) (S' := Z) (by
      rw [mSetP_lt 5 (by simp), mSet_eq]
      simp only [mPop_eq, mLc_eq, srcAny, mVar_eq, List.getElem?_cons_succ, List.getElem?_cons_zero, Out.bind_ok, zl, wipeM, List.foldl_cons, List.foldl_nil, List.set_cons_succ, List.set_cons_zero, lc, thenS_ok])]
    rw [mSeq_nx (m' := [some (.ref p), some (.v (.lst t.nodes)), some (.ref S.length), some (.ref (S.length + 1)), some (.v (.int cur)), some (.v (.lst (rd.map natD))), some (.v (natD x)), w7]) (S' := Z.set p h1.c) (by
      simp only [mSet_eq, mCall_eq, mCons_eq, mVar_eq, mNil_eq, List.getElem?_cons_succ, List.getElem?_cons_zero, Out.bind_ok, e1, thenS_ok, List.set_cons_succ, List.set_cons_zero])]
    rw [mSeq_nx (m' := [some (.ref p), some (.v (.lst t.nodes)), some (.ref S.length), some (.ref (S.length + 1)), some (.v (.int (cur + 1 + r2))), some (.v (.lst (rd.map natD))), some (.v (natD x)), w7]) (S' := Z.set p h3.c) (by
      simp only [mSet_eq, mBin_eq, mC_eq, mCall_eq, mCons_eq, mVar_eq, mNil_eq, List.getElem?_cons_succ, List.getElem?_cons_zero, Out.bind_ok, opAdd_int, mLstV_eq, frzO_3, List.length_cons, List.length_nil, Nat.zero_add, Nat.reduceAdd, sz3, if_true, e2, opIx_lst had, e3, thenS_ok, List.set_cons_succ, List.set_cons_zero])]
    simp only [mSeq_eq, mSetIx_eq, mVar_eq, List.getElem?_cons_succ, List.getElem?_cons_zero, thenS_ok, natD, s1, mDrop_eq, mMeth_eq, Out.bind_ok, tyOk_lst gL, if_true, mCons_eq, mNil_eq]
    simp only [rm, thenS_ok]
  · rw [List.length_erase_of_mem hxL]
    have : 0 < L.length := List.length_pos_iff.mpr hne
    omega
theorem dates_specV {b0 : Nat} {S : Store} {p : Nat} {h : Pot b0} {t : T} (e : S[p]? = some h.c) (hz : t.ls.length ≤ 8) (hb : b0 + 40 ≤ 2 ^ 40) :
    ∃ (h' : Pot (b0 + 40)) (ds : List Int), M_dates [.ref p, .v (.lst t.nodes)] S = .ok (.v (.tup (ds.map D.int))) (S.set p h'.c) ∧ isDt t ds = true ∧ ds.length = t.cnt ∧ ∀ x ∈ ds, 0 ≤ x ∧ x ≤ 91 := by
  have c := t.cnt_ls
  have hn := t.nodes_len
  have il := inner_len t
  have tp := t.ls_pos
  let K : Nat := t.innerIx.length
  have hK : K ≤ 7 := by show t.innerIx.length ≤ 7; omega
  let S1 : Store := S ++ [.lst (((List.replicate t.cnt (0 : Int)).map D.int).map .v)]
  -- the houses of two
  have lc := lc_raw (S := S1) (pins := []) (fun o => trivial) (t := tgT [tgN 6, tgN 7]) (c := mtNot (mtTru (mCall biIsi (mCons (mVar 7) (mCons (mC (.v (.ty "str"))) mNil))))) (f := mVar 6)
    (m := [some (.ref p), some (.v (.lst t.nodes)), some (.ref S.length), none, none, none, none, none]) (fun q : D × Nat => .v (.tup [.int (q.2 : Int), q.1])) (fun q => !isStr q.1) (fun q => natD q.2) t.nodes.zipIdx (sz_of (by rw [List.length_zipIdx]; omega)) (by
      intro q hq acc
      have nty : notTy q.1 = true := T.notTy_nodes t 0 q.1 (List.fst_mem_of_mem_zipIdx hq)
      refine ⟨_, rfl, ?_, fun _ => rfl⟩
      simp only [mtNot_eq, mtTru_eq, mCall_eq, mCons_eq, mVar_eq, mC_eq, mNil_eq, List.set_cons_succ, List.set_cons_zero, List.getElem?_cons_succ, List.getElem?_cons_zero, Out.bind_ok, isi_str q.1 nty, truM_bl])
  rw [inner_idx] at lc
  have lc' : mLcGo [] (tgT [tgN 6, tgN 7]) (mtNot (mtTru (mCall biIsi (mCons (mVar 7) (mCons (mC (.v (.ty "str"))) mNil))))) (mVar 6) S1.length [some (.ref p), some (.v (.lst t.nodes)), some (.ref S.length), none, none, none, none, none] (enumI t.nodes) (S1 ++ [.lst []]) = .ok (.ref S1.length) (S1 ++ [.lst ((t.innerIx.map natD).map .v)]) := lc
  have hS1 : S1.length = S.length + 1 := by simp [S1]
  obtain ⟨m', S', eL, g, L, ds, cur, v5, v6, hS', hm', I, hL, hc⟩ := while_dec' (t := mtB (mBin opNe (mVar 3) (mLstV mNil))) (body := b1_dates M_pick M_take_2)
    (fun j m X => ∃ (g : Pot (b0 + 3 * (K - j))) (L : List Nat) (ds : List Int) (cur : Int) (v5 v6 : Option R), X = S.set p g.c ++ [.lst ((ds.map D.int).map .v), .lst ((L.map natD).map .v)] ∧ m = [some (.ref p), some (.v (.lst t.nodes)), some (.ref S.length), some (.ref (S.length + 1)), some (.v (.int cur)), v5, v6, none] ∧ DtInv t L ds cur ∧ (L.length = j ∧ j ≤ K) ∧ cur ≤ 13 * ((K - j : Nat) : Int))
    K (m := [some (.ref p), some (.v (.lst t.nodes)), some (.ref S.length), some (.ref (S.length + 1)), some (.v (.int 0)), none, none, none]) (S := S ++ [.lst (((List.replicate t.cnt (0 : Int)).map D.int).map .v), .lst ((t.innerIx.map natD).map .v)])
    ⟨h.up (by omega), t.innerIx, List.replicate t.cnt 0, 0, none, none, by show _ = S.set p h.c ++ _; rw [set_get e], rfl, DtInv.start t, ⟨rfl, Nat.le_refl _⟩, by simp⟩ (by omega)
    (by
      rintro m X ⟨g, L, ds, cur, v5, v6, rfl, rfl, I, ⟨hL, _⟩, _⟩
      have : L = [] := List.eq_nil_of_length_eq_zero hL
      subst this
      have gl := get_atL1 (show (S.set p g.c).length = S.length by simp) (.lst ((ds.map D.int).map R.v)) (.lst ((([] : List Nat).map natD).map .v)) []
      have := opNe_ref_nil gl
      simp only [mtB_eq, mBin_eq, mVar_eq, mLstV_eq, mNil_eq, List.getElem?_cons_succ, List.getElem?_cons_zero, Out.bind_ok, frzO_nil, List.length_nil, Nat.zero_le, sz0, if_true, this, onBl_bl]
      rfl)
    (by
      rintro j m X ⟨g, L, ds, cur, v5, v6, rfl, rfl, I, ⟨hL, hj⟩, hc⟩
      have hne : L ≠ [] := by intro h0; rw [h0] at hL; cases hL
      have hSl : (S.set p g.c).length = S.length := by simp
      have gl := get_atL1 hSl (.lst ((ds.map D.int).map R.v)) (.lst ((L.map natD).map R.v)) []
      have q := opNe_ref_nil gl
      have hemp : L.isEmpty = false := by simpa using hne
      rw [hemp] at q
      refine ⟨?_, ?_⟩
      · simp only [mtB_eq, mBin_eq, mVar_eq, mLstV_eq, mNil_eq, List.getElem?_cons_succ, List.getElem?_cons_zero, Out.bind_ok, frzO_nil, List.length_nil, Nat.zero_le, sz0, if_true, q, onBl_bl]
        rfl
      · obtain ⟨g', L', ds', cur', u5, u6, e1, I', hL', hc'⟩ := dates_turnV (S := S.set p g.c) (p := p) (w5 := v5) (w6 := v6) (w7 := none) (get_set e g.c) (by omega) (by omega) I hne
        rw [hSl, List.set_set] at e1
        exact ⟨_, _, e1, g'.up (by omega), L', ds', cur', u5, u6, rfl, rfl, I', ⟨by omega, by omega⟩, by omega⟩)
  have hL0 : L = [] := List.eq_nil_of_length_eq_zero hL.1
  subst hL0 hS' hm'
  have gd := get_atL (show (S.set p g.c).length = S.length by simp) (.lst ((ds.map D.int).map R.v)) [.lst ((([] : List Nat).map natD).map .v)]
  have bt := biTuple_ref gd
  simp only [List.map_nil] at bt
  refine ⟨g.up (by omega), ds, ?_, I.done (by omega), I.len, fun x hx => by have := I.bound x hx; omega⟩
  refine mDefV_rtG [.lst ((ds.map D.int).map .v), .lst ((([] : List Nat).map natD).map .v)] ?_ (upd_set p (g.lo _))
  have bl := biLen_lst (S := S) t.nodes
  rw [hn] at bl
  have ml : opMul (.v (.lst [D.int 0])) (.v (.int (t.cnt : Int))) S = .ok (.ref S.length) S1 := by
    unfold opMul
    simp only
    rw [if_pos ⟨by omega, by omega, sz_of (by simp; omega)⟩]
    simp only [S1]
    congr 4
    unfold repR
    rw [show ((t.cnt : Nat) : Int).toNat = t.cnt by omega]
    rw [List.map_replicate, List.map_replicate]
    simp [List.flatten_replicate_singleton]
  have en := en1_lst (S := S1) t.nodes
  have hS2 : S1 ++ [MO.lst ((t.innerIx.map natD).map .v)] = S ++ [.lst (((List.replicate t.cnt (0 : Int)).map D.int).map .v), .lst ((t.innerIx.map natD).map .v)] := by simp [S1]
  rw [hS2, hS1] at lc'
  simp only [m_dates, List.map_cons, List.map_nil, List.length_cons, List.length_nil, List.replicate, List.cons_append, List.nil_append, Nat.reduceAdd, Nat.reduceSub, mSeq_eq, mSet_eq, mBin_eq, mLstV_eq, mCons_eq, mC_eq, mNil_eq, mCall_eq, mVar_eq, List.getElem?_cons_succ, List.getElem?_cons_zero, Out.bind_ok, frzO_1, Nat.zero_add, sz1, if_true, bl, ml, thenS_ok, List.set_cons_succ, List.set_cons_zero, mLc_eq, srcEnum_eq, en, wipeM, List.foldl_cons, List.foldl_nil, hS1, lc', eL, mRet_eq, bt]
  rfl
theorem dates_wpV {b p : Nat} {S : Store} {K : Out R → Prop} {h : Pot b} {t : T} (e : S[p]? = some h.c) (hz : t.ls.length ≤ 8) (hb : b + 40 ≤ 2 ^ 40) (c : ∀ (ds : List Int) (h' : Pot (b + 40)), isDt t ds = true → ds.length = t.cnt → (∀ x ∈ ds, 0 ≤ x ∧ x ≤ 91) → K (.ok (.v (.tup (ds.map D.int))) (S.set p h'.c))) : wE (M_dates [.ref p, .v (.lst t.nodes)] S) K := by
  obtain ⟨h', ds, e1, p0, p1, p2⟩ := dates_specV e hz hb
  exact wE_eq e1 (c ds h' p0 p1 p2)
end Q
namespace M
open PySem PySem.Spec L2
open PyProof.Rows hiding St
/-- the houses and slices of the stays of a ground -/
structure Mtc (t : T) (g : Gr) (P : List (Nat × Nat)) : Prop where
  at_ : ∀ x, x < g.length → ∃ p, P[x]? = some p ∧ (atG g x).nm = nmOf t p.1 ∧ (atG g x).lv = p.2 ∧ p.1 < t.cnt
  len : P.length = g.length
theorem mtc_O (t : T) : Mtc t (grO t) ((List.range t.cnt).map fun h => (h, 0)) := by
  refine ⟨fun x hx => ?_, by rw [List.length_map, List.length_range, grO_len]⟩
  rw [grO_len] at hx
  refine ⟨(x, 0), by rw [List.getElem?_map, List.getElem?_range hx]; rfl, ?_, ?_, hx⟩ <;> rw [grO_at hx]
theorem mtc_W (t : T) (ds : List Int) : Mtc t (grW t ds) (standing t ds) := by
  refine ⟨fun x hx => ?_, (grW_len t ds).symm⟩
  rw [grW_len] at hx
  have e := List.getElem?_eq_getElem hx
  generalize (standing t ds)[x] = p at e
  refine ⟨p, e, ?_, ?_, (standing_mem (h := p.1) (l := p.2)).mp (List.mem_of_getElem? e) |>.2.1⟩ <;> rw [grW_at e]
theorem idx_map {α β : Type} [BEq α] [LawfulBEq α] [BEq β] [LawfulBEq β] (f : α → β) (a : α) : ∀ L : List α, (∀ b ∈ L, f b = f a → b = a) → (L.map f).idxOf (f a) = L.idxOf a
  | [], _ => rfl
  | b :: L, h => by
    rw [List.map_cons, List.idxOf_cons, List.idxOf_cons]
    by_cases q : b = a
    · subst q; simp
    · have q2 : f b ≠ f a := fun z => q (h b (by simp) z)
      rw [show (f b == f a) = false from beq_eq_false_iff_ne.mpr q2, show (b == a) = false from beq_eq_false_iff_ne.mpr q, idx_map f a L fun c hc => h c (List.mem_cons_of_mem _ hc)]
theorem gr_range (g : Gr) : (g.map Sty.d) = (List.range g.length).map fun x => (atG g x).d := by
  refine List.ext_getElem (by simp) fun i h1 h2 => ?_
  rw [List.length_map] at h1
  rw [List.getElem_map, List.getElem_map, List.getElem_range]
  unfold atG
  rw [List.getD_eq_getElem?_getD, List.getElem?_eq_getElem h1]; rfl
theorem P_range {α : Type} (P : List (Nat × Nat)) (f : Nat × Nat → α) : (List.range P.length).map (fun x => f (P.getD x (0, 0))) = P.map f := by
  refine List.ext_getElem (by simp) fun i h1 h2 => ?_
  rw [List.length_map] at h2
  rw [List.getElem_map, List.getElem_map, List.getElem_range, List.getD_eq_getElem?_getD, List.getElem?_eq_getElem h2]; rfl
/-- what the law calls there -/
def thr (t : T) (P' : List (Nat × Nat)) : List (Nat × Nat) := P'.map fun p => (nu t p.1, p.2)
theorem thr_idx {t : T} {P' : List (Nat × Nat)} {h l : Nat} (hh : h < t.cnt) (hP : ∀ p ∈ P', p.1 < t.cnt) : (thr t P').idxOf (h, l) = P'.idxOf (tau t h, l) := by
  have e : (h, l) = (fun p : Nat × Nat => (nu t p.1, p.2)) (tau t h, l) := by simp only [nu_tau hh]
  unfold thr
  rw [e]
  refine idx_map (fun p : Nat × Nat => (nu t p.1, p.2)) (tau t h, l) P' fun b hb z => ?_
  simp only [Prod.mk.injEq, nu_tau hh] at z
  exact Prod.ext (by rw [← tau_nu (hP b hb), z.1]) z.2
/-- a ground and the turned one, the stays where they lie there -/
structure Two (t : T) (g g' : Gr) (P P' : List (Nat × Nat)) (σ : Nat → Nat) : Prop where
  ok : Grd g
  ok' : Grd g'
  fnd : ∀ ws : List Str, (∀ w ∈ ws, w ∈ t.ls) → Fnd g ws
  iso : Iso g g' σ Q.newW
  len : g'.length = g.length
  m : Mtc t g P
  m' : Mtc (t.turn Q.newW) g' P'
  at_ : ∀ (x h l : Nat), P[x]? = some (h, l) → (tau t h, l) ∈ P' ∧ P'.idxOf (tau t h, l) = σ x
theorem turn_ok {t : T} (ho : t.Ok) : (t.turn Q.newW).Ok := fun w hw => by
  obtain ⟨v, hv, rfl⟩ := List.mem_map.mp ((t.turn_trn Q.newW).perm.mem_iff.mp hw)
  exact Q.newW_ok (ho v hv)
theorem turn_ls {t : T} : (t.turn Q.newW).ls.length = t.ls.length := by rw [(t.turn_trn Q.newW).perm.length_eq, List.length_map]
theorem two_O {t : T} (ho : t.Ok) (hz : t.ls.length ≤ 8) : Two t (grO t) (grO (t.turn Q.newW)) ((List.range t.cnt).map fun h => (h, 0)) ((List.range (t.turn Q.newW).cnt).map fun h => (h, 0)) (tau t) := by
  refine ⟨grO_ok ho hz, grO_ok (turn_ok ho) (by rw [turn_ls]; exact hz), fun ws => grO_fnd, turn_iso _ t, by rw [grO_len, grO_len, turn_cnt], mtc_O t, mtc_O _, fun x h l e => ?_⟩
  have hx : x < t.cnt := by have := (List.getElem?_eq_some_iff.mp e).1; simpa using this
  rw [List.getElem?_map, List.getElem?_range hx] at e
  cases e
  have ht := tau_lt hx
  refine ⟨List.mem_map.mpr ⟨tau t x, List.mem_range.mpr (by rw [turn_cnt]; exact ht), rfl⟩, ?_⟩
  have := idx_map (fun h : Nat => (h, (0 : Nat))) (tau t x) (List.range (t.turn Q.newW).cnt) fun b _ z => by simpa using z
  refine this.trans ?_
  have h1 : (List.range (t.turn Q.newW).cnt)[tau t x]? = some (tau t x) := List.getElem?_range (by rw [turn_cnt]; exact ht)
  obtain ⟨a1, a2⟩ := List.getElem?_eq_some_iff.mp h1
  have := List.nodup_range.idxOf_getElem _ a1
  rwa [a2] at this
theorem two_W {t : T} {ds : List Int} (I : Dts t ds) (ho : t.Ok) (hz : t.ls.length ≤ 8) : Two t (grW t ds) (grW (t.turn Q.newW) (dT t ds)) (standing t ds) (standing (t.turn Q.newW) (dT t ds)) (spt Q.newW t ds) := by
  have at_ : ∀ (x h l : Nat), (standing t ds)[x]? = some (h, l) → (tau t h, l) ∈ standing (t.turn Q.newW) (dT t ds) ∧ (standing (t.turn Q.newW) (dT t ds)).idxOf (tau t h, l) = spt Q.newW t ds x := fun x h l e => by
    have m := List.mem_of_getElem? e
    exact ⟨(standing_turn I (standing_mem.mp m).2.1).mpr m, (spt_at e).symm⟩
  refine ⟨grW_ok I ho hz, grW_ok (dts_turn I) (turn_ok ho) (by rw [turn_ls]; exact hz), fun ws => grW_fnd I, dated_iso I, ?_, mtc_W t ds, mtc_W _ _, at_⟩
  rw [grW_len, grW_len]
  have e : (standing (t.turn Q.newW) (dT t ds)).Perm ((standing t ds).map fun p => (tau t p.1, p.2)) := by
    refine (List.perm_ext_iff_of_nodup (standing_nd _ _) ?_).mpr fun q => ?_
    · refine List.pairwise_map.mpr ((standing_nd t ds).imp_of_mem fun {a b} ha hb hne z => hne ?_)
      simp only [Prod.mk.injEq] at z
      exact Prod.ext (tau_inj (standing_mem.mp (show (a.1, a.2) ∈ _ from ha)).2.1 (standing_mem.mp (show (b.1, b.2) ∈ _ from hb)).2.1 z.1) z.2
    · obtain ⟨h', l⟩ := q
      constructor
      · intro m
        have hh : h' < t.cnt := by have := (standing_mem.mp m).2.1; rwa [turn_cnt] at this
        have k := nu_lt hh
        rw [← tau_nu hh] at m
        exact List.mem_map.mpr ⟨(nu t h', l), (standing_turn I k).mp m, by simp only [tau_nu hh]⟩
      · intro m
        obtain ⟨⟨h, l'⟩, hm, z⟩ := List.mem_map.mp m
        simp only [Prod.mk.injEq] at z
        obtain ⟨rfl, rfl⟩ := z
        exact (standing_turn I (standing_mem.mp hm).2.1).mpr hm
  rw [e.length_eq, List.length_map]
end M
namespace Q
open PySem hiding Env
open L2 M
theorem wS_imp {o : OutS} {K K' : OutS → Prop} (h : wS o K) (k : ∀ o, K o → K' o) : wS o K' := k _ h
theorem house_V {t : T} {h : Nat} {x y z : D} {S : Store} (ho : t.Ok) (hn : t.ls.Nodup) (hh : h < t.cnt) : M_house_of [.v (.lst t.nodes), .v (.tup [nmOf t h, x, y, z])] S = .ok (.v (natD h)) S := by
  cases hs : isStr (t.nodes.getD h .non) with
  | false =>
    have e : nmOf t h = natD h := by unfold nmOf; rw [hs]; rfl
    rw [e]
    exact house_nat
  | true =>
    rcases sub_at hh with ⟨w, e⟩ | ⟨l, r, e⟩
    · have hw := nd_leaf e
      have hi : t.nodes[h]? = some (.str w) := by rw [← hw]; exact node_getD hh
      rw [nmOf_leaf hw]
      have ix : mtIndex (.v (.lst t.nodes)) [.v (.str w)] S = .ok (.v (.int (h : Nat))) S := mtIndex_nic 1 (view_v _ _) (nic_nodes ho _ (List.mem_of_getElem? hi)) (nic_nodes ho) (by decide) hi fun k hk => word_uniq hn hk hi
      refine eq_wE ?_
      simp_arith [M_house_of, m_house_of, ix]
      rfl
    · rw [(nd_node e).1] at hs; cases hs
end Q
namespace Q
open PySem hiding Env
open L2 M
noncomputable def b1_law_k24 (g_pot : List R → Store → Out R) (g_great_2 : List R → Store → Out R) (g_called : List R → Store → Out R) (g_numbers : List R → Store → Out R) (g_nodes_3 : List R → Store → Out R) (g_ground : List R → Store → Out R) (g_take_2 : List R → Store → Out R) (g_dates : List R → Store → Out R) (g_dated_2 : List R → Store → Out R) (g_house_of : List R → Store → Out R) (g_small_6 : List R → Store → Out R) (g_whole_way : List R → Store → Out R) (g_moved : List R → Store → Out R) (g_is_way : List R → Store → Out R) (g_same_2 : List R → Store → Out R) (g_counted : List R → Store → Out R) (g_places : List R → Store → Out R) : MS :=
  (mTrim (mSeq (mSet 2 (mCall g_pot (mCons (mVar 0) (mCons (mVar 1) mNil))))
  (mSeq (mSet 3 (mCall g_great_2 (mCons (mVar 2) mNil)))
  (mSeq (mAsg (tgT [(tgN 4), (tgN 5)]) (mTup (mCons (mCall g_called (mCons (mVar 3) (mCons (mC (.int 1)) mNil))) (mCons (mCall g_numbers (mCons (mVar 3) (mCons (mC (.int 0)) mNil))) mNil))))
  (mSeq (mAsg (tgT [(tgN 6), (tgN 7)]) (mTup (mCons (mCall g_nodes_3 (mCons (mVar 3) mNil)) (mCons (mCall g_nodes_3 (mCons (mVar 4) mNil)) mNil))))
  (mSeq (mPar 8 9 (mCall g_ground (mCons (mVar 3) mNil)) (mCall g_ground (mCons (mVar 4) mNil)))
  (mSeq (mIfS (mtB (mBin opEq (mCall g_take_2 (mCons (mVar 2) (mCons (mC (.int 2)) mNil))) (mC (.int 0)))) (mSeq (mSet 10 (mCall g_dates (mCons (mVar 2) (mCons (mVar 6) mNil))))
  (mPar 8 9 (mCall g_dated_2 (mCons (mVar 3) (mCons (mVar 10) mNil))) (mCall g_dated_2 (mCons (mVar 4) (mCons (mCall biTuple (mCons (mPop (mLc (srcAny (mVar 5)) [16] (tgN 16) mtYes (mBin opIx (mVar 10) (mVar 16)))) mNil)) mNil))))) mSkip)
  (mSeq (mSet 11 (mPop (mLc (srcAny (mVar 9)) [17] (tgN 17) mtYes (mTup (mCons (mBin opIx (mVar 5) (mCall g_house_of (mCons (mVar 7) (mCons (mVar 17) mNil)))) (mCons (mBin opIx (mVar 17) (mC (.int 1))) mNil))))))
  (mSeq (mSet 12 (mPop (mLc (srcAny (mVar 8)) [17] (tgN 17) mtYes (mMeth "list" mtIndex (mVar 11) (mCons (mTup (mCons (mCall g_house_of (mCons (mVar 6) (mCons (mVar 17) mNil))) (mCons (mBin opIx (mVar 17) (mC (.int 1))) mNil))) mNil)))))
  (mSeq (mSet 13 (mCall g_small_6 (mCons (mVar 2) (mCons (mVar 3) mNil))))
  (mSeq (mSet 14 (mCall g_whole_way (mCons (mVar 2) (mCons (mVar 8) (mCons (mVar 13) mNil)))))
  (mSeq (mSet 15 (mCall g_moved (mCons (mVar 14) (mCons (mVar 12) mNil))))
  (mSeq (mIfS (mtOr (mtB (mBin opIsNot (mCall g_is_way (mCons (mVar 8) (mCons (mVar 13) (mCons (mVar 14) mNil)))) (mC (.bl true)))) (mtB (mBin opIsNot (mCall g_is_way (mCons (mVar 9) (mCons (mCall g_called (mCons (mVar 13) (mCons (mC (.int 0)) mNil))) (mCons (mVar 15) mNil)))) (mC (.bl true))))) (mRet (mC (.bl false))) mSkip)
  (mSeq (mIfS (mtOr (mtNot (mtTru (mCall g_same_2 (mCons (mCall g_counted (mCons (mVar 9) (mCons (mVar 15) mNil))) (mCons (mCall g_counted (mCons (mVar 8) (mCons (mVar 14) mNil))) mNil))))) (mtB (mBin opNe (mCall biLen (mCons (mVar 9) mNil)) (mCall biLen (mCons (mVar 8) mNil))))) (mRet (mC (.bl false))) mSkip)
  (mIfS (mtNot (mtTru (mCall g_same_2 (mCons (mCall g_places (mCons (mVar 15) mNil)) (mCons (mCall biTuple (mCons (mPop (mLc (srcAny (mCall g_places (mCons (mVar 14) mNil))) [17, 18] (tgT [(tgN 17), (tgN 18)]) mtYes (mTup (mCons (mBin opIx (mVar 12) (mVar 17)) (mCons (mVar 18) mNil))))) mNil)) mNil))))) (mRet (mC (.bl false))) mSkip)))))))))))))))
noncomputable def m_law_k24 (g_pot : List R → Store → Out R) (g_great_2 : List R → Store → Out R) (g_numbers : List R → Store → Out R) (g_called : List R → Store → Out R) (g_nodes_3 : List R → Store → Out R) (g_ground : List R → Store → Out R) (g_take_2 : List R → Store → Out R) (g_dates : List R → Store → Out R) (g_dated_2 : List R → Store → Out R) (g_house_of : List R → Store → Out R) (g_small_6 : List R → Store → Out R) (g_whole_way : List R → Store → Out R) (g_moved : List R → Store → Out R) (g_is_way : List R → Store → Out R) (g_counted : List R → Store → Out R) (g_same_2 : List R → Store → Out R) (g_places : List R → Store → Out R) : MS :=
  (mSeq (mFor (srcRange1 (mCons (mCall biMax (mCons (mC (.int 1)) (mCons (mCall biMin (mCons (mCall biLen (mCons (mVar 0) mNil)) (mCons (mC (.int 6)) mNil))) mNil))) mNil)) (tgN 1) (b1_law_k24 g_pot g_great_2 g_called g_numbers g_nodes_3 g_ground g_take_2 g_dates g_dated_2 g_house_of g_small_6 g_whole_way g_moved g_is_way g_same_2 g_counted g_places))
  (mRet (mC (.bl true))))
noncomputable def M_law_k24 : List R → Store → Out R := mDef 19 (m_law_k24 M_pot M_great_2 (R_numbers 70) (R_called 70) (R_nodes_3 70) M_ground M_take_2 M_dates M_dated_2 M_house_of M_small_6 M_whole_way (R_moved 70) M_is_way M_counted (R_same_2 70) M_places)
end Q
namespace Q
open PySem hiding Env
open L2 M
theorem frzO_rr {α : Type} {S : Store} {n k : Nat} {ds es : List D} (h : S[n]? = some (.lst (ds.map .v))) (h2 : S[k]? = some (.lst (es.map .v))) (hnk : n ≠ k) (f : List D → Store → Out α) : frzO S [.ref n, .ref k] f = f [.lst ds, .lst es] ((S.set n (.fz (.lst ds))).set k (.fz (.lst es))) := by
  have h3 : (S.set n (.fz (.lst ds)))[k]? = some (.lst (es.map .v)) := by rw [List.getElem?_set_ne hnk]; exact h2
  unfold frzO
  simp only [frzA, Option.bind_some, frz_ref h, frz_ref h3]
theorem k24_main (ns : List Int) (hns : ns.length ≤ 63) : ∃ S', M_law_k24 [.v (.kl (ns.map D.int))] [] = .ok (.v (.bl true)) S' := by
  suffices h : wE (M_law_k24 [.v (.kl (ns.map D.int))] []) (fun o => ∃ S', o = .ok (.v (.bl true)) S') from h
  obtain ⟨q, hq, q1, q2⟩ := top_count (ns.length : Int) 6 (by omega) (by omega)
  simp_arith [M_law_k24, m_law_k24, List.length_map]
  rw [hq]
  simp_arith [rg1_nat q (by omega)]
  refine for_wp [1, 2, 3, 4, 5, 6, 7, 8, 9, 10, 11, 12, 13, 14, 15, 16, 17, 18] (fun i ws U => U = [] ∧ ws.length = 18) rfl ⟨rfl, rfl⟩ ?_ ?_
  · rintro i d ws U hd ⟨rfl, hws⟩
    obtain ⟨hi, rfl⟩ := rangeD_get hd
    match ws, hws with
    | [a1, a2, a3, a4, a5, a6, a7, a8, a9, a10, a11, a12, a13, a14, a15, a16, a17, a18], _ =>
    simp only [Int.zero_add]
    simp_arith [b1_law_k24]
    refine pot_wp (by omega) (by omega) fun h => ?_
    simp_arith []
    obtain ⟨h1, t, e1, ho, hnd, hnw, hz⟩ := great_2_newW (S := [h.c]) (n := 0) (h := h) rfl (by omega)
    refine wE_eq e1 ?_
    have hd70 := depth_lt8 hz
    have ht := turn_ok ho
    have htz : (t.turn newW).ls.length ≤ 8 := by rw [turn_ls]; exact hz
    have htd := depth_lt8 htz
    have htn : (t.turn newW).ls.Nodup := (t.turn_trn newW).perm.nodup_iff.mpr hnw
    have nsp : ∀ S, R_numbers 70 [.v t.d, .v (.int 0)] S = .ok (.v (.lst ((NN t 0).map natD))) S := fun S => numbers_spec t 70 0 S hd70 (by omega)
    have csp := fun S => called_1 t 70 S hd70 ho
    have hset : ([h.c] : Store).set 0 h1.c = [h1.c] := rfl
    simp_arith [hset, nsp, csp]
    refine nodes_3_wp hd70 (by omega) fun w x hw hwl => ?_
    simp_arith []
    refine nodes_3_wp htd (by omega) fun w2 x2 hw2 hwl2 => ?_
    simp_arith []
    have hw1 : ([h1.c] ++ x ++ x2 : Store)[w]? = some (.lst (t.nodes.map .v)) := get_app' hw _
    have hne : w ≠ w2 := by
      have := (List.getElem?_eq_some_iff.mp hw).1
      simp at this hwl2
      omega
    have e0 : (h1.c :: (x ++ x2) : Store) = [h1.c] ++ x ++ x2 := by simp
    rw [e0, frzO_rr hw1 hw2 hne]
    obtain ⟨y, hy⟩ : ∃ y, (([h1.c] ++ x ++ x2 : Store).set w (.fz (.lst t.nodes))).set w2 (.fz (.lst (t.turn newW).nodes)) = h1.c :: y := by
      simp at hwl hwl2
      obtain ⟨w', rfl⟩ : ∃ w', w = w' + 1 := ⟨w - 1, by omega⟩
      obtain ⟨w3, rfl⟩ : ∃ w', w2 = w' + 1 := ⟨w2 - 1, by omega⟩
      exact ⟨_, rfl⟩
    rw [hy]
    have gsp := fun S => ground_spec (t := t) (S := S) hd70 (show t.ls.length ≤ 10000 by omega)
    have gsp' := fun S => ground_spec (t := t.turn newW) (S := S) htd (show (t.turn newW).ls.length ≤ 10000 by omega)
    rw [← grO_d] at gsp gsp'
    simp_arith [sz2, gsp, gsp']
    refine take_2_wp (h := h1) (S := h1.c :: y) (n := 0) rfl (by omega) (by decide) (by decide) fun r h2 r0 r1 => ?_
    simp_arith []
    have hset2 : ∀ c c' : MO, (c :: y : Store).set 0 c' = c' :: y := fun _ _ => rfl
    refine wS_imp (K := fun o => ∃ (gr gr' : Gr) (P P' : List (Nat × Nat)) (σ : Nat → Nat) (b3 : Nat) (h3 : Pot b3) (z10 z16 : Option R), b3 ≤ 1000 ∧ Two t gr gr' P P' σ ∧ o = .nx [some (.v (.kl (ns.map D.int))), some (.v (.int (i : Int))), some (.ref 0), some (.v t.d), some (.v (t.turn newW).d), some (.v (.lst ((NN t 0).map natD))), some (.v (.lst t.nodes)), some (.v (.lst (t.turn newW).nodes)), some (.v (grD gr)), some (.v (grD gr')), z10, a11, a12, a13, a14, a15, z16, a17, a18] (h3.c :: y)) ?_ ?_
    · cases q2 : (r == 0 : Bool) with
      | false => exact ⟨_, _, _, _, _, _, h2, _, _, by omega, two_O ho hz, rfl⟩
      | true =>
        simp_arith []
        refine dates_wpV (h := h2) (S := h2.c :: y) (p := 0) rfl hz (by omega) fun ds h3 hdt hlen hb => ?_
        have I := Dts.of hdt
        have I' := dts_turn (ρ := newW) I
        have dsp := fun S => dated_spec (S := S) I hd70 (show t.ls.length ≤ 1000 by omega)
        have dsp' := fun S => dated_spec (S := S) I' htd (show (t.turn newW).ls.length ≤ 1000 by omega)
        rw [← grW_d] at dsp dsp'
        simp_arith [dsp, hset2]
        have cl := t.cnt_ls
        have ixd : ∀ k ∈ NN t 0, ∀ S, opIx (.v (.tup (ds.map D.int))) (.v (natD k)) S = .ok (.v (.int (ds.getD k 0))) S := fun k hk S => opIx_tup (by
          have := (NN_mem.mp hk).2
          exact intD_get (by rw [I.len]; omega))
        refine lcT_wp (NN t 0) (fun k => .v (natD k)) (fun k => .int (ds.getD k 0)) (by rw [List.map_map]; rfl) (.refl _) (sz_of (by rw [NN_len]; omega)) ?_ ?_
        · intro k hk acc
          simp_arith [ixd k hk]
        · have e2 : ((NN t 0).map fun k => D.int (ds.getD k 0)) = (dT t ds).map D.int := by unfold dT; rw [List.map_map]; rfl
          simp_arith [e2, biTuple_lst, dsp']
          exact ⟨_, _, _, _, _, _, h3, _, _, by omega, two_W I ho hz, rfl⟩
    · rintro _ ⟨gr, gr', P, P', σ, b3, h3, z10, z16, hb3, Tw, rfl⟩
      have gd : ∀ g : Gr, grD g = .tup ((List.range g.length).map fun x => (atG g x).d) := fun g => by unfold grD; rw [gr_range]
      have l1 := Tw.ok.len
      have l2 := Tw.len
      have nix : ∀ k, k < t.cnt → ∀ S, opIx (.v (.lst ((NN t 0).map natD))) (.v (natD k)) S = .ok (.v (natD (nu t k))) S := fun k hk S => opIx_lst (by
        unfold natD
        rw [atI_lt (by omega), Int.toNat_natCast, List.getElem?_map, nu_at hk]; rfl)
      have s0 : ∀ (s : Sty) S, opIx (.v s.d) (.v (.int 1)) S = .ok (.v (natD s.lv)) S := fun s S => rfl
      simp_arith []
      rw [gd gr']
      simp_arith []
      refine lcT_wp (List.range gr'.length) (fun x => .v (atG gr' x).d) (fun x => pairDn (nu t (P'.getD x (0, 0)).1, (P'.getD x (0, 0)).2)) (by rw [List.map_map]; rfl) (.refl _) (sz_of (by rw [List.length_range]; omega)) ?_ ?_
      · intro x hx acc
        obtain ⟨p, ep, n1, n2, n3⟩ := Tw.m'.at_ x (List.mem_range.mp hx)
        have pg : P'.getD x (0, 0) = p := by rw [List.getD_eq_getElem?_getD, ep]; rfl
        have hV : ∀ S, M_house_of [.v (.lst (t.turn newW).nodes), .v (atG gr' x).d] S = .ok (.v (natD p.1)) S := fun S => by
          unfold Sty.d
          rw [n1]
          exact house_V ht htn n3
        rw [turn_cnt] at n3
        rw [pg, ← n2]
        simp_arith [hV, nix p.1 n3, s0]
        rfl
      · have e3 : ((List.range gr'.length).map fun x => pairDn (nu t (P'.getD x (0, 0)).1, (P'.getD x (0, 0)).2)) = (thr t P').map pairDn := by
          rw [← Tw.m'.len, P_range P' fun p => pairDn (nu t p.1, p.2)]
          unfold thr
          rw [List.map_map]; rfl
        rw [e3]
        simp_arith []
        rw [gd gr]
        simp_arith []
        refine lcT_wp (List.range gr.length) (fun x => .v (atG gr x).d) (fun x => natD (σ x)) (by rw [List.map_map]; rfl) (.refl _) (sz_of (by rw [List.length_range]; omega)) ?_ ?_
        · intro x hx acc
          obtain ⟨⟨k, l⟩, ep, n1, n2, n3⟩ := Tw.m.at_ x (List.mem_range.mp hx)
          simp only at n1 n2 n3
          obtain ⟨t1, t2⟩ := Tw.at_ x k l ep
          have hV : ∀ S, M_house_of [.v (.lst t.nodes), .v (atG gr x).d] S = .ok (.v (natD k)) S := fun S => by
            unfold Sty.d
            rw [n1]
            exact house_V ho hnd n3
          have hmem : (k, l) ∈ thr t P' := List.mem_map.mpr ⟨(tau t k, l), t1, by simp only [nu_tau n3]⟩
          have hP : ∀ p ∈ P', p.1 < t.cnt := fun p hp => by
            obtain ⟨z, hz1, hz2⟩ := List.getElem_of_mem hp
            obtain ⟨p2, e2, _, _, g3⟩ := Tw.m'.at_ z (by rw [← Tw.m'.len]; exact hz1)
            rw [List.getElem?_eq_getElem hz1, hz2] at e2
            cases e2
            rwa [turn_cnt] at g3
          have ixp : ∀ S, mtIndex (.v (.lst ((thr t P').map pairDn))) [.v (.tup [natD k, natD l])] S = .ok (.v (natD (σ x))) S := fun S => by
            have := mtIndex_pairs (S := S) hmem
            rw [thr_idx n3 hP, t2] at this
            exact this
          simp_arith [hV, s0, n2, ixp]
        · have e4 : ((List.range gr.length).map fun x => natD (σ x)) = ((List.range gr.length).map σ).map natD := by rw [List.map_map]; rfl
          rw [e4]
          simp_arith []
          rw [← gd gr, ← gd gr']
          refine small_6_wp (h := h3) (S := h3.c :: y) (n := 0) ho hz (by omega) rfl fun s h4 Sm => ?_
          have hsd : s.depth < 60 := by have := Sm.depth; omega
          have hsl := Sm.len
          have F := Tw.fnd s.ls Sm.sub
          simp_arith [hset2]
          refine whole_way_wp (h := h4) (n := 0) (S := h4.c :: y) Tw.ok Sm.ok hsl F (by omega) rfl fun z h5 hy5 hy1 => ?_
          have mv := fun S => moved_spec (sp := (List.range gr.length).map σ) (σ := σ) Tw.ok (fun x hx => by rw [List.getElem?_map, List.getElem?_range hx]; rfl) z s 70 S hy5 (by omega)
          have hy' := Tw.iso.mv s z hy5
          have hz1 : (z.mv σ).p.length = 1 := by rw [mv_p, List.length_map]; exact hy1
          have so' : (s.mapL newW).Ok := fun w hw => by
            rw [T.mapL_ls] at hw
            obtain ⟨v, hv, rfl⟩ := List.mem_map.mp hw
            exact newW_ok (Sm.ok v hv)
          have sl' : (s.mapL newW).ls.length = s.ls.length := by rw [T.mapL_ls, List.length_map]
          have sd' : (s.mapL newW).depth < 60 := by have := (s.mapL newW).depth_lt; omega
          have w1 := fun S => is_way_wy (S := S) Tw.ok Sm.ok hsd (by omega) (way_ok Tw.ok hy5)
          have w2 := fun S => is_way_wy (S := S) Tw.ok' so' sd' (by omega) (way_ok Tw.ok' hy')
          rw [hy5, hy1, decide_eq_true rfl] at w1
          rw [hy', hz1, decide_eq_true rfl] at w2
          have Y := Wys.of hy5 hsl
          have Y' := Wys.of hy' (by omega)
          have c1 := fun S => counted_spec (S := S) Tw.ok hy5 Y
          have c2 := fun S => counted_spec (S := S) Tw.ok' hy' Y'
          rw [mv_cnt Tw.iso hy5] at c2
          have pl : Pln 70 (pD (cntL gr z)) := ⟨by simp [cntL], fun d hd => by
            obtain ⟨x, _, rfl⟩ := List.mem_map.mp hd
            trivial⟩
          have p1 := fun S => places_wys (S := S) Y
          have p2 := fun S => places_wys (S := S) Y'
          have ep := mv_plc σ (y := z) fun w hw => (pathN_inv (all_paths s z hy5 w hw)).1
          have c0 := fun S => called_0 s 70 S (by omega) Sm.ok
          have bg : ∀ (g : Gr) S, biLen [.v (grD g)] S = .ok (.v (.int (g.length : Int))) S := fun g S => by unfold grD; rw [biLen_tup, List.length_map]
          simp_arith [hset2, mv, w1, w2, c0, Bool.true_and, decide_true, c1, c2, fun S => same_2_refl 70 _ S pl, bg, l2, p1, p2]
          rw [beq_self_eq_true]
          simp_arith [Bool.not_true, p1, p2]
          refine lcT_wp z.plc (fun q => .v (plD q)) (fun q => plD (σ q.1, q.2)) (by rw [List.map_map]; rfl) (.refl _) (sz_of (by rw [Wy.plc, List.length_map]; have := Y.len; omega)) ?_ ?_
          · rintro ⟨u, dd⟩ hu acc
            have hul : u < gr.length := by
              obtain ⟨w, hw, e⟩ := List.mem_map.mp hu
              cases e
              exact pathN_last (way_all hy5 w hw).1
            have ixs : ∀ S, opIx (.v (.lst (((List.range gr.length).map σ).map natD))) (.v (.int (u : Int))) S = .ok (.v (natD (σ u))) S := fun S => opIx_lst (by
              rw [atI_lt (by omega), Int.toNat_natCast, List.getElem?_map, List.getElem?_map, List.getElem?_range hul]; rfl)
            simp only [plD, natD] at ixs ⊢
            simp_arith [ixs]
          · have e6 : (z.plc.map fun q => plD (σ q.1, q.2)) = (z.mv σ).plc.map plD := by rw [ep, List.map_map]; rfl
            simp_arith [e6, biTuple_lst, p2, fun S => same_2_refl 70 _ S (pln_plc 67 (by rw [Wy.plc, List.length_map]; exact Y'.len) Y'.str)]
            simp_arith [trim_nil (show (h5.c :: y : Store) ≠ [] by simp)]
  · rintro ws U ⟨rfl, hws⟩
    match ws, hws with
    | [a1, a2, a3, a4, a5, a6, a7, a8, a9, a10, a11, a12, a13, a14, a15, a16, a17, a18], _ =>
    simp_arith []
    exact ⟨_, rfl⟩
end Q
namespace K24
open PySem hiding Env
open L2 M Q
def topS (i : Nat) : Stmt := PySem.Challenge.pw_treewithin_k24_whole_great_trees_turned.main.body.getD i (.Pass ⟨0, 0, 0, 0⟩)
abbrev s__law_pot : Stmt := topS 28
abbrev N__law_pot : List Str := ["_law_script", "_law_k", "_law_cell", "_law_digits"]
theorem sc__law_pot : FnScope N__law_pot ["_law_script", "_law_k"] (defScope s__law_pot) := ⟨rfl, rfl, rfl, by decide +kernel, rfl, by decide +kernel, by decide +kernel⟩
abbrev s__law_take : Stmt := topS 29
abbrev N__law_take : List Str := ["_law_pot_here", "_law_many", "_law_digit", "_law_mixed"]
theorem sc__law_take : FnScope N__law_take ["_law_pot_here", "_law_many"] (defScope s__law_take) := ⟨rfl, rfl, rfl, by decide +kernel, rfl, by decide +kernel, by decide +kernel⟩
abbrev s__law_tree : Stmt := topS 32
abbrev N__law_tree : List Str := ["_law_pot_here", "_law_words_here", "_law_some", "_law_way_here", "_law_at", "_law_pair"]
theorem sc__law_tree : FnScope N__law_tree ["_law_pot_here", "_law_words_here"] (defScope s__law_tree) := ⟨rfl, rfl, rfl, by decide +kernel, rfl, by decide +kernel, by decide +kernel⟩
abbrev s__law_words : Stmt := topS 31
abbrev N__law_words : List Str := ["_law_pot_here", "_law_many", "_law_letters", "_law_first", "_law_turn", "_law_stem", "_law_ends", "_law_found", "_law_k", "_law_letter"]
theorem sc__law_words : FnScope N__law_words ["_law_pot_here", "_law_many"] (defScope s__law_words) := ⟨rfl, rfl, rfl, by decide +kernel, rfl, by decide +kernel, by decide +kernel⟩
abbrev s__law_great : Stmt := topS 33
abbrev N__law_great : List Str := ["_law_pot_here"]
theorem sc__law_great : FnScope N__law_great ["_law_pot_here"] (defScope s__law_great) := ⟨rfl, rfl, rfl, by decide +kernel, rfl, by decide +kernel, by decide +kernel⟩
abbrev s__law_nodes : Stmt := topS 34
abbrev N__law_nodes : List Str := ["_law_tree_here", "_law_rows", "_law_many", "_law_row"]
theorem sc__law_nodes : FnScope N__law_nodes ["_law_tree_here"] (defScope s__law_nodes) := ⟨rfl, rfl, rfl, by decide +kernel, rfl, by decide +kernel, by decide +kernel⟩
abbrev s__law_pick : Stmt := topS 30
abbrev N__law_pick : List Str := ["_law_pot_here", "_law_some"]
theorem sc__law_pick : FnScope N__law_pick ["_law_pot_here", "_law_some"] (defScope s__law_pick) := ⟨rfl, rfl, rfl, by decide +kernel, rfl, by decide +kernel, by decide +kernel⟩
abbrev s__law_small : Stmt := topS 36
abbrev N__law_small : List Str := ["_law_pot_here", "_law_great_here", "_law_words_here", "_law_many", "_law_row", "_law_k"]
theorem sc__law_small : FnScope N__law_small ["_law_pot_here", "_law_great_here"] (defScope s__law_small) := ⟨rfl, rfl, rfl, by decide +kernel, rfl, by decide +kernel, by decide +kernel⟩
abbrev s__law_deeds : Stmt := topS 37
abbrev N__law_deeds : List Str := ["_law_stays", "_law_stay", "_law_name", "_law_level", "_law_under", "_law_beside", "_law_found", "_law_other"]
theorem sc__law_deeds : FnScope N__law_deeds ["_law_stays", "_law_stay"] (defScope s__law_deeds) := ⟨rfl, rfl, rfl, by decide +kernel, rfl, by decide +kernel, by decide +kernel⟩
abbrev s__law_done : Stmt := topS 38
abbrev N__law_done : List Str := ["_law_stays", "_law_rows", "_law_can_here", "_law_node", "_law_stay", "_law_row", "_law_one"]
theorem sc__law_done : FnScope N__law_done ["_law_stays", "_law_rows", "_law_can_here", "_law_node", "_law_stay"] (defScope s__law_done) := ⟨rfl, rfl, rfl, by decide +kernel, rfl, by decide +kernel, by decide +kernel⟩
abbrev s__law_can : Stmt := topS 39
abbrev N__law_can : List Str := ["_law_stays", "_law_rows", "_law_found", "_law_node", "_law_stay", "_law_on", "_law_low"]
theorem sc__law_can : FnScope N__law_can ["_law_stays", "_law_rows"] (defScope s__law_can) := ⟨rfl, rfl, rfl, by decide +kernel, rfl, by decide +kernel, by decide +kernel⟩
abbrev s__law_path : Stmt := topS 40
abbrev N__law_path : List Str := ["_law_pot_here", "_law_stays", "_law_rows", "_law_can_here", "_law_node", "_law_stay", "_law_path_here", "_law_turn", "_law_on", "_law_ends", "_law_low"]
theorem sc__law_path : FnScope N__law_path ["_law_pot_here", "_law_stays", "_law_rows", "_law_can_here", "_law_node", "_law_stay"] (defScope s__law_path) := ⟨rfl, rfl, rfl, by decide +kernel, rfl, by decide +kernel, by decide +kernel⟩
abbrev s__law_way : Stmt := topS 41
abbrev N__law_way : List Str := ["_law_pot_here", "_law_stays", "_law_rows", "_law_can_here", "_law_node", "_law_path_here", "_law_deed", "_law_one", "_law_other", "_law_row", "_law_first"]
theorem sc__law_way : FnScope N__law_way ["_law_pot_here", "_law_stays", "_law_rows", "_law_can_here", "_law_node", "_law_path_here"] (defScope s__law_way) := ⟨rfl, rfl, rfl, by decide +kernel, rfl, by decide +kernel, by decide +kernel⟩
abbrev s__law_whole_way : Stmt := topS 42
abbrev N__law_whole_way : List Str := ["_law_pot_here", "_law_stays", "_law_small_here", "_law_rows", "_law_can_here", "_law_last", "_law_some", "_law_stay"]
theorem sc__law_whole_way : FnScope N__law_whole_way ["_law_pot_here", "_law_stays", "_law_small_here"] (defScope s__law_whole_way) := ⟨rfl, rfl, rfl, by decide +kernel, rfl, by decide +kernel, by decide +kernel⟩
abbrev s__law_moved : Stmt := topS 47
abbrev N__law_moved : List Str := ["_law_way_here", "_law_spots", "_law_path_here", "_law_stay", "_law_part"]
theorem sc__law_moved : FnScope N__law_moved ["_law_way_here", "_law_spots"] (defScope s__law_moved) := ⟨rfl, rfl, rfl, by decide +kernel, rfl, by decide +kernel, by decide +kernel⟩
abbrev s__law_called : Stmt := topS 44
abbrev N__law_called : List Str := ["_law_tree_here", "_law_turn", "_law_one", "_law_other"]
theorem sc__law_called : FnScope N__law_called ["_law_tree_here", "_law_turn"] (defScope s__law_called) := ⟨rfl, rfl, rfl, by decide +kernel, rfl, by decide +kernel, by decide +kernel⟩
abbrev s__law_numbers : Stmt := topS 45
abbrev N__law_numbers : List Str := ["_law_tree_here", "_law_first", "_law_one", "_law_other"]
theorem sc__law_numbers : FnScope N__law_numbers ["_law_tree_here", "_law_first"] (defScope s__law_numbers) := ⟨rfl, rfl, rfl, by decide +kernel, rfl, by decide +kernel, by decide +kernel⟩
abbrev s_put_nodes : Stmt := topS 1
abbrev N_put_nodes : List Str := ["tree", "found", "one"]
theorem sc_put_nodes : FnScope N_put_nodes ["tree", "found"] (defScope s_put_nodes) := ⟨rfl, rfl, rfl, by decide +kernel, rfl, by decide +kernel, by decide +kernel⟩
abbrev s_nodes : Stmt := topS 2
abbrev N_nodes : List Str := ["tree", "found"]
theorem sc_nodes : FnScope N_nodes ["tree"] (defScope s_nodes) := ⟨rfl, rfl, rfl, by decide +kernel, rfl, by decide +kernel, by decide +kernel⟩
abbrev s_ahead_of : Stmt := topS 3
abbrev N_ahead_of : List Str := ["tree", "some", "found", "number", "node"]
theorem sc_ahead_of : FnScope N_ahead_of ["tree"] (defScope s_ahead_of) := ⟨rfl, rfl, rfl, by decide +kernel, rfl, by decide +kernel, by decide +kernel⟩
abbrev s_line_up : Stmt := topS 15
abbrev N_line_up : List Str := ["aheads", "house", "found"]
theorem sc_line_up : FnScope N_line_up ["aheads", "house"] (defScope s_line_up) := ⟨rfl, rfl, rfl, by decide +kernel, rfl, by decide +kernel, by decide +kernel⟩
abbrev s_name_of : Stmt := topS 16
abbrev N_name_of : List Str := ["told", "house"]
theorem sc_name_of : FnScope N_name_of ["told", "house"] (defScope s_name_of) := ⟨rfl, rfl, rfl, by decide +kernel, rfl, by decide +kernel, by decide +kernel⟩
abbrev s_straight_under : Stmt := topS 17
abbrev N_straight_under : List Str := ["told"]
theorem sc_straight_under : FnScope N_straight_under ["told"] (defScope s_straight_under) := ⟨rfl, rfl, rfl, by decide +kernel, rfl, by decide +kernel, by decide +kernel⟩
abbrev s_ground : Stmt := topS 18
abbrev N_ground : List Str := ["great", "aheads", "lines", "stays", "house", "told", "others", "other"]
theorem sc_ground : FnScope N_ground ["great"] (defScope s_ground) := ⟨rfl, rfl, rfl, by decide +kernel, rfl, by decide +kernel, by decide +kernel⟩
abbrev s__law_dates : Stmt := topS 35
abbrev N__law_dates : List Str := ["_law_pot_here", "_law_rows", "_law_dates_here", "_law_left", "_law_date", "_law_ready", "_law_house", "_law_row"]
theorem sc__law_dates : FnScope N__law_dates ["_law_pot_here", "_law_rows"] (defScope s__law_dates) := ⟨rfl, rfl, rfl, by decide +kernel, rfl, by decide +kernel, by decide +kernel⟩
abbrev s__law_same : Stmt := topS 43
abbrev N__law_same : List Str := ["_law_found", "_law_due", "_law_one", "_law_other"]
theorem sc__law_same : FnScope N__law_same ["_law_found", "_law_due"] (defScope s__law_same) := ⟨rfl, rfl, rfl, by decide +kernel, rfl, by decide +kernel, by decide +kernel⟩
abbrev s_inner_dates : Stmt := topS 20
abbrev N_inner_dates : List Str := ["great", "dates", "told", "date"]
theorem sc_inner_dates : FnScope N_inner_dates ["great", "dates"] (defScope s_inner_dates) := ⟨rfl, rfl, rfl, by decide +kernel, rfl, by decide +kernel, by decide +kernel⟩
abbrev s_Slices_first_slice : Stmt := inClass (topS 21) 1
abbrev N_Slices_first_slice : List Str := ["self", "house"]
theorem sc_Slices_first_slice : FnScope N_Slices_first_slice ["self", "house"] (defScope s_Slices_first_slice) := ⟨rfl, rfl, rfl, by decide +kernel, rfl, by decide +kernel, by decide +kernel⟩
abbrev s_Slices_last_slice : Stmt := inClass (topS 21) 2
abbrev N_Slices_last_slice : List Str := ["self", "house"]
theorem sc_Slices_last_slice : FnScope N_Slices_last_slice ["self", "house"] (defScope s_Slices_last_slice) := ⟨rfl, rfl, rfl, by decide +kernel, rfl, by decide +kernel, by decide +kernel⟩
abbrev s_Slices___init__ : Stmt := inClass (topS 21) 0
abbrev N_Slices___init__ : List Str := ["self", "great", "dates", "level", "house"]
theorem sc_Slices___init__ : FnScope N_Slices___init__ ["self", "great", "dates"] (defScope s_Slices___init__) := ⟨rfl, rfl, rfl, by decide +kernel, rfl, by decide +kernel, by decide +kernel⟩
abbrev s_Slices_under_of : Stmt := inClass (topS 21) 3
abbrev N_Slices_under_of : List Str := ["self", "house", "level", "told"]
theorem sc_Slices_under_of : FnScope N_Slices_under_of ["self", "house", "level"] (defScope s_Slices_under_of) := ⟨rfl, rfl, rfl, by decide +kernel, rfl, by decide +kernel, by decide +kernel⟩
abbrev s_Slices_beside_of : Stmt := inClass (topS 21) 4
abbrev N_Slices_beside_of : List Str := ["self", "house", "level", "at", "other", "here"]
theorem sc_Slices_beside_of : FnScope N_Slices_beside_of ["self", "house", "level"] (defScope s_Slices_beside_of) := ⟨rfl, rfl, rfl, by decide +kernel, rfl, by decide +kernel, by decide +kernel⟩
abbrev s_dated : Stmt := topS 22
abbrev N_dated : List Str := ["great", "dates", "slices", "stays", "house", "level", "name"]
theorem sc_dated : FnScope N_dated ["great", "dates"] (defScope s_dated) := ⟨rfl, rfl, rfl, by decide +kernel, rfl, by decide +kernel, by decide +kernel⟩
abbrev s_may_be_done : Stmt := topS 8
abbrev N_may_be_done : List Str := ["ground", "stay", "deed", "one", "other", "under", "beside"]
theorem sc_may_be_done : FnScope N_may_be_done ["ground", "stay", "deed", "one", "other"] (defScope s_may_be_done) := ⟨rfl, rfl, rfl, by decide +kernel, rfl, by decide +kernel, by decide +kernel⟩
abbrev s_is_stay : Stmt := topS 5
abbrev N_is_stay : List Str := ["ground", "thing"]
theorem sc_is_stay : FnScope N_is_stay ["ground", "thing"] (defScope s_is_stay) := ⟨rfl, rfl, rfl, by decide +kernel, rfl, by decide +kernel, by decide +kernel⟩
abbrev s_is_path : Stmt := topS 6
abbrev N_is_path : List Str := ["ground", "thing", "stay", "later"]
theorem sc_is_path : FnScope N_is_path ["ground", "thing"] (defScope s_is_path) := ⟨rfl, rfl, rfl, by decide +kernel, rfl, by decide +kernel, by decide +kernel⟩
abbrev s_may_be_found : Stmt := topS 7
abbrev N_may_be_found : List Str := ["ground", "stay", "word"]
theorem sc_may_be_found : FnScope N_may_be_found ["ground", "stay", "word"] (defScope s_may_be_found) := ⟨rfl, rfl, rfl, by decide +kernel, rfl, by decide +kernel, by decide +kernel⟩
abbrev s_is_way_of : Stmt := topS 9
abbrev N_is_way_of : List Str := ["ground", "rows", "node", "thing", "told", "last"]
theorem sc_is_way_of : FnScope N_is_way_of ["ground", "rows", "node", "thing"] (defScope s_is_way_of) := ⟨rfl, rfl, rfl, by decide +kernel, rfl, by decide +kernel, by decide +kernel⟩
abbrev s_is_way : Stmt := topS 10
abbrev N_is_way : List Str := ["ground", "small", "thing", "rows"]
theorem sc_is_way : FnScope N_is_way ["ground", "small", "thing"] (defScope s_is_way) := ⟨rfl, rfl, rfl, by decide +kernel, rfl, by decide +kernel, by decide +kernel⟩
abbrev s_parts_of : Stmt := topS 11
abbrev N_parts_of : List Str := ["way"]
theorem sc_parts_of : FnScope N_parts_of ["way"] (defScope s_parts_of) := ⟨rfl, rfl, rfl, by decide +kernel, rfl, by decide +kernel, by decide +kernel⟩
abbrev s_all_ways : Stmt := topS 12
abbrev N_all_ways : List Str := ["way", "found", "part"]
theorem sc_all_ways : FnScope N_all_ways ["way"] (defScope s_all_ways) := ⟨rfl, rfl, rfl, by decide +kernel, rfl, by decide +kernel, by decide +kernel⟩
abbrev s_places : Stmt := topS 13
abbrev N_places : List Str := ["way", "one"]
theorem sc_places : FnScope N_places ["way"] (defScope s_places) := ⟨rfl, rfl, rfl, by decide +kernel, rfl, by decide +kernel, by decide +kernel⟩
abbrev s__law_house_of : Stmt := topS 46
abbrev N__law_house_of : List Str := ["_law_rows", "_law_stay"]
theorem sc__law_house_of : FnScope N__law_house_of ["_law_rows", "_law_stay"] (defScope s__law_house_of) := ⟨rfl, rfl, rfl, by decide +kernel, rfl, by decide +kernel, by decide +kernel⟩
abbrev s_losses : Stmt := topS 25
abbrev N_losses : List Str := ["ground", "path", "stay"]
theorem sc_losses : FnScope N_losses ["ground", "path"] (defScope s_losses) := ⟨rfl, rfl, rfl, by decide +kernel, rfl, by decide +kernel, by decide +kernel⟩
abbrev s_counted : Stmt := topS 26
abbrev N_counted : List Str := ["ground", "way", "ways", "deeds", "one", "deed"]
theorem sc_counted : FnScope N_counted ["ground", "way"] (defScope s_counted) := ⟨rfl, rfl, rfl, by decide +kernel, rfl, by decide +kernel, by decide +kernel⟩
abbrev s_law : Stmt := topS 48
abbrev N_law : List Str := ["_law_script", "_law_k", "_law_pot_here", "_law_great_here", "_law_other", "_law_numbers_here", "_law_rows", "_law_other_rows", "_law_stays", "_law_others", "_law_dates_here", "_law_there", "_law_spots", "_law_small_here", "_law_way_here", "_law_moved_here", "_law_house", "_law_stay", "_law_deed"]
theorem sc_law : FnScope N_law ["_law_script"] (defScope s_law) := ⟨rfl, rfl, rfl, by decide +kernel, rfl, by decide +kernel, by decide +kernel⟩
structure Tp (w : World) (K : PySem.W.Frag) (mg : Str → Option Value) where
  a__law_pot : Addr
  fd__law_pot : FuncData
  F__law_pot : Fun K "_law_pot" "_law_pot" s__law_pot a__law_pot fd__law_pot
  b__law_pot : Binds K fd__law_pot ["_law_script", "_law_k"] []
  m__law_pot : mg "_law_pot" = some (.ref a__law_pot)
  a__law_take : Addr
  fd__law_take : FuncData
  F__law_take : Fun K "_law_take" "_law_take" s__law_take a__law_take fd__law_take
  b__law_take : Binds K fd__law_take ["_law_pot_here", "_law_many"] []
  m__law_take : mg "_law_take" = some (.ref a__law_take)
  a__law_tree : Addr
  fd__law_tree : FuncData
  F__law_tree : Fun K "_law_tree" "_law_tree" s__law_tree a__law_tree fd__law_tree
  b__law_tree : Binds K fd__law_tree ["_law_pot_here", "_law_words_here"] []
  m__law_tree : mg "_law_tree" = some (.ref a__law_tree)
  a__law_words : Addr
  fd__law_words : FuncData
  F__law_words : Fun K "_law_words" "_law_words" s__law_words a__law_words fd__law_words
  b__law_words : Binds K fd__law_words ["_law_pot_here", "_law_many"] []
  m__law_words : mg "_law_words" = some (.ref a__law_words)
  a__law_great : Addr
  fd__law_great : FuncData
  F__law_great : Fun K "_law_great" "_law_great" s__law_great a__law_great fd__law_great
  b__law_great : Binds K fd__law_great ["_law_pot_here"] []
  m__law_great : mg "_law_great" = some (.ref a__law_great)
  a__law_nodes : Addr
  fd__law_nodes : FuncData
  F__law_nodes : Fun K "_law_nodes" "_law_nodes" s__law_nodes a__law_nodes fd__law_nodes
  b__law_nodes : Binds K fd__law_nodes ["_law_tree_here"] []
  m__law_nodes : mg "_law_nodes" = some (.ref a__law_nodes)
  a__law_pick : Addr
  fd__law_pick : FuncData
  F__law_pick : Fun K "_law_pick" "_law_pick" s__law_pick a__law_pick fd__law_pick
  b__law_pick : Binds K fd__law_pick ["_law_pot_here", "_law_some"] []
  m__law_pick : mg "_law_pick" = some (.ref a__law_pick)
  a__law_small : Addr
  fd__law_small : FuncData
  F__law_small : Fun K "_law_small" "_law_small" s__law_small a__law_small fd__law_small
  b__law_small : Binds K fd__law_small ["_law_pot_here", "_law_great_here"] []
  m__law_small : mg "_law_small" = some (.ref a__law_small)
  a__law_deeds : Addr
  fd__law_deeds : FuncData
  F__law_deeds : Fun K "_law_deeds" "_law_deeds" s__law_deeds a__law_deeds fd__law_deeds
  b__law_deeds : Binds K fd__law_deeds ["_law_stays", "_law_stay"] []
  m__law_deeds : mg "_law_deeds" = some (.ref a__law_deeds)
  a__law_done : Addr
  fd__law_done : FuncData
  F__law_done : Fun K "_law_done" "_law_done" s__law_done a__law_done fd__law_done
  b__law_done : Binds K fd__law_done ["_law_stays", "_law_rows", "_law_can_here", "_law_node", "_law_stay"] []
  m__law_done : mg "_law_done" = some (.ref a__law_done)
  a__law_can : Addr
  fd__law_can : FuncData
  F__law_can : Fun K "_law_can" "_law_can" s__law_can a__law_can fd__law_can
  b__law_can : Binds K fd__law_can ["_law_stays", "_law_rows"] []
  m__law_can : mg "_law_can" = some (.ref a__law_can)
  a__law_path : Addr
  fd__law_path : FuncData
  F__law_path : Fun K "_law_path" "_law_path" s__law_path a__law_path fd__law_path
  b__law_path : Binds K fd__law_path ["_law_pot_here", "_law_stays", "_law_rows", "_law_can_here", "_law_node", "_law_stay"] []
  m__law_path : mg "_law_path" = some (.ref a__law_path)
  a__law_way : Addr
  fd__law_way : FuncData
  F__law_way : Fun K "_law_way" "_law_way" s__law_way a__law_way fd__law_way
  b__law_way : Binds K fd__law_way ["_law_pot_here", "_law_stays", "_law_rows", "_law_can_here", "_law_node", "_law_path_here"] []
  m__law_way : mg "_law_way" = some (.ref a__law_way)
  a__law_whole_way : Addr
  fd__law_whole_way : FuncData
  F__law_whole_way : Fun K "_law_whole_way" "_law_whole_way" s__law_whole_way a__law_whole_way fd__law_whole_way
  b__law_whole_way : Binds K fd__law_whole_way ["_law_pot_here", "_law_stays", "_law_small_here"] []
  m__law_whole_way : mg "_law_whole_way" = some (.ref a__law_whole_way)
  a__law_moved : Addr
  fd__law_moved : FuncData
  F__law_moved : Fun K "_law_moved" "_law_moved" s__law_moved a__law_moved fd__law_moved
  b__law_moved : Binds K fd__law_moved ["_law_way_here", "_law_spots"] []
  m__law_moved : mg "_law_moved" = some (.ref a__law_moved)
  a__law_called : Addr
  fd__law_called : FuncData
  F__law_called : Fun K "_law_called" "_law_called" s__law_called a__law_called fd__law_called
  b__law_called : Binds K fd__law_called ["_law_tree_here", "_law_turn"] []
  m__law_called : mg "_law_called" = some (.ref a__law_called)
  a__law_numbers : Addr
  fd__law_numbers : FuncData
  F__law_numbers : Fun K "_law_numbers" "_law_numbers" s__law_numbers a__law_numbers fd__law_numbers
  b__law_numbers : Binds K fd__law_numbers ["_law_tree_here", "_law_first"] []
  m__law_numbers : mg "_law_numbers" = some (.ref a__law_numbers)
  a_put_nodes : Addr
  fd_put_nodes : FuncData
  F_put_nodes : Fun K "put_nodes" "put_nodes" s_put_nodes a_put_nodes fd_put_nodes
  b_put_nodes : Binds K fd_put_nodes ["tree", "found"] []
  m_put_nodes : mg "put_nodes" = some (.ref a_put_nodes)
  a_nodes : Addr
  fd_nodes : FuncData
  F_nodes : Fun K "nodes" "nodes" s_nodes a_nodes fd_nodes
  b_nodes : Binds K fd_nodes ["tree"] []
  m_nodes : mg "nodes" = some (.ref a_nodes)
  a_ahead_of : Addr
  fd_ahead_of : FuncData
  F_ahead_of : Fun K "ahead_of" "ahead_of" s_ahead_of a_ahead_of fd_ahead_of
  b_ahead_of : Binds K fd_ahead_of ["tree"] []
  m_ahead_of : mg "ahead_of" = some (.ref a_ahead_of)
  a_line_up : Addr
  fd_line_up : FuncData
  F_line_up : Fun K "line_up" "line_up" s_line_up a_line_up fd_line_up
  b_line_up : Binds K fd_line_up ["aheads", "house"] []
  m_line_up : mg "line_up" = some (.ref a_line_up)
  a_name_of : Addr
  fd_name_of : FuncData
  F_name_of : Fun K "name_of" "name_of" s_name_of a_name_of fd_name_of
  b_name_of : Binds K fd_name_of ["told", "house"] []
  m_name_of : mg "name_of" = some (.ref a_name_of)
  a_straight_under : Addr
  fd_straight_under : FuncData
  F_straight_under : Fun K "straight_under" "straight_under" s_straight_under a_straight_under fd_straight_under
  b_straight_under : Binds K fd_straight_under ["told"] []
  m_straight_under : mg "straight_under" = some (.ref a_straight_under)
  a_ground : Addr
  fd_ground : FuncData
  F_ground : Fun K "ground" "ground" s_ground a_ground fd_ground
  b_ground : Binds K fd_ground ["great"] []
  m_ground : mg "ground" = some (.ref a_ground)
  a__law_dates : Addr
  fd__law_dates : FuncData
  F__law_dates : Fun K "_law_dates" "_law_dates" s__law_dates a__law_dates fd__law_dates
  b__law_dates : Binds K fd__law_dates ["_law_pot_here", "_law_rows"] []
  m__law_dates : mg "_law_dates" = some (.ref a__law_dates)
  a__law_same : Addr
  fd__law_same : FuncData
  F__law_same : Fun K "_law_same" "_law_same" s__law_same a__law_same fd__law_same
  b__law_same : Binds K fd__law_same ["_law_found", "_law_due"] []
  m__law_same : mg "_law_same" = some (.ref a__law_same)
  a_inner_dates : Addr
  fd_inner_dates : FuncData
  F_inner_dates : Fun K "inner_dates" "inner_dates" s_inner_dates a_inner_dates fd_inner_dates
  b_inner_dates : Binds K fd_inner_dates ["great", "dates"] []
  m_inner_dates : mg "inner_dates" = some (.ref a_inner_dates)
  a_Slices_first_slice : Addr
  fd_Slices_first_slice : FuncData
  F_Slices_first_slice : Fun K "first_slice" "Slices.first_slice" s_Slices_first_slice a_Slices_first_slice fd_Slices_first_slice
  b_Slices_first_slice : Binds K fd_Slices_first_slice ["self", "house"] []
  a_Slices_last_slice : Addr
  fd_Slices_last_slice : FuncData
  F_Slices_last_slice : Fun K "last_slice" "Slices.last_slice" s_Slices_last_slice a_Slices_last_slice fd_Slices_last_slice
  b_Slices_last_slice : Binds K fd_Slices_last_slice ["self", "house"] []
  a_Slices___init__ : Addr
  fd_Slices___init__ : FuncData
  F_Slices___init__ : Fun K "__init__" "Slices.__init__" s_Slices___init__ a_Slices___init__ fd_Slices___init__
  b_Slices___init__ : Binds K fd_Slices___init__ ["self", "great", "dates"] []
  a_Slices_under_of : Addr
  fd_Slices_under_of : FuncData
  F_Slices_under_of : Fun K "under_of" "Slices.under_of" s_Slices_under_of a_Slices_under_of fd_Slices_under_of
  b_Slices_under_of : Binds K fd_Slices_under_of ["self", "house", "level"] []
  a_Slices_beside_of : Addr
  fd_Slices_beside_of : FuncData
  F_Slices_beside_of : Fun K "beside_of" "Slices.beside_of" s_Slices_beside_of a_Slices_beside_of fd_Slices_beside_of
  b_Slices_beside_of : Binds K fd_Slices_beside_of ["self", "house", "level"] []
  a_dated : Addr
  fd_dated : FuncData
  F_dated : Fun K "dated" "dated" s_dated a_dated fd_dated
  b_dated : Binds K fd_dated ["great", "dates"] []
  m_dated : mg "dated" = some (.ref a_dated)
  a_may_be_done : Addr
  fd_may_be_done : FuncData
  F_may_be_done : Fun K "may_be_done" "may_be_done" s_may_be_done a_may_be_done fd_may_be_done
  b_may_be_done : Binds K fd_may_be_done ["ground", "stay", "deed", "one", "other"] []
  m_may_be_done : mg "may_be_done" = some (.ref a_may_be_done)
  a_is_stay : Addr
  fd_is_stay : FuncData
  F_is_stay : Fun K "is_stay" "is_stay" s_is_stay a_is_stay fd_is_stay
  b_is_stay : Binds K fd_is_stay ["ground", "thing"] []
  m_is_stay : mg "is_stay" = some (.ref a_is_stay)
  a_is_path : Addr
  fd_is_path : FuncData
  F_is_path : Fun K "is_path" "is_path" s_is_path a_is_path fd_is_path
  b_is_path : Binds K fd_is_path ["ground", "thing"] []
  m_is_path : mg "is_path" = some (.ref a_is_path)
  a_may_be_found : Addr
  fd_may_be_found : FuncData
  F_may_be_found : Fun K "may_be_found" "may_be_found" s_may_be_found a_may_be_found fd_may_be_found
  b_may_be_found : Binds K fd_may_be_found ["ground", "stay", "word"] []
  m_may_be_found : mg "may_be_found" = some (.ref a_may_be_found)
  a_is_way_of : Addr
  fd_is_way_of : FuncData
  F_is_way_of : Fun K "is_way_of" "is_way_of" s_is_way_of a_is_way_of fd_is_way_of
  b_is_way_of : Binds K fd_is_way_of ["ground", "rows", "node", "thing"] []
  m_is_way_of : mg "is_way_of" = some (.ref a_is_way_of)
  a_is_way : Addr
  fd_is_way : FuncData
  F_is_way : Fun K "is_way" "is_way" s_is_way a_is_way fd_is_way
  b_is_way : Binds K fd_is_way ["ground", "small", "thing"] []
  m_is_way : mg "is_way" = some (.ref a_is_way)
  a_parts_of : Addr
  fd_parts_of : FuncData
  F_parts_of : Fun K "parts_of" "parts_of" s_parts_of a_parts_of fd_parts_of
  b_parts_of : Binds K fd_parts_of ["way"] []
  m_parts_of : mg "parts_of" = some (.ref a_parts_of)
  a_all_ways : Addr
  fd_all_ways : FuncData
  F_all_ways : Fun K "all_ways" "all_ways" s_all_ways a_all_ways fd_all_ways
  b_all_ways : Binds K fd_all_ways ["way"] []
  m_all_ways : mg "all_ways" = some (.ref a_all_ways)
  a_places : Addr
  fd_places : FuncData
  F_places : Fun K "places" "places" s_places a_places fd_places
  b_places : Binds K fd_places ["way"] []
  m_places : mg "places" = some (.ref a_places)
  a__law_house_of : Addr
  fd__law_house_of : FuncData
  F__law_house_of : Fun K "_law_house_of" "_law_house_of" s__law_house_of a__law_house_of fd__law_house_of
  b__law_house_of : Binds K fd__law_house_of ["_law_rows", "_law_stay"] []
  m__law_house_of : mg "_law_house_of" = some (.ref a__law_house_of)
  a_losses : Addr
  fd_losses : FuncData
  F_losses : Fun K "losses" "losses" s_losses a_losses fd_losses
  b_losses : Binds K fd_losses ["ground", "path"] []
  m_losses : mg "losses" = some (.ref a_losses)
  a_counted : Addr
  fd_counted : FuncData
  F_counted : Fun K "counted" "counted" s_counted a_counted fd_counted
  b_counted : Binds K fd_counted ["ground", "way"] []
  m_counted : mg "counted" = some (.ref a_counted)
  a_law : Addr
  fd_law : FuncData
  F_law : Fun K "law" "law" s_law a_law fd_law
  b_law : Binds K fd_law ["_law_script"] []
  m_law : mg "law" = some (.ref a_law)
  C_Slices : Addr
  k_Slices : ClsT K "Slices" C_Slices
  mg_Slices : mg "Slices" = some (.ref C_Slices)
  mk_Slices : Mk K C_Slices a_Slices___init__
  me_Slices_first_slice : Meth K C_Slices "first_slice" a_Slices_first_slice
  me_Slices_last_slice : Meth K C_Slices "last_slice" a_Slices_last_slice
  me_Slices_under_of : Meth K C_Slices "under_of" a_Slices_under_of
  me_Slices_beside_of : Meth K C_Slices "beside_of" a_Slices_beside_of
  na_Slices_aheads : NoAttr K C_Slices "aheads"
  na_Slices_dates : NoAttr K C_Slices "dates"
  na_Slices_floors : NoAttr K C_Slices "floors"
  na_Slices_places : NoAttr K C_Slices "places"
  na_Slices_rows : NoAttr K C_Slices "rows"
  A_COUNTED : Addr
  c_COUNTED : mg "COUNTED" = some (.ref A_COUNTED)
  r_COUNTED : KtR K A_COUNTED [.str "split", .str "doubled", .str "over"]
  z_abs : mg "abs" = none
  z_all : mg "all" = none
  z_any : mg "any" = none
  z_bool : mg "bool" = none
  z_enumerate : mg "enumerate" = none
  z_int : mg "int" = none
  z_isinstance : mg "isinstance" = none
  z_len : mg "len" = none
  z_list : mg "list" = none
  z_max : mg "max" = none
  z_min : mg "min" = none
  z_range : mg "range" = none
  z_sorted : mg "sorted" = none
  z_str : mg "str" = none
  z_sum : mg "sum" = none
  z_tuple : mg "tuple" = none
  z_zip : mg "zip" = none
section
variable {P : Program} {w : World} {K : PySem.W.Frag} {mg : Str → Option Value} {base : Heap}
theorem w__law_pot (T : Tp w K mg) : FnOk P w K mg base CX0 1 T.a__law_pot T.fd__law_pot ["_law_script", "_law_k"] (spM K 2 M_pot) :=
  okM (N := N__law_pot) T.F__law_pot sc__law_pot rfl fun cdv A outer s H E hr =>
  (psm_cons (psm_set 2 sc__law_pot.nd rfl (Or.inl rfl) pm_int)
  (psm_cons (psm_if (ptm_cmp opm_lt (pm_var 1) (pm_callB cam_len rfl T.z_len bb_len (pam_cons (pm_var 0) pam_nil))) (psm_one (psm_set 2 sc__law_pot.nd rfl (Or.inl rfl) (pm_callB cam_abs rfl T.z_abs bb_abs (pam_cons (pm_ix (pm_var 0) (pm_var 1)) pam_nil)))) psm_nil)
  (psm_cons (psm_set 3 sc__law_pot.nd rfl (Or.inl rfl) (pm_bin opm_mul (pm_bin opm_mod (pm_var 2) (pm_bin opm_mul (pm_bin opm_pow pm_int pm_int) (pm_bin opm_pow pm_int pm_int))) (pm_callTy cam_int rfl T.z_int bb_int (pam_cons (pm_cmp opm_ge (pm_var 2) (pm_bin opm_pow pm_int pm_int)) pam_nil))))
  (psm_one (psm_ret (pm_lst (pam_cons (pm_var 3) (pam_cons (pm_bin opm_mod (pm_bin opm_add (pm_bin opm_add (pm_var 2) (pm_bin opm_mul pm_int (pm_var 1))) pm_int) pm_int) (pam_cons pm_int pam_nil)))))))))
theorem w__law_take (T : Tp w K mg) : FnOk P w K mg base CX0 1 T.a__law_take T.fd__law_take ["_law_pot_here", "_law_many"] (spM K 2 M_take_2) :=
  okMV (N := N__law_take) T.F__law_take sc__law_take rfl fun cdv A outer s H E hr =>
  (psm_cons (psm_if (ptm_cmp opm_gt (pm_ix (pm_var 0) pm_int) pm_int) (psm_cons (psm_set 2 sc__law_take.nd rfl (Or.inl rfl) (pm_bin opm_mod (pm_ix (pm_var 0) pm_int) (pm_var 1)))
  (psm_cons (psm_setIx (pm_bin opm_fdiv (pm_ix (pm_var 0) pm_int) (pm_var 1)) (pm_var 0) pm_int)
  (psm_one (psm_ret (pm_var 2))))) psm_nil)
  (psm_cons (psm_augIx hr.units65 (pm_var 0) pm_int pm_int ipm_add)
  (psm_cons (psm_set 3 sc__law_take.nd rfl (Or.inl rfl) (pm_bin opm_mod (pm_bin opm_add (pm_bin opm_add (pm_bin opm_mul (pm_ix (pm_var 0) pm_int) pm_int) (pm_bin opm_mul pm_int (pm_ix (pm_var 0) pm_int))) pm_int) pm_int))
  (psm_cons (psm_setIx (pm_bin opm_mod (pm_bin opm_mul (pm_var 3) (pm_bin opm_add (pm_bin opm_add (pm_bin opm_mod (pm_var 3) pm_int) (pm_bin opm_mul pm_int (pm_ix (pm_var 0) pm_int))) pm_int)) pm_int) (pm_var 0) pm_int)
  (psm_one (psm_ret (pm_bin opm_mod (pm_bin opm_fdiv (pm_ix (pm_var 0) pm_int) pm_int) (pm_var 1))))))))
theorem w__law_tree (T : Tp w K mg) : FnOk P w K mg base CX0 2 T.a__law_tree T.fd__law_tree ["_law_pot_here", "_law_words_here"] (spM K 2 M_tree) :=
  okMV (N := N__law_tree) T.F__law_tree sc__law_tree rfl fun cdv A outer s H E hr =>
  (psm_cons (psm_set 2 sc__law_tree.nd rfl (Or.inl rfl) (pm_callTy cam_list rfl T.z_list bb_list (pam_cons (pm_var 1) pam_nil)))
  (psm_cons (psm_set 3 sc__law_tree.nd rfl (Or.inl rfl) (pm_call (w__law_take (base := base) T) (hr.mono (by omega)) rfl T.m__law_take T.F__law_take.kp T.b__law_take pass0 (fun _ => rfl) (pam_cons (pm_var 0) (pam_cons pm_int pam_nil)) (hA := (an_cons (an_cons an_nil)))))
  (psm_cons (psm_while PassesOwn.never (ptm_cmp opm_gt (pm_callB cam_len rfl T.z_len bb_len (pam_cons (pm_var 2) pam_nil)) pm_int) (psm_cons (psm_set 4 sc__law_tree.nd rfl (Or.inl rfl) (pm_ix (pm_lstV (pam_cons (pm_call (w__law_take (base := base) T) (hr.mono (by omega)) rfl T.m__law_take T.F__law_take.kp T.b__law_take pass0 (fun _ => rfl) (pam_cons (pm_var 0) (pam_cons (pm_bin opm_sub (pm_callB cam_len rfl T.z_len bb_len (pam_cons (pm_var 2) pam_nil)) pm_int) pam_nil)) (hA := (an_cons (an_cons an_nil)))) (pam_cons (pm_bin opm_sub (pm_callB cam_len rfl T.z_len bb_len (pam_cons (pm_var 2) pam_nil)) pm_int) (pam_cons pm_int (pam_cons pm_int pam_nil))))) (pm_var 3)))
  (psm_cons (psm_set 5 sc__law_tree.nd rfl (Or.inl rfl) (pm_tup (pam_cons (pm_ix (pm_var 2) (pm_var 4)) (pam_cons (pm_ix (pm_var 2) (pm_bin opm_add (pm_var 4) pm_int)) pam_nil))))
  (psm_cons (psm_if (PW.pt (pwm_and (ptm_cmp (opm_eq hr.units) (pm_var 3) pm_int) (pwm_and1 (ptm_cmp (opm_eq hr.units) (pm_call (w__law_take (base := base) T) (hr.mono (by omega)) rfl T.m__law_take T.F__law_take.kp T.b__law_take pass0 (fun _ => rfl) (pam_cons (pm_var 0) (pam_cons pm_int pam_nil)) (hA := (an_cons (an_cons an_nil)))) pm_int)))) (psm_one (psm_set 5 sc__law_tree.nd rfl (Or.inl rfl) (pm_tup (pam_cons (pm_ix (pm_var 2) (pm_bin opm_add (pm_var 4) pm_int)) (pam_cons (pm_ix (pm_var 2) (pm_var 4)) pam_nil))))) psm_nil)
  (psm_one (psm_setSl (pm_lstV (pam_cons (pm_var 5) pam_nil)) (pm_var 2) (pom_some (pm_var 4)) (pom_some (pm_bin opm_add (pm_var 4) pm_int))))))))
  (psm_one (psm_ret (pm_ix (pm_var 2) pm_int))))))
theorem w__law_words (T : Tp w K mg) : FnOk P w K mg base CX0 2 T.a__law_words T.fd__law_words ["_law_pot_here", "_law_many"] (spM K 2 M_words_2) :=
  okMV (N := N__law_words) T.F__law_words sc__law_words rfl fun cdv A outer s H E hr =>
  (psm_cons (psm_set 2 sc__law_words.nd rfl (Or.inl rfl) pm_str)
  (psm_cons (psm_set 3 sc__law_words.nd rfl (Or.inl rfl) (pm_call (w__law_take (base := base) T) (hr.mono (by omega)) rfl T.m__law_take T.F__law_take.kp T.b__law_take pass0 (fun _ => rfl) (pam_cons (pm_var 0) (pam_cons pm_int pam_nil)) (hA := (an_cons (an_cons an_nil)))))
  (psm_cons (psm_set 4 sc__law_words.nd rfl (Or.inl rfl) (pm_ix (pm_lstV (pam_cons pm_int (pam_cons pm_int (pam_cons pm_int (pam_cons pm_int (pam_cons pm_int (pam_cons pm_int pam_nil))))))) (pm_call (w__law_take (base := base) T) (hr.mono (by omega)) rfl T.m__law_take T.F__law_take.kp T.b__law_take pass0 (fun _ => rfl) (pam_cons (pm_var 0) (pam_cons pm_int pam_nil)) (hA := (an_cons (an_cons an_nil))))))
  (psm_cons (psm_set 5 sc__law_words.nd rfl (Or.inl rfl) (pm_ix (pm_lstV (pam_cons pm_str (pam_cons pm_str pam_nil))) (pm_call (w__law_take (base := base) T) (hr.mono (by omega)) rfl T.m__law_take T.F__law_take.kp T.b__law_take pass0 (fun _ => rfl) (pam_cons (pm_var 0) (pam_cons pm_int pam_nil)) (hA := (an_cons (an_cons an_nil))))))
  (psm_cons (psm_set 6 sc__law_words.nd rfl (Or.inl rfl) (pm_lstV (pam_cons pm_str (pam_cons pm_str (pam_cons pm_str (pam_cons pm_str pam_nil))))))
  (psm_cons (psm_set 7 sc__law_words.nd rfl (Or.inl rfl) (pm_lst pam_nil))
  (psm_cons (psm_for PassesOwn.never rfl (pim_range1 rfl T.z_range (pam_cons (pm_var 1) pam_nil)) (pgm_name 8 sc__law_words.nd rfl (Or.inl rfl)) (psm_cons (psm_set 9 sc__law_words.nd rfl (Or.inl rfl) (pm_ix (pm_var 2) (pm_bin opm_mod (pm_bin opm_add (pm_var 3) (pm_bin opm_mul (pm_var 4) (pm_var 8))) pm_int)))
  (psm_one (psm_expr (pm_bm PySem.F.plainAttrs_list PySem.F.slot_list_append PySem.F.type_list_append mtm_append (pm_var 7) (pam_cons (pm_bin opm_add (pm_bin opm_add (pm_var 5) (pm_var 9)) (pm_ix (pm_var 6) (pm_bin opm_mod (pm_bin opm_add (pm_var 3) (pm_var 8)) pm_int))) pam_nil))))))
  (psm_one (psm_ret (pm_var 7))))))))))
theorem w__law_great (T : Tp w K mg) : FnOk P w K mg base CX0 3 T.a__law_great T.fd__law_great ["_law_pot_here"] (spM K 1 M_great_2) :=
  okMV (N := N__law_great) T.F__law_great sc__law_great rfl fun cdv A outer s H E hr =>
  (psm_one (psm_ret (pm_call (w__law_tree (base := base) T) (hr.mono (by omega)) rfl T.m__law_tree T.F__law_tree.kp T.b__law_tree pass0 (fun _ => rfl) (pam_cons (pm_var 0) (pam_cons (pm_call (w__law_words (base := base) T) (hr.mono (by omega)) rfl T.m__law_words T.F__law_words.kp T.b__law_words pass0 (fun _ => rfl) (pam_cons (pm_var 0) (pam_cons (pm_bin opm_add pm_int (pm_call (w__law_take (base := base) T) (hr.mono (by omega)) rfl T.m__law_take T.F__law_take.kp T.b__law_take pass0 (fun _ => rfl) (pam_cons (pm_var 0) (pam_cons (pm_ix (pm_lstV (pam_cons pm_int (pam_cons pm_int pam_nil))) (pm_callTy cam_int rfl T.z_int bb_int (pam_cons (pm_cmp (opm_eq hr.units) (pm_call (w__law_take (base := base) T) (hr.mono (by omega)) rfl T.m__law_take T.F__law_take.kp T.b__law_take pass0 (fun _ => rfl) (pam_cons (pm_var 0) (pam_cons pm_int pam_nil)) (hA := (an_cons (an_cons an_nil)))) pm_int) pam_nil))) pam_nil)) (hA := (an_cons (an_cons an_nil))))) pam_nil)) (hA := (an_cons (an_cons an_nil)))) pam_nil)) (hA := (an_cons (an_cons an_nil))))))
theorem w__law_nodes (T : Tp w K mg) : ∀ k : Nat, FnOk P w K mg base CX0 (k + 0) T.a__law_nodes T.fd__law_nodes ["_law_tree_here"] (spM K 1 (R_nodes_3 k))
  | 0 => FnOk.none rfl
  | k + 1 => by
    have ih := w__law_nodes T k
    rw [show k + 1 + 0 = (k + 0) + 1 by omega]
    exact okM (N := N__law_nodes) T.F__law_nodes sc__law_nodes rfl fun cdv A outer s H E hr =>
  (psm_cons (psm_if (ptm_val (pm_callB cam_isi rfl T.z_isinstance bb_isinstance (pam_cons (pm_var 0) (pam_cons (pm_ty rfl T.z_str bb_str) pam_nil)))) (psm_one (psm_ret (pm_lst (pam_cons (pm_var 0) pam_nil)))) psm_nil)
  (psm_cons (psm_set 1 sc__law_nodes.nd rfl (Or.inl rfl) (pm_call ih hr rfl T.m__law_nodes T.F__law_nodes.kp T.b__law_nodes pass0 (fun _ => rfl) (pam_cons (pm_ix (pm_var 0) pm_int) pam_nil) (hA := (an_cons an_nil))))
  (psm_cons (psm_set 2 sc__law_nodes.nd rfl (Or.inl rfl) (pm_callB cam_len rfl T.z_len bb_len (pam_cons (pm_var 1) pam_nil)))
  (psm_cons (psm_for PassesOwn.never rfl (pim_any (pm_call ih hr rfl T.m__law_nodes T.F__law_nodes.kp T.b__law_nodes pass0 (fun _ => rfl) (pam_cons (pm_ix (pm_var 0) pm_int) pam_nil) (hA := (an_cons an_nil)))) (pgm_name 3 sc__law_nodes.nd rfl (Or.inl rfl)) (psm_one (psm_expr (pm_bm PySem.F.plainAttrs_list PySem.F.slot_list_append PySem.F.type_list_append mtm_append (pm_var 1) (pam_cons (pm_ifExp (ptm_val (pm_callB cam_isi rfl T.z_isinstance bb_isinstance (pam_cons (pm_var 3) (pam_cons (pm_ty rfl T.z_str bb_str) pam_nil)))) (pm_var 3) (pm_tup (pam_cons (pm_bin opm_add (pm_ix (pm_var 3) pm_int) (pm_var 2)) (pam_cons (pm_bin opm_add (pm_ix (pm_var 3) pm_int) (pm_var 2)) pam_nil)))) pam_nil)))))
  (psm_one (psm_ret (pm_bin opm_add (pm_var 1) (pm_lstV (pam_cons (pm_tup (pam_cons (pm_bin opm_sub (pm_var 2) pm_int) (pam_cons (pm_bin opm_sub (pm_callB cam_len rfl T.z_len bb_len (pam_cons (pm_var 1) pam_nil)) pm_int) pam_nil))) pam_nil)))))))))
theorem w__law_pick (T : Tp w K mg) : FnOk P w K mg base CX0 2 T.a__law_pick T.fd__law_pick ["_law_pot_here", "_law_some"] (spM K 2 M_pick) :=
  okMV (N := N__law_pick) T.F__law_pick sc__law_pick rfl fun cdv A outer s H E hr =>
  (psm_one (psm_ret (pm_ix (pm_var 1) (pm_call (w__law_take (base := base) T) (hr.mono (by omega)) rfl T.m__law_take T.F__law_take.kp T.b__law_take pass0 (fun _ => rfl) (pam_cons (pm_var 0) (pam_cons (pm_callB cam_len rfl T.z_len bb_len (pam_cons (pm_var 1) pam_nil)) pam_nil)) (hA := (an_cons (an_cons an_nil)))))))
theorem w__law_small (T : Tp w K mg) : FnOk P w K mg base CX0 71 T.a__law_small T.fd__law_small ["_law_pot_here", "_law_great_here"] (spM K 2 M_small_6) :=
  okMV (N := N__law_small) T.F__law_small sc__law_small rfl fun cdv A outer s H E hr =>
  (psm_cons (psm_set 2 sc__law_small.nd rfl (Or.inr rfl) (pm_pop (pm_lc (own := [("_law_row", 4)]) rfl sc__law_small.nd (pim_any (pm_call (w__law_nodes (base := base) T 70) (hr.mono (by omega)) rfl T.m__law_nodes T.F__law_nodes.kp T.b__law_nodes pass0 (fun _ => rfl) (pam_cons (pm_var 1) pam_nil) (hA := (an_cons an_nil)))) (blkOk_by (N := N__law_small) (sc := (defScope s__law_small)) (by decide +kernel)) (fun _ _ _ _ _ => (pgm_name 4 sc__law_small.nd rfl (Or.inl rfl))) (fun _ _ _ _ _ => (ptsm_one (ptm_val (pm_callB cam_isi rfl T.z_isinstance bb_isinstance (pam_cons (pm_var 4) (pam_cons (pm_ty rfl T.z_str bb_str) pam_nil)))))) (fun _ _ _ _ _ => (pm_var 4)))))
  (psm_cons (psm_set 3 sc__law_small.nd rfl (Or.inl rfl) (pm_bin opm_add pm_int (pm_call (w__law_take (base := base) T) (hr.mono (by omega)) rfl T.m__law_take T.F__law_take.kp T.b__law_take pass0 (fun _ => rfl) (pam_cons (pm_var 0) (pam_cons (pm_ix (pm_lstV (pam_cons pm_int (pam_cons pm_int pam_nil))) (pm_callTy cam_int rfl T.z_int bb_int (pam_cons (pm_cmp (opm_eq hr.units) (pm_call (w__law_take (base := base) T) (hr.mono (by omega)) rfl T.m__law_take T.F__law_take.kp T.b__law_take pass0 (fun _ => rfl) (pam_cons (pm_var 0) (pam_cons pm_int pam_nil)) (hA := (an_cons (an_cons an_nil)))) pm_int) pam_nil))) pam_nil)) (hA := (an_cons (an_cons an_nil))))))
  (psm_one (psm_ret (pm_call (w__law_tree (base := base) T) (hr.mono (by omega)) rfl T.m__law_tree T.F__law_tree.kp T.b__law_tree pass0 (fun _ => rfl) (pam_cons (pm_var 0) (pam_cons (pm_pop (pm_lc (own := [("_law_k", 5)]) rfl sc__law_small.nd (pim_range1 rfl T.z_range (pam_cons (pm_var 3) pam_nil)) (blkOk_by (N := N__law_small) (sc := (defScope s__law_small)) (by decide +kernel)) (fun _ _ _ _ _ => (pgm_name 5 sc__law_small.nd rfl (Or.inl rfl))) (fun _ _ _ _ _ => ptsm_nil) (fun _ _ _ _ _ => (pm_call (w__law_pick (base := base) T) (hr.mono (by omega)) rfl T.m__law_pick T.F__law_pick.kp T.b__law_pick pass0 (fun _ => rfl) (pam_cons (pm_var 0) (pam_cons (pm_var 2) pam_nil)) (hA := (an_cons (an_cons an_nil))))))) pam_nil)) (hA := (an_cons (an_cons an_nil))))))))
theorem w__law_deeds (T : Tp w K mg) : FnOk P w K mg base CX0 1 T.a__law_deeds T.fd__law_deeds ["_law_stays", "_law_stay"] (spM K 2 M_deeds) :=
  okMV (N := N__law_deeds) T.F__law_deeds sc__law_deeds rfl fun cdv A outer s H E hr =>
  (psm_cons (psm_asg (pm_ix (pm_var 0) (pm_var 1)) (pgm_tup rfl (pgms_cons (pgm_name 2 sc__law_deeds.nd rfl (Or.inl rfl)) (pgms_cons (pgm_name 3 sc__law_deeds.nd rfl (Or.inl rfl)) (pgms_cons (pgm_name 4 sc__law_deeds.nd rfl (Or.inl rfl)) (pgms_cons (pgm_name 5 sc__law_deeds.nd rfl (Or.inl rfl)) pgms_nil))))))
  (psm_cons (psm_set 6 sc__law_deeds.nd rfl (Or.inl rfl) (pm_lst (pam_cons (pm_tup (pam_cons pm_str (pam_cons (pm_var 1) (pam_cons (pm_var 1) pam_nil)))) pam_nil)))
  (psm_cons (psm_if (ptm_cmp (opm_eq hr.units) (pm_callB cam_len rfl T.z_len bb_len (pam_cons (pm_var 4) pam_nil)) pm_int) (psm_one (psm_expr (pm_bm PySem.F.plainAttrs_list PySem.F.slot_list_extend PySem.F.type_list_extend mtm_ext (pm_var 6) (pam_cons (pm_lstV (pam_cons (pm_tup (pam_cons pm_str (pam_cons (pm_ix (pm_var 4) pm_int) (pam_cons (pm_ix (pm_var 4) pm_int) pam_nil)))) (pam_cons (pm_tup (pam_cons pm_str (pam_cons (pm_ix (pm_var 4) pm_int) (pam_cons (pm_ix (pm_var 4) pm_int) pam_nil)))) pam_nil))) pam_nil)))) psm_nil)
  (psm_cons (psm_for PassesOwn.never rfl (pim_any (pm_var 5)) (pgm_name 7 sc__law_deeds.nd rfl (Or.inl rfl)) (psm_one (psm_expr (pm_bm PySem.F.plainAttrs_list PySem.F.slot_list_extend PySem.F.type_list_extend mtm_ext (pm_var 6) (pam_cons (pm_lstV (pam_cons (pm_tup (pam_cons pm_str (pam_cons (pm_var 1) (pam_cons (pm_var 7) pam_nil)))) (pam_cons (pm_tup (pam_cons pm_str (pam_cons (pm_var 7) (pam_cons (pm_var 1) pam_nil)))) pam_nil))) pam_nil)))))
  (psm_one (psm_ret (pm_var 6)))))))
theorem w__law_done (T : Tp w K mg) : FnOk P w K mg base CX0 2 T.a__law_done T.fd__law_done ["_law_stays", "_law_rows", "_law_can_here", "_law_node", "_law_stay"] (spM K 5 M_done) :=
  okMV (N := N__law_done) T.F__law_done sc__law_done rfl fun cdv A outer s H E hr =>
  (psm_cons (psm_set 5 sc__law_done.nd rfl (Or.inr rfl) (pm_ix (pm_var 1) (pm_var 3)))
  (psm_cons (psm_if (ptm_val (pm_callB cam_isi rfl T.z_isinstance bb_isinstance (pam_cons (pm_var 5) (pam_cons (pm_ty rfl T.z_str bb_str) pam_nil)))) (psm_one (psm_ret (pm_pop (pm_bin opm_mul (pm_lstV (pam_cons (pm_tup (pam_cons pm_str (pam_cons (pm_var 4) (pam_cons (pm_var 4) pam_nil)))) pam_nil)) (pm_callTy cam_int rfl T.z_int bb_int (pam_cons (pm_and (pm_cmp (opm_eq hr.units) (pm_ix (pm_ix (pm_var 0) (pm_var 4)) pm_int) (pm_tup pam_nil)) (pm_one (pm_cmp (opm_eq hr.units) (pm_ix (pm_ix (pm_var 0) (pm_var 4)) pm_int) (pm_var 5)))) pam_nil)))))) psm_nil)
  (psm_one (psm_ret (pm_pop (pm_lc (own := [("_law_one", 6)]) rfl sc__law_done.nd (pim_any (pm_call (w__law_deeds (base := base) T) (hr.mono (by omega)) rfl T.m__law_deeds T.F__law_deeds.kp T.b__law_deeds pass0 (fun _ => rfl) (pam_cons (pm_var 0) (pam_cons (pm_var 4) pam_nil)) (hA := (an_cons (an_cons an_nil))))) (blkOk_by (N := N__law_done) (sc := (defScope s__law_done)) (by decide +kernel)) (fun _ _ _ _ _ => (pgm_name 6 sc__law_done.nd rfl (Or.inl rfl))) (fun _ _ _ _ _ => (ptsm_one (PW.pt (pwm_and (ptm_val (pm_ix (pm_ix (pm_var 2) (pm_ix (pm_var 5) pm_int)) (pm_ix (pm_var 6) pm_int))) (pwm_and1 (ptm_val (pm_ix (pm_ix (pm_var 2) (pm_ix (pm_var 5) pm_int)) (pm_ix (pm_var 6) pm_int)))))))) (fun _ _ _ _ _ => (pm_var 6))))))))
theorem w__law_can (T : Tp w K mg) : FnOk P w K mg base CX0 3 T.a__law_can T.fd__law_can ["_law_stays", "_law_rows"] (spM K 2 M_can) :=
  okMV (N := N__law_can) T.F__law_can sc__law_can rfl fun cdv A outer s H E hr =>
  (psm_cons (psm_set 2 sc__law_can.nd rfl (Or.inr rfl) (pm_lst pam_nil))
  (psm_cons (psm_for PassesOwn.never rfl (pim_range1 rfl T.z_range (pam_cons (pm_callB cam_len rfl T.z_len bb_len (pam_cons (pm_var 1) pam_nil)) pam_nil)) (pgm_name 3 sc__law_can.nd rfl (Or.inr rfl)) (psm_cons (psm_expr (pm_bm PySem.F.plainAttrs_list PySem.F.slot_list_append PySem.F.type_list_append mtm_append (pm_var 2) (pam_cons (pm_bin opm_mul (pm_lstV (pam_cons pm_bl pam_nil)) (pm_callB cam_len rfl T.z_len bb_len (pam_cons (pm_var 0) pam_nil))) pam_nil)))
  (psm_one (psm_for PassesOwn.never rfl (pim_range1 rfl T.z_range (pam_cons (pm_callB cam_len rfl T.z_len bb_len (pam_cons (pm_var 0) pam_nil)) pam_nil)) (pgm_name 4 sc__law_can.nd rfl (Or.inl rfl)) (psm_cons (psm_set 5 sc__law_can.nd rfl (Or.inl rfl) (pm_callB (cam_any rfl) rfl T.z_any bb_any (pam_cons (pm_pop (pm_lc (own := [("_law_low", 6)]) rfl sc__law_can.nd (pim_any (pm_ix (pm_ix (pm_var 0) (pm_var 4)) pm_int)) (blkOk_by (N := N__law_can) (sc := (defScope s__law_can)) (by decide +kernel)) (fun _ _ _ _ _ => (pgm_name 6 sc__law_can.nd rfl (Or.inl rfl))) (fun _ _ _ _ _ => ptsm_nil) (fun _ _ _ _ _ => (pm_ix (pm_ix (pm_var 2) (pm_var 3)) (pm_var 6))))) pam_nil)))
  (psm_one (psm_setIx (pm_or (pm_var 5) (pm_one (pm_cmp (opm_ne hr.units) (pm_call (w__law_done (base := base) T) (hr.mono (by omega)) rfl T.m__law_done T.F__law_done.kp T.b__law_done pass0 (fun _ => rfl) (pam_cons (pm_var 0) (pam_cons (pm_var 1) (pam_cons (pm_var 2) (pam_cons (pm_var 3) (pam_cons (pm_var 4) pam_nil))))) (hA := (an_cons (an_cons (an_cons (an_cons (an_cons an_nil))))))) (pm_lstV pam_nil)))) (pm_ix (pm_var 2) (pm_var 3)) (pm_var 4))))))))
  (psm_one (psm_ret (pm_var 2)))))
theorem w__law_path (T : Tp w K mg) : FnOk P w K mg base CX0 3 T.a__law_path T.fd__law_path ["_law_pot_here", "_law_stays", "_law_rows", "_law_can_here", "_law_node", "_law_stay"] (spM K 6 M_path) :=
  okMV (N := N__law_path) T.F__law_path sc__law_path rfl fun cdv A outer s H E hr =>
  (psm_cons (psm_set 6 sc__law_path.nd rfl (Or.inl rfl) (pm_lst (pam_cons (pm_var 5) pam_nil)))
  (psm_cons (psm_for PassesOwn.never rfl (pim_range1 rfl T.z_range (pam_cons (pm_callB cam_len rfl T.z_len bb_len (pam_cons (pm_var 1) pam_nil)) pam_nil)) (pgm_name 7 sc__law_path.nd rfl (Or.inl rfl)) (psm_cons (psm_pop (psm_setLc 8 (own := [("_law_low", 10)]) rfl sc__law_path.nd rfl rfl (sw_true rfl rfl rfl (by decide +kernel)) (pim_any (pm_ix (pm_ix (pm_var 1) (pm_ix (pm_var 6) (pm_un unm_neg pm_int))) pm_int)) (blkOk_by (N := N__law_path) (sc := (defScope s__law_path)) (by decide +kernel)) (fun _ _ _ _ _ => (pgm_name 10 sc__law_path.nd rfl (Or.inl rfl))) (fun _ _ _ _ _ => (ptsm_one (ptm_val (pm_ix (pm_ix (pm_var 3) (pm_var 4)) (pm_var 10))))) (fun _ _ _ _ _ => (pm_var 10))))
  (psm_cons (psm_set 9 sc__law_path.nd rfl (Or.inl rfl) (pm_or (pm_cmp (opm_eq hr.units) (pm_call (w__law_done (base := base) T) (hr.mono (by omega)) rfl T.m__law_done T.F__law_done.kp T.b__law_done pass0 (fun _ => rfl) (pam_cons (pm_var 1) (pam_cons (pm_var 2) (pam_cons (pm_var 3) (pam_cons (pm_var 4) (pam_cons (pm_ix (pm_var 6) (pm_un unm_neg pm_int)) pam_nil))))) (hA := (an_cons (an_cons (an_cons (an_cons (an_cons an_nil))))))) (pm_lstV pam_nil)) (pm_one (pm_cmp (opm_eq hr.units) (pm_call (w__law_take (base := base) T) (hr.mono (by omega)) rfl T.m__law_take T.F__law_take.kp T.b__law_take pass0 (fun _ => rfl) (pam_cons (pm_var 0) (pam_cons pm_int pam_nil)) (hA := (an_cons (an_cons an_nil)))) pm_int))))
  (psm_one (psm_if (PW.pt (pwm_and (ptm_cmp (opm_ne hr.units) (pm_var 8) (pm_lstV pam_nil)) (pwm_and1 (ptm_val (pm_var 9))))) (psm_one (psm_expr (pm_bm PySem.F.plainAttrs_list PySem.F.slot_list_append PySem.F.type_list_append mtm_append (pm_var 6) (pam_cons (pm_call (w__law_pick (base := base) T) (hr.mono (by omega)) rfl T.m__law_pick T.F__law_pick.kp T.b__law_pick pass0 (fun _ => rfl) (pam_cons (pm_var 0) (pam_cons (pm_var 8) pam_nil)) (hA := (an_cons (an_cons an_nil)))) pam_nil)))) psm_nil)))))
  (psm_cons (psm_while PassesOwn.never (ptm_cmp (opm_eq hr.units) (pm_call (w__law_done (base := base) T) (hr.mono (by omega)) rfl T.m__law_done T.F__law_done.kp T.b__law_done pass0 (fun _ => rfl) (pam_cons (pm_var 1) (pam_cons (pm_var 2) (pam_cons (pm_var 3) (pam_cons (pm_var 4) (pam_cons (pm_ix (pm_var 6) (pm_un unm_neg pm_int)) pam_nil))))) (hA := (an_cons (an_cons (an_cons (an_cons (an_cons an_nil))))))) (pm_lstV pam_nil)) (psm_one (psm_expr (pm_bm PySem.F.plainAttrs_list PySem.F.slot_list_append PySem.F.type_list_append mtm_append (pm_var 6) (pam_cons (pm_call (w__law_pick (base := base) T) (hr.mono (by omega)) rfl T.m__law_pick T.F__law_pick.kp T.b__law_pick pass0 (fun _ => rfl) (pam_cons (pm_var 0) (pam_cons (pm_pop (pm_lc (own := [("_law_low", 10)]) rfl sc__law_path.nd (pim_any (pm_ix (pm_ix (pm_var 1) (pm_ix (pm_var 6) (pm_un unm_neg pm_int))) pm_int)) (blkOk_by (N := N__law_path) (sc := (defScope s__law_path)) (by decide +kernel)) (fun _ _ _ _ _ => (pgm_name 10 sc__law_path.nd rfl (Or.inl rfl))) (fun _ _ _ _ _ => (ptsm_one (ptm_val (pm_ix (pm_ix (pm_var 3) (pm_var 4)) (pm_var 10))))) (fun _ _ _ _ _ => (pm_var 10)))) pam_nil)) (hA := (an_cons (an_cons an_nil)))) pam_nil)))))
  (psm_one (psm_ret (pm_callTy cam_tuple rfl T.z_tuple bb_tuple (pam_cons (pm_var 6) pam_nil)))))))
theorem w__law_way (T : Tp w K mg) : ∀ k : Nat, FnOk P w K mg base CX0 (k + 3) T.a__law_way T.fd__law_way ["_law_pot_here", "_law_stays", "_law_rows", "_law_can_here", "_law_node", "_law_path_here"] (spM K 6 (R_way k))
  | 0 => FnOk.none rfl
  | k + 1 => by
    have ih := w__law_way T k
    rw [show k + 1 + 3 = (k + 3) + 1 by omega]
    exact okMV (N := N__law_way) T.F__law_way sc__law_way rfl fun cdv A outer s H E hr =>
  (psm_cons (psm_asg (pm_call (w__law_pick (base := base) T) (hr.mono (by omega)) rfl T.m__law_pick T.F__law_pick.kp T.b__law_pick pass0 (fun _ => rfl) (pam_cons (pm_var 0) (pam_cons (pm_call (w__law_done (base := base) T) (hr.mono (by omega)) rfl T.m__law_done T.F__law_done.kp T.b__law_done pass0 (fun _ => rfl) (pam_cons (pm_var 1) (pam_cons (pm_var 2) (pam_cons (pm_var 3) (pam_cons (pm_var 4) (pam_cons (pm_ix (pm_var 5) (pm_un unm_neg pm_int)) pam_nil))))) (hA := (an_cons (an_cons (an_cons (an_cons (an_cons an_nil))))))) pam_nil)) (hA := (an_cons (an_cons an_nil)))) (pgm_tup rfl (pgms_cons (pgm_name 6 sc__law_way.nd rfl (Or.inl rfl)) (pgms_cons (pgm_name 7 sc__law_way.nd rfl (Or.inl rfl)) (pgms_cons (pgm_name 8 sc__law_way.nd rfl (Or.inl rfl)) pgms_nil)))))
  (psm_cons (psm_if (ptm_cmp (opm_eq hr.units) (pm_var 6) pm_str) (psm_one (psm_ret (pm_tup (pam_cons (pm_var 5) (pam_cons (pm_var 6) pam_nil))))) psm_nil)
  (psm_cons (psm_set 9 sc__law_way.nd rfl (Or.inl rfl) (pm_ix (pm_var 2) (pm_var 4)))
  (psm_cons (psm_set 10 sc__law_way.nd rfl (Or.inl rfl) (pm_call ih hr rfl T.m__law_way T.F__law_way.kp T.b__law_way pass0 (fun _ => rfl) (pam_cons (pm_var 0) (pam_cons (pm_var 1) (pam_cons (pm_var 2) (pam_cons (pm_var 3) (pam_cons (pm_ix (pm_var 9) pm_int) (pam_cons (pm_call (w__law_path (base := base) T) (hr.mono (by omega)) rfl T.m__law_path T.F__law_path.kp T.b__law_path pass0 (fun _ => rfl) (pam_cons (pm_var 0) (pam_cons (pm_var 1) (pam_cons (pm_var 2) (pam_cons (pm_var 3) (pam_cons (pm_ix (pm_var 9) pm_int) (pam_cons (pm_var 7) pam_nil)))))) (hA := (an_cons (an_cons (an_cons (an_cons (an_cons (an_cons an_nil)))))))) pam_nil)))))) (hA := (an_cons (an_cons (an_cons (an_cons (an_cons (an_cons an_nil)))))))))
  (psm_one (psm_ret (pm_tup (pam_cons (pm_var 5) (pam_cons (pm_var 6) (pam_cons (pm_var 10) (pam_cons (pm_call ih hr rfl T.m__law_way T.F__law_way.kp T.b__law_way pass0 (fun _ => rfl) (pam_cons (pm_var 0) (pam_cons (pm_var 1) (pam_cons (pm_var 2) (pam_cons (pm_var 3) (pam_cons (pm_ix (pm_var 9) pm_int) (pam_cons (pm_call (w__law_path (base := base) T) (hr.mono (by omega)) rfl T.m__law_path T.F__law_path.kp T.b__law_path pass0 (fun _ => rfl) (pam_cons (pm_var 0) (pam_cons (pm_var 1) (pam_cons (pm_var 2) (pam_cons (pm_var 3) (pam_cons (pm_ix (pm_var 9) pm_int) (pam_cons (pm_var 8) pam_nil)))))) (hA := (an_cons (an_cons (an_cons (an_cons (an_cons (an_cons an_nil)))))))) pam_nil)))))) (hA := (an_cons (an_cons (an_cons (an_cons (an_cons (an_cons an_nil)))))))) pam_nil)))))))))))
theorem w__law_whole_way (T : Tp w K mg) : FnOk P w K mg base CX0 74 T.a__law_whole_way T.fd__law_whole_way ["_law_pot_here", "_law_stays", "_law_small_here"] (spM K 3 M_whole_way) :=
  okMV (N := N__law_whole_way) T.F__law_whole_way sc__law_whole_way rfl fun cdv A outer s H E hr =>
  (psm_cons (psm_set 3 sc__law_whole_way.nd rfl (Or.inr rfl) (pm_call (w__law_nodes (base := base) T 70) (hr.mono (by omega)) rfl T.m__law_nodes T.F__law_nodes.kp T.b__law_nodes pass0 (fun _ => rfl) (pam_cons (pm_var 2) pam_nil) (hA := (an_cons an_nil))))
  (psm_cons (psm_set 4 sc__law_whole_way.nd rfl (Or.inr rfl) (pm_call (w__law_can (base := base) T) (hr.mono (by omega)) rfl T.m__law_can T.F__law_can.kp T.b__law_can pass0 (fun _ => rfl) (pam_cons (pm_var 1) (pam_cons (pm_var 3) pam_nil)) (hA := (an_cons (an_cons an_nil)))))
  (psm_cons (psm_set 5 sc__law_whole_way.nd rfl (Or.inr rfl) (pm_bin opm_sub (pm_callB cam_len rfl T.z_len bb_len (pam_cons (pm_var 3) pam_nil)) pm_int))
  (psm_cons (psm_pop (psm_setLc 6 (own := [("_law_stay", 7)]) rfl sc__law_whole_way.nd rfl rfl (sw_true rfl rfl rfl (by decide +kernel)) (pim_range1 rfl T.z_range (pam_cons (pm_callB cam_len rfl T.z_len bb_len (pam_cons (pm_var 1) pam_nil)) pam_nil)) (blkOk_by (N := N__law_whole_way) (sc := (defScope s__law_whole_way)) (by decide +kernel)) (fun _ _ _ _ _ => (pgm_name 7 sc__law_whole_way.nd rfl (Or.inl rfl))) (fun _ _ _ _ _ => (ptsm_one (ptm_cmp (opm_ne hr.units) (pm_call (w__law_done (base := base) T) (hr.mono (by omega)) rfl T.m__law_done T.F__law_done.kp T.b__law_done pass0 (fun _ => rfl) (pam_cons (pm_var 1) (pam_cons (pm_var 3) (pam_cons (pm_var 4) (pam_cons (pm_var 5) (pam_cons (pm_var 7) pam_nil))))) (hA := (an_cons (an_cons (an_cons (an_cons (an_cons an_nil))))))) (pm_lstV pam_nil)))) (fun _ _ _ _ _ => (pm_var 7))))
  (psm_one (psm_ret (pm_call (w__law_way (base := base) T 70) (hr.mono (by omega)) rfl T.m__law_way T.F__law_way.kp T.b__law_way pass0 (fun _ => rfl) (pam_cons (pm_var 0) (pam_cons (pm_var 1) (pam_cons (pm_var 3) (pam_cons (pm_var 4) (pam_cons (pm_var 5) (pam_cons (pm_tup (pam_cons (pm_call (w__law_pick (base := base) T) (hr.mono (by omega)) rfl T.m__law_pick T.F__law_pick.kp T.b__law_pick pass0 (fun _ => rfl) (pam_cons (pm_var 0) (pam_cons (pm_var 6) pam_nil)) (hA := (an_cons (an_cons an_nil)))) pam_nil)) pam_nil)))))) (hA := (an_cons (an_cons (an_cons (an_cons (an_cons (an_cons an_nil))))))))))))))
theorem w__law_moved (T : Tp w K mg) : ∀ k : Nat, FnOk P w K mg base CX0 (k + 0) T.a__law_moved T.fd__law_moved ["_law_way_here", "_law_spots"] (spM K 2 (R_moved k))
  | 0 => FnOk.none rfl
  | k + 1 => by
    have ih := w__law_moved T k
    rw [show k + 1 + 0 = (k + 0) + 1 by omega]
    exact okMV (N := N__law_moved) T.F__law_moved sc__law_moved rfl fun cdv A outer s H E hr =>
  (psm_cons (psm_set 2 sc__law_moved.nd rfl (Or.inl rfl) (pm_callTy cam_tuple rfl T.z_tuple bb_tuple (pam_cons (pm_pop (pm_lc (own := [("_law_stay", 3)]) rfl sc__law_moved.nd (pim_any (pm_ix (pm_var 0) pm_int)) (blkOk_by (N := N__law_moved) (sc := (defScope s__law_moved)) (by decide +kernel)) (fun _ _ _ _ _ => (pgm_name 3 sc__law_moved.nd rfl (Or.inl rfl))) (fun _ _ _ _ _ => ptsm_nil) (fun _ _ _ _ _ => (pm_ix (pm_var 1) (pm_var 3))))) pam_nil)))
  (psm_one (psm_ret (pm_bin opm_add (pm_tup (pam_cons (pm_var 2) (pam_cons (pm_ix (pm_var 0) pm_int) pam_nil))) (pm_callTy cam_tuple rfl T.z_tuple bb_tuple (pam_cons (pm_pop (pm_lc (own := [("_law_part", 4)]) rfl sc__law_moved.nd (pim_any (pm_pop (pm_slice (pm_var 0) (pom_some pm_int) pom_none))) (blkOk_by (N := N__law_moved) (sc := (defScope s__law_moved)) (by decide +kernel)) (fun _ _ _ _ _ => (pgm_name 4 sc__law_moved.nd rfl (Or.inl rfl))) (fun _ _ _ _ _ => ptsm_nil) (fun _ _ _ _ _ => (pm_call ih hr rfl T.m__law_moved T.F__law_moved.kp T.b__law_moved pass0 (fun _ => rfl) (pam_cons (pm_var 4) (pam_cons (pm_var 1) pam_nil)) (hA := (an_cons (an_cons an_nil))))))) pam_nil))))))
theorem w__law_called (T : Tp w K mg) : ∀ k : Nat, FnOk P w K mg base CX0 (k + 0) T.a__law_called T.fd__law_called ["_law_tree_here", "_law_turn"] (spM K 2 (R_called k))
  | 0 => FnOk.none rfl
  | k + 1 => by
    have ih := w__law_called T k
    rw [show k + 1 + 0 = (k + 0) + 1 by omega]
    exact okMV (N := N__law_called) T.F__law_called sc__law_called rfl fun cdv A outer s H E hr =>
  (psm_cons (psm_if (ptm_val (pm_callB cam_isi rfl T.z_isinstance bb_isinstance (pam_cons (pm_var 0) (pam_cons (pm_ty rfl T.z_str bb_str) pam_nil)))) (psm_one (psm_ret (pm_pop (pm_bin opm_add pm_str (pm_pop (pm_slice (pm_var 0) pom_none (pom_some pm_int))))))) psm_nil)
  (psm_cons (psm_par 2 3 rfl sc__law_called.nd rfl rfl (by decide) rfl rfl (pm_call ih hr rfl T.m__law_called T.F__law_called.kp T.b__law_called pass0 (fun _ => rfl) (pam_cons (pm_ix (pm_var 0) pm_int) (pam_cons (pm_var 1) pam_nil)) (hA := (an_cons (an_cons an_nil)))) (pm_call ih hr rfl T.m__law_called T.F__law_called.kp T.b__law_called pass0 (fun _ => rfl) (pam_cons (pm_ix (pm_var 0) pm_int) (pam_cons (pm_var 1) pam_nil)) (hA := (an_cons (an_cons an_nil)))) (by rfl))
  (psm_one (psm_ret (pm_ix (pm_lstV (pam_cons (pm_tup (pam_cons (pm_var 2) (pam_cons (pm_var 3) pam_nil))) (pam_cons (pm_tup (pam_cons (pm_var 3) (pam_cons (pm_var 2) pam_nil))) pam_nil))) (pm_var 1))))))
theorem w__law_numbers (T : Tp w K mg) : ∀ k : Nat, FnOk P w K mg base CX0 (k + 0) T.a__law_numbers T.fd__law_numbers ["_law_tree_here", "_law_first"] (spM K 2 (R_numbers k))
  | 0 => FnOk.none rfl
  | k + 1 => by
    have ih := w__law_numbers T k
    rw [show k + 1 + 0 = (k + 0) + 1 by omega]
    exact okMV (N := N__law_numbers) T.F__law_numbers sc__law_numbers rfl fun cdv A outer s H E hr =>
  (psm_cons (psm_if (ptm_val (pm_callB cam_isi rfl T.z_isinstance bb_isinstance (pam_cons (pm_var 0) (pam_cons (pm_ty rfl T.z_str bb_str) pam_nil)))) (psm_one (psm_ret (pm_lstV (pam_cons (pm_var 1) pam_nil)))) psm_nil)
  (psm_cons (psm_set 2 sc__law_numbers.nd rfl (Or.inl rfl) (pm_call ih hr rfl T.m__law_numbers T.F__law_numbers.kp T.b__law_numbers pass0 (fun _ => rfl) (pam_cons (pm_ix (pm_var 0) pm_int) (pam_cons (pm_var 1) pam_nil)) (hA := (an_cons (an_cons an_nil)))))
  (psm_cons (psm_set 3 sc__law_numbers.nd rfl (Or.inl rfl) (pm_call ih hr rfl T.m__law_numbers T.F__law_numbers.kp T.b__law_numbers pass0 (fun _ => rfl) (pam_cons (pm_ix (pm_var 0) pm_int) (pam_cons (pm_bin opm_add (pm_var 1) (pm_callB cam_len rfl T.z_len bb_len (pam_cons (pm_var 2) pam_nil))) pam_nil)) (hA := (an_cons (an_cons an_nil)))))
  (psm_one (psm_ret (pm_pop (pm_bin opm_add (pm_bin opm_add (pm_var 3) (pm_var 2)) (pm_lstV (pam_cons (pm_bin opm_add (pm_bin opm_add (pm_var 1) (pm_callB cam_len rfl T.z_len bb_len (pam_cons (pm_var 2) pam_nil))) (pm_callB cam_len rfl T.z_len bb_len (pam_cons (pm_var 3) pam_nil))) pam_nil)))))))))
theorem w_put_nodes (T : Tp w K mg) : ∀ k : Nat, FnOk P w K mg base CX0 (k + 0) T.a_put_nodes T.fd_put_nodes ["tree", "found"] (spM K 2 (R_put_nodes k))
  | 0 => FnOk.none rfl
  | k + 1 => by
    have ih := w_put_nodes T k
    rw [show k + 1 + 0 = (k + 0) + 1 by omega]
    exact okMV (N := N_put_nodes) T.F_put_nodes sc_put_nodes rfl fun cdv A outer s H E hr =>
  (psm_cons (psm_if (ptm_val (pm_callB cam_isi rfl T.z_isinstance bb_isinstance (pam_cons (pm_var 0) (pam_cons (pm_ty rfl T.z_tuple bb_tuple) pam_nil)))) (psm_cons (psm_set 2 sc_put_nodes.nd rfl (Or.inl rfl) (pm_call ih hr rfl T.m_put_nodes T.F_put_nodes.kp T.b_put_nodes pass0 (fun _ => rfl) (pam_cons (pm_ix (pm_var 0) pm_int) (pam_cons (pm_var 1) pam_nil)) (hA := (an_cons (an_cons an_nil)))))
  (psm_one (psm_expr (pm_bm PySem.F.plainAttrs_list PySem.F.slot_list_append PySem.F.type_list_append mtm_append (pm_var 1) (pam_cons (pm_tup (pam_cons (pm_var 2) (pam_cons (pm_call ih hr rfl T.m_put_nodes T.F_put_nodes.kp T.b_put_nodes pass0 (fun _ => rfl) (pam_cons (pm_ix (pm_var 0) pm_int) (pam_cons (pm_var 1) pam_nil)) (hA := (an_cons (an_cons an_nil)))) pam_nil))) pam_nil))))) (psm_one (psm_expr (pm_bm PySem.F.plainAttrs_list PySem.F.slot_list_append PySem.F.type_list_append mtm_append (pm_var 1) (pam_cons (pm_var 0) pam_nil)))))
  (psm_one (psm_ret (pm_bin opm_sub (pm_callB cam_len rfl T.z_len bb_len (pam_cons (pm_var 1) pam_nil)) pm_int))))
theorem w_nodes (T : Tp w K mg) : FnOk P w K mg base CX0 71 T.a_nodes T.fd_nodes ["tree"] (spM K 1 M_nodes) :=
  okMV (N := N_nodes) T.F_nodes sc_nodes rfl fun cdv A outer s H E hr =>
  (psm_cons (psm_set 1 sc_nodes.nd rfl (Or.inl rfl) (pm_lst pam_nil))
  (psm_cons (psm_expr (pm_call (w_put_nodes (base := base) T 70) (hr.mono (by omega)) rfl T.m_put_nodes T.F_put_nodes.kp T.b_put_nodes pass0 (fun _ => rfl) (pam_cons (pm_var 0) (pam_cons (pm_var 1) pam_nil)) (hA := (an_cons (an_cons an_nil)))))
  (psm_one (psm_ret (pm_callTy cam_tuple rfl T.z_tuple bb_tuple (pam_cons (pm_var 1) pam_nil))))))
theorem w_ahead_of (T : Tp w K mg) : FnOk P w K mg base CX0 72 T.a_ahead_of T.fd_ahead_of ["tree"] (spM K 1 M_ahead_of) :=
  okMV (N := N_ahead_of) T.F_ahead_of sc_ahead_of rfl fun cdv A outer s H E hr =>
  (psm_cons (psm_set 1 sc_ahead_of.nd rfl (Or.inl rfl) (pm_call (w_nodes (base := base) T) (hr.mono (by omega)) rfl T.m_nodes T.F_nodes.kp T.b_nodes pass0 (fun _ => rfl) (pam_cons (pm_var 0) pam_nil) (hA := (an_cons an_nil))))
  (psm_cons (psm_set 2 sc_ahead_of.nd rfl (Or.inl rfl) (pm_bin opm_mul (pm_lstV (pam_cons pm_non pam_nil)) (pm_callB cam_len rfl T.z_len bb_len (pam_cons (pm_var 1) pam_nil))))
  (psm_cons (psm_for PassesOwn.never rfl (pim_enum rfl T.z_enumerate (pam_cons (pm_var 1) pam_nil)) (pgm_tup rfl (pgms_cons (pgm_name 3 sc_ahead_of.nd rfl (Or.inl rfl)) (pgms_cons (pgm_name 4 sc_ahead_of.nd rfl (Or.inl rfl)) pgms_nil))) (psm_one (psm_if (ptm_val (pm_callB cam_isi rfl T.z_isinstance bb_isinstance (pam_cons (pm_var 4) (pam_cons (pm_ty rfl T.z_tuple bb_tuple) pam_nil)))) (psm_cons (psm_setIx (pm_var 3) (pm_var 2) (pm_ix (pm_var 4) pm_int))
  (psm_one (psm_setIx (pm_var 3) (pm_var 2) (pm_ix (pm_var 4) pm_int)))) psm_nil)))
  (psm_one (psm_ret (pm_callTy cam_tuple rfl T.z_tuple bb_tuple (pam_cons (pm_var 2) pam_nil)))))))
theorem w_line_up (T : Tp w K mg) : FnOk P w K mg base CX0 1 T.a_line_up T.fd_line_up ["aheads", "house"] (spM K 2 M_line_up) :=
  okMV (N := N_line_up) T.F_line_up sc_line_up rfl fun cdv A outer s H E hr =>
  (psm_cons (psm_set 2 sc_line_up.nd rfl (Or.inl rfl) (pm_lst pam_nil))
  (psm_cons (psm_while PassesOwn.never (ptm_cmp opm_isNot (pm_var 1) pm_non) (psm_cons (psm_expr (pm_bm PySem.F.plainAttrs_list PySem.F.slot_list_append PySem.F.type_list_append mtm_append (pm_var 2) (pam_cons (pm_var 1) pam_nil)))
  (psm_one (psm_set 1 sc_line_up.nd rfl (Or.inl rfl) (pm_ix (pm_var 0) (pm_var 1))))))
  (psm_one (psm_ret (pm_var 2)))))
theorem w_name_of (T : Tp w K mg) : FnOk P w K mg base CX0 1 T.a_name_of T.fd_name_of ["told", "house"] (spM K 2 M_name_of) :=
  okMV (N := N_name_of) T.F_name_of sc_name_of rfl fun cdv A outer s H E hr =>
  (psm_cons (psm_if (ptm_val (pm_callB cam_isi rfl T.z_isinstance bb_isinstance (pam_cons (pm_var 0) (pam_cons (pm_ty rfl T.z_str bb_str) pam_nil)))) (psm_one (psm_ret (pm_var 0))) psm_nil)
  (psm_one (psm_ret (pm_var 1))))
theorem w_straight_under (T : Tp w K mg) : FnOk P w K mg base CX0 1 T.a_straight_under T.fd_straight_under ["told"] (spM K 1 M_straight_under) :=
  okMV (N := N_straight_under) T.F_straight_under sc_straight_under rfl fun cdv A outer s H E hr =>
  (psm_cons (psm_if (ptm_val (pm_callB cam_isi rfl T.z_isinstance bb_isinstance (pam_cons (pm_var 0) (pam_cons (pm_ty rfl T.z_str bb_str) pam_nil)))) (psm_one (psm_ret (pm_tup pam_nil))) psm_nil)
  (psm_one (psm_ret (pm_var 0))))
theorem w_ground (T : Tp w K mg) : FnOk P w K mg base CX0 73 T.a_ground T.fd_ground ["great"] (spM K 1 M_ground) :=
  okMV (N := N_ground) T.F_ground sc_ground rfl fun cdv A outer s H E hr =>
  (psm_cons (psm_set 1 sc_ground.nd rfl (Or.inr rfl) (pm_call (w_ahead_of (base := base) T) (hr.mono (by omega)) rfl T.m_ahead_of T.F_ahead_of.kp T.b_ahead_of pass0 (fun _ => rfl) (pam_cons (pm_var 0) pam_nil) (hA := (an_cons an_nil))))
  (psm_cons (psm_set 2 sc_ground.nd rfl (Or.inr rfl) (pm_pop (pm_lc (own := [("house", 4)]) rfl sc_ground.nd (pim_range1 rfl T.z_range (pam_cons (pm_callB cam_len rfl T.z_len bb_len (pam_cons (pm_var 1) pam_nil)) pam_nil)) (blkOk_by (N := N_ground) (sc := (defScope s_ground)) (by decide +kernel)) (fun _ _ _ _ _ => (pgm_name 4 sc_ground.nd rfl (Or.inl rfl))) (fun _ _ _ _ _ => ptsm_nil) (fun _ _ _ _ _ => (pm_call (w_line_up (base := base) T) (hr.mono (by omega)) rfl T.m_line_up T.F_line_up.kp T.b_line_up pass0 (fun _ => rfl) (pam_cons (pm_var 1) (pam_cons (pm_var 4) pam_nil)) (hA := (an_cons (an_cons an_nil))))))))
  (psm_cons (psm_set 3 sc_ground.nd rfl (Or.inl rfl) (pm_lst pam_nil))
  (psm_cons (psm_for PassesOwn.never rfl (pim_enum rfl T.z_enumerate (pam_cons (pm_call (w_nodes (base := base) T) (hr.mono (by omega)) rfl T.m_nodes T.F_nodes.kp T.b_nodes pass0 (fun _ => rfl) (pam_cons (pm_var 0) pam_nil) (hA := (an_cons an_nil))) pam_nil)) (pgm_tup rfl (pgms_cons (pgm_name 4 sc_ground.nd rfl (Or.inr rfl)) (pgms_cons (pgm_name 5 sc_ground.nd rfl (Or.inl rfl)) pgms_nil))) (psm_cons (psm_pop (psm_setLc 6 (own := [("other", 7)]) rfl sc_ground.nd rfl rfl (sw_true rfl rfl rfl (by decide +kernel)) (pim_range1 rfl T.z_range (pam_cons (pm_callB cam_len rfl T.z_len bb_len (pam_cons (pm_var 2) pam_nil)) pam_nil)) (blkOk_by (N := N_ground) (sc := (defScope s_ground)) (by decide +kernel)) (fun _ _ _ _ _ => (pgm_name 7 sc_ground.nd rfl (Or.inl rfl))) (fun _ _ _ _ _ => (ptsm_one (PW.pt (pwm_and (ptm_cmp (opm_notIn hr.units65) (pm_var 7) (pm_ix (pm_var 2) (pm_var 4)) (by rfl)) (pwm_and1 (ptm_cmp (opm_notIn hr.units65) (pm_var 4) (pm_ix (pm_var 2) (pm_var 7)) (by rfl))))))) (fun _ _ _ _ _ => (pm_var 7))))
  (psm_one (psm_expr (pm_bm PySem.F.plainAttrs_list PySem.F.slot_list_append PySem.F.type_list_append mtm_append (pm_var 3) (pam_cons (pm_tup (pam_cons (pm_call (w_name_of (base := base) T) (hr.mono (by omega)) rfl T.m_name_of T.F_name_of.kp T.b_name_of pass0 (fun _ => rfl) (pam_cons (pm_var 5) (pam_cons (pm_var 4) pam_nil)) (hA := (an_cons (an_cons an_nil)))) (pam_cons pm_int (pam_cons (pm_call (w_straight_under (base := base) T) (hr.mono (by omega)) rfl T.m_straight_under T.F_straight_under.kp T.b_straight_under pass0 (fun _ => rfl) (pam_cons (pm_var 5) pam_nil) (hA := (an_cons an_nil))) (pam_cons (pm_callTy cam_tuple rfl T.z_tuple bb_tuple (pam_cons (pm_var 6) pam_nil)) pam_nil))))) pam_nil))))))
  (psm_one (psm_ret (pm_callTy cam_tuple rfl T.z_tuple bb_tuple (pam_cons (pm_var 3) pam_nil))))))))
theorem w__law_dates (T : Tp w K mg) : FnOk P w K mg base CX0 3 T.a__law_dates T.fd__law_dates ["_law_pot_here", "_law_rows"] (spM K 2 M_dates) :=
  okMV (N := N__law_dates) T.F__law_dates sc__law_dates rfl fun cdv A outer s H E hr =>
  (psm_cons (psm_set 2 sc__law_dates.nd rfl (Or.inl rfl) (pm_bin opm_mul (pm_lstV (pam_cons pm_int pam_nil)) (pm_callB cam_len rfl T.z_len bb_len (pam_cons (pm_var 1) pam_nil))))
  (psm_cons (psm_set 3 sc__law_dates.nd rfl (Or.inr rfl) (pm_lc (own := [("_law_house", 6), ("_law_row", 7)]) rfl sc__law_dates.nd (pim_enum rfl T.z_enumerate (pam_cons (pm_var 1) pam_nil)) (blkOk_by (N := N__law_dates) (sc := (defScope s__law_dates)) (by decide +kernel)) (fun _ _ _ _ _ => (pgm_tup rfl (pgms_cons (pgm_name 6 sc__law_dates.nd rfl (Or.inl rfl)) (pgms_cons (pgm_name 7 sc__law_dates.nd rfl (Or.inl rfl)) pgms_nil)))) (fun _ _ _ _ _ => (ptsm_one (ptm_not (ptm_val (pm_callB cam_isi rfl T.z_isinstance bb_isinstance (pam_cons (pm_var 7) (pam_cons (pm_ty rfl T.z_str bb_str) pam_nil))))))) (fun _ _ _ _ _ => (pm_var 6))))
  (psm_cons (psm_set 4 sc__law_dates.nd rfl (Or.inl rfl) pm_int)
  (psm_cons (psm_while PassesOwn.never (ptm_cmp (opm_ne hr.units) (pm_var 3) (pm_lstV pam_nil)) (psm_cons (psm_pop (psm_setLc 5 (own := [("_law_house", 6)]) rfl sc__law_dates.nd rfl rfl (sw_true rfl rfl rfl (by decide +kernel)) (pim_any (pm_var 3)) (blkOk_by (N := N__law_dates) (sc := (defScope s__law_dates)) (by decide +kernel)) (fun _ _ _ _ _ => (pgm_name 6 sc__law_dates.nd rfl (Or.inl rfl))) (fun _ _ _ _ _ => (ptsm_one (PW.pt (pwm_and (ptm_cmp (opm_notIn hr.units65) (pm_ix (pm_ix (pm_var 1) (pm_var 6)) pm_int) (pm_var 3) (by rfl)) (pwm_and1 (ptm_cmp (opm_notIn hr.units65) (pm_ix (pm_ix (pm_var 1) (pm_var 6)) pm_int) (pm_var 3) (by rfl))))))) (fun _ _ _ _ _ => (pm_var 6))))
  (psm_cons (psm_set 6 sc__law_dates.nd rfl (Or.inl rfl) (pm_call (w__law_pick (base := base) T) (hr.mono (by omega)) rfl T.m__law_pick T.F__law_pick.kp T.b__law_pick pass0 (fun _ => rfl) (pam_cons (pm_var 0) (pam_cons (pm_var 5) pam_nil)) (hA := (an_cons (an_cons an_nil)))))
  (psm_cons (psm_set 4 sc__law_dates.nd rfl (Or.inl rfl) (pm_bin opm_add (pm_bin opm_add (pm_var 4) pm_int) (pm_call (w__law_take (base := base) T) (hr.mono (by omega)) rfl T.m__law_take T.F__law_take.kp T.b__law_take pass0 (fun _ => rfl) (pam_cons (pm_var 0) (pam_cons (pm_ix (pm_lstV (pam_cons pm_int (pam_cons pm_int (pam_cons pm_int pam_nil)))) (pm_call (w__law_take (base := base) T) (hr.mono (by omega)) rfl T.m__law_take T.F__law_take.kp T.b__law_take pass0 (fun _ => rfl) (pam_cons (pm_var 0) (pam_cons pm_int pam_nil)) (hA := (an_cons (an_cons an_nil))))) pam_nil)) (hA := (an_cons (an_cons an_nil))))))
  (psm_cons (psm_setIx (pm_var 4) (pm_var 2) (pm_var 6))
  (psm_one (psm_expr (pm_bm PySem.F.plainAttrs_list PySem.F.slot_list_remove PySem.F.type_list_remove mtm_remove (pm_var 3) (pam_cons (pm_var 6) pam_nil)))))))))
  (psm_one (psm_ret (pm_callTy cam_tuple rfl T.z_tuple bb_tuple (pam_cons (pm_var 2) pam_nil))))))))
theorem w__law_same (T : Tp w K mg) : ∀ k : Nat, FnOk P w K mg base CX0 (k + 0) T.a__law_same T.fd__law_same ["_law_found", "_law_due"] (spM K 2 (R_same_2 k))
  | 0 => FnOk.none rfl
  | k + 1 => by
    have ih := w__law_same T k
    rw [show k + 1 + 0 = (k + 0) + 1 by omega]
    exact okMV (N := N__law_same) T.F__law_same sc__law_same rfl fun cdv A outer s H E hr =>
  (psm_cons (psm_if (ptm_val (pm_callB cam_isi rfl T.z_isinstance bb_isinstance (pam_cons (pm_var 1) (pam_cons (pm_ty rfl T.z_tuple bb_tuple) pam_nil)))) (psm_cons (psm_if (PW.pt (pwm_or (ptm_not (ptm_val (pm_callB cam_isi rfl T.z_isinstance bb_isinstance (pam_cons (pm_var 0) (pam_cons (pm_ty rfl T.z_tuple bb_tuple) pam_nil))))) (pwm_or1 (ptm_cmp (opm_ne hr.units) (pm_callB cam_len rfl T.z_len bb_len (pam_cons (pm_var 0) pam_nil)) (pm_callB cam_len rfl T.z_len bb_len (pam_cons (pm_var 1) pam_nil)))))) (psm_one (psm_ret pm_bl)) psm_nil)
  (psm_one (psm_ret (pm_callB (cam_all rfl) rfl T.z_all bb_all (pam_cons (pm_pop (pm_lc (own := [("_law_one", 2), ("_law_other", 3)]) rfl sc__law_same.nd (pim_zip rfl T.z_zip (pam_cons (pm_var 0) (pam_cons (pm_var 1) pam_nil))) (blkOk_by (N := N__law_same) (sc := (defScope s__law_same)) (by decide +kernel)) (fun _ _ _ _ _ => (pgm_tup rfl (pgms_cons (pgm_name 2 sc__law_same.nd rfl (Or.inl rfl)) (pgms_cons (pgm_name 3 sc__law_same.nd rfl (Or.inl rfl)) pgms_nil)))) (fun _ _ _ _ _ => ptsm_nil) (fun _ _ _ _ _ => (pm_call ih hr rfl T.m__law_same T.F__law_same.kp T.b__law_same pass0 (fun _ => rfl) (pam_cons (pm_var 2) (pam_cons (pm_var 3) pam_nil)) (hA := (an_cons (an_cons an_nil))))))) pam_nil))))) psm_nil)
  (psm_cons (psm_if (PW.pt (pwm_or (ptm_val (pm_callB cam_isi rfl T.z_isinstance bb_isinstance (pam_cons (pm_var 1) (pam_cons (pm_ty rfl T.z_str bb_str) pam_nil)))) (pwm_or1 (ptm_cmp opm_is (pm_var 1) pm_non)))) (psm_one (psm_ret (pm_and (pm_cmp (opm_eq hr.units) (pm_callB cam_isi rfl T.z_isinstance bb_isinstance (pam_cons (pm_var 0) (pam_cons (pm_ty rfl T.z_str bb_str) pam_nil))) (pm_callB cam_isi rfl T.z_isinstance bb_isinstance (pam_cons (pm_var 1) (pam_cons (pm_ty rfl T.z_str bb_str) pam_nil)))) (pm_one (pm_cmp (opm_eq hr.units) (pm_var 0) (pm_var 1)))))) psm_nil)
  (psm_one (psm_ret (pm_and (pm_callB cam_isi rfl T.z_isinstance bb_isinstance (pam_cons (pm_var 0) (pam_cons (pm_ty rfl T.z_int bb_int) pam_nil))) (pm_and (pm_not (pm_callB cam_isi rfl T.z_isinstance bb_isinstance (pam_cons (pm_var 0) (pam_cons (pm_ty rfl T.z_bool bb_bool) pam_nil)))) (pm_one (pm_cmp (opm_eq hr.units) (pm_var 0) (pm_var 1)))))))))
theorem w_inner_dates (T : Tp w K mg) : FnOk P w K mg base CX0 72 T.a_inner_dates T.fd_inner_dates ["great", "dates"] (spM K 2 M_inner_dates) :=
  okMV (N := N_inner_dates) T.F_inner_dates sc_inner_dates rfl fun cdv A outer s H E hr =>
  (psm_one (psm_ret (pm_pop (pm_lc (own := [("told", 2), ("date", 3)]) rfl sc_inner_dates.nd (pim_zip rfl T.z_zip (pam_cons (pm_call (w_nodes (base := base) T) (hr.mono (by omega)) rfl T.m_nodes T.F_nodes.kp T.b_nodes pass0 (fun _ => rfl) (pam_cons (pm_var 0) pam_nil) (hA := (an_cons an_nil))) (pam_cons (pm_var 1) pam_nil))) (blkOk_by (N := N_inner_dates) (sc := (defScope s_inner_dates)) (by decide +kernel)) (fun _ _ _ _ _ => (pgm_tup rfl (pgms_cons (pgm_name 2 sc_inner_dates.nd rfl (Or.inl rfl)) (pgms_cons (pgm_name 3 sc_inner_dates.nd rfl (Or.inl rfl)) pgms_nil)))) (fun _ _ _ _ _ => (ptsm_one (ptm_not (ptm_val (pm_callB cam_isi rfl T.z_isinstance bb_isinstance (pam_cons (pm_var 2) (pam_cons (pm_ty rfl T.z_str bb_str) pam_nil))))))) (fun _ _ _ _ _ => (pm_var 3))))))
theorem w_Slices_first_slice (T : Tp w K mg) : FnOk P w K mg base CX0 1 T.a_Slices_first_slice T.fd_Slices_first_slice ["self", "house"] (spM K 2 M_Slices_first_slice) :=
  okMV (N := N_Slices_first_slice) T.F_Slices_first_slice sc_Slices_first_slice rfl fun cdv A outer s H E hr =>
  (psm_one (psm_ret (pm_bm PySem.F.plainAttrs_list PySem.F.slot_list_index PySem.F.type_list_index (mtm_index hr.units65) (pm_fld T.k_Slices T.na_Slices_floors (pm_var 0)) (pam_cons (pm_ix (pm_fld T.k_Slices T.na_Slices_dates (pm_var 0)) (pm_var 1)) pam_nil))))
theorem w_Slices_last_slice (T : Tp w K mg) : FnOk P w K mg base CX0 1 T.a_Slices_last_slice T.fd_Slices_last_slice ["self", "house"] (spM K 2 M_Slices_last_slice) :=
  okMV (N := N_Slices_last_slice) T.F_Slices_last_slice sc_Slices_last_slice rfl fun cdv A outer s H E hr =>
  (psm_cons (psm_if (ptm_cmp opm_is (pm_ix (pm_fld T.k_Slices T.na_Slices_aheads (pm_var 0)) (pm_var 1)) pm_non) (psm_one (psm_ret (pm_bin opm_sub (pm_callB cam_len rfl T.z_len bb_len (pam_cons (pm_fld T.k_Slices T.na_Slices_floors (pm_var 0)) pam_nil)) pm_int))) psm_nil)
  (psm_one (psm_ret (pm_bin opm_sub (pm_bm PySem.F.plainAttrs_list PySem.F.slot_list_index PySem.F.type_list_index (mtm_index hr.units65) (pm_fld T.k_Slices T.na_Slices_floors (pm_var 0)) (pam_cons (pm_ix (pm_fld T.k_Slices T.na_Slices_dates (pm_var 0)) (pm_ix (pm_fld T.k_Slices T.na_Slices_aheads (pm_var 0)) (pm_var 1))) pam_nil)) pm_int))))
theorem w_Slices___init__ (T : Tp w K mg) : FnOk P w K mg base CX0 73 T.a_Slices___init__ T.fd_Slices___init__ ["self", "great", "dates"] (spM K 3 M_Slices___init__) :=
  okM (N := N_Slices___init__) T.F_Slices___init__ sc_Slices___init__ rfl fun cdv A outer s H E hr =>
  (psm_cons (psm_fld T.k_Slices T.na_Slices_rows (pm_var 0) (pm_call (w_nodes (base := base) T) (hr.mono (by omega)) rfl T.m_nodes T.F_nodes.kp T.b_nodes pass0 (fun _ => rfl) (pam_cons (pm_var 1) pam_nil) (hA := (an_cons an_nil))))
  (psm_cons (psm_fld T.k_Slices T.na_Slices_aheads (pm_var 0) (pm_call (w_ahead_of (base := base) T) (hr.mono (by omega)) rfl T.m_ahead_of T.F_ahead_of.kp T.b_ahead_of pass0 (fun _ => rfl) (pam_cons (pm_var 1) pam_nil) (hA := (an_cons an_nil))))
  (psm_cons (psm_fld T.k_Slices T.na_Slices_dates (pm_var 0) (pm_var 2))
  (psm_cons (psm_fld T.k_Slices T.na_Slices_floors (pm_var 0) (pm_pop (pm_bin opm_add (pm_lstV (pam_cons pm_int pam_nil)) (pm_pop (pm_callB cam_sorted rfl T.z_sorted bb_sorted (pam_cons (pm_call (w_inner_dates (base := base) T) (hr.mono (by omega)) rfl T.m_inner_dates T.F_inner_dates.kp T.b_inner_dates pass0 (fun _ => rfl) (pam_cons (pm_var 1) (pam_cons (pm_var 2) pam_nil)) (hA := (an_cons (an_cons an_nil)))) pam_nil))))))
  (psm_cons (psm_fld T.k_Slices T.na_Slices_places (pm_var 0) pm_dctT0)
  (psm_one (psm_for PassesOwn.never rfl (pim_range1 rfl T.z_range (pam_cons (pm_callB cam_len rfl T.z_len bb_len (pam_cons (pm_fld T.k_Slices T.na_Slices_floors (pm_var 0)) pam_nil)) pam_nil)) (pgm_name 3 sc_Slices___init__.nd rfl (Or.inl rfl)) (psm_one (psm_for PassesOwn.never rfl (pim_range1 rfl T.z_range (pam_cons (pm_callB cam_len rfl T.z_len bb_len (pam_cons (pm_fld T.k_Slices T.na_Slices_rows (pm_var 0)) pam_nil)) pam_nil)) (pgm_name 4 sc_Slices___init__.nd rfl (Or.inl rfl)) (psm_one (psm_if (ptm_chain opm_le opm_le (pm_meth T.k_Slices T.me_Slices_first_slice (w_Slices_first_slice (base := base) T) (hr.mono (by omega)) T.b_Slices_first_slice pass0 (fun _ => rfl) (pm_var 0) (pam_cons (pm_var 4) pam_nil) (hA := (an_cons an_nil))) (pm_var 3) (pm_meth T.k_Slices T.me_Slices_last_slice (w_Slices_last_slice (base := base) T) (hr.mono (by omega)) T.b_Slices_last_slice pass0 (fun _ => rfl) (pm_var 0) (pam_cons (pm_var 4) pam_nil) (hA := (an_cons an_nil)))) (psm_one (psm_setT hr.units65 (pm_callB cam_lenT rfl T.z_len bb_len (pam_cons (pm_fld T.k_Slices T.na_Slices_places (pm_var 0)) pam_nil)) (pm_fld T.k_Slices T.na_Slices_places (pm_var 0)) (pm_tup (pam_cons (pm_var 4) (pam_cons (pm_var 3) pam_nil))))) psm_nil)))))))))))
theorem w_Slices_under_of (T : Tp w K mg) : FnOk P w K mg base CX0 2 T.a_Slices_under_of T.fd_Slices_under_of ["self", "house", "level"] (spM K 3 M_Slices_under_of) :=
  okMV (N := N_Slices_under_of) T.F_Slices_under_of sc_Slices_under_of rfl fun cdv A outer s H E hr =>
  (psm_cons (psm_set 3 sc_Slices_under_of.nd rfl (Or.inl rfl) (pm_ix (pm_fld T.k_Slices T.na_Slices_rows (pm_var 0)) (pm_var 1)))
  (psm_cons (psm_if (ptm_cmp opm_lt (pm_meth T.k_Slices T.me_Slices_first_slice (w_Slices_first_slice (base := base) T) (hr.mono (by omega)) T.b_Slices_first_slice pass0 (fun _ => rfl) (pm_var 0) (pam_cons (pm_var 1) pam_nil) (hA := (an_cons an_nil))) (pm_var 2)) (psm_one (psm_ret (pm_tup (pam_cons (pm_ixT hr.units65 (pm_fld T.k_Slices T.na_Slices_places (pm_var 0)) (pm_tup (pam_cons (pm_var 1) (pam_cons (pm_bin opm_sub (pm_var 2) pm_int) pam_nil)))) pam_nil)))) psm_nil)
  (psm_cons (psm_if (ptm_val (pm_callB cam_isi rfl T.z_isinstance bb_isinstance (pam_cons (pm_var 3) (pam_cons (pm_ty rfl T.z_str bb_str) pam_nil)))) (psm_one (psm_ret (pm_tup pam_nil))) psm_nil)
  (psm_one (psm_ret (pm_tup (pam_cons (pm_ixT hr.units65 (pm_fld T.k_Slices T.na_Slices_places (pm_var 0)) (pm_tup (pam_cons (pm_ix (pm_var 3) pm_int) (pam_cons (pm_bin opm_sub (pm_var 2) pm_int) pam_nil)))) (pam_cons (pm_ixT hr.units65 (pm_fld T.k_Slices T.na_Slices_places (pm_var 0)) (pm_tup (pam_cons (pm_ix (pm_var 3) pm_int) (pam_cons (pm_bin opm_sub (pm_var 2) pm_int) pam_nil)))) pam_nil))))))))
theorem w_Slices_beside_of (T : Tp w K mg) : FnOk P w K mg base CX0 1 T.a_Slices_beside_of T.fd_Slices_beside_of ["self", "house", "level"] (spM K 3 M_Slices_beside_of) :=
  okMV (N := N_Slices_beside_of) T.F_Slices_beside_of sc_Slices_beside_of rfl fun cdv A outer s H E hr =>
  (psm_one (psm_ret (pm_callTy cam_tuple rfl T.z_tuple bb_tuple (pam_cons (pm_pop (pm_lock (laF "Slices" "places" (laV 0)) (pm_lc (own := [("at", 3), ("other", 4), ("here", 5)]) rfl sc_Slices_beside_of.nd (pim_itemsT (pm_fld T.k_Slices T.na_Slices_places (pm_var 0))) (blkOk_by (N := N_Slices_beside_of) (sc := (defScope s_Slices_beside_of)) (by decide +kernel)) (fun _ _ _ _ _ => (pgm_tup rfl (pgms_cons (pgm_tup rfl (pgms_cons (pgm_name 4 sc_Slices_beside_of.nd rfl (Or.inl rfl)) (pgms_cons (pgm_name 5 sc_Slices_beside_of.nd rfl (Or.inl rfl)) pgms_nil))) (pgms_cons (pgm_name 3 sc_Slices_beside_of.nd rfl (Or.inl rfl)) pgms_nil)))) (fun _ _ _ _ _ => (ptsm_one (PW.pt (pwm_and (ptm_cmp (opm_eq hr.units) (pm_var 5) (pm_var 2)) (pwm_and1 (ptm_cmp (opm_ne hr.units) (pm_var 4) (pm_var 1))))))) (fun _ _ _ _ _ => (pm_var 3))))) pam_nil))))
theorem w_dated (T : Tp w K mg) : FnOk P w K mg base CX0 75 T.a_dated T.fd_dated ["great", "dates"] (spM K 2 M_dated_2) :=
  okMV (N := N_dated) T.F_dated sc_dated rfl fun cdv A outer s H E hr =>
  (psm_cons (psm_set 2 sc_dated.nd rfl (Or.inl rfl) (pm_make T.k_Slices T.mk_Slices (w_Slices___init__ (base := base) T) (hr.mono (by omega)) rfl T.mg_Slices T.b_Slices___init__ pass0 (fun _ => rfl) (pam_cons (pm_var 0) (pam_cons (pm_var 1) pam_nil)) (hA := (an_cons (an_cons an_nil)))))
  (psm_cons (psm_set 3 sc_dated.nd rfl (Or.inl rfl) (pm_lst pam_nil))
  (psm_cons (psm_lock (laF "Slices" "places" (laV 2)) (psm_for PassesOwn.never rfl (pim_keys (pm_fld T.k_Slices T.na_Slices_places (pm_var 2))) (pgm_tup rfl (pgms_cons (pgm_name 4 sc_dated.nd rfl (Or.inl rfl)) (pgms_cons (pgm_name 5 sc_dated.nd rfl (Or.inl rfl)) pgms_nil))) (psm_cons (psm_set 6 sc_dated.nd rfl (Or.inl rfl) (pm_call (w_name_of (base := base) T) (hr.mono (by omega)) rfl T.m_name_of T.F_name_of.kp T.b_name_of pass0 (fun _ => rfl) (pam_cons (pm_ix (pm_fld T.k_Slices T.na_Slices_rows (pm_var 2)) (pm_var 4)) (pam_cons (pm_var 4) pam_nil)) (hA := (an_cons (an_cons an_nil)))))
  (psm_one (psm_expr (pm_bm PySem.F.plainAttrs_list PySem.F.slot_list_append PySem.F.type_list_append mtm_append (pm_var 3) (pam_cons (pm_tup (pam_cons (pm_var 6) (pam_cons (pm_var 5) (pam_cons (pm_meth T.k_Slices T.me_Slices_under_of (w_Slices_under_of (base := base) T) (hr.mono (by omega)) T.b_Slices_under_of pass0 (fun _ => rfl) (pm_var 2) (pam_cons (pm_var 4) (pam_cons (pm_var 5) pam_nil)) (hA := (an_cons (an_cons an_nil)))) (pam_cons (pm_meth T.k_Slices T.me_Slices_beside_of (w_Slices_beside_of (base := base) T) (hr.mono (by omega)) T.b_Slices_beside_of pass0 (fun _ => rfl) (pm_var 2) (pam_cons (pm_var 4) (pam_cons (pm_var 5) pam_nil)) (hA := (an_cons (an_cons an_nil)))) pam_nil))))) pam_nil)))))))
  (psm_one (psm_ret (pm_callTy cam_tuple rfl T.z_tuple bb_tuple (pam_cons (pm_var 3) pam_nil)))))))
theorem w_may_be_done (T : Tp w K mg) : FnOk P w K mg base CX0 1 T.a_may_be_done T.fd_may_be_done ["ground", "stay", "deed", "one", "other"] (spM K 5 M_may_be_done) :=
  okMV (N := N_may_be_done) T.F_may_be_done sc_may_be_done rfl fun cdv A outer s H E hr =>
  (psm_cons (psm_asg (pm_pop (pm_slice (pm_ix (pm_var 0) (pm_var 1)) (pom_some pm_int) pom_none)) (pgm_tup rfl (pgms_cons (pgm_name 5 sc_may_be_done.nd rfl (Or.inl rfl)) (pgms_cons (pgm_name 6 sc_may_be_done.nd rfl (Or.inl rfl)) pgms_nil))))
  (psm_cons (psm_if (ptm_cmp (opm_eq hr.units) (pm_var 2) pm_str) (psm_one (psm_ret (pm_and (pm_cmp (opm_eq hr.units) (pm_var 3) (pm_var 1)) (pm_one (pm_cmp (opm_eq hr.units) (pm_var 4) (pm_var 1)))))) psm_nil)
  (psm_cons (psm_if (ptm_cmp (opm_eq hr.units) (pm_var 2) pm_str) (psm_one (psm_ret (pm_and (pm_cmp (opm_eq hr.units) (pm_callB cam_len rfl T.z_len bb_len (pam_cons (pm_var 5) pam_nil)) pm_int) (pm_one (pm_cmp (opm_in hr.units65) (pm_tup (pam_cons (pm_var 3) (pam_cons (pm_var 4) pam_nil))) (pm_tup (pam_cons (pm_var 5) (pam_cons (pm_pop (pm_rev (pm_var 5))) pam_nil))) (by rfl)))))) psm_nil)
  (psm_one (psm_ret (pm_and (pm_cmp (opm_eq hr.units) (pm_var 2) pm_str) (pm_one (pm_or (pm_and (pm_cmp (opm_eq hr.units) (pm_var 3) (pm_var 1)) (pm_one (pm_cmp (opm_in hr.units65) (pm_var 4) (pm_var 6) (by rfl)))) (pm_one (pm_and (pm_cmp (opm_eq hr.units) (pm_var 4) (pm_var 1)) (pm_one (pm_cmp (opm_in hr.units65) (pm_var 3) (pm_var 6) (by rfl)))))))))))))
theorem w_is_stay (T : Tp w K mg) : FnOk P w K mg base CX0 1 T.a_is_stay T.fd_is_stay ["ground", "thing"] (spM K 2 M_is_stay) :=
  okMV (N := N_is_stay) T.F_is_stay sc_is_stay rfl fun cdv A outer s H E hr =>
  (psm_one (psm_ret (pm_and (pm_callB cam_isi rfl T.z_isinstance bb_isinstance (pam_cons (pm_var 1) (pam_cons (pm_ty rfl T.z_int bb_int) pam_nil))) (pm_and (pm_not (pm_callB cam_isi rfl T.z_isinstance bb_isinstance (pam_cons (pm_var 1) (pam_cons (pm_ty rfl T.z_bool bb_bool) pam_nil)))) (pm_one (pm_chain opm_le opm_lt pm_int (pm_var 1) (pm_callB cam_len rfl T.z_len bb_len (pam_cons (pm_var 0) pam_nil))))))))
theorem w_is_path (T : Tp w K mg) : FnOk P w K mg base CX0 2 T.a_is_path T.fd_is_path ["ground", "thing"] (spM K 2 M_is_path) :=
  okMV (N := N_is_path) T.F_is_path sc_is_path rfl fun cdv A outer s H E hr =>
  (psm_cons (psm_if (PW.pt (pwm_or (ptm_not (ptm_val (pm_callB cam_isi rfl T.z_isinstance bb_isinstance (pam_cons (pm_var 1) (pam_cons (pm_ty rfl T.z_tuple bb_tuple) pam_nil))))) (pwm_or (ptm_cmp (opm_eq hr.units) (pm_callB cam_len rfl T.z_len bb_len (pam_cons (pm_var 1) pam_nil)) pm_int) (pwm_or1 (ptm_not (ptm_val (pm_callB (cam_all rfl) rfl T.z_all bb_all (pam_cons (pm_pop (pm_lc (own := [("stay", 2)]) rfl sc_is_path.nd (pim_any (pm_var 1)) (blkOk_by (N := N_is_path) (sc := (defScope s_is_path)) (by decide +kernel)) (fun _ _ _ _ _ => (pgm_name 2 sc_is_path.nd rfl (Or.inl rfl))) (fun _ _ _ _ _ => ptsm_nil) (fun _ _ _ _ _ => (pm_call (w_is_stay (base := base) T) (hr.mono (by omega)) rfl T.m_is_stay T.F_is_stay.kp T.b_is_stay pass0 (fun _ => rfl) (pam_cons (pm_var 0) (pam_cons (pm_var 2) pam_nil)) (hA := (an_cons (an_cons an_nil))))))) pam_nil)))))))) (psm_one (psm_ret pm_bl)) psm_nil)
  (psm_one (psm_ret (pm_callB (cam_all rfl) rfl T.z_all bb_all (pam_cons (pm_pop (pm_lc (own := [("stay", 2), ("later", 3)]) rfl sc_is_path.nd (pim_zip rfl T.z_zip (pam_cons (pm_var 1) (pam_cons (pm_pop (pm_slice (pm_var 1) (pom_some pm_int) pom_none)) pam_nil))) (blkOk_by (N := N_is_path) (sc := (defScope s_is_path)) (by decide +kernel)) (fun _ _ _ _ _ => (pgm_tup rfl (pgms_cons (pgm_name 2 sc_is_path.nd rfl (Or.inl rfl)) (pgms_cons (pgm_name 3 sc_is_path.nd rfl (Or.inl rfl)) pgms_nil)))) (fun _ _ _ _ _ => ptsm_nil) (fun _ _ _ _ _ => (pm_cmp (opm_in hr.units65) (pm_var 3) (pm_ix (pm_ix (pm_var 0) (pm_var 2)) pm_int) (by rfl))))) pam_nil)))))
theorem w_may_be_found (T : Tp w K mg) : FnOk P w K mg base CX0 1 T.a_may_be_found T.fd_may_be_found ["ground", "stay", "word"] (spM K 3 M_may_be_found) :=
  okMV (N := N_may_be_found) T.F_may_be_found sc_may_be_found rfl fun cdv A outer s H E hr =>
  (psm_one (psm_ret (pm_and (pm_cmp (opm_eq hr.units) (pm_ix (pm_ix (pm_var 0) (pm_var 1)) pm_int) (pm_tup pam_nil)) (pm_one (pm_cmp (opm_eq hr.units) (pm_ix (pm_ix (pm_var 0) (pm_var 1)) pm_int) (pm_var 2))))))
theorem w_is_way_of (T : Tp w K mg) : ∀ k : Nat, FnOk P w K mg base CX0 (k + 2) T.a_is_way_of T.fd_is_way_of ["ground", "rows", "node", "thing"] (spM K 4 (R_is_way_of k))
  | 0 => FnOk.none rfl
  | k + 1 => by
    have ih := w_is_way_of T k
    rw [show k + 1 + 2 = (k + 2) + 1 by omega]
    exact okMV (N := N_is_way_of) T.F_is_way_of sc_is_way_of rfl fun cdv A outer s H E hr =>
  (psm_cons (psm_set 4 sc_is_way_of.nd rfl (Or.inl rfl) (pm_ix (pm_var 1) (pm_var 2)))
  (psm_cons (psm_if (PW.pt (pwm_or (ptm_not (ptm_val (pm_callB cam_isi rfl T.z_isinstance bb_isinstance (pam_cons (pm_var 3) (pam_cons (pm_ty rfl T.z_tuple bb_tuple) pam_nil))))) (pwm_or (ptm_cmp (opm_notIn hr.units65) (pm_callB cam_len rfl T.z_len bb_len (pam_cons (pm_var 3) pam_nil)) (pm_tup (pam_cons pm_int (pam_cons pm_int pam_nil))) (by rfl)) (pwm_or1 (ptm_not (ptm_val (pm_call (w_is_path (base := base) T) (hr.mono (by omega)) rfl T.m_is_path T.F_is_path.kp T.b_is_path pass0 (fun _ => rfl) (pam_cons (pm_var 0) (pam_cons (pm_ix (pm_var 3) pm_int) pam_nil)) (hA := (an_cons (an_cons an_nil)))))))))) (psm_one (psm_ret pm_bl)) psm_nil)
  (psm_cons (psm_if (PW.pt (pwm_or (ptm_not (ptm_val (pm_callB cam_isi rfl T.z_isinstance bb_isinstance (pam_cons (pm_ix (pm_var 3) pm_int) (pam_cons (pm_ty rfl T.z_str bb_str) pam_nil))))) (pwm_or1 (ptm_cmp (opm_ne hr.units) (pm_cmp (opm_eq hr.units) (pm_callB cam_len rfl T.z_len bb_len (pam_cons (pm_var 3) pam_nil)) pm_int) (pm_callB cam_isi rfl T.z_isinstance bb_isinstance (pam_cons (pm_var 4) (pam_cons (pm_ty rfl T.z_str bb_str) pam_nil))))))) (psm_one (psm_ret pm_bl)) psm_nil)
  (psm_cons (psm_set 5 sc_is_way_of.nd rfl (Or.inl rfl) (pm_ix (pm_ix (pm_var 3) pm_int) (pm_un unm_neg pm_int)))
  (psm_cons (psm_if (ptm_cmp (opm_eq hr.units) (pm_callB cam_len rfl T.z_len bb_len (pam_cons (pm_var 3) pam_nil)) pm_int) (psm_one (psm_ret (pm_and (pm_cmp (opm_eq hr.units) (pm_ix (pm_var 3) pm_int) pm_str) (pm_one (pm_call (w_may_be_found (base := base) T) (hr.mono (by omega)) rfl T.m_may_be_found T.F_may_be_found.kp T.b_may_be_found pass0 (fun _ => rfl) (pam_cons (pm_var 0) (pam_cons (pm_var 5) (pam_cons (pm_var 4) pam_nil))) (hA := (an_cons (an_cons (an_cons an_nil))))))))) psm_nil)
  (psm_cons (psm_if (PW.pt (pwm_or (ptm_not (ptm_val (pm_call ih hr rfl T.m_is_way_of T.F_is_way_of.kp T.b_is_way_of pass0 (fun _ => rfl) (pam_cons (pm_var 0) (pam_cons (pm_var 1) (pam_cons (pm_ix (pm_var 4) pm_int) (pam_cons (pm_ix (pm_var 3) pm_int) pam_nil)))) (hA := (an_cons (an_cons (an_cons (an_cons an_nil)))))))) (pwm_or1 (ptm_not (ptm_val (pm_call ih hr rfl T.m_is_way_of T.F_is_way_of.kp T.b_is_way_of pass0 (fun _ => rfl) (pam_cons (pm_var 0) (pam_cons (pm_var 1) (pam_cons (pm_ix (pm_var 4) pm_int) (pam_cons (pm_ix (pm_var 3) pm_int) pam_nil)))) (hA := (an_cons (an_cons (an_cons (an_cons an_nil))))))))))) (psm_one (psm_ret pm_bl)) psm_nil)
  (psm_one (psm_ret (pm_call (w_may_be_done (base := base) T) (hr.mono (by omega)) rfl T.m_may_be_done T.F_may_be_done.kp T.b_may_be_done pass0 (fun _ => rfl) (pam_cons (pm_var 0) (pam_cons (pm_var 5) (pam_cons (pm_ix (pm_var 3) pm_int) (pam_cons (pm_ix (pm_ix (pm_ix (pm_var 3) pm_int) pm_int) pm_int) (pam_cons (pm_ix (pm_ix (pm_ix (pm_var 3) pm_int) pm_int) pm_int) pam_nil))))) (hA := (an_cons (an_cons (an_cons (an_cons (an_cons an_nil)))))))))))))))
theorem w_is_way (T : Tp w K mg) : FnOk P w K mg base CX0 73 T.a_is_way T.fd_is_way ["ground", "small", "thing"] (spM K 3 M_is_way) :=
  okMV (N := N_is_way) T.F_is_way sc_is_way rfl fun cdv A outer s H E hr =>
  (psm_cons (psm_set 3 sc_is_way.nd rfl (Or.inl rfl) (pm_call (w_nodes (base := base) T) (hr.mono (by omega)) rfl T.m_nodes T.F_nodes.kp T.b_nodes pass0 (fun _ => rfl) (pam_cons (pm_var 1) pam_nil) (hA := (an_cons an_nil))))
  (psm_one (psm_ret (pm_and (pm_call (w_is_way_of (base := base) T 70) (hr.mono (by omega)) rfl T.m_is_way_of T.F_is_way_of.kp T.b_is_way_of pass0 (fun _ => rfl) (pam_cons (pm_var 0) (pam_cons (pm_var 3) (pam_cons (pm_bin opm_sub (pm_callB cam_len rfl T.z_len bb_len (pam_cons (pm_var 3) pam_nil)) pm_int) (pam_cons (pm_var 2) pam_nil)))) (hA := (an_cons (an_cons (an_cons (an_cons an_nil)))))) (pm_one (pm_cmp (opm_eq hr.units) (pm_callB cam_len rfl T.z_len bb_len (pam_cons (pm_ix (pm_var 2) pm_int) pam_nil)) pm_int))))))
theorem w_parts_of (T : Tp w K mg) : FnOk P w K mg base CX0 1 T.a_parts_of T.fd_parts_of ["way"] (spM K 1 M_parts_of) :=
  okMV (N := N_parts_of) T.F_parts_of sc_parts_of rfl fun cdv A outer s H E hr =>
  (psm_one (psm_ret (pm_pop (pm_slice (pm_var 0) (pom_some pm_int) pom_none))))
theorem w_all_ways (T : Tp w K mg) : ∀ k : Nat, FnOk P w K mg base CX0 (k + 1) T.a_all_ways T.fd_all_ways ["way"] (spM K 1 (R_all_ways k))
  | 0 => FnOk.none rfl
  | k + 1 => by
    have ih := w_all_ways T k
    rw [show k + 1 + 1 = (k + 1) + 1 by omega]
    exact okMV (N := N_all_ways) T.F_all_ways sc_all_ways rfl fun cdv A outer s H E hr =>
  (psm_cons (psm_set 1 sc_all_ways.nd rfl (Or.inl rfl) (pm_lst pam_nil))
  (psm_cons (psm_for PassesOwn.never rfl (pim_any (pm_call (w_parts_of (base := base) T) (hr.mono (by omega)) rfl T.m_parts_of T.F_parts_of.kp T.b_parts_of pass0 (fun _ => rfl) (pam_cons (pm_var 0) pam_nil) (hA := (an_cons an_nil)))) (pgm_name 2 sc_all_ways.nd rfl (Or.inl rfl)) (psm_one (psm_expr (pm_bm PySem.F.plainAttrs_list PySem.F.slot_list_extend PySem.F.type_list_extend mtm_ext (pm_var 1) (pam_cons (pm_call ih hr rfl T.m_all_ways T.F_all_ways.kp T.b_all_ways pass0 (fun _ => rfl) (pam_cons (pm_var 2) pam_nil) (hA := (an_cons an_nil))) pam_nil)))))
  (psm_one (psm_ret (pm_pop (pm_bin opm_add (pm_var 1) (pm_lstV (pam_cons (pm_var 0) pam_nil))))))))
theorem w_places (T : Tp w K mg) : FnOk P w K mg base CX0 72 T.a_places T.fd_places ["way"] (spM K 1 M_places) :=
  okMV (N := N_places) T.F_places sc_places rfl fun cdv A outer s H E hr =>
  (psm_one (psm_ret (pm_callTy cam_tuple rfl T.z_tuple bb_tuple (pam_cons (pm_pop (pm_lc (own := [("one", 1)]) rfl sc_places.nd (pim_any (pm_call (w_all_ways (base := base) T 70) (hr.mono (by omega)) rfl T.m_all_ways T.F_all_ways.kp T.b_all_ways pass0 (fun _ => rfl) (pam_cons (pm_var 0) pam_nil) (hA := (an_cons an_nil)))) (blkOk_by (N := N_places) (sc := (defScope s_places)) (by decide +kernel)) (fun _ _ _ _ _ => (pgm_name 1 sc_places.nd rfl (Or.inl rfl))) (fun _ _ _ _ _ => ptsm_nil) (fun _ _ _ _ _ => (pm_tup (pam_cons (pm_ix (pm_ix (pm_var 1) pm_int) (pm_un unm_neg pm_int)) (pam_cons (pm_ix (pm_var 1) pm_int) pam_nil)))))) pam_nil))))
theorem w__law_house_of (T : Tp w K mg) : FnOk P w K mg base CX0 1 T.a__law_house_of T.fd__law_house_of ["_law_rows", "_law_stay"] (spM K 2 M_house_of) :=
  okMV (N := N__law_house_of) T.F__law_house_of sc__law_house_of rfl fun cdv A outer s H E hr =>
  (psm_one (psm_ret (pm_ifExp (ptm_val (pm_callB cam_isi rfl T.z_isinstance bb_isinstance (pam_cons (pm_ix (pm_var 1) pm_int) (pam_cons (pm_ty rfl T.z_str bb_str) pam_nil)))) (pm_bm PySem.F.plainAttrs_list PySem.F.slot_list_index PySem.F.type_list_index (mtm_index hr.units65) (pm_var 0) (pam_cons (pm_ix (pm_var 1) pm_int) pam_nil)) (pm_ix (pm_var 1) pm_int))))
theorem w_losses (T : Tp w K mg) : FnOk P w K mg base CX0 1 T.a_losses T.fd_losses ["ground", "path"] (spM K 2 M_losses) :=
  okMV (N := N_losses) T.F_losses sc_losses rfl fun cdv A outer s H E hr =>
  (psm_one (psm_ret (pm_callB cam_len rfl T.z_len bb_len (pam_cons (pm_pop (pm_lc (own := [("stay", 2)]) rfl sc_losses.nd (pim_any (pm_pop (pm_slice (pm_var 1) pom_none (pom_some (pm_un unm_neg pm_int))))) (blkOk_by (N := N_losses) (sc := (defScope s_losses)) (by decide +kernel)) (fun _ _ _ _ _ => (pgm_name 2 sc_losses.nd rfl (Or.inl rfl))) (fun _ _ _ _ _ => (ptsm_one (ptm_cmp (opm_eq hr.units) (pm_callB cam_len rfl T.z_len bb_len (pam_cons (pm_ix (pm_ix (pm_var 0) (pm_var 2)) pm_int) pam_nil)) pm_int))) (fun _ _ _ _ _ => (pm_var 2)))) pam_nil))))
theorem w_counted (T : Tp w K mg) : FnOk P w K mg base CX0 72 T.a_counted T.fd_counted ["ground", "way"] (spM K 2 M_counted) :=
  okMV (N := N_counted) T.F_counted sc_counted rfl fun cdv A outer s H E hr =>
  (psm_cons (psm_set 2 sc_counted.nd rfl (Or.inl rfl) (pm_call (w_all_ways (base := base) T 70) (hr.mono (by omega)) rfl T.m_all_ways T.F_all_ways.kp T.b_all_ways pass0 (fun _ => rfl) (pam_cons (pm_var 1) pam_nil) (hA := (an_cons an_nil))))
  (psm_cons (psm_set 3 sc_counted.nd rfl (Or.inr rfl) (pm_pop (pm_lc (own := [("one", 4)]) rfl sc_counted.nd (pim_any (pm_var 2)) (blkOk_by (N := N_counted) (sc := (defScope s_counted)) (by decide +kernel)) (fun _ _ _ _ _ => (pgm_name 4 sc_counted.nd rfl (Or.inl rfl))) (fun _ _ _ _ _ => ptsm_nil) (fun _ _ _ _ _ => (pm_ix (pm_var 4) pm_int)))))
  (psm_one (psm_ret (pm_callTy cam_tuple rfl T.z_tuple bb_tuple (pam_cons (pm_pop (pm_bin opm_add (pm_pop (pm_lc (own := [("deed", 5)]) rfl sc_counted.nd (pim_any (pm_c (pe_glob (v := .ref T.A_COUNTED) rfl T.c_COUNTED rfl) fun _ _ => T.r_COUNTED.rp _ _)) (blkOk_by (N := N_counted) (sc := (defScope s_counted)) (by decide +kernel)) (fun _ _ _ _ _ => (pgm_name 5 sc_counted.nd rfl (Or.inl rfl))) (fun _ _ _ _ _ => ptsm_nil) (fun _ _ _ _ _ => (pm_bm PySem.F.plainAttrs_list PySem.F.slot_list_count PySem.F.type_list_count (mtm_count hr.units65) (pm_var 3) (pam_cons (pm_var 5) pam_nil))))) (pm_lstV (pam_cons (pm_callB (cam_sum rfl) rfl T.z_sum bb_sum (pam_cons (pm_pop (pm_lc (own := [("one", 4)]) rfl sc_counted.nd (pim_any (pm_var 2)) (blkOk_by (N := N_counted) (sc := (defScope s_counted)) (by decide +kernel)) (fun _ _ _ _ _ => (pgm_name 4 sc_counted.nd rfl (Or.inl rfl))) (fun _ _ _ _ _ => ptsm_nil) (fun _ _ _ _ _ => (pm_call (w_losses (base := base) T) (hr.mono (by omega)) rfl T.m_losses T.F_losses.kp T.b_losses pass0 (fun _ => rfl) (pam_cons (pm_var 0) (pam_cons (pm_ix (pm_var 4) pm_int) pam_nil)) (hA := (an_cons (an_cons an_nil))))))) pam_nil)) pam_nil)))) pam_nil))))))
theorem w_law (T : Tp w K mg) : FnOk P w K mg base CX0 76 T.a_law T.fd_law ["_law_script"] (spM K 1 M_law_k24) :=
  okM (N := N_law) T.F_law sc_law rfl fun cdv A outer s H E hr =>
  (psm_cons (psm_for PassesOwn.never rfl (pim_range1 rfl T.z_range (pam_cons (pm_callB (cam_max rfl) rfl T.z_max bb_max (pam_cons pm_int (pam_cons (pm_callB (cam_min rfl) rfl T.z_min bb_min (pam_cons (pm_callB cam_len rfl T.z_len bb_len (pam_cons (pm_var 0) pam_nil)) (pam_cons pm_int pam_nil))) pam_nil))) pam_nil)) (pgm_name 1 sc_law.nd rfl (Or.inl rfl)) (psm_trim (psm_cons (psm_set 2 sc_law.nd rfl (Or.inl rfl) (pm_call (w__law_pot (base := base) T) (hr.mono (by omega)) rfl T.m__law_pot T.F__law_pot.kp T.b__law_pot pass0 (fun _ => rfl) (pam_cons (pm_var 0) (pam_cons (pm_var 1) pam_nil)) (hA := (an_cons (an_cons an_nil)))))
  (psm_cons (psm_set 3 sc_law.nd rfl (Or.inl rfl) (pm_call (w__law_great (base := base) T) (hr.mono (by omega)) rfl T.m__law_great T.F__law_great.kp T.b__law_great pass0 (fun _ => rfl) (pam_cons (pm_var 2) pam_nil) (hA := (an_cons an_nil))))
  (psm_cons (psm_asg (pm_tup (pam_cons (pm_call (w__law_called (base := base) T 70) (hr.mono (by omega)) rfl T.m__law_called T.F__law_called.kp T.b__law_called pass0 (fun _ => rfl) (pam_cons (pm_var 3) (pam_cons pm_int pam_nil)) (hA := (an_cons (an_cons an_nil)))) (pam_cons (pm_call (w__law_numbers (base := base) T 70) (hr.mono (by omega)) rfl T.m__law_numbers T.F__law_numbers.kp T.b__law_numbers pass0 (fun _ => rfl) (pam_cons (pm_var 3) (pam_cons pm_int pam_nil)) (hA := (an_cons (an_cons an_nil)))) pam_nil))) (pgm_tup rfl (pgms_cons (pgm_name 4 sc_law.nd rfl (Or.inl rfl)) (pgms_cons (pgm_name 5 sc_law.nd rfl (Or.inr rfl)) pgms_nil))))
  (psm_cons (psm_asg (pm_tup (pam_cons (pm_call (w__law_nodes (base := base) T 70) (hr.mono (by omega)) rfl T.m__law_nodes T.F__law_nodes.kp T.b__law_nodes pass0 (fun _ => rfl) (pam_cons (pm_var 3) pam_nil) (hA := (an_cons an_nil))) (pam_cons (pm_call (w__law_nodes (base := base) T 70) (hr.mono (by omega)) rfl T.m__law_nodes T.F__law_nodes.kp T.b__law_nodes pass0 (fun _ => rfl) (pam_cons (pm_var 4) pam_nil) (hA := (an_cons an_nil))) pam_nil))) (pgm_tup rfl (pgms_cons (pgm_name 6 sc_law.nd rfl (Or.inr rfl)) (pgms_cons (pgm_name 7 sc_law.nd rfl (Or.inr rfl)) pgms_nil))))
  (psm_cons (psm_par 8 9 rfl sc_law.nd rfl rfl (by decide) rfl rfl (pm_call (w_ground (base := base) T) (hr.mono (by omega)) rfl T.m_ground T.F_ground.kp T.b_ground pass0 (fun _ => rfl) (pam_cons (pm_var 3) pam_nil) (hA := (an_cons an_nil))) (pm_call (w_ground (base := base) T) (hr.mono (by omega)) rfl T.m_ground T.F_ground.kp T.b_ground pass0 (fun _ => rfl) (pam_cons (pm_var 4) pam_nil) (hA := (an_cons an_nil))) (by rfl))
  (psm_cons (psm_if (ptm_cmp (opm_eq hr.units) (pm_call (w__law_take (base := base) T) (hr.mono (by omega)) rfl T.m__law_take T.F__law_take.kp T.b__law_take pass0 (fun _ => rfl) (pam_cons (pm_var 2) (pam_cons pm_int pam_nil)) (hA := (an_cons (an_cons an_nil)))) pm_int) (psm_cons (psm_set 10 sc_law.nd rfl (Or.inr rfl) (pm_call (w__law_dates (base := base) T) (hr.mono (by omega)) rfl T.m__law_dates T.F__law_dates.kp T.b__law_dates pass0 (fun _ => rfl) (pam_cons (pm_var 2) (pam_cons (pm_var 6) pam_nil)) (hA := (an_cons (an_cons an_nil)))))
  (psm_one (psm_par 8 9 rfl sc_law.nd rfl rfl (by decide) rfl rfl (pm_call (w_dated (base := base) T) (hr.mono (by omega)) rfl T.m_dated T.F_dated.kp T.b_dated pass0 (fun _ => rfl) (pam_cons (pm_var 3) (pam_cons (pm_var 10) pam_nil)) (hA := (an_cons (an_cons an_nil)))) (pm_call (w_dated (base := base) T) (hr.mono (by omega)) rfl T.m_dated T.F_dated.kp T.b_dated pass0 (fun _ => rfl) (pam_cons (pm_var 4) (pam_cons (pm_callTy cam_tuple rfl T.z_tuple bb_tuple (pam_cons (pm_pop (pm_lc (own := [("_law_house", 16)]) rfl sc_law.nd (pim_any (pm_var 5)) (blkOk_by (N := N_law) (sc := (defScope s_law)) (by decide +kernel)) (fun _ _ _ _ _ => (pgm_name 16 sc_law.nd rfl (Or.inl rfl))) (fun _ _ _ _ _ => ptsm_nil) (fun _ _ _ _ _ => (pm_ix (pm_var 10) (pm_var 16))))) pam_nil)) pam_nil)) (hA := (an_cons (an_cons an_nil)))) (by rfl)))) psm_nil)
  (psm_cons (psm_set 11 sc_law.nd rfl (Or.inr rfl) (pm_pop (pm_lc (own := [("_law_stay", 17)]) rfl sc_law.nd (pim_any (pm_var 9)) (blkOk_by (N := N_law) (sc := (defScope s_law)) (by decide +kernel)) (fun _ _ _ _ _ => (pgm_name 17 sc_law.nd rfl (Or.inl rfl))) (fun _ _ _ _ _ => ptsm_nil) (fun _ _ _ _ _ => (pm_tup (pam_cons (pm_ix (pm_var 5) (pm_call (w__law_house_of (base := base) T) (hr.mono (by omega)) rfl T.m__law_house_of T.F__law_house_of.kp T.b__law_house_of pass0 (fun _ => rfl) (pam_cons (pm_var 7) (pam_cons (pm_var 17) pam_nil)) (hA := (an_cons (an_cons an_nil))))) (pam_cons (pm_ix (pm_var 17) pm_int) pam_nil)))))))
  (psm_cons (psm_set 12 sc_law.nd rfl (Or.inr rfl) (pm_pop (pm_lc (own := [("_law_stay", 17)]) rfl sc_law.nd (pim_any (pm_var 8)) (blkOk_by (N := N_law) (sc := (defScope s_law)) (by decide +kernel)) (fun _ _ _ _ _ => (pgm_name 17 sc_law.nd rfl (Or.inl rfl))) (fun _ _ _ _ _ => ptsm_nil) (fun _ _ _ _ _ => (pm_bm PySem.F.plainAttrs_list PySem.F.slot_list_index PySem.F.type_list_index (mtm_index hr.units65) (pm_var 11) (pam_cons (pm_tup (pam_cons (pm_call (w__law_house_of (base := base) T) (hr.mono (by omega)) rfl T.m__law_house_of T.F__law_house_of.kp T.b__law_house_of pass0 (fun _ => rfl) (pam_cons (pm_var 6) (pam_cons (pm_var 17) pam_nil)) (hA := (an_cons (an_cons an_nil)))) (pam_cons (pm_ix (pm_var 17) pm_int) pam_nil))) pam_nil))))))
  (psm_cons (psm_set 13 sc_law.nd rfl (Or.inl rfl) (pm_call (w__law_small (base := base) T) (hr.mono (by omega)) rfl T.m__law_small T.F__law_small.kp T.b__law_small pass0 (fun _ => rfl) (pam_cons (pm_var 2) (pam_cons (pm_var 3) pam_nil)) (hA := (an_cons (an_cons an_nil)))))
  (psm_cons (psm_set 14 sc_law.nd rfl (Or.inl rfl) (pm_call (w__law_whole_way (base := base) T) (hr.mono (by omega)) rfl T.m__law_whole_way T.F__law_whole_way.kp T.b__law_whole_way pass0 (fun _ => rfl) (pam_cons (pm_var 2) (pam_cons (pm_var 8) (pam_cons (pm_var 13) pam_nil))) (hA := (an_cons (an_cons (an_cons an_nil))))))
  (psm_cons (psm_set 15 sc_law.nd rfl (Or.inl rfl) (pm_call (w__law_moved (base := base) T 70) (hr.mono (by omega)) rfl T.m__law_moved T.F__law_moved.kp T.b__law_moved pass0 (fun _ => rfl) (pam_cons (pm_var 14) (pam_cons (pm_var 12) pam_nil)) (hA := (an_cons (an_cons an_nil)))))
  (psm_cons (psm_if (PW.pt (pwm_or (ptm_cmp opm_isNot (pm_call (w_is_way (base := base) T) (hr.mono (by omega)) rfl T.m_is_way T.F_is_way.kp T.b_is_way pass0 (fun _ => rfl) (pam_cons (pm_var 8) (pam_cons (pm_var 13) (pam_cons (pm_var 14) pam_nil))) (hA := (an_cons (an_cons (an_cons an_nil))))) pm_bl) (pwm_or1 (ptm_cmp opm_isNot (pm_call (w_is_way (base := base) T) (hr.mono (by omega)) rfl T.m_is_way T.F_is_way.kp T.b_is_way pass0 (fun _ => rfl) (pam_cons (pm_var 9) (pam_cons (pm_call (w__law_called (base := base) T 70) (hr.mono (by omega)) rfl T.m__law_called T.F__law_called.kp T.b__law_called pass0 (fun _ => rfl) (pam_cons (pm_var 13) (pam_cons pm_int pam_nil)) (hA := (an_cons (an_cons an_nil)))) (pam_cons (pm_var 15) pam_nil))) (hA := (an_cons (an_cons (an_cons an_nil))))) pm_bl)))) (psm_one (psm_ret pm_bl)) psm_nil)
  (psm_cons (psm_if (PW.pt (pwm_or (ptm_not (ptm_val (pm_call (w__law_same (base := base) T 70) (hr.mono (by omega)) rfl T.m__law_same T.F__law_same.kp T.b__law_same pass0 (fun _ => rfl) (pam_cons (pm_call (w_counted (base := base) T) (hr.mono (by omega)) rfl T.m_counted T.F_counted.kp T.b_counted pass0 (fun _ => rfl) (pam_cons (pm_var 9) (pam_cons (pm_var 15) pam_nil)) (hA := (an_cons (an_cons an_nil)))) (pam_cons (pm_call (w_counted (base := base) T) (hr.mono (by omega)) rfl T.m_counted T.F_counted.kp T.b_counted pass0 (fun _ => rfl) (pam_cons (pm_var 8) (pam_cons (pm_var 14) pam_nil)) (hA := (an_cons (an_cons an_nil)))) pam_nil)) (hA := (an_cons (an_cons an_nil)))))) (pwm_or1 (ptm_cmp (opm_ne hr.units) (pm_callB cam_len rfl T.z_len bb_len (pam_cons (pm_var 9) pam_nil)) (pm_callB cam_len rfl T.z_len bb_len (pam_cons (pm_var 8) pam_nil)))))) (psm_one (psm_ret pm_bl)) psm_nil)
  (psm_one (psm_if (ptm_not (ptm_val (pm_call (w__law_same (base := base) T 70) (hr.mono (by omega)) rfl T.m__law_same T.F__law_same.kp T.b__law_same pass0 (fun _ => rfl) (pam_cons (pm_call (w_places (base := base) T) (hr.mono (by omega)) rfl T.m_places T.F_places.kp T.b_places pass0 (fun _ => rfl) (pam_cons (pm_var 15) pam_nil) (hA := (an_cons an_nil))) (pam_cons (pm_callTy cam_tuple rfl T.z_tuple bb_tuple (pam_cons (pm_pop (pm_lc (own := [("_law_stay", 17), ("_law_deed", 18)]) rfl sc_law.nd (pim_any (pm_call (w_places (base := base) T) (hr.mono (by omega)) rfl T.m_places T.F_places.kp T.b_places pass0 (fun _ => rfl) (pam_cons (pm_var 14) pam_nil) (hA := (an_cons an_nil)))) (blkOk_by (N := N_law) (sc := (defScope s_law)) (by decide +kernel)) (fun _ _ _ _ _ => (pgm_tup rfl (pgms_cons (pgm_name 17 sc_law.nd rfl (Or.inl rfl)) (pgms_cons (pgm_name 18 sc_law.nd rfl (Or.inl rfl)) pgms_nil)))) (fun _ _ _ _ _ => ptsm_nil) (fun _ _ _ _ _ => (pm_tup (pam_cons (pm_ix (pm_var 12) (pm_var 17)) (pam_cons (pm_var 18) pam_nil)))))) pam_nil)) pam_nil)) (hA := (an_cons (an_cons an_nil)))))) (psm_one (psm_ret pm_bl)) psm_nil)))))))))))))))))
  (psm_one (psm_ret pm_bl)))
end
theorem all_mk {l : PySem.W.OpenLaw} {w : World} {K : PySem.W.Frag} {h : Heap} {mg : Str → Option Value} {fa : Addr} (X : K.In h) (G : h.Ns mainGlobals mg) (hfa : mg "law" = some (.ref fa))
    {f0 f1 f2 f3 f4 f5 f6 f7 f8 f9 f10 f11 f12 f13 f14 f15 f16 f17 f18 f19 f20 f21 f22 f23 f24 f25 f26 f27 f28 f29 f30 f31 f32 f33 f34 f35 f36 f37 f38 f39 f40 f41 f42 f43 f44 f45 : Addr} {od0 an0 od1 an1 od2 an2 od3 an3 od4 an4 od5 an5 od6 an6 od7 an7 od8 an8 od9 an9 od10 an10 od11 an11 od12 an12 od13 an13 od14 an14 od15 an15 od16 an16 od17 an17 od18 an18 od19 an19 od20 an20 od21 an21 od22 an22 od23 an23 od24 an24 od25 an25 od26 an26 od27 an27 od28 an28 od29 an29 od30 an30 od31 an31 od32 an32 od33 an33 od34 an34 od35 an35 od36 an36 od37 an37 od38 an38 od39 an39 od40 an40 od41 an41 od42 an42 od43 an43 od44 an44 od45 an45 : Option Addr} {sl0 sl1 sl2 sl3 sl4 sl5 sl6 sl7 sl8 sl9 sl10 sl11 sl12 sl13 sl14 sl15 sl16 sl17 sl18 sl19 sl20 sl21 sl22 sl23 sl24 sl25 sl26 sl27 sl28 sl29 sl30 sl31 sl32 sl33 sl34 sl35 sl36 sl37 sl38 sl39 sl40 sl41 sl42 sl43 sl44 sl45 : Array (Option Value)} {oc0 kV0 dc0 pm0 cd0 ct0 oc1 kV1 dc1 pm1 cd1 ct1 oc2 kV2 dc2 pm2 cd2 ct2 oc3 kV3 dc3 pm3 cd3 ct3 oc4 kV4 dc4 pm4 cd4 ct4 oc5 kV5 dc5 pm5 cd5 ct5 oc6 kV6 dc6 pm6 cd6 ct6 oc7 kV7 dc7 pm7 cd7 ct7 oc8 kV8 dc8 pm8 cd8 ct8 oc9 kV9 dc9 pm9 cd9 ct9 oc10 kV10 dc10 pm10 cd10 ct10 oc11 kV11 dc11 pm11 cd11 ct11 oc12 kV12 dc12 pm12 cd12 ct12 oc13 kV13 dc13 pm13 cd13 ct13 oc14 kV14 dc14 pm14 cd14 ct14 oc15 kV15 dc15 pm15 cd15 ct15 oc16 kV16 dc16 pm16 cd16 ct16 oc17 kV17 dc17 pm17 cd17 ct17 oc18 kV18 dc18 pm18 cd18 ct18 oc19 kV19 dc19 pm19 cd19 ct19 oc20 kV20 dc20 pm20 cd20 ct20 oc21 kV21 dc21 pm21 cd21 ct21 oc22 kV22 dc22 pm22 cd22 ct22 oc23 kV23 dc23 pm23 cd23 ct23 oc24 kV24 dc24 pm24 cd24 ct24 oc25 kV25 dc25 pm25 cd25 ct25 oc26 kV26 dc26 pm26 cd26 ct26 oc27 kV27 dc27 pm27 cd27 ct27 oc28 kV28 dc28 pm28 cd28 ct28 oc29 kV29 dc29 pm29 cd29 ct29 oc30 kV30 dc30 pm30 cd30 ct30 oc31 kV31 dc31 pm31 cd31 ct31 oc32 kV32 dc32 pm32 cd32 ct32 oc33 kV33 dc33 pm33 cd33 ct33 oc34 kV34 dc34 pm34 cd34 ct34 oc35 kV35 dc35 pm35 cd35 ct35 oc36 kV36 dc36 pm36 cd36 ct36 oc37 kV37 dc37 pm37 cd37 ct37 oc38 kV38 dc38 pm38 cd38 ct38 oc39 kV39 dc39 pm39 cd39 ct39 oc40 kV40 dc40 pm40 cd40 ct40 oc41 kV41 dc41 pm41 cd41 ct41 oc42 kV42 dc42 pm42 cd42 ct42 oc43 kV43 dc43 pm43 cd43 ct43 oc44 kV44 dc44 pm44 cd44 ct44 oc45 kV45 dc45 pm45 cd45 ct45 : Value}
    {A_COUNTED : Addr} {dd_COUNTED : Option Addr} {n_COUNTED : Nat} {sl_COUNTED : Array (Option Value)} {t0_COUNTED t1_COUNTED t2_COUNTED : Tok}
    {C_Slices : Addr}
    (aC_Slices : PySem.W.nsIn K mainGlobals "Slices" = some (some (.ref C_Slices)))
    (a0 : PySem.W.nsIn K mainGlobals "_law_pot" = some (some (.ref f0)))
    (l0 : K.lookup f0 = some ⟨oc0, od0, .func (PySem.W.fnOf "_law_pot" "_law_pot" (defArgs s__law_pot) (defBody s__law_pot) (defScope s__law_pot) .none kV0 dc0 pm0 an0 cd0 ct0), sl0⟩) (c0 : PySem.W.codeIn K cd0 "_law_pot" = true) (k0 : PySem.W.keepIn K (.ref f0) = true)
    (a1 : PySem.W.nsIn K mainGlobals "_law_take" = some (some (.ref f1)))
    (l1 : K.lookup f1 = some ⟨oc1, od1, .func (PySem.W.fnOf "_law_take" "_law_take" (defArgs s__law_take) (defBody s__law_take) (defScope s__law_take) .none kV1 dc1 pm1 an1 cd1 ct1), sl1⟩) (c1 : PySem.W.codeIn K cd1 "_law_take" = true) (k1 : PySem.W.keepIn K (.ref f1) = true)
    (a2 : PySem.W.nsIn K mainGlobals "_law_tree" = some (some (.ref f2)))
    (l2 : K.lookup f2 = some ⟨oc2, od2, .func (PySem.W.fnOf "_law_tree" "_law_tree" (defArgs s__law_tree) (defBody s__law_tree) (defScope s__law_tree) .none kV2 dc2 pm2 an2 cd2 ct2), sl2⟩) (c2 : PySem.W.codeIn K cd2 "_law_tree" = true) (k2 : PySem.W.keepIn K (.ref f2) = true)
    (a3 : PySem.W.nsIn K mainGlobals "_law_words" = some (some (.ref f3)))
    (l3 : K.lookup f3 = some ⟨oc3, od3, .func (PySem.W.fnOf "_law_words" "_law_words" (defArgs s__law_words) (defBody s__law_words) (defScope s__law_words) .none kV3 dc3 pm3 an3 cd3 ct3), sl3⟩) (c3 : PySem.W.codeIn K cd3 "_law_words" = true) (k3 : PySem.W.keepIn K (.ref f3) = true)
    (a4 : PySem.W.nsIn K mainGlobals "_law_great" = some (some (.ref f4)))
    (l4 : K.lookup f4 = some ⟨oc4, od4, .func (PySem.W.fnOf "_law_great" "_law_great" (defArgs s__law_great) (defBody s__law_great) (defScope s__law_great) .none kV4 dc4 pm4 an4 cd4 ct4), sl4⟩) (c4 : PySem.W.codeIn K cd4 "_law_great" = true) (k4 : PySem.W.keepIn K (.ref f4) = true)
    (a5 : PySem.W.nsIn K mainGlobals "_law_nodes" = some (some (.ref f5)))
    (l5 : K.lookup f5 = some ⟨oc5, od5, .func (PySem.W.fnOf "_law_nodes" "_law_nodes" (defArgs s__law_nodes) (defBody s__law_nodes) (defScope s__law_nodes) .none kV5 dc5 pm5 an5 cd5 ct5), sl5⟩) (c5 : PySem.W.codeIn K cd5 "_law_nodes" = true) (k5 : PySem.W.keepIn K (.ref f5) = true)
    (a6 : PySem.W.nsIn K mainGlobals "_law_pick" = some (some (.ref f6)))
    (l6 : K.lookup f6 = some ⟨oc6, od6, .func (PySem.W.fnOf "_law_pick" "_law_pick" (defArgs s__law_pick) (defBody s__law_pick) (defScope s__law_pick) .none kV6 dc6 pm6 an6 cd6 ct6), sl6⟩) (c6 : PySem.W.codeIn K cd6 "_law_pick" = true) (k6 : PySem.W.keepIn K (.ref f6) = true)
    (a7 : PySem.W.nsIn K mainGlobals "_law_small" = some (some (.ref f7)))
    (l7 : K.lookup f7 = some ⟨oc7, od7, .func (PySem.W.fnOf "_law_small" "_law_small" (defArgs s__law_small) (defBody s__law_small) (defScope s__law_small) .none kV7 dc7 pm7 an7 cd7 ct7), sl7⟩) (c7 : PySem.W.codeIn K cd7 "_law_small" = true) (k7 : PySem.W.keepIn K (.ref f7) = true)
    (a8 : PySem.W.nsIn K mainGlobals "_law_deeds" = some (some (.ref f8)))
    (l8 : K.lookup f8 = some ⟨oc8, od8, .func (PySem.W.fnOf "_law_deeds" "_law_deeds" (defArgs s__law_deeds) (defBody s__law_deeds) (defScope s__law_deeds) .none kV8 dc8 pm8 an8 cd8 ct8), sl8⟩) (c8 : PySem.W.codeIn K cd8 "_law_deeds" = true) (k8 : PySem.W.keepIn K (.ref f8) = true)
    (a9 : PySem.W.nsIn K mainGlobals "_law_done" = some (some (.ref f9)))
    (l9 : K.lookup f9 = some ⟨oc9, od9, .func (PySem.W.fnOf "_law_done" "_law_done" (defArgs s__law_done) (defBody s__law_done) (defScope s__law_done) .none kV9 dc9 pm9 an9 cd9 ct9), sl9⟩) (c9 : PySem.W.codeIn K cd9 "_law_done" = true) (k9 : PySem.W.keepIn K (.ref f9) = true)
    (a10 : PySem.W.nsIn K mainGlobals "_law_can" = some (some (.ref f10)))
    (l10 : K.lookup f10 = some ⟨oc10, od10, .func (PySem.W.fnOf "_law_can" "_law_can" (defArgs s__law_can) (defBody s__law_can) (defScope s__law_can) .none kV10 dc10 pm10 an10 cd10 ct10), sl10⟩) (c10 : PySem.W.codeIn K cd10 "_law_can" = true) (k10 : PySem.W.keepIn K (.ref f10) = true)
    (a11 : PySem.W.nsIn K mainGlobals "_law_path" = some (some (.ref f11)))
    (l11 : K.lookup f11 = some ⟨oc11, od11, .func (PySem.W.fnOf "_law_path" "_law_path" (defArgs s__law_path) (defBody s__law_path) (defScope s__law_path) .none kV11 dc11 pm11 an11 cd11 ct11), sl11⟩) (c11 : PySem.W.codeIn K cd11 "_law_path" = true) (k11 : PySem.W.keepIn K (.ref f11) = true)
    (a12 : PySem.W.nsIn K mainGlobals "_law_way" = some (some (.ref f12)))
    (l12 : K.lookup f12 = some ⟨oc12, od12, .func (PySem.W.fnOf "_law_way" "_law_way" (defArgs s__law_way) (defBody s__law_way) (defScope s__law_way) .none kV12 dc12 pm12 an12 cd12 ct12), sl12⟩) (c12 : PySem.W.codeIn K cd12 "_law_way" = true) (k12 : PySem.W.keepIn K (.ref f12) = true)
    (a13 : PySem.W.nsIn K mainGlobals "_law_whole_way" = some (some (.ref f13)))
    (l13 : K.lookup f13 = some ⟨oc13, od13, .func (PySem.W.fnOf "_law_whole_way" "_law_whole_way" (defArgs s__law_whole_way) (defBody s__law_whole_way) (defScope s__law_whole_way) .none kV13 dc13 pm13 an13 cd13 ct13), sl13⟩) (c13 : PySem.W.codeIn K cd13 "_law_whole_way" = true) (k13 : PySem.W.keepIn K (.ref f13) = true)
    (a14 : PySem.W.nsIn K mainGlobals "_law_moved" = some (some (.ref f14)))
    (l14 : K.lookup f14 = some ⟨oc14, od14, .func (PySem.W.fnOf "_law_moved" "_law_moved" (defArgs s__law_moved) (defBody s__law_moved) (defScope s__law_moved) .none kV14 dc14 pm14 an14 cd14 ct14), sl14⟩) (c14 : PySem.W.codeIn K cd14 "_law_moved" = true) (k14 : PySem.W.keepIn K (.ref f14) = true)
    (a15 : PySem.W.nsIn K mainGlobals "_law_called" = some (some (.ref f15)))
    (l15 : K.lookup f15 = some ⟨oc15, od15, .func (PySem.W.fnOf "_law_called" "_law_called" (defArgs s__law_called) (defBody s__law_called) (defScope s__law_called) .none kV15 dc15 pm15 an15 cd15 ct15), sl15⟩) (c15 : PySem.W.codeIn K cd15 "_law_called" = true) (k15 : PySem.W.keepIn K (.ref f15) = true)
    (a16 : PySem.W.nsIn K mainGlobals "_law_numbers" = some (some (.ref f16)))
    (l16 : K.lookup f16 = some ⟨oc16, od16, .func (PySem.W.fnOf "_law_numbers" "_law_numbers" (defArgs s__law_numbers) (defBody s__law_numbers) (defScope s__law_numbers) .none kV16 dc16 pm16 an16 cd16 ct16), sl16⟩) (c16 : PySem.W.codeIn K cd16 "_law_numbers" = true) (k16 : PySem.W.keepIn K (.ref f16) = true)
    (a17 : PySem.W.nsIn K mainGlobals "put_nodes" = some (some (.ref f17)))
    (l17 : K.lookup f17 = some ⟨oc17, od17, .func (PySem.W.fnOf "put_nodes" "put_nodes" (defArgs s_put_nodes) (defBody s_put_nodes) (defScope s_put_nodes) .none kV17 dc17 pm17 an17 cd17 ct17), sl17⟩) (c17 : PySem.W.codeIn K cd17 "put_nodes" = true) (k17 : PySem.W.keepIn K (.ref f17) = true)
    (a18 : PySem.W.nsIn K mainGlobals "nodes" = some (some (.ref f18)))
    (l18 : K.lookup f18 = some ⟨oc18, od18, .func (PySem.W.fnOf "nodes" "nodes" (defArgs s_nodes) (defBody s_nodes) (defScope s_nodes) .none kV18 dc18 pm18 an18 cd18 ct18), sl18⟩) (c18 : PySem.W.codeIn K cd18 "nodes" = true) (k18 : PySem.W.keepIn K (.ref f18) = true)
    (a19 : PySem.W.nsIn K mainGlobals "ahead_of" = some (some (.ref f19)))
    (l19 : K.lookup f19 = some ⟨oc19, od19, .func (PySem.W.fnOf "ahead_of" "ahead_of" (defArgs s_ahead_of) (defBody s_ahead_of) (defScope s_ahead_of) .none kV19 dc19 pm19 an19 cd19 ct19), sl19⟩) (c19 : PySem.W.codeIn K cd19 "ahead_of" = true) (k19 : PySem.W.keepIn K (.ref f19) = true)
    (a20 : PySem.W.nsIn K mainGlobals "line_up" = some (some (.ref f20)))
    (l20 : K.lookup f20 = some ⟨oc20, od20, .func (PySem.W.fnOf "line_up" "line_up" (defArgs s_line_up) (defBody s_line_up) (defScope s_line_up) .none kV20 dc20 pm20 an20 cd20 ct20), sl20⟩) (c20 : PySem.W.codeIn K cd20 "line_up" = true) (k20 : PySem.W.keepIn K (.ref f20) = true)
    (a21 : PySem.W.nsIn K mainGlobals "name_of" = some (some (.ref f21)))
    (l21 : K.lookup f21 = some ⟨oc21, od21, .func (PySem.W.fnOf "name_of" "name_of" (defArgs s_name_of) (defBody s_name_of) (defScope s_name_of) .none kV21 dc21 pm21 an21 cd21 ct21), sl21⟩) (c21 : PySem.W.codeIn K cd21 "name_of" = true) (k21 : PySem.W.keepIn K (.ref f21) = true)
    (a22 : PySem.W.nsIn K mainGlobals "straight_under" = some (some (.ref f22)))
    (l22 : K.lookup f22 = some ⟨oc22, od22, .func (PySem.W.fnOf "straight_under" "straight_under" (defArgs s_straight_under) (defBody s_straight_under) (defScope s_straight_under) .none kV22 dc22 pm22 an22 cd22 ct22), sl22⟩) (c22 : PySem.W.codeIn K cd22 "straight_under" = true) (k22 : PySem.W.keepIn K (.ref f22) = true)
    (a23 : PySem.W.nsIn K mainGlobals "ground" = some (some (.ref f23)))
    (l23 : K.lookup f23 = some ⟨oc23, od23, .func (PySem.W.fnOf "ground" "ground" (defArgs s_ground) (defBody s_ground) (defScope s_ground) .none kV23 dc23 pm23 an23 cd23 ct23), sl23⟩) (c23 : PySem.W.codeIn K cd23 "ground" = true) (k23 : PySem.W.keepIn K (.ref f23) = true)
    (a24 : PySem.W.nsIn K mainGlobals "_law_dates" = some (some (.ref f24)))
    (l24 : K.lookup f24 = some ⟨oc24, od24, .func (PySem.W.fnOf "_law_dates" "_law_dates" (defArgs s__law_dates) (defBody s__law_dates) (defScope s__law_dates) .none kV24 dc24 pm24 an24 cd24 ct24), sl24⟩) (c24 : PySem.W.codeIn K cd24 "_law_dates" = true) (k24 : PySem.W.keepIn K (.ref f24) = true)
    (a25 : PySem.W.nsIn K mainGlobals "_law_same" = some (some (.ref f25)))
    (l25 : K.lookup f25 = some ⟨oc25, od25, .func (PySem.W.fnOf "_law_same" "_law_same" (defArgs s__law_same) (defBody s__law_same) (defScope s__law_same) .none kV25 dc25 pm25 an25 cd25 ct25), sl25⟩) (c25 : PySem.W.codeIn K cd25 "_law_same" = true) (k25 : PySem.W.keepIn K (.ref f25) = true)
    (a26 : PySem.W.nsIn K mainGlobals "inner_dates" = some (some (.ref f26)))
    (l26 : K.lookup f26 = some ⟨oc26, od26, .func (PySem.W.fnOf "inner_dates" "inner_dates" (defArgs s_inner_dates) (defBody s_inner_dates) (defScope s_inner_dates) .none kV26 dc26 pm26 an26 cd26 ct26), sl26⟩) (c26 : PySem.W.codeIn K cd26 "inner_dates" = true) (k26 : PySem.W.keepIn K (.ref f26) = true)
    (a27 : PySem.W.findIn K (.ref C_Slices) "first_slice" = some (some (.ref f27))) (i27 : PySem.W.isFn K (.ref f27) = true)
    (l27 : K.lookup f27 = some ⟨oc27, od27, .func (PySem.W.fnOf "first_slice" "Slices.first_slice" (defArgs s_Slices_first_slice) (defBody s_Slices_first_slice) (defScope s_Slices_first_slice) .none kV27 dc27 pm27 an27 cd27 ct27), sl27⟩) (c27 : PySem.W.codeIn K cd27 "Slices.first_slice" = true) (k27 : PySem.W.keepIn K (.ref f27) = true)
    (a28 : PySem.W.findIn K (.ref C_Slices) "last_slice" = some (some (.ref f28))) (i28 : PySem.W.isFn K (.ref f28) = true)
    (l28 : K.lookup f28 = some ⟨oc28, od28, .func (PySem.W.fnOf "last_slice" "Slices.last_slice" (defArgs s_Slices_last_slice) (defBody s_Slices_last_slice) (defScope s_Slices_last_slice) .none kV28 dc28 pm28 an28 cd28 ct28), sl28⟩) (c28 : PySem.W.codeIn K cd28 "Slices.last_slice" = true) (k28 : PySem.W.keepIn K (.ref f28) = true)
    (a29 : PySem.W.findIn K (.ref C_Slices) "__init__" = some (some (.ref f29))) (i29 : PySem.W.isFn K (.ref f29) = true)
    (l29 : K.lookup f29 = some ⟨oc29, od29, .func (PySem.W.fnOf "__init__" "Slices.__init__" (defArgs s_Slices___init__) (defBody s_Slices___init__) (defScope s_Slices___init__) .none kV29 dc29 pm29 an29 cd29 ct29), sl29⟩) (c29 : PySem.W.codeIn K cd29 "Slices.__init__" = true) (k29 : PySem.W.keepIn K (.ref f29) = true)
    (a30 : PySem.W.findIn K (.ref C_Slices) "under_of" = some (some (.ref f30))) (i30 : PySem.W.isFn K (.ref f30) = true)
    (l30 : K.lookup f30 = some ⟨oc30, od30, .func (PySem.W.fnOf "under_of" "Slices.under_of" (defArgs s_Slices_under_of) (defBody s_Slices_under_of) (defScope s_Slices_under_of) .none kV30 dc30 pm30 an30 cd30 ct30), sl30⟩) (c30 : PySem.W.codeIn K cd30 "Slices.under_of" = true) (k30 : PySem.W.keepIn K (.ref f30) = true)
    (a31 : PySem.W.findIn K (.ref C_Slices) "beside_of" = some (some (.ref f31))) (i31 : PySem.W.isFn K (.ref f31) = true)
    (l31 : K.lookup f31 = some ⟨oc31, od31, .func (PySem.W.fnOf "beside_of" "Slices.beside_of" (defArgs s_Slices_beside_of) (defBody s_Slices_beside_of) (defScope s_Slices_beside_of) .none kV31 dc31 pm31 an31 cd31 ct31), sl31⟩) (c31 : PySem.W.codeIn K cd31 "Slices.beside_of" = true) (k31 : PySem.W.keepIn K (.ref f31) = true)
    (a32 : PySem.W.nsIn K mainGlobals "dated" = some (some (.ref f32)))
    (l32 : K.lookup f32 = some ⟨oc32, od32, .func (PySem.W.fnOf "dated" "dated" (defArgs s_dated) (defBody s_dated) (defScope s_dated) .none kV32 dc32 pm32 an32 cd32 ct32), sl32⟩) (c32 : PySem.W.codeIn K cd32 "dated" = true) (k32 : PySem.W.keepIn K (.ref f32) = true)
    (a33 : PySem.W.nsIn K mainGlobals "may_be_done" = some (some (.ref f33)))
    (l33 : K.lookup f33 = some ⟨oc33, od33, .func (PySem.W.fnOf "may_be_done" "may_be_done" (defArgs s_may_be_done) (defBody s_may_be_done) (defScope s_may_be_done) .none kV33 dc33 pm33 an33 cd33 ct33), sl33⟩) (c33 : PySem.W.codeIn K cd33 "may_be_done" = true) (k33 : PySem.W.keepIn K (.ref f33) = true)
    (a34 : PySem.W.nsIn K mainGlobals "is_stay" = some (some (.ref f34)))
    (l34 : K.lookup f34 = some ⟨oc34, od34, .func (PySem.W.fnOf "is_stay" "is_stay" (defArgs s_is_stay) (defBody s_is_stay) (defScope s_is_stay) .none kV34 dc34 pm34 an34 cd34 ct34), sl34⟩) (c34 : PySem.W.codeIn K cd34 "is_stay" = true) (k34 : PySem.W.keepIn K (.ref f34) = true)
    (a35 : PySem.W.nsIn K mainGlobals "is_path" = some (some (.ref f35)))
    (l35 : K.lookup f35 = some ⟨oc35, od35, .func (PySem.W.fnOf "is_path" "is_path" (defArgs s_is_path) (defBody s_is_path) (defScope s_is_path) .none kV35 dc35 pm35 an35 cd35 ct35), sl35⟩) (c35 : PySem.W.codeIn K cd35 "is_path" = true) (k35 : PySem.W.keepIn K (.ref f35) = true)
    (a36 : PySem.W.nsIn K mainGlobals "may_be_found" = some (some (.ref f36)))
    (l36 : K.lookup f36 = some ⟨oc36, od36, .func (PySem.W.fnOf "may_be_found" "may_be_found" (defArgs s_may_be_found) (defBody s_may_be_found) (defScope s_may_be_found) .none kV36 dc36 pm36 an36 cd36 ct36), sl36⟩) (c36 : PySem.W.codeIn K cd36 "may_be_found" = true) (k36 : PySem.W.keepIn K (.ref f36) = true)
    (a37 : PySem.W.nsIn K mainGlobals "is_way_of" = some (some (.ref f37)))
    (l37 : K.lookup f37 = some ⟨oc37, od37, .func (PySem.W.fnOf "is_way_of" "is_way_of" (defArgs s_is_way_of) (defBody s_is_way_of) (defScope s_is_way_of) .none kV37 dc37 pm37 an37 cd37 ct37), sl37⟩) (c37 : PySem.W.codeIn K cd37 "is_way_of" = true) (k37 : PySem.W.keepIn K (.ref f37) = true)
    (a38 : PySem.W.nsIn K mainGlobals "is_way" = some (some (.ref f38)))
    (l38 : K.lookup f38 = some ⟨oc38, od38, .func (PySem.W.fnOf "is_way" "is_way" (defArgs s_is_way) (defBody s_is_way) (defScope s_is_way) .none kV38 dc38 pm38 an38 cd38 ct38), sl38⟩) (c38 : PySem.W.codeIn K cd38 "is_way" = true) (k38 : PySem.W.keepIn K (.ref f38) = true)
    (a39 : PySem.W.nsIn K mainGlobals "parts_of" = some (some (.ref f39)))
    (l39 : K.lookup f39 = some ⟨oc39, od39, .func (PySem.W.fnOf "parts_of" "parts_of" (defArgs s_parts_of) (defBody s_parts_of) (defScope s_parts_of) .none kV39 dc39 pm39 an39 cd39 ct39), sl39⟩) (c39 : PySem.W.codeIn K cd39 "parts_of" = true) (k39 : PySem.W.keepIn K (.ref f39) = true)
    (a40 : PySem.W.nsIn K mainGlobals "all_ways" = some (some (.ref f40)))
    (l40 : K.lookup f40 = some ⟨oc40, od40, .func (PySem.W.fnOf "all_ways" "all_ways" (defArgs s_all_ways) (defBody s_all_ways) (defScope s_all_ways) .none kV40 dc40 pm40 an40 cd40 ct40), sl40⟩) (c40 : PySem.W.codeIn K cd40 "all_ways" = true) (k40 : PySem.W.keepIn K (.ref f40) = true)
    (a41 : PySem.W.nsIn K mainGlobals "places" = some (some (.ref f41)))
    (l41 : K.lookup f41 = some ⟨oc41, od41, .func (PySem.W.fnOf "places" "places" (defArgs s_places) (defBody s_places) (defScope s_places) .none kV41 dc41 pm41 an41 cd41 ct41), sl41⟩) (c41 : PySem.W.codeIn K cd41 "places" = true) (k41 : PySem.W.keepIn K (.ref f41) = true)
    (a42 : PySem.W.nsIn K mainGlobals "_law_house_of" = some (some (.ref f42)))
    (l42 : K.lookup f42 = some ⟨oc42, od42, .func (PySem.W.fnOf "_law_house_of" "_law_house_of" (defArgs s__law_house_of) (defBody s__law_house_of) (defScope s__law_house_of) .none kV42 dc42 pm42 an42 cd42 ct42), sl42⟩) (c42 : PySem.W.codeIn K cd42 "_law_house_of" = true) (k42 : PySem.W.keepIn K (.ref f42) = true)
    (a43 : PySem.W.nsIn K mainGlobals "losses" = some (some (.ref f43)))
    (l43 : K.lookup f43 = some ⟨oc43, od43, .func (PySem.W.fnOf "losses" "losses" (defArgs s_losses) (defBody s_losses) (defScope s_losses) .none kV43 dc43 pm43 an43 cd43 ct43), sl43⟩) (c43 : PySem.W.codeIn K cd43 "losses" = true) (k43 : PySem.W.keepIn K (.ref f43) = true)
    (a44 : PySem.W.nsIn K mainGlobals "counted" = some (some (.ref f44)))
    (l44 : K.lookup f44 = some ⟨oc44, od44, .func (PySem.W.fnOf "counted" "counted" (defArgs s_counted) (defBody s_counted) (defScope s_counted) .none kV44 dc44 pm44 an44 cd44 ct44), sl44⟩) (c44 : PySem.W.codeIn K cd44 "counted" = true) (k44 : PySem.W.keepIn K (.ref f44) = true)
    (a45 : PySem.W.nsIn K mainGlobals "law" = some (some (.ref f45)))
    (l45 : K.lookup f45 = some ⟨oc45, od45, .func (PySem.W.fnOf "law" "law" (defArgs s_law) (defBody s_law) (defScope s_law) .none kV45 dc45 pm45 an45 cd45 ct45), sl45⟩) (c45 : PySem.W.codeIn K cd45 "law" = true) (k45 : PySem.W.keepIn K (.ref f45) = true)
    (pg_Slices : PySem.W.plainGet K C_Slices Str.empty = true) (hd_Slices : PySem.W.hasDictIn K C_Slices = true) (po_Slices : PySem.W.plainOver K C_Slices = true) (sa_Slices : PySem.W.findIn K (.ref C_Slices) "__setattr__" = some (some (.builtin "object.__setattr__"))) (mk_Slices : PySem.W.makesIn K C_Slices = true) (kc_Slices : PySem.W.keepIn K (.ref C_Slices) = true)
    (na_Slices_aheads : PySem.W.findIn K (.ref C_Slices) "aheads" = some none)
    (na_Slices_dates : PySem.W.findIn K (.ref C_Slices) "dates" = some none)
    (na_Slices_floors : PySem.W.findIn K (.ref C_Slices) "floors" = some none)
    (na_Slices_places : PySem.W.findIn K (.ref C_Slices) "places" = some none)
    (na_Slices_rows : PySem.W.findIn K (.ref C_Slices) "rows" = some none)
    (e_COUNTED : PySem.W.nsIn K mainGlobals "COUNTED" = some (some (.ref A_COUNTED))) (o_COUNTED : K.lookup A_COUNTED = some ⟨.type "tuple", dd_COUNTED, .seq #[.str "split" t0_COUNTED, .str "doubled" t1_COUNTED, .str "over" t2_COUNTED] n_COUNTED, sl_COUNTED⟩)
    (z_abs : PySem.W.nsIn K mainGlobals "abs" = some none)
    (z_all : PySem.W.nsIn K mainGlobals "all" = some none)
    (z_any : PySem.W.nsIn K mainGlobals "any" = some none)
    (z_bool : PySem.W.nsIn K mainGlobals "bool" = some none)
    (z_enumerate : PySem.W.nsIn K mainGlobals "enumerate" = some none)
    (z_int : PySem.W.nsIn K mainGlobals "int" = some none)
    (z_isinstance : PySem.W.nsIn K mainGlobals "isinstance" = some none)
    (z_len : PySem.W.nsIn K mainGlobals "len" = some none)
    (z_list : PySem.W.nsIn K mainGlobals "list" = some none)
    (z_max : PySem.W.nsIn K mainGlobals "max" = some none)
    (z_min : PySem.W.nsIn K mainGlobals "min" = some none)
    (z_range : PySem.W.nsIn K mainGlobals "range" = some none)
    (z_sorted : PySem.W.nsIn K mainGlobals "sorted" = some none)
    (z_str : PySem.W.nsIn K mainGlobals "str" = some none)
    (z_sum : PySem.W.nsIn K mainGlobals "sum" = some none)
    (z_tuple : PySem.W.nsIn K mainGlobals "tuple" = some none)
    (z_zip : PySem.W.nsIn K mainGlobals "zip" = some none)
    : ∃ fd : FuncData, (∀ (s : Shared) (v : Value), BindsTo s fd ⟨[v], []⟩ [("_law_script", v)]) ∧ ∀ base : Heap, K.In base → base.Ns mainGlobals mg → FnOk l.prog w K mg base CX0 76 fa fd ["_law_script"] (spM K 1 M_law_k24) := by
  have e := hfa.symm.trans (PySem.W.mg_of X G a45)
  cases e
  have F0 := fun_mk (st := s__law_pot) l0 c0 k0
  have F1 := fun_mk (st := s__law_take) l1 c1 k1
  have F2 := fun_mk (st := s__law_tree) l2 c2 k2
  have F3 := fun_mk (st := s__law_words) l3 c3 k3
  have F4 := fun_mk (st := s__law_great) l4 c4 k4
  have F5 := fun_mk (st := s__law_nodes) l5 c5 k5
  have F6 := fun_mk (st := s__law_pick) l6 c6 k6
  have F7 := fun_mk (st := s__law_small) l7 c7 k7
  have F8 := fun_mk (st := s__law_deeds) l8 c8 k8
  have F9 := fun_mk (st := s__law_done) l9 c9 k9
  have F10 := fun_mk (st := s__law_can) l10 c10 k10
  have F11 := fun_mk (st := s__law_path) l11 c11 k11
  have F12 := fun_mk (st := s__law_way) l12 c12 k12
  have F13 := fun_mk (st := s__law_whole_way) l13 c13 k13
  have F14 := fun_mk (st := s__law_moved) l14 c14 k14
  have F15 := fun_mk (st := s__law_called) l15 c15 k15
  have F16 := fun_mk (st := s__law_numbers) l16 c16 k16
  have F17 := fun_mk (st := s_put_nodes) l17 c17 k17
  have F18 := fun_mk (st := s_nodes) l18 c18 k18
  have F19 := fun_mk (st := s_ahead_of) l19 c19 k19
  have F20 := fun_mk (st := s_line_up) l20 c20 k20
  have F21 := fun_mk (st := s_name_of) l21 c21 k21
  have F22 := fun_mk (st := s_straight_under) l22 c22 k22
  have F23 := fun_mk (st := s_ground) l23 c23 k23
  have F24 := fun_mk (st := s__law_dates) l24 c24 k24
  have F25 := fun_mk (st := s__law_same) l25 c25 k25
  have F26 := fun_mk (st := s_inner_dates) l26 c26 k26
  have F27 := fun_mk (st := s_Slices_first_slice) l27 c27 k27
  have F28 := fun_mk (st := s_Slices_last_slice) l28 c28 k28
  have F29 := fun_mk (st := s_Slices___init__) l29 c29 k29
  have F30 := fun_mk (st := s_Slices_under_of) l30 c30 k30
  have F31 := fun_mk (st := s_Slices_beside_of) l31 c31 k31
  have F32 := fun_mk (st := s_dated) l32 c32 k32
  have F33 := fun_mk (st := s_may_be_done) l33 c33 k33
  have F34 := fun_mk (st := s_is_stay) l34 c34 k34
  have F35 := fun_mk (st := s_is_path) l35 c35 k35
  have F36 := fun_mk (st := s_may_be_found) l36 c36 k36
  have F37 := fun_mk (st := s_is_way_of) l37 c37 k37
  have F38 := fun_mk (st := s_is_way) l38 c38 k38
  have F39 := fun_mk (st := s_parts_of) l39 c39 k39
  have F40 := fun_mk (st := s_all_ways) l40 c40 k40
  have F41 := fun_mk (st := s_places) l41 c41 k41
  have F42 := fun_mk (st := s__law_house_of) l42 c42 k42
  have F43 := fun_mk (st := s_losses) l43 c43 k43
  have F44 := fun_mk (st := s_counted) l44 c44 k44
  have F45 := fun_mk (st := s_law) l45 c45 k45
  let T : Tp w K mg :=
    { a__law_pot := _, fd__law_pot := _, F__law_pot := F0, b__law_pot := F0.binds (ps := ["_law_script", "_law_k"]) (fun _ _ _ _ _ _ us hl => match us, hl with | [_, _], _ => rfl),
      m__law_pot := PySem.W.mg_of X G a0,
      a__law_take := _, fd__law_take := _, F__law_take := F1, b__law_take := F1.binds (ps := ["_law_pot_here", "_law_many"]) (fun _ _ _ _ _ _ us hl => match us, hl with | [_, _], _ => rfl),
      m__law_take := PySem.W.mg_of X G a1,
      a__law_tree := _, fd__law_tree := _, F__law_tree := F2, b__law_tree := F2.binds (ps := ["_law_pot_here", "_law_words_here"]) (fun _ _ _ _ _ _ us hl => match us, hl with | [_, _], _ => rfl),
      m__law_tree := PySem.W.mg_of X G a2,
      a__law_words := _, fd__law_words := _, F__law_words := F3, b__law_words := F3.binds (ps := ["_law_pot_here", "_law_many"]) (fun _ _ _ _ _ _ us hl => match us, hl with | [_, _], _ => rfl),
      m__law_words := PySem.W.mg_of X G a3,
      a__law_great := _, fd__law_great := _, F__law_great := F4, b__law_great := F4.binds (ps := ["_law_pot_here"]) (fun _ _ _ _ _ _ us hl => match us, hl with | [_], _ => rfl),
      m__law_great := PySem.W.mg_of X G a4,
      a__law_nodes := _, fd__law_nodes := _, F__law_nodes := F5, b__law_nodes := F5.binds (ps := ["_law_tree_here"]) (fun _ _ _ _ _ _ us hl => match us, hl with | [_], _ => rfl),
      m__law_nodes := PySem.W.mg_of X G a5,
      a__law_pick := _, fd__law_pick := _, F__law_pick := F6, b__law_pick := F6.binds (ps := ["_law_pot_here", "_law_some"]) (fun _ _ _ _ _ _ us hl => match us, hl with | [_, _], _ => rfl),
      m__law_pick := PySem.W.mg_of X G a6,
      a__law_small := _, fd__law_small := _, F__law_small := F7, b__law_small := F7.binds (ps := ["_law_pot_here", "_law_great_here"]) (fun _ _ _ _ _ _ us hl => match us, hl with | [_, _], _ => rfl),
      m__law_small := PySem.W.mg_of X G a7,
      a__law_deeds := _, fd__law_deeds := _, F__law_deeds := F8, b__law_deeds := F8.binds (ps := ["_law_stays", "_law_stay"]) (fun _ _ _ _ _ _ us hl => match us, hl with | [_, _], _ => rfl),
      m__law_deeds := PySem.W.mg_of X G a8,
      a__law_done := _, fd__law_done := _, F__law_done := F9, b__law_done := F9.binds (ps := ["_law_stays", "_law_rows", "_law_can_here", "_law_node", "_law_stay"]) (fun _ _ _ _ _ _ us hl => match us, hl with | [_, _, _, _, _], _ => rfl),
      m__law_done := PySem.W.mg_of X G a9,
      a__law_can := _, fd__law_can := _, F__law_can := F10, b__law_can := F10.binds (ps := ["_law_stays", "_law_rows"]) (fun _ _ _ _ _ _ us hl => match us, hl with | [_, _], _ => rfl),
      m__law_can := PySem.W.mg_of X G a10,
      a__law_path := _, fd__law_path := _, F__law_path := F11, b__law_path := F11.binds (ps := ["_law_pot_here", "_law_stays", "_law_rows", "_law_can_here", "_law_node", "_law_stay"]) (fun _ _ _ _ _ _ us hl => match us, hl with | [_, _, _, _, _, _], _ => rfl),
      m__law_path := PySem.W.mg_of X G a11,
      a__law_way := _, fd__law_way := _, F__law_way := F12, b__law_way := F12.binds (ps := ["_law_pot_here", "_law_stays", "_law_rows", "_law_can_here", "_law_node", "_law_path_here"]) (fun _ _ _ _ _ _ us hl => match us, hl with | [_, _, _, _, _, _], _ => rfl),
      m__law_way := PySem.W.mg_of X G a12,
      a__law_whole_way := _, fd__law_whole_way := _, F__law_whole_way := F13, b__law_whole_way := F13.binds (ps := ["_law_pot_here", "_law_stays", "_law_small_here"]) (fun _ _ _ _ _ _ us hl => match us, hl with | [_, _, _], _ => rfl),
      m__law_whole_way := PySem.W.mg_of X G a13,
      a__law_moved := _, fd__law_moved := _, F__law_moved := F14, b__law_moved := F14.binds (ps := ["_law_way_here", "_law_spots"]) (fun _ _ _ _ _ _ us hl => match us, hl with | [_, _], _ => rfl),
      m__law_moved := PySem.W.mg_of X G a14,
      a__law_called := _, fd__law_called := _, F__law_called := F15, b__law_called := F15.binds (ps := ["_law_tree_here", "_law_turn"]) (fun _ _ _ _ _ _ us hl => match us, hl with | [_, _], _ => rfl),
      m__law_called := PySem.W.mg_of X G a15,
      a__law_numbers := _, fd__law_numbers := _, F__law_numbers := F16, b__law_numbers := F16.binds (ps := ["_law_tree_here", "_law_first"]) (fun _ _ _ _ _ _ us hl => match us, hl with | [_, _], _ => rfl),
      m__law_numbers := PySem.W.mg_of X G a16,
      a_put_nodes := _, fd_put_nodes := _, F_put_nodes := F17, b_put_nodes := F17.binds (ps := ["tree", "found"]) (fun _ _ _ _ _ _ us hl => match us, hl with | [_, _], _ => rfl),
      m_put_nodes := PySem.W.mg_of X G a17,
      a_nodes := _, fd_nodes := _, F_nodes := F18, b_nodes := F18.binds (ps := ["tree"]) (fun _ _ _ _ _ _ us hl => match us, hl with | [_], _ => rfl),
      m_nodes := PySem.W.mg_of X G a18,
      a_ahead_of := _, fd_ahead_of := _, F_ahead_of := F19, b_ahead_of := F19.binds (ps := ["tree"]) (fun _ _ _ _ _ _ us hl => match us, hl with | [_], _ => rfl),
      m_ahead_of := PySem.W.mg_of X G a19,
      a_line_up := _, fd_line_up := _, F_line_up := F20, b_line_up := F20.binds (ps := ["aheads", "house"]) (fun _ _ _ _ _ _ us hl => match us, hl with | [_, _], _ => rfl),
      m_line_up := PySem.W.mg_of X G a20,
      a_name_of := _, fd_name_of := _, F_name_of := F21, b_name_of := F21.binds (ps := ["told", "house"]) (fun _ _ _ _ _ _ us hl => match us, hl with | [_, _], _ => rfl),
      m_name_of := PySem.W.mg_of X G a21,
      a_straight_under := _, fd_straight_under := _, F_straight_under := F22, b_straight_under := F22.binds (ps := ["told"]) (fun _ _ _ _ _ _ us hl => match us, hl with | [_], _ => rfl),
      m_straight_under := PySem.W.mg_of X G a22,
      a_ground := _, fd_ground := _, F_ground := F23, b_ground := F23.binds (ps := ["great"]) (fun _ _ _ _ _ _ us hl => match us, hl with | [_], _ => rfl),
      m_ground := PySem.W.mg_of X G a23,
      a__law_dates := _, fd__law_dates := _, F__law_dates := F24, b__law_dates := F24.binds (ps := ["_law_pot_here", "_law_rows"]) (fun _ _ _ _ _ _ us hl => match us, hl with | [_, _], _ => rfl),
      m__law_dates := PySem.W.mg_of X G a24,
      a__law_same := _, fd__law_same := _, F__law_same := F25, b__law_same := F25.binds (ps := ["_law_found", "_law_due"]) (fun _ _ _ _ _ _ us hl => match us, hl with | [_, _], _ => rfl),
      m__law_same := PySem.W.mg_of X G a25,
      a_inner_dates := _, fd_inner_dates := _, F_inner_dates := F26, b_inner_dates := F26.binds (ps := ["great", "dates"]) (fun _ _ _ _ _ _ us hl => match us, hl with | [_, _], _ => rfl),
      m_inner_dates := PySem.W.mg_of X G a26,
      a_Slices_first_slice := _, fd_Slices_first_slice := _, F_Slices_first_slice := F27, b_Slices_first_slice := F27.binds (ps := ["self", "house"]) (fun _ _ _ _ _ _ us hl => match us, hl with | [_, _], _ => rfl),
      me_Slices_first_slice := ⟨a27, i27, k27⟩,
      a_Slices_last_slice := _, fd_Slices_last_slice := _, F_Slices_last_slice := F28, b_Slices_last_slice := F28.binds (ps := ["self", "house"]) (fun _ _ _ _ _ _ us hl => match us, hl with | [_, _], _ => rfl),
      me_Slices_last_slice := ⟨a28, i28, k28⟩,
      a_Slices___init__ := _, fd_Slices___init__ := _, F_Slices___init__ := F29, b_Slices___init__ := F29.binds (ps := ["self", "great", "dates"]) (fun _ _ _ _ _ _ us hl => match us, hl with | [_, _, _], _ => rfl),
      a_Slices_under_of := _, fd_Slices_under_of := _, F_Slices_under_of := F30, b_Slices_under_of := F30.binds (ps := ["self", "house", "level"]) (fun _ _ _ _ _ _ us hl => match us, hl with | [_, _, _], _ => rfl),
      me_Slices_under_of := ⟨a30, i30, k30⟩,
      a_Slices_beside_of := _, fd_Slices_beside_of := _, F_Slices_beside_of := F31, b_Slices_beside_of := F31.binds (ps := ["self", "house", "level"]) (fun _ _ _ _ _ _ us hl => match us, hl with | [_, _, _], _ => rfl),
      me_Slices_beside_of := ⟨a31, i31, k31⟩,
      a_dated := _, fd_dated := _, F_dated := F32, b_dated := F32.binds (ps := ["great", "dates"]) (fun _ _ _ _ _ _ us hl => match us, hl with | [_, _], _ => rfl),
      m_dated := PySem.W.mg_of X G a32,
      a_may_be_done := _, fd_may_be_done := _, F_may_be_done := F33, b_may_be_done := F33.binds (ps := ["ground", "stay", "deed", "one", "other"]) (fun _ _ _ _ _ _ us hl => match us, hl with | [_, _, _, _, _], _ => rfl),
      m_may_be_done := PySem.W.mg_of X G a33,
      a_is_stay := _, fd_is_stay := _, F_is_stay := F34, b_is_stay := F34.binds (ps := ["ground", "thing"]) (fun _ _ _ _ _ _ us hl => match us, hl with | [_, _], _ => rfl),
      m_is_stay := PySem.W.mg_of X G a34,
      a_is_path := _, fd_is_path := _, F_is_path := F35, b_is_path := F35.binds (ps := ["ground", "thing"]) (fun _ _ _ _ _ _ us hl => match us, hl with | [_, _], _ => rfl),
      m_is_path := PySem.W.mg_of X G a35,
      a_may_be_found := _, fd_may_be_found := _, F_may_be_found := F36, b_may_be_found := F36.binds (ps := ["ground", "stay", "word"]) (fun _ _ _ _ _ _ us hl => match us, hl with | [_, _, _], _ => rfl),
      m_may_be_found := PySem.W.mg_of X G a36,
      a_is_way_of := _, fd_is_way_of := _, F_is_way_of := F37, b_is_way_of := F37.binds (ps := ["ground", "rows", "node", "thing"]) (fun _ _ _ _ _ _ us hl => match us, hl with | [_, _, _, _], _ => rfl),
      m_is_way_of := PySem.W.mg_of X G a37,
      a_is_way := _, fd_is_way := _, F_is_way := F38, b_is_way := F38.binds (ps := ["ground", "small", "thing"]) (fun _ _ _ _ _ _ us hl => match us, hl with | [_, _, _], _ => rfl),
      m_is_way := PySem.W.mg_of X G a38,
      a_parts_of := _, fd_parts_of := _, F_parts_of := F39, b_parts_of := F39.binds (ps := ["way"]) (fun _ _ _ _ _ _ us hl => match us, hl with | [_], _ => rfl),
      m_parts_of := PySem.W.mg_of X G a39,
      a_all_ways := _, fd_all_ways := _, F_all_ways := F40, b_all_ways := F40.binds (ps := ["way"]) (fun _ _ _ _ _ _ us hl => match us, hl with | [_], _ => rfl),
      m_all_ways := PySem.W.mg_of X G a40,
      a_places := _, fd_places := _, F_places := F41, b_places := F41.binds (ps := ["way"]) (fun _ _ _ _ _ _ us hl => match us, hl with | [_], _ => rfl),
      m_places := PySem.W.mg_of X G a41,
      a__law_house_of := _, fd__law_house_of := _, F__law_house_of := F42, b__law_house_of := F42.binds (ps := ["_law_rows", "_law_stay"]) (fun _ _ _ _ _ _ us hl => match us, hl with | [_, _], _ => rfl),
      m__law_house_of := PySem.W.mg_of X G a42,
      a_losses := _, fd_losses := _, F_losses := F43, b_losses := F43.binds (ps := ["ground", "path"]) (fun _ _ _ _ _ _ us hl => match us, hl with | [_, _], _ => rfl),
      m_losses := PySem.W.mg_of X G a43,
      a_counted := _, fd_counted := _, F_counted := F44, b_counted := F44.binds (ps := ["ground", "way"]) (fun _ _ _ _ _ _ us hl => match us, hl with | [_, _], _ => rfl),
      m_counted := PySem.W.mg_of X G a44,
      a_law := _, fd_law := _, F_law := F45, b_law := F45.binds (ps := ["_law_script"]) (fun _ _ _ _ _ _ us hl => match us, hl with | [_], _ => rfl),
      m_law := PySem.W.mg_of X G a45,
      C_Slices := C_Slices, k_Slices := ⟨aC_Slices, ⟨pg_Slices, hd_Slices, po_Slices, sa_Slices⟩⟩, mg_Slices := PySem.W.mg_of X G aC_Slices,
      mk_Slices := ⟨mk_Slices, a29, i29, kc_Slices⟩,
      na_Slices_aheads := na_Slices_aheads,
      na_Slices_dates := na_Slices_dates,
      na_Slices_floors := na_Slices_floors,
      na_Slices_places := na_Slices_places,
      na_Slices_rows := na_Slices_rows,
      A_COUNTED := A_COUNTED, c_COUNTED := PySem.W.mg_of X G e_COUNTED, r_COUNTED := KtR.of (xs := [.str "split", .str "doubled", .str "over"]) o_COUNTED (by simp) (.cons ⟨_, rfl⟩ (.cons ⟨_, rfl⟩ (.cons ⟨_, rfl⟩ .nil))) (fun _ _ => (.cons (.str _) (.cons (.str _) (.cons (.str _) .nil)))),
      z_abs := PySem.W.mg_none_of X G z_abs,
      z_all := PySem.W.mg_none_of X G z_all,
      z_any := PySem.W.mg_none_of X G z_any,
      z_bool := PySem.W.mg_none_of X G z_bool,
      z_enumerate := PySem.W.mg_none_of X G z_enumerate,
      z_int := PySem.W.mg_none_of X G z_int,
      z_isinstance := PySem.W.mg_none_of X G z_isinstance,
      z_len := PySem.W.mg_none_of X G z_len,
      z_list := PySem.W.mg_none_of X G z_list,
      z_max := PySem.W.mg_none_of X G z_max,
      z_min := PySem.W.mg_none_of X G z_min,
      z_range := PySem.W.mg_none_of X G z_range,
      z_sorted := PySem.W.mg_none_of X G z_sorted,
      z_str := PySem.W.mg_none_of X G z_str,
      z_sum := PySem.W.mg_none_of X G z_sum,
      z_tuple := PySem.W.mg_none_of X G z_tuple,
      z_zip := PySem.W.mg_none_of X G z_zip }
  exact ⟨T.fd_law, fun s v => .of_eq rfl, fun base _ _ => w_law T⟩
theorem walk {l : PySem.W.OpenLaw} {q : Program} {loose : List Str} {XP : (Str → Option Value) → Heap → Prop} {YP : World → Heap → Prop} {d : DefRec} {K : Params → PySem.W.Frag} (hn : l.most = some 63) (hdf : d.params.defaults = [])
    (main : ∀ ns : List Int, ns.length ≤ 63 → ∃ S', M_law_k24 [.v (.kl (ns.map D.int))] [] = .ok (.bl true) S')
    (hY : ∀ (w : World) (h : Heap), YP w h → (K w.params).In h)
    (F : ∀ (w : World) (mg : Str → Option Value) (fa : Addr) (h : Heap), (K w.params).In h → h.Ns mainGlobals mg → mg d.name = some (.ref fa) →
      ∃ fd : FuncData, (∀ (s : Shared) (u : Value), BindsTo s fd ⟨[u], []⟩ [("_law_script", u)]) ∧ ∀ base : Heap, (K w.params).In base → base.Ns mainGlobals mg → FnOk l.prog w (K w.params) mg base CX0 76 fa fd ["_law_script"] (spM (K w.params) 1 M_law_k24)) :
    PySem.W.WalkO q loose XP YP l.row.toRowW d [] (fun f vs => PySem.call f vs) :=
  L2.walk_of (n := 63) (k := 76) (x := "_law_script") (CX := fun _ => CX0) (sp := fun w => spM (K w.params) 1 M_law_k24) hn (by decide) hdf ⟨rfl, by decide, by decide⟩ hY F (fun _ H a ns hl hO hS => law_sp hO hS (main ns hl)) fun _ _ _ _ _ z => z
end K24
open PySem PySem.W PySem.W.X PyProof.Rows
set_option maxRecDepth 100000 in
set_option maxHeartbeats 0 in
theorem PySem.Challenge.cw_treewithin_k24_whole_great_trees_turned_holds : PySem.Challenge.rw_treewithin_k24_whole_great_trees_turned.Holds := by
  w_on; o_law; k_head; (case hw => w_witness2)
  k_fill
  refine K24.walk (l := PySem.Challenge.rw_treewithin_k24_whole_great_trees_turned) rfl rfl Q.k24_main (fun w h Y => PySem.W.kIn_of Y) ?F
  case F =>
    intro w mg fa h KX G hmg
    refine' K24.all_mk KX G hmg ?aC_Slices ?a0 ?l0 ?c0 ?k0 ?a1 ?l1 ?c1 ?k1 ?a2 ?l2 ?c2 ?k2 ?a3 ?l3 ?c3 ?k3 ?a4 ?l4 ?c4 ?k4 ?a5 ?l5 ?c5 ?k5 ?a6 ?l6 ?c6 ?k6 ?a7 ?l7 ?c7 ?k7 ?a8 ?l8 ?c8 ?k8 ?a9 ?l9 ?c9 ?k9 ?a10 ?l10 ?c10 ?k10 ?a11 ?l11 ?c11 ?k11 ?a12 ?l12 ?c12 ?k12 ?a13 ?l13 ?c13 ?k13 ?a14 ?l14 ?c14 ?k14 ?a15 ?l15 ?c15 ?k15 ?a16 ?l16 ?c16 ?k16 ?a17 ?l17 ?c17 ?k17 ?a18 ?l18 ?c18 ?k18 ?a19 ?l19 ?c19 ?k19 ?a20 ?l20 ?c20 ?k20 ?a21 ?l21 ?c21 ?k21 ?a22 ?l22 ?c22 ?k22 ?a23 ?l23 ?c23 ?k23 ?a24 ?l24 ?c24 ?k24 ?a25 ?l25 ?c25 ?k25 ?a26 ?l26 ?c26 ?k26 ?a27 ?i27 ?l27 ?c27 ?k27 ?a28 ?i28 ?l28 ?c28 ?k28 ?a29 ?i29 ?l29 ?c29 ?k29 ?a30 ?i30 ?l30 ?c30 ?k30 ?a31 ?i31 ?l31 ?c31 ?k31 ?a32 ?l32 ?c32 ?k32 ?a33 ?l33 ?c33 ?k33 ?a34 ?l34 ?c34 ?k34 ?a35 ?l35 ?c35 ?k35 ?a36 ?l36 ?c36 ?k36 ?a37 ?l37 ?c37 ?k37 ?a38 ?l38 ?c38 ?k38 ?a39 ?l39 ?c39 ?k39 ?a40 ?l40 ?c40 ?k40 ?a41 ?l41 ?c41 ?k41 ?a42 ?l42 ?c42 ?k42 ?a43 ?l43 ?c43 ?k43 ?a44 ?l44 ?c44 ?k44 ?a45 ?l45 ?c45 ?k45 ?pg_Slices ?hd_Slices ?po_Slices ?sa_Slices ?mk_Slices ?kc_Slices ?na_Slices_aheads ?na_Slices_dates ?na_Slices_floors ?na_Slices_places ?na_Slices_rows ?e_COUNTED ?o_COUNTED ?z_abs ?z_all ?z_any ?z_bool ?z_enumerate ?z_int ?z_isinstance ?z_len ?z_list ?z_max ?z_min ?z_range ?z_sorted ?z_str ?z_sum ?z_tuple ?z_zip
    (case aC_Slices => k_is)
    (case a0 => k_is)
    (case l0 => k_is)
    (case c0 => k_is)
    (case k0 => k_is)
    (case a1 => k_is)
    (case l1 => k_is)
    (case c1 => k_is)
    (case k1 => k_is)
    (case a2 => k_is)
    (case l2 => k_is)
    (case c2 => k_is)
    (case k2 => k_is)
    (case a3 => k_is)
    (case l3 => k_is)
    (case c3 => k_is)
    (case k3 => k_is)
    (case a4 => k_is)
    (case l4 => k_is)
    (case c4 => k_is)
    (case k4 => k_is)
    (case a5 => k_is)
    (case l5 => k_is)
    (case c5 => k_is)
    (case k5 => k_is)
    (case a6 => k_is)
    (case l6 => k_is)
    (case c6 => k_is)
    (case k6 => k_is)
    (case a7 => k_is)
    (case l7 => k_is)
    (case c7 => k_is)
    (case k7 => k_is)
    (case a8 => k_is)
    (case l8 => k_is)
    (case c8 => k_is)
    (case k8 => k_is)
    (case a9 => k_is)
    (case l9 => k_is)
    (case c9 => k_is)
    (case k9 => k_is)
    (case a10 => k_is)
    (case l10 => k_is)
    (case c10 => k_is)
    (case k10 => k_is)
    (case a11 => k_is)
    (case l11 => k_is)
    (case c11 => k_is)
    (case k11 => k_is)
    (case a12 => k_is)
    (case l12 => k_is)
    (case c12 => k_is)
    (case k12 => k_is)
    (case a13 => k_is)
    (case l13 => k_is)
    (case c13 => k_is)
    (case k13 => k_is)
    (case a14 => k_is)
    (case l14 => k_is)
    (case c14 => k_is)
    (case k14 => k_is)
    (case a15 => k_is)
    (case l15 => k_is)
    (case c15 => k_is)
    (case k15 => k_is)
    (case a16 => k_is)
    (case l16 => k_is)
    (case c16 => k_is)
    (case k16 => k_is)
    (case a17 => k_is)
    (case l17 => k_is)
    (case c17 => k_is)
    (case k17 => k_is)
    (case a18 => k_is)
    (case l18 => k_is)
    (case c18 => k_is)
    (case k18 => k_is)
    (case a19 => k_is)
    (case l19 => k_is)
    (case c19 => k_is)
    (case k19 => k_is)
    (case a20 => k_is)
    (case l20 => k_is)
    (case c20 => k_is)
    (case k20 => k_is)
    (case a21 => k_is)
    (case l21 => k_is)
    (case c21 => k_is)
    (case k21 => k_is)
    (case a22 => k_is)
    (case l22 => k_is)
    (case c22 => k_is)
    (case k22 => k_is)
    (case a23 => k_is)
    (case l23 => k_is)
    (case c23 => k_is)
    (case k23 => k_is)
    (case a24 => k_is)
    (case l24 => k_is)
    (case c24 => k_is)
    (case k24 => k_is)
    (case a25 => k_is)
    (case l25 => k_is)
    (case c25 => k_is)
    (case k25 => k_is)
    (case a26 => k_is)
    (case l26 => k_is)
    (case c26 => k_is)
    (case k26 => k_is)
    (case a27 => k_is)
    (case i27 => k_is)
    (case l27 => k_is)
    (case c27 => k_is)
    (case k27 => k_is)
    (case a28 => k_is)
    (case i28 => k_is)
    (case l28 => k_is)
    (case c28 => k_is)
    (case k28 => k_is)
    (case a29 => k_is)
    (case i29 => k_is)
    (case l29 => k_is)
    (case c29 => k_is)
    (case k29 => k_is)
    (case a30 => k_is)
    (case i30 => k_is)
    (case l30 => k_is)
    (case c30 => k_is)
    (case k30 => k_is)
    (case a31 => k_is)
    (case i31 => k_is)
    (case l31 => k_is)
    (case c31 => k_is)
    (case k31 => k_is)
    (case a32 => k_is)
    (case l32 => k_is)
    (case c32 => k_is)
    (case k32 => k_is)
    (case a33 => k_is)
    (case l33 => k_is)
    (case c33 => k_is)
    (case k33 => k_is)
    (case a34 => k_is)
    (case l34 => k_is)
    (case c34 => k_is)
    (case k34 => k_is)
    (case a35 => k_is)
    (case l35 => k_is)
    (case c35 => k_is)
    (case k35 => k_is)
    (case a36 => k_is)
    (case l36 => k_is)
    (case c36 => k_is)
    (case k36 => k_is)
    (case a37 => k_is)
    (case l37 => k_is)
    (case c37 => k_is)
    (case k37 => k_is)
    (case a38 => k_is)
    (case l38 => k_is)
    (case c38 => k_is)
    (case k38 => k_is)
    (case a39 => k_is)
    (case l39 => k_is)
    (case c39 => k_is)
    (case k39 => k_is)
    (case a40 => k_is)
    (case l40 => k_is)
    (case c40 => k_is)
    (case k40 => k_is)
    (case a41 => k_is)
    (case l41 => k_is)
    (case c41 => k_is)
    (case k41 => k_is)
    (case a42 => k_is)
    (case l42 => k_is)
    (case c42 => k_is)
    (case k42 => k_is)
    (case a43 => k_is)
    (case l43 => k_is)
    (case c43 => k_is)
    (case k43 => k_is)
    (case a44 => k_is)
    (case l44 => k_is)
    (case c44 => k_is)
    (case k44 => k_is)
    (case a45 => k_is)
    (case l45 => k_is)
    (case c45 => k_is)
    (case k45 => k_is)
    (case pg_Slices => k_is)
    (case hd_Slices => k_is)
    (case po_Slices => k_is)
    (case sa_Slices => k_is)
    (case mk_Slices => k_is)
    (case kc_Slices => k_is)
    (case na_Slices_aheads => k_is)
    (case na_Slices_dates => k_is)
    (case na_Slices_floors => k_is)
    (case na_Slices_places => k_is)
    (case na_Slices_rows => k_is)
    (case e_COUNTED => k_is)
    (case o_COUNTED => k_is)
    (case z_abs => k_is)
    (case z_all => k_is)
    (case z_any => k_is)
    (case z_bool => k_is)
    (case z_enumerate => k_is)
    (case z_int => k_is)
    (case z_isinstance => k_is)
    (case z_len => k_is)
    (case z_list => k_is)
    (case z_max => k_is)
    (case z_min => k_is)
    (case z_range => k_is)
    (case z_sorted => k_is)
    (case z_str => k_is)
    (case z_sum => k_is)
    (case z_tuple => k_is)
    (case z_zip => k_is)
