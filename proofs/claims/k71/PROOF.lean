import PyProof.Rows.All
import Wide.All
import OpenK.AllK
import Wide.FinOn
import HandS.ForMost
import HandS.IsInst
import HandS.Walk
import HandS.Wide
import HandS.TupAny
import HandS.Style
import HandS.Deep
import HandS.Text
import HandS.Zip
import HandS.More
import HandS.SetFor
import HandS.Strs
import HandS.Words
import KE.GoesEnum
import KE.GoesZip
import KE.GoesMore
import HandS.Dict
import HandS.Small
import HandS.WordsDict
import KE.KDictLaws
import HandS.SortInts
import HandS.Conv
import KE.KRevSl
import PyProof.Rows.SetFrom
import HandS.TupLen
import HandS.DictTup
import KE.KTupSum
import HandS.SortKw
import KE.DataMinMax
import HandS.TupMul
import HandS.Iter
import KE.KDictZip
import HandS.StrMore
import PyProof.NeKinds
import PyProof.Rows.EqBoolInt
import KE.SortKeyHeap
import KE.KSortKey
import PyProof.StrOps
import KE.SortData
import KE.DataFind
import PyProof.TupleOfSeq
import PyProof.Rows.SortWalk
import HandS.TupSets
import KE.KeyNested
import KE.KDictList
import KE.DataCmp
import PyProof.ReprRoads
import PySem.Challenge.RW_treewithin_k71_all_great_trees
set_option Elab.async false
set_option linter.all false
set_option autoImplicit false
set_option maxRecDepth 100000
set_option maxHeartbeats 4000000
namespace M
open PySem PySem.Spec L2
open PyProof.Rows hiding St
/-- data by value: nothing in it ever changes again; txt: some text, whichever -/
inductive D where
  | non | bl (b : Bool) | int (i : Int) | str (x : Str) | ty (n : String) | tup (xs : List D) | lst (xs : List D) | kl (xs : List D) | dct (ks : List Key) (xs : List D)
  | txt
  | kt (xs : List D)
/-- what a name holds: data, or the number of a cell -/
inductive R where
  | v (d : D) | ref (n : Nat)
abbrev R.non : R := .v .non
abbrev R.bl (b : Bool) : R := .v (.bl b)
abbrev R.int (i : Int) : R := .v (.int i)
abbrev R.str (x : Str) : R := .v (.str x)
abbrev R.ty (n : String) : R := .v (.ty n)
abbrev R.tup (xs : List D) : R := .v (.tup xs)
abbrev R.lst (xs : List D) : R := .v (.lst xs)
abbrev R.kl (xs : List D) : R := .v (.kl xs)
/-- cells: objects that may change; fz: one that never will again -/
inductive MO where
  | lst (xs : List R)
  | dK (kvs : List (Key × R))
  | dT (kvs : List (List Key × R))
  | ins (C : Str) (fs : List (Str × R))
  | lkK (kvs : List (Key × R))
  | lkT (kvs : List (List Key × R))
  | fz (d : D)
abbrev Store := List MO
abbrev Env := List (Option R)
/-- an exception: its class, the attributes of its own dict -/
structure Exc where
  cls : Value
  dat : Option (List (Str × R))
inductive Out (α : Type) where
  | ok (a : α) (S : Store)
  | exc (c : Exc) (S : Store)
  | no
inductive OutS where
  | nx (m : Env) (S : Store)
  | bk (m : Env) (S : Store)
  | ct (m : Env) (S : Store)
  | rt (d : R) (S : Store)
  | exc (c : Exc) (m : Env) (S : Store)
  | no
def Out.bind {α β : Type} (o : Out α) (f : α → Store → Out β) : Out β := match o with
  | .ok a S => f a S
  | .exc c S => .exc c S
  | .no => .no
@[simp] theorem Out.bind_ok {α β : Type} (a : α) (S : Store) (f : α → Store → Out β) : (Out.ok a S).bind f = f a S := id rfl
@[simp] theorem Out.bind_no {α β : Type} (f : α → Store → Out β) : (Out.no : Out α).bind f = .no := id rfl
@[simp] theorem Out.bind_exc {α β : Type} (c : Exc) (S : Store) (f : α → Store → Out β) : (Out.exc c S : Out α).bind f = .exc c S := id rfl
abbrev ME := Env → Store → Out R
abbrev MT := Env → Store → Out Bool
abbrev MA := Env → Store → Out (List R)
abbrev MS := Env → Store → OutS
/-- the cells' addresses; the frozen ones -/
structure Wd where
  r : List Addr
  z : Addr → Prop
/-- a list that nobody writes: locked (the script), or an object of the module -/
def KL (K : PySem.W.Frag) (H : Hp) (a : Addr) (xs : List V) : Prop :=
  (∃ o, H a = some (.frz o (.lst xs))) ∨ ∃ (o : Obj) (its : Array Value) (n : Nat), K.lookup a = some o ∧ o.cls = .type "list" ∧ o.dict = none ∧ o.data = .seq its n ∧ its.size ≤ sizeLine ∧ Vals xs its.toList
theorem KL.sq {K : PySem.W.Frag} {H : Hp} {a : Addr} {xs : List V} (h : KL K H a xs) : SqL K H a xs := by
  rcases h with ⟨o, h⟩ | h
  · exact .inl (.inr ⟨o, h⟩)
  · exact .inr h
/-- one that is frozen -/
def FzL (H : Hp) (ρ : Wd) (a : Addr) (xs : List V) : Prop := ρ.z a ∧ H a = some (.lst xs)
/-- a tuple of the module -/
def KT' (K : PySem.W.Frag) (a : Addr) (xs : List V) : Prop := ∃ (o : Obj) (its : Array Value) (n : Nat), K.lookup a = some o ∧ o.cls = .type "tuple" ∧ o.dict = none ∧ o.data = .seq its n ∧ its.size ≤ sizeLine ∧ Vals xs its.toList
theorem KT'.sq {K : PySem.W.Frag} {H : Hp} {a : Addr} {xs : List V} (h : KT' K a xs) : SqT K H a xs :=
  let ⟨o, its, n, h1, h2, _, h3⟩ := h
  .inr ⟨o, its, n, h1, h2, h3⟩
/-- a tuple of the module, or one of the heap that is known as it is -/
def KTz (K : PySem.W.Frag) (H : Hp) (ρ : Wd) (a : Addr) (xs : List V) : Prop := KT' K a xs ∨ (ρ.z a ∧ ∃ o : Obj, H a = some (.frz o (.tup xs)) ∧ o.dict = none)
theorem KTz.sq {K : PySem.W.Frag} {H : Hp} {ρ : Wd} {a : Addr} {xs : List V} (h : KTz K H ρ a xs) : SqT K H a xs := by
  rcases h with h | ⟨_, o, h, _⟩
  · exact h.sq
  · exact .inl (.inr ⟨o, h⟩)
theorem sqT_at {K : PySem.W.Frag} {H : Hp} {a : Addr} {xs : List V} (h : H a = some (.tup xs)) : SqT K H a xs := .inl (.inl h)
theorem FzL.sq {K : PySem.W.Frag} {H : Hp} {ρ : Wd} {a : Addr} {xs : List V} (h : FzL H ρ a xs) : SqL K H a xs := .inl (.inl h.2)
mutual
inductive Rp (K : PySem.W.Frag) (H : Hp) (ρ : Wd) : V → D → Prop
  | non : Rp K H ρ .non .non
  | bl (b : Bool) : Rp K H ρ (.bl b) (.bl b)
  | int (i : Int) : Rp K H ρ (.int i) (.int i)
  | str (x : Str) : Rp K H ρ (.str x) (.str x)
  | ty (n : String) : Rp K H ρ (.ty n) (.ty n)
  | tup {a : Addr} {xs : List V} {ds : List D} : H a = some (.tup xs) → RpA K H ρ xs ds → Rp K H ρ (.ref a) (.tup ds)
  | lst {a : Addr} {xs : List V} {ds : List D} : FzL H ρ a xs → RpA K H ρ xs ds → Rp K H ρ (.ref a) (.lst ds)
  | kl {a : Addr} {xs : List V} {ds : List D} : KL K H a xs → RpA K H ρ xs ds → Rp K H ρ (.ref a) (.kl ds)
  | dct {a : Addr} {ks : List Key} {xs : List V} {ds : List D} : ρ.z a → H a = some (.dK (ks.zip xs)) → ks.length = xs.length → RpA K H ρ xs ds → Rp K H ρ (.ref a) (.dct ks ds)
  | txt (x : Str) : x.length ≤ sizeLine → Rp K H ρ (.str x) .txt
  | kt {a : Addr} {xs : List V} {ds : List D} : KTz K H ρ a xs → RpA K H ρ xs ds → Rp K H ρ (.ref a) (.kt ds)
inductive RpA (K : PySem.W.Frag) (H : Hp) (ρ : Wd) : List V → List D → Prop
  | nil : RpA K H ρ [] []
  | cons {v : V} {vs : List V} {d : D} {ds : List D} : Rp K H ρ v d → RpA K H ρ vs ds → RpA K H ρ (v :: vs) (d :: ds)
end
inductive Rq (K : PySem.W.Frag) (H : Hp) (ρ : Wd) : V → R → Prop
  | v {v : V} {d : D} : Rp K H ρ v d → Rq K H ρ v (.v d)
  | ref {a : Addr} {n : Nat} : ρ.r[n]? = some a → Rq K H ρ (.ref a) (.ref n)
def RqA (K : PySem.W.Frag) (H : Hp) (ρ : Wd) (vs : List V) (ds : List R) : Prop := Paired (Rq K H ρ) vs ds
/-- what stays -/
structure Mo (K : PySem.W.Frag) (H : Hp) (ρ : Wd) (H' : Hp) (ρ' : Wd) : Prop where
  tup : ∀ a xs, H a = some (.tup xs) → H' a = some (.tup xs)
  kl : ∀ a xs, KL K H a xs → KL K H' a xs
  ref : ∀ (n : Nat) (a : Addr), ρ.r[n]? = some a → ρ'.r[n]? = some a
  z : ∀ a, ρ.z a → ρ'.z a ∧ H' a = H a
section
variable {K : PySem.W.Frag} {H H' H1 H2 : Hp} {ρ ρ' ρ1 ρ2 : Wd}
theorem Mo.refl : Mo K H ρ H ρ := ⟨fun _ _ h => h, fun _ _ h => h, fun _ _ h => h, fun _ h => ⟨h, rfl⟩⟩
theorem Mo.trans (a : Mo K H ρ H1 ρ1) (b : Mo K H1 ρ1 H2 ρ2) : Mo K H ρ H2 ρ2 := ⟨fun x xs h => b.tup x xs (a.tup x xs h), fun x xs h => b.kl x xs (a.kl x xs h), fun n x h => b.ref n x (a.ref n x h), fun x h => ⟨(b.z x (a.z x h).1).1, (b.z x (a.z x h).1).2.trans (a.z x h).2⟩⟩
theorem KTz.mono (mo : Mo K H ρ H' ρ') {a : Addr} {xs : List V} (h : KTz K H ρ a xs) : KTz K H' ρ' a xs := by
  rcases h with h | ⟨hz, o, h, d⟩
  · exact .inl h
  · exact .inr ⟨(mo.z _ hz).1, o, by rw [(mo.z _ hz).2]; exact h, d⟩
theorem FzL.mono (mo : Mo K H ρ H' ρ') {a : Addr} {xs : List V} (h : FzL H ρ a xs) : FzL H' ρ' a xs := ⟨(mo.z _ h.1).1, by rw [(mo.z _ h.1).2]; exact h.2⟩
mutual
theorem Rp.mono (mo : Mo K H ρ H' ρ') : ∀ (d : D) (v : V), Rp K H ρ v d → Rp K H' ρ' v d
  | .non, _, h => by cases h; exact .non
  | .bl b, _, h => by cases h; exact .bl b
  | .int i, _, h => by cases h; exact .int i
  | .str x, _, h => by cases h; exact .str x
  | .ty n, _, h => by cases h; exact .ty n
  | .tup ds, _, h => by
    cases h with
    | tup hs ha => exact .tup (mo.tup _ _ hs) (RpA.mono mo ds _ ha)
  | .lst ds, _, h => by
    cases h with
    | lst hs ha => exact .lst (hs.mono mo) (RpA.mono mo ds _ ha)
  | .kl ds, _, h => by
    cases h with
    | kl hs ha => exact .kl (mo.kl _ _ hs) (RpA.mono mo ds _ ha)
  | .dct ks ds, _, h => by
    cases h with
    | dct hz hs hl ha => exact .dct (mo.z _ hz).1 (by rw [(mo.z _ hz).2]; exact hs) hl (RpA.mono mo ds _ ha)
  | .txt, _, h => by
    cases h with
    | txt x hx => exact .txt x hx
  | .kt ds, _, h => by
    cases h with
    | kt hs ha => exact .kt (hs.mono mo) (RpA.mono mo ds _ ha)
theorem RpA.mono (mo : Mo K H ρ H' ρ') : ∀ (ds : List D) (vs : List V), RpA K H ρ vs ds → RpA K H' ρ' vs ds
  | [], _, h => by cases h; exact .nil
  | d :: ds, _, h => by
    cases h with
    | cons h1 h2 => exact .cons (Rp.mono mo d _ h1) (RpA.mono mo ds _ h2)
end
theorem Rp.mo {v : V} {d : D} (h : Rp K H ρ v d) (mo : Mo K H ρ H' ρ') : Rp K H' ρ' v d := Rp.mono mo d v h
theorem RpA.mo {v : List V} {d : List D} (h : RpA K H ρ v d) (mo : Mo K H ρ H' ρ') : RpA K H' ρ' v d := RpA.mono mo d v h
theorem Rq.mo {v : V} {d : R} (h : Rq K H ρ v d) (mo : Mo K H ρ H' ρ') : Rq K H' ρ' v d := by
  cases h with
  | v h => exact .v (h.mo mo)
  | ref e => exact .ref (mo.ref _ _ e)
theorem RqA.mo {v : List V} {d : List R} (h : RqA K H ρ v d) (mo : Mo K H ρ H' ρ') : RqA K H' ρ' v d := Paired.mapP h fun _ _ q => q.mo mo
theorem Rq.non : Rq K H ρ .non .non := .v .non
theorem Rq.bl (b : Bool) : Rq K H ρ (.bl b) (.bl b) := .v (.bl b)
theorem Rq.int (i : Int) : Rq K H ρ (.int i) (.int i) := .v (.int i)
theorem Rq.str (x : Str) : Rq K H ρ (.str x) (.str x) := .v (.str x)
theorem Rq.ty (x : String) : Rq K H ρ (.ty x) (.ty x) := .v (.ty x)
theorem RpA.length : ∀ {vs : List V} {ds : List D}, RpA K H ρ vs ds → vs.length = ds.length
  | _, [], h => by cases h; rfl
  | _, d :: ds, h => by
    cases h with
    | cons h1 h2 => exact congrArg (· + 1) (RpA.length h2)
theorem RqA.length {vs : List V} {ds : List R} (h : RqA K H ρ vs ds) : vs.length = ds.length := Paired.length h
/-- by value, item by item -/
theorem RpA.q : ∀ {vs : List V} {ds : List D}, RpA K H ρ vs ds → RqA K H ρ vs (ds.map .v)
  | _, [], h => by cases h; exact .nil
  | _, d :: ds, h => by
    cases h with
    | cons h1 h2 => exact .cons (.v h1) (RpA.q h2)
theorem RqA.p : ∀ {vs : List V} {ds : List D}, RqA K H ρ vs (ds.map .v) → RpA K H ρ vs ds
  | _, [], h => by cases h; exact .nil
  | _, d :: ds, h => by
    cases h with
    | cons h1 h2 =>
      cases h1 with
      | v h1 => exact .cons h1 (RqA.p h2)
theorem RqA.get {vs : List V} {ds : List R} : ∀ {i : Nat} {d : R}, RqA K H ρ vs ds → ds[i]? = some d → ∃ v, vs[i]? = some v ∧ Rq K H ρ v d := by
  intro i d h
  induction h generalizing i with
  | nil => intro e; simp at e
  | cons h1 h2 ih =>
    intro e
    cases i with
    | zero =>
      have q := Option.some.inj e
      subst q
      exact ⟨_, rfl, h1⟩
    | succ i =>
      obtain ⟨v, a, b⟩ := ih (i := i) (by simpa using e)
      exact ⟨v, by simpa using a, b⟩
theorem RqA.get' {vs : List V} {ds : List R} : ∀ {i : Nat} {v : V}, RqA K H ρ vs ds → vs[i]? = some v → ∃ d, ds[i]? = some d ∧ Rq K H ρ v d := by
  intro i d h
  induction h generalizing i with
  | nil => intro e; simp at e
  | cons h1 h2 ih =>
    intro e
    cases i with
    | zero =>
      have q := Option.some.inj e
      subst q
      exact ⟨_, rfl, h1⟩
    | succ i =>
      obtain ⟨v, a, b⟩ := ih (i := i) (by simpa using e)
      exact ⟨v, by simpa using a, b⟩
theorem RqA.set {v : V} {d : R} (r : Rq K H ρ v d) {vs : List V} {ds : List R} (h : RqA K H ρ vs ds) : ∀ (i : Nat), RqA K H ρ (vs.set i v) (ds.set i d) := by
  induction h with
  | nil => intro i; exact .nil
  | cons h1 h2 ih =>
    intro i
    cases i with
    | zero => exact .cons r h2
    | succ i => exact .cons h1 (ih i)
theorem RqA.append {vs ws : List V} {ds es : List R} (h : RqA K H ρ vs ds) (k : RqA K H ρ ws es) : RqA K H ρ (vs ++ ws) (ds ++ es) := by
  induction h with
  | nil => exact k
  | cons h1 h2 ih => exact .cons h1 ih
theorem RqA.take {vs : List V} {ds : List R} (h : RqA K H ρ vs ds) : ∀ n, RqA K H ρ (vs.take n) (ds.take n) := by
  induction h with
  | nil => intro n; rw [List.take_nil, List.take_nil]; exact .nil
  | cons h1 h2 ih =>
    intro n
    cases n with
    | zero => exact .nil
    | succ n => exact .cons h1 (ih n)
theorem RqA.drop {vs : List V} {ds : List R} (h : RqA K H ρ vs ds) : ∀ n, RqA K H ρ (vs.drop n) (ds.drop n) := by
  induction h with
  | nil => intro n; rw [List.drop_nil, List.drop_nil]; exact .nil
  | cons h1 h2 ih =>
    intro n
    cases n with
    | zero => exact .cons h1 h2
    | succ n => exact ih n
theorem RqA.reverse {vs : List V} {ds : List R} (h : RqA K H ρ vs ds) : RqA K H ρ vs.reverse ds.reverse := by
  induction h with
  | nil => exact .nil
  | cons h1 h2 ih =>
    rw [List.reverse_cons, List.reverse_cons]
    exact RqA.append ih (.cons h1 .nil)
theorem RpA.append {vs ws : List V} {ds es : List D} (h : RpA K H ρ vs ds) (k : RpA K H ρ ws es) : RpA K H ρ (vs ++ ws) (ds ++ es) := by
  refine RqA.p ?_
  rw [List.map_append]
  exact h.q.append k.q
theorem RpA.take {vs : List V} {ds : List D} (n : Nat) (h : RpA K H ρ vs ds) : RpA K H ρ (vs.take n) (ds.take n) := by
  refine RqA.p ?_
  rw [List.map_take]
  exact h.q.take n
theorem RpA.drop {vs : List V} {ds : List D} (n : Nat) (h : RpA K H ρ vs ds) : RpA K H ρ (vs.drop n) (ds.drop n) := by
  refine RqA.p ?_
  rw [List.map_drop]
  exact h.q.drop n
theorem RpA.reverse {vs : List V} {ds : List D} (h : RpA K H ρ vs ds) : RpA K H ρ vs.reverse ds.reverse := by
  refine RqA.p ?_
  rw [List.map_reverse]
  exact h.q.reverse
theorem RpA.get {vs : List V} {ds : List D} {i : Nat} {d : D} (h : RpA K H ρ vs ds) (e : ds[i]? = some d) : ∃ v, vs[i]? = some v ∧ Rp K H ρ v d := by
  obtain ⟨v, a, b⟩ := h.q.get (i := i) (d := .v d) (by rw [List.getElem?_map, e]; rfl)
  cases b with
  | v b => exact ⟨v, a, b⟩
theorem RpA.get' {vs : List V} {ds : List D} {i : Nat} {v : V} (h : RpA K H ρ vs ds) (e : vs[i]? = some v) : ∃ d, ds[i]? = some d ∧ Rp K H ρ v d := by
  obtain ⟨d, a, b⟩ := h.q.get' e
  rw [List.getElem?_map] at a
  obtain ⟨d', e1, rfl⟩ := Option.map_eq_some_iff.mp a
  cases b with
  | v b => exact ⟨d', e1, b⟩
theorem RpA.ints : ∀ {ns : List Int}, RpA K H ρ (ns.map V.int) (ns.map D.int)
  | [] => .nil
  | n :: ns => .cons (.int n) RpA.ints
/-- pairs of a key and a value -/
def RpP {κ : Type} (K : PySem.W.Frag) (H : Hp) (ρ : Wd) (vs : List (κ × V)) (ds : List (κ × R)) : Prop := Paired (fun (p : κ × V) (q : κ × R) => p.1 = q.1 ∧ Rq K H ρ p.2 q.2) vs ds
theorem RpP.mo {κ : Type} {vs : List (κ × V)} {ds : List (κ × R)} (h : RpP K H ρ vs ds) (mo : Mo K H ρ H' ρ') : RpP K H' ρ' vs ds := Paired.mapP h fun _ _ q => ⟨q.1, q.2.mo mo⟩
/-- what a cell is -/
def HoR (K : PySem.W.Frag) (H : Hp) (ρ : Wd) (a : Addr) : MO → Prop
  | .lst ds => ∃ xs, H a = some (.lst xs) ∧ RqA K H ρ xs ds
  | .dK kds => ∃ kvs, H a = some (.dK kvs) ∧ RpP K H ρ kvs kds
  | .dT kds => ∃ kvs, H a = some (.dT kvs) ∧ RpP K H ρ kvs kds
  | .ins c gs => ∃ C dx fs, PySem.W.nsIn K mainGlobals c = some (some (.ref C)) ∧ H a = some (.ins C dx fs) ∧ RpP K H ρ fs gs
  | .lkK kds => ρ.z a ∧ ∃ od kvs, H a = some (.frz od (.dK kvs)) ∧ RpP K H ρ kvs kds
  | .lkT kds => ρ.z a ∧ ∃ od kvs, H a = some (.frz od (.dT kvs)) ∧ RpP K H ρ kvs kds
  | .fz d => Rp K H ρ (.ref a) d
def MO.live : MO → Prop
  | .fz _ => False
  | .lkK _ => False
  | .lkT _ => False
  | _ => True
/-- the store -/
structure SR (K : PySem.W.Frag) (H : Hp) (ρ : Wd) (S : Store) : Prop where
  nd : ρ.r.Nodup
  len : ρ.r.length = S.length
  obj : ∀ (n : Nat) (a : Addr) (o : MO), ρ.r[n]? = some a → S[n]? = some o → HoR K H ρ a o
  lv : ∀ (n : Nat) (a : Addr) (o : MO), ρ.r[n]? = some a → S[n]? = some o → o.live → ¬ ρ.z a
  z : ∀ a, ρ.z a → H a ≠ none
  r : ∀ (n : Nat) (a : Addr), ρ.r[n]? = some a → H a ≠ none
/-- the frame's names -/
structure EnvR (K : PySem.W.Frag) (H : Hp) (ρ : Wd) (σ : St) (m : Env) : Prop where
  len : σ.length = m.length
  get : ∀ (i : Nat) (d : R), m[i]? = some (some d) → ∃ v, σ[i]? = some (some v) ∧ Rq K H ρ v d
theorem EnvR.mo {σ : St} {m : Env} (h : EnvR K H ρ σ m) (mo : Mo K H ρ H' ρ') : EnvR K H' ρ' σ m := ⟨h.len, fun i d e => by
  obtain ⟨v, a, b⟩ := h.get i d e
  exact ⟨v, a, b.mo mo⟩⟩
theorem EnvR.set {σ : St} {m : Env} {v : V} {d : R} (h : EnvR K H ρ σ m) (r : Rq K H ρ v d) (i : Nat) : EnvR K H ρ (σ.set i (some v)) (m.set i (some d)) := by
  refine ⟨by rw [List.length_set, List.length_set]; exact h.len, fun j e q => ?_⟩
  by_cases hij : i = j
  · subst hij
    by_cases hl : i < m.length
    · rw [List.getElem?_set_self hl] at q
      have q : d = e := by simpa using q
      subst q
      exact ⟨v, List.getElem?_set_self (by rw [h.len]; exact hl), r⟩
    · rw [List.getElem?_eq_none (by rw [List.length_set]; omega)] at q
      cases q
  · rw [List.getElem?_set_ne hij] at q ⊢
    exact h.get j e q
theorem EnvR.start {N : Nat} {vs : List V} {ds : List R} (h : RqA K H ρ vs ds) : EnvR K H ρ (vs.map some ++ List.replicate (N - vs.length) none) (ds.map some ++ List.replicate (N - ds.length) none) := by
  have hl := h.length
  refine ⟨by simp [hl], fun i d q => ?_⟩
  by_cases hi : i < ds.length
  · rw [List.getElem?_append_left (by simpa using hi), List.getElem?_map] at q
    obtain ⟨d', e1, e2⟩ := Option.map_eq_some_iff.mp q
    cases e2
    obtain ⟨v, a, b⟩ := h.get e1
    exact ⟨v, by rw [List.getElem?_append_left (by simpa [hl] using hi), List.getElem?_map, a]; rfl, b⟩
  · rw [List.getElem?_append_right (by simpa using hi), List.getElem?_replicate] at q
    split at q <;> cases q
theorem sqT_new {p : Addr} {u : HO} {a : Addr} {xs : List V} (hp : H p = none) (h : H a = some (.tup xs)) : upd H p u a = some (.tup xs) := by
  rw [upd_ne (ne_of_none h hp)]; exact h
/-- not a tuple, nor one that is locked -/
def Soft : HO → Prop
  | .tup _ => False
  | .frz _ (.dK _) => True
  | .frz _ (.dT _) => True
  | .frz _ _ => False
  | _ => True
theorem sqT_set {p : Addr} {u o : HO} {a : Addr} {xs : List V} (hp : H p = some o) (so : Soft o) (h : H a = some (.tup xs)) : upd H p u a = some (.tup xs) := by
  rw [upd_ne]
  · exact h
  · intro e; subst e; rw [h] at hp; cases hp; exact so
theorem kl_new {p : Addr} {u : HO} {a : Addr} {xs : List V} (hp : H p = none) (h : KL K H a xs) : KL K (upd H p u) a xs := by
  rcases h with ⟨o, h⟩ | h
  · exact .inl ⟨o, by rw [upd_ne (ne_of_none h hp)]; exact h⟩
  · exact .inr h
theorem kl_set {p : Addr} {u o : HO} {a : Addr} {xs : List V} (hp : H p = some o) (so : Soft o) (h : KL K H a xs) : KL K (upd H p u) a xs := by
  rcases h with ⟨o', h⟩ | h
  · refine .inl ⟨o', ?_⟩
    rw [upd_ne]
    · exact h
    · intro e; subst e; rw [h] at hp; cases hp; exact so
  · exact .inr h
/-- a new thing that nothing numbers -/
theorem Mo.new {S : Store} (sr : SR K H ρ S) {p : Addr} {u : HO} (hp : H p = none) : Mo K H ρ (upd H p u) ρ := ⟨fun _ _ h => sqT_new hp h, fun _ _ h => kl_new hp h, fun _ _ h => h, fun a h => ⟨h, upd_ne fun e => sr.z a h (e ▸ hp)⟩⟩
/-- .. a new cell -/
theorem Mo.newR {S : Store} (sr : SR K H ρ S) {p : Addr} {u : HO} (hp : H p = none) : Mo K H ρ (upd H p u) ⟨ρ.r ++ [p], ρ.z⟩ := ⟨fun _ _ h => sqT_new hp h, fun _ _ h => kl_new hp h, fun n a h => by
  have hn : n < ρ.r.length := by
    rcases Nat.lt_or_ge n ρ.r.length with z | z
    · exact z
    · rw [List.getElem?_eq_none z] at h; cases h
  show (ρ.r ++ [p])[n]? = _
  rw [List.getElem?_append_left hn]; exact h, fun a h => ⟨h, upd_ne fun e => sr.z a h (e ▸ hp)⟩⟩
/-- a live cell's object turns -/
theorem Mo.set {p : Addr} {u o : HO} (hp : H p = some o) (so : Soft o) (hz : ¬ ρ.z p) : Mo K H ρ (upd H p u) ρ := ⟨fun _ _ h => sqT_set hp so h, fun _ _ h => kl_set hp so h, fun _ _ h => h, fun a h => ⟨h, upd_ne fun e => hz (e ▸ h)⟩⟩
theorem HoR.mo (mo : Mo K H ρ H' ρ') {a : Addr} (ha : H' a = H a) : ∀ {o : MO}, HoR K H ρ a o → HoR K H' ρ' a o
  | .lst ds, ⟨xs, h, r⟩ => ⟨xs, by rw [ha]; exact h, RqA.mo r mo⟩
  | .dK ds, ⟨xs, h, r⟩ => ⟨xs, by rw [ha]; exact h, RpP.mo r mo⟩
  | .dT ds, ⟨xs, h, r⟩ => ⟨xs, by rw [ha]; exact h, RpP.mo r mo⟩
  | .ins C ds, ⟨c, dx, xs, hc, h, r⟩ => ⟨c, dx, xs, hc, by rw [ha]; exact h, RpP.mo r mo⟩
  | .lkK ds, ⟨hz, od, xs, h, r⟩ => ⟨(mo.z a hz).1, od, xs, by rw [ha]; exact h, RpP.mo r mo⟩
  | .lkT ds, ⟨hz, od, xs, h, r⟩ => ⟨(mo.z a hz).1, od, xs, by rw [ha]; exact h, RpP.mo r mo⟩
  | .fz d, h => Rp.mo h mo
theorem SR.none_of {S : Store} (sr : SR K H ρ S) {p : Addr} (hp : H p = none) : p ∉ ρ.r := fun hm => by
  obtain ⟨n, hn, e⟩ := List.getElem_of_mem hm
  exact sr.r n p (by rw [List.getElem?_eq_getElem hn, e]) hp
/-- only things that no number names have turned -/
theorem SR.other {S : Store} (sr : SR K H ρ S) (mo : Mo K H ρ H' ρ) (k : ∀ b ∈ ρ.r, H' b = H b) : SR K H' ρ S := ⟨sr.nd, sr.len, fun n a o e q => (sr.obj n a o e q).mo mo (k a (List.mem_of_getElem? e)), sr.lv, fun a h => by rw [(mo.z a h).2]; exact sr.z a h, fun n a e => by rw [k a (List.mem_of_getElem? e)]; exact sr.r n a e⟩
theorem SR.newT {S : Store} (sr : SR K H ρ S) {p : Addr} {u : HO} (hp : H p = none) : SR K (upd H p u) ρ S :=
  sr.other (.new sr hp) fun b hb => upd_ne fun e => sr.none_of hp (e ▸ hb)
theorem SR.new {S : Store} (sr : SR K H ρ S) {p : Addr} {u : HO} {o : MO} (hp : H p = none) (r : HoR K (upd H p u) ⟨ρ.r ++ [p], ρ.z⟩ p o) : SR K (upd H p u) ⟨ρ.r ++ [p], ρ.z⟩ (S ++ [o]) := by
  have mo : Mo K H ρ (upd H p u) ⟨ρ.r ++ [p], ρ.z⟩ := .newR sr hp
  have cas : ∀ (n : Nat) (a : Addr), (ρ.r ++ [p])[n]? = some a → ρ.r[n]? = some a ∨ (n = ρ.r.length ∧ a = p) := fun n a e => by
    by_cases hn : n < ρ.r.length
    · rw [List.getElem?_append_left hn] at e; exact .inl e
    · rw [List.getElem?_append_right (by omega)] at e
      have e0 : n - ρ.r.length = 0 := by
        rcases Nat.eq_zero_or_pos (n - ρ.r.length) with z | z
        · exact z
        · rw [List.getElem?_eq_none (by simp; omega)] at e; cases e
      rw [e0] at e
      exact .inr ⟨by omega, (Option.some.inj e).symm⟩
  have lt : ∀ (n : Nat) (a : Addr), ρ.r[n]? = some a → n < S.length := fun n a e => by
    rw [← sr.len]
    exact (List.getElem?_eq_some_iff.mp e).1
  refine ⟨?_, by simp [sr.len], fun n a o' e q => ?_, fun n a o' e q hl => ?_, fun a h => ?_, fun n a e => ?_⟩
  · show (ρ.r ++ [p]).Nodup
    rw [List.nodup_append]
    refine ⟨sr.nd, by simp, fun x hx y hy => ?_⟩
    have : y = p := by simpa using hy
    subst this
    intro e; subst e
    exact sr.none_of hp hx
  · rcases cas n a e with e | ⟨rfl, rfl⟩
    · rw [List.getElem?_append_left (lt n a e)] at q
      exact (sr.obj n a o' e q).mo mo (upd_ne fun (z : a = p) => sr.r n a e (by rw [z]; exact hp))
    · rw [sr.len, List.getElem?_append_right (Nat.le_refl _), Nat.sub_self] at q
      have eo : o = o' := Option.some.inj q
      subst eo
      exact r
  · rcases cas n a e with e | ⟨rfl, rfl⟩
    · rw [List.getElem?_append_left (lt n a e)] at q
      exact sr.lv n a o' e q hl
    · exact fun z => sr.z _ z hp
  · rw [(mo.z a h).2]; exact sr.z a h
  · rcases cas n a e with e | ⟨rfl, rfl⟩
    · rw [upd_ne fun (z : a = p) => sr.r n a e (by rw [z]; exact hp)]; exact sr.r n a e
    · rw [upd_same]; exact fun z => nomatch z
theorem nd_at {a b : Nat} {x : Addr} (nd : ρ.r.Nodup) (h : ρ.r[a]? = some x) (k : ρ.r[b]? = some x) : a = b := nd_ix nd h k
theorem SR.set {S : Store} (sr : SR K H ρ S) {n : Nat} {a : Addr} {u o : HO} {mo : MO} (e : ρ.r[n]? = some a) (ha : H a = some o) (so : Soft o) (hz : ¬ ρ.z a) (r : HoR K (upd H a u) ρ a mo) : SR K (upd H a u) ρ (S.set n mo) := by
  have mv : Mo K H ρ (upd H a u) ρ := .set ha so hz
  have cas : ∀ (k : Nat) (b : Addr) (o' : MO), ρ.r[k]? = some b → (S.set n mo)[k]? = some o' → (k = n ∧ b = a ∧ o' = mo) ∨ (k ≠ n ∧ b ≠ a ∧ S[k]? = some o') := fun k b o' e' q => by
    by_cases hk : n = k
    · subst hk
      rw [e] at e'; cases e'
      have hs : n < S.length := by
        rcases Nat.lt_or_ge n S.length with z | z
        · exact z
        · rw [List.getElem?_eq_none (by rw [List.length_set]; exact z)] at q; cases q
      rw [List.getElem?_set_self hs] at q
      exact .inl ⟨rfl, rfl, (Option.some.inj q).symm⟩
    · rw [List.getElem?_set_ne hk] at q
      exact .inr ⟨fun z => hk z.symm, fun z => hk (nd_at sr.nd e (z ▸ e')), q⟩
  refine ⟨sr.nd, by rw [List.length_set]; exact sr.len, fun k b o' e' q => ?_, fun k b o' e' q hl => ?_, fun b h => ?_, fun k b e' => ?_⟩
  · rcases cas k b o' e' q with ⟨rfl, rfl, rfl⟩ | ⟨_, hb, q⟩
    · exact r
    · exact (sr.obj k b o' e' q).mo mv (upd_ne hb)
  · rcases cas k b o' e' q with ⟨rfl, rfl, rfl⟩ | ⟨_, hb, q⟩
    · exact hz
    · exact sr.lv k b o' e' q hl
  · rw [(mv.z b h).2]; exact sr.z b h
  · by_cases hb : b = a
    · subst hb; rw [upd_same]; exact fun z => nomatch z
    · rw [upd_ne hb]; exact sr.r k b e'
/-- a list that is written -/
theorem SR.lst {S : Store} {n : Nat} {a : Addr} {ds : List R} (sr : SR K H ρ S) (e : ρ.r[n]? = some a) (h : S[n]? = some (.lst ds)) : ∃ xs, H a = some (.lst xs) ∧ RqA K H ρ xs ds ∧ ¬ ρ.z a := by
  obtain ⟨xs, hu, r⟩ := sr.obj n a _ e h
  exact ⟨xs, hu, r, sr.lv n a _ e h trivial⟩
/-- what is wanted of an outcome -/
def RO {α β : Type} (K : PySem.W.Frag) (rel : Hp → Wd → β → α → Prop) (E : XK) (H : Hp) (ρ : Wd) (o : Out α) (Q : β → Hp → Prop) : Prop := match o with
  | .ok d S' => ∀ v H' ρ', Mo K H ρ H' ρ' → SR K H' ρ' S' → rel H' ρ' v d → Q v H'
  | .exc c S' => ∀ dx H' ρ', Mo K H ρ H' ρ' → SR K H' ρ' S' → (match c.dat with
      | none => dx = none
      | some fs => ∃ a xs, dx = some a ∧ H' a = some (.xd xs) ∧ RpP K H' ρ' xs fs) → E c.cls dx H'
  | .no => False
theorem RO.mono {α β : Type} {rel : Hp → Wd → β → α → Prop} {E : XK} {o : Out α} {Q : β → Hp → Prop} (h : RO K rel E H ρ o Q) (mo : Mo K H ρ H1 ρ1) : RO K rel E H1 ρ1 o Q := by
  cases o with
  | ok d S => exact fun v H' ρ' m s r => h v H' ρ' (mo.trans m) s r
  | exc c S => exact fun dx H' ρ' m s r => h dx H' ρ' (mo.trans m) s r
  | no => exact h
theorem RO.bind {α β γ δ : Type} {relA : Hp → Wd → β → α → Prop} {rel : Hp → Wd → δ → γ → Prop} {E : XK} {o : Out α} {f : α → Store → Out γ} {Q : δ → Hp → Prop} {P : β → Hp → Prop} (h : RO K rel E H ρ (o.bind f) Q)
    (k : ∀ d S v H1 ρ1, Mo K H ρ H1 ρ1 → SR K H1 ρ1 S → relA H1 ρ1 v d → RO K rel E H1 ρ1 (f d S) Q → P v H1) : RO K relA E H ρ o P := by
  cases o with
  | ok d S => exact fun v H' ρ' m s r => k d S v H' ρ' m s r (RO.mono h m)
  | exc c S => exact h
  | no => exact h
abbrev relD (K : PySem.W.Frag) : Hp → Wd → V → R → Prop := fun H ρ v d => Rq K H ρ v d
abbrev relA (K : PySem.W.Frag) : Hp → Wd → List V → List R → Prop := fun H ρ v d => RqA K H ρ v d
abbrev relB : Hp → Wd → Bool → Bool → Prop := fun _ _ v d => v = d
def tE (K : PySem.W.Frag) (E : St → XK) (f : ME) : TE := fun σ H Q => ∃ ρ m S, SR K H ρ S ∧ EnvR K H ρ σ m ∧ RO K (relD K) (E σ) H ρ (f m S) Q
def tA (K : PySem.W.Frag) (E : St → XK) (f : MA) : TA := fun σ H Q => ∃ ρ m S, SR K H ρ S ∧ EnvR K H ρ σ m ∧ RO K (relA K) (E σ) H ρ (f m S) Q
def tT (K : PySem.W.Frag) (E : St → XK) (f : MT) : TT := fun σ H Q => ∃ ρ m S, SR K H ρ S ∧ EnvR K H ρ σ m ∧ RO K relB (E σ) H ρ (f m S) Q
def RS (K : PySem.W.Frag) (E : St → XK) (H : Hp) (ρ : Wd) (o : OutS) (D : Ends) : Prop := match o with
  | .nx m' S' => ∀ σ' H' ρ', Mo K H ρ H' ρ' → SR K H' ρ' S' → EnvR K H' ρ' σ' m' → D.nx σ' H'
  | .bk m' S' => ∀ σ' H' ρ', Mo K H ρ H' ρ' → SR K H' ρ' S' → EnvR K H' ρ' σ' m' → D.bk σ' H'
  | .ct m' S' => ∀ σ' H' ρ', Mo K H ρ H' ρ' → SR K H' ρ' S' → EnvR K H' ρ' σ' m' → D.ct σ' H'
  | .rt d S' => ∀ v H' ρ', Mo K H ρ H' ρ' → SR K H' ρ' S' → Rq K H' ρ' v d → D.rt v H'
  | .exc c m' S' => ∀ σ' dx H' ρ', Mo K H ρ H' ρ' → SR K H' ρ' S' → EnvR K H' ρ' σ' m' → (match c.dat with
      | none => dx = none
      | some fs => ∃ a xs, dx = some a ∧ H' a = some (.xd xs) ∧ RpP K H' ρ' xs fs) → E σ' c.cls dx H'
  | .no => False
def tS (K : PySem.W.Frag) (E : St → XK) (f : MS) : TS := fun D σ H => ∃ ρ m S, SR K H ρ S ∧ EnvR K H ρ σ m ∧ RS K E H ρ (f m S) D
theorem RS.mono {E : St → XK} {o : OutS} {D : Ends} (h : RS K E H ρ o D) (mo : Mo K H ρ H1 ρ1) : RS K E H1 ρ1 o D := by
  cases o with
  | nx m S => exact fun σ' H' ρ' m s r => h σ' H' ρ' (mo.trans m) s r
  | bk m S => exact fun σ' H' ρ' m s r => h σ' H' ρ' (mo.trans m) s r
  | ct m S => exact fun σ' H' ρ' m s r => h σ' H' ρ' (mo.trans m) s r
  | rt d S => exact fun σ' H' ρ' m s r => h σ' H' ρ' (mo.trans m) s r
  | exc c m S => exact fun σ' dx H' ρ' m s r => h σ' dx H' ρ' (mo.trans m) s r
  | no => exact h
/-- an expression's outcome, then a statement's -/
def Out.thenS {α : Type} (o : Out α) (m : Env) (f : α → Store → OutS) : OutS := match o with
  | .ok a S => f a S
  | .exc c S => .exc c m S
  | .no => .no
theorem RS.bind {α β : Type} {rel : Hp → Wd → β → α → Prop} {E : St → XK} {σ : St} {m : Env} {o : Out α} {f : α → Store → OutS} {D : Ends} {P : β → Hp → Prop} (er : EnvR K H ρ σ m) (h : RS K E H ρ (o.thenS m f) D)
    (k : ∀ d S v H1 ρ1, Mo K H ρ H1 ρ1 → SR K H1 ρ1 S → rel H1 ρ1 v d → EnvR K H1 ρ1 σ m → RS K E H1 ρ1 (f d S) D → P v H1) : RO K rel (E σ) H ρ o P := by
  cases o with
  | ok d S => exact fun v H' ρ' mo s r => k d S v H' ρ' mo s r (er.mo mo) (RS.mono h mo)
  | exc c S => exact fun dx H' ρ' mo s r => h σ dx H' ρ' mo s (er.mo mo) r
  | no => exact h
end
theorem PE.imp {X : Cx} {e : Expr} {t t' : TE} (h : PE X e t) (k : ∀ σ H Q, t' σ H Q → t σ H Q) : PE X e t' := ⟨fun pins s σ H Q I q => h.run pins s σ H Q I (k _ _ _ q)⟩
theorem PT.imp {X : Cx} {e : Expr} {t t' : TT} (h : PT X e t) (k : ∀ σ H Q, t' σ H Q → t σ H Q) : PT X e t' := ⟨fun pins s σ H Q I q => h.run pins s σ H Q I (k _ _ _ q)⟩
theorem PW.imp {X : Cx} {e : Expr} {t t' : TT} (h : PW X e t) (k : ∀ σ H Q, t' σ H Q → t σ H Q) : PW X e t' := ⟨fun w pins s σ H Q I q => h.run w pins s σ H Q I (k _ _ _ q)⟩
theorem PA.imp {X : Cx} {e : List Expr} {t t' : TA} (h : PA X e t) (k : ∀ σ H Q, t' σ H Q → t σ H Q) : PA X e t' := ⟨fun pos pins s σ H Q I q => h.run pos pins s σ H Q I (k _ _ _ q)⟩
theorem PS.imp {X : Cx} {e : Stmt} {t t' : TS} (h : PS X e t) (k : ∀ D σ H, t' D σ H → t D σ H) : PS X e t' := ⟨fun pins s σ H Q I q => h.run pins s σ H Q I (k _ _ _ q)⟩
theorem PSs.imp {X : Cx} {e : List Stmt} {t t' : TS} (h : PSs X e t) (k : ∀ D σ H, t' D σ H → t D σ H) : PSs X e t' := ⟨fun pins s σ H Q I q => h.run pins s σ H Q I (k _ _ _ q)⟩
/-- where a truth is wanted -/
def onBl {α : Type} (d : R) (f : Bool → Out α) : Out α := match d with
  | .v (.bl k) => f k
  | _ => .no
theorem RO.onBl {α β : Type} {K : PySem.W.Frag} {rel : Hp → Wd → β → α → Prop} {E : XK} {H : Hp} {ρ : Wd} {d : R} {v : V} {f : Bool → Out α} {Q : β → Hp → Prop} (r : Rq K H ρ v d) (h : RO K rel E H ρ (M.onBl d f) Q) : ∃ k, d = .bl k ∧ v = .bl k ∧ RO K rel E H ρ (f k) Q := by
  cases r with
  | ref e => exact h.elim
  | v r => cases r <;> first | exact (show False from h).elim | exact ⟨_, rfl, rfl, h⟩
section
variable {X : Cx} {E : St → XK} {a b c e : Expr} {es rest : List Expr} {pos : Pos} {ma mb mc : ME} {mt mu : MT} {mr : MA}
def mVar (i : Nat) : ME := fun m S => match m[i]? with
  | some (some d) => .ok d S
  | _ => .no
def mC (d : R) : ME := fun _ S => .ok d S
theorem pm_var (i : Nat) {x : Str} {pos : Pos} (hN : X.N[i]? = some x := by rfl) (hv : Vis X.env.scope x := by first | exact Or.inl rfl | exact Or.inr (Or.inl rfl) | exact Or.inr (Or.inr rfl)) (hd : (x == ("__debug__" : Str)) = false := by decide)
    (hcd : (x == ("__classdict__" : Str)) = false := by decide) : PE X (.Name x pos) (tE X.K E (mVar i)) := by
  refine PE.imp (pe_var hN hv hd hcd) ?_
  rintro σ H Q ⟨ρ, m, S, sr, er, h⟩
  unfold mVar at h
  split at h
  · rename_i d hd
    obtain ⟨v, e, r⟩ := er.get i d hd
    exact ⟨v, e, h v H ρ .refl sr r⟩
  · exact h.elim
theorem pm_c {v : V} {d : D} (h : PE X e (tC v)) (r : ∀ H ρ, Rp X.K H ρ v d) : PE X e (tE X.K E (mC (.v d))) := by
  refine PE.imp h ?_
  rintro σ H Q ⟨ρ, m, S, sr, er, h⟩
  exact h v H ρ .refl sr (.v (r _ _))
theorem pm_int {i j pos} : PE X (.Constant (.int i) j pos) (tE X.K E (mC (.int i))) := pm_c pe_int fun _ _ => .int i
theorem pm_bl {b j pos} : PE X (.Constant (.bool b) j pos) (tE X.K E (mC (.bl b))) := pm_c pe_bl fun _ _ => .bl b
theorem pm_str {x j pos} : PE X (.Constant (.str x) j pos) (tE X.K E (mC (.str x))) := pm_c pe_str fun _ _ => .str x
def rM (K : PySem.W.Frag) (g : R → R → Store → Out R) : R2 := fun x y H Q => ∃ (E : XK) (ρ : Wd) (S : Store) (d e : R), SR K H ρ S ∧ Rq K H ρ x d ∧ Rq K H ρ y e ∧ RO K (relD K) E H ρ (g d e S) Q
def rMA (K : PySem.W.Frag) (g : List R → Store → Out R) : List V → Hp → VK → Prop := fun xs H Q => ∃ (E : XK) (ρ : Wd) (S : Store) (ds : List R), SR K H ρ S ∧ RqA K H ρ xs ds ∧ RO K (relD K) E H ρ (g ds S) Q
def rMM (K : PySem.W.Frag) (g : R → List R → Store → Out R) : V → List V → Hp → VK → Prop := fun x xs H Q => ∃ (E : XK) (ρ : Wd) (S : Store) (d : R) (ds : List R), SR K H ρ S ∧ Rq K H ρ x d ∧ RqA K H ρ xs ds ∧ RO K (relD K) E H ρ (g d ds S) Q
def OpM (X : Cx) (f : Value → Value → Sem Value) (g : R → R → Store → Out R) : Prop := OpR X f (rM X.K g)
def CaM (X : Cx) (f : Value) (g : List R → Store → Out R) : Prop := CallR X f (rMA X.K g)
def mBin (g : R → R → Store → Out R) (a b : ME) : ME := fun m S => (a m S).bind fun x S1 => (b m S1).bind fun y S2 => g x y S2
def mUn (g : R → Store → Out R) (a : ME) : ME := fun m S => (a m S).bind fun x S1 => g x S1
theorem tOp_of {g : R → R → Store → Out R} {σ : St} {H : Hp} {Q : VK} (h : tE X.K E (mBin g ma mb) σ H Q) : tOp (rM X.K g) (tE X.K E ma) (tE X.K E mb) σ H Q := by
  obtain ⟨ρ, m, S, sr, er, h⟩ := h
  refine ⟨ρ, m, S, sr, er, RO.bind h fun d S1 v H1 ρ1 m1 s1 r1 h1 => ?_⟩
  refine ⟨ρ1, m, S1, s1, er.mo m1, RO.bind h1 fun e S2 w H2 ρ2 m2 s2 r2 h2 => ?_⟩
  exact ⟨_, ρ2, S2, d, e, s2, r1.mo m2, r2, h2⟩
theorem pm_bin {op : Operator} {g : R → R → Store → Out R} (ho : OpM X (binaryOp op) g) (ha : PE X a (tE X.K E ma)) (hb : PE X b (tE X.K E mb)) : PE X (.BinOp a op b pos) (tE X.K E (mBin g ma mb)) :=
  PE.imp (pe_op ho ha hb) fun _ _ _ h => tOp_of h
theorem pm_cmp {op : CmpOp} {g : R → R → Store → Out R} (ho : OpM X (compareOp op) g) (ha : PE X a (tE X.K E ma)) (hb : PE X b (tE X.K E mb)) (hm : behindInMarks op b = false := by first | exact nomark _ | rfl) : PE X (.Compare a [op] [b] pos) (tE X.K E (mBin g ma mb)) :=
  PE.imp (pe_cmpR ho ha hb hm) fun _ _ _ h => tOp_of h
def mtB (f : ME) : MT := fun m S => (f m S).bind fun d S1 => onBl d fun k => .ok k S1
theorem RO.bl {K : PySem.W.Frag} {E : XK} {H : Hp} {ρ : Wd} {o : Out R} {Q : Bool → Hp → Prop} (h : RO K relB E H ρ (o.bind fun d S1 => M.onBl d fun k => .ok k S1) Q) : RO K (relD K) E H ρ o fun x H' => ∃ k, x = .bl k ∧ Q k H' := by
  refine RO.bind h fun d S1 v H1 ρ1 m1 s1 r1 h1 => ?_
  obtain ⟨k, _, rfl, h1⟩ := RO.onBl r1 h1
  exact ⟨_, rfl, h1 _ H1 ρ1 .refl s1 rfl⟩
theorem tE.bl {K : PySem.W.Frag} {f : ME} {σ : St} {H : Hp} {Q : Bool → Hp → Prop} (h : tT K E (mtB f) σ H Q) : tE K E f σ H fun x H' => ∃ k, x = .bl k ∧ Q k H' := by
  obtain ⟨ρ, m, S, sr, er, h⟩ := h
  exact ⟨ρ, m, S, sr, er, RO.bl h⟩
theorem ptm_cmp {op : CmpOp} {g : R → R → Store → Out R} (ho : OpM X (compareOp op) g) (ha : PE X a (tE X.K E ma)) (hb : PE X b (tE X.K E mb)) (hm : behindInMarks op b = false := by first | exact nomark _ | rfl) : PT X (.Compare a [op] [b] pos) (tT X.K E (mtB (mBin g ma mb))) :=
  PT.imp (pt_cmpR ho ha hb hm) fun _ _ _ h => tOp_of (tE.bl h)
/-- a op b op' c -/
def mChain (g g' : R → R → Store → Out R) (a b c : ME) : ME := fun m S => (a m S).bind fun x S1 => (b m S1).bind fun y S2 => (g x y S2).bind fun z S3 => onBl z fun k => match k with
  | true => (c m S3).bind fun w S4 => g' y w S4
  | false => .ok (.bl false) S3
theorem tChain_of {g g' : R → R → Store → Out R} {σ : St} {H : Hp} {Q : VK} (h : tE X.K E (mChain g g' ma mb mc) σ H Q) : tChain (rM X.K g) (rM X.K g') (tE X.K E ma) (tE X.K E mb) (tE X.K E mc) σ H Q := by
  obtain ⟨ρ, m, S, sr, er, h⟩ := h
  refine ⟨ρ, m, S, sr, er, RO.bind h fun d S1 v H1 ρ1 m1 s1 r1 h1 => ?_⟩
  refine ⟨ρ1, m, S1, s1, er.mo m1, RO.bind h1 fun e S2 w H2 ρ2 m2 s2 r2 h2 => ?_⟩
  refine ⟨_, ρ2, S2, d, e, s2, r1.mo m2, r2, RO.bind h2 fun z S3 zv H3 ρ3 m3 s3 r3 h3 => ?_⟩
  obtain ⟨k, _, rfl, h3⟩ := RO.onBl r3 h3
  refine ⟨k, rfl, ?_⟩
  cases k with
  | false => exact h3 _ H3 ρ3 .refl s3 (.bl _)
  | true => exact ⟨ρ3, m, S3, s3, ((er.mo m1).mo m2).mo m3, RO.bind h3 fun c S4 cv H4 ρ4 m4 s4 r4 h4 => ⟨_, ρ4, S4, e, c, s4, (r2.mo m3).mo m4, r4, h4⟩⟩
theorem ptm_chain {op op' : CmpOp} {g g' : R → R → Store → Out R} (ho : OpM X (compareOp op) g) (ho' : OpM X (compareOp op') g') (ha : PE X a (tE X.K E ma)) (hb : PE X b (tE X.K E mb)) (hc : PE X c (tE X.K E mc)) (hm : lastMarks [op, op'] [b, c] = false := by with_unfolding_all rfl) :
    PT X (.Compare a [op, op'] [b, c] pos) (tT X.K E (mtB (mChain g g' ma mb mc))) := PT.imp (pt_chain ho ho' ha hb hc hm) fun _ _ _ h => tChain_of (tE.bl h)
/-- the items of a sequence -/
def seqC : MO → Option (List R)
  | .lst ds => some ds
  | .fz (.lst ds) => some (ds.map .v)
  | _ => none
def lsOf (S : Store) (n : Nat) : Option (List R) := S[n]?.bind seqC
/-- the items of a list, or a tuple -/
def seqOf (S : Store) : R → Option (List R)
  | .v (.tup ds) => some (ds.map .v)
  | .v (.lst ds) => some (ds.map .v)
  | .v (.kl ds) => some (ds.map .v)
  | .v (.kt ds) => some (ds.map .v)
  | .v _ => none
  | .ref n => lsOf S n
/-- of a list alone -/
def lstOf (S : Store) : R → Option (List R)
  | .v (.lst ds) => some (ds.map .v)
  | .v (.kl ds) => some (ds.map .v)
  | .v _ => none
  | .ref n => lsOf S n
theorem SR.ls {K : PySem.W.Frag} {H : Hp} {ρ : Wd} {S : Store} {n : Nat} {a : Addr} {ds : List R} (sr : SR K H ρ S) (e : ρ.r[n]? = some a) (h : lsOf S n = some ds) : ∃ xs, SqL K H a xs ∧ RqA K H ρ xs ds := by
  unfold lsOf at h
  obtain ⟨o, h1, h2⟩ := Option.bind_eq_some_iff.mp h
  have q := sr.obj n a o e h1
  unfold seqC at h2
  split at h2
  · cases h2
    obtain ⟨xs, hu, r⟩ := q
    exact ⟨xs, .inl (.inl hu), r⟩
  · cases h2
    have q : Rp K H ρ (.ref a) (.lst _) := q
    cases q with
    | lst hs ra => exact ⟨_, hs.sq, ra.q⟩
  · cases h2
theorem SR.seq {K : PySem.W.Frag} {H : Hp} {ρ : Wd} {S : Store} {v : V} {d : R} {ds : List R} (sr : SR K H ρ S) (r : Rq K H ρ v d) (e : seqOf S d = some ds) : ∃ p xs, v = .ref p ∧ (SqL K H p xs ∨ SqT K H p xs) ∧ RqA K H ρ xs ds := by
  cases r with
  | v r =>
    cases r <;> first | (cases e; done) | skip
    case tup hs ra => cases e; exact ⟨_, _, rfl, .inr (sqT_at hs), ra.q⟩
    case kt hs ra => cases e; exact ⟨_, _, rfl, .inr hs.sq, ra.q⟩
    case lst hs ra => cases e; exact ⟨_, _, rfl, .inl hs.sq, ra.q⟩
    case kl hs ra => cases e; exact ⟨_, _, rfl, .inl hs.sq, ra.q⟩
  | ref ea =>
    obtain ⟨xs, hq, ra⟩ := sr.ls ea e
    exact ⟨_, _, rfl, .inl hq, ra⟩
theorem SR.lsD {K : PySem.W.Frag} {H : Hp} {ρ : Wd} {S : Store} {v : V} {d : R} {ds : List R} (sr : SR K H ρ S) (r : Rq K H ρ v d) (h : lstOf S d = some ds) : ∃ a xs, v = .ref a ∧ SqL K H a xs ∧ RqA K H ρ xs ds := by
  cases r with
  | v r =>
    cases r <;> first | (cases h; done) | skip
    case lst hs ra => cases h; exact ⟨_, _, rfl, hs.sq, ra.q⟩
    case kl hs ra => cases h; exact ⟨_, _, rfl, hs.sq, ra.q⟩
  | ref ea =>
    obtain ⟨xs, q, r⟩ := sr.ls ea h
    exact ⟨_, _, rfl, q, r⟩
def truM (d : R) (S : Store) : Out Bool := match d with
  | .v .non => .ok false S
  | .v (.bl b) => .ok b S
  | .v (.int i) => .ok (i != 0) S
  | .v (.str x) => if x.length ≤ sizeLine then .ok ((x.length : Int) != 0) S else .no
  | .v (.tup ds) => .ok (!ds.isEmpty) S
  | .v (.lst ds) => .ok (!ds.isEmpty) S
  | .v (.kl ds) => .ok (!ds.isEmpty) S
  | .v (.dct ks _) => .ok (!ks.isEmpty) S
  | .v _ => .no
  | .ref n => match S[n]? with
    | some (.lst ds) => .ok (!ds.isEmpty) S
    | some (.fz (.lst ds)) => .ok (!ds.isEmpty) S
    | some (.dK kvs) => .ok (!kvs.isEmpty) S
    | _ => .no
def mtTru (f : ME) : MT := fun m S => (f m S).bind truM
theorem isEmpty_len {α β : Type} {xs : List α} {ys : List β} (h : xs.length = ys.length) : xs.isEmpty = ys.isEmpty := by
  cases xs <;> cases ys <;> first | rfl | simp at h
theorem tru_of {K : PySem.W.Frag} {E : XK} {H : Hp} {ρ : Wd} {S : Store} {v : V} {d : R} {Q : Bool → Hp → Prop} (sr : SR K H ρ S) (r : Rq K H ρ v d) (h : RO K relB E H ρ (truM d S) Q) : ∃ k, TruV K v H k ∧ Q k H := by
  cases r with
  | v r =>
    cases r with
    | non => exact ⟨_, rfl, h _ H ρ .refl sr rfl⟩
    | bl b => exact ⟨_, rfl, h _ H ρ .refl sr rfl⟩
    | int i => exact ⟨_, rfl, h _ H ρ .refl sr rfl⟩
    | str x =>
      have h : RO K relB E H ρ (if x.length ≤ sizeLine then .ok ((x.length : Int) != 0) S else .no) Q := h
      split at h
      · exact ⟨_, ⟨by assumption, rfl⟩, h _ H ρ .refl sr rfl⟩
      · exact h.elim
    | ty n => exact h.elim
    | txt x hx => exact h.elim
    | kt hs ha => exact h.elim
    | tup hs ha => exact ⟨_, .inr (.inl ⟨_, sqT_at hs, rfl⟩), h _ H ρ .refl sr (by rw [isEmpty_len ha.length])⟩
    | lst hs ha => exact ⟨_, .inl ⟨_, hs.sq, rfl⟩, h _ H ρ .refl sr (by rw [isEmpty_len ha.length])⟩
    | kl hs ha => exact ⟨_, .inl ⟨_, hs.sq, rfl⟩, h _ H ρ .refl sr (by rw [isEmpty_len ha.length])⟩
    | dct hz hd hl ha => exact ⟨_, .inr (.inr ⟨_, hd, rfl⟩), h _ H ρ .refl sr (by rename_i ks xs ds; rw [show (ks.zip xs).isEmpty = ks.isEmpty from isEmpty_len (by rw [List.length_zip, ← hl, Nat.min_self])])⟩
  | @ref a n e =>
    unfold truM at h
    simp only at h
    split at h
    · rename_i ds hs
      obtain ⟨xs, q, r⟩ := sr.ls (ds := ds) e (by unfold lsOf; rw [hs]; rfl)
      exact ⟨_, .inl ⟨xs, q, rfl⟩, h _ H ρ .refl sr (by rw [isEmpty_len r.length])⟩
    · rename_i ds hs
      obtain ⟨xs, q, r⟩ := sr.ls (ds := ds.map .v) e (by unfold lsOf; rw [hs]; rfl)
      exact ⟨_, .inl ⟨xs, q, rfl⟩, h _ H ρ .refl sr (by rw [show xs.isEmpty = ds.isEmpty from isEmpty_len (by rw [r.length, List.length_map])])⟩
    · rename_i kvs hs
      obtain ⟨u, hu, r⟩ := sr.obj n a _ e hs
      exact ⟨_, .inr (.inr ⟨_, hu, rfl⟩), h _ H ρ .refl sr (by rw [isEmpty_len (Paired.length r)])⟩
    · exact h.elim
theorem ptm_val (ha : PE X a (tE X.K E ma)) (he : ∀ whole, isTrue a X.env whole = (do let v ← whole; standAt a.pos; holding [v] (truthy v)) := by intro _; rfl) : PT X a (tT X.K E (mtTru ma)) := by
  refine PT.imp (pt_truth ha he) ?_
  rintro σ H Q ⟨ρ, m, S, sr, er, h⟩
  exact ⟨ρ, m, S, sr, er, RO.bind h fun d S1 v H1 ρ1 m1 s1 r1 h1 => tru_of s1 r1 h1⟩
def mtAnd (a b : MT) : MT := fun m S => (a m S).bind fun k S1 => match k with
  | true => b m S1
  | false => .ok false S1
def mtOr (a b : MT) : MT := fun m S => (a m S).bind fun k S1 => match k with
  | true => .ok true S1
  | false => b m S1
def mtNot (a : MT) : MT := fun m S => (a m S).bind fun k S1 => .ok (!k) S1
theorem ptm_not (ha : PT X a (tT X.K E mt)) : PT X (.UnaryOp .Not a pos) (tT X.K E (mtNot mt)) := by
  refine PT.imp (pt_not ha) ?_
  rintro σ H Q ⟨ρ, m, S, sr, er, h⟩
  exact ⟨ρ, m, S, sr, er, RO.bind h fun d S1 v H1 ρ1 m1 s1 r1 h1 => by subst r1; exact h1 _ H1 ρ1 .refl s1 rfl⟩
theorem pwm_and1 (ha : PT X a (tT X.K E mt)) : PW X (.BoolOp .And [a] pos) (tT X.K E mt) := pw_and1 ha
theorem pwm_or1 (ha : PT X a (tT X.K E mt)) : PW X (.BoolOp .Or [a] pos) (tT X.K E mt) := pw_or1 ha
theorem pwm_and (ha : PT X a (tT X.K E mt)) (hb : PW X (.BoolOp .And (b :: rest) pos) (tT X.K E mu)) : PW X (.BoolOp .And (a :: b :: rest) pos) (tT X.K E (mtAnd mt mu)) := by
  refine PW.imp (pw_and ha hb) ?_
  rintro σ H Q ⟨ρ, m, S, sr, er, h⟩
  refine ⟨ρ, m, S, sr, er, RO.bind h fun d S1 v H1 ρ1 m1 s1 r1 h1 => ?_⟩
  subst r1
  cases v with
  | true => exact iteT ⟨ρ1, m, S1, s1, er.mo m1, h1⟩
  | false => exact iteF (h1 _ H1 ρ1 .refl s1 rfl)
theorem pwm_or (ha : PT X a (tT X.K E mt)) (hb : PW X (.BoolOp .Or (b :: rest) pos) (tT X.K E mu)) : PW X (.BoolOp .Or (a :: b :: rest) pos) (tT X.K E (mtOr mt mu)) := by
  refine PW.imp (pw_or ha hb) ?_
  rintro σ H Q ⟨ρ, m, S, sr, er, h⟩
  refine ⟨ρ, m, S, sr, er, RO.bind h fun d S1 v H1 ρ1 m1 s1 r1 h1 => ?_⟩
  subst r1
  cases v with
  | true => exact iteT (h1 _ H1 ρ1 .refl s1 rfl)
  | false => exact iteF ⟨ρ1, m, S1, s1, er.mo m1, h1⟩
/-- and, or, not as values (bools ahead of the last) -/
def mAnd (a b : ME) : ME := fun m S => (a m S).bind fun k S1 => onBl k fun k => match k with
  | true => b m S1
  | false => .ok (.bl false) S1
def mOr (a b : ME) : ME := fun m S => (a m S).bind fun k S1 => onBl k fun k => match k with
  | true => .ok (.bl true) S1
  | false => b m S1
def mNot (a : ME) : ME := fun m S => (a m S).bind fun k S1 => onBl k fun k => .ok (.bl (!k)) S1
theorem pm_one {op} (h : PE X a (tE X.K E ma)) : PE X (.BoolOp op [a] pos) (tE X.K E ma) := pe_one h
theorem pm_and (ha : PE X a (tE X.K E ma)) (hb : PE X (.BoolOp .And (b :: rest) pos) (tE X.K E mb)) : PE X (.BoolOp .And (a :: b :: rest) pos) (tE X.K E (mAnd ma mb)) := by
  refine PE.imp (pe_and ha hb) ?_
  rintro σ H Q ⟨ρ, m, S, sr, er, h⟩
  refine ⟨ρ, m, S, sr, er, RO.bind h fun d S1 v H1 ρ1 m1 s1 r1 h1 => ?_⟩
  obtain ⟨k, _, rfl, h1⟩ := RO.onBl r1 h1
  refine ⟨k, rfl, ?_⟩
  cases k with
  | true => exact iteT ⟨ρ1, m, S1, s1, er.mo m1, h1⟩
  | false => exact iteF (h1 _ H1 ρ1 .refl s1 (.bl _))
def mIf (t : MT) (a b : ME) : ME := fun m S => (t m S).bind fun k S1 => match k with
  | true => a m S1
  | false => b m S1
def mNil : MA := fun _ S => .ok [] S
def mCons (a : ME) (r : MA) : MA := fun m S => (a m S).bind fun d S1 => (r m S1).bind fun ds S2 => .ok (d :: ds) S2
theorem pam_nil : PA X [] (tA X.K E mNil) := by
  refine PA.imp pa_nil ?_
  rintro σ H Q ⟨ρ, m, S, sr, er, h⟩
  exact h _ H ρ .refl sr .nil
theorem pam_cons (ha : PE X e (tE X.K E ma)) (hr : PA X es (tA X.K E mr)) (hs : starEach (e :: es) X.env = (false, eval e X.env) :: starEach es X.env := by rfl) : PA X (e :: es) (tA X.K E (mCons ma mr)) := by
  refine PA.imp (pa_cons ha hr hs) ?_
  rintro σ H Q ⟨ρ, m, S, sr, er, h⟩
  refine ⟨ρ, m, S, sr, er, RO.bind h fun d S1 v H1 ρ1 m1 s1 r1 h1 => ?_⟩
  refine ⟨ρ1, m, S1, s1, er.mo m1, RO.bind h1 fun ds S2 vs H2 ρ2 m2 s2 r2 h2 => ?_⟩
  exact h2 _ H2 ρ2 .refl s2 (.cons (r1.mo m2) r2)
mutual
def frz : Nat → Store → R → Option (D × Store)
  | _, S, .v d => some (d, S)
  | 0, _, .ref _ => none
  | k + 1, S, .ref n => match S[n]? with
    | some (.fz d) => some (d, S)
    | some (.lst rs) => (frzA k S rs).bind fun p => some (.lst p.1, p.2.set n (.fz (.lst p.1)))
    | some (.dK kvs) => (frzA k S (kvs.map (·.2))).bind fun p => some (.dct (kvs.map (·.1)) p.1, p.2.set n (.fz (.dct (kvs.map (·.1)) p.1)))
    | _ => none
  termination_by k _ _ => (k, 0)
def frzA : Nat → Store → List R → Option (List D × Store)
  | _, S, [] => some ([], S)
  | k, S, r :: rs => (frz k S r).bind fun p => (frzA k p.2 rs).bind fun q => some (p.1 :: q.1, q.2)
  termination_by k _ rs => (k, rs.length + 1)
end
theorem frz_v (k : Nat) (S : Store) (d : D) : frz k S (.v d) = some (d, S) := by cases k <;> simp [frz]
theorem frzA_map (k : Nat) (S : Store) : ∀ ds : List D, frzA k S (ds.map .v) = some (ds, S)
  | [] => by simp [frzA]
  | d :: ds => by simp [frzA, frz_v, frzA_map k S ds]
theorem SR.freeze {K : PySem.W.Frag} {H : Hp} {ρ : Wd} {S : Store} {n : Nat} {a : Addr} {d : D} (sr : SR K H ρ S) (e : ρ.r[n]? = some a) (h : Rp K H ⟨ρ.r, fun b => ρ.z b ∨ b = a⟩ (.ref a) d) :
    SR K H ⟨ρ.r, fun b => ρ.z b ∨ b = a⟩ (S.set n (.fz d)) ∧ Mo K H ρ H ⟨ρ.r, fun b => ρ.z b ∨ b = a⟩ := by
  have mo : Mo K H ρ H ⟨ρ.r, fun b => ρ.z b ∨ b = a⟩ := ⟨fun _ _ h => h, fun _ _ h => h, fun _ _ h => h, fun b h => ⟨.inl h, rfl⟩⟩
  have cas : ∀ (k : Nat) (b : Addr) (o' : MO), ρ.r[k]? = some b → (S.set n (.fz d))[k]? = some o' → (k = n ∧ b = a ∧ o' = .fz d) ∨ (k ≠ n ∧ b ≠ a ∧ S[k]? = some o') := fun k b o' e' q => by
    by_cases hk : n = k
    · subst hk
      rw [e] at e'; cases e'
      have hs : n < S.length := by
        rcases Nat.lt_or_ge n S.length with z | z
        · exact z
        · rw [List.getElem?_eq_none (by rw [List.length_set]; exact z)] at q; cases q
      rw [List.getElem?_set_self hs] at q
      exact .inl ⟨rfl, rfl, (Option.some.inj q).symm⟩
    · rw [List.getElem?_set_ne hk] at q
      exact .inr ⟨fun z => hk z.symm, fun z => hk (nd_at sr.nd e (z ▸ e')), q⟩
  refine ⟨⟨sr.nd, by rw [List.length_set]; exact sr.len, fun k b o' e' q => ?_, fun k b o' e' q hl => ?_, fun b h => ?_, sr.r⟩, mo⟩
  · rcases cas k b o' e' q with ⟨rfl, rfl, rfl⟩ | ⟨_, hb, q⟩
    · exact h
    · exact (sr.obj k b o' e' q).mo mo rfl
  · rcases cas k b o' e' q with ⟨rfl, rfl, rfl⟩ | ⟨_, hb, q⟩
    · exact hl.elim
    · rintro (z | z)
      · exact sr.lv k b o' e' q hl z
      · exact hb z
  · rcases h with h | h
    · exact sr.z b h
    · subst h; exact sr.r n b e
mutual
theorem frz_ok {K : PySem.W.Frag} {H : Hp} : ∀ (k : Nat) (S : Store) (r : R) (d : D) (S' : Store) (ρ : Wd) (v : V), frz k S r = some (d, S') → SR K H ρ S → Rq K H ρ v r → ∃ z', SR K H ⟨ρ.r, z'⟩ S' ∧ Mo K H ρ H ⟨ρ.r, z'⟩ ∧ Rp K H ⟨ρ.r, z'⟩ v d
  | k, S, .v d, d', S', ρ, v, e, sr, r => by
    rw [frz_v] at e
    cases e
    cases r with
    | v r => exact ⟨ρ.z, sr, .refl, r⟩
  | 0, S, .ref n, d', S', ρ, v, e, sr, r => by simp [frz] at e
  | k + 1, S, .ref n, d', S', ρ, v, e, sr, r => by
    cases r with
    | @ref a _ ea =>
      unfold frz at e
      split at e
      · rename_i d hd
        cases e
        exact ⟨ρ.z, sr, .refl, sr.obj n a _ ea hd⟩
      · rename_i rs hd
        obtain ⟨⟨ds, S1⟩, e1, e2⟩ := Option.bind_eq_some_iff.mp e
        cases e2
        obtain ⟨xs, hu, ra⟩ := sr.obj n a _ ea hd
        obtain ⟨z1, s1, m1, r1⟩ := frzA_ok k S rs ds S1 ρ xs e1 sr ra
        have rp : Rp K H ⟨ρ.r, fun b => z1 b ∨ b = a⟩ (.ref a) (.lst ds) := .lst ⟨.inr rfl, hu⟩ (r1.mo ⟨fun _ _ h => h, fun _ _ h => h, fun _ _ h => h, fun b h => ⟨.inl h, rfl⟩⟩)
        obtain ⟨s2, m2⟩ := s1.freeze (n := n) (a := a) (d := .lst ds) ea rp
        exact ⟨_, s2, m1.trans m2, rp⟩
      · rename_i kvs hd
        obtain ⟨⟨ds, S1⟩, e1, e2⟩ := Option.bind_eq_some_iff.mp e
        cases e2
        obtain ⟨xs, hu, ra⟩ := sr.obj n a _ ea hd
        have ks : ∀ {xs : List (Key × V)} {kvs : List (Key × R)}, RpP K H ρ xs kvs → kvs.map (·.1) = xs.map (·.1) ∧ RqA K H ρ (xs.map (·.2)) (kvs.map (·.2)) := by
          intro xs kvs h
          induction h with
          | nil => exact ⟨rfl, .nil⟩
          | cons h1 h2 ih => exact ⟨by simp [h1.1, ih.1], .cons h1.2 ih.2⟩
        obtain ⟨k1, k2⟩ := ks ra
        obtain ⟨z1, s1, m1, r1⟩ := frzA_ok k S _ ds S1 ρ _ e1 sr k2
        have hz : xs = (kvs.map (·.1)).zip (xs.map (·.2)) := by
          rw [k1]
          clear hu ra k1 k2 r1
          induction xs with
          | nil => rfl
          | cons x xs ih => simp [← ih]
        have rp : Rp K H ⟨ρ.r, fun b => z1 b ∨ b = a⟩ (.ref a) (.dct (kvs.map (·.1)) ds) := .dct (.inr rfl) (by rw [← hz]; exact hu) (by rw [k1]; simp) (r1.mo ⟨fun _ _ h => h, fun _ _ h => h, fun _ _ h => h, fun b h => ⟨.inl h, rfl⟩⟩)
        obtain ⟨s2, m2⟩ := s1.freeze (n := n) (a := a) (d := .dct (kvs.map (·.1)) ds) ea rp
        exact ⟨_, s2, m1.trans m2, rp⟩
      · cases e
  termination_by k _ _ => (k, 0)
theorem frzA_ok {K : PySem.W.Frag} {H : Hp} : ∀ (k : Nat) (S : Store) (rs : List R) (ds : List D) (S' : Store) (ρ : Wd) (vs : List V), frzA k S rs = some (ds, S') → SR K H ρ S → RqA K H ρ vs rs → ∃ z', SR K H ⟨ρ.r, z'⟩ S' ∧ Mo K H ρ H ⟨ρ.r, z'⟩ ∧ RpA K H ⟨ρ.r, z'⟩ vs ds
  | k, S, [], ds, S', ρ, vs, e, sr, r => by
    unfold frzA at e
    cases e
    cases r
    exact ⟨ρ.z, sr, .refl, .nil⟩
  | k, S, r0 :: rs, ds, S', ρ, vs, e, sr, r => by
    unfold frzA at e
    obtain ⟨⟨d, S1⟩, e1, e2⟩ := Option.bind_eq_some_iff.mp e
    obtain ⟨⟨ds', S2⟩, e3, e4⟩ := Option.bind_eq_some_iff.mp e2
    cases e4
    cases r with
    | cons ra rb =>
      obtain ⟨z1, s1, m1, r1⟩ := frz_ok k S r0 d S1 ρ _ e1 sr ra
      obtain ⟨z2, s2, m2, r2⟩ := frzA_ok k S1 rs ds' S2 ⟨ρ.r, z1⟩ _ e3 s1 (RqA.mo rb m1)
      exact ⟨z2, s2, m1.trans m2, .cons (r1.mo m2) r2⟩
  termination_by k _ rs => (k, rs.length + 1)
end
def frzO {α : Type} (S : Store) (rs : List R) (f : List D → Store → Out α) : Out α := match frzA 8 S rs with
  | some p => f p.1 p.2
  | none => .no
theorem RO.frz {α β : Type} {K : PySem.W.Frag} {rel : Hp → Wd → β → α → Prop} {E : XK} {H : Hp} {ρ : Wd} {S : Store} {rs : List R} {vs : List V} {f : List D → Store → Out α} {Q : β → Hp → Prop} (sr : SR K H ρ S) (r : RqA K H ρ vs rs) (h : RO K rel E H ρ (frzO S rs f) Q) :
    ∃ ds S' ρ', SR K H ρ' S' ∧ Mo K H ρ H ρ' ∧ RpA K H ρ' vs ds ∧ RO K rel E H ρ' (f ds S') Q := by
  unfold frzO at h
  split at h
  · rename_i p e
    obtain ⟨z', s1, m1, r1⟩ := frzA_ok 8 S rs p.1 p.2 ρ vs e sr r
    exact ⟨_, _, _, s1, m1, r1, RO.mono h m1⟩
  · exact h.elim
/-- a new tuple; a new list that is a cell, one by value -/
def mTup (r : MA) : ME := fun m S => (r m S).bind fun rs S1 => frzO S1 rs fun ds S2 => if ds.length ≤ sizeLine then .ok (.tup ds) S2 else .no
def mLst (r : MA) : ME := fun m S => (r m S).bind fun ds S1 => if ds.length ≤ sizeLine then .ok (.ref S1.length) (S1 ++ [.lst ds]) else .no
def mLstV (r : MA) : ME := fun m S => (r m S).bind fun rs S1 => frzO S1 rs fun ds S2 => if ds.length ≤ sizeLine then .ok (.lst ds) S2 else .no
/-- a new list -/
theorem RO.lst {K : PySem.W.Frag} {E : XK} {H : Hp} {ρ : Wd} {S : Store} {ds : List R} {xs : List V} {Q : VK} (sr : SR K H ρ S) (r : RqA K H ρ xs ds) (h : RO K (relD K) E H ρ (.ok (.ref S.length) (S ++ [.lst ds])) Q) {p : Addr} (hp : H p = none) : Q (.ref p) (upd H p (.lst xs)) := by
  have mo : Mo K H ρ (upd H p (.lst xs)) ⟨ρ.r ++ [p], ρ.z⟩ := .newR sr hp
  refine h _ _ ⟨ρ.r ++ [p], ρ.z⟩ mo (sr.new hp ⟨xs, upd_same, r.mo mo⟩) (.ref ?_)
  show (ρ.r ++ [p])[S.length]? = _
  rw [List.getElem?_append_right (by rw [sr.len]; exact Nat.le_refl _), sr.len, Nat.sub_self]
  rfl
theorem RO.tup {K : PySem.W.Frag} {E : XK} {H : Hp} {ρ : Wd} {S : Store} {ds : List D} {xs : List V} {Q : VK} (sr : SR K H ρ S) (r : RpA K H ρ xs ds) (h : RO K (relD K) E H ρ (.ok (.tup ds) S) Q) {p : Addr} (hp : H p = none) : Q (.ref p) (upd H p (.tup xs)) :=
  h _ _ ρ (.new sr hp) (sr.newT hp) (.v (.tup upd_same (r.mo (.new sr hp))))
/-- a new thing, frozen at once -/
theorem SR.newZ {K : PySem.W.Frag} {H : Hp} {ρ : Wd} {S : Store} (sr : SR K H ρ S) {p : Addr} {u : HO} (hp : H p = none) : SR K (upd H p u) ⟨ρ.r, fun b => ρ.z b ∨ b = p⟩ S ∧ Mo K H ρ (upd H p u) ⟨ρ.r, fun b => ρ.z b ∨ b = p⟩ := by
  have s1 := sr.newT (u := u) hp
  have mo1 : Mo K H ρ (upd H p u) ρ := .new sr hp
  have mo : Mo K H ρ (upd H p u) ⟨ρ.r, fun b => ρ.z b ∨ b = p⟩ := ⟨mo1.tup, mo1.kl, mo1.ref, fun b h => ⟨.inl h, (mo1.z b h).2⟩⟩
  have mo2 : Mo K (upd H p u) ρ (upd H p u) ⟨ρ.r, fun b => ρ.z b ∨ b = p⟩ := ⟨fun _ _ h => h, fun _ _ h => h, fun _ _ h => h, fun b h => ⟨.inl h, rfl⟩⟩
  refine ⟨⟨s1.nd, s1.len, fun n a o e q => (s1.obj n a o e q).mo mo2 rfl, fun n a o e q hl => ?_, fun a h => ?_, s1.r⟩, mo⟩
  · rintro (z | z)
    · exact s1.lv n a o e q hl z
    · subst z; exact sr.r n a e hp
  · rcases h with h | h
    · exact s1.z a h
    · subst h; rw [upd_same]; exact fun z => nomatch z
theorem RO.lstV {K : PySem.W.Frag} {E : XK} {H : Hp} {ρ : Wd} {S : Store} {ds : List D} {xs : List V} {Q : VK} (sr : SR K H ρ S) (r : RpA K H ρ xs ds) (h : RO K (relD K) E H ρ (.ok (.lst ds) S) Q) {p : Addr} (hp : H p = none) : Q (.ref p) (upd H p (.lst xs)) := by
  obtain ⟨s1, mo⟩ := sr.newZ (u := .lst xs) hp
  exact h _ _ _ mo s1 (.v (.lst ⟨.inr rfl, upd_same⟩ (r.mo mo)))
theorem pm_tup {k : Nat} (ha : PA X es (tA X.K E mr)) : PE X (.Tuple es k pos) (tE X.K E (mTup mr)) := by
  refine PE.imp (pe_tup ha) ?_
  rintro σ H Q ⟨ρ, m, S, sr, er, h⟩
  refine ⟨ρ, m, S, sr, er, RO.bind h fun ds S1 xs H1 ρ1 m1 s1 r1 h1 => ?_⟩
  obtain ⟨es, S2, ρ2, s2, m2, r2, h2⟩ := RO.frz s1 r1 h1
  split at h2
  · exact ⟨by rw [r2.length]; assumption, fun p hp => RO.tup s2 r2 h2 hp⟩
  · exact h2.elim
theorem pm_lst (ha : PA X es (tA X.K E mr)) : PE X (.List es pos) (tE X.K E (mLst mr)) := by
  refine PE.imp (pe_lst ha) ?_
  rintro σ H Q ⟨ρ, m, S, sr, er, h⟩
  refine ⟨ρ, m, S, sr, er, RO.bind h fun ds S1 xs H1 ρ1 m1 s1 r1 h1 => ?_⟩
  split at h1
  · exact ⟨by rw [r1.length]; assumption, fun p hp => RO.lst s1 r1 h1 hp⟩
  · exact h1.elim
theorem pm_lstV (ha : PA X es (tA X.K E mr)) : PE X (.List es pos) (tE X.K E (mLstV mr)) := by
  refine PE.imp (pe_lst ha) ?_
  rintro σ H Q ⟨ρ, m, S, sr, er, h⟩
  refine ⟨ρ, m, S, sr, er, RO.bind h fun ds S1 xs H1 ρ1 m1 s1 r1 h1 => ?_⟩
  obtain ⟨es, S2, ρ2, s2, m2, r2, h2⟩ := RO.frz s1 r1 h1
  split at h2
  · exact ⟨by rw [r2.length]; assumption, fun p hp => RO.lstV s2 r2 h2 hp⟩
  · exact h2.elim
def mCall (g : List R → Store → Out R) (r : MA) : ME := fun m S => (r m S).bind g
theorem pm_callB {x : Str} {p : Pos} {id : String} {g : List R → Store → Out R} (hc : CaM X (.builtin id) g) (hg : Gl X x) (hm : X.mg x = none) (hv : bootBuiltins x = some (.builtin id)) (ha : PA X (e :: es) (tA X.K E mr)) (hn : x ≠ "__name__" := by decide) (hdb : (x == ("__debug__" : Str)) = false := by decide)
    (he : starEach (e :: es) X.env = (false, eval e X.env) :: starEach es X.env := by rfl) (hpl : (backTo pos (starEach es X.env)).any (·.1) = false := by rfl) : PE X (.Call (.Name x p) (e :: es) [] pos) (tE X.K E (mCall g mr)) := by
  refine PE.imp (pe_callB hc hg hm hv ha hn hdb he hpl) ?_
  rintro σ H Q ⟨ρ, m, S, sr, er, h⟩
  exact ⟨ρ, m, S, sr, er, RO.bind h fun ds S1 xs H1 ρ1 m1 s1 r1 h1 => ⟨_, ρ1, S1, ds, s1, r1, h1⟩⟩
theorem pm_callTy {x : Str} {p : Pos} {T : String} {g : List R → Store → Out R} (hc : CaM X (.type T) g) (hg : Gl X x) (hm : X.mg x = none) (hv : bootBuiltins x = some (.type T)) (ha : PA X (e :: es) (tA X.K E mr)) (hn : x ≠ "__name__" := by decide) (hdb : (x == ("__debug__" : Str)) = false := by decide)
    (he : starEach (e :: es) X.env = (false, eval e X.env) :: starEach es X.env := by rfl) (hpl : (backTo pos (starEach es X.env)).any (·.1) = false := by rfl) : PE X (.Call (.Name x p) (e :: es) [] pos) (tE X.K E (mCall g mr)) := by
  refine PE.imp (pe_callTy hc hg hm hv ha hn hdb he hpl) ?_
  rintro σ H Q ⟨ρ, m, S, sr, er, h⟩
  exact ⟨ρ, m, S, sr, er, RO.bind h fun ds S1 xs H1 ρ1 m1 s1 r1 h1 => ⟨_, ρ1, S1, ds, s1, r1, h1⟩⟩
/-- what a def promises that the mirror g tells -/
def spM (K : PySem.W.Frag) (n : Nat) (g : List R → Store → Out R) : Sp := fun vs H Q E => vs.length = n ∧ ∃ (ρ : Wd) (S : Store) (ds : List R), SR K H ρ S ∧ RqA K H ρ vs ds ∧ RO K (relD K) E H ρ (g ds S) Q
end
end M
namespace M
open PySem PySem.Spec L2
open PyProof.Rows hiding St
def R.lo (k : Nat) : R → Prop
  | .v _ => True
  | .ref n => n < k
def MO.lo (k : Nat) : MO → Prop
  | .lst rs => ∀ r ∈ rs, r.lo k
  | .dK kvs => ∀ p ∈ kvs, p.2.lo k
  | .dT kvs => ∀ p ∈ kvs, p.2.lo k
  | .ins _ fs => ∀ p ∈ fs, p.2.lo k
  | .lkK kvs => ∀ p ∈ kvs, p.2.lo k
  | .lkT kvs => ∀ p ∈ kvs, p.2.lo k
  | .fz _ => True
/-- what was there stands, or points to nothing new -/
def Upd (S T : Store) : Prop := T.length = S.length ∧ ∀ (i : Nat) (c : MO), T[i]? = some c → S[i]? = some c ∨ c.lo S.length
def OkCut (S T : Store) : Prop := S.length ≤ T.length ∧ Upd S (T.take S.length)
open Classical in
noncomputable def cut (S T : Store) : Store := if OkCut S T then T.take S.length else T
theorem Upd.refl (S : Store) : Upd S S := ⟨rfl, fun _ _ h => .inl h⟩
theorem Upd.set {S T : Store} {n : Nat} {c : MO} (h : Upd S T) (hc : c.lo S.length) : Upd S (T.set n c) := by
  refine ⟨by rw [List.length_set]; exact h.1, fun i c' e => ?_⟩
  by_cases hi : n = i
  · subst hi
    by_cases hl : n < T.length
    · rw [List.getElem?_set_self hl] at e
      cases e
      exact .inr hc
    · rw [List.getElem?_eq_none (by rw [List.length_set]; omega)] at e; cases e
  · rw [List.getElem?_set_ne hi] at e
    exact h.2 i c' e
theorem MO.lo.mono {k j : Nat} (h : k ≤ j) : ∀ {c : MO}, c.lo k → c.lo j := by
  have hr : ∀ r : R, r.lo k → r.lo j := fun r hr => by
    cases r with
    | v d => trivial
    | ref n => exact Nat.lt_of_lt_of_le hr h
  intro c hc
  cases c with
  | lst rs => exact fun r m => hr r (hc r m)
  | dK rs => exact fun r m => hr _ (hc r m)
  | dT rs => exact fun r m => hr _ (hc r m)
  | ins C rs => exact fun r m => hr _ (hc r m)
  | lkK rs => exact fun r m => hr _ (hc r m)
  | lkT rs => exact fun r m => hr _ (hc r m)
  | fz d => trivial
theorem Upd.trans {S T U : Store} (a : Upd S T) (b : Upd T U) : Upd S U := by
  refine ⟨b.1.trans a.1, fun i c e => ?_⟩
  rcases b.2 i c e with h | h
  · exact a.2 i c h
  · exact .inr (h.mono (Nat.le_of_eq a.1))
theorem cut_app {S T : Store} (t : Store) (h : Upd S T) : cut S (T ++ t) = T := by
  have e : (T ++ t).take S.length = T := by rw [← h.1, List.take_left]
  unfold cut
  rw [if_pos ⟨by rw [List.length_append, h.1]; omega, by rw [e]; exact h⟩, e]
theorem cut_upd {S T : Store} (h : Upd S T) : cut S T = T := by
  have := cut_app (t := []) h
  rwa [List.append_nil] at this
theorem cut_self (S : Store) : cut S S = S := cut_upd (.refl S)
section
variable {K : PySem.W.Frag} {H H' H0 : Hp} {ρ ρ' ρ0 : Wd} {S T : Store}
mutual
theorem Rp.zz {p q : List Addr} {z : Addr → Prop} : ∀ (d : D) (v : V), Rp K H ⟨p, z⟩ v d → Rp K H ⟨q, z⟩ v d
  | .non, _, h => by cases h; exact .non
  | .bl b, _, h => by cases h; exact .bl b
  | .int i, _, h => by cases h; exact .int i
  | .str x, _, h => by cases h; exact .str x
  | .ty n, _, h => by cases h; exact .ty n
  | .tup ds, _, h => by
    cases h with
    | tup hs ha => exact .tup hs (RpA.zz ds _ ha)
  | .lst ds, _, h => by
    cases h with
    | lst hs ha => exact .lst hs (RpA.zz ds _ ha)
  | .kl ds, _, h => by
    cases h with
    | kl hs ha => exact .kl hs (RpA.zz ds _ ha)
  | .dct ks ds, _, h => by
    cases h with
    | dct hz hs hl ha => exact .dct hz hs hl (RpA.zz ds _ ha)
  | .txt, _, h => by
    cases h with
    | txt x hx => exact .txt x hx
  | .kt ds, _, h => by
    cases h with
    | kt hs ha => exact .kt hs (RpA.zz ds _ ha)
theorem RpA.zz {p q : List Addr} {z : Addr → Prop} : ∀ (ds : List D) (vs : List V), RpA K H ⟨p, z⟩ vs ds → RpA K H ⟨q, z⟩ vs ds
  | [], _, h => by cases h; exact .nil
  | d :: ds, _, h => by
    cases h with
    | cons h1 h2 => exact .cons (Rp.zz d _ h1) (RpA.zz ds _ h2)
end
theorem Rq.lo {v : V} {r : R} (h : Rq K H ρ v r) : r.lo ρ.r.length := by
  cases h with
  | v h => trivial
  | ref e => exact (List.getElem?_eq_some_iff.mp e).1
theorem Rq.take {v : V} {r : R} {k : Nat} (h : Rq K H ρ v r) (hb : r.lo k) : Rq K H ⟨ρ.r.take k, ρ.z⟩ v r := by
  cases h with
  | v h => exact .v (Rp.zz _ _ h)
  | ref e => exact .ref (by rw [List.getElem?_take_of_lt hb]; exact e)
theorem RqA.lo {vs : List V} {rs : List R} (h : RqA K H ρ vs rs) : ∀ r ∈ rs, r.lo ρ.r.length := by
  induction h with
  | nil => intro r hr; cases hr
  | cons h1 h2 ih =>
    intro r hr
    rcases List.mem_cons.mp hr with rfl | hr
    · exact h1.lo
    · exact ih r hr
theorem RqA.takeW {vs : List V} {rs : List R} {k : Nat} (h : RqA K H ρ vs rs) (hb : ∀ r ∈ rs, r.lo k) : RqA K H ⟨ρ.r.take k, ρ.z⟩ vs rs := by
  induction h with
  | nil => exact .nil
  | cons h1 h2 ih => exact .cons (h1.take (hb _ (by simp))) (ih fun r hr => hb r (by simp [hr]))
theorem RpP.lo {κ : Type} {vs : List (κ × V)} {rs : List (κ × R)} (h : RpP K H ρ vs rs) : ∀ r ∈ rs, r.2.lo ρ.r.length := by
  induction h with
  | nil => intro r hr; cases hr
  | cons h1 h2 ih =>
    intro r hr
    rcases List.mem_cons.mp hr with rfl | hr
    · exact h1.2.lo
    · exact ih r hr
theorem RpP.takeW {κ : Type} {vs : List (κ × V)} {rs : List (κ × R)} {k : Nat} (h : RpP K H ρ vs rs) (hb : ∀ r ∈ rs, r.2.lo k) : RpP K H ⟨ρ.r.take k, ρ.z⟩ vs rs := by
  induction h with
  | nil => exact .nil
  | cons h1 h2 ih => exact .cons ⟨h1.1, h1.2.take (hb _ (by simp))⟩ (ih fun r hr => hb r (by simp [hr]))
theorem HoR.lo {a : Addr} : ∀ {c : MO}, HoR K H ρ a c → c.lo ρ.r.length
  | .lst _, ⟨_, _, r⟩ => RqA.lo r
  | .dK _, ⟨_, _, r⟩ => RpP.lo r
  | .dT _, ⟨_, _, r⟩ => RpP.lo r
  | .ins _ _, ⟨_, _, _, _, _, r⟩ => RpP.lo r
  | .lkK _, ⟨_, _, _, _, r⟩ => RpP.lo r
  | .lkT _, ⟨_, _, _, _, r⟩ => RpP.lo r
  | .fz _, _ => trivial
theorem HoR.takeW {a : Addr} {k : Nat} : ∀ {c : MO}, HoR K H ρ a c → c.lo k → HoR K H ⟨ρ.r.take k, ρ.z⟩ a c
  | .lst _, ⟨xs, h, r⟩, hb => ⟨xs, h, RqA.takeW r hb⟩
  | .dK _, ⟨xs, h, r⟩, hb => ⟨xs, h, RpP.takeW r hb⟩
  | .dT _, ⟨xs, h, r⟩, hb => ⟨xs, h, RpP.takeW r hb⟩
  | .ins _ _, ⟨c, dx, xs, hc, h, r⟩, hb => ⟨c, dx, xs, hc, h, RpP.takeW r hb⟩
  | .lkK _, ⟨hz, od, xs, h, r⟩, hb => ⟨hz, od, xs, h, RpP.takeW r hb⟩
  | .lkT _, ⟨hz, od, xs, h, r⟩, hb => ⟨hz, od, xs, h, RpP.takeW r hb⟩
  | .fz _, h, _ => Rp.zz _ _ h
theorem SR.cutW (s0 : SR K H0 ρ0 S) (mo : Mo K H0 ρ0 H' ρ') (s1 : SR K H' ρ' T) (ok : OkCut S T) : SR K H' ⟨ρ'.r.take S.length, ρ'.z⟩ (T.take S.length) ∧ Mo K H0 ρ0 H' ⟨ρ'.r.take S.length, ρ'.z⟩ := by
  have inj : ∀ {β : Type} (l : List β) (n k : Nat) (x : β), (l.take k)[n]? = some x → n < k ∧ l[n]? = some x := fun l n k x e => by
    have hn : n < k := by
      rcases Nat.lt_or_ge n k with z | z
      · exact z
      · rw [List.getElem?_eq_none (by rw [List.length_take]; omega)] at e; cases e
    rw [List.getElem?_take_of_lt hn] at e
    exact ⟨hn, e⟩
  refine ⟨⟨s1.nd.sublist (List.take_sublist _ _), by simp [List.length_take, s1.len], fun n a o e q => ?_, fun n a o e q hl => ?_, s1.z, fun n a e => ?_⟩, ⟨mo.tup, mo.kl, fun n a e => ?_, mo.z⟩⟩
  · obtain ⟨hn, e'⟩ := inj _ _ _ _ e
    obtain ⟨_, q'⟩ := inj _ _ _ _ q
    refine (s1.obj n a o e' q').takeW ?_
    rcases ok.2.2 n o q with h | h
    · have hn0 : n < ρ0.r.length := by rw [s0.len]; exact hn
      have e0 : ρ0.r[n]? = some ρ0.r[n] := List.getElem?_eq_getElem hn0
      have := (s0.obj n _ o e0 h).lo
      rw [s0.len] at this
      exact this
    · exact h
  · exact s1.lv n a o (inj _ _ _ _ e).2 (inj _ _ _ _ q).2 hl
  · exact s1.r n a (inj _ _ _ _ e).2
  · have hn : n < S.length := by rw [← s0.len]; exact (List.getElem?_eq_some_iff.mp e).1
    show (ρ'.r.take S.length)[n]? = _
    rw [List.getElem?_take_of_lt hn]
    exact mo.ref n a e
theorem SR.cut (s0 : SR K H0 ρ0 S) (mo : Mo K H0 ρ0 H' ρ') (s1 : SR K H' ρ' T) : ∃ r', SR K H' ⟨r', ρ'.z⟩ (M.cut S T) ∧ Mo K H0 ρ0 H' ⟨r', ρ'.z⟩ := by
  unfold M.cut
  split
  · rename_i ok
    exact ⟨_, s0.cutW mo s1 ok⟩
  · exact ⟨ρ'.r, s1, mo⟩
end
/-- by value, all that was made on the way forgotten -/
noncomputable def popV (S : Store) (r : R) (S' : Store) : Out R := match frz 8 S' r with
  | some p => .ok (.v p.1) (cut S p.2)
  | none => .no
noncomputable def mPop (f : ME) : ME := fun m S => (f m S).bind fun r S' => popV S r S'
theorem RO.pop {K : PySem.W.Frag} {E : XK} {H : Hp} {ρ : Wd} {S : Store} {o : Out R} {Q : VK} (sr : SR K H ρ S) (h : RO K (relD K) E H ρ (o.bind (popV S)) Q) : RO K (relD K) E H ρ o Q := by
  cases o with
  | no => exact h
  | exc c S1 => exact h
  | ok r S1 =>
    intro v H' ρ' mo s r
    have h : RO K (relD K) E H ρ (popV S _ S1) Q := h
    unfold popV at h
    split at h
    · rename_i p e
      obtain ⟨z', s1, m1, r1⟩ := frz_ok 8 S1 _ p.1 p.2 ρ' v e s r
      obtain ⟨r', s2, m2⟩ := sr.cut (mo.trans m1) s1
      exact h v H' _ m2 s2 (.v (Rp.zz _ _ r1))
    · exact h.elim
theorem pm_pop {X : Cx} {E : St → XK} {e : Expr} {f : ME} (h : PE X e (tE X.K E f)) : PE X e (tE X.K E (mPop f)) := by
  refine PE.imp h ?_
  rintro σ H Q ⟨ρ, m, S, sr, er, h⟩
  exact ⟨ρ, m, S, sr, er, RO.pop sr h⟩
def keepE (k : Nat) : Option R → Option R
  | some (.ref n) => if n < k then some (.ref n) else none
  | o => o
open Classical in
noncomputable def trim (S : Store) (m2 : Env) (S2 : Store) (f : Env → Store → OutS) : OutS := if S.length < S2.length ∧ OkCut S S2 then f (m2.map (keepE S.length)) (S2.take S.length) else f m2 S2
noncomputable def mTrim (f : MS) : MS := fun m S => match f m S with
  | .nx m2 S2 => trim S m2 S2 .nx
  | .ct m2 S2 => trim S m2 S2 .ct
  | o => o
theorem EnvR.keep {K : PySem.W.Frag} {H : Hp} {ρ : Wd} {σ : St} {m : Env} {k : Nat} (h : EnvR K H ρ σ m) : EnvR K H ⟨ρ.r.take k, ρ.z⟩ σ (m.map (keepE k)) := by
  refine ⟨by rw [List.length_map]; exact h.len, fun i d e => ?_⟩
  rw [List.getElem?_map] at e
  obtain ⟨o, e1, e2⟩ := Option.map_eq_some_iff.mp e
  cases o with
  | none => cases e2
  | some r =>
    obtain ⟨v, a, b⟩ := h.get i r e1
    cases r with
    | v d' =>
      cases e2
      exact ⟨v, a, b.take trivial⟩
    | ref n =>
      simp only [keepE] at e2
      split at e2
      · cases e2
        exact ⟨v, a, b.take (by assumption)⟩
      · cases e2
theorem psm_trim {X : Cx} {E : St → XK} {sts : List Stmt} {f : MS} (h : PSs X sts (tS X.K E f)) : PSs X sts (tS X.K E (mTrim f)) := by
  refine PSs.imp h ?_
  rintro D σ H ⟨ρ, m, S, sr, er, h⟩
  refine ⟨ρ, m, S, sr, er, ?_⟩
  have h : RS X.K E H ρ (match f m S with | .nx m2 S2 => trim S m2 S2 .nx | .ct m2 S2 => trim S m2 S2 .ct | o => o) D := h
  generalize f m S = o at h ⊢
  cases o with
  | bk m' S' => exact h
  | rt d S' => exact h
  | exc c m' S' => exact h
  | no => exact h
  | nx m' S' =>
    simp only [trim] at h
    split at h
    · rename_i hc
      intro σ' H' ρ' mo s e
      obtain ⟨s1, m1⟩ := sr.cutW mo s hc.2
      exact h σ' H' _ m1 s1 e.keep
    · exact h
  | ct m' S' =>
    simp only [trim] at h
    split at h
    · rename_i hc
      intro σ' H' ρ' mo s e
      obtain ⟨s1, m1⟩ := sr.cutW mo s hc.2
      exact h σ' H' _ m1 s1 e.keep
    · exact h
end M
namespace M
open PySem PySem.Spec L2
open PyProof.Rows hiding St
section
variable {X : Cx} {E : St → XK} {a b c e tgE iter : Expr} {es rest : List Expr} {pos : Pos} {ma mb mc : ME} {mt mu : MT} {mr : MA} {st : Stmt} {sts : List Stmt} {ms mz : MS}
def mSkip : MS := fun m S => .nx m S
def mSeq (f g : MS) : MS := fun m S => match f m S with
  | .nx m' S' => g m' S'
  | o => o
theorem psm_nil : PSs X [] (tS X.K E mSkip) := by
  refine PSs.imp pss_nil ?_
  rintro D σ H ⟨ρ, m, S, sr, er, h⟩
  exact h σ H ρ .refl sr er
theorem psm_cons (h1 : PS X st (tS X.K E ms)) (h2 : PSs X sts (tS X.K E mz)) : PSs X (st :: sts) (tS X.K E (mSeq ms mz)) := by
  refine PSs.imp (pss_cons h1 h2) ?_
  rintro D σ H ⟨ρ, m, S, sr, er, h⟩
  refine ⟨ρ, m, S, sr, er, ?_⟩
  have h : RS X.K E H ρ (match ms m S with | .nx m' S' => mz m' S' | o => o) D := h
  generalize ms m S = o at h ⊢
  cases o with
  | nx m' S' => exact fun σ' H' ρ' mo s r => ⟨ρ', m', S', s, r, RS.mono h mo⟩
  | bk m' S' => exact h
  | ct m' S' => exact h
  | rt d S' => exact h
  | exc c m' S' => exact h
  | no => exact h
theorem psm_one (h1 : PS X st (tS X.K E ms)) : PSs X [st] (tS X.K E ms) := pss_one h1
def mBrk : MS := fun m S => .bk m S
def mCnt : MS := fun m S => .ct m S
def mDrop (f : ME) : MS := fun m S => (f m S).thenS m fun _ S1 => .nx m S1
theorem psm_expr (he : PE X e (tE X.K E ma)) (hs : swapsWith e none pos.line X.env = pure false := by rfl) : PS X (.Expr e pos) (tS X.K E (mDrop ma)) := by
  refine PS.imp (ps_expr he hs) ?_
  rintro D σ H ⟨ρ, m, S, sr, er, h⟩
  exact ⟨ρ, m, S, sr, er, RS.bind er h fun d S1 v H1 ρ1 m1 s1 r1 e1 h1 => h1 σ H1 ρ1 .refl s1 e1⟩
def mRet (f : ME) : MS := fun m S => (f m S).thenS m fun d S1 => .rt d S1
theorem psm_ret (he : PE X e (tE X.K E ma)) : PS X (.Return (some e) pos) (tS X.K E (mRet ma)) := by
  refine PS.imp (ps_ret he) ?_
  rintro D σ H ⟨ρ, m, S, sr, er, h⟩
  exact ⟨ρ, m, S, sr, er, RS.bind er h fun d S1 v H1 ρ1 m1 s1 r1 e1 h1 => h1 v H1 ρ1 .refl s1 r1⟩
def mRetN : MS := fun m S => .rt .non S
def mIfS (t : MT) (f g : MS) : MS := fun m S => (t m S).thenS m fun k S1 => match k with
  | true => f m S1
  | false => g m S1
theorem psm_if {sa sb : List Stmt} (hc : PT X c (tT X.K E mt)) (ha : PSs X sa (tS X.K E ms)) (hb : PSs X sb (tS X.K E mz)) : PS X (.If c sa sb pos) (tS X.K E (mIfS mt ms mz)) := by
  refine PS.imp (ps_if hc ha hb) ?_
  rintro D σ H ⟨ρ, m, S, sr, er, h⟩
  refine ⟨ρ, m, S, sr, er, RS.bind er h fun d S1 v H1 ρ1 m1 s1 r1 e1 h1 => ?_⟩
  subst r1
  cases v with
  | true => exact iteT ⟨ρ1, m, S1, s1, e1, h1⟩
  | false => exact iteF ⟨ρ1, m, S1, s1, e1, h1⟩
def mSet (i : Nat) (f : ME) : MS := fun m S => (f m S).thenS m fun d S1 => .nx (m.set i (some d)) S1
theorem psm_set (i : Nat) {x : Str} {pos' : Pos} (hN : X.N.Nodup) (hi : X.N[i]? = some x) (hx : Loc X.env.scope x) (he : PE X e (tE X.K E ma)) (hs : swapsWith e (some (.Name x pos')) pos.line X.env = pure false := by rfl) (hf : X.fn x = true ∨ X.env.scope.names.lookup x = some .local := by first | exact .inl rfl | exact .inr rfl | assumption) :
    PS X (.Assign [.Name x pos'] e pos) (tS X.K E (mSet i ma)) := by
  refine PS.imp (ps_set hN hi hx he hs hf) ?_
  rintro D σ H ⟨ρ, m, S, sr, er, h⟩
  exact ⟨ρ, m, S, sr, er, RS.bind er h fun d S1 v H1 ρ1 m1 s1 r1 e1 h1 => h1 _ H1 ρ1 .refl s1 (e1.set r1 i)⟩
def mPar (i j : Nat) (f g : ME) : MS := fun m S => (f m S).thenS m fun x S1 => (g m S1).thenS m fun y S2 => .nx ((m.set i (some x)).set j (some y)) S2
theorem psm_par (i j : Nat) {x y : Str} {px py pt : Pos} {kt k2 pt2} (hc : X.calm = true) (hN : X.N.Nodup) (hi : X.N[i]? = some x) (hj : X.N[j]? = some y) (hij : i ≠ j)
    (hx : X.env.scope.names.lookup x = some .local) (hy : X.env.scope.names.lookup y = some .local) (ha : PE X a (tE X.K E ma)) (hb : PE X b (tE X.K E mb))
    (hw : swappedStores [.Tuple [.Name x px, .Name y py] kt pt] (.Tuple [a, b] k2 pt2) X.env = pure (some [x, y]))
    (hs : swapsWithSole [.Tuple [.Name x px, .Name y py] kt pt] (.Tuple [a, b] k2 pt2) pos.line X.env = pure false := by rfl)
    (h1 : starEach [a, b] X.env = (false, eval a X.env) :: starEach [b] X.env := by rfl) (h2 : starEach [b] X.env = (false, eval b X.env) :: starEach [] X.env := by rfl) :
    PS X (.Assign [.Tuple [.Name x px, .Name y py] kt pt] (.Tuple [a, b] k2 pt2) pos) (tS X.K E (mPar i j ma mb)) := by
  refine PS.imp (ps_par hc hN hi hj hij hx hy (pa_cons ha (pa_cons hb pa_nil h2) h1) hw hs) ?_
  rintro D σ H ⟨ρ, m, S, sr, er, h⟩
  refine ⟨ρ, m, S, sr, er, RS.bind er h fun d S1 v H1 ρ1 m1 s1 r1 e1 h1 => ?_⟩
  refine ⟨ρ1, m, S1, s1, e1, RS.bind e1 h1 fun d2 S2 w H2 ρ2 m2 s2 r2 e2 h2 => ?_⟩
  exact ⟨v, w, rfl, h2 _ H2 ρ2 .refl s2 ((e2.set (r1.mo m2) i).set r2 j)⟩
/-- name op= e -/
def mAug (i : Nat) (g : R → R → Store → Out R) (f : ME) : MS := fun m S => (mVar i m S).thenS m fun x S0 => (f m S0).thenS m fun y S1 => (g x y S1).thenS m fun z S2 => .nx (m.set i (some z)) S2
abbrev TgM := R → Env → Option Env
def tgN (i : Nat) : TgM := fun d m => some (m.set i (some d))
def bindAll : List TgM → List R → Env → Option Env
  | [], [], m => some m
  | t :: ts, d :: ds, m => (t d m).bind fun m' => bindAll ts ds m'
  | _, _, _ => none
def tgT (ts : List TgM) : TgM := fun d m => match d with
  | .v (.tup ds) => bindAll ts (ds.map .v) m
  | _ => none
def gM (K : PySem.W.Frag) (vs : List Nat) (g : TgM) : TG := fun v σ H Q => ∃ (ρ : Wd) (m : Env) (d : R) (m' : Env), EnvR K H ρ σ m ∧ Rq K H ρ v d ∧ g d m = some m' ∧
  ∀ σ', EnvR K H ρ σ' m' → (∀ j, j ∉ vs → σ'[j]? = σ[j]?) → σ'.length = σ.length → Q σ' H
def gMs (K : PySem.W.Frag) (vs : List Nat) (ts : List TgM) : TGs := fun xs σ H Q => ∃ (ρ : Wd) (m : Env) (ds : List R) (m' : Env), EnvR K H ρ σ m ∧ RqA K H ρ xs ds ∧ bindAll ts ds m = some m' ∧
  ∀ σ', EnvR K H ρ σ' m' → (∀ j, j ∉ vs → σ'[j]? = σ[j]?) → σ'.length = σ.length → Q σ' H
theorem PG.imp {e : Expr} {t t' : TG} (h : PG X e t) (k : ∀ v σ H Q, t' v σ H Q → t v σ H Q) : PG X e t' := ⟨fun pins s σ H v u Q I r q => h.run pins s σ H v u Q I r (k _ _ _ _ q)⟩
theorem PGs.imp {e : List Expr} {t t' : TGs} (h : PGs X e t) (k : ∀ v σ H Q, t' v σ H Q → t v σ H Q) : PGs X e t' := ⟨fun pins s σ H v u Q I r q => h.run pins s σ H v u Q I r (k _ _ _ _ q)⟩
theorem pgm_name (i : Nat) {x : Str} (hN : X.N.Nodup) (hi : X.N[i]? = some x) (hx : Loc X.env.scope x) (hf : X.fn x = true ∨ X.env.scope.names.lookup x = some .local := by first | exact .inl rfl | exact .inr rfl | assumption) : PG X (.Name x pos) (gM X.K [i] (tgN i)) := by
  refine PG.imp (pg_name hN hi hx hf) ?_
  rintro v σ H Q ⟨ρ, m, d, m', er, r, e, h⟩
  cases e
  refine h _ (er.set r i) (fun j hj => ?_) (List.length_set ..)
  rw [List.getElem?_set_ne (by intro q; subst q; simp at hj)]
theorem pgms_nil : PGs X [] (gMs X.K [] []) := by
  refine PGs.imp pgs_nil ?_
  rintro xs σ H Q ⟨ρ, m, ds, m', er, r, e, h⟩
  cases r with
  | nil =>
    cases e
    exact ⟨rfl, h σ er (fun _ _ => rfl) rfl⟩
  | cons r1 r2 => cases e
theorem pgms_cons {t : TgM} {ts : List TgM} {vs ws : List Nat} (h1 : PG X e (gM X.K vs t)) (h2 : PGs X es (gMs X.K ws ts)) (hs : (assignEach (e :: es) X.env).map (·.2) = assign e X.env :: (assignEach es X.env).map (·.2) := by rfl) : PGs X (e :: es) (gMs X.K (vs ++ ws) (t :: ts)) := by
  refine PGs.imp (pgs_cons h1 h2 hs) ?_
  rintro xs σ H Q ⟨ρ, m, ds, m', er, r, e, h⟩
  cases r with
  | nil => cases e
  | @cons v d xs ds r1 r2 =>
    have e : (t d m).bind (fun m' => bindAll ts ds m') = some m' := e
    cases et : t d m with
    | none => rw [et] at e; cases e
    | some m1 =>
      rw [et] at e
      refine ⟨v, xs, rfl, ρ, m, d, m1, er, r1, et, fun σ1 er1 k1 l1 => ⟨ρ, m1, ds, m', er1, r2, e, fun σ2 er2 k2 l2 => ?_⟩⟩
      refine h σ2 er2 (fun j hj => ?_) (l2.trans l1)
      rw [List.mem_append, not_or] at hj
      rw [k2 j hj.2, k1 j hj.1]
theorem pgm_tup {k : Nat} {ts : List TgM} {vs : List Nat} {n : Nat} (hc : X.calm = true) (h : PGs X es (gMs X.K vs ts)) (hn : (assignEach es X.env).length = n := by rfl) (hl : ts.length = n := by rfl) (hst : (assignEach es X.env).findIdx? (·.1) = none := by rfl) : PG X (.Tuple es k pos) (gM X.K vs (tgT ts)) := by
  refine PG.imp (pg_tup hc h hn hst) ?_
  rintro v σ H Q ⟨ρ, m, d, m', er, r, e, h⟩
  cases r with
  | ref _ => cases e
  | v r =>
  cases r with
  | @tup a xs ds hs ra =>
    have ra := ra.q
    have e : bindAll ts (ds.map .v) m = some m' := e
    refine ⟨a, xs, rfl, sqT_at hs, ?_, ρ, m, ds.map .v, m', er, ra, e, h⟩
    rw [ra.length, ← hl]
    have q : ∀ (ts : List TgM) (ds : List R) (m : Env), bindAll ts ds m = some m' → ds.length = ts.length := by
      intro ts
      induction ts with
      | nil => intro ds m e; cases ds with
        | nil => rfl
        | cons _ _ => cases e
      | cons t ts ih => intro ds m e; cases ds with
        | nil => cases e
        | cons d ds =>
          have e : (t d m).bind (fun m' => bindAll ts ds m') = some m' := e
          cases et : t d m with
          | none => rw [et] at e; cases e
          | some m1 => rw [et] at e; exact congrArg (· + 1) (ih ds m1 e)
    exact q ts _ m e
  | _ => cases e
def mAsg (t : TgM) (f : ME) : MS := fun m S => (f m S).thenS m fun d S1 => match t d m with
  | some m' => .nx m' S1
  | none => .no
/-- the items, and the objects that must stand meanwhile -/
structure Src where
  items : List R
  pins : List (Nat × MO)
def pinsOk : List (Nat × MO) → Store → Prop
  | [], _ => True
  | p :: r, S => S[p.1]? = some p.2 ∧ pinsOk r S
abbrev MI := Env → Store → Out Src
def okSrc (K : PySem.W.Frag) (it : Src) (H' : Hp) (ρ' : Wd) (J : It) : Prop := ∃ (G : Hp → Prop) (Y : Nat → Hp → V → Hp → Prop), Walk J it.items.length G Y ∧
  (∀ H2 ρ2 S2, Mo K H' ρ' H2 ρ2 → SR K H2 ρ2 S2 → pinsOk it.pins S2 → G H2) ∧
  ∀ i H2 x H3 ρ2 S2, i < it.items.length → Mo K H' ρ' H2 ρ2 → SR K H2 ρ2 S2 → pinsOk it.pins S2 → Y i H2 x H3 → ∃ d, it.items[i]? = some d ∧ Mo K H2 ρ2 H3 ρ2 ∧ SR K H3 ρ2 S2 ∧ Rq K H3 ρ2 x d
def tI (K : PySem.W.Frag) (E : St → XK) (f : MI) : TI := fun σ H R => ∃ (ρ : Wd) (m : Env) (S : Store), SR K H ρ S ∧ EnvR K H ρ σ m ∧ (match f m S with
  | .ok it S' => ∀ J H' ρ', Mo K H ρ H' ρ' → SR K H' ρ' S' → okSrc K it H' ρ' J → R J H'
  | .exc c S' => RO K (fun _ _ (_ : Unit) (_ : Unit) => True) (E σ) H ρ (.exc c S' : Out Unit) fun _ _ => True
  | .no => False)
theorem PI.imp {wi wi' : TI} (h : PI X tgE iter wi) (k : ∀ σ H R, wi' σ H R → wi σ H R) : PI X tgE iter wi' := ⟨fun pins s σ H R I q => h.run pins s σ H R I (k _ _ _ q)⟩
theorem PI.or {w1 w2 : TI} (h1 : PI X tgE iter w1) (h2 : PI X tgE iter w2) : PI X tgE iter fun σ H R => w1 σ H R ∨ w2 σ H R := ⟨fun pins s σ H R I q => q.elim (h1.run pins s σ H R I) (h2.run pins s σ H R I)⟩
open Classical in
noncomputable def mForGo (pins : List (Nat × MO)) (t : TgM) (body : MS) : List R → Env → Store → OutS
  | [], m, S => if pinsOk pins S then .nx m S else .no
  | d :: ds, m, S => if pinsOk pins S then (match t d m with
    | none => .no
    | some m' => match body m' S with
      | .nx m2 S2 => mForGo pins t body ds m2 S2
      | .ct m2 S2 => mForGo pins t body ds m2 S2
      | .bk m2 S2 => .nx m2 S2
      | .rt d S2 => .rt d S2
      | .exc c m2 S2 => .exc c m2 S2
      | .no => .no) else .no
noncomputable def mFor (f : MI) (t : TgM) (body : MS) : MS := fun m S => (f m S).thenS m fun it S1 => mForGo it.pins t body it.items m S1
theorem pins_of {K : PySem.W.Frag} {H : Hp} {ρ : Wd} {pins : List (Nat × MO)} {t : TgM} {body : MS} {ds : List R} {m : Env} {S : Store} {D : Ends} (h : RS K E H ρ (mForGo pins t body ds m S) D) : pinsOk pins S := by
  cases ds with
  | nil =>
    unfold mForGo at h
    split at h
    · assumption
    · exact h.elim
  | cons d ds =>
    unfold mForGo at h
    split at h
    · assumption
    · exact h.elim
theorem psm_for {body : List Stmt} {f : MI} {t : TgM} {vs : List Nat} (hp : PassesOwn (model X.prog X.w) X.A X.env X.xe) (hc : X.calm = true) (hi : PI X tgE iter (tI X.K E f)) (hg : PG X tgE (gM X.K vs t)) (hb : PSs X body (tS X.K E ms)) (hs : ∀ x, foldedSetIterable iter X.env x = pure x := by intro _; rfl) :
    PS X (.For tgE iter body [] pos) (tS X.K E (mFor f t ms)) := by
  refine PS.imp (ps_for hp hc hi hg hb hs) ?_
  rintro D σ H ⟨ρ, m, S, sr, er, h⟩
  refine ⟨ρ, m, S, sr, er, ?_⟩
  have h : RS X.K E H ρ ((f m S).thenS m fun it S1 => mForGo it.pins t ms it.items m S1) D := h
  generalize f m S = o at h ⊢
  cases o with
  | no => exact h
  | exc c S1 => exact fun dx H' ρ' mo s r => h σ dx H' ρ' mo s (er.mo mo) r
  | ok it S1 =>
    rintro J H1 ρ1 m1 s1 ⟨G, Y, wk, hG, hY⟩
    refine for_it wk (fun i σ2 H2 => ∃ ρ2 m2 S2, Mo X.K H1 ρ1 H2 ρ2 ∧ SR X.K H2 ρ2 S2 ∧ EnvR X.K H2 ρ2 σ2 m2 ∧ RS X.K E H2 ρ2 (mForGo it.pins t ms (it.items.drop i) m2 S2) D) ?_ ?_ ?_ ?_
    · exact ⟨ρ1, m, S1, .refl, s1, er.mo m1, RS.mono h m1⟩
    · rintro i σ2 H2 hi ⟨ρ2, m2, S2, mo2, s2, e2, h2⟩
      exact hG H2 ρ2 S2 mo2 s2 (pins_of h2)
    · rintro i x σ2 H2 H3 hi ⟨ρ2, m2, S2, mo2, s2, e2, h2⟩ hy
      obtain ⟨d, ed, mo3, s3, r3⟩ := hY i H2 x H3 ρ2 S2 hi mo2 s2 (pins_of h2) hy
      have hd : it.items.drop i = d :: it.items.drop (i + 1) := by
        rw [List.getElem?_eq_getElem hi] at ed
        rw [List.drop_eq_getElem_cons hi, Option.some.inj ed]
      rw [hd] at h2
      unfold mForGo at h2
      split at h2
      · split at h2
        · exact h2.elim
        · rename_i m' et
          refine ⟨ρ2, m2, d, m', e2.mo mo3, r3, et, fun σ' er' _ _ => ⟨ρ2, m', S2, s3, er', ?_⟩⟩
          generalize ms m' S2 = o at h2 ⊢
          cases o with
          | nx m4 S4 => exact fun σ5 H5 ρ5 mo5 s5 e5 => ⟨ρ5, m4, S4, (mo2.trans mo3).trans mo5, s5, e5, RS.mono h2 (mo3.trans mo5)⟩
          | ct m4 S4 => exact fun σ5 H5 ρ5 mo5 s5 e5 => ⟨ρ5, m4, S4, (mo2.trans mo3).trans mo5, s5, e5, RS.mono h2 (mo3.trans mo5)⟩
          | bk m4 S4 => exact fun σ5 H5 ρ5 mo5 s5 e5 => h2 σ5 H5 ρ5 (mo3.trans mo5) s5 e5
          | rt d4 S4 => exact fun v5 H5 ρ5 mo5 s5 e5 => h2 v5 H5 ρ5 (mo3.trans mo5) s5 e5
          | exc c m4 S4 => exact fun σ5 dx H5 ρ5 mo5 s5 e5 => h2 σ5 dx H5 ρ5 (mo3.trans mo5) s5 e5
          | no => exact h2
      · exact h2.elim
    · rintro σ2 H2 ⟨ρ2, m2, S2, mo2, s2, e2, h2⟩
      rw [List.drop_length] at h2
      unfold mForGo at h2
      split at h2
      · exact h2 σ2 H2 ρ2 .refl s2 e2
      · exact h2.elim
def mWhileGo (t : MT) (body : MS) : Nat → Env → Store → OutS
  | 0, _, _ => .no
  | k + 1, m, S => (t m S).thenS m fun b S1 => match b with
    | false => .nx m S1
    | true => match body m S1 with
      | .nx m2 S2 => mWhileGo t body k m2 S2
      | .ct m2 S2 => mWhileGo t body k m2 S2
      | .bk m2 S2 => .nx m2 S2
      | .rt d S2 => .rt d S2
      | .exc c m2 S2 => .exc c m2 S2
      | .no => .no
/-- the most turns -/
def turns : Nat := 1000000
def mWhile (t : MT) (body : MS) : MS := fun m S => mWhileGo t body turns m S
theorem psm_while {body : List Stmt} (hp : PassesOwn (model X.prog X.w) X.A X.env X.xe) (hc : PT X c (tT X.K E mt)) (hb : PSs X body (tS X.K E ms)) : PS X (.While c body [] pos) (tS X.K E (mWhile mt ms)) := by
  refine PS.imp (ps_while hp hc hb) ?_
  rintro D σ H ⟨ρ, m, S, sr, er, h⟩
  refine ⟨fun k σ2 H2 => ∃ ρ2 m2 S2, SR X.K H2 ρ2 S2 ∧ EnvR X.K H2 ρ2 σ2 m2 ∧ RS X.K E H2 ρ2 (mWhileGo mt ms k m2 S2) D, ⟨turns, ρ, m, S, sr, er, h⟩, ?_⟩
  rintro k σ2 H2 ⟨ρ2, m2, S2, s2, e2, h2⟩
  cases k with
  | zero => exact h2.elim
  | succ k =>
    refine ⟨ρ2, m2, S2, s2, e2, RS.bind e2 h2 fun b S3 v H3 ρ3 mo3 s3 r3 e3 h3 => ?_⟩
    subst r3
    cases v with
    | false => exact iteF (h3 σ2 H3 ρ3 .refl s3 e3)
    | true =>
      refine iteT ⟨fun σ4 H4 => ∃ ρ4 m4 S4, SR X.K H4 ρ4 S4 ∧ EnvR X.K H4 ρ4 σ4 m4 ∧ RS X.K E H4 ρ4 (mWhileGo mt ms k m4 S4) D, fun σ' H' q => ⟨k, Nat.lt_succ_self k, q⟩, ρ3, m2, S3, s3, e3, ?_⟩
      have h3 : RS X.K E H3 ρ3 (match ms m2 S3 with
        | .nx m2 S2 => mWhileGo mt ms k m2 S2
        | .ct m2 S2 => mWhileGo mt ms k m2 S2
        | .bk m2 S2 => .nx m2 S2
        | .rt d S2 => .rt d S2
        | .exc c m2 S2 => .exc c m2 S2
        | .no => .no) D := h3
      generalize ms m2 S3 = o at h3 ⊢
      cases o with
      | nx m4 S4 => exact fun σ5 H5 ρ5 mo5 s5 e5 => ⟨ρ5, m4, S4, s5, e5, RS.mono h3 mo5⟩
      | ct m4 S4 => exact fun σ5 H5 ρ5 mo5 s5 e5 => ⟨ρ5, m4, S4, s5, e5, RS.mono h3 mo5⟩
      | bk m4 S4 => exact h3
      | rt d4 S4 => exact h3
      | exc c m4 S4 => exact h3
      | no => exact h3
def wipeM (m : Env) : List Nat → Env
  | [] => m
  | v :: vs => (wipeM m vs).set v none
theorem EnvR.wipe {K : PySem.W.Frag} {H : Hp} {ρ : Wd} {σ : St} {m : Env} (h : EnvR K H ρ σ m) : ∀ vs : List Nat, EnvR K H ρ (wipe σ vs) (wipeM m vs)
  | [] => h
  | v :: vs => by
    have ih := EnvR.wipe h vs
    refine ⟨by unfold L2.wipe wipeM; rw [List.length_set, List.length_set]; exact ih.len, fun i d q => ?_⟩
    unfold wipeM at q
    unfold L2.wipe
    by_cases hv : v = i
    · subst hv
      by_cases hl : v < (wipeM m vs).length
      · rw [List.getElem?_set_self hl] at q; cases q
      · rw [List.getElem?_eq_none (by rw [List.length_set]; omega)] at q; cases q
    · rw [List.getElem?_set_ne hv] at q ⊢
      exact ih.get i d q
theorem wipe_get (σ : St) : ∀ (vs : List Nat) (j : Nat), (wipe σ vs)[j]? = if j ∈ vs ∧ j < σ.length then some none else σ[j]?
  | [], j => by
    unfold L2.wipe
    simp
  | v :: vs, j => by
    unfold L2.wipe
    by_cases hv : v = j
    · subst hv
      by_cases hl : v < σ.length
      · rw [List.getElem?_set_self (by rw [wipe_length]; exact hl), if_pos ⟨by simp, hl⟩]
      · rw [List.getElem?_eq_none (by rw [List.length_set, wipe_length]; omega), if_neg (fun z => hl z.2), List.getElem?_eq_none (by omega)]
    · rw [List.getElem?_set_ne hv, wipe_get σ vs j]
      have : (j ∈ v :: vs ∧ j < σ.length) ↔ (j ∈ vs ∧ j < σ.length) := by
        simp only [List.mem_cons]
        constructor
        · rintro ⟨h1, h2⟩
          rcases h1 with h1 | h1
          · exact absurd h1.symm hv
          · exact ⟨h1, h2⟩
        · rintro ⟨h1, h2⟩; exact ⟨.inr h1, h2⟩
      simp only [this]
theorem wipe_eq {σ σ' : St} {vs : List Nat} (hl : σ'.length = σ.length) (h : ∀ j, j ∉ vs → σ'[j]? = (wipe σ vs)[j]?) : wipe σ' vs = wipe σ vs := by
  refine List.ext_getElem? fun j => ?_
  rw [wipe_get, wipe_get, hl]
  by_cases hj : j ∈ vs
  · by_cases hb : j < σ.length
    · rw [if_pos ⟨hj, hb⟩, if_pos ⟨hj, hb⟩]
    · rw [if_neg (fun z => hb z.2), if_neg (fun z => hb z.2), List.getElem?_eq_none (by omega), List.getElem?_eq_none (by omega)]
  · rw [if_neg (fun z => hj z.1), if_neg (fun z => hj z.1), h j hj, wipe_get, if_neg (fun z => hj z.1)]
/-- nothing is raised -/
def Out.calm {α : Type} : Out α → Out α
  | .ok a S => .ok a S
  | _ => .no
@[simp] theorem Out.calm_ok {α : Type} (a : α) (S : Store) : (Out.ok a S).calm = .ok a S := id rfl
theorem RO.calm {α β γ δ : Type} {K : PySem.W.Frag} {H : Hp} {ρ : Wd} {relA : Hp → Wd → β → α → Prop} {rel : Hp → Wd → δ → γ → Prop} {E1 E2 : XK} {o : Out α} {f : α → Store → Out γ} {Q : δ → Hp → Prop} {P : β → Hp → Prop} (h : RO K rel E1 H ρ (o.calm.bind f) Q)
    (k : ∀ d S v H1 ρ1, Mo K H ρ H1 ρ1 → SR K H1 ρ1 S → relA H1 ρ1 v d → RO K rel E1 H1 ρ1 (f d S) Q → P v H1) : RO K relA E2 H ρ o P := by
  cases o with
  | ok d S => exact fun v H' ρ' m s r => k d S v H' ρ' m s r (RO.mono h m)
  | exc c S => exact h.elim
  | no => exact h
open Classical in
noncomputable def mLcGo (pins : List (Nat × MO)) (t : TgM) (c : MT) (f : ME) (n : Nat) (m : Env) : List R → Store → Out R
  | [], S => if pinsOk pins S then .ok (.ref n) S else .no
  | d :: ds, S => if pinsOk pins S then (match t d m with
    | none => .no
    | some m' => (c m' S).calm.bind fun k S1 => match k with
      | false => mLcGo pins t c f n m ds S1
      | true => (f m' S1).calm.bind fun y S2 => match S2[n]? with
        | some (.lst acc) => if acc.length < sizeLine then mLcGo pins t c f n m ds (S2.set n (.lst (acc ++ [y]))) else .no
        | _ => .no) else .no
noncomputable def mLc (src : MI) (vs : List Nat) (t : TgM) (c : MT) (f : ME) : ME := fun m S => (src m S).bind fun it S1 => mLcGo it.pins t c f S1.length (wipeM m vs) it.items (S1 ++ [.lst []])
theorem pinsL_of {K : PySem.W.Frag} {H : Hp} {ρ : Wd} {pins : List (Nat × MO)} {t : TgM} {c : MT} {f : ME} {n : Nat} {ds : List R} {m : Env} {S : Store} {E1 : XK} {Q : VK} (h : RO K (relD K) E1 H ρ (mLcGo pins t c f n m ds S) Q) : pinsOk pins S := by
  cases ds with
  | nil =>
    unfold mLcGo at h
    split at h
    · assumption
    · exact h.elim
  | cons d ds =>
    unfold mLcGo at h
    split at h
    · assumption
    · exact h.elim
def mtYes : MT := fun _ S => .ok true S
theorem ptsm_nil : PTs X [] (tT X.K E mtYes) := ⟨fun pins s σ H Q I ⟨ρ, m, S, sr, er, h⟩ => pts_nil.run pins s σ H Q I (h _ H ρ .refl sr rfl)⟩
theorem ptsm_one (h : PT X c (tT X.K E mt)) : PTs X [c] (tT X.K E mt) := pts_one h
def E0' : St → XK := fun _ _ _ _ => False
theorem tLc_of {K : PySem.W.Frag} {f : MI} {vs ws : List Nat} {t : TgM} {σ : St} {H : Hp} {Q : VK} (hv : ∀ j, j ∉ ws → j ∉ vs) (h : tE K E (mLc f ws t mt ma) σ H Q) : tLc (tI K E f) (gM K vs t) (tT K E0' mt) (tE K E0' ma) ws σ H Q := by
  obtain ⟨ρ, m, S, sr, er, h⟩ := h
  refine ⟨ρ, m, S, sr, er, ?_⟩
  have h : RO K (relD K) (E σ) H ρ ((f m S).bind fun it S1 => mLcGo it.pins t mt ma S1.length (wipeM m ws) it.items (S1 ++ [.lst []])) Q := h
  generalize f m S = o at h ⊢
  cases o with
  | no => exact h
  | exc c S1 => exact fun dx H' ρ' mo s r => h dx H' ρ' mo s r
  | ok it S1 =>
    rintro J H1 ρ1 m1 s1 ⟨G, Y, wk, hG, hY⟩ D hD
    have moD : Mo K H1 ρ1 (upd H1 D (.lst [])) ⟨ρ1.r ++ [D], ρ1.z⟩ := .newR s1 hD
    have sD : SR K (upd H1 D (.lst [])) ⟨ρ1.r ++ [D], ρ1.z⟩ (S1 ++ [.lst []]) := s1.new hD ⟨[], upd_same, .nil⟩
    have eD : (ρ1.r ++ [D])[S1.length]? = some D := by
      rw [List.getElem?_append_right (by rw [s1.len]; exact Nat.le_refl _), s1.len, Nat.sub_self]; rfl
    refine lc_it wk (fun i H2 => ∃ ρ2 S2, Mo K (upd H1 D (.lst [])) ⟨ρ1.r ++ [D], ρ1.z⟩ H2 ρ2 ∧ SR K H2 ρ2 S2 ∧ RO K (relD K) (E σ) H2 ρ2 (mLcGo it.pins t mt ma S1.length (wipeM m ws) (it.items.drop i) S2) Q) ?_ ?_ ?_ ?_
    · exact ⟨_, _, .refl, sD, RO.mono h (m1.trans moD)⟩
    · rintro i H2 hi ⟨ρ2, S2, mo2, s2, h2⟩
      exact hG H2 ρ2 S2 (moD.trans mo2) s2 (pinsL_of h2)
    · rintro i x H2 H3 hi ⟨ρ2, S2, mo2, s2, h2⟩ hy
      obtain ⟨d, ed, mo3, s3, r3⟩ := hY i H2 x H3 ρ2 S2 hi (moD.trans mo2) s2 (pinsL_of h2) hy
      have e3 : EnvR K H3 ρ2 (wipe σ ws) (wipeM m ws) := ((((er.mo m1).mo moD).mo mo2).mo mo3).wipe ws
      have hd : it.items.drop i = d :: it.items.drop (i + 1) := by
        rw [List.getElem?_eq_getElem hi] at ed
        rw [List.drop_eq_getElem_cons hi, Option.some.inj ed]
      rw [hd] at h2
      unfold mLcGo at h2
      split at h2
      · split at h2
        · exact h2.elim
        · rename_i m' et
          refine ⟨ρ2, wipeM m ws, d, m', e3, r3, et, fun σ' er' k' l' => ⟨?_, ρ2, m', S2, s3, er', ?_⟩⟩
          · refine wipe_eq ?_ fun j hj => ?_
            · rw [l', wipe_length]
            · exact k' j (hv j hj)
          · exact RO.calm (RO.mono h2 mo3) fun k S4 kb H4 ρ4 mo4 s4 r4 h4 => by
              subst r4
              cases kb with
              | false => exact iteF ⟨ρ4, S4, (mo2.trans mo3).trans mo4, s4, h4⟩
              | true =>
                refine iteT ⟨ρ4, m', S4, s4, er'.mo mo4, RO.calm h4 fun y S5 yv H5 ρ5 mo5 s5 r5 h5 => ?_⟩
                split at h5
                · rename_i acc hacc
                  split at h5
                  · rename_i hz
                    have eD5 : ρ5.r[S1.length]? = some D := mo5.ref _ _ (mo4.ref _ _ (mo2.ref _ _ eD))
                    obtain ⟨xs, hu, ru, hz5⟩ := s5.lst eD5 hacc
                    have mo6 : Mo K H5 ρ5 (upd H5 D (.lst (xs ++ [yv]))) ρ5 := .set hu trivial hz5
                    refine ⟨xs, hu, by rw [ru.length]; exact hz, ρ5, _, (((mo2.trans mo3).trans mo4).trans mo5).trans mo6, s5.set (mo := .lst (acc ++ [y])) eD5 hu trivial hz5 ⟨_, upd_same, ?_⟩, RO.mono h5 mo6⟩
                    exact (ru.append (.cons r5 .nil)).mo mo6
                  · exact h5.elim
                · exact h5.elim
      · exact h2.elim
    · rintro H2 ⟨ρ2, S2, mo2, s2, h2⟩
      rw [List.drop_length] at h2
      unfold mLcGo at h2
      split at h2
      · exact h2 _ H2 ρ2 .refl s2 (.ref (mo2.ref _ _ eD))
      · exact h2.elim
theorem pm_lc {elt : Expr} {ifs : List Expr} {scope : Scope} {own : List (Str × Nat)} {f : MI} {vs : List Nat} {t : TgM} (hc : X.calm = true) (hN : X.N.Nodup) (hi : PI X tgE iter (tI X.K E f)) (ok : BlkOk X.N X.env.scope scope own)
    (hg : ∀ (s : Shared) (H : Hp) (C : Addr) (cl : List (Str × Addr)) (fp : List Addr), PG (X.blk s H scope (compEnvC scope cl C X.env) fp) tgE (gM X.K vs t)) (ht : ∀ (s : Shared) (H : Hp) (C : Addr) (cl : List (Str × Addr)) (fp : List Addr), PTs (X.blk s H scope (compEnvC scope cl C X.env) fp) ifs (tT X.K E0' mt))
    (he : ∀ (s : Shared) (H : Hp) (C : Addr) (cl : List (Str × Addr)) (fp : List Addr), PE (X.blk s H scope (compEnvC scope cl C X.env) fp) elt (tE X.K E0' ma)) (hv : ∀ j ∈ vs, j ∈ own.map (·.2) := by decide) (hs : ∀ x, foldedSetIterable iter X.env x = pure x := by intro _; rfl) :
    PE X (.ListComp elt [⟨tgE, iter, ifs, 0⟩] scope pos) (tE X.K E (mLc f (own.map (·.2)) t mt ma)) := PE.imp (pe_lc hc hN hi ok hg ht he hs) fun _ _ _ h => tLc_of (fun j h1 h2 => h1 (hv j h2)) h
end
/-- a def's mirror: N names in all (nothing is raised) -/
def mDef (N : Nat) (f : MS) : List R → Store → Out R := fun ds S => match f (ds.map some ++ List.replicate (N - ds.length) none) S with
  | .rt d S' => .ok d S'
  | .nx _ S' => .ok .non S'
  | _ => .no
end M
namespace M
open PySem PySem.Spec L2
open PyProof.Rows hiding St
@[irreducible] def smBits : Nat := 400000
@[irreducible] def dvBits : Nat := 9000
theorem smBits_eq : smBits = 400000 := by unfold smBits; rfl
theorem dvBits_eq : dvBits = 9000 := by unfold dvBits; rfl
@[irreducible] def smLine : Nat := 2 ^ smBits
@[irreducible] def dvLine : Nat := 2 ^ dvBits
theorem smLine_eq : smLine = 2 ^ smBits := by unfold smLine; rfl
theorem dvLine_eq : dvLine = 2 ^ dvBits := by unfold dvLine; rfl
theorem sm_lt {i : Int} (k : Nat) (h : i.natAbs < 2 ^ k) (hk : k ≤ 400000) : i.natAbs < smLine := by
  rw [smLine_eq]; exact Nat.lt_of_lt_of_le h (Nat.pow_le_pow_right (by decide) (by rw [smBits_eq]; exact hk))
theorem dv_lt {i : Int} (k : Nat) (h : i.natAbs < 2 ^ k) (hk : k ≤ 9000) : i.natAbs < dvLine := by
  rw [dvLine_eq]; exact Nat.lt_of_lt_of_le h (Nat.pow_le_pow_right (by decide) (by rw [dvBits_eq]; exact hk))
theorem mulW {i j : Int} (h : i.natAbs < smLine ∧ j.natAbs < smLine) : CMulW i j := by
  rw [smLine_eq] at h
  exact wide_mul h.1 h.2 (by rw [smBits_eq]; decide) (by rw [smBits_eq]; decide) (by rw [smBits_eq]; decide)
theorem divW {j : Int} (h : 0 < j ∧ j.natAbs < dvLine) {i : Int} : CDivW i j := by
  rw [dvLine_eq] at h
  exact wide_div h.1 h.2 (by rw [dvBits_eq]; decide) (by rw [dvBits_eq]; decide)
@[irreducible] def shLine : Nat := 2 ^ 60
theorem shLine_eq : shLine = 2 ^ 60 := by unfold shLine; rfl
/-- what stands there now, by value -/
def view (S : Store) (r : R) : Option D := (frz 8 S r).map (·.1)
theorem view_ok {K : PySem.W.Frag} {H : Hp} {ρ : Wd} {S : Store} {v : V} {r : R} {d : D} (sr : SR K H ρ S) (q : Rq K H ρ v r) (e : view S r = some d) : ∃ z', Rp K H ⟨ρ.r, z'⟩ v d := by
  obtain ⟨p, e1, e2⟩ := Option.map_eq_some_iff.mp e
  subst e2
  obtain ⟨z', _, _, r1⟩ := frz_ok 8 S r p.1 p.2 ρ v e1 sr q
  exact ⟨z', r1⟩
theorem view_v (S : Store) (d : D) : view S (.v d) = some d := by simp [view, frz_v]
theorem view_ref {S : Store} {n : Nat} {ds : List D} (h : S[n]? = some (.lst (ds.map .v))) : view S (.ref n) = some (.lst ds) := by
  simp [view, frz, h, frzA_map]
theorem frz_ref {S : Store} {n : Nat} {k : Nat} {ds : List D} (h : S[n]? = some (.lst (ds.map .v))) : frz (k + 1) S (.ref n) = some (.lst ds, S.set n (.fz (.lst ds))) := by
  simp [frz, h, frzA_map]
mutual
def D.py : D → Option PyData
  | .non => some .none
  | .bl b => some (.bool b)
  | .int i => some (.int i)
  | .str x => some (.str x)
  | .ty _ => none
  | .tup ds => (D.pys ds).map .tuple
  | .lst ds => (D.pys ds).map .list
  | .kl ds => (D.pys ds).map .list
  | .dct _ _ => none
  | .txt => none
  | .kt ds => (D.pys ds).map .tuple
def D.pys : List D → Option (List PyData)
  | [] => some []
  | d :: ds => (D.py d).bind fun p => (D.pys ds).bind fun ps => some (p :: ps)
end
section
variable {X : Cx} {K : PySem.W.Frag} {H : Hp} {ρ : Wd} {S : Store}
mutual
theorem dp_of : ∀ (d : D) (v : V) (p : PyData), Rp K H ρ v d → d.py = some p → Dp K H v p
  | .non, v, p, r, e => by cases r; cases e; exact .non
  | .bl b, v, p, r, e => by cases r; cases e; exact .bl b
  | .int b, v, p, r, e => by cases r; cases e; exact .int b
  | .str b, v, p, r, e => by cases r; cases e; exact .str b
  | .ty b, v, p, r, e => by cases e
  | .tup ds, v, p, r, e => by
    cases r with
    | tup hs ra =>
      obtain ⟨ps, e1, e2⟩ := Option.map_eq_some_iff.mp (show (D.pys ds).map PyData.tuple = some p from e)
      subst e2
      exact .tup (sqT_at hs) (dpA_of ds _ ps ra e1)
  | .lst ds, v, p, r, e => by
    cases r with
    | lst hs ra =>
      obtain ⟨ps, e1, e2⟩ := Option.map_eq_some_iff.mp (show (D.pys ds).map PyData.list = some p from e)
      subst e2
      exact .lst hs.sq (dpA_of ds _ ps ra e1)
  | .kl ds, v, p, r, e => by
    cases r with
    | kl hs ra =>
      obtain ⟨ps, e1, e2⟩ := Option.map_eq_some_iff.mp (show (D.pys ds).map PyData.list = some p from e)
      subst e2
      exact .lst hs.sq (dpA_of ds _ ps ra e1)
  | .dct ks ds, v, p, r, e => by cases e
  | .txt, v, p, r, e => by cases e
  | .kt ds, v, p, r, e => by
    cases r with
    | kt hs ra =>
      obtain ⟨ps, e1, e2⟩ := Option.map_eq_some_iff.mp (show (D.pys ds).map PyData.tuple = some p from e)
      subst e2
      exact .tup hs.sq (dpA_of ds _ ps ra e1)
theorem dpA_of : ∀ (ds : List D) (xs : List V) (ps : List PyData), RpA K H ρ xs ds → D.pys ds = some ps → DpAll K H xs ps
  | [], xs, ps, r, e => by cases r; cases e; exact .nil
  | d :: ds, xs, ps, r, e => by
    cases r with
    | cons r1 r2 =>
      obtain ⟨p, e1, e2⟩ := Option.bind_eq_some_iff.mp (show ((D.py d).bind fun p => (D.pys ds).bind fun ps => some (p :: ps)) = some ps from e)
      obtain ⟨qs, e3, e4⟩ := Option.bind_eq_some_iff.mp e2
      cases e4
      exact .cons (dp_of d _ p r1 e1) (dpA_of ds _ qs r2 e3)
end
/-- .. of a form that == walks -/
def D.pyS (d : D) : Option PyData := d.py.bind fun p => if SeqAt.shaped p = true then some p else none
theorem pyS_dp {v : V} {d : D} {p : PyData} (r : Rp K H ρ v d) (e : d.pyS = some p) : Dp K H v p ∧ SeqAt.shaped p = true := by
  obtain ⟨q, e1, e2⟩ := Option.bind_eq_some_iff.mp e
  split at e2
  · cases e2; exact ⟨dp_of d v _ r e1, by assumption⟩
  · cases e2
def pyOf (S : Store) (r : R) : Option PyData := (view S r).bind D.pyS
theorem pyOf_dp (sr : SR K H ρ S) {v : V} {r : R} {p : PyData} (q : Rq K H ρ v r) (e : pyOf S r = some p) : Dp K H v p ∧ SeqAt.shaped p = true := by
  obtain ⟨d, e1, e2⟩ := Option.bind_eq_some_iff.mp e
  obtain ⟨z', r1⟩ := view_ok sr q e1
  exact pyS_dp r1 e2
def opAdd (d e : R) (S : Store) : Out R := match d, e with
  | .v (.int i), .v (.int j) => .ok (.int (i + j)) S
  | .v (.int i), .v (.bl k) => .ok (.int (i + b2i k)) S
  | .v (.str x), .v (.str y) => if x.length + y.length ≤ sizeLine then .ok (.str (x ++ y)) S else .no
  | .v (.tup xs), .v (.tup ys) => if xs.length + ys.length ≤ sizeLine then .ok (.tup (xs ++ ys)) S else .no
  | .v (.lst xs), .v (.lst ys) => if xs.length + ys.length ≤ sizeLine then .ok (.ref S.length) (S ++ [.lst (xs.map .v ++ ys.map .v)]) else .no
  | .v (.lst xs), .ref k => match lsOf S k with
    | some ys => if xs.length + ys.length ≤ sizeLine then .ok (.ref S.length) (S ++ [.lst (xs.map .v ++ ys)]) else .no
    | none => .no
  | .ref n, .v (.lst ys) => match lsOf S n with
    | some xs => if xs.length + ys.length ≤ sizeLine then .ok (.ref S.length) (S ++ [.lst (xs ++ ys.map .v)]) else .no
    | none => .no
  | .ref n, .ref k => match lsOf S n, lsOf S k with
    | some xs, some ys => if xs.length + ys.length ≤ sizeLine then .ok (.ref S.length) (S ++ [.lst (xs ++ ys)]) else .no
    | _, _ => .no
  | _, _ => .no
theorem SR.lsE {n : Nat} {a : Addr} {ds : List R} (sr : SR K H ρ S) (e : ρ.r[n]? = some a) (h : lsOf S n = some ds) : ∃ xs, H a = some (.lst xs) ∧ RqA K H ρ xs ds := by
  unfold lsOf at h
  obtain ⟨o, h1, h2⟩ := Option.bind_eq_some_iff.mp h
  have q := sr.obj n a o e h1
  unfold seqC at h2
  split at h2
  · cases h2
    obtain ⟨xs, hu, r⟩ := q
    exact ⟨xs, hu, r⟩
  · cases h2
    have q : Rp K H ρ (.ref a) (.lst _) := q
    cases q with
    | lst hs ra => exact ⟨_, hs.2, ra.q⟩
  · cases h2
theorem opm_add : OpM X (binaryOp .Add) opAdd := by
  rintro pins s σ H x y v u Q I rx ry ⟨E, ρ, S, d, e, sr, rd, re, h⟩
  cases rd with
  | v rd =>
    cases re with
    | v re =>
      cases rd <;> cases re <;> first | exact (show False from h).elim | skip
      case int.bl i k => exact op_add_ib pins s σ H _ _ v u Q I rx ry ⟨_, _, rfl, rfl, h _ _ _ .refl sr (.int _)⟩
      case int.int i j => exact op_add pins s σ H _ _ v u Q I rx ry ⟨_, _, rfl, rfl, h _ _ _ .refl sr (.int _)⟩
      case str.str i j =>
        unfold opAdd at h
        simp only at h
        split at h
        · exact op_add_str pins s σ H _ _ v u Q I rx ry ⟨_, _, rfl, rfl, by assumption, h _ _ _ .refl sr (.str _)⟩
        · exact h.elim
      case tup.tup a xs ds hs ra b ys es hs2 ra2 =>
        unfold opAdd at h
        simp only at h
        split at h
        · rename_i hz
          refine op_catA pins s σ H _ _ v u Q I rx ry ⟨_, _, _, _, rfl, rfl, sqT_at hs, sqT_at hs2, by rw [ra.length, ra2.length]; exact hz, fun q => ?_, fun q1 q => ?_, fun q1 q2 p hp => RO.tup sr (ra.append ra2) h hp⟩
          · subst q; cases ra; exact h _ _ _ .refl sr (.v (.tup hs2 ra2))
          · subst q; cases ra2; rw [List.append_nil] at h; exact h _ _ _ .refl sr (.v (.tup hs ra))
        · exact h.elim
      case lst.lst a xs ds hs ra b ys es hs2 ra2 =>
        unfold opAdd at h
        simp only at h
        split at h
        · rename_i hz
          exact op_cat pins s σ H _ _ v u Q I rx ry ⟨_, _, _, _, rfl, rfl, hs.2, hs2.2, by rw [ra.length, ra2.length]; exact hz, fun p hp => RO.lst sr (ra.q.append ra2.q) h hp⟩
        · exact h.elim
    | ref eb =>
      cases rd <;> first | exact (show False from h).elim | skip
      case lst a xs ds hs ra =>
        unfold opAdd at h
        simp only at h
        split at h
        · rename_i ys hy
          split at h
          · rename_i hz
            obtain ⟨bs, hb, rb⟩ := sr.lsE eb hy
            exact op_cat pins s σ H _ _ v u Q I rx ry ⟨_, _, _, _, rfl, rfl, hs.2, hb, by rw [ra.length, rb.length]; exact hz, fun p hp => RO.lst sr (ra.q.append rb) h hp⟩
          · exact h.elim
        · exact h.elim
  | ref ea =>
    cases re with
    | v re =>
      cases re <;> first | exact (show False from h).elim | skip
      case lst b ys es hs2 ra2 =>
        unfold opAdd at h
        simp only at h
        split at h
        · rename_i ys hy
          split at h
          · rename_i hz
            obtain ⟨bs, hb, rb⟩ := sr.lsE ea hy
            exact op_cat pins s σ H _ _ v u Q I rx ry ⟨_, _, _, _, rfl, rfl, hb, hs2.2, by rw [rb.length, ra2.length]; exact hz, fun p hp => RO.lst sr (rb.append ra2.q) h hp⟩
          · exact h.elim
        · exact h.elim
    | ref eb =>
      unfold opAdd at h
      simp only at h
      split at h
      · rename_i xs ys h1 h2
        split at h
        · rename_i hz
          obtain ⟨as, ha, ra⟩ := sr.lsE ea h1
          obtain ⟨bs, hb, rb⟩ := sr.lsE eb h2
          exact op_cat pins s σ H _ _ v u Q I rx ry ⟨_, _, _, _, rfl, rfl, ha, hb, by rw [ra.length, rb.length]; exact hz, fun p hp => RO.lst sr (ra.append rb) h hp⟩
        · exact h.elim
      · exact h.elim
/-- where two ints are wanted -/
def onII {α : Type} (d e : R) (f : Int → Int → Out α) : Out α := match d, e with
  | .v (.int i), .v (.int j) => f i j
  | _, _ => .no
theorem RO.onII {α β : Type} {rel : Hp → Wd → β → α → Prop} {E : XK} {d e : R} {v u : V} {f : Int → Int → Out α} {Q : β → Hp → Prop} (r : Rq K H ρ v d) (r' : Rq K H ρ u e) (h : RO K rel E H ρ (M.onII d e f) Q) : ∃ i j, d = .int i ∧ e = .int j ∧ v = .int i ∧ u = .int j ∧ RO K rel E H ρ (f i j) Q := by
  cases r with
  | ref e => exact h.elim
  | v r =>
    cases r' with
    | ref e => cases r <;> exact (show False from h).elim
    | v r' => cases r <;> cases r' <;> first | exact (show False from h).elim | exact ⟨_, _, rfl, rfl, rfl, rfl, h⟩
def opSub (d e : R) (S : Store) : Out R := onII d e fun i j => .ok (.int (i - j)) S
theorem opm_sub : OpM X (binaryOp .Sub) opSub := by
  rintro pins s σ H x y v u Q I rx ry ⟨E, ρ, S, d, e, sr, rd, re, h⟩
  obtain ⟨i, j, _, _, rfl, rfl, h⟩ := RO.onII rd re h
  exact op_sub pins s σ H _ _ v u Q I rx ry ⟨_, _, rfl, rfl, h _ _ _ .refl sr (.int _)⟩
def opFdiv (d e : R) (S : Store) : Out R := onII d e fun i j => if 0 < j ∧ j.natAbs < dvLine then .ok (.int (i / j)) S else .no
theorem opm_fdiv : OpM X (binaryOp .FloorDiv) opFdiv := by
  rintro pins s σ H x y v u Q I rx ry ⟨E, ρ, S, d, e, sr, rd, re, h⟩
  obtain ⟨i, j, _, _, rfl, rfl, h⟩ := RO.onII rd re h
  split at h
  · rename_i hz
    exact op_fdivW pins s σ H _ _ v u Q I rx ry ⟨_, _, rfl, rfl, divW hz, h _ _ _ .refl sr (.int _)⟩
  · exact h.elim
def opMod (d e : R) (S : Store) : Out R := onII d e fun i j => if 0 < j then .ok (.int (i % j)) S else .no
theorem opm_mod : OpM X (binaryOp .Mod) opMod := by
  rintro pins s σ H x y v u Q I rx ry ⟨E, ρ, S, d, e, sr, rd, re, h⟩
  obtain ⟨i, j, _, _, rfl, rfl, h⟩ := RO.onII rd re h
  split at h
  · exact op_mod pins s σ H _ _ v u Q I rx ry ⟨_, _, rfl, rfl, by assumption, h _ _ _ .refl sr (.int _)⟩
  · exact h.elim
def opPow (d e : R) (S : Store) : Out R := onII d e fun i j => if 0 ≤ j ∧ j ≤ 1000000 ∧ i.natAbs < 2 ^ 64 then .ok (.int (i ^ j.toNat)) S else .no
theorem opm_pow : OpM X (binaryOp .Pow) opPow := by
  rintro pins s σ H x y v u Q I rx ry ⟨E, ρ, S, d, e, sr, rd, re, h⟩
  obtain ⟨i, j, _, _, rfl, rfl, h⟩ := RO.onII rd re h
  split at h
  · exact op_pow pins s σ H _ _ v u Q I rx ry ⟨_, _, rfl, rfl, by assumption, h _ _ _ .refl sr (.int _)⟩
  · exact h.elim
/-- a list many times -/
def repR (k : Int) (xs : List R) : List R := (List.replicate k.toNat xs).flatten
theorem RqA.rep {xs : List V} {ds : List R} (h : RqA K H ρ xs ds) : ∀ n : Nat, RqA K H ρ (List.replicate n xs).flatten (List.replicate n ds).flatten
  | 0 => .nil
  | n + 1 => by
    rw [List.replicate_succ, List.replicate_succ, List.flatten_cons, List.flatten_cons]
    exact RqA.append h (RqA.rep h n)
def opMul (d e : R) (S : Store) : Out R := match d, e with
  | .v (.int i), .v (.int j) => if (i.natAbs < smLine ∧ j.natAbs < smLine) ∨ j.natAbs < shLine then .ok (.int (i * j)) S else .no
  | .v (.lst xs), .v (.int k) => if k < 2 ^ 20 ∧ -(2 ^ 63) ≤ k ∧ xs.length * k.toNat ≤ sizeLine then .ok (.ref S.length) (S ++ [.lst (repR k (xs.map .v))]) else .no
  | .ref n, .v (.int k) => match lsOf S n with
    | some xs => if k < 2 ^ 20 ∧ -(2 ^ 63) ≤ k ∧ xs.length * k.toNat ≤ sizeLine then .ok (.ref S.length) (S ++ [.lst (repR k xs)]) else .no
    | none => .no
  | _, _ => .no
theorem opm_mul : OpM X (binaryOp .Mult) opMul := by
  rintro pins s σ H x y v u Q I rx ry ⟨E, ρ, S, d, e, sr, rd, re, h⟩
  cases re with
  | ref eb =>
    cases rd with
    | ref ea => exact (show False from h).elim
    | v rd => cases rd <;> exact (show False from h).elim
  | v re =>
    cases rd with
    | v rd =>
      cases rd <;> cases re <;> first | exact (show False from h).elim | skip
      case int.int i j =>
        have h : RO X.K (relD X.K) E H ρ (if (i.natAbs < smLine ∧ j.natAbs < smLine) ∨ j.natAbs < shLine then .ok (.int (i * j)) S else .no) Q := h
        split at h
        · rename_i hz
          rcases hz with hz | hz
          · exact op_mulW pins s σ H _ _ v u Q I rx ry ⟨_, _, rfl, rfl, mulW hz, h _ _ _ .refl sr (.int _)⟩
          · rw [shLine_eq] at hz
            exact op_mul pins s σ H _ _ v u Q I rx ry ⟨_, _, rfl, rfl, .inr (by omega), h _ _ _ .refl sr (.int _)⟩
        · exact h.elim
      case lst.int a xs ds hs ra k =>
        unfold opMul at h
        simp only at h
        split at h
        · rename_i hz
          exact op_rep pins s σ H _ _ v u Q I rx ry ⟨_, _, _, rfl, rfl, hs.2, hz.2.1, by omega, by rw [ra.length]; exact hz.2.2, fun p hp => RO.lst sr (ra.q.rep _) h hp⟩
        · exact h.elim
    | ref ea =>
      cases re <;> first | exact (show False from h).elim | skip
      case int k =>
        unfold opMul at h
        simp only at h
        split at h
        · rename_i xs hx
          split at h
          · rename_i hz
            obtain ⟨as, ha, ra⟩ := sr.lsE ea hx
            exact op_rep pins s σ H _ _ v u Q I rx ry ⟨_, _, _, rfl, rfl, ha, hz.2.1, by omega, by rw [ra.length]; exact hz.2.2, fun p hp => RO.lst sr (ra.rep _) h hp⟩
          · exact h.elim
        · exact h.elim
def opNeg (d : R) (S : Store) : Out R := match d with
  | .v (.int i) => .ok (.int (-i)) S
  | _ => .no
def opIadd (d e : R) (S : Store) : Out R := match d, e with
  | .v (.int i), .v (.int j) => .ok (.int (i + j)) S
  | .v (.str x), .v (.str y) => if x.length + y.length ≤ sizeLine then .ok (.str (x ++ y)) S else .no
  | _, _ => .no
def opCmpI (p : Int → Int → Bool) (d e : R) (S : Store) : Out R := onII d e fun i j => .ok (.bl (p i j)) S
theorem opm_ge : OpM X (compareOp .GtE) (opCmpI fun i j => decide (j ≤ i)) := by
  rintro pins s σ H x y v u Q I rx ry ⟨E, ρ, S, d, e, sr, rd, re, h⟩
  obtain ⟨i, j, _, _, rfl, rfl, h⟩ := RO.onII rd re h
  exact op_ge pins s σ H _ _ v u Q I rx ry ⟨_, _, rfl, rfl, h _ _ _ .refl sr (.bl _)⟩
theorem opm_le : OpM X (compareOp .LtE) (opCmpI fun i j => decide (i ≤ j)) := by
  rintro pins s σ H x y v u Q I rx ry ⟨E, ρ, S, d, e, sr, rd, re, h⟩
  obtain ⟨i, j, _, _, rfl, rfl, h⟩ := RO.onII rd re h
  exact op_le pins s σ H _ _ v u Q I rx ry ⟨_, _, rfl, rfl, h _ _ _ .refl sr (.bl _)⟩
def opEq (d e : R) (S : Store) : Out R := match pyOf S d, pyOf S e with
  | some p, some q => .ok (.bl (PyData.eqv p q)) S
  | _, _ => .no
def opNe (d e : R) (S : Store) : Out R := match pyOf S d, pyOf S e with
  | some p, some q => .ok (.bl (!PyData.eqv p q)) S
  | _, _ => .no
theorem opm_eq (hu : X.A.units + 64 < cLine) : OpM X (compareOp .Eq) opEq := by
  rintro pins s σ H x y v u Q I rx ry ⟨E, ρ, S, d, e, sr, rd, re, h⟩
  unfold opEq at h
  split at h
  · rename_i p q h1 h2
    obtain ⟨d1, s1⟩ := pyOf_dp sr rd h1
    obtain ⟨d2, s2⟩ := pyOf_dp sr re h2
    exact op_eqD hu pins s σ H _ _ v u Q I rx ry ⟨_, _, d1, d2, s1, s2, h _ _ _ .refl sr (.bl _)⟩
  · exact h.elim
theorem opm_ne (hu : X.A.units + 64 < cLine) : OpM X (compareOp .NotEq) opNe := by
  rintro pins s σ H x y v u Q I rx ry ⟨E, ρ, S, d, e, sr, rd, re, h⟩
  unfold opNe at h
  split at h
  · rename_i p q h1 h2
    obtain ⟨d1, s1⟩ := pyOf_dp sr rd h1
    obtain ⟨d2, s2⟩ := pyOf_dp sr re h2
    exact op_neD hu pins s σ H _ _ v u Q I rx ry ⟨_, _, d1, d2, s1, s2, h _ _ _ .refl sr (.bl _)⟩
  · exact h.elim
def seqPy : PyData → Option (List PyData)
  | .list ps => some ps
  | .tuple ps => some ps
  | _ => none
/-- a sign -/
def signOf (x : Str) : Option Nat := match x.cps.toList with
  | [c] => some c
  | _ => none
theorem signOf_eq {x : Str} {c : Nat} (h : signOf x = some c) : x = ⟨#[c]⟩ := by
  unfold signOf at h
  split at h
  · rename_i c' e
    cases h
    cases x with
    | mk a => simp only at e; simp only [Str.mk.injEq]; exact Array.toList_inj.mp (by simpa using e)
  · cases h
def inM (S : Store) (d e : R) : Option Bool := match d, e with
  | .v (.str x), .v (.str z) => (signOf x).map fun c => decide (c ∈ z.cps.toList)
  | d, e => match pyOf S d, (pyOf S e).bind seqPy with
    | some p, some qs => some (qs.any fun z => PyData.eqv z p)
    | _, _ => none
def opIn (d e : R) (S : Store) : Out R := match inM S d e with
  | some k => .ok (.bl k) S
  | none => .no
theorem inM_cases (sr : SR K H ρ S) {d e : R} {x y : V} {k : Bool} (rd : Rq K H ρ x d) (re : Rq K H ρ y e) (h : inM S d e = some k) :
    (∃ c z, x = .str ⟨#[c]⟩ ∧ y = .str z ∧ k = decide (c ∈ z.cps.toList)) ∨ ∃ p q qs, Dp K H x p ∧ Dp K H y q ∧ (q = .list qs ∨ q = .tuple qs) ∧ SeqAt.shaped p = true ∧ SeqAt.shaped q = true ∧ k = qs.any fun z => PyData.eqv z p := by
  have gen : (match pyOf S d, (pyOf S e).bind seqPy with
    | some p, some qs => some (qs.any fun z => PyData.eqv z p)
    | _, _ => none) = some k → ∃ p q qs, Dp K H x p ∧ Dp K H y q ∧ (q = .list qs ∨ q = .tuple qs) ∧ SeqAt.shaped p = true ∧ SeqAt.shaped q = true ∧ k = qs.any fun z => PyData.eqv z p := by
    intro h
    split at h
    · rename_i p qs h1 h2
      obtain ⟨q, h3, h4⟩ := Option.bind_eq_some_iff.mp h2
      obtain ⟨d1, s1⟩ := pyOf_dp sr rd h1
      obtain ⟨d2, s2⟩ := pyOf_dp sr re h3
      refine ⟨p, q, qs, d1, d2, ?_, s1, s2, (Option.some.inj h).symm⟩
      unfold seqPy at h4
      split at h4
      · cases h4; exact .inl rfl
      · cases h4; exact .inr rfl
      · cases h4
    · cases h
  unfold inM at h
  split at h
  · rename_i x' z
    obtain ⟨c, h1, h2⟩ := Option.map_eq_some_iff.mp h
    have := signOf_eq h1
    subst this
    cases rd with
    | v rd =>
      cases rd
      cases re with
      | v re =>
        cases re
        exact .inl ⟨c, z, rfl, rfl, h2.symm⟩
  · exact .inr (gen h)
theorem opm_in (hu : X.A.units + 65 < cLine) : OpM X (compareOp .In) opIn := by
  rintro pins s σ H x y v u Q I rx ry ⟨E, ρ, S, d, e, sr, rd, re, h⟩
  unfold opIn at h
  split at h
  · rename_i k hk
    rcases inM_cases sr rd re hk with ⟨c, z, rfl, rfl, rfl⟩ | ⟨p, q, qs, d1, d2, hq, s1, s2, rfl⟩
    · exact op_in_sign pins s σ H _ _ v u Q I rx ry ⟨_, _, rfl, rfl, h _ _ _ .refl sr (.bl _)⟩
    · rcases hq with rfl | rfl
      · exact op_inD hu pins s σ H _ _ v u Q I rx ry ⟨_, _, d1, d2, s1, s2, h _ _ _ .refl sr (.bl _)⟩
      · obtain ⟨as, r1⟩ := Dp.reads I p x v d1 rx
        obtain ⟨bs, r2⟩ := Dp.reads I (.tuple qs) y u d2 ry
        exact SeqAt.in_tuple_reads r2 r1 (SeqAt.canLay_of_shaped s2) (SeqAt.canLay_of_shaped s1) (PyProof.Rows.room_in_shaped s1 hu) ⟨.bl _, H, I, rfl, h _ _ _ .refl sr (.bl _)⟩
  · exact h.elim
def isNon : R → Bool
  | .v .non => true
  | _ => false
def isV (d e : R) : Option Bool := match e with
  | .v .non => some (isNon d)
  | .v (.bl b) => match d with
    | .v (.bl a) => some (decide (a = b))
    | _ => none
  | _ => none
def opIs (d e : R) (S : Store) : Out R := match isV d e with
  | some k => .ok (.bl k) S
  | none => .no
def opIsNot (d e : R) (S : Store) : Out R := match isV d e with
  | some k => .ok (.bl (!k)) S
  | none => .no
theorem isN_rq {v : V} {d : R} (r : Rq K H ρ v d) : decide (v = .non) = isNon d := by
  cases r with
  | ref e => rfl
  | v r => cases r <;> rfl
theorem isV_cases {d e : R} {x y : V} {k : Bool} (rd : Rq K H ρ x d) (re : Rq K H ρ y e) (h : isV d e = some k) : (y = .non ∧ k = decide (x = .non)) ∨ ∃ a b, x = .bl a ∧ y = .bl b ∧ k = decide (a = b) := by
  unfold isV at h
  split at h
  · cases h
    cases re with
    | v re => cases re; exact .inl ⟨rfl, (isN_rq rd).symm⟩
  · split at h
    · cases h
      cases re with
      | v re =>
        cases re
        cases rd with
        | v rd => cases rd; exact .inr ⟨_, _, rfl, rfl, rfl⟩
    · cases h
  · cases h
theorem opm_is : OpM X (compareOp .Is) opIs := by
  rintro pins s σ H x y v u Q I rx ry ⟨E, ρ, S, d, e, sr, rd, re, h⟩
  unfold opIs at h
  split at h
  · rename_i k hk
    rcases isV_cases rd re hk with ⟨rfl, rfl⟩ | ⟨a, b, rfl, rfl, rfl⟩
    · exact op_isN pins s σ H _ _ v u Q I rx ry ⟨rfl, h _ _ _ .refl sr (.bl _)⟩
    · exact op_isBl pins s σ H _ _ v u Q I rx ry ⟨_, _, rfl, rfl, h _ _ _ .refl sr (.bl _)⟩
  · exact h.elim
end
end M
namespace M
open PySem PySem.Spec L2
open PyProof.Rows hiding St
section
variable {X : Cx} {E : St → XK} {a b c e tgE iter : Expr} {es rest : List Expr} {pos : Pos} {ma mb mc : ME} {mt mu : MT} {mr : MA} {K : PySem.W.Frag} {H : Hp} {ρ : Wd} {S : Store}
theorem atI_rqa {xs : List V} {ds : List R} {i : Int} {d : R} (r : RqA K H ρ xs ds) (h : atI ds i = some d) : ∃ v, atI xs i = some v ∧ Rq K H ρ v d := by
  unfold atI at h ⊢
  rw [r.length]
  cases e : ixN ds.length i with
  | none => rw [e] at h; cases h
  | some j =>
    rw [e] at h
    exact r.get h
def opIx (d e : R) (S : Store) : Out R := match e with
  | .v (.int i) => match d with
    | .v (.str x) => if x.length ≤ sizeLine then (match atI x.cps.toList i with
      | some c => .ok (.str ⟨#[c]⟩) S
      | none => .no) else .no
    | d => match seqOf S d with
      | some ds => match atI ds i with
        | some x => .ok x S
        | none => .no
      | none => .no
  | _ => .no
theorem ixm : IxR X (rM X.K opIx) := by
  rintro value slice pins s σ H x y v u Q I rx ry ⟨E, ρ, S, d, e, sr, rd, re, h⟩ hs
  cases re with
  | ref _ => exact (show False from h).elim
  | v re =>
  cases re <;> first | exact (show False from h).elim | skip
  case int i =>
    have gen : ∀ ds, seqOf S d = some ds → RO X.K (relD X.K) E H ρ (match atI ds i with
        | some x => .ok x S
        | none => .no) Q → wpAny (model X.prog X.w) X.A _ _ _ s := fun ds hds h => by
      split at h
      · rename_i x hx
        obtain ⟨p, xs, rfl, hq, ra⟩ := sr.seq rd hds
        obtain ⟨w, hw, rw'⟩ := atI_rqa ra hx
        rcases hq with hq | hq
        · exact ix_list value slice pins s σ H _ _ v u Q I rx ry ⟨_, _, _, _, rfl, rfl, hq, hw, h _ _ _ .refl sr rw'⟩ hs
        · exact ix_tup value slice pins s σ H _ _ v u Q I rx ry ⟨_, _, _, _, rfl, rfl, hq, hw, h _ _ _ .refl sr rw'⟩ hs
      · exact h.elim
    unfold opIx at h
    simp only at h
    split at h
    · split at h
      · split at h
        · rename_i x hz _ c hc
          cases rd with
          | v rd =>
            cases rd
            exact ix_str value slice pins s σ H _ _ v u Q I rx ry ⟨_, _, _, rfl, rfl, hz, hc, h _ _ _ .refl sr (.str _)⟩ hs
        · exact h.elim
      · exact h.elim
    · split at h
      · rename_i ds hds
        exact gen ds hds h
      · exact h.elim
theorem pm_ix (ha : PE X a (tE X.K E ma)) (hb : PE X b (tE X.K E mb)) (hs : PlainIx b := by exact fun _ _ => rfl) : PE X (.Subscript a b pos) (tE X.K E (mBin opIx ma mb)) := PE.imp (pe_ix ixm ha hb hs) fun _ _ _ h => tOp_of h
abbrev MO_ := Env → Store → Out (Option Int)
def tO (K : PySem.W.Frag) (E : St → XK) (f : MO_) : TO := fun σ H Q => ∃ ρ m S, SR K H ρ S ∧ EnvR K H ρ σ m ∧ RO K (fun _ _ (v d : Option Int) => v = d) (E σ) H ρ (f m S) Q
theorem PO.imp {e : Option Expr} {t t' : TO} (h : PO X e t) (k : ∀ σ H Q, t' σ H Q → t σ H Q) : PO X e t' := ⟨fun pins s σ H Q I q => h.run pins s σ H Q I (k _ _ _ q)⟩
def moN : MO_ := fun _ S => .ok none S
def moS (f : ME) : MO_ := fun m S => (f m S).bind fun d S1 => match d with
  | .v (.int i) => .ok (some i) S1
  | _ => .no
theorem pom_none : PO X none (tO X.K E moN) := PO.imp po_none fun σ H Q ⟨ρ, m, S, sr, er, h⟩ => h _ H ρ .refl sr rfl
theorem pom_some (he : PE X e (tE X.K E ma)) : PO X (some e) (tO X.K E (moS ma)) := by
  refine PO.imp (po_some he) ?_
  rintro σ H Q ⟨ρ, m, S, sr, er, h⟩
  refine ⟨ρ, m, S, sr, er, RO.bind h fun d S1 v H1 ρ1 m1 s1 r1 h1 => ?_⟩
  cases r1 with
  | ref _ => exact (show False from h1).elim
  | v r1 =>
    cases r1 <;> first | exact (show False from h1).elim | exact ⟨_, rfl, h1 _ H1 ρ1 .refl s1 rfl⟩
def cutD {α : Type} (xs : List α) (lo hi : Option Int) : List α := (xs.drop (HT.sIx xs.length 0 lo)).take (HT.sIx xs.length xs.length hi - HT.sIx xs.length 0 lo)
theorem cut_rqa {xs : List V} {ds : List R} {lo hi : Option Int} (r : RqA K H ρ xs ds) : RqA K H ρ (cutV xs lo hi) (cutD ds lo hi) := by
  unfold cutV cutD
  rw [r.length]
  exact (r.drop _).take _
theorem cut_rpa {xs : List V} {ds : List D} {lo hi : Option Int} (r : RpA K H ρ xs ds) : RpA K H ρ (cutV xs lo hi) (cutD ds lo hi) := by
  unfold cutV cutD
  rw [r.length]
  exact (r.drop _).take _
def opSl (d : R) (lo hi : Option Int) (S : Store) : Out R := match d with
  | .v (.tup ds) => .ok (.tup (cutD ds lo hi)) S
  | .v (.str x) => if x.length ≤ sizeLine then .ok (.str (cutS x lo hi)) S else .no
  | d => match lstOf S d with
    | some ds => .ok (.ref S.length) (S ++ [.lst (cutD ds lo hi)])
    | none => .no
def rMS (K : PySem.W.Frag) : V → Option Int → Option Int → Hp → VK → Prop := fun x lo hi H Q => ∃ (E : XK) (ρ : Wd) (S : Store) (d : R), SR K H ρ S ∧ Rq K H ρ x d ∧ RO K (relD K) E H ρ (opSl d lo hi S) Q
theorem slm : SlR X (rMS X.K) := by
  rintro pins s σ H x v vl vu lo hi sl Q I rx hs pl pu ⟨E, ρ, S, d, sr, rd, h⟩
  unfold opSl at h
  split at h
  · rename_i ds
    cases rd with
    | v rd =>
      cases rd with
      | tup hq ra =>
        refine sl_tupA pins s σ H _ v vl vu lo hi sl Q I rx hs pl pu ⟨_, _, rfl, sqT_at hq, fun q => ?_, fun _ p hp => RO.tup sr (cut_rpa ra) h hp⟩
        have e : cutD ds lo hi = ds := by
          unfold cutD
          rw [ra.length] at q
          rw [q.1, q.2]
          simp
        rw [e] at h
        exact h _ _ _ .refl sr (.v (.tup hq ra))
  · cases rd with
    | v rd =>
      cases rd
      split at h
      · exact sl_str pins s σ H _ v vl vu lo hi sl Q I rx hs pl pu ⟨_, rfl, by assumption, h _ _ _ .refl sr (.str _)⟩
      · exact h.elim
  · split at h
    · rename_i ds hds
      obtain ⟨p, xs, rfl, hq, ra⟩ := sr.lsD rd hds
      exact sl_list pins s σ H _ v vl vu lo hi sl Q I rx hs pl pu ⟨_, _, rfl, hq, fun p hp => RO.lst sr (cut_rqa ra) h hp⟩
    · exact h.elim
def mSl (f : ME) (l u : MO_) : ME := fun m S => (f m S).bind fun d S1 => (l m S1).bind fun lo S2 => (u m S2).bind fun hi S3 => opSl d lo hi S3
theorem pm_slice {lo hi : Option Expr} {ml mh : MO_} {p2 : Pos} (he : PE X e (tE X.K E ma)) (hl : PO X lo (tO X.K E ml)) (hu : PO X hi (tO X.K E mh)) : PE X (.Subscript e (.Slice lo hi none p2) pos) (tE X.K E (mSl ma ml mh)) := by
  refine PE.imp (pe_slice slm he hl hu) ?_
  rintro σ H Q ⟨ρ, m, S, sr, er, h⟩
  refine ⟨ρ, m, S, sr, er, RO.bind h fun d S1 v H1 ρ1 m1 s1 r1 h1 => ?_⟩
  refine ⟨ρ1, m, S1, s1, er.mo m1, RO.bind h1 fun lo S2 lo' H2 ρ2 m2 s2 r2 h2 => ?_⟩
  subst r2
  refine ⟨ρ2, m, S2, s2, (er.mo m1).mo m2, RO.bind h2 fun hi S3 hi' H3 ρ3 m3 s3 r3 h3 => ?_⟩
  subst r3
  exact ⟨_, ρ3, S3, d, s3, (r1.mo m2).mo m3, h3⟩
theorem RqA.one {xs : List V} {d : R} (r : RqA K H ρ xs [d]) : ∃ v, xs = [v] ∧ Rq K H ρ v d := by
  cases r with
  | cons r1 r2 => cases r2; exact ⟨_, rfl, r1⟩
theorem RqA.two {xs : List V} {d e : R} (r : RqA K H ρ xs [d, e]) : ∃ v w, xs = [v, w] ∧ Rq K H ρ v d ∧ Rq K H ρ w e := by
  cases r with
  | cons r1 r2 => obtain ⟨w, rfl, r3⟩ := RqA.one r2; exact ⟨_, _, rfl, r1, r3⟩
theorem RpA.two {xs : List V} {d e : D} (r : RpA K H ρ xs [d, e]) : ∃ v w, xs = [v, w] ∧ Rp K H ρ v d ∧ Rp K H ρ w e := by
  cases r with
  | cons r1 r2 => cases r2 with
    | cons r2 r3 => cases r3; exact ⟨_, _, rfl, r1, r2⟩
def biLen (ds : List R) (S : Store) : Out R := match ds with
  | [.v (.str x)] => if x.length ≤ sizeLine then .ok (.int x.length) S else .no
  | [d] => match seqOf S d with
    | some es => .ok (.int es.length) S
    | none => .no
  | _ => .no
theorem cam_len : CaM X (.builtin "len") biLen := by
  rintro pins s σ H xs us Q I rv ⟨E, ρ, S, ds, sr, r, h⟩
  unfold biLen at h
  split at h
  · obtain ⟨v, rfl, r1⟩ := r.one
    cases r1 with
    | v r1 =>
      cases r1
      split at h
      · exact call_len_str pins s σ H _ us Q I rv ⟨_, rfl, by assumption, h _ _ _ .refl sr (.int _)⟩
      · exact h.elim
  · split at h
    · rename_i es hes
      obtain ⟨v, rfl, r1⟩ := r.one
      obtain ⟨p, xs, rfl, hq, ra⟩ := sr.seq r1 hes
      exact call_len_seq pins s σ H _ us Q I rv ⟨_, _, rfl, hq, by rw [ra.length]; exact h _ _ _ .refl sr (.int _)⟩
    · exact h.elim
  · exact h.elim
def biAbs (ds : List R) (S : Store) : Out R := match ds with
  | [.v (.int i)] => .ok (.int (if i < 0 then -i else i)) S
  | _ => .no
/-- int of an int, a truth, a text of figures -/
def biInt (ds : List R) (S : Store) : Out R := match ds with
  | [.v (.int i)] => .ok (.int i) S
  | [.v (.bl k)] => .ok (.int (if k = true then 1 else 0)) S
  | [.v (.str x)] => match PySem.intText? x with
    | some n => if x.length ≤ 640 then .ok (.int n) S else .no
    | none => .no
  | _ => .no
def biList (ds : List R) (S : Store) : Out R := match ds with
  | [d] => match seqOf S d with
    | some es => .ok (.ref S.length) (S ++ [.lst es])
    | none => .no
  | _ => .no
def biTuple (ds : List R) (S : Store) : Out R := match ds with
  | [.v (.tup es)] => .ok (.tup es) S
  | [d] => match lstOf S d with
    | some es => frzO S es fun ds S2 => .ok (.tup ds) S2
    | none => .no
  | _ => .no
theorem cam_tuple : CaM X (.type "tuple") biTuple := by
  rintro pins s σ H xs us Q I rv ⟨E, ρ, S, ds, sr, r, h⟩
  unfold biTuple at h
  split at h
  · obtain ⟨v, rfl, r1⟩ := r.one
    cases r1 with
    | v r1 =>
      cases r1 with
      | tup hs ra => exact call_tuple_of pins s σ H _ us Q I rv ⟨_, _, rfl, .inr ⟨sqT_at hs, h _ _ _ .refl sr (.v (.tup hs ra))⟩⟩
  · split at h
    · rename_i es hes
      obtain ⟨v, rfl, r1⟩ := r.one
      obtain ⟨p, xs, rfl, hq, ra⟩ := sr.lsD r1 hes
      obtain ⟨es', S2, ρ2, s2, m2, r2, h2⟩ := RO.frz sr ra h
      exact call_tuple_of pins s σ H _ us Q I rv ⟨_, _, rfl, .inl ⟨hq, fun l hl => RO.tup s2 r2 h2 hl⟩⟩
    · exact h.elim
  · exact h.elim
def blsOf : List R → Option (List Bool)
  | [] => some []
  | .v (.bl b) :: r => (blsOf r).map (b :: ·)
  | _ => none
theorem rqa_bls : ∀ {xs : List V} {ds : List R} {bs : List Bool}, RqA K H ρ xs ds → blsOf ds = some bs → xs = bs.map V.bl
  | _, [], bs, r, e => by cases r; cases e; rfl
  | _, d :: ds, bs, r, e => by
    cases r with
    | cons r1 r2 =>
      cases r1 with
      | ref _ => cases e
      | v r1 =>
        cases r1 <;> first | (cases e; done) | skip
        rename_i b
        obtain ⟨cs, e1, e2⟩ := Option.map_eq_some_iff.mp (show (blsOf ds).map (b :: ·) = some bs from e)
        subst e2
        rw [rqa_bls r2 e1]
        rfl
def intsOf : List R → Option (List Int)
  | [] => some []
  | .v (.int b) :: r => (intsOf r).map (b :: ·)
  | _ => none
theorem rqa_ints : ∀ {xs : List V} {ds : List R} {bs : List Int}, RqA K H ρ xs ds → intsOf ds = some bs → xs = bs.map V.int
  | _, [], bs, r, e => by cases r; cases e; rfl
  | _, d :: ds, bs, r, e => by
    cases r with
    | cons r1 r2 =>
      cases r1 with
      | ref _ => cases e
      | v r1 =>
        cases r1 <;> first | (cases e; done) | skip
        rename_i b
        obtain ⟨cs, e1, e2⟩ := Option.map_eq_some_iff.mp (show (intsOf ds).map (b :: ·) = some bs from e)
        subst e2
        rw [rqa_ints r2 e1]
        rfl
def strsOf : List R → Option (List Str)
  | [] => some []
  | .v (.str b) :: r => (strsOf r).map (b :: ·)
  | _ => none
theorem rqa_strs : ∀ {xs : List V} {ds : List R} {bs : List Str}, RqA K H ρ xs ds → strsOf ds = some bs → xs = bs.map V.str
  | _, [], bs, r, e => by cases r; cases e; rfl
  | _, d :: ds, bs, r, e => by
    cases r with
    | cons r1 r2 =>
      cases r1 with
      | ref _ => cases e
      | v r1 =>
        cases r1 <;> first | (cases e; done) | skip
        rename_i b
        obtain ⟨cs, e1, e2⟩ := Option.map_eq_some_iff.mp (show (strsOf ds).map (b :: ·) = some bs from e)
        subst e2
        rw [rqa_strs r2 e1]
        rfl
def biAll (ds : List R) (S : Store) : Out R := match ds with
  | [d] => match (lstOf S d).bind blsOf with
    | some bs => .ok (.bl (bs.all id)) S
    | none => .no
  | _ => .no
theorem cam_all (hc : X.calm = true) : CaM X (.builtin "all") biAll := by
  rintro pins s σ H xs us Q I rv ⟨E, ρ, S, ds, sr, r, h⟩
  unfold biAll at h
  split at h
  · split at h
    · rename_i n bs hbs
      obtain ⟨es, h1, h2⟩ := Option.bind_eq_some_iff.mp hbs
      obtain ⟨v, rfl, r1⟩ := r.one
      obtain ⟨a, xs, rfl, hq, ra⟩ := sr.lsD r1 h1
      exact cr_all hc pins s σ H _ us Q I rv ⟨_, bs, rfl, by rw [← rqa_bls ra h2]; exact hq, h _ _ _ .refl sr (.bl _)⟩
    · exact h.elim
  · exact h.elim
/-- the greatest, the least of ints (two of them, or a list) -/
def maxL : List Int → Int
  | [] => 0
  | x :: xs => xs.foldl max x
def minL : List Int → Int
  | [] => 0
  | x :: xs => xs.foldl min x
theorem foldl_max_spec : ∀ (xs : List Int) (a : Int), (xs.foldl max a = a ∨ xs.foldl max a ∈ xs) ∧ a ≤ xs.foldl max a ∧ ∀ y ∈ xs, y ≤ xs.foldl max a
  | [], a => by simp
  | x :: xs, a => by
    obtain ⟨h1, h2, h3⟩ := foldl_max_spec xs (max a x)
    simp only [List.foldl_cons, List.mem_cons]
    refine ⟨?_, by omega, fun y hy => ?_⟩
    · rcases h1 with h1 | h1
      · rw [h1]; rcases Int.le_total a x with h | h
        · exact .inr (.inl (by omega))
        · exact .inl (by omega)
      · exact .inr (.inr h1)
    · rcases hy with rfl | hy
      · omega
      · exact h3 y hy
theorem foldl_min_spec : ∀ (xs : List Int) (a : Int), (xs.foldl min a = a ∨ xs.foldl min a ∈ xs) ∧ xs.foldl min a ≤ a ∧ ∀ y ∈ xs, xs.foldl min a ≤ y
  | [], a => by simp
  | x :: xs, a => by
    obtain ⟨h1, h2, h3⟩ := foldl_min_spec xs (min a x)
    simp only [List.foldl_cons, List.mem_cons]
    refine ⟨?_, by omega, fun y hy => ?_⟩
    · rcases h1 with h1 | h1
      · rw [h1]; rcases Int.le_total a x with h | h
        · exact .inl (by omega)
        · exact .inr (.inl (by omega))
      · exact .inr (.inr h1)
    · rcases hy with rfl | hy
      · omega
      · exact h3 y hy
theorem maxL_spec {xs : List Int} (h : xs ≠ []) : maxL xs ∈ xs ∧ ∀ y ∈ xs, y ≤ maxL xs := by
  cases xs with
  | nil => exact absurd rfl h
  | cons x xs =>
    obtain ⟨h1, h2, h3⟩ := foldl_max_spec xs x
    refine ⟨?_, fun y hy => ?_⟩
    · rcases h1 with h1 | h1
      · show xs.foldl max x ∈ _; rw [h1]; simp
      · exact List.mem_cons_of_mem _ h1
    · rcases List.mem_cons.mp hy with rfl | hy
      · exact h2
      · exact h3 y hy
theorem minL_spec {xs : List Int} (h : xs ≠ []) : minL xs ∈ xs ∧ ∀ y ∈ xs, minL xs ≤ y := by
  cases xs with
  | nil => exact absurd rfl h
  | cons x xs =>
    obtain ⟨h1, h2, h3⟩ := foldl_min_spec xs x
    refine ⟨?_, fun y hy => ?_⟩
    · rcases h1 with h1 | h1
      · show xs.foldl min x ∈ _; rw [h1]; simp
      · exact List.mem_cons_of_mem _ h1
    · rcases List.mem_cons.mp hy with rfl | hy
      · exact h2
      · exact h3 y hy
def biMax (ds : List R) (S : Store) : Out R := match ds with
  | [.v (.int i), .v (.int j)] => .ok (.int (if j > i then j else i)) S
  | [d] => match (lstOf S d).bind intsOf with
    | some bs => if bs ≠ [] then .ok (.int (maxL bs)) S else .no
    | none => .no
  | _ => .no
def biMin (ds : List R) (S : Store) : Out R := match ds with
  | [.v (.int i), .v (.int j)] => .ok (.int (if j < i then j else i)) S
  | [d] => match (lstOf S d).bind intsOf with
    | some bs => if bs ≠ [] then .ok (.int (minL bs)) S else .no
    | none => .no
  | _ => .no
theorem cam_max (hc : X.calm = true) : CaM X (.builtin "max") biMax := by
  rintro pins s σ H xs us Q I rv ⟨E, ρ, S, ds, sr, r, h⟩
  unfold biMax at h
  split at h
  · obtain ⟨v, w, rfl, r1, r2⟩ := r.two
    cases r1 with
    | v r1 => cases r2 with
      | v r2 =>
        cases r1; cases r2
        exact call_max2 hc pins s σ H _ us Q I rv ⟨_, _, rfl, h _ _ _ .refl sr (.int _)⟩
  · split at h
    · rename_i n bs hbs
      split at h
      · rename_i hn
        obtain ⟨es, h1, h2⟩ := Option.bind_eq_some_iff.mp hbs
        obtain ⟨v, rfl, r1⟩ := r.one
        obtain ⟨a, xs, rfl, hq, ra⟩ := sr.lsD r1 h1
        refine cr_max hc pins s σ H _ us Q I rv ⟨_, bs, rfl, by rw [← rqa_ints ra h2]; exact hq, List.length_pos_iff.mpr hn, fun m hm hy => ?_⟩
        obtain ⟨q1, q2⟩ := maxL_spec hn
        have e : m = maxL bs := Int.le_antisymm (q2 m hm) (hy _ q1)
        subst e
        exact h _ _ _ .refl sr (.int _)
      · exact h.elim
    · exact h.elim
  · exact h.elim
theorem cam_min (hc : X.calm = true) : CaM X (.builtin "min") biMin := by
  rintro pins s σ H xs us Q I rv ⟨E, ρ, S, ds, sr, r, h⟩
  unfold biMin at h
  split at h
  · obtain ⟨v, w, rfl, r1, r2⟩ := r.two
    cases r1 with
    | v r1 => cases r2 with
      | v r2 =>
        cases r1; cases r2
        exact call_min2 hc pins s σ H _ us Q I rv ⟨_, _, rfl, h _ _ _ .refl sr (.int _)⟩
  · split at h
    · rename_i n bs hbs
      split at h
      · rename_i hn
        obtain ⟨es, h1, h2⟩ := Option.bind_eq_some_iff.mp hbs
        obtain ⟨v, rfl, r1⟩ := r.one
        obtain ⟨a, xs, rfl, hq, ra⟩ := sr.lsD r1 h1
        refine cr_min hc pins s σ H _ us Q I rv ⟨_, bs, rfl, by rw [← rqa_ints ra h2]; exact hq, List.length_pos_iff.mpr hn, fun m hm hy => ?_⟩
        obtain ⟨q1, q2⟩ := minL_spec hn
        have e : m = minL bs := Int.le_antisymm (hy _ q1) (q2 m hm)
        subst e
        exact h _ _ _ .refl sr (.int _)
      · exact h.elim
    · exact h.elim
  · exact h.elim
/-- a built-in type's name -/
def tyD : D → Option String
  | .non => some "NoneType"
  | .bl _ => some "bool"
  | .int _ => some "int"
  | .str _ => some "str"
  | .tup _ => some "tuple"
  | .kl _ => some "list"
  | .lst _ => some "list"
  | .dct _ _ => some "dict"
  | .txt => some "str"
  | .kt _ => some "tuple"
  | .ty _ => none
def tyName (S : Store) : R → Option String
  | .v d => tyD d
  | .ref n => match S[n]? with
    | some (.lst _) => some "list"
    | some (.dK _) => some "dict"
    | some (.dT _) => some "dict"
    | some (.fz d) => tyD d
    | _ => none
theorem tyx_d {v : V} {d : D} {n : String} (r : Rp K H ρ v d) (e : tyD d = some n) : TyX K H v (.type n) := by
  cases r with
  | non => cases e; exact .base .non
  | bl b => cases e; exact .base (.bl b)
  | int i => cases e; exact .base (.int i)
  | str x => cases e; exact .base (.str x)
  | ty n => cases e
  | tup hs ra =>
    cases e
    exact .base (.tup hs)
  | kt hs ra =>
    cases e
    rcases hs with ⟨o, its, n, h1, h2, _⟩ | ⟨_, o, hs, _⟩
    · exact .kTuple h1 h2
    · exact .fTuple hs
  | kl hs ra =>
    cases e
    rcases hs with ⟨o, hs⟩ | ⟨o, its, n, h1, h2, _⟩
    · exact .base (.frz hs)
    · exact .kList h1 h2
  | lst hs ra => cases e; exact .base (.lst hs.2)
  | dct hz hd hl ra => cases e; exact .base (.dK hd)
  | txt x hx => cases e; exact .base (.str x)
theorem tyx_of (sr : SR K H ρ S) {v : V} {d : R} {n : String} (r : Rq K H ρ v d) (e : tyName S d = some n) : TyX K H v (.type n) := by
  cases r with
  | v r => exact tyx_d r e
  | @ref a k ea =>
    unfold tyName at e
    simp only at e
    split at e
    all_goals first | (cases e; done) | skip
    · rename_i xs hx
      cases e
      obtain ⟨u, hu, ru⟩ := sr.obj _ _ _ ea hx
      exact .base (.lst hu)
    · rename_i xs hx
      cases e
      obtain ⟨u, hu, ru⟩ := sr.obj _ _ _ ea hx
      exact .base (.dK hu)
    · rename_i xs hx
      cases e
      obtain ⟨u, hu, ru⟩ := sr.obj _ _ _ ea hx
      exact .base (.dT hu)
    · rename_i d hx
      exact tyx_d (sr.obj _ _ _ ea hx) e
def biIsi (ds : List R) (S : Store) : Out R := match ds with
  | [d, .v (.ty t)] => match (tyName S d).bind fun n => kitB n t with
    | some k => .ok (.bl k) S
    | none => .no
  | _ => .no
theorem cam_isi : CaM X (.builtin "isinstance") biIsi := by
  rintro pins s σ H xs us Q I rv ⟨E, ρ, S, ds, sr, r, h⟩
  unfold biIsi at h
  split at h
  · split at h
    · rename_i d t _ k hk
      obtain ⟨n, h1, h2⟩ := Option.bind_eq_some_iff.mp hk
      obtain ⟨v, w, rfl, r1, r2⟩ := r.two
      cases r2 with
      | v r2 =>
        cases r2
        exact call_isi pins s σ H _ us Q I rv ⟨_, _, _, _, k, rfl, .ty t, tyx_of sr r1 h1, kit_ty h2, h _ _ _ .refl sr (.bl _)⟩
    · exact h.elim
  · exact h.elim
/-- a built-in type as a value -/
theorem pm_ty {x : Str} {T : String} (hg : Gl X x) (hm : X.mg x = none) (hv : bootBuiltins x = some (.type T)) (hn : x ≠ "__name__" := by decide) (hdb : (x == ("__debug__" : Str)) = false := by decide) : PE X (.Name x pos) (tE X.K E (mC (.ty T))) :=
  pm_c (pe_bltn (v := V.ty T) hg hm hv rfl hn hdb) fun _ _ => .ty T
def tyOk (T : String) (S : Store) : R → Bool
  | .v (.str _) => T == "str"
  | .v (.kl _) => T == "list"
  | .v (.lst _) => T == "list"
  | .v _ => false
  | .ref n => match S[n]? with
    | some (.lst _) => T == "list"
    | some (.dK _) => T == "dict"
    | some (.dT _) => T == "dict"
    | some (.fz (.lst _)) => T == "list"
    | _ => false
theorem tyV_of (sr : SR K H ρ S) {T : String} {v : V} {d : R} (r : Rq K H ρ v d) (e : tyOk T S d = true) : tyV K T v H := by
  cases r with
  | v r =>
    cases r <;> first | (cases e; done) | skip
    case str => exact eq_of_beq e
    case kl hs ra => exact .inl ⟨eq_of_beq e, _, hs.sq⟩
    case lst hs ra => exact .inl ⟨eq_of_beq e, _, hs.sq⟩
  | @ref a k ea =>
    unfold tyOk at e
    simp only at e
    split at e
    all_goals first | (cases e; done) | skip
    · rename_i xs hx
      obtain ⟨u, hu, ru⟩ := sr.obj _ _ _ ea hx
      exact .inl ⟨eq_of_beq e, _, .inl (.inl hu)⟩
    · rename_i xs hx
      obtain ⟨u, hu, ru⟩ := sr.obj _ _ _ ea hx
      exact .inr (.inr (.inl ⟨eq_of_beq e, .inl ⟨_, hu⟩⟩))
    · rename_i xs hx
      obtain ⟨u, hu, ru⟩ := sr.obj _ _ _ ea hx
      exact .inr (.inr (.inl ⟨eq_of_beq e, .inr ⟨_, hu⟩⟩))
    · rename_i ds hx
      have q : Rp K H ρ (.ref a) (.lst _) := sr.obj _ _ _ ea hx
      cases q with
      | lst hs ra => exact .inl ⟨eq_of_beq e, _, hs.sq⟩
def MtMm (X : Cx) (id : String) (g : R → List R → Store → Out R) : Prop := MtR X id (rMM X.K g)
def mMeth (T : String) (g : R → List R → Store → Out R) (f : ME) (r : MA) : ME := fun m S => (f m S).bind fun d S1 => if tyOk T S1 d = true then (r m S1).bind fun ds S2 => g d ds S2 else .no
theorem pm_bm {o : Expr} {name : Str} {apos cpos : Pos} {T id : String} {g : R → List R → Store → Out R} (pa : PlainAttrs T) (slot : Slot T name id) (hty : typeOf (.builtin id) = pure (.type "method_descriptor")) (hm : MtMm X id g) (ho : PE X o (tE X.K E ma)) (ha : PA X (e :: es) (tA X.K E mr))
    (hbase : attributeBase o name X.env (eval o X.env) = eval o X.env := by rfl)
    (hfew : ((backTo cpos (starEach (e :: es) X.env)).all (fun x => !x.1) && (backToKw cpos (keywordEach [] X.env)).all (fun x => x.1.isSome)
      && decide ((e :: es).length + ([] : List Keyword).length + (if ([] : List Keyword).isEmpty then 0 else 1) < 30)) = true := by rfl)
    (hline : (apos.endLine == cpos.line) = true := by rfl) (hs : starEach (e :: es) X.env = (false, eval e X.env) :: starEach es X.env := by rfl) (hplain : (backTo cpos (starEach es X.env)).any (·.1) = false := by rfl) :
    PE X (.Call (.Attribute o name apos) (e :: es) [] cpos) (tE X.K E (mMeth T g ma mr)) := by
  refine PE.imp (pe_bm pa slot hty hm ho ha hbase hfew hline hs hplain) ?_
  rintro σ H Q ⟨ρ, m, S, sr, er, h⟩
  refine ⟨ρ, m, S, sr, er, RO.bind h fun d S1 v H1 ρ1 m1 s1 r1 h1 => ?_⟩
  split at h1
  · rename_i hk
    refine ⟨tyV_of s1 r1 hk, ρ1, m, S1, s1, er.mo m1, RO.bind h1 fun ds S2 xs H2 ρ2 m2 s2 r2 h2 => ?_⟩
    exact ⟨_, ρ2, S2, d, ds, s2, r1.mo m2, r2, h2⟩
  · exact h1.elim
/-- without arguments -/
def mMeth0 (T : String) (g : R → List R → Store → Out R) (f : ME) : ME := fun m S => (f m S).bind fun d S1 => if tyOk T S1 d = true then g d [] S1 else .no
def mtAppend (d : R) (ds : List R) (S : Store) : Out R := match d, ds with
  | .ref n, [y] => match S[n]? with
    | some (.lst xs) => if xs.length < sizeLine then .ok .non (S.set n (.lst (xs ++ [y]))) else .no
    | _ => .no
  | _, _ => .no
theorem mtm_append : MtMm X "list.append" mtAppend := by
  rintro pins s σ H x vs v us Q I rx rv ⟨E, ρ, S, d, ds, sr, rd, r, h⟩
  unfold mtAppend at h
  split at h
  · split at h
    · rename_i n y _ xs hx
      split at h
      · rename_i hz
        cases rd with
        | ref ea =>
          obtain ⟨w, rfl, r1⟩ := r.one
          obtain ⟨zs, hu, ra, hl⟩ := sr.lst ea hx
          refine (mt_append : MtR X "list.append" rAppend) pins s σ H _ _ v us Q I rx rv ⟨_, zs, w, rfl, rfl, hu, by rw [ra.length]; exact hz, ?_⟩
          have mo : Mo X.K H ρ (upd H _ (.lst (zs ++ [w]))) ρ := .set hu trivial hl
          exact h _ _ ρ mo (sr.set (mo := .lst (xs ++ [y])) ea hu trivial hl ⟨_, upd_same, (ra.append (.cons r1 .nil)).mo mo⟩) .non
      · exact h.elim
    · exact h.elim
  · exact h.elim
def mtExtend (d : R) (ds : List R) (S : Store) : Out R := match d, ds with
  | .ref n, [y] => match S[n]?, lstOf S y with
    | some (.lst xs), some zs => if xs.length + zs.length ≤ sizeLine then .ok .non (S.set n (.lst (xs ++ zs))) else .no
    | _, _ => .no
  | _, _ => .no
theorem SR.lsE2 {v : V} {y : R} {ds : List R} (sr : SR K H ρ S) (r : Rq K H ρ v y) (hk : ∀ zs, y ≠ .kl zs) (h : lstOf S y = some ds) : ∃ a xs, v = .ref a ∧ H a = some (.lst xs) ∧ RqA K H ρ xs ds := by
  cases r with
  | v r =>
    cases r <;> first | (cases h; done) | skip
    case lst hs ra => cases h; exact ⟨_, _, rfl, hs.2, ra.q⟩
    case kl hs ra => exact absurd rfl (hk _)
  | ref e =>
    obtain ⟨xs, h1, h2⟩ := sr.lsE e h
    exact ⟨_, xs, rfl, h1, h2⟩
def notKl : R → Bool
  | .v (.kl _) => false
  | _ => true
theorem notKl_of {y : R} (h : notKl y = true) : ∀ zs, y ≠ .kl zs := by
  intro zs e; subst e; cases h
theorem mtm_extend : MtMm X "list.extend" fun d ds S => if ds.all notKl = true then mtExtend d ds S else .no := by
  rintro pins s σ H x vs v us Q I rx rv ⟨E, ρ, S, d, ds, sr, rd, r, h⟩
  replace h : RO X.K (relD X.K) E H ρ (if ds.all notKl = true then mtExtend d ds S else .no) Q := h
  split at h
  · rename_i hk
    unfold mtExtend at h
    split at h
    · split at h
      · rename_i n y xs zs hx hy
        split at h
        · rename_i hz
          cases rd with
          | ref ea =>
            obtain ⟨w, rfl, r1⟩ := r.one
            obtain ⟨ys, hu, ra, hl⟩ := sr.lst ea hx
            obtain ⟨b, bs, rfl, hb, rb⟩ := sr.lsE2 r1 (notKl_of (by simpa using hk)) hy
            refine (mt_extend : MtM X "list.extend" rExtend) pins s σ H _ _ v us Q I rx rv ⟨_, _, ys, bs, rfl, rfl, hu, hb, by rw [ra.length, rb.length]; exact hz, ?_⟩
            have mo : Mo X.K H ρ (upd H _ (.lst (ys ++ bs))) ρ := .set hu trivial hl
            exact h _ _ ρ mo (sr.set (mo := .lst (xs ++ zs)) ea hu trivial hl ⟨_, upd_same, (ra.append rb).mo mo⟩) .non
        · exact h.elim
      · exact h.elim
    · exact h.elim
  · exact h.elim
theorem RqA.dropLast {vs : List V} {ds : List R} (h : RqA K H ρ vs ds) : RqA K H ρ vs.dropLast ds.dropLast := by
  rw [List.dropLast_eq_take, List.dropLast_eq_take, h.length]
  exact h.take _
theorem RqA.eraseIdx {vs : List V} {ds : List R} (h : RqA K H ρ vs ds) : ∀ k : Nat, RqA K H ρ (vs.eraseIdx k) (ds.eraseIdx k) := by
  induction h with
  | nil => intro k; exact .nil
  | cons h1 h2 ih =>
    intro k
    cases k with
    | zero => exact h2
    | succ k => exact .cons h1 (ih k)
/-- pop(), pop(i) -/
def mtPop (d : R) (ds : List R) (S : Store) : Out R := match d, ds with
  | .ref n, [] => match S[n]? with
    | some (.lst xs) => match xs[xs.length - 1]? with
      | some y => .ok y (S.set n (.lst xs.dropLast))
      | none => .no
    | _ => .no
  | .ref n, [.v (.int i)] => match S[n]? with
    | some (.lst xs) => if 0 ≤ i ∧ i < xs.length ∧ xs.length < 2 ^ 62 then (match xs[i.toNat]? with
      | some y => .ok y (S.set n (.lst (xs.eraseIdx i.toNat)))
      | none => .no) else .no
    | _ => .no
  | _, _ => .no
theorem mtm_pop : MtMm X "list.pop" mtPop := by
  rintro pins s σ H x vs v us Q I rx rv ⟨E, ρ, S, d, ds, sr, rd, r, h⟩
  unfold mtPop at h
  split at h
  · split at h
    · rename_i n xs hx
      split at h
      · rename_i y hy
        cases rd with
        | ref ea =>
          cases r
          obtain ⟨zs, hu, ra, hl⟩ := sr.lst ea hx
          obtain ⟨w, hw, rw'⟩ := ra.get hy
          have mo : Mo X.K H ρ (upd H _ (.lst zs.dropLast)) ρ := .set hu trivial hl
          exact (mt_pop : MtM X "list.pop" rPop) pins s σ H _ _ v us Q I rx rv ⟨_, zs, w, rfl, rfl, hu, by rw [ra.length]; exact hw, h _ _ ρ mo (sr.set (mo := .lst xs.dropLast) ea hu trivial hl ⟨_, upd_same, ra.dropLast.mo mo⟩) (rw'.mo mo)⟩
      · exact h.elim
    · exact h.elim
  · split at h
    · rename_i n i _ xs hx
      split at h
      · rename_i hi
        split at h
        · rename_i y hy
          cases rd with
          | ref ea =>
            obtain ⟨w0, rfl, r1⟩ := r.one
            cases r1 with
            | v r1 =>
            cases r1
            obtain ⟨zs, hu, ra, hl⟩ := sr.lst ea hx
            obtain ⟨w, hw, rw'⟩ := ra.get hy
            have mo : Mo X.K H ρ (upd H _ (.lst (zs.eraseIdx i.toNat))) ρ := .set hu trivial hl
            have hk : seqIndex? i zs.length = some i.toNat := by
              rw [ra.length]
              unfold seqIndex?
              simp
              omega
            exact (mt_popAt : MtM X "list.pop" rPopAt) pins s σ H _ _ v us Q I rx rv ⟨_, zs, i, i.toNat, w, rfl, rfl, hu, by omega, by omega, hk, hw, h _ _ ρ mo (sr.set (mo := .lst (xs.eraseIdx i.toNat)) ea hu trivial hl ⟨_, upd_same, (ra.eraseIdx _).mo mo⟩) (rw'.mo mo)⟩
        · exact h.elim
      · exact h.elim
    · exact h.elim
  · exact h.elim
/-- o[i] = x of a list -/
def setIx (x y d : R) (S : Store) : Option Store := match x, y with
  | .ref n, .v (.int k) => match S[n]? with
    | some (.lst ds) => match ixN ds.length k with
      | some j => some (S.set n (.lst (ds.set j d)))
      | none => none
    | _ => none
  | _, _ => none
theorem setIx_ok {K : PySem.W.Frag} {H : Hp} {ρ : Wd} {S S' : Store} {x y d : R} {xv yv v : V} {Q : Hp → Prop} (sr : SR K H ρ S) (rx : Rq K H ρ xv x) (ry : Rq K H ρ yv y) (rd : Rq K H ρ v d) (h : setIx x y d S = some S')
    (k : ∀ H', Mo K H ρ H' ρ → SR K H' ρ S' → Q H') : rSetL xv yv v H Q := by
  unfold setIx at h
  split at h
  · split at h
    · rename_i n z _ ds hds
      split at h
      · rename_i j hj
        cases h
        cases ry with
        | v ry =>
        cases ry
        cases rx with
        | ref ea =>
          obtain ⟨xs, hu, ra, hl⟩ := sr.lst ea hds
          have mo : Mo K H ρ (upd H _ (.lst (xs.set j v))) ρ := .set hu trivial hl
          exact ⟨_, xs, z, j, rfl, rfl, hu, by rw [ra.length]; exact hj, k _ mo (sr.set (mo := .lst (ds.set j d)) ea hu trivial hl ⟨_, upd_same, (RqA.set rd ra j).mo mo⟩)⟩
      · cases h
    · cases h
  · cases h
def mSetIx (f o i : ME) : MS := fun m S => (f m S).thenS m fun d S1 => (o m S1).thenS m fun x S2 => (i m S2).thenS m fun y S3 => match setIx x y d S3 with
  | some S4 => .nx m S4
  | none => .no
theorem psm_setIx {o i : Expr} {mo mi : ME} {p : Pos} (he : PE X e (tE X.K E ma)) (ho : PE X o (tE X.K E mo)) (hi : PE X i (tE X.K E mi)) (hs : swapsWithSole [.Subscript o i p] e pos.line X.env = pure false := by rfl) (hw : swappedStores [.Subscript o i p] e X.env = pure none := by rfl)
    (h1 : (assignEach [.Subscript o i p] X.env).map (·.2) = [assign (.Subscript o i p) X.env] := by rfl)
    (h2 : ∀ v, assign (.Subscript o i p) X.env v = (do
      let ov ← holding [v] (eval o X.env)
      let iv ← holding [v, ov] (eval i X.env)
      standAt p
      holding [v, ov, iv] (setItem ov iv v)
      release [v, ov, iv] []) := by intro _; rfl) : PS X (.Assign [.Subscript o i p] e pos) (tS X.K E (mSetIx ma mo mi)) := by
  refine PS.imp (ps_asg he (pg_sub ho hi set_list h2) hs hw h1) ?_
  rintro D σ H ⟨ρ, m, S, sr, er, h⟩
  refine ⟨ρ, m, S, sr, er, RS.bind er h fun d S1 v H1 ρ1 m1 s1 r1 e1 h1 => ?_⟩
  refine ⟨ρ1, m, S1, s1, e1, RS.bind e1 h1 fun x S2 xv H2 ρ2 m2 s2 r2 e2 h2 => ?_⟩
  refine ⟨ρ2, m, S2, s2, e2, RS.bind e2 h2 fun y S3 yv H3 ρ3 m3 s3 r3 e3 h3 => ?_⟩
  split at h3
  · rename_i S4 hS4
    exact setIx_ok s3 (r2.mo m3) r3 ((r1.mo m2).mo m3) hS4 fun H4 m4 s4 => h3 σ H4 ρ3 m4 s4 (e3.mo m4)
  · exact h3.elim
def chars (x : Str) : List R := x.cps.toList.map fun c => .str ⟨#[c]⟩
def srcAny (f : ME) : MI := fun m S => (f m S).bind fun d S1 => match d with
  | .v (.tup ds) => .ok ⟨ds.map .v, []⟩ S1
  | .v (.kt ds) => .ok ⟨ds.map .v, []⟩ S1
  | .v (.lst ds) => .ok ⟨ds.map .v, []⟩ S1
  | .v (.kl ds) => .ok ⟨ds.map .v, []⟩ S1
  | .v (.str x) => .ok ⟨chars x, []⟩ S1
  | .ref n => match S1[n]? with
    | some (.lst ds) => .ok ⟨ds, [(n, .lst ds)]⟩ S1
    | some (.fz (.lst ds)) => .ok ⟨ds.map .v, []⟩ S1
    | _ => .no
  | _ => .no
theorem okSrc_kt {a : Addr} {xs : List V} {ds : List R} (hs : KTz K H ρ a xs) (ra : RqA K H ρ xs ds) : okSrc K ⟨ds, []⟩ H ρ (Itt K a) := by
  refine ⟨fun H => SqT K H a xs, YAt xs, by rw [show (⟨ds, []⟩ : Src).items.length = xs.length from ra.length.symm]; exact walk_tup, fun H2 ρ2 S2 mo _ _ => (hs.mono mo).sq, ?_⟩
  rintro i H2 x H3 ρ2 S2 hi mo sr pins ⟨rfl, y⟩
  obtain ⟨d, hd, rd⟩ := ra.get' y
  exact ⟨d, hd, .refl, sr, rd.mo mo⟩
theorem okSrc_tup {a : Addr} {xs : List V} {ds : List R} (hs : H a = some (.tup xs)) (ra : RqA K H ρ xs ds) : okSrc K ⟨ds, []⟩ H ρ (Itt K a) := by
  refine ⟨fun H => SqT K H a xs, YAt xs, by rw [show (⟨ds, []⟩ : Src).items.length = xs.length from ra.length.symm]; exact walk_tup, fun H2 ρ2 S2 mo _ _ => sqT_at (mo.tup _ _ hs), ?_⟩
  rintro i H2 x H3 ρ2 S2 hi mo s2 _ ⟨rfl, hx⟩
  obtain ⟨d, hd, r⟩ := ra.get' hx
  exact ⟨d, hd, .refl, s2, r.mo mo⟩
theorem okSrc_kl {a : Addr} {xs : List V} {ds : List R} (hs : ∀ H' ρ', Mo K H ρ H' ρ' → SqL K H' a xs) (ra : RqA K H ρ xs ds) : okSrc K ⟨ds, []⟩ H ρ (Itl K a) := by
  refine ⟨fun H => SqL K H a xs, YAt xs, by rw [show (⟨ds, []⟩ : Src).items.length = xs.length from ra.length.symm]; exact walk_list, fun H2 ρ2 S2 mo _ _ => hs _ _ mo, ?_⟩
  rintro i H2 x H3 ρ2 S2 hi mo s2 _ ⟨rfl, hx⟩
  obtain ⟨d, hd, r⟩ := ra.get' hx
  exact ⟨d, hd, .refl, s2, r.mo mo⟩
theorem okSrc_ls {a : Addr} {n : Nat} {o : MO} {ds : List R} (ea : ρ.r[n]? = some a) (ho : ∀ S : Store, S[n]? = some o → lsOf S n = some ds) : okSrc K ⟨ds, [(n, o)]⟩ H ρ (Itl K a) := by
  have w : Walk (Itl K a) ds.length (fun H => ∃ xs, SqL K H a xs ∧ xs.length = ds.length) (fun i H x H' => H' = H ∧ ∀ xs, SqL K H a xs → xs[i]? = some x) := by
    refine ⟨fun i H hi q => ?_, fun H q => ?_, fun _ _ _ _ _ _ y => y⟩
    · obtain ⟨xs, q, hl⟩ := q
      exact ⟨xs, xs[i]'(by omega), q, by simp [hl, hi]⟩
    · obtain ⟨xs, q, hl⟩ := q
      exact ⟨xs, q, by omega⟩
  refine ⟨_, _, w, fun H2 ρ2 S2 mo s2 pk => ?_, ?_⟩
  · obtain ⟨xs, q, r⟩ := s2.ls (mo.ref _ _ ea) (ho S2 pk.1)
    exact ⟨xs, q, r.length⟩
  · rintro i H2 x H3 ρ2 S2 hi mo s2 pk ⟨rfl, hx⟩
    obtain ⟨xs, q, r⟩ := s2.ls (mo.ref _ _ ea) (ho S2 pk.1)
    obtain ⟨d, hd, r'⟩ := r.get' (hx xs q)
    exact ⟨d, hd, .refl, s2, r'⟩
theorem okSrc_str {x : Str} : okSrc K ⟨chars x, []⟩ H ρ (Its x) := by
  have hl : (chars x).length = x.cps.size := by simp [chars]
  refine ⟨_, _, by rw [show (⟨chars x, []⟩ : Src).items.length = x.cps.size from hl]; exact walk_str, fun _ _ _ _ _ _ => trivial, ?_⟩
  rintro i H2 v H3 ρ2 S2 hi mo s2 _ ⟨rfl, c, hc, rfl⟩
  refine ⟨.str ⟨#[c]⟩, ?_, .refl, s2, .str _⟩
  show (x.cps.toList.map fun c => R.str ⟨#[c]⟩)[i]? = _
  rw [List.getElem?_map, Array.getElem?_toList, hc]
  rfl
theorem fzl_all {a : Addr} {xs : List V} (hs : FzL H ρ a xs) : ∀ H' ρ', Mo K H ρ H' ρ' → SqL K H' a xs := fun H' ρ' mo => (hs.mono mo).sq
theorem pim_any (he : PE X e (tE X.K E ma)) : PI X tgE e (tI X.K E (srcAny ma)) := by
  refine PI.imp (PI.or (pi_tup he) (PI.or (pi_list he) (pi_str he))) ?_
  rintro σ H R ⟨ρ, m, S, sr, er, h⟩
  unfold srcAny at h
  cases hm : ma m S with
  | no => rw [hm] at h; exact h.elim
  | exc c S1 =>
    rw [hm] at h
    refine .inl ⟨ρ, m, S, sr, er, ?_⟩
    rw [hm]
    exact h
  | ok d S1 =>
    rw [hm] at h
    cases d with
    | v d =>
      cases d with
      | tup ds =>
        refine .inl ⟨ρ, m, S, sr, er, ?_⟩
        rw [hm]
        intro v H1 ρ1 m1 s1 r1
        cases r1 with
        | v r1 =>
        cases r1 with
        | tup hs ra => exact ⟨_, rfl, ⟨_, sqT_at hs⟩, h _ H1 ρ1 m1 s1 (okSrc_tup hs ra.q)⟩
      | kt ds =>
        refine .inl ⟨ρ, m, S, sr, er, ?_⟩
        rw [hm]
        intro v H1 ρ1 m1 s1 r1
        cases r1 with
        | v r1 =>
        cases r1 with
        | kt hs ra => exact ⟨_, rfl, ⟨_, hs.sq⟩, h _ H1 ρ1 m1 s1 (okSrc_kt hs ra.q)⟩
      | kl ds =>
        refine .inr (.inl ⟨ρ, m, S, sr, er, ?_⟩)
        rw [hm]
        intro v H1 ρ1 m1 s1 r1
        cases r1 with
        | v r1 =>
        cases r1 with
        | kl hs ra => exact ⟨_, rfl, ⟨_, hs.sq⟩, h _ H1 ρ1 m1 s1 (okSrc_kl (fun H' ρ' mo => (mo.kl _ _ hs).sq) ra.q)⟩
      | lst ds =>
        refine .inr (.inl ⟨ρ, m, S, sr, er, ?_⟩)
        rw [hm]
        intro v H1 ρ1 m1 s1 r1
        cases r1 with
        | v r1 =>
        cases r1 with
        | lst hs ra => exact ⟨_, rfl, ⟨_, hs.sq⟩, h _ H1 ρ1 m1 s1 (okSrc_kl (fzl_all hs) ra.q)⟩
      | str x =>
        refine .inr (.inr ⟨ρ, m, S, sr, er, ?_⟩)
        rw [hm]
        intro v H1 ρ1 m1 s1 r1
        cases r1 with
        | v r1 =>
        cases r1
        exact ⟨_, rfl, h _ H1 ρ1 m1 s1 okSrc_str⟩
      | _ => exact h.elim
    | ref n =>
      refine .inr (.inl ⟨ρ, m, S, sr, er, ?_⟩)
      rw [hm]
      intro v H1 ρ1 m1 s1 r1
      cases r1 with
      | ref ea =>
        simp only [Out.bind_ok] at h
        split at h
        · rename_i it S' ho
          split at ho
          · rename_i ds hds
            cases ho
            obtain ⟨xs, q, r⟩ := s1.ls (ds := ds) ea (by unfold lsOf; rw [hds]; rfl)
            exact ⟨_, rfl, ⟨_, q⟩, h _ H1 ρ1 m1 s1 (okSrc_ls ea fun S hS => by unfold lsOf; rw [hS]; rfl)⟩
          · rename_i ds hds
            cases ho
            have q : Rp X.K H1 ρ1 (.ref _) (.lst ds) := s1.obj _ _ _ ea hds
            cases q with
            | lst hs ra => exact ⟨_, rfl, ⟨_, hs.sq⟩, h _ H1 ρ1 m1 s1 (okSrc_kl (fzl_all hs) ra.q)⟩
          · cases ho
        · rename_i ho
          split at ho <;> cases ho
        · exact h.elim
/-- lo, lo + 1, .. -/
def rangeD (lo : Int) (n : Nat) : List R := (List.range n).map fun (i : Nat) => .int (lo + (i : Int))
theorem okSrc_range {lo : Int} {n : Nat} : okSrc K ⟨rangeD lo n, []⟩ H ρ (Itr lo n) := by
  have hl : (rangeD lo n).length = n := by simp [rangeD]
  refine ⟨_, _, by rw [show (⟨rangeD lo n, []⟩ : Src).items.length = n from hl]; exact walk_range, fun _ _ _ _ _ _ => trivial, ?_⟩
  rintro i H2 v H3 ρ2 S2 hi mo s2 _ ⟨rfl, rfl⟩
  refine ⟨.int (lo + (i : Int)), ?_, .refl, s2, .int _⟩
  show ((List.range n).map fun (i : Nat) => R.int (lo + (i : Int)))[i]? = _
  rw [List.getElem?_map, List.getElem?_range (by rw [← hl]; exact hi)]
  rfl
/-- within 62 bits -/
@[irreducible] def rgOk (j : Int) : Bool := decide (-(2 ^ 62) ≤ j ∧ j < 2 ^ 62)
theorem rg_of {j : Int} (h0 : -(2 ^ 62) ≤ j) (h1 : j < 2 ^ 62) : rgOk j = true := by unfold rgOk; exact decide_eq_true ⟨h0, h1⟩
theorem of_rg {j : Int} (h : rgOk j = true) : -(2 ^ 62) ≤ j ∧ j < 2 ^ 62 := by unfold rgOk at h; exact of_decide_eq_true h
def rg1 (ds : List R) (S1 : Store) : Out Src := match ds with
  | [.v (.int j)] => if rgOk j = true then .ok ⟨rangeD 0 j.toNat, []⟩ S1 else .no
  | _ => .no
def srcRange1 (r : MA) : MI := fun m S => (r m S).bind rg1
def rg2 (ds : List R) (S1 : Store) : Out Src := match ds with
  | [.v (.int i), .v (.int j)] => if rgOk i = true ∧ rgOk j = true then .ok ⟨rangeD i (j - i).toNat, []⟩ S1 else .no
  | _ => .no
def srcRange2 (r : MA) : MI := fun m S => (r m S).bind rg2
/-- the source by the outcome of the arguments -/
theorem tI_of {f : MA} {g : List R → Store → Out Src} {σ : St} {R : It → Hp → Prop} {P : List V → Hp → Prop} (h : tI K E (fun m S => (f m S).bind g) σ H R)
    (k : ∀ ds S1 xs H1 ρ1, SR K H1 ρ1 S1 → RqA K H1 ρ1 xs ds → (match g ds S1 with
      | .ok it S' => ∀ J H' ρ', Mo K H1 ρ1 H' ρ' → SR K H' ρ' S' → okSrc K it H' ρ' J → R J H'
      | .exc c S' => RO K (fun _ _ (_ : Unit) (_ : Unit) => True) (E σ) H1 ρ1 (.exc c S' : Out Unit) fun _ _ => True
      | .no => False) → P xs H1) : tA K E f σ H P := by
  obtain ⟨ρ, m, S, sr, er, h⟩ := h
  refine ⟨ρ, m, S, sr, er, ?_⟩
  cases hm : f m S with
  | no => simp only [hm, Out.bind_no] at h
  | exc c S1 => simp only [hm, Out.bind_exc] at h; exact h
  | ok ds S1 =>
    simp only [hm, Out.bind_ok] at h
    intro xs H1 ρ1 m1 s1 r1
    refine k ds S1 xs H1 ρ1 s1 r1 ?_
    generalize g ds S1 = o at h ⊢
    cases o with
    | no => exact h
    | exc c S2 => exact fun dx H' ρ' mo s r => h dx H' ρ' (m1.trans mo) s r
    | ok it S2 => exact fun J H' ρ' mo s r => h J H' ρ' (m1.trans mo) s r
theorem pim_range1 {p : Pos} (hg : Gl X "range") (hm : X.mg "range" = none) (ha : PA X [a] (tA X.K E mr)) (hs : starEach [a] X.env = [(false, eval a X.env)] := by rfl) : PI X tgE (.Call (.Name "range" p) [a] [] pos) (tI X.K E (srcRange1 mr)) := by
  refine PI.imp (pi_range1 hg hm ha hs) ?_
  intro σ H R h
  refine tI_of h fun ds S1 xs H1 ρ1 s1 r1 h1 => ?_
  split at h1
  · rename_i it S' ho
    first | unfold rg1 at ho | unfold rg2 at ho
    split at ho
    · split at ho
      · rename_i hz
        cases ho
        obtain ⟨v, rfl, r2⟩ := r1.one
        cases r2 with
        | v r2 =>
        cases r2
        exact ⟨_, rfl, (of_rg hz).1, (of_rg hz).2, h1 _ H1 ρ1 .refl s1 okSrc_range⟩
      · cases ho
    · cases ho
  · rename_i ho
    first | unfold rg1 at ho | unfold rg2 at ho
    split at ho
    · split at ho <;> cases ho
    · cases ho
  · exact h1.elim
end
end M
namespace M
open PySem PySem.Spec L2
open PyProof.Rows hiding St
abbrev opLt := opCmpI fun i j => decide (i < j)
abbrev opLe := opCmpI fun i j => decide (i ≤ j)
abbrev opGt := opCmpI fun i j => decide (j < i)
abbrev opGe := opCmpI fun i j => decide (j ≤ i)
/-- so many arguments -/
def ArgN (n : Nat) (r : MA) : Prop := ∀ m S ds S', r m S = .ok ds S' → ds.length = n
theorem an_nil : ArgN 0 mNil := by
  intro m S ds S' h
  cases h; rfl
theorem an_cons {n : Nat} {a : ME} {r : MA} (h : ArgN n r) : ArgN (n + 1) (mCons a r) := by
  intro m S ds S' e
  unfold mCons at e
  cases h1 : a m S with
  | no => rw [h1] at e; cases e
  | exc c S1 => rw [h1] at e; cases e
  | ok d S1 =>
    rw [h1] at e
    simp only [Out.bind_ok] at e
    cases h2 : r m S1 with
    | no => rw [h2] at e; cases e
    | exc c S2 => rw [h2] at e; cases e
    | ok es S2 =>
      rw [h2] at e
      cases e
      exact congrArg (· + 1) (h m S1 es _ h2)
section
variable {P : Program} {w : World} {K : PySem.W.Frag} {mg : Str → Option Value} {base : Heap}
theorem FnOk.none {CX : CXT} {j n : Nat} {f : Addr} {fd : FuncData} {ps : List Str} (hn : ps.length = n) : FnOk P w K mg base CX j f fd ps (spM K n fun _ _ => .no) :=
  ⟨fun vs H Q E h => h.1.trans hn.symm, fun A outer s H args us vs Q E _ _ _ _ h => by
    obtain ⟨_, ρ, S, ds, _, _, h⟩ := h
    exact h.elim⟩
/-- the law's promise, from what its mirror answers -/
theorem law_sp {g : List R → Store → Out R} {H : Hp} {a : Addr} {ns : List Int} (hO : Only H) (hS : SqL K H a (ns.map V.int)) (h : ∃ S', g [.v (.kl (ns.map D.int))] [] = .ok (.bl true) S') : spM K 1 g [.ref a] H (fun v _ => v = .bl true) fun _ _ _ => False := by
  obtain ⟨S', h⟩ := h
  refine ⟨rfl, ⟨[], fun _ => False⟩, [], [.v (.kl (ns.map D.int))], ⟨List.nodup_nil, rfl, fun n a o e => by simp at e, fun n a o e => by simp at e, fun a h => h.elim, fun n a e => by simp at e⟩, .cons (.v (.kl ?_ RpA.ints)) .nil, ?_⟩
  · rcases hS with (hS | ⟨o, hS⟩) | hS
    · rcases hO a with z | ⟨o, xs, z⟩
      · rw [hS] at z; cases z
      · rw [hS] at z; cases z
    · exact .inl ⟨o, hS⟩
    · exact .inr hS
  · rw [h]
    intro v H' ρ' _ _ r
    cases r with
    | v r => cases r; rfl
end
noncomputable def mDefV (N : Nat) (f : MS) : List R → Store → Out R := fun ds S => (mDef N f ds S).bind (popV S)
/-- y = [..] by value -/
noncomputable def mSetP (i : Nat) (f : ME) : MS := fun m S => if i < m.length then mSet i (mPop f) m S else .no
theorem bb_len : bootBuiltins "len" = some (.builtin "len") := by decide +kernel
theorem bb_isinstance : bootBuiltins "isinstance" = some (.builtin "isinstance") := by decide +kernel
theorem bb_all : bootBuiltins "all" = some (.builtin "all") := by decide +kernel
theorem bb_min : bootBuiltins "min" = some (.builtin "min") := by decide +kernel
theorem bb_max : bootBuiltins "max" = some (.builtin "max") := by decide +kernel
theorem bb_sorted : bootBuiltins "sorted" = some (.builtin "sorted") := by decide +kernel
theorem bb_repr : bootBuiltins "repr" = some (.builtin "repr") := by decide +kernel
theorem bb_tuple : bootBuiltins "tuple" = some (.type "tuple") := by decide +kernel
theorem bb_str : bootBuiltins "str" = some (.type "str") := by decide +kernel
end M
namespace M
open PySem hiding Env
open L2
section
variable {a b c : ME} {f g : MS} {t u : MT} {r : MA} {m m' : Env} {S S' S1 S2 : Store} {d e : R}
@[simp] theorem onBl_bl {α : Type} (k : Bool) (f : Bool → Out α) : onBl (.v (.bl k)) f = f k := id rfl
@[simp] theorem mFor_eq (src : MI) (tg : TgM) (body : MS) : mFor src tg body m S = (src m S).thenS m fun it S1 => mForGo it.pins tg body it.items m S1 := id rfl
@[simp] theorem srcRange1_eq : srcRange1 r m S = (r m S).bind rg1 := id rfl
@[simp] theorem srcRange2_eq : srcRange2 r m S = (r m S).bind rg2 := id rfl
theorem rg1_int {j : Int} (h0 : 0 ≤ j) (h1 : j < 2 ^ 62) : rg1 [.v (.int j)] S = .ok ⟨rangeD 0 j.toNat, []⟩ S := if_pos (rg_of (by omega) h1)
theorem srcAny_eq : srcAny a m S = (a m S).bind fun d S1 => match d with
  | .v (.tup ds) => .ok ⟨ds.map .v, []⟩ S1
  | .v (.kt ds) => .ok ⟨ds.map .v, []⟩ S1
  | .v (.lst ds) => .ok ⟨ds.map .v, []⟩ S1
  | .v (.kl ds) => .ok ⟨ds.map .v, []⟩ S1
  | .v (.str x) => .ok ⟨chars x, []⟩ S1
  | .ref n => match S1[n]? with
    | some (.lst ds) => .ok ⟨ds, [(n, .lst ds)]⟩ S1
    | some (.fz (.lst ds)) => .ok ⟨ds.map .v, []⟩ S1
    | _ => .no
  | _ => .no := id rfl
@[simp] theorem onII_int {α : Type} (i j : Int) (f : Int → Int → Out α) : onII (.v (.int i)) (.v (.int j)) f = f i j := id rfl
@[simp] theorem mVar_eq (i : Nat) : mVar i m S = match m[i]? with | some (some d) => .ok d S | _ => .no := id rfl
@[simp] theorem mC_eq : mC d m S = .ok d S := id rfl
@[simp] theorem mBin_eq (op : R → R → Store → Out R) : mBin op a b m S = (a m S).bind fun x S1 => (b m S1).bind fun y S2 => op x y S2 := id rfl
@[simp] theorem mUn_eq (op : R → Store → Out R) : mUn op a m S = (a m S).bind fun x S1 => op x S1 := id rfl
@[simp] theorem mNil_eq : mNil m S = .ok [] S := id rfl
@[simp] theorem mCons_eq : mCons a r m S = (a m S).bind fun d S1 => (r m S1).bind fun ds S2 => .ok (d :: ds) S2 := id rfl
@[simp] theorem mCall_eq (F : List R → Store → Out R) : mCall F r m S = (r m S).bind F := id rfl
@[simp] theorem mTup_eq : mTup r m S = (r m S).bind fun rs S1 => frzO S1 rs fun ds S2 => if ds.length ≤ sizeLine then .ok (.v (.tup ds)) S2 else .no := id rfl
@[simp] theorem mLst_eq : mLst r m S = (r m S).bind fun ds S1 => if ds.length ≤ sizeLine then .ok (.ref S1.length) (S1 ++ [.lst ds]) else .no := id rfl
@[simp] theorem mLstV_eq : mLstV r m S = (r m S).bind fun rs S1 => frzO S1 rs fun ds S2 => if ds.length ≤ sizeLine then .ok (.v (.lst ds)) S2 else .no := id rfl
@[simp] theorem mIf_eq : mIf t a b m S = (t m S).bind fun k S1 => match k with | true => a m S1 | false => b m S1 := id rfl
@[simp] theorem mAnd_eq : mAnd a b m S = (a m S).bind fun k S1 => onBl k fun k => match k with | true => b m S1 | false => .ok (.v (.bl false)) S1 := id rfl
@[simp] theorem mOr_eq : mOr a b m S = (a m S).bind fun k S1 => onBl k fun k => match k with | true => .ok (.v (.bl true)) S1 | false => b m S1 := id rfl
@[simp] theorem mNot_eq : mNot a m S = (a m S).bind fun k S1 => onBl k fun k => .ok (.v (.bl (!k))) S1 := id rfl
@[simp] theorem mtB_eq : mtB a m S = (a m S).bind fun d S1 => onBl d fun k => .ok k S1 := id rfl
@[simp] theorem mtTru_eq : mtTru a m S = (a m S).bind truM := id rfl
@[simp] theorem mtAnd_eq : mtAnd t u m S = (t m S).bind fun k S1 => match k with | true => u m S1 | false => .ok false S1 := id rfl
@[simp] theorem mtOr_eq : mtOr t u m S = (t m S).bind fun k S1 => match k with | true => .ok true S1 | false => u m S1 := id rfl
@[simp] theorem mtNot_eq : mtNot t m S = (t m S).bind fun k S1 => .ok (!k) S1 := id rfl
@[simp] theorem mtYes_eq : mtYes m S = .ok true S := id rfl
@[simp] theorem mMeth_eq (T : String) (F : R → List R → Store → Out R) : mMeth T F a r m S = (a m S).bind fun d S1 => if tyOk T S1 d = true then (r m S1).bind fun ds S2 => F d ds S2 else .no := id rfl
@[simp] theorem mMeth0_eq (T : String) (F : R → List R → Store → Out R) : mMeth0 T F a m S = (a m S).bind fun d S1 => if tyOk T S1 d = true then F d [] S1 else .no := id rfl
@[simp] theorem mSl_eq (l h : MO_) : mSl a l h m S = (a m S).bind fun d S1 => (l m S1).bind fun lo S2 => (h m S2).bind fun hi S3 => opSl d lo hi S3 := id rfl
@[simp] theorem moN_eq : moN m S = .ok none S := id rfl
theorem moS_eq : moS a m S = (a m S).bind fun d S1 => match d with | .v (.int i) => .ok (some i) S1 | _ => .no := id rfl
@[simp] theorem moS_int {i : Int} (h : a m S = .ok (.v (.int i)) S1) : moS a m S = .ok (some i) S1 := by rw [moS_eq, h]; rfl
@[simp] theorem mChain_eq (p q : R → R → Store → Out R) : mChain p q a b c m S = (a m S).bind fun x S1 => (b m S1).bind fun y S2 => (p x y S2).bind fun z S3 => onBl z fun k => match k with
  | true => (c m S3).bind fun w S4 => q y w S4
  | false => .ok (.v (.bl false)) S3 := id rfl
@[simp] theorem mPop_eq : mPop a m S = (a m S).bind fun r S' => popV S r S' := id rfl
@[simp] theorem thenS_ok {α : Type} (x : α) (F : α → Store → OutS) : (Out.ok x S).thenS m F = F x S := id rfl
@[simp] theorem mSkip_eq : mSkip m S = .nx m S := id rfl
@[simp] theorem mSeq_eq : mSeq f g m S = match f m S with | .nx m' S' => g m' S' | o => o := id rfl
@[simp] theorem mBrk_eq : mBrk m S = .bk m S := id rfl
@[simp] theorem mCnt_eq : mCnt m S = .ct m S := id rfl
@[simp] theorem mDrop_eq : mDrop a m S = (a m S).thenS m fun _ S1 => .nx m S1 := id rfl
@[simp] theorem mRet_eq : mRet a m S = (a m S).thenS m fun d S1 => .rt d S1 := id rfl
@[simp] theorem mRetN_eq : mRetN m S = .rt (.v .non) S := id rfl
@[simp] theorem mIfS_eq : mIfS t f g m S = (t m S).thenS m fun k S1 => match k with | true => f m S1 | false => g m S1 := id rfl
@[simp] theorem mSet_eq (i : Nat) : mSet i a m S = (a m S).thenS m fun d S1 => .nx (m.set i (some d)) S1 := id rfl
theorem mSetP_eq (i : Nat) : mSetP i a m S = if i < m.length then mSet i (mPop a) m S else .no := id rfl
@[simp] theorem mSetP_lt (i : Nat) (h : i < m.length) : mSetP i a m S = mSet i (mPop a) m S := if_pos h
@[simp] theorem mPar_eq (i j : Nat) : mPar i j a b m S = (a m S).thenS m fun x S1 => (b m S1).thenS m fun y S2 => .nx ((m.set i (some x)).set j (some y)) S2 := id rfl
@[simp] theorem mAug_eq (i : Nat) (op : R → R → Store → Out R) : mAug i op a m S = (mVar i m S).thenS m fun x S0 => (a m S0).thenS m fun y S1 => (op x y S1).thenS m fun z S2 => .nx (m.set i (some z)) S2 := id rfl
@[simp] theorem mAsg_eq (t : TgM) : mAsg t a m S = (a m S).thenS m fun d S1 => match t d m with | some m' => .nx m' S1 | none => .no := id rfl
@[simp] theorem tgN_eq (i : Nat) : tgN i d m = some (m.set i (some d)) := id rfl
@[simp] theorem tgT_tup (ts : List TgM) (ds : List D) : tgT ts (.v (.tup ds)) m = bindAll ts (ds.map .v) m := id rfl
@[simp] theorem bindAll_nil : bindAll [] [] m = some m := id rfl
@[simp] theorem bindAll_cons (t : TgM) (ts : List TgM) (ds : List R) : bindAll (t :: ts) (d :: ds) m = (t d m).bind fun m' => bindAll ts ds m' := id rfl
@[simp] theorem mSetIx_eq : mSetIx a b c m S = (a m S).thenS m fun d S1 => (b m S1).thenS m fun x S2 => (c m S2).thenS m fun y S3 => match setIx x y d S3 with
  | some S4 => .nx m S4
  | none => .no := id rfl
theorem mDef_rt {N : Nat} {f : MS} {ds : List R} {S S' : Store} {d : R} (h : f (ds.map some ++ List.replicate (N - ds.length) none) S = .rt d S') : mDef N f ds S = .ok d S' := by
  unfold mDef; rw [h]
@[simp] theorem popV_v (S S' : Store) (d : D) : popV S (.v d) S' = .ok (.v d) (cut S S') := by unfold popV; rw [frz_v]
theorem popV_ref {S S' : Store} {n : Nat} {ds : List D} (h : S'[n]? = some (.lst (ds.map .v))) : popV S (.ref n) S' = .ok (.v (.lst ds)) (cut S (S'.set n (.fz (.lst ds)))) := by unfold popV; rw [frz_ref h]
@[simp] theorem cut_self' (S : Store) : cut S S = S := cut_self S
@[simp] theorem cut_app' (S t : Store) : cut S (S ++ t) = S := cut_app t (.refl S)
theorem set_len (S : Store) (c x : MO) (cs : Store) : (S ++ c :: cs).set S.length x = S ++ x :: cs := by
  rw [List.set_append_right _ _ (Nat.le_refl _), Nat.sub_self]; rfl
theorem get_len (S : Store) (c : MO) (cs : Store) : (S ++ c :: cs)[S.length]? = some c := by
  rw [List.getElem?_append_right (Nat.le_refl _), Nat.sub_self]; rfl
/-- a new list, by value -/
theorem popV_new (S : Store) (ds : List D) : popV S (.ref S.length) (S ++ [.lst (ds.map .v)]) = .ok (.v (.lst ds)) S := by
  rw [popV_ref (get_len S _ [])]
  rw [set_len, cut_app']
theorem popV_newU {S T : Store} (ds : List D) (hu : Upd S T) : popV S (.ref T.length) (T ++ [.lst (ds.map .v)]) = .ok (.v (.lst ds)) T := by
  rw [popV_ref (get_len T _ [])]
  rw [set_len, cut_app _ hu]
theorem mDefV_rt {N : Nat} {f : MS} {ds : List R} {S S' : Store} {d : R} {o : Out R} (h : f (ds.map some ++ List.replicate (N - ds.length) none) S = .rt d S') (h2 : popV S d S' = o) : mDefV N f ds S = o := by
  unfold mDefV; rw [mDef_rt h]; exact h2
theorem mDefV_rt0 {N : Nat} {f : MS} {ds : List R} {S : Store} {d : D} (h : f (ds.map some ++ List.replicate (N - ds.length) none) S = .rt (.v d) S) : mDefV N f ds S = .ok (.v d) S :=
  mDefV_rt h (by rw [popV_v, cut_self])
theorem mDefV_rtG {N : Nat} {f : MS} {ds : List R} {S T : Store} {d : D} (t : Store) (h : f (ds.map some ++ List.replicate (N - ds.length) none) S = .rt (.v d) (T ++ t)) (hu : Upd S T) : mDefV N f ds S = .ok (.v d) T :=
  mDefV_rt h (by rw [popV_v, cut_app t hu])
theorem mDefV_rtU {N : Nat} {f : MS} {ds : List R} {S T : Store} {d : D} (h : f (ds.map some ++ List.replicate (N - ds.length) none) S = .rt (.v d) T) (hu : Upd S T) : mDefV N f ds S = .ok (.v d) T :=
  mDefV_rt h (by rw [popV_v, cut_upd hu])
end
section
variable {S : Store} {n : Nat} {o x y : MO}
theorem lt_of_get (h : S[n]? = some o) : n < S.length := (List.getElem?_eq_some_iff.mp h).1
theorem get_old (h : S[n]? = some o) (cs : Store) : (S ++ cs)[n]? = some o := by rw [List.getElem?_append_left (lt_of_get h), h]
theorem get_ne {S : Store} {n w : Nat} (h : n ≠ w) (c : MO) : (S.set n c)[w]? = S[w]? := List.getElem?_set_ne h
theorem get_set (h : S[n]? = some o) (x : MO) : (S.set n x)[n]? = some x := by rw [List.getElem?_set_self (lt_of_get h)]
@[simp] theorem get_at0 (c : MO) (cs : Store) : (S ++ c :: cs)[S.length]? = some c := get_len S c cs
@[simp] theorem set_at0 (c x : MO) (cs : Store) : (S ++ c :: cs).set S.length x = S ++ x :: cs := set_len S c x cs
@[simp] theorem get_at1 (b c : MO) (cs : Store) : (S ++ b :: c :: cs)[S.length + 1]? = some c := by
  rw [List.getElem?_append_right (by omega), Nat.add_sub_cancel_left]; rfl
@[simp] theorem set_at1 (b c x : MO) (cs : Store) : (S ++ b :: c :: cs).set (S.length + 1) x = S ++ b :: x :: cs := by
  rw [List.set_append_right _ _ (by omega), Nat.add_sub_cancel_left]; rfl
@[simp] theorem get_at2 (a b c : MO) (cs : Store) : (S ++ a :: b :: c :: cs)[S.length + 2]? = some c := by
  rw [List.getElem?_append_right (by omega), Nat.add_sub_cancel_left]; rfl
@[simp] theorem set_at2 (a b c x : MO) (cs : Store) : (S ++ a :: b :: c :: cs).set (S.length + 2) x = S ++ a :: b :: x :: cs := by
  rw [List.set_append_right _ _ (by omega), Nat.add_sub_cancel_left]; rfl
@[simp] theorem get_at3 (z a b c : MO) (cs : Store) : (S ++ z :: a :: b :: c :: cs)[S.length + 3]? = some c := by
  rw [List.getElem?_append_right (by omega), Nat.add_sub_cancel_left]; rfl
@[simp] theorem set_at3 (z a b c x : MO) (cs : Store) : (S ++ z :: a :: b :: c :: cs).set (S.length + 3) x = S ++ z :: a :: b :: x :: cs := by
  rw [List.set_append_right _ _ (by omega), Nat.add_sub_cancel_left]; rfl
@[simp] theorem set_get (h : S[n]? = some o) : S.set n o = S := by
  obtain ⟨hl, e⟩ := List.getElem?_eq_some_iff.mp h
  rw [← e]
  exact List.set_getElem_self hl
@[simp] theorem upd_refl : Upd S S ↔ True := ⟨fun _ => trivial, fun _ => .refl S⟩
theorem lo_lst (ds : List D) (k : Nat) : (MO.lst (ds.map .v)).lo k := by
  intro r hr
  obtain ⟨d, _, rfl⟩ := List.mem_map.mp hr
  trivial
theorem upd_set (n : Nat) {c : MO} (hc : c.lo S.length) : Upd S (S.set n c) := (Upd.refl S).set hc
end
section
variable {S : Store}
@[simp] theorem view_v' (d : D) : view S (.v d) = some d := view_v S d
@[simp] theorem opAdd_int (i j : Int) : opAdd (.v (.int i)) (.v (.int j)) S = .ok (.v (.int (i + j))) S := id rfl
theorem opAdd_str {x y : Str} (h : x.length + y.length ≤ sizeLine) : opAdd (.v (.str x)) (.v (.str y)) S = .ok (.v (.str (x ++ y))) S := if_pos h
theorem opAdd_tup {x y : List D} (h : x.length + y.length ≤ sizeLine) : opAdd (.v (.tup x)) (.v (.tup y)) S = .ok (.v (.tup (x ++ y))) S := if_pos h
theorem opAdd_lst {x y : List D} (h : x.length + y.length ≤ sizeLine) : opAdd (.v (.lst x)) (.v (.lst y)) S = .ok (.ref S.length) (S ++ [.lst (x.map .v ++ y.map .v)]) := if_pos h
/-- list + list, by value -/
theorem popAdd {x y : List D} (h : x.length + y.length ≤ sizeLine) : (opAdd (.v (.lst x)) (.v (.lst y)) S).bind (fun r S' => popV S r S') = .ok (.v (.lst (x ++ y))) S := by
  rw [opAdd_lst h, Out.bind_ok, ← List.map_append]
  exact popV_new S _
@[simp] theorem lsOf_lst {n : Nat} {ds : List R} (h : S[n]? = some (.lst ds)) : lsOf S n = some ds := by unfold lsOf; rw [h]; rfl
@[simp] theorem opSub_int (i j : Int) : opSub (.v (.int i)) (.v (.int j)) S = .ok (.v (.int (i - j))) S := id rfl
theorem opMul_int {i j : Int} (h1 : i.natAbs < smLine) (h2 : j.natAbs < smLine) : opMul (.v (.int i)) (.v (.int j)) S = .ok (.v (.int (i * j))) S := if_pos (.inl ⟨h1, h2⟩)
theorem opFdiv_int {i j : Int} (h1 : 0 < j) (h2 : j.natAbs < dvLine) : opFdiv (.v (.int i)) (.v (.int j)) S = .ok (.v (.int (i / j))) S := if_pos ⟨h1, h2⟩
theorem opMod_int {i j : Int} (h1 : 0 < j) : opMod (.v (.int i)) (.v (.int j)) S = .ok (.v (.int (i % j))) S := if_pos h1
@[simp] theorem opNeg_int (i : Int) : opNeg (.v (.int i)) S = .ok (.v (.int (-i))) S := id rfl
@[simp] theorem opIadd_int (i j : Int) : opIadd (.v (.int i)) (.v (.int j)) S = .ok (.v (.int (i + j))) S := id rfl
@[simp] theorem opCmpI_int (p : Int → Int → Bool) (i j : Int) : opCmpI p (.v (.int i)) (.v (.int j)) S = .ok (.v (.bl (p i j))) S := id rfl
theorem sm64 {i : Int} (h : i.natAbs < 2 ^ 64) : i.natAbs < smLine := sm_lt 64 h (by decide)
theorem dv64 {i : Int} (h : i.natAbs < 2 ^ 64) : i.natAbs < dvLine := dv_lt 64 h (by decide)
theorem shaped_int (i : Int) : SeqAt.shaped (.int i) = true := by simp [SeqAt.shaped, PyData.canLay0, PyData.depth]
theorem shaped_bool (i : Bool) : SeqAt.shaped (.bool i) = true := by simp [SeqAt.shaped, PyData.canLay0, PyData.depth]
theorem shaped_none : SeqAt.shaped .none = true := by simp [SeqAt.shaped, PyData.canLay0, PyData.depth]
@[simp] theorem pyS_int (i : Int) : D.pyS (.int i) = some (.int i) := by simp [D.pyS, D.py, shaped_int]
@[simp] theorem pyS_bl (i : Bool) : D.pyS (.bl i) = some (.bool i) := by simp [D.pyS, D.py, shaped_bool]
@[simp] theorem pyS_non : D.pyS .non = some .none := by simp [D.pyS, D.py, shaped_none]
@[simp] theorem pyOf_v (d : D) : pyOf S (.v d) = d.pyS := by simp [pyOf]
@[simp] theorem opEq_int (i j : Int) : opEq (.v (.int i)) (.v (.int j)) S = .ok (.v (.bl (i == j))) S := by simp [opEq, PyData.eqv]
@[simp] theorem opNe_int (i j : Int) : opNe (.v (.int i)) (.v (.int j)) S = .ok (.v (.bl (!(i == j)))) S := by simp [opNe, PyData.eqv]
@[simp] theorem opEq_bl (i j : Bool) : opEq (.v (.bl i)) (.v (.bl j)) S = .ok (.v (.bl (i == j))) S := by simp [opEq, PyData.eqv]
@[simp] theorem opNe_bl (i j : Bool) : opNe (.v (.bl i)) (.v (.bl j)) S = .ok (.v (.bl (!(i == j)))) S := by simp [opNe, PyData.eqv]
/-- data that == walks: what it is, that it is of the form -/
theorem opEq_py {d e : D} {p q : PyData} (h1 : d.pyS = some p) (h2 : e.pyS = some q) : opEq (.v d) (.v e) S = .ok (.v (.bl (PyData.eqv p q))) S := by simp [opEq, h1, h2]
theorem opNe_py {d e : D} {p q : PyData} (h1 : d.pyS = some p) (h2 : e.pyS = some q) : opNe (.v d) (.v e) S = .ok (.v (.bl (!PyData.eqv p q))) S := by simp [opNe, h1, h2]
@[simp] theorem truM_bl (b : Bool) : truM (.v (.bl b)) S = .ok b S := id rfl
@[simp] theorem truM_int (b : Int) : truM (.v (.int b)) S = .ok (b != 0) S := id rfl
@[simp] theorem truM_non : truM (.v .non) S = .ok false S := id rfl
@[simp] theorem truM_tup (ds : List D) : truM (.v (.tup ds)) S = .ok (!ds.isEmpty) S := id rfl
@[simp] theorem opIs_non (d : R) : opIs d (.v .non) S = .ok (.v (.bl (isNon d))) S := id rfl
@[simp] theorem opIsNot_non (d : R) : opIsNot d (.v .non) S = .ok (.v (.bl (!(isNon d)))) S := id rfl
@[simp] theorem opIs_bl (a b : Bool) : opIs (.v (.bl a)) (.v (.bl b)) S = .ok (.v (.bl (decide (a = b)))) S := id rfl
@[simp] theorem opIsNot_bl (a b : Bool) : opIsNot (.v (.bl a)) (.v (.bl b)) S = .ok (.v (.bl (!decide (a = b)))) S := id rfl
theorem atI_lt {α : Type} {xs : List α} {i : Int} (h0 : 0 ≤ i) : atI xs i = xs[i.toNat]? := by
  unfold atI ixN
  rw [if_pos h0]
  by_cases h : i < (xs.length : Int)
  · rw [if_pos h]; rfl
  · rw [if_neg h, List.getElem?_eq_none (by omega)]; rfl
theorem atI_map {α β : Type} (f : α → β) (xs : List α) (i : Int) : atI (xs.map f) i = (atI xs i).map f := by
  unfold atI
  rw [List.length_map]
  cases ixN xs.length i with
  | none => rfl
  | some j => simp
theorem opIx_tup {ds : List D} {i : Int} {d : D} (h : atI ds i = some d) : opIx (.v (.tup ds)) (.v (.int i)) S = .ok (.v d) S := by
  simp [opIx, seqOf, atI_map, h]
theorem opIx_ref {n : Nat} {ds : List R} {i : Int} {d : R} (h : S[n]? = some (.lst ds)) (h2 : atI ds i = some d) : opIx (.ref n) (.v (.int i)) S = .ok d S := by
  simp [opIx, seqOf, lsOf_lst h, h2]
/-- written places of written sequences -/
@[simp] theorem atI_0 {α : Type} (a : α) (xs : List α) : atI (a :: xs) 0 = some a := by rw [atI_lt (by decide)]; rfl
@[simp] theorem atI_1 {α : Type} (a b : α) (xs : List α) : atI (a :: b :: xs) 1 = some b := by rw [atI_lt (by decide)]; rfl
@[simp] theorem atI_2 {α : Type} (a b c : α) (xs : List α) : atI (a :: b :: c :: xs) 2 = some c := by rw [atI_lt (by decide)]; rfl
@[simp] theorem atI_3 {α : Type} (a b c d : α) (xs : List α) : atI (a :: b :: c :: d :: xs) 3 = some d := by rw [atI_lt (by decide)]; rfl
theorem ixN_lt0 {n : Nat} {k : Int} (h0 : 0 ≤ k) (h1 : k < n) : ixN n k = some k.toNat := by unfold ixN; rw [if_pos h0, if_pos h1]
theorem setIx_ref {n : Nat} {ds : List R} {k : Int} {d : R} (h : S[n]? = some (.lst ds)) (h0 : 0 ≤ k) (h1 : k < ds.length) : setIx (.ref n) (.v (.int k)) d S = some (S.set n (.lst (ds.set k.toNat d))) := by
  unfold setIx; simp only [h, ixN_lt0 h0 h1]
@[simp] theorem frzO_nil {α : Type} (f : List D → Store → Out α) : frzO S [] f = f [] S := by simp [frzO, frzA]
theorem frzO_vs {α : Type} (ds : List D) (f : List D → Store → Out α) : frzO S (ds.map .v) f = f ds S := by simp [frzO, frzA_map]
@[simp] theorem frzO_1 {α : Type} (a : D) (f : List D → Store → Out α) : frzO S [.v a] f = f [a] S := frzO_vs [a] f
@[simp] theorem frzO_2 {α : Type} (a b : D) (f : List D → Store → Out α) : frzO S [.v a, .v b] f = f [a, b] S := frzO_vs [a, b] f
@[simp] theorem frzO_3 {α : Type} (a b c : D) (f : List D → Store → Out α) : frzO S [.v a, .v b, .v c] f = f [a, b, c] S := frzO_vs [a, b, c] f
@[simp] theorem frzO_4 {α : Type} (a b c d : D) (f : List D → Store → Out α) : frzO S [.v a, .v b, .v c, .v d] f = f [a, b, c, d] S := frzO_vs [a, b, c, d] f
@[simp] theorem frzO_5 {α : Type} (a b c d e : D) (f : List D → Store → Out α) : frzO S [.v a, .v b, .v c, .v d, .v e] f = f [a, b, c, d, e] S := frzO_vs [a, b, c, d, e] f
@[simp] theorem frzO_6 {α : Type} (a b c d e g : D) (f : List D → Store → Out α) : frzO S [.v a, .v b, .v c, .v d, .v e, .v g] f = f [a, b, c, d, e, g] S := frzO_vs [a, b, c, d, e, g] f
theorem sz_of {n : Nat} (h : n ≤ 16777216) : n ≤ sizeLine := by rw [sizeLine_eq]; exact h
theorem sz_lt {n : Nat} (h : n < 16777216) : n < sizeLine := by rw [sizeLine_eq]; exact h
@[simp] theorem sz0 : (0 ≤ sizeLine) = True := by simp
@[simp] theorem sz1 : (1 ≤ sizeLine) = True := eq_true (sz_of (by decide))
@[simp] theorem sz2 : (2 ≤ sizeLine) = True := eq_true (sz_of (by decide))
@[simp] theorem sz3 : (3 ≤ sizeLine) = True := eq_true (sz_of (by decide))
@[simp] theorem sz4 : (4 ≤ sizeLine) = True := eq_true (sz_of (by decide))
@[simp] theorem sz5 : (5 ≤ sizeLine) = True := eq_true (sz_of (by decide))
@[simp] theorem sz6 : (6 ≤ sizeLine) = True := eq_true (sz_of (by decide))
@[simp] theorem sz7 : (7 ≤ sizeLine) = True := eq_true (sz_of (by decide))
@[simp] theorem sz8 : (8 ≤ sizeLine) = True := eq_true (sz_of (by decide))
@[simp] theorem sz9 : (9 ≤ sizeLine) = True := eq_true (sz_of (by decide))
@[simp] theorem sz10 : (10 ≤ sizeLine) = True := eq_true (sz_of (by decide))
@[simp] theorem szl0 : (0 < sizeLine) = True := eq_true (sz_lt (by decide))
@[simp] theorem szl1 : (1 < sizeLine) = True := eq_true (sz_lt (by decide))
@[simp] theorem biLen_tup (ds : List D) : biLen [.v (.tup ds)] S = .ok (.v (.int ds.length)) S := by simp [biLen, seqOf]
@[simp] theorem biLen_lst (ds : List D) : biLen [.v (.lst ds)] S = .ok (.v (.int ds.length)) S := by simp [biLen, seqOf]
@[simp] theorem biLen_kl (ds : List D) : biLen [.v (.kl ds)] S = .ok (.v (.int ds.length)) S := by simp [biLen, seqOf]
theorem biLen_ref {n : Nat} {ds : List R} (h : S[n]? = some (.lst ds)) : biLen [.ref n] S = .ok (.v (.int ds.length)) S := by simp [biLen, seqOf, lsOf_lst h]
theorem biLen_str {x : Str} (h : x.length ≤ sizeLine) : biLen [.v (.str x)] S = .ok (.v (.int x.length)) S := if_pos h
@[simp] theorem biAbs_int (i : Int) : biAbs [.v (.int i)] S = .ok (.v (.int (if i < 0 then -i else i))) S := id rfl
@[simp] theorem biInt_int (i : Int) : biInt [.v (.int i)] S = .ok (.v (.int i)) S := id rfl
@[simp] theorem biInt_bl (i : Bool) : biInt [.v (.bl i)] S = .ok (.v (.int (if i = true then 1 else 0))) S := id rfl
@[simp] theorem biTuple_tup (ds : List D) : biTuple [.v (.tup ds)] S = .ok (.v (.tup ds)) S := id rfl
@[simp] theorem biTuple_lst (ds : List D) : biTuple [.v (.lst ds)] S = .ok (.v (.tup ds)) S := by simp [biTuple, lstOf, frzO_vs]
theorem biTuple_ref {n : Nat} {ds : List D} (h : S[n]? = some (.lst (ds.map .v))) : biTuple [.ref n] S = .ok (.v (.tup ds)) S := by simp [biTuple, lstOf, lsOf_lst h, frzO_vs]
@[simp] theorem biList_tup (ds : List D) : biList [.v (.tup ds)] S = .ok (.ref S.length) (S ++ [.lst (ds.map .v)]) := by simp [biList, seqOf]
@[simp] theorem biList_lst (ds : List D) : biList [.v (.lst ds)] S = .ok (.ref S.length) (S ++ [.lst (ds.map .v)]) := by simp [biList, seqOf]
theorem strsOf_map : ∀ xs : List Str, strsOf (xs.map fun x => R.v (.str x)) = some xs
  | [] => rfl
  | x :: xs => by simp [strsOf, strsOf_map xs]
theorem blsOf_map : ∀ xs : List Bool, blsOf (xs.map fun x => R.v (.bl x)) = some xs
  | [] => rfl
  | x :: xs => by simp [blsOf, blsOf_map xs]
theorem biAll_lst (bs : List Bool) : biAll [.v (.lst (bs.map .bl))] S = .ok (.v (.bl (bs.all id))) S := by
  have := blsOf_map bs
  simp only [biAll, lstOf, List.map_map, Option.bind_some]
  rw [show (R.v ∘ D.bl) = fun x => R.v (.bl x) from rfl, this]
@[simp] theorem biMax_ii (i j : Int) : biMax [.v (.int i), .v (.int j)] S = .ok (.v (.int (if j > i then j else i))) S := id rfl
@[simp] theorem biMin_ii (i j : Int) : biMin [.v (.int i), .v (.int j)] S = .ok (.v (.int (if j < i then j else i))) S := id rfl
theorem kb_ss : kitB "str" "str" = some true := by decide +kernel
theorem kb_st : kitB "str" "tuple" = some false := by decide +kernel
theorem kb_si : kitB "str" "int" = some false := by decide +kernel
theorem kb_sb : kitB "str" "bool" = some false := by decide +kernel
theorem kb_ts : kitB "tuple" "str" = some false := by decide +kernel
theorem kb_tt : kitB "tuple" "tuple" = some true := by decide +kernel
theorem kb_ti : kitB "tuple" "int" = some false := by decide +kernel
theorem kb_is : kitB "int" "str" = some false := by decide +kernel
theorem kb_it : kitB "int" "tuple" = some false := by decide +kernel
theorem kb_ii : kitB "int" "int" = some true := by decide +kernel
theorem kb_ib : kitB "int" "bool" = some false := by decide +kernel
theorem kb_bs : kitB "bool" "str" = some false := by decide +kernel
theorem kb_bt : kitB "bool" "tuple" = some false := by decide +kernel
theorem kb_bi : kitB "bool" "int" = some true := by decide +kernel
theorem kb_bb : kitB "bool" "bool" = some true := by decide +kernel
theorem kb_ns : kitB "NoneType" "str" = some false := by decide +kernel
theorem kb_nt : kitB "NoneType" "tuple" = some false := by decide +kernel
theorem kb_ni : kitB "NoneType" "int" = some false := by decide +kernel
theorem kb_ls : kitB "list" "str" = some false := by decide +kernel
theorem kb_lt : kitB "list" "tuple" = some false := by decide +kernel
theorem kb_ds : kitB "dict" "str" = some false := by decide +kernel
theorem kb_dt : kitB "dict" "tuple" = some false := by decide +kernel
@[simp] theorem isi_str_str (x : Str) : biIsi [.v (.str x), .v (.ty "str")] S = .ok (.v (.bl true)) S := by simp [biIsi, tyName, tyD, kb_ss]
@[simp] theorem isi_str_tup (x : Str) : biIsi [.v (.str x), .v (.ty "tuple")] S = .ok (.v (.bl false)) S := by simp [biIsi, tyName, tyD, kb_st]
@[simp] theorem isi_str_int (x : Str) : biIsi [.v (.str x), .v (.ty "int")] S = .ok (.v (.bl false)) S := by simp [biIsi, tyName, tyD, kb_si]
@[simp] theorem isi_str_bool (x : Str) : biIsi [.v (.str x), .v (.ty "bool")] S = .ok (.v (.bl false)) S := by simp [biIsi, tyName, tyD, kb_sb]
@[simp] theorem isi_tup_str (x : List D) : biIsi [.v (.tup x), .v (.ty "str")] S = .ok (.v (.bl false)) S := by simp [biIsi, tyName, tyD, kb_ts]
@[simp] theorem isi_tup_tup (x : List D) : biIsi [.v (.tup x), .v (.ty "tuple")] S = .ok (.v (.bl true)) S := by simp [biIsi, tyName, tyD, kb_tt]
@[simp] theorem isi_tup_int (x : List D) : biIsi [.v (.tup x), .v (.ty "int")] S = .ok (.v (.bl false)) S := by simp [biIsi, tyName, tyD, kb_ti]
@[simp] theorem isi_int_str (x : Int) : biIsi [.v (.int x), .v (.ty "str")] S = .ok (.v (.bl false)) S := by simp [biIsi, tyName, tyD, kb_is]
@[simp] theorem isi_int_tup (x : Int) : biIsi [.v (.int x), .v (.ty "tuple")] S = .ok (.v (.bl false)) S := by simp [biIsi, tyName, tyD, kb_it]
@[simp] theorem isi_int_int (x : Int) : biIsi [.v (.int x), .v (.ty "int")] S = .ok (.v (.bl true)) S := by simp [biIsi, tyName, tyD, kb_ii]
@[simp] theorem isi_int_bool (x : Int) : biIsi [.v (.int x), .v (.ty "bool")] S = .ok (.v (.bl false)) S := by simp [biIsi, tyName, tyD, kb_ib]
@[simp] theorem isi_bl_str (x : Bool) : biIsi [.v (.bl x), .v (.ty "str")] S = .ok (.v (.bl false)) S := by simp [biIsi, tyName, tyD, kb_bs]
@[simp] theorem isi_bl_tup (x : Bool) : biIsi [.v (.bl x), .v (.ty "tuple")] S = .ok (.v (.bl false)) S := by simp [biIsi, tyName, tyD, kb_bt]
@[simp] theorem isi_bl_int (x : Bool) : biIsi [.v (.bl x), .v (.ty "int")] S = .ok (.v (.bl true)) S := by simp [biIsi, tyName, tyD, kb_bi]
@[simp] theorem isi_bl_bool (x : Bool) : biIsi [.v (.bl x), .v (.ty "bool")] S = .ok (.v (.bl true)) S := by simp [biIsi, tyName, tyD, kb_bb]
@[simp] theorem isi_non_str : biIsi [.v .non, .v (.ty "str")] S = .ok (.v (.bl false)) S := by simp [biIsi, tyName, tyD, kb_ns]
@[simp] theorem isi_non_tup : biIsi [.v .non, .v (.ty "tuple")] S = .ok (.v (.bl false)) S := by simp [biIsi, tyName, tyD, kb_nt]
@[simp] theorem isi_non_int : biIsi [.v .non, .v (.ty "int")] S = .ok (.v (.bl false)) S := by simp [biIsi, tyName, tyD, kb_ni]
@[simp] theorem tyOk_str (x : Str) : tyOk "str" S (.v (.str x)) = true := id rfl
@[simp] theorem tyOk_lstV (x : List D) : tyOk "list" S (.v (.lst x)) = true := id rfl
theorem tyOk_lst {n : Nat} {ds : List R} (h : S[n]? = some (.lst ds)) : tyOk "list" S (.ref n) = true := by simp [tyOk, h]
theorem mtAppend_ref {n : Nat} {ds : List R} {y : R} (h : S[n]? = some (.lst ds)) (hz : ds.length < sizeLine) : mtAppend (.ref n) [y] S = .ok (.v .non) (S.set n (.lst (ds ++ [y]))) := by
  unfold mtAppend; simp only [h, if_pos hz]
end
@[simp] theorem mLc_eq (src : MI) (vs : List Nat) (t : TgM) (c : MT) (f : ME) (m : Env) (S : Store) : mLc src vs t c f m S = (src m S).bind fun it S1 => mLcGo it.pins t c f S1.length (wipeM m vs) it.items (S1 ++ [.lst []]) := id rfl
/-- a comprehension by value whose turns leave the store: p by a test, g the elements -/
theorem lc_mapU {α : Type} {t : TgM} {c : MT} {f : ME} {m : Env} {S0 S : Store} (hu : Upd S0 S) (r : α → R) (p : α → Bool) (g : α → D) (xs : List α) (hz : xs.length ≤ sizeLine)
    (hs : ∀ x ∈ xs, ∀ acc : List R, ∃ m1, t (r x) m = some m1 ∧ c m1 (S ++ [.lst acc]) = .ok (p x) (S ++ [.lst acc]) ∧ (p x = true → f m1 (S ++ [.lst acc]) = .ok (.v (g x)) (S ++ [.lst acc]))) :
    (mLcGo [] t c f S.length m (xs.map r) (S ++ [.lst []])).bind (fun r S' => popV S0 r S') = .ok (.v (.lst ((xs.filter p).map g))) S := by
  have key : ∀ (xs ys : List α), ys.length + xs.length ≤ sizeLine → (∀ x ∈ xs, ∀ acc : List R, ∃ m1, t (r x) m = some m1 ∧ c m1 (S ++ [.lst acc]) = .ok (p x) (S ++ [.lst acc]) ∧ (p x = true → f m1 (S ++ [.lst acc]) = .ok (.v (g x)) (S ++ [.lst acc]))) →
      mLcGo [] t c f S.length m (xs.map r) (S ++ [.lst ((ys.map g).map .v)]) = .ok (.ref S.length) (S ++ [.lst (((ys ++ xs.filter p).map g).map .v)]) := by
    intro xs
    induction xs with
    | nil => intro ys _ _; unfold mLcGo; simp [pinsOk]
    | cons x xs ih =>
      intro ys hl hs
      obtain ⟨m1, e1, e2, e3⟩ := hs x (by simp) ((ys.map g).map .v)
      rw [List.map_cons]
      unfold mLcGo
      rw [if_pos (show pinsOk [] _ from trivial), e1]
      simp only [e2, Out.calm_ok, Out.bind_ok]
      rw [List.length_cons] at hl
      cases hp : p x with
      | false =>
        simp only
        rw [ih ys (by omega) fun x hx => hs x (by simp [hx]), List.filter_cons_of_neg (by simp [hp])]
      | true =>
        simp only [e3 hp, Out.calm_ok, Out.bind_ok, get_len]
        rw [if_pos (by rw [List.length_map, List.length_map]; omega), set_len, List.filter_cons_of_pos hp]
        have := ih (ys ++ [x]) (by rw [List.length_append]; simp; omega) fun x hx => hs x (by simp [hx])
        simp only [List.map_append, List.map_cons, List.map_nil, List.append_assoc, List.cons_append, List.nil_append] at this ⊢
        exact this
  have := key xs [] (by simpa using hz) hs
  simp only [List.map_nil, List.nil_append] at this
  rw [this, Out.bind_ok]
  exact popV_newU _ hu
theorem lc_map {α : Type} {t : TgM} {c : MT} {f : ME} {m : Env} {S : Store} (r : α → R) (p : α → Bool) (g : α → D) (xs : List α) (hz : xs.length ≤ sizeLine)
    (hs : ∀ x ∈ xs, ∀ acc : List R, ∃ m1, t (r x) m = some m1 ∧ c m1 (S ++ [.lst acc]) = .ok (p x) (S ++ [.lst acc]) ∧ (p x = true → f m1 (S ++ [.lst acc]) = .ok (.v (g x)) (S ++ [.lst acc]))) :
    (mLcGo [] t c f S.length m (xs.map r) (S ++ [.lst []])).bind (fun r S' => popV S r S') = .ok (.v (.lst ((xs.filter p).map g))) S := lc_mapU (.refl S) r p g xs hz hs
/-- a comprehension by value whose turns change the store below it: P of the turn, the list so far, the store -/
theorem lc_st {α : Type} {t : TgM} {f : ME} {m : Env} {S0 S : Store} (r : α → R) (xs : List α) (P : Nat → List D → Store → Prop) (hz : xs.length ≤ sizeLine) (h0 : P 0 [] S) (hu : ∀ i ys T, P i ys T → Upd S0 T)
    (hs : ∀ i x ys T, xs[i]? = some x → P i ys T → ∃ m1, t (r x) m = some m1 ∧ ∃ y T', f m1 (T ++ [.lst (ys.map .v)]) = .ok (.v y) (T' ++ [.lst (ys.map .v)]) ∧ P (i + 1) (ys ++ [y]) T') :
    ∃ ys T, (mLcGo [] t mtYes f S.length m (xs.map r) (S ++ [.lst []])).bind (fun r S' => popV S0 r S') = .ok (.v (.lst ys)) T ∧ P xs.length ys T ∧ ys.length = xs.length := by
  have hS0 : S.length = S0.length := (hu 0 [] S h0).1
  have key : ∀ (xs : List α) (j : Nat) (ys : List D) (T : Store), ys.length + xs.length ≤ sizeLine → P j ys T → (∀ i x ys T, xs[i]? = some x → P (j + i) ys T → ∃ m1, t (r x) m = some m1 ∧ ∃ y T', f m1 (T ++ [.lst (ys.map .v)]) = .ok (.v y) (T' ++ [.lst (ys.map .v)]) ∧ P (j + i + 1) (ys ++ [y]) T') →
      ∃ zs T', mLcGo [] t mtYes f S.length m (xs.map r) (T ++ [.lst (ys.map .v)]) = .ok (.ref S.length) (T' ++ [.lst (zs.map .v)]) ∧ P (j + xs.length) zs T' ∧ zs.length = ys.length + xs.length := by
    intro xs
    induction xs with
    | nil => intro j ys T _ h _; exact ⟨ys, T, by unfold mLcGo; simp [pinsOk], h, rfl⟩
    | cons x xs ih =>
      intro j ys T hl h hs
      obtain ⟨m1, e1, y, T1, e2, h2⟩ := hs 0 x ys T rfl h
      rw [List.length_cons] at hl
      obtain ⟨zs, T2, e3, h3, l3⟩ := ih (j + 1) (ys ++ [y]) T1 (by simp; omega) h2 fun i x ys T hx hp => by
        have := hs (i + 1) x ys T hx (by rw [show j + (i + 1) = j + 1 + i by omega]; exact hp)
        rwa [show j + (i + 1) = j + 1 + i by omega] at this
      refine ⟨zs, T2, ?_, by rw [List.length_cons, show j + (xs.length + 1) = j + 1 + xs.length by omega]; exact h3, by rw [l3]; simp; omega⟩
      rw [List.map_cons]
      unfold mLcGo
      rw [if_pos (show pinsOk [] _ from trivial), e1]
      have hT : T1.length = S.length := (hu _ _ _ h2).1.trans hS0.symm
      have g1 : (T1 ++ [MO.lst (ys.map R.v)])[S.length]? = some (.lst (ys.map .v)) := by rw [← hT]; exact get_len T1 _ []
      have g2 : (T1 ++ [MO.lst (ys.map R.v)]).set S.length (.lst (ys.map .v ++ [.v y])) = T1 ++ [.lst ((ys ++ [y]).map .v)] := by rw [← hT, set_len, List.map_append]; rfl
      simp only [mtYes_eq, Out.calm_ok, Out.bind_ok, e2, g1]
      rw [if_pos (by rw [List.length_map]; omega), g2]
      exact e3
  obtain ⟨zs, T, e, h, l⟩ := key xs 0 [] S (by simpa using hz) h0 fun i x ys T hx hp => by
    have := hs i x ys T hx (by simpa using hp)
    simpa using this
  refine ⟨zs, T, ?_, by simpa using h, by simpa using l⟩
  have hT : T.length = S.length := (hu _ _ _ h).1.trans hS0.symm
  rw [List.map_nil] at e
  rw [e, Out.bind_ok, popV_ref (ds := zs) (by rw [← hT]; exact get_len T _ [])]
  rw [← hT, set_len, cut_app _ (hu _ _ _ h)]
@[simp] theorem keepE_v (k : Nat) (d : D) : keepE k (some (.v d)) = some (.v d) := id rfl
@[simp] theorem keepE_none (k : Nat) : keepE k none = none := id rfl
theorem trim_app {S T t : Store} {m2 : Env} {f : Env → Store → OutS} (hu : Upd S T) (ht : t ≠ []) : trim S m2 (T ++ t) f = f (m2.map (keepE S.length)) T := by
  unfold trim
  have e : (T ++ t).take S.length = T := by rw [← hu.1, List.take_left]
  have hp : 0 < t.length := List.length_pos_iff.mpr ht
  rw [if_pos ⟨by rw [List.length_append, hu.1]; omega, by rw [List.length_append, hu.1]; omega, by rw [e]; exact hu⟩, e]
@[simp] theorem mTrim_eq (f : MS) (m : Env) (S : Store) : mTrim f m S = match f m S with
  | .nx m2 S2 => trim S m2 S2 .nx
  | .ct m2 S2 => trim S m2 S2 .ct
  | o => o := id rfl
end M
namespace M
open PySem hiding Env
open L2
theorem str_len (x : Str) : x.length = x.cps.size := rfl
theorem str_len_append (x y : Str) : (x ++ y).length = x.length + y.length := by
  show (x.cps ++ y.cps).size = _
  rw [Array.size_append]; rfl
theorem cps_app (x y : Str) : (x ++ y).cps.toList = x.cps.toList ++ y.cps.toList := by
  show (x.cps ++ y.cps).toList = _
  simp
theorem str_ext {x y : Str} (h : x.cps.toList = y.cps.toList) : x = y := by
  cases x; cases y
  simp only [Str.mk.injEq]
  exact Array.toList_inj.mp h
/-- a word -/
def GoodW (w : Str) : Prop := 1 ≤ w.length ∧ w.length ≤ 8 ∧ ∀ c ∈ w.cps.toList, 97 ≤ c ∧ c ≤ 122
theorem GoodW.ok {w : Str} (h : GoodW w) : w.cps.all (· < 0x110000) = true := by
  rw [← Array.all_toList, List.all_eq_true]
  intro c hc
  have := h.2.2 c hc
  simp; omega
inductive T where
  | leaf (w : Str)
  | node (l r : T)
  deriving DecidableEq
def T.d : T → D
  | .leaf w => .str w
  | .node l r => .tup [l.d, r.d]
def T.ls : T → List Str
  | .leaf w => [w]
  | .node l r => l.ls ++ r.ls
def T.depth : T → Nat
  | .leaf _ => 0
  | .node l r => max l.depth r.depth + 1
def T.text : T → Str
  | .leaf w => w
  | .node l r => "(" ++ l.text ++ "," ++ r.text ++ ")"
theorem T.ls_ne : ∀ t : T, t.ls ≠ []
  | .leaf w => by simp [T.ls]
  | .node l r => by simp [T.ls, T.ls_ne l]
theorem T.ls_pos (t : T) : 0 < t.ls.length := List.length_pos_iff.mpr t.ls_ne
theorem T.depth_lt : ∀ t : T, t.depth < t.ls.length
  | .leaf w => by simp [T.ls, T.depth]
  | .node l r => by
    have h1 := T.depth_lt l
    have h2 := T.depth_lt r
    have h3 := T.ls_pos l
    have h4 := T.ls_pos r
    simp only [T.ls, T.depth, List.length_append]
    omega
/-- all its words are words -/
def T.Ok (t : T) : Prop := ∀ w ∈ t.ls, GoodW w
theorem T.Ok.l {l r : T} (h : (T.node l r).Ok) : l.Ok := fun w hw => h w (by simp [T.ls, hw])
theorem T.Ok.r {l r : T} (h : (T.node l r).Ok) : r.Ok := fun w hw => h w (by simp [T.ls, hw])
theorem T.text_len : ∀ t : T, t.Ok → t.text.length + 3 ≤ 11 * t.ls.length
  | .leaf w, h => by
    have := (h w (by simp [T.ls])).2.1
    simp only [T.text, T.ls, List.length_cons, List.length_nil]; omega
  | .node l r, h => by
    have h1 := T.text_len l h.l
    have h2 := T.text_len r h.r
    simp only [T.text, T.ls, List.length_append, str_len_append]
    have e1 : (Str.ofString "(").length = 1 := by decide +kernel
    have e2 : (Str.ofString ",").length = 1 := by decide +kernel
    have e3 : (Str.ofString ")").length = 1 := by decide +kernel
    omega
theorem T.text_codes : ∀ t : T, t.Ok → ∀ c ∈ t.text.cps.toList, c < 128
  | .leaf w, h => fun c hc => by have := (h w (by simp [T.ls])).2.2 c hc; omega
  | .node l r, h => fun c hc => by
    simp only [T.text, cps_app, List.mem_append] at hc
    have e1 : ∀ c ∈ (Str.ofString "(").cps.toList, c < 128 := by decide +kernel
    have e2 : ∀ c ∈ (Str.ofString ",").cps.toList, c < 128 := by decide +kernel
    have e3 : ∀ c ∈ (Str.ofString ")").cps.toList, c < 128 := by decide +kernel
    rcases hc with (((hc | hc) | hc) | hc) | hc
    · exact e1 c hc
    · exact T.text_codes l h.l c hc
    · exact e2 c hc
    · exact T.text_codes r h.r c hc
    · exact e3 c hc
/-- the signs of a tree's text -/
def T.signs (t : T) : List Nat := t.text.cps.toList
theorem T.signs_node (l r : T) : (T.node l r).signs = 40 :: (l.signs ++ 44 :: (r.signs ++ [41])) := by
  have e1 : (Str.ofString "(").cps.toList = [40] := by decide +kernel
  have e2 : (Str.ofString ",").cps.toList = [44] := by decide +kernel
  have e3 : (Str.ofString ")").cps.toList = [41] := by decide +kernel
  simp [T.signs, T.text, cps_app, e1, e2, e3]
/-- a text tells its tree, whatever follows that is no letter -/
theorem T.signs_inj : ∀ (t u : T), t.Ok → u.Ok → ∀ (x y : List Nat), (∀ c ∈ x.head?, c < 97) → (∀ c ∈ y.head?, c < 97) → t.signs ++ x = u.signs ++ y → t = u ∧ x = y
  | .leaf w, .leaf v, ht, hu, x, y, hx, hy, h => by
    have hw := (ht w (by simp [T.ls])).2.2
    have hv := (hu v (by simp [T.ls])).2.2
    have h : w.cps.toList ++ x = v.cps.toList ++ y := h
    have key : ∀ (a b x y : List Nat), (∀ c ∈ a, 97 ≤ c) → (∀ c ∈ b, 97 ≤ c) → (∀ c ∈ x.head?, c < 97) → (∀ c ∈ y.head?, c < 97) → a ++ x = b ++ y → a = b ∧ x = y := by
      intro a
      induction a with
      | nil =>
        intro b x y ha hb hx hy h
        cases b with
        | nil => exact ⟨rfl, h⟩
        | cons c b =>
          simp only [List.nil_append, List.cons_append] at h
          subst h
          have h1 := hx c (by simp)
          have h2 := hb c (by simp)
          omega
      | cons c a ih =>
        intro b x y ha hb hx hy h
        cases b with
        | nil =>
          simp only [List.nil_append, List.cons_append] at h
          subst h
          have h1 := hy c (by simp)
          have h2 := ha c (by simp)
          omega
        | cons d b =>
          simp only [List.cons_append, List.cons.injEq] at h
          obtain ⟨q1, q2⟩ := ih b x y (fun c hc => ha c (by simp [hc])) (fun c hc => hb c (by simp [hc])) hx hy h.2
          exact ⟨by rw [h.1, q1], q2⟩
    obtain ⟨q1, q2⟩ := key _ _ _ _ (fun c hc => (hw c hc).1) (fun c hc => (hv c hc).1) hx hy h
    exact ⟨by rw [str_ext q1], q2⟩
  | .leaf w, .node a b, ht, hu, x, y, hx, hy, h => by
    rw [T.signs_node] at h
    have hw := ht w (by simp [T.ls])
    have h : w.cps.toList ++ x = _ := h
    cases hc : w.cps.toList with
    | nil =>
      have := hw.1
      rw [str_len, ← Array.length_toList, hc] at this
      simp at this
    | cons c r =>
      rw [hc] at h
      simp only [List.cons_append, List.cons.injEq] at h
      have := (hw.2.2 c (by rw [hc]; simp)).1
      omega
  | .node a b, .leaf w, ht, hu, x, y, hx, hy, h => by
    rw [T.signs_node] at h
    have hw := hu w (by simp [T.ls])
    have h : _ = w.cps.toList ++ y := h
    cases hc : w.cps.toList with
    | nil =>
      have := hw.1
      rw [str_len, ← Array.length_toList, hc] at this
      simp at this
    | cons c r =>
      rw [hc] at h
      simp only [List.cons_append, List.cons.injEq] at h
      have := (hw.2.2 c (by rw [hc]; simp)).1
      omega
  | .node a b, .node c d, ht, hu, x, y, hx, hy, h => by
    rw [T.signs_node, T.signs_node] at h
    simp only [List.cons_append, List.append_assoc, List.cons.injEq, true_and, List.nil_append] at h
    obtain ⟨e1, h1⟩ := T.signs_inj a c ht.l hu.l _ _ (by simp) (by simp) h
    simp only [List.cons.injEq, true_and] at h1
    obtain ⟨e2, h2⟩ := T.signs_inj b d ht.r hu.r _ _ (by simp) (by simp) h1
    simp only [List.cons.injEq, true_and] at h2
    exact ⟨by rw [e1, e2], h2⟩
theorem T.text_inj {t u : T} (ht : t.Ok) (hu : u.Ok) (h : t.text = u.text) : t = u :=
  (T.signs_inj t u ht hu [] [] (by simp) (by simp) (by simp [T.signs, h])).1
def T.py : T → PyData
  | .leaf w => .str w
  | .node l r => .tuple [l.py, r.py]
theorem T.dpy : ∀ t : T, t.d.py = some t.py
  | .leaf w => rfl
  | .node l r => by
    show (D.pys [l.d, r.d]).map PyData.tuple = _
    simp [D.pys, T.dpy l, T.dpy r, T.py]
theorem T.py_lay : ∀ t : T, t.Ok → t.py.canLay0 = true
  | .leaf w, h => by
    have := (h w (by simp [T.ls])).ok
    simp [T.py, PyData.canLay0, PyData.strOk, this]
  | .node l r, h => by simp [T.py, PyData.canLay0, PyData.canLayAll0, T.py_lay l h.l, T.py_lay r h.r]
theorem T.py_depth : ∀ t : T, t.py.depth = t.depth
  | .leaf w => by simp [T.py, PyData.depth, T.depth]
  | .node l r => by simp [T.py, PyData.depth, PyData.depthAll, T.depth, T.py_depth l, T.py_depth r]
theorem T.pyS {t : T} (h : t.Ok) (hd : t.depth ≤ 64) : t.d.pyS = some t.py := by
  simp [D.pyS, T.dpy, SeqAt.shaped, T.py_lay t h, T.py_depth, hd]
theorem T.eqv : ∀ t u : T, PyData.eqv t.py u.py = true ↔ t = u
  | .leaf w, .leaf v => by simp [T.py, PyData.eqv]
  | .leaf w, .node l r => by simp [T.py, PyData.eqv]
  | .node l r, .leaf w => by simp [T.py, PyData.eqv]
  | .node a b, .node c d => by simp [T.py, PyData.eqv, PyData.eqvAll, T.eqv a c, T.eqv b d]
@[simp] theorem isi_T_str (t : T) (S : Store) : biIsi [.v t.d, .v (.ty "str")] S = .ok (.v (.bl (match t with | .leaf _ => true | _ => false))) S := by
  cases t <;> simp [T.d]
@[simp] theorem isi_T_tup (t : T) (S : Store) : biIsi [.v t.d, .v (.ty "tuple")] S = .ok (.v (.bl (match t with | .node _ _ => true | _ => false))) S := by
  cases t <;> simp [T.d]
def strOkB (x : Str) : Bool := x.cps.all (· < 0x110000)
theorem pys_ints : ∀ ns : List Int, D.pys (ns.map D.int) = some (ns.map PyData.int)
  | [] => rfl
  | n :: ns => by simp [D.pys, D.py, pys_ints ns]
theorem lay_ints : ∀ ns : List Int, PyData.canLayAll0 (ns.map PyData.int) = true ∧ PyData.depthAll (ns.map PyData.int) = 0
  | [] => ⟨by simp [PyData.canLayAll0], by simp [PyData.depthAll]⟩
  | n :: ns => by
    obtain ⟨h1, h2⟩ := lay_ints ns
    exact ⟨by simp [PyData.canLayAll0, PyData.canLay0, h1], by simp [PyData.depthAll, PyData.depth, h2]⟩
theorem pyS_kints (ns : List Int) : D.pyS (.kl (ns.map D.int)) = some (.list (ns.map PyData.int)) := by
  obtain ⟨h1, h2⟩ := lay_ints ns
  simp [D.pyS, D.py, pys_ints, SeqAt.shaped, PyData.canLay0, PyData.depth, h1, h2]
theorem pyS_lnil : D.pyS (.lst []) = some (.list []) := by
  simp [D.pyS, D.py, D.pys, SeqAt.shaped, PyData.canLay0, PyData.canLayAll0, PyData.depth, PyData.depthAll]
@[simp] theorem opNe_kints_nil {S : Store} (ns : List Int) : opNe (.v (.kl (ns.map D.int))) (.v (.lst [])) S = .ok (.v (.bl (!ns.isEmpty))) S := by
  rw [opNe_py (pyS_kints ns) pyS_lnil]
  cases ns <;> simp [PyData.eqv, PyData.eqvAll]
theorem cutD_take {α : Type} (xs : List α) {k : Int} (h : 0 ≤ k) : cutD xs none (some k) = xs.take k.toNat := by
  unfold cutD
  rw [show HT.sIx xs.length 0 none = 0 from rfl, show HT.sIx xs.length xs.length (some k) = min k.toNat xs.length by unfold HT.sIx; simp only; rw [if_neg (by omega)]]
  rw [List.drop_zero, Nat.sub_zero]
  rcases Nat.le_total k.toNat xs.length with h | h
  · rw [Nat.min_eq_left h]
  · rw [Nat.min_eq_right h, List.take_of_length_le (Nat.le_refl _), List.take_of_length_le h]
theorem cutD_drop {α : Type} (xs : List α) {k : Int} (h : 0 ≤ k) : cutD xs (some k) none = xs.drop k.toNat := by
  unfold cutD
  rw [show HT.sIx xs.length xs.length none = xs.length from rfl, show HT.sIx xs.length 0 (some k) = min k.toNat xs.length by unfold HT.sIx; simp only; rw [if_neg (by omega)]]
  rcases Nat.le_total k.toNat xs.length with h | h
  · rw [Nat.min_eq_left h, List.take_of_length_le (by rw [List.length_drop]; exact Nat.le_refl _)]
  · rw [Nat.min_eq_right h, Nat.sub_self, List.take_zero, List.drop_of_length_le h]
theorem cutD_map {α β : Type} (f : α → β) (xs : List α) (lo hi : Option Int) : cutD (xs.map f) lo hi = (cutD xs lo hi).map f := by
  unfold cutD; simp
theorem opSl_kl {S : Store} (ds : List D) (lo hi : Option Int) : opSl (.v (.kl ds)) lo hi S = .ok (.ref S.length) (S ++ [.lst ((cutD ds lo hi).map .v)]) := by
  simp [opSl, lstOf, cutD_map]
@[simp] theorem opSl_tup {S : Store} (ds : List D) (lo hi : Option Int) : opSl (.v (.tup ds)) lo hi S = .ok (.v (.tup (cutD ds lo hi))) S := rfl
theorem rangeD_get {lo : Int} {n i : Nat} {d : R} (h : (rangeD lo n)[i]? = some d) : i < n ∧ d = .v (.int (lo + (i : Int))) := by
  have hi : i < n := by
    have := (List.getElem?_eq_some_iff.mp h).1
    simpa [rangeD] using this
  unfold rangeD at h
  rw [List.getElem?_map, List.getElem?_range hi] at h
  exact ⟨hi, by simpa using h.symm⟩
@[simp] theorem rangeD_len (lo : Int) (n : Nat) : (rangeD lo n).length = n := by simp [rangeD]
end M
namespace M
open PySem PySem.Spec L2
open PyProof.Rows hiding St
def SqS (K : PySem.W.Frag) (H : Hp) (k : Bool) (a : Addr) (xs : List V) : Prop := match k with
  | true => SqT K H a xs
  | false => SqL K H a xs
def valsOf : List R → Option (List D)
  | [] => some []
  | .v d :: r => (valsOf r).map (d :: ·)
  | _ => none
theorem valsOf_map : ∀ ds : List D, valsOf (ds.map .v) = some ds
  | [] => rfl
  | d :: ds => by simp [valsOf, valsOf_map ds]
theorem valsOf_eq : ∀ {rs : List R} {ds : List D}, valsOf rs = some ds → rs = ds.map .v
  | [], ds, h => by cases h; rfl
  | .v d :: r, ds, h => by
    obtain ⟨es, h1, h2⟩ := Option.map_eq_some_iff.mp (show (valsOf r).map (d :: ·) = some ds from h)
    subst h2
    rw [valsOf_eq h1]; rfl
  | .ref n :: r, ds, h => by cases h
/-- the items by value, and what must stand meanwhile -/
def seqP (S : Store) : R → Option (List D × List (Nat × MO))
  | .v (.tup ds) => some (ds, [])
  | .v (.lst ds) => some (ds, [])
  | .v (.kl ds) => some (ds, [])
  | .v (.kt ds) => some (ds, [])
  | .v _ => none
  | .ref n => match S[n]? with
    | some (.lst rs) => (valsOf rs).map fun ds => (ds, [(n, .lst rs)])
    | some (.fz (.lst ds)) => some (ds, [])
    | _ => none
section
variable {X : Cx} {E : St → XK} {a b e : Expr} {mr : MA} {K : PySem.W.Frag} {H : Hp} {ρ : Wd} {S : Store} {pos : Pos}
def SeqNow (K : PySem.W.Frag) (H : Hp) (ρ : Wd) (pins : List (Nat × MO)) (k : Bool) (a : Addr) (ds : List D) : Prop :=
  ∀ H2 ρ2 S2, Mo K H ρ H2 ρ2 → SR K H2 ρ2 S2 → pinsOk pins S2 → ∃ xs, SqS K H2 k a xs ∧ RpA K H2 ρ2 xs ds
theorem SeqNow.app {q : List (Nat × MO)} {k : Bool} {a : Addr} {ds : List D} : ∀ {p : List (Nat × MO)}, SeqNow K H ρ p k a ds → SeqNow K H ρ (p ++ q) k a ds ∧ SeqNow K H ρ (q ++ p) k a ds := by
  intro p h
  have l : ∀ (p q : List (Nat × MO)) (S : Store), pinsOk (p ++ q) S → pinsOk p S ∧ pinsOk q S := by
    intro p
    induction p with
    | nil => intro q S h; exact ⟨trivial, h⟩
    | cons x p ih => intro q S h; exact ⟨⟨h.1, (ih q S h.2).1⟩, (ih q S h.2).2⟩
  exact ⟨fun H2 ρ2 S2 mo s pk => h H2 ρ2 S2 mo s (l _ _ _ pk).1, fun H2 ρ2 S2 mo s pk => h H2 ρ2 S2 mo s (l _ _ _ pk).2⟩
def enumI (ds : List D) : List R := ds.zipIdx.map fun p => .v (.tup [.int (p.2 : Int), p.1])
def zipI (ds es : List D) : List R := (ds.zip es).map fun p => .v (.tup [p.1, p.2])
@[simp] theorem enumI_len (ds : List D) : (enumI ds).length = ds.length := by simp [enumI]
@[simp] theorem zipI_len (ds es : List D) : (zipI ds es).length = min ds.length es.length := by simp [zipI]
def en1 (ds : List R) (S : Store) : Out Src := match ds with
  | [d] => match seqP S d with
    | some p => .ok ⟨enumI p.1, p.2⟩ S
    | none => .no
  | _ => .no
def srcEnum (r : MA) : MI := fun m S => (r m S).bind en1
def zp2 (ds : List R) (S : Store) : Out Src := match ds with
  | [d, e] => match seqP S d, seqP S e with
    | some p, some q => .ok ⟨zipI p.1 q.1, p.2 ++ q.2⟩ S
    | _, _ => .no
  | _ => .no
def srcZip (r : MA) : MI := fun m S => (r m S).bind zp2
end
section
variable {S : Store} {r : MA} {m : Env}
@[simp] theorem srcEnum_eq : srcEnum r m S = (r m S).bind en1 := id rfl
@[simp] theorem srcZip_eq : srcZip r m S = (r m S).bind zp2 := id rfl
@[simp] theorem en1_tup (ds : List D) : en1 [.v (.tup ds)] S = .ok ⟨enumI ds, []⟩ S := id rfl
@[simp] theorem en1_lst (ds : List D) : en1 [.v (.lst ds)] S = .ok ⟨enumI ds, []⟩ S := id rfl
@[simp] theorem zp2_tt (ds es : List D) : zp2 [.v (.tup ds), .v (.tup es)] S = .ok ⟨zipI ds es, []⟩ S := id rfl
@[simp] theorem zp2_tl (ds es : List D) : zp2 [.v (.tup ds), .v (.lst es)] S = .ok ⟨zipI ds es, []⟩ S := id rfl
@[simp] theorem zp2_lt (ds es : List D) : zp2 [.v (.lst ds), .v (.tup es)] S = .ok ⟨zipI ds es, []⟩ S := id rfl
@[simp] theorem zp2_ll (ds es : List D) : zp2 [.v (.lst ds), .v (.lst es)] S = .ok ⟨zipI ds es, []⟩ S := id rfl
end
end M
namespace L2
open PySem PySem.Spec
theorem Room.units65 {k : Nat} {A : Around} (r : Room k A) : A.units + 65 < cLine := by have := r.un; omega
end L2
namespace M
open PySem PySem.Spec L2
open PyProof.Rows hiding St
def mtExt (d : R) (ds : List R) (S : Store) : Out R := if ds.all notKl = true then mtExtend d ds S else .no
theorem mtm_ext {X : Cx} : MtMm X "list.extend" mtExt := mtm_extend
section
variable {S : Store}
theorem opIn_sign (c : Nat) (z : Str) : opIn (.v (.str ⟨#[c]⟩)) (.v (.str z)) S = .ok (.v (.bl (decide (c ∈ z.cps.toList)))) S := by
  unfold opIn inM signOf
  simp
theorem mtExt_ref {n : Nat} {xs zs : List R} {y : R} (h : S[n]? = some (.lst xs)) (hy : lstOf S y = some zs) (hk : notKl y = true) (hz : xs.length + zs.length ≤ sizeLine) : mtExt (.ref n) [y] S = .ok (.v .non) (S.set n (.lst (xs ++ zs))) := by
  unfold mtExt mtExtend
  simp [hk, h, hy, hz]
/-- isinstance of data -/
def isStr : D → Bool
  | .str _ => true
  | .txt => true
  | _ => false
def isTup : D → Bool
  | .tup _ => true
  | _ => false
def notTy : D → Bool
  | .ty _ => false
  | .txt => false
  | .kt _ => false
  | _ => true
end
end M
namespace M
open PySem PySem.Spec L2
open PyProof.Rows hiding St
variable {K : PySem.W.Frag} {H H' : Hp} {ρ ρ' : Wd} {S : Store}
def keyOf : R → Option Key
  | .v (.int i) => some (.inl i)
  | .v (.str x) => some (.inr x)
  | _ => none
theorem keyOf_kV {v : V} {d : R} {k : Key} (r : Rq K H ρ v d) (h : keyOf d = some k) : v = kV k := by
  cases r with
  | v r => cases r <;> first | (cases h; rfl) | cases h
  | ref e => cases h
def keysOf : List (R × R) → Option (List (Key × R))
  | [] => some []
  | p :: ps => match keyOf p.1, keysOf ps with
    | some k, some r => some ((k, p.2) :: r)
    | _, _ => none
/-- in its place, or at the end -/
def putR (kvs : List (Key × R)) (k : Key) (v : R) : List (Key × R) :=
  if (kvs.any fun kv => decide (kv.1 = k)) = true then kvs.map (fun kv => if kv.1 = k then (kv.1, v) else kv) else kvs ++ [(k, v)]
def valR (kvs : List (Key × R)) (k : Key) : Option R := (kvs.find? fun kv => decide (kv.1 = k)).map (·.2)
def mergeR (kvs more : List (Key × R)) : List (Key × R) := more.foldl (fun acc kv => putR acc kv.1 kv.2) kvs
theorem RpP.any {vs : List (Key × V)} {ds : List (Key × R)} (h : RpP K H ρ vs ds) (k : Key) : (vs.any fun kv => decide (kv.1 = k)) = ds.any fun kv => decide (kv.1 = k) := by
  unfold RpP at h
  induction h with
  | nil => rfl
  | cons h1 h2 ih => rw [List.any_cons, List.any_cons, ih, h1.1]
theorem RpP.append {vs ws : List (Key × V)} {ds es : List (Key × R)} (h : RpP K H ρ vs ds) (k : RpP K H ρ ws es) : RpP K H ρ (vs ++ ws) (ds ++ es) := by
  unfold RpP at h
  induction h with
  | nil => exact k
  | cons h1 h2 ih => exact .cons h1 ih
theorem RpP.repl {vs : List (Key × V)} {ds : List (Key × R)} (h : RpP K H ρ vs ds) (k : Key) {v : V} {d : R} (r : Rq K H ρ v d) : RpP K H ρ (vs.map fun kv => if kv.1 = k then (kv.1, v) else kv) (ds.map fun kv => if kv.1 = k then (kv.1, d) else kv) := by
  unfold RpP at h
  induction h with
  | nil => exact .nil
  | @cons p q ps qs h1 h2 ih =>
    refine .cons ?_ ih
    by_cases hk : p.1 = k
    · have hk' : q.1 = k := by rw [← h1.1]; exact hk
      simp only [if_pos hk, if_pos hk']
      exact ⟨h1.1, r⟩
    · have hk' : ¬ q.1 = k := by rw [← h1.1]; exact hk
      simp only [if_neg hk, if_neg hk']
      exact h1
theorem RpP.put {vs : List (Key × V)} {ds : List (Key × R)} (h : RpP K H ρ vs ds) (k : Key) {v : V} {d : R} (r : Rq K H ρ v d) : RpP K H ρ (putK vs k v) (putR ds k d) := by
  unfold putK putR
  rw [h.any k]
  split
  · exact h.repl k r
  · exact h.append (.cons ⟨rfl, r⟩ .nil)
theorem RpP.val {vs : List (Key × V)} {ds : List (Key × R)} (h : RpP K H ρ vs ds) (k : Key) : (valV vs k = none ∧ valR ds k = none) ∨ ∃ v d, valV vs k = some v ∧ valR ds k = some d ∧ Rq K H ρ v d := by
  unfold RpP at h
  induction h with
  | nil => exact .inl ⟨rfl, rfl⟩
  | @cons p q ps qs h1 h2 ih =>
    by_cases hk : p.1 = k
    · have hk' : q.1 = k := by rw [← h1.1]; exact hk
      refine .inr ⟨p.2, q.2, valV_pos hk, ?_, h1.2⟩
      simp [valR, List.find?_cons, hk']
    · have hk' : ¬ q.1 = k := by rw [← h1.1]; exact hk
      rw [valV_neg hk]
      have : valR (q :: qs) k = valR qs k := by simp [valR, List.find?_cons, hk']
      rw [this]
      exact ih
theorem RpP.merge {ws : List (Key × V)} {es : List (Key × R)} (g : RpP K H ρ ws es) : ∀ {vs : List (Key × V)} {ds : List (Key × R)}, RpP K H ρ vs ds → RpP K H ρ (mergeK vs ws) (mergeR ds es) := by
  unfold RpP at g
  induction g with
  | nil => exact fun h => h
  | @cons p q ps qs h1 h2 ih =>
    intro vs ds h
    have := RpP.put h p.1 h1.2
    rw [show putR ds p.1 q.2 = putR ds q.1 q.2 by rw [h1.1]] at this
    exact ih this
/-- a cell that is a dict -/
theorem SR.dK {n : Nat} {a : Addr} {ds : List (Key × R)} (sr : SR K H ρ S) (e : ρ.r[n]? = some a) (h : S[n]? = some (.dK ds)) : ∃ xs, H a = some (.dK xs) ∧ RpP K H ρ xs ds ∧ ¬ ρ.z a := by
  obtain ⟨xs, hu, r⟩ := sr.obj n a _ e h
  exact ⟨xs, hu, r, sr.lv n a _ e h trivial⟩
def mDct0 : ME := fun _ S => .ok (.ref S.length) (S ++ [.dK []])
def relPs (K : PySem.W.Frag) : Hp → Wd → List (V × V) → List (R × R) → Prop := fun H ρ => Paired fun p q => Rq K H ρ p.1 q.1 ∧ Rq K H ρ p.2 q.2
theorem relPs.keys : ∀ {ps : List (V × V)} {qs : List (R × R)} {kds : List (Key × R)}, relPs K H ρ ps qs → keysOf qs = some kds → ∃ kvs : List (Key × V), ps = kvs.map (fun kv => (kV kv.1, kv.2)) ∧ RpP K H ρ kvs kds
  | _, [], kds, h, e => by
    cases h
    cases e
    exact ⟨[], rfl, .nil⟩
  | _, q :: qs, kds, h, e => by
    cases h with
    | @cons p _ ps _ h1 h2 =>
      unfold keysOf at e
      split at e
      · rename_i k r hk hr
        cases e
        obtain ⟨kvs, rfl, h3⟩ := relPs.keys h2 hr
        have := keyOf_kV h1.1 hk
        exact ⟨(k, p.2) :: kvs, by rw [List.map_cons, ← this], .cons ⟨rfl, h1.2⟩ h3⟩
      · cases e
def getC (x y : R) (S : Store) : Option R := match x with
  | .ref n => match S[n]? with
    | some (.lst ds) => match y with
      | .v (.int i) => atI ds i
      | _ => none
    | some (.dK kvs) => (keyOf y).bind fun k => valR kvs k
    | _ => none
  | _ => none
def setC (x y d : R) (S : Store) : Option Store := match x with
  | .ref n => match S[n]? with
    | some (.lst ds) => match y with
      | .v (.int i) => match ixN ds.length i with
        | some j => some (S.set n (.lst (ds.set j d)))
        | none => none
      | _ => none
    | some (.dK kvs) => (keyOf y).bind fun k => if kvs.length < sizeLine then some (S.set n (.dK (putR kvs k d))) else none
    | _ => none
  | _ => none
section
variable {X : Cx}
def mAugIx (f o i : ME) (g : R → R → Store → Out R) : MS := fun m S => (o m S).thenS m fun x S1 => (i m S1).thenS m fun y S2 => match getC x y S2 with
  | some old => (f m S2).thenS m fun d S3 => (g old d S3).thenS m fun z S4 => match setC x y z S4 with
    | some S5 => .nx m S5
    | none => .no
  | none => .no
end
def dkOf (S : Store) : R → Option (List (Key × R))
  | .v (.dct ks ds) => some (ks.zip (ds.map .v))
  | .ref n => match S[n]? with
    | some (.dK kvs) => some kvs
    | _ => none
  | _ => none
theorem RpP.zip : ∀ {ks : List Key} {xs : List V} {ds : List R}, RqA K H ρ xs ds → RpP K H ρ (ks.zip xs) (ks.zip ds)
  | [], _, _, _ => .nil
  | _ :: _, _, _, .nil => .nil
  | _ :: _, _, _, .cons h1 h2 => .cons ⟨rfl, h1⟩ (RpP.zip h2)
end M
namespace M
open PySem PySem.Spec L2
open PyProof.Rows hiding St
def isort (ns : List Int) : List Int := ns.mergeSort fun a b => decide (a ≤ b)
end M
namespace M
open PySem PySem.Spec L2
open PyProof.Rows hiding St
variable {K : PySem.W.Frag} {H H' : Hp} {ρ ρ' : Wd} {S S' : Store}
structure ClsT (K : PySem.W.Frag) (c : Str) (C : Addr) : Prop where
  at_ : PySem.W.nsIn K mainGlobals c = some (some (.ref C))
  cl : Cls K C
def putR' (f : Str) (d : R) : List (Str × R) → List (Str × R)
  | [] => [(f, d)]
  | (g, x) :: r => if g = f then (g, d) :: r else (g, x) :: putR' f d r
def insOf (c : Str) (S : Store) : R → Option (List (Str × R))
  | .ref n => match S[n]? with
    | some (.ins c' fs) => if c' = c then some fs else none
    | _ => none
  | _ => none
theorem SR.ins {c : Str} {C : Addr} {v : V} {d : R} {gs : List (Str × R)} (T : ClsT K c C) (sr : SR K H ρ S) (r : Rq K H ρ v d) (h : insOf c S d = some gs) :
    ∃ n a dx fs, d = .ref n ∧ v = .ref a ∧ ρ.r[n]? = some a ∧ S[n]? = some (.ins c gs) ∧ H a = some (.ins C dx fs) ∧ RpP K H ρ fs gs ∧ ¬ ρ.z a := by
  cases r with
  | v r => cases h
  | @ref a n ea =>
    unfold insOf at h
    simp only at h
    split at h
    · rename_i c' fs hx
      split at h
      · rename_i hc
        cases h
        subst hc
        obtain ⟨C', dx, vs, h1, h2, h3⟩ := sr.obj n a _ ea hx
        have e : C' = C := by
          have := h1.symm.trans T.at_
          cases this
          rfl
        subst e
        exact ⟨n, a, dx, vs, rfl, rfl, ea, hx, h2, h3, sr.lv n a _ ea hx trivial⟩
      · cases h
    · cases h
def mFld (c f : Str) (a : ME) : ME := fun m S => (a m S).bind fun d S1 => match (insOf c S1 d).bind fun fs => fs.lookup f with
  | some r => .ok r S1
  | none => .no
def mSetFld (c f : Str) (o v : ME) : MS := fun m S => (v m S).thenS m fun d S1 => (o m S1).thenS m fun x S2 => match x, insOf c S2 x with
  | .ref n, some fs => if fs.length < 1000 then .nx m (S2.set n (.ins c (putR' f d fs))) else .no
  | _, _ => .no
def mAugFld (c f : Str) (o : ME) (g : R → R → Store → Out R) (v : ME) : MS := fun m S => (o m S).thenS m fun x S1 => match (insOf c S1 x).bind fun fs => fs.lookup f with
  | some old => (v m S1).thenS m fun d S2 => (g old d S2).thenS m fun z S3 => match x, insOf c S3 x with
    | .ref n, some fs => if fs.length < 1000 then .nx m (S3.set n (.ins c (putR' f z fs))) else .no
    | _, _ => .no
  | none => .no
def mMethC (c m' : Str) (g : List R → Store → Out R) (o : ME) (r : MA) : ME := fun m S => (o m S).bind fun x S1 => match insOf c S1 x with
  | some fs => match fs.lookup m' with
    | none => (r m S1).bind fun ds S2 => g (x :: ds) S2
    | some _ => .no
  | none => .no
def mMake (c : Str) (g : List R → Store → Out R) (r : MA) : ME := fun m S => (r m S).bind fun ds S1 => (g (.ref S1.length :: ds) (S1 ++ [.ins c []])).bind fun z S2 => match z with
  | .v .non => .ok (.ref S1.length) S2
  | _ => .no
section
variable {X : Cx} {E : St → XK} {a b o e value : Expr} {es : List Expr} {ma mb mo mv : ME} {mr : MA} {c f : Str} {C : Addr} {pos pos' apos tpos p : Pos}
/-- where arguments are handed on -/
theorem spM_in {n : Nat} {g : List R → Store → Out R} {vs : List V} {H : Hp} {Q : VK} {E : XK} {ρ : Wd} {S : Store} {ds : List R} (hn : ds.length = n) (sr : SR K H ρ S) (r : RqA K H ρ vs ds) (h : RO K (relD K) E H ρ (g ds S) Q) : spM K n g vs H Q E := ⟨by rw [r.length, hn], ρ, S, ds, sr, r, h⟩
theorem made {c : Str} {C x dx : Addr} {vs : List V} {ds : List R} {g : List R → Store → Out R} {n : Nat} {Q : VK} {E0 : XK} (T : ClsT K c C) (sr : SR K H ρ S) (r : RqA K H ρ vs ds) (hn : ds.length = n) (hx : H x = none) (hd : H dx = none) (hne : dx ≠ x)
    (h : RO K (relD K) E0 H ρ ((g (.ref S.length :: ds) (S ++ [.ins c []])).bind fun z S2 => match z with | .v .non => .ok (.ref S.length) S2 | _ => .no) Q) :
    spM K (n + 1) g (.ref x :: vs) (upd (upd H dx (.own x)) x (.ins C dx [])) (fun v H2 => v = .non ∧ Q (.ref x) H2) E0 := by
  have m1 : Mo K H ρ (upd H dx (.own x)) ρ := .new sr hd
  have s1 : SR K (upd H dx (.own x)) ρ S := sr.newT hd
  have hx1 : upd H dx (.own x) x = none := by rw [upd_ne (Ne.symm hne)]; exact hx
  have m2 : Mo K (upd H dx (.own x)) ρ (upd (upd H dx (.own x)) x (.ins C dx [])) ⟨ρ.r ++ [x], ρ.z⟩ := .newR s1 hx1
  have s2 : SR K (upd (upd H dx (.own x)) x (.ins C dx [])) ⟨ρ.r ++ [x], ρ.z⟩ (S ++ [.ins c []]) := s1.new hx1 ⟨C, dx, [], T.at_, upd_same, .nil⟩
  have hr : (ρ.r ++ [x])[S.length]? = some x := by rw [← sr.len, List.getElem?_append_right (Nat.le_refl _), Nat.sub_self]; rfl
  refine spM_in (by rw [List.length_cons, hn]) s2 (.cons (.ref hr) ((r.mo m1).mo m2)) (RO.bind (RO.mono (RO.mono h m1) m2) fun z S2 zv H2 ρ2 m3 s3 r3 h3 => ?_)
  split at h3
  · cases r3 with
    | v r3 => cases r3; exact ⟨rfl, h3 _ _ _ .refl s3 (.ref (m3.ref _ _ hr))⟩
  · exact h3.elim
end
def keyD : D → Option Key
  | .int i => some (.inl i)
  | .str x => some (.inr x)
  | _ => none
def keyDs : List D → Option (List Key)
  | [] => some []
  | d :: ds => match keyD d, keyDs ds with
    | some k, some ks => some (k :: ks)
    | _, _ => none
def keyT : R → Option (List Key)
  | .v (.tup ds) => keyDs ds
  | _ => none
def dKey : Key → D
  | .inl i => .int i
  | .inr x => .str x
def putT (kvs : List (List Key × R)) (k : List Key) (v : R) : List (List Key × R) :=
  if (kvs.any fun kv => decide (kv.1 = k)) = true then kvs.map (fun kv => if kv.1 = k then (kv.1, v) else kv) else kvs ++ [(k, v)]
def valT (kvs : List (List Key × R)) (k : List Key) : Option R := (kvs.find? fun kv => decide (kv.1 = k)).map (·.2)
section
variable {κ : Type} [DecidableEq κ]
theorem RpPk.any {vs : List (κ × V)} {ds : List (κ × R)} (h : RpP K H ρ vs ds) (k : κ) : (vs.any fun kv => decide (kv.1 = k)) = ds.any fun kv => decide (kv.1 = k) := by
  unfold RpP at h
  induction h with
  | nil => rfl
  | cons h1 h2 ih => rw [List.any_cons, List.any_cons, ih, h1.1]
theorem RpPk.append {vs ws : List (κ × V)} {ds es : List (κ × R)} (h : RpP K H ρ vs ds) (k : RpP K H ρ ws es) : RpP K H ρ (vs ++ ws) (ds ++ es) := by
  unfold RpP at h
  induction h with
  | nil => exact k
  | cons h1 h2 ih => exact .cons h1 ih
theorem RpPk.repl {vs : List (κ × V)} {ds : List (κ × R)} (h : RpP K H ρ vs ds) (k : κ) {v : V} {d : R} (r : Rq K H ρ v d) : RpP K H ρ (vs.map fun kv => if kv.1 = k then (kv.1, v) else kv) (ds.map fun kv => if kv.1 = k then (kv.1, d) else kv) := by
  unfold RpP at h
  induction h with
  | nil => exact .nil
  | @cons p q ps qs h1 h2 ih =>
    refine .cons ?_ ih
    by_cases hk : p.1 = k
    · have hk' : q.1 = k := by rw [← h1.1]; exact hk
      simp only [if_pos hk, if_pos hk']
      exact ⟨h1.1, r⟩
    · have hk' : ¬ q.1 = k := by rw [← h1.1]; exact hk
      simp only [if_neg hk, if_neg hk']
      exact h1
theorem RpPk.val {vs : List (κ × V)} {ds : List (κ × R)} (h : RpP K H ρ vs ds) (k : κ) : (valV vs k = none ∧ (ds.find? fun kv => decide (kv.1 = k)).map (·.2) = none) ∨ ∃ v d, valV vs k = some v ∧ (ds.find? fun kv => decide (kv.1 = k)).map (·.2) = some d ∧ Rq K H ρ v d := by
  unfold RpP at h
  induction h with
  | nil => exact .inl ⟨rfl, rfl⟩
  | @cons p q ps qs h1 h2 ih =>
    unfold valV at ih ⊢
    by_cases hk : p.1 = k
    · have hk' : q.1 = k := by rw [← h1.1]; exact hk
      refine .inr ⟨p.2, q.2, ?_, ?_, h1.2⟩
      · rw [List.find?_cons_of_pos (by simpa using hk)]; rfl
      · rw [List.find?_cons_of_pos (by simpa using hk')]; rfl
    · have hk' : ¬ q.1 = k := by rw [← h1.1]; exact hk
      rw [List.find?_cons_of_neg (by simpa using hk), List.find?_cons_of_neg (by simpa using hk')]
      exact ih
end
def mDctT0 : ME := fun _ S => .ok (.ref S.length) (S ++ [.dT []])
def mSetT (f o i : ME) : MS := fun m S => (f m S).thenS m fun d S1 => (o m S1).thenS m fun x S2 => (i m S2).thenS m fun y S3 => match x, keyT y with
  | .ref n, some k => match S3[n]? with
    | some (.dT kvs) => if kvs.length < sizeLine then .nx m (S3.set n (.dT (putT kvs k d))) else .no
    | _ => .no
  | _, _ => .no
def keysT (kvs : List (List Key × R)) : List R := kvs.map fun kv => .v (.tup (kv.1.map dKey))
def vOf : R → Option D
  | .v d => some d
  | .ref _ => none
def itemsT (kvs : List (List Key × R)) : Option (List R) := kvs.mapM fun kv => (vOf kv.2).map fun d => R.v (.tup [.tup (kv.1.map dKey), d])
def keysK (kvs : List (Key × R)) : List R := kvs.map fun kv => .v (dKey kv.1)
def lkD (S : Store) : R → Option MO
  | .ref n => S[n]?
  | _ => none
def srcKeys (a : ME) : MI := fun m S => (a m S).bind fun d S1 => match lkD S1 d with
  | some (.lkT kvs) => .ok ⟨keysT kvs, []⟩ S1
  | some (.lkK kvs) => .ok ⟨keysK kvs, []⟩ S1
  | _ => .no
def srcItemsT (a : ME) : MI := fun m S => (a m S).bind fun d S1 => match lkD S1 d with
  | some (.lkT kvs) => match itemsT kvs with
    | some xs => .ok ⟨xs, []⟩ S1
    | none => .no
  | _ => .no
theorem RpP.get {κ : Type} {vs : List (κ × V)} {ds : List (κ × R)} (h : RpP K H ρ vs ds) : ∀ {i : Nat} {p : κ × V}, vs[i]? = some p → ∃ d, ds[i]? = some (p.1, d) ∧ Rq K H ρ p.2 d := by
  unfold RpP at h
  induction h with
  | nil => intro i p e; simp at e
  | @cons a b as bs h1 h2 ih =>
    intro i p e
    cases i with
    | zero =>
      simp at e
      subst e
      exact ⟨b.2, by simp [h1.1], h1.2⟩
    | succ i => simpa using ih (by simpa using e)
end M
namespace M
open PySem PySem.Spec L2
open PyProof.Rows hiding St
variable {K : PySem.W.Frag} {H H' : Hp} {ρ ρ' : Wd} {S S' : Store}
section
variable {X : Cx}
theorem RpP.keys {κ : Type} {vs : List (κ × V)} {ds : List (κ × R)} (h : RpP K H ρ vs ds) : vs.map (·.1) = ds.map (·.1) := by
  unfold RpP at h
  induction h with
  | nil => rfl
  | cons h1 h2 ih => rw [List.map_cons, List.map_cons, ih, h1.1]
end
end M
namespace M
open PySem hiding Env
open L2
def wE {α : Type} (o : Out α) (K : Out α → Prop) : Prop := K o
def wS (o : OutS) (K : OutS → Prop) : Prop := K o
def wTg (o : Option Env) (P : Env → Prop) : Prop := match o with
  | some m => P m
  | none => False
def kB {α β : Type} (f : α → Store → Out β) (K : Out β → Prop) : Out α → Prop := fun o => K (o.bind f)
def kT {α : Type} (m : Env) (f : α → Store → OutS) (K : OutS → Prop) : Out α → Prop := fun o => K (o.thenS m f)
def kSeq (g : MS) (K : OutS → Prop) : OutS → Prop := fun o => K (match o with | .nx m S => g m S | o => o)
def kDef (K : Out R → Prop) : OutS → Prop := fun o => K (match o with | .rt d S' => .ok d S' | .nx _ S' => .ok .non S' | _ => .no)
def kTrim (S : Store) (K : OutS → Prop) : OutS → Prop := fun o => K (match o with | .nx m2 S2 => trim S m2 S2 .nx | .ct m2 S2 => trim S m2 S2 .ct | o => o)
section
variable {α β : Type} {m m' : Env} {S S' : Store}
theorem wE_ok (a : α) (K : Out α → Prop) : wE (.ok a S) K = K (.ok a S) := id rfl
theorem wE_bind (o : Out α) (f : α → Store → Out β) (K : Out β → Prop) : wE (o.bind f) K = wE o (kB f K) := id rfl
theorem kB_ok (f : α → Store → Out β) (K : Out β → Prop) (a : α) : kB f K (.ok a S) = wE (f a S) K := id rfl
theorem kB_exc (f : α → Store → Out β) (K : Out β → Prop) (c : Exc) : kB f K (.exc c S) = K (.exc c S) := id rfl
theorem wS_then (o : Out α) (f : α → Store → OutS) (K : OutS → Prop) : wS (o.thenS m f) K = wE o (kT m f K) := id rfl
theorem kT_ok (f : α → Store → OutS) (K : OutS → Prop) (a : α) : kT m f K (.ok a S) = wS (f a S) K := id rfl
theorem kT_exc (f : α → Store → OutS) (K : OutS → Prop) (c : Exc) : kT m f K (.exc c S) = K (.exc c m S) := id rfl
theorem wS_nx (K : OutS → Prop) : wS (.nx m S) K = K (.nx m S) := id rfl
theorem wS_ct (K : OutS → Prop) : wS (.ct m S) K = K (.ct m S) := id rfl
theorem wS_bk (K : OutS → Prop) : wS (.bk m S) K = K (.bk m S) := id rfl
theorem wS_rt (d : R) (K : OutS → Prop) : wS (.rt d S) K = K (.rt d S) := id rfl
theorem wS_exc (c : Exc) (K : OutS → Prop) : wS (.exc c m S) K = K (.exc c m S) := id rfl
theorem wS_seq (f g : MS) (K : OutS → Prop) : wS (mSeq f g m S) K = wS (f m S) (kSeq g K) := id rfl
theorem kSeq_nx (g : MS) (K : OutS → Prop) : kSeq g K (.nx m S) = wS (g m S) K := id rfl
theorem kSeq_ct (g : MS) (K : OutS → Prop) : kSeq g K (.ct m S) = K (.ct m S) := id rfl
theorem kSeq_bk (g : MS) (K : OutS → Prop) : kSeq g K (.bk m S) = K (.bk m S) := id rfl
theorem kSeq_rt (g : MS) (K : OutS → Prop) (d : R) : kSeq g K (.rt d S) = K (.rt d S) := id rfl
theorem kSeq_exc (g : MS) (K : OutS → Prop) (c : Exc) : kSeq g K (.exc c m S) = K (.exc c m S) := id rfl
theorem wE_def (N : Nat) (f : MS) (ds : List R) (K : Out R → Prop) : wE (mDef N f ds S) K = wS (f (ds.map some ++ List.replicate (N - ds.length) none) S) (kDef K) := id rfl
theorem wE_defV (N : Nat) (f : MS) (ds : List R) (K : Out R → Prop) : wE (mDefV N f ds S) K = wS (f (ds.map some ++ List.replicate (N - ds.length) none) S) (kDef (kB (popV S) K)) := id rfl
theorem kDef_rt (K : Out R → Prop) (d : R) : kDef K (.rt d S) = K (.ok d S) := id rfl
theorem kDef_nx (K : Out R → Prop) : kDef K (.nx m S) = K (.ok (.v .non) S) := id rfl
theorem wS_trim (f : MS) (K : OutS → Prop) : wS (mTrim f m S) K = wS (f m S) (kTrim S K) := id rfl
theorem kTrim_nx (K : OutS → Prop) : kTrim S K (.nx m S') = wS (trim S m S' .nx) K := id rfl
theorem kTrim_ct (K : OutS → Prop) : kTrim S K (.ct m S') = wS (trim S m S' .ct) K := id rfl
theorem kTrim_bk (K : OutS → Prop) : kTrim S K (.bk m S') = K (.bk m S') := id rfl
theorem kTrim_rt (K : OutS → Prop) (d : R) : kTrim S K (.rt d S') = K (.rt d S') := id rfl
theorem wTg_some (P : Env → Prop) : wTg (some m) P = P m := id rfl
theorem wE_eq {o o' : Out α} {K : Out α → Prop} (h : o = o') (k : K o') : wE o K := h ▸ k
theorem eq_wE {o o' : Out α} (h : wE o fun x => x = o') : o = o' := h
/-- ends by value, and Q -/
def Ends (Q : D → Store → Prop) : Out R → Prop
  | .ok (.v d) S => Q d S
  | _ => False
end
def setAll : Env → List Nat → List (Option R) → Env
  | m, i :: vs, x :: xs => setAll (m.set i x) vs xs
  | m, _, _ => m
def getAll (m : Env) (vs : List Nat) : List (Option R) := vs.map fun i => (m[i]?).getD none
theorem setAll_nil (m : Env) (xs : List (Option R)) : setAll m [] xs = m := by cases xs <;> rfl
theorem setAll_cons (m : Env) (i : Nat) (vs : List Nat) (x : Option R) (xs : List (Option R)) : setAll m (i :: vs) (x :: xs) = setAll (m.set i x) vs xs := id rfl
theorem getAll_nil (m : Env) : getAll m [] = [] := id rfl
theorem getAll_cons (m : Env) (i : Nat) (vs : List Nat) : getAll m (i :: vs) = (m[i]?).getD none :: getAll m vs := id rfl
/-- behind a turn: the frame but for vs as ahead, J of these -/
def kTurn (m : Env) (vs : List Nat) (J : List (Option R) → Store → Prop) (K : OutS → Prop) : OutS → Prop
  | .nx m2 S2 => setAll m vs (getAll m2 vs) = m2 ∧ J (getAll m2 vs) S2
  | .ct m2 S2 => setAll m vs (getAll m2 vs) = m2 ∧ J (getAll m2 vs) S2
  | .bk m2 S2 => K (.nx m2 S2)
  | .rt d S2 => K (.rt d S2)
  | .exc c m2 S2 => K (.exc c m2 S2)
  | .no => False
section
variable {m : Env} {vs : List Nat} {J : List (Option R) → Store → Prop} {K : OutS → Prop} {m2 : Env} {S2 S : Store}
theorem kTurn_nx : kTurn m vs J K (.nx m2 S2) = (setAll m vs (getAll m2 vs) = m2 ∧ J (getAll m2 vs) S2) := id rfl
theorem kTurn_ct : kTurn m vs J K (.ct m2 S2) = (setAll m vs (getAll m2 vs) = m2 ∧ J (getAll m2 vs) S2) := id rfl
theorem kTurn_bk : kTurn m vs J K (.bk m2 S2) = K (.nx m2 S2) := id rfl
theorem kTurn_rt (d : R) : kTurn m vs J K (.rt d S2) = K (.rt d S2) := id rfl
theorem kTurn_exc (c : Exc) : kTurn m vs J K (.exc c m2 S2) = K (.exc c m2 S2) := id rfl
/-- a for: I of the turn, the changed names, the store -/
theorem forP_wp {pins : List (Nat × MO)} {t : TgM} {body : MS} {ds : List R} (vs : List Nat) (I : Nat → List (Option R) → Store → Prop) (h0 : setAll m vs (getAll m vs) = m) (h : I 0 (getAll m vs) S)
    (hp : ∀ i ws S, I i ws S → pinsOk pins S)
    (hs : ∀ i d ws S, ds[i]? = some d → I i ws S → wTg (t d (setAll m vs ws)) fun m1 => wS (body m1 S) (kTurn m vs (I (i + 1)) K))
    (he : ∀ ws S, I ds.length ws S → K (.nx (setAll m vs ws) S)) : wS (mForGo pins t body ds m S) K := by
  have key : ∀ (ds : List R) (j : Nat) (ws : List (Option R)) (S : Store), I j ws S →
      (∀ i d ws S, ds[i]? = some d → I (j + i) ws S → wTg (t d (setAll m vs ws)) fun m1 => wS (body m1 S) (kTurn m vs (I (j + i + 1)) K)) →
      (∀ ws S, I (j + ds.length) ws S → K (.nx (setAll m vs ws) S)) → K (mForGo pins t body ds (setAll m vs ws) S) := by
    intro ds
    induction ds with
    | nil =>
      intro j ws S h _ he
      unfold mForGo
      rw [if_pos (hp j ws S h)]
      exact he ws S h
    | cons d ds ih =>
      intro j ws S h hs he
      have h1 := hs 0 d ws S rfl h
      unfold mForGo
      rw [if_pos (hp j ws S h)]
      cases et : t d (setAll m vs ws) with
      | none => rw [et] at h1; exact h1.elim
      | some m1 =>
        rw [et] at h1
        have h1 : kTurn m vs (I (j + 1)) K (body m1 S) := h1
        simp only
        have next : ∀ ws2 S2, I (j + 1) ws2 S2 → K (mForGo pins t body ds (setAll m vs ws2) S2) := fun ws2 S2 h2 => by
          refine ih (j + 1) ws2 S2 h2 (fun i d ws S hi hI => ?_) fun ws S h3 => ?_
          · have := hs (i + 1) d ws S hi (by rw [show j + (i + 1) = j + 1 + i by omega]; exact hI)
            rwa [show j + (i + 1) = j + 1 + i by omega] at this
          · exact he ws S (by rw [List.length_cons, show j + (ds.length + 1) = j + 1 + ds.length by omega]; exact h3)
        cases eb : body m1 S with
        | nx m2 S2 => rw [eb] at h1; have := next _ S2 h1.2; rw [h1.1] at this; exact this
        | ct m2 S2 => rw [eb] at h1; have := next _ S2 h1.2; rw [h1.1] at this; exact this
        | bk m2 S2 => rw [eb] at h1; exact h1
        | rt d S2 => rw [eb] at h1; exact h1
        | exc c m2 S2 => rw [eb] at h1; exact h1
        | no => rw [eb] at h1; exact h1.elim
  have := key ds 0 _ S h (fun i d ws S hi hI => by
    have := hs i d ws S hi (by simpa using hI)
    simpa using this) fun ws S h3 => he ws S (by simpa using h3)
  rw [h0] at this
  exact this
theorem for_wp {t : TgM} {body : MS} {ds : List R} (vs : List Nat) (I : Nat → List (Option R) → Store → Prop) (h0 : setAll m vs (getAll m vs) = m) (h : I 0 (getAll m vs) S)
    (hs : ∀ i d ws S, ds[i]? = some d → I i ws S → wTg (t d (setAll m vs ws)) fun m1 => wS (body m1 S) (kTurn m vs (I (i + 1)) K))
    (he : ∀ ws S, I ds.length ws S → K (.nx (setAll m vs ws) S)) : wS (mForGo [] t body ds m S) K :=
  forP_wp vs I h0 h (fun _ _ _ _ => trivial) hs he
/-- a while: I of a number that falls; behind a false test P of names and store -/
theorem while_wp {t : MT} {body : MS} (vs : List Nat) (n : Nat) (I : Nat → List (Option R) → Store → Prop) (hn : n < 1000000) (h0 : setAll m vs (getAll m vs) = m) (h : I n (getAll m vs) S)
    (hs : ∀ j ws S, I j ws S → wE (t (setAll m vs ws) S) fun o => ∃ S1 b, o = .ok b S1 ∧ match b with
      | false => K (.nx (setAll m vs ws) S1)
      | true => wS (body (setAll m vs ws) S1) (kTurn m vs (fun ws2 S2 => ∃ j', j' < j ∧ I j' ws2 S2) K)) : wS (mWhile t body m S) K := by
  have key : ∀ (k j : Nat) (ws : List (Option R)) (S : Store), j < k → I j ws S → K (mWhileGo t body k (setAll m vs ws) S) := by
    intro k
    induction k with
    | zero => intro j _ _ h; omega
    | succ k ih =>
      intro j ws S hj hI
      obtain ⟨S1, b, e1, h1⟩ := hs j ws S hI
      unfold mWhileGo
      rw [e1, thenS_ok]
      cases b with
      | false => exact h1
      | true =>
        have h1 : kTurn m vs (fun ws2 S2 => ∃ j', j' < j ∧ I j' ws2 S2) K (body (setAll m vs ws) S1) := h1
        simp only
        cases eb : body (setAll m vs ws) S1 with
        | nx m2 S2 => rw [eb] at h1; obtain ⟨q, j', hl, h2⟩ := h1; have := ih j' _ S2 (by omega) h2; rw [q] at this; exact this
        | ct m2 S2 => rw [eb] at h1; obtain ⟨q, j', hl, h2⟩ := h1; have := ih j' _ S2 (by omega) h2; rw [q] at this; exact this
        | bk m2 S2 => rw [eb] at h1; exact h1
        | rt d S2 => rw [eb] at h1; exact h1
        | exc c m2 S2 => rw [eb] at h1; exact h1
        | no => rw [eb] at h1; exact h1.elim
  have := key turns n _ S (by unfold turns; omega) h
  rw [h0] at this
  exact this
end
section
variable {pins : List (Nat × MO)} {t : TgM} {c : MT} {f : ME} {m : Env} {S S0 : Store} {K : Out R → Prop} {ds : List R}
/-- by value, the turns leave the store: p a test, g the elements -/
theorem lcP_wp {α : Type} (xs : List α) (r : α → R) (p : α → Bool) (g : α → D) (hd : ds = xs.map r) (hp : ∀ acc, pinsOk pins (S ++ [.lst acc])) (hu : Upd S0 S) (hz : xs.length ≤ sizeLine)
    (hs : ∀ x ∈ xs, ∀ acc, wTg (t (r x) m) fun m1 => c m1 (S ++ [.lst acc]) = .ok (p x) (S ++ [.lst acc]) ∧ (p x = true → wE (f m1 (S ++ [.lst acc])) fun o => o = .ok (.v (g x)) (S ++ [.lst acc])))
    (k : K (.ok (.v (.lst ((xs.filter p).map g))) S)) : wE (mLcGo pins t c f S.length m ds (S ++ [.lst []])) (kB (fun r S' => popV S0 r S') K) := by
  subst hd
  have key : ∀ (xs ys : List α), ys.length + xs.length ≤ sizeLine → (∀ x ∈ xs, ∀ acc, wTg (t (r x) m) fun m1 => c m1 (S ++ [.lst acc]) = .ok (p x) (S ++ [.lst acc]) ∧ (p x = true → wE (f m1 (S ++ [.lst acc])) fun o => o = .ok (.v (g x)) (S ++ [.lst acc]))) →
      mLcGo pins t c f S.length m (xs.map r) (S ++ [.lst ((ys.map g).map .v)]) = .ok (.ref S.length) (S ++ [.lst (((ys ++ xs.filter p).map g).map .v)]) := by
    intro xs
    induction xs with
    | nil => intro ys _ _; rw [List.map_nil]; unfold mLcGo; rw [if_pos (hp _)]; simp
    | cons x xs ih =>
      intro ys hl hs
      have h1 := hs x (by simp) ((ys.map g).map .v)
      cases et : t (r x) m with
      | none => rw [et] at h1; exact h1.elim
      | some m1 =>
        rw [et] at h1
        obtain ⟨e2, e3⟩ := h1
        rw [List.map_cons]
        unfold mLcGo
        rw [if_pos (hp _), et]
        simp only [e2, Out.calm_ok, Out.bind_ok]
        rw [List.length_cons] at hl
        cases hpx : p x with
        | false =>
          simp only
          rw [ih ys (by omega) fun x hx => hs x (by simp [hx]), List.filter_cons_of_neg (by simp [hpx])]
        | true =>
          have e3 : f m1 (S ++ [MO.lst ((ys.map g).map R.v)]) = _ := e3 hpx
          simp only [e3, Out.calm_ok, Out.bind_ok, get_len]
          rw [if_pos (by rw [List.length_map, List.length_map]; omega), set_len, List.filter_cons_of_pos hpx]
          have := ih (ys ++ [x]) (by rw [List.length_append]; simp; omega) fun x hx => hs x (by simp [hx])
          simp only [List.map_append, List.map_cons, List.map_nil, List.append_assoc, List.cons_append, List.nil_append] at this ⊢
          exact this
  have := key xs [] (by simpa using hz) hs
  simp only [List.map_nil, List.nil_append] at this
  unfold wE kB
  rw [this, Out.bind_ok, popV_newU _ hu]
  exact k
theorem lc_wp {α : Type} (xs : List α) (r : α → R) (p : α → Bool) (g : α → D) (hd : ds = xs.map r) (hu : Upd S0 S) (hz : xs.length ≤ sizeLine)
    (hs : ∀ x ∈ xs, ∀ acc, wTg (t (r x) m) fun m1 => c m1 (S ++ [.lst acc]) = .ok (p x) (S ++ [.lst acc]) ∧ (p x = true → wE (f m1 (S ++ [.lst acc])) fun o => o = .ok (.v (g x)) (S ++ [.lst acc])))
    (k : K (.ok (.v (.lst ((xs.filter p).map g))) S)) : wE (mLcGo [] t c f S.length m ds (S ++ [.lst []])) (kB (fun r S' => popV S0 r S') K) :=
  lcP_wp xs r p g hd (fun _ => trivial) hu hz hs k
/-- .. without a test -/
theorem lcT_wp {α : Type} (xs : List α) (r : α → R) (g : α → D) (hd : ds = xs.map r) (hu : Upd S0 S) (hz : xs.length ≤ sizeLine)
    (hs : ∀ x ∈ xs, ∀ acc, wTg (t (r x) m) fun m1 => wE (f m1 (S ++ [.lst acc])) fun o => o = .ok (.v (g x)) (S ++ [.lst acc]))
    (k : K (.ok (.v (.lst (xs.map g))) S)) : wE (mLcGo [] t mtYes f S.length m ds (S ++ [.lst []])) (kB (fun r S' => popV S0 r S') K) :=
  lc_wp xs r (fun _ => true) g hd hu hz (fun x hx acc => by
    have := hs x hx acc
    cases e : t (r x) m with
    | none => rw [e] at this; exact this.elim
    | some m1 => rw [e] at this; exact ⟨rfl, fun _ => this⟩) (by rw [List.filter_eq_self.mpr fun _ _ => rfl]; exact k)
/-- the turns change the store below the new list: P of the turn, the list so far, the store -/
theorem lcS_wp {α : Type} (xs : List α) (r : α → R) (P : Nat → List D → Store → Prop) (hd : ds = xs.map r) (hz : xs.length ≤ sizeLine) (h0 : P 0 [] S) (hu : ∀ i ys T, P i ys T → Upd S0 T)
    (hs : ∀ i x ys T, xs[i]? = some x → P i ys T → wTg (t (r x) m) fun m1 => wE (f m1 (T ++ [.lst (ys.map .v)])) fun o => ∃ y T', o = .ok (.v y) (T' ++ [.lst (ys.map .v)]) ∧ P (i + 1) (ys ++ [y]) T')
    (k : ∀ ys T, P xs.length ys T → ys.length = xs.length → K (.ok (.v (.lst ys)) T)) : wE (mLcGo [] t mtYes f S.length m ds (S ++ [.lst []])) (kB (fun r S' => popV S0 r S') K) := by
  subst hd
  obtain ⟨ys, T, e, h1, h2⟩ := lc_st (t := t) (f := f) (m := m) (S0 := S0) (S := S) r xs P hz h0 hu fun i x ys T hx hp => by
    have := hs i x ys T hx hp
    cases et : t (r x) m with
    | none => rw [et] at this; exact this.elim
    | some m1 =>
      rw [et] at this
      obtain ⟨y, T', e, p⟩ := this
      exact ⟨m1, rfl, y, T', e, p⟩
  unfold wE kB
  rw [e]
  exact k ys T h1 h2
end
section
variable {S T : Store} {n w : Nat} {a b c o x : MO} {cs : Store}
theorem get_app' (h : S[n]? = some o) (cs : Store) : (S ++ cs)[n]? = some o := get_old h cs
theorem get_set' (h : S[n]? = some o) (x : MO) : (S.set n x)[n]? = some x := get_set h x
theorem get_setlt (h : n < S.length) (x : MO) : (S.set n x)[n]? = some x := by rw [List.getElem?_set_self h]
theorem get_L0 {k : Nat} (hl : S.length = k) (c : MO) (cs : Store) : (S ++ c :: cs)[k]? = some c := by subst hl; simp
theorem get_L1 {k : Nat} (hl : S.length = k) (b c : MO) (cs : Store) : (S ++ b :: c :: cs)[k + 1]? = some c := by subst hl; simp
theorem get_L2 {k : Nat} (hl : S.length = k) (a b c : MO) (cs : Store) : (S ++ a :: b :: c :: cs)[k + 2]? = some c := by subst hl; simp
theorem cut_U {S T : Store} (h : Upd S T) : cut S T = T := cut_upd h
end
section
variable {S S' : Store} {m : Env} {n : Nat} {c f : Str} {fs : List (Str × R)}
theorem insOf_get (h : S[n]? = some (.ins c fs)) : insOf c S (.ref n) = some fs := by unfold insOf; simp [h]
def fldR (c f : Str) (d : R) (S : Store) : Out R := match (insOf c S d).bind fun fs => fs.lookup f with
  | some r => .ok r S
  | none => .no
theorem mFld_run (c f : Str) (a : ME) : mFld c f a m S = (a m S).bind fun d S1 => fldR c f d S1 := id rfl
theorem fldR_get {r : R} (h : S[n]? = some (.ins c fs)) (hf : fs.lookup f = some r) : fldR c f (.ref n) S = .ok r S := by unfold fldR; rw [insOf_get h]; simp [hf]
def setFldR (c f : Str) (m : Env) (x d : R) (S : Store) : OutS := match x, insOf c S x with
  | .ref n, some fs => if fs.length < 1000 then .nx m (S.set n (.ins c (putR' f d fs))) else .no
  | _, _ => .no
theorem mSetFld_run (c f : Str) (o v : ME) : mSetFld c f o v m S = (v m S).thenS m fun d S1 => (o m S1).thenS m fun x S2 => setFldR c f m x d S2 := id rfl
theorem setFldR_get {d : R} (h : S[n]? = some (.ins c fs)) (hl : fs.length < 1000) : setFldR c f m (.ref n) d S = .nx m (S.set n (.ins c (putR' f d fs))) := by unfold setFldR; rw [insOf_get h]; simp [hl]
theorem mAugFld_run (c f : Str) (o : ME) (g : R → R → Store → Out R) (v : ME) : mAugFld c f o g v m S = (o m S).thenS m fun x S1 => (fldR c f x S1).thenS m fun old S1' => (v m S1').thenS m fun d S2 => (g old d S2).thenS m fun z S3 => setFldR c f m x z S3 := by
  unfold mAugFld fldR setFldR
  cases o m S with
  | ok x S1 =>
    simp only [thenS_ok]
    cases h : (insOf c S1 x).bind fun fs => List.lookup f fs with
    | none => rfl
    | some old => rfl
  | exc e S1 => rfl
  | no => rfl
def methR (c m' : Str) (x : R) (S : Store) (k : Out R) : Out R := match insOf c S x with
  | some fs => match fs.lookup m' with
    | none => k
    | some _ => .no
  | none => .no
theorem mMethC_run (c m' : Str) (g : List R → Store → Out R) (o : ME) (r : MA) : mMethC c m' g o r m S = (o m S).bind fun x S1 => methR c m' x S1 ((r m S1).bind fun ds S2 => g (x :: ds) S2) := id rfl
theorem methR_get {m' : Str} {k : Out R} (h : S[n]? = some (.ins c fs)) (hf : fs.lookup m' = none) : methR c m' (.ref n) S k = k := by unfold methR; rw [insOf_get h]; simp [hf]
def nonR (n : Nat) : R → Store → Out R := fun z S2 => match z with
  | .v .non => .ok (.ref n) S2
  | _ => .no
theorem mMake_run (c : Str) (g : List R → Store → Out R) (r : MA) : mMake c g r m S = (r m S).bind fun ds S1 => (g (.ref S1.length :: ds) (S1 ++ [.ins c []])).bind (nonR S1.length) := id rfl
theorem nonR_non : nonR n (.v .non) S = .ok (.ref n) S := id rfl
theorem mDctT0_eq : mDctT0 m S = .ok (.ref S.length) (S ++ [.dT []]) := id rfl
def setTR (m : Env) (x y d : R) (S : Store) : OutS := match x, keyT y with
  | .ref n, some k => match S[n]? with
    | some (.dT kvs) => if kvs.length < sizeLine then .nx m (S.set n (.dT (putT kvs k d))) else .no
    | _ => .no
  | _, _ => .no
theorem mSetT_run (f o i : ME) : mSetT f o i m S = (f m S).thenS m fun d S1 => (o m S1).thenS m fun x S2 => (i m S2).thenS m fun y S3 => setTR m x y d S3 := id rfl
theorem srcKeys_run (a : ME) : srcKeys a m S = (a m S).bind fun d S1 => match lkD S1 d with
  | some (.lkT kvs) => .ok ⟨keysT kvs, []⟩ S1
  | some (.lkK kvs) => .ok ⟨keysK kvs, []⟩ S1
  | _ => .no := id rfl
theorem srcItemsT_run (a : ME) : srcItemsT a m S = (a m S).bind fun d S1 => match lkD S1 d with
  | some (.lkT kvs) => match itemsT kvs with
    | some xs => .ok ⟨xs, []⟩ S1
    | none => .no
  | _ => .no := id rfl
end
section
variable {S S0 : Store} {m : Env} {c f : Str} {fs : List (Str × R)} {cs : Store} {d x : R} {K : Out R → Prop}
theorem setFldR_L0 (S : Store) (m : Env) (c f : Str) (fs : List (Str × R)) (cs : Store) (d : R) (h : fs.length < 1000) : setFldR c f m (.ref S.length) d (S ++ .ins c fs :: cs) = .nx m (S ++ .ins c (putR' f d fs) :: cs) := by rw [setFldR_get (get_len S _ cs) h, set_len]
theorem popAdd_eq {x y : List D} (h : x.length + y.length ≤ sizeLine) : wE (opAdd (.v (.lst x)) (.v (.lst y)) S) (kB (fun r S' => popV S r S') K) = K (.ok (.v (.lst (x ++ y))) S) := by
  unfold wE kB; rw [popAdd h]
end
section
variable {S S0 : Store} {n : Nat} {K : Out R → Prop}
theorem mtExt_lst {xs : List R} {zs : List D} (h : S[n]? = some (.lst xs)) (hz : xs.length + zs.length ≤ sizeLine) : mtExt (.ref n) [.v (.lst zs)] S = .ok (.v .non) (S.set n (.lst (xs ++ zs.map .v))) :=
  mtExt_ref h rfl rfl (by rw [List.length_map]; exact hz)
end
section
variable {S : Store} {a b c d : D} {xs : List D}
theorem opIx_t0 : opIx (.v (.tup (a :: xs))) (.v (.int 0)) S = .ok (.v a) S := opIx_tup (atI_0 _ _)
theorem opIx_t1 : opIx (.v (.tup (a :: b :: xs))) (.v (.int 1)) S = .ok (.v b) S := opIx_tup (atI_1 _ _ _)
theorem opIx_t2 : opIx (.v (.tup (a :: b :: c :: xs))) (.v (.int 2)) S = .ok (.v c) S := opIx_tup (atI_2 _ _ _ _)
theorem opIx_t3 : opIx (.v (.tup (a :: b :: c :: d :: xs))) (.v (.int 3)) S = .ok (.v d) S := opIx_tup (atI_3 _ _ _ _ _)
end
end M
local macro_rules
  | `(tactic| simp_arith [$ls,*]) => `(tactic| simp only [M.wE_ok, M.wE_bind, M.kB_ok, M.kB_exc, M.wS_then, M.kT_ok, M.kT_exc, M.wS_nx, M.wS_ct, M.wS_bk, M.wS_rt, M.wS_exc, M.wS_seq, M.kSeq_nx, M.kSeq_ct, M.kSeq_bk, M.kSeq_rt, M.kSeq_exc, M.wE_def, M.wE_defV, M.kDef_rt, M.kDef_nx, M.wS_trim, M.kTrim_nx, M.kTrim_ct, M.kTrim_bk, M.kTrim_rt, M.wTg_some, M.kTurn_nx, M.kTurn_ct, M.kTurn_bk, M.kTurn_rt, M.kTurn_exc,
    M.mVar_eq, M.mC_eq, M.mBin_eq, M.mUn_eq, M.mNil_eq, M.mCons_eq, M.mCall_eq, M.mTup_eq, M.mLst_eq, M.mLstV_eq, M.mIf_eq, M.mAnd_eq, M.mOr_eq, M.mNot_eq, M.mtB_eq, M.mtTru_eq, M.mtAnd_eq, M.mtOr_eq, M.mtNot_eq, M.mtYes_eq, M.mMeth_eq, M.mMeth0_eq, M.mSl_eq, M.moN_eq, M.moS_eq, M.mChain_eq, M.mPop_eq, M.mSkip_eq, M.mBrk_eq, M.mCnt_eq, M.mDrop_eq, M.mRet_eq, M.mRetN_eq, M.mIfS_eq, M.mSet_eq, M.mSetP_eq, M.mPar_eq, M.mAug_eq, M.mAsg_eq, M.mSetIx_eq, M.mFor_eq, M.srcRange1_eq, M.srcRange2_eq, M.srcAny_eq, M.mLc_eq, M.tgN_eq, M.tgT_tup, M.bindAll_nil, M.bindAll_cons, Option.bind_some, M.onBl_bl, M.onII_int, M.Out.bind_ok, M.Out.bind_exc, M.thenS_ok, M.wipeM,
    M.mFld_run, M.mSetFld_run, M.mAugFld_run, M.mMethC_run, M.mMake_run, M.nonR_non, M.mDctT0_eq, M.mSetT_run, M.srcKeys_run, M.srcItemsT_run, M.mDct0,
    List.map_cons, List.map_nil, List.length_cons, List.length_nil, List.replicate_succ, List.replicate_zero, List.cons_append, List.nil_append, List.append_assoc, List.getElem?_cons_zero, List.getElem?_cons_succ, List.set_cons_zero, List.set_cons_succ, List.length_set, List.length_append, List.set_set, M.setAll_cons, M.setAll_nil, M.getAll_cons, M.getAll_nil, Option.getD_some, Option.getD_none,
    M.opAdd_int, M.opSub_int, M.opNeg_int, M.opIadd_int, M.opCmpI_int, M.opEq_int, M.opNe_int, M.opEq_bl, M.opNe_bl, M.opIs_non, M.opIsNot_non, M.opIs_bl, M.opIsNot_bl, M.isNon, M.truM_bl, M.truM_int, M.truM_non, M.truM_tup, M.biLen_tup, M.biLen_lst, M.biLen_kl, M.biAbs_int, M.biInt_int, M.biInt_bl, M.biMax_ii, M.biMin_ii, M.biTuple_tup, M.biTuple_lst, M.tyOk_str, M.tyOk_lstV, M.isi_str_str, M.isi_str_tup, M.isi_str_int, M.isi_str_bool, M.isi_tup_str, M.isi_tup_tup, M.isi_tup_int, M.isi_int_str, M.isi_int_tup, M.isi_int_int, M.isi_int_bool, M.isi_bl_str, M.isi_bl_tup, M.isi_bl_int, M.isi_bl_bool, M.isi_non_str, M.isi_non_tup, M.isi_non_int,
    M.frzO_nil, M.frzO_1, M.frzO_2, M.frzO_3, M.frzO_4, M.frzO_5, M.frzO_6, M.sz0, M.sz1, M.sz2, M.sz3, M.sz4, M.sz5, M.sz6, M.sz7, M.sz8, M.sz9, M.sz10, M.szl0, M.szl1, if_true, if_false, Bool.false_eq_true, M.popV_v, M.cut_self', M.opIx_t0, M.opIx_t1, M.opIx_t2, M.opIx_t3, M.atI_0, M.atI_1, M.atI_2, M.atI_3, M.opSl_tup, Bool.not_true, Bool.not_false, true_and, and_true, Nat.reduceAdd, Nat.reduceSub, Nat.reduceMul, Nat.reduceLT, Int.reduceAdd, Int.reduceSub, Int.reduceMul, Int.reduceNeg, Int.reduceLT, Int.reduceLE, Int.reduceEq, reduceIte, Nat.zero_add, M.keepE_v, M.keepE_none, $ls,*])
local macro_rules
  | `(tactic| walk_at "cell") => `(tactic| repeat' first | assumption | refine M.get_app' ?_ _ | refine M.get_set' ?_ _ | exact M.get_L0 (by simp only [List.length_set]) _ _ | exact M.get_L1 (by simp only [List.length_set]) _ _ _ | exact M.get_L2 (by simp only [List.length_set]) _ _ _ _)
namespace M
open PySem hiding Env
open PySem.Spec PyProof.Rows
open L2
/-- what the law never comes to (a raise) -/
def mNoS : MS := fun _ _ => .no
/-- a tuple of the module, by value -/
def KtR (K : PySem.W.Frag) (a : Addr) (ds : List D) : Prop := ∃ xs, KT' K a xs ∧ ∀ H ρ, RpA K H ρ xs ds
theorem KtR.of {K : PySem.W.Frag} {a : Addr} {ds : List D} {its : Array Value} {n : Nat} {sl : Array (Option Value)} {xs : List V} (h : K.lookup a = some ⟨.type "tuple", none, .seq its n, sl⟩) (hz : its.size ≤ 1000) (hv : Vals xs its.toList) (hr : ∀ H ρ, RpA K H ρ xs ds) : KtR K a ds :=
  ⟨xs, ⟨_, its, n, h, rfl, rfl, rfl, sz_of (by omega), hv⟩, hr⟩
end M
namespace M
open PySem hiding Env
open PySem.Spec PyProof.Rows
open L2
section
variable {X : Cx} {E : L2.St → XK}
structure KdR (K : PySem.W.Frag) (w : World) (A : Addr) (hits : List (Str × Int)) (miss : List Str) : Prop where
  D : ∃ es n, KDict K w A es n
  hit : ∀ p ∈ hits, ∃ t, PySem.W.nsIn K A p.1 = some (some (.int p.2 t))
  no : ∀ z ∈ miss, PySem.W.nsIn K A z = some none
variable {hits : List (Str × Int)} {miss : List Str} {A : Addr} {x : Str} {p pos : Pos} {a : Expr} {ma : ME}
end
theorem KdR.of {K : PySem.W.Frag} {w : World} {A : Addr} {es : Array DictEntry} {n : Nat} {hits : List (Str × Int)} {miss : List Str} (o : K.lookup A = some ⟨.type "dict", none, .dict es n, #[]⟩) (k : PySem.W.KeysLit w.params es.toList) (l : (A == sysModules) = false)
    (h1 : ∀ p ∈ hits, ∃ t, PySem.W.nsIn K A p.1 = some (some (.int p.2 t))) (h2 : ∀ z ∈ miss, PySem.W.nsIn K A z = some none) : KdR K w A hits miss := ⟨⟨es, n, o, k, l⟩, h1, h2⟩
end M
namespace M
open PySem hiding Env
open PySem.Spec PyProof.Rows
open L2
/-- a < b, as Python says of data that are alike -/
def dLt (d e : D) : Bool := PySem.W.dataLt (d.py.getD .none) (e.py.getD .none)
theorem pys_cons {d : D} {ds : List D} {ps : List PyData} (h : D.pys (d :: ds) = some ps) : ∃ p qs, ps = p :: qs ∧ d.py = some p ∧ D.pys ds = some qs := by
  simp only [D.pys, Option.bind_eq_some_iff] at h
  obtain ⟨p, e1, qs, e2, e3⟩ := h
  cases e3
  exact ⟨p, qs, rfl, e1, e2⟩
end M
namespace L2
open PySem PySem.Spec PyProof.Rows
end L2
namespace M
open PySem hiding Env
open PySem.Spec PyProof.Rows
open L2
end M
namespace M
open PySem hiding Env
open PySem.Spec PyProof.Rows
open L2
variable {X : Cx} {E : L2.St → XK}
/-- hi, hi - 1, .. (n of them) -/
def rangeU (hi : Int) (n : Nat) : List R := (List.range n).map fun (i : Nat) => .int (hi - (i : Int))
def rg3 (ds : List R) (S1 : Store) : Out Src := match ds with
  | [.v (.int i), .v (.int j), .v (.int c)] => if c = -1 ∧ rgOk i = true ∧ rgOk j = true then .ok ⟨rangeU i (i - j).toNat, []⟩ S1 else .no
  | _ => .no
def srcRange3 (r : MA) : MI := fun m S => (r m S).bind rg3
@[simp] theorem srcRange3_eq {r : MA} {m : Env} {S : Store} : srcRange3 r m S = (r m S).bind rg3 := id rfl
/-- a, b, c = x, y, z -/
def mPar3 (i j l : Nat) (f g h : ME) : MS := fun m S => (f m S).thenS m fun x S1 => (g m S1).thenS m fun y S2 => (h m S2).thenS m fun z S3 => .nx (((m.set i (some x)).set j (some y)).set l (some z)) S3
@[simp] theorem mPar3_eq (i j l : Nat) {a b c : ME} {m : Env} {S : Store} : mPar3 i j l a b c m S = (a m S).thenS m fun x S1 => (b m S1).thenS m fun y S2 => (c m S2).thenS m fun z S3 => .nx (((m.set i (some x)).set j (some y)).set l (some z)) S3 := id rfl
end M
namespace M
open PySem PySem.Spec L2
open PyProof.Rows hiding St
/-- dict(zip(a, b)) -/
def biDzip (ds : List R) (S : Store) : Out R := match ds with
  | [d, e] => match seqP S d, seqP S e with
    | some p, some q => match keyDs p.1 with
      | some kk => if q.1.length ≤ sizeLine then .ok (.ref S.length) (S ++ [.dK (mergeR [] (kk.zip (q.1.map R.v)))]) else .no
      | none => .no
    | _, _ => .no
  | _ => .no
def mDzip (r : MA) : ME := fun m S => (r m S).bind biDzip
@[simp] theorem mDzip_eq {r : MA} {m : Env} {S : Store} : mDzip r m S = (r m S).bind biDzip := id rfl
end M
namespace M
open PySem PySem.Spec L2
open PyProof.Rows hiding St
def mGetK (d k x : ME) : ME := fun m S => (d m S).bind fun a S1 => match dkOf S1 a with
  | none => .no
  | some _ => (k m S1).bind fun e S2 => (x m S2).bind fun z S3 => match dkOf S3 a, keyOf e with
    | some kvs, some q => .ok ((valR kvs q).getD z) S3
    | _, _ => .no
def getKO (a e z : R) (S : Store) : Out R := match dkOf S a, keyOf e with
    | some kvs, some q => .ok ((valR kvs q).getD z) S
    | _, _ => .no
/-- d[k] = v of a dict with texts or numbers as keys -/
def mSetK (f o i : ME) : MS := fun m S => (f m S).thenS m fun d S1 => (o m S1).thenS m fun x S2 => (i m S2).thenS m fun y S3 => match x, keyOf y with
  | .ref n, some k => match S3[n]? with
    | some (.dK kvs) => if kvs.length < sizeLine then .nx m (S3.set n (.dK (putR kvs k d))) else .no
    | _ => .no
  | _, _ => .no
def setKR (m : Env) (x y d : R) (S : Store) : OutS := match x, keyOf y with
  | .ref n, some k => match S[n]? with
    | some (.dK kvs) => if kvs.length < sizeLine then .nx m (S.set n (.dK (putR kvs k d))) else .no
    | _ => .no
  | _, _ => .no
@[simp] theorem mSetK_run {f o i : ME} {m : Env} {S : Store} : mSetK f o i m S = (f m S).thenS m fun d S1 => (o m S1).thenS m fun x S2 => (i m S2).thenS m fun y S3 => setKR m x y d S3 := id rfl
def getK1 (k x : ME) (m : Env) (a : R) (S1 : Store) : Out R := match dkOf S1 a with
  | none => .no
  | some _ => (k m S1).bind fun e S2 => (x m S2).bind fun z S3 => getKO a e z S3
@[simp] theorem mGetK_run {d k x : ME} {m : Env} {S : Store} : mGetK d k x m S = (d m S).bind fun a S1 => getK1 k x m a S1 := id rfl
end M
namespace M
open PySem PySem.Spec L2
open PyProof.Rows hiding St
/-- how many of the first i texts are new where they stand -/
def newN (xs : List Str) : Nat → Nat
  | 0 => 0
  | i + 1 => if (xs.take i).any (· == xs.getD i Str.empty) then newN xs i else newN xs i + 1
theorem newN_le (xs : List Str) : ∀ i, newN xs i ≤ i
  | 0 => Nat.le_refl _
  | i + 1 => by
    have := newN_le xs i
    unfold newN
    split <;> omega
theorem newN_nodup (xs : List Str) : ∀ i, i ≤ xs.length → (newN xs i = i ↔ (xs.take i).Nodup)
  | 0, _ => by simp [newN]
  | i + 1, h => by
    have ih := newN_nodup xs i (by omega)
    have le := newN_le xs i
    have hi : i < xs.length := h
    have e : xs.getD i Str.empty = xs[i] := by rw [List.getD_eq_getElem?_getD, List.getElem?_eq_getElem hi] <;> rfl
    have et : xs.take (i + 1) = xs.take i ++ [xs[i]] := by rw [List.take_add_one, List.getElem?_eq_getElem hi] <;> rfl
    unfold newN
    rw [e, et, List.nodup_append]
    generalize hq : (xs.take i).any (fun x => x == xs[i]) = q
    by_cases hm : xs[i] ∈ xs.take i
    · obtain rfl : true = q := by rw [← hq]; exact (List.any_eq_true.mpr ⟨_, hm, beq_self_eq_true (a := xs[i])⟩ : (xs.take i).any (fun x => x == xs[i]) = true).symm
      rw [if_pos rfl]
      constructor
      · intro z; omega
      · rintro ⟨_, _, z⟩
        exact absurd rfl (z _ hm _ (by simp))
    · obtain rfl : false = q := by
        cases q with
        | false => rfl
        | true => obtain ⟨y, hy, ey⟩ := List.any_eq_true.mp hq; exact absurd (eq_of_beq ey ▸ hy) hm
      rw [if_neg Bool.false_ne_true]
      constructor
      · intro z
        refine ⟨ih.mp (by omega), by simp, fun a ha b hb ez => hm ?_⟩
        rw [List.mem_singleton] at hb
        subst hb; subst ez
        exact ha
      · rintro ⟨z, _⟩
        rw [ih.mpr z]
section
variable {prog : Program} {w : World} {A : Around}
theorem strAt : ∀ {vs : List Value} {xs : List Str}, PyProof.Rows.StrsAre vs xs → ∀ (i : Nat) (v : Value), vs[i]? = some v → ∃ t, v = .str (xs.getD i Str.empty) t
  | _, _, .nil, i, v, h => by simp at h
  | _, _, .cons n t hr, 0, v, h => by simp at h; exact ⟨t, by rw [← h] <;> rfl⟩
  | _, _, .cons n t hr, i + 1, v, h => by
    simp only [List.getElem?_cons_succ] at h
    obtain ⟨t', e⟩ := strAt hr i v h
    exact ⟨t', by rw [e] <;> rfl⟩
def Tk (xs : List Str) (i : Nat) : Str → Bool := fun k => (xs.take i).any (· == k)
theorem Tk_succ {xs : List Str} {i : Nat} (hi : i < xs.length) (k : Str) : (Tk xs i k || decide (k = xs.getD i Str.empty)) = Tk xs (i + 1) k := by
  have e : xs.getD i Str.empty = xs[i] := by rw [List.getD_eq_getElem?_getD, List.getElem?_eq_getElem hi] <;> rfl
  unfold Tk
  rw [List.take_add_one, List.getElem?_eq_getElem hi, e, List.any_append]
  congr 1
  by_cases z : k = xs[i]
  · subst z; simp
  · have hb : (xs[i] == k) = false := by simpa [beq_iff_eq] using fun z' : xs[i] = k => z z'.symm
    simp [z, hb]
theorem loopT {R : Result → Shared → Prop} {I : Addr} {fp wr : List Addr} {G : Array GenState → Array GenState → Prop} {n : Nat} {P : Nat → Value → Prop} {St : Nat → Shared → Prop}
    (W : WalksS prog w A.in1 I fp wr G n P St) (S : Addr) (hSf : S ∉ fp) (xs : List Str) (hsz : xs.length = n) (hb : n + 1 < scanBound)
    (hval : ∀ i v, P i v → ∃ t, v = .str (xs.getD i Str.empty) t) :
    ∀ (k i : Nat) (s : Shared), n - i = k → i ≤ n → St i s → s.heap.SetOf (PySem.strKind prog w) S (Tk xs i) (newN xs i) →
      (∀ s', Moved (S :: wr) G s s' → s'.heap.SetOf (PySem.strKind prog w) S (Tk xs n) (newN xs n) → R (.ok (.ret .none)) s') →
      codeAny (model prog w) A (.builtin "set.update.loop" ⟨[.ref S, .ref I], []⟩) R s := by
  have hSw : S ∉ wr := fun h => hSf (W.sub _ h)
  have hsub : ∀ b ∈ wr, b ∈ S :: wr := fun b hb => List.mem_cons_of_mem _ hb
  have carry : ∀ {i : Nat} {s s' : Shared}, Moved wr G s s' → s.heap.SetOf (PySem.strKind prog w) S (Tk xs i) (newN xs i) → s'.heap.SetOf (PySem.strKind prog w) S (Tk xs i) (newN xs i) := fun hm hS => by
    obtain ⟨o, es, ep, t, ho, rest⟩ := hS
    exact ⟨o, es, ep, t, hm.heap S _ hSw ho, rest⟩
  intro k
  induction k with
  | zero =>
    intro i s hk hi hst hS hR
    obtain rfl : i = n := by omega
    refine codeAny_builtin PyProof.Rows.F.entry_set_update_loop ?_
    rw [Around.under_plainId PyProof.Rows.F.plain_set_update_loop _]
    show wpAny _ A.in1 (pyNext (.ref I) >>= _) _ _ s
    refine wpAny_bind (W.done s _ _ hst fun s' hm => ?_)
    show wpAny _ A.in1 (ret Value.none) _ _ s'
    exact wpAny_pure (hR s' (hm.mono hsub) (carry hm hS))
  | succ k ih =>
    intro i s hk hi hst hS hR
    have hlt : i < n := by omega
    refine codeAny_builtin PyProof.Rows.F.entry_set_update_loop ?_
    rw [Around.under_plainId PyProof.Rows.F.plain_set_update_loop _]
    show wpAny _ A.in1 (pyNext (.ref I) >>= _) _ _ s
    refine wpAny_bind (W.item i s _ _ hlt hst fun v s' hP hst' hm => ?_)
    obtain ⟨t, rfl⟩ := hval i v hP
    have le := newN_le xs i
    show wpAny _ A.in1 (holding [Value.str (xs.getD i Str.empty) t] (setAdd S (.str (xs.getD i Str.empty) t)) >>= _) _ _ s'
    refine wpAny_bind (wpAny_holding ?_)
    unfold setAdd
    refine wpAny_holding ?_
    refine wpAny_bind ((PySem.strKind prog w).pyHash (k := xs.getD i Str.empty) (strKind_is _ _ _ _) ?_)
    refine wpAny_setAddHashed_of (knd := PySem.strKind prog w) (s := { s' with toks := s'.toks + 1 }) (strKind_is _ _ _ _) rfl (show s'.heap.SetOf _ S _ _ from carry hm hS) (by omega) fun h' hsb hS2 => ?_
    have hSi : h'.SetOf (PySem.strKind prog w) S (Tk xs (i + 1)) (newN xs (i + 1)) := SetOf_congr hS2 (fun k' => Tk_succ (by omega) k') rfl
    refine wpAny_pure ⟨plainId_quiet PyProof.Rows.F.plain_set_update_loop _, ih (i + 1) _ (by omega) hlt (W.frame _ s' _ _ hst' (Nat.le_succ _) fun b hb o e => ?_) hSi fun s'' hm'' hS'' => ?_⟩
    · rw [hsb.2 b (fun h : b = S => hSf (by rw [← h]; exact hb))]; exact e
    · refine hR s'' (Moved.trans W.gtrans ((hm.mono hsub).then_heap (Nat.le_succ _) fun b o hb e => ?_) hm'') hS''
      rw [hsb.2 b (fun h : b = S => hb (by rw [h]; exact List.mem_cons_self))]; exact e
end
section
variable {prog : Program} {w : World} {A : Around} {E : Value → Shared → Prop} {s : Shared}
def nwSet (led : Bool) : Obj := { cls := .type "set", dict := none, data := .set #[] 0 (.fresh 0 0 led) }
/-- what set(t) leaves: the set at a, all else as it was -/
def Left (prog : Program) (w : World) (s : Shared) (xs : List Str) (h' : Heap) : Prop :=
  h'.SetOf (PySem.strKind prog w) s.heap.objs.size (Tk xs xs.length) (newN xs xs.length) ∧ ∀ b o, b < s.heap.objs.size → s.heap.get? b = some o → h'.get? b = some o
theorem set_tup {l : Addr} {items : Array Value} {xs : List Str} {Q : Value → Shared → Prop} (hh : A.handled = none) (hl : s.heap.IsTuple l items) (hi : PyProof.Rows.StrsAre items.toList xs) (hb : xs.length + 1 < scanBound)
    (h : ∀ (h' : Heap) (tk : Nat), Left prog w s xs h' → Q (.ref s.heap.objs.size) { s with heap := h', toks := tk }) : wpAny (model prog w) A (call (.type "set") [.ref l]) Q E s := by
  obtain ⟨c, tl, hmro⟩ := PySem.F.called_set.mro
  have hmade := PySem.F.called_set.made
  have hsub := PySem.F.called_set.sub
  refine wpAny_call (codeAny_of_tree ?_)
  show wpAny _ _ (callAny (.type "set") _) _ _ _
  refine wpAny_pure ⟨Code.quiet_builtin _ (by decide +kernel), codeAny_builtin PySem.F.entry_type_call ?_⟩
  rw [Around.under_plain (weight_type_call_type "set" [.ref l] []) rfl]
  have n1 := PySem.F.called_set.notType
  have n2 := PySem.F.called_set.canCreate
  have n3 := PySem.F.typeCall_set_1 (.ref l)
  repeat (any_goals (first | assumption | wp_step))
  refine codeAny_mono (code_set_new_1 (.ref l) (E := E) (Q₁ := fun obj s₁ => ∃ led : Bool, obj = .ref s.heap.objs.size ∧ s₁ = { s with heap := s.heap.push (nwSet led) }) fun led => ⟨led, rfl, rfl⟩) fun r s₁ hr => ?_
  cases r with
  | error e => exact hr
  | ok fl =>
    cases fl with
    | ret obj =>
      obtain ⟨led, rfl, rfl⟩ := hr
      have hS : (s.heap.push (nwSet led)).get? s.heap.objs.size = some (nwSet led) := Heap.get?_push_size _ rfl
      have hT : Shared.TypeIs { s with heap := s.heap.push (nwSet led) } (.ref s.heap.objs.size) "set" := ⟨_, hS, rfl⟩
      have hli := PySem.F.called_set.init.lookup
      have hbi := PySem.F.called_set.init.bind (.ref s.heap.objs.size)
      repeat (any_goals (first | assumption | wp_step))
      refine codeAny_mono (codeAny_call_builtin (R := wants (fun r s₂ => r = .none ∧ ∃ h' tk, s₂ = { s with heap := h', toks := tk } ∧ Left prog w s xs h') E) PySem.F.called_set.init.plain PySem.F.entry_set_init (check_set_init_1 hT ?_)) fun r₂ s₂ hr₂ => ?_
      · obtain ⟨⟨ocls, odict, odata, oslots⟩, hol, hcl, nl, hdl⟩ := hl
        simp only at hcl hdl
        subst hcl; subst hdl
        have hol' : (s.heap.push (nwSet led)).get? l = some { cls := .type "tuple", dict := odict, data := .seq items nl, slots := oslots } := Heap.get?_push_of_some _ hol
        have b1 := PySem.F.sub_tuple_set
        have b2 := PySem.F.sub_tuple_frozenset
        have b3 : (Value.type "tuple" == Value.type "dict") = false := by decide
        have hl1 : (s.heap.push (nwSet led)).IsTuple l items := ⟨_, hol', rfl, nl, rfl⟩
        have hlS : l < s.heap.objs.size := Heap.lt_size hol
        have hsz : xs.length = items.size := by rw [← StrsAre.len_eq hi, Array.length_toList]
        have hval : ∀ (i : Nat) (v : Value), items[i]? = some v → ∃ t, v = .str (xs.getD i Str.empty) t := fun i v hv => strAt hi i v (by rw [Array.getElem?_toList]; exact hv)
        have hne : l ≠ (s.heap.push (nwSet led)).objs.size := by rw [Heap.size_push]; exact Nat.ne_of_lt (Nat.lt_succ_of_lt hlS)
        have hSf : s.heap.objs.size ∉ [(s.heap.push (nwSet led)).objs.size, l] := by
          rw [Heap.size_push]; simp only [List.mem_cons, List.mem_singleton, List.not_mem_nil, or_false, not_or]
          exact ⟨Nat.ne_of_lt (Nat.lt_succ_self _), Nat.ne_of_gt hlS⟩
        unfold Builtin.«set.__init__» noKeywords Builtin.Frozenset.updateFrom
        generalize hPI : pyIter = PI
        wp_walk
        subst hPI
        refine wpAny_pyIter_tuple hl1 ?_
        refine wpAny_bind (wpAny_runValue ?_)
        refine loopT ((Walks.tuple (by simp [hh]) _ l hne items).toS) s.heap.objs.size hSf xs hsz (by rw [← hsz]; exact hb) hval (items.size - 0) 0 _ (by omega) (Nat.zero_le _)
          ⟨⟨_, Heap.get?_push_size _ rfl, rfl, rfl⟩, (hl1.push _)⟩ ?hS0 ?hR
        case hS0 =>
          exact SetOf_congr ((setObjOf_fresh (knd := PySem.strKind prog w) led).setOf (Heap.get?_push_of_some _ hS) (by unfold scanBound; omega)) (fun _ => rfl) rfl
        case hR =>
          intro s' hm hS'
          rw [← hsz] at hS'
          obtain ⟨h', g', d', tk', os'⟩ := s'
          obtain rfl : g' = s.gens := hm.gens
          obtain rfl : d' = s.drawn := hm.drawn
          obtain rfl : os' = s.os := hm.os
          show wpAny _ _ _ _ _ _
          refine wpAny_pure ?_
          show wpAny _ _ (ret Value.none) _ _ _
          refine wpAny_pure ⟨rfl, h', tk', rfl, hS', fun b o hb e => ?_⟩
          exact hm.heap b o (by rw [Heap.size_push]; simp only [List.mem_cons, List.mem_singleton, List.not_mem_nil, or_false, not_or]; exact ⟨Nat.ne_of_lt hb, Nat.ne_of_lt (Nat.lt_succ_of_lt hb)⟩) (Heap.get?_push_of_some _ (Heap.get?_push_of_some _ e))
      · cases r₂ with
        | error e => exact hr₂
        | ok fl₂ =>
          cases fl₂ with
          | ret r =>
            obtain ⟨rfl, h', tk, rfl, hS'⟩ := hr₂
            repeat (any_goals (first | assumption | wp_step))
            exact h _ _ hS'
          | _ => exact hr₂.elim
    | _ => exact hr.elim
end
/-- len(set(t)) of a tuple of texts -/
theorem strs_of_vals : ∀ {ns : List Str} {us : List Value}, Vals (ns.map V.str) us → PyProof.Rows.StrsAre us ns
  | [], _, .nil => .nil
  | n :: ns, _, .cons r t => by
    obtain ⟨k, rfl⟩ := r
    exact .cons n k (strs_of_vals t)
def tLenSetT (K : PySem.W.Frag) (ta : TE) : TE := fun σ H Q => ta σ H fun x H1 => ∃ (l : Addr) (ns : List Str), x = .ref l ∧ SqT K H1 l (ns.map V.str) ∧ ns.length ≤ 2000 ∧ Q (.int (newN ns ns.length : Nat)) H1
theorem pe_lenSetT {X : Cx} {a : Expr} {ta : TE} {p p2 q pos : Pos} (hg : Gl X "len") (hm : X.mg "len" = none) (hg2 : Gl X "set") (hm2 : X.mg "set" = none) (ha : PE X a ta) (hc : X.calm = true := by rfl)
    (na : starEach [a] X.env = (false, eval a X.env) :: starEach [] X.env := by rfl) : PE X (.Call (.Name "len" p) [.Call (.Name "set" p2) [a] [] q] [] pos) (tLenSetT X.K ta) := by
  refine ⟨fun pins s σ H Q I h => ?_⟩
  refine Call_ (ld_blt I hg hm boot_len ?_)
  refine PyProof.Rows.callWith_builtin1 (PyProof.Rows.args_cons ?_ rfl) rfl rfl
  refine Call_ (ld_blt I hg2 hm2 boot_set ?_)
  refine PyProof.Rows.callWith_type1 (PyProof.Rows.args_cons (thn (ha.run pins s σ H _ I h) fun v s1 ⟨x, H1, I1, r1, q1⟩ => PyProof.Rows.args_nil ?_) na) na rfl
  obtain ⟨l, ns, rfl, hq, hl, q1⟩ := q1
  cases r1
  obtain ⟨its, r, pl, hz⟩ := I1.tuple hq
  refine set_tup (I1.ok.hd hc) pl (by simpa using strs_of_vals r) (by unfold scanBound; omega) fun h' tk hS => ?_
  refine PyProof.Rows.args_nil ?_
  obtain ⟨⟨o, es, ep, t, ho, hex, hd, _, _, _, hf, hn⟩, hk⟩ := hS
  have hle := newN_le ns ns.length
  have I2 : Inv X pins σ H1 { s1 with heap := h', toks := tk } := I1.kept fun b o e => hk b o (Heap.lt_size e) e
  exact call_len_set ho hex hd hf (by rw [hn] <;> omega) ⟨.int (newN ns ns.length : Nat), H1, I2.tok _, ⟨_, by rw [hn]⟩, q1⟩
def opLenSetT (d : R) (S : Store) : Out R := match d with
  | .v (.tup ds) => match strsOf (ds.map R.v) with
    | some ns => if ns.length ≤ 2000 then .ok (.v (.int (newN ns ns.length : Nat))) S else .no
    | none => .no
  | _ => .no
@[simp] theorem opLenSetT_strs (xs : List Str) (h : xs.length ≤ 2000) (S : Store) : opLenSetT (.v (.tup (xs.map D.str))) S = .ok (.v (.int (newN xs xs.length : Nat))) S := by
  unfold opLenSetT
  simp only [List.map_map, show (R.v ∘ D.str) = fun x => R.v (.str x) from rfl, strsOf_map xs, h, if_true]
theorem pm_lenSetT {X : Cx} {E : St → XK} {a : Expr} {ma : ME} {p p2 q pos : Pos} (hg : Gl X "len") (hm : X.mg "len" = none) (hg2 : Gl X "set") (hm2 : X.mg "set" = none) (ha : PE X a (tE X.K E ma)) (hc : X.calm = true := by rfl)
    (na : starEach [a] X.env = (false, eval a X.env) :: starEach [] X.env := by rfl) : PE X (.Call (.Name "len" p) [.Call (.Name "set" p2) [a] [] q] [] pos) (tE X.K E (mUn opLenSetT ma)) := by
  refine PE.imp (pe_lenSetT hg hm hg2 hm2 ha hc na) ?_
  rintro σ H Q ⟨ρ, m, S, sr, er, h⟩
  refine ⟨ρ, m, S, sr, er, RO.bind h fun d S1 v H1 ρ1 m1 s1 r1 h1 => ?_⟩
  unfold opLenSetT at h1
  split at h1
  · rename_i ds
    split at h1
    · rename_i ns hbs
      split at h1
      · rename_i hz
        cases r1 with
        | v r1 =>
          cases r1 with
          | tup ht ra => exact ⟨_, ns, rfl, by rw [← rqa_strs ra.q hbs]; exact .inl (.inl ht), hz, h1 _ _ _ .refl s1 (.v (.int _))⟩
      · exact h1.elim
    · exact h1.elim
  · exact h1.elim
end M
namespace M
open PySem PySem.Spec L2
open PyProof.Rows hiding St
def opNeNil (d e : R) (S : Store) : Out R := match lstOf S d, lstOf S e with
  | some xs, some [] => .ok (.v (.bl (decide (xs ≠ [])))) S
  | _, _ => .no
@[simp] theorem opNeNil_ref {n : Nat} {xs : List R} {S : Store} (h : S[n]? = some (.lst xs)) : opNeNil (.ref n) (.v (.lst [])) S = .ok (.v (.bl (decide (xs ≠ [])))) S := by
  simp [opNeNil, lstOf, lsOf_lst h]
end M
namespace M
open PySem PySem.Spec PySem.W L2
open PyProof.Rows hiding St
def strLt (x y : Str) : Bool := decide (x.cps.toList < y.cps.toList)
/-- two items by their keys -/
def by2 {α : Type} (p q : α × Str) : List α := if strLt q.2 p.2 then [q.1, p.1] else [p.1, q.1]
section
variable {X : Cx} {pins : List (Addr × Obj)} {σ : L2.St} {H H' : Hp} {s : Shared} {h' : Heap} {a b : Addr}
theorem stay_but (I : Inv X pins σ H s) {L : List Addr} (hL : ∀ b ∈ L, H b = none) (k : ∀ c u, c ∉ L → s.heap.get? c = some u → h'.get? c = some u) {c : Addr} {u : HO} (e : H c = some u) (ht : ∀ b xs, H b = some (.tup xs) → H' b = some (.tup xs)) (ho : ∀ b, H b = some (.own c) → H' b = some (.own c)) : ObjOk X.prog X.w H' h' c u :=
  (I.hok c u e).stay (fun b o hb q => k b o (fun z => by
    have n := hL b z
    rcases hb with rfl | hb
    · rw [e] at n; cases n
    · rw [hb] at n; cases n) q) ho ht
/-- objects that nothing tracks have changed -/
theorem touch {tk : Nat} (I : Inv X pins σ H s) (L : List Addr) (fp : ∀ b ∈ L, FpOk X pins H b) (k : ∀ c u, c ∉ L → s.heap.get? c = some u → h'.get? c = some u) : Inv X pins σ H { s with heap := h', toks := tk } :=
  I.call' (ch := L) rfl
    ⟨fun c o q n _ hx => k c o hx q, fun c o q n _ hx => ⟨o.slots, k c o hx q⟩, fun c o q n _ => n, fun c o q hx => ⟨o, k c o hx q⟩, fun _ _ q => q, fun _ _ _ q => q, fun _ ps q => ⟨#[], by rw [q]; simp⟩⟩
    (fun c u e => stay_but I (fun b hb => (fp b hb).1) k e (fun _ _ q => q) fun _ q => q) I.bare
    fun b hb => ⟨(fp b hb).2.2.2.1, (fp b hb).2.1, (fp b hb).2.2.2.2.1, (fp b hb).2.2.2.2.2⟩
/-- .. and one of them is a list that is tracked from now on -/
theorem touch_lst {tk n : Nat} {xs : List V} {its : List Value} (I : Inv X pins σ H s) (L : List Addr) (fp : ∀ b ∈ L, FpOk X pins H b) (k : ∀ c u, c ∉ L → s.heap.get? c = some u → h'.get? c = some u) (ha : a ∈ L)
    (hz : xs.length ≤ sizeLine) (r : Vals xs its) (e : h'.get? a = some (seqObj "list" its.toArray n)) : Inv X pins σ (upd H a (.lst xs)) { s with heap := h', toks := tk } := by
  have na := (fp a ha).1
  have up : ∀ b u, H b = some u → upd H a (.lst xs) b = some u := fun b u q => by
    rw [upd_ne (fun z => by rw [z, na] at q; cases q)]; exact q
  refine I.call' (ch := L) rfl
    ⟨fun c o q n _ hx => k c o hx q, fun c o q n _ hx => ⟨o.slots, k c o hx q⟩, fun c o q n hx => ?_, fun c o q hx => ⟨o, k c o hx q⟩, fun _ _ q => up _ _ q, fun _ _ _ q => up _ _ q, fun _ ps q => ⟨#[], by rw [up _ _ q]; simp⟩⟩
    (fun c u q => ?_) I.bare
    fun b hb => ⟨(fp b hb).2.2.2.1, (fp b hb).2.1, (fp b hb).2.2.2.2.1, (fp b hb).2.2.2.2.2⟩
  · rw [upd_ne (fun z => hx (by rw [z]; exact ha))]; exact n
  · by_cases hc : c = a
    · subst hc
      rw [upd_same] at q
      cases q
      exact ⟨hz, its, n, r, e⟩
    · rw [upd_ne hc] at q
      exact stay_but I (fun b hb => (fp b hb).1) k q (fun b xs z => up _ _ z) fun b z => up _ _ z
end
section
variable {X : Cx} {pins : List (Addr × Obj)} {σ : L2.St} {H : Hp} {s : Shared} {k : Nat} {f : Addr} {fd : FuncData} {p : Str} {sp : Sp}
/-- what two calls of the key give -/
def Keys2 (sp : Sp) (x1 x2 : V) (H : Hp) (R : Str → Str → Hp → Prop) : Prop :=
  sp [x1] H (fun k1 H1 => ∃ t1, k1 = .str t1 ∧ sp [x2] H1 (fun k2 H2 => ∃ t2, k2 = .str t2 ∧ R t1 t2 H2) E0) E0
theorem ms2 {α : Type} (le : α → α → Bool) (a b : α) : [a, b].mergeSort le = if le a b then [a, b] else [b, a] := by
  simp [List.mergeSort, List.MergeSort.Internal.splitInTwo, List.merge]
theorem le_str {α : Type} (a b : α × Str) : dataLe false (fun p : α × Str => PyData.str p.2) a b = !strLt b.2 a.2 := by
  show (!PyProof.Rows.lexLt itemOrd [.inr b.2.cps.toList] [.inr a.2.cps.toList]) = !decide (b.2.cps.toList < a.2.cps.toList)
  unfold PyProof.Rows.lexLt PyProof.Rows.lexLt
  rw [Bool.and_false, Bool.or_false]
  rfl
/-- where the keys' loop stands behind i calls -/
def Stg (X : Cx) (pins : List (Addr × Obj)) (σ : L2.St) (sp : Sp) (x1 x2 : V) (R : Str → Str → Hp → Prop) (a kS : Addr) (e1 : Nat) (i : Nat) (s : Shared) : Prop :=
  ∃ (H : Hp) (keys : Array Value) (e : Nat), Inv X pins σ H s ∧ FpOk X pins H a ∧ FpOk X pins H kS ∧ s.heap.get? kS = some (seqObj "list" keys e) ∧ s.heap.get? a = some (seqObj "list" #[] e1) ∧
    ((i = 0 ∧ keys = #[] ∧ Keys2 sp x1 x2 H R) ∨ (i = 1 ∧ ∃ t1 u, keys = #[.str t1 u] ∧ sp [x2] H (fun k2 H2 => ∃ t2, k2 = .str t2 ∧ R t1 t2 H2) E0) ∨ (i = 2 ∧ ∃ t1 u1 t2 u2, keys = #[.str t1 u1, .str t2 u2] ∧ R t1 t2 H))
theorem pin2 {a kS : Addr} {oa ok : Obj} (I : Inv X pins σ H s) (fa : FpOk X pins H a) (fk : FpOk X pins H kS) (gk : s.heap.get? kS = some ok) (ga : s.heap.get? a = some oa) (da : ∀ v, oa.data ≠ .cell v) (dk : ∀ v, ok.data ≠ .cell v) :
    Inv X (pins ++ [(kS, ok), (a, oa)]) σ H s := I.pins_of fun q hq => by
  rcases List.mem_append.mp hq with hq | hq
  · exact I.pin q (List.mem_append_right _ hq)
  · simp only [List.mem_cons, List.not_mem_nil, or_false] at hq
    rcases hq with rfl | rfl
    · exact ⟨gk, fk.1, fk.2.1, fk.2.2.1, dk⟩
    · exact ⟨ga, fa.1, fa.2.1, fa.2.2.1, da⟩
theorem pushed {Q : VK} {a kS : Addr} {e1 e : Nat} {keys : Array Value} {uv : Value} {s1 : Shared} (fa : FpOk X pins H a) (fk : FpOk X pins H kS) (hka : kS ≠ a)
    (h : EP X (pins ++ [(kS, seqObj "list" keys e), (a, seqObj "list" #[] e1)]) σ Q uv s1) :
    s1.heap.get? kS = some (seqObj "list" keys e) ∧ ∃ (H1 : Hp) (u : V) (e' : Nat), Inv X pins σ H1 { s1 with heap := s1.heap.update kS (Obj.mapSeq (·.push uv)) } ∧ FpOk X pins H1 a ∧ FpOk X pins H1 kS ∧
      (s1.heap.update kS (Obj.mapSeq (·.push uv))).get? kS = some (seqObj "list" (keys.push uv) e') ∧ (s1.heap.update kS (Obj.mapSeq (·.push uv))).get? a = some (seqObj "list" #[] e1) ∧ RelV u uv ∧ Q u H1 := by
  obtain ⟨u, H1, I1, ru, q⟩ := h
  obtain ⟨gk1, nk, _⟩ := I1.pin (kS, seqObj "list" keys e) (by simp)
  obtain ⟨ga1, na, _⟩ := I1.pin (a, seqObj "list" #[] e1) (by simp)
  have J := I1.unpinned
  have fk1 : FpOk X pins H1 kS := ⟨nk, fk.2⟩
  have fa1 : FpOk X pins H1 a := ⟨na, fa.2⟩
  have sb := Heap.SameBut.update s1.heap kS (Obj.mapSeq (·.push uv))
  refine ⟨gk1, H1, u, _, touch (tk := s1.toks) J [kS] (fun b hb => by rw [List.mem_singleton] at hb; subst hb; exact fk1) fun c o hc q => ?_, fa1, fk1, get?_update_seq gk1 (·.push uv), ?_, ru, q⟩
  · exact (sb.2 c (by simpa using hc)).trans q
  · exact (sb.2 a hka.symm).trans ga1
def rSortK (X : Cx) (f : Addr) (sp : Sp) : List V → List V → Hp → VK → Prop := fun vs zs H Q => ∃ (l : Addr) (x1 x2 : V), vs = [.ref l] ∧ zs = [.ref f] ∧ SqL X.K H l [x1, x2] ∧
  Keys2 sp x1 x2 H fun t1 t2 H2 => ∀ p, H2 p = none → Q (.ref p) (upd H2 p (.lst (by2 (x1, t1) (x2, t2))))
end
def opLtS (d e : R) (S : Store) : Out R := match d, e with
  | .v (.str a), .v (.str b) => .ok (.v (.bl (strLt a b))) S
  | _, _ => .no
theorem opm_ltS {X : Cx} : OpM X (compareOp .Lt) opLtS := by
  rintro pins s σ H x y v u Q I rx ry ⟨E, ρ, S, d, e, sr, rd, re, h⟩
  unfold opLtS at h
  split at h
  · rename_i a b
    cases rd with
    | v rd =>
      cases rd
      cases re with
      | v re =>
        cases re
        obtain ⟨t, rfl⟩ := rx
        obtain ⟨w, rfl⟩ := ry
        exact lt_str ⟨.bl _, H, I, rfl, h _ _ _ .refl sr (.v (.bl _))⟩
  · exact h.elim
def mSortK (g : List R → Store → Out R) (e : ME) : ME := fun m S => (e m S).bind fun d S1 => match lstOf S1 d with
  | some [x, y] => (g [x] S1).bind fun kx S2 => match kx with
    | .v (.str a) => (g [y] S2).bind fun ky S3 => match ky with
      | .v (.str b) => .ok (.ref S3.length) (S3 ++ [.lst (by2 (x, a) (y, b))])
      | _ => .no
    | _ => .no
  | _ => .no
end M
namespace M
open PySem PySem.Spec PySem.W L2
open PyProof.Rows hiding St
def byN {α : Type} (xs : List α) (ts : List Str) : List α := ((xs.zip ts).mergeSort (dataLe false fun p : α × Str => PyData.str p.2)).map (·.1)
theorem byN_len {α : Type} {xs : List α} {ts : List Str} (h : ts.length = xs.length) : (byN xs ts).length = xs.length := by
  unfold byN
  rw [List.length_map, (List.mergeSort_perm _ _).length_eq, List.length_zip]; omega
/-- what the calls of the key give, one by one -/
def KeysN (sp : Sp) : List V → List Str → Hp → (List Str → Hp → Prop) → Prop
  | [], ts, H, R => R ts H
  | x :: xs, ts, H, R => sp [x] H (fun k1 H1 => ∃ t, k1 = .str t ∧ KeysN sp xs (ts ++ [t]) H1 R) E0
theorem kn_snoc {α β : Type} {R : α → β → Prop} : ∀ {as : List α} {bs : List β} {a : α} {b : β}, EachIs R as bs → R a b → EachIs R (as ++ [a]) (bs ++ [b])
  | _, _, _, _, .nil, h => .cons h .nil
  | _, _, _, _, .cons h k, r => .cons h (kn_snoc k r)
theorem kn_len {α β : Type} {R : α → β → Prop} : ∀ {as : List α} {bs : List β}, EachIs R as bs → as.length = bs.length
  | _, _, .nil => rfl
  | _, _, .cons _ k => by simp [kn_len k]
section
variable {X : Cx} {pins : List (Addr × Obj)} {σ : L2.St} {H H' : Hp} {s : Shared} {h' : Heap} {a b : Addr} {k : Nat} {f : Addr} {fd : FuncData} {p : Str} {sp : Sp}
theorem kn_reads {h : Heap} : ∀ {vs : List Value} {ts : List Str}, EachIs (fun v t => ∃ u, v = Value.str t u) vs ts → EachIs (fun v k => ∃ as, Reads h v k as) vs (ts.map PyData.str)
  | _, _, .nil => .nil
  | _, _, .cons ⟨u, e⟩ k => by
    subst e
    exact .cons ⟨[], .str _ u⟩ (kn_reads k)
theorem kn_zip : ∀ {xs : List V} {vs : List Value} {ts : List Str}, Vals xs vs → ts.length = xs.length → EachIs (fun v (p : V × Str) => RelV p.1 v) vs (xs.zip ts)
  | _, _, [], .nil, _ => .nil
  | _, _, t :: ts, .cons r rr, h => .cons r (kn_zip rr (by simpa using h))
theorem kn_vals : ∀ {out : List Value} {ps : List (V × Str)}, EachIs (fun v (p : V × Str) => RelV p.1 v) out ps → Vals (ps.map (·.1)) out
  | _, _, .nil => .nil
  | _, _, .cons r k => .cons r (kn_vals k)
/-- where the keys' loop stands behind i calls -/
def StgN (X : Cx) (pins : List (Addr × Obj)) (σ : L2.St) (sp : Sp) (xs : List V) (R : List Str → Hp → Prop) (a kS : Addr) (e1 : Nat) (i : Nat) (s : Shared) : Prop :=
  ∃ (H : Hp) (keys : Array Value) (e : Nat) (ts : List Str), Inv X pins σ H s ∧ FpOk X pins H a ∧ FpOk X pins H kS ∧ s.heap.get? kS = some (seqObj "list" keys e) ∧ s.heap.get? a = some (seqObj "list" #[] e1) ∧
    EachIs (fun v t => ∃ u, v = Value.str t u) keys.toList ts ∧ ts.length = i ∧ KeysN sp (xs.drop i) ts H R
def rSortKN (X : Cx) (f : Addr) (sp : Sp) : List V → List V → Hp → VK → Prop := fun vs zs H Q => ∃ (l : Addr) (xs : List V), vs = [.ref l] ∧ zs = [.ref f] ∧ SqL X.K H l xs ∧ xs.length ≤ 1000 ∧
  KeysN sp xs [] H fun ts H2 => ts.length = xs.length → ∀ p, H2 p = none → Q (.ref p) (upd H2 p (.lst (byN xs ts)))
end
def keysM (g : List R → Store → Out R) : List R → List Str → Store → (List Str → Store → Out R) → Out R
  | [], ts, S, F => F ts S
  | x :: xs, ts, S, F => (g [x] S).bind fun k S1 => match k with
    | .v (.str t) => keysM g xs (ts ++ [t]) S1 F
    | _ => .no
def mSortKN (g : List R → Store → Out R) (e : ME) : ME := fun m S => (e m S).bind fun d S1 => match lstOf S1 d with
  | some xs => if xs.length ≤ 1000 then keysM g xs [] S1 fun ts S2 => .ok (.ref S2.length) (S2 ++ [.lst (byN xs ts)]) else .no
  | none => .no
theorem kn_rqalen {K : PySem.W.Frag} {H : Hp} {ρ : Wd} : ∀ {xs : List V} {ds : List R}, RqA K H ρ xs ds → xs.length = ds.length
  | _, _, .nil => rfl
  | _, _, .cons _ k => by simp [kn_rqalen k]
theorem kn_rqazip {K : PySem.W.Frag} {H : Hp} {ρ : Wd} : ∀ {xs : List V} {ds : List R}, RqA K H ρ xs ds → ∀ q ∈ xs.zip ds, Rq K H ρ q.1 q.2
  | _, _, .nil, q, h => by simp at h
  | _, _, .cons r k, q, h => by
    rcases List.mem_cons.mp h with rfl | h
    · exact r
    · exact kn_rqazip k q h
theorem kn_rqaof {K : PySem.W.Frag} {H : Hp} {ρ : Wd} : ∀ (U : List ((V × R) × Str)), (∀ q ∈ U, Rq K H ρ q.1.1 q.1.2) → RqA K H ρ (U.map fun q => q.1.1) (U.map fun q => q.1.2)
  | [], _ => .nil
  | q :: U, h => .cons (h q (by simp)) (kn_rqaof U fun x hx => h x (by simp [hx]))
theorem byN_map {α β : Type} (fa : α → β) (L : List (α × Str)) : ((L.map fun q => (fa q.1, q.2)).mergeSort (dataLe false fun p : β × Str => PyData.str p.2)).map (·.1) = (L.mergeSort (dataLe false fun p : α × Str => PyData.str p.2)).map fun q => fa q.1 := by
  rw [← List.map_mergeSort (r := dataLe false fun p : α × Str => PyData.str p.2) (f := fun q : α × Str => (fa q.1, q.2)) (fun a _ b _ => rfl), List.map_map]
  rfl
theorem rqa_byN {K : PySem.W.Frag} {H : Hp} {ρ : Wd} {xs : List V} {ds : List R} (r : RqA K H ρ xs ds) {ts : List Str} (hl : ts.length = xs.length) : RqA K H ρ (byN xs ts) (byN ds ts) := by
  have hd := kn_rqalen r
  have e1 : xs.zip ts = ((xs.zip ds).zip ts).map fun q => (q.1.1, q.2) := by
    refine List.ext_getElem (by simp; omega) fun i h1 h2 => ?_
    simp
  have e2 : ds.zip ts = ((xs.zip ds).zip ts).map fun q => (q.1.2, q.2) := by
    refine List.ext_getElem (by simp; omega) fun i h1 h2 => ?_
    simp
  unfold byN
  rw [e1, e2, byN_map (fun q : V × R => q.1), byN_map (fun q : V × R => q.2)]
  refine kn_rqaof _ fun q hq => ?_
  have hq := (List.mergeSort_perm _ _).mem_iff.mp hq
  exact kn_rqazip r q.1 (List.of_mem_zip hq).1
theorem keys_run {X : Cx} {g : List R → Store → Out R} {Q : VK} {xs0 : List V} {ds0 : List R} : ∀ (xs : List V) (ds : List R) (ts : List Str) (S1 : Store) (H1 : Hp) (ρ1 : Wd), SR X.K H1 ρ1 S1 → RqA X.K H1 ρ1 xs0 ds0 → RqA X.K H1 ρ1 xs ds →
    RO X.K (relD X.K) E0 H1 ρ1 (keysM g ds ts S1 fun ts S2 => .ok (.ref S2.length) (S2 ++ [.lst (byN ds0 ts)])) Q → KeysN (spM X.K 1 g) xs ts H1 fun ts H2 => ts.length = xs0.length → ∀ p, H2 p = none → Q (.ref p) (upd H2 p (.lst (byN xs0 ts)))
  | _, _, ts, S1, H1, ρ1, s1, r0, .nil, h => fun hl p hp => RO.lst s1 (rqa_byN r0 hl) h hp
  | x :: xs, d :: ds, ts, S1, H1, ρ1, s1, r0, .cons rx rr, h => ⟨rfl, ρ1, S1, [d], s1, .cons rx .nil, RO.bind h fun kx S2 v2 H2 ρ2 m2 s2 r2 h2 => by
      split at h2
      · rename_i t
        cases r2 with
        | v r2 =>
          cases r2
          exact ⟨t, rfl, keys_run xs ds _ S2 H2 ρ2 s2 (r0.mo m2) ((show RqA X.K H1 ρ1 xs ds from rr).mo m2) h2⟩
      · exact h2.elim⟩
theorem mSortKN_eq (g : List R → Store → Out R) (e : ME) (m : Env) (S : Store) : mSortKN g e m S = (e m S).bind fun d S1 => match lstOf S1 d with
  | some xs => if xs.length ≤ 1000 then keysM g xs [] S1 fun ts S2 => .ok (.ref S2.length) (S2 ++ [.lst (byN xs ts)]) else .no
  | none => .no := id rfl
end M
namespace M
open PySem PySem.Spec L2
open PyProof.Rows hiding St
end M
namespace M
open PySem PySem.Spec PySem.W L2
open PyProof.Rows hiding St
section
variable {prog : Program} {w : World} {A : Around} {E : Value → Shared → Prop} {s : Shared}
/-- what list(t) lays ahead of a sort -/
def laid (h : Heap) (items : Array Value) : Heap := (h.push { cls := .type "list", data := .seq ([] : List Value).toArray }).update h.objs.size (Obj.mapSeq (· ++ items))
end
end M
namespace M
open PySem hiding Env
open PySem.Spec PyProof.Rows
open L2
/-- as Python's sorted lays them -/
def dsort (L : List D) : List D := L.mergeSort fun a b => !dLt b a
theorem dsort_perm (L : List D) : (dsort L).Perm L := List.mergeSort_perm _ _
structure SrtOk (L : List D) : Prop where
  py : ∃ ps, D.pys L = some ps ∧ PySem.W.AllAlike ps ∧ PySem.W.Sortable ps ∧ PyData.depthAll ps ≤ 60
section
variable {X : Cx} {E : L2.St → XK}
open Classical in
noncomputable def biSortX (ds : List R) (S : Store) : Out R := match ds with
  | [d] => match (lstOf S d).bind valsOf with
    | some L => if SrtOk L then .ok (.ref S.length) (S ++ [.lst ((dsort L).map .v)]) else .no
    | _ => .no
  | _ => .no
theorem biSortX_lst {S : Store} {L : List D} (h : SrtOk L) : biSortX [.v (.lst L)] S = .ok (.ref S.length) (S ++ [.lst ((dsort L).map .v)]) := by
  have e : lstOf S (.v (.lst L)) = some (L.map .v) := rfl
  simp only [biSortX, e, Option.bind_some, valsOf_map]
  rw [if_pos h]
theorem each_pairs {K : PySem.W.Frag} {H : Hp} {ρ : Wd} : ∀ {L : List D} {vs : List V} {its : List Value}, RpA K H ρ vs L → Vals vs its → PySem.W.EachIs (fun (v : Value) (p : D × V) => RelV p.2 v ∧ Rp K H ρ p.2 p.1) its (L.zip vs)
  | [], _, _, .nil, .nil => .nil
  | _ :: _, _, _, .cons r1 r2, .cons v1 v2 => .cons ⟨v1, r1⟩ (each_pairs r2 v2)
theorem pairs_back {K : PySem.W.Frag} {H : Hp} {ρ : Wd} : ∀ {ps : List (D × V)} {out : List Value}, PySem.W.EachIs (fun (v : Value) (p : D × V) => RelV p.2 v ∧ Rp K H ρ p.2 p.1) out ps → Vals (ps.map (·.2)) out ∧ RpA K H ρ (ps.map (·.2)) (ps.map (·.1))
  | [], _, .nil => ⟨.nil, .nil⟩
  | _ :: _, _, .cons a b => ⟨.cons a.1 (pairs_back b).1, .cons a.2 (pairs_back b).2⟩
theorem depth_mem : ∀ {ps : List PyData} {p : PyData}, p ∈ ps → p.depth ≤ PyData.depthAll ps
  | q :: qs, p, h => by
    simp only [PyData.depthAll]
    rcases List.mem_cons.mp h with rfl | h
    · omega
    · have := depth_mem h; omega
theorem pys_zip {α : Type} : ∀ {L : List D} {ps : List PyData} {vs : List α}, D.pys L = some ps → L.length = vs.length → (L.zip vs).map (fun p => p.1.py.getD .none) = ps
  | [], _, [], h, _ => by cases h; rfl
  | d :: L, _, v :: vs, h, hl => by
    obtain ⟨p, qs, rfl, e1, e2⟩ := pys_cons h
    rw [List.zip_cons_cons, List.map_cons, pys_zip e2 (by simpa using hl)]
    simp [e1]
theorem cam_sortX (hu : X.A.units + 65 < cLine) : CaM X (.builtin "sorted") biSortX := by
  rintro pins s σ H xs us Q I rv ⟨E, ρ, S, ds, sr, r, h⟩
  unfold biSortX at h
  split at h
  · rename_i d
    split at h
    · rename_i L hL
      split at h
      · rename_i ok
        obtain ⟨es, g1, g2⟩ := Option.bind_eq_some_iff.mp hL
        have g3 := valsOf_eq g2
        subst g3
        obtain ⟨v, rfl, r1⟩ := r.one
        obtain ⟨a, vs, rfl, hq, ra⟩ := sr.lsD r1 g1
        have rp := ra.p
        obtain ⟨ps, p1, p2, p3, p4⟩ := ok.py
        have dp := dpA_of L vs ps rp p1
        obtain ⟨its, rits, hl, hz⟩ := I.list hq
        obtain ⟨as, hra⟩ := Dp.readsAll I ps vs its dp rits
        have lL : L.length = vs.length := rp.length.symm
        have hm : (L.zip vs).map (fun p => p.1.py.getD .none) = ps := pys_zip p1 lL
        rw [Vals.ref1 rv]
        refine PySem.W.sorted_data (vs := its) (bs := L.zip vs) (enc := fun p : D × V => p.1.py.getD .none) (R := fun (v : Value) (p : D × V) => RelV p.2 v ∧ Rp X.K H ρ p.2 p.1) hl.isList (each_pairs rp rits) ?_ (by rw [hm]; exact p2) (by rw [hm]; exact p3) ?_ ?_ fun out ho eo => ?_
        · exact PySem.W.readsAll_each _ (by rw [hm]; exact hra)
        · rw [List.length_zip, lL, Nat.min_self]; exact hz
        · intro b hb
          have : (b.1.py.getD PyData.none) ∈ ps := by rw [← hm]; exact List.mem_map_of_mem hb
          have := depth_mem this
          show X.A.units + 2 + (b.1.py.getD PyData.none).depth < cLine
          omega
        · obtain ⟨ep, he'⟩ := sortedAll_at s.heap its out.toArray
          obtain ⟨w1, w2⟩ := pairs_back eo
          have hfst : ((L.zip vs).mergeSort (PySem.W.dataLe false fun p : D × V => p.1.py.getD .none)).map (·.1) = dsort L := by
            have e0 : (L.zip vs).map (·.1) = L := List.map_fst_zip (by omega)
            unfold dsort
            conv => rhs; rw [← e0]
            refine List.map_mergeSort fun a _ b _ => ?_
            rw [PySem.W.dataLe_eq]; rfl
          rw [hfst] at w2
          generalize ((L.zip vs).mergeSort (PySem.W.dataLe false fun p : D × V => p.1.py.getD .none)).map (·.2) = ys at w1 w2
          have hlen : ys.length ≤ sizeLine := by rw [w2.length, (dsort_perm L).length_eq, lL]; exact hz
          exact ⟨.ref _, upd H (s.heap.objs.size + 1) (.lst ys), I.laid (t' := s.toks) (fun _ _ => sortedAll_old) (Nat.le_succ _) ⟨hlen, out, ep, w1, he'⟩, rfl, RO.lst sr w2.q h (I.hok.fresh (Nat.le_succ _))⟩
      · exact h.elim
    · exact h.elim
  · exact h.elim
end
end M
namespace M
open PySem PySem.Spec PySem.W L2
open PyProof.Rows hiding St
end M
namespace M
open PySem hiding Env
open PySem.Spec PyProof.Rows
open L2
abbrev NK := NestedKey
section
variable {P : Program} {w : World} {A : Around} {E : Value → Shared → Prop} {s : Shared}
/-- n levels down v is of no class statement -/
def NoCls (P : Program) (w : World) (n : Nat) (s : Shared) (v : Value) : Prop := ∀ (A : Around) (E : Value → Shared → Prop) (Q : Bool → Shared → Prop), Q false s → wpAny (model P w) A (ofAClassStatement n v) Q E s
/-- whether its hash is by value is told, this or that -/
def ByVal (P : Program) (w : World) (n : Nat) (s : Shared) (v : Value) : Prop := ∀ (A : Around) (E : Value → Shared → Prop) (Q : Bool → Shared → Prop), (∀ b, Q b s) → wpAny (model P w) A (hashByValue n v) Q E s
theorem NoCls.tup {n m : Nat} {a : Addr} {o : Obj} {vs : Array Value} (ho : s.heap.get? a = some o) (hc : o.cls = .type "tuple") (hd : o.data = .seq vs m) (h : ∀ v ∈ vs.toList, NoCls P w n s v) : NoCls P w (n + 1) s (.ref a) := fun A E Q q => by
  have ty : s.TypeIs (.ref a) "tuple" := ⟨o, ho, hc⟩
  have et : (("tuple" : String) == "tuple") = true := by decide
  unfold ofAClassStatement
  refine wpAny_bind (wpAny_typeOf ty ?_)
  dsimp only; simp only [et, if_true, Bool.not_true, Bool.false_eq_true, if_false]
  try refine wpAny_bind (wpAny_pure ?_)
  try simp only [Bool.not_true, Bool.false_eq_true, if_false]
  show wpAny _ _ (seqItems? (.ref a) >>= _) _ _ _
  refine wpAny_bind (wpAny_seqItems ho hd ?_)
  dsimp only; refine wpAny_bind ?_
  show wpAny _ _ (forIn vs _ _) _ _ _
  rw [← Array.forIn_toList]; refine wpAny_forIn_list _ (fun l z s' => s' = s ∧ z.1 = none ∧ ∀ u ∈ l, NoCls P w n s u) _ ?_ ?_ _ _ ⟨rfl, rfl, h⟩
  · rintro u l z s' ⟨rfl, hz, hl⟩
    refine wpAny_bind (hl u (by simp) _ _ _ ?_); simp only [Bool.false_eq_true, if_false]
    exact wpAny_pure ⟨rfl, rfl, fun x hx => hl x (by simp [hx])⟩
  · rintro ⟨z, _⟩ s' ⟨rfl, hz, _⟩
    obtain rfl : z = none := hz
    exact wpAny_pure q
theorem ByVal.tup {n m : Nat} {a : Addr} {o : Obj} {vs : Array Value} (ho : s.heap.get? a = some o) (hc : o.cls = .type "tuple") (hd : o.data = .seq vs m) (h : ∀ v ∈ vs.toList, ByVal P w n s v) : ByVal P w (n + 1) s (.ref a) := fun A E Q q => by
  have ty : s.TypeIs (.ref a) "tuple" := ⟨o, ho, hc⟩
  unfold hashByValue
  refine wpAny_bind (wpAny_specialOf ty F.slot_tuple_hash.lookup ?_)
  show wpAny _ _ (seqItems? (.ref a) >>= _) _ _ _
  refine wpAny_bind (wpAny_seqItems ho hd ?_); refine wpAny_bind ?_
  show wpAny _ _ (forIn vs _ _) _ _ _
  rw [← Array.forIn_toList]; refine wpAny_forIn_list _ (fun l z s' => s' = s ∧ z.1 = none ∧ ∀ u ∈ l, ByVal P w n s u) _ ?_ ?_ _ _ ⟨rfl, rfl, h⟩
  · rintro u l z s' ⟨rfl, hz, hl⟩
    refine wpAny_bind (hl u (by simp) _ _ _ fun b => ?_)
    cases b with
    | false => simp only [Bool.not_false, if_true]; exact wpAny_pure (wpAny_pure (q false))
    | true => simp only [Bool.not_true, Bool.false_eq_true, if_false]; exact wpAny_pure ⟨rfl, rfl, fun x hx => hl x (by simp [hx])⟩
  · rintro ⟨z, _⟩ s' ⟨rfl, hz, _⟩
    obtain rfl : z = none := hz
    exact wpAny_pure (q true)
/-- the tuple at a is the key k -/
def KeyAt (h : Heap) (k : NK) (a : Addr) : Prop := NestedIs h k (.ref a) ∧ k.depth ≤ 8
theorem KeyAt.stay {h h' : Heap} {k : NK} {a : Addr} (x : KeyAt h k a) (st : ∀ b o vs n, h.get? b = some o → o.data = .seq vs n → h'.get? b = some o) : KeyAt h' k a := ⟨NestedIs.at st k _ x.1, x.2⟩
/-- a table's row of a key -/
def nkRow (w : World) (p : Addr × NK) : Int × Value := (p.2.hash w, .ref p.1)
def nkHash (w : World) (p : Addr × NK) : Int := p.2.hash w
/-- the set at a has just the keys of L -/
structure SetK (w : World) (h : Heap) (a : Addr) (L : List (Addr × NK)) (es : Array (Int × Value)) (ep : Nat) (t : SetTable) : Prop where
  obj : ∃ o, h.get? a = some o ∧ o.ExactSet ∧ o.data = .set es ep t
  rows : es.toList = L.map (nkRow w)
  tab : TabOk t (L.map (nkHash w))
  uniq : (L.map (·.2)).Nodup
  keys : ∀ p ∈ L, KeyAt h p.2 p.1
  led : w.params.followText "set-order" = true ∨ t.led = true
  room : L.length * 5 < t.mask * 3
  few : L.length < 64
variable {a : Addr} {L : List (Addr × NK)} {es : Array (Int × Value)} {ep : Nat} {t : SetTable}
theorem SetK.size (R : SetK w s.heap a L es ep t) : es.size = L.length := by rw [← Array.length_toList, R.rows, List.length_map]
theorem SetK.row (R : SetK w s.heap a L es ep t) {i : Nat} {p : Addr × NK} (h : L[i]? = some p) : es[i]? = some (nkRow w p) := by
  rw [← Array.getElem?_toList, R.rows, List.getElem?_map, h]; rfl
/-- what the set has of the first i items -/
structure NkHas (ks : List (Addr × NK)) (i : Nat) (L : List (Addr × NK)) : Prop where
  sub : ∀ p ∈ L, p ∈ ks.take i
  all : ∀ p ∈ ks.take i, p.2 ∈ L.map (·.2)
  le : L.length ≤ i
theorem NkHas.nil (ks : List (Addr × NK)) : NkHas ks 0 [] := ⟨fun p h => (by cases h), fun p h => (by simp at h), Nat.le_refl _⟩
theorem NkHas.new {ks L L' : List (Addr × NK)} {i : Nat} {x : Addr × NK} (g : NkHas ks i L) (h : ks[i]? = some x) (pm : L'.Perm (x :: L)) : NkHas ks (i + 1) L' := by
  have e : ks.take (i + 1) = ks.take i ++ [x] := by rw [List.take_add_one, h]; rfl
  refine ⟨fun p hp => ?_, fun p hp => ?_, by rw [pm.length_eq]; exact Nat.succ_le_succ g.le⟩
  · rw [e]
    rcases List.mem_cons.mp (pm.mem_iff.mp hp) with rfl | z
    · simp
    · exact List.mem_append_left _ (g.sub p z)
  · rw [(pm.map (·.2)).mem_iff, List.map_cons]
    rw [e] at hp
    rcases List.mem_append.mp hp with z | z
    · exact List.mem_cons_of_mem _ (g.all p z)
    · rw [List.mem_singleton.mp z]; exact List.mem_cons_self
theorem SetK.stay {h h' : Heap} (R : SetK w h a L es ep t) (sa : ∀ o, h.get? a = some o → h'.get? a = some o) (sk : ∀ p ∈ L, KeyAt h' p.2 p.1) : SetK w h' a L es ep t := by
  obtain ⟨o, ho, r⟩ := R.obj
  exact ⟨⟨o, sa o ho, r⟩, R.rows, R.tab, R.uniq, sk, R.led, R.room, R.few⟩
end
end M
namespace M
open PySem hiding Env
open PySem.Spec PyProof.Rows
open L2
end M
namespace M
open PySem hiding Env
open PySem.Spec PyProof.Rows
open L2
section
variable {P : Program} {w : World} {A : Around} {E : Value → Shared → Prop} {s : Shared} {K : Type} [DecidableEq K] (kd : KeyKind P w K)
def kvRow (p : Value × K) : Int × Value := (kd.hash p.2, p.1)
def kvHash (p : Value × K) : Int := kd.hash p.2
/-- the set at a has just the keys of L, by value -/
structure SetV (h : Heap) (a : Addr) (L : List (Value × K)) (es : Array (Int × Value)) (ep : Nat) (t : SetTable) : Prop where
  obj : ∃ o, h.get? a = some o ∧ o.ExactSet ∧ o.data = .set es ep t
  rows : es.toList = L.map (kvRow kd)
  tab : TabOk t (L.map (kvHash kd))
  uniq : (L.map (·.2)).Nodup
  keys : ∀ p ∈ L, kd.is p.2 p.1 = true ∧ p.1.scannable = true
  led : w.params.followText "set-order" = true ∨ t.led = true
  room : L.length * 5 < t.mask * 3
  few : L.length < 64
variable {kd} {a : Addr} {L : List (Value × K)} {es : Array (Int × Value)} {ep : Nat} {t : SetTable}
structure KvHas (ks : List (Value × K)) (i : Nat) (L : List (Value × K)) : Prop where
  sub : ∀ p ∈ L, p ∈ ks.take i
  all : ∀ p ∈ ks.take i, p.2 ∈ L.map (·.2)
  le : L.length ≤ i
theorem kv_take {ks : List (Value × K)} {i : Nat} {x : Value × K} (h : ks[i]? = some x) : ks.take (i + 1) = ks.take i ++ [x] := by rw [List.take_add_one, h]; rfl
theorem KvHas.new {ks L L' : List (Value × K)} {i : Nat} {x : Value × K} (g : KvHas ks i L) (h : ks[i]? = some x) (pm : L'.Perm (x :: L)) : KvHas ks (i + 1) L' := by
  refine ⟨fun p hp => ?_, fun p hp => ?_, by rw [pm.length_eq]; exact Nat.succ_le_succ g.le⟩
  · rw [kv_take h]
    rcases List.mem_cons.mp (pm.mem_iff.mp hp) with rfl | z
    · simp
    · exact List.mem_append_left _ (g.sub p z)
  · rw [(pm.map (·.2)).mem_iff, List.map_cons]
    rw [kv_take h] at hp
    rcases List.mem_append.mp hp with z | z
    · exact List.mem_cons_of_mem _ (g.all p z)
    · rw [List.mem_singleton.mp z]; exact List.mem_cons_self
theorem SetV.stay {h h' : Heap} (R : SetV kd h a L es ep t) (sa : ∀ o, h.get? a = some o → h'.get? a = some o) : SetV kd h' a L es ep t := by
  obtain ⟨o, ho, r⟩ := R.obj
  exact ⟨⟨o, sa o ho, r⟩, R.rows, R.tab, R.uniq, R.keys, R.led, R.room, R.few⟩
end
end M
namespace M
open PySem PySem.Spec L2
open PyProof.Rows hiding St
end M
namespace M
open PySem hiding Env
open PySem.Spec PyProof.Rows
open L2
end M
namespace M
open PySem PySem.Spec L2
open PyProof.Rows hiding St
/-- room (a frame a level), and nobody shows anything around -/
structure RoomG (k : Nat) (A : Around) : Prop where
  hd : A.handled = none
  dp : A.depth + k + 5 < recursionLimit
  un : A.units + 16 * k + 200 < cLine
  qu : A.guards = some []
theorem RoomG.mono {j k : Nat} {A : Around} (z : RoomG k A) (le : j ≤ k) : RoomG j A := ⟨z.hd, by have := z.dp; omega, by have := z.un; omega, z.qu⟩
theorem RoomG.deeper {k : Nat} {A : Around} (z : RoomG (k + 1) A) (en : PySem.Env) : RoomG k (A.deeper en) :=
  ⟨z.hd, by have := z.dp; show A.depth + 1 + k + 5 < _; omega, by have := z.un; show A.units + 3 + 16 * k + 200 < _; omega, z.qu⟩
theorem RoomG.in1 {k : Nat} {A : Around} (z : RoomG (k + 1) A) : RoomG k A.in1 :=
  ⟨z.hd, by have := z.dp; show A.depth + k + 5 < _; omega, by have := z.un; show A.units + 1 + 16 * k + 200 < _; omega, z.qu⟩
theorem RoomG.depth {k : Nat} {A : Around} (z : RoomG k A) : A.depth < recursionLimit := by have := z.dp; omega
theorem RoomG.units {k : Nat} {A : Around} (z : RoomG k A) : A.units + 64 < cLine := by have := z.un; omega
theorem RoomG.units65 {k : Nat} {A : Around} (z : RoomG k A) : A.units + 65 < cLine := by have := z.un; omega
structure FnG (P : Program) (w : World) (K : PySem.W.Frag) (mg : Str → Option Value) (base : Heap) (CX : CXT) (k : Nat) (f : Addr) (fd : FuncData) (ps : List Str) (sp : Sp) : Prop where
  size : ∀ xs H Q E, sp xs H Q E → xs.length = ps.length
  goes : ∀ (A : Around) (out : List PySem.Env) (t : Shared) (H : Hp) (ar : Args) (us : List Value) (xs : List V) (Q : VK) (E : XK), RoomG k A → Env0 P w K mg base A out t H → BindsTo t fd ar (ps.zip us) → Vals xs us → sp xs H Q E →
    codeAny (model P w) A (.call (.ref f) ar) (CR CX out P w H t Q E) t
section
variable {P : Program} {w : World} {K : PySem.W.Frag} {mg : Str → Option Value} {base : Heap}
theorem FnG.imp {CX : CXT} {k : Nat} {f : Addr} {fd : FuncData} {ps : List Str} {sp sq : Sp} (F : FnG P w K mg base CX k f fd ps sp) (h : ∀ xs H Q E, sq xs H Q E → sp xs H Q E) : FnG P w K mg base CX k f fd ps sq :=
  ⟨fun _ _ _ _ z => F.size _ _ _ _ (h _ _ _ _ z), fun A out t H ar us xs Q E a b c d e => F.goes A out t H ar us xs Q E a b c d (h _ _ _ _ e)⟩
theorem FnG.none {CX : CXT} {j n : Nat} {f : Addr} {fd : FuncData} {ps : List Str} (hn : ps.length = n) : FnG P w K mg base CX j f fd ps (spM K n fun _ _ => .no) :=
  ⟨fun _ _ _ _ h => h.1.trans hn.symm, fun _ _ _ _ _ _ _ _ _ _ _ _ _ h => by
    obtain ⟨_, _, _, _, _, _, h⟩ := h
    exact h.elim⟩
theorem FnG.pop {CX : CXT} {k n : Nat} {f : Addr} {fd : FuncData} {ps : List Str} {g : List R → Store → Out R} (F : FnG P w K mg base CX k f fd ps (spM K n g)) : FnG P w K mg base CX k f fd ps (spM K n fun ds S => (g ds S).bind (popV S)) :=
  F.imp fun xs H Q E h => by
    obtain ⟨hl, ρ, S, ds, sr, r, h⟩ := h
    exact ⟨hl, ρ, S, ds, sr, r, RO.pop sr h⟩
/-- a def of the text by its mirror -/
theorem okMG {x qual : Str} {st : Stmt} {f : Addr} {fd : FuncData} {N ps : List Str} {k n : Nat} {g : MS} (F : Fun K x qual st f fd) (S : FnScope N ps (defScope st)) (hn : ps.length = n)
    (h : ∀ (cdv : Value) (A : Around) (out : List PySem.Env) (t : Shared) (H : Hp) (E : XK), RoomG k (A.deeper (envOfC qual (defScope st) t.heap.objs.size f cdv)) → PSs (cxOf CX0 P w K mg base N qual (defScope st) f cdv A out t H E).nox (defBody st) (tS K E0' g)) :
    FnG P w K mg base CX0 (k + 1) f fd ps (spM K n (mDef N.length g)) := by
  obtain ⟨⟨oc, od, kV, doc, pm, an, cdv, ct, osl, rfl, found, code⟩, kp⟩ := F
  refine ⟨fun _ _ _ _ z => z.1.trans hn.symm, fun A out t H ar us xs Q E room e0 bnd rel hsp => ?_⟩
  have many : xs.length = ps.length := hsp.1.trans hn.symm
  have there : K.In t.heap := e0.mod.kin.keeps fun b o z => (e0.bs b o z).1
  have free : t.heap.NoLimit := e0.mod.nolimit.keeps fun b o z => (e0.bs b o z).1
  have kinds : ∀ y ∈ ps.zip us, (defScope st).names.lookup y.1 = some .local ∨ ((defScope st).names.lookup y.1 = some .cell ∧ ((cellsFrom (t.heap.objs.size + 1) (defScope st).names []).lookup y.1).isSome = true) := by
    rintro ⟨m, u⟩ hy
    refine (S.par m (List.of_mem_zip hy).1).imp id fun q => ⟨q, ?_⟩
    exact PySem.W.cellsFrom_some _ _ _ (.inl q)
  refine codeAny_call_function room.depth (there _ _ found) rfl S.co S.gen rfl (PySem.W.codeRec_of there code) (bnd _ _ _ _ ?_)
  refine wpAny_newFunctionEnv_cells S.kind kinds fun en he t1 inc => ?_
  subst he
  refine ⟨free.keeps inc.toInCall.keep, codeAny_func ?_⟩
  obtain ⟨_, ρ, S1, ds, sr, rq, q⟩ := hsp
  have body := (h cdv A out t H E (room.deeper _)).nox
  have at0 : Inv (cxOf CX0 P w K mg base N qual (defScope st) f cdv A out t H E) [] (L2.start N xs) H t1 := inv_start S room.hd e0 many rel inc
  have reads : tS K E0' g { nx := fun _ H' => Q .non H', rt := Q } (L2.start N xs) H := by
    refine ⟨ρ, _, S1, sr, EnvR.start rq, ?_⟩
    unfold mDef at q
    generalize g (ds.map some ++ List.replicate (N.length - ds.length) none) S1 = o at q ⊢
    cases o with
    | rt d S' => exact q
    | nx m S' => exact fun σ' H' ρ' mo s _ => q _ H' ρ' mo s .non
    | exc c m S' => exact q.elim
    | bk m S' => exact q.elim
    | ct m S' => exact q.elim
    | no => exact q
  refine wpAny_mono (body.run [] t1 (L2.start N xs) H _ at0 reads) (fun fl t2 z => ?_) fun _ _ z => z
  have ends : ∀ {τ : L2.St} {H' : Hp} {v : V} {u : Value}, Inv (cxOf CX0 P w K mg base N qual (defScope st) f cdv A out t H E) [] τ H' t2 → RelV v u → Q v H' → CE out P w H t Q u t2 := by
    intro τ H' v u J a b
    exact ⟨v, H', J.os, J.bare, J.base, J.hok, a, b⟩
  match fl, z with
  | .ret u, ⟨v, _, _, J, a, b⟩ => exact ends J a b
  | .next, ⟨_, _, J, b⟩ => exact ends (v := V.non) (u := Value.none) J rfl b
  | .brk, ⟨_, _, _, b⟩ => exact b.elim
  | .cont, ⟨_, _, _, b⟩ => exact b.elim
theorem okMVG {x qual : Str} {st : Stmt} {f : Addr} {fd : FuncData} {N ps : List Str} {k n : Nat} {g : MS} (F : Fun K x qual st f fd) (S : FnScope N ps (defScope st)) (hn : ps.length = n)
    (h : ∀ (cdv : Value) (A : Around) (out : List PySem.Env) (t : Shared) (H : Hp) (E : XK), RoomG k (A.deeper (envOfC qual (defScope st) t.heap.objs.size f cdv)) → PSs (cxOf CX0 P w K mg base N qual (defScope st) f cdv A out t H E).nox (defBody st) (tS K E0' g)) :
    FnG P w K mg base CX0 (k + 1) f fd ps (spM K n (mDefV N.length g)) := FnG.pop (okMG F S hn h)
end
section
variable {X : Cx} {CX : CXT} {k : Nat} {f C : Addr} {fd : FuncData} {ps : List Str} {sp : Sp} {Ex : XK} {x m' : Str} {p pos apos : Pos} {e o : Expr} {es : List Expr} {ta : TE} {t : TA}
/-- the callee, from within a body -/
theorem runG {pins : List (Addr × Obj)} {σ : L2.St} {H : Hp} {s : Shared} {Q : VK} {us : List Value} {xs : List V} (F : FnG X.prog X.w X.K X.mg X.base CX k f fd ps sp) (hr : RoomG k X.A) (hb : Binds X.K fd ps []) (hx : Passes CX X Ex)
    (I : Inv X pins σ H s) (rel : Vals xs us) (h : sp xs H Q Ex) : wpAny (model X.prog X.w) X.A (call (.ref f) us) (EP X pins σ Q) X.xe s := by
  have many : (us ++ []).length = ps.length := by rw [List.append_nil, ← rel.length]; exact F.size _ _ _ _ h
  have bnd := hb s us I.kIn many
  rw [List.append_nil] at bnd
  refine wpAny_call (codeAny_mono (F.goes X.A X.stack s H ⟨us, []⟩ us xs Q Ex hr I.env0 bnd rel h) fun res s2 z => ?_)
  match res, z with
  | .error y, z => exact hx pins σ H s y s2 I z
  | .ok (.ret _), z => exact I.after z
  | .ok .next, z => exact z.elim
  | .ok .brk, z => exact z.elim
  | .ok .cont, z => exact z.elim
theorem peg_call (F : FnG X.prog X.w X.K X.mg X.base CX k f fd ps sp) (hr : RoomG k X.A) (hg : Gl X x) (hm : X.mg x = some (.ref f)) (hk : PySem.W.keepIn X.K (.ref f) = true) (hb : Binds X.K fd ps []) (hx : Passes CX X Ex)
    (ha : PA X (e :: es) t) (hdb : (x == ("__debug__" : Str)) = false) (he : starEach (e :: es) X.env = (false, eval e X.env) :: starEach es X.env) (hpl : (backTo pos (starEach es X.env)).any (·.1) = false) :
    PE X (.Call (.Name x p) (e :: es) [] pos) (tCall sp [] Ex t) := ⟨fun pins s σ H Q I z => by
  refine wpAny_Call_Name_kw (ld_glob I hg hm (PySem.W.callWith_K (h₀ := X.base) I.ok.mod.kin hk (thn (ha.run pos pins s σ H _ I z) ?_) he hpl) hdb)
  rintro us s1 ⟨xs, H1, I1, rel, q⟩
  rw [List.append_nil] at q
  exact ⟨I1.kIn, runG F hr hb hx I1 rel q⟩⟩
end
section
variable {X : Cx} {E : L2.St → XK} {c : Str} {C : Addr} {p pos apos : Pos} {e o : Expr} {es : List Expr} {mo : ME} {mr : MA}
theorem pmg_call {x : Str} {CX : CXT} {k n : Nat} {f : Addr} {fd : FuncData} {ps : List Str} {g : List R → Store → Out R} (F : FnG X.prog X.w X.K X.mg X.base CX k f fd ps (spM X.K n g)) (hr : RoomG k X.A) (hg : Gl X x) (hm : X.mg x = some (.ref f)) (hk : PySem.W.keepIn X.K (.ref f) = true) (hb : Binds X.K fd ps [])
    {E0 : XK} (hx : Passes CX X E0) (hE : ∀ σ, E σ = E0) (ha : PA X (e :: es) (tA X.K E mr)) (hl : (e :: es).length = n := by rfl) (hdb : (x == ("__debug__" : Str)) = false := by decide) (he : starEach (e :: es) X.env = (false, eval e X.env) :: starEach es X.env := by rfl) (hpl : (backTo pos (starEach es X.env)).any (·.1) = false := by rfl)
    (hA : ∀ m S ds S', mr m S = .ok ds S' → ds.length = n) : PE X (.Call (.Name x p) (e :: es) [] pos) (tE X.K E (mCall g mr)) := by
  refine PE.imp (peg_call F hr hg hm hk hb hx ha hdb he hpl) ?_
  rintro σ H Q ⟨ρ, m, S, sr, er, h⟩
  have hA := hA m S
  refine ⟨ρ, m, S, sr, er, ?_⟩
  unfold mCall at h
  generalize mr m S = o at h hA ⊢
  cases o with
  | ok ds S1 =>
    refine fun xs H1 ρ1 m1 s1 r1 => ?_
    show spM X.K n g (xs ++ []) H1 Q E0
    rw [List.append_nil]
    refine ⟨by rw [r1.length]; exact hA ds S1 rfl, ρ1, S1, ds, s1, r1, ?_⟩
    rw [← hE σ]
    exact RO.mono h m1
  | exc c S1 => exact h
  | no => exact h
end
section
/-- of one list alone, handed in from outside -/
theorem law_runG {P : Program} {w : World} {K : PySem.W.Frag} {mg mb : Str → Option Value} {k : Nat} {fa a : Addr} {fd : FuncData} {x : Str} {g : List R → Store → Out R} {s : Shared} {vs : List Value} {ns : List Int}
    (inK : K.In s.heap) (hmain : s.heap.Ns mainGlobals mg) (hblt : s.heap.Ns builtinsNs mb) (hboot : ∀ y : Str, y ≠ "__name__" → mb y = bootBuiltins y) (nolim : s.heap.NoLimit) (nogen : s.gens = #[])
    (obj : s.heap.get? a = some { cls := .type "list", data := .seq vs.toArray }) (whole : IntsAre vs ns) (few : ns.length ≤ sizeLine) (room : RoomG k callerA)
    (F : ∀ base : Heap, K.In base → base.Ns mainGlobals mg → FnG P w K mg base CX0 k fa fd [x] (spM K 1 g)) (bnd : ∀ (t : Shared) (u : Value), BindsTo t fd ⟨[u], []⟩ [(x, u)])
    (ans : ∃ S', g [.v (.kl (ns.map D.int))] [] = .ok (.bl true) S') :
    codeAny (model P w) callerA (.call (.ref fa) ⟨[.ref a], []⟩) (fun r s' => r = .ok (.ret (.bool true)) ∧ OldK s.heap s'.heap ∧ s'.os = s.os ∧ AllBare s'.gens) s := by
  have cnt : vs.length = ns.length := whole.length
  -- with H tracked, H knowing at most the script
  have main : ∀ H : Hp, Only H → SqL K H a (ns.map V.int) → HOk P w H s.heap → (∀ b, H b ≠ none → b = a ∧ K.lookup a = none) →
      codeAny (model P w) callerA (.call (.ref fa) ⟨[.ref a], []⟩) (fun r s' => r = .ok (.ret (.bool true)) ∧ OldK s.heap s'.heap ∧ s'.os = s.os ∧ AllBare s'.gens) s := by
    intro H only sq ok just
    have isList : ∀ {b : Addr} {o : Obj}, s.heap.get? b = some o → H b ≠ none → o = { cls := .type "list", data := .seq vs.toArray } := by
      intro b o hb nb
      have := (just b nb).1
      subst this
      exact Option.some.inj (hb.symm.trans obj)
    have dicts : ∀ {b : Addr} {o : Obj} {es : Array DictEntry} {ep : Nat}, s.heap.get? b = some o → o.data = .dict es ep → H b = none := by
      intro b o es ep hb hd
      refine Classical.byContradiction fun nb => ?_
      rw [isList hb nb] at hd
      exact nomatch hd
    have spaces : ∀ {b : Addr} {f : Str → Option Value}, s.heap.Ns b f → (hidT s.heap H).Ns b f := by
      rintro b f ⟨o, es, ep, hb, hd, rest⟩
      exact ⟨o, es, ep, hidT_get hb (dicts hb hd), hd, rest⟩
    have keepK : K.In (hidT s.heap H) := by
      intro b o hb
      refine hidT_get (inK b o hb) (Classical.byContradiction fun nb => ?_)
      obtain ⟨rfl, none'⟩ := just b nb
      rw [none'] at hb
      exact nomatch hb
    obtain ⟨ml, l1, l2⟩ := nolim
    have start : Env0 P w K mg (hidT s.heap H) callerA [] s H := ⟨rfl, ⟨keepK, spaces hmain, ⟨mb, spaces hblt, hboot⟩, ⟨ml, spaces l1, l2⟩⟩, fun _ _ z => of_hidT z, Nat.le_of_eq (hidT_size _ _), trivial, (fun _ z => nomatch z), ok, .of_eq nogen⟩
    have call := (F _ keepK (spaces hmain)).goes callerA [] s H ⟨[.ref a], []⟩ [.ref a] [.ref a] (fun v _ => v = .bl true) (fun _ _ _ => False) room start (bnd s (.ref a)) (.cons rfl .nil) (law_sp only sq ans)
    refine codeAny_mono call ?_
    intro res s2 z
    match res, z with
    | .error _, z => exact z.elim
    | .ok .next, z => exact z.elim
    | .ok .brk, z => exact z.elim
    | .ok .cont, z => exact z.elim
    | .ok (.ret u), ⟨v, H2, os, bare, un, ok2, rel, isT⟩ =>
      have eu : u = Value.bool true := by rw [show v = V.bl true from isT] at rel; exact rel
      refine ⟨by rw [eu], OldK.of_keep ?_, os, bare⟩
      intro b o hb
      by_cases nb : H b = none
      · exact un.keep b o hb nb (fun z => nomatch z) (by simp)
      · rcases only b with z | ⟨ob, xs, z⟩
        · exact (nb z).elim
        · have z2 := un.frzs b ob _ z
          have e1 := (ok b _ z).1
          rw [hb] at e1
          obtain ⟨e2, _⟩ := ok2 b _ z2
          rw [e2]
          exact e1.symm
  have rel := vals_ints whole
  by_cases hk : K.lookup a = none
  · let ob : Obj := { cls := .type "list", data := .seq vs.toArray }
    let H : Hp := fun b => if b = a then some (.frz ob (.lst (ns.map V.int))) else none
    have at_ : H a = some (.frz ob (.lst (ns.map V.int))) := if_pos rfl
    have off : ∀ b, b ≠ a → H b = none := fun b z => if_neg z
    refine main H (fun b => ?_) (.inl (.inr ⟨ob, at_⟩)) (fun b u z => ?_) fun b z => ⟨Classical.byContradiction fun n => z (off b n), hk⟩
    · by_cases e : b = a
      · exact .inr ⟨_, _, by rw [e]; exact at_⟩
      · exact .inl (off b e)
    · by_cases e : b = a
      · subst e
        rw [at_] at z
        cases z
        exact ⟨obj, by rw [List.length_map]; exact few, vs, _, rel, obj⟩
      · rw [off b e] at z
        exact nomatch z
  · obtain ⟨o, ho⟩ := Option.ne_none_iff_exists'.mp hk
    have eo : o = { cls := .type "list", data := .seq vs.toArray } := Option.some.inj ((inK a o ho).symm.trans obj)
    subst eo
    exact main (fun _ => none) (fun _ => .inl rfl) (.inr ⟨_, vs.toArray, _, ho, rfl, rfl, rfl, by rw [List.size_toArray, cnt]; exact few, rel⟩) (fun _ _ z => nomatch z) fun _ z => (z rfl).elim
theorem walk_G {l : PySem.W.OpenLaw} {n k : Nat} {q : Program} {loose : List Str} {XP : (Str → Option Value) → Heap → Prop} {YP : World → Heap → Prop} {d : DefRec} {K : Params → PySem.W.Frag} {g : List R → Store → Out R} {x : Str}
    (hn : l.most = some n) (hn2 : n ≤ sizeLine) (hdf : d.params.defaults = []) (hr : RoomG k callerA) (hY : ∀ (w : World) (h : Heap), YP w h → (K w.params).In h)
    (F : ∀ (w : World) (mg : Str → Option Value) (fa : Addr) (h : Heap), (K w.params).In h → h.Ns mainGlobals mg → mg d.name = some (.ref fa) →
      ∃ fd : FuncData, (∀ (t : Shared) (u : Value), BindsTo t fd ⟨[u], []⟩ [(x, u)]) ∧ ∀ base : Heap, (K w.params).In base → base.Ns mainGlobals mg → FnG l.prog w (K w.params) mg base CX0 k fa fd [x] (spM (K w.params) 1 g))
    (ans : ∀ ns : List Int, ns.length ≤ n → ∃ S', g [.v (.kl (ns.map D.int))] [] = .ok (.bl true) S') : PySem.W.WalkO q loose XP YP l.row.toRowW d [] (fun f vs => PySem.call f vs) := by
  refine Att.attach_call hn hdf fun w s0 s1 mg mb fa o pm cd doc a vs ns G Y ho hd hcd hmg obj whole few nogen => ?_
  obtain ⟨fd, hb, all⟩ := F w mg fa _ (hY w _ Y) G.T.g hmg
  exact law_runG (hY w _ Y) G.T.g G.T.b G.T.builtins G.T.nolimit nogen obj whole (Nat.le_trans few hn2) hr all hb (ans ns few)
end
def reprD (d : D) : Option Str := d.py.bind fun p => if PyData.showable p = true ∧ PyData.canLay0 p = true ∧ p.depth ≤ 60 ∧ (PyData.shown p).length ≤ sizeLine then some (PyData.shown p) else none
end M
namespace M
open PySem PySem.Spec L2
open PyProof.Rows hiding St
def biRepr (ds : List R) (S : Store) : Out R := match ds with
  | [r] => match (view S r).bind reprD with
    | some x => .ok (.v (.str x)) S
    | none => .no
  | _ => .no
section
variable {X : Cx}
theorem noDict_of {p : PyData} (h : PyData.canLay0 p = true) : PyData.hasDict p = false := PyData.hasDict_of_canLay p h
theorem cam_repr (hg : X.A.guards = some []) (hu : X.A.units + 65 < cLine) : CaM X (.builtin "repr") biRepr := by
  rintro pins s σ H xs us Q I rv ⟨E, ρ, S, ds, sr, r, h⟩
  unfold biRepr at h
  split at h
  · rename_i d
    split at h
    · rename_i x hx
      obtain ⟨dd, g1, g2⟩ := Option.bind_eq_some_iff.mp hx
      obtain ⟨p, p1, p2⟩ := Option.bind_eq_some_iff.mp g2
      split at p2
      · rename_i ok
        obtain ⟨ok1, ok2, ok3, ok4⟩ := ok
        cases p2
        obtain ⟨v, rfl, r1⟩ := r.one
        obtain ⟨z', rp⟩ := view_ok sr r1 g1
        have dp := dp_of dd v p rp p1
        obtain ⟨u, rfl, ru⟩ := rv.one
        obtain ⟨as, hra⟩ := Dp.reads I p v u dp ru
        have fin : ∀ (h' : Heap) (tk0 tk : Tok), (∀ b o, s.heap.get? b = some o → h'.get? b = some o) → EP X pins σ Q (.str (PyData.shown p) tk0) { s with heap := h', toks := tk } := fun h' tk0 tk hk =>
          ⟨.str (PyData.shown p), H, I.kept hk, ⟨_, rfl⟩, h _ _ _ .refl sr (.v (.str _))⟩
        cases hra with
        | none => simp only [PyData.shown] at fin; exact P.repr_of_none (fin s.heap _ _ fun _ _ e => e)
        | bool b => simp only [PyData.shown] at fin; exact P.repr_of_bool (fin s.heap _ _ fun _ _ e => e)
        | int i t => simp only [PyData.shown, PyData.showable, decide_eq_true_eq] at fin ok1; exact P.repr_of_int ok1 (fin s.heap _ _ fun _ _ e => e)
        | str y t => simp only [PyData.shown] at fin ok4; exact P.repr_of_str (fin s.heap _ _ fun _ _ e => e) ok4
        | list h1 h2 h3 h4 => exact repr_of_reads' (.list h1 h2 h3 h4) ok1 (fun q => by rw [noDict_of ok2] at q; cases q) hg (by omega) (fun _ _ e => e) (fun h' u tk hk => fin h' u tk hk) ok4
        | tuple h1 h2 h3 h4 => exact repr_of_reads' (.tuple h1 h2 h3 h4) ok1 (fun q => by rw [noDict_of ok2] at q; cases q) hg (by omega) (fun _ _ e => e) (fun h' u tk hk => fin h' u tk hk) ok4
        | dict h1 h2 h3 h4 h5 => exact repr_of_reads' (.dict h1 h2 h3 h4 h5) ok1 (fun q => by rw [noDict_of ok2] at q; cases q) hg (by omega) (fun _ _ e => e) (fun h' u tk hk => fin h' u tk hk) ok4
      · cases p2
    · exact h.elim
  · exact h.elim
end
theorem biRepr_v {S : Store} {d : D} {x : Str} (h : reprD d = some x) : biRepr [.v d] S = .ok (.v (.str x)) S := by
  unfold biRepr
  simp only [view_v, Option.bind_some, h]
end M
namespace M
open PySem PySem.Spec PySem.W L2
open PyProof.Rows hiding St
section
variable {X : Cx} {pins : List (Addr × Obj)} {σ : L2.St} {H H' : Hp} {s : Shared} {h' : Heap} {a b : Addr} {k : Nat} {f : Addr} {fd : FuncData} {p : Str} {sp : Sp}
theorem key_callG {Q : VK} {x : V} {v : Value} (F : FnG X.prog X.w X.K X.mg X.base CX0 k f fd [p] sp) (hr : RoomG k X.A.in1.in1) (hb : Binds X.K fd [p] []) (I : Inv X pins σ H s) (r : RelV x v) (h : sp [x] H Q E0) :
    wpAny (model X.prog X.w) X.A.in1.in1 (call (.ref f) [v]) (EP X pins σ Q) (fun _ _ => False) s := by
  have hbs := hb s [v] I.kIn rfl
  refine wpAny_call (codeAny_mono (F.goes X.A.in1.in1 X.stack s H ⟨[v], []⟩ [v] [x] Q E0 hr I.env0.in1.in1 (by simpa using hbs) (.cons r .nil) h) fun r s' hq => ?_)
  cases r with
  | error e => exact hq
  | ok fl =>
    cases fl with
    | ret u => exact I.after hq
    | next => exact hq
    | brk => exact hq
    | cont => exact hq
theorem rest2G {a kS : Addr} {e1 : Nat} {x1 x2 : V} {v1 v2 : Value} {R : Str → Str → Hp → Prop} {P : PySem.Fin → Shared → Prop} {E : Value → Shared → Prop} (F : FnG X.prog X.w X.K X.mg X.base CX0 k f fd [p] sp) (hr : RoomG k X.A.in1.in1) (hb : Binds X.K fd [p] []) (hu : X.A.units + 20 < cLine)
    (r1 : RelV x1 v1) (r2 : RelV x2 v2) (hka : kS ≠ a) (st : Stg X pins σ sp x1 x2 R a kS e1 0 s)
    (fin : ∀ (s' : Shared) (t1 t2 : Str) (H' : Hp), Inv X pins σ (upd H' a (.lst (by2 (x1, t1) (x2, t2)))) s' → H' a = none → R t1 t2 H' → P (.done (.ret .none)) s') :
    wpAny (model X.prog X.w) X.A.in1.in1 (ksk_rest a (.ref f) false [v1, v2].toArray e1 (.ref kS)) P E s := by
  unfold ksk_rest
  refine wpAny_bind (wpAny_rule ?_)
  rw [List.forIn_toArray]
  refine wpAny_bind (ksk_fold (Stg X pins σ sp x1 x2 R a kS e1) [v1, v2] 0 s st ?_ ?_)
  · rintro j v s' hv ⟨H', keys, e, I, fa, fk, gk, ga, hc⟩
    rw [Nat.zero_add] at hc ⊢
    match j, hv, hc with
    | 0, hv, hc =>
      obtain rfl : v1 = v := by simpa using hv
      obtain ⟨rfl, hq⟩ : keys = #[] ∧ Keys2 sp x1 x2 H' R := by
        rcases hc with ⟨_, h1, h2⟩ | ⟨h, _⟩ | ⟨h, _⟩
        · exact ⟨h1, h2⟩
        · cases h
        · cases h
      refine wpAny_bind (wpAny_attempt (wpAny_mono (key_callG F hr hb (pin2 I fa fk gk ga (fun _ z => nomatch z) (fun _ z => nomatch z)) r1 hq) (fun uv s1 hq => ?_) fun _ _ z => z.elim))
      obtain ⟨g, H1, u, e', J, fa1, fk1, g1, g2, ru, t1, rfl, q⟩ := pushed fa fk hka hq
      obtain ⟨tk, rfl⟩ := ru
      refine wpAny_bind (listUpdate_at g rfl ?_ (Nat.zero_le _) (by show 1 ≤ _; exact Nat.succ_le_succ (Nat.zero_le _)))
      exact wpAny_pure ⟨rfl, H1, _, e', J, fa1, fk1, g1, g2, .inr (.inl ⟨rfl, t1, tk, rfl, q⟩)⟩
    | 1, hv, hc =>
      obtain rfl : v2 = v := by simpa using hv
      obtain ⟨t1, w1, rfl, hq⟩ : ∃ t1 u, keys = #[.str t1 u] ∧ sp [x2] H' (fun k2 H2 => ∃ t2, k2 = .str t2 ∧ R t1 t2 H2) E0 := by
        rcases hc with ⟨h, _⟩ | ⟨_, h⟩ | ⟨h, _⟩
        · cases h
        · exact h
        · cases h
      refine wpAny_bind (wpAny_attempt (wpAny_mono (key_callG F hr hb (pin2 I fa fk gk ga (fun _ z => nomatch z) (fun _ z => nomatch z)) r2 hq) (fun uv s1 hq => ?_) fun _ _ z => z.elim))
      obtain ⟨g, H1, u, e', J, fa1, fk1, g1, g2, ru, t2, rfl, q⟩ := pushed fa fk hka hq
      obtain ⟨tk, rfl⟩ := ru
      refine wpAny_bind (listUpdate_at g rfl ?_ (sz_of (by simp)) (by show 2 ≤ _; exact Nat.le_succ_of_le (sz_of (by decide))))
      exact wpAny_pure ⟨rfl, H1, _, e', J, fa1, fk1, g1, g2, .inr (.inr ⟨rfl, t1, w1, t2, tk, rfl, q⟩)⟩
    | j + 2, hv, _ => simp at hv
  · rintro s' ⟨H', keys, e, I, fa, fk, gk, ga, hc⟩
    obtain ⟨t1, u1, t2, u2, rfl, q⟩ : ∃ t1 u1 t2 u2, keys = #[.str t1 u1, .str t2 u2] ∧ R t1 t2 H' := by
      rcases hc with ⟨h, _⟩ | ⟨h, _⟩ | ⟨_, h⟩
      · cases h
      · cases h
      · exact h
    refine wpAny_bind (listItems_at gk rfl ?_)
    have h12 : EachIs (fun v k => ∃ as, Reads s'.heap v k as) [Value.str t1 u1, .str t2 u2] [PyData.str t1, .str t2] := .cons ⟨[], .str t1 u1⟩ (.cons ⟨[], .str t2 u2⟩ .nil)
    have hal : AllAlike [PyData.str t1, .str t2] := by
      intro d hd e he
      simp only [List.mem_cons, List.not_mem_nil, or_false] at hd he
      rcases hd with rfl | rfl <;> rcases he with rfl | rfl <;> rfl
    have hsk : Sortable [PyData.str t1, .str t2] := .inr fun d hd => by
      simp only [List.mem_cons, List.not_mem_nil, or_false] at hd
      rcases hd with rfl | rfl <;> exact ⟨(fun z => nomatch z), (fun _ z => nomatch z)⟩
    have hdep : ∀ d, d ∈ [PyData.str t1, .str t2] → X.A.in1.in1.units + d.depth < cLine := fun d hd => by
      have : X.A.in1.in1.units = X.A.units + 2 := rfl
      simp only [List.mem_cons, List.not_mem_nil, or_false] at hd
      rcases hd with rfl | rfl <;> (simp only [PyData.depth]; omega)
    refine keyH_end (κ := dataKind s'.heap [PyData.str t1, .str t2]) (h₁ := hideAll s'.heap [kS]) (vs := [v1, v2]) (fun b o _ z => of_hideAll _ z) (hideAll_none _ (by simp)) gk ga hka (SortsAt.data h12 hal hsk hdep) rfl (sz_of (by simp)) fun h' tk c kp hout => ?_
    have ko : KeyedOut false ([(x1, t1), (x2, t2)].map fun p : V × Str => PyData.str p.2) [v1, v2] (sortVals (dataKind s'.heap [PyData.str t1, .str t2]) false [Value.str t1 u1, .str t2 u2] [v1, v2]) := ⟨s'.heap, _, hal, rfl, h12⟩
    have ee : EachIs (fun v (p : V × Str) => RelV p.1 v) (sortVals (dataKind s'.heap [PyData.str t1, .str t2]) false [Value.str t1 u1, .str t2 u2] [v1, v2]) ([(x1, t1), (x2, t2)].mergeSort (dataLe false fun p : V × Str => PyData.str p.2)) :=
      keyedOut_each (R := fun v (p : V × Str) => RelV p.1 v) (fun p : V × Str => PyData.str p.2) ko (.cons r1 (.cons r2 .nil))
    have hm : [(x1, t1), (x2, t2)].mergeSort (dataLe false fun p : V × Str => PyData.str p.2) = if strLt t2 t1 then [(x2, t2), (x1, t1)] else [(x1, t1), (x2, t2)] := by
      rw [ms2, le_str]
      cases strLt t2 t1 <;> rfl
    have ev : Vals (by2 (x1, t1) (x2, t2)) (sortVals (dataKind s'.heap [PyData.str t1, .str t2]) false [Value.str t1 u1, .str t2 u2] [v1, v2]) := by
      rw [hm] at ee
      show Vals (if strLt t2 t1 then [x2, x1] else [x1, x2]) _
      generalize sortVals (dataKind s'.heap [PyData.str t1, .str t2]) false [Value.str t1 u1, .str t2 u2] [v1, v2] = out at ee
      generalize strLt t2 t1 = bb at ee
      cases bb with
      | true => simp only [if_true] at ee ⊢; cases ee with | cons h1 h2 => cases h2 with | cons h3 h4 => cases h4; exact .cons h1 (.cons h3 .nil)
      | false => simp only [Bool.false_eq_true, if_false] at ee ⊢; cases ee with | cons h1 h2 => cases h2 with | cons h3 h4 => cases h4; exact .cons h1 (.cons h3 .nil)
    refine fin _ t1 t2 H' (touch_lst (a := a) (n := c) I [a, kS] (fun b hb => ?_) (fun d o hd z => ?_) (by simp) ?_ ev hout) fa.1 q
    · simp only [List.mem_cons, List.not_mem_nil, or_false] at hb
      rcases hb with rfl | rfl
      · exact fa
      · exact fk
    · simp only [List.mem_cons, List.not_mem_nil, or_false, not_or] at hd
      exact kp d o hd.1 (hideAll_get _ z (by simp [hd.2]))
    · unfold by2; split <;> exact sz_of (by simp)
theorem cr_sortKG (F : FnG X.prog X.w X.K X.mg X.base CX0 k f fd [p] sp) (hr : RoomG k X.A.in1.in1) (hb : Binds X.K fd [p] []) (hu : X.A.units + 20 < cLine) : CallRK X (.builtin "sorted") [Str.ofString "key"] (rSortK X f sp) := by
  intro pins s σ H vs zs us ws Q I r rz h
  obtain ⟨l, x1, x2, rfl, rfl, hs, q⟩ := h
  obtain rfl := Vals.ref1 r
  obtain ⟨w1, rfl, e1⟩ := vals1 rz
  obtain rfl : w1 = Value.ref f := e1
  obtain ⟨its, rv, pl, hz⟩ := I.list hs
  obtain ⟨v1, v2, rfl, r1, r2⟩ : ∃ v1 v2, its = [v1, v2] ∧ RelV x1 v1 ∧ RelV x2 v2 := by
    cases rv with
    | cons a b => cases b with | cons c d => cases d; exact ⟨_, _, rfl, a, c⟩
  show wpAny _ _ (call (.builtin "sorted") [.ref l] [(Str.ofString "key", .ref f)]) _ _ _
  refine sorted_of_sort (vs := [v1, v2]) pl.isList (sz_of (by simp)) (ksk_s1 _ _) (fun x => ksk_l1 _ _) fun E' => ?_
  rw [ksk_t1]
  have hal : s.heap.objs.size ≤ s.heap.objs.size + 1 := Nat.le_succ _
  have c0 := copyHeap_at s.heap [v1, v2]
  have csz : (copyHeap s.heap [v1, v2]).objs.size = s.heap.objs.size + 2 := by
    unfold copyHeap; rw [size_push', Heap.size_update, size_push']
  obtain ⟨e1, c1⟩ : ∃ e1, ((copyHeap s.heap [v1, v2]).update (s.heap.objs.size + 1) (Obj.mapSeq fun _ => (#[] : Array Value))).get? (s.heap.objs.size + 1) = some (seqObj "list" #[] e1) := ⟨_, get?_update_seq c0 fun _ => #[]⟩
  unfold ksk_tree
  refine wpAny_bind (listItems_at c0 rfl ?_)
  refine wpAny_bind (listUpdate_at c0 rfl ?_ (sz_of (by simp)) (Nat.zero_le _))
  refine wpAny_bind (seqEpoch_at c1 rfl ?_)
  refine wpAny_bind (wpAny_newTuple ?_ (sz_of (by simp)))
  refine wpAny_bind (wpAny_newList ?_ (Nat.zero_le _))
  refine wpAny_holding ?_
  have usz : ((copyHeap s.heap [v1, v2]).update (s.heap.objs.size + 1) (Obj.mapSeq fun _ => (#[] : Array Value))).objs.size = s.heap.objs.size + 2 := by rw [Heap.size_update, csz]
  generalize hh : (copyHeap s.heap [v1, v2]).update (s.heap.objs.size + 1) (Obj.mapSeq fun _ => (#[] : Array Value)) = h0 at c1 usz
  have tsz : (h0.push { cls := .type "tuple", data := .seq ([v1, v2].toArray.toList).toArray }).objs.size = s.heap.objs.size + 3 := by rw [size_push', usz]
  have kp : ∀ b u, s.heap.get? b = some u → ((h0.push { cls := .type "tuple", data := .seq ([v1, v2].toArray.toList).toArray }).push { cls := .type "list", data := .seq ([] : List Value).toArray }).get? b = some u := fun b u q => by
    refine Heap.get?_push_of_some _ (Heap.get?_push_of_some _ ?_)
    rw [← hh]
    refine ((Heap.SameBut.update (copyHeap s.heap [v1, v2]) (s.heap.objs.size + 1) _).2 b (Nat.ne_of_lt (Nat.lt_succ_of_lt (Heap.lt_size q)))).trans (copyHeap_old q)
  rw [tsz]
  have I1 := I.kept (t' := s.toks) kp
  have fr : ∀ n, FpOk X pins H (s.heap.objs.size + n) := fun n => I.fpOk (Nat.le_add_right _ _) (I.hok.fresh (Nat.le_add_right _ _))
  have gk : ((h0.push { cls := .type "tuple", data := .seq ([v1, v2].toArray.toList).toArray }).push { cls := .type "list", data := .seq ([] : List Value).toArray }).get? (s.heap.objs.size + 3) = some (seqObj "list" #[] 0) := by
    rw [← tsz]; exact Heap.get?_push_size _ rfl
  have ga : ((h0.push { cls := .type "tuple", data := .seq ([v1, v2].toArray.toList).toArray }).push { cls := .type "list", data := .seq ([] : List Value).toArray }).get? (s.heap.objs.size + 1) = some (seqObj "list" #[] e1) :=
    Heap.get?_push_of_some _ (Heap.get?_push_of_some _ c1)
  refine rest2G (R := fun t1 t2 H2 => ∀ p, H2 p = none → Q (.ref p) (upd H2 p (.lst (by2 (x1, t1) (x2, t2))))) F hr hb hu r1 r2 (by
    intro z
    have : (s.heap.objs.size + 3 : Nat) = s.heap.objs.size + 1 := z
    omega) ⟨H, #[], 0, I1, fr 1, fr 3, gk, ga, .inl ⟨rfl, rfl, q⟩⟩ fun s' t1 t2 H' J hn hq => ⟨rfl, .ref _, _, J, rfl, hq _ hn⟩
theorem restNG {a kS : Addr} {e1 : Nat} {xs : List V} {vs : List Value} {R : List Str → Hp → Prop} {P : PySem.Fin → Shared → Prop} {E : Value → Shared → Prop} (F : FnG X.prog X.w X.K X.mg X.base CX0 k f fd [p] sp) (hr : RoomG k X.A.in1.in1) (hb : Binds X.K fd [p] []) (hu : X.A.units + 20 < cLine)
    (rv : Vals xs vs) (hz : xs.length ≤ 1000) (hka : kS ≠ a) (st : StgN X pins σ sp xs R a kS e1 0 s)
    (fin : ∀ (s' : Shared) (ts : List Str) (H' : Hp), ts.length = xs.length → Inv X pins σ (upd H' a (.lst (byN xs ts))) s' → H' a = none → R ts H' → P (.done (.ret .none)) s') :
    wpAny (model X.prog X.w) X.A.in1.in1 (ksk_rest a (.ref f) false vs.toArray e1 (.ref kS)) P E s := by
  have hl := rv.length
  have sz1 : (1000 : Nat) ≤ sizeLine := sz_of (by decide)
  unfold ksk_rest
  refine wpAny_bind (wpAny_rule ?_)
  rw [List.forIn_toArray]
  refine wpAny_bind (ksk_fold (StgN X pins σ sp xs R a kS e1) vs 0 s st ?_ ?_)
  · rintro j v s' hv ⟨H', keys, e, ts, I, fa, fk, gk, ga, hk, hlen, hc⟩
    rw [Nat.zero_add] at hlen hc ⊢
    have hj : j < xs.length := by have := (List.getElem?_eq_some_iff.mp hv).1; omega
    obtain ⟨v', hv', rx⟩ := rv.get (List.getElem?_eq_getElem hj)
    rw [hv] at hv'
    cases hv'
    rw [List.drop_eq_getElem_cons hj] at hc
    have hc : sp [xs[j]] H' (fun k1 H1 => ∃ t, k1 = .str t ∧ KeysN sp (xs.drop (j + 1)) (ts ++ [t]) H1 R) E0 := hc
    have ksz : keys.size = j := by have := kn_len hk; rw [Array.length_toList] at this; omega
    refine wpAny_bind (wpAny_attempt (wpAny_mono (key_callG F hr hb (pin2 I fa fk gk ga (fun _ z => nomatch z) (fun _ z => nomatch z)) rx hc) (fun uv s1 hq => ?_) fun _ _ z => z.elim))
    obtain ⟨g, H1, u, e', J, fa1, fk1, g1, g2, ru, t, rfl, q⟩ := pushed fa fk hka hq
    obtain ⟨tk, rfl⟩ := ru
    refine wpAny_bind (listUpdate_at g rfl ?_ (by rw [ksz]; omega) (by rw [Array.size_push, ksz]; omega))
    refine wpAny_pure ⟨rfl, H1, _, e', ts ++ [t], J, fa1, fk1, g1, g2, ?_, by simp [hlen], q⟩
    rw [Array.toList_push]
    exact kn_snoc hk ⟨tk, rfl⟩
  · rintro s' ⟨H', keys, e, ts, I, fa, fk, gk, ga, hk, hlen, hc⟩
    rw [Nat.zero_add] at hlen hc
    rw [List.drop_of_length_le (by omega)] at hc
    have q : R ts H' := hc
    have ksz : keys.size = vs.length := by have := kn_len hk; rw [Array.length_toList] at this; omega
    refine wpAny_bind (listItems_at gk rfl ?_)
    have h12 := kn_reads (h := s'.heap) hk
    have strx : ∀ d, d ∈ ts.map PyData.str → ∃ t, d = PyData.str t := fun d hd => by obtain ⟨t, _, rfl⟩ := List.mem_map.mp hd; exact ⟨t, rfl⟩
    have hal : AllAlike (ts.map PyData.str) := by
      intro d hd e he
      obtain ⟨t1, rfl⟩ := strx d hd
      obtain ⟨t2, rfl⟩ := strx e he
      rfl
    have hsk : Sortable (ts.map PyData.str) := .inr fun d hd => by
      obtain ⟨t1, rfl⟩ := strx d hd
      exact ⟨(fun z => nomatch z), (fun _ z => nomatch z)⟩
    have hdep : ∀ d, d ∈ ts.map PyData.str → X.A.in1.in1.units + d.depth < cLine := fun d hd => by
      have : X.A.in1.in1.units = X.A.units + 2 := rfl
      obtain ⟨t1, rfl⟩ := strx d hd
      simp only [PyData.depth]; omega
    refine keyH_end (κ := dataKind s'.heap (ts.map PyData.str)) (h₁ := hideAll s'.heap [kS]) (vs := vs) (fun b o _ z => of_hideAll _ z) (hideAll_none _ (by simp)) gk ga hka (SortsAt.data h12 hal hsk hdep) ksz (by omega) fun h' tk c kp hout => ?_
    have ezip : (xs.zip ts).map (fun p : V × Str => PyData.str p.2) = ts.map PyData.str := by
      have : (xs.zip ts).map (·.2) = ts := List.map_snd_zip (by omega)
      calc _ = ((xs.zip ts).map (·.2)).map PyData.str := by rw [List.map_map]; rfl
        _ = _ := by rw [this]
    have ko : KeyedOut false ((xs.zip ts).map fun p : V × Str => PyData.str p.2) vs (sortVals (dataKind s'.heap (ts.map PyData.str)) false keys.toList vs) := ⟨s'.heap, keys.toList, by rw [ezip]; exact hal, by rw [ezip], by rw [ezip]; exact h12⟩
    have ee := keyedOut_each (R := fun v (p : V × Str) => RelV p.1 v) (fun p : V × Str => PyData.str p.2) ko (kn_zip rv (by omega))
    have ev : Vals (byN xs ts) (sortVals (dataKind s'.heap (ts.map PyData.str)) false keys.toList vs) := kn_vals ee
    refine fin _ ts H' (by omega) (touch_lst (a := a) (n := c) I [a, kS] (fun b hb => ?_) (fun d o hd z => ?_) (by simp) (by rw [byN_len (by omega)]; omega) ev hout) fa.1 q
    · simp only [List.mem_cons, List.not_mem_nil, or_false] at hb
      rcases hb with rfl | rfl
      · exact fa
      · exact fk
    · simp only [List.mem_cons, List.not_mem_nil, or_false, not_or] at hd
      exact kp d o hd.1 (hideAll_get _ z (by simp [hd.2]))
theorem cr_sortKNG (F : FnG X.prog X.w X.K X.mg X.base CX0 k f fd [p] sp) (hr : RoomG k X.A.in1.in1) (hb : Binds X.K fd [p] []) (hu : X.A.units + 20 < cLine) : CallRK X (.builtin "sorted") [Str.ofString "key"] (rSortKN X f sp) := by
  intro pins s σ H vs zs us ws Q I r rz h
  obtain ⟨l, xs, rfl, rfl, hs, hz, q⟩ := h
  obtain rfl := Vals.ref1 r
  obtain ⟨w1, rfl, e1⟩ := vals1 rz
  obtain rfl : w1 = Value.ref f := e1
  obtain ⟨its, rv, pl, _⟩ := I.list hs
  have hl := rv.length
  have sz1 : (1000 : Nat) ≤ sizeLine := sz_of (by decide)
  show wpAny _ _ (call (.builtin "sorted") [.ref l] [(Str.ofString "key", .ref f)]) _ _ _
  refine sorted_of_sort (vs := its) pl.isList (by omega) (ksk_s1 _ _) (fun x => ksk_l1 _ _) fun E' => ?_
  rw [ksk_t1]
  have hal : s.heap.objs.size ≤ s.heap.objs.size + 1 := Nat.le_succ _
  have c0 := copyHeap_at s.heap its
  have csz : (copyHeap s.heap its).objs.size = s.heap.objs.size + 2 := by
    unfold copyHeap; rw [size_push', Heap.size_update, size_push']
  obtain ⟨e1, c1⟩ : ∃ e1, ((copyHeap s.heap its).update (s.heap.objs.size + 1) (Obj.mapSeq fun _ => (#[] : Array Value))).get? (s.heap.objs.size + 1) = some (seqObj "list" #[] e1) := ⟨_, get?_update_seq c0 fun _ => #[]⟩
  unfold ksk_tree
  refine wpAny_bind (listItems_at c0 rfl ?_)
  refine wpAny_bind (listUpdate_at c0 rfl ?_ (by simp; omega) (Nat.zero_le _))
  refine wpAny_bind (seqEpoch_at c1 rfl ?_)
  refine wpAny_bind (wpAny_newTuple ?_ (by simp; omega))
  refine wpAny_bind (wpAny_newList ?_ (Nat.zero_le _))
  refine wpAny_holding ?_
  have usz : ((copyHeap s.heap its).update (s.heap.objs.size + 1) (Obj.mapSeq fun _ => (#[] : Array Value))).objs.size = s.heap.objs.size + 2 := by rw [Heap.size_update, csz]
  generalize hh : (copyHeap s.heap its).update (s.heap.objs.size + 1) (Obj.mapSeq fun _ => (#[] : Array Value)) = h0 at c1 usz
  have tsz : (h0.push { cls := .type "tuple", data := .seq (its.toArray.toList).toArray }).objs.size = s.heap.objs.size + 3 := by rw [size_push', usz]
  have kp : ∀ b u, s.heap.get? b = some u → ((h0.push { cls := .type "tuple", data := .seq (its.toArray.toList).toArray }).push { cls := .type "list", data := .seq ([] : List Value).toArray }).get? b = some u := fun b u q => by
    refine Heap.get?_push_of_some _ (Heap.get?_push_of_some _ ?_)
    rw [← hh]
    refine ((Heap.SameBut.update (copyHeap s.heap its) (s.heap.objs.size + 1) _).2 b (Nat.ne_of_lt (Nat.lt_succ_of_lt (Heap.lt_size q)))).trans (copyHeap_old q)
  rw [tsz]
  have I1 := I.kept (t' := s.toks) kp
  have fr : ∀ n, FpOk X pins H (s.heap.objs.size + n) := fun n => I.fpOk (Nat.le_add_right _ _) (I.hok.fresh (Nat.le_add_right _ _))
  have gk : ((h0.push { cls := .type "tuple", data := .seq (its.toArray.toList).toArray }).push { cls := .type "list", data := .seq ([] : List Value).toArray }).get? (s.heap.objs.size + 3) = some (seqObj "list" #[] 0) := by
    rw [← tsz]; exact Heap.get?_push_size _ rfl
  have ga : ((h0.push { cls := .type "tuple", data := .seq (its.toArray.toList).toArray }).push { cls := .type "list", data := .seq ([] : List Value).toArray }).get? (s.heap.objs.size + 1) = some (seqObj "list" #[] e1) :=
    Heap.get?_push_of_some _ (Heap.get?_push_of_some _ c1)
  refine restNG (R := fun ts H2 => ts.length = xs.length → ∀ p, H2 p = none → Q (.ref p) (upd H2 p (.lst (byN xs ts)))) F hr hb hu rv hz (by
    intro z
    have : (s.heap.objs.size + 3 : Nat) = s.heap.objs.size + 1 := z
    omega) ⟨H, #[], 0, [], I1, fr 1, fr 3, gk, ga, .nil, rfl, q⟩ fun s' ts H' hlt J hn hq => ⟨rfl, .ref _, _, J, rfl, hq hlt _ hn⟩
end
theorem pmg_sortK {X : Cx} {E : L2.St → XK} {e : Expr} {me : ME} {fn pn : Str} {q p kpos pos : Pos} {k : Nat} {f : Addr} {fd : FuncData} {g : List R → Store → Out R} (hg : Gl X "sorted") (hm : X.mg "sorted" = none) (hgf : Gl X fn) (hmf : X.mg fn = some (.ref f))
    (F : FnG X.prog X.w X.K X.mg X.base CX0 k f fd [pn] (spM X.K 1 g)) (hr : RoomG k X.A.in1.in1) (hb : Binds X.K fd [pn] []) (hu : X.A.units + 64 < cLine) (hE : ∀ σ, E σ = E0) (ha : PE X e (tE X.K E me))
    (hd : (fn == ("__debug__" : Str)) = false := by decide)
    (he : backTo pos (starEach [e] X.env) = (false, eval e X.env) :: backTo pos (starEach [] X.env) := by rfl) (hpl : (backTo pos (starEach [e] X.env)).any (·.1) = false := by rfl)
    (hs : starEach [e] X.env = (false, eval e X.env) :: starEach [] X.env := by rfl)
    (hall : (backToKw pos (keywordEach [⟨some "key", .Name fn q, kpos⟩] X.env)).all (·.1.isSome) = true := by rfl) (hnone : (backToKw pos (keywordEach [⟨some "key", .Name fn q, kpos⟩] X.env)).any (·.1.isNone) = false := by rfl) (hks : (backToKw pos (keywordEach [⟨some "key", .Name fn q, kpos⟩] X.env)).filterMap (·.1) = [Str.ofString "key"] := by rfl) :
    PE X (.Call (.Name "sorted" p) [e] [⟨some "key", .Name fn q, kpos⟩] pos) (tE X.K E (mSortK g me)) := by
  refine PE.imp (pe_callBK (cr_sortKG F hr hb (by omega)) hg hm rfl (pa_cons ha pa_nil hs) (pk_cons (pe_glob hgf hmf (v := .ref f) rfl hd) pk_nil) (by decide) (by decide) he hpl hall hnone hks) ?_
  rintro σ H Q ⟨ρ, m, S, sr, er, h⟩
  refine ⟨ρ, m, S, sr, er, RO.bind h fun d S1 v H1 ρ1 m1 s1 r1 h1 => ?_⟩
  rw [hE] at h1
  show rSortK X f (spM X.K 1 g) [v] [.ref f] H1 Q
  split at h1
  · rename_i x y hxy
    obtain ⟨l, xs, rfl, hq, ra⟩ := s1.lsD r1 hxy
    cases ra with
    | cons rx rr =>
      cases rr with
      | cons ry rr =>
        cases rr
        refine ⟨l, _, _, rfl, rfl, hq, rfl, ρ1, S1, [x], s1, .cons rx .nil, RO.bind h1 fun kx S2 v2 H2 ρ2 m2 s2 r2 h2 => ?_⟩
        split at h2
        · rename_i a
          cases r2 with
          | v r2 =>
            cases r2
            refine ⟨a, rfl, rfl, ρ2, S2, [y], s2, .cons (ry.mo m2) .nil, RO.bind h2 fun ky S3 v3 H3 ρ3 m3 s3 r3 h3 => ?_⟩
            split at h3
            · rename_i b
              cases r3 with
              | v r3 =>
                cases r3
                refine ⟨b, rfl, fun p hp => RO.lst s3 ?_ h3 hp⟩
                unfold by2
                split
                · exact .cons ((ry.mo m2).mo m3) (.cons ((rx.mo m2).mo m3) .nil)
                · exact .cons ((rx.mo m2).mo m3) (.cons ((ry.mo m2).mo m3) .nil)
            · exact h3.elim
        · exact h2.elim
  · exact h1.elim
theorem pmg_sortKN {X : Cx} {E : L2.St → XK} {e : Expr} {me : ME} {fn pn : Str} {q p kpos pos : Pos} {k : Nat} {f : Addr} {fd : FuncData} {g : List R → Store → Out R} (hg : Gl X "sorted") (hm : X.mg "sorted" = none) (hgf : Gl X fn) (hmf : X.mg fn = some (.ref f))
    (F : FnG X.prog X.w X.K X.mg X.base CX0 k f fd [pn] (spM X.K 1 g)) (hr : RoomG k X.A.in1.in1) (hb : Binds X.K fd [pn] []) (hu : X.A.units + 64 < cLine) (hE : ∀ σ, E σ = E0) (ha : PE X e (tE X.K E me))
    (hd : (fn == ("__debug__" : Str)) = false := by decide)
    (he : backTo pos (starEach [e] X.env) = (false, eval e X.env) :: backTo pos (starEach [] X.env) := by rfl) (hpl : (backTo pos (starEach [e] X.env)).any (·.1) = false := by rfl)
    (hs : starEach [e] X.env = (false, eval e X.env) :: starEach [] X.env := by rfl)
    (hall : (backToKw pos (keywordEach [⟨some "key", .Name fn q, kpos⟩] X.env)).all (·.1.isSome) = true := by rfl) (hnone : (backToKw pos (keywordEach [⟨some "key", .Name fn q, kpos⟩] X.env)).any (·.1.isNone) = false := by rfl) (hks : (backToKw pos (keywordEach [⟨some "key", .Name fn q, kpos⟩] X.env)).filterMap (·.1) = [Str.ofString "key"] := by rfl) :
    PE X (.Call (.Name "sorted" p) [e] [⟨some "key", .Name fn q, kpos⟩] pos) (tE X.K E (mSortKN g me)) := by
  refine PE.imp (pe_callBK (cr_sortKNG F hr hb (by omega)) hg hm rfl (pa_cons ha pa_nil hs) (pk_cons (pe_glob hgf hmf (v := .ref f) rfl hd) pk_nil) (by decide) (by decide) he hpl hall hnone hks) ?_
  rintro σ H Q ⟨ρ, m, S, sr, er, h⟩
  refine ⟨ρ, m, S, sr, er, RO.bind h fun d S1 v H1 ρ1 m1 s1 r1 h1 => ?_⟩
  rw [hE] at h1
  show rSortKN X f (spM X.K 1 g) [v] [.ref f] H1 Q
  split at h1
  · rename_i ys hys
    split at h1
    · rename_i hz
      obtain ⟨l, xs, rfl, hq, ra⟩ := s1.lsD r1 hys
      exact ⟨l, xs, rfl, rfl, hq, by rw [kn_rqalen ra]; exact hz, keys_run xs ys [] S1 H1 ρ1 s1 ra ra h1⟩
    · exact h1.elim
  · exact h1.elim
end M
namespace Q
open PySem hiding Env
open L2 M
end Q
namespace Q
open PySem hiding Env
open L2 M
/-- what is drawn from -/
structure Hnd where
  x : Int
  y : Int
  hx : 0 ≤ x
  hy : 0 ≤ y
  hz : y < 2305843009213693951
def Hnd.c (h : Hnd) : MO := .lst [.v (.int h.x), .v (.int h.y)]
theorem Hnd.lo (h : Hnd) (k : Nat) : h.c.lo k := lo_lst [.int h.x, .int h.y] k
theorem nab {i : Int} {k : Nat} (h0 : 0 ≤ i) (h : i < 2 ^ k) : i.natAbs < 2 ^ k := by
  have : ((i.natAbs : Nat) : Int) = i := by omega
  have h2 : ((i.natAbs : Nat) : Int) < ((2 ^ k : Nat) : Int) := by rw [this]; simpa using h
  exact_mod_cast h2
def ends : List Str := ["", "a", "zz", "abcde"]
end Q
namespace Q
open PySem hiding Env
open L2 M
noncomputable def m_is_word : MS :=
  (mSeq (mIfS (mtOr (mtNot (mtTru (mCall biIsi (mCons (mVar 0) (mCons (mC (.ty "str")) mNil))))) (mtNot (mtB (mChain opLe opLe (mC (.int 1)) (mCall biLen (mCons (mVar 0) mNil)) (mC (.int 8)))))) (mRet (mC (.bl false))) mSkip)
  (mRet (mCall biAll (mCons (mPop (mLc (srcAny (mVar 0)) [1] (tgN 1) mtYes (mBin opIn (mVar 1) (mC (.str "abcdefghijklmnopqrstuvwxyz"))))) mNil))))
noncomputable def M_is_word : List R → Store → Out R := mDefV 2 (m_is_word)
noncomputable def m_is_tree (g_is_tree : List R → Store → Out R) (g_is_word : List R → Store → Out R) : MS :=
  (mSeq (mIfS (mtTru (mCall biIsi (mCons (mVar 0) (mCons (mC (.ty "tuple")) mNil)))) (mRet (mAnd (mBin opEq (mCall biLen (mCons (mVar 0) mNil)) (mC (.int 2))) (mAnd (mCall g_is_tree (mCons (mBin opIx (mVar 0) (mC (.int 0))) mNil)) (mCall g_is_tree (mCons (mBin opIx (mVar 0) (mC (.int 1))) mNil))))) mSkip)
  (mRet (mCall g_is_word (mCons (mVar 0) mNil))))
noncomputable def R_is_tree : Nat → List R → Store → Out R
  | 0 => fun _ _ => .no
  | k + 1 => mDefV 1 (m_is_tree (R_is_tree k) M_is_word)
noncomputable def m_text_of (g_text_of : List R → Store → Out R) : MS :=
  (mSeq (mIfS (mtTru (mCall biIsi (mCons (mVar 0) (mCons (mC (.ty "tuple")) mNil)))) (mRet (mBin opAdd (mBin opAdd (mBin opAdd (mBin opAdd (mC (.str "(")) (mCall g_text_of (mCons (mBin opIx (mVar 0) (mC (.int 0))) mNil))) (mC (.str ","))) (mCall g_text_of (mCons (mBin opIx (mVar 0) (mC (.int 1))) mNil))) (mC (.str ")")))) mSkip)
  (mRet (mVar 0)))
noncomputable def R_text_of : Nat → List R → Store → Out R
  | 0 => fun _ _ => .no
  | k + 1 => mDefV 1 (m_text_of (R_text_of k))
end Q
namespace Q
open PySem hiding Env
open L2 M
theorem isi_str (d : D) (h : notTy d = true) (S : Store) : biIsi [.v d, .v (.ty "str")] S = .ok (.v (.bl (isStr d))) S := by
  cases d <;> first | (simp [biIsi, tyName, tyD, kb_ss, kb_ts, kb_is, kb_bs, kb_ns, kb_ls, kb_ds, isStr]; done) | cases h
theorem isi_tuple (d : D) (h : notTy d = true) (S : Store) : biIsi [.v d, .v (.ty "tuple")] S = .ok (.v (.bl (isTup d))) S := by
  cases d <;> first | (simp [biIsi, tyName, tyD, kb_st, kb_tt, kb_it, kb_bt, kb_nt, kb_lt, kb_dt, isTup]; done) | cases h
def isWordS (w : Str) : Bool := decide (1 ≤ w.length) && decide (w.length ≤ 8) && w.cps.toList.all fun c => decide (97 ≤ c) && decide (c ≤ 122)
def isWord : D → Bool
  | .str w => isWordS w
  | _ => false
theorem isWordS_good {w : Str} (h : GoodW w) : isWordS w = true := by
  obtain ⟨h1, h2, h3⟩ := h
  simp only [isWordS, Bool.and_eq_true, decide_eq_true_eq, List.all_eq_true]
  exact ⟨⟨h1, h2⟩, fun c hc => h3 c hc⟩
theorem letters_in (c : Nat) : decide (c ∈ (Str.ofString "abcdefghijklmnopqrstuvwxyz").cps.toList) = (decide (97 ≤ c) && decide (c ≤ 122)) := by
  have e : (Str.ofString "abcdefghijklmnopqrstuvwxyz").cps.toList = (List.range 26).map (97 + ·) := by decide +kernel
  rw [e]
  apply Bool.eq_iff_iff.mpr
  simp only [decide_eq_true_eq, Bool.and_eq_true, List.mem_map, List.mem_range]
  constructor
  · rintro ⟨a, h, rfl⟩; omega
  · rintro ⟨h1, h2⟩; exact ⟨c - 97, by omega, by omega⟩
def szStr : D → Prop
  | .str w => w.length ≤ 16777216
  | .ty _ => False
  | .txt => False
  | .kt _ => False
  | _ => True
theorem is_word_spec (d : D) (h : szStr d) (S : Store) : M_is_word [.v d] S = .ok (.v (.bl (isWord d))) S := by
  have hty : notTy d = true := by cases d <;> first | rfl | cases h
  by_cases hs : isStr d = true
  · obtain ⟨w, rfl⟩ : ∃ w, d = .str w := by cases d <;> first | exact ⟨_, rfl⟩ | (cases hs; done) | exact h.elim
    have hw : w.length ≤ sizeLine := sz_of h
    by_cases hc : (1 : Int) ≤ (w.length : Int) ∧ (w.length : Int) ≤ 8
    · have lc := lc_map (S := S) (t := tgN 1) (c := mtYes) (f := mBin opIn (mVar 1) (mC (.str "abcdefghijklmnopqrstuvwxyz"))) (m := [some (.v (.str w)), none]) (fun c : Nat => .v (.str ⟨#[c]⟩)) (fun _ => true) (fun c => .bl (decide (97 ≤ c) && decide (c ≤ 122))) w.cps.toList (sz_of (by rw [Array.length_toList, ← str_len]; exact h)) (by
        intro x hx acc
        exact ⟨_, rfl, rfl, fun _ => by simp only [mBin_eq, mVar_eq, mC_eq, List.set_cons_succ, List.set_cons_zero, List.getElem?_cons_succ, List.getElem?_cons_zero, Out.bind_ok, opIn_sign, letters_in]⟩)
      refine mDefV_rt0 ?_
      rw [List.filter_eq_self.mpr (by simp)] at lc
      have e : (w.cps.toList.map fun c => D.bl (decide (97 ≤ c) && decide (c ≤ 122))) = (w.cps.toList.map fun c => (decide (97 ≤ c) && decide (c ≤ 122))).map D.bl := by rw [List.map_map]; rfl
      rw [e] at lc
      simp only [m_is_word, srcAny, chars, wipeM, List.map_cons, List.map_nil, List.length_cons, List.length_nil, List.replicate, List.cons_append, List.nil_append, mSeq_eq, mIfS_eq, mtOr_eq, mtNot_eq, mtB_eq, mChain_eq, mtTru_eq, mCall_eq, mCons_eq, mVar_eq, mC_eq, mNil_eq, List.getElem?_cons_zero, Out.bind_ok, isi_str_str, truM_bl, thenS_ok, mSkip_eq, mRet_eq, mBin_eq, Bool.not_true, biLen_str hw, opCmpI_int, onBl_bl, hc.1, hc.2, decide_true, mPop_eq, mLc_eq, List.set_cons_succ, List.set_cons_zero, lc, biAll_lst]
      congr 3
      simp only [isWord, isWordS]
      rw [decide_eq_true (show 1 ≤ w.length by omega), decide_eq_true (show w.length ≤ 8 by omega), List.all_map]
      rfl
    · have hf : isWordS w = false := by
        simp only [isWordS, Bool.and_eq_false_iff, decide_eq_false_iff_not]
        exact .inl (by omega)
      refine mDefV_rt0 ?_
      by_cases h1 : (1 : Int) ≤ (w.length : Int)
      · have h2 : ¬ (w.length : Int) ≤ 8 := fun h2 => hc ⟨h1, h2⟩
        simp [m_is_word, biLen_str hw, isWord, hf, h1, h2]
      · simp [m_is_word, biLen_str hw, isWord, hf, h1]
  · have hs : isStr d = false := by simpa using hs
    have hw : isWord d = false := by cases d <;> first | rfl | cases hs
    refine mDefV_rt0 ?_
    simp [m_is_word, isi_str d hty, hs, hw]
/-- what is_tree tells of data so many deep -/
def isTreeN : Nat → D → Bool
  | 0, _ => false
  | k + 1, .tup [a, b] => isTreeN k a && isTreeN k b
  | _ + 1, .tup _ => false
  | _ + 1, d => isWord d
def Shal : Nat → D → Prop
  | 0, _ => False
  | k + 1, .tup [a, b] => Shal k a ∧ Shal k b
  | _ + 1, d => szStr d
theorem is_tree_spec : ∀ (k : Nat) (d : D) (S : Store), Shal k d → R_is_tree k [.v d] S = .ok (.v (.bl (isTreeN k d))) S
  | 0, d, S, h => h.elim
  | k + 1, d, S, h => by
    refine mDefV_rt0 ?_
    by_cases ht : isTup d = true
    · obtain ⟨ds, rfl⟩ : ∃ w, d = .tup w := by cases d <;> first | exact ⟨_, rfl⟩ | cases ht
      by_cases hl : ds.length = 2
      · obtain ⟨a, b, rfl⟩ : ∃ a b, ds = [a, b] := by
          match ds, hl with
          | [a, b], _ => exact ⟨a, b, rfl⟩
        obtain ⟨h1, h2⟩ : Shal k a ∧ Shal k b := h
        have e1 := is_tree_spec k a S h1
        have e2 := is_tree_spec k b S h2
        have i0 : opIx (.v (.tup [a, b])) (.v (.int 0)) S = .ok (.v a) S := opIx_tup (atI_0 _ _)
        have i1 : opIx (.v (.tup [a, b])) (.v (.int 1)) S = .ok (.v b) S := opIx_tup (atI_1 _ _ _)
        cases hq : isTreeN k a <;> simp [m_is_tree, i0, i1, e1, e2, isTreeN, hq]
      · have hf : isTreeN (k + 1) (.tup ds) = false := by
          match ds, hl with
          | [], _ => rfl
          | [_], _ => rfl
          | _ :: _ :: _ :: _, _ => rfl
        have hl' : ¬ (ds.length : Int) = 2 := by omega
        have hb : ((ds.length : Int) == 2) = false := by simp [hl']
        simp [m_is_tree, hf, hb]
    · have ht' : isTup d = false := by simpa using ht
      have hd : szStr d := by cases d <;> first | exact h | cases ht'
      have hty : notTy d = true := by cases d <;> first | rfl | cases hd
      have hw := is_word_spec d hd S
      have hf : isTreeN (k + 1) d = isWord d := by cases d <;> first | rfl | cases ht'
      rw [hf]
      simp [m_is_tree, isi_tuple d hty, ht', hw]
theorem shal_T : ∀ (k : Nat) (t : T), t.depth < k → t.Ok → Shal k t.d
  | 0, t, h, _ => by omega
  | k + 1, .leaf w, h, ho => by
    have := (ho w (by simp [T.ls])).2.1
    show w.length ≤ _
    omega
  | k + 1, .node l r, h, ho => by
    simp only [T.depth] at h
    exact ⟨shal_T k l (by omega) ho.l, shal_T k r (by omega) ho.r⟩
theorem isTree_T : ∀ (k : Nat) (t : T), t.depth < k → t.Ok → isTreeN k t.d = true
  | 0, t, h, _ => by omega
  | k + 1, .leaf w, h, ho => isWordS_good (ho w (by simp [T.ls]))
  | k + 1, .node l r, h, ho => by
    simp only [T.depth] at h
    show (isTreeN k l.d && isTreeN k r.d) = true
    rw [isTree_T k l (by omega) ho.l, isTree_T k r (by omega) ho.r]; rfl
theorem is_tree_T {t : T} {k : Nat} (h : t.depth < k) (ho : t.Ok) (S : Store) : R_is_tree k [.v t.d] S = .ok (.v (.bl true)) S := by
  rw [is_tree_spec k t.d S (shal_T k t h ho), isTree_T k t h ho]
theorem text_of_spec : ∀ (k : Nat) (t : T) (S : Store), t.depth < k → t.Ok → t.ls.length ≤ 100000 → R_text_of k [.v t.d] S = .ok (.v (.str t.text)) S
  | 0, t, S, h, _, _ => by omega
  | k + 1, .leaf w, S, h, _, _ => by
    refine mDefV_rt0 ?_
    simp [m_text_of, T.d, T.text]
  | k + 1, .node l r, S, h, ht, hz => by
    simp only [T.depth] at h
    simp only [T.ls, List.length_append] at hz
    have t1 := T.text_len l ht.l
    have t2 := T.text_len r ht.r
    have e1 := text_of_spec k l S (by omega) ht.l (by omega)
    have e2 := text_of_spec k r S (by omega) ht.r (by omega)
    have e3 : (Str.ofString "(").length = 1 := by decide +kernel
    have e4 : (Str.ofString ",").length = 1 := by decide +kernel
    have e5 : (Str.ofString ")").length = 1 := by decide +kernel
    have a1 : (Str.ofString "(").length + l.text.length ≤ sizeLine := sz_of (by omega)
    have a2 : (Str.ofString "(" ++ l.text).length + (Str.ofString ",").length ≤ sizeLine := sz_of (by simp only [str_len_append]; omega)
    have a3 : (Str.ofString "(" ++ l.text ++ Str.ofString ",").length + r.text.length ≤ sizeLine := sz_of (by simp only [str_len_append]; omega)
    have a4 : (Str.ofString "(" ++ l.text ++ Str.ofString "," ++ r.text).length + (Str.ofString ")").length ≤ sizeLine := sz_of (by simp only [str_len_append]; omega)
    have i1 : opIx (.v (.tup [l.d, r.d])) (.v (.int 0)) S = .ok (.v l.d) S := opIx_tup (atI_0 _ _)
    have i2 : opIx (.v (.tup [l.d, r.d])) (.v (.int 1)) S = .ok (.v r.d) S := opIx_tup (atI_1 _ _ _)
    refine mDefV_rt0 ?_
    simp [m_text_of, T.d, T.text, i1, i2, e1, e2, opAdd_str a1, opAdd_str a2, opAdd_str a3, opAdd_str a4]
end Q
namespace Q
open PySem hiding Env
open L2 M
noncomputable def m_put_nodes (g_put_nodes : List R → Store → Out R) : MS :=
  (mSeq (mIfS (mtTru (mCall biIsi (mCons (mVar 0) (mCons (mC (.ty "tuple")) mNil)))) (mSeq (mSet 2 (mCall g_put_nodes (mCons (mBin opIx (mVar 0) (mC (.int 0))) (mCons (mVar 1) mNil))))
  (mDrop (mMeth "list" mtAppend (mVar 1) (mCons (mTup (mCons (mVar 2) (mCons (mCall g_put_nodes (mCons (mBin opIx (mVar 0) (mC (.int 1))) (mCons (mVar 1) mNil))) mNil))) mNil)))) (mDrop (mMeth "list" mtAppend (mVar 1) (mCons (mVar 0) mNil))))
  (mRet (mBin opSub (mCall biLen (mCons (mVar 1) mNil)) (mC (.int 1)))))
noncomputable def R_put_nodes : Nat → List R → Store → Out R
  | 0 => fun _ _ => .no
  | k + 1 => mDefV 3 (m_put_nodes (R_put_nodes k))
noncomputable def m_nodes (g_put_nodes : List R → Store → Out R) : MS :=
  (mSeq (mSet 1 (mLst mNil))
  (mSeq (mDrop (mCall g_put_nodes (mCons (mVar 0) (mCons (mVar 1) mNil))))
  (mRet (mCall biTuple (mCons (mVar 1) mNil)))))
noncomputable def M_nodes : List R → Store → Out R := mDefV 2 (m_nodes (R_put_nodes 70))
noncomputable def m_leaves (g_nodes : List R → Store → Out R) : MS :=
  (mRet (mCall biTuple (mCons (mPop (mLc (srcAny (mCall g_nodes (mCons (mVar 0) mNil))) [1] (tgN 1) (mtTru (mCall biIsi (mCons (mVar 1) (mCons (mC (.ty "str")) mNil)))) (mVar 1))) mNil)))
noncomputable def M_leaves : List R → Store → Out R := mDefV 2 (m_leaves M_nodes)
end Q
namespace M
open PySem hiding Env
open L2
def T.cnt : T → Nat
  | .leaf _ => 1
  | .node l r => l.cnt + r.cnt + 1
theorem T.cnt_ls : ∀ t : T, t.cnt + 1 = 2 * t.ls.length
  | .leaf w => rfl
  | .node l r => by
    have h1 := T.cnt_ls l
    have h2 := T.cnt_ls r
    simp only [T.cnt, T.ls, List.length_append]; omega
theorem T.cnt_pos (t : T) : 0 < t.cnt := by have := t.cnt_ls; have := t.ls_pos; omega
/-- the nodes of a tree whose first has the number k -/
def T.nodesFrom : Nat → T → List D
  | _, .leaf w => [.str w]
  | k, .node l r => T.nodesFrom k l ++ T.nodesFrom (k + l.cnt) r ++ [.tup [.int ((k + l.cnt - 1 : Nat) : Int), .int ((k + l.cnt + r.cnt - 1 : Nat) : Int)]]
def T.nodes (t : T) : List D := T.nodesFrom 0 t
theorem T.nodesFrom_len : ∀ (t : T) (k : Nat), (T.nodesFrom k t).length = t.cnt
  | .leaf w, k => rfl
  | .node l r, k => by simp only [T.nodesFrom, List.length_append, T.nodesFrom_len l, T.nodesFrom_len r, T.cnt, List.length_cons, List.length_nil]
theorem T.nodes_len (t : T) : t.nodes.length = t.cnt := t.nodesFrom_len 0
end M
namespace Q
open PySem hiding Env
open L2 M
theorem T_leaves_nodes : ∀ (t : T) (k : Nat), (T.nodesFrom k t).filter isStr = t.ls.map D.str
  | .leaf w, k => rfl
  | .node l r, k => by
    simp only [T.nodesFrom, T.ls, List.filter_append, T_leaves_nodes l, T_leaves_nodes r, List.map_append]
    simp [isStr]
theorem put_nodes_spec : ∀ (k : Nat) (t : T) (S : Store) (n : Nat) (xs : List D), t.depth < k → S[n]? = some (.lst (xs.map .v)) → xs.length + 2 * t.ls.length ≤ 10000000 →
    R_put_nodes k [.v t.d, .ref n] S = .ok (.v (.int ((xs.length + t.cnt - 1 : Nat) : Int))) (S.set n (.lst ((xs ++ T.nodesFrom xs.length t).map .v)))
  | 0, t, S, n, xs, h, _, _ => by omega
  | k + 1, .leaf w, S, n, xs, h, e, hz => by
    have hl : (xs.map R.v).length < sizeLine := sz_lt (by simp; omega)
    have e2 := get_set e (.lst ((xs ++ [D.str w]).map .v))
    refine mDefV_rtU (T := S.set n (.lst ((xs ++ [D.str w]).map .v))) ?_ (upd_set n (lo_lst _ _))
    have e3 : mtAppend (.ref n) [.v (.str w)] S = .ok (.v .non) (S.set n (.lst ((xs ++ [D.str w]).map .v))) := by rw [mtAppend_ref e hl, List.map_append]; rfl
    simp only [m_put_nodes, T.d, List.map_cons, List.map_nil, List.length_cons, List.length_nil, List.replicate, List.cons_append, List.nil_append, Nat.reduceAdd, Nat.reduceSub, mSeq_eq, mIfS_eq, mtTru_eq, mCall_eq, mCons_eq, mVar_eq, mC_eq, mNil_eq, List.getElem?_cons_zero, List.getElem?_cons_succ, Out.bind_ok, isi_str_tup, truM_bl, thenS_ok, mDrop_eq, mMeth_eq, tyOk_lst e, if_true, e3, mRet_eq, mBin_eq, biLen_ref e2, opSub_int]
    congr 3
    simp [T.cnt]
  | k + 1, .node l r, S, n, xs, h, e, hz => by
    simp only [T.depth] at h
    simp only [T.ls, List.length_append] at hz
    have c1 := l.cnt_ls
    have c2 := r.cnt_ls
    have p1 := l.cnt_pos
    have p2 := r.cnt_pos
    have e1 := put_nodes_spec k l S n xs (by omega) e (by omega)
    have l1 : (xs ++ T.nodesFrom xs.length l).length = xs.length + l.cnt := by rw [List.length_append, T.nodesFrom_len]
    have e2 := put_nodes_spec k r (S.set n (.lst ((xs ++ T.nodesFrom xs.length l).map .v))) n (xs ++ T.nodesFrom xs.length l) (by omega) (get_set e _) (by rw [l1]; omega)
    rw [l1, List.set_set] at e2
    have e3 := get_set e (.lst ((xs ++ T.nodesFrom xs.length l ++ T.nodesFrom (xs.length + l.cnt) r).map .v))
    have hl : ((xs ++ T.nodesFrom xs.length l ++ T.nodesFrom (xs.length + l.cnt) r).map R.v).length < sizeLine := sz_lt (by simp only [List.length_map, List.length_append, T.nodesFrom_len]; omega)
    let last : D := .tup [.int ((xs.length + l.cnt - 1 : Nat) : Int), .int ((xs.length + l.cnt + r.cnt - 1 : Nat) : Int)]
    have hfin : xs ++ T.nodesFrom xs.length (.node l r) = xs ++ T.nodesFrom xs.length l ++ T.nodesFrom (xs.length + l.cnt) r ++ [last] := by simp [T.nodesFrom, last]
    have e4 : mtAppend (.ref n) [.v last] (S.set n (.lst ((xs ++ T.nodesFrom xs.length l ++ T.nodesFrom (xs.length + l.cnt) r).map .v))) = .ok (.v .non) (S.set n (.lst ((xs ++ T.nodesFrom xs.length (.node l r)).map .v))) := by
      rw [mtAppend_ref e3 hl, List.set_set, hfin]; simp
    have e5 := get_set e (.lst ((xs ++ T.nodesFrom xs.length (.node l r)).map .v))
    have i0 : ∀ S, opIx (.v (.tup [l.d, r.d])) (.v (.int 0)) S = .ok (.v l.d) S := fun S => opIx_tup (atI_0 _ _)
    have i1 : ∀ S, opIx (.v (.tup [l.d, r.d])) (.v (.int 1)) S = .ok (.v r.d) S := fun S => opIx_tup (atI_1 _ _ _)
    refine mDefV_rtU ?_ (upd_set n (lo_lst _ _))
    simp only [m_put_nodes, T.d, List.map_cons, List.map_nil, List.length_cons, List.length_nil, List.replicate, List.cons_append, List.nil_append, Nat.reduceAdd, Nat.reduceSub, mSeq_eq, mIfS_eq, mtTru_eq, mCall_eq, mCons_eq, mVar_eq, mC_eq, mNil_eq, List.getElem?_cons_zero, List.getElem?_cons_succ, Out.bind_ok, isi_tup_tup, truM_bl, thenS_ok, mSet_eq, mBin_eq, i0, e1, List.set_cons_succ, List.set_cons_zero, mDrop_eq, mMeth_eq, tyOk_lst (get_set e _), if_true, mTup_eq, i1, e2, frzO_2, Nat.zero_add, sz2]
    have e4' := e4
    simp only [last, List.map_append] at e4'
    simp only [List.map_append, e4', thenS_ok, mRet_eq, mBin_eq, mCall_eq, mCons_eq, mVar_eq, mNil_eq, mC_eq, List.getElem?_cons_zero, List.getElem?_cons_succ, Out.bind_ok, List.set_cons_succ, List.set_cons_zero]
    rw [← List.map_append, biLen_ref e5]
    simp only [Out.bind_ok, opSub_int, thenS_ok]
    congr 3
    simp only [List.length_map, List.length_append, T.nodesFrom_len, T.cnt]
    omega
theorem nodes_spec {t : T} {S : Store} (hd : t.depth < 70) (hz : t.ls.length ≤ 1000000) : M_nodes [.v t.d] S = .ok (.v (.tup t.nodes)) S := by
  have e1 := put_nodes_spec 70 t (S ++ [.lst []]) S.length [] hd (get_len S _ []) (by simp; omega)
  rw [set_len, List.nil_append] at e1
  have e2 := get_len S (.lst ((T.nodesFrom 0 t).map .v)) []
  refine mDefV_rtG [.lst ((T.nodesFrom 0 t).map .v)] ?_ (.refl S)
  simp only [m_nodes, List.map_cons, List.map_nil, List.length_cons, List.length_nil, List.replicate, List.cons_append, List.nil_append, Nat.reduceAdd, Nat.reduceSub, mSeq_eq, mSet_eq, mLst_eq, mNil_eq, Out.bind_ok, Nat.zero_le, sz0, if_true, thenS_ok, List.set_cons_succ, List.set_cons_zero, mDrop_eq, mCall_eq, mCons_eq, mVar_eq, List.getElem?_cons_zero, List.getElem?_cons_succ, e1, mRet_eq, biTuple_ref e2]
  rfl
theorem leaves_spec {t : T} {S : Store} (hd : t.depth < 70) (hz : t.ls.length ≤ 1000000) : M_leaves [.v t.d] S = .ok (.v (.tup (t.ls.map D.str))) S := by
  have e1 := nodes_spec (S := S) hd hz
  have c := t.cnt_ls
  have nty : ∀ x ∈ t.nodes, notTy x = true := by
    have : ∀ (u : T) (k : Nat), ∀ x ∈ T.nodesFrom k u, notTy x = true := by
      intro u
      induction u with
      | leaf w => intro k x hx; simp only [T.nodesFrom, List.mem_singleton] at hx; subst hx; rfl
      | node l r h1 h2 =>
        intro k x hx
        simp only [T.nodesFrom, List.mem_append, List.mem_singleton] at hx
        rcases hx with (hx | hx) | rfl
        · exact h1 _ x hx
        · exact h2 _ x hx
        · rfl
    exact this t 0
  have lc := lc_map (S := S) (t := tgN 1) (c := mtTru (mCall biIsi (mCons (mVar 1) (mCons (mC (.ty "str")) mNil)))) (f := mVar 1) (m := [some (.v t.d), none]) (fun d : D => .v d) isStr (fun d => d) t.nodes (sz_of (by rw [T.nodes_len]; omega)) (by
    intro x hx acc
    refine ⟨_, rfl, ?_, fun _ => rfl⟩
    simp only [mtTru_eq, mCall_eq, mCons_eq, mVar_eq, mC_eq, mNil_eq, List.set_cons_succ, List.set_cons_zero, List.getElem?_cons_succ, List.getElem?_cons_zero, Out.bind_ok, isi_str x (nty x hx), truM_bl])
  refine mDefV_rt0 ?_
  have hf : (t.nodes.filter isStr).map (fun d => d) = t.ls.map D.str := by rw [List.map_id']; exact T_leaves_nodes t 0
  rw [hf] at lc
  simp only [m_leaves, srcAny, wipeM, List.map_cons, List.map_nil, List.length_cons, List.length_nil, List.replicate, List.cons_append, List.nil_append, Nat.reduceAdd, Nat.reduceSub, mRet_eq, mCall_eq, mCons_eq, mNil_eq, mPop_eq, mLc_eq, mVar_eq, List.getElem?_cons_zero, Out.bind_ok, e1, List.foldl_cons, List.foldl_nil, List.set_cons_succ, List.set_cons_zero, lc, biTuple_lst, thenS_ok]
end Q
namespace Q
open PySem hiding Env
open L2 M
end Q
namespace M
open PySem PySem.Spec L2
open PyProof.Rows hiding St
theorem cutS_cps (z : Str) (lo hi : Option Int) : (cutS z lo hi).cps.toList = cutD z.cps.toList lo hi := by
  unfold cutS cutD
  rw [show z.cps.toList.length = z.length from Array.length_toList]
end M
namespace Q
open PySem hiding Env
open L2 M
theorem GoodW.okB {w : Str} (h : GoodW w) : strOkB w = true := h.ok
end Q
namespace Q
open PySem hiding Env
open L2 M
end Q
namespace M
open PySem PySem.Spec L2
open PyProof.Rows hiding St
@[simp] theorem mAugIx_eq (f o i : ME) (g : R → R → Store → Out R) (m : Env) (S : Store) : mAugIx f o i g m S = (o m S).thenS m fun x S1 => (i m S1).thenS m fun y S2 => match getC x y S2 with
  | some old => (f m S2).thenS m fun d S3 => (g old d S3).thenS m fun z S4 => match setC x y z S4 with
    | some S5 => .nx m S5
    | none => .no
  | none => .no := id rfl
end M
namespace Q
open PySem hiding Env
open L2 M
/-- a pot: digits, a number, how often it was drawn -/
structure Pot (b : Nat) where
  x : Int
  y : Int
  z : Int
  hx : 0 ≤ x
  hy : 0 ≤ y
  hyl : y < 2305843009213693951
  hz : 0 ≤ z
  hzb : z ≤ b
def Pot.c {b : Nat} (h : Pot b) : MO := .lst [.v (.int h.x), .v (.int h.y), .v (.int h.z)]
theorem Pot.lo {b : Nat} (h : Pot b) (k : Nat) : h.c.lo k := lo_lst [.int h.x, .int h.y, .int h.z] k
end Q
namespace Q
open PySem hiding Env
open L2 M
end Q
namespace M
open PySem PySem.Spec L2
open PyProof.Rows hiding St
/-- above each node but the last: the number of its own -/
def T.ahdI : Nat → T → List (Option Nat)
  | _, .leaf _ => []
  | k, .node l r => T.ahdI k l ++ some (k + l.cnt + r.cnt) :: (T.ahdI (k + l.cnt) r ++ [some (k + l.cnt + r.cnt)])
def T.ahead (t : T) : List (Option Nat) := T.ahdI 0 t ++ [none]
/-- from each node up to the last, those in up behind it -/
def T.lines : Nat → List Nat → T → List (List Nat)
  | k, up, .leaf _ => [k :: up]
  | k, up, .node l r => T.lines k ((k + l.cnt + r.cnt) :: up) l ++ T.lines (k + l.cnt) ((k + l.cnt + r.cnt) :: up) r ++ [(k + l.cnt + r.cnt) :: up]
/-- the leaves' numbers -/
def T.lvs : Nat → T → List Nat
  | k, .leaf _ => [k]
  | k, .node l r => T.lvs k l ++ T.lvs (k + l.cnt) r
def T.blw : Nat → T → List (List Nat)
  | k, .leaf _ => [[k]]
  | k, .node l r => T.blw k l ++ T.blw (k + l.cnt) r ++ [T.lvs k l ++ T.lvs (k + l.cnt) r]
theorem T.blw_len : ∀ (t : T) (k : Nat), (T.blw k t).length = t.cnt
  | .leaf w, k => rfl
  | .node l r, k => by simp only [T.blw, List.length_append, T.blw_len l, T.blw_len r, T.cnt, List.length_cons, List.length_nil]
/-- which of two lists stands where, in two put together and one behind -/
theorem three {α : Type} {a b : List α} {c x : α} {i : Nat} (h : (a ++ b ++ [c])[i]? = some x) : (i < a.length ∧ a[i]? = some x) ∨ (∃ j, i = a.length + j ∧ j < b.length ∧ b[j]? = some x) ∨ (i = a.length + b.length ∧ x = c) := by
  by_cases h1 : i < a.length
  · rw [List.append_assoc, List.getElem?_append_left h1] at h
    exact .inl ⟨h1, h⟩
  · rw [List.append_assoc, List.getElem?_append_right (by omega)] at h
    by_cases h2 : i - a.length < b.length
    · rw [List.getElem?_append_left h2] at h
      exact .inr (.inl ⟨i - a.length, by omega, h2, h⟩)
    · rw [List.getElem?_append_right (by omega)] at h
      have h3 : i - a.length - b.length = 0 := by
        rcases Nat.eq_zero_or_pos (i - a.length - b.length) with z | z
        · exact z
        · rw [List.getElem?_eq_none (by simp; omega)] at h; cases h
      rw [h3] at h
      cases h
      exact .inr (.inr ⟨by omega, rfl⟩)
end M
namespace Q
open PySem hiding Env
open L2 M
end Q
namespace M
open PySem PySem.Spec L2
open PyProof.Rows hiding St
/-- a for's turns over xs, none of which breaks -/
def Runs (t : TgM) (body : MS) (xs : List R) (m : Env) (S : Store) (m' : Env) (S' : Store) : Prop := ∀ ys, mForGo [] t body (xs ++ ys) m S = mForGo [] t body ys m' S'
theorem Runs.nil {t : TgM} {body : MS} {m : Env} {S : Store} : Runs t body [] m S m S := fun ys => rfl
theorem Runs.app {t : TgM} {body : MS} {xs ys : List R} {m m1 m2 : Env} {S S1 S2 : Store} (h1 : Runs t body xs m S m1 S1) (h2 : Runs t body ys m1 S1 m2 S2) : Runs t body (xs ++ ys) m S m2 S2 := fun zs => by
  rw [List.append_assoc, h1, h2]
theorem Runs.one {t : TgM} {body : MS} {d : R} {m m1 m2 : Env} {S S2 : Store} (h1 : t d m = some m1) (h2 : body m1 S = .nx m2 S2) : Runs t body [d] m S m2 S2 := fun zs => by
  rw [List.singleton_append]
  conv => lhs; unfold mForGo
  rw [if_pos (show pinsOk [] S from trivial), h1]
  simp only [h2]
/-- numbers as data -/
def natD (n : Nat) : D := .int (n : Int)
end M
namespace Q
open PySem hiding Env
open L2 M
end Q
namespace M
open PySem PySem.Spec L2
open PyProof.Rows hiding St
def T.lns (t : T) : List (List Nat) := T.lines 0 [] t
/-- beside a house -/
def T.aside (t : T) (h : Nat) : List Nat := (List.range t.cnt).filter fun o => !decide (o ∈ t.lns.getD h []) && !decide (h ∈ t.lns.getD o [])
theorem T.notTy_nodes (t : T) (k : Nat) : ∀ x ∈ T.nodesFrom k t, notTy x = true := by
  induction t generalizing k with
  | leaf w => intro x hx; simp only [T.nodesFrom, List.mem_singleton] at hx; subst hx; rfl
  | node l r h1 h2 =>
    intro x hx
    simp only [T.nodesFrom, List.mem_append, List.mem_singleton] at hx
    rcases hx with (hx | hx) | rfl
    · exact h1 _ x hx
    · exact h2 _ x hx
    · rfl
end M
namespace Q
open PySem hiding Env
open L2 M
end Q
namespace Q
open PySem hiding Env
open L2 M
end Q
namespace M
open PySem PySem.Spec L2
open PyProof.Rows hiding St
theorem T.blw_last : ∀ (t : T) (k : Nat), (T.blw k t)[t.cnt - 1]? = some (T.lvs k t)
  | .leaf w, k => rfl
  | .node l r, k => by
    have h1 := T.blw_len l k
    have h2 := T.blw_len r (k + l.cnt)
    simp only [T.blw, T.lvs, T.cnt]
    rw [List.getElem?_append_right (by simp; omega)]
    simp [h1, h2]
theorem T.blw_at : ∀ (t : T) (k i : Nat) (d : D), (T.nodesFrom k t)[i]? = some d → (isStr d = true ∧ (T.blw k t)[i]? = some [k + i]) ∨ ∃ a b ba bb, d = .tup [natD (k + a), natD (k + b)] ∧ a < i ∧ b < i ∧ (T.blw k t)[a]? = some ba ∧ (T.blw k t)[b]? = some bb ∧ (T.blw k t)[i]? = some (ba ++ bb)
  | .leaf w, k, i, d, h => by
    cases i with
    | zero => cases h; exact .inl ⟨rfl, rfl⟩
    | succ i => simp [T.nodesFrom] at h
  | .node l r, k, i, d, h => by
    have n1 := T.nodesFrom_len l k
    have n2 := T.nodesFrom_len r (k + l.cnt)
    have b1 := T.blw_len l k
    have b2 := T.blw_len r (k + l.cnt)
    have p1 := l.cnt_pos
    have p2 := r.cnt_pos
    have inl : ∀ (i : Nat) (b : List Nat), (T.blw k l)[i]? = some b → (T.blw k (.node l r))[i]? = some b := fun i b e => by
      have hi : i < (T.blw k l).length := (List.getElem?_eq_some_iff.mp e).1
      simp only [T.blw]
      rw [List.append_assoc, List.getElem?_append_left hi, e]
    have inr : ∀ (i : Nat) (b : List Nat), (T.blw (k + l.cnt) r)[i]? = some b → (T.blw k (.node l r))[l.cnt + i]? = some b := fun i b e => by
      have hi : i < (T.blw (k + l.cnt) r).length := (List.getElem?_eq_some_iff.mp e).1
      simp only [T.blw]
      rw [List.append_assoc, List.getElem?_append_right (by omega), b1, Nat.add_sub_cancel_left, List.getElem?_append_left hi, e]
    rcases three h with ⟨a1, a2⟩ | ⟨a, a1, a2, a3⟩ | ⟨a1, a2⟩
    · rcases T.blw_at l k i d a2 with ⟨q1, q2⟩ | ⟨a, b, ba, bb, q1, q2, q3, q4, q5, q6⟩
      · exact .inl ⟨q1, inl _ _ q2⟩
      · exact .inr ⟨a, b, ba, bb, q1, q2, q3, inl _ _ q4, inl _ _ q5, inl _ _ q6⟩
    · rw [n1] at a1
      subst a1
      rcases T.blw_at r (k + l.cnt) a d a3 with ⟨q1, q2⟩ | ⟨x, y, ba, bb, q1, q2, q3, q4, q5, q6⟩
      · exact .inl ⟨q1, by rw [inr _ _ q2]; congr 2; omega⟩
      · exact .inr ⟨l.cnt + x, l.cnt + y, ba, bb, by rw [q1, Nat.add_assoc, Nat.add_assoc], by omega, by omega, inr _ _ q4, inr _ _ q5, inr _ _ q6⟩
    · subst a2
      rw [n1, n2] at a1
      subst a1
      refine .inr ⟨l.cnt - 1, l.cnt + (r.cnt - 1), T.lvs k l, T.lvs (k + l.cnt) r, ?_, by omega, by omega, inl _ _ (T.blw_last l k), inr _ _ (T.blw_last r (k + l.cnt)), ?_⟩
      · simp only [natD]
        congr 3
        · congr 2; omega
        · congr 3; omega
      · have := T.blw_last (.node l r) k
        simpa [T.cnt, T.lvs] using this
end M
namespace Q
open PySem hiding Env
open L2 M
end Q
namespace Q
open PySem hiding Env
open L2 M
end Q
namespace M
open PySem PySem.Spec L2
open PyProof.Rows hiding St
/-- whether a house's date can stand: what is_date tells -/
def nodeOk (ds : List Int) (h : Nat) : D → Bool
  | .tup [.int a, .int b] => (decide (1 ≤ ds.getD h 0) && decide (ds.getD h 0 ≤ 99)) && (decide (ds.getD a.toNat 0 < ds.getD h 0) && decide (ds.getD b.toNat 0 < ds.getD h 0))
  | _ => ds.getD h 0 == 0
def innerD (t : T) (ds : List Int) : List Int := ((t.nodes.zip ds).filter fun p => !isStr p.1).map (·.2)
/-- what is_dates tells of whole numbers -/
def isDt (t : T) (ds : List Int) : Bool := decide (ds.length = t.cnt) && (((List.range t.cnt).all fun h => nodeOk ds h (t.nodes.getD h .non)) && decide (innerD t ds).Nodup)
/-- a node: a leaf, or two ahead of it -/
theorem T.node_cases (t : T) {h : Nat} {d : D} (e : t.nodes[h]? = some d) : (∃ w, d = .str w) ∨ ∃ a b : Nat, d = .tup [natD a, natD b] ∧ a < h ∧ b < h := by
  rcases T.blw_at t 0 h d e with ⟨q, _⟩ | ⟨a, b, _, _, q1, q2, q3, _⟩
  · have nt := T.notTy_nodes t 0 d (List.mem_of_getElem? e)
    cases d <;> first | exact .inl ⟨_, rfl⟩ | (cases q; done) | cases nt
  · rw [Nat.zero_add, Nat.zero_add] at q1
    exact .inr ⟨a, b, q1, q2, q3⟩
end M
namespace Q
open PySem hiding Env
open L2 M
end Q
namespace Q
open PySem hiding Env
open L2 M
end Q
namespace M
open PySem PySem.Spec L2
open PyProof.Rows hiding St
/-- the houses of two -/
def T.innerIx (t : T) : List Nat := (List.range t.cnt).filter fun h => !isStr (t.nodes.getD h .non)
theorem innerD_ix {t : T} {ds : List Int} (hl : ds.length = t.cnt) : innerD t ds = t.innerIx.map fun h => ds.getD h 0 := by
  have hn := t.nodes_len
  have hz : t.nodes.zip ds = (List.range t.cnt).map fun h => (t.nodes.getD h .non, ds.getD h 0) := by
    refine List.ext_getElem (by simp [hn, hl]) fun i h1 h2 => ?_
    simp [hn, hl] at h1
    simp [hn, hl, h1]
  unfold innerD T.innerIx
  rw [hz, List.filter_map, List.map_map]
  rfl
theorem nodup_map_on {α β : Type} {f : α → β} : ∀ {l : List α}, l.Nodup → (∀ a ∈ l, ∀ b ∈ l, f a = f b → a = b) → (l.map f).Nodup
  | [], _, _ => by simp
  | x :: l, h, hf => by
    rw [List.nodup_cons] at h
    rw [List.map_cons, List.nodup_cons]
    refine ⟨fun hm => ?_, nodup_map_on h.2 fun a ha b hb => hf a (by simp [ha]) b (by simp [hb])⟩
    obtain ⟨y, hy, e⟩ := List.mem_map.mp hm
    have := hf y (by simp [hy]) x (by simp) e
    subst this
    exact h.1 hy
/-- dates so far: those of the houses left are none yet -/
structure DtInv (t : T) (L : List Nat) (ds : List Int) (cur : Int) : Prop where
  len : ds.length = t.cnt
  srt : L.Pairwise (· < ·)
  lin : ∀ h ∈ L, h ∈ t.innerIx
  c0 : 0 ≤ cur
  lf : ∀ h, h < t.cnt → h ∉ t.innerIx → ds.getD h 0 = 0
  dn : ∀ h ∈ t.innerIx, h ∉ L → 1 ≤ ds.getD h 0 ∧ ds.getD h 0 ≤ cur ∧ ∀ a b, t.nodes[h]? = some (.tup [natD a, natD b]) → a ∉ L ∧ b ∉ L ∧ ds.getD a 0 < ds.getD h 0 ∧ ds.getD b 0 < ds.getD h 0
  inj : ∀ h ∈ t.innerIx, ∀ k ∈ t.innerIx, h ∉ L → k ∉ L → ds.getD h 0 = ds.getD k 0 → h = k
theorem T.inner_mem {t : T} {h : Nat} : h ∈ t.innerIx ↔ h < t.cnt ∧ ∃ a b, t.nodes[h]? = some (.tup [natD a, natD b]) ∧ a < h ∧ b < h := by
  have hn := t.nodes_len
  unfold T.innerIx
  rw [List.mem_filter, List.mem_range]
  constructor
  · rintro ⟨h1, h2⟩
    have hg : t.nodes[h]? = some (t.nodes.getD h .non) := by rw [List.getD_eq_getElem?_getD, List.getElem?_eq_getElem (by omega)]; rfl
    refine ⟨h1, ?_⟩
    rcases t.node_cases hg with ⟨w, e⟩ | ⟨a, b, e, q1, q2⟩
    · rw [e] at h2; cases h2
    · exact ⟨a, b, by rw [hg, e], q1, q2⟩
  · rintro ⟨h1, a, b, e, _, _⟩
    refine ⟨h1, ?_⟩
    rw [List.getD_eq_getElem?_getD, e]
    rfl
theorem DtInv.done {t : T} {ds : List Int} {cur : Int} (I : DtInv t [] ds cur) (hc : cur ≤ 99) : isDt t ds = true := by
  have hn := t.nodes_len
  unfold isDt
  rw [decide_eq_true I.len, Bool.true_and, Bool.and_eq_true]
  refine ⟨List.all_eq_true.mpr fun h hh => ?_, ?_⟩
  · have hh : h < t.cnt := by simpa using hh
    have hg : t.nodes[h]? = some (t.nodes.getD h .non) := by rw [List.getD_eq_getElem?_getD, List.getElem?_eq_getElem (by omega)]; rfl
    rcases t.node_cases hg with ⟨w, e⟩ | ⟨a, b, e, q1, q2⟩
    · rw [e]
      have : h ∉ t.innerIx := fun hm => by
        obtain ⟨_, a, b, e2, _⟩ := T.inner_mem.mp hm
        rw [hg, e] at e2
        cases e2
      show (ds.getD h 0 == 0) = true
      rw [I.lf h hh this]; rfl
    · rw [e]
      rw [e] at hg
      have hm : h ∈ t.innerIx := T.inner_mem.mpr ⟨hh, a, b, hg, q1, q2⟩
      obtain ⟨d1, d2, d3⟩ := I.dn h hm (by simp)
      obtain ⟨_, _, d4, d5⟩ := d3 a b hg
      simp only [nodeOk, natD, Int.toNat_natCast, Bool.and_eq_true, decide_eq_true_eq]
      exact ⟨⟨d1, by omega⟩, d4, d5⟩
  · rw [innerD_ix I.len]
    exact decide_eq_true (nodup_map_on (List.Pairwise.filter _ List.nodup_range) fun a ha b hb e => I.inj a ha b hb (by simp) (by simp) e)
end M
namespace Q
open PySem hiding Env
open L2 M
end Q
namespace M
open PySem PySem.Spec L2
open PyProof.Rows hiding St
theorem lc_raw {α : Type} {pins : List (Nat × MO)} {t : TgM} {c : MT} {f : ME} {m : Env} {S : Store} (hp : ∀ o, pinsOk pins (S ++ [o])) (r : α → R) (p : α → Bool) (g : α → D) (xs : List α) (hz : xs.length ≤ sizeLine)
    (hs : ∀ x ∈ xs, ∀ acc : List R, ∃ m1, t (r x) m = some m1 ∧ c m1 (S ++ [.lst acc]) = .ok (p x) (S ++ [.lst acc]) ∧ (p x = true → f m1 (S ++ [.lst acc]) = .ok (.v (g x)) (S ++ [.lst acc]))) :
    mLcGo pins t c f S.length m (xs.map r) (S ++ [.lst []]) = .ok (.ref S.length) (S ++ [.lst (((xs.filter p).map g).map .v)]) := by
  have key : ∀ (xs ys : List α), ys.length + xs.length ≤ sizeLine → (∀ x ∈ xs, ∀ acc : List R, ∃ m1, t (r x) m = some m1 ∧ c m1 (S ++ [.lst acc]) = .ok (p x) (S ++ [.lst acc]) ∧ (p x = true → f m1 (S ++ [.lst acc]) = .ok (.v (g x)) (S ++ [.lst acc]))) →
      mLcGo pins t c f S.length m (xs.map r) (S ++ [.lst ((ys.map g).map .v)]) = .ok (.ref S.length) (S ++ [.lst (((ys ++ xs.filter p).map g).map .v)]) := by
    intro xs
    induction xs with
    | nil => intro ys _ _; unfold mLcGo; simp [hp]
    | cons x xs ih =>
      intro ys hl hs
      obtain ⟨m1, e1, e2, e3⟩ := hs x (by simp) ((ys.map g).map .v)
      rw [List.map_cons]
      unfold mLcGo
      rw [if_pos (hp _), e1]
      simp only [e2, Out.calm_ok, Out.bind_ok]
      rw [List.length_cons] at hl
      cases hpx : p x with
      | false =>
        simp only
        rw [ih ys (by omega) fun x hx => hs x (by simp [hx]), List.filter_cons_of_neg (by simp [hpx])]
      | true =>
        simp only [e3 hpx, Out.calm_ok, Out.bind_ok, get_len]
        rw [if_pos (by rw [List.length_map, List.length_map]; omega), set_len, List.filter_cons_of_pos hpx]
        have := ih (ys ++ [x]) (by rw [List.length_append]; simp; omega) fun x hx => hs x (by simp [hx])
        simp only [List.map_append, List.map_cons, List.map_nil, List.append_assoc, List.cons_append, List.nil_append] at this ⊢
        exact this
  have := key xs [] (by simpa using hz) hs
  simpa using this
def chA (t : T) (h : Nat) : Nat := match t.nodes.getD h .non with
  | .tup [.int a, .int _] => a.toNat
  | _ => 0
def chB (t : T) (h : Nat) : Nat := match t.nodes.getD h .non with
  | .tup [.int _, .int b] => b.toNat
  | _ => 0
theorem T.kids {t : T} {h : Nat} (hm : h ∈ t.innerIx) : t.nodes[h]? = some (.tup [natD (chA t h), natD (chB t h)]) ∧ chA t h < h ∧ chB t h < h ∧ h < t.cnt := by
  obtain ⟨h1, a, b, e, q1, q2⟩ := T.inner_mem.mp hm
  have hg : t.nodes.getD h .non = .tup [natD a, natD b] := by rw [List.getD_eq_getElem?_getD, e]; rfl
  have ea : chA t h = a := by unfold chA; rw [hg]; simp [natD]
  have eb : chB t h = b := by unfold chB; rw [hg]; simp [natD]
  rw [ea, eb]
  exact ⟨e, q1, q2, h1⟩
theorem DtInv.start (t : T) : DtInv t t.innerIx (List.replicate t.cnt 0) 0 := by
  refine ⟨by simp, (List.pairwise_lt_range (n := t.cnt)).filter _, fun h hh => hh, Int.le_refl _, fun h hh _ => ?_, fun h hh hn => absurd hh hn, fun h hh k hk hn => absurd hh hn⟩
  rw [List.getD_eq_getElem?_getD, List.getElem?_replicate, if_pos hh]; rfl
end M
namespace Q
open PySem hiding Env
open L2 M
end Q
namespace M
open PySem PySem.Spec L2
open PyProof.Rows hiding St
end M
namespace Q
open PySem hiding Env
open L2 M
end Q
namespace Q
open PySem hiding Env
open L2 M
end Q
namespace Q
open PySem hiding Env
open L2 M
end Q
namespace M
open PySem PySem.Spec L2
open PyProof.Rows hiding St
def fls (t : T) (ds : List Int) : List Int := 0 :: isort (innerD t ds)
/-- whether a house stands in a slice -/
def stands (t : T) (ds : List Int) (l h : Nat) : Bool := decide (ds.getD h 0 ≤ (fls t ds).getD l 0) && (match t.ahead.getD h none with
  | none => true
  | some p => decide ((fls t ds).getD l 0 < ds.getD p 0))
def standL (t : T) (ds : List Int) (l n : Nat) : List (Nat × Nat) := ((List.range n).filter (stands t ds l)).map fun h => (h, l)
def standTo (t : T) (ds : List Int) (n : Nat) : List (Nat × Nat) := (List.range n).flatMap fun l => standL t ds l t.cnt
/-- all stays, as they are numbered: a house, a slice -/
def standing (t : T) (ds : List Int) : List (Nat × Nat) := standTo t ds (fls t ds).length
def pix (t : T) (ds : List Int) (h l : Nat) : Nat := (standing t ds).idxOf (h, l)
/-- straight under -/
def undr (t : T) (ds : List Int) (h l : Nat) : List Nat :=
  if ds.getD h 0 < (fls t ds).getD l 0 then [pix t ds h (l - 1)]
  else if isStr (t.nodes.getD h .non) = true then [] else [pix t ds (chA t h) (l - 1), pix t ds (chB t h) (l - 1)]
def besd (t : T) (ds : List Int) (h l : Nat) : List Nat := (((standing t ds).zipIdx).filter fun p => decide (p.1.2 = l) && !decide (p.1.1 = h)).map (·.2)
structure Dts (t : T) (ds : List Int) : Prop where
  len : ds.length = t.cnt
  lf : ∀ h, h < t.cnt → isStr (t.nodes.getD h .non) = true → ds.getD h 0 = 0
  inr : ∀ h ∈ t.innerIx, 1 ≤ ds.getD h 0 ∧ ds.getD h 0 ≤ 99 ∧ ds.getD (chA t h) 0 < ds.getD h 0 ∧ ds.getD (chB t h) 0 < ds.getD h 0
  nd : (innerD t ds).Nodup
theorem Dts.of {t : T} {ds : List Int} (h : isDt t ds = true) : Dts t ds := by
  unfold isDt at h
  simp only [Bool.and_eq_true, decide_eq_true_eq, List.all_eq_true, List.mem_range] at h
  obtain ⟨h1, h2, h3⟩ := h
  refine ⟨h1, fun k hk hs => ?_, fun k hk => ?_, h3⟩
  · have := h2 k hk
    have hn := t.nodes_len
    have hg : t.nodes[k]? = some (t.nodes.getD k .non) := by rw [List.getD_eq_getElem?_getD, List.getElem?_eq_getElem (by omega)]; rfl
    rcases t.node_cases hg with ⟨w, e⟩ | ⟨a, b, e, _, _⟩
    · rw [e] at this
      exact eq_of_beq (show (ds.getD k 0 == 0) = true from this)
    · rw [e] at hs; cases hs
  · obtain ⟨e, ha, hb, hc⟩ := T.kids hk
    have := h2 k hc
    rw [show t.nodes.getD k .non = .tup [natD (chA t k), natD (chB t k)] by rw [List.getD_eq_getElem?_getD, e]; rfl] at this
    have this : ((decide (1 ≤ ds.getD k 0) && decide (ds.getD k 0 ≤ 99)) && (decide (ds.getD ((chA t k : Nat) : Int).toNat 0 < ds.getD k 0) && decide (ds.getD ((chB t k : Nat) : Int).toNat 0 < ds.getD k 0))) = true := this
    simp only [Bool.and_eq_true, decide_eq_true_eq, Int.toNat_natCast] at this
    omega
theorem standL_mem {t : T} {ds : List Int} {l n : Nat} {p : Nat × Nat} : p ∈ standL t ds l n ↔ p.2 = l ∧ p.1 < n ∧ stands t ds l p.1 = true := by
  unfold standL
  simp only [List.mem_map, List.mem_filter, List.mem_range]
  constructor
  · rintro ⟨h, ⟨h1, h2⟩, rfl⟩; exact ⟨rfl, h1, h2⟩
  · rintro ⟨h1, h2, h3⟩; exact ⟨p.1, ⟨h2, h3⟩, by rw [← h1]⟩
theorem standTo_mem {t : T} {ds : List Int} {n : Nat} {p : Nat × Nat} : p ∈ standTo t ds n ↔ p.2 < n ∧ p.1 < t.cnt ∧ stands t ds p.2 p.1 = true := by
  unfold standTo
  simp only [List.mem_flatMap, List.mem_range, standL_mem]
  constructor
  · rintro ⟨l, h1, h2, h3, h4⟩; subst h2; exact ⟨h1, h3, h4⟩
  · rintro ⟨h1, h2, h3⟩; exact ⟨p.2, h1, rfl, h2, h3⟩
theorem standTo_succ (t : T) (ds : List Int) (n : Nat) : standTo t ds (n + 1) = standTo t ds n ++ standL t ds n t.cnt := by
  unfold standTo
  rw [List.range_succ, List.flatMap_append, List.flatMap_singleton]
theorem standing_mem {t : T} {ds : List Int} {h l : Nat} : (h, l) ∈ standing t ds ↔ l < (fls t ds).length ∧ h < t.cnt ∧ stands t ds l h = true := standTo_mem
end M
namespace Q
open PySem hiding Env
open L2 M
end Q
namespace Q
open PySem hiding Env
open L2 M
theorem rg1_nat {S : Store} (n : Nat) (h : n < 2 ^ 60) : rg1 [.v (.int (n : Int))] S = .ok ⟨rangeD 0 n, []⟩ S := by rw [rg1_int (by omega) (by omega), Int.toNat_natCast]
end Q
namespace M
open PySem PySem.Spec L2
open PyProof.Rows hiding St
end M
namespace Q
open PySem hiding Env
open L2 M
end Q
namespace M
open PySem PySem.Spec L2
open PyProof.Rows hiding St
def Nic : Nat → D → Prop
  | _, .int _ => True
  | _, .str w => strOkB w = true
  | k + 1, .tup ds => ∀ d ∈ ds, Nic k d
  | k + 1, .lst ds => ∀ d ∈ ds, Nic k d
  | _, _ => False
theorem nics_py {k : Nat} {ds : List D} (ih : ∀ d, Nic k d → ∃ p, d.py = some p ∧ PyData.canLay0 p = true ∧ PyData.depth p ≤ k) (h : ∀ d ∈ ds, Nic k d) : ∃ ps, D.pys ds = some ps ∧ PyData.canLayAll0 ps = true ∧ PyData.depthAll ps ≤ k := by
  induction ds with
  | nil => exact ⟨[], rfl, by simp [PyData.canLayAll0], by simp [PyData.depthAll]⟩
  | cons d ds ih2 =>
    obtain ⟨p, e1, e2, e3⟩ := ih d (h d (by simp))
    obtain ⟨ps, f1, f2, f3⟩ := ih2 fun x hx => h x (by simp [hx])
    refine ⟨p :: ps, by simp [D.pys, e1, f1], by simp [PyData.canLayAll0, e2, f2], ?_⟩
    simp only [PyData.depthAll]; omega
theorem nic_py : ∀ (k : Nat) (d : D), Nic k d → ∃ p, d.py = some p ∧ PyData.canLay0 p = true ∧ PyData.depth p ≤ k
  | k, .int i, _ => ⟨.int i, rfl, by simp [PyData.canLay0], by simp [PyData.depth]⟩
  | k, .str w, h => ⟨.str w, rfl, by
      have h : strOkB w = true := by cases k <;> exact h
      have : PyData.strOk w = true := h
      simp [PyData.canLay0, this], by simp [PyData.depth]⟩
  | k + 1, .tup ds, h => by
    obtain ⟨ps, f1, f2, f3⟩ := nics_py (nic_py k) (h : ∀ d ∈ ds, Nic k d)
    refine ⟨.tuple ps, by simp [D.py, f1], by simp [PyData.canLay0, f2], ?_⟩
    simp only [PyData.depth]; omega
  | k + 1, .lst ds, h => by
    obtain ⟨ps, f1, f2, f3⟩ := nics_py (nic_py k) (h : ∀ d ∈ ds, Nic k d)
    refine ⟨.list ps, by simp [D.py, f1], by simp [PyData.canLay0, f2], ?_⟩
    simp only [PyData.depth]; omega
  | 0, .tup _, h => h.elim
  | 0, .lst _, h => h.elim
  | 0, .non, h | _ + 1, .non, h => h.elim
  | 0, .bl _, h | _ + 1, .bl _, h => h.elim
  | 0, .ty _, h | _ + 1, .ty _, h => h.elim
  | 0, .kl _, h | _ + 1, .kl _, h => h.elim
  | 0, .dct _ _, h | _ + 1, .dct _ _, h => h.elim
  | 0, .txt, h | _ + 1, .txt, h => h.elim
  | 0, .kt _, h | _ + 1, .kt _, h => h.elim
theorem nics_eqv {k : Nat} (ih : ∀ d e p q, Nic k d → Nic k e → d.py = some p → e.py = some q → (PyData.eqv p q = true ↔ d = e)) : ∀ (ds es : List D) (ps qs : List PyData), (∀ d ∈ ds, Nic k d) → (∀ d ∈ es, Nic k d) → D.pys ds = some ps → D.pys es = some qs → (PyData.eqvAll ps qs = true ↔ ds = es) := by
  have cons_ : ∀ (d : D) (ds : List D) (ps : List PyData), D.pys (d :: ds) = some ps → ∃ p qs, ps = p :: qs ∧ d.py = some p ∧ D.pys ds = some qs := by
    intro d ds ps h
    simp only [D.pys, Option.bind_eq_some_iff] at h
    obtain ⟨p, e1, qs, e2, e3⟩ := h
    cases e3
    exact ⟨p, qs, rfl, e1, e2⟩
  intro ds
  induction ds with
  | nil =>
    intro es ps qs _ _ h1 h2
    cases h1
    cases es with
    | nil => cases h2; simp [PyData.eqvAll]
    | cons e es => obtain ⟨p, qs', rfl, _, _⟩ := cons_ _ _ _ h2; simp [PyData.eqvAll]
  | cons d ds ih2 =>
    intro es ps qs n1 n2 h1 h2
    obtain ⟨p, ps', rfl, a1, a2⟩ := cons_ _ _ _ h1
    cases es with
    | nil => cases h2; simp [PyData.eqvAll]
    | cons e es =>
      obtain ⟨q, qs', rfl, b1, b2⟩ := cons_ _ _ _ h2
      have q1 := ih d e p q (n1 d (by simp)) (n2 e (by simp)) a1 b1
      have q2 := ih2 es ps' qs' (fun x hx => n1 x (by simp [hx])) (fun x hx => n2 x (by simp [hx])) a2 b2
      rw [PyData.eqvAll, Bool.and_eq_true, q1, q2, List.cons.injEq]
theorem nic_eqv : ∀ (k : Nat) (d e : D) (p q : PyData), Nic k d → Nic k e → d.py = some p → e.py = some q → (PyData.eqv p q = true ↔ d = e) := by
  intro k
  induction k with
  | zero =>
    intro d e p q h1 h2 e1 e2
    cases d <;> first | exact h1.elim | skip
    all_goals (cases e <;> first | exact h2.elim | skip)
    all_goals (cases e1; cases e2; simp [PyData.eqv])
  | succ k ih =>
    intro d e p q h1 h2 e1 e2
    cases d <;> first | exact h1.elim | skip
    all_goals (cases e <;> first | exact h2.elim | skip)
    all_goals (simp only [D.py, Option.map_eq_some_iff, Option.some.injEq] at e1 e2)
    all_goals (try obtain ⟨ps, e1, rfl⟩ := e1)
    all_goals (try obtain ⟨qs, e2, rfl⟩ := e2)
    all_goals (try subst e1)
    all_goals (try subst e2)
    all_goals first
      | (rw [PyData.eqv, nics_eqv ih _ _ _ _ h1 h2 e1 e2]; simp only [D.tup.injEq, D.lst.injEq])
      | simp [PyData.eqv]
theorem nic_pyS {k : Nat} {d : D} (h : Nic k d) (hk : k ≤ 60) : ∃ p, d.pyS = some p ∧ d.py = some p := by
  obtain ⟨p, e1, e2, e3⟩ := nic_py k d h
  refine ⟨p, ?_, e1⟩
  have : SeqAt.shaped p = true := by simp only [SeqAt.shaped, e2, Bool.true_and, decide_eq_true_eq]; omega
  simp [D.pyS, e1, this]
theorem opEq_nic {S : Store} {d e : D} (k : Nat) (h1 : Nic k d) (h2 : Nic k e) (hk : k ≤ 60) {b : Bool} (hb : b = true ↔ d = e) : opEq (.v d) (.v e) S = .ok (.v (.bl b)) S ∧ opNe (.v d) (.v e) S = .ok (.v (.bl (!b))) S := by
  obtain ⟨p, e1, e2⟩ := nic_pyS h1 hk
  obtain ⟨q, f1, f2⟩ := nic_pyS h2 hk
  have : PyData.eqv p q = b := Bool.eq_iff_iff.mpr ((nic_eqv k d e p q h1 h2 e2 f2).trans hb.symm)
  exact ⟨by rw [opEq_py e1 f1, this], by rw [opNe_py e1 f1, this]⟩
structure Sty where
  nm : D
  lv : Nat
  un : List Nat
  bs : List Nat
def Sty.d (s : Sty) : D := .tup [s.nm, natD s.lv, .tup (s.un.map natD), .tup (s.bs.map natD)]
abbrev Gr := List Sty
def grD (g : Gr) : D := .tup (g.map Sty.d)
def atG (g : Gr) (i : Nat) : Sty := g.getD i ⟨.int 0, 0, [], []⟩
structure Grd (g : Gr) : Prop where
  ne : g ≠ []
  len : g.length ≤ 1000
  nm : ∀ s ∈ g, (∃ w, GoodW w ∧ s.nm = .str w) ∨ ∃ n : Nat, s.nm = natD n
  un : ∀ i, i < g.length → (∀ u ∈ (atG g i).un, u < i) ∧ (atG g i).un.length ≤ 2 ∧ (∀ b ∈ (atG g i).bs, b < g.length) ∧ (atG g i).bs.length ≤ 1000
  top : ∀ i, i + 1 < g.length → ∃ j, j < g.length ∧ i ∈ (atG g j).un
/-- a word may be found at a stay -/
def fndN (g : Gr) (s : Nat) (w : Str) : Bool := (atG g s).un.isEmpty && (match (atG g s).nm with | .str x => decide (x = w) | _ => false)
/-- a path -/
def pathN (g : Gr) (p : List Nat) : Bool := !p.isEmpty && p.all (fun i => decide (i < g.length)) && (p.zip p.tail).all fun q => decide (q.2 ∈ (atG g q.1).un)
/-- a deed at a stay -/
def domN (g : Gr) (s : Nat) (d : Str) (a b : Nat) : Bool :=
  if d = "doubled" then decide (a = s) && decide (b = s)
  else if d = "split" then decide ((atG g s).un.length = 2) && (decide ([a, b] = (atG g s).un) || decide ([a, b] = (atG g s).un.reverse))
  else decide (d = "over") && ((decide (a = s) && decide (b ∈ (atG g s).bs)) || (decide (b = s) && decide (a ∈ (atG g s).bs)))
/-- ways -/
inductive Wy
  | one (p : List Nat) (d : Str)
  | two (p : List Nat) (d : Str) (a b : Wy)
def Wy.p : Wy → List Nat
  | .one p _ => p
  | .two p _ _ _ => p
def Wy.dd : Wy → Str
  | .one _ d => d
  | .two _ d _ _ => d
def pD (p : List Nat) : D := .tup (p.map natD)
def Wy.d : Wy → D
  | .one p d => .tup [pD p, .str d]
  | .two p d a b => .tup [pD p, .str d, a.d, b.d]
def wayN (g : Gr) : T → Wy → Bool
  | .leaf w, .one p d => pathN g p && (decide (d = "found") && fndN g (p.getLastD 0) w)
  | .node l r, .two p d a b => pathN g p && (wayN g l a && (wayN g r b && domN g (p.getLastD 0) d (a.p.headD 0) (b.p.headD 0)))
  | _, _ => false
def T.subs : T → List T
  | .leaf w => [.leaf w]
  | .node l r => l.subs ++ r.subs ++ [.node l r]
theorem T.subs_len : ∀ t : T, t.subs.length = t.cnt
  | .leaf _ => rfl
  | .node l r => by simp [T.subs, T.cnt, l.subs_len, r.subs_len]; omega
theorem T.sub_at : ∀ (t : T) (k i : Nat) (s : T), t.subs[i]? = some s → ∃ d, (T.nodesFrom k t)[i]? = some d ∧ match s with
    | .leaf w => d = .str w
    | .node l r => ∃ a b : Nat, d = .tup [natD (k + a), natD (k + b)] ∧ t.subs[a]? = some l ∧ t.subs[b]? = some r ∧ a < i ∧ b < i
  | .leaf w, k, i, s, h => by
    cases i with
    | zero => cases h; exact ⟨_, rfl, rfl⟩
    | succ i => simp [T.subs] at h
  | .node l r, k, i, s, h => by
    have hl := l.subs_len
    have hr := r.subs_len
    have cl := l.cnt_pos
    have cr := r.cnt_pos
    have nl := l.nodesFrom_len k
    have nr := r.nodesFrom_len (k + l.cnt)
    have il : l.subs[l.cnt - 1]? = some l := by cases l <;> simp [T.subs, T.cnt, T.subs_len]
    have ir : r.subs[r.cnt - 1]? = some r := by cases r <;> simp [T.subs, T.cnt, T.subs_len]
    simp only [T.subs] at h
    by_cases h1 : i < l.cnt
    · rw [List.append_assoc, List.getElem?_append_left (by omega)] at h
      obtain ⟨d, e1, e2⟩ := T.sub_at l k i s h
      refine ⟨d, by rw [T.nodesFrom, List.append_assoc, List.getElem?_append_left (by omega), e1], ?_⟩
      cases s with
      | leaf w => exact e2
      | node u v =>
        obtain ⟨a, b, q1, q2, q3, q4, q5⟩ := e2
        exact ⟨a, b, q1, by simp only [T.subs]; rw [List.append_assoc, List.getElem?_append_left (by omega), q2], by simp only [T.subs]; rw [List.append_assoc, List.getElem?_append_left (by omega), q3], q4, q5⟩
    · by_cases h2 : i < l.cnt + r.cnt
      · rw [List.append_assoc, List.getElem?_append_right (by omega), List.getElem?_append_left (by omega)] at h
        obtain ⟨d, e1, e2⟩ := T.sub_at r (k + l.cnt) (i - l.subs.length) s h
        refine ⟨d, by rw [T.nodesFrom, List.append_assoc, List.getElem?_append_right (by omega), List.getElem?_append_left (by omega), nl, show i - l.cnt = i - l.subs.length by omega, e1], ?_⟩
        cases s with
        | leaf w => exact e2
        | node u v =>
          obtain ⟨a, b, q1, q2, q3, q4, q5⟩ := e2
          have key : ∀ c, c < r.cnt → ((l.subs ++ r.subs ++ [T.node l r])[l.cnt + c]? = r.subs[c]?) := fun c hc => by
            rw [List.append_assoc, List.getElem?_append_right (by omega), List.getElem?_append_left (by omega), hl, show l.cnt + c - l.cnt = c by omega]
          have la := (List.getElem?_eq_some_iff.mp q2).1
          have lb := (List.getElem?_eq_some_iff.mp q3).1
          refine ⟨l.cnt + a, l.cnt + b, ?_, ?_, ?_, by omega, by omega⟩
          · rw [q1, show k + l.cnt + a = k + (l.cnt + a) by omega, show k + l.cnt + b = k + (l.cnt + b) by omega]
          · simp only [T.subs]; rw [key a (by omega), q2]
          · simp only [T.subs]; rw [key b (by omega), q3]
      · have hi : i = l.cnt + r.cnt := by
          have := (List.getElem?_eq_some_iff.mp h).1
          simp only [List.length_append, List.length_cons, List.length_nil] at this
          omega
        subst hi
        rw [List.getElem?_append_right (by simp only [List.length_append]; omega), List.length_append, hl, hr, Nat.sub_self] at h
        cases h
        refine ⟨_, by rw [T.nodesFrom, List.getElem?_append_right (by rw [List.length_append]; omega), List.length_append, nl, nr, Nat.sub_self]; rfl, l.cnt - 1, l.cnt + r.cnt - 1, ?_, ?_, ?_, by omega, by omega⟩
        · rw [show k + l.cnt - 1 = k + (l.cnt - 1) by omega, show k + l.cnt + r.cnt - 1 = k + (l.cnt + r.cnt - 1) by omega] <;> rfl
        · simp only [T.subs]; rw [List.append_assoc, List.getElem?_append_left (by omega), il]
        · simp only [T.subs]; rw [List.append_assoc, List.getElem?_append_right (by omega), List.getElem?_append_left (by omega), show l.cnt + r.cnt - 1 - l.subs.length = r.cnt - 1 by omega, ir]
theorem T.sub_leaf {t : T} {i : Nat} {w : Str} (h : t.subs[i]? = some (.leaf w)) : t.nodes[i]? = some (.str w) := by
  obtain ⟨d, e1, rfl⟩ := T.sub_at t 0 i _ h
  exact e1
theorem T.sub_node {t l r : T} {i : Nat} (h : t.subs[i]? = some (.node l r)) : ∃ a b : Nat, t.nodes[i]? = some (.tup [natD a, natD b]) ∧ t.subs[a]? = some l ∧ t.subs[b]? = some r ∧ a < i ∧ b < i := by
  obtain ⟨d, e1, a, b, e2, e3, e4, e5, e6⟩ := T.sub_at t 0 i _ h
  rw [Nat.zero_add, Nat.zero_add] at e2
  exact ⟨a, b, by rw [T.nodes, e1, e2], e3, e4, e5, e6⟩
theorem T.sub_top (t : T) : t.subs[t.cnt - 1]? = some t := by cases t <;> simp [T.subs, T.cnt, T.subs_len]
def Sane : Nat → D → Prop
  | 0, d => notTy d = true
  | k + 1, d => notTy d = true ∧ (∀ ds, d = .tup ds → ds.length ≤ 100000 ∧ ∀ x ∈ ds, Sane k x) ∧ ∀ w, d = .str w → strOkB w = true
theorem Sane.ty {k : Nat} {d : D} (h : Sane k d) : notTy d = true := by cases k with
  | zero => exact h
  | succ k => exact h.1
def natsOf : List D → Option (List Nat)
  | [] => some []
  | .int i :: ds => if 0 ≤ i then (natsOf ds).map (i.toNat :: ·) else none
  | _ => none
theorem pathN_inv {g : Gr} {p : List Nat} (h : pathN g p = true) : p ≠ [] ∧ (∀ x ∈ p, x < g.length) ∧ ∀ q ∈ p.zip p.tail, q.2 ∈ (atG g q.1).un := by
  unfold pathN at h
  simp only [Bool.and_eq_true, Bool.not_eq_true', List.isEmpty_eq_false_iff, List.all_eq_true, decide_eq_true_eq] at h
  exact ⟨h.1.1, h.1.2, h.2⟩
def headD (d : D) : Nat := match d with
  | .tup (.tup ds :: _) => ((natsOf ds).getD []).headD 0
  | _ => 0
end M
namespace Q
open PySem hiding Env
open L2 M
theorem opEq_strs {S : Store} {x y : Str} (hx : strOkB x = true) (hy : strOkB y = true) : opEq (.v (.str x)) (.v (.str y)) S = .ok (.v (.bl (decide (x = y)))) S :=
  (opEq_nic 0 (show Nic 0 (.str x) from hx) (show Nic 0 (.str y) from hy) (by decide) (by rw [decide_eq_true_eq]; exact ⟨fun h => by rw [h], fun h => by cases h; rfl⟩)).1
end Q
namespace Q
open PySem hiding Env
open L2 M
end Q
namespace M
open PySem PySem.Spec L2
open PyProof.Rows hiding St
def ddsN (g : Gr) (s : Nat) : List (Str × Nat × Nat) :=
  (("doubled" : Str), s, s) :: ((if (atG g s).un.length = 2 then [(("split" : Str), (atG g s).un.getD 0 0, (atG g s).un.getD 1 0), (("split" : Str), (atG g s).un.getD 1 0, (atG g s).un.getD 0 0)] else []) ++ (atG g s).bs.flatMap fun o => [(("over" : Str), s, o), (("over" : Str), o, s)])
def dd3 (x : Str × Nat × Nat) : D := .tup [.str x.1, natD x.2.1, natD x.2.2]
/-- one row of what can be -/
def crow (g : Gr) (dn : Nat → Bool) : Nat → List Bool
  | 0 => []
  | n + 1 => crow g dn n ++ [(atG g n).un.any (fun u => (crow g dn n).getD u false) || dn n]
def can1 (g : Gr) (dn : Nat → Bool) (s : Nat) : Bool := (crow g dn (s + 1)).getD s false
def dnN (g : Gr) : T → Nat → List (Str × Nat × Nat)
  | .leaf w, s => if fndN g s w = true then [(("found" : Str), s, s)] else []
  | .node l r, s => (ddsN g s).filter fun x => can1 g (fun s => !(dnN g l s).isEmpty) x.2.1 && can1 g (fun s => !(dnN g r s).isEmpty) x.2.2
def canN (g : Gr) (t : T) (s : Nat) : Bool := can1 g (fun s => !(dnN g t s).isEmpty) s
/-- all words are found -/
def Fnd (g : Gr) (ws : List Str) : Prop := ∀ w ∈ ws, ∃ s, s < g.length ∧ fndN g s w = true
/-- paths -/
def stepsN (g : Gr) (p : List Nat) : Prop := ∀ q ∈ p.zip p.tail, q.2 ∈ (atG g q.1).un
theorem pathN_iff {g : Gr} {p : List Nat} : pathN g p = true ↔ p ≠ [] ∧ (∀ x ∈ p, x < g.length) ∧ stepsN g p := by
  refine ⟨pathN_inv, fun ⟨h1, h2, h3⟩ => ?_⟩
  unfold pathN
  simp only [Bool.and_eq_true, Bool.not_eq_true', List.isEmpty_eq_false_iff, List.all_eq_true, decide_eq_true_eq]
  exact ⟨⟨h1, h2⟩, h3⟩
theorem set_same {S : Store} {n : Nat} {o : MO} (h : S[n]? = some o) : S.set n o = S := by
  refine List.ext_getElem? fun j => ?_
  by_cases hj : n = j
  · subst hj; rw [get_set h, h]
  · rw [get_ne hj]
end M
namespace Q
open PySem hiding Env
open L2 M
/-- a path from a stay on, at whose end a deed leads on -/
structure Pth (g : Gr) (s : T) (x : Nat) (p : List Nat) : Prop where
  path : pathN g p = true
  hd : p.headD 0 = x
  can : canN g s (p.getLastD 0) = true
  len : p.length ≤ 2 * g.length
theorem Pth.ne {g : Gr} {s : T} {x : Nat} {p : List Nat} (h : Pth g s x p) : p ≠ [] := (pathN_inv h.path).1
theorem Pth.one {g : Gr} {s : T} {x : Nat} (hx : x < g.length) (hc : canN g s x = true) : Pth g s x [x] := ⟨pathN_iff.mpr ⟨by simp, by simpa using hx, fun q hq => by simp at hq⟩, rfl, hc, by simp; omega⟩
theorem steps_len {g : Gr} (G : Grd g) : ∀ {p : List Nat}, (∀ x ∈ p, x < g.length) → stepsN g p → p.length + p.getLastD 0 ≤ p.headD 0 + 1
  | [], _, _ => by simp
  | [a], _, _ => by simp; omega
  | a :: b :: p, h1, h2 => by
    have ih := steps_len G (p := b :: p) (fun x hx => h1 x (by simp [hx])) (fun q hq => h2 q (by simp only [List.tail_cons, List.zip_cons_cons, List.mem_cons]; exact .inr hq))
    have hb : b ∈ (atG g a).un := h2 (a, b) (by simp)
    have := (G.un a (h1 a (by simp))).1 b hb
    have e : (a :: b :: p).getLastD 0 = (b :: p).getLastD 0 := by simp
    rw [e]
    simp only [List.length_cons, List.headD_cons] at *
    omega
end Q
namespace M
open PySem PySem.Spec L2
open PyProof.Rows hiding St
def nmOf (t : T) (h : Nat) : D := if isStr (t.nodes.getD h .non) = true then t.nodes.getD h .non else natD h
def grO (t : T) : Gr := (List.range t.cnt).map fun h => ⟨nmOf t h, 0, if isStr (t.nodes.getD h .non) = true then [] else [chA t h, chB t h], t.aside h⟩
def grW (t : T) (ds : List Int) : Gr := (standing t ds).map fun p => ⟨nmOf t p.1, p.2, undr t ds p.1 p.2, besd t ds p.1 p.2⟩
theorem grO_at {t : T} {h : Nat} (hh : h < t.cnt) : atG (grO t) h = ⟨nmOf t h, 0, if isStr (t.nodes.getD h .non) = true then [] else [chA t h, chB t h], t.aside h⟩ := by
  unfold atG grO
  rw [List.getD_eq_getElem?_getD, List.getElem?_map, List.getElem?_range hh]; rfl
theorem grO_len (t : T) : (grO t).length = t.cnt := by simp [grO]
theorem standing_nd (t : T) (ds : List Int) : (standing t ds).Nodup := by
  unfold standing
  generalize (fls t ds).length = n
  induction n with
  | zero => simp [standTo]
  | succ n ih =>
    rw [standTo_succ, List.nodup_append]
    refine ⟨ih, ?_, fun a ha b hb e => ?_⟩
    · unfold standL
      rw [List.nodup_iff_pairwise_ne, List.pairwise_map]
      exact ((List.nodup_range).sublist List.filter_sublist).imp fun h e => h (by simp at e; exact e)
    · subst e
      have h1 := (standTo_mem.mp ha).1
      have h2 := (standL_mem.mp hb).1
      omega
theorem grW_len (t : T) (ds : List Int) : (grW t ds).length = (standing t ds).length := by simp [grW]
theorem grW_at {t : T} {ds : List Int} {i : Nat} {p : Nat × Nat} (h : (standing t ds)[i]? = some p) : atG (grW t ds) i = ⟨nmOf t p.1, p.2, undr t ds p.1 p.2, besd t ds p.1 p.2⟩ := by
  unfold atG grW
  rw [List.getD_eq_getElem?_getD, List.getElem?_map, h]; rfl
/-- the ground of a great tree, without dates or with drawn ones -/
structure GrOf (t : T) (g : Gr) : Prop where
  ok : Grd g
  fnd : ∀ ws : List Str, (∀ w ∈ ws, w ∈ t.ls) → Fnd g ws
  of : g = grO t ∨ ∃ ds, isDt t ds = true ∧ g = grW t ds
end M
namespace M
open PySem hiding Env
open L2
end M
namespace Q
open PySem hiding Env
open L2 M
/-- a small tree's leaves are the great one's -/
structure Sml (t s : T) : Prop where
  ok : s.Ok
  len : s.ls.length ≤ 10
  sub : ∀ w ∈ s.ls, w ∈ t.ls
theorem Sml.depth {t s : T} (h : Sml t s) : s.depth ≤ 10 := by have := s.depth_lt; have := h.len; omega
end Q
namespace Q
open PySem hiding Env
open L2 M
end Q
namespace M
open PySem PySem.Spec L2
open PyProof.Rows hiding St
def Wy.Ok : Wy → Prop
  | .one p d => p.length ≤ 100000 ∧ strOkB d = true
  | .two p d a b => p.length ≤ 100000 ∧ strOkB d = true ∧ a.Ok ∧ b.Ok
theorem domN_str {g : Gr} {s a b : Nat} {d : Str} (h : domN g s d a b = true) : d = "doubled" ∨ d = "split" ∨ d = "over" := by
  unfold domN at h
  split at h
  · exact .inl ‹_›
  · split at h
    · exact .inr (.inl ‹_›)
    · rw [Bool.and_eq_true, decide_eq_true_eq] at h
      exact .inr (.inr h.1)
theorem path_len {g : Gr} (G : Grd g) {p : List Nat} (h : pathN g p = true) : p.length ≤ 1000 := by
  obtain ⟨h1, h2, h3⟩ := pathN_inv h
  have := Q.steps_len G h2 h3
  have hh : p.headD 0 < g.length := by
    cases p with
    | nil => exact absurd rfl h1
    | cons a p => exact h2 a (by simp)
  have := G.len
  omega
theorem way_inv2 {g : Gr} {t : T} {p : List Nat} {d : Str} {a b : Wy} (h : wayN g t (.two p d a b) = true) : ∃ l r, t = .node l r ∧ pathN g p = true ∧ wayN g l a = true ∧ wayN g r b = true ∧ domN g (p.getLastD 0) d (a.p.headD 0) (b.p.headD 0) = true := by
  cases t with
  | leaf w => cases h
  | node l r =>
    have h : (pathN g p && (wayN g l a && (wayN g r b && domN g (p.getLastD 0) d (a.p.headD 0) (b.p.headD 0)))) = true := h
    simp only [Bool.and_eq_true] at h
    exact ⟨l, r, rfl, h.1, h.2.1, h.2.2.1, h.2.2.2⟩
theorem way_inv1 {g : Gr} {t : T} {p : List Nat} {d : Str} (h : wayN g t (.one p d) = true) : ∃ w, t = .leaf w ∧ pathN g p = true ∧ d = "found" ∧ fndN g (p.getLastD 0) w = true := by
  cases t with
  | node l r => cases h
  | leaf w =>
    have h : (pathN g p && (decide (d = "found") && fndN g (p.getLastD 0) w)) = true := h
    simp only [Bool.and_eq_true, decide_eq_true_eq] at h
    exact ⟨w, rfl, h.1, h.2.1, h.2.2⟩
end M
namespace Q
open PySem hiding Env
open L2 M
end Q
namespace Q
open PySem hiding Env
open L2 M
end Q
namespace M
open PySem PySem.Spec L2
open PyProof.Rows hiding St
def Wy.all : Wy → List Wy
  | .one p d => [.one p d]
  | .two p d a b => a.all ++ b.all ++ [.two p d a b]
def Wy.hgt : Wy → Nat
  | .one _ _ => 0
  | .two _ _ a b => max a.hgt b.hgt + 1
def Wy.plc (y : Wy) : List (Nat × Str) := y.all.map fun w => (w.p.getLastD 0, w.dd)
theorem way_shape {g : Gr} : ∀ {t : T} {y : Wy}, wayN g t y = true → y.all.length = t.cnt ∧ y.hgt = t.depth
  | t, .one p d, h => by obtain ⟨w, rfl, _⟩ := way_inv1 h; exact ⟨rfl, rfl⟩
  | t, .two p d a b, h => by
    obtain ⟨l, r, rfl, _, h1, h2, _⟩ := way_inv2 h
    obtain ⟨a1, a2⟩ := way_shape h1
    obtain ⟨b1, b2⟩ := way_shape h2
    refine ⟨by simp [Wy.all, T.cnt, a1, b1]; omega, by simp [Wy.hgt, T.depth, a2, b2]⟩
def Wy.kids : Wy → List Wy
  | .one _ _ => []
  | .two _ _ a b => [a, b]
theorem way_all {g : Gr} : ∀ {t : T} {y : Wy}, wayN g t y = true → ∀ w ∈ y.all, pathN g w.p = true ∧ strOkB w.dd = true
  | t, .one p d, h, w, hw => by
    obtain ⟨x, rfl, h1, rfl, _⟩ := way_inv1 h
    simp [Wy.all] at hw; subst hw
    exact ⟨h1, by show strOkB "found" = true; decide +kernel⟩
  | t, .two p d a b, h, w, hw => by
    obtain ⟨l, r, rfl, h1, h2, h3, h4⟩ := way_inv2 h
    simp only [Wy.all, List.mem_append, List.mem_singleton] at hw
    rcases hw with (hw | hw) | rfl
    · exact way_all h2 w hw
    · exact way_all h3 w hw
    · exact ⟨h1, by show strOkB d = true; rcases domN_str h4 with rfl | rfl | rfl <;> decide +kernel⟩
end M
namespace Q
open PySem hiding Env
open L2 M
end Q
namespace Q
open PySem hiding Env
open L2 M
end Q
namespace M
open PySem PySem.Spec L2
open PyProof.Rows hiding St
end M
namespace Q
open PySem hiding Env
open L2 M
end Q
namespace Q
open PySem hiding Env
open L2 M
end Q
namespace M
open PySem PySem.Spec L2
open PyProof.Rows hiding St
/-- what is asked of a way's nodes -/
structure Wys (y : Wy) : Prop where
  hgt : y.hgt < 70
  len : y.all.length ≤ 100000
  ne : ∀ w ∈ y.all, w.p ≠ [] ∧ strOkB w.dd = true
theorem Wys.of {g : Gr} {t : T} {y : Wy} (h : wayN g t y = true) (hz : t.ls.length ≤ 10) : Wys y := by
  obtain ⟨h1, h2⟩ := way_shape h
  have := t.depth_lt
  have := t.cnt_ls
  exact ⟨by omega, by omega, fun w hw => ⟨(pathN_inv (way_all h w hw).1).1, (way_all h w hw).2⟩⟩
theorem Wys.l {p : List Nat} {d : Str} {a b : Wy} (h : Wys (.two p d a b)) : Wys a := by
  have h1 := h.hgt; have h2 := h.len
  simp only [Wy.hgt] at h1
  simp only [Wy.all, List.length_append] at h2
  exact ⟨by omega, by omega, fun w hw => h.ne w (by simp [Wy.all, hw])⟩
theorem Wys.r {p : List Nat} {d : Str} {a b : Wy} (h : Wys (.two p d a b)) : Wys b := by
  have h1 := h.hgt; have h2 := h.len
  simp only [Wy.hgt] at h1
  simp only [Wy.all, List.length_append] at h2
  exact ⟨by omega, by omega, fun w hw => h.ne w (by simp [Wy.all, hw])⟩
theorem Wys.str {y : Wy} (h : Wys y) : ∀ x ∈ y.plc, strOkB x.2 = true := fun x hx => by
  obtain ⟨w, hw, rfl⟩ := List.mem_map.mp hx
  exact (h.ne w hw).2
end M
namespace Q
open PySem hiding Env
open L2 M
end Q
namespace Q
open PySem hiding Env
open L2 M
end Q
namespace M
open PySem PySem.Spec L2
open PyProof.Rows hiding St
def lossN (g : Gr) (p : List Nat) : Nat := (p.dropLast.filter fun s => decide ((atG g s).un.length = 2)).length
end M
namespace Q
open PySem hiding Env
open L2 M
end Q
namespace Q
open PySem hiding Env
open L2 M
noncomputable def m_is_great (g_is_tree : List R → Store → Out R) (g_leaves : List R → Store → Out R) : MS :=
  (mSeq (mIfS (mtNot (mtTru (mCall g_is_tree (mCons (mVar 0) mNil)))) (mRet (mC (.bl false))) mSkip)
  (mSeq (mSet 1 (mCall g_leaves (mCons (mVar 0) mNil)))
  (mRet (mBin opEq (mUn opLenSetT (mVar 1)) (mCall biLen (mCons (mVar 1) mNil))))))
noncomputable def M_is_great : List R → Store → Out R := mDefV 2 (m_is_great (R_is_tree 70) M_leaves)
end Q
namespace M
open PySem PySem.Spec L2
end M
namespace Q
open PySem hiding Env
open L2 M
theorem is_great_T {t : T} {S : Store} (ht : t.Ok) (hd : t.depth < 70) (hz : t.ls.length ≤ 2000) : M_is_great [.v t.d] S = .ok (.v (.bl (decide t.ls.Nodup))) S := by
  refine eq_wE ?_
  have e : ((newN t.ls t.ls.length : Nat) : Int) = (t.ls.length : Int) ↔ t.ls.Nodup := by
    have := newN_nodup t.ls t.ls.length (Nat.le_refl _)
    rw [List.take_length] at this
    rw [← this]; omega
  have eb : ((newN t.ls t.ls.length : Int) == (t.ls.length : Int)) = decide t.ls.Nodup := by
    by_cases z : t.ls.Nodup
    · rw [decide_eq_true z]; exact beq_iff_eq.mpr (e.mpr z)
    · rw [decide_eq_false z]; exact beq_eq_false_iff_ne.mpr fun y => z (e.mp y)
  simp_arith [M_is_great, m_is_great, is_tree_T hd ht S, leaves_spec (t := t) (S := S) hd (by omega), opLenSetT_strs t.ls hz S, List.length_map, eb]
end Q
namespace Q
open PySem hiding Env
open L2 M
end Q
namespace M
open PySem PySem.Spec L2
open PyProof.Rows hiding St
end M
namespace Q
open PySem hiding Env
open L2 M
end Q
namespace Q
open PySem hiding Env
open L2 M
end Q
namespace Q
open PySem hiding Env
open L2 M
noncomputable def m_Signs___init__ : MS :=
  (mSeq (mSetFld "Signs" "whole_text" (mVar 0) (mVar 1))
  (mSetFld "Signs" "sign_at" (mVar 0) (mC (.int 0))))
noncomputable def M_Signs___init__ : List R → Store → Out R := mDef 2 (m_Signs___init__)
noncomputable def m_signs_of_4 (g_Signs___init__ : List R → Store → Out R) : MS :=
  (mSeq (mIfS (mtNot (mtTru (mCall biIsi (mCons (mVar 0) (mCons (mC (.ty "str")) mNil))))) mNoS mSkip)
  (mRet (mMake "Signs" g_Signs___init__ (mCons (mVar 0) mNil))))
noncomputable def M_signs_of_4 : List R → Store → Out R := mDef 1 (m_signs_of_4 M_Signs___init__)
noncomputable def m_Signs_need_2 : MS :=
  (mIfS (mtNot (mtTru (mVar 1))) mNoS mSkip)
noncomputable def M_Signs_need_2 : List R → Store → Out R := mDefV 2 (m_Signs_need_2)
noncomputable def m_Signs_sign : MS :=
  (mRet (mPop (mSl (mFld "Signs" "whole_text" (mVar 0)) (moS (mFld "Signs" "sign_at" (mVar 0))) (moS (mBin opAdd (mFld "Signs" "sign_at" (mVar 0)) (mC (.int 1)))))))
noncomputable def M_Signs_sign : List R → Store → Out R := mDefV 1 (m_Signs_sign)
noncomputable def m_Signs_take_sign_2 (g_Signs_need_2 : List R → Store → Out R) (g_Signs_sign : List R → Store → Out R) : MS :=
  (mSeq (mDrop (mMethC "Signs" "need" g_Signs_need_2 (mVar 0) (mCons (mBin opEq (mMethC "Signs" "sign" g_Signs_sign (mVar 0) mNil) (mVar 1)) mNil)))
  (mAugFld "Signs" "sign_at" (mVar 0) opIadd (mC (.int 1))))
noncomputable def M_Signs_take_sign_2 : List R → Store → Out R := mDefV 2 (m_Signs_take_sign_2 M_Signs_need_2 M_Signs_sign)
noncomputable def b1_Signs_take_some_2 : MS :=
  (mAugFld "Signs" "sign_at" (mVar 0) opIadd (mC (.int 1)))
noncomputable def m_Signs_take_some_2 (g_Signs_sign : List R → Store → Out R) (g_Signs_need_2 : List R → Store → Out R) : MS :=
  (mSeq (mSet 3 (mFld "Signs" "sign_at" (mVar 0)))
  (mSeq (mWhile (mtAnd (mtB (mBin opNe (mMethC "Signs" "sign" g_Signs_sign (mVar 0) mNil) (mC (.str "")))) (mtAnd (mtB (mBin opIn (mMethC "Signs" "sign" g_Signs_sign (mVar 0) mNil) (mVar 1))) (mtB (mBin opLt (mBin opSub (mFld "Signs" "sign_at" (mVar 0)) (mVar 3)) (mVar 2))))) b1_Signs_take_some_2)
  (mSeq (mDrop (mMethC "Signs" "need" g_Signs_need_2 (mVar 0) (mCons (mBin opGt (mFld "Signs" "sign_at" (mVar 0)) (mVar 3)) mNil)))
  (mRet (mPop (mSl (mFld "Signs" "whole_text" (mVar 0)) (moS (mVar 3)) (moS (mFld "Signs" "sign_at" (mVar 0)))))))))
noncomputable def M_Signs_take_some_2 : List R → Store → Out R := mDefV 4 (m_Signs_take_some_2 M_Signs_sign M_Signs_need_2)
noncomputable def m_tree_taken_3 (g_Signs_sign : List R → Store → Out R) (g_Signs_take_some_2 : List R → Store → Out R) (g_Signs_take_sign_2 : List R → Store → Out R) (g_tree_taken_3 : List R → Store → Out R) : MS :=
  (mSeq (mIfS (mtB (mBin opNe (mMethC "Signs" "sign" g_Signs_sign (mVar 0) mNil) (mC (.str "(")))) (mRet (mMethC "Signs" "take_some" g_Signs_take_some_2 (mVar 0) (mCons (mC (.str "abcdefghijklmnopqrstuvwxyz")) (mCons (mC (.int 8)) mNil)))) mSkip)
  (mSeq (mDrop (mMethC "Signs" "take_sign" g_Signs_take_sign_2 (mVar 0) (mCons (mC (.str "(")) mNil)))
  (mSeq (mSet 1 (mCall g_tree_taken_3 (mCons (mVar 0) mNil)))
  (mSeq (mDrop (mMethC "Signs" "take_sign" g_Signs_take_sign_2 (mVar 0) (mCons (mC (.str ",")) mNil)))
  (mSeq (mSet 2 (mCall g_tree_taken_3 (mCons (mVar 0) mNil)))
  (mSeq (mDrop (mMethC "Signs" "take_sign" g_Signs_take_sign_2 (mVar 0) (mCons (mC (.str ")")) mNil)))
  (mRet (mTup (mCons (mVar 1) (mCons (mVar 2) mNil))))))))))
noncomputable def R_tree_taken_3 : Nat → List R → Store → Out R
  | 0 => fun _ _ => .no
  | k + 1 => mDefV 3 (m_tree_taken_3 M_Signs_sign M_Signs_take_some_2 M_Signs_take_sign_2 (R_tree_taken_3 k))
noncomputable def m_Signs_take_end_2 (g_Signs_need_2 : List R → Store → Out R) (g_Signs_sign : List R → Store → Out R) : MS :=
  (mDrop (mMethC "Signs" "need" g_Signs_need_2 (mVar 0) (mCons (mBin opEq (mMethC "Signs" "sign" g_Signs_sign (mVar 0) mNil) (mC (.str ""))) mNil)))
noncomputable def M_Signs_take_end_2 : List R → Store → Out R := mDefV 1 (m_Signs_take_end_2 M_Signs_need_2 M_Signs_sign)
noncomputable def m_read_tree_4 (g_signs_of_4 : List R → Store → Out R) (g_tree_taken_3 : List R → Store → Out R) (g_Signs_take_end_2 : List R → Store → Out R) : MS :=
  (mSeq (mSet 1 (mCall g_signs_of_4 (mCons (mVar 0) mNil)))
  (mSeq (mSet 2 (mCall g_tree_taken_3 (mCons (mVar 1) mNil)))
  (mSeq (mDrop (mMethC "Signs" "take_end" g_Signs_take_end_2 (mVar 1) mNil))
  (mRet (mVar 2)))))
noncomputable def M_read_tree_4 : List R → Store → Out R := mDefV 3 (m_read_tree_4 M_signs_of_4 (R_tree_taken_3 70) M_Signs_take_end_2)
end Q
namespace Q
open PySem hiding Env
open L2 M
def fs_Signs1 (r0 : R) : List (Str × R) := [(("whole_text" : Str), r0)]
def fs_Signs (r0 r1 : R) : List (Str × R) := [(("whole_text" : Str), r0), (("sign_at" : Str), r1)]
theorem fs_Signs1_put_sign_at (r0 x : R) : putR' ("sign_at" : Str) x (fs_Signs1 r0) = fs_Signs r0 x := rfl
theorem fs_Signs_at_whole_text (r0 r1 : R) : (fs_Signs r0 r1).lookup ("whole_text" : Str) = some r0 := rfl
theorem fs_Signs_at_sign_at (r0 r1 : R) : (fs_Signs r0 r1).lookup ("sign_at" : Str) = some r1 := rfl
theorem fs_Signs_put_sign_at (r0 r1 x : R) : putR' ("sign_at" : Str) x (fs_Signs r0 r1) = fs_Signs r0 x := rfl
theorem fs_Signs_no_sign (r0 r1 : R) : (fs_Signs r0 r1).lookup ("sign" : Str) = none := rfl
theorem fs_Signs_no_need (r0 r1 : R) : (fs_Signs r0 r1).lookup ("need" : Str) = none := rfl
theorem fs_Signs_no_take_sign (r0 r1 : R) : (fs_Signs r0 r1).lookup ("take_sign" : Str) = none := rfl
theorem fs_Signs_no_take_some (r0 r1 : R) : (fs_Signs r0 r1).lookup ("take_some" : Str) = none := rfl
theorem fs_Signs_no_take_end (r0 r1 : R) : (fs_Signs r0 r1).lookup ("take_end" : Str) = none := rfl
theorem fs_Signs0_put (x : R) : putR' ("whole_text" : Str) x [] = fs_Signs1 x := rfl
end Q
namespace M
open PySem PySem.Spec L2
open PyProof.Rows hiding St
theorem cutD_ij {α : Type} (xs : List α) {i j : Nat} (h : i ≤ j) : cutD xs (some (i : Int)) (some (j : Int)) = (xs.drop i).take (j - i) := by
  unfold cutD
  have e1 : HT.sIx xs.length 0 (some (i : Int)) = min i xs.length := by
    have : ¬ (i : Int) < 0 := by omega
    simp [HT.sIx, this]
  have e2 : HT.sIx xs.length xs.length (some (j : Int)) = min j xs.length := by
    have : ¬ (j : Int) < 0 := by omega
    simp [HT.sIx, this]
  rw [e1, e2]
  rcases Nat.le_total xs.length i with q | q
  · rw [Nat.min_eq_right q, Nat.min_eq_right (by omega), List.drop_of_length_le (Nat.le_refl _), List.drop_of_length_le q]; simp
  · rw [Nat.min_eq_left q]
    rcases Nat.le_total j xs.length with q2 | q2
    · rw [Nat.min_eq_left q2]
    · rw [Nat.min_eq_right q2, List.take_of_length_le (by rw [List.length_drop]; exact Nat.le_refl _), List.take_of_length_le (by rw [List.length_drop]; omega)]
/-- the sign at a place, none behind the last -/
def sgn (C : List Nat) (i : Nat) : Str := ⟨((C.drop i).take 1).toArray⟩
theorem sgn_some {C : List Nat} {i c : Nat} (h : C[i]? = some c) : sgn C i = ⟨#[c]⟩ := by
  obtain ⟨hl, hv⟩ := List.getElem?_eq_some_iff.mp h
  unfold sgn
  rw [List.drop_eq_getElem_cons hl, hv]; rfl
theorem sgn_none {C : List Nat} {i : Nat} (h : C[i]? = none) : sgn C i = ⟨#[]⟩ := by
  unfold sgn
  rw [List.drop_of_length_le (List.getElem?_eq_none_iff.mp h)]; rfl
theorem drop_get {C D : List Nat} {i c : Nat} (h : C.drop i = c :: D) : C[i]? = some c ∧ C.drop (i + 1) = D := by
  constructor
  · have := congrArg (fun L : List Nat => L[0]?) h
    simpa using this
  · rw [← List.drop_drop, h]; rfl
theorem drop_add {C w r : List Nat} {i : Nat} (h : C.drop i = w ++ r) : C.drop (i + w.length) = r := by
  rw [← List.drop_drop, h, List.drop_left]
end M
namespace Q
open PySem hiding Env
open L2 M
/-- the signs of a text, looked at from a place on -/
def sgC (x : Str) (i : Nat) : MO := .ins "Signs" (fs_Signs (.v (.str x)) (.v (.int (i : Int))))
theorem sgC_lo (x : Str) (i k : Nat) : (sgC x i).lo k := by
  intro p hp
  simp only [fs_Signs, List.mem_cons, List.not_mem_nil, or_false] at hp
  rcases hp with rfl | rfl <;> trivial
section
variable {S : Store} {n i : Nat} {x : Str}
theorem sign_spec (e : S[n]? = some (sgC x i)) (hx : x.length ≤ 100000) : M_Signs_sign [.ref n] S = .ok (.v (.str (sgn x.cps.toList i))) S := by
  have hs : opSl (.v (.str x)) (some (i : Int)) (some ((i : Int) + 1)) S = .ok (.v (.str (sgn x.cps.toList i))) S := by
    show (if x.length ≤ sizeLine then Out.ok (R.v (.str (cutS x (some (i : Int)) (some ((i : Int) + 1))))) S else .no) = _
    rw [if_pos (sz_of (by omega))]
    congr 3
    refine str_ext ?_
    rw [cutS_cps, show ((i : Int) + 1) = ((i + 1 : Nat) : Int) by omega, cutD_ij _ (by omega)]
    unfold sgn
    simp
  refine eq_wE ?_
  simp_arith [M_Signs_sign, m_Signs_sign, fldR_get e (fs_Signs_at_whole_text ..), fldR_get e (fs_Signs_at_sign_at ..), hs]
theorem need_spec : M_Signs_need_2 [.ref n, .v (.bl true)] S = .ok (.v .non) S := by
  refine eq_wE ?_
  simp_arith [M_Signs_need_2, m_Signs_need_2]
theorem set_sg (e : S[n]? = some (sgC x i)) (j : Nat) : cut S (S.set n (sgC x j)) = S.set n (sgC x j) := cut_U ((Upd.refl S).set (sgC_lo x j _))
theorem put_at (e : S[n]? = some (sgC x i)) (m : Env) (j : Nat) : setFldR "Signs" "sign_at" m (.ref n) (.v (.int (j : Int))) S = .nx m (S.set n (sgC x j)) := by
  rw [setFldR_get e (by decide : 2 < 1000), fs_Signs_put_sign_at]; rfl
theorem take_sign_spec {c : Nat} (e : S[n]? = some (sgC x i)) (hx : x.length ≤ 100000) (hc : x.cps.toList[i]? = some c) (hk : c < 1000) : M_Signs_take_sign_2 [.ref n, .v (.str ⟨#[c]⟩)] S = .ok (.v .non) (S.set n (sgC x (i + 1))) := by
  have ok : strOkB ⟨#[c]⟩ = true := by simp [strOkB]; omega
  have hs := sign_spec e hx
  rw [sgn_some hc] at hs
  have ep : ((i : Int) + 1) = ((i + 1 : Nat) : Int) := by omega
  refine eq_wE ?_
  simp_arith [M_Signs_take_sign_2, m_Signs_take_sign_2, methR_get e (fs_Signs_no_need ..), methR_get e (fs_Signs_no_sign ..), hs, opEq_strs ok ok, decide_true, need_spec, fldR_get e (fs_Signs_at_sign_at ..), ep, put_at e, set_sg e]
theorem take_end_spec (e : S[n]? = some (sgC x i)) (hx : x.length ≤ 100000) (hc : x.cps.toList[i]? = none) : M_Signs_take_end_2 [.ref n] S = .ok (.v .non) S := by
  have ok : strOkB ⟨#[]⟩ = true := by decide +kernel
  have hs := sign_spec e hx
  rw [sgn_none hc] at hs
  have e0 : (Str.ofString "") = ⟨#[]⟩ := by decide +kernel
  refine eq_wE ?_
  simp_arith [M_Signs_take_end_2, m_Signs_take_end_2, methR_get e (fs_Signs_no_need ..), methR_get e (fs_Signs_no_sign ..), hs, e0, opEq_strs ok ok, decide_true, need_spec]
/-- a word is taken as far as letters stand -/
theorem take_some_spec {w : Str} {r : List Nat} (e : S[n]? = some (sgC x i)) (hx : x.length ≤ 100000) (hw : GoodW w) (hd : x.cps.toList.drop i = w.cps.toList ++ r) (hr : ∀ c ∈ r.head?, c < 97) (hok : ∀ c ∈ x.cps.toList, c < 1000) :
    M_Signs_take_some_2 [.ref n, .v (.str "abcdefghijklmnopqrstuvwxyz"), .v (.int 8)] S = .ok (.v (.str w)) (S.set n (sgC x (i + w.length))) := by
  have hn := lt_of_get e
  have wl : w.cps.toList.length = w.length := Array.length_toList
  have e0 : (Str.ofString "") = ⟨#[]⟩ := by decide +kernel
  have ok0 : strOkB ⟨#[]⟩ = true := by decide +kernel
  refine eq_wE ?_
  simp_arith [M_Signs_take_some_2, m_Signs_take_some_2, fldR_get e (fs_Signs_at_sign_at ..)]
  refine while_wp [] w.length (fun j ws U => ws = [] ∧ j ≤ w.length ∧ U = S.set n (sgC x (i + (w.length - j)))) (by have := hw.2.1; omega) rfl ⟨rfl, Nat.le_refl _, by rw [Nat.sub_self, Nat.add_zero, set_same e]⟩ ?_
  rintro j ws U ⟨rfl, hj, rfl⟩
  have eU : (S.set n (sgC x (i + (w.length - j))))[n]? = some (sgC x (i + (w.length - j))) := get_setlt hn _
  have sU : ∀ c, (S.set n (sgC x (i + (w.length - j)))).set n c = S.set n c := fun c => by rw [List.set_set]
  have cU : cut S (S.set n (sgC x (i + (w.length - j)))) = S.set n (sgC x (i + (w.length - j))) := cut_U ((Upd.refl S).set (sgC_lo x _ _))
  generalize hUU : S.set n (sgC x (i + (w.length - j))) = U at eU sU cU
  have hs := sign_spec eU hx
  have hget : ∀ k, x.cps.toList[i + k]? = (w.cps.toList ++ r)[k]? := fun k => by rw [← hd, List.getElem?_drop]
  simp_arith [methR_get eU (fs_Signs_no_sign ..), hs]
  cases j with
  | zero =>
    rw [Nat.sub_zero] at hs eU
    have hat : x.cps.toList[i + w.length]? = r[0]? := by rw [hget, List.getElem?_append_right (by omega), wl, Nat.sub_self]
    have need : decide (((i : Int)) < ((i + w.length : Nat) : Int)) = true := decide_eq_true (by have := hw.1; omega)
    have fin : opSl (.v (.str x)) (some (i : Int)) (some ((i + w.length : Nat) : Int)) U = .ok (.v (.str w)) U := by
      show (if x.length ≤ sizeLine then Out.ok (R.v (.str (cutS x (some (i : Int)) (some ((i + w.length : Nat) : Int))))) U else .no) = _
      rw [if_pos (sz_of (by omega))]
      congr 3
      refine str_ext ?_
      rw [cutS_cps, cutD_ij _ (by omega), hd, show i + w.length - i = w.cps.toList.length by omega, List.take_left]
    have hz : i + (w.length - 0) = i + w.length := by omega
    rw [hz]
    cases r with
    | nil =>
      have hnone : x.cps.toList[i + w.length]? = none := hat
      simp_arith [sgn_none hnone, e0, (opEq_nic (S := U) (b := true) 0 (show Nic 0 (.str ⟨#[]⟩) from ok0) (show Nic 0 (.str ⟨#[]⟩) from ok0) (by decide) (by simp)).2]
      refine ⟨_, _, rfl, ?_⟩
      simp_arith [methR_get eU (fs_Signs_no_need ..), fldR_get eU (fs_Signs_at_sign_at ..), fldR_get eU (fs_Signs_at_whole_text ..), need, need_spec, fin, cU]
      rw [← hUU]; rfl
    | cons c r =>
      have hsome : x.cps.toList[i + w.length]? = some c := hat
      have hc97 : c < 97 := hr c (by simp)
      have ne1 : opNe (.v (.str ⟨#[c]⟩)) (.v (.str ⟨#[]⟩)) U = .ok (.v (.bl true)) U := (opEq_nic (S := U) (b := false) 0 (show Nic 0 (.str ⟨#[c]⟩) from by simp [Nic, strOkB]; omega) (show Nic 0 (.str ⟨#[]⟩) from ok0) (by decide) (by simp)).2
      have in1 : opIn (.v (.str ⟨#[c]⟩)) (.v (.str "abcdefghijklmnopqrstuvwxyz")) U = .ok (.v (.bl false)) U := by
        rw [opIn_sign, letters_in, decide_eq_false (by omega)]; rfl
      simp_arith [sgn_some hsome, e0, ne1, methR_get eU (fs_Signs_no_sign ..), hs, in1]
      refine ⟨_, _, rfl, ?_⟩
      simp_arith [methR_get eU (fs_Signs_no_need ..), fldR_get eU (fs_Signs_at_sign_at ..), fldR_get eU (fs_Signs_at_whole_text ..), need, need_spec, fin, cU]
      rw [← hUU]; rfl
  | succ j =>
    have hlt : w.length - (j + 1) < w.cps.toList.length := by omega
    have hc : x.cps.toList[i + (w.length - (j + 1))]? = some w.cps.toList[w.length - (j + 1)] := by rw [hget, List.getElem?_append_left hlt, List.getElem?_eq_getElem hlt]
    have hcw := hw.2.2 _ (List.getElem_mem hlt)
    generalize w.cps.toList[w.length - (j + 1)] = c at hc hcw
    have ne1 : opNe (.v (.str ⟨#[c]⟩)) (.v (.str ⟨#[]⟩)) U = .ok (.v (.bl true)) U := (opEq_nic (S := U) (b := false) 0 (show Nic 0 (.str ⟨#[c]⟩) from by simp [Nic, strOkB]; omega) (show Nic 0 (.str ⟨#[]⟩) from ok0) (by decide) (by simp)).2
    have in1 : opIn (.v (.str ⟨#[c]⟩)) (.v (.str "abcdefghijklmnopqrstuvwxyz")) U = .ok (.v (.bl true)) U := by
      rw [opIn_sign, letters_in, decide_eq_true (show 97 ≤ c by omega), decide_eq_true (show c ≤ 122 by omega)]; rfl
    have lt1 : decide (((i + (w.length - (j + 1)) : Nat) : Int) - (i : Int) < 8) = true := decide_eq_true (by have := hw.2.1; omega)
    have ep : (((i + (w.length - (j + 1)) : Nat) : Int) + 1) = ((i + (w.length - j) : Nat) : Int) := by omega
    rw [sgn_some hc] at hs
    simp_arith [sgn_some hc, e0, ne1, methR_get eU (fs_Signs_no_sign ..), hs, in1, fldR_get eU (fs_Signs_at_sign_at ..), lt1]
    refine ⟨_, _, rfl, ?_⟩
    simp_arith [b1_Signs_take_some_2, fldR_get eU (fs_Signs_at_sign_at ..), ep, put_at eU, sU]
    exact ⟨j, by omega, by omega, rfl⟩
theorem taken_spec {x : Str} (hx : x.length ≤ 100000) (hok : ∀ c ∈ x.cps.toList, c < 1000) : ∀ (k : Nat) (t : T) (S : Store) (n i : Nat) (r : List Nat), t.depth < k → t.Ok → S[n]? = some (sgC x i) → x.cps.toList.drop i = t.signs ++ r → (∀ c ∈ r.head?, c < 97) →
    R_tree_taken_3 k [.ref n] S = .ok (.v t.d) (S.set n (sgC x (i + t.signs.length)))
  | 0, _, _, _, _, _, h, _, _, _, _ => by omega
  | k + 1, .leaf w, S, n, i, r, hd, ho, e, hdr, hr => by
    have hw := ho w (by simp [T.ls])
    have hsg : (T.leaf w).signs = w.cps.toList := rfl
    rw [hsg] at hdr ⊢
    have wl : w.cps.toList.length = w.length := Array.length_toList
    obtain ⟨c, cs, hcs⟩ : ∃ c cs, w.cps.toList = c :: cs := by
      cases h : w.cps.toList with
      | nil => rw [h] at wl; have := hw.1; simp at wl; omega
      | cons c cs => exact ⟨c, cs, rfl⟩
    have hc97 := hw.2.2 c (by rw [hcs]; simp)
    have hg := (drop_get (C := x.cps.toList) (i := i) (c := c) (D := cs ++ r) (by rw [hdr, hcs]; rfl)).1
    have hs := sign_spec e hx
    rw [sgn_some hg] at hs
    have ep : (Str.ofString "(") = ⟨#[40]⟩ := by decide +kernel
    have ne1 : opNe (.v (.str ⟨#[c]⟩)) (.v (.str ⟨#[40]⟩)) S = .ok (.v (.bl true)) S := (opEq_nic (S := S) (b := false) 0 (show Nic 0 (.str ⟨#[c]⟩) from by simp [Nic, strOkB]; omega) (show Nic 0 (.str ⟨#[40]⟩) from (by decide +kernel : strOkB ⟨#[40]⟩ = true)) (by decide) (by simp; omega)).2
    refine eq_wE ?_
    simp_arith [R_tree_taken_3, m_tree_taken_3, methR_get e (fs_Signs_no_sign ..), hs, ep, ne1, methR_get e (fs_Signs_no_take_some ..), take_some_spec e hx hw hdr hr hok, wl, set_sg e]
    rfl
  | k + 1, .node a b, S, n, i, r, hd, ho, e, hdr, hr => by
    have hn := lt_of_get e
    rw [T.signs_node] at hdr ⊢
    simp only [T.depth] at hd
    have ep : (Str.ofString "(") = ⟨#[40]⟩ := by decide +kernel
    have ek : (Str.ofString ",") = ⟨#[44]⟩ := by decide +kernel
    have eq : (Str.ofString ")") = ⟨#[41]⟩ := by decide +kernel
    simp only [List.cons_append, List.append_assoc, List.nil_append] at hdr
    obtain ⟨g1, d1⟩ := drop_get hdr
    have d2 := drop_add d1
    obtain ⟨g3, d3⟩ := drop_get d2
    have d4 := drop_add d3
    obtain ⟨g5, d5⟩ := drop_get d4
    have hs := sign_spec e hx
    rw [sgn_some g1] at hs
    have ne1 : opNe (.v (.str ⟨#[40]⟩)) (.v (.str ⟨#[40]⟩)) S = .ok (.v (.bl false)) S := (opEq_nic (S := S) (b := true) 0 (show Nic 0 (.str ⟨#[40]⟩) from (by decide +kernel : strOkB ⟨#[40]⟩ = true)) (show Nic 0 (.str ⟨#[40]⟩) from (by decide +kernel : strOkB ⟨#[40]⟩ = true)) (by decide) (by simp)).2
    have ss : ∀ c c' : MO, (S.set n c).set n c' = S.set n c' := fun c c' => List.set_set ..
    have e1 : ∀ j, (S.set n (sgC x j))[n]? = some (sgC x j) := fun j => get_setlt hn _
    have t1 := take_sign_spec e hx g1 (by decide)
    have a1 := taken_spec hx hok k a (S.set n (sgC x (i + 1))) n (i + 1) _ (by omega) ho.l (e1 _) d1 (by simp)
    rw [ss] at a1
    have t2 := take_sign_spec (e1 (i + 1 + a.signs.length)) hx g3 (by decide)
    rw [ss] at t2
    have a2 := taken_spec hx hok k b (S.set n (sgC x (i + 1 + a.signs.length + 1))) n (i + 1 + a.signs.length + 1) _ (by omega) ho.r (e1 _) d3 (by simp)
    rw [ss] at a2
    have t3 := take_sign_spec (e1 (i + 1 + a.signs.length + 1 + b.signs.length)) hx g5 (by decide)
    rw [ss] at t3
    have fin : i + (40 :: (a.signs ++ 44 :: (b.signs ++ [41]))).length = i + 1 + a.signs.length + 1 + b.signs.length + 1 := by simp; omega
    rw [fin]
    refine eq_wE ?_
    simp_arith [R_tree_taken_3, m_tree_taken_3, methR_get e (fs_Signs_no_sign ..), hs, ep, ek, eq, ne1, methR_get e (fs_Signs_no_take_sign ..), t1, a1, methR_get (e1 _) (fs_Signs_no_take_sign ..), t2, a2, t3, set_sg e]
    rfl
theorem read_tree_spec {t : T} {S : Store} (ho : t.Ok) (hd : t.depth < 70) (hl : t.ls.length ≤ 1000) : M_read_tree_4 [.v (.str t.text)] S = .ok (.v t.d) S := by
  have hlen := t.text_len ho
  have hx : t.text.length ≤ 100000 := by omega
  have hok : ∀ c ∈ t.text.cps.toList, c < 1000 := fun c hc => by have := t.text_codes ho c hc; omega
  have hsl : t.signs.length = t.text.cps.toList.length := rfl
  have g0 : ∀ c, (S ++ [c])[S.length]? = some c := fun c => get_len S c []
  have sf : ∀ c c' : MO, (S ++ [c]).set S.length c' = S ++ [c'] := fun c c' => set_len S c c' []
  have init : M_Signs___init__ [.ref S.length, .v (.str t.text)] (S ++ [.ins "Signs" []]) = .ok (.v .non) (S ++ [sgC t.text 0]) := by
    refine eq_wE ?_
    simp_arith [M_Signs___init__, m_Signs___init__, setFldR_L0 _ _ _ _ [] _ _ (show ([] : List (Str × R)).length < 1000 by decide), fs_Signs0_put, setFldR_L0 _ _ _ _ (fs_Signs1 _) _ _ (show 1 < 1000 by decide), fs_Signs1_put_sign_at]
    rfl
  have tk := taken_spec hx hok 70 t (S ++ [sgC t.text 0]) S.length 0 [] hd ho (g0 _) (by rw [List.drop_zero, List.append_nil]; rfl) (by simp)
  rw [sf] at tk
  have te := take_end_spec (g0 (sgC t.text (0 + t.signs.length))) hx (by rw [Nat.zero_add, List.getElem?_eq_none_iff]; omega)
  rw [Nat.zero_add] at tk te
  have me : ∀ k : Out R, methR "Signs" "take_end" (.ref S.length) (S ++ [sgC t.text t.signs.length]) k = k := fun k => methR_get (g0 (sgC t.text t.signs.length)) (fs_Signs_no_take_end ..)
  refine eq_wE ?_
  simp_arith [M_read_tree_4, m_read_tree_4, M_signs_of_4, m_signs_of_4, isi_str_str, init, tk, me, te, cut_app']
end
end Q
namespace Q
open PySem hiding Env
open L2 M
end Q
namespace M
open PySem PySem.Spec L2
open PyProof.Rows hiding St
end M
namespace Q
open PySem hiding Env
open L2 M
section
variable {S : Store} {n : Nat} {h : Hnd} {K : Out R → Prop}
/-- a tree of which all is well -/
structure Fine (t : T) : Prop where
  ok : t.Ok
  dep : t.depth < 60
  len : t.ls.length ≤ 100
end
end Q
namespace Q
open PySem hiding Env
open L2 M
end Q
namespace Q
open PySem hiding Env
open L2 M
end Q
namespace Q
open PySem hiding Env
open L2 M
noncomputable def m_plain_4 (g_text_of : List R → Store → Out R) (g_plain_4 : List R → Store → Out R) : MS :=
  (mSeq (mIfS (mtNot (mtTru (mCall biIsi (mCons (mVar 0) (mCons (mC (.ty "tuple")) mNil))))) (mRet (mVar 0)) mSkip)
  (mRet (mCall biTuple (mCons (mPop (mSortK g_text_of (mLstV (mCons (mCall g_plain_4 (mCons (mBin opIx (mVar 0) (mC (.int 0))) mNil)) (mCons (mCall g_plain_4 (mCons (mBin opIx (mVar 0) (mC (.int 1))) mNil)) mNil))))) mNil))))
noncomputable def R_plain_4 : Nat → List R → Store → Out R
  | 0 => fun _ _ => .no
  | k + 1 => mDefV 1 (m_plain_4 (R_text_of 70) (R_plain_4 k))
end Q
namespace M
open PySem PySem.Spec L2
open PyProof.Rows hiding St
def plainN : T → T
  | .leaf w => .leaf w
  | .node l r => if strLt (plainN r).text (plainN l).text then .node (plainN r) (plainN l) else .node (plainN l) (plainN r)
theorem strLt_asymm {x y : Str} (h : strLt x y = true) : strLt y x = false := by
  unfold strLt at h ⊢
  exact decide_eq_false (List.lt_asymm (of_decide_eq_true h))
theorem strLt_total {x y : Str} (h : strLt x y = false) (h' : strLt y x = false) : x = y := by
  unfold strLt at h h'
  have h1 := of_decide_eq_false h
  have h2 := of_decide_eq_false h'
  have : x.cps.toList = y.cps.toList := List.le_antisymm (List.not_lt.mp h2) (List.not_lt.mp h1)
  obtain ⟨⟨a⟩⟩ := x
  obtain ⟨⟨b⟩⟩ := y
  have e : a = b := this
  subst e; rfl
theorem plain_ls : ∀ t : T, (plainN t).ls.Perm t.ls
  | .leaf w => .refl _
  | .node l r => by
    have h1 := plain_ls l; have h2 := plain_ls r
    unfold plainN
    split
    · simp only [T.ls]; exact (h2.append h1).trans List.perm_append_comm
    · simp only [T.ls]; exact h1.append h2
theorem plain_depth : ∀ t : T, (plainN t).depth = t.depth
  | .leaf w => rfl
  | .node l r => by
    have h1 := plain_depth l; have h2 := plain_depth r
    unfold plainN
    split <;> simp only [T.depth] <;> omega
theorem plain_ok {t : T} (h : t.Ok) : (plainN t).Ok := fun w hw => h w ((plain_ls t).mem_iff.mp hw)
theorem plainN_node (l r : T) : plainN (.node l r) = if strLt (plainN r).text (plainN l).text then .node (plainN r) (plainN l) else .node (plainN l) (plainN r) := rfl
theorem plain_idem : ∀ t : T, plainN (plainN t) = plainN t
  | .leaf w => rfl
  | .node l r => by
    have h1 := plain_idem l; have h2 := plain_idem r
    rw [plainN_node]
    cases h : strLt (plainN r).text (plainN l).text with
    | true =>
      simp only [if_true]
      rw [plainN_node, h1, h2, strLt_asymm h]; simp
    | false =>
      simp only [Bool.false_eq_true, if_false]
      rw [plainN_node, h1, h2, h]; simp
end M
namespace Q
open PySem hiding Env
open L2 M
theorem d_injT : ∀ t u : T, t.d = u.d → t = u := by
  intro t
  induction t with
  | leaf w => intro u h; cases u with
    | leaf v => simp only [T.d] at h; injection h with h; rw [h]
    | node l r => simp only [T.d] at h; cases h
  | node l r ih1 ih2 => intro u h; cases u with
    | leaf v => simp only [T.d] at h; cases h
    | node a b =>
      simp only [T.d] at h
      injection h with h
      injection h with h h'
      injection h' with h' _
      rw [ih1 a h, ih2 b h']
theorem text_inj {t u : T} (h1 : Fine t) (h2 : Fine u) (e : t.text = u.text) : t = u := by
  have a := read_tree_spec (t := t) (S := []) h1.ok (by have := h1.dep; omega) (by have := h1.len; omega)
  have b := read_tree_spec (t := u) (S := []) h2.ok (by have := h2.dep; omega) (by have := h2.len; omega)
  rw [e, b] at a
  have hd : u.d = t.d := by injection a with a1 _; injection a1
  exact d_injT t u hd.symm
theorem Fine.l {l r : T} (h : Fine (.node l r)) : Fine l := ⟨h.ok.l, by have := h.dep; simp only [T.depth] at this; omega, by have := h.len; simp only [T.ls, List.length_append] at this; omega⟩
theorem Fine.r {l r : T} (h : Fine (.node l r)) : Fine r := ⟨h.ok.r, by have := h.dep; simp only [T.depth] at this; omega, by have := h.len; simp only [T.ls, List.length_append] at this; omega⟩
theorem Fine.plain {t : T} (h : Fine t) : Fine (plainN t) := ⟨plain_ok h.ok, by rw [plain_depth]; exact h.dep, by rw [(plain_ls t).length_eq]; exact h.len⟩
theorem Fine.swap {l r : T} (h : Fine (.node l r)) : Fine (.node r l) := ⟨fun w hw => h.ok w (by simp only [T.ls, List.mem_append] at hw ⊢; exact hw.symm), by have := h.dep; simp only [T.depth] at this ⊢; omega, by have := h.len; simp only [T.ls, List.length_append] at this ⊢; omega⟩
theorem plain_swap {l r : T} (h : Fine (.node l r)) : plainN (.node r l) = plainN (.node l r) := by
  rw [plainN_node, plainN_node]
  cases h1 : strLt (plainN r).text (plainN l).text with
  | true => rw [strLt_asymm h1]; simp
  | false =>
    cases h2 : strLt (plainN l).text (plainN r).text with
    | true => simp
    | false => rw [text_inj h.l.plain h.r.plain (strLt_total h2 h1)]
theorem plain_spec : ∀ (k : Nat) (t : T) (S : Store), t.depth < k → Fine t → R_plain_4 k [.v t.d] S = .ok (.v (plainN t).d) S
  | 0, t, S, h, _ => by omega
  | k + 1, .leaf w, S, h, _ => by
    refine eq_wE ?_
    simp_arith [R_plain_4, m_plain_4, T.d, isi_str_tup, plainN]
  | k + 1, .node l r, S, h, hf => by
    simp only [T.depth] at h
    have e1 := fun S => plain_spec k l S (by omega) hf.l
    have e2 := fun S => plain_spec k r S (by omega) hf.r
    have t1 := fun S => text_of_spec 70 (plainN l) S (by rw [plain_depth]; have := hf.l.dep; omega) hf.l.plain.ok (by have := hf.l.plain.len; omega)
    have t2 := fun S => text_of_spec 70 (plainN r) S (by rw [plain_depth]; have := hf.r.dep; omega) hf.r.plain.ok (by have := hf.r.plain.len; omega)
    refine eq_wE ?_
    have sk : ∀ m : Env, m[0]? = some (some (.v (.tup [l.d, r.d]))) → mSortK (R_text_of 70) (mLstV (mCons (mCall (R_plain_4 k) (mCons (mBin opIx (mVar 0) (mC (.v (.int 0)))) mNil)) (mCons (mCall (R_plain_4 k) (mCons (mBin opIx (mVar 0) (mC (.v (.int 1)))) mNil)) mNil))) m S =
        .ok (.ref S.length) (S ++ [.lst (by2 ((.v (plainN l).d : R), (plainN l).text) (.v (plainN r).d, (plainN r).text))]) := fun m hm => by
      have i0 : ∀ S, opIx (.v (.tup [l.d, r.d])) (.v (.int 0)) S = .ok (.v l.d) S := fun S => opIx_tup (atI_0 _ _)
      have i1 : ∀ S, opIx (.v (.tup [l.d, r.d])) (.v (.int 1)) S = .ok (.v r.d) S := fun S => opIx_tup (atI_1 _ _ _)
      unfold mSortK
      simp only [mLstV_eq, mCons_eq, mCall_eq, mBin_eq, mVar_eq, mC_eq, mNil_eq, hm, Out.bind_ok, i0, i1, e1, e2, frzO_2, List.length_cons, List.length_nil, Nat.zero_add, Nat.reduceAdd, sz2, if_true, lstOf, List.map_cons, List.map_nil, t1, t2]
    simp_arith [R_plain_4, m_plain_4, T.d, isi_tup_tup]
    refine wE_eq (sk _ rfl) ?_
    rw [plainN_node]
    unfold by2
    cases strLt (plainN r).text (plainN l).text with
    | true =>
      have pv : popV S (.ref S.length) (S ++ [.lst [R.v (plainN r).d, R.v (plainN l).d]]) = .ok (.v (.lst [(plainN r).d, (plainN l).d])) S := popV_newU [(plainN r).d, (plainN l).d] (.refl S)
      simp_arith [pv, T.d]
    | false =>
      have pv : popV S (.ref S.length) (S ++ [.lst [R.v (plainN l).d, R.v (plainN r).d]]) = .ok (.v (.lst [(plainN l).d, (plainN r).d])) S := popV_newU [(plainN l).d, (plainN r).d] (.refl S)
      simp_arith [pv, T.d]
theorem nic_T : ∀ (t : T) (k : Nat), t.depth ≤ k → t.Ok → Nic k t.d
  | .leaf w, k, _, ho => by
    have g := GoodW.okB (ho w (by simp [T.ls]))
    cases k <;> exact g
  | .node l r, 0, h, _ => by simp only [T.depth] at h; omega
  | .node l r, k + 1, h, ho => by
    simp only [T.depth] at h
    intro d hd
    simp only [List.mem_cons, List.not_mem_nil, or_false] at hd
    rcases hd with rfl | rfl
    · exact nic_T l k (by omega) ho.l
    · exact nic_T r k (by omega) ho.r
end Q
namespace Q
open PySem hiding Env
open L2 M
end Q
namespace M
open PySem PySem.Spec L2
open PyProof.Rows hiding St
/-- all nodes: paths not empty, short -/
def Wy.Vd (y : Wy) : Prop := ∀ w ∈ y.all, w.p ≠ [] ∧ w.p.length ≤ 1000 ∧ strOkB w.dd = true
theorem Vd.of {g : Gr} (G : Grd g) {t : T} {y : Wy} (h : wayN g t y = true) : y.Vd := fun w hw => by
  obtain ⟨h1, h2⟩ := way_all h w hw
  exact ⟨(pathN_inv h1).1, path_len G h1, h2⟩
theorem Vd.l {p : List Nat} {d : Str} {a b : Wy} (h : (Wy.two p d a b).Vd) : a.Vd := fun w hw => h w (by simp [Wy.all, hw])
theorem Vd.r {p : List Nat} {d : Str} {a b : Wy} (h : (Wy.two p d a b).Vd) : b.Vd := fun w hw => h w (by simp [Wy.all, hw])
theorem Vd.self {y : Wy} (h : y.Vd) : y.p ≠ [] ∧ y.p.length ≤ 1000 ∧ strOkB y.dd = true := h y (by cases y <;> simp [Wy.all])
theorem Vd.ok : ∀ {y : Wy}, y.Vd → y.Ok
  | .one p d, h => ⟨by have := (Vd.self h).2.1; simp only [Wy.p] at this; omega, (Vd.self h).2.2⟩
  | .two p d a b, h => ⟨by have := (Vd.self h).2.1; simp only [Wy.p] at this; omega, (Vd.self h).2.2, Vd.ok (Vd.l h), Vd.ok (Vd.r h)⟩
end M
namespace Q
open PySem hiding Env
open L2 M
end Q
namespace M
open PySem hiding Env
open L2
end M
namespace M
open PySem PySem.Spec L2
open PyProof.Rows hiding St
section
variable {pins : List (Nat × MO)} {t : TgM} {c : MT} {f : ME} {m : Env} {S : Store} {K : Out R → Prop} {ds : List R}
/-- a comprehension whose list is a cell: its turns leave the store -/
theorem lcR_wp {α : Type} (xs : List α) (r : α → R) (p : α → Bool) (g : α → D) (hd : ds = xs.map r) (hp : ∀ o, pinsOk pins (S ++ [o])) (hz : xs.length ≤ sizeLine)
    (hs : ∀ x ∈ xs, ∀ acc, wTg (t (r x) m) fun m1 => c m1 (S ++ [.lst acc]) = .ok (p x) (S ++ [.lst acc]) ∧ (p x = true → wE (f m1 (S ++ [.lst acc])) fun o => o = .ok (.v (g x)) (S ++ [.lst acc])))
    (k : K (.ok (.ref S.length) (S ++ [.lst (((xs.filter p).map g).map .v)]))) : wE (mLcGo pins t c f S.length m ds (S ++ [.lst []])) K := by
  subst hd
  unfold wE
  rw [lc_raw hp r p g xs hz fun x hx acc => by
    have h1 := hs x hx acc
    cases et : t (r x) m with
    | none => rw [et] at h1; exact h1.elim
    | some m1 => rw [et] at h1; exact ⟨m1, rfl, h1⟩]
  exact k
end
def c3 (x y z : Int) : MO := .lst [.v (.int x), .v (.int y), .v (.int z)]
theorem perm_getElem {α : Type} : ∀ {l : List α} {i : Nat} {x : α}, l[i]? = some x → l.Perm (x :: l.eraseIdx i)
  | [], i, x, h => by simp at h
  | a :: l, 0, x, h => by simp at h; subst h; exact .refl _
  | a :: l, i + 1, x, h => by
    rw [List.getElem?_cons_succ] at h
    exact ((perm_getElem h).cons a).trans (.swap _ _ _)
end M
namespace M
open PySem PySem.Spec L2
open PyProof.Rows hiding St
def Nix : Nat → D → Prop
  | _, .int _ => True
  | _, .non => True
  | _, .str w => strOkB w = true
  | k + 1, .tup ds => ∀ d ∈ ds, Nix k d
  | k + 1, .lst ds => ∀ d ∈ ds, Nix k d
  | _, _ => False
theorem nixs_py {k : Nat} {ds : List D} (ih : ∀ d, Nix k d → ∃ p, d.py = some p ∧ PyData.canLay0 p = true ∧ PyData.depth p ≤ k) (h : ∀ d ∈ ds, Nix k d) : ∃ ps, D.pys ds = some ps ∧ PyData.canLayAll0 ps = true ∧ PyData.depthAll ps ≤ k := by
  induction ds with
  | nil => exact ⟨[], rfl, by simp [PyData.canLayAll0], by simp [PyData.depthAll]⟩
  | cons d ds ih2 =>
    obtain ⟨p, e1, e2, e3⟩ := ih d (h d (by simp))
    obtain ⟨ps, f1, f2, f3⟩ := ih2 fun x hx => h x (by simp [hx])
    refine ⟨p :: ps, by simp [D.pys, e1, f1], by simp [PyData.canLayAll0, e2, f2], ?_⟩
    simp only [PyData.depthAll]; omega
theorem nix_py : ∀ (k : Nat) (d : D), Nix k d → ∃ p, d.py = some p ∧ PyData.canLay0 p = true ∧ PyData.depth p ≤ k
  | k, .int i, _ => ⟨.int i, rfl, by simp [PyData.canLay0], by simp [PyData.depth]⟩
  | k, .non, _ => ⟨.none, rfl, by simp [PyData.canLay0], by simp [PyData.depth]⟩
  | k, .str w, h => ⟨.str w, rfl, by
      have h : strOkB w = true := by cases k <;> exact h
      have : PyData.strOk w = true := h
      simp [PyData.canLay0, this], by simp [PyData.depth]⟩
  | k + 1, .tup ds, h => by
    obtain ⟨ps, f1, f2, f3⟩ := nixs_py (nix_py k) (h : ∀ d ∈ ds, Nix k d)
    refine ⟨.tuple ps, by simp [D.py, f1], by simp [PyData.canLay0, f2], ?_⟩
    simp only [PyData.depth]; omega
  | k + 1, .lst ds, h => by
    obtain ⟨ps, f1, f2, f3⟩ := nixs_py (nix_py k) (h : ∀ d ∈ ds, Nix k d)
    refine ⟨.list ps, by simp [D.py, f1], by simp [PyData.canLay0, f2], ?_⟩
    simp only [PyData.depth]; omega
  | 0, .tup _, h => h.elim
  | 0, .lst _, h => h.elim
  | 0, .bl _, h | _ + 1, .bl _, h => h.elim
  | 0, .ty _, h | _ + 1, .ty _, h => h.elim
  | 0, .kl _, h | _ + 1, .kl _, h => h.elim
  | 0, .dct _ _, h | _ + 1, .dct _ _, h => h.elim
  | 0, .txt, h | _ + 1, .txt, h => h.elim
  | 0, .kt _, h | _ + 1, .kt _, h => h.elim
theorem nixs_eqv {k : Nat} (ih : ∀ d e p q, Nix k d → Nix k e → d.py = some p → e.py = some q → (PyData.eqv p q = true ↔ d = e)) : ∀ (ds es : List D) (ps qs : List PyData), (∀ d ∈ ds, Nix k d) → (∀ d ∈ es, Nix k d) → D.pys ds = some ps → D.pys es = some qs → (PyData.eqvAll ps qs = true ↔ ds = es) := by
  have cons_ : ∀ (d : D) (ds : List D) (ps : List PyData), D.pys (d :: ds) = some ps → ∃ p qs, ps = p :: qs ∧ d.py = some p ∧ D.pys ds = some qs := by
    intro d ds ps h
    simp only [D.pys, Option.bind_eq_some_iff] at h
    obtain ⟨p, e1, qs, e2, e3⟩ := h
    cases e3
    exact ⟨p, qs, rfl, e1, e2⟩
  intro ds
  induction ds with
  | nil =>
    intro es ps qs _ _ h1 h2
    cases h1
    cases es with
    | nil => cases h2; simp [PyData.eqvAll]
    | cons e es => obtain ⟨p, qs', rfl, _, _⟩ := cons_ _ _ _ h2; simp [PyData.eqvAll]
  | cons d ds ih2 =>
    intro es ps qs n1 n2 h1 h2
    obtain ⟨p, ps', rfl, a1, a2⟩ := cons_ _ _ _ h1
    cases es with
    | nil => cases h2; simp [PyData.eqvAll]
    | cons e es =>
      obtain ⟨q, qs', rfl, b1, b2⟩ := cons_ _ _ _ h2
      have q1 := ih d e p q (n1 d (by simp)) (n2 e (by simp)) a1 b1
      have q2 := ih2 es ps' qs' (fun x hx => n1 x (by simp [hx])) (fun x hx => n2 x (by simp [hx])) a2 b2
      rw [PyData.eqvAll, Bool.and_eq_true, q1, q2, List.cons.injEq]
theorem nix_eqv : ∀ (k : Nat) (d e : D) (p q : PyData), Nix k d → Nix k e → d.py = some p → e.py = some q → (PyData.eqv p q = true ↔ d = e) := by
  intro k
  induction k with
  | zero =>
    intro d e p q h1 h2 e1 e2
    cases d <;> first | exact h1.elim | skip
    all_goals (cases e <;> first | exact h2.elim | skip)
    all_goals (cases e1; cases e2; simp [PyData.eqv])
  | succ k ih =>
    intro d e p q h1 h2 e1 e2
    cases d <;> first | exact h1.elim | skip
    all_goals (cases e <;> first | exact h2.elim | skip)
    all_goals (simp only [D.py, Option.map_eq_some_iff, Option.some.injEq] at e1 e2)
    all_goals (try obtain ⟨ps, e1, rfl⟩ := e1)
    all_goals (try obtain ⟨qs, e2, rfl⟩ := e2)
    all_goals (try subst e1)
    all_goals (try subst e2)
    all_goals first
      | (rw [PyData.eqv, nixs_eqv ih _ _ _ _ h1 h2 e1 e2]; simp only [D.tup.injEq, D.lst.injEq])
      | simp [PyData.eqv]
theorem nix_pyS {k : Nat} {d : D} (h : Nix k d) (hk : k ≤ 60) : ∃ p, d.pyS = some p ∧ d.py = some p := by
  obtain ⟨p, e1, e2, e3⟩ := nix_py k d h
  refine ⟨p, ?_, e1⟩
  have : SeqAt.shaped p = true := by simp only [SeqAt.shaped, e2, Bool.true_and, decide_eq_true_eq]; omega
  simp [D.pyS, e1, this]
theorem opEq_nix {S : Store} {d e : D} (k : Nat) (h1 : Nix k d) (h2 : Nix k e) (hk : k ≤ 60) {b : Bool} (hb : b = true ↔ d = e) : opEq (.v d) (.v e) S = .ok (.v (.bl b)) S ∧ opNe (.v d) (.v e) S = .ok (.v (.bl (!b))) S := by
  obtain ⟨p, e1, e2⟩ := nix_pyS h1 hk
  obtain ⟨q, f1, f2⟩ := nix_pyS h2 hk
  have : PyData.eqv p q = b := Bool.eq_iff_iff.mpr ((nix_eqv k d e p q h1 h2 e2 f2).trans hb.symm)
  exact ⟨by rw [opEq_py e1 f1, this], by rw [opNe_py e1 f1, this]⟩
theorem nix_nic : ∀ (k : Nat) (d : D), Nic k d → Nix k d
  | k, .int _, _ => by cases k <;> trivial
  | k, .str w, h => by cases k <;> exact h
  | k + 1, .tup ds, h => fun d hd => nix_nic k d (h d hd)
  | k + 1, .lst ds, h => fun d hd => nix_nic k d (h d hd)
  | 0, .tup _, h => h.elim
  | 0, .lst _, h => h.elim
  | 0, .non, h | _ + 1, .non, h => h.elim
  | 0, .bl _, h | _ + 1, .bl _, h => h.elim
  | 0, .ty _, h | _ + 1, .ty _, h => h.elim
  | 0, .kl _, h | _ + 1, .kl _, h => h.elim
  | 0, .dct _ _, h | _ + 1, .dct _ _, h => h.elim
  | 0, .txt, h | _ + 1, .txt, h => h.elim
  | 0, .kt _, h | _ + 1, .kt _, h => h.elim
theorem nix_refl {S : Store} {d : D} (k : Nat) (h : Nix k d) (hk : k ≤ 60) : opEq (.v d) (.v d) S = .ok (.v (.bl true)) S ∧ opNe (.v d) (.v d) S = .ok (.v (.bl false)) S := opEq_nix (b := true) k h h hk (by simp)
end M
namespace Q
open PySem hiding Env
open L2 M
noncomputable def b1_cuts : MS :=
  (mDrop (mMeth "list" mtExt (mVar 3) (mCons (mLstV (mCons (mTup (mCons (mBin opAdd (mVar 4) (mTup (mCons (mVar 2) mNil))) (mCons (mVar 5) mNil))) (mCons (mTup (mCons (mVar 4) (mCons (mBin opAdd (mVar 5) (mTup (mCons (mVar 2) mNil))) mNil))) mNil))) mNil)))
noncomputable def b2_cuts : MS :=
  (mSeq (mSet 3 (mLst mNil))
  (mSeq (mFor (srcAny (mVar 1)) (tgT [(tgN 4), (tgN 5)]) b1_cuts)
  (mSet 1 (mVar 3))))
noncomputable def m_cuts : MS :=
  (mSeq (mSet 1 (mLstV (mCons (mTup (mCons (mTup (mCons (mBin opIx (mVar 0) (mC (.int 0))) mNil)) (mCons (mTup mNil) mNil))) mNil)))
  (mSeq (mFor (srcAny (mPop (mSl (mVar 0) (moS (mC (.int 1))) moN))) (tgN 2) b2_cuts)
  (mRet (mPop (mLc (srcAny (mVar 1)) [6] (tgN 6) (mtB (mBin opNe (mBin opIx (mVar 6) (mC (.int 1))) (mTup mNil))) (mVar 6))))))
noncomputable def M_cuts : List R → Store → Out R := mDefV 7 (m_cuts)
noncomputable def b1_trees_of_2 (g_plain_4 : List R → Store → Out R) : MS :=
  (mDrop (mMeth "list" mtExt (mVar 1) (mCons (mPop (mLc (srcAny (mVar 4)) [6] (tgN 6) mtYes (mCall g_plain_4 (mCons (mTup (mCons (mVar 5) (mCons (mVar 6) mNil))) mNil)))) mNil)))
noncomputable def b2_trees_of_2 (g_trees_of_2 : List R → Store → Out R) (g_plain_4 : List R → Store → Out R) : MS :=
  (mSeq (mSet 4 (mCall g_trees_of_2 (mCons (mVar 3) mNil)))
  (mFor (srcAny (mCall g_trees_of_2 (mCons (mVar 2) mNil))) (tgN 5) (b1_trees_of_2 g_plain_4)))
noncomputable def m_trees_of_2 (g_cuts : List R → Store → Out R) (g_trees_of_2 : List R → Store → Out R) (g_plain_4 : List R → Store → Out R) : MS :=
  (mSeq (mIfS (mtB (mBin opEq (mCall biLen (mCons (mVar 0) mNil)) (mC (.int 1)))) (mRet (mLstV (mCons (mBin opIx (mVar 0) (mC (.int 0))) mNil))) mSkip)
  (mSeq (mSet 1 (mLst mNil))
  (mSeq (mFor (srcAny (mCall g_cuts (mCons (mVar 0) mNil))) (tgT [(tgN 2), (tgN 3)]) (b2_trees_of_2 g_trees_of_2 g_plain_4))
  (mRet (mVar 1)))))
noncomputable def R_trees_of_2 : Nat → List R → Store → Out R
  | 0 => fun _ _ => .no
  | k + 1 => mDefV 7 (m_trees_of_2 M_cuts (R_trees_of_2 k) (R_plain_4 70))
noncomputable def m_great_trees_2 (g_text_of : List R → Store → Out R) (g_trees_of_2 : List R → Store → Out R) : MS :=
  (mRet (mCall biTuple (mCons (mPop (mSortKN g_text_of (mCall g_trees_of_2 (mCons (mVar 0) mNil)))) mNil)))
noncomputable def M_great_trees_2 : List R → Store → Out R := mDefV 1 (m_great_trees_2 (R_text_of 70) (R_trees_of_2 70))
end Q
namespace M
open PySem PySem.Spec L2
open PyProof.Rows hiding St
abbrev Ct := List Str × List Str
def stepC (found : List Ct) (w : Str) : List Ct := found.flatMap fun q => [(q.1 ++ [w], q.2), (q.1, q.2 ++ [w])]
def cuts0 (w : Str) (ws : List Str) : List Ct := ws.foldl stepC [([w], [])]
def cutsN : List Str → List Ct
  | [] => []
  | w :: ws => (cuts0 w ws).filter fun q => !q.2.isEmpty
def ctD (q : Ct) : D := .tup [.tup (q.1.map .str), .tup (q.2.map .str)]
theorem stepC_len (L : List Ct) (w : Str) : (stepC L w).length = 2 * L.length := by
  induction L with
  | nil => rfl
  | cons q L ih => simp only [stepC, List.flatMap_cons, List.length_append, List.length_cons, List.length_nil] at ih ⊢; omega
theorem ctf_len : ∀ (ws : List Str) (L : List Ct), (ws.foldl stepC L).length = 2 ^ ws.length * L.length
  | [], L => by simp
  | w :: ws, L => by rw [List.foldl_cons, ctf_len ws, stepC_len, List.length_cons, Nat.pow_succ]; rw [Nat.mul_assoc]
theorem ctf_perm : ∀ (ws : List Str) (L : List Ct) (base : List Str), (∀ q ∈ L, q.1 ≠ [] ∧ (q.1 ++ q.2).Perm base) → ∀ q ∈ ws.foldl stepC L, q.1 ≠ [] ∧ (q.1 ++ q.2).Perm (base ++ ws)
  | [], L, base, h, q, hq => by rw [List.append_nil]; exact h q hq
  | w :: ws, L, base, h, q, hq => by
    rw [List.foldl_cons] at hq
    have := ctf_perm ws (stepC L w) (base ++ [w]) (fun x hx => ?_) q hq
    · rw [List.append_assoc] at this; exact this
    · obtain ⟨y, hy, hx⟩ := List.mem_flatMap.mp hx
      obtain ⟨h1, h2⟩ := h y hy
      simp only [List.mem_cons, List.not_mem_nil, or_false] at hx
      rcases hx with rfl | rfl
      · refine ⟨by simp, ?_⟩
        show (y.1 ++ [w] ++ y.2).Perm _
        rw [List.append_assoc]
        exact ((List.perm_append_comm (l₁ := [w]) (l₂ := y.2)).append_left y.1).trans (by rw [← List.append_assoc]; exact h2.append_right [w])
      · refine ⟨h1, ?_⟩
        show (y.1 ++ (y.2 ++ [w])).Perm _
        rw [← List.append_assoc]
        exact h2.append_right [w]
theorem cutsN_ok {ws : List Str} {q : Ct} (h : q ∈ cutsN ws) : q.1 ≠ [] ∧ q.2 ≠ [] ∧ (q.1 ++ q.2).Perm ws := by
  cases ws with
  | nil => cases h
  | cons w ws =>
    obtain ⟨h1, h2⟩ := List.mem_filter.mp h
    obtain ⟨h3, h4⟩ := ctf_perm ws [([w], [])] [w] (fun q hq => by simp at hq; subst hq; exact ⟨by simp, .refl _⟩) q h1
    exact ⟨h3, by simpa using h2, h4⟩
theorem cutsN_len (ws : List Str) : (cutsN ws).length ≤ 2 ^ ws.length := by
  cases ws with
  | nil => simp [cutsN]
  | cons w ws =>
    refine Nat.le_trans (List.length_filter_le _ _) ?_
    unfold cuts0
    rw [ctf_len]
    simp [Nat.pow_succ]
    omega
end M
namespace Q
open PySem hiding Env
open L2 M
section
variable {S : Store}
/-- a list, by value or in a cell -/
def LsIn (U : Store) (r : R) (ds : List D) : Prop := r = .v (.lst ds) ∨ ∃ n, r = .ref n ∧ U[n]? = some (.lst (ds.map .v))
theorem cuts_spec {w : Str} {ws : List Str} (hz : ws.length ≤ 10) (hg : ∀ x ∈ w :: ws, GoodW x) : M_cuts [.v (.tup ((w :: ws).map .str))] S = .ok (.v (.lst ((cutsN (w :: ws)).map ctD))) S := by
  have fl : ∀ i, i ≤ 10 → ((ws.take i).foldl stepC [([w], [])]).length ≤ 1024 := fun i hi => by
    rw [ctf_len]
    have h1 : (ws.take i).length ≤ 10 := by rw [List.length_take]; omega
    have h2 : 2 ^ (ws.take i).length ≤ 2 ^ 10 := Nat.pow_le_pow_right (by decide) h1
    have h3 : (2 : Nat) ^ 10 = 1024 := by decide
    simp only [List.length_cons, List.length_nil]
    omega
  have fr1 : ∀ (a : D) {α : Type} (S : Store) (F : List D → Store → Out α), frzO S [.v a] F = F [a] S := fun a α S F => frzO_vs [a] F
  have fr2 : ∀ (a b : D) {α : Type} (S : Store) (F : List D → Store → Out α), frzO S [.v a, .v b] F = F [a, b] S := fun a b α S F => frzO_2 _ _ _
  have sl : ∀ S, opSl (.v (.tup ((w :: ws).map D.str))) (some 1) none S = .ok (.v (.tup (ws.map .str))) S := fun S => by
    rw [opSl_tup, cutD_drop _ (by decide)]; rfl
  have i0 : ∀ S, opIx (.v (.tup ((w :: ws).map D.str))) (.v (.int 0)) S = .ok (.v (.str w)) S := fun S => opIx_t0
  refine eq_wE ?_
  simp_arith [M_cuts, m_cuts, sl, i0, fr1, fr2]
  rw [show cutD (D.str w :: ws.map D.str) (some 1) none = ws.map .str from by rw [cutD_drop _ (by decide)]; rfl]
  have inner : ∀ (L : List Ct) (w' : Str) (U : Store) (pins : List (Nat × MO)) (s0 r a2 a4 a5 a6 : Option R) (K : OutS → Prop), L.length ≤ 2048 → (∀ q ∈ L, q.1.length ≤ 100 ∧ q.2.length ≤ 100) → (∀ x, pinsOk pins (U ++ [x])) → s0 = s0 → a2 = some (.v (.str w')) →
      (∀ b4 b5, K (.nx [s0, r, a2, some (.ref U.length), b4, b5, a6] (U ++ [.lst (((stepC L w').map ctD).map .v)]))) →
      wS (mForGo pins (tgT [tgN 4, tgN 5]) b1_cuts ((L.map ctD).map .v) [s0, r, a2, some (.ref U.length), a4, a5, a6] (U ++ [.lst []])) K := by
    intro L w' U pins s0 r a2 a4 a5 a6 K hL hql hp _ ha2 k
    subst ha2
    refine forP_wp [4, 5] (fun j vs V => vs.length = 2 ∧ j ≤ L.length ∧ V = U ++ [.lst (((stepC (L.take j) w').map ctD).map .v)]) rfl ⟨rfl, by omega, rfl⟩ (fun j vs V ⟨_, _, e⟩ => by rw [e]; exact hp _) ?_ ?_
    · rintro j d vs V hd ⟨hvs, hj, rfl⟩
      rw [List.getElem?_map, List.getElem?_map] at hd
      obtain ⟨d1, h1, rfl⟩ := Option.map_eq_some_iff.mp hd
      obtain ⟨q, hq, rfl⟩ := Option.map_eq_some_iff.mp h1
      have hjl := (List.getElem?_eq_some_iff.mp hq).1
      have tk : stepC (L.take (j + 1)) w' = stepC (L.take j) w' ++ [(q.1 ++ [w'], q.2), (q.1, q.2 ++ [w'])] := by
        rw [List.take_add_one, hq]
        simp [stepC]
      have ln : (stepC (L.take j) w').length ≤ 4096 := by rw [stepC_len, List.length_take]; omega
      rw [tk]
      generalize stepC (L.take j) w' = M at ln
      have g0 := get_len U (MO.lst ((M.map ctD).map R.v)) []
      have ex := mtExt_lst (zs := [ctD (q.1 ++ [w'], q.2), ctD (q.1, q.2 ++ [w'])]) g0 (sz_of (by simp; omega))
      rw [set_len] at ex
      match vs, hvs with
      | [b4, b5], _ =>
      obtain ⟨q1, q2⟩ := hql q (List.mem_of_getElem? hq)
      have ad : ∀ (l : List Str) S, l.length ≤ 100 → opAdd (.v (.tup (l.map D.str))) (.v (.tup [.str w'])) S = .ok (.v (.tup ((l ++ [w']).map D.str))) S := fun l S h => by
        rw [opAdd_tup (sz_of (by simp; omega)), List.map_append]; rfl
      have ec : ∀ a b : List Str, D.tup [.tup (a.map .str), .tup (b.map .str)] = ctD (a, b) := fun _ _ => rfl
      have ex' : mtExt (.ref U.length) [.v (.lst [.tup [.tup ((q.1 ++ [w']).map .str), .tup (q.2.map .str)], .tup [.tup (q.1.map .str), .tup ((q.2 ++ [w']).map .str)]])] (U ++ [.lst ((M.map ctD).map .v)]) = .ok (.v .non) (U ++ [.lst (((M ++ [(q.1 ++ [w'], q.2), (q.1, q.2 ++ [w'])]).map ctD).map .v)]) := by
        have := ex
        rw [show (M.map ctD).map R.v ++ [ctD (q.1 ++ [w'], q.2), ctD (q.1, q.2 ++ [w'])].map R.v = ((M ++ [(q.1 ++ [w'], q.2), (q.1, q.2 ++ [w'])]).map ctD).map R.v by rw [List.map_append, List.map_append]; rfl] at this
        exact this
      show wTg (tgT [tgN 4, tgN 5] (R.v (.tup [.tup (q.1.map .str), .tup (q.2.map .str)])) _) _
      have k1 := fun S => ad q.1 S q1
      have k2 := fun S => ad q.2 S q2
      simp_arith [b1_cuts, k1, k2, fr1, fr2, tyOk_lst g0]
      refine wE_eq ex' ?_
      simp_arith []
      omega
    · rintro vs V ⟨hvs, hj, rfl⟩
      match vs, hvs with
      | [b4, b5], _ =>
      have e : stepC (L.take ((L.map ctD).map R.v).length) w' = stepC L w' := by rw [List.length_map, List.length_map, List.take_length]
      rw [e]
      exact k b4 b5
  have small : ∀ i, ∀ q ∈ (ws.take i).foldl stepC [([w], [])], q.1.length ≤ 100 ∧ q.2.length ≤ 100 := fun i q hq => by
    obtain ⟨_, h⟩ := ctf_perm (ws.take i) [([w], [])] [w] (fun q hq => by simp at hq; subst hq; exact ⟨by simp, .refl _⟩) q hq
    have := h.length_eq
    simp only [List.length_append, List.length_cons, List.length_nil, List.length_take] at this
    omega
  refine for_wp [1, 2, 3, 4, 5] (fun i vs U => i ≤ ws.length ∧ ∃ r a b c d x, vs = [some r, a, b, c, d] ∧ U = S ++ x ∧ LsIn U r (((ws.take i).foldl stepC [([w], [])]).map ctD)) rfl ⟨by omega, _, _, _, _, _, [], rfl, by simp, .inl rfl⟩ ?_ ?_
  · rintro i d vs U hd ⟨hi0, r, a, b, c, d', x, rfl, hU, hr⟩
    rw [List.getElem?_map, List.getElem?_map] at hd
    obtain ⟨d1, h1, rfl⟩ := Option.map_eq_some_iff.mp hd
    obtain ⟨w', hw', rfl⟩ := Option.map_eq_some_iff.mp h1
    have hil := (List.getElem?_eq_some_iff.mp hw').1
    have tk : (ws.take (i + 1)).foldl stepC [([w], [])] = stepC ((ws.take i).foldl stepC [([w], [])]) w' := by
      rw [List.take_add_one, hw']
      simp [List.foldl_append]
    rw [tk]
    have f1 := fl i (by omega)
    have f2 := small i
    generalize (ws.take i).foldl stepC [([w], [])] = L at hr f1 f2
    rcases hr with rfl | ⟨n, rfl, hn⟩
    · simp_arith [b2_cuts]
      refine inner L w' U [] _ _ _ _ _ _ _ (by omega) f2 (fun _ => trivial) rfl rfl fun b4 b5 => ?_
      simp_arith []
      refine ⟨by omega, _, _, _, _, _, x ++ [.lst (((stepC L w').map ctD).map .v)], rfl, by rw [hU, List.append_assoc], .inr ⟨_, rfl, get_len U _ []⟩⟩
    · have hn' : ∀ y, (U ++ [y])[n]? = some (MO.lst ((L.map ctD).map R.v)) := fun y => by rw [List.getElem?_append_left (lt_of_get hn)]; exact hn
      simp_arith [b2_cuts, hn' (.lst [])]
      refine inner L w' U _ _ _ _ _ _ _ _ (by omega) f2 (fun y => ⟨hn' y, trivial⟩) rfl rfl fun b4 b5 => ?_
      simp_arith []
      refine ⟨by omega, _, _, _, _, _, x ++ [.lst (((stepC L w').map ctD).map .v)], rfl, by rw [hU, List.append_assoc], .inr ⟨_, rfl, get_len U _ []⟩⟩
  · rintro vs U ⟨_, r, a, b, c, d', x, rfl, hU, hr⟩
    rw [List.length_map, List.length_map, List.take_length] at hr
    have f1 := fl ws.length (by omega)
    rw [List.take_length] at f1
    have words : ∀ q ∈ ws.foldl stepC [([w], [])], ∀ x ∈ q.2, GoodW x := fun q hq x hx => by
      obtain ⟨_, h⟩ := ctf_perm ws [([w], [])] [w] (fun q hq => by simp at hq; subst hq; exact ⟨by simp, .refl _⟩) q hq
      exact hg x (by have := h.mem_iff.mp (List.mem_append_right q.1 hx); simpa using this)
    have ne : ∀ q ∈ ws.foldl stepC [([w], [])], ∀ S, opNe (.v (.tup (q.2.map .str))) (.v (.tup [])) S = .ok (.v (.bl (!q.2.isEmpty))) S := fun q hq S => by
      refine (opEq_nix (b := q.2.isEmpty) 1 (show Nix 1 (.tup (q.2.map .str)) from fun d hd => ?_) (show Nix 1 (.tup []) from fun d hd => by cases hd) (by decide) ?_).2
      · obtain ⟨x, hx, rfl⟩ := List.mem_map.mp hd
        exact (words q hq x hx).ok
      · cases q.2 <;> simp
    have e : cutsN (w :: ws) = (ws.foldl stepC [([w], [])]).filter fun q => !q.2.isEmpty := rfl
    rw [e]
    generalize ws.foldl stepC [([w], [])] = L at hr f1 ne
    have step : ∀ (q : Ct), q ∈ L → ∀ (m0 m1 m2 m3 m4 m5 m6 : Option R) (V : Store), wTg (tgN 6 (.v (ctD q)) [m0, m1, m2, m3, m4, m5, m6]) fun m1 => mtB (mBin opNe (mBin opIx (mVar 6) (mC (.int 1))) (mTup mNil)) m1 V = .ok (!q.2.isEmpty) V ∧ ((!q.2.isEmpty) = true → wE (mVar 6 m1 V) fun o => o = .ok (.v (ctD q)) V) := fun q hq m0 m1 m2 m3 m4 m5 m6 V => by
      have i1 : ∀ S, opIx (.v (ctD q)) (.v (.int 1)) S = .ok (.v (.tup (q.2.map .str))) S := fun S => opIx_t1
      simp_arith [i1, ne q hq, show ∀ (S : Store) {α : Type} (F : List D → Store → Out α), frzO S [] F = F [] S from fun S α F => frzO_vs [] F]
      exact fun _ => trivial
    rcases hr with rfl | ⟨n, rfl, hn⟩
    · simp_arith []
      refine lc_wp L (fun q => .v (ctD q)) (fun q => !q.2.isEmpty) ctD (by rw [List.map_map]; rfl) (.refl U) (sz_of (by omega)) (fun q hq acc => step q hq _ _ _ _ _ _ _ _) ?_
      simp_arith [hU, cut_app']
    · have hn' : ∀ y, (U ++ [y])[n]? = some (MO.lst ((L.map ctD).map R.v)) := fun y => by rw [List.getElem?_append_left (lt_of_get hn)]; exact hn
      simp_arith [hn]
      refine lcP_wp L (fun q => .v (ctD q)) (fun q => !q.2.isEmpty) ctD (by rw [List.map_map]; rfl) (fun acc => ⟨hn' _, trivial⟩) (.refl U) (sz_of (by omega)) (fun q hq acc => step q hq _ _ _ _ _ _ _ _) ?_
      simp_arith [hU, cut_app']
end
end Q
namespace M
open PySem PySem.Spec L2
open PyProof.Rows hiding St
def trN : Nat → List Str → List T
  | 0, _ => []
  | k + 1, ws => if ws.length = 1 then [.leaf (ws.headD "")] else (cutsN ws).flatMap fun q => (trN k q.1).flatMap fun l => (trN k q.2).map fun r => plainN (.node l r)
def ctf_l2 (q : Ct) : Nat × Nat := (q.1.length, q.2.length)
def stepL (L : List (Nat × Nat)) : List (Nat × Nat) := L.flatMap fun q => [(q.1 + 1, q.2), (q.1, q.2 + 1)]
def itL : Nat → List (Nat × Nat) → List (Nat × Nat)
  | 0, L => L
  | n + 1, L => itL n (stepL L)
theorem step_len2 (L : List Ct) (w : Str) : (stepC L w).map ctf_l2 = stepL (L.map ctf_l2) := by
  induction L with
  | nil => rfl
  | cons q L ih =>
    simp only [stepC, stepL, List.flatMap_cons, List.map_append, List.map_cons, List.map_nil] at ih ⊢
    rw [ih]
    simp [ctf_l2]
theorem fold_len2 : ∀ (ws : List Str) (L : List Ct), (ws.foldl stepC L).map ctf_l2 = itL ws.length (L.map ctf_l2)
  | [], L => rfl
  | w :: ws, L => by rw [List.foldl_cons, fold_len2 ws, step_len2]; rfl
theorem cuts_len2 (w : Str) (ws : List Str) : (cutsN (w :: ws)).map ctf_l2 = (itL ws.length [(1, 0)]).filter fun p => p.2 != 0 := by
  have h := fold_len2 ws [([w], [])]
  unfold cutsN cuts0
  have e : ([([w], [])] : List Ct).map ctf_l2 = [(1, 0)] := rfl
  rw [e] at h
  rw [← h, List.filter_map]
  congr 1
  refine List.filter_congr fun q _ => ?_
  cases h2 : q.2 <;> simp [ctf_l2, h2]
def FT (n : Nat) : Nat := [0, 1, 1, 3, 15, 105].getD n 0
theorem ctf_sum {α β : Type} (f : α → List β) (L : List α) : (L.flatMap f).length = (L.map fun x => (f x).length).sum := by
  induction L with
  | nil => rfl
  | cons a L ih => simp [ih]
theorem ctf_prod {α β γ : Type} (f : α → β → γ) (A : List α) (B : List β) : (A.flatMap fun a => B.map fun b => f a b).length = A.length * B.length := by
  induction A with
  | nil => simp
  | cons a A ih => rw [List.flatMap_cons, List.length_append, ih, List.length_map, List.length_cons, Nat.succ_mul]; omega
theorem trN_len : ∀ (k : Nat) (ws : List Str), ws.length ≤ k → 1 ≤ ws.length → ws.length ≤ 5 → (trN k ws).length = FT ws.length
  | 0, ws, h, h1, _ => by omega
  | k + 1, ws, h, h1, h5 => by
    unfold trN
    by_cases q : ws.length = 1
    · rw [if_pos q, q]; rfl
    · rw [if_neg q, ctf_sum]
      have e : ((cutsN ws).map fun x => ((trN k x.1).flatMap fun l => (trN k x.2).map fun r => plainN (.node l r)).length) = ((cutsN ws).map ctf_l2).map fun p => FT p.1 * FT p.2 := by
        rw [List.map_map]
        refine List.map_congr_left fun x hx => ?_
        obtain ⟨a, b, p⟩ := cutsN_ok hx
        have pl := p.length_eq
        rw [List.length_append] at pl
        have la := List.length_pos_iff.mpr a
        have lb := List.length_pos_iff.mpr b
        rw [ctf_prod, trN_len k x.1 (by omega) (by omega) (by omega), trN_len k x.2 (by omega) (by omega) (by omega)]
        rfl
      rw [e]
      match ws, q, h1, h5 with
      | [a, b], _, _, _ => rw [cuts_len2]; rfl
      | [a, b, c], _, _, _ => rw [cuts_len2]; rfl
      | [a, b, c, d], _, _, _ => rw [cuts_len2]; rfl
      | [a, b, c, d, e], _, _, _ => rw [cuts_len2]; rfl
theorem trN_ls : ∀ (k : Nat) (ws : List Str) (t : T), t ∈ trN k ws → t.ls.Perm ws
  | 0, ws, t, h => by cases h
  | k + 1, ws, t, h => by
    unfold trN at h
    by_cases q : ws.length = 1
    · rw [if_pos q] at h
      match ws, q with
      | [w], _ => simp at h; subst h; exact .refl _
    · rw [if_neg q] at h
      obtain ⟨x, hx, h⟩ := List.mem_flatMap.mp h
      obtain ⟨l, hl, h⟩ := List.mem_flatMap.mp h
      obtain ⟨r, hr, rfl⟩ := List.mem_map.mp h
      have h1 := trN_ls k x.1 l hl
      have h2 := trN_ls k x.2 r hr
      exact (plain_ls _).trans ((show (T.node l r).ls.Perm (x.1 ++ x.2) from h1.append h2).trans (cutsN_ok hx).2.2)
end M
namespace Q
open PySem hiding Env
open L2 M
section
variable {S : Store}
theorem fine_tr {k : Nat} {ws : List Str} (hg : ∀ x ∈ ws, GoodW x) (hl : ws.length ≤ 5) {t : T} (h : t ∈ trN k ws) : Fine t := by
  have p := trN_ls k ws t h
  have d := t.depth_lt
  have := p.length_eq
  exact ⟨fun w hw => hg w (p.mem_iff.mp hw), by omega, by omega⟩
theorem trees_spec : ∀ (k : Nat) (ws : List Str) (S : Store), ws.length ≤ k → 1 ≤ ws.length → ws.length ≤ 5 → (∀ x ∈ ws, GoodW x) → R_trees_of_2 k [.v (.tup (ws.map .str))] S = .ok (.v (.lst ((trN k ws).map T.d))) S
  | 0, ws, S, h, h1, _, _ => by omega
  | k + 1, ws, S, h, h1, h5, hg => by
    have bl : ∀ S, biLen [.v (.tup (ws.map D.str))] S = .ok (.v (.int (ws.length : Int))) S := fun S => by rw [biLen_tup, List.length_map]
    refine eq_wE ?_
    by_cases q : ws.length = 1
    · match ws, q with
      | [w], _ =>
      have e : trN (k + 1) [w] = [.leaf w] := rfl
      rw [e]
      have i0 : ∀ S, opIx (.v (.tup [D.str w])) (.v (.int 0)) S = .ok (.v (.str w)) S := fun S => opIx_t0
      have fr1 : ∀ (a : D) {α : Type} (S : Store) (F : List D → Store → Out α), frzO S [.v a] F = F [a] S := fun a α S F => frzO_vs [a] F
      have e1 : (((1 : Nat) : Int) == 1) = true := rfl
      simp_arith [R_trees_of_2, m_trees_of_2, i0, fr1, e1]
      rfl
    · have l1 : ((ws.length : Int) == 1) = false := by rw [beq_eq_false_iff_ne]; omega
      have e : trN (k + 1) ws = (cutsN ws).flatMap fun q => (trN k q.1).flatMap fun l => (trN k q.2).map fun r => plainN (.node l r) := by
        show (if ws.length = 1 then _ else _) = _
        rw [if_neg q]
      have total := trN_len (k + 1) ws h h1 h5
      have fte : ∀ n, n ≤ 5 → FT n ≤ 105 := fun n hn => by
        match n, hn with
        | 0, _ => decide
        | 1, _ => decide
        | 2, _ => decide
        | 3, _ => decide
        | 4, _ => decide
        | 5, _ => decide
      have few := fte _ h5
      rw [e] at total ⊢
      have cs : ∀ S, M_cuts [.v (.tup (ws.map .str))] S = .ok (.v (.lst ((cutsN ws).map ctD))) S := fun S => by
        cases ws with
        | nil => simp at h1
        | cons w ws' => exact cuts_spec (by simp at h5; omega) hg
      have cl := cutsN_len ws
      have c32 : 2 ^ ws.length ≤ 2 ^ 5 := Nat.pow_le_pow_right (by decide) h5
      have e32 : (2 : Nat) ^ 5 = 32 := by decide
      have okq : ∀ q ∈ cutsN ws, (q.1.length ≤ k ∧ 1 ≤ q.1.length ∧ q.1.length ≤ 5 ∧ ∀ x ∈ q.1, GoodW x) ∧ (q.2.length ≤ k ∧ 1 ≤ q.2.length ∧ q.2.length ≤ 5 ∧ ∀ x ∈ q.2, GoodW x) := fun q hq => by
        obtain ⟨a, b, p⟩ := cutsN_ok hq
        have pl := p.length_eq
        rw [List.length_append] at pl
        have la := List.length_pos_iff.mpr a
        have lb := List.length_pos_iff.mpr b
        exact ⟨⟨by omega, by omega, by omega, fun x hx => hg x (p.mem_iff.mp (List.mem_append_left _ hx))⟩, by omega, by omega, by omega, fun x hx => hg x (p.mem_iff.mp (List.mem_append_right _ hx))⟩
      generalize hG : (fun q : Ct => (trN k q.1).flatMap fun l => (trN k q.2).map fun r => plainN (.node l r)) = G at total
      generalize hC : cutsN ws = C at total cs cl okq
      have part : ∀ (i : Nat), ((C.take i).flatMap G).length ≤ 105 := fun i => by
        have : (C.flatMap G).length = ((C.take i).flatMap G).length + ((C.drop i).flatMap G).length := by rw [← List.length_append, ← List.flatMap_append, List.take_append_drop]
        omega
      simp_arith [R_trees_of_2, m_trees_of_2, List.length_map, bl, l1, cs]
      refine for_wp [2, 3, 4, 5, 6] (fun i vs U => vs.length = 5 ∧ i ≤ C.length ∧ U = S ++ [.lst ((((C.take i).flatMap G).map T.d).map .v)]) rfl ⟨rfl, by omega, rfl⟩ ?_ ?_
      · rintro i d vs U hd ⟨hvs, hi0, rfl⟩
        rw [List.getElem?_map, List.getElem?_map] at hd
        obtain ⟨d1, h1', rfl⟩ := Option.map_eq_some_iff.mp hd
        obtain ⟨q, hq, rfl⟩ := Option.map_eq_some_iff.mp h1'
        have hil := (List.getElem?_eq_some_iff.mp hq).1
        obtain ⟨⟨a1, a2, a3, a4⟩, b1, b2, b3, b4⟩ := okq q (List.mem_of_getElem? hq)
        have tr1 := fun S => trees_spec k q.1 S a1 a2 a3 a4
        have tr2 := fun S => trees_spec k q.2 S b1 b2 b3 b4
        have n1 := trN_len k q.1 a1 a2 a3
        have n2 := trN_len k q.2 b1 b2 b3
        have n1' := fte _ a3
        have n2' := fte _ b3
        have tk : (C.take (i + 1)).flatMap G = (C.take i).flatMap G ++ G q := by rw [List.take_add_one, hq]; simp
        have pt := part (i + 1)
        rw [tk] at pt ⊢
        have gq : G q = (trN k q.1).flatMap fun l => (trN k q.2).map fun r => plainN (.node l r) := by rw [← hG]
        rw [gq] at pt ⊢
        have fl := fun t (ht : t ∈ trN k q.1) => fine_tr a4 a3 ht
        have fr := fun t (ht : t ∈ trN k q.2) => fine_tr b4 b3 ht
        have lsl := fun t (ht : t ∈ trN k q.1) => (trN_ls k q.1 t ht).length_eq
        have lsr := fun t (ht : t ∈ trN k q.2) => (trN_ls k q.2 t ht).length_eq
        generalize trN k q.1 = A at *
        generalize trN k q.2 = B at *
        generalize (C.take i).flatMap G = M at pt ⊢
        rw [List.length_append, ctf_prod] at pt
        match vs, hvs with
        | [v2, v3, v4, v5, v6], _ =>
        show wTg (tgT [tgN 2, tgN 3] (R.v (.tup [.tup (q.1.map .str), .tup (q.2.map .str)])) _) _
        simp_arith [b2_trees_of_2, tr1, tr2]
        refine for_wp [5, 6] (fun j us V => us.length = 2 ∧ j ≤ A.length ∧ V = S ++ [.lst (((M ++ (A.take j).flatMap fun l => B.map fun r => plainN (.node l r)).map T.d).map .v)]) rfl ⟨rfl, by omega, by simp⟩ ?_ ?_
        · rintro j d us V hd ⟨hus, hj0, rfl⟩
          rw [List.getElem?_map, List.getElem?_map] at hd
          obtain ⟨d1, h2', rfl⟩ := Option.map_eq_some_iff.mp hd
          obtain ⟨l, hl, rfl⟩ := Option.map_eq_some_iff.mp h2'
          have hjl := (List.getElem?_eq_some_iff.mp hl).1
          have hml := List.mem_of_getElem? hl
          have tj : (A.take (j + 1)).flatMap (fun l => B.map fun r => plainN (.node l r)) = (A.take j).flatMap (fun l => B.map fun r => plainN (.node l r)) ++ B.map fun r => plainN (.node l r) := by rw [List.take_add_one, hl]; simp
          have lj : ((A.take j).flatMap fun l => B.map fun r => plainN (.node l r)).length ≤ 105 * 105 := by
            rw [ctf_prod, List.length_take]
            exact Nat.mul_le_mul (by omega) (by omega)
          rw [tj, ← List.append_assoc]
          have lM : M.length ≤ 105 := by omega
          generalize hM2 : M ++ (A.take j).flatMap (fun l => B.map fun r => plainN (.node l r)) = M2
          have lM2 : M2.length ≤ 20000 := by rw [← hM2, List.length_append]; omega
          have g0 := get_len S (MO.lst ((M2.map T.d).map R.v)) []
          have sV : ∀ x, (S ++ [MO.lst ((M2.map T.d).map R.v)]).set S.length x = S ++ [x] := fun x => set_len S _ x []
          have lB : B.length ≤ 105 := by omega
          generalize hV : S ++ [MO.lst ((M2.map T.d).map R.v)] = V at g0 sV
          have ex : mtExt (.ref S.length) [.v (.lst ((B.map fun r => plainN (.node l r)).map T.d))] V = .ok (.v .non) (S ++ [.lst (((M2 ++ B.map fun r => plainN (.node l r)).map T.d).map .v)]) := by
            rw [mtExt_lst g0 (sz_of (by simp; omega)), sV, List.map_append, List.map_append]
          have fr2 : ∀ (a b : D) {α : Type} (S : Store) (F : List D → Store → Out α), frzO S [.v a, .v b] F = F [a, b] S := fun a b α S F => frzO_2 _ _ _
          match us, hus with
          | [u5, u6], _ =>
          simp_arith [b1_trees_of_2, tyOk_lst g0]
          refine lcT_wp B (fun r => .v r.d) (fun r => (plainN (.node l r)).d) (by rw [List.map_map]; rfl) (.refl V) (sz_of (by omega)) ?_ ?_
          · intro r hr acc
            have fn : Fine (.node l r) := ⟨fun w hw => by simp only [T.ls, List.mem_append] at hw; exact hw.elim ((fl l hml).ok w) ((fr r hr).ok w), by
              have := l.depth_lt; have := r.depth_lt; have := lsl l hml; have := lsr r hr; simp only [T.depth]; omega, by
              have := lsl l hml; have := lsr r hr; simp only [T.ls, List.length_append]; omega⟩
            have ps := fun S => plain_spec 70 (.node l r) S (by have := fn.dep; omega) fn
            have ps' : ∀ S, R_plain_4 70 [.v (.tup [l.d, r.d])] S = .ok (.v (plainN (.node l r)).d) S := ps
            simp_arith [fr2, ps']
          · have em : (B.map fun r => (plainN (.node l r)).d) = (B.map fun r => plainN (.node l r)).map T.d := by rw [List.map_map]; rfl
            rw [em]
            simp_arith [ex]
            omega
        · rintro us V ⟨hus, hj0, rfl⟩
          match us, hus with
          | [u5, u6], _ =>
          have e2 : A.take ((A.map T.d).map R.v).length = A := by rw [List.length_map, List.length_map, List.take_length]
          rw [e2]
          simp_arith []
          omega
      · rintro vs U ⟨hvs, hi0, rfl⟩
        match vs, hvs with
        | [v2, v3, v4, v5, v6], _ =>
        have e2 : C.take ((C.map ctD).map R.v).length = C := by rw [List.length_map, List.length_map, List.take_length]
        rw [e2]
        have pn := popV_new S ((C.flatMap G).map T.d)
        simp_arith [pn]
end
end Q
namespace Q
open PySem hiding Env
open L2 M
end Q
namespace M
open PySem PySem.Spec L2
open PyProof.Rows hiding St
def oadd : Option Int → Option Int → Option Int
  | some a, some b => some (a + b)
  | _, _ => none
def entD : Option Int → D
  | none => .non
  | some i => .int i
def leastO (l : List (Option Int)) : Option Int := if l.filterMap id = [] then none else some (minL (l.filterMap id))
/-- prices: split, doubled, over, lost -/
structure Prc where
  sp : Int
  db : Int
  ov : Int
  ls : Int
def Prc.d (p : Prc) : D := .tup [.int p.sp, .int p.db, .int p.ov, .int p.ls]
def Prc.of (p : Prc) (w : Str) : Int := if w = "split" then p.sp else if w = "doubled" then p.db else if w = "over" then p.ov else if w = "lost" then p.ls else 0
theorem Prc.of_split (p : Prc) : p.of "split" = p.sp := rfl
theorem Prc.of_doubled (p : Prc) : p.of "doubled" = p.db := by unfold Prc.of; rw [if_neg (by decide +kernel), if_pos rfl]
theorem Prc.of_over (p : Prc) : p.of "over" = p.ov := by unfold Prc.of; rw [if_neg (by decide +kernel), if_neg (by decide +kernel), if_pos rfl]
theorem Prc.of_lost (p : Prc) : p.of "lost" = p.ls := by unfold Prc.of; rw [if_neg (by decide +kernel), if_neg (by decide +kernel), if_neg (by decide +kernel), if_pos rfl]
theorem Prc.of_found (p : Prc) : p.of "found" = 0 := by unfold Prc.of; rw [if_neg (by decide +kernel), if_neg (by decide +kernel), if_neg (by decide +kernel), if_neg (by decide +kernel)]
theorem Prc.of_on (p : Prc) : p.of "on" = 0 := by unfold Prc.of; rw [if_neg (by decide +kernel), if_neg (by decide +kernel), if_neg (by decide +kernel), if_neg (by decide +kernel)]
/-- the words that price_of is asked of -/
def kwd (w : Str) : Prop := w = "split" ∨ w = "doubled" ∨ w = "over" ∨ w = "lost" ∨ w = "found" ∨ w = "on"
def rowC (g : Gr) (st : Nat → Int) (dd : Nat → List (Option Int)) : Nat → List (Option Int)
  | 0 => []
  | n + 1 => rowC g st dd n ++ [leastO (dd n ++ (atG g n).un.map fun b => oadd (some (st n)) ((rowC g st dd n).getD b none))]
def colC (g : Gr) (st : Nat → Int) (dd : Nat → List (Option Int)) (x : Nat) : Option Int := (rowC g st dd (x + 1)).getD x none
def stC (g : Gr) (pr : Prc) (x : Nat) : Int := if (atG g x).un.length = 2 then pr.ls else 0
/-- what a deed comes to by the columns of both -/
def dedC (g : Gr) (pr : Prc) (f h : Nat → Option Int) (x : Nat) : List (Option Int) := (ddsN g x).map fun d => oadd (oadd (some (pr.of d.1)) (f d.2.1)) (h d.2.2)
/-- the least that a way of a tree costs from a stay on -/
def E (g : Gr) (pr : Prc) : T → Nat → Option Int
  | .leaf w => colC g (stC g pr) fun x => if fndN g x w = true then [some 0] else []
  | .node l r => colC g (stC g pr) fun x => dedC g pr (E g pr l) (E g pr r) x
/-- by the number of a node -/
def entI (g : Gr) (pr : Prc) (t0 : T) (i x : Nat) : Option Int := match t0.subs[i]? with
  | some s => E g pr s x
  | none => none
def rowI (g : Gr) (pr : Prc) (t0 : T) (i : Nat) : List D := (List.range g.length).map fun x => entD (entI g pr t0 i x)
def tabD (g : Gr) (pr : Prc) (t0 : T) : D := .tup ((List.range t0.cnt).map fun i => .tup (rowI g pr t0 i))
/-- the numbers of both of a node's -/
theorem sub_kids {t0 l r : T} {i : Nat} (h : t0.subs[i]? = some (.node l r)) : t0.nodes[i]? = some (.tup [natD (chA t0 i), natD (chB t0 i)]) ∧ t0.subs[chA t0 i]? = some l ∧ t0.subs[chB t0 i]? = some r ∧ chA t0 i < i ∧ chB t0 i < i := by
  obtain ⟨a, b, e, ha, hb, la, lb⟩ := T.sub_node h
  have hg : t0.nodes.getD i .non = .tup [natD a, natD b] := by rw [List.getD_eq_getElem?_getD, e]; rfl
  have ea : chA t0 i = a := by unfold chA; rw [hg]; simp [natD]
  have eb : chB t0 i = b := by unfold chB; rw [hg]; simp [natD]
  rw [ea, eb]
  exact ⟨e, ha, hb, la, lb⟩
end M
namespace Q
open PySem hiding Env
open L2 M
end Q
namespace Q
open PySem hiding Env
open L2 M
end Q
namespace M
open PySem PySem.Spec L2
open PyProof.Rows hiding St
end M
namespace Q
open PySem hiding Env
open L2 M
end Q
namespace Q
open PySem hiding Env
open L2 M
end Q
namespace Q
open PySem hiding Env
open L2 M
end Q
namespace Q
open PySem hiding Env
open L2 M
end Q
namespace M
open PySem PySem.Spec L2
open PyProof.Rows hiding St
structure Prc.Ok (p : Prc) : Prop where
  sp : 0 ≤ p.sp ∧ p.sp ≤ 10 ^ 30
  db : 0 ≤ p.db ∧ p.db ≤ 10 ^ 30
  ov : 0 ≤ p.ov ∧ p.ov ≤ 10 ^ 30
  ls : 0 ≤ p.ls ∧ p.ls ≤ 10 ^ 30
/-- a small tree of some words -/
structure Smw (ws : List Str) (s : T) : Prop where
  ok : s.Ok
  sub : ∀ w ∈ s.ls, w ∈ ws
  len : s.ls.length ≤ 10
theorem Smw.depth {ws : List Str} {s : T} (h : Smw ws s) : s.depth < 60 := by have := s.depth_lt; have := h.len; omega
end M
namespace Q
open PySem hiding Env
open L2 M
section
variable {b n : Nat} {S : Store} {K : Out R → Prop}
/-- a ground, a small tree, prices -/
structure Cas (t : T) (g : Gr) (s : T) : Prop where
  ok : t.Ok
  nd : t.ls.Nodup
  len : t.ls.length ≤ 8
  gr : GrOf t g
  sok : s.Ok
  sub : ∀ w ∈ s.ls, w ∈ t.ls
  slen : s.ls.length ≤ 10
theorem Cas.depth {t : T} {g : Gr} {s : T} (h : Cas t g s) : s.depth < 60 := by have := s.depth_lt; have := h.slen; omega
end
end Q
namespace Q
open PySem hiding Env
open L2 M
end Q
namespace M
open PySem PySem.Spec L2
open PyProof.Rows hiding St
theorem sm_of {i : Int} {k : Nat} (h0 : 0 ≤ i) (h : i < 2 ^ k) (hk : k ≤ 400000) : i.natAbs < smLine := by
  refine sm_lt k ?_ hk
  have e : ((i.natAbs : Nat) : Int) = i := Int.natAbs_of_nonneg h0
  have : ((i.natAbs : Nat) : Int) < ((2 ^ k : Nat) : Int) := by rw [e]; simpa using h
  exact Int.ofNat_lt.mp this
end M
namespace Q
open PySem hiding Env
open L2 M
end Q
namespace M
open PySem PySem.Spec L2
open PyProof.Rows hiding St
end M
namespace Q
open PySem hiding Env
open L2 M
end Q
namespace Q
open PySem hiding Env
open L2 M
end Q
namespace M
open PySem PySem.Spec L2
open PyProof.Rows hiding St
end M
namespace Q
open PySem hiding Env
open L2 M
end Q
namespace Q
open PySem hiding Env
open L2 M
end Q
namespace Q
open PySem hiding Env
open L2 M
end Q
namespace M
open PySem PySem.Spec L2
open PyProof.Rows hiding St
def nk (i x : Nat) : List Key := [.inl (i : Int), .inl (x : Int)]
theorem nk_inj {i x j y : Nat} (h : nk i x = nk j y) : i = j ∧ x = y := by
  simp only [nk, List.cons.injEq, Sum.inl.injEq, and_true] at h
  omega
def spl2 (g : Gr) (x : Nat) : List (Str × Nat × Nat) := if (atG g x).un.length = 2 then [(("split" : Str), (atG g x).un.getD 0 0, (atG g x).un.getD 1 0), (("split" : Str), (atG g x).un.getD 1 0, (atG g x).un.getD 0 0)] else []
def ovs2 (L : List Nat) (x : Nat) : List (Str × Nat × Nat) := L.flatMap fun o => [(("over" : Str), x, o), (("over" : Str), o, x)]
def dds2 (g : Gr) (x : Nat) : List (Str × Nat × Nat) := (("doubled" : Str), x, x) :: (ovs2 (atG g x).bs x ++ spl2 g x)
end M
namespace Q
open PySem hiding Env
open L2 M
theorem opNe_ints {S : Store} (L : List Int) : opNe (.v (.lst (L.map D.int))) (.v (.lst [])) S = .ok (.v (.bl (!L.isEmpty))) S :=
  (opEq_nic (b := L.isEmpty) 1 (show Nic 1 (.lst (L.map D.int)) from fun d hd => by obtain ⟨x, _, rfl⟩ := List.mem_map.mp hd; exact trivial) (show Nic 1 (.lst []) from fun d hd => by simp at hd) (by decide) (by cases L <;> simp)).2
end Q
namespace M
open PySem PySem.Spec L2
open PyProof.Rows hiding St
end M
namespace Q
open PySem hiding Env
open L2 M
end Q
namespace Q
open PySem hiding Env
open L2 M
end Q
namespace M
open PySem PySem.Spec L2
open PyProof.Rows hiding St
theorem kwd_of {P : Str → Prop} (h1 : P "split") (h2 : P "doubled") (h3 : P "over") (h4 : P "lost") (h5 : P "found") (h6 : P "on") : ∀ w, kwd w → P w := by
  rintro w (rfl | rfl | rfl | rfl | rfl | rfl) <;> assumption
end M
namespace Q
open PySem hiding Env
open L2 M
end Q
namespace M
open PySem PySem.Spec L2
open PyProof.Rows hiding St
def costW (g : Gr) (pr : Prc) : Wy → Int
  | .one p d => pr.ls * (lossN g p : Nat) + pr.of d
  | .two p d a b => pr.ls * (lossN g p : Nat) + (pr.of d + costW g pr a + costW g pr b)
theorem way_inv2' {g : Gr} {t : T} {p : List Nat} {d : Str} {a b : Wy} (h : wayN g t (.two p d a b) = true) : ∃ l r, t = .node l r ∧ pathN g p = true ∧ wayN g l a = true ∧ wayN g r b = true ∧ domN g (p.getLastD 0) d (a.p.headD 0) (b.p.headD 0) = true := by
  cases t with
  | leaf w => cases h
  | node l r =>
    simp only [wayN, Bool.and_eq_true] at h
    exact ⟨l, r, rfl, h.1, h.2.1, h.2.2.1, h.2.2.2⟩
structure LWy (g : Gr) (pr : Prc) (t : T) (x : Nat) (y : Wy) : Prop where
  way : wayN g t y = true
  head : y.p.headD 0 = x
  cost : E g pr t x = some (costW g pr y)
mutual
def Wy.P : Wy → PyData
  | .one p d => .tuple [.tuple (p.map fun i : Nat => PyData.int (i : Int)), .str d]
  | .two p d a b => .tuple [.tuple (p.map fun i : Nat => PyData.int (i : Int)), .str d, a.P, b.P]
end
theorem ints_py : ∀ p : List Nat, D.pys (p.map natD) = some (p.map fun i : Nat => PyData.int (i : Int))
  | [] => rfl
  | a :: p => by simp only [List.map_cons, D.pys, ints_py p]; rfl
theorem Wy.py : ∀ y : Wy, y.d.py = some y.P
  | .one p d => by
    show (D.pys [pD p, .str d]).map PyData.tuple = _
    simp only [D.pys, pD, D.py, ints_py p]
    simp [Wy.P]
  | .two p d a b => by
    show (D.pys [pD p, .str d, a.d, b.d]).map PyData.tuple = _
    simp only [D.pys, pD, D.py, ints_py p, Wy.py a, Wy.py b]
    simp [Wy.P]
theorem alike_intsN : ∀ xs ys : List Nat, PySem.W.alikeAll (xs.map fun i : Nat => PyData.int (i : Int)) (ys.map fun i : Nat => PyData.int (i : Int)) = true
  | [], _ => by simp [PySem.W.alikeAll]
  | _ :: _, [] => by simp [PySem.W.alikeAll]
  | x :: xs, y :: ys => by simp only [List.map_cons, PySem.W.alikeAll, PySem.W.alike, alike_intsN xs ys]; rfl
theorem Wy.alike {g : Gr} : ∀ (t : T) (y z : Wy), wayN g t y = true → wayN g t z = true → PySem.W.alike y.P z.P = true
  | .leaf w, .one p d, .one q e, _, _ => by simp only [Wy.P, PySem.W.alike, PySem.W.alikeAll, alike_intsN]; rfl
  | .node l r, .two p d a b, .two q e a' b', h, k => by
    obtain ⟨l1, r1, e1, _, h2, h3, _⟩ := way_inv2' h
    obtain ⟨l2, r2, e2, _, k2, k3, _⟩ := way_inv2' k
    cases e1; cases e2
    simp only [Wy.P, PySem.W.alike, PySem.W.alikeAll, alike_intsN, Wy.alike l a a' h2 k2, Wy.alike r b b' h3 k3]; rfl
  | .leaf _, .two _ _ _ _, _, h, _ => by cases h
  | .leaf _, .one _ _, .two _ _ _ _, _, h => by cases h
  | .node _ _, .one _ _, _, h, _ => by cases h
  | .node _ _, .two _ _ _ _, .one _ _, _, h => by cases h
end M
namespace M
open PySem PySem.Spec L2
open PyProof.Rows hiding St
def wlt (y z : Wy) : Bool := PySem.W.dataLt y.P z.P
/-- the first of the least ways -/
structure LWf (g : Gr) (pr : Prc) (t : T) (x : Nat) (w : Wy) : Prop extends LWy g pr t x w where
  first : ∀ y, LWy g pr t x y → wlt y w = false
end M
namespace Q
open PySem hiding Env
open L2 M
end Q
namespace Q
open PySem hiding Env
open L2 M
def fs_LeastWays (r0 r1 r2 r3 r4 : R) : List (Str × R) := [(("stays_told" : Str), r0), (("nodes_told" : Str), r1), (("prices_told" : Str), r2), (("least_rows" : Str), r3), (("first_ways" : Str), r4)]
end Q
namespace M
open PySem PySem.Spec L2
open PyProof.Rows hiding St
theorem nodup_len {α : Type} [DecidableEq α] : ∀ {L M : List α}, L.Nodup → (∀ x ∈ L, x ∈ M) → L.length ≤ M.length
  | [], _, _, _ => Nat.zero_le _
  | a :: L, M, hn, hs => by
    obtain ⟨h1, h2⟩ := List.nodup_cons.mp hn
    have ha := hs a (by simp)
    have := nodup_len (L := L) (M := M.erase a) h2 fun x hx => (List.mem_erase_of_ne (by rintro rfl; exact h1 hx)).mpr (hs x (by simp [hx]))
    rw [List.length_erase_of_mem ha] at this
    have := List.length_pos_of_mem ha
    simp only [List.length_cons]; omega
theorem valT_mem {kvs : List (List Key × R)} {k : List Key} {v : R} (h : valT kvs k = some v) : (k, v) ∈ kvs := by
  unfold valT at h
  obtain ⟨p, hp, rfl⟩ := Option.map_eq_some_iff.mp h
  have h1 := List.mem_of_find?_eq_some hp
  have h2 := List.find?_some hp
  simp only [decide_eq_true_eq] at h2
  rw [← h2]; exact h1
structure Memo (g : Gr) (pr : Prc) (t0 : T) (kvs : List (List Key × R)) : Prop where
  nd : (kvs.map Prod.fst).Nodup
  el : ∀ kv ∈ kvs, ∃ i x s w, i < t0.cnt ∧ x < g.length ∧ t0.subs[i]? = some s ∧ LWf g pr s x w ∧ kv = (nk i x, .v w.d)
theorem Memo.nil (g : Gr) (pr : Prc) (t0 : T) : Memo g pr t0 [] := ⟨by simp, fun _ h => by cases h⟩
theorem Memo.len {g : Gr} {pr : Prc} {t0 : T} {kvs : List (List Key × R)} (h : Memo g pr t0 kvs) : kvs.length ≤ t0.cnt * g.length := by
  have := nodup_len (L := kvs.map Prod.fst) (M := (List.range t0.cnt).flatMap fun i => (List.range g.length).map fun x => nk i x) h.nd fun k hk => by
    obtain ⟨kv, hkv, rfl⟩ := List.mem_map.mp hk
    obtain ⟨i, x, s, w, hi, hx, _, _, rfl⟩ := h.el kv hkv
    exact List.mem_flatMap.mpr ⟨i, List.mem_range.mpr hi, List.mem_map.mpr ⟨x, List.mem_range.mpr hx, rfl⟩⟩
  have e : ∀ L : List Nat, (L.flatMap fun i => (List.range g.length).map fun x => nk i x).length = L.length * g.length := fun L => by
    induction L with
    | nil => simp
    | cons a L ih => rw [List.flatMap_cons, List.length_append, ih, List.length_map, List.length_range, List.length_cons, Nat.add_mul]; omega
  rw [e, List.length_map, List.length_range] at this
  exact this
theorem Memo.get {g : Gr} {pr : Prc} {t0 s : T} {kvs : List (List Key × R)} (h : Memo g pr t0 kvs) {i x : Nat} {v : R} (hs : t0.subs[i]? = some s) (hv : valT kvs (nk i x) = some v) : ∃ w, v = .v w.d ∧ LWf g pr s x w := by
  obtain ⟨j, y, s', w, _, _, hs', hw, e⟩ := h.el _ (valT_mem hv)
  have e1 := congrArg Prod.fst e
  have e2 := congrArg Prod.snd e
  obtain ⟨rfl, rfl⟩ := nk_inj e1
  rw [hs] at hs'; cases hs'
  exact ⟨w, e2, hw⟩
theorem Memo.lo {g : Gr} {pr : Prc} {t0 : T} {kvs : List (List Key × R)} (h : Memo g pr t0 kvs) (k : Nat) : (MO.dT kvs).lo k := fun kv hkv => by
  obtain ⟨_, _, _, w, _, _, _, _, rfl⟩ := h.el kv hkv
  trivial
end M
namespace Q
open PySem hiding Env
open L2 M
/-- the object and its memo -/
structure Obj (B : Store) (n d : Nat) (g : Gr) (pr : Prc) (t0 : T) : Prop where
  ins : B[n]? = some (.ins "LeastWays" (fs_LeastWays (.v (grD g)) (.v (.tup t0.nodes)) (.v pr.d) (.v (tabD g pr t0)) (.ref d)))
  ne : n ≠ d
  lt : d < B.length
theorem Obj.app {B : Store} {n d : Nat} {g : Gr} {pr : Prc} {t0 : T} (h : Obj B n d g pr t0) (C : Store) : Obj (B ++ C) n d g pr t0 := ⟨get_app' h.ins C, h.ne, by rw [List.length_append]; have := h.lt; omega⟩
theorem Obj.at {B : Store} {n d : Nat} {g : Gr} {pr : Prc} {t0 : T} (h : Obj B n d g pr t0) (c : MO) (C : Store) : (B.set d c ++ C)[n]? = some (.ins "LeastWays" (fs_LeastWays (.v (grD g)) (.v (.tup t0.nodes)) (.v pr.d) (.v (tabD g pr t0)) (.ref d))) := get_app' (by rw [List.getElem?_set_ne (Ne.symm h.ne)]; exact h.ins) C
end Q
namespace M
open PySem PySem.Spec L2
open PyProof.Rows hiding St
end M
namespace Q
open PySem hiding Env
open L2 M
end Q
namespace Q
open PySem hiding Env
open L2 M
end Q
namespace M
open PySem PySem.Spec L2
open PyProof.Rows hiding St
end M
namespace Q
open PySem hiding Env
open L2 M
end Q
namespace Q
open PySem hiding Env
open L2 M
end Q
namespace M
open PySem PySem.Spec L2
open PyProof.Rows hiding St
end M
namespace Q
open PySem hiding Env
open L2 M
end Q
namespace M
open PySem PySem.Spec L2
open PyProof.Rows hiding St
def Prc.l (p : Prc) : List Int := [p.sp, p.db, p.ov, p.ls]
def Prc.map (f : Int → Int) (p : Prc) : Prc := ⟨f p.sp, f p.db, f p.ov, f p.ls⟩
def Prc.zip (f : Int → Int → Int) (p q : Prc) : Prc := ⟨f p.sp q.sp, f p.db q.db, f p.ov q.ov, f p.ls q.ls⟩
/-- what holds of all prices holds of what any word costs -/
theorem Prc.all {P : Int → Prop} {p : Prc} (h0 : P 0) (h1 : P p.sp) (h2 : P p.db) (h3 : P p.ov) (h4 : P p.ls) : ∀ w, kwd w → P (p.of w) := by
  refine kwd_of ?_ ?_ ?_ ?_ ?_ ?_
  · rw [Prc.of_split]; exact h1
  · rw [Prc.of_doubled]; exact h2
  · rw [Prc.of_over]; exact h3
  · rw [Prc.of_lost]; exact h4
  · rw [Prc.of_found]; exact h0
  · rw [Prc.of_on]; exact h0
end M
namespace Q
open PySem hiding Env
open L2 M
end Q
namespace M
open PySem PySem.Spec L2
open PyProof.Rows hiding St
end M
namespace Q
open PySem hiding Env
open L2 M
end Q
namespace Q
open PySem hiding Env
open L2 M
end Q
namespace M
open PySem PySem.Spec L2
open PyProof.Rows hiding St
end M
namespace Q
open PySem hiding Env
open L2 M
end Q
namespace Q
open PySem hiding Env
open L2 M
end Q
namespace M
open PySem PySem.Spec L2
open PyProof.Rows hiding St
end M
namespace Q
open PySem hiding Env
open L2 M
end Q
namespace Q
open PySem hiding Env
open L2 M
def one (r : Nat → Nat) (l : Nat) (x : Option Nat) : Nat := match x with
  | none => 0
  | some p => if r p ≤ l then 1 else 0
end Q
namespace M
open PySem PySem.Spec L2
open PyProof.Rows hiding St
def rowG {α : Type} (z : α) (f : Nat → (Nat → α) → α) : Nat → List α
  | 0 => []
  | n + 1 => rowG z f n ++ [f n fun b => (rowG z f n).getD b z]
def colG {α : Type} (z : α) (f : Nat → (Nat → α) → α) (x : Nat) : α := (rowG z f (x + 1)).getD x z
structure Frs (g : Gr) : Prop where
  nd : ((List.range g.length).flatMap fun x => (atG g x).un).Nodup
end M
namespace Q
open PySem hiding Env
open L2 M
end Q
namespace M
open PySem PySem.Spec L2
open PyProof.Rows hiding St
def sd (g : Gr) (x : Nat) : List (Str × Nat × Nat) := (dds2 g x).mergeSort fun a b => !dLt (dd3 b) (dd3 a)
/-- what a deed comes to -/
def cst (g : Gr) (pr : Prc) (l r : T) (d : Str × Nat × Nat) : Option Int := oadd (oadd (some (pr.of d.1)) (E g pr l d.2.1)) (E g pr r d.2.2)
def srtN (L : List Nat) : List Nat := L.mergeSort fun a b => decide (a ≤ b)
/-- where a least way may go on -/
def goN (g : Gr) (pr : Prc) (t : T) (x : Nat) : List Nat := (srtN (atG g x).un).filter fun b => (E g pr t b).isSome && decide (oadd (E g pr t b) (some (stC g pr x)) = E g pr t x)
def LN (g : Gr) (pr : Prc) : T → Nat → Nat
  | .leaf w => colG 0 fun x h => if (E g pr (.leaf w) x).isSome then (if fndN g x w = true ∧ E g pr (.leaf w) x = some 0 then 1 else 0) + ((goN g pr (.leaf w) x).map h).sum else 0
  | .node l r => colG 0 fun x h => if (E g pr (.node l r) x).isSome then (((sd g x).filter fun d => decide (cst g pr l r d = E g pr (.node l r) x)).map fun d => LN g pr l d.2.1 * LN g pr r d.2.2).sum + ((goN g pr (.node l r) x).map h).sum else 0
/-- .. whose deed is done at once and that cost so much -/
def hN (g : Gr) (pr : Prc) : T → Nat → Option Int → Nat
  | .leaf w, x, c => if fndN g x w = true ∧ c = some 0 then 1 else 0
  | .node l r, x, c => (((sd g x).filter fun d => decide (cst g pr l r d = c)).map fun d => LN g pr l d.2.1 * LN g pr r d.2.2).sum
end M
namespace Q
open PySem hiding Env
open L2 M
/-- what deeds cost, by their words -/
def pdK : List Key := [.inr "split", .inr "doubled", .inr "over", .inr "found"]
def pdD (pr : Prc) : D := .dct pdK [.int pr.sp, .int pr.db, .int pr.ov, .int 0]
end Q
namespace Q
open PySem hiding Env
open L2 M
end Q
namespace M
open PySem PySem.Spec L2
open PyProof.Rows hiding St
end M
namespace Q
open PySem hiding Env
open L2 M
end Q
namespace Q
open PySem hiding Env
open L2 M
end Q
namespace M
open PySem PySem.Spec L2
open PyProof.Rows hiding St
end M
namespace M
open PySem PySem.Spec L2
open PyProof.Rows hiding St
end M
namespace Q
open PySem hiding Env
open L2 M
end Q
namespace Q
open PySem hiding Env
open L2 M
end Q
namespace M
open PySem PySem.Spec L2
open PyProof.Rows hiding St
def hC (g : Gr) (pr : Prc) (s : T) (x : Nat) (c : Option Int) : Nat := if c.isSome then hN g pr s x c else 0
def lnI (g : Gr) (pr : Prc) (t0 : T) (i x : Nat) : Nat := match t0.subs[i]? with
  | some s => LN g pr s x
  | none => 0
end M
namespace Q
open PySem hiding Env
open L2 M
end Q
namespace Q
open PySem hiding Env
open L2 M
end Q
namespace Q
open PySem hiding Env
open L2 M
def fs_Numbers (r0 r1 r2 r3 r4 r5 : R) : List (Str × R) := [(("stays" : Str), r0), (("knots" : Str), r1), (("paid" : Str), r2), (("step_price" : Str), r3), (("costs" : Str), r4), (("known" : Str), r5)]
end Q
namespace M
open PySem PySem.Spec L2
open PyProof.Rows hiding St
structure MemoN (g : Gr) (pr : Prc) (t0 : T) (kvs : List (List Key × R)) : Prop where
  nd : (kvs.map Prod.fst).Nodup
  el : ∀ kv ∈ kvs, ∃ i x, i < t0.cnt ∧ x < g.length ∧ kv = (nk i x, .v (.int (lnI g pr t0 i x : Nat)))
theorem MemoN.nil (g : Gr) (pr : Prc) (t0 : T) : MemoN g pr t0 [] := ⟨by simp, fun _ h => by cases h⟩
theorem MemoN.len {g : Gr} {pr : Prc} {t0 : T} {kvs : List (List Key × R)} (h : MemoN g pr t0 kvs) : kvs.length ≤ t0.cnt * g.length := by
  have := nodup_len (L := kvs.map Prod.fst) (M := (List.range t0.cnt).flatMap fun i => (List.range g.length).map fun x => nk i x) h.nd fun k hk => by
    obtain ⟨kv, hkv, rfl⟩ := List.mem_map.mp hk
    obtain ⟨i, x, hi, hx, rfl⟩ := h.el kv hkv
    exact List.mem_flatMap.mpr ⟨i, List.mem_range.mpr hi, List.mem_map.mpr ⟨x, List.mem_range.mpr hx, rfl⟩⟩
  have e : ∀ L : List Nat, (L.flatMap fun i => (List.range g.length).map fun x => nk i x).length = L.length * g.length := fun L => by
    induction L with
    | nil => simp
    | cons a L ih => rw [List.flatMap_cons, List.length_append, ih, List.length_map, List.length_range, List.length_cons, Nat.add_mul]; omega
  rw [e, List.length_map, List.length_range] at this
  exact this
theorem MemoN.get {g : Gr} {pr : Prc} {t0 : T} {kvs : List (List Key × R)} (h : MemoN g pr t0 kvs) {i x : Nat} {v : R} (hv : valT kvs (nk i x) = some v) : v = .v (.int (lnI g pr t0 i x : Nat)) := by
  obtain ⟨j, y, _, _, e⟩ := h.el _ (valT_mem hv)
  have e1 := congrArg Prod.fst e
  have e2 := congrArg Prod.snd e
  obtain ⟨rfl, rfl⟩ := nk_inj e1
  exact e2
theorem MemoN.lo {g : Gr} {pr : Prc} {t0 : T} {kvs : List (List Key × R)} (h : MemoN g pr t0 kvs) (k : Nat) : (MO.dT kvs).lo k := fun kv hkv => by
  obtain ⟨_, _, _, _, rfl⟩ := h.el kv hkv
  trivial
end M
namespace Q
open PySem hiding Env
open L2 M
/-- the object's fields -/
def fsN (g : Gr) (pr : Prc) (t0 : T) (d : Nat) : List (Str × R) := fs_Numbers (.v (grD g)) (.v (.tup t0.nodes)) (.v (pdD pr)) (.v (.int pr.ls)) (.v (tabD g pr t0)) (.ref d)
structure ObN (B : Store) (n d : Nat) (g : Gr) (pr : Prc) (t0 : T) : Prop where
  ins : B[n]? = some (.ins "Numbers" (fsN g pr t0 d))
  ne : n ≠ d
  lt : d < B.length
theorem ObN.app {B : Store} {n d : Nat} {g : Gr} {pr : Prc} {t0 : T} (h : ObN B n d g pr t0) (C : Store) : ObN (B ++ C) n d g pr t0 := ⟨get_app' h.ins C, h.ne, by rw [List.length_append]; have := h.lt; omega⟩
theorem ObN.at {B : Store} {n d : Nat} {g : Gr} {pr : Prc} {t0 : T} (h : ObN B n d g pr t0) (c : MO) (C : Store) : (B.set d c ++ C)[n]? = some (.ins "Numbers" (fsN g pr t0 d)) := get_app' (by rw [List.getElem?_set_ne (Ne.symm h.ne)]; exact h.ins) C
end Q
namespace Q
open PySem hiding Env
open L2 M
end Q
namespace Q
open PySem hiding Env
open L2 M
end Q
namespace M
open PySem PySem.Spec L2
open PyProof.Rows hiding St
end M
namespace Q
open PySem hiding Env
open L2 M
end Q
namespace Q
open PySem hiding Env
open L2 M
end Q
namespace Q
open PySem hiding Env
open L2 M
end Q
namespace Q
open PySem hiding Env
open L2 M
end Q
namespace M
open PySem PySem.Spec L2
open PyProof.Rows hiding St
end M
namespace Q
open PySem hiding Env
open L2 M
end Q
namespace Q
open PySem hiding Env
open L2 M
end Q
namespace M
open PySem PySem.Spec L2
open PyProof.Rows hiding St
end M
namespace Q
open PySem hiding Env
open L2 M
end Q
namespace Q
open PySem hiding Env
open L2 M
end Q
namespace M
open PySem PySem.Spec L2
open PyProof.Rows hiding St
end M
namespace Q
open PySem hiding Env
open L2 M
end Q
namespace M
open PySem PySem.Spec L2
open PyProof.Rows hiding St
end M
namespace M
open PySem PySem.Spec L2
open PyProof.Rows hiding St
end M
namespace M
open PySem PySem.Spec L2
open PyProof.Rows hiding St
end M
namespace M
open PySem PySem.Spec L2
open PyProof.Rows hiding St
section
variable {g : Gr} {pr : Prc}
theorem Frs.un {g : Gr} (F : Frs g) {x : Nat} (hx : x < g.length) : (atG g x).un.Nodup := (List.pairwise_flatMap.mp F.nd).1 x (List.mem_range.mpr hx)
end
end M
namespace Q
open PySem hiding Env
open L2 M
end Q
namespace M
open PySem PySem.Spec L2
open PyProof.Rows hiding St
end M
namespace Q
open PySem hiding Env
open L2 M
end Q
namespace Q
open PySem hiding Env
open L2 M
end Q
namespace Q
open PySem hiding Env
open L2 M
end Q
namespace M
open PySem PySem.Spec L2
open PyProof.Rows hiding St
/-- few stays stand beside one -/
structure FewB (g : Gr) : Prop where
  bs : ∀ x, x < g.length → (atG g x).bs.length ≤ 20
theorem GrOf.few {t : T} {g : Gr} (h : GrOf t g) (hz : t.ls.length ≤ 8) : FewB g := by
  have hc := t.cnt_ls
  rcases h.of with rfl | ⟨ds, hd, rfl⟩
  · refine ⟨fun x hx => ?_⟩
    rw [grO_len] at hx
    rw [grO_at hx]
    have := List.length_filter_le (fun o => !(t.lns.getD x []).contains o && !(t.lns.getD o []).contains x) (List.range t.cnt)
    refine Nat.le_trans (List.length_filter_le _ _) ?_
    rw [List.length_range]; omega
  · refine ⟨fun x hx => ?_⟩
    rw [grW_len] at hx
    have hp : (standing t ds)[x]? = some (standing t ds)[x] := List.getElem?_eq_getElem hx
    generalize (standing t ds)[x] = p at hp
    rw [grW_at hp]
    show (((standing t ds).zipIdx.filter fun q => decide (q.1.2 = p.2) && !decide (q.1.1 = p.1)).map (·.2)).length ≤ 20
    rw [List.length_map]
    have key : ((((standing t ds).zipIdx.filter fun q => decide (q.1.2 = p.2) && !decide (q.1.1 = p.1)).map (·.1)).map (·.1)).Nodup := by
      have nd1 : (((standing t ds).zipIdx.filter fun q => decide (q.1.2 = p.2) && !decide (q.1.1 = p.1)).map (·.1)).Nodup := by
        have : ((standing t ds).zipIdx.map (·.1)).Nodup := by rw [List.zipIdx_map_fst]; exact standing_nd t ds
        exact this.sublist (List.Sublist.map _ List.filter_sublist)
      refine nodup_map_on nd1 fun a ha b hb e => ?_
      obtain ⟨u, hu, rfl⟩ := List.mem_map.mp ha
      obtain ⟨v, hv, rfl⟩ := List.mem_map.mp hb
      have h1 := (List.mem_filter.mp hu).2
      have h2 := (List.mem_filter.mp hv).2
      simp only [Bool.and_eq_true, decide_eq_true_eq] at h1 h2
      exact Prod.ext e (h1.1.trans h2.1.symm)
    have sub : ∀ o ∈ ((((standing t ds).zipIdx.filter fun q => decide (q.1.2 = p.2) && !decide (q.1.1 = p.1)).map (·.1)).map (·.1)), o ∈ List.range t.cnt := fun o ho => by
      obtain ⟨a, ha, rfl⟩ := List.mem_map.mp ho
      obtain ⟨u, hu, rfl⟩ := List.mem_map.mp ha
      have := List.mem_zipIdx' (List.mem_filter.mp hu).1
      have hm : u.1 ∈ standing t ds := by rw [this.2]; exact List.getElem_mem _
      exact List.mem_range.mpr (standing_mem.mp hm).2.1
    have := nat_nodup_len _ _ key sub
    simp only [List.length_map, List.length_range] at this
    omega
end M
namespace Q
open PySem hiding Env
open L2 M
end Q
namespace Q
open PySem hiding Env
open L2 M
noncomputable def b1_take_6 : MS :=
  (mDrop (mMeth "list" mtPop (mBin opIx (mVar 0) (mC (.int 0))) (mCons (mC (.int 0)) mNil)))
noncomputable def m_take_6 : MS :=
  (mSeq (mWhile (mtAnd (mtB (mBin opNe (mBin opIx (mVar 0) (mC (.int 0))) (mLstV mNil))) (mtB (mBin opEq (mBin opIx (mBin opIx (mVar 0) (mC (.int 0))) (mC (.int 0))) (mC (.int 0))))) b1_take_6)
  (mSeq (mIfS (mtB (mBin opNe (mBin opIx (mVar 0) (mC (.int 0))) (mLstV mNil))) (mSeq (mSet 2 (mBin opMod (mBin opIx (mBin opIx (mVar 0) (mC (.int 0))) (mC (.int 0))) (mVar 1)))
  (mSeq (mSetIx (mBin opFdiv (mBin opIx (mBin opIx (mVar 0) (mC (.int 0))) (mC (.int 0))) (mVar 1)) (mBin opIx (mVar 0) (mC (.int 0))) (mC (.int 0)))
  (mRet (mVar 2)))) mSkip)
  (mSeq (mSetIx (mBin opAdd (mBin opIx (mVar 0) (mC (.int 2))) (mC (.int 1))) (mVar 0) (mC (.int 2)))
  (mSeq (mSet 3 (mBin opMod (mBin opMul (mBin opAdd (mBin opAdd (mBin opIx (mVar 0) (mC (.int 1))) (mBin opMul (mBin opMul (mC (.int 104729)) (mBin opIx (mVar 0) (mC (.int 2)))) (mBin opIx (mVar 0) (mC (.int 2))))) (mC (.int 7))) (mC (.int 69621))) (mC (.int 2305843009213693921))))
  (mSeq (mSet 3 (mBin opMod (mBin opMul (mVar 3) (mBin opAdd (mBin opMod (mVar 3) (mC (.int 999983))) (mBin opMul (mC (.int 65537)) (mBin opIx (mVar 0) (mC (.int 2)))))) (mC (.int 2305843009213693907))))
  (mRet (mBin opMod (mBin opAdd (mBin opFdiv (mVar 3) (mC (.int 89))) (mBin opFdiv (mVar 3) (mC (.int 999979)))) (mVar 1))))))))
noncomputable def M_take_6 : List R → Store → Out R := mDefV 4 (m_take_6)
end Q
namespace M
open PySem PySem.Spec L2
open PyProof.Rows hiding St
structure PtE (b : Nat) where
  cs : List Int
  y : Int
  z : Int
  hc : ∀ c ∈ cs, 0 ≤ c
  hl : cs.length ≤ 63
  hy : 0 ≤ y
  hyl : y < 2305843009213693951
  hz : 0 ≤ z
  hzb : z ≤ b
def PtE.a {b : Nat} (h : PtE b) : MO := .lst ((h.cs.map D.int).map .v)
def PtE.c {b : Nat} (h : PtE b) (n : Nat) : MO := .lst [.ref n, .v (.int h.y), .v (.int h.z)]
/-- it lies at n, n + 1 -/
structure AtE {b : Nat} (S : Store) (n : Nat) (h : PtE b) : Prop where
  a : S[n]? = some h.a
  c : S[n + 1]? = some (h.c n)
def ptE {b : Nat} (S : Store) (n : Nat) (h : PtE b) : Store := (S.set n h.a).set (n + 1) (h.c n)
section
variable {b b' : Nat} {S : Store} {n : Nat}
theorem AtE.lt {h : PtE b} (e : AtE S n h) : n + 1 < S.length := (List.getElem?_eq_some_iff.mp e.c).1
theorem ptE_at {h : PtE b} (h' : PtE b') (e : AtE S n h) : AtE (ptE S n h') n h' := by
  have := e.lt
  refine ⟨?_, ?_⟩
  · unfold ptE
    rw [List.getElem?_set_ne (by omega), List.getElem?_set_self (by omega)]
  · unfold ptE
    rw [List.getElem?_set_self (by simp; omega)]
theorem ptE_pt {h' : PtE b'} {b2 : Nat} (h2 : PtE b2) : ptE (ptE S n h') n h2 = ptE S n h2 := by
  unfold ptE
  rw [List.set_comm _ _ (show n + 1 ≠ n by omega), List.set_set, List.set_set]
theorem ptE_same {h : PtE b} (e : AtE S n h) : ptE S n h = S := by
  unfold ptE
  rw [set_same e.a, set_same e.c]
theorem ptE_len {h : PtE b} : (ptE S n h).length = S.length := by unfold ptE; simp
theorem AtE.app {h : PtE b} (e : AtE S n h) (C : Store) : AtE (S ++ C) n h := ⟨get_app' e.a C, get_app' e.c C⟩
theorem ptE_app {h : PtE b} (h' : PtE b') (e : AtE S n h) (C : Store) : ptE (S ++ C) n h' = ptE S n h' ++ C := by
  have := e.lt
  unfold ptE
  rw [List.set_append_left _ _ (by omega), List.set_append_left _ _ (by simp; omega)]
theorem ptE_upd {h : PtE b} (h' : PtE b') (e : AtE S n h) : Upd S (ptE S n h') := by
  have := e.lt
  refine ((Upd.refl S).set (lo_lst _ _)).set ?_
  intro r hr
  simp only [List.mem_cons, List.not_mem_nil, or_false] at hr
  rcases hr with rfl | rfl | rfl
  · show n < S.length
    omega
  · trivial
  · trivial
end
end M
namespace Q
open PySem hiding Env
open L2 M
theorem opNe_view {S : Store} {r e : R} {d : D} (h : view S r = some d) : opNe r e S = opNe (.v d) e S := by
  unfold opNe pyOf
  rw [h, view_v]
section
variable {b n : Nat} {S : Store} {K : Out R → Prop}
theorem take_6_wp {h : PtE b} {k : Int} (e : AtE S n h) (hb : b ≤ 2 ^ 40) (h0 : 0 < k) (h1 : k < 2 ^ 62) (c : ∀ (r : Int) (h' : PtE (b + 1)), 0 ≤ r → r < k → K (.ok (.v (.int r)) (ptE S n h'))) : wE (M_take_6 [.ref (n + 1), .v (.int k)] S) K := by
  have hk : k.natAbs < dvLine := dv64 (Nat.lt_of_lt_of_le (nab (k := 62) (by omega) h1) (by decide))
  have p0 : ∀ {b'} (g : PtE b') (U : Store), AtE U n g → opIx (.ref (n + 1)) (.v (.int 0)) U = .ok (.ref n) U := fun g U eg => opIx_ref eg.c rfl
  have p1 : ∀ {b'} (g : PtE b') (U : Store), AtE U n g → opIx (.ref (n + 1)) (.v (.int 1)) U = .ok (.v (.int g.y)) U := fun g U eg => opIx_ref eg.c rfl
  have p2 : ∀ {b'} (g : PtE b') (U : Store), AtE U n g → opIx (.ref (n + 1)) (.v (.int 2)) U = .ok (.v (.int g.z)) U := fun g U eg => opIx_ref eg.c rfl
  have ne0 : ∀ {b'} (g : PtE b') (U : Store), AtE U n g → opNe (.ref n) (.v (.lst [])) U = .ok (.v (.bl (!g.cs.isEmpty))) U := fun g U eg => by
    rw [opNe_view (view_ref eg.a), opNe_ints]
  have q0 : ∀ {b'} (g : PtE b') (U : Store) (x : Int) (xs : List Int), AtE U n g → g.cs = x :: xs → opIx (.ref n) (.v (.int 0)) U = .ok (.v (.int x)) U := fun g U x xs eg hx => opIx_ref eg.a (by rw [hx, List.map_cons, List.map_cons, atI_lt (by decide)]; rfl)
  have cu : ∀ {b'} (g : PtE b'), cut S (ptE S n g) = ptE S n g := fun g => cut_U (ptE_upd g e)
  simp_arith [M_take_6, m_take_6]
  refine while_wp [] h.cs.length (fun j ws U => ∃ g : PtE b, g.cs.length = j ∧ ws = [] ∧ U = ptE S n g) (by have := h.hl; omega) rfl ⟨h, rfl, rfl, (ptE_same e).symm⟩ ?_
  rintro j ws U ⟨g, rfl, rfl, rfl⟩
  have eg := ptE_at g e
  simp_arith [p0 g _ eg, ne0 g _ eg]
  cases hcs : g.cs with
  | nil =>
    simp_arith [List.isEmpty_nil, Bool.not_true]
    refine ⟨_, _, rfl, ?_⟩
    simp_arith [List.isEmpty_nil, Bool.not_true, p0 g _ eg, ne0 g _ eg, hcs, p2 g _ eg]
    have s1 : setIx (.ref (n + 1)) (.v (.int 2)) (.v (.int (g.z + 1))) (ptE S n g) = some (ptE S n (⟨g.cs, g.y, g.z + 1, g.hc, g.hl, g.hy, g.hyl, by have := g.hz; omega, by have := g.hzb; omega⟩ : PtE (b + 1))) := by
      rw [setIx_ref eg.c (by decide) (by simp)]
      refine congrArg some ?_
      unfold ptE
      rw [List.set_set]; rfl
    simp_arith [s1]
    generalize hg : (⟨g.cs, g.y, g.z + 1, g.hc, g.hl, g.hy, g.hyl, by have := g.hz; omega, by have := g.hzb; omega⟩ : PtE (b + 1)) = g2
    have eg2 := ptE_at g2 e
    have y0 := g2.hy; have y1 := g2.hyl; have z0 := g2.hz; have z1 := g2.hzb
    have m1 : (104729 : Int).natAbs < smLine := sm64 (by decide)
    have m2 : g2.z.natAbs < smLine := sm64 (by omega)
    have m3 : (104729 * g2.z).natAbs < smLine := sm64 (by omega)
    have mz : 104729 * g2.z * g2.z < 2 ^ 100 := by
      have h1 : g2.z * g2.z ≤ (2 ^ 40 + 1) * (2 ^ 40 + 1) := Int.mul_le_mul (by omega) (by omega) z0 (by omega)
      rw [Int.mul_assoc]
      omega
    have mz0 : 0 ≤ 104729 * g2.z * g2.z := by rw [Int.mul_assoc]; exact Int.mul_nonneg (by decide) (Int.mul_nonneg z0 z0)
    have m4 : (g2.y + 104729 * g2.z * g2.z + 7).natAbs < smLine := sm_of (k := 101) (by omega) (by omega) (by decide)
    have m5 : (69621 : Int).natAbs < smLine := sm64 (by decide)
    generalize hw : (g2.y + 104729 * g2.z * g2.z + 7) * 69621 % 2305843009213693921 = w
    have w0 : 0 ≤ w ∧ w < 2305843009213693921 := by rw [← hw]; exact ⟨Int.emod_nonneg _ (by decide), Int.emod_lt_of_pos _ (by decide)⟩
    have w2 : 0 ≤ w % 999983 ∧ w % 999983 < 999983 := ⟨Int.emod_nonneg _ (by decide), Int.emod_lt_of_pos _ (by decide)⟩
    have m6 : w.natAbs < smLine := sm64 (by omega)
    have m7 : (65537 : Int).natAbs < smLine := sm64 (by decide)
    have m8 : (w % 999983 + 65537 * g2.z).natAbs < smLine := sm64 (by omega)
    have d1 : (89 : Int).natAbs < dvLine := dv64 (by decide)
    have d2 : (999979 : Int).natAbs < dvLine := dv64 (by decide)
    simp_arith [p1 g2 _ eg2, p2 g2 _ eg2, opMul_int m1 m2, opMul_int m3 m2, opMul_int m4 m5, opMod_int (show (0 : Int) < 2305843009213693921 by decide), hw, opMod_int (show (0 : Int) < 999983 by decide), opMul_int m7 m2, opMul_int m6 m8, opMod_int (show (0 : Int) < 2305843009213693907 by decide), opFdiv_int (show (0 : Int) < 89 by decide) d1, opFdiv_int (show (0 : Int) < 999979 by decide) d2, opMod_int h0, cu]
    exact c _ g2 (Int.emod_nonneg _ (by omega)) (Int.emod_lt_of_pos _ h0)
  | cons x xs =>
    simp_arith [List.isEmpty_cons, Bool.not_false, p0 g _ eg, q0 g _ x xs eg hcs]
    by_cases hx : x = 0
    · rw [show ((x == 0) : Bool) = true from beq_iff_eq.mpr hx]
      let g2 : PtE b := ⟨xs, g.y, g.z, fun c hc => g.hc c (by rw [hcs]; exact List.mem_cons_of_mem _ hc), by have := g.hl; rw [hcs] at this; simp at this; omega, g.hy, g.hyl, g.hz, g.hzb⟩
      have pop : mtPop (.ref n) [.v (.int 0)] (ptE S n g) = .ok (.v (.int x)) (ptE S n g2) := by
        have ga := eg.a
        have hl := g.hl
        rw [hcs] at hl
        unfold PtE.a at ga
        rw [hcs] at ga
        simp only [mtPop, ga]
        rw [if_pos ⟨by decide, by simp, by simp at hl ⊢; omega⟩]
        simp only [Int.toNat_zero, List.map_cons, List.getElem?_cons_zero, List.eraseIdx_cons_zero]
        unfold ptE
        rw [List.set_comm _ _ (show n + 1 ≠ n by omega), List.set_set]; rfl
      have ty : tyOk "list" (ptE S n g) (.ref n) = true := tyOk_lst eg.a
      refine ⟨_, _, rfl, ?_⟩
      simp_arith [b1_take_6, p0 g _ eg, ty, pop]
      exact ⟨xs.length, Nat.lt_succ_self _, g2, rfl, rfl⟩
    · rw [show ((x == 0) : Bool) = false from beq_eq_false_iff_ne.mpr hx]
      have x0 : 0 ≤ x := g.hc x (by rw [hcs]; simp)
      let g2 : PtE (b + 1) := ⟨(x / k) :: xs, g.y, g.z, fun c hc => by
        rcases List.mem_cons.mp hc with rfl | hc
        · exact Int.ediv_nonneg x0 (by omega)
        · exact g.hc c (by rw [hcs]; exact List.mem_cons_of_mem _ hc), by have := g.hl; rw [hcs] at this; simpa using this, g.hy, g.hyl, g.hz, by have := g.hzb; omega⟩
      have s1 : setIx (.ref n) (.v (.int 0)) (.v (.int (x / k))) (ptE S n g) = some (ptE S n g2) := by
        have ga := eg.a
        unfold PtE.a at ga
        rw [hcs] at ga
        rw [setIx_ref ga (by decide) (by simp)]
        refine congrArg some ?_
        unfold ptE
        rw [List.set_comm _ _ (show n + 1 ≠ n by omega), List.set_set]; rfl
      refine ⟨_, _, rfl, ?_⟩
      simp_arith [p0 g _ eg, ne0 g _ eg, hcs, List.isEmpty_cons, Bool.not_false, q0 g _ x xs eg hcs, opMod_int h0, opFdiv_int h0 hk, s1, cu]
      exact c _ g2 (Int.emod_nonneg _ (by omega)) (Int.emod_lt_of_pos _ h0)
end
end Q
namespace Q
open PySem hiding Env
open L2 M
end Q
namespace Q
open PySem hiding Env
open L2 M
noncomputable def b1_pot_2 : MS :=
  (mSet 1 (mBin opMod (mBin opAdd (mBin opAdd (mBin opMul (mVar 1) (mC (.int 999979))) (mBin opMod (mVar 2) (mBin opPow (mC (.int 10)) (mC (.int 30))))) (mC (.int 17))) (mC (.int 2305843009213693951))))
noncomputable def m_pot_2 : MS :=
  (mSeq (mSet 1 (mBin opAdd (mCall biLen (mCons (mVar 0) mNil)) (mC (.int 5))))
  (mSeq (mFor (srcAny (mPop (mSl (mVar 0) moN (moS (mC (.int 63)))))) (tgN 2) b1_pot_2)
  (mRet (mLst (mCons (mLc (srcAny (mPop (mSl (mVar 0) moN (moS (mC (.int 63)))))) [2] (tgN 2) (mtB (mBin opGe (mVar 2) (mBin opPow (mC (.int 10)) (mC (.int 18))))) (mVar 2)) (mCons (mVar 1) (mCons (mC (.int 0)) mNil)))))))
noncomputable def M_pot_2 : List R → Store → Out R := mDef 3 (m_pot_2)
end Q
namespace Q
open PySem hiding Env
open L2 M
end Q
namespace Q
open PySem hiding Env
open L2 M
section
variable {b n : Nat} {S : Store} {K : Out R → Prop}
theorem pot_2_wp {ns : List Int} (hns : ns.length ≤ 63) (c : ∀ h : PtE 0, K (.ok (.ref (S.length + 1)) (S ++ [h.a, h.c S.length]))) : wE (M_pot_2 [.v (.kl (ns.map D.int))] S) K := by
  have hp : ∀ (k : Int), 0 ≤ k → k ≤ 1000 → ∀ S, opPow (.v (.int 10)) (.v (.int k)) S = .ok (.v (.int (10 ^ k.toNat))) S := fun k k0 k1 S => by
    have hc : (0 : Int) ≤ k ∧ k ≤ 1000000 ∧ (10 : Int).natAbs < 2 ^ 64 := ⟨k0, by omega, by decide⟩
    unfold opPow onII
    simp only
    rw [if_pos hc]
  have p30 := hp 30 (by decide) (by decide)
  have p18 := hp 18 (by decide) (by decide)
  simp_arith [M_pot_2, m_pot_2, opSl_kl]
  have pn := popV_new S (cutD (ns.map D.int) none (some 63))
  refine wE_eq pn ?_
  rw [cutD_take _ (by decide), show (63 : Int).toNat = 63 from rfl, ← List.map_take]
  simp_arith []
  refine for_wp [1, 2] (fun j ws U => ∃ (s : Int) (a : Option R), 0 ≤ s ∧ s < 2305843009213693951 ∧ ws = [some (.v (.int s)), a] ∧ U = S) rfl ⟨_, _, ?_, ?_, rfl, rfl⟩ ?_ ?_
  · omega
  · rw [List.length_map]; omega
  · rintro j d ws U hd ⟨s, a, s0, s1, rfl, rfl⟩
    rw [List.map_map, List.getElem?_map] at hd
    obtain ⟨x, hx, rfl⟩ := Option.map_eq_some_iff.mp hd
    simp only [Function.comp_apply]
    have m1 : s.natAbs < smLine := sm64 (by omega)
    have m2 : (999979 : Int).natAbs < smLine := sm64 (by decide)
    simp_arith [b1_pot_2, p30, opMul_int m1 m2, opMod_int (show (0 : Int) < 10 ^ (30 : Int).toNat by decide), opMod_int (show (0 : Int) < 2305843009213693951 by decide)]
    exact ⟨_, _, Int.emod_nonneg _ (by decide), Int.emod_lt_of_pos _ (by decide), rfl⟩
  · rintro ws U ⟨s, a, s0, s1, rfl, rfl⟩
    simp_arith [opSl_kl]
    refine wE_eq pn ?_
    rw [cutD_take _ (by decide), show (63 : Int).toNat = 63 from rfl, ← List.map_take]
    simp_arith []
    refine lcR_wp (pins := []) (ns.take 63) (fun x => .v (.int x)) (fun x => decide ((10 : Int) ^ (18 : Int).toNat ≤ x)) D.int (by rw [List.map_map]; rfl) (fun _ => trivial) (sz_of (by rw [List.length_take]; omega)) ?_ ?_
    · intro x hx acc
      simp_arith [p18]
      exact fun _ => trivial
    · simp_arith [Nat.zero_add]
      have hlen : ([R.ref U.length, R.v (D.int s), R.v (D.int 0)] : List R).length ≤ sizeLine := sz_of (by simp)
      let g : PtE 0 := ⟨(ns.take 63).filter fun x => decide ((10 : Int) ^ (18 : Int).toNat ≤ x), s, 0, fun c hc => by
        have := (List.mem_filter.mp hc).2
        rw [decide_eq_true_eq] at this
        have h10 : (0 : Int) ≤ 10 ^ (18 : Int).toNat := by decide
        omega, Nat.le_trans (List.length_filter_le _ _) (by rw [List.length_take]; omega), s0, s1, Int.le_refl _, Int.le_refl _⟩
      exact c g
end
end Q
namespace M
open PySem PySem.Spec L2
open PyProof.Rows hiding St
theorem T.sub_cnt : ∀ (t : T) (i : Nat) (u : T), t.subs[i]? = some u → u.cnt ≤ i + 1
  | .leaf w, i, u, h => by
    cases i with
    | zero => cases h; exact Nat.le_refl _
    | succ i => simp [T.subs] at h
  | .node l r, i, u, h => by
    have n1 := l.subs_len
    have n2 := r.subs_len
    simp only [T.subs] at h
    rw [List.append_assoc] at h
    by_cases h1 : i < l.cnt
    · rw [List.getElem?_append_left (by omega)] at h
      exact T.sub_cnt l i u h
    · rw [List.getElem?_append_right (by omega)] at h
      by_cases h2 : i - l.subs.length < r.cnt
      · rw [List.getElem?_append_left (by omega)] at h
        have := T.sub_cnt r _ u h
        omega
      · rw [List.getElem?_append_right (by omega)] at h
        cases q : i - l.subs.length - r.subs.length with
        | zero => rw [q] at h; cases h; simp only [T.cnt]; omega
        | succ j => rw [q] at h; simp at h
/-- l, r, the top: where a number lies -/
theorem sub_l {l r : T} {i : Nat} (h : i < l.cnt) : (T.node l r).subs[i]? = l.subs[i]? := by
  have n1 := l.subs_len
  simp only [T.subs]
  rw [List.append_assoc, List.getElem?_append_left (by omega)]
theorem sub_r {l r : T} {i : Nat} (h : i < r.cnt) : (T.node l r).subs[l.cnt + i]? = r.subs[i]? := by
  have n1 := l.subs_len
  have n2 := r.subs_len
  simp only [T.subs]
  rw [List.append_assoc, List.getElem?_append_right (by omega), List.getElem?_append_left (by omega), n1, Nat.add_sub_cancel_left]
theorem sub_t (l r : T) : (T.node l r).subs[l.cnt + r.cnt]? = some (.node l r) := by
  have := (T.node l r).sub_top
  simpa [T.cnt] using this
theorem at_node : ∀ (t : T) (k i : Nat) (l r : T), t.subs[i]? = some (.node l r) → (T.nodesFrom k t)[i]? = some (.tup [natD (k + i - 1 - r.cnt), natD (k + i - 1)])
  | .leaf w, k, i, l, r, h => by
    cases i with
    | zero => cases h
    | succ i => simp [T.subs] at h
  | .node l0 r0, k, i, l, r, h => by
    have n1 := T.nodesFrom_len l0 k
    have n2 := T.nodesFrom_len r0 (k + l0.cnt)
    have hi : i < (T.node l0 r0).cnt := by rw [← T.subs_len]; exact (List.getElem?_eq_some_iff.mp h).1
    simp only [T.cnt] at hi
    simp only [T.nodesFrom]
    rw [List.append_assoc]
    by_cases h1 : i < l0.cnt
    · rw [sub_l h1] at h
      rw [List.getElem?_append_left (by omega)]
      exact at_node l0 k i l r h
    · rw [List.getElem?_append_right (by omega), n1]
      by_cases h2 : i - l0.cnt < r0.cnt
      · have e : i = l0.cnt + (i - l0.cnt) := by omega
        rw [e, sub_r h2] at h
        rw [List.getElem?_append_left (by omega), at_node r0 (k + l0.cnt) _ l r h]
        congr 4
        · congr 1; omega
        · congr 2; omega
      · have e : i = l0.cnt + r0.cnt := by omega
        subst e
        rw [sub_t] at h
        cases h
        rw [List.getElem?_append_right (by omega), n2]
        rw [show l0.cnt + r0.cnt - l0.cnt - r0.cnt = 0 by omega]
        show some (D.tup [natD (k + l0.cnt - 1), natD (k + l0.cnt + r0.cnt - 1)]) = _
        rw [show k + l0.cnt + r0.cnt - 1 = k + (l0.cnt + r0.cnt) - 1 by omega, show k + l0.cnt - 1 = k + (l0.cnt + r0.cnt) - 1 - r0.cnt by omega]
/-- j is i or above it -/
def anc (t : T) (j i : Nat) : Prop := ∃ u, t.subs[j]? = some u ∧ i ≤ j ∧ j < i + u.cnt
theorem anc_ll {l r : T} {i j : Nat} (hj : j < l.cnt) : anc (.node l r) j i ↔ anc l j i := by unfold anc; rw [sub_l hj]
theorem anc_rr {l r : T} {i j : Nat} (hj : j < r.cnt) : anc (.node l r) (l.cnt + j) (l.cnt + i) ↔ anc r j i := by
  unfold anc
  rw [sub_r hj]
  exact ⟨fun ⟨u, a, b, c⟩ => ⟨u, a, by omega, by omega⟩, fun ⟨u, a, b, c⟩ => ⟨u, a, by omega, by omega⟩⟩
theorem anc_rl {l r : T} {i j : Nat} (hj : j < r.cnt) (hi : i < l.cnt) : ¬ anc (.node l r) (l.cnt + j) i := by
  rintro ⟨u, a, b, c⟩
  rw [sub_r hj] at a
  have := T.sub_cnt r j u a
  omega
theorem anc_lr {t : T} {i j : Nat} (h : j < i) : ¬ anc t j i := fun ⟨u, a, b, c⟩ => by omega
theorem anc_t {l r : T} {i : Nat} (hi : i ≤ l.cnt + r.cnt) : anc (.node l r) (l.cnt + r.cnt) i := ⟨_, sub_t l r, hi, by simp only [T.cnt]; omega⟩
inductive Trn (ρ : Str → Str) : T → T → Prop
  | leaf (w : Str) : Trn ρ (.leaf w) (.leaf (ρ w))
  | node {l r l' r' : T} : Trn ρ l l' → Trn ρ r r' → Trn ρ (.node l r) (.node l' r')
  | swap {l r l' r' : T} : Trn ρ l l' → Trn ρ r r' → Trn ρ (.node l r) (.node r' l')
theorem Trn.cnt {ρ : Str → Str} {t t' : T} (h : Trn ρ t t') : t'.cnt = t.cnt := by
  induction h with
  | leaf w => rfl
  | node _ _ a b => simp only [T.cnt, a, b]
  | swap _ _ a b => simp only [T.cnt, a, b]; omega
structure Pos (ρ : Str → Str) (t t' : T) (σ : Nat → Nat) : Prop where
  lt : ∀ i, i < t.cnt → σ i < t.cnt
  tp : σ (t.cnt - 1) = t.cnt - 1
  lf : ∀ i w, t.subs[i]? = some (.leaf w) → t'.subs[σ i]? = some (.leaf (ρ w))
  nd : ∀ i l r, t.subs[i]? = some (.node l r) → ∃ l' r', t'.subs[σ i]? = some (.node l' r') ∧ ((σ i - 1 - r'.cnt = σ (i - 1 - r.cnt) ∧ σ i - 1 = σ (i - 1)) ∨ (σ i - 1 - r'.cnt = σ (i - 1) ∧ σ i - 1 = σ (i - 1 - r.cnt)))
  an : ∀ i j, i < t.cnt → j < t.cnt → anc t' (σ j) (σ i) → anc t j i
theorem Trn.pos {ρ : Str → Str} {t t' : T} (h : Trn ρ t t') : ∃ σ, Pos ρ t t' σ := by
  induction h with
  | leaf w =>
    refine ⟨fun _ => 0, ⟨fun i hi => Nat.one_pos, rfl, fun i w' h => ?_, fun i l r h => ?_, fun i j hi hj _ => ?_⟩⟩
    · cases i with
      | zero => cases h; rfl
      | succ i => simp [T.subs] at h
    · cases i with
      | zero => cases h
      | succ i => simp [T.subs] at h
    · have hi : i < 1 := hi
      have hj : j < 1 := hj
      exact ⟨.leaf w, by rw [show j = 0 by omega]; rfl, by omega, by simp [T.cnt]; omega⟩
  | @node l r l' r' hl hr il ir =>
    obtain ⟨a, A⟩ := il
    obtain ⟨b, B⟩ := ir
    have cl := hl.cnt
    have cr := hr.cnt
    have pl := l.cnt_pos
    have pr := r.cnt_pos
    let σ : Nat → Nat := fun i => if i < l.cnt then a i else if i < l.cnt + r.cnt then l.cnt + b (i - l.cnt) else l.cnt + r.cnt
    have sl : ∀ i, i < l.cnt → σ i = a i := fun i h => if_pos h
    have sr : ∀ i, i < r.cnt → σ (l.cnt + i) = l.cnt + b i := fun i h => by
      show (if l.cnt + i < l.cnt then _ else if l.cnt + i < l.cnt + r.cnt then _ else _) = _
      rw [if_neg (by omega), if_pos (by omega), Nat.add_sub_cancel_left]
    have st : σ (l.cnt + r.cnt) = l.cnt + r.cnt := by
      show (if l.cnt + r.cnt < l.cnt then _ else if l.cnt + r.cnt < l.cnt + r.cnt then _ else _) = _
      rw [if_neg (by omega), if_neg (by omega)]
    have split : ∀ i, i < (T.node l r).cnt → i < l.cnt ∨ (∃ j, j < r.cnt ∧ i = l.cnt + j) ∨ i = l.cnt + r.cnt := fun i h => by
      simp only [T.cnt] at h
      by_cases h1 : i < l.cnt
      · exact .inl h1
      · by_cases h2 : i - l.cnt < r.cnt
        · exact .inr (.inl ⟨_, h2, by omega⟩)
        · exact .inr (.inr (by omega))
    have ixl : ∀ {i u}, (T.node l r).subs[i]? = some u → i < (T.node l r).cnt := fun h => by rw [← T.subs_len]; exact (List.getElem?_eq_some_iff.mp h).1
    have wl : ∀ i, i < l.cnt → (T.node l' r').subs[a i]? = l'.subs[a i]? := fun i h => sub_l (by rw [cl]; exact A.lt i h)
    have wr : ∀ i, i < r.cnt → (T.node l' r').subs[l.cnt + b i]? = r'.subs[b i]? := fun i h => by rw [← cl]; exact sub_r (by rw [cr]; exact B.lt i h)
    have wt : (T.node l' r').subs[l.cnt + r.cnt]? = some (.node l' r') := by rw [← cl, ← cr]; exact sub_t l' r'
    refine ⟨σ, ⟨fun i hi => ?_, ?_, fun i w h => ?_, fun i p q h => ?_, fun i j hi hj h => ?_⟩⟩
    · rcases split i hi with h | ⟨j, h, rfl⟩ | rfl
      · rw [sl i h]; have := A.lt i h; simp only [T.cnt]; omega
      · rw [sr j h]; have := B.lt j h; simp only [T.cnt]; omega
      · rw [st]; simp only [T.cnt]; omega
    · simp only [T.cnt, Nat.add_sub_cancel]; exact st
    · rcases split i (ixl h) with q | ⟨j, q, rfl⟩ | rfl
      · rw [sub_l q] at h; rw [sl i q, wl i q]; exact A.lf i w h
      · rw [sub_r q] at h; rw [sr j q, wr j q]; exact B.lf j w h
      · rw [sub_t] at h; cases h
    · rcases split i (ixl h) with z | ⟨j, z, rfl⟩ | rfl
      · rw [sub_l z] at h
        have k0 := T.sub_cnt l i _ h
        simp only [T.cnt] at k0
        obtain ⟨p', q', e, f⟩ := A.nd i p q h
        rw [sl i z, wl i z, sl (i - 1 - q.cnt) (by omega), sl (i - 1) (by omega)]
        exact ⟨p', q', e, f⟩
      · rw [sub_r z] at h
        have k0 := T.sub_cnt r j _ h
        simp only [T.cnt] at k0
        have pc := p.cnt_pos
        obtain ⟨p', q', e, f⟩ := B.nd j p q h
        have k1 := T.sub_cnt r' _ _ e
        simp only [T.cnt] at k1
        have pc' := p'.cnt_pos
        rw [sr j z, wr j z, show l.cnt + j - 1 - q.cnt = l.cnt + (j - 1 - q.cnt) by omega, show l.cnt + j - 1 = l.cnt + (j - 1) by omega, sr (j - 1 - q.cnt) (by omega), sr (j - 1) (by omega)]
        exact ⟨p', q', e, by omega⟩
      · rw [sub_t] at h
        cases h
        have ta := A.tp
        have tb := B.tp
        rw [st, wt, show l.cnt + r.cnt - 1 - r.cnt = l.cnt - 1 by omega, show l.cnt + r.cnt - 1 = l.cnt + (r.cnt - 1) by omega, sl _ (by omega), sr _ (by omega), ta, tb]
        exact ⟨l', r', rfl, .inl ⟨by omega, rfl⟩⟩
    · rcases split i hi with z | ⟨i, z, rfl⟩ | rfl <;> rcases split j hj with y | ⟨j, y, rfl⟩ | rfl
      · rw [sl i z, sl j y] at h
        exact (anc_ll y).mpr (A.an i j z y ((anc_ll (by rw [cl]; exact A.lt j y)).mp h))
      · rw [sl i z, sr j y, ← cl] at h
        exact absurd h (anc_rl (by rw [cr]; exact B.lt j y) (by rw [cl]; exact A.lt i z))
      · exact anc_t (by omega)
      · rw [sr i z, sl j y] at h
        have := A.lt j y
        exact absurd h (anc_lr (by omega))
      · rw [sr i z, sr j y, ← cl] at h
        exact (anc_rr y).mpr (B.an i j z y ((anc_rr (by rw [cr]; exact B.lt j y)).mp h))
      · exact anc_t (by omega)
      · rw [st, sl j y] at h
        have := A.lt j y
        exact absurd h (anc_lr (by omega))
      · rw [st, sr j y] at h
        have := B.lt j y
        exact absurd h (anc_lr (by omega))
      · exact anc_t (by omega)
  | @swap l r l' r' hl hr il ir =>
    obtain ⟨a, A⟩ := il
    obtain ⟨b, B⟩ := ir
    have cl := hl.cnt
    have cr := hr.cnt
    have pl := l.cnt_pos
    have pr := r.cnt_pos
    let σ : Nat → Nat := fun i => if i < l.cnt then r.cnt + a i else if i < l.cnt + r.cnt then b (i - l.cnt) else l.cnt + r.cnt
    have sl : ∀ i, i < l.cnt → σ i = r.cnt + a i := fun i h => if_pos h
    have sr : ∀ i, i < r.cnt → σ (l.cnt + i) = b i := fun i h => by
      show (if l.cnt + i < l.cnt then _ else if l.cnt + i < l.cnt + r.cnt then _ else _) = _
      rw [if_neg (by omega), if_pos (by omega), Nat.add_sub_cancel_left]
    have st : σ (l.cnt + r.cnt) = l.cnt + r.cnt := by
      show (if l.cnt + r.cnt < l.cnt then _ else if l.cnt + r.cnt < l.cnt + r.cnt then _ else _) = _
      rw [if_neg (by omega), if_neg (by omega)]
    have split : ∀ i, i < (T.node l r).cnt → i < l.cnt ∨ (∃ j, j < r.cnt ∧ i = l.cnt + j) ∨ i = l.cnt + r.cnt := fun i h => by
      simp only [T.cnt] at h
      by_cases h1 : i < l.cnt
      · exact .inl h1
      · by_cases h2 : i - l.cnt < r.cnt
        · exact .inr (.inl ⟨_, h2, by omega⟩)
        · exact .inr (.inr (by omega))
    have ixl : ∀ {i u}, (T.node l r).subs[i]? = some u → i < (T.node l r).cnt := fun h => by rw [← T.subs_len]; exact (List.getElem?_eq_some_iff.mp h).1
    have wl : ∀ i, i < l.cnt → (T.node r' l').subs[r.cnt + a i]? = l'.subs[a i]? := fun i h => by rw [← cr]; exact sub_r (by rw [cl]; exact A.lt i h)
    have wr : ∀ i, i < r.cnt → (T.node r' l').subs[b i]? = r'.subs[b i]? := fun i h => sub_l (by rw [cr]; exact B.lt i h)
    have wt : (T.node r' l').subs[l.cnt + r.cnt]? = some (.node r' l') := by rw [← cl, ← cr, Nat.add_comm]; exact sub_t r' l'
    refine ⟨σ, ⟨fun i hi => ?_, ?_, fun i w h => ?_, fun i p q h => ?_, fun i j hi hj h => ?_⟩⟩
    · rcases split i hi with h | ⟨j, h, rfl⟩ | rfl
      · rw [sl i h]; have := A.lt i h; simp only [T.cnt]; omega
      · rw [sr j h]; have := B.lt j h; simp only [T.cnt]; omega
      · rw [st]; simp only [T.cnt]; omega
    · simp only [T.cnt, Nat.add_sub_cancel]; exact st
    · rcases split i (ixl h) with q | ⟨j, q, rfl⟩ | rfl
      · rw [sub_l q] at h; rw [sl i q, wl i q]; exact A.lf i w h
      · rw [sub_r q] at h; rw [sr j q, wr j q]; exact B.lf j w h
      · rw [sub_t] at h; cases h
    · rcases split i (ixl h) with z | ⟨j, z, rfl⟩ | rfl
      · rw [sub_l z] at h
        have k0 := T.sub_cnt l i _ h
        simp only [T.cnt] at k0
        obtain ⟨p', q', e, f⟩ := A.nd i p q h
        have k1 := T.sub_cnt l' _ _ e
        simp only [T.cnt] at k1
        have pc' := p'.cnt_pos
        rw [sl i z, wl i z, sl (i - 1 - q.cnt) (by omega), sl (i - 1) (by omega)]
        exact ⟨p', q', e, by omega⟩
      · rw [sub_r z] at h
        have k0 := T.sub_cnt r j _ h
        simp only [T.cnt] at k0
        have pc := p.cnt_pos
        obtain ⟨p', q', e, f⟩ := B.nd j p q h
        rw [sr j z, wr j z, show l.cnt + j - 1 - q.cnt = l.cnt + (j - 1 - q.cnt) by omega, show l.cnt + j - 1 = l.cnt + (j - 1) by omega, sr (j - 1 - q.cnt) (by omega), sr (j - 1) (by omega)]
        exact ⟨p', q', e, f⟩
      · rw [sub_t] at h
        cases h
        have ta := A.tp
        have tb := B.tp
        rw [st, wt, show l.cnt + r.cnt - 1 - r.cnt = l.cnt - 1 by omega, show l.cnt + r.cnt - 1 = l.cnt + (r.cnt - 1) by omega, sl _ (by omega), sr _ (by omega), ta, tb]
        exact ⟨r', l', rfl, .inr ⟨by omega, by omega⟩⟩
    · rcases split i hi with z | ⟨i, z, rfl⟩ | rfl <;> rcases split j hj with y | ⟨j, y, rfl⟩ | rfl
      · rw [sl i z, sl j y, ← cr] at h
        exact (anc_ll y).mpr (A.an i j z y ((anc_rr (by rw [cl]; exact A.lt j y)).mp h))
      · rw [sl i z, sr j y] at h
        have := B.lt j y
        exact absurd h (anc_lr (by omega))
      · exact anc_t (by omega)
      · rw [sr i z, sl j y, ← cr] at h
        exact absurd h (anc_rl (by rw [cl]; exact A.lt j y) (by rw [cr]; exact B.lt i z))
      · rw [sr i z, sr j y] at h
        exact (anc_rr y).mpr (B.an i j z y ((anc_ll (by rw [cr]; exact B.lt j y)).mp h))
      · exact anc_t (by omega)
      · rw [st, sl j y] at h
        have := A.lt j y
        exact absurd h (anc_lr (by omega))
      · rw [st, sr j y] at h
        have := B.lt j y
        exact absurd h (anc_lr (by omega))
      · exact anc_t (by omega)
end M
namespace M
open PySem PySem.Spec L2
open PyProof.Rows hiding St
def inn : Nat → T → List Nat
  | _, .leaf _ => []
  | k, .node l r => inn k l ++ inn (k + l.cnt) r ++ [k + l.cnt + r.cnt]
theorem inn_bd : ∀ (t : T) (k : Nat), ∀ x ∈ inn k t, k ≤ x ∧ x < k + t.cnt
  | .leaf _, k, x, h => by cases h
  | .node l r, k, x, h => by
    simp only [inn, List.mem_append, List.mem_cons, List.not_mem_nil, or_false] at h
    simp only [T.cnt]
    rcases h with (h | h) | rfl
    · have := inn_bd l k x h; omega
    · have := inn_bd r _ x h; omega
    · omega
theorem inn_nd : ∀ (t : T) (k : Nat), (inn k t).Nodup
  | .leaf _, k => List.nodup_nil
  | .node l r, k => by
    simp only [inn]
    refine List.nodup_append.mpr ⟨List.nodup_append.mpr ⟨inn_nd l k, inn_nd r _, fun a ha b hb e => ?_⟩, by simp, fun a ha b hb e => ?_⟩
    · have := inn_bd l k a ha
      have := inn_bd r _ b hb
      omega
    · simp only [List.mem_cons, List.not_mem_nil, or_false] at hb
      subst hb; subst e
      rcases List.mem_append.mp ha with h | h
      · have := inn_bd l k _ h; omega
      · have := inn_bd r _ _ h; omega
theorem inn_mem : ∀ (t : T) (k j : Nat), k + j ∈ inn k t ↔ ∃ l r, t.subs[j]? = some (.node l r)
  | .leaf w, k, j => by
    constructor
    · intro h; cases h
    · rintro ⟨l, r, h⟩
      cases j with
      | zero => cases h
      | succ j => simp [T.subs] at h
  | .node l r, k, j => by
    simp only [inn, List.mem_append, List.mem_cons, List.not_mem_nil, or_false]
    by_cases h1 : j < l.cnt
    · rw [sub_l h1, ← inn_mem l k j]
      constructor
      · rintro ((h | h) | h)
        · exact h
        · have := inn_bd r _ _ h; omega
        · omega
      · exact fun h => .inl (.inl h)
    · by_cases h2 : j - l.cnt < r.cnt
      · have e : j = l.cnt + (j - l.cnt) := by omega
        rw [e, sub_r h2, ← inn_mem r (k + l.cnt) (j - l.cnt)]
        constructor
        · rintro ((h | h) | h)
          · have := inn_bd l k _ h; omega
          · rwa [← Nat.add_assoc] at h
          · omega
        · exact fun h => .inl (.inr (by rwa [← Nat.add_assoc]))
      · by_cases h3 : j = l.cnt + r.cnt
        · subst h3
          exact ⟨fun _ => ⟨l, r, sub_t l r⟩, fun _ => .inr (by omega)⟩
        · constructor
          · rintro ((h | h) | h)
            · have := inn_bd l k _ h; omega
            · have := inn_bd r _ _ h; omega
            · omega
          · rintro ⟨l', r', h⟩
            have : j < (T.node l r).cnt := by rw [← T.subs_len]; exact (List.getElem?_eq_some_iff.mp h).1
            simp only [T.cnt] at this
            omega
theorem inner_sub {t : T} {j : Nat} : j ∈ t.innerIx ↔ ∃ l r, t.subs[j]? = some (.node l r) := by
  constructor
  · intro h
    obtain ⟨h1, a, b, e, _⟩ := T.inner_mem.mp h
    have hj : j < t.subs.length := by rw [t.subs_len]; exact h1
    have hs : t.subs[j]? = some t.subs[j] := List.getElem?_eq_getElem hj
    generalize t.subs[j] = u at hs
    cases u with
    | leaf w => rw [T.sub_leaf hs] at e; cases e
    | node l r => exact ⟨l, r, hs⟩
  · rintro ⟨l, r, h⟩
    obtain ⟨a, b, e, _, _, la, lb⟩ := T.sub_node h
    exact T.inner_mem.mpr ⟨by rw [← t.subs_len]; exact (List.getElem?_eq_some_iff.mp h).1, a, b, e, la, lb⟩
theorem inner_nd (t : T) : t.innerIx.Nodup := List.nodup_range.filter _
theorem inn_perm (t : T) : (inn 0 t).Perm t.innerIx := by
  refine (List.perm_ext_iff_of_nodup (inn_nd t 0) (inner_nd t)).mpr fun j => ?_
  have := inn_mem t 0 j
  rw [Nat.zero_add] at this
  rw [this, inner_sub]
/-- the inner nodes at a node and below -/
def blw (t : T) (f : Nat) : List Nat := match t.subs[f]? with
  | some u => inn (f + 1 - u.cnt) u
  | none => []
def szN (t : T) (f : Nat) : Nat := match t.subs[f]? with
  | some u => u.cnt
  | none => 0
theorem blw_leaf {t : T} {f : Nat} {w : Str} (h : t.subs[f]? = some (.leaf w)) : blw t f = [] := by unfold blw; rw [h]; rfl
theorem kids_at {t l r : T} {f : Nat} (h : t.subs[f]? = some (.node l r)) : chA t f = f - 1 - r.cnt ∧ chB t f = f - 1 ∧ t.subs[f - 1 - r.cnt]? = some l ∧ t.subs[f - 1]? = some r ∧ l.cnt + r.cnt + 1 ≤ f + 1 := by
  have e0 := at_node t 0 f l r h
  rw [Nat.zero_add] at e0
  have e : t.nodes.getD f .non = .tup [natD (f - 1 - r.cnt), natD (f - 1)] := by
    rw [List.getD_eq_getElem?_getD]
    show ((T.nodesFrom 0 t)[f]?).getD D.non = _
    rw [e0]; rfl
  have ea : chA t f = f - 1 - r.cnt := by unfold chA; rw [e]; simp [natD]
  have eb : chB t f = f - 1 := by unfold chB; rw [e]; simp [natD]
  obtain ⟨_, k2, k3, _, _⟩ := sub_kids h
  rw [ea] at k2
  rw [eb] at k3
  have := T.sub_cnt t f _ h
  exact ⟨ea, eb, k2, k3, this⟩
theorem blw_node {t l r : T} {f : Nat} (h : t.subs[f]? = some (.node l r)) : (blw t f).Perm (f :: (blw t (chA t f) ++ blw t (chB t f))) ∧ szN t f = szN t (chA t f) + szN t (chB t f) + 1 := by
  obtain ⟨ea, eb, k2, k3, k4⟩ := kids_at h
  have pl := l.cnt_pos
  have pr := r.cnt_pos
  rw [ea, eb]
  constructor
  · unfold blw
    rw [h, k2, k3]
    simp only [inn, T.cnt]
    rw [show f + 1 - (l.cnt + r.cnt + 1) + l.cnt + r.cnt = f by omega, show f + 1 - (l.cnt + r.cnt + 1) = f - 1 - r.cnt + 1 - l.cnt by omega, show f - 1 - r.cnt + 1 - l.cnt + l.cnt = f - 1 + 1 - r.cnt by omega]
    exact List.perm_append_comm
  · unfold szN
    rw [h, k2, k3]
    simp only [T.cnt]
/-- the state of the search: F yet to be looked at, O in order -/
structure Srch (t : T) (F O : List Nat) : Prop where
  lt : ∀ f ∈ F, f < t.cnt
  pm : (O ++ F.flatMap (blw t)).Perm t.innerIx
  od : ∀ (i x : Nat), O[i]? = some x → ∀ c, (c = chA t x ∨ c = chB t x) → c ∈ t.innerIx → c ∈ F ∨ ∃ j, i < j ∧ O[j]? = some c
theorem Srch.start (t : T) : Srch t [t.cnt - 1] [] := by
  have := t.cnt_pos
  refine ⟨fun f hf => by simp at hf; omega, ?_, fun i x h => by simp at h⟩
  simp only [List.nil_append, List.flatMap_cons, List.flatMap_nil, List.append_nil]
  unfold blw
  rw [t.sub_top]
  show (inn (t.cnt - 1 + 1 - t.cnt) t).Perm t.innerIx
  rw [show t.cnt - 1 + 1 - t.cnt = 0 by omega]
  exact inn_perm t
theorem Srch.leaf {t : T} {F O : List Nat} {i f : Nat} {w : Str} (I : Srch t F O) (hf : F[i]? = some f) (h : t.subs[f]? = some (.leaf w)) : Srch t (F.eraseIdx i) O ∧ ((F.eraseIdx i).map (szN t)).sum < (F.map (szN t)).sum := by
  have p := perm_getElem hf
  refine ⟨⟨fun g hg => I.lt g (List.mem_of_mem_eraseIdx hg), ?_, fun i' x hx c hc hi => ?_⟩, ?_⟩
  · refine List.Perm.trans ?_ I.pm
    refine List.Perm.append_left _ ?_
    refine List.Perm.trans ?_ (p.flatMap_right (blw t)).symm
    rw [List.flatMap_cons, blw_leaf h]; exact .refl _
  · rcases I.od i' x hx c hc hi with q | q
    · rcases List.mem_cons.mp (p.mem_iff.mp q) with rfl | q
      · obtain ⟨l, r, z⟩ := inner_sub.mp hi
        rw [h] at z; cases z
      · exact .inl q
    · exact .inr q
  · rw [(p.map (szN t)).sum_nat, List.map_cons, List.sum_cons]
    have : szN t f = 1 := by unfold szN; rw [h]; rfl
    omega
theorem Srch.node {t l r : T} {F O : List Nat} {i f : Nat} (I : Srch t F O) (hf : F[i]? = some f) (h : t.subs[f]? = some (.node l r)) : Srch t (F.eraseIdx i ++ [chA t f, chB t f]) (O ++ [f]) ∧ ((F.eraseIdx i ++ [chA t f, chB t f]).map (szN t)).sum < (F.map (szN t)).sum := by
  have p := perm_getElem hf
  obtain ⟨ea, eb, k2, k3, k4⟩ := kids_at h
  obtain ⟨b1, b2⟩ := blw_node h
  have hfl : f < t.cnt := I.lt f (List.mem_of_getElem? hf)
  have pr := r.cnt_pos
  have pl := l.cnt_pos
  refine ⟨⟨fun g hg => ?_, ?_, fun i' x hx c hc hi => ?_⟩, ?_⟩
  · rcases List.mem_append.mp hg with hg | hg
    · exact I.lt g (List.mem_of_mem_eraseIdx hg)
    · simp only [List.mem_cons, List.not_mem_nil, or_false] at hg
      rcases hg with rfl | rfl
      · rw [ea]; omega
      · rw [eb]; omega
  · refine List.Perm.trans ?_ I.pm
    rw [List.append_assoc]
    refine List.Perm.append_left _ ?_
    refine List.Perm.trans ?_ (p.flatMap_right (blw t)).symm
    rw [List.flatMap_cons, List.flatMap_append]
    simp only [List.flatMap_cons, List.flatMap_nil, List.append_nil, List.cons_append, List.nil_append]
    refine List.Perm.trans ?_ (List.Perm.append_right _ b1.symm)
    rw [List.cons_append]
    exact List.Perm.cons _ List.perm_append_comm
  · by_cases q : i' < O.length
    · rw [List.getElem?_append_left q] at hx
      rcases I.od i' x hx c hc hi with z | ⟨j, z1, z2⟩
      · rcases List.mem_cons.mp (p.mem_iff.mp z) with rfl | z
        · exact .inr ⟨O.length, q, by simp⟩
        · exact .inl (List.mem_append_left _ z)
      · exact .inr ⟨j, z1, by rw [List.getElem?_append_left (List.getElem?_eq_some_iff.mp z2).1]; exact z2⟩
    · rw [List.getElem?_append_right (by omega)] at hx
      have : i' - O.length = 0 := by
        cases z : i' - O.length with
        | zero => rfl
        | succ m => rw [z] at hx; simp at hx
      rw [this] at hx
      cases hx
      refine .inl (List.mem_append_right _ ?_)
      rcases hc with rfl | rfl <;> simp
  · rw [(p.map (szN t)).sum_nat, List.map_append, List.sum_append]
    simp only [List.map_cons, List.map_nil, List.sum_cons, List.sum_nil]
    omega
/-- the order is of all inner nodes, parents first -/
theorem Srch.done {t : T} {O : List Nat} (I : Srch t [] O) : O.Perm t.innerIx ∧ O.Nodup ∧ ∀ (i x : Nat), O[i]? = some x → ∀ c, (c = chA t x ∨ c = chB t x) → c ∉ O.take (i + 1) := by
  have hp : O.Perm t.innerIx := by simpa using I.pm
  have nd : O.Nodup := hp.nodup_iff.mpr (inner_nd t)
  refine ⟨hp, nd, fun i x hx c hc hm => ?_⟩
  have hci : c ∈ t.innerIx := hp.mem_iff.mp (List.mem_of_mem_take hm)
  rcases I.od i x hx c hc hci with q | ⟨j, q1, q2⟩
  · cases q
  · obtain ⟨k, hk⟩ := List.mem_iff_getElem?.mp hm
    have hk1 : k < i + 1 := by have := (List.getElem?_eq_some_iff.mp hk).1; rw [List.length_take] at this; omega
    rw [List.getElem?_take_of_lt hk1] at hk
    obtain ⟨a1, a2⟩ := List.getElem?_eq_some_iff.mp q2
    obtain ⟨c1, c2⟩ := List.getElem?_eq_some_iff.mp hk
    have e1 := nd.idxOf_getElem j a1
    have e2 := nd.idxOf_getElem k c1
    rw [a2] at e1
    rw [c2] at e2
    omega
end M
namespace Q
open PySem hiding Env
open L2 M
end Q
namespace Q
open PySem hiding Env
open L2 M
end Q
namespace M
open PySem PySem.Spec L2
open PyProof.Rows hiding St
end M
namespace Q
open PySem hiding Env
open L2 M
end Q
namespace M
open PySem PySem.Spec L2
open PyProof.Rows hiding St
theorem ok_ofString (s : String) : strOkB (Str.ofString s) = true := by
  rw [Str.ofString_eq_toList]
  unfold strOkB
  rw [Array.all_eq_true]
  intro i hi
  simp only [List.getElem_toArray, List.getElem_map, decide_eq_true_eq]
  have hv := (s.toList[i]'(by simpa using hi)).valid
  generalize s.toList[i]'(by simpa using hi) = ch at hv
  have : ch.toNat = ch.val.toNat := rfl
  rw [this]
  rcases hv with h | ⟨_, h⟩ <;> omega
theorem ok_app {x y : Str} (hx : strOkB x = true) (hy : strOkB y = true) : strOkB (x ++ y) = true := by
  unfold strOkB at *
  rw [← Array.all_toList] at *
  rw [cps_app, List.all_append, hx, hy]; rfl
end M
namespace Q
open PySem hiding Env
open L2 M
end Q
namespace M
open PySem PySem.Spec L2
open PyProof.Rows hiding St
mutual
def wL : D → Nat
  | .int i => if i.natAbs < 1024 then 11 else 1921
  | .non => 4
  | .bl _ => 5
  | .str w => (reprText w).length
  | .tup ds => 4 + wLs ds
  | .lst ds => 4 + wLs ds
  | _ => 0
def wLs : List D → Nat
  | [] => 0
  | d :: ds => wL d + 2 + wLs ds
end
def Shw : Nat → D → Prop
  | _, .int i => i.natAbs < 2 ^ 1919
  | _, .non => True
  | _, .bl _ => True
  | _, .str w => strOkB w = true ∧ strOkB (reprText w) = true
  | k + 1, .tup ds => ∀ d ∈ ds, Shw k d
  | k + 1, .lst ds => ∀ d ∈ ds, Shw k d
  | _, _ => False
structure Tx (k n : Nat) (p : PyData) : Prop where
  sh : PyData.showable p = true
  lay : PyData.canLay0 p = true
  dep : PyData.depth p ≤ k
  len : (PyData.shown p).length ≤ n
  ok : strOkB (PyData.shown p) = true
theorem ok_join : ∀ ts : List Str, (∀ t ∈ ts, strOkB t = true) → strOkB (Str.join ", " ts) = true
  | [], _ => by decide +kernel
  | [x], h => h x (by simp)
  | x :: y :: r, h => by
    show strOkB (x ++ ", " ++ Str.join ", " (y :: r)) = true
    exact ok_app (ok_app (h x (by simp)) (by decide +kernel)) (ok_join (y :: r) fun t ht => h t (by simp only [List.mem_cons] at ht ⊢; exact .inr ht))
def lnS (ts : List Str) : Nat := (ts.map fun t => t.length + 2).sum
theorem join_len : ∀ ts : List Str, (Str.join ", " ts).length ≤ lnS ts
  | [] => by show (Str.join ", " []).length ≤ 0; decide +kernel
  | [x] => by show x.length ≤ _; simp [lnS]
  | x :: y :: r => by
    show (x ++ ", " ++ Str.join ", " (y :: r)).length ≤ _
    have := join_len (y :: r)
    have k3 : (Str.ofString ", ").length = 2 := by decide +kernel
    rw [str_len_append, str_len_append]
    unfold lnS at *
    simp only [List.map_cons, List.sum_cons] at *
    omega
theorem tupleText_ok {ts : List Str} (h : ∀ t ∈ ts, strOkB t = true) : strOkB (tupleText ts) = true := by
  unfold tupleText
  refine ok_app (ok_app (by decide +kernel) (ok_join ts h)) ?_
  split <;> decide +kernel
theorem tupleText_len (ts : List Str) : (tupleText ts).length ≤ lnS ts + 3 := by
  unfold tupleText
  rw [str_len_append, str_len_append]
  have h1 := join_len ts
  have k1 : (Str.ofString "(").length = 1 := by decide +kernel
  have k2 : (Str.ofString (if (ts.length == 1) = true then ",)" else ")")).length ≤ 2 := by split <;> decide +kernel
  omega
theorem textFrom_ok : ∀ (ts : List Str) (k : Nat) (acc : Str), strOkB acc = true → (∀ t ∈ ts, strOkB t = true) → strOkB (textFrom k acc ts) = true ∧ (textFrom k acc ts).length ≤ acc.length + lnS ts
  | [], k, acc, h, _ => ⟨h, Nat.le_add_right _ _⟩
  | t :: r, k, acc, h, ht => by
    have o : strOkB (acc ++ (if k > 0 then ", " else "" : String) ++ t) = true := ok_app (ok_app h (by split <;> decide +kernel)) (ht t (by simp))
    obtain ⟨h1, h2⟩ := textFrom_ok r (k + 1) _ o fun x hx => ht x (by simp [hx])
    refine ⟨h1, Nat.le_trans h2 ?_⟩
    have k2 : (Str.ofString (if k > 0 then ", " else "")).length ≤ 2 := by split <;> decide +kernel
    rw [str_len_append, str_len_append]
    unfold lnS
    simp only [List.map_cons, List.sum_cons]
    omega
theorem listText_ok {ts : List Str} (h : ∀ t ∈ ts, strOkB t = true) : strOkB (listText ts) = true ∧ (listText ts).length ≤ lnS ts + 2 := by
  obtain ⟨h1, h2⟩ := textFrom_ok ts 0 "[" (by decide +kernel) h
  unfold listText
  have k1 : (Str.ofString "[").length = 1 := by decide +kernel
  have k2 : (Str.ofString "]").length = 1 := by decide +kernel
  exact ⟨ok_app h1 (by decide +kernel), by rw [str_len_append]; omega⟩
theorem int_ok (i : Int) : strOkB (Str.ofString (toString i)) = true := ok_ofString _
theorem int_len {i : Int} (h : i.natAbs < 2 ^ 1919) : i.natAbs.log2 < 1920 ∧ (Str.ofString (toString i)).length ≤ if i.natAbs < 1024 then 11 else 1921 := by
  have lg : ∀ (k : Nat), 0 < k → i.natAbs < 2 ^ k → i.natAbs.log2 < k := fun k hk hz => by
    by_cases h0 : i.natAbs = 0
    · rw [h0]; exact hk
    · exact (Nat.log2_lt h0).mpr hz
  have l := lg 1919 (by decide) h
  refine ⟨by omega, ?_⟩
  split
  · rename_i q
    rw [PySem.ofString_length]
    exact PySem.int_text_length_le (k := 10) (by decide) (lg 10 (by decide) q)
  · exact PyProof.Rows.int_text_len_1921 (by omega)
theorem shws_py {k : Nat} {ds : List D} (ih : ∀ d, Shw k d → ∃ p, d.py = some p ∧ Tx k (wL d) p) (h : ∀ d ∈ ds, Shw k d) :
    ∃ ps, D.pys ds = some ps ∧ PyData.showableAll ps = true ∧ PyData.canLayAll0 ps = true ∧ PyData.depthAll ps ≤ k ∧ lnS (PyData.shownAll ps) ≤ wLs ds ∧ ∀ t ∈ PyData.shownAll ps, strOkB t = true := by
  induction ds with
  | nil => exact ⟨[], rfl, by simp [PyData.showableAll], by simp [PyData.canLayAll0], by simp [PyData.depthAll], by simp [PyData.shownAll, lnS], by simp [PyData.shownAll]⟩
  | cons d ds ih2 =>
    obtain ⟨p, e1, e2⟩ := ih d (h d (by simp))
    obtain ⟨ps, f1, f2, f3, f4, f5, f6⟩ := ih2 fun x hx => h x (by simp [hx])
    refine ⟨p :: ps, by simp [D.pys, e1, f1], by simp [PyData.showableAll, e2.sh, f2], by simp [PyData.canLayAll0, e2.lay, f3], ?_, ?_, ?_⟩
    · have := e2.dep
      simp only [PyData.depthAll]; omega
    · have := e2.len
      simp only [PyData.shownAll, lnS, List.map_cons, List.sum_cons, wLs] at *
      omega
    · intro t ht
      simp only [PyData.shownAll, List.mem_cons] at ht
      rcases ht with rfl | ht
      · exact e2.ok
      · exact f6 t ht
theorem shw_py : ∀ (k : Nat) (d : D), Shw k d → ∃ p, d.py = some p ∧ Tx k (wL d) p
  | k, .int i, h => by
    have h : i.natAbs < 2 ^ 1919 := by cases k <;> exact h
    obtain ⟨h1, h2⟩ := int_len h
    exact ⟨.int i, rfl, ⟨by simp [PyData.showable, h1], by simp [PyData.canLay0], by simp [PyData.depth], by simp only [PyData.shown, wL]; exact h2, by simp only [PyData.shown]; exact int_ok i⟩⟩
  | k, .non, _ => ⟨.none, rfl, ⟨by simp [PyData.showable], by simp [PyData.canLay0], by simp [PyData.depth], by simp only [PyData.shown, wL]; decide +kernel, by simp only [PyData.shown]; decide +kernel⟩⟩
  | k, .bl b, _ => ⟨.bool b, rfl, ⟨by simp [PyData.showable], by simp [PyData.canLay0], by simp [PyData.depth], by simp only [PyData.shown, wL]; cases b <;> decide +kernel, by simp only [PyData.shown]; cases b <;> decide +kernel⟩⟩
  | k, .str w, h => by
    have h : strOkB w = true ∧ strOkB (reprText w) = true := by cases k <;> exact h
    have : PyData.strOk w = true := h.1
    exact ⟨.str w, rfl, ⟨by simp [PyData.showable], by simp [PyData.canLay0, this], by simp [PyData.depth], by simp only [PyData.shown, wL]; exact Nat.le_refl _, by simp only [PyData.shown]; exact h.2⟩⟩
  | k + 1, .tup ds, h => by
    obtain ⟨ps, f1, f2, f3, f4, f5, f6⟩ := shws_py (shw_py k) (h : ∀ d ∈ ds, Shw k d)
    refine ⟨.tuple ps, by simp [D.py, f1], ⟨by simp [PyData.showable, f2], by simp [PyData.canLay0, f3], by simp only [PyData.depth]; omega, ?_, ?_⟩⟩
    · have := tupleText_len (PyData.shownAll ps)
      simp only [PyData.shown, wL]; omega
    · simp only [PyData.shown]; exact tupleText_ok f6
  | k + 1, .lst ds, h => by
    obtain ⟨ps, f1, f2, f3, f4, f5, f6⟩ := shws_py (shw_py k) (h : ∀ d ∈ ds, Shw k d)
    obtain ⟨g1, g2⟩ := listText_ok f6
    refine ⟨.list ps, by simp [D.py, f1], ⟨by simp [PyData.showable, f2], by simp [PyData.canLay0, f3], by simp only [PyData.depth]; omega, ?_, ?_⟩⟩
    · simp only [PyData.shown, wL]; omega
    · simp only [PyData.shown]; exact g1
  | 0, .tup _, h => h.elim
  | 0, .lst _, h => h.elim
  | 0, .ty _, h | _ + 1, .ty _, h => h.elim
  | 0, .kl _, h | _ + 1, .kl _, h => h.elim
  | 0, .dct _ _, h | _ + 1, .dct _ _, h => h.elim
  | 0, .txt, h | _ + 1, .txt, h => h.elim
  | 0, .kt _, h | _ + 1, .kt _, h => h.elim
theorem repr_of {k : Nat} {d : D} (h : Shw k d) (hk : k ≤ 60) (hl : wL d ≤ 16777216) : ∃ x : Str, strOkB x = true ∧ ∀ S, biRepr [.v d] S = .ok (.v (.str x)) S := by
  obtain ⟨p, e, t⟩ := shw_py k d h
  refine ⟨PyData.shown p, t.ok, fun S => biRepr_v ?_⟩
  unfold reprD
  rw [e, Option.bind_some, if_pos ⟨t.sh, t.lay, by have := t.dep; omega, by have := t.len; exact sz_of (by omega)⟩]
end M
namespace Q
open PySem hiding Env
open L2 M
end Q
namespace M
open PySem PySem.Spec L2
open PyProof.Rows hiding St
/-- the great trees of some words, in order of their texts -/
def gtN (ws : List Str) : List T := byN (trN 70 ws) ((trN 70 ws).map T.text)
theorem gtN_mem {ws : List Str} {t : T} (h : t ∈ gtN ws) : t ∈ trN 70 ws := by
  unfold gtN byN at h
  obtain ⟨p, hp, rfl⟩ := List.mem_map.mp h
  exact (List.of_mem_zip ((List.mergeSort_perm _ _).mem_iff.mp hp)).1
end M
namespace Q
open PySem hiding Env
open L2 M
section
variable {S : Store}
theorem keysM_text {F : List Str → Store → Out R} : ∀ (L : List T) (ts : List Str) (S : Store), (∀ t ∈ L, ∀ S, R_text_of 70 [.v t.d] S = .ok (.v (.str t.text)) S) → keysM (R_text_of 70) (L.map fun t => R.v t.d) ts S F = F (ts ++ L.map T.text) S
  | [], ts, S, _ => by simp [keysM]
  | t :: L, ts, S, h => by
    rw [List.map_cons, keysM, h t (by simp)]
    show keysM (R_text_of 70) (L.map fun t => R.v t.d) (ts ++ [t.text]) S F = _
    rw [keysM_text L _ S fun x hx => h x (by simp [hx]), List.map_cons, List.append_assoc]; rfl
theorem great_trees_spec {ws : List Str} (h1 : 1 ≤ ws.length) (h5 : ws.length ≤ 5) (hg : ∀ x ∈ ws, GoodW x) : M_great_trees_2 [.v (.tup (ws.map .str))] S = .ok (.v (.tup ((gtN ws).map T.d))) S := by
  have tr := fun S => trees_spec 70 ws S (by omega) h1 h5 hg
  have tl := trN_len 70 ws (by omega) h1 h5
  have fe : FT ws.length ≤ 105 := by
    match ws.length, h5 with
    | 0, _ => decide
    | 1, _ => decide
    | 2, _ => decide
    | 3, _ => decide
    | 4, _ => decide
    | 5, _ => decide
  have tx : ∀ t ∈ trN 70 ws, ∀ S, R_text_of 70 [.v t.d] S = .ok (.v (.str t.text)) S := fun t ht S => by
    have f := fine_tr hg h5 ht
    exact text_of_spec 70 t S (by have := f.dep; omega) f.ok (by have := f.len; omega)
  have e1 : ((trN 70 ws).map T.d).map R.v = (trN 70 ws).map fun t => R.v t.d := by rw [List.map_map]; rfl
  have e2 : byN ((trN 70 ws).map fun t => R.v t.d) ((trN 70 ws).map T.text) = ((gtN ws).map T.d).map .v := by
    unfold gtN byN
    have ez : ((trN 70 ws).map fun t => R.v t.d).zip ((trN 70 ws).map T.text) = ((trN 70 ws).zip ((trN 70 ws).map T.text)).map fun q => (R.v q.1.d, q.2) := by
      refine List.ext_getElem (by simp) fun i _ _ => ?_
      simp
    rw [ez, byN_map (fun t : T => R.v t.d), List.map_map, List.map_map]
    rfl
  have hsz : ((trN 70 ws).map fun t => R.v t.d).length ≤ 1000 := by rw [List.length_map]; omega
  refine eq_wE ?_
  have pn := popV_new S ((gtN ws).map T.d)
  have so : ∀ S, lstOf S (.v (.lst ((trN 70 ws).map T.d))) = some ((trN 70 ws).map fun t => R.v t.d) := fun S => by rw [← e1]; rfl
  simp_arith [M_great_trees_2, m_great_trees_2, mSortKN_eq, tr, so, hsz, keysM_text _ _ _ tx, List.nil_append, e2, pn, biTuple_lst]
end
end Q
namespace M
open PySem PySem.Spec L2
open PyProof.Rows hiding St
end M
namespace M
open PySem PySem.Spec L2
open PyProof.Rows hiding St
theorem step_nodup {L : List Ct} {x : Str} (h : L.Nodup) (hx : ∀ q ∈ L, x ∉ q.1 ∧ x ∉ q.2) : (stepC L x).Nodup := by
  unfold stepC
  refine List.pairwise_flatMap.mpr ⟨fun q hq => ?_, ?_⟩
  · refine List.pairwise_cons.mpr ⟨fun y hy => ?_, List.pairwise_singleton _ _⟩
    simp only [List.mem_cons, List.not_mem_nil, or_false] at hy
    subst hy
    intro z
    injection z with z1 z2
    have : x ∈ q.1 ++ [x] := by simp
    rw [z1] at this
    exact (hx q hq).1 this
  · refine List.Pairwise.imp_of_mem (fun {a b} ha hb n => ?_) h
    intro u hu v hv
    simp only [List.mem_cons, List.not_mem_nil, or_false] at hu hv
    rcases hu with rfl | rfl <;> rcases hv with rfl | rfl
    · intro z
      injection z with z1 z2
      exact n (Prod.ext (List.append_cancel_right z1) z2)
    · intro z
      injection z with z1 z2
      have : x ∈ a.1 ++ [x] := by simp
      rw [z1] at this
      exact (hx b hb).1 this
    · intro z
      injection z with z1 z2
      have : x ∈ b.1 ++ [x] := by simp
      rw [← z1] at this
      exact (hx a ha).1 this
    · intro z
      injection z with z1 z2
      exact n (Prod.ext z1 (List.append_cancel_right z2))
theorem fold_nodup : ∀ (ws : List Str) (L : List Ct), L.Nodup → ws.Nodup → (∀ x ∈ ws, ∀ q ∈ L, x ∉ q.1 ∧ x ∉ q.2) → (ws.foldl stepC L).Nodup
  | [], L, h, _, _ => h
  | w :: ws, L, h, nd, hx => by
    rw [List.foldl_cons]
    have nd' := List.nodup_cons.mp nd
    refine fold_nodup ws _ (step_nodup h (hx w (by simp))) nd'.2 fun x hxm q hq => ?_
    obtain ⟨p, hp, hq⟩ := List.mem_flatMap.mp hq
    have h1 := hx x (by simp [hxm]) p hp
    have ne : x ≠ w := fun z => nd'.1 (z ▸ hxm)
    simp only [List.mem_cons, List.not_mem_nil, or_false] at hq
    rcases hq with rfl | rfl
    · exact ⟨fun z => by rcases List.mem_append.mp z with z | z; exact h1.1 z; simp at z; exact ne z, h1.2⟩
    · exact ⟨h1.1, fun z => by rcases List.mem_append.mp z with z | z; exact h1.2 z; simp at z; exact ne z⟩
theorem fold_sub : ∀ (ws : List Str) (L : List Ct) (q : Ct), q ∈ ws.foldl stepC L → ∃ p ∈ L, ∃ a b : List Str, q = (p.1 ++ a, p.2 ++ b) ∧ a.Sublist ws ∧ b.Sublist ws
  | [], L, q, h => ⟨q, h, [], [], by simp, .refl _, .refl _⟩
  | w :: ws, L, q, h => by
    rw [List.foldl_cons] at h
    obtain ⟨p, hp, a, b, e, s1, s2⟩ := fold_sub ws _ q h
    obtain ⟨p', hp', hq⟩ := List.mem_flatMap.mp hp
    simp only [List.mem_cons, List.not_mem_nil, or_false] at hq
    rcases hq with rfl | rfl
    · exact ⟨p', hp', w :: a, b, by rw [e]; simp, s1.cons_cons w, s2.cons w⟩
    · exact ⟨p', hp', a, w :: b, by rw [e]; simp, s1.cons w, s2.cons_cons w⟩
theorem cuts_nodup {ws : List Str} (h : ws.Nodup) : (cutsN ws).Nodup := by
  cases ws with
  | nil => exact .nil
  | cons w ws =>
    have h' := List.nodup_cons.mp h
    refine List.Pairwise.filter _ (fold_nodup ws _ (by simp) h'.2 fun x hx q hq => ?_)
    simp at hq
    subst hq
    refine ⟨?_, by simp⟩
    intro z
    simp at z
    subst z
    exact h'.1 hx
theorem cuts_sub {w : Str} {ws : List Str} {q : Ct} (h : q ∈ cutsN (w :: ws)) : w ∈ q.1 ∧ q.1.Sublist (w :: ws) ∧ q.2.Sublist (w :: ws) := by
  obtain ⟨p, hp, a, b, e, s1, s2⟩ := fold_sub ws _ q (List.mem_filter.mp h).1
  simp at hp
  subst hp
  subst e
  exact ⟨by simp, by simpa using s1, by simpa using s2.cons w⟩
theorem sub_eq : ∀ {l a b : List Str}, a.Sublist l → b.Sublist l → l.Nodup → (∀ x, x ∈ a ↔ x ∈ b) → a = b
  | [], a, b, s1, s2, _, _ => by rw [List.sublist_nil.mp s1, List.sublist_nil.mp s2]
  | x :: l, a, b, s1, s2, nd, h => by
    have nd' := List.nodup_cons.mp nd
    cases s1 with
    | cons _ s1 =>
      cases s2 with
      | cons _ s2 => exact sub_eq s1 s2 nd'.2 h
      | cons_cons _ s2 => exact absurd (s1.mem ((h x).mpr (by simp))) nd'.1
    | cons_cons _ s1 =>
      cases s2 with
      | cons _ s2 => exact absurd (s2.mem ((h x).mp (by simp))) nd'.1
        | cons_cons _ s2 =>
        rename_i a' b'
        have n1 : x ∉ a' := fun z => nd'.1 (s1.mem z)
        have n2 : x ∉ b' := fun z => nd'.1 (s2.mem z)
        have e0 : a' = b' := sub_eq s1 s2 nd'.2 fun y => by
          have := h y
          by_cases e : y = x
          · subst e; exact ⟨fun z => absurd z n1, fun z => absurd z n2⟩
          · simpa [e] using this
        rw [e0]
theorem trN_plain : ∀ (k : Nat) (ws : List Str) (t : T), t ∈ trN k ws → plainN t = t
  | 0, ws, t, h => by cases h
  | k + 1, ws, t, h => by
    unfold trN at h
    by_cases q : ws.length = 1
    · rw [if_pos q] at h
      simp at h
      subst h
      rfl
    · rw [if_neg q] at h
      obtain ⟨x, hx, h⟩ := List.mem_flatMap.mp h
      obtain ⟨l, hl, h⟩ := List.mem_flatMap.mp h
      obtain ⟨r, hr, rfl⟩ := List.mem_map.mp h
      exact plain_idem _
theorem two_same {l r l' r' : T} {w : Str} (h : plainN (.node l r) = plainN (.node l' r')) (p1 : plainN l = l) (p2 : plainN r = r) (p3 : plainN l' = l') (p4 : plainN r' = r') (h1 : w ∈ l.ls) (h2 : w ∉ r.ls) (h3 : w ∈ l'.ls) (h4 : w ∉ r'.ls) : l = l' ∧ r = r' := by
  rw [plainN_node, plainN_node, p1, p2, p3, p4] at h
  split at h <;> split at h <;> injection h with a b
  · exact ⟨b, a⟩
  · subst a; exact absurd h3 h2
  · subst a; exact absurd h1 h4
  · exact ⟨a, b⟩
theorem trN_nodup : ∀ (k : Nat) (ws : List Str), ws.Nodup → (trN k ws).Nodup
  | 0, ws, _ => .nil
  | k + 1, ws, nd => by
    unfold trN
    by_cases q : ws.length = 1
    · rw [if_pos q]; simp
    · rw [if_neg q]
      cases ws with
      | nil => exact .nil
      | cons w ws =>
        have key : ∀ q ∈ cutsN (w :: ws), ∀ q' ∈ cutsN (w :: ws), ∀ l ∈ trN k q.1, ∀ r ∈ trN k q.2, ∀ l' ∈ trN k q'.1, ∀ r' ∈ trN k q'.2, plainN (.node l r) = plainN (.node l' r') → l = l' ∧ r = r' := by
          intro q hq q' hq' l hl r hr l' hl' r' hr' e
          have dis : ∀ q ∈ cutsN (w :: ws), w ∉ q.2 := fun q hq z => by
            obtain ⟨_, _, p⟩ := cutsN_ok hq
            have := (List.nodup_append.mp (p.nodup_iff.mpr nd)).2.2
            exact this w (cuts_sub hq).1 w z rfl
          exact two_same e (trN_plain k _ _ hl) (trN_plain k _ _ hr) (trN_plain k _ _ hl') (trN_plain k _ _ hr') ((trN_ls k _ _ hl).mem_iff.mpr (cuts_sub hq).1) (fun z => dis q hq ((trN_ls k _ _ hr).mem_iff.mp z)) ((trN_ls k _ _ hl').mem_iff.mpr (cuts_sub hq').1) (fun z => dis q' hq' ((trN_ls k _ _ hr').mem_iff.mp z))
        refine List.pairwise_flatMap.mpr ⟨fun q hq => ?_, ?_⟩
        · have sub := cuts_sub hq
          refine List.pairwise_flatMap.mpr ⟨fun l hl => ?_, ?_⟩
          · refine List.pairwise_map.mpr (List.Pairwise.imp_of_mem (fun {a b} ha hb n z => ?_) (trN_nodup k q.2 (nd.sublist sub.2.2)))
            exact n (key q hq q hq l hl a ha l hl b hb z).2
          · refine List.Pairwise.imp_of_mem (fun {a b} ha hb n => ?_) (trN_nodup k q.1 (nd.sublist sub.2.1))
            intro x hx y hy z
            obtain ⟨r, hr, rfl⟩ := List.mem_map.mp hx
            obtain ⟨r', hr', rfl⟩ := List.mem_map.mp hy
            exact n (key q hq q hq a ha r hr b hb r' hr' z).1
        · refine List.Pairwise.imp_of_mem (fun {a b} ha hb n => ?_) (cuts_nodup nd)
          intro x hx y hy z
          obtain ⟨l, hl, hx⟩ := List.mem_flatMap.mp hx
          obtain ⟨r, hr, rfl⟩ := List.mem_map.mp hx
          obtain ⟨l', hl', hy⟩ := List.mem_flatMap.mp hy
          obtain ⟨r', hr', rfl⟩ := List.mem_map.mp hy
          obtain ⟨e1, e2⟩ := key a ha b hb l hl r hr l' hl' r' hr' z
          subst e1
          subst e2
          have sa := cuts_sub ha
          have sb := cuts_sub hb
          refine n (Prod.ext (sub_eq sa.2.1 sb.2.1 nd fun v => ?_) (sub_eq sa.2.2 sb.2.2 nd fun v => ?_))
          · rw [← (trN_ls k _ _ hl).mem_iff, (trN_ls k _ _ hl').mem_iff]
          · rw [← (trN_ls k _ _ hr).mem_iff, (trN_ls k _ _ hr').mem_iff]
def withN : T → Str → List T
  | .leaf v, w => [.node (.leaf v) (.leaf w)]
  | .node l r, w => [.node (.node l r) (.leaf w)] ++ (withN l w).map (fun x => .node x r) ++ (withN r w).map fun y => .node l y
theorem withN_len : ∀ (t : T) (w : Str), (withN t w).length = 2 * t.ls.length - 1
  | .leaf v, w => rfl
  | .node l r, w => by
    have h1 := withN_len l w; have h2 := withN_len r w
    have := l.ls_pos; have := r.ls_pos
    simp only [withN, List.length_append, List.length_map, List.length_cons, List.length_nil, T.ls]; omega
theorem withN_ls : ∀ (t : T) (w : Str) (s : T), s ∈ withN t w → s.ls.Perm (t.ls ++ [w]) ∧ s.depth ≤ t.depth + 1
  | .leaf v, w, s, h => by
    simp only [withN, List.mem_cons, List.not_mem_nil, or_false] at h
    subst h
    exact ⟨.refl _, by simp [T.depth]⟩
  | .node l r, w, s, h => by
    simp only [withN, List.mem_append, List.mem_cons, List.not_mem_nil, or_false, List.mem_map] at h
    rcases h with (rfl | ⟨x, hx, rfl⟩) | ⟨y, hy, rfl⟩
    · exact ⟨.refl _, by simp only [T.depth]; omega⟩
    · obtain ⟨h1, h2⟩ := withN_ls l w x hx
      refine ⟨?_, by simp only [T.depth]; omega⟩
      simp only [T.ls]
      refine (h1.append_right r.ls).trans ?_
      rw [List.append_assoc, List.append_assoc]
      exact List.perm_append_comm.append_left l.ls
    · obtain ⟨h1, h2⟩ := withN_ls r w y hy
      refine ⟨?_, by simp only [T.depth]; omega⟩
      simp only [T.ls, List.append_assoc]
      exact h1.append_left l.ls
/-- put in and then made plain: a plain tree serves as well -/
theorem with_plain {w : Str} (hw : GoodW w) : ∀ {t s : T}, Q.Fine t → (∀ x ∈ withN t w, Q.Fine x) → s ∈ withN t w → ∃ s' ∈ withN (plainN t) w, plainN s' = plainN s
  | .leaf v, s, _, _, h => ⟨s, h, rfl⟩
  | .node l r, s, f, fa, h => by
    have fw : Q.Fine (.leaf w) := ⟨fun v hv => by simp [T.ls] at hv; subst hv; exact hw, by simp [T.depth], by simp [T.ls]⟩
    have fl : ∀ x ∈ withN l w, Q.Fine (.node x r) := fun x hx => fa _ (by simp only [withN, List.mem_append, List.mem_map]; exact .inl (.inr ⟨x, hx, rfl⟩))
    have fr : ∀ x ∈ withN r w, Q.Fine (.node l x) := fun x hx => fa _ (by simp only [withN, List.mem_append, List.mem_map]; exact .inr ⟨x, hx, rfl⟩)
    have pn : ∀ a b : T, plainN (.node a b) = plainN (.node (plainN a) (plainN b)) := fun a b => by rw [plainN_node, plainN_node, plain_idem, plain_idem]
    simp only [withN, List.mem_append, List.mem_cons, List.not_mem_nil, or_false, List.mem_map] at h
    rcases h with (rfl | ⟨x, hx, rfl⟩) | ⟨y, hy, rfl⟩
    · refine ⟨.node (plainN (.node l r)) (.leaf w), ?_, ?_⟩
      · cases plainN (.node l r) <;> simp [withN]
      · rw [pn, plain_idem, ← pn]
    · obtain ⟨x', hx', e⟩ := with_plain hw f.l (fun x hx => (fl x hx).l) hx
      rw [plainN_node l r]
      split
      · refine ⟨.node (plainN r) x', by simp only [withN, List.mem_append, List.mem_map]; exact .inr ⟨x', hx', rfl⟩, ?_⟩
        rw [pn, plain_idem, e, ← pn, Q.plain_swap (fl x hx)]
      · refine ⟨.node x' (plainN r), by simp only [withN, List.mem_append, List.mem_map]; exact .inl (.inr ⟨x', hx', rfl⟩), ?_⟩
        rw [pn, plain_idem, e, ← pn]
    · obtain ⟨x', hx', e⟩ := with_plain hw f.r (fun x hx => (fr x hx).r) hy
      rw [plainN_node l r]
      split
      · refine ⟨.node x' (plainN l), by simp only [withN, List.mem_append, List.mem_map]; exact .inl (.inr ⟨x', hx', rfl⟩), ?_⟩
        rw [pn, plain_idem, e, ← pn, Q.plain_swap (fr y hy)]
      · refine ⟨.node (plainN l) x', by simp only [withN, List.mem_append, List.mem_map]; exact .inr ⟨x', hx', rfl⟩, ?_⟩
        rw [pn, plain_idem, e, ← pn]
/-- each tree with a leaf w, but the leaf alone, comes of one without it -/
theorem with_from {w : Str} : ∀ {t : T}, Q.Fine t → w ∈ t.ls → t ≠ .leaf w → ∃ t' : T, t.ls.Perm (t'.ls ++ [w]) ∧ t'.depth ≤ t.depth ∧ ∃ s ∈ withN t' w, plainN s = plainN t
  | .leaf v, _, h, ne => by
    simp [T.ls] at h
    subst h
    exact absurd rfl ne
  | .node l r, f, h, _ => by
    simp only [T.ls, List.mem_append] at h
    by_cases hl : w ∈ l.ls
    · by_cases el : l = .leaf w
      · subst el
        refine ⟨r, ?_, by simp only [T.depth]; omega, .node r (.leaf w), ?_, Q.plain_swap f⟩
        · simp only [T.ls]; exact List.perm_append_comm
        · cases r <;> simp [withN]
      · obtain ⟨t', p, d, s, hs, e⟩ := with_from f.l hl el
        refine ⟨.node t' r, ?_, by simp only [T.depth]; omega, .node s r, ?_, ?_⟩
        · simp only [T.ls]
          refine (p.append_right r.ls).trans ?_
          rw [List.append_assoc, List.append_assoc]
          exact List.perm_append_comm.append_left _
        · simp only [withN, List.mem_append, List.mem_map]
          exact .inl (.inr ⟨s, hs, rfl⟩)
        · rw [plainN_node, plainN_node, e]
    · have hr := h.resolve_left hl
      by_cases er : r = .leaf w
      · subst er
        refine ⟨l, .refl _, by simp only [T.depth]; omega, .node l (.leaf w), ?_, rfl⟩
        cases l <;> simp [withN]
      · obtain ⟨t', p, d, s, hs, e⟩ := with_from f.r hr er
        refine ⟨.node l t', ?_, by simp only [T.depth]; omega, .node l s, ?_, ?_⟩
        · simp only [T.ls, List.append_assoc]
          exact p.append_left _
        · simp only [withN, List.mem_append, List.mem_map]
          exact .inr ⟨s, hs, rfl⟩
        · rw [plainN_node, plainN_node, e]
def stepW (L : List T) (w : Str) : List T := L.flatMap fun t => (withN t w).map plainN
def dueL : List Str → List T
  | [] => []
  | w :: ws => ws.foldl stepW [.leaf w]
/-- all plain trees with these leaves, each leaf good, and as many -/
structure AllP (ws : List Str) (L : List T) : Prop where
  ls : ∀ t ∈ L, t.ls.Perm ws
  pl : ∀ t ∈ L, plainN t = t
  all : ∀ t : T, plainN t = t → t.ls.Perm ws → t ∈ L
theorem ls_fine {ws : List Str} (hg : ∀ x ∈ ws, GoodW x) (hl : ws.length ≤ 60) {t : T} (h : t.ls.Perm ws) : Q.Fine t := by
  have d := t.depth_lt
  have := h.length_eq
  exact ⟨fun w hw => hg w (h.mem_iff.mp hw), by omega, by omega⟩
theorem stepW_all {ws : List Str} {L : List T} {w : Str} (hg : ∀ x ∈ ws, GoodW x) (hw : GoodW w) (hl : ws.length < 60) (h1 : 1 ≤ ws.length) (h : AllP ws L) : AllP (ws ++ [w]) (stepW L w) := by
  have hg' : ∀ x ∈ ws ++ [w], GoodW x := fun x hx => by
    rcases List.mem_append.mp hx with z | z
    · exact hg x z
    · simp at z; subst z; exact hw
  refine ⟨fun t ht => ?_, fun t ht => ?_, fun t hp ht => ?_⟩
  · obtain ⟨u, hu, ht⟩ := List.mem_flatMap.mp ht
    obtain ⟨s, hs, rfl⟩ := List.mem_map.mp ht
    exact (plain_ls s).trans ((withN_ls u w s hs).1.trans ((h.ls u hu).append_right [w]))
  · obtain ⟨u, hu, ht⟩ := List.mem_flatMap.mp ht
    obtain ⟨s, hs, rfl⟩ := List.mem_map.mp ht
    exact plain_idem s
  · have ft : Q.Fine t := ls_fine hg' (by rw [List.length_append, List.length_cons, List.length_nil]; omega) ht
    have hwt : w ∈ t.ls := ht.mem_iff.mpr (by simp)
    have nl : t ≠ .leaf w := fun z => by
      have := ht.length_eq
      rw [z, List.length_append] at this
      simp only [T.ls, List.length_cons, List.length_nil] at this
      omega
    obtain ⟨t', p, d, s, hs, e⟩ := with_from ft hwt nl
    have p' : t'.ls.Perm ws := (List.perm_append_right_iff [w]).mp (p.symm.trans ht)
    have ft' : Q.Fine t' := ls_fine hg (by omega) p'
    have fa : ∀ x ∈ withN t' w, Q.Fine x := fun x hx => ls_fine hg' (by simp; omega) ((withN_ls t' w x hx).1.trans (p'.append_right [w]))
    obtain ⟨s', hs', e'⟩ := with_plain hw ft' fa hs
    refine List.mem_flatMap.mpr ⟨plainN t', h.all _ (plain_idem t') ((plain_ls t').trans p'), List.mem_map.mpr ⟨s', hs', ?_⟩⟩
    rw [e', e, hp]
theorem foldW_all : ∀ (us ws : List Str) (L : List T), (∀ x ∈ ws ++ us, GoodW x) → (ws ++ us).length < 60 → 1 ≤ ws.length → AllP ws L → AllP (ws ++ us) (us.foldl stepW L)
  | [], ws, L, _, _, _, h => by rw [List.append_nil]; exact h
  | u :: us, ws, L, hg, hl, h1, h => by
    rw [List.foldl_cons]
    have e : ws ++ u :: us = (ws ++ [u]) ++ us := by simp
    rw [e] at hg hl ⊢
    refine foldW_all us (ws ++ [u]) _ hg hl (by simp) (stepW_all (fun x hx => hg x (by simp [hx])) (hg u (by simp)) (by simp at hl; omega) h1 h)
theorem dueL_all {ws : List Str} (hg : ∀ x ∈ ws, GoodW x) (hl : ws.length < 60) (h1 : 1 ≤ ws.length) : AllP ws (dueL ws) := by
  cases ws with
  | nil => simp at h1
  | cons w ws =>
    refine foldW_all ws [w] [.leaf w] hg hl (by simp) ⟨fun t ht => ?_, fun t ht => ?_, fun t hp ht => ?_⟩
    · simp at ht; subst ht; exact .refl _
    · simp at ht; subst ht; rfl
    · cases t with
      | leaf v =>
        have : [v].Perm [w] := ht
        simp at this
        subst this
        simp
      | node l r =>
        have := ht.length_eq
        have := l.ls_pos; have := r.ls_pos
        simp [T.ls] at *
        omega
theorem stepW_len {n : Nat} {L : List T} {w : Str} (h : ∀ t ∈ L, t.ls.length = n) : (stepW L w).length = L.length * (2 * n - 1) := by
  unfold stepW
  induction L with
  | nil => simp
  | cons t L ih =>
    rw [List.flatMap_cons, List.length_append, ih fun x hx => h x (by simp [hx]), List.length_map, withN_len, h t (by simp), List.length_cons, Nat.add_mul, Nat.one_mul, Nat.add_comm]
theorem stepW_ls {n : Nat} {L : List T} {w : Str} (h : ∀ t ∈ L, t.ls.length = n) : ∀ t ∈ stepW L w, t.ls.length = n + 1 := fun t ht => by
  obtain ⟨u, hu, ht⟩ := List.mem_flatMap.mp ht
  obtain ⟨s, hs, rfl⟩ := List.mem_map.mp ht
  rw [(plain_ls s).length_eq, (withN_ls u w s hs).1.length_eq, List.length_append, h u hu]
  rfl
theorem dueL_len {ws : List Str} (h1 : 1 ≤ ws.length) (h5 : ws.length ≤ 5) : (dueL ws).length = FT ws.length := by
  have b : ∀ a : Str, ∀ t ∈ ([.leaf a] : List T), t.ls.length = 1 := fun a t ht => by simp at ht; subst ht; rfl
  match ws, h1, h5 with
  | [a], _, _ => rfl
  | [a, b'], _, _ => show (stepW [.leaf a] b').length = _; rw [stepW_len (b a)]; rfl
  | [a, b', c], _, _ => show (stepW (stepW [.leaf a] b') c).length = _; rw [stepW_len (stepW_ls (b a)), stepW_len (b a)]; rfl
  | [a, b', c, d], _, _ => show (stepW (stepW (stepW [.leaf a] b') c) d).length = _; rw [stepW_len (stepW_ls (stepW_ls (b a))), stepW_len (stepW_ls (b a)), stepW_len (b a)]; rfl
  | [a, b', c, d, e], _, _ => show (stepW (stepW (stepW (stepW [.leaf a] b') c) d) e).length = _; rw [stepW_len (stepW_ls (stepW_ls (stepW_ls (b a)))), stepW_len (stepW_ls (stepW_ls (b a))), stepW_len (stepW_ls (b a)), stepW_len (b a)]; rfl
/-- a list without doubles in another no longer one: the same but for the order -/
theorem perm_of_sub {α : Type} [DecidableEq α] : ∀ {a b : List α}, a.Nodup → (∀ x ∈ a, x ∈ b) → b.length ≤ a.length → a.Perm b
  | [], b, _, _, h => by
    have : b = [] := List.length_eq_zero_iff.mp (by simpa using h)
    rw [this]
  | x :: a, b, nd, sub, h => by
    have nd' := List.nodup_cons.mp nd
    have hx := sub x (by simp)
    have pe := List.perm_cons_erase hx
    have le := List.length_erase_of_mem hx
    have bp := List.length_pos_of_mem hx
    refine (List.Perm.cons x (perm_of_sub nd'.2 (fun y hy => ?_) ?_)).trans pe.symm
    · have ne : y ≠ x := fun z => nd'.1 (z ▸ hy)
      exact (List.mem_erase_of_ne ne).mpr (sub y (by simp [hy]))
    · rw [le]
      simp at h
      omega
theorem due_perm {ws : List Str} (nd : ws.Nodup) (hg : ∀ x ∈ ws, GoodW x) (h1 : 1 ≤ ws.length) (h5 : ws.length ≤ 5) : (trN 70 ws).Perm (dueL ws) :=
  perm_of_sub (trN_nodup 70 ws nd) (fun t h => (dueL_all hg (by omega) h1).all t (trN_plain 70 ws t h) (trN_ls 70 ws t h)) (by rw [dueL_len h1 h5, trN_len 70 ws (by omega) h1 h5]; exact Nat.le_refl _)
open PySem.W in
/-- sorted by texts, unlike ones by unlike texts: the order given does not count -/
theorem byN_perm {A B : List T} (h : A.Perm B) (inj : ∀ a ∈ A, ∀ b ∈ A, a.text = b.text → a = b) : byN A (A.map T.text) = byN B (B.map T.text) := by
  have ez : ∀ L : List T, L.zip (L.map T.text) = L.map fun t => (t, t.text) := fun L => by
    induction L with
    | nil => rfl
    | cons a L ih => simp [ih]
  let f : T × Str → PyData := fun p => PyData.str p.2
  have le : ∀ a b : T × Str, dataLe false f a b = !strLt b.2 a.2 := fun a b => by
    show (!PyProof.Rows.lexLt itemOrd [.inr b.2.cps.toList] [.inr a.2.cps.toList]) = !decide (b.2.cps.toList < a.2.cps.toList)
    unfold PyProof.Rows.lexLt PyProof.Rows.lexLt
    rw [Bool.and_false, Bool.or_false]
    rfl
  have ni : ∀ a b : Str, strLt b a = false ↔ a.cps.toList ≤ b.cps.toList := fun a b => by
    unfold strLt
    rw [decide_eq_false_iff_not, List.not_lt]
  have tr : ∀ a b c : T × Str, dataLe false f a b = true → dataLe false f b c = true → dataLe false f a c = true := fun a b c h1 h2 => by
    rw [le] at h1 h2 ⊢
    simp only [Bool.not_eq_true'] at h1 h2 ⊢
    rw [ni] at h1 h2 ⊢
    exact List.le_trans h1 h2
  have tot : ∀ a b : T × Str, (dataLe false f a b || dataLe false f b a) = true := fun a b => by
    rw [le, le]
    cases q : strLt b.2 a.2 with
    | false => rfl
    | true => rw [strLt_asymm q]; rfl
  unfold byN
  rw [ez, ez]
  congr 1
  have pm : ∀ L : List (T × Str), (L.mergeSort (dataLe false f)).Perm L := fun L => List.mergeSort_perm _ _
  refine List.Perm.eq_of_pairwise (le := fun a b => dataLe false f a b = true) (fun a b ha hb h1 h2 => ?_) (List.pairwise_mergeSort tr tot _) (List.pairwise_mergeSort tr tot _) ((pm _).trans ((h.map _).trans (pm _).symm))
  rw [le] at h1 h2
  simp only [Bool.not_eq_true'] at h1 h2
  have e := strLt_total h2 h1
  obtain ⟨x, hx, rfl⟩ := List.mem_map.mp ((pm _).mem_iff.mp ha)
  obtain ⟨y, hy, rfl⟩ := List.mem_map.mp ((pm _).mem_iff.mp hb)
  have := inj x hx y (h.mem_iff.mpr hy) e
  subst this
  rfl
def dueT (ws : List Str) : List T := byN (dueL ws) ((dueL ws).map T.text)
theorem gt_due {ws : List Str} (nd : ws.Nodup) (hg : ∀ x ∈ ws, GoodW x) (h1 : 1 ≤ ws.length) (h5 : ws.length ≤ 5) : gtN ws = dueT ws :=
  byN_perm (due_perm nd hg h1 h5) fun a ha b hb e => Q.text_inj (ls_fine hg (by omega) (trN_ls 70 ws a ha)) (ls_fine hg (by omega) (trN_ls 70 ws b hb)) e
end M
namespace Q
open PySem hiding Env
open L2 M
noncomputable def m_text_2 (g_text_2 : List R → Store → Out R) : MS :=
  (mSeq (mIfS (mtTru (mCall biIsi (mCons (mVar 0) (mCons (mC (.ty "str")) mNil)))) (mRet (mVar 0)) mSkip)
  (mRet (mBin opAdd (mBin opAdd (mBin opAdd (mBin opAdd (mC (.str "(")) (mCall g_text_2 (mCons (mBin opIx (mVar 0) (mC (.int 0))) mNil))) (mC (.str ","))) (mCall g_text_2 (mCons (mBin opIx (mVar 0) (mC (.int 1))) mNil))) (mC (.str ")")))))
noncomputable def R_text_2 : Nat → List R → Store → Out R
  | 0 => fun _ _ => .no
  | k + 1 => mDefV 1 (m_text_2 (R_text_2 k))
noncomputable def m_plain_3 (g_plain_3 : List R → Store → Out R) (g_text_2 : List R → Store → Out R) : MS :=
  (mSeq (mIfS (mtTru (mCall biIsi (mCons (mVar 0) (mCons (mC (.ty "str")) mNil)))) (mRet (mVar 0)) mSkip)
  (mSeq (mPar 1 2 (mCall g_plain_3 (mCons (mBin opIx (mVar 0) (mC (.int 0))) mNil)) (mCall g_plain_3 (mCons (mBin opIx (mVar 0) (mC (.int 1))) mNil)))
  (mSeq (mIfS (mtB (mBin opLtS (mCall g_text_2 (mCons (mVar 2) mNil)) (mCall g_text_2 (mCons (mVar 1) mNil)))) (mRet (mTup (mCons (mVar 2) (mCons (mVar 1) mNil)))) mSkip)
  (mRet (mTup (mCons (mVar 1) (mCons (mVar 2) mNil)))))))
noncomputable def R_plain_3 : Nat → List R → Store → Out R
  | 0 => fun _ _ => .no
  | k + 1 => mDefV 3 (m_plain_3 (R_plain_3 k) (R_text_2 70))
noncomputable def m_with (g_with : List R → Store → Out R) : MS :=
  (mSeq (mSet 2 (mLstV (mCons (mTup (mCons (mVar 0) (mCons (mVar 1) mNil))) mNil)))
  (mSeq (mIfS (mtTru (mCall biIsi (mCons (mVar 0) (mCons (mC (.ty "tuple")) mNil)))) (mSeq (mSet 2 (mPop (mBin opAdd (mVar 2) (mPop (mLc (srcAny (mCall g_with (mCons (mBin opIx (mVar 0) (mC (.int 0))) (mCons (mVar 1) mNil)))) [3] (tgN 3) mtYes (mTup (mCons (mVar 3) (mCons (mBin opIx (mVar 0) (mC (.int 1))) mNil))))))))
  (mSet 2 (mPop (mBin opAdd (mVar 2) (mPop (mLc (srcAny (mCall g_with (mCons (mBin opIx (mVar 0) (mC (.int 1))) (mCons (mVar 1) mNil)))) [4] (tgN 4) mtYes (mTup (mCons (mBin opIx (mVar 0) (mC (.int 0))) (mCons (mVar 4) mNil))))))))) mSkip)
  (mRet (mVar 2))))
noncomputable def R_with : Nat → List R → Store → Out R
  | 0 => fun _ _ => .no
  | k + 1 => mDefV 5 (m_with (R_with k))
noncomputable def b1_due_16 (g_with : List R → Store → Out R) (g_plain_3 : List R → Store → Out R) : MS :=
  (mDrop (mMeth "list" mtExt (mVar 3) (mCons (mPop (mLc (srcAny (mCall g_with (mCons (mVar 4) (mCons (mVar 2) mNil)))) [5] (tgN 5) mtYes (mCall g_plain_3 (mCons (mVar 5) mNil)))) mNil)))
noncomputable def b2_due_16 (g_with : List R → Store → Out R) (g_plain_3 : List R → Store → Out R) : MS :=
  (mSeq (mSet 3 (mLst mNil))
  (mSeq (mFor (srcAny (mVar 1)) (tgN 4) (b1_due_16 g_with g_plain_3))
  (mSet 1 (mVar 3))))
noncomputable def m_due_16 (g_with : List R → Store → Out R) (g_plain_3 : List R → Store → Out R) (g_text_2 : List R → Store → Out R) : MS :=
  (mSeq (mSet 1 (mLstV (mCons (mBin opIx (mVar 0) (mC (.int 0))) mNil)))
  (mSeq (mFor (srcAny (mPop (mSl (mVar 0) (moS (mC (.int 1))) moN))) (tgN 2) (b2_due_16 g_with g_plain_3))
  (mRet (mCall biTuple (mCons (mPop (mSortKN g_text_2 (mVar 1))) mNil)))))
noncomputable def M_due_16 : List R → Store → Out R := mDefV 6 (m_due_16 (R_with 70) (R_plain_3 70) (R_text_2 70))
end Q
namespace Q
open PySem hiding Env
open L2 M
section
variable {S : Store}
theorem text_2_spec : ∀ (k : Nat) (t : T) (S : Store), t.depth < k → t.Ok → t.ls.length ≤ 100000 → R_text_2 k [.v t.d] S = .ok (.v (.str t.text)) S
  | 0, t, S, h, _, _ => by omega
  | k + 1, .leaf w, S, h, _, _ => by
    refine eq_wE ?_
    simp_arith [R_text_2, m_text_2, T.d, isi_str_str, T.text]
  | k + 1, .node l r, S, h, ht, hz => by
    simp only [T.depth] at h
    simp only [T.ls, List.length_append] at hz
    have t1 := T.text_len l ht.l
    have t2 := T.text_len r ht.r
    have e1 := fun S => text_2_spec k l S (by omega) ht.l (by omega)
    have e2 := fun S => text_2_spec k r S (by omega) ht.r (by omega)
    have e3 : (Str.ofString "(").length = 1 := by decide +kernel
    have e4 : (Str.ofString ",").length = 1 := by decide +kernel
    have e5 : (Str.ofString ")").length = 1 := by decide +kernel
    have a1 : (Str.ofString "(").length + l.text.length ≤ sizeLine := sz_of (by omega)
    have a2 : (Str.ofString "(" ++ l.text).length + (Str.ofString ",").length ≤ sizeLine := sz_of (by simp only [str_len_append]; omega)
    have a3 : (Str.ofString "(" ++ l.text ++ Str.ofString ",").length + r.text.length ≤ sizeLine := sz_of (by simp only [str_len_append]; omega)
    have a4 : (Str.ofString "(" ++ l.text ++ Str.ofString "," ++ r.text).length + (Str.ofString ")").length ≤ sizeLine := sz_of (by simp only [str_len_append]; omega)
    have i1 : ∀ S, opIx (.v (.tup [l.d, r.d])) (.v (.int 0)) S = .ok (.v l.d) S := fun S => opIx_tup (atI_0 _ _)
    have i2 : ∀ S, opIx (.v (.tup [l.d, r.d])) (.v (.int 1)) S = .ok (.v r.d) S := fun S => opIx_tup (atI_1 _ _ _)
    refine eq_wE ?_
    simp_arith [R_text_2, m_text_2, T.d, isi_tup_str, i1, i2, e1, e2, opAdd_str a1, opAdd_str a2, opAdd_str a3, opAdd_str a4, T.text]
theorem plain_3_spec : ∀ (k : Nat) (t : T) (S : Store), t.depth < k → Fine t → R_plain_3 k [.v t.d] S = .ok (.v (plainN t).d) S
  | 0, t, S, h, _ => by omega
  | k + 1, .leaf w, S, h, _ => by
    refine eq_wE ?_
    simp_arith [R_plain_3, m_plain_3, T.d, isi_str_str, plainN]
  | k + 1, .node l r, S, h, hf => by
    simp only [T.depth] at h
    have e1 := fun S => plain_3_spec k l S (by omega) hf.l
    have e2 := fun S => plain_3_spec k r S (by omega) hf.r
    have t1 := fun S => text_2_spec 70 (plainN l) S (by rw [plain_depth]; have := hf.l.dep; omega) hf.l.plain.ok (by have := hf.l.plain.len; omega)
    have t2 := fun S => text_2_spec 70 (plainN r) S (by rw [plain_depth]; have := hf.r.dep; omega) hf.r.plain.ok (by have := hf.r.plain.len; omega)
    have lt : ∀ S, opLtS (.v (.str (plainN r).text)) (.v (.str (plainN l).text)) S = .ok (.v (.bl (strLt (plainN r).text (plainN l).text))) S := fun S => rfl
    have i1 : ∀ S, opIx (.v (.tup [l.d, r.d])) (.v (.int 0)) S = .ok (.v l.d) S := fun S => opIx_tup (atI_0 _ _)
    have i2 : ∀ S, opIx (.v (.tup [l.d, r.d])) (.v (.int 1)) S = .ok (.v r.d) S := fun S => opIx_tup (atI_1 _ _ _)
    refine eq_wE ?_
    rw [plainN_node]
    simp_arith [R_plain_3, m_plain_3, T.d, isi_tup_str, mPar_eq, i1, i2, e1, e2, t1, t2, lt]
    cases strLt (plainN r).text (plainN l).text <;> simp_arith [T.d]
theorem with_spec : ∀ (k : Nat) (t : T) (w : Str) (S : Store), t.depth < k → t.ls.length ≤ 100 → R_with k [.v t.d, .v (.str w)] S = .ok (.v (.lst ((withN t w).map T.d))) S
  | 0, t, w, S, h, _ => by omega
  | k + 1, .leaf v, w, S, h, _ => by
    have fr2 : ∀ (a b : D) {α : Type} (S : Store) (F : List D → Store → Out α), frzO S [.v a, .v b] F = F [a, b] S := fun a b α S F => frzO_2 _ _ _
    have fr1 : ∀ (a : D) {α : Type} (S : Store) (F : List D → Store → Out α), frzO S [.v a] F = F [a] S := fun a α S F => frzO_vs [a] F
    refine eq_wE ?_
    simp_arith [R_with, m_with, T.d, isi_str_tup, withN, fr2, fr1]
  | k + 1, .node l r, w, S, h, hz => by
    simp only [T.depth] at h
    simp only [T.ls, List.length_append] at hz
    have fr2 : ∀ (a b : D) {α : Type} (S : Store) (F : List D → Store → Out α), frzO S [.v a, .v b] F = F [a, b] S := fun a b α S F => frzO_2 _ _ _
    have fr1 : ∀ (a : D) {α : Type} (S : Store) (F : List D → Store → Out α), frzO S [.v a] F = F [a] S := fun a α S F => frzO_vs [a] F
    have e1 := fun S => with_spec k l w S (by omega) (by omega)
    have e2 := fun S => with_spec k r w S (by omega) (by omega)
    have n1 := withN_len l w
    have n2 := withN_len r w
    have i1 : ∀ S, opIx (.v (.tup [l.d, r.d])) (.v (.int 0)) S = .ok (.v l.d) S := fun S => opIx_tup (atI_0 _ _)
    have i2 : ∀ S, opIx (.v (.tup [l.d, r.d])) (.v (.int 1)) S = .ok (.v r.d) S := fun S => opIx_tup (atI_1 _ _ _)
    have wn : withN (.node l r) w = [.node (.node l r) (.leaf w)] ++ (withN l w).map (fun x => .node x r) ++ (withN r w).map fun y => .node l y := rfl
    rw [wn]
    generalize withN l w = A at *
    generalize withN r w = B at *
    refine eq_wE ?_
    simp_arith [R_with, m_with, T.d, isi_tup_tup, fr2, fr1, i1, e1]
    refine lcT_wp A (fun x => .v x.d) (fun x => .tup [x.d, r.d]) (by rw [List.map_map]; rfl) (.refl S) (sz_of (by omega)) ?_ ?_
    · intro x hx acc
      simp_arith [i2, fr2]
    simp_arith []
    rw [popAdd_eq (sz_of (by simp; omega))]
    simp_arith [i2, e2]
    refine lcT_wp B (fun x => .v x.d) (fun x => .tup [l.d, x.d]) (by rw [List.map_map]; rfl) (.refl S) (sz_of (by omega)) ?_ ?_
    · intro x hx acc
      simp_arith [i1, fr2]
    simp_arith []
    rw [popAdd_eq (sz_of (by simp; omega))]
    simp_arith [List.map_append, List.map_map]
    rfl
theorem keysM_text2 {F : List Str → Store → Out R} : ∀ (L : List T) (ts : List Str) (S : Store), (∀ t ∈ L, ∀ S, R_text_2 70 [.v t.d] S = .ok (.v (.str t.text)) S) → keysM (R_text_2 70) (L.map fun t => R.v t.d) ts S F = F (ts ++ L.map T.text) S
  | [], ts, S, _ => by simp [keysM]
  | t :: L, ts, S, h => by
    rw [List.map_cons, keysM, h t (by simp)]
    show keysM (R_text_2 70) (L.map fun t => R.v t.d) (ts ++ [t.text]) S F = _
    rw [keysM_text2 L _ S fun x hx => h x (by simp [hx]), List.map_cons, List.append_assoc]; rfl
theorem foldW_snoc (us : List Str) (w : Str) (L : List T) : (us ++ [w]).foldl stepW L = stepW (us.foldl stepW L) w := by rw [List.foldl_append]; rfl
theorem due_16_spec {ws : List Str} (h1 : 1 ≤ ws.length) (h5 : ws.length ≤ 5) (hg : ∀ x ∈ ws, GoodW x) : M_due_16 [.v (.tup (ws.map .str))] S = .ok (.v (.tup ((dueT ws).map T.d))) S := by
  cases ws with
  | nil => simp at h1
  | cons w us =>
  have i0 : ∀ S, opIx (.v (.tup (D.str w :: us.map D.str))) (.v (.int 0)) S = .ok (.v (.str w)) S := fun S => opIx_tup (atI_0 _ _)
  have fr1 : ∀ (a : D) {α : Type} (S : Store) (F : List D → Store → Out α), frzO S [.v a] F = F [a] S := fun a α S F => frzO_vs [a] F
  have cd : cutD (D.str w :: us.map D.str) (some 1) none = us.map D.str := by rw [cutD_drop _ (by omega)]; rfl
  have allP : ∀ i, i ≤ us.length → AllP (w :: us.take i) ((us.take i).foldl stepW [.leaf w]) := fun i hi => dueL_all (ws := w :: us.take i) (fun x hx => hg x (by
    rcases List.mem_cons.mp hx with z | z
    · rw [z]; simp
    · exact List.mem_cons_of_mem _ (List.mem_of_mem_take z))) (by simp at h5 ⊢; omega) (by simp)
  have lenP : ∀ i, i ≤ us.length → ((us.take i).foldl stepW [.leaf w]).length ≤ 105 := fun i hi => by
    have e := dueL_len (ws := w :: us.take i) (by simp) (by simp at h5 ⊢; omega)
    have e' : ((us.take i).foldl stepW [.leaf w]).length = FT (w :: us.take i).length := e
    rw [e']
    have : (w :: us.take i).length ≤ 5 := by simp at h5 ⊢; omega
    match (w :: us.take i).length, this with
    | 0, _ => decide
    | 1, _ => decide
    | 2, _ => decide
    | 3, _ => decide
    | 4, _ => decide
    | 5, _ => decide
  refine eq_wE ?_
  simp_arith [M_due_16, m_due_16, i0, fr1, cd]
  refine for_wp [1, 2, 3, 4, 5] (fun i vs U => i ≤ us.length ∧ (∃ X, U = S ++ X) ∧ ∃ r b c d e, vs = [some r, b, c, d, e] ∧ (r = .v (.lst (((us.take i).foldl stepW [.leaf w]).map T.d)) ∨ ∃ n, r = .ref n ∧ U[n]? = some (.lst ((((us.take i).foldl stepW [.leaf w]).map T.d).map .v)))) rfl ⟨by omega, ⟨[], by simp⟩, _, _, _, _, _, rfl, .inl rfl⟩ ?_ ?_
  · rintro i d vs U hd ⟨hi0, ⟨X, hU⟩, r, b, c, d', e, rfl, hr⟩
    rw [List.getElem?_map, List.getElem?_map] at hd
    obtain ⟨d1, h1', rfl⟩ := Option.map_eq_some_iff.mp hd
    obtain ⟨u, hq, rfl⟩ := Option.map_eq_some_iff.mp h1'
    have hil := (List.getElem?_eq_some_iff.mp hq).1
    have gu : GoodW u := hg u (by simp [List.mem_of_getElem? hq])
    have tk : (us.take (i + 1)).foldl stepW [.leaf w] = stepW ((us.take i).foldl stepW [.leaf w]) u := by
      rw [List.take_add_one, hq]
      exact foldW_snoc _ _ _
    have ln := lenP (i + 1) (by omega)
    have ln0 := lenP i (by omega)
    have gi : ∀ x ∈ w :: us.take i, GoodW x := fun x hx => hg x (by
      rcases List.mem_cons.mp hx with z | z
      · rw [z]; simp
      · exact List.mem_cons_of_mem _ (List.mem_of_mem_take z))
    have li : (w :: us.take i).length ≤ 5 := by simp at h5 ⊢; omega
    have per := (allP i (by omega)).ls
    rw [tk] at ln ⊢
    generalize (us.take i).foldl stepW [.leaf w] = L at *
    have fine : ∀ t ∈ L, Fine t ∧ t.ls.length ≤ 5 := fun t ht => ⟨ls_fine gi (by omega) (per t ht), by rw [(per t ht).length_eq]; exact li⟩
    have fin : ∀ t ∈ L, ∀ s ∈ withN t u, Fine s := fun t ht s hs => ls_fine (ws := (w :: us.take i) ++ [u]) (fun x hx => by
      rcases List.mem_append.mp hx with z | z
      · exact gi x z
      · simp at z; subst z; exact gu) (by rw [List.length_append]; simp; simp at li; omega) ((withN_ls t u s hs).1.trans ((per t ht).append_right [u]))
    have part : ∀ j, ((L.take j).flatMap fun t => (withN t u).map plainN).length ≤ 105 := fun j => by
      have : (stepW L u).length = ((L.take j).flatMap fun t => (withN t u).map plainN).length + ((L.drop j).flatMap fun t => (withN t u).map plainN).length := by
        unfold stepW
        rw [← List.length_append, ← List.flatMap_append, List.take_append_drop]
      omega
    have len0 : (S ++ X).length = (S ++ X).length := rfl
    subst hU
    generalize hW : S ++ X = W at hr
    have hX : ∃ X, W = S ++ X := ⟨X, hW.symm⟩
    clear hW
    have ex : ∀ (j : Nat) (t : T), L[j]? = some t → ∀ S0, S0 = W ++ [MO.lst ((((L.take j).flatMap fun t => (withN t u).map plainN).map T.d).map R.v)] → mtExt (.ref W.length) [.v (.lst (((withN t u).map plainN).map T.d))] S0 = .ok (.v .non) (W ++ [.lst ((((L.take (j + 1)).flatMap fun t => (withN t u).map plainN).map T.d).map .v)]) := fun j t hj S0 hS0 => by
      have tj : (L.take (j + 1)).flatMap (fun t => (withN t u).map plainN) = (L.take j).flatMap (fun t => (withN t u).map plainN) ++ (withN t u).map plainN := by rw [List.take_add_one, hj]; simp
      have p1 := part (j + 1)
      rw [tj] at p1 ⊢
      subst hS0
      have g0 := get_len W (MO.lst ((((L.take j).flatMap fun t => (withN t u).map plainN).map T.d).map R.v)) []
      rw [mtExt_lst g0 (sz_of (by rw [List.length_append] at p1; simp only [List.length_map]; simp only [List.length_map] at p1; omega)), set_len, List.map_append, List.map_append]
    have body : ∀ (j : Nat) (t : T) (e1 e2 : Option R) (r : R) (K : OutS → Prop), L[j]? = some t → (∀ e1 e2, K (.nx [some (.v (.tup (D.str w :: us.map D.str))), some r, some (.v (.str u)), some (.ref W.length), e1, e2] (W ++ [.lst ((((L.take (j + 1)).flatMap fun t => (withN t u).map plainN).map T.d).map .v)]))) →
        wTg (tgN 4 (.v t.d) [some (.v (.tup (D.str w :: us.map D.str))), some r, some (.v (.str u)), some (.ref W.length), e1, e2]) fun m1 => wS (b1_due_16 (R_with 70) (R_plain_3 70) m1 (W ++ [.lst ((((L.take j).flatMap fun t => (withN t u).map plainN).map T.d).map .v)])) K := by
      intro j t e1 e2 r K hj hK
      have hm := List.mem_of_getElem? hj
      have ft := (fine t hm).1
      have f5 := (fine t hm).2
      have wl := withN_len t u
      have wi := fun S => with_spec 70 t u S (by have := t.depth_lt; omega) (by omega)
      have g0 := get_len W (MO.lst ((((L.take j).flatMap fun t => (withN t u).map plainN).map T.d).map R.v)) []
      have ex1 := ex j t hj _ rfl
      have fs := fin t hm
      generalize (withN t u) = A at *
      generalize W ++ [MO.lst ((((L.take j).flatMap fun t => (withN t u).map plainN).map T.d).map R.v)] = V at *
      simp_arith [b1_due_16, tyOk_lst g0, wi]
      refine lcT_wp A (fun s => .v s.d) (fun s => (plainN s).d) (by rw [List.map_map]; rfl) (.refl V) (sz_of (by omega)) ?_ ?_
      · intro s hs acc
        have ps := fun S => plain_3_spec 70 s S (by have := (fs s hs).dep; omega) (fs s hs)
        simp_arith [ps]
      · have em : (A.map fun s => (plainN s).d) = (A.map plainN).map T.d := by rw [List.map_map]; rfl
        rw [em]
        simp_arith [ex1]
        exact hK _ _
    have tkl : L.take ((L.map T.d).map R.v).length = L := by rw [List.length_map, List.length_map, List.take_length]
    rcases hr with rfl | ⟨n, rfl, gn⟩
    · simp_arith [b2_due_16]
      refine for_wp [4, 5] (fun j vs V => V = W ++ [.lst ((((L.take j).flatMap fun t => (withN t u).map plainN).map T.d).map .v)] ∧ ∃ a b, vs = [a, b]) rfl ⟨by simp, _, _, rfl⟩ ?_ ?_
      · rintro j d vs V hd ⟨rfl, a, b, rfl⟩
        rw [List.getElem?_map, List.getElem?_map] at hd
        obtain ⟨d1, h2', rfl⟩ := Option.map_eq_some_iff.mp hd
        obtain ⟨t, ht, rfl⟩ := Option.map_eq_some_iff.mp h2'
        refine body j t _ _ _ _ ht fun e1 e2 => ?_
        exact ⟨rfl, rfl, _, _, rfl⟩
      · rintro vs V ⟨rfl, a, b, rfl⟩
        rw [tkl]
        simp_arith []
        obtain ⟨X, hX⟩ := hX
        refine ⟨by omega, ⟨X ++ [.lst (((stepW L u).map T.d).map .v)], by rw [hX, List.append_assoc]; rfl⟩, _, _, _, _, _, rfl, .inr ⟨W.length, rfl, ?_⟩⟩
        exact get_len W _ []
    · simp_arith [b2_due_16, fun y : MO => show (W ++ [y])[n]? = _ from (List.getElem?_append_left (List.getElem?_eq_some_iff.mp gn).1).trans gn]
      refine forP_wp [4, 5] (fun j vs V => V = W ++ [.lst ((((L.take j).flatMap fun t => (withN t u).map plainN).map T.d).map .v)] ∧ ∃ a b, vs = [a, b]) rfl ⟨by simp, _, _, rfl⟩ (fun j vs V ⟨hV, _⟩ => by rw [hV]; exact ⟨(List.getElem?_append_left (List.getElem?_eq_some_iff.mp gn).1).trans gn, trivial⟩) ?_ ?_
      · rintro j d vs V hd ⟨rfl, a, b, rfl⟩
        rw [List.getElem?_map, List.getElem?_map] at hd
        obtain ⟨d1, h2', rfl⟩ := Option.map_eq_some_iff.mp hd
        obtain ⟨t, ht, rfl⟩ := Option.map_eq_some_iff.mp h2'
        refine body j t _ _ _ _ ht fun e1 e2 => ?_
        exact ⟨rfl, rfl, _, _, rfl⟩
      · rintro vs V ⟨rfl, a, b, rfl⟩
        rw [tkl]
        simp_arith []
        obtain ⟨X, hX⟩ := hX
        refine ⟨by omega, ⟨X ++ [.lst (((stepW L u).map T.d).map .v)], by rw [hX, List.append_assoc]; rfl⟩, _, _, _, _, _, rfl, .inr ⟨W.length, rfl, ?_⟩⟩
        exact get_len W _ []
  · rintro vs U ⟨hi0, ⟨X, rfl⟩, r, b, c, d', e, rfl, hr⟩
    rw [List.length_map, List.length_map, List.take_length] at hr
    have tot := lenP us.length (Nat.le_refl _)
    have dl : dueL (w :: us) = us.foldl stepW [.leaf w] := rfl
    have per := (allP us.length (Nat.le_refl _)).ls
    rw [List.take_length] at tot per
    unfold dueT
    rw [dl]
    have tx : ∀ t ∈ us.foldl stepW [.leaf w], ∀ S, R_text_2 70 [.v t.d] S = .ok (.v (.str t.text)) S := fun t ht S => by
      have f := ls_fine hg (by omega) (per t ht)
      exact text_2_spec 70 t S (by have := f.dep; omega) f.ok (by have := f.len; omega)
    generalize us.foldl stepW [.leaf w] = L at *
    have e1 : (L.map T.d).map R.v = L.map fun t => R.v t.d := by rw [List.map_map]; rfl
    have e2 : byN (L.map fun t => R.v t.d) (L.map T.text) = ((byN L (L.map T.text)).map T.d).map .v := by
      unfold byN
      have ez : (L.map fun t => R.v t.d).zip (L.map T.text) = (L.zip (L.map T.text)).map fun q => (R.v q.1.d, q.2) := by
        refine List.ext_getElem (by simp) fun i _ _ => ?_
        simp
      rw [ez, byN_map (fun t : T => R.v t.d), List.map_map, List.map_map]
      rfl
    have hsz : (L.map fun t => R.v t.d).length ≤ 1000 := by rw [List.length_map]; omega
    have so : lstOf (S ++ X) r = some (L.map fun t => R.v t.d) := by
      rcases hr with rfl | ⟨n, rfl, gn⟩
      · rw [← e1]; rfl
      · rw [← e1]; exact lsOf_lst gn
    have pn := popV_new (S ++ X) ((byN L (L.map T.text)).map T.d)
    simp only [List.append_assoc, List.length_append] at pn
    simp_arith [mSortKN_eq, so, hsz, keysM_text2 _ _ _ tx, List.nil_append, e2, pn, biTuple_lst, cut_app']
end
end Q
namespace Q
open PySem hiding Env
open L2 M
end Q
namespace Q
open PySem hiding Env
open L2 M
end Q
namespace M
open PySem PySem.Spec L2
open PyProof.Rows hiding St
theorem wLs_le2 {b : Nat} : ∀ {L : List D}, (∀ d ∈ L, wL d ≤ b) → wLs L ≤ L.length * (b + 2)
  | [], _ => by simp [wLs]
  | d :: L, h => by
    have h1 := h d (by simp)
    have h2 := wLs_le2 (L := L) fun x hx => h x (by simp [hx])
    simp only [wLs, List.length_cons, Nat.add_mul]; omega
/-- a word that may be shown -/
def ShW (w : Str) : Prop := strOkB (reprText w) = true ∧ (reprText w).length ≤ 10
theorem shw_T : ∀ (t : T) (k : Nat), t.depth < k → t.Ok → (∀ w ∈ t.ls, ShW w) → Shw k t.d ∧ wL t.d + 8 ≤ 18 * t.ls.length
  | .leaf w, k + 1, _, ho, h => ⟨⟨(ho w (by simp [T.ls])).ok, (h w (by simp [T.ls])).1⟩, by
      have := (h w (by simp [T.ls])).2
      show (reprText w).length + 8 ≤ _
      simp [T.ls]; omega⟩
  | .node l r, k + 1, hd, ho, h => by
    simp only [T.depth] at hd
    have a := shw_T l k (by omega) ho.l fun w hw => h w (by simp [T.ls, hw])
    have b := shw_T r k (by omega) ho.r fun w hw => h w (by simp [T.ls, hw])
    refine ⟨fun d hd => ?_, ?_⟩
    · simp only [List.mem_cons, List.not_mem_nil, or_false] at hd
      rcases hd with rfl | rfl
      · exact a.1
      · exact b.1
    · show 4 + (wL l.d + 2 + (wL r.d + 2 + 0)) + 8 ≤ _
      simp only [T.ls, List.length_append]
      omega
end M
namespace Q
open PySem hiding Env
open L2 M
end Q
namespace Q
open PySem hiding Env
open L2 M
noncomputable def b1_law_k71 (g_great_trees_2 : List R → Store → Out R) : MS :=
  (mIfS (mtB (mBin opNe (mCall biRepr (mCons (mCall g_great_trees_2 (mCons (mVar 4) mNil)) mNil)) (mCall biRepr (mCons (mVar 5) mNil)))) (mRet (mC (.bl false))) mSkip)
noncomputable def b2_law_k71 (g_take_6 : List R → Store → Out R) (g_due_16 : List R → Store → Out R) (g_great_trees_2 : List R → Store → Out R) (g_plain_4 : List R → Store → Out R) (g_is_great : List R → Store → Out R) : MS :=
  (mTrim (mSeq (mSet 3 (mLst (mCons (mC (.str "a")) (mCons (mC (.str "aa")) (mCons (mC (.str "aaa")) (mCons (mC (.str "ab")) (mCons (mC (.str "b")) (mCons (mC (.str "ba")) (mCons (mC (.str "zzzzzzzz")) (mCons (mC (.str "c")) (mCons (mC (.str "cb")) mNil)))))))))))
  (mSeq (mSet 4 (mCall biTuple (mCons (mPop (mCall biSortX (mCons (mPop (mLc (srcRange1 (mCons (mBin opAdd (mC (.int 1)) (mCall g_take_6 (mCons (mVar 1) (mCons (mC (.int 5)) mNil)))) mNil)) [7] (tgN 7) mtYes (mMeth "list" mtPop (mVar 3) (mCons (mCall g_take_6 (mCons (mVar 1) (mCons (mCall biLen (mCons (mVar 3) mNil)) mNil))) mNil)))) mNil))) mNil)))
  (mSeq (mSet 5 (mCall g_due_16 (mCons (mVar 4) mNil)))
  (mSeq (mIfS (mtB (mBin opNe (mCall biLen (mCons (mVar 5) mNil)) (mBin opIx (mLstV (mCons (mC (.int 1)) (mCons (mC (.int 1)) (mCons (mC (.int 3)) (mCons (mC (.int 15)) (mCons (mC (.int 105)) mNil)))))) (mBin opSub (mCall biLen (mCons (mVar 4) mNil)) (mC (.int 1)))))) (mRet (mC (.bl false))) mSkip)
  (mSeq (mFor (srcRange1 (mCons (mC (.int 2)) mNil)) (tgN 6) (b1_law_k71 g_great_trees_2))
  (mIfS (mtNot (mtTru (mCall biAll (mCons (mPop (mLc (srcAny (mVar 5)) [8] (tgN 8) mtYes (mAnd (mBin opEq (mCall g_plain_4 (mCons (mVar 8) mNil)) (mVar 8)) (mBin opIs (mCall g_is_great (mCons (mVar 8) mNil)) (mC (.bl true)))))) mNil)))) (mRet (mC (.bl false))) mSkip)))))))
noncomputable def m_law_k71 (g_pot_2 : List R → Store → Out R) (g_take_6 : List R → Store → Out R) (g_due_16 : List R → Store → Out R) (g_great_trees_2 : List R → Store → Out R) (g_plain_4 : List R → Store → Out R) (g_is_great : List R → Store → Out R) : MS :=
  (mSeq (mSet 1 (mCall g_pot_2 (mCons (mVar 0) mNil)))
  (mSeq (mFor (srcRange1 (mCons (mCall biMax (mCons (mC (.int 2)) (mCons (mCall biMin (mCons (mC (.int 4)) (mCons (mCall biLen (mCons (mVar 0) mNil)) mNil))) mNil))) mNil)) (tgN 2) (b2_law_k71 g_take_6 g_due_16 g_great_trees_2 g_plain_4 g_is_great))
  (mRet (mC (.bl true)))))
noncomputable def M_law_k71 : List R → Store → Out R := mDef 9 (m_law_k71 M_pot_2 M_take_6 M_due_16 M_great_trees_2 (R_plain_4 70) M_is_great)
end Q
namespace Q
open PySem hiding Env
open L2 M
theorem srt_strs (L : List Str) : SrtOk (L.map D.str) :=
  ⟨⟨L.map PyData.str, by
    induction L with
    | nil => rfl
    | cons a L ih => simp [D.pys, D.py, ih], PySem.W.AllAlike.of (enc := PyData.str) (bs := L) fun a b => by simp [PySem.W.alike], .inr fun d hd => by
      obtain ⟨t, _, rfl⟩ := List.mem_map.mp hd
      exact ⟨(fun z => nomatch z), (fun _ z => nomatch z)⟩, by
    induction L with
    | nil => simp [PyData.depthAll]
    | cons a L ih => simp [PyData.depthAll, PyData.depth]; omega⟩⟩
theorem dsort_strs (L : List Str) : ∃ ws : List Str, dsort (L.map D.str) = ws.map D.str ∧ ws.Perm L := by
  let g : D → Str := fun d => match d with
    | .str x => x
    | _ => ""
  have p := dsort_perm (L.map D.str)
  have gm : ∀ L : List Str, (L.map D.str).map g = L := fun L => by
    rw [List.map_map]
    exact List.map_id L
  refine ⟨(dsort (L.map D.str)).map g, ?_, by have := p.map g; rw [gm] at this; exact this⟩
  rw [List.map_map]
  refine (List.map_id _).symm.trans (List.map_congr_left fun d hd => ?_)
  obtain ⟨x, _, rfl⟩ := List.mem_map.mp (p.mem_iff.mp hd)
  rfl
theorem due_repr {ws : List Str} (hg : ∀ x ∈ ws, GoodW x) (h1 : 1 ≤ ws.length) (h5 : ws.length ≤ 5) (hw : ∀ w ∈ ws, ShW w) : ∃ x : Str, strOkB x = true ∧ ∀ S, biRepr [.v (.tup ((gtN ws).map T.d))] S = .ok (.v (.str x)) S := by
  have each : ∀ t ∈ gtN ws, Shw 8 t.d ∧ wL t.d ≤ 200 := fun t ht => by
    have f := fine_tr hg h5 (gtN_mem ht)
    have p := trN_ls 70 ws t (gtN_mem ht)
    have pl := p.length_eq
    have d := t.depth_lt
    obtain ⟨a, b⟩ := shw_T t 8 (by omega) f.ok fun w h => hw w (p.mem_iff.mp h)
    exact ⟨a, by omega⟩
  have gl : (gtN ws).length ≤ 105 := by
    have tl := trN_len 70 ws (by omega) h1 h5
    have e : (gtN ws).length = (trN 70 ws).length := by unfold gtN; rw [byN_len (by simp)]
    rw [e, tl]
    match ws.length, h5 with
    | 0, _ => decide
    | 1, _ => decide
    | 2, _ => decide
    | 3, _ => decide
    | 4, _ => decide
    | 5, _ => decide
  refine repr_of (k := 9) (d := .tup ((gtN ws).map T.d)) (fun d hd => ?_) (by decide) ?_
  · obtain ⟨t, ht, rfl⟩ := List.mem_map.mp hd
    exact (each t ht).1
  · have h1 : wLs ((gtN ws).map T.d) ≤ _ := wLs_le2 (b := 200) fun d hd => by
      obtain ⟨t, ht, rfl⟩ := List.mem_map.mp hd
      exact (each t ht).2
    have h3 := Nat.le_trans h1 (Nat.mul_le_mul_right 202 (show ((gtN ws).map T.d).length ≤ 105 by rw [List.length_map]; exact gl))
    show 4 + wLs _ ≤ 16777216
    omega
theorem mtPop_strs {S : Store} {n : Nat} {left : List Str} {r : Int} (e : S[n]? = some (.lst ((left.map D.str).map .v))) (h0 : 0 ≤ r) (h1 : r < left.length) (h2 : left.length ≤ 1000) :
    ∃ w, left[r.toNat]? = some w ∧ mtPop (.ref n) [.v (.int r)] S = .ok (.v (.str w)) (S.set n (.lst (((left.eraseIdx r.toNat).map D.str).map .v))) := by
  have hi : r.toNat < left.length := by omega
  refine ⟨left[r.toNat], List.getElem?_eq_getElem hi, ?_⟩
  have e1 : ((left.map D.str).map R.v)[r.toNat]? = some (.v (.str left[r.toNat])) := by
    rw [List.getElem?_map, List.getElem?_map, List.getElem?_eq_getElem hi]; rfl
  have e2 : ((left.map D.str).map R.v).eraseIdx r.toNat = ((left.eraseIdx r.toNat).map D.str).map R.v := by
    rw [List.eraseIdx_eq_take_drop_succ, List.eraseIdx_eq_take_drop_succ, List.map_append, List.map_append, List.map_take, List.map_take, List.map_drop, List.map_drop]
  have hc : 0 ≤ r ∧ r < (((left.map D.str).map R.v).length : Int) ∧ ((left.map D.str).map R.v).length < 2 ^ 62 := by
    rw [List.length_map, List.length_map]; exact ⟨h0, h1, by omega⟩
  unfold mtPop
  simp only [e]
  rw [if_pos hc]
  simp only [e1]
  rw [e2]
theorem ft_ix {n : Nat} (h1 : 1 ≤ n) (h5 : n ≤ 5) (S : Store) : opIx (.v (.lst [.int 1, .int 1, .int 3, .int 15, .int 105])) (.v (.int ((n : Int) - 1))) S = .ok (.v (.int (FT n : Nat))) S := by
  match n, h1, h5 with
  | 1, _, _ => rfl
  | 2, _, _ => rfl
  | 3, _, _ => rfl
  | 4, _, _ => rfl
  | 5, _, _ => rfl
theorem k71_main (ns : List Int) (hns : ns.length ≤ 63) : ∃ S', M_law_k71 [.v (.kl (ns.map D.int))] [] = .ok (.v (.bl true)) S' := by
  suffices h : wE (M_law_k71 [.v (.kl (ns.map D.int))] []) (fun o => ∃ S', o = .ok (.v (.bl true)) S') from h
  obtain ⟨q, hq, hq4⟩ : ∃ q : Nat, (if (if (ns.length : Int) < 4 then (ns.length : Int) else 4) > 2 then (if (ns.length : Int) < 4 then (ns.length : Int) else 4) else 2) = (q : Int) ∧ q ≤ 4 :=
    ⟨(if (if (ns.length : Int) < 4 then (ns.length : Int) else 4) > 2 then (if (ns.length : Int) < 4 then (ns.length : Int) else 4) else 2).toNat, by split <;> split <;> omega, by split <;> split <;> omega⟩
  simp_arith [M_law_k71, m_law_k71]
  refine pot_2_wp hns fun h => ?_
  simp_arith [biLen_kl, List.length_map, biMin_ii, biMax_ii, hq, rg1_nat q (by omega)]
  refine for_wp [2, 3, 4, 5, 6, 7, 8] (fun i ws U => ws.length = 7 ∧ ∃ (b : Nat) (g : PtE b), b ≤ 100 * i ∧ AtE U 0 g) rfl ⟨rfl, 0, h, by omega, ⟨rfl, rfl⟩⟩ ?_ ?_
  · rintro i d ws U hd ⟨hws, b, g, hb, eU⟩
    obtain ⟨hi, rfl⟩ := rangeD_get hd
    match ws, hws with
    | [a2, a3, a4, a5, a6, a7, a8], _ =>
    simp only [Int.zero_add]
    simp_arith [b2_law_k71]
    have cl : ([R.v (.str "a"), .v (.str "aa"), .v (.str "aaa"), .v (.str "ab"), .v (.str "b"), .v (.str "ba"), .v (.str "zzzzzzzz"), .v (.str "c"), .v (.str "cb")] : List R) = ((["a", "aa", "aaa", "ab", "b", "ba", "zzzzzzzz", "c", "cb"] : List Str).map D.str).map R.v := rfl
    have LWok : ∀ w ∈ (["a", "aa", "aaa", "ab", "b", "ba", "zzzzzzzz", "c", "cb"] : List Str), GoodW w ∧ ShW w := fun w hw => by
      simp only [List.mem_cons, List.not_mem_nil, or_false] at hw
      rcases hw with rfl | rfl | rfl | rfl | rfl | rfl | rfl | rfl | rfl <;> exact ⟨⟨by decide +kernel, by decide +kernel, by decide +kernel⟩, by decide +kernel, by decide +kernel⟩
    have LWnd : (["a", "aa", "aaa", "ab", "b", "ba", "zzzzzzzz", "c", "cb"] : List Str).Nodup := by decide +kernel
    have LWlen : (["a", "aa", "aaa", "ab", "b", "ba", "zzzzzzzz", "c", "cb"] : List Str).length = 9 := rfl
    simp only [R.str] at *
    rw [cl]
    clear cl
    generalize (["a", "aa", "aaa", "ab", "b", "ba", "zzzzzzzz", "c", "cb"] : List Str) = LW at *
    have cellAt : ∀ {b1 : Nat} (x : PtE b1) (y : MO), (ptE U 0 x ++ [y])[U.length]? = some y := fun x y => by
      have := get_len (ptE U 0 x) y []
      rwa [ptE_len] at this
    have cellSet : ∀ {b1 : Nat} (x : PtE b1) (y z : MO), (ptE U 0 x ++ [y]).set U.length z = ptE U 0 x ++ [z] := fun x y z => by
      have := set_len (ptE U 0 x) y z []
      rwa [ptE_len] at this
    have lo : ∀ (B : List Str) (k : Nat), (MO.lst ((B.map D.str).map R.v)).lo k := fun B k r hr => by
      obtain ⟨d, _, rfl⟩ := List.mem_map.mp hr
      trivial
    have upd0 : ∀ {b1 : Nat} (y : PtE b1) (B : List Str), Upd (U ++ [.lst ((LW.map D.str).map R.v)]) (ptE U 0 y ++ [.lst ((B.map D.str).map R.v)]) := fun y B => by
      have h1 := ptE_upd y (eU.app [.lst ((LW.map D.str).map R.v)])
      rw [ptE_app y eU] at h1
      have h2 := h1.set (n := U.length) (lo B _)
      rwa [cellSet] at h2
    have upd1 : ∀ {b1 b2 : Nat} (x : PtE b1) (y : PtE b2) (A B : List Str), Upd (ptE U 0 x ++ [.lst ((A.map D.str).map R.v)]) (ptE U 0 y ++ [.lst ((B.map D.str).map R.v)]) := fun x y A B => by
      have h1 := ptE_upd y ((ptE_at x eU).app [.lst ((A.map D.str).map R.v)])
      rw [ptE_app y (ptE_at x eU), ptE_pt] at h1
      have h2 := h1.set (n := U.length) (lo B _)
      rwa [cellSet] at h2
    refine take_6_wp (n := 0) (eU.app _) (by omega) (by decide) (by decide) fun r1 h2 r10 r11 => ?_
    rw [ptE_app h2 eU]
    generalize hV0 : ptE U 0 h2 ++ [MO.lst ((LW.map D.str).map R.v)] = V0
    simp_arith [rg1_int (show (0 : Int) ≤ 1 + r1 by omega) (show 1 + r1 < 2 ^ 62 by omega)]
    have M5 : (1 + r1).toNat ≤ 5 := by omega
    have M1 : 1 ≤ (1 + r1).toNat := by omega
    generalize (1 + r1).toNat = M at M5 M1
    refine lcS_wp (List.range M) (fun (i : Nat) => .v (.int (0 + (i : Int)))) (fun i ys W => ∃ (ps left : List Str) (b'' : Nat) (h'' : PtE b''), b'' = b + 1 + i ∧ ys = ps.map D.str ∧ (ps ++ left).Perm LW ∧ ps.length = i ∧ W = ptE U 0 h'' ++ [.lst ((left.map D.str).map R.v)]) rfl (sz_of (by simp; omega)) ⟨[], LW, _, h2, rfl, rfl, .refl _, rfl, hV0.symm⟩ (fun i ys W ⟨ps, left, b'', h'', _, _, _, _, e'⟩ => by
      subst e'
      exact upd0 h'' left) ?_ ?_
    · rintro i' _ ys W hi' ⟨ps, left, b'', h'', rfl, rfl, hpm, hpl, hW⟩
      have hi' : i' < M := by have := (List.getElem?_eq_some_iff.mp hi').1; simpa using this
      have ll : left.length + i' = 9 := by have := hpm.length_eq; rw [List.length_append] at this; omega
      have eW : AtE W 0 h'' := hW ▸ (ptE_at h'' eU).app _
      generalize MO.lst ((ps.map D.str).map R.v) = Y
      have gW : (W ++ [Y])[U.length]? = some (.lst ((left.map D.str).map R.v)) := by
        rw [hW, List.append_assoc]
        have := get_len (ptE U 0 h'') (MO.lst ((left.map D.str).map R.v)) [Y]
        rwa [ptE_len] at this
      have bl := biLen_ref gW
      rw [List.length_map, List.length_map] at bl
      simp_arith [tyOk_lst gW, bl]
      refine take_6_wp (n := 0) (eW.app _) (by omega) (by omega) (by omega) fun r3 h4 r30 r31 => ?_
      have eq4 : ptE (W ++ [Y]) 0 h4 = ptE U 0 h4 ++ [.lst ((left.map D.str).map R.v), Y] := by
        rw [hW, List.append_assoc, ptE_app h4 (ptE_at h'' eU), ptE_pt]; rfl
      rw [eq4]
      have g4 := get_len (ptE U 0 h4) (MO.lst ((left.map D.str).map R.v)) [Y]
      rw [ptE_len] at g4
      obtain ⟨w, hw, pe⟩ := mtPop_strs g4 r30 r31 (by omega)
      have s4 := fun z => set_len (ptE U 0 h4) (MO.lst ((left.map D.str).map R.v)) z [Y]
      rw [ptE_len] at s4
      rw [s4] at pe
      simp_arith [pe]
      refine ⟨.str w, ptE U 0 h4 ++ [.lst (((left.eraseIdx r3.toNat).map D.str).map R.v)], by rw [List.append_assoc]; rfl, ps ++ [w], left.eraseIdx r3.toNat, b + 1 + i' + 1, h4, rfl, by simp, ?_, by simp [hpl], rfl⟩
      rw [List.append_assoc]
      refine List.Perm.trans (List.Perm.append_left ps ?_) hpm
      exact (perm_getElem hw).symm
    rintro ys W ⟨ps, left, b'', h'', rfl, rfl, hpm, hpl, hW⟩ _
    rw [List.length_range] at hpl
    obtain ⟨ws, ews, pws⟩ := dsort_strs ps
    have psub : ∀ x ∈ ws, x ∈ LW := fun x hx => hpm.mem_iff.mp (List.mem_append_left _ (pws.mem_iff.mp hx))
    have wg : ∀ x ∈ ws, GoodW x := fun x hx => (LWok x (psub x hx)).1
    have wsh : ∀ x ∈ ws, ShW x := fun x hx => (LWok x (psub x hx)).2
    have wnd : ws.Nodup := pws.nodup_iff.mpr (List.nodup_append.mp (hpm.nodup_iff.mpr LWnd)).1
    have wl : ws.length = M := by rw [pws.length_eq, hpl]
    have hu : Upd (U ++ [.lst ((LW.map D.str).map R.v)]) W := hW ▸ upd0 h'' left
    have so := fun (S : Store) => biSortX_lst (S := S) (srt_strs ps)
    rw [ews] at so
    have pn := popV_newU (ws.map D.str) hu
    have du := fun S => due_16_spec (S := S) (show 1 ≤ ws.length by omega) (by omega) wg
    have gt := fun S => great_trees_spec (S := S) (show 1 ≤ ws.length by omega) (by omega) wg
    have egd := gt_due wnd wg (show 1 ≤ ws.length by omega) (by omega)
    obtain ⟨x, xo, hx⟩ := due_repr wg (show 1 ≤ ws.length by omega) (by omega) wsh
    rw [← egd] at du
    have gl : (gtN ws).length = FT ws.length := by
      unfold gtN
      rw [byN_len (by simp), trN_len 70 ws (by omega) (by omega) (by omega)]
    have ftl : FT ws.length ≤ 105 := by
      have : ws.length ≤ 5 := by omega
      match ws.length, this with
      | 0, _ => decide
      | 1, _ => decide
      | 2, _ => decide
      | 3, _ => decide
      | 4, _ => decide
      | 5, _ => decide
    have b1 : ∀ S, biLen [.v (.tup ((gtN ws).map T.d))] S = .ok (.v (.int (FT ws.length : Nat))) S := fun S => by rw [biLen_tup, List.length_map, gl]
    have b2 : ∀ S, biLen [.v (.tup (ws.map D.str))] S = .ok (.v (.int (ws.length : Int))) S := fun S => by rw [biLen_tup, List.length_map]
    have fi := fun S => ft_ix (n := ws.length) (by omega) (by omega) S
    have eqf : (((FT ws.length : Nat) : Int) == ((FT ws.length : Nat) : Int)) = true := by simp
    have each : ∀ t ∈ gtN ws, plainN t = t ∧ Fine t ∧ t.ls.Nodup := fun t ht => by
      have hm := gtN_mem ht
      exact ⟨trN_plain 70 ws t hm, fine_tr wg (by omega) hm, (trN_ls 70 ws t hm).nodup_iff.mpr wnd⟩
    have w5 : ws.length ≤ 5 := by omega
    generalize gtN ws = L at *
    have ne : ∀ S, opNe (.v (.str x)) (.v (.str x)) S = .ok (.v (.bl false)) S := fun S => (nix_refl (S := S) 0 (show Nix 0 (.str x) from xo) (by decide)).2
    have all : ∀ S, biAll [.v (.lst (L.map fun _ => D.bl true))] S = .ok (.v (.bl true)) S := fun S => by
      have h := biAll_lst (S := S) (L.map fun _ => true)
      rw [List.map_map] at h
      have e : (L.map fun _ => true).all id = true := by rw [List.all_eq_true]; intro x hx; obtain ⟨_, _, rfl⟩ := List.mem_map.mp hx; rfl
      rw [e] at h
      exact h
    have fr9 : True := trivial
    simp_arith [so, pn, biTuple_lst, du, b1, b2, fi, eqf, opNe_int, rg1_int (show (0 : Int) ≤ 2 by decide) (show (2 : Int) < 2 ^ 62 by decide)]
    refine for_wp [6] (fun j vs V => vs.length = 1 ∧ V = W) rfl ⟨rfl, rfl⟩ ?_ ?_
    · rintro j d vs V hd ⟨hvs, hV⟩
      have hV := hV.symm
      subst hV
      match vs, hvs with
      | [c6'], _ =>
      simp_arith [b1_law_k71, gt, hx, ne]
    · rintro vs V ⟨hvs, hV⟩
      have hV := hV.symm
      subst hV
      match vs, hvs with
      | [c6'], _ =>
      simp_arith []
      refine lcT_wp L (fun t => .v t.d) (fun _ => .bl true) (by rw [List.map_map]; rfl) (.refl _) (sz_of (by omega)) ?_ ?_
      · intro t ht acc
        obtain ⟨e1, e2, e3⟩ := each t ht
        have ps := fun S => plain_spec 70 t S (by have := e2.dep; omega) e2
        rw [e1] at ps
        have ig := fun S => is_great_T (S := S) e2.ok (by have := e2.dep; omega) (by have := e2.len; omega)
        rw [decide_eq_true e3] at ig
        have re := fun S => (nix_refl (S := S) 60 (nix_nic 60 _ (nic_T t 60 (by have := e2.dep; omega) e2.ok)) (by decide)).1
        simp_arith [ps, ig, re]
        rfl
      have tr := fun (m2 : Env) (f : Env → Store → OutS) => trim_app (S := U) (T := ptE U 0 h'') (t := [.lst ((left.map D.str).map R.v)]) (m2 := m2) (f := f) (ptE_upd h'' eU) (by simp)
      have lt1 := eU.lt
      have k1 : keepE U.length (some (R.ref 1)) = some (R.ref 1) := by
        simp only [keepE]
        rw [if_pos (by omega)]
      subst hW
      simp_arith [all, tr, k1]
      exact ⟨_, h'', by rw [List.length_range]; omega, ptE_at h'' eU⟩
  · rintro ws U ⟨hws, b, g, hb, eU⟩
    match ws, hws with
    | [a2, a3, a4, a5, a6, a7, a8], _ =>
    simp_arith []
    exact ⟨_, rfl⟩
end Q
namespace K71
open PySem hiding Env
open L2 M Q
def topS (i : Nat) : Stmt := PySem.Challenge.pw_treewithin_k71_all_great_trees.main.body.getD i (.Pass ⟨0, 0, 0, 0⟩)
abbrev s__law_pot : Stmt := topS 16
abbrev N__law_pot : List Str := ["_law_script", "_law_seed", "_law_cell"]
theorem sc__law_pot : FnScope N__law_pot ["_law_script"] (defScope s__law_pot) := ⟨rfl, rfl, rfl, by decide +kernel, rfl, by decide +kernel, by decide +kernel⟩
abbrev s__law_text : Stmt := topS 18
abbrev N__law_text : List Str := ["_law_tree"]
theorem sc__law_text : FnScope N__law_text ["_law_tree"] (defScope s__law_text) := ⟨rfl, rfl, rfl, by decide +kernel, rfl, by decide +kernel, by decide +kernel⟩
abbrev s__law_plain : Stmt := topS 19
abbrev N__law_plain : List Str := ["_law_tree", "_law_one", "_law_other"]
theorem sc__law_plain : FnScope N__law_plain ["_law_tree"] (defScope s__law_plain) := ⟨rfl, rfl, rfl, by decide +kernel, rfl, by decide +kernel, by decide +kernel⟩
abbrev s__law_with : Stmt := topS 20
abbrev N__law_with : List Str := ["_law_tree", "_law_word", "_law_found", "_law_one", "_law_other"]
theorem sc__law_with : FnScope N__law_with ["_law_tree", "_law_word"] (defScope s__law_with) := ⟨rfl, rfl, rfl, by decide +kernel, rfl, by decide +kernel, by decide +kernel⟩
abbrev s__law_due : Stmt := topS 21
abbrev N__law_due : List Str := ["_law_words", "_law_some", "_law_word", "_law_longer", "_law_tree", "_law_one"]
theorem sc__law_due : FnScope N__law_due ["_law_words"] (defScope s__law_due) := ⟨rfl, rfl, rfl, by decide +kernel, rfl, by decide +kernel, by decide +kernel⟩
abbrev s_cuts : Stmt := topS 12
abbrev N_cuts : List Str := ["words", "found", "word", "longer", "one", "other", "cut"]
theorem sc_cuts : FnScope N_cuts ["words"] (defScope s_cuts) := ⟨rfl, rfl, rfl, by decide +kernel, rfl, by decide +kernel, by decide +kernel⟩
abbrev s_text_of : Stmt := topS 9
abbrev N_text_of : List Str := ["tree"]
theorem sc_text_of : FnScope N_text_of ["tree"] (defScope s_text_of) := ⟨rfl, rfl, rfl, by decide +kernel, rfl, by decide +kernel, by decide +kernel⟩
abbrev s_plain : Stmt := topS 10
abbrev N_plain : List Str := ["tree"]
theorem sc_plain : FnScope N_plain ["tree"] (defScope s_plain) := ⟨rfl, rfl, rfl, by decide +kernel, rfl, by decide +kernel, by decide +kernel⟩
abbrev s_trees_of : Stmt := topS 13
abbrev N_trees_of : List Str := ["words", "found", "one", "other", "rights", "left", "right"]
theorem sc_trees_of : FnScope N_trees_of ["words"] (defScope s_trees_of) := ⟨rfl, rfl, rfl, by decide +kernel, rfl, by decide +kernel, by decide +kernel⟩
abbrev s_great_trees : Stmt := topS 14
abbrev N_great_trees : List Str := ["words"]
theorem sc_great_trees : FnScope N_great_trees ["words"] (defScope s_great_trees) := ⟨rfl, rfl, rfl, by decide +kernel, rfl, by decide +kernel, by decide +kernel⟩
abbrev s__law_take : Stmt := topS 17
abbrev N__law_take : List Str := ["_law_pot_here", "_law_many", "_law_digit", "_law_mixed"]
theorem sc__law_take : FnScope N__law_take ["_law_pot_here", "_law_many"] (defScope s__law_take) := ⟨rfl, rfl, rfl, by decide +kernel, rfl, by decide +kernel, by decide +kernel⟩
abbrev s_put_nodes : Stmt := topS 5
abbrev N_put_nodes : List Str := ["tree", "found", "one"]
theorem sc_put_nodes : FnScope N_put_nodes ["tree", "found"] (defScope s_put_nodes) := ⟨rfl, rfl, rfl, by decide +kernel, rfl, by decide +kernel, by decide +kernel⟩
abbrev s_nodes : Stmt := topS 6
abbrev N_nodes : List Str := ["tree", "found"]
theorem sc_nodes : FnScope N_nodes ["tree"] (defScope s_nodes) := ⟨rfl, rfl, rfl, by decide +kernel, rfl, by decide +kernel, by decide +kernel⟩
abbrev s_leaves : Stmt := topS 7
abbrev N_leaves : List Str := ["tree", "node"]
theorem sc_leaves : FnScope N_leaves ["tree"] (defScope s_leaves) := ⟨rfl, rfl, rfl, by decide +kernel, rfl, by decide +kernel, by decide +kernel⟩
abbrev s_is_word : Stmt := topS 3
abbrev N_is_word : List Str := ["thing", "letter"]
theorem sc_is_word : FnScope N_is_word ["thing"] (defScope s_is_word) := ⟨rfl, rfl, rfl, by decide +kernel, rfl, by decide +kernel, by decide +kernel⟩
abbrev s_is_tree : Stmt := topS 4
abbrev N_is_tree : List Str := ["thing"]
theorem sc_is_tree : FnScope N_is_tree ["thing"] (defScope s_is_tree) := ⟨rfl, rfl, rfl, by decide +kernel, rfl, by decide +kernel, by decide +kernel⟩
abbrev s_is_great : Stmt := topS 8
abbrev N_is_great : List Str := ["thing", "words"]
theorem sc_is_great : FnScope N_is_great ["thing"] (defScope s_is_great) := ⟨rfl, rfl, rfl, by decide +kernel, rfl, by decide +kernel, by decide +kernel⟩
abbrev s_law : Stmt := topS 22
abbrev N_law : List Str := ["_law_script", "_law_pot_here", "_law_k", "_law_left", "_law_words", "_law_due_here", "_law_again", "_law_turn", "_law_tree"]
theorem sc_law : FnScope N_law ["_law_script"] (defScope s_law) := ⟨rfl, rfl, rfl, by decide +kernel, rfl, by decide +kernel, by decide +kernel⟩
structure Tp (w : World) (K : PySem.W.Frag) (mg : Str → Option Value) where
  a__law_pot : Addr
  fd__law_pot : FuncData
  F__law_pot : Fun K "_law_pot" "_law_pot" s__law_pot a__law_pot fd__law_pot
  b__law_pot : Binds K fd__law_pot ["_law_script"] []
  m__law_pot : mg "_law_pot" = some (.ref a__law_pot)
  a__law_text : Addr
  fd__law_text : FuncData
  F__law_text : Fun K "_law_text" "_law_text" s__law_text a__law_text fd__law_text
  b__law_text : Binds K fd__law_text ["_law_tree"] []
  m__law_text : mg "_law_text" = some (.ref a__law_text)
  a__law_plain : Addr
  fd__law_plain : FuncData
  F__law_plain : Fun K "_law_plain" "_law_plain" s__law_plain a__law_plain fd__law_plain
  b__law_plain : Binds K fd__law_plain ["_law_tree"] []
  m__law_plain : mg "_law_plain" = some (.ref a__law_plain)
  a__law_with : Addr
  fd__law_with : FuncData
  F__law_with : Fun K "_law_with" "_law_with" s__law_with a__law_with fd__law_with
  b__law_with : Binds K fd__law_with ["_law_tree", "_law_word"] []
  m__law_with : mg "_law_with" = some (.ref a__law_with)
  a__law_due : Addr
  fd__law_due : FuncData
  F__law_due : Fun K "_law_due" "_law_due" s__law_due a__law_due fd__law_due
  b__law_due : Binds K fd__law_due ["_law_words"] []
  m__law_due : mg "_law_due" = some (.ref a__law_due)
  a_cuts : Addr
  fd_cuts : FuncData
  F_cuts : Fun K "cuts" "cuts" s_cuts a_cuts fd_cuts
  b_cuts : Binds K fd_cuts ["words"] []
  m_cuts : mg "cuts" = some (.ref a_cuts)
  a_text_of : Addr
  fd_text_of : FuncData
  F_text_of : Fun K "text_of" "text_of" s_text_of a_text_of fd_text_of
  b_text_of : Binds K fd_text_of ["tree"] []
  m_text_of : mg "text_of" = some (.ref a_text_of)
  a_plain : Addr
  fd_plain : FuncData
  F_plain : Fun K "plain" "plain" s_plain a_plain fd_plain
  b_plain : Binds K fd_plain ["tree"] []
  m_plain : mg "plain" = some (.ref a_plain)
  a_trees_of : Addr
  fd_trees_of : FuncData
  F_trees_of : Fun K "trees_of" "trees_of" s_trees_of a_trees_of fd_trees_of
  b_trees_of : Binds K fd_trees_of ["words"] []
  m_trees_of : mg "trees_of" = some (.ref a_trees_of)
  a_great_trees : Addr
  fd_great_trees : FuncData
  F_great_trees : Fun K "great_trees" "great_trees" s_great_trees a_great_trees fd_great_trees
  b_great_trees : Binds K fd_great_trees ["words"] []
  m_great_trees : mg "great_trees" = some (.ref a_great_trees)
  a__law_take : Addr
  fd__law_take : FuncData
  F__law_take : Fun K "_law_take" "_law_take" s__law_take a__law_take fd__law_take
  b__law_take : Binds K fd__law_take ["_law_pot_here", "_law_many"] []
  m__law_take : mg "_law_take" = some (.ref a__law_take)
  a_put_nodes : Addr
  fd_put_nodes : FuncData
  F_put_nodes : Fun K "put_nodes" "put_nodes" s_put_nodes a_put_nodes fd_put_nodes
  b_put_nodes : Binds K fd_put_nodes ["tree", "found"] []
  m_put_nodes : mg "put_nodes" = some (.ref a_put_nodes)
  a_nodes : Addr
  fd_nodes : FuncData
  F_nodes : Fun K "nodes" "nodes" s_nodes a_nodes fd_nodes
  b_nodes : Binds K fd_nodes ["tree"] []
  m_nodes : mg "nodes" = some (.ref a_nodes)
  a_leaves : Addr
  fd_leaves : FuncData
  F_leaves : Fun K "leaves" "leaves" s_leaves a_leaves fd_leaves
  b_leaves : Binds K fd_leaves ["tree"] []
  m_leaves : mg "leaves" = some (.ref a_leaves)
  a_is_word : Addr
  fd_is_word : FuncData
  F_is_word : Fun K "is_word" "is_word" s_is_word a_is_word fd_is_word
  b_is_word : Binds K fd_is_word ["thing"] []
  m_is_word : mg "is_word" = some (.ref a_is_word)
  a_is_tree : Addr
  fd_is_tree : FuncData
  F_is_tree : Fun K "is_tree" "is_tree" s_is_tree a_is_tree fd_is_tree
  b_is_tree : Binds K fd_is_tree ["thing"] []
  m_is_tree : mg "is_tree" = some (.ref a_is_tree)
  a_is_great : Addr
  fd_is_great : FuncData
  F_is_great : Fun K "is_great" "is_great" s_is_great a_is_great fd_is_great
  b_is_great : Binds K fd_is_great ["thing"] []
  m_is_great : mg "is_great" = some (.ref a_is_great)
  a_law : Addr
  fd_law : FuncData
  F_law : Fun K "law" "law" s_law a_law fd_law
  b_law : Binds K fd_law ["_law_script"] []
  m_law : mg "law" = some (.ref a_law)
  t_LETTERS : Tok
  c_LETTERS : mg "LETTERS" = some (.str "abcdefghijklmnopqrstuvwxyz" t_LETTERS)
  t_MOST_LETTERS : Tok
  c_MOST_LETTERS : mg "MOST_LETTERS" = some (.int 8 t_MOST_LETTERS)
  z_all : mg "all" = none
  z_isinstance : mg "isinstance" = none
  z_len : mg "len" = none
  z_max : mg "max" = none
  z_min : mg "min" = none
  z_range : mg "range" = none
  z_repr : mg "repr" = none
  z_set : mg "set" = none
  z_sorted : mg "sorted" = none
  z_str : mg "str" = none
  z_tuple : mg "tuple" = none
section
variable {P : Program} {w : World} {K : PySem.W.Frag} {mg : Str → Option Value} {base : Heap}
theorem w__law_pot (T : Tp w K mg) : FnG P w K mg base CX0 1 T.a__law_pot T.fd__law_pot ["_law_script"] (spM K 1 M_pot_2) :=
  okMG (N := N__law_pot) T.F__law_pot sc__law_pot rfl fun cdv A outer s H E hr =>
  (psm_cons (psm_set 1 sc__law_pot.nd rfl (Or.inl rfl) (pm_bin opm_add (pm_callB cam_len rfl T.z_len bb_len (pam_cons (pm_var 0) pam_nil)) pm_int))
  (psm_cons (psm_for PassesOwn.never rfl (pim_any (pm_pop (pm_slice (pm_var 0) pom_none (pom_some pm_int)))) (pgm_name 2 sc__law_pot.nd rfl (Or.inl rfl)) (psm_one (psm_set 1 sc__law_pot.nd rfl (Or.inl rfl) (pm_bin opm_mod (pm_bin opm_add (pm_bin opm_add (pm_bin opm_mul (pm_var 1) pm_int) (pm_bin opm_mod (pm_var 2) (pm_bin opm_pow pm_int pm_int))) pm_int) pm_int))))
  (psm_one (psm_ret (pm_lst (pam_cons (pm_lc (own := [("_law_cell", 2)]) rfl sc__law_pot.nd (pim_any (pm_pop (pm_slice (pm_var 0) pom_none (pom_some pm_int)))) (blkOk_by (N := N__law_pot) (sc := (defScope s__law_pot)) (by decide +kernel)) (fun _ _ _ _ _ => (pgm_name 2 sc__law_pot.nd rfl (Or.inl rfl))) (fun _ _ _ _ _ => (ptsm_one (ptm_cmp opm_ge (pm_var 2) (pm_bin opm_pow pm_int pm_int)))) (fun _ _ _ _ _ => (pm_var 2))) (pam_cons (pm_var 1) (pam_cons pm_int pam_nil))))))))
theorem w__law_text (T : Tp w K mg) : ∀ k : Nat, FnG P w K mg base CX0 (k + 0) T.a__law_text T.fd__law_text ["_law_tree"] (spM K 1 (R_text_2 k))
  | 0 => FnG.none rfl
  | k + 1 => by
    have ih := w__law_text T k
    rw [show k + 1 + 0 = (k + 0) + 1 by omega]
    exact okMVG (N := N__law_text) T.F__law_text sc__law_text rfl fun cdv A outer s H E hr =>
  (psm_cons (psm_if (ptm_val (pm_callB cam_isi rfl T.z_isinstance bb_isinstance (pam_cons (pm_var 0) (pam_cons (pm_ty rfl T.z_str bb_str) pam_nil)))) (psm_one (psm_ret (pm_var 0))) psm_nil)
  (psm_one (psm_ret (pm_bin opm_add (pm_bin opm_add (pm_bin opm_add (pm_bin opm_add pm_str (pmg_call ih hr rfl T.m__law_text T.F__law_text.kp T.b__law_text pass0 (fun _ => rfl) (pam_cons (pm_ix (pm_var 0) pm_int) pam_nil) (hA := (an_cons an_nil)))) pm_str) (pmg_call ih hr rfl T.m__law_text T.F__law_text.kp T.b__law_text pass0 (fun _ => rfl) (pam_cons (pm_ix (pm_var 0) pm_int) pam_nil) (hA := (an_cons an_nil)))) pm_str))))
theorem w__law_plain (T : Tp w K mg) : ∀ k : Nat, FnG P w K mg base CX0 (k + 70) T.a__law_plain T.fd__law_plain ["_law_tree"] (spM K 1 (R_plain_3 k))
  | 0 => FnG.none rfl
  | k + 1 => by
    have ih := w__law_plain T k
    rw [show k + 1 + 70 = (k + 70) + 1 by omega]
    exact okMVG (N := N__law_plain) T.F__law_plain sc__law_plain rfl fun cdv A outer s H E hr =>
  (psm_cons (psm_if (ptm_val (pm_callB cam_isi rfl T.z_isinstance bb_isinstance (pam_cons (pm_var 0) (pam_cons (pm_ty rfl T.z_str bb_str) pam_nil)))) (psm_one (psm_ret (pm_var 0))) psm_nil)
  (psm_cons (psm_par 1 2 rfl sc__law_plain.nd rfl rfl (by decide) rfl rfl (pmg_call ih hr rfl T.m__law_plain T.F__law_plain.kp T.b__law_plain pass0 (fun _ => rfl) (pam_cons (pm_ix (pm_var 0) pm_int) pam_nil) (hA := (an_cons an_nil))) (pmg_call ih hr rfl T.m__law_plain T.F__law_plain.kp T.b__law_plain pass0 (fun _ => rfl) (pam_cons (pm_ix (pm_var 0) pm_int) pam_nil) (hA := (an_cons an_nil))) (by rfl))
  (psm_cons (psm_if (ptm_cmp opm_ltS (pmg_call (w__law_text (base := base) T 70) (hr.mono (by omega)) rfl T.m__law_text T.F__law_text.kp T.b__law_text pass0 (fun _ => rfl) (pam_cons (pm_var 2) pam_nil) (hA := (an_cons an_nil))) (pmg_call (w__law_text (base := base) T 70) (hr.mono (by omega)) rfl T.m__law_text T.F__law_text.kp T.b__law_text pass0 (fun _ => rfl) (pam_cons (pm_var 1) pam_nil) (hA := (an_cons an_nil)))) (psm_one (psm_ret (pm_tup (pam_cons (pm_var 2) (pam_cons (pm_var 1) pam_nil))))) psm_nil)
  (psm_one (psm_ret (pm_tup (pam_cons (pm_var 1) (pam_cons (pm_var 2) pam_nil))))))))
theorem w__law_with (T : Tp w K mg) : ∀ k : Nat, FnG P w K mg base CX0 (k + 0) T.a__law_with T.fd__law_with ["_law_tree", "_law_word"] (spM K 2 (R_with k))
  | 0 => FnG.none rfl
  | k + 1 => by
    have ih := w__law_with T k
    rw [show k + 1 + 0 = (k + 0) + 1 by omega]
    exact okMVG (N := N__law_with) T.F__law_with sc__law_with rfl fun cdv A outer s H E hr =>
  (psm_cons (psm_set 2 sc__law_with.nd rfl (Or.inl rfl) (pm_lstV (pam_cons (pm_tup (pam_cons (pm_var 0) (pam_cons (pm_var 1) pam_nil))) pam_nil)))
  (psm_cons (psm_if (ptm_val (pm_callB cam_isi rfl T.z_isinstance bb_isinstance (pam_cons (pm_var 0) (pam_cons (pm_ty rfl T.z_tuple bb_tuple) pam_nil)))) (psm_cons (psm_set 2 sc__law_with.nd rfl (Or.inl rfl) (pm_pop (pm_bin opm_add (pm_var 2) (pm_pop (pm_lc (own := [("_law_one", 3)]) rfl sc__law_with.nd (pim_any (pmg_call ih hr rfl T.m__law_with T.F__law_with.kp T.b__law_with pass0 (fun _ => rfl) (pam_cons (pm_ix (pm_var 0) pm_int) (pam_cons (pm_var 1) pam_nil)) (hA := (an_cons (an_cons an_nil))))) (blkOk_by (N := N__law_with) (sc := (defScope s__law_with)) (by decide +kernel)) (fun _ _ _ _ _ => (pgm_name 3 sc__law_with.nd rfl (Or.inl rfl))) (fun _ _ _ _ _ => ptsm_nil) (fun _ _ _ _ _ => (pm_tup (pam_cons (pm_var 3) (pam_cons (pm_ix (pm_var 0) pm_int) pam_nil)))))))))
  (psm_one (psm_set 2 sc__law_with.nd rfl (Or.inl rfl) (pm_pop (pm_bin opm_add (pm_var 2) (pm_pop (pm_lc (own := [("_law_other", 4)]) rfl sc__law_with.nd (pim_any (pmg_call ih hr rfl T.m__law_with T.F__law_with.kp T.b__law_with pass0 (fun _ => rfl) (pam_cons (pm_ix (pm_var 0) pm_int) (pam_cons (pm_var 1) pam_nil)) (hA := (an_cons (an_cons an_nil))))) (blkOk_by (N := N__law_with) (sc := (defScope s__law_with)) (by decide +kernel)) (fun _ _ _ _ _ => (pgm_name 4 sc__law_with.nd rfl (Or.inl rfl))) (fun _ _ _ _ _ => ptsm_nil) (fun _ _ _ _ _ => (pm_tup (pam_cons (pm_ix (pm_var 0) pm_int) (pam_cons (pm_var 4) pam_nil))))))))))) psm_nil)
  (psm_one (psm_ret (pm_var 2)))))
theorem w__law_due (T : Tp w K mg) : FnG P w K mg base CX0 141 T.a__law_due T.fd__law_due ["_law_words"] (spM K 1 M_due_16) :=
  okMVG (N := N__law_due) T.F__law_due sc__law_due rfl fun cdv A outer s H E hr =>
  (psm_cons (psm_set 1 sc__law_due.nd rfl (Or.inl rfl) (pm_lstV (pam_cons (pm_ix (pm_var 0) pm_int) pam_nil)))
  (psm_cons (psm_for PassesOwn.never rfl (pim_any (pm_pop (pm_slice (pm_var 0) (pom_some pm_int) pom_none))) (pgm_name 2 sc__law_due.nd rfl (Or.inl rfl)) (psm_cons (psm_set 3 sc__law_due.nd rfl (Or.inl rfl) (pm_lst pam_nil))
  (psm_cons (psm_for PassesOwn.never rfl (pim_any (pm_var 1)) (pgm_name 4 sc__law_due.nd rfl (Or.inl rfl)) (psm_one (psm_expr (pm_bm PySem.F.plainAttrs_list PySem.F.slot_list_extend PySem.F.type_list_extend mtm_ext (pm_var 3) (pam_cons (pm_pop (pm_lc (own := [("_law_one", 5)]) rfl sc__law_due.nd (pim_any (pmg_call (w__law_with (base := base) T 70) (hr.mono (by omega)) rfl T.m__law_with T.F__law_with.kp T.b__law_with pass0 (fun _ => rfl) (pam_cons (pm_var 4) (pam_cons (pm_var 2) pam_nil)) (hA := (an_cons (an_cons an_nil))))) (blkOk_by (N := N__law_due) (sc := (defScope s__law_due)) (by decide +kernel)) (fun _ _ _ _ _ => (pgm_name 5 sc__law_due.nd rfl (Or.inl rfl))) (fun _ _ _ _ _ => ptsm_nil) (fun _ _ _ _ _ => (pmg_call (w__law_plain (base := base) T 70) (hr.mono (by omega)) rfl T.m__law_plain T.F__law_plain.kp T.b__law_plain pass0 (fun _ => rfl) (pam_cons (pm_var 5) pam_nil) (hA := (an_cons an_nil)))))) pam_nil)))))
  (psm_one (psm_set 1 sc__law_due.nd rfl (Or.inl rfl) (pm_var 3))))))
  (psm_one (psm_ret (pm_callTy cam_tuple rfl T.z_tuple bb_tuple (pam_cons (pm_pop (pmg_sortKN rfl T.z_sorted rfl T.m__law_text (w__law_text (base := base) T 70) (RoomG.in1 (RoomG.in1 (hr.mono (by omega)))) T.b__law_text hr.units (fun _ => rfl) (pm_var 1))) pam_nil))))))
theorem w_cuts (T : Tp w K mg) : FnG P w K mg base CX0 1 T.a_cuts T.fd_cuts ["words"] (spM K 1 M_cuts) :=
  okMVG (N := N_cuts) T.F_cuts sc_cuts rfl fun cdv A outer s H E hr =>
  (psm_cons (psm_set 1 sc_cuts.nd rfl (Or.inl rfl) (pm_lstV (pam_cons (pm_tup (pam_cons (pm_tup (pam_cons (pm_ix (pm_var 0) pm_int) pam_nil)) (pam_cons (pm_tup pam_nil) pam_nil))) pam_nil)))
  (psm_cons (psm_for PassesOwn.never rfl (pim_any (pm_pop (pm_slice (pm_var 0) (pom_some pm_int) pom_none))) (pgm_name 2 sc_cuts.nd rfl (Or.inl rfl)) (psm_cons (psm_set 3 sc_cuts.nd rfl (Or.inl rfl) (pm_lst pam_nil))
  (psm_cons (psm_for PassesOwn.never rfl (pim_any (pm_var 1)) (pgm_tup rfl (pgms_cons (pgm_name 4 sc_cuts.nd rfl (Or.inl rfl)) (pgms_cons (pgm_name 5 sc_cuts.nd rfl (Or.inl rfl)) pgms_nil))) (psm_one (psm_expr (pm_bm PySem.F.plainAttrs_list PySem.F.slot_list_extend PySem.F.type_list_extend mtm_ext (pm_var 3) (pam_cons (pm_lstV (pam_cons (pm_tup (pam_cons (pm_bin opm_add (pm_var 4) (pm_tup (pam_cons (pm_var 2) pam_nil))) (pam_cons (pm_var 5) pam_nil))) (pam_cons (pm_tup (pam_cons (pm_var 4) (pam_cons (pm_bin opm_add (pm_var 5) (pm_tup (pam_cons (pm_var 2) pam_nil))) pam_nil))) pam_nil))) pam_nil)))))
  (psm_one (psm_set 1 sc_cuts.nd rfl (Or.inl rfl) (pm_var 3))))))
  (psm_one (psm_ret (pm_pop (pm_lc (own := [("cut", 6)]) rfl sc_cuts.nd (pim_any (pm_var 1)) (blkOk_by (N := N_cuts) (sc := (defScope s_cuts)) (by decide +kernel)) (fun _ _ _ _ _ => (pgm_name 6 sc_cuts.nd rfl (Or.inl rfl))) (fun _ _ _ _ _ => (ptsm_one (ptm_cmp (opm_ne hr.units) (pm_ix (pm_var 6) pm_int) (pm_tup pam_nil)))) (fun _ _ _ _ _ => (pm_var 6))))))))
theorem w_text_of (T : Tp w K mg) : ∀ k : Nat, FnG P w K mg base CX0 (k + 0) T.a_text_of T.fd_text_of ["tree"] (spM K 1 (R_text_of k))
  | 0 => FnG.none rfl
  | k + 1 => by
    have ih := w_text_of T k
    rw [show k + 1 + 0 = (k + 0) + 1 by omega]
    exact okMVG (N := N_text_of) T.F_text_of sc_text_of rfl fun cdv A outer s H E hr =>
  (psm_cons (psm_if (ptm_val (pm_callB cam_isi rfl T.z_isinstance bb_isinstance (pam_cons (pm_var 0) (pam_cons (pm_ty rfl T.z_tuple bb_tuple) pam_nil)))) (psm_one (psm_ret (pm_bin opm_add (pm_bin opm_add (pm_bin opm_add (pm_bin opm_add pm_str (pmg_call ih hr rfl T.m_text_of T.F_text_of.kp T.b_text_of pass0 (fun _ => rfl) (pam_cons (pm_ix (pm_var 0) pm_int) pam_nil) (hA := (an_cons an_nil)))) pm_str) (pmg_call ih hr rfl T.m_text_of T.F_text_of.kp T.b_text_of pass0 (fun _ => rfl) (pam_cons (pm_ix (pm_var 0) pm_int) pam_nil) (hA := (an_cons an_nil)))) pm_str))) psm_nil)
  (psm_one (psm_ret (pm_var 0))))
theorem w_plain (T : Tp w K mg) : ∀ k : Nat, FnG P w K mg base CX0 (k + 72) T.a_plain T.fd_plain ["tree"] (spM K 1 (R_plain_4 k))
  | 0 => FnG.none rfl
  | k + 1 => by
    have ih := w_plain T k
    rw [show k + 1 + 72 = (k + 72) + 1 by omega]
    exact okMVG (N := N_plain) T.F_plain sc_plain rfl fun cdv A outer s H E hr =>
  (psm_cons (psm_if (ptm_not (ptm_val (pm_callB cam_isi rfl T.z_isinstance bb_isinstance (pam_cons (pm_var 0) (pam_cons (pm_ty rfl T.z_tuple bb_tuple) pam_nil))))) (psm_one (psm_ret (pm_var 0))) psm_nil)
  (psm_one (psm_ret (pm_callTy cam_tuple rfl T.z_tuple bb_tuple (pam_cons (pm_pop (pmg_sortK rfl T.z_sorted rfl T.m_text_of (w_text_of (base := base) T 70) (RoomG.in1 (RoomG.in1 (hr.mono (by omega)))) T.b_text_of hr.units (fun _ => rfl) (pm_lstV (pam_cons (pmg_call ih hr rfl T.m_plain T.F_plain.kp T.b_plain pass0 (fun _ => rfl) (pam_cons (pm_ix (pm_var 0) pm_int) pam_nil) (hA := (an_cons an_nil))) (pam_cons (pmg_call ih hr rfl T.m_plain T.F_plain.kp T.b_plain pass0 (fun _ => rfl) (pam_cons (pm_ix (pm_var 0) pm_int) pam_nil) (hA := (an_cons an_nil))) pam_nil))))) pam_nil)))))
theorem w_trees_of (T : Tp w K mg) : ∀ k : Nat, FnG P w K mg base CX0 (k + 142) T.a_trees_of T.fd_trees_of ["words"] (spM K 1 (R_trees_of_2 k))
  | 0 => FnG.none rfl
  | k + 1 => by
    have ih := w_trees_of T k
    rw [show k + 1 + 142 = (k + 142) + 1 by omega]
    exact okMVG (N := N_trees_of) T.F_trees_of sc_trees_of rfl fun cdv A outer s H E hr =>
  (psm_cons (psm_if (ptm_cmp (opm_eq hr.units) (pm_callB cam_len rfl T.z_len bb_len (pam_cons (pm_var 0) pam_nil)) pm_int) (psm_one (psm_ret (pm_lstV (pam_cons (pm_ix (pm_var 0) pm_int) pam_nil)))) psm_nil)
  (psm_cons (psm_set 1 sc_trees_of.nd rfl (Or.inl rfl) (pm_lst pam_nil))
  (psm_cons (psm_for PassesOwn.never rfl (pim_any (pmg_call (w_cuts (base := base) T) (hr.mono (by omega)) rfl T.m_cuts T.F_cuts.kp T.b_cuts pass0 (fun _ => rfl) (pam_cons (pm_var 0) pam_nil) (hA := (an_cons an_nil)))) (pgm_tup rfl (pgms_cons (pgm_name 2 sc_trees_of.nd rfl (Or.inl rfl)) (pgms_cons (pgm_name 3 sc_trees_of.nd rfl (Or.inl rfl)) pgms_nil))) (psm_cons (psm_set 4 sc_trees_of.nd rfl (Or.inl rfl) (pmg_call ih hr rfl T.m_trees_of T.F_trees_of.kp T.b_trees_of pass0 (fun _ => rfl) (pam_cons (pm_var 3) pam_nil) (hA := (an_cons an_nil))))
  (psm_one (psm_for PassesOwn.never rfl (pim_any (pmg_call ih hr rfl T.m_trees_of T.F_trees_of.kp T.b_trees_of pass0 (fun _ => rfl) (pam_cons (pm_var 2) pam_nil) (hA := (an_cons an_nil)))) (pgm_name 5 sc_trees_of.nd rfl (Or.inr rfl)) (psm_one (psm_expr (pm_bm PySem.F.plainAttrs_list PySem.F.slot_list_extend PySem.F.type_list_extend mtm_ext (pm_var 1) (pam_cons (pm_pop (pm_lc (own := [("right", 6)]) rfl sc_trees_of.nd (pim_any (pm_var 4)) (blkOk_by (N := N_trees_of) (sc := (defScope s_trees_of)) (by decide +kernel)) (fun _ _ _ _ _ => (pgm_name 6 sc_trees_of.nd rfl (Or.inl rfl))) (fun _ _ _ _ _ => ptsm_nil) (fun _ _ _ _ _ => (pmg_call (w_plain (base := base) T 70) (hr.mono (by omega)) rfl T.m_plain T.F_plain.kp T.b_plain pass0 (fun _ => rfl) (pam_cons (pm_tup (pam_cons (pm_var 5) (pam_cons (pm_var 6) pam_nil))) pam_nil) (hA := (an_cons an_nil)))))) pam_nil))))))))
  (psm_one (psm_ret (pm_var 1))))))
theorem w_great_trees (T : Tp w K mg) : FnG P w K mg base CX0 213 T.a_great_trees T.fd_great_trees ["words"] (spM K 1 M_great_trees_2) :=
  okMVG (N := N_great_trees) T.F_great_trees sc_great_trees rfl fun cdv A outer s H E hr =>
  (psm_one (psm_ret (pm_callTy cam_tuple rfl T.z_tuple bb_tuple (pam_cons (pm_pop (pmg_sortKN rfl T.z_sorted rfl T.m_text_of (w_text_of (base := base) T 70) (RoomG.in1 (RoomG.in1 (hr.mono (by omega)))) T.b_text_of hr.units (fun _ => rfl) (pmg_call (w_trees_of (base := base) T 70) (hr.mono (by omega)) rfl T.m_trees_of T.F_trees_of.kp T.b_trees_of pass0 (fun _ => rfl) (pam_cons (pm_var 0) pam_nil) (hA := (an_cons an_nil))))) pam_nil))))
theorem w__law_take (T : Tp w K mg) : FnG P w K mg base CX0 1 T.a__law_take T.fd__law_take ["_law_pot_here", "_law_many"] (spM K 2 M_take_6) :=
  okMVG (N := N__law_take) T.F__law_take sc__law_take rfl fun cdv A outer s H E hr =>
  (psm_cons (psm_while PassesOwn.never (PW.pt (pwm_and (ptm_cmp (opm_ne hr.units) (pm_ix (pm_var 0) pm_int) (pm_lstV pam_nil)) (pwm_and1 (ptm_cmp (opm_eq hr.units) (pm_ix (pm_ix (pm_var 0) pm_int) pm_int) pm_int)))) (psm_one (psm_expr (pm_bm PySem.F.plainAttrs_list PySem.F.slot_list_pop PySem.F.type_list_pop mtm_pop (pm_ix (pm_var 0) pm_int) (pam_cons pm_int pam_nil)))))
  (psm_cons (psm_if (ptm_cmp (opm_ne hr.units) (pm_ix (pm_var 0) pm_int) (pm_lstV pam_nil)) (psm_cons (psm_set 2 sc__law_take.nd rfl (Or.inl rfl) (pm_bin opm_mod (pm_ix (pm_ix (pm_var 0) pm_int) pm_int) (pm_var 1)))
  (psm_cons (psm_setIx (pm_bin opm_fdiv (pm_ix (pm_ix (pm_var 0) pm_int) pm_int) (pm_var 1)) (pm_ix (pm_var 0) pm_int) pm_int)
  (psm_one (psm_ret (pm_var 2))))) psm_nil)
  (psm_cons (psm_setIx (pm_bin opm_add (pm_ix (pm_var 0) pm_int) pm_int) (pm_var 0) pm_int)
  (psm_cons (psm_set 3 sc__law_take.nd rfl (Or.inl rfl) (pm_bin opm_mod (pm_bin opm_mul (pm_bin opm_add (pm_bin opm_add (pm_ix (pm_var 0) pm_int) (pm_bin opm_mul (pm_bin opm_mul pm_int (pm_ix (pm_var 0) pm_int)) (pm_ix (pm_var 0) pm_int))) pm_int) pm_int) pm_int))
  (psm_cons (psm_set 3 sc__law_take.nd rfl (Or.inl rfl) (pm_bin opm_mod (pm_bin opm_mul (pm_var 3) (pm_bin opm_add (pm_bin opm_mod (pm_var 3) pm_int) (pm_bin opm_mul pm_int (pm_ix (pm_var 0) pm_int)))) pm_int))
  (psm_one (psm_ret (pm_bin opm_mod (pm_bin opm_add (pm_bin opm_fdiv (pm_var 3) pm_int) (pm_bin opm_fdiv (pm_var 3) pm_int)) (pm_var 1)))))))))
theorem w_put_nodes (T : Tp w K mg) : ∀ k : Nat, FnG P w K mg base CX0 (k + 0) T.a_put_nodes T.fd_put_nodes ["tree", "found"] (spM K 2 (R_put_nodes k))
  | 0 => FnG.none rfl
  | k + 1 => by
    have ih := w_put_nodes T k
    rw [show k + 1 + 0 = (k + 0) + 1 by omega]
    exact okMVG (N := N_put_nodes) T.F_put_nodes sc_put_nodes rfl fun cdv A outer s H E hr =>
  (psm_cons (psm_if (ptm_val (pm_callB cam_isi rfl T.z_isinstance bb_isinstance (pam_cons (pm_var 0) (pam_cons (pm_ty rfl T.z_tuple bb_tuple) pam_nil)))) (psm_cons (psm_set 2 sc_put_nodes.nd rfl (Or.inl rfl) (pmg_call ih hr rfl T.m_put_nodes T.F_put_nodes.kp T.b_put_nodes pass0 (fun _ => rfl) (pam_cons (pm_ix (pm_var 0) pm_int) (pam_cons (pm_var 1) pam_nil)) (hA := (an_cons (an_cons an_nil)))))
  (psm_one (psm_expr (pm_bm PySem.F.plainAttrs_list PySem.F.slot_list_append PySem.F.type_list_append mtm_append (pm_var 1) (pam_cons (pm_tup (pam_cons (pm_var 2) (pam_cons (pmg_call ih hr rfl T.m_put_nodes T.F_put_nodes.kp T.b_put_nodes pass0 (fun _ => rfl) (pam_cons (pm_ix (pm_var 0) pm_int) (pam_cons (pm_var 1) pam_nil)) (hA := (an_cons (an_cons an_nil)))) pam_nil))) pam_nil))))) (psm_one (psm_expr (pm_bm PySem.F.plainAttrs_list PySem.F.slot_list_append PySem.F.type_list_append mtm_append (pm_var 1) (pam_cons (pm_var 0) pam_nil)))))
  (psm_one (psm_ret (pm_bin opm_sub (pm_callB cam_len rfl T.z_len bb_len (pam_cons (pm_var 1) pam_nil)) pm_int))))
theorem w_nodes (T : Tp w K mg) : FnG P w K mg base CX0 71 T.a_nodes T.fd_nodes ["tree"] (spM K 1 M_nodes) :=
  okMVG (N := N_nodes) T.F_nodes sc_nodes rfl fun cdv A outer s H E hr =>
  (psm_cons (psm_set 1 sc_nodes.nd rfl (Or.inl rfl) (pm_lst pam_nil))
  (psm_cons (psm_expr (pmg_call (w_put_nodes (base := base) T 70) (hr.mono (by omega)) rfl T.m_put_nodes T.F_put_nodes.kp T.b_put_nodes pass0 (fun _ => rfl) (pam_cons (pm_var 0) (pam_cons (pm_var 1) pam_nil)) (hA := (an_cons (an_cons an_nil)))))
  (psm_one (psm_ret (pm_callTy cam_tuple rfl T.z_tuple bb_tuple (pam_cons (pm_var 1) pam_nil))))))
theorem w_leaves (T : Tp w K mg) : FnG P w K mg base CX0 72 T.a_leaves T.fd_leaves ["tree"] (spM K 1 M_leaves) :=
  okMVG (N := N_leaves) T.F_leaves sc_leaves rfl fun cdv A outer s H E hr =>
  (psm_one (psm_ret (pm_callTy cam_tuple rfl T.z_tuple bb_tuple (pam_cons (pm_pop (pm_lc (own := [("node", 1)]) rfl sc_leaves.nd (pim_any (pmg_call (w_nodes (base := base) T) (hr.mono (by omega)) rfl T.m_nodes T.F_nodes.kp T.b_nodes pass0 (fun _ => rfl) (pam_cons (pm_var 0) pam_nil) (hA := (an_cons an_nil)))) (blkOk_by (N := N_leaves) (sc := (defScope s_leaves)) (by decide +kernel)) (fun _ _ _ _ _ => (pgm_name 1 sc_leaves.nd rfl (Or.inl rfl))) (fun _ _ _ _ _ => (ptsm_one (ptm_val (pm_callB cam_isi rfl T.z_isinstance bb_isinstance (pam_cons (pm_var 1) (pam_cons (pm_ty rfl T.z_str bb_str) pam_nil)))))) (fun _ _ _ _ _ => (pm_var 1)))) pam_nil))))
theorem w_is_word (T : Tp w K mg) : FnG P w K mg base CX0 1 T.a_is_word T.fd_is_word ["thing"] (spM K 1 M_is_word) :=
  okMVG (N := N_is_word) T.F_is_word sc_is_word rfl fun cdv A outer s H E hr =>
  (psm_cons (psm_if (PW.pt (pwm_or (ptm_not (ptm_val (pm_callB cam_isi rfl T.z_isinstance bb_isinstance (pam_cons (pm_var 0) (pam_cons (pm_ty rfl T.z_str bb_str) pam_nil))))) (pwm_or1 (ptm_not (ptm_chain opm_le opm_le pm_int (pm_callB cam_len rfl T.z_len bb_len (pam_cons (pm_var 0) pam_nil)) (pm_c (pe_glob (v := .int 8) rfl T.c_MOST_LETTERS ⟨_, rfl⟩) fun _ _ => .int _)))))) (psm_one (psm_ret pm_bl)) psm_nil)
  (psm_one (psm_ret (pm_callB (cam_all rfl) rfl T.z_all bb_all (pam_cons (pm_pop (pm_lc (own := [("letter", 1)]) rfl sc_is_word.nd (pim_any (pm_var 0)) (blkOk_by (N := N_is_word) (sc := (defScope s_is_word)) (by decide +kernel)) (fun _ _ _ _ _ => (pgm_name 1 sc_is_word.nd rfl (Or.inl rfl))) (fun _ _ _ _ _ => ptsm_nil) (fun _ _ _ _ _ => (pm_cmp (opm_in hr.units65) (pm_var 1) (pm_c (pe_glob (v := .str "abcdefghijklmnopqrstuvwxyz") rfl T.c_LETTERS ⟨_, rfl⟩) fun _ _ => .str _) (by rfl))))) pam_nil)))))
theorem w_is_tree (T : Tp w K mg) : ∀ k : Nat, FnG P w K mg base CX0 (k + 1) T.a_is_tree T.fd_is_tree ["thing"] (spM K 1 (R_is_tree k))
  | 0 => FnG.none rfl
  | k + 1 => by
    have ih := w_is_tree T k
    rw [show k + 1 + 1 = (k + 1) + 1 by omega]
    exact okMVG (N := N_is_tree) T.F_is_tree sc_is_tree rfl fun cdv A outer s H E hr =>
  (psm_cons (psm_if (ptm_val (pm_callB cam_isi rfl T.z_isinstance bb_isinstance (pam_cons (pm_var 0) (pam_cons (pm_ty rfl T.z_tuple bb_tuple) pam_nil)))) (psm_one (psm_ret (pm_and (pm_cmp (opm_eq hr.units) (pm_callB cam_len rfl T.z_len bb_len (pam_cons (pm_var 0) pam_nil)) pm_int) (pm_and (pmg_call ih hr rfl T.m_is_tree T.F_is_tree.kp T.b_is_tree pass0 (fun _ => rfl) (pam_cons (pm_ix (pm_var 0) pm_int) pam_nil) (hA := (an_cons an_nil))) (pm_one (pmg_call ih hr rfl T.m_is_tree T.F_is_tree.kp T.b_is_tree pass0 (fun _ => rfl) (pam_cons (pm_ix (pm_var 0) pm_int) pam_nil) (hA := (an_cons an_nil)))))))) psm_nil)
  (psm_one (psm_ret (pmg_call (w_is_word (base := base) T) (hr.mono (by omega)) rfl T.m_is_word T.F_is_word.kp T.b_is_word pass0 (fun _ => rfl) (pam_cons (pm_var 0) pam_nil) (hA := (an_cons an_nil))))))
theorem w_is_great (T : Tp w K mg) : FnG P w K mg base CX0 73 T.a_is_great T.fd_is_great ["thing"] (spM K 1 M_is_great) :=
  okMVG (N := N_is_great) T.F_is_great sc_is_great rfl fun cdv A outer s H E hr =>
  (psm_cons (psm_if (ptm_not (ptm_val (pmg_call (w_is_tree (base := base) T 70) (hr.mono (by omega)) rfl T.m_is_tree T.F_is_tree.kp T.b_is_tree pass0 (fun _ => rfl) (pam_cons (pm_var 0) pam_nil) (hA := (an_cons an_nil))))) (psm_one (psm_ret pm_bl)) psm_nil)
  (psm_cons (psm_set 1 sc_is_great.nd rfl (Or.inl rfl) (pmg_call (w_leaves (base := base) T) (hr.mono (by omega)) rfl T.m_leaves T.F_leaves.kp T.b_leaves pass0 (fun _ => rfl) (pam_cons (pm_var 0) pam_nil) (hA := (an_cons an_nil))))
  (psm_one (psm_ret (pm_cmp (opm_eq hr.units) (pm_lenSetT rfl T.z_len rfl T.z_set (pm_var 1)) (pm_callB cam_len rfl T.z_len bb_len (pam_cons (pm_var 1) pam_nil)))))))
theorem w_law (T : Tp w K mg) : FnG P w K mg base CX0 214 T.a_law T.fd_law ["_law_script"] (spM K 1 M_law_k71) :=
  okMG (N := N_law) T.F_law sc_law rfl fun cdv A outer s H E hr =>
  (psm_cons (psm_set 1 sc_law.nd rfl (Or.inr rfl) (pmg_call (w__law_pot (base := base) T) (hr.mono (by omega)) rfl T.m__law_pot T.F__law_pot.kp T.b__law_pot pass0 (fun _ => rfl) (pam_cons (pm_var 0) pam_nil) (hA := (an_cons an_nil))))
  (psm_cons (psm_for PassesOwn.never rfl (pim_range1 rfl T.z_range (pam_cons (pm_callB (cam_max rfl) rfl T.z_max bb_max (pam_cons pm_int (pam_cons (pm_callB (cam_min rfl) rfl T.z_min bb_min (pam_cons pm_int (pam_cons (pm_callB cam_len rfl T.z_len bb_len (pam_cons (pm_var 0) pam_nil)) pam_nil))) pam_nil))) pam_nil)) (pgm_name 2 sc_law.nd rfl (Or.inl rfl)) (psm_trim (psm_cons (psm_set 3 sc_law.nd rfl (Or.inr rfl) (pm_lst (pam_cons pm_str (pam_cons pm_str (pam_cons pm_str (pam_cons pm_str (pam_cons pm_str (pam_cons pm_str (pam_cons pm_str (pam_cons pm_str (pam_cons pm_str pam_nil)))))))))))
  (psm_cons (psm_set 4 sc_law.nd rfl (Or.inl rfl) (pm_callTy cam_tuple rfl T.z_tuple bb_tuple (pam_cons (pm_pop (pm_callB (cam_sortX hr.units65) rfl T.z_sorted bb_sorted (pam_cons (pm_pop (pm_lc (own := [("_law_turn", 7)]) rfl sc_law.nd (pim_range1 rfl T.z_range (pam_cons (pm_bin opm_add pm_int (pmg_call (w__law_take (base := base) T) (hr.mono (by omega)) rfl T.m__law_take T.F__law_take.kp T.b__law_take pass0 (fun _ => rfl) (pam_cons (pm_var 1) (pam_cons pm_int pam_nil)) (hA := (an_cons (an_cons an_nil))))) pam_nil)) (blkOk_by (N := N_law) (sc := (defScope s_law)) (by decide +kernel)) (fun _ _ _ _ _ => (pgm_name 7 sc_law.nd rfl (Or.inl rfl))) (fun _ _ _ _ _ => ptsm_nil) (fun _ _ _ _ _ => (pm_bm PySem.F.plainAttrs_list PySem.F.slot_list_pop PySem.F.type_list_pop mtm_pop (pm_var 3) (pam_cons (pmg_call (w__law_take (base := base) T) (hr.mono (by omega)) rfl T.m__law_take T.F__law_take.kp T.b__law_take pass0 (fun _ => rfl) (pam_cons (pm_var 1) (pam_cons (pm_callB cam_len rfl T.z_len bb_len (pam_cons (pm_var 3) pam_nil)) pam_nil)) (hA := (an_cons (an_cons an_nil)))) pam_nil))))) pam_nil))) pam_nil)))
  (psm_cons (psm_set 5 sc_law.nd rfl (Or.inl rfl) (pmg_call (w__law_due (base := base) T) (hr.mono (by omega)) rfl T.m__law_due T.F__law_due.kp T.b__law_due pass0 (fun _ => rfl) (pam_cons (pm_var 4) pam_nil) (hA := (an_cons an_nil))))
  (psm_cons (psm_if (ptm_cmp (opm_ne hr.units) (pm_callB cam_len rfl T.z_len bb_len (pam_cons (pm_var 5) pam_nil)) (pm_ix (pm_lstV (pam_cons pm_int (pam_cons pm_int (pam_cons pm_int (pam_cons pm_int (pam_cons pm_int pam_nil)))))) (pm_bin opm_sub (pm_callB cam_len rfl T.z_len bb_len (pam_cons (pm_var 4) pam_nil)) pm_int))) (psm_one (psm_ret pm_bl)) psm_nil)
  (psm_cons (psm_for PassesOwn.never rfl (pim_range1 rfl T.z_range (pam_cons pm_int pam_nil)) (pgm_name 6 sc_law.nd rfl (Or.inl rfl)) (psm_one (psm_if (ptm_cmp (opm_ne hr.units) (pm_callB (cam_repr hr.qu hr.units65) rfl T.z_repr bb_repr (pam_cons (pmg_call (w_great_trees (base := base) T) (hr.mono (by omega)) rfl T.m_great_trees T.F_great_trees.kp T.b_great_trees pass0 (fun _ => rfl) (pam_cons (pm_var 4) pam_nil) (hA := (an_cons an_nil))) pam_nil)) (pm_callB (cam_repr hr.qu hr.units65) rfl T.z_repr bb_repr (pam_cons (pm_var 5) pam_nil))) (psm_one (psm_ret pm_bl)) psm_nil)))
  (psm_one (psm_if (ptm_not (ptm_val (pm_callB (cam_all rfl) rfl T.z_all bb_all (pam_cons (pm_pop (pm_lc (own := [("_law_tree", 8)]) rfl sc_law.nd (pim_any (pm_var 5)) (blkOk_by (N := N_law) (sc := (defScope s_law)) (by decide +kernel)) (fun _ _ _ _ _ => (pgm_name 8 sc_law.nd rfl (Or.inl rfl))) (fun _ _ _ _ _ => ptsm_nil) (fun _ _ _ _ _ => (pm_and (pm_cmp (opm_eq hr.units) (pmg_call (w_plain (base := base) T 70) (hr.mono (by omega)) rfl T.m_plain T.F_plain.kp T.b_plain pass0 (fun _ => rfl) (pam_cons (pm_var 8) pam_nil) (hA := (an_cons an_nil))) (pm_var 8)) (pm_one (pm_cmp opm_is (pmg_call (w_is_great (base := base) T) (hr.mono (by omega)) rfl T.m_is_great T.F_is_great.kp T.b_is_great pass0 (fun _ => rfl) (pam_cons (pm_var 8) pam_nil) (hA := (an_cons an_nil))) pm_bl)))))) pam_nil)))) (psm_one (psm_ret pm_bl)) psm_nil)))))))))
  (psm_one (psm_ret pm_bl))))
end
theorem all_mk {l : PySem.W.OpenLaw} {w : World} {K : PySem.W.Frag} {h : Heap} {mg : Str → Option Value} {fa : Addr} (X : K.In h) (G : h.Ns mainGlobals mg) (hfa : mg "law" = some (.ref fa))
    {f0 f1 f2 f3 f4 f5 f6 f7 f8 f9 f10 f11 f12 f13 f14 f15 f16 f17 : Addr} {od0 an0 od1 an1 od2 an2 od3 an3 od4 an4 od5 an5 od6 an6 od7 an7 od8 an8 od9 an9 od10 an10 od11 an11 od12 an12 od13 an13 od14 an14 od15 an15 od16 an16 od17 an17 : Option Addr} {sl0 sl1 sl2 sl3 sl4 sl5 sl6 sl7 sl8 sl9 sl10 sl11 sl12 sl13 sl14 sl15 sl16 sl17 : Array (Option Value)} {oc0 kV0 dc0 pm0 cd0 ct0 oc1 kV1 dc1 pm1 cd1 ct1 oc2 kV2 dc2 pm2 cd2 ct2 oc3 kV3 dc3 pm3 cd3 ct3 oc4 kV4 dc4 pm4 cd4 ct4 oc5 kV5 dc5 pm5 cd5 ct5 oc6 kV6 dc6 pm6 cd6 ct6 oc7 kV7 dc7 pm7 cd7 ct7 oc8 kV8 dc8 pm8 cd8 ct8 oc9 kV9 dc9 pm9 cd9 ct9 oc10 kV10 dc10 pm10 cd10 ct10 oc11 kV11 dc11 pm11 cd11 ct11 oc12 kV12 dc12 pm12 cd12 ct12 oc13 kV13 dc13 pm13 cd13 ct13 oc14 kV14 dc14 pm14 cd14 ct14 oc15 kV15 dc15 pm15 cd15 ct15 oc16 kV16 dc16 pm16 cd16 ct16 oc17 kV17 dc17 pm17 cd17 ct17 : Value}
    {t_LETTERS t_MOST_LETTERS : Tok}
    (a0 : PySem.W.nsIn K mainGlobals "_law_pot" = some (some (.ref f0)))
    (l0 : K.lookup f0 = some ⟨oc0, od0, .func (PySem.W.fnOf "_law_pot" "_law_pot" (defArgs s__law_pot) (defBody s__law_pot) (defScope s__law_pot) .none kV0 dc0 pm0 an0 cd0 ct0), sl0⟩) (c0 : PySem.W.codeIn K cd0 "_law_pot" = true) (k0 : PySem.W.keepIn K (.ref f0) = true)
    (a1 : PySem.W.nsIn K mainGlobals "_law_text" = some (some (.ref f1)))
    (l1 : K.lookup f1 = some ⟨oc1, od1, .func (PySem.W.fnOf "_law_text" "_law_text" (defArgs s__law_text) (defBody s__law_text) (defScope s__law_text) .none kV1 dc1 pm1 an1 cd1 ct1), sl1⟩) (c1 : PySem.W.codeIn K cd1 "_law_text" = true) (k1 : PySem.W.keepIn K (.ref f1) = true)
    (a2 : PySem.W.nsIn K mainGlobals "_law_plain" = some (some (.ref f2)))
    (l2 : K.lookup f2 = some ⟨oc2, od2, .func (PySem.W.fnOf "_law_plain" "_law_plain" (defArgs s__law_plain) (defBody s__law_plain) (defScope s__law_plain) .none kV2 dc2 pm2 an2 cd2 ct2), sl2⟩) (c2 : PySem.W.codeIn K cd2 "_law_plain" = true) (k2 : PySem.W.keepIn K (.ref f2) = true)
    (a3 : PySem.W.nsIn K mainGlobals "_law_with" = some (some (.ref f3)))
    (l3 : K.lookup f3 = some ⟨oc3, od3, .func (PySem.W.fnOf "_law_with" "_law_with" (defArgs s__law_with) (defBody s__law_with) (defScope s__law_with) .none kV3 dc3 pm3 an3 cd3 ct3), sl3⟩) (c3 : PySem.W.codeIn K cd3 "_law_with" = true) (k3 : PySem.W.keepIn K (.ref f3) = true)
    (a4 : PySem.W.nsIn K mainGlobals "_law_due" = some (some (.ref f4)))
    (l4 : K.lookup f4 = some ⟨oc4, od4, .func (PySem.W.fnOf "_law_due" "_law_due" (defArgs s__law_due) (defBody s__law_due) (defScope s__law_due) .none kV4 dc4 pm4 an4 cd4 ct4), sl4⟩) (c4 : PySem.W.codeIn K cd4 "_law_due" = true) (k4 : PySem.W.keepIn K (.ref f4) = true)
    (a5 : PySem.W.nsIn K mainGlobals "cuts" = some (some (.ref f5)))
    (l5 : K.lookup f5 = some ⟨oc5, od5, .func (PySem.W.fnOf "cuts" "cuts" (defArgs s_cuts) (defBody s_cuts) (defScope s_cuts) .none kV5 dc5 pm5 an5 cd5 ct5), sl5⟩) (c5 : PySem.W.codeIn K cd5 "cuts" = true) (k5 : PySem.W.keepIn K (.ref f5) = true)
    (a6 : PySem.W.nsIn K mainGlobals "text_of" = some (some (.ref f6)))
    (l6 : K.lookup f6 = some ⟨oc6, od6, .func (PySem.W.fnOf "text_of" "text_of" (defArgs s_text_of) (defBody s_text_of) (defScope s_text_of) .none kV6 dc6 pm6 an6 cd6 ct6), sl6⟩) (c6 : PySem.W.codeIn K cd6 "text_of" = true) (k6 : PySem.W.keepIn K (.ref f6) = true)
    (a7 : PySem.W.nsIn K mainGlobals "plain" = some (some (.ref f7)))
    (l7 : K.lookup f7 = some ⟨oc7, od7, .func (PySem.W.fnOf "plain" "plain" (defArgs s_plain) (defBody s_plain) (defScope s_plain) .none kV7 dc7 pm7 an7 cd7 ct7), sl7⟩) (c7 : PySem.W.codeIn K cd7 "plain" = true) (k7 : PySem.W.keepIn K (.ref f7) = true)
    (a8 : PySem.W.nsIn K mainGlobals "trees_of" = some (some (.ref f8)))
    (l8 : K.lookup f8 = some ⟨oc8, od8, .func (PySem.W.fnOf "trees_of" "trees_of" (defArgs s_trees_of) (defBody s_trees_of) (defScope s_trees_of) .none kV8 dc8 pm8 an8 cd8 ct8), sl8⟩) (c8 : PySem.W.codeIn K cd8 "trees_of" = true) (k8 : PySem.W.keepIn K (.ref f8) = true)
    (a9 : PySem.W.nsIn K mainGlobals "great_trees" = some (some (.ref f9)))
    (l9 : K.lookup f9 = some ⟨oc9, od9, .func (PySem.W.fnOf "great_trees" "great_trees" (defArgs s_great_trees) (defBody s_great_trees) (defScope s_great_trees) .none kV9 dc9 pm9 an9 cd9 ct9), sl9⟩) (c9 : PySem.W.codeIn K cd9 "great_trees" = true) (k9 : PySem.W.keepIn K (.ref f9) = true)
    (a10 : PySem.W.nsIn K mainGlobals "_law_take" = some (some (.ref f10)))
    (l10 : K.lookup f10 = some ⟨oc10, od10, .func (PySem.W.fnOf "_law_take" "_law_take" (defArgs s__law_take) (defBody s__law_take) (defScope s__law_take) .none kV10 dc10 pm10 an10 cd10 ct10), sl10⟩) (c10 : PySem.W.codeIn K cd10 "_law_take" = true) (k10 : PySem.W.keepIn K (.ref f10) = true)
    (a11 : PySem.W.nsIn K mainGlobals "put_nodes" = some (some (.ref f11)))
    (l11 : K.lookup f11 = some ⟨oc11, od11, .func (PySem.W.fnOf "put_nodes" "put_nodes" (defArgs s_put_nodes) (defBody s_put_nodes) (defScope s_put_nodes) .none kV11 dc11 pm11 an11 cd11 ct11), sl11⟩) (c11 : PySem.W.codeIn K cd11 "put_nodes" = true) (k11 : PySem.W.keepIn K (.ref f11) = true)
    (a12 : PySem.W.nsIn K mainGlobals "nodes" = some (some (.ref f12)))
    (l12 : K.lookup f12 = some ⟨oc12, od12, .func (PySem.W.fnOf "nodes" "nodes" (defArgs s_nodes) (defBody s_nodes) (defScope s_nodes) .none kV12 dc12 pm12 an12 cd12 ct12), sl12⟩) (c12 : PySem.W.codeIn K cd12 "nodes" = true) (k12 : PySem.W.keepIn K (.ref f12) = true)
    (a13 : PySem.W.nsIn K mainGlobals "leaves" = some (some (.ref f13)))
    (l13 : K.lookup f13 = some ⟨oc13, od13, .func (PySem.W.fnOf "leaves" "leaves" (defArgs s_leaves) (defBody s_leaves) (defScope s_leaves) .none kV13 dc13 pm13 an13 cd13 ct13), sl13⟩) (c13 : PySem.W.codeIn K cd13 "leaves" = true) (k13 : PySem.W.keepIn K (.ref f13) = true)
    (a14 : PySem.W.nsIn K mainGlobals "is_word" = some (some (.ref f14)))
    (l14 : K.lookup f14 = some ⟨oc14, od14, .func (PySem.W.fnOf "is_word" "is_word" (defArgs s_is_word) (defBody s_is_word) (defScope s_is_word) .none kV14 dc14 pm14 an14 cd14 ct14), sl14⟩) (c14 : PySem.W.codeIn K cd14 "is_word" = true) (k14 : PySem.W.keepIn K (.ref f14) = true)
    (a15 : PySem.W.nsIn K mainGlobals "is_tree" = some (some (.ref f15)))
    (l15 : K.lookup f15 = some ⟨oc15, od15, .func (PySem.W.fnOf "is_tree" "is_tree" (defArgs s_is_tree) (defBody s_is_tree) (defScope s_is_tree) .none kV15 dc15 pm15 an15 cd15 ct15), sl15⟩) (c15 : PySem.W.codeIn K cd15 "is_tree" = true) (k15 : PySem.W.keepIn K (.ref f15) = true)
    (a16 : PySem.W.nsIn K mainGlobals "is_great" = some (some (.ref f16)))
    (l16 : K.lookup f16 = some ⟨oc16, od16, .func (PySem.W.fnOf "is_great" "is_great" (defArgs s_is_great) (defBody s_is_great) (defScope s_is_great) .none kV16 dc16 pm16 an16 cd16 ct16), sl16⟩) (c16 : PySem.W.codeIn K cd16 "is_great" = true) (k16 : PySem.W.keepIn K (.ref f16) = true)
    (a17 : PySem.W.nsIn K mainGlobals "law" = some (some (.ref f17)))
    (l17 : K.lookup f17 = some ⟨oc17, od17, .func (PySem.W.fnOf "law" "law" (defArgs s_law) (defBody s_law) (defScope s_law) .none kV17 dc17 pm17 an17 cd17 ct17), sl17⟩) (c17 : PySem.W.codeIn K cd17 "law" = true) (k17 : PySem.W.keepIn K (.ref f17) = true)
    (e_LETTERS : PySem.W.nsIn K mainGlobals "LETTERS" = some (some (.str "abcdefghijklmnopqrstuvwxyz" t_LETTERS)))
    (e_MOST_LETTERS : PySem.W.nsIn K mainGlobals "MOST_LETTERS" = some (some (.int 8 t_MOST_LETTERS)))
    (z_all : PySem.W.nsIn K mainGlobals "all" = some none)
    (z_isinstance : PySem.W.nsIn K mainGlobals "isinstance" = some none)
    (z_len : PySem.W.nsIn K mainGlobals "len" = some none)
    (z_max : PySem.W.nsIn K mainGlobals "max" = some none)
    (z_min : PySem.W.nsIn K mainGlobals "min" = some none)
    (z_range : PySem.W.nsIn K mainGlobals "range" = some none)
    (z_repr : PySem.W.nsIn K mainGlobals "repr" = some none)
    (z_set : PySem.W.nsIn K mainGlobals "set" = some none)
    (z_sorted : PySem.W.nsIn K mainGlobals "sorted" = some none)
    (z_str : PySem.W.nsIn K mainGlobals "str" = some none)
    (z_tuple : PySem.W.nsIn K mainGlobals "tuple" = some none)
    : ∃ fd : FuncData, (∀ (s : Shared) (v : Value), BindsTo s fd ⟨[v], []⟩ [("_law_script", v)]) ∧ ∀ base : Heap, K.In base → base.Ns mainGlobals mg → FnG l.prog w K mg base CX0 214 fa fd ["_law_script"] (spM K 1 M_law_k71) := by
  have e := hfa.symm.trans (PySem.W.mg_of X G a17)
  cases e
  have F0 := fun_mk (st := s__law_pot) l0 c0 k0
  have F1 := fun_mk (st := s__law_text) l1 c1 k1
  have F2 := fun_mk (st := s__law_plain) l2 c2 k2
  have F3 := fun_mk (st := s__law_with) l3 c3 k3
  have F4 := fun_mk (st := s__law_due) l4 c4 k4
  have F5 := fun_mk (st := s_cuts) l5 c5 k5
  have F6 := fun_mk (st := s_text_of) l6 c6 k6
  have F7 := fun_mk (st := s_plain) l7 c7 k7
  have F8 := fun_mk (st := s_trees_of) l8 c8 k8
  have F9 := fun_mk (st := s_great_trees) l9 c9 k9
  have F10 := fun_mk (st := s__law_take) l10 c10 k10
  have F11 := fun_mk (st := s_put_nodes) l11 c11 k11
  have F12 := fun_mk (st := s_nodes) l12 c12 k12
  have F13 := fun_mk (st := s_leaves) l13 c13 k13
  have F14 := fun_mk (st := s_is_word) l14 c14 k14
  have F15 := fun_mk (st := s_is_tree) l15 c15 k15
  have F16 := fun_mk (st := s_is_great) l16 c16 k16
  have F17 := fun_mk (st := s_law) l17 c17 k17
  let T : Tp w K mg :=
    { a__law_pot := _, fd__law_pot := _, F__law_pot := F0, b__law_pot := F0.binds (ps := ["_law_script"]) (fun _ _ _ _ _ _ us hl => match us, hl with | [_], _ => rfl),
      m__law_pot := PySem.W.mg_of X G a0,
      a__law_text := _, fd__law_text := _, F__law_text := F1, b__law_text := F1.binds (ps := ["_law_tree"]) (fun _ _ _ _ _ _ us hl => match us, hl with | [_], _ => rfl),
      m__law_text := PySem.W.mg_of X G a1,
      a__law_plain := _, fd__law_plain := _, F__law_plain := F2, b__law_plain := F2.binds (ps := ["_law_tree"]) (fun _ _ _ _ _ _ us hl => match us, hl with | [_], _ => rfl),
      m__law_plain := PySem.W.mg_of X G a2,
      a__law_with := _, fd__law_with := _, F__law_with := F3, b__law_with := F3.binds (ps := ["_law_tree", "_law_word"]) (fun _ _ _ _ _ _ us hl => match us, hl with | [_, _], _ => rfl),
      m__law_with := PySem.W.mg_of X G a3,
      a__law_due := _, fd__law_due := _, F__law_due := F4, b__law_due := F4.binds (ps := ["_law_words"]) (fun _ _ _ _ _ _ us hl => match us, hl with | [_], _ => rfl),
      m__law_due := PySem.W.mg_of X G a4,
      a_cuts := _, fd_cuts := _, F_cuts := F5, b_cuts := F5.binds (ps := ["words"]) (fun _ _ _ _ _ _ us hl => match us, hl with | [_], _ => rfl),
      m_cuts := PySem.W.mg_of X G a5,
      a_text_of := _, fd_text_of := _, F_text_of := F6, b_text_of := F6.binds (ps := ["tree"]) (fun _ _ _ _ _ _ us hl => match us, hl with | [_], _ => rfl),
      m_text_of := PySem.W.mg_of X G a6,
      a_plain := _, fd_plain := _, F_plain := F7, b_plain := F7.binds (ps := ["tree"]) (fun _ _ _ _ _ _ us hl => match us, hl with | [_], _ => rfl),
      m_plain := PySem.W.mg_of X G a7,
      a_trees_of := _, fd_trees_of := _, F_trees_of := F8, b_trees_of := F8.binds (ps := ["words"]) (fun _ _ _ _ _ _ us hl => match us, hl with | [_], _ => rfl),
      m_trees_of := PySem.W.mg_of X G a8,
      a_great_trees := _, fd_great_trees := _, F_great_trees := F9, b_great_trees := F9.binds (ps := ["words"]) (fun _ _ _ _ _ _ us hl => match us, hl with | [_], _ => rfl),
      m_great_trees := PySem.W.mg_of X G a9,
      a__law_take := _, fd__law_take := _, F__law_take := F10, b__law_take := F10.binds (ps := ["_law_pot_here", "_law_many"]) (fun _ _ _ _ _ _ us hl => match us, hl with | [_, _], _ => rfl),
      m__law_take := PySem.W.mg_of X G a10,
      a_put_nodes := _, fd_put_nodes := _, F_put_nodes := F11, b_put_nodes := F11.binds (ps := ["tree", "found"]) (fun _ _ _ _ _ _ us hl => match us, hl with | [_, _], _ => rfl),
      m_put_nodes := PySem.W.mg_of X G a11,
      a_nodes := _, fd_nodes := _, F_nodes := F12, b_nodes := F12.binds (ps := ["tree"]) (fun _ _ _ _ _ _ us hl => match us, hl with | [_], _ => rfl),
      m_nodes := PySem.W.mg_of X G a12,
      a_leaves := _, fd_leaves := _, F_leaves := F13, b_leaves := F13.binds (ps := ["tree"]) (fun _ _ _ _ _ _ us hl => match us, hl with | [_], _ => rfl),
      m_leaves := PySem.W.mg_of X G a13,
      a_is_word := _, fd_is_word := _, F_is_word := F14, b_is_word := F14.binds (ps := ["thing"]) (fun _ _ _ _ _ _ us hl => match us, hl with | [_], _ => rfl),
      m_is_word := PySem.W.mg_of X G a14,
      a_is_tree := _, fd_is_tree := _, F_is_tree := F15, b_is_tree := F15.binds (ps := ["thing"]) (fun _ _ _ _ _ _ us hl => match us, hl with | [_], _ => rfl),
      m_is_tree := PySem.W.mg_of X G a15,
      a_is_great := _, fd_is_great := _, F_is_great := F16, b_is_great := F16.binds (ps := ["thing"]) (fun _ _ _ _ _ _ us hl => match us, hl with | [_], _ => rfl),
      m_is_great := PySem.W.mg_of X G a16,
      a_law := _, fd_law := _, F_law := F17, b_law := F17.binds (ps := ["_law_script"]) (fun _ _ _ _ _ _ us hl => match us, hl with | [_], _ => rfl),
      m_law := PySem.W.mg_of X G a17,
      t_LETTERS := t_LETTERS, c_LETTERS := PySem.W.mg_of X G e_LETTERS,
      t_MOST_LETTERS := t_MOST_LETTERS, c_MOST_LETTERS := PySem.W.mg_of X G e_MOST_LETTERS,
      z_all := PySem.W.mg_none_of X G z_all,
      z_isinstance := PySem.W.mg_none_of X G z_isinstance,
      z_len := PySem.W.mg_none_of X G z_len,
      z_max := PySem.W.mg_none_of X G z_max,
      z_min := PySem.W.mg_none_of X G z_min,
      z_range := PySem.W.mg_none_of X G z_range,
      z_repr := PySem.W.mg_none_of X G z_repr,
      z_set := PySem.W.mg_none_of X G z_set,
      z_sorted := PySem.W.mg_none_of X G z_sorted,
      z_str := PySem.W.mg_none_of X G z_str,
      z_tuple := PySem.W.mg_none_of X G z_tuple }
  exact ⟨T.fd_law, fun s v => .of_eq rfl, fun base _ _ => w_law T⟩
theorem walk {l : PySem.W.OpenLaw} {q : Program} {loose : List Str} {XP : (Str → Option Value) → Heap → Prop} {YP : World → Heap → Prop} {d : DefRec} {K : Params → PySem.W.Frag} (hn : l.most = some 63) (hdf : d.params.defaults = [])
    (main : ∀ ns : List Int, ns.length ≤ 63 → ∃ S', M_law_k71 [.v (.kl (ns.map D.int))] [] = .ok (.bl true) S')
    (hY : ∀ (w : World) (h : Heap), YP w h → (K w.params).In h)
    (F : ∀ (w : World) (mg : Str → Option Value) (fa : Addr) (h : Heap), (K w.params).In h → h.Ns mainGlobals mg → mg d.name = some (.ref fa) →
      ∃ fd : FuncData, (∀ (s : Shared) (u : Value), BindsTo s fd ⟨[u], []⟩ [("_law_script", u)]) ∧ ∀ base : Heap, (K w.params).In base → base.Ns mainGlobals mg → FnG l.prog w (K w.params) mg base CX0 214 fa fd ["_law_script"] (spM (K w.params) 1 M_law_k71)) :
    PySem.W.WalkO q loose XP YP l.row.toRowW d [] (fun f vs => PySem.call f vs) :=
  walk_G (n := 63) (k := 214) (x := "_law_script") hn (by decide) hdf ⟨rfl, by decide, by decide, rfl⟩ hY F (fun ns hl => main ns hl)
end K71
open PySem PySem.W PySem.W.X PyProof.Rows
set_option maxRecDepth 100000 in
set_option maxHeartbeats 0 in
theorem PySem.Challenge.cw_treewithin_k71_all_great_trees_holds : PySem.Challenge.rw_treewithin_k71_all_great_trees.Holds := by
  w_on; o_law; k_head; (case hw => w_witness2)
  k_fill
  refine K71.walk (l := PySem.Challenge.rw_treewithin_k71_all_great_trees) rfl rfl Q.k71_main (fun w h Y => PySem.W.kIn_of Y) ?F
  case F =>
    intro w mg fa h KX G hmg
    refine' K71.all_mk KX G hmg ?a0 ?l0 ?c0 ?k0 ?a1 ?l1 ?c1 ?k1 ?a2 ?l2 ?c2 ?k2 ?a3 ?l3 ?c3 ?k3 ?a4 ?l4 ?c4 ?k4 ?a5 ?l5 ?c5 ?k5 ?a6 ?l6 ?c6 ?k6 ?a7 ?l7 ?c7 ?k7 ?a8 ?l8 ?c8 ?k8 ?a9 ?l9 ?c9 ?k9 ?a10 ?l10 ?c10 ?k10 ?a11 ?l11 ?c11 ?k11 ?a12 ?l12 ?c12 ?k12 ?a13 ?l13 ?c13 ?k13 ?a14 ?l14 ?c14 ?k14 ?a15 ?l15 ?c15 ?k15 ?a16 ?l16 ?c16 ?k16 ?a17 ?l17 ?c17 ?k17 ?e_LETTERS ?e_MOST_LETTERS ?z_all ?z_isinstance ?z_len ?z_max ?z_min ?z_range ?z_repr ?z_set ?z_sorted ?z_str ?z_tuple
    (case a0 => k_is)
    (case l0 => k_is)
    (case c0 => k_is)
    (case k0 => k_is)
    (case a1 => k_is)
    (case l1 => k_is)
    (case c1 => k_is)
    (case k1 => k_is)
    (case a2 => k_is)
    (case l2 => k_is)
    (case c2 => k_is)
    (case k2 => k_is)
    (case a3 => k_is)
    (case l3 => k_is)
    (case c3 => k_is)
    (case k3 => k_is)
    (case a4 => k_is)
    (case l4 => k_is)
    (case c4 => k_is)
    (case k4 => k_is)
    (case a5 => k_is)
    (case l5 => k_is)
    (case c5 => k_is)
    (case k5 => k_is)
    (case a6 => k_is)
    (case l6 => k_is)
    (case c6 => k_is)
    (case k6 => k_is)
    (case a7 => k_is)
    (case l7 => k_is)
    (case c7 => k_is)
    (case k7 => k_is)
    (case a8 => k_is)
    (case l8 => k_is)
    (case c8 => k_is)
    (case k8 => k_is)
    (case a9 => k_is)
    (case l9 => k_is)
    (case c9 => k_is)
    (case k9 => k_is)
    (case a10 => k_is)
    (case l10 => k_is)
    (case c10 => k_is)
    (case k10 => k_is)
    (case a11 => k_is)
    (case l11 => k_is)
    (case c11 => k_is)
    (case k11 => k_is)
    (case a12 => k_is)
    (case l12 => k_is)
    (case c12 => k_is)
    (case k12 => k_is)
    (case a13 => k_is)
    (case l13 => k_is)
    (case c13 => k_is)
    (case k13 => k_is)
    (case a14 => k_is)
    (case l14 => k_is)
    (case c14 => k_is)
    (case k14 => k_is)
    (case a15 => k_is)
    (case l15 => k_is)
    (case c15 => k_is)
    (case k15 => k_is)
    (case a16 => k_is)
    (case l16 => k_is)
    (case c16 => k_is)
    (case k16 => k_is)
    (case a17 => k_is)
    (case l17 => k_is)
    (case c17 => k_is)
    (case k17 => k_is)
    (case e_LETTERS => k_is)
    (case e_MOST_LETTERS => k_is)
    (case z_all => k_is)
    (case z_isinstance => k_is)
    (case z_len => k_is)
    (case z_max => k_is)
    (case z_min => k_is)
    (case z_range => k_is)
    (case z_repr => k_is)
    (case z_set => k_is)
    (case z_sorted => k_is)
    (case z_str => k_is)
    (case z_tuple => k_is)
