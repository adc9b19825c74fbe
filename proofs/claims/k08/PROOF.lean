import PyProof.Rows.All
import Wide.All
import OpenK.AllK
import Wide.FinOn
import HandS.ForMost
import HandS.IsInst
import HandS.Walk
import HandS.Wide
import HandS.TupAny
import HandS.Style
import HandS.Deep
import HandS.Text
import HandS.Zip
import HandS.More
import HandS.SetFor
import HandS.Strs
import HandS.Words
import KE.GoesEnum
import KE.GoesZip
import KE.GoesMore
import HandS.Dict
import HandS.Small
import HandS.WordsDict
import KE.KDictLaws
import HandS.SortInts
import HandS.Conv
import KE.KRevSl
import PyProof.Rows.SetFrom
import HandS.TupLen
import HandS.DictTup
import KE.KTupSum
import HandS.SortKw
import KE.DataMinMax
import HandS.TupMul
import HandS.Iter
import KE.KDictZip
import HandS.StrMore
import PyProof.NeKinds
import PyProof.Rows.EqBoolInt
import KE.SortKeyHeap
import KE.KSortKey
import PyProof.StrOps
import KE.SortData
import KE.DataFind
import PyProof.TupleOfSeq
import PyProof.SeqIndex
import PyProof.Rows.SortWalk
import KE.KDictList
import PySem.Challenge.RW_treewithin_k08_whole_trees_put_together
set_option Elab.async false
set_option linter.all false
set_option autoImplicit false
set_option maxRecDepth 100000
set_option maxHeartbeats 4000000
namespace M
open PySem PySem.Spec L2
open PyProof.Rows hiding St
/-- data by value: nothing in it ever changes again; txt: some text, whichever -/
inductive D where
  | non | bl (b : Bool) | int (i : Int) | str (x : Str) | ty (n : String) | tup (xs : List D) | lst (xs : List D) | kl (xs : List D) | dct (ks : List Key) (xs : List D)
  | txt
  | kt (xs : List D)
/-- what a name holds: data, or the number of a cell -/
inductive R where
  | v (d : D) | ref (n : Nat)
abbrev R.non : R := .v .non
abbrev R.bl (b : Bool) : R := .v (.bl b)
abbrev R.int (i : Int) : R := .v (.int i)
abbrev R.str (x : Str) : R := .v (.str x)
abbrev R.ty (n : String) : R := .v (.ty n)
abbrev R.tup (xs : List D) : R := .v (.tup xs)
abbrev R.lst (xs : List D) : R := .v (.lst xs)
abbrev R.kl (xs : List D) : R := .v (.kl xs)
/-- cells: objects that may change; fz: one that never will again -/
inductive MO where
  | lst (xs : List R)
  | dK (kvs : List (Key × R))
  | dT (kvs : List (List Key × R))
  | ins (C : Str) (fs : List (Str × R))
  | lkK (kvs : List (Key × R))
  | lkT (kvs : List (List Key × R))
  | fz (d : D)
abbrev Store := List MO
abbrev Env := List (Option R)
/-- an exception: its class, the attributes of its own dict -/
structure Exc where
  cls : Value
  dat : Option (List (Str × R))
inductive Out (α : Type) where
  | ok (a : α) (S : Store)
  | exc (c : Exc) (S : Store)
  | no
inductive OutS where
  | nx (m : Env) (S : Store)
  | bk (m : Env) (S : Store)
  | ct (m : Env) (S : Store)
  | rt (d : R) (S : Store)
  | exc (c : Exc) (m : Env) (S : Store)
  | no
def Out.bind {α β : Type} (o : Out α) (f : α → Store → Out β) : Out β := match o with
  | .ok a S => f a S
  | .exc c S => .exc c S
  | .no => .no
@[simp] theorem Out.bind_ok {α β : Type} (a : α) (S : Store) (f : α → Store → Out β) : (Out.ok a S).bind f = f a S := id rfl
@[simp] theorem Out.bind_no {α β : Type} (f : α → Store → Out β) : (Out.no : Out α).bind f = .no := id rfl
@[simp] theorem Out.bind_exc {α β : Type} (c : Exc) (S : Store) (f : α → Store → Out β) : (Out.exc c S : Out α).bind f = .exc c S := id rfl
abbrev ME := Env → Store → Out R
abbrev MT := Env → Store → Out Bool
abbrev MA := Env → Store → Out (List R)
abbrev MS := Env → Store → OutS
/-- the cells' addresses; the frozen ones -/
structure Wd where
  r : List Addr
  z : Addr → Prop
/-- a list that nobody writes: locked (the script), or an object of the module -/
def KL (K : PySem.W.Frag) (H : Hp) (a : Addr) (xs : List V) : Prop :=
  (∃ o, H a = some (.frz o (.lst xs))) ∨ ∃ (o : Obj) (its : Array Value) (n : Nat), K.lookup a = some o ∧ o.cls = .type "list" ∧ o.dict = none ∧ o.data = .seq its n ∧ its.size ≤ sizeLine ∧ Vals xs its.toList
theorem KL.sq {K : PySem.W.Frag} {H : Hp} {a : Addr} {xs : List V} (h : KL K H a xs) : SqL K H a xs := by
  rcases h with ⟨o, h⟩ | h
  · exact .inl (.inr ⟨o, h⟩)
  · exact .inr h
/-- one that is frozen -/
def FzL (H : Hp) (ρ : Wd) (a : Addr) (xs : List V) : Prop := ρ.z a ∧ H a = some (.lst xs)
/-- a tuple of the module -/
def KT' (K : PySem.W.Frag) (a : Addr) (xs : List V) : Prop := ∃ (o : Obj) (its : Array Value) (n : Nat), K.lookup a = some o ∧ o.cls = .type "tuple" ∧ o.dict = none ∧ o.data = .seq its n ∧ its.size ≤ sizeLine ∧ Vals xs its.toList
theorem KT'.sq {K : PySem.W.Frag} {H : Hp} {a : Addr} {xs : List V} (h : KT' K a xs) : SqT K H a xs :=
  let ⟨o, its, n, h1, h2, _, h3⟩ := h
  .inr ⟨o, its, n, h1, h2, h3⟩
/-- a tuple of the module, or one of the heap that is known as it is -/
def KTz (K : PySem.W.Frag) (H : Hp) (ρ : Wd) (a : Addr) (xs : List V) : Prop := KT' K a xs ∨ (ρ.z a ∧ ∃ o : Obj, H a = some (.frz o (.tup xs)) ∧ o.dict = none)
theorem KTz.sq {K : PySem.W.Frag} {H : Hp} {ρ : Wd} {a : Addr} {xs : List V} (h : KTz K H ρ a xs) : SqT K H a xs := by
  rcases h with h | ⟨_, o, h, _⟩
  · exact h.sq
  · exact .inl (.inr ⟨o, h⟩)
theorem sqT_at {K : PySem.W.Frag} {H : Hp} {a : Addr} {xs : List V} (h : H a = some (.tup xs)) : SqT K H a xs := .inl (.inl h)
theorem FzL.sq {K : PySem.W.Frag} {H : Hp} {ρ : Wd} {a : Addr} {xs : List V} (h : FzL H ρ a xs) : SqL K H a xs := .inl (.inl h.2)
mutual
inductive Rp (K : PySem.W.Frag) (H : Hp) (ρ : Wd) : V → D → Prop
  | non : Rp K H ρ .non .non
  | bl (b : Bool) : Rp K H ρ (.bl b) (.bl b)
  | int (i : Int) : Rp K H ρ (.int i) (.int i)
  | str (x : Str) : Rp K H ρ (.str x) (.str x)
  | ty (n : String) : Rp K H ρ (.ty n) (.ty n)
  | tup {a : Addr} {xs : List V} {ds : List D} : H a = some (.tup xs) → RpA K H ρ xs ds → Rp K H ρ (.ref a) (.tup ds)
  | lst {a : Addr} {xs : List V} {ds : List D} : FzL H ρ a xs → RpA K H ρ xs ds → Rp K H ρ (.ref a) (.lst ds)
  | kl {a : Addr} {xs : List V} {ds : List D} : KL K H a xs → RpA K H ρ xs ds → Rp K H ρ (.ref a) (.kl ds)
  | dct {a : Addr} {ks : List Key} {xs : List V} {ds : List D} : ρ.z a → H a = some (.dK (ks.zip xs)) → ks.length = xs.length → RpA K H ρ xs ds → Rp K H ρ (.ref a) (.dct ks ds)
  | txt (x : Str) : x.length ≤ sizeLine → Rp K H ρ (.str x) .txt
  | kt {a : Addr} {xs : List V} {ds : List D} : KTz K H ρ a xs → RpA K H ρ xs ds → Rp K H ρ (.ref a) (.kt ds)
inductive RpA (K : PySem.W.Frag) (H : Hp) (ρ : Wd) : List V → List D → Prop
  | nil : RpA K H ρ [] []
  | cons {v : V} {vs : List V} {d : D} {ds : List D} : Rp K H ρ v d → RpA K H ρ vs ds → RpA K H ρ (v :: vs) (d :: ds)
end
inductive Rq (K : PySem.W.Frag) (H : Hp) (ρ : Wd) : V → R → Prop
  | v {v : V} {d : D} : Rp K H ρ v d → Rq K H ρ v (.v d)
  | ref {a : Addr} {n : Nat} : ρ.r[n]? = some a → Rq K H ρ (.ref a) (.ref n)
def RqA (K : PySem.W.Frag) (H : Hp) (ρ : Wd) (vs : List V) (ds : List R) : Prop := Paired (Rq K H ρ) vs ds
/-- what stays -/
structure Mo (K : PySem.W.Frag) (H : Hp) (ρ : Wd) (H' : Hp) (ρ' : Wd) : Prop where
  tup : ∀ a xs, H a = some (.tup xs) → H' a = some (.tup xs)
  kl : ∀ a xs, KL K H a xs → KL K H' a xs
  ref : ∀ (n : Nat) (a : Addr), ρ.r[n]? = some a → ρ'.r[n]? = some a
  z : ∀ a, ρ.z a → ρ'.z a ∧ H' a = H a
section
variable {K : PySem.W.Frag} {H H' H1 H2 : Hp} {ρ ρ' ρ1 ρ2 : Wd}
theorem Mo.refl : Mo K H ρ H ρ := ⟨fun _ _ h => h, fun _ _ h => h, fun _ _ h => h, fun _ h => ⟨h, rfl⟩⟩
theorem Mo.trans (a : Mo K H ρ H1 ρ1) (b : Mo K H1 ρ1 H2 ρ2) : Mo K H ρ H2 ρ2 := ⟨fun x xs h => b.tup x xs (a.tup x xs h), fun x xs h => b.kl x xs (a.kl x xs h), fun n x h => b.ref n x (a.ref n x h), fun x h => ⟨(b.z x (a.z x h).1).1, (b.z x (a.z x h).1).2.trans (a.z x h).2⟩⟩
theorem KTz.mono (mo : Mo K H ρ H' ρ') {a : Addr} {xs : List V} (h : KTz K H ρ a xs) : KTz K H' ρ' a xs := by
  rcases h with h | ⟨hz, o, h, d⟩
  · exact .inl h
  · exact .inr ⟨(mo.z _ hz).1, o, by rw [(mo.z _ hz).2]; exact h, d⟩
theorem FzL.mono (mo : Mo K H ρ H' ρ') {a : Addr} {xs : List V} (h : FzL H ρ a xs) : FzL H' ρ' a xs := ⟨(mo.z _ h.1).1, by rw [(mo.z _ h.1).2]; exact h.2⟩
mutual
theorem Rp.mono (mo : Mo K H ρ H' ρ') : ∀ (d : D) (v : V), Rp K H ρ v d → Rp K H' ρ' v d
  | .non, _, h => by cases h; exact .non
  | .bl b, _, h => by cases h; exact .bl b
  | .int i, _, h => by cases h; exact .int i
  | .str x, _, h => by cases h; exact .str x
  | .ty n, _, h => by cases h; exact .ty n
  | .tup ds, _, h => by
    cases h with
    | tup hs ha => exact .tup (mo.tup _ _ hs) (RpA.mono mo ds _ ha)
  | .lst ds, _, h => by
    cases h with
    | lst hs ha => exact .lst (hs.mono mo) (RpA.mono mo ds _ ha)
  | .kl ds, _, h => by
    cases h with
    | kl hs ha => exact .kl (mo.kl _ _ hs) (RpA.mono mo ds _ ha)
  | .dct ks ds, _, h => by
    cases h with
    | dct hz hs hl ha => exact .dct (mo.z _ hz).1 (by rw [(mo.z _ hz).2]; exact hs) hl (RpA.mono mo ds _ ha)
  | .txt, _, h => by
    cases h with
    | txt x hx => exact .txt x hx
  | .kt ds, _, h => by
    cases h with
    | kt hs ha => exact .kt (hs.mono mo) (RpA.mono mo ds _ ha)
theorem RpA.mono (mo : Mo K H ρ H' ρ') : ∀ (ds : List D) (vs : List V), RpA K H ρ vs ds → RpA K H' ρ' vs ds
  | [], _, h => by cases h; exact .nil
  | d :: ds, _, h => by
    cases h with
    | cons h1 h2 => exact .cons (Rp.mono mo d _ h1) (RpA.mono mo ds _ h2)
end
theorem Rp.mo {v : V} {d : D} (h : Rp K H ρ v d) (mo : Mo K H ρ H' ρ') : Rp K H' ρ' v d := Rp.mono mo d v h
theorem RpA.mo {v : List V} {d : List D} (h : RpA K H ρ v d) (mo : Mo K H ρ H' ρ') : RpA K H' ρ' v d := RpA.mono mo d v h
theorem Rq.mo {v : V} {d : R} (h : Rq K H ρ v d) (mo : Mo K H ρ H' ρ') : Rq K H' ρ' v d := by
  cases h with
  | v h => exact .v (h.mo mo)
  | ref e => exact .ref (mo.ref _ _ e)
theorem RqA.mo {v : List V} {d : List R} (h : RqA K H ρ v d) (mo : Mo K H ρ H' ρ') : RqA K H' ρ' v d := Paired.mapP h fun _ _ q => q.mo mo
theorem Rq.non : Rq K H ρ .non .non := .v .non
theorem Rq.bl (b : Bool) : Rq K H ρ (.bl b) (.bl b) := .v (.bl b)
theorem Rq.int (i : Int) : Rq K H ρ (.int i) (.int i) := .v (.int i)
theorem Rq.str (x : Str) : Rq K H ρ (.str x) (.str x) := .v (.str x)
theorem Rq.ty (x : String) : Rq K H ρ (.ty x) (.ty x) := .v (.ty x)
theorem RpA.length : ∀ {vs : List V} {ds : List D}, RpA K H ρ vs ds → vs.length = ds.length
  | _, [], h => by cases h; rfl
  | _, d :: ds, h => by
    cases h with
    | cons h1 h2 => exact congrArg (· + 1) (RpA.length h2)
theorem RqA.length {vs : List V} {ds : List R} (h : RqA K H ρ vs ds) : vs.length = ds.length := Paired.length h
/-- by value, item by item -/
theorem RpA.q : ∀ {vs : List V} {ds : List D}, RpA K H ρ vs ds → RqA K H ρ vs (ds.map .v)
  | _, [], h => by cases h; exact .nil
  | _, d :: ds, h => by
    cases h with
    | cons h1 h2 => exact .cons (.v h1) (RpA.q h2)
theorem RqA.p : ∀ {vs : List V} {ds : List D}, RqA K H ρ vs (ds.map .v) → RpA K H ρ vs ds
  | _, [], h => by cases h; exact .nil
  | _, d :: ds, h => by
    cases h with
    | cons h1 h2 =>
      cases h1 with
      | v h1 => exact .cons h1 (RqA.p h2)
theorem RqA.get {vs : List V} {ds : List R} : ∀ {i : Nat} {d : R}, RqA K H ρ vs ds → ds[i]? = some d → ∃ v, vs[i]? = some v ∧ Rq K H ρ v d := by
  intro i d h
  induction h generalizing i with
  | nil => intro e; simp at e
  | cons h1 h2 ih =>
    intro e
    cases i with
    | zero =>
      have q := Option.some.inj e
      subst q
      exact ⟨_, rfl, h1⟩
    | succ i =>
      obtain ⟨v, a, b⟩ := ih (i := i) (by simpa using e)
      exact ⟨v, by simpa using a, b⟩
theorem RqA.get' {vs : List V} {ds : List R} : ∀ {i : Nat} {v : V}, RqA K H ρ vs ds → vs[i]? = some v → ∃ d, ds[i]? = some d ∧ Rq K H ρ v d := by
  intro i d h
  induction h generalizing i with
  | nil => intro e; simp at e
  | cons h1 h2 ih =>
    intro e
    cases i with
    | zero =>
      have q := Option.some.inj e
      subst q
      exact ⟨_, rfl, h1⟩
    | succ i =>
      obtain ⟨v, a, b⟩ := ih (i := i) (by simpa using e)
      exact ⟨v, by simpa using a, b⟩
theorem RqA.set {v : V} {d : R} (r : Rq K H ρ v d) {vs : List V} {ds : List R} (h : RqA K H ρ vs ds) : ∀ (i : Nat), RqA K H ρ (vs.set i v) (ds.set i d) := by
  induction h with
  | nil => intro i; exact .nil
  | cons h1 h2 ih =>
    intro i
    cases i with
    | zero => exact .cons r h2
    | succ i => exact .cons h1 (ih i)
theorem RqA.append {vs ws : List V} {ds es : List R} (h : RqA K H ρ vs ds) (k : RqA K H ρ ws es) : RqA K H ρ (vs ++ ws) (ds ++ es) := by
  induction h with
  | nil => exact k
  | cons h1 h2 ih => exact .cons h1 ih
theorem RqA.take {vs : List V} {ds : List R} (h : RqA K H ρ vs ds) : ∀ n, RqA K H ρ (vs.take n) (ds.take n) := by
  induction h with
  | nil => intro n; rw [List.take_nil, List.take_nil]; exact .nil
  | cons h1 h2 ih =>
    intro n
    cases n with
    | zero => exact .nil
    | succ n => exact .cons h1 (ih n)
theorem RqA.drop {vs : List V} {ds : List R} (h : RqA K H ρ vs ds) : ∀ n, RqA K H ρ (vs.drop n) (ds.drop n) := by
  induction h with
  | nil => intro n; rw [List.drop_nil, List.drop_nil]; exact .nil
  | cons h1 h2 ih =>
    intro n
    cases n with
    | zero => exact .cons h1 h2
    | succ n => exact ih n
theorem RqA.reverse {vs : List V} {ds : List R} (h : RqA K H ρ vs ds) : RqA K H ρ vs.reverse ds.reverse := by
  induction h with
  | nil => exact .nil
  | cons h1 h2 ih =>
    rw [List.reverse_cons, List.reverse_cons]
    exact RqA.append ih (.cons h1 .nil)
theorem RpA.append {vs ws : List V} {ds es : List D} (h : RpA K H ρ vs ds) (k : RpA K H ρ ws es) : RpA K H ρ (vs ++ ws) (ds ++ es) := by
  refine RqA.p ?_
  rw [List.map_append]
  exact h.q.append k.q
theorem RpA.take {vs : List V} {ds : List D} (n : Nat) (h : RpA K H ρ vs ds) : RpA K H ρ (vs.take n) (ds.take n) := by
  refine RqA.p ?_
  rw [List.map_take]
  exact h.q.take n
theorem RpA.drop {vs : List V} {ds : List D} (n : Nat) (h : RpA K H ρ vs ds) : RpA K H ρ (vs.drop n) (ds.drop n) := by
  refine RqA.p ?_
  rw [List.map_drop]
  exact h.q.drop n
theorem RpA.reverse {vs : List V} {ds : List D} (h : RpA K H ρ vs ds) : RpA K H ρ vs.reverse ds.reverse := by
  refine RqA.p ?_
  rw [List.map_reverse]
  exact h.q.reverse
theorem RpA.get {vs : List V} {ds : List D} {i : Nat} {d : D} (h : RpA K H ρ vs ds) (e : ds[i]? = some d) : ∃ v, vs[i]? = some v ∧ Rp K H ρ v d := by
  obtain ⟨v, a, b⟩ := h.q.get (i := i) (d := .v d) (by rw [List.getElem?_map, e]; rfl)
  cases b with
  | v b => exact ⟨v, a, b⟩
theorem RpA.get' {vs : List V} {ds : List D} {i : Nat} {v : V} (h : RpA K H ρ vs ds) (e : vs[i]? = some v) : ∃ d, ds[i]? = some d ∧ Rp K H ρ v d := by
  obtain ⟨d, a, b⟩ := h.q.get' e
  rw [List.getElem?_map] at a
  obtain ⟨d', e1, rfl⟩ := Option.map_eq_some_iff.mp a
  cases b with
  | v b => exact ⟨d', e1, b⟩
theorem RpA.ints : ∀ {ns : List Int}, RpA K H ρ (ns.map V.int) (ns.map D.int)
  | [] => .nil
  | n :: ns => .cons (.int n) RpA.ints
/-- pairs of a key and a value -/
def RpP {κ : Type} (K : PySem.W.Frag) (H : Hp) (ρ : Wd) (vs : List (κ × V)) (ds : List (κ × R)) : Prop := Paired (fun (p : κ × V) (q : κ × R) => p.1 = q.1 ∧ Rq K H ρ p.2 q.2) vs ds
theorem RpP.mo {κ : Type} {vs : List (κ × V)} {ds : List (κ × R)} (h : RpP K H ρ vs ds) (mo : Mo K H ρ H' ρ') : RpP K H' ρ' vs ds := Paired.mapP h fun _ _ q => ⟨q.1, q.2.mo mo⟩
/-- what a cell is -/
def HoR (K : PySem.W.Frag) (H : Hp) (ρ : Wd) (a : Addr) : MO → Prop
  | .lst ds => ∃ xs, H a = some (.lst xs) ∧ RqA K H ρ xs ds
  | .dK kds => ∃ kvs, H a = some (.dK kvs) ∧ RpP K H ρ kvs kds
  | .dT kds => ∃ kvs, H a = some (.dT kvs) ∧ RpP K H ρ kvs kds
  | .ins c gs => ∃ C dx fs, PySem.W.nsIn K mainGlobals c = some (some (.ref C)) ∧ H a = some (.ins C dx fs) ∧ RpP K H ρ fs gs
  | .lkK kds => ρ.z a ∧ ∃ od kvs, H a = some (.frz od (.dK kvs)) ∧ RpP K H ρ kvs kds
  | .lkT kds => ρ.z a ∧ ∃ od kvs, H a = some (.frz od (.dT kvs)) ∧ RpP K H ρ kvs kds
  | .fz d => Rp K H ρ (.ref a) d
def MO.live : MO → Prop
  | .fz _ => False
  | .lkK _ => False
  | .lkT _ => False
  | _ => True
/-- the store -/
structure SR (K : PySem.W.Frag) (H : Hp) (ρ : Wd) (S : Store) : Prop where
  nd : ρ.r.Nodup
  len : ρ.r.length = S.length
  obj : ∀ (n : Nat) (a : Addr) (o : MO), ρ.r[n]? = some a → S[n]? = some o → HoR K H ρ a o
  lv : ∀ (n : Nat) (a : Addr) (o : MO), ρ.r[n]? = some a → S[n]? = some o → o.live → ¬ ρ.z a
  z : ∀ a, ρ.z a → H a ≠ none
  r : ∀ (n : Nat) (a : Addr), ρ.r[n]? = some a → H a ≠ none
/-- the frame's names -/
structure EnvR (K : PySem.W.Frag) (H : Hp) (ρ : Wd) (σ : St) (m : Env) : Prop where
  len : σ.length = m.length
  get : ∀ (i : Nat) (d : R), m[i]? = some (some d) → ∃ v, σ[i]? = some (some v) ∧ Rq K H ρ v d
theorem EnvR.mo {σ : St} {m : Env} (h : EnvR K H ρ σ m) (mo : Mo K H ρ H' ρ') : EnvR K H' ρ' σ m := ⟨h.len, fun i d e => by
  obtain ⟨v, a, b⟩ := h.get i d e
  exact ⟨v, a, b.mo mo⟩⟩
theorem EnvR.set {σ : St} {m : Env} {v : V} {d : R} (h : EnvR K H ρ σ m) (r : Rq K H ρ v d) (i : Nat) : EnvR K H ρ (σ.set i (some v)) (m.set i (some d)) := by
  refine ⟨by rw [List.length_set, List.length_set]; exact h.len, fun j e q => ?_⟩
  by_cases hij : i = j
  · subst hij
    by_cases hl : i < m.length
    · rw [List.getElem?_set_self hl] at q
      have q : d = e := by simpa using q
      subst q
      exact ⟨v, List.getElem?_set_self (by rw [h.len]; exact hl), r⟩
    · rw [List.getElem?_eq_none (by rw [List.length_set]; omega)] at q
      cases q
  · rw [List.getElem?_set_ne hij] at q ⊢
    exact h.get j e q
theorem EnvR.start {N : Nat} {vs : List V} {ds : List R} (h : RqA K H ρ vs ds) : EnvR K H ρ (vs.map some ++ List.replicate (N - vs.length) none) (ds.map some ++ List.replicate (N - ds.length) none) := by
  have hl := h.length
  refine ⟨by simp [hl], fun i d q => ?_⟩
  by_cases hi : i < ds.length
  · rw [List.getElem?_append_left (by simpa using hi), List.getElem?_map] at q
    obtain ⟨d', e1, e2⟩ := Option.map_eq_some_iff.mp q
    cases e2
    obtain ⟨v, a, b⟩ := h.get e1
    exact ⟨v, by rw [List.getElem?_append_left (by simpa [hl] using hi), List.getElem?_map, a]; rfl, b⟩
  · rw [List.getElem?_append_right (by simpa using hi), List.getElem?_replicate] at q
    split at q <;> cases q
theorem sqT_new {p : Addr} {u : HO} {a : Addr} {xs : List V} (hp : H p = none) (h : H a = some (.tup xs)) : upd H p u a = some (.tup xs) := by
  rw [upd_ne (ne_of_none h hp)]; exact h
/-- not a tuple, nor one that is locked -/
def Soft : HO → Prop
  | .tup _ => False
  | .frz _ (.dK _) => True
  | .frz _ (.dT _) => True
  | .frz _ _ => False
  | _ => True
theorem sqT_set {p : Addr} {u o : HO} {a : Addr} {xs : List V} (hp : H p = some o) (so : Soft o) (h : H a = some (.tup xs)) : upd H p u a = some (.tup xs) := by
  rw [upd_ne]
  · exact h
  · intro e; subst e; rw [h] at hp; cases hp; exact so
theorem kl_new {p : Addr} {u : HO} {a : Addr} {xs : List V} (hp : H p = none) (h : KL K H a xs) : KL K (upd H p u) a xs := by
  rcases h with ⟨o, h⟩ | h
  · exact .inl ⟨o, by rw [upd_ne (ne_of_none h hp)]; exact h⟩
  · exact .inr h
theorem kl_set {p : Addr} {u o : HO} {a : Addr} {xs : List V} (hp : H p = some o) (so : Soft o) (h : KL K H a xs) : KL K (upd H p u) a xs := by
  rcases h with ⟨o', h⟩ | h
  · refine .inl ⟨o', ?_⟩
    rw [upd_ne]
    · exact h
    · intro e; subst e; rw [h] at hp; cases hp; exact so
  · exact .inr h
/-- a new thing that nothing numbers -/
theorem Mo.new {S : Store} (sr : SR K H ρ S) {p : Addr} {u : HO} (hp : H p = none) : Mo K H ρ (upd H p u) ρ := ⟨fun _ _ h => sqT_new hp h, fun _ _ h => kl_new hp h, fun _ _ h => h, fun a h => ⟨h, upd_ne fun e => sr.z a h (e ▸ hp)⟩⟩
/-- .. a new cell -/
theorem Mo.newR {S : Store} (sr : SR K H ρ S) {p : Addr} {u : HO} (hp : H p = none) : Mo K H ρ (upd H p u) ⟨ρ.r ++ [p], ρ.z⟩ := ⟨fun _ _ h => sqT_new hp h, fun _ _ h => kl_new hp h, fun n a h => by
  have hn : n < ρ.r.length := by
    rcases Nat.lt_or_ge n ρ.r.length with z | z
    · exact z
    · rw [List.getElem?_eq_none z] at h; cases h
  show (ρ.r ++ [p])[n]? = _
  rw [List.getElem?_append_left hn]; exact h, fun a h => ⟨h, upd_ne fun e => sr.z a h (e ▸ hp)⟩⟩
/-- a live cell's object turns -/
theorem Mo.set {p : Addr} {u o : HO} (hp : H p = some o) (so : Soft o) (hz : ¬ ρ.z p) : Mo K H ρ (upd H p u) ρ := ⟨fun _ _ h => sqT_set hp so h, fun _ _ h => kl_set hp so h, fun _ _ h => h, fun a h => ⟨h, upd_ne fun e => hz (e ▸ h)⟩⟩
theorem HoR.mo (mo : Mo K H ρ H' ρ') {a : Addr} (ha : H' a = H a) : ∀ {o : MO}, HoR K H ρ a o → HoR K H' ρ' a o
  | .lst ds, ⟨xs, h, r⟩ => ⟨xs, by rw [ha]; exact h, RqA.mo r mo⟩
  | .dK ds, ⟨xs, h, r⟩ => ⟨xs, by rw [ha]; exact h, RpP.mo r mo⟩
  | .dT ds, ⟨xs, h, r⟩ => ⟨xs, by rw [ha]; exact h, RpP.mo r mo⟩
  | .ins C ds, ⟨c, dx, xs, hc, h, r⟩ => ⟨c, dx, xs, hc, by rw [ha]; exact h, RpP.mo r mo⟩
  | .lkK ds, ⟨hz, od, xs, h, r⟩ => ⟨(mo.z a hz).1, od, xs, by rw [ha]; exact h, RpP.mo r mo⟩
  | .lkT ds, ⟨hz, od, xs, h, r⟩ => ⟨(mo.z a hz).1, od, xs, by rw [ha]; exact h, RpP.mo r mo⟩
  | .fz d, h => Rp.mo h mo
theorem SR.none_of {S : Store} (sr : SR K H ρ S) {p : Addr} (hp : H p = none) : p ∉ ρ.r := fun hm => by
  obtain ⟨n, hn, e⟩ := List.getElem_of_mem hm
  exact sr.r n p (by rw [List.getElem?_eq_getElem hn, e]) hp
/-- only things that no number names have turned -/
theorem SR.other {S : Store} (sr : SR K H ρ S) (mo : Mo K H ρ H' ρ) (k : ∀ b ∈ ρ.r, H' b = H b) : SR K H' ρ S := ⟨sr.nd, sr.len, fun n a o e q => (sr.obj n a o e q).mo mo (k a (List.mem_of_getElem? e)), sr.lv, fun a h => by rw [(mo.z a h).2]; exact sr.z a h, fun n a e => by rw [k a (List.mem_of_getElem? e)]; exact sr.r n a e⟩
theorem SR.newT {S : Store} (sr : SR K H ρ S) {p : Addr} {u : HO} (hp : H p = none) : SR K (upd H p u) ρ S :=
  sr.other (.new sr hp) fun b hb => upd_ne fun e => sr.none_of hp (e ▸ hb)
theorem SR.new {S : Store} (sr : SR K H ρ S) {p : Addr} {u : HO} {o : MO} (hp : H p = none) (r : HoR K (upd H p u) ⟨ρ.r ++ [p], ρ.z⟩ p o) : SR K (upd H p u) ⟨ρ.r ++ [p], ρ.z⟩ (S ++ [o]) := by
  have mo : Mo K H ρ (upd H p u) ⟨ρ.r ++ [p], ρ.z⟩ := .newR sr hp
  have cas : ∀ (n : Nat) (a : Addr), (ρ.r ++ [p])[n]? = some a → ρ.r[n]? = some a ∨ (n = ρ.r.length ∧ a = p) := fun n a e => by
    by_cases hn : n < ρ.r.length
    · rw [List.getElem?_append_left hn] at e; exact .inl e
    · rw [List.getElem?_append_right (by omega)] at e
      have e0 : n - ρ.r.length = 0 := by
        rcases Nat.eq_zero_or_pos (n - ρ.r.length) with z | z
        · exact z
        · rw [List.getElem?_eq_none (by simp; omega)] at e; cases e
      rw [e0] at e
      exact .inr ⟨by omega, (Option.some.inj e).symm⟩
  have lt : ∀ (n : Nat) (a : Addr), ρ.r[n]? = some a → n < S.length := fun n a e => by
    rw [← sr.len]
    exact (List.getElem?_eq_some_iff.mp e).1
  refine ⟨?_, by simp [sr.len], fun n a o' e q => ?_, fun n a o' e q hl => ?_, fun a h => ?_, fun n a e => ?_⟩
  · show (ρ.r ++ [p]).Nodup
    rw [List.nodup_append]
    refine ⟨sr.nd, by simp, fun x hx y hy => ?_⟩
    have : y = p := by simpa using hy
    subst this
    intro e; subst e
    exact sr.none_of hp hx
  · rcases cas n a e with e | ⟨rfl, rfl⟩
    · rw [List.getElem?_append_left (lt n a e)] at q
      exact (sr.obj n a o' e q).mo mo (upd_ne fun (z : a = p) => sr.r n a e (by rw [z]; exact hp))
    · rw [sr.len, List.getElem?_append_right (Nat.le_refl _), Nat.sub_self] at q
      have eo : o = o' := Option.some.inj q
      subst eo
      exact r
  · rcases cas n a e with e | ⟨rfl, rfl⟩
    · rw [List.getElem?_append_left (lt n a e)] at q
      exact sr.lv n a o' e q hl
    · exact fun z => sr.z _ z hp
  · rw [(mo.z a h).2]; exact sr.z a h
  · rcases cas n a e with e | ⟨rfl, rfl⟩
    · rw [upd_ne fun (z : a = p) => sr.r n a e (by rw [z]; exact hp)]; exact sr.r n a e
    · rw [upd_same]; exact fun z => nomatch z
theorem nd_at {a b : Nat} {x : Addr} (nd : ρ.r.Nodup) (h : ρ.r[a]? = some x) (k : ρ.r[b]? = some x) : a = b := nd_ix nd h k
theorem SR.set {S : Store} (sr : SR K H ρ S) {n : Nat} {a : Addr} {u o : HO} {mo : MO} (e : ρ.r[n]? = some a) (ha : H a = some o) (so : Soft o) (hz : ¬ ρ.z a) (r : HoR K (upd H a u) ρ a mo) : SR K (upd H a u) ρ (S.set n mo) := by
  have mv : Mo K H ρ (upd H a u) ρ := .set ha so hz
  have cas : ∀ (k : Nat) (b : Addr) (o' : MO), ρ.r[k]? = some b → (S.set n mo)[k]? = some o' → (k = n ∧ b = a ∧ o' = mo) ∨ (k ≠ n ∧ b ≠ a ∧ S[k]? = some o') := fun k b o' e' q => by
    by_cases hk : n = k
    · subst hk
      rw [e] at e'; cases e'
      have hs : n < S.length := by
        rcases Nat.lt_or_ge n S.length with z | z
        · exact z
        · rw [List.getElem?_eq_none (by rw [List.length_set]; exact z)] at q; cases q
      rw [List.getElem?_set_self hs] at q
      exact .inl ⟨rfl, rfl, (Option.some.inj q).symm⟩
    · rw [List.getElem?_set_ne hk] at q
      exact .inr ⟨fun z => hk z.symm, fun z => hk (nd_at sr.nd e (z ▸ e')), q⟩
  refine ⟨sr.nd, by rw [List.length_set]; exact sr.len, fun k b o' e' q => ?_, fun k b o' e' q hl => ?_, fun b h => ?_, fun k b e' => ?_⟩
  · rcases cas k b o' e' q with ⟨rfl, rfl, rfl⟩ | ⟨_, hb, q⟩
    · exact r
    · exact (sr.obj k b o' e' q).mo mv (upd_ne hb)
  · rcases cas k b o' e' q with ⟨rfl, rfl, rfl⟩ | ⟨_, hb, q⟩
    · exact hz
    · exact sr.lv k b o' e' q hl
  · rw [(mv.z b h).2]; exact sr.z b h
  · by_cases hb : b = a
    · subst hb; rw [upd_same]; exact fun z => nomatch z
    · rw [upd_ne hb]; exact sr.r k b e'
/-- a list that is written -/
theorem SR.lst {S : Store} {n : Nat} {a : Addr} {ds : List R} (sr : SR K H ρ S) (e : ρ.r[n]? = some a) (h : S[n]? = some (.lst ds)) : ∃ xs, H a = some (.lst xs) ∧ RqA K H ρ xs ds ∧ ¬ ρ.z a := by
  obtain ⟨xs, hu, r⟩ := sr.obj n a _ e h
  exact ⟨xs, hu, r, sr.lv n a _ e h trivial⟩
/-- what is wanted of an outcome -/
def RO {α β : Type} (K : PySem.W.Frag) (rel : Hp → Wd → β → α → Prop) (E : XK) (H : Hp) (ρ : Wd) (o : Out α) (Q : β → Hp → Prop) : Prop := match o with
  | .ok d S' => ∀ v H' ρ', Mo K H ρ H' ρ' → SR K H' ρ' S' → rel H' ρ' v d → Q v H'
  | .exc c S' => ∀ dx H' ρ', Mo K H ρ H' ρ' → SR K H' ρ' S' → (match c.dat with
      | none => dx = none
      | some fs => ∃ a xs, dx = some a ∧ H' a = some (.xd xs) ∧ RpP K H' ρ' xs fs) → E c.cls dx H'
  | .no => False
theorem RO.mono {α β : Type} {rel : Hp → Wd → β → α → Prop} {E : XK} {o : Out α} {Q : β → Hp → Prop} (h : RO K rel E H ρ o Q) (mo : Mo K H ρ H1 ρ1) : RO K rel E H1 ρ1 o Q := by
  cases o with
  | ok d S => exact fun v H' ρ' m s r => h v H' ρ' (mo.trans m) s r
  | exc c S => exact fun dx H' ρ' m s r => h dx H' ρ' (mo.trans m) s r
  | no => exact h
theorem RO.bind {α β γ δ : Type} {relA : Hp → Wd → β → α → Prop} {rel : Hp → Wd → δ → γ → Prop} {E : XK} {o : Out α} {f : α → Store → Out γ} {Q : δ → Hp → Prop} {P : β → Hp → Prop} (h : RO K rel E H ρ (o.bind f) Q)
    (k : ∀ d S v H1 ρ1, Mo K H ρ H1 ρ1 → SR K H1 ρ1 S → relA H1 ρ1 v d → RO K rel E H1 ρ1 (f d S) Q → P v H1) : RO K relA E H ρ o P := by
  cases o with
  | ok d S => exact fun v H' ρ' m s r => k d S v H' ρ' m s r (RO.mono h m)
  | exc c S => exact h
  | no => exact h
abbrev relD (K : PySem.W.Frag) : Hp → Wd → V → R → Prop := fun H ρ v d => Rq K H ρ v d
abbrev relA (K : PySem.W.Frag) : Hp → Wd → List V → List R → Prop := fun H ρ v d => RqA K H ρ v d
abbrev relB : Hp → Wd → Bool → Bool → Prop := fun _ _ v d => v = d
def tE (K : PySem.W.Frag) (E : St → XK) (f : ME) : TE := fun σ H Q => ∃ ρ m S, SR K H ρ S ∧ EnvR K H ρ σ m ∧ RO K (relD K) (E σ) H ρ (f m S) Q
def tA (K : PySem.W.Frag) (E : St → XK) (f : MA) : TA := fun σ H Q => ∃ ρ m S, SR K H ρ S ∧ EnvR K H ρ σ m ∧ RO K (relA K) (E σ) H ρ (f m S) Q
def tT (K : PySem.W.Frag) (E : St → XK) (f : MT) : TT := fun σ H Q => ∃ ρ m S, SR K H ρ S ∧ EnvR K H ρ σ m ∧ RO K relB (E σ) H ρ (f m S) Q
def RS (K : PySem.W.Frag) (E : St → XK) (H : Hp) (ρ : Wd) (o : OutS) (D : Ends) : Prop := match o with
  | .nx m' S' => ∀ σ' H' ρ', Mo K H ρ H' ρ' → SR K H' ρ' S' → EnvR K H' ρ' σ' m' → D.nx σ' H'
  | .bk m' S' => ∀ σ' H' ρ', Mo K H ρ H' ρ' → SR K H' ρ' S' → EnvR K H' ρ' σ' m' → D.bk σ' H'
  | .ct m' S' => ∀ σ' H' ρ', Mo K H ρ H' ρ' → SR K H' ρ' S' → EnvR K H' ρ' σ' m' → D.ct σ' H'
  | .rt d S' => ∀ v H' ρ', Mo K H ρ H' ρ' → SR K H' ρ' S' → Rq K H' ρ' v d → D.rt v H'
  | .exc c m' S' => ∀ σ' dx H' ρ', Mo K H ρ H' ρ' → SR K H' ρ' S' → EnvR K H' ρ' σ' m' → (match c.dat with
      | none => dx = none
      | some fs => ∃ a xs, dx = some a ∧ H' a = some (.xd xs) ∧ RpP K H' ρ' xs fs) → E σ' c.cls dx H'
  | .no => False
def tS (K : PySem.W.Frag) (E : St → XK) (f : MS) : TS := fun D σ H => ∃ ρ m S, SR K H ρ S ∧ EnvR K H ρ σ m ∧ RS K E H ρ (f m S) D
theorem RS.mono {E : St → XK} {o : OutS} {D : Ends} (h : RS K E H ρ o D) (mo : Mo K H ρ H1 ρ1) : RS K E H1 ρ1 o D := by
  cases o with
  | nx m S => exact fun σ' H' ρ' m s r => h σ' H' ρ' (mo.trans m) s r
  | bk m S => exact fun σ' H' ρ' m s r => h σ' H' ρ' (mo.trans m) s r
  | ct m S => exact fun σ' H' ρ' m s r => h σ' H' ρ' (mo.trans m) s r
  | rt d S => exact fun σ' H' ρ' m s r => h σ' H' ρ' (mo.trans m) s r
  | exc c m S => exact fun σ' dx H' ρ' m s r => h σ' dx H' ρ' (mo.trans m) s r
  | no => exact h
/-- an expression's outcome, then a statement's -/
def Out.thenS {α : Type} (o : Out α) (m : Env) (f : α → Store → OutS) : OutS := match o with
  | .ok a S => f a S
  | .exc c S => .exc c m S
  | .no => .no
theorem RS.bind {α β : Type} {rel : Hp → Wd → β → α → Prop} {E : St → XK} {σ : St} {m : Env} {o : Out α} {f : α → Store → OutS} {D : Ends} {P : β → Hp → Prop} (er : EnvR K H ρ σ m) (h : RS K E H ρ (o.thenS m f) D)
    (k : ∀ d S v H1 ρ1, Mo K H ρ H1 ρ1 → SR K H1 ρ1 S → rel H1 ρ1 v d → EnvR K H1 ρ1 σ m → RS K E H1 ρ1 (f d S) D → P v H1) : RO K rel (E σ) H ρ o P := by
  cases o with
  | ok d S => exact fun v H' ρ' mo s r => k d S v H' ρ' mo s r (er.mo mo) (RS.mono h mo)
  | exc c S => exact fun dx H' ρ' mo s r => h σ dx H' ρ' mo s (er.mo mo) r
  | no => exact h
end
theorem PE.imp {X : Cx} {e : Expr} {t t' : TE} (h : PE X e t) (k : ∀ σ H Q, t' σ H Q → t σ H Q) : PE X e t' := ⟨fun pins s σ H Q I q => h.run pins s σ H Q I (k _ _ _ q)⟩
theorem PT.imp {X : Cx} {e : Expr} {t t' : TT} (h : PT X e t) (k : ∀ σ H Q, t' σ H Q → t σ H Q) : PT X e t' := ⟨fun pins s σ H Q I q => h.run pins s σ H Q I (k _ _ _ q)⟩
theorem PW.imp {X : Cx} {e : Expr} {t t' : TT} (h : PW X e t) (k : ∀ σ H Q, t' σ H Q → t σ H Q) : PW X e t' := ⟨fun w pins s σ H Q I q => h.run w pins s σ H Q I (k _ _ _ q)⟩
theorem PA.imp {X : Cx} {e : List Expr} {t t' : TA} (h : PA X e t) (k : ∀ σ H Q, t' σ H Q → t σ H Q) : PA X e t' := ⟨fun pos pins s σ H Q I q => h.run pos pins s σ H Q I (k _ _ _ q)⟩
theorem PS.imp {X : Cx} {e : Stmt} {t t' : TS} (h : PS X e t) (k : ∀ D σ H, t' D σ H → t D σ H) : PS X e t' := ⟨fun pins s σ H Q I q => h.run pins s σ H Q I (k _ _ _ q)⟩
theorem PSs.imp {X : Cx} {e : List Stmt} {t t' : TS} (h : PSs X e t) (k : ∀ D σ H, t' D σ H → t D σ H) : PSs X e t' := ⟨fun pins s σ H Q I q => h.run pins s σ H Q I (k _ _ _ q)⟩
/-- where a truth is wanted -/
def onBl {α : Type} (d : R) (f : Bool → Out α) : Out α := match d with
  | .v (.bl k) => f k
  | _ => .no
theorem RO.onBl {α β : Type} {K : PySem.W.Frag} {rel : Hp → Wd → β → α → Prop} {E : XK} {H : Hp} {ρ : Wd} {d : R} {v : V} {f : Bool → Out α} {Q : β → Hp → Prop} (r : Rq K H ρ v d) (h : RO K rel E H ρ (M.onBl d f) Q) : ∃ k, d = .bl k ∧ v = .bl k ∧ RO K rel E H ρ (f k) Q := by
  cases r with
  | ref e => exact h.elim
  | v r => cases r <;> first | exact (show False from h).elim | exact ⟨_, rfl, rfl, h⟩
section
variable {X : Cx} {E : St → XK} {a b c e : Expr} {es rest : List Expr} {pos : Pos} {ma mb mc : ME} {mt mu : MT} {mr : MA}
def mVar (i : Nat) : ME := fun m S => match m[i]? with
  | some (some d) => .ok d S
  | _ => .no
def mC (d : R) : ME := fun _ S => .ok d S
theorem pm_var (i : Nat) {x : Str} {pos : Pos} (hN : X.N[i]? = some x := by rfl) (hv : Vis X.env.scope x := by first | exact Or.inl rfl | exact Or.inr (Or.inl rfl) | exact Or.inr (Or.inr rfl)) (hd : (x == ("__debug__" : Str)) = false := by decide)
    (hcd : (x == ("__classdict__" : Str)) = false := by decide) : PE X (.Name x pos) (tE X.K E (mVar i)) := by
  refine PE.imp (pe_var hN hv hd hcd) ?_
  rintro σ H Q ⟨ρ, m, S, sr, er, h⟩
  unfold mVar at h
  split at h
  · rename_i d hd
    obtain ⟨v, e, r⟩ := er.get i d hd
    exact ⟨v, e, h v H ρ .refl sr r⟩
  · exact h.elim
theorem pm_c {v : V} {d : D} (h : PE X e (tC v)) (r : ∀ H ρ, Rp X.K H ρ v d) : PE X e (tE X.K E (mC (.v d))) := by
  refine PE.imp h ?_
  rintro σ H Q ⟨ρ, m, S, sr, er, h⟩
  exact h v H ρ .refl sr (.v (r _ _))
theorem pm_int {i j pos} : PE X (.Constant (.int i) j pos) (tE X.K E (mC (.int i))) := pm_c pe_int fun _ _ => .int i
theorem pm_bl {b j pos} : PE X (.Constant (.bool b) j pos) (tE X.K E (mC (.bl b))) := pm_c pe_bl fun _ _ => .bl b
theorem pm_non {j pos} : PE X (.Constant .none j pos) (tE X.K E (mC .non)) := pm_c pe_non fun _ _ => .non
theorem pm_str {x j pos} : PE X (.Constant (.str x) j pos) (tE X.K E (mC (.str x))) := pm_c pe_str fun _ _ => .str x
def rM (K : PySem.W.Frag) (g : R → R → Store → Out R) : R2 := fun x y H Q => ∃ (E : XK) (ρ : Wd) (S : Store) (d e : R), SR K H ρ S ∧ Rq K H ρ x d ∧ Rq K H ρ y e ∧ RO K (relD K) E H ρ (g d e S) Q
def rM1 (K : PySem.W.Frag) (g : R → Store → Out R) : V → Hp → VK → Prop := fun x H Q => ∃ (E : XK) (ρ : Wd) (S : Store) (d : R), SR K H ρ S ∧ Rq K H ρ x d ∧ RO K (relD K) E H ρ (g d S) Q
def rMA (K : PySem.W.Frag) (g : List R → Store → Out R) : List V → Hp → VK → Prop := fun xs H Q => ∃ (E : XK) (ρ : Wd) (S : Store) (ds : List R), SR K H ρ S ∧ RqA K H ρ xs ds ∧ RO K (relD K) E H ρ (g ds S) Q
def rMM (K : PySem.W.Frag) (g : R → List R → Store → Out R) : V → List V → Hp → VK → Prop := fun x xs H Q => ∃ (E : XK) (ρ : Wd) (S : Store) (d : R) (ds : List R), SR K H ρ S ∧ Rq K H ρ x d ∧ RqA K H ρ xs ds ∧ RO K (relD K) E H ρ (g d ds S) Q
def OpM (X : Cx) (f : Value → Value → Sem Value) (g : R → R → Store → Out R) : Prop := OpR X f (rM X.K g)
def UnM (X : Cx) (f : Value → Sem Value) (g : R → Store → Out R) : Prop := UnR X f (rM1 X.K g)
def CaM (X : Cx) (f : Value) (g : List R → Store → Out R) : Prop := CallR X f (rMA X.K g)
def mBin (g : R → R → Store → Out R) (a b : ME) : ME := fun m S => (a m S).bind fun x S1 => (b m S1).bind fun y S2 => g x y S2
def mUn (g : R → Store → Out R) (a : ME) : ME := fun m S => (a m S).bind fun x S1 => g x S1
theorem tOp_of {g : R → R → Store → Out R} {σ : St} {H : Hp} {Q : VK} (h : tE X.K E (mBin g ma mb) σ H Q) : tOp (rM X.K g) (tE X.K E ma) (tE X.K E mb) σ H Q := by
  obtain ⟨ρ, m, S, sr, er, h⟩ := h
  refine ⟨ρ, m, S, sr, er, RO.bind h fun d S1 v H1 ρ1 m1 s1 r1 h1 => ?_⟩
  refine ⟨ρ1, m, S1, s1, er.mo m1, RO.bind h1 fun e S2 w H2 ρ2 m2 s2 r2 h2 => ?_⟩
  exact ⟨_, ρ2, S2, d, e, s2, r1.mo m2, r2, h2⟩
theorem pm_bin {op : Operator} {g : R → R → Store → Out R} (ho : OpM X (binaryOp op) g) (ha : PE X a (tE X.K E ma)) (hb : PE X b (tE X.K E mb)) : PE X (.BinOp a op b pos) (tE X.K E (mBin g ma mb)) :=
  PE.imp (pe_op ho ha hb) fun _ _ _ h => tOp_of h
theorem pm_un {op : UnaryOp} {g : R → Store → Out R} (ho : UnM X (unaryOp op) g) (ha : PE X a (tE X.K E ma)) : PE X (.UnaryOp op a pos) (tE X.K E (mUn g ma)) := by
  refine PE.imp (pe_un ho ha) ?_
  rintro σ H Q ⟨ρ, m, S, sr, er, h⟩
  exact ⟨ρ, m, S, sr, er, RO.bind h fun d S1 v H1 ρ1 m1 s1 r1 h1 => ⟨_, ρ1, S1, d, s1, r1, h1⟩⟩
theorem pm_cmp {op : CmpOp} {g : R → R → Store → Out R} (ho : OpM X (compareOp op) g) (ha : PE X a (tE X.K E ma)) (hb : PE X b (tE X.K E mb)) (hm : behindInMarks op b = false := by first | exact nomark _ | rfl) : PE X (.Compare a [op] [b] pos) (tE X.K E (mBin g ma mb)) :=
  PE.imp (pe_cmpR ho ha hb hm) fun _ _ _ h => tOp_of h
def mtB (f : ME) : MT := fun m S => (f m S).bind fun d S1 => onBl d fun k => .ok k S1
theorem RO.bl {K : PySem.W.Frag} {E : XK} {H : Hp} {ρ : Wd} {o : Out R} {Q : Bool → Hp → Prop} (h : RO K relB E H ρ (o.bind fun d S1 => M.onBl d fun k => .ok k S1) Q) : RO K (relD K) E H ρ o fun x H' => ∃ k, x = .bl k ∧ Q k H' := by
  refine RO.bind h fun d S1 v H1 ρ1 m1 s1 r1 h1 => ?_
  obtain ⟨k, _, rfl, h1⟩ := RO.onBl r1 h1
  exact ⟨_, rfl, h1 _ H1 ρ1 .refl s1 rfl⟩
theorem tE.bl {K : PySem.W.Frag} {f : ME} {σ : St} {H : Hp} {Q : Bool → Hp → Prop} (h : tT K E (mtB f) σ H Q) : tE K E f σ H fun x H' => ∃ k, x = .bl k ∧ Q k H' := by
  obtain ⟨ρ, m, S, sr, er, h⟩ := h
  exact ⟨ρ, m, S, sr, er, RO.bl h⟩
theorem ptm_cmp {op : CmpOp} {g : R → R → Store → Out R} (ho : OpM X (compareOp op) g) (ha : PE X a (tE X.K E ma)) (hb : PE X b (tE X.K E mb)) (hm : behindInMarks op b = false := by first | exact nomark _ | rfl) : PT X (.Compare a [op] [b] pos) (tT X.K E (mtB (mBin g ma mb))) :=
  PT.imp (pt_cmpR ho ha hb hm) fun _ _ _ h => tOp_of (tE.bl h)
/-- a op b op' c -/
def mChain (g g' : R → R → Store → Out R) (a b c : ME) : ME := fun m S => (a m S).bind fun x S1 => (b m S1).bind fun y S2 => (g x y S2).bind fun z S3 => onBl z fun k => match k with
  | true => (c m S3).bind fun w S4 => g' y w S4
  | false => .ok (.bl false) S3
theorem tChain_of {g g' : R → R → Store → Out R} {σ : St} {H : Hp} {Q : VK} (h : tE X.K E (mChain g g' ma mb mc) σ H Q) : tChain (rM X.K g) (rM X.K g') (tE X.K E ma) (tE X.K E mb) (tE X.K E mc) σ H Q := by
  obtain ⟨ρ, m, S, sr, er, h⟩ := h
  refine ⟨ρ, m, S, sr, er, RO.bind h fun d S1 v H1 ρ1 m1 s1 r1 h1 => ?_⟩
  refine ⟨ρ1, m, S1, s1, er.mo m1, RO.bind h1 fun e S2 w H2 ρ2 m2 s2 r2 h2 => ?_⟩
  refine ⟨_, ρ2, S2, d, e, s2, r1.mo m2, r2, RO.bind h2 fun z S3 zv H3 ρ3 m3 s3 r3 h3 => ?_⟩
  obtain ⟨k, _, rfl, h3⟩ := RO.onBl r3 h3
  refine ⟨k, rfl, ?_⟩
  cases k with
  | false => exact h3 _ H3 ρ3 .refl s3 (.bl _)
  | true => exact ⟨ρ3, m, S3, s3, ((er.mo m1).mo m2).mo m3, RO.bind h3 fun c S4 cv H4 ρ4 m4 s4 r4 h4 => ⟨_, ρ4, S4, e, c, s4, (r2.mo m3).mo m4, r4, h4⟩⟩
theorem ptm_chain {op op' : CmpOp} {g g' : R → R → Store → Out R} (ho : OpM X (compareOp op) g) (ho' : OpM X (compareOp op') g') (ha : PE X a (tE X.K E ma)) (hb : PE X b (tE X.K E mb)) (hc : PE X c (tE X.K E mc)) (hm : lastMarks [op, op'] [b, c] = false := by with_unfolding_all rfl) :
    PT X (.Compare a [op, op'] [b, c] pos) (tT X.K E (mtB (mChain g g' ma mb mc))) := PT.imp (pt_chain ho ho' ha hb hc hm) fun _ _ _ h => tChain_of (tE.bl h)
/-- the items of a sequence -/
def seqC : MO → Option (List R)
  | .lst ds => some ds
  | .fz (.lst ds) => some (ds.map .v)
  | _ => none
def lsOf (S : Store) (n : Nat) : Option (List R) := S[n]?.bind seqC
/-- the items of a list, or a tuple -/
def seqOf (S : Store) : R → Option (List R)
  | .v (.tup ds) => some (ds.map .v)
  | .v (.lst ds) => some (ds.map .v)
  | .v (.kl ds) => some (ds.map .v)
  | .v (.kt ds) => some (ds.map .v)
  | .v _ => none
  | .ref n => lsOf S n
/-- of a list alone -/
def lstOf (S : Store) : R → Option (List R)
  | .v (.lst ds) => some (ds.map .v)
  | .v (.kl ds) => some (ds.map .v)
  | .v _ => none
  | .ref n => lsOf S n
theorem SR.ls {K : PySem.W.Frag} {H : Hp} {ρ : Wd} {S : Store} {n : Nat} {a : Addr} {ds : List R} (sr : SR K H ρ S) (e : ρ.r[n]? = some a) (h : lsOf S n = some ds) : ∃ xs, SqL K H a xs ∧ RqA K H ρ xs ds := by
  unfold lsOf at h
  obtain ⟨o, h1, h2⟩ := Option.bind_eq_some_iff.mp h
  have q := sr.obj n a o e h1
  unfold seqC at h2
  split at h2
  · cases h2
    obtain ⟨xs, hu, r⟩ := q
    exact ⟨xs, .inl (.inl hu), r⟩
  · cases h2
    have q : Rp K H ρ (.ref a) (.lst _) := q
    cases q with
    | lst hs ra => exact ⟨_, hs.sq, ra.q⟩
  · cases h2
theorem SR.seq {K : PySem.W.Frag} {H : Hp} {ρ : Wd} {S : Store} {v : V} {d : R} {ds : List R} (sr : SR K H ρ S) (r : Rq K H ρ v d) (e : seqOf S d = some ds) : ∃ p xs, v = .ref p ∧ (SqL K H p xs ∨ SqT K H p xs) ∧ RqA K H ρ xs ds := by
  cases r with
  | v r =>
    cases r <;> first | (cases e; done) | skip
    case tup hs ra => cases e; exact ⟨_, _, rfl, .inr (sqT_at hs), ra.q⟩
    case kt hs ra => cases e; exact ⟨_, _, rfl, .inr hs.sq, ra.q⟩
    case lst hs ra => cases e; exact ⟨_, _, rfl, .inl hs.sq, ra.q⟩
    case kl hs ra => cases e; exact ⟨_, _, rfl, .inl hs.sq, ra.q⟩
  | ref ea =>
    obtain ⟨xs, hq, ra⟩ := sr.ls ea e
    exact ⟨_, _, rfl, .inl hq, ra⟩
theorem SR.lsD {K : PySem.W.Frag} {H : Hp} {ρ : Wd} {S : Store} {v : V} {d : R} {ds : List R} (sr : SR K H ρ S) (r : Rq K H ρ v d) (h : lstOf S d = some ds) : ∃ a xs, v = .ref a ∧ SqL K H a xs ∧ RqA K H ρ xs ds := by
  cases r with
  | v r =>
    cases r <;> first | (cases h; done) | skip
    case lst hs ra => cases h; exact ⟨_, _, rfl, hs.sq, ra.q⟩
    case kl hs ra => cases h; exact ⟨_, _, rfl, hs.sq, ra.q⟩
  | ref ea =>
    obtain ⟨xs, q, r⟩ := sr.ls ea h
    exact ⟨_, _, rfl, q, r⟩
def truM (d : R) (S : Store) : Out Bool := match d with
  | .v .non => .ok false S
  | .v (.bl b) => .ok b S
  | .v (.int i) => .ok (i != 0) S
  | .v (.str x) => if x.length ≤ sizeLine then .ok ((x.length : Int) != 0) S else .no
  | .v (.tup ds) => .ok (!ds.isEmpty) S
  | .v (.lst ds) => .ok (!ds.isEmpty) S
  | .v (.kl ds) => .ok (!ds.isEmpty) S
  | .v (.dct ks _) => .ok (!ks.isEmpty) S
  | .v _ => .no
  | .ref n => match S[n]? with
    | some (.lst ds) => .ok (!ds.isEmpty) S
    | some (.fz (.lst ds)) => .ok (!ds.isEmpty) S
    | some (.dK kvs) => .ok (!kvs.isEmpty) S
    | _ => .no
def mtTru (f : ME) : MT := fun m S => (f m S).bind truM
theorem isEmpty_len {α β : Type} {xs : List α} {ys : List β} (h : xs.length = ys.length) : xs.isEmpty = ys.isEmpty := by
  cases xs <;> cases ys <;> first | rfl | simp at h
theorem tru_of {K : PySem.W.Frag} {E : XK} {H : Hp} {ρ : Wd} {S : Store} {v : V} {d : R} {Q : Bool → Hp → Prop} (sr : SR K H ρ S) (r : Rq K H ρ v d) (h : RO K relB E H ρ (truM d S) Q) : ∃ k, TruV K v H k ∧ Q k H := by
  cases r with
  | v r =>
    cases r with
    | non => exact ⟨_, rfl, h _ H ρ .refl sr rfl⟩
    | bl b => exact ⟨_, rfl, h _ H ρ .refl sr rfl⟩
    | int i => exact ⟨_, rfl, h _ H ρ .refl sr rfl⟩
    | str x =>
      have h : RO K relB E H ρ (if x.length ≤ sizeLine then .ok ((x.length : Int) != 0) S else .no) Q := h
      split at h
      · exact ⟨_, ⟨by assumption, rfl⟩, h _ H ρ .refl sr rfl⟩
      · exact h.elim
    | ty n => exact h.elim
    | txt x hx => exact h.elim
    | kt hs ha => exact h.elim
    | tup hs ha => exact ⟨_, .inr (.inl ⟨_, sqT_at hs, rfl⟩), h _ H ρ .refl sr (by rw [isEmpty_len ha.length])⟩
    | lst hs ha => exact ⟨_, .inl ⟨_, hs.sq, rfl⟩, h _ H ρ .refl sr (by rw [isEmpty_len ha.length])⟩
    | kl hs ha => exact ⟨_, .inl ⟨_, hs.sq, rfl⟩, h _ H ρ .refl sr (by rw [isEmpty_len ha.length])⟩
    | dct hz hd hl ha => exact ⟨_, .inr (.inr ⟨_, hd, rfl⟩), h _ H ρ .refl sr (by rename_i ks xs ds; rw [show (ks.zip xs).isEmpty = ks.isEmpty from isEmpty_len (by rw [List.length_zip, ← hl, Nat.min_self])])⟩
  | @ref a n e =>
    unfold truM at h
    simp only at h
    split at h
    · rename_i ds hs
      obtain ⟨xs, q, r⟩ := sr.ls (ds := ds) e (by unfold lsOf; rw [hs]; rfl)
      exact ⟨_, .inl ⟨xs, q, rfl⟩, h _ H ρ .refl sr (by rw [isEmpty_len r.length])⟩
    · rename_i ds hs
      obtain ⟨xs, q, r⟩ := sr.ls (ds := ds.map .v) e (by unfold lsOf; rw [hs]; rfl)
      exact ⟨_, .inl ⟨xs, q, rfl⟩, h _ H ρ .refl sr (by rw [show xs.isEmpty = ds.isEmpty from isEmpty_len (by rw [r.length, List.length_map])])⟩
    · rename_i kvs hs
      obtain ⟨u, hu, r⟩ := sr.obj n a _ e hs
      exact ⟨_, .inr (.inr ⟨_, hu, rfl⟩), h _ H ρ .refl sr (by rw [isEmpty_len (Paired.length r)])⟩
    · exact h.elim
theorem ptm_val (ha : PE X a (tE X.K E ma)) (he : ∀ whole, isTrue a X.env whole = (do let v ← whole; standAt a.pos; holding [v] (truthy v)) := by intro _; rfl) : PT X a (tT X.K E (mtTru ma)) := by
  refine PT.imp (pt_truth ha he) ?_
  rintro σ H Q ⟨ρ, m, S, sr, er, h⟩
  exact ⟨ρ, m, S, sr, er, RO.bind h fun d S1 v H1 ρ1 m1 s1 r1 h1 => tru_of s1 r1 h1⟩
def mtAnd (a b : MT) : MT := fun m S => (a m S).bind fun k S1 => match k with
  | true => b m S1
  | false => .ok false S1
def mtOr (a b : MT) : MT := fun m S => (a m S).bind fun k S1 => match k with
  | true => .ok true S1
  | false => b m S1
def mtNot (a : MT) : MT := fun m S => (a m S).bind fun k S1 => .ok (!k) S1
theorem ptm_not (ha : PT X a (tT X.K E mt)) : PT X (.UnaryOp .Not a pos) (tT X.K E (mtNot mt)) := by
  refine PT.imp (pt_not ha) ?_
  rintro σ H Q ⟨ρ, m, S, sr, er, h⟩
  exact ⟨ρ, m, S, sr, er, RO.bind h fun d S1 v H1 ρ1 m1 s1 r1 h1 => by subst r1; exact h1 _ H1 ρ1 .refl s1 rfl⟩
theorem pwm_and1 (ha : PT X a (tT X.K E mt)) : PW X (.BoolOp .And [a] pos) (tT X.K E mt) := pw_and1 ha
theorem pwm_or1 (ha : PT X a (tT X.K E mt)) : PW X (.BoolOp .Or [a] pos) (tT X.K E mt) := pw_or1 ha
theorem pwm_and (ha : PT X a (tT X.K E mt)) (hb : PW X (.BoolOp .And (b :: rest) pos) (tT X.K E mu)) : PW X (.BoolOp .And (a :: b :: rest) pos) (tT X.K E (mtAnd mt mu)) := by
  refine PW.imp (pw_and ha hb) ?_
  rintro σ H Q ⟨ρ, m, S, sr, er, h⟩
  refine ⟨ρ, m, S, sr, er, RO.bind h fun d S1 v H1 ρ1 m1 s1 r1 h1 => ?_⟩
  subst r1
  cases v with
  | true => exact iteT ⟨ρ1, m, S1, s1, er.mo m1, h1⟩
  | false => exact iteF (h1 _ H1 ρ1 .refl s1 rfl)
theorem pwm_or (ha : PT X a (tT X.K E mt)) (hb : PW X (.BoolOp .Or (b :: rest) pos) (tT X.K E mu)) : PW X (.BoolOp .Or (a :: b :: rest) pos) (tT X.K E (mtOr mt mu)) := by
  refine PW.imp (pw_or ha hb) ?_
  rintro σ H Q ⟨ρ, m, S, sr, er, h⟩
  refine ⟨ρ, m, S, sr, er, RO.bind h fun d S1 v H1 ρ1 m1 s1 r1 h1 => ?_⟩
  subst r1
  cases v with
  | true => exact iteT (h1 _ H1 ρ1 .refl s1 rfl)
  | false => exact iteF ⟨ρ1, m, S1, s1, er.mo m1, h1⟩
/-- and, or, not as values (bools ahead of the last) -/
def mAnd (a b : ME) : ME := fun m S => (a m S).bind fun k S1 => onBl k fun k => match k with
  | true => b m S1
  | false => .ok (.bl false) S1
def mOr (a b : ME) : ME := fun m S => (a m S).bind fun k S1 => onBl k fun k => match k with
  | true => .ok (.bl true) S1
  | false => b m S1
def mNot (a : ME) : ME := fun m S => (a m S).bind fun k S1 => onBl k fun k => .ok (.bl (!k)) S1
theorem pm_one {op} (h : PE X a (tE X.K E ma)) : PE X (.BoolOp op [a] pos) (tE X.K E ma) := pe_one h
theorem pm_and (ha : PE X a (tE X.K E ma)) (hb : PE X (.BoolOp .And (b :: rest) pos) (tE X.K E mb)) : PE X (.BoolOp .And (a :: b :: rest) pos) (tE X.K E (mAnd ma mb)) := by
  refine PE.imp (pe_and ha hb) ?_
  rintro σ H Q ⟨ρ, m, S, sr, er, h⟩
  refine ⟨ρ, m, S, sr, er, RO.bind h fun d S1 v H1 ρ1 m1 s1 r1 h1 => ?_⟩
  obtain ⟨k, _, rfl, h1⟩ := RO.onBl r1 h1
  refine ⟨k, rfl, ?_⟩
  cases k with
  | true => exact iteT ⟨ρ1, m, S1, s1, er.mo m1, h1⟩
  | false => exact iteF (h1 _ H1 ρ1 .refl s1 (.bl _))
def mIf (t : MT) (a b : ME) : ME := fun m S => (t m S).bind fun k S1 => match k with
  | true => a m S1
  | false => b m S1
theorem pm_ifExp (hc : PT X c (tT X.K E mt)) (ha : PE X a (tE X.K E ma)) (hb : PE X b (tE X.K E mb)) : PE X (.IfExp c a b pos) (tE X.K E (mIf mt ma mb)) := by
  refine PE.imp (pe_ifExp hc ha hb) ?_
  rintro σ H Q ⟨ρ, m, S, sr, er, h⟩
  refine ⟨ρ, m, S, sr, er, RO.bind h fun d S1 v H1 ρ1 m1 s1 r1 h1 => ?_⟩
  subst r1
  cases v with
  | true => exact iteT ⟨ρ1, m, S1, s1, er.mo m1, h1⟩
  | false => exact iteF ⟨ρ1, m, S1, s1, er.mo m1, h1⟩
def mNil : MA := fun _ S => .ok [] S
def mCons (a : ME) (r : MA) : MA := fun m S => (a m S).bind fun d S1 => (r m S1).bind fun ds S2 => .ok (d :: ds) S2
theorem pam_nil : PA X [] (tA X.K E mNil) := by
  refine PA.imp pa_nil ?_
  rintro σ H Q ⟨ρ, m, S, sr, er, h⟩
  exact h _ H ρ .refl sr .nil
theorem pam_cons (ha : PE X e (tE X.K E ma)) (hr : PA X es (tA X.K E mr)) (hs : starEach (e :: es) X.env = (false, eval e X.env) :: starEach es X.env := by rfl) : PA X (e :: es) (tA X.K E (mCons ma mr)) := by
  refine PA.imp (pa_cons ha hr hs) ?_
  rintro σ H Q ⟨ρ, m, S, sr, er, h⟩
  refine ⟨ρ, m, S, sr, er, RO.bind h fun d S1 v H1 ρ1 m1 s1 r1 h1 => ?_⟩
  refine ⟨ρ1, m, S1, s1, er.mo m1, RO.bind h1 fun ds S2 vs H2 ρ2 m2 s2 r2 h2 => ?_⟩
  exact h2 _ H2 ρ2 .refl s2 (.cons (r1.mo m2) r2)
mutual
def frz : Nat → Store → R → Option (D × Store)
  | _, S, .v d => some (d, S)
  | 0, _, .ref _ => none
  | k + 1, S, .ref n => match S[n]? with
    | some (.fz d) => some (d, S)
    | some (.lst rs) => (frzA k S rs).bind fun p => some (.lst p.1, p.2.set n (.fz (.lst p.1)))
    | some (.dK kvs) => (frzA k S (kvs.map (·.2))).bind fun p => some (.dct (kvs.map (·.1)) p.1, p.2.set n (.fz (.dct (kvs.map (·.1)) p.1)))
    | _ => none
  termination_by k _ _ => (k, 0)
def frzA : Nat → Store → List R → Option (List D × Store)
  | _, S, [] => some ([], S)
  | k, S, r :: rs => (frz k S r).bind fun p => (frzA k p.2 rs).bind fun q => some (p.1 :: q.1, q.2)
  termination_by k _ rs => (k, rs.length + 1)
end
theorem frz_v (k : Nat) (S : Store) (d : D) : frz k S (.v d) = some (d, S) := by cases k <;> simp [frz]
theorem frzA_map (k : Nat) (S : Store) : ∀ ds : List D, frzA k S (ds.map .v) = some (ds, S)
  | [] => by simp [frzA]
  | d :: ds => by simp [frzA, frz_v, frzA_map k S ds]
theorem SR.freeze {K : PySem.W.Frag} {H : Hp} {ρ : Wd} {S : Store} {n : Nat} {a : Addr} {d : D} (sr : SR K H ρ S) (e : ρ.r[n]? = some a) (h : Rp K H ⟨ρ.r, fun b => ρ.z b ∨ b = a⟩ (.ref a) d) :
    SR K H ⟨ρ.r, fun b => ρ.z b ∨ b = a⟩ (S.set n (.fz d)) ∧ Mo K H ρ H ⟨ρ.r, fun b => ρ.z b ∨ b = a⟩ := by
  have mo : Mo K H ρ H ⟨ρ.r, fun b => ρ.z b ∨ b = a⟩ := ⟨fun _ _ h => h, fun _ _ h => h, fun _ _ h => h, fun b h => ⟨.inl h, rfl⟩⟩
  have cas : ∀ (k : Nat) (b : Addr) (o' : MO), ρ.r[k]? = some b → (S.set n (.fz d))[k]? = some o' → (k = n ∧ b = a ∧ o' = .fz d) ∨ (k ≠ n ∧ b ≠ a ∧ S[k]? = some o') := fun k b o' e' q => by
    by_cases hk : n = k
    · subst hk
      rw [e] at e'; cases e'
      have hs : n < S.length := by
        rcases Nat.lt_or_ge n S.length with z | z
        · exact z
        · rw [List.getElem?_eq_none (by rw [List.length_set]; exact z)] at q; cases q
      rw [List.getElem?_set_self hs] at q
      exact .inl ⟨rfl, rfl, (Option.some.inj q).symm⟩
    · rw [List.getElem?_set_ne hk] at q
      exact .inr ⟨fun z => hk z.symm, fun z => hk (nd_at sr.nd e (z ▸ e')), q⟩
  refine ⟨⟨sr.nd, by rw [List.length_set]; exact sr.len, fun k b o' e' q => ?_, fun k b o' e' q hl => ?_, fun b h => ?_, sr.r⟩, mo⟩
  · rcases cas k b o' e' q with ⟨rfl, rfl, rfl⟩ | ⟨_, hb, q⟩
    · exact h
    · exact (sr.obj k b o' e' q).mo mo rfl
  · rcases cas k b o' e' q with ⟨rfl, rfl, rfl⟩ | ⟨_, hb, q⟩
    · exact hl.elim
    · rintro (z | z)
      · exact sr.lv k b o' e' q hl z
      · exact hb z
  · rcases h with h | h
    · exact sr.z b h
    · subst h; exact sr.r n b e
mutual
theorem frz_ok {K : PySem.W.Frag} {H : Hp} : ∀ (k : Nat) (S : Store) (r : R) (d : D) (S' : Store) (ρ : Wd) (v : V), frz k S r = some (d, S') → SR K H ρ S → Rq K H ρ v r → ∃ z', SR K H ⟨ρ.r, z'⟩ S' ∧ Mo K H ρ H ⟨ρ.r, z'⟩ ∧ Rp K H ⟨ρ.r, z'⟩ v d
  | k, S, .v d, d', S', ρ, v, e, sr, r => by
    rw [frz_v] at e
    cases e
    cases r with
    | v r => exact ⟨ρ.z, sr, .refl, r⟩
  | 0, S, .ref n, d', S', ρ, v, e, sr, r => by simp [frz] at e
  | k + 1, S, .ref n, d', S', ρ, v, e, sr, r => by
    cases r with
    | @ref a _ ea =>
      unfold frz at e
      split at e
      · rename_i d hd
        cases e
        exact ⟨ρ.z, sr, .refl, sr.obj n a _ ea hd⟩
      · rename_i rs hd
        obtain ⟨⟨ds, S1⟩, e1, e2⟩ := Option.bind_eq_some_iff.mp e
        cases e2
        obtain ⟨xs, hu, ra⟩ := sr.obj n a _ ea hd
        obtain ⟨z1, s1, m1, r1⟩ := frzA_ok k S rs ds S1 ρ xs e1 sr ra
        have rp : Rp K H ⟨ρ.r, fun b => z1 b ∨ b = a⟩ (.ref a) (.lst ds) := .lst ⟨.inr rfl, hu⟩ (r1.mo ⟨fun _ _ h => h, fun _ _ h => h, fun _ _ h => h, fun b h => ⟨.inl h, rfl⟩⟩)
        obtain ⟨s2, m2⟩ := s1.freeze (n := n) (a := a) (d := .lst ds) ea rp
        exact ⟨_, s2, m1.trans m2, rp⟩
      · rename_i kvs hd
        obtain ⟨⟨ds, S1⟩, e1, e2⟩ := Option.bind_eq_some_iff.mp e
        cases e2
        obtain ⟨xs, hu, ra⟩ := sr.obj n a _ ea hd
        have ks : ∀ {xs : List (Key × V)} {kvs : List (Key × R)}, RpP K H ρ xs kvs → kvs.map (·.1) = xs.map (·.1) ∧ RqA K H ρ (xs.map (·.2)) (kvs.map (·.2)) := by
          intro xs kvs h
          induction h with
          | nil => exact ⟨rfl, .nil⟩
          | cons h1 h2 ih => exact ⟨by simp [h1.1, ih.1], .cons h1.2 ih.2⟩
        obtain ⟨k1, k2⟩ := ks ra
        obtain ⟨z1, s1, m1, r1⟩ := frzA_ok k S _ ds S1 ρ _ e1 sr k2
        have hz : xs = (kvs.map (·.1)).zip (xs.map (·.2)) := by
          rw [k1]
          clear hu ra k1 k2 r1
          induction xs with
          | nil => rfl
          | cons x xs ih => simp [← ih]
        have rp : Rp K H ⟨ρ.r, fun b => z1 b ∨ b = a⟩ (.ref a) (.dct (kvs.map (·.1)) ds) := .dct (.inr rfl) (by rw [← hz]; exact hu) (by rw [k1]; simp) (r1.mo ⟨fun _ _ h => h, fun _ _ h => h, fun _ _ h => h, fun b h => ⟨.inl h, rfl⟩⟩)
        obtain ⟨s2, m2⟩ := s1.freeze (n := n) (a := a) (d := .dct (kvs.map (·.1)) ds) ea rp
        exact ⟨_, s2, m1.trans m2, rp⟩
      · cases e
  termination_by k _ _ => (k, 0)
theorem frzA_ok {K : PySem.W.Frag} {H : Hp} : ∀ (k : Nat) (S : Store) (rs : List R) (ds : List D) (S' : Store) (ρ : Wd) (vs : List V), frzA k S rs = some (ds, S') → SR K H ρ S → RqA K H ρ vs rs → ∃ z', SR K H ⟨ρ.r, z'⟩ S' ∧ Mo K H ρ H ⟨ρ.r, z'⟩ ∧ RpA K H ⟨ρ.r, z'⟩ vs ds
  | k, S, [], ds, S', ρ, vs, e, sr, r => by
    unfold frzA at e
    cases e
    cases r
    exact ⟨ρ.z, sr, .refl, .nil⟩
  | k, S, r0 :: rs, ds, S', ρ, vs, e, sr, r => by
    unfold frzA at e
    obtain ⟨⟨d, S1⟩, e1, e2⟩ := Option.bind_eq_some_iff.mp e
    obtain ⟨⟨ds', S2⟩, e3, e4⟩ := Option.bind_eq_some_iff.mp e2
    cases e4
    cases r with
    | cons ra rb =>
      obtain ⟨z1, s1, m1, r1⟩ := frz_ok k S r0 d S1 ρ _ e1 sr ra
      obtain ⟨z2, s2, m2, r2⟩ := frzA_ok k S1 rs ds' S2 ⟨ρ.r, z1⟩ _ e3 s1 (RqA.mo rb m1)
      exact ⟨z2, s2, m1.trans m2, .cons (r1.mo m2) r2⟩
  termination_by k _ rs => (k, rs.length + 1)
end
def frzO {α : Type} (S : Store) (rs : List R) (f : List D → Store → Out α) : Out α := match frzA 8 S rs with
  | some p => f p.1 p.2
  | none => .no
theorem RO.frz {α β : Type} {K : PySem.W.Frag} {rel : Hp → Wd → β → α → Prop} {E : XK} {H : Hp} {ρ : Wd} {S : Store} {rs : List R} {vs : List V} {f : List D → Store → Out α} {Q : β → Hp → Prop} (sr : SR K H ρ S) (r : RqA K H ρ vs rs) (h : RO K rel E H ρ (frzO S rs f) Q) :
    ∃ ds S' ρ', SR K H ρ' S' ∧ Mo K H ρ H ρ' ∧ RpA K H ρ' vs ds ∧ RO K rel E H ρ' (f ds S') Q := by
  unfold frzO at h
  split at h
  · rename_i p e
    obtain ⟨z', s1, m1, r1⟩ := frzA_ok 8 S rs p.1 p.2 ρ vs e sr r
    exact ⟨_, _, _, s1, m1, r1, RO.mono h m1⟩
  · exact h.elim
/-- a new tuple; a new list that is a cell, one by value -/
def mTup (r : MA) : ME := fun m S => (r m S).bind fun rs S1 => frzO S1 rs fun ds S2 => if ds.length ≤ sizeLine then .ok (.tup ds) S2 else .no
def mLst (r : MA) : ME := fun m S => (r m S).bind fun ds S1 => if ds.length ≤ sizeLine then .ok (.ref S1.length) (S1 ++ [.lst ds]) else .no
def mLstV (r : MA) : ME := fun m S => (r m S).bind fun rs S1 => frzO S1 rs fun ds S2 => if ds.length ≤ sizeLine then .ok (.lst ds) S2 else .no
/-- a new list -/
theorem RO.lst {K : PySem.W.Frag} {E : XK} {H : Hp} {ρ : Wd} {S : Store} {ds : List R} {xs : List V} {Q : VK} (sr : SR K H ρ S) (r : RqA K H ρ xs ds) (h : RO K (relD K) E H ρ (.ok (.ref S.length) (S ++ [.lst ds])) Q) {p : Addr} (hp : H p = none) : Q (.ref p) (upd H p (.lst xs)) := by
  have mo : Mo K H ρ (upd H p (.lst xs)) ⟨ρ.r ++ [p], ρ.z⟩ := .newR sr hp
  refine h _ _ ⟨ρ.r ++ [p], ρ.z⟩ mo (sr.new hp ⟨xs, upd_same, r.mo mo⟩) (.ref ?_)
  show (ρ.r ++ [p])[S.length]? = _
  rw [List.getElem?_append_right (by rw [sr.len]; exact Nat.le_refl _), sr.len, Nat.sub_self]
  rfl
theorem RO.tup {K : PySem.W.Frag} {E : XK} {H : Hp} {ρ : Wd} {S : Store} {ds : List D} {xs : List V} {Q : VK} (sr : SR K H ρ S) (r : RpA K H ρ xs ds) (h : RO K (relD K) E H ρ (.ok (.tup ds) S) Q) {p : Addr} (hp : H p = none) : Q (.ref p) (upd H p (.tup xs)) :=
  h _ _ ρ (.new sr hp) (sr.newT hp) (.v (.tup upd_same (r.mo (.new sr hp))))
/-- a new thing, frozen at once -/
theorem SR.newZ {K : PySem.W.Frag} {H : Hp} {ρ : Wd} {S : Store} (sr : SR K H ρ S) {p : Addr} {u : HO} (hp : H p = none) : SR K (upd H p u) ⟨ρ.r, fun b => ρ.z b ∨ b = p⟩ S ∧ Mo K H ρ (upd H p u) ⟨ρ.r, fun b => ρ.z b ∨ b = p⟩ := by
  have s1 := sr.newT (u := u) hp
  have mo1 : Mo K H ρ (upd H p u) ρ := .new sr hp
  have mo : Mo K H ρ (upd H p u) ⟨ρ.r, fun b => ρ.z b ∨ b = p⟩ := ⟨mo1.tup, mo1.kl, mo1.ref, fun b h => ⟨.inl h, (mo1.z b h).2⟩⟩
  have mo2 : Mo K (upd H p u) ρ (upd H p u) ⟨ρ.r, fun b => ρ.z b ∨ b = p⟩ := ⟨fun _ _ h => h, fun _ _ h => h, fun _ _ h => h, fun b h => ⟨.inl h, rfl⟩⟩
  refine ⟨⟨s1.nd, s1.len, fun n a o e q => (s1.obj n a o e q).mo mo2 rfl, fun n a o e q hl => ?_, fun a h => ?_, s1.r⟩, mo⟩
  · rintro (z | z)
    · exact s1.lv n a o e q hl z
    · subst z; exact sr.r n a e hp
  · rcases h with h | h
    · exact s1.z a h
    · subst h; rw [upd_same]; exact fun z => nomatch z
theorem RO.lstV {K : PySem.W.Frag} {E : XK} {H : Hp} {ρ : Wd} {S : Store} {ds : List D} {xs : List V} {Q : VK} (sr : SR K H ρ S) (r : RpA K H ρ xs ds) (h : RO K (relD K) E H ρ (.ok (.lst ds) S) Q) {p : Addr} (hp : H p = none) : Q (.ref p) (upd H p (.lst xs)) := by
  obtain ⟨s1, mo⟩ := sr.newZ (u := .lst xs) hp
  exact h _ _ _ mo s1 (.v (.lst ⟨.inr rfl, upd_same⟩ (r.mo mo)))
theorem pm_tup {k : Nat} (ha : PA X es (tA X.K E mr)) : PE X (.Tuple es k pos) (tE X.K E (mTup mr)) := by
  refine PE.imp (pe_tup ha) ?_
  rintro σ H Q ⟨ρ, m, S, sr, er, h⟩
  refine ⟨ρ, m, S, sr, er, RO.bind h fun ds S1 xs H1 ρ1 m1 s1 r1 h1 => ?_⟩
  obtain ⟨es, S2, ρ2, s2, m2, r2, h2⟩ := RO.frz s1 r1 h1
  split at h2
  · exact ⟨by rw [r2.length]; assumption, fun p hp => RO.tup s2 r2 h2 hp⟩
  · exact h2.elim
theorem pm_lst (ha : PA X es (tA X.K E mr)) : PE X (.List es pos) (tE X.K E (mLst mr)) := by
  refine PE.imp (pe_lst ha) ?_
  rintro σ H Q ⟨ρ, m, S, sr, er, h⟩
  refine ⟨ρ, m, S, sr, er, RO.bind h fun ds S1 xs H1 ρ1 m1 s1 r1 h1 => ?_⟩
  split at h1
  · exact ⟨by rw [r1.length]; assumption, fun p hp => RO.lst s1 r1 h1 hp⟩
  · exact h1.elim
theorem pm_lstV (ha : PA X es (tA X.K E mr)) : PE X (.List es pos) (tE X.K E (mLstV mr)) := by
  refine PE.imp (pe_lst ha) ?_
  rintro σ H Q ⟨ρ, m, S, sr, er, h⟩
  refine ⟨ρ, m, S, sr, er, RO.bind h fun ds S1 xs H1 ρ1 m1 s1 r1 h1 => ?_⟩
  obtain ⟨es, S2, ρ2, s2, m2, r2, h2⟩ := RO.frz s1 r1 h1
  split at h2
  · exact ⟨by rw [r2.length]; assumption, fun p hp => RO.lstV s2 r2 h2 hp⟩
  · exact h2.elim
def mCall (g : List R → Store → Out R) (r : MA) : ME := fun m S => (r m S).bind g
theorem pm_callB {x : Str} {p : Pos} {id : String} {g : List R → Store → Out R} (hc : CaM X (.builtin id) g) (hg : Gl X x) (hm : X.mg x = none) (hv : bootBuiltins x = some (.builtin id)) (ha : PA X (e :: es) (tA X.K E mr)) (hn : x ≠ "__name__" := by decide) (hdb : (x == ("__debug__" : Str)) = false := by decide)
    (he : starEach (e :: es) X.env = (false, eval e X.env) :: starEach es X.env := by rfl) (hpl : (backTo pos (starEach es X.env)).any (·.1) = false := by rfl) : PE X (.Call (.Name x p) (e :: es) [] pos) (tE X.K E (mCall g mr)) := by
  refine PE.imp (pe_callB hc hg hm hv ha hn hdb he hpl) ?_
  rintro σ H Q ⟨ρ, m, S, sr, er, h⟩
  exact ⟨ρ, m, S, sr, er, RO.bind h fun ds S1 xs H1 ρ1 m1 s1 r1 h1 => ⟨_, ρ1, S1, ds, s1, r1, h1⟩⟩
theorem pm_callTy {x : Str} {p : Pos} {T : String} {g : List R → Store → Out R} (hc : CaM X (.type T) g) (hg : Gl X x) (hm : X.mg x = none) (hv : bootBuiltins x = some (.type T)) (ha : PA X (e :: es) (tA X.K E mr)) (hn : x ≠ "__name__" := by decide) (hdb : (x == ("__debug__" : Str)) = false := by decide)
    (he : starEach (e :: es) X.env = (false, eval e X.env) :: starEach es X.env := by rfl) (hpl : (backTo pos (starEach es X.env)).any (·.1) = false := by rfl) : PE X (.Call (.Name x p) (e :: es) [] pos) (tE X.K E (mCall g mr)) := by
  refine PE.imp (pe_callTy hc hg hm hv ha hn hdb he hpl) ?_
  rintro σ H Q ⟨ρ, m, S, sr, er, h⟩
  exact ⟨ρ, m, S, sr, er, RO.bind h fun ds S1 xs H1 ρ1 m1 s1 r1 h1 => ⟨_, ρ1, S1, ds, s1, r1, h1⟩⟩
/-- what a def promises that the mirror g tells -/
def spM (K : PySem.W.Frag) (n : Nat) (g : List R → Store → Out R) : Sp := fun vs H Q E => vs.length = n ∧ ∃ (ρ : Wd) (S : Store) (ds : List R), SR K H ρ S ∧ RqA K H ρ vs ds ∧ RO K (relD K) E H ρ (g ds S) Q
theorem pm_call {x : Str} {p : Pos} {CX : CXT} {k n : Nat} {f : Addr} {fd : FuncData} {ps : List Str} {g : List R → Store → Out R} (F : FnOk X.prog X.w X.K X.mg X.base CX k f fd ps (spM X.K n g)) (hr : Room k X.A) (hg : Gl X x) (hm : X.mg x = some (.ref f)) (hk : PySem.W.keepIn X.K (.ref f) = true) (hb : Binds X.K fd ps [])
    {E0 : XK} (hx : Passes CX X E0) (hE : ∀ σ, E σ = E0) (ha : PA X (e :: es) (tA X.K E mr)) (hl : (e :: es).length = n := by rfl) (hdb : (x == ("__debug__" : Str)) = false := by decide) (he : starEach (e :: es) X.env = (false, eval e X.env) :: starEach es X.env := by rfl) (hpl : (backTo pos (starEach es X.env)).any (·.1) = false := by rfl)
    (hA : ∀ m S ds S', mr m S = .ok ds S' → ds.length = n) : PE X (.Call (.Name x p) (e :: es) [] pos) (tE X.K E (mCall g mr)) := by
  refine PE.imp (pe_call F hr hg hm hk hb .nil hx ha hdb he hpl) ?_
  rintro σ H Q ⟨ρ, m, S, sr, er, h⟩
  have hA := hA m S
  refine ⟨ρ, m, S, sr, er, ?_⟩
  unfold mCall at h
  generalize mr m S = o at h hA ⊢
  cases o with
  | ok ds S1 =>
    refine fun xs H1 ρ1 m1 s1 r1 => ?_
    show spM X.K n g (xs ++ []) H1 Q E0
    rw [List.append_nil]
    refine ⟨by rw [r1.length]; exact hA ds S1 rfl, ρ1, S1, ds, s1, r1, ?_⟩
    rw [← hE σ]
    exact RO.mono h m1
  | exc c S1 => exact h
  | no => exact h
end
end M
namespace M
open PySem PySem.Spec L2
open PyProof.Rows hiding St
def R.lo (k : Nat) : R → Prop
  | .v _ => True
  | .ref n => n < k
def MO.lo (k : Nat) : MO → Prop
  | .lst rs => ∀ r ∈ rs, r.lo k
  | .dK kvs => ∀ p ∈ kvs, p.2.lo k
  | .dT kvs => ∀ p ∈ kvs, p.2.lo k
  | .ins _ fs => ∀ p ∈ fs, p.2.lo k
  | .lkK kvs => ∀ p ∈ kvs, p.2.lo k
  | .lkT kvs => ∀ p ∈ kvs, p.2.lo k
  | .fz _ => True
/-- what was there stands, or points to nothing new -/
def Upd (S T : Store) : Prop := T.length = S.length ∧ ∀ (i : Nat) (c : MO), T[i]? = some c → S[i]? = some c ∨ c.lo S.length
def OkCut (S T : Store) : Prop := S.length ≤ T.length ∧ Upd S (T.take S.length)
open Classical in
noncomputable def cut (S T : Store) : Store := if OkCut S T then T.take S.length else T
theorem Upd.refl (S : Store) : Upd S S := ⟨rfl, fun _ _ h => .inl h⟩
theorem Upd.set {S T : Store} {n : Nat} {c : MO} (h : Upd S T) (hc : c.lo S.length) : Upd S (T.set n c) := by
  refine ⟨by rw [List.length_set]; exact h.1, fun i c' e => ?_⟩
  by_cases hi : n = i
  · subst hi
    by_cases hl : n < T.length
    · rw [List.getElem?_set_self hl] at e
      cases e
      exact .inr hc
    · rw [List.getElem?_eq_none (by rw [List.length_set]; omega)] at e; cases e
  · rw [List.getElem?_set_ne hi] at e
    exact h.2 i c' e
theorem MO.lo.mono {k j : Nat} (h : k ≤ j) : ∀ {c : MO}, c.lo k → c.lo j := by
  have hr : ∀ r : R, r.lo k → r.lo j := fun r hr => by
    cases r with
    | v d => trivial
    | ref n => exact Nat.lt_of_lt_of_le hr h
  intro c hc
  cases c with
  | lst rs => exact fun r m => hr r (hc r m)
  | dK rs => exact fun r m => hr _ (hc r m)
  | dT rs => exact fun r m => hr _ (hc r m)
  | ins C rs => exact fun r m => hr _ (hc r m)
  | lkK rs => exact fun r m => hr _ (hc r m)
  | lkT rs => exact fun r m => hr _ (hc r m)
  | fz d => trivial
theorem Upd.trans {S T U : Store} (a : Upd S T) (b : Upd T U) : Upd S U := by
  refine ⟨b.1.trans a.1, fun i c e => ?_⟩
  rcases b.2 i c e with h | h
  · exact a.2 i c h
  · exact .inr (h.mono (Nat.le_of_eq a.1))
theorem cut_app {S T : Store} (t : Store) (h : Upd S T) : cut S (T ++ t) = T := by
  have e : (T ++ t).take S.length = T := by rw [← h.1, List.take_left]
  unfold cut
  rw [if_pos ⟨by rw [List.length_append, h.1]; omega, by rw [e]; exact h⟩, e]
theorem cut_upd {S T : Store} (h : Upd S T) : cut S T = T := by
  have := cut_app (t := []) h
  rwa [List.append_nil] at this
theorem cut_self (S : Store) : cut S S = S := cut_upd (.refl S)
section
variable {K : PySem.W.Frag} {H H' H0 : Hp} {ρ ρ' ρ0 : Wd} {S T : Store}
mutual
theorem Rp.zz {p q : List Addr} {z : Addr → Prop} : ∀ (d : D) (v : V), Rp K H ⟨p, z⟩ v d → Rp K H ⟨q, z⟩ v d
  | .non, _, h => by cases h; exact .non
  | .bl b, _, h => by cases h; exact .bl b
  | .int i, _, h => by cases h; exact .int i
  | .str x, _, h => by cases h; exact .str x
  | .ty n, _, h => by cases h; exact .ty n
  | .tup ds, _, h => by
    cases h with
    | tup hs ha => exact .tup hs (RpA.zz ds _ ha)
  | .lst ds, _, h => by
    cases h with
    | lst hs ha => exact .lst hs (RpA.zz ds _ ha)
  | .kl ds, _, h => by
    cases h with
    | kl hs ha => exact .kl hs (RpA.zz ds _ ha)
  | .dct ks ds, _, h => by
    cases h with
    | dct hz hs hl ha => exact .dct hz hs hl (RpA.zz ds _ ha)
  | .txt, _, h => by
    cases h with
    | txt x hx => exact .txt x hx
  | .kt ds, _, h => by
    cases h with
    | kt hs ha => exact .kt hs (RpA.zz ds _ ha)
theorem RpA.zz {p q : List Addr} {z : Addr → Prop} : ∀ (ds : List D) (vs : List V), RpA K H ⟨p, z⟩ vs ds → RpA K H ⟨q, z⟩ vs ds
  | [], _, h => by cases h; exact .nil
  | d :: ds, _, h => by
    cases h with
    | cons h1 h2 => exact .cons (Rp.zz d _ h1) (RpA.zz ds _ h2)
end
theorem Rq.lo {v : V} {r : R} (h : Rq K H ρ v r) : r.lo ρ.r.length := by
  cases h with
  | v h => trivial
  | ref e => exact (List.getElem?_eq_some_iff.mp e).1
theorem Rq.take {v : V} {r : R} {k : Nat} (h : Rq K H ρ v r) (hb : r.lo k) : Rq K H ⟨ρ.r.take k, ρ.z⟩ v r := by
  cases h with
  | v h => exact .v (Rp.zz _ _ h)
  | ref e => exact .ref (by rw [List.getElem?_take_of_lt hb]; exact e)
theorem RqA.lo {vs : List V} {rs : List R} (h : RqA K H ρ vs rs) : ∀ r ∈ rs, r.lo ρ.r.length := by
  induction h with
  | nil => intro r hr; cases hr
  | cons h1 h2 ih =>
    intro r hr
    rcases List.mem_cons.mp hr with rfl | hr
    · exact h1.lo
    · exact ih r hr
theorem RqA.takeW {vs : List V} {rs : List R} {k : Nat} (h : RqA K H ρ vs rs) (hb : ∀ r ∈ rs, r.lo k) : RqA K H ⟨ρ.r.take k, ρ.z⟩ vs rs := by
  induction h with
  | nil => exact .nil
  | cons h1 h2 ih => exact .cons (h1.take (hb _ (by simp))) (ih fun r hr => hb r (by simp [hr]))
theorem RpP.lo {κ : Type} {vs : List (κ × V)} {rs : List (κ × R)} (h : RpP K H ρ vs rs) : ∀ r ∈ rs, r.2.lo ρ.r.length := by
  induction h with
  | nil => intro r hr; cases hr
  | cons h1 h2 ih =>
    intro r hr
    rcases List.mem_cons.mp hr with rfl | hr
    · exact h1.2.lo
    · exact ih r hr
theorem RpP.takeW {κ : Type} {vs : List (κ × V)} {rs : List (κ × R)} {k : Nat} (h : RpP K H ρ vs rs) (hb : ∀ r ∈ rs, r.2.lo k) : RpP K H ⟨ρ.r.take k, ρ.z⟩ vs rs := by
  induction h with
  | nil => exact .nil
  | cons h1 h2 ih => exact .cons ⟨h1.1, h1.2.take (hb _ (by simp))⟩ (ih fun r hr => hb r (by simp [hr]))
theorem HoR.lo {a : Addr} : ∀ {c : MO}, HoR K H ρ a c → c.lo ρ.r.length
  | .lst _, ⟨_, _, r⟩ => RqA.lo r
  | .dK _, ⟨_, _, r⟩ => RpP.lo r
  | .dT _, ⟨_, _, r⟩ => RpP.lo r
  | .ins _ _, ⟨_, _, _, _, _, r⟩ => RpP.lo r
  | .lkK _, ⟨_, _, _, _, r⟩ => RpP.lo r
  | .lkT _, ⟨_, _, _, _, r⟩ => RpP.lo r
  | .fz _, _ => trivial
theorem HoR.takeW {a : Addr} {k : Nat} : ∀ {c : MO}, HoR K H ρ a c → c.lo k → HoR K H ⟨ρ.r.take k, ρ.z⟩ a c
  | .lst _, ⟨xs, h, r⟩, hb => ⟨xs, h, RqA.takeW r hb⟩
  | .dK _, ⟨xs, h, r⟩, hb => ⟨xs, h, RpP.takeW r hb⟩
  | .dT _, ⟨xs, h, r⟩, hb => ⟨xs, h, RpP.takeW r hb⟩
  | .ins _ _, ⟨c, dx, xs, hc, h, r⟩, hb => ⟨c, dx, xs, hc, h, RpP.takeW r hb⟩
  | .lkK _, ⟨hz, od, xs, h, r⟩, hb => ⟨hz, od, xs, h, RpP.takeW r hb⟩
  | .lkT _, ⟨hz, od, xs, h, r⟩, hb => ⟨hz, od, xs, h, RpP.takeW r hb⟩
  | .fz _, h, _ => Rp.zz _ _ h
theorem SR.cutW (s0 : SR K H0 ρ0 S) (mo : Mo K H0 ρ0 H' ρ') (s1 : SR K H' ρ' T) (ok : OkCut S T) : SR K H' ⟨ρ'.r.take S.length, ρ'.z⟩ (T.take S.length) ∧ Mo K H0 ρ0 H' ⟨ρ'.r.take S.length, ρ'.z⟩ := by
  have inj : ∀ {β : Type} (l : List β) (n k : Nat) (x : β), (l.take k)[n]? = some x → n < k ∧ l[n]? = some x := fun l n k x e => by
    have hn : n < k := by
      rcases Nat.lt_or_ge n k with z | z
      · exact z
      · rw [List.getElem?_eq_none (by rw [List.length_take]; omega)] at e; cases e
    rw [List.getElem?_take_of_lt hn] at e
    exact ⟨hn, e⟩
  refine ⟨⟨s1.nd.sublist (List.take_sublist _ _), by simp [List.length_take, s1.len], fun n a o e q => ?_, fun n a o e q hl => ?_, s1.z, fun n a e => ?_⟩, ⟨mo.tup, mo.kl, fun n a e => ?_, mo.z⟩⟩
  · obtain ⟨hn, e'⟩ := inj _ _ _ _ e
    obtain ⟨_, q'⟩ := inj _ _ _ _ q
    refine (s1.obj n a o e' q').takeW ?_
    rcases ok.2.2 n o q with h | h
    · have hn0 : n < ρ0.r.length := by rw [s0.len]; exact hn
      have e0 : ρ0.r[n]? = some ρ0.r[n] := List.getElem?_eq_getElem hn0
      have := (s0.obj n _ o e0 h).lo
      rw [s0.len] at this
      exact this
    · exact h
  · exact s1.lv n a o (inj _ _ _ _ e).2 (inj _ _ _ _ q).2 hl
  · exact s1.r n a (inj _ _ _ _ e).2
  · have hn : n < S.length := by rw [← s0.len]; exact (List.getElem?_eq_some_iff.mp e).1
    show (ρ'.r.take S.length)[n]? = _
    rw [List.getElem?_take_of_lt hn]
    exact mo.ref n a e
theorem SR.cut (s0 : SR K H0 ρ0 S) (mo : Mo K H0 ρ0 H' ρ') (s1 : SR K H' ρ' T) : ∃ r', SR K H' ⟨r', ρ'.z⟩ (M.cut S T) ∧ Mo K H0 ρ0 H' ⟨r', ρ'.z⟩ := by
  unfold M.cut
  split
  · rename_i ok
    exact ⟨_, s0.cutW mo s1 ok⟩
  · exact ⟨ρ'.r, s1, mo⟩
end
/-- by value, all that was made on the way forgotten -/
noncomputable def popV (S : Store) (r : R) (S' : Store) : Out R := match frz 8 S' r with
  | some p => .ok (.v p.1) (cut S p.2)
  | none => .no
noncomputable def mPop (f : ME) : ME := fun m S => (f m S).bind fun r S' => popV S r S'
theorem RO.pop {K : PySem.W.Frag} {E : XK} {H : Hp} {ρ : Wd} {S : Store} {o : Out R} {Q : VK} (sr : SR K H ρ S) (h : RO K (relD K) E H ρ (o.bind (popV S)) Q) : RO K (relD K) E H ρ o Q := by
  cases o with
  | no => exact h
  | exc c S1 => exact h
  | ok r S1 =>
    intro v H' ρ' mo s r
    have h : RO K (relD K) E H ρ (popV S _ S1) Q := h
    unfold popV at h
    split at h
    · rename_i p e
      obtain ⟨z', s1, m1, r1⟩ := frz_ok 8 S1 _ p.1 p.2 ρ' v e s r
      obtain ⟨r', s2, m2⟩ := sr.cut (mo.trans m1) s1
      exact h v H' _ m2 s2 (.v (Rp.zz _ _ r1))
    · exact h.elim
theorem pm_pop {X : Cx} {E : St → XK} {e : Expr} {f : ME} (h : PE X e (tE X.K E f)) : PE X e (tE X.K E (mPop f)) := by
  refine PE.imp h ?_
  rintro σ H Q ⟨ρ, m, S, sr, er, h⟩
  exact ⟨ρ, m, S, sr, er, RO.pop sr h⟩
def keepE (k : Nat) : Option R → Option R
  | some (.ref n) => if n < k then some (.ref n) else none
  | o => o
open Classical in
noncomputable def trim (S : Store) (m2 : Env) (S2 : Store) (f : Env → Store → OutS) : OutS := if S.length < S2.length ∧ OkCut S S2 then f (m2.map (keepE S.length)) (S2.take S.length) else f m2 S2
noncomputable def mTrim (f : MS) : MS := fun m S => match f m S with
  | .nx m2 S2 => trim S m2 S2 .nx
  | .ct m2 S2 => trim S m2 S2 .ct
  | o => o
theorem EnvR.keep {K : PySem.W.Frag} {H : Hp} {ρ : Wd} {σ : St} {m : Env} {k : Nat} (h : EnvR K H ρ σ m) : EnvR K H ⟨ρ.r.take k, ρ.z⟩ σ (m.map (keepE k)) := by
  refine ⟨by rw [List.length_map]; exact h.len, fun i d e => ?_⟩
  rw [List.getElem?_map] at e
  obtain ⟨o, e1, e2⟩ := Option.map_eq_some_iff.mp e
  cases o with
  | none => cases e2
  | some r =>
    obtain ⟨v, a, b⟩ := h.get i r e1
    cases r with
    | v d' =>
      cases e2
      exact ⟨v, a, b.take trivial⟩
    | ref n =>
      simp only [keepE] at e2
      split at e2
      · cases e2
        exact ⟨v, a, b.take (by assumption)⟩
      · cases e2
theorem psm_trim {X : Cx} {E : St → XK} {sts : List Stmt} {f : MS} (h : PSs X sts (tS X.K E f)) : PSs X sts (tS X.K E (mTrim f)) := by
  refine PSs.imp h ?_
  rintro D σ H ⟨ρ, m, S, sr, er, h⟩
  refine ⟨ρ, m, S, sr, er, ?_⟩
  have h : RS X.K E H ρ (match f m S with | .nx m2 S2 => trim S m2 S2 .nx | .ct m2 S2 => trim S m2 S2 .ct | o => o) D := h
  generalize f m S = o at h ⊢
  cases o with
  | bk m' S' => exact h
  | rt d S' => exact h
  | exc c m' S' => exact h
  | no => exact h
  | nx m' S' =>
    simp only [trim] at h
    split at h
    · rename_i hc
      intro σ' H' ρ' mo s e
      obtain ⟨s1, m1⟩ := sr.cutW mo s hc.2
      exact h σ' H' _ m1 s1 e.keep
    · exact h
  | ct m' S' =>
    simp only [trim] at h
    split at h
    · rename_i hc
      intro σ' H' ρ' mo s e
      obtain ⟨s1, m1⟩ := sr.cutW mo s hc.2
      exact h σ' H' _ m1 s1 e.keep
    · exact h
end M
namespace M
open PySem PySem.Spec L2
open PyProof.Rows hiding St
section
variable {X : Cx} {E : St → XK} {a b c e tgE iter : Expr} {es rest : List Expr} {pos : Pos} {ma mb mc : ME} {mt mu : MT} {mr : MA} {st : Stmt} {sts : List Stmt} {ms mz : MS}
def mSkip : MS := fun m S => .nx m S
def mSeq (f g : MS) : MS := fun m S => match f m S with
  | .nx m' S' => g m' S'
  | o => o
theorem psm_nil : PSs X [] (tS X.K E mSkip) := by
  refine PSs.imp pss_nil ?_
  rintro D σ H ⟨ρ, m, S, sr, er, h⟩
  exact h σ H ρ .refl sr er
theorem psm_cons (h1 : PS X st (tS X.K E ms)) (h2 : PSs X sts (tS X.K E mz)) : PSs X (st :: sts) (tS X.K E (mSeq ms mz)) := by
  refine PSs.imp (pss_cons h1 h2) ?_
  rintro D σ H ⟨ρ, m, S, sr, er, h⟩
  refine ⟨ρ, m, S, sr, er, ?_⟩
  have h : RS X.K E H ρ (match ms m S with | .nx m' S' => mz m' S' | o => o) D := h
  generalize ms m S = o at h ⊢
  cases o with
  | nx m' S' => exact fun σ' H' ρ' mo s r => ⟨ρ', m', S', s, r, RS.mono h mo⟩
  | bk m' S' => exact h
  | ct m' S' => exact h
  | rt d S' => exact h
  | exc c m' S' => exact h
  | no => exact h
theorem psm_one (h1 : PS X st (tS X.K E ms)) : PSs X [st] (tS X.K E ms) := pss_one h1
def mBrk : MS := fun m S => .bk m S
def mCnt : MS := fun m S => .ct m S
def mDrop (f : ME) : MS := fun m S => (f m S).thenS m fun _ S1 => .nx m S1
theorem psm_expr (he : PE X e (tE X.K E ma)) (hs : swapsWith e none pos.line X.env = pure false := by rfl) : PS X (.Expr e pos) (tS X.K E (mDrop ma)) := by
  refine PS.imp (ps_expr he hs) ?_
  rintro D σ H ⟨ρ, m, S, sr, er, h⟩
  exact ⟨ρ, m, S, sr, er, RS.bind er h fun d S1 v H1 ρ1 m1 s1 r1 e1 h1 => h1 σ H1 ρ1 .refl s1 e1⟩
def mRet (f : ME) : MS := fun m S => (f m S).thenS m fun d S1 => .rt d S1
theorem psm_ret (he : PE X e (tE X.K E ma)) : PS X (.Return (some e) pos) (tS X.K E (mRet ma)) := by
  refine PS.imp (ps_ret he) ?_
  rintro D σ H ⟨ρ, m, S, sr, er, h⟩
  exact ⟨ρ, m, S, sr, er, RS.bind er h fun d S1 v H1 ρ1 m1 s1 r1 e1 h1 => h1 v H1 ρ1 .refl s1 r1⟩
def mRetN : MS := fun m S => .rt .non S
def mIfS (t : MT) (f g : MS) : MS := fun m S => (t m S).thenS m fun k S1 => match k with
  | true => f m S1
  | false => g m S1
theorem psm_if {sa sb : List Stmt} (hc : PT X c (tT X.K E mt)) (ha : PSs X sa (tS X.K E ms)) (hb : PSs X sb (tS X.K E mz)) : PS X (.If c sa sb pos) (tS X.K E (mIfS mt ms mz)) := by
  refine PS.imp (ps_if hc ha hb) ?_
  rintro D σ H ⟨ρ, m, S, sr, er, h⟩
  refine ⟨ρ, m, S, sr, er, RS.bind er h fun d S1 v H1 ρ1 m1 s1 r1 e1 h1 => ?_⟩
  subst r1
  cases v with
  | true => exact iteT ⟨ρ1, m, S1, s1, e1, h1⟩
  | false => exact iteF ⟨ρ1, m, S1, s1, e1, h1⟩
def mSet (i : Nat) (f : ME) : MS := fun m S => (f m S).thenS m fun d S1 => .nx (m.set i (some d)) S1
theorem psm_set (i : Nat) {x : Str} {pos' : Pos} (hN : X.N.Nodup) (hi : X.N[i]? = some x) (hx : Loc X.env.scope x) (he : PE X e (tE X.K E ma)) (hs : swapsWith e (some (.Name x pos')) pos.line X.env = pure false := by rfl) (hf : X.fn x = true ∨ X.env.scope.names.lookup x = some .local := by first | exact .inl rfl | exact .inr rfl | assumption) :
    PS X (.Assign [.Name x pos'] e pos) (tS X.K E (mSet i ma)) := by
  refine PS.imp (ps_set hN hi hx he hs hf) ?_
  rintro D σ H ⟨ρ, m, S, sr, er, h⟩
  exact ⟨ρ, m, S, sr, er, RS.bind er h fun d S1 v H1 ρ1 m1 s1 r1 e1 h1 => h1 _ H1 ρ1 .refl s1 (e1.set r1 i)⟩
def mPar (i j : Nat) (f g : ME) : MS := fun m S => (f m S).thenS m fun x S1 => (g m S1).thenS m fun y S2 => .nx ((m.set i (some x)).set j (some y)) S2
theorem psm_par (i j : Nat) {x y : Str} {px py pt : Pos} {kt k2 pt2} (hc : X.calm = true) (hN : X.N.Nodup) (hi : X.N[i]? = some x) (hj : X.N[j]? = some y) (hij : i ≠ j)
    (hx : X.env.scope.names.lookup x = some .local) (hy : X.env.scope.names.lookup y = some .local) (ha : PE X a (tE X.K E ma)) (hb : PE X b (tE X.K E mb))
    (hw : swappedStores [.Tuple [.Name x px, .Name y py] kt pt] (.Tuple [a, b] k2 pt2) X.env = pure (some [x, y]))
    (hs : swapsWithSole [.Tuple [.Name x px, .Name y py] kt pt] (.Tuple [a, b] k2 pt2) pos.line X.env = pure false := by rfl)
    (h1 : starEach [a, b] X.env = (false, eval a X.env) :: starEach [b] X.env := by rfl) (h2 : starEach [b] X.env = (false, eval b X.env) :: starEach [] X.env := by rfl) :
    PS X (.Assign [.Tuple [.Name x px, .Name y py] kt pt] (.Tuple [a, b] k2 pt2) pos) (tS X.K E (mPar i j ma mb)) := by
  refine PS.imp (ps_par hc hN hi hj hij hx hy (pa_cons ha (pa_cons hb pa_nil h2) h1) hw hs) ?_
  rintro D σ H ⟨ρ, m, S, sr, er, h⟩
  refine ⟨ρ, m, S, sr, er, RS.bind er h fun d S1 v H1 ρ1 m1 s1 r1 e1 h1 => ?_⟩
  refine ⟨ρ1, m, S1, s1, e1, RS.bind e1 h1 fun d2 S2 w H2 ρ2 m2 s2 r2 e2 h2 => ?_⟩
  exact ⟨v, w, rfl, h2 _ H2 ρ2 .refl s2 ((e2.set (r1.mo m2) i).set r2 j)⟩
/-- name op= e -/
def mAug (i : Nat) (g : R → R → Store → Out R) (f : ME) : MS := fun m S => (mVar i m S).thenS m fun x S0 => (f m S0).thenS m fun y S1 => (g x y S1).thenS m fun z S2 => .nx (m.set i (some z)) S2
abbrev TgM := R → Env → Option Env
def tgN (i : Nat) : TgM := fun d m => some (m.set i (some d))
def bindAll : List TgM → List R → Env → Option Env
  | [], [], m => some m
  | t :: ts, d :: ds, m => (t d m).bind fun m' => bindAll ts ds m'
  | _, _, _ => none
def tgT (ts : List TgM) : TgM := fun d m => match d with
  | .v (.tup ds) => bindAll ts (ds.map .v) m
  | _ => none
def gM (K : PySem.W.Frag) (vs : List Nat) (g : TgM) : TG := fun v σ H Q => ∃ (ρ : Wd) (m : Env) (d : R) (m' : Env), EnvR K H ρ σ m ∧ Rq K H ρ v d ∧ g d m = some m' ∧
  ∀ σ', EnvR K H ρ σ' m' → (∀ j, j ∉ vs → σ'[j]? = σ[j]?) → σ'.length = σ.length → Q σ' H
def gMs (K : PySem.W.Frag) (vs : List Nat) (ts : List TgM) : TGs := fun xs σ H Q => ∃ (ρ : Wd) (m : Env) (ds : List R) (m' : Env), EnvR K H ρ σ m ∧ RqA K H ρ xs ds ∧ bindAll ts ds m = some m' ∧
  ∀ σ', EnvR K H ρ σ' m' → (∀ j, j ∉ vs → σ'[j]? = σ[j]?) → σ'.length = σ.length → Q σ' H
theorem PG.imp {e : Expr} {t t' : TG} (h : PG X e t) (k : ∀ v σ H Q, t' v σ H Q → t v σ H Q) : PG X e t' := ⟨fun pins s σ H v u Q I r q => h.run pins s σ H v u Q I r (k _ _ _ _ q)⟩
theorem PGs.imp {e : List Expr} {t t' : TGs} (h : PGs X e t) (k : ∀ v σ H Q, t' v σ H Q → t v σ H Q) : PGs X e t' := ⟨fun pins s σ H v u Q I r q => h.run pins s σ H v u Q I r (k _ _ _ _ q)⟩
theorem pgm_name (i : Nat) {x : Str} (hN : X.N.Nodup) (hi : X.N[i]? = some x) (hx : Loc X.env.scope x) (hf : X.fn x = true ∨ X.env.scope.names.lookup x = some .local := by first | exact .inl rfl | exact .inr rfl | assumption) : PG X (.Name x pos) (gM X.K [i] (tgN i)) := by
  refine PG.imp (pg_name hN hi hx hf) ?_
  rintro v σ H Q ⟨ρ, m, d, m', er, r, e, h⟩
  cases e
  refine h _ (er.set r i) (fun j hj => ?_) (List.length_set ..)
  rw [List.getElem?_set_ne (by intro q; subst q; simp at hj)]
theorem pgms_nil : PGs X [] (gMs X.K [] []) := by
  refine PGs.imp pgs_nil ?_
  rintro xs σ H Q ⟨ρ, m, ds, m', er, r, e, h⟩
  cases r with
  | nil =>
    cases e
    exact ⟨rfl, h σ er (fun _ _ => rfl) rfl⟩
  | cons r1 r2 => cases e
theorem pgms_cons {t : TgM} {ts : List TgM} {vs ws : List Nat} (h1 : PG X e (gM X.K vs t)) (h2 : PGs X es (gMs X.K ws ts)) (hs : (assignEach (e :: es) X.env).map (·.2) = assign e X.env :: (assignEach es X.env).map (·.2) := by rfl) : PGs X (e :: es) (gMs X.K (vs ++ ws) (t :: ts)) := by
  refine PGs.imp (pgs_cons h1 h2 hs) ?_
  rintro xs σ H Q ⟨ρ, m, ds, m', er, r, e, h⟩
  cases r with
  | nil => cases e
  | @cons v d xs ds r1 r2 =>
    have e : (t d m).bind (fun m' => bindAll ts ds m') = some m' := e
    cases et : t d m with
    | none => rw [et] at e; cases e
    | some m1 =>
      rw [et] at e
      refine ⟨v, xs, rfl, ρ, m, d, m1, er, r1, et, fun σ1 er1 k1 l1 => ⟨ρ, m1, ds, m', er1, r2, e, fun σ2 er2 k2 l2 => ?_⟩⟩
      refine h σ2 er2 (fun j hj => ?_) (l2.trans l1)
      rw [List.mem_append, not_or] at hj
      rw [k2 j hj.2, k1 j hj.1]
theorem pgm_tup {k : Nat} {ts : List TgM} {vs : List Nat} {n : Nat} (hc : X.calm = true) (h : PGs X es (gMs X.K vs ts)) (hn : (assignEach es X.env).length = n := by rfl) (hl : ts.length = n := by rfl) (hst : (assignEach es X.env).findIdx? (·.1) = none := by rfl) : PG X (.Tuple es k pos) (gM X.K vs (tgT ts)) := by
  refine PG.imp (pg_tup hc h hn hst) ?_
  rintro v σ H Q ⟨ρ, m, d, m', er, r, e, h⟩
  cases r with
  | ref _ => cases e
  | v r =>
  cases r with
  | @tup a xs ds hs ra =>
    have ra := ra.q
    have e : bindAll ts (ds.map .v) m = some m' := e
    refine ⟨a, xs, rfl, sqT_at hs, ?_, ρ, m, ds.map .v, m', er, ra, e, h⟩
    rw [ra.length, ← hl]
    have q : ∀ (ts : List TgM) (ds : List R) (m : Env), bindAll ts ds m = some m' → ds.length = ts.length := by
      intro ts
      induction ts with
      | nil => intro ds m e; cases ds with
        | nil => rfl
        | cons _ _ => cases e
      | cons t ts ih => intro ds m e; cases ds with
        | nil => cases e
        | cons d ds =>
          have e : (t d m).bind (fun m' => bindAll ts ds m') = some m' := e
          cases et : t d m with
          | none => rw [et] at e; cases e
          | some m1 => rw [et] at e; exact congrArg (· + 1) (ih ds m1 e)
    exact q ts _ m e
  | _ => cases e
def mAsg (t : TgM) (f : ME) : MS := fun m S => (f m S).thenS m fun d S1 => match t d m with
  | some m' => .nx m' S1
  | none => .no
/-- the items, and the objects that must stand meanwhile -/
structure Src where
  items : List R
  pins : List (Nat × MO)
def pinsOk : List (Nat × MO) → Store → Prop
  | [], _ => True
  | p :: r, S => S[p.1]? = some p.2 ∧ pinsOk r S
abbrev MI := Env → Store → Out Src
def okSrc (K : PySem.W.Frag) (it : Src) (H' : Hp) (ρ' : Wd) (J : It) : Prop := ∃ (G : Hp → Prop) (Y : Nat → Hp → V → Hp → Prop), Walk J it.items.length G Y ∧
  (∀ H2 ρ2 S2, Mo K H' ρ' H2 ρ2 → SR K H2 ρ2 S2 → pinsOk it.pins S2 → G H2) ∧
  ∀ i H2 x H3 ρ2 S2, i < it.items.length → Mo K H' ρ' H2 ρ2 → SR K H2 ρ2 S2 → pinsOk it.pins S2 → Y i H2 x H3 → ∃ d, it.items[i]? = some d ∧ Mo K H2 ρ2 H3 ρ2 ∧ SR K H3 ρ2 S2 ∧ Rq K H3 ρ2 x d
def tI (K : PySem.W.Frag) (E : St → XK) (f : MI) : TI := fun σ H R => ∃ (ρ : Wd) (m : Env) (S : Store), SR K H ρ S ∧ EnvR K H ρ σ m ∧ (match f m S with
  | .ok it S' => ∀ J H' ρ', Mo K H ρ H' ρ' → SR K H' ρ' S' → okSrc K it H' ρ' J → R J H'
  | .exc c S' => RO K (fun _ _ (_ : Unit) (_ : Unit) => True) (E σ) H ρ (.exc c S' : Out Unit) fun _ _ => True
  | .no => False)
theorem PI.imp {wi wi' : TI} (h : PI X tgE iter wi) (k : ∀ σ H R, wi' σ H R → wi σ H R) : PI X tgE iter wi' := ⟨fun pins s σ H R I q => h.run pins s σ H R I (k _ _ _ q)⟩
theorem PI.or {w1 w2 : TI} (h1 : PI X tgE iter w1) (h2 : PI X tgE iter w2) : PI X tgE iter fun σ H R => w1 σ H R ∨ w2 σ H R := ⟨fun pins s σ H R I q => q.elim (h1.run pins s σ H R I) (h2.run pins s σ H R I)⟩
open Classical in
noncomputable def mForGo (pins : List (Nat × MO)) (t : TgM) (body : MS) : List R → Env → Store → OutS
  | [], m, S => if pinsOk pins S then .nx m S else .no
  | d :: ds, m, S => if pinsOk pins S then (match t d m with
    | none => .no
    | some m' => match body m' S with
      | .nx m2 S2 => mForGo pins t body ds m2 S2
      | .ct m2 S2 => mForGo pins t body ds m2 S2
      | .bk m2 S2 => .nx m2 S2
      | .rt d S2 => .rt d S2
      | .exc c m2 S2 => .exc c m2 S2
      | .no => .no) else .no
noncomputable def mFor (f : MI) (t : TgM) (body : MS) : MS := fun m S => (f m S).thenS m fun it S1 => mForGo it.pins t body it.items m S1
theorem pins_of {K : PySem.W.Frag} {H : Hp} {ρ : Wd} {pins : List (Nat × MO)} {t : TgM} {body : MS} {ds : List R} {m : Env} {S : Store} {D : Ends} (h : RS K E H ρ (mForGo pins t body ds m S) D) : pinsOk pins S := by
  cases ds with
  | nil =>
    unfold mForGo at h
    split at h
    · assumption
    · exact h.elim
  | cons d ds =>
    unfold mForGo at h
    split at h
    · assumption
    · exact h.elim
theorem psm_for {body : List Stmt} {f : MI} {t : TgM} {vs : List Nat} (hp : PassesOwn (model X.prog X.w) X.A X.env X.xe) (hc : X.calm = true) (hi : PI X tgE iter (tI X.K E f)) (hg : PG X tgE (gM X.K vs t)) (hb : PSs X body (tS X.K E ms)) (hs : ∀ x, foldedSetIterable iter X.env x = pure x := by intro _; rfl) :
    PS X (.For tgE iter body [] pos) (tS X.K E (mFor f t ms)) := by
  refine PS.imp (ps_for hp hc hi hg hb hs) ?_
  rintro D σ H ⟨ρ, m, S, sr, er, h⟩
  refine ⟨ρ, m, S, sr, er, ?_⟩
  have h : RS X.K E H ρ ((f m S).thenS m fun it S1 => mForGo it.pins t ms it.items m S1) D := h
  generalize f m S = o at h ⊢
  cases o with
  | no => exact h
  | exc c S1 => exact fun dx H' ρ' mo s r => h σ dx H' ρ' mo s (er.mo mo) r
  | ok it S1 =>
    rintro J H1 ρ1 m1 s1 ⟨G, Y, wk, hG, hY⟩
    refine for_it wk (fun i σ2 H2 => ∃ ρ2 m2 S2, Mo X.K H1 ρ1 H2 ρ2 ∧ SR X.K H2 ρ2 S2 ∧ EnvR X.K H2 ρ2 σ2 m2 ∧ RS X.K E H2 ρ2 (mForGo it.pins t ms (it.items.drop i) m2 S2) D) ?_ ?_ ?_ ?_
    · exact ⟨ρ1, m, S1, .refl, s1, er.mo m1, RS.mono h m1⟩
    · rintro i σ2 H2 hi ⟨ρ2, m2, S2, mo2, s2, e2, h2⟩
      exact hG H2 ρ2 S2 mo2 s2 (pins_of h2)
    · rintro i x σ2 H2 H3 hi ⟨ρ2, m2, S2, mo2, s2, e2, h2⟩ hy
      obtain ⟨d, ed, mo3, s3, r3⟩ := hY i H2 x H3 ρ2 S2 hi mo2 s2 (pins_of h2) hy
      have hd : it.items.drop i = d :: it.items.drop (i + 1) := by
        rw [List.getElem?_eq_getElem hi] at ed
        rw [List.drop_eq_getElem_cons hi, Option.some.inj ed]
      rw [hd] at h2
      unfold mForGo at h2
      split at h2
      · split at h2
        · exact h2.elim
        · rename_i m' et
          refine ⟨ρ2, m2, d, m', e2.mo mo3, r3, et, fun σ' er' _ _ => ⟨ρ2, m', S2, s3, er', ?_⟩⟩
          generalize ms m' S2 = o at h2 ⊢
          cases o with
          | nx m4 S4 => exact fun σ5 H5 ρ5 mo5 s5 e5 => ⟨ρ5, m4, S4, (mo2.trans mo3).trans mo5, s5, e5, RS.mono h2 (mo3.trans mo5)⟩
          | ct m4 S4 => exact fun σ5 H5 ρ5 mo5 s5 e5 => ⟨ρ5, m4, S4, (mo2.trans mo3).trans mo5, s5, e5, RS.mono h2 (mo3.trans mo5)⟩
          | bk m4 S4 => exact fun σ5 H5 ρ5 mo5 s5 e5 => h2 σ5 H5 ρ5 (mo3.trans mo5) s5 e5
          | rt d4 S4 => exact fun v5 H5 ρ5 mo5 s5 e5 => h2 v5 H5 ρ5 (mo3.trans mo5) s5 e5
          | exc c m4 S4 => exact fun σ5 dx H5 ρ5 mo5 s5 e5 => h2 σ5 dx H5 ρ5 (mo3.trans mo5) s5 e5
          | no => exact h2
      · exact h2.elim
    · rintro σ2 H2 ⟨ρ2, m2, S2, mo2, s2, e2, h2⟩
      rw [List.drop_length] at h2
      unfold mForGo at h2
      split at h2
      · exact h2 σ2 H2 ρ2 .refl s2 e2
      · exact h2.elim
def mWhileGo (t : MT) (body : MS) : Nat → Env → Store → OutS
  | 0, _, _ => .no
  | k + 1, m, S => (t m S).thenS m fun b S1 => match b with
    | false => .nx m S1
    | true => match body m S1 with
      | .nx m2 S2 => mWhileGo t body k m2 S2
      | .ct m2 S2 => mWhileGo t body k m2 S2
      | .bk m2 S2 => .nx m2 S2
      | .rt d S2 => .rt d S2
      | .exc c m2 S2 => .exc c m2 S2
      | .no => .no
/-- the most turns -/
def turns : Nat := 1000000
def mWhile (t : MT) (body : MS) : MS := fun m S => mWhileGo t body turns m S
theorem psm_while {body : List Stmt} (hp : PassesOwn (model X.prog X.w) X.A X.env X.xe) (hc : PT X c (tT X.K E mt)) (hb : PSs X body (tS X.K E ms)) : PS X (.While c body [] pos) (tS X.K E (mWhile mt ms)) := by
  refine PS.imp (ps_while hp hc hb) ?_
  rintro D σ H ⟨ρ, m, S, sr, er, h⟩
  refine ⟨fun k σ2 H2 => ∃ ρ2 m2 S2, SR X.K H2 ρ2 S2 ∧ EnvR X.K H2 ρ2 σ2 m2 ∧ RS X.K E H2 ρ2 (mWhileGo mt ms k m2 S2) D, ⟨turns, ρ, m, S, sr, er, h⟩, ?_⟩
  rintro k σ2 H2 ⟨ρ2, m2, S2, s2, e2, h2⟩
  cases k with
  | zero => exact h2.elim
  | succ k =>
    refine ⟨ρ2, m2, S2, s2, e2, RS.bind e2 h2 fun b S3 v H3 ρ3 mo3 s3 r3 e3 h3 => ?_⟩
    subst r3
    cases v with
    | false => exact iteF (h3 σ2 H3 ρ3 .refl s3 e3)
    | true =>
      refine iteT ⟨fun σ4 H4 => ∃ ρ4 m4 S4, SR X.K H4 ρ4 S4 ∧ EnvR X.K H4 ρ4 σ4 m4 ∧ RS X.K E H4 ρ4 (mWhileGo mt ms k m4 S4) D, fun σ' H' q => ⟨k, Nat.lt_succ_self k, q⟩, ρ3, m2, S3, s3, e3, ?_⟩
      have h3 : RS X.K E H3 ρ3 (match ms m2 S3 with
        | .nx m2 S2 => mWhileGo mt ms k m2 S2
        | .ct m2 S2 => mWhileGo mt ms k m2 S2
        | .bk m2 S2 => .nx m2 S2
        | .rt d S2 => .rt d S2
        | .exc c m2 S2 => .exc c m2 S2
        | .no => .no) D := h3
      generalize ms m2 S3 = o at h3 ⊢
      cases o with
      | nx m4 S4 => exact fun σ5 H5 ρ5 mo5 s5 e5 => ⟨ρ5, m4, S4, s5, e5, RS.mono h3 mo5⟩
      | ct m4 S4 => exact fun σ5 H5 ρ5 mo5 s5 e5 => ⟨ρ5, m4, S4, s5, e5, RS.mono h3 mo5⟩
      | bk m4 S4 => exact h3
      | rt d4 S4 => exact h3
      | exc c m4 S4 => exact h3
      | no => exact h3
def wipeM (m : Env) : List Nat → Env
  | [] => m
  | v :: vs => (wipeM m vs).set v none
theorem EnvR.wipe {K : PySem.W.Frag} {H : Hp} {ρ : Wd} {σ : St} {m : Env} (h : EnvR K H ρ σ m) : ∀ vs : List Nat, EnvR K H ρ (wipe σ vs) (wipeM m vs)
  | [] => h
  | v :: vs => by
    have ih := EnvR.wipe h vs
    refine ⟨by unfold L2.wipe wipeM; rw [List.length_set, List.length_set]; exact ih.len, fun i d q => ?_⟩
    unfold wipeM at q
    unfold L2.wipe
    by_cases hv : v = i
    · subst hv
      by_cases hl : v < (wipeM m vs).length
      · rw [List.getElem?_set_self hl] at q; cases q
      · rw [List.getElem?_eq_none (by rw [List.length_set]; omega)] at q; cases q
    · rw [List.getElem?_set_ne hv] at q ⊢
      exact ih.get i d q
theorem wipe_get (σ : St) : ∀ (vs : List Nat) (j : Nat), (wipe σ vs)[j]? = if j ∈ vs ∧ j < σ.length then some none else σ[j]?
  | [], j => by
    unfold L2.wipe
    simp
  | v :: vs, j => by
    unfold L2.wipe
    by_cases hv : v = j
    · subst hv
      by_cases hl : v < σ.length
      · rw [List.getElem?_set_self (by rw [wipe_length]; exact hl), if_pos ⟨by simp, hl⟩]
      · rw [List.getElem?_eq_none (by rw [List.length_set, wipe_length]; omega), if_neg (fun z => hl z.2), List.getElem?_eq_none (by omega)]
    · rw [List.getElem?_set_ne hv, wipe_get σ vs j]
      have : (j ∈ v :: vs ∧ j < σ.length) ↔ (j ∈ vs ∧ j < σ.length) := by
        simp only [List.mem_cons]
        constructor
        · rintro ⟨h1, h2⟩
          rcases h1 with h1 | h1
          · exact absurd h1.symm hv
          · exact ⟨h1, h2⟩
        · rintro ⟨h1, h2⟩; exact ⟨.inr h1, h2⟩
      simp only [this]
theorem wipe_eq {σ σ' : St} {vs : List Nat} (hl : σ'.length = σ.length) (h : ∀ j, j ∉ vs → σ'[j]? = (wipe σ vs)[j]?) : wipe σ' vs = wipe σ vs := by
  refine List.ext_getElem? fun j => ?_
  rw [wipe_get, wipe_get, hl]
  by_cases hj : j ∈ vs
  · by_cases hb : j < σ.length
    · rw [if_pos ⟨hj, hb⟩, if_pos ⟨hj, hb⟩]
    · rw [if_neg (fun z => hb z.2), if_neg (fun z => hb z.2), List.getElem?_eq_none (by omega), List.getElem?_eq_none (by omega)]
  · rw [if_neg (fun z => hj z.1), if_neg (fun z => hj z.1), h j hj, wipe_get, if_neg (fun z => hj z.1)]
/-- nothing is raised -/
def Out.calm {α : Type} : Out α → Out α
  | .ok a S => .ok a S
  | _ => .no
@[simp] theorem Out.calm_ok {α : Type} (a : α) (S : Store) : (Out.ok a S).calm = .ok a S := id rfl
theorem RO.calm {α β γ δ : Type} {K : PySem.W.Frag} {H : Hp} {ρ : Wd} {relA : Hp → Wd → β → α → Prop} {rel : Hp → Wd → δ → γ → Prop} {E1 E2 : XK} {o : Out α} {f : α → Store → Out γ} {Q : δ → Hp → Prop} {P : β → Hp → Prop} (h : RO K rel E1 H ρ (o.calm.bind f) Q)
    (k : ∀ d S v H1 ρ1, Mo K H ρ H1 ρ1 → SR K H1 ρ1 S → relA H1 ρ1 v d → RO K rel E1 H1 ρ1 (f d S) Q → P v H1) : RO K relA E2 H ρ o P := by
  cases o with
  | ok d S => exact fun v H' ρ' m s r => k d S v H' ρ' m s r (RO.mono h m)
  | exc c S => exact h.elim
  | no => exact h
open Classical in
noncomputable def mLcGo (pins : List (Nat × MO)) (t : TgM) (c : MT) (f : ME) (n : Nat) (m : Env) : List R → Store → Out R
  | [], S => if pinsOk pins S then .ok (.ref n) S else .no
  | d :: ds, S => if pinsOk pins S then (match t d m with
    | none => .no
    | some m' => (c m' S).calm.bind fun k S1 => match k with
      | false => mLcGo pins t c f n m ds S1
      | true => (f m' S1).calm.bind fun y S2 => match S2[n]? with
        | some (.lst acc) => if acc.length < sizeLine then mLcGo pins t c f n m ds (S2.set n (.lst (acc ++ [y]))) else .no
        | _ => .no) else .no
noncomputable def mLc (src : MI) (vs : List Nat) (t : TgM) (c : MT) (f : ME) : ME := fun m S => (src m S).bind fun it S1 => mLcGo it.pins t c f S1.length (wipeM m vs) it.items (S1 ++ [.lst []])
theorem pinsL_of {K : PySem.W.Frag} {H : Hp} {ρ : Wd} {pins : List (Nat × MO)} {t : TgM} {c : MT} {f : ME} {n : Nat} {ds : List R} {m : Env} {S : Store} {E1 : XK} {Q : VK} (h : RO K (relD K) E1 H ρ (mLcGo pins t c f n m ds S) Q) : pinsOk pins S := by
  cases ds with
  | nil =>
    unfold mLcGo at h
    split at h
    · assumption
    · exact h.elim
  | cons d ds =>
    unfold mLcGo at h
    split at h
    · assumption
    · exact h.elim
def mtYes : MT := fun _ S => .ok true S
theorem ptsm_nil : PTs X [] (tT X.K E mtYes) := ⟨fun pins s σ H Q I ⟨ρ, m, S, sr, er, h⟩ => pts_nil.run pins s σ H Q I (h _ H ρ .refl sr rfl)⟩
theorem ptsm_one (h : PT X c (tT X.K E mt)) : PTs X [c] (tT X.K E mt) := pts_one h
def E0' : St → XK := fun _ _ _ _ => False
theorem tLc_of {K : PySem.W.Frag} {f : MI} {vs ws : List Nat} {t : TgM} {σ : St} {H : Hp} {Q : VK} (hv : ∀ j, j ∉ ws → j ∉ vs) (h : tE K E (mLc f ws t mt ma) σ H Q) : tLc (tI K E f) (gM K vs t) (tT K E0' mt) (tE K E0' ma) ws σ H Q := by
  obtain ⟨ρ, m, S, sr, er, h⟩ := h
  refine ⟨ρ, m, S, sr, er, ?_⟩
  have h : RO K (relD K) (E σ) H ρ ((f m S).bind fun it S1 => mLcGo it.pins t mt ma S1.length (wipeM m ws) it.items (S1 ++ [.lst []])) Q := h
  generalize f m S = o at h ⊢
  cases o with
  | no => exact h
  | exc c S1 => exact fun dx H' ρ' mo s r => h dx H' ρ' mo s r
  | ok it S1 =>
    rintro J H1 ρ1 m1 s1 ⟨G, Y, wk, hG, hY⟩ D hD
    have moD : Mo K H1 ρ1 (upd H1 D (.lst [])) ⟨ρ1.r ++ [D], ρ1.z⟩ := .newR s1 hD
    have sD : SR K (upd H1 D (.lst [])) ⟨ρ1.r ++ [D], ρ1.z⟩ (S1 ++ [.lst []]) := s1.new hD ⟨[], upd_same, .nil⟩
    have eD : (ρ1.r ++ [D])[S1.length]? = some D := by
      rw [List.getElem?_append_right (by rw [s1.len]; exact Nat.le_refl _), s1.len, Nat.sub_self]; rfl
    refine lc_it wk (fun i H2 => ∃ ρ2 S2, Mo K (upd H1 D (.lst [])) ⟨ρ1.r ++ [D], ρ1.z⟩ H2 ρ2 ∧ SR K H2 ρ2 S2 ∧ RO K (relD K) (E σ) H2 ρ2 (mLcGo it.pins t mt ma S1.length (wipeM m ws) (it.items.drop i) S2) Q) ?_ ?_ ?_ ?_
    · exact ⟨_, _, .refl, sD, RO.mono h (m1.trans moD)⟩
    · rintro i H2 hi ⟨ρ2, S2, mo2, s2, h2⟩
      exact hG H2 ρ2 S2 (moD.trans mo2) s2 (pinsL_of h2)
    · rintro i x H2 H3 hi ⟨ρ2, S2, mo2, s2, h2⟩ hy
      obtain ⟨d, ed, mo3, s3, r3⟩ := hY i H2 x H3 ρ2 S2 hi (moD.trans mo2) s2 (pinsL_of h2) hy
      have e3 : EnvR K H3 ρ2 (wipe σ ws) (wipeM m ws) := ((((er.mo m1).mo moD).mo mo2).mo mo3).wipe ws
      have hd : it.items.drop i = d :: it.items.drop (i + 1) := by
        rw [List.getElem?_eq_getElem hi] at ed
        rw [List.drop_eq_getElem_cons hi, Option.some.inj ed]
      rw [hd] at h2
      unfold mLcGo at h2
      split at h2
      · split at h2
        · exact h2.elim
        · rename_i m' et
          refine ⟨ρ2, wipeM m ws, d, m', e3, r3, et, fun σ' er' k' l' => ⟨?_, ρ2, m', S2, s3, er', ?_⟩⟩
          · refine wipe_eq ?_ fun j hj => ?_
            · rw [l', wipe_length]
            · exact k' j (hv j hj)
          · exact RO.calm (RO.mono h2 mo3) fun k S4 kb H4 ρ4 mo4 s4 r4 h4 => by
              subst r4
              cases kb with
              | false => exact iteF ⟨ρ4, S4, (mo2.trans mo3).trans mo4, s4, h4⟩
              | true =>
                refine iteT ⟨ρ4, m', S4, s4, er'.mo mo4, RO.calm h4 fun y S5 yv H5 ρ5 mo5 s5 r5 h5 => ?_⟩
                split at h5
                · rename_i acc hacc
                  split at h5
                  · rename_i hz
                    have eD5 : ρ5.r[S1.length]? = some D := mo5.ref _ _ (mo4.ref _ _ (mo2.ref _ _ eD))
                    obtain ⟨xs, hu, ru, hz5⟩ := s5.lst eD5 hacc
                    have mo6 : Mo K H5 ρ5 (upd H5 D (.lst (xs ++ [yv]))) ρ5 := .set hu trivial hz5
                    refine ⟨xs, hu, by rw [ru.length]; exact hz, ρ5, _, (((mo2.trans mo3).trans mo4).trans mo5).trans mo6, s5.set (mo := .lst (acc ++ [y])) eD5 hu trivial hz5 ⟨_, upd_same, ?_⟩, RO.mono h5 mo6⟩
                    exact (ru.append (.cons r5 .nil)).mo mo6
                  · exact h5.elim
                · exact h5.elim
      · exact h2.elim
    · rintro H2 ⟨ρ2, S2, mo2, s2, h2⟩
      rw [List.drop_length] at h2
      unfold mLcGo at h2
      split at h2
      · exact h2 _ H2 ρ2 .refl s2 (.ref (mo2.ref _ _ eD))
      · exact h2.elim
theorem pm_lc {elt : Expr} {ifs : List Expr} {scope : Scope} {own : List (Str × Nat)} {f : MI} {vs : List Nat} {t : TgM} (hc : X.calm = true) (hN : X.N.Nodup) (hi : PI X tgE iter (tI X.K E f)) (ok : BlkOk X.N X.env.scope scope own)
    (hg : ∀ (s : Shared) (H : Hp) (C : Addr) (cl : List (Str × Addr)) (fp : List Addr), PG (X.blk s H scope (compEnvC scope cl C X.env) fp) tgE (gM X.K vs t)) (ht : ∀ (s : Shared) (H : Hp) (C : Addr) (cl : List (Str × Addr)) (fp : List Addr), PTs (X.blk s H scope (compEnvC scope cl C X.env) fp) ifs (tT X.K E0' mt))
    (he : ∀ (s : Shared) (H : Hp) (C : Addr) (cl : List (Str × Addr)) (fp : List Addr), PE (X.blk s H scope (compEnvC scope cl C X.env) fp) elt (tE X.K E0' ma)) (hv : ∀ j ∈ vs, j ∈ own.map (·.2) := by decide) (hs : ∀ x, foldedSetIterable iter X.env x = pure x := by intro _; rfl) :
    PE X (.ListComp elt [⟨tgE, iter, ifs, 0⟩] scope pos) (tE X.K E (mLc f (own.map (·.2)) t mt ma)) := PE.imp (pe_lc hc hN hi ok hg ht he hs) fun _ _ _ h => tLc_of (fun j h1 h2 => h1 (hv j h2)) h
theorem psm_setLc (i : Nat) {y : Str} {py spos : Pos} {elt : Expr} {ifs : List Expr} {scope : Scope} {own : List (Str × Nat)} {f : MI} {vs : List Nat} {t : TgM} (hc : X.calm = true) (hN : X.N.Nodup) (hy : X.N[i]? = some y) (hyl : X.env.scope.names.lookup y = some .local)
    (hsw : swapsWith (.ListComp elt [⟨tgE, iter, ifs, 0⟩] scope pos) (some (.Name y py)) spos.line X.env = pure true) (hi : PI X tgE iter (tI X.K E f)) (ok : BlkOk X.N X.env.scope scope own)
    (hg : ∀ (s : Shared) (H : Hp) (C : Addr) (cl : List (Str × Addr)) (fp : List Addr), PG (X.blk s H scope (compEnvC scope cl C X.env) fp) tgE (gM X.K vs t)) (ht : ∀ (s : Shared) (H : Hp) (C : Addr) (cl : List (Str × Addr)) (fp : List Addr), PTs (X.blk s H scope (compEnvC scope cl C X.env) fp) ifs (tT X.K E0' mt))
    (he : ∀ (s : Shared) (H : Hp) (C : Addr) (cl : List (Str × Addr)) (fp : List Addr), PE (X.blk s H scope (compEnvC scope cl C X.env) fp) elt (tE X.K E0' ma)) (hv : ∀ j ∈ vs, j ∈ own.map (·.2) := by decide) (hs : ∀ x, foldedSetIterable iter X.env x = pure x := by intro _; rfl) :
    PS X (.Assign [.Name y py] (.ListComp elt [⟨tgE, iter, ifs, 0⟩] scope pos) spos) (tS X.K E (mSet i (mLc f (own.map (·.2)) t mt ma))) := by
  refine PS.imp (ps_setLc hc hN hy hyl hsw hi ok hg ht he hs) ?_
  rintro D σ H ⟨ρ, m, S, sr, er, h⟩
  refine tLc_of (fun j h1 h2 => h1 (hv j h2)) ⟨ρ, m, S, sr, er, RS.bind er h fun d S1 v H1 ρ1 m1 s1 r1 e1 h1 => h1 _ H1 ρ1 .refl s1 (e1.set r1 i)⟩
end
/-- a def's mirror: N names in all (nothing is raised) -/
def mDef (N : Nat) (f : MS) : List R → Store → Out R := fun ds S => match f (ds.map some ++ List.replicate (N - ds.length) none) S with
  | .rt d S' => .ok d S'
  | .nx _ S' => .ok .non S'
  | _ => .no
theorem okM {P : Program} {w : World} {K : PySem.W.Frag} {mg : Str → Option Value} {base : Heap} {x qual : Str} {st : Stmt} {f : Addr} {fd : FuncData} {N ps : List Str} {k n : Nat} {g : MS} (F : Fun K x qual st f fd) (S : FnScope N ps (defScope st)) (hn : ps.length = n)
    (h : ∀ (cdv : Value) (A : Around) (outer : List PySem.Env) (s : Shared) (H : Hp) (E : XK), Room k (A.deeper (envOfC qual (defScope st) s.heap.objs.size f cdv)) → PSs (cxOf CX0 P w K mg base N qual (defScope st) f cdv A outer s H E).nox (defBody st) (tS K E0' g)) :
    FnOk P w K mg base CX0 (k + 1) f fd ps (spM K n (mDef N.length g)) := by
  refine F.ok S (fun vs H Q E h => h.1.trans hn.symm) (fun cdv A outer s H vs Q E hr hq => ⟨_, h cdv A outer s H E hr, ?_⟩)
  obtain ⟨hl, ρ, S1, ds, sr, r, q⟩ := hq
  refine ⟨ρ, _, S1, sr, EnvR.start r, ?_⟩
  unfold mDef at q
  generalize g (ds.map some ++ List.replicate (N.length - ds.length) none) S1 = o at q ⊢
  cases o with
  | rt d S' => exact q
  | nx m S' => exact fun σ' H' ρ' mo s _ => q _ H' ρ' mo s .non
  | exc c m S' => exact q.elim
  | bk m S' => exact q.elim
  | ct m S' => exact q.elim
  | no => exact q
end M
namespace M
open PySem PySem.Spec L2
open PyProof.Rows hiding St
@[irreducible] def smBits : Nat := 400000
@[irreducible] def dvBits : Nat := 9000
theorem smBits_eq : smBits = 400000 := by unfold smBits; rfl
theorem dvBits_eq : dvBits = 9000 := by unfold dvBits; rfl
@[irreducible] def smLine : Nat := 2 ^ smBits
@[irreducible] def dvLine : Nat := 2 ^ dvBits
theorem smLine_eq : smLine = 2 ^ smBits := by unfold smLine; rfl
theorem dvLine_eq : dvLine = 2 ^ dvBits := by unfold dvLine; rfl
theorem sm_lt {i : Int} (k : Nat) (h : i.natAbs < 2 ^ k) (hk : k ≤ 400000) : i.natAbs < smLine := by
  rw [smLine_eq]; exact Nat.lt_of_lt_of_le h (Nat.pow_le_pow_right (by decide) (by rw [smBits_eq]; exact hk))
theorem dv_lt {i : Int} (k : Nat) (h : i.natAbs < 2 ^ k) (hk : k ≤ 9000) : i.natAbs < dvLine := by
  rw [dvLine_eq]; exact Nat.lt_of_lt_of_le h (Nat.pow_le_pow_right (by decide) (by rw [dvBits_eq]; exact hk))
theorem mulW {i j : Int} (h : i.natAbs < smLine ∧ j.natAbs < smLine) : CMulW i j := by
  rw [smLine_eq] at h
  exact wide_mul h.1 h.2 (by rw [smBits_eq]; decide) (by rw [smBits_eq]; decide) (by rw [smBits_eq]; decide)
theorem divW {j : Int} (h : 0 < j ∧ j.natAbs < dvLine) {i : Int} : CDivW i j := by
  rw [dvLine_eq] at h
  exact wide_div h.1 h.2 (by rw [dvBits_eq]; decide) (by rw [dvBits_eq]; decide)
@[irreducible] def shLine : Nat := 2 ^ 60
theorem shLine_eq : shLine = 2 ^ 60 := by unfold shLine; rfl
/-- what stands there now, by value -/
def view (S : Store) (r : R) : Option D := (frz 8 S r).map (·.1)
theorem view_ok {K : PySem.W.Frag} {H : Hp} {ρ : Wd} {S : Store} {v : V} {r : R} {d : D} (sr : SR K H ρ S) (q : Rq K H ρ v r) (e : view S r = some d) : ∃ z', Rp K H ⟨ρ.r, z'⟩ v d := by
  obtain ⟨p, e1, e2⟩ := Option.map_eq_some_iff.mp e
  subst e2
  obtain ⟨z', _, _, r1⟩ := frz_ok 8 S r p.1 p.2 ρ v e1 sr q
  exact ⟨z', r1⟩
theorem view_v (S : Store) (d : D) : view S (.v d) = some d := by simp [view, frz_v]
theorem frz_ref {S : Store} {n : Nat} {k : Nat} {ds : List D} (h : S[n]? = some (.lst (ds.map .v))) : frz (k + 1) S (.ref n) = some (.lst ds, S.set n (.fz (.lst ds))) := by
  simp [frz, h, frzA_map]
mutual
def D.py : D → Option PyData
  | .non => some .none
  | .bl b => some (.bool b)
  | .int i => some (.int i)
  | .str x => some (.str x)
  | .ty _ => none
  | .tup ds => (D.pys ds).map .tuple
  | .lst ds => (D.pys ds).map .list
  | .kl ds => (D.pys ds).map .list
  | .dct _ _ => none
  | .txt => none
  | .kt ds => (D.pys ds).map .tuple
def D.pys : List D → Option (List PyData)
  | [] => some []
  | d :: ds => (D.py d).bind fun p => (D.pys ds).bind fun ps => some (p :: ps)
end
section
variable {X : Cx} {K : PySem.W.Frag} {H : Hp} {ρ : Wd} {S : Store}
mutual
theorem dp_of : ∀ (d : D) (v : V) (p : PyData), Rp K H ρ v d → d.py = some p → Dp K H v p
  | .non, v, p, r, e => by cases r; cases e; exact .non
  | .bl b, v, p, r, e => by cases r; cases e; exact .bl b
  | .int b, v, p, r, e => by cases r; cases e; exact .int b
  | .str b, v, p, r, e => by cases r; cases e; exact .str b
  | .ty b, v, p, r, e => by cases e
  | .tup ds, v, p, r, e => by
    cases r with
    | tup hs ra =>
      obtain ⟨ps, e1, e2⟩ := Option.map_eq_some_iff.mp (show (D.pys ds).map PyData.tuple = some p from e)
      subst e2
      exact .tup (sqT_at hs) (dpA_of ds _ ps ra e1)
  | .lst ds, v, p, r, e => by
    cases r with
    | lst hs ra =>
      obtain ⟨ps, e1, e2⟩ := Option.map_eq_some_iff.mp (show (D.pys ds).map PyData.list = some p from e)
      subst e2
      exact .lst hs.sq (dpA_of ds _ ps ra e1)
  | .kl ds, v, p, r, e => by
    cases r with
    | kl hs ra =>
      obtain ⟨ps, e1, e2⟩ := Option.map_eq_some_iff.mp (show (D.pys ds).map PyData.list = some p from e)
      subst e2
      exact .lst hs.sq (dpA_of ds _ ps ra e1)
  | .dct ks ds, v, p, r, e => by cases e
  | .txt, v, p, r, e => by cases e
  | .kt ds, v, p, r, e => by
    cases r with
    | kt hs ra =>
      obtain ⟨ps, e1, e2⟩ := Option.map_eq_some_iff.mp (show (D.pys ds).map PyData.tuple = some p from e)
      subst e2
      exact .tup hs.sq (dpA_of ds _ ps ra e1)
theorem dpA_of : ∀ (ds : List D) (xs : List V) (ps : List PyData), RpA K H ρ xs ds → D.pys ds = some ps → DpAll K H xs ps
  | [], xs, ps, r, e => by cases r; cases e; exact .nil
  | d :: ds, xs, ps, r, e => by
    cases r with
    | cons r1 r2 =>
      obtain ⟨p, e1, e2⟩ := Option.bind_eq_some_iff.mp (show ((D.py d).bind fun p => (D.pys ds).bind fun ps => some (p :: ps)) = some ps from e)
      obtain ⟨qs, e3, e4⟩ := Option.bind_eq_some_iff.mp e2
      cases e4
      exact .cons (dp_of d _ p r1 e1) (dpA_of ds _ qs r2 e3)
end
/-- .. of a form that == walks -/
def D.pyS (d : D) : Option PyData := d.py.bind fun p => if SeqAt.shaped p = true then some p else none
theorem pyS_dp {v : V} {d : D} {p : PyData} (r : Rp K H ρ v d) (e : d.pyS = some p) : Dp K H v p ∧ SeqAt.shaped p = true := by
  obtain ⟨q, e1, e2⟩ := Option.bind_eq_some_iff.mp e
  split at e2
  · cases e2; exact ⟨dp_of d v _ r e1, by assumption⟩
  · cases e2
def pyOf (S : Store) (r : R) : Option PyData := (view S r).bind D.pyS
theorem pyOf_dp (sr : SR K H ρ S) {v : V} {r : R} {p : PyData} (q : Rq K H ρ v r) (e : pyOf S r = some p) : Dp K H v p ∧ SeqAt.shaped p = true := by
  obtain ⟨d, e1, e2⟩ := Option.bind_eq_some_iff.mp e
  obtain ⟨z', r1⟩ := view_ok sr q e1
  exact pyS_dp r1 e2
def opAdd (d e : R) (S : Store) : Out R := match d, e with
  | .v (.int i), .v (.int j) => .ok (.int (i + j)) S
  | .v (.int i), .v (.bl k) => .ok (.int (i + b2i k)) S
  | .v (.str x), .v (.str y) => if x.length + y.length ≤ sizeLine then .ok (.str (x ++ y)) S else .no
  | .v (.tup xs), .v (.tup ys) => if xs.length + ys.length ≤ sizeLine then .ok (.tup (xs ++ ys)) S else .no
  | .v (.lst xs), .v (.lst ys) => if xs.length + ys.length ≤ sizeLine then .ok (.ref S.length) (S ++ [.lst (xs.map .v ++ ys.map .v)]) else .no
  | .v (.lst xs), .ref k => match lsOf S k with
    | some ys => if xs.length + ys.length ≤ sizeLine then .ok (.ref S.length) (S ++ [.lst (xs.map .v ++ ys)]) else .no
    | none => .no
  | .ref n, .v (.lst ys) => match lsOf S n with
    | some xs => if xs.length + ys.length ≤ sizeLine then .ok (.ref S.length) (S ++ [.lst (xs ++ ys.map .v)]) else .no
    | none => .no
  | .ref n, .ref k => match lsOf S n, lsOf S k with
    | some xs, some ys => if xs.length + ys.length ≤ sizeLine then .ok (.ref S.length) (S ++ [.lst (xs ++ ys)]) else .no
    | _, _ => .no
  | _, _ => .no
theorem SR.lsE {n : Nat} {a : Addr} {ds : List R} (sr : SR K H ρ S) (e : ρ.r[n]? = some a) (h : lsOf S n = some ds) : ∃ xs, H a = some (.lst xs) ∧ RqA K H ρ xs ds := by
  unfold lsOf at h
  obtain ⟨o, h1, h2⟩ := Option.bind_eq_some_iff.mp h
  have q := sr.obj n a o e h1
  unfold seqC at h2
  split at h2
  · cases h2
    obtain ⟨xs, hu, r⟩ := q
    exact ⟨xs, hu, r⟩
  · cases h2
    have q : Rp K H ρ (.ref a) (.lst _) := q
    cases q with
    | lst hs ra => exact ⟨_, hs.2, ra.q⟩
  · cases h2
theorem opm_add : OpM X (binaryOp .Add) opAdd := by
  rintro pins s σ H x y v u Q I rx ry ⟨E, ρ, S, d, e, sr, rd, re, h⟩
  cases rd with
  | v rd =>
    cases re with
    | v re =>
      cases rd <;> cases re <;> first | exact (show False from h).elim | skip
      case int.bl i k => exact op_add_ib pins s σ H _ _ v u Q I rx ry ⟨_, _, rfl, rfl, h _ _ _ .refl sr (.int _)⟩
      case int.int i j => exact op_add pins s σ H _ _ v u Q I rx ry ⟨_, _, rfl, rfl, h _ _ _ .refl sr (.int _)⟩
      case str.str i j =>
        unfold opAdd at h
        simp only at h
        split at h
        · exact op_add_str pins s σ H _ _ v u Q I rx ry ⟨_, _, rfl, rfl, by assumption, h _ _ _ .refl sr (.str _)⟩
        · exact h.elim
      case tup.tup a xs ds hs ra b ys es hs2 ra2 =>
        unfold opAdd at h
        simp only at h
        split at h
        · rename_i hz
          refine op_catA pins s σ H _ _ v u Q I rx ry ⟨_, _, _, _, rfl, rfl, sqT_at hs, sqT_at hs2, by rw [ra.length, ra2.length]; exact hz, fun q => ?_, fun q1 q => ?_, fun q1 q2 p hp => RO.tup sr (ra.append ra2) h hp⟩
          · subst q; cases ra; exact h _ _ _ .refl sr (.v (.tup hs2 ra2))
          · subst q; cases ra2; rw [List.append_nil] at h; exact h _ _ _ .refl sr (.v (.tup hs ra))
        · exact h.elim
      case lst.lst a xs ds hs ra b ys es hs2 ra2 =>
        unfold opAdd at h
        simp only at h
        split at h
        · rename_i hz
          exact op_cat pins s σ H _ _ v u Q I rx ry ⟨_, _, _, _, rfl, rfl, hs.2, hs2.2, by rw [ra.length, ra2.length]; exact hz, fun p hp => RO.lst sr (ra.q.append ra2.q) h hp⟩
        · exact h.elim
    | ref eb =>
      cases rd <;> first | exact (show False from h).elim | skip
      case lst a xs ds hs ra =>
        unfold opAdd at h
        simp only at h
        split at h
        · rename_i ys hy
          split at h
          · rename_i hz
            obtain ⟨bs, hb, rb⟩ := sr.lsE eb hy
            exact op_cat pins s σ H _ _ v u Q I rx ry ⟨_, _, _, _, rfl, rfl, hs.2, hb, by rw [ra.length, rb.length]; exact hz, fun p hp => RO.lst sr (ra.q.append rb) h hp⟩
          · exact h.elim
        · exact h.elim
  | ref ea =>
    cases re with
    | v re =>
      cases re <;> first | exact (show False from h).elim | skip
      case lst b ys es hs2 ra2 =>
        unfold opAdd at h
        simp only at h
        split at h
        · rename_i ys hy
          split at h
          · rename_i hz
            obtain ⟨bs, hb, rb⟩ := sr.lsE ea hy
            exact op_cat pins s σ H _ _ v u Q I rx ry ⟨_, _, _, _, rfl, rfl, hb, hs2.2, by rw [rb.length, ra2.length]; exact hz, fun p hp => RO.lst sr (rb.append ra2.q) h hp⟩
          · exact h.elim
        · exact h.elim
    | ref eb =>
      unfold opAdd at h
      simp only at h
      split at h
      · rename_i xs ys h1 h2
        split at h
        · rename_i hz
          obtain ⟨as, ha, ra⟩ := sr.lsE ea h1
          obtain ⟨bs, hb, rb⟩ := sr.lsE eb h2
          exact op_cat pins s σ H _ _ v u Q I rx ry ⟨_, _, _, _, rfl, rfl, ha, hb, by rw [ra.length, rb.length]; exact hz, fun p hp => RO.lst sr (ra.append rb) h hp⟩
        · exact h.elim
      · exact h.elim
/-- where two ints are wanted -/
def onII {α : Type} (d e : R) (f : Int → Int → Out α) : Out α := match d, e with
  | .v (.int i), .v (.int j) => f i j
  | _, _ => .no
theorem RO.onII {α β : Type} {rel : Hp → Wd → β → α → Prop} {E : XK} {d e : R} {v u : V} {f : Int → Int → Out α} {Q : β → Hp → Prop} (r : Rq K H ρ v d) (r' : Rq K H ρ u e) (h : RO K rel E H ρ (M.onII d e f) Q) : ∃ i j, d = .int i ∧ e = .int j ∧ v = .int i ∧ u = .int j ∧ RO K rel E H ρ (f i j) Q := by
  cases r with
  | ref e => exact h.elim
  | v r =>
    cases r' with
    | ref e => cases r <;> exact (show False from h).elim
    | v r' => cases r <;> cases r' <;> first | exact (show False from h).elim | exact ⟨_, _, rfl, rfl, rfl, rfl, h⟩
def opSub (d e : R) (S : Store) : Out R := onII d e fun i j => .ok (.int (i - j)) S
theorem opm_sub : OpM X (binaryOp .Sub) opSub := by
  rintro pins s σ H x y v u Q I rx ry ⟨E, ρ, S, d, e, sr, rd, re, h⟩
  obtain ⟨i, j, _, _, rfl, rfl, h⟩ := RO.onII rd re h
  exact op_sub pins s σ H _ _ v u Q I rx ry ⟨_, _, rfl, rfl, h _ _ _ .refl sr (.int _)⟩
def opFdiv (d e : R) (S : Store) : Out R := onII d e fun i j => if 0 < j ∧ j.natAbs < dvLine then .ok (.int (i / j)) S else .no
theorem opm_fdiv : OpM X (binaryOp .FloorDiv) opFdiv := by
  rintro pins s σ H x y v u Q I rx ry ⟨E, ρ, S, d, e, sr, rd, re, h⟩
  obtain ⟨i, j, _, _, rfl, rfl, h⟩ := RO.onII rd re h
  split at h
  · rename_i hz
    exact op_fdivW pins s σ H _ _ v u Q I rx ry ⟨_, _, rfl, rfl, divW hz, h _ _ _ .refl sr (.int _)⟩
  · exact h.elim
def opMod (d e : R) (S : Store) : Out R := onII d e fun i j => if 0 < j then .ok (.int (i % j)) S else .no
theorem opm_mod : OpM X (binaryOp .Mod) opMod := by
  rintro pins s σ H x y v u Q I rx ry ⟨E, ρ, S, d, e, sr, rd, re, h⟩
  obtain ⟨i, j, _, _, rfl, rfl, h⟩ := RO.onII rd re h
  split at h
  · exact op_mod pins s σ H _ _ v u Q I rx ry ⟨_, _, rfl, rfl, by assumption, h _ _ _ .refl sr (.int _)⟩
  · exact h.elim
def opPow (d e : R) (S : Store) : Out R := onII d e fun i j => if 0 ≤ j ∧ j ≤ 1000000 ∧ i.natAbs < 2 ^ 64 then .ok (.int (i ^ j.toNat)) S else .no
theorem opm_pow : OpM X (binaryOp .Pow) opPow := by
  rintro pins s σ H x y v u Q I rx ry ⟨E, ρ, S, d, e, sr, rd, re, h⟩
  obtain ⟨i, j, _, _, rfl, rfl, h⟩ := RO.onII rd re h
  split at h
  · exact op_pow pins s σ H _ _ v u Q I rx ry ⟨_, _, rfl, rfl, by assumption, h _ _ _ .refl sr (.int _)⟩
  · exact h.elim
/-- a list many times -/
def repR (k : Int) (xs : List R) : List R := (List.replicate k.toNat xs).flatten
theorem RqA.rep {xs : List V} {ds : List R} (h : RqA K H ρ xs ds) : ∀ n : Nat, RqA K H ρ (List.replicate n xs).flatten (List.replicate n ds).flatten
  | 0 => .nil
  | n + 1 => by
    rw [List.replicate_succ, List.replicate_succ, List.flatten_cons, List.flatten_cons]
    exact RqA.append h (RqA.rep h n)
def opMul (d e : R) (S : Store) : Out R := match d, e with
  | .v (.int i), .v (.int j) => if (i.natAbs < smLine ∧ j.natAbs < smLine) ∨ j.natAbs < shLine then .ok (.int (i * j)) S else .no
  | .v (.lst xs), .v (.int k) => if k < 2 ^ 20 ∧ -(2 ^ 63) ≤ k ∧ xs.length * k.toNat ≤ sizeLine then .ok (.ref S.length) (S ++ [.lst (repR k (xs.map .v))]) else .no
  | .ref n, .v (.int k) => match lsOf S n with
    | some xs => if k < 2 ^ 20 ∧ -(2 ^ 63) ≤ k ∧ xs.length * k.toNat ≤ sizeLine then .ok (.ref S.length) (S ++ [.lst (repR k xs)]) else .no
    | none => .no
  | _, _ => .no
theorem opm_mul : OpM X (binaryOp .Mult) opMul := by
  rintro pins s σ H x y v u Q I rx ry ⟨E, ρ, S, d, e, sr, rd, re, h⟩
  cases re with
  | ref eb =>
    cases rd with
    | ref ea => exact (show False from h).elim
    | v rd => cases rd <;> exact (show False from h).elim
  | v re =>
    cases rd with
    | v rd =>
      cases rd <;> cases re <;> first | exact (show False from h).elim | skip
      case int.int i j =>
        have h : RO X.K (relD X.K) E H ρ (if (i.natAbs < smLine ∧ j.natAbs < smLine) ∨ j.natAbs < shLine then .ok (.int (i * j)) S else .no) Q := h
        split at h
        · rename_i hz
          rcases hz with hz | hz
          · exact op_mulW pins s σ H _ _ v u Q I rx ry ⟨_, _, rfl, rfl, mulW hz, h _ _ _ .refl sr (.int _)⟩
          · rw [shLine_eq] at hz
            exact op_mul pins s σ H _ _ v u Q I rx ry ⟨_, _, rfl, rfl, .inr (by omega), h _ _ _ .refl sr (.int _)⟩
        · exact h.elim
      case lst.int a xs ds hs ra k =>
        unfold opMul at h
        simp only at h
        split at h
        · rename_i hz
          exact op_rep pins s σ H _ _ v u Q I rx ry ⟨_, _, _, rfl, rfl, hs.2, hz.2.1, by omega, by rw [ra.length]; exact hz.2.2, fun p hp => RO.lst sr (ra.q.rep _) h hp⟩
        · exact h.elim
    | ref ea =>
      cases re <;> first | exact (show False from h).elim | skip
      case int k =>
        unfold opMul at h
        simp only at h
        split at h
        · rename_i xs hx
          split at h
          · rename_i hz
            obtain ⟨as, ha, ra⟩ := sr.lsE ea hx
            exact op_rep pins s σ H _ _ v u Q I rx ry ⟨_, _, _, rfl, rfl, ha, hz.2.1, by omega, by rw [ra.length]; exact hz.2.2, fun p hp => RO.lst sr (ra.rep _) h hp⟩
          · exact h.elim
        · exact h.elim
def opNeg (d : R) (S : Store) : Out R := match d with
  | .v (.int i) => .ok (.int (-i)) S
  | _ => .no
theorem unm_neg : UnM X (unaryOp .USub) opNeg := by
  rintro pins s σ H x v Q I rx ⟨E, ρ, S, d, sr, rd, h⟩
  cases rd with
  | ref ea => exact (show False from h).elim
  | v rd =>
    cases rd <;> first | exact (show False from h).elim | skip
    exact un_neg pins s σ H _ v Q I rx ⟨_, rfl, h _ _ _ .refl sr (.int _)⟩
def opIadd (d e : R) (S : Store) : Out R := match d, e with
  | .v (.int i), .v (.int j) => .ok (.int (i + j)) S
  | .v (.str x), .v (.str y) => if x.length + y.length ≤ sizeLine then .ok (.str (x ++ y)) S else .no
  | _, _ => .no
theorem ipm_add : PIp X .Add (rM X.K opIadd) := by
  rintro pins s σ H x y v u Q I rx ry ⟨E, ρ, S, d, e, sr, rd, re, h⟩
  cases rd with
  | ref ea => exact (show False from h).elim
  | v rd =>
  cases re with
  | ref eb => cases rd <;> exact (show False from h).elim
  | v re =>
  cases rd <;> cases re <;> first | exact (show False from h).elim | skip
  case int.int i j => exact ip_add pins s σ H _ _ v u Q I rx ry ⟨_, _, rfl, rfl, h _ _ _ .refl sr (.int _)⟩
  case str.str i j =>
    unfold opIadd at h
    simp only at h
    split at h
    · exact iop_add_str pins s σ H _ _ v u Q I rx ry ⟨_, _, rfl, rfl, by assumption, h _ _ _ .refl sr (.str _)⟩
    · exact h.elim
def opCmpI (p : Int → Int → Bool) (d e : R) (S : Store) : Out R := onII d e fun i j => .ok (.bl (p i j)) S
theorem opm_ge : OpM X (compareOp .GtE) (opCmpI fun i j => decide (j ≤ i)) := by
  rintro pins s σ H x y v u Q I rx ry ⟨E, ρ, S, d, e, sr, rd, re, h⟩
  obtain ⟨i, j, _, _, rfl, rfl, h⟩ := RO.onII rd re h
  exact op_ge pins s σ H _ _ v u Q I rx ry ⟨_, _, rfl, rfl, h _ _ _ .refl sr (.bl _)⟩
theorem opm_lt : OpM X (compareOp .Lt) (opCmpI fun i j => decide (i < j)) := by
  rintro pins s σ H x y v u Q I rx ry ⟨E, ρ, S, d, e, sr, rd, re, h⟩
  obtain ⟨i, j, _, _, rfl, rfl, h⟩ := RO.onII rd re h
  exact op_lt pins s σ H _ _ v u Q I rx ry ⟨_, _, rfl, rfl, h _ _ _ .refl sr (.bl _)⟩
theorem opm_le : OpM X (compareOp .LtE) (opCmpI fun i j => decide (i ≤ j)) := by
  rintro pins s σ H x y v u Q I rx ry ⟨E, ρ, S, d, e, sr, rd, re, h⟩
  obtain ⟨i, j, _, _, rfl, rfl, h⟩ := RO.onII rd re h
  exact op_le pins s σ H _ _ v u Q I rx ry ⟨_, _, rfl, rfl, h _ _ _ .refl sr (.bl _)⟩
theorem opm_gt : OpM X (compareOp .Gt) (opCmpI fun i j => decide (j < i)) := by
  rintro pins s σ H x y v u Q I rx ry ⟨E, ρ, S, d, e, sr, rd, re, h⟩
  obtain ⟨i, j, _, _, rfl, rfl, h⟩ := RO.onII rd re h
  exact op_gt pins s σ H _ _ v u Q I rx ry ⟨_, _, rfl, rfl, h _ _ _ .refl sr (.bl _)⟩
def opEq (d e : R) (S : Store) : Out R := match pyOf S d, pyOf S e with
  | some p, some q => .ok (.bl (PyData.eqv p q)) S
  | _, _ => .no
def opNe (d e : R) (S : Store) : Out R := match pyOf S d, pyOf S e with
  | some p, some q => .ok (.bl (!PyData.eqv p q)) S
  | _, _ => .no
theorem opm_eq (hu : X.A.units + 64 < cLine) : OpM X (compareOp .Eq) opEq := by
  rintro pins s σ H x y v u Q I rx ry ⟨E, ρ, S, d, e, sr, rd, re, h⟩
  unfold opEq at h
  split at h
  · rename_i p q h1 h2
    obtain ⟨d1, s1⟩ := pyOf_dp sr rd h1
    obtain ⟨d2, s2⟩ := pyOf_dp sr re h2
    exact op_eqD hu pins s σ H _ _ v u Q I rx ry ⟨_, _, d1, d2, s1, s2, h _ _ _ .refl sr (.bl _)⟩
  · exact h.elim
theorem opm_ne (hu : X.A.units + 64 < cLine) : OpM X (compareOp .NotEq) opNe := by
  rintro pins s σ H x y v u Q I rx ry ⟨E, ρ, S, d, e, sr, rd, re, h⟩
  unfold opNe at h
  split at h
  · rename_i p q h1 h2
    obtain ⟨d1, s1⟩ := pyOf_dp sr rd h1
    obtain ⟨d2, s2⟩ := pyOf_dp sr re h2
    exact op_neD hu pins s σ H _ _ v u Q I rx ry ⟨_, _, d1, d2, s1, s2, h _ _ _ .refl sr (.bl _)⟩
  · exact h.elim
def seqPy : PyData → Option (List PyData)
  | .list ps => some ps
  | .tuple ps => some ps
  | _ => none
/-- a sign -/
def signOf (x : Str) : Option Nat := match x.cps.toList with
  | [c] => some c
  | _ => none
theorem signOf_eq {x : Str} {c : Nat} (h : signOf x = some c) : x = ⟨#[c]⟩ := by
  unfold signOf at h
  split at h
  · rename_i c' e
    cases h
    cases x with
    | mk a => simp only at e; simp only [Str.mk.injEq]; exact Array.toList_inj.mp (by simpa using e)
  · cases h
def inM (S : Store) (d e : R) : Option Bool := match d, e with
  | .v (.str x), .v (.str z) => (signOf x).map fun c => decide (c ∈ z.cps.toList)
  | d, e => match pyOf S d, (pyOf S e).bind seqPy with
    | some p, some qs => some (qs.any fun z => PyData.eqv z p)
    | _, _ => none
def opIn (d e : R) (S : Store) : Out R := match inM S d e with
  | some k => .ok (.bl k) S
  | none => .no
def opNotIn (d e : R) (S : Store) : Out R := match inM S d e with
  | some k => .ok (.bl (!k)) S
  | none => .no
theorem inM_cases (sr : SR K H ρ S) {d e : R} {x y : V} {k : Bool} (rd : Rq K H ρ x d) (re : Rq K H ρ y e) (h : inM S d e = some k) :
    (∃ c z, x = .str ⟨#[c]⟩ ∧ y = .str z ∧ k = decide (c ∈ z.cps.toList)) ∨ ∃ p q qs, Dp K H x p ∧ Dp K H y q ∧ (q = .list qs ∨ q = .tuple qs) ∧ SeqAt.shaped p = true ∧ SeqAt.shaped q = true ∧ k = qs.any fun z => PyData.eqv z p := by
  have gen : (match pyOf S d, (pyOf S e).bind seqPy with
    | some p, some qs => some (qs.any fun z => PyData.eqv z p)
    | _, _ => none) = some k → ∃ p q qs, Dp K H x p ∧ Dp K H y q ∧ (q = .list qs ∨ q = .tuple qs) ∧ SeqAt.shaped p = true ∧ SeqAt.shaped q = true ∧ k = qs.any fun z => PyData.eqv z p := by
    intro h
    split at h
    · rename_i p qs h1 h2
      obtain ⟨q, h3, h4⟩ := Option.bind_eq_some_iff.mp h2
      obtain ⟨d1, s1⟩ := pyOf_dp sr rd h1
      obtain ⟨d2, s2⟩ := pyOf_dp sr re h3
      refine ⟨p, q, qs, d1, d2, ?_, s1, s2, (Option.some.inj h).symm⟩
      unfold seqPy at h4
      split at h4
      · cases h4; exact .inl rfl
      · cases h4; exact .inr rfl
      · cases h4
    · cases h
  unfold inM at h
  split at h
  · rename_i x' z
    obtain ⟨c, h1, h2⟩ := Option.map_eq_some_iff.mp h
    have := signOf_eq h1
    subst this
    cases rd with
    | v rd =>
      cases rd
      cases re with
      | v re =>
        cases re
        exact .inl ⟨c, z, rfl, rfl, h2.symm⟩
  · exact .inr (gen h)
theorem opm_in (hu : X.A.units + 65 < cLine) : OpM X (compareOp .In) opIn := by
  rintro pins s σ H x y v u Q I rx ry ⟨E, ρ, S, d, e, sr, rd, re, h⟩
  unfold opIn at h
  split at h
  · rename_i k hk
    rcases inM_cases sr rd re hk with ⟨c, z, rfl, rfl, rfl⟩ | ⟨p, q, qs, d1, d2, hq, s1, s2, rfl⟩
    · exact op_in_sign pins s σ H _ _ v u Q I rx ry ⟨_, _, rfl, rfl, h _ _ _ .refl sr (.bl _)⟩
    · rcases hq with rfl | rfl
      · exact op_inD hu pins s σ H _ _ v u Q I rx ry ⟨_, _, d1, d2, s1, s2, h _ _ _ .refl sr (.bl _)⟩
      · obtain ⟨as, r1⟩ := Dp.reads I p x v d1 rx
        obtain ⟨bs, r2⟩ := Dp.reads I (.tuple qs) y u d2 ry
        exact SeqAt.in_tuple_reads r2 r1 (SeqAt.canLay_of_shaped s2) (SeqAt.canLay_of_shaped s1) (PyProof.Rows.room_in_shaped s1 hu) ⟨.bl _, H, I, rfl, h _ _ _ .refl sr (.bl _)⟩
  · exact h.elim
theorem opm_notIn (hu : X.A.units + 65 < cLine) : OpM X (compareOp .NotIn) opNotIn := by
  rintro pins s σ H x y v u Q I rx ry ⟨E, ρ, S, d, e, sr, rd, re, h⟩
  unfold opNotIn at h
  split at h
  · rename_i k hk
    rcases inM_cases sr rd re hk with ⟨c, z, rfl, rfl, rfl⟩ | ⟨p, q, qs, d1, d2, hq, s1, s2, rfl⟩
    · exact op_notIn_sign pins s σ H _ _ v u Q I rx ry ⟨_, _, rfl, rfl, h _ _ _ .refl sr (.bl _)⟩
    · rcases hq with rfl | rfl
      · exact op_notInD hu pins s σ H _ _ v u Q I rx ry ⟨_, _, d1, d2, s1, s2, h _ _ _ .refl sr (.bl _)⟩
      · obtain ⟨as, r1⟩ := Dp.reads I p x v d1 rx
        obtain ⟨bs, r2⟩ := Dp.reads I (.tuple qs) y u d2 ry
        exact SeqAt.notIn_tuple_reads r2 r1 (SeqAt.canLay_of_shaped s2) (SeqAt.canLay_of_shaped s1) (PyProof.Rows.room_in_shaped s1 hu) ⟨.bl _, H, I, rfl, h _ _ _ .refl sr (.bl _)⟩
  · exact h.elim
def isNon : R → Bool
  | .v .non => true
  | _ => false
def isV (d e : R) : Option Bool := match e with
  | .v .non => some (isNon d)
  | .v (.bl b) => match d with
    | .v (.bl a) => some (decide (a = b))
    | _ => none
  | _ => none
def opIs (d e : R) (S : Store) : Out R := match isV d e with
  | some k => .ok (.bl k) S
  | none => .no
def opIsNot (d e : R) (S : Store) : Out R := match isV d e with
  | some k => .ok (.bl (!k)) S
  | none => .no
theorem isN_rq {v : V} {d : R} (r : Rq K H ρ v d) : decide (v = .non) = isNon d := by
  cases r with
  | ref e => rfl
  | v r => cases r <;> rfl
theorem isV_cases {d e : R} {x y : V} {k : Bool} (rd : Rq K H ρ x d) (re : Rq K H ρ y e) (h : isV d e = some k) : (y = .non ∧ k = decide (x = .non)) ∨ ∃ a b, x = .bl a ∧ y = .bl b ∧ k = decide (a = b) := by
  unfold isV at h
  split at h
  · cases h
    cases re with
    | v re => cases re; exact .inl ⟨rfl, (isN_rq rd).symm⟩
  · split at h
    · cases h
      cases re with
      | v re =>
        cases re
        cases rd with
        | v rd => cases rd; exact .inr ⟨_, _, rfl, rfl, rfl⟩
    · cases h
  · cases h
theorem opm_is : OpM X (compareOp .Is) opIs := by
  rintro pins s σ H x y v u Q I rx ry ⟨E, ρ, S, d, e, sr, rd, re, h⟩
  unfold opIs at h
  split at h
  · rename_i k hk
    rcases isV_cases rd re hk with ⟨rfl, rfl⟩ | ⟨a, b, rfl, rfl, rfl⟩
    · exact op_isN pins s σ H _ _ v u Q I rx ry ⟨rfl, h _ _ _ .refl sr (.bl _)⟩
    · exact op_isBl pins s σ H _ _ v u Q I rx ry ⟨_, _, rfl, rfl, h _ _ _ .refl sr (.bl _)⟩
  · exact h.elim
theorem opm_isNot : OpM X (compareOp .IsNot) opIsNot := by
  rintro pins s σ H x y v u Q I rx ry ⟨E, ρ, S, d, e, sr, rd, re, h⟩
  unfold opIsNot at h
  split at h
  · rename_i k hk
    rcases isV_cases rd re hk with ⟨rfl, rfl⟩ | ⟨a, b, rfl, rfl, rfl⟩
    · exact op_notN pins s σ H _ _ v u Q I rx ry ⟨rfl, h _ _ _ .refl sr (.bl _)⟩
    · exact op_notBl pins s σ H _ _ v u Q I rx ry ⟨_, _, rfl, rfl, h _ _ _ .refl sr (.bl _)⟩
  · exact h.elim
end
end M
namespace M
open PySem PySem.Spec L2
open PyProof.Rows hiding St
section
variable {X : Cx} {E : St → XK} {a b c e tgE iter : Expr} {es rest : List Expr} {pos : Pos} {ma mb mc : ME} {mt mu : MT} {mr : MA} {K : PySem.W.Frag} {H : Hp} {ρ : Wd} {S : Store}
theorem atI_rqa {xs : List V} {ds : List R} {i : Int} {d : R} (r : RqA K H ρ xs ds) (h : atI ds i = some d) : ∃ v, atI xs i = some v ∧ Rq K H ρ v d := by
  unfold atI at h ⊢
  rw [r.length]
  cases e : ixN ds.length i with
  | none => rw [e] at h; cases h
  | some j =>
    rw [e] at h
    exact r.get h
def opIx (d e : R) (S : Store) : Out R := match e with
  | .v (.int i) => match d with
    | .v (.str x) => if x.length ≤ sizeLine then (match atI x.cps.toList i with
      | some c => .ok (.str ⟨#[c]⟩) S
      | none => .no) else .no
    | d => match seqOf S d with
      | some ds => match atI ds i with
        | some x => .ok x S
        | none => .no
      | none => .no
  | _ => .no
theorem ixm : IxR X (rM X.K opIx) := by
  rintro value slice pins s σ H x y v u Q I rx ry ⟨E, ρ, S, d, e, sr, rd, re, h⟩ hs
  cases re with
  | ref _ => exact (show False from h).elim
  | v re =>
  cases re <;> first | exact (show False from h).elim | skip
  case int i =>
    have gen : ∀ ds, seqOf S d = some ds → RO X.K (relD X.K) E H ρ (match atI ds i with
        | some x => .ok x S
        | none => .no) Q → wpAny (model X.prog X.w) X.A _ _ _ s := fun ds hds h => by
      split at h
      · rename_i x hx
        obtain ⟨p, xs, rfl, hq, ra⟩ := sr.seq rd hds
        obtain ⟨w, hw, rw'⟩ := atI_rqa ra hx
        rcases hq with hq | hq
        · exact ix_list value slice pins s σ H _ _ v u Q I rx ry ⟨_, _, _, _, rfl, rfl, hq, hw, h _ _ _ .refl sr rw'⟩ hs
        · exact ix_tup value slice pins s σ H _ _ v u Q I rx ry ⟨_, _, _, _, rfl, rfl, hq, hw, h _ _ _ .refl sr rw'⟩ hs
      · exact h.elim
    unfold opIx at h
    simp only at h
    split at h
    · split at h
      · split at h
        · rename_i x hz _ c hc
          cases rd with
          | v rd =>
            cases rd
            exact ix_str value slice pins s σ H _ _ v u Q I rx ry ⟨_, _, _, rfl, rfl, hz, hc, h _ _ _ .refl sr (.str _)⟩ hs
        · exact h.elim
      · exact h.elim
    · split at h
      · rename_i ds hds
        exact gen ds hds h
      · exact h.elim
theorem pm_ix (ha : PE X a (tE X.K E ma)) (hb : PE X b (tE X.K E mb)) (hs : PlainIx b := by exact fun _ _ => rfl) : PE X (.Subscript a b pos) (tE X.K E (mBin opIx ma mb)) := PE.imp (pe_ix ixm ha hb hs) fun _ _ _ h => tOp_of h
abbrev MO_ := Env → Store → Out (Option Int)
def tO (K : PySem.W.Frag) (E : St → XK) (f : MO_) : TO := fun σ H Q => ∃ ρ m S, SR K H ρ S ∧ EnvR K H ρ σ m ∧ RO K (fun _ _ (v d : Option Int) => v = d) (E σ) H ρ (f m S) Q
theorem PO.imp {e : Option Expr} {t t' : TO} (h : PO X e t) (k : ∀ σ H Q, t' σ H Q → t σ H Q) : PO X e t' := ⟨fun pins s σ H Q I q => h.run pins s σ H Q I (k _ _ _ q)⟩
def moN : MO_ := fun _ S => .ok none S
def moS (f : ME) : MO_ := fun m S => (f m S).bind fun d S1 => match d with
  | .v (.int i) => .ok (some i) S1
  | _ => .no
theorem pom_none : PO X none (tO X.K E moN) := PO.imp po_none fun σ H Q ⟨ρ, m, S, sr, er, h⟩ => h _ H ρ .refl sr rfl
theorem pom_some (he : PE X e (tE X.K E ma)) : PO X (some e) (tO X.K E (moS ma)) := by
  refine PO.imp (po_some he) ?_
  rintro σ H Q ⟨ρ, m, S, sr, er, h⟩
  refine ⟨ρ, m, S, sr, er, RO.bind h fun d S1 v H1 ρ1 m1 s1 r1 h1 => ?_⟩
  cases r1 with
  | ref _ => exact (show False from h1).elim
  | v r1 =>
    cases r1 <;> first | exact (show False from h1).elim | exact ⟨_, rfl, h1 _ H1 ρ1 .refl s1 rfl⟩
def cutD {α : Type} (xs : List α) (lo hi : Option Int) : List α := (xs.drop (HT.sIx xs.length 0 lo)).take (HT.sIx xs.length xs.length hi - HT.sIx xs.length 0 lo)
theorem cut_rqa {xs : List V} {ds : List R} {lo hi : Option Int} (r : RqA K H ρ xs ds) : RqA K H ρ (cutV xs lo hi) (cutD ds lo hi) := by
  unfold cutV cutD
  rw [r.length]
  exact (r.drop _).take _
theorem cut_rpa {xs : List V} {ds : List D} {lo hi : Option Int} (r : RpA K H ρ xs ds) : RpA K H ρ (cutV xs lo hi) (cutD ds lo hi) := by
  unfold cutV cutD
  rw [r.length]
  exact (r.drop _).take _
def opSl (d : R) (lo hi : Option Int) (S : Store) : Out R := match d with
  | .v (.tup ds) => .ok (.tup (cutD ds lo hi)) S
  | .v (.str x) => if x.length ≤ sizeLine then .ok (.str (cutS x lo hi)) S else .no
  | d => match lstOf S d with
    | some ds => .ok (.ref S.length) (S ++ [.lst (cutD ds lo hi)])
    | none => .no
def rMS (K : PySem.W.Frag) : V → Option Int → Option Int → Hp → VK → Prop := fun x lo hi H Q => ∃ (E : XK) (ρ : Wd) (S : Store) (d : R), SR K H ρ S ∧ Rq K H ρ x d ∧ RO K (relD K) E H ρ (opSl d lo hi S) Q
theorem slm : SlR X (rMS X.K) := by
  rintro pins s σ H x v vl vu lo hi sl Q I rx hs pl pu ⟨E, ρ, S, d, sr, rd, h⟩
  unfold opSl at h
  split at h
  · rename_i ds
    cases rd with
    | v rd =>
      cases rd with
      | tup hq ra =>
        refine sl_tupA pins s σ H _ v vl vu lo hi sl Q I rx hs pl pu ⟨_, _, rfl, sqT_at hq, fun q => ?_, fun _ p hp => RO.tup sr (cut_rpa ra) h hp⟩
        have e : cutD ds lo hi = ds := by
          unfold cutD
          rw [ra.length] at q
          rw [q.1, q.2]
          simp
        rw [e] at h
        exact h _ _ _ .refl sr (.v (.tup hq ra))
  · cases rd with
    | v rd =>
      cases rd
      split at h
      · exact sl_str pins s σ H _ v vl vu lo hi sl Q I rx hs pl pu ⟨_, rfl, by assumption, h _ _ _ .refl sr (.str _)⟩
      · exact h.elim
  · split at h
    · rename_i ds hds
      obtain ⟨p, xs, rfl, hq, ra⟩ := sr.lsD rd hds
      exact sl_list pins s σ H _ v vl vu lo hi sl Q I rx hs pl pu ⟨_, _, rfl, hq, fun p hp => RO.lst sr (cut_rqa ra) h hp⟩
    · exact h.elim
def mSl (f : ME) (l u : MO_) : ME := fun m S => (f m S).bind fun d S1 => (l m S1).bind fun lo S2 => (u m S2).bind fun hi S3 => opSl d lo hi S3
theorem pm_slice {lo hi : Option Expr} {ml mh : MO_} {p2 : Pos} (he : PE X e (tE X.K E ma)) (hl : PO X lo (tO X.K E ml)) (hu : PO X hi (tO X.K E mh)) : PE X (.Subscript e (.Slice lo hi none p2) pos) (tE X.K E (mSl ma ml mh)) := by
  refine PE.imp (pe_slice slm he hl hu) ?_
  rintro σ H Q ⟨ρ, m, S, sr, er, h⟩
  refine ⟨ρ, m, S, sr, er, RO.bind h fun d S1 v H1 ρ1 m1 s1 r1 h1 => ?_⟩
  refine ⟨ρ1, m, S1, s1, er.mo m1, RO.bind h1 fun lo S2 lo' H2 ρ2 m2 s2 r2 h2 => ?_⟩
  subst r2
  refine ⟨ρ2, m, S2, s2, (er.mo m1).mo m2, RO.bind h2 fun hi S3 hi' H3 ρ3 m3 s3 r3 h3 => ?_⟩
  subst r3
  exact ⟨_, ρ3, S3, d, s3, (r1.mo m2).mo m3, h3⟩
theorem RqA.one {xs : List V} {d : R} (r : RqA K H ρ xs [d]) : ∃ v, xs = [v] ∧ Rq K H ρ v d := by
  cases r with
  | cons r1 r2 => cases r2; exact ⟨_, rfl, r1⟩
theorem RqA.two {xs : List V} {d e : R} (r : RqA K H ρ xs [d, e]) : ∃ v w, xs = [v, w] ∧ Rq K H ρ v d ∧ Rq K H ρ w e := by
  cases r with
  | cons r1 r2 => obtain ⟨w, rfl, r3⟩ := RqA.one r2; exact ⟨_, _, rfl, r1, r3⟩
theorem RpA.two {xs : List V} {d e : D} (r : RpA K H ρ xs [d, e]) : ∃ v w, xs = [v, w] ∧ Rp K H ρ v d ∧ Rp K H ρ w e := by
  cases r with
  | cons r1 r2 => cases r2 with
    | cons r2 r3 => cases r3; exact ⟨_, _, rfl, r1, r2⟩
def biLen (ds : List R) (S : Store) : Out R := match ds with
  | [.v (.str x)] => if x.length ≤ sizeLine then .ok (.int x.length) S else .no
  | [d] => match seqOf S d with
    | some es => .ok (.int es.length) S
    | none => .no
  | _ => .no
theorem cam_len : CaM X (.builtin "len") biLen := by
  rintro pins s σ H xs us Q I rv ⟨E, ρ, S, ds, sr, r, h⟩
  unfold biLen at h
  split at h
  · obtain ⟨v, rfl, r1⟩ := r.one
    cases r1 with
    | v r1 =>
      cases r1
      split at h
      · exact call_len_str pins s σ H _ us Q I rv ⟨_, rfl, by assumption, h _ _ _ .refl sr (.int _)⟩
      · exact h.elim
  · split at h
    · rename_i es hes
      obtain ⟨v, rfl, r1⟩ := r.one
      obtain ⟨p, xs, rfl, hq, ra⟩ := sr.seq r1 hes
      exact call_len_seq pins s σ H _ us Q I rv ⟨_, _, rfl, hq, by rw [ra.length]; exact h _ _ _ .refl sr (.int _)⟩
    · exact h.elim
  · exact h.elim
def biAbs (ds : List R) (S : Store) : Out R := match ds with
  | [.v (.int i)] => .ok (.int (if i < 0 then -i else i)) S
  | _ => .no
theorem cam_abs : CaM X (.builtin "abs") biAbs := by
  rintro pins s σ H xs us Q I rv ⟨E, ρ, S, ds, sr, r, h⟩
  unfold biAbs at h
  split at h
  · obtain ⟨v, rfl, r1⟩ := r.one
    cases r1 with
    | v r1 => cases r1; exact call_abs pins s σ H _ us Q I rv ⟨_, rfl, h _ _ _ .refl sr (.int _)⟩
  · exact h.elim
/-- int of an int, a truth, a text of figures -/
def biInt (ds : List R) (S : Store) : Out R := match ds with
  | [.v (.int i)] => .ok (.int i) S
  | [.v (.bl k)] => .ok (.int (if k = true then 1 else 0)) S
  | [.v (.str x)] => match PySem.intText? x with
    | some n => if x.length ≤ 640 then .ok (.int n) S else .no
    | none => .no
  | _ => .no
theorem cam_int : CaM X (.type "int") biInt := by
  rintro pins s σ H xs us Q I rv ⟨E, ρ, S, ds, sr, r, h⟩
  unfold biInt at h
  split at h
  · obtain ⟨v, rfl, r1⟩ := r.one
    cases r1 with
    | v r1 => cases r1; exact call_int1 pins s σ H _ us Q I rv (.inl ⟨_, rfl, h _ _ _ .refl sr (.int _)⟩)
  · obtain ⟨v, rfl, r1⟩ := r.one
    cases r1 with
    | v r1 => cases r1; exact call_int1 pins s σ H _ us Q I rv (.inr ⟨_, rfl, h _ _ _ .refl sr (.int _)⟩)
  · obtain ⟨v, rfl, r1⟩ := r.one
    split at h
    · rename_i n hn
      split at h
      · cases r1 with
        | v r1 => cases r1; exact call_int_str pins s σ H _ us Q I rv ⟨_, _, rfl, hn, by assumption, h _ _ _ .refl sr (.int _)⟩
      · exact h.elim
    · exact h.elim
  · exact h.elim
def biList (ds : List R) (S : Store) : Out R := match ds with
  | [d] => match seqOf S d with
    | some es => .ok (.ref S.length) (S ++ [.lst es])
    | none => .no
  | _ => .no
theorem cam_list : CaM X (.type "list") biList := by
  rintro pins s σ H xs us Q I rv ⟨E, ρ, S, ds, sr, r, h⟩
  unfold biList at h
  split at h
  · split at h
    · rename_i es hes
      obtain ⟨v, rfl, r1⟩ := r.one
      obtain ⟨p, xs, rfl, hq, ra⟩ := sr.seq r1 hes
      exact call_list_of pins s σ H _ us Q I rv ⟨_, _, rfl, hq, fun l hl => RO.lst sr ra h hl⟩
    · exact h.elim
  · exact h.elim
def biTuple (ds : List R) (S : Store) : Out R := match ds with
  | [.v (.tup es)] => .ok (.tup es) S
  | [d] => match lstOf S d with
    | some es => frzO S es fun ds S2 => .ok (.tup ds) S2
    | none => .no
  | _ => .no
theorem cam_tuple : CaM X (.type "tuple") biTuple := by
  rintro pins s σ H xs us Q I rv ⟨E, ρ, S, ds, sr, r, h⟩
  unfold biTuple at h
  split at h
  · obtain ⟨v, rfl, r1⟩ := r.one
    cases r1 with
    | v r1 =>
      cases r1 with
      | tup hs ra => exact call_tuple_of pins s σ H _ us Q I rv ⟨_, _, rfl, .inr ⟨sqT_at hs, h _ _ _ .refl sr (.v (.tup hs ra))⟩⟩
  · split at h
    · rename_i es hes
      obtain ⟨v, rfl, r1⟩ := r.one
      obtain ⟨p, xs, rfl, hq, ra⟩ := sr.lsD r1 hes
      obtain ⟨es', S2, ρ2, s2, m2, r2, h2⟩ := RO.frz sr ra h
      exact call_tuple_of pins s σ H _ us Q I rv ⟨_, _, rfl, .inl ⟨hq, fun l hl => RO.tup s2 r2 h2 hl⟩⟩
    · exact h.elim
  · exact h.elim
def blsOf : List R → Option (List Bool)
  | [] => some []
  | .v (.bl b) :: r => (blsOf r).map (b :: ·)
  | _ => none
theorem rqa_bls : ∀ {xs : List V} {ds : List R} {bs : List Bool}, RqA K H ρ xs ds → blsOf ds = some bs → xs = bs.map V.bl
  | _, [], bs, r, e => by cases r; cases e; rfl
  | _, d :: ds, bs, r, e => by
    cases r with
    | cons r1 r2 =>
      cases r1 with
      | ref _ => cases e
      | v r1 =>
        cases r1 <;> first | (cases e; done) | skip
        rename_i b
        obtain ⟨cs, e1, e2⟩ := Option.map_eq_some_iff.mp (show (blsOf ds).map (b :: ·) = some bs from e)
        subst e2
        rw [rqa_bls r2 e1]
        rfl
def intsOf : List R → Option (List Int)
  | [] => some []
  | .v (.int b) :: r => (intsOf r).map (b :: ·)
  | _ => none
def strsOf : List R → Option (List Str)
  | [] => some []
  | .v (.str b) :: r => (strsOf r).map (b :: ·)
  | _ => none
theorem rqa_strs : ∀ {xs : List V} {ds : List R} {bs : List Str}, RqA K H ρ xs ds → strsOf ds = some bs → xs = bs.map V.str
  | _, [], bs, r, e => by cases r; cases e; rfl
  | _, d :: ds, bs, r, e => by
    cases r with
    | cons r1 r2 =>
      cases r1 with
      | ref _ => cases e
      | v r1 =>
        cases r1 <;> first | (cases e; done) | skip
        rename_i b
        obtain ⟨cs, e1, e2⟩ := Option.map_eq_some_iff.mp (show (strsOf ds).map (b :: ·) = some bs from e)
        subst e2
        rw [rqa_strs r2 e1]
        rfl
def biAll (ds : List R) (S : Store) : Out R := match ds with
  | [d] => match (lstOf S d).bind blsOf with
    | some bs => .ok (.bl (bs.all id)) S
    | none => .no
  | _ => .no
theorem cam_all (hc : X.calm = true) : CaM X (.builtin "all") biAll := by
  rintro pins s σ H xs us Q I rv ⟨E, ρ, S, ds, sr, r, h⟩
  unfold biAll at h
  split at h
  · split at h
    · rename_i n bs hbs
      obtain ⟨es, h1, h2⟩ := Option.bind_eq_some_iff.mp hbs
      obtain ⟨v, rfl, r1⟩ := r.one
      obtain ⟨a, xs, rfl, hq, ra⟩ := sr.lsD r1 h1
      exact cr_all hc pins s σ H _ us Q I rv ⟨_, bs, rfl, by rw [← rqa_bls ra h2]; exact hq, h _ _ _ .refl sr (.bl _)⟩
    · exact h.elim
  · exact h.elim
/-- the greatest, the least of ints (two of them, or a list) -/
def maxL : List Int → Int
  | [] => 0
  | x :: xs => xs.foldl max x
def minL : List Int → Int
  | [] => 0
  | x :: xs => xs.foldl min x
theorem foldl_min_spec : ∀ (xs : List Int) (a : Int), (xs.foldl min a = a ∨ xs.foldl min a ∈ xs) ∧ xs.foldl min a ≤ a ∧ ∀ y ∈ xs, xs.foldl min a ≤ y
  | [], a => by simp
  | x :: xs, a => by
    obtain ⟨h1, h2, h3⟩ := foldl_min_spec xs (min a x)
    simp only [List.foldl_cons, List.mem_cons]
    refine ⟨?_, by omega, fun y hy => ?_⟩
    · rcases h1 with h1 | h1
      · rw [h1]; rcases Int.le_total a x with h | h
        · exact .inl (by omega)
        · exact .inr (.inl (by omega))
      · exact .inr (.inr h1)
    · rcases hy with rfl | hy
      · omega
      · exact h3 y hy
theorem minL_spec {xs : List Int} (h : xs ≠ []) : minL xs ∈ xs ∧ ∀ y ∈ xs, minL xs ≤ y := by
  cases xs with
  | nil => exact absurd rfl h
  | cons x xs =>
    obtain ⟨h1, h2, h3⟩ := foldl_min_spec xs x
    refine ⟨?_, fun y hy => ?_⟩
    · rcases h1 with h1 | h1
      · show xs.foldl min x ∈ _; rw [h1]; simp
      · exact List.mem_cons_of_mem _ h1
    · rcases List.mem_cons.mp hy with rfl | hy
      · exact h2
      · exact h3 y hy
def biMax (ds : List R) (S : Store) : Out R := match ds with
  | [.v (.int i), .v (.int j)] => .ok (.int (if j > i then j else i)) S
  | [d] => match (lstOf S d).bind intsOf with
    | some bs => if bs ≠ [] then .ok (.int (maxL bs)) S else .no
    | none => .no
  | _ => .no
def biMin (ds : List R) (S : Store) : Out R := match ds with
  | [.v (.int i), .v (.int j)] => .ok (.int (if j < i then j else i)) S
  | [d] => match (lstOf S d).bind intsOf with
    | some bs => if bs ≠ [] then .ok (.int (minL bs)) S else .no
    | none => .no
  | _ => .no
/-- a built-in type's name -/
def tyD : D → Option String
  | .non => some "NoneType"
  | .bl _ => some "bool"
  | .int _ => some "int"
  | .str _ => some "str"
  | .tup _ => some "tuple"
  | .kl _ => some "list"
  | .lst _ => some "list"
  | .dct _ _ => some "dict"
  | .txt => some "str"
  | .kt _ => some "tuple"
  | .ty _ => none
def tyName (S : Store) : R → Option String
  | .v d => tyD d
  | .ref n => match S[n]? with
    | some (.lst _) => some "list"
    | some (.dK _) => some "dict"
    | some (.dT _) => some "dict"
    | some (.fz d) => tyD d
    | _ => none
theorem tyx_d {v : V} {d : D} {n : String} (r : Rp K H ρ v d) (e : tyD d = some n) : TyX K H v (.type n) := by
  cases r with
  | non => cases e; exact .base .non
  | bl b => cases e; exact .base (.bl b)
  | int i => cases e; exact .base (.int i)
  | str x => cases e; exact .base (.str x)
  | ty n => cases e
  | tup hs ra =>
    cases e
    exact .base (.tup hs)
  | kt hs ra =>
    cases e
    rcases hs with ⟨o, its, n, h1, h2, _⟩ | ⟨_, o, hs, _⟩
    · exact .kTuple h1 h2
    · exact .fTuple hs
  | kl hs ra =>
    cases e
    rcases hs with ⟨o, hs⟩ | ⟨o, its, n, h1, h2, _⟩
    · exact .base (.frz hs)
    · exact .kList h1 h2
  | lst hs ra => cases e; exact .base (.lst hs.2)
  | dct hz hd hl ra => cases e; exact .base (.dK hd)
  | txt x hx => cases e; exact .base (.str x)
theorem tyx_of (sr : SR K H ρ S) {v : V} {d : R} {n : String} (r : Rq K H ρ v d) (e : tyName S d = some n) : TyX K H v (.type n) := by
  cases r with
  | v r => exact tyx_d r e
  | @ref a k ea =>
    unfold tyName at e
    simp only at e
    split at e
    all_goals first | (cases e; done) | skip
    · rename_i xs hx
      cases e
      obtain ⟨u, hu, ru⟩ := sr.obj _ _ _ ea hx
      exact .base (.lst hu)
    · rename_i xs hx
      cases e
      obtain ⟨u, hu, ru⟩ := sr.obj _ _ _ ea hx
      exact .base (.dK hu)
    · rename_i xs hx
      cases e
      obtain ⟨u, hu, ru⟩ := sr.obj _ _ _ ea hx
      exact .base (.dT hu)
    · rename_i d hx
      exact tyx_d (sr.obj _ _ _ ea hx) e
def biIsi (ds : List R) (S : Store) : Out R := match ds with
  | [d, .v (.ty t)] => match (tyName S d).bind fun n => kitB n t with
    | some k => .ok (.bl k) S
    | none => .no
  | _ => .no
theorem cam_isi : CaM X (.builtin "isinstance") biIsi := by
  rintro pins s σ H xs us Q I rv ⟨E, ρ, S, ds, sr, r, h⟩
  unfold biIsi at h
  split at h
  · split at h
    · rename_i d t _ k hk
      obtain ⟨n, h1, h2⟩ := Option.bind_eq_some_iff.mp hk
      obtain ⟨v, w, rfl, r1, r2⟩ := r.two
      cases r2 with
      | v r2 =>
        cases r2
        exact call_isi pins s σ H _ us Q I rv ⟨_, _, _, _, k, rfl, .ty t, tyx_of sr r1 h1, kit_ty h2, h _ _ _ .refl sr (.bl _)⟩
    · exact h.elim
  · exact h.elim
/-- a built-in type as a value -/
theorem pm_ty {x : Str} {T : String} (hg : Gl X x) (hm : X.mg x = none) (hv : bootBuiltins x = some (.type T)) (hn : x ≠ "__name__" := by decide) (hdb : (x == ("__debug__" : Str)) = false := by decide) : PE X (.Name x pos) (tE X.K E (mC (.ty T))) :=
  pm_c (pe_bltn (v := V.ty T) hg hm hv rfl hn hdb) fun _ _ => .ty T
def tyOk (T : String) (S : Store) : R → Bool
  | .v (.str _) => T == "str"
  | .v (.kl _) => T == "list"
  | .v (.lst _) => T == "list"
  | .v _ => false
  | .ref n => match S[n]? with
    | some (.lst _) => T == "list"
    | some (.dK _) => T == "dict"
    | some (.dT _) => T == "dict"
    | some (.fz (.lst _)) => T == "list"
    | _ => false
theorem tyV_of (sr : SR K H ρ S) {T : String} {v : V} {d : R} (r : Rq K H ρ v d) (e : tyOk T S d = true) : tyV K T v H := by
  cases r with
  | v r =>
    cases r <;> first | (cases e; done) | skip
    case str => exact eq_of_beq e
    case kl hs ra => exact .inl ⟨eq_of_beq e, _, hs.sq⟩
    case lst hs ra => exact .inl ⟨eq_of_beq e, _, hs.sq⟩
  | @ref a k ea =>
    unfold tyOk at e
    simp only at e
    split at e
    all_goals first | (cases e; done) | skip
    · rename_i xs hx
      obtain ⟨u, hu, ru⟩ := sr.obj _ _ _ ea hx
      exact .inl ⟨eq_of_beq e, _, .inl (.inl hu)⟩
    · rename_i xs hx
      obtain ⟨u, hu, ru⟩ := sr.obj _ _ _ ea hx
      exact .inr (.inr (.inl ⟨eq_of_beq e, .inl ⟨_, hu⟩⟩))
    · rename_i xs hx
      obtain ⟨u, hu, ru⟩ := sr.obj _ _ _ ea hx
      exact .inr (.inr (.inl ⟨eq_of_beq e, .inr ⟨_, hu⟩⟩))
    · rename_i ds hx
      have q : Rp K H ρ (.ref a) (.lst _) := sr.obj _ _ _ ea hx
      cases q with
      | lst hs ra => exact .inl ⟨eq_of_beq e, _, hs.sq⟩
def MtMm (X : Cx) (id : String) (g : R → List R → Store → Out R) : Prop := MtR X id (rMM X.K g)
def mMeth (T : String) (g : R → List R → Store → Out R) (f : ME) (r : MA) : ME := fun m S => (f m S).bind fun d S1 => if tyOk T S1 d = true then (r m S1).bind fun ds S2 => g d ds S2 else .no
theorem pm_bm {o : Expr} {name : Str} {apos cpos : Pos} {T id : String} {g : R → List R → Store → Out R} (pa : PlainAttrs T) (slot : Slot T name id) (hty : typeOf (.builtin id) = pure (.type "method_descriptor")) (hm : MtMm X id g) (ho : PE X o (tE X.K E ma)) (ha : PA X (e :: es) (tA X.K E mr))
    (hbase : attributeBase o name X.env (eval o X.env) = eval o X.env := by rfl)
    (hfew : ((backTo cpos (starEach (e :: es) X.env)).all (fun x => !x.1) && (backToKw cpos (keywordEach [] X.env)).all (fun x => x.1.isSome)
      && decide ((e :: es).length + ([] : List Keyword).length + (if ([] : List Keyword).isEmpty then 0 else 1) < 30)) = true := by rfl)
    (hline : (apos.endLine == cpos.line) = true := by rfl) (hs : starEach (e :: es) X.env = (false, eval e X.env) :: starEach es X.env := by rfl) (hplain : (backTo cpos (starEach es X.env)).any (·.1) = false := by rfl) :
    PE X (.Call (.Attribute o name apos) (e :: es) [] cpos) (tE X.K E (mMeth T g ma mr)) := by
  refine PE.imp (pe_bm pa slot hty hm ho ha hbase hfew hline hs hplain) ?_
  rintro σ H Q ⟨ρ, m, S, sr, er, h⟩
  refine ⟨ρ, m, S, sr, er, RO.bind h fun d S1 v H1 ρ1 m1 s1 r1 h1 => ?_⟩
  split at h1
  · rename_i hk
    refine ⟨tyV_of s1 r1 hk, ρ1, m, S1, s1, er.mo m1, RO.bind h1 fun ds S2 xs H2 ρ2 m2 s2 r2 h2 => ?_⟩
    exact ⟨_, ρ2, S2, d, ds, s2, r1.mo m2, r2, h2⟩
  · exact h1.elim
/-- without arguments -/
def mMeth0 (T : String) (g : R → List R → Store → Out R) (f : ME) : ME := fun m S => (f m S).bind fun d S1 => if tyOk T S1 d = true then g d [] S1 else .no
def mtAppend (d : R) (ds : List R) (S : Store) : Out R := match d, ds with
  | .ref n, [y] => match S[n]? with
    | some (.lst xs) => if xs.length < sizeLine then .ok .non (S.set n (.lst (xs ++ [y]))) else .no
    | _ => .no
  | _, _ => .no
theorem mtm_append : MtMm X "list.append" mtAppend := by
  rintro pins s σ H x vs v us Q I rx rv ⟨E, ρ, S, d, ds, sr, rd, r, h⟩
  unfold mtAppend at h
  split at h
  · split at h
    · rename_i n y _ xs hx
      split at h
      · rename_i hz
        cases rd with
        | ref ea =>
          obtain ⟨w, rfl, r1⟩ := r.one
          obtain ⟨zs, hu, ra, hl⟩ := sr.lst ea hx
          refine (mt_append : MtR X "list.append" rAppend) pins s σ H _ _ v us Q I rx rv ⟨_, zs, w, rfl, rfl, hu, by rw [ra.length]; exact hz, ?_⟩
          have mo : Mo X.K H ρ (upd H _ (.lst (zs ++ [w]))) ρ := .set hu trivial hl
          exact h _ _ ρ mo (sr.set (mo := .lst (xs ++ [y])) ea hu trivial hl ⟨_, upd_same, (ra.append (.cons r1 .nil)).mo mo⟩) .non
      · exact h.elim
    · exact h.elim
  · exact h.elim
theorem SR.lsE2 {v : V} {y : R} {ds : List R} (sr : SR K H ρ S) (r : Rq K H ρ v y) (hk : ∀ zs, y ≠ .kl zs) (h : lstOf S y = some ds) : ∃ a xs, v = .ref a ∧ H a = some (.lst xs) ∧ RqA K H ρ xs ds := by
  cases r with
  | v r =>
    cases r <;> first | (cases h; done) | skip
    case lst hs ra => cases h; exact ⟨_, _, rfl, hs.2, ra.q⟩
    case kl hs ra => exact absurd rfl (hk _)
  | ref e =>
    obtain ⟨xs, h1, h2⟩ := sr.lsE e h
    exact ⟨_, xs, rfl, h1, h2⟩
def notKl : R → Bool
  | .v (.kl _) => false
  | _ => true
theorem notKl_of {y : R} (h : notKl y = true) : ∀ zs, y ≠ .kl zs := by
  intro zs e; subst e; cases h
theorem RqA.dropLast {vs : List V} {ds : List R} (h : RqA K H ρ vs ds) : RqA K H ρ vs.dropLast ds.dropLast := by
  rw [List.dropLast_eq_take, List.dropLast_eq_take, h.length]
  exact h.take _
/-- o[i] = x of a list -/
def setIx (x y d : R) (S : Store) : Option Store := match x, y with
  | .ref n, .v (.int k) => match S[n]? with
    | some (.lst ds) => match ixN ds.length k with
      | some j => some (S.set n (.lst (ds.set j d)))
      | none => none
    | _ => none
  | _, _ => none
theorem setIx_ok {K : PySem.W.Frag} {H : Hp} {ρ : Wd} {S S' : Store} {x y d : R} {xv yv v : V} {Q : Hp → Prop} (sr : SR K H ρ S) (rx : Rq K H ρ xv x) (ry : Rq K H ρ yv y) (rd : Rq K H ρ v d) (h : setIx x y d S = some S')
    (k : ∀ H', Mo K H ρ H' ρ → SR K H' ρ S' → Q H') : rSetL xv yv v H Q := by
  unfold setIx at h
  split at h
  · split at h
    · rename_i n z _ ds hds
      split at h
      · rename_i j hj
        cases h
        cases ry with
        | v ry =>
        cases ry
        cases rx with
        | ref ea =>
          obtain ⟨xs, hu, ra, hl⟩ := sr.lst ea hds
          have mo : Mo K H ρ (upd H _ (.lst (xs.set j v))) ρ := .set hu trivial hl
          exact ⟨_, xs, z, j, rfl, rfl, hu, by rw [ra.length]; exact hj, k _ mo (sr.set (mo := .lst (ds.set j d)) ea hu trivial hl ⟨_, upd_same, (RqA.set rd ra j).mo mo⟩)⟩
      · cases h
    · cases h
  · cases h
def mSetIx (f o i : ME) : MS := fun m S => (f m S).thenS m fun d S1 => (o m S1).thenS m fun x S2 => (i m S2).thenS m fun y S3 => match setIx x y d S3 with
  | some S4 => .nx m S4
  | none => .no
theorem psm_setIx {o i : Expr} {mo mi : ME} {p : Pos} (he : PE X e (tE X.K E ma)) (ho : PE X o (tE X.K E mo)) (hi : PE X i (tE X.K E mi)) (hs : swapsWithSole [.Subscript o i p] e pos.line X.env = pure false := by rfl) (hw : swappedStores [.Subscript o i p] e X.env = pure none := by rfl)
    (h1 : (assignEach [.Subscript o i p] X.env).map (·.2) = [assign (.Subscript o i p) X.env] := by rfl)
    (h2 : ∀ v, assign (.Subscript o i p) X.env v = (do
      let ov ← holding [v] (eval o X.env)
      let iv ← holding [v, ov] (eval i X.env)
      standAt p
      holding [v, ov, iv] (setItem ov iv v)
      release [v, ov, iv] []) := by intro _; rfl) : PS X (.Assign [.Subscript o i p] e pos) (tS X.K E (mSetIx ma mo mi)) := by
  refine PS.imp (ps_asg he (pg_sub ho hi set_list h2) hs hw h1) ?_
  rintro D σ H ⟨ρ, m, S, sr, er, h⟩
  refine ⟨ρ, m, S, sr, er, RS.bind er h fun d S1 v H1 ρ1 m1 s1 r1 e1 h1 => ?_⟩
  refine ⟨ρ1, m, S1, s1, e1, RS.bind e1 h1 fun x S2 xv H2 ρ2 m2 s2 r2 e2 h2 => ?_⟩
  refine ⟨ρ2, m, S2, s2, e2, RS.bind e2 h2 fun y S3 yv H3 ρ3 m3 s3 r3 e3 h3 => ?_⟩
  split at h3
  · rename_i S4 hS4
    exact setIx_ok s3 (r2.mo m3) r3 ((r1.mo m2).mo m3) hS4 fun H4 m4 s4 => h3 σ H4 ρ3 m4 s4 (e3.mo m4)
  · exact h3.elim
/-- o[lo:hi] = .. -/
def gSlice (to : TE) (tl th : TO) : TG := fun v σ H Q => to σ H fun o H1 => tl σ H1 fun l H2 => th σ H2 fun u H3 => ∃ p b xs ys x z, o = .ref p ∧ v = .ref b ∧ l = some x ∧ u = some z ∧ H3 p = some (.lst xs) ∧ H3 b = some (.lst ys) ∧ p ≠ b ∧
  0 ≤ x ∧ x ≤ z ∧ z ≤ xs.length ∧ xs.length + ys.length ≤ sizeLine ∧ Q σ (upd H3 p (.lst (xs.take x.toNat ++ ys ++ xs.drop z.toNat)))
theorem pg_slice {o : Expr} {lo hi : Option Expr} {p2 p : Pos} {to : TE} {tl th : TO} (ho : PE X o to) (hl : PO X lo tl) (hu : PO X hi th)
    (ha : ∀ v, assign (.Subscript o (.Slice lo hi none p2) p) X.env v = (do
      let ov ← holding [v] (eval o X.env)
      let iv ← holding [v, ov] (eval (.Slice lo hi none p2) X.env)
      standAt p
      holding [v, ov, iv] (setItem ov iv v)
      release [iv, v, ov] []) := by intro _; rfl) : PG X (.Subscript o (.Slice lo hi none p2) p) (gSlice to tl th) := by
  refine ⟨fun pins s σ H v u Q I r h => ?_⟩
  rw [ha]
  refine wpAny_bind (wpAny_holding (thn (ho.run pins s σ H _ I h) fun ov s1 ⟨x, H1, I1, r1, q1⟩ => ?_))
  refine wpAny_bind (wpAny_holding ?_)
  refine wpAny_Slice (thn (hl.run pins s1 σ H1 _ I1 q1) fun vl s2 ⟨l, H2, I2, pl, q2⟩ => thn (hu.run pins s2 σ H2 _ I2 q2) fun vu s3 ⟨w, H3, I3, pu, q3⟩ => ?_)
  rw [evalPart_none]
  refine wpAny_pure ?_
  obtain ⟨p', b, xs, ys, x', z, rfl, rfl, rfl, rfl, hp, hb, hne, h0, h1, h2, hz, q⟩ := q3
  have I4 : Inv X pins σ H3 { s3 with heap := s3.heap.push { cls := .type "slice", data := .fields #[vl, vu, .none] } } := I3.kept (t' := s3.toks) fun b ob q => Heap.get?_push_of_some _ q
  cases r1
  cases r
  refine wpAny_bind (wpAny_standAt (wpAny_bind (wpAny_holding ?_)))
  cases pl with
  | int i t =>
    cases pu with
    | int j t' =>
      refine set_slice I4 hp hb hne (Heap.IsSliceOf.new ..) ⟨t, rfl⟩ ⟨t', rfl⟩ h0 h1 h2 hz fun s' I' => ?_
      exact wpAny_release ⟨σ, _, I', q⟩
open Classical in
noncomputable def mSetSl (f o : ME) (l u : MO_) : MS := fun m S => (f m S).thenS m fun d S1 => (o m S1).thenS m fun x S2 => (l m S2).thenS m fun lo S3 => (u m S3).thenS m fun hi S4 => match x, lo, hi with
  | .ref n, some a, some c => match S4[n]?, lstOf S4 d with
    | some (.lst xs), some ys => if notKl d = true ∧ d ≠ .ref n ∧ 0 ≤ a ∧ a ≤ c ∧ c ≤ xs.length ∧ xs.length + ys.length ≤ sizeLine then .nx m (S4.set n (.lst (xs.take a.toNat ++ ys ++ xs.drop c.toNat))) else .no
    | _, _ => .no
  | _, _, _ => .no
theorem psm_setSl {o : Expr} {lo hi : Option Expr} {p2 p : Pos} {mo : ME} {ml mh : MO_} (he : PE X e (tE X.K E ma)) (ho : PE X o (tE X.K E mo)) (hl : PO X lo (tO X.K E ml)) (hu : PO X hi (tO X.K E mh))
    (hs : swapsWithSole [.Subscript o (.Slice lo hi none p2) p] e pos.line X.env = pure false := by rfl) (hw : swappedStores [.Subscript o (.Slice lo hi none p2) p] e X.env = pure none := by rfl)
    (h1 : (assignEach [.Subscript o (.Slice lo hi none p2) p] X.env).map (·.2) = [assign (.Subscript o (.Slice lo hi none p2) p) X.env] := by rfl)
    (h2 : ∀ v, assign (.Subscript o (.Slice lo hi none p2) p) X.env v = (do
      let ov ← holding [v] (eval o X.env)
      let iv ← holding [v, ov] (eval (.Slice lo hi none p2) X.env)
      standAt p
      holding [v, ov, iv] (setItem ov iv v)
      release [iv, v, ov] []) := by intro _; rfl) : PS X (.Assign [.Subscript o (.Slice lo hi none p2) p] e pos) (tS X.K E (mSetSl ma mo ml mh)) := by
  refine PS.imp (ps_asg he (pg_slice ho hl hu h2) hs hw h1) ?_
  rintro D σ H ⟨ρ, m, S, sr, er, h⟩
  refine ⟨ρ, m, S, sr, er, RS.bind er h fun d S1 v H1 ρ1 m1 s1 r1 e1 h1 => ?_⟩
  refine ⟨ρ1, m, S1, s1, e1, RS.bind e1 h1 fun x S2 xv H2 ρ2 m2 s2 r2 e2 h2 => ?_⟩
  refine ⟨ρ2, m, S2, s2, e2, RS.bind e2 h2 fun lo S3 lo' H3 ρ3 m3 s3 r3 e3 h3 => ?_⟩
  subst r3
  refine ⟨ρ3, m, S3, s3, e3, RS.bind e3 h3 fun hi S4 hi' H4 ρ4 m4 s4 r4 e4 h4 => ?_⟩
  subst r4
  split at h4
  · split at h4
    · rename_i n a c _ _ xs ys hx hy
      split at h4
      · rename_i hz
        obtain ⟨z0, z1, z2, z3, z4, z5⟩ := hz
        cases (r2.mo m3).mo m4 with
        | ref ea =>
          obtain ⟨us, hu, ra, hl⟩ := s4.lst ea hx
          have rd4 := ((r1.mo m2).mo m3).mo m4
          obtain ⟨b, ws, rfl, hb, rb⟩ := s4.lsE2 rd4 (notKl_of z0) hy
          have mo : Mo X.K H4 ρ4 (upd H4 _ (.lst (us.take a.toNat ++ ws ++ us.drop c.toNat))) ρ4 := .set hu trivial hl
          refine ⟨_, _, us, ws, a, c, rfl, rfl, rfl, rfl, hu, hb, fun z => z1 ?_, z2, z3, by rw [ra.length]; exact z4, by rw [ra.length, rb.length]; exact z5, h4 σ _ ρ4 mo (s4.set (mo := .lst (xs.take a.toNat ++ ys ++ xs.drop c.toNat)) ea hu trivial hl ⟨_, upd_same, ?_⟩) (e4.mo mo)⟩
          · subst z
            cases rd4 with
            | v rd4 =>
              cases rd4 with
              | lst hs _ => exact absurd hs.1 hl
              | kl _ _ => cases z0
              | _ => cases hy
            | ref eb => rw [nd_at s4.nd eb ea]
          · exact (((ra.take _).append rb).append (ra.drop _)).mo mo
      · exact h4.elim
    · exact h4.elim
  · exact h4.elim
def chars (x : Str) : List R := x.cps.toList.map fun c => .str ⟨#[c]⟩
def srcAny (f : ME) : MI := fun m S => (f m S).bind fun d S1 => match d with
  | .v (.tup ds) => .ok ⟨ds.map .v, []⟩ S1
  | .v (.kt ds) => .ok ⟨ds.map .v, []⟩ S1
  | .v (.lst ds) => .ok ⟨ds.map .v, []⟩ S1
  | .v (.kl ds) => .ok ⟨ds.map .v, []⟩ S1
  | .v (.str x) => .ok ⟨chars x, []⟩ S1
  | .ref n => match S1[n]? with
    | some (.lst ds) => .ok ⟨ds, [(n, .lst ds)]⟩ S1
    | some (.fz (.lst ds)) => .ok ⟨ds.map .v, []⟩ S1
    | _ => .no
  | _ => .no
theorem okSrc_kt {a : Addr} {xs : List V} {ds : List R} (hs : KTz K H ρ a xs) (ra : RqA K H ρ xs ds) : okSrc K ⟨ds, []⟩ H ρ (Itt K a) := by
  refine ⟨fun H => SqT K H a xs, YAt xs, by rw [show (⟨ds, []⟩ : Src).items.length = xs.length from ra.length.symm]; exact walk_tup, fun H2 ρ2 S2 mo _ _ => (hs.mono mo).sq, ?_⟩
  rintro i H2 x H3 ρ2 S2 hi mo sr pins ⟨rfl, y⟩
  obtain ⟨d, hd, rd⟩ := ra.get' y
  exact ⟨d, hd, .refl, sr, rd.mo mo⟩
theorem okSrc_tup {a : Addr} {xs : List V} {ds : List R} (hs : H a = some (.tup xs)) (ra : RqA K H ρ xs ds) : okSrc K ⟨ds, []⟩ H ρ (Itt K a) := by
  refine ⟨fun H => SqT K H a xs, YAt xs, by rw [show (⟨ds, []⟩ : Src).items.length = xs.length from ra.length.symm]; exact walk_tup, fun H2 ρ2 S2 mo _ _ => sqT_at (mo.tup _ _ hs), ?_⟩
  rintro i H2 x H3 ρ2 S2 hi mo s2 _ ⟨rfl, hx⟩
  obtain ⟨d, hd, r⟩ := ra.get' hx
  exact ⟨d, hd, .refl, s2, r.mo mo⟩
theorem okSrc_kl {a : Addr} {xs : List V} {ds : List R} (hs : ∀ H' ρ', Mo K H ρ H' ρ' → SqL K H' a xs) (ra : RqA K H ρ xs ds) : okSrc K ⟨ds, []⟩ H ρ (Itl K a) := by
  refine ⟨fun H => SqL K H a xs, YAt xs, by rw [show (⟨ds, []⟩ : Src).items.length = xs.length from ra.length.symm]; exact walk_list, fun H2 ρ2 S2 mo _ _ => hs _ _ mo, ?_⟩
  rintro i H2 x H3 ρ2 S2 hi mo s2 _ ⟨rfl, hx⟩
  obtain ⟨d, hd, r⟩ := ra.get' hx
  exact ⟨d, hd, .refl, s2, r.mo mo⟩
theorem okSrc_ls {a : Addr} {n : Nat} {o : MO} {ds : List R} (ea : ρ.r[n]? = some a) (ho : ∀ S : Store, S[n]? = some o → lsOf S n = some ds) : okSrc K ⟨ds, [(n, o)]⟩ H ρ (Itl K a) := by
  have w : Walk (Itl K a) ds.length (fun H => ∃ xs, SqL K H a xs ∧ xs.length = ds.length) (fun i H x H' => H' = H ∧ ∀ xs, SqL K H a xs → xs[i]? = some x) := by
    refine ⟨fun i H hi q => ?_, fun H q => ?_, fun _ _ _ _ _ _ y => y⟩
    · obtain ⟨xs, q, hl⟩ := q
      exact ⟨xs, xs[i]'(by omega), q, by simp [hl, hi]⟩
    · obtain ⟨xs, q, hl⟩ := q
      exact ⟨xs, q, by omega⟩
  refine ⟨_, _, w, fun H2 ρ2 S2 mo s2 pk => ?_, ?_⟩
  · obtain ⟨xs, q, r⟩ := s2.ls (mo.ref _ _ ea) (ho S2 pk.1)
    exact ⟨xs, q, r.length⟩
  · rintro i H2 x H3 ρ2 S2 hi mo s2 pk ⟨rfl, hx⟩
    obtain ⟨xs, q, r⟩ := s2.ls (mo.ref _ _ ea) (ho S2 pk.1)
    obtain ⟨d, hd, r'⟩ := r.get' (hx xs q)
    exact ⟨d, hd, .refl, s2, r'⟩
theorem okSrc_str {x : Str} : okSrc K ⟨chars x, []⟩ H ρ (Its x) := by
  have hl : (chars x).length = x.cps.size := by simp [chars]
  refine ⟨_, _, by rw [show (⟨chars x, []⟩ : Src).items.length = x.cps.size from hl]; exact walk_str, fun _ _ _ _ _ _ => trivial, ?_⟩
  rintro i H2 v H3 ρ2 S2 hi mo s2 _ ⟨rfl, c, hc, rfl⟩
  refine ⟨.str ⟨#[c]⟩, ?_, .refl, s2, .str _⟩
  show (x.cps.toList.map fun c => R.str ⟨#[c]⟩)[i]? = _
  rw [List.getElem?_map, Array.getElem?_toList, hc]
  rfl
theorem fzl_all {a : Addr} {xs : List V} (hs : FzL H ρ a xs) : ∀ H' ρ', Mo K H ρ H' ρ' → SqL K H' a xs := fun H' ρ' mo => (hs.mono mo).sq
theorem pim_any (he : PE X e (tE X.K E ma)) : PI X tgE e (tI X.K E (srcAny ma)) := by
  refine PI.imp (PI.or (pi_tup he) (PI.or (pi_list he) (pi_str he))) ?_
  rintro σ H R ⟨ρ, m, S, sr, er, h⟩
  unfold srcAny at h
  cases hm : ma m S with
  | no => rw [hm] at h; exact h.elim
  | exc c S1 =>
    rw [hm] at h
    refine .inl ⟨ρ, m, S, sr, er, ?_⟩
    rw [hm]
    exact h
  | ok d S1 =>
    rw [hm] at h
    cases d with
    | v d =>
      cases d with
      | tup ds =>
        refine .inl ⟨ρ, m, S, sr, er, ?_⟩
        rw [hm]
        intro v H1 ρ1 m1 s1 r1
        cases r1 with
        | v r1 =>
        cases r1 with
        | tup hs ra => exact ⟨_, rfl, ⟨_, sqT_at hs⟩, h _ H1 ρ1 m1 s1 (okSrc_tup hs ra.q)⟩
      | kt ds =>
        refine .inl ⟨ρ, m, S, sr, er, ?_⟩
        rw [hm]
        intro v H1 ρ1 m1 s1 r1
        cases r1 with
        | v r1 =>
        cases r1 with
        | kt hs ra => exact ⟨_, rfl, ⟨_, hs.sq⟩, h _ H1 ρ1 m1 s1 (okSrc_kt hs ra.q)⟩
      | kl ds =>
        refine .inr (.inl ⟨ρ, m, S, sr, er, ?_⟩)
        rw [hm]
        intro v H1 ρ1 m1 s1 r1
        cases r1 with
        | v r1 =>
        cases r1 with
        | kl hs ra => exact ⟨_, rfl, ⟨_, hs.sq⟩, h _ H1 ρ1 m1 s1 (okSrc_kl (fun H' ρ' mo => (mo.kl _ _ hs).sq) ra.q)⟩
      | lst ds =>
        refine .inr (.inl ⟨ρ, m, S, sr, er, ?_⟩)
        rw [hm]
        intro v H1 ρ1 m1 s1 r1
        cases r1 with
        | v r1 =>
        cases r1 with
        | lst hs ra => exact ⟨_, rfl, ⟨_, hs.sq⟩, h _ H1 ρ1 m1 s1 (okSrc_kl (fzl_all hs) ra.q)⟩
      | str x =>
        refine .inr (.inr ⟨ρ, m, S, sr, er, ?_⟩)
        rw [hm]
        intro v H1 ρ1 m1 s1 r1
        cases r1 with
        | v r1 =>
        cases r1
        exact ⟨_, rfl, h _ H1 ρ1 m1 s1 okSrc_str⟩
      | _ => exact h.elim
    | ref n =>
      refine .inr (.inl ⟨ρ, m, S, sr, er, ?_⟩)
      rw [hm]
      intro v H1 ρ1 m1 s1 r1
      cases r1 with
      | ref ea =>
        simp only [Out.bind_ok] at h
        split at h
        · rename_i it S' ho
          split at ho
          · rename_i ds hds
            cases ho
            obtain ⟨xs, q, r⟩ := s1.ls (ds := ds) ea (by unfold lsOf; rw [hds]; rfl)
            exact ⟨_, rfl, ⟨_, q⟩, h _ H1 ρ1 m1 s1 (okSrc_ls ea fun S hS => by unfold lsOf; rw [hS]; rfl)⟩
          · rename_i ds hds
            cases ho
            have q : Rp X.K H1 ρ1 (.ref _) (.lst ds) := s1.obj _ _ _ ea hds
            cases q with
            | lst hs ra => exact ⟨_, rfl, ⟨_, hs.sq⟩, h _ H1 ρ1 m1 s1 (okSrc_kl (fzl_all hs) ra.q)⟩
          · cases ho
        · rename_i ho
          split at ho <;> cases ho
        · exact h.elim
/-- lo, lo + 1, .. -/
def rangeD (lo : Int) (n : Nat) : List R := (List.range n).map fun (i : Nat) => .int (lo + (i : Int))
theorem okSrc_range {lo : Int} {n : Nat} : okSrc K ⟨rangeD lo n, []⟩ H ρ (Itr lo n) := by
  have hl : (rangeD lo n).length = n := by simp [rangeD]
  refine ⟨_, _, by rw [show (⟨rangeD lo n, []⟩ : Src).items.length = n from hl]; exact walk_range, fun _ _ _ _ _ _ => trivial, ?_⟩
  rintro i H2 v H3 ρ2 S2 hi mo s2 _ ⟨rfl, rfl⟩
  refine ⟨.int (lo + (i : Int)), ?_, .refl, s2, .int _⟩
  show ((List.range n).map fun (i : Nat) => R.int (lo + (i : Int)))[i]? = _
  rw [List.getElem?_map, List.getElem?_range (by rw [← hl]; exact hi)]
  rfl
/-- within 62 bits -/
@[irreducible] def rgOk (j : Int) : Bool := decide (-(2 ^ 62) ≤ j ∧ j < 2 ^ 62)
theorem rg_of {j : Int} (h0 : -(2 ^ 62) ≤ j) (h1 : j < 2 ^ 62) : rgOk j = true := by unfold rgOk; exact decide_eq_true ⟨h0, h1⟩
theorem of_rg {j : Int} (h : rgOk j = true) : -(2 ^ 62) ≤ j ∧ j < 2 ^ 62 := by unfold rgOk at h; exact of_decide_eq_true h
def rg1 (ds : List R) (S1 : Store) : Out Src := match ds with
  | [.v (.int j)] => if rgOk j = true then .ok ⟨rangeD 0 j.toNat, []⟩ S1 else .no
  | _ => .no
def srcRange1 (r : MA) : MI := fun m S => (r m S).bind rg1
def rg2 (ds : List R) (S1 : Store) : Out Src := match ds with
  | [.v (.int i), .v (.int j)] => if rgOk i = true ∧ rgOk j = true then .ok ⟨rangeD i (j - i).toNat, []⟩ S1 else .no
  | _ => .no
def srcRange2 (r : MA) : MI := fun m S => (r m S).bind rg2
/-- the source by the outcome of the arguments -/
theorem tI_of {f : MA} {g : List R → Store → Out Src} {σ : St} {R : It → Hp → Prop} {P : List V → Hp → Prop} (h : tI K E (fun m S => (f m S).bind g) σ H R)
    (k : ∀ ds S1 xs H1 ρ1, SR K H1 ρ1 S1 → RqA K H1 ρ1 xs ds → (match g ds S1 with
      | .ok it S' => ∀ J H' ρ', Mo K H1 ρ1 H' ρ' → SR K H' ρ' S' → okSrc K it H' ρ' J → R J H'
      | .exc c S' => RO K (fun _ _ (_ : Unit) (_ : Unit) => True) (E σ) H1 ρ1 (.exc c S' : Out Unit) fun _ _ => True
      | .no => False) → P xs H1) : tA K E f σ H P := by
  obtain ⟨ρ, m, S, sr, er, h⟩ := h
  refine ⟨ρ, m, S, sr, er, ?_⟩
  cases hm : f m S with
  | no => simp only [hm, Out.bind_no] at h
  | exc c S1 => simp only [hm, Out.bind_exc] at h; exact h
  | ok ds S1 =>
    simp only [hm, Out.bind_ok] at h
    intro xs H1 ρ1 m1 s1 r1
    refine k ds S1 xs H1 ρ1 s1 r1 ?_
    generalize g ds S1 = o at h ⊢
    cases o with
    | no => exact h
    | exc c S2 => exact fun dx H' ρ' mo s r => h dx H' ρ' (m1.trans mo) s r
    | ok it S2 => exact fun J H' ρ' mo s r => h J H' ρ' (m1.trans mo) s r
theorem pim_range1 {p : Pos} (hg : Gl X "range") (hm : X.mg "range" = none) (ha : PA X [a] (tA X.K E mr)) (hs : starEach [a] X.env = [(false, eval a X.env)] := by rfl) : PI X tgE (.Call (.Name "range" p) [a] [] pos) (tI X.K E (srcRange1 mr)) := by
  refine PI.imp (pi_range1 hg hm ha hs) ?_
  intro σ H R h
  refine tI_of h fun ds S1 xs H1 ρ1 s1 r1 h1 => ?_
  split at h1
  · rename_i it S' ho
    first | unfold rg1 at ho | unfold rg2 at ho
    split at ho
    · split at ho
      · rename_i hz
        cases ho
        obtain ⟨v, rfl, r2⟩ := r1.one
        cases r2 with
        | v r2 =>
        cases r2
        exact ⟨_, rfl, (of_rg hz).1, (of_rg hz).2, h1 _ H1 ρ1 .refl s1 okSrc_range⟩
      · cases ho
    · cases ho
  · rename_i ho
    first | unfold rg1 at ho | unfold rg2 at ho
    split at ho
    · split at ho <;> cases ho
    · cases ho
  · exact h1.elim
end
end M
namespace M
open PySem PySem.Spec L2
open PyProof.Rows hiding St
abbrev opLt := opCmpI fun i j => decide (i < j)
abbrev opLe := opCmpI fun i j => decide (i ≤ j)
abbrev opGt := opCmpI fun i j => decide (j < i)
abbrev opGe := opCmpI fun i j => decide (j ≤ i)
/-- so many arguments -/
def ArgN (n : Nat) (r : MA) : Prop := ∀ m S ds S', r m S = .ok ds S' → ds.length = n
theorem an_nil : ArgN 0 mNil := by
  intro m S ds S' h
  cases h; rfl
theorem an_cons {n : Nat} {a : ME} {r : MA} (h : ArgN n r) : ArgN (n + 1) (mCons a r) := by
  intro m S ds S' e
  unfold mCons at e
  cases h1 : a m S with
  | no => rw [h1] at e; cases e
  | exc c S1 => rw [h1] at e; cases e
  | ok d S1 =>
    rw [h1] at e
    simp only [Out.bind_ok] at e
    cases h2 : r m S1 with
    | no => rw [h2] at e; cases e
    | exc c S2 => rw [h2] at e; cases e
    | ok es S2 =>
      rw [h2] at e
      cases e
      exact congrArg (· + 1) (h m S1 es _ h2)
section
variable {P : Program} {w : World} {K : PySem.W.Frag} {mg : Str → Option Value} {base : Heap}
theorem FnOk.none {CX : CXT} {j n : Nat} {f : Addr} {fd : FuncData} {ps : List Str} (hn : ps.length = n) : FnOk P w K mg base CX j f fd ps (spM K n fun _ _ => .no) :=
  ⟨fun vs H Q E h => h.1.trans hn.symm, fun A outer s H args us vs Q E _ _ _ _ h => by
    obtain ⟨_, ρ, S, ds, _, _, h⟩ := h
    exact h.elim⟩
/-- the law's promise, from what its mirror answers -/
theorem law_sp {g : List R → Store → Out R} {H : Hp} {a : Addr} {ns : List Int} (hO : Only H) (hS : SqL K H a (ns.map V.int)) (h : ∃ S', g [.v (.kl (ns.map D.int))] [] = .ok (.bl true) S') : spM K 1 g [.ref a] H (fun v _ => v = .bl true) fun _ _ _ => False := by
  obtain ⟨S', h⟩ := h
  refine ⟨rfl, ⟨[], fun _ => False⟩, [], [.v (.kl (ns.map D.int))], ⟨List.nodup_nil, rfl, fun n a o e => by simp at e, fun n a o e => by simp at e, fun a h => h.elim, fun n a e => by simp at e⟩, .cons (.v (.kl ?_ RpA.ints)) .nil, ?_⟩
  · rcases hS with (hS | ⟨o, hS⟩) | hS
    · rcases hO a with z | ⟨o, xs, z⟩
      · rw [hS] at z; cases z
      · rw [hS] at z; cases z
    · exact .inl ⟨o, hS⟩
    · exact .inr hS
  · rw [h]
    intro v H' ρ' _ _ r
    cases r with
    | v r => cases r; rfl
end
noncomputable def mDefV (N : Nat) (f : MS) : List R → Store → Out R := fun ds S => (mDef N f ds S).bind (popV S)
section
variable {P : Program} {w : World} {K : PySem.W.Frag} {mg : Str → Option Value} {base : Heap}
theorem FnOk.pop {CX : CXT} {k n : Nat} {f : Addr} {fd : FuncData} {ps : List Str} {g : List R → Store → Out R} (F : FnOk P w K mg base CX k f fd ps (spM K n g)) : FnOk P w K mg base CX k f fd ps (spM K n fun ds S => (g ds S).bind (popV S)) :=
  F.imp fun vs H Q E h => by
    obtain ⟨hl, ρ, S, ds, sr, r, h⟩ := h
    exact ⟨hl, ρ, S, ds, sr, r, RO.pop sr h⟩
theorem okMV {x qual : Str} {st : Stmt} {f : Addr} {fd : FuncData} {N ps : List Str} {k n : Nat} {g : MS} (F : Fun K x qual st f fd) (S : FnScope N ps (defScope st)) (hn : ps.length = n)
    (h : ∀ (cdv : Value) (A : Around) (outer : List PySem.Env) (s : Shared) (H : Hp) (E : XK), Room k (A.deeper (envOfC qual (defScope st) s.heap.objs.size f cdv)) → PSs (cxOf CX0 P w K mg base N qual (defScope st) f cdv A outer s H E).nox (defBody st) (tS K E0' g)) :
    FnOk P w K mg base CX0 (k + 1) f fd ps (spM K n (mDefV N.length g)) := FnOk.pop (okM F S hn h)
end
/-- y = [..] by value -/
noncomputable def mSetP (i : Nat) (f : ME) : MS := fun m S => if i < m.length then mSet i (mPop f) m S else .no
theorem psm_pop {X : Cx} {E : St → XK} {st : Stmt} {i : Nat} {f : ME} (h : PS X st (tS X.K E (mSet i f))) : PS X st (tS X.K E (mSetP i f)) := by
  refine PS.imp h ?_
  rintro D σ H ⟨ρ, m, S, sr, er, h⟩
  refine ⟨ρ, m, S, sr, er, ?_⟩
  unfold mSetP at h
  split at h
  case isFalse => exact h.elim
  rename_i hi
  have h : RS X.K E H ρ (((f m S).bind fun r S' => popV S r S').thenS m fun d S1 => .nx (m.set i (some d)) S1) D := h
  show RS X.K E H ρ ((f m S).thenS m fun d S1 => .nx (m.set i (some d)) S1) D
  generalize f m S = o at h ⊢
  cases o with
  | no => exact h
  | exc c S1 => exact h
  | ok d S1 =>
    intro σ' H' ρ' mo s e
    have h : RS X.K E H ρ ((popV S d S1).thenS m fun d S1 => .nx (m.set i (some d)) S1) D := h
    unfold popV at h
    split at h
    · rename_i p hp
      obtain ⟨v, e1, e2⟩ := e.get i d (by rw [List.getElem?_set_self hi])
      obtain ⟨z', s1, m1, r1⟩ := frz_ok 8 S1 _ p.1 p.2 ρ' v hp s e2
      obtain ⟨r', s2, m2⟩ := sr.cut (mo.trans m1) s1
      refine h σ' H' _ m2 s2 ⟨by rw [List.length_set]; have := e.len; rwa [List.length_set] at this, fun j d' hj => ?_⟩
      by_cases hij : i = j
      · subst hij
        rw [List.getElem?_set_self hi] at hj
        cases hj
        exact ⟨v, e1, .v (Rp.zz _ _ r1)⟩
      · rw [List.getElem?_set_ne hij] at hj
        have e3 : (m.set i (some d))[j]? = some (some d') := by rw [List.getElem?_set_ne hij]; exact hj
        obtain ⟨v', e4, e5⟩ := e.get j d' e3
        obtain ⟨v0, e6, e7⟩ := er.get j d' hj
        refine ⟨v', e4, ?_⟩
        cases d' with
        | v d' =>
          cases e5 with
          | v e5 => exact .v (Rp.zz _ _ (e5.mo m1))
        | ref n =>
          cases e5 with
          | ref ea =>
            cases e7 with
            | ref eb =>
              have := m2.ref n _ eb
              have q := mo.ref n _ eb
              rw [ea] at q
              cases q
              exact .ref this
    · exact h.elim
theorem bb_len : bootBuiltins "len" = some (.builtin "len") := by decide +kernel
theorem bb_abs : bootBuiltins "abs" = some (.builtin "abs") := by decide +kernel
theorem bb_isinstance : bootBuiltins "isinstance" = some (.builtin "isinstance") := by decide +kernel
theorem bb_all : bootBuiltins "all" = some (.builtin "all") := by decide +kernel
theorem bb_sorted : bootBuiltins "sorted" = some (.builtin "sorted") := by decide +kernel
theorem bb_int : bootBuiltins "int" = some (.type "int") := by decide +kernel
theorem bb_list : bootBuiltins "list" = some (.type "list") := by decide +kernel
theorem bb_tuple : bootBuiltins "tuple" = some (.type "tuple") := by decide +kernel
theorem bb_str : bootBuiltins "str" = some (.type "str") := by decide +kernel
end M
namespace M
open PySem hiding Env
open L2
section
variable {a b c : ME} {f g : MS} {t u : MT} {r : MA} {m m' : Env} {S S' S1 S2 : Store} {d e : R}
@[simp] theorem onBl_bl {α : Type} (k : Bool) (f : Bool → Out α) : onBl (.v (.bl k)) f = f k := id rfl
@[simp] theorem mFor_eq (src : MI) (tg : TgM) (body : MS) : mFor src tg body m S = (src m S).thenS m fun it S1 => mForGo it.pins tg body it.items m S1 := id rfl
@[simp] theorem srcRange1_eq : srcRange1 r m S = (r m S).bind rg1 := id rfl
@[simp] theorem srcRange2_eq : srcRange2 r m S = (r m S).bind rg2 := id rfl
theorem rg1_int {j : Int} (h0 : 0 ≤ j) (h1 : j < 2 ^ 62) : rg1 [.v (.int j)] S = .ok ⟨rangeD 0 j.toNat, []⟩ S := if_pos (rg_of (by omega) h1)
theorem srcAny_eq : srcAny a m S = (a m S).bind fun d S1 => match d with
  | .v (.tup ds) => .ok ⟨ds.map .v, []⟩ S1
  | .v (.kt ds) => .ok ⟨ds.map .v, []⟩ S1
  | .v (.lst ds) => .ok ⟨ds.map .v, []⟩ S1
  | .v (.kl ds) => .ok ⟨ds.map .v, []⟩ S1
  | .v (.str x) => .ok ⟨chars x, []⟩ S1
  | .ref n => match S1[n]? with
    | some (.lst ds) => .ok ⟨ds, [(n, .lst ds)]⟩ S1
    | some (.fz (.lst ds)) => .ok ⟨ds.map .v, []⟩ S1
    | _ => .no
  | _ => .no := id rfl
@[simp] theorem onII_int {α : Type} (i j : Int) (f : Int → Int → Out α) : onII (.v (.int i)) (.v (.int j)) f = f i j := id rfl
@[simp] theorem mVar_eq (i : Nat) : mVar i m S = match m[i]? with | some (some d) => .ok d S | _ => .no := id rfl
@[simp] theorem mC_eq : mC d m S = .ok d S := id rfl
@[simp] theorem mBin_eq (op : R → R → Store → Out R) : mBin op a b m S = (a m S).bind fun x S1 => (b m S1).bind fun y S2 => op x y S2 := id rfl
@[simp] theorem mUn_eq (op : R → Store → Out R) : mUn op a m S = (a m S).bind fun x S1 => op x S1 := id rfl
@[simp] theorem mNil_eq : mNil m S = .ok [] S := id rfl
@[simp] theorem mCons_eq : mCons a r m S = (a m S).bind fun d S1 => (r m S1).bind fun ds S2 => .ok (d :: ds) S2 := id rfl
@[simp] theorem mCall_eq (F : List R → Store → Out R) : mCall F r m S = (r m S).bind F := id rfl
@[simp] theorem mTup_eq : mTup r m S = (r m S).bind fun rs S1 => frzO S1 rs fun ds S2 => if ds.length ≤ sizeLine then .ok (.v (.tup ds)) S2 else .no := id rfl
@[simp] theorem mLst_eq : mLst r m S = (r m S).bind fun ds S1 => if ds.length ≤ sizeLine then .ok (.ref S1.length) (S1 ++ [.lst ds]) else .no := id rfl
@[simp] theorem mLstV_eq : mLstV r m S = (r m S).bind fun rs S1 => frzO S1 rs fun ds S2 => if ds.length ≤ sizeLine then .ok (.v (.lst ds)) S2 else .no := id rfl
@[simp] theorem mIf_eq : mIf t a b m S = (t m S).bind fun k S1 => match k with | true => a m S1 | false => b m S1 := id rfl
@[simp] theorem mAnd_eq : mAnd a b m S = (a m S).bind fun k S1 => onBl k fun k => match k with | true => b m S1 | false => .ok (.v (.bl false)) S1 := id rfl
@[simp] theorem mOr_eq : mOr a b m S = (a m S).bind fun k S1 => onBl k fun k => match k with | true => .ok (.v (.bl true)) S1 | false => b m S1 := id rfl
@[simp] theorem mNot_eq : mNot a m S = (a m S).bind fun k S1 => onBl k fun k => .ok (.v (.bl (!k))) S1 := id rfl
@[simp] theorem mtB_eq : mtB a m S = (a m S).bind fun d S1 => onBl d fun k => .ok k S1 := id rfl
@[simp] theorem mtTru_eq : mtTru a m S = (a m S).bind truM := id rfl
@[simp] theorem mtAnd_eq : mtAnd t u m S = (t m S).bind fun k S1 => match k with | true => u m S1 | false => .ok false S1 := id rfl
@[simp] theorem mtOr_eq : mtOr t u m S = (t m S).bind fun k S1 => match k with | true => .ok true S1 | false => u m S1 := id rfl
@[simp] theorem mtNot_eq : mtNot t m S = (t m S).bind fun k S1 => .ok (!k) S1 := id rfl
@[simp] theorem mtYes_eq : mtYes m S = .ok true S := id rfl
@[simp] theorem mMeth_eq (T : String) (F : R → List R → Store → Out R) : mMeth T F a r m S = (a m S).bind fun d S1 => if tyOk T S1 d = true then (r m S1).bind fun ds S2 => F d ds S2 else .no := id rfl
@[simp] theorem mMeth0_eq (T : String) (F : R → List R → Store → Out R) : mMeth0 T F a m S = (a m S).bind fun d S1 => if tyOk T S1 d = true then F d [] S1 else .no := id rfl
@[simp] theorem mSl_eq (l h : MO_) : mSl a l h m S = (a m S).bind fun d S1 => (l m S1).bind fun lo S2 => (h m S2).bind fun hi S3 => opSl d lo hi S3 := id rfl
@[simp] theorem moN_eq : moN m S = .ok none S := id rfl
theorem moS_eq : moS a m S = (a m S).bind fun d S1 => match d with | .v (.int i) => .ok (some i) S1 | _ => .no := id rfl
@[simp] theorem moS_int {i : Int} (h : a m S = .ok (.v (.int i)) S1) : moS a m S = .ok (some i) S1 := by rw [moS_eq, h]; rfl
@[simp] theorem mChain_eq (p q : R → R → Store → Out R) : mChain p q a b c m S = (a m S).bind fun x S1 => (b m S1).bind fun y S2 => (p x y S2).bind fun z S3 => onBl z fun k => match k with
  | true => (c m S3).bind fun w S4 => q y w S4
  | false => .ok (.v (.bl false)) S3 := id rfl
@[simp] theorem mPop_eq : mPop a m S = (a m S).bind fun r S' => popV S r S' := id rfl
@[simp] theorem thenS_ok {α : Type} (x : α) (F : α → Store → OutS) : (Out.ok x S).thenS m F = F x S := id rfl
@[simp] theorem mSkip_eq : mSkip m S = .nx m S := id rfl
@[simp] theorem mSeq_eq : mSeq f g m S = match f m S with | .nx m' S' => g m' S' | o => o := id rfl
@[simp] theorem mBrk_eq : mBrk m S = .bk m S := id rfl
@[simp] theorem mCnt_eq : mCnt m S = .ct m S := id rfl
@[simp] theorem mDrop_eq : mDrop a m S = (a m S).thenS m fun _ S1 => .nx m S1 := id rfl
@[simp] theorem mRet_eq : mRet a m S = (a m S).thenS m fun d S1 => .rt d S1 := id rfl
@[simp] theorem mRetN_eq : mRetN m S = .rt (.v .non) S := id rfl
@[simp] theorem mIfS_eq : mIfS t f g m S = (t m S).thenS m fun k S1 => match k with | true => f m S1 | false => g m S1 := id rfl
@[simp] theorem mSet_eq (i : Nat) : mSet i a m S = (a m S).thenS m fun d S1 => .nx (m.set i (some d)) S1 := id rfl
theorem mSetP_eq (i : Nat) : mSetP i a m S = if i < m.length then mSet i (mPop a) m S else .no := id rfl
@[simp] theorem mSetP_lt (i : Nat) (h : i < m.length) : mSetP i a m S = mSet i (mPop a) m S := if_pos h
@[simp] theorem mPar_eq (i j : Nat) : mPar i j a b m S = (a m S).thenS m fun x S1 => (b m S1).thenS m fun y S2 => .nx ((m.set i (some x)).set j (some y)) S2 := id rfl
@[simp] theorem mAug_eq (i : Nat) (op : R → R → Store → Out R) : mAug i op a m S = (mVar i m S).thenS m fun x S0 => (a m S0).thenS m fun y S1 => (op x y S1).thenS m fun z S2 => .nx (m.set i (some z)) S2 := id rfl
@[simp] theorem mAsg_eq (t : TgM) : mAsg t a m S = (a m S).thenS m fun d S1 => match t d m with | some m' => .nx m' S1 | none => .no := id rfl
@[simp] theorem tgN_eq (i : Nat) : tgN i d m = some (m.set i (some d)) := id rfl
@[simp] theorem tgT_tup (ts : List TgM) (ds : List D) : tgT ts (.v (.tup ds)) m = bindAll ts (ds.map .v) m := id rfl
@[simp] theorem bindAll_nil : bindAll [] [] m = some m := id rfl
@[simp] theorem bindAll_cons (t : TgM) (ts : List TgM) (ds : List R) : bindAll (t :: ts) (d :: ds) m = (t d m).bind fun m' => bindAll ts ds m' := id rfl
@[simp] theorem mSetIx_eq : mSetIx a b c m S = (a m S).thenS m fun d S1 => (b m S1).thenS m fun x S2 => (c m S2).thenS m fun y S3 => match setIx x y d S3 with
  | some S4 => .nx m S4
  | none => .no := id rfl
theorem mDef_rt {N : Nat} {f : MS} {ds : List R} {S S' : Store} {d : R} (h : f (ds.map some ++ List.replicate (N - ds.length) none) S = .rt d S') : mDef N f ds S = .ok d S' := by
  unfold mDef; rw [h]
@[simp] theorem popV_v (S S' : Store) (d : D) : popV S (.v d) S' = .ok (.v d) (cut S S') := by unfold popV; rw [frz_v]
theorem popV_ref {S S' : Store} {n : Nat} {ds : List D} (h : S'[n]? = some (.lst (ds.map .v))) : popV S (.ref n) S' = .ok (.v (.lst ds)) (cut S (S'.set n (.fz (.lst ds)))) := by unfold popV; rw [frz_ref h]
@[simp] theorem cut_self' (S : Store) : cut S S = S := cut_self S
@[simp] theorem cut_app' (S t : Store) : cut S (S ++ t) = S := cut_app t (.refl S)
theorem set_len (S : Store) (c x : MO) (cs : Store) : (S ++ c :: cs).set S.length x = S ++ x :: cs := by
  rw [List.set_append_right _ _ (Nat.le_refl _), Nat.sub_self]; rfl
theorem get_len (S : Store) (c : MO) (cs : Store) : (S ++ c :: cs)[S.length]? = some c := by
  rw [List.getElem?_append_right (Nat.le_refl _), Nat.sub_self]; rfl
/-- a new list, by value -/
theorem popV_new (S : Store) (ds : List D) : popV S (.ref S.length) (S ++ [.lst (ds.map .v)]) = .ok (.v (.lst ds)) S := by
  rw [popV_ref (get_len S _ [])]
  rw [set_len, cut_app']
theorem popV_newU {S T : Store} (ds : List D) (hu : Upd S T) : popV S (.ref T.length) (T ++ [.lst (ds.map .v)]) = .ok (.v (.lst ds)) T := by
  rw [popV_ref (get_len T _ [])]
  rw [set_len, cut_app _ hu]
theorem mDefV_rt {N : Nat} {f : MS} {ds : List R} {S S' : Store} {d : R} {o : Out R} (h : f (ds.map some ++ List.replicate (N - ds.length) none) S = .rt d S') (h2 : popV S d S' = o) : mDefV N f ds S = o := by
  unfold mDefV; rw [mDef_rt h]; exact h2
theorem mDefV_rt0 {N : Nat} {f : MS} {ds : List R} {S : Store} {d : D} (h : f (ds.map some ++ List.replicate (N - ds.length) none) S = .rt (.v d) S) : mDefV N f ds S = .ok (.v d) S :=
  mDefV_rt h (by rw [popV_v, cut_self])
theorem mDefV_rtG {N : Nat} {f : MS} {ds : List R} {S T : Store} {d : D} (t : Store) (h : f (ds.map some ++ List.replicate (N - ds.length) none) S = .rt (.v d) (T ++ t)) (hu : Upd S T) : mDefV N f ds S = .ok (.v d) T :=
  mDefV_rt h (by rw [popV_v, cut_app t hu])
theorem mDefV_rtL {N : Nat} {f : MS} {ds : List R} {S T : Store} {n : Nat} {xs : List D} (t : Store) (h : f (ds.map some ++ List.replicate (N - ds.length) none) S = .rt (.ref n) (T ++ t)) (hn : (T ++ t)[n]? = some (.lst (xs.map .v))) (hT : T.length ≤ n) (hu : Upd S T) : mDefV N f ds S = .ok (.v (.lst xs)) T :=
  mDefV_rt h (by
    rw [popV_ref hn, List.set_append_right _ _ hT, cut_app _ hu])
theorem mDefV_rtU {N : Nat} {f : MS} {ds : List R} {S T : Store} {d : D} (h : f (ds.map some ++ List.replicate (N - ds.length) none) S = .rt (.v d) T) (hu : Upd S T) : mDefV N f ds S = .ok (.v d) T :=
  mDefV_rt h (by rw [popV_v, cut_upd hu])
theorem mSeq_nx {f g : MS} {m m' : Env} {S S' : Store} (h : f m S = .nx m' S') : mSeq f g m S = g m' S' := by rw [mSeq_eq, h]
end
section
variable {S : Store} {n : Nat} {o x y : MO}
theorem lt_of_get (h : S[n]? = some o) : n < S.length := (List.getElem?_eq_some_iff.mp h).1
theorem get_old (h : S[n]? = some o) (cs : Store) : (S ++ cs)[n]? = some o := by rw [List.getElem?_append_left (lt_of_get h), h]
theorem set_old (h : S[n]? = some o) (cs : Store) (x : MO) : (S ++ cs).set n x = S.set n x ++ cs := by rw [List.set_append_left _ _ (lt_of_get h)]
theorem get_ne {S : Store} {n w : Nat} (h : n ≠ w) (c : MO) : (S.set n c)[w]? = S[w]? := List.getElem?_set_ne h
theorem get_set (h : S[n]? = some o) (x : MO) : (S.set n x)[n]? = some x := by rw [List.getElem?_set_self (lt_of_get h)]
@[simp] theorem get_at0 (c : MO) (cs : Store) : (S ++ c :: cs)[S.length]? = some c := get_len S c cs
@[simp] theorem set_at0 (c x : MO) (cs : Store) : (S ++ c :: cs).set S.length x = S ++ x :: cs := set_len S c x cs
@[simp] theorem get_at1 (b c : MO) (cs : Store) : (S ++ b :: c :: cs)[S.length + 1]? = some c := by
  rw [List.getElem?_append_right (by omega), Nat.add_sub_cancel_left]; rfl
@[simp] theorem set_at1 (b c x : MO) (cs : Store) : (S ++ b :: c :: cs).set (S.length + 1) x = S ++ b :: x :: cs := by
  rw [List.set_append_right _ _ (by omega), Nat.add_sub_cancel_left]; rfl
@[simp] theorem get_at2 (a b c : MO) (cs : Store) : (S ++ a :: b :: c :: cs)[S.length + 2]? = some c := by
  rw [List.getElem?_append_right (by omega), Nat.add_sub_cancel_left]; rfl
@[simp] theorem set_at2 (a b c x : MO) (cs : Store) : (S ++ a :: b :: c :: cs).set (S.length + 2) x = S ++ a :: b :: x :: cs := by
  rw [List.set_append_right _ _ (by omega), Nat.add_sub_cancel_left]; rfl
@[simp] theorem get_at3 (z a b c : MO) (cs : Store) : (S ++ z :: a :: b :: c :: cs)[S.length + 3]? = some c := by
  rw [List.getElem?_append_right (by omega), Nat.add_sub_cancel_left]; rfl
@[simp] theorem set_at3 (z a b c x : MO) (cs : Store) : (S ++ z :: a :: b :: c :: cs).set (S.length + 3) x = S ++ z :: a :: b :: x :: cs := by
  rw [List.set_append_right _ _ (by omega), Nat.add_sub_cancel_left]; rfl
@[simp] theorem set_get (h : S[n]? = some o) : S.set n o = S := by
  obtain ⟨hl, e⟩ := List.getElem?_eq_some_iff.mp h
  rw [← e]
  exact List.set_getElem_self hl
@[simp] theorem upd_refl : Upd S S ↔ True := ⟨fun _ => trivial, fun _ => .refl S⟩
theorem lo_lst (ds : List D) (k : Nat) : (MO.lst (ds.map .v)).lo k := by
  intro r hr
  obtain ⟨d, _, rfl⟩ := List.mem_map.mp hr
  trivial
theorem upd_set (n : Nat) {c : MO} (hc : c.lo S.length) : Upd S (S.set n c) := (Upd.refl S).set hc
end
section
variable {S : Store}
@[simp] theorem view_v' (d : D) : view S (.v d) = some d := view_v S d
@[simp] theorem opAdd_int (i j : Int) : opAdd (.v (.int i)) (.v (.int j)) S = .ok (.v (.int (i + j))) S := id rfl
theorem opAdd_str {x y : Str} (h : x.length + y.length ≤ sizeLine) : opAdd (.v (.str x)) (.v (.str y)) S = .ok (.v (.str (x ++ y))) S := if_pos h
theorem opAdd_lst {x y : List D} (h : x.length + y.length ≤ sizeLine) : opAdd (.v (.lst x)) (.v (.lst y)) S = .ok (.ref S.length) (S ++ [.lst (x.map .v ++ y.map .v)]) := if_pos h
@[simp] theorem lsOf_lst {n : Nat} {ds : List R} (h : S[n]? = some (.lst ds)) : lsOf S n = some ds := by unfold lsOf; rw [h]; rfl
@[simp] theorem opSub_int (i j : Int) : opSub (.v (.int i)) (.v (.int j)) S = .ok (.v (.int (i - j))) S := id rfl
theorem opMul_int {i j : Int} (h1 : i.natAbs < smLine) (h2 : j.natAbs < smLine) : opMul (.v (.int i)) (.v (.int j)) S = .ok (.v (.int (i * j))) S := if_pos (.inl ⟨h1, h2⟩)
theorem opFdiv_int {i j : Int} (h1 : 0 < j) (h2 : j.natAbs < dvLine) : opFdiv (.v (.int i)) (.v (.int j)) S = .ok (.v (.int (i / j))) S := if_pos ⟨h1, h2⟩
theorem opMod_int {i j : Int} (h1 : 0 < j) : opMod (.v (.int i)) (.v (.int j)) S = .ok (.v (.int (i % j))) S := if_pos h1
@[simp] theorem opNeg_int (i : Int) : opNeg (.v (.int i)) S = .ok (.v (.int (-i))) S := id rfl
@[simp] theorem opIadd_int (i j : Int) : opIadd (.v (.int i)) (.v (.int j)) S = .ok (.v (.int (i + j))) S := id rfl
@[simp] theorem opCmpI_int (p : Int → Int → Bool) (i j : Int) : opCmpI p (.v (.int i)) (.v (.int j)) S = .ok (.v (.bl (p i j))) S := id rfl
theorem sm64 {i : Int} (h : i.natAbs < 2 ^ 64) : i.natAbs < smLine := sm_lt 64 h (by decide)
theorem dv64 {i : Int} (h : i.natAbs < 2 ^ 64) : i.natAbs < dvLine := dv_lt 64 h (by decide)
theorem shaped_int (i : Int) : SeqAt.shaped (.int i) = true := by simp [SeqAt.shaped, PyData.canLay0, PyData.depth]
theorem shaped_bool (i : Bool) : SeqAt.shaped (.bool i) = true := by simp [SeqAt.shaped, PyData.canLay0, PyData.depth]
theorem shaped_none : SeqAt.shaped .none = true := by simp [SeqAt.shaped, PyData.canLay0, PyData.depth]
theorem shaped_str {x : Str} (h : x.cps.all (· < 0x110000) = true) : SeqAt.shaped (.str x) = true := by simp [SeqAt.shaped, PyData.canLay0, PyData.depth, PyData.strOk, h]
@[simp] theorem pyS_int (i : Int) : D.pyS (.int i) = some (.int i) := by simp [D.pyS, D.py, shaped_int]
@[simp] theorem pyS_bl (i : Bool) : D.pyS (.bl i) = some (.bool i) := by simp [D.pyS, D.py, shaped_bool]
@[simp] theorem pyS_non : D.pyS .non = some .none := by simp [D.pyS, D.py, shaped_none]
theorem pyS_str {x : Str} (h : x.cps.all (· < 0x110000) = true) : D.pyS (.str x) = some (.str x) := by simp [D.pyS, D.py, shaped_str h]
@[simp] theorem pyOf_v (d : D) : pyOf S (.v d) = d.pyS := by simp [pyOf]
@[simp] theorem opEq_int (i j : Int) : opEq (.v (.int i)) (.v (.int j)) S = .ok (.v (.bl (i == j))) S := by simp [opEq, PyData.eqv]
@[simp] theorem opNe_int (i j : Int) : opNe (.v (.int i)) (.v (.int j)) S = .ok (.v (.bl (!(i == j)))) S := by simp [opNe, PyData.eqv]
@[simp] theorem opEq_bl (i j : Bool) : opEq (.v (.bl i)) (.v (.bl j)) S = .ok (.v (.bl (i == j))) S := by simp [opEq, PyData.eqv]
@[simp] theorem opNe_bl (i j : Bool) : opNe (.v (.bl i)) (.v (.bl j)) S = .ok (.v (.bl (!(i == j)))) S := by simp [opNe, PyData.eqv]
/-- data that == walks: what it is, that it is of the form -/
theorem opEq_py {d e : D} {p q : PyData} (h1 : d.pyS = some p) (h2 : e.pyS = some q) : opEq (.v d) (.v e) S = .ok (.v (.bl (PyData.eqv p q))) S := by simp [opEq, h1, h2]
theorem opNe_py {d e : D} {p q : PyData} (h1 : d.pyS = some p) (h2 : e.pyS = some q) : opNe (.v d) (.v e) S = .ok (.v (.bl (!PyData.eqv p q))) S := by simp [opNe, h1, h2]
@[simp] theorem truM_bl (b : Bool) : truM (.v (.bl b)) S = .ok b S := id rfl
@[simp] theorem truM_int (b : Int) : truM (.v (.int b)) S = .ok (b != 0) S := id rfl
@[simp] theorem truM_non : truM (.v .non) S = .ok false S := id rfl
@[simp] theorem truM_tup (ds : List D) : truM (.v (.tup ds)) S = .ok (!ds.isEmpty) S := id rfl
@[simp] theorem opIs_non (d : R) : opIs d (.v .non) S = .ok (.v (.bl (isNon d))) S := id rfl
@[simp] theorem opIsNot_non (d : R) : opIsNot d (.v .non) S = .ok (.v (.bl (!(isNon d)))) S := id rfl
@[simp] theorem opIs_bl (a b : Bool) : opIs (.v (.bl a)) (.v (.bl b)) S = .ok (.v (.bl (decide (a = b)))) S := id rfl
@[simp] theorem opIsNot_bl (a b : Bool) : opIsNot (.v (.bl a)) (.v (.bl b)) S = .ok (.v (.bl (!decide (a = b)))) S := id rfl
theorem atI_lt {α : Type} {xs : List α} {i : Int} (h0 : 0 ≤ i) : atI xs i = xs[i.toNat]? := by
  unfold atI ixN
  rw [if_pos h0]
  by_cases h : i < (xs.length : Int)
  · rw [if_pos h]; rfl
  · rw [if_neg h, List.getElem?_eq_none (by omega)]; rfl
theorem atI_neg {α : Type} {xs : List α} {i : Int} (h0 : i < 0) (h1 : -i ≤ xs.length) : atI xs i = xs[(i + xs.length).toNat]? := by
  unfold atI ixN
  rw [if_neg (by omega), if_pos (by omega)]
  rfl
theorem atI_map {α β : Type} (f : α → β) (xs : List α) (i : Int) : atI (xs.map f) i = (atI xs i).map f := by
  unfold atI
  rw [List.length_map]
  cases ixN xs.length i with
  | none => rfl
  | some j => simp
theorem atI_some {α : Type} {xs : List α} {i : Int} (h0 : 0 ≤ i) (h : i < xs.length) : ∃ d, atI xs i = some d ∧ d ∈ xs := by
  rw [atI_lt h0]
  have : i.toNat < xs.length := by omega
  exact ⟨xs[i.toNat], List.getElem?_eq_getElem this, List.getElem_mem _⟩
theorem opIx_tup {ds : List D} {i : Int} {d : D} (h : atI ds i = some d) : opIx (.v (.tup ds)) (.v (.int i)) S = .ok (.v d) S := by
  simp [opIx, seqOf, atI_map, h]
theorem opIx_lst {ds : List D} {i : Int} {d : D} (h : atI ds i = some d) : opIx (.v (.lst ds)) (.v (.int i)) S = .ok (.v d) S := by
  simp [opIx, seqOf, atI_map, h]
theorem opIx_kl {ds : List D} {i : Int} {d : D} (h : atI ds i = some d) : opIx (.v (.kl ds)) (.v (.int i)) S = .ok (.v d) S := by
  simp [opIx, seqOf, atI_map, h]
theorem opIx_ref {n : Nat} {ds : List R} {i : Int} {d : R} (h : S[n]? = some (.lst ds)) (h2 : atI ds i = some d) : opIx (.ref n) (.v (.int i)) S = .ok d S := by
  simp [opIx, seqOf, lsOf_lst h, h2]
theorem opIx_str {x : Str} {i : Int} {c : Nat} (h : x.length ≤ sizeLine) (h2 : atI x.cps.toList i = some c) : opIx (.v (.str x)) (.v (.int i)) S = .ok (.v (.str ⟨#[c]⟩)) S := by
  simp [opIx, h, h2]
/-- written places of written sequences -/
@[simp] theorem atI_0 {α : Type} (a : α) (xs : List α) : atI (a :: xs) 0 = some a := by rw [atI_lt (by decide)]; rfl
@[simp] theorem atI_1 {α : Type} (a b : α) (xs : List α) : atI (a :: b :: xs) 1 = some b := by rw [atI_lt (by decide)]; rfl
@[simp] theorem atI_2 {α : Type} (a b c : α) (xs : List α) : atI (a :: b :: c :: xs) 2 = some c := by rw [atI_lt (by decide)]; rfl
@[simp] theorem atI_3 {α : Type} (a b c d : α) (xs : List α) : atI (a :: b :: c :: d :: xs) 3 = some d := by rw [atI_lt (by decide)]; rfl
theorem ixN_lt0 {n : Nat} {k : Int} (h0 : 0 ≤ k) (h1 : k < n) : ixN n k = some k.toNat := by unfold ixN; rw [if_pos h0, if_pos h1]
theorem setIx_ref {n : Nat} {ds : List R} {k : Int} {d : R} (h : S[n]? = some (.lst ds)) (h0 : 0 ≤ k) (h1 : k < ds.length) : setIx (.ref n) (.v (.int k)) d S = some (S.set n (.lst (ds.set k.toNat d))) := by
  unfold setIx; simp only [h, ixN_lt0 h0 h1]
@[simp] theorem frzO_nil {α : Type} (f : List D → Store → Out α) : frzO S [] f = f [] S := by simp [frzO, frzA]
theorem frzO_vs {α : Type} (ds : List D) (f : List D → Store → Out α) : frzO S (ds.map .v) f = f ds S := by simp [frzO, frzA_map]
@[simp] theorem frzO_1 {α : Type} (a : D) (f : List D → Store → Out α) : frzO S [.v a] f = f [a] S := frzO_vs [a] f
@[simp] theorem frzO_2 {α : Type} (a b : D) (f : List D → Store → Out α) : frzO S [.v a, .v b] f = f [a, b] S := frzO_vs [a, b] f
@[simp] theorem frzO_3 {α : Type} (a b c : D) (f : List D → Store → Out α) : frzO S [.v a, .v b, .v c] f = f [a, b, c] S := frzO_vs [a, b, c] f
@[simp] theorem frzO_4 {α : Type} (a b c d : D) (f : List D → Store → Out α) : frzO S [.v a, .v b, .v c, .v d] f = f [a, b, c, d] S := frzO_vs [a, b, c, d] f
@[simp] theorem frzO_5 {α : Type} (a b c d e : D) (f : List D → Store → Out α) : frzO S [.v a, .v b, .v c, .v d, .v e] f = f [a, b, c, d, e] S := frzO_vs [a, b, c, d, e] f
@[simp] theorem frzO_6 {α : Type} (a b c d e g : D) (f : List D → Store → Out α) : frzO S [.v a, .v b, .v c, .v d, .v e, .v g] f = f [a, b, c, d, e, g] S := frzO_vs [a, b, c, d, e, g] f
theorem sz_of {n : Nat} (h : n ≤ 16777216) : n ≤ sizeLine := by rw [sizeLine_eq]; exact h
theorem sz_lt {n : Nat} (h : n < 16777216) : n < sizeLine := by rw [sizeLine_eq]; exact h
@[simp] theorem sz0 : (0 ≤ sizeLine) = True := by simp
@[simp] theorem sz1 : (1 ≤ sizeLine) = True := eq_true (sz_of (by decide))
@[simp] theorem sz2 : (2 ≤ sizeLine) = True := eq_true (sz_of (by decide))
@[simp] theorem sz3 : (3 ≤ sizeLine) = True := eq_true (sz_of (by decide))
@[simp] theorem sz4 : (4 ≤ sizeLine) = True := eq_true (sz_of (by decide))
@[simp] theorem sz5 : (5 ≤ sizeLine) = True := eq_true (sz_of (by decide))
@[simp] theorem sz6 : (6 ≤ sizeLine) = True := eq_true (sz_of (by decide))
@[simp] theorem sz7 : (7 ≤ sizeLine) = True := eq_true (sz_of (by decide))
@[simp] theorem sz8 : (8 ≤ sizeLine) = True := eq_true (sz_of (by decide))
@[simp] theorem sz9 : (9 ≤ sizeLine) = True := eq_true (sz_of (by decide))
@[simp] theorem sz10 : (10 ≤ sizeLine) = True := eq_true (sz_of (by decide))
@[simp] theorem szl0 : (0 < sizeLine) = True := eq_true (sz_lt (by decide))
@[simp] theorem szl1 : (1 < sizeLine) = True := eq_true (sz_lt (by decide))
@[simp] theorem biLen_tup (ds : List D) : biLen [.v (.tup ds)] S = .ok (.v (.int ds.length)) S := by simp [biLen, seqOf]
@[simp] theorem biLen_lst (ds : List D) : biLen [.v (.lst ds)] S = .ok (.v (.int ds.length)) S := by simp [biLen, seqOf]
@[simp] theorem biLen_kl (ds : List D) : biLen [.v (.kl ds)] S = .ok (.v (.int ds.length)) S := by simp [biLen, seqOf]
theorem biLen_ref {n : Nat} {ds : List R} (h : S[n]? = some (.lst ds)) : biLen [.ref n] S = .ok (.v (.int ds.length)) S := by simp [biLen, seqOf, lsOf_lst h]
theorem biLen_seq {r : R} {es : List R} (h : seqOf S r = some es) : biLen [r] S = .ok (.v (.int es.length)) S := by
  cases r with
  | ref n => simp [biLen, h]
  | v d => cases d <;> first | (simp [biLen, h]; done) | cases h
theorem biList_seq {r : R} {es : List R} (h : seqOf S r = some es) : biList [r] S = .ok (.ref S.length) (S ++ [.lst es]) := by simp [biList, h]
theorem biLen_str {x : Str} (h : x.length ≤ sizeLine) : biLen [.v (.str x)] S = .ok (.v (.int x.length)) S := if_pos h
@[simp] theorem biAbs_int (i : Int) : biAbs [.v (.int i)] S = .ok (.v (.int (if i < 0 then -i else i))) S := id rfl
@[simp] theorem biInt_int (i : Int) : biInt [.v (.int i)] S = .ok (.v (.int i)) S := id rfl
@[simp] theorem biInt_bl (i : Bool) : biInt [.v (.bl i)] S = .ok (.v (.int (if i = true then 1 else 0))) S := id rfl
@[simp] theorem biTuple_tup (ds : List D) : biTuple [.v (.tup ds)] S = .ok (.v (.tup ds)) S := id rfl
@[simp] theorem biTuple_lst (ds : List D) : biTuple [.v (.lst ds)] S = .ok (.v (.tup ds)) S := by simp [biTuple, lstOf, frzO_vs]
theorem biTuple_ref {n : Nat} {ds : List D} (h : S[n]? = some (.lst (ds.map .v))) : biTuple [.ref n] S = .ok (.v (.tup ds)) S := by simp [biTuple, lstOf, lsOf_lst h, frzO_vs]
@[simp] theorem biList_tup (ds : List D) : biList [.v (.tup ds)] S = .ok (.ref S.length) (S ++ [.lst (ds.map .v)]) := by simp [biList, seqOf]
@[simp] theorem biList_lst (ds : List D) : biList [.v (.lst ds)] S = .ok (.ref S.length) (S ++ [.lst (ds.map .v)]) := by simp [biList, seqOf]
theorem strsOf_map : ∀ xs : List Str, strsOf (xs.map fun x => R.v (.str x)) = some xs
  | [] => rfl
  | x :: xs => by simp [strsOf, strsOf_map xs]
theorem blsOf_map : ∀ xs : List Bool, blsOf (xs.map fun x => R.v (.bl x)) = some xs
  | [] => rfl
  | x :: xs => by simp [blsOf, blsOf_map xs]
theorem biAll_lst (bs : List Bool) : biAll [.v (.lst (bs.map .bl))] S = .ok (.v (.bl (bs.all id))) S := by
  have := blsOf_map bs
  simp only [biAll, lstOf, List.map_map, Option.bind_some]
  rw [show (R.v ∘ D.bl) = fun x => R.v (.bl x) from rfl, this]
@[simp] theorem biMax_ii (i j : Int) : biMax [.v (.int i), .v (.int j)] S = .ok (.v (.int (if j > i then j else i))) S := id rfl
@[simp] theorem biMin_ii (i j : Int) : biMin [.v (.int i), .v (.int j)] S = .ok (.v (.int (if j < i then j else i))) S := id rfl
theorem kb_ss : kitB "str" "str" = some true := by decide +kernel
theorem kb_st : kitB "str" "tuple" = some false := by decide +kernel
theorem kb_si : kitB "str" "int" = some false := by decide +kernel
theorem kb_sb : kitB "str" "bool" = some false := by decide +kernel
theorem kb_ts : kitB "tuple" "str" = some false := by decide +kernel
theorem kb_tt : kitB "tuple" "tuple" = some true := by decide +kernel
theorem kb_ti : kitB "tuple" "int" = some false := by decide +kernel
theorem kb_is : kitB "int" "str" = some false := by decide +kernel
theorem kb_it : kitB "int" "tuple" = some false := by decide +kernel
theorem kb_ii : kitB "int" "int" = some true := by decide +kernel
theorem kb_ib : kitB "int" "bool" = some false := by decide +kernel
theorem kb_bs : kitB "bool" "str" = some false := by decide +kernel
theorem kb_bt : kitB "bool" "tuple" = some false := by decide +kernel
theorem kb_bi : kitB "bool" "int" = some true := by decide +kernel
theorem kb_bb : kitB "bool" "bool" = some true := by decide +kernel
theorem kb_ns : kitB "NoneType" "str" = some false := by decide +kernel
theorem kb_nt : kitB "NoneType" "tuple" = some false := by decide +kernel
theorem kb_ni : kitB "NoneType" "int" = some false := by decide +kernel
theorem kb_ls : kitB "list" "str" = some false := by decide +kernel
theorem kb_lt : kitB "list" "tuple" = some false := by decide +kernel
theorem kb_ds : kitB "dict" "str" = some false := by decide +kernel
theorem kb_dt : kitB "dict" "tuple" = some false := by decide +kernel
@[simp] theorem isi_str_str (x : Str) : biIsi [.v (.str x), .v (.ty "str")] S = .ok (.v (.bl true)) S := by simp [biIsi, tyName, tyD, kb_ss]
@[simp] theorem isi_str_tup (x : Str) : biIsi [.v (.str x), .v (.ty "tuple")] S = .ok (.v (.bl false)) S := by simp [biIsi, tyName, tyD, kb_st]
@[simp] theorem isi_str_int (x : Str) : biIsi [.v (.str x), .v (.ty "int")] S = .ok (.v (.bl false)) S := by simp [biIsi, tyName, tyD, kb_si]
@[simp] theorem isi_str_bool (x : Str) : biIsi [.v (.str x), .v (.ty "bool")] S = .ok (.v (.bl false)) S := by simp [biIsi, tyName, tyD, kb_sb]
@[simp] theorem isi_tup_str (x : List D) : biIsi [.v (.tup x), .v (.ty "str")] S = .ok (.v (.bl false)) S := by simp [biIsi, tyName, tyD, kb_ts]
@[simp] theorem isi_tup_tup (x : List D) : biIsi [.v (.tup x), .v (.ty "tuple")] S = .ok (.v (.bl true)) S := by simp [biIsi, tyName, tyD, kb_tt]
@[simp] theorem isi_tup_int (x : List D) : biIsi [.v (.tup x), .v (.ty "int")] S = .ok (.v (.bl false)) S := by simp [biIsi, tyName, tyD, kb_ti]
@[simp] theorem isi_int_str (x : Int) : biIsi [.v (.int x), .v (.ty "str")] S = .ok (.v (.bl false)) S := by simp [biIsi, tyName, tyD, kb_is]
@[simp] theorem isi_int_tup (x : Int) : biIsi [.v (.int x), .v (.ty "tuple")] S = .ok (.v (.bl false)) S := by simp [biIsi, tyName, tyD, kb_it]
@[simp] theorem isi_int_int (x : Int) : biIsi [.v (.int x), .v (.ty "int")] S = .ok (.v (.bl true)) S := by simp [biIsi, tyName, tyD, kb_ii]
@[simp] theorem isi_int_bool (x : Int) : biIsi [.v (.int x), .v (.ty "bool")] S = .ok (.v (.bl false)) S := by simp [biIsi, tyName, tyD, kb_ib]
@[simp] theorem isi_bl_str (x : Bool) : biIsi [.v (.bl x), .v (.ty "str")] S = .ok (.v (.bl false)) S := by simp [biIsi, tyName, tyD, kb_bs]
@[simp] theorem isi_bl_tup (x : Bool) : biIsi [.v (.bl x), .v (.ty "tuple")] S = .ok (.v (.bl false)) S := by simp [biIsi, tyName, tyD, kb_bt]
@[simp] theorem isi_bl_int (x : Bool) : biIsi [.v (.bl x), .v (.ty "int")] S = .ok (.v (.bl true)) S := by simp [biIsi, tyName, tyD, kb_bi]
@[simp] theorem isi_bl_bool (x : Bool) : biIsi [.v (.bl x), .v (.ty "bool")] S = .ok (.v (.bl true)) S := by simp [biIsi, tyName, tyD, kb_bb]
@[simp] theorem isi_non_str : biIsi [.v .non, .v (.ty "str")] S = .ok (.v (.bl false)) S := by simp [biIsi, tyName, tyD, kb_ns]
@[simp] theorem isi_non_tup : biIsi [.v .non, .v (.ty "tuple")] S = .ok (.v (.bl false)) S := by simp [biIsi, tyName, tyD, kb_nt]
@[simp] theorem isi_non_int : biIsi [.v .non, .v (.ty "int")] S = .ok (.v (.bl false)) S := by simp [biIsi, tyName, tyD, kb_ni]
@[simp] theorem tyOk_str (x : Str) : tyOk "str" S (.v (.str x)) = true := id rfl
@[simp] theorem tyOk_lstV (x : List D) : tyOk "list" S (.v (.lst x)) = true := id rfl
theorem tyOk_lst {n : Nat} {ds : List R} (h : S[n]? = some (.lst ds)) : tyOk "list" S (.ref n) = true := by simp [tyOk, h]
theorem mtAppend_ref {n : Nat} {ds : List R} {y : R} (h : S[n]? = some (.lst ds)) (hz : ds.length < sizeLine) : mtAppend (.ref n) [y] S = .ok (.v .non) (S.set n (.lst (ds ++ [y]))) := by
  unfold mtAppend; simp only [h, if_pos hz]
end
/-- a for that goes through: I holds ahead of each turn -/
theorem forGo_inv {pins : List (Nat × MO)} {t : TgM} {body : MS} (I : Nat → Env → Store → Prop) :
    ∀ (ds : List R) (j : Nat) (m : Env) (S : Store), I j m S → (∀ i m S, I i m S → pinsOk pins S) →
      (∀ i d m S, ds[i]? = some d → I (j + i) m S → ∃ m1, t d m = some m1 ∧ ∃ m2 S2, (body m1 S = .nx m2 S2 ∨ body m1 S = .ct m2 S2) ∧ I (j + i + 1) m2 S2) →
      ∃ m' S', mForGo pins t body ds m S = .nx m' S' ∧ I (j + ds.length) m' S'
  | [], j, m, S, h, hp, _ => ⟨m, S, by unfold mForGo; rw [if_pos (hp j m S h)], h⟩
  | d :: ds, j, m, S, h, hp, hs => by
    obtain ⟨m1, e1, m2, S2, e2, h2⟩ := hs 0 d m S rfl h
    obtain ⟨m', S', e3, h3⟩ := forGo_inv I ds (j + 1) m2 S2 h2 hp fun i d m S hi hI => by
      have := hs (i + 1) d m S hi (by rw [show j + (i + 1) = j + 1 + i by omega]; exact hI)
      rwa [show j + (i + 1) = j + 1 + i by omega] at this
    refine ⟨m', S', ?_, by rw [List.length_cons, show j + (ds.length + 1) = j + 1 + ds.length by omega]; exact h3⟩
    unfold mForGo
    rw [if_pos (hp j m S h), e1]
    rcases e2 with e2 | e2
    · simp only [e2]; exact e3
    · simp only [e2]; exact e3
/-- .. nothing pinned -/
theorem for_inv {t : TgM} {body : MS} {ds : List R} {m : Env} {S : Store} (I : Nat → Env → Store → Prop) (h : I 0 m S) (hs : ∀ i d m S, ds[i]? = some d → I i m S → ∃ m1, t d m = some m1 ∧ ∃ m2 S2, (body m1 S = .nx m2 S2 ∨ body m1 S = .ct m2 S2) ∧ I (i + 1) m2 S2) :
    ∃ m' S', mForGo [] t body ds m S = .nx m' S' ∧ I ds.length m' S' := by
  obtain ⟨m', S', e, hI⟩ := forGo_inv (pins := []) (t := t) (body := body) I ds 0 m S h (fun _ _ _ _ => trivial) fun i d m S hi hI => by
    have := hs i d m S hi (by simpa using hI)
    simpa using this
  exact ⟨m', S', e, by simpa using hI⟩
@[simp] theorem mLc_eq (src : MI) (vs : List Nat) (t : TgM) (c : MT) (f : ME) (m : Env) (S : Store) : mLc src vs t c f m S = (src m S).bind fun it S1 => mLcGo it.pins t c f S1.length (wipeM m vs) it.items (S1 ++ [.lst []]) := id rfl
/-- a comprehension by value whose turns leave the store: p by a test, g the elements -/
theorem lc_mapU {α : Type} {t : TgM} {c : MT} {f : ME} {m : Env} {S0 S : Store} (hu : Upd S0 S) (r : α → R) (p : α → Bool) (g : α → D) (xs : List α) (hz : xs.length ≤ sizeLine)
    (hs : ∀ x ∈ xs, ∀ acc : List R, ∃ m1, t (r x) m = some m1 ∧ c m1 (S ++ [.lst acc]) = .ok (p x) (S ++ [.lst acc]) ∧ (p x = true → f m1 (S ++ [.lst acc]) = .ok (.v (g x)) (S ++ [.lst acc]))) :
    (mLcGo [] t c f S.length m (xs.map r) (S ++ [.lst []])).bind (fun r S' => popV S0 r S') = .ok (.v (.lst ((xs.filter p).map g))) S := by
  have key : ∀ (xs ys : List α), ys.length + xs.length ≤ sizeLine → (∀ x ∈ xs, ∀ acc : List R, ∃ m1, t (r x) m = some m1 ∧ c m1 (S ++ [.lst acc]) = .ok (p x) (S ++ [.lst acc]) ∧ (p x = true → f m1 (S ++ [.lst acc]) = .ok (.v (g x)) (S ++ [.lst acc]))) →
      mLcGo [] t c f S.length m (xs.map r) (S ++ [.lst ((ys.map g).map .v)]) = .ok (.ref S.length) (S ++ [.lst (((ys ++ xs.filter p).map g).map .v)]) := by
    intro xs
    induction xs with
    | nil => intro ys _ _; unfold mLcGo; simp [pinsOk]
    | cons x xs ih =>
      intro ys hl hs
      obtain ⟨m1, e1, e2, e3⟩ := hs x (by simp) ((ys.map g).map .v)
      rw [List.map_cons]
      unfold mLcGo
      rw [if_pos (show pinsOk [] _ from trivial), e1]
      simp only [e2, Out.calm_ok, Out.bind_ok]
      rw [List.length_cons] at hl
      cases hp : p x with
      | false =>
        simp only
        rw [ih ys (by omega) fun x hx => hs x (by simp [hx]), List.filter_cons_of_neg (by simp [hp])]
      | true =>
        simp only [e3 hp, Out.calm_ok, Out.bind_ok, get_len]
        rw [if_pos (by rw [List.length_map, List.length_map]; omega), set_len, List.filter_cons_of_pos hp]
        have := ih (ys ++ [x]) (by rw [List.length_append]; simp; omega) fun x hx => hs x (by simp [hx])
        simp only [List.map_append, List.map_cons, List.map_nil, List.append_assoc, List.cons_append, List.nil_append] at this ⊢
        exact this
  have := key xs [] (by simpa using hz) hs
  simp only [List.map_nil, List.nil_append] at this
  rw [this, Out.bind_ok]
  exact popV_newU _ hu
theorem lc_map {α : Type} {t : TgM} {c : MT} {f : ME} {m : Env} {S : Store} (r : α → R) (p : α → Bool) (g : α → D) (xs : List α) (hz : xs.length ≤ sizeLine)
    (hs : ∀ x ∈ xs, ∀ acc : List R, ∃ m1, t (r x) m = some m1 ∧ c m1 (S ++ [.lst acc]) = .ok (p x) (S ++ [.lst acc]) ∧ (p x = true → f m1 (S ++ [.lst acc]) = .ok (.v (g x)) (S ++ [.lst acc]))) :
    (mLcGo [] t c f S.length m (xs.map r) (S ++ [.lst []])).bind (fun r S' => popV S r S') = .ok (.v (.lst ((xs.filter p).map g))) S := lc_mapU (.refl S) r p g xs hz hs
/-- a comprehension by value whose turns change the store below it: P of the turn, the list so far, the store -/
theorem lc_st {α : Type} {t : TgM} {f : ME} {m : Env} {S0 S : Store} (r : α → R) (xs : List α) (P : Nat → List D → Store → Prop) (hz : xs.length ≤ sizeLine) (h0 : P 0 [] S) (hu : ∀ i ys T, P i ys T → Upd S0 T)
    (hs : ∀ i x ys T, xs[i]? = some x → P i ys T → ∃ m1, t (r x) m = some m1 ∧ ∃ y T', f m1 (T ++ [.lst (ys.map .v)]) = .ok (.v y) (T' ++ [.lst (ys.map .v)]) ∧ P (i + 1) (ys ++ [y]) T') :
    ∃ ys T, (mLcGo [] t mtYes f S.length m (xs.map r) (S ++ [.lst []])).bind (fun r S' => popV S0 r S') = .ok (.v (.lst ys)) T ∧ P xs.length ys T ∧ ys.length = xs.length := by
  have hS0 : S.length = S0.length := (hu 0 [] S h0).1
  have key : ∀ (xs : List α) (j : Nat) (ys : List D) (T : Store), ys.length + xs.length ≤ sizeLine → P j ys T → (∀ i x ys T, xs[i]? = some x → P (j + i) ys T → ∃ m1, t (r x) m = some m1 ∧ ∃ y T', f m1 (T ++ [.lst (ys.map .v)]) = .ok (.v y) (T' ++ [.lst (ys.map .v)]) ∧ P (j + i + 1) (ys ++ [y]) T') →
      ∃ zs T', mLcGo [] t mtYes f S.length m (xs.map r) (T ++ [.lst (ys.map .v)]) = .ok (.ref S.length) (T' ++ [.lst (zs.map .v)]) ∧ P (j + xs.length) zs T' ∧ zs.length = ys.length + xs.length := by
    intro xs
    induction xs with
    | nil => intro j ys T _ h _; exact ⟨ys, T, by unfold mLcGo; simp [pinsOk], h, rfl⟩
    | cons x xs ih =>
      intro j ys T hl h hs
      obtain ⟨m1, e1, y, T1, e2, h2⟩ := hs 0 x ys T rfl h
      rw [List.length_cons] at hl
      obtain ⟨zs, T2, e3, h3, l3⟩ := ih (j + 1) (ys ++ [y]) T1 (by simp; omega) h2 fun i x ys T hx hp => by
        have := hs (i + 1) x ys T hx (by rw [show j + (i + 1) = j + 1 + i by omega]; exact hp)
        rwa [show j + (i + 1) = j + 1 + i by omega] at this
      refine ⟨zs, T2, ?_, by rw [List.length_cons, show j + (xs.length + 1) = j + 1 + xs.length by omega]; exact h3, by rw [l3]; simp; omega⟩
      rw [List.map_cons]
      unfold mLcGo
      rw [if_pos (show pinsOk [] _ from trivial), e1]
      have hT : T1.length = S.length := (hu _ _ _ h2).1.trans hS0.symm
      have g1 : (T1 ++ [MO.lst (ys.map R.v)])[S.length]? = some (.lst (ys.map .v)) := by rw [← hT]; exact get_len T1 _ []
      have g2 : (T1 ++ [MO.lst (ys.map R.v)]).set S.length (.lst (ys.map .v ++ [.v y])) = T1 ++ [.lst ((ys ++ [y]).map .v)] := by rw [← hT, set_len, List.map_append]; rfl
      simp only [mtYes_eq, Out.calm_ok, Out.bind_ok, e2, g1]
      rw [if_pos (by rw [List.length_map]; omega), g2]
      exact e3
  obtain ⟨zs, T, e, h, l⟩ := key xs 0 [] S (by simpa using hz) h0 fun i x ys T hx hp => by
    have := hs i x ys T hx (by simpa using hp)
    simpa using this
  refine ⟨zs, T, ?_, by simpa using h, by simpa using l⟩
  have hT : T.length = S.length := (hu _ _ _ h).1.trans hS0.symm
  rw [List.map_nil] at e
  rw [e, Out.bind_ok, popV_ref (ds := zs) (by rw [← hT]; exact get_len T _ [])]
  rw [← hT, set_len, cut_app _ (hu _ _ _ h)]
@[simp] theorem keepE_v (k : Nat) (d : D) : keepE k (some (.v d)) = some (.v d) := id rfl
@[simp] theorem keepE_none (k : Nat) : keepE k none = none := id rfl
theorem trim_app {S T t : Store} {m2 : Env} {f : Env → Store → OutS} (hu : Upd S T) (ht : t ≠ []) : trim S m2 (T ++ t) f = f (m2.map (keepE S.length)) T := by
  unfold trim
  have e : (T ++ t).take S.length = T := by rw [← hu.1, List.take_left]
  have hp : 0 < t.length := List.length_pos_iff.mpr ht
  rw [if_pos ⟨by rw [List.length_append, hu.1]; omega, by rw [List.length_append, hu.1]; omega, by rw [e]; exact hu⟩, e]
@[simp] theorem mTrim_eq (f : MS) (m : Env) (S : Store) : mTrim f m S = match f m S with
  | .nx m2 S2 => trim S m2 S2 .nx
  | .ct m2 S2 => trim S m2 S2 .ct
  | o => o := id rfl
end M
namespace M
open PySem hiding Env
open L2
theorem str_len (x : Str) : x.length = x.cps.size := rfl
theorem str_len_append (x y : Str) : (x ++ y).length = x.length + y.length := by
  show (x.cps ++ y.cps).size = _
  rw [Array.size_append]; rfl
theorem cps_app (x y : Str) : (x ++ y).cps.toList = x.cps.toList ++ y.cps.toList := by
  show (x.cps ++ y.cps).toList = _
  simp
theorem str_ext {x y : Str} (h : x.cps.toList = y.cps.toList) : x = y := by
  cases x; cases y
  simp only [Str.mk.injEq]
  exact Array.toList_inj.mp h
/-- a word -/
def GoodW (w : Str) : Prop := 1 ≤ w.length ∧ w.length ≤ 8 ∧ ∀ c ∈ w.cps.toList, 97 ≤ c ∧ c ≤ 122
theorem GoodW.ok {w : Str} (h : GoodW w) : w.cps.all (· < 0x110000) = true := by
  rw [← Array.all_toList, List.all_eq_true]
  intro c hc
  have := h.2.2 c hc
  simp; omega
inductive T where
  | leaf (w : Str)
  | node (l r : T)
  deriving DecidableEq
def T.d : T → D
  | .leaf w => .str w
  | .node l r => .tup [l.d, r.d]
def T.ls : T → List Str
  | .leaf w => [w]
  | .node l r => l.ls ++ r.ls
def T.depth : T → Nat
  | .leaf _ => 0
  | .node l r => max l.depth r.depth + 1
def T.text : T → Str
  | .leaf w => w
  | .node l r => "(" ++ l.text ++ "," ++ r.text ++ ")"
theorem T.ls_ne : ∀ t : T, t.ls ≠ []
  | .leaf w => by simp [T.ls]
  | .node l r => by simp [T.ls, T.ls_ne l]
theorem T.ls_pos (t : T) : 0 < t.ls.length := List.length_pos_iff.mpr t.ls_ne
theorem T.depth_lt : ∀ t : T, t.depth < t.ls.length
  | .leaf w => by simp [T.ls, T.depth]
  | .node l r => by
    have h1 := T.depth_lt l
    have h2 := T.depth_lt r
    have h3 := T.ls_pos l
    have h4 := T.ls_pos r
    simp only [T.ls, T.depth, List.length_append]
    omega
/-- all its words are words -/
def T.Ok (t : T) : Prop := ∀ w ∈ t.ls, GoodW w
theorem T.Ok.l {l r : T} (h : (T.node l r).Ok) : l.Ok := fun w hw => h w (by simp [T.ls, hw])
theorem T.Ok.r {l r : T} (h : (T.node l r).Ok) : r.Ok := fun w hw => h w (by simp [T.ls, hw])
theorem T.text_len : ∀ t : T, t.Ok → t.text.length + 3 ≤ 11 * t.ls.length
  | .leaf w, h => by
    have := (h w (by simp [T.ls])).2.1
    simp only [T.text, T.ls, List.length_cons, List.length_nil]; omega
  | .node l r, h => by
    have h1 := T.text_len l h.l
    have h2 := T.text_len r h.r
    simp only [T.text, T.ls, List.length_append, str_len_append]
    have e1 : (Str.ofString "(").length = 1 := by decide +kernel
    have e2 : (Str.ofString ",").length = 1 := by decide +kernel
    have e3 : (Str.ofString ")").length = 1 := by decide +kernel
    omega
theorem T.text_codes : ∀ t : T, t.Ok → ∀ c ∈ t.text.cps.toList, c < 128
  | .leaf w, h => fun c hc => by have := (h w (by simp [T.ls])).2.2 c hc; omega
  | .node l r, h => fun c hc => by
    simp only [T.text, cps_app, List.mem_append] at hc
    have e1 : ∀ c ∈ (Str.ofString "(").cps.toList, c < 128 := by decide +kernel
    have e2 : ∀ c ∈ (Str.ofString ",").cps.toList, c < 128 := by decide +kernel
    have e3 : ∀ c ∈ (Str.ofString ")").cps.toList, c < 128 := by decide +kernel
    rcases hc with (((hc | hc) | hc) | hc) | hc
    · exact e1 c hc
    · exact T.text_codes l h.l c hc
    · exact e2 c hc
    · exact T.text_codes r h.r c hc
    · exact e3 c hc
/-- the signs of a tree's text -/
def T.signs (t : T) : List Nat := t.text.cps.toList
theorem T.signs_node (l r : T) : (T.node l r).signs = 40 :: (l.signs ++ 44 :: (r.signs ++ [41])) := by
  have e1 : (Str.ofString "(").cps.toList = [40] := by decide +kernel
  have e2 : (Str.ofString ",").cps.toList = [44] := by decide +kernel
  have e3 : (Str.ofString ")").cps.toList = [41] := by decide +kernel
  simp [T.signs, T.text, cps_app, e1, e2, e3]
def T.py : T → PyData
  | .leaf w => .str w
  | .node l r => .tuple [l.py, r.py]
theorem T.dpy : ∀ t : T, t.d.py = some t.py
  | .leaf w => rfl
  | .node l r => by
    show (D.pys [l.d, r.d]).map PyData.tuple = _
    simp [D.pys, T.dpy l, T.dpy r, T.py]
theorem T.py_lay : ∀ t : T, t.Ok → t.py.canLay0 = true
  | .leaf w, h => by
    have := (h w (by simp [T.ls])).ok
    simp [T.py, PyData.canLay0, PyData.strOk, this]
  | .node l r, h => by simp [T.py, PyData.canLay0, PyData.canLayAll0, T.py_lay l h.l, T.py_lay r h.r]
theorem T.py_depth : ∀ t : T, t.py.depth = t.depth
  | .leaf w => by simp [T.py, PyData.depth, T.depth]
  | .node l r => by simp [T.py, PyData.depth, PyData.depthAll, T.depth, T.py_depth l, T.py_depth r]
theorem T.pyS {t : T} (h : t.Ok) (hd : t.depth ≤ 64) : t.d.pyS = some t.py := by
  simp [D.pyS, T.dpy, SeqAt.shaped, T.py_lay t h, T.py_depth, hd]
theorem T.eqv : ∀ t u : T, PyData.eqv t.py u.py = true ↔ t = u
  | .leaf w, .leaf v => by simp [T.py, PyData.eqv]
  | .leaf w, .node l r => by simp [T.py, PyData.eqv]
  | .node l r, .leaf w => by simp [T.py, PyData.eqv]
  | .node a b, .node c d => by simp [T.py, PyData.eqv, PyData.eqvAll, T.eqv a c, T.eqv b d]
@[simp] theorem isi_T_str (t : T) (S : Store) : biIsi [.v t.d, .v (.ty "str")] S = .ok (.v (.bl (match t with | .leaf _ => true | _ => false))) S := by
  cases t <;> simp [T.d]
@[simp] theorem isi_T_tup (t : T) (S : Store) : biIsi [.v t.d, .v (.ty "tuple")] S = .ok (.v (.bl (match t with | .node _ _ => true | _ => false))) S := by
  cases t <;> simp [T.d]
def strOkB (x : Str) : Bool := x.cps.all (· < 0x110000)
theorem pys_strs : ∀ ns : List Str, D.pys (ns.map D.str) = some (ns.map PyData.str)
  | [] => rfl
  | n :: ns => by simp [D.pys, D.py, pys_strs ns]
theorem lay_strs : ∀ ns : List Str, (∀ x ∈ ns, strOkB x = true) → PyData.canLayAll0 (ns.map PyData.str) = true ∧ PyData.depthAll (ns.map PyData.str) = 0
  | [], _ => ⟨by simp [PyData.canLayAll0], by simp [PyData.depthAll]⟩
  | n :: ns, h => by
    obtain ⟨h1, h2⟩ := lay_strs ns fun x hx => h x (by simp [hx])
    have h3 : (n.cps.all (· < 0x110000)) = true := h n (by simp)
    exact ⟨by simp [PyData.canLayAll0, PyData.canLay0, PyData.strOk, h1, h3], by simp [PyData.depthAll, PyData.depth, h2]⟩
theorem pyS_lstrs {ns : List Str} (ok : ∀ x ∈ ns, strOkB x = true) : D.pyS (.lst (ns.map D.str)) = some (.list (ns.map PyData.str)) := by
  obtain ⟨h1, h2⟩ := lay_strs ns ok
  simp [D.pyS, D.py, pys_strs, SeqAt.shaped, PyData.canLay0, PyData.depth, h1, h2]
theorem pys_ints : ∀ ns : List Int, D.pys (ns.map D.int) = some (ns.map PyData.int)
  | [] => rfl
  | n :: ns => by simp [D.pys, D.py, pys_ints ns]
theorem lay_ints : ∀ ns : List Int, PyData.canLayAll0 (ns.map PyData.int) = true ∧ PyData.depthAll (ns.map PyData.int) = 0
  | [] => ⟨by simp [PyData.canLayAll0], by simp [PyData.depthAll]⟩
  | n :: ns => by
    obtain ⟨h1, h2⟩ := lay_ints ns
    exact ⟨by simp [PyData.canLayAll0, PyData.canLay0, h1], by simp [PyData.depthAll, PyData.depth, h2]⟩
theorem pyS_kints (ns : List Int) : D.pyS (.kl (ns.map D.int)) = some (.list (ns.map PyData.int)) := by
  obtain ⟨h1, h2⟩ := lay_ints ns
  simp [D.pyS, D.py, pys_ints, SeqAt.shaped, PyData.canLay0, PyData.depth, h1, h2]
theorem pyS_lnil : D.pyS (.lst []) = some (.list []) := by
  simp [D.pyS, D.py, D.pys, SeqAt.shaped, PyData.canLay0, PyData.canLayAll0, PyData.depth, PyData.depthAll]
@[simp] theorem opNe_kints_nil {S : Store} (ns : List Int) : opNe (.v (.kl (ns.map D.int))) (.v (.lst [])) S = .ok (.v (.bl (!ns.isEmpty))) S := by
  rw [opNe_py (pyS_kints ns) pyS_lnil]
  cases ns <;> simp [PyData.eqv, PyData.eqvAll]
theorem cutD_take {α : Type} (xs : List α) {k : Int} (h : 0 ≤ k) : cutD xs none (some k) = xs.take k.toNat := by
  unfold cutD
  rw [show HT.sIx xs.length 0 none = 0 from rfl, show HT.sIx xs.length xs.length (some k) = min k.toNat xs.length by unfold HT.sIx; simp only; rw [if_neg (by omega)]]
  rw [List.drop_zero, Nat.sub_zero]
  rcases Nat.le_total k.toNat xs.length with h | h
  · rw [Nat.min_eq_left h]
  · rw [Nat.min_eq_right h, List.take_of_length_le (Nat.le_refl _), List.take_of_length_le h]
theorem cutD_map {α β : Type} (f : α → β) (xs : List α) (lo hi : Option Int) : cutD (xs.map f) lo hi = (cutD xs lo hi).map f := by
  unfold cutD; simp
theorem opSl_lst {S : Store} (ds : List D) (lo hi : Option Int) : opSl (.v (.lst ds)) lo hi S = .ok (.ref S.length) (S ++ [.lst ((cutD ds lo hi).map .v)]) := by
  simp [opSl, lstOf, cutD_map]
theorem opSl_kl {S : Store} (ds : List D) (lo hi : Option Int) : opSl (.v (.kl ds)) lo hi S = .ok (.ref S.length) (S ++ [.lst ((cutD ds lo hi).map .v)]) := by
  simp [opSl, lstOf, cutD_map]
theorem popSl_kl {S : Store} (ds : List D) (lo hi : Option Int) : (opSl (.v (.kl ds)) lo hi S).bind (fun r S' => popV S r S') = .ok (.v (.lst (cutD ds lo hi))) S := by
  rw [opSl_kl]; exact popV_new S _
theorem popSl_lstU {S0 S : Store} (hu : Upd S0 S) (ds : List D) (lo hi : Option Int) : (opSl (.v (.lst ds)) lo hi S).bind (fun r S' => popV S0 r S') = .ok (.v (.lst (cutD ds lo hi))) S := by
  rw [opSl_lst]; exact popV_newU _ hu
@[simp] theorem opSl_tup {S : Store} (ds : List D) (lo hi : Option Int) : opSl (.v (.tup ds)) lo hi S = .ok (.v (.tup (cutD ds lo hi))) S := rfl
theorem rangeD_get {lo : Int} {n i : Nat} {d : R} (h : (rangeD lo n)[i]? = some d) : i < n ∧ d = .v (.int (lo + (i : Int))) := by
  have hi : i < n := by
    have := (List.getElem?_eq_some_iff.mp h).1
    simpa [rangeD] using this
  unfold rangeD at h
  rw [List.getElem?_map, List.getElem?_range hi] at h
  exact ⟨hi, by simpa using h.symm⟩
@[simp] theorem rangeD_len (lo : Int) (n : Nat) : (rangeD lo n).length = n := by simp [rangeD]
end M
namespace M
open PySem PySem.Spec L2
open PyProof.Rows hiding St
def SqS (K : PySem.W.Frag) (H : Hp) (k : Bool) (a : Addr) (xs : List V) : Prop := match k with
  | true => SqT K H a xs
  | false => SqL K H a xs
def ItS (k : Bool) (h : Heap) (it a : Addr) (i : Nat) : Prop := match k with
  | true => h.IsTupleIter it a i
  | false => h.IsListIter it a i
def InS (k : Bool) (h : Heap) (a : Addr) (items : Array Value) : Prop := match k with
  | true => h.IsTuple a items
  | false => h.IsList a items
section
variable {X : Cx} {pins : List (Addr × Obj)} {σ : St} {H : Hp} {s : Shared} {prog : Program} {w : World} {A : Around} {k : Bool} {a it : Addr} {xs ys : List V} {h h' : Heap} {i : Nat}
theorem sqS_at (I : Inv X pins σ H s) (q : SqS X.K H k a xs) : ∃ its : List Value, Vals xs its ∧ InS k s.heap a its.toArray := by
  cases k with
  | true =>
    obtain ⟨its, r, p, _⟩ := I.tuple q
    exact ⟨its, r, p⟩
  | false =>
    obtain ⟨its, r, p, _⟩ := I.list q
    exact ⟨its, r, p.isList⟩
theorem sqS_inj (I : Inv X pins σ H s) (q : SqS X.K H k a xs) (q' : SqS X.K H k a ys) : xs = ys := by
  cases k with
  | true => exact I.tuple_inj q q'
  | false => exact I.list_inj q q'
theorem drawsS (hh : A.handled = none) (k : Bool) (it a : Addr) (hne : a ≠ it) (items : Array Value) : Draws prog w A it [it, a] items.size (fun i v => items[i]? = some v) (fun i h => ItS k h it a i ∧ InS k h a items) := by
  cases k with
  | true => exact Draws.tuple hh it a hne items
  | false => exact Draws.list hh it a hne items
theorem itS_at (q : ItS k h it a i) (e : ∀ o, h.get? it = some o → h'.get? it = some o) : ItS k h' it a i := by
  cases k with
  | true => exact Heap.IsTupleIter.at q e
  | false => exact Heap.IsListIter.at q e
theorem itS_obj (q : ItS k h it a i) : ∃ o, h.get? it = some o ∧ ∀ v, o.data ≠ .cell v := by
  cases k with
  | true => obtain ⟨o, e, _, d⟩ := q; exact ⟨o, e, fun v z => by rw [d] at z; cases z⟩
  | false => obtain ⟨o, e, _, d⟩ := q; exact ⟨o, e, fun v z => by rw [d] at z; cases z⟩
theorem ne_it {items : Array Value} {b : Addr} (p : InS k h a items) (q : ItS k h it b i) : a ≠ it := fun e => by
  cases k with
  | true =>
    obtain ⟨o', p1, p2, _⟩ := p
    obtain ⟨o2, q1, q2, _⟩ := q
    rw [e, q1] at p1
    cases p1
    rw [q2] at p2
    exact absurd p2 (by decide)
  | false =>
    obtain ⟨o', p1, p2, _⟩ := p
    obtain ⟨o2, q1, q2, _⟩ := q
    rw [e, q1] at p1
    cases p1
    rw [q2] at p2
    exact absurd p2 (by decide)
theorem inS_lt {items : Array Value} (q : InS k h a items) : ∃ o, h.get? a = some o := by
  cases k with
  | true => obtain ⟨o, e, _⟩ := q; exact ⟨o, e⟩
  | false => obtain ⟨o, e, _⟩ := q; exact ⟨o, e⟩
end
def ItE (K : PySem.W.Frag) (k : Bool) (a : Addr) : It :=
  ⟨fun i H => ∃ (xs : List V) (x : V), SqS K H k a xs ∧ xs[i]? = some x, fun i H v H' => ∃ T x, v = .ref T ∧ H T = none ∧ H' = upd H T (.tup [.int (i : Nat), x]) ∧ ∀ xs, SqS K H k a xs → xs[i]? = some x, fun i H => ∃ xs : List V, SqS K H k a xs ∧ xs.length = i⟩
theorem turn_enumS {P : Program} {w : World} {K : PySem.W.Frag} {elts : List Expr} {kk : Nat} {tpos : Pos} (k : Bool) (a e it : Addr) (hea : e ≠ a) :
    Turn P w K (.Tuple elts kk tpos) (ItE K k a) [e, it] e (fun i h => (∃ old, IsEnum h e it ((i : Nat) : Int) old) ∧ ItS k h it a i ∧ e ≠ it) where
  mem := by simp
  obj := fun i h st b hb => by
    obtain ⟨⟨old, he⟩, hi, _⟩ := st
    have e' : b = e ∨ b = it := by simpa using hb
    rcases e' with z | z
    · rw [z]; exact ⟨_, he, fun v q => nomatch q⟩
    · rw [z]; exact itS_obj hi
  keep := fun i h h' st k => let ⟨⟨old, he⟩, hi, hne⟩ := st; ⟨⟨old, k e (by simp) _ he⟩, itS_at hi fun o q => k it (by simp) o q, hne⟩
  item := by
    intro X hP hw hK hc i pins s σ H E I hf st hg
    subst hP hw hK
    obtain ⟨⟨old, he⟩, hit, hne⟩ := st
    obtain ⟨xs, x, hq, hx⟩ := hg
    obtain ⟨its, rv, p⟩ := sqS_at I hq
    obtain ⟨u, hu, ru⟩ := rv.get hx
    have hel : e < s.heap.objs.size := Heap.lt_size he
    have hil : it < s.heap.objs.size := by obtain ⟨_, q, _⟩ := itS_obj hit; exact Heap.lt_size q
    have hh : X.A.in1.handled = none := I.ok.hd hc
    have hn : a ≠ it := ne_it p hit
    have hl1 : i < its.toArray.size := by have := (List.getElem?_eq_some_iff.mp hu).1; simpa using this
    refine wpAny_pyNext_enum_itemC (drawsS hh k it a hn its.toArray) he ⟨hit, p⟩ hl1 hne (by simp [hne, hea]) fun v h' tk e1 ho hit' hT hsz hk => ?_
    have ev : v = u := by
      have : its.toArray[i]? = some u := by simpa using hu
      rw [this] at e1; exact (Option.some.inj e1).symm
    subst ev
    refine ⟨_, rfl, wpAny_letOwnedTupleGo_enum (s := { s with heap := h', toks := tk + 1 }) ho fun h'' he' sb => ?_⟩
    have hT2 : h''.get? s.heap.objs.size = some { cls := .type "tuple", data := .seq #[.int i tk, v] } := (sb.2 _ (Nat.ne_of_gt hel)).trans hT
    have new : ObjOk X.prog X.w (upd H s.heap.objs.size (.tup [.int (i : Nat), x])) h'' s.heap.objs.size (.tup [.int (i : Nat), x]) :=
      ⟨by show 2 ≤ sizeLine; decide, [.int i tk, v], .cons ⟨_, rfl⟩ (.cons ru .nil), ⟨_, hT2, rfl, _, rfl⟩⟩
    have I1 : Inv X pins σ (upd H s.heap.objs.size (.tup [.int (i : Nat), x])) { s with heap := h'', toks := tk + 1 } :=
      I.turnedNew (ch := [e, it]) (fun b ob hb q => (sb.2 b (fun z => hb (by simp [z]))).trans (hk b ob (fun z => hb (by simp [z])) (fun z => hb (by simp [z])) q)) hf (Nat.le_refl _) new
    refine ⟨.ref s.heap.objs.size, _, I1, rfl, ⟨_, x, rfl, I.hok.fresh (Nat.le_refl _), rfl, fun ys hy => by rw [sqS_inj I hy hq]; exact hx⟩, ⟨⟨v, ?_⟩, itS_at hit'.1 fun o q => (sb.2 it (Ne.symm hne)).trans q, hne⟩, fun b hb => ?_⟩
    · have e1 : ((i + 1 : Nat) : Int) = (i : Int) + 1 := by omega
      rw [e1]; exact he'
    · have hb' : b < s.heap.objs.size := by
        have e' : b = e ∨ b = it := by simpa using hb
        rcases e' with z | z
        · rw [z]; exact hel
        · rw [z]; exact hil
      rw [upd_ne (Nat.ne_of_lt hb')]
      exact (hf b hb).1
  done := by
    intro X hP hw hK hc i pins s σ H E I hf st hg
    subst hP hw hK
    obtain ⟨⟨old, he⟩, hit, hne⟩ := st
    obtain ⟨xs, hq, hx⟩ := hg
    obtain ⟨its, rv, p⟩ := sqS_at I hq
    obtain ⟨f0, f1, f2, f3, f4, f5⟩ := hf it (by simp)
    have hl := rv.length
    have hh : X.A.in1.handled = none := I.ok.hd hc
    have hn : a ≠ it := ne_it p hit
    have hi : its.toArray.size = i := by simp; omega
    exact wpAny_pyNext_enum_endD (drawsS hh k it a hn its.toArray) he (by rw [hi]; exact ⟨hit, p⟩) fun h' eb => ⟨rfl, I.turned (t' := s.toks) (fun b o hb q => eb b o hb q) f0 f1 f3 f4 f5⟩
  self := fun A i s Q E st h => let ⟨⟨_, he⟩, _⟩ := st; wpAny_pyIter_enum he h
def iEnumS (K : PySem.W.Frag) (ta : TA) : TI := fun σ H R => ta σ H fun vs H1 => ∃ k a xs, vs = [.ref a] ∧ SqS K H1 k a xs ∧ R (ItE K k a) H1
theorem meets_enumerate_newT (l : Addr) (items : Array Value) (n : Nat) (dct : Option Addr) (sl : Array (Option Value)) :
    Meets (Builtin.«enumerate.__new__» ⟨[.type "enumerate", .ref l], []⟩) (fun _ R s => s.heap.get? l = some { cls := .type "tuple", dict := dct, data := .seq items n, slots := sl } ∧
      R (.ok (.ret (.ref (s.heap.push { cls := .type "tuple_iterator", data := .fields #[.ref l, .int 0 0] }).objs.size)))
        { s with heap := (s.heap.push { cls := .type "tuple_iterator", data := .fields #[.ref l, .int 0 0] }).push { cls := .type "enumerate", data := .fields #[.none, .bool false, .ref s.heap.objs.size, rawInt 0, .none, .none] } }) :=
  .of_wp fun prog w A R s h => by
    obtain ⟨hp, g, d, tk, os⟩ := s; obtain ⟨hl, h⟩ := h
    have hsub := sub_enumerate
    have hL : Heap.IsTuple (Shared.heap ⟨hp, g, d, tk, os⟩) l items := ⟨_, hl, rfl, n, rfl⟩
    wp_walk using AutoSeq1.wpAny_loadPart' hl
    refine wpAny_stack_any fun st => wpAny_pure ?_
    split
    · rename_i c _ _ _ _ _
      cases (c == Value.type "enumerate")
      · wp_walk using AutoSeq1.wpAny_loadPart' hl, wpAny_pyIter_tuple hL
        exact ⟨_, rfl, h⟩
      · wp_walk using AutoSeq1.wpAny_loadPart' hl, wpAny_pyIter_tuple hL
        exact ⟨_, rfl, h⟩
    · wp_walk using AutoSeq1.wpAny_loadPart' hl, wpAny_pyIter_tuple hL
      exact ⟨_, rfl, h⟩
theorem call_enumerate_tup {prog : Program} {w : World} {A : Around} {E : Value → Shared → Prop} {s : Shared} {l : Addr} {items : Array Value} {Q : Value → Shared → Prop} (hL : s.heap.IsTuple l items)
    (h : ∀ h', IsEnum h' (s.heap.objs.size + 1) s.heap.objs.size 0 .none → h'.IsTupleIter s.heap.objs.size l 0 → h'.objs.size = s.heap.objs.size + 2 →
      (∀ b o, s.heap.get? b = some o → h'.get? b = some o) → Q (.ref (s.heap.objs.size + 1)) { s with heap := h' }) :
    wpAny (model prog w) A (call (.type "enumerate") [.ref l]) Q E s := by
  obtain ⟨⟨c, dct, dt, sl⟩, hl, hc, n, hd⟩ := hL
  replace hc : c = .type "tuple" := hc
  replace hd : dt = .seq items n := hd
  subst hc hd
  refine callType_new F.called_enumerate (by decide) (F.typeCall_enumerate_1 _) (F.newCall_enumerate_1 _) (fun obj => F.args_object_init_2 obj _) F.entry_enumerate_new
    (meets_enumerate_newT l items n dct sl) ⟨hl, ?_⟩
  have hz : (s.heap.push { cls := .type "tuple_iterator", data := .fields #[.ref l, .int 0 0] }).objs.size = s.heap.objs.size + 1 := Heap.size_push ..
  show _ ∧ _
  rw [hz]
  have he : IsEnum ((s.heap.push { cls := .type "tuple_iterator", data := .fields #[.ref l, .int 0 0] }).push
      { cls := .type "enumerate", data := .fields #[.none, .bool false, .ref s.heap.objs.size, rawInt 0, .none, .none] }) (s.heap.objs.size + 1) s.heap.objs.size 0 .none := by
    have := Heap.get?_push_size (s.heap.push { cls := .type "tuple_iterator", data := .fields #[.ref l, .int 0 0] })
      (o := { cls := .type "enumerate", data := .fields #[.none, .bool false, .ref s.heap.objs.size, rawInt 0, .none, .none] }) rfl
    rw [hz] at this; exact this
  refine ⟨⟨_, he, rfl⟩, h _ he ⟨_, Heap.get?_push_of_some _ (Heap.get?_push_size _ rfl), rfl, rfl⟩ (by rw [Heap.size_push, hz]) fun b o x => Heap.get?_push_of_some _ (Heap.get?_push_of_some _ x)⟩
theorem pi_enumS {X : Cx} {e : Expr} {ta : TA} {p pos tpos : Pos} {elts : List Expr} {kk : Nat} (hg : Gl X "enumerate") (hm : X.mg "enumerate" = none) (ha : PA X [e] ta) (hs : starEach [e] X.env = [(false, eval e X.env)] := by rfl) :
    PI X (.Tuple elts kk tpos) (.Call (.Name "enumerate" p) [e] [] pos) (iEnumS X.K ta) := by
  refine ⟨fun pins s σ H R I h => ?_⟩
  refine Call_ (ld_blt I hg hm boot_enumerate (PyProof.Rows.callWith_type1 (thn (ha.run pos pins s σ H _ I h) fun us s1 ⟨vs, H1, I1, r1, q1⟩ => ?_) hs rfl))
  obtain ⟨k, a, xs, ex, hq, q⟩ := q1
  subst ex
  cases r1 with
  | cons r rr =>
    cases rr
    cases r
    obtain ⟨its, rv, p'⟩ := sqS_at I1 hq
    obtain ⟨o1, ho1⟩ := inS_lt p'
    have fin : ∀ h', IsEnum h' (s1.heap.objs.size + 1) s1.heap.objs.size 0 .none → ItS k h' s1.heap.objs.size a 0 → (∀ b o, s1.heap.get? b = some o → h'.get? b = some o) → PIE X pins σ (.Tuple elts kk tpos) R (.ref (s1.heap.objs.size + 1)) { s1 with heap := h' } := fun h' he hit hk => by
      have I2 : Inv X pins σ H1 { s1 with heap := h' } := I1.kept (t' := s1.toks) hk
      refine ⟨s1.heap.objs.size + 1, [s1.heap.objs.size + 1, s1.heap.objs.size], _, _, H1, rfl, I2, turn_enumS k a (s1.heap.objs.size + 1) s1.heap.objs.size (fun z => ?_), ⟨⟨.none, he⟩, hit, Nat.succ_ne_self _⟩, fun b hb => ?_, q⟩
      · have := Heap.lt_size ho1
        rw [← z] at this
        exact absurd this (by simp)
      · have e' : b = s1.heap.objs.size + 1 ∨ b = s1.heap.objs.size := by simpa using hb
        have hle : s1.heap.objs.size ≤ b := by
          rcases e' with z | z
          · rw [z]; exact Nat.le_add_right _ _
          · rw [z]; exact Nat.le_refl _
        exact I1.fpOk hle (I1.hok.fresh hle)
    cases k with
    | true => exact call_enumerate_tup p' fun h' he hit hsz hk => wpAny_pyIter_enum he (fin h' he hit hk)
    | false => exact call_enumerate_list p' fun h' he hit hsz hk => wpAny_pyIter_enum he (fin h' he hit hk)
def valsOf : List R → Option (List D)
  | [] => some []
  | .v d :: r => (valsOf r).map (d :: ·)
  | _ => none
theorem valsOf_eq : ∀ {rs : List R} {ds : List D}, valsOf rs = some ds → rs = ds.map .v
  | [], ds, h => by cases h; rfl
  | .v d :: r, ds, h => by
    obtain ⟨es, h1, h2⟩ := Option.map_eq_some_iff.mp (show (valsOf r).map (d :: ·) = some ds from h)
    subst h2
    rw [valsOf_eq h1]; rfl
  | .ref n :: r, ds, h => by cases h
/-- the items by value, and what must stand meanwhile -/
def seqP (S : Store) : R → Option (List D × List (Nat × MO))
  | .v (.tup ds) => some (ds, [])
  | .v (.lst ds) => some (ds, [])
  | .v (.kl ds) => some (ds, [])
  | .v (.kt ds) => some (ds, [])
  | .v _ => none
  | .ref n => match S[n]? with
    | some (.lst rs) => (valsOf rs).map fun ds => (ds, [(n, .lst rs)])
    | some (.fz (.lst ds)) => some (ds, [])
    | _ => none
section
variable {X : Cx} {E : St → XK} {a b e : Expr} {mr : MA} {K : PySem.W.Frag} {H : Hp} {ρ : Wd} {S : Store} {pos : Pos}
def SeqNow (K : PySem.W.Frag) (H : Hp) (ρ : Wd) (pins : List (Nat × MO)) (k : Bool) (a : Addr) (ds : List D) : Prop :=
  ∀ H2 ρ2 S2, Mo K H ρ H2 ρ2 → SR K H2 ρ2 S2 → pinsOk pins S2 → ∃ xs, SqS K H2 k a xs ∧ RpA K H2 ρ2 xs ds
theorem SeqNow.app {q : List (Nat × MO)} {k : Bool} {a : Addr} {ds : List D} : ∀ {p : List (Nat × MO)}, SeqNow K H ρ p k a ds → SeqNow K H ρ (p ++ q) k a ds ∧ SeqNow K H ρ (q ++ p) k a ds := by
  intro p h
  have l : ∀ (p q : List (Nat × MO)) (S : Store), pinsOk (p ++ q) S → pinsOk p S ∧ pinsOk q S := by
    intro p
    induction p with
    | nil => intro q S h; exact ⟨trivial, h⟩
    | cons x p ih => intro q S h; exact ⟨⟨h.1, (ih q S h.2).1⟩, (ih q S h.2).2⟩
  exact ⟨fun H2 ρ2 S2 mo s pk => h H2 ρ2 S2 mo s (l _ _ _ pk).1, fun H2 ρ2 S2 mo s pk => h H2 ρ2 S2 mo s (l _ _ _ pk).2⟩
theorem seqP_now (sr : SR K H ρ S) {v : V} {d : R} {ds : List D} {pins : List (Nat × MO)} (r : Rq K H ρ v d) (h : seqP S d = some (ds, pins)) : ∃ k a, v = .ref a ∧ SeqNow K H ρ pins k a ds ∧ pinsOk pins S := by
  cases r with
  | v r =>
    cases r <;> first | (cases h; done) | skip
    case tup hs ra => cases h; exact ⟨true, _, rfl, fun H2 ρ2 S2 mo _ _ => ⟨_, sqT_at (mo.tup _ _ hs), ra.mo mo⟩, trivial⟩
    case lst hs ra => cases h; exact ⟨false, _, rfl, fun H2 ρ2 S2 mo _ _ => ⟨_, (hs.mono mo).sq, ra.mo mo⟩, trivial⟩
    case kl hs ra => cases h; exact ⟨false, _, rfl, fun H2 ρ2 S2 mo _ _ => ⟨_, (mo.kl _ _ hs).sq, ra.mo mo⟩, trivial⟩
    case kt hs ra => cases h; exact ⟨true, _, rfl, fun H2 ρ2 S2 mo _ _ => ⟨_, (hs.mono mo).sq, ra.mo mo⟩, trivial⟩
  | @ref a n ea =>
    unfold seqP at h
    simp only at h
    split at h
    · rename_i rs hrs
      obtain ⟨es, h1, h2⟩ := Option.map_eq_some_iff.mp h
      cases h2
      have e := valsOf_eq h1
      refine ⟨false, a, rfl, fun H2 ρ2 S2 mo s pk => ?_, ⟨hrs, trivial⟩⟩
      obtain ⟨xs, hu, ra⟩ := s.obj n a _ (mo.ref _ _ ea) pk.1
      rw [e] at ra
      exact ⟨xs, .inl (.inl hu), ra.p⟩
    · rename_i ds' hds
      cases h
      have q : Rp K H ρ (.ref a) (.lst _) := sr.obj n a _ ea hds
      cases q with
      | lst hs ra => exact ⟨false, a, rfl, fun H2 ρ2 S2 mo _ _ => ⟨_, (hs.mono mo).sq, ra.mo mo⟩, trivial⟩
    · cases h
def enumI (ds : List D) : List R := ds.zipIdx.map fun p => .v (.tup [.int (p.2 : Int), p.1])
def zipI (ds es : List D) : List R := (ds.zip es).map fun p => .v (.tup [p.1, p.2])
theorem enumI_get (ds : List D) (i : Nat) : (enumI ds)[i]? = (ds[i]?).map fun d => .v (.tup [.int (i : Int), d]) := by
  unfold enumI
  rw [List.getElem?_map, List.getElem?_zipIdx]
  cases ds[i]? <;> simp
@[simp] theorem enumI_len (ds : List D) : (enumI ds).length = ds.length := by simp [enumI]
@[simp] theorem zipI_len (ds es : List D) : (zipI ds es).length = min ds.length es.length := by simp [zipI]
theorem okSrc_enum {k : Bool} {a : Addr} {ds : List D} {pins : List (Nat × MO)} (h : SeqNow K H ρ pins k a ds) : okSrc K ⟨enumI ds, pins⟩ H ρ (ItE K k a) := by
  have w : Walk (ItE K k a) ds.length (fun H => ∃ xs, SqS K H k a xs ∧ xs.length = ds.length) (fun i H v H' => ∃ T x, v = .ref T ∧ H T = none ∧ H' = upd H T (.tup [.int (i : Nat), x]) ∧ ∀ xs, SqS K H k a xs → xs[i]? = some x) := by
    refine ⟨fun i H hi q => ?_, fun H q => ?_, fun _ _ _ _ _ _ y => y⟩
    · obtain ⟨xs, q, hl⟩ := q
      exact ⟨xs, xs[i]'(by omega), q, by simp [hl, hi]⟩
    · obtain ⟨xs, q, hl⟩ := q
      exact ⟨xs, q, hl⟩
  refine ⟨_, _, by rw [show (⟨enumI ds, pins⟩ : Src).items.length = ds.length from enumI_len ds]; exact w, fun H2 ρ2 S2 mo s pk => ?_, ?_⟩
  · obtain ⟨xs, q, r⟩ := h H2 ρ2 S2 mo s pk
    exact ⟨xs, q, r.length⟩
  · rintro i H2 v H3 ρ2 S2 hi mo s2 pk ⟨T, x, rfl, hT, rfl, hx⟩
    obtain ⟨xs, q, r⟩ := h H2 ρ2 S2 mo s2 pk
    obtain ⟨d, hd, rd⟩ := r.get' (hx xs q)
    have mv : Mo K H2 ρ2 (upd H2 T (.tup [.int (i : Nat), x])) ρ2 := .new s2 hT
    exact ⟨.v (.tup [.int (i : Int), d]), by show (enumI ds)[i]? = _; rw [enumI_get, hd]; rfl, mv, s2.newT hT, .v (.tup upd_same (.cons (.int _) (.cons (rd.mo mv) .nil)))⟩
def en1 (ds : List R) (S : Store) : Out Src := match ds with
  | [d] => match seqP S d with
    | some p => .ok ⟨enumI p.1, p.2⟩ S
    | none => .no
  | _ => .no
def srcEnum (r : MA) : MI := fun m S => (r m S).bind en1
def zp2 (ds : List R) (S : Store) : Out Src := match ds with
  | [d, e] => match seqP S d, seqP S e with
    | some p, some q => .ok ⟨zipI p.1 q.1, p.2 ++ q.2⟩ S
    | _, _ => .no
  | _ => .no
def srcZip (r : MA) : MI := fun m S => (r m S).bind zp2
theorem pim_enum {p tpos : Pos} {elts : List Expr} {kk : Nat} (hg : Gl X "enumerate") (hm : X.mg "enumerate" = none) (ha : PA X [a] (tA X.K E mr)) (hs : starEach [a] X.env = [(false, eval a X.env)] := by rfl) : PI X (.Tuple elts kk tpos) (.Call (.Name "enumerate" p) [a] [] pos) (tI X.K E (srcEnum mr)) := by
  refine PI.imp (pi_enumS hg hm ha hs) ?_
  intro σ H R h
  refine tI_of h fun ds S1 xs H1 ρ1 s1 r1 h1 => ?_
  split at h1
  · rename_i it S' ho
    unfold en1 at ho
    split at ho
    · split at ho
      · rename_i p hp
        cases ho
        obtain ⟨v, rfl, r2⟩ := r1.one
        obtain ⟨k, a', rfl, hn, hpk⟩ := seqP_now s1 r2 (ds := p.1) (pins := p.2) hp
        obtain ⟨ys, q, _⟩ := hn H1 ρ1 _ .refl s1 hpk
        exact ⟨k, a', ys, rfl, q, h1 _ H1 ρ1 .refl s1 (okSrc_enum hn)⟩
      · cases ho
    · cases ho
  · rename_i ho
    unfold en1 at ho
    split at ho
    · split at ho <;> cases ho
    · cases ho
  · exact h1.elim
end
section
variable {S : Store} {r : MA} {m : Env}
@[simp] theorem srcEnum_eq : srcEnum r m S = (r m S).bind en1 := id rfl
@[simp] theorem srcZip_eq : srcZip r m S = (r m S).bind zp2 := id rfl
@[simp] theorem en1_tup (ds : List D) : en1 [.v (.tup ds)] S = .ok ⟨enumI ds, []⟩ S := id rfl
@[simp] theorem en1_lst (ds : List D) : en1 [.v (.lst ds)] S = .ok ⟨enumI ds, []⟩ S := id rfl
@[simp] theorem zp2_tt (ds es : List D) : zp2 [.v (.tup ds), .v (.tup es)] S = .ok ⟨zipI ds es, []⟩ S := id rfl
@[simp] theorem zp2_tl (ds es : List D) : zp2 [.v (.tup ds), .v (.lst es)] S = .ok ⟨zipI ds es, []⟩ S := id rfl
@[simp] theorem zp2_lt (ds es : List D) : zp2 [.v (.lst ds), .v (.tup es)] S = .ok ⟨zipI ds es, []⟩ S := id rfl
@[simp] theorem zp2_ll (ds es : List D) : zp2 [.v (.lst ds), .v (.lst es)] S = .ok ⟨zipI ds es, []⟩ S := id rfl
end
end M
namespace L2
open PySem PySem.Spec
theorem Room.units65 {k : Nat} {A : Around} (r : Room k A) : A.units + 65 < cLine := by have := r.un; omega
end L2
namespace M
open PySem PySem.Spec L2
open PyProof.Rows hiding St
section
variable {S : Store}
theorem opIn_sign (c : Nat) (z : Str) : opIn (.v (.str ⟨#[c]⟩)) (.v (.str z)) S = .ok (.v (.bl (decide (c ∈ z.cps.toList)))) S := by
  unfold opIn inM signOf
  simp
/-- isinstance of data -/
def isStr : D → Bool
  | .str _ => true
  | .txt => true
  | _ => false
def isTup : D → Bool
  | .tup _ => true
  | _ => false
def notTy : D → Bool
  | .ty _ => false
  | .txt => false
  | .kt _ => false
  | _ => true
end
end M
namespace M
open PySem PySem.Spec L2
open PyProof.Rows hiding St
variable {K : PySem.W.Frag} {H H' : Hp} {ρ ρ' : Wd} {S : Store}
def keyOf : R → Option Key
  | .v (.int i) => some (.inl i)
  | .v (.str x) => some (.inr x)
  | _ => none
/-- in its place, or at the end -/
def putR (kvs : List (Key × R)) (k : Key) (v : R) : List (Key × R) :=
  if (kvs.any fun kv => decide (kv.1 = k)) = true then kvs.map (fun kv => if kv.1 = k then (kv.1, v) else kv) else kvs ++ [(k, v)]
def valR (kvs : List (Key × R)) (k : Key) : Option R := (kvs.find? fun kv => decide (kv.1 = k)).map (·.2)
def mergeR (kvs more : List (Key × R)) : List (Key × R) := more.foldl (fun acc kv => putR acc kv.1 kv.2) kvs
theorem RpP.any {vs : List (Key × V)} {ds : List (Key × R)} (h : RpP K H ρ vs ds) (k : Key) : (vs.any fun kv => decide (kv.1 = k)) = ds.any fun kv => decide (kv.1 = k) := by
  unfold RpP at h
  induction h with
  | nil => rfl
  | cons h1 h2 ih => rw [List.any_cons, List.any_cons, ih, h1.1]
theorem RpP.append {vs ws : List (Key × V)} {ds es : List (Key × R)} (h : RpP K H ρ vs ds) (k : RpP K H ρ ws es) : RpP K H ρ (vs ++ ws) (ds ++ es) := by
  unfold RpP at h
  induction h with
  | nil => exact k
  | cons h1 h2 ih => exact .cons h1 ih
theorem RpP.repl {vs : List (Key × V)} {ds : List (Key × R)} (h : RpP K H ρ vs ds) (k : Key) {v : V} {d : R} (r : Rq K H ρ v d) : RpP K H ρ (vs.map fun kv => if kv.1 = k then (kv.1, v) else kv) (ds.map fun kv => if kv.1 = k then (kv.1, d) else kv) := by
  unfold RpP at h
  induction h with
  | nil => exact .nil
  | @cons p q ps qs h1 h2 ih =>
    refine .cons ?_ ih
    by_cases hk : p.1 = k
    · have hk' : q.1 = k := by rw [← h1.1]; exact hk
      simp only [if_pos hk, if_pos hk']
      exact ⟨h1.1, r⟩
    · have hk' : ¬ q.1 = k := by rw [← h1.1]; exact hk
      simp only [if_neg hk, if_neg hk']
      exact h1
theorem RpP.put {vs : List (Key × V)} {ds : List (Key × R)} (h : RpP K H ρ vs ds) (k : Key) {v : V} {d : R} (r : Rq K H ρ v d) : RpP K H ρ (putK vs k v) (putR ds k d) := by
  unfold putK putR
  rw [h.any k]
  split
  · exact h.repl k r
  · exact h.append (.cons ⟨rfl, r⟩ .nil)
theorem RpP.merge {ws : List (Key × V)} {es : List (Key × R)} (g : RpP K H ρ ws es) : ∀ {vs : List (Key × V)} {ds : List (Key × R)}, RpP K H ρ vs ds → RpP K H ρ (mergeK vs ws) (mergeR ds es) := by
  unfold RpP at g
  induction g with
  | nil => exact fun h => h
  | @cons p q ps qs h1 h2 ih =>
    intro vs ds h
    have := RpP.put h p.1 h1.2
    rw [show putR ds p.1 q.2 = putR ds q.1 q.2 by rw [h1.1]] at this
    exact ih this
/-- a cell that is a dict -/
theorem SR.dK {n : Nat} {a : Addr} {ds : List (Key × R)} (sr : SR K H ρ S) (e : ρ.r[n]? = some a) (h : S[n]? = some (.dK ds)) : ∃ xs, H a = some (.dK xs) ∧ RpP K H ρ xs ds ∧ ¬ ρ.z a := by
  obtain ⟨xs, hu, r⟩ := sr.obj n a _ e h
  exact ⟨xs, hu, r, sr.lv n a _ e h trivial⟩
def mDct0 : ME := fun _ S => .ok (.ref S.length) (S ++ [.dK []])
def getC (x y : R) (S : Store) : Option R := match x with
  | .ref n => match S[n]? with
    | some (.lst ds) => match y with
      | .v (.int i) => atI ds i
      | _ => none
    | some (.dK kvs) => (keyOf y).bind fun k => valR kvs k
    | _ => none
  | _ => none
def setC (x y d : R) (S : Store) : Option Store := match x with
  | .ref n => match S[n]? with
    | some (.lst ds) => match y with
      | .v (.int i) => match ixN ds.length i with
        | some j => some (S.set n (.lst (ds.set j d)))
        | none => none
      | _ => none
    | some (.dK kvs) => (keyOf y).bind fun k => if kvs.length < sizeLine then some (S.set n (.dK (putR kvs k d))) else none
    | _ => none
  | _ => none
section
variable {X : Cx}
def mAugIx (f o i : ME) (g : R → R → Store → Out R) : MS := fun m S => (o m S).thenS m fun x S1 => (i m S1).thenS m fun y S2 => match getC x y S2 with
  | some old => (f m S2).thenS m fun d S3 => (g old d S3).thenS m fun z S4 => match setC x y z S4 with
    | some S5 => .nx m S5
    | none => .no
  | none => .no
end
def dkOf (S : Store) : R → Option (List (Key × R))
  | .v (.dct ks ds) => some (ks.zip (ds.map .v))
  | .ref n => match S[n]? with
    | some (.dK kvs) => some kvs
    | _ => none
  | _ => none
theorem RpP.zip : ∀ {ks : List Key} {xs : List V} {ds : List R}, RqA K H ρ xs ds → RpP K H ρ (ks.zip xs) (ks.zip ds)
  | [], _, _, _ => .nil
  | _ :: _, _, _, .nil => .nil
  | _ :: _, _, _, .cons h1 h2 => .cons ⟨rfl, h1⟩ (RpP.zip h2)
end M
namespace M
open PySem PySem.Spec L2
open PyProof.Rows hiding St
def isort (ns : List Int) : List Int := ns.mergeSort fun a b => decide (a ≤ b)
end M
namespace M
open PySem PySem.Spec L2
open PyProof.Rows hiding St
variable {K : PySem.W.Frag} {H H' : Hp} {ρ ρ' : Wd} {S S' : Store}
structure ClsT (K : PySem.W.Frag) (c : Str) (C : Addr) : Prop where
  at_ : PySem.W.nsIn K mainGlobals c = some (some (.ref C))
  cl : Cls K C
def putR' (f : Str) (d : R) : List (Str × R) → List (Str × R)
  | [] => [(f, d)]
  | (g, x) :: r => if g = f then (g, d) :: r else (g, x) :: putR' f d r
theorem RpP.look {vs : List (Str × V)} {ds : List (Str × R)} (h : RpP K H ρ vs ds) (f : Str) {d : R} (e : ds.lookup f = some d) : ∃ v, vs.lookup f = some v ∧ Rq K H ρ v d := by
  unfold RpP at h
  induction h with
  | nil => cases e
  | @cons p q ps qs h1 h2 ih =>
    obtain ⟨g, v⟩ := p
    obtain ⟨g', x⟩ := q
    obtain ⟨e1, e2⟩ := h1
    have e1 : g = g' := e1
    subst e1
    rw [List.lookup_cons] at e ⊢
    split at e
    · cases e; exact ⟨v, rfl, e2⟩
    · exact ih e
theorem RpP.lookN {vs : List (Str × V)} {ds : List (Str × R)} (h : RpP K H ρ vs ds) (f : Str) (e : ds.lookup f = none) : vs.lookup f = none := by
  unfold RpP at h
  induction h with
  | nil => rfl
  | @cons p q ps qs h1 h2 ih =>
    obtain ⟨g, v⟩ := p
    obtain ⟨g', x⟩ := q
    obtain ⟨e1, e2⟩ := h1
    have e1 : g = g' := e1
    subst e1
    rw [List.lookup_cons] at e ⊢
    split at e
    · cases e
    · exact ih e
theorem RpP.putF {vs : List (Str × V)} {ds : List (Str × R)} (h : RpP K H ρ vs ds) (f : Str) {v : V} {d : R} (r : Rq K H ρ v d) : RpP K H ρ (L2.putF f v vs) (putR' f d ds) := by
  unfold RpP at h
  induction h with
  | nil => exact .cons ⟨rfl, r⟩ .nil
  | @cons p q ps qs h1 h2 ih =>
    obtain ⟨g, w⟩ := p
    obtain ⟨g', x⟩ := q
    obtain ⟨e1, e2⟩ := h1
    have e1 : g = g' := e1
    subst e1
    show RpP K H ρ (if g = f then (g, v) :: ps else (g, w) :: L2.putF f v ps) (if g = f then (g, d) :: qs else (g, x) :: putR' f d qs)
    split
    · exact .cons ⟨rfl, r⟩ h2
    · exact .cons ⟨rfl, e2⟩ ih
def insOf (c : Str) (S : Store) : R → Option (List (Str × R))
  | .ref n => match S[n]? with
    | some (.ins c' fs) => if c' = c then some fs else none
    | _ => none
  | _ => none
theorem SR.ins {c : Str} {C : Addr} {v : V} {d : R} {gs : List (Str × R)} (T : ClsT K c C) (sr : SR K H ρ S) (r : Rq K H ρ v d) (h : insOf c S d = some gs) :
    ∃ n a dx fs, d = .ref n ∧ v = .ref a ∧ ρ.r[n]? = some a ∧ S[n]? = some (.ins c gs) ∧ H a = some (.ins C dx fs) ∧ RpP K H ρ fs gs ∧ ¬ ρ.z a := by
  cases r with
  | v r => cases h
  | @ref a n ea =>
    unfold insOf at h
    simp only at h
    split at h
    · rename_i c' fs hx
      split at h
      · rename_i hc
        cases h
        subst hc
        obtain ⟨C', dx, vs, h1, h2, h3⟩ := sr.obj n a _ ea hx
        have e : C' = C := by
          have := h1.symm.trans T.at_
          cases this
          rfl
        subst e
        exact ⟨n, a, dx, vs, rfl, rfl, ea, hx, h2, h3, sr.lv n a _ ea hx trivial⟩
      · cases h
    · cases h
def mFld (c f : Str) (a : ME) : ME := fun m S => (a m S).bind fun d S1 => match (insOf c S1 d).bind fun fs => fs.lookup f with
  | some r => .ok r S1
  | none => .no
def mSetFld (c f : Str) (o v : ME) : MS := fun m S => (v m S).thenS m fun d S1 => (o m S1).thenS m fun x S2 => match x, insOf c S2 x with
  | .ref n, some fs => if fs.length < 1000 then .nx m (S2.set n (.ins c (putR' f d fs))) else .no
  | _, _ => .no
def mAugFld (c f : Str) (o : ME) (g : R → R → Store → Out R) (v : ME) : MS := fun m S => (o m S).thenS m fun x S1 => match (insOf c S1 x).bind fun fs => fs.lookup f with
  | some old => (v m S1).thenS m fun d S2 => (g old d S2).thenS m fun z S3 => match x, insOf c S3 x with
    | .ref n, some fs => if fs.length < 1000 then .nx m (S3.set n (.ins c (putR' f z fs))) else .no
    | _, _ => .no
  | none => .no
def mMethC (c m' : Str) (g : List R → Store → Out R) (o : ME) (r : MA) : ME := fun m S => (o m S).bind fun x S1 => match insOf c S1 x with
  | some fs => match fs.lookup m' with
    | none => (r m S1).bind fun ds S2 => g (x :: ds) S2
    | some _ => .no
  | none => .no
def mMake (c : Str) (g : List R → Store → Out R) (r : MA) : ME := fun m S => (r m S).bind fun ds S1 => (g (.ref S1.length :: ds) (S1 ++ [.ins c []])).bind fun z S2 => match z with
  | .v .non => .ok (.ref S1.length) S2
  | _ => .no
section
variable {X : Cx} {E : St → XK} {a b o e value : Expr} {es : List Expr} {ma mb mo mv : ME} {mr : MA} {c f : Str} {C : Addr} {pos pos' apos tpos p : Pos}
theorem pm_fld (T : ClsT X.K c C) (n : NoAttr X.K C f) (ha : PE X a (tE X.K E ma)) (hb : attributeBase a f X.env (eval a X.env) = eval a X.env := by rfl) : PE X (.Attribute a f pos) (tE X.K E (mFld c f ma)) := by
  refine PE.imp (pe_fld ha hb) ?_
  rintro σ H Q ⟨ρ, m, S, sr, er, h⟩
  refine ⟨ρ, m, S, sr, er, RO.bind h fun d S1 v H1 ρ1 m1 s1 r1 h1 => ?_⟩
  split at h1
  · rename_i r hr
    obtain ⟨gs, hg, hl⟩ := Option.bind_eq_some_iff.mp hr
    obtain ⟨k, q, dx, fs, rfl, rfl, e1, e2, e3, e4, e5⟩ := s1.ins T r1 hg
    obtain ⟨w, l1, l2⟩ := e4.look f hl
    exact ⟨q, C, dx, fs, w, rfl, e3, T.cl, n, l1, h1 _ _ _ .refl s1 l2⟩
  · exact h1.elim
theorem psm_fld (T : ClsT X.K c C) (n : NoAttr X.K C f) (ho : PE X o (tE X.K E mo)) (hv : PE X value (tE X.K E mv)) (hs : swapsWith value (some (.Attribute o f pos')) pos.line X.env = pure false := by rfl) : PS X (.Assign [.Attribute o f pos'] value pos) (tS X.K E (mSetFld c f mo mv)) := by
  refine PS.imp (ps_fld ho hv hs) ?_
  rintro D σ H ⟨ρ, m, S, sr, er, h⟩
  refine ⟨ρ, m, S, sr, er, RS.bind er h fun d S1 v H1 ρ1 m1 s1 r1 er1 h1 => ?_⟩
  refine ⟨ρ1, m, S1, s1, er1, RS.bind er1 h1 fun x S2 w H2 ρ2 m2 s2 r2 er2 h2 => ?_⟩
  split at h2
  · rename_i k gs hk
    split at h2
    · rename_i hz
      obtain ⟨k', q, dx, fs, e0, rfl, e1, e2, e3, e4, e5⟩ := s2.ins T r2 hk
      cases e0
      have mo : Mo X.K H2 ρ2 (upd H2 q (.ins C dx (L2.putF f v fs))) ρ2 := .set e3 trivial e5
      refine ⟨q, C, dx, fs, rfl, e3, T.cl, n, by rw [show fs.length = gs.length from Paired.length e4]; exact hz, ?_⟩
      exact h2 σ _ ρ2 mo (s2.set e1 e3 trivial e5 ⟨C, dx, _, T.at_, upd_same, (e4.putF f (r1.mo m2)).mo mo⟩) (er2.mo mo)
    · exact h2.elim
  · exact h2.elim
theorem psm_fldaug {op : Operator} {g : R → R → Store → Out R} (T : ClsT X.K c C) (n : NoAttr X.K C f) (ho : PE X o (tE X.K E mo)) (hv : PE X value (tE X.K E mv)) (hp : PIp X op (rM X.K g)) : PS X (.AugAssign (.Attribute o f tpos) op value pos) (tS X.K E (mAugFld c f mo g mv)) := by
  refine PS.imp (ps_fldaug ho hv hp) ?_
  rintro D σ H ⟨ρ, m, S, sr, er, h⟩
  refine ⟨ρ, m, S, sr, er, RS.bind er h fun x S1 v H1 ρ1 m1 s1 r1 er1 h1 => ?_⟩
  split at h1
  · rename_i old hr
    obtain ⟨gs, hg, hl⟩ := Option.bind_eq_some_iff.mp hr
    obtain ⟨k, q, dx, fs, rfl, rfl, e1, e2, e3, e4, e5⟩ := s1.ins T r1 hg
    obtain ⟨w, l1, l2⟩ := e4.look f hl
    refine ⟨q, C, dx, fs, w, rfl, e3, T.cl, n, l1, ?_⟩
    refine ⟨ρ1, m, S1, s1, er1, RS.bind er1 h1 fun d S2 y H2 ρ2 m2 s2 r2 er2 h2 => ?_⟩
    refine ⟨_, ρ2, S2, old, d, s2, l2.mo m2, r2, RS.bind er2 h2 fun z S3 zv H3 ρ3 m3 s3 r3 er3 h3 => ?_⟩
    split at h3
    · rename_i n' gs' hn' hg'
      split at h3
      · rename_i hz
        cases hn'
        obtain ⟨k', q', dx', fs', e0, ev, e1', e2', e3', e4', e5'⟩ := s3.ins T ((r1.mo m2).mo m3) hg'
        cases e0; cases ev
        have mo : Mo X.K H3 ρ3 (upd H3 q (.ins C dx' (L2.putF f zv fs'))) ρ3 := .set e3' trivial e5'
        refine ⟨dx', fs', e3', by rw [show fs'.length = gs'.length from Paired.length e4']; exact hz, ?_⟩
        exact h3 σ _ ρ3 mo (s3.set e1' e3' trivial e5' ⟨C, dx', _, T.at_, upd_same, (e4'.putF f r3).mo mo⟩) (er3.mo mo)
      · exact h3.elim
    · exact h3.elim
  · exact h1.elim
/-- where arguments are handed on -/
theorem spM_in {n : Nat} {g : List R → Store → Out R} {vs : List V} {H : Hp} {Q : VK} {E : XK} {ρ : Wd} {S : Store} {ds : List R} (hn : ds.length = n) (sr : SR K H ρ S) (r : RqA K H ρ vs ds) (h : RO K (relD K) E H ρ (g ds S) Q) : spM K n g vs H Q E := ⟨by rw [r.length, hn], ρ, S, ds, sr, r, h⟩
theorem pm_meth {m' : Str} {CX : CXT} {k n : Nat} {fa : Addr} {fd : FuncData} {ps : List Str} {g : List R → Store → Out R} {pl : Sem Bool} (T : ClsT X.K c C) (hm : Meth X.K C m' fa) (F : FnOk X.prog X.w X.K X.mg X.base CX k fa fd ps (spM X.K (n + 1) g)) (hr : Room k X.A) (hb : Binds X.K fd ps [])
    {E0 : XK} (hx : Passes CX X E0) (hE : ∀ σ, E σ = E0) (ho : PE X o (tE X.K E mo)) (ha : PA X (e :: es) (tA X.K E mr)) (hA : ∀ m S ds S', mr m S = .ok ds S' → ds.length = n)
    (hst : starEach (e :: es) X.env = (false, eval e X.env) :: starEach es X.env := by rfl) (hpl : (backTo pos (starEach es X.env)).any (·.1) = false := by rfl)
    (ht : eval (.Call (.Attribute o m' apos) (e :: es) [] pos) X.env = (do
      let ov ← eval o X.env
      standAt apos.atName
      let (f, first) ← holding [ov] (getMethod ov m' pl)
      callWith pos f first (backTo pos (starEach (e :: es) X.env)) (backToKw pos (keywordEach [] X.env))) := by rfl) :
    PE X (.Call (.Attribute o m' apos) (e :: es) [] pos) (tE X.K E (mMethC c m' g mo mr)) := by
  refine PE.imp (pe_meth (E := E0) ho T.cl hm F hr hb .nil hx ha hst hpl ht) ?_
  rintro σ H Q ⟨ρ, m, S, sr, er, h⟩
  refine ⟨ρ, m, S, sr, er, RO.bind h fun x S1 v H1 ρ1 m1 s1 r1 h1 => ?_⟩
  split at h1
  · rename_i gs hg
    obtain ⟨k', q, dx, fs, rfl, rfl, e1, e2, e3, e4, e5⟩ := s1.ins T r1 hg
    split at h1
    · rename_i hl
      refine ⟨q, dx, fs, rfl, e3, e4.lookN _ hl, ρ1, m, S1, s1, er.mo m1, ?_⟩
      have hA := hA m S1
      generalize mr m S1 = oo at h1 hA ⊢
      cases oo with
      | ok ds S2 =>
        intro vs H2 ρ2 m2 s2 r2
        rw [List.append_nil]
        refine spM_in (by rw [List.length_cons, hA ds S2 rfl]) s2 (.cons (r1.mo m2) r2) ?_
        have := RO.mono h1 m2
        rw [hE] at this
        exact this
      | exc c' S2 => exact h1
      | no => exact h1
    · exact h1.elim
  · exact h1.elim
theorem pm_meth0 {m' : Str} {CX : CXT} {k : Nat} {fa : Addr} {fd : FuncData} {ps : List Str} {g : List R → Store → Out R} {pl : Sem Bool} (T : ClsT X.K c C) (hm : Meth X.K C m' fa) (F : FnOk X.prog X.w X.K X.mg X.base CX k fa fd ps (spM X.K 1 g)) (hr : Room k X.A) (hb : Binds X.K fd ps [])
    {E0 : XK} (hx : Passes CX X E0) (hE : ∀ σ, E σ = E0) (ho : PE X o (tE X.K E mo))
    (ht : eval (.Call (.Attribute o m' apos) [] [] pos) X.env = (do
      let ov ← eval o X.env
      standAt apos.atName
      let (f, first) ← holding [ov] (getMethod ov m' pl)
      callWith pos f first (backTo pos (starEach [] X.env)) (backToKw pos (keywordEach [] X.env))) := by rfl) :
    PE X (.Call (.Attribute o m' apos) [] [] pos) (tE X.K E (mMethC c m' g mo mNil)) := by
  refine PE.imp (pe_meth0 (E := E0) ho T.cl hm F hr hb .nil hx ht) ?_
  rintro σ H Q ⟨ρ, m, S, sr, er, h⟩
  refine ⟨ρ, m, S, sr, er, RO.bind h fun x S1 v H1 ρ1 m1 s1 r1 h1 => ?_⟩
  split at h1
  · rename_i gs hg
    obtain ⟨k', q, dx, fs, rfl, rfl, e1, e2, e3, e4, e5⟩ := s1.ins T r1 hg
    split at h1
    · rename_i hl
      refine ⟨q, dx, fs, rfl, e3, e4.lookN _ hl, ?_⟩
      have h1 : RO X.K (relD X.K) (E σ) H1 ρ1 (g [.ref k'] S1) Q := h1
      rw [hE] at h1
      exact spM_in rfl s1 (.cons r1 .nil) h1
    · exact h1.elim
  · exact h1.elim
theorem made {c : Str} {C x dx : Addr} {vs : List V} {ds : List R} {g : List R → Store → Out R} {n : Nat} {Q : VK} {E0 : XK} (T : ClsT K c C) (sr : SR K H ρ S) (r : RqA K H ρ vs ds) (hn : ds.length = n) (hx : H x = none) (hd : H dx = none) (hne : dx ≠ x)
    (h : RO K (relD K) E0 H ρ ((g (.ref S.length :: ds) (S ++ [.ins c []])).bind fun z S2 => match z with | .v .non => .ok (.ref S.length) S2 | _ => .no) Q) :
    spM K (n + 1) g (.ref x :: vs) (upd (upd H dx (.own x)) x (.ins C dx [])) (fun v H2 => v = .non ∧ Q (.ref x) H2) E0 := by
  have m1 : Mo K H ρ (upd H dx (.own x)) ρ := .new sr hd
  have s1 : SR K (upd H dx (.own x)) ρ S := sr.newT hd
  have hx1 : upd H dx (.own x) x = none := by rw [upd_ne (Ne.symm hne)]; exact hx
  have m2 : Mo K (upd H dx (.own x)) ρ (upd (upd H dx (.own x)) x (.ins C dx [])) ⟨ρ.r ++ [x], ρ.z⟩ := .newR s1 hx1
  have s2 : SR K (upd (upd H dx (.own x)) x (.ins C dx [])) ⟨ρ.r ++ [x], ρ.z⟩ (S ++ [.ins c []]) := s1.new hx1 ⟨C, dx, [], T.at_, upd_same, .nil⟩
  have hr : (ρ.r ++ [x])[S.length]? = some x := by rw [← sr.len, List.getElem?_append_right (Nat.le_refl _), Nat.sub_self]; rfl
  refine spM_in (by rw [List.length_cons, hn]) s2 (.cons (.ref hr) ((r.mo m1).mo m2)) (RO.bind (RO.mono (RO.mono h m1) m2) fun z S2 zv H2 ρ2 m3 s3 r3 h3 => ?_)
  split at h3
  · cases r3 with
    | v r3 => cases r3; exact ⟨rfl, h3 _ _ _ .refl s3 (.ref (m3.ref _ _ hr))⟩
  · exact h3.elim
theorem pm_make {x : Str} {CX : CXT} {k n : Nat} {fa : Addr} {fd : FuncData} {ps : List Str} {g : List R → Store → Out R} (T : ClsT X.K x C) (Mc : Mk X.K C fa) (F : FnOk X.prog X.w X.K X.mg X.base CX k fa fd ps (spM X.K (n + 1) g)) (hr : Room (k + 1) X.A) (hg : Gl X x) (hm : X.mg x = some (.ref C)) (hb : Binds X.K fd ps [])
    {E0 : XK} (hx : Passes CX X E0) (hE : ∀ σ, E σ = E0) (ha : PA X (e :: es) (tA X.K E mr)) (hA : ∀ m S ds S', mr m S = .ok ds S' → ds.length = n) (hdb : (x == ("__debug__" : Str)) = false := by decide) (he : starEach (e :: es) X.env = (false, eval e X.env) :: starEach es X.env := by rfl) (hpl : (backTo pos (starEach es X.env)).any (·.1) = false := by rfl) :
    PE X (.Call (.Name x p) (e :: es) [] pos) (tE X.K E (mMake x g mr)) := by
  refine PE.imp (pe_make (E := E0) Mc F hr hg hm hb .nil hx ha hdb he hpl) ?_
  rintro σ H Q ⟨ρ, m, S, sr, er, h⟩
  have hA := hA m S
  refine ⟨ρ, m, S, sr, er, ?_⟩
  unfold mMake at h
  generalize mr m S = oo at h hA ⊢
  cases oo with
  | ok ds S1 =>
    intro vs H1 ρ1 m1 s1 r1 y dy hy hdy hne
    rw [List.append_nil]
    have h2 := RO.mono h m1
    rw [hE] at h2
    exact made T s1 r1 (hA ds S1 rfl) hy hdy hne h2
  | exc c' S1 => exact h
  | no => exact h
end
def keyD : D → Option Key
  | .int i => some (.inl i)
  | .str x => some (.inr x)
  | _ => none
def keyDs : List D → Option (List Key)
  | [] => some []
  | d :: ds => match keyD d, keyDs ds with
    | some k, some ks => some (k :: ks)
    | _, _ => none
def keyT : R → Option (List Key)
  | .v (.tup ds) => keyDs ds
  | _ => none
def dKey : Key → D
  | .inl i => .int i
  | .inr x => .str x
def putT (kvs : List (List Key × R)) (k : List Key) (v : R) : List (List Key × R) :=
  if (kvs.any fun kv => decide (kv.1 = k)) = true then kvs.map (fun kv => if kv.1 = k then (kv.1, v) else kv) else kvs ++ [(k, v)]
def valT (kvs : List (List Key × R)) (k : List Key) : Option R := (kvs.find? fun kv => decide (kv.1 = k)).map (·.2)
section
variable {κ : Type} [DecidableEq κ]
theorem RpPk.any {vs : List (κ × V)} {ds : List (κ × R)} (h : RpP K H ρ vs ds) (k : κ) : (vs.any fun kv => decide (kv.1 = k)) = ds.any fun kv => decide (kv.1 = k) := by
  unfold RpP at h
  induction h with
  | nil => rfl
  | cons h1 h2 ih => rw [List.any_cons, List.any_cons, ih, h1.1]
theorem RpPk.append {vs ws : List (κ × V)} {ds es : List (κ × R)} (h : RpP K H ρ vs ds) (k : RpP K H ρ ws es) : RpP K H ρ (vs ++ ws) (ds ++ es) := by
  unfold RpP at h
  induction h with
  | nil => exact k
  | cons h1 h2 ih => exact .cons h1 ih
theorem RpPk.repl {vs : List (κ × V)} {ds : List (κ × R)} (h : RpP K H ρ vs ds) (k : κ) {v : V} {d : R} (r : Rq K H ρ v d) : RpP K H ρ (vs.map fun kv => if kv.1 = k then (kv.1, v) else kv) (ds.map fun kv => if kv.1 = k then (kv.1, d) else kv) := by
  unfold RpP at h
  induction h with
  | nil => exact .nil
  | @cons p q ps qs h1 h2 ih =>
    refine .cons ?_ ih
    by_cases hk : p.1 = k
    · have hk' : q.1 = k := by rw [← h1.1]; exact hk
      simp only [if_pos hk, if_pos hk']
      exact ⟨h1.1, r⟩
    · have hk' : ¬ q.1 = k := by rw [← h1.1]; exact hk
      simp only [if_neg hk, if_neg hk']
      exact h1
end
def mDctT0 : ME := fun _ S => .ok (.ref S.length) (S ++ [.dT []])
def mSetT (f o i : ME) : MS := fun m S => (f m S).thenS m fun d S1 => (o m S1).thenS m fun x S2 => (i m S2).thenS m fun y S3 => match x, keyT y with
  | .ref n, some k => match S3[n]? with
    | some (.dT kvs) => if kvs.length < sizeLine then .nx m (S3.set n (.dT (putT kvs k d))) else .no
    | _ => .no
  | _, _ => .no
def keysT (kvs : List (List Key × R)) : List R := kvs.map fun kv => .v (.tup (kv.1.map dKey))
def vOf : R → Option D
  | .v d => some d
  | .ref _ => none
def itemsT (kvs : List (List Key × R)) : Option (List R) := kvs.mapM fun kv => (vOf kv.2).map fun d => R.v (.tup [.tup (kv.1.map dKey), d])
def keysK (kvs : List (Key × R)) : List R := kvs.map fun kv => .v (dKey kv.1)
def lkD (S : Store) : R → Option MO
  | .ref n => S[n]?
  | _ => none
def srcKeys (a : ME) : MI := fun m S => (a m S).bind fun d S1 => match lkD S1 d with
  | some (.lkT kvs) => .ok ⟨keysT kvs, []⟩ S1
  | some (.lkK kvs) => .ok ⟨keysK kvs, []⟩ S1
  | _ => .no
def srcItemsT (a : ME) : MI := fun m S => (a m S).bind fun d S1 => match lkD S1 d with
  | some (.lkT kvs) => match itemsT kvs with
    | some xs => .ok ⟨xs, []⟩ S1
    | none => .no
  | _ => .no
theorem RpP.get {κ : Type} {vs : List (κ × V)} {ds : List (κ × R)} (h : RpP K H ρ vs ds) : ∀ {i : Nat} {p : κ × V}, vs[i]? = some p → ∃ d, ds[i]? = some (p.1, d) ∧ Rq K H ρ p.2 d := by
  unfold RpP at h
  induction h with
  | nil => intro i p e; simp at e
  | @cons a b as bs h1 h2 ih =>
    intro i p e
    cases i with
    | zero =>
      simp at e
      subst e
      exact ⟨b.2, by simp [h1.1], h1.2⟩
    | succ i => simpa using ih (by simpa using e)
end M
namespace M
open PySem PySem.Spec L2
open PyProof.Rows hiding St
end M
namespace M
open PySem hiding Env
open L2
def wE {α : Type} (o : Out α) (K : Out α → Prop) : Prop := K o
def wS (o : OutS) (K : OutS → Prop) : Prop := K o
def wTg (o : Option Env) (P : Env → Prop) : Prop := match o with
  | some m => P m
  | none => False
def kB {α β : Type} (f : α → Store → Out β) (K : Out β → Prop) : Out α → Prop := fun o => K (o.bind f)
def kT {α : Type} (m : Env) (f : α → Store → OutS) (K : OutS → Prop) : Out α → Prop := fun o => K (o.thenS m f)
def kSeq (g : MS) (K : OutS → Prop) : OutS → Prop := fun o => K (match o with | .nx m S => g m S | o => o)
def kDef (K : Out R → Prop) : OutS → Prop := fun o => K (match o with | .rt d S' => .ok d S' | .nx _ S' => .ok .non S' | _ => .no)
def kTrim (S : Store) (K : OutS → Prop) : OutS → Prop := fun o => K (match o with | .nx m2 S2 => trim S m2 S2 .nx | .ct m2 S2 => trim S m2 S2 .ct | o => o)
section
variable {α β : Type} {m m' : Env} {S S' : Store}
theorem wE_ok (a : α) (K : Out α → Prop) : wE (.ok a S) K = K (.ok a S) := id rfl
theorem wE_bind (o : Out α) (f : α → Store → Out β) (K : Out β → Prop) : wE (o.bind f) K = wE o (kB f K) := id rfl
theorem kB_ok (f : α → Store → Out β) (K : Out β → Prop) (a : α) : kB f K (.ok a S) = wE (f a S) K := id rfl
theorem kB_exc (f : α → Store → Out β) (K : Out β → Prop) (c : Exc) : kB f K (.exc c S) = K (.exc c S) := id rfl
theorem wS_then (o : Out α) (f : α → Store → OutS) (K : OutS → Prop) : wS (o.thenS m f) K = wE o (kT m f K) := id rfl
theorem kT_ok (f : α → Store → OutS) (K : OutS → Prop) (a : α) : kT m f K (.ok a S) = wS (f a S) K := id rfl
theorem kT_exc (f : α → Store → OutS) (K : OutS → Prop) (c : Exc) : kT m f K (.exc c S) = K (.exc c m S) := id rfl
theorem wS_nx (K : OutS → Prop) : wS (.nx m S) K = K (.nx m S) := id rfl
theorem wS_ct (K : OutS → Prop) : wS (.ct m S) K = K (.ct m S) := id rfl
theorem wS_bk (K : OutS → Prop) : wS (.bk m S) K = K (.bk m S) := id rfl
theorem wS_rt (d : R) (K : OutS → Prop) : wS (.rt d S) K = K (.rt d S) := id rfl
theorem wS_exc (c : Exc) (K : OutS → Prop) : wS (.exc c m S) K = K (.exc c m S) := id rfl
theorem wS_seq (f g : MS) (K : OutS → Prop) : wS (mSeq f g m S) K = wS (f m S) (kSeq g K) := id rfl
theorem kSeq_nx (g : MS) (K : OutS → Prop) : kSeq g K (.nx m S) = wS (g m S) K := id rfl
theorem kSeq_ct (g : MS) (K : OutS → Prop) : kSeq g K (.ct m S) = K (.ct m S) := id rfl
theorem kSeq_bk (g : MS) (K : OutS → Prop) : kSeq g K (.bk m S) = K (.bk m S) := id rfl
theorem kSeq_rt (g : MS) (K : OutS → Prop) (d : R) : kSeq g K (.rt d S) = K (.rt d S) := id rfl
theorem kSeq_exc (g : MS) (K : OutS → Prop) (c : Exc) : kSeq g K (.exc c m S) = K (.exc c m S) := id rfl
theorem wE_def (N : Nat) (f : MS) (ds : List R) (K : Out R → Prop) : wE (mDef N f ds S) K = wS (f (ds.map some ++ List.replicate (N - ds.length) none) S) (kDef K) := id rfl
theorem wE_defV (N : Nat) (f : MS) (ds : List R) (K : Out R → Prop) : wE (mDefV N f ds S) K = wS (f (ds.map some ++ List.replicate (N - ds.length) none) S) (kDef (kB (popV S) K)) := id rfl
theorem kDef_rt (K : Out R → Prop) (d : R) : kDef K (.rt d S) = K (.ok d S) := id rfl
theorem kDef_nx (K : Out R → Prop) : kDef K (.nx m S) = K (.ok (.v .non) S) := id rfl
theorem wS_trim (f : MS) (K : OutS → Prop) : wS (mTrim f m S) K = wS (f m S) (kTrim S K) := id rfl
theorem kTrim_nx (K : OutS → Prop) : kTrim S K (.nx m S') = wS (trim S m S' .nx) K := id rfl
theorem kTrim_ct (K : OutS → Prop) : kTrim S K (.ct m S') = wS (trim S m S' .ct) K := id rfl
theorem kTrim_bk (K : OutS → Prop) : kTrim S K (.bk m S') = K (.bk m S') := id rfl
theorem kTrim_rt (K : OutS → Prop) (d : R) : kTrim S K (.rt d S') = K (.rt d S') := id rfl
theorem wTg_some (P : Env → Prop) : wTg (some m) P = P m := id rfl
theorem wE_eq {o o' : Out α} {K : Out α → Prop} (h : o = o') (k : K o') : wE o K := h ▸ k
theorem eq_wE {o o' : Out α} (h : wE o fun x => x = o') : o = o' := h
/-- ends by value, and Q -/
def Ends (Q : D → Store → Prop) : Out R → Prop
  | .ok (.v d) S => Q d S
  | _ => False
end
def setAll : Env → List Nat → List (Option R) → Env
  | m, i :: vs, x :: xs => setAll (m.set i x) vs xs
  | m, _, _ => m
def getAll (m : Env) (vs : List Nat) : List (Option R) := vs.map fun i => (m[i]?).getD none
theorem setAll_nil (m : Env) (xs : List (Option R)) : setAll m [] xs = m := by cases xs <;> rfl
theorem setAll_cons (m : Env) (i : Nat) (vs : List Nat) (x : Option R) (xs : List (Option R)) : setAll m (i :: vs) (x :: xs) = setAll (m.set i x) vs xs := id rfl
theorem getAll_nil (m : Env) : getAll m [] = [] := id rfl
theorem getAll_cons (m : Env) (i : Nat) (vs : List Nat) : getAll m (i :: vs) = (m[i]?).getD none :: getAll m vs := id rfl
/-- behind a turn: the frame but for vs as ahead, J of these -/
def kTurn (m : Env) (vs : List Nat) (J : List (Option R) → Store → Prop) (K : OutS → Prop) : OutS → Prop
  | .nx m2 S2 => setAll m vs (getAll m2 vs) = m2 ∧ J (getAll m2 vs) S2
  | .ct m2 S2 => setAll m vs (getAll m2 vs) = m2 ∧ J (getAll m2 vs) S2
  | .bk m2 S2 => K (.nx m2 S2)
  | .rt d S2 => K (.rt d S2)
  | .exc c m2 S2 => K (.exc c m2 S2)
  | .no => False
section
variable {m : Env} {vs : List Nat} {J : List (Option R) → Store → Prop} {K : OutS → Prop} {m2 : Env} {S2 S : Store}
theorem kTurn_nx : kTurn m vs J K (.nx m2 S2) = (setAll m vs (getAll m2 vs) = m2 ∧ J (getAll m2 vs) S2) := id rfl
theorem kTurn_ct : kTurn m vs J K (.ct m2 S2) = (setAll m vs (getAll m2 vs) = m2 ∧ J (getAll m2 vs) S2) := id rfl
theorem kTurn_bk : kTurn m vs J K (.bk m2 S2) = K (.nx m2 S2) := id rfl
theorem kTurn_rt (d : R) : kTurn m vs J K (.rt d S2) = K (.rt d S2) := id rfl
theorem kTurn_exc (c : Exc) : kTurn m vs J K (.exc c m2 S2) = K (.exc c m2 S2) := id rfl
/-- a for: I of the turn, the changed names, the store -/
theorem forP_wp {pins : List (Nat × MO)} {t : TgM} {body : MS} {ds : List R} (vs : List Nat) (I : Nat → List (Option R) → Store → Prop) (h0 : setAll m vs (getAll m vs) = m) (h : I 0 (getAll m vs) S)
    (hp : ∀ i ws S, I i ws S → pinsOk pins S)
    (hs : ∀ i d ws S, ds[i]? = some d → I i ws S → wTg (t d (setAll m vs ws)) fun m1 => wS (body m1 S) (kTurn m vs (I (i + 1)) K))
    (he : ∀ ws S, I ds.length ws S → K (.nx (setAll m vs ws) S)) : wS (mForGo pins t body ds m S) K := by
  have key : ∀ (ds : List R) (j : Nat) (ws : List (Option R)) (S : Store), I j ws S →
      (∀ i d ws S, ds[i]? = some d → I (j + i) ws S → wTg (t d (setAll m vs ws)) fun m1 => wS (body m1 S) (kTurn m vs (I (j + i + 1)) K)) →
      (∀ ws S, I (j + ds.length) ws S → K (.nx (setAll m vs ws) S)) → K (mForGo pins t body ds (setAll m vs ws) S) := by
    intro ds
    induction ds with
    | nil =>
      intro j ws S h _ he
      unfold mForGo
      rw [if_pos (hp j ws S h)]
      exact he ws S h
    | cons d ds ih =>
      intro j ws S h hs he
      have h1 := hs 0 d ws S rfl h
      unfold mForGo
      rw [if_pos (hp j ws S h)]
      cases et : t d (setAll m vs ws) with
      | none => rw [et] at h1; exact h1.elim
      | some m1 =>
        rw [et] at h1
        have h1 : kTurn m vs (I (j + 1)) K (body m1 S) := h1
        simp only
        have next : ∀ ws2 S2, I (j + 1) ws2 S2 → K (mForGo pins t body ds (setAll m vs ws2) S2) := fun ws2 S2 h2 => by
          refine ih (j + 1) ws2 S2 h2 (fun i d ws S hi hI => ?_) fun ws S h3 => ?_
          · have := hs (i + 1) d ws S hi (by rw [show j + (i + 1) = j + 1 + i by omega]; exact hI)
            rwa [show j + (i + 1) = j + 1 + i by omega] at this
          · exact he ws S (by rw [List.length_cons, show j + (ds.length + 1) = j + 1 + ds.length by omega]; exact h3)
        cases eb : body m1 S with
        | nx m2 S2 => rw [eb] at h1; have := next _ S2 h1.2; rw [h1.1] at this; exact this
        | ct m2 S2 => rw [eb] at h1; have := next _ S2 h1.2; rw [h1.1] at this; exact this
        | bk m2 S2 => rw [eb] at h1; exact h1
        | rt d S2 => rw [eb] at h1; exact h1
        | exc c m2 S2 => rw [eb] at h1; exact h1
        | no => rw [eb] at h1; exact h1.elim
  have := key ds 0 _ S h (fun i d ws S hi hI => by
    have := hs i d ws S hi (by simpa using hI)
    simpa using this) fun ws S h3 => he ws S (by simpa using h3)
  rw [h0] at this
  exact this
theorem for_wp {t : TgM} {body : MS} {ds : List R} (vs : List Nat) (I : Nat → List (Option R) → Store → Prop) (h0 : setAll m vs (getAll m vs) = m) (h : I 0 (getAll m vs) S)
    (hs : ∀ i d ws S, ds[i]? = some d → I i ws S → wTg (t d (setAll m vs ws)) fun m1 => wS (body m1 S) (kTurn m vs (I (i + 1)) K))
    (he : ∀ ws S, I ds.length ws S → K (.nx (setAll m vs ws) S)) : wS (mForGo [] t body ds m S) K :=
  forP_wp vs I h0 h (fun _ _ _ _ => trivial) hs he
/-- a while: I of a number that falls; behind a false test P of names and store -/
theorem while_wp {t : MT} {body : MS} (vs : List Nat) (n : Nat) (I : Nat → List (Option R) → Store → Prop) (hn : n < 1000000) (h0 : setAll m vs (getAll m vs) = m) (h : I n (getAll m vs) S)
    (hs : ∀ j ws S, I j ws S → wE (t (setAll m vs ws) S) fun o => ∃ S1 b, o = .ok b S1 ∧ match b with
      | false => K (.nx (setAll m vs ws) S1)
      | true => wS (body (setAll m vs ws) S1) (kTurn m vs (fun ws2 S2 => ∃ j', j' < j ∧ I j' ws2 S2) K)) : wS (mWhile t body m S) K := by
  have key : ∀ (k j : Nat) (ws : List (Option R)) (S : Store), j < k → I j ws S → K (mWhileGo t body k (setAll m vs ws) S) := by
    intro k
    induction k with
    | zero => intro j _ _ h; omega
    | succ k ih =>
      intro j ws S hj hI
      obtain ⟨S1, b, e1, h1⟩ := hs j ws S hI
      unfold mWhileGo
      rw [e1, thenS_ok]
      cases b with
      | false => exact h1
      | true =>
        have h1 : kTurn m vs (fun ws2 S2 => ∃ j', j' < j ∧ I j' ws2 S2) K (body (setAll m vs ws) S1) := h1
        simp only
        cases eb : body (setAll m vs ws) S1 with
        | nx m2 S2 => rw [eb] at h1; obtain ⟨q, j', hl, h2⟩ := h1; have := ih j' _ S2 (by omega) h2; rw [q] at this; exact this
        | ct m2 S2 => rw [eb] at h1; obtain ⟨q, j', hl, h2⟩ := h1; have := ih j' _ S2 (by omega) h2; rw [q] at this; exact this
        | bk m2 S2 => rw [eb] at h1; exact h1
        | rt d S2 => rw [eb] at h1; exact h1
        | exc c m2 S2 => rw [eb] at h1; exact h1
        | no => rw [eb] at h1; exact h1.elim
  have := key turns n _ S (by unfold turns; omega) h
  rw [h0] at this
  exact this
end
section
variable {pins : List (Nat × MO)} {t : TgM} {c : MT} {f : ME} {m : Env} {S S0 : Store} {K : Out R → Prop} {ds : List R}
/-- by value, the turns leave the store: p a test, g the elements -/
theorem lcP_wp {α : Type} (xs : List α) (r : α → R) (p : α → Bool) (g : α → D) (hd : ds = xs.map r) (hp : ∀ acc, pinsOk pins (S ++ [.lst acc])) (hu : Upd S0 S) (hz : xs.length ≤ sizeLine)
    (hs : ∀ x ∈ xs, ∀ acc, wTg (t (r x) m) fun m1 => c m1 (S ++ [.lst acc]) = .ok (p x) (S ++ [.lst acc]) ∧ (p x = true → wE (f m1 (S ++ [.lst acc])) fun o => o = .ok (.v (g x)) (S ++ [.lst acc])))
    (k : K (.ok (.v (.lst ((xs.filter p).map g))) S)) : wE (mLcGo pins t c f S.length m ds (S ++ [.lst []])) (kB (fun r S' => popV S0 r S') K) := by
  subst hd
  have key : ∀ (xs ys : List α), ys.length + xs.length ≤ sizeLine → (∀ x ∈ xs, ∀ acc, wTg (t (r x) m) fun m1 => c m1 (S ++ [.lst acc]) = .ok (p x) (S ++ [.lst acc]) ∧ (p x = true → wE (f m1 (S ++ [.lst acc])) fun o => o = .ok (.v (g x)) (S ++ [.lst acc]))) →
      mLcGo pins t c f S.length m (xs.map r) (S ++ [.lst ((ys.map g).map .v)]) = .ok (.ref S.length) (S ++ [.lst (((ys ++ xs.filter p).map g).map .v)]) := by
    intro xs
    induction xs with
    | nil => intro ys _ _; rw [List.map_nil]; unfold mLcGo; rw [if_pos (hp _)]; simp
    | cons x xs ih =>
      intro ys hl hs
      have h1 := hs x (by simp) ((ys.map g).map .v)
      cases et : t (r x) m with
      | none => rw [et] at h1; exact h1.elim
      | some m1 =>
        rw [et] at h1
        obtain ⟨e2, e3⟩ := h1
        rw [List.map_cons]
        unfold mLcGo
        rw [if_pos (hp _), et]
        simp only [e2, Out.calm_ok, Out.bind_ok]
        rw [List.length_cons] at hl
        cases hpx : p x with
        | false =>
          simp only
          rw [ih ys (by omega) fun x hx => hs x (by simp [hx]), List.filter_cons_of_neg (by simp [hpx])]
        | true =>
          have e3 : f m1 (S ++ [MO.lst ((ys.map g).map R.v)]) = _ := e3 hpx
          simp only [e3, Out.calm_ok, Out.bind_ok, get_len]
          rw [if_pos (by rw [List.length_map, List.length_map]; omega), set_len, List.filter_cons_of_pos hpx]
          have := ih (ys ++ [x]) (by rw [List.length_append]; simp; omega) fun x hx => hs x (by simp [hx])
          simp only [List.map_append, List.map_cons, List.map_nil, List.append_assoc, List.cons_append, List.nil_append] at this ⊢
          exact this
  have := key xs [] (by simpa using hz) hs
  simp only [List.map_nil, List.nil_append] at this
  unfold wE kB
  rw [this, Out.bind_ok, popV_newU _ hu]
  exact k
theorem lc_wp {α : Type} (xs : List α) (r : α → R) (p : α → Bool) (g : α → D) (hd : ds = xs.map r) (hu : Upd S0 S) (hz : xs.length ≤ sizeLine)
    (hs : ∀ x ∈ xs, ∀ acc, wTg (t (r x) m) fun m1 => c m1 (S ++ [.lst acc]) = .ok (p x) (S ++ [.lst acc]) ∧ (p x = true → wE (f m1 (S ++ [.lst acc])) fun o => o = .ok (.v (g x)) (S ++ [.lst acc])))
    (k : K (.ok (.v (.lst ((xs.filter p).map g))) S)) : wE (mLcGo [] t c f S.length m ds (S ++ [.lst []])) (kB (fun r S' => popV S0 r S') K) :=
  lcP_wp xs r p g hd (fun _ => trivial) hu hz hs k
/-- .. without a test -/
theorem lcT_wp {α : Type} (xs : List α) (r : α → R) (g : α → D) (hd : ds = xs.map r) (hu : Upd S0 S) (hz : xs.length ≤ sizeLine)
    (hs : ∀ x ∈ xs, ∀ acc, wTg (t (r x) m) fun m1 => wE (f m1 (S ++ [.lst acc])) fun o => o = .ok (.v (g x)) (S ++ [.lst acc]))
    (k : K (.ok (.v (.lst (xs.map g))) S)) : wE (mLcGo [] t mtYes f S.length m ds (S ++ [.lst []])) (kB (fun r S' => popV S0 r S') K) :=
  lc_wp xs r (fun _ => true) g hd hu hz (fun x hx acc => by
    have := hs x hx acc
    cases e : t (r x) m with
    | none => rw [e] at this; exact this.elim
    | some m1 => rw [e] at this; exact ⟨rfl, fun _ => this⟩) (by rw [List.filter_eq_self.mpr fun _ _ => rfl]; exact k)
end
section
variable {S T : Store} {n w : Nat} {a b c o x : MO} {cs : Store}
theorem get_app' (h : S[n]? = some o) (cs : Store) : (S ++ cs)[n]? = some o := get_old h cs
theorem get_set' (h : S[n]? = some o) (x : MO) : (S.set n x)[n]? = some x := get_set h x
theorem get_setlt (h : n < S.length) (x : MO) : (S.set n x)[n]? = some x := by rw [List.getElem?_set_self h]
theorem get_L0 {k : Nat} (hl : S.length = k) (c : MO) (cs : Store) : (S ++ c :: cs)[k]? = some c := by subst hl; simp
theorem get_L1 {k : Nat} (hl : S.length = k) (b c : MO) (cs : Store) : (S ++ b :: c :: cs)[k + 1]? = some c := by subst hl; simp
theorem get_L2 {k : Nat} (hl : S.length = k) (a b c : MO) (cs : Store) : (S ++ a :: b :: c :: cs)[k + 2]? = some c := by subst hl; simp
theorem cut_U {S T : Store} (h : Upd S T) : cut S T = T := cut_upd h
end
section
variable {S S' : Store} {m : Env} {n : Nat} {c f : Str} {fs : List (Str × R)}
theorem insOf_get (h : S[n]? = some (.ins c fs)) : insOf c S (.ref n) = some fs := by unfold insOf; simp [h]
def fldR (c f : Str) (d : R) (S : Store) : Out R := match (insOf c S d).bind fun fs => fs.lookup f with
  | some r => .ok r S
  | none => .no
theorem mFld_run (c f : Str) (a : ME) : mFld c f a m S = (a m S).bind fun d S1 => fldR c f d S1 := id rfl
theorem fldR_get {r : R} (h : S[n]? = some (.ins c fs)) (hf : fs.lookup f = some r) : fldR c f (.ref n) S = .ok r S := by unfold fldR; rw [insOf_get h]; simp [hf]
def setFldR (c f : Str) (m : Env) (x d : R) (S : Store) : OutS := match x, insOf c S x with
  | .ref n, some fs => if fs.length < 1000 then .nx m (S.set n (.ins c (putR' f d fs))) else .no
  | _, _ => .no
theorem mSetFld_run (c f : Str) (o v : ME) : mSetFld c f o v m S = (v m S).thenS m fun d S1 => (o m S1).thenS m fun x S2 => setFldR c f m x d S2 := id rfl
theorem setFldR_get {d : R} (h : S[n]? = some (.ins c fs)) (hl : fs.length < 1000) : setFldR c f m (.ref n) d S = .nx m (S.set n (.ins c (putR' f d fs))) := by unfold setFldR; rw [insOf_get h]; simp [hl]
theorem mAugFld_run (c f : Str) (o : ME) (g : R → R → Store → Out R) (v : ME) : mAugFld c f o g v m S = (o m S).thenS m fun x S1 => (fldR c f x S1).thenS m fun old S1' => (v m S1').thenS m fun d S2 => (g old d S2).thenS m fun z S3 => setFldR c f m x z S3 := by
  unfold mAugFld fldR setFldR
  cases o m S with
  | ok x S1 =>
    simp only [thenS_ok]
    cases h : (insOf c S1 x).bind fun fs => List.lookup f fs with
    | none => rfl
    | some old => rfl
  | exc e S1 => rfl
  | no => rfl
def methR (c m' : Str) (x : R) (S : Store) (k : Out R) : Out R := match insOf c S x with
  | some fs => match fs.lookup m' with
    | none => k
    | some _ => .no
  | none => .no
theorem mMethC_run (c m' : Str) (g : List R → Store → Out R) (o : ME) (r : MA) : mMethC c m' g o r m S = (o m S).bind fun x S1 => methR c m' x S1 ((r m S1).bind fun ds S2 => g (x :: ds) S2) := id rfl
theorem methR_get {m' : Str} {k : Out R} (h : S[n]? = some (.ins c fs)) (hf : fs.lookup m' = none) : methR c m' (.ref n) S k = k := by unfold methR; rw [insOf_get h]; simp [hf]
def nonR (n : Nat) : R → Store → Out R := fun z S2 => match z with
  | .v .non => .ok (.ref n) S2
  | _ => .no
theorem mMake_run (c : Str) (g : List R → Store → Out R) (r : MA) : mMake c g r m S = (r m S).bind fun ds S1 => (g (.ref S1.length :: ds) (S1 ++ [.ins c []])).bind (nonR S1.length) := id rfl
theorem nonR_non : nonR n (.v .non) S = .ok (.ref n) S := id rfl
theorem mDctT0_eq : mDctT0 m S = .ok (.ref S.length) (S ++ [.dT []]) := id rfl
def setTR (m : Env) (x y d : R) (S : Store) : OutS := match x, keyT y with
  | .ref n, some k => match S[n]? with
    | some (.dT kvs) => if kvs.length < sizeLine then .nx m (S.set n (.dT (putT kvs k d))) else .no
    | _ => .no
  | _, _ => .no
theorem mSetT_run (f o i : ME) : mSetT f o i m S = (f m S).thenS m fun d S1 => (o m S1).thenS m fun x S2 => (i m S2).thenS m fun y S3 => setTR m x y d S3 := id rfl
theorem srcKeys_run (a : ME) : srcKeys a m S = (a m S).bind fun d S1 => match lkD S1 d with
  | some (.lkT kvs) => .ok ⟨keysT kvs, []⟩ S1
  | some (.lkK kvs) => .ok ⟨keysK kvs, []⟩ S1
  | _ => .no := id rfl
theorem srcItemsT_run (a : ME) : srcItemsT a m S = (a m S).bind fun d S1 => match lkD S1 d with
  | some (.lkT kvs) => match itemsT kvs with
    | some xs => .ok ⟨xs, []⟩ S1
    | none => .no
  | _ => .no := id rfl
end
section
variable {S S0 : Store} {m : Env} {c f : Str} {fs : List (Str × R)} {cs : Store} {d x : R} {K : Out R → Prop}
theorem setFldR_L0 (S : Store) (m : Env) (c f : Str) (fs : List (Str × R)) (cs : Store) (d : R) (h : fs.length < 1000) : setFldR c f m (.ref S.length) d (S ++ .ins c fs :: cs) = .nx m (S ++ .ins c (putR' f d fs) :: cs) := by rw [setFldR_get (get_len S _ cs) h, set_len]
end
theorem wS_eq {o o' : OutS} {K : OutS → Prop} (h : o = o') (k : K o') : wS o K := h ▸ k
section
variable {S : Store} {a b c d : D} {xs : List D}
theorem opIx_t0 : opIx (.v (.tup (a :: xs))) (.v (.int 0)) S = .ok (.v a) S := opIx_tup (atI_0 _ _)
theorem opIx_t1 : opIx (.v (.tup (a :: b :: xs))) (.v (.int 1)) S = .ok (.v b) S := opIx_tup (atI_1 _ _ _)
theorem opIx_t2 : opIx (.v (.tup (a :: b :: c :: xs))) (.v (.int 2)) S = .ok (.v c) S := opIx_tup (atI_2 _ _ _ _)
theorem opIx_t3 : opIx (.v (.tup (a :: b :: c :: d :: xs))) (.v (.int 3)) S = .ok (.v d) S := opIx_tup (atI_3 _ _ _ _ _)
end
end M
local macro_rules
  | `(tactic| simp_arith [$ls,*]) => `(tactic| simp only [M.wE_ok, M.wE_bind, M.kB_ok, M.kB_exc, M.wS_then, M.kT_ok, M.kT_exc, M.wS_nx, M.wS_ct, M.wS_bk, M.wS_rt, M.wS_exc, M.wS_seq, M.kSeq_nx, M.kSeq_ct, M.kSeq_bk, M.kSeq_rt, M.kSeq_exc, M.wE_def, M.wE_defV, M.kDef_rt, M.kDef_nx, M.wS_trim, M.kTrim_nx, M.kTrim_ct, M.kTrim_bk, M.kTrim_rt, M.wTg_some, M.kTurn_nx, M.kTurn_ct, M.kTurn_bk, M.kTurn_rt, M.kTurn_exc,
    M.mVar_eq, M.mC_eq, M.mBin_eq, M.mUn_eq, M.mNil_eq, M.mCons_eq, M.mCall_eq, M.mTup_eq, M.mLst_eq, M.mLstV_eq, M.mIf_eq, M.mAnd_eq, M.mOr_eq, M.mNot_eq, M.mtB_eq, M.mtTru_eq, M.mtAnd_eq, M.mtOr_eq, M.mtNot_eq, M.mtYes_eq, M.mMeth_eq, M.mMeth0_eq, M.mSl_eq, M.moN_eq, M.moS_eq, M.mChain_eq, M.mPop_eq, M.mSkip_eq, M.mBrk_eq, M.mCnt_eq, M.mDrop_eq, M.mRet_eq, M.mRetN_eq, M.mIfS_eq, M.mSet_eq, M.mSetP_eq, M.mPar_eq, M.mAug_eq, M.mAsg_eq, M.mSetIx_eq, M.mFor_eq, M.srcRange1_eq, M.srcRange2_eq, M.srcAny_eq, M.mLc_eq, M.tgN_eq, M.tgT_tup, M.bindAll_nil, M.bindAll_cons, Option.bind_some, M.onBl_bl, M.onII_int, M.Out.bind_ok, M.Out.bind_exc, M.thenS_ok, M.wipeM,
    M.mFld_run, M.mSetFld_run, M.mAugFld_run, M.mMethC_run, M.mMake_run, M.nonR_non, M.mDctT0_eq, M.mSetT_run, M.srcKeys_run, M.srcItemsT_run, M.mDct0,
    List.map_cons, List.map_nil, List.length_cons, List.length_nil, List.replicate_succ, List.replicate_zero, List.cons_append, List.nil_append, List.append_assoc, List.getElem?_cons_zero, List.getElem?_cons_succ, List.set_cons_zero, List.set_cons_succ, List.length_set, List.length_append, List.set_set, M.setAll_cons, M.setAll_nil, M.getAll_cons, M.getAll_nil, Option.getD_some, Option.getD_none,
    M.opAdd_int, M.opSub_int, M.opNeg_int, M.opIadd_int, M.opCmpI_int, M.opEq_int, M.opNe_int, M.opEq_bl, M.opNe_bl, M.opIs_non, M.opIsNot_non, M.opIs_bl, M.opIsNot_bl, M.isNon, M.truM_bl, M.truM_int, M.truM_non, M.truM_tup, M.biLen_tup, M.biLen_lst, M.biLen_kl, M.biAbs_int, M.biInt_int, M.biInt_bl, M.biMax_ii, M.biMin_ii, M.biTuple_tup, M.biTuple_lst, M.tyOk_str, M.tyOk_lstV, M.isi_str_str, M.isi_str_tup, M.isi_str_int, M.isi_str_bool, M.isi_tup_str, M.isi_tup_tup, M.isi_tup_int, M.isi_int_str, M.isi_int_tup, M.isi_int_int, M.isi_int_bool, M.isi_bl_str, M.isi_bl_tup, M.isi_bl_int, M.isi_bl_bool, M.isi_non_str, M.isi_non_tup, M.isi_non_int,
    M.frzO_nil, M.frzO_1, M.frzO_2, M.frzO_3, M.frzO_4, M.frzO_5, M.frzO_6, M.sz0, M.sz1, M.sz2, M.sz3, M.sz4, M.sz5, M.sz6, M.sz7, M.sz8, M.sz9, M.sz10, M.szl0, M.szl1, if_true, if_false, Bool.false_eq_true, M.popV_v, M.cut_self', M.opIx_t0, M.opIx_t1, M.opIx_t2, M.opIx_t3, M.atI_0, M.atI_1, M.atI_2, M.atI_3, M.opSl_tup, Bool.not_true, Bool.not_false, true_and, and_true, Nat.reduceAdd, Nat.reduceSub, Nat.reduceMul, Nat.reduceLT, Int.reduceAdd, Int.reduceSub, Int.reduceMul, Int.reduceNeg, Int.reduceLT, Int.reduceLE, Int.reduceEq, reduceIte, Nat.zero_add, M.keepE_v, M.keepE_none, $ls,*])
local macro_rules
  | `(tactic| walk_at "cell") => `(tactic| repeat' first | assumption | refine M.get_app' ?_ _ | refine M.get_set' ?_ _ | exact M.get_L0 (by simp only [List.length_set]) _ _ | exact M.get_L1 (by simp only [List.length_set]) _ _ _ | exact M.get_L2 (by simp only [List.length_set]) _ _ _ _)
namespace M
open PySem hiding Env
open PySem.Spec PyProof.Rows
open L2
/-- what the law never comes to (a raise) -/
def mNoS : MS := fun _ _ => .no
theorem psm_no {X : Cx} {E : L2.St → XK} {st : Stmt} : PS X st (tS X.K E mNoS) := ⟨fun _ _ _ _ _ _ h => by
  obtain ⟨ρ, m, S, sr, er, h⟩ := h
  exact h.elim⟩
/-- a tuple of the module, by value -/
def KtR (K : PySem.W.Frag) (a : Addr) (ds : List D) : Prop := ∃ xs, KT' K a xs ∧ ∀ H ρ, RpA K H ρ xs ds
theorem KtR.of {K : PySem.W.Frag} {a : Addr} {ds : List D} {its : Array Value} {n : Nat} {sl : Array (Option Value)} {xs : List V} (h : K.lookup a = some ⟨.type "tuple", none, .seq its n, sl⟩) (hz : its.size ≤ 1000) (hv : Vals xs its.toList) (hr : ∀ H ρ, RpA K H ρ xs ds) : KtR K a ds :=
  ⟨xs, ⟨_, its, n, h, rfl, rfl, rfl, sz_of (by omega), hv⟩, hr⟩
end M
namespace M
open PySem hiding Env
open PySem.Spec PyProof.Rows
open L2
section
variable {X : Cx} {E : L2.St → XK}
structure KdR (K : PySem.W.Frag) (w : World) (A : Addr) (hits : List (Str × Int)) (miss : List Str) : Prop where
  D : ∃ es n, KDict K w A es n
  hit : ∀ p ∈ hits, ∃ t, PySem.W.nsIn K A p.1 = some (some (.int p.2 t))
  no : ∀ z ∈ miss, PySem.W.nsIn K A z = some none
variable {hits : List (Str × Int)} {miss : List Str} {A : Addr} {x : Str} {p pos : Pos} {a : Expr} {ma : ME}
end
theorem KdR.of {K : PySem.W.Frag} {w : World} {A : Addr} {es : Array DictEntry} {n : Nat} {hits : List (Str × Int)} {miss : List Str} (o : K.lookup A = some ⟨.type "dict", none, .dict es n, #[]⟩) (k : PySem.W.KeysLit w.params es.toList) (l : (A == sysModules) = false)
    (h1 : ∀ p ∈ hits, ∃ t, PySem.W.nsIn K A p.1 = some (some (.int p.2 t))) (h2 : ∀ z ∈ miss, PySem.W.nsIn K A z = some none) : KdR K w A hits miss := ⟨⟨es, n, o, k, l⟩, h1, h2⟩
end M
namespace M
open PySem hiding Env
open PySem.Spec PyProof.Rows
open L2
/-- a < b, as Python says of data that are alike -/
def dLt (d e : D) : Bool := PySem.W.dataLt (d.py.getD .none) (e.py.getD .none)
end M
namespace L2
open PySem PySem.Spec PyProof.Rows
end L2
namespace M
open PySem hiding Env
open PySem.Spec PyProof.Rows
open L2
end M
namespace M
open PySem hiding Env
open PySem.Spec PyProof.Rows
open L2
variable {X : Cx} {E : L2.St → XK}
/-- hi, hi - 1, .. (n of them) -/
def rangeU (hi : Int) (n : Nat) : List R := (List.range n).map fun (i : Nat) => .int (hi - (i : Int))
def rg3 (ds : List R) (S1 : Store) : Out Src := match ds with
  | [.v (.int i), .v (.int j), .v (.int c)] => if c = -1 ∧ rgOk i = true ∧ rgOk j = true then .ok ⟨rangeU i (i - j).toNat, []⟩ S1 else .no
  | _ => .no
def srcRange3 (r : MA) : MI := fun m S => (r m S).bind rg3
@[simp] theorem srcRange3_eq {r : MA} {m : Env} {S : Store} : srcRange3 r m S = (r m S).bind rg3 := id rfl
/-- a, b, c = x, y, z -/
def mPar3 (i j l : Nat) (f g h : ME) : MS := fun m S => (f m S).thenS m fun x S1 => (g m S1).thenS m fun y S2 => (h m S2).thenS m fun z S3 => .nx (((m.set i (some x)).set j (some y)).set l (some z)) S3
@[simp] theorem mPar3_eq (i j l : Nat) {a b c : ME} {m : Env} {S : Store} : mPar3 i j l a b c m S = (a m S).thenS m fun x S1 => (b m S1).thenS m fun y S2 => (c m S2).thenS m fun z S3 => .nx (((m.set i (some x)).set j (some y)).set l (some z)) S3 := id rfl
end M
namespace M
open PySem PySem.Spec L2
open PyProof.Rows hiding St
/-- dict(zip(a, b)) -/
def biDzip (ds : List R) (S : Store) : Out R := match ds with
  | [d, e] => match seqP S d, seqP S e with
    | some p, some q => match keyDs p.1 with
      | some kk => if q.1.length ≤ sizeLine then .ok (.ref S.length) (S ++ [.dK (mergeR [] (kk.zip (q.1.map R.v)))]) else .no
      | none => .no
    | _, _ => .no
  | _ => .no
def mDzip (r : MA) : ME := fun m S => (r m S).bind biDzip
@[simp] theorem mDzip_eq {r : MA} {m : Env} {S : Store} : mDzip r m S = (r m S).bind biDzip := id rfl
end M
namespace M
open PySem PySem.Spec L2
open PyProof.Rows hiding St
def mGetK (d k x : ME) : ME := fun m S => (d m S).bind fun a S1 => match dkOf S1 a with
  | none => .no
  | some _ => (k m S1).bind fun e S2 => (x m S2).bind fun z S3 => match dkOf S3 a, keyOf e with
    | some kvs, some q => .ok ((valR kvs q).getD z) S3
    | _, _ => .no
def getKO (a e z : R) (S : Store) : Out R := match dkOf S a, keyOf e with
    | some kvs, some q => .ok ((valR kvs q).getD z) S
    | _, _ => .no
/-- d[k] = v of a dict with texts or numbers as keys -/
def mSetK (f o i : ME) : MS := fun m S => (f m S).thenS m fun d S1 => (o m S1).thenS m fun x S2 => (i m S2).thenS m fun y S3 => match x, keyOf y with
  | .ref n, some k => match S3[n]? with
    | some (.dK kvs) => if kvs.length < sizeLine then .nx m (S3.set n (.dK (putR kvs k d))) else .no
    | _ => .no
  | _, _ => .no
def setKR (m : Env) (x y d : R) (S : Store) : OutS := match x, keyOf y with
  | .ref n, some k => match S[n]? with
    | some (.dK kvs) => if kvs.length < sizeLine then .nx m (S.set n (.dK (putR kvs k d))) else .no
    | _ => .no
  | _, _ => .no
@[simp] theorem mSetK_run {f o i : ME} {m : Env} {S : Store} : mSetK f o i m S = (f m S).thenS m fun d S1 => (o m S1).thenS m fun x S2 => (i m S2).thenS m fun y S3 => setKR m x y d S3 := id rfl
def getK1 (k x : ME) (m : Env) (a : R) (S1 : Store) : Out R := match dkOf S1 a with
  | none => .no
  | some _ => (k m S1).bind fun e S2 => (x m S2).bind fun z S3 => getKO a e z S3
@[simp] theorem mGetK_run {d k x : ME} {m : Env} {S : Store} : mGetK d k x m S = (d m S).bind fun a S1 => getK1 k x m a S1 := id rfl
end M
namespace M
open PySem PySem.Spec L2
open PyProof.Rows hiding St
/-- how many of the first i texts are new where they stand -/
def newN (xs : List Str) : Nat → Nat
  | 0 => 0
  | i + 1 => if (xs.take i).any (· == xs.getD i Str.empty) then newN xs i else newN xs i + 1
theorem newN_le (xs : List Str) : ∀ i, newN xs i ≤ i
  | 0 => Nat.le_refl _
  | i + 1 => by
    have := newN_le xs i
    unfold newN
    split <;> omega
theorem newN_nodup (xs : List Str) : ∀ i, i ≤ xs.length → (newN xs i = i ↔ (xs.take i).Nodup)
  | 0, _ => by simp [newN]
  | i + 1, h => by
    have ih := newN_nodup xs i (by omega)
    have le := newN_le xs i
    have hi : i < xs.length := h
    have e : xs.getD i Str.empty = xs[i] := by rw [List.getD_eq_getElem?_getD, List.getElem?_eq_getElem hi] <;> rfl
    have et : xs.take (i + 1) = xs.take i ++ [xs[i]] := by rw [List.take_add_one, List.getElem?_eq_getElem hi] <;> rfl
    unfold newN
    rw [e, et, List.nodup_append]
    generalize hq : (xs.take i).any (fun x => x == xs[i]) = q
    by_cases hm : xs[i] ∈ xs.take i
    · obtain rfl : true = q := by rw [← hq]; exact (List.any_eq_true.mpr ⟨_, hm, beq_self_eq_true (a := xs[i])⟩ : (xs.take i).any (fun x => x == xs[i]) = true).symm
      rw [if_pos rfl]
      constructor
      · intro z; omega
      · rintro ⟨_, _, z⟩
        exact absurd rfl (z _ hm _ (by simp))
    · obtain rfl : false = q := by
        cases q with
        | false => rfl
        | true => obtain ⟨y, hy, ey⟩ := List.any_eq_true.mp hq; exact absurd (eq_of_beq ey ▸ hy) hm
      rw [if_neg Bool.false_ne_true]
      constructor
      · intro z
        refine ⟨ih.mp (by omega), by simp, fun a ha b hb ez => hm ?_⟩
        rw [List.mem_singleton] at hb
        subst hb; subst ez
        exact ha
      · rintro ⟨z, _⟩
        rw [ih.mpr z]
section
variable {prog : Program} {w : World} {A : Around}
theorem strAt : ∀ {vs : List Value} {xs : List Str}, PyProof.Rows.StrsAre vs xs → ∀ (i : Nat) (v : Value), vs[i]? = some v → ∃ t, v = .str (xs.getD i Str.empty) t
  | _, _, .nil, i, v, h => by simp at h
  | _, _, .cons n t hr, 0, v, h => by simp at h; exact ⟨t, by rw [← h] <;> rfl⟩
  | _, _, .cons n t hr, i + 1, v, h => by
    simp only [List.getElem?_cons_succ] at h
    obtain ⟨t', e⟩ := strAt hr i v h
    exact ⟨t', by rw [e] <;> rfl⟩
def Tk (xs : List Str) (i : Nat) : Str → Bool := fun k => (xs.take i).any (· == k)
theorem Tk_succ {xs : List Str} {i : Nat} (hi : i < xs.length) (k : Str) : (Tk xs i k || decide (k = xs.getD i Str.empty)) = Tk xs (i + 1) k := by
  have e : xs.getD i Str.empty = xs[i] := by rw [List.getD_eq_getElem?_getD, List.getElem?_eq_getElem hi] <;> rfl
  unfold Tk
  rw [List.take_add_one, List.getElem?_eq_getElem hi, e, List.any_append]
  congr 1
  by_cases z : k = xs[i]
  · subst z; simp
  · have hb : (xs[i] == k) = false := by simpa [beq_iff_eq] using fun z' : xs[i] = k => z z'.symm
    simp [z, hb]
theorem loopT {R : Result → Shared → Prop} {I : Addr} {fp wr : List Addr} {G : Array GenState → Array GenState → Prop} {n : Nat} {P : Nat → Value → Prop} {St : Nat → Shared → Prop}
    (W : WalksS prog w A.in1 I fp wr G n P St) (S : Addr) (hSf : S ∉ fp) (xs : List Str) (hsz : xs.length = n) (hb : n + 1 < scanBound)
    (hval : ∀ i v, P i v → ∃ t, v = .str (xs.getD i Str.empty) t) :
    ∀ (k i : Nat) (s : Shared), n - i = k → i ≤ n → St i s → s.heap.SetOf (PySem.strKind prog w) S (Tk xs i) (newN xs i) →
      (∀ s', Moved (S :: wr) G s s' → s'.heap.SetOf (PySem.strKind prog w) S (Tk xs n) (newN xs n) → R (.ok (.ret .none)) s') →
      codeAny (model prog w) A (.builtin "set.update.loop" ⟨[.ref S, .ref I], []⟩) R s := by
  have hSw : S ∉ wr := fun h => hSf (W.sub _ h)
  have hsub : ∀ b ∈ wr, b ∈ S :: wr := fun b hb => List.mem_cons_of_mem _ hb
  have carry : ∀ {i : Nat} {s s' : Shared}, Moved wr G s s' → s.heap.SetOf (PySem.strKind prog w) S (Tk xs i) (newN xs i) → s'.heap.SetOf (PySem.strKind prog w) S (Tk xs i) (newN xs i) := fun hm hS => by
    obtain ⟨o, es, ep, t, ho, rest⟩ := hS
    exact ⟨o, es, ep, t, hm.heap S _ hSw ho, rest⟩
  intro k
  induction k with
  | zero =>
    intro i s hk hi hst hS hR
    obtain rfl : i = n := by omega
    refine codeAny_builtin PyProof.Rows.F.entry_set_update_loop ?_
    rw [Around.under_plainId PyProof.Rows.F.plain_set_update_loop _]
    show wpAny _ A.in1 (pyNext (.ref I) >>= _) _ _ s
    refine wpAny_bind (W.done s _ _ hst fun s' hm => ?_)
    show wpAny _ A.in1 (ret Value.none) _ _ s'
    exact wpAny_pure (hR s' (hm.mono hsub) (carry hm hS))
  | succ k ih =>
    intro i s hk hi hst hS hR
    have hlt : i < n := by omega
    refine codeAny_builtin PyProof.Rows.F.entry_set_update_loop ?_
    rw [Around.under_plainId PyProof.Rows.F.plain_set_update_loop _]
    show wpAny _ A.in1 (pyNext (.ref I) >>= _) _ _ s
    refine wpAny_bind (W.item i s _ _ hlt hst fun v s' hP hst' hm => ?_)
    obtain ⟨t, rfl⟩ := hval i v hP
    have le := newN_le xs i
    show wpAny _ A.in1 (holding [Value.str (xs.getD i Str.empty) t] (setAdd S (.str (xs.getD i Str.empty) t)) >>= _) _ _ s'
    refine wpAny_bind (wpAny_holding ?_)
    unfold setAdd
    refine wpAny_holding ?_
    refine wpAny_bind ((PySem.strKind prog w).pyHash (k := xs.getD i Str.empty) (strKind_is _ _ _ _) ?_)
    refine wpAny_setAddHashed_of (knd := PySem.strKind prog w) (s := { s' with toks := s'.toks + 1 }) (strKind_is _ _ _ _) rfl (show s'.heap.SetOf _ S _ _ from carry hm hS) (by omega) fun h' hsb hS2 => ?_
    have hSi : h'.SetOf (PySem.strKind prog w) S (Tk xs (i + 1)) (newN xs (i + 1)) := SetOf_congr hS2 (fun k' => Tk_succ (by omega) k') rfl
    refine wpAny_pure ⟨plainId_quiet PyProof.Rows.F.plain_set_update_loop _, ih (i + 1) _ (by omega) hlt (W.frame _ s' _ _ hst' (Nat.le_succ _) fun b hb o e => ?_) hSi fun s'' hm'' hS'' => ?_⟩
    · rw [hsb.2 b (fun h : b = S => hSf (by rw [← h]; exact hb))]; exact e
    · refine hR s'' (Moved.trans W.gtrans ((hm.mono hsub).then_heap (Nat.le_succ _) fun b o hb e => ?_) hm'') hS''
      rw [hsb.2 b (fun h : b = S => hb (by rw [h]; exact List.mem_cons_self))]; exact e
end
section
variable {prog : Program} {w : World} {A : Around} {E : Value → Shared → Prop} {s : Shared}
def nwSet (led : Bool) : Obj := { cls := .type "set", dict := none, data := .set #[] 0 (.fresh 0 0 led) }
/-- what set(t) leaves: the set at a, all else as it was -/
def Left (prog : Program) (w : World) (s : Shared) (xs : List Str) (h' : Heap) : Prop :=
  h'.SetOf (PySem.strKind prog w) s.heap.objs.size (Tk xs xs.length) (newN xs xs.length) ∧ ∀ b o, b < s.heap.objs.size → s.heap.get? b = some o → h'.get? b = some o
theorem set_tup {l : Addr} {items : Array Value} {xs : List Str} {Q : Value → Shared → Prop} (hh : A.handled = none) (hl : s.heap.IsTuple l items) (hi : PyProof.Rows.StrsAre items.toList xs) (hb : xs.length + 1 < scanBound)
    (h : ∀ (h' : Heap) (tk : Nat), Left prog w s xs h' → Q (.ref s.heap.objs.size) { s with heap := h', toks := tk }) : wpAny (model prog w) A (call (.type "set") [.ref l]) Q E s := by
  obtain ⟨c, tl, hmro⟩ := PySem.F.called_set.mro
  have hmade := PySem.F.called_set.made
  have hsub := PySem.F.called_set.sub
  refine wpAny_call (codeAny_of_tree ?_)
  show wpAny _ _ (callAny (.type "set") _) _ _ _
  refine wpAny_pure ⟨Code.quiet_builtin _ (by decide +kernel), codeAny_builtin PySem.F.entry_type_call ?_⟩
  rw [Around.under_plain (weight_type_call_type "set" [.ref l] []) rfl]
  have n1 := PySem.F.called_set.notType
  have n2 := PySem.F.called_set.canCreate
  have n3 := PySem.F.typeCall_set_1 (.ref l)
  repeat (any_goals (first | assumption | wp_step))
  refine codeAny_mono (code_set_new_1 (.ref l) (E := E) (Q₁ := fun obj s₁ => ∃ led : Bool, obj = .ref s.heap.objs.size ∧ s₁ = { s with heap := s.heap.push (nwSet led) }) fun led => ⟨led, rfl, rfl⟩) fun r s₁ hr => ?_
  cases r with
  | error e => exact hr
  | ok fl =>
    cases fl with
    | ret obj =>
      obtain ⟨led, rfl, rfl⟩ := hr
      have hS : (s.heap.push (nwSet led)).get? s.heap.objs.size = some (nwSet led) := Heap.get?_push_size _ rfl
      have hT : Shared.TypeIs { s with heap := s.heap.push (nwSet led) } (.ref s.heap.objs.size) "set" := ⟨_, hS, rfl⟩
      have hli := PySem.F.called_set.init.lookup
      have hbi := PySem.F.called_set.init.bind (.ref s.heap.objs.size)
      repeat (any_goals (first | assumption | wp_step))
      refine codeAny_mono (codeAny_call_builtin (R := wants (fun r s₂ => r = .none ∧ ∃ h' tk, s₂ = { s with heap := h', toks := tk } ∧ Left prog w s xs h') E) PySem.F.called_set.init.plain PySem.F.entry_set_init (check_set_init_1 hT ?_)) fun r₂ s₂ hr₂ => ?_
      · obtain ⟨⟨ocls, odict, odata, oslots⟩, hol, hcl, nl, hdl⟩ := hl
        simp only at hcl hdl
        subst hcl; subst hdl
        have hol' : (s.heap.push (nwSet led)).get? l = some { cls := .type "tuple", dict := odict, data := .seq items nl, slots := oslots } := Heap.get?_push_of_some _ hol
        have b1 := PySem.F.sub_tuple_set
        have b2 := PySem.F.sub_tuple_frozenset
        have b3 : (Value.type "tuple" == Value.type "dict") = false := by decide
        have hl1 : (s.heap.push (nwSet led)).IsTuple l items := ⟨_, hol', rfl, nl, rfl⟩
        have hlS : l < s.heap.objs.size := Heap.lt_size hol
        have hsz : xs.length = items.size := by rw [← StrsAre.len_eq hi, Array.length_toList]
        have hval : ∀ (i : Nat) (v : Value), items[i]? = some v → ∃ t, v = .str (xs.getD i Str.empty) t := fun i v hv => strAt hi i v (by rw [Array.getElem?_toList]; exact hv)
        have hne : l ≠ (s.heap.push (nwSet led)).objs.size := by rw [Heap.size_push]; exact Nat.ne_of_lt (Nat.lt_succ_of_lt hlS)
        have hSf : s.heap.objs.size ∉ [(s.heap.push (nwSet led)).objs.size, l] := by
          rw [Heap.size_push]; simp only [List.mem_cons, List.mem_singleton, List.not_mem_nil, or_false, not_or]
          exact ⟨Nat.ne_of_lt (Nat.lt_succ_self _), Nat.ne_of_gt hlS⟩
        unfold Builtin.«set.__init__» noKeywords Builtin.Frozenset.updateFrom
        generalize hPI : pyIter = PI
        wp_walk
        subst hPI
        refine wpAny_pyIter_tuple hl1 ?_
        refine wpAny_bind (wpAny_runValue ?_)
        refine loopT ((Walks.tuple (by simp [hh]) _ l hne items).toS) s.heap.objs.size hSf xs hsz (by rw [← hsz]; exact hb) hval (items.size - 0) 0 _ (by omega) (Nat.zero_le _)
          ⟨⟨_, Heap.get?_push_size _ rfl, rfl, rfl⟩, (hl1.push _)⟩ ?hS0 ?hR
        case hS0 =>
          exact SetOf_congr ((setObjOf_fresh (knd := PySem.strKind prog w) led).setOf (Heap.get?_push_of_some _ hS) (by unfold scanBound; omega)) (fun _ => rfl) rfl
        case hR =>
          intro s' hm hS'
          rw [← hsz] at hS'
          obtain ⟨h', g', d', tk', os'⟩ := s'
          obtain rfl : g' = s.gens := hm.gens
          obtain rfl : d' = s.drawn := hm.drawn
          obtain rfl : os' = s.os := hm.os
          show wpAny _ _ _ _ _ _
          refine wpAny_pure ?_
          show wpAny _ _ (ret Value.none) _ _ _
          refine wpAny_pure ⟨rfl, h', tk', rfl, hS', fun b o hb e => ?_⟩
          exact hm.heap b o (by rw [Heap.size_push]; simp only [List.mem_cons, List.mem_singleton, List.not_mem_nil, or_false, not_or]; exact ⟨Nat.ne_of_lt hb, Nat.ne_of_lt (Nat.lt_succ_of_lt hb)⟩) (Heap.get?_push_of_some _ (Heap.get?_push_of_some _ e))
      · cases r₂ with
        | error e => exact hr₂
        | ok fl₂ =>
          cases fl₂ with
          | ret r =>
            obtain ⟨rfl, h', tk, rfl, hS'⟩ := hr₂
            repeat (any_goals (first | assumption | wp_step))
            exact h _ _ hS'
          | _ => exact hr₂.elim
    | _ => exact hr.elim
end
/-- len(set(t)) of a tuple of texts -/
theorem strs_of_vals : ∀ {ns : List Str} {us : List Value}, Vals (ns.map V.str) us → PyProof.Rows.StrsAre us ns
  | [], _, .nil => .nil
  | n :: ns, _, .cons r t => by
    obtain ⟨k, rfl⟩ := r
    exact .cons n k (strs_of_vals t)
def tLenSetT (K : PySem.W.Frag) (ta : TE) : TE := fun σ H Q => ta σ H fun x H1 => ∃ (l : Addr) (ns : List Str), x = .ref l ∧ SqT K H1 l (ns.map V.str) ∧ ns.length ≤ 2000 ∧ Q (.int (newN ns ns.length : Nat)) H1
theorem pe_lenSetT {X : Cx} {a : Expr} {ta : TE} {p p2 q pos : Pos} (hg : Gl X "len") (hm : X.mg "len" = none) (hg2 : Gl X "set") (hm2 : X.mg "set" = none) (ha : PE X a ta) (hc : X.calm = true := by rfl)
    (na : starEach [a] X.env = (false, eval a X.env) :: starEach [] X.env := by rfl) : PE X (.Call (.Name "len" p) [.Call (.Name "set" p2) [a] [] q] [] pos) (tLenSetT X.K ta) := by
  refine ⟨fun pins s σ H Q I h => ?_⟩
  refine Call_ (ld_blt I hg hm boot_len ?_)
  refine PyProof.Rows.callWith_builtin1 (PyProof.Rows.args_cons ?_ rfl) rfl rfl
  refine Call_ (ld_blt I hg2 hm2 boot_set ?_)
  refine PyProof.Rows.callWith_type1 (PyProof.Rows.args_cons (thn (ha.run pins s σ H _ I h) fun v s1 ⟨x, H1, I1, r1, q1⟩ => PyProof.Rows.args_nil ?_) na) na rfl
  obtain ⟨l, ns, rfl, hq, hl, q1⟩ := q1
  cases r1
  obtain ⟨its, r, pl, hz⟩ := I1.tuple hq
  refine set_tup (I1.ok.hd hc) pl (by simpa using strs_of_vals r) (by unfold scanBound; omega) fun h' tk hS => ?_
  refine PyProof.Rows.args_nil ?_
  obtain ⟨⟨o, es, ep, t, ho, hex, hd, _, _, _, hf, hn⟩, hk⟩ := hS
  have hle := newN_le ns ns.length
  have I2 : Inv X pins σ H1 { s1 with heap := h', toks := tk } := I1.kept fun b o e => hk b o (Heap.lt_size e) e
  exact call_len_set ho hex hd hf (by rw [hn] <;> omega) ⟨.int (newN ns ns.length : Nat), H1, I2.tok _, ⟨_, by rw [hn]⟩, q1⟩
def opLenSetT (d : R) (S : Store) : Out R := match d with
  | .v (.tup ds) => match strsOf (ds.map R.v) with
    | some ns => if ns.length ≤ 2000 then .ok (.v (.int (newN ns ns.length : Nat))) S else .no
    | none => .no
  | _ => .no
@[simp] theorem opLenSetT_strs (xs : List Str) (h : xs.length ≤ 2000) (S : Store) : opLenSetT (.v (.tup (xs.map D.str))) S = .ok (.v (.int (newN xs xs.length : Nat))) S := by
  unfold opLenSetT
  simp only [List.map_map, show (R.v ∘ D.str) = fun x => R.v (.str x) from rfl, strsOf_map xs, h, if_true]
theorem pm_lenSetT {X : Cx} {E : St → XK} {a : Expr} {ma : ME} {p p2 q pos : Pos} (hg : Gl X "len") (hm : X.mg "len" = none) (hg2 : Gl X "set") (hm2 : X.mg "set" = none) (ha : PE X a (tE X.K E ma)) (hc : X.calm = true := by rfl)
    (na : starEach [a] X.env = (false, eval a X.env) :: starEach [] X.env := by rfl) : PE X (.Call (.Name "len" p) [.Call (.Name "set" p2) [a] [] q] [] pos) (tE X.K E (mUn opLenSetT ma)) := by
  refine PE.imp (pe_lenSetT hg hm hg2 hm2 ha hc na) ?_
  rintro σ H Q ⟨ρ, m, S, sr, er, h⟩
  refine ⟨ρ, m, S, sr, er, RO.bind h fun d S1 v H1 ρ1 m1 s1 r1 h1 => ?_⟩
  unfold opLenSetT at h1
  split at h1
  · rename_i ds
    split at h1
    · rename_i ns hbs
      split at h1
      · rename_i hz
        cases r1 with
        | v r1 =>
          cases r1 with
          | tup ht ra => exact ⟨_, ns, rfl, by rw [← rqa_strs ra.q hbs]; exact .inl (.inl ht), hz, h1 _ _ _ .refl s1 (.v (.int _))⟩
      · exact h1.elim
    · exact h1.elim
  · exact h1.elim
end M
namespace M
open PySem PySem.Spec L2
open PyProof.Rows hiding St
def opNeNil (d e : R) (S : Store) : Out R := match lstOf S d, lstOf S e with
  | some xs, some [] => .ok (.v (.bl (decide (xs ≠ [])))) S
  | _, _ => .no
@[simp] theorem opNeNil_ref {n : Nat} {xs : List R} {S : Store} (h : S[n]? = some (.lst xs)) : opNeNil (.ref n) (.v (.lst [])) S = .ok (.v (.bl (decide (xs ≠ [])))) S := by
  simp [opNeNil, lstOf, lsOf_lst h]
end M
namespace M
open PySem PySem.Spec PySem.W L2
open PyProof.Rows hiding St
def strLt (x y : Str) : Bool := decide (x.cps.toList < y.cps.toList)
/-- two items by their keys -/
def by2 {α : Type} (p q : α × Str) : List α := if strLt q.2 p.2 then [q.1, p.1] else [p.1, q.1]
section
variable {X : Cx} {pins : List (Addr × Obj)} {σ : L2.St} {H H' : Hp} {s : Shared} {h' : Heap} {a b : Addr}
theorem stay_but (I : Inv X pins σ H s) {L : List Addr} (hL : ∀ b ∈ L, H b = none) (k : ∀ c u, c ∉ L → s.heap.get? c = some u → h'.get? c = some u) {c : Addr} {u : HO} (e : H c = some u) (ht : ∀ b xs, H b = some (.tup xs) → H' b = some (.tup xs)) (ho : ∀ b, H b = some (.own c) → H' b = some (.own c)) : ObjOk X.prog X.w H' h' c u :=
  (I.hok c u e).stay (fun b o hb q => k b o (fun z => by
    have n := hL b z
    rcases hb with rfl | hb
    · rw [e] at n; cases n
    · rw [hb] at n; cases n) q) ho ht
/-- objects that nothing tracks have changed -/
theorem touch {tk : Nat} (I : Inv X pins σ H s) (L : List Addr) (fp : ∀ b ∈ L, FpOk X pins H b) (k : ∀ c u, c ∉ L → s.heap.get? c = some u → h'.get? c = some u) : Inv X pins σ H { s with heap := h', toks := tk } :=
  I.call' (ch := L) rfl
    ⟨fun c o q n _ hx => k c o hx q, fun c o q n _ hx => ⟨o.slots, k c o hx q⟩, fun c o q n _ => n, fun c o q hx => ⟨o, k c o hx q⟩, fun _ _ q => q, fun _ _ _ q => q, fun _ ps q => ⟨#[], by rw [q]; simp⟩⟩
    (fun c u e => stay_but I (fun b hb => (fp b hb).1) k e (fun _ _ q => q) fun _ q => q) I.bare
    fun b hb => ⟨(fp b hb).2.2.2.1, (fp b hb).2.1, (fp b hb).2.2.2.2.1, (fp b hb).2.2.2.2.2⟩
/-- .. and one of them is a list that is tracked from now on -/
theorem touch_lst {tk n : Nat} {xs : List V} {its : List Value} (I : Inv X pins σ H s) (L : List Addr) (fp : ∀ b ∈ L, FpOk X pins H b) (k : ∀ c u, c ∉ L → s.heap.get? c = some u → h'.get? c = some u) (ha : a ∈ L)
    (hz : xs.length ≤ sizeLine) (r : Vals xs its) (e : h'.get? a = some (seqObj "list" its.toArray n)) : Inv X pins σ (upd H a (.lst xs)) { s with heap := h', toks := tk } := by
  have na := (fp a ha).1
  have up : ∀ b u, H b = some u → upd H a (.lst xs) b = some u := fun b u q => by
    rw [upd_ne (fun z => by rw [z, na] at q; cases q)]; exact q
  refine I.call' (ch := L) rfl
    ⟨fun c o q n _ hx => k c o hx q, fun c o q n _ hx => ⟨o.slots, k c o hx q⟩, fun c o q n hx => ?_, fun c o q hx => ⟨o, k c o hx q⟩, fun _ _ q => up _ _ q, fun _ _ _ q => up _ _ q, fun _ ps q => ⟨#[], by rw [up _ _ q]; simp⟩⟩
    (fun c u q => ?_) I.bare
    fun b hb => ⟨(fp b hb).2.2.2.1, (fp b hb).2.1, (fp b hb).2.2.2.2.1, (fp b hb).2.2.2.2.2⟩
  · rw [upd_ne (fun z => hx (by rw [z]; exact ha))]; exact n
  · by_cases hc : c = a
    · subst hc
      rw [upd_same] at q
      cases q
      exact ⟨hz, its, n, r, e⟩
    · rw [upd_ne hc] at q
      exact stay_but I (fun b hb => (fp b hb).1) k q (fun b xs z => up _ _ z) fun b z => up _ _ z
end
section
variable {X : Cx} {pins : List (Addr × Obj)} {σ : L2.St} {H : Hp} {s : Shared} {k : Nat} {f : Addr} {fd : FuncData} {p : Str} {sp : Sp}
theorem key_call {Q : VK} {x : V} {v : Value} (F : FnOk X.prog X.w X.K X.mg X.base CX0 k f fd [p] sp) (hr : Room k X.A.in1.in1) (hb : Binds X.K fd [p] []) (I : Inv X pins σ H s) (r : RelV x v) (h : sp [x] H Q E0) :
    wpAny (model X.prog X.w) X.A.in1.in1 (call (.ref f) [v]) (EP X pins σ Q) (fun _ _ => False) s := by
  have hbs := hb s [v] I.kIn rfl
  refine wpAny_call (codeAny_mono (F.run X.A.in1.in1 X.stack s H ⟨[v], []⟩ [v] [x] Q E0 hr I.env0.in1.in1 (by simpa using hbs) (.cons r .nil) h) fun r s' hq => ?_)
  cases r with
  | error e => exact hq
  | ok fl =>
    cases fl with
    | ret u => exact I.after hq
    | next => exact hq
    | brk => exact hq
    | cont => exact hq
/-- what two calls of the key give -/
def Keys2 (sp : Sp) (x1 x2 : V) (H : Hp) (R : Str → Str → Hp → Prop) : Prop :=
  sp [x1] H (fun k1 H1 => ∃ t1, k1 = .str t1 ∧ sp [x2] H1 (fun k2 H2 => ∃ t2, k2 = .str t2 ∧ R t1 t2 H2) E0) E0
theorem ms2 {α : Type} (le : α → α → Bool) (a b : α) : [a, b].mergeSort le = if le a b then [a, b] else [b, a] := by
  simp [List.mergeSort, List.MergeSort.Internal.splitInTwo, List.merge]
theorem le_str {α : Type} (a b : α × Str) : dataLe false (fun p : α × Str => PyData.str p.2) a b = !strLt b.2 a.2 := by
  show (!PyProof.Rows.lexLt itemOrd [.inr b.2.cps.toList] [.inr a.2.cps.toList]) = !decide (b.2.cps.toList < a.2.cps.toList)
  unfold PyProof.Rows.lexLt PyProof.Rows.lexLt
  rw [Bool.and_false, Bool.or_false]
  rfl
/-- where the keys' loop stands behind i calls -/
def Stg (X : Cx) (pins : List (Addr × Obj)) (σ : L2.St) (sp : Sp) (x1 x2 : V) (R : Str → Str → Hp → Prop) (a kS : Addr) (e1 : Nat) (i : Nat) (s : Shared) : Prop :=
  ∃ (H : Hp) (keys : Array Value) (e : Nat), Inv X pins σ H s ∧ FpOk X pins H a ∧ FpOk X pins H kS ∧ s.heap.get? kS = some (seqObj "list" keys e) ∧ s.heap.get? a = some (seqObj "list" #[] e1) ∧
    ((i = 0 ∧ keys = #[] ∧ Keys2 sp x1 x2 H R) ∨ (i = 1 ∧ ∃ t1 u, keys = #[.str t1 u] ∧ sp [x2] H (fun k2 H2 => ∃ t2, k2 = .str t2 ∧ R t1 t2 H2) E0) ∨ (i = 2 ∧ ∃ t1 u1 t2 u2, keys = #[.str t1 u1, .str t2 u2] ∧ R t1 t2 H))
theorem pin2 {a kS : Addr} {oa ok : Obj} (I : Inv X pins σ H s) (fa : FpOk X pins H a) (fk : FpOk X pins H kS) (gk : s.heap.get? kS = some ok) (ga : s.heap.get? a = some oa) (da : ∀ v, oa.data ≠ .cell v) (dk : ∀ v, ok.data ≠ .cell v) :
    Inv X (pins ++ [(kS, ok), (a, oa)]) σ H s := I.pins_of fun q hq => by
  rcases List.mem_append.mp hq with hq | hq
  · exact I.pin q (List.mem_append_right _ hq)
  · simp only [List.mem_cons, List.not_mem_nil, or_false] at hq
    rcases hq with rfl | rfl
    · exact ⟨gk, fk.1, fk.2.1, fk.2.2.1, dk⟩
    · exact ⟨ga, fa.1, fa.2.1, fa.2.2.1, da⟩
theorem pushed {Q : VK} {a kS : Addr} {e1 e : Nat} {keys : Array Value} {uv : Value} {s1 : Shared} (fa : FpOk X pins H a) (fk : FpOk X pins H kS) (hka : kS ≠ a)
    (h : EP X (pins ++ [(kS, seqObj "list" keys e), (a, seqObj "list" #[] e1)]) σ Q uv s1) :
    s1.heap.get? kS = some (seqObj "list" keys e) ∧ ∃ (H1 : Hp) (u : V) (e' : Nat), Inv X pins σ H1 { s1 with heap := s1.heap.update kS (Obj.mapSeq (·.push uv)) } ∧ FpOk X pins H1 a ∧ FpOk X pins H1 kS ∧
      (s1.heap.update kS (Obj.mapSeq (·.push uv))).get? kS = some (seqObj "list" (keys.push uv) e') ∧ (s1.heap.update kS (Obj.mapSeq (·.push uv))).get? a = some (seqObj "list" #[] e1) ∧ RelV u uv ∧ Q u H1 := by
  obtain ⟨u, H1, I1, ru, q⟩ := h
  obtain ⟨gk1, nk, _⟩ := I1.pin (kS, seqObj "list" keys e) (by simp)
  obtain ⟨ga1, na, _⟩ := I1.pin (a, seqObj "list" #[] e1) (by simp)
  have J := I1.unpinned
  have fk1 : FpOk X pins H1 kS := ⟨nk, fk.2⟩
  have fa1 : FpOk X pins H1 a := ⟨na, fa.2⟩
  have sb := Heap.SameBut.update s1.heap kS (Obj.mapSeq (·.push uv))
  refine ⟨gk1, H1, u, _, touch (tk := s1.toks) J [kS] (fun b hb => by rw [List.mem_singleton] at hb; subst hb; exact fk1) fun c o hc q => ?_, fa1, fk1, get?_update_seq gk1 (·.push uv), ?_, ru, q⟩
  · exact (sb.2 c (by simpa using hc)).trans q
  · exact (sb.2 a hka.symm).trans ga1
theorem rest2 {a kS : Addr} {e1 : Nat} {x1 x2 : V} {v1 v2 : Value} {R : Str → Str → Hp → Prop} {P : PySem.Fin → Shared → Prop} {E : Value → Shared → Prop} (F : FnOk X.prog X.w X.K X.mg X.base CX0 k f fd [p] sp) (hr : Room k X.A.in1.in1) (hb : Binds X.K fd [p] []) (hu : X.A.units + 20 < cLine)
    (r1 : RelV x1 v1) (r2 : RelV x2 v2) (hka : kS ≠ a) (st : Stg X pins σ sp x1 x2 R a kS e1 0 s)
    (fin : ∀ (s' : Shared) (t1 t2 : Str) (H' : Hp), Inv X pins σ (upd H' a (.lst (by2 (x1, t1) (x2, t2)))) s' → H' a = none → R t1 t2 H' → P (.done (.ret .none)) s') :
    wpAny (model X.prog X.w) X.A.in1.in1 (ksk_rest a (.ref f) false [v1, v2].toArray e1 (.ref kS)) P E s := by
  unfold ksk_rest
  refine wpAny_bind (wpAny_rule ?_)
  rw [List.forIn_toArray]
  refine wpAny_bind (ksk_fold (Stg X pins σ sp x1 x2 R a kS e1) [v1, v2] 0 s st ?_ ?_)
  · rintro j v s' hv ⟨H', keys, e, I, fa, fk, gk, ga, hc⟩
    rw [Nat.zero_add] at hc ⊢
    match j, hv, hc with
    | 0, hv, hc =>
      obtain rfl : v1 = v := by simpa using hv
      obtain ⟨rfl, hq⟩ : keys = #[] ∧ Keys2 sp x1 x2 H' R := by
        rcases hc with ⟨_, h1, h2⟩ | ⟨h, _⟩ | ⟨h, _⟩
        · exact ⟨h1, h2⟩
        · cases h
        · cases h
      refine wpAny_bind (wpAny_attempt (wpAny_mono (key_call F hr hb (pin2 I fa fk gk ga (fun _ z => nomatch z) (fun _ z => nomatch z)) r1 hq) (fun uv s1 hq => ?_) fun _ _ z => z.elim))
      obtain ⟨g, H1, u, e', J, fa1, fk1, g1, g2, ru, t1, rfl, q⟩ := pushed fa fk hka hq
      obtain ⟨tk, rfl⟩ := ru
      refine wpAny_bind (listUpdate_at g rfl ?_ (Nat.zero_le _) (by show 1 ≤ _; exact Nat.succ_le_succ (Nat.zero_le _)))
      exact wpAny_pure ⟨rfl, H1, _, e', J, fa1, fk1, g1, g2, .inr (.inl ⟨rfl, t1, tk, rfl, q⟩)⟩
    | 1, hv, hc =>
      obtain rfl : v2 = v := by simpa using hv
      obtain ⟨t1, w1, rfl, hq⟩ : ∃ t1 u, keys = #[.str t1 u] ∧ sp [x2] H' (fun k2 H2 => ∃ t2, k2 = .str t2 ∧ R t1 t2 H2) E0 := by
        rcases hc with ⟨h, _⟩ | ⟨_, h⟩ | ⟨h, _⟩
        · cases h
        · exact h
        · cases h
      refine wpAny_bind (wpAny_attempt (wpAny_mono (key_call F hr hb (pin2 I fa fk gk ga (fun _ z => nomatch z) (fun _ z => nomatch z)) r2 hq) (fun uv s1 hq => ?_) fun _ _ z => z.elim))
      obtain ⟨g, H1, u, e', J, fa1, fk1, g1, g2, ru, t2, rfl, q⟩ := pushed fa fk hka hq
      obtain ⟨tk, rfl⟩ := ru
      refine wpAny_bind (listUpdate_at g rfl ?_ (sz_of (by simp)) (by show 2 ≤ _; exact Nat.le_succ_of_le (sz_of (by decide))))
      exact wpAny_pure ⟨rfl, H1, _, e', J, fa1, fk1, g1, g2, .inr (.inr ⟨rfl, t1, w1, t2, tk, rfl, q⟩)⟩
    | j + 2, hv, _ => simp at hv
  · rintro s' ⟨H', keys, e, I, fa, fk, gk, ga, hc⟩
    obtain ⟨t1, u1, t2, u2, rfl, q⟩ : ∃ t1 u1 t2 u2, keys = #[.str t1 u1, .str t2 u2] ∧ R t1 t2 H' := by
      rcases hc with ⟨h, _⟩ | ⟨h, _⟩ | ⟨_, h⟩
      · cases h
      · cases h
      · exact h
    refine wpAny_bind (listItems_at gk rfl ?_)
    have h12 : EachIs (fun v k => ∃ as, Reads s'.heap v k as) [Value.str t1 u1, .str t2 u2] [PyData.str t1, .str t2] := .cons ⟨[], .str t1 u1⟩ (.cons ⟨[], .str t2 u2⟩ .nil)
    have hal : AllAlike [PyData.str t1, .str t2] := by
      intro d hd e he
      simp only [List.mem_cons, List.not_mem_nil, or_false] at hd he
      rcases hd with rfl | rfl <;> rcases he with rfl | rfl <;> rfl
    have hsk : Sortable [PyData.str t1, .str t2] := .inr fun d hd => by
      simp only [List.mem_cons, List.not_mem_nil, or_false] at hd
      rcases hd with rfl | rfl <;> exact ⟨(fun z => nomatch z), (fun _ z => nomatch z)⟩
    have hdep : ∀ d, d ∈ [PyData.str t1, .str t2] → X.A.in1.in1.units + d.depth < cLine := fun d hd => by
      have : X.A.in1.in1.units = X.A.units + 2 := rfl
      simp only [List.mem_cons, List.not_mem_nil, or_false] at hd
      rcases hd with rfl | rfl <;> (simp only [PyData.depth]; omega)
    refine keyH_end (κ := dataKind s'.heap [PyData.str t1, .str t2]) (h₁ := hideAll s'.heap [kS]) (vs := [v1, v2]) (fun b o _ z => of_hideAll _ z) (hideAll_none _ (by simp)) gk ga hka (SortsAt.data h12 hal hsk hdep) rfl (sz_of (by simp)) fun h' tk c kp hout => ?_
    have ko : KeyedOut false ([(x1, t1), (x2, t2)].map fun p : V × Str => PyData.str p.2) [v1, v2] (sortVals (dataKind s'.heap [PyData.str t1, .str t2]) false [Value.str t1 u1, .str t2 u2] [v1, v2]) := ⟨s'.heap, _, hal, rfl, h12⟩
    have ee : EachIs (fun v (p : V × Str) => RelV p.1 v) (sortVals (dataKind s'.heap [PyData.str t1, .str t2]) false [Value.str t1 u1, .str t2 u2] [v1, v2]) ([(x1, t1), (x2, t2)].mergeSort (dataLe false fun p : V × Str => PyData.str p.2)) :=
      keyedOut_each (R := fun v (p : V × Str) => RelV p.1 v) (fun p : V × Str => PyData.str p.2) ko (.cons r1 (.cons r2 .nil))
    have hm : [(x1, t1), (x2, t2)].mergeSort (dataLe false fun p : V × Str => PyData.str p.2) = if strLt t2 t1 then [(x2, t2), (x1, t1)] else [(x1, t1), (x2, t2)] := by
      rw [ms2, le_str]
      cases strLt t2 t1 <;> rfl
    have ev : Vals (by2 (x1, t1) (x2, t2)) (sortVals (dataKind s'.heap [PyData.str t1, .str t2]) false [Value.str t1 u1, .str t2 u2] [v1, v2]) := by
      rw [hm] at ee
      show Vals (if strLt t2 t1 then [x2, x1] else [x1, x2]) _
      generalize sortVals (dataKind s'.heap [PyData.str t1, .str t2]) false [Value.str t1 u1, .str t2 u2] [v1, v2] = out at ee
      generalize strLt t2 t1 = bb at ee
      cases bb with
      | true => simp only [if_true] at ee ⊢; cases ee with | cons h1 h2 => cases h2 with | cons h3 h4 => cases h4; exact .cons h1 (.cons h3 .nil)
      | false => simp only [Bool.false_eq_true, if_false] at ee ⊢; cases ee with | cons h1 h2 => cases h2 with | cons h3 h4 => cases h4; exact .cons h1 (.cons h3 .nil)
    refine fin _ t1 t2 H' (touch_lst (a := a) (n := c) I [a, kS] (fun b hb => ?_) (fun d o hd z => ?_) (by simp) ?_ ev hout) fa.1 q
    · simp only [List.mem_cons, List.not_mem_nil, or_false] at hb
      rcases hb with rfl | rfl
      · exact fa
      · exact fk
    · simp only [List.mem_cons, List.not_mem_nil, or_false, not_or] at hd
      exact kp d o hd.1 (hideAll_get _ z (by simp [hd.2]))
    · unfold by2; split <;> exact sz_of (by simp)
def rSortK (X : Cx) (f : Addr) (sp : Sp) : List V → List V → Hp → VK → Prop := fun vs zs H Q => ∃ (l : Addr) (x1 x2 : V), vs = [.ref l] ∧ zs = [.ref f] ∧ SqL X.K H l [x1, x2] ∧
  Keys2 sp x1 x2 H fun t1 t2 H2 => ∀ p, H2 p = none → Q (.ref p) (upd H2 p (.lst (by2 (x1, t1) (x2, t2))))
theorem cr_sortK (F : FnOk X.prog X.w X.K X.mg X.base CX0 k f fd [p] sp) (hr : Room k X.A.in1.in1) (hb : Binds X.K fd [p] []) (hu : X.A.units + 20 < cLine) : CallRK X (.builtin "sorted") [Str.ofString "key"] (rSortK X f sp) := by
  intro pins s σ H vs zs us ws Q I r rz h
  obtain ⟨l, x1, x2, rfl, rfl, hs, q⟩ := h
  obtain rfl := Vals.ref1 r
  obtain ⟨w1, rfl, e1⟩ := vals1 rz
  obtain rfl : w1 = Value.ref f := e1
  obtain ⟨its, rv, pl, hz⟩ := I.list hs
  obtain ⟨v1, v2, rfl, r1, r2⟩ : ∃ v1 v2, its = [v1, v2] ∧ RelV x1 v1 ∧ RelV x2 v2 := by
    cases rv with
    | cons a b => cases b with | cons c d => cases d; exact ⟨_, _, rfl, a, c⟩
  show wpAny _ _ (call (.builtin "sorted") [.ref l] [(Str.ofString "key", .ref f)]) _ _ _
  refine sorted_of_sort (vs := [v1, v2]) pl.isList (sz_of (by simp)) (ksk_s1 _ _) (fun x => ksk_l1 _ _) fun E' => ?_
  rw [ksk_t1]
  have hal : s.heap.objs.size ≤ s.heap.objs.size + 1 := Nat.le_succ _
  have c0 := copyHeap_at s.heap [v1, v2]
  have csz : (copyHeap s.heap [v1, v2]).objs.size = s.heap.objs.size + 2 := by
    unfold copyHeap; rw [size_push', Heap.size_update, size_push']
  obtain ⟨e1, c1⟩ : ∃ e1, ((copyHeap s.heap [v1, v2]).update (s.heap.objs.size + 1) (Obj.mapSeq fun _ => (#[] : Array Value))).get? (s.heap.objs.size + 1) = some (seqObj "list" #[] e1) := ⟨_, get?_update_seq c0 fun _ => #[]⟩
  unfold ksk_tree
  refine wpAny_bind (listItems_at c0 rfl ?_)
  refine wpAny_bind (listUpdate_at c0 rfl ?_ (sz_of (by simp)) (Nat.zero_le _))
  refine wpAny_bind (seqEpoch_at c1 rfl ?_)
  refine wpAny_bind (wpAny_newTuple ?_ (sz_of (by simp)))
  refine wpAny_bind (wpAny_newList ?_ (Nat.zero_le _))
  refine wpAny_holding ?_
  have usz : ((copyHeap s.heap [v1, v2]).update (s.heap.objs.size + 1) (Obj.mapSeq fun _ => (#[] : Array Value))).objs.size = s.heap.objs.size + 2 := by rw [Heap.size_update, csz]
  generalize hh : (copyHeap s.heap [v1, v2]).update (s.heap.objs.size + 1) (Obj.mapSeq fun _ => (#[] : Array Value)) = h0 at c1 usz
  have tsz : (h0.push { cls := .type "tuple", data := .seq ([v1, v2].toArray.toList).toArray }).objs.size = s.heap.objs.size + 3 := by rw [size_push', usz]
  have kp : ∀ b u, s.heap.get? b = some u → ((h0.push { cls := .type "tuple", data := .seq ([v1, v2].toArray.toList).toArray }).push { cls := .type "list", data := .seq ([] : List Value).toArray }).get? b = some u := fun b u q => by
    refine Heap.get?_push_of_some _ (Heap.get?_push_of_some _ ?_)
    rw [← hh]
    refine ((Heap.SameBut.update (copyHeap s.heap [v1, v2]) (s.heap.objs.size + 1) _).2 b (Nat.ne_of_lt (Nat.lt_succ_of_lt (Heap.lt_size q)))).trans (copyHeap_old q)
  rw [tsz]
  have I1 := I.kept (t' := s.toks) kp
  have fr : ∀ n, FpOk X pins H (s.heap.objs.size + n) := fun n => I.fpOk (Nat.le_add_right _ _) (I.hok.fresh (Nat.le_add_right _ _))
  have gk : ((h0.push { cls := .type "tuple", data := .seq ([v1, v2].toArray.toList).toArray }).push { cls := .type "list", data := .seq ([] : List Value).toArray }).get? (s.heap.objs.size + 3) = some (seqObj "list" #[] 0) := by
    rw [← tsz]; exact Heap.get?_push_size _ rfl
  have ga : ((h0.push { cls := .type "tuple", data := .seq ([v1, v2].toArray.toList).toArray }).push { cls := .type "list", data := .seq ([] : List Value).toArray }).get? (s.heap.objs.size + 1) = some (seqObj "list" #[] e1) :=
    Heap.get?_push_of_some _ (Heap.get?_push_of_some _ c1)
  refine rest2 (R := fun t1 t2 H2 => ∀ p, H2 p = none → Q (.ref p) (upd H2 p (.lst (by2 (x1, t1) (x2, t2))))) F hr hb hu r1 r2 (by
    intro z
    have : (s.heap.objs.size + 3 : Nat) = s.heap.objs.size + 1 := z
    omega) ⟨H, #[], 0, I1, fr 1, fr 3, gk, ga, .inl ⟨rfl, rfl, q⟩⟩ fun s' t1 t2 H' J hn hq => ⟨rfl, .ref _, _, J, rfl, hq _ hn⟩
end
def mSortK (g : List R → Store → Out R) (e : ME) : ME := fun m S => (e m S).bind fun d S1 => match lstOf S1 d with
  | some [x, y] => (g [x] S1).bind fun kx S2 => match kx with
    | .v (.str a) => (g [y] S2).bind fun ky S3 => match ky with
      | .v (.str b) => .ok (.ref S3.length) (S3 ++ [.lst (by2 (x, a) (y, b))])
      | _ => .no
    | _ => .no
  | _ => .no
theorem pm_sortK {X : Cx} {E : L2.St → XK} {e : Expr} {me : ME} {fn pn : Str} {q p kpos pos : Pos} {k : Nat} {f : Addr} {fd : FuncData} {g : List R → Store → Out R} (hg : Gl X "sorted") (hm : X.mg "sorted" = none) (hgf : Gl X fn) (hmf : X.mg fn = some (.ref f))
    (F : FnOk X.prog X.w X.K X.mg X.base CX0 k f fd [pn] (spM X.K 1 g)) (hr : Room k X.A.in1.in1) (hb : Binds X.K fd [pn] []) (hu : X.A.units + 64 < cLine) (hE : ∀ σ, E σ = E0) (ha : PE X e (tE X.K E me))
    (hd : (fn == ("__debug__" : Str)) = false := by decide)
    (he : backTo pos (starEach [e] X.env) = (false, eval e X.env) :: backTo pos (starEach [] X.env) := by rfl) (hpl : (backTo pos (starEach [e] X.env)).any (·.1) = false := by rfl)
    (hs : starEach [e] X.env = (false, eval e X.env) :: starEach [] X.env := by rfl)
    (hall : (backToKw pos (keywordEach [⟨some "key", .Name fn q, kpos⟩] X.env)).all (·.1.isSome) = true := by rfl) (hnone : (backToKw pos (keywordEach [⟨some "key", .Name fn q, kpos⟩] X.env)).any (·.1.isNone) = false := by rfl) (hks : (backToKw pos (keywordEach [⟨some "key", .Name fn q, kpos⟩] X.env)).filterMap (·.1) = [Str.ofString "key"] := by rfl) :
    PE X (.Call (.Name "sorted" p) [e] [⟨some "key", .Name fn q, kpos⟩] pos) (tE X.K E (mSortK g me)) := by
  refine PE.imp (pe_callBK (cr_sortK F hr hb (by omega)) hg hm rfl (pa_cons ha pa_nil hs) (pk_cons (pe_glob hgf hmf (v := .ref f) rfl hd) pk_nil) (by decide) (by decide) he hpl hall hnone hks) ?_
  rintro σ H Q ⟨ρ, m, S, sr, er, h⟩
  refine ⟨ρ, m, S, sr, er, RO.bind h fun d S1 v H1 ρ1 m1 s1 r1 h1 => ?_⟩
  rw [hE] at h1
  show rSortK X f (spM X.K 1 g) [v] [.ref f] H1 Q
  split at h1
  · rename_i x y hxy
    obtain ⟨l, xs, rfl, hq, ra⟩ := s1.lsD r1 hxy
    cases ra with
    | cons rx rr =>
      cases rr with
      | cons ry rr =>
        cases rr
        refine ⟨l, _, _, rfl, rfl, hq, rfl, ρ1, S1, [x], s1, .cons rx .nil, RO.bind h1 fun kx S2 v2 H2 ρ2 m2 s2 r2 h2 => ?_⟩
        split at h2
        · rename_i a
          cases r2 with
          | v r2 =>
            cases r2
            refine ⟨a, rfl, rfl, ρ2, S2, [y], s2, .cons (ry.mo m2) .nil, RO.bind h2 fun ky S3 v3 H3 ρ3 m3 s3 r3 h3 => ?_⟩
            split at h3
            · rename_i b
              cases r3 with
              | v r3 =>
                cases r3
                refine ⟨b, rfl, fun p hp => RO.lst s3 ?_ h3 hp⟩
                unfold by2
                split
                · exact .cons ((ry.mo m2).mo m3) (.cons ((rx.mo m2).mo m3) .nil)
                · exact .cons ((rx.mo m2).mo m3) (.cons ((ry.mo m2).mo m3) .nil)
            · exact h3.elim
        · exact h2.elim
  · exact h1.elim
end M
namespace M
open PySem PySem.Spec PySem.W L2
open PyProof.Rows hiding St
def sortS (xs : List Str) : List Str := xs.mergeSort (dataLe false PyData.str)
theorem sortS_perm (xs : List Str) : (sortS xs).Perm xs := List.mergeSort_perm _ _
section
variable {prog : Program} {w : World} {A : Around} {E : Value → Shared → Prop} {s : Shared}
/-- what list(t) lays ahead of a sort -/
def laid (h : Heap) (items : Array Value) : Heap := (h.push { cls := .type "list", data := .seq ([] : List Value).toArray }).update h.objs.size (Obj.mapSeq (· ++ items))
theorem laid_size (h : Heap) (items : Array Value) : (laid h items).objs.size = h.objs.size + 1 := by unfold laid; rw [Heap.size_update, size_push']
theorem laid_old {h : Heap} {items : Array Value} {b : Addr} {o : Obj} (e : h.get? b = some o) : (laid h items).get? b = some o :=
  (Heap.get?_update_other _ _ (Nat.ne_of_gt (Heap.lt_size e))).trans (Heap.get?_push_of_some _ e)
theorem collect_tup {l : Addr} {o : Obj} {items : Array Value} {n : Nat} {Q : List Value → Shared → Prop} (ho : s.heap.get? l = some o) (hc : o.cls = .type "tuple") (hd : o.data = .seq items n) (hsz : items.size ≤ sizeLine)
    (h : Q items.toList { s with heap := laid s.heap items }) : wpAny (model prog w) A (collect (.ref l)) Q E s := by
  have g0 : (s.heap.push { cls := .type "list", data := .seq ([] : List Value).toArray }).get? s.heap.objs.size = some { cls := .type "list", data := .seq #[] 0 } := Heap.get?_push_size _ rfl
  have g1 : (laid s.heap items).get? s.heap.objs.size = some (Obj.mapSeq (· ++ items) { cls := .type "list", data := .seq #[] 0 }) := Heap.get?_update_self (Obj.mapSeq (· ++ items)) g0 rfl
  have last : wpAny (model prog w) A (do
      match (← load s.heap.objs.size).data with
      | Data.seq xs _ => pure xs.toList
      | _ => unsupported "internal:collect") Q E { s with heap := laid s.heap items } := by
    refine wpAny_bind (wpAny_load g1 (wpAny_pure ?_))
    show Q ((#[] : Array Value) ++ items).toList _
    rw [show ((#[] : Array Value) ++ items).toList = items.toList by simp]
    exact h
  unfold collect
  refine wpAny_bind (wpAny_runValue (codeAny_builtin F.entry_proto_collect ?_))
  rw [Around.under_plainId F.plain_proto_collect _]
  show wpAny _ A.in1 (newList [] >>= fun l' => again (.builtin "list.__iadd__" ⟨[l', .ref l], []⟩)) _ _ s
  refine wpAny_bind (wpAny_newObj_type (wpAny_pure ⟨plainId_quiet F.plain_list_iadd _, codeAny_builtin F.entry_list_iadd ?_⟩))
  rw [Around.under_plainId F.plain_list_iadd _]
  show wpAny _ A.in1 (Builtin.List.listExtendWith (.ref s.heap.objs.size) (.ref l) (.ref s.heap.objs.size)) _ _ _
  refine wpAny_mono (wpAny_extend_seq (hsz := hsz) (R := fun r s' => r = .ok (.ret (.ref s.heap.objs.size)) ∧ s' = { s with heap := laid s.heap items }) (s := { s with heap := s.heap.push { cls := .type "list", data := .seq ([] : List Value).toArray } }) _ l _ 0 (.inr rfl) g0 (Heap.get?_push_of_some _ ho) hc hd ⟨rfl, rfl⟩) (fun fin s' q => ?_) fun e s' q => absurd q.1 (by simp)
  cases fin with
  | done f => obtain ⟨e, rfl⟩ := q; cases e; exact last
  | again c' => exact ⟨q.1, codeAny_mono q.2 fun r s'' hr => by obtain ⟨rfl, rfl⟩ := hr; exact last⟩
theorem sorted_tupS {l : Addr} {its : List Value} {xs : List Str} {Q : Value → Shared → Prop} (hl : s.heap.IsTuple l its.toArray) (e : EachIs (fun v (x : Str) => RelV (.str x) v) its xs) (hz : xs.length ≤ 1000) (hu : A.units + 20 < cLine)
    (h : ∀ (out : List Value) (a : Addr) (h' : Heap) (c : Nat), s.heap.objs.size ≤ a → (∀ b o, s.heap.get? b = some o → h'.get? b = some o) → h'.get? a = some (seqObj "list" out.toArray c) → EachIs (fun v (x : Str) => RelV (.str x) v) out (sortS xs) → Q (.ref a) { s with heap := h' }) :
    wpAny (model prog w) A (call (.builtin "sorted") [.ref l]) Q E s := by
  obtain ⟨o, ho, hc, n, hd⟩ := hl
  have hlen : its.length = xs.length := e.length
  refine call_function_entry_kw kind_sorted plain_sorted entry_sorted (args_sorted1 _) ?_
  unfold Builtin.«sorted»
  refine wpAny_bind (m := checkCount "sorted" 1 1 _) (wpAny_pure ?_)
  refine wpAny_bind (collect_tup ho hc hd (by rw [List.size_toArray]; exact sz_of (by omega)) ?_)
  have k1 : ∀ b o, s.heap.get? b = some o → (laid s.heap its.toArray).get? b = some o := fun b o q => laid_old q
  have z1 := laid_size s.heap its.toArray
  generalize laid s.heap its.toArray = h1 at k1 z1
  refine wpAny_bind (wpAny_newList ?_ (by rw [List.toList_toArray]; exact sz_of (by omega)))
  have ga : (h1.push { cls := .type "list", data := .seq (its.toArray.toList).toArray }).get? h1.objs.size = some (seqObj "list" its.toArray 0) := by
    rw [List.toList_toArray]; exact Heap.get?_push_size _ rfl
  refine wpAny_bind (wpAny_holding (list_sort_data (R := fun v (x : Str) => RelV (.str x) v) (enc := PyData.str) (vs := its) (bs := xs) ga e ?_ ?_ ?_ (sz_of (by omega)) (fun b hb => by show A.units + 1 + 1 + (PyData.str b).depth < cLine; simp only [PyData.depth]; omega) fun out h2 h3 => ?_))
  · exact e.mono fun v x r => by obtain ⟨t, rfl⟩ := r; exact ⟨[], .str x t, by simp⟩
  · intro d hd d' hd'
    obtain ⟨x, _, rfl⟩ := List.mem_map.mp hd
    obtain ⟨y, _, rfl⟩ := List.mem_map.mp hd'
    rfl
  · exact .inr fun d hd => by
      obtain ⟨x, _, rfl⟩ := List.mem_map.mp hd
      exact ⟨(fun z => nomatch z), (fun _ z => nomatch z)⟩
  · obtain ⟨c, hc'⟩ := sortedHeap_at (out := out.toArray) ga
    refine wpAny_pure ⟨_, rfl, h out h1.objs.size _ c (by rw [z1]; exact Nat.le_succ _) (fun b o q => ?_) hc' h3⟩
    have q1 := k1 b o q
    have lt := Heap.lt_size q1
    rw [sortedHeap_old (Nat.ne_of_lt lt) (by rw [size_push']; exact Nat.lt_succ_of_lt lt)]
    exact Heap.get?_push_of_some _ q1
end
/-- sorted(t), t a tuple of texts -/
def biSortedS (ds : List R) (S : Store) : Out R := match ds with
  | [.v (.tup xs)] => match strsOf (xs.map R.v) with
    | some ss => if ss.length ≤ 1000 then .ok (.ref S.length) (S ++ [.lst ((sortS ss).map fun x => R.v (.str x))]) else .no
    | none => .no
  | _ => .no
theorem rqa_of_strs {K : PySem.W.Frag} {H : Hp} {ρ : Wd} : ∀ ns : List Str, RqA K H ρ (ns.map V.str) (ns.map fun i => R.v (.str i))
  | [] => .nil
  | n :: ns => .cons (.v (.str n)) (rqa_of_strs ns)
theorem cam_sortedS {X : Cx} (hu : X.A.units + 64 < cLine) : CaM X (.builtin "sorted") biSortedS := by
  rintro pins s σ H xs us Q I rv ⟨E, ρ, S, ds, sr, r, h⟩
  unfold biSortedS at h
  split at h
  · rename_i ys
    split at h
    · rename_i ss hss
      split at h
      · rename_i hz
        obtain ⟨v, rfl, r1⟩ := r.one
        cases r1 with
        | v r1 =>
          cases r1 with
          | tup ht ra =>
            have e := rqa_strs ra.q hss
            subst e
            obtain ⟨u, rfl, ru⟩ := rv.one
            cases ru
            obtain ⟨its, ri, pl, _⟩ := I.tuple (.inl (.inl ht))
            have each : ∀ {ss : List Str} {its : List Value}, Vals (ss.map V.str) its → EachIs (fun v (x : Str) => RelV (.str x) v) its ss := by
              intro ss
              induction ss with
              | nil => intro its r; cases r; exact .nil
              | cons a l ih => intro its r; cases r with | cons r1 r2 => exact .cons r1 (ih r2)
            have back : ∀ {ss : List Str} {its : List Value}, EachIs (fun v (x : Str) => RelV (.str x) v) its ss → Vals (ss.map V.str) its := by
              intro ss
              induction ss with
              | nil => intro its r; cases r; exact .nil
              | cons a l ih => intro its r; cases r with | cons r1 r2 => exact .cons r1 (ih r2)
            refine sorted_tupS pl (each ri) hz (by omega) fun out a h' c ha hk hg he => ?_
            have hlen : ((sortS ss).map V.str).length ≤ sizeLine := by rw [List.length_map, (sortS_perm ss).length_eq]; exact sz_of (by omega)
            exact ⟨.ref a, upd H a (.lst ((sortS ss).map V.str)), I.laid (t' := s.toks) hk ha ⟨hlen, out, c, back he, hg⟩, rfl, RO.lst sr (rqa_of_strs _) h (I.hok.fresh ha)⟩
      · exact h.elim
    · exact h.elim
  · exact h.elim
def mtCountT (d : R) (ds : List R) (S : Store) : Out R := match ds with
  | [y] => match pyOf S d, pyOf S y with
    | some (.tuple ps), some q => if PyData.plainAll ps = true ∧ q.plain = true ∧ q.depth ≤ 40 then .ok (.v (.int ((ps.countP fun z => PyData.eqv z q : Nat) : Int))) S else .no
    | _, _ => .no
  | _ => .no
theorem mtm_countT {X : Cx} (hu : X.A.units + 65 < cLine) : MtMm X "tuple.count" mtCountT := by
  rintro pins s σ H x vs v us Q I rx rv ⟨E, ρ, S, d, ds, sr, rd, r, h⟩
  unfold mtCountT at h
  split at h
  · split at h
    · rename_i y _ _ ps q h1 h2
      split at h
      · rename_i hz
        obtain ⟨w, rfl, r1⟩ := r.one
        obtain ⟨d1, s1⟩ := pyOf_dp sr rd h1
        obtain ⟨d2, s2⟩ := pyOf_dp sr r1 h2
        obtain ⟨uy, rfl, ry⟩ := rv.one
        obtain ⟨bs, rr⟩ := Dp.reads I q w uy d2 ry
        cases d1 with
        | tup hs ha =>
          cases rx
          obtain ⟨its, ri, pl, _⟩ := I.tuple hs
          obtain ⟨as, h4⟩ := Dp.readsAll I ps _ its ha ri
          refine PySem.SeqAt.count_tuple_data pl (by simpa using h4) rr hz.1 hz.2.1 (by omega) ⟨.int _, H, I.tok _, ⟨_, rfl⟩, h _ _ _ .refl sr (.v (.int _))⟩
      · exact h.elim
    · exact h.elim
  · exact h.elim
end M
namespace M
open PySem PySem.Spec L2
open PyProof.Rows hiding St
section
variable {X : Cx} {K : PySem.W.Frag} {H : Hp} {ρ : Wd} {S : Store} {E : St → XK} {ma : ME} {mr : MA} {e : Expr} {es : List Expr}
/-- tuple(xs) of a list, known as it is -/
def biTupF (ds : List R) (S : Store) : Out R := match ds with
  | [d] => match lstOf S d with
    | some es => frzO S es fun ds S2 => .ok (.v (.kt ds)) S2
    | none => .no
  | _ => .no
theorem cam_tupF : CaM X (.type "tuple") biTupF := by
  rintro pins s σ H xs us Q I rv ⟨E, ρ, S, ds, sr, r, h⟩
  unfold biTupF at h
  split at h
  · split at h
    · rename_i es hes
      obtain ⟨v, rfl, r1⟩ := r.one
      obtain ⟨p, xs, rfl, hq, ra⟩ := sr.lsD r1 hes
      obtain ⟨es', S2, ρ2, s2, m2, r2, h2⟩ := RO.frz sr ra h
      obtain ⟨u, rfl, ru⟩ := rv.one
      obtain rfl : u = .ref p := ru
      obtain ⟨its, rv', pl, hz⟩ := I.list hq
      refine call_tuple_list pl.isList (fun h' hk => ?_) (by rw [List.size_toArray, ← rv'.length]; exact hz)
      have I1 : Inv X pins σ H { s with heap := h' } := I.kept (t' := s.toks) hk
      have hfree : H h'.objs.size = none := I1.hok.fresh (Nat.le_refl _)
      let ob : Obj := { cls := .type "tuple", data := .seq its.toArray }
      have I2 : Inv X pins σ (upd H h'.objs.size (.frz ob (.tup xs))) { s with heap := h'.push { cls := .type "tuple", data := .seq its.toArray } } :=
        I1.laid (t' := s.toks) (fun b o e => Heap.get?_push_of_some _ e) (Nat.le_refl _) (show ObjOk X.prog X.w _ _ _ (.frz ob (.tup xs)) from ⟨Heap.get?_push_size _ rfl, hz, its, rv', IsTup.new _ _⟩)
      obtain ⟨s3, m3⟩ := s2.newZ (u := .frz ob (.tup xs)) hfree
      refine ⟨.ref h'.objs.size, upd H h'.objs.size (.frz ob (.tup xs)), I2, rfl, h2 _ _ _ m3 s3 (.v (.kt (.inr ⟨.inr rfl, ob, upd_same, rfl⟩) (r2.mo m3)))⟩
    · exact h.elim
  · exact h.elim
def PlT (K : PySem.W.Frag) (x : V) (H : Hp) : Prop := ∃ p, x = .ref p ∧ ((∃ o, K.lookup p = some o ∧ o.cls = .type "tuple" ∧ o.dict = none) ∨ ∃ o xs, H p = some (.frz o (.tup xs)) ∧ o.dict = none)
theorem PlT.is {pins : List (Addr × Obj)} {σ : St} {H : Hp} {s : Shared} {x : V} {v : Value} (I : Inv X pins σ H s) (r : RelV x v) (ty : PlT X.K x H) : s.TypeIs v "tuple" ∧ ∀ a, v = .ref a → ∃ ob, s.heap.get? a = some ob ∧ ob.dict = none := by
  obtain ⟨p, rfl, h | ⟨o, xs, h, hd⟩⟩ := ty
  · exact tyV_is (T := "tuple") I r (.inr (.inl ⟨rfl, h⟩))
  · obtain rfl : v = .ref p := r
    obtain ⟨hg, _, its, rv, ot, hot, hct, n, hdt⟩ := (show ObjOk X.prog X.w H s.heap p (.frz o (.tup xs)) from I.hok p _ h)
    rw [hg] at hot
    cases hot
    refine ⟨⟨o, hg, hct⟩, fun a e => ?_⟩
    cases e
    exact ⟨o, hg, hd⟩
def isKt : R → Bool
  | .v (.kt _) => true
  | _ => false
theorem PlT_of {v : V} {d : R} (r : Rq K H ρ v d) (e : isKt d = true) : PlT K v H := by
  cases r with
  | ref _ => cases e
  | v r =>
    cases r <;> first | (cases e; done) | skip
    case kt hs ra =>
      rcases hs with ⟨o, its, n, h1, h2, h3, _⟩ | ⟨_, o, h, hd⟩
      · exact ⟨_, rfl, .inl ⟨o, h1, h2, h3⟩⟩
      · exact ⟨_, rfl, .inr ⟨o, _, h, hd⟩⟩
def mMethT (g : R → List R → Store → Out R) (f : ME) (r : MA) : ME := fun m S => (f m S).bind fun d S1 => if isKt d = true then (r m S1).bind fun ds S2 => g d ds S2 else .no
theorem pm_bmT {o : Expr} {name : Str} {apos cpos : Pos} {id : String} {g : R → List R → Store → Out R} (pa : PlainAttrs "tuple") (slot : Slot "tuple" name id) (hty : typeOf (.builtin id) = pure (.type "method_descriptor")) (hm : MtMm X id g) (ho : PE X o (tE X.K E ma)) (ha : PA X (e :: es) (tA X.K E mr))
    (hbase : attributeBase o name X.env (eval o X.env) = eval o X.env := by rfl)
    (hfew : ((backTo cpos (starEach (e :: es) X.env)).all (fun x => !x.1) && (backToKw cpos (keywordEach [] X.env)).all (fun x => x.1.isSome)
      && decide ((e :: es).length + ([] : List Keyword).length + (if ([] : List Keyword).isEmpty then 0 else 1) < 30)) = true := by rfl)
    (hline : (apos.endLine == cpos.line) = true := by rfl) (hs : starEach (e :: es) X.env = (false, eval e X.env) :: starEach es X.env := by rfl) (hplain : (backTo cpos (starEach es X.env)).any (·.1) = false := by rfl) :
    PE X (.Call (.Attribute o name apos) (e :: es) [] cpos) (tE X.K E (mMethT g ma mr)) := by
  have key : PE X (.Call (.Attribute o name apos) (e :: es) [] cpos) (fun σ H Q => tE X.K E ma σ H fun x H1 => PlT X.K x H1 ∧ tA X.K E mr σ H1 fun xs H2 => rMM X.K g x xs H2 Q) := by
    refine ⟨fun pins s σ H Q I h => ?_⟩
    refine wpAny_Call_method_late hbase hfew hline rfl (thn (ho.run pins s σ H _ I h) fun v s1 ⟨x, H1, I1, r1, ty, q1⟩ => ?_)
    obtain ⟨h1, h2⟩ := PlT.is I1 r1 ty
    refine ⟨"tuple", id, pa, slot, hty, h1, h2, ?_⟩
    have hA := ha.run cpos pins s1 σ H1 _ I1 q1
    rw [hs] at hA ⊢
    refine Calls.callWith_builtin (by show (false || (backTo cpos (starEach es X.env)).any (·.1)) = false; rw [hplain] <;> rfl) (Calls.evalArgs_plain ?_)
    exact thn hA fun us s2 ⟨vs, H2, I2, r2, q2⟩ => hm pins s2 σ H2 x vs v us Q I2 r1 r2 q2
  refine PE.imp key ?_
  rintro σ H Q ⟨ρ, m, S, sr, er, h⟩
  refine ⟨ρ, m, S, sr, er, RO.bind h fun d S1 v H1 ρ1 m1 s1 r1 h1 => ?_⟩
  split at h1
  · rename_i hk
    refine ⟨PlT_of r1 hk, ρ1, m, S1, s1, er.mo m1, RO.bind h1 fun ds S2 xs H2 ρ2 m2 s2 r2 h2 => ?_⟩
    exact ⟨_, ρ2, S2, d, ds, s2, r1.mo m2, r2, h2⟩
  · exact h1.elim
end
theorem mMethT_run (g : R → List R → Store → Out R) (f : ME) (r : MA) (m : Env) (S : Store) : mMethT g f r m S = (f m S).bind fun d S1 => if isKt d = true then (r m S1).bind fun ds S2 => g d ds S2 else .no := id rfl
theorem biTupF_ref {S : Store} {n : Nat} {ds : List D} (h : S[n]? = some (.lst (ds.map .v))) : biTupF [.ref n] S = .ok (.v (.kt ds)) S := by simp [biTupF, lstOf, lsOf_lst h, frzO_vs]
end M
namespace M
open PySem hiding Env
open PySem.Spec PyProof.Rows
open L2
end M
namespace M
open PySem PySem.Spec PySem.W L2
open PyProof.Rows hiding St
end M
namespace M
open PySem PySem.Spec L2
open PyProof.Rows hiding St
end M
namespace Q
open PySem hiding Env
open L2 M
noncomputable def m_take : MS :=
  (mSeq (mIfS (mtB (mBin opGt (mBin opIx (mVar 0) (mC (.int 0))) (mC (.int 0)))) (mSeq (mSet 2 (mBin opMod (mBin opIx (mVar 0) (mC (.int 0))) (mVar 1)))
  (mSeq (mSetIx (mBin opFdiv (mBin opIx (mVar 0) (mC (.int 0))) (mVar 1)) (mVar 0) (mC (.int 0)))
  (mRet (mVar 2)))) mSkip)
  (mSeq (mSetIx (mBin opMod (mBin opAdd (mBin opMul (mBin opIx (mVar 0) (mC (.int 1))) (mC (.int 6364136223846793005))) (mC (.int 1442695040888963407))) (mC (.int 2305843009213693951))) (mVar 0) (mC (.int 1)))
  (mSeq (mSet 3 (mBin opFdiv (mBin opIx (mVar 0) (mC (.int 1))) (mC (.int 524287))))
  (mRet (mBin opMod (mBin opFdiv (mBin opMod (mBin opMul (mVar 3) (mVar 3)) (mC (.int 1000000007))) (mC (.int 11))) (mVar 1))))))
noncomputable def M_take : List R → Store → Out R := mDefV 4 (m_take)
noncomputable def m_hand : MS :=
  (mSeq (mSet 2 (mIf (mtB (mBin opNe (mVar 0) (mLstV mNil))) (mBin opIx (mVar 0) (mBin opMod (mVar 1) (mCall biLen (mCons (mVar 0) mNil)))) (mC (.int 0))))
  (mSeq (mSet 3 (mBin opMul (mBin opMod (mCall biAbs (mCons (mVar 2) mNil)) (mBin opMul (mBin opMul (mBin opPow (mC (.int 10)) (mC (.int 60))) (mBin opPow (mC (.int 10)) (mC (.int 60)))) (mBin opPow (mC (.int 10)) (mC (.int 60))))) (mCall biInt (mCons (mBin opGe (mCall biAbs (mCons (mVar 2) mNil)) (mBin opPow (mC (.int 10)) (mC (.int 18)))) mNil))))
  (mRet (mLst (mCons (mVar 3) (mCons (mBin opMod (mBin opMul (mBin opAdd (mBin opAdd (mBin opMod (mVar 2) (mC (.int 2305843009213693921))) (mBin opMul (mBin opMul (mC (.int 104729)) (mVar 1)) (mVar 1))) (mC (.int 7))) (mC (.int 48271))) (mC (.int 2305843009213693951))) mNil))))))
noncomputable def M_hand : List R → Store → Out R := mDef 4 (m_hand)
noncomputable def b1_words (g_take : List R → Store → Out R) : MS :=
  (mSeq (mSet 8 (mBin opIx (mLstV (mCons (mC (.str "")) (mCons (mC (.str "a")) (mCons (mC (.str "zz")) (mCons (mC (.str "abcde")) mNil))))) (mCall g_take (mCons (mVar 0) (mCons (mC (.int 4)) mNil)))))
  (mDrop (mMeth "list" mtAppend (mVar 6) (mCons (mBin opAdd (mBin opAdd (mVar 5) (mBin opIx (mVar 2) (mBin opMod (mBin opAdd (mVar 3) (mBin opMul (mVar 4) (mVar 7))) (mC (.int 26))))) (mVar 8)) mNil))))
noncomputable def m_words (g_take : List R → Store → Out R) : MS :=
  (mSeq (mSet 2 (mC (.str "abcdefghijklmnopqrstuvwxyz")))
  (mSeq (mPar 3 4 (mCall g_take (mCons (mVar 0) (mCons (mC (.int 26)) mNil))) (mBin opIx (mLstV (mCons (mC (.int 1)) (mCons (mC (.int 3)) (mCons (mC (.int 5)) (mCons (mC (.int 7)) (mCons (mC (.int 9)) (mCons (mC (.int 11)) mNil))))))) (mCall g_take (mCons (mVar 0) (mCons (mC (.int 6)) mNil)))))
  (mSeq (mSet 5 (mBin opIx (mLstV (mCons (mC (.str "")) (mCons (mC (.str "")) (mCons (mC (.str "ab")) mNil)))) (mCall g_take (mCons (mVar 0) (mCons (mC (.int 3)) mNil)))))
  (mSeq (mSet 6 (mLst mNil))
  (mSeq (mFor (srcRange1 (mCons (mVar 1) mNil)) (tgN 7) (b1_words g_take))
  (mRet (mVar 6)))))))
noncomputable def M_words : List R → Store → Out R := mDefV 9 (m_words M_take)
noncomputable def b1_joined_2 (g_take : List R → Store → Out R) : MS :=
  (mSeq (mSet 5 (mBin opSub (mCall biLen (mCons (mVar 2) mNil)) (mC (.int 2))))
  (mSeq (mSet 6 (mBin opIx (mLstV (mCons (mC (.int 0)) (mCons (mVar 5) (mCons (mBin opMod (mVar 4) (mBin opAdd (mVar 5) (mC (.int 1)))) (mCons (mCall g_take (mCons (mVar 0) (mCons (mBin opAdd (mVar 5) (mC (.int 1))) mNil))) (mCons (mCall g_take (mCons (mVar 0) (mCons (mBin opAdd (mVar 5) (mC (.int 1))) mNil))) mNil)))))) (mVar 3)))
  (mSetSl (mLstV (mCons (mTup (mCons (mBin opIx (mVar 2) (mVar 6)) (mCons (mBin opIx (mVar 2) (mBin opAdd (mVar 6) (mC (.int 1)))) mNil))) mNil)) (mVar 2) (moS (mVar 6)) (moS (mBin opAdd (mVar 6) (mC (.int 2)))))))
noncomputable def m_joined_2 (g_take : List R → Store → Out R) : MS :=
  (mSeq (mPar 2 3 (mCall biList (mCons (mVar 1) mNil)) (mCall g_take (mCons (mVar 0) (mCons (mC (.int 5)) mNil))))
  (mSeq (mFor (srcRange1 (mCons (mBin opSub (mCall biLen (mCons (mVar 1) mNil)) (mC (.int 1))) mNil)) (tgN 4) (b1_joined_2 g_take))
  (mRet (mBin opIx (mVar 2) (mC (.int 0))))))
noncomputable def M_joined_2 : List R → Store → Out R := mDefV 7 (m_joined_2 M_take)
end Q
namespace Q
open PySem hiding Env
open L2 M
/-- what is drawn from -/
structure Hnd where
  x : Int
  y : Int
  hx : 0 ≤ x
  hy : 0 ≤ y
  hz : y < 2305843009213693951
def Hnd.c (h : Hnd) : MO := .lst [.v (.int h.x), .v (.int h.y)]
theorem Hnd.lo (h : Hnd) (k : Nat) : h.c.lo k := lo_lst [.int h.x, .int h.y] k
theorem nab {i : Int} {k : Nat} (h0 : 0 ≤ i) (h : i < 2 ^ k) : i.natAbs < 2 ^ k := by
  have : ((i.natAbs : Nat) : Int) = i := by omega
  have h2 : ((i.natAbs : Nat) : Int) < ((2 ^ k : Nat) : Int) := by rw [this]; simpa using h
  exact_mod_cast h2
theorem take_spec {S : Store} {n : Nat} {h : Hnd} {k : Int} (e : S[n]? = some h.c) (h0 : 0 < k) (h1 : k < 2 ^ 62) : ∃ (r : Int) (h' : Hnd), M_take [.ref n, .v (.int k)] S = .ok (.v (.int r)) (S.set n h'.c) ∧ 0 ≤ r ∧ r < k := by
  have hk : k.natAbs < dvLine := dv64 (Nat.lt_of_lt_of_le (nab (k := 62) (by omega) h1) (by decide))
  obtain ⟨x, y, hx, hy, hz⟩ := h
  have e : S[n]? = some (.lst [.v (.int x), .v (.int y)]) := e
  by_cases hp : 0 < x
  · refine ⟨x % k, ⟨x / k, y, Int.ediv_nonneg hx (by omega), hy, hz⟩, ?_, Int.emod_nonneg _ (by omega), Int.emod_lt_of_pos _ h0⟩
    refine mDefV_rtU (T := S.set n (.lst [.v (.int (x / k)), .v (.int y)])) ?_ (upd_set n (lo_lst [.int (x / k), .int y] _))
    simp [m_take, opIx_ref e, hp, opMod_int h0, opFdiv_int h0 hk, setIx_ref e]
  · have hm : ∀ z : Int, 0 ≤ z % 2305843009213693951 ∧ z % 2305843009213693951 < 2305843009213693951 := fun z => ⟨Int.emod_nonneg _ (by decide), Int.emod_lt_of_pos _ (by decide)⟩
    generalize hq : (y * 6364136223846793005 + 1442695040888963407) % 2305843009213693951 = y1
    have hy1 : 0 ≤ y1 ∧ y1 < 2305843009213693951 := by rw [← hq]; exact hm _
    have hq1 : 0 ≤ y1 / 524287 ∧ y1 / 524287 < 2 ^ 60 := ⟨Int.ediv_nonneg hy1.1 (by decide), by omega⟩
    have e1 : (S.set n (.lst [.v (.int x), .v (.int y1)]))[n]? = some (.lst [.v (.int x), .v (.int y1)]) := get_set e _
    refine ⟨y1 / 524287 * (y1 / 524287) % 1000000007 / 11 % k, ⟨x, y1, hx, hy1.1, hy1.2⟩, ?_, Int.emod_nonneg _ (by omega), Int.emod_lt_of_pos _ h0⟩
    refine mDefV_rtU (T := S.set n (.lst [.v (.int x), .v (.int y1)])) ?_ (upd_set n (lo_lst [.int x, .int y1] _))
    have sy : y.natAbs < smLine := sm64 (by omega)
    have s1 : (6364136223846793005 : Int).natAbs < smLine := sm64 (by decide)
    have s2 : (y1 / 524287).natAbs < smLine := sm64 (by omega)
    have d1 : (524287 : Int).natAbs < dvLine := dv64 (by decide)
    have d2 : (11 : Int).natAbs < dvLine := dv64 (by decide)
    have g0 : opIx (.ref n) (.v (.int 0)) S = .ok (.v (.int x)) S := opIx_ref e rfl
    have g1 : opIx (.ref n) (.v (.int 1)) S = .ok (.v (.int y)) S := opIx_ref e rfl
    have g2 : opIx (.ref n) (.v (.int 1)) (S.set n (.lst [.v (.int x), .v (.int y1)])) = .ok (.v (.int y1)) (S.set n (.lst [.v (.int x), .v (.int y1)])) := opIx_ref e1 rfl
    simp [m_take, g0, g1, g2, hp, opMul_int sy s1, opMod_int, setIx_ref e, hq, opFdiv_int _ d1, opMul_int s2 s2, opFdiv_int _ d2, opMod_int h0]
theorem hand_spec {S : Store} {ns : List Int} {k : Int} (h0 : 0 ≤ k) (h1 : k < 2 ^ 20) : ∃ h : Hnd, M_hand [.v (.kl (ns.map D.int)), .v (.int k)] S = .ok (.ref S.length) (S ++ [h.c]) := by
  have p60 : ∀ S : Store, opPow (.v (.int 10)) (.v (.int 60)) S = .ok (.v (.int (10 ^ 60))) S := fun S => by
    simp only [opPow, onII_int]
    rw [if_pos (by decide)]
    rfl
  have p18 : ∀ S : Store, opPow (.v (.int 10)) (.v (.int 18)) S = .ok (.v (.int (10 ^ 18))) S := fun S => by
    simp only [opPow, onII_int]
    rw [if_pos (by decide)]
    rfl
  have q1 : ∀ S : Store, opMul (.v (.int (10 ^ 60))) (.v (.int (10 ^ 60))) S = .ok (.v (.int (10 ^ 60 * 10 ^ 60))) S := fun S => opMul_int (sm_lt 400 (by decide) (by decide)) (sm_lt 400 (by decide) (by decide))
  have q2 : ∀ S : Store, opMul (.v (.int (10 ^ 60 * 10 ^ 60))) (.v (.int (10 ^ 60))) S = .ok (.v (.int (10 ^ 60 * 10 ^ 60 * 10 ^ 60))) S := fun S => opMul_int (sm_lt 800 (by decide) (by decide)) (sm_lt 400 (by decide) (by decide))
  have pos : (0 : Int) < 10 ^ 60 * 10 ^ 60 * 10 ^ 60 := by decide
  generalize hP : (10 ^ 60 * 10 ^ 60 * 10 ^ 60 : Int) = P at q2 pos
  have hPs : P < 2 ^ 1000 := by rw [← hP]; decide
  -- the cell
  have cell : ∃ c : Int, mIf (mtB (mBin opNe (mVar 0) (mLstV mNil))) (mBin opIx (mVar 0) (mBin opMod (mVar 1) (mCall biLen (mCons (mVar 0) mNil)))) (mC (.int 0)) [some (.v (.kl (ns.map D.int))), some (.v (.int k)), none, none] S = .ok (.v (.int c)) S := by
    have q := opNe_kints_nil (S := S) ns
    by_cases hne : ns = []
    · subst hne
      simp only [List.map_nil] at q
      exact ⟨0, by simp [q]⟩
    · have he : ns.isEmpty = false := by simpa using hne
      have hl : (0 : Int) < ((ns.map D.int).length : Int) := by
        have := List.length_pos_iff.mpr hne
        simp; omega
      have hr := Int.emod_nonneg k (show ((ns.map D.int).length : Int) ≠ 0 by omega)
      have hr2 := Int.emod_lt_of_pos k hl
      obtain ⟨d, hd, hm⟩ := atI_some (xs := ns.map D.int) hr hr2
      obtain ⟨c, _, rfl⟩ := List.mem_map.mp hm
      refine ⟨c, ?_⟩
      simp only [mIf_eq, mtB_eq, mBin_eq, mVar_eq, List.getElem?_cons_zero, List.getElem?_cons_succ, Out.bind_ok, mLstV_eq, mNil_eq, frzO_nil, List.length_nil, Nat.zero_le, if_true, q, onBl_bl, he, Bool.not_false, mCall_eq, mCons_eq, biLen_kl, opMod_int hl, opIx_kl hd]
  obtain ⟨c, hc⟩ := cell
  generalize hA : (if c < 0 then -c else c) = a
  have ha : 0 ≤ a := by rw [← hA]; split <;> omega
  have hx : 0 ≤ a % P ∧ a % P < P := ⟨Int.emod_nonneg _ (by omega), Int.emod_lt_of_pos _ pos⟩
  have s1 : (a % P).natAbs < smLine := sm_lt 1000 (nab hx.1 (Int.lt_trans hx.2 hPs)) (by decide)
  have hb : ∀ b : Bool, (0 : Int) ≤ (if b = true then (1 : Int) else 0) ∧ (if b = true then (1 : Int) else 0) ≤ 1 := fun b => by cases b <;> decide
  have s2 : ∀ b : Bool, (if b = true then (1 : Int) else 0).natAbs < smLine := fun b => sm64 (by cases b <;> decide)
  have c1 : (0 : Int) ≤ c % 2305843009213693921 ∧ c % 2305843009213693921 < 2305843009213693921 := ⟨Int.emod_nonneg _ (by decide), Int.emod_lt_of_pos _ (by decide)⟩
  have m1 : (104729 : Int).natAbs < smLine ∧ k.natAbs < smLine := ⟨sm64 (by decide), sm64 (by omega)⟩
  have b1 : 0 ≤ 104729 * k ∧ 104729 * k < 2 ^ 40 := by omega
  have m2 : (104729 * k).natAbs < smLine := sm64 (by omega)
  have b2 : 0 ≤ 104729 * k * k ∧ 104729 * k * k < 2 ^ 60 := ⟨Int.mul_nonneg b1.1 h0, by
    have : 104729 * k * k ≤ (2 ^ 40 - 1) * (2 ^ 20 - 1) := Int.mul_le_mul (by omega) (by omega) h0 (by omega)
    omega⟩
  have m3 : (c % 2305843009213693921 + 104729 * k * k + 7).natAbs < smLine := sm64 (by omega)
  have m4 : (48271 : Int).natAbs < smLine := sm64 (by decide)
  refine ⟨⟨a % P * (if decide (10 ^ 18 ≤ a) = true then 1 else 0), (c % 2305843009213693921 + 104729 * k * k + 7) * 48271 % 2305843009213693951, Int.mul_nonneg hx.1 (hb _).1, Int.emod_nonneg _ (by decide), Int.emod_lt_of_pos _ (by decide)⟩, mDef_rt ?_⟩
  unfold m_hand
  refine (mSeq_nx (m' := [some (.v (.kl (ns.map D.int))), some (.v (.int k)), some (.v (.int c)), none]) (S' := S) ?_).trans ?_
  · rw [mSet_eq, show ([R.v (D.kl (ns.map D.int)), .v (.int k)].map some ++ List.replicate (4 - [R.v (D.kl (ns.map D.int)), .v (.int k)].length) none) = [some (.v (.kl (ns.map D.int))), some (.v (.int k)), none, none] from rfl, hc]
    rfl
  simp only [mSeq_eq, mSet_eq, mBin_eq, mC_eq, mCall_eq, mCons_eq, mNil_eq, mVar_eq, List.getElem?_cons_succ, List.getElem?_cons_zero, Out.bind_ok, thenS_ok, biAbs_int, hA, p60, q1, q2, opMod_int pos, p18, opCmpI_int, biInt_bl, opMul_int s1 (s2 _), List.set_cons_succ, List.set_cons_zero,
    mRet_eq, mLst_eq, opMod_int (show (0 : Int) < 2305843009213693921 by decide), opMul_int m1.1 m1.2, opMul_int m2 m1.2, opAdd_int, opMul_int m3 m4, opMod_int (show (0 : Int) < 2305843009213693951 by decide), List.length_cons, List.length_nil]
  rw [if_pos (by simp)]
  rfl
theorem get_atL {S' : Store} {k : Nat} (hl : S'.length = k) (c : MO) (cs : Store) : (S' ++ c :: cs)[k]? = some c := by subst hl; simp
theorem set_atL {S' : Store} {k : Nat} (hl : S'.length = k) (c x : MO) (cs : Store) : (S' ++ c :: cs).set k x = S' ++ x :: cs := by subst hl; simp
/-- an item of a written list, drawn -/
theorem pick_spec {S : Store} {n i : Nat} {h : Hnd} {m : Env} {r : MA} {ds : List D} {k : Int} (e : S[n]? = some h.c) (hr : mLstV r m S = .ok (.v (.lst ds)) S) (hm : m[i]? = some (some (.ref n))) (hk : k = ds.length) (h0 : 0 < k) (h1 : k < 2 ^ 62) :
    ∃ (d : D) (h' : Hnd), mBin opIx (mLstV r) (mCall M_take (mCons (mVar i) (mCons (mC (.v (.int k))) mNil))) m S = .ok (.v d) (S.set n h'.c) ∧ d ∈ ds := by
  obtain ⟨x, h', e1, h2, h3⟩ := take_spec e h0 h1
  obtain ⟨d, hd, hmem⟩ := atI_some (xs := ds) h2 (by omega)
  refine ⟨d, h', ?_, hmem⟩
  rw [mBin_eq, hr]
  simp [hm, e1, opIx_lst hd]
/-- the j-th word: begin, letter, end -/
def wordAt (b : Str) (f st : Int) (j : Nat) (e : Str) : Str := b ++ ⟨#[97 + ((f + st * (j : Int)) % 26).toNat]⟩ ++ e
theorem letter_at : ∀ i : Nat, i < 26 → (Str.ofString "abcdefghijklmnopqrstuvwxyz").cps.toList[i]? = some (97 + i) := by decide +kernel
def begs : List Str := ["", "", "ab"]
def ends : List Str := ["", "a", "zz", "abcde"]
theorem begs_ok : ∀ b ∈ begs, b.length ≤ 2 ∧ ∀ c ∈ b.cps.toList, 97 ≤ c ∧ c ≤ 122 := by decide +kernel
theorem ends_ok : ∀ b ∈ ends, b.length ≤ 5 ∧ ∀ c ∈ b.cps.toList, 97 ≤ c ∧ c ≤ 122 := by decide +kernel
theorem wordAt_good {b e : Str} {f st : Int} {j : Nat} (hb : b ∈ begs) (he : e ∈ ends) : GoodW (wordAt b f st j e) := by
  obtain ⟨h1, h2⟩ := begs_ok b hb
  obtain ⟨h3, h4⟩ := ends_ok e he
  have hm : 0 ≤ (f + st * (j : Int)) % 26 ∧ (f + st * (j : Int)) % 26 < 26 := ⟨Int.emod_nonneg _ (by decide), Int.emod_lt_of_pos _ (by decide)⟩
  refine ⟨?_, ?_, ?_⟩
  · unfold wordAt; rw [str_len_append, str_len_append, str_len ⟨#[_]⟩]; simp; omega
  · unfold wordAt; rw [str_len_append, str_len_append, str_len ⟨#[_]⟩]; simp; omega
  · unfold wordAt
    intro c hc
    rw [cps_app, cps_app] at hc
    simp only [List.mem_append, List.mem_cons, List.not_mem_nil, or_false] at hc
    rcases hc with (hc | hc) | hc
    · exact h2 c hc
    · subst hc; omega
    · exact h4 c hc
theorem wordAt_inj {b e e' : Str} {f st : Int} {i j : Nat} (hs : st = 1 ∨ st = 3 ∨ st = 5 ∨ st = 7 ∨ st = 9 ∨ st = 11) (hi : i < 26) (hj : j < 26) (h : wordAt b f st i e = wordAt b f st j e') : i = j := by
  have q := congrArg (fun x : Str => x.cps.toList) h
  simp only [wordAt, cps_app, List.append_assoc] at q
  have q2 := List.append_cancel_left q
  simp only [List.cons_append, List.nil_append, List.cons.injEq] at q2
  have q3 := q2.1
  have h1 : 0 ≤ (f + st * (i : Int)) % 26 ∧ (f + st * (i : Int)) % 26 < 26 := ⟨Int.emod_nonneg _ (by decide), Int.emod_lt_of_pos _ (by decide)⟩
  have h2 : 0 ≤ (f + st * (j : Int)) % 26 ∧ (f + st * (j : Int)) % 26 < 26 := ⟨Int.emod_nonneg _ (by decide), Int.emod_lt_of_pos _ (by decide)⟩
  have q4 : (f + st * (i : Int)) % 26 = (f + st * (j : Int)) % 26 := by omega
  rcases hs with rfl | rfl | rfl | rfl | rfl | rfl <;> omega
theorem words_spec {S : Store} {n : Nat} {h : Hnd} {k : Int} (e : S[n]? = some h.c) (h0 : 0 ≤ k) (h1 : k ≤ 26) : ∃ (h' : Hnd) (ws : List Str), M_words [.ref n, .v (.int k)] S = .ok (.v (.lst (ws.map D.str))) (S.set n h'.c) ∧ (ws.length : Int) = k ∧ ws.Nodup ∧ ∀ x ∈ ws, GoodW x := by
  have hn := lt_of_get e
  obtain ⟨f, g1, e1, f0, f1⟩ := take_spec (k := 26) e (by decide) (by decide)
  obtain ⟨st, g2, e2, hst⟩ := pick_spec (i := 0) (m := [some (.ref n), some (.v (.int k)), some (.v (.str "abcdefghijklmnopqrstuvwxyz")), none, none, none, none, none, none]) (r := mCons (mC (.int 1)) (mCons (mC (.int 3)) (mCons (mC (.int 5)) (mCons (mC (.int 7)) (mCons (mC (.int 9)) (mCons (mC (.int 11)) mNil))))))
    (ds := [.int 1, .int 3, .int 5, .int 7, .int 9, .int 11]) (k := 6) (get_set e g1.c) (by simp) rfl rfl (by decide) (by decide)
  obtain ⟨z, rfl, hz⟩ : ∃ z : Int, st = .int z ∧ (z = 1 ∨ z = 3 ∨ z = 5 ∨ z = 7 ∨ z = 9 ∨ z = 11) := by
    simp only [List.mem_cons, List.not_mem_nil, or_false] at hst
    rcases hst with rfl | rfl | rfl | rfl | rfl | rfl <;> exact ⟨_, rfl, by decide⟩
  rw [List.set_set] at e2
  obtain ⟨bd, g3, e3, hb⟩ := pick_spec (i := 0) (m := [some (.ref n), some (.v (.int k)), some (.v (.str "abcdefghijklmnopqrstuvwxyz")), some (.v (.int f)), some (.v (.int z)), none, none, none, none]) (r := mCons (mC (.str "")) (mCons (mC (.str "")) (mCons (mC (.str "ab")) mNil)))
    (ds := [.str "", .str "", .str "ab"]) (k := 3) (get_set e g2.c) (by simp) rfl rfl (by decide) (by decide)
  obtain ⟨b, rfl, hbb⟩ : ∃ b : Str, bd = .str b ∧ b ∈ begs := by
    simp only [List.mem_cons, List.not_mem_nil, or_false] at hb
    rcases hb with rfl | rfl | rfl <;> exact ⟨_, rfl, by decide +kernel⟩
  rw [List.set_set] at e3
  have Le : (Str.ofString "abcdefghijklmnopqrstuvwxyz").length ≤ sizeLine := sz_of (by decide +kernel)
  obtain ⟨m', S', eL, g', ws, hS', ⟨w1, w2, hm'⟩, hlen, hws⟩ := for_inv (t := tgN 7) (body := b1_words M_take) (ds := rangeD 0 k.toNat) (m := [some (.ref n), some (.v (.int k)), some (.v (.str "abcdefghijklmnopqrstuvwxyz")), some (.v (.int f)), some (.v (.int z)), some (.v (.str b)), some (.ref S.length), none, none]) (S := S.set n g3.c ++ [.lst []])
    (fun i m T => ∃ (g : Hnd) (ws : List Str), T = S.set n g.c ++ [.lst (ws.map fun x => .v (.str x))] ∧ (∃ w1 w2, m = [some (.ref n), some (.v (.int k)), some (.v (.str "abcdefghijklmnopqrstuvwxyz")), some (.v (.int f)), some (.v (.int z)), some (.v (.str b)), some (.ref S.length), w1, w2]) ∧ ws.length = i ∧ ∀ j w, ws[j]? = some w → ∃ e ∈ ends, w = wordAt b f z j e)
    ⟨g3, [], rfl, ⟨none, none, rfl⟩, rfl, fun j w hj => by simp at hj⟩ (by
      rintro i d m T hd ⟨g, ws, rfl, ⟨w1, w2, rfl⟩, hl, hws⟩
      obtain ⟨hi, rfl⟩ := rangeD_get hd
      simp only [Int.zero_add]
      have hS : (S.set n g.c).length = S.length := by simp
      obtain ⟨ed, g4, e4, he⟩ := pick_spec (i := 0) (m := [some (.ref n), some (.v (.int k)), some (.v (.str "abcdefghijklmnopqrstuvwxyz")), some (.v (.int f)), some (.v (.int z)), some (.v (.str b)), some (.ref S.length), some (.v (.int (i : Int))), w2]) (r := mCons (mC (.str "")) (mCons (mC (.str "a")) (mCons (mC (.str "zz")) (mCons (mC (.str "abcde")) mNil))))
        (ds := [.str "", .str "a", .str "zz", .str "abcde"]) (k := 4) (get_old (get_set e g.c) [.lst (ws.map fun x => .v (.str x))]) (by simp) rfl rfl (by decide) (by decide)
      obtain ⟨en, rfl, hen⟩ : ∃ b : Str, ed = .str b ∧ b ∈ ends := by
        simp only [List.mem_cons, List.not_mem_nil, or_false] at he
        rcases he with rfl | rfl | rfl | rfl <;> exact ⟨_, rfl, by decide +kernel⟩
      rw [set_old (get_set e g.c), List.set_set] at e4
      have zs : z.natAbs < smLine := sm64 (by omega)
      have is : (i : Int).natAbs < smLine := sm64 (by omega)
      have hmod : 0 ≤ (f + z * (i : Int)) % 26 ∧ (f + z * (i : Int)) % 26 < 26 := ⟨Int.emod_nonneg _ (by decide), Int.emod_lt_of_pos _ (by decide)⟩
      have hlet := letter_at ((f + z * (i : Int)) % 26).toNat (by omega)
      rw [← atI_lt hmod.1] at hlet
      have hb1 := (begs_ok b hbb).1
      have he1 := (ends_ok en hen).1
      have s1 : b.length + (⟨#[97 + ((f + z * (i : Int)) % 26).toNat]⟩ : Str).length ≤ sizeLine := sz_of (by rw [str_len ⟨#[_]⟩]; simp; omega)
      have s2 : (b ++ (⟨#[97 + ((f + z * (i : Int)) % 26).toNat]⟩ : Str)).length + en.length ≤ sizeLine := sz_of (by rw [str_len_append, str_len ⟨#[_]⟩]; simp; omega)
      have hS4 : (S.set n g4.c).length = S.length := by simp
      have hz1 : (ws.map fun x => R.v (D.str x)).length < sizeLine := sz_lt (by rw [List.length_map]; omega)
      refine ⟨_, rfl, [some (.ref n), some (.v (.int k)), some (.v (.str "abcdefghijklmnopqrstuvwxyz")), some (.v (.int f)), some (.v (.int z)), some (.v (.str b)), some (.ref S.length), some (.v (.int (i : Int))), some (.v (.str en))], S.set n g4.c ++ [.lst ((ws ++ [wordAt b f z i en]).map fun x => .v (.str x))], .inl ?_, g4, ws ++ [wordAt b f z i en], rfl, ⟨_, _, rfl⟩, by simp [hl], fun j w hj => ?_⟩
      · unfold b1_words
        refine (mSeq_nx (m' := [some (.ref n), some (.v (.int k)), some (.v (.str "abcdefghijklmnopqrstuvwxyz")), some (.v (.int f)), some (.v (.int z)), some (.v (.str b)), some (.ref S.length), some (.v (.int (i : Int))), some (.v (.str en))]) (S' := S.set n g4.c ++ [.lst (ws.map fun x => .v (.str x))]) ?_).trans ?_
        · rw [mSet_eq, show (List.set [some (R.ref n), some (.v (.int k)), some (.v (.str "abcdefghijklmnopqrstuvwxyz")), some (.v (.int f)), some (.v (.int z)), some (.v (.str b)), some (.ref S.length), w1, w2] 7 (some (.v (.int (i : Int))))) = [some (.ref n), some (.v (.int k)), some (.v (.str "abcdefghijklmnopqrstuvwxyz")), some (.v (.int f)), some (.v (.int z)), some (.v (.str b)), some (.ref S.length), some (.v (.int (i : Int))), w2] from rfl]
          rw [e4]; rfl
        · have gt := get_atL hS4 (.lst (ws.map fun x => R.v (D.str x))) []
          simp [tyOk_lst gt, opMul_int zs is, opMod_int (show (0 : Int) < 26 by decide), opIx_str Le hlet, opAdd_str s1, opAdd_str s2, mtAppend_ref gt hz1, set_atL hS4, wordAt]
      · rcases Nat.lt_trichotomy j ws.length with hj' | hj' | hj'
        · rw [List.getElem?_append_left hj'] at hj
          exact hws j w hj
        · subst hj'
          rw [List.getElem?_append_right (Nat.le_refl _), Nat.sub_self] at hj
          cases hj
          exact ⟨en, hen, by rw [hl]⟩
        · rw [List.getElem?_eq_none (by simp; omega)] at hj
          cases hj)
  subst hS' hm'
  have hl : ws.length = k.toNat := by rw [hlen, rangeD_len]
  refine ⟨g', ws, ?_, by omega, ?_, fun x hx => ?_⟩
  · have e3' := e3
    have hS : (S.set n g'.c).length = S.length := by simp
    refine mDefV_rtL (n := S.length) (xs := ws.map D.str) [.lst (ws.map fun x => .v (.str x))] ?_ (by rw [get_atL hS]; simp) (by simp) (upd_set n (g'.lo _))
    · unfold m_words
      simp only [List.map_cons, List.map_nil, List.length_cons, List.length_nil, List.replicate, List.cons_append, List.nil_append]
      refine (mSeq_nx (m' := [some (.ref n), some (.v (.int k)), some (.v (.str "abcdefghijklmnopqrstuvwxyz")), none, none, none, none, none, none]) (S' := S) (by simp)).trans ?_
      refine (mSeq_nx (m' := [some (.ref n), some (.v (.int k)), some (.v (.str "abcdefghijklmnopqrstuvwxyz")), some (.v (.int f)), some (.v (.int z)), none, none, none, none]) (S' := S.set n g2.c) ?_).trans ?_
      · rw [mPar_eq]
        simp only [mCall_eq, mCons_eq, mVar_eq, mNil_eq, mC_eq, List.getElem?_cons_zero, Out.bind_ok, e1, thenS_ok, e2]
        rfl
      refine (mSeq_nx (m' := [some (.ref n), some (.v (.int k)), some (.v (.str "abcdefghijklmnopqrstuvwxyz")), some (.v (.int f)), some (.v (.int z)), some (.v (.str b)), none, none, none]) (S' := S.set n g3.c) ?_).trans ?_
      · rw [mSet_eq, e3]; rfl
      refine (mSeq_nx (m' := [some (.ref n), some (.v (.int k)), some (.v (.str "abcdefghijklmnopqrstuvwxyz")), some (.v (.int f)), some (.v (.int z)), some (.v (.str b)), some (.ref S.length), none, none]) (S' := S.set n g3.c ++ [.lst []]) (by simp)).trans ?_
      refine (mSeq_nx (m' := [some (.ref n), some (.v (.int k)), some (.v (.str "abcdefghijklmnopqrstuvwxyz")), some (.v (.int f)), some (.v (.int z)), some (.v (.str b)), some (.ref S.length), w1, w2]) (S' := S.set n g'.c ++ [.lst (ws.map fun x => .v (.str x))]) ?_).trans (by simp)
      simp only [mFor_eq, srcRange1_eq, mCons_eq, mVar_eq, mNil_eq, List.getElem?_cons_zero, List.getElem?_cons_succ, Out.bind_ok, rg1_int h0 (show k < 2 ^ 62 by omega), thenS_ok]
      exact eL
  · refine List.pairwise_iff_getElem.mpr fun i j hi hj hij q => ?_
    obtain ⟨e5, _, h5⟩ := hws i ws[i] (List.getElem?_eq_getElem hi)
    obtain ⟨e6, _, h6⟩ := hws j ws[j] (List.getElem?_eq_getElem hj)
    rw [h5, h6] at q
    have := wordAt_inj hz (by omega) (by omega) q
    omega
  · obtain ⟨j, hj, q⟩ := List.getElem_of_mem hx
    obtain ⟨e5, h5, h6⟩ := hws j x (by rw [List.getElem?_eq_getElem hj, q])
    rw [h6]
    exact wordAt_good hbb h5
/-- two neighbours put together -/
theorem cut2 {us : List T} {a : Nat} (h : a + 2 ≤ us.length) : ∃ l r, us[a]? = some l ∧ us[a + 1]? = some r ∧ us = us.take a ++ l :: r :: us.drop (a + 2) := by
  refine ⟨us[a], us[a + 1], List.getElem?_eq_getElem (by omega), List.getElem?_eq_getElem (by omega), ?_⟩
  conv => lhs; rw [← List.take_append_drop a us]
  rw [List.drop_eq_getElem_cons (show a < us.length by omega), List.drop_eq_getElem_cons (show a + 1 < us.length by omega)]
theorem joined_specR {S : Store} {n : Nat} {h : Hnd} {ts : List T} {q : R} (e : S[n]? = some h.c) (hq : ∀ (g : Hnd) (c : Store), seqOf (S.set n g.c ++ c) q = some ((ts.map T.d).map .v)) (hne : ts ≠ []) (hz : ts.length ≤ 100000) : ∃ (h' : Hnd) (t : T), M_joined_2 [.ref n, q] S = .ok (.v t.d) (S.set n h'.c) ∧ t.ls = ts.flatMap T.ls := by
  have hp : 0 < ts.length := List.length_pos_iff.mpr hne
  have hn := lt_of_get e
  have hq0 : seqOf S q = some ((ts.map T.d).map .v) := by
    have := hq h []
    rwa [set_get e, List.append_nil] at this
  obtain ⟨st, g1, e1, s0, s1⟩ := take_spec (k := 5) (get_old e [.lst ((ts.map T.d).map .v)]) (by decide) (by decide)
  rw [set_old e] at e1
  let m0 : R → Option R → Option R → Option R → Env := fun st w1 w2 w3 => [some (.ref n), some q, some (.ref S.length), some st, w1, w2, w3]
  obtain ⟨m', S', eL, g', us, hS', ⟨w1, w2, w3, hm'⟩, hlen, hls⟩ := for_inv (t := tgN 4) (body := b1_joined_2 M_take) (ds := rangeD 0 (ts.length - 1)) (m := m0 (.v (.int st)) none none none) (S := S.set n g1.c ++ [.lst ((ts.map T.d).map .v)])
    (fun i m X => ∃ (g : Hnd) (us : List T), X = S.set n g.c ++ [.lst ((us.map T.d).map .v)] ∧ (∃ w1 w2 w3, m = m0 (.v (.int st)) w1 w2 w3) ∧ us.length + i = ts.length ∧ us.flatMap T.ls = ts.flatMap T.ls)
    ⟨g1, ts, rfl, ⟨none, none, none, rfl⟩, rfl, rfl⟩ (by
      rintro i d m X hd ⟨g, us, rfl, ⟨w1, w2, w3, rfl⟩, hl, hf⟩
      obtain ⟨hi, rfl⟩ := rangeD_get hd
      simp only [Int.zero_add]
      have hfar : (0 : Int) ≤ (us.length : Int) - 2 := by omega
      generalize hF : (us.length : Int) - 2 = far at hfar
      have hS : ∀ g : Hnd, (S.set n g.c).length = S.length := fun g => by simp
      have eg := get_old (get_set e g.c) [.lst ((us.map T.d).map .v)]
      obtain ⟨r1, g3, e3, a0, a1⟩ := take_spec (k := far + 1) eg (by omega) (by omega)
      rw [set_old (get_set e g.c), List.set_set] at e3
      obtain ⟨r2, g4, e4, b0, b1⟩ := take_spec (k := far + 1) (get_old (get_set e g3.c) [.lst ((us.map T.d).map .v)]) (by omega) (by omega)
      rw [set_old (get_set e g3.c), List.set_set] at e4
      have m0' := Int.emod_nonneg (i : Int) (show far + 1 ≠ 0 by omega)
      have m1' := Int.emod_lt_of_pos (i : Int) (show 0 < far + 1 by omega)
      obtain ⟨ad, had, hmem⟩ := atI_some (xs := [D.int 0, .int far, .int ((i : Int) % (far + 1)), .int r1, .int r2]) (i := st) s0 (by simpa using s1)
      obtain ⟨a, rfl, ha0, ha1⟩ : ∃ a : Int, ad = .int a ∧ 0 ≤ a ∧ a ≤ far := by
        simp only [List.mem_cons, List.not_mem_nil, or_false] at hmem
        rcases hmem with rfl | rfl | rfl | rfl | rfl
        · exact ⟨_, rfl, by omega, by omega⟩
        · exact ⟨_, rfl, by omega, by omega⟩
        · exact ⟨_, rfl, m0', by omega⟩
        · exact ⟨_, rfl, a0, by omega⟩
        · exact ⟨_, rfl, b0, by omega⟩
      obtain ⟨lt, rt, c1, c2, c3⟩ := cut2 (us := us) (a := a.toNat) (by omega)
      have g5 := get_atL (hS g4) (.lst ((us.map T.d).map R.v)) []
      have g6 := get_atL (hS g) (.lst ((us.map T.d).map R.v)) []
      have i1 : atI ((us.map T.d).map R.v) a = some (.v lt.d) := by rw [atI_map, atI_map, atI_lt ha0, c1]; rfl
      have i2 : atI ((us.map T.d).map R.v) (a + 1) = some (.v rt.d) := by rw [atI_map, atI_map, atI_lt (by omega), show (a + 1).toNat = a.toNat + 1 by omega, c2]; rfl
      refine ⟨_, rfl, m0 (.v (.int st)) (some (.v (.int (i : Int)))) (some (.v (.int far))) (some (.v (.int a))), _, .inl ?_, g4, us.take a.toNat ++ T.node lt rt :: us.drop (a.toNat + 2), rfl, ⟨_, _, _, rfl⟩, ?_, ?_⟩
      · have hsz : (((us.map T.d).map R.v).length : Nat) + 1 ≤ sizeLine := sz_of (by simp; omega)
        have fin : (S.set n g4.c ++ [MO.lst ((us.map T.d).map R.v)]).set S.length (.lst (((us.map T.d).map R.v).take a.toNat ++ [R.v (.tup [lt.d, rt.d])] ++ ((us.map T.d).map R.v).drop (a + 2).toNat)) = S.set n g4.c ++ [.lst (((us.take a.toNat ++ T.node lt rt :: us.drop (a.toNat + 2)).map T.d).map .v)] := by
          rw [set_atL (hS g4), show (a + 2).toNat = a.toNat + 2 by omega]
          simp [T.d, List.map_take, List.map_drop]
        unfold b1_joined_2
        simp only [mSeq_eq, mSet_eq, mBin_eq, mCall_eq, mCons_eq, mVar_eq, mNil_eq, mC_eq, m0, List.set_cons_succ, List.set_cons_zero, List.getElem?_cons_succ, List.getElem?_cons_zero, Out.bind_ok, biLen_ref g6, opSub_int, thenS_ok, mLstV_eq, List.length_map, hF, opAdd_int, opMod_int (show 0 < far + 1 by omega), e3, e4, frzO_5, List.length_cons, List.length_nil, Nat.zero_add, Nat.reduceAdd, sz5, if_true, opIx_lst had]
        unfold mSetSl
        simp only [mLstV_eq, mTup_eq, mCons_eq, mBin_eq, mVar_eq, mC_eq, mNil_eq, List.getElem?_cons_succ, List.getElem?_cons_zero, Out.bind_ok, opIx_ref g5 i1, opIx_ref g5 i2, opAdd_int, frzO_2, frzO_1, List.length_cons, List.length_nil, Nat.zero_add, Nat.reduceAdd, sz2, sz1, if_true, thenS_ok, moS_eq, g5, lstOf, List.map_cons, List.map_nil]
        rw [if_pos ⟨rfl, by simp, ha0, by omega, by simp; omega, by simpa using hsz⟩, fin]
      · have q := congrArg List.length c3
        simp only [List.length_append, List.length_cons] at q ⊢
        omega
      · rw [← hf]
        conv => rhs; rw [c3]
        simp [T.ls])
  subst hS' hm'
  rw [rangeD_len] at hlen
  obtain ⟨t, rfl⟩ : ∃ t, us = [t] := by
    match us, hlen with
    | [t], _ => exact ⟨t, rfl⟩
    | [], h => simp at h; omega
    | _ :: _ :: _, h => simp at h; omega
  have g5 := get_atL (show (S.set n g'.c).length = S.length by simp) (.lst ([R.v t.d])) []
  refine ⟨g', t, mDefV_rtG [.lst [.v t.d]] ?_ (upd_set n (g'.lo _)), by rw [← hls]; simp⟩
  unfold m_joined_2
  have rg : ∀ S, rg1 [.v (.int ((ts.length : Int) - 1))] S = .ok ⟨rangeD 0 (ts.length - 1), []⟩ S := fun S => by rw [rg1_int (by omega) (by omega), show ((ts.length : Int) - 1).toNat = ts.length - 1 by omega]
  simp only [List.map_cons, List.map_nil, List.length_cons, List.length_nil, List.replicate, List.cons_append, List.nil_append, Nat.reduceAdd, Nat.reduceSub, mSeq_eq, mPar_eq, mCall_eq, mCons_eq, mVar_eq, mNil_eq, mC_eq, List.getElem?_cons_succ, List.getElem?_cons_zero, Out.bind_ok, biList_seq hq0, e1, thenS_ok, List.set_cons_succ, List.set_cons_zero, mBin_eq, biLen_seq (hq g1 _), List.length_map, opSub_int, mFor_eq, srcRange1_eq, rg]
  have eL' : mForGo [] (tgN 4) (b1_joined_2 M_take) (rangeD 0 (ts.length - 1)) [some (R.ref n), some q, some (.ref S.length), some (.v (.int st)), none, none, none] (S.set n g1.c ++ [.lst ((ts.map T.d).map .v)]) = _ := eL
  rw [eL']
  simp only [m0, mRet_eq, mBin_eq, mVar_eq, mC_eq, List.getElem?_cons_succ, List.getElem?_cons_zero, Out.bind_ok, opIx_ref g5 (atI_0 _ _), thenS_ok, List.map_cons, List.map_nil]
theorem joined_spec {S : Store} {n : Nat} {h : Hnd} {ts : List T} (e : S[n]? = some h.c) (hne : ts ≠ []) (hz : ts.length ≤ 100000) : ∃ (h' : Hnd) (t : T), M_joined_2 [.ref n, .v (.lst (ts.map T.d))] S = .ok (.v t.d) (S.set n h'.c) ∧ t.ls = ts.flatMap T.ls :=
  joined_specR e (fun _ _ => rfl) hne hz
end Q
namespace Q
open PySem hiding Env
open L2 M
noncomputable def m_is_word : MS :=
  (mSeq (mIfS (mtOr (mtNot (mtTru (mCall biIsi (mCons (mVar 0) (mCons (mC (.ty "str")) mNil))))) (mtNot (mtB (mChain opLe opLe (mC (.int 1)) (mCall biLen (mCons (mVar 0) mNil)) (mC (.int 8)))))) (mRet (mC (.bl false))) mSkip)
  (mRet (mCall biAll (mCons (mPop (mLc (srcAny (mVar 0)) [1] (tgN 1) mtYes (mBin opIn (mVar 1) (mC (.str "abcdefghijklmnopqrstuvwxyz"))))) mNil))))
noncomputable def M_is_word : List R → Store → Out R := mDefV 2 (m_is_word)
noncomputable def m_is_tree (g_is_tree : List R → Store → Out R) (g_is_word : List R → Store → Out R) : MS :=
  (mSeq (mIfS (mtTru (mCall biIsi (mCons (mVar 0) (mCons (mC (.ty "tuple")) mNil)))) (mRet (mAnd (mBin opEq (mCall biLen (mCons (mVar 0) mNil)) (mC (.int 2))) (mAnd (mCall g_is_tree (mCons (mBin opIx (mVar 0) (mC (.int 0))) mNil)) (mCall g_is_tree (mCons (mBin opIx (mVar 0) (mC (.int 1))) mNil))))) mSkip)
  (mRet (mCall g_is_word (mCons (mVar 0) mNil))))
noncomputable def R_is_tree : Nat → List R → Store → Out R
  | 0 => fun _ _ => .no
  | k + 1 => mDefV 1 (m_is_tree (R_is_tree k) M_is_word)
noncomputable def m_text_of (g_text_of : List R → Store → Out R) : MS :=
  (mSeq (mIfS (mtTru (mCall biIsi (mCons (mVar 0) (mCons (mC (.ty "tuple")) mNil)))) (mRet (mBin opAdd (mBin opAdd (mBin opAdd (mBin opAdd (mC (.str "(")) (mCall g_text_of (mCons (mBin opIx (mVar 0) (mC (.int 0))) mNil))) (mC (.str ","))) (mCall g_text_of (mCons (mBin opIx (mVar 0) (mC (.int 1))) mNil))) (mC (.str ")")))) mSkip)
  (mRet (mVar 0)))
noncomputable def R_text_of : Nat → List R → Store → Out R
  | 0 => fun _ _ => .no
  | k + 1 => mDefV 1 (m_text_of (R_text_of k))
end Q
namespace Q
open PySem hiding Env
open L2 M
theorem isi_str (d : D) (h : notTy d = true) (S : Store) : biIsi [.v d, .v (.ty "str")] S = .ok (.v (.bl (isStr d))) S := by
  cases d <;> first | (simp [biIsi, tyName, tyD, kb_ss, kb_ts, kb_is, kb_bs, kb_ns, kb_ls, kb_ds, isStr]; done) | cases h
theorem isi_tuple (d : D) (h : notTy d = true) (S : Store) : biIsi [.v d, .v (.ty "tuple")] S = .ok (.v (.bl (isTup d))) S := by
  cases d <;> first | (simp [biIsi, tyName, tyD, kb_st, kb_tt, kb_it, kb_bt, kb_nt, kb_lt, kb_dt, isTup]; done) | cases h
def isWordS (w : Str) : Bool := decide (1 ≤ w.length) && decide (w.length ≤ 8) && w.cps.toList.all fun c => decide (97 ≤ c) && decide (c ≤ 122)
def isWord : D → Bool
  | .str w => isWordS w
  | _ => false
theorem isWordS_good {w : Str} (h : GoodW w) : isWordS w = true := by
  obtain ⟨h1, h2, h3⟩ := h
  simp only [isWordS, Bool.and_eq_true, decide_eq_true_eq, List.all_eq_true]
  exact ⟨⟨h1, h2⟩, fun c hc => h3 c hc⟩
theorem letters_in (c : Nat) : decide (c ∈ (Str.ofString "abcdefghijklmnopqrstuvwxyz").cps.toList) = (decide (97 ≤ c) && decide (c ≤ 122)) := by
  have e : (Str.ofString "abcdefghijklmnopqrstuvwxyz").cps.toList = (List.range 26).map (97 + ·) := by decide +kernel
  rw [e]
  apply Bool.eq_iff_iff.mpr
  simp only [decide_eq_true_eq, Bool.and_eq_true, List.mem_map, List.mem_range]
  constructor
  · rintro ⟨a, h, rfl⟩; omega
  · rintro ⟨h1, h2⟩; exact ⟨c - 97, by omega, by omega⟩
def szStr : D → Prop
  | .str w => w.length ≤ 16777216
  | .ty _ => False
  | .txt => False
  | .kt _ => False
  | _ => True
theorem is_word_spec (d : D) (h : szStr d) (S : Store) : M_is_word [.v d] S = .ok (.v (.bl (isWord d))) S := by
  have hty : notTy d = true := by cases d <;> first | rfl | cases h
  by_cases hs : isStr d = true
  · obtain ⟨w, rfl⟩ : ∃ w, d = .str w := by cases d <;> first | exact ⟨_, rfl⟩ | (cases hs; done) | exact h.elim
    have hw : w.length ≤ sizeLine := sz_of h
    by_cases hc : (1 : Int) ≤ (w.length : Int) ∧ (w.length : Int) ≤ 8
    · have lc := lc_map (S := S) (t := tgN 1) (c := mtYes) (f := mBin opIn (mVar 1) (mC (.str "abcdefghijklmnopqrstuvwxyz"))) (m := [some (.v (.str w)), none]) (fun c : Nat => .v (.str ⟨#[c]⟩)) (fun _ => true) (fun c => .bl (decide (97 ≤ c) && decide (c ≤ 122))) w.cps.toList (sz_of (by rw [Array.length_toList, ← str_len]; exact h)) (by
        intro x hx acc
        exact ⟨_, rfl, rfl, fun _ => by simp only [mBin_eq, mVar_eq, mC_eq, List.set_cons_succ, List.set_cons_zero, List.getElem?_cons_succ, List.getElem?_cons_zero, Out.bind_ok, opIn_sign, letters_in]⟩)
      refine mDefV_rt0 ?_
      rw [List.filter_eq_self.mpr (by simp)] at lc
      have e : (w.cps.toList.map fun c => D.bl (decide (97 ≤ c) && decide (c ≤ 122))) = (w.cps.toList.map fun c => (decide (97 ≤ c) && decide (c ≤ 122))).map D.bl := by rw [List.map_map]; rfl
      rw [e] at lc
      simp only [m_is_word, srcAny, chars, wipeM, List.map_cons, List.map_nil, List.length_cons, List.length_nil, List.replicate, List.cons_append, List.nil_append, mSeq_eq, mIfS_eq, mtOr_eq, mtNot_eq, mtB_eq, mChain_eq, mtTru_eq, mCall_eq, mCons_eq, mVar_eq, mC_eq, mNil_eq, List.getElem?_cons_zero, Out.bind_ok, isi_str_str, truM_bl, thenS_ok, mSkip_eq, mRet_eq, mBin_eq, Bool.not_true, biLen_str hw, opCmpI_int, onBl_bl, hc.1, hc.2, decide_true, mPop_eq, mLc_eq, List.set_cons_succ, List.set_cons_zero, lc, biAll_lst]
      congr 3
      simp only [isWord, isWordS]
      rw [decide_eq_true (show 1 ≤ w.length by omega), decide_eq_true (show w.length ≤ 8 by omega), List.all_map]
      rfl
    · have hf : isWordS w = false := by
        simp only [isWordS, Bool.and_eq_false_iff, decide_eq_false_iff_not]
        exact .inl (by omega)
      refine mDefV_rt0 ?_
      by_cases h1 : (1 : Int) ≤ (w.length : Int)
      · have h2 : ¬ (w.length : Int) ≤ 8 := fun h2 => hc ⟨h1, h2⟩
        simp [m_is_word, biLen_str hw, isWord, hf, h1, h2]
      · simp [m_is_word, biLen_str hw, isWord, hf, h1]
  · have hs : isStr d = false := by simpa using hs
    have hw : isWord d = false := by cases d <;> first | rfl | cases hs
    refine mDefV_rt0 ?_
    simp [m_is_word, isi_str d hty, hs, hw]
/-- what is_tree tells of data so many deep -/
def isTreeN : Nat → D → Bool
  | 0, _ => false
  | k + 1, .tup [a, b] => isTreeN k a && isTreeN k b
  | _ + 1, .tup _ => false
  | _ + 1, d => isWord d
def Shal : Nat → D → Prop
  | 0, _ => False
  | k + 1, .tup [a, b] => Shal k a ∧ Shal k b
  | _ + 1, d => szStr d
theorem is_tree_spec : ∀ (k : Nat) (d : D) (S : Store), Shal k d → R_is_tree k [.v d] S = .ok (.v (.bl (isTreeN k d))) S
  | 0, d, S, h => h.elim
  | k + 1, d, S, h => by
    refine mDefV_rt0 ?_
    by_cases ht : isTup d = true
    · obtain ⟨ds, rfl⟩ : ∃ w, d = .tup w := by cases d <;> first | exact ⟨_, rfl⟩ | cases ht
      by_cases hl : ds.length = 2
      · obtain ⟨a, b, rfl⟩ : ∃ a b, ds = [a, b] := by
          match ds, hl with
          | [a, b], _ => exact ⟨a, b, rfl⟩
        obtain ⟨h1, h2⟩ : Shal k a ∧ Shal k b := h
        have e1 := is_tree_spec k a S h1
        have e2 := is_tree_spec k b S h2
        have i0 : opIx (.v (.tup [a, b])) (.v (.int 0)) S = .ok (.v a) S := opIx_tup (atI_0 _ _)
        have i1 : opIx (.v (.tup [a, b])) (.v (.int 1)) S = .ok (.v b) S := opIx_tup (atI_1 _ _ _)
        cases hq : isTreeN k a <;> simp [m_is_tree, i0, i1, e1, e2, isTreeN, hq]
      · have hf : isTreeN (k + 1) (.tup ds) = false := by
          match ds, hl with
          | [], _ => rfl
          | [_], _ => rfl
          | _ :: _ :: _ :: _, _ => rfl
        have hl' : ¬ (ds.length : Int) = 2 := by omega
        have hb : ((ds.length : Int) == 2) = false := by simp [hl']
        simp [m_is_tree, hf, hb]
    · have ht' : isTup d = false := by simpa using ht
      have hd : szStr d := by cases d <;> first | exact h | cases ht'
      have hty : notTy d = true := by cases d <;> first | rfl | cases hd
      have hw := is_word_spec d hd S
      have hf : isTreeN (k + 1) d = isWord d := by cases d <;> first | rfl | cases ht'
      rw [hf]
      simp [m_is_tree, isi_tuple d hty, ht', hw]
theorem shal_T : ∀ (k : Nat) (t : T), t.depth < k → t.Ok → Shal k t.d
  | 0, t, h, _ => by omega
  | k + 1, .leaf w, h, ho => by
    have := (ho w (by simp [T.ls])).2.1
    show w.length ≤ _
    omega
  | k + 1, .node l r, h, ho => by
    simp only [T.depth] at h
    exact ⟨shal_T k l (by omega) ho.l, shal_T k r (by omega) ho.r⟩
theorem isTree_T : ∀ (k : Nat) (t : T), t.depth < k → t.Ok → isTreeN k t.d = true
  | 0, t, h, _ => by omega
  | k + 1, .leaf w, h, ho => isWordS_good (ho w (by simp [T.ls]))
  | k + 1, .node l r, h, ho => by
    simp only [T.depth] at h
    show (isTreeN k l.d && isTreeN k r.d) = true
    rw [isTree_T k l (by omega) ho.l, isTree_T k r (by omega) ho.r]; rfl
theorem is_tree_T {t : T} {k : Nat} (h : t.depth < k) (ho : t.Ok) (S : Store) : R_is_tree k [.v t.d] S = .ok (.v (.bl true)) S := by
  rw [is_tree_spec k t.d S (shal_T k t h ho), isTree_T k t h ho]
theorem text_of_spec : ∀ (k : Nat) (t : T) (S : Store), t.depth < k → t.Ok → t.ls.length ≤ 100000 → R_text_of k [.v t.d] S = .ok (.v (.str t.text)) S
  | 0, t, S, h, _, _ => by omega
  | k + 1, .leaf w, S, h, _, _ => by
    refine mDefV_rt0 ?_
    simp [m_text_of, T.d, T.text]
  | k + 1, .node l r, S, h, ht, hz => by
    simp only [T.depth] at h
    simp only [T.ls, List.length_append] at hz
    have t1 := T.text_len l ht.l
    have t2 := T.text_len r ht.r
    have e1 := text_of_spec k l S (by omega) ht.l (by omega)
    have e2 := text_of_spec k r S (by omega) ht.r (by omega)
    have e3 : (Str.ofString "(").length = 1 := by decide +kernel
    have e4 : (Str.ofString ",").length = 1 := by decide +kernel
    have e5 : (Str.ofString ")").length = 1 := by decide +kernel
    have a1 : (Str.ofString "(").length + l.text.length ≤ sizeLine := sz_of (by omega)
    have a2 : (Str.ofString "(" ++ l.text).length + (Str.ofString ",").length ≤ sizeLine := sz_of (by simp only [str_len_append]; omega)
    have a3 : (Str.ofString "(" ++ l.text ++ Str.ofString ",").length + r.text.length ≤ sizeLine := sz_of (by simp only [str_len_append]; omega)
    have a4 : (Str.ofString "(" ++ l.text ++ Str.ofString "," ++ r.text).length + (Str.ofString ")").length ≤ sizeLine := sz_of (by simp only [str_len_append]; omega)
    have i1 : opIx (.v (.tup [l.d, r.d])) (.v (.int 0)) S = .ok (.v l.d) S := opIx_tup (atI_0 _ _)
    have i2 : opIx (.v (.tup [l.d, r.d])) (.v (.int 1)) S = .ok (.v r.d) S := opIx_tup (atI_1 _ _ _)
    refine mDefV_rt0 ?_
    simp [m_text_of, T.d, T.text, i1, i2, e1, e2, opAdd_str a1, opAdd_str a2, opAdd_str a3, opAdd_str a4]
theorem flat_leaf : ∀ row : List Str, (row.map T.leaf).flatMap T.ls = row
  | [] => rfl
  | w :: r => by simp [T.ls, flat_leaf r]
end Q
namespace Q
open PySem hiding Env
open L2 M
noncomputable def m_put_nodes (g_put_nodes : List R → Store → Out R) : MS :=
  (mSeq (mIfS (mtTru (mCall biIsi (mCons (mVar 0) (mCons (mC (.ty "tuple")) mNil)))) (mSeq (mSet 2 (mCall g_put_nodes (mCons (mBin opIx (mVar 0) (mC (.int 0))) (mCons (mVar 1) mNil))))
  (mDrop (mMeth "list" mtAppend (mVar 1) (mCons (mTup (mCons (mVar 2) (mCons (mCall g_put_nodes (mCons (mBin opIx (mVar 0) (mC (.int 1))) (mCons (mVar 1) mNil))) mNil))) mNil)))) (mDrop (mMeth "list" mtAppend (mVar 1) (mCons (mVar 0) mNil))))
  (mRet (mBin opSub (mCall biLen (mCons (mVar 1) mNil)) (mC (.int 1)))))
noncomputable def R_put_nodes : Nat → List R → Store → Out R
  | 0 => fun _ _ => .no
  | k + 1 => mDefV 3 (m_put_nodes (R_put_nodes k))
noncomputable def m_nodes (g_put_nodes : List R → Store → Out R) : MS :=
  (mSeq (mSet 1 (mLst mNil))
  (mSeq (mDrop (mCall g_put_nodes (mCons (mVar 0) (mCons (mVar 1) mNil))))
  (mRet (mCall biTuple (mCons (mVar 1) mNil)))))
noncomputable def M_nodes : List R → Store → Out R := mDefV 2 (m_nodes (R_put_nodes 70))
noncomputable def m_leaves (g_nodes : List R → Store → Out R) : MS :=
  (mRet (mCall biTuple (mCons (mPop (mLc (srcAny (mCall g_nodes (mCons (mVar 0) mNil))) [1] (tgN 1) (mtTru (mCall biIsi (mCons (mVar 1) (mCons (mC (.ty "str")) mNil)))) (mVar 1))) mNil)))
noncomputable def M_leaves : List R → Store → Out R := mDefV 2 (m_leaves M_nodes)
noncomputable def m_leaves_2 (g_leaves_2 : List R → Store → Out R) : MS :=
  (mSeq (mIfS (mtTru (mCall biIsi (mCons (mVar 0) (mCons (mC (.ty "str")) mNil)))) (mRet (mLstV (mCons (mVar 0) mNil))) mSkip)
  (mRet (mBin opAdd (mCall g_leaves_2 (mCons (mBin opIx (mVar 0) (mC (.int 0))) mNil)) (mCall g_leaves_2 (mCons (mBin opIx (mVar 0) (mC (.int 1))) mNil)))))
noncomputable def R_leaves_2 : Nat → List R → Store → Out R
  | 0 => fun _ _ => .no
  | k + 1 => mDefV 1 (m_leaves_2 (R_leaves_2 k))
end Q
namespace M
open PySem hiding Env
open L2
def T.cnt : T → Nat
  | .leaf _ => 1
  | .node l r => l.cnt + r.cnt + 1
theorem T.cnt_ls : ∀ t : T, t.cnt + 1 = 2 * t.ls.length
  | .leaf w => rfl
  | .node l r => by
    have h1 := T.cnt_ls l
    have h2 := T.cnt_ls r
    simp only [T.cnt, T.ls, List.length_append]; omega
theorem T.cnt_pos (t : T) : 0 < t.cnt := by have := t.cnt_ls; have := t.ls_pos; omega
/-- the nodes of a tree whose first has the number k -/
def T.nodesFrom : Nat → T → List D
  | _, .leaf w => [.str w]
  | k, .node l r => T.nodesFrom k l ++ T.nodesFrom (k + l.cnt) r ++ [.tup [.int ((k + l.cnt - 1 : Nat) : Int), .int ((k + l.cnt + r.cnt - 1 : Nat) : Int)]]
def T.nodes (t : T) : List D := T.nodesFrom 0 t
theorem T.nodesFrom_len : ∀ (t : T) (k : Nat), (T.nodesFrom k t).length = t.cnt
  | .leaf w, k => rfl
  | .node l r, k => by simp only [T.nodesFrom, List.length_append, T.nodesFrom_len l, T.nodesFrom_len r, T.cnt, List.length_cons, List.length_nil]
theorem T.nodes_len (t : T) : t.nodes.length = t.cnt := t.nodesFrom_len 0
end M
namespace Q
open PySem hiding Env
open L2 M
theorem T_leaves_nodes : ∀ (t : T) (k : Nat), (T.nodesFrom k t).filter isStr = t.ls.map D.str
  | .leaf w, k => rfl
  | .node l r, k => by
    simp only [T.nodesFrom, T.ls, List.filter_append, T_leaves_nodes l, T_leaves_nodes r, List.map_append]
    simp [isStr]
theorem put_nodes_spec : ∀ (k : Nat) (t : T) (S : Store) (n : Nat) (xs : List D), t.depth < k → S[n]? = some (.lst (xs.map .v)) → xs.length + 2 * t.ls.length ≤ 10000000 →
    R_put_nodes k [.v t.d, .ref n] S = .ok (.v (.int ((xs.length + t.cnt - 1 : Nat) : Int))) (S.set n (.lst ((xs ++ T.nodesFrom xs.length t).map .v)))
  | 0, t, S, n, xs, h, _, _ => by omega
  | k + 1, .leaf w, S, n, xs, h, e, hz => by
    have hl : (xs.map R.v).length < sizeLine := sz_lt (by simp; omega)
    have e2 := get_set e (.lst ((xs ++ [D.str w]).map .v))
    refine mDefV_rtU (T := S.set n (.lst ((xs ++ [D.str w]).map .v))) ?_ (upd_set n (lo_lst _ _))
    have e3 : mtAppend (.ref n) [.v (.str w)] S = .ok (.v .non) (S.set n (.lst ((xs ++ [D.str w]).map .v))) := by rw [mtAppend_ref e hl, List.map_append]; rfl
    simp only [m_put_nodes, T.d, List.map_cons, List.map_nil, List.length_cons, List.length_nil, List.replicate, List.cons_append, List.nil_append, Nat.reduceAdd, Nat.reduceSub, mSeq_eq, mIfS_eq, mtTru_eq, mCall_eq, mCons_eq, mVar_eq, mC_eq, mNil_eq, List.getElem?_cons_zero, List.getElem?_cons_succ, Out.bind_ok, isi_str_tup, truM_bl, thenS_ok, mDrop_eq, mMeth_eq, tyOk_lst e, if_true, e3, mRet_eq, mBin_eq, biLen_ref e2, opSub_int]
    congr 3
    simp [T.cnt]
  | k + 1, .node l r, S, n, xs, h, e, hz => by
    simp only [T.depth] at h
    simp only [T.ls, List.length_append] at hz
    have c1 := l.cnt_ls
    have c2 := r.cnt_ls
    have p1 := l.cnt_pos
    have p2 := r.cnt_pos
    have e1 := put_nodes_spec k l S n xs (by omega) e (by omega)
    have l1 : (xs ++ T.nodesFrom xs.length l).length = xs.length + l.cnt := by rw [List.length_append, T.nodesFrom_len]
    have e2 := put_nodes_spec k r (S.set n (.lst ((xs ++ T.nodesFrom xs.length l).map .v))) n (xs ++ T.nodesFrom xs.length l) (by omega) (get_set e _) (by rw [l1]; omega)
    rw [l1, List.set_set] at e2
    have e3 := get_set e (.lst ((xs ++ T.nodesFrom xs.length l ++ T.nodesFrom (xs.length + l.cnt) r).map .v))
    have hl : ((xs ++ T.nodesFrom xs.length l ++ T.nodesFrom (xs.length + l.cnt) r).map R.v).length < sizeLine := sz_lt (by simp only [List.length_map, List.length_append, T.nodesFrom_len]; omega)
    let last : D := .tup [.int ((xs.length + l.cnt - 1 : Nat) : Int), .int ((xs.length + l.cnt + r.cnt - 1 : Nat) : Int)]
    have hfin : xs ++ T.nodesFrom xs.length (.node l r) = xs ++ T.nodesFrom xs.length l ++ T.nodesFrom (xs.length + l.cnt) r ++ [last] := by simp [T.nodesFrom, last]
    have e4 : mtAppend (.ref n) [.v last] (S.set n (.lst ((xs ++ T.nodesFrom xs.length l ++ T.nodesFrom (xs.length + l.cnt) r).map .v))) = .ok (.v .non) (S.set n (.lst ((xs ++ T.nodesFrom xs.length (.node l r)).map .v))) := by
      rw [mtAppend_ref e3 hl, List.set_set, hfin]; simp
    have e5 := get_set e (.lst ((xs ++ T.nodesFrom xs.length (.node l r)).map .v))
    have i0 : ∀ S, opIx (.v (.tup [l.d, r.d])) (.v (.int 0)) S = .ok (.v l.d) S := fun S => opIx_tup (atI_0 _ _)
    have i1 : ∀ S, opIx (.v (.tup [l.d, r.d])) (.v (.int 1)) S = .ok (.v r.d) S := fun S => opIx_tup (atI_1 _ _ _)
    refine mDefV_rtU ?_ (upd_set n (lo_lst _ _))
    simp only [m_put_nodes, T.d, List.map_cons, List.map_nil, List.length_cons, List.length_nil, List.replicate, List.cons_append, List.nil_append, Nat.reduceAdd, Nat.reduceSub, mSeq_eq, mIfS_eq, mtTru_eq, mCall_eq, mCons_eq, mVar_eq, mC_eq, mNil_eq, List.getElem?_cons_zero, List.getElem?_cons_succ, Out.bind_ok, isi_tup_tup, truM_bl, thenS_ok, mSet_eq, mBin_eq, i0, e1, List.set_cons_succ, List.set_cons_zero, mDrop_eq, mMeth_eq, tyOk_lst (get_set e _), if_true, mTup_eq, i1, e2, frzO_2, Nat.zero_add, sz2]
    have e4' := e4
    simp only [last, List.map_append] at e4'
    simp only [List.map_append, e4', thenS_ok, mRet_eq, mBin_eq, mCall_eq, mCons_eq, mVar_eq, mNil_eq, mC_eq, List.getElem?_cons_zero, List.getElem?_cons_succ, Out.bind_ok, List.set_cons_succ, List.set_cons_zero]
    rw [← List.map_append, biLen_ref e5]
    simp only [Out.bind_ok, opSub_int, thenS_ok]
    congr 3
    simp only [List.length_map, List.length_append, T.nodesFrom_len, T.cnt]
    omega
theorem nodes_spec {t : T} {S : Store} (hd : t.depth < 70) (hz : t.ls.length ≤ 1000000) : M_nodes [.v t.d] S = .ok (.v (.tup t.nodes)) S := by
  have e1 := put_nodes_spec 70 t (S ++ [.lst []]) S.length [] hd (get_len S _ []) (by simp; omega)
  rw [set_len, List.nil_append] at e1
  have e2 := get_len S (.lst ((T.nodesFrom 0 t).map .v)) []
  refine mDefV_rtG [.lst ((T.nodesFrom 0 t).map .v)] ?_ (.refl S)
  simp only [m_nodes, List.map_cons, List.map_nil, List.length_cons, List.length_nil, List.replicate, List.cons_append, List.nil_append, Nat.reduceAdd, Nat.reduceSub, mSeq_eq, mSet_eq, mLst_eq, mNil_eq, Out.bind_ok, Nat.zero_le, sz0, if_true, thenS_ok, List.set_cons_succ, List.set_cons_zero, mDrop_eq, mCall_eq, mCons_eq, mVar_eq, List.getElem?_cons_zero, List.getElem?_cons_succ, e1, mRet_eq, biTuple_ref e2]
  rfl
theorem leaves_spec {t : T} {S : Store} (hd : t.depth < 70) (hz : t.ls.length ≤ 1000000) : M_leaves [.v t.d] S = .ok (.v (.tup (t.ls.map D.str))) S := by
  have e1 := nodes_spec (S := S) hd hz
  have c := t.cnt_ls
  have nty : ∀ x ∈ t.nodes, notTy x = true := by
    have : ∀ (u : T) (k : Nat), ∀ x ∈ T.nodesFrom k u, notTy x = true := by
      intro u
      induction u with
      | leaf w => intro k x hx; simp only [T.nodesFrom, List.mem_singleton] at hx; subst hx; rfl
      | node l r h1 h2 =>
        intro k x hx
        simp only [T.nodesFrom, List.mem_append, List.mem_singleton] at hx
        rcases hx with (hx | hx) | rfl
        · exact h1 _ x hx
        · exact h2 _ x hx
        · rfl
    exact this t 0
  have lc := lc_map (S := S) (t := tgN 1) (c := mtTru (mCall biIsi (mCons (mVar 1) (mCons (mC (.ty "str")) mNil)))) (f := mVar 1) (m := [some (.v t.d), none]) (fun d : D => .v d) isStr (fun d => d) t.nodes (sz_of (by rw [T.nodes_len]; omega)) (by
    intro x hx acc
    refine ⟨_, rfl, ?_, fun _ => rfl⟩
    simp only [mtTru_eq, mCall_eq, mCons_eq, mVar_eq, mC_eq, mNil_eq, List.set_cons_succ, List.set_cons_zero, List.getElem?_cons_succ, List.getElem?_cons_zero, Out.bind_ok, isi_str x (nty x hx), truM_bl])
  refine mDefV_rt0 ?_
  have hf : (t.nodes.filter isStr).map (fun d => d) = t.ls.map D.str := by rw [List.map_id']; exact T_leaves_nodes t 0
  rw [hf] at lc
  simp only [m_leaves, srcAny, wipeM, List.map_cons, List.map_nil, List.length_cons, List.length_nil, List.replicate, List.cons_append, List.nil_append, Nat.reduceAdd, Nat.reduceSub, mRet_eq, mCall_eq, mCons_eq, mNil_eq, mPop_eq, mLc_eq, mVar_eq, List.getElem?_cons_zero, Out.bind_ok, e1, List.foldl_cons, List.foldl_nil, List.set_cons_succ, List.set_cons_zero, lc, biTuple_lst, thenS_ok]
theorem leaves_2_spec : ∀ (k : Nat) (t : T) (S : Store), t.depth < k → t.ls.length ≤ 1000000 → R_leaves_2 k [.v t.d] S = .ok (.v (.lst (t.ls.map D.str))) S
  | 0, t, S, h, _ => by omega
  | k + 1, .leaf w, S, h, _ => by
    refine mDefV_rt0 ?_
    simp [m_leaves_2, T.d, T.ls]
  | k + 1, .node l r, S, h, hz => by
    simp only [T.depth] at h
    simp only [T.ls, List.length_append] at hz
    have e1 := leaves_2_spec k l S (by omega) (by omega)
    have e2 := leaves_2_spec k r S (by omega) (by omega)
    have i0 : opIx (.v (.tup [l.d, r.d])) (.v (.int 0)) S = .ok (.v l.d) S := opIx_tup (atI_0 _ _)
    have i1 : opIx (.v (.tup [l.d, r.d])) (.v (.int 1)) S = .ok (.v r.d) S := opIx_tup (atI_1 _ _ _)
    have ad := opAdd_lst (S := S) (x := l.ls.map D.str) (y := r.ls.map D.str) (sz_of (by simp; omega))
    have hx : ((l.ls.map D.str).map R.v ++ (r.ls.map D.str).map R.v) = ((T.node l r).ls.map D.str).map R.v := by simp [T.ls]
    rw [hx] at ad
    refine mDefV_rtL (n := S.length) (xs := (T.node l r).ls.map D.str) [.lst (((T.node l r).ls.map D.str).map .v)] ?_ (get_len _ _ _) (Nat.le_refl _) (.refl S)
    simp only [T.d, m_leaves_2, List.map_cons, List.map_nil, List.length_cons, List.length_nil, List.replicate, List.cons_append, List.nil_append, mSeq_eq, mIfS_eq, mtTru_eq, mCall_eq, mCons_eq, mVar_eq, mC_eq, mNil_eq, List.getElem?_cons_zero, Out.bind_ok, isi_tup_str, truM_bl, thenS_ok, mSkip_eq, mRet_eq, mBin_eq, i0, e1, i1, e2, ad]
/-- ten words, cut, drawn from -/
theorem row_spec {S0 S : Store} (hS0 : Upd S0 S) {n i n' : Nat} {h : Hnd} {few : List Str} {cnt : Int} {m : Env} {j : Nat} (e : S[n]? = some h.c) (hne : few ≠ []) (hl : few.length ≤ 100000) (c0 : 0 ≤ cnt) (c1 : cnt ≤ 100000)
    (hm : ∀ d : R, (m.set j (some d))[i]? = some (some (.v (.lst (few.map D.str))))) (hn : ∀ d : R, (m.set j (some d))[n']? = some (some (.ref n))) :
    ∃ (h' : Hnd) (row : List Str), (mLcGo [] (tgN j) mtYes (mBin opIx (mVar i) (mCall M_take (mCons (mVar n') (mCons (mCall biLen (mCons (mVar i) mNil)) mNil)))) S.length m (rangeD 0 cnt.toNat) (S ++ [.lst []])).bind (fun r S' => popV S0 r S') = .ok (.v (.lst (row.map D.str))) (S.set n h'.c) ∧ (row.length : Int) = cnt ∧ ∀ x ∈ row, x ∈ few := by
  have hp : 0 < few.length := List.length_pos_iff.mpr hne
  obtain ⟨ys, T, e1, ⟨h', row, rfl, rfl, hr, hmem⟩, hlen⟩ := lc_st (S0 := S0) (S := S) (t := tgN j) (f := mBin opIx (mVar i) (mCall M_take (mCons (mVar n') (mCons (mCall biLen (mCons (mVar i) mNil)) mNil)))) (m := m) (fun k : Nat => R.v (.int (0 + (k : Int)))) (List.range cnt.toNat)
    (fun k ys T => ∃ (g : Hnd) (row : List Str), T = S.set n g.c ∧ ys = row.map D.str ∧ row.length = k ∧ ∀ x ∈ row, x ∈ few) (sz_of (by simp; omega)) ⟨h, [], (set_get e).symm, rfl, rfl, by simp⟩
    (by rintro k ys T ⟨g, row, rfl, _⟩; exact hS0.set (g.lo _)) (by
      rintro k x ys T hx ⟨g, row, rfl, rfl, hr, hmem⟩
      obtain ⟨a, g2, e2, a0, a1⟩ := take_spec (k := few.length) (get_old (get_set e g.c) [.lst ((row.map D.str).map .v)]) (by omega) (by omega)
      rw [set_old (get_set e g.c), List.set_set] at e2
      have ia : atI (few.map D.str) a = some (.str few[a.toNat]) := by rw [atI_map, atI_lt a0, List.getElem?_eq_getElem (by omega)]; rfl
      refine ⟨_, rfl, .str few[a.toNat], S.set n g2.c, ?_, g2, row ++ [few[a.toNat]], rfl, by simp, by simp [hr], fun y hy => ?_⟩
      · simp only [mBin_eq, mVar_eq, hm, hn, Out.bind_ok, mCall_eq, mCons_eq, mNil_eq, biLen_lst, List.length_map, e2, opIx_lst ia]
      · rcases List.mem_append.mp hy with hy | hy
        · exact hmem y hy
        · simp only [List.mem_singleton] at hy
          subst hy
          exact List.getElem_mem _)
  refine ⟨h', row, ?_, ?_, hmem⟩
  · exact e1
  · simp only [List.length_range] at hr; omega
end Q
namespace Q
open PySem hiding Env
open L2 M
noncomputable def m_great (g_take : List R → Store → Out R) (g_words : List R → Store → Out R) (g_joined_2 : List R → Store → Out R) : MS :=
  (mSeq (mSet 2 (mBin opAdd (mC (.int 1)) (mCall g_take (mCons (mVar 0) (mCons (mBin opIx (mLstV (mCons (mC (.int 5)) (mCons (mVar 1) mNil))) (mCall biInt (mCons (mBin opEq (mCall g_take (mCons (mVar 0) (mCons (mC (.int 8)) mNil))) (mC (.int 0))) mNil))) mNil)))))
  (mRet (mCall g_joined_2 (mCons (mVar 0) (mCons (mCall g_words (mCons (mVar 0) (mCons (mVar 2) mNil))) mNil)))))
noncomputable def M_great : List R → Store → Out R := mDefV 3 (m_great M_take M_words M_joined_2)
noncomputable def m_is_small (g_is_tree : List R → Store → Out R) (g_leaves : List R → Store → Out R) : MS :=
  (mSeq (mIfS (mtNot (mtTru (mCall g_is_tree (mCons (mVar 1) mNil)))) (mRet (mC (.bl false))) mSkip)
  (mSeq (mSet 2 (mCall g_leaves (mCons (mVar 0) mNil)))
  (mRet (mCall biAll (mCons (mPop (mLc (srcAny (mCall g_leaves (mCons (mVar 1) mNil))) [3] (tgN 3) mtYes (mBin opIn (mVar 3) (mVar 2)))) mNil)))))
noncomputable def M_is_small : List R → Store → Out R := mDefV 4 (m_is_small (R_is_tree 70) M_leaves)
noncomputable def m_small (g_take : List R → Store → Out R) (g_joined_2 : List R → Store → Out R) : MS :=
  (mSeq (mSet 3 (mBin opAdd (mC (.int 1)) (mCall g_take (mCons (mVar 0) (mCons (mBin opIx (mLstV (mCons (mC (.int 6)) (mCons (mVar 2) mNil))) (mCall biInt (mCons (mBin opEq (mCall g_take (mCons (mVar 0) (mCons (mC (.int 8)) mNil))) (mC (.int 0))) mNil))) mNil)))))
  (mSeq (mSet 4 (mPop (mSl (mVar 1) moN (moS (mBin opAdd (mC (.int 1)) (mCall g_take (mCons (mVar 0) (mCons (mCall biLen (mCons (mVar 1) mNil)) mNil))))))))
  (mRet (mCall g_joined_2 (mCons (mVar 0) (mCons (mPop (mLc (srcRange1 (mCons (mVar 3) mNil)) [5] (tgN 5) mtYes (mBin opIx (mVar 4) (mCall g_take (mCons (mVar 0) (mCons (mCall biLen (mCons (mVar 4) mNil)) mNil)))))) mNil))))))
noncomputable def M_small : List R → Store → Out R := mDefV 6 (m_small M_take M_joined_2)
end Q
namespace M
open PySem PySem.Spec L2
open PyProof.Rows hiding St
theorem pyS_tstrs {ns : List Str} (ok : ∀ x ∈ ns, strOkB x = true) : D.pyS (.tup (ns.map D.str)) = some (.tuple (ns.map PyData.str)) := by
  have h := lay_strs ns ok
  unfold D.pyS
  rw [show D.py (.tup (ns.map D.str)) = some (.tuple (ns.map PyData.str)) by simp [D.py, pys_strs]]
  simp [SeqAt.shaped, PyData.canLay0, PyData.depth, h.1, h.2]
theorem any_strs (w : Str) : ∀ ws : List Str, ((ws.map PyData.str).any fun z => PyData.eqv z (.str w)) = decide (w ∈ ws)
  | [] => rfl
  | x :: ws => by
    rw [List.map_cons, List.any_cons, any_strs w ws]
    have : PyData.eqv (.str x) (.str w) = decide (x = w) := by
      rw [PyData.eqv]
      by_cases h : x = w
      · subst h; simp
      · simp [h]
    rw [this]
    by_cases h : x = w
    · subst h; simp
    · have h' : ¬ w = x := fun e => h e.symm
      simp [h, h', List.mem_cons]
theorem opIn_strs {S : Store} {w : Str} {ws : List Str} {e : D} (he : e = .lst (ws.map D.str) ∨ e = .tup (ws.map D.str)) (hw : strOkB w = true) (ok : ∀ x ∈ ws, strOkB x = true) :
    opIn (.v (.str w)) (.v e) S = .ok (.v (.bl (decide (w ∈ ws)))) S ∧ opNotIn (.v (.str w)) (.v e) S = .ok (.v (.bl (!decide (w ∈ ws)))) S := by
  have key : inM S (.v (.str w)) (.v e) = some (decide (w ∈ ws)) := by
    have h1 : D.pyS (.str w) = some (.str w) := pyS_str hw
    rcases he with rfl | rfl
    · have h2 := pyS_lstrs ok
      simp only [inM, pyOf_v, h1, h2, Option.bind_some, seqPy, any_strs]
    · have h2 := pyS_tstrs ok
      simp only [inM, pyOf_v, h1, h2, Option.bind_some, seqPy, any_strs]
  exact ⟨by unfold opIn; rw [key], by unfold opNotIn; rw [key]⟩
theorem cutS_cps (z : Str) (lo hi : Option Int) : (cutS z lo hi).cps.toList = cutD z.cps.toList lo hi := by
  unfold cutS cutD
  rw [show z.cps.toList.length = z.length from Array.length_toList]
end M
namespace Q
open PySem hiding Env
open L2 M
theorem GoodW.okB {w : Str} (h : GoodW w) : strOkB w = true := h.ok
theorem opIx_2' {a b : D} {S : Store} {c : Bool} : opIx (.v (.lst [a, b])) (.v (.int (if c = true then 1 else 0))) S = .ok (.v (if c = true then b else a)) S := by
  cases c
  · exact opIx_lst (atI_0 _ _)
  · exact opIx_lst (atI_1 _ _ _)
theorem great_spec {S : Store} {n : Nat} {h : Hnd} {q : Int} (e : S[n]? = some h.c) (q0 : 1 ≤ q) (q1 : q ≤ 26) : ∃ (h' : Hnd) (t : T), M_great [.ref n, .v (.int q)] S = .ok (.v t.d) (S.set n h'.c) ∧ t.Ok ∧ t.ls.Nodup ∧ (t.ls.length : Int) ≤ max 5 q := by
  obtain ⟨a, g1, e1, a0, a1⟩ := take_spec (k := 8) e (by decide) (by decide)
  obtain ⟨lim, hlim, l0, l1⟩ : ∃ lim : Int, (if (a == 0) = true then D.int q else .int 5) = .int lim ∧ 1 ≤ lim ∧ lim ≤ max 5 q := by
    by_cases hc : (a == 0) = true
    · exact ⟨q, by simp [hc], q0, by omega⟩
    · exact ⟨5, by simp [hc], by decide, by omega⟩
  obtain ⟨b, g2, e2, b0, b1⟩ := take_spec (k := lim) (get_set e g1.c) (by omega) (by omega)
  rw [List.set_set] at e2
  obtain ⟨g3, ws, e3, hwl, hnd, hok⟩ := words_spec (k := 1 + b) (get_set e g2.c) (by omega) (by omega)
  rw [List.set_set] at e3
  obtain ⟨g4, t, e4, ht⟩ := joined_spec (ts := ws.map T.leaf) (get_set e g3.c) (by intro h; have := congrArg List.length h; simp at this; rw [this] at hwl; simp at hwl; omega) (by simp; omega)
  rw [List.set_set] at e4
  have htl : t.ls = ws := by rw [ht]; exact flat_leaf ws
  have e4' : M_joined_2 [.ref n, .v (.lst (ws.map D.str))] (S.set n g3.c) = .ok (.v t.d) (S.set n g4.c) := by
    rw [List.map_map] at e4
    exact e4
  refine ⟨g4, t, mDefV_rtU ?_ (upd_set n (g4.lo _)), fun x hx => hok x (by rw [← htl]; exact hx), by rw [htl]; exact hnd, by rw [htl]; omega⟩
  simp only [m_great, List.map_cons, List.map_nil, List.length_cons, List.length_nil, List.replicate, List.cons_append, List.nil_append, Nat.reduceAdd, Nat.reduceSub, mSeq_eq, mSet_eq, mBin_eq, mC_eq, mCall_eq, mCons_eq, mVar_eq, mNil_eq, List.getElem?_cons_succ, List.getElem?_cons_zero, Out.bind_ok, mLstV_eq, frzO_2, Nat.zero_add, sz2, if_true, e1, opEq_int, biInt_bl, opIx_2', hlim, e2, opAdd_int, thenS_ok, List.set_cons_succ, List.set_cons_zero, mRet_eq, e3, e4']
theorem small_spec {S : Store} {n : Nat} {h : Hnd} {q : Int} {ws : List Str} (e : S[n]? = some h.c) (hne : ws ≠ []) (hl : ws.length ≤ 1000) (q0 : 1 ≤ q) (q1 : q ≤ 1000) : ∃ (h' : Hnd) (t : T), M_small [.ref n, .v (.lst (ws.map D.str)), .v (.int q)] S = .ok (.v t.d) (S.set n h'.c) ∧ (∀ x ∈ t.ls, x ∈ ws) ∧ (t.ls.length : Int) ≤ max 6 q := by
  have hp : 0 < ws.length := List.length_pos_iff.mpr hne
  obtain ⟨a, g1, e1, a0, a1⟩ := take_spec (k := 8) e (by decide) (by decide)
  obtain ⟨lim, hlim, l0, l1⟩ : ∃ lim : Int, (if (a == 0) = true then D.int q else .int 6) = .int lim ∧ 1 ≤ lim ∧ lim ≤ max 6 q := by
    by_cases hc : (a == 0) = true
    · exact ⟨q, by simp [hc], q0, by omega⟩
    · exact ⟨6, by simp [hc], by decide, by omega⟩
  obtain ⟨b, g2, e2, b0, b1⟩ := take_spec (k := lim) (get_set e g1.c) (by omega) (by omega)
  rw [List.set_set] at e2
  obtain ⟨a3, g3, e3, c0, c1⟩ := take_spec (k := (ws.length : Int)) (get_set e g2.c) (by omega) (by omega)
  rw [List.set_set] at e3
  have hfew : cutD (ws.map D.str) none (some (1 + a3)) = (ws.take (1 + a3).toNat).map D.str := by rw [cutD_take _ (by omega), List.map_take]
  generalize hf : ws.take (1 + a3).toNat = few at hfew
  have hfl : few.length = (1 + a3).toNat := by rw [← hf, List.length_take]; omega
  have hfm : ∀ x ∈ few, x ∈ ws := fun x hx => by rw [← hf] at hx; exact List.mem_of_mem_take hx
  obtain ⟨g4, row, e4, hr, hmem⟩ := row_spec (S0 := S.set n g3.c) (.refl _) (n' := 0) (i := 4) (j := 5) (S := S.set n g3.c) (n := n) (h := g3) (few := few) (cnt := 1 + b) (m := [some (.ref n), some (.v (.lst (ws.map D.str))), some (.v (.int q)), some (.v (.int (1 + b))), some (.v (.lst (few.map D.str))), none]) (get_set e g3.c) (by intro h; rw [h] at hfl; simp at hfl; omega) (by omega) (by omega) (by omega) (fun _ => rfl) (fun _ => rfl)
  rw [List.set_set] at e4
  obtain ⟨g5, t, e5, ht⟩ := joined_spec (ts := row.map T.leaf) (get_set e g4.c) (by intro h; have := congrArg List.length h; simp at this; rw [this] at hr; simp at hr; omega) (by simp; omega)
  rw [List.set_set] at e5
  have htl : t.ls = row := by rw [ht]; exact flat_leaf row
  have e5' : M_joined_2 [.ref n, .v (.lst (row.map D.str))] (S.set n g4.c) = .ok (.v t.d) (S.set n g5.c) := by
    rw [List.map_map] at e5
    exact e5
  have hu2 := upd_set (S := S.set n g2.c) n (c := g3.c) (g3.lo _)
  rw [List.set_set] at hu2
  refine ⟨g5, t, mDefV_rtU ?_ (upd_set n (g5.lo _)), fun x hx => hfm x (hmem x (by rw [← htl]; exact hx)), by rw [htl]; omega⟩
  have sl := popSl_lstU (S0 := S.set n g2.c) (S := S.set n g3.c) hu2 (ws.map D.str) none (some (1 + a3))
  rw [hfew] at sl
  simp only [m_small, List.map_cons, List.map_nil, List.length_cons, List.length_nil, List.replicate, List.cons_append, List.nil_append, Nat.reduceAdd, Nat.reduceSub, mSeq_eq, mSet_eq, mBin_eq, mC_eq, mCall_eq, mCons_eq, mVar_eq, mNil_eq, List.getElem?_cons_succ, List.getElem?_cons_zero, Out.bind_ok, mLstV_eq, frzO_2, Nat.zero_add, sz2, if_true, e1, opEq_int, biInt_bl, opIx_2', hlim, e2, opAdd_int, thenS_ok, List.set_cons_succ, List.set_cons_zero, mPop_eq, mSl_eq, moN_eq, moS_eq, biLen_lst, List.length_map, e3, sl, mRet_eq, mLc_eq, srcRange1_eq, rg1_int (show 0 ≤ 1 + b by omega) (show 1 + b < 2 ^ 62 by omega), wipeM, List.foldl_cons, List.foldl_nil, e4, e5']
theorem is_small_spec {S : Store} {g t : T} (hg : g.Ok) (gd : g.depth < 70) (gz : g.ls.length ≤ 1000000) (ht : t.Ok) (td : t.depth < 70) (tz : t.ls.length ≤ 1000000) : M_is_small [.v g.d, .v t.d] S = .ok (.v (.bl (t.ls.all fun w => decide (w ∈ g.ls)))) S := by
  have e1 := is_tree_T (k := 70) td ht S
  have e2 := leaves_spec (S := S) gd gz
  have e3 := leaves_spec (S := S) td tz
  have lc := lc_map (S := S) (t := tgN 3) (c := mtYes) (f := mBin opIn (mVar 3) (mVar 2)) (m := [some (.v g.d), some (.v t.d), some (.v (.tup (g.ls.map D.str))), none]) (fun w : Str => .v (.str w)) (fun _ => true) (fun w => .bl (decide (w ∈ g.ls))) t.ls (sz_of (by omega)) (by
    intro w hw acc
    refine ⟨_, rfl, rfl, fun _ => ?_⟩
    have := (opIn_strs (S := S ++ [.lst acc]) (w := w) (ws := g.ls) (.inr rfl) (GoodW.okB (ht w hw)) fun x hx => GoodW.okB (hg x hx)).1
    simp only [mBin_eq, mVar_eq, List.set_cons_succ, List.set_cons_zero, List.getElem?_cons_succ, List.getElem?_cons_zero, Out.bind_ok, this])
  rw [List.filter_eq_self.mpr (by simp)] at lc
  have hm : (t.ls.map fun w => D.bl (decide (w ∈ g.ls))) = (t.ls.map fun w => decide (w ∈ g.ls)).map D.bl := by rw [List.map_map]; rfl
  have hm2 : (t.ls.map fun w => R.v (D.str w)) = (t.ls.map D.str).map R.v := by rw [List.map_map]; rfl
  rw [hm, hm2] at lc
  refine mDefV_rt0 ?_
  simp only [m_is_small, List.map_cons, List.map_nil, List.length_cons, List.length_nil, List.replicate, List.cons_append, List.nil_append, Nat.reduceAdd, Nat.reduceSub, mSeq_eq, mIfS_eq, mtNot_eq, mtTru_eq, mCall_eq, mCons_eq, mVar_eq, mNil_eq, mC_eq, List.getElem?_cons_succ, List.getElem?_cons_zero, Out.bind_ok, e1, truM_bl, Bool.not_true, thenS_ok, mSkip_eq, mSet_eq, e2, List.set_cons_succ, List.set_cons_zero, mRet_eq, mPop_eq, mLc_eq, srcAny, e3, wipeM, List.foldl_cons, List.foldl_nil, lc, biAll_lst, List.all_map]
  rfl
end Q
namespace Q
open PySem hiding Env
open L2 M
end Q
namespace M
open PySem PySem.Spec L2
open PyProof.Rows hiding St
@[simp] theorem mAugIx_eq (f o i : ME) (g : R → R → Store → Out R) (m : Env) (S : Store) : mAugIx f o i g m S = (o m S).thenS m fun x S1 => (i m S1).thenS m fun y S2 => match getC x y S2 with
  | some old => (f m S2).thenS m fun d S3 => (g old d S3).thenS m fun z S4 => match setC x y z S4 with
    | some S5 => .nx m S5
    | none => .no
  | none => .no := id rfl
end M
namespace Q
open PySem hiding Env
open L2 M
/-- a pot: digits, a number, how often it was drawn -/
structure Pot (b : Nat) where
  x : Int
  y : Int
  z : Int
  hx : 0 ≤ x
  hy : 0 ≤ y
  hyl : y < 2305843009213693951
  hz : 0 ≤ z
  hzb : z ≤ b
def Pot.c {b : Nat} (h : Pot b) : MO := .lst [.v (.int h.x), .v (.int h.y), .v (.int h.z)]
theorem Pot.lo {b : Nat} (h : Pot b) (k : Nat) : h.c.lo k := lo_lst [.int h.x, .int h.y, .int h.z] k
end Q
namespace Q
open PySem hiding Env
open L2 M
end Q
namespace M
open PySem PySem.Spec L2
open PyProof.Rows hiding St
def oD : Option Nat → D
  | none => .non
  | some p => .int (p : Int)
/-- above each node but the last: the number of its own -/
def T.ahdI : Nat → T → List (Option Nat)
  | _, .leaf _ => []
  | k, .node l r => T.ahdI k l ++ some (k + l.cnt + r.cnt) :: (T.ahdI (k + l.cnt) r ++ [some (k + l.cnt + r.cnt)])
theorem T.ahdI_len : ∀ (t : T) (k : Nat), (T.ahdI k t).length + 1 = t.cnt
  | .leaf w, k => rfl
  | .node l r, k => by
    have h1 := T.ahdI_len l k
    have h2 := T.ahdI_len r (k + l.cnt)
    simp only [T.ahdI, T.cnt, List.length_append, List.length_cons, List.length_nil]; omega
def T.ahead (t : T) : List (Option Nat) := T.ahdI 0 t ++ [none]
/-- from each node up to the last, those in up behind it -/
def T.lines : Nat → List Nat → T → List (List Nat)
  | k, up, .leaf _ => [k :: up]
  | k, up, .node l r => T.lines k ((k + l.cnt + r.cnt) :: up) l ++ T.lines (k + l.cnt) ((k + l.cnt + r.cnt) :: up) r ++ [(k + l.cnt + r.cnt) :: up]
/-- the leaves' numbers -/
def T.lvs : Nat → T → List Nat
  | k, .leaf _ => [k]
  | k, .node l r => T.lvs k l ++ T.lvs (k + l.cnt) r
def T.blw : Nat → T → List (List Nat)
  | k, .leaf _ => [[k]]
  | k, .node l r => T.blw k l ++ T.blw (k + l.cnt) r ++ [T.lvs k l ++ T.lvs (k + l.cnt) r]
theorem T.blw_len : ∀ (t : T) (k : Nat), (T.blw k t).length = t.cnt
  | .leaf w, k => rfl
  | .node l r, k => by simp only [T.blw, List.length_append, T.blw_len l, T.blw_len r, T.cnt, List.length_cons, List.length_nil]
/-- which of two lists stands where, in two put together and one behind -/
theorem three {α : Type} {a b : List α} {c x : α} {i : Nat} (h : (a ++ b ++ [c])[i]? = some x) : (i < a.length ∧ a[i]? = some x) ∨ (∃ j, i = a.length + j ∧ j < b.length ∧ b[j]? = some x) ∨ (i = a.length + b.length ∧ x = c) := by
  by_cases h1 : i < a.length
  · rw [List.append_assoc, List.getElem?_append_left h1] at h
    exact .inl ⟨h1, h⟩
  · rw [List.append_assoc, List.getElem?_append_right (by omega)] at h
    by_cases h2 : i - a.length < b.length
    · rw [List.getElem?_append_left h2] at h
      exact .inr (.inl ⟨i - a.length, by omega, h2, h⟩)
    · rw [List.getElem?_append_right (by omega)] at h
      have h3 : i - a.length - b.length = 0 := by
        rcases Nat.eq_zero_or_pos (i - a.length - b.length) with z | z
        · exact z
        · rw [List.getElem?_eq_none (by simp; omega)] at h; cases h
      rw [h3] at h
      cases h
      exact .inr (.inr ⟨by omega, rfl⟩)
end M
namespace Q
open PySem hiding Env
open L2 M
noncomputable def b1_ahead_of : MS :=
  (mIfS (mtTru (mCall biIsi (mCons (mVar 4) (mCons (mC (.ty "tuple")) mNil)))) (mSeq (mSetIx (mVar 3) (mVar 2) (mBin opIx (mVar 4) (mC (.int 0))))
  (mSetIx (mVar 3) (mVar 2) (mBin opIx (mVar 4) (mC (.int 1))))) mSkip)
end Q
namespace M
open PySem PySem.Spec L2
open PyProof.Rows hiding St
/-- a for's turns over xs, none of which breaks -/
def Runs (t : TgM) (body : MS) (xs : List R) (m : Env) (S : Store) (m' : Env) (S' : Store) : Prop := ∀ ys, mForGo [] t body (xs ++ ys) m S = mForGo [] t body ys m' S'
theorem Runs.nil {t : TgM} {body : MS} {m : Env} {S : Store} : Runs t body [] m S m S := fun ys => rfl
theorem Runs.app {t : TgM} {body : MS} {xs ys : List R} {m m1 m2 : Env} {S S1 S2 : Store} (h1 : Runs t body xs m S m1 S1) (h2 : Runs t body ys m1 S1 m2 S2) : Runs t body (xs ++ ys) m S m2 S2 := fun zs => by
  rw [List.append_assoc, h1, h2]
theorem Runs.one {t : TgM} {body : MS} {d : R} {m m1 m2 : Env} {S S2 : Store} (h1 : t d m = some m1) (h2 : body m1 S = .nx m2 S2) : Runs t body [d] m S m2 S2 := fun zs => by
  rw [List.singleton_append]
  conv => lhs; unfold mForGo
  rw [if_pos (show pinsOk [] S from trivial), h1]
  simp only [h2]
theorem Runs.end {t : TgM} {body : MS} {xs : List R} {m m1 : Env} {S S1 : Store} (h : Runs t body xs m S m1 S1) : mForGo [] t body xs m S = .nx m1 S1 := by
  have := h []
  rw [List.append_nil] at this
  rw [this]
  unfold mForGo
  rw [if_pos (show pinsOk [] S1 from trivial)]
def enumF (k : Nat) (ds : List D) : List R := (ds.zipIdx k).map fun p => .v (.tup [.int (p.2 : Int), p.1])
theorem enumF_app (k : Nat) (xs ys : List D) : enumF k (xs ++ ys) = enumF k xs ++ enumF (k + xs.length) ys := by
  unfold enumF
  rw [List.zipIdx_append, List.map_append]
theorem enumF_one (k : Nat) (d : D) : enumF k [d] = [.v (.tup [.int (k : Int), d])] := rfl
theorem set_mid {α : Type} {P Q : List α} {x y : α} {n : Nat} (h : P.length = n) : (P ++ x :: Q).set n y = P ++ y :: Q := by
  subst h
  rw [List.set_append_right _ _ (Nat.le_refl _), Nat.sub_self]
  rfl
theorem any_ints (w : Int) : ∀ ws : List Int, ((ws.map PyData.int).any fun z => PyData.eqv z (.int w)) = decide (w ∈ ws)
  | [] => rfl
  | x :: ws => by
    rw [List.map_cons, List.any_cons, any_ints w ws]
    have : PyData.eqv (.int x) (.int w) = decide (x = w) := by
      rw [PyData.eqv]
      by_cases h : x = w
      · subst h; simp
      · simp [h]
    rw [this]
    by_cases h : x = w
    · subst h; simp
    · have h' : ¬ w = x := fun e => h e.symm
      simp [h, h', List.mem_cons]
theorem pyS_lints (ns : List Int) : D.pyS (.lst (ns.map D.int)) = some (.list (ns.map PyData.int)) := by
  have h := lay_ints ns
  unfold D.pyS
  rw [show D.py (.lst (ns.map D.int)) = some (.list (ns.map PyData.int)) by simp [D.py, pys_ints]]
  simp [SeqAt.shaped, PyData.canLay0, PyData.depth, h.1, h.2]
theorem pyS_tints (ns : List Int) : D.pyS (.tup (ns.map D.int)) = some (.tuple (ns.map PyData.int)) := by
  have h := lay_ints ns
  unfold D.pyS
  rw [show D.py (.tup (ns.map D.int)) = some (.tuple (ns.map PyData.int)) by simp [D.py, pys_ints]]
  simp [SeqAt.shaped, PyData.canLay0, PyData.depth, h.1, h.2]
theorem opIn_ints {S : Store} {w : Int} {ws : List Int} {e : D} (he : e = .lst (ws.map D.int) ∨ e = .tup (ws.map D.int)) :
    opIn (.v (.int w)) (.v e) S = .ok (.v (.bl (decide (w ∈ ws)))) S ∧ opNotIn (.v (.int w)) (.v e) S = .ok (.v (.bl (!decide (w ∈ ws)))) S := by
  have key : inM S (.v (.int w)) (.v e) = some (decide (w ∈ ws)) := by
    rcases he with rfl | rfl
    · simp only [inM, pyOf_v, pyS_int, pyS_lints, Option.bind_some, seqPy, any_ints]
    · simp only [inM, pyOf_v, pyS_int, pyS_tints, Option.bind_some, seqPy, any_ints]
  exact ⟨by unfold opIn; rw [key], by unfold opNotIn; rw [key]⟩
/-- numbers as data -/
def natD (n : Nat) : D := .int (n : Int)
theorem natD_ints (ns : List Nat) : ns.map natD = (ns.map fun n : Nat => (n : Int)).map D.int := by rw [List.map_map]; rfl
theorem opIn_nats {S : Store} {w : Nat} {ws : List Nat} {e : D} (he : e = .lst (ws.map natD) ∨ e = .tup (ws.map natD)) :
    opIn (.v (.int (w : Int))) (.v e) S = .ok (.v (.bl (decide (w ∈ ws)))) S ∧ opNotIn (.v (.int (w : Int))) (.v e) S = .ok (.v (.bl (!decide (w ∈ ws)))) S := by
  have := opIn_ints (S := S) (w := (w : Int)) (ws := ws.map fun n : Nat => (n : Int)) (e := e) (by rw [← natD_ints]; exact he)
  have e : decide ((w : Int) ∈ ws.map fun n : Nat => (n : Int)) = decide (w ∈ ws) := by
    apply Bool.eq_iff_iff.mpr
    simp only [decide_eq_true_eq, List.mem_map]
    constructor
    · rintro ⟨a, h, e⟩
      have : a = w := by omega
      rwa [this] at h
    · intro h
      exact ⟨w, h, rfl⟩
  rwa [e] at this
end M
namespace Q
open PySem hiding Env
open L2 M
theorem ahead_seg : ∀ (t : T) (P Q : List D) (S : Store) (a0 a1 w3 w4 : Option R), P.length + t.cnt + Q.length ≤ 10000000 →
    ∃ w3' w4', Runs (tgT [tgN 3, tgN 4]) b1_ahead_of (enumF P.length (T.nodesFrom P.length t)) [a0, a1, some (.ref S.length), w3, w4] (S ++ [.lst ((P ++ (List.replicate t.cnt D.non ++ Q)).map .v)])
      [a0, a1, some (.ref S.length), w3', w4'] (S ++ [.lst ((P ++ ((T.ahdI P.length t).map oD ++ .non :: Q)).map .v)])
  | .leaf w, P, Q, S, a0, a1, w3, w4, hz => by
    refine ⟨some (.v (.int (P.length : Int))), some (.v (.str w)), Runs.one (m1 := [a0, a1, some (.ref S.length), some (.v (.int (P.length : Int))), some (.v (.str w))]) rfl ?_⟩
    simp [b1_ahead_of, T.ahdI, T.cnt]
  | .node l r, P, Q, S, a0, a1, w3, w4, hz => by
    simp only [T.cnt] at hz
    have c1 := T.ahdI_len l P.length
    have c2 := T.ahdI_len r (P.length + l.cnt)
    have p1 := l.cnt_pos
    have p2 := r.cnt_pos
    obtain ⟨x3, x4, h1⟩ := ahead_seg l P (List.replicate r.cnt .non ++ .non :: Q) S a0 a1 w3 w4 (by simp; omega)
    have hL : (P ++ (T.ahdI P.length l).map oD ++ [D.non]).length = P.length + l.cnt := by simp; omega
    obtain ⟨y3, y4, h2⟩ := ahead_seg r (P ++ (T.ahdI P.length l).map oD ++ [.non]) (.non :: Q) S a0 a1 x3 x4 (by rw [hL]; simp; omega)
    rw [hL] at h2
    have e1 : P ++ (List.replicate (T.node l r).cnt D.non ++ Q) = P ++ (List.replicate l.cnt D.non ++ (List.replicate r.cnt .non ++ .non :: Q)) := by
      simp only [T.cnt]
      rw [← List.replicate_append_replicate, ← List.replicate_append_replicate, show List.replicate 1 D.non = [D.non] from rfl]
      simp only [List.append_assoc, List.cons_append, List.nil_append]
    have e2 : P ++ ((T.ahdI P.length l).map oD ++ D.non :: (List.replicate r.cnt .non ++ .non :: Q)) = P ++ (T.ahdI P.length l).map oD ++ [.non] ++ (List.replicate r.cnt .non ++ .non :: Q) := by simp
    rw [← e1] at h1
    rw [e2] at h1
    have h3 := h1.app h2
    let last : Nat := P.length + l.cnt + r.cnt
    let A : List D := P ++ (T.ahdI P.length l).map oD
    let B : List D := (T.ahdI (P.length + l.cnt) r).map oD
    have hA : A.length = P.length + l.cnt - 1 := by simp [A]; omega
    have hB : B.length + 1 = r.cnt := by simp [B]; omega
    have e3 : P ++ (T.ahdI P.length l).map oD ++ [D.non] ++ ((T.ahdI (P.length + l.cnt) r).map oD ++ .non :: .non :: Q) = A ++ .non :: (B ++ .non :: .non :: Q) := by simp [A, B]
    rw [e3] at h3
    have hS1 : (A ++ D.non :: (B ++ .non :: .non :: Q)).length ≤ 10000000 := by simp [hA]; omega
    have g1 := get_len S (.lst ((A ++ D.non :: (B ++ .non :: .non :: Q)).map R.v)) []
    have s1 : setIx (.ref S.length) (.v (.int ((P.length + l.cnt - 1 : Nat) : Int))) (.v (.int (last : Int))) (S ++ [.lst ((A ++ D.non :: (B ++ .non :: .non :: Q)).map .v)]) = some (S ++ [.lst ((A ++ D.int last :: (B ++ .non :: .non :: Q)).map .v)]) := by
      rw [setIx_ref g1 (by omega) (by simp [hA]; omega), set_len]
      congr 4
      rw [← List.map_set, show ((P.length + l.cnt - 1 : Nat) : Int).toNat = P.length + l.cnt - 1 by omega, set_mid hA]
    have g2 := get_len S (.lst ((A ++ D.int last :: (B ++ .non :: .non :: Q)).map R.v)) []
    have s2 : setIx (.ref S.length) (.v (.int ((P.length + l.cnt + r.cnt - 1 : Nat) : Int))) (.v (.int (last : Int))) (S ++ [.lst ((A ++ D.int last :: (B ++ .non :: .non :: Q)).map .v)]) = some (S ++ [.lst ((A ++ D.int last :: (B ++ .int last :: .non :: Q)).map .v)]) := by
      rw [setIx_ref g2 (by omega) (by simp [hA]; omega), set_len]
      congr 4
      rw [← List.map_set, show ((P.length + l.cnt + r.cnt - 1 : Nat) : Int).toNat = P.length + l.cnt + r.cnt - 1 by omega]
      congr 1
      rw [show A ++ D.int last :: (B ++ .non :: .non :: Q) = (A ++ D.int last :: B) ++ .non :: .non :: Q by simp, set_mid (by simp [hA]; omega)]
      simp
    have hroot := Runs.one (t := tgT [tgN 3, tgN 4]) (body := b1_ahead_of) (d := .v (.tup [.int (last : Int), .tup [.int ((P.length + l.cnt - 1 : Nat) : Int), .int ((P.length + l.cnt + r.cnt - 1 : Nat) : Int)]])) (m := [a0, a1, some (.ref S.length), y3, y4])
      (m1 := [a0, a1, some (.ref S.length), some (.v (.int (last : Int))), some (.v (.tup [.int ((P.length + l.cnt - 1 : Nat) : Int), .int ((P.length + l.cnt + r.cnt - 1 : Nat) : Int)]))])
      (m2 := [a0, a1, some (.ref S.length), some (.v (.int (last : Int))), some (.v (.tup [.int ((P.length + l.cnt - 1 : Nat) : Int), .int ((P.length + l.cnt + r.cnt - 1 : Nat) : Int)]))])
      (S := S ++ [.lst ((A ++ D.non :: (B ++ .non :: .non :: Q)).map .v)]) (S2 := S ++ [.lst ((A ++ D.int last :: (B ++ .int last :: .non :: Q)).map .v)]) rfl (by
        simp only [b1_ahead_of, mIfS_eq, mtTru_eq, mCall_eq, mCons_eq, mVar_eq, mC_eq, mNil_eq, List.getElem?_cons_succ, List.getElem?_cons_zero, Out.bind_ok, isi_tup_tup, truM_bl, thenS_ok, mSeq_eq, mSetIx_eq, mBin_eq, opIx_tup (atI_0 _ _), opIx_tup (atI_1 _ _ _), s1, s2])
    have h4 := h3.app hroot
    have e4 : enumF P.length (T.nodesFrom P.length l) ++ enumF (P.length + l.cnt) (T.nodesFrom (P.length + l.cnt) r) ++ [R.v (.tup [.int (last : Int), .tup [.int ((P.length + l.cnt - 1 : Nat) : Int), .int ((P.length + l.cnt + r.cnt - 1 : Nat) : Int)]])] = enumF P.length (T.nodesFrom P.length (.node l r)) := by
      simp only [T.nodesFrom]
      rw [enumF_app, enumF_app, List.length_append, T.nodesFrom_len, T.nodesFrom_len, enumF_one, ← Nat.add_assoc]
    have e5 : A ++ D.int last :: (B ++ .int last :: .non :: Q) = P ++ ((T.ahdI P.length (.node l r)).map oD ++ .non :: Q) := by simp [A, B, T.ahdI, oD, last]
    rw [e4, e5] at h4
    exact ⟨_, _, h4⟩
end Q
namespace M
open PySem PySem.Spec L2
open PyProof.Rows hiding St
def T.lns (t : T) : List (List Nat) := T.lines 0 [] t
/-- beside a house -/
def T.aside (t : T) (h : Nat) : List Nat := (List.range t.cnt).filter fun o => !decide (o ∈ t.lns.getD h []) && !decide (h ∈ t.lns.getD o [])
theorem range_getD {α : Type} (xs : List α) (z : α) : ((List.range xs.length).map fun i => xs.getD i z) = xs := by
  refine List.ext_getElem (by simp) fun i h1 h2 => ?_
  simp at h1
  simp [h1]
theorem T.notTy_nodes (t : T) (k : Nat) : ∀ x ∈ T.nodesFrom k t, notTy x = true := by
  induction t generalizing k with
  | leaf w => intro x hx; simp only [T.nodesFrom, List.mem_singleton] at hx; subst hx; rfl
  | node l r h1 h2 =>
    intro x hx
    simp only [T.nodesFrom, List.mem_append, List.mem_singleton] at hx
    rcases hx with (hx | hx) | rfl
    · exact h1 _ x hx
    · exact h2 _ x hx
    · rfl
end M
namespace Q
open PySem hiding Env
open L2 M
end Q
namespace Q
open PySem hiding Env
open L2 M
end Q
namespace M
open PySem PySem.Spec L2
open PyProof.Rows hiding St
theorem T.blw_last : ∀ (t : T) (k : Nat), (T.blw k t)[t.cnt - 1]? = some (T.lvs k t)
  | .leaf w, k => rfl
  | .node l r, k => by
    have h1 := T.blw_len l k
    have h2 := T.blw_len r (k + l.cnt)
    simp only [T.blw, T.lvs, T.cnt]
    rw [List.getElem?_append_right (by simp; omega)]
    simp [h1, h2]
theorem T.blw_at : ∀ (t : T) (k i : Nat) (d : D), (T.nodesFrom k t)[i]? = some d → (isStr d = true ∧ (T.blw k t)[i]? = some [k + i]) ∨ ∃ a b ba bb, d = .tup [natD (k + a), natD (k + b)] ∧ a < i ∧ b < i ∧ (T.blw k t)[a]? = some ba ∧ (T.blw k t)[b]? = some bb ∧ (T.blw k t)[i]? = some (ba ++ bb)
  | .leaf w, k, i, d, h => by
    cases i with
    | zero => cases h; exact .inl ⟨rfl, rfl⟩
    | succ i => simp [T.nodesFrom] at h
  | .node l r, k, i, d, h => by
    have n1 := T.nodesFrom_len l k
    have n2 := T.nodesFrom_len r (k + l.cnt)
    have b1 := T.blw_len l k
    have b2 := T.blw_len r (k + l.cnt)
    have p1 := l.cnt_pos
    have p2 := r.cnt_pos
    have inl : ∀ (i : Nat) (b : List Nat), (T.blw k l)[i]? = some b → (T.blw k (.node l r))[i]? = some b := fun i b e => by
      have hi : i < (T.blw k l).length := (List.getElem?_eq_some_iff.mp e).1
      simp only [T.blw]
      rw [List.append_assoc, List.getElem?_append_left hi, e]
    have inr : ∀ (i : Nat) (b : List Nat), (T.blw (k + l.cnt) r)[i]? = some b → (T.blw k (.node l r))[l.cnt + i]? = some b := fun i b e => by
      have hi : i < (T.blw (k + l.cnt) r).length := (List.getElem?_eq_some_iff.mp e).1
      simp only [T.blw]
      rw [List.append_assoc, List.getElem?_append_right (by omega), b1, Nat.add_sub_cancel_left, List.getElem?_append_left hi, e]
    rcases three h with ⟨a1, a2⟩ | ⟨a, a1, a2, a3⟩ | ⟨a1, a2⟩
    · rcases T.blw_at l k i d a2 with ⟨q1, q2⟩ | ⟨a, b, ba, bb, q1, q2, q3, q4, q5, q6⟩
      · exact .inl ⟨q1, inl _ _ q2⟩
      · exact .inr ⟨a, b, ba, bb, q1, q2, q3, inl _ _ q4, inl _ _ q5, inl _ _ q6⟩
    · rw [n1] at a1
      subst a1
      rcases T.blw_at r (k + l.cnt) a d a3 with ⟨q1, q2⟩ | ⟨x, y, ba, bb, q1, q2, q3, q4, q5, q6⟩
      · exact .inl ⟨q1, by rw [inr _ _ q2]; congr 2; omega⟩
      · exact .inr ⟨l.cnt + x, l.cnt + y, ba, bb, by rw [q1, Nat.add_assoc, Nat.add_assoc], by omega, by omega, inr _ _ q4, inr _ _ q5, inr _ _ q6⟩
    · subst a2
      rw [n1, n2] at a1
      subst a1
      refine .inr ⟨l.cnt - 1, l.cnt + (r.cnt - 1), T.lvs k l, T.lvs (k + l.cnt) r, ?_, by omega, by omega, inl _ _ (T.blw_last l k), inr _ _ (T.blw_last r (k + l.cnt)), ?_⟩
      · simp only [natD]
        congr 3
        · congr 2; omega
        · congr 3; omega
      · have := T.blw_last (.node l r) k
        simpa [T.cnt, T.lvs] using this
end M
namespace Q
open PySem hiding Env
open L2 M
end Q
namespace Q
open PySem hiding Env
open L2 M
end Q
namespace M
open PySem PySem.Spec L2
open PyProof.Rows hiding St
/-- whether a house's date can stand: what is_date tells -/
def nodeOk (ds : List Int) (h : Nat) : D → Bool
  | .tup [.int a, .int b] => (decide (1 ≤ ds.getD h 0) && decide (ds.getD h 0 ≤ 99)) && (decide (ds.getD a.toNat 0 < ds.getD h 0) && decide (ds.getD b.toNat 0 < ds.getD h 0))
  | _ => ds.getD h 0 == 0
def innerD (t : T) (ds : List Int) : List Int := ((t.nodes.zip ds).filter fun p => !isStr p.1).map (·.2)
/-- what is_dates tells of whole numbers -/
def isDt (t : T) (ds : List Int) : Bool := decide (ds.length = t.cnt) && (((List.range t.cnt).all fun h => nodeOk ds h (t.nodes.getD h .non)) && decide (innerD t ds).Nodup)
/-- a node: a leaf, or two ahead of it -/
theorem T.node_cases (t : T) {h : Nat} {d : D} (e : t.nodes[h]? = some d) : (∃ w, d = .str w) ∨ ∃ a b : Nat, d = .tup [natD a, natD b] ∧ a < h ∧ b < h := by
  rcases T.blw_at t 0 h d e with ⟨q, _⟩ | ⟨a, b, _, _, q1, q2, q3, _⟩
  · have nt := T.notTy_nodes t 0 d (List.mem_of_getElem? e)
    cases d <;> first | exact .inl ⟨_, rfl⟩ | (cases q; done) | cases nt
  · rw [Nat.zero_add, Nat.zero_add] at q1
    exact .inr ⟨a, b, q1, q2, q3⟩
end M
namespace Q
open PySem hiding Env
open L2 M
end Q
namespace Q
open PySem hiding Env
open L2 M
end Q
namespace M
open PySem PySem.Spec L2
open PyProof.Rows hiding St
/-- the houses of two -/
def T.innerIx (t : T) : List Nat := (List.range t.cnt).filter fun h => !isStr (t.nodes.getD h .non)
theorem innerD_ix {t : T} {ds : List Int} (hl : ds.length = t.cnt) : innerD t ds = t.innerIx.map fun h => ds.getD h 0 := by
  have hn := t.nodes_len
  have hz : t.nodes.zip ds = (List.range t.cnt).map fun h => (t.nodes.getD h .non, ds.getD h 0) := by
    refine List.ext_getElem (by simp [hn, hl]) fun i h1 h2 => ?_
    simp [hn, hl] at h1
    simp [hn, hl, h1]
  unfold innerD T.innerIx
  rw [hz, List.filter_map, List.map_map]
  rfl
theorem nodup_map_on {α β : Type} {f : α → β} : ∀ {l : List α}, l.Nodup → (∀ a ∈ l, ∀ b ∈ l, f a = f b → a = b) → (l.map f).Nodup
  | [], _, _ => by simp
  | x :: l, h, hf => by
    rw [List.nodup_cons] at h
    rw [List.map_cons, List.nodup_cons]
    refine ⟨fun hm => ?_, nodup_map_on h.2 fun a ha b hb => hf a (by simp [ha]) b (by simp [hb])⟩
    obtain ⟨y, hy, e⟩ := List.mem_map.mp hm
    have := hf y (by simp [hy]) x (by simp) e
    subst this
    exact h.1 hy
/-- dates so far: those of the houses left are none yet -/
structure DtInv (t : T) (L : List Nat) (ds : List Int) (cur : Int) : Prop where
  len : ds.length = t.cnt
  srt : L.Pairwise (· < ·)
  lin : ∀ h ∈ L, h ∈ t.innerIx
  c0 : 0 ≤ cur
  lf : ∀ h, h < t.cnt → h ∉ t.innerIx → ds.getD h 0 = 0
  dn : ∀ h ∈ t.innerIx, h ∉ L → 1 ≤ ds.getD h 0 ∧ ds.getD h 0 ≤ cur ∧ ∀ a b, t.nodes[h]? = some (.tup [natD a, natD b]) → a ∉ L ∧ b ∉ L ∧ ds.getD a 0 < ds.getD h 0 ∧ ds.getD b 0 < ds.getD h 0
  inj : ∀ h ∈ t.innerIx, ∀ k ∈ t.innerIx, h ∉ L → k ∉ L → ds.getD h 0 = ds.getD k 0 → h = k
theorem T.inner_mem {t : T} {h : Nat} : h ∈ t.innerIx ↔ h < t.cnt ∧ ∃ a b, t.nodes[h]? = some (.tup [natD a, natD b]) ∧ a < h ∧ b < h := by
  have hn := t.nodes_len
  unfold T.innerIx
  rw [List.mem_filter, List.mem_range]
  constructor
  · rintro ⟨h1, h2⟩
    have hg : t.nodes[h]? = some (t.nodes.getD h .non) := by rw [List.getD_eq_getElem?_getD, List.getElem?_eq_getElem (by omega)]; rfl
    refine ⟨h1, ?_⟩
    rcases t.node_cases hg with ⟨w, e⟩ | ⟨a, b, e, q1, q2⟩
    · rw [e] at h2; cases h2
    · exact ⟨a, b, by rw [hg, e], q1, q2⟩
  · rintro ⟨h1, a, b, e, _, _⟩
    refine ⟨h1, ?_⟩
    rw [List.getD_eq_getElem?_getD, e]
    rfl
theorem DtInv.done {t : T} {ds : List Int} {cur : Int} (I : DtInv t [] ds cur) (hc : cur ≤ 99) : isDt t ds = true := by
  have hn := t.nodes_len
  unfold isDt
  rw [decide_eq_true I.len, Bool.true_and, Bool.and_eq_true]
  refine ⟨List.all_eq_true.mpr fun h hh => ?_, ?_⟩
  · have hh : h < t.cnt := by simpa using hh
    have hg : t.nodes[h]? = some (t.nodes.getD h .non) := by rw [List.getD_eq_getElem?_getD, List.getElem?_eq_getElem (by omega)]; rfl
    rcases t.node_cases hg with ⟨w, e⟩ | ⟨a, b, e, q1, q2⟩
    · rw [e]
      have : h ∉ t.innerIx := fun hm => by
        obtain ⟨_, a, b, e2, _⟩ := T.inner_mem.mp hm
        rw [hg, e] at e2
        cases e2
      show (ds.getD h 0 == 0) = true
      rw [I.lf h hh this]; rfl
    · rw [e]
      rw [e] at hg
      have hm : h ∈ t.innerIx := T.inner_mem.mpr ⟨hh, a, b, hg, q1, q2⟩
      obtain ⟨d1, d2, d3⟩ := I.dn h hm (by simp)
      obtain ⟨_, _, d4, d5⟩ := d3 a b hg
      simp only [nodeOk, natD, Int.toNat_natCast, Bool.and_eq_true, decide_eq_true_eq]
      exact ⟨⟨d1, by omega⟩, d4, d5⟩
  · rw [innerD_ix I.len]
    exact decide_eq_true (nodup_map_on (List.Pairwise.filter _ List.nodup_range) fun a ha b hb e => I.inj a ha b hb (by simp) (by simp) e)
end M
namespace Q
open PySem hiding Env
open L2 M
end Q
namespace M
open PySem PySem.Spec L2
open PyProof.Rows hiding St
def chA (t : T) (h : Nat) : Nat := match t.nodes.getD h .non with
  | .tup [.int a, .int _] => a.toNat
  | _ => 0
def chB (t : T) (h : Nat) : Nat := match t.nodes.getD h .non with
  | .tup [.int _, .int b] => b.toNat
  | _ => 0
theorem T.kids {t : T} {h : Nat} (hm : h ∈ t.innerIx) : t.nodes[h]? = some (.tup [natD (chA t h), natD (chB t h)]) ∧ chA t h < h ∧ chB t h < h ∧ h < t.cnt := by
  obtain ⟨h1, a, b, e, q1, q2⟩ := T.inner_mem.mp hm
  have hg : t.nodes.getD h .non = .tup [natD a, natD b] := by rw [List.getD_eq_getElem?_getD, e]; rfl
  have ea : chA t h = a := by unfold chA; rw [hg]; simp [natD]
  have eb : chB t h = b := by unfold chB; rw [hg]; simp [natD]
  rw [ea, eb]
  exact ⟨e, q1, q2, h1⟩
end M
namespace Q
open PySem hiding Env
open L2 M
end Q
namespace M
open PySem PySem.Spec L2
open PyProof.Rows hiding St
end M
namespace Q
open PySem hiding Env
open L2 M
end Q
namespace Q
open PySem hiding Env
open L2 M
end Q
namespace Q
open PySem hiding Env
open L2 M
end Q
namespace M
open PySem PySem.Spec L2
open PyProof.Rows hiding St
theorem T.ahd_par : ∀ (t : T) (k i : Nat) (o : Option Nat), (T.ahdI k t)[i]? = some o → ∃ j a b, o = some (k + j) ∧ (T.nodesFrom k t)[j]? = some (.tup [natD a, natD b]) ∧ (k + i = a ∨ k + i = b)
  | .leaf w, k, i, o, h => by simp [T.ahdI] at h
  | .node l r, k, i, o, h => by
    have hl := T.ahdI_len l k
    have hr := T.ahdI_len r (k + l.cnt)
    have cl := l.cnt_pos
    have cr := r.cnt_pos
    have nl := l.nodesFrom_len k
    have nr := r.nodesFrom_len (k + l.cnt)
    have top : (T.nodesFrom k (.node l r))[l.cnt + r.cnt]? = some (.tup [natD (k + l.cnt - 1), natD (k + l.cnt + r.cnt - 1)]) := by
      rw [T.nodesFrom, List.getElem?_append_right (by rw [List.length_append]; omega), List.length_append, nl, nr, Nat.sub_self]; rfl
    rw [T.ahdI] at h
    by_cases h1 : i < (T.ahdI k l).length
    · rw [List.getElem?_append_left h1] at h
      obtain ⟨j, a, b, e1, e2, e3⟩ := T.ahd_par l k i o h
      have l1 := (List.getElem?_eq_some_iff.mp e2).1
      exact ⟨j, a, b, e1, by rw [T.nodesFrom, List.append_assoc, List.getElem?_append_left l1, e2], e3⟩
    · rw [List.getElem?_append_right (by omega)] at h
      cases hx : i - (T.ahdI k l).length with
      | zero =>
        rw [hx] at h
        simp at h
        exact ⟨l.cnt + r.cnt, _, _, by rw [← h]; congr 1; omega, top, .inl (by omega)⟩
      | succ j =>
        rw [hx, List.getElem?_cons_succ] at h
        by_cases h2 : j < (T.ahdI (k + l.cnt) r).length
        · rw [List.getElem?_append_left h2] at h
          obtain ⟨j', a, b, e1, e2, e3⟩ := T.ahd_par r (k + l.cnt) j o h
          have l1 := (List.getElem?_eq_some_iff.mp e2).1
          exact ⟨l.cnt + j', a, b, by rw [e1]; congr 1; omega, by rw [T.nodesFrom, List.append_assoc, List.getElem?_append_right (by omega), show l.cnt + j' - (T.nodesFrom k l).length = j' by omega, List.getElem?_append_left l1, e2], by omega⟩
        · rw [List.getElem?_append_right (by omega)] at h
          have hz : j - (T.ahdI (k + l.cnt) r).length = 0 := by
            rcases Nat.eq_zero_or_pos (j - (T.ahdI (k + l.cnt) r).length) with z | z
            · exact z
            · rw [List.getElem?_eq_none (by simp; omega)] at h; cases h
          rw [hz] at h
          simp at h
          exact ⟨l.cnt + r.cnt, _, _, by rw [← h]; congr 1; omega, top, .inr (by omega)⟩
theorem T.ahead_len (t : T) : t.ahead.length = t.cnt := by rw [T.ahead, List.length_append]; exact t.ahdI_len 0
theorem T.ahead_par {t : T} {i p : Nat} (e : t.ahead[i]? = some (some p)) : ∃ a b, t.nodes[p]? = some (.tup [natD a, natD b]) ∧ (i = a ∨ i = b) := by
  rw [T.ahead] at e
  by_cases h : i < (T.ahdI 0 t).length
  · rw [List.getElem?_append_left h] at e
    obtain ⟨j, a, b, e1, e2, e3⟩ := T.ahd_par t 0 i _ e
    cases e1
    rw [Nat.zero_add] at e3 ⊢
    exact ⟨a, b, e2, e3⟩
  · rw [List.getElem?_append_right (by omega)] at e
    cases hx : i - (T.ahdI 0 t).length with
    | zero => rw [hx] at e; simp at e
    | succ j => rw [hx] at e; simp at e
def fls (t : T) (ds : List Int) : List Int := 0 :: isort (innerD t ds)
/-- whether a house stands in a slice -/
def stands (t : T) (ds : List Int) (l h : Nat) : Bool := decide (ds.getD h 0 ≤ (fls t ds).getD l 0) && (match t.ahead.getD h none with
  | none => true
  | some p => decide ((fls t ds).getD l 0 < ds.getD p 0))
def standL (t : T) (ds : List Int) (l n : Nat) : List (Nat × Nat) := ((List.range n).filter (stands t ds l)).map fun h => (h, l)
def standTo (t : T) (ds : List Int) (n : Nat) : List (Nat × Nat) := (List.range n).flatMap fun l => standL t ds l t.cnt
/-- all stays, as they are numbered: a house, a slice -/
def standing (t : T) (ds : List Int) : List (Nat × Nat) := standTo t ds (fls t ds).length
def pix (t : T) (ds : List Int) (h l : Nat) : Nat := (standing t ds).idxOf (h, l)
/-- straight under -/
def undr (t : T) (ds : List Int) (h l : Nat) : List Nat :=
  if ds.getD h 0 < (fls t ds).getD l 0 then [pix t ds h (l - 1)]
  else if isStr (t.nodes.getD h .non) = true then [] else [pix t ds (chA t h) (l - 1), pix t ds (chB t h) (l - 1)]
def besd (t : T) (ds : List Int) (h l : Nat) : List Nat := (((standing t ds).zipIdx).filter fun p => decide (p.1.2 = l) && !decide (p.1.1 = h)).map (·.2)
structure Dts (t : T) (ds : List Int) : Prop where
  len : ds.length = t.cnt
  lf : ∀ h, h < t.cnt → isStr (t.nodes.getD h .non) = true → ds.getD h 0 = 0
  inr : ∀ h ∈ t.innerIx, 1 ≤ ds.getD h 0 ∧ ds.getD h 0 ≤ 99 ∧ ds.getD (chA t h) 0 < ds.getD h 0 ∧ ds.getD (chB t h) 0 < ds.getD h 0
  nd : (innerD t ds).Nodup
theorem Dts.of {t : T} {ds : List Int} (h : isDt t ds = true) : Dts t ds := by
  unfold isDt at h
  simp only [Bool.and_eq_true, decide_eq_true_eq, List.all_eq_true, List.mem_range] at h
  obtain ⟨h1, h2, h3⟩ := h
  refine ⟨h1, fun k hk hs => ?_, fun k hk => ?_, h3⟩
  · have := h2 k hk
    have hn := t.nodes_len
    have hg : t.nodes[k]? = some (t.nodes.getD k .non) := by rw [List.getD_eq_getElem?_getD, List.getElem?_eq_getElem (by omega)]; rfl
    rcases t.node_cases hg with ⟨w, e⟩ | ⟨a, b, e, _, _⟩
    · rw [e] at this
      exact eq_of_beq (show (ds.getD k 0 == 0) = true from this)
    · rw [e] at hs; cases hs
  · obtain ⟨e, ha, hb, hc⟩ := T.kids hk
    have := h2 k hc
    rw [show t.nodes.getD k .non = .tup [natD (chA t k), natD (chB t k)] by rw [List.getD_eq_getElem?_getD, e]; rfl] at this
    have this : ((decide (1 ≤ ds.getD k 0) && decide (ds.getD k 0 ≤ 99)) && (decide (ds.getD ((chA t k : Nat) : Int).toNat 0 < ds.getD k 0) && decide (ds.getD ((chB t k : Nat) : Int).toNat 0 < ds.getD k 0))) = true := this
    simp only [Bool.and_eq_true, decide_eq_true_eq, Int.toNat_natCast] at this
    omega
theorem Dts.notIn {t : T} {h : Nat} (hh : h < t.cnt) : h ∈ t.innerIx ↔ isStr (t.nodes.getD h .non) = false := by
  unfold T.innerIx
  rw [List.mem_filter, List.mem_range]
  simp [hh]
end M
namespace Q
open PySem hiding Env
open L2 M
theorem ahead_at {t : T} {h : Nat} (hh : h < t.cnt) : atI (t.ahead.map oD) (h : Int) = some (oD (t.ahead.getD h none)) := by
  have := t.ahead_len
  rw [atI_map, atI_lt (by omega), show ((h : Nat) : Int).toNat = h by omega, List.getD_eq_getElem?_getD, List.getElem?_eq_getElem (by omega)]; rfl
end Q
namespace Q
open PySem hiding Env
open L2 M
theorem rg1_nat {S : Store} (n : Nat) (h : n < 2 ^ 60) : rg1 [.v (.int (n : Int))] S = .ok ⟨rangeD 0 n, []⟩ S := by rw [rg1_int (by omega) (by omega), Int.toNat_natCast]
theorem trim_nil {m : Env} {U : Store} {f : Env → Store → OutS} (h : U ≠ []) : trim [] m U f = f (m.map (keepE 0)) [] := by
  have := trim_app (S := []) (T := []) (t := U) (m2 := m) (f := f) (.refl _) h
  simpa using this
end Q
namespace M
open PySem PySem.Spec L2
open PyProof.Rows hiding St
theorem ahead_lt {t : T} {h p : Nat} (e : t.ahead.getD h none = some p) : h < p ∧ p < t.cnt ∧ p ∈ t.innerIx ∧ (h = chA t p ∨ h = chB t p) := by
  have hc : t.ahead[h]? = some (some p) := by
    rw [List.getD_eq_getElem?_getD] at e
    cases q : t.ahead[h]? with
    | none => rw [q] at e; cases e
    | some o => rw [q] at e; simpa using e
  obtain ⟨a, b, e2, e3⟩ := T.ahead_par hc
  have hp := (List.getElem?_eq_some_iff.mp e2).1
  rw [t.nodes_len] at hp
  have hs : isStr (t.nodes.getD p .non) = false := by rw [List.getD_eq_getElem?_getD, e2]; rfl
  have hm := (Dts.notIn hp).mpr hs
  obtain ⟨k1, k2, k3, k4⟩ := T.kids hm
  rw [k1] at e2
  simp only [Option.some.injEq, D.tup.injEq, List.cons.injEq, and_true, natD, D.int.injEq] at e2
  refine ⟨?_, hp, hm, ?_⟩ <;> omega
end M
namespace Q
open PySem hiding Env
open L2 M
end Q
namespace M
open PySem PySem.Spec L2
open PyProof.Rows hiding St
def Nic : Nat → D → Prop
  | _, .int _ => True
  | _, .str w => strOkB w = true
  | k + 1, .tup ds => ∀ d ∈ ds, Nic k d
  | k + 1, .lst ds => ∀ d ∈ ds, Nic k d
  | _, _ => False
theorem nics_py {k : Nat} {ds : List D} (ih : ∀ d, Nic k d → ∃ p, d.py = some p ∧ PyData.canLay0 p = true ∧ PyData.depth p ≤ k) (h : ∀ d ∈ ds, Nic k d) : ∃ ps, D.pys ds = some ps ∧ PyData.canLayAll0 ps = true ∧ PyData.depthAll ps ≤ k := by
  induction ds with
  | nil => exact ⟨[], rfl, by simp [PyData.canLayAll0], by simp [PyData.depthAll]⟩
  | cons d ds ih2 =>
    obtain ⟨p, e1, e2, e3⟩ := ih d (h d (by simp))
    obtain ⟨ps, f1, f2, f3⟩ := ih2 fun x hx => h x (by simp [hx])
    refine ⟨p :: ps, by simp [D.pys, e1, f1], by simp [PyData.canLayAll0, e2, f2], ?_⟩
    simp only [PyData.depthAll]; omega
theorem nic_py : ∀ (k : Nat) (d : D), Nic k d → ∃ p, d.py = some p ∧ PyData.canLay0 p = true ∧ PyData.depth p ≤ k
  | k, .int i, _ => ⟨.int i, rfl, by simp [PyData.canLay0], by simp [PyData.depth]⟩
  | k, .str w, h => ⟨.str w, rfl, by
      have h : strOkB w = true := by cases k <;> exact h
      have : PyData.strOk w = true := h
      simp [PyData.canLay0, this], by simp [PyData.depth]⟩
  | k + 1, .tup ds, h => by
    obtain ⟨ps, f1, f2, f3⟩ := nics_py (nic_py k) (h : ∀ d ∈ ds, Nic k d)
    refine ⟨.tuple ps, by simp [D.py, f1], by simp [PyData.canLay0, f2], ?_⟩
    simp only [PyData.depth]; omega
  | k + 1, .lst ds, h => by
    obtain ⟨ps, f1, f2, f3⟩ := nics_py (nic_py k) (h : ∀ d ∈ ds, Nic k d)
    refine ⟨.list ps, by simp [D.py, f1], by simp [PyData.canLay0, f2], ?_⟩
    simp only [PyData.depth]; omega
  | 0, .tup _, h => h.elim
  | 0, .lst _, h => h.elim
  | 0, .non, h | _ + 1, .non, h => h.elim
  | 0, .bl _, h | _ + 1, .bl _, h => h.elim
  | 0, .ty _, h | _ + 1, .ty _, h => h.elim
  | 0, .kl _, h | _ + 1, .kl _, h => h.elim
  | 0, .dct _ _, h | _ + 1, .dct _ _, h => h.elim
  | 0, .txt, h | _ + 1, .txt, h => h.elim
  | 0, .kt _, h | _ + 1, .kt _, h => h.elim
theorem nics_eqv {k : Nat} (ih : ∀ d e p q, Nic k d → Nic k e → d.py = some p → e.py = some q → (PyData.eqv p q = true ↔ d = e)) : ∀ (ds es : List D) (ps qs : List PyData), (∀ d ∈ ds, Nic k d) → (∀ d ∈ es, Nic k d) → D.pys ds = some ps → D.pys es = some qs → (PyData.eqvAll ps qs = true ↔ ds = es) := by
  have cons_ : ∀ (d : D) (ds : List D) (ps : List PyData), D.pys (d :: ds) = some ps → ∃ p qs, ps = p :: qs ∧ d.py = some p ∧ D.pys ds = some qs := by
    intro d ds ps h
    simp only [D.pys, Option.bind_eq_some_iff] at h
    obtain ⟨p, e1, qs, e2, e3⟩ := h
    cases e3
    exact ⟨p, qs, rfl, e1, e2⟩
  intro ds
  induction ds with
  | nil =>
    intro es ps qs _ _ h1 h2
    cases h1
    cases es with
    | nil => cases h2; simp [PyData.eqvAll]
    | cons e es => obtain ⟨p, qs', rfl, _, _⟩ := cons_ _ _ _ h2; simp [PyData.eqvAll]
  | cons d ds ih2 =>
    intro es ps qs n1 n2 h1 h2
    obtain ⟨p, ps', rfl, a1, a2⟩ := cons_ _ _ _ h1
    cases es with
    | nil => cases h2; simp [PyData.eqvAll]
    | cons e es =>
      obtain ⟨q, qs', rfl, b1, b2⟩ := cons_ _ _ _ h2
      have q1 := ih d e p q (n1 d (by simp)) (n2 e (by simp)) a1 b1
      have q2 := ih2 es ps' qs' (fun x hx => n1 x (by simp [hx])) (fun x hx => n2 x (by simp [hx])) a2 b2
      rw [PyData.eqvAll, Bool.and_eq_true, q1, q2, List.cons.injEq]
theorem nic_eqv : ∀ (k : Nat) (d e : D) (p q : PyData), Nic k d → Nic k e → d.py = some p → e.py = some q → (PyData.eqv p q = true ↔ d = e) := by
  intro k
  induction k with
  | zero =>
    intro d e p q h1 h2 e1 e2
    cases d <;> first | exact h1.elim | skip
    all_goals (cases e <;> first | exact h2.elim | skip)
    all_goals (cases e1; cases e2; simp [PyData.eqv])
  | succ k ih =>
    intro d e p q h1 h2 e1 e2
    cases d <;> first | exact h1.elim | skip
    all_goals (cases e <;> first | exact h2.elim | skip)
    all_goals (simp only [D.py, Option.map_eq_some_iff, Option.some.injEq] at e1 e2)
    all_goals (try obtain ⟨ps, e1, rfl⟩ := e1)
    all_goals (try obtain ⟨qs, e2, rfl⟩ := e2)
    all_goals (try subst e1)
    all_goals (try subst e2)
    all_goals first
      | (rw [PyData.eqv, nics_eqv ih _ _ _ _ h1 h2 e1 e2]; simp only [D.tup.injEq, D.lst.injEq])
      | simp [PyData.eqv]
theorem nic_pyS {k : Nat} {d : D} (h : Nic k d) (hk : k ≤ 60) : ∃ p, d.pyS = some p ∧ d.py = some p := by
  obtain ⟨p, e1, e2, e3⟩ := nic_py k d h
  refine ⟨p, ?_, e1⟩
  have : SeqAt.shaped p = true := by simp only [SeqAt.shaped, e2, Bool.true_and, decide_eq_true_eq]; omega
  simp [D.pyS, e1, this]
theorem opEq_nic {S : Store} {d e : D} (k : Nat) (h1 : Nic k d) (h2 : Nic k e) (hk : k ≤ 60) {b : Bool} (hb : b = true ↔ d = e) : opEq (.v d) (.v e) S = .ok (.v (.bl b)) S ∧ opNe (.v d) (.v e) S = .ok (.v (.bl (!b))) S := by
  obtain ⟨p, e1, e2⟩ := nic_pyS h1 hk
  obtain ⟨q, f1, f2⟩ := nic_pyS h2 hk
  have : PyData.eqv p q = b := Bool.eq_iff_iff.mpr ((nic_eqv k d e p q h1 h2 e2 f2).trans hb.symm)
  exact ⟨by rw [opEq_py e1 f1, this], by rw [opNe_py e1 f1, this]⟩
structure Sty where
  nm : D
  lv : Nat
  un : List Nat
  bs : List Nat
def Sty.d (s : Sty) : D := .tup [s.nm, natD s.lv, .tup (s.un.map natD), .tup (s.bs.map natD)]
abbrev Gr := List Sty
def grD (g : Gr) : D := .tup (g.map Sty.d)
def atG (g : Gr) (i : Nat) : Sty := g.getD i ⟨.int 0, 0, [], []⟩
structure Grd (g : Gr) : Prop where
  ne : g ≠ []
  len : g.length ≤ 1000
  nm : ∀ s ∈ g, (∃ w, GoodW w ∧ s.nm = .str w) ∨ ∃ n : Nat, s.nm = natD n
  un : ∀ i, i < g.length → (∀ u ∈ (atG g i).un, u < i) ∧ (atG g i).un.length ≤ 2 ∧ (∀ b ∈ (atG g i).bs, b < g.length) ∧ (atG g i).bs.length ≤ 1000
  top : ∀ i, i + 1 < g.length → ∃ j, j < g.length ∧ i ∈ (atG g j).un
/-- a word may be found at a stay -/
def fndN (g : Gr) (s : Nat) (w : Str) : Bool := (atG g s).un.isEmpty && (match (atG g s).nm with | .str x => decide (x = w) | _ => false)
/-- a path -/
def pathN (g : Gr) (p : List Nat) : Bool := !p.isEmpty && p.all (fun i => decide (i < g.length)) && (p.zip p.tail).all fun q => decide (q.2 ∈ (atG g q.1).un)
/-- a deed at a stay -/
def domN (g : Gr) (s : Nat) (d : Str) (a b : Nat) : Bool :=
  if d = "doubled" then decide (a = s) && decide (b = s)
  else if d = "split" then decide ((atG g s).un.length = 2) && (decide ([a, b] = (atG g s).un) || decide ([a, b] = (atG g s).un.reverse))
  else decide (d = "over") && ((decide (a = s) && decide (b ∈ (atG g s).bs)) || (decide (b = s) && decide (a ∈ (atG g s).bs)))
/-- ways -/
inductive Wy
  | one (p : List Nat) (d : Str)
  | two (p : List Nat) (d : Str) (a b : Wy)
def Wy.p : Wy → List Nat
  | .one p _ => p
  | .two p _ _ _ => p
def Wy.dd : Wy → Str
  | .one _ d => d
  | .two _ d _ _ => d
def pD (p : List Nat) : D := .tup (p.map natD)
def Wy.d : Wy → D
  | .one p d => .tup [pD p, .str d]
  | .two p d a b => .tup [pD p, .str d, a.d, b.d]
def wayN (g : Gr) : T → Wy → Bool
  | .leaf w, .one p d => pathN g p && (decide (d = "found") && fndN g (p.getLastD 0) w)
  | .node l r, .two p d a b => pathN g p && (wayN g l a && (wayN g r b && domN g (p.getLastD 0) d (a.p.headD 0) (b.p.headD 0)))
  | _, _ => false
def T.subs : T → List T
  | .leaf w => [.leaf w]
  | .node l r => l.subs ++ r.subs ++ [.node l r]
def Sane : Nat → D → Prop
  | 0, d => notTy d = true
  | k + 1, d => notTy d = true ∧ (∀ ds, d = .tup ds → ds.length ≤ 100000 ∧ ∀ x ∈ ds, Sane k x) ∧ ∀ w, d = .str w → strOkB w = true
theorem Sane.ty {k : Nat} {d : D} (h : Sane k d) : notTy d = true := by cases k with
  | zero => exact h
  | succ k => exact h.1
def natsOf : List D → Option (List Nat)
  | [] => some []
  | .int i :: ds => if 0 ≤ i then (natsOf ds).map (i.toNat :: ·) else none
  | _ => none
theorem pathN_inv {g : Gr} {p : List Nat} (h : pathN g p = true) : p ≠ [] ∧ (∀ x ∈ p, x < g.length) ∧ ∀ q ∈ p.zip p.tail, q.2 ∈ (atG g q.1).un := by
  unfold pathN at h
  simp only [Bool.and_eq_true, Bool.not_eq_true', List.isEmpty_eq_false_iff, List.all_eq_true, decide_eq_true_eq] at h
  exact ⟨h.1.1, h.1.2, h.2⟩
def headD (d : D) : Nat := match d with
  | .tup (.tup ds :: _) => ((natsOf ds).getD []).headD 0
  | _ => 0
end M
namespace Q
open PySem hiding Env
open L2 M
theorem opEq_strs {S : Store} {x y : Str} (hx : strOkB x = true) (hy : strOkB y = true) : opEq (.v (.str x)) (.v (.str y)) S = .ok (.v (.bl (decide (x = y)))) S :=
  (opEq_nic 0 (show Nic 0 (.str x) from hx) (show Nic 0 (.str y) from hy) (by decide) (by rw [decide_eq_true_eq]; exact ⟨fun h => by rw [h], fun h => by cases h; rfl⟩)).1
end Q
namespace Q
open PySem hiding Env
open L2 M
end Q
namespace M
open PySem PySem.Spec L2
open PyProof.Rows hiding St
def ddsN (g : Gr) (s : Nat) : List (Str × Nat × Nat) :=
  (("doubled" : Str), s, s) :: ((if (atG g s).un.length = 2 then [(("split" : Str), (atG g s).un.getD 0 0, (atG g s).un.getD 1 0), (("split" : Str), (atG g s).un.getD 1 0, (atG g s).un.getD 0 0)] else []) ++ (atG g s).bs.flatMap fun o => [(("over" : Str), s, o), (("over" : Str), o, s)])
def dd3 (x : Str × Nat × Nat) : D := .tup [.str x.1, natD x.2.1, natD x.2.2]
/-- one row of what can be -/
def crow (g : Gr) (dn : Nat → Bool) : Nat → List Bool
  | 0 => []
  | n + 1 => crow g dn n ++ [(atG g n).un.any (fun u => (crow g dn n).getD u false) || dn n]
def can1 (g : Gr) (dn : Nat → Bool) (s : Nat) : Bool := (crow g dn (s + 1)).getD s false
def dnN (g : Gr) : T → Nat → List (Str × Nat × Nat)
  | .leaf w, s => if fndN g s w = true then [(("found" : Str), s, s)] else []
  | .node l r, s => (ddsN g s).filter fun x => can1 g (fun s => !(dnN g l s).isEmpty) x.2.1 && can1 g (fun s => !(dnN g r s).isEmpty) x.2.2
def canN (g : Gr) (t : T) (s : Nat) : Bool := can1 g (fun s => !(dnN g t s).isEmpty) s
/-- all words are found -/
def Fnd (g : Gr) (ws : List Str) : Prop := ∀ w ∈ ws, ∃ s, s < g.length ∧ fndN g s w = true
/-- paths -/
def stepsN (g : Gr) (p : List Nat) : Prop := ∀ q ∈ p.zip p.tail, q.2 ∈ (atG g q.1).un
theorem pathN_iff {g : Gr} {p : List Nat} : pathN g p = true ↔ p ≠ [] ∧ (∀ x ∈ p, x < g.length) ∧ stepsN g p := by
  refine ⟨pathN_inv, fun ⟨h1, h2, h3⟩ => ?_⟩
  unfold pathN
  simp only [Bool.and_eq_true, Bool.not_eq_true', List.isEmpty_eq_false_iff, List.all_eq_true, decide_eq_true_eq]
  exact ⟨⟨h1, h2⟩, h3⟩
theorem set_same {S : Store} {n : Nat} {o : MO} (h : S[n]? = some o) : S.set n o = S := by
  refine List.ext_getElem? fun j => ?_
  by_cases hj : n = j
  · subst hj; rw [get_set h, h]
  · rw [get_ne hj]
end M
namespace Q
open PySem hiding Env
open L2 M
/-- a path from a stay on, at whose end a deed leads on -/
structure Pth (g : Gr) (s : T) (x : Nat) (p : List Nat) : Prop where
  path : pathN g p = true
  hd : p.headD 0 = x
  can : canN g s (p.getLastD 0) = true
  len : p.length ≤ 2 * g.length
theorem Pth.ne {g : Gr} {s : T} {x : Nat} {p : List Nat} (h : Pth g s x p) : p ≠ [] := (pathN_inv h.path).1
theorem Pth.one {g : Gr} {s : T} {x : Nat} (hx : x < g.length) (hc : canN g s x = true) : Pth g s x [x] := ⟨pathN_iff.mpr ⟨by simp, by simpa using hx, fun q hq => by simp at hq⟩, rfl, hc, by simp; omega⟩
theorem steps_len {g : Gr} (G : Grd g) : ∀ {p : List Nat}, (∀ x ∈ p, x < g.length) → stepsN g p → p.length + p.getLastD 0 ≤ p.headD 0 + 1
  | [], _, _ => by simp
  | [a], _, _ => by simp; omega
  | a :: b :: p, h1, h2 => by
    have ih := steps_len G (p := b :: p) (fun x hx => h1 x (by simp [hx])) (fun q hq => h2 q (by simp only [List.tail_cons, List.zip_cons_cons, List.mem_cons]; exact .inr hq))
    have hb : b ∈ (atG g a).un := h2 (a, b) (by simp)
    have := (G.un a (h1 a (by simp))).1 b hb
    have e : (a :: b :: p).getLastD 0 = (b :: p).getLastD 0 := by simp
    rw [e]
    simp only [List.length_cons, List.headD_cons] at *
    omega
end Q
namespace M
open PySem PySem.Spec L2
open PyProof.Rows hiding St
def nmOf (t : T) (h : Nat) : D := if isStr (t.nodes.getD h .non) = true then t.nodes.getD h .non else natD h
def grO (t : T) : Gr := (List.range t.cnt).map fun h => ⟨nmOf t h, 0, if isStr (t.nodes.getD h .non) = true then [] else [chA t h, chB t h], t.aside h⟩
def grW (t : T) (ds : List Int) : Gr := (standing t ds).map fun p => ⟨nmOf t p.1, p.2, undr t ds p.1 p.2, besd t ds p.1 p.2⟩
theorem ahead_some {t : T} {i : Nat} (h : i + 1 < t.cnt) : ∃ p, t.ahead[i]? = some (some p) := by
  have hl := t.ahdI_len 0
  rw [T.ahead, List.getElem?_append_left (by omega)]
  have hi : i < (T.ahdI 0 t).length := by omega
  obtain ⟨j, a, b, e, _⟩ := T.ahd_par t 0 i _ (List.getElem?_eq_getElem hi)
  exact ⟨0 + j, by rw [List.getElem?_eq_getElem hi, e]⟩
/-- the ground of a great tree, without dates or with drawn ones -/
structure GrOf (t : T) (g : Gr) : Prop where
  ok : Grd g
  fnd : ∀ ws : List Str, (∀ w ∈ ws, w ∈ t.ls) → Fnd g ws
  of : g = grO t ∨ ∃ ds, isDt t ds = true ∧ g = grW t ds
end M
namespace M
open PySem hiding Env
open L2
end M
namespace Q
open PySem hiding Env
open L2 M
/-- a small tree's leaves are the great one's -/
structure Sml (t s : T) : Prop where
  ok : s.Ok
  len : s.ls.length ≤ 10
  sub : ∀ w ∈ s.ls, w ∈ t.ls
theorem Sml.depth {t s : T} (h : Sml t s) : s.depth ≤ 10 := by have := s.depth_lt; have := h.len; omega
end Q
namespace Q
open PySem hiding Env
open L2 M
end Q
namespace M
open PySem PySem.Spec L2
open PyProof.Rows hiding St
def Wy.Ok : Wy → Prop
  | .one p d => p.length ≤ 100000 ∧ strOkB d = true
  | .two p d a b => p.length ≤ 100000 ∧ strOkB d = true ∧ a.Ok ∧ b.Ok
theorem domN_str {g : Gr} {s a b : Nat} {d : Str} (h : domN g s d a b = true) : d = "doubled" ∨ d = "split" ∨ d = "over" := by
  unfold domN at h
  split at h
  · exact .inl ‹_›
  · split at h
    · exact .inr (.inl ‹_›)
    · rw [Bool.and_eq_true, decide_eq_true_eq] at h
      exact .inr (.inr h.1)
theorem path_len {g : Gr} (G : Grd g) {p : List Nat} (h : pathN g p = true) : p.length ≤ 1000 := by
  obtain ⟨h1, h2, h3⟩ := pathN_inv h
  have := Q.steps_len G h2 h3
  have hh : p.headD 0 < g.length := by
    cases p with
    | nil => exact absurd rfl h1
    | cons a p => exact h2 a (by simp)
  have := G.len
  omega
theorem way_inv2 {g : Gr} {t : T} {p : List Nat} {d : Str} {a b : Wy} (h : wayN g t (.two p d a b) = true) : ∃ l r, t = .node l r ∧ pathN g p = true ∧ wayN g l a = true ∧ wayN g r b = true ∧ domN g (p.getLastD 0) d (a.p.headD 0) (b.p.headD 0) = true := by
  cases t with
  | leaf w => cases h
  | node l r =>
    have h : (pathN g p && (wayN g l a && (wayN g r b && domN g (p.getLastD 0) d (a.p.headD 0) (b.p.headD 0)))) = true := h
    simp only [Bool.and_eq_true] at h
    exact ⟨l, r, rfl, h.1, h.2.1, h.2.2.1, h.2.2.2⟩
theorem way_inv1 {g : Gr} {t : T} {p : List Nat} {d : Str} (h : wayN g t (.one p d) = true) : ∃ w, t = .leaf w ∧ pathN g p = true ∧ d = "found" ∧ fndN g (p.getLastD 0) w = true := by
  cases t with
  | node l r => cases h
  | leaf w =>
    have h : (pathN g p && (decide (d = "found") && fndN g (p.getLastD 0) w)) = true := h
    simp only [Bool.and_eq_true, decide_eq_true_eq] at h
    exact ⟨w, rfl, h.1, h.2.1, h.2.2⟩
end M
namespace Q
open PySem hiding Env
open L2 M
end Q
namespace Q
open PySem hiding Env
open L2 M
end Q
namespace M
open PySem PySem.Spec L2
open PyProof.Rows hiding St
def Wy.all : Wy → List Wy
  | .one p d => [.one p d]
  | .two p d a b => a.all ++ b.all ++ [.two p d a b]
def Wy.hgt : Wy → Nat
  | .one _ _ => 0
  | .two _ _ a b => max a.hgt b.hgt + 1
def Wy.plc (y : Wy) : List (Nat × Str) := y.all.map fun w => (w.p.getLastD 0, w.dd)
theorem way_shape {g : Gr} : ∀ {t : T} {y : Wy}, wayN g t y = true → y.all.length = t.cnt ∧ y.hgt = t.depth
  | t, .one p d, h => by obtain ⟨w, rfl, _⟩ := way_inv1 h; exact ⟨rfl, rfl⟩
  | t, .two p d a b, h => by
    obtain ⟨l, r, rfl, _, h1, h2, _⟩ := way_inv2 h
    obtain ⟨a1, a2⟩ := way_shape h1
    obtain ⟨b1, b2⟩ := way_shape h2
    refine ⟨by simp [Wy.all, T.cnt, a1, b1]; omega, by simp [Wy.hgt, T.depth, a2, b2]⟩
def Wy.kids : Wy → List Wy
  | .one _ _ => []
  | .two _ _ a b => [a, b]
theorem way_all {g : Gr} : ∀ {t : T} {y : Wy}, wayN g t y = true → ∀ w ∈ y.all, pathN g w.p = true ∧ strOkB w.dd = true
  | t, .one p d, h, w, hw => by
    obtain ⟨x, rfl, h1, rfl, _⟩ := way_inv1 h
    simp [Wy.all] at hw; subst hw
    exact ⟨h1, by show strOkB "found" = true; decide +kernel⟩
  | t, .two p d a b, h, w, hw => by
    obtain ⟨l, r, rfl, h1, h2, h3, h4⟩ := way_inv2 h
    simp only [Wy.all, List.mem_append, List.mem_singleton] at hw
    rcases hw with (hw | hw) | rfl
    · exact way_all h2 w hw
    · exact way_all h3 w hw
    · exact ⟨h1, by show strOkB d = true; rcases domN_str h4 with rfl | rfl | rfl <;> decide +kernel⟩
end M
namespace Q
open PySem hiding Env
open L2 M
end Q
namespace Q
open PySem hiding Env
open L2 M
end Q
namespace M
open PySem PySem.Spec L2
open PyProof.Rows hiding St
end M
namespace Q
open PySem hiding Env
open L2 M
end Q
namespace Q
open PySem hiding Env
open L2 M
end Q
namespace M
open PySem PySem.Spec L2
open PyProof.Rows hiding St
/-- what is asked of a way's nodes -/
structure Wys (y : Wy) : Prop where
  hgt : y.hgt < 70
  len : y.all.length ≤ 100000
  ne : ∀ w ∈ y.all, w.p ≠ [] ∧ strOkB w.dd = true
theorem Wys.of {g : Gr} {t : T} {y : Wy} (h : wayN g t y = true) (hz : t.ls.length ≤ 10) : Wys y := by
  obtain ⟨h1, h2⟩ := way_shape h
  have := t.depth_lt
  have := t.cnt_ls
  exact ⟨by omega, by omega, fun w hw => ⟨(pathN_inv (way_all h w hw).1).1, (way_all h w hw).2⟩⟩
theorem Wys.l {p : List Nat} {d : Str} {a b : Wy} (h : Wys (.two p d a b)) : Wys a := by
  have h1 := h.hgt; have h2 := h.len
  simp only [Wy.hgt] at h1
  simp only [Wy.all, List.length_append] at h2
  exact ⟨by omega, by omega, fun w hw => h.ne w (by simp [Wy.all, hw])⟩
theorem Wys.r {p : List Nat} {d : Str} {a b : Wy} (h : Wys (.two p d a b)) : Wys b := by
  have h1 := h.hgt; have h2 := h.len
  simp only [Wy.hgt] at h1
  simp only [Wy.all, List.length_append] at h2
  exact ⟨by omega, by omega, fun w hw => h.ne w (by simp [Wy.all, hw])⟩
theorem Wys.str {y : Wy} (h : Wys y) : ∀ x ∈ y.plc, strOkB x.2 = true := fun x hx => by
  obtain ⟨w, hw, rfl⟩ := List.mem_map.mp hx
  exact (h.ne w hw).2
end M
namespace Q
open PySem hiding Env
open L2 M
end Q
namespace Q
open PySem hiding Env
open L2 M
end Q
namespace M
open PySem PySem.Spec L2
open PyProof.Rows hiding St
def lossN (g : Gr) (p : List Nat) : Nat := (p.dropLast.filter fun s => decide ((atG g s).un.length = 2)).length
end M
namespace Q
open PySem hiding Env
open L2 M
end Q
namespace Q
open PySem hiding Env
open L2 M
noncomputable def m_is_great (g_is_tree : List R → Store → Out R) (g_leaves : List R → Store → Out R) : MS :=
  (mSeq (mIfS (mtNot (mtTru (mCall g_is_tree (mCons (mVar 0) mNil)))) (mRet (mC (.bl false))) mSkip)
  (mSeq (mSet 1 (mCall g_leaves (mCons (mVar 0) mNil)))
  (mRet (mBin opEq (mUn opLenSetT (mVar 1)) (mCall biLen (mCons (mVar 1) mNil))))))
noncomputable def M_is_great : List R → Store → Out R := mDefV 2 (m_is_great (R_is_tree 70) M_leaves)
end Q
namespace M
open PySem PySem.Spec L2
end M
namespace Q
open PySem hiding Env
open L2 M
section
variable {S : Store} {n : Nat} {K : Out R → Prop}
theorem hand_hw {ns : List Int} {k : Int} (h0 : 0 ≤ k) (h1 : k < 2 ^ 20) (c : ∀ h : Hnd, K (.ok (.ref S.length) (S ++ [h.c]))) : wE (M_hand [.v (.kl (ns.map D.int)), .v (.int k)] S) K := by
  obtain ⟨h, e⟩ := hand_spec (S := S) (ns := ns) h0 h1
  exact wE_eq e (c h)
theorem great_hw {h : Hnd} {q : Int} (e : S[n]? = some h.c) (q0 : 1 ≤ q) (q1 : q ≤ 26) (c : ∀ (t : T) (h' : Hnd), t.Ok → t.ls.Nodup → (t.ls.length : Int) ≤ max 5 q → K (.ok (.v t.d) (S.set n h'.c))) : wE (M_great [.ref n, .v (.int q)] S) K := by
  obtain ⟨h', t, e1, p0, p1, p2⟩ := great_spec e q0 q1
  exact wE_eq e1 (c t h' p0 p1 p2)
end
theorem is_great_T {t : T} {S : Store} (ht : t.Ok) (hd : t.depth < 70) (hz : t.ls.length ≤ 2000) : M_is_great [.v t.d] S = .ok (.v (.bl (decide t.ls.Nodup))) S := by
  refine eq_wE ?_
  have e : ((newN t.ls t.ls.length : Nat) : Int) = (t.ls.length : Int) ↔ t.ls.Nodup := by
    have := newN_nodup t.ls t.ls.length (Nat.le_refl _)
    rw [List.take_length] at this
    rw [← this]; omega
  have eb : ((newN t.ls t.ls.length : Int) == (t.ls.length : Int)) = decide t.ls.Nodup := by
    by_cases z : t.ls.Nodup
    · rw [decide_eq_true z]; exact beq_iff_eq.mpr (e.mpr z)
    · rw [decide_eq_false z]; exact beq_eq_false_iff_ne.mpr fun y => z (e.mp y)
  simp_arith [M_is_great, m_is_great, is_tree_T hd ht S, leaves_spec (t := t) (S := S) hd (by omega), opLenSetT_strs t.ls hz S, List.length_map, eb]
end Q
namespace Q
open PySem hiding Env
open L2 M
end Q
namespace M
open PySem PySem.Spec L2
open PyProof.Rows hiding St
end M
namespace Q
open PySem hiding Env
open L2 M
end Q
namespace Q
open PySem hiding Env
open L2 M
end Q
namespace Q
open PySem hiding Env
open L2 M
noncomputable def m_Signs___init__ : MS :=
  (mSeq (mSetFld "Signs" "whole_text" (mVar 0) (mVar 1))
  (mSetFld "Signs" "sign_at" (mVar 0) (mC (.int 0))))
noncomputable def M_Signs___init__ : List R → Store → Out R := mDef 2 (m_Signs___init__)
noncomputable def m_signs_of_4 (g_Signs___init__ : List R → Store → Out R) : MS :=
  (mSeq (mIfS (mtNot (mtTru (mCall biIsi (mCons (mVar 0) (mCons (mC (.ty "str")) mNil))))) mNoS mSkip)
  (mRet (mMake "Signs" g_Signs___init__ (mCons (mVar 0) mNil))))
noncomputable def M_signs_of_4 : List R → Store → Out R := mDef 1 (m_signs_of_4 M_Signs___init__)
noncomputable def m_Signs_need_2 : MS :=
  (mIfS (mtNot (mtTru (mVar 1))) mNoS mSkip)
noncomputable def M_Signs_need_2 : List R → Store → Out R := mDefV 2 (m_Signs_need_2)
noncomputable def m_Signs_sign : MS :=
  (mRet (mPop (mSl (mFld "Signs" "whole_text" (mVar 0)) (moS (mFld "Signs" "sign_at" (mVar 0))) (moS (mBin opAdd (mFld "Signs" "sign_at" (mVar 0)) (mC (.int 1)))))))
noncomputable def M_Signs_sign : List R → Store → Out R := mDefV 1 (m_Signs_sign)
noncomputable def m_Signs_take_sign_2 (g_Signs_need_2 : List R → Store → Out R) (g_Signs_sign : List R → Store → Out R) : MS :=
  (mSeq (mDrop (mMethC "Signs" "need" g_Signs_need_2 (mVar 0) (mCons (mBin opEq (mMethC "Signs" "sign" g_Signs_sign (mVar 0) mNil) (mVar 1)) mNil)))
  (mAugFld "Signs" "sign_at" (mVar 0) opIadd (mC (.int 1))))
noncomputable def M_Signs_take_sign_2 : List R → Store → Out R := mDefV 2 (m_Signs_take_sign_2 M_Signs_need_2 M_Signs_sign)
noncomputable def b1_Signs_take_some_2 : MS :=
  (mAugFld "Signs" "sign_at" (mVar 0) opIadd (mC (.int 1)))
noncomputable def m_Signs_take_some_2 (g_Signs_sign : List R → Store → Out R) (g_Signs_need_2 : List R → Store → Out R) : MS :=
  (mSeq (mSet 3 (mFld "Signs" "sign_at" (mVar 0)))
  (mSeq (mWhile (mtAnd (mtB (mBin opNe (mMethC "Signs" "sign" g_Signs_sign (mVar 0) mNil) (mC (.str "")))) (mtAnd (mtB (mBin opIn (mMethC "Signs" "sign" g_Signs_sign (mVar 0) mNil) (mVar 1))) (mtB (mBin opLt (mBin opSub (mFld "Signs" "sign_at" (mVar 0)) (mVar 3)) (mVar 2))))) b1_Signs_take_some_2)
  (mSeq (mDrop (mMethC "Signs" "need" g_Signs_need_2 (mVar 0) (mCons (mBin opGt (mFld "Signs" "sign_at" (mVar 0)) (mVar 3)) mNil)))
  (mRet (mPop (mSl (mFld "Signs" "whole_text" (mVar 0)) (moS (mVar 3)) (moS (mFld "Signs" "sign_at" (mVar 0)))))))))
noncomputable def M_Signs_take_some_2 : List R → Store → Out R := mDefV 4 (m_Signs_take_some_2 M_Signs_sign M_Signs_need_2)
noncomputable def m_tree_taken_3 (g_Signs_sign : List R → Store → Out R) (g_Signs_take_some_2 : List R → Store → Out R) (g_Signs_take_sign_2 : List R → Store → Out R) (g_tree_taken_3 : List R → Store → Out R) : MS :=
  (mSeq (mIfS (mtB (mBin opNe (mMethC "Signs" "sign" g_Signs_sign (mVar 0) mNil) (mC (.str "(")))) (mRet (mMethC "Signs" "take_some" g_Signs_take_some_2 (mVar 0) (mCons (mC (.str "abcdefghijklmnopqrstuvwxyz")) (mCons (mC (.int 8)) mNil)))) mSkip)
  (mSeq (mDrop (mMethC "Signs" "take_sign" g_Signs_take_sign_2 (mVar 0) (mCons (mC (.str "(")) mNil)))
  (mSeq (mSet 1 (mCall g_tree_taken_3 (mCons (mVar 0) mNil)))
  (mSeq (mDrop (mMethC "Signs" "take_sign" g_Signs_take_sign_2 (mVar 0) (mCons (mC (.str ",")) mNil)))
  (mSeq (mSet 2 (mCall g_tree_taken_3 (mCons (mVar 0) mNil)))
  (mSeq (mDrop (mMethC "Signs" "take_sign" g_Signs_take_sign_2 (mVar 0) (mCons (mC (.str ")")) mNil)))
  (mRet (mTup (mCons (mVar 1) (mCons (mVar 2) mNil))))))))))
noncomputable def R_tree_taken_3 : Nat → List R → Store → Out R
  | 0 => fun _ _ => .no
  | k + 1 => mDefV 3 (m_tree_taken_3 M_Signs_sign M_Signs_take_some_2 M_Signs_take_sign_2 (R_tree_taken_3 k))
noncomputable def m_Signs_take_end_2 (g_Signs_need_2 : List R → Store → Out R) (g_Signs_sign : List R → Store → Out R) : MS :=
  (mDrop (mMethC "Signs" "need" g_Signs_need_2 (mVar 0) (mCons (mBin opEq (mMethC "Signs" "sign" g_Signs_sign (mVar 0) mNil) (mC (.str ""))) mNil)))
noncomputable def M_Signs_take_end_2 : List R → Store → Out R := mDefV 1 (m_Signs_take_end_2 M_Signs_need_2 M_Signs_sign)
noncomputable def m_read_tree_4 (g_signs_of_4 : List R → Store → Out R) (g_tree_taken_3 : List R → Store → Out R) (g_Signs_take_end_2 : List R → Store → Out R) : MS :=
  (mSeq (mSet 1 (mCall g_signs_of_4 (mCons (mVar 0) mNil)))
  (mSeq (mSet 2 (mCall g_tree_taken_3 (mCons (mVar 1) mNil)))
  (mSeq (mDrop (mMethC "Signs" "take_end" g_Signs_take_end_2 (mVar 1) mNil))
  (mRet (mVar 2)))))
noncomputable def M_read_tree_4 : List R → Store → Out R := mDefV 3 (m_read_tree_4 M_signs_of_4 (R_tree_taken_3 70) M_Signs_take_end_2)
end Q
namespace Q
open PySem hiding Env
open L2 M
def fs_Signs1 (r0 : R) : List (Str × R) := [(("whole_text" : Str), r0)]
def fs_Signs (r0 r1 : R) : List (Str × R) := [(("whole_text" : Str), r0), (("sign_at" : Str), r1)]
theorem fs_Signs1_put_sign_at (r0 x : R) : putR' ("sign_at" : Str) x (fs_Signs1 r0) = fs_Signs r0 x := rfl
theorem fs_Signs_at_whole_text (r0 r1 : R) : (fs_Signs r0 r1).lookup ("whole_text" : Str) = some r0 := rfl
theorem fs_Signs_at_sign_at (r0 r1 : R) : (fs_Signs r0 r1).lookup ("sign_at" : Str) = some r1 := rfl
theorem fs_Signs_put_sign_at (r0 r1 x : R) : putR' ("sign_at" : Str) x (fs_Signs r0 r1) = fs_Signs r0 x := rfl
theorem fs_Signs_no_sign (r0 r1 : R) : (fs_Signs r0 r1).lookup ("sign" : Str) = none := rfl
theorem fs_Signs_no_need (r0 r1 : R) : (fs_Signs r0 r1).lookup ("need" : Str) = none := rfl
theorem fs_Signs_no_take_sign (r0 r1 : R) : (fs_Signs r0 r1).lookup ("take_sign" : Str) = none := rfl
theorem fs_Signs_no_take_some (r0 r1 : R) : (fs_Signs r0 r1).lookup ("take_some" : Str) = none := rfl
theorem fs_Signs_no_take_end (r0 r1 : R) : (fs_Signs r0 r1).lookup ("take_end" : Str) = none := rfl
theorem fs_Signs0_put (x : R) : putR' ("whole_text" : Str) x [] = fs_Signs1 x := rfl
end Q
namespace M
open PySem PySem.Spec L2
open PyProof.Rows hiding St
theorem cutD_ij {α : Type} (xs : List α) {i j : Nat} (h : i ≤ j) : cutD xs (some (i : Int)) (some (j : Int)) = (xs.drop i).take (j - i) := by
  unfold cutD
  have e1 : HT.sIx xs.length 0 (some (i : Int)) = min i xs.length := by
    have : ¬ (i : Int) < 0 := by omega
    simp [HT.sIx, this]
  have e2 : HT.sIx xs.length xs.length (some (j : Int)) = min j xs.length := by
    have : ¬ (j : Int) < 0 := by omega
    simp [HT.sIx, this]
  rw [e1, e2]
  rcases Nat.le_total xs.length i with q | q
  · rw [Nat.min_eq_right q, Nat.min_eq_right (by omega), List.drop_of_length_le (Nat.le_refl _), List.drop_of_length_le q]; simp
  · rw [Nat.min_eq_left q]
    rcases Nat.le_total j xs.length with q2 | q2
    · rw [Nat.min_eq_left q2]
    · rw [Nat.min_eq_right q2, List.take_of_length_le (by rw [List.length_drop]; exact Nat.le_refl _), List.take_of_length_le (by rw [List.length_drop]; omega)]
/-- the sign at a place, none behind the last -/
def sgn (C : List Nat) (i : Nat) : Str := ⟨((C.drop i).take 1).toArray⟩
theorem sgn_some {C : List Nat} {i c : Nat} (h : C[i]? = some c) : sgn C i = ⟨#[c]⟩ := by
  obtain ⟨hl, hv⟩ := List.getElem?_eq_some_iff.mp h
  unfold sgn
  rw [List.drop_eq_getElem_cons hl, hv]; rfl
theorem sgn_none {C : List Nat} {i : Nat} (h : C[i]? = none) : sgn C i = ⟨#[]⟩ := by
  unfold sgn
  rw [List.drop_of_length_le (List.getElem?_eq_none_iff.mp h)]; rfl
theorem drop_get {C D : List Nat} {i c : Nat} (h : C.drop i = c :: D) : C[i]? = some c ∧ C.drop (i + 1) = D := by
  constructor
  · have := congrArg (fun L : List Nat => L[0]?) h
    simpa using this
  · rw [← List.drop_drop, h]; rfl
theorem drop_add {C w r : List Nat} {i : Nat} (h : C.drop i = w ++ r) : C.drop (i + w.length) = r := by
  rw [← List.drop_drop, h, List.drop_left]
end M
namespace Q
open PySem hiding Env
open L2 M
/-- the signs of a text, looked at from a place on -/
def sgC (x : Str) (i : Nat) : MO := .ins "Signs" (fs_Signs (.v (.str x)) (.v (.int (i : Int))))
theorem sgC_lo (x : Str) (i k : Nat) : (sgC x i).lo k := by
  intro p hp
  simp only [fs_Signs, List.mem_cons, List.not_mem_nil, or_false] at hp
  rcases hp with rfl | rfl <;> trivial
section
variable {S : Store} {n i : Nat} {x : Str}
theorem sign_spec (e : S[n]? = some (sgC x i)) (hx : x.length ≤ 100000) : M_Signs_sign [.ref n] S = .ok (.v (.str (sgn x.cps.toList i))) S := by
  have hs : opSl (.v (.str x)) (some (i : Int)) (some ((i : Int) + 1)) S = .ok (.v (.str (sgn x.cps.toList i))) S := by
    show (if x.length ≤ sizeLine then Out.ok (R.v (.str (cutS x (some (i : Int)) (some ((i : Int) + 1))))) S else .no) = _
    rw [if_pos (sz_of (by omega))]
    congr 3
    refine str_ext ?_
    rw [cutS_cps, show ((i : Int) + 1) = ((i + 1 : Nat) : Int) by omega, cutD_ij _ (by omega)]
    unfold sgn
    simp
  refine eq_wE ?_
  simp_arith [M_Signs_sign, m_Signs_sign, fldR_get e (fs_Signs_at_whole_text ..), fldR_get e (fs_Signs_at_sign_at ..), hs]
theorem need_spec : M_Signs_need_2 [.ref n, .v (.bl true)] S = .ok (.v .non) S := by
  refine eq_wE ?_
  simp_arith [M_Signs_need_2, m_Signs_need_2]
theorem set_sg (e : S[n]? = some (sgC x i)) (j : Nat) : cut S (S.set n (sgC x j)) = S.set n (sgC x j) := cut_U ((Upd.refl S).set (sgC_lo x j _))
theorem put_at (e : S[n]? = some (sgC x i)) (m : Env) (j : Nat) : setFldR "Signs" "sign_at" m (.ref n) (.v (.int (j : Int))) S = .nx m (S.set n (sgC x j)) := by
  rw [setFldR_get e (by decide : 2 < 1000), fs_Signs_put_sign_at]; rfl
theorem take_sign_spec {c : Nat} (e : S[n]? = some (sgC x i)) (hx : x.length ≤ 100000) (hc : x.cps.toList[i]? = some c) (hk : c < 1000) : M_Signs_take_sign_2 [.ref n, .v (.str ⟨#[c]⟩)] S = .ok (.v .non) (S.set n (sgC x (i + 1))) := by
  have ok : strOkB ⟨#[c]⟩ = true := by simp [strOkB]; omega
  have hs := sign_spec e hx
  rw [sgn_some hc] at hs
  have ep : ((i : Int) + 1) = ((i + 1 : Nat) : Int) := by omega
  refine eq_wE ?_
  simp_arith [M_Signs_take_sign_2, m_Signs_take_sign_2, methR_get e (fs_Signs_no_need ..), methR_get e (fs_Signs_no_sign ..), hs, opEq_strs ok ok, decide_true, need_spec, fldR_get e (fs_Signs_at_sign_at ..), ep, put_at e, set_sg e]
theorem take_end_spec (e : S[n]? = some (sgC x i)) (hx : x.length ≤ 100000) (hc : x.cps.toList[i]? = none) : M_Signs_take_end_2 [.ref n] S = .ok (.v .non) S := by
  have ok : strOkB ⟨#[]⟩ = true := by decide +kernel
  have hs := sign_spec e hx
  rw [sgn_none hc] at hs
  have e0 : (Str.ofString "") = ⟨#[]⟩ := by decide +kernel
  refine eq_wE ?_
  simp_arith [M_Signs_take_end_2, m_Signs_take_end_2, methR_get e (fs_Signs_no_need ..), methR_get e (fs_Signs_no_sign ..), hs, e0, opEq_strs ok ok, decide_true, need_spec]
/-- a word is taken as far as letters stand -/
theorem take_some_spec {w : Str} {r : List Nat} (e : S[n]? = some (sgC x i)) (hx : x.length ≤ 100000) (hw : GoodW w) (hd : x.cps.toList.drop i = w.cps.toList ++ r) (hr : ∀ c ∈ r.head?, c < 97) (hok : ∀ c ∈ x.cps.toList, c < 1000) :
    M_Signs_take_some_2 [.ref n, .v (.str "abcdefghijklmnopqrstuvwxyz"), .v (.int 8)] S = .ok (.v (.str w)) (S.set n (sgC x (i + w.length))) := by
  have hn := lt_of_get e
  have wl : w.cps.toList.length = w.length := Array.length_toList
  have e0 : (Str.ofString "") = ⟨#[]⟩ := by decide +kernel
  have ok0 : strOkB ⟨#[]⟩ = true := by decide +kernel
  refine eq_wE ?_
  simp_arith [M_Signs_take_some_2, m_Signs_take_some_2, fldR_get e (fs_Signs_at_sign_at ..)]
  refine while_wp [] w.length (fun j ws U => ws = [] ∧ j ≤ w.length ∧ U = S.set n (sgC x (i + (w.length - j)))) (by have := hw.2.1; omega) rfl ⟨rfl, Nat.le_refl _, by rw [Nat.sub_self, Nat.add_zero, set_same e]⟩ ?_
  rintro j ws U ⟨rfl, hj, rfl⟩
  have eU : (S.set n (sgC x (i + (w.length - j))))[n]? = some (sgC x (i + (w.length - j))) := get_setlt hn _
  have sU : ∀ c, (S.set n (sgC x (i + (w.length - j)))).set n c = S.set n c := fun c => by rw [List.set_set]
  have cU : cut S (S.set n (sgC x (i + (w.length - j)))) = S.set n (sgC x (i + (w.length - j))) := cut_U ((Upd.refl S).set (sgC_lo x _ _))
  generalize hUU : S.set n (sgC x (i + (w.length - j))) = U at eU sU cU
  have hs := sign_spec eU hx
  have hget : ∀ k, x.cps.toList[i + k]? = (w.cps.toList ++ r)[k]? := fun k => by rw [← hd, List.getElem?_drop]
  simp_arith [methR_get eU (fs_Signs_no_sign ..), hs]
  cases j with
  | zero =>
    rw [Nat.sub_zero] at hs eU
    have hat : x.cps.toList[i + w.length]? = r[0]? := by rw [hget, List.getElem?_append_right (by omega), wl, Nat.sub_self]
    have need : decide (((i : Int)) < ((i + w.length : Nat) : Int)) = true := decide_eq_true (by have := hw.1; omega)
    have fin : opSl (.v (.str x)) (some (i : Int)) (some ((i + w.length : Nat) : Int)) U = .ok (.v (.str w)) U := by
      show (if x.length ≤ sizeLine then Out.ok (R.v (.str (cutS x (some (i : Int)) (some ((i + w.length : Nat) : Int))))) U else .no) = _
      rw [if_pos (sz_of (by omega))]
      congr 3
      refine str_ext ?_
      rw [cutS_cps, cutD_ij _ (by omega), hd, show i + w.length - i = w.cps.toList.length by omega, List.take_left]
    have hz : i + (w.length - 0) = i + w.length := by omega
    rw [hz]
    cases r with
    | nil =>
      have hnone : x.cps.toList[i + w.length]? = none := hat
      simp_arith [sgn_none hnone, e0, (opEq_nic (S := U) (b := true) 0 (show Nic 0 (.str ⟨#[]⟩) from ok0) (show Nic 0 (.str ⟨#[]⟩) from ok0) (by decide) (by simp)).2]
      refine ⟨_, _, rfl, ?_⟩
      simp_arith [methR_get eU (fs_Signs_no_need ..), fldR_get eU (fs_Signs_at_sign_at ..), fldR_get eU (fs_Signs_at_whole_text ..), need, need_spec, fin, cU]
      rw [← hUU]; rfl
    | cons c r =>
      have hsome : x.cps.toList[i + w.length]? = some c := hat
      have hc97 : c < 97 := hr c (by simp)
      have ne1 : opNe (.v (.str ⟨#[c]⟩)) (.v (.str ⟨#[]⟩)) U = .ok (.v (.bl true)) U := (opEq_nic (S := U) (b := false) 0 (show Nic 0 (.str ⟨#[c]⟩) from by simp [Nic, strOkB]; omega) (show Nic 0 (.str ⟨#[]⟩) from ok0) (by decide) (by simp)).2
      have in1 : opIn (.v (.str ⟨#[c]⟩)) (.v (.str "abcdefghijklmnopqrstuvwxyz")) U = .ok (.v (.bl false)) U := by
        rw [opIn_sign, letters_in, decide_eq_false (by omega)]; rfl
      simp_arith [sgn_some hsome, e0, ne1, methR_get eU (fs_Signs_no_sign ..), hs, in1]
      refine ⟨_, _, rfl, ?_⟩
      simp_arith [methR_get eU (fs_Signs_no_need ..), fldR_get eU (fs_Signs_at_sign_at ..), fldR_get eU (fs_Signs_at_whole_text ..), need, need_spec, fin, cU]
      rw [← hUU]; rfl
  | succ j =>
    have hlt : w.length - (j + 1) < w.cps.toList.length := by omega
    have hc : x.cps.toList[i + (w.length - (j + 1))]? = some w.cps.toList[w.length - (j + 1)] := by rw [hget, List.getElem?_append_left hlt, List.getElem?_eq_getElem hlt]
    have hcw := hw.2.2 _ (List.getElem_mem hlt)
    generalize w.cps.toList[w.length - (j + 1)] = c at hc hcw
    have ne1 : opNe (.v (.str ⟨#[c]⟩)) (.v (.str ⟨#[]⟩)) U = .ok (.v (.bl true)) U := (opEq_nic (S := U) (b := false) 0 (show Nic 0 (.str ⟨#[c]⟩) from by simp [Nic, strOkB]; omega) (show Nic 0 (.str ⟨#[]⟩) from ok0) (by decide) (by simp)).2
    have in1 : opIn (.v (.str ⟨#[c]⟩)) (.v (.str "abcdefghijklmnopqrstuvwxyz")) U = .ok (.v (.bl true)) U := by
      rw [opIn_sign, letters_in, decide_eq_true (show 97 ≤ c by omega), decide_eq_true (show c ≤ 122 by omega)]; rfl
    have lt1 : decide (((i + (w.length - (j + 1)) : Nat) : Int) - (i : Int) < 8) = true := decide_eq_true (by have := hw.2.1; omega)
    have ep : (((i + (w.length - (j + 1)) : Nat) : Int) + 1) = ((i + (w.length - j) : Nat) : Int) := by omega
    rw [sgn_some hc] at hs
    simp_arith [sgn_some hc, e0, ne1, methR_get eU (fs_Signs_no_sign ..), hs, in1, fldR_get eU (fs_Signs_at_sign_at ..), lt1]
    refine ⟨_, _, rfl, ?_⟩
    simp_arith [b1_Signs_take_some_2, fldR_get eU (fs_Signs_at_sign_at ..), ep, put_at eU, sU]
    exact ⟨j, by omega, by omega, rfl⟩
theorem taken_spec {x : Str} (hx : x.length ≤ 100000) (hok : ∀ c ∈ x.cps.toList, c < 1000) : ∀ (k : Nat) (t : T) (S : Store) (n i : Nat) (r : List Nat), t.depth < k → t.Ok → S[n]? = some (sgC x i) → x.cps.toList.drop i = t.signs ++ r → (∀ c ∈ r.head?, c < 97) →
    R_tree_taken_3 k [.ref n] S = .ok (.v t.d) (S.set n (sgC x (i + t.signs.length)))
  | 0, _, _, _, _, _, h, _, _, _, _ => by omega
  | k + 1, .leaf w, S, n, i, r, hd, ho, e, hdr, hr => by
    have hw := ho w (by simp [T.ls])
    have hsg : (T.leaf w).signs = w.cps.toList := rfl
    rw [hsg] at hdr ⊢
    have wl : w.cps.toList.length = w.length := Array.length_toList
    obtain ⟨c, cs, hcs⟩ : ∃ c cs, w.cps.toList = c :: cs := by
      cases h : w.cps.toList with
      | nil => rw [h] at wl; have := hw.1; simp at wl; omega
      | cons c cs => exact ⟨c, cs, rfl⟩
    have hc97 := hw.2.2 c (by rw [hcs]; simp)
    have hg := (drop_get (C := x.cps.toList) (i := i) (c := c) (D := cs ++ r) (by rw [hdr, hcs]; rfl)).1
    have hs := sign_spec e hx
    rw [sgn_some hg] at hs
    have ep : (Str.ofString "(") = ⟨#[40]⟩ := by decide +kernel
    have ne1 : opNe (.v (.str ⟨#[c]⟩)) (.v (.str ⟨#[40]⟩)) S = .ok (.v (.bl true)) S := (opEq_nic (S := S) (b := false) 0 (show Nic 0 (.str ⟨#[c]⟩) from by simp [Nic, strOkB]; omega) (show Nic 0 (.str ⟨#[40]⟩) from (by decide +kernel : strOkB ⟨#[40]⟩ = true)) (by decide) (by simp; omega)).2
    refine eq_wE ?_
    simp_arith [R_tree_taken_3, m_tree_taken_3, methR_get e (fs_Signs_no_sign ..), hs, ep, ne1, methR_get e (fs_Signs_no_take_some ..), take_some_spec e hx hw hdr hr hok, wl, set_sg e]
    rfl
  | k + 1, .node a b, S, n, i, r, hd, ho, e, hdr, hr => by
    have hn := lt_of_get e
    rw [T.signs_node] at hdr ⊢
    simp only [T.depth] at hd
    have ep : (Str.ofString "(") = ⟨#[40]⟩ := by decide +kernel
    have ek : (Str.ofString ",") = ⟨#[44]⟩ := by decide +kernel
    have eq : (Str.ofString ")") = ⟨#[41]⟩ := by decide +kernel
    simp only [List.cons_append, List.append_assoc, List.nil_append] at hdr
    obtain ⟨g1, d1⟩ := drop_get hdr
    have d2 := drop_add d1
    obtain ⟨g3, d3⟩ := drop_get d2
    have d4 := drop_add d3
    obtain ⟨g5, d5⟩ := drop_get d4
    have hs := sign_spec e hx
    rw [sgn_some g1] at hs
    have ne1 : opNe (.v (.str ⟨#[40]⟩)) (.v (.str ⟨#[40]⟩)) S = .ok (.v (.bl false)) S := (opEq_nic (S := S) (b := true) 0 (show Nic 0 (.str ⟨#[40]⟩) from (by decide +kernel : strOkB ⟨#[40]⟩ = true)) (show Nic 0 (.str ⟨#[40]⟩) from (by decide +kernel : strOkB ⟨#[40]⟩ = true)) (by decide) (by simp)).2
    have ss : ∀ c c' : MO, (S.set n c).set n c' = S.set n c' := fun c c' => List.set_set ..
    have e1 : ∀ j, (S.set n (sgC x j))[n]? = some (sgC x j) := fun j => get_setlt hn _
    have t1 := take_sign_spec e hx g1 (by decide)
    have a1 := taken_spec hx hok k a (S.set n (sgC x (i + 1))) n (i + 1) _ (by omega) ho.l (e1 _) d1 (by simp)
    rw [ss] at a1
    have t2 := take_sign_spec (e1 (i + 1 + a.signs.length)) hx g3 (by decide)
    rw [ss] at t2
    have a2 := taken_spec hx hok k b (S.set n (sgC x (i + 1 + a.signs.length + 1))) n (i + 1 + a.signs.length + 1) _ (by omega) ho.r (e1 _) d3 (by simp)
    rw [ss] at a2
    have t3 := take_sign_spec (e1 (i + 1 + a.signs.length + 1 + b.signs.length)) hx g5 (by decide)
    rw [ss] at t3
    have fin : i + (40 :: (a.signs ++ 44 :: (b.signs ++ [41]))).length = i + 1 + a.signs.length + 1 + b.signs.length + 1 := by simp; omega
    rw [fin]
    refine eq_wE ?_
    simp_arith [R_tree_taken_3, m_tree_taken_3, methR_get e (fs_Signs_no_sign ..), hs, ep, ek, eq, ne1, methR_get e (fs_Signs_no_take_sign ..), t1, a1, methR_get (e1 _) (fs_Signs_no_take_sign ..), t2, a2, t3, set_sg e]
    rfl
theorem read_tree_spec {t : T} {S : Store} (ho : t.Ok) (hd : t.depth < 70) (hl : t.ls.length ≤ 1000) : M_read_tree_4 [.v (.str t.text)] S = .ok (.v t.d) S := by
  have hlen := t.text_len ho
  have hx : t.text.length ≤ 100000 := by omega
  have hok : ∀ c ∈ t.text.cps.toList, c < 1000 := fun c hc => by have := t.text_codes ho c hc; omega
  have hsl : t.signs.length = t.text.cps.toList.length := rfl
  have g0 : ∀ c, (S ++ [c])[S.length]? = some c := fun c => get_len S c []
  have sf : ∀ c c' : MO, (S ++ [c]).set S.length c' = S ++ [c'] := fun c c' => set_len S c c' []
  have init : M_Signs___init__ [.ref S.length, .v (.str t.text)] (S ++ [.ins "Signs" []]) = .ok (.v .non) (S ++ [sgC t.text 0]) := by
    refine eq_wE ?_
    simp_arith [M_Signs___init__, m_Signs___init__, setFldR_L0 _ _ _ _ [] _ _ (show ([] : List (Str × R)).length < 1000 by decide), fs_Signs0_put, setFldR_L0 _ _ _ _ (fs_Signs1 _) _ _ (show 1 < 1000 by decide), fs_Signs1_put_sign_at]
    rfl
  have tk := taken_spec hx hok 70 t (S ++ [sgC t.text 0]) S.length 0 [] hd ho (g0 _) (by rw [List.drop_zero, List.append_nil]; rfl) (by simp)
  rw [sf] at tk
  have te := take_end_spec (g0 (sgC t.text (0 + t.signs.length))) hx (by rw [Nat.zero_add, List.getElem?_eq_none_iff]; omega)
  rw [Nat.zero_add] at tk te
  have me : ∀ k : Out R, methR "Signs" "take_end" (.ref S.length) (S ++ [sgC t.text t.signs.length]) k = k := fun k => methR_get (g0 (sgC t.text t.signs.length)) (fs_Signs_no_take_end ..)
  refine eq_wE ?_
  simp_arith [M_read_tree_4, m_read_tree_4, M_signs_of_4, m_signs_of_4, isi_str_str, init, tk, me, te, cut_app']
end
end Q
namespace Q
open PySem hiding Env
open L2 M
end Q
namespace M
open PySem PySem.Spec L2
open PyProof.Rows hiding St
end M
namespace Q
open PySem hiding Env
open L2 M
section
variable {S : Store} {n : Nat} {h : Hnd} {K : Out R → Prop}
/-- a tree of which all is well -/
structure Fine (t : T) : Prop where
  ok : t.Ok
  dep : t.depth < 60
  len : t.ls.length ≤ 100
end
end Q
namespace Q
open PySem hiding Env
open L2 M
end Q
namespace Q
open PySem hiding Env
open L2 M
end Q
namespace Q
open PySem hiding Env
open L2 M
noncomputable def m_plain_4 (g_text_of : List R → Store → Out R) (g_plain_4 : List R → Store → Out R) : MS :=
  (mSeq (mIfS (mtNot (mtTru (mCall biIsi (mCons (mVar 0) (mCons (mC (.ty "tuple")) mNil))))) (mRet (mVar 0)) mSkip)
  (mRet (mCall biTuple (mCons (mPop (mSortK g_text_of (mLstV (mCons (mCall g_plain_4 (mCons (mBin opIx (mVar 0) (mC (.int 0))) mNil)) (mCons (mCall g_plain_4 (mCons (mBin opIx (mVar 0) (mC (.int 1))) mNil)) mNil))))) mNil))))
noncomputable def R_plain_4 : Nat → List R → Store → Out R
  | 0 => fun _ _ => .no
  | k + 1 => mDefV 1 (m_plain_4 (R_text_of 70) (R_plain_4 k))
noncomputable def m_alike_2 (g_plain_4 : List R → Store → Out R) : MS :=
  (mRet (mBin opEq (mCall g_plain_4 (mCons (mVar 0) mNil)) (mCall g_plain_4 (mCons (mVar 1) mNil))))
noncomputable def M_alike_2 : List R → Store → Out R := mDefV 2 (m_alike_2 (R_plain_4 70))
end Q
namespace M
open PySem PySem.Spec L2
open PyProof.Rows hiding St
def plainN : T → T
  | .leaf w => .leaf w
  | .node l r => if strLt (plainN r).text (plainN l).text then .node (plainN r) (plainN l) else .node (plainN l) (plainN r)
theorem strLt_asymm {x y : Str} (h : strLt x y = true) : strLt y x = false := by
  unfold strLt at h ⊢
  exact decide_eq_false (List.lt_asymm (of_decide_eq_true h))
theorem strLt_total {x y : Str} (h : strLt x y = false) (h' : strLt y x = false) : x = y := by
  unfold strLt at h h'
  have h1 := of_decide_eq_false h
  have h2 := of_decide_eq_false h'
  have : x.cps.toList = y.cps.toList := List.le_antisymm (List.not_lt.mp h2) (List.not_lt.mp h1)
  obtain ⟨⟨a⟩⟩ := x
  obtain ⟨⟨b⟩⟩ := y
  have e : a = b := this
  subst e; rfl
theorem plain_ls : ∀ t : T, (plainN t).ls.Perm t.ls
  | .leaf w => .refl _
  | .node l r => by
    have h1 := plain_ls l; have h2 := plain_ls r
    unfold plainN
    split
    · simp only [T.ls]; exact (h2.append h1).trans List.perm_append_comm
    · simp only [T.ls]; exact h1.append h2
theorem plain_depth : ∀ t : T, (plainN t).depth = t.depth
  | .leaf w => rfl
  | .node l r => by
    have h1 := plain_depth l; have h2 := plain_depth r
    unfold plainN
    split <;> simp only [T.depth] <;> omega
theorem plain_ok {t : T} (h : t.Ok) : (plainN t).Ok := fun w hw => h w ((plain_ls t).mem_iff.mp hw)
theorem plainN_node (l r : T) : plainN (.node l r) = if strLt (plainN r).text (plainN l).text then .node (plainN r) (plainN l) else .node (plainN l) (plainN r) := rfl
theorem plain_idem : ∀ t : T, plainN (plainN t) = plainN t
  | .leaf w => rfl
  | .node l r => by
    have h1 := plain_idem l; have h2 := plain_idem r
    rw [plainN_node]
    cases h : strLt (plainN r).text (plainN l).text with
    | true =>
      simp only [if_true]
      rw [plainN_node, h1, h2, strLt_asymm h]; simp
    | false =>
      simp only [Bool.false_eq_true, if_false]
      rw [plainN_node, h1, h2, h]; simp
end M
namespace Q
open PySem hiding Env
open L2 M
theorem d_injT : ∀ t u : T, t.d = u.d → t = u := by
  intro t
  induction t with
  | leaf w => intro u h; cases u with
    | leaf v => simp only [T.d] at h; injection h with h; rw [h]
    | node l r => simp only [T.d] at h; cases h
  | node l r ih1 ih2 => intro u h; cases u with
    | leaf v => simp only [T.d] at h; cases h
    | node a b =>
      simp only [T.d] at h
      injection h with h
      injection h with h h'
      injection h' with h' _
      rw [ih1 a h, ih2 b h']
theorem Fine.l {l r : T} (h : Fine (.node l r)) : Fine l := ⟨h.ok.l, by have := h.dep; simp only [T.depth] at this; omega, by have := h.len; simp only [T.ls, List.length_append] at this; omega⟩
theorem Fine.r {l r : T} (h : Fine (.node l r)) : Fine r := ⟨h.ok.r, by have := h.dep; simp only [T.depth] at this; omega, by have := h.len; simp only [T.ls, List.length_append] at this; omega⟩
theorem Fine.plain {t : T} (h : Fine t) : Fine (plainN t) := ⟨plain_ok h.ok, by rw [plain_depth]; exact h.dep, by rw [(plain_ls t).length_eq]; exact h.len⟩
theorem plain_spec : ∀ (k : Nat) (t : T) (S : Store), t.depth < k → Fine t → R_plain_4 k [.v t.d] S = .ok (.v (plainN t).d) S
  | 0, t, S, h, _ => by omega
  | k + 1, .leaf w, S, h, _ => by
    refine eq_wE ?_
    simp_arith [R_plain_4, m_plain_4, T.d, isi_str_tup, plainN]
  | k + 1, .node l r, S, h, hf => by
    simp only [T.depth] at h
    have e1 := fun S => plain_spec k l S (by omega) hf.l
    have e2 := fun S => plain_spec k r S (by omega) hf.r
    have t1 := fun S => text_of_spec 70 (plainN l) S (by rw [plain_depth]; have := hf.l.dep; omega) hf.l.plain.ok (by have := hf.l.plain.len; omega)
    have t2 := fun S => text_of_spec 70 (plainN r) S (by rw [plain_depth]; have := hf.r.dep; omega) hf.r.plain.ok (by have := hf.r.plain.len; omega)
    refine eq_wE ?_
    have sk : ∀ m : Env, m[0]? = some (some (.v (.tup [l.d, r.d]))) → mSortK (R_text_of 70) (mLstV (mCons (mCall (R_plain_4 k) (mCons (mBin opIx (mVar 0) (mC (.v (.int 0)))) mNil)) (mCons (mCall (R_plain_4 k) (mCons (mBin opIx (mVar 0) (mC (.v (.int 1)))) mNil)) mNil))) m S =
        .ok (.ref S.length) (S ++ [.lst (by2 ((.v (plainN l).d : R), (plainN l).text) (.v (plainN r).d, (plainN r).text))]) := fun m hm => by
      have i0 : ∀ S, opIx (.v (.tup [l.d, r.d])) (.v (.int 0)) S = .ok (.v l.d) S := fun S => opIx_tup (atI_0 _ _)
      have i1 : ∀ S, opIx (.v (.tup [l.d, r.d])) (.v (.int 1)) S = .ok (.v r.d) S := fun S => opIx_tup (atI_1 _ _ _)
      unfold mSortK
      simp only [mLstV_eq, mCons_eq, mCall_eq, mBin_eq, mVar_eq, mC_eq, mNil_eq, hm, Out.bind_ok, i0, i1, e1, e2, frzO_2, List.length_cons, List.length_nil, Nat.zero_add, Nat.reduceAdd, sz2, if_true, lstOf, List.map_cons, List.map_nil, t1, t2]
    simp_arith [R_plain_4, m_plain_4, T.d, isi_tup_tup]
    refine wE_eq (sk _ rfl) ?_
    rw [plainN_node]
    unfold by2
    cases strLt (plainN r).text (plainN l).text with
    | true =>
      have pv : popV S (.ref S.length) (S ++ [.lst [R.v (plainN r).d, R.v (plainN l).d]]) = .ok (.v (.lst [(plainN r).d, (plainN l).d])) S := popV_newU [(plainN r).d, (plainN l).d] (.refl S)
      simp_arith [pv, T.d]
    | false =>
      have pv : popV S (.ref S.length) (S ++ [.lst [R.v (plainN l).d, R.v (plainN r).d]]) = .ok (.v (.lst [(plainN l).d, (plainN r).d])) S := popV_newU [(plainN l).d, (plainN r).d] (.refl S)
      simp_arith [pv, T.d]
theorem nic_T : ∀ (t : T) (k : Nat), t.depth ≤ k → t.Ok → Nic k t.d
  | .leaf w, k, _, ho => by
    have g := GoodW.okB (ho w (by simp [T.ls]))
    cases k <;> exact g
  | .node l r, 0, h, _ => by simp only [T.depth] at h; omega
  | .node l r, k + 1, h, ho => by
    simp only [T.depth] at h
    intro d hd
    simp only [List.mem_cons, List.not_mem_nil, or_false] at hd
    rcases hd with rfl | rfl
    · exact nic_T l k (by omega) ho.l
    · exact nic_T r k (by omega) ho.r
theorem opEq_T {t u : T} (h1 : Fine t) (h2 : Fine u) (S : Store) : opEq (.v t.d) (.v u.d) S = .ok (.v (.bl (decide (t = u)))) S :=
  (opEq_nic (b := decide (t = u)) 60 (nic_T t 60 (by have := h1.dep; omega) h1.ok) (nic_T u 60 (by have := h2.dep; omega) h2.ok) (by decide) (by rw [decide_eq_true_eq]; exact ⟨fun e => by rw [e], d_injT t u⟩)).1
theorem alike_spec {t u : T} {S : Store} (h1 : Fine t) (h2 : Fine u) : M_alike_2 [.v t.d, .v u.d] S = .ok (.v (.bl (decide (plainN t = plainN u)))) S := by
  refine eq_wE ?_
  simp_arith [M_alike_2, m_alike_2, fun S => plain_spec 70 t S (by have := h1.dep; omega) h1, fun S => plain_spec 70 u S (by have := h2.dep; omega) h2, opEq_T h1.plain h2.plain]
end Q
namespace Q
open PySem hiding Env
open L2 M
end Q
namespace M
open PySem PySem.Spec L2
open PyProof.Rows hiding St
/-- all nodes: paths not empty, short -/
def Wy.Vd (y : Wy) : Prop := ∀ w ∈ y.all, w.p ≠ [] ∧ w.p.length ≤ 1000 ∧ strOkB w.dd = true
theorem Vd.of {g : Gr} (G : Grd g) {t : T} {y : Wy} (h : wayN g t y = true) : y.Vd := fun w hw => by
  obtain ⟨h1, h2⟩ := way_all h w hw
  exact ⟨(pathN_inv h1).1, path_len G h1, h2⟩
theorem Vd.l {p : List Nat} {d : Str} {a b : Wy} (h : (Wy.two p d a b).Vd) : a.Vd := fun w hw => h w (by simp [Wy.all, hw])
theorem Vd.r {p : List Nat} {d : Str} {a b : Wy} (h : (Wy.two p d a b).Vd) : b.Vd := fun w hw => h w (by simp [Wy.all, hw])
theorem Vd.self {y : Wy} (h : y.Vd) : y.p ≠ [] ∧ y.p.length ≤ 1000 ∧ strOkB y.dd = true := h y (by cases y <;> simp [Wy.all])
theorem Vd.ok : ∀ {y : Wy}, y.Vd → y.Ok
  | .one p d, h => ⟨by have := (Vd.self h).2.1; simp only [Wy.p] at this; omega, (Vd.self h).2.2⟩
  | .two p d a b, h => ⟨by have := (Vd.self h).2.1; simp only [Wy.p] at this; omega, (Vd.self h).2.2, Vd.ok (Vd.l h), Vd.ok (Vd.r h)⟩
end M
namespace Q
open PySem hiding Env
open L2 M
end Q
namespace M
open PySem hiding Env
open L2
end M
namespace M
open PySem PySem.Spec L2
open PyProof.Rows hiding St
def c3 (x y z : Int) : MO := .lst [.v (.int x), .v (.int y), .v (.int z)]
end M
namespace M
open PySem PySem.Spec L2
open PyProof.Rows hiding St
def Nix : Nat → D → Prop
  | _, .int _ => True
  | _, .non => True
  | _, .str w => strOkB w = true
  | k + 1, .tup ds => ∀ d ∈ ds, Nix k d
  | k + 1, .lst ds => ∀ d ∈ ds, Nix k d
  | _, _ => False
theorem nixs_py {k : Nat} {ds : List D} (ih : ∀ d, Nix k d → ∃ p, d.py = some p ∧ PyData.canLay0 p = true ∧ PyData.depth p ≤ k) (h : ∀ d ∈ ds, Nix k d) : ∃ ps, D.pys ds = some ps ∧ PyData.canLayAll0 ps = true ∧ PyData.depthAll ps ≤ k := by
  induction ds with
  | nil => exact ⟨[], rfl, by simp [PyData.canLayAll0], by simp [PyData.depthAll]⟩
  | cons d ds ih2 =>
    obtain ⟨p, e1, e2, e3⟩ := ih d (h d (by simp))
    obtain ⟨ps, f1, f2, f3⟩ := ih2 fun x hx => h x (by simp [hx])
    refine ⟨p :: ps, by simp [D.pys, e1, f1], by simp [PyData.canLayAll0, e2, f2], ?_⟩
    simp only [PyData.depthAll]; omega
theorem nix_py : ∀ (k : Nat) (d : D), Nix k d → ∃ p, d.py = some p ∧ PyData.canLay0 p = true ∧ PyData.depth p ≤ k
  | k, .int i, _ => ⟨.int i, rfl, by simp [PyData.canLay0], by simp [PyData.depth]⟩
  | k, .non, _ => ⟨.none, rfl, by simp [PyData.canLay0], by simp [PyData.depth]⟩
  | k, .str w, h => ⟨.str w, rfl, by
      have h : strOkB w = true := by cases k <;> exact h
      have : PyData.strOk w = true := h
      simp [PyData.canLay0, this], by simp [PyData.depth]⟩
  | k + 1, .tup ds, h => by
    obtain ⟨ps, f1, f2, f3⟩ := nixs_py (nix_py k) (h : ∀ d ∈ ds, Nix k d)
    refine ⟨.tuple ps, by simp [D.py, f1], by simp [PyData.canLay0, f2], ?_⟩
    simp only [PyData.depth]; omega
  | k + 1, .lst ds, h => by
    obtain ⟨ps, f1, f2, f3⟩ := nixs_py (nix_py k) (h : ∀ d ∈ ds, Nix k d)
    refine ⟨.list ps, by simp [D.py, f1], by simp [PyData.canLay0, f2], ?_⟩
    simp only [PyData.depth]; omega
  | 0, .tup _, h => h.elim
  | 0, .lst _, h => h.elim
  | 0, .bl _, h | _ + 1, .bl _, h => h.elim
  | 0, .ty _, h | _ + 1, .ty _, h => h.elim
  | 0, .kl _, h | _ + 1, .kl _, h => h.elim
  | 0, .dct _ _, h | _ + 1, .dct _ _, h => h.elim
  | 0, .txt, h | _ + 1, .txt, h => h.elim
  | 0, .kt _, h | _ + 1, .kt _, h => h.elim
theorem nixs_eqv {k : Nat} (ih : ∀ d e p q, Nix k d → Nix k e → d.py = some p → e.py = some q → (PyData.eqv p q = true ↔ d = e)) : ∀ (ds es : List D) (ps qs : List PyData), (∀ d ∈ ds, Nix k d) → (∀ d ∈ es, Nix k d) → D.pys ds = some ps → D.pys es = some qs → (PyData.eqvAll ps qs = true ↔ ds = es) := by
  have cons_ : ∀ (d : D) (ds : List D) (ps : List PyData), D.pys (d :: ds) = some ps → ∃ p qs, ps = p :: qs ∧ d.py = some p ∧ D.pys ds = some qs := by
    intro d ds ps h
    simp only [D.pys, Option.bind_eq_some_iff] at h
    obtain ⟨p, e1, qs, e2, e3⟩ := h
    cases e3
    exact ⟨p, qs, rfl, e1, e2⟩
  intro ds
  induction ds with
  | nil =>
    intro es ps qs _ _ h1 h2
    cases h1
    cases es with
    | nil => cases h2; simp [PyData.eqvAll]
    | cons e es => obtain ⟨p, qs', rfl, _, _⟩ := cons_ _ _ _ h2; simp [PyData.eqvAll]
  | cons d ds ih2 =>
    intro es ps qs n1 n2 h1 h2
    obtain ⟨p, ps', rfl, a1, a2⟩ := cons_ _ _ _ h1
    cases es with
    | nil => cases h2; simp [PyData.eqvAll]
    | cons e es =>
      obtain ⟨q, qs', rfl, b1, b2⟩ := cons_ _ _ _ h2
      have q1 := ih d e p q (n1 d (by simp)) (n2 e (by simp)) a1 b1
      have q2 := ih2 es ps' qs' (fun x hx => n1 x (by simp [hx])) (fun x hx => n2 x (by simp [hx])) a2 b2
      rw [PyData.eqvAll, Bool.and_eq_true, q1, q2, List.cons.injEq]
theorem nix_eqv : ∀ (k : Nat) (d e : D) (p q : PyData), Nix k d → Nix k e → d.py = some p → e.py = some q → (PyData.eqv p q = true ↔ d = e) := by
  intro k
  induction k with
  | zero =>
    intro d e p q h1 h2 e1 e2
    cases d <;> first | exact h1.elim | skip
    all_goals (cases e <;> first | exact h2.elim | skip)
    all_goals (cases e1; cases e2; simp [PyData.eqv])
  | succ k ih =>
    intro d e p q h1 h2 e1 e2
    cases d <;> first | exact h1.elim | skip
    all_goals (cases e <;> first | exact h2.elim | skip)
    all_goals (simp only [D.py, Option.map_eq_some_iff, Option.some.injEq] at e1 e2)
    all_goals (try obtain ⟨ps, e1, rfl⟩ := e1)
    all_goals (try obtain ⟨qs, e2, rfl⟩ := e2)
    all_goals (try subst e1)
    all_goals (try subst e2)
    all_goals first
      | (rw [PyData.eqv, nixs_eqv ih _ _ _ _ h1 h2 e1 e2]; simp only [D.tup.injEq, D.lst.injEq])
      | simp [PyData.eqv]
theorem nix_pyS {k : Nat} {d : D} (h : Nix k d) (hk : k ≤ 60) : ∃ p, d.pyS = some p ∧ d.py = some p := by
  obtain ⟨p, e1, e2, e3⟩ := nix_py k d h
  refine ⟨p, ?_, e1⟩
  have : SeqAt.shaped p = true := by simp only [SeqAt.shaped, e2, Bool.true_and, decide_eq_true_eq]; omega
  simp [D.pyS, e1, this]
theorem opEq_nix {S : Store} {d e : D} (k : Nat) (h1 : Nix k d) (h2 : Nix k e) (hk : k ≤ 60) {b : Bool} (hb : b = true ↔ d = e) : opEq (.v d) (.v e) S = .ok (.v (.bl b)) S ∧ opNe (.v d) (.v e) S = .ok (.v (.bl (!b))) S := by
  obtain ⟨p, e1, e2⟩ := nix_pyS h1 hk
  obtain ⟨q, f1, f2⟩ := nix_pyS h2 hk
  have : PyData.eqv p q = b := Bool.eq_iff_iff.mpr ((nix_eqv k d e p q h1 h2 e2 f2).trans hb.symm)
  exact ⟨by rw [opEq_py e1 f1, this], by rw [opNe_py e1 f1, this]⟩
theorem nix_refl {S : Store} {d : D} (k : Nat) (h : Nix k d) (hk : k ≤ 60) : opEq (.v d) (.v d) S = .ok (.v (.bl true)) S ∧ opNe (.v d) (.v d) S = .ok (.v (.bl false)) S := opEq_nix (b := true) k h h hk (by simp)
theorem nix_non (k : Nat) : Nix k .non := by cases k <;> trivial
end M
namespace M
open PySem PySem.Spec L2
open PyProof.Rows hiding St
end M
namespace Q
open PySem hiding Env
open L2 M
end Q
namespace Q
open PySem hiding Env
open L2 M
end Q
namespace M
open PySem PySem.Spec L2
open PyProof.Rows hiding St
end M
namespace Q
open PySem hiding Env
open L2 M
end Q
namespace M
open PySem PySem.Spec L2
open PyProof.Rows hiding St
end M
namespace Q
open PySem hiding Env
open L2 M
end Q
namespace M
open PySem PySem.Spec L2
open PyProof.Rows hiding St
def oadd : Option Int → Option Int → Option Int
  | some a, some b => some (a + b)
  | _, _ => none
def entD : Option Int → D
  | none => .non
  | some i => .int i
def leastO (l : List (Option Int)) : Option Int := if l.filterMap id = [] then none else some (minL (l.filterMap id))
theorem leastO_none {l : List (Option Int)} : leastO l = none ↔ ∀ c, some c ∉ l := by
  unfold leastO
  constructor
  · intro h c hc
    split at h
    · rename_i e
      have : c ∈ l.filterMap id := List.mem_filterMap.mpr ⟨some c, hc, rfl⟩
      rw [e] at this; cases this
    · cases h
  · intro h
    rw [if_pos]
    refine List.eq_nil_iff_forall_not_mem.mpr fun c hc => ?_
    obtain ⟨x, hx, e⟩ := List.mem_filterMap.mp hc
    exact h c (by rw [show x = some c from e] at hx; exact hx)
theorem leastO_some {l : List (Option Int)} {m : Int} : leastO l = some m ↔ some m ∈ l ∧ ∀ c, some c ∈ l → m ≤ c := by
  have mem : ∀ c, c ∈ l.filterMap id ↔ some c ∈ l := fun c => by
    rw [List.mem_filterMap]
    exact ⟨fun ⟨x, hx, e⟩ => by rw [show x = some c from e] at hx; exact hx, fun h => ⟨_, h, rfl⟩⟩
  constructor
  · intro h
    unfold leastO at h
    split at h
    · cases h
    · rename_i hne
      obtain ⟨q1, q2⟩ := minL_spec hne
      rw [← Option.some.inj h]
      exact ⟨(mem _).mp q1, fun c hc => q2 c ((mem c).mpr hc)⟩
  · rintro ⟨h1, h2⟩
    have hne : l.filterMap id ≠ [] := fun e => by have := (mem m).mpr h1; rw [e] at this; cases this
    obtain ⟨q1, q2⟩ := minL_spec hne
    unfold leastO
    rw [if_neg hne]
    exact congrArg some (Int.le_antisymm (q2 m ((mem m).mpr h1)) (h2 _ ((mem _).mp q1)))
/-- prices: split, doubled, over, lost -/
structure Prc where
  sp : Int
  db : Int
  ov : Int
  ls : Int
def Prc.d (p : Prc) : D := .tup [.int p.sp, .int p.db, .int p.ov, .int p.ls]
def Prc.of (p : Prc) (w : Str) : Int := if w = "split" then p.sp else if w = "doubled" then p.db else if w = "over" then p.ov else if w = "lost" then p.ls else 0
theorem Prc.of_split (p : Prc) : p.of "split" = p.sp := rfl
theorem Prc.of_doubled (p : Prc) : p.of "doubled" = p.db := by unfold Prc.of; rw [if_neg (by decide +kernel), if_pos rfl]
theorem Prc.of_over (p : Prc) : p.of "over" = p.ov := by unfold Prc.of; rw [if_neg (by decide +kernel), if_neg (by decide +kernel), if_pos rfl]
theorem Prc.of_lost (p : Prc) : p.of "lost" = p.ls := by unfold Prc.of; rw [if_neg (by decide +kernel), if_neg (by decide +kernel), if_neg (by decide +kernel), if_pos rfl]
theorem Prc.of_found (p : Prc) : p.of "found" = 0 := by unfold Prc.of; rw [if_neg (by decide +kernel), if_neg (by decide +kernel), if_neg (by decide +kernel), if_neg (by decide +kernel)]
theorem Prc.of_on (p : Prc) : p.of "on" = 0 := by unfold Prc.of; rw [if_neg (by decide +kernel), if_neg (by decide +kernel), if_neg (by decide +kernel), if_neg (by decide +kernel)]
/-- the words that price_of is asked of -/
def kwd (w : Str) : Prop := w = "split" ∨ w = "doubled" ∨ w = "over" ∨ w = "lost" ∨ w = "found" ∨ w = "on"
def rowC (g : Gr) (st : Nat → Int) (dd : Nat → List (Option Int)) : Nat → List (Option Int)
  | 0 => []
  | n + 1 => rowC g st dd n ++ [leastO (dd n ++ (atG g n).un.map fun b => oadd (some (st n)) ((rowC g st dd n).getD b none))]
def colC (g : Gr) (st : Nat → Int) (dd : Nat → List (Option Int)) (x : Nat) : Option Int := (rowC g st dd (x + 1)).getD x none
def stC (g : Gr) (pr : Prc) (x : Nat) : Int := if (atG g x).un.length = 2 then pr.ls else 0
/-- what a deed comes to by the columns of both -/
def dedC (g : Gr) (pr : Prc) (f h : Nat → Option Int) (x : Nat) : List (Option Int) := (ddsN g x).map fun d => oadd (oadd (some (pr.of d.1)) (f d.2.1)) (h d.2.2)
/-- the least that a way of a tree costs from a stay on -/
def E (g : Gr) (pr : Prc) : T → Nat → Option Int
  | .leaf w => colC g (stC g pr) fun x => if fndN g x w = true then [some 0] else []
  | .node l r => colC g (stC g pr) fun x => dedC g pr (E g pr l) (E g pr r) x
/-- by the number of a node -/
def entI (g : Gr) (pr : Prc) (t0 : T) (i x : Nat) : Option Int := match t0.subs[i]? with
  | some s => E g pr s x
  | none => none
def rowI (g : Gr) (pr : Prc) (t0 : T) (i : Nat) : List D := (List.range g.length).map fun x => entD (entI g pr t0 i x)
def tabD (g : Gr) (pr : Prc) (t0 : T) : D := .tup ((List.range t0.cnt).map fun i => .tup (rowI g pr t0 i))
end M
namespace Q
open PySem hiding Env
open L2 M
end Q
namespace Q
open PySem hiding Env
open L2 M
end Q
namespace M
open PySem PySem.Spec L2
open PyProof.Rows hiding St
end M
namespace Q
open PySem hiding Env
open L2 M
end Q
namespace Q
open PySem hiding Env
open L2 M
end Q
namespace Q
open PySem hiding Env
open L2 M
end Q
namespace Q
open PySem hiding Env
open L2 M
end Q
namespace M
open PySem PySem.Spec L2
open PyProof.Rows hiding St
structure Prc.Ok (p : Prc) : Prop where
  sp : 0 ≤ p.sp ∧ p.sp ≤ 10 ^ 30
  db : 0 ≤ p.db ∧ p.db ≤ 10 ^ 30
  ov : 0 ≤ p.ov ∧ p.ov ≤ 10 ^ 30
  ls : 0 ≤ p.ls ∧ p.ls ≤ 10 ^ 30
/-- a small tree of some words -/
structure Smw (ws : List Str) (s : T) : Prop where
  ok : s.Ok
  sub : ∀ w ∈ s.ls, w ∈ ws
  len : s.ls.length ≤ 10
theorem Smw.depth {ws : List Str} {s : T} (h : Smw ws s) : s.depth < 60 := by have := s.depth_lt; have := h.len; omega
end M
namespace Q
open PySem hiding Env
open L2 M
section
variable {b n : Nat} {S : Store} {K : Out R → Prop}
/-- a ground, a small tree, prices -/
structure Cas (t : T) (g : Gr) (s : T) : Prop where
  ok : t.Ok
  nd : t.ls.Nodup
  len : t.ls.length ≤ 8
  gr : GrOf t g
  sok : s.Ok
  sub : ∀ w ∈ s.ls, w ∈ t.ls
  slen : s.ls.length ≤ 10
theorem Cas.depth {t : T} {g : Gr} {s : T} (h : Cas t g s) : s.depth < 60 := by have := s.depth_lt; have := h.slen; omega
end
end Q
namespace Q
open PySem hiding Env
open L2 M
end Q
namespace M
open PySem PySem.Spec L2
open PyProof.Rows hiding St
end M
namespace Q
open PySem hiding Env
open L2 M
end Q
namespace M
open PySem PySem.Spec L2
open PyProof.Rows hiding St
end M
namespace Q
open PySem hiding Env
open L2 M
end Q
namespace Q
open PySem hiding Env
open L2 M
end Q
namespace M
open PySem PySem.Spec L2
open PyProof.Rows hiding St
end M
namespace Q
open PySem hiding Env
open L2 M
end Q
namespace Q
open PySem hiding Env
open L2 M
end Q
namespace Q
open PySem hiding Env
open L2 M
end Q
namespace M
open PySem PySem.Spec L2
open PyProof.Rows hiding St
def nk (i x : Nat) : List Key := [.inl (i : Int), .inl (x : Int)]
theorem nk_inj {i x j y : Nat} (h : nk i x = nk j y) : i = j ∧ x = y := by
  simp only [nk, List.cons.injEq, Sum.inl.injEq, and_true] at h
  omega
def spl2 (g : Gr) (x : Nat) : List (Str × Nat × Nat) := if (atG g x).un.length = 2 then [(("split" : Str), (atG g x).un.getD 0 0, (atG g x).un.getD 1 0), (("split" : Str), (atG g x).un.getD 1 0, (atG g x).un.getD 0 0)] else []
def ovs2 (L : List Nat) (x : Nat) : List (Str × Nat × Nat) := L.flatMap fun o => [(("over" : Str), x, o), (("over" : Str), o, x)]
def dds2 (g : Gr) (x : Nat) : List (Str × Nat × Nat) := (("doubled" : Str), x, x) :: (ovs2 (atG g x).bs x ++ spl2 g x)
end M
namespace Q
open PySem hiding Env
open L2 M
end Q
namespace Q
open PySem hiding Env
open L2 M
end Q
namespace M
open PySem PySem.Spec L2
open PyProof.Rows hiding St
theorem kwd_of {P : Str → Prop} (h1 : P "split") (h2 : P "doubled") (h3 : P "over") (h4 : P "lost") (h5 : P "found") (h6 : P "on") : ∀ w, kwd w → P w := by
  rintro w (rfl | rfl | rfl | rfl | rfl | rfl) <;> assumption
end M
namespace Q
open PySem hiding Env
open L2 M
end Q
namespace M
open PySem PySem.Spec L2
open PyProof.Rows hiding St
def costW (g : Gr) (pr : Prc) : Wy → Int
  | .one p d => pr.ls * (lossN g p : Nat) + pr.of d
  | .two p d a b => pr.ls * (lossN g p : Nat) + (pr.of d + costW g pr a + costW g pr b)
structure LWy (g : Gr) (pr : Prc) (t : T) (x : Nat) (y : Wy) : Prop where
  way : wayN g t y = true
  head : y.p.headD 0 = x
  cost : E g pr t x = some (costW g pr y)
mutual
def Wy.P : Wy → PyData
  | .one p d => .tuple [.tuple (p.map fun i : Nat => PyData.int (i : Int)), .str d]
  | .two p d a b => .tuple [.tuple (p.map fun i : Nat => PyData.int (i : Int)), .str d, a.P, b.P]
end
theorem ints_py : ∀ p : List Nat, D.pys (p.map natD) = some (p.map fun i : Nat => PyData.int (i : Int))
  | [] => rfl
  | a :: p => by simp only [List.map_cons, D.pys, ints_py p]; rfl
theorem Wy.py : ∀ y : Wy, y.d.py = some y.P
  | .one p d => by
    show (D.pys [pD p, .str d]).map PyData.tuple = _
    simp only [D.pys, pD, D.py, ints_py p]
    simp [Wy.P]
  | .two p d a b => by
    show (D.pys [pD p, .str d, a.d, b.d]).map PyData.tuple = _
    simp only [D.pys, pD, D.py, ints_py p, Wy.py a, Wy.py b]
    simp [Wy.P]
end M
namespace M
open PySem PySem.Spec L2
open PyProof.Rows hiding St
def wlt (y z : Wy) : Bool := PySem.W.dataLt y.P z.P
/-- the first of the least ways -/
structure LWf (g : Gr) (pr : Prc) (t : T) (x : Nat) (w : Wy) : Prop extends LWy g pr t x w where
  first : ∀ y, LWy g pr t x y → wlt y w = false
end M
namespace Q
open PySem hiding Env
open L2 M
end Q
namespace Q
open PySem hiding Env
open L2 M
def fs_LeastWays (r0 r1 r2 r3 r4 : R) : List (Str × R) := [(("stays_told" : Str), r0), (("nodes_told" : Str), r1), (("prices_told" : Str), r2), (("least_rows" : Str), r3), (("first_ways" : Str), r4)]
end Q
namespace M
open PySem PySem.Spec L2
open PyProof.Rows hiding St
theorem nodup_len {α : Type} [DecidableEq α] : ∀ {L M : List α}, L.Nodup → (∀ x ∈ L, x ∈ M) → L.length ≤ M.length
  | [], _, _, _ => Nat.zero_le _
  | a :: L, M, hn, hs => by
    obtain ⟨h1, h2⟩ := List.nodup_cons.mp hn
    have ha := hs a (by simp)
    have := nodup_len (L := L) (M := M.erase a) h2 fun x hx => (List.mem_erase_of_ne (by rintro rfl; exact h1 hx)).mpr (hs x (by simp [hx]))
    rw [List.length_erase_of_mem ha] at this
    have := List.length_pos_of_mem ha
    simp only [List.length_cons]; omega
theorem valT_mem {kvs : List (List Key × R)} {k : List Key} {v : R} (h : valT kvs k = some v) : (k, v) ∈ kvs := by
  unfold valT at h
  obtain ⟨p, hp, rfl⟩ := Option.map_eq_some_iff.mp h
  have h1 := List.mem_of_find?_eq_some hp
  have h2 := List.find?_some hp
  simp only [decide_eq_true_eq] at h2
  rw [← h2]; exact h1
structure Memo (g : Gr) (pr : Prc) (t0 : T) (kvs : List (List Key × R)) : Prop where
  nd : (kvs.map Prod.fst).Nodup
  el : ∀ kv ∈ kvs, ∃ i x s w, i < t0.cnt ∧ x < g.length ∧ t0.subs[i]? = some s ∧ LWf g pr s x w ∧ kv = (nk i x, .v w.d)
theorem Memo.nil (g : Gr) (pr : Prc) (t0 : T) : Memo g pr t0 [] := ⟨by simp, fun _ h => by cases h⟩
theorem Memo.len {g : Gr} {pr : Prc} {t0 : T} {kvs : List (List Key × R)} (h : Memo g pr t0 kvs) : kvs.length ≤ t0.cnt * g.length := by
  have := nodup_len (L := kvs.map Prod.fst) (M := (List.range t0.cnt).flatMap fun i => (List.range g.length).map fun x => nk i x) h.nd fun k hk => by
    obtain ⟨kv, hkv, rfl⟩ := List.mem_map.mp hk
    obtain ⟨i, x, s, w, hi, hx, _, _, rfl⟩ := h.el kv hkv
    exact List.mem_flatMap.mpr ⟨i, List.mem_range.mpr hi, List.mem_map.mpr ⟨x, List.mem_range.mpr hx, rfl⟩⟩
  have e : ∀ L : List Nat, (L.flatMap fun i => (List.range g.length).map fun x => nk i x).length = L.length * g.length := fun L => by
    induction L with
    | nil => simp
    | cons a L ih => rw [List.flatMap_cons, List.length_append, ih, List.length_map, List.length_range, List.length_cons, Nat.add_mul]; omega
  rw [e, List.length_map, List.length_range] at this
  exact this
theorem Memo.get {g : Gr} {pr : Prc} {t0 s : T} {kvs : List (List Key × R)} (h : Memo g pr t0 kvs) {i x : Nat} {v : R} (hs : t0.subs[i]? = some s) (hv : valT kvs (nk i x) = some v) : ∃ w, v = .v w.d ∧ LWf g pr s x w := by
  obtain ⟨j, y, s', w, _, _, hs', hw, e⟩ := h.el _ (valT_mem hv)
  have e1 := congrArg Prod.fst e
  have e2 := congrArg Prod.snd e
  obtain ⟨rfl, rfl⟩ := nk_inj e1
  rw [hs] at hs'; cases hs'
  exact ⟨w, e2, hw⟩
theorem Memo.lo {g : Gr} {pr : Prc} {t0 : T} {kvs : List (List Key × R)} (h : Memo g pr t0 kvs) (k : Nat) : (MO.dT kvs).lo k := fun kv hkv => by
  obtain ⟨_, _, _, w, _, _, _, _, rfl⟩ := h.el kv hkv
  trivial
end M
namespace Q
open PySem hiding Env
open L2 M
/-- the object and its memo -/
structure Obj (B : Store) (n d : Nat) (g : Gr) (pr : Prc) (t0 : T) : Prop where
  ins : B[n]? = some (.ins "LeastWays" (fs_LeastWays (.v (grD g)) (.v (.tup t0.nodes)) (.v pr.d) (.v (tabD g pr t0)) (.ref d)))
  ne : n ≠ d
  lt : d < B.length
theorem Obj.app {B : Store} {n d : Nat} {g : Gr} {pr : Prc} {t0 : T} (h : Obj B n d g pr t0) (C : Store) : Obj (B ++ C) n d g pr t0 := ⟨get_app' h.ins C, h.ne, by rw [List.length_append]; have := h.lt; omega⟩
theorem Obj.at {B : Store} {n d : Nat} {g : Gr} {pr : Prc} {t0 : T} (h : Obj B n d g pr t0) (c : MO) (C : Store) : (B.set d c ++ C)[n]? = some (.ins "LeastWays" (fs_LeastWays (.v (grD g)) (.v (.tup t0.nodes)) (.v pr.d) (.v (tabD g pr t0)) (.ref d))) := get_app' (by rw [List.getElem?_set_ne (Ne.symm h.ne)]; exact h.ins) C
end Q
namespace M
open PySem PySem.Spec L2
open PyProof.Rows hiding St
end M
namespace Q
open PySem hiding Env
open L2 M
end Q
namespace Q
open PySem hiding Env
open L2 M
end Q
namespace M
open PySem PySem.Spec L2
open PyProof.Rows hiding St
end M
namespace Q
open PySem hiding Env
open L2 M
end Q
namespace Q
open PySem hiding Env
open L2 M
end Q
namespace M
open PySem PySem.Spec L2
open PyProof.Rows hiding St
end M
namespace Q
open PySem hiding Env
open L2 M
end Q
namespace M
open PySem PySem.Spec L2
open PyProof.Rows hiding St
def Prc.l (p : Prc) : List Int := [p.sp, p.db, p.ov, p.ls]
def Prc.map (f : Int → Int) (p : Prc) : Prc := ⟨f p.sp, f p.db, f p.ov, f p.ls⟩
def Prc.zip (f : Int → Int → Int) (p q : Prc) : Prc := ⟨f p.sp q.sp, f p.db q.db, f p.ov q.ov, f p.ls q.ls⟩
/-- what holds of all prices holds of what any word costs -/
theorem Prc.all {P : Int → Prop} {p : Prc} (h0 : P 0) (h1 : P p.sp) (h2 : P p.db) (h3 : P p.ov) (h4 : P p.ls) : ∀ w, kwd w → P (p.of w) := by
  refine kwd_of ?_ ?_ ?_ ?_ ?_ ?_
  · rw [Prc.of_split]; exact h1
  · rw [Prc.of_doubled]; exact h2
  · rw [Prc.of_over]; exact h3
  · rw [Prc.of_lost]; exact h4
  · rw [Prc.of_found]; exact h0
  · rw [Prc.of_on]; exact h0
end M
namespace Q
open PySem hiding Env
open L2 M
end Q
namespace M
open PySem PySem.Spec L2
open PyProof.Rows hiding St
end M
namespace Q
open PySem hiding Env
open L2 M
end Q
namespace Q
open PySem hiding Env
open L2 M
end Q
namespace M
open PySem PySem.Spec L2
open PyProof.Rows hiding St
end M
namespace Q
open PySem hiding Env
open L2 M
end Q
namespace Q
open PySem hiding Env
open L2 M
def one (r : Nat → Nat) (l : Nat) (x : Option Nat) : Nat := match x with
  | none => 0
  | some p => if r p ≤ l then 1 else 0
end Q
namespace M
open PySem PySem.Spec L2
open PyProof.Rows hiding St
def rowG {α : Type} (z : α) (f : Nat → (Nat → α) → α) : Nat → List α
  | 0 => []
  | n + 1 => rowG z f n ++ [f n fun b => (rowG z f n).getD b z]
def colG {α : Type} (z : α) (f : Nat → (Nat → α) → α) (x : Nat) : α := (rowG z f (x + 1)).getD x z
end M
namespace Q
open PySem hiding Env
open L2 M
end Q
namespace M
open PySem PySem.Spec L2
open PyProof.Rows hiding St
def sd (g : Gr) (x : Nat) : List (Str × Nat × Nat) := (dds2 g x).mergeSort fun a b => !dLt (dd3 b) (dd3 a)
/-- what a deed comes to -/
def cst (g : Gr) (pr : Prc) (l r : T) (d : Str × Nat × Nat) : Option Int := oadd (oadd (some (pr.of d.1)) (E g pr l d.2.1)) (E g pr r d.2.2)
def srtN (L : List Nat) : List Nat := L.mergeSort fun a b => decide (a ≤ b)
/-- where a least way may go on -/
def goN (g : Gr) (pr : Prc) (t : T) (x : Nat) : List Nat := (srtN (atG g x).un).filter fun b => (E g pr t b).isSome && decide (oadd (E g pr t b) (some (stC g pr x)) = E g pr t x)
def LN (g : Gr) (pr : Prc) : T → Nat → Nat
  | .leaf w => colG 0 fun x h => if (E g pr (.leaf w) x).isSome then (if fndN g x w = true ∧ E g pr (.leaf w) x = some 0 then 1 else 0) + ((goN g pr (.leaf w) x).map h).sum else 0
  | .node l r => colG 0 fun x h => if (E g pr (.node l r) x).isSome then (((sd g x).filter fun d => decide (cst g pr l r d = E g pr (.node l r) x)).map fun d => LN g pr l d.2.1 * LN g pr r d.2.2).sum + ((goN g pr (.node l r) x).map h).sum else 0
/-- .. whose deed is done at once and that cost so much -/
def hN (g : Gr) (pr : Prc) : T → Nat → Option Int → Nat
  | .leaf w, x, c => if fndN g x w = true ∧ c = some 0 then 1 else 0
  | .node l r, x, c => (((sd g x).filter fun d => decide (cst g pr l r d = c)).map fun d => LN g pr l d.2.1 * LN g pr r d.2.2).sum
end M
namespace Q
open PySem hiding Env
open L2 M
end Q
namespace Q
open PySem hiding Env
open L2 M
end Q
namespace M
open PySem PySem.Spec L2
open PyProof.Rows hiding St
end M
namespace Q
open PySem hiding Env
open L2 M
end Q
namespace Q
open PySem hiding Env
open L2 M
end Q
namespace M
open PySem PySem.Spec L2
open PyProof.Rows hiding St
end M
namespace M
open PySem PySem.Spec L2
open PyProof.Rows hiding St
end M
namespace Q
open PySem hiding Env
open L2 M
end Q
namespace Q
open PySem hiding Env
open L2 M
end Q
namespace M
open PySem PySem.Spec L2
open PyProof.Rows hiding St
end M
namespace Q
open PySem hiding Env
open L2 M
end Q
namespace Q
open PySem hiding Env
open L2 M
end Q
namespace M
open PySem PySem.Spec L2
open PyProof.Rows hiding St
abbrev Cs := List (Nat × Int)
def mL (L : Cs) (n : Nat) : Option Int := leastO ((L.filter fun p => decide (p.1 = n)).map fun p => some p.2)
theorem mL_mem {L : Cs} {n : Nat} {c : Int} : some c ∈ ((L.filter fun p => decide (p.1 = n)).map fun p => some p.2) ↔ (n, c) ∈ L := by
  constructor
  · intro h
    obtain ⟨p, hp, e⟩ := List.mem_map.mp h
    obtain ⟨h1, h2⟩ := List.mem_filter.mp hp
    have e := Option.some.inj e
    have h2 : p.1 = n := by simpa using h2
    subst e; subst h2
    exact h1
  · intro h
    exact List.mem_map.mpr ⟨(n, c), List.mem_filter.mpr ⟨h, by simp⟩, rfl⟩
theorem mL_some {L : Cs} {n : Nat} {c : Int} : mL L n = some c ↔ (n, c) ∈ L ∧ ∀ d, (n, d) ∈ L → c ≤ d := by
  unfold mL
  rw [leastO_some]
  exact ⟨fun ⟨h1, h2⟩ => ⟨mL_mem.mp h1, fun d hd => h2 d (mL_mem.mpr hd)⟩, fun ⟨h1, h2⟩ => ⟨mL_mem.mpr h1, fun d hd => h2 d (mL_mem.mp hd)⟩⟩
theorem mL_none {L : Cs} {n : Nat} : mL L n = none ↔ ∀ d, (n, d) ∉ L := by
  unfold mL
  rw [leastO_none]
  exact ⟨fun h d hd => h d (mL_mem.mpr hd), fun h d hd => h d (mL_mem.mp hd)⟩
theorem mL_has {L : Cs} {n : Nat} {c : Int} (h : (n, c) ∈ L) : ∃ d, mL L n = some d ∧ d ≤ c := by
  cases e : mL L n with
  | none => exact absurd h (mL_none.mp e c)
  | some d => exact ⟨d, rfl, (mL_some.mp e).2 c h⟩
theorem mL_dom {L L' : Cs} {n : Nat} (h1 : ∀ c, (n, c) ∈ L → ∃ d, d ≤ c ∧ (n, d) ∈ L') (h2 : ∀ c, (n, c) ∈ L' → ∃ d, d ≤ c ∧ (n, d) ∈ L) : mL L n = mL L' n := by
  cases e : mL L n with
  | none =>
    refine (mL_none.mpr fun d hd => ?_).symm
    obtain ⟨c, _, hc⟩ := h2 d hd
    exact mL_none.mp e c hc
  | some c =>
    obtain ⟨q1, q2⟩ := mL_some.mp e
    obtain ⟨d, hd, hm⟩ := h1 c q1
    have low : ∀ x, (n, x) ∈ L' → c ≤ x := fun x hx => by
      obtain ⟨y, hy, hm⟩ := h2 x hx
      have := q2 y hm
      omega
    have : d = c := by have := low d hm; omega
    subst this
    exact (mL_some.mpr ⟨hm, low⟩).symm
theorem mL_nil (n : Nat) : mL [] n = none := rfl
abbrev Row := List (Option Int)
def rowOf (N : Nat) (L : Cs) : Row := (List.range N).map (mL L)
theorem rowOf_len (N : Nat) (L : Cs) : (rowOf N L).length = N := by simp [rowOf]
theorem rowOf_get {N : Nat} {L : Cs} {n : Nat} (h : n < N) : (rowOf N L).getD n none = mL L n := by simp [rowOf, List.getD_eq_getElem?_getD, h]
/-- a row tells the least of costs by their numbers, all below N -/
structure IsRow (R : Row) (L : Cs) (N : Nat) : Prop where
  len : R.length ≤ N
  tell : ∀ n, R.getD n none = mL L n
theorem IsRow.mono {R : Row} {L : Cs} {N N' : Nat} (h : IsRow R L N) (k : N ≤ N') : IsRow R L N' := ⟨by have := h.len; omega, h.tell⟩
theorem IsRow.nil (N : Nat) : IsRow [] [] N := ⟨Nat.zero_le _, fun n => by simp [mL_nil]⟩
/-- all of two lots, with a price, so many further -/
def prL (L L' : Cs) (p : Int) (m : Nat) : Cs := L.flatMap fun a => L'.map fun b => (a.1 + b.1 + m, a.2 + b.2 + p)
theorem prL_mem {L L' : Cs} {p : Int} {m n : Nat} {c : Int} : (n, c) ∈ prL L L' p m ↔ ∃ i a j b, (i, a) ∈ L ∧ (j, b) ∈ L' ∧ n = i + j + m ∧ c = a + b + p := by
  unfold prL
  rw [List.mem_flatMap]
  constructor
  · rintro ⟨x, hx, h⟩
    obtain ⟨y, hy, e⟩ := List.mem_map.mp h
    injection e with e1 e2
    exact ⟨x.1, x.2, y.1, y.2, hx, hy, e1.symm, e2.symm⟩
  · rintro ⟨i, a, j, b, h1, h2, rfl, rfl⟩
    exact ⟨(i, a), h1, List.mem_map.mpr ⟨(j, b), h2, rfl⟩⟩
def rwL (R : Row) : Cs := (List.range R.length).flatMap fun i => match R.getD i none with
  | some a => [(i, a)]
  | none => []
theorem rwL_mem {R : Row} {n : Nat} {c : Int} : (n, c) ∈ rwL R ↔ R.getD n none = some c := by
  unfold rwL
  rw [List.mem_flatMap]
  constructor
  · rintro ⟨i, hi, h⟩
    split at h
    · rename_i a e
      simp at h
      rw [h.1, e, h.2]
    · simp at h
  · intro h
    refine ⟨n, List.mem_range.mpr ?_, ?_⟩
    · rcases Nat.lt_or_ge n R.length with q | q
      · exact q
      · rw [List.getD_eq_getElem?_getD, List.getElem?_eq_none q] at h; cases h
    · rw [h]; simp
theorem mL_rw {R : Row} {L : Cs} {N : Nat} (h : IsRow R L N) (n : Nat) : mL (rwL R) n = mL L n := by
  rw [← h.tell n]
  cases e : R.getD n none with
  | none => exact mL_none.mpr fun d hd => by rw [rwL_mem, e] at hd; cases hd
  | some c => exact mL_some.mpr ⟨rwL_mem.mpr e, fun d hd => by rw [rwL_mem, e] at hd; cases hd; exact Int.le_refl _⟩
theorem prL_dom {L1 L2 M1 M2 : Cs} (h1 : ∀ n, mL L1 n = mL M1 n) (h2 : ∀ n, mL L2 n = mL M2 n) (p : Int) (m n : Nat) : mL (prL L1 L2 p m) n = mL (prL M1 M2 p m) n := by
  have key : ∀ {L1 L2 M1 M2 : Cs}, (∀ n, mL L1 n = mL M1 n) → (∀ n, mL L2 n = mL M2 n) → ∀ c, (n, c) ∈ prL L1 L2 p m → ∃ d, d ≤ c ∧ (n, d) ∈ prL M1 M2 p m := by
    intro L1 L2 M1 M2 h1 h2 c hc
    obtain ⟨i, a, j, b, ha, hb, e1, e2⟩ := prL_mem.mp hc
    obtain ⟨a', ea, la⟩ := mL_has ha
    obtain ⟨b', eb, lb⟩ := mL_has hb
    rw [h1] at ea
    rw [h2] at eb
    exact ⟨a' + b' + p, by omega, prL_mem.mpr ⟨i, a', j, b', (mL_some.mp ea).1, (mL_some.mp eb).1, e1, rfl⟩⟩
  exact mL_dom (key h1 h2) (key (fun n => (h1 n).symm) fun n => (h2 n).symm)
def ptO (A B : Row) (p : Int) (m : Nat) : Row := if A.length = 0 ∨ B.length = 0 then [] else rowOf (A.length + B.length - 1 + m) (prL (rwL A) (rwL B) p m)
theorem IsRow.pt {A B : Row} {L L' : Cs} {N N' : Nat} (h : IsRow A L N) (k : IsRow B L' N') (p : Int) (m : Nat) : IsRow (ptO A B p m) (prL L L' p m) (N + N' - 1 + m) := by
  have e := fun n => prL_dom (fun n => mL_rw h n) (fun n => mL_rw k n) p m n
  have h1 := h.len
  have k1 := k.len
  unfold ptO
  split
  · rename_i q
    refine ⟨Nat.zero_le _, fun n => ?_⟩
    rw [← e n]
    refine (mL_none.mpr fun d hd => ?_).symm
    obtain ⟨i, a, j, b, ha, hb, _, _⟩ := prL_mem.mp hd
    rw [rwL_mem] at ha hb
    have z : ∀ (R : Row) (n : Nat) (c : Int), R.length = 0 → R.getD n none = some c → False := fun R n c hR hc => by
      rw [List.getD_eq_getElem?_getD, List.getElem?_eq_none (by omega)] at hc; cases hc
    rcases q with q | q
    · exact z A i a q ha
    · exact z B j b q hb
  · rename_i q
    refine ⟨by rw [rowOf_len]; omega, fun n => ?_⟩
    rw [← e n]
    by_cases hn : n < A.length + B.length - 1 + m
    · exact rowOf_get hn
    · rw [List.getD_eq_getElem?_getD, List.getElem?_eq_none (by rw [rowOf_len]; omega)]
      refine (mL_none.mpr fun d hd => ?_).symm
      obtain ⟨i, a, j, b, ha, hb, e1, _⟩ := prL_mem.mp hd
      rw [rwL_mem] at ha hb
      have z : ∀ (R : Row) (n : Nat) (c : Int), R.getD n none = some c → n < R.length := fun R n c hc => by
        rcases Nat.lt_or_ge n R.length with q | q
        · exact q
        · rw [List.getD_eq_getElem?_getD, List.getElem?_eq_none q] at hc; cases hc
      have := z A i a ha
      have := z B j b hb
      omega
end M
namespace Q
open PySem hiding Env
open L2 M
end Q
namespace M
end M
namespace Q
open PySem hiding Env
open L2 M
end Q
namespace M
end M
namespace Q
open PySem hiding Env
open L2 M
end Q
namespace Q
open PySem hiding Env
open L2 M
end Q
namespace Q
open PySem hiding Env
open L2 M
def fs_Resting (r0 r1 r2 r3 r4 : R) : List (Str × R) := [(("stays" : Str), r0), (("things" : Str), r1), (("prices" : Str), r2), (("own" : Str), r3), (("entries" : Str), r4)]
end Q
namespace M
open PySem PySem.Spec L2
open PyProof.Rows hiding St
end M
namespace Q
open PySem hiding Env
open L2 M
def ownI (own : Str) : Nat := if own = "split" then 0 else if own = "doubled" then 1 else 2
def psI (pr : Prc) : List Int := [pr.sp, pr.db, pr.ov, pr.ls]
def fsR (g : Gr) (own : Str) (t0 : T) (p q : Nat) : List (Str × R) := fs_Resting (.v (grD g)) (.v (.tup t0.nodes)) (.ref p) (.v (.int (ownI own : Nat))) (.ref q)
structure ObR (B : Store) (n p q : Nat) (g : Gr) (pr : Prc) (own : Str) (t0 : T) : Prop where
  ins : B[n]? = some (.ins "Resting" (fsR g own t0 p q))
  prs : B[p]? = some (.lst (((psI pr).map D.int).map .v))
section
variable {B : Store} {n p q : Nat} {g : Gr} {pr : Prc} {own : Str} {t0 s : T} {i x : Nat}
theorem ObR.app (h : ObR B n p q g pr own t0) (C : Store) : ObR (B ++ C) n p q g pr own t0 := ⟨get_app' h.ins C, get_app' h.prs C⟩
end
end Q
namespace M
open PySem PySem.Spec L2
open PyProof.Rows hiding St
def rv (R : Row) (n : Nat) : Option Int := R.getD n none
/-- of those below k the first whose line meets that of n (cost c) first: its number, its cost less c -/
def bst (R : Row) (c : Int) (n : Nat) : Nat → Option (Nat × Int)
  | 0 => none
  | k + 1 => match rv R k with
    | none => bst R c n k
    | some d => match bst R c n k with
      | none => some (k, d - c)
      | some (m, r) => if (d - c) * ((n : Int) - m) < r * ((n : Int) - k) then some (k, d - c) else some (m, r)
theorem bst_none {R : Row} {c : Int} {n : Nat} : ∀ {k : Nat}, bst R c n k = none → ∀ j, j < k → rv R j = none
  | 0, _, j, hj => by omega
  | k + 1, h, j, hj => by
    simp only [bst] at h
    split at h
    · rename_i e
      by_cases q : j = k
      · subst q; exact e
      · exact bst_none h j (by omega)
    · split at h
      · cases h
      · split at h <;> cases h
theorem bst_some {R : Row} {c : Int} {n : Nat} : ∀ {k m : Nat} {r : Int}, k ≤ n → bst R c n k = some (m, r) → m < k ∧ rv R m = some (r + c) ∧ (∀ j d, j < k → rv R j = some d → r * ((n : Int) - j) ≤ (d - c) * ((n : Int) - m)) ∧ (∀ j d, j < m → rv R j = some d → r * ((n : Int) - j) < (d - c) * ((n : Int) - m))
  | 0, m, r, _, h => by cases h
  | k + 1, m, r, hk, h => by
    simp only [bst] at h
    split at h
    · rename_i e
      obtain ⟨h1, h2, h3, h4⟩ := bst_some (by omega) h
      refine ⟨by omega, h2, fun j d hj hd => ?_, h4⟩
      by_cases q : j = k
      · subst q; rw [e] at hd; cases hd
      · exact h3 j d (by omega) hd
    · rename_i d e
      split at h
      · rename_i e2
        cases h
        refine ⟨by omega, by rw [e]; congr 1; omega, fun j d' hj hd => ?_, fun j d' hj hd => ?_⟩
        · by_cases q : j = k
          · subst q; rw [e] at hd; cases hd; exact Int.le_refl _
          · have := bst_none e2 j (by omega); rw [this] at hd; cases hd
        · have := bst_none e2 j hj; rw [this] at hd; cases hd
      · rename_i m' r' e2
        obtain ⟨h1, h2, h3, h4⟩ := bst_some (by omega) e2
        have tm : (0 : Int) < (n : Int) - m' := by omega
        have tk : (0 : Int) < (n : Int) - k := by omega
        split at h
        · rename_i q
          cases h
          have key : ∀ j d', j < k → rv R j = some d' → (d - c) * ((n : Int) - j) < (d' - c) * ((n : Int) - k) := fun j d' hj hd => by
            have a := h3 j d' hj hd
            have tj : (0 : Int) < (n : Int) - j := by omega
            -- multiply
            have b1 := Int.mul_lt_mul_of_pos_right q tj
            have b2 := Int.mul_le_mul_of_nonneg_right a (Int.le_of_lt tk)
            have e1 : (d - c) * ((n : Int) - m') * ((n : Int) - j) = (d - c) * ((n : Int) - j) * ((n : Int) - m') := by rw [Int.mul_assoc, Int.mul_comm ((n : Int) - m'), ← Int.mul_assoc]
            have e2 : r' * ((n : Int) - k) * ((n : Int) - j) = r' * ((n : Int) - j) * ((n : Int) - k) := by rw [Int.mul_assoc, Int.mul_comm ((n : Int) - k), ← Int.mul_assoc]
            have e3 : (d' - c) * ((n : Int) - m') * ((n : Int) - k) = (d' - c) * ((n : Int) - k) * ((n : Int) - m') := by rw [Int.mul_assoc, Int.mul_comm ((n : Int) - m'), ← Int.mul_assoc]
            rw [e1, e2] at b1
            rw [e3] at b2
            exact Int.lt_of_mul_lt_mul_right (Int.lt_of_lt_of_le b1 b2) (Int.le_of_lt tm)
          refine ⟨by omega, by rw [e]; congr 1; omega, fun j d' hj hd => ?_, fun j d' hj hd => key j d' hj hd⟩
          by_cases q : j = k
          · subst q; rw [e] at hd; cases hd; exact Int.le_refl _
          · exact Int.le_of_lt (key j d' (by omega) hd)
        · rename_i q
          cases h
          refine ⟨by omega, h2, fun j d' hj hd => ?_, h4⟩
          by_cases q' : j = k
          · subst q'; rw [e] at hd; cases hd; omega
          · exact h3 j d' (by omega) hd
/-- where the line of n becomes the lower one than those of greater numbers: at k of them, from nought on -/
def loP (R : Row) (c : Int) (n : Nat) : Nat → Int × Int
  | 0 => (0, 1)
  | k + 1 => match rv R k with
    | none => loP R c n k
    | some d => if n < k ∧ (c - d) * (loP R c n k).2 > (loP R c n k).1 * ((k : Int) - n) then (c - d, (k : Int) - n) else loP R c n k
theorem loP_spec {R : Row} {c : Int} {n : Nat} : ∀ k, 0 ≤ (loP R c n k).1 ∧ 0 < (loP R c n k).2 ∧ (loP R c n k = (0, 1) ∨ ∃ j d, n < j ∧ j < k ∧ rv R j = some d ∧ loP R c n k = (c - d, (j : Int) - n)) ∧ ∀ j d, n < j → j < k → rv R j = some d → (c - d) * (loP R c n k).2 ≤ (loP R c n k).1 * ((j : Int) - n)
  | 0 => ⟨by simp [loP], by simp [loP], .inl rfl, fun j d _ h => by omega⟩
  | k + 1 => by
    obtain ⟨h1, h2, h3, h4⟩ := loP_spec (R := R) (c := c) (n := n) k
    simp only [loP]
    split
    · rename_i e
      refine ⟨h1, h2, ?_, fun j d hn hj hd => ?_⟩
      · rcases h3 with h3 | ⟨j, d, a, b, c', e'⟩
        · exact .inl h3
        · exact .inr ⟨j, d, a, by omega, c', e'⟩
      · by_cases q : j = k
        · subst q; rw [e] at hd; cases hd
        · exact h4 j d hn (by omega) hd
    · rename_i d e
      split
      · rename_i q
        obtain ⟨q1, q2⟩ := q
        have tk : (0 : Int) < (k : Int) - n := by omega
        have pos : 0 < c - d := by
          rcases Int.lt_or_le 0 (c - d) with z | z
          · exact z
          · have a := Int.mul_nonneg h1 (Int.le_of_lt tk)
            have b : (c - d) * (loP R c n k).2 ≤ 0 := Int.mul_nonpos_of_nonpos_of_nonneg z (Int.le_of_lt h2)
            omega
        refine ⟨Int.le_of_lt pos, tk, .inr ⟨k, d, q1, by omega, e, rfl⟩, fun j d' hn hj hd => ?_⟩
        by_cases z : j = k
        · subst z; rw [e] at hd; cases hd; exact Int.le_refl _
        · have a := h4 j d' hn (by omega) hd
          have tj : (0 : Int) < (j : Int) - n := by omega
          show (c - d') * ((k : Int) - n) ≤ (c - d) * ((j : Int) - n)
          have b1 := Int.mul_le_mul_of_nonneg_right a (Int.le_of_lt tk)
          have b2 := Int.mul_lt_mul_of_pos_right q2 tj
          have e1 : (c - d') * (loP R c n k).2 * ((k : Int) - n) = (c - d') * ((k : Int) - n) * (loP R c n k).2 := by rw [Int.mul_assoc, Int.mul_comm (loP R c n k).2, ← Int.mul_assoc]
          have e2 : (loP R c n k).1 * ((j : Int) - n) * ((k : Int) - n) = (loP R c n k).1 * ((k : Int) - n) * ((j : Int) - n) := by rw [Int.mul_assoc, Int.mul_comm ((j : Int) - n), ← Int.mul_assoc]
          have e3 : (c - d) * (loP R c n k).2 * ((j : Int) - n) = (c - d) * ((j : Int) - n) * (loP R c n k).2 := by rw [Int.mul_assoc, Int.mul_comm (loP R c n k).2, ← Int.mul_assoc]
          rw [e1, e2] at b1
          rw [e3] at b2
          exact Int.le_of_mul_le_mul_right (Int.le_trans b1 (Int.le_of_lt b2)) h2
      · rename_i q
        refine ⟨h1, h2, ?_, fun j d' hn hj hd => ?_⟩
        · rcases h3 with h3 | ⟨j, d, a, b, c', e'⟩
          · exact .inl h3
          · exact .inr ⟨j, d, a, by omega, c', e'⟩
        · by_cases z : j = k
          · subst z; rw [e] at hd; cases hd
            rcases Int.lt_or_le ((loP R c n j).1 * ((j : Int) - n)) ((c - d) * (loP R c n j).2) with w | w
            · exact absurd ⟨hn, w⟩ q
            · exact w
          · exact h4 j d' hn (by omega) hd
end M
namespace M
structure CrAt (R : Row) (N n : Nat) (c : Int) : Prop where
  lt : n < N
  val : rv R n = some c
  low : ∀ j d, j < n → rv R j = some d → (loP R c n N).1 * ((n : Int) - j) < (d - c) * (loP R c n N).2
end M
namespace Q
open PySem hiding Env
open L2 M
end Q
namespace M
open PySem PySem.Spec L2
open PyProof.Rows hiding St
end M
namespace Q
open PySem hiding Env
open L2 M
end Q
namespace M
open PySem hiding Env
open L2
theorem opIx_kt {S : Store} {ds : List D} {i : Int} {d : D} (h : atI ds i = some d) : opIx (.v (.kt ds)) (.v (.int i)) S = .ok (.v d) S := by
  simp [opIx, seqOf, atI_map, h]
end M
namespace Q
open PySem hiding Env
open L2 M
end Q
namespace M
open PySem hiding Env
open L2
theorem CrAt.pos {R : Row} {N n : Nat} {c : Int} (h : CrAt R N n c) {m : Nat} {r : Int} (e : bst R c n n = some (m, r)) : 0 ≤ r := by
  obtain ⟨hm, em, _, _⟩ := bst_some (Nat.le_refl _) e
  obtain ⟨lp0, lq0, _, _⟩ := loP_spec (R := R) (c := c) (n := n) N
  have hB := h.low m (r + c) hm em
  rw [show r + c - c = r by omega] at hB
  rcases Int.lt_or_le 0 r with z | z
  · omega
  · have a := Int.mul_nonneg lp0 (show (0 : Int) ≤ (n : Int) - m by omega)
    have b : r * (loP R c n N).2 ≤ 0 := Int.mul_nonpos_of_nonpos_of_nonneg z (Int.le_of_lt lq0)
    omega
end M
namespace Q
open PySem hiding Env
open L2 M
end Q
namespace M
open PySem hiding Env
open L2
end M
namespace Q
open PySem hiding Env
open L2 M
end Q
namespace Q
open PySem hiding Env
open L2 M
noncomputable def m_made (g_made : List R → Store → Out R) : MS :=
  (mSeq (mSet 2 (mBin opIx (mVar 0) (mVar 1)))
  (mSeq (mIfS (mtTru (mCall biIsi (mCons (mVar 2) (mCons (mC (.ty "str")) mNil)))) (mRet (mVar 2)) mSkip)
  (mRet (mTup (mCons (mCall g_made (mCons (mVar 0) (mCons (mBin opIx (mVar 2) (mC (.int 0))) mNil))) (mCons (mCall g_made (mCons (mVar 0) (mCons (mBin opIx (mVar 2) (mC (.int 1))) mNil))) mNil))))))
noncomputable def R_made : Nat → List R → Store → Out R
  | 0 => fun _ _ => .no
  | k + 1 => mDefV 3 (m_made (R_made k))
noncomputable def b1_leads : MS :=
  (mSeq (mIfS (mtOr (mtB (mBin opNotIn (mVar 3) (mBin opIx (mVar 0) (mBin opIx (mVar 1) (mVar 3))))) (mtB (mBin opLe (mBin opIx (mVar 1) (mVar 3)) (mVar 3)))) (mRet (mC (.bl false))) mSkip)
  (mPar 3 4 (mBin opIx (mVar 1) (mVar 3)) (mBin opAdd (mVar 4) (mC (.int 1)))))
noncomputable def b2_leads : MS :=
  (mSeq (mPar 3 4 (mVar 2) (mC (.int 0)))
  (mSeq (mWhile (mtAnd (mtB (mBin opIsNot (mBin opIx (mVar 1) (mVar 3)) (mC .non))) (mtB (mBin opLt (mVar 4) (mCall biLen (mCons (mVar 0) mNil))))) b1_leads)
  (mIfS (mtB (mBin opNe (mVar 3) (mBin opSub (mCall biLen (mCons (mVar 0) mNil)) (mC (.int 1))))) (mRet (mC (.bl false))) mSkip)))
noncomputable def m_leads : MS :=
  (mSeq (mFor (srcRange1 (mCons (mCall biLen (mCons (mVar 0) mNil)) mNil)) (tgN 2) b2_leads)
  (mRet (mAnd (mBin opEq (mCall biLen (mCons (mVar 1) mNil)) (mCall biLen (mCons (mVar 0) mNil))) (mBin opEq (mMethT mtCountT (mVar 1) (mCons (mC .non) mNil)) (mC (.int 1))))))
noncomputable def M_leads : List R → Store → Out R := mDefV 5 (m_leads)
noncomputable def b1_ahead_of__F : MS :=
  (mIfS (mtTru (mCall biIsi (mCons (mVar 4) (mCons (mC (.ty "tuple")) mNil)))) (mSeq (mSetIx (mVar 3) (mVar 2) (mBin opIx (mVar 4) (mC (.int 0))))
  (mSetIx (mVar 3) (mVar 2) (mBin opIx (mVar 4) (mC (.int 1))))) mSkip)
noncomputable def m_ahead_of__F (g_nodes : List R → Store → Out R) : MS :=
  (mSeq (mSet 1 (mCall g_nodes (mCons (mVar 0) mNil)))
  (mSeq (mSet 2 (mBin opMul (mLstV (mCons (mC .non) mNil)) (mCall biLen (mCons (mVar 1) mNil))))
  (mSeq (mFor (srcEnum (mCons (mVar 1) mNil)) (tgT [(tgN 3), (tgN 4)]) b1_ahead_of__F)
  (mRet (mCall biTupF (mCons (mVar 2) mNil))))))
noncomputable def M_ahead_of__F : List R → Store → Out R := mDefV 5 (m_ahead_of__F M_nodes)
noncomputable def m_right_120 (g_nodes : List R → Store → Out R) (g_made : List R → Store → Out R) (g_ahead_of__F : List R → Store → Out R) (g_leads : List R → Store → Out R) (g_leaves : List R → Store → Out R) (g_plain_4 : List R → Store → Out R) (g_alike_2 : List R → Store → Out R) (g_is_great : List R → Store → Out R) (g_is_small : List R → Store → Out R) (g_is_tree : List R → Store → Out R) (g_text_of : List R → Store → Out R) (g_read_tree_4 : List R → Store → Out R) : MS :=
  (mSeq (mSet 2 (mCall g_nodes (mCons (mVar 0) mNil)))
  (mSeq (mSetP 3 (mLc (srcRange1 (mCons (mCall biLen (mCons (mVar 2) mNil)) mNil)) [5] (tgN 5) mtYes (mCall g_made (mCons (mVar 2) (mCons (mVar 5) mNil)))))
  (mSeq (mIfS (mtOr (mtB (mBin opNe (mBin opIx (mVar 3) (mUn opNeg (mC (.int 1)))) (mVar 0))) (mtNot (mtTru (mCall g_leads (mCons (mVar 2) (mCons (mCall g_ahead_of__F (mCons (mVar 0) mNil)) mNil)))))) (mRet (mC (.bl false))) mSkip)
  (mSeq (mIfS (mtB (mBin opNe (mCall g_leaves (mCons (mVar 0) mNil)) (mCall biTuple (mCons (mPop (mLc (srcAny (mVar 3)) [6] (tgN 6) (mtTru (mCall biIsi (mCons (mVar 6) (mCons (mC (.ty "str")) mNil)))) (mVar 6))) mNil)))) (mRet (mC (.bl false))) mSkip)
  (mSeq (mSet 4 (mCall g_plain_4 (mCons (mVar 0) mNil)))
  (mSeq (mIfS (mtOr (mtB (mBin opNe (mCall biLen (mCons (mCall g_nodes (mCons (mVar 4) mNil)) mNil)) (mCall biLen (mCons (mVar 2) mNil)))) (mtB (mBin opNe (mPop (mCall biSortedS (mCons (mCall g_leaves (mCons (mVar 4) mNil)) mNil))) (mPop (mCall biSortedS (mCons (mCall g_leaves (mCons (mVar 0) mNil)) mNil)))))) (mRet (mC (.bl false))) mSkip)
  (mSeq (mIfS (mtOr (mtNot (mtTru (mCall g_alike_2 (mCons (mVar 0) (mCons (mVar 4) mNil))))) (mtOr (mtB (mBin opNe (mCall g_is_great (mCons (mVar 4) mNil)) (mCall g_is_great (mCons (mVar 0) mNil)))) (mtB (mBin opIsNot (mCall g_is_small (mCons (mVar 1) (mCons (mVar 4) mNil))) (mC (.bl true)))))) (mRet (mC (.bl false))) mSkip)
  (mSeq (mIfS (mtNot (mtTru (mCall biAll (mCons (mPop (mLc (srcAny (mVar 3)) [6] (tgN 6) mtYes (mAnd (mBin opIs (mCall g_is_tree (mCons (mVar 6) mNil)) (mC (.bl true))) (mBin opIs (mCall g_is_small (mCons (mVar 1) (mCons (mVar 6) mNil))) (mC (.bl true)))))) mNil)))) (mRet (mC (.bl false))) mSkip)
  (mRet (mCall biAll (mCons (mPop (mLc (srcAny (mVar 3)) [6] (tgN 6) mtYes (mBin opEq (mCall g_read_tree_4 (mCons (mCall g_text_of (mCons (mVar 6) mNil)) mNil)) (mVar 6)))) mNil)))))))))))
noncomputable def M_right_120 : List R → Store → Out R := mDefV 7 (m_right_120 M_nodes (R_made 70) M_ahead_of__F M_leads M_leaves (R_plain_4 70) M_alike_2 M_is_great M_is_small (R_is_tree 70) (R_text_of 70) M_read_tree_4)
noncomputable def b1_law_k08 (g_right_120 : List R → Store → Out R) : MS :=
  (mIfS (mtNot (mtTru (mCall g_right_120 (mCons (mVar 6) (mCons (mVar 3) mNil))))) (mRet (mC (.bl false))) mSkip)
noncomputable def b2_law_k08 (g_hand : List R → Store → Out R) (g_great : List R → Store → Out R) (g_small : List R → Store → Out R) (g_leaves_2 : List R → Store → Out R) (g_right_120 : List R → Store → Out R) (g_is_great : List R → Store → Out R) (g_leaves : List R → Store → Out R) : MS :=
  (mTrim (mSeq (mSet 2 (mCall g_hand (mCons (mVar 0) (mCons (mVar 1) mNil))))
  (mSeq (mSet 3 (mCall g_great (mCons (mVar 2) (mCons (mC (.int 8)) mNil))))
  (mSeq (mSet 4 (mCall g_small (mCons (mVar 2) (mCons (mCall g_leaves_2 (mCons (mVar 3) mNil)) (mCons (mC (.int 10)) mNil)))))
  (mSeq (mSet 5 (mIf (mtTru (mCall biIsi (mCons (mVar 4) (mCons (mC (.ty "str")) mNil)))) (mVar 4) (mTup (mCons (mBin opIx (mVar 4) (mC (.int 1))) (mCons (mBin opIx (mVar 4) (mC (.int 0))) mNil)))))
  (mSeq (mFor (srcAny (mTup (mCons (mVar 3) (mCons (mVar 4) (mCons (mVar 5) mNil))))) (tgN 6) (b1_law_k08 g_right_120))
  (mIfS (mtOr (mtB (mBin opIsNot (mCall g_is_great (mCons (mVar 3) mNil)) (mC (.bl true)))) (mtB (mBin opNe (mCall g_is_great (mCons (mVar 4) mNil)) (mBin opEq (mUn opLenSetT (mCall g_leaves (mCons (mVar 4) mNil))) (mCall biLen (mCons (mCall g_leaves (mCons (mVar 4) mNil)) mNil)))))) (mRet (mC (.bl false))) mSkip)))))))
noncomputable def m_law_k08 (g_hand : List R → Store → Out R) (g_great : List R → Store → Out R) (g_leaves_2 : List R → Store → Out R) (g_small : List R → Store → Out R) (g_right_120 : List R → Store → Out R) (g_is_great : List R → Store → Out R) (g_leaves : List R → Store → Out R) : MS :=
  (mSeq (mFor (srcRange1 (mCons (mBin opAdd (mC (.int 1)) (mCall biLen (mCons (mPop (mSl (mVar 0) moN (moS (mC (.int 20))))) mNil))) mNil)) (tgN 1) (b2_law_k08 g_hand g_great g_small g_leaves_2 g_right_120 g_is_great g_leaves))
  (mRet (mC (.bl true))))
noncomputable def M_law_k08 : List R → Store → Out R := mDef 7 (m_law_k08 M_hand M_great (R_leaves_2 70) M_small M_right_120 M_is_great M_leaves)
end Q
namespace M
open PySem PySem.Spec L2
open PyProof.Rows hiding St
def T.prt : T → List T
  | .leaf w => [.leaf w]
  | .node l r => T.prt l ++ T.prt r ++ [.node l r]
theorem T.prt_len : ∀ t : T, t.prt.length = t.cnt
  | .leaf _ => rfl
  | .node l r => by simp only [T.prt, List.length_append, T.prt_len l, T.prt_len r, T.cnt, List.length_cons, List.length_nil]
theorem T.prt_last : ∀ t : T, t.prt[t.cnt - 1]? = some t
  | .leaf _ => rfl
  | .node l r => by
    have e : (T.node l r).cnt - 1 = (T.prt l ++ T.prt r).length := by simp only [T.cnt, List.length_append, T.prt_len]; omega
    rw [e, T.prt, List.getElem?_append_right (Nat.le_refl _), Nat.sub_self]; rfl
/-- what a node tells of its part -/
theorem T.prt_at : ∀ (t : T) (k i : Nat) (u : T), t.prt[i]? = some u → (∃ w, u = .leaf w ∧ (T.nodesFrom k t)[i]? = some (.str w)) ∨
    ∃ l r a b, u = .node l r ∧ (T.nodesFrom k t)[i]? = some (.tup [.int ((k + a : Nat) : Int), .int ((k + b : Nat) : Int)]) ∧ t.prt[a]? = some l ∧ t.prt[b]? = some r
  | .leaf w, k, i, u, h => by
    cases i with
    | zero => cases h; exact .inl ⟨w, rfl, rfl⟩
    | succ i => simp [T.prt] at h
  | .node l r, k, i, u, h => by
    have hl := l.prt_len; have hr := r.prt_len
    have nl := T.nodesFrom_len l k; have nr := T.nodesFrom_len r (k + l.cnt)
    have cl := l.cnt_pos; have cr := r.cnt_pos
    simp only [T.prt] at h ⊢
    simp only [T.nodesFrom]
    by_cases h1 : i < l.cnt
    · rw [List.append_assoc, List.getElem?_append_left (by omega)] at h
      rcases T.prt_at l k i u h with ⟨w, e1, e2⟩ | ⟨x, y, a, b, e1, e2, e3, e4⟩
      · exact .inl ⟨w, e1, by rw [List.append_assoc, List.getElem?_append_left (by omega)]; exact e2⟩
      · have la := (List.getElem?_eq_some_iff.mp e3).1; have lb := (List.getElem?_eq_some_iff.mp e4).1
        exact .inr ⟨x, y, a, b, e1, by rw [List.append_assoc, List.getElem?_append_left (by omega)]; exact e2, by rw [List.append_assoc, List.getElem?_append_left la]; exact e3, by rw [List.append_assoc, List.getElem?_append_left lb]; exact e4⟩
    · by_cases h2 : i < l.cnt + r.cnt
      · rw [List.append_assoc, List.getElem?_append_right (by omega), List.getElem?_append_left (by omega), hl] at h
        rcases T.prt_at r (k + l.cnt) (i - l.cnt) u h with ⟨w, e1, e2⟩ | ⟨x, y, a, b, e1, e2, e3, e4⟩
        · exact .inl ⟨w, e1, by rw [List.append_assoc, List.getElem?_append_right (by omega), List.getElem?_append_left (by omega), nl]; exact e2⟩
        · have la := (List.getElem?_eq_some_iff.mp e3).1; have lb := (List.getElem?_eq_some_iff.mp e4).1
          refine .inr ⟨x, y, l.cnt + a, l.cnt + b, e1, ?_, ?_, ?_⟩
          · rw [List.append_assoc, List.getElem?_append_right (by omega), List.getElem?_append_left (by omega), nl, e2, Nat.add_assoc, Nat.add_assoc]
          · rw [List.append_assoc, List.getElem?_append_right (by omega), List.getElem?_append_left (by omega), hl, Nat.add_sub_cancel_left]; exact e3
          · rw [List.append_assoc, List.getElem?_append_right (by omega), List.getElem?_append_left (by omega), hl, Nat.add_sub_cancel_left]; exact e4
      · have hi := (List.getElem?_eq_some_iff.mp h).1
        simp only [List.length_append, List.length_cons, List.length_nil] at hi
        obtain rfl : i = l.cnt + r.cnt := by omega
        rw [List.getElem?_append_right (by simp; omega)] at h
        simp only [List.length_append, hl, hr, Nat.sub_self, List.getElem?_cons_zero] at h
        cases h
        refine .inr ⟨l, r, l.cnt - 1, l.cnt + (r.cnt - 1), rfl, ?_, ?_, ?_⟩
        · rw [List.getElem?_append_right (by simp; omega)]
          simp only [List.length_append, nl, nr, Nat.sub_self, List.getElem?_cons_zero]
          rw [show k + l.cnt - 1 = k + (l.cnt - 1) by omega, show k + l.cnt + r.cnt - 1 = k + (l.cnt + (r.cnt - 1)) by omega]
        · rw [List.append_assoc, List.getElem?_append_left (by omega)]; exact l.prt_last
        · rw [List.append_assoc, List.getElem?_append_right (by omega), List.getElem?_append_left (by omega), hl, Nat.add_sub_cancel_left]; exact r.prt_last
theorem T.prt_leaves : ∀ t : T, ((t.prt.map T.d).filter isStr) = t.ls.map D.str
  | .leaf w => rfl
  | .node l r => by
    simp only [T.prt, T.ls, List.map_append, List.filter_append, T.prt_leaves l, T.prt_leaves r]
    simp [T.d, isStr]
theorem T.prt_in : ∀ (t : T) (u : T), u ∈ t.prt → (∀ w ∈ u.ls, w ∈ t.ls) ∧ u.depth ≤ t.depth ∧ u.ls.length ≤ t.ls.length
  | .leaf w, u, h => by simp only [T.prt, List.mem_singleton] at h; subst h; exact ⟨fun w h => h, Nat.le_refl _, Nat.le_refl _⟩
  | .node l r, u, h => by
    simp only [T.prt, List.mem_append, List.mem_singleton] at h
    rcases h with (h | h) | rfl
    · obtain ⟨h1, h2, h3⟩ := T.prt_in l u h
      exact ⟨fun w hw => by simp only [T.ls, List.mem_append]; exact .inl (h1 w hw), by simp only [T.depth]; omega, by simp only [T.ls, List.length_append]; omega⟩
    · obtain ⟨h1, h2, h3⟩ := T.prt_in r u h
      exact ⟨fun w hw => by simp only [T.ls, List.mem_append]; exact .inr (h1 w hw), by simp only [T.depth]; omega, by simp only [T.ls, List.length_append]; omega⟩
    · exact ⟨fun w h => h, Nat.le_refl _, Nat.le_refl _⟩
open PySem.W in
theorem sortS_eq {xs ys : List Str} (h : xs.Perm ys) : sortS xs = sortS ys := by
  have le : ∀ a b : Str, dataLe false PyData.str a b = !strLt b a := fun a b => by
    show (!PyProof.Rows.lexLt itemOrd [.inr b.cps.toList] [.inr a.cps.toList]) = !decide (b.cps.toList < a.cps.toList)
    unfold PyProof.Rows.lexLt PyProof.Rows.lexLt
    rw [Bool.and_false, Bool.or_false]
    rfl
  have ni : ∀ a b : Str, strLt b a = false ↔ a.cps.toList ≤ b.cps.toList := fun a b => by
    unfold strLt
    rw [decide_eq_false_iff_not, List.not_lt]
  have tr : ∀ a b c : Str, dataLe false PyData.str a b = true → dataLe false PyData.str b c = true → dataLe false PyData.str a c = true := fun a b c h1 h2 => by
    rw [le] at h1 h2 ⊢
    simp only [Bool.not_eq_true'] at h1 h2 ⊢
    rw [ni] at h1 h2 ⊢
    exact List.le_trans h1 h2
  have tot : ∀ a b : Str, (dataLe false PyData.str a b || dataLe false PyData.str b a) = true := fun a b => by
    rw [le, le]
    cases q : strLt b a with
    | false => rfl
    | true => rw [strLt_asymm q]; rfl
  refine List.Perm.eq_of_pairwise (le := fun a b => dataLe false PyData.str a b = true) (fun a b _ _ h1 h2 => ?_) (List.pairwise_mergeSort tr tot xs) (List.pairwise_mergeSort tr tot ys) ((sortS_perm xs).trans (h.trans (sortS_perm ys).symm))
  rw [le] at h1 h2
  simp only [Bool.not_eq_true'] at h1 h2
  exact strLt_total h2 h1
def oP : Option Nat → PyData
  | none => .none
  | some n => .int n
theorem pys_oD : ∀ L : List (Option Nat), D.pys (L.map oD) = some (L.map oP)
  | [] => rfl
  | none :: L => by simp [D.pys, D.py, oD, oP, pys_oD L]
  | some n :: L => by simp [D.pys, D.py, oD, oP, pys_oD L]
theorem plain_oP : ∀ L : List (Option Nat), PyData.plainAll (L.map oP) = true
  | [] => rfl
  | none :: L => by simp [PyData.plainAll, PyData.plain, oP, plain_oP L]
  | some n :: L => by simp [PyData.plainAll, PyData.plain, oP, plain_oP L]
theorem cnt_oP : ∀ L : List (Option Nat), (L.map oP).countP (fun z => PyData.eqv z .none) = L.countP fun o => o.isNone
  | [] => rfl
  | none :: L => by simp [List.countP_cons, oP, PyData.eqv, cnt_oP L]
  | some n :: L => by simp [List.countP_cons, oP, PyData.eqv, cnt_oP L]
theorem ahead_none (t : T) : t.ahead.countP (fun o => o.isNone) = 1 := by
  have h : ∀ o ∈ T.ahdI 0 t, ¬ o.isNone = true := fun o ho => by
    obtain ⟨i, hi, e⟩ := List.getElem_of_mem ho
    obtain ⟨j, a, b, rfl, _⟩ := T.ahd_par t 0 i o (by rw [List.getElem?_eq_getElem hi, e])
    simp
  rw [T.ahead, List.countP_append, List.countP_eq_zero.mpr h]
  rfl
end M
namespace Q
open PySem hiding Env
open L2 M
theorem made_spec {t : T} : ∀ (k i : Nat) (u : T) (S : Store), t.prt[i]? = some u → u.depth < k → R_made k [.v (.tup t.nodes), .v (.int (i : Int))] S = .ok (.v u.d) S
  | 0, i, u, S, h, hd => by omega
  | k + 1, i, u, S, h, hd => by
    refine eq_wE ?_
    rcases T.prt_at t 0 i u h with ⟨w, rfl, e⟩ | ⟨l, r, a, b, rfl, e, ha, hb⟩
    · have ix : ∀ S, opIx (.v (.tup t.nodes)) (.v (.int (i : Int))) S = .ok (.v (.str w)) S := fun S => opIx_tup (by rw [atI_lt (by omega), Int.toNat_natCast]; exact e)
      simp_arith [R_made, m_made, ix, isi_str_str, T.d]
    · rw [Nat.zero_add, Nat.zero_add] at e
      simp only [T.depth] at hd
      have ix : ∀ S, opIx (.v (.tup t.nodes)) (.v (.int (i : Int))) S = .ok (.v (.tup [.int (a : Int), .int (b : Int)])) S := fun S => opIx_tup (by rw [atI_lt (by omega), Int.toNat_natCast]; exact e)
      simp_arith [R_made, m_made, ix, isi_tup_str, T.d, fun S => made_spec k a l S ha (by omega), fun S => made_spec k b r S hb (by omega)]
theorem ahead_F_spec {t : T} {S : Store} (hd : t.depth < 70) (hz : t.ls.length ≤ 100000) : M_ahead_of__F [.v t.d] S = .ok (.v (.kt (t.ahead.map oD))) S := by
  have e1 := fun S => nodes_spec (S := S) hd (show t.ls.length ≤ 1000000 by omega)
  have c := t.cnt_ls
  have hn := t.nodes_len
  obtain ⟨w3, w4, h⟩ := ahead_seg t [] [] S (some (.v t.d)) (some (.v (.tup t.nodes))) none none (by simp; omega)
  have h1 := h.end
  simp only [List.length_nil, List.nil_append, List.append_nil] at h1
  have ml : ∀ S, opMul (.v (.lst [D.non])) (.v (.int (t.cnt : Int))) S = .ok (.ref S.length) (S ++ [.lst ((List.replicate t.cnt D.non).map .v)]) := fun S => by
    unfold opMul
    simp only
    rw [if_pos ⟨by omega, by omega, sz_of (by simp; omega)⟩]
    congr 4
    unfold repR
    rw [show ((t.cnt : Nat) : Int).toNat = t.cnt by omega]
    rw [List.map_replicate]
    simp [List.flatten_replicate_singleton]
  have bl : ∀ S, biLen [.v (.tup t.nodes)] S = .ok (.v (.int (t.cnt : Int))) S := fun S => by rw [biLen_tup, hn]
  have g := get_len S (.lst (((T.ahdI 0 t).map oD ++ [D.non]).map R.v)) []
  have hfin : t.ahead.map oD = (T.ahdI 0 t).map oD ++ [.non] := by simp [T.ahead, oD]
  rw [hfin]
  have en : ∀ S, en1 [.v (.tup t.nodes)] S = .ok ⟨enumI t.nodes, []⟩ S := fun S => by simp [en1, seqP]
  have h1' : mForGo [] (tgT [tgN 3, tgN 4]) b1_ahead_of__F (enumI t.nodes) [some (.v t.d), some (.v (.tup t.nodes)), some (.ref S.length), none, none] (S ++ [.lst ((List.replicate t.cnt D.non).map .v)]) = .nx [some (.v t.d), some (.v (.tup t.nodes)), some (.ref S.length), w3, w4] (S ++ [.lst (((T.ahdI 0 t).map oD ++ [D.non]).map .v)]) := h1
  refine eq_wE ?_
  simp_arith [M_ahead_of__F, m_ahead_of__F, e1, bl, ml, srcEnum_eq, en]
  refine wS_eq h1' ?_
  simp_arith [biTupF_ref g, cut_app']
theorem leads_spec {t : T} {S : Store} (hz : t.ls.length ≤ 20) : M_leads [.v (.tup t.nodes), .v (.kt (t.ahead.map oD))] S = .ok (.v (.bl true)) S := by
  have c := t.cnt_ls
  have cp := t.cnt_pos
  have hn := t.nodes_len
  have al := t.ahead_len
  have bl : ∀ S, biLen [.v (.tup t.nodes)] S = .ok (.v (.int (t.cnt : Int))) S := fun S => by rw [biLen_tup, hn]
  have bk : ∀ S, biLen [.v (.kt (t.ahead.map oD))] S = .ok (.v (.int (t.cnt : Int))) S := fun S => by
    have : biLen [.v (.kt (t.ahead.map oD))] S = .ok (.v (.int ((t.ahead.map oD).length : Int))) S := by simp [biLen, seqOf]
    rw [List.length_map, al] at this
    exact this
  have ix : ∀ (x : Nat) (S : Store), x < t.cnt → opIx (.v (.kt (t.ahead.map oD))) (.v (.int (x : Int))) S = .ok (.v (oD (t.ahead.getD x none))) S := fun x S hx => opIx_kt (ahead_at hx)
  have cnt1 : ∀ S, mtCountT (.v (.kt (t.ahead.map oD))) [.v .non] S = .ok (.v (.int 1)) S := fun S => by
    have dp : (D.kt (t.ahead.map oD)).py = some (.tuple (t.ahead.map oP)) := by rw [D.py, pys_oD]; rfl
    obtain ⟨p, e1, e2⟩ := nix_pyS (k := 1) (d := .tup (t.ahead.map oD)) (fun d hd => by
      obtain ⟨o, _, rfl⟩ := List.mem_map.mp hd
      cases o <;> trivial) (by decide)
    have e3 : p = .tuple (t.ahead.map oP) := by
      rw [D.py, pys_oD] at e2
      exact (Option.some.inj e2).symm
    subst e3
    have f4 : D.pyS (.kt (t.ahead.map oD)) = some (.tuple (t.ahead.map oP)) := by
      have : D.pyS (.kt (t.ahead.map oD)) = D.pyS (.tup (t.ahead.map oD)) := by unfold D.pyS; rw [show D.py (.kt (t.ahead.map oD)) = D.py (.tup (t.ahead.map oD)) by simp [D.py]]
      rw [this]; exact e1
    have hpr : pyOf S (.v (.kt (t.ahead.map oD))) = some (.tuple (t.ahead.map oP)) := by simp [pyOf, f4]
    have hnn : pyOf S (.v .non) = some .none := by
      obtain ⟨q, g1, g2⟩ := nix_pyS (k := 1) (nix_non 1) (by decide)
      rw [show D.non.py = some .none from rfl] at g2
      cases g2
      rw [pyOf_v]; exact g1
    simp only [mtCountT, hpr, hnn]
    rw [if_pos ⟨plain_oP _, rfl, by decide⟩, cnt_oP, ahead_none]
    rfl
  refine eq_wE ?_
  simp_arith [M_leads, m_leads, bl, rg1_nat t.cnt (by omega)]
  refine for_wp [2, 3, 4] (fun i ws U => ws.length = 3 ∧ U = S) rfl ⟨rfl, rfl⟩ ?_ ?_
  · rintro i d ws U hd ⟨hws, hU⟩
    have hU := hU.symm
    subst hU
    obtain ⟨hi, rfl⟩ := rangeD_get hd
    match ws, hws with
    | [a2, a3, a4], _ =>
    simp only [Int.zero_add]
    simp_arith [b2_leads]
    refine while_wp [3, 4] (t.cnt - 1 - i) (fun j ws U => ∃ (x m : Nat), ws = [some (.v (.int (x : Int))), some (.v (.int (m : Int)))] ∧ U = S ∧ x < t.cnt ∧ x + j + 1 = t.cnt ∧ m ≤ x) (by omega) rfl ⟨i, 0, rfl, rfl, hi, by omega, by omega⟩ ?_
    rintro j ws U ⟨x, m, rfl, hU, hx, hj, hm⟩
    subst hU
    cases ha : t.ahead.getD x none with
    | none =>
      have hx1 : x + 1 = t.cnt := by
        by_cases q : x + 1 < t.cnt
        · obtain ⟨p, hp⟩ := ahead_some q
          rw [List.getD_eq_getElem?_getD, hp] at ha
          cases ha
        · omega
      have ne : ((x : Int) == (t.cnt : Int) - 1) = true := by rw [beq_iff_eq]; omega
      simp_arith [ix x _ hx, ha, oD]
      refine ⟨_, _, rfl, ?_⟩
      simp_arith [bl, hn, ne]
    | some p =>
      obtain ⟨a1, a2, a3, a4⟩ := ahead_lt ha
      obtain ⟨k1, k2, k3, _⟩ := T.kids a3
      have nd : ∀ S, opIx (.v (.tup t.nodes)) (.v (.int (p : Int))) S = .ok (.v (.tup [natD (chA t p), natD (chB t p)])) S := fun S => opIx_tup (by rw [atI_lt (by omega), Int.toNat_natCast]; exact k1)
      have hin : ∀ S, opNotIn (.v (.int (x : Int))) (.v (.tup [natD (chA t p), natD (chB t p)])) S = .ok (.v (.bl false)) S := fun S => by
        have := (opIn_nats (S := S) (w := x) (ws := [chA t p, chB t p]) (.inr rfl)).2
        rw [decide_eq_true (by simp; omega)] at this
        exact this
      have le1 : decide ((p : Int) ≤ (x : Int)) = false := decide_eq_false (by omega)
      have lt1 : decide ((m : Int) < (t.cnt : Int)) = true := decide_eq_true (by omega)
      simp_arith [ix x _ hx, ha, oD, bl, hn, lt1]
      refine ⟨_, _, rfl, ?_⟩
      simp_arith [b1_leads, ix x _ hx, ha, oD, nd, hin, le1]
      exact ⟨t.cnt - 1 - p, by omega, p, m + 1, rfl, a2, by omega, by omega⟩
  · rintro ws U ⟨hws, hU⟩
    have hU := hU.symm
    subst hU
    match ws, hws with
    | [a2, a3, a4], _ =>
    simp_arith [bk, bl, mMethT_run, isKt, cnt1, beq_self_eq_true]
theorem sorted_leaves {ws : List Str} {S : Store} (hz : ws.length ≤ 1000) : biSortedS [.v (.tup (ws.map D.str))] S = .ok (.ref S.length) (S ++ [.lst (((sortS ws).map D.str).map .v)]) := by
  have h : strsOf ((ws.map D.str).map R.v) = some ws := by rw [List.map_map]; exact strsOf_map ws
  unfold biSortedS
  simp only [h]
  rw [if_pos hz, List.map_map]
  rfl
theorem right_120_spec {t g : T} {S : Store} (ft : Fine t) (hz : t.ls.length ≤ 20) (hg : g.Ok) (gd : g.depth < 70) (gz : g.ls.length ≤ 100) (hs : ∀ w ∈ t.ls, w ∈ g.ls) : M_right_120 [.v t.d, .v g.d] S = .ok (.v (.bl true)) S := by
  have hd : t.depth < 70 := by have := ft.dep; omega
  have c := t.cnt_ls
  have cp := t.cnt_pos
  have hn := t.nodes_len
  have pl := t.prt_len
  have fp := ft.plain
  have pd : (plainN t).depth < 70 := by rw [plain_depth]; exact hd
  have pz : (plainN t).ls.length = t.ls.length := (plain_ls t).length_eq
  have nds := fun S => nodes_spec (t := t) (S := S) hd (by omega)
  have ndp := fun S => nodes_spec (t := plainN t) (S := S) pd (by omega)
  have bl : ∀ S, biLen [.v (.tup t.nodes)] S = .ok (.v (.int (t.cnt : Int))) S := fun S => by rw [biLen_tup, hn]
  have blp : ∀ S, biLen [.v (.tup (plainN t).nodes)] S = .ok (.v (.int (t.cnt : Int))) S := fun S => by
    rw [biLen_tup, (plainN t).nodes_len]
    have := (plainN t).cnt_ls
    rw [show (plainN t).cnt = t.cnt by omega]
  have lst := fun S => leaves_spec (t := t) (S := S) hd (by omega)
  have lsp := fun S => leaves_spec (t := plainN t) (S := S) pd (by omega)
  have pls := fun S => plain_spec 70 t S hd ft
  have alk := fun S => alike_spec (S := S) ft fp
  rw [plain_idem, decide_eq_true rfl] at alk
  have gr1 := fun S => is_great_T (S := S) ft.ok hd (by omega)
  have gr2 := fun S => is_great_T (S := S) fp.ok pd (by omega)
  have nde : decide (plainN t).ls.Nodup = decide t.ls.Nodup := decide_eq_decide.mpr (plain_ls t).nodup_iff
  rw [nde] at gr2
  have small : ∀ (u : T), u.Ok → u.depth < 70 → u.ls.length ≤ 1000 → (∀ w ∈ u.ls, w ∈ g.ls) → ∀ S, M_is_small [.v g.d, .v u.d] S = .ok (.v (.bl true)) S := fun u h1 h2 h3 h4 S => by
    rw [is_small_spec (S := S) hg gd (by omega) h1 h2 (by omega), List.all_eq_true.mpr fun w hw => decide_eq_true (h4 w hw)]
  have sm2 := small (plainN t) fp.ok pd (by omega) fun w hw => hs w ((plain_ls t).mem_iff.mp hw)
  have so1 := fun S => sorted_leaves (S := S) (ws := t.ls) (by omega)
  have so2 := fun S => sorted_leaves (S := S) (ws := (plainN t).ls) (by omega)
  rw [sortS_eq (plain_ls t)] at so2
  have ld := fun S => leads_spec (t := t) (S := S) hz
  have ahd := fun S => ahead_F_spec (t := t) (S := S) hd (by omega)
  have last : ∀ S, opIx (.v (.lst (t.prt.map T.d))) (.v (.int (-1))) S = .ok (.v t.d) S := fun S => by
    refine opIx_lst ?_
    rw [atI_neg (by omega) (by simp; omega), List.length_map, pl, show ((-1 : Int) + (t.cnt : Int)).toNat = t.cnt - 1 by omega, List.getElem?_map, t.prt_last]
    rfl
  have sm : ∀ S, opNe (.v t.d) (.v t.d) S = .ok (.v (.bl false)) S := fun S => by
    have := (opEq_nic (S := S) (b := decide (t = t)) 60 (nic_T t 60 (by have := ft.dep; omega) ft.ok) (nic_T t 60 (by have := ft.dep; omega) ft.ok) (by decide) (by simp)).2
    rw [decide_eq_true rfl] at this
    exact this
  have part : ∀ u ∈ t.prt, u.Ok ∧ u.depth < 60 ∧ u.ls.length ≤ 20 ∧ ∀ w ∈ u.ls, w ∈ t.ls := fun u hu => by
    obtain ⟨h1, h2, h3⟩ := t.prt_in u hu
    exact ⟨fun w hw => ft.ok w (h1 w hw), by have := ft.dep; omega, by omega, h1⟩
  refine eq_wE ?_
  simp_arith [M_right_120, m_right_120, nds, bl, hn, rg1_nat t.cnt (by omega)]
  refine lcT_wp (List.range t.cnt) (fun (i : Nat) => .v (.int (0 + (i : Int)))) (fun i => (t.prt.getD i t).d) rfl (.refl S) (sz_of (by simp; omega)) ?_ ?_
  · intro i hi acc
    have hi := List.mem_range.mp hi
    have hp : t.prt[i]? = some (t.prt.getD i t) := by rw [List.getD_eq_getElem?_getD, List.getElem?_eq_getElem (by omega)]; rfl
    have dp := (part _ (List.mem_of_getElem? hp)).2.1
    simp only [Int.zero_add]
    simp_arith [fun S => made_spec 70 i _ S hp (by omega)]
  have e1 : (List.range t.cnt).map (fun i => (t.prt.getD i t).d) = t.prt.map T.d := by
    rw [← pl]
    have := range_getD t.prt t
    calc _ = ((List.range t.prt.length).map fun i => t.prt.getD i t).map T.d := by rw [List.map_map]; rfl
      _ = _ := by rw [this]
  rw [e1]
  simp_arith [last, sm, ahd, ld, lst]
  have nixl : ∀ (ws : List Str), (∀ w ∈ ws, GoodW w) → ∀ S, opNe (.v (.tup (ws.map D.str))) (.v (.tup (ws.map D.str))) S = .ok (.v (.bl false)) S := fun ws h S => (nix_refl (S := S) 1 (d := .tup (ws.map D.str)) (fun d hd => by
    obtain ⟨w, hw, rfl⟩ := List.mem_map.mp hd
    exact (h w hw).ok) (by decide)).2
  have nixs : ∀ (ws : List Str), (∀ w ∈ ws, GoodW w) → ∀ S, opNe (.v (.lst (ws.map D.str))) (.v (.lst (ws.map D.str))) S = .ok (.v (.bl false)) S := fun ws h S => (nix_refl (S := S) 1 (d := .lst (ws.map D.str)) (fun d hd => by
    obtain ⟨w, hw, rfl⟩ := List.mem_map.mp hd
    exact (h w hw).ok) (by decide)).2
  have n1 := nixl t.ls ft.ok
  have n2 := nixs (sortS t.ls) fun w hw => ft.ok w ((sortS_perm t.ls).mem_iff.mp hw)
  have pn := fun (S : Store) => popV_new S ((sortS t.ls).map D.str)
  have boo : ∀ (x : Bool) (S : Store), opNe (.v (.bl x)) (.v (.bl x)) S = .ok (.v (.bl false)) S := fun x S => by rw [opNe_bl]; cases x <;> rfl
  have nn : ∀ S, opNe (.v (.int (t.cnt : Int))) (.v (.int (t.cnt : Int))) S = .ok (.v (.bl false)) S := fun S => by rw [opNe_int]; simp
  refine lc_wp t.prt (fun u => .v u.d) (fun u => isStr u.d) (fun u => u.d) (by rw [List.map_map]; rfl) (.refl S) (sz_of (by omega)) ?_ ?_
  · intro u hu acc
    cases u with
    | leaf w => simp_arith [T.d, isi_str_str]; exact ⟨rfl, fun _ => trivial⟩
    | node l r => simp_arith [T.d, isi_tup_str]; exact ⟨rfl, fun h => by cases h⟩
  have e2 : (t.prt.filter fun u => isStr u.d).map (fun u => u.d) = t.ls.map D.str := by
    rw [← t.prt_leaves, List.filter_map]; rfl
  rw [e2]
  have bb : ∀ b : Bool, (b == b) = true := fun b => by cases b <;> rfl
  have allT : ∀ S, biAll [.v (.lst (t.prt.map fun _ => D.bl true))] S = .ok (.v (.bl true)) S := fun S => by
    have h := biAll_lst (S := S) (t.prt.map fun _ => true)
    rw [List.map_map] at h
    have e : (t.prt.map fun _ => true).all id = true := by rw [List.all_eq_true]; intro x hx; obtain ⟨_, _, rfl⟩ := List.mem_map.mp hx; rfl
    rw [e] at h
    exact h
  simp_arith [biTuple_lst, n1, pls, ndp, blp, nn, hn, beq_self_eq_true, Bool.not_true, lst, lsp, so1, so2, pn, n2, alk, gr1, gr2, opNe_bl, bb, sm2, decide_true]
  refine lcT_wp t.prt (fun u => .v u.d) (fun _ => .bl true) (by rw [List.map_map]; rfl) (.refl S) (sz_of (by omega)) ?_ ?_
  · intro u hu acc
    obtain ⟨h1, h2, h3, h4⟩ := part u hu
    simp_arith [is_tree_T (show u.depth < 70 by omega) h1, small u h1 (by omega) (by omega) fun w hw => hs w (h4 w hw), decide_true]
  simp_arith [allT]
  refine lcT_wp t.prt (fun u => .v u.d) (fun _ => .bl true) (by rw [List.map_map]; rfl) (.refl S) (sz_of (by omega)) ?_ ?_
  · intro u hu acc
    obtain ⟨h1, h2, h3, h4⟩ := part u hu
    have eq : ∀ S, opEq (.v u.d) (.v u.d) S = .ok (.v (.bl true)) S := fun S => by
      have := (opEq_nic (S := S) (b := decide (u = u)) 60 (nic_T u 60 (by omega) h1) (nic_T u 60 (by omega) h1) (by decide) (by simp)).1
      rw [decide_eq_true rfl] at this
      exact this
    simp_arith [fun S => text_of_spec 70 u S (by omega) h1 (by omega), fun S => read_tree_spec (S := S) h1 (show u.depth < 70 by omega) (by omega), eq]
  simp_arith [allT]
theorem k08_main (ns : List Int) (hns : ns.length ≤ 63) : ∃ S', M_law_k08 [.v (.kl (ns.map D.int))] [] = .ok (.v (.bl true)) S' := by
  suffices h : wE (M_law_k08 [.v (.kl (ns.map D.int))] []) (fun o => ∃ S', o = .ok (.v (.bl true)) S') from h
  have hcut : (cutD (ns.map D.int) none (some 20)).length ≤ 20 := by rw [cutD_take _ (by decide), List.length_take]; simp; omega
  have hs : (opSl (.v (.kl (ns.map D.int))) none (some 20) []).bind (fun r S' => popV [] r S') = .ok (.v (.lst (cutD (ns.map D.int) none (some 20)))) [] := popSl_kl (S := []) _ _ _
  simp_arith [M_law_k08, m_law_k08]
  rw [← M.wE_bind, hs]
  simp_arith []
  generalize (cutD (ns.map D.int) none (some 20)).length = q at hcut
  simp_arith [rg1_int (show (0 : Int) ≤ 1 + (q : Int) by omega) (show 1 + (q : Int) < 2 ^ 62 by omega)]
  refine for_wp [1, 2, 3, 4, 5, 6] (fun _ ws U => U = [] ∧ ws.length = 6) rfl ⟨rfl, rfl⟩ ?_ ?_
  · rintro i d ws U hd ⟨rfl, hws⟩
    obtain ⟨hi, rfl⟩ := rangeD_get hd
    match ws, hws with
    | [w1, w2, w3, w4, w5, w6], _ =>
    simp_arith [b2_law_k08, Int.zero_add]
    refine hand_hw (by omega) (by omega) fun h => ?_
    simp_arith []
    refine great_hw (n := 0) (h := h) rfl (by decide) (by decide) fun g h2 go gn gl => ?_
    have gp := g.ls_pos
    have gdp := g.depth_lt
    have gl : g.ls.length ≤ 8 := by omega
    simp_arith [fun S => leaves_2_spec 70 g S (by omega) (by omega)]
    obtain ⟨h3, s, es, ss, sl⟩ := small_spec (S := [h2.c]) (n := 0) (h := h2) (q := 10) (ws := g.ls) rfl (by intro z; rw [z] at gp; simp at gp) (by omega) (by decide) (by decide)
    refine wE_eq es ?_
    have sl : s.ls.length ≤ 10 := by omega
    have so : s.Ok := fun w hw => go w (ss w hw)
    have sdp := s.depth_lt
    have fs : Fine s := ⟨so, by omega, by omega⟩
    have fg : Fine g := ⟨go, by omega, by omega⟩
    have rg := fun S => right_120_spec (S := S) fg (by omega) go (by omega) (by omega) fun w hw => hw
    have rs := fun S => right_120_spec (S := S) fs (by omega) go (by omega) (by omega) ss
    have turn : ∃ u : T, u.Ok ∧ u.ls.length ≤ 10 ∧ (∀ w ∈ u.ls, w ∈ g.ls) ∧ ((∃ w, s = .leaf w ∧ u = s) ∨ ∃ l r, s = .node l r ∧ u = .node r l) := by
      cases s with
      | leaf w => exact ⟨_, so, sl, ss, .inl ⟨w, rfl, rfl⟩⟩
      | node l r =>
        simp only [T.ls, List.length_append] at sl
        exact ⟨.node r l, fun w hw => so w (by simp only [T.ls, List.mem_append] at hw ⊢; exact hw.symm), by simp only [T.ls, List.length_append]; omega, fun w hw => ss w (by simp only [T.ls, List.mem_append] at hw ⊢; exact hw.symm), .inr ⟨l, r, rfl, rfl⟩⟩
    obtain ⟨u, uo, ul, us, ut⟩ := turn
    have udp := u.depth_lt
    have fu : Fine u := ⟨uo, by omega, by omega⟩
    have ru := fun S => right_120_spec (S := S) fu (by omega) go (by omega) (by omega) us
    have gr := fun S => is_great_T (S := S) go (show g.depth < 70 by omega) (by omega)
    have sr := fun S => is_great_T (S := S) so (show s.depth < 70 by omega) (by omega)
    have lv := fun S => leaves_spec (t := s) (S := S) (by omega) (by omega)
    rw [decide_eq_true gn] at gr
    have eb : ((newN s.ls s.ls.length : Int) == (s.ls.length : Int)) = decide s.ls.Nodup := by
      have e := newN_nodup s.ls s.ls.length (Nat.le_refl _)
      rw [List.take_length] at e
      by_cases z : s.ls.Nodup
      · rw [decide_eq_true z]; exact beq_iff_eq.mpr (by have := e.mpr z; omega)
      · rw [decide_eq_false z]; exact beq_eq_false_iff_ne.mpr fun y => z (e.mp (by omega))
    have bb : ∀ b : Bool, (b == b) = true := fun b => by cases b <;> rfl
    have ols := fun S => opLenSetT_strs s.ls (by omega) S
    have fr2 : ∀ (a b : D) {α : Type} (S : Store) (F : List D → Store → Out α), frzO S [.v a, .v b] F = F [a, b] S := fun a b α S F => frzO_2 _ _ _
    have fr3 : ∀ (a b c : D) {α : Type} (S : Store) (F : List D → Store → Out α), frzO S [.v a, .v b, .v c] F = F [a, b, c] S := fun a b c α S F => frzO_3 _ _ _ _
    rcases ut with ⟨w, es, eu⟩ | ⟨l, r, es, eu⟩
    · have isi : ∀ S, biIsi [.v s.d, .v (.ty "str")] S = .ok (.v (.bl true)) S := fun S => by rw [es]; exact isi_str_str w
      have eu : s = u := eu.symm
      simp_arith [List.set_cons_zero, isi, fr3]
      refine for_wp [6] (fun j ws U => ws.length = 1 ∧ U = [h3.c]) rfl ⟨rfl, rfl⟩ ?_ ?_
      · rintro j d ws U hd ⟨hws, rfl⟩
        match ws, hws with
        | [a6], _ =>
        have : d = .v g.d ∨ d = .v s.d ∨ d = .v u.d := by
          have := List.mem_of_getElem? hd
          simp at this
          rcases this with h | h
          · exact .inl h
          · exact .inr (.inl h)
        rcases this with rfl | rfl | rfl
        · simp_arith [b1_law_k08, rg]
        · simp_arith [b1_law_k08, rs]
        · simp_arith [b1_law_k08, ru]
      · rintro ws U ⟨hws, rfl⟩
        match ws, hws with
        | [a6], _ =>
        simp_arith [gr, sr, lv, ols, List.length_map, eb, opNe_bl, bb, decide_true, Bool.not_true, trim_nil (show ([h3.c] : Store) ≠ [] by simp)]
    · have isi : ∀ S, biIsi [.v s.d, .v (.ty "str")] S = .ok (.v (.bl false)) S := fun S => by rw [es]; exact isi_tup_str _
      have i1 : ∀ S, opIx (.v s.d) (.v (.int 1)) S = .ok (.v r.d) S := fun S => by rw [es]; exact opIx_t1
      have i0 : ∀ S, opIx (.v s.d) (.v (.int 0)) S = .ok (.v l.d) S := fun S => by rw [es]; exact opIx_t0
      have ud : D.tup [r.d, l.d] = u.d := by rw [eu]; rfl
      simp_arith [List.set_cons_zero, isi, i0, i1, fr2, fr3, ud]
      refine for_wp [6] (fun j ws U => ws.length = 1 ∧ U = [h3.c]) rfl ⟨rfl, rfl⟩ ?_ ?_
      · rintro j d ws U hd ⟨hws, rfl⟩
        match ws, hws with
        | [a6], _ =>
        have : d = .v g.d ∨ d = .v s.d ∨ d = .v u.d := by
          have := List.mem_of_getElem? hd
          simpa using this
        rcases this with rfl | rfl | rfl
        · simp_arith [b1_law_k08, rg]
        · simp_arith [b1_law_k08, rs]
        · simp_arith [b1_law_k08, ru]
      · rintro ws U ⟨hws, rfl⟩
        match ws, hws with
        | [a6], _ =>
        simp_arith [gr, sr, lv, ols, List.length_map, eb, opNe_bl, bb, decide_true, Bool.not_true, trim_nil (show ([h3.c] : Store) ≠ [] by simp)]
  · rintro ws U ⟨rfl, hws⟩
    match ws, hws with
    | [w1, w2, w3, w4, w5, w6], _ =>
    simp_arith []
    exact ⟨_, rfl⟩
end Q
namespace K08
open PySem hiding Env
open L2 M Q
def topS (i : Nat) : Stmt := PySem.Challenge.pw_treewithin_k08_whole_trees_put_together.main.body.getD i (.Pass ⟨0, 0, 0, 0⟩)
abbrev s__law_hand : Stmt := topS 24
abbrev N__law_hand : List Str := ["_law_script", "_law_k", "_law_cell", "_law_great_here"]
theorem sc__law_hand : FnScope N__law_hand ["_law_script", "_law_k"] (defScope s__law_hand) := ⟨rfl, rfl, rfl, by decide +kernel, rfl, by decide +kernel, by decide +kernel⟩
abbrev s__law_take : Stmt := topS 25
abbrev N__law_take : List Str := ["_law_hand_here", "_law_many", "_law_digit", "_law_mixed"]
theorem sc__law_take : FnScope N__law_take ["_law_hand_here", "_law_many"] (defScope s__law_take) := ⟨rfl, rfl, rfl, by decide +kernel, rfl, by decide +kernel, by decide +kernel⟩
abbrev s__law_joined : Stmt := topS 27
abbrev N__law_joined : List Str := ["_law_hand_here", "_law_some", "_law_row", "_law_style", "_law_k", "_law_far", "_law_at"]
theorem sc__law_joined : FnScope N__law_joined ["_law_hand_here", "_law_some"] (defScope s__law_joined) := ⟨rfl, rfl, rfl, by decide +kernel, rfl, by decide +kernel, by decide +kernel⟩
abbrev s__law_words : Stmt := topS 26
abbrev N__law_words : List Str := ["_law_hand_here", "_law_many", "_law_letters", "_law_first", "_law_step", "_law_begin", "_law_found", "_law_k", "_law_end"]
theorem sc__law_words : FnScope N__law_words ["_law_hand_here", "_law_many"] (defScope s__law_words) := ⟨rfl, rfl, rfl, by decide +kernel, rfl, by decide +kernel, by decide +kernel⟩
abbrev s__law_great : Stmt := topS 28
abbrev N__law_great : List Str := ["_law_hand_here", "_law_most", "_law_many"]
theorem sc__law_great : FnScope N__law_great ["_law_hand_here", "_law_most"] (defScope s__law_great) := ⟨rfl, rfl, rfl, by decide +kernel, rfl, by decide +kernel, by decide +kernel⟩
abbrev s__law_small : Stmt := topS 30
abbrev N__law_small : List Str := ["_law_hand_here", "_law_words_here", "_law_most", "_law_many", "_law_few", "_law_k"]
theorem sc__law_small : FnScope N__law_small ["_law_hand_here", "_law_words_here", "_law_most"] (defScope s__law_small) := ⟨rfl, rfl, rfl, by decide +kernel, rfl, by decide +kernel, by decide +kernel⟩
abbrev s__law_leaves : Stmt := topS 29
abbrev N__law_leaves : List Str := ["_law_tree"]
theorem sc__law_leaves : FnScope N__law_leaves ["_law_tree"] (defScope s__law_leaves) := ⟨rfl, rfl, rfl, by decide +kernel, rfl, by decide +kernel, by decide +kernel⟩
abbrev s_put_nodes : Stmt := topS 6
abbrev N_put_nodes : List Str := ["tree", "found", "one"]
theorem sc_put_nodes : FnScope N_put_nodes ["tree", "found"] (defScope s_put_nodes) := ⟨rfl, rfl, rfl, by decide +kernel, rfl, by decide +kernel, by decide +kernel⟩
abbrev s_nodes : Stmt := topS 7
abbrev N_nodes : List Str := ["tree", "found"]
theorem sc_nodes : FnScope N_nodes ["tree"] (defScope s_nodes) := ⟨rfl, rfl, rfl, by decide +kernel, rfl, by decide +kernel, by decide +kernel⟩
abbrev s_text_of : Stmt := topS 12
abbrev N_text_of : List Str := ["tree"]
theorem sc_text_of : FnScope N_text_of ["tree"] (defScope s_text_of) := ⟨rfl, rfl, rfl, by decide +kernel, rfl, by decide +kernel, by decide +kernel⟩
abbrev s_plain : Stmt := topS 13
abbrev N_plain : List Str := ["tree"]
theorem sc_plain : FnScope N_plain ["tree"] (defScope s_plain) := ⟨rfl, rfl, rfl, by decide +kernel, rfl, by decide +kernel, by decide +kernel⟩
abbrev s__law_made : Stmt := topS 31
abbrev N__law_made : List Str := ["_law_some", "_law_number", "_law_node"]
theorem sc__law_made : FnScope N__law_made ["_law_some", "_law_number"] (defScope s__law_made) := ⟨rfl, rfl, rfl, by decide +kernel, rfl, by decide +kernel, by decide +kernel⟩
abbrev s_leaves : Stmt := topS 8
abbrev N_leaves : List Str := ["tree", "node"]
theorem sc_leaves : FnScope N_leaves ["tree"] (defScope s_leaves) := ⟨rfl, rfl, rfl, by decide +kernel, rfl, by decide +kernel, by decide +kernel⟩
abbrev s__law_leads : Stmt := topS 32
abbrev N__law_leads : List Str := ["_law_some", "_law_ahead", "_law_number", "_law_here", "_law_many"]
theorem sc__law_leads : FnScope N__law_leads ["_law_some", "_law_ahead"] (defScope s__law_leads) := ⟨rfl, rfl, rfl, by decide +kernel, rfl, by decide +kernel, by decide +kernel⟩
abbrev s_alike : Stmt := topS 14
abbrev N_alike : List Str := ["one", "other"]
theorem sc_alike : FnScope N_alike ["one", "other"] (defScope s_alike) := ⟨rfl, rfl, rfl, by decide +kernel, rfl, by decide +kernel, by decide +kernel⟩
abbrev s_is_word : Stmt := topS 4
abbrev N_is_word : List Str := ["thing", "letter"]
theorem sc_is_word : FnScope N_is_word ["thing"] (defScope s_is_word) := ⟨rfl, rfl, rfl, by decide +kernel, rfl, by decide +kernel, by decide +kernel⟩
abbrev s_is_tree : Stmt := topS 5
abbrev N_is_tree : List Str := ["thing"]
theorem sc_is_tree : FnScope N_is_tree ["thing"] (defScope s_is_tree) := ⟨rfl, rfl, rfl, by decide +kernel, rfl, by decide +kernel, by decide +kernel⟩
abbrev s_is_great : Stmt := topS 10
abbrev N_is_great : List Str := ["thing", "words"]
theorem sc_is_great : FnScope N_is_great ["thing"] (defScope s_is_great) := ⟨rfl, rfl, rfl, by decide +kernel, rfl, by decide +kernel, by decide +kernel⟩
abbrev s_is_small : Stmt := topS 11
abbrev N_is_small : List Str := ["great", "thing", "houses", "word"]
theorem sc_is_small : FnScope N_is_small ["great", "thing"] (defScope s_is_small) := ⟨rfl, rfl, rfl, by decide +kernel, rfl, by decide +kernel, by decide +kernel⟩
abbrev s_ahead_of__F : Stmt := topS 9
abbrev N_ahead_of__F : List Str := ["tree", "some", "found", "number", "node"]
theorem sc_ahead_of__F : FnScope N_ahead_of__F ["tree"] (defScope s_ahead_of__F) := ⟨rfl, rfl, rfl, by decide +kernel, rfl, by decide +kernel, by decide +kernel⟩
abbrev s_Signs___init__ : Stmt := inClass (topS 19) 0
abbrev N_Signs___init__ : List Str := ["self", "text"]
theorem sc_Signs___init__ : FnScope N_Signs___init__ ["self", "text"] (defScope s_Signs___init__) := ⟨rfl, rfl, rfl, by decide +kernel, rfl, by decide +kernel, by decide +kernel⟩
abbrev s_signs_of : Stmt := topS 20
abbrev N_signs_of : List Str := ["text"]
theorem sc_signs_of : FnScope N_signs_of ["text"] (defScope s_signs_of) := ⟨rfl, rfl, rfl, by decide +kernel, rfl, by decide +kernel, by decide +kernel⟩
abbrev s_Signs_need : Stmt := inClass (topS 19) 2
abbrev N_Signs_need : List Str := ["self", "truth"]
theorem sc_Signs_need : FnScope N_Signs_need ["self", "truth"] (defScope s_Signs_need) := ⟨rfl, rfl, rfl, by decide +kernel, rfl, by decide +kernel, by decide +kernel⟩
abbrev s_Signs_sign : Stmt := inClass (topS 19) 1
abbrev N_Signs_sign : List Str := ["self"]
theorem sc_Signs_sign : FnScope N_Signs_sign ["self"] (defScope s_Signs_sign) := ⟨rfl, rfl, rfl, by decide +kernel, rfl, by decide +kernel, by decide +kernel⟩
abbrev s_Signs_take_sign : Stmt := inClass (topS 19) 3
abbrev N_Signs_take_sign : List Str := ["self", "wanted"]
theorem sc_Signs_take_sign : FnScope N_Signs_take_sign ["self", "wanted"] (defScope s_Signs_take_sign) := ⟨rfl, rfl, rfl, by decide +kernel, rfl, by decide +kernel, by decide +kernel⟩
abbrev s_Signs_take_some : Stmt := inClass (topS 19) 4
abbrev N_Signs_take_some : List Str := ["self", "signs", "most", "begin"]
theorem sc_Signs_take_some : FnScope N_Signs_take_some ["self", "signs", "most"] (defScope s_Signs_take_some) := ⟨rfl, rfl, rfl, by decide +kernel, rfl, by decide +kernel, by decide +kernel⟩
abbrev s_tree_taken : Stmt := topS 21
abbrev N_tree_taken : List Str := ["signs", "one", "other"]
theorem sc_tree_taken : FnScope N_tree_taken ["signs"] (defScope s_tree_taken) := ⟨rfl, rfl, rfl, by decide +kernel, rfl, by decide +kernel, by decide +kernel⟩
abbrev s_Signs_take_end : Stmt := inClass (topS 19) 8
abbrev N_Signs_take_end : List Str := ["self"]
theorem sc_Signs_take_end : FnScope N_Signs_take_end ["self"] (defScope s_Signs_take_end) := ⟨rfl, rfl, rfl, by decide +kernel, rfl, by decide +kernel, by decide +kernel⟩
abbrev s_read_tree : Stmt := topS 22
abbrev N_read_tree : List Str := ["text", "signs", "tree"]
theorem sc_read_tree : FnScope N_read_tree ["text"] (defScope s_read_tree) := ⟨rfl, rfl, rfl, by decide +kernel, rfl, by decide +kernel, by decide +kernel⟩
abbrev s__law_right : Stmt := topS 33
abbrev N__law_right : List Str := ["_law_tree", "_law_great_here", "_law_some", "_law_parts", "_law_other", "_law_number", "_law_part"]
theorem sc__law_right : FnScope N__law_right ["_law_tree", "_law_great_here"] (defScope s__law_right) := ⟨rfl, rfl, rfl, by decide +kernel, rfl, by decide +kernel, by decide +kernel⟩
abbrev s_law : Stmt := topS 34
abbrev N_law : List Str := ["_law_script", "_law_k", "_law_hand_here", "_law_great_here", "_law_small_here", "_law_turned", "_law_tree"]
theorem sc_law : FnScope N_law ["_law_script"] (defScope s_law) := ⟨rfl, rfl, rfl, by decide +kernel, rfl, by decide +kernel, by decide +kernel⟩
structure Tp (w : World) (K : PySem.W.Frag) (mg : Str → Option Value) where
  a__law_hand : Addr
  fd__law_hand : FuncData
  F__law_hand : Fun K "_law_hand" "_law_hand" s__law_hand a__law_hand fd__law_hand
  b__law_hand : Binds K fd__law_hand ["_law_script", "_law_k"] []
  m__law_hand : mg "_law_hand" = some (.ref a__law_hand)
  a__law_take : Addr
  fd__law_take : FuncData
  F__law_take : Fun K "_law_take" "_law_take" s__law_take a__law_take fd__law_take
  b__law_take : Binds K fd__law_take ["_law_hand_here", "_law_many"] []
  m__law_take : mg "_law_take" = some (.ref a__law_take)
  a__law_joined : Addr
  fd__law_joined : FuncData
  F__law_joined : Fun K "_law_joined" "_law_joined" s__law_joined a__law_joined fd__law_joined
  b__law_joined : Binds K fd__law_joined ["_law_hand_here", "_law_some"] []
  m__law_joined : mg "_law_joined" = some (.ref a__law_joined)
  a__law_words : Addr
  fd__law_words : FuncData
  F__law_words : Fun K "_law_words" "_law_words" s__law_words a__law_words fd__law_words
  b__law_words : Binds K fd__law_words ["_law_hand_here", "_law_many"] []
  m__law_words : mg "_law_words" = some (.ref a__law_words)
  a__law_great : Addr
  fd__law_great : FuncData
  F__law_great : Fun K "_law_great" "_law_great" s__law_great a__law_great fd__law_great
  b__law_great : Binds K fd__law_great ["_law_hand_here", "_law_most"] []
  m__law_great : mg "_law_great" = some (.ref a__law_great)
  a__law_small : Addr
  fd__law_small : FuncData
  F__law_small : Fun K "_law_small" "_law_small" s__law_small a__law_small fd__law_small
  b__law_small : Binds K fd__law_small ["_law_hand_here", "_law_words_here", "_law_most"] []
  m__law_small : mg "_law_small" = some (.ref a__law_small)
  a__law_leaves : Addr
  fd__law_leaves : FuncData
  F__law_leaves : Fun K "_law_leaves" "_law_leaves" s__law_leaves a__law_leaves fd__law_leaves
  b__law_leaves : Binds K fd__law_leaves ["_law_tree"] []
  m__law_leaves : mg "_law_leaves" = some (.ref a__law_leaves)
  a_put_nodes : Addr
  fd_put_nodes : FuncData
  F_put_nodes : Fun K "put_nodes" "put_nodes" s_put_nodes a_put_nodes fd_put_nodes
  b_put_nodes : Binds K fd_put_nodes ["tree", "found"] []
  m_put_nodes : mg "put_nodes" = some (.ref a_put_nodes)
  a_nodes : Addr
  fd_nodes : FuncData
  F_nodes : Fun K "nodes" "nodes" s_nodes a_nodes fd_nodes
  b_nodes : Binds K fd_nodes ["tree"] []
  m_nodes : mg "nodes" = some (.ref a_nodes)
  a_text_of : Addr
  fd_text_of : FuncData
  F_text_of : Fun K "text_of" "text_of" s_text_of a_text_of fd_text_of
  b_text_of : Binds K fd_text_of ["tree"] []
  m_text_of : mg "text_of" = some (.ref a_text_of)
  a_plain : Addr
  fd_plain : FuncData
  F_plain : Fun K "plain" "plain" s_plain a_plain fd_plain
  b_plain : Binds K fd_plain ["tree"] []
  m_plain : mg "plain" = some (.ref a_plain)
  a__law_made : Addr
  fd__law_made : FuncData
  F__law_made : Fun K "_law_made" "_law_made" s__law_made a__law_made fd__law_made
  b__law_made : Binds K fd__law_made ["_law_some", "_law_number"] []
  m__law_made : mg "_law_made" = some (.ref a__law_made)
  a_leaves : Addr
  fd_leaves : FuncData
  F_leaves : Fun K "leaves" "leaves" s_leaves a_leaves fd_leaves
  b_leaves : Binds K fd_leaves ["tree"] []
  m_leaves : mg "leaves" = some (.ref a_leaves)
  a__law_leads : Addr
  fd__law_leads : FuncData
  F__law_leads : Fun K "_law_leads" "_law_leads" s__law_leads a__law_leads fd__law_leads
  b__law_leads : Binds K fd__law_leads ["_law_some", "_law_ahead"] []
  m__law_leads : mg "_law_leads" = some (.ref a__law_leads)
  a_alike : Addr
  fd_alike : FuncData
  F_alike : Fun K "alike" "alike" s_alike a_alike fd_alike
  b_alike : Binds K fd_alike ["one", "other"] []
  m_alike : mg "alike" = some (.ref a_alike)
  a_is_word : Addr
  fd_is_word : FuncData
  F_is_word : Fun K "is_word" "is_word" s_is_word a_is_word fd_is_word
  b_is_word : Binds K fd_is_word ["thing"] []
  m_is_word : mg "is_word" = some (.ref a_is_word)
  a_is_tree : Addr
  fd_is_tree : FuncData
  F_is_tree : Fun K "is_tree" "is_tree" s_is_tree a_is_tree fd_is_tree
  b_is_tree : Binds K fd_is_tree ["thing"] []
  m_is_tree : mg "is_tree" = some (.ref a_is_tree)
  a_is_great : Addr
  fd_is_great : FuncData
  F_is_great : Fun K "is_great" "is_great" s_is_great a_is_great fd_is_great
  b_is_great : Binds K fd_is_great ["thing"] []
  m_is_great : mg "is_great" = some (.ref a_is_great)
  a_is_small : Addr
  fd_is_small : FuncData
  F_is_small : Fun K "is_small" "is_small" s_is_small a_is_small fd_is_small
  b_is_small : Binds K fd_is_small ["great", "thing"] []
  m_is_small : mg "is_small" = some (.ref a_is_small)
  a_ahead_of__F : Addr
  fd_ahead_of__F : FuncData
  F_ahead_of__F : Fun K "ahead_of" "ahead_of" s_ahead_of__F a_ahead_of__F fd_ahead_of__F
  b_ahead_of__F : Binds K fd_ahead_of__F ["tree"] []
  m_ahead_of__F : mg "ahead_of" = some (.ref a_ahead_of__F)
  a_Signs___init__ : Addr
  fd_Signs___init__ : FuncData
  F_Signs___init__ : Fun K "__init__" "Signs.__init__" s_Signs___init__ a_Signs___init__ fd_Signs___init__
  b_Signs___init__ : Binds K fd_Signs___init__ ["self", "text"] []
  a_signs_of : Addr
  fd_signs_of : FuncData
  F_signs_of : Fun K "signs_of" "signs_of" s_signs_of a_signs_of fd_signs_of
  b_signs_of : Binds K fd_signs_of ["text"] []
  m_signs_of : mg "signs_of" = some (.ref a_signs_of)
  a_Signs_need : Addr
  fd_Signs_need : FuncData
  F_Signs_need : Fun K "need" "Signs.need" s_Signs_need a_Signs_need fd_Signs_need
  b_Signs_need : Binds K fd_Signs_need ["self", "truth"] []
  a_Signs_sign : Addr
  fd_Signs_sign : FuncData
  F_Signs_sign : Fun K "sign" "Signs.sign" s_Signs_sign a_Signs_sign fd_Signs_sign
  b_Signs_sign : Binds K fd_Signs_sign ["self"] []
  a_Signs_take_sign : Addr
  fd_Signs_take_sign : FuncData
  F_Signs_take_sign : Fun K "take_sign" "Signs.take_sign" s_Signs_take_sign a_Signs_take_sign fd_Signs_take_sign
  b_Signs_take_sign : Binds K fd_Signs_take_sign ["self", "wanted"] []
  a_Signs_take_some : Addr
  fd_Signs_take_some : FuncData
  F_Signs_take_some : Fun K "take_some" "Signs.take_some" s_Signs_take_some a_Signs_take_some fd_Signs_take_some
  b_Signs_take_some : Binds K fd_Signs_take_some ["self", "signs", "most"] []
  a_tree_taken : Addr
  fd_tree_taken : FuncData
  F_tree_taken : Fun K "tree_taken" "tree_taken" s_tree_taken a_tree_taken fd_tree_taken
  b_tree_taken : Binds K fd_tree_taken ["signs"] []
  m_tree_taken : mg "tree_taken" = some (.ref a_tree_taken)
  a_Signs_take_end : Addr
  fd_Signs_take_end : FuncData
  F_Signs_take_end : Fun K "take_end" "Signs.take_end" s_Signs_take_end a_Signs_take_end fd_Signs_take_end
  b_Signs_take_end : Binds K fd_Signs_take_end ["self"] []
  a_read_tree : Addr
  fd_read_tree : FuncData
  F_read_tree : Fun K "read_tree" "read_tree" s_read_tree a_read_tree fd_read_tree
  b_read_tree : Binds K fd_read_tree ["text"] []
  m_read_tree : mg "read_tree" = some (.ref a_read_tree)
  a__law_right : Addr
  fd__law_right : FuncData
  F__law_right : Fun K "_law_right" "_law_right" s__law_right a__law_right fd__law_right
  b__law_right : Binds K fd__law_right ["_law_tree", "_law_great_here"] []
  m__law_right : mg "_law_right" = some (.ref a__law_right)
  a_law : Addr
  fd_law : FuncData
  F_law : Fun K "law" "law" s_law a_law fd_law
  b_law : Binds K fd_law ["_law_script"] []
  m_law : mg "law" = some (.ref a_law)
  C_Signs : Addr
  k_Signs : ClsT K "Signs" C_Signs
  mg_Signs : mg "Signs" = some (.ref C_Signs)
  mk_Signs : Mk K C_Signs a_Signs___init__
  me_Signs_need : Meth K C_Signs "need" a_Signs_need
  me_Signs_sign : Meth K C_Signs "sign" a_Signs_sign
  me_Signs_take_sign : Meth K C_Signs "take_sign" a_Signs_take_sign
  me_Signs_take_some : Meth K C_Signs "take_some" a_Signs_take_some
  me_Signs_take_end : Meth K C_Signs "take_end" a_Signs_take_end
  na_Signs_sign_at : NoAttr K C_Signs "sign_at"
  na_Signs_whole_text : NoAttr K C_Signs "whole_text"
  t_LETTERS : Tok
  c_LETTERS : mg "LETTERS" = some (.str "abcdefghijklmnopqrstuvwxyz" t_LETTERS)
  t_MOST_LETTERS : Tok
  c_MOST_LETTERS : mg "MOST_LETTERS" = some (.int 8 t_MOST_LETTERS)
  z_abs : mg "abs" = none
  z_all : mg "all" = none
  z_enumerate : mg "enumerate" = none
  z_int : mg "int" = none
  z_isinstance : mg "isinstance" = none
  z_len : mg "len" = none
  z_list : mg "list" = none
  z_range : mg "range" = none
  z_set : mg "set" = none
  z_sorted : mg "sorted" = none
  z_str : mg "str" = none
  z_tuple : mg "tuple" = none
section
variable {P : Program} {w : World} {K : PySem.W.Frag} {mg : Str → Option Value} {base : Heap}
theorem w__law_hand (T : Tp w K mg) : FnOk P w K mg base CX0 1 T.a__law_hand T.fd__law_hand ["_law_script", "_law_k"] (spM K 2 M_hand) :=
  okM (N := N__law_hand) T.F__law_hand sc__law_hand rfl fun cdv A outer s H E hr =>
  (psm_cons (psm_set 2 sc__law_hand.nd rfl (Or.inl rfl) (pm_ifExp (ptm_cmp (opm_ne hr.units) (pm_var 0) (pm_lstV pam_nil)) (pm_ix (pm_var 0) (pm_bin opm_mod (pm_var 1) (pm_callB cam_len rfl T.z_len bb_len (pam_cons (pm_var 0) pam_nil)))) pm_int))
  (psm_cons (psm_set 3 sc__law_hand.nd rfl (Or.inl rfl) (pm_bin opm_mul (pm_bin opm_mod (pm_callB cam_abs rfl T.z_abs bb_abs (pam_cons (pm_var 2) pam_nil)) (pm_bin opm_mul (pm_bin opm_mul (pm_bin opm_pow pm_int pm_int) (pm_bin opm_pow pm_int pm_int)) (pm_bin opm_pow pm_int pm_int))) (pm_callTy cam_int rfl T.z_int bb_int (pam_cons (pm_cmp opm_ge (pm_callB cam_abs rfl T.z_abs bb_abs (pam_cons (pm_var 2) pam_nil)) (pm_bin opm_pow pm_int pm_int)) pam_nil))))
  (psm_one (psm_ret (pm_lst (pam_cons (pm_var 3) (pam_cons (pm_bin opm_mod (pm_bin opm_mul (pm_bin opm_add (pm_bin opm_add (pm_bin opm_mod (pm_var 2) pm_int) (pm_bin opm_mul (pm_bin opm_mul pm_int (pm_var 1)) (pm_var 1))) pm_int) pm_int) pm_int) pam_nil)))))))
theorem w__law_take (T : Tp w K mg) : FnOk P w K mg base CX0 1 T.a__law_take T.fd__law_take ["_law_hand_here", "_law_many"] (spM K 2 M_take) :=
  okMV (N := N__law_take) T.F__law_take sc__law_take rfl fun cdv A outer s H E hr =>
  (psm_cons (psm_if (ptm_cmp opm_gt (pm_ix (pm_var 0) pm_int) pm_int) (psm_cons (psm_set 2 sc__law_take.nd rfl (Or.inl rfl) (pm_bin opm_mod (pm_ix (pm_var 0) pm_int) (pm_var 1)))
  (psm_cons (psm_setIx (pm_bin opm_fdiv (pm_ix (pm_var 0) pm_int) (pm_var 1)) (pm_var 0) pm_int)
  (psm_one (psm_ret (pm_var 2))))) psm_nil)
  (psm_cons (psm_setIx (pm_bin opm_mod (pm_bin opm_add (pm_bin opm_mul (pm_ix (pm_var 0) pm_int) pm_int) pm_int) pm_int) (pm_var 0) pm_int)
  (psm_cons (psm_set 3 sc__law_take.nd rfl (Or.inl rfl) (pm_bin opm_fdiv (pm_ix (pm_var 0) pm_int) pm_int))
  (psm_one (psm_ret (pm_bin opm_mod (pm_bin opm_fdiv (pm_bin opm_mod (pm_bin opm_mul (pm_var 3) (pm_var 3)) pm_int) pm_int) (pm_var 1)))))))
theorem w__law_joined (T : Tp w K mg) : FnOk P w K mg base CX0 2 T.a__law_joined T.fd__law_joined ["_law_hand_here", "_law_some"] (spM K 2 M_joined_2) :=
  okMV (N := N__law_joined) T.F__law_joined sc__law_joined rfl fun cdv A outer s H E hr =>
  (psm_cons (psm_par 2 3 rfl sc__law_joined.nd rfl rfl (by decide) rfl rfl (pm_callTy cam_list rfl T.z_list bb_list (pam_cons (pm_var 1) pam_nil)) (pm_call (w__law_take (base := base) T) (hr.mono (by omega)) rfl T.m__law_take T.F__law_take.kp T.b__law_take pass0 (fun _ => rfl) (pam_cons (pm_var 0) (pam_cons pm_int pam_nil)) (hA := (an_cons (an_cons an_nil)))) (by rfl))
  (psm_cons (psm_for PassesOwn.never rfl (pim_range1 rfl T.z_range (pam_cons (pm_bin opm_sub (pm_callB cam_len rfl T.z_len bb_len (pam_cons (pm_var 1) pam_nil)) pm_int) pam_nil)) (pgm_name 4 sc__law_joined.nd rfl (Or.inl rfl)) (psm_cons (psm_set 5 sc__law_joined.nd rfl (Or.inl rfl) (pm_bin opm_sub (pm_callB cam_len rfl T.z_len bb_len (pam_cons (pm_var 2) pam_nil)) pm_int))
  (psm_cons (psm_set 6 sc__law_joined.nd rfl (Or.inl rfl) (pm_ix (pm_lstV (pam_cons pm_int (pam_cons (pm_var 5) (pam_cons (pm_bin opm_mod (pm_var 4) (pm_bin opm_add (pm_var 5) pm_int)) (pam_cons (pm_call (w__law_take (base := base) T) (hr.mono (by omega)) rfl T.m__law_take T.F__law_take.kp T.b__law_take pass0 (fun _ => rfl) (pam_cons (pm_var 0) (pam_cons (pm_bin opm_add (pm_var 5) pm_int) pam_nil)) (hA := (an_cons (an_cons an_nil)))) (pam_cons (pm_call (w__law_take (base := base) T) (hr.mono (by omega)) rfl T.m__law_take T.F__law_take.kp T.b__law_take pass0 (fun _ => rfl) (pam_cons (pm_var 0) (pam_cons (pm_bin opm_add (pm_var 5) pm_int) pam_nil)) (hA := (an_cons (an_cons an_nil)))) pam_nil)))))) (pm_var 3)))
  (psm_one (psm_setSl (pm_lstV (pam_cons (pm_tup (pam_cons (pm_ix (pm_var 2) (pm_var 6)) (pam_cons (pm_ix (pm_var 2) (pm_bin opm_add (pm_var 6) pm_int)) pam_nil))) pam_nil)) (pm_var 2) (pom_some (pm_var 6)) (pom_some (pm_bin opm_add (pm_var 6) pm_int)))))))
  (psm_one (psm_ret (pm_ix (pm_var 2) pm_int)))))
theorem w__law_words (T : Tp w K mg) : FnOk P w K mg base CX0 2 T.a__law_words T.fd__law_words ["_law_hand_here", "_law_many"] (spM K 2 M_words) :=
  okMV (N := N__law_words) T.F__law_words sc__law_words rfl fun cdv A outer s H E hr =>
  (psm_cons (psm_set 2 sc__law_words.nd rfl (Or.inl rfl) pm_str)
  (psm_cons (psm_par 3 4 rfl sc__law_words.nd rfl rfl (by decide) rfl rfl (pm_call (w__law_take (base := base) T) (hr.mono (by omega)) rfl T.m__law_take T.F__law_take.kp T.b__law_take pass0 (fun _ => rfl) (pam_cons (pm_var 0) (pam_cons pm_int pam_nil)) (hA := (an_cons (an_cons an_nil)))) (pm_ix (pm_lstV (pam_cons pm_int (pam_cons pm_int (pam_cons pm_int (pam_cons pm_int (pam_cons pm_int (pam_cons pm_int pam_nil))))))) (pm_call (w__law_take (base := base) T) (hr.mono (by omega)) rfl T.m__law_take T.F__law_take.kp T.b__law_take pass0 (fun _ => rfl) (pam_cons (pm_var 0) (pam_cons pm_int pam_nil)) (hA := (an_cons (an_cons an_nil))))) (by rfl))
  (psm_cons (psm_set 5 sc__law_words.nd rfl (Or.inl rfl) (pm_ix (pm_lstV (pam_cons pm_str (pam_cons pm_str (pam_cons pm_str pam_nil)))) (pm_call (w__law_take (base := base) T) (hr.mono (by omega)) rfl T.m__law_take T.F__law_take.kp T.b__law_take pass0 (fun _ => rfl) (pam_cons (pm_var 0) (pam_cons pm_int pam_nil)) (hA := (an_cons (an_cons an_nil))))))
  (psm_cons (psm_set 6 sc__law_words.nd rfl (Or.inl rfl) (pm_lst pam_nil))
  (psm_cons (psm_for PassesOwn.never rfl (pim_range1 rfl T.z_range (pam_cons (pm_var 1) pam_nil)) (pgm_name 7 sc__law_words.nd rfl (Or.inl rfl)) (psm_cons (psm_set 8 sc__law_words.nd rfl (Or.inl rfl) (pm_ix (pm_lstV (pam_cons pm_str (pam_cons pm_str (pam_cons pm_str (pam_cons pm_str pam_nil))))) (pm_call (w__law_take (base := base) T) (hr.mono (by omega)) rfl T.m__law_take T.F__law_take.kp T.b__law_take pass0 (fun _ => rfl) (pam_cons (pm_var 0) (pam_cons pm_int pam_nil)) (hA := (an_cons (an_cons an_nil))))))
  (psm_one (psm_expr (pm_bm PySem.F.plainAttrs_list PySem.F.slot_list_append PySem.F.type_list_append mtm_append (pm_var 6) (pam_cons (pm_bin opm_add (pm_bin opm_add (pm_var 5) (pm_ix (pm_var 2) (pm_bin opm_mod (pm_bin opm_add (pm_var 3) (pm_bin opm_mul (pm_var 4) (pm_var 7))) pm_int))) (pm_var 8)) pam_nil))))))
  (psm_one (psm_ret (pm_var 6))))))))
theorem w__law_great (T : Tp w K mg) : FnOk P w K mg base CX0 3 T.a__law_great T.fd__law_great ["_law_hand_here", "_law_most"] (spM K 2 M_great) :=
  okMV (N := N__law_great) T.F__law_great sc__law_great rfl fun cdv A outer s H E hr =>
  (psm_cons (psm_set 2 sc__law_great.nd rfl (Or.inl rfl) (pm_bin opm_add pm_int (pm_call (w__law_take (base := base) T) (hr.mono (by omega)) rfl T.m__law_take T.F__law_take.kp T.b__law_take pass0 (fun _ => rfl) (pam_cons (pm_var 0) (pam_cons (pm_ix (pm_lstV (pam_cons pm_int (pam_cons (pm_var 1) pam_nil))) (pm_callTy cam_int rfl T.z_int bb_int (pam_cons (pm_cmp (opm_eq hr.units) (pm_call (w__law_take (base := base) T) (hr.mono (by omega)) rfl T.m__law_take T.F__law_take.kp T.b__law_take pass0 (fun _ => rfl) (pam_cons (pm_var 0) (pam_cons pm_int pam_nil)) (hA := (an_cons (an_cons an_nil)))) pm_int) pam_nil))) pam_nil)) (hA := (an_cons (an_cons an_nil))))))
  (psm_one (psm_ret (pm_call (w__law_joined (base := base) T) (hr.mono (by omega)) rfl T.m__law_joined T.F__law_joined.kp T.b__law_joined pass0 (fun _ => rfl) (pam_cons (pm_var 0) (pam_cons (pm_call (w__law_words (base := base) T) (hr.mono (by omega)) rfl T.m__law_words T.F__law_words.kp T.b__law_words pass0 (fun _ => rfl) (pam_cons (pm_var 0) (pam_cons (pm_var 2) pam_nil)) (hA := (an_cons (an_cons an_nil)))) pam_nil)) (hA := (an_cons (an_cons an_nil)))))))
theorem w__law_small (T : Tp w K mg) : FnOk P w K mg base CX0 3 T.a__law_small T.fd__law_small ["_law_hand_here", "_law_words_here", "_law_most"] (spM K 3 M_small) :=
  okMV (N := N__law_small) T.F__law_small sc__law_small rfl fun cdv A outer s H E hr =>
  (psm_cons (psm_set 3 sc__law_small.nd rfl (Or.inl rfl) (pm_bin opm_add pm_int (pm_call (w__law_take (base := base) T) (hr.mono (by omega)) rfl T.m__law_take T.F__law_take.kp T.b__law_take pass0 (fun _ => rfl) (pam_cons (pm_var 0) (pam_cons (pm_ix (pm_lstV (pam_cons pm_int (pam_cons (pm_var 2) pam_nil))) (pm_callTy cam_int rfl T.z_int bb_int (pam_cons (pm_cmp (opm_eq hr.units) (pm_call (w__law_take (base := base) T) (hr.mono (by omega)) rfl T.m__law_take T.F__law_take.kp T.b__law_take pass0 (fun _ => rfl) (pam_cons (pm_var 0) (pam_cons pm_int pam_nil)) (hA := (an_cons (an_cons an_nil)))) pm_int) pam_nil))) pam_nil)) (hA := (an_cons (an_cons an_nil))))))
  (psm_cons (psm_set 4 sc__law_small.nd rfl (Or.inr rfl) (pm_pop (pm_slice (pm_var 1) pom_none (pom_some (pm_bin opm_add pm_int (pm_call (w__law_take (base := base) T) (hr.mono (by omega)) rfl T.m__law_take T.F__law_take.kp T.b__law_take pass0 (fun _ => rfl) (pam_cons (pm_var 0) (pam_cons (pm_callB cam_len rfl T.z_len bb_len (pam_cons (pm_var 1) pam_nil)) pam_nil)) (hA := (an_cons (an_cons an_nil)))))))))
  (psm_one (psm_ret (pm_call (w__law_joined (base := base) T) (hr.mono (by omega)) rfl T.m__law_joined T.F__law_joined.kp T.b__law_joined pass0 (fun _ => rfl) (pam_cons (pm_var 0) (pam_cons (pm_pop (pm_lc (own := [("_law_k", 5)]) rfl sc__law_small.nd (pim_range1 rfl T.z_range (pam_cons (pm_var 3) pam_nil)) (blkOk_by (N := N__law_small) (sc := (defScope s__law_small)) (by decide +kernel)) (fun _ _ _ _ _ => (pgm_name 5 sc__law_small.nd rfl (Or.inl rfl))) (fun _ _ _ _ _ => ptsm_nil) (fun _ _ _ _ _ => (pm_ix (pm_var 4) (pm_call (w__law_take (base := base) T) (hr.mono (by omega)) rfl T.m__law_take T.F__law_take.kp T.b__law_take pass0 (fun _ => rfl) (pam_cons (pm_var 0) (pam_cons (pm_callB cam_len rfl T.z_len bb_len (pam_cons (pm_var 4) pam_nil)) pam_nil)) (hA := (an_cons (an_cons an_nil)))))))) pam_nil)) (hA := (an_cons (an_cons an_nil))))))))
theorem w__law_leaves (T : Tp w K mg) : ∀ k : Nat, FnOk P w K mg base CX0 (k + 0) T.a__law_leaves T.fd__law_leaves ["_law_tree"] (spM K 1 (R_leaves_2 k))
  | 0 => FnOk.none rfl
  | k + 1 => by
    have ih := w__law_leaves T k
    rw [show k + 1 + 0 = (k + 0) + 1 by omega]
    exact okMV (N := N__law_leaves) T.F__law_leaves sc__law_leaves rfl fun cdv A outer s H E hr =>
  (psm_cons (psm_if (ptm_val (pm_callB cam_isi rfl T.z_isinstance bb_isinstance (pam_cons (pm_var 0) (pam_cons (pm_ty rfl T.z_str bb_str) pam_nil)))) (psm_one (psm_ret (pm_lstV (pam_cons (pm_var 0) pam_nil)))) psm_nil)
  (psm_one (psm_ret (pm_bin opm_add (pm_call ih hr rfl T.m__law_leaves T.F__law_leaves.kp T.b__law_leaves pass0 (fun _ => rfl) (pam_cons (pm_ix (pm_var 0) pm_int) pam_nil) (hA := (an_cons an_nil))) (pm_call ih hr rfl T.m__law_leaves T.F__law_leaves.kp T.b__law_leaves pass0 (fun _ => rfl) (pam_cons (pm_ix (pm_var 0) pm_int) pam_nil) (hA := (an_cons an_nil)))))))
theorem w_put_nodes (T : Tp w K mg) : ∀ k : Nat, FnOk P w K mg base CX0 (k + 0) T.a_put_nodes T.fd_put_nodes ["tree", "found"] (spM K 2 (R_put_nodes k))
  | 0 => FnOk.none rfl
  | k + 1 => by
    have ih := w_put_nodes T k
    rw [show k + 1 + 0 = (k + 0) + 1 by omega]
    exact okMV (N := N_put_nodes) T.F_put_nodes sc_put_nodes rfl fun cdv A outer s H E hr =>
  (psm_cons (psm_if (ptm_val (pm_callB cam_isi rfl T.z_isinstance bb_isinstance (pam_cons (pm_var 0) (pam_cons (pm_ty rfl T.z_tuple bb_tuple) pam_nil)))) (psm_cons (psm_set 2 sc_put_nodes.nd rfl (Or.inl rfl) (pm_call ih hr rfl T.m_put_nodes T.F_put_nodes.kp T.b_put_nodes pass0 (fun _ => rfl) (pam_cons (pm_ix (pm_var 0) pm_int) (pam_cons (pm_var 1) pam_nil)) (hA := (an_cons (an_cons an_nil)))))
  (psm_one (psm_expr (pm_bm PySem.F.plainAttrs_list PySem.F.slot_list_append PySem.F.type_list_append mtm_append (pm_var 1) (pam_cons (pm_tup (pam_cons (pm_var 2) (pam_cons (pm_call ih hr rfl T.m_put_nodes T.F_put_nodes.kp T.b_put_nodes pass0 (fun _ => rfl) (pam_cons (pm_ix (pm_var 0) pm_int) (pam_cons (pm_var 1) pam_nil)) (hA := (an_cons (an_cons an_nil)))) pam_nil))) pam_nil))))) (psm_one (psm_expr (pm_bm PySem.F.plainAttrs_list PySem.F.slot_list_append PySem.F.type_list_append mtm_append (pm_var 1) (pam_cons (pm_var 0) pam_nil)))))
  (psm_one (psm_ret (pm_bin opm_sub (pm_callB cam_len rfl T.z_len bb_len (pam_cons (pm_var 1) pam_nil)) pm_int))))
theorem w_nodes (T : Tp w K mg) : FnOk P w K mg base CX0 71 T.a_nodes T.fd_nodes ["tree"] (spM K 1 M_nodes) :=
  okMV (N := N_nodes) T.F_nodes sc_nodes rfl fun cdv A outer s H E hr =>
  (psm_cons (psm_set 1 sc_nodes.nd rfl (Or.inl rfl) (pm_lst pam_nil))
  (psm_cons (psm_expr (pm_call (w_put_nodes (base := base) T 70) (hr.mono (by omega)) rfl T.m_put_nodes T.F_put_nodes.kp T.b_put_nodes pass0 (fun _ => rfl) (pam_cons (pm_var 0) (pam_cons (pm_var 1) pam_nil)) (hA := (an_cons (an_cons an_nil)))))
  (psm_one (psm_ret (pm_callTy cam_tuple rfl T.z_tuple bb_tuple (pam_cons (pm_var 1) pam_nil))))))
theorem w_text_of (T : Tp w K mg) : ∀ k : Nat, FnOk P w K mg base CX0 (k + 0) T.a_text_of T.fd_text_of ["tree"] (spM K 1 (R_text_of k))
  | 0 => FnOk.none rfl
  | k + 1 => by
    have ih := w_text_of T k
    rw [show k + 1 + 0 = (k + 0) + 1 by omega]
    exact okMV (N := N_text_of) T.F_text_of sc_text_of rfl fun cdv A outer s H E hr =>
  (psm_cons (psm_if (ptm_val (pm_callB cam_isi rfl T.z_isinstance bb_isinstance (pam_cons (pm_var 0) (pam_cons (pm_ty rfl T.z_tuple bb_tuple) pam_nil)))) (psm_one (psm_ret (pm_bin opm_add (pm_bin opm_add (pm_bin opm_add (pm_bin opm_add pm_str (pm_call ih hr rfl T.m_text_of T.F_text_of.kp T.b_text_of pass0 (fun _ => rfl) (pam_cons (pm_ix (pm_var 0) pm_int) pam_nil) (hA := (an_cons an_nil)))) pm_str) (pm_call ih hr rfl T.m_text_of T.F_text_of.kp T.b_text_of pass0 (fun _ => rfl) (pam_cons (pm_ix (pm_var 0) pm_int) pam_nil) (hA := (an_cons an_nil)))) pm_str))) psm_nil)
  (psm_one (psm_ret (pm_var 0))))
theorem w_plain (T : Tp w K mg) : ∀ k : Nat, FnOk P w K mg base CX0 (k + 72) T.a_plain T.fd_plain ["tree"] (spM K 1 (R_plain_4 k))
  | 0 => FnOk.none rfl
  | k + 1 => by
    have ih := w_plain T k
    rw [show k + 1 + 72 = (k + 72) + 1 by omega]
    exact okMV (N := N_plain) T.F_plain sc_plain rfl fun cdv A outer s H E hr =>
  (psm_cons (psm_if (ptm_not (ptm_val (pm_callB cam_isi rfl T.z_isinstance bb_isinstance (pam_cons (pm_var 0) (pam_cons (pm_ty rfl T.z_tuple bb_tuple) pam_nil))))) (psm_one (psm_ret (pm_var 0))) psm_nil)
  (psm_one (psm_ret (pm_callTy cam_tuple rfl T.z_tuple bb_tuple (pam_cons (pm_pop (pm_sortK rfl T.z_sorted rfl T.m_text_of (w_text_of (base := base) T 70) (Room.in1 (Room.in1 (hr.mono (by omega)))) T.b_text_of hr.units (fun _ => rfl) (pm_lstV (pam_cons (pm_call ih hr rfl T.m_plain T.F_plain.kp T.b_plain pass0 (fun _ => rfl) (pam_cons (pm_ix (pm_var 0) pm_int) pam_nil) (hA := (an_cons an_nil))) (pam_cons (pm_call ih hr rfl T.m_plain T.F_plain.kp T.b_plain pass0 (fun _ => rfl) (pam_cons (pm_ix (pm_var 0) pm_int) pam_nil) (hA := (an_cons an_nil))) pam_nil))))) pam_nil)))))
theorem w__law_made (T : Tp w K mg) : ∀ k : Nat, FnOk P w K mg base CX0 (k + 0) T.a__law_made T.fd__law_made ["_law_some", "_law_number"] (spM K 2 (R_made k))
  | 0 => FnOk.none rfl
  | k + 1 => by
    have ih := w__law_made T k
    rw [show k + 1 + 0 = (k + 0) + 1 by omega]
    exact okMV (N := N__law_made) T.F__law_made sc__law_made rfl fun cdv A outer s H E hr =>
  (psm_cons (psm_set 2 sc__law_made.nd rfl (Or.inl rfl) (pm_ix (pm_var 0) (pm_var 1)))
  (psm_cons (psm_if (ptm_val (pm_callB cam_isi rfl T.z_isinstance bb_isinstance (pam_cons (pm_var 2) (pam_cons (pm_ty rfl T.z_str bb_str) pam_nil)))) (psm_one (psm_ret (pm_var 2))) psm_nil)
  (psm_one (psm_ret (pm_tup (pam_cons (pm_call ih hr rfl T.m__law_made T.F__law_made.kp T.b__law_made pass0 (fun _ => rfl) (pam_cons (pm_var 0) (pam_cons (pm_ix (pm_var 2) pm_int) pam_nil)) (hA := (an_cons (an_cons an_nil)))) (pam_cons (pm_call ih hr rfl T.m__law_made T.F__law_made.kp T.b__law_made pass0 (fun _ => rfl) (pam_cons (pm_var 0) (pam_cons (pm_ix (pm_var 2) pm_int) pam_nil)) (hA := (an_cons (an_cons an_nil)))) pam_nil)))))))
theorem w_leaves (T : Tp w K mg) : FnOk P w K mg base CX0 72 T.a_leaves T.fd_leaves ["tree"] (spM K 1 M_leaves) :=
  okMV (N := N_leaves) T.F_leaves sc_leaves rfl fun cdv A outer s H E hr =>
  (psm_one (psm_ret (pm_callTy cam_tuple rfl T.z_tuple bb_tuple (pam_cons (pm_pop (pm_lc (own := [("node", 1)]) rfl sc_leaves.nd (pim_any (pm_call (w_nodes (base := base) T) (hr.mono (by omega)) rfl T.m_nodes T.F_nodes.kp T.b_nodes pass0 (fun _ => rfl) (pam_cons (pm_var 0) pam_nil) (hA := (an_cons an_nil)))) (blkOk_by (N := N_leaves) (sc := (defScope s_leaves)) (by decide +kernel)) (fun _ _ _ _ _ => (pgm_name 1 sc_leaves.nd rfl (Or.inl rfl))) (fun _ _ _ _ _ => (ptsm_one (ptm_val (pm_callB cam_isi rfl T.z_isinstance bb_isinstance (pam_cons (pm_var 1) (pam_cons (pm_ty rfl T.z_str bb_str) pam_nil)))))) (fun _ _ _ _ _ => (pm_var 1)))) pam_nil))))
theorem w__law_leads (T : Tp w K mg) : FnOk P w K mg base CX0 1 T.a__law_leads T.fd__law_leads ["_law_some", "_law_ahead"] (spM K 2 M_leads) :=
  okMV (N := N__law_leads) T.F__law_leads sc__law_leads rfl fun cdv A outer s H E hr =>
  (psm_cons (psm_for PassesOwn.never rfl (pim_range1 rfl T.z_range (pam_cons (pm_callB cam_len rfl T.z_len bb_len (pam_cons (pm_var 0) pam_nil)) pam_nil)) (pgm_name 2 sc__law_leads.nd rfl (Or.inl rfl)) (psm_cons (psm_par 3 4 rfl sc__law_leads.nd rfl rfl (by decide) rfl rfl (pm_var 2) pm_int (by rfl))
  (psm_cons (psm_while PassesOwn.never (PW.pt (pwm_and (ptm_cmp opm_isNot (pm_ix (pm_var 1) (pm_var 3)) pm_non) (pwm_and1 (ptm_cmp opm_lt (pm_var 4) (pm_callB cam_len rfl T.z_len bb_len (pam_cons (pm_var 0) pam_nil)))))) (psm_cons (psm_if (PW.pt (pwm_or (ptm_cmp (opm_notIn hr.units65) (pm_var 3) (pm_ix (pm_var 0) (pm_ix (pm_var 1) (pm_var 3))) (by rfl)) (pwm_or1 (ptm_cmp opm_le (pm_ix (pm_var 1) (pm_var 3)) (pm_var 3))))) (psm_one (psm_ret pm_bl)) psm_nil)
  (psm_one (psm_par 3 4 rfl sc__law_leads.nd rfl rfl (by decide) rfl rfl (pm_ix (pm_var 1) (pm_var 3)) (pm_bin opm_add (pm_var 4) pm_int) (by rfl)))))
  (psm_one (psm_if (ptm_cmp (opm_ne hr.units) (pm_var 3) (pm_bin opm_sub (pm_callB cam_len rfl T.z_len bb_len (pam_cons (pm_var 0) pam_nil)) pm_int)) (psm_one (psm_ret pm_bl)) psm_nil)))))
  (psm_one (psm_ret (pm_and (pm_cmp (opm_eq hr.units) (pm_callB cam_len rfl T.z_len bb_len (pam_cons (pm_var 1) pam_nil)) (pm_callB cam_len rfl T.z_len bb_len (pam_cons (pm_var 0) pam_nil))) (pm_one (pm_cmp (opm_eq hr.units) (pm_bmT PySem.F.plainAttrs_tuple PySem.F.slot_tuple_count PySem.F.type_tuple_count (mtm_countT hr.units65) (pm_var 1) (pam_cons pm_non pam_nil)) pm_int))))))
theorem w_alike (T : Tp w K mg) : FnOk P w K mg base CX0 143 T.a_alike T.fd_alike ["one", "other"] (spM K 2 M_alike_2) :=
  okMV (N := N_alike) T.F_alike sc_alike rfl fun cdv A outer s H E hr =>
  (psm_one (psm_ret (pm_cmp (opm_eq hr.units) (pm_call (w_plain (base := base) T 70) (hr.mono (by omega)) rfl T.m_plain T.F_plain.kp T.b_plain pass0 (fun _ => rfl) (pam_cons (pm_var 0) pam_nil) (hA := (an_cons an_nil))) (pm_call (w_plain (base := base) T 70) (hr.mono (by omega)) rfl T.m_plain T.F_plain.kp T.b_plain pass0 (fun _ => rfl) (pam_cons (pm_var 1) pam_nil) (hA := (an_cons an_nil))))))
theorem w_is_word (T : Tp w K mg) : FnOk P w K mg base CX0 1 T.a_is_word T.fd_is_word ["thing"] (spM K 1 M_is_word) :=
  okMV (N := N_is_word) T.F_is_word sc_is_word rfl fun cdv A outer s H E hr =>
  (psm_cons (psm_if (PW.pt (pwm_or (ptm_not (ptm_val (pm_callB cam_isi rfl T.z_isinstance bb_isinstance (pam_cons (pm_var 0) (pam_cons (pm_ty rfl T.z_str bb_str) pam_nil))))) (pwm_or1 (ptm_not (ptm_chain opm_le opm_le pm_int (pm_callB cam_len rfl T.z_len bb_len (pam_cons (pm_var 0) pam_nil)) (pm_c (pe_glob (v := .int 8) rfl T.c_MOST_LETTERS ⟨_, rfl⟩) fun _ _ => .int _)))))) (psm_one (psm_ret pm_bl)) psm_nil)
  (psm_one (psm_ret (pm_callB (cam_all rfl) rfl T.z_all bb_all (pam_cons (pm_pop (pm_lc (own := [("letter", 1)]) rfl sc_is_word.nd (pim_any (pm_var 0)) (blkOk_by (N := N_is_word) (sc := (defScope s_is_word)) (by decide +kernel)) (fun _ _ _ _ _ => (pgm_name 1 sc_is_word.nd rfl (Or.inl rfl))) (fun _ _ _ _ _ => ptsm_nil) (fun _ _ _ _ _ => (pm_cmp (opm_in hr.units65) (pm_var 1) (pm_c (pe_glob (v := .str "abcdefghijklmnopqrstuvwxyz") rfl T.c_LETTERS ⟨_, rfl⟩) fun _ _ => .str _) (by rfl))))) pam_nil)))))
theorem w_is_tree (T : Tp w K mg) : ∀ k : Nat, FnOk P w K mg base CX0 (k + 1) T.a_is_tree T.fd_is_tree ["thing"] (spM K 1 (R_is_tree k))
  | 0 => FnOk.none rfl
  | k + 1 => by
    have ih := w_is_tree T k
    rw [show k + 1 + 1 = (k + 1) + 1 by omega]
    exact okMV (N := N_is_tree) T.F_is_tree sc_is_tree rfl fun cdv A outer s H E hr =>
  (psm_cons (psm_if (ptm_val (pm_callB cam_isi rfl T.z_isinstance bb_isinstance (pam_cons (pm_var 0) (pam_cons (pm_ty rfl T.z_tuple bb_tuple) pam_nil)))) (psm_one (psm_ret (pm_and (pm_cmp (opm_eq hr.units) (pm_callB cam_len rfl T.z_len bb_len (pam_cons (pm_var 0) pam_nil)) pm_int) (pm_and (pm_call ih hr rfl T.m_is_tree T.F_is_tree.kp T.b_is_tree pass0 (fun _ => rfl) (pam_cons (pm_ix (pm_var 0) pm_int) pam_nil) (hA := (an_cons an_nil))) (pm_one (pm_call ih hr rfl T.m_is_tree T.F_is_tree.kp T.b_is_tree pass0 (fun _ => rfl) (pam_cons (pm_ix (pm_var 0) pm_int) pam_nil) (hA := (an_cons an_nil)))))))) psm_nil)
  (psm_one (psm_ret (pm_call (w_is_word (base := base) T) (hr.mono (by omega)) rfl T.m_is_word T.F_is_word.kp T.b_is_word pass0 (fun _ => rfl) (pam_cons (pm_var 0) pam_nil) (hA := (an_cons an_nil))))))
theorem w_is_great (T : Tp w K mg) : FnOk P w K mg base CX0 73 T.a_is_great T.fd_is_great ["thing"] (spM K 1 M_is_great) :=
  okMV (N := N_is_great) T.F_is_great sc_is_great rfl fun cdv A outer s H E hr =>
  (psm_cons (psm_if (ptm_not (ptm_val (pm_call (w_is_tree (base := base) T 70) (hr.mono (by omega)) rfl T.m_is_tree T.F_is_tree.kp T.b_is_tree pass0 (fun _ => rfl) (pam_cons (pm_var 0) pam_nil) (hA := (an_cons an_nil))))) (psm_one (psm_ret pm_bl)) psm_nil)
  (psm_cons (psm_set 1 sc_is_great.nd rfl (Or.inl rfl) (pm_call (w_leaves (base := base) T) (hr.mono (by omega)) rfl T.m_leaves T.F_leaves.kp T.b_leaves pass0 (fun _ => rfl) (pam_cons (pm_var 0) pam_nil) (hA := (an_cons an_nil))))
  (psm_one (psm_ret (pm_cmp (opm_eq hr.units) (pm_lenSetT rfl T.z_len rfl T.z_set (pm_var 1)) (pm_callB cam_len rfl T.z_len bb_len (pam_cons (pm_var 1) pam_nil)))))))
theorem w_is_small (T : Tp w K mg) : FnOk P w K mg base CX0 73 T.a_is_small T.fd_is_small ["great", "thing"] (spM K 2 M_is_small) :=
  okMV (N := N_is_small) T.F_is_small sc_is_small rfl fun cdv A outer s H E hr =>
  (psm_cons (psm_if (ptm_not (ptm_val (pm_call (w_is_tree (base := base) T 70) (hr.mono (by omega)) rfl T.m_is_tree T.F_is_tree.kp T.b_is_tree pass0 (fun _ => rfl) (pam_cons (pm_var 1) pam_nil) (hA := (an_cons an_nil))))) (psm_one (psm_ret pm_bl)) psm_nil)
  (psm_cons (psm_set 2 sc_is_small.nd rfl (Or.inr rfl) (pm_call (w_leaves (base := base) T) (hr.mono (by omega)) rfl T.m_leaves T.F_leaves.kp T.b_leaves pass0 (fun _ => rfl) (pam_cons (pm_var 0) pam_nil) (hA := (an_cons an_nil))))
  (psm_one (psm_ret (pm_callB (cam_all rfl) rfl T.z_all bb_all (pam_cons (pm_pop (pm_lc (own := [("word", 3)]) rfl sc_is_small.nd (pim_any (pm_call (w_leaves (base := base) T) (hr.mono (by omega)) rfl T.m_leaves T.F_leaves.kp T.b_leaves pass0 (fun _ => rfl) (pam_cons (pm_var 1) pam_nil) (hA := (an_cons an_nil)))) (blkOk_by (N := N_is_small) (sc := (defScope s_is_small)) (by decide +kernel)) (fun _ _ _ _ _ => (pgm_name 3 sc_is_small.nd rfl (Or.inl rfl))) (fun _ _ _ _ _ => ptsm_nil) (fun _ _ _ _ _ => (pm_cmp (opm_in hr.units65) (pm_var 3) (pm_var 2) (by rfl))))) pam_nil))))))
theorem w_ahead_of__F (T : Tp w K mg) : FnOk P w K mg base CX0 72 T.a_ahead_of__F T.fd_ahead_of__F ["tree"] (spM K 1 M_ahead_of__F) :=
  okMV (N := N_ahead_of__F) T.F_ahead_of__F sc_ahead_of__F rfl fun cdv A outer s H E hr =>
  (psm_cons (psm_set 1 sc_ahead_of__F.nd rfl (Or.inl rfl) (pm_call (w_nodes (base := base) T) (hr.mono (by omega)) rfl T.m_nodes T.F_nodes.kp T.b_nodes pass0 (fun _ => rfl) (pam_cons (pm_var 0) pam_nil) (hA := (an_cons an_nil))))
  (psm_cons (psm_set 2 sc_ahead_of__F.nd rfl (Or.inl rfl) (pm_bin opm_mul (pm_lstV (pam_cons pm_non pam_nil)) (pm_callB cam_len rfl T.z_len bb_len (pam_cons (pm_var 1) pam_nil))))
  (psm_cons (psm_for PassesOwn.never rfl (pim_enum rfl T.z_enumerate (pam_cons (pm_var 1) pam_nil)) (pgm_tup rfl (pgms_cons (pgm_name 3 sc_ahead_of__F.nd rfl (Or.inl rfl)) (pgms_cons (pgm_name 4 sc_ahead_of__F.nd rfl (Or.inl rfl)) pgms_nil))) (psm_one (psm_if (ptm_val (pm_callB cam_isi rfl T.z_isinstance bb_isinstance (pam_cons (pm_var 4) (pam_cons (pm_ty rfl T.z_tuple bb_tuple) pam_nil)))) (psm_cons (psm_setIx (pm_var 3) (pm_var 2) (pm_ix (pm_var 4) pm_int))
  (psm_one (psm_setIx (pm_var 3) (pm_var 2) (pm_ix (pm_var 4) pm_int)))) psm_nil)))
  (psm_one (psm_ret (pm_callTy cam_tupF rfl T.z_tuple bb_tuple (pam_cons (pm_var 2) pam_nil)))))))
theorem w_Signs___init__ (T : Tp w K mg) : FnOk P w K mg base CX0 1 T.a_Signs___init__ T.fd_Signs___init__ ["self", "text"] (spM K 2 M_Signs___init__) :=
  okM (N := N_Signs___init__) T.F_Signs___init__ sc_Signs___init__ rfl fun cdv A outer s H E hr =>
  (psm_cons (psm_fld T.k_Signs T.na_Signs_whole_text (pm_var 0) (pm_var 1))
  (psm_one (psm_fld T.k_Signs T.na_Signs_sign_at (pm_var 0) pm_int)))
theorem w_signs_of (T : Tp w K mg) : FnOk P w K mg base CX0 3 T.a_signs_of T.fd_signs_of ["text"] (spM K 1 M_signs_of_4) :=
  okM (N := N_signs_of) T.F_signs_of sc_signs_of rfl fun cdv A outer s H E hr =>
  (psm_cons (psm_if (ptm_not (ptm_val (pm_callB cam_isi rfl T.z_isinstance bb_isinstance (pam_cons (pm_var 0) (pam_cons (pm_ty rfl T.z_str bb_str) pam_nil))))) (psm_one psm_no) psm_nil)
  (psm_one (psm_ret (pm_make T.k_Signs T.mk_Signs (w_Signs___init__ (base := base) T) (hr.mono (by omega)) rfl T.mg_Signs T.b_Signs___init__ pass0 (fun _ => rfl) (pam_cons (pm_var 0) pam_nil) (hA := (an_cons an_nil))))))
theorem w_Signs_need (T : Tp w K mg) : FnOk P w K mg base CX0 1 T.a_Signs_need T.fd_Signs_need ["self", "truth"] (spM K 2 M_Signs_need_2) :=
  okMV (N := N_Signs_need) T.F_Signs_need sc_Signs_need rfl fun cdv A outer s H E hr =>
  (psm_one (psm_if (ptm_not (ptm_val (pm_var 1))) (psm_one psm_no) psm_nil))
theorem w_Signs_sign (T : Tp w K mg) : FnOk P w K mg base CX0 1 T.a_Signs_sign T.fd_Signs_sign ["self"] (spM K 1 M_Signs_sign) :=
  okMV (N := N_Signs_sign) T.F_Signs_sign sc_Signs_sign rfl fun cdv A outer s H E hr =>
  (psm_one (psm_ret (pm_pop (pm_slice (pm_fld T.k_Signs T.na_Signs_whole_text (pm_var 0)) (pom_some (pm_fld T.k_Signs T.na_Signs_sign_at (pm_var 0))) (pom_some (pm_bin opm_add (pm_fld T.k_Signs T.na_Signs_sign_at (pm_var 0)) pm_int))))))
theorem w_Signs_take_sign (T : Tp w K mg) : FnOk P w K mg base CX0 2 T.a_Signs_take_sign T.fd_Signs_take_sign ["self", "wanted"] (spM K 2 M_Signs_take_sign_2) :=
  okMV (N := N_Signs_take_sign) T.F_Signs_take_sign sc_Signs_take_sign rfl fun cdv A outer s H E hr =>
  (psm_cons (psm_expr (pm_meth T.k_Signs T.me_Signs_need (w_Signs_need (base := base) T) (hr.mono (by omega)) T.b_Signs_need pass0 (fun _ => rfl) (pm_var 0) (pam_cons (pm_cmp (opm_eq hr.units) (pm_meth0 T.k_Signs T.me_Signs_sign (w_Signs_sign (base := base) T) (hr.mono (by omega)) T.b_Signs_sign pass0 (fun _ => rfl) (pm_var 0)) (pm_var 1)) pam_nil) (hA := (an_cons an_nil))))
  (psm_one (psm_fldaug T.k_Signs T.na_Signs_sign_at (pm_var 0) pm_int ipm_add)))
theorem w_Signs_take_some (T : Tp w K mg) : FnOk P w K mg base CX0 2 T.a_Signs_take_some T.fd_Signs_take_some ["self", "signs", "most"] (spM K 3 M_Signs_take_some_2) :=
  okMV (N := N_Signs_take_some) T.F_Signs_take_some sc_Signs_take_some rfl fun cdv A outer s H E hr =>
  (psm_cons (psm_set 3 sc_Signs_take_some.nd rfl (Or.inl rfl) (pm_fld T.k_Signs T.na_Signs_sign_at (pm_var 0)))
  (psm_cons (psm_while PassesOwn.never (PW.pt (pwm_and (ptm_cmp (opm_ne hr.units) (pm_meth0 T.k_Signs T.me_Signs_sign (w_Signs_sign (base := base) T) (hr.mono (by omega)) T.b_Signs_sign pass0 (fun _ => rfl) (pm_var 0)) pm_str) (pwm_and (ptm_cmp (opm_in hr.units65) (pm_meth0 T.k_Signs T.me_Signs_sign (w_Signs_sign (base := base) T) (hr.mono (by omega)) T.b_Signs_sign pass0 (fun _ => rfl) (pm_var 0)) (pm_var 1) (by rfl)) (pwm_and1 (ptm_cmp opm_lt (pm_bin opm_sub (pm_fld T.k_Signs T.na_Signs_sign_at (pm_var 0)) (pm_var 3)) (pm_var 2)))))) (psm_one (psm_fldaug T.k_Signs T.na_Signs_sign_at (pm_var 0) pm_int ipm_add)))
  (psm_cons (psm_expr (pm_meth T.k_Signs T.me_Signs_need (w_Signs_need (base := base) T) (hr.mono (by omega)) T.b_Signs_need pass0 (fun _ => rfl) (pm_var 0) (pam_cons (pm_cmp opm_gt (pm_fld T.k_Signs T.na_Signs_sign_at (pm_var 0)) (pm_var 3)) pam_nil) (hA := (an_cons an_nil))))
  (psm_one (psm_ret (pm_pop (pm_slice (pm_fld T.k_Signs T.na_Signs_whole_text (pm_var 0)) (pom_some (pm_var 3)) (pom_some (pm_fld T.k_Signs T.na_Signs_sign_at (pm_var 0))))))))))
theorem w_tree_taken (T : Tp w K mg) : ∀ k : Nat, FnOk P w K mg base CX0 (k + 2) T.a_tree_taken T.fd_tree_taken ["signs"] (spM K 1 (R_tree_taken_3 k))
  | 0 => FnOk.none rfl
  | k + 1 => by
    have ih := w_tree_taken T k
    rw [show k + 1 + 2 = (k + 2) + 1 by omega]
    exact okMV (N := N_tree_taken) T.F_tree_taken sc_tree_taken rfl fun cdv A outer s H E hr =>
  (psm_cons (psm_if (ptm_cmp (opm_ne hr.units) (pm_meth0 T.k_Signs T.me_Signs_sign (w_Signs_sign (base := base) T) (hr.mono (by omega)) T.b_Signs_sign pass0 (fun _ => rfl) (pm_var 0)) pm_str) (psm_one (psm_ret (pm_meth T.k_Signs T.me_Signs_take_some (w_Signs_take_some (base := base) T) (hr.mono (by omega)) T.b_Signs_take_some pass0 (fun _ => rfl) (pm_var 0) (pam_cons (pm_c (pe_glob (v := .str "abcdefghijklmnopqrstuvwxyz") rfl T.c_LETTERS ⟨_, rfl⟩) fun _ _ => .str _) (pam_cons (pm_c (pe_glob (v := .int 8) rfl T.c_MOST_LETTERS ⟨_, rfl⟩) fun _ _ => .int _) pam_nil)) (hA := (an_cons (an_cons an_nil)))))) psm_nil)
  (psm_cons (psm_expr (pm_meth T.k_Signs T.me_Signs_take_sign (w_Signs_take_sign (base := base) T) (hr.mono (by omega)) T.b_Signs_take_sign pass0 (fun _ => rfl) (pm_var 0) (pam_cons pm_str pam_nil) (hA := (an_cons an_nil))))
  (psm_cons (psm_set 1 sc_tree_taken.nd rfl (Or.inl rfl) (pm_call ih hr rfl T.m_tree_taken T.F_tree_taken.kp T.b_tree_taken pass0 (fun _ => rfl) (pam_cons (pm_var 0) pam_nil) (hA := (an_cons an_nil))))
  (psm_cons (psm_expr (pm_meth T.k_Signs T.me_Signs_take_sign (w_Signs_take_sign (base := base) T) (hr.mono (by omega)) T.b_Signs_take_sign pass0 (fun _ => rfl) (pm_var 0) (pam_cons pm_str pam_nil) (hA := (an_cons an_nil))))
  (psm_cons (psm_set 2 sc_tree_taken.nd rfl (Or.inl rfl) (pm_call ih hr rfl T.m_tree_taken T.F_tree_taken.kp T.b_tree_taken pass0 (fun _ => rfl) (pam_cons (pm_var 0) pam_nil) (hA := (an_cons an_nil))))
  (psm_cons (psm_expr (pm_meth T.k_Signs T.me_Signs_take_sign (w_Signs_take_sign (base := base) T) (hr.mono (by omega)) T.b_Signs_take_sign pass0 (fun _ => rfl) (pm_var 0) (pam_cons pm_str pam_nil) (hA := (an_cons an_nil))))
  (psm_one (psm_ret (pm_tup (pam_cons (pm_var 1) (pam_cons (pm_var 2) pam_nil)))))))))))
theorem w_Signs_take_end (T : Tp w K mg) : FnOk P w K mg base CX0 2 T.a_Signs_take_end T.fd_Signs_take_end ["self"] (spM K 1 M_Signs_take_end_2) :=
  okMV (N := N_Signs_take_end) T.F_Signs_take_end sc_Signs_take_end rfl fun cdv A outer s H E hr =>
  (psm_one (psm_expr (pm_meth T.k_Signs T.me_Signs_need (w_Signs_need (base := base) T) (hr.mono (by omega)) T.b_Signs_need pass0 (fun _ => rfl) (pm_var 0) (pam_cons (pm_cmp (opm_eq hr.units) (pm_meth0 T.k_Signs T.me_Signs_sign (w_Signs_sign (base := base) T) (hr.mono (by omega)) T.b_Signs_sign pass0 (fun _ => rfl) (pm_var 0)) pm_str) pam_nil) (hA := (an_cons an_nil)))))
theorem w_read_tree (T : Tp w K mg) : FnOk P w K mg base CX0 73 T.a_read_tree T.fd_read_tree ["text"] (spM K 1 M_read_tree_4) :=
  okMV (N := N_read_tree) T.F_read_tree sc_read_tree rfl fun cdv A outer s H E hr =>
  (psm_cons (psm_set 1 sc_read_tree.nd rfl (Or.inl rfl) (pm_call (w_signs_of (base := base) T) (hr.mono (by omega)) rfl T.m_signs_of T.F_signs_of.kp T.b_signs_of pass0 (fun _ => rfl) (pam_cons (pm_var 0) pam_nil) (hA := (an_cons an_nil))))
  (psm_cons (psm_set 2 sc_read_tree.nd rfl (Or.inl rfl) (pm_call (w_tree_taken (base := base) T 70) (hr.mono (by omega)) rfl T.m_tree_taken T.F_tree_taken.kp T.b_tree_taken pass0 (fun _ => rfl) (pam_cons (pm_var 1) pam_nil) (hA := (an_cons an_nil))))
  (psm_cons (psm_expr (pm_meth0 T.k_Signs T.me_Signs_take_end (w_Signs_take_end (base := base) T) (hr.mono (by omega)) T.b_Signs_take_end pass0 (fun _ => rfl) (pm_var 1)))
  (psm_one (psm_ret (pm_var 2))))))
theorem w__law_right (T : Tp w K mg) : FnOk P w K mg base CX0 144 T.a__law_right T.fd__law_right ["_law_tree", "_law_great_here"] (spM K 2 M_right_120) :=
  okMV (N := N__law_right) T.F__law_right sc__law_right rfl fun cdv A outer s H E hr =>
  (psm_cons (psm_set 2 sc__law_right.nd rfl (Or.inr rfl) (pm_call (w_nodes (base := base) T) (hr.mono (by omega)) rfl T.m_nodes T.F_nodes.kp T.b_nodes pass0 (fun _ => rfl) (pam_cons (pm_var 0) pam_nil) (hA := (an_cons an_nil))))
  (psm_cons (psm_pop (psm_setLc 3 (own := [("_law_number", 5)]) rfl sc__law_right.nd rfl rfl (sw_true rfl rfl rfl (by decide +kernel)) (pim_range1 rfl T.z_range (pam_cons (pm_callB cam_len rfl T.z_len bb_len (pam_cons (pm_var 2) pam_nil)) pam_nil)) (blkOk_by (N := N__law_right) (sc := (defScope s__law_right)) (by decide +kernel)) (fun _ _ _ _ _ => (pgm_name 5 sc__law_right.nd rfl (Or.inl rfl))) (fun _ _ _ _ _ => ptsm_nil) (fun _ _ _ _ _ => (pm_call (w__law_made (base := base) T 70) (hr.mono (by omega)) rfl T.m__law_made T.F__law_made.kp T.b__law_made pass0 (fun _ => rfl) (pam_cons (pm_var 2) (pam_cons (pm_var 5) pam_nil)) (hA := (an_cons (an_cons an_nil)))))))
  (psm_cons (psm_if (PW.pt (pwm_or (ptm_cmp (opm_ne hr.units) (pm_ix (pm_var 3) (pm_un unm_neg pm_int)) (pm_var 0)) (pwm_or1 (ptm_not (ptm_val (pm_call (w__law_leads (base := base) T) (hr.mono (by omega)) rfl T.m__law_leads T.F__law_leads.kp T.b__law_leads pass0 (fun _ => rfl) (pam_cons (pm_var 2) (pam_cons (pm_call (w_ahead_of__F (base := base) T) (hr.mono (by omega)) rfl T.m_ahead_of__F T.F_ahead_of__F.kp T.b_ahead_of__F pass0 (fun _ => rfl) (pam_cons (pm_var 0) pam_nil) (hA := (an_cons an_nil))) pam_nil)) (hA := (an_cons (an_cons an_nil))))))))) (psm_one (psm_ret pm_bl)) psm_nil)
  (psm_cons (psm_if (ptm_cmp (opm_ne hr.units) (pm_call (w_leaves (base := base) T) (hr.mono (by omega)) rfl T.m_leaves T.F_leaves.kp T.b_leaves pass0 (fun _ => rfl) (pam_cons (pm_var 0) pam_nil) (hA := (an_cons an_nil))) (pm_callTy cam_tuple rfl T.z_tuple bb_tuple (pam_cons (pm_pop (pm_lc (own := [("_law_part", 6)]) rfl sc__law_right.nd (pim_any (pm_var 3)) (blkOk_by (N := N__law_right) (sc := (defScope s__law_right)) (by decide +kernel)) (fun _ _ _ _ _ => (pgm_name 6 sc__law_right.nd rfl (Or.inl rfl))) (fun _ _ _ _ _ => (ptsm_one (ptm_val (pm_callB cam_isi rfl T.z_isinstance bb_isinstance (pam_cons (pm_var 6) (pam_cons (pm_ty rfl T.z_str bb_str) pam_nil)))))) (fun _ _ _ _ _ => (pm_var 6)))) pam_nil))) (psm_one (psm_ret pm_bl)) psm_nil)
  (psm_cons (psm_set 4 sc__law_right.nd rfl (Or.inl rfl) (pm_call (w_plain (base := base) T 70) (hr.mono (by omega)) rfl T.m_plain T.F_plain.kp T.b_plain pass0 (fun _ => rfl) (pam_cons (pm_var 0) pam_nil) (hA := (an_cons an_nil))))
  (psm_cons (psm_if (PW.pt (pwm_or (ptm_cmp (opm_ne hr.units) (pm_callB cam_len rfl T.z_len bb_len (pam_cons (pm_call (w_nodes (base := base) T) (hr.mono (by omega)) rfl T.m_nodes T.F_nodes.kp T.b_nodes pass0 (fun _ => rfl) (pam_cons (pm_var 4) pam_nil) (hA := (an_cons an_nil))) pam_nil)) (pm_callB cam_len rfl T.z_len bb_len (pam_cons (pm_var 2) pam_nil))) (pwm_or1 (ptm_cmp (opm_ne hr.units) (pm_pop (pm_callB (cam_sortedS hr.units) rfl T.z_sorted bb_sorted (pam_cons (pm_call (w_leaves (base := base) T) (hr.mono (by omega)) rfl T.m_leaves T.F_leaves.kp T.b_leaves pass0 (fun _ => rfl) (pam_cons (pm_var 4) pam_nil) (hA := (an_cons an_nil))) pam_nil))) (pm_pop (pm_callB (cam_sortedS hr.units) rfl T.z_sorted bb_sorted (pam_cons (pm_call (w_leaves (base := base) T) (hr.mono (by omega)) rfl T.m_leaves T.F_leaves.kp T.b_leaves pass0 (fun _ => rfl) (pam_cons (pm_var 0) pam_nil) (hA := (an_cons an_nil))) pam_nil))))))) (psm_one (psm_ret pm_bl)) psm_nil)
  (psm_cons (psm_if (PW.pt (pwm_or (ptm_not (ptm_val (pm_call (w_alike (base := base) T) (hr.mono (by omega)) rfl T.m_alike T.F_alike.kp T.b_alike pass0 (fun _ => rfl) (pam_cons (pm_var 0) (pam_cons (pm_var 4) pam_nil)) (hA := (an_cons (an_cons an_nil)))))) (pwm_or (ptm_cmp (opm_ne hr.units) (pm_call (w_is_great (base := base) T) (hr.mono (by omega)) rfl T.m_is_great T.F_is_great.kp T.b_is_great pass0 (fun _ => rfl) (pam_cons (pm_var 4) pam_nil) (hA := (an_cons an_nil))) (pm_call (w_is_great (base := base) T) (hr.mono (by omega)) rfl T.m_is_great T.F_is_great.kp T.b_is_great pass0 (fun _ => rfl) (pam_cons (pm_var 0) pam_nil) (hA := (an_cons an_nil)))) (pwm_or1 (ptm_cmp opm_isNot (pm_call (w_is_small (base := base) T) (hr.mono (by omega)) rfl T.m_is_small T.F_is_small.kp T.b_is_small pass0 (fun _ => rfl) (pam_cons (pm_var 1) (pam_cons (pm_var 4) pam_nil)) (hA := (an_cons (an_cons an_nil)))) pm_bl))))) (psm_one (psm_ret pm_bl)) psm_nil)
  (psm_cons (psm_if (ptm_not (ptm_val (pm_callB (cam_all rfl) rfl T.z_all bb_all (pam_cons (pm_pop (pm_lc (own := [("_law_part", 6)]) rfl sc__law_right.nd (pim_any (pm_var 3)) (blkOk_by (N := N__law_right) (sc := (defScope s__law_right)) (by decide +kernel)) (fun _ _ _ _ _ => (pgm_name 6 sc__law_right.nd rfl (Or.inl rfl))) (fun _ _ _ _ _ => ptsm_nil) (fun _ _ _ _ _ => (pm_and (pm_cmp opm_is (pm_call (w_is_tree (base := base) T 70) (hr.mono (by omega)) rfl T.m_is_tree T.F_is_tree.kp T.b_is_tree pass0 (fun _ => rfl) (pam_cons (pm_var 6) pam_nil) (hA := (an_cons an_nil))) pm_bl) (pm_one (pm_cmp opm_is (pm_call (w_is_small (base := base) T) (hr.mono (by omega)) rfl T.m_is_small T.F_is_small.kp T.b_is_small pass0 (fun _ => rfl) (pam_cons (pm_var 1) (pam_cons (pm_var 6) pam_nil)) (hA := (an_cons (an_cons an_nil)))) pm_bl)))))) pam_nil)))) (psm_one (psm_ret pm_bl)) psm_nil)
  (psm_one (psm_ret (pm_callB (cam_all rfl) rfl T.z_all bb_all (pam_cons (pm_pop (pm_lc (own := [("_law_part", 6)]) rfl sc__law_right.nd (pim_any (pm_var 3)) (blkOk_by (N := N__law_right) (sc := (defScope s__law_right)) (by decide +kernel)) (fun _ _ _ _ _ => (pgm_name 6 sc__law_right.nd rfl (Or.inl rfl))) (fun _ _ _ _ _ => ptsm_nil) (fun _ _ _ _ _ => (pm_cmp (opm_eq hr.units) (pm_call (w_read_tree (base := base) T) (hr.mono (by omega)) rfl T.m_read_tree T.F_read_tree.kp T.b_read_tree pass0 (fun _ => rfl) (pam_cons (pm_call (w_text_of (base := base) T 70) (hr.mono (by omega)) rfl T.m_text_of T.F_text_of.kp T.b_text_of pass0 (fun _ => rfl) (pam_cons (pm_var 6) pam_nil) (hA := (an_cons an_nil))) pam_nil) (hA := (an_cons an_nil))) (pm_var 6))))) pam_nil))))))))))))
theorem w_law (T : Tp w K mg) : FnOk P w K mg base CX0 145 T.a_law T.fd_law ["_law_script"] (spM K 1 M_law_k08) :=
  okM (N := N_law) T.F_law sc_law rfl fun cdv A outer s H E hr =>
  (psm_cons (psm_for PassesOwn.never rfl (pim_range1 rfl T.z_range (pam_cons (pm_bin opm_add pm_int (pm_callB cam_len rfl T.z_len bb_len (pam_cons (pm_pop (pm_slice (pm_var 0) pom_none (pom_some pm_int))) pam_nil))) pam_nil)) (pgm_name 1 sc_law.nd rfl (Or.inl rfl)) (psm_trim (psm_cons (psm_set 2 sc_law.nd rfl (Or.inl rfl) (pm_call (w__law_hand (base := base) T) (hr.mono (by omega)) rfl T.m__law_hand T.F__law_hand.kp T.b__law_hand pass0 (fun _ => rfl) (pam_cons (pm_var 0) (pam_cons (pm_var 1) pam_nil)) (hA := (an_cons (an_cons an_nil)))))
  (psm_cons (psm_set 3 sc_law.nd rfl (Or.inl rfl) (pm_call (w__law_great (base := base) T) (hr.mono (by omega)) rfl T.m__law_great T.F__law_great.kp T.b__law_great pass0 (fun _ => rfl) (pam_cons (pm_var 2) (pam_cons pm_int pam_nil)) (hA := (an_cons (an_cons an_nil)))))
  (psm_cons (psm_set 4 sc_law.nd rfl (Or.inl rfl) (pm_call (w__law_small (base := base) T) (hr.mono (by omega)) rfl T.m__law_small T.F__law_small.kp T.b__law_small pass0 (fun _ => rfl) (pam_cons (pm_var 2) (pam_cons (pm_call (w__law_leaves (base := base) T 70) (hr.mono (by omega)) rfl T.m__law_leaves T.F__law_leaves.kp T.b__law_leaves pass0 (fun _ => rfl) (pam_cons (pm_var 3) pam_nil) (hA := (an_cons an_nil))) (pam_cons pm_int pam_nil))) (hA := (an_cons (an_cons (an_cons an_nil))))))
  (psm_cons (psm_set 5 sc_law.nd rfl (Or.inl rfl) (pm_ifExp (ptm_val (pm_callB cam_isi rfl T.z_isinstance bb_isinstance (pam_cons (pm_var 4) (pam_cons (pm_ty rfl T.z_str bb_str) pam_nil)))) (pm_var 4) (pm_tup (pam_cons (pm_ix (pm_var 4) pm_int) (pam_cons (pm_ix (pm_var 4) pm_int) pam_nil)))))
  (psm_cons (psm_for PassesOwn.never rfl (pim_any (pm_tup (pam_cons (pm_var 3) (pam_cons (pm_var 4) (pam_cons (pm_var 5) pam_nil))))) (pgm_name 6 sc_law.nd rfl (Or.inl rfl)) (psm_one (psm_if (ptm_not (ptm_val (pm_call (w__law_right (base := base) T) (hr.mono (by omega)) rfl T.m__law_right T.F__law_right.kp T.b__law_right pass0 (fun _ => rfl) (pam_cons (pm_var 6) (pam_cons (pm_var 3) pam_nil)) (hA := (an_cons (an_cons an_nil)))))) (psm_one (psm_ret pm_bl)) psm_nil)))
  (psm_one (psm_if (PW.pt (pwm_or (ptm_cmp opm_isNot (pm_call (w_is_great (base := base) T) (hr.mono (by omega)) rfl T.m_is_great T.F_is_great.kp T.b_is_great pass0 (fun _ => rfl) (pam_cons (pm_var 3) pam_nil) (hA := (an_cons an_nil))) pm_bl) (pwm_or1 (ptm_cmp (opm_ne hr.units) (pm_call (w_is_great (base := base) T) (hr.mono (by omega)) rfl T.m_is_great T.F_is_great.kp T.b_is_great pass0 (fun _ => rfl) (pam_cons (pm_var 4) pam_nil) (hA := (an_cons an_nil))) (pm_cmp (opm_eq hr.units) (pm_lenSetT rfl T.z_len rfl T.z_set (pm_call (w_leaves (base := base) T) (hr.mono (by omega)) rfl T.m_leaves T.F_leaves.kp T.b_leaves pass0 (fun _ => rfl) (pam_cons (pm_var 4) pam_nil) (hA := (an_cons an_nil)))) (pm_callB cam_len rfl T.z_len bb_len (pam_cons (pm_call (w_leaves (base := base) T) (hr.mono (by omega)) rfl T.m_leaves T.F_leaves.kp T.b_leaves pass0 (fun _ => rfl) (pam_cons (pm_var 4) pam_nil) (hA := (an_cons an_nil))) pam_nil))))))) (psm_one (psm_ret pm_bl)) psm_nil)))))))))
  (psm_one (psm_ret pm_bl)))
end
theorem all_mk {l : PySem.W.OpenLaw} {w : World} {K : PySem.W.Frag} {h : Heap} {mg : Str → Option Value} {fa : Addr} (X : K.In h) (G : h.Ns mainGlobals mg) (hfa : mg "law" = some (.ref fa))
    {f0 f1 f2 f3 f4 f5 f6 f7 f8 f9 f10 f11 f12 f13 f14 f15 f16 f17 f18 f19 f20 f21 f22 f23 f24 f25 f26 f27 f28 f29 f30 : Addr} {od0 an0 od1 an1 od2 an2 od3 an3 od4 an4 od5 an5 od6 an6 od7 an7 od8 an8 od9 an9 od10 an10 od11 an11 od12 an12 od13 an13 od14 an14 od15 an15 od16 an16 od17 an17 od18 an18 od19 an19 od20 an20 od21 an21 od22 an22 od23 an23 od24 an24 od25 an25 od26 an26 od27 an27 od28 an28 od29 an29 od30 an30 : Option Addr} {sl0 sl1 sl2 sl3 sl4 sl5 sl6 sl7 sl8 sl9 sl10 sl11 sl12 sl13 sl14 sl15 sl16 sl17 sl18 sl19 sl20 sl21 sl22 sl23 sl24 sl25 sl26 sl27 sl28 sl29 sl30 : Array (Option Value)} {oc0 kV0 dc0 pm0 cd0 ct0 oc1 kV1 dc1 pm1 cd1 ct1 oc2 kV2 dc2 pm2 cd2 ct2 oc3 kV3 dc3 pm3 cd3 ct3 oc4 kV4 dc4 pm4 cd4 ct4 oc5 kV5 dc5 pm5 cd5 ct5 oc6 kV6 dc6 pm6 cd6 ct6 oc7 kV7 dc7 pm7 cd7 ct7 oc8 kV8 dc8 pm8 cd8 ct8 oc9 kV9 dc9 pm9 cd9 ct9 oc10 kV10 dc10 pm10 cd10 ct10 oc11 kV11 dc11 pm11 cd11 ct11 oc12 kV12 dc12 pm12 cd12 ct12 oc13 kV13 dc13 pm13 cd13 ct13 oc14 kV14 dc14 pm14 cd14 ct14 oc15 kV15 dc15 pm15 cd15 ct15 oc16 kV16 dc16 pm16 cd16 ct16 oc17 kV17 dc17 pm17 cd17 ct17 oc18 kV18 dc18 pm18 cd18 ct18 oc19 kV19 dc19 pm19 cd19 ct19 oc20 kV20 dc20 pm20 cd20 ct20 oc21 kV21 dc21 pm21 cd21 ct21 oc22 kV22 dc22 pm22 cd22 ct22 oc23 kV23 dc23 pm23 cd23 ct23 oc24 kV24 dc24 pm24 cd24 ct24 oc25 kV25 dc25 pm25 cd25 ct25 oc26 kV26 dc26 pm26 cd26 ct26 oc27 kV27 dc27 pm27 cd27 ct27 oc28 kV28 dc28 pm28 cd28 ct28 oc29 kV29 dc29 pm29 cd29 ct29 oc30 kV30 dc30 pm30 cd30 ct30 : Value}
    {t_LETTERS t_MOST_LETTERS : Tok}
    {C_Signs : Addr}
    (aC_Signs : PySem.W.nsIn K mainGlobals "Signs" = some (some (.ref C_Signs)))
    (a0 : PySem.W.nsIn K mainGlobals "_law_hand" = some (some (.ref f0)))
    (l0 : K.lookup f0 = some ⟨oc0, od0, .func (PySem.W.fnOf "_law_hand" "_law_hand" (defArgs s__law_hand) (defBody s__law_hand) (defScope s__law_hand) .none kV0 dc0 pm0 an0 cd0 ct0), sl0⟩) (c0 : PySem.W.codeIn K cd0 "_law_hand" = true) (k0 : PySem.W.keepIn K (.ref f0) = true)
    (a1 : PySem.W.nsIn K mainGlobals "_law_take" = some (some (.ref f1)))
    (l1 : K.lookup f1 = some ⟨oc1, od1, .func (PySem.W.fnOf "_law_take" "_law_take" (defArgs s__law_take) (defBody s__law_take) (defScope s__law_take) .none kV1 dc1 pm1 an1 cd1 ct1), sl1⟩) (c1 : PySem.W.codeIn K cd1 "_law_take" = true) (k1 : PySem.W.keepIn K (.ref f1) = true)
    (a2 : PySem.W.nsIn K mainGlobals "_law_joined" = some (some (.ref f2)))
    (l2 : K.lookup f2 = some ⟨oc2, od2, .func (PySem.W.fnOf "_law_joined" "_law_joined" (defArgs s__law_joined) (defBody s__law_joined) (defScope s__law_joined) .none kV2 dc2 pm2 an2 cd2 ct2), sl2⟩) (c2 : PySem.W.codeIn K cd2 "_law_joined" = true) (k2 : PySem.W.keepIn K (.ref f2) = true)
    (a3 : PySem.W.nsIn K mainGlobals "_law_words" = some (some (.ref f3)))
    (l3 : K.lookup f3 = some ⟨oc3, od3, .func (PySem.W.fnOf "_law_words" "_law_words" (defArgs s__law_words) (defBody s__law_words) (defScope s__law_words) .none kV3 dc3 pm3 an3 cd3 ct3), sl3⟩) (c3 : PySem.W.codeIn K cd3 "_law_words" = true) (k3 : PySem.W.keepIn K (.ref f3) = true)
    (a4 : PySem.W.nsIn K mainGlobals "_law_great" = some (some (.ref f4)))
    (l4 : K.lookup f4 = some ⟨oc4, od4, .func (PySem.W.fnOf "_law_great" "_law_great" (defArgs s__law_great) (defBody s__law_great) (defScope s__law_great) .none kV4 dc4 pm4 an4 cd4 ct4), sl4⟩) (c4 : PySem.W.codeIn K cd4 "_law_great" = true) (k4 : PySem.W.keepIn K (.ref f4) = true)
    (a5 : PySem.W.nsIn K mainGlobals "_law_small" = some (some (.ref f5)))
    (l5 : K.lookup f5 = some ⟨oc5, od5, .func (PySem.W.fnOf "_law_small" "_law_small" (defArgs s__law_small) (defBody s__law_small) (defScope s__law_small) .none kV5 dc5 pm5 an5 cd5 ct5), sl5⟩) (c5 : PySem.W.codeIn K cd5 "_law_small" = true) (k5 : PySem.W.keepIn K (.ref f5) = true)
    (a6 : PySem.W.nsIn K mainGlobals "_law_leaves" = some (some (.ref f6)))
    (l6 : K.lookup f6 = some ⟨oc6, od6, .func (PySem.W.fnOf "_law_leaves" "_law_leaves" (defArgs s__law_leaves) (defBody s__law_leaves) (defScope s__law_leaves) .none kV6 dc6 pm6 an6 cd6 ct6), sl6⟩) (c6 : PySem.W.codeIn K cd6 "_law_leaves" = true) (k6 : PySem.W.keepIn K (.ref f6) = true)
    (a7 : PySem.W.nsIn K mainGlobals "put_nodes" = some (some (.ref f7)))
    (l7 : K.lookup f7 = some ⟨oc7, od7, .func (PySem.W.fnOf "put_nodes" "put_nodes" (defArgs s_put_nodes) (defBody s_put_nodes) (defScope s_put_nodes) .none kV7 dc7 pm7 an7 cd7 ct7), sl7⟩) (c7 : PySem.W.codeIn K cd7 "put_nodes" = true) (k7 : PySem.W.keepIn K (.ref f7) = true)
    (a8 : PySem.W.nsIn K mainGlobals "nodes" = some (some (.ref f8)))
    (l8 : K.lookup f8 = some ⟨oc8, od8, .func (PySem.W.fnOf "nodes" "nodes" (defArgs s_nodes) (defBody s_nodes) (defScope s_nodes) .none kV8 dc8 pm8 an8 cd8 ct8), sl8⟩) (c8 : PySem.W.codeIn K cd8 "nodes" = true) (k8 : PySem.W.keepIn K (.ref f8) = true)
    (a9 : PySem.W.nsIn K mainGlobals "text_of" = some (some (.ref f9)))
    (l9 : K.lookup f9 = some ⟨oc9, od9, .func (PySem.W.fnOf "text_of" "text_of" (defArgs s_text_of) (defBody s_text_of) (defScope s_text_of) .none kV9 dc9 pm9 an9 cd9 ct9), sl9⟩) (c9 : PySem.W.codeIn K cd9 "text_of" = true) (k9 : PySem.W.keepIn K (.ref f9) = true)
    (a10 : PySem.W.nsIn K mainGlobals "plain" = some (some (.ref f10)))
    (l10 : K.lookup f10 = some ⟨oc10, od10, .func (PySem.W.fnOf "plain" "plain" (defArgs s_plain) (defBody s_plain) (defScope s_plain) .none kV10 dc10 pm10 an10 cd10 ct10), sl10⟩) (c10 : PySem.W.codeIn K cd10 "plain" = true) (k10 : PySem.W.keepIn K (.ref f10) = true)
    (a11 : PySem.W.nsIn K mainGlobals "_law_made" = some (some (.ref f11)))
    (l11 : K.lookup f11 = some ⟨oc11, od11, .func (PySem.W.fnOf "_law_made" "_law_made" (defArgs s__law_made) (defBody s__law_made) (defScope s__law_made) .none kV11 dc11 pm11 an11 cd11 ct11), sl11⟩) (c11 : PySem.W.codeIn K cd11 "_law_made" = true) (k11 : PySem.W.keepIn K (.ref f11) = true)
    (a12 : PySem.W.nsIn K mainGlobals "leaves" = some (some (.ref f12)))
    (l12 : K.lookup f12 = some ⟨oc12, od12, .func (PySem.W.fnOf "leaves" "leaves" (defArgs s_leaves) (defBody s_leaves) (defScope s_leaves) .none kV12 dc12 pm12 an12 cd12 ct12), sl12⟩) (c12 : PySem.W.codeIn K cd12 "leaves" = true) (k12 : PySem.W.keepIn K (.ref f12) = true)
    (a13 : PySem.W.nsIn K mainGlobals "_law_leads" = some (some (.ref f13)))
    (l13 : K.lookup f13 = some ⟨oc13, od13, .func (PySem.W.fnOf "_law_leads" "_law_leads" (defArgs s__law_leads) (defBody s__law_leads) (defScope s__law_leads) .none kV13 dc13 pm13 an13 cd13 ct13), sl13⟩) (c13 : PySem.W.codeIn K cd13 "_law_leads" = true) (k13 : PySem.W.keepIn K (.ref f13) = true)
    (a14 : PySem.W.nsIn K mainGlobals "alike" = some (some (.ref f14)))
    (l14 : K.lookup f14 = some ⟨oc14, od14, .func (PySem.W.fnOf "alike" "alike" (defArgs s_alike) (defBody s_alike) (defScope s_alike) .none kV14 dc14 pm14 an14 cd14 ct14), sl14⟩) (c14 : PySem.W.codeIn K cd14 "alike" = true) (k14 : PySem.W.keepIn K (.ref f14) = true)
    (a15 : PySem.W.nsIn K mainGlobals "is_word" = some (some (.ref f15)))
    (l15 : K.lookup f15 = some ⟨oc15, od15, .func (PySem.W.fnOf "is_word" "is_word" (defArgs s_is_word) (defBody s_is_word) (defScope s_is_word) .none kV15 dc15 pm15 an15 cd15 ct15), sl15⟩) (c15 : PySem.W.codeIn K cd15 "is_word" = true) (k15 : PySem.W.keepIn K (.ref f15) = true)
    (a16 : PySem.W.nsIn K mainGlobals "is_tree" = some (some (.ref f16)))
    (l16 : K.lookup f16 = some ⟨oc16, od16, .func (PySem.W.fnOf "is_tree" "is_tree" (defArgs s_is_tree) (defBody s_is_tree) (defScope s_is_tree) .none kV16 dc16 pm16 an16 cd16 ct16), sl16⟩) (c16 : PySem.W.codeIn K cd16 "is_tree" = true) (k16 : PySem.W.keepIn K (.ref f16) = true)
    (a17 : PySem.W.nsIn K mainGlobals "is_great" = some (some (.ref f17)))
    (l17 : K.lookup f17 = some ⟨oc17, od17, .func (PySem.W.fnOf "is_great" "is_great" (defArgs s_is_great) (defBody s_is_great) (defScope s_is_great) .none kV17 dc17 pm17 an17 cd17 ct17), sl17⟩) (c17 : PySem.W.codeIn K cd17 "is_great" = true) (k17 : PySem.W.keepIn K (.ref f17) = true)
    (a18 : PySem.W.nsIn K mainGlobals "is_small" = some (some (.ref f18)))
    (l18 : K.lookup f18 = some ⟨oc18, od18, .func (PySem.W.fnOf "is_small" "is_small" (defArgs s_is_small) (defBody s_is_small) (defScope s_is_small) .none kV18 dc18 pm18 an18 cd18 ct18), sl18⟩) (c18 : PySem.W.codeIn K cd18 "is_small" = true) (k18 : PySem.W.keepIn K (.ref f18) = true)
    (a19 : PySem.W.nsIn K mainGlobals "ahead_of" = some (some (.ref f19)))
    (l19 : K.lookup f19 = some ⟨oc19, od19, .func (PySem.W.fnOf "ahead_of" "ahead_of" (defArgs s_ahead_of__F) (defBody s_ahead_of__F) (defScope s_ahead_of__F) .none kV19 dc19 pm19 an19 cd19 ct19), sl19⟩) (c19 : PySem.W.codeIn K cd19 "ahead_of" = true) (k19 : PySem.W.keepIn K (.ref f19) = true)
    (a20 : PySem.W.findIn K (.ref C_Signs) "__init__" = some (some (.ref f20))) (i20 : PySem.W.isFn K (.ref f20) = true)
    (l20 : K.lookup f20 = some ⟨oc20, od20, .func (PySem.W.fnOf "__init__" "Signs.__init__" (defArgs s_Signs___init__) (defBody s_Signs___init__) (defScope s_Signs___init__) .none kV20 dc20 pm20 an20 cd20 ct20), sl20⟩) (c20 : PySem.W.codeIn K cd20 "Signs.__init__" = true) (k20 : PySem.W.keepIn K (.ref f20) = true)
    (a21 : PySem.W.nsIn K mainGlobals "signs_of" = some (some (.ref f21)))
    (l21 : K.lookup f21 = some ⟨oc21, od21, .func (PySem.W.fnOf "signs_of" "signs_of" (defArgs s_signs_of) (defBody s_signs_of) (defScope s_signs_of) .none kV21 dc21 pm21 an21 cd21 ct21), sl21⟩) (c21 : PySem.W.codeIn K cd21 "signs_of" = true) (k21 : PySem.W.keepIn K (.ref f21) = true)
    (a22 : PySem.W.findIn K (.ref C_Signs) "need" = some (some (.ref f22))) (i22 : PySem.W.isFn K (.ref f22) = true)
    (l22 : K.lookup f22 = some ⟨oc22, od22, .func (PySem.W.fnOf "need" "Signs.need" (defArgs s_Signs_need) (defBody s_Signs_need) (defScope s_Signs_need) .none kV22 dc22 pm22 an22 cd22 ct22), sl22⟩) (c22 : PySem.W.codeIn K cd22 "Signs.need" = true) (k22 : PySem.W.keepIn K (.ref f22) = true)
    (a23 : PySem.W.findIn K (.ref C_Signs) "sign" = some (some (.ref f23))) (i23 : PySem.W.isFn K (.ref f23) = true)
    (l23 : K.lookup f23 = some ⟨oc23, od23, .func (PySem.W.fnOf "sign" "Signs.sign" (defArgs s_Signs_sign) (defBody s_Signs_sign) (defScope s_Signs_sign) .none kV23 dc23 pm23 an23 cd23 ct23), sl23⟩) (c23 : PySem.W.codeIn K cd23 "Signs.sign" = true) (k23 : PySem.W.keepIn K (.ref f23) = true)
    (a24 : PySem.W.findIn K (.ref C_Signs) "take_sign" = some (some (.ref f24))) (i24 : PySem.W.isFn K (.ref f24) = true)
    (l24 : K.lookup f24 = some ⟨oc24, od24, .func (PySem.W.fnOf "take_sign" "Signs.take_sign" (defArgs s_Signs_take_sign) (defBody s_Signs_take_sign) (defScope s_Signs_take_sign) .none kV24 dc24 pm24 an24 cd24 ct24), sl24⟩) (c24 : PySem.W.codeIn K cd24 "Signs.take_sign" = true) (k24 : PySem.W.keepIn K (.ref f24) = true)
    (a25 : PySem.W.findIn K (.ref C_Signs) "take_some" = some (some (.ref f25))) (i25 : PySem.W.isFn K (.ref f25) = true)
    (l25 : K.lookup f25 = some ⟨oc25, od25, .func (PySem.W.fnOf "take_some" "Signs.take_some" (defArgs s_Signs_take_some) (defBody s_Signs_take_some) (defScope s_Signs_take_some) .none kV25 dc25 pm25 an25 cd25 ct25), sl25⟩) (c25 : PySem.W.codeIn K cd25 "Signs.take_some" = true) (k25 : PySem.W.keepIn K (.ref f25) = true)
    (a26 : PySem.W.nsIn K mainGlobals "tree_taken" = some (some (.ref f26)))
    (l26 : K.lookup f26 = some ⟨oc26, od26, .func (PySem.W.fnOf "tree_taken" "tree_taken" (defArgs s_tree_taken) (defBody s_tree_taken) (defScope s_tree_taken) .none kV26 dc26 pm26 an26 cd26 ct26), sl26⟩) (c26 : PySem.W.codeIn K cd26 "tree_taken" = true) (k26 : PySem.W.keepIn K (.ref f26) = true)
    (a27 : PySem.W.findIn K (.ref C_Signs) "take_end" = some (some (.ref f27))) (i27 : PySem.W.isFn K (.ref f27) = true)
    (l27 : K.lookup f27 = some ⟨oc27, od27, .func (PySem.W.fnOf "take_end" "Signs.take_end" (defArgs s_Signs_take_end) (defBody s_Signs_take_end) (defScope s_Signs_take_end) .none kV27 dc27 pm27 an27 cd27 ct27), sl27⟩) (c27 : PySem.W.codeIn K cd27 "Signs.take_end" = true) (k27 : PySem.W.keepIn K (.ref f27) = true)
    (a28 : PySem.W.nsIn K mainGlobals "read_tree" = some (some (.ref f28)))
    (l28 : K.lookup f28 = some ⟨oc28, od28, .func (PySem.W.fnOf "read_tree" "read_tree" (defArgs s_read_tree) (defBody s_read_tree) (defScope s_read_tree) .none kV28 dc28 pm28 an28 cd28 ct28), sl28⟩) (c28 : PySem.W.codeIn K cd28 "read_tree" = true) (k28 : PySem.W.keepIn K (.ref f28) = true)
    (a29 : PySem.W.nsIn K mainGlobals "_law_right" = some (some (.ref f29)))
    (l29 : K.lookup f29 = some ⟨oc29, od29, .func (PySem.W.fnOf "_law_right" "_law_right" (defArgs s__law_right) (defBody s__law_right) (defScope s__law_right) .none kV29 dc29 pm29 an29 cd29 ct29), sl29⟩) (c29 : PySem.W.codeIn K cd29 "_law_right" = true) (k29 : PySem.W.keepIn K (.ref f29) = true)
    (a30 : PySem.W.nsIn K mainGlobals "law" = some (some (.ref f30)))
    (l30 : K.lookup f30 = some ⟨oc30, od30, .func (PySem.W.fnOf "law" "law" (defArgs s_law) (defBody s_law) (defScope s_law) .none kV30 dc30 pm30 an30 cd30 ct30), sl30⟩) (c30 : PySem.W.codeIn K cd30 "law" = true) (k30 : PySem.W.keepIn K (.ref f30) = true)
    (pg_Signs : PySem.W.plainGet K C_Signs Str.empty = true) (hd_Signs : PySem.W.hasDictIn K C_Signs = true) (po_Signs : PySem.W.plainOver K C_Signs = true) (sa_Signs : PySem.W.findIn K (.ref C_Signs) "__setattr__" = some (some (.builtin "object.__setattr__"))) (mk_Signs : PySem.W.makesIn K C_Signs = true) (kc_Signs : PySem.W.keepIn K (.ref C_Signs) = true)
    (na_Signs_sign_at : PySem.W.findIn K (.ref C_Signs) "sign_at" = some none)
    (na_Signs_whole_text : PySem.W.findIn K (.ref C_Signs) "whole_text" = some none)
    (e_LETTERS : PySem.W.nsIn K mainGlobals "LETTERS" = some (some (.str "abcdefghijklmnopqrstuvwxyz" t_LETTERS)))
    (e_MOST_LETTERS : PySem.W.nsIn K mainGlobals "MOST_LETTERS" = some (some (.int 8 t_MOST_LETTERS)))
    (z_abs : PySem.W.nsIn K mainGlobals "abs" = some none)
    (z_all : PySem.W.nsIn K mainGlobals "all" = some none)
    (z_enumerate : PySem.W.nsIn K mainGlobals "enumerate" = some none)
    (z_int : PySem.W.nsIn K mainGlobals "int" = some none)
    (z_isinstance : PySem.W.nsIn K mainGlobals "isinstance" = some none)
    (z_len : PySem.W.nsIn K mainGlobals "len" = some none)
    (z_list : PySem.W.nsIn K mainGlobals "list" = some none)
    (z_range : PySem.W.nsIn K mainGlobals "range" = some none)
    (z_set : PySem.W.nsIn K mainGlobals "set" = some none)
    (z_sorted : PySem.W.nsIn K mainGlobals "sorted" = some none)
    (z_str : PySem.W.nsIn K mainGlobals "str" = some none)
    (z_tuple : PySem.W.nsIn K mainGlobals "tuple" = some none)
    : ∃ fd : FuncData, (∀ (s : Shared) (v : Value), BindsTo s fd ⟨[v], []⟩ [("_law_script", v)]) ∧ ∀ base : Heap, K.In base → base.Ns mainGlobals mg → FnOk l.prog w K mg base CX0 145 fa fd ["_law_script"] (spM K 1 M_law_k08) := by
  have e := hfa.symm.trans (PySem.W.mg_of X G a30)
  cases e
  have F0 := fun_mk (st := s__law_hand) l0 c0 k0
  have F1 := fun_mk (st := s__law_take) l1 c1 k1
  have F2 := fun_mk (st := s__law_joined) l2 c2 k2
  have F3 := fun_mk (st := s__law_words) l3 c3 k3
  have F4 := fun_mk (st := s__law_great) l4 c4 k4
  have F5 := fun_mk (st := s__law_small) l5 c5 k5
  have F6 := fun_mk (st := s__law_leaves) l6 c6 k6
  have F7 := fun_mk (st := s_put_nodes) l7 c7 k7
  have F8 := fun_mk (st := s_nodes) l8 c8 k8
  have F9 := fun_mk (st := s_text_of) l9 c9 k9
  have F10 := fun_mk (st := s_plain) l10 c10 k10
  have F11 := fun_mk (st := s__law_made) l11 c11 k11
  have F12 := fun_mk (st := s_leaves) l12 c12 k12
  have F13 := fun_mk (st := s__law_leads) l13 c13 k13
  have F14 := fun_mk (st := s_alike) l14 c14 k14
  have F15 := fun_mk (st := s_is_word) l15 c15 k15
  have F16 := fun_mk (st := s_is_tree) l16 c16 k16
  have F17 := fun_mk (st := s_is_great) l17 c17 k17
  have F18 := fun_mk (st := s_is_small) l18 c18 k18
  have F19 := fun_mk (st := s_ahead_of__F) l19 c19 k19
  have F20 := fun_mk (st := s_Signs___init__) l20 c20 k20
  have F21 := fun_mk (st := s_signs_of) l21 c21 k21
  have F22 := fun_mk (st := s_Signs_need) l22 c22 k22
  have F23 := fun_mk (st := s_Signs_sign) l23 c23 k23
  have F24 := fun_mk (st := s_Signs_take_sign) l24 c24 k24
  have F25 := fun_mk (st := s_Signs_take_some) l25 c25 k25
  have F26 := fun_mk (st := s_tree_taken) l26 c26 k26
  have F27 := fun_mk (st := s_Signs_take_end) l27 c27 k27
  have F28 := fun_mk (st := s_read_tree) l28 c28 k28
  have F29 := fun_mk (st := s__law_right) l29 c29 k29
  have F30 := fun_mk (st := s_law) l30 c30 k30
  let T : Tp w K mg :=
    { a__law_hand := _, fd__law_hand := _, F__law_hand := F0, b__law_hand := F0.binds (ps := ["_law_script", "_law_k"]) (fun _ _ _ _ _ _ us hl => match us, hl with | [_, _], _ => rfl),
      m__law_hand := PySem.W.mg_of X G a0,
      a__law_take := _, fd__law_take := _, F__law_take := F1, b__law_take := F1.binds (ps := ["_law_hand_here", "_law_many"]) (fun _ _ _ _ _ _ us hl => match us, hl with | [_, _], _ => rfl),
      m__law_take := PySem.W.mg_of X G a1,
      a__law_joined := _, fd__law_joined := _, F__law_joined := F2, b__law_joined := F2.binds (ps := ["_law_hand_here", "_law_some"]) (fun _ _ _ _ _ _ us hl => match us, hl with | [_, _], _ => rfl),
      m__law_joined := PySem.W.mg_of X G a2,
      a__law_words := _, fd__law_words := _, F__law_words := F3, b__law_words := F3.binds (ps := ["_law_hand_here", "_law_many"]) (fun _ _ _ _ _ _ us hl => match us, hl with | [_, _], _ => rfl),
      m__law_words := PySem.W.mg_of X G a3,
      a__law_great := _, fd__law_great := _, F__law_great := F4, b__law_great := F4.binds (ps := ["_law_hand_here", "_law_most"]) (fun _ _ _ _ _ _ us hl => match us, hl with | [_, _], _ => rfl),
      m__law_great := PySem.W.mg_of X G a4,
      a__law_small := _, fd__law_small := _, F__law_small := F5, b__law_small := F5.binds (ps := ["_law_hand_here", "_law_words_here", "_law_most"]) (fun _ _ _ _ _ _ us hl => match us, hl with | [_, _, _], _ => rfl),
      m__law_small := PySem.W.mg_of X G a5,
      a__law_leaves := _, fd__law_leaves := _, F__law_leaves := F6, b__law_leaves := F6.binds (ps := ["_law_tree"]) (fun _ _ _ _ _ _ us hl => match us, hl with | [_], _ => rfl),
      m__law_leaves := PySem.W.mg_of X G a6,
      a_put_nodes := _, fd_put_nodes := _, F_put_nodes := F7, b_put_nodes := F7.binds (ps := ["tree", "found"]) (fun _ _ _ _ _ _ us hl => match us, hl with | [_, _], _ => rfl),
      m_put_nodes := PySem.W.mg_of X G a7,
      a_nodes := _, fd_nodes := _, F_nodes := F8, b_nodes := F8.binds (ps := ["tree"]) (fun _ _ _ _ _ _ us hl => match us, hl with | [_], _ => rfl),
      m_nodes := PySem.W.mg_of X G a8,
      a_text_of := _, fd_text_of := _, F_text_of := F9, b_text_of := F9.binds (ps := ["tree"]) (fun _ _ _ _ _ _ us hl => match us, hl with | [_], _ => rfl),
      m_text_of := PySem.W.mg_of X G a9,
      a_plain := _, fd_plain := _, F_plain := F10, b_plain := F10.binds (ps := ["tree"]) (fun _ _ _ _ _ _ us hl => match us, hl with | [_], _ => rfl),
      m_plain := PySem.W.mg_of X G a10,
      a__law_made := _, fd__law_made := _, F__law_made := F11, b__law_made := F11.binds (ps := ["_law_some", "_law_number"]) (fun _ _ _ _ _ _ us hl => match us, hl with | [_, _], _ => rfl),
      m__law_made := PySem.W.mg_of X G a11,
      a_leaves := _, fd_leaves := _, F_leaves := F12, b_leaves := F12.binds (ps := ["tree"]) (fun _ _ _ _ _ _ us hl => match us, hl with | [_], _ => rfl),
      m_leaves := PySem.W.mg_of X G a12,
      a__law_leads := _, fd__law_leads := _, F__law_leads := F13, b__law_leads := F13.binds (ps := ["_law_some", "_law_ahead"]) (fun _ _ _ _ _ _ us hl => match us, hl with | [_, _], _ => rfl),
      m__law_leads := PySem.W.mg_of X G a13,
      a_alike := _, fd_alike := _, F_alike := F14, b_alike := F14.binds (ps := ["one", "other"]) (fun _ _ _ _ _ _ us hl => match us, hl with | [_, _], _ => rfl),
      m_alike := PySem.W.mg_of X G a14,
      a_is_word := _, fd_is_word := _, F_is_word := F15, b_is_word := F15.binds (ps := ["thing"]) (fun _ _ _ _ _ _ us hl => match us, hl with | [_], _ => rfl),
      m_is_word := PySem.W.mg_of X G a15,
      a_is_tree := _, fd_is_tree := _, F_is_tree := F16, b_is_tree := F16.binds (ps := ["thing"]) (fun _ _ _ _ _ _ us hl => match us, hl with | [_], _ => rfl),
      m_is_tree := PySem.W.mg_of X G a16,
      a_is_great := _, fd_is_great := _, F_is_great := F17, b_is_great := F17.binds (ps := ["thing"]) (fun _ _ _ _ _ _ us hl => match us, hl with | [_], _ => rfl),
      m_is_great := PySem.W.mg_of X G a17,
      a_is_small := _, fd_is_small := _, F_is_small := F18, b_is_small := F18.binds (ps := ["great", "thing"]) (fun _ _ _ _ _ _ us hl => match us, hl with | [_, _], _ => rfl),
      m_is_small := PySem.W.mg_of X G a18,
      a_ahead_of__F := _, fd_ahead_of__F := _, F_ahead_of__F := F19, b_ahead_of__F := F19.binds (ps := ["tree"]) (fun _ _ _ _ _ _ us hl => match us, hl with | [_], _ => rfl),
      m_ahead_of__F := PySem.W.mg_of X G a19,
      a_Signs___init__ := _, fd_Signs___init__ := _, F_Signs___init__ := F20, b_Signs___init__ := F20.binds (ps := ["self", "text"]) (fun _ _ _ _ _ _ us hl => match us, hl with | [_, _], _ => rfl),
      a_signs_of := _, fd_signs_of := _, F_signs_of := F21, b_signs_of := F21.binds (ps := ["text"]) (fun _ _ _ _ _ _ us hl => match us, hl with | [_], _ => rfl),
      m_signs_of := PySem.W.mg_of X G a21,
      a_Signs_need := _, fd_Signs_need := _, F_Signs_need := F22, b_Signs_need := F22.binds (ps := ["self", "truth"]) (fun _ _ _ _ _ _ us hl => match us, hl with | [_, _], _ => rfl),
      me_Signs_need := ⟨a22, i22, k22⟩,
      a_Signs_sign := _, fd_Signs_sign := _, F_Signs_sign := F23, b_Signs_sign := F23.binds (ps := ["self"]) (fun _ _ _ _ _ _ us hl => match us, hl with | [_], _ => rfl),
      me_Signs_sign := ⟨a23, i23, k23⟩,
      a_Signs_take_sign := _, fd_Signs_take_sign := _, F_Signs_take_sign := F24, b_Signs_take_sign := F24.binds (ps := ["self", "wanted"]) (fun _ _ _ _ _ _ us hl => match us, hl with | [_, _], _ => rfl),
      me_Signs_take_sign := ⟨a24, i24, k24⟩,
      a_Signs_take_some := _, fd_Signs_take_some := _, F_Signs_take_some := F25, b_Signs_take_some := F25.binds (ps := ["self", "signs", "most"]) (fun _ _ _ _ _ _ us hl => match us, hl with | [_, _, _], _ => rfl),
      me_Signs_take_some := ⟨a25, i25, k25⟩,
      a_tree_taken := _, fd_tree_taken := _, F_tree_taken := F26, b_tree_taken := F26.binds (ps := ["signs"]) (fun _ _ _ _ _ _ us hl => match us, hl with | [_], _ => rfl),
      m_tree_taken := PySem.W.mg_of X G a26,
      a_Signs_take_end := _, fd_Signs_take_end := _, F_Signs_take_end := F27, b_Signs_take_end := F27.binds (ps := ["self"]) (fun _ _ _ _ _ _ us hl => match us, hl with | [_], _ => rfl),
      me_Signs_take_end := ⟨a27, i27, k27⟩,
      a_read_tree := _, fd_read_tree := _, F_read_tree := F28, b_read_tree := F28.binds (ps := ["text"]) (fun _ _ _ _ _ _ us hl => match us, hl with | [_], _ => rfl),
      m_read_tree := PySem.W.mg_of X G a28,
      a__law_right := _, fd__law_right := _, F__law_right := F29, b__law_right := F29.binds (ps := ["_law_tree", "_law_great_here"]) (fun _ _ _ _ _ _ us hl => match us, hl with | [_, _], _ => rfl),
      m__law_right := PySem.W.mg_of X G a29,
      a_law := _, fd_law := _, F_law := F30, b_law := F30.binds (ps := ["_law_script"]) (fun _ _ _ _ _ _ us hl => match us, hl with | [_], _ => rfl),
      m_law := PySem.W.mg_of X G a30,
      C_Signs := C_Signs, k_Signs := ⟨aC_Signs, ⟨pg_Signs, hd_Signs, po_Signs, sa_Signs⟩⟩, mg_Signs := PySem.W.mg_of X G aC_Signs,
      mk_Signs := ⟨mk_Signs, a20, i20, kc_Signs⟩,
      na_Signs_sign_at := na_Signs_sign_at,
      na_Signs_whole_text := na_Signs_whole_text,
      t_LETTERS := t_LETTERS, c_LETTERS := PySem.W.mg_of X G e_LETTERS,
      t_MOST_LETTERS := t_MOST_LETTERS, c_MOST_LETTERS := PySem.W.mg_of X G e_MOST_LETTERS,
      z_abs := PySem.W.mg_none_of X G z_abs,
      z_all := PySem.W.mg_none_of X G z_all,
      z_enumerate := PySem.W.mg_none_of X G z_enumerate,
      z_int := PySem.W.mg_none_of X G z_int,
      z_isinstance := PySem.W.mg_none_of X G z_isinstance,
      z_len := PySem.W.mg_none_of X G z_len,
      z_list := PySem.W.mg_none_of X G z_list,
      z_range := PySem.W.mg_none_of X G z_range,
      z_set := PySem.W.mg_none_of X G z_set,
      z_sorted := PySem.W.mg_none_of X G z_sorted,
      z_str := PySem.W.mg_none_of X G z_str,
      z_tuple := PySem.W.mg_none_of X G z_tuple }
  exact ⟨T.fd_law, fun s v => .of_eq rfl, fun base _ _ => w_law T⟩
theorem walk {l : PySem.W.OpenLaw} {q : Program} {loose : List Str} {XP : (Str → Option Value) → Heap → Prop} {YP : World → Heap → Prop} {d : DefRec} {K : Params → PySem.W.Frag} (hn : l.most = some 63) (hdf : d.params.defaults = [])
    (main : ∀ ns : List Int, ns.length ≤ 63 → ∃ S', M_law_k08 [.v (.kl (ns.map D.int))] [] = .ok (.bl true) S')
    (hY : ∀ (w : World) (h : Heap), YP w h → (K w.params).In h)
    (F : ∀ (w : World) (mg : Str → Option Value) (fa : Addr) (h : Heap), (K w.params).In h → h.Ns mainGlobals mg → mg d.name = some (.ref fa) →
      ∃ fd : FuncData, (∀ (s : Shared) (u : Value), BindsTo s fd ⟨[u], []⟩ [("_law_script", u)]) ∧ ∀ base : Heap, (K w.params).In base → base.Ns mainGlobals mg → FnOk l.prog w (K w.params) mg base CX0 145 fa fd ["_law_script"] (spM (K w.params) 1 M_law_k08)) :
    PySem.W.WalkO q loose XP YP l.row.toRowW d [] (fun f vs => PySem.call f vs) :=
  L2.walk_of (n := 63) (k := 145) (x := "_law_script") (CX := fun _ => CX0) (sp := fun w => spM (K w.params) 1 M_law_k08) hn (by decide) hdf ⟨rfl, by decide, by decide⟩ hY F (fun _ H a ns hl hO hS => law_sp hO hS (main ns hl)) fun _ _ _ _ _ z => z
end K08
open PySem PySem.W PySem.W.X PyProof.Rows
set_option maxRecDepth 100000 in
set_option maxHeartbeats 0 in
theorem PySem.Challenge.cw_treewithin_k08_whole_trees_put_together_holds : PySem.Challenge.rw_treewithin_k08_whole_trees_put_together.Holds := by
  w_on; o_law; k_head; (case hw => w_witness2)
  k_fill
  refine K08.walk (l := PySem.Challenge.rw_treewithin_k08_whole_trees_put_together) rfl rfl Q.k08_main (fun w h Y => PySem.W.kIn_of Y) ?F
  case F =>
    intro w mg fa h KX G hmg
    refine' K08.all_mk KX G hmg ?aC_Signs ?a0 ?l0 ?c0 ?k0 ?a1 ?l1 ?c1 ?k1 ?a2 ?l2 ?c2 ?k2 ?a3 ?l3 ?c3 ?k3 ?a4 ?l4 ?c4 ?k4 ?a5 ?l5 ?c5 ?k5 ?a6 ?l6 ?c6 ?k6 ?a7 ?l7 ?c7 ?k7 ?a8 ?l8 ?c8 ?k8 ?a9 ?l9 ?c9 ?k9 ?a10 ?l10 ?c10 ?k10 ?a11 ?l11 ?c11 ?k11 ?a12 ?l12 ?c12 ?k12 ?a13 ?l13 ?c13 ?k13 ?a14 ?l14 ?c14 ?k14 ?a15 ?l15 ?c15 ?k15 ?a16 ?l16 ?c16 ?k16 ?a17 ?l17 ?c17 ?k17 ?a18 ?l18 ?c18 ?k18 ?a19 ?l19 ?c19 ?k19 ?a20 ?i20 ?l20 ?c20 ?k20 ?a21 ?l21 ?c21 ?k21 ?a22 ?i22 ?l22 ?c22 ?k22 ?a23 ?i23 ?l23 ?c23 ?k23 ?a24 ?i24 ?l24 ?c24 ?k24 ?a25 ?i25 ?l25 ?c25 ?k25 ?a26 ?l26 ?c26 ?k26 ?a27 ?i27 ?l27 ?c27 ?k27 ?a28 ?l28 ?c28 ?k28 ?a29 ?l29 ?c29 ?k29 ?a30 ?l30 ?c30 ?k30 ?pg_Signs ?hd_Signs ?po_Signs ?sa_Signs ?mk_Signs ?kc_Signs ?na_Signs_sign_at ?na_Signs_whole_text ?e_LETTERS ?e_MOST_LETTERS ?z_abs ?z_all ?z_enumerate ?z_int ?z_isinstance ?z_len ?z_list ?z_range ?z_set ?z_sorted ?z_str ?z_tuple
    (case aC_Signs => k_is)
    (case a0 => k_is)
    (case l0 => k_is)
    (case c0 => k_is)
    (case k0 => k_is)
    (case a1 => k_is)
    (case l1 => k_is)
    (case c1 => k_is)
    (case k1 => k_is)
    (case a2 => k_is)
    (case l2 => k_is)
    (case c2 => k_is)
    (case k2 => k_is)
    (case a3 => k_is)
    (case l3 => k_is)
    (case c3 => k_is)
    (case k3 => k_is)
    (case a4 => k_is)
    (case l4 => k_is)
    (case c4 => k_is)
    (case k4 => k_is)
    (case a5 => k_is)
    (case l5 => k_is)
    (case c5 => k_is)
    (case k5 => k_is)
    (case a6 => k_is)
    (case l6 => k_is)
    (case c6 => k_is)
    (case k6 => k_is)
    (case a7 => k_is)
    (case l7 => k_is)
    (case c7 => k_is)
    (case k7 => k_is)
    (case a8 => k_is)
    (case l8 => k_is)
    (case c8 => k_is)
    (case k8 => k_is)
    (case a9 => k_is)
    (case l9 => k_is)
    (case c9 => k_is)
    (case k9 => k_is)
    (case a10 => k_is)
    (case l10 => k_is)
    (case c10 => k_is)
    (case k10 => k_is)
    (case a11 => k_is)
    (case l11 => k_is)
    (case c11 => k_is)
    (case k11 => k_is)
    (case a12 => k_is)
    (case l12 => k_is)
    (case c12 => k_is)
    (case k12 => k_is)
    (case a13 => k_is)
    (case l13 => k_is)
    (case c13 => k_is)
    (case k13 => k_is)
    (case a14 => k_is)
    (case l14 => k_is)
    (case c14 => k_is)
    (case k14 => k_is)
    (case a15 => k_is)
    (case l15 => k_is)
    (case c15 => k_is)
    (case k15 => k_is)
    (case a16 => k_is)
    (case l16 => k_is)
    (case c16 => k_is)
    (case k16 => k_is)
    (case a17 => k_is)
    (case l17 => k_is)
    (case c17 => k_is)
    (case k17 => k_is)
    (case a18 => k_is)
    (case l18 => k_is)
    (case c18 => k_is)
    (case k18 => k_is)
    (case a19 => k_is)
    (case l19 => k_is)
    (case c19 => k_is)
    (case k19 => k_is)
    (case a20 => k_is)
    (case i20 => k_is)
    (case l20 => k_is)
    (case c20 => k_is)
    (case k20 => k_is)
    (case a21 => k_is)
    (case l21 => k_is)
    (case c21 => k_is)
    (case k21 => k_is)
    (case a22 => k_is)
    (case i22 => k_is)
    (case l22 => k_is)
    (case c22 => k_is)
    (case k22 => k_is)
    (case a23 => k_is)
    (case i23 => k_is)
    (case l23 => k_is)
    (case c23 => k_is)
    (case k23 => k_is)
    (case a24 => k_is)
    (case i24 => k_is)
    (case l24 => k_is)
    (case c24 => k_is)
    (case k24 => k_is)
    (case a25 => k_is)
    (case i25 => k_is)
    (case l25 => k_is)
    (case c25 => k_is)
    (case k25 => k_is)
    (case a26 => k_is)
    (case l26 => k_is)
    (case c26 => k_is)
    (case k26 => k_is)
    (case a27 => k_is)
    (case i27 => k_is)
    (case l27 => k_is)
    (case c27 => k_is)
    (case k27 => k_is)
    (case a28 => k_is)
    (case l28 => k_is)
    (case c28 => k_is)
    (case k28 => k_is)
    (case a29 => k_is)
    (case l29 => k_is)
    (case c29 => k_is)
    (case k29 => k_is)
    (case a30 => k_is)
    (case l30 => k_is)
    (case c30 => k_is)
    (case k30 => k_is)
    (case pg_Signs => k_is)
    (case hd_Signs => k_is)
    (case po_Signs => k_is)
    (case sa_Signs => k_is)
    (case mk_Signs => k_is)
    (case kc_Signs => k_is)
    (case na_Signs_sign_at => k_is)
    (case na_Signs_whole_text => k_is)
    (case e_LETTERS => k_is)
    (case e_MOST_LETTERS => k_is)
    (case z_abs => k_is)
    (case z_all => k_is)
    (case z_enumerate => k_is)
    (case z_int => k_is)
    (case z_isinstance => k_is)
    (case z_len => k_is)
    (case z_list => k_is)
    (case z_range => k_is)
    (case z_set => k_is)
    (case z_sorted => k_is)
    (case z_str => k_is)
    (case z_tuple => k_is)
