import PyProof.Rows.All
import Wide.All
import OpenK.AllK
import Wide.FinOn
import HandS.ForMost
import HandS.IsInst
import HandS.Walk
import HandS.Wide
import HandS.TupAny
import HandS.Style
import HandS.Deep
import HandS.Text
import HandS.Zip
import HandS.More
import HandS.SetFor
import HandS.Strs
import HandS.Words
import KE.GoesEnum
import KE.GoesZip
import KE.GoesMore
import HandS.Dict
import HandS.Small
import HandS.WordsDict
import KE.KDictLaws
import HandS.SortInts
import HandS.Conv
import KE.KRevSl
import PyProof.Rows.SetFrom
import HandS.TupLen
import HandS.DictTup
import PySem.Challenge.RW_treewithin_k15_dated_combs_known_by_hand
set_option Elab.async false
set_option linter.all false
set_option autoImplicit false
set_option maxRecDepth 100000
set_option maxHeartbeats 4000000
/-! MCore: a functional mirror of Python over the layer L2: data by value, a store of cells (what may still change); judgements that tie a piece of syntax to a mirror. -/
namespace M
open PySem PySem.Spec L2
open PyProof.Rows hiding St

/-! ### data, cells -/
/-- data by value: nothing in it ever changes again; txt: some text, whichever -/
inductive D where
  | non | bl (b : Bool) | int (i : Int) | str (x : Str) | ty (n : String) | tup (xs : List D) | lst (xs : List D) | kl (xs : List D) | dct (ks : List Key) (xs : List D)
  | txt
  | kt (xs : List D)
/-- what a name holds: data, or the number of a cell -/
inductive R where
  | v (d : D) | ref (n : Nat)
abbrev R.non : R := .v .non
abbrev R.bl (b : Bool) : R := .v (.bl b)
abbrev R.int (i : Int) : R := .v (.int i)
abbrev R.str (x : Str) : R := .v (.str x)
abbrev R.ty (n : String) : R := .v (.ty n)
abbrev R.tup (xs : List D) : R := .v (.tup xs)
abbrev R.lst (xs : List D) : R := .v (.lst xs)
abbrev R.kl (xs : List D) : R := .v (.kl xs)
/-- cells: objects that may change; fz: one that never will again -/
inductive MO where
  | lst (xs : List R)
  | dK (kvs : List (Key × R))
  | dT (kvs : List (List Key × R))
  | ins (C : Str) (fs : List (Str × R))
  | lkK (kvs : List (Key × R))
  | lkT (kvs : List (List Key × R))
  | fz (d : D)
abbrev Store := List MO
abbrev Env := List (Option R)
/-- an exception: its class, the attributes of its own dict -/
structure Exc where
  cls : Value
  dat : Option (List (Str × R))
inductive Out (α : Type) where
  | ok (a : α) (S : Store)
  | exc (c : Exc) (S : Store)
  | no
inductive OutS where
  | nx (m : Env) (S : Store)
  | bk (m : Env) (S : Store)
  | ct (m : Env) (S : Store)
  | rt (d : R) (S : Store)
  | exc (c : Exc) (m : Env) (S : Store)
  | no
def Out.bind {α β : Type} (o : Out α) (f : α → Store → Out β) : Out β := match o with
  | .ok a S => f a S
  | .exc c S => .exc c S
  | .no => .no
@[simp] theorem Out.bind_ok {α β : Type} (a : α) (S : Store) (f : α → Store → Out β) : (Out.ok a S).bind f = f a S := id rfl
@[simp] theorem Out.bind_no {α β : Type} (f : α → Store → Out β) : (Out.no : Out α).bind f = .no := id rfl
@[simp] theorem Out.bind_exc {α β : Type} (c : Exc) (S : Store) (f : α → Store → Out β) : (Out.exc c S : Out α).bind f = .exc c S := id rfl
abbrev ME := Env → Store → Out R
abbrev MT := Env → Store → Out Bool
abbrev MA := Env → Store → Out (List R)
abbrev MS := Env → Store → OutS

/-! ### what stands for what -/
/-- the cells' addresses; the frozen ones -/
structure Wd where
  r : List Addr
  z : Addr → Prop
/-- a list that nobody writes: locked (the script), or an object of the module -/
def KL (K : PySem.W.Frag) (H : Hp) (a : Addr) (xs : List V) : Prop :=
  (∃ o, H a = some (.frz o (.lst xs))) ∨ ∃ (o : Obj) (its : Array Value) (n : Nat), K.lookup a = some o ∧ o.cls = .type "list" ∧ o.dict = none ∧ o.data = .seq its n ∧ its.size ≤ sizeLine ∧ Vals xs its.toList
theorem KL.sq {K : PySem.W.Frag} {H : Hp} {a : Addr} {xs : List V} (h : KL K H a xs) : SqL K H a xs := by
  rcases h with ⟨o, h⟩ | h
  · exact .inl (.inr ⟨o, h⟩)
  · exact .inr h
/-- one that is frozen -/
def FzL (H : Hp) (ρ : Wd) (a : Addr) (xs : List V) : Prop := ρ.z a ∧ H a = some (.lst xs)
/-- a tuple of the module -/
def KT' (K : PySem.W.Frag) (a : Addr) (xs : List V) : Prop := ∃ (o : Obj) (its : Array Value) (n : Nat), K.lookup a = some o ∧ o.cls = .type "tuple" ∧ o.data = .seq its n ∧ its.size ≤ sizeLine ∧ Vals xs its.toList
theorem KT'.sq {K : PySem.W.Frag} {H : Hp} {a : Addr} {xs : List V} (h : KT' K a xs) : SqT K H a xs := .inr h
theorem sqT_at {K : PySem.W.Frag} {H : Hp} {a : Addr} {xs : List V} (h : H a = some (.tup xs)) : SqT K H a xs := .inl (.inl h)
theorem FzL.sq {K : PySem.W.Frag} {H : Hp} {ρ : Wd} {a : Addr} {xs : List V} (h : FzL H ρ a xs) : SqL K H a xs := .inl (.inl h.2)
mutual
inductive Rp (K : PySem.W.Frag) (H : Hp) (ρ : Wd) : V → D → Prop
  | non : Rp K H ρ .non .non
  | bl (b : Bool) : Rp K H ρ (.bl b) (.bl b)
  | int (i : Int) : Rp K H ρ (.int i) (.int i)
  | str (x : Str) : Rp K H ρ (.str x) (.str x)
  | ty (n : String) : Rp K H ρ (.ty n) (.ty n)
  | tup {a : Addr} {xs : List V} {ds : List D} : H a = some (.tup xs) → RpA K H ρ xs ds → Rp K H ρ (.ref a) (.tup ds)
  | lst {a : Addr} {xs : List V} {ds : List D} : FzL H ρ a xs → RpA K H ρ xs ds → Rp K H ρ (.ref a) (.lst ds)
  | kl {a : Addr} {xs : List V} {ds : List D} : KL K H a xs → RpA K H ρ xs ds → Rp K H ρ (.ref a) (.kl ds)
  | dct {a : Addr} {ks : List Key} {xs : List V} {ds : List D} : ρ.z a → H a = some (.dK (ks.zip xs)) → ks.length = xs.length → RpA K H ρ xs ds → Rp K H ρ (.ref a) (.dct ks ds)
  | txt (x : Str) : x.length ≤ sizeLine → Rp K H ρ (.str x) .txt
  | kt {a : Addr} {xs : List V} {ds : List D} : KT' K a xs → RpA K H ρ xs ds → Rp K H ρ (.ref a) (.kt ds)
inductive RpA (K : PySem.W.Frag) (H : Hp) (ρ : Wd) : List V → List D → Prop
  | nil : RpA K H ρ [] []
  | cons {v : V} {vs : List V} {d : D} {ds : List D} : Rp K H ρ v d → RpA K H ρ vs ds → RpA K H ρ (v :: vs) (d :: ds)
end
inductive Rq (K : PySem.W.Frag) (H : Hp) (ρ : Wd) : V → R → Prop
  | v {v : V} {d : D} : Rp K H ρ v d → Rq K H ρ v (.v d)
  | ref {a : Addr} {n : Nat} : ρ.r[n]? = some a → Rq K H ρ (.ref a) (.ref n)
def RqA (K : PySem.W.Frag) (H : Hp) (ρ : Wd) (vs : List V) (ds : List R) : Prop := Paired (Rq K H ρ) vs ds
/-- what stays -/
structure Mo (K : PySem.W.Frag) (H : Hp) (ρ : Wd) (H' : Hp) (ρ' : Wd) : Prop where
  tup : ∀ a xs, H a = some (.tup xs) → H' a = some (.tup xs)
  kl : ∀ a xs, KL K H a xs → KL K H' a xs
  ref : ∀ (n : Nat) (a : Addr), ρ.r[n]? = some a → ρ'.r[n]? = some a
  z : ∀ a, ρ.z a → ρ'.z a ∧ H' a = H a
section
variable {K : PySem.W.Frag} {H H' H1 H2 : Hp} {ρ ρ' ρ1 ρ2 : Wd}
theorem Mo.refl : Mo K H ρ H ρ := ⟨fun _ _ h => h, fun _ _ h => h, fun _ _ h => h, fun _ h => ⟨h, rfl⟩⟩
theorem Mo.trans (a : Mo K H ρ H1 ρ1) (b : Mo K H1 ρ1 H2 ρ2) : Mo K H ρ H2 ρ2 := ⟨fun x xs h => b.tup x xs (a.tup x xs h), fun x xs h => b.kl x xs (a.kl x xs h), fun n x h => b.ref n x (a.ref n x h), fun x h => ⟨(b.z x (a.z x h).1).1, (b.z x (a.z x h).1).2.trans (a.z x h).2⟩⟩
theorem FzL.mono (mo : Mo K H ρ H' ρ') {a : Addr} {xs : List V} (h : FzL H ρ a xs) : FzL H' ρ' a xs := ⟨(mo.z _ h.1).1, by rw [(mo.z _ h.1).2]; exact h.2⟩
mutual
theorem Rp.mono (mo : Mo K H ρ H' ρ') : ∀ (d : D) (v : V), Rp K H ρ v d → Rp K H' ρ' v d
  | .non, _, h => by cases h; exact .non
  | .bl b, _, h => by cases h; exact .bl b
  | .int i, _, h => by cases h; exact .int i
  | .str x, _, h => by cases h; exact .str x
  | .ty n, _, h => by cases h; exact .ty n
  | .tup ds, _, h => by
    cases h with
    | tup hs ha => exact .tup (mo.tup _ _ hs) (RpA.mono mo ds _ ha)
  | .lst ds, _, h => by
    cases h with
    | lst hs ha => exact .lst (hs.mono mo) (RpA.mono mo ds _ ha)
  | .kl ds, _, h => by
    cases h with
    | kl hs ha => exact .kl (mo.kl _ _ hs) (RpA.mono mo ds _ ha)
  | .dct ks ds, _, h => by
    cases h with
    | dct hz hs hl ha => exact .dct (mo.z _ hz).1 (by rw [(mo.z _ hz).2]; exact hs) hl (RpA.mono mo ds _ ha)
  | .txt, _, h => by
    cases h with
    | txt x hx => exact .txt x hx
  | .kt ds, _, h => by
    cases h with
    | kt hs ha => exact .kt hs (RpA.mono mo ds _ ha)
theorem RpA.mono (mo : Mo K H ρ H' ρ') : ∀ (ds : List D) (vs : List V), RpA K H ρ vs ds → RpA K H' ρ' vs ds
  | [], _, h => by cases h; exact .nil
  | d :: ds, _, h => by
    cases h with
    | cons h1 h2 => exact .cons (Rp.mono mo d _ h1) (RpA.mono mo ds _ h2)
end
theorem Rp.mo {v : V} {d : D} (h : Rp K H ρ v d) (mo : Mo K H ρ H' ρ') : Rp K H' ρ' v d := Rp.mono mo d v h
theorem RpA.mo {v : List V} {d : List D} (h : RpA K H ρ v d) (mo : Mo K H ρ H' ρ') : RpA K H' ρ' v d := RpA.mono mo d v h
theorem Rq.mo {v : V} {d : R} (h : Rq K H ρ v d) (mo : Mo K H ρ H' ρ') : Rq K H' ρ' v d := by
  cases h with
  | v h => exact .v (h.mo mo)
  | ref e => exact .ref (mo.ref _ _ e)
theorem RqA.mo {v : List V} {d : List R} (h : RqA K H ρ v d) (mo : Mo K H ρ H' ρ') : RqA K H' ρ' v d := Paired.mapP h fun _ _ q => q.mo mo
theorem Rq.non : Rq K H ρ .non .non := .v .non
theorem Rq.bl (b : Bool) : Rq K H ρ (.bl b) (.bl b) := .v (.bl b)
theorem Rq.int (i : Int) : Rq K H ρ (.int i) (.int i) := .v (.int i)
theorem Rq.str (x : Str) : Rq K H ρ (.str x) (.str x) := .v (.str x)
theorem Rq.ty (x : String) : Rq K H ρ (.ty x) (.ty x) := .v (.ty x)
theorem RpA.length : ∀ {vs : List V} {ds : List D}, RpA K H ρ vs ds → vs.length = ds.length
  | _, [], h => by cases h; rfl
  | _, d :: ds, h => by
    cases h with
    | cons h1 h2 => exact congrArg (· + 1) (RpA.length h2)
theorem RqA.length {vs : List V} {ds : List R} (h : RqA K H ρ vs ds) : vs.length = ds.length := Paired.length h
/-- by value, item by item -/
theorem RpA.q : ∀ {vs : List V} {ds : List D}, RpA K H ρ vs ds → RqA K H ρ vs (ds.map .v)
  | _, [], h => by cases h; exact .nil
  | _, d :: ds, h => by
    cases h with
    | cons h1 h2 => exact .cons (.v h1) (RpA.q h2)
theorem RqA.p : ∀ {vs : List V} {ds : List D}, RqA K H ρ vs (ds.map .v) → RpA K H ρ vs ds
  | _, [], h => by cases h; exact .nil
  | _, d :: ds, h => by
    cases h with
    | cons h1 h2 =>
      cases h1 with
      | v h1 => exact .cons h1 (RqA.p h2)
theorem RqA.get {vs : List V} {ds : List R} : ∀ {i : Nat} {d : R}, RqA K H ρ vs ds → ds[i]? = some d → ∃ v, vs[i]? = some v ∧ Rq K H ρ v d := by
  intro i d h
  induction h generalizing i with
  | nil => intro e; simp at e
  | cons h1 h2 ih =>
    intro e
    cases i with
    | zero =>
      have q := Option.some.inj e
      subst q
      exact ⟨_, rfl, h1⟩
    | succ i =>
      obtain ⟨v, a, b⟩ := ih (i := i) (by simpa using e)
      exact ⟨v, by simpa using a, b⟩
theorem RqA.get' {vs : List V} {ds : List R} : ∀ {i : Nat} {v : V}, RqA K H ρ vs ds → vs[i]? = some v → ∃ d, ds[i]? = some d ∧ Rq K H ρ v d := by
  intro i d h
  induction h generalizing i with
  | nil => intro e; simp at e
  | cons h1 h2 ih =>
    intro e
    cases i with
    | zero =>
      have q := Option.some.inj e
      subst q
      exact ⟨_, rfl, h1⟩
    | succ i =>
      obtain ⟨v, a, b⟩ := ih (i := i) (by simpa using e)
      exact ⟨v, by simpa using a, b⟩
theorem RqA.set {v : V} {d : R} (r : Rq K H ρ v d) {vs : List V} {ds : List R} (h : RqA K H ρ vs ds) : ∀ (i : Nat), RqA K H ρ (vs.set i v) (ds.set i d) := by
  induction h with
  | nil => intro i; exact .nil
  | cons h1 h2 ih =>
    intro i
    cases i with
    | zero => exact .cons r h2
    | succ i => exact .cons h1 (ih i)
theorem RqA.append {vs ws : List V} {ds es : List R} (h : RqA K H ρ vs ds) (k : RqA K H ρ ws es) : RqA K H ρ (vs ++ ws) (ds ++ es) := by
  induction h with
  | nil => exact k
  | cons h1 h2 ih => exact .cons h1 ih
theorem RqA.take {vs : List V} {ds : List R} (h : RqA K H ρ vs ds) : ∀ n, RqA K H ρ (vs.take n) (ds.take n) := by
  induction h with
  | nil => intro n; rw [List.take_nil, List.take_nil]; exact .nil
  | cons h1 h2 ih =>
    intro n
    cases n with
    | zero => exact .nil
    | succ n => exact .cons h1 (ih n)
theorem RqA.drop {vs : List V} {ds : List R} (h : RqA K H ρ vs ds) : ∀ n, RqA K H ρ (vs.drop n) (ds.drop n) := by
  induction h with
  | nil => intro n; rw [List.drop_nil, List.drop_nil]; exact .nil
  | cons h1 h2 ih =>
    intro n
    cases n with
    | zero => exact .cons h1 h2
    | succ n => exact ih n
theorem RqA.reverse {vs : List V} {ds : List R} (h : RqA K H ρ vs ds) : RqA K H ρ vs.reverse ds.reverse := by
  induction h with
  | nil => exact .nil
  | cons h1 h2 ih =>
    rw [List.reverse_cons, List.reverse_cons]
    exact RqA.append ih (.cons h1 .nil)
theorem RpA.append {vs ws : List V} {ds es : List D} (h : RpA K H ρ vs ds) (k : RpA K H ρ ws es) : RpA K H ρ (vs ++ ws) (ds ++ es) := by
  refine RqA.p ?_
  rw [List.map_append]
  exact h.q.append k.q
theorem RpA.take {vs : List V} {ds : List D} (n : Nat) (h : RpA K H ρ vs ds) : RpA K H ρ (vs.take n) (ds.take n) := by
  refine RqA.p ?_
  rw [List.map_take]
  exact h.q.take n
theorem RpA.drop {vs : List V} {ds : List D} (n : Nat) (h : RpA K H ρ vs ds) : RpA K H ρ (vs.drop n) (ds.drop n) := by
  refine RqA.p ?_
  rw [List.map_drop]
  exact h.q.drop n
theorem RpA.reverse {vs : List V} {ds : List D} (h : RpA K H ρ vs ds) : RpA K H ρ vs.reverse ds.reverse := by
  refine RqA.p ?_
  rw [List.map_reverse]
  exact h.q.reverse
theorem RpA.get {vs : List V} {ds : List D} {i : Nat} {d : D} (h : RpA K H ρ vs ds) (e : ds[i]? = some d) : ∃ v, vs[i]? = some v ∧ Rp K H ρ v d := by
  obtain ⟨v, a, b⟩ := h.q.get (i := i) (d := .v d) (by rw [List.getElem?_map, e]; rfl)
  cases b with
  | v b => exact ⟨v, a, b⟩
theorem RpA.get' {vs : List V} {ds : List D} {i : Nat} {v : V} (h : RpA K H ρ vs ds) (e : vs[i]? = some v) : ∃ d, ds[i]? = some d ∧ Rp K H ρ v d := by
  obtain ⟨d, a, b⟩ := h.q.get' e
  rw [List.getElem?_map] at a
  obtain ⟨d', e1, rfl⟩ := Option.map_eq_some_iff.mp a
  cases b with
  | v b => exact ⟨d', e1, b⟩
theorem RpA.ints : ∀ {ns : List Int}, RpA K H ρ (ns.map V.int) (ns.map D.int)
  | [] => .nil
  | n :: ns => .cons (.int n) RpA.ints

/-- pairs of a key and a value -/
def RpP {κ : Type} (K : PySem.W.Frag) (H : Hp) (ρ : Wd) (vs : List (κ × V)) (ds : List (κ × R)) : Prop := Paired (fun (p : κ × V) (q : κ × R) => p.1 = q.1 ∧ Rq K H ρ p.2 q.2) vs ds
theorem RpP.mo {κ : Type} {vs : List (κ × V)} {ds : List (κ × R)} (h : RpP K H ρ vs ds) (mo : Mo K H ρ H' ρ') : RpP K H' ρ' vs ds := Paired.mapP h fun _ _ q => ⟨q.1, q.2.mo mo⟩
/-- what a cell is -/
def HoR (K : PySem.W.Frag) (H : Hp) (ρ : Wd) (a : Addr) : MO → Prop
  | .lst ds => ∃ xs, H a = some (.lst xs) ∧ RqA K H ρ xs ds
  | .dK kds => ∃ kvs, H a = some (.dK kvs) ∧ RpP K H ρ kvs kds
  | .dT kds => ∃ kvs, H a = some (.dT kvs) ∧ RpP K H ρ kvs kds
  | .ins c gs => ∃ C dx fs, PySem.W.nsIn K mainGlobals c = some (some (.ref C)) ∧ H a = some (.ins C dx fs) ∧ RpP K H ρ fs gs
  | .lkK kds => ρ.z a ∧ ∃ od kvs, H a = some (.frz od (.dK kvs)) ∧ RpP K H ρ kvs kds
  | .lkT kds => ρ.z a ∧ ∃ od kvs, H a = some (.frz od (.dT kvs)) ∧ RpP K H ρ kvs kds
  | .fz d => Rp K H ρ (.ref a) d
def MO.live : MO → Prop
  | .fz _ => False
  | .lkK _ => False
  | .lkT _ => False
  | _ => True
/-- the store -/
structure SR (K : PySem.W.Frag) (H : Hp) (ρ : Wd) (S : Store) : Prop where
  nd : ρ.r.Nodup
  len : ρ.r.length = S.length
  obj : ∀ (n : Nat) (a : Addr) (o : MO), ρ.r[n]? = some a → S[n]? = some o → HoR K H ρ a o
  lv : ∀ (n : Nat) (a : Addr) (o : MO), ρ.r[n]? = some a → S[n]? = some o → o.live → ¬ ρ.z a
  z : ∀ a, ρ.z a → H a ≠ none
  r : ∀ (n : Nat) (a : Addr), ρ.r[n]? = some a → H a ≠ none
/-- the frame's names -/
structure EnvR (K : PySem.W.Frag) (H : Hp) (ρ : Wd) (σ : St) (m : Env) : Prop where
  len : σ.length = m.length
  get : ∀ (i : Nat) (d : R), m[i]? = some (some d) → ∃ v, σ[i]? = some (some v) ∧ Rq K H ρ v d
theorem EnvR.mo {σ : St} {m : Env} (h : EnvR K H ρ σ m) (mo : Mo K H ρ H' ρ') : EnvR K H' ρ' σ m := ⟨h.len, fun i d e => by
  obtain ⟨v, a, b⟩ := h.get i d e
  exact ⟨v, a, b.mo mo⟩⟩
theorem EnvR.set {σ : St} {m : Env} {v : V} {d : R} (h : EnvR K H ρ σ m) (r : Rq K H ρ v d) (i : Nat) : EnvR K H ρ (σ.set i (some v)) (m.set i (some d)) := by
  refine ⟨by rw [List.length_set, List.length_set]; exact h.len, fun j e q => ?_⟩
  by_cases hij : i = j
  · subst hij
    by_cases hl : i < m.length
    · rw [List.getElem?_set_self hl] at q
      have q : d = e := by simpa using q
      subst q
      exact ⟨v, List.getElem?_set_self (by rw [h.len]; exact hl), r⟩
    · rw [List.getElem?_eq_none (by rw [List.length_set]; omega)] at q
      cases q
  · rw [List.getElem?_set_ne hij] at q ⊢
    exact h.get j e q
theorem EnvR.start {N : Nat} {vs : List V} {ds : List R} (h : RqA K H ρ vs ds) : EnvR K H ρ (vs.map some ++ List.replicate (N - vs.length) none) (ds.map some ++ List.replicate (N - ds.length) none) := by
  have hl := h.length
  refine ⟨by simp [hl], fun i d q => ?_⟩
  by_cases hi : i < ds.length
  · rw [List.getElem?_append_left (by simpa using hi), List.getElem?_map] at q
    obtain ⟨d', e1, e2⟩ := Option.map_eq_some_iff.mp q
    cases e2
    obtain ⟨v, a, b⟩ := h.get e1
    exact ⟨v, by rw [List.getElem?_append_left (by simpa [hl] using hi), List.getElem?_map, a]; rfl, b⟩
  · rw [List.getElem?_append_right (by simpa using hi), List.getElem?_replicate] at q
    split at q <;> cases q

/-! ### how the heap turns -/
theorem sqT_new {p : Addr} {u : HO} {a : Addr} {xs : List V} (hp : H p = none) (h : H a = some (.tup xs)) : upd H p u a = some (.tup xs) := by
  rw [upd_ne (ne_of_none h hp)]; exact h
/-- not a tuple, nor one that is locked -/
def Soft : HO → Prop
  | .tup _ => False
  | .frz _ (.dK _) => True
  | .frz _ (.dT _) => True
  | .frz _ _ => False
  | _ => True
theorem sqT_set {p : Addr} {u o : HO} {a : Addr} {xs : List V} (hp : H p = some o) (so : Soft o) (h : H a = some (.tup xs)) : upd H p u a = some (.tup xs) := by
  rw [upd_ne]
  · exact h
  · intro e; subst e; rw [h] at hp; cases hp; exact so
theorem kl_new {p : Addr} {u : HO} {a : Addr} {xs : List V} (hp : H p = none) (h : KL K H a xs) : KL K (upd H p u) a xs := by
  rcases h with ⟨o, h⟩ | h
  · exact .inl ⟨o, by rw [upd_ne (ne_of_none h hp)]; exact h⟩
  · exact .inr h
theorem kl_set {p : Addr} {u o : HO} {a : Addr} {xs : List V} (hp : H p = some o) (so : Soft o) (h : KL K H a xs) : KL K (upd H p u) a xs := by
  rcases h with ⟨o', h⟩ | h
  · refine .inl ⟨o', ?_⟩
    rw [upd_ne]
    · exact h
    · intro e; subst e; rw [h] at hp; cases hp; exact so
  · exact .inr h
/-- a new thing that nothing numbers -/
theorem Mo.new {S : Store} (sr : SR K H ρ S) {p : Addr} {u : HO} (hp : H p = none) : Mo K H ρ (upd H p u) ρ := ⟨fun _ _ h => sqT_new hp h, fun _ _ h => kl_new hp h, fun _ _ h => h, fun a h => ⟨h, upd_ne fun e => sr.z a h (e ▸ hp)⟩⟩
/-- .. a new cell -/
theorem Mo.newR {S : Store} (sr : SR K H ρ S) {p : Addr} {u : HO} (hp : H p = none) : Mo K H ρ (upd H p u) ⟨ρ.r ++ [p], ρ.z⟩ := ⟨fun _ _ h => sqT_new hp h, fun _ _ h => kl_new hp h, fun n a h => by
  have hn : n < ρ.r.length := by
    rcases Nat.lt_or_ge n ρ.r.length with z | z
    · exact z
    · rw [List.getElem?_eq_none z] at h; cases h
  show (ρ.r ++ [p])[n]? = _
  rw [List.getElem?_append_left hn]; exact h, fun a h => ⟨h, upd_ne fun e => sr.z a h (e ▸ hp)⟩⟩
/-- a live cell's object turns -/
theorem Mo.set {p : Addr} {u o : HO} (hp : H p = some o) (so : Soft o) (hz : ¬ ρ.z p) : Mo K H ρ (upd H p u) ρ := ⟨fun _ _ h => sqT_set hp so h, fun _ _ h => kl_set hp so h, fun _ _ h => h, fun a h => ⟨h, upd_ne fun e => hz (e ▸ h)⟩⟩
theorem HoR.mo (mo : Mo K H ρ H' ρ') {a : Addr} (ha : H' a = H a) : ∀ {o : MO}, HoR K H ρ a o → HoR K H' ρ' a o
  | .lst ds, ⟨xs, h, r⟩ => ⟨xs, by rw [ha]; exact h, RqA.mo r mo⟩
  | .dK ds, ⟨xs, h, r⟩ => ⟨xs, by rw [ha]; exact h, RpP.mo r mo⟩
  | .dT ds, ⟨xs, h, r⟩ => ⟨xs, by rw [ha]; exact h, RpP.mo r mo⟩
  | .ins C ds, ⟨c, dx, xs, hc, h, r⟩ => ⟨c, dx, xs, hc, by rw [ha]; exact h, RpP.mo r mo⟩
  | .lkK ds, ⟨hz, od, xs, h, r⟩ => ⟨(mo.z a hz).1, od, xs, by rw [ha]; exact h, RpP.mo r mo⟩
  | .lkT ds, ⟨hz, od, xs, h, r⟩ => ⟨(mo.z a hz).1, od, xs, by rw [ha]; exact h, RpP.mo r mo⟩
  | .fz d, h => Rp.mo h mo
theorem SR.none_of {S : Store} (sr : SR K H ρ S) {p : Addr} (hp : H p = none) : p ∉ ρ.r := fun hm => by
  obtain ⟨n, hn, e⟩ := List.getElem_of_mem hm
  exact sr.r n p (by rw [List.getElem?_eq_getElem hn, e]) hp
/-- only things that no number names have turned -/
theorem SR.other {S : Store} (sr : SR K H ρ S) (mo : Mo K H ρ H' ρ) (k : ∀ b ∈ ρ.r, H' b = H b) : SR K H' ρ S := ⟨sr.nd, sr.len, fun n a o e q => (sr.obj n a o e q).mo mo (k a (List.mem_of_getElem? e)), sr.lv, fun a h => by rw [(mo.z a h).2]; exact sr.z a h, fun n a e => by rw [k a (List.mem_of_getElem? e)]; exact sr.r n a e⟩
theorem SR.newT {S : Store} (sr : SR K H ρ S) {p : Addr} {u : HO} (hp : H p = none) : SR K (upd H p u) ρ S :=
  sr.other (.new sr hp) fun b hb => upd_ne fun e => sr.none_of hp (e ▸ hb)
theorem SR.new {S : Store} (sr : SR K H ρ S) {p : Addr} {u : HO} {o : MO} (hp : H p = none) (r : HoR K (upd H p u) ⟨ρ.r ++ [p], ρ.z⟩ p o) : SR K (upd H p u) ⟨ρ.r ++ [p], ρ.z⟩ (S ++ [o]) := by
  have mo : Mo K H ρ (upd H p u) ⟨ρ.r ++ [p], ρ.z⟩ := .newR sr hp
  have cas : ∀ (n : Nat) (a : Addr), (ρ.r ++ [p])[n]? = some a → ρ.r[n]? = some a ∨ (n = ρ.r.length ∧ a = p) := fun n a e => by
    by_cases hn : n < ρ.r.length
    · rw [List.getElem?_append_left hn] at e; exact .inl e
    · rw [List.getElem?_append_right (by omega)] at e
      have e0 : n - ρ.r.length = 0 := by
        rcases Nat.eq_zero_or_pos (n - ρ.r.length) with z | z
        · exact z
        · rw [List.getElem?_eq_none (by simp; omega)] at e; cases e
      rw [e0] at e
      exact .inr ⟨by omega, (Option.some.inj e).symm⟩
  have lt : ∀ (n : Nat) (a : Addr), ρ.r[n]? = some a → n < S.length := fun n a e => by
    rw [← sr.len]
    exact (List.getElem?_eq_some_iff.mp e).1
  refine ⟨?_, by simp [sr.len], fun n a o' e q => ?_, fun n a o' e q hl => ?_, fun a h => ?_, fun n a e => ?_⟩
  · show (ρ.r ++ [p]).Nodup
    rw [List.nodup_append]
    refine ⟨sr.nd, by simp, fun x hx y hy => ?_⟩
    have : y = p := by simpa using hy
    subst this
    intro e; subst e
    exact sr.none_of hp hx
  · rcases cas n a e with e | ⟨rfl, rfl⟩
    · rw [List.getElem?_append_left (lt n a e)] at q
      exact (sr.obj n a o' e q).mo mo (upd_ne fun (z : a = p) => sr.r n a e (by rw [z]; exact hp))
    · rw [sr.len, List.getElem?_append_right (Nat.le_refl _), Nat.sub_self] at q
      have eo : o = o' := Option.some.inj q
      subst eo
      exact r
  · rcases cas n a e with e | ⟨rfl, rfl⟩
    · rw [List.getElem?_append_left (lt n a e)] at q
      exact sr.lv n a o' e q hl
    · exact fun z => sr.z _ z hp
  · rw [(mo.z a h).2]; exact sr.z a h
  · rcases cas n a e with e | ⟨rfl, rfl⟩
    · rw [upd_ne fun (z : a = p) => sr.r n a e (by rw [z]; exact hp)]; exact sr.r n a e
    · rw [upd_same]; exact fun z => nomatch z
theorem nd_at {a b : Nat} {x : Addr} (nd : ρ.r.Nodup) (h : ρ.r[a]? = some x) (k : ρ.r[b]? = some x) : a = b := nd_ix nd h k
theorem SR.set {S : Store} (sr : SR K H ρ S) {n : Nat} {a : Addr} {u o : HO} {mo : MO} (e : ρ.r[n]? = some a) (ha : H a = some o) (so : Soft o) (hz : ¬ ρ.z a) (r : HoR K (upd H a u) ρ a mo) : SR K (upd H a u) ρ (S.set n mo) := by
  have mv : Mo K H ρ (upd H a u) ρ := .set ha so hz
  have cas : ∀ (k : Nat) (b : Addr) (o' : MO), ρ.r[k]? = some b → (S.set n mo)[k]? = some o' → (k = n ∧ b = a ∧ o' = mo) ∨ (k ≠ n ∧ b ≠ a ∧ S[k]? = some o') := fun k b o' e' q => by
    by_cases hk : n = k
    · subst hk
      rw [e] at e'; cases e'
      have hs : n < S.length := by
        rcases Nat.lt_or_ge n S.length with z | z
        · exact z
        · rw [List.getElem?_eq_none (by rw [List.length_set]; exact z)] at q; cases q
      rw [List.getElem?_set_self hs] at q
      exact .inl ⟨rfl, rfl, (Option.some.inj q).symm⟩
    · rw [List.getElem?_set_ne hk] at q
      exact .inr ⟨fun z => hk z.symm, fun z => hk (nd_at sr.nd e (z ▸ e')), q⟩
  refine ⟨sr.nd, by rw [List.length_set]; exact sr.len, fun k b o' e' q => ?_, fun k b o' e' q hl => ?_, fun b h => ?_, fun k b e' => ?_⟩
  · rcases cas k b o' e' q with ⟨rfl, rfl, rfl⟩ | ⟨_, hb, q⟩
    · exact r
    · exact (sr.obj k b o' e' q).mo mv (upd_ne hb)
  · rcases cas k b o' e' q with ⟨rfl, rfl, rfl⟩ | ⟨_, hb, q⟩
    · exact hz
    · exact sr.lv k b o' e' q hl
  · rw [(mv.z b h).2]; exact sr.z b h
  · by_cases hb : b = a
    · subst hb; rw [upd_same]; exact fun z => nomatch z
    · rw [upd_ne hb]; exact sr.r k b e'
/-- a list that is written -/
theorem SR.lst {S : Store} {n : Nat} {a : Addr} {ds : List R} (sr : SR K H ρ S) (e : ρ.r[n]? = some a) (h : S[n]? = some (.lst ds)) : ∃ xs, H a = some (.lst xs) ∧ RqA K H ρ xs ds ∧ ¬ ρ.z a := by
  obtain ⟨xs, hu, r⟩ := sr.obj n a _ e h
  exact ⟨xs, hu, r, sr.lv n a _ e h trivial⟩

/-! ### readings out of mirrors -/
/-- what is wanted of an outcome -/
def RO {α β : Type} (K : PySem.W.Frag) (rel : Hp → Wd → β → α → Prop) (E : XK) (H : Hp) (ρ : Wd) (o : Out α) (Q : β → Hp → Prop) : Prop := match o with
  | .ok d S' => ∀ v H' ρ', Mo K H ρ H' ρ' → SR K H' ρ' S' → rel H' ρ' v d → Q v H'
  | .exc c S' => ∀ dx H' ρ', Mo K H ρ H' ρ' → SR K H' ρ' S' → (match c.dat with
      | none => dx = none
      | some fs => ∃ a xs, dx = some a ∧ H' a = some (.xd xs) ∧ RpP K H' ρ' xs fs) → E c.cls dx H'
  | .no => False
theorem RO.mono {α β : Type} {rel : Hp → Wd → β → α → Prop} {E : XK} {o : Out α} {Q : β → Hp → Prop} (h : RO K rel E H ρ o Q) (mo : Mo K H ρ H1 ρ1) : RO K rel E H1 ρ1 o Q := by
  cases o with
  | ok d S => exact fun v H' ρ' m s r => h v H' ρ' (mo.trans m) s r
  | exc c S => exact fun dx H' ρ' m s r => h dx H' ρ' (mo.trans m) s r
  | no => exact h
theorem RO.bind {α β γ δ : Type} {relA : Hp → Wd → β → α → Prop} {rel : Hp → Wd → δ → γ → Prop} {E : XK} {o : Out α} {f : α → Store → Out γ} {Q : δ → Hp → Prop} {P : β → Hp → Prop} (h : RO K rel E H ρ (o.bind f) Q)
    (k : ∀ d S v H1 ρ1, Mo K H ρ H1 ρ1 → SR K H1 ρ1 S → relA H1 ρ1 v d → RO K rel E H1 ρ1 (f d S) Q → P v H1) : RO K relA E H ρ o P := by
  cases o with
  | ok d S => exact fun v H' ρ' m s r => k d S v H' ρ' m s r (RO.mono h m)
  | exc c S => exact h
  | no => exact h
abbrev relD (K : PySem.W.Frag) : Hp → Wd → V → R → Prop := fun H ρ v d => Rq K H ρ v d
abbrev relA (K : PySem.W.Frag) : Hp → Wd → List V → List R → Prop := fun H ρ v d => RqA K H ρ v d
abbrev relB : Hp → Wd → Bool → Bool → Prop := fun _ _ v d => v = d
def tE (K : PySem.W.Frag) (E : St → XK) (f : ME) : TE := fun σ H Q => ∃ ρ m S, SR K H ρ S ∧ EnvR K H ρ σ m ∧ RO K (relD K) (E σ) H ρ (f m S) Q
def tA (K : PySem.W.Frag) (E : St → XK) (f : MA) : TA := fun σ H Q => ∃ ρ m S, SR K H ρ S ∧ EnvR K H ρ σ m ∧ RO K (relA K) (E σ) H ρ (f m S) Q
def tT (K : PySem.W.Frag) (E : St → XK) (f : MT) : TT := fun σ H Q => ∃ ρ m S, SR K H ρ S ∧ EnvR K H ρ σ m ∧ RO K relB (E σ) H ρ (f m S) Q
def RS (K : PySem.W.Frag) (E : St → XK) (H : Hp) (ρ : Wd) (o : OutS) (D : Ends) : Prop := match o with
  | .nx m' S' => ∀ σ' H' ρ', Mo K H ρ H' ρ' → SR K H' ρ' S' → EnvR K H' ρ' σ' m' → D.nx σ' H'
  | .bk m' S' => ∀ σ' H' ρ', Mo K H ρ H' ρ' → SR K H' ρ' S' → EnvR K H' ρ' σ' m' → D.bk σ' H'
  | .ct m' S' => ∀ σ' H' ρ', Mo K H ρ H' ρ' → SR K H' ρ' S' → EnvR K H' ρ' σ' m' → D.ct σ' H'
  | .rt d S' => ∀ v H' ρ', Mo K H ρ H' ρ' → SR K H' ρ' S' → Rq K H' ρ' v d → D.rt v H'
  | .exc c m' S' => ∀ σ' dx H' ρ', Mo K H ρ H' ρ' → SR K H' ρ' S' → EnvR K H' ρ' σ' m' → (match c.dat with
      | none => dx = none
      | some fs => ∃ a xs, dx = some a ∧ H' a = some (.xd xs) ∧ RpP K H' ρ' xs fs) → E σ' c.cls dx H'
  | .no => False
def tS (K : PySem.W.Frag) (E : St → XK) (f : MS) : TS := fun D σ H => ∃ ρ m S, SR K H ρ S ∧ EnvR K H ρ σ m ∧ RS K E H ρ (f m S) D
theorem RS.mono {E : St → XK} {o : OutS} {D : Ends} (h : RS K E H ρ o D) (mo : Mo K H ρ H1 ρ1) : RS K E H1 ρ1 o D := by
  cases o with
  | nx m S => exact fun σ' H' ρ' m s r => h σ' H' ρ' (mo.trans m) s r
  | bk m S => exact fun σ' H' ρ' m s r => h σ' H' ρ' (mo.trans m) s r
  | ct m S => exact fun σ' H' ρ' m s r => h σ' H' ρ' (mo.trans m) s r
  | rt d S => exact fun σ' H' ρ' m s r => h σ' H' ρ' (mo.trans m) s r
  | exc c m S => exact fun σ' dx H' ρ' m s r => h σ' dx H' ρ' (mo.trans m) s r
  | no => exact h
/-- an expression's outcome, then a statement's -/
def Out.thenS {α : Type} (o : Out α) (m : Env) (f : α → Store → OutS) : OutS := match o with
  | .ok a S => f a S
  | .exc c S => .exc c m S
  | .no => .no
theorem RS.bind {α β : Type} {rel : Hp → Wd → β → α → Prop} {E : St → XK} {σ : St} {m : Env} {o : Out α} {f : α → Store → OutS} {D : Ends} {P : β → Hp → Prop} (er : EnvR K H ρ σ m) (h : RS K E H ρ (o.thenS m f) D)
    (k : ∀ d S v H1 ρ1, Mo K H ρ H1 ρ1 → SR K H1 ρ1 S → rel H1 ρ1 v d → EnvR K H1 ρ1 σ m → RS K E H1 ρ1 (f d S) D → P v H1) : RO K rel (E σ) H ρ o P := by
  cases o with
  | ok d S => exact fun v H' ρ' mo s r => k d S v H' ρ' mo s r (er.mo mo) (RS.mono h mo)
  | exc c S => exact fun dx H' ρ' mo s r => h σ dx H' ρ' mo s (er.mo mo) r
  | no => exact h
end
theorem PE.imp {X : Cx} {e : Expr} {t t' : TE} (h : PE X e t) (k : ∀ σ H Q, t' σ H Q → t σ H Q) : PE X e t' := ⟨fun pins s σ H Q I q => h.run pins s σ H Q I (k _ _ _ q)⟩
theorem PT.imp {X : Cx} {e : Expr} {t t' : TT} (h : PT X e t) (k : ∀ σ H Q, t' σ H Q → t σ H Q) : PT X e t' := ⟨fun pins s σ H Q I q => h.run pins s σ H Q I (k _ _ _ q)⟩
theorem PW.imp {X : Cx} {e : Expr} {t t' : TT} (h : PW X e t) (k : ∀ σ H Q, t' σ H Q → t σ H Q) : PW X e t' := ⟨fun w pins s σ H Q I q => h.run w pins s σ H Q I (k _ _ _ q)⟩
theorem PA.imp {X : Cx} {e : List Expr} {t t' : TA} (h : PA X e t) (k : ∀ σ H Q, t' σ H Q → t σ H Q) : PA X e t' := ⟨fun pos pins s σ H Q I q => h.run pos pins s σ H Q I (k _ _ _ q)⟩
theorem PS.imp {X : Cx} {e : Stmt} {t t' : TS} (h : PS X e t) (k : ∀ D σ H, t' D σ H → t D σ H) : PS X e t' := ⟨fun pins s σ H Q I q => h.run pins s σ H Q I (k _ _ _ q)⟩
theorem PSs.imp {X : Cx} {e : List Stmt} {t t' : TS} (h : PSs X e t) (k : ∀ D σ H, t' D σ H → t D σ H) : PSs X e t' := ⟨fun pins s σ H Q I q => h.run pins s σ H Q I (k _ _ _ q)⟩

/-- where a truth is wanted -/
def onBl {α : Type} (d : R) (f : Bool → Out α) : Out α := match d with
  | .v (.bl k) => f k
  | _ => .no
theorem RO.onBl {α β : Type} {K : PySem.W.Frag} {rel : Hp → Wd → β → α → Prop} {E : XK} {H : Hp} {ρ : Wd} {d : R} {v : V} {f : Bool → Out α} {Q : β → Hp → Prop} (r : Rq K H ρ v d) (h : RO K rel E H ρ (M.onBl d f) Q) : ∃ k, d = .bl k ∧ v = .bl k ∧ RO K rel E H ρ (f k) Q := by
  cases r with
  | ref e => exact h.elim
  | v r => cases r <;> first | exact (show False from h).elim | exact ⟨_, rfl, rfl, h⟩

section
variable {X : Cx} {E : St → XK} {a b c e : Expr} {es rest : List Expr} {pos : Pos} {ma mb mc : ME} {mt mu : MT} {mr : MA}

/-! ### names, constants -/
def mVar (i : Nat) : ME := fun m S => match m[i]? with
  | some (some d) => .ok d S
  | _ => .no
def mC (d : R) : ME := fun _ S => .ok d S
theorem pm_var (i : Nat) {x : Str} {pos : Pos} (hN : X.N[i]? = some x := by rfl) (hv : Vis X.env.scope x := by first | exact Or.inl rfl | exact Or.inr (Or.inl rfl) | exact Or.inr (Or.inr rfl)) (hd : (x == ("__debug__" : Str)) = false := by decide)
    (hcd : (x == ("__classdict__" : Str)) = false := by decide) : PE X (.Name x pos) (tE X.K E (mVar i)) := by
  refine PE.imp (pe_var hN hv hd hcd) ?_
  rintro σ H Q ⟨ρ, m, S, sr, er, h⟩
  unfold mVar at h
  split at h
  · rename_i d hd
    obtain ⟨v, e, r⟩ := er.get i d hd
    exact ⟨v, e, h v H ρ .refl sr r⟩
  · exact h.elim
theorem pm_c {v : V} {d : D} (h : PE X e (tC v)) (r : ∀ H ρ, Rp X.K H ρ v d) : PE X e (tE X.K E (mC (.v d))) := by
  refine PE.imp h ?_
  rintro σ H Q ⟨ρ, m, S, sr, er, h⟩
  exact h v H ρ .refl sr (.v (r _ _))
theorem pm_int {i j pos} : PE X (.Constant (.int i) j pos) (tE X.K E (mC (.int i))) := pm_c pe_int fun _ _ => .int i
theorem pm_bl {b j pos} : PE X (.Constant (.bool b) j pos) (tE X.K E (mC (.bl b))) := pm_c pe_bl fun _ _ => .bl b
theorem pm_non {j pos} : PE X (.Constant .none j pos) (tE X.K E (mC .non)) := pm_c pe_non fun _ _ => .non
theorem pm_str {x j pos} : PE X (.Constant (.str x) j pos) (tE X.K E (mC (.str x))) := pm_c pe_str fun _ _ => .str x

/-! ### operators by values (they raise nothing) -/
def rM (K : PySem.W.Frag) (g : R → R → Store → Out R) : R2 := fun x y H Q => ∃ (E : XK) (ρ : Wd) (S : Store) (d e : R), SR K H ρ S ∧ Rq K H ρ x d ∧ Rq K H ρ y e ∧ RO K (relD K) E H ρ (g d e S) Q
def rM1 (K : PySem.W.Frag) (g : R → Store → Out R) : V → Hp → VK → Prop := fun x H Q => ∃ (E : XK) (ρ : Wd) (S : Store) (d : R), SR K H ρ S ∧ Rq K H ρ x d ∧ RO K (relD K) E H ρ (g d S) Q
def rMA (K : PySem.W.Frag) (g : List R → Store → Out R) : List V → Hp → VK → Prop := fun xs H Q => ∃ (E : XK) (ρ : Wd) (S : Store) (ds : List R), SR K H ρ S ∧ RqA K H ρ xs ds ∧ RO K (relD K) E H ρ (g ds S) Q
def rMM (K : PySem.W.Frag) (g : R → List R → Store → Out R) : V → List V → Hp → VK → Prop := fun x xs H Q => ∃ (E : XK) (ρ : Wd) (S : Store) (d : R) (ds : List R), SR K H ρ S ∧ Rq K H ρ x d ∧ RqA K H ρ xs ds ∧ RO K (relD K) E H ρ (g d ds S) Q
def OpM (X : Cx) (f : Value → Value → Sem Value) (g : R → R → Store → Out R) : Prop := OpR X f (rM X.K g)
def UnM (X : Cx) (f : Value → Sem Value) (g : R → Store → Out R) : Prop := UnR X f (rM1 X.K g)
def CaM (X : Cx) (f : Value) (g : List R → Store → Out R) : Prop := CallR X f (rMA X.K g)
def mBin (g : R → R → Store → Out R) (a b : ME) : ME := fun m S => (a m S).bind fun x S1 => (b m S1).bind fun y S2 => g x y S2
def mUn (g : R → Store → Out R) (a : ME) : ME := fun m S => (a m S).bind fun x S1 => g x S1
theorem tOp_of {g : R → R → Store → Out R} {σ : St} {H : Hp} {Q : VK} (h : tE X.K E (mBin g ma mb) σ H Q) : tOp (rM X.K g) (tE X.K E ma) (tE X.K E mb) σ H Q := by
  obtain ⟨ρ, m, S, sr, er, h⟩ := h
  refine ⟨ρ, m, S, sr, er, RO.bind h fun d S1 v H1 ρ1 m1 s1 r1 h1 => ?_⟩
  refine ⟨ρ1, m, S1, s1, er.mo m1, RO.bind h1 fun e S2 w H2 ρ2 m2 s2 r2 h2 => ?_⟩
  exact ⟨_, ρ2, S2, d, e, s2, r1.mo m2, r2, h2⟩
theorem pm_bin {op : Operator} {g : R → R → Store → Out R} (ho : OpM X (binaryOp op) g) (ha : PE X a (tE X.K E ma)) (hb : PE X b (tE X.K E mb)) : PE X (.BinOp a op b pos) (tE X.K E (mBin g ma mb)) :=
  PE.imp (pe_op ho ha hb) fun _ _ _ h => tOp_of h
theorem pm_un {op : UnaryOp} {g : R → Store → Out R} (ho : UnM X (unaryOp op) g) (ha : PE X a (tE X.K E ma)) : PE X (.UnaryOp op a pos) (tE X.K E (mUn g ma)) := by
  refine PE.imp (pe_un ho ha) ?_
  rintro σ H Q ⟨ρ, m, S, sr, er, h⟩
  exact ⟨ρ, m, S, sr, er, RO.bind h fun d S1 v H1 ρ1 m1 s1 r1 h1 => ⟨_, ρ1, S1, d, s1, r1, h1⟩⟩
theorem pm_cmp {op : CmpOp} {g : R → R → Store → Out R} (ho : OpM X (compareOp op) g) (ha : PE X a (tE X.K E ma)) (hb : PE X b (tE X.K E mb)) (hm : behindInMarks op b = false := by first | exact nomark _ | rfl) : PE X (.Compare a [op] [b] pos) (tE X.K E (mBin g ma mb)) :=
  PE.imp (pe_cmpR ho ha hb hm) fun _ _ _ h => tOp_of h
def mtB (f : ME) : MT := fun m S => (f m S).bind fun d S1 => onBl d fun k => .ok k S1
theorem RO.bl {K : PySem.W.Frag} {E : XK} {H : Hp} {ρ : Wd} {o : Out R} {Q : Bool → Hp → Prop} (h : RO K relB E H ρ (o.bind fun d S1 => M.onBl d fun k => .ok k S1) Q) : RO K (relD K) E H ρ o fun x H' => ∃ k, x = .bl k ∧ Q k H' := by
  refine RO.bind h fun d S1 v H1 ρ1 m1 s1 r1 h1 => ?_
  obtain ⟨k, _, rfl, h1⟩ := RO.onBl r1 h1
  exact ⟨_, rfl, h1 _ H1 ρ1 .refl s1 rfl⟩
theorem tE.bl {K : PySem.W.Frag} {f : ME} {σ : St} {H : Hp} {Q : Bool → Hp → Prop} (h : tT K E (mtB f) σ H Q) : tE K E f σ H fun x H' => ∃ k, x = .bl k ∧ Q k H' := by
  obtain ⟨ρ, m, S, sr, er, h⟩ := h
  exact ⟨ρ, m, S, sr, er, RO.bl h⟩
theorem ptm_cmp {op : CmpOp} {g : R → R → Store → Out R} (ho : OpM X (compareOp op) g) (ha : PE X a (tE X.K E ma)) (hb : PE X b (tE X.K E mb)) (hm : behindInMarks op b = false := by first | exact nomark _ | rfl) : PT X (.Compare a [op] [b] pos) (tT X.K E (mtB (mBin g ma mb))) :=
  PT.imp (pt_cmpR ho ha hb hm) fun _ _ _ h => tOp_of (tE.bl h)
/-- a op b op' c -/
def mChain (g g' : R → R → Store → Out R) (a b c : ME) : ME := fun m S => (a m S).bind fun x S1 => (b m S1).bind fun y S2 => (g x y S2).bind fun z S3 => onBl z fun k => match k with
  | true => (c m S3).bind fun w S4 => g' y w S4
  | false => .ok (.bl false) S3
theorem tChain_of {g g' : R → R → Store → Out R} {σ : St} {H : Hp} {Q : VK} (h : tE X.K E (mChain g g' ma mb mc) σ H Q) : tChain (rM X.K g) (rM X.K g') (tE X.K E ma) (tE X.K E mb) (tE X.K E mc) σ H Q := by
  obtain ⟨ρ, m, S, sr, er, h⟩ := h
  refine ⟨ρ, m, S, sr, er, RO.bind h fun d S1 v H1 ρ1 m1 s1 r1 h1 => ?_⟩
  refine ⟨ρ1, m, S1, s1, er.mo m1, RO.bind h1 fun e S2 w H2 ρ2 m2 s2 r2 h2 => ?_⟩
  refine ⟨_, ρ2, S2, d, e, s2, r1.mo m2, r2, RO.bind h2 fun z S3 zv H3 ρ3 m3 s3 r3 h3 => ?_⟩
  obtain ⟨k, _, rfl, h3⟩ := RO.onBl r3 h3
  refine ⟨k, rfl, ?_⟩
  cases k with
  | false => exact h3 _ H3 ρ3 .refl s3 (.bl _)
  | true => exact ⟨ρ3, m, S3, s3, ((er.mo m1).mo m2).mo m3, RO.bind h3 fun c S4 cv H4 ρ4 m4 s4 r4 h4 => ⟨_, ρ4, S4, e, c, s4, (r2.mo m3).mo m4, r4, h4⟩⟩
theorem pm_chain {op op' : CmpOp} {g g' : R → R → Store → Out R} (ho : OpM X (compareOp op) g) (ho' : OpM X (compareOp op') g') (ha : PE X a (tE X.K E ma)) (hb : PE X b (tE X.K E mb)) (hc : PE X c (tE X.K E mc)) (hm : lastMarks [op, op'] [b, c] = false := by with_unfolding_all rfl) :
    PE X (.Compare a [op, op'] [b, c] pos) (tE X.K E (mChain g g' ma mb mc)) := PE.imp (pe_chain ho ho' ha hb hc hm) fun _ _ _ h => tChain_of h
theorem ptm_chain {op op' : CmpOp} {g g' : R → R → Store → Out R} (ho : OpM X (compareOp op) g) (ho' : OpM X (compareOp op') g') (ha : PE X a (tE X.K E ma)) (hb : PE X b (tE X.K E mb)) (hc : PE X c (tE X.K E mc)) (hm : lastMarks [op, op'] [b, c] = false := by with_unfolding_all rfl) :
    PT X (.Compare a [op, op'] [b, c] pos) (tT X.K E (mtB (mChain g g' ma mb mc))) := PT.imp (pt_chain ho ho' ha hb hc hm) fun _ _ _ h => tChain_of (tE.bl h)

/-! ### truth -/
/-- the items of a sequence -/
def seqC : MO → Option (List R)
  | .lst ds => some ds
  | .fz (.lst ds) => some (ds.map .v)
  | _ => none
def lsOf (S : Store) (n : Nat) : Option (List R) := S[n]?.bind seqC
/-- the items of a list, or a tuple -/
def seqOf (S : Store) : R → Option (List R)
  | .v (.tup ds) => some (ds.map .v)
  | .v (.lst ds) => some (ds.map .v)
  | .v (.kl ds) => some (ds.map .v)
  | .v (.kt ds) => some (ds.map .v)
  | .v _ => none
  | .ref n => lsOf S n
/-- of a list alone -/
def lstOf (S : Store) : R → Option (List R)
  | .v (.lst ds) => some (ds.map .v)
  | .v (.kl ds) => some (ds.map .v)
  | .v _ => none
  | .ref n => lsOf S n
theorem SR.ls {K : PySem.W.Frag} {H : Hp} {ρ : Wd} {S : Store} {n : Nat} {a : Addr} {ds : List R} (sr : SR K H ρ S) (e : ρ.r[n]? = some a) (h : lsOf S n = some ds) : ∃ xs, SqL K H a xs ∧ RqA K H ρ xs ds := by
  unfold lsOf at h
  obtain ⟨o, h1, h2⟩ := Option.bind_eq_some_iff.mp h
  have q := sr.obj n a o e h1
  unfold seqC at h2
  split at h2
  · cases h2
    obtain ⟨xs, hu, r⟩ := q
    exact ⟨xs, .inl (.inl hu), r⟩
  · cases h2
    have q : Rp K H ρ (.ref a) (.lst _) := q
    cases q with
    | lst hs ra => exact ⟨_, hs.sq, ra.q⟩
  · cases h2
theorem SR.seq {K : PySem.W.Frag} {H : Hp} {ρ : Wd} {S : Store} {v : V} {d : R} {ds : List R} (sr : SR K H ρ S) (r : Rq K H ρ v d) (e : seqOf S d = some ds) : ∃ p xs, v = .ref p ∧ (SqL K H p xs ∨ SqT K H p xs) ∧ RqA K H ρ xs ds := by
  cases r with
  | v r =>
    cases r <;> first | (cases e; done) | skip
    case tup hs ra => cases e; exact ⟨_, _, rfl, .inr (sqT_at hs), ra.q⟩
    case kt hs ra => cases e; exact ⟨_, _, rfl, .inr hs.sq, ra.q⟩
    case lst hs ra => cases e; exact ⟨_, _, rfl, .inl hs.sq, ra.q⟩
    case kl hs ra => cases e; exact ⟨_, _, rfl, .inl hs.sq, ra.q⟩
  | ref ea =>
    obtain ⟨xs, hq, ra⟩ := sr.ls ea e
    exact ⟨_, _, rfl, .inl hq, ra⟩
theorem SR.lsD {K : PySem.W.Frag} {H : Hp} {ρ : Wd} {S : Store} {v : V} {d : R} {ds : List R} (sr : SR K H ρ S) (r : Rq K H ρ v d) (h : lstOf S d = some ds) : ∃ a xs, v = .ref a ∧ SqL K H a xs ∧ RqA K H ρ xs ds := by
  cases r with
  | v r =>
    cases r <;> first | (cases h; done) | skip
    case lst hs ra => cases h; exact ⟨_, _, rfl, hs.sq, ra.q⟩
    case kl hs ra => cases h; exact ⟨_, _, rfl, hs.sq, ra.q⟩
  | ref ea =>
    obtain ⟨xs, q, r⟩ := sr.ls ea h
    exact ⟨_, _, rfl, q, r⟩
def truM (d : R) (S : Store) : Out Bool := match d with
  | .v .non => .ok false S
  | .v (.bl b) => .ok b S
  | .v (.int i) => .ok (i != 0) S
  | .v (.str x) => if x.length ≤ sizeLine then .ok ((x.length : Int) != 0) S else .no
  | .v (.tup ds) => .ok (!ds.isEmpty) S
  | .v (.lst ds) => .ok (!ds.isEmpty) S
  | .v (.kl ds) => .ok (!ds.isEmpty) S
  | .v (.dct ks _) => .ok (!ks.isEmpty) S
  | .v _ => .no
  | .ref n => match S[n]? with
    | some (.lst ds) => .ok (!ds.isEmpty) S
    | some (.fz (.lst ds)) => .ok (!ds.isEmpty) S
    | some (.dK kvs) => .ok (!kvs.isEmpty) S
    | _ => .no
def mtTru (f : ME) : MT := fun m S => (f m S).bind truM
theorem isEmpty_len {α β : Type} {xs : List α} {ys : List β} (h : xs.length = ys.length) : xs.isEmpty = ys.isEmpty := by
  cases xs <;> cases ys <;> first | rfl | simp at h
theorem tru_of {K : PySem.W.Frag} {E : XK} {H : Hp} {ρ : Wd} {S : Store} {v : V} {d : R} {Q : Bool → Hp → Prop} (sr : SR K H ρ S) (r : Rq K H ρ v d) (h : RO K relB E H ρ (truM d S) Q) : ∃ k, TruV K v H k ∧ Q k H := by
  cases r with
  | v r =>
    cases r with
    | non => exact ⟨_, rfl, h _ H ρ .refl sr rfl⟩
    | bl b => exact ⟨_, rfl, h _ H ρ .refl sr rfl⟩
    | int i => exact ⟨_, rfl, h _ H ρ .refl sr rfl⟩
    | str x =>
      have h : RO K relB E H ρ (if x.length ≤ sizeLine then .ok ((x.length : Int) != 0) S else .no) Q := h
      split at h
      · exact ⟨_, ⟨by assumption, rfl⟩, h _ H ρ .refl sr rfl⟩
      · exact h.elim
    | ty n => exact h.elim
    | txt x hx => exact h.elim
    | kt hs ha => exact h.elim
    | tup hs ha => exact ⟨_, .inr (.inl ⟨_, sqT_at hs, rfl⟩), h _ H ρ .refl sr (by rw [isEmpty_len ha.length])⟩
    | lst hs ha => exact ⟨_, .inl ⟨_, hs.sq, rfl⟩, h _ H ρ .refl sr (by rw [isEmpty_len ha.length])⟩
    | kl hs ha => exact ⟨_, .inl ⟨_, hs.sq, rfl⟩, h _ H ρ .refl sr (by rw [isEmpty_len ha.length])⟩
    | dct hz hd hl ha => exact ⟨_, .inr (.inr ⟨_, hd, rfl⟩), h _ H ρ .refl sr (by rename_i ks xs ds; rw [show (ks.zip xs).isEmpty = ks.isEmpty from isEmpty_len (by rw [List.length_zip, ← hl, Nat.min_self])])⟩
  | @ref a n e =>
    unfold truM at h
    simp only at h
    split at h
    · rename_i ds hs
      obtain ⟨xs, q, r⟩ := sr.ls (ds := ds) e (by unfold lsOf; rw [hs]; rfl)
      exact ⟨_, .inl ⟨xs, q, rfl⟩, h _ H ρ .refl sr (by rw [isEmpty_len r.length])⟩
    · rename_i ds hs
      obtain ⟨xs, q, r⟩ := sr.ls (ds := ds.map .v) e (by unfold lsOf; rw [hs]; rfl)
      exact ⟨_, .inl ⟨xs, q, rfl⟩, h _ H ρ .refl sr (by rw [show xs.isEmpty = ds.isEmpty from isEmpty_len (by rw [r.length, List.length_map])])⟩
    · rename_i kvs hs
      obtain ⟨u, hu, r⟩ := sr.obj n a _ e hs
      exact ⟨_, .inr (.inr ⟨_, hu, rfl⟩), h _ H ρ .refl sr (by rw [isEmpty_len (Paired.length r)])⟩
    · exact h.elim
theorem ptm_val (ha : PE X a (tE X.K E ma)) (he : ∀ whole, isTrue a X.env whole = (do let v ← whole; standAt a.pos; holding [v] (truthy v)) := by intro _; rfl) : PT X a (tT X.K E (mtTru ma)) := by
  refine PT.imp (pt_truth ha he) ?_
  rintro σ H Q ⟨ρ, m, S, sr, er, h⟩
  exact ⟨ρ, m, S, sr, er, RO.bind h fun d S1 v H1 ρ1 m1 s1 r1 h1 => tru_of s1 r1 h1⟩
def mtAnd (a b : MT) : MT := fun m S => (a m S).bind fun k S1 => match k with
  | true => b m S1
  | false => .ok false S1
def mtOr (a b : MT) : MT := fun m S => (a m S).bind fun k S1 => match k with
  | true => .ok true S1
  | false => b m S1
def mtNot (a : MT) : MT := fun m S => (a m S).bind fun k S1 => .ok (!k) S1
theorem ptm_not (ha : PT X a (tT X.K E mt)) : PT X (.UnaryOp .Not a pos) (tT X.K E (mtNot mt)) := by
  refine PT.imp (pt_not ha) ?_
  rintro σ H Q ⟨ρ, m, S, sr, er, h⟩
  exact ⟨ρ, m, S, sr, er, RO.bind h fun d S1 v H1 ρ1 m1 s1 r1 h1 => by subst r1; exact h1 _ H1 ρ1 .refl s1 rfl⟩
theorem pwm_and1 (ha : PT X a (tT X.K E mt)) : PW X (.BoolOp .And [a] pos) (tT X.K E mt) := pw_and1 ha
theorem pwm_or1 (ha : PT X a (tT X.K E mt)) : PW X (.BoolOp .Or [a] pos) (tT X.K E mt) := pw_or1 ha
theorem pwm_and (ha : PT X a (tT X.K E mt)) (hb : PW X (.BoolOp .And (b :: rest) pos) (tT X.K E mu)) : PW X (.BoolOp .And (a :: b :: rest) pos) (tT X.K E (mtAnd mt mu)) := by
  refine PW.imp (pw_and ha hb) ?_
  rintro σ H Q ⟨ρ, m, S, sr, er, h⟩
  refine ⟨ρ, m, S, sr, er, RO.bind h fun d S1 v H1 ρ1 m1 s1 r1 h1 => ?_⟩
  subst r1
  cases v with
  | true => exact iteT ⟨ρ1, m, S1, s1, er.mo m1, h1⟩
  | false => exact iteF (h1 _ H1 ρ1 .refl s1 rfl)
theorem pwm_or (ha : PT X a (tT X.K E mt)) (hb : PW X (.BoolOp .Or (b :: rest) pos) (tT X.K E mu)) : PW X (.BoolOp .Or (a :: b :: rest) pos) (tT X.K E (mtOr mt mu)) := by
  refine PW.imp (pw_or ha hb) ?_
  rintro σ H Q ⟨ρ, m, S, sr, er, h⟩
  refine ⟨ρ, m, S, sr, er, RO.bind h fun d S1 v H1 ρ1 m1 s1 r1 h1 => ?_⟩
  subst r1
  cases v with
  | true => exact iteT (h1 _ H1 ρ1 .refl s1 rfl)
  | false => exact iteF ⟨ρ1, m, S1, s1, er.mo m1, h1⟩
/-- and, or, not as values (bools ahead of the last) -/
def mAnd (a b : ME) : ME := fun m S => (a m S).bind fun k S1 => onBl k fun k => match k with
  | true => b m S1
  | false => .ok (.bl false) S1
def mOr (a b : ME) : ME := fun m S => (a m S).bind fun k S1 => onBl k fun k => match k with
  | true => .ok (.bl true) S1
  | false => b m S1
def mNot (a : ME) : ME := fun m S => (a m S).bind fun k S1 => onBl k fun k => .ok (.bl (!k)) S1
theorem pm_one {op} (h : PE X a (tE X.K E ma)) : PE X (.BoolOp op [a] pos) (tE X.K E ma) := pe_one h
theorem pm_and (ha : PE X a (tE X.K E ma)) (hb : PE X (.BoolOp .And (b :: rest) pos) (tE X.K E mb)) : PE X (.BoolOp .And (a :: b :: rest) pos) (tE X.K E (mAnd ma mb)) := by
  refine PE.imp (pe_and ha hb) ?_
  rintro σ H Q ⟨ρ, m, S, sr, er, h⟩
  refine ⟨ρ, m, S, sr, er, RO.bind h fun d S1 v H1 ρ1 m1 s1 r1 h1 => ?_⟩
  obtain ⟨k, _, rfl, h1⟩ := RO.onBl r1 h1
  refine ⟨k, rfl, ?_⟩
  cases k with
  | true => exact iteT ⟨ρ1, m, S1, s1, er.mo m1, h1⟩
  | false => exact iteF (h1 _ H1 ρ1 .refl s1 (.bl _))
theorem pm_or (ha : PE X a (tE X.K E ma)) (hb : PE X (.BoolOp .Or (b :: rest) pos) (tE X.K E mb)) : PE X (.BoolOp .Or (a :: b :: rest) pos) (tE X.K E (mOr ma mb)) := by
  refine PE.imp (pe_or ha hb) ?_
  rintro σ H Q ⟨ρ, m, S, sr, er, h⟩
  refine ⟨ρ, m, S, sr, er, RO.bind h fun d S1 v H1 ρ1 m1 s1 r1 h1 => ?_⟩
  obtain ⟨k, _, rfl, h1⟩ := RO.onBl r1 h1
  refine ⟨k, rfl, ?_⟩
  cases k with
  | true => exact iteT (h1 _ H1 ρ1 .refl s1 (.bl _))
  | false => exact iteF ⟨ρ1, m, S1, s1, er.mo m1, h1⟩
theorem pm_not (ha : PE X a (tE X.K E ma)) : PE X (.UnaryOp .Not a pos) (tE X.K E (mNot ma)) := by
  refine PE.imp (pe_not ha) ?_
  rintro σ H Q ⟨ρ, m, S, sr, er, h⟩
  refine ⟨ρ, m, S, sr, er, RO.bind h fun d S1 v H1 ρ1 m1 s1 r1 h1 => ?_⟩
  obtain ⟨k, _, rfl, h1⟩ := RO.onBl r1 h1
  exact ⟨_, rfl, h1 _ H1 ρ1 .refl s1 (.bl _)⟩
def mIf (t : MT) (a b : ME) : ME := fun m S => (t m S).bind fun k S1 => match k with
  | true => a m S1
  | false => b m S1
theorem pm_ifExp (hc : PT X c (tT X.K E mt)) (ha : PE X a (tE X.K E ma)) (hb : PE X b (tE X.K E mb)) : PE X (.IfExp c a b pos) (tE X.K E (mIf mt ma mb)) := by
  refine PE.imp (pe_ifExp hc ha hb) ?_
  rintro σ H Q ⟨ρ, m, S, sr, er, h⟩
  refine ⟨ρ, m, S, sr, er, RO.bind h fun d S1 v H1 ρ1 m1 s1 r1 h1 => ?_⟩
  subst r1
  cases v with
  | true => exact iteT ⟨ρ1, m, S1, s1, er.mo m1, h1⟩
  | false => exact iteF ⟨ρ1, m, S1, s1, er.mo m1, h1⟩

/-! ### arguments, displays, calls -/
def mNil : MA := fun _ S => .ok [] S
def mCons (a : ME) (r : MA) : MA := fun m S => (a m S).bind fun d S1 => (r m S1).bind fun ds S2 => .ok (d :: ds) S2
theorem pam_nil : PA X [] (tA X.K E mNil) := by
  refine PA.imp pa_nil ?_
  rintro σ H Q ⟨ρ, m, S, sr, er, h⟩
  exact h _ H ρ .refl sr .nil
theorem pam_cons (ha : PE X e (tE X.K E ma)) (hr : PA X es (tA X.K E mr)) (hs : starEach (e :: es) X.env = (false, eval e X.env) :: starEach es X.env := by rfl) : PA X (e :: es) (tA X.K E (mCons ma mr)) := by
  refine PA.imp (pa_cons ha hr hs) ?_
  rintro σ H Q ⟨ρ, m, S, sr, er, h⟩
  refine ⟨ρ, m, S, sr, er, RO.bind h fun d S1 v H1 ρ1 m1 s1 r1 h1 => ?_⟩
  refine ⟨ρ1, m, S1, s1, er.mo m1, RO.bind h1 fun ds S2 vs H2 ρ2 m2 s2 r2 h2 => ?_⟩
  exact h2 _ H2 ρ2 .refl s2 (.cons (r1.mo m2) r2)
/-! ### freezing: a cell that never changes again -/
mutual
def frz : Nat → Store → R → Option (D × Store)
  | _, S, .v d => some (d, S)
  | 0, _, .ref _ => none
  | k + 1, S, .ref n => match S[n]? with
    | some (.fz d) => some (d, S)
    | some (.lst rs) => (frzA k S rs).bind fun p => some (.lst p.1, p.2.set n (.fz (.lst p.1)))
    | some (.dK kvs) => (frzA k S (kvs.map (·.2))).bind fun p => some (.dct (kvs.map (·.1)) p.1, p.2.set n (.fz (.dct (kvs.map (·.1)) p.1)))
    | _ => none
  termination_by k _ _ => (k, 0)
def frzA : Nat → Store → List R → Option (List D × Store)
  | _, S, [] => some ([], S)
  | k, S, r :: rs => (frz k S r).bind fun p => (frzA k p.2 rs).bind fun q => some (p.1 :: q.1, q.2)
  termination_by k _ rs => (k, rs.length + 1)
end
theorem frz_v (k : Nat) (S : Store) (d : D) : frz k S (.v d) = some (d, S) := by cases k <;> simp [frz]
theorem frzA_map (k : Nat) (S : Store) : ∀ ds : List D, frzA k S (ds.map .v) = some (ds, S)
  | [] => by simp [frzA]
  | d :: ds => by simp [frzA, frz_v, frzA_map k S ds]
theorem SR.freeze {K : PySem.W.Frag} {H : Hp} {ρ : Wd} {S : Store} {n : Nat} {a : Addr} {d : D} (sr : SR K H ρ S) (e : ρ.r[n]? = some a) (h : Rp K H ⟨ρ.r, fun b => ρ.z b ∨ b = a⟩ (.ref a) d) :
    SR K H ⟨ρ.r, fun b => ρ.z b ∨ b = a⟩ (S.set n (.fz d)) ∧ Mo K H ρ H ⟨ρ.r, fun b => ρ.z b ∨ b = a⟩ := by
  have mo : Mo K H ρ H ⟨ρ.r, fun b => ρ.z b ∨ b = a⟩ := ⟨fun _ _ h => h, fun _ _ h => h, fun _ _ h => h, fun b h => ⟨.inl h, rfl⟩⟩
  have cas : ∀ (k : Nat) (b : Addr) (o' : MO), ρ.r[k]? = some b → (S.set n (.fz d))[k]? = some o' → (k = n ∧ b = a ∧ o' = .fz d) ∨ (k ≠ n ∧ b ≠ a ∧ S[k]? = some o') := fun k b o' e' q => by
    by_cases hk : n = k
    · subst hk
      rw [e] at e'; cases e'
      have hs : n < S.length := by
        rcases Nat.lt_or_ge n S.length with z | z
        · exact z
        · rw [List.getElem?_eq_none (by rw [List.length_set]; exact z)] at q; cases q
      rw [List.getElem?_set_self hs] at q
      exact .inl ⟨rfl, rfl, (Option.some.inj q).symm⟩
    · rw [List.getElem?_set_ne hk] at q
      exact .inr ⟨fun z => hk z.symm, fun z => hk (nd_at sr.nd e (z ▸ e')), q⟩
  refine ⟨⟨sr.nd, by rw [List.length_set]; exact sr.len, fun k b o' e' q => ?_, fun k b o' e' q hl => ?_, fun b h => ?_, sr.r⟩, mo⟩
  · rcases cas k b o' e' q with ⟨rfl, rfl, rfl⟩ | ⟨_, hb, q⟩
    · exact h
    · exact (sr.obj k b o' e' q).mo mo rfl
  · rcases cas k b o' e' q with ⟨rfl, rfl, rfl⟩ | ⟨_, hb, q⟩
    · exact hl.elim
    · rintro (z | z)
      · exact sr.lv k b o' e' q hl z
      · exact hb z
  · rcases h with h | h
    · exact sr.z b h
    · subst h; exact sr.r n b e
mutual
theorem frz_ok {K : PySem.W.Frag} {H : Hp} : ∀ (k : Nat) (S : Store) (r : R) (d : D) (S' : Store) (ρ : Wd) (v : V), frz k S r = some (d, S') → SR K H ρ S → Rq K H ρ v r → ∃ z', SR K H ⟨ρ.r, z'⟩ S' ∧ Mo K H ρ H ⟨ρ.r, z'⟩ ∧ Rp K H ⟨ρ.r, z'⟩ v d
  | k, S, .v d, d', S', ρ, v, e, sr, r => by
    rw [frz_v] at e
    cases e
    cases r with
    | v r => exact ⟨ρ.z, sr, .refl, r⟩
  | 0, S, .ref n, d', S', ρ, v, e, sr, r => by simp [frz] at e
  | k + 1, S, .ref n, d', S', ρ, v, e, sr, r => by
    cases r with
    | @ref a _ ea =>
      unfold frz at e
      split at e
      · rename_i d hd
        cases e
        exact ⟨ρ.z, sr, .refl, sr.obj n a _ ea hd⟩
      · rename_i rs hd
        obtain ⟨⟨ds, S1⟩, e1, e2⟩ := Option.bind_eq_some_iff.mp e
        cases e2
        obtain ⟨xs, hu, ra⟩ := sr.obj n a _ ea hd
        obtain ⟨z1, s1, m1, r1⟩ := frzA_ok k S rs ds S1 ρ xs e1 sr ra
        have rp : Rp K H ⟨ρ.r, fun b => z1 b ∨ b = a⟩ (.ref a) (.lst ds) := .lst ⟨.inr rfl, hu⟩ (r1.mo ⟨fun _ _ h => h, fun _ _ h => h, fun _ _ h => h, fun b h => ⟨.inl h, rfl⟩⟩)
        obtain ⟨s2, m2⟩ := s1.freeze (n := n) (a := a) (d := .lst ds) ea rp
        exact ⟨_, s2, m1.trans m2, rp⟩
      · rename_i kvs hd
        obtain ⟨⟨ds, S1⟩, e1, e2⟩ := Option.bind_eq_some_iff.mp e
        cases e2
        obtain ⟨xs, hu, ra⟩ := sr.obj n a _ ea hd
        have ks : ∀ {xs : List (Key × V)} {kvs : List (Key × R)}, RpP K H ρ xs kvs → kvs.map (·.1) = xs.map (·.1) ∧ RqA K H ρ (xs.map (·.2)) (kvs.map (·.2)) := by
          intro xs kvs h
          induction h with
          | nil => exact ⟨rfl, .nil⟩
          | cons h1 h2 ih => exact ⟨by simp [h1.1, ih.1], .cons h1.2 ih.2⟩
        obtain ⟨k1, k2⟩ := ks ra
        obtain ⟨z1, s1, m1, r1⟩ := frzA_ok k S _ ds S1 ρ _ e1 sr k2
        have hz : xs = (kvs.map (·.1)).zip (xs.map (·.2)) := by
          rw [k1]
          clear hu ra k1 k2 r1
          induction xs with
          | nil => rfl
          | cons x xs ih => simp [← ih]
        have rp : Rp K H ⟨ρ.r, fun b => z1 b ∨ b = a⟩ (.ref a) (.dct (kvs.map (·.1)) ds) := .dct (.inr rfl) (by rw [← hz]; exact hu) (by rw [k1]; simp) (r1.mo ⟨fun _ _ h => h, fun _ _ h => h, fun _ _ h => h, fun b h => ⟨.inl h, rfl⟩⟩)
        obtain ⟨s2, m2⟩ := s1.freeze (n := n) (a := a) (d := .dct (kvs.map (·.1)) ds) ea rp
        exact ⟨_, s2, m1.trans m2, rp⟩
      · cases e
  termination_by k _ _ => (k, 0)
theorem frzA_ok {K : PySem.W.Frag} {H : Hp} : ∀ (k : Nat) (S : Store) (rs : List R) (ds : List D) (S' : Store) (ρ : Wd) (vs : List V), frzA k S rs = some (ds, S') → SR K H ρ S → RqA K H ρ vs rs → ∃ z', SR K H ⟨ρ.r, z'⟩ S' ∧ Mo K H ρ H ⟨ρ.r, z'⟩ ∧ RpA K H ⟨ρ.r, z'⟩ vs ds
  | k, S, [], ds, S', ρ, vs, e, sr, r => by
    unfold frzA at e
    cases e
    cases r
    exact ⟨ρ.z, sr, .refl, .nil⟩
  | k, S, r0 :: rs, ds, S', ρ, vs, e, sr, r => by
    unfold frzA at e
    obtain ⟨⟨d, S1⟩, e1, e2⟩ := Option.bind_eq_some_iff.mp e
    obtain ⟨⟨ds', S2⟩, e3, e4⟩ := Option.bind_eq_some_iff.mp e2
    cases e4
    cases r with
    | cons ra rb =>
      obtain ⟨z1, s1, m1, r1⟩ := frz_ok k S r0 d S1 ρ _ e1 sr ra
      obtain ⟨z2, s2, m2, r2⟩ := frzA_ok k S1 rs ds' S2 ⟨ρ.r, z1⟩ _ e3 s1 (RqA.mo rb m1)
      exact ⟨z2, s2, m1.trans m2, .cons (r1.mo m2) r2⟩
  termination_by k _ rs => (k, rs.length + 1)
end
def frzO {α : Type} (S : Store) (rs : List R) (f : List D → Store → Out α) : Out α := match frzA 8 S rs with
  | some p => f p.1 p.2
  | none => .no
theorem RO.frz {α β : Type} {K : PySem.W.Frag} {rel : Hp → Wd → β → α → Prop} {E : XK} {H : Hp} {ρ : Wd} {S : Store} {rs : List R} {vs : List V} {f : List D → Store → Out α} {Q : β → Hp → Prop} (sr : SR K H ρ S) (r : RqA K H ρ vs rs) (h : RO K rel E H ρ (frzO S rs f) Q) :
    ∃ ds S' ρ', SR K H ρ' S' ∧ Mo K H ρ H ρ' ∧ RpA K H ρ' vs ds ∧ RO K rel E H ρ' (f ds S') Q := by
  unfold frzO at h
  split at h
  · rename_i p e
    obtain ⟨z', s1, m1, r1⟩ := frzA_ok 8 S rs p.1 p.2 ρ vs e sr r
    exact ⟨_, _, _, s1, m1, r1, RO.mono h m1⟩
  · exact h.elim
/-- a new tuple; a new list that is a cell, one by value -/
def mTup (r : MA) : ME := fun m S => (r m S).bind fun rs S1 => frzO S1 rs fun ds S2 => if ds.length ≤ sizeLine then .ok (.tup ds) S2 else .no
def mLst (r : MA) : ME := fun m S => (r m S).bind fun ds S1 => if ds.length ≤ sizeLine then .ok (.ref S1.length) (S1 ++ [.lst ds]) else .no
def mLstV (r : MA) : ME := fun m S => (r m S).bind fun rs S1 => frzO S1 rs fun ds S2 => if ds.length ≤ sizeLine then .ok (.lst ds) S2 else .no
/-- a new list -/
theorem RO.lst {K : PySem.W.Frag} {E : XK} {H : Hp} {ρ : Wd} {S : Store} {ds : List R} {xs : List V} {Q : VK} (sr : SR K H ρ S) (r : RqA K H ρ xs ds) (h : RO K (relD K) E H ρ (.ok (.ref S.length) (S ++ [.lst ds])) Q) {p : Addr} (hp : H p = none) : Q (.ref p) (upd H p (.lst xs)) := by
  have mo : Mo K H ρ (upd H p (.lst xs)) ⟨ρ.r ++ [p], ρ.z⟩ := .newR sr hp
  refine h _ _ ⟨ρ.r ++ [p], ρ.z⟩ mo (sr.new hp ⟨xs, upd_same, r.mo mo⟩) (.ref ?_)
  show (ρ.r ++ [p])[S.length]? = _
  rw [List.getElem?_append_right (by rw [sr.len]; exact Nat.le_refl _), sr.len, Nat.sub_self]
  rfl
theorem RO.tup {K : PySem.W.Frag} {E : XK} {H : Hp} {ρ : Wd} {S : Store} {ds : List D} {xs : List V} {Q : VK} (sr : SR K H ρ S) (r : RpA K H ρ xs ds) (h : RO K (relD K) E H ρ (.ok (.tup ds) S) Q) {p : Addr} (hp : H p = none) : Q (.ref p) (upd H p (.tup xs)) :=
  h _ _ ρ (.new sr hp) (sr.newT hp) (.v (.tup upd_same (r.mo (.new sr hp))))
/-- a new thing, frozen at once -/
theorem SR.newZ {K : PySem.W.Frag} {H : Hp} {ρ : Wd} {S : Store} (sr : SR K H ρ S) {p : Addr} {u : HO} (hp : H p = none) : SR K (upd H p u) ⟨ρ.r, fun b => ρ.z b ∨ b = p⟩ S ∧ Mo K H ρ (upd H p u) ⟨ρ.r, fun b => ρ.z b ∨ b = p⟩ := by
  have s1 := sr.newT (u := u) hp
  have mo1 : Mo K H ρ (upd H p u) ρ := .new sr hp
  have mo : Mo K H ρ (upd H p u) ⟨ρ.r, fun b => ρ.z b ∨ b = p⟩ := ⟨mo1.tup, mo1.kl, mo1.ref, fun b h => ⟨.inl h, (mo1.z b h).2⟩⟩
  have mo2 : Mo K (upd H p u) ρ (upd H p u) ⟨ρ.r, fun b => ρ.z b ∨ b = p⟩ := ⟨fun _ _ h => h, fun _ _ h => h, fun _ _ h => h, fun b h => ⟨.inl h, rfl⟩⟩
  refine ⟨⟨s1.nd, s1.len, fun n a o e q => (s1.obj n a o e q).mo mo2 rfl, fun n a o e q hl => ?_, fun a h => ?_, s1.r⟩, mo⟩
  · rintro (z | z)
    · exact s1.lv n a o e q hl z
    · subst z; exact sr.r n a e hp
  · rcases h with h | h
    · exact s1.z a h
    · subst h; rw [upd_same]; exact fun z => nomatch z
theorem RO.lstV {K : PySem.W.Frag} {E : XK} {H : Hp} {ρ : Wd} {S : Store} {ds : List D} {xs : List V} {Q : VK} (sr : SR K H ρ S) (r : RpA K H ρ xs ds) (h : RO K (relD K) E H ρ (.ok (.lst ds) S) Q) {p : Addr} (hp : H p = none) : Q (.ref p) (upd H p (.lst xs)) := by
  obtain ⟨s1, mo⟩ := sr.newZ (u := .lst xs) hp
  exact h _ _ _ mo s1 (.v (.lst ⟨.inr rfl, upd_same⟩ (r.mo mo)))
theorem pm_tup {k : Nat} (ha : PA X es (tA X.K E mr)) : PE X (.Tuple es k pos) (tE X.K E (mTup mr)) := by
  refine PE.imp (pe_tup ha) ?_
  rintro σ H Q ⟨ρ, m, S, sr, er, h⟩
  refine ⟨ρ, m, S, sr, er, RO.bind h fun ds S1 xs H1 ρ1 m1 s1 r1 h1 => ?_⟩
  obtain ⟨es, S2, ρ2, s2, m2, r2, h2⟩ := RO.frz s1 r1 h1
  split at h2
  · exact ⟨by rw [r2.length]; assumption, fun p hp => RO.tup s2 r2 h2 hp⟩
  · exact h2.elim
theorem pm_lst (ha : PA X es (tA X.K E mr)) : PE X (.List es pos) (tE X.K E (mLst mr)) := by
  refine PE.imp (pe_lst ha) ?_
  rintro σ H Q ⟨ρ, m, S, sr, er, h⟩
  refine ⟨ρ, m, S, sr, er, RO.bind h fun ds S1 xs H1 ρ1 m1 s1 r1 h1 => ?_⟩
  split at h1
  · exact ⟨by rw [r1.length]; assumption, fun p hp => RO.lst s1 r1 h1 hp⟩
  · exact h1.elim
theorem pm_lstV (ha : PA X es (tA X.K E mr)) : PE X (.List es pos) (tE X.K E (mLstV mr)) := by
  refine PE.imp (pe_lst ha) ?_
  rintro σ H Q ⟨ρ, m, S, sr, er, h⟩
  refine ⟨ρ, m, S, sr, er, RO.bind h fun ds S1 xs H1 ρ1 m1 s1 r1 h1 => ?_⟩
  obtain ⟨es, S2, ρ2, s2, m2, r2, h2⟩ := RO.frz s1 r1 h1
  split at h2
  · exact ⟨by rw [r2.length]; assumption, fun p hp => RO.lstV s2 r2 h2 hp⟩
  · exact h2.elim
def mCall (g : List R → Store → Out R) (r : MA) : ME := fun m S => (r m S).bind g
theorem pm_callB {x : Str} {p : Pos} {id : String} {g : List R → Store → Out R} (hc : CaM X (.builtin id) g) (hg : Gl X x) (hm : X.mg x = none) (hv : bootBuiltins x = some (.builtin id)) (ha : PA X (e :: es) (tA X.K E mr)) (hn : x ≠ "__name__" := by decide) (hdb : (x == ("__debug__" : Str)) = false := by decide)
    (he : starEach (e :: es) X.env = (false, eval e X.env) :: starEach es X.env := by rfl) (hpl : (backTo pos (starEach es X.env)).any (·.1) = false := by rfl) : PE X (.Call (.Name x p) (e :: es) [] pos) (tE X.K E (mCall g mr)) := by
  refine PE.imp (pe_callB hc hg hm hv ha hn hdb he hpl) ?_
  rintro σ H Q ⟨ρ, m, S, sr, er, h⟩
  exact ⟨ρ, m, S, sr, er, RO.bind h fun ds S1 xs H1 ρ1 m1 s1 r1 h1 => ⟨_, ρ1, S1, ds, s1, r1, h1⟩⟩
theorem pm_callTy {x : Str} {p : Pos} {T : String} {g : List R → Store → Out R} (hc : CaM X (.type T) g) (hg : Gl X x) (hm : X.mg x = none) (hv : bootBuiltins x = some (.type T)) (ha : PA X (e :: es) (tA X.K E mr)) (hn : x ≠ "__name__" := by decide) (hdb : (x == ("__debug__" : Str)) = false := by decide)
    (he : starEach (e :: es) X.env = (false, eval e X.env) :: starEach es X.env := by rfl) (hpl : (backTo pos (starEach es X.env)).any (·.1) = false := by rfl) : PE X (.Call (.Name x p) (e :: es) [] pos) (tE X.K E (mCall g mr)) := by
  refine PE.imp (pe_callTy hc hg hm hv ha hn hdb he hpl) ?_
  rintro σ H Q ⟨ρ, m, S, sr, er, h⟩
  exact ⟨ρ, m, S, sr, er, RO.bind h fun ds S1 xs H1 ρ1 m1 s1 r1 h1 => ⟨_, ρ1, S1, ds, s1, r1, h1⟩⟩
/-- what a def promises that the mirror g tells -/
def spM (K : PySem.W.Frag) (n : Nat) (g : List R → Store → Out R) : Sp := fun vs H Q E => vs.length = n ∧ ∃ (ρ : Wd) (S : Store) (ds : List R), SR K H ρ S ∧ RqA K H ρ vs ds ∧ RO K (relD K) E H ρ (g ds S) Q
theorem pm_call {x : Str} {p : Pos} {CX : CXT} {k n : Nat} {f : Addr} {fd : FuncData} {ps : List Str} {g : List R → Store → Out R} (F : FnOk X.prog X.w X.K X.mg X.base CX k f fd ps (spM X.K n g)) (hr : Room k X.A) (hg : Gl X x) (hm : X.mg x = some (.ref f)) (hk : PySem.W.keepIn X.K (.ref f) = true) (hb : Binds X.K fd ps [])
    {E0 : XK} (hx : Passes CX X E0) (hE : ∀ σ, E σ = E0) (ha : PA X (e :: es) (tA X.K E mr)) (hl : (e :: es).length = n := by rfl) (hdb : (x == ("__debug__" : Str)) = false := by decide) (he : starEach (e :: es) X.env = (false, eval e X.env) :: starEach es X.env := by rfl) (hpl : (backTo pos (starEach es X.env)).any (·.1) = false := by rfl)
    (hA : ∀ m S ds S', mr m S = .ok ds S' → ds.length = n) : PE X (.Call (.Name x p) (e :: es) [] pos) (tE X.K E (mCall g mr)) := by
  refine PE.imp (pe_call F hr hg hm hk hb .nil hx ha hdb he hpl) ?_
  rintro σ H Q ⟨ρ, m, S, sr, er, h⟩
  have hA := hA m S
  refine ⟨ρ, m, S, sr, er, ?_⟩
  unfold mCall at h
  generalize mr m S = o at h hA ⊢
  cases o with
  | ok ds S1 =>
    refine fun xs H1 ρ1 m1 s1 r1 => ?_
    show spM X.K n g (xs ++ []) H1 Q E0
    rw [List.append_nil]
    refine ⟨by rw [r1.length]; exact hA ds S1 rfl, ρ1, S1, ds, s1, r1, ?_⟩
    rw [← hE σ]
    exact RO.mono h m1
  | exc c S1 => exact h
  | no => exact h
end
end M

/-! ### cutting the store back -/
namespace M
open PySem PySem.Spec L2
open PyProof.Rows hiding St
def R.lo (k : Nat) : R → Prop
  | .v _ => True
  | .ref n => n < k
def MO.lo (k : Nat) : MO → Prop
  | .lst rs => ∀ r ∈ rs, r.lo k
  | .dK kvs => ∀ p ∈ kvs, p.2.lo k
  | .dT kvs => ∀ p ∈ kvs, p.2.lo k
  | .ins _ fs => ∀ p ∈ fs, p.2.lo k
  | .lkK kvs => ∀ p ∈ kvs, p.2.lo k
  | .lkT kvs => ∀ p ∈ kvs, p.2.lo k
  | .fz _ => True
/-- what was there stands, or points to nothing new -/
def Upd (S T : Store) : Prop := T.length = S.length ∧ ∀ (i : Nat) (c : MO), T[i]? = some c → S[i]? = some c ∨ c.lo S.length
def OkCut (S T : Store) : Prop := S.length ≤ T.length ∧ Upd S (T.take S.length)
open Classical in
noncomputable def cut (S T : Store) : Store := if OkCut S T then T.take S.length else T
theorem Upd.refl (S : Store) : Upd S S := ⟨rfl, fun _ _ h => .inl h⟩
theorem Upd.set {S T : Store} {n : Nat} {c : MO} (h : Upd S T) (hc : c.lo S.length) : Upd S (T.set n c) := by
  refine ⟨by rw [List.length_set]; exact h.1, fun i c' e => ?_⟩
  by_cases hi : n = i
  · subst hi
    by_cases hl : n < T.length
    · rw [List.getElem?_set_self hl] at e
      cases e
      exact .inr hc
    · rw [List.getElem?_eq_none (by rw [List.length_set]; omega)] at e; cases e
  · rw [List.getElem?_set_ne hi] at e
    exact h.2 i c' e
theorem MO.lo.mono {k j : Nat} (h : k ≤ j) : ∀ {c : MO}, c.lo k → c.lo j := by
  have hr : ∀ r : R, r.lo k → r.lo j := fun r hr => by
    cases r with
    | v d => trivial
    | ref n => exact Nat.lt_of_lt_of_le hr h
  intro c hc
  cases c with
  | lst rs => exact fun r m => hr r (hc r m)
  | dK rs => exact fun r m => hr _ (hc r m)
  | dT rs => exact fun r m => hr _ (hc r m)
  | ins C rs => exact fun r m => hr _ (hc r m)
  | lkK rs => exact fun r m => hr _ (hc r m)
  | lkT rs => exact fun r m => hr _ (hc r m)
  | fz d => trivial
theorem Upd.trans {S T U : Store} (a : Upd S T) (b : Upd T U) : Upd S U := by
  refine ⟨b.1.trans a.1, fun i c e => ?_⟩
  rcases b.2 i c e with h | h
  · exact a.2 i c h
  · exact .inr (h.mono (Nat.le_of_eq a.1))
theorem cut_app {S T : Store} (t : Store) (h : Upd S T) : cut S (T ++ t) = T := by
  have e : (T ++ t).take S.length = T := by rw [← h.1, List.take_left]
  unfold cut
  rw [if_pos ⟨by rw [List.length_append, h.1]; omega, by rw [e]; exact h⟩, e]
theorem cut_upd {S T : Store} (h : Upd S T) : cut S T = T := by
  have := cut_app (t := []) h
  rwa [List.append_nil] at this
theorem cut_self (S : Store) : cut S S = S := cut_upd (.refl S)
section
variable {K : PySem.W.Frag} {H H' H0 : Hp} {ρ ρ' ρ0 : Wd} {S T : Store}
mutual
theorem Rp.zz {p q : List Addr} {z : Addr → Prop} : ∀ (d : D) (v : V), Rp K H ⟨p, z⟩ v d → Rp K H ⟨q, z⟩ v d
  | .non, _, h => by cases h; exact .non
  | .bl b, _, h => by cases h; exact .bl b
  | .int i, _, h => by cases h; exact .int i
  | .str x, _, h => by cases h; exact .str x
  | .ty n, _, h => by cases h; exact .ty n
  | .tup ds, _, h => by
    cases h with
    | tup hs ha => exact .tup hs (RpA.zz ds _ ha)
  | .lst ds, _, h => by
    cases h with
    | lst hs ha => exact .lst hs (RpA.zz ds _ ha)
  | .kl ds, _, h => by
    cases h with
    | kl hs ha => exact .kl hs (RpA.zz ds _ ha)
  | .dct ks ds, _, h => by
    cases h with
    | dct hz hs hl ha => exact .dct hz hs hl (RpA.zz ds _ ha)
  | .txt, _, h => by
    cases h with
    | txt x hx => exact .txt x hx
  | .kt ds, _, h => by
    cases h with
    | kt hs ha => exact .kt hs (RpA.zz ds _ ha)
theorem RpA.zz {p q : List Addr} {z : Addr → Prop} : ∀ (ds : List D) (vs : List V), RpA K H ⟨p, z⟩ vs ds → RpA K H ⟨q, z⟩ vs ds
  | [], _, h => by cases h; exact .nil
  | d :: ds, _, h => by
    cases h with
    | cons h1 h2 => exact .cons (Rp.zz d _ h1) (RpA.zz ds _ h2)
end
theorem Rq.lo {v : V} {r : R} (h : Rq K H ρ v r) : r.lo ρ.r.length := by
  cases h with
  | v h => trivial
  | ref e => exact (List.getElem?_eq_some_iff.mp e).1
theorem Rq.take {v : V} {r : R} {k : Nat} (h : Rq K H ρ v r) (hb : r.lo k) : Rq K H ⟨ρ.r.take k, ρ.z⟩ v r := by
  cases h with
  | v h => exact .v (Rp.zz _ _ h)
  | ref e => exact .ref (by rw [List.getElem?_take_of_lt hb]; exact e)
theorem RqA.lo {vs : List V} {rs : List R} (h : RqA K H ρ vs rs) : ∀ r ∈ rs, r.lo ρ.r.length := by
  induction h with
  | nil => intro r hr; cases hr
  | cons h1 h2 ih =>
    intro r hr
    rcases List.mem_cons.mp hr with rfl | hr
    · exact h1.lo
    · exact ih r hr
theorem RqA.takeW {vs : List V} {rs : List R} {k : Nat} (h : RqA K H ρ vs rs) (hb : ∀ r ∈ rs, r.lo k) : RqA K H ⟨ρ.r.take k, ρ.z⟩ vs rs := by
  induction h with
  | nil => exact .nil
  | cons h1 h2 ih => exact .cons (h1.take (hb _ (by simp))) (ih fun r hr => hb r (by simp [hr]))
theorem RpP.lo {κ : Type} {vs : List (κ × V)} {rs : List (κ × R)} (h : RpP K H ρ vs rs) : ∀ r ∈ rs, r.2.lo ρ.r.length := by
  induction h with
  | nil => intro r hr; cases hr
  | cons h1 h2 ih =>
    intro r hr
    rcases List.mem_cons.mp hr with rfl | hr
    · exact h1.2.lo
    · exact ih r hr
theorem RpP.takeW {κ : Type} {vs : List (κ × V)} {rs : List (κ × R)} {k : Nat} (h : RpP K H ρ vs rs) (hb : ∀ r ∈ rs, r.2.lo k) : RpP K H ⟨ρ.r.take k, ρ.z⟩ vs rs := by
  induction h with
  | nil => exact .nil
  | cons h1 h2 ih => exact .cons ⟨h1.1, h1.2.take (hb _ (by simp))⟩ (ih fun r hr => hb r (by simp [hr]))
theorem HoR.lo {a : Addr} : ∀ {c : MO}, HoR K H ρ a c → c.lo ρ.r.length
  | .lst _, ⟨_, _, r⟩ => RqA.lo r
  | .dK _, ⟨_, _, r⟩ => RpP.lo r
  | .dT _, ⟨_, _, r⟩ => RpP.lo r
  | .ins _ _, ⟨_, _, _, _, _, r⟩ => RpP.lo r
  | .lkK _, ⟨_, _, _, _, r⟩ => RpP.lo r
  | .lkT _, ⟨_, _, _, _, r⟩ => RpP.lo r
  | .fz _, _ => trivial
theorem HoR.takeW {a : Addr} {k : Nat} : ∀ {c : MO}, HoR K H ρ a c → c.lo k → HoR K H ⟨ρ.r.take k, ρ.z⟩ a c
  | .lst _, ⟨xs, h, r⟩, hb => ⟨xs, h, RqA.takeW r hb⟩
  | .dK _, ⟨xs, h, r⟩, hb => ⟨xs, h, RpP.takeW r hb⟩
  | .dT _, ⟨xs, h, r⟩, hb => ⟨xs, h, RpP.takeW r hb⟩
  | .ins _ _, ⟨c, dx, xs, hc, h, r⟩, hb => ⟨c, dx, xs, hc, h, RpP.takeW r hb⟩
  | .lkK _, ⟨hz, od, xs, h, r⟩, hb => ⟨hz, od, xs, h, RpP.takeW r hb⟩
  | .lkT _, ⟨hz, od, xs, h, r⟩, hb => ⟨hz, od, xs, h, RpP.takeW r hb⟩
  | .fz _, h, _ => Rp.zz _ _ h
theorem SR.cutW (s0 : SR K H0 ρ0 S) (mo : Mo K H0 ρ0 H' ρ') (s1 : SR K H' ρ' T) (ok : OkCut S T) : SR K H' ⟨ρ'.r.take S.length, ρ'.z⟩ (T.take S.length) ∧ Mo K H0 ρ0 H' ⟨ρ'.r.take S.length, ρ'.z⟩ := by
  have inj : ∀ {β : Type} (l : List β) (n k : Nat) (x : β), (l.take k)[n]? = some x → n < k ∧ l[n]? = some x := fun l n k x e => by
    have hn : n < k := by
      rcases Nat.lt_or_ge n k with z | z
      · exact z
      · rw [List.getElem?_eq_none (by rw [List.length_take]; omega)] at e; cases e
    rw [List.getElem?_take_of_lt hn] at e
    exact ⟨hn, e⟩
  refine ⟨⟨s1.nd.sublist (List.take_sublist _ _), by simp [List.length_take, s1.len], fun n a o e q => ?_, fun n a o e q hl => ?_, s1.z, fun n a e => ?_⟩, ⟨mo.tup, mo.kl, fun n a e => ?_, mo.z⟩⟩
  · obtain ⟨hn, e'⟩ := inj _ _ _ _ e
    obtain ⟨_, q'⟩ := inj _ _ _ _ q
    refine (s1.obj n a o e' q').takeW ?_
    rcases ok.2.2 n o q with h | h
    · have hn0 : n < ρ0.r.length := by rw [s0.len]; exact hn
      have e0 : ρ0.r[n]? = some ρ0.r[n] := List.getElem?_eq_getElem hn0
      have := (s0.obj n _ o e0 h).lo
      rw [s0.len] at this
      exact this
    · exact h
  · exact s1.lv n a o (inj _ _ _ _ e).2 (inj _ _ _ _ q).2 hl
  · exact s1.r n a (inj _ _ _ _ e).2
  · have hn : n < S.length := by rw [← s0.len]; exact (List.getElem?_eq_some_iff.mp e).1
    show (ρ'.r.take S.length)[n]? = _
    rw [List.getElem?_take_of_lt hn]
    exact mo.ref n a e
theorem SR.cut (s0 : SR K H0 ρ0 S) (mo : Mo K H0 ρ0 H' ρ') (s1 : SR K H' ρ' T) : ∃ r', SR K H' ⟨r', ρ'.z⟩ (M.cut S T) ∧ Mo K H0 ρ0 H' ⟨r', ρ'.z⟩ := by
  unfold M.cut
  split
  · rename_i ok
    exact ⟨_, s0.cutW mo s1 ok⟩
  · exact ⟨ρ'.r, s1, mo⟩
end
/-- by value, all that was made on the way forgotten -/
noncomputable def popV (S : Store) (r : R) (S' : Store) : Out R := match frz 8 S' r with
  | some p => .ok (.v p.1) (cut S p.2)
  | none => .no
noncomputable def mPop (f : ME) : ME := fun m S => (f m S).bind fun r S' => popV S r S'
theorem RO.pop {K : PySem.W.Frag} {E : XK} {H : Hp} {ρ : Wd} {S : Store} {o : Out R} {Q : VK} (sr : SR K H ρ S) (h : RO K (relD K) E H ρ (o.bind (popV S)) Q) : RO K (relD K) E H ρ o Q := by
  cases o with
  | no => exact h
  | exc c S1 => exact h
  | ok r S1 =>
    intro v H' ρ' mo s r
    have h : RO K (relD K) E H ρ (popV S _ S1) Q := h
    unfold popV at h
    split at h
    · rename_i p e
      obtain ⟨z', s1, m1, r1⟩ := frz_ok 8 S1 _ p.1 p.2 ρ' v e s r
      obtain ⟨r', s2, m2⟩ := sr.cut (mo.trans m1) s1
      exact h v H' _ m2 s2 (.v (Rp.zz _ _ r1))
    · exact h.elim
theorem pm_pop {X : Cx} {E : St → XK} {e : Expr} {f : ME} (h : PE X e (tE X.K E f)) : PE X e (tE X.K E (mPop f)) := by
  refine PE.imp h ?_
  rintro σ H Q ⟨ρ, m, S, sr, er, h⟩
  exact ⟨ρ, m, S, sr, er, RO.pop sr h⟩
/-! ### a turn's own cells forgotten -/
def keepE (k : Nat) : Option R → Option R
  | some (.ref n) => if n < k then some (.ref n) else none
  | o => o
open Classical in
noncomputable def trim (S : Store) (m2 : Env) (S2 : Store) (f : Env → Store → OutS) : OutS := if S.length < S2.length ∧ OkCut S S2 then f (m2.map (keepE S.length)) (S2.take S.length) else f m2 S2
noncomputable def mTrim (f : MS) : MS := fun m S => match f m S with
  | .nx m2 S2 => trim S m2 S2 .nx
  | .ct m2 S2 => trim S m2 S2 .ct
  | o => o
theorem EnvR.keep {K : PySem.W.Frag} {H : Hp} {ρ : Wd} {σ : St} {m : Env} {k : Nat} (h : EnvR K H ρ σ m) : EnvR K H ⟨ρ.r.take k, ρ.z⟩ σ (m.map (keepE k)) := by
  refine ⟨by rw [List.length_map]; exact h.len, fun i d e => ?_⟩
  rw [List.getElem?_map] at e
  obtain ⟨o, e1, e2⟩ := Option.map_eq_some_iff.mp e
  cases o with
  | none => cases e2
  | some r =>
    obtain ⟨v, a, b⟩ := h.get i r e1
    cases r with
    | v d' =>
      cases e2
      exact ⟨v, a, b.take trivial⟩
    | ref n =>
      simp only [keepE] at e2
      split at e2
      · cases e2
        exact ⟨v, a, b.take (by assumption)⟩
      · cases e2
theorem psm_trim {X : Cx} {E : St → XK} {sts : List Stmt} {f : MS} (h : PSs X sts (tS X.K E f)) : PSs X sts (tS X.K E (mTrim f)) := by
  refine PSs.imp h ?_
  rintro D σ H ⟨ρ, m, S, sr, er, h⟩
  refine ⟨ρ, m, S, sr, er, ?_⟩
  have h : RS X.K E H ρ (match f m S with | .nx m2 S2 => trim S m2 S2 .nx | .ct m2 S2 => trim S m2 S2 .ct | o => o) D := h
  generalize f m S = o at h ⊢
  cases o with
  | bk m' S' => exact h
  | rt d S' => exact h
  | exc c m' S' => exact h
  | no => exact h
  | nx m' S' =>
    simp only [trim] at h
    split at h
    · rename_i hc
      intro σ' H' ρ' mo s e
      obtain ⟨s1, m1⟩ := sr.cutW mo s hc.2
      exact h σ' H' _ m1 s1 e.keep
    · exact h
  | ct m' S' =>
    simp only [trim] at h
    split at h
    · rename_i hc
      intro σ' H' ρ' mo s e
      obtain ⟨s1, m1⟩ := sr.cutW mo s hc.2
      exact h σ' H' _ m1 s1 e.keep
    · exact h
end M

/-! MStmt: statements, loops, comprehensions, defs. -/
namespace M
open PySem PySem.Spec L2
open PyProof.Rows hiding St
section
variable {X : Cx} {E : St → XK} {a b c e tgE iter : Expr} {es rest : List Expr} {pos : Pos} {ma mb mc : ME} {mt mu : MT} {mr : MA} {st : Stmt} {sts : List Stmt} {ms mz : MS}

/-! ### blocks, small statements -/
def mSkip : MS := fun m S => .nx m S
def mSeq (f g : MS) : MS := fun m S => match f m S with
  | .nx m' S' => g m' S'
  | o => o
theorem psm_nil : PSs X [] (tS X.K E mSkip) := by
  refine PSs.imp pss_nil ?_
  rintro D σ H ⟨ρ, m, S, sr, er, h⟩
  exact h σ H ρ .refl sr er
theorem psm_cons (h1 : PS X st (tS X.K E ms)) (h2 : PSs X sts (tS X.K E mz)) : PSs X (st :: sts) (tS X.K E (mSeq ms mz)) := by
  refine PSs.imp (pss_cons h1 h2) ?_
  rintro D σ H ⟨ρ, m, S, sr, er, h⟩
  refine ⟨ρ, m, S, sr, er, ?_⟩
  have h : RS X.K E H ρ (match ms m S with | .nx m' S' => mz m' S' | o => o) D := h
  generalize ms m S = o at h ⊢
  cases o with
  | nx m' S' => exact fun σ' H' ρ' mo s r => ⟨ρ', m', S', s, r, RS.mono h mo⟩
  | bk m' S' => exact h
  | ct m' S' => exact h
  | rt d S' => exact h
  | exc c m' S' => exact h
  | no => exact h
theorem psm_one (h1 : PS X st (tS X.K E ms)) : PSs X [st] (tS X.K E ms) := pss_one h1
theorem psm_pass : PS X (.Pass pos) (tS X.K E mSkip) := by
  refine PS.imp ps_pass ?_
  rintro D σ H ⟨ρ, m, S, sr, er, h⟩
  exact h σ H ρ .refl sr er
def mBrk : MS := fun m S => .bk m S
def mCnt : MS := fun m S => .ct m S
theorem psm_break : PS X (.Break pos) (tS X.K E mBrk) := by
  refine PS.imp ps_break ?_
  rintro D σ H ⟨ρ, m, S, sr, er, h⟩
  exact h σ H ρ .refl sr er
theorem psm_continue : PS X (.Continue pos) (tS X.K E mCnt) := by
  refine PS.imp ps_continue ?_
  rintro D σ H ⟨ρ, m, S, sr, er, h⟩
  exact h σ H ρ .refl sr er
def mDrop (f : ME) : MS := fun m S => (f m S).thenS m fun _ S1 => .nx m S1
theorem psm_expr (he : PE X e (tE X.K E ma)) (hs : swapsWith e none pos.line X.env = pure false := by rfl) : PS X (.Expr e pos) (tS X.K E (mDrop ma)) := by
  refine PS.imp (ps_expr he hs) ?_
  rintro D σ H ⟨ρ, m, S, sr, er, h⟩
  exact ⟨ρ, m, S, sr, er, RS.bind er h fun d S1 v H1 ρ1 m1 s1 r1 e1 h1 => h1 σ H1 ρ1 .refl s1 e1⟩
def mRet (f : ME) : MS := fun m S => (f m S).thenS m fun d S1 => .rt d S1
theorem psm_ret (he : PE X e (tE X.K E ma)) : PS X (.Return (some e) pos) (tS X.K E (mRet ma)) := by
  refine PS.imp (ps_ret he) ?_
  rintro D σ H ⟨ρ, m, S, sr, er, h⟩
  exact ⟨ρ, m, S, sr, er, RS.bind er h fun d S1 v H1 ρ1 m1 s1 r1 e1 h1 => h1 v H1 ρ1 .refl s1 r1⟩
def mRetN : MS := fun m S => .rt .non S
theorem psm_retN : PS X (.Return none pos) (tS X.K E mRetN) := by
  refine PS.imp ps_retN ?_
  rintro D σ H ⟨ρ, m, S, sr, er, h⟩
  exact h _ H ρ .refl sr .non
def mIfS (t : MT) (f g : MS) : MS := fun m S => (t m S).thenS m fun k S1 => match k with
  | true => f m S1
  | false => g m S1
theorem psm_if {sa sb : List Stmt} (hc : PT X c (tT X.K E mt)) (ha : PSs X sa (tS X.K E ms)) (hb : PSs X sb (tS X.K E mz)) : PS X (.If c sa sb pos) (tS X.K E (mIfS mt ms mz)) := by
  refine PS.imp (ps_if hc ha hb) ?_
  rintro D σ H ⟨ρ, m, S, sr, er, h⟩
  refine ⟨ρ, m, S, sr, er, RS.bind er h fun d S1 v H1 ρ1 m1 s1 r1 e1 h1 => ?_⟩
  subst r1
  cases v with
  | true => exact iteT ⟨ρ1, m, S1, s1, e1, h1⟩
  | false => exact iteF ⟨ρ1, m, S1, s1, e1, h1⟩
def mSet (i : Nat) (f : ME) : MS := fun m S => (f m S).thenS m fun d S1 => .nx (m.set i (some d)) S1
theorem psm_set (i : Nat) {x : Str} {pos' : Pos} (hN : X.N.Nodup) (hi : X.N[i]? = some x) (hx : Loc X.env.scope x) (he : PE X e (tE X.K E ma)) (hs : swapsWith e (some (.Name x pos')) pos.line X.env = pure false := by rfl) (hf : X.fn x = true ∨ X.env.scope.names.lookup x = some .local := by first | exact .inl rfl | exact .inr rfl | assumption) :
    PS X (.Assign [.Name x pos'] e pos) (tS X.K E (mSet i ma)) := by
  refine PS.imp (ps_set hN hi hx he hs hf) ?_
  rintro D σ H ⟨ρ, m, S, sr, er, h⟩
  exact ⟨ρ, m, S, sr, er, RS.bind er h fun d S1 v H1 ρ1 m1 s1 r1 e1 h1 => h1 _ H1 ρ1 .refl s1 (e1.set r1 i)⟩
def mPar (i j : Nat) (f g : ME) : MS := fun m S => (f m S).thenS m fun x S1 => (g m S1).thenS m fun y S2 => .nx ((m.set i (some x)).set j (some y)) S2
theorem psm_par (i j : Nat) {x y : Str} {px py pt : Pos} {kt k2 pt2} (hc : X.calm = true) (hN : X.N.Nodup) (hi : X.N[i]? = some x) (hj : X.N[j]? = some y) (hij : i ≠ j)
    (hx : X.env.scope.names.lookup x = some .local) (hy : X.env.scope.names.lookup y = some .local) (ha : PE X a (tE X.K E ma)) (hb : PE X b (tE X.K E mb))
    (hw : swappedStores [.Tuple [.Name x px, .Name y py] kt pt] (.Tuple [a, b] k2 pt2) X.env = pure (some [x, y]))
    (hs : swapsWithSole [.Tuple [.Name x px, .Name y py] kt pt] (.Tuple [a, b] k2 pt2) pos.line X.env = pure false := by rfl)
    (h1 : starEach [a, b] X.env = (false, eval a X.env) :: starEach [b] X.env := by rfl) (h2 : starEach [b] X.env = (false, eval b X.env) :: starEach [] X.env := by rfl) :
    PS X (.Assign [.Tuple [.Name x px, .Name y py] kt pt] (.Tuple [a, b] k2 pt2) pos) (tS X.K E (mPar i j ma mb)) := by
  refine PS.imp (ps_par hc hN hi hj hij hx hy (pa_cons ha (pa_cons hb pa_nil h2) h1) hw hs) ?_
  rintro D σ H ⟨ρ, m, S, sr, er, h⟩
  refine ⟨ρ, m, S, sr, er, RS.bind er h fun d S1 v H1 ρ1 m1 s1 r1 e1 h1 => ?_⟩
  refine ⟨ρ1, m, S1, s1, e1, RS.bind e1 h1 fun d2 S2 w H2 ρ2 m2 s2 r2 e2 h2 => ?_⟩
  exact ⟨v, w, rfl, h2 _ H2 ρ2 .refl s2 ((e2.set (r1.mo m2) i).set r2 j)⟩
/-- name op= e -/
def mAug (i : Nat) (g : R → R → Store → Out R) (f : ME) : MS := fun m S => (mVar i m S).thenS m fun x S0 => (f m S0).thenS m fun y S1 => (g x y S1).thenS m fun z S2 => .nx (m.set i (some z)) S2
theorem psm_aug (i : Nat) {x : Str} {op : Operator} {g : R → R → Store → Out R} {pos' : Pos} (hN : X.N.Nodup) (hi : X.N[i]? = some x) (hx : Loc X.env.scope x) (he : PE X e (tE X.K E ma)) (ho : PIp X op (rM X.K g)) (hf : X.fn x = true ∨ X.env.scope.names.lookup x = some .local := by first | exact .inl rfl | exact .inr rfl | assumption) :
    PS X (.AugAssign (.Name x pos') op e pos) (tS X.K E (mAug i g ma)) := by
  refine PS.imp (ps_aug hN hi hx he ho hf) ?_
  rintro D σ H ⟨ρ, m, S, sr, er, h⟩
  unfold mAug mVar at h
  split at h
  · rename_i d hd
    obtain ⟨v, e, r⟩ := er.get i d hd
    refine ⟨v, e, ρ, m, S, sr, er, RS.bind er h fun d1 S1 w H1 ρ1 m1 s1 r1 e1 h1 => ?_⟩
    exact ⟨E σ, ρ1, S1, d, d1, s1, r.mo m1, r1, RS.bind e1 h1 fun z S2 zv H2 ρ2 m2 s2 r2 e2 h2 => h2 _ H2 ρ2 .refl s2 (e2.set r2 i)⟩
  · exact h.elim

/-! ### targets that are names, or tuples of such -/
abbrev TgM := R → Env → Option Env
def tgN (i : Nat) : TgM := fun d m => some (m.set i (some d))
def bindAll : List TgM → List R → Env → Option Env
  | [], [], m => some m
  | t :: ts, d :: ds, m => (t d m).bind fun m' => bindAll ts ds m'
  | _, _, _ => none
def tgT (ts : List TgM) : TgM := fun d m => match d with
  | .v (.tup ds) => bindAll ts (ds.map .v) m
  | _ => none
def gM (K : PySem.W.Frag) (vs : List Nat) (g : TgM) : TG := fun v σ H Q => ∃ (ρ : Wd) (m : Env) (d : R) (m' : Env), EnvR K H ρ σ m ∧ Rq K H ρ v d ∧ g d m = some m' ∧
  ∀ σ', EnvR K H ρ σ' m' → (∀ j, j ∉ vs → σ'[j]? = σ[j]?) → σ'.length = σ.length → Q σ' H
def gMs (K : PySem.W.Frag) (vs : List Nat) (ts : List TgM) : TGs := fun xs σ H Q => ∃ (ρ : Wd) (m : Env) (ds : List R) (m' : Env), EnvR K H ρ σ m ∧ RqA K H ρ xs ds ∧ bindAll ts ds m = some m' ∧
  ∀ σ', EnvR K H ρ σ' m' → (∀ j, j ∉ vs → σ'[j]? = σ[j]?) → σ'.length = σ.length → Q σ' H
theorem PG.imp {e : Expr} {t t' : TG} (h : PG X e t) (k : ∀ v σ H Q, t' v σ H Q → t v σ H Q) : PG X e t' := ⟨fun pins s σ H v u Q I r q => h.run pins s σ H v u Q I r (k _ _ _ _ q)⟩
theorem PGs.imp {e : List Expr} {t t' : TGs} (h : PGs X e t) (k : ∀ v σ H Q, t' v σ H Q → t v σ H Q) : PGs X e t' := ⟨fun pins s σ H v u Q I r q => h.run pins s σ H v u Q I r (k _ _ _ _ q)⟩
theorem pgm_name (i : Nat) {x : Str} (hN : X.N.Nodup) (hi : X.N[i]? = some x) (hx : Loc X.env.scope x) (hf : X.fn x = true ∨ X.env.scope.names.lookup x = some .local := by first | exact .inl rfl | exact .inr rfl | assumption) : PG X (.Name x pos) (gM X.K [i] (tgN i)) := by
  refine PG.imp (pg_name hN hi hx hf) ?_
  rintro v σ H Q ⟨ρ, m, d, m', er, r, e, h⟩
  cases e
  refine h _ (er.set r i) (fun j hj => ?_) (List.length_set ..)
  rw [List.getElem?_set_ne (by intro q; subst q; simp at hj)]
theorem pgms_nil : PGs X [] (gMs X.K [] []) := by
  refine PGs.imp pgs_nil ?_
  rintro xs σ H Q ⟨ρ, m, ds, m', er, r, e, h⟩
  cases r with
  | nil =>
    cases e
    exact ⟨rfl, h σ er (fun _ _ => rfl) rfl⟩
  | cons r1 r2 => cases e
theorem pgms_cons {t : TgM} {ts : List TgM} {vs ws : List Nat} (h1 : PG X e (gM X.K vs t)) (h2 : PGs X es (gMs X.K ws ts)) (hs : (assignEach (e :: es) X.env).map (·.2) = assign e X.env :: (assignEach es X.env).map (·.2) := by rfl) : PGs X (e :: es) (gMs X.K (vs ++ ws) (t :: ts)) := by
  refine PGs.imp (pgs_cons h1 h2 hs) ?_
  rintro xs σ H Q ⟨ρ, m, ds, m', er, r, e, h⟩
  cases r with
  | nil => cases e
  | @cons v d xs ds r1 r2 =>
    have e : (t d m).bind (fun m' => bindAll ts ds m') = some m' := e
    cases et : t d m with
    | none => rw [et] at e; cases e
    | some m1 =>
      rw [et] at e
      refine ⟨v, xs, rfl, ρ, m, d, m1, er, r1, et, fun σ1 er1 k1 l1 => ⟨ρ, m1, ds, m', er1, r2, e, fun σ2 er2 k2 l2 => ?_⟩⟩
      refine h σ2 er2 (fun j hj => ?_) (l2.trans l1)
      rw [List.mem_append, not_or] at hj
      rw [k2 j hj.2, k1 j hj.1]
theorem pgm_tup {k : Nat} {ts : List TgM} {vs : List Nat} {n : Nat} (hc : X.calm = true) (h : PGs X es (gMs X.K vs ts)) (hn : (assignEach es X.env).length = n := by rfl) (hl : ts.length = n := by rfl) (hst : (assignEach es X.env).findIdx? (·.1) = none := by rfl) : PG X (.Tuple es k pos) (gM X.K vs (tgT ts)) := by
  refine PG.imp (pg_tup hc h hn hst) ?_
  rintro v σ H Q ⟨ρ, m, d, m', er, r, e, h⟩
  cases r with
  | ref _ => cases e
  | v r =>
  cases r with
  | @tup a xs ds hs ra =>
    have ra := ra.q
    have e : bindAll ts (ds.map .v) m = some m' := e
    refine ⟨a, xs, rfl, sqT_at hs, ?_, ρ, m, ds.map .v, m', er, ra, e, h⟩
    rw [ra.length, ← hl]
    have q : ∀ (ts : List TgM) (ds : List R) (m : Env), bindAll ts ds m = some m' → ds.length = ts.length := by
      intro ts
      induction ts with
      | nil => intro ds m e; cases ds with
        | nil => rfl
        | cons _ _ => cases e
      | cons t ts ih => intro ds m e; cases ds with
        | nil => cases e
        | cons d ds =>
          have e : (t d m).bind (fun m' => bindAll ts ds m') = some m' := e
          cases et : t d m with
          | none => rw [et] at e; cases e
          | some m1 => rw [et] at e; exact congrArg (· + 1) (ih ds m1 e)
    exact q ts _ m e
  | _ => cases e
def mAsg (t : TgM) (f : ME) : MS := fun m S => (f m S).thenS m fun d S1 => match t d m with
  | some m' => .nx m' S1
  | none => .no
theorem psm_asg {t : TgM} {vs : List Nat} (he : PE X e (tE X.K E ma)) (hg : PG X tgE (gM X.K vs t)) (hs : swapsWithSole [tgE] e pos.line X.env = pure false := by rfl) (hw : swappedStores [tgE] e X.env = pure none := by rfl)
    (h1 : (assignEach [tgE] X.env).map (·.2) = [assign tgE X.env] := by rfl) : PS X (.Assign [tgE] e pos) (tS X.K E (mAsg t ma)) := by
  refine PS.imp (ps_asg he hg hs hw h1) ?_
  rintro D σ H ⟨ρ, m, S, sr, er, h⟩
  refine ⟨ρ, m, S, sr, er, RS.bind er h fun d S1 v H1 ρ1 m1 s1 r1 e1 h1 => ?_⟩
  split at h1
  · rename_i m' et
    exact ⟨ρ1, m, d, m', e1, r1, et, fun σ' er' _ _ => h1 σ' H1 ρ1 .refl s1 er'⟩
  · exact h1.elim

/-! ### what is walked -/
/-- the items, and the objects that must stand meanwhile -/
structure Src where
  items : List R
  pins : List (Nat × MO)
def pinsOk : List (Nat × MO) → Store → Prop
  | [], _ => True
  | p :: r, S => S[p.1]? = some p.2 ∧ pinsOk r S
abbrev MI := Env → Store → Out Src
def okSrc (K : PySem.W.Frag) (it : Src) (H' : Hp) (ρ' : Wd) (J : It) : Prop := ∃ (G : Hp → Prop) (Y : Nat → Hp → V → Hp → Prop), Walk J it.items.length G Y ∧
  (∀ H2 ρ2 S2, Mo K H' ρ' H2 ρ2 → SR K H2 ρ2 S2 → pinsOk it.pins S2 → G H2) ∧
  ∀ i H2 x H3 ρ2 S2, i < it.items.length → Mo K H' ρ' H2 ρ2 → SR K H2 ρ2 S2 → pinsOk it.pins S2 → Y i H2 x H3 → ∃ d, it.items[i]? = some d ∧ Mo K H2 ρ2 H3 ρ2 ∧ SR K H3 ρ2 S2 ∧ Rq K H3 ρ2 x d
def tI (K : PySem.W.Frag) (E : St → XK) (f : MI) : TI := fun σ H R => ∃ (ρ : Wd) (m : Env) (S : Store), SR K H ρ S ∧ EnvR K H ρ σ m ∧ (match f m S with
  | .ok it S' => ∀ J H' ρ', Mo K H ρ H' ρ' → SR K H' ρ' S' → okSrc K it H' ρ' J → R J H'
  | .exc c S' => RO K (fun _ _ (_ : Unit) (_ : Unit) => True) (E σ) H ρ (.exc c S' : Out Unit) fun _ _ => True
  | .no => False)
theorem PI.imp {wi wi' : TI} (h : PI X tgE iter wi) (k : ∀ σ H R, wi' σ H R → wi σ H R) : PI X tgE iter wi' := ⟨fun pins s σ H R I q => h.run pins s σ H R I (k _ _ _ q)⟩
theorem PI.or {w1 w2 : TI} (h1 : PI X tgE iter w1) (h2 : PI X tgE iter w2) : PI X tgE iter fun σ H R => w1 σ H R ∨ w2 σ H R := ⟨fun pins s σ H R I q => q.elim (h1.run pins s σ H R I) (h2.run pins s σ H R I)⟩
open Classical in
noncomputable def mForGo (pins : List (Nat × MO)) (t : TgM) (body : MS) : List R → Env → Store → OutS
  | [], m, S => if pinsOk pins S then .nx m S else .no
  | d :: ds, m, S => if pinsOk pins S then (match t d m with
    | none => .no
    | some m' => match body m' S with
      | .nx m2 S2 => mForGo pins t body ds m2 S2
      | .ct m2 S2 => mForGo pins t body ds m2 S2
      | .bk m2 S2 => .nx m2 S2
      | .rt d S2 => .rt d S2
      | .exc c m2 S2 => .exc c m2 S2
      | .no => .no) else .no
noncomputable def mFor (f : MI) (t : TgM) (body : MS) : MS := fun m S => (f m S).thenS m fun it S1 => mForGo it.pins t body it.items m S1
theorem pins_of {K : PySem.W.Frag} {H : Hp} {ρ : Wd} {pins : List (Nat × MO)} {t : TgM} {body : MS} {ds : List R} {m : Env} {S : Store} {D : Ends} (h : RS K E H ρ (mForGo pins t body ds m S) D) : pinsOk pins S := by
  cases ds with
  | nil =>
    unfold mForGo at h
    split at h
    · assumption
    · exact h.elim
  | cons d ds =>
    unfold mForGo at h
    split at h
    · assumption
    · exact h.elim
theorem psm_for {body : List Stmt} {f : MI} {t : TgM} {vs : List Nat} (hp : PassesOwn (model X.prog X.w) X.A X.env X.xe) (hc : X.calm = true) (hi : PI X tgE iter (tI X.K E f)) (hg : PG X tgE (gM X.K vs t)) (hb : PSs X body (tS X.K E ms)) (hs : ∀ x, foldedSetIterable iter X.env x = pure x := by intro _; rfl) :
    PS X (.For tgE iter body [] pos) (tS X.K E (mFor f t ms)) := by
  refine PS.imp (ps_for hp hc hi hg hb hs) ?_
  rintro D σ H ⟨ρ, m, S, sr, er, h⟩
  refine ⟨ρ, m, S, sr, er, ?_⟩
  have h : RS X.K E H ρ ((f m S).thenS m fun it S1 => mForGo it.pins t ms it.items m S1) D := h
  generalize f m S = o at h ⊢
  cases o with
  | no => exact h
  | exc c S1 => exact fun dx H' ρ' mo s r => h σ dx H' ρ' mo s (er.mo mo) r
  | ok it S1 =>
    rintro J H1 ρ1 m1 s1 ⟨G, Y, wk, hG, hY⟩
    refine for_it wk (fun i σ2 H2 => ∃ ρ2 m2 S2, Mo X.K H1 ρ1 H2 ρ2 ∧ SR X.K H2 ρ2 S2 ∧ EnvR X.K H2 ρ2 σ2 m2 ∧ RS X.K E H2 ρ2 (mForGo it.pins t ms (it.items.drop i) m2 S2) D) ?_ ?_ ?_ ?_
    · exact ⟨ρ1, m, S1, .refl, s1, er.mo m1, RS.mono h m1⟩
    · rintro i σ2 H2 hi ⟨ρ2, m2, S2, mo2, s2, e2, h2⟩
      exact hG H2 ρ2 S2 mo2 s2 (pins_of h2)
    · rintro i x σ2 H2 H3 hi ⟨ρ2, m2, S2, mo2, s2, e2, h2⟩ hy
      obtain ⟨d, ed, mo3, s3, r3⟩ := hY i H2 x H3 ρ2 S2 hi mo2 s2 (pins_of h2) hy
      have hd : it.items.drop i = d :: it.items.drop (i + 1) := by
        rw [List.getElem?_eq_getElem hi] at ed
        rw [List.drop_eq_getElem_cons hi, Option.some.inj ed]
      rw [hd] at h2
      unfold mForGo at h2
      split at h2
      · split at h2
        · exact h2.elim
        · rename_i m' et
          refine ⟨ρ2, m2, d, m', e2.mo mo3, r3, et, fun σ' er' _ _ => ⟨ρ2, m', S2, s3, er', ?_⟩⟩
          generalize ms m' S2 = o at h2 ⊢
          cases o with
          | nx m4 S4 => exact fun σ5 H5 ρ5 mo5 s5 e5 => ⟨ρ5, m4, S4, (mo2.trans mo3).trans mo5, s5, e5, RS.mono h2 (mo3.trans mo5)⟩
          | ct m4 S4 => exact fun σ5 H5 ρ5 mo5 s5 e5 => ⟨ρ5, m4, S4, (mo2.trans mo3).trans mo5, s5, e5, RS.mono h2 (mo3.trans mo5)⟩
          | bk m4 S4 => exact fun σ5 H5 ρ5 mo5 s5 e5 => h2 σ5 H5 ρ5 (mo3.trans mo5) s5 e5
          | rt d4 S4 => exact fun v5 H5 ρ5 mo5 s5 e5 => h2 v5 H5 ρ5 (mo3.trans mo5) s5 e5
          | exc c m4 S4 => exact fun σ5 dx H5 ρ5 mo5 s5 e5 => h2 σ5 dx H5 ρ5 (mo3.trans mo5) s5 e5
          | no => exact h2
      · exact h2.elim
    · rintro σ2 H2 ⟨ρ2, m2, S2, mo2, s2, e2, h2⟩
      rw [List.drop_length] at h2
      unfold mForGo at h2
      split at h2
      · exact h2 σ2 H2 ρ2 .refl s2 e2
      · exact h2.elim

/-! ### while -/
def mWhileGo (t : MT) (body : MS) : Nat → Env → Store → OutS
  | 0, _, _ => .no
  | k + 1, m, S => (t m S).thenS m fun b S1 => match b with
    | false => .nx m S1
    | true => match body m S1 with
      | .nx m2 S2 => mWhileGo t body k m2 S2
      | .ct m2 S2 => mWhileGo t body k m2 S2
      | .bk m2 S2 => .nx m2 S2
      | .rt d S2 => .rt d S2
      | .exc c m2 S2 => .exc c m2 S2
      | .no => .no
/-- the most turns -/
def turns : Nat := 1000000
def mWhile (t : MT) (body : MS) : MS := fun m S => mWhileGo t body turns m S
theorem psm_while {body : List Stmt} (hp : PassesOwn (model X.prog X.w) X.A X.env X.xe) (hc : PT X c (tT X.K E mt)) (hb : PSs X body (tS X.K E ms)) : PS X (.While c body [] pos) (tS X.K E (mWhile mt ms)) := by
  refine PS.imp (ps_while hp hc hb) ?_
  rintro D σ H ⟨ρ, m, S, sr, er, h⟩
  refine ⟨fun k σ2 H2 => ∃ ρ2 m2 S2, SR X.K H2 ρ2 S2 ∧ EnvR X.K H2 ρ2 σ2 m2 ∧ RS X.K E H2 ρ2 (mWhileGo mt ms k m2 S2) D, ⟨turns, ρ, m, S, sr, er, h⟩, ?_⟩
  rintro k σ2 H2 ⟨ρ2, m2, S2, s2, e2, h2⟩
  cases k with
  | zero => exact h2.elim
  | succ k =>
    refine ⟨ρ2, m2, S2, s2, e2, RS.bind e2 h2 fun b S3 v H3 ρ3 mo3 s3 r3 e3 h3 => ?_⟩
    subst r3
    cases v with
    | false => exact iteF (h3 σ2 H3 ρ3 .refl s3 e3)
    | true =>
      refine iteT ⟨fun σ4 H4 => ∃ ρ4 m4 S4, SR X.K H4 ρ4 S4 ∧ EnvR X.K H4 ρ4 σ4 m4 ∧ RS X.K E H4 ρ4 (mWhileGo mt ms k m4 S4) D, fun σ' H' q => ⟨k, Nat.lt_succ_self k, q⟩, ρ3, m2, S3, s3, e3, ?_⟩
      have h3 : RS X.K E H3 ρ3 (match ms m2 S3 with
        | .nx m2 S2 => mWhileGo mt ms k m2 S2
        | .ct m2 S2 => mWhileGo mt ms k m2 S2
        | .bk m2 S2 => .nx m2 S2
        | .rt d S2 => .rt d S2
        | .exc c m2 S2 => .exc c m2 S2
        | .no => .no) D := h3
      generalize ms m2 S3 = o at h3 ⊢
      cases o with
      | nx m4 S4 => exact fun σ5 H5 ρ5 mo5 s5 e5 => ⟨ρ5, m4, S4, s5, e5, RS.mono h3 mo5⟩
      | ct m4 S4 => exact fun σ5 H5 ρ5 mo5 s5 e5 => ⟨ρ5, m4, S4, s5, e5, RS.mono h3 mo5⟩
      | bk m4 S4 => exact h3
      | rt d4 S4 => exact h3
      | exc c m4 S4 => exact h3
      | no => exact h3

/-! ### a comprehension -/
def wipeM (m : Env) : List Nat → Env
  | [] => m
  | v :: vs => (wipeM m vs).set v none
theorem EnvR.wipe {K : PySem.W.Frag} {H : Hp} {ρ : Wd} {σ : St} {m : Env} (h : EnvR K H ρ σ m) : ∀ vs : List Nat, EnvR K H ρ (wipe σ vs) (wipeM m vs)
  | [] => h
  | v :: vs => by
    have ih := EnvR.wipe h vs
    refine ⟨by unfold L2.wipe wipeM; rw [List.length_set, List.length_set]; exact ih.len, fun i d q => ?_⟩
    unfold wipeM at q
    unfold L2.wipe
    by_cases hv : v = i
    · subst hv
      by_cases hl : v < (wipeM m vs).length
      · rw [List.getElem?_set_self hl] at q; cases q
      · rw [List.getElem?_eq_none (by rw [List.length_set]; omega)] at q; cases q
    · rw [List.getElem?_set_ne hv] at q ⊢
      exact ih.get i d q
theorem wipe_get (σ : St) : ∀ (vs : List Nat) (j : Nat), (wipe σ vs)[j]? = if j ∈ vs ∧ j < σ.length then some none else σ[j]?
  | [], j => by
    unfold L2.wipe
    simp
  | v :: vs, j => by
    unfold L2.wipe
    by_cases hv : v = j
    · subst hv
      by_cases hl : v < σ.length
      · rw [List.getElem?_set_self (by rw [wipe_length]; exact hl), if_pos ⟨by simp, hl⟩]
      · rw [List.getElem?_eq_none (by rw [List.length_set, wipe_length]; omega), if_neg (fun z => hl z.2), List.getElem?_eq_none (by omega)]
    · rw [List.getElem?_set_ne hv, wipe_get σ vs j]
      have : (j ∈ v :: vs ∧ j < σ.length) ↔ (j ∈ vs ∧ j < σ.length) := by
        simp only [List.mem_cons]
        constructor
        · rintro ⟨h1, h2⟩
          rcases h1 with h1 | h1
          · exact absurd h1.symm hv
          · exact ⟨h1, h2⟩
        · rintro ⟨h1, h2⟩; exact ⟨.inr h1, h2⟩
      simp only [this]
theorem wipe_eq {σ σ' : St} {vs : List Nat} (hl : σ'.length = σ.length) (h : ∀ j, j ∉ vs → σ'[j]? = (wipe σ vs)[j]?) : wipe σ' vs = wipe σ vs := by
  refine List.ext_getElem? fun j => ?_
  rw [wipe_get, wipe_get, hl]
  by_cases hj : j ∈ vs
  · by_cases hb : j < σ.length
    · rw [if_pos ⟨hj, hb⟩, if_pos ⟨hj, hb⟩]
    · rw [if_neg (fun z => hb z.2), if_neg (fun z => hb z.2), List.getElem?_eq_none (by omega), List.getElem?_eq_none (by omega)]
  · rw [if_neg (fun z => hj z.1), if_neg (fun z => hj z.1), h j hj, wipe_get, if_neg (fun z => hj z.1)]
/-- nothing is raised -/
def Out.calm {α : Type} : Out α → Out α
  | .ok a S => .ok a S
  | _ => .no
@[simp] theorem Out.calm_ok {α : Type} (a : α) (S : Store) : (Out.ok a S).calm = .ok a S := id rfl
theorem RO.calm {α β γ δ : Type} {K : PySem.W.Frag} {H : Hp} {ρ : Wd} {relA : Hp → Wd → β → α → Prop} {rel : Hp → Wd → δ → γ → Prop} {E1 E2 : XK} {o : Out α} {f : α → Store → Out γ} {Q : δ → Hp → Prop} {P : β → Hp → Prop} (h : RO K rel E1 H ρ (o.calm.bind f) Q)
    (k : ∀ d S v H1 ρ1, Mo K H ρ H1 ρ1 → SR K H1 ρ1 S → relA H1 ρ1 v d → RO K rel E1 H1 ρ1 (f d S) Q → P v H1) : RO K relA E2 H ρ o P := by
  cases o with
  | ok d S => exact fun v H' ρ' m s r => k d S v H' ρ' m s r (RO.mono h m)
  | exc c S => exact h.elim
  | no => exact h
open Classical in
noncomputable def mLcGo (pins : List (Nat × MO)) (t : TgM) (c : MT) (f : ME) (n : Nat) (m : Env) : List R → Store → Out R
  | [], S => if pinsOk pins S then .ok (.ref n) S else .no
  | d :: ds, S => if pinsOk pins S then (match t d m with
    | none => .no
    | some m' => (c m' S).calm.bind fun k S1 => match k with
      | false => mLcGo pins t c f n m ds S1
      | true => (f m' S1).calm.bind fun y S2 => match S2[n]? with
        | some (.lst acc) => if acc.length < sizeLine then mLcGo pins t c f n m ds (S2.set n (.lst (acc ++ [y]))) else .no
        | _ => .no) else .no
noncomputable def mLc (src : MI) (vs : List Nat) (t : TgM) (c : MT) (f : ME) : ME := fun m S => (src m S).bind fun it S1 => mLcGo it.pins t c f S1.length (wipeM m vs) it.items (S1 ++ [.lst []])
theorem pinsL_of {K : PySem.W.Frag} {H : Hp} {ρ : Wd} {pins : List (Nat × MO)} {t : TgM} {c : MT} {f : ME} {n : Nat} {ds : List R} {m : Env} {S : Store} {E1 : XK} {Q : VK} (h : RO K (relD K) E1 H ρ (mLcGo pins t c f n m ds S) Q) : pinsOk pins S := by
  cases ds with
  | nil =>
    unfold mLcGo at h
    split at h
    · assumption
    · exact h.elim
  | cons d ds =>
    unfold mLcGo at h
    split at h
    · assumption
    · exact h.elim
def mtYes : MT := fun _ S => .ok true S
theorem ptsm_nil : PTs X [] (tT X.K E mtYes) := ⟨fun pins s σ H Q I ⟨ρ, m, S, sr, er, h⟩ => pts_nil.run pins s σ H Q I (h _ H ρ .refl sr rfl)⟩
theorem ptsm_one (h : PT X c (tT X.K E mt)) : PTs X [c] (tT X.K E mt) := pts_one h
def E0' : St → XK := fun _ _ _ _ => False
theorem tLc_of {K : PySem.W.Frag} {f : MI} {vs ws : List Nat} {t : TgM} {σ : St} {H : Hp} {Q : VK} (hv : ∀ j, j ∉ ws → j ∉ vs) (h : tE K E (mLc f ws t mt ma) σ H Q) : tLc (tI K E f) (gM K vs t) (tT K E0' mt) (tE K E0' ma) ws σ H Q := by
  obtain ⟨ρ, m, S, sr, er, h⟩ := h
  refine ⟨ρ, m, S, sr, er, ?_⟩
  have h : RO K (relD K) (E σ) H ρ ((f m S).bind fun it S1 => mLcGo it.pins t mt ma S1.length (wipeM m ws) it.items (S1 ++ [.lst []])) Q := h
  generalize f m S = o at h ⊢
  cases o with
  | no => exact h
  | exc c S1 => exact fun dx H' ρ' mo s r => h dx H' ρ' mo s r
  | ok it S1 =>
    rintro J H1 ρ1 m1 s1 ⟨G, Y, wk, hG, hY⟩ D hD
    have moD : Mo K H1 ρ1 (upd H1 D (.lst [])) ⟨ρ1.r ++ [D], ρ1.z⟩ := .newR s1 hD
    have sD : SR K (upd H1 D (.lst [])) ⟨ρ1.r ++ [D], ρ1.z⟩ (S1 ++ [.lst []]) := s1.new hD ⟨[], upd_same, .nil⟩
    have eD : (ρ1.r ++ [D])[S1.length]? = some D := by
      rw [List.getElem?_append_right (by rw [s1.len]; exact Nat.le_refl _), s1.len, Nat.sub_self]; rfl
    refine lc_it wk (fun i H2 => ∃ ρ2 S2, Mo K (upd H1 D (.lst [])) ⟨ρ1.r ++ [D], ρ1.z⟩ H2 ρ2 ∧ SR K H2 ρ2 S2 ∧ RO K (relD K) (E σ) H2 ρ2 (mLcGo it.pins t mt ma S1.length (wipeM m ws) (it.items.drop i) S2) Q) ?_ ?_ ?_ ?_
    · exact ⟨_, _, .refl, sD, RO.mono h (m1.trans moD)⟩
    · rintro i H2 hi ⟨ρ2, S2, mo2, s2, h2⟩
      exact hG H2 ρ2 S2 (moD.trans mo2) s2 (pinsL_of h2)
    · rintro i x H2 H3 hi ⟨ρ2, S2, mo2, s2, h2⟩ hy
      obtain ⟨d, ed, mo3, s3, r3⟩ := hY i H2 x H3 ρ2 S2 hi (moD.trans mo2) s2 (pinsL_of h2) hy
      have e3 : EnvR K H3 ρ2 (wipe σ ws) (wipeM m ws) := ((((er.mo m1).mo moD).mo mo2).mo mo3).wipe ws
      have hd : it.items.drop i = d :: it.items.drop (i + 1) := by
        rw [List.getElem?_eq_getElem hi] at ed
        rw [List.drop_eq_getElem_cons hi, Option.some.inj ed]
      rw [hd] at h2
      unfold mLcGo at h2
      split at h2
      · split at h2
        · exact h2.elim
        · rename_i m' et
          refine ⟨ρ2, wipeM m ws, d, m', e3, r3, et, fun σ' er' k' l' => ⟨?_, ρ2, m', S2, s3, er', ?_⟩⟩
          · refine wipe_eq ?_ fun j hj => ?_
            · rw [l', wipe_length]
            · exact k' j (hv j hj)
          · exact RO.calm (RO.mono h2 mo3) fun k S4 kb H4 ρ4 mo4 s4 r4 h4 => by
              subst r4
              cases kb with
              | false => exact iteF ⟨ρ4, S4, (mo2.trans mo3).trans mo4, s4, h4⟩
              | true =>
                refine iteT ⟨ρ4, m', S4, s4, er'.mo mo4, RO.calm h4 fun y S5 yv H5 ρ5 mo5 s5 r5 h5 => ?_⟩
                split at h5
                · rename_i acc hacc
                  split at h5
                  · rename_i hz
                    have eD5 : ρ5.r[S1.length]? = some D := mo5.ref _ _ (mo4.ref _ _ (mo2.ref _ _ eD))
                    obtain ⟨xs, hu, ru, hz5⟩ := s5.lst eD5 hacc
                    have mo6 : Mo K H5 ρ5 (upd H5 D (.lst (xs ++ [yv]))) ρ5 := .set hu trivial hz5
                    refine ⟨xs, hu, by rw [ru.length]; exact hz, ρ5, _, (((mo2.trans mo3).trans mo4).trans mo5).trans mo6, s5.set (mo := .lst (acc ++ [y])) eD5 hu trivial hz5 ⟨_, upd_same, ?_⟩, RO.mono h5 mo6⟩
                    exact (ru.append (.cons r5 .nil)).mo mo6
                  · exact h5.elim
                · exact h5.elim
      · exact h2.elim
    · rintro H2 ⟨ρ2, S2, mo2, s2, h2⟩
      rw [List.drop_length] at h2
      unfold mLcGo at h2
      split at h2
      · exact h2 _ H2 ρ2 .refl s2 (.ref (mo2.ref _ _ eD))
      · exact h2.elim
theorem pm_lc {elt : Expr} {ifs : List Expr} {scope : Scope} {own : List (Str × Nat)} {f : MI} {vs : List Nat} {t : TgM} (hc : X.calm = true) (hN : X.N.Nodup) (hi : PI X tgE iter (tI X.K E f)) (ok : BlkOk X.N X.env.scope scope own)
    (hg : ∀ (s : Shared) (H : Hp) (C : Addr) (cl : List (Str × Addr)) (fp : List Addr), PG (X.blk s H scope (compEnvC scope cl C X.env) fp) tgE (gM X.K vs t)) (ht : ∀ (s : Shared) (H : Hp) (C : Addr) (cl : List (Str × Addr)) (fp : List Addr), PTs (X.blk s H scope (compEnvC scope cl C X.env) fp) ifs (tT X.K E0' mt))
    (he : ∀ (s : Shared) (H : Hp) (C : Addr) (cl : List (Str × Addr)) (fp : List Addr), PE (X.blk s H scope (compEnvC scope cl C X.env) fp) elt (tE X.K E0' ma)) (hv : ∀ j ∈ vs, j ∈ own.map (·.2) := by decide) (hs : ∀ x, foldedSetIterable iter X.env x = pure x := by intro _; rfl) :
    PE X (.ListComp elt [⟨tgE, iter, ifs, 0⟩] scope pos) (tE X.K E (mLc f (own.map (·.2)) t mt ma)) := PE.imp (pe_lc hc hN hi ok hg ht he hs) fun _ _ _ h => tLc_of (fun j h1 h2 => h1 (hv j h2)) h
theorem psm_setLc (i : Nat) {y : Str} {py spos : Pos} {elt : Expr} {ifs : List Expr} {scope : Scope} {own : List (Str × Nat)} {f : MI} {vs : List Nat} {t : TgM} (hc : X.calm = true) (hN : X.N.Nodup) (hy : X.N[i]? = some y) (hyl : X.env.scope.names.lookup y = some .local)
    (hsw : swapsWith (.ListComp elt [⟨tgE, iter, ifs, 0⟩] scope pos) (some (.Name y py)) spos.line X.env = pure true) (hi : PI X tgE iter (tI X.K E f)) (ok : BlkOk X.N X.env.scope scope own)
    (hg : ∀ (s : Shared) (H : Hp) (C : Addr) (cl : List (Str × Addr)) (fp : List Addr), PG (X.blk s H scope (compEnvC scope cl C X.env) fp) tgE (gM X.K vs t)) (ht : ∀ (s : Shared) (H : Hp) (C : Addr) (cl : List (Str × Addr)) (fp : List Addr), PTs (X.blk s H scope (compEnvC scope cl C X.env) fp) ifs (tT X.K E0' mt))
    (he : ∀ (s : Shared) (H : Hp) (C : Addr) (cl : List (Str × Addr)) (fp : List Addr), PE (X.blk s H scope (compEnvC scope cl C X.env) fp) elt (tE X.K E0' ma)) (hv : ∀ j ∈ vs, j ∈ own.map (·.2) := by decide) (hs : ∀ x, foldedSetIterable iter X.env x = pure x := by intro _; rfl) :
    PS X (.Assign [.Name y py] (.ListComp elt [⟨tgE, iter, ifs, 0⟩] scope pos) spos) (tS X.K E (mSet i (mLc f (own.map (·.2)) t mt ma))) := by
  refine PS.imp (ps_setLc hc hN hy hyl hsw hi ok hg ht he hs) ?_
  rintro D σ H ⟨ρ, m, S, sr, er, h⟩
  refine tLc_of (fun j h1 h2 => h1 (hv j h2)) ⟨ρ, m, S, sr, er, RS.bind er h fun d S1 v H1 ρ1 m1 s1 r1 e1 h1 => h1 _ H1 ρ1 .refl s1 (e1.set r1 i)⟩
end

/-! ### a def -/
/-- a def's mirror: N names in all (nothing is raised) -/
def mDef (N : Nat) (f : MS) : List R → Store → Out R := fun ds S => match f (ds.map some ++ List.replicate (N - ds.length) none) S with
  | .rt d S' => .ok d S'
  | .nx _ S' => .ok .non S'
  | _ => .no
theorem okM {P : Program} {w : World} {K : PySem.W.Frag} {mg : Str → Option Value} {base : Heap} {x qual : Str} {st : Stmt} {f : Addr} {fd : FuncData} {N ps : List Str} {k n : Nat} {g : MS} (F : Fun K x qual st f fd) (S : FnScope N ps (defScope st)) (hn : ps.length = n)
    (h : ∀ (cdv : Value) (A : Around) (outer : List PySem.Env) (s : Shared) (H : Hp) (E : XK), Room k (A.deeper (envOfC qual (defScope st) s.heap.objs.size f cdv)) → PSs (cxOf CX0 P w K mg base N qual (defScope st) f cdv A outer s H E).nox (defBody st) (tS K E0' g)) :
    FnOk P w K mg base CX0 (k + 1) f fd ps (spM K n (mDef N.length g)) := by
  refine F.ok S (fun vs H Q E h => h.1.trans hn.symm) (fun cdv A outer s H vs Q E hr hq => ⟨_, h cdv A outer s H E hr, ?_⟩)
  obtain ⟨hl, ρ, S1, ds, sr, r, q⟩ := hq
  refine ⟨ρ, _, S1, sr, EnvR.start r, ?_⟩
  unfold mDef at q
  generalize g (ds.map some ++ List.replicate (N.length - ds.length) none) S1 = o at q ⊢
  cases o with
  | rt d S' => exact q
  | nx m S' => exact fun σ' H' ρ' mo s _ => q _ H' ρ' mo s .non
  | exc c m S' => exact q.elim
  | bk m S' => exact q.elim
  | ct m S' => exact q.elim
  | no => exact q
end M

/-! MOps: operators. -/
namespace M
open PySem PySem.Spec L2
open PyProof.Rows hiding St
/-! ### sizes of ints -/
@[irreducible] def smBits : Nat := 400000
@[irreducible] def dvBits : Nat := 9000
theorem smBits_eq : smBits = 400000 := by unfold smBits; rfl
theorem dvBits_eq : dvBits = 9000 := by unfold dvBits; rfl
@[irreducible] def smLine : Nat := 2 ^ smBits
@[irreducible] def dvLine : Nat := 2 ^ dvBits
theorem smLine_eq : smLine = 2 ^ smBits := by unfold smLine; rfl
theorem dvLine_eq : dvLine = 2 ^ dvBits := by unfold dvLine; rfl
theorem sm_lt {i : Int} (k : Nat) (h : i.natAbs < 2 ^ k) (hk : k ≤ 400000) : i.natAbs < smLine := by
  rw [smLine_eq]; exact Nat.lt_of_lt_of_le h (Nat.pow_le_pow_right (by decide) (by rw [smBits_eq]; exact hk))
theorem dv_lt {i : Int} (k : Nat) (h : i.natAbs < 2 ^ k) (hk : k ≤ 9000) : i.natAbs < dvLine := by
  rw [dvLine_eq]; exact Nat.lt_of_lt_of_le h (Nat.pow_le_pow_right (by decide) (by rw [dvBits_eq]; exact hk))
theorem mulW {i j : Int} (h : i.natAbs < smLine ∧ j.natAbs < smLine) : CMulW i j := by
  rw [smLine_eq] at h
  exact wide_mul h.1 h.2 (by rw [smBits_eq]; decide) (by rw [smBits_eq]; decide) (by rw [smBits_eq]; decide)
theorem divW {j : Int} (h : 0 < j ∧ j.natAbs < dvLine) {i : Int} : CDivW i j := by
  rw [dvLine_eq] at h
  exact wide_div h.1 h.2 (by rw [dvBits_eq]; decide) (by rw [dvBits_eq]; decide)
/-! ### by value, at once -/
/-- what stands there now, by value -/
def view (S : Store) (r : R) : Option D := (frz 8 S r).map (·.1)
theorem view_ok {K : PySem.W.Frag} {H : Hp} {ρ : Wd} {S : Store} {v : V} {r : R} {d : D} (sr : SR K H ρ S) (q : Rq K H ρ v r) (e : view S r = some d) : ∃ z', Rp K H ⟨ρ.r, z'⟩ v d := by
  obtain ⟨p, e1, e2⟩ := Option.map_eq_some_iff.mp e
  subst e2
  obtain ⟨z', _, _, r1⟩ := frz_ok 8 S r p.1 p.2 ρ v e1 sr q
  exact ⟨z', r1⟩
theorem view_v (S : Store) (d : D) : view S (.v d) = some d := by simp [view, frz_v]
theorem view_ref {S : Store} {n : Nat} {ds : List D} (h : S[n]? = some (.lst (ds.map .v))) : view S (.ref n) = some (.lst ds) := by
  simp [view, frz, h, frzA_map]
theorem view_fz {S : Store} {n : Nat} {d : D} (h : S[n]? = some (.fz d)) : view S (.ref n) = some d := by
  simp [view, frz, h]
theorem frz_ref {S : Store} {n : Nat} {k : Nat} {ds : List D} (h : S[n]? = some (.lst (ds.map .v))) : frz (k + 1) S (.ref n) = some (.lst ds, S.set n (.fz (.lst ds))) := by
  simp [frz, h, frzA_map]
/-! ### data as such -/
mutual
def D.py : D → Option PyData
  | .non => some .none
  | .bl b => some (.bool b)
  | .int i => some (.int i)
  | .str x => some (.str x)
  | .ty _ => none
  | .tup ds => (D.pys ds).map .tuple
  | .lst ds => (D.pys ds).map .list
  | .kl ds => (D.pys ds).map .list
  | .dct _ _ => none
  | .txt => none
  | .kt _ => none
def D.pys : List D → Option (List PyData)
  | [] => some []
  | d :: ds => (D.py d).bind fun p => (D.pys ds).bind fun ps => some (p :: ps)
end
section
variable {X : Cx} {K : PySem.W.Frag} {H : Hp} {ρ : Wd} {S : Store}
mutual
theorem dp_of : ∀ (d : D) (v : V) (p : PyData), Rp K H ρ v d → d.py = some p → Dp K H v p
  | .non, v, p, r, e => by cases r; cases e; exact .non
  | .bl b, v, p, r, e => by cases r; cases e; exact .bl b
  | .int b, v, p, r, e => by cases r; cases e; exact .int b
  | .str b, v, p, r, e => by cases r; cases e; exact .str b
  | .ty b, v, p, r, e => by cases e
  | .tup ds, v, p, r, e => by
    cases r with
    | tup hs ra =>
      obtain ⟨ps, e1, e2⟩ := Option.map_eq_some_iff.mp (show (D.pys ds).map PyData.tuple = some p from e)
      subst e2
      exact .tup (sqT_at hs) (dpA_of ds _ ps ra e1)
  | .lst ds, v, p, r, e => by
    cases r with
    | lst hs ra =>
      obtain ⟨ps, e1, e2⟩ := Option.map_eq_some_iff.mp (show (D.pys ds).map PyData.list = some p from e)
      subst e2
      exact .lst hs.sq (dpA_of ds _ ps ra e1)
  | .kl ds, v, p, r, e => by
    cases r with
    | kl hs ra =>
      obtain ⟨ps, e1, e2⟩ := Option.map_eq_some_iff.mp (show (D.pys ds).map PyData.list = some p from e)
      subst e2
      exact .lst hs.sq (dpA_of ds _ ps ra e1)
  | .dct ks ds, v, p, r, e => by cases e
  | .txt, v, p, r, e => by cases e
  | .kt _, v, p, r, e => by cases e
theorem dpA_of : ∀ (ds : List D) (xs : List V) (ps : List PyData), RpA K H ρ xs ds → D.pys ds = some ps → DpAll K H xs ps
  | [], xs, ps, r, e => by cases r; cases e; exact .nil
  | d :: ds, xs, ps, r, e => by
    cases r with
    | cons r1 r2 =>
      obtain ⟨p, e1, e2⟩ := Option.bind_eq_some_iff.mp (show ((D.py d).bind fun p => (D.pys ds).bind fun ps => some (p :: ps)) = some ps from e)
      obtain ⟨qs, e3, e4⟩ := Option.bind_eq_some_iff.mp e2
      cases e4
      exact .cons (dp_of d _ p r1 e1) (dpA_of ds _ qs r2 e3)
end
/-- .. of a form that == walks -/
def D.pyS (d : D) : Option PyData := d.py.bind fun p => if SeqAt.shaped p = true then some p else none
theorem pyS_dp {v : V} {d : D} {p : PyData} (r : Rp K H ρ v d) (e : d.pyS = some p) : Dp K H v p ∧ SeqAt.shaped p = true := by
  obtain ⟨q, e1, e2⟩ := Option.bind_eq_some_iff.mp e
  split at e2
  · cases e2; exact ⟨dp_of d v _ r e1, by assumption⟩
  · cases e2
def pyOf (S : Store) (r : R) : Option PyData := (view S r).bind D.pyS
theorem pyOf_dp (sr : SR K H ρ S) {v : V} {r : R} {p : PyData} (q : Rq K H ρ v r) (e : pyOf S r = some p) : Dp K H v p ∧ SeqAt.shaped p = true := by
  obtain ⟨d, e1, e2⟩ := Option.bind_eq_some_iff.mp e
  obtain ⟨z', r1⟩ := view_ok sr q e1
  exact pyS_dp r1 e2
/-! ### + - * // % ** -/
def opAdd (d e : R) (S : Store) : Out R := match d, e with
  | .v (.int i), .v (.int j) => .ok (.int (i + j)) S
  | .v (.int i), .v (.bl k) => .ok (.int (i + b2i k)) S
  | .v (.str x), .v (.str y) => if x.length + y.length ≤ sizeLine then .ok (.str (x ++ y)) S else .no
  | .v (.tup xs), .v (.tup ys) => if xs.length + ys.length ≤ sizeLine then .ok (.tup (xs ++ ys)) S else .no
  | .v (.lst xs), .v (.lst ys) => if xs.length + ys.length ≤ sizeLine then .ok (.ref S.length) (S ++ [.lst (xs.map .v ++ ys.map .v)]) else .no
  | .v (.lst xs), .ref k => match lsOf S k with
    | some ys => if xs.length + ys.length ≤ sizeLine then .ok (.ref S.length) (S ++ [.lst (xs.map .v ++ ys)]) else .no
    | none => .no
  | .ref n, .v (.lst ys) => match lsOf S n with
    | some xs => if xs.length + ys.length ≤ sizeLine then .ok (.ref S.length) (S ++ [.lst (xs ++ ys.map .v)]) else .no
    | none => .no
  | .ref n, .ref k => match lsOf S n, lsOf S k with
    | some xs, some ys => if xs.length + ys.length ≤ sizeLine then .ok (.ref S.length) (S ++ [.lst (xs ++ ys)]) else .no
    | _, _ => .no
  | _, _ => .no
theorem SR.lsE {n : Nat} {a : Addr} {ds : List R} (sr : SR K H ρ S) (e : ρ.r[n]? = some a) (h : lsOf S n = some ds) : ∃ xs, H a = some (.lst xs) ∧ RqA K H ρ xs ds := by
  unfold lsOf at h
  obtain ⟨o, h1, h2⟩ := Option.bind_eq_some_iff.mp h
  have q := sr.obj n a o e h1
  unfold seqC at h2
  split at h2
  · cases h2
    obtain ⟨xs, hu, r⟩ := q
    exact ⟨xs, hu, r⟩
  · cases h2
    have q : Rp K H ρ (.ref a) (.lst _) := q
    cases q with
    | lst hs ra => exact ⟨_, hs.2, ra.q⟩
  · cases h2
theorem opm_add : OpM X (binaryOp .Add) opAdd := by
  rintro pins s σ H x y v u Q I rx ry ⟨E, ρ, S, d, e, sr, rd, re, h⟩
  cases rd with
  | v rd =>
    cases re with
    | v re =>
      cases rd <;> cases re <;> first | exact (show False from h).elim | skip
      case int.bl i k => exact op_add_ib pins s σ H _ _ v u Q I rx ry ⟨_, _, rfl, rfl, h _ _ _ .refl sr (.int _)⟩
      case int.int i j => exact op_add pins s σ H _ _ v u Q I rx ry ⟨_, _, rfl, rfl, h _ _ _ .refl sr (.int _)⟩
      case str.str i j =>
        unfold opAdd at h
        simp only at h
        split at h
        · exact op_add_str pins s σ H _ _ v u Q I rx ry ⟨_, _, rfl, rfl, by assumption, h _ _ _ .refl sr (.str _)⟩
        · exact h.elim
      case tup.tup a xs ds hs ra b ys es hs2 ra2 =>
        unfold opAdd at h
        simp only at h
        split at h
        · rename_i hz
          refine op_catA pins s σ H _ _ v u Q I rx ry ⟨_, _, _, _, rfl, rfl, sqT_at hs, sqT_at hs2, by rw [ra.length, ra2.length]; exact hz, fun q => ?_, fun q1 q => ?_, fun q1 q2 p hp => RO.tup sr (ra.append ra2) h hp⟩
          · subst q; cases ra; exact h _ _ _ .refl sr (.v (.tup hs2 ra2))
          · subst q; cases ra2; rw [List.append_nil] at h; exact h _ _ _ .refl sr (.v (.tup hs ra))
        · exact h.elim
      case lst.lst a xs ds hs ra b ys es hs2 ra2 =>
        unfold opAdd at h
        simp only at h
        split at h
        · rename_i hz
          exact op_cat pins s σ H _ _ v u Q I rx ry ⟨_, _, _, _, rfl, rfl, hs.2, hs2.2, by rw [ra.length, ra2.length]; exact hz, fun p hp => RO.lst sr (ra.q.append ra2.q) h hp⟩
        · exact h.elim
    | ref eb =>
      cases rd <;> first | exact (show False from h).elim | skip
      case lst a xs ds hs ra =>
        unfold opAdd at h
        simp only at h
        split at h
        · rename_i ys hy
          split at h
          · rename_i hz
            obtain ⟨bs, hb, rb⟩ := sr.lsE eb hy
            exact op_cat pins s σ H _ _ v u Q I rx ry ⟨_, _, _, _, rfl, rfl, hs.2, hb, by rw [ra.length, rb.length]; exact hz, fun p hp => RO.lst sr (ra.q.append rb) h hp⟩
          · exact h.elim
        · exact h.elim
  | ref ea =>
    cases re with
    | v re =>
      cases re <;> first | exact (show False from h).elim | skip
      case lst b ys es hs2 ra2 =>
        unfold opAdd at h
        simp only at h
        split at h
        · rename_i ys hy
          split at h
          · rename_i hz
            obtain ⟨bs, hb, rb⟩ := sr.lsE ea hy
            exact op_cat pins s σ H _ _ v u Q I rx ry ⟨_, _, _, _, rfl, rfl, hb, hs2.2, by rw [rb.length, ra2.length]; exact hz, fun p hp => RO.lst sr (rb.append ra2.q) h hp⟩
          · exact h.elim
        · exact h.elim
    | ref eb =>
      unfold opAdd at h
      simp only at h
      split at h
      · rename_i xs ys h1 h2
        split at h
        · rename_i hz
          obtain ⟨as, ha, ra⟩ := sr.lsE ea h1
          obtain ⟨bs, hb, rb⟩ := sr.lsE eb h2
          exact op_cat pins s σ H _ _ v u Q I rx ry ⟨_, _, _, _, rfl, rfl, ha, hb, by rw [ra.length, rb.length]; exact hz, fun p hp => RO.lst sr (ra.append rb) h hp⟩
        · exact h.elim
      · exact h.elim
/-- where two ints are wanted -/
def onII {α : Type} (d e : R) (f : Int → Int → Out α) : Out α := match d, e with
  | .v (.int i), .v (.int j) => f i j
  | _, _ => .no
theorem RO.onII {α β : Type} {rel : Hp → Wd → β → α → Prop} {E : XK} {d e : R} {v u : V} {f : Int → Int → Out α} {Q : β → Hp → Prop} (r : Rq K H ρ v d) (r' : Rq K H ρ u e) (h : RO K rel E H ρ (M.onII d e f) Q) : ∃ i j, d = .int i ∧ e = .int j ∧ v = .int i ∧ u = .int j ∧ RO K rel E H ρ (f i j) Q := by
  cases r with
  | ref e => exact h.elim
  | v r =>
    cases r' with
    | ref e => cases r <;> exact (show False from h).elim
    | v r' => cases r <;> cases r' <;> first | exact (show False from h).elim | exact ⟨_, _, rfl, rfl, rfl, rfl, h⟩
def opSub (d e : R) (S : Store) : Out R := onII d e fun i j => .ok (.int (i - j)) S
theorem opm_sub : OpM X (binaryOp .Sub) opSub := by
  rintro pins s σ H x y v u Q I rx ry ⟨E, ρ, S, d, e, sr, rd, re, h⟩
  obtain ⟨i, j, _, _, rfl, rfl, h⟩ := RO.onII rd re h
  exact op_sub pins s σ H _ _ v u Q I rx ry ⟨_, _, rfl, rfl, h _ _ _ .refl sr (.int _)⟩
def opFdiv (d e : R) (S : Store) : Out R := onII d e fun i j => if 0 < j ∧ j.natAbs < dvLine then .ok (.int (i / j)) S else .no
theorem opm_fdiv : OpM X (binaryOp .FloorDiv) opFdiv := by
  rintro pins s σ H x y v u Q I rx ry ⟨E, ρ, S, d, e, sr, rd, re, h⟩
  obtain ⟨i, j, _, _, rfl, rfl, h⟩ := RO.onII rd re h
  split at h
  · rename_i hz
    exact op_fdivW pins s σ H _ _ v u Q I rx ry ⟨_, _, rfl, rfl, divW hz, h _ _ _ .refl sr (.int _)⟩
  · exact h.elim
def opMod (d e : R) (S : Store) : Out R := onII d e fun i j => if 0 < j then .ok (.int (i % j)) S else .no
theorem opm_mod : OpM X (binaryOp .Mod) opMod := by
  rintro pins s σ H x y v u Q I rx ry ⟨E, ρ, S, d, e, sr, rd, re, h⟩
  obtain ⟨i, j, _, _, rfl, rfl, h⟩ := RO.onII rd re h
  split at h
  · exact op_mod pins s σ H _ _ v u Q I rx ry ⟨_, _, rfl, rfl, by assumption, h _ _ _ .refl sr (.int _)⟩
  · exact h.elim
def opPow (d e : R) (S : Store) : Out R := onII d e fun i j => if 0 ≤ j ∧ j ≤ 1000000 ∧ i.natAbs < 2 ^ 64 then .ok (.int (i ^ j.toNat)) S else .no
theorem opm_pow : OpM X (binaryOp .Pow) opPow := by
  rintro pins s σ H x y v u Q I rx ry ⟨E, ρ, S, d, e, sr, rd, re, h⟩
  obtain ⟨i, j, _, _, rfl, rfl, h⟩ := RO.onII rd re h
  split at h
  · exact op_pow pins s σ H _ _ v u Q I rx ry ⟨_, _, rfl, rfl, by assumption, h _ _ _ .refl sr (.int _)⟩
  · exact h.elim
/-- a list many times -/
def repR (k : Int) (xs : List R) : List R := (List.replicate k.toNat xs).flatten
theorem RqA.rep {xs : List V} {ds : List R} (h : RqA K H ρ xs ds) : ∀ n : Nat, RqA K H ρ (List.replicate n xs).flatten (List.replicate n ds).flatten
  | 0 => .nil
  | n + 1 => by
    rw [List.replicate_succ, List.replicate_succ, List.flatten_cons, List.flatten_cons]
    exact RqA.append h (RqA.rep h n)
def opMul (d e : R) (S : Store) : Out R := match d, e with
  | .v (.int i), .v (.int j) => if i.natAbs < smLine ∧ j.natAbs < smLine then .ok (.int (i * j)) S else .no
  | .v (.lst xs), .v (.int k) => if k < 2 ^ 20 ∧ -(2 ^ 63) ≤ k ∧ xs.length * k.toNat ≤ sizeLine then .ok (.ref S.length) (S ++ [.lst (repR k (xs.map .v))]) else .no
  | .ref n, .v (.int k) => match lsOf S n with
    | some xs => if k < 2 ^ 20 ∧ -(2 ^ 63) ≤ k ∧ xs.length * k.toNat ≤ sizeLine then .ok (.ref S.length) (S ++ [.lst (repR k xs)]) else .no
    | none => .no
  | _, _ => .no
theorem opm_mul : OpM X (binaryOp .Mult) opMul := by
  rintro pins s σ H x y v u Q I rx ry ⟨E, ρ, S, d, e, sr, rd, re, h⟩
  cases re with
  | ref eb =>
    cases rd with
    | ref ea => exact (show False from h).elim
    | v rd => cases rd <;> exact (show False from h).elim
  | v re =>
    cases rd with
    | v rd =>
      cases rd <;> cases re <;> first | exact (show False from h).elim | skip
      case int.int i j =>
        have h : RO X.K (relD X.K) E H ρ (if i.natAbs < smLine ∧ j.natAbs < smLine then .ok (.int (i * j)) S else .no) Q := h
        split at h
        · rename_i hz
          exact op_mulW pins s σ H _ _ v u Q I rx ry ⟨_, _, rfl, rfl, mulW hz, h _ _ _ .refl sr (.int _)⟩
        · exact h.elim
      case lst.int a xs ds hs ra k =>
        unfold opMul at h
        simp only at h
        split at h
        · rename_i hz
          exact op_rep pins s σ H _ _ v u Q I rx ry ⟨_, _, _, rfl, rfl, hs.2, hz.2.1, by omega, by rw [ra.length]; exact hz.2.2, fun p hp => RO.lst sr (ra.q.rep _) h hp⟩
        · exact h.elim
    | ref ea =>
      cases re <;> first | exact (show False from h).elim | skip
      case int k =>
        unfold opMul at h
        simp only at h
        split at h
        · rename_i xs hx
          split at h
          · rename_i hz
            obtain ⟨as, ha, ra⟩ := sr.lsE ea hx
            exact op_rep pins s σ H _ _ v u Q I rx ry ⟨_, _, _, rfl, rfl, ha, hz.2.1, by omega, by rw [ra.length]; exact hz.2.2, fun p hp => RO.lst sr (ra.rep _) h hp⟩
          · exact h.elim
        · exact h.elim
def opNeg (d : R) (S : Store) : Out R := match d with
  | .v (.int i) => .ok (.int (-i)) S
  | _ => .no
theorem unm_neg : UnM X (unaryOp .USub) opNeg := by
  rintro pins s σ H x v Q I rx ⟨E, ρ, S, d, sr, rd, h⟩
  cases rd with
  | ref ea => exact (show False from h).elim
  | v rd =>
    cases rd <;> first | exact (show False from h).elim | skip
    exact un_neg pins s σ H _ v Q I rx ⟨_, rfl, h _ _ _ .refl sr (.int _)⟩
/-! ### in place -/
def opIadd (d e : R) (S : Store) : Out R := match d, e with
  | .v (.int i), .v (.int j) => .ok (.int (i + j)) S
  | .v (.str x), .v (.str y) => if x.length + y.length ≤ sizeLine then .ok (.str (x ++ y)) S else .no
  | _, _ => .no
theorem ipm_add : PIp X .Add (rM X.K opIadd) := by
  rintro pins s σ H x y v u Q I rx ry ⟨E, ρ, S, d, e, sr, rd, re, h⟩
  cases rd with
  | ref ea => exact (show False from h).elim
  | v rd =>
  cases re with
  | ref eb => cases rd <;> exact (show False from h).elim
  | v re =>
  cases rd <;> cases re <;> first | exact (show False from h).elim | skip
  case int.int i j => exact ip_add pins s σ H _ _ v u Q I rx ry ⟨_, _, rfl, rfl, h _ _ _ .refl sr (.int _)⟩
  case str.str i j =>
    unfold opIadd at h
    simp only at h
    split at h
    · exact iop_add_str pins s σ H _ _ v u Q I rx ry ⟨_, _, rfl, rfl, by assumption, h _ _ _ .refl sr (.str _)⟩
    · exact h.elim
theorem ipm_sub : PIp X .Sub (rM X.K opSub) := by
  rintro pins s σ H x y v u Q I rx ry ⟨E, ρ, S, d, e, sr, rd, re, h⟩
  obtain ⟨i, j, _, _, rfl, rfl, h⟩ := RO.onII rd re h
  exact ip_sub pins s σ H _ _ v u Q I rx ry ⟨_, _, rfl, rfl, h _ _ _ .refl sr (.int _)⟩
/-! ### comparisons of numbers -/
def opCmpI (p : Int → Int → Bool) (d e : R) (S : Store) : Out R := onII d e fun i j => .ok (.bl (p i j)) S
theorem opm_ge : OpM X (compareOp .GtE) (opCmpI fun i j => decide (j ≤ i)) := by
  rintro pins s σ H x y v u Q I rx ry ⟨E, ρ, S, d, e, sr, rd, re, h⟩
  obtain ⟨i, j, _, _, rfl, rfl, h⟩ := RO.onII rd re h
  exact op_ge pins s σ H _ _ v u Q I rx ry ⟨_, _, rfl, rfl, h _ _ _ .refl sr (.bl _)⟩
theorem opm_lt : OpM X (compareOp .Lt) (opCmpI fun i j => decide (i < j)) := by
  rintro pins s σ H x y v u Q I rx ry ⟨E, ρ, S, d, e, sr, rd, re, h⟩
  obtain ⟨i, j, _, _, rfl, rfl, h⟩ := RO.onII rd re h
  exact op_lt pins s σ H _ _ v u Q I rx ry ⟨_, _, rfl, rfl, h _ _ _ .refl sr (.bl _)⟩
theorem opm_le : OpM X (compareOp .LtE) (opCmpI fun i j => decide (i ≤ j)) := by
  rintro pins s σ H x y v u Q I rx ry ⟨E, ρ, S, d, e, sr, rd, re, h⟩
  obtain ⟨i, j, _, _, rfl, rfl, h⟩ := RO.onII rd re h
  exact op_le pins s σ H _ _ v u Q I rx ry ⟨_, _, rfl, rfl, h _ _ _ .refl sr (.bl _)⟩
theorem opm_gt : OpM X (compareOp .Gt) (opCmpI fun i j => decide (j < i)) := by
  rintro pins s σ H x y v u Q I rx ry ⟨E, ρ, S, d, e, sr, rd, re, h⟩
  obtain ⟨i, j, _, _, rfl, rfl, h⟩ := RO.onII rd re h
  exact op_gt pins s σ H _ _ v u Q I rx ry ⟨_, _, rfl, rfl, h _ _ _ .refl sr (.bl _)⟩
/-! ### == of data -/
def opEq (d e : R) (S : Store) : Out R := match pyOf S d, pyOf S e with
  | some p, some q => .ok (.bl (PyData.eqv p q)) S
  | _, _ => .no
def opNe (d e : R) (S : Store) : Out R := match pyOf S d, pyOf S e with
  | some p, some q => .ok (.bl (!PyData.eqv p q)) S
  | _, _ => .no
theorem opm_eq (hu : X.A.units + 64 < cLine) : OpM X (compareOp .Eq) opEq := by
  rintro pins s σ H x y v u Q I rx ry ⟨E, ρ, S, d, e, sr, rd, re, h⟩
  unfold opEq at h
  split at h
  · rename_i p q h1 h2
    obtain ⟨d1, s1⟩ := pyOf_dp sr rd h1
    obtain ⟨d2, s2⟩ := pyOf_dp sr re h2
    exact op_eqD hu pins s σ H _ _ v u Q I rx ry ⟨_, _, d1, d2, s1, s2, h _ _ _ .refl sr (.bl _)⟩
  · exact h.elim
theorem opm_ne (hu : X.A.units + 64 < cLine) : OpM X (compareOp .NotEq) opNe := by
  rintro pins s σ H x y v u Q I rx ry ⟨E, ρ, S, d, e, sr, rd, re, h⟩
  unfold opNe at h
  split at h
  · rename_i p q h1 h2
    obtain ⟨d1, s1⟩ := pyOf_dp sr rd h1
    obtain ⟨d2, s2⟩ := pyOf_dp sr re h2
    exact op_neD hu pins s σ H _ _ v u Q I rx ry ⟨_, _, d1, d2, s1, s2, h _ _ _ .refl sr (.bl _)⟩
  · exact h.elim
/-! ### in, not in -/
def seqPy : PyData → Option (List PyData)
  | .list ps => some ps
  | .tuple ps => some ps
  | _ => none
/-- a sign -/
def signOf (x : Str) : Option Nat := match x.cps.toList with
  | [c] => some c
  | _ => none
theorem signOf_eq {x : Str} {c : Nat} (h : signOf x = some c) : x = ⟨#[c]⟩ := by
  unfold signOf at h
  split at h
  · rename_i c' e
    cases h
    cases x with
    | mk a => simp only at e; simp only [Str.mk.injEq]; exact Array.toList_inj.mp (by simpa using e)
  · cases h
def inM (S : Store) (d e : R) : Option Bool := match d, e with
  | .v (.str x), .v (.str z) => (signOf x).map fun c => decide (c ∈ z.cps.toList)
  | d, e => match pyOf S d, (pyOf S e).bind seqPy with
    | some p, some qs => some (qs.any fun z => PyData.eqv z p)
    | _, _ => none
def opIn (d e : R) (S : Store) : Out R := match inM S d e with
  | some k => .ok (.bl k) S
  | none => .no
def opNotIn (d e : R) (S : Store) : Out R := match inM S d e with
  | some k => .ok (.bl (!k)) S
  | none => .no
theorem inM_cases (sr : SR K H ρ S) {d e : R} {x y : V} {k : Bool} (rd : Rq K H ρ x d) (re : Rq K H ρ y e) (h : inM S d e = some k) :
    (∃ c z, x = .str ⟨#[c]⟩ ∧ y = .str z ∧ k = decide (c ∈ z.cps.toList)) ∨ ∃ p q qs, Dp K H x p ∧ Dp K H y q ∧ (q = .list qs ∨ q = .tuple qs) ∧ SeqAt.shaped p = true ∧ SeqAt.shaped q = true ∧ k = qs.any fun z => PyData.eqv z p := by
  have gen : (match pyOf S d, (pyOf S e).bind seqPy with
    | some p, some qs => some (qs.any fun z => PyData.eqv z p)
    | _, _ => none) = some k → ∃ p q qs, Dp K H x p ∧ Dp K H y q ∧ (q = .list qs ∨ q = .tuple qs) ∧ SeqAt.shaped p = true ∧ SeqAt.shaped q = true ∧ k = qs.any fun z => PyData.eqv z p := by
    intro h
    split at h
    · rename_i p qs h1 h2
      obtain ⟨q, h3, h4⟩ := Option.bind_eq_some_iff.mp h2
      obtain ⟨d1, s1⟩ := pyOf_dp sr rd h1
      obtain ⟨d2, s2⟩ := pyOf_dp sr re h3
      refine ⟨p, q, qs, d1, d2, ?_, s1, s2, (Option.some.inj h).symm⟩
      unfold seqPy at h4
      split at h4
      · cases h4; exact .inl rfl
      · cases h4; exact .inr rfl
      · cases h4
    · cases h
  unfold inM at h
  split at h
  · rename_i x' z
    obtain ⟨c, h1, h2⟩ := Option.map_eq_some_iff.mp h
    have := signOf_eq h1
    subst this
    cases rd with
    | v rd =>
      cases rd
      cases re with
      | v re =>
        cases re
        exact .inl ⟨c, z, rfl, rfl, h2.symm⟩
  · exact .inr (gen h)
theorem opm_in (hu : X.A.units + 65 < cLine) : OpM X (compareOp .In) opIn := by
  rintro pins s σ H x y v u Q I rx ry ⟨E, ρ, S, d, e, sr, rd, re, h⟩
  unfold opIn at h
  split at h
  · rename_i k hk
    rcases inM_cases sr rd re hk with ⟨c, z, rfl, rfl, rfl⟩ | ⟨p, q, qs, d1, d2, hq, s1, s2, rfl⟩
    · exact op_in_sign pins s σ H _ _ v u Q I rx ry ⟨_, _, rfl, rfl, h _ _ _ .refl sr (.bl _)⟩
    · rcases hq with rfl | rfl
      · exact op_inD hu pins s σ H _ _ v u Q I rx ry ⟨_, _, d1, d2, s1, s2, h _ _ _ .refl sr (.bl _)⟩
      · obtain ⟨as, r1⟩ := Dp.reads I p x v d1 rx
        obtain ⟨bs, r2⟩ := Dp.reads I (.tuple qs) y u d2 ry
        exact SeqAt.in_tuple_reads r2 r1 (SeqAt.canLay_of_shaped s2) (SeqAt.canLay_of_shaped s1) (PyProof.Rows.room_in_shaped s1 hu) ⟨.bl _, H, I, rfl, h _ _ _ .refl sr (.bl _)⟩
  · exact h.elim
theorem opm_notIn (hu : X.A.units + 65 < cLine) : OpM X (compareOp .NotIn) opNotIn := by
  rintro pins s σ H x y v u Q I rx ry ⟨E, ρ, S, d, e, sr, rd, re, h⟩
  unfold opNotIn at h
  split at h
  · rename_i k hk
    rcases inM_cases sr rd re hk with ⟨c, z, rfl, rfl, rfl⟩ | ⟨p, q, qs, d1, d2, hq, s1, s2, rfl⟩
    · exact op_notIn_sign pins s σ H _ _ v u Q I rx ry ⟨_, _, rfl, rfl, h _ _ _ .refl sr (.bl _)⟩
    · rcases hq with rfl | rfl
      · exact op_notInD hu pins s σ H _ _ v u Q I rx ry ⟨_, _, d1, d2, s1, s2, h _ _ _ .refl sr (.bl _)⟩
      · obtain ⟨as, r1⟩ := Dp.reads I p x v d1 rx
        obtain ⟨bs, r2⟩ := Dp.reads I (.tuple qs) y u d2 ry
        exact SeqAt.notIn_tuple_reads r2 r1 (SeqAt.canLay_of_shaped s2) (SeqAt.canLay_of_shaped s1) (PyProof.Rows.room_in_shaped s1 hu) ⟨.bl _, H, I, rfl, h _ _ _ .refl sr (.bl _)⟩
  · exact h.elim
/-! ### is -/
def isNon : R → Bool
  | .v .non => true
  | _ => false
def isV (d e : R) : Option Bool := match e with
  | .v .non => some (isNon d)
  | .v (.bl b) => match d with
    | .v (.bl a) => some (decide (a = b))
    | _ => none
  | _ => none
def opIs (d e : R) (S : Store) : Out R := match isV d e with
  | some k => .ok (.bl k) S
  | none => .no
def opIsNot (d e : R) (S : Store) : Out R := match isV d e with
  | some k => .ok (.bl (!k)) S
  | none => .no
theorem isN_rq {v : V} {d : R} (r : Rq K H ρ v d) : decide (v = .non) = isNon d := by
  cases r with
  | ref e => rfl
  | v r => cases r <;> rfl
theorem isV_cases {d e : R} {x y : V} {k : Bool} (rd : Rq K H ρ x d) (re : Rq K H ρ y e) (h : isV d e = some k) : (y = .non ∧ k = decide (x = .non)) ∨ ∃ a b, x = .bl a ∧ y = .bl b ∧ k = decide (a = b) := by
  unfold isV at h
  split at h
  · cases h
    cases re with
    | v re => cases re; exact .inl ⟨rfl, (isN_rq rd).symm⟩
  · split at h
    · cases h
      cases re with
      | v re =>
        cases re
        cases rd with
        | v rd => cases rd; exact .inr ⟨_, _, rfl, rfl, rfl⟩
    · cases h
  · cases h
theorem opm_is : OpM X (compareOp .Is) opIs := by
  rintro pins s σ H x y v u Q I rx ry ⟨E, ρ, S, d, e, sr, rd, re, h⟩
  unfold opIs at h
  split at h
  · rename_i k hk
    rcases isV_cases rd re hk with ⟨rfl, rfl⟩ | ⟨a, b, rfl, rfl, rfl⟩
    · exact op_isN pins s σ H _ _ v u Q I rx ry ⟨rfl, h _ _ _ .refl sr (.bl _)⟩
    · exact op_isBl pins s σ H _ _ v u Q I rx ry ⟨_, _, rfl, rfl, h _ _ _ .refl sr (.bl _)⟩
  · exact h.elim
theorem opm_isNot : OpM X (compareOp .IsNot) opIsNot := by
  rintro pins s σ H x y v u Q I rx ry ⟨E, ρ, S, d, e, sr, rd, re, h⟩
  unfold opIsNot at h
  split at h
  · rename_i k hk
    rcases isV_cases rd re hk with ⟨rfl, rfl⟩ | ⟨a, b, rfl, rfl, rfl⟩
    · exact op_notN pins s σ H _ _ v u Q I rx ry ⟨rfl, h _ _ _ .refl sr (.bl _)⟩
    · exact op_notBl pins s σ H _ _ v u Q I rx ry ⟨_, _, rfl, rfl, h _ _ _ .refl sr (.bl _)⟩
  · exact h.elim
end
end M

/-! MOps2: subscripts, slices, built-ins, methods, what is walked. -/
namespace M
open PySem PySem.Spec L2
open PyProof.Rows hiding St
section
variable {X : Cx} {E : St → XK} {a b c e tgE iter : Expr} {es rest : List Expr} {pos : Pos} {ma mb mc : ME} {mt mu : MT} {mr : MA} {K : PySem.W.Frag} {H : Hp} {ρ : Wd} {S : Store}

/-! ### o[i] -/
theorem ixN_lt {n : Nat} {i : Int} {j : Nat} (h : ixN n i = some j) : j < n := by
  unfold ixN at h
  split at h
  · split at h
    · cases h; omega
    · cases h
  · split at h
    · cases h; omega
    · cases h
theorem atI_rqa {xs : List V} {ds : List R} {i : Int} {d : R} (r : RqA K H ρ xs ds) (h : atI ds i = some d) : ∃ v, atI xs i = some v ∧ Rq K H ρ v d := by
  unfold atI at h ⊢
  rw [r.length]
  cases e : ixN ds.length i with
  | none => rw [e] at h; cases h
  | some j =>
    rw [e] at h
    exact r.get h
def opIx (d e : R) (S : Store) : Out R := match e with
  | .v (.int i) => match d with
    | .v (.str x) => if x.length ≤ sizeLine then (match atI x.cps.toList i with
      | some c => .ok (.str ⟨#[c]⟩) S
      | none => .no) else .no
    | d => match seqOf S d with
      | some ds => match atI ds i with
        | some x => .ok x S
        | none => .no
      | none => .no
  | _ => .no
theorem ixm : IxR X (rM X.K opIx) := by
  rintro value slice pins s σ H x y v u Q I rx ry ⟨E, ρ, S, d, e, sr, rd, re, h⟩ hs
  cases re with
  | ref _ => exact (show False from h).elim
  | v re =>
  cases re <;> first | exact (show False from h).elim | skip
  case int i =>
    have gen : ∀ ds, seqOf S d = some ds → RO X.K (relD X.K) E H ρ (match atI ds i with
        | some x => .ok x S
        | none => .no) Q → wpAny (model X.prog X.w) X.A _ _ _ s := fun ds hds h => by
      split at h
      · rename_i x hx
        obtain ⟨p, xs, rfl, hq, ra⟩ := sr.seq rd hds
        obtain ⟨w, hw, rw'⟩ := atI_rqa ra hx
        rcases hq with hq | hq
        · exact ix_list value slice pins s σ H _ _ v u Q I rx ry ⟨_, _, _, _, rfl, rfl, hq, hw, h _ _ _ .refl sr rw'⟩ hs
        · exact ix_tup value slice pins s σ H _ _ v u Q I rx ry ⟨_, _, _, _, rfl, rfl, hq, hw, h _ _ _ .refl sr rw'⟩ hs
      · exact h.elim
    unfold opIx at h
    simp only at h
    split at h
    · split at h
      · split at h
        · rename_i x hz _ c hc
          cases rd with
          | v rd =>
            cases rd
            exact ix_str value slice pins s σ H _ _ v u Q I rx ry ⟨_, _, _, rfl, rfl, hz, hc, h _ _ _ .refl sr (.str _)⟩ hs
        · exact h.elim
      · exact h.elim
    · split at h
      · rename_i ds hds
        exact gen ds hds h
      · exact h.elim
theorem pm_ix (ha : PE X a (tE X.K E ma)) (hb : PE X b (tE X.K E mb)) (hs : PlainIx b := by exact fun _ _ => rfl) : PE X (.Subscript a b pos) (tE X.K E (mBin opIx ma mb)) := PE.imp (pe_ix ixm ha hb hs) fun _ _ _ h => tOp_of h

/-! ### slices -/
abbrev MO_ := Env → Store → Out (Option Int)
def tO (K : PySem.W.Frag) (E : St → XK) (f : MO_) : TO := fun σ H Q => ∃ ρ m S, SR K H ρ S ∧ EnvR K H ρ σ m ∧ RO K (fun _ _ (v d : Option Int) => v = d) (E σ) H ρ (f m S) Q
theorem PO.imp {e : Option Expr} {t t' : TO} (h : PO X e t) (k : ∀ σ H Q, t' σ H Q → t σ H Q) : PO X e t' := ⟨fun pins s σ H Q I q => h.run pins s σ H Q I (k _ _ _ q)⟩
def moN : MO_ := fun _ S => .ok none S
def moS (f : ME) : MO_ := fun m S => (f m S).bind fun d S1 => match d with
  | .v (.int i) => .ok (some i) S1
  | _ => .no
theorem pom_none : PO X none (tO X.K E moN) := PO.imp po_none fun σ H Q ⟨ρ, m, S, sr, er, h⟩ => h _ H ρ .refl sr rfl
theorem pom_some (he : PE X e (tE X.K E ma)) : PO X (some e) (tO X.K E (moS ma)) := by
  refine PO.imp (po_some he) ?_
  rintro σ H Q ⟨ρ, m, S, sr, er, h⟩
  refine ⟨ρ, m, S, sr, er, RO.bind h fun d S1 v H1 ρ1 m1 s1 r1 h1 => ?_⟩
  cases r1 with
  | ref _ => exact (show False from h1).elim
  | v r1 =>
    cases r1 <;> first | exact (show False from h1).elim | exact ⟨_, rfl, h1 _ H1 ρ1 .refl s1 rfl⟩
def cutD {α : Type} (xs : List α) (lo hi : Option Int) : List α := (xs.drop (HT.sIx xs.length 0 lo)).take (HT.sIx xs.length xs.length hi - HT.sIx xs.length 0 lo)
theorem cut_rqa {xs : List V} {ds : List R} {lo hi : Option Int} (r : RqA K H ρ xs ds) : RqA K H ρ (cutV xs lo hi) (cutD ds lo hi) := by
  unfold cutV cutD
  rw [r.length]
  exact (r.drop _).take _
theorem cut_rpa {xs : List V} {ds : List D} {lo hi : Option Int} (r : RpA K H ρ xs ds) : RpA K H ρ (cutV xs lo hi) (cutD ds lo hi) := by
  unfold cutV cutD
  rw [r.length]
  exact (r.drop _).take _
def opSl (d : R) (lo hi : Option Int) (S : Store) : Out R := match d with
  | .v (.tup ds) => .ok (.tup (cutD ds lo hi)) S
  | .v (.str x) => if x.length ≤ sizeLine then .ok (.str (cutS x lo hi)) S else .no
  | d => match lstOf S d with
    | some ds => .ok (.ref S.length) (S ++ [.lst (cutD ds lo hi)])
    | none => .no
def rMS (K : PySem.W.Frag) : V → Option Int → Option Int → Hp → VK → Prop := fun x lo hi H Q => ∃ (E : XK) (ρ : Wd) (S : Store) (d : R), SR K H ρ S ∧ Rq K H ρ x d ∧ RO K (relD K) E H ρ (opSl d lo hi S) Q
theorem slm : SlR X (rMS X.K) := by
  rintro pins s σ H x v vl vu lo hi sl Q I rx hs pl pu ⟨E, ρ, S, d, sr, rd, h⟩
  unfold opSl at h
  split at h
  · rename_i ds
    cases rd with
    | v rd =>
      cases rd with
      | tup hq ra =>
        refine sl_tupA pins s σ H _ v vl vu lo hi sl Q I rx hs pl pu ⟨_, _, rfl, sqT_at hq, fun q => ?_, fun _ p hp => RO.tup sr (cut_rpa ra) h hp⟩
        have e : cutD ds lo hi = ds := by
          unfold cutD
          rw [ra.length] at q
          rw [q.1, q.2]
          simp
        rw [e] at h
        exact h _ _ _ .refl sr (.v (.tup hq ra))
  · cases rd with
    | v rd =>
      cases rd
      split at h
      · exact sl_str pins s σ H _ v vl vu lo hi sl Q I rx hs pl pu ⟨_, rfl, by assumption, h _ _ _ .refl sr (.str _)⟩
      · exact h.elim
  · split at h
    · rename_i ds hds
      obtain ⟨p, xs, rfl, hq, ra⟩ := sr.lsD rd hds
      exact sl_list pins s σ H _ v vl vu lo hi sl Q I rx hs pl pu ⟨_, _, rfl, hq, fun p hp => RO.lst sr (cut_rqa ra) h hp⟩
    · exact h.elim
def mSl (f : ME) (l u : MO_) : ME := fun m S => (f m S).bind fun d S1 => (l m S1).bind fun lo S2 => (u m S2).bind fun hi S3 => opSl d lo hi S3
theorem pm_slice {lo hi : Option Expr} {ml mh : MO_} {p2 : Pos} (he : PE X e (tE X.K E ma)) (hl : PO X lo (tO X.K E ml)) (hu : PO X hi (tO X.K E mh)) : PE X (.Subscript e (.Slice lo hi none p2) pos) (tE X.K E (mSl ma ml mh)) := by
  refine PE.imp (pe_slice slm he hl hu) ?_
  rintro σ H Q ⟨ρ, m, S, sr, er, h⟩
  refine ⟨ρ, m, S, sr, er, RO.bind h fun d S1 v H1 ρ1 m1 s1 r1 h1 => ?_⟩
  refine ⟨ρ1, m, S1, s1, er.mo m1, RO.bind h1 fun lo S2 lo' H2 ρ2 m2 s2 r2 h2 => ?_⟩
  subst r2
  refine ⟨ρ2, m, S2, s2, (er.mo m1).mo m2, RO.bind h2 fun hi S3 hi' H3 ρ3 m3 s3 r3 h3 => ?_⟩
  subst r3
  exact ⟨_, ρ3, S3, d, s3, (r1.mo m2).mo m3, h3⟩

/-! ### built-ins by their name -/
theorem RqA.one {xs : List V} {d : R} (r : RqA K H ρ xs [d]) : ∃ v, xs = [v] ∧ Rq K H ρ v d := by
  cases r with
  | cons r1 r2 => cases r2; exact ⟨_, rfl, r1⟩
theorem RqA.two {xs : List V} {d e : R} (r : RqA K H ρ xs [d, e]) : ∃ v w, xs = [v, w] ∧ Rq K H ρ v d ∧ Rq K H ρ w e := by
  cases r with
  | cons r1 r2 => obtain ⟨w, rfl, r3⟩ := RqA.one r2; exact ⟨_, _, rfl, r1, r3⟩
theorem RpA.two {xs : List V} {d e : D} (r : RpA K H ρ xs [d, e]) : ∃ v w, xs = [v, w] ∧ Rp K H ρ v d ∧ Rp K H ρ w e := by
  cases r with
  | cons r1 r2 => cases r2 with
    | cons r2 r3 => cases r3; exact ⟨_, _, rfl, r1, r2⟩
def biLen (ds : List R) (S : Store) : Out R := match ds with
  | [.v (.str x)] => if x.length ≤ sizeLine then .ok (.int x.length) S else .no
  | [d] => match seqOf S d with
    | some es => .ok (.int es.length) S
    | none => .no
  | _ => .no
theorem cam_len : CaM X (.builtin "len") biLen := by
  rintro pins s σ H xs us Q I rv ⟨E, ρ, S, ds, sr, r, h⟩
  unfold biLen at h
  split at h
  · obtain ⟨v, rfl, r1⟩ := r.one
    cases r1 with
    | v r1 =>
      cases r1
      split at h
      · exact call_len_str pins s σ H _ us Q I rv ⟨_, rfl, by assumption, h _ _ _ .refl sr (.int _)⟩
      · exact h.elim
  · split at h
    · rename_i es hes
      obtain ⟨v, rfl, r1⟩ := r.one
      obtain ⟨p, xs, rfl, hq, ra⟩ := sr.seq r1 hes
      exact call_len_seq pins s σ H _ us Q I rv ⟨_, _, rfl, hq, by rw [ra.length]; exact h _ _ _ .refl sr (.int _)⟩
    · exact h.elim
  · exact h.elim
def biAbs (ds : List R) (S : Store) : Out R := match ds with
  | [.v (.int i)] => .ok (.int (if i < 0 then -i else i)) S
  | _ => .no
theorem cam_abs : CaM X (.builtin "abs") biAbs := by
  rintro pins s σ H xs us Q I rv ⟨E, ρ, S, ds, sr, r, h⟩
  unfold biAbs at h
  split at h
  · obtain ⟨v, rfl, r1⟩ := r.one
    cases r1 with
    | v r1 => cases r1; exact call_abs pins s σ H _ us Q I rv ⟨_, rfl, h _ _ _ .refl sr (.int _)⟩
  · exact h.elim
/-- int of an int, a truth, a text of figures -/
def biInt (ds : List R) (S : Store) : Out R := match ds with
  | [.v (.int i)] => .ok (.int i) S
  | [.v (.bl k)] => .ok (.int (if k = true then 1 else 0)) S
  | [.v (.str x)] => match PySem.intText? x with
    | some n => if x.length ≤ 640 then .ok (.int n) S else .no
    | none => .no
  | _ => .no
theorem cam_int : CaM X (.type "int") biInt := by
  rintro pins s σ H xs us Q I rv ⟨E, ρ, S, ds, sr, r, h⟩
  unfold biInt at h
  split at h
  · obtain ⟨v, rfl, r1⟩ := r.one
    cases r1 with
    | v r1 => cases r1; exact call_int1 pins s σ H _ us Q I rv (.inl ⟨_, rfl, h _ _ _ .refl sr (.int _)⟩)
  · obtain ⟨v, rfl, r1⟩ := r.one
    cases r1 with
    | v r1 => cases r1; exact call_int1 pins s σ H _ us Q I rv (.inr ⟨_, rfl, h _ _ _ .refl sr (.int _)⟩)
  · obtain ⟨v, rfl, r1⟩ := r.one
    split at h
    · rename_i n hn
      split at h
      · cases r1 with
        | v r1 => cases r1; exact call_int_str pins s σ H _ us Q I rv ⟨_, _, rfl, hn, by assumption, h _ _ _ .refl sr (.int _)⟩
      · exact h.elim
    · exact h.elim
  · exact h.elim
/-- str of an int -/
def biStr (ds : List R) (S : Store) : Out R := match ds with
  | [.v (.int i)] => if i.natAbs.log2 < 1920 then .ok (.str (toString i)) S else .no
  | _ => .no
theorem cam_str : CaM X (.type "str") biStr := by
  rintro pins s σ H xs us Q I rv ⟨E, ρ, S, ds, sr, r, h⟩
  unfold biStr at h
  split at h
  · obtain ⟨v, rfl, r1⟩ := r.one
    split at h
    · cases r1 with
      | v r1 => cases r1; exact call_str_int pins s σ H _ us Q I rv ⟨_, rfl, by assumption, h _ _ _ .refl sr (.str _)⟩
    · exact h.elim
  · exact h.elim
def biList (ds : List R) (S : Store) : Out R := match ds with
  | [d] => match seqOf S d with
    | some es => .ok (.ref S.length) (S ++ [.lst es])
    | none => .no
  | _ => .no
theorem cam_list : CaM X (.type "list") biList := by
  rintro pins s σ H xs us Q I rv ⟨E, ρ, S, ds, sr, r, h⟩
  unfold biList at h
  split at h
  · split at h
    · rename_i es hes
      obtain ⟨v, rfl, r1⟩ := r.one
      obtain ⟨p, xs, rfl, hq, ra⟩ := sr.seq r1 hes
      exact call_list_of pins s σ H _ us Q I rv ⟨_, _, rfl, hq, fun l hl => RO.lst sr ra h hl⟩
    · exact h.elim
  · exact h.elim
def biTuple (ds : List R) (S : Store) : Out R := match ds with
  | [.v (.tup es)] => .ok (.tup es) S
  | [d] => match lstOf S d with
    | some es => frzO S es fun ds S2 => .ok (.tup ds) S2
    | none => .no
  | _ => .no
theorem cam_tuple : CaM X (.type "tuple") biTuple := by
  rintro pins s σ H xs us Q I rv ⟨E, ρ, S, ds, sr, r, h⟩
  unfold biTuple at h
  split at h
  · obtain ⟨v, rfl, r1⟩ := r.one
    cases r1 with
    | v r1 =>
      cases r1 with
      | tup hs ra => exact call_tuple_of pins s σ H _ us Q I rv ⟨_, _, rfl, .inr ⟨sqT_at hs, h _ _ _ .refl sr (.v (.tup hs ra))⟩⟩
  · split at h
    · rename_i es hes
      obtain ⟨v, rfl, r1⟩ := r.one
      obtain ⟨p, xs, rfl, hq, ra⟩ := sr.lsD r1 hes
      obtain ⟨es', S2, ρ2, s2, m2, r2, h2⟩ := RO.frz sr ra h
      exact call_tuple_of pins s σ H _ us Q I rv ⟨_, _, rfl, .inl ⟨hq, fun l hl => RO.tup s2 r2 h2 hl⟩⟩
    · exact h.elim
  · exact h.elim
def blsOf : List R → Option (List Bool)
  | [] => some []
  | .v (.bl b) :: r => (blsOf r).map (b :: ·)
  | _ => none
theorem rqa_bls : ∀ {xs : List V} {ds : List R} {bs : List Bool}, RqA K H ρ xs ds → blsOf ds = some bs → xs = bs.map V.bl
  | _, [], bs, r, e => by cases r; cases e; rfl
  | _, d :: ds, bs, r, e => by
    cases r with
    | cons r1 r2 =>
      cases r1 with
      | ref _ => cases e
      | v r1 =>
        cases r1 <;> first | (cases e; done) | skip
        rename_i b
        obtain ⟨cs, e1, e2⟩ := Option.map_eq_some_iff.mp (show (blsOf ds).map (b :: ·) = some bs from e)
        subst e2
        rw [rqa_bls r2 e1]
        rfl
def intsOf : List R → Option (List Int)
  | [] => some []
  | .v (.int b) :: r => (intsOf r).map (b :: ·)
  | _ => none
theorem rqa_ints : ∀ {xs : List V} {ds : List R} {bs : List Int}, RqA K H ρ xs ds → intsOf ds = some bs → xs = bs.map V.int
  | _, [], bs, r, e => by cases r; cases e; rfl
  | _, d :: ds, bs, r, e => by
    cases r with
    | cons r1 r2 =>
      cases r1 with
      | ref _ => cases e
      | v r1 =>
        cases r1 <;> first | (cases e; done) | skip
        rename_i b
        obtain ⟨cs, e1, e2⟩ := Option.map_eq_some_iff.mp (show (intsOf ds).map (b :: ·) = some bs from e)
        subst e2
        rw [rqa_ints r2 e1]
        rfl
def strsOf : List R → Option (List Str)
  | [] => some []
  | .v (.str b) :: r => (strsOf r).map (b :: ·)
  | _ => none
theorem rqa_strs : ∀ {xs : List V} {ds : List R} {bs : List Str}, RqA K H ρ xs ds → strsOf ds = some bs → xs = bs.map V.str
  | _, [], bs, r, e => by cases r; cases e; rfl
  | _, d :: ds, bs, r, e => by
    cases r with
    | cons r1 r2 =>
      cases r1 with
      | ref _ => cases e
      | v r1 =>
        cases r1 <;> first | (cases e; done) | skip
        rename_i b
        obtain ⟨cs, e1, e2⟩ := Option.map_eq_some_iff.mp (show (strsOf ds).map (b :: ·) = some bs from e)
        subst e2
        rw [rqa_strs r2 e1]
        rfl
def biAll (ds : List R) (S : Store) : Out R := match ds with
  | [d] => match (lstOf S d).bind blsOf with
    | some bs => .ok (.bl (bs.all id)) S
    | none => .no
  | _ => .no
def biAny (ds : List R) (S : Store) : Out R := match ds with
  | [d] => match (lstOf S d).bind blsOf with
    | some bs => .ok (.bl (bs.any id)) S
    | none => .no
  | _ => .no
def biSum (ds : List R) (S : Store) : Out R := match ds with
  | [d] => match (lstOf S d).bind intsOf with
    | some bs => .ok (.int bs.sum) S
    | none => .no
  | _ => .no
theorem cam_all (hc : X.calm = true) : CaM X (.builtin "all") biAll := by
  rintro pins s σ H xs us Q I rv ⟨E, ρ, S, ds, sr, r, h⟩
  unfold biAll at h
  split at h
  · split at h
    · rename_i n bs hbs
      obtain ⟨es, h1, h2⟩ := Option.bind_eq_some_iff.mp hbs
      obtain ⟨v, rfl, r1⟩ := r.one
      obtain ⟨a, xs, rfl, hq, ra⟩ := sr.lsD r1 h1
      exact cr_all hc pins s σ H _ us Q I rv ⟨_, bs, rfl, by rw [← rqa_bls ra h2]; exact hq, h _ _ _ .refl sr (.bl _)⟩
    · exact h.elim
  · exact h.elim
theorem cam_any (hc : X.calm = true) : CaM X (.builtin "any") biAny := by
  rintro pins s σ H xs us Q I rv ⟨E, ρ, S, ds, sr, r, h⟩
  unfold biAny at h
  split at h
  · split at h
    · rename_i n bs hbs
      obtain ⟨es, h1, h2⟩ := Option.bind_eq_some_iff.mp hbs
      obtain ⟨v, rfl, r1⟩ := r.one
      obtain ⟨a, xs, rfl, hq, ra⟩ := sr.lsD r1 h1
      exact cr_any hc pins s σ H _ us Q I rv ⟨_, bs, rfl, by rw [← rqa_bls ra h2]; exact hq, h _ _ _ .refl sr (.bl _)⟩
    · exact h.elim
  · exact h.elim
theorem cam_sum (hc : X.calm = true) : CaM X (.builtin "sum") biSum := by
  rintro pins s σ H xs us Q I rv ⟨E, ρ, S, ds, sr, r, h⟩
  unfold biSum at h
  split at h
  · split at h
    · rename_i n bs hbs
      obtain ⟨es, h1, h2⟩ := Option.bind_eq_some_iff.mp hbs
      obtain ⟨v, rfl, r1⟩ := r.one
      obtain ⟨a, xs, rfl, hq, ra⟩ := sr.lsD r1 h1
      exact cr_sum hc pins s σ H _ us Q I rv ⟨_, bs, rfl, by rw [← rqa_ints ra h2]; exact hq, h _ _ _ .refl sr (.int _)⟩
    · exact h.elim
  · exact h.elim
/-- the greatest, the least of ints (two of them, or a list) -/
def maxL : List Int → Int
  | [] => 0
  | x :: xs => xs.foldl max x
def minL : List Int → Int
  | [] => 0
  | x :: xs => xs.foldl min x
theorem foldl_max_spec : ∀ (xs : List Int) (a : Int), (xs.foldl max a = a ∨ xs.foldl max a ∈ xs) ∧ a ≤ xs.foldl max a ∧ ∀ y ∈ xs, y ≤ xs.foldl max a
  | [], a => by simp
  | x :: xs, a => by
    obtain ⟨h1, h2, h3⟩ := foldl_max_spec xs (max a x)
    simp only [List.foldl_cons, List.mem_cons]
    refine ⟨?_, by omega, fun y hy => ?_⟩
    · rcases h1 with h1 | h1
      · rw [h1]; rcases Int.le_total a x with h | h
        · exact .inr (.inl (by omega))
        · exact .inl (by omega)
      · exact .inr (.inr h1)
    · rcases hy with rfl | hy
      · omega
      · exact h3 y hy
theorem foldl_min_spec : ∀ (xs : List Int) (a : Int), (xs.foldl min a = a ∨ xs.foldl min a ∈ xs) ∧ xs.foldl min a ≤ a ∧ ∀ y ∈ xs, xs.foldl min a ≤ y
  | [], a => by simp
  | x :: xs, a => by
    obtain ⟨h1, h2, h3⟩ := foldl_min_spec xs (min a x)
    simp only [List.foldl_cons, List.mem_cons]
    refine ⟨?_, by omega, fun y hy => ?_⟩
    · rcases h1 with h1 | h1
      · rw [h1]; rcases Int.le_total a x with h | h
        · exact .inl (by omega)
        · exact .inr (.inl (by omega))
      · exact .inr (.inr h1)
    · rcases hy with rfl | hy
      · omega
      · exact h3 y hy
theorem maxL_spec {xs : List Int} (h : xs ≠ []) : maxL xs ∈ xs ∧ ∀ y ∈ xs, y ≤ maxL xs := by
  cases xs with
  | nil => exact absurd rfl h
  | cons x xs =>
    obtain ⟨h1, h2, h3⟩ := foldl_max_spec xs x
    refine ⟨?_, fun y hy => ?_⟩
    · rcases h1 with h1 | h1
      · show xs.foldl max x ∈ _; rw [h1]; simp
      · exact List.mem_cons_of_mem _ h1
    · rcases List.mem_cons.mp hy with rfl | hy
      · exact h2
      · exact h3 y hy
theorem minL_spec {xs : List Int} (h : xs ≠ []) : minL xs ∈ xs ∧ ∀ y ∈ xs, minL xs ≤ y := by
  cases xs with
  | nil => exact absurd rfl h
  | cons x xs =>
    obtain ⟨h1, h2, h3⟩ := foldl_min_spec xs x
    refine ⟨?_, fun y hy => ?_⟩
    · rcases h1 with h1 | h1
      · show xs.foldl min x ∈ _; rw [h1]; simp
      · exact List.mem_cons_of_mem _ h1
    · rcases List.mem_cons.mp hy with rfl | hy
      · exact h2
      · exact h3 y hy
def biMax (ds : List R) (S : Store) : Out R := match ds with
  | [.v (.int i), .v (.int j)] => .ok (.int (if j > i then j else i)) S
  | [d] => match (lstOf S d).bind intsOf with
    | some bs => if bs ≠ [] then .ok (.int (maxL bs)) S else .no
    | none => .no
  | _ => .no
def biMin (ds : List R) (S : Store) : Out R := match ds with
  | [.v (.int i), .v (.int j)] => .ok (.int (if j < i then j else i)) S
  | [d] => match (lstOf S d).bind intsOf with
    | some bs => if bs ≠ [] then .ok (.int (minL bs)) S else .no
    | none => .no
  | _ => .no
theorem cam_max (hc : X.calm = true) : CaM X (.builtin "max") biMax := by
  rintro pins s σ H xs us Q I rv ⟨E, ρ, S, ds, sr, r, h⟩
  unfold biMax at h
  split at h
  · obtain ⟨v, w, rfl, r1, r2⟩ := r.two
    cases r1 with
    | v r1 => cases r2 with
      | v r2 =>
        cases r1; cases r2
        exact call_max2 hc pins s σ H _ us Q I rv ⟨_, _, rfl, h _ _ _ .refl sr (.int _)⟩
  · split at h
    · rename_i n bs hbs
      split at h
      · rename_i hn
        obtain ⟨es, h1, h2⟩ := Option.bind_eq_some_iff.mp hbs
        obtain ⟨v, rfl, r1⟩ := r.one
        obtain ⟨a, xs, rfl, hq, ra⟩ := sr.lsD r1 h1
        refine cr_max hc pins s σ H _ us Q I rv ⟨_, bs, rfl, by rw [← rqa_ints ra h2]; exact hq, List.length_pos_iff.mpr hn, fun m hm hy => ?_⟩
        obtain ⟨q1, q2⟩ := maxL_spec hn
        have e : m = maxL bs := Int.le_antisymm (q2 m hm) (hy _ q1)
        subst e
        exact h _ _ _ .refl sr (.int _)
      · exact h.elim
    · exact h.elim
  · exact h.elim
theorem cam_min (hc : X.calm = true) : CaM X (.builtin "min") biMin := by
  rintro pins s σ H xs us Q I rv ⟨E, ρ, S, ds, sr, r, h⟩
  unfold biMin at h
  split at h
  · obtain ⟨v, w, rfl, r1, r2⟩ := r.two
    cases r1 with
    | v r1 => cases r2 with
      | v r2 =>
        cases r1; cases r2
        exact call_min2 hc pins s σ H _ us Q I rv ⟨_, _, rfl, h _ _ _ .refl sr (.int _)⟩
  · split at h
    · rename_i n bs hbs
      split at h
      · rename_i hn
        obtain ⟨es, h1, h2⟩ := Option.bind_eq_some_iff.mp hbs
        obtain ⟨v, rfl, r1⟩ := r.one
        obtain ⟨a, xs, rfl, hq, ra⟩ := sr.lsD r1 h1
        refine cr_min hc pins s σ H _ us Q I rv ⟨_, bs, rfl, by rw [← rqa_ints ra h2]; exact hq, List.length_pos_iff.mpr hn, fun m hm hy => ?_⟩
        obtain ⟨q1, q2⟩ := minL_spec hn
        have e : m = minL bs := Int.le_antisymm (hy _ q1) (q2 m hm)
        subst e
        exact h _ _ _ .refl sr (.int _)
      · exact h.elim
    · exact h.elim
  · exact h.elim
/-- a built-in type's name -/
def tyD : D → Option String
  | .non => some "NoneType"
  | .bl _ => some "bool"
  | .int _ => some "int"
  | .str _ => some "str"
  | .tup _ => some "tuple"
  | .kl _ => some "list"
  | .lst _ => some "list"
  | .dct _ _ => some "dict"
  | .txt => some "str"
  | .kt _ => some "tuple"
  | .ty _ => none
def tyName (S : Store) : R → Option String
  | .v d => tyD d
  | .ref n => match S[n]? with
    | some (.lst _) => some "list"
    | some (.dK _) => some "dict"
    | some (.dT _) => some "dict"
    | some (.fz d) => tyD d
    | _ => none
theorem tyx_d {v : V} {d : D} {n : String} (r : Rp K H ρ v d) (e : tyD d = some n) : TyX K H v (.type n) := by
  cases r with
  | non => cases e; exact .base .non
  | bl b => cases e; exact .base (.bl b)
  | int i => cases e; exact .base (.int i)
  | str x => cases e; exact .base (.str x)
  | ty n => cases e
  | tup hs ra =>
    cases e
    exact .base (.tup hs)
  | kt hs ra =>
    cases e
    obtain ⟨o, its, n, h1, h2, _⟩ := hs
    exact .kTuple h1 h2
  | kl hs ra =>
    cases e
    rcases hs with ⟨o, hs⟩ | ⟨o, its, n, h1, h2, _⟩
    · exact .base (.frz hs)
    · exact .kList h1 h2
  | lst hs ra => cases e; exact .base (.lst hs.2)
  | dct hz hd hl ra => cases e; exact .base (.dK hd)
  | txt x hx => cases e; exact .base (.str x)
theorem tyx_of (sr : SR K H ρ S) {v : V} {d : R} {n : String} (r : Rq K H ρ v d) (e : tyName S d = some n) : TyX K H v (.type n) := by
  cases r with
  | v r => exact tyx_d r e
  | @ref a k ea =>
    unfold tyName at e
    simp only at e
    split at e
    all_goals first | (cases e; done) | skip
    · rename_i xs hx
      cases e
      obtain ⟨u, hu, ru⟩ := sr.obj _ _ _ ea hx
      exact .base (.lst hu)
    · rename_i xs hx
      cases e
      obtain ⟨u, hu, ru⟩ := sr.obj _ _ _ ea hx
      exact .base (.dK hu)
    · rename_i xs hx
      cases e
      obtain ⟨u, hu, ru⟩ := sr.obj _ _ _ ea hx
      exact .base (.dT hu)
    · rename_i d hx
      exact tyx_d (sr.obj _ _ _ ea hx) e
def biIsi (ds : List R) (S : Store) : Out R := match ds with
  | [d, .v (.ty t)] => match (tyName S d).bind fun n => kitB n t with
    | some k => .ok (.bl k) S
    | none => .no
  | _ => .no
theorem cam_isi : CaM X (.builtin "isinstance") biIsi := by
  rintro pins s σ H xs us Q I rv ⟨E, ρ, S, ds, sr, r, h⟩
  unfold biIsi at h
  split at h
  · split at h
    · rename_i d t _ k hk
      obtain ⟨n, h1, h2⟩ := Option.bind_eq_some_iff.mp hk
      obtain ⟨v, w, rfl, r1, r2⟩ := r.two
      cases r2 with
      | v r2 =>
        cases r2
        exact call_isi pins s σ H _ us Q I rv ⟨_, _, _, _, k, rfl, .ty t, tyx_of sr r1 h1, kit_ty h2, h _ _ _ .refl sr (.bl _)⟩
    · exact h.elim
  · exact h.elim
/-- a built-in type as a value -/
theorem pm_ty {x : Str} {T : String} (hg : Gl X x) (hm : X.mg x = none) (hv : bootBuiltins x = some (.type T)) (hn : x ≠ "__name__" := by decide) (hdb : (x == ("__debug__" : Str)) = false := by decide) : PE X (.Name x pos) (tE X.K E (mC (.ty T))) :=
  pm_c (pe_bltn (v := V.ty T) hg hm hv rfl hn hdb) fun _ _ => .ty T

/-! ### methods of built-in types -/
def tyOk (T : String) (S : Store) : R → Bool
  | .v (.str _) => T == "str"
  | .v (.kl _) => T == "list"
  | .v (.lst _) => T == "list"
  | .v _ => false
  | .ref n => match S[n]? with
    | some (.lst _) => T == "list"
    | some (.dK _) => T == "dict"
    | some (.dT _) => T == "dict"
    | some (.fz (.lst _)) => T == "list"
    | _ => false
theorem tyV_of (sr : SR K H ρ S) {T : String} {v : V} {d : R} (r : Rq K H ρ v d) (e : tyOk T S d = true) : tyV K T v H := by
  cases r with
  | v r =>
    cases r <;> first | (cases e; done) | skip
    case str => exact eq_of_beq e
    case kl hs ra => exact .inl ⟨eq_of_beq e, _, hs.sq⟩
    case lst hs ra => exact .inl ⟨eq_of_beq e, _, hs.sq⟩
  | @ref a k ea =>
    unfold tyOk at e
    simp only at e
    split at e
    all_goals first | (cases e; done) | skip
    · rename_i xs hx
      obtain ⟨u, hu, ru⟩ := sr.obj _ _ _ ea hx
      exact .inl ⟨eq_of_beq e, _, .inl (.inl hu)⟩
    · rename_i xs hx
      obtain ⟨u, hu, ru⟩ := sr.obj _ _ _ ea hx
      exact .inr (.inr (.inl ⟨eq_of_beq e, .inl ⟨_, hu⟩⟩))
    · rename_i xs hx
      obtain ⟨u, hu, ru⟩ := sr.obj _ _ _ ea hx
      exact .inr (.inr (.inl ⟨eq_of_beq e, .inr ⟨_, hu⟩⟩))
    · rename_i ds hx
      have q : Rp K H ρ (.ref a) (.lst _) := sr.obj _ _ _ ea hx
      cases q with
      | lst hs ra => exact .inl ⟨eq_of_beq e, _, hs.sq⟩
def MtMm (X : Cx) (id : String) (g : R → List R → Store → Out R) : Prop := MtR X id (rMM X.K g)
def mMeth (T : String) (g : R → List R → Store → Out R) (f : ME) (r : MA) : ME := fun m S => (f m S).bind fun d S1 => if tyOk T S1 d = true then (r m S1).bind fun ds S2 => g d ds S2 else .no
theorem pm_bm {o : Expr} {name : Str} {apos cpos : Pos} {T id : String} {g : R → List R → Store → Out R} (pa : PlainAttrs T) (slot : Slot T name id) (hty : typeOf (.builtin id) = pure (.type "method_descriptor")) (hm : MtMm X id g) (ho : PE X o (tE X.K E ma)) (ha : PA X (e :: es) (tA X.K E mr))
    (hbase : attributeBase o name X.env (eval o X.env) = eval o X.env := by rfl)
    (hfew : ((backTo cpos (starEach (e :: es) X.env)).all (fun x => !x.1) && (backToKw cpos (keywordEach [] X.env)).all (fun x => x.1.isSome)
      && decide ((e :: es).length + ([] : List Keyword).length + (if ([] : List Keyword).isEmpty then 0 else 1) < 30)) = true := by rfl)
    (hline : (apos.endLine == cpos.line) = true := by rfl) (hs : starEach (e :: es) X.env = (false, eval e X.env) :: starEach es X.env := by rfl) (hplain : (backTo cpos (starEach es X.env)).any (·.1) = false := by rfl) :
    PE X (.Call (.Attribute o name apos) (e :: es) [] cpos) (tE X.K E (mMeth T g ma mr)) := by
  refine PE.imp (pe_bm pa slot hty hm ho ha hbase hfew hline hs hplain) ?_
  rintro σ H Q ⟨ρ, m, S, sr, er, h⟩
  refine ⟨ρ, m, S, sr, er, RO.bind h fun d S1 v H1 ρ1 m1 s1 r1 h1 => ?_⟩
  split at h1
  · rename_i hk
    refine ⟨tyV_of s1 r1 hk, ρ1, m, S1, s1, er.mo m1, RO.bind h1 fun ds S2 xs H2 ρ2 m2 s2 r2 h2 => ?_⟩
    exact ⟨_, ρ2, S2, d, ds, s2, r1.mo m2, r2, h2⟩
  · exact h1.elim
/-- without arguments -/
def mMeth0 (T : String) (g : R → List R → Store → Out R) (f : ME) : ME := fun m S => (f m S).bind fun d S1 => if tyOk T S1 d = true then g d [] S1 else .no
theorem pm_bm0 {o : Expr} {name : Str} {apos cpos : Pos} {T id : String} {g : R → List R → Store → Out R} (pa : PlainAttrs T) (slot : Slot T name id) (hty : typeOf (.builtin id) = pure (.type "method_descriptor")) (hm : MtMm X id g) (ho : PE X o (tE X.K E ma))
    (hbase : attributeBase o name X.env (eval o X.env) = eval o X.env := by rfl)
    (hline : (apos.endLine == cpos.line) = true := by rfl) :
    PE X (.Call (.Attribute o name apos) [] [] cpos) (tE X.K E (mMeth0 T g ma)) := by
  refine PE.imp (pe_bm0 pa slot hty hm ho hbase hline) ?_
  rintro σ H Q ⟨ρ, m, S, sr, er, h⟩
  refine ⟨ρ, m, S, sr, er, RO.bind h fun d S1 v H1 ρ1 m1 s1 r1 h1 => ?_⟩
  split at h1
  · rename_i hk
    exact ⟨tyV_of s1 r1 hk, _, ρ1, S1, d, [], s1, r1, .nil, h1⟩
  · exact h1.elim
def mtAppend (d : R) (ds : List R) (S : Store) : Out R := match d, ds with
  | .ref n, [y] => match S[n]? with
    | some (.lst xs) => if xs.length < sizeLine then .ok .non (S.set n (.lst (xs ++ [y]))) else .no
    | _ => .no
  | _, _ => .no
theorem mtm_append : MtMm X "list.append" mtAppend := by
  rintro pins s σ H x vs v us Q I rx rv ⟨E, ρ, S, d, ds, sr, rd, r, h⟩
  unfold mtAppend at h
  split at h
  · split at h
    · rename_i n y _ xs hx
      split at h
      · rename_i hz
        cases rd with
        | ref ea =>
          obtain ⟨w, rfl, r1⟩ := r.one
          obtain ⟨zs, hu, ra, hl⟩ := sr.lst ea hx
          refine (mt_append : MtR X "list.append" rAppend) pins s σ H _ _ v us Q I rx rv ⟨_, zs, w, rfl, rfl, hu, by rw [ra.length]; exact hz, ?_⟩
          have mo : Mo X.K H ρ (upd H _ (.lst (zs ++ [w]))) ρ := .set hu trivial hl
          exact h _ _ ρ mo (sr.set (mo := .lst (xs ++ [y])) ea hu trivial hl ⟨_, upd_same, (ra.append (.cons r1 .nil)).mo mo⟩) .non
      · exact h.elim
    · exact h.elim
  · exact h.elim
def mtExtend (d : R) (ds : List R) (S : Store) : Out R := match d, ds with
  | .ref n, [y] => match S[n]?, lstOf S y with
    | some (.lst xs), some zs => if xs.length + zs.length ≤ sizeLine then .ok .non (S.set n (.lst (xs ++ zs))) else .no
    | _, _ => .no
  | _, _ => .no
theorem SR.lsE2 {v : V} {y : R} {ds : List R} (sr : SR K H ρ S) (r : Rq K H ρ v y) (hk : ∀ zs, y ≠ .kl zs) (h : lstOf S y = some ds) : ∃ a xs, v = .ref a ∧ H a = some (.lst xs) ∧ RqA K H ρ xs ds := by
  cases r with
  | v r =>
    cases r <;> first | (cases h; done) | skip
    case lst hs ra => cases h; exact ⟨_, _, rfl, hs.2, ra.q⟩
    case kl hs ra => exact absurd rfl (hk _)
  | ref e =>
    obtain ⟨xs, h1, h2⟩ := sr.lsE e h
    exact ⟨_, xs, rfl, h1, h2⟩
def notKl : R → Bool
  | .v (.kl _) => false
  | _ => true
theorem notKl_of {y : R} (h : notKl y = true) : ∀ zs, y ≠ .kl zs := by
  intro zs e; subst e; cases h
theorem mtm_extend : MtMm X "list.extend" fun d ds S => if ds.all notKl = true then mtExtend d ds S else .no := by
  rintro pins s σ H x vs v us Q I rx rv ⟨E, ρ, S, d, ds, sr, rd, r, h⟩
  replace h : RO X.K (relD X.K) E H ρ (if ds.all notKl = true then mtExtend d ds S else .no) Q := h
  split at h
  · rename_i hk
    unfold mtExtend at h
    split at h
    · split at h
      · rename_i n y xs zs hx hy
        split at h
        · rename_i hz
          cases rd with
          | ref ea =>
            obtain ⟨w, rfl, r1⟩ := r.one
            obtain ⟨ys, hu, ra, hl⟩ := sr.lst ea hx
            obtain ⟨b, bs, rfl, hb, rb⟩ := sr.lsE2 r1 (notKl_of (by simpa using hk)) hy
            refine (mt_extend : MtM X "list.extend" rExtend) pins s σ H _ _ v us Q I rx rv ⟨_, _, ys, bs, rfl, rfl, hu, hb, by rw [ra.length, rb.length]; exact hz, ?_⟩
            have mo : Mo X.K H ρ (upd H _ (.lst (ys ++ bs))) ρ := .set hu trivial hl
            exact h _ _ ρ mo (sr.set (mo := .lst (xs ++ zs)) ea hu trivial hl ⟨_, upd_same, (ra.append rb).mo mo⟩) .non
        · exact h.elim
      · exact h.elim
    · exact h.elim
  · exact h.elim
theorem RqA.dropLast {vs : List V} {ds : List R} (h : RqA K H ρ vs ds) : RqA K H ρ vs.dropLast ds.dropLast := by
  rw [List.dropLast_eq_take, List.dropLast_eq_take, h.length]
  exact h.take _
theorem RqA.eraseIdx {vs : List V} {ds : List R} (h : RqA K H ρ vs ds) : ∀ k : Nat, RqA K H ρ (vs.eraseIdx k) (ds.eraseIdx k) := by
  induction h with
  | nil => intro k; exact .nil
  | cons h1 h2 ih =>
    intro k
    cases k with
    | zero => exact h2
    | succ k => exact .cons h1 (ih k)
/-- pop(), pop(i) -/
def mtPop (d : R) (ds : List R) (S : Store) : Out R := match d, ds with
  | .ref n, [] => match S[n]? with
    | some (.lst xs) => match xs[xs.length - 1]? with
      | some y => .ok y (S.set n (.lst xs.dropLast))
      | none => .no
    | _ => .no
  | .ref n, [.v (.int i)] => match S[n]? with
    | some (.lst xs) => if 0 ≤ i ∧ i < xs.length ∧ xs.length < 2 ^ 62 then (match xs[i.toNat]? with
      | some y => .ok y (S.set n (.lst (xs.eraseIdx i.toNat)))
      | none => .no) else .no
    | _ => .no
  | _, _ => .no
theorem mtm_pop : MtMm X "list.pop" mtPop := by
  rintro pins s σ H x vs v us Q I rx rv ⟨E, ρ, S, d, ds, sr, rd, r, h⟩
  unfold mtPop at h
  split at h
  · split at h
    · rename_i n xs hx
      split at h
      · rename_i y hy
        cases rd with
        | ref ea =>
          cases r
          obtain ⟨zs, hu, ra, hl⟩ := sr.lst ea hx
          obtain ⟨w, hw, rw'⟩ := ra.get hy
          have mo : Mo X.K H ρ (upd H _ (.lst zs.dropLast)) ρ := .set hu trivial hl
          exact (mt_pop : MtM X "list.pop" rPop) pins s σ H _ _ v us Q I rx rv ⟨_, zs, w, rfl, rfl, hu, by rw [ra.length]; exact hw, h _ _ ρ mo (sr.set (mo := .lst xs.dropLast) ea hu trivial hl ⟨_, upd_same, ra.dropLast.mo mo⟩) (rw'.mo mo)⟩
      · exact h.elim
    · exact h.elim
  · split at h
    · rename_i n i _ xs hx
      split at h
      · rename_i hi
        split at h
        · rename_i y hy
          cases rd with
          | ref ea =>
            obtain ⟨w0, rfl, r1⟩ := r.one
            cases r1 with
            | v r1 =>
            cases r1
            obtain ⟨zs, hu, ra, hl⟩ := sr.lst ea hx
            obtain ⟨w, hw, rw'⟩ := ra.get hy
            have mo : Mo X.K H ρ (upd H _ (.lst (zs.eraseIdx i.toNat))) ρ := .set hu trivial hl
            have hk : seqIndex? i zs.length = some i.toNat := by
              rw [ra.length]
              unfold seqIndex?
              simp
              omega
            exact (mt_popAt : MtM X "list.pop" rPopAt) pins s σ H _ _ v us Q I rx rv ⟨_, zs, i, i.toNat, w, rfl, rfl, hu, by omega, by omega, hk, hw, h _ _ ρ mo (sr.set (mo := .lst (xs.eraseIdx i.toNat)) ea hu trivial hl ⟨_, upd_same, (ra.eraseIdx _).mo mo⟩) (rw'.mo mo)⟩
        · exact h.elim
      · exact h.elim
    · exact h.elim
  · exact h.elim
/-- insert(i, y) -/
def mtInsert (d : R) (ds : List R) (S : Store) : Out R := match d, ds with
  | .ref n, [.v (.int i), y] => match S[n]? with
    | some (.lst xs) => if xs.length < sizeLine ∧ 0 ≤ i ∧ i < 2 ^ 62 then .ok .non (S.set n (.lst (xs.take i.toNat ++ [y] ++ xs.drop i.toNat))) else .no
    | _ => .no
  | _, _ => .no
theorem mtm_insert : MtMm X "list.insert" mtInsert := by
  rintro pins s σ H x vs v us Q I rx rv ⟨E, ρ, S, d, ds, sr, rd, r, h⟩
  unfold mtInsert at h
  split at h
  · split at h
    · rename_i n i y _ xs hx
      split at h
      · rename_i hz
        cases rd with
        | ref ea =>
          obtain ⟨w0, w, rfl, r0, r1⟩ := r.two
          cases r0 with
          | v r0 =>
          cases r0
          obtain ⟨zs, hu, ra, hl⟩ := sr.lst ea hx
          have mo : Mo X.K H ρ (upd H _ (.lst (zs.take i.toNat ++ [w] ++ zs.drop i.toNat))) ρ := .set hu trivial hl
          exact (mt_insert : MtR X "list.insert" _) pins s σ H _ _ v us Q I rx rv ⟨_, zs, i, w, rfl, rfl, hu, by rw [ra.length]; exact hz.1, hz.2.1, by omega, h _ _ ρ mo (sr.set (mo := .lst (xs.take i.toNat ++ [y] ++ xs.drop i.toNat)) ea hu trivial hl ⟨_, upd_same, (((ra.take _).append (.cons r1 .nil)).append (ra.drop _)).mo mo⟩) .non⟩
      · exact h.elim
    · exact h.elim
  · exact h.elim
/-- remove(k), of ints -/
def mtRemove (d : R) (ds : List R) (S : Store) : Out R := match d, ds with
  | .ref n, [.v (.int k)] => match S[n]? with
    | some (.lst xs) => match intsOf xs with
      | some ns => if k ∈ ns then .ok .non (S.set n (.lst ((ns.erase k).map .int))) else .no
      | none => .no
    | _ => .no
  | _, _ => .no
theorem mtm_remove : MtMm X "list.remove" mtRemove := by
  rintro pins s σ H x vs v us Q I rx rv ⟨E, ρ, S, d, ds, sr, rd, r, h⟩
  unfold mtRemove at h
  split at h
  · split at h
    · rename_i n k _ xs hx
      split at h
      · rename_i ns hns
        split at h
        · rename_i hk
          cases rd with
          | ref ea =>
            obtain ⟨w0, rfl, r1⟩ := r.one
            cases r1 with
            | v r1 =>
            cases r1
            obtain ⟨zs, hu, ra, hl⟩ := sr.lst ea hx
            have e := rqa_ints ra hns
            subst e
            have key : ∀ (ns : List Int) (k : Int), k ∈ ns → ∃ j, ns[j]? = some k ∧ (∀ m : Nat, m < j → ns[m]? ≠ some k) ∧ ns.eraseIdx j = ns.erase k := by
              intro ns k
              induction ns with
              | nil => intro h; cases h
              | cons x xs ih =>
                intro hm
                by_cases hx : x = k
                · subst hx
                  exact ⟨0, rfl, fun m hm => by omega, by simp⟩
                · obtain ⟨j, h1, h2, h3⟩ := ih (by rcases List.mem_cons.mp hm with h | h; exact absurd h.symm hx; exact h)
                  refine ⟨j + 1, by simpa using h1, fun m hm => ?_, ?_⟩
                  · cases m with
                    | zero => simp; exact hx
                    | succ m => simpa using h2 m (by omega)
                  · rw [List.eraseIdx_cons_succ, h3, List.erase_cons_tail (by simpa using hx)]
            obtain ⟨j, j1, j2, j3⟩ := key ns k hk
            have mo : Mo X.K H ρ (upd H _ (.lst ((ns.eraseIdx j).map V.int))) ρ := .set hu trivial hl
            refine (mt_remove : MtM X "list.remove" rRemI) pins s σ H _ _ v us Q I rx rv ⟨_, ns, k, j, rfl, rfl, hu, j1, j2, h _ _ ρ mo (sr.set (mo := .lst ((ns.erase k).map .int)) ea hu trivial hl ⟨_, upd_same, ?_⟩) .non⟩
            rw [j3]
            have q : ∀ (H' : Hp) (l : List Int), RqA X.K H' ρ (l.map V.int) (l.map R.int) := fun H' l => by
              have := (RpA.ints (K := X.K) (H := H') (ρ := ρ) (ns := l)).q
              rw [List.map_map] at this
              exact this
            exact q _ _
        · exact h.elim
      · exact h.elim
    · exact h.elim
  · exact h.elim
def mtJoin (d : R) (ds : List R) (S : Store) : Out R := match d, ds with
  | .v (.str a), [y] => match (seqOf S y).bind strsOf with
    | some ys => if (ys.map (·.length)).sum + ys.length * a.length ≤ 16777216 then .ok (.str (Txt.join a ys)) S else .no
    | none => .no
  | _, _ => .no
theorem mtm_join : MtMm X "str.join" mtJoin := by
  rintro pins s σ H x vs v us Q I rx rv ⟨E, ρ, S, d, ds, sr, rd, r, h⟩
  unfold mtJoin at h
  split at h
  · split at h
    · rename_i a y ys hy
      obtain ⟨es, h1, h2⟩ := Option.bind_eq_some_iff.mp hy
      split at h
      · rename_i hz
        cases rd with
        | v rd =>
          cases rd
          obtain ⟨w, rfl, r1⟩ := r.one
          obtain ⟨p, xs, rfl, hq, ra⟩ := sr.seq r1 h1
          have e := rqa_strs ra h2
          subst e
          exact mt_join pins s σ H _ _ v us Q I rx rv ⟨_, p, ys, rfl, rfl, hq, hz, h _ _ _ .refl sr (.str _)⟩
      · exact h.elim
    · exact h.elim
  · exact h.elim
/-- list.index(x): the first equal one (data of any depth) -/
def mtIndex (d : R) (ds : List R) (S : Store) : Out R := match ds with
  | [y] => match pyOf S d, pyOf S y with
    | some (.list ps), some q => match ps.findIdx? (fun z => PyData.eqv z q) with
      | some j => .ok (.int (j : Nat)) S
      | none => .no
    | _, _ => .no
  | _ => .no
theorem mtm_index (hu : X.A.units + 65 < cLine) : MtMm X "list.index" mtIndex := by
  rintro pins s σ H x vs v us Q I rx rv ⟨E, ρ, S, d, ds, sr, rd, r, h⟩
  unfold mtIndex at h
  split at h
  · split at h
    · rename_i y _ _ ps q h1 h2
      split at h
      · rename_i j hj
        obtain ⟨w, rfl, r1⟩ := r.one
        obtain ⟨d1, s1⟩ := pyOf_dp sr rd h1
        obtain ⟨d2, s2⟩ := pyOf_dp sr r1 h2
        have hx : ∃ a, x = V.ref a := by cases d1; exact ⟨_, rfl⟩
        obtain ⟨a, rfl⟩ := hx
        obtain ⟨hlt, hpj, hno⟩ := List.findIdx?_eq_some_iff_getElem.mp hj
        refine mt_indexD hu pins s σ H _ _ v us Q I rx rv ⟨a, w, q, ps, j, ps[j], rfl, rfl, d1, d2, s1, s2, List.getElem?_eq_getElem hlt, hpj, fun m z' hm hz => ?_, h _ _ _ .refl sr (.int _)⟩
        have hml : m < ps.length := by omega
        rw [List.getElem?_eq_getElem hml] at hz
        cases hz
        have := hno m hm
        simpa using this
      · exact h.elim
    · exact h.elim
  · exact h.elim

/-! ### o[i] = e, o[a:b] = e -/
/-- o[i] = x of a list -/
def setIx (x y d : R) (S : Store) : Option Store := match x, y with
  | .ref n, .v (.int k) => match S[n]? with
    | some (.lst ds) => match ixN ds.length k with
      | some j => some (S.set n (.lst (ds.set j d)))
      | none => none
    | _ => none
  | _, _ => none
theorem setIx_ok {K : PySem.W.Frag} {H : Hp} {ρ : Wd} {S S' : Store} {x y d : R} {xv yv v : V} {Q : Hp → Prop} (sr : SR K H ρ S) (rx : Rq K H ρ xv x) (ry : Rq K H ρ yv y) (rd : Rq K H ρ v d) (h : setIx x y d S = some S')
    (k : ∀ H', Mo K H ρ H' ρ → SR K H' ρ S' → Q H') : rSetL xv yv v H Q := by
  unfold setIx at h
  split at h
  · split at h
    · rename_i n z _ ds hds
      split at h
      · rename_i j hj
        cases h
        cases ry with
        | v ry =>
        cases ry
        cases rx with
        | ref ea =>
          obtain ⟨xs, hu, ra, hl⟩ := sr.lst ea hds
          have mo : Mo K H ρ (upd H _ (.lst (xs.set j v))) ρ := .set hu trivial hl
          exact ⟨_, xs, z, j, rfl, rfl, hu, by rw [ra.length]; exact hj, k _ mo (sr.set (mo := .lst (ds.set j d)) ea hu trivial hl ⟨_, upd_same, (RqA.set rd ra j).mo mo⟩)⟩
      · cases h
    · cases h
  · cases h
def mSetIx (f o i : ME) : MS := fun m S => (f m S).thenS m fun d S1 => (o m S1).thenS m fun x S2 => (i m S2).thenS m fun y S3 => match setIx x y d S3 with
  | some S4 => .nx m S4
  | none => .no
theorem psm_setIx {o i : Expr} {mo mi : ME} {p : Pos} (he : PE X e (tE X.K E ma)) (ho : PE X o (tE X.K E mo)) (hi : PE X i (tE X.K E mi)) (hs : swapsWithSole [.Subscript o i p] e pos.line X.env = pure false := by rfl) (hw : swappedStores [.Subscript o i p] e X.env = pure none := by rfl)
    (h1 : (assignEach [.Subscript o i p] X.env).map (·.2) = [assign (.Subscript o i p) X.env] := by rfl)
    (h2 : ∀ v, assign (.Subscript o i p) X.env v = (do
      let ov ← holding [v] (eval o X.env)
      let iv ← holding [v, ov] (eval i X.env)
      standAt p
      holding [v, ov, iv] (setItem ov iv v)
      release [v, ov, iv] []) := by intro _; rfl) : PS X (.Assign [.Subscript o i p] e pos) (tS X.K E (mSetIx ma mo mi)) := by
  refine PS.imp (ps_asg he (pg_sub ho hi set_list h2) hs hw h1) ?_
  rintro D σ H ⟨ρ, m, S, sr, er, h⟩
  refine ⟨ρ, m, S, sr, er, RS.bind er h fun d S1 v H1 ρ1 m1 s1 r1 e1 h1 => ?_⟩
  refine ⟨ρ1, m, S1, s1, e1, RS.bind e1 h1 fun x S2 xv H2 ρ2 m2 s2 r2 e2 h2 => ?_⟩
  refine ⟨ρ2, m, S2, s2, e2, RS.bind e2 h2 fun y S3 yv H3 ρ3 m3 s3 r3 e3 h3 => ?_⟩
  split at h3
  · rename_i S4 hS4
    exact setIx_ok s3 (r2.mo m3) r3 ((r1.mo m2).mo m3) hS4 fun H4 m4 s4 => h3 σ H4 ρ3 m4 s4 (e3.mo m4)
  · exact h3.elim
/-- o[lo:hi] = .. -/
def gSlice (to : TE) (tl th : TO) : TG := fun v σ H Q => to σ H fun o H1 => tl σ H1 fun l H2 => th σ H2 fun u H3 => ∃ p b xs ys x z, o = .ref p ∧ v = .ref b ∧ l = some x ∧ u = some z ∧ H3 p = some (.lst xs) ∧ H3 b = some (.lst ys) ∧ p ≠ b ∧
  0 ≤ x ∧ x ≤ z ∧ z ≤ xs.length ∧ xs.length + ys.length ≤ sizeLine ∧ Q σ (upd H3 p (.lst (xs.take x.toNat ++ ys ++ xs.drop z.toNat)))
theorem pg_slice {o : Expr} {lo hi : Option Expr} {p2 p : Pos} {to : TE} {tl th : TO} (ho : PE X o to) (hl : PO X lo tl) (hu : PO X hi th)
    (ha : ∀ v, assign (.Subscript o (.Slice lo hi none p2) p) X.env v = (do
      let ov ← holding [v] (eval o X.env)
      let iv ← holding [v, ov] (eval (.Slice lo hi none p2) X.env)
      standAt p
      holding [v, ov, iv] (setItem ov iv v)
      release [iv, v, ov] []) := by intro _; rfl) : PG X (.Subscript o (.Slice lo hi none p2) p) (gSlice to tl th) := by
  refine ⟨fun pins s σ H v u Q I r h => ?_⟩
  rw [ha]
  refine wpAny_bind (wpAny_holding (thn (ho.run pins s σ H _ I h) fun ov s1 ⟨x, H1, I1, r1, q1⟩ => ?_))
  refine wpAny_bind (wpAny_holding ?_)
  refine wpAny_Slice (thn (hl.run pins s1 σ H1 _ I1 q1) fun vl s2 ⟨l, H2, I2, pl, q2⟩ => thn (hu.run pins s2 σ H2 _ I2 q2) fun vu s3 ⟨w, H3, I3, pu, q3⟩ => ?_)
  rw [evalPart_none]
  refine wpAny_pure ?_
  obtain ⟨p', b, xs, ys, x', z, rfl, rfl, rfl, rfl, hp, hb, hne, h0, h1, h2, hz, q⟩ := q3
  have I4 : Inv X pins σ H3 { s3 with heap := s3.heap.push { cls := .type "slice", data := .fields #[vl, vu, .none] } } := I3.kept (t' := s3.toks) fun b ob q => Heap.get?_push_of_some _ q
  cases r1
  cases r
  refine wpAny_bind (wpAny_standAt (wpAny_bind (wpAny_holding ?_)))
  cases pl with
  | int i t =>
    cases pu with
    | int j t' =>
      refine set_slice I4 hp hb hne (Heap.IsSliceOf.new ..) ⟨t, rfl⟩ ⟨t', rfl⟩ h0 h1 h2 hz fun s' I' => ?_
      exact wpAny_release ⟨σ, _, I', q⟩
open Classical in
noncomputable def mSetSl (f o : ME) (l u : MO_) : MS := fun m S => (f m S).thenS m fun d S1 => (o m S1).thenS m fun x S2 => (l m S2).thenS m fun lo S3 => (u m S3).thenS m fun hi S4 => match x, lo, hi with
  | .ref n, some a, some c => match S4[n]?, lstOf S4 d with
    | some (.lst xs), some ys => if notKl d = true ∧ d ≠ .ref n ∧ 0 ≤ a ∧ a ≤ c ∧ c ≤ xs.length ∧ xs.length + ys.length ≤ sizeLine then .nx m (S4.set n (.lst (xs.take a.toNat ++ ys ++ xs.drop c.toNat))) else .no
    | _, _ => .no
  | _, _, _ => .no
theorem psm_setSl {o : Expr} {lo hi : Option Expr} {p2 p : Pos} {mo : ME} {ml mh : MO_} (he : PE X e (tE X.K E ma)) (ho : PE X o (tE X.K E mo)) (hl : PO X lo (tO X.K E ml)) (hu : PO X hi (tO X.K E mh))
    (hs : swapsWithSole [.Subscript o (.Slice lo hi none p2) p] e pos.line X.env = pure false := by rfl) (hw : swappedStores [.Subscript o (.Slice lo hi none p2) p] e X.env = pure none := by rfl)
    (h1 : (assignEach [.Subscript o (.Slice lo hi none p2) p] X.env).map (·.2) = [assign (.Subscript o (.Slice lo hi none p2) p) X.env] := by rfl)
    (h2 : ∀ v, assign (.Subscript o (.Slice lo hi none p2) p) X.env v = (do
      let ov ← holding [v] (eval o X.env)
      let iv ← holding [v, ov] (eval (.Slice lo hi none p2) X.env)
      standAt p
      holding [v, ov, iv] (setItem ov iv v)
      release [iv, v, ov] []) := by intro _; rfl) : PS X (.Assign [.Subscript o (.Slice lo hi none p2) p] e pos) (tS X.K E (mSetSl ma mo ml mh)) := by
  refine PS.imp (ps_asg he (pg_slice ho hl hu h2) hs hw h1) ?_
  rintro D σ H ⟨ρ, m, S, sr, er, h⟩
  refine ⟨ρ, m, S, sr, er, RS.bind er h fun d S1 v H1 ρ1 m1 s1 r1 e1 h1 => ?_⟩
  refine ⟨ρ1, m, S1, s1, e1, RS.bind e1 h1 fun x S2 xv H2 ρ2 m2 s2 r2 e2 h2 => ?_⟩
  refine ⟨ρ2, m, S2, s2, e2, RS.bind e2 h2 fun lo S3 lo' H3 ρ3 m3 s3 r3 e3 h3 => ?_⟩
  subst r3
  refine ⟨ρ3, m, S3, s3, e3, RS.bind e3 h3 fun hi S4 hi' H4 ρ4 m4 s4 r4 e4 h4 => ?_⟩
  subst r4
  split at h4
  · split at h4
    · rename_i n a c _ _ xs ys hx hy
      split at h4
      · rename_i hz
        obtain ⟨z0, z1, z2, z3, z4, z5⟩ := hz
        cases (r2.mo m3).mo m4 with
        | ref ea =>
          obtain ⟨us, hu, ra, hl⟩ := s4.lst ea hx
          have rd4 := ((r1.mo m2).mo m3).mo m4
          obtain ⟨b, ws, rfl, hb, rb⟩ := s4.lsE2 rd4 (notKl_of z0) hy
          have mo : Mo X.K H4 ρ4 (upd H4 _ (.lst (us.take a.toNat ++ ws ++ us.drop c.toNat))) ρ4 := .set hu trivial hl
          refine ⟨_, _, us, ws, a, c, rfl, rfl, rfl, rfl, hu, hb, fun z => z1 ?_, z2, z3, by rw [ra.length]; exact z4, by rw [ra.length, rb.length]; exact z5, h4 σ _ ρ4 mo (s4.set (mo := .lst (xs.take a.toNat ++ ys ++ xs.drop c.toNat)) ea hu trivial hl ⟨_, upd_same, ?_⟩) (e4.mo mo)⟩
          · subst z
            cases rd4 with
            | v rd4 =>
              cases rd4 with
              | lst hs _ => exact absurd hs.1 hl
              | kl _ _ => cases z0
              | _ => cases hy
            | ref eb => rw [nd_at s4.nd eb ea]
          · exact (((ra.take _).append rb).append (ra.drop _)).mo mo
      · exact h4.elim
    · exact h4.elim
  · exact h4.elim

/-! ### what is walked -/
def chars (x : Str) : List R := x.cps.toList.map fun c => .str ⟨#[c]⟩
def srcAny (f : ME) : MI := fun m S => (f m S).bind fun d S1 => match d with
  | .v (.tup ds) => .ok ⟨ds.map .v, []⟩ S1
  | .v (.kt ds) => .ok ⟨ds.map .v, []⟩ S1
  | .v (.lst ds) => .ok ⟨ds.map .v, []⟩ S1
  | .v (.kl ds) => .ok ⟨ds.map .v, []⟩ S1
  | .v (.str x) => .ok ⟨chars x, []⟩ S1
  | .ref n => match S1[n]? with
    | some (.lst ds) => .ok ⟨ds, [(n, .lst ds)]⟩ S1
    | some (.fz (.lst ds)) => .ok ⟨ds.map .v, []⟩ S1
    | _ => .no
  | _ => .no
theorem okSrc_kt {a : Addr} {xs : List V} {ds : List R} (hs : KT' K a xs) (ra : RqA K H ρ xs ds) : okSrc K ⟨ds, []⟩ H ρ (Itt K a) := by
  refine ⟨fun H => SqT K H a xs, YAt xs, by rw [show (⟨ds, []⟩ : Src).items.length = xs.length from ra.length.symm]; exact walk_tup, fun H2 ρ2 S2 mo _ _ => hs.sq, ?_⟩
  rintro i H2 x H3 ρ2 S2 hi mo sr pins ⟨rfl, y⟩
  obtain ⟨d, hd, rd⟩ := ra.get' y
  exact ⟨d, hd, .refl, sr, rd.mo mo⟩
theorem okSrc_tup {a : Addr} {xs : List V} {ds : List R} (hs : H a = some (.tup xs)) (ra : RqA K H ρ xs ds) : okSrc K ⟨ds, []⟩ H ρ (Itt K a) := by
  refine ⟨fun H => SqT K H a xs, YAt xs, by rw [show (⟨ds, []⟩ : Src).items.length = xs.length from ra.length.symm]; exact walk_tup, fun H2 ρ2 S2 mo _ _ => sqT_at (mo.tup _ _ hs), ?_⟩
  rintro i H2 x H3 ρ2 S2 hi mo s2 _ ⟨rfl, hx⟩
  obtain ⟨d, hd, r⟩ := ra.get' hx
  exact ⟨d, hd, .refl, s2, r.mo mo⟩
theorem okSrc_kl {a : Addr} {xs : List V} {ds : List R} (hs : ∀ H' ρ', Mo K H ρ H' ρ' → SqL K H' a xs) (ra : RqA K H ρ xs ds) : okSrc K ⟨ds, []⟩ H ρ (Itl K a) := by
  refine ⟨fun H => SqL K H a xs, YAt xs, by rw [show (⟨ds, []⟩ : Src).items.length = xs.length from ra.length.symm]; exact walk_list, fun H2 ρ2 S2 mo _ _ => hs _ _ mo, ?_⟩
  rintro i H2 x H3 ρ2 S2 hi mo s2 _ ⟨rfl, hx⟩
  obtain ⟨d, hd, r⟩ := ra.get' hx
  exact ⟨d, hd, .refl, s2, r.mo mo⟩
theorem okSrc_ls {a : Addr} {n : Nat} {o : MO} {ds : List R} (ea : ρ.r[n]? = some a) (ho : ∀ S : Store, S[n]? = some o → lsOf S n = some ds) : okSrc K ⟨ds, [(n, o)]⟩ H ρ (Itl K a) := by
  have w : Walk (Itl K a) ds.length (fun H => ∃ xs, SqL K H a xs ∧ xs.length = ds.length) (fun i H x H' => H' = H ∧ ∀ xs, SqL K H a xs → xs[i]? = some x) := by
    refine ⟨fun i H hi q => ?_, fun H q => ?_, fun _ _ _ _ _ _ y => y⟩
    · obtain ⟨xs, q, hl⟩ := q
      exact ⟨xs, xs[i]'(by omega), q, by simp [hl, hi]⟩
    · obtain ⟨xs, q, hl⟩ := q
      exact ⟨xs, q, by omega⟩
  refine ⟨_, _, w, fun H2 ρ2 S2 mo s2 pk => ?_, ?_⟩
  · obtain ⟨xs, q, r⟩ := s2.ls (mo.ref _ _ ea) (ho S2 pk.1)
    exact ⟨xs, q, r.length⟩
  · rintro i H2 x H3 ρ2 S2 hi mo s2 pk ⟨rfl, hx⟩
    obtain ⟨xs, q, r⟩ := s2.ls (mo.ref _ _ ea) (ho S2 pk.1)
    obtain ⟨d, hd, r'⟩ := r.get' (hx xs q)
    exact ⟨d, hd, .refl, s2, r'⟩
theorem okSrc_str {x : Str} : okSrc K ⟨chars x, []⟩ H ρ (Its x) := by
  have hl : (chars x).length = x.cps.size := by simp [chars]
  refine ⟨_, _, by rw [show (⟨chars x, []⟩ : Src).items.length = x.cps.size from hl]; exact walk_str, fun _ _ _ _ _ _ => trivial, ?_⟩
  rintro i H2 v H3 ρ2 S2 hi mo s2 _ ⟨rfl, c, hc, rfl⟩
  refine ⟨.str ⟨#[c]⟩, ?_, .refl, s2, .str _⟩
  show (x.cps.toList.map fun c => R.str ⟨#[c]⟩)[i]? = _
  rw [List.getElem?_map, Array.getElem?_toList, hc]
  rfl
theorem fzl_all {a : Addr} {xs : List V} (hs : FzL H ρ a xs) : ∀ H' ρ', Mo K H ρ H' ρ' → SqL K H' a xs := fun H' ρ' mo => (hs.mono mo).sq
theorem pim_any (he : PE X e (tE X.K E ma)) : PI X tgE e (tI X.K E (srcAny ma)) := by
  refine PI.imp (PI.or (pi_tup he) (PI.or (pi_list he) (pi_str he))) ?_
  rintro σ H R ⟨ρ, m, S, sr, er, h⟩
  unfold srcAny at h
  cases hm : ma m S with
  | no => rw [hm] at h; exact h.elim
  | exc c S1 =>
    rw [hm] at h
    refine .inl ⟨ρ, m, S, sr, er, ?_⟩
    rw [hm]
    exact h
  | ok d S1 =>
    rw [hm] at h
    cases d with
    | v d =>
      cases d with
      | tup ds =>
        refine .inl ⟨ρ, m, S, sr, er, ?_⟩
        rw [hm]
        intro v H1 ρ1 m1 s1 r1
        cases r1 with
        | v r1 =>
        cases r1 with
        | tup hs ra => exact ⟨_, rfl, ⟨_, sqT_at hs⟩, h _ H1 ρ1 m1 s1 (okSrc_tup hs ra.q)⟩
      | kt ds =>
        refine .inl ⟨ρ, m, S, sr, er, ?_⟩
        rw [hm]
        intro v H1 ρ1 m1 s1 r1
        cases r1 with
        | v r1 =>
        cases r1 with
        | kt hs ra => exact ⟨_, rfl, ⟨_, hs.sq⟩, h _ H1 ρ1 m1 s1 (okSrc_kt hs ra.q)⟩
      | kl ds =>
        refine .inr (.inl ⟨ρ, m, S, sr, er, ?_⟩)
        rw [hm]
        intro v H1 ρ1 m1 s1 r1
        cases r1 with
        | v r1 =>
        cases r1 with
        | kl hs ra => exact ⟨_, rfl, ⟨_, hs.sq⟩, h _ H1 ρ1 m1 s1 (okSrc_kl (fun H' ρ' mo => (mo.kl _ _ hs).sq) ra.q)⟩
      | lst ds =>
        refine .inr (.inl ⟨ρ, m, S, sr, er, ?_⟩)
        rw [hm]
        intro v H1 ρ1 m1 s1 r1
        cases r1 with
        | v r1 =>
        cases r1 with
        | lst hs ra => exact ⟨_, rfl, ⟨_, hs.sq⟩, h _ H1 ρ1 m1 s1 (okSrc_kl (fzl_all hs) ra.q)⟩
      | str x =>
        refine .inr (.inr ⟨ρ, m, S, sr, er, ?_⟩)
        rw [hm]
        intro v H1 ρ1 m1 s1 r1
        cases r1 with
        | v r1 =>
        cases r1
        exact ⟨_, rfl, h _ H1 ρ1 m1 s1 okSrc_str⟩
      | _ => exact h.elim
    | ref n =>
      refine .inr (.inl ⟨ρ, m, S, sr, er, ?_⟩)
      rw [hm]
      intro v H1 ρ1 m1 s1 r1
      cases r1 with
      | ref ea =>
        simp only [Out.bind_ok] at h
        split at h
        · rename_i it S' ho
          split at ho
          · rename_i ds hds
            cases ho
            obtain ⟨xs, q, r⟩ := s1.ls (ds := ds) ea (by unfold lsOf; rw [hds]; rfl)
            exact ⟨_, rfl, ⟨_, q⟩, h _ H1 ρ1 m1 s1 (okSrc_ls ea fun S hS => by unfold lsOf; rw [hS]; rfl)⟩
          · rename_i ds hds
            cases ho
            have q : Rp X.K H1 ρ1 (.ref _) (.lst ds) := s1.obj _ _ _ ea hds
            cases q with
            | lst hs ra => exact ⟨_, rfl, ⟨_, hs.sq⟩, h _ H1 ρ1 m1 s1 (okSrc_kl (fzl_all hs) ra.q)⟩
          · cases ho
        · rename_i ho
          split at ho <;> cases ho
        · exact h.elim
/-- lo, lo + 1, .. -/
def rangeD (lo : Int) (n : Nat) : List R := (List.range n).map fun (i : Nat) => .int (lo + (i : Int))
theorem okSrc_range {lo : Int} {n : Nat} : okSrc K ⟨rangeD lo n, []⟩ H ρ (Itr lo n) := by
  have hl : (rangeD lo n).length = n := by simp [rangeD]
  refine ⟨_, _, by rw [show (⟨rangeD lo n, []⟩ : Src).items.length = n from hl]; exact walk_range, fun _ _ _ _ _ _ => trivial, ?_⟩
  rintro i H2 v H3 ρ2 S2 hi mo s2 _ ⟨rfl, rfl⟩
  refine ⟨.int (lo + (i : Int)), ?_, .refl, s2, .int _⟩
  show ((List.range n).map fun (i : Nat) => R.int (lo + (i : Int)))[i]? = _
  rw [List.getElem?_map, List.getElem?_range (by rw [← hl]; exact hi)]
  rfl
/-- within 62 bits -/
@[irreducible] def rgOk (j : Int) : Bool := decide (-(2 ^ 62) ≤ j ∧ j < 2 ^ 62)
theorem rg_of {j : Int} (h0 : -(2 ^ 62) ≤ j) (h1 : j < 2 ^ 62) : rgOk j = true := by unfold rgOk; exact decide_eq_true ⟨h0, h1⟩
theorem of_rg {j : Int} (h : rgOk j = true) : -(2 ^ 62) ≤ j ∧ j < 2 ^ 62 := by unfold rgOk at h; exact of_decide_eq_true h
def rg1 (ds : List R) (S1 : Store) : Out Src := match ds with
  | [.v (.int j)] => if rgOk j = true then .ok ⟨rangeD 0 j.toNat, []⟩ S1 else .no
  | _ => .no
def srcRange1 (r : MA) : MI := fun m S => (r m S).bind rg1
def rg2 (ds : List R) (S1 : Store) : Out Src := match ds with
  | [.v (.int i), .v (.int j)] => if rgOk i = true ∧ rgOk j = true then .ok ⟨rangeD i (j - i).toNat, []⟩ S1 else .no
  | _ => .no
def srcRange2 (r : MA) : MI := fun m S => (r m S).bind rg2
/-- the source by the outcome of the arguments -/
theorem tI_of {f : MA} {g : List R → Store → Out Src} {σ : St} {R : It → Hp → Prop} {P : List V → Hp → Prop} (h : tI K E (fun m S => (f m S).bind g) σ H R)
    (k : ∀ ds S1 xs H1 ρ1, SR K H1 ρ1 S1 → RqA K H1 ρ1 xs ds → (match g ds S1 with
      | .ok it S' => ∀ J H' ρ', Mo K H1 ρ1 H' ρ' → SR K H' ρ' S' → okSrc K it H' ρ' J → R J H'
      | .exc c S' => RO K (fun _ _ (_ : Unit) (_ : Unit) => True) (E σ) H1 ρ1 (.exc c S' : Out Unit) fun _ _ => True
      | .no => False) → P xs H1) : tA K E f σ H P := by
  obtain ⟨ρ, m, S, sr, er, h⟩ := h
  refine ⟨ρ, m, S, sr, er, ?_⟩
  cases hm : f m S with
  | no => simp only [hm, Out.bind_no] at h
  | exc c S1 => simp only [hm, Out.bind_exc] at h; exact h
  | ok ds S1 =>
    simp only [hm, Out.bind_ok] at h
    intro xs H1 ρ1 m1 s1 r1
    refine k ds S1 xs H1 ρ1 s1 r1 ?_
    generalize g ds S1 = o at h ⊢
    cases o with
    | no => exact h
    | exc c S2 => exact fun dx H' ρ' mo s r => h dx H' ρ' (m1.trans mo) s r
    | ok it S2 => exact fun J H' ρ' mo s r => h J H' ρ' (m1.trans mo) s r
theorem pim_range1 {p : Pos} (hg : Gl X "range") (hm : X.mg "range" = none) (ha : PA X [a] (tA X.K E mr)) (hs : starEach [a] X.env = [(false, eval a X.env)] := by rfl) : PI X tgE (.Call (.Name "range" p) [a] [] pos) (tI X.K E (srcRange1 mr)) := by
  refine PI.imp (pi_range1 hg hm ha hs) ?_
  intro σ H R h
  refine tI_of h fun ds S1 xs H1 ρ1 s1 r1 h1 => ?_
  split at h1
  · rename_i it S' ho
    first | unfold rg1 at ho | unfold rg2 at ho
    split at ho
    · split at ho
      · rename_i hz
        cases ho
        obtain ⟨v, rfl, r2⟩ := r1.one
        cases r2 with
        | v r2 =>
        cases r2
        exact ⟨_, rfl, (of_rg hz).1, (of_rg hz).2, h1 _ H1 ρ1 .refl s1 okSrc_range⟩
      · cases ho
    · cases ho
  · rename_i ho
    first | unfold rg1 at ho | unfold rg2 at ho
    split at ho
    · split at ho <;> cases ho
    · cases ho
  · exact h1.elim
theorem pim_range2 {p : Pos} (hg : Gl X "range") (hm : X.mg "range" = none) (ha : PA X [a, b] (tA X.K E mr)) (hs : starEach [a, b] X.env = [(false, eval a X.env), (false, eval b X.env)] := by rfl) (hs2 : starEach [b] X.env = [(false, eval b X.env)] := by rfl) : PI X tgE (.Call (.Name "range" p) [a, b] [] pos) (tI X.K E (srcRange2 mr)) := by
  refine PI.imp (pi_range2 hg hm ha hs hs2) ?_
  intro σ H R h
  refine tI_of h fun ds S1 xs H1 ρ1 s1 r1 h1 => ?_
  split at h1
  · rename_i it S' ho
    first | unfold rg1 at ho | unfold rg2 at ho
    split at ho
    · split at ho
      · rename_i hz
        cases ho
        obtain ⟨v, w, rfl, r2, r3⟩ := r1.two
        cases r2 with
        | v r2 =>
        cases r3 with
        | v r3 =>
        cases r2
        cases r3
        exact ⟨_, _, rfl, ⟨(of_rg hz.1).1, (of_rg hz.1).2, (of_rg hz.2).1, (of_rg hz.2).2⟩, h1 _ H1 ρ1 .refl s1 okSrc_range⟩
      · cases ho
    · cases ho
  · rename_i ho
    first | unfold rg1 at ho | unfold rg2 at ho
    split at ho
    · split at ho <;> cases ho
    · cases ho
  · exact h1.elim
end
end M

/-! MTop: what the printed texts lean on. -/
namespace M
open PySem PySem.Spec L2
open PyProof.Rows hiding St
abbrev opLt := opCmpI fun i j => decide (i < j)
abbrev opLe := opCmpI fun i j => decide (i ≤ j)
abbrev opGt := opCmpI fun i j => decide (j < i)
abbrev opGe := opCmpI fun i j => decide (j ≤ i)
def mSet2 (f o1 i1 o2 i2 : ME) : MS := fun m S => (f m S).thenS m fun d S1 => match d with
  | .v (.tup [a, b]) => (o1 m S1).thenS m fun x S2 => (i1 m S2).thenS m fun y S3 => match setIx x y (.v a) S3 with
    | some S4 => (o2 m S4).thenS m fun x2 S5 => (i2 m S5).thenS m fun y2 S6 => match setIx x2 y2 (.v b) S6 with
      | some S7 => .nx m S7
      | none => .no
    | none => .no
  | _ => .no
section
variable {X : Cx} {E : St → XK} {e p1 q1 p2 q2 : Expr} {pos P1 P2 tp : Pos} {tk : Nat} {ma mp1 mq1 mp2 mq2 : ME}
theorem psm_set2 (hc : X.calm = true) (he : PE X e (tE X.K E ma)) (h1 : PE X p1 (tE X.K E mp1)) (h2 : PE X q1 (tE X.K E mq1)) (h3 : PE X p2 (tE X.K E mp2)) (h4 : PE X q2 (tE X.K E mq2))
    (hs : swapsWithSole [.Tuple [.Subscript p1 q1 P1, .Subscript p2 q2 P2] tk tp] e pos.line X.env = pure false := by rfl) (hw : swappedStores [.Tuple [.Subscript p1 q1 P1, .Subscript p2 q2 P2] tk tp] e X.env = pure none := by rfl)
    (h0 : (assignEach [.Tuple [.Subscript p1 q1 P1, .Subscript p2 q2 P2] tk tp] X.env).map (·.2) = [assign (.Tuple [.Subscript p1 q1 P1, .Subscript p2 q2 P2] tk tp) X.env] := by rfl)
    (a1 : ∀ v, assign (.Subscript p1 q1 P1) X.env v = (do
      let ov ← holding [v] (eval p1 X.env)
      let iv ← holding [v, ov] (eval q1 X.env)
      standAt P1
      holding [v, ov, iv] (setItem ov iv v)
      release [v, ov, iv] []) := by intro _; rfl)
    (a2 : ∀ v, assign (.Subscript p2 q2 P2) X.env v = (do
      let ov ← holding [v] (eval p2 X.env)
      let iv ← holding [v, ov] (eval q2 X.env)
      standAt P2
      holding [v, ov, iv] (setItem ov iv v)
      release [v, ov, iv] []) := by intro _; rfl)
    (b1 : (assignEach [.Subscript p1 q1 P1, .Subscript p2 q2 P2] X.env).map (·.2) = assign (.Subscript p1 q1 P1) X.env :: (assignEach [.Subscript p2 q2 P2] X.env).map (·.2) := by rfl)
    (b2 : (assignEach [.Subscript p2 q2 P2] X.env).map (·.2) = assign (.Subscript p2 q2 P2) X.env :: (assignEach [] X.env).map (·.2) := by rfl)
    (b3 : (assignEach [.Subscript p1 q1 P1, .Subscript p2 q2 P2] X.env).length = 2 := by rfl) (b4 : (assignEach [.Subscript p1 q1 P1, .Subscript p2 q2 P2] X.env).findIdx? (·.1) = none := by rfl) :
    PS X (.Assign [.Tuple [.Subscript p1 q1 P1, .Subscript p2 q2 P2] tk tp] e pos) (tS X.K E (mSet2 ma mp1 mq1 mp2 mq2)) := by
  refine PS.imp (ps_asg he (pg_tup hc (pgs_cons (pg_sub h1 h2 set_list a1) (pgs_cons (pg_sub h3 h4 set_list a2) pgs_nil b2) b1) b3 b4) hs hw h0) ?_
  rintro D σ H ⟨ρ, m, S, sr, er, h⟩
  refine ⟨ρ, m, S, sr, er, RS.bind er h fun d S1 v H1 ρ1 m1 s1 r1 e1 h1 => ?_⟩
  split at h1
  · rename_i a b
    cases r1 with
    | v r1 =>
    cases r1 with
    | tup hs ra =>
      obtain ⟨va, vb, rfl, ra1, ra2⟩ := ra.two
      refine ⟨_, _, rfl, sqT_at hs, rfl, va, [vb], rfl, ?_⟩
      refine ⟨ρ1, m, S1, s1, e1, RS.bind e1 h1 fun x S2 xv H2 ρ2 m2 s2 r2 e2 h2 => ?_⟩
      refine ⟨ρ2, m, S2, s2, e2, RS.bind e2 h2 fun y S3 yv H3 ρ3 m3 s3 r3 e3 h3 => ?_⟩
      split at h3
      · rename_i S4 hS4
        refine setIx_ok s3 (r2.mo m3) r3 (.v ((ra1.mo m2).mo m3)) hS4 fun H4 m4 s4 => ?_
        refine ⟨vb, [], rfl, ?_⟩
        refine ⟨ρ3, m, S4, s4, e3.mo m4, RS.bind (e3.mo m4) (RS.mono h3 m4) fun x2 S5 xv2 H5 ρ5 m5 s5 r5 e5 h5 => ?_⟩
        refine ⟨ρ5, m, S5, s5, e5, RS.bind e5 h5 fun y2 S6 yv2 H6 ρ6 m6 s6 r6 e6 h6 => ?_⟩
        split at h6
        · rename_i S7 hS7
          refine setIx_ok s6 (r5.mo m6) r6 (.v (((((ra2.mo m2).mo m3).mo m4).mo m5).mo m6)) hS7 fun H7 m7 s7 => ?_
          exact ⟨rfl, h6 σ H7 ρ6 m7 s7 (e6.mo m7)⟩
        · exact h6.elim
      · exact h3.elim
  · exact h1.elim
end
/-- so many arguments -/
def ArgN (n : Nat) (r : MA) : Prop := ∀ m S ds S', r m S = .ok ds S' → ds.length = n
theorem an_nil : ArgN 0 mNil := by
  intro m S ds S' h
  cases h; rfl
theorem an_cons {n : Nat} {a : ME} {r : MA} (h : ArgN n r) : ArgN (n + 1) (mCons a r) := by
  intro m S ds S' e
  unfold mCons at e
  cases h1 : a m S with
  | no => rw [h1] at e; cases e
  | exc c S1 => rw [h1] at e; cases e
  | ok d S1 =>
    rw [h1] at e
    simp only [Out.bind_ok] at e
    cases h2 : r m S1 with
    | no => rw [h2] at e; cases e
    | exc c S2 => rw [h2] at e; cases e
    | ok es S2 =>
      rw [h2] at e
      cases e
      exact congrArg (· + 1) (h m S1 es _ h2)
section
variable {P : Program} {w : World} {K : PySem.W.Frag} {mg : Str → Option Value} {base : Heap}
theorem FnOk.none {CX : CXT} {j n : Nat} {f : Addr} {fd : FuncData} {ps : List Str} (hn : ps.length = n) : FnOk P w K mg base CX j f fd ps (spM K n fun _ _ => .no) :=
  ⟨fun vs H Q E h => h.1.trans hn.symm, fun A outer s H args us vs Q E _ _ _ _ h => by
    obtain ⟨_, ρ, S, ds, _, _, h⟩ := h
    exact h.elim⟩
/-- the law's promise, from what its mirror answers -/
theorem law_sp {g : List R → Store → Out R} {H : Hp} {a : Addr} {ns : List Int} (hO : Only H) (hS : SqL K H a (ns.map V.int)) (h : ∃ S', g [.v (.kl (ns.map D.int))] [] = .ok (.bl true) S') : spM K 1 g [.ref a] H (fun v _ => v = .bl true) fun _ _ _ => False := by
  obtain ⟨S', h⟩ := h
  refine ⟨rfl, ⟨[], fun _ => False⟩, [], [.v (.kl (ns.map D.int))], ⟨List.nodup_nil, rfl, fun n a o e => by simp at e, fun n a o e => by simp at e, fun a h => h.elim, fun n a e => by simp at e⟩, .cons (.v (.kl ?_ RpA.ints)) .nil, ?_⟩
  · rcases hS with (hS | ⟨o, hS⟩) | hS
    · rcases hO a with z | ⟨o, xs, z⟩
      · rw [hS] at z; cases z
      · rw [hS] at z; cases z
    · exact .inl ⟨o, hS⟩
    · exact .inr hS
  · rw [h]
    intro v H' ρ' _ _ r
    cases r with
    | v r => cases r; rfl
end
/-! ### defs whose answer is by value -/
noncomputable def mDefV (N : Nat) (f : MS) : List R → Store → Out R := fun ds S => (mDef N f ds S).bind (popV S)
section
variable {P : Program} {w : World} {K : PySem.W.Frag} {mg : Str → Option Value} {base : Heap}
theorem FnOk.pop {CX : CXT} {k n : Nat} {f : Addr} {fd : FuncData} {ps : List Str} {g : List R → Store → Out R} (F : FnOk P w K mg base CX k f fd ps (spM K n g)) : FnOk P w K mg base CX k f fd ps (spM K n fun ds S => (g ds S).bind (popV S)) :=
  F.imp fun vs H Q E h => by
    obtain ⟨hl, ρ, S, ds, sr, r, h⟩ := h
    exact ⟨hl, ρ, S, ds, sr, r, RO.pop sr h⟩
theorem okMV {x qual : Str} {st : Stmt} {f : Addr} {fd : FuncData} {N ps : List Str} {k n : Nat} {g : MS} (F : Fun K x qual st f fd) (S : FnScope N ps (defScope st)) (hn : ps.length = n)
    (h : ∀ (cdv : Value) (A : Around) (outer : List PySem.Env) (s : Shared) (H : Hp) (E : XK), Room k (A.deeper (envOfC qual (defScope st) s.heap.objs.size f cdv)) → PSs (cxOf CX0 P w K mg base N qual (defScope st) f cdv A outer s H E).nox (defBody st) (tS K E0' g)) :
    FnOk P w K mg base CX0 (k + 1) f fd ps (spM K n (mDefV N.length g)) := FnOk.pop (okM F S hn h)
end
/-- y = [..] by value -/
noncomputable def mSetP (i : Nat) (f : ME) : MS := fun m S => if i < m.length then mSet i (mPop f) m S else .no
theorem psm_pop {X : Cx} {E : St → XK} {st : Stmt} {i : Nat} {f : ME} (h : PS X st (tS X.K E (mSet i f))) : PS X st (tS X.K E (mSetP i f)) := by
  refine PS.imp h ?_
  rintro D σ H ⟨ρ, m, S, sr, er, h⟩
  refine ⟨ρ, m, S, sr, er, ?_⟩
  unfold mSetP at h
  split at h
  case isFalse => exact h.elim
  rename_i hi
  have h : RS X.K E H ρ (((f m S).bind fun r S' => popV S r S').thenS m fun d S1 => .nx (m.set i (some d)) S1) D := h
  show RS X.K E H ρ ((f m S).thenS m fun d S1 => .nx (m.set i (some d)) S1) D
  generalize f m S = o at h ⊢
  cases o with
  | no => exact h
  | exc c S1 => exact h
  | ok d S1 =>
    intro σ' H' ρ' mo s e
    have h : RS X.K E H ρ ((popV S d S1).thenS m fun d S1 => .nx (m.set i (some d)) S1) D := h
    unfold popV at h
    split at h
    · rename_i p hp
      obtain ⟨v, e1, e2⟩ := e.get i d (by rw [List.getElem?_set_self hi])
      obtain ⟨z', s1, m1, r1⟩ := frz_ok 8 S1 _ p.1 p.2 ρ' v hp s e2
      obtain ⟨r', s2, m2⟩ := sr.cut (mo.trans m1) s1
      refine h σ' H' _ m2 s2 ⟨by rw [List.length_set]; have := e.len; rwa [List.length_set] at this, fun j d' hj => ?_⟩
      by_cases hij : i = j
      · subst hij
        rw [List.getElem?_set_self hi] at hj
        cases hj
        exact ⟨v, e1, .v (Rp.zz _ _ r1)⟩
      · rw [List.getElem?_set_ne hij] at hj
        have e3 : (m.set i (some d))[j]? = some (some d') := by rw [List.getElem?_set_ne hij]; exact hj
        obtain ⟨v', e4, e5⟩ := e.get j d' e3
        obtain ⟨v0, e6, e7⟩ := er.get j d' hj
        refine ⟨v', e4, ?_⟩
        cases d' with
        | v d' =>
          cases e5 with
          | v e5 => exact .v (Rp.zz _ _ (e5.mo m1))
        | ref n =>
          cases e5 with
          | ref ea =>
            cases e7 with
            | ref eb =>
              have := m2.ref n _ eb
              have q := mo.ref n _ eb
              rw [ea] at q
              cases q
              exact .ref this
    · exact h.elim
theorem bb_len : bootBuiltins "len" = some (.builtin "len") := by decide +kernel
theorem bb_abs : bootBuiltins "abs" = some (.builtin "abs") := by decide +kernel
theorem bb_isinstance : bootBuiltins "isinstance" = some (.builtin "isinstance") := by decide +kernel
theorem bb_all : bootBuiltins "all" = some (.builtin "all") := by decide +kernel
theorem bb_any : bootBuiltins "any" = some (.builtin "any") := by decide +kernel
theorem bb_sum : bootBuiltins "sum" = some (.builtin "sum") := by decide +kernel
theorem bb_min : bootBuiltins "min" = some (.builtin "min") := by decide +kernel
theorem bb_max : bootBuiltins "max" = some (.builtin "max") := by decide +kernel
theorem bb_sorted : bootBuiltins "sorted" = some (.builtin "sorted") := by decide +kernel
theorem bb_repr : bootBuiltins "repr" = some (.builtin "repr") := by decide +kernel
theorem bb_int : bootBuiltins "int" = some (.type "int") := by decide +kernel
theorem bb_list : bootBuiltins "list" = some (.type "list") := by decide +kernel
theorem bb_tuple : bootBuiltins "tuple" = some (.type "tuple") := by decide +kernel
theorem bb_str : bootBuiltins "str" = some (.type "str") := by decide +kernel
theorem bb_bool : bootBuiltins "bool" = some (.type "bool") := by decide +kernel
theorem bb_dict : bootBuiltins "dict" = some (.type "dict") := by decide +kernel
theorem bb_set : bootBuiltins "set" = some (.type "set") := by decide +kernel
end M

/-! MMath: running mirrors. -/
namespace M
open PySem hiding Env
open L2
section
variable {a b c : ME} {f g : MS} {t u : MT} {r : MA} {m m' : Env} {S S' S1 S2 : Store} {d e : R}
/-! ### one step each, by rewriting -/
@[simp] theorem onBl_bl {α : Type} (k : Bool) (f : Bool → Out α) : onBl (.v (.bl k)) f = f k := id rfl
@[simp] theorem mFor_eq (src : MI) (tg : TgM) (body : MS) : mFor src tg body m S = (src m S).thenS m fun it S1 => mForGo it.pins tg body it.items m S1 := id rfl
@[simp] theorem srcRange1_eq : srcRange1 r m S = (r m S).bind rg1 := id rfl
@[simp] theorem srcRange2_eq : srcRange2 r m S = (r m S).bind rg2 := id rfl
theorem rg1_int {j : Int} (h0 : 0 ≤ j) (h1 : j < 2 ^ 62) : rg1 [.v (.int j)] S = .ok ⟨rangeD 0 j.toNat, []⟩ S := if_pos (rg_of (by omega) h1)
theorem rg2_int {i j : Int} (h0 : -(2 ^ 62) ≤ i ∧ i < 2 ^ 62) (h1 : -(2 ^ 62) ≤ j ∧ j < 2 ^ 62) : rg2 [.v (.int i), .v (.int j)] S = .ok ⟨rangeD i (j - i).toNat, []⟩ S := if_pos ⟨rg_of h0.1 h0.2, rg_of h1.1 h1.2⟩
theorem srcAny_eq : srcAny a m S = (a m S).bind fun d S1 => match d with
  | .v (.tup ds) => .ok ⟨ds.map .v, []⟩ S1
  | .v (.kt ds) => .ok ⟨ds.map .v, []⟩ S1
  | .v (.lst ds) => .ok ⟨ds.map .v, []⟩ S1
  | .v (.kl ds) => .ok ⟨ds.map .v, []⟩ S1
  | .v (.str x) => .ok ⟨chars x, []⟩ S1
  | .ref n => match S1[n]? with
    | some (.lst ds) => .ok ⟨ds, [(n, .lst ds)]⟩ S1
    | some (.fz (.lst ds)) => .ok ⟨ds.map .v, []⟩ S1
    | _ => .no
  | _ => .no := id rfl
@[simp] theorem onII_int {α : Type} (i j : Int) (f : Int → Int → Out α) : onII (.v (.int i)) (.v (.int j)) f = f i j := id rfl
@[simp] theorem mVar_eq (i : Nat) : mVar i m S = match m[i]? with | some (some d) => .ok d S | _ => .no := id rfl
@[simp] theorem mC_eq : mC d m S = .ok d S := id rfl
@[simp] theorem mBin_eq (op : R → R → Store → Out R) : mBin op a b m S = (a m S).bind fun x S1 => (b m S1).bind fun y S2 => op x y S2 := id rfl
@[simp] theorem mUn_eq (op : R → Store → Out R) : mUn op a m S = (a m S).bind fun x S1 => op x S1 := id rfl
@[simp] theorem mNil_eq : mNil m S = .ok [] S := id rfl
@[simp] theorem mCons_eq : mCons a r m S = (a m S).bind fun d S1 => (r m S1).bind fun ds S2 => .ok (d :: ds) S2 := id rfl
@[simp] theorem mCall_eq (F : List R → Store → Out R) : mCall F r m S = (r m S).bind F := id rfl
@[simp] theorem mTup_eq : mTup r m S = (r m S).bind fun rs S1 => frzO S1 rs fun ds S2 => if ds.length ≤ sizeLine then .ok (.v (.tup ds)) S2 else .no := id rfl
@[simp] theorem mLst_eq : mLst r m S = (r m S).bind fun ds S1 => if ds.length ≤ sizeLine then .ok (.ref S1.length) (S1 ++ [.lst ds]) else .no := id rfl
@[simp] theorem mLstV_eq : mLstV r m S = (r m S).bind fun rs S1 => frzO S1 rs fun ds S2 => if ds.length ≤ sizeLine then .ok (.v (.lst ds)) S2 else .no := id rfl
@[simp] theorem mIf_eq : mIf t a b m S = (t m S).bind fun k S1 => match k with | true => a m S1 | false => b m S1 := id rfl
@[simp] theorem mAnd_eq : mAnd a b m S = (a m S).bind fun k S1 => onBl k fun k => match k with | true => b m S1 | false => .ok (.v (.bl false)) S1 := id rfl
@[simp] theorem mOr_eq : mOr a b m S = (a m S).bind fun k S1 => onBl k fun k => match k with | true => .ok (.v (.bl true)) S1 | false => b m S1 := id rfl
@[simp] theorem mNot_eq : mNot a m S = (a m S).bind fun k S1 => onBl k fun k => .ok (.v (.bl (!k))) S1 := id rfl
@[simp] theorem mtB_eq : mtB a m S = (a m S).bind fun d S1 => onBl d fun k => .ok k S1 := id rfl
@[simp] theorem mtTru_eq : mtTru a m S = (a m S).bind truM := id rfl
@[simp] theorem mtAnd_eq : mtAnd t u m S = (t m S).bind fun k S1 => match k with | true => u m S1 | false => .ok false S1 := id rfl
@[simp] theorem mtOr_eq : mtOr t u m S = (t m S).bind fun k S1 => match k with | true => .ok true S1 | false => u m S1 := id rfl
@[simp] theorem mtNot_eq : mtNot t m S = (t m S).bind fun k S1 => .ok (!k) S1 := id rfl
@[simp] theorem mtYes_eq : mtYes m S = .ok true S := id rfl
@[simp] theorem mMeth_eq (T : String) (F : R → List R → Store → Out R) : mMeth T F a r m S = (a m S).bind fun d S1 => if tyOk T S1 d = true then (r m S1).bind fun ds S2 => F d ds S2 else .no := id rfl
@[simp] theorem mMeth0_eq (T : String) (F : R → List R → Store → Out R) : mMeth0 T F a m S = (a m S).bind fun d S1 => if tyOk T S1 d = true then F d [] S1 else .no := id rfl
@[simp] theorem mSl_eq (l h : MO_) : mSl a l h m S = (a m S).bind fun d S1 => (l m S1).bind fun lo S2 => (h m S2).bind fun hi S3 => opSl d lo hi S3 := id rfl
@[simp] theorem moN_eq : moN m S = .ok none S := id rfl
theorem moS_eq : moS a m S = (a m S).bind fun d S1 => match d with | .v (.int i) => .ok (some i) S1 | _ => .no := id rfl
@[simp] theorem moS_int {i : Int} (h : a m S = .ok (.v (.int i)) S1) : moS a m S = .ok (some i) S1 := by rw [moS_eq, h]; rfl
@[simp] theorem mChain_eq (p q : R → R → Store → Out R) : mChain p q a b c m S = (a m S).bind fun x S1 => (b m S1).bind fun y S2 => (p x y S2).bind fun z S3 => onBl z fun k => match k with
  | true => (c m S3).bind fun w S4 => q y w S4
  | false => .ok (.v (.bl false)) S3 := id rfl
@[simp] theorem mPop_eq : mPop a m S = (a m S).bind fun r S' => popV S r S' := id rfl
@[simp] theorem thenS_ok {α : Type} (x : α) (F : α → Store → OutS) : (Out.ok x S).thenS m F = F x S := id rfl
@[simp] theorem mSkip_eq : mSkip m S = .nx m S := id rfl
@[simp] theorem mSeq_eq : mSeq f g m S = match f m S with | .nx m' S' => g m' S' | o => o := id rfl
@[simp] theorem mBrk_eq : mBrk m S = .bk m S := id rfl
@[simp] theorem mCnt_eq : mCnt m S = .ct m S := id rfl
@[simp] theorem mDrop_eq : mDrop a m S = (a m S).thenS m fun _ S1 => .nx m S1 := id rfl
@[simp] theorem mRet_eq : mRet a m S = (a m S).thenS m fun d S1 => .rt d S1 := id rfl
@[simp] theorem mRetN_eq : mRetN m S = .rt (.v .non) S := id rfl
@[simp] theorem mIfS_eq : mIfS t f g m S = (t m S).thenS m fun k S1 => match k with | true => f m S1 | false => g m S1 := id rfl
@[simp] theorem mSet_eq (i : Nat) : mSet i a m S = (a m S).thenS m fun d S1 => .nx (m.set i (some d)) S1 := id rfl
theorem mSetP_eq (i : Nat) : mSetP i a m S = if i < m.length then mSet i (mPop a) m S else .no := id rfl
@[simp] theorem mSetP_lt (i : Nat) (h : i < m.length) : mSetP i a m S = mSet i (mPop a) m S := if_pos h
@[simp] theorem mPar_eq (i j : Nat) : mPar i j a b m S = (a m S).thenS m fun x S1 => (b m S1).thenS m fun y S2 => .nx ((m.set i (some x)).set j (some y)) S2 := id rfl
@[simp] theorem mAug_eq (i : Nat) (op : R → R → Store → Out R) : mAug i op a m S = (mVar i m S).thenS m fun x S0 => (a m S0).thenS m fun y S1 => (op x y S1).thenS m fun z S2 => .nx (m.set i (some z)) S2 := id rfl
@[simp] theorem mAsg_eq (t : TgM) : mAsg t a m S = (a m S).thenS m fun d S1 => match t d m with | some m' => .nx m' S1 | none => .no := id rfl
@[simp] theorem tgN_eq (i : Nat) : tgN i d m = some (m.set i (some d)) := id rfl
@[simp] theorem tgT_tup (ts : List TgM) (ds : List D) : tgT ts (.v (.tup ds)) m = bindAll ts (ds.map .v) m := id rfl
@[simp] theorem bindAll_nil : bindAll [] [] m = some m := id rfl
@[simp] theorem bindAll_cons (t : TgM) (ts : List TgM) (ds : List R) : bindAll (t :: ts) (d :: ds) m = (t d m).bind fun m' => bindAll ts ds m' := id rfl
@[simp] theorem mSetIx_eq : mSetIx a b c m S = (a m S).thenS m fun d S1 => (b m S1).thenS m fun x S2 => (c m S2).thenS m fun y S3 => match setIx x y d S3 with
  | some S4 => .nx m S4
  | none => .no := id rfl
/-! ### the end of a def -/
theorem mDef_rt {N : Nat} {f : MS} {ds : List R} {S S' : Store} {d : R} (h : f (ds.map some ++ List.replicate (N - ds.length) none) S = .rt d S') : mDef N f ds S = .ok d S' := by
  unfold mDef; rw [h]
theorem mDef_nx {N : Nat} {f : MS} {ds : List R} {m : Env} {S S' : Store} (h : f (ds.map some ++ List.replicate (N - ds.length) none) S = .nx m S') : mDef N f ds S = .ok (.v .non) S' := by
  unfold mDef; rw [h]
@[simp] theorem popV_v (S S' : Store) (d : D) : popV S (.v d) S' = .ok (.v d) (cut S S') := by unfold popV; rw [frz_v]
theorem popV_ref {S S' : Store} {n : Nat} {ds : List D} (h : S'[n]? = some (.lst (ds.map .v))) : popV S (.ref n) S' = .ok (.v (.lst ds)) (cut S (S'.set n (.fz (.lst ds)))) := by unfold popV; rw [frz_ref h]
@[simp] theorem cut_self' (S : Store) : cut S S = S := cut_self S
@[simp] theorem cut_app' (S t : Store) : cut S (S ++ t) = S := cut_app t (.refl S)
theorem set_len (S : Store) (c x : MO) (cs : Store) : (S ++ c :: cs).set S.length x = S ++ x :: cs := by
  rw [List.set_append_right _ _ (Nat.le_refl _), Nat.sub_self]; rfl
theorem get_len (S : Store) (c : MO) (cs : Store) : (S ++ c :: cs)[S.length]? = some c := by
  rw [List.getElem?_append_right (Nat.le_refl _), Nat.sub_self]; rfl
/-- a new list, by value -/
theorem popV_new (S : Store) (ds : List D) : popV S (.ref S.length) (S ++ [.lst (ds.map .v)]) = .ok (.v (.lst ds)) S := by
  rw [popV_ref (get_len S _ [])]
  rw [set_len, cut_app']
theorem popV_newU {S T : Store} (ds : List D) (hu : Upd S T) : popV S (.ref T.length) (T ++ [.lst (ds.map .v)]) = .ok (.v (.lst ds)) T := by
  rw [popV_ref (get_len T _ [])]
  rw [set_len, cut_app _ hu]
theorem mDefV_rt {N : Nat} {f : MS} {ds : List R} {S S' : Store} {d : R} {o : Out R} (h : f (ds.map some ++ List.replicate (N - ds.length) none) S = .rt d S') (h2 : popV S d S' = o) : mDefV N f ds S = o := by
  unfold mDefV; rw [mDef_rt h]; exact h2
theorem mDefV_rt0 {N : Nat} {f : MS} {ds : List R} {S : Store} {d : D} (h : f (ds.map some ++ List.replicate (N - ds.length) none) S = .rt (.v d) S) : mDefV N f ds S = .ok (.v d) S :=
  mDefV_rt h (by rw [popV_v, cut_self])
theorem mDefV_rtG {N : Nat} {f : MS} {ds : List R} {S T : Store} {d : D} (t : Store) (h : f (ds.map some ++ List.replicate (N - ds.length) none) S = .rt (.v d) (T ++ t)) (hu : Upd S T) : mDefV N f ds S = .ok (.v d) T :=
  mDefV_rt h (by rw [popV_v, cut_app t hu])
theorem mDefV_rtL {N : Nat} {f : MS} {ds : List R} {S T : Store} {n : Nat} {xs : List D} (t : Store) (h : f (ds.map some ++ List.replicate (N - ds.length) none) S = .rt (.ref n) (T ++ t)) (hn : (T ++ t)[n]? = some (.lst (xs.map .v))) (hT : T.length ≤ n) (hu : Upd S T) : mDefV N f ds S = .ok (.v (.lst xs)) T :=
  mDefV_rt h (by
    rw [popV_ref hn, List.set_append_right _ _ hT, cut_app _ hu])
theorem mDefV_nxG {N : Nat} {f : MS} {ds : List R} {m : Env} {S T : Store} (t : Store) (h : f (ds.map some ++ List.replicate (N - ds.length) none) S = .nx m (T ++ t)) (hu : Upd S T) : mDefV N f ds S = .ok (.v .non) T := by
  unfold mDefV; rw [mDef_nx h]; rw [Out.bind_ok, popV_v, cut_app t hu]
theorem mDefV_nx0 {N : Nat} {f : MS} {ds : List R} {m : Env} {S T : Store} (h : f (ds.map some ++ List.replicate (N - ds.length) none) S = .nx m T) (hu : Upd S T) : mDefV N f ds S = .ok (.v .non) T := by
  unfold mDefV; rw [mDef_nx h]; rw [Out.bind_ok, popV_v, cut_upd hu]
theorem mDefV_rtU {N : Nat} {f : MS} {ds : List R} {S T : Store} {d : D} (h : f (ds.map some ++ List.replicate (N - ds.length) none) S = .rt (.v d) T) (hu : Upd S T) : mDefV N f ds S = .ok (.v d) T :=
  mDefV_rt h (by rw [popV_v, cut_upd hu])
theorem mSeq_nx {f g : MS} {m m' : Env} {S S' : Store} (h : f m S = .nx m' S') : mSeq f g m S = g m' S' := by rw [mSeq_eq, h]
theorem mSeq_rt {f g : MS} {m : Env} {S S' : Store} {d : R} (h : f m S = .rt d S') : mSeq f g m S = .rt d S' := by rw [mSeq_eq, h]
end
/-! ### cells -/
section
variable {S : Store} {n : Nat} {o x y : MO}
theorem lt_of_get (h : S[n]? = some o) : n < S.length := (List.getElem?_eq_some_iff.mp h).1
theorem get_old (h : S[n]? = some o) (cs : Store) : (S ++ cs)[n]? = some o := by rw [List.getElem?_append_left (lt_of_get h), h]
theorem set_old (h : S[n]? = some o) (cs : Store) (x : MO) : (S ++ cs).set n x = S.set n x ++ cs := by rw [List.set_append_left _ _ (lt_of_get h)]
theorem get_garb {S T g : Store} {w : Nat} (hw : S.length ≤ w) (hl : T.length = S.length) : (T ++ g)[w]? = (S ++ g)[w]? := by
  rw [List.getElem?_append_right hw, List.getElem?_append_right (by omega), hl]
theorem get_ne {S : Store} {n w : Nat} (h : n ≠ w) (c : MO) : (S.set n c)[w]? = S[w]? := List.getElem?_set_ne h
theorem get_set (h : S[n]? = some o) (x : MO) : (S.set n x)[n]? = some x := by rw [List.getElem?_set_self (lt_of_get h)]
@[simp] theorem get_at0 (c : MO) (cs : Store) : (S ++ c :: cs)[S.length]? = some c := get_len S c cs
@[simp] theorem set_at0 (c x : MO) (cs : Store) : (S ++ c :: cs).set S.length x = S ++ x :: cs := set_len S c x cs
@[simp] theorem get_at1 (b c : MO) (cs : Store) : (S ++ b :: c :: cs)[S.length + 1]? = some c := by
  rw [List.getElem?_append_right (by omega), Nat.add_sub_cancel_left]; rfl
@[simp] theorem set_at1 (b c x : MO) (cs : Store) : (S ++ b :: c :: cs).set (S.length + 1) x = S ++ b :: x :: cs := by
  rw [List.set_append_right _ _ (by omega), Nat.add_sub_cancel_left]; rfl
@[simp] theorem get_at2 (a b c : MO) (cs : Store) : (S ++ a :: b :: c :: cs)[S.length + 2]? = some c := by
  rw [List.getElem?_append_right (by omega), Nat.add_sub_cancel_left]; rfl
@[simp] theorem set_at2 (a b c x : MO) (cs : Store) : (S ++ a :: b :: c :: cs).set (S.length + 2) x = S ++ a :: b :: x :: cs := by
  rw [List.set_append_right _ _ (by omega), Nat.add_sub_cancel_left]; rfl
@[simp] theorem get_at3 (z a b c : MO) (cs : Store) : (S ++ z :: a :: b :: c :: cs)[S.length + 3]? = some c := by
  rw [List.getElem?_append_right (by omega), Nat.add_sub_cancel_left]; rfl
@[simp] theorem set_at3 (z a b c x : MO) (cs : Store) : (S ++ z :: a :: b :: c :: cs).set (S.length + 3) x = S ++ z :: a :: b :: x :: cs := by
  rw [List.set_append_right _ _ (by omega), Nat.add_sub_cancel_left]; rfl
@[simp] theorem set_get (h : S[n]? = some o) : S.set n o = S := by
  obtain ⟨hl, e⟩ := List.getElem?_eq_some_iff.mp h
  rw [← e]
  exact List.set_getElem_self hl
@[simp] theorem upd_refl : Upd S S ↔ True := ⟨fun _ => trivial, fun _ => .refl S⟩
theorem lo_lst (ds : List D) (k : Nat) : (MO.lst (ds.map .v)).lo k := by
  intro r hr
  obtain ⟨d, _, rfl⟩ := List.mem_map.mp hr
  trivial
theorem upd_set (n : Nat) {c : MO} (hc : c.lo S.length) : Upd S (S.set n c) := (Upd.refl S).set hc
end
/-! ### operators on known kinds -/
section
variable {S : Store}
@[simp] theorem view_v' (d : D) : view S (.v d) = some d := view_v S d
@[simp] theorem opAdd_int (i j : Int) : opAdd (.v (.int i)) (.v (.int j)) S = .ok (.v (.int (i + j))) S := id rfl
theorem opAdd_str {x y : Str} (h : x.length + y.length ≤ sizeLine) : opAdd (.v (.str x)) (.v (.str y)) S = .ok (.v (.str (x ++ y))) S := if_pos h
theorem opAdd_tup {x y : List D} (h : x.length + y.length ≤ sizeLine) : opAdd (.v (.tup x)) (.v (.tup y)) S = .ok (.v (.tup (x ++ y))) S := if_pos h
theorem opAdd_lst {x y : List D} (h : x.length + y.length ≤ sizeLine) : opAdd (.v (.lst x)) (.v (.lst y)) S = .ok (.ref S.length) (S ++ [.lst (x.map .v ++ y.map .v)]) := if_pos h
theorem opAdd_refs {n k : Nat} {x y : List R} (h1 : lsOf S n = some x) (h2 : lsOf S k = some y) (h : x.length + y.length ≤ sizeLine) : opAdd (.ref n) (.ref k) S = .ok (.ref S.length) (S ++ [.lst (x ++ y)]) := by
  unfold opAdd; simp only [h1, h2, if_pos h]
/-- list + list, by value -/
theorem popAdd {x y : List D} (h : x.length + y.length ≤ sizeLine) : (opAdd (.v (.lst x)) (.v (.lst y)) S).bind (fun r S' => popV S r S') = .ok (.v (.lst (x ++ y))) S := by
  rw [opAdd_lst h, Out.bind_ok, ← List.map_append]
  exact popV_new S _
@[simp] theorem lsOf_lst {n : Nat} {ds : List R} (h : S[n]? = some (.lst ds)) : lsOf S n = some ds := by unfold lsOf; rw [h]; rfl
@[simp] theorem opSub_int (i j : Int) : opSub (.v (.int i)) (.v (.int j)) S = .ok (.v (.int (i - j))) S := id rfl
theorem opMul_int {i j : Int} (h1 : i.natAbs < smLine) (h2 : j.natAbs < smLine) : opMul (.v (.int i)) (.v (.int j)) S = .ok (.v (.int (i * j))) S := if_pos ⟨h1, h2⟩
theorem opFdiv_int {i j : Int} (h1 : 0 < j) (h2 : j.natAbs < dvLine) : opFdiv (.v (.int i)) (.v (.int j)) S = .ok (.v (.int (i / j))) S := if_pos ⟨h1, h2⟩
theorem opMod_int {i j : Int} (h1 : 0 < j) : opMod (.v (.int i)) (.v (.int j)) S = .ok (.v (.int (i % j))) S := if_pos h1
@[simp] theorem opNeg_int (i : Int) : opNeg (.v (.int i)) S = .ok (.v (.int (-i))) S := id rfl
@[simp] theorem opIadd_int (i j : Int) : opIadd (.v (.int i)) (.v (.int j)) S = .ok (.v (.int (i + j))) S := id rfl
@[simp] theorem opCmpI_int (p : Int → Int → Bool) (i j : Int) : opCmpI p (.v (.int i)) (.v (.int j)) S = .ok (.v (.bl (p i j))) S := id rfl
theorem sm64 {i : Int} (h : i.natAbs < 2 ^ 64) : i.natAbs < smLine := sm_lt 64 h (by decide)
theorem dv64 {i : Int} (h : i.natAbs < 2 ^ 64) : i.natAbs < dvLine := dv_lt 64 h (by decide)
/-! ### == -/
theorem shaped_int (i : Int) : SeqAt.shaped (.int i) = true := by simp [SeqAt.shaped, PyData.canLay0, PyData.depth]
theorem shaped_bool (i : Bool) : SeqAt.shaped (.bool i) = true := by simp [SeqAt.shaped, PyData.canLay0, PyData.depth]
theorem shaped_none : SeqAt.shaped .none = true := by simp [SeqAt.shaped, PyData.canLay0, PyData.depth]
theorem shaped_str {x : Str} (h : x.cps.all (· < 0x110000) = true) : SeqAt.shaped (.str x) = true := by simp [SeqAt.shaped, PyData.canLay0, PyData.depth, PyData.strOk, h]
@[simp] theorem pyS_int (i : Int) : D.pyS (.int i) = some (.int i) := by simp [D.pyS, D.py, shaped_int]
@[simp] theorem pyS_bl (i : Bool) : D.pyS (.bl i) = some (.bool i) := by simp [D.pyS, D.py, shaped_bool]
@[simp] theorem pyS_non : D.pyS .non = some .none := by simp [D.pyS, D.py, shaped_none]
theorem pyS_str {x : Str} (h : x.cps.all (· < 0x110000) = true) : D.pyS (.str x) = some (.str x) := by simp [D.pyS, D.py, shaped_str h]
@[simp] theorem pyOf_v (d : D) : pyOf S (.v d) = d.pyS := by simp [pyOf]
theorem pyOf_ref {n : Nat} {ds : List D} (h : S[n]? = some (.lst (ds.map .v))) : pyOf S (.ref n) = D.pyS (.lst ds) := by simp [pyOf, view_ref h]
@[simp] theorem opEq_int (i j : Int) : opEq (.v (.int i)) (.v (.int j)) S = .ok (.v (.bl (i == j))) S := by simp [opEq, PyData.eqv]
@[simp] theorem opNe_int (i j : Int) : opNe (.v (.int i)) (.v (.int j)) S = .ok (.v (.bl (!(i == j)))) S := by simp [opNe, PyData.eqv]
@[simp] theorem opEq_bl (i j : Bool) : opEq (.v (.bl i)) (.v (.bl j)) S = .ok (.v (.bl (i == j))) S := by simp [opEq, PyData.eqv]
@[simp] theorem opNe_bl (i j : Bool) : opNe (.v (.bl i)) (.v (.bl j)) S = .ok (.v (.bl (!(i == j)))) S := by simp [opNe, PyData.eqv]
theorem opEq_str {x y : Str} (hx : x.cps.all (· < 0x110000) = true) (hy : y.cps.all (· < 0x110000) = true) : opEq (.v (.str x)) (.v (.str y)) S = .ok (.v (.bl (x == y))) S := by simp [opEq, pyS_str hx, pyS_str hy, PyData.eqv]
theorem opNe_str {x y : Str} (hx : x.cps.all (· < 0x110000) = true) (hy : y.cps.all (· < 0x110000) = true) : opNe (.v (.str x)) (.v (.str y)) S = .ok (.v (.bl (!(x == y)))) S := by simp [opNe, pyS_str hx, pyS_str hy, PyData.eqv]
/-- data that == walks: what it is, that it is of the form -/
theorem opEq_py {d e : D} {p q : PyData} (h1 : d.pyS = some p) (h2 : e.pyS = some q) : opEq (.v d) (.v e) S = .ok (.v (.bl (PyData.eqv p q))) S := by simp [opEq, h1, h2]
theorem opNe_py {d e : D} {p q : PyData} (h1 : d.pyS = some p) (h2 : e.pyS = some q) : opNe (.v d) (.v e) S = .ok (.v (.bl (!PyData.eqv p q))) S := by simp [opNe, h1, h2]
/-! ### truth, is -/
@[simp] theorem truM_bl (b : Bool) : truM (.v (.bl b)) S = .ok b S := id rfl
@[simp] theorem truM_int (b : Int) : truM (.v (.int b)) S = .ok (b != 0) S := id rfl
@[simp] theorem truM_non : truM (.v .non) S = .ok false S := id rfl
@[simp] theorem truM_tup (ds : List D) : truM (.v (.tup ds)) S = .ok (!ds.isEmpty) S := id rfl
@[simp] theorem opIs_non (d : R) : opIs d (.v .non) S = .ok (.v (.bl (isNon d))) S := id rfl
@[simp] theorem opIsNot_non (d : R) : opIsNot d (.v .non) S = .ok (.v (.bl (!(isNon d)))) S := id rfl
@[simp] theorem opIs_bl (a b : Bool) : opIs (.v (.bl a)) (.v (.bl b)) S = .ok (.v (.bl (decide (a = b)))) S := id rfl
@[simp] theorem opIsNot_bl (a b : Bool) : opIsNot (.v (.bl a)) (.v (.bl b)) S = .ok (.v (.bl (!decide (a = b)))) S := id rfl
/-! ### places -/
theorem atI_lt {α : Type} {xs : List α} {i : Int} (h0 : 0 ≤ i) : atI xs i = xs[i.toNat]? := by
  unfold atI ixN
  rw [if_pos h0]
  by_cases h : i < (xs.length : Int)
  · rw [if_pos h]; rfl
  · rw [if_neg h, List.getElem?_eq_none (by omega)]; rfl
theorem atI_neg {α : Type} {xs : List α} {i : Int} (h0 : i < 0) (h1 : -i ≤ xs.length) : atI xs i = xs[(i + xs.length).toNat]? := by
  unfold atI ixN
  rw [if_neg (by omega), if_pos (by omega)]
  rfl
theorem atI_map {α β : Type} (f : α → β) (xs : List α) (i : Int) : atI (xs.map f) i = (atI xs i).map f := by
  unfold atI
  rw [List.length_map]
  cases ixN xs.length i with
  | none => rfl
  | some j => simp
theorem atI_some {α : Type} {xs : List α} {i : Int} (h0 : 0 ≤ i) (h : i < xs.length) : ∃ d, atI xs i = some d ∧ d ∈ xs := by
  rw [atI_lt h0]
  have : i.toNat < xs.length := by omega
  exact ⟨xs[i.toNat], List.getElem?_eq_getElem this, List.getElem_mem _⟩
theorem opIx_tup {ds : List D} {i : Int} {d : D} (h : atI ds i = some d) : opIx (.v (.tup ds)) (.v (.int i)) S = .ok (.v d) S := by
  simp [opIx, seqOf, atI_map, h]
theorem opIx_lst {ds : List D} {i : Int} {d : D} (h : atI ds i = some d) : opIx (.v (.lst ds)) (.v (.int i)) S = .ok (.v d) S := by
  simp [opIx, seqOf, atI_map, h]
theorem opIx_kl {ds : List D} {i : Int} {d : D} (h : atI ds i = some d) : opIx (.v (.kl ds)) (.v (.int i)) S = .ok (.v d) S := by
  simp [opIx, seqOf, atI_map, h]
theorem opIx_ref {n : Nat} {ds : List R} {i : Int} {d : R} (h : S[n]? = some (.lst ds)) (h2 : atI ds i = some d) : opIx (.ref n) (.v (.int i)) S = .ok d S := by
  simp [opIx, seqOf, lsOf_lst h, h2]
theorem opIx_str {x : Str} {i : Int} {c : Nat} (h : x.length ≤ sizeLine) (h2 : atI x.cps.toList i = some c) : opIx (.v (.str x)) (.v (.int i)) S = .ok (.v (.str ⟨#[c]⟩)) S := by
  simp [opIx, h, h2]
/-- written places of written sequences -/
@[simp] theorem atI_0 {α : Type} (a : α) (xs : List α) : atI (a :: xs) 0 = some a := by rw [atI_lt (by decide)]; rfl
@[simp] theorem atI_1 {α : Type} (a b : α) (xs : List α) : atI (a :: b :: xs) 1 = some b := by rw [atI_lt (by decide)]; rfl
@[simp] theorem atI_2 {α : Type} (a b c : α) (xs : List α) : atI (a :: b :: c :: xs) 2 = some c := by rw [atI_lt (by decide)]; rfl
@[simp] theorem atI_3 {α : Type} (a b c d : α) (xs : List α) : atI (a :: b :: c :: d :: xs) 3 = some d := by rw [atI_lt (by decide)]; rfl
theorem ixN_lt0 {n : Nat} {k : Int} (h0 : 0 ≤ k) (h1 : k < n) : ixN n k = some k.toNat := by unfold ixN; rw [if_pos h0, if_pos h1]
theorem setIx_ref {n : Nat} {ds : List R} {k : Int} {d : R} (h : S[n]? = some (.lst ds)) (h0 : 0 ≤ k) (h1 : k < ds.length) : setIx (.ref n) (.v (.int k)) d S = some (S.set n (.lst (ds.set k.toNat d))) := by
  unfold setIx; simp only [h, ixN_lt0 h0 h1]
/-! ### freezing -/
@[simp] theorem frzO_nil {α : Type} (f : List D → Store → Out α) : frzO S [] f = f [] S := by simp [frzO, frzA]
theorem frzO_vs {α : Type} (ds : List D) (f : List D → Store → Out α) : frzO S (ds.map .v) f = f ds S := by simp [frzO, frzA_map]
@[simp] theorem frzO_1 {α : Type} (a : D) (f : List D → Store → Out α) : frzO S [.v a] f = f [a] S := frzO_vs [a] f
@[simp] theorem frzO_2 {α : Type} (a b : D) (f : List D → Store → Out α) : frzO S [.v a, .v b] f = f [a, b] S := frzO_vs [a, b] f
@[simp] theorem frzO_3 {α : Type} (a b c : D) (f : List D → Store → Out α) : frzO S [.v a, .v b, .v c] f = f [a, b, c] S := frzO_vs [a, b, c] f
@[simp] theorem frzO_4 {α : Type} (a b c d : D) (f : List D → Store → Out α) : frzO S [.v a, .v b, .v c, .v d] f = f [a, b, c, d] S := frzO_vs [a, b, c, d] f
@[simp] theorem frzO_5 {α : Type} (a b c d e : D) (f : List D → Store → Out α) : frzO S [.v a, .v b, .v c, .v d, .v e] f = f [a, b, c, d, e] S := frzO_vs [a, b, c, d, e] f
@[simp] theorem frzO_6 {α : Type} (a b c d e g : D) (f : List D → Store → Out α) : frzO S [.v a, .v b, .v c, .v d, .v e, .v g] f = f [a, b, c, d, e, g] S := frzO_vs [a, b, c, d, e, g] f
/-! ### sizes -/
theorem sz_of {n : Nat} (h : n ≤ 16777216) : n ≤ sizeLine := by rw [sizeLine_eq]; exact h
theorem sz_lt {n : Nat} (h : n < 16777216) : n < sizeLine := by rw [sizeLine_eq]; exact h
@[simp] theorem sz0 : (0 ≤ sizeLine) = True := by simp
@[simp] theorem sz1 : (1 ≤ sizeLine) = True := eq_true (sz_of (by decide))
@[simp] theorem sz2 : (2 ≤ sizeLine) = True := eq_true (sz_of (by decide))
@[simp] theorem sz3 : (3 ≤ sizeLine) = True := eq_true (sz_of (by decide))
@[simp] theorem sz4 : (4 ≤ sizeLine) = True := eq_true (sz_of (by decide))
@[simp] theorem sz5 : (5 ≤ sizeLine) = True := eq_true (sz_of (by decide))
@[simp] theorem sz6 : (6 ≤ sizeLine) = True := eq_true (sz_of (by decide))
@[simp] theorem sz7 : (7 ≤ sizeLine) = True := eq_true (sz_of (by decide))
@[simp] theorem sz8 : (8 ≤ sizeLine) = True := eq_true (sz_of (by decide))
@[simp] theorem sz9 : (9 ≤ sizeLine) = True := eq_true (sz_of (by decide))
@[simp] theorem sz10 : (10 ≤ sizeLine) = True := eq_true (sz_of (by decide))
@[simp] theorem szl0 : (0 < sizeLine) = True := eq_true (sz_lt (by decide))
@[simp] theorem szl1 : (1 < sizeLine) = True := eq_true (sz_lt (by decide))
/-! ### built-ins -/
@[simp] theorem biLen_tup (ds : List D) : biLen [.v (.tup ds)] S = .ok (.v (.int ds.length)) S := by simp [biLen, seqOf]
@[simp] theorem biLen_lst (ds : List D) : biLen [.v (.lst ds)] S = .ok (.v (.int ds.length)) S := by simp [biLen, seqOf]
@[simp] theorem biLen_kl (ds : List D) : biLen [.v (.kl ds)] S = .ok (.v (.int ds.length)) S := by simp [biLen, seqOf]
theorem biLen_ref {n : Nat} {ds : List R} (h : S[n]? = some (.lst ds)) : biLen [.ref n] S = .ok (.v (.int ds.length)) S := by simp [biLen, seqOf, lsOf_lst h]
theorem biLen_seq {r : R} {es : List R} (h : seqOf S r = some es) : biLen [r] S = .ok (.v (.int es.length)) S := by
  cases r with
  | ref n => simp [biLen, h]
  | v d => cases d <;> first | (simp [biLen, h]; done) | cases h
theorem biList_seq {r : R} {es : List R} (h : seqOf S r = some es) : biList [r] S = .ok (.ref S.length) (S ++ [.lst es]) := by simp [biList, h]
theorem biLen_str {x : Str} (h : x.length ≤ sizeLine) : biLen [.v (.str x)] S = .ok (.v (.int x.length)) S := if_pos h
@[simp] theorem biAbs_int (i : Int) : biAbs [.v (.int i)] S = .ok (.v (.int (if i < 0 then -i else i))) S := id rfl
@[simp] theorem biInt_int (i : Int) : biInt [.v (.int i)] S = .ok (.v (.int i)) S := id rfl
@[simp] theorem biInt_bl (i : Bool) : biInt [.v (.bl i)] S = .ok (.v (.int (if i = true then 1 else 0))) S := id rfl
@[simp] theorem biTuple_tup (ds : List D) : biTuple [.v (.tup ds)] S = .ok (.v (.tup ds)) S := id rfl
@[simp] theorem biTuple_lst (ds : List D) : biTuple [.v (.lst ds)] S = .ok (.v (.tup ds)) S := by simp [biTuple, lstOf, frzO_vs]
theorem biTuple_ref {n : Nat} {ds : List D} (h : S[n]? = some (.lst (ds.map .v))) : biTuple [.ref n] S = .ok (.v (.tup ds)) S := by simp [biTuple, lstOf, lsOf_lst h, frzO_vs]
@[simp] theorem biList_tup (ds : List D) : biList [.v (.tup ds)] S = .ok (.ref S.length) (S ++ [.lst (ds.map .v)]) := by simp [biList, seqOf]
@[simp] theorem biList_lst (ds : List D) : biList [.v (.lst ds)] S = .ok (.ref S.length) (S ++ [.lst (ds.map .v)]) := by simp [biList, seqOf]
theorem biList_ref {n : Nat} {ds : List R} (h : S[n]? = some (.lst ds)) : biList [.ref n] S = .ok (.ref S.length) (S ++ [.lst ds]) := by simp [biList, seqOf, lsOf_lst h]
theorem strsOf_map : ∀ xs : List Str, strsOf (xs.map fun x => R.v (.str x)) = some xs
  | [] => rfl
  | x :: xs => by simp [strsOf, strsOf_map xs]
theorem intsOf_map : ∀ xs : List Int, intsOf (xs.map fun x => R.v (.int x)) = some xs
  | [] => rfl
  | x :: xs => by simp [intsOf, intsOf_map xs]
theorem blsOf_map : ∀ xs : List Bool, blsOf (xs.map fun x => R.v (.bl x)) = some xs
  | [] => rfl
  | x :: xs => by simp [blsOf, blsOf_map xs]
theorem biAll_lst (bs : List Bool) : biAll [.v (.lst (bs.map .bl))] S = .ok (.v (.bl (bs.all id))) S := by
  have := blsOf_map bs
  simp only [biAll, lstOf, List.map_map, Option.bind_some]
  rw [show (R.v ∘ D.bl) = fun x => R.v (.bl x) from rfl, this]
theorem biAny_lst (bs : List Bool) : biAny [.v (.lst (bs.map .bl))] S = .ok (.v (.bl (bs.any id))) S := by
  have := blsOf_map bs
  simp only [biAny, lstOf, List.map_map, Option.bind_some]
  rw [show (R.v ∘ D.bl) = fun x => R.v (.bl x) from rfl, this]
theorem biSum_lst (bs : List Int) : biSum [.v (.lst (bs.map .int))] S = .ok (.v (.int bs.sum)) S := by
  have := intsOf_map bs
  simp only [biSum, lstOf, List.map_map, Option.bind_some]
  rw [show (R.v ∘ D.int) = fun x => R.v (.int x) from rfl, this]
@[simp] theorem biMax_ii (i j : Int) : biMax [.v (.int i), .v (.int j)] S = .ok (.v (.int (if j > i then j else i))) S := id rfl
@[simp] theorem biMin_ii (i j : Int) : biMin [.v (.int i), .v (.int j)] S = .ok (.v (.int (if j < i then j else i))) S := id rfl
theorem kb_ss : kitB "str" "str" = some true := by decide +kernel
theorem kb_st : kitB "str" "tuple" = some false := by decide +kernel
theorem kb_si : kitB "str" "int" = some false := by decide +kernel
theorem kb_sb : kitB "str" "bool" = some false := by decide +kernel
theorem kb_sl : kitB "str" "list" = some false := by decide +kernel
theorem kb_ts : kitB "tuple" "str" = some false := by decide +kernel
theorem kb_tt : kitB "tuple" "tuple" = some true := by decide +kernel
theorem kb_ti : kitB "tuple" "int" = some false := by decide +kernel
theorem kb_tb : kitB "tuple" "bool" = some false := by decide +kernel
theorem kb_is : kitB "int" "str" = some false := by decide +kernel
theorem kb_it : kitB "int" "tuple" = some false := by decide +kernel
theorem kb_ii : kitB "int" "int" = some true := by decide +kernel
theorem kb_ib : kitB "int" "bool" = some false := by decide +kernel
theorem kb_bs : kitB "bool" "str" = some false := by decide +kernel
theorem kb_bt : kitB "bool" "tuple" = some false := by decide +kernel
theorem kb_bi : kitB "bool" "int" = some true := by decide +kernel
theorem kb_bb : kitB "bool" "bool" = some true := by decide +kernel
theorem kb_ns : kitB "NoneType" "str" = some false := by decide +kernel
theorem kb_nt : kitB "NoneType" "tuple" = some false := by decide +kernel
theorem kb_ni : kitB "NoneType" "int" = some false := by decide +kernel
theorem kb_nb : kitB "NoneType" "bool" = some false := by decide +kernel
theorem kb_ls : kitB "list" "str" = some false := by decide +kernel
theorem kb_lt : kitB "list" "tuple" = some false := by decide +kernel
theorem kb_li : kitB "list" "int" = some false := by decide +kernel
theorem kb_lb : kitB "list" "bool" = some false := by decide +kernel
theorem kb_ll : kitB "list" "list" = some true := by decide +kernel
theorem kb_ds : kitB "dict" "str" = some false := by decide +kernel
theorem kb_dt : kitB "dict" "tuple" = some false := by decide +kernel
theorem kb_di : kitB "dict" "int" = some false := by decide +kernel
theorem kb_db : kitB "dict" "bool" = some false := by decide +kernel
@[simp] theorem isi_str_str (x : Str) : biIsi [.v (.str x), .v (.ty "str")] S = .ok (.v (.bl true)) S := by simp [biIsi, tyName, tyD, kb_ss]
@[simp] theorem isi_str_tup (x : Str) : biIsi [.v (.str x), .v (.ty "tuple")] S = .ok (.v (.bl false)) S := by simp [biIsi, tyName, tyD, kb_st]
@[simp] theorem isi_str_int (x : Str) : biIsi [.v (.str x), .v (.ty "int")] S = .ok (.v (.bl false)) S := by simp [biIsi, tyName, tyD, kb_si]
@[simp] theorem isi_str_bool (x : Str) : biIsi [.v (.str x), .v (.ty "bool")] S = .ok (.v (.bl false)) S := by simp [biIsi, tyName, tyD, kb_sb]
@[simp] theorem isi_tup_str (x : List D) : biIsi [.v (.tup x), .v (.ty "str")] S = .ok (.v (.bl false)) S := by simp [biIsi, tyName, tyD, kb_ts]
@[simp] theorem isi_tup_tup (x : List D) : biIsi [.v (.tup x), .v (.ty "tuple")] S = .ok (.v (.bl true)) S := by simp [biIsi, tyName, tyD, kb_tt]
@[simp] theorem isi_tup_int (x : List D) : biIsi [.v (.tup x), .v (.ty "int")] S = .ok (.v (.bl false)) S := by simp [biIsi, tyName, tyD, kb_ti]
@[simp] theorem isi_int_str (x : Int) : biIsi [.v (.int x), .v (.ty "str")] S = .ok (.v (.bl false)) S := by simp [biIsi, tyName, tyD, kb_is]
@[simp] theorem isi_int_tup (x : Int) : biIsi [.v (.int x), .v (.ty "tuple")] S = .ok (.v (.bl false)) S := by simp [biIsi, tyName, tyD, kb_it]
@[simp] theorem isi_int_int (x : Int) : biIsi [.v (.int x), .v (.ty "int")] S = .ok (.v (.bl true)) S := by simp [biIsi, tyName, tyD, kb_ii]
@[simp] theorem isi_int_bool (x : Int) : biIsi [.v (.int x), .v (.ty "bool")] S = .ok (.v (.bl false)) S := by simp [biIsi, tyName, tyD, kb_ib]
@[simp] theorem isi_bl_str (x : Bool) : biIsi [.v (.bl x), .v (.ty "str")] S = .ok (.v (.bl false)) S := by simp [biIsi, tyName, tyD, kb_bs]
@[simp] theorem isi_bl_tup (x : Bool) : biIsi [.v (.bl x), .v (.ty "tuple")] S = .ok (.v (.bl false)) S := by simp [biIsi, tyName, tyD, kb_bt]
@[simp] theorem isi_bl_int (x : Bool) : biIsi [.v (.bl x), .v (.ty "int")] S = .ok (.v (.bl true)) S := by simp [biIsi, tyName, tyD, kb_bi]
@[simp] theorem isi_bl_bool (x : Bool) : biIsi [.v (.bl x), .v (.ty "bool")] S = .ok (.v (.bl true)) S := by simp [biIsi, tyName, tyD, kb_bb]
@[simp] theorem isi_non_str : biIsi [.v .non, .v (.ty "str")] S = .ok (.v (.bl false)) S := by simp [biIsi, tyName, tyD, kb_ns]
@[simp] theorem isi_non_tup : biIsi [.v .non, .v (.ty "tuple")] S = .ok (.v (.bl false)) S := by simp [biIsi, tyName, tyD, kb_nt]
@[simp] theorem isi_non_int : biIsi [.v .non, .v (.ty "int")] S = .ok (.v (.bl false)) S := by simp [biIsi, tyName, tyD, kb_ni]
/-! ### methods -/
@[simp] theorem tyOk_str (x : Str) : tyOk "str" S (.v (.str x)) = true := id rfl
@[simp] theorem tyOk_lstV (x : List D) : tyOk "list" S (.v (.lst x)) = true := id rfl
theorem tyOk_lst {n : Nat} {ds : List R} (h : S[n]? = some (.lst ds)) : tyOk "list" S (.ref n) = true := by simp [tyOk, h]
theorem mtAppend_ref {n : Nat} {ds : List R} {y : R} (h : S[n]? = some (.lst ds)) (hz : ds.length < sizeLine) : mtAppend (.ref n) [y] S = .ok (.v .non) (S.set n (.lst (ds ++ [y]))) := by
  unfold mtAppend; simp only [h, if_pos hz]
end
/-! ### loops -/
/-- a for that goes through: I holds ahead of each turn -/
theorem forGo_inv {pins : List (Nat × MO)} {t : TgM} {body : MS} (I : Nat → Env → Store → Prop) :
    ∀ (ds : List R) (j : Nat) (m : Env) (S : Store), I j m S → (∀ i m S, I i m S → pinsOk pins S) →
      (∀ i d m S, ds[i]? = some d → I (j + i) m S → ∃ m1, t d m = some m1 ∧ ∃ m2 S2, (body m1 S = .nx m2 S2 ∨ body m1 S = .ct m2 S2) ∧ I (j + i + 1) m2 S2) →
      ∃ m' S', mForGo pins t body ds m S = .nx m' S' ∧ I (j + ds.length) m' S'
  | [], j, m, S, h, hp, _ => ⟨m, S, by unfold mForGo; rw [if_pos (hp j m S h)], h⟩
  | d :: ds, j, m, S, h, hp, hs => by
    obtain ⟨m1, e1, m2, S2, e2, h2⟩ := hs 0 d m S rfl h
    obtain ⟨m', S', e3, h3⟩ := forGo_inv I ds (j + 1) m2 S2 h2 hp fun i d m S hi hI => by
      have := hs (i + 1) d m S hi (by rw [show j + (i + 1) = j + 1 + i by omega]; exact hI)
      rwa [show j + (i + 1) = j + 1 + i by omega] at this
    refine ⟨m', S', ?_, by rw [List.length_cons, show j + (ds.length + 1) = j + 1 + ds.length by omega]; exact h3⟩
    unfold mForGo
    rw [if_pos (hp j m S h), e1]
    rcases e2 with e2 | e2
    · simp only [e2]; exact e3
    · simp only [e2]; exact e3
/-- .. nothing pinned -/
theorem for_inv {t : TgM} {body : MS} {ds : List R} {m : Env} {S : Store} (I : Nat → Env → Store → Prop) (h : I 0 m S) (hs : ∀ i d m S, ds[i]? = some d → I i m S → ∃ m1, t d m = some m1 ∧ ∃ m2 S2, (body m1 S = .nx m2 S2 ∨ body m1 S = .ct m2 S2) ∧ I (i + 1) m2 S2) :
    ∃ m' S', mForGo [] t body ds m S = .nx m' S' ∧ I ds.length m' S' := by
  obtain ⟨m', S', e, hI⟩ := forGo_inv (pins := []) (t := t) (body := body) I ds 0 m S h (fun _ _ _ _ => trivial) fun i d m S hi hI => by
    have := hs i d m S hi (by simpa using hI)
    simpa using this
  exact ⟨m', S', e, by simpa using hI⟩
/-- a search: the first item whose turn hands back; until there J holds -/
theorem for_find {t : TgM} {body : MS} (J : Env → Prop) {S : Store} : ∀ {ds : List R} {m : Env}, J m →
    (∀ d ∈ ds, ∀ m, J m → ∃ m1, t d m = some m1 ∧ ((∃ m2, body m1 S = .nx m2 S ∧ J m2) ∨ ∃ x, body m1 S = .rt x S)) →
    (∃ m', mForGo [] t body ds m S = .nx m' S ∧ J m') ∨ ∃ x, mForGo [] t body ds m S = .rt x S := by
  intro ds
  induction ds with
  | nil => exact fun {m} h _ => .inl ⟨m, by unfold mForGo; rw [if_pos (show pinsOk [] S from trivial)], h⟩
  | cons d ds ih =>
    intro m h hs
    obtain ⟨m1, e1, h1⟩ := hs d (by simp) m h
    unfold mForGo
    rw [if_pos (show pinsOk [] S from trivial), e1]
    rcases h1 with ⟨m2, e2, j2⟩ | ⟨x, e2⟩
    · simp only [e2]
      exact ih j2 fun d hd => hs d (by simp [hd])
    · simp only [e2]
      exact .inr ⟨x, rfl⟩
/-- a comprehension: J holds ahead of each turn, the list so far at n -/
theorem lcGo_inv {pins : List (Nat × MO)} {t : TgM} {c : MT} {f : ME} {n : Nat} {m : Env} (J : Nat → List R → Store → Prop) :
    ∀ (ds : List R) (j : Nat) (acc : List R) (S : Store), J j acc S → (∀ i acc S, J i acc S → pinsOk pins S) →
      (∀ i d acc S, ds[i]? = some d → J (j + i) acc S → ∃ m1, t d m = some m1 ∧ ∃ k S1, c m1 S = .ok k S1 ∧ (match k with
        | false => J (j + i + 1) acc S1
        | true => ∃ y S2, f m1 S1 = .ok y S2 ∧ S2[n]? = some (.lst acc) ∧ acc.length < sizeLine ∧ J (j + i + 1) (acc ++ [y]) (S2.set n (.lst (acc ++ [y]))))) →
      ∃ acc' S', mLcGo pins t c f n m ds S = .ok (.ref n) S' ∧ J (j + ds.length) acc' S'
  | [], j, acc, S, h, hp, _ => ⟨acc, S, by unfold mLcGo; rw [if_pos (hp j acc S h)], h⟩
  | d :: ds, j, acc, S, h, hp, hs => by
    obtain ⟨m1, e1, k, S1, e2, h2⟩ := hs 0 d acc S rfl h
    have next : ∀ acc2 S2, J (j + 1) acc2 S2 → ∃ acc' S', mLcGo pins t c f n m ds S2 = .ok (.ref n) S' ∧ J (j + (ds.length + 1)) acc' S' := fun acc2 S2 h2 => by
      obtain ⟨acc', S', e3, h3⟩ := lcGo_inv J ds (j + 1) acc2 S2 h2 hp fun i d acc S hi hI => by
        have := hs (i + 1) d acc S hi (by rw [show j + (i + 1) = j + 1 + i by omega]; exact hI)
        rwa [show j + (i + 1) = j + 1 + i by omega] at this
      exact ⟨acc', S', e3, by rw [show j + (ds.length + 1) = j + 1 + ds.length by omega]; exact h3⟩
    rw [List.length_cons]
    cases k with
    | false =>
      obtain ⟨acc', S', e3, h3⟩ := next acc S1 h2
      refine ⟨acc', S', ?_, h3⟩
      unfold mLcGo
      rw [if_pos (hp j acc S h), e1]
      simp only [e2, Out.calm_ok, Out.bind_ok]
      exact e3
    | true =>
      obtain ⟨y, S2, e4, e5, e6, h2⟩ := h2
      obtain ⟨acc', S', e3, h3⟩ := next _ _ h2
      refine ⟨acc', S', ?_, h3⟩
      unfold mLcGo
      rw [if_pos (hp j acc S h), e1]
      simp only [e2, Out.calm_ok, Out.bind_ok, e4, e5, if_pos e6]
      exact e3
@[simp] theorem mLc_eq (src : MI) (vs : List Nat) (t : TgM) (c : MT) (f : ME) (m : Env) (S : Store) : mLc src vs t c f m S = (src m S).bind fun it S1 => mLcGo it.pins t c f S1.length (wipeM m vs) it.items (S1 ++ [.lst []]) := id rfl
/-- a comprehension by value whose turns leave the store: p by a test, g the elements -/
theorem lc_mapU {α : Type} {t : TgM} {c : MT} {f : ME} {m : Env} {S0 S : Store} (hu : Upd S0 S) (r : α → R) (p : α → Bool) (g : α → D) (xs : List α) (hz : xs.length ≤ sizeLine)
    (hs : ∀ x ∈ xs, ∀ acc : List R, ∃ m1, t (r x) m = some m1 ∧ c m1 (S ++ [.lst acc]) = .ok (p x) (S ++ [.lst acc]) ∧ (p x = true → f m1 (S ++ [.lst acc]) = .ok (.v (g x)) (S ++ [.lst acc]))) :
    (mLcGo [] t c f S.length m (xs.map r) (S ++ [.lst []])).bind (fun r S' => popV S0 r S') = .ok (.v (.lst ((xs.filter p).map g))) S := by
  have key : ∀ (xs ys : List α), ys.length + xs.length ≤ sizeLine → (∀ x ∈ xs, ∀ acc : List R, ∃ m1, t (r x) m = some m1 ∧ c m1 (S ++ [.lst acc]) = .ok (p x) (S ++ [.lst acc]) ∧ (p x = true → f m1 (S ++ [.lst acc]) = .ok (.v (g x)) (S ++ [.lst acc]))) →
      mLcGo [] t c f S.length m (xs.map r) (S ++ [.lst ((ys.map g).map .v)]) = .ok (.ref S.length) (S ++ [.lst (((ys ++ xs.filter p).map g).map .v)]) := by
    intro xs
    induction xs with
    | nil => intro ys _ _; unfold mLcGo; simp [pinsOk]
    | cons x xs ih =>
      intro ys hl hs
      obtain ⟨m1, e1, e2, e3⟩ := hs x (by simp) ((ys.map g).map .v)
      rw [List.map_cons]
      unfold mLcGo
      rw [if_pos (show pinsOk [] _ from trivial), e1]
      simp only [e2, Out.calm_ok, Out.bind_ok]
      rw [List.length_cons] at hl
      cases hp : p x with
      | false =>
        simp only
        rw [ih ys (by omega) fun x hx => hs x (by simp [hx]), List.filter_cons_of_neg (by simp [hp])]
      | true =>
        simp only [e3 hp, Out.calm_ok, Out.bind_ok, get_len]
        rw [if_pos (by rw [List.length_map, List.length_map]; omega), set_len, List.filter_cons_of_pos hp]
        have := ih (ys ++ [x]) (by rw [List.length_append]; simp; omega) fun x hx => hs x (by simp [hx])
        simp only [List.map_append, List.map_cons, List.map_nil, List.append_assoc, List.cons_append, List.nil_append] at this ⊢
        exact this
  have := key xs [] (by simpa using hz) hs
  simp only [List.map_nil, List.nil_append] at this
  rw [this, Out.bind_ok]
  exact popV_newU _ hu
theorem lc_map {α : Type} {t : TgM} {c : MT} {f : ME} {m : Env} {S : Store} (r : α → R) (p : α → Bool) (g : α → D) (xs : List α) (hz : xs.length ≤ sizeLine)
    (hs : ∀ x ∈ xs, ∀ acc : List R, ∃ m1, t (r x) m = some m1 ∧ c m1 (S ++ [.lst acc]) = .ok (p x) (S ++ [.lst acc]) ∧ (p x = true → f m1 (S ++ [.lst acc]) = .ok (.v (g x)) (S ++ [.lst acc]))) :
    (mLcGo [] t c f S.length m (xs.map r) (S ++ [.lst []])).bind (fun r S' => popV S r S') = .ok (.v (.lst ((xs.filter p).map g))) S := lc_mapU (.refl S) r p g xs hz hs
/-- a comprehension by value whose turns change the store below it: P of the turn, the list so far, the store -/
theorem lc_st {α : Type} {t : TgM} {f : ME} {m : Env} {S0 S : Store} (r : α → R) (xs : List α) (P : Nat → List D → Store → Prop) (hz : xs.length ≤ sizeLine) (h0 : P 0 [] S) (hu : ∀ i ys T, P i ys T → Upd S0 T)
    (hs : ∀ i x ys T, xs[i]? = some x → P i ys T → ∃ m1, t (r x) m = some m1 ∧ ∃ y T', f m1 (T ++ [.lst (ys.map .v)]) = .ok (.v y) (T' ++ [.lst (ys.map .v)]) ∧ P (i + 1) (ys ++ [y]) T') :
    ∃ ys T, (mLcGo [] t mtYes f S.length m (xs.map r) (S ++ [.lst []])).bind (fun r S' => popV S0 r S') = .ok (.v (.lst ys)) T ∧ P xs.length ys T ∧ ys.length = xs.length := by
  have hS0 : S.length = S0.length := (hu 0 [] S h0).1
  have key : ∀ (xs : List α) (j : Nat) (ys : List D) (T : Store), ys.length + xs.length ≤ sizeLine → P j ys T → (∀ i x ys T, xs[i]? = some x → P (j + i) ys T → ∃ m1, t (r x) m = some m1 ∧ ∃ y T', f m1 (T ++ [.lst (ys.map .v)]) = .ok (.v y) (T' ++ [.lst (ys.map .v)]) ∧ P (j + i + 1) (ys ++ [y]) T') →
      ∃ zs T', mLcGo [] t mtYes f S.length m (xs.map r) (T ++ [.lst (ys.map .v)]) = .ok (.ref S.length) (T' ++ [.lst (zs.map .v)]) ∧ P (j + xs.length) zs T' ∧ zs.length = ys.length + xs.length := by
    intro xs
    induction xs with
    | nil => intro j ys T _ h _; exact ⟨ys, T, by unfold mLcGo; simp [pinsOk], h, rfl⟩
    | cons x xs ih =>
      intro j ys T hl h hs
      obtain ⟨m1, e1, y, T1, e2, h2⟩ := hs 0 x ys T rfl h
      rw [List.length_cons] at hl
      obtain ⟨zs, T2, e3, h3, l3⟩ := ih (j + 1) (ys ++ [y]) T1 (by simp; omega) h2 fun i x ys T hx hp => by
        have := hs (i + 1) x ys T hx (by rw [show j + (i + 1) = j + 1 + i by omega]; exact hp)
        rwa [show j + (i + 1) = j + 1 + i by omega] at this
      refine ⟨zs, T2, ?_, by rw [List.length_cons, show j + (xs.length + 1) = j + 1 + xs.length by omega]; exact h3, by rw [l3]; simp; omega⟩
      rw [List.map_cons]
      unfold mLcGo
      rw [if_pos (show pinsOk [] _ from trivial), e1]
      have hT : T1.length = S.length := (hu _ _ _ h2).1.trans hS0.symm
      have g1 : (T1 ++ [MO.lst (ys.map R.v)])[S.length]? = some (.lst (ys.map .v)) := by rw [← hT]; exact get_len T1 _ []
      have g2 : (T1 ++ [MO.lst (ys.map R.v)]).set S.length (.lst (ys.map .v ++ [.v y])) = T1 ++ [.lst ((ys ++ [y]).map .v)] := by rw [← hT, set_len, List.map_append]; rfl
      simp only [mtYes_eq, Out.calm_ok, Out.bind_ok, e2, g1]
      rw [if_pos (by rw [List.length_map]; omega), g2]
      exact e3
  obtain ⟨zs, T, e, h, l⟩ := key xs 0 [] S (by simpa using hz) h0 fun i x ys T hx hp => by
    have := hs i x ys T hx (by simpa using hp)
    simpa using this
  refine ⟨zs, T, ?_, by simpa using h, by simpa using l⟩
  have hT : T.length = S.length := (hu _ _ _ h).1.trans hS0.symm
  rw [List.map_nil] at e
  rw [e, Out.bind_ok, popV_ref (ds := zs) (by rw [← hT]; exact get_len T _ [])]
  rw [← hT, set_len, cut_app _ (hu _ _ _ h)]
/-! ### trimming -/
@[simp] theorem keepE_v (k : Nat) (d : D) : keepE k (some (.v d)) = some (.v d) := id rfl
@[simp] theorem keepE_none (k : Nat) : keepE k none = none := id rfl
theorem keepE_lt {k n : Nat} (h : n < k) : keepE k (some (.ref n)) = some (.ref n) := if_pos h
theorem keepE_ge {k n : Nat} (h : k ≤ n) : keepE k (some (.ref n)) = none := if_neg (by omega)
theorem trim_app {S T t : Store} {m2 : Env} {f : Env → Store → OutS} (hu : Upd S T) (ht : t ≠ []) : trim S m2 (T ++ t) f = f (m2.map (keepE S.length)) T := by
  unfold trim
  have e : (T ++ t).take S.length = T := by rw [← hu.1, List.take_left]
  have hp : 0 < t.length := List.length_pos_iff.mpr ht
  rw [if_pos ⟨by rw [List.length_append, hu.1]; omega, by rw [List.length_append, hu.1]; omega, by rw [e]; exact hu⟩, e]
theorem trim_same {S T : Store} {m2 : Env} {f : Env → Store → OutS} (h : T.length = S.length) : trim S m2 T f = f m2 T := by
  unfold trim
  rw [if_neg (by omega)]
@[simp] theorem mTrim_eq (f : MS) (m : Env) (S : Store) : mTrim f m S = match f m S with
  | .nx m2 S2 => trim S m2 S2 .nx
  | .ct m2 S2 => trim S m2 S2 .ct
  | o => o := id rfl
end M

/-! MTree: trees, their texts. -/
namespace M
open PySem hiding Env
open L2
theorem str_len (x : Str) : x.length = x.cps.size := rfl
theorem str_len_append (x y : Str) : (x ++ y).length = x.length + y.length := by
  show (x.cps ++ y.cps).size = _
  rw [Array.size_append]; rfl
theorem cps_app (x y : Str) : (x ++ y).cps.toList = x.cps.toList ++ y.cps.toList := by
  show (x.cps ++ y.cps).toList = _
  simp
theorem str_ext {x y : Str} (h : x.cps.toList = y.cps.toList) : x = y := by
  cases x; cases y
  simp only [Str.mk.injEq]
  exact Array.toList_inj.mp h
/-- a word -/
def GoodW (w : Str) : Prop := 1 ≤ w.length ∧ w.length ≤ 8 ∧ ∀ c ∈ w.cps.toList, 97 ≤ c ∧ c ≤ 122
theorem GoodW.ok {w : Str} (h : GoodW w) : w.cps.all (· < 0x110000) = true := by
  rw [← Array.all_toList, List.all_eq_true]
  intro c hc
  have := h.2.2 c hc
  simp; omega
inductive T where
  | leaf (w : Str)
  | node (l r : T)
  deriving DecidableEq
def T.d : T → D
  | .leaf w => .str w
  | .node l r => .tup [l.d, r.d]
def T.ls : T → List Str
  | .leaf w => [w]
  | .node l r => l.ls ++ r.ls
def T.depth : T → Nat
  | .leaf _ => 0
  | .node l r => max l.depth r.depth + 1
def T.text : T → Str
  | .leaf w => w
  | .node l r => "(" ++ l.text ++ "," ++ r.text ++ ")"
theorem T.d_inj : ∀ {t u : T}, t.d = u.d → t = u
  | .leaf w, .leaf v, h => by cases h; rfl
  | .leaf _, .node _ _, h => by cases h
  | .node _ _, .leaf _, h => by cases h
  | .node a b, .node c d, h => by
    have h : D.tup [a.d, b.d] = D.tup [c.d, d.d] := h
    simp only [D.tup.injEq, List.cons.injEq, and_true] at h
    rw [T.d_inj h.1, T.d_inj h.2]
theorem T.ls_ne : ∀ t : T, t.ls ≠ []
  | .leaf w => by simp [T.ls]
  | .node l r => by simp [T.ls, T.ls_ne l]
theorem T.ls_pos (t : T) : 0 < t.ls.length := List.length_pos_iff.mpr t.ls_ne
theorem T.depth_lt : ∀ t : T, t.depth < t.ls.length
  | .leaf w => by simp [T.ls, T.depth]
  | .node l r => by
    have h1 := T.depth_lt l
    have h2 := T.depth_lt r
    have h3 := T.ls_pos l
    have h4 := T.ls_pos r
    simp only [T.ls, T.depth, List.length_append]
    omega
/-- all its words are words -/
def T.Ok (t : T) : Prop := ∀ w ∈ t.ls, GoodW w
theorem T.Ok.l {l r : T} (h : (T.node l r).Ok) : l.Ok := fun w hw => h w (by simp [T.ls, hw])
theorem T.Ok.r {l r : T} (h : (T.node l r).Ok) : r.Ok := fun w hw => h w (by simp [T.ls, hw])
theorem T.text_len : ∀ t : T, t.Ok → t.text.length + 3 ≤ 11 * t.ls.length
  | .leaf w, h => by
    have := (h w (by simp [T.ls])).2.1
    simp only [T.text, T.ls, List.length_cons, List.length_nil]; omega
  | .node l r, h => by
    have h1 := T.text_len l h.l
    have h2 := T.text_len r h.r
    simp only [T.text, T.ls, List.length_append, str_len_append]
    have e1 : (Str.ofString "(").length = 1 := by decide +kernel
    have e2 : (Str.ofString ",").length = 1 := by decide +kernel
    have e3 : (Str.ofString ")").length = 1 := by decide +kernel
    omega
theorem T.text_codes : ∀ t : T, t.Ok → ∀ c ∈ t.text.cps.toList, c < 128
  | .leaf w, h => fun c hc => by have := (h w (by simp [T.ls])).2.2 c hc; omega
  | .node l r, h => fun c hc => by
    simp only [T.text, cps_app, List.mem_append] at hc
    have e1 : ∀ c ∈ (Str.ofString "(").cps.toList, c < 128 := by decide +kernel
    have e2 : ∀ c ∈ (Str.ofString ",").cps.toList, c < 128 := by decide +kernel
    have e3 : ∀ c ∈ (Str.ofString ")").cps.toList, c < 128 := by decide +kernel
    rcases hc with (((hc | hc) | hc) | hc) | hc
    · exact e1 c hc
    · exact T.text_codes l h.l c hc
    · exact e2 c hc
    · exact T.text_codes r h.r c hc
    · exact e3 c hc
theorem T.text_ok {t : T} (h : t.Ok) : t.text.cps.all (· < 0x110000) = true := by
  rw [← Array.all_toList, List.all_eq_true]
  intro c hc
  have := t.text_codes h c hc
  simp; omega
/-- the signs of a tree's text -/
def T.signs (t : T) : List Nat := t.text.cps.toList
theorem T.signs_node (l r : T) : (T.node l r).signs = 40 :: (l.signs ++ 44 :: (r.signs ++ [41])) := by
  have e1 : (Str.ofString "(").cps.toList = [40] := by decide +kernel
  have e2 : (Str.ofString ",").cps.toList = [44] := by decide +kernel
  have e3 : (Str.ofString ")").cps.toList = [41] := by decide +kernel
  simp [T.signs, T.text, cps_app, e1, e2, e3]
/-- a text tells its tree, whatever follows that is no letter -/
theorem T.signs_inj : ∀ (t u : T), t.Ok → u.Ok → ∀ (x y : List Nat), (∀ c ∈ x.head?, c < 97) → (∀ c ∈ y.head?, c < 97) → t.signs ++ x = u.signs ++ y → t = u ∧ x = y
  | .leaf w, .leaf v, ht, hu, x, y, hx, hy, h => by
    have hw := (ht w (by simp [T.ls])).2.2
    have hv := (hu v (by simp [T.ls])).2.2
    have h : w.cps.toList ++ x = v.cps.toList ++ y := h
    have key : ∀ (a b x y : List Nat), (∀ c ∈ a, 97 ≤ c) → (∀ c ∈ b, 97 ≤ c) → (∀ c ∈ x.head?, c < 97) → (∀ c ∈ y.head?, c < 97) → a ++ x = b ++ y → a = b ∧ x = y := by
      intro a
      induction a with
      | nil =>
        intro b x y ha hb hx hy h
        cases b with
        | nil => exact ⟨rfl, h⟩
        | cons c b =>
          simp only [List.nil_append, List.cons_append] at h
          subst h
          have h1 := hx c (by simp)
          have h2 := hb c (by simp)
          omega
      | cons c a ih =>
        intro b x y ha hb hx hy h
        cases b with
        | nil =>
          simp only [List.nil_append, List.cons_append] at h
          subst h
          have h1 := hy c (by simp)
          have h2 := ha c (by simp)
          omega
        | cons d b =>
          simp only [List.cons_append, List.cons.injEq] at h
          obtain ⟨q1, q2⟩ := ih b x y (fun c hc => ha c (by simp [hc])) (fun c hc => hb c (by simp [hc])) hx hy h.2
          exact ⟨by rw [h.1, q1], q2⟩
    obtain ⟨q1, q2⟩ := key _ _ _ _ (fun c hc => (hw c hc).1) (fun c hc => (hv c hc).1) hx hy h
    exact ⟨by rw [str_ext q1], q2⟩
  | .leaf w, .node a b, ht, hu, x, y, hx, hy, h => by
    rw [T.signs_node] at h
    have hw := ht w (by simp [T.ls])
    have h : w.cps.toList ++ x = _ := h
    cases hc : w.cps.toList with
    | nil =>
      have := hw.1
      rw [str_len, ← Array.length_toList, hc] at this
      simp at this
    | cons c r =>
      rw [hc] at h
      simp only [List.cons_append, List.cons.injEq] at h
      have := (hw.2.2 c (by rw [hc]; simp)).1
      omega
  | .node a b, .leaf w, ht, hu, x, y, hx, hy, h => by
    rw [T.signs_node] at h
    have hw := hu w (by simp [T.ls])
    have h : _ = w.cps.toList ++ y := h
    cases hc : w.cps.toList with
    | nil =>
      have := hw.1
      rw [str_len, ← Array.length_toList, hc] at this
      simp at this
    | cons c r =>
      rw [hc] at h
      simp only [List.cons_append, List.cons.injEq] at h
      have := (hw.2.2 c (by rw [hc]; simp)).1
      omega
  | .node a b, .node c d, ht, hu, x, y, hx, hy, h => by
    rw [T.signs_node, T.signs_node] at h
    simp only [List.cons_append, List.append_assoc, List.cons.injEq, true_and, List.nil_append] at h
    obtain ⟨e1, h1⟩ := T.signs_inj a c ht.l hu.l _ _ (by simp) (by simp) h
    simp only [List.cons.injEq, true_and] at h1
    obtain ⟨e2, h2⟩ := T.signs_inj b d ht.r hu.r _ _ (by simp) (by simp) h1
    simp only [List.cons.injEq, true_and] at h2
    exact ⟨by rw [e1, e2], h2⟩
theorem T.text_inj {t u : T} (ht : t.Ok) (hu : u.Ok) (h : t.text = u.text) : t = u :=
  (T.signs_inj t u ht hu [] [] (by simp) (by simp) (by simp [T.signs, h])).1
/-! ### == of trees -/
def T.py : T → PyData
  | .leaf w => .str w
  | .node l r => .tuple [l.py, r.py]
theorem T.dpy : ∀ t : T, t.d.py = some t.py
  | .leaf w => rfl
  | .node l r => by
    show (D.pys [l.d, r.d]).map PyData.tuple = _
    simp [D.pys, T.dpy l, T.dpy r, T.py]
theorem T.py_lay : ∀ t : T, t.Ok → t.py.canLay0 = true
  | .leaf w, h => by
    have := (h w (by simp [T.ls])).ok
    simp [T.py, PyData.canLay0, PyData.strOk, this]
  | .node l r, h => by simp [T.py, PyData.canLay0, PyData.canLayAll0, T.py_lay l h.l, T.py_lay r h.r]
theorem T.py_depth : ∀ t : T, t.py.depth = t.depth
  | .leaf w => by simp [T.py, PyData.depth, T.depth]
  | .node l r => by simp [T.py, PyData.depth, PyData.depthAll, T.depth, T.py_depth l, T.py_depth r]
theorem T.pyS {t : T} (h : t.Ok) (hd : t.depth ≤ 64) : t.d.pyS = some t.py := by
  simp [D.pyS, T.dpy, SeqAt.shaped, T.py_lay t h, T.py_depth, hd]
theorem T.eqv : ∀ t u : T, PyData.eqv t.py u.py = true ↔ t = u
  | .leaf w, .leaf v => by simp [T.py, PyData.eqv]
  | .leaf w, .node l r => by simp [T.py, PyData.eqv]
  | .node l r, .leaf w => by simp [T.py, PyData.eqv]
  | .node a b, .node c d => by simp [T.py, PyData.eqv, PyData.eqvAll, T.eqv a c, T.eqv b d]
theorem T.eqv' (t u : T) : PyData.eqv t.py u.py = decide (t = u) := by
  have := T.eqv t u
  by_cases h : t = u
  · simp [h, (T.eqv u u).mpr rfl]
  · have q : PyData.eqv t.py u.py = false := by
      cases e : PyData.eqv t.py u.py with
      | false => rfl
      | true => exact absurd (this.mp e) h
    simp [h, q]
theorem T.opEq {S : Store} {t u : T} (ht : t.Ok) (hu : u.Ok) (h1 : t.depth ≤ 64) (h2 : u.depth ≤ 64) : opEq (.v t.d) (.v u.d) S = .ok (.v (.bl (decide (t = u)))) S := by
  rw [opEq_py (T.pyS ht h1) (T.pyS hu h2), T.eqv']
theorem T.opNe {S : Store} {t u : T} (ht : t.Ok) (hu : u.Ok) (h1 : t.depth ≤ 64) (h2 : u.depth ≤ 64) : opNe (.v t.d) (.v u.d) S = .ok (.v (.bl (!decide (t = u)))) S := by
  rw [opNe_py (T.pyS ht h1) (T.pyS hu h2), T.eqv']
@[simp] theorem isi_T_str (t : T) (S : Store) : biIsi [.v t.d, .v (.ty "str")] S = .ok (.v (.bl (match t with | .leaf _ => true | _ => false))) S := by
  cases t <;> simp [T.d]
@[simp] theorem isi_T_tup (t : T) (S : Store) : biIsi [.v t.d, .v (.ty "tuple")] S = .ok (.v (.bl (match t with | .node _ _ => true | _ => false))) S := by
  cases t <;> simp [T.d]
/-! ### lists of texts -/
def strOkB (x : Str) : Bool := x.cps.all (· < 0x110000)
theorem pys_strs : ∀ ns : List Str, D.pys (ns.map D.str) = some (ns.map PyData.str)
  | [] => rfl
  | n :: ns => by simp [D.pys, D.py, pys_strs ns]
theorem lay_strs : ∀ ns : List Str, (∀ x ∈ ns, strOkB x = true) → PyData.canLayAll0 (ns.map PyData.str) = true ∧ PyData.depthAll (ns.map PyData.str) = 0
  | [], _ => ⟨by simp [PyData.canLayAll0], by simp [PyData.depthAll]⟩
  | n :: ns, h => by
    obtain ⟨h1, h2⟩ := lay_strs ns fun x hx => h x (by simp [hx])
    have h3 : (n.cps.all (· < 0x110000)) = true := h n (by simp)
    exact ⟨by simp [PyData.canLayAll0, PyData.canLay0, PyData.strOk, h1, h3], by simp [PyData.depthAll, PyData.depth, h2]⟩
theorem pyS_lstrs {ns : List Str} (ok : ∀ x ∈ ns, strOkB x = true) : D.pyS (.lst (ns.map D.str)) = some (.list (ns.map PyData.str)) := by
  obtain ⟨h1, h2⟩ := lay_strs ns ok
  simp [D.pyS, D.py, pys_strs, SeqAt.shaped, PyData.canLay0, PyData.depth, h1, h2]
theorem eqv_strs : ∀ xs ys : List Str, PyData.eqvAll (xs.map PyData.str) (ys.map PyData.str) = decide (xs = ys)
  | [], [] => by simp [PyData.eqvAll]
  | [], y :: ys => by simp [PyData.eqvAll]
  | x :: xs, [] => by simp [PyData.eqvAll]
  | x :: xs, y :: ys => by
    simp only [List.map_cons, PyData.eqvAll, PyData.eqv, eqv_strs xs ys, List.cons.injEq]
    by_cases h1 : x = y <;> by_cases h2 : xs = ys <;> simp [h1, h2]
theorem opNe_lstrs {S : Store} {xs ys : List Str} (ok1 : ∀ x ∈ xs, strOkB x = true) (ok2 : ∀ x ∈ ys, strOkB x = true) : opNe (.v (.lst (xs.map D.str))) (.v (.lst (ys.map D.str))) S = .ok (.v (.bl (!decide (xs = ys)))) S := by
  rw [opNe_py (pyS_lstrs ok1) (pyS_lstrs ok2)]
  simp [PyData.eqv, eqv_strs]
theorem pys_ints : ∀ ns : List Int, D.pys (ns.map D.int) = some (ns.map PyData.int)
  | [] => rfl
  | n :: ns => by simp [D.pys, D.py, pys_ints ns]
theorem lay_ints : ∀ ns : List Int, PyData.canLayAll0 (ns.map PyData.int) = true ∧ PyData.depthAll (ns.map PyData.int) = 0
  | [] => ⟨by simp [PyData.canLayAll0], by simp [PyData.depthAll]⟩
  | n :: ns => by
    obtain ⟨h1, h2⟩ := lay_ints ns
    exact ⟨by simp [PyData.canLayAll0, PyData.canLay0, h1], by simp [PyData.depthAll, PyData.depth, h2]⟩
theorem pyS_kints (ns : List Int) : D.pyS (.kl (ns.map D.int)) = some (.list (ns.map PyData.int)) := by
  obtain ⟨h1, h2⟩ := lay_ints ns
  simp [D.pyS, D.py, pys_ints, SeqAt.shaped, PyData.canLay0, PyData.depth, h1, h2]
theorem pyS_lnil : D.pyS (.lst []) = some (.list []) := by
  simp [D.pyS, D.py, D.pys, SeqAt.shaped, PyData.canLay0, PyData.canLayAll0, PyData.depth, PyData.depthAll]
@[simp] theorem opNe_kints_nil {S : Store} (ns : List Int) : opNe (.v (.kl (ns.map D.int))) (.v (.lst [])) S = .ok (.v (.bl (!ns.isEmpty))) S := by
  rw [opNe_py (pyS_kints ns) pyS_lnil]
  cases ns <;> simp [PyData.eqv, PyData.eqvAll]
/-! ### slices from the start, to the end -/
theorem cutD_take {α : Type} (xs : List α) {k : Int} (h : 0 ≤ k) : cutD xs none (some k) = xs.take k.toNat := by
  unfold cutD
  rw [show HT.sIx xs.length 0 none = 0 from rfl, show HT.sIx xs.length xs.length (some k) = min k.toNat xs.length by unfold HT.sIx; simp only; rw [if_neg (by omega)]]
  rw [List.drop_zero, Nat.sub_zero]
  rcases Nat.le_total k.toNat xs.length with h | h
  · rw [Nat.min_eq_left h]
  · rw [Nat.min_eq_right h, List.take_of_length_le (Nat.le_refl _), List.take_of_length_le h]
theorem cutD_drop {α : Type} (xs : List α) {k : Int} (h : 0 ≤ k) : cutD xs (some k) none = xs.drop k.toNat := by
  unfold cutD
  rw [show HT.sIx xs.length xs.length none = xs.length from rfl, show HT.sIx xs.length 0 (some k) = min k.toNat xs.length by unfold HT.sIx; simp only; rw [if_neg (by omega)]]
  rcases Nat.le_total k.toNat xs.length with h | h
  · rw [Nat.min_eq_left h, List.take_of_length_le (by rw [List.length_drop]; exact Nat.le_refl _)]
  · rw [Nat.min_eq_right h, Nat.sub_self, List.take_zero, List.drop_of_length_le h]
theorem opSl_ref {S : Store} {n : Nat} {ds : List R} (h : S[n]? = some (.lst ds)) (lo hi : Option Int) : opSl (.ref n) lo hi S = .ok (.ref S.length) (S ++ [.lst (cutD ds lo hi)]) := by
  simp only [opSl, lstOf, lsOf_lst h]
theorem cutD_map {α β : Type} (f : α → β) (xs : List α) (lo hi : Option Int) : cutD (xs.map f) lo hi = (cutD xs lo hi).map f := by
  unfold cutD; simp
theorem opSl_lst {S : Store} (ds : List D) (lo hi : Option Int) : opSl (.v (.lst ds)) lo hi S = .ok (.ref S.length) (S ++ [.lst ((cutD ds lo hi).map .v)]) := by
  simp [opSl, lstOf, cutD_map]
theorem opSl_kl {S : Store} (ds : List D) (lo hi : Option Int) : opSl (.v (.kl ds)) lo hi S = .ok (.ref S.length) (S ++ [.lst ((cutD ds lo hi).map .v)]) := by
  simp [opSl, lstOf, cutD_map]
/-- slices by value -/
theorem popSl_lst {S : Store} (ds : List D) (lo hi : Option Int) : (opSl (.v (.lst ds)) lo hi S).bind (fun r S' => popV S r S') = .ok (.v (.lst (cutD ds lo hi))) S := by
  rw [opSl_lst]; exact popV_new S _
theorem popSl_kl {S : Store} (ds : List D) (lo hi : Option Int) : (opSl (.v (.kl ds)) lo hi S).bind (fun r S' => popV S r S') = .ok (.v (.lst (cutD ds lo hi))) S := by
  rw [opSl_kl]; exact popV_new S _
theorem popSl_lstU {S0 S : Store} (hu : Upd S0 S) (ds : List D) (lo hi : Option Int) : (opSl (.v (.lst ds)) lo hi S).bind (fun r S' => popV S0 r S') = .ok (.v (.lst (cutD ds lo hi))) S := by
  rw [opSl_lst]; exact popV_newU _ hu
@[simp] theorem opSl_tup {S : Store} (ds : List D) (lo hi : Option Int) : opSl (.v (.tup ds)) lo hi S = .ok (.v (.tup (cutD ds lo hi))) S := rfl
theorem rangeD_get {lo : Int} {n i : Nat} {d : R} (h : (rangeD lo n)[i]? = some d) : i < n ∧ d = .v (.int (lo + (i : Int))) := by
  have hi : i < n := by
    have := (List.getElem?_eq_some_iff.mp h).1
    simpa [rangeD] using this
  unfold rangeD at h
  rw [List.getElem?_map, List.getElem?_range hi] at h
  exact ⟨hi, by simpa using h.symm⟩
@[simp] theorem rangeD_len (lo : Int) (n : Nat) : (rangeD lo n).length = n := by simp [rangeD]
end M

/-! MZip: enumerate and zip of lists and tuples in any mix. -/
namespace M
open PySem PySem.Spec L2
open PyProof.Rows hiding St
/-! ### sequences: true a tuple's, false a list's -/
def SqS (K : PySem.W.Frag) (H : Hp) (k : Bool) (a : Addr) (xs : List V) : Prop := match k with
  | true => SqT K H a xs
  | false => SqL K H a xs
def ItS (k : Bool) (h : Heap) (it a : Addr) (i : Nat) : Prop := match k with
  | true => h.IsTupleIter it a i
  | false => h.IsListIter it a i
def InS (k : Bool) (h : Heap) (a : Addr) (items : Array Value) : Prop := match k with
  | true => h.IsTuple a items
  | false => h.IsList a items
def objS (k : Bool) (a : Addr) : Obj := match k with
  | true => { cls := .type "tuple_iterator", data := .fields #[.ref a, .int 0 0] }
  | false => { cls := .type "list_iterator", data := .fields #[.ref a, .int 0 0] }
section
variable {X : Cx} {pins : List (Addr × Obj)} {σ : St} {H : Hp} {s : Shared} {prog : Program} {w : World} {A : Around} {k : Bool} {a it : Addr} {xs ys : List V} {h h' : Heap} {i : Nat}
theorem sqS_at (I : Inv X pins σ H s) (q : SqS X.K H k a xs) : ∃ its : List Value, Vals xs its ∧ InS k s.heap a its.toArray := by
  cases k with
  | true =>
    obtain ⟨its, r, p, _⟩ := I.tuple q
    exact ⟨its, r, p⟩
  | false =>
    obtain ⟨its, r, p, _⟩ := I.list q
    exact ⟨its, r, p.isList⟩
theorem sqS_inj (I : Inv X pins σ H s) (q : SqS X.K H k a xs) (q' : SqS X.K H k a ys) : xs = ys := by
  cases k with
  | true => exact I.tuple_inj q q'
  | false => exact I.list_inj q q'
theorem drawsS (hh : A.handled = none) (k : Bool) (it a : Addr) (hne : a ≠ it) (items : Array Value) : Draws prog w A it [it, a] items.size (fun i v => items[i]? = some v) (fun i h => ItS k h it a i ∧ InS k h a items) := by
  cases k with
  | true => exact Draws.tuple hh it a hne items
  | false => exact Draws.list hh it a hne items
theorem beginsS (k : Bool) (a : Addr) (items : Array Value) : Begins (.ref a) (objS k a) fun h => InS k h a items := by
  cases k with
  | true => exact begins_tuple a items
  | false => exact begins_list a items
theorem itS_at (q : ItS k h it a i) (e : ∀ o, h.get? it = some o → h'.get? it = some o) : ItS k h' it a i := by
  cases k with
  | true => exact Heap.IsTupleIter.at q e
  | false => exact Heap.IsListIter.at q e
theorem itS_obj (q : ItS k h it a i) : ∃ o, h.get? it = some o ∧ ∀ v, o.data ≠ .cell v := by
  cases k with
  | true => obtain ⟨o, e, _, d⟩ := q; exact ⟨o, e, fun v z => by rw [d] at z; cases z⟩
  | false => obtain ⟨o, e, _, d⟩ := q; exact ⟨o, e, fun v z => by rw [d] at z; cases z⟩
theorem itS_new (e : h.get? it = some (objS k a)) : ItS k h it a 0 := by
  cases k with
  | true => exact ⟨_, e, rfl, rfl⟩
  | false => exact ⟨_, e, rfl, rfl⟩
theorem ne_it {items : Array Value} {b : Addr} (p : InS k h a items) (q : ItS k h it b i) : a ≠ it := fun e => by
  cases k with
  | true =>
    obtain ⟨o', p1, p2, _⟩ := p
    obtain ⟨o2, q1, q2, _⟩ := q
    rw [e, q1] at p1
    cases p1
    rw [q2] at p2
    exact absurd p2 (by decide)
  | false =>
    obtain ⟨o', p1, p2, _⟩ := p
    obtain ⟨o2, q1, q2, _⟩ := q
    rw [e, q1] at p1
    cases p1
    rw [q2] at p2
    exact absurd p2 (by decide)
theorem inS_lt {items : Array Value} (q : InS k h a items) : ∃ o, h.get? a = some o := by
  cases k with
  | true => obtain ⟨o, e, _⟩ := q; exact ⟨o, e⟩
  | false => obtain ⟨o, e, _⟩ := q; exact ⟨o, e⟩
end

/-! ### zip of two -/
def ItZ2 (K : PySem.W.Frag) (k1 k2 : Bool) (a b : Addr) : It :=
  ⟨fun i H => ∃ (xs ys : List V) (x y : V), SqS K H k1 a xs ∧ SqS K H k2 b ys ∧ xs[i]? = some x ∧ ys[i]? = some y,
    fun i H v H' => ∃ T x y, v = .ref T ∧ H T = none ∧ H' = upd H T (.tup [x, y]) ∧ (∀ xs, SqS K H k1 a xs → xs[i]? = some x) ∧ ∀ ys, SqS K H k2 b ys → ys[i]? = some y,
    fun i H => ∃ xs ys : List V, SqS K H k1 a xs ∧ SqS K H k2 b ys ∧ i ≤ xs.length ∧ i ≤ ys.length ∧ (i = xs.length ∨ i = ys.length)⟩
theorem turn_zip2 {P : Program} {w : World} {K : PySem.W.Frag} {elts : List Expr} {kk : Nat} {tpos : Pos} {k1 k2 : Bool} {a b z TI TO i1 i2 : Addr} (D : ZipSep2 z TI TO i1 i2 [i1, a] [i2, b]) :
    Turn P w K (.Tuple elts kk tpos) (ItZ2 K k1 k2 a b) [z, TI, TO, i1, i2] z (fun i h => IsZip h z TI TO .none ∧ IsTupOf2 h TI (.ref i1) (.ref i2) ∧ (∃ x y, IsTupOf2 h TO x y) ∧ ItS k1 h i1 a i ∧ ItS k2 h i2 b i) where
  mem := by simp
  obj := fun i h st c hc => by
    obtain ⟨hz, hTI, ⟨x, y, hTO⟩, h1, h2⟩ := st
    have e' : c = z ∨ c = TI ∨ c = TO ∨ c = i1 ∨ c = i2 := by simpa using hc
    rcases e' with q | q | q | q | q
    · rw [q]; exact ⟨_, hz, fun v q => nomatch q⟩
    · rw [q]; exact ⟨_, hTI, fun v q => nomatch q⟩
    · rw [q]; exact ⟨_, hTO, fun v q => nomatch q⟩
    · rw [q]; exact itS_obj h1
    · rw [q]; exact itS_obj h2
  keep := fun i h h' st k => by
    obtain ⟨hz, hTI, ⟨x, y, hTO⟩, h1, h2⟩ := st
    exact ⟨k z (by simp) _ hz, k TI (by simp) _ hTI, ⟨x, y, k TO (by simp) _ hTO⟩, itS_at h1 fun o q => k i1 (by simp) o q, itS_at h2 fun o q => k i2 (by simp) o q⟩
  item := by
    intro X hP hw hK hc i pins s σ H E I hf st hg
    subst hP hw hK
    obtain ⟨hz, hTI, ⟨x0, y0, hTO⟩, h1, h2⟩ := st
    obtain ⟨xs, ys, x, y, hqx, hqy, hx, hy⟩ := hg
    obtain ⟨its, rv, p⟩ := sqS_at I hqx
    obtain ⟨its2, rv2, p2⟩ := sqS_at I hqy
    obtain ⟨u, hu, ru⟩ := rv.get hx
    obtain ⟨u2, hu2, ru2⟩ := rv2.get hy
    have hzl : z < s.heap.objs.size := Heap.lt_size hz
    have hh : X.A.in1.handled = none := I.ok.hd hc
    have hn1 : a ≠ i1 := ne_it p h1
    have hn2 : b ≠ i2 := ne_it p2 h2
    have hl1 : i < its.toArray.size := by have := (List.getElem?_eq_some_iff.mp hu).1; simpa using this
    have hl2 : i < its2.toArray.size := by have := (List.getElem?_eq_some_iff.mp hu2).1; simpa using this
    refine wpAny_pyNext_zipD2_item D (drawsS hh k1 i1 a hn1 its.toArray) (drawsS hh k2 i2 b hn2 its2.toArray) hz hTI hTO ⟨h1, p⟩ ⟨h2, p2⟩ hl1 hl2 fun v1 v2 h' tk e1 e2 z' TO' h1' h2' hT hsz hk => ?_
    have ev1 : v1 = u := by
      have : its.toArray[i]? = some u := by simpa using hu
      rw [this] at e1; exact (Option.some.inj e1).symm
    have ev2 : v2 = u2 := by
      have : its2.toArray[i]? = some u2 := by simpa using hu2
      rw [this] at e2; exact (Option.some.inj e2).symm
    subst ev1 ev2
    refine ⟨_, rfl, wpAny_letOwnedTupleGo_zip (s := { s with heap := h', toks := tk }) z' fun h'' z'' sb => ?_⟩
    have hT2 : h''.get? s.heap.objs.size = some { cls := .type "tuple", data := .seq #[v1, v2] } := (sb.2 _ (Nat.ne_of_gt hzl)).trans hT
    have new : ObjOk X.prog X.w (upd H s.heap.objs.size (.tup [x, y])) h'' s.heap.objs.size (.tup [x, y]) :=
      ⟨by show 2 ≤ sizeLine; decide, [v1, v2], .cons ru (.cons ru2 .nil), ⟨_, hT2, rfl, _, rfl⟩⟩
    have I1 : Inv X pins σ (upd H s.heap.objs.size (.tup [x, y])) { s with heap := h'', toks := tk } :=
      I.turnedNew (t' := tk) (ch := [z, TI, TO, i1, i2]) (fun c o hb q => (sb.2 c (fun q' => hb (by simp [q']))).trans (hk c o (fun q' => hb (by simp [q'])) (fun q' => hb (by simp [q'])) (fun q' => hb (by simp [q'])) (fun q' => hb (by simp [q'])) q)) hf (Nat.le_refl _) new
    refine ⟨.ref s.heap.objs.size, _, I1, rfl, ⟨_, x, y, rfl, I.hok.fresh (Nat.le_refl _), rfl, fun l hl => by rw [sqS_inj I hl hqx]; exact hx, fun l hl => by rw [sqS_inj I hl hqy]; exact hy⟩, ⟨z'', ?_, ⟨v1, v2, ?_⟩, ?_, ?_⟩, fun c hcm => ?_⟩
    · exact (sb.2 _ D.TIz).trans (hk _ _ D.TIz D.TITO D.TIi1 D.TIi2 hTI)
    · exact (sb.2 _ D.TOz).trans TO'
    · exact itS_at h1'.1 fun o q => (sb.2 _ (Ne.symm D.zi1)).trans q
    · exact itS_at h2'.1 fun o q => (sb.2 _ (Ne.symm D.zi2)).trans q
    · have hlt : c < s.heap.objs.size := by
        have e' : c = z ∨ c = TI ∨ c = TO ∨ c = i1 ∨ c = i2 := by simpa using hcm
        rcases e' with q | q | q | q | q
        · rw [q]; exact hzl
        · rw [q]; exact Heap.lt_size hTI
        · rw [q]; exact Heap.lt_size hTO
        · rw [q]; obtain ⟨_, e1, _⟩ := itS_obj h1; exact Heap.lt_size e1
        · rw [q]; obtain ⟨_, e2, _⟩ := itS_obj h2; exact Heap.lt_size e2
      rw [upd_ne (Nat.ne_of_lt hlt)]
      exact (hf c hcm).1
  done := by
    intro X hP hw hK hc i pins s σ H E I hf st hg
    subst hP hw hK
    obtain ⟨hz, hTI, ⟨x0, y0, hTO⟩, h1, h2⟩ := st
    obtain ⟨xs, ys, hqx, hqy, hb1, hb2, hend⟩ := hg
    obtain ⟨its, rv, p⟩ := sqS_at I hqx
    obtain ⟨its2, rv2, p2⟩ := sqS_at I hqy
    have l1 := rv.length
    have l2 := rv2.length
    have hh : X.A.in1.handled = none := I.ok.hd hc
    have hn1 : a ≠ i1 := ne_it p h1
    have hn2 : b ≠ i2 := ne_it p2 h2
    exact wpAny_pyNext_zipD2_end D (drawsS hh k1 i1 a hn1 its.toArray) (drawsS hh k2 i2 b hn2 its2.toArray) hz hTI hTO ⟨h1, p⟩ ⟨h2, p2⟩ (by simp; omega) (by simp; omega) (by simp; omega) fun h' tk hk => ⟨rfl, I.turnedL (t' := tk) (ch := [z, TI, TO, i1, i2]) (fun c o hb q =>
      hk c o (fun q' => hb (by simp [q'])) (fun q' => hb (by simp [q'])) (fun q' => hb (by simp [q'])) (fun q' => hb (by simp [q'])) q) hf⟩
  self := fun A i s Q E st h => wpAny_pyIter_zip st.1 h
def iZip2 (K : PySem.W.Frag) (ta : TA) : TI := fun σ H R => ta σ H fun vs H1 => ∃ k1 k2 a b xs ys, vs = [.ref a, .ref b] ∧ SqS K H1 k1 a xs ∧ SqS K H1 k2 b ys ∧ R (ItZ2 K k1 k2 a b) H1
theorem pi_zip2 {X : Cx} {e e2 : Expr} {ta : TA} {p pos tpos : Pos} {elts : List Expr} {kk : Nat} (hg : Gl X "zip") (hm : X.mg "zip" = none) (ha : PA X [e, e2] ta)
    (hs : starEach [e, e2] X.env = (false, eval e X.env) :: starEach [e2] X.env := by rfl) (hpl : (backTo pos (starEach [e2] X.env)).any (·.1) = false := by rfl) :
    PI X (.Tuple elts kk tpos) (.Call (.Name "zip" p) [e, e2] [] pos) (iZip2 X.K ta) := by
  refine ⟨fun pins s σ H R I h => ?_⟩
  refine Call_ (ld_blt I hg hm PyProof.Rows.boot_zip (PyProof.Rows.callWith_type1 (thn (ha.run pos pins s σ H _ I h) fun us s1 ⟨vs, H1, I1, r1, q1⟩ => ?_) hs hpl))
  obtain ⟨k1, k2, a, b, xs, ys, ex, hqx, hqy, q⟩ := q1
  subst ex
  cases r1 with
  | cons r rr =>
    cases rr with
    | cons r' rr =>
      cases rr
      cases r
      cases r'
      have fresh5 : ∀ c, c ∈ [s1.heap.objs.size + 4, s1.heap.objs.size + 2, s1.heap.objs.size + 3, s1.heap.objs.size, s1.heap.objs.size + 1] → FpOk X pins H1 c := fun c hcm => by
        have e' : c = s1.heap.objs.size + 4 ∨ c = s1.heap.objs.size + 2 ∨ c = s1.heap.objs.size + 3 ∨ c = s1.heap.objs.size ∨ c = s1.heap.objs.size + 1 := by simpa using hcm
        have hle : s1.heap.objs.size ≤ c := by
          rcases e' with z | z | z | z | z
          · rw [z]; exact Nat.le_add_right _ _
          · rw [z]; exact Nat.le_add_right _ _
          · rw [z]; exact Nat.le_add_right _ _
          · rw [z]; exact Nat.le_refl _
          · rw [z]; exact Nat.le_add_right _ _
        exact I1.fpOk hle (I1.hok.fresh hle)
      obtain ⟨its, rv, p1⟩ := sqS_at I1 hqx
      obtain ⟨its2, rv2, p2⟩ := sqS_at I1 hqy
      obtain ⟨o1, ho1⟩ := inS_lt p1
      obtain ⟨o2, ho2⟩ := inS_lt p2
      refine zip_begins2 (beginsS k1 a its.toArray) (beginsS k2 b its2.toArray) p1 p2 fun h' hz hTI hTO h1 h2 hsz hk => wpAny_pyIter_zip hz ?_
      have I2 : Inv X pins σ H1 { s1 with heap := h' } := I1.kept (t' := s1.toks) hk
      exact ⟨s1.heap.objs.size + 4, [s1.heap.objs.size + 4, s1.heap.objs.size + 2, s1.heap.objs.size + 3, s1.heap.objs.size, s1.heap.objs.size + 1], _, _, H1, rfl, I2, turn_zip2 (zip_sep2 (fp1 := [a]) (fp2 := [b]) (fun c hc => by simp only [List.mem_singleton] at hc; subst hc; exact Heap.lt_size ho1) (fun c hc => by simp only [List.mem_singleton] at hc; subst hc; exact Heap.lt_size ho2)), ⟨hz, hTI, ⟨_, _, hTO⟩, itS_new h1, itS_new h2⟩, fresh5, q⟩
/-! ### enumerate -/
def ItE (K : PySem.W.Frag) (k : Bool) (a : Addr) : It :=
  ⟨fun i H => ∃ (xs : List V) (x : V), SqS K H k a xs ∧ xs[i]? = some x, fun i H v H' => ∃ T x, v = .ref T ∧ H T = none ∧ H' = upd H T (.tup [.int (i : Nat), x]) ∧ ∀ xs, SqS K H k a xs → xs[i]? = some x, fun i H => ∃ xs : List V, SqS K H k a xs ∧ xs.length = i⟩
theorem turn_enumS {P : Program} {w : World} {K : PySem.W.Frag} {elts : List Expr} {kk : Nat} {tpos : Pos} (k : Bool) (a e it : Addr) (hea : e ≠ a) :
    Turn P w K (.Tuple elts kk tpos) (ItE K k a) [e, it] e (fun i h => (∃ old, IsEnum h e it ((i : Nat) : Int) old) ∧ ItS k h it a i ∧ e ≠ it) where
  mem := by simp
  obj := fun i h st b hb => by
    obtain ⟨⟨old, he⟩, hi, _⟩ := st
    have e' : b = e ∨ b = it := by simpa using hb
    rcases e' with z | z
    · rw [z]; exact ⟨_, he, fun v q => nomatch q⟩
    · rw [z]; exact itS_obj hi
  keep := fun i h h' st k => let ⟨⟨old, he⟩, hi, hne⟩ := st; ⟨⟨old, k e (by simp) _ he⟩, itS_at hi fun o q => k it (by simp) o q, hne⟩
  item := by
    intro X hP hw hK hc i pins s σ H E I hf st hg
    subst hP hw hK
    obtain ⟨⟨old, he⟩, hit, hne⟩ := st
    obtain ⟨xs, x, hq, hx⟩ := hg
    obtain ⟨its, rv, p⟩ := sqS_at I hq
    obtain ⟨u, hu, ru⟩ := rv.get hx
    have hel : e < s.heap.objs.size := Heap.lt_size he
    have hil : it < s.heap.objs.size := by obtain ⟨_, q, _⟩ := itS_obj hit; exact Heap.lt_size q
    have hh : X.A.in1.handled = none := I.ok.hd hc
    have hn : a ≠ it := ne_it p hit
    have hl1 : i < its.toArray.size := by have := (List.getElem?_eq_some_iff.mp hu).1; simpa using this
    refine wpAny_pyNext_enum_itemC (drawsS hh k it a hn its.toArray) he ⟨hit, p⟩ hl1 hne (by simp [hne, hea]) fun v h' tk e1 ho hit' hT hsz hk => ?_
    have ev : v = u := by
      have : its.toArray[i]? = some u := by simpa using hu
      rw [this] at e1; exact (Option.some.inj e1).symm
    subst ev
    refine ⟨_, rfl, wpAny_letOwnedTupleGo_enum (s := { s with heap := h', toks := tk + 1 }) ho fun h'' he' sb => ?_⟩
    have hT2 : h''.get? s.heap.objs.size = some { cls := .type "tuple", data := .seq #[.int i tk, v] } := (sb.2 _ (Nat.ne_of_gt hel)).trans hT
    have new : ObjOk X.prog X.w (upd H s.heap.objs.size (.tup [.int (i : Nat), x])) h'' s.heap.objs.size (.tup [.int (i : Nat), x]) :=
      ⟨by show 2 ≤ sizeLine; decide, [.int i tk, v], .cons ⟨_, rfl⟩ (.cons ru .nil), ⟨_, hT2, rfl, _, rfl⟩⟩
    have I1 : Inv X pins σ (upd H s.heap.objs.size (.tup [.int (i : Nat), x])) { s with heap := h'', toks := tk + 1 } :=
      I.turnedNew (ch := [e, it]) (fun b ob hb q => (sb.2 b (fun z => hb (by simp [z]))).trans (hk b ob (fun z => hb (by simp [z])) (fun z => hb (by simp [z])) q)) hf (Nat.le_refl _) new
    refine ⟨.ref s.heap.objs.size, _, I1, rfl, ⟨_, x, rfl, I.hok.fresh (Nat.le_refl _), rfl, fun ys hy => by rw [sqS_inj I hy hq]; exact hx⟩, ⟨⟨v, ?_⟩, itS_at hit'.1 fun o q => (sb.2 it (Ne.symm hne)).trans q, hne⟩, fun b hb => ?_⟩
    · have e1 : ((i + 1 : Nat) : Int) = (i : Int) + 1 := by omega
      rw [e1]; exact he'
    · have hb' : b < s.heap.objs.size := by
        have e' : b = e ∨ b = it := by simpa using hb
        rcases e' with z | z
        · rw [z]; exact hel
        · rw [z]; exact hil
      rw [upd_ne (Nat.ne_of_lt hb')]
      exact (hf b hb).1
  done := by
    intro X hP hw hK hc i pins s σ H E I hf st hg
    subst hP hw hK
    obtain ⟨⟨old, he⟩, hit, hne⟩ := st
    obtain ⟨xs, hq, hx⟩ := hg
    obtain ⟨its, rv, p⟩ := sqS_at I hq
    obtain ⟨f0, f1, f2, f3, f4, f5⟩ := hf it (by simp)
    have hl := rv.length
    have hh : X.A.in1.handled = none := I.ok.hd hc
    have hn : a ≠ it := ne_it p hit
    have hi : its.toArray.size = i := by simp; omega
    exact wpAny_pyNext_enum_endD (drawsS hh k it a hn its.toArray) he (by rw [hi]; exact ⟨hit, p⟩) fun h' eb => ⟨rfl, I.turned (t' := s.toks) (fun b o hb q => eb b o hb q) f0 f1 f3 f4 f5⟩
  self := fun A i s Q E st h => let ⟨⟨_, he⟩, _⟩ := st; wpAny_pyIter_enum he h
def iEnumS (K : PySem.W.Frag) (ta : TA) : TI := fun σ H R => ta σ H fun vs H1 => ∃ k a xs, vs = [.ref a] ∧ SqS K H1 k a xs ∧ R (ItE K k a) H1
theorem meets_enumerate_newT (l : Addr) (items : Array Value) (n : Nat) (dct : Option Addr) (sl : Array (Option Value)) :
    Meets (Builtin.«enumerate.__new__» ⟨[.type "enumerate", .ref l], []⟩) (fun _ R s => s.heap.get? l = some { cls := .type "tuple", dict := dct, data := .seq items n, slots := sl } ∧
      R (.ok (.ret (.ref (s.heap.push { cls := .type "tuple_iterator", data := .fields #[.ref l, .int 0 0] }).objs.size)))
        { s with heap := (s.heap.push { cls := .type "tuple_iterator", data := .fields #[.ref l, .int 0 0] }).push { cls := .type "enumerate", data := .fields #[.none, .bool false, .ref s.heap.objs.size, rawInt 0, .none, .none] } }) :=
  .of_wp fun prog w A R s h => by
    obtain ⟨hp, g, d, tk, os⟩ := s; obtain ⟨hl, h⟩ := h
    have hsub := sub_enumerate
    have hL : Heap.IsTuple (Shared.heap ⟨hp, g, d, tk, os⟩) l items := ⟨_, hl, rfl, n, rfl⟩
    wp_walk using AutoSeq1.wpAny_loadPart' hl
    refine wpAny_stack_any fun st => wpAny_pure ?_
    split
    · rename_i c _ _ _ _ _
      cases (c == Value.type "enumerate")
      · wp_walk using AutoSeq1.wpAny_loadPart' hl, wpAny_pyIter_tuple hL
        exact ⟨_, rfl, h⟩
      · wp_walk using AutoSeq1.wpAny_loadPart' hl, wpAny_pyIter_tuple hL
        exact ⟨_, rfl, h⟩
    · wp_walk using AutoSeq1.wpAny_loadPart' hl, wpAny_pyIter_tuple hL
      exact ⟨_, rfl, h⟩
theorem call_enumerate_tup {prog : Program} {w : World} {A : Around} {E : Value → Shared → Prop} {s : Shared} {l : Addr} {items : Array Value} {Q : Value → Shared → Prop} (hL : s.heap.IsTuple l items)
    (h : ∀ h', IsEnum h' (s.heap.objs.size + 1) s.heap.objs.size 0 .none → h'.IsTupleIter s.heap.objs.size l 0 → h'.objs.size = s.heap.objs.size + 2 →
      (∀ b o, s.heap.get? b = some o → h'.get? b = some o) → Q (.ref (s.heap.objs.size + 1)) { s with heap := h' }) :
    wpAny (model prog w) A (call (.type "enumerate") [.ref l]) Q E s := by
  obtain ⟨⟨c, dct, dt, sl⟩, hl, hc, n, hd⟩ := hL
  replace hc : c = .type "tuple" := hc
  replace hd : dt = .seq items n := hd
  subst hc hd
  refine callType_new F.called_enumerate (by decide) (F.typeCall_enumerate_1 _) (F.newCall_enumerate_1 _) (fun obj => F.args_object_init_2 obj _) F.entry_enumerate_new
    (meets_enumerate_newT l items n dct sl) ⟨hl, ?_⟩
  have hz : (s.heap.push { cls := .type "tuple_iterator", data := .fields #[.ref l, .int 0 0] }).objs.size = s.heap.objs.size + 1 := Heap.size_push ..
  show _ ∧ _
  rw [hz]
  have he : IsEnum ((s.heap.push { cls := .type "tuple_iterator", data := .fields #[.ref l, .int 0 0] }).push
      { cls := .type "enumerate", data := .fields #[.none, .bool false, .ref s.heap.objs.size, rawInt 0, .none, .none] }) (s.heap.objs.size + 1) s.heap.objs.size 0 .none := by
    have := Heap.get?_push_size (s.heap.push { cls := .type "tuple_iterator", data := .fields #[.ref l, .int 0 0] })
      (o := { cls := .type "enumerate", data := .fields #[.none, .bool false, .ref s.heap.objs.size, rawInt 0, .none, .none] }) rfl
    rw [hz] at this; exact this
  refine ⟨⟨_, he, rfl⟩, h _ he ⟨_, Heap.get?_push_of_some _ (Heap.get?_push_size _ rfl), rfl, rfl⟩ (by rw [Heap.size_push, hz]) fun b o x => Heap.get?_push_of_some _ (Heap.get?_push_of_some _ x)⟩
theorem pi_enumS {X : Cx} {e : Expr} {ta : TA} {p pos tpos : Pos} {elts : List Expr} {kk : Nat} (hg : Gl X "enumerate") (hm : X.mg "enumerate" = none) (ha : PA X [e] ta) (hs : starEach [e] X.env = [(false, eval e X.env)] := by rfl) :
    PI X (.Tuple elts kk tpos) (.Call (.Name "enumerate" p) [e] [] pos) (iEnumS X.K ta) := by
  refine ⟨fun pins s σ H R I h => ?_⟩
  refine Call_ (ld_blt I hg hm boot_enumerate (PyProof.Rows.callWith_type1 (thn (ha.run pos pins s σ H _ I h) fun us s1 ⟨vs, H1, I1, r1, q1⟩ => ?_) hs rfl))
  obtain ⟨k, a, xs, ex, hq, q⟩ := q1
  subst ex
  cases r1 with
  | cons r rr =>
    cases rr
    cases r
    obtain ⟨its, rv, p'⟩ := sqS_at I1 hq
    obtain ⟨o1, ho1⟩ := inS_lt p'
    have fin : ∀ h', IsEnum h' (s1.heap.objs.size + 1) s1.heap.objs.size 0 .none → ItS k h' s1.heap.objs.size a 0 → (∀ b o, s1.heap.get? b = some o → h'.get? b = some o) → PIE X pins σ (.Tuple elts kk tpos) R (.ref (s1.heap.objs.size + 1)) { s1 with heap := h' } := fun h' he hit hk => by
      have I2 : Inv X pins σ H1 { s1 with heap := h' } := I1.kept (t' := s1.toks) hk
      refine ⟨s1.heap.objs.size + 1, [s1.heap.objs.size + 1, s1.heap.objs.size], _, _, H1, rfl, I2, turn_enumS k a (s1.heap.objs.size + 1) s1.heap.objs.size (fun z => ?_), ⟨⟨.none, he⟩, hit, Nat.succ_ne_self _⟩, fun b hb => ?_, q⟩
      · have := Heap.lt_size ho1
        rw [← z] at this
        exact absurd this (by simp)
      · have e' : b = s1.heap.objs.size + 1 ∨ b = s1.heap.objs.size := by simpa using hb
        have hle : s1.heap.objs.size ≤ b := by
          rcases e' with z | z
          · rw [z]; exact Nat.le_add_right _ _
          · rw [z]; exact Nat.le_refl _
        exact I1.fpOk hle (I1.hok.fresh hle)
    cases k with
    | true => exact call_enumerate_tup p' fun h' he hit hsz hk => wpAny_pyIter_enum he (fin h' he hit hk)
    | false => exact call_enumerate_list p' fun h' he hit hsz hk => wpAny_pyIter_enum he (fin h' he hit hk)

/-! ### the mirrors' sources -/
def valsOf : List R → Option (List D)
  | [] => some []
  | .v d :: r => (valsOf r).map (d :: ·)
  | _ => none
theorem valsOf_map : ∀ ds : List D, valsOf (ds.map .v) = some ds
  | [] => rfl
  | d :: ds => by simp [valsOf, valsOf_map ds]
theorem valsOf_eq : ∀ {rs : List R} {ds : List D}, valsOf rs = some ds → rs = ds.map .v
  | [], ds, h => by cases h; rfl
  | .v d :: r, ds, h => by
    obtain ⟨es, h1, h2⟩ := Option.map_eq_some_iff.mp (show (valsOf r).map (d :: ·) = some ds from h)
    subst h2
    rw [valsOf_eq h1]; rfl
  | .ref n :: r, ds, h => by cases h
/-- the items by value, and what must stand meanwhile -/
def seqP (S : Store) : R → Option (List D × List (Nat × MO))
  | .v (.tup ds) => some (ds, [])
  | .v (.lst ds) => some (ds, [])
  | .v (.kl ds) => some (ds, [])
  | .v _ => none
  | .ref n => match S[n]? with
    | some (.lst rs) => (valsOf rs).map fun ds => (ds, [(n, .lst rs)])
    | some (.fz (.lst ds)) => some (ds, [])
    | _ => none
section
variable {X : Cx} {E : St → XK} {a b e : Expr} {mr : MA} {K : PySem.W.Frag} {H : Hp} {ρ : Wd} {S : Store} {pos : Pos}
def SeqNow (K : PySem.W.Frag) (H : Hp) (ρ : Wd) (pins : List (Nat × MO)) (k : Bool) (a : Addr) (ds : List D) : Prop :=
  ∀ H2 ρ2 S2, Mo K H ρ H2 ρ2 → SR K H2 ρ2 S2 → pinsOk pins S2 → ∃ xs, SqS K H2 k a xs ∧ RpA K H2 ρ2 xs ds
theorem SeqNow.app {q : List (Nat × MO)} {k : Bool} {a : Addr} {ds : List D} : ∀ {p : List (Nat × MO)}, SeqNow K H ρ p k a ds → SeqNow K H ρ (p ++ q) k a ds ∧ SeqNow K H ρ (q ++ p) k a ds := by
  intro p h
  have l : ∀ (p q : List (Nat × MO)) (S : Store), pinsOk (p ++ q) S → pinsOk p S ∧ pinsOk q S := by
    intro p
    induction p with
    | nil => intro q S h; exact ⟨trivial, h⟩
    | cons x p ih => intro q S h; exact ⟨⟨h.1, (ih q S h.2).1⟩, (ih q S h.2).2⟩
  exact ⟨fun H2 ρ2 S2 mo s pk => h H2 ρ2 S2 mo s (l _ _ _ pk).1, fun H2 ρ2 S2 mo s pk => h H2 ρ2 S2 mo s (l _ _ _ pk).2⟩
theorem seqP_now (sr : SR K H ρ S) {v : V} {d : R} {ds : List D} {pins : List (Nat × MO)} (r : Rq K H ρ v d) (h : seqP S d = some (ds, pins)) : ∃ k a, v = .ref a ∧ SeqNow K H ρ pins k a ds ∧ pinsOk pins S := by
  cases r with
  | v r =>
    cases r <;> first | (cases h; done) | skip
    case tup hs ra => cases h; exact ⟨true, _, rfl, fun H2 ρ2 S2 mo _ _ => ⟨_, sqT_at (mo.tup _ _ hs), ra.mo mo⟩, trivial⟩
    case lst hs ra => cases h; exact ⟨false, _, rfl, fun H2 ρ2 S2 mo _ _ => ⟨_, (hs.mono mo).sq, ra.mo mo⟩, trivial⟩
    case kl hs ra => cases h; exact ⟨false, _, rfl, fun H2 ρ2 S2 mo _ _ => ⟨_, (mo.kl _ _ hs).sq, ra.mo mo⟩, trivial⟩
  | @ref a n ea =>
    unfold seqP at h
    simp only at h
    split at h
    · rename_i rs hrs
      obtain ⟨es, h1, h2⟩ := Option.map_eq_some_iff.mp h
      cases h2
      have e := valsOf_eq h1
      refine ⟨false, a, rfl, fun H2 ρ2 S2 mo s pk => ?_, ⟨hrs, trivial⟩⟩
      obtain ⟨xs, hu, ra⟩ := s.obj n a _ (mo.ref _ _ ea) pk.1
      rw [e] at ra
      exact ⟨xs, .inl (.inl hu), ra.p⟩
    · rename_i ds' hds
      cases h
      have q : Rp K H ρ (.ref a) (.lst _) := sr.obj n a _ ea hds
      cases q with
      | lst hs ra => exact ⟨false, a, rfl, fun H2 ρ2 S2 mo _ _ => ⟨_, (hs.mono mo).sq, ra.mo mo⟩, trivial⟩
    · cases h
def enumI (ds : List D) : List R := ds.zipIdx.map fun p => .v (.tup [.int (p.2 : Int), p.1])
def zipI (ds es : List D) : List R := (ds.zip es).map fun p => .v (.tup [p.1, p.2])
theorem enumI_get (ds : List D) (i : Nat) : (enumI ds)[i]? = (ds[i]?).map fun d => .v (.tup [.int (i : Int), d]) := by
  unfold enumI
  rw [List.getElem?_map, List.getElem?_zipIdx]
  cases ds[i]? <;> simp
@[simp] theorem enumI_len (ds : List D) : (enumI ds).length = ds.length := by simp [enumI]
@[simp] theorem zipI_len (ds es : List D) : (zipI ds es).length = min ds.length es.length := by simp [zipI]
theorem okSrc_enum {k : Bool} {a : Addr} {ds : List D} {pins : List (Nat × MO)} (h : SeqNow K H ρ pins k a ds) : okSrc K ⟨enumI ds, pins⟩ H ρ (ItE K k a) := by
  have w : Walk (ItE K k a) ds.length (fun H => ∃ xs, SqS K H k a xs ∧ xs.length = ds.length) (fun i H v H' => ∃ T x, v = .ref T ∧ H T = none ∧ H' = upd H T (.tup [.int (i : Nat), x]) ∧ ∀ xs, SqS K H k a xs → xs[i]? = some x) := by
    refine ⟨fun i H hi q => ?_, fun H q => ?_, fun _ _ _ _ _ _ y => y⟩
    · obtain ⟨xs, q, hl⟩ := q
      exact ⟨xs, xs[i]'(by omega), q, by simp [hl, hi]⟩
    · obtain ⟨xs, q, hl⟩ := q
      exact ⟨xs, q, hl⟩
  refine ⟨_, _, by rw [show (⟨enumI ds, pins⟩ : Src).items.length = ds.length from enumI_len ds]; exact w, fun H2 ρ2 S2 mo s pk => ?_, ?_⟩
  · obtain ⟨xs, q, r⟩ := h H2 ρ2 S2 mo s pk
    exact ⟨xs, q, r.length⟩
  · rintro i H2 v H3 ρ2 S2 hi mo s2 pk ⟨T, x, rfl, hT, rfl, hx⟩
    obtain ⟨xs, q, r⟩ := h H2 ρ2 S2 mo s2 pk
    obtain ⟨d, hd, rd⟩ := r.get' (hx xs q)
    have mv : Mo K H2 ρ2 (upd H2 T (.tup [.int (i : Nat), x])) ρ2 := .new s2 hT
    exact ⟨.v (.tup [.int (i : Int), d]), by show (enumI ds)[i]? = _; rw [enumI_get, hd]; rfl, mv, s2.newT hT, .v (.tup upd_same (.cons (.int _) (.cons (rd.mo mv) .nil)))⟩
theorem okSrc_zip {k1 k2 : Bool} {a b : Addr} {ds es : List D} {pins : List (Nat × MO)} (h1 : SeqNow K H ρ pins k1 a ds) (h2 : SeqNow K H ρ pins k2 b es) : okSrc K ⟨zipI ds es, pins⟩ H ρ (ItZ2 K k1 k2 a b) := by
  have w : Walk (ItZ2 K k1 k2 a b) (min ds.length es.length) (fun H => ∃ xs ys, SqS K H k1 a xs ∧ SqS K H k2 b ys ∧ xs.length = ds.length ∧ ys.length = es.length)
      (fun i H v H' => ∃ T x y, v = .ref T ∧ H T = none ∧ H' = upd H T (.tup [x, y]) ∧ (∀ xs, SqS K H k1 a xs → xs[i]? = some x) ∧ ∀ ys, SqS K H k2 b ys → ys[i]? = some y) := by
    refine ⟨fun i H hi q => ?_, fun H q => ?_, fun _ _ _ _ _ _ y => y⟩
    · obtain ⟨xs, ys, q, q', hl, hl'⟩ := q
      exact ⟨xs, ys, xs[i]'(by omega), ys[i]'(by omega), q, q', List.getElem?_eq_getElem _, List.getElem?_eq_getElem _⟩
    · obtain ⟨xs, ys, q, q', hl, hl'⟩ := q
      exact ⟨xs, ys, q, q', by omega, by omega, by omega⟩
  refine ⟨_, _, by rw [show (⟨zipI ds es, pins⟩ : Src).items.length = min ds.length es.length from zipI_len ds es]; exact w, fun H2 ρ2 S2 mo s pk => ?_, ?_⟩
  · obtain ⟨xs, q, r⟩ := h1 H2 ρ2 S2 mo s pk
    obtain ⟨ys, q', r'⟩ := h2 H2 ρ2 S2 mo s pk
    exact ⟨xs, ys, q, q', r.length, r'.length⟩
  · rintro i H2 v H3 ρ2 S2 hi mo s2 pk ⟨T, x, y, rfl, hT, rfl, hx, hy⟩
    obtain ⟨xs, q, r⟩ := h1 H2 ρ2 S2 mo s2 pk
    obtain ⟨ys, q', r'⟩ := h2 H2 ρ2 S2 mo s2 pk
    obtain ⟨d, hd, rd⟩ := r.get' (hx xs q)
    obtain ⟨d', hd', rd'⟩ := r'.get' (hy ys q')
    have mv : Mo K H2 ρ2 (upd H2 T (.tup [x, y])) ρ2 := .new s2 hT
    refine ⟨.v (.tup [d, d']), ?_, mv, s2.newT hT, .v (.tup upd_same (.cons (rd.mo mv) (.cons (rd'.mo mv) .nil)))⟩
    show (zipI ds es)[i]? = _
    unfold zipI
    rw [List.getElem?_map, show (ds.zip es)[i]? = some (d, d') from List.getElem?_zip_eq_some.mpr ⟨hd, hd'⟩]
    rfl
def en1 (ds : List R) (S : Store) : Out Src := match ds with
  | [d] => match seqP S d with
    | some p => .ok ⟨enumI p.1, p.2⟩ S
    | none => .no
  | _ => .no
def srcEnum (r : MA) : MI := fun m S => (r m S).bind en1
def zp2 (ds : List R) (S : Store) : Out Src := match ds with
  | [d, e] => match seqP S d, seqP S e with
    | some p, some q => .ok ⟨zipI p.1 q.1, p.2 ++ q.2⟩ S
    | _, _ => .no
  | _ => .no
def srcZip (r : MA) : MI := fun m S => (r m S).bind zp2
theorem pim_enum {p tpos : Pos} {elts : List Expr} {kk : Nat} (hg : Gl X "enumerate") (hm : X.mg "enumerate" = none) (ha : PA X [a] (tA X.K E mr)) (hs : starEach [a] X.env = [(false, eval a X.env)] := by rfl) : PI X (.Tuple elts kk tpos) (.Call (.Name "enumerate" p) [a] [] pos) (tI X.K E (srcEnum mr)) := by
  refine PI.imp (pi_enumS hg hm ha hs) ?_
  intro σ H R h
  refine tI_of h fun ds S1 xs H1 ρ1 s1 r1 h1 => ?_
  split at h1
  · rename_i it S' ho
    unfold en1 at ho
    split at ho
    · split at ho
      · rename_i p hp
        cases ho
        obtain ⟨v, rfl, r2⟩ := r1.one
        obtain ⟨k, a', rfl, hn, hpk⟩ := seqP_now s1 r2 (ds := p.1) (pins := p.2) hp
        obtain ⟨ys, q, _⟩ := hn H1 ρ1 _ .refl s1 hpk
        exact ⟨k, a', ys, rfl, q, h1 _ H1 ρ1 .refl s1 (okSrc_enum hn)⟩
      · cases ho
    · cases ho
  · rename_i ho
    unfold en1 at ho
    split at ho
    · split at ho <;> cases ho
    · cases ho
  · exact h1.elim
theorem pim_zip {p tpos : Pos} {elts : List Expr} {kk : Nat} (hg : Gl X "zip") (hm : X.mg "zip" = none) (ha : PA X [a, b] (tA X.K E mr)) (hs : starEach [a, b] X.env = (false, eval a X.env) :: starEach [b] X.env := by rfl) (hpl : (backTo pos (starEach [b] X.env)).any (·.1) = false := by rfl) : PI X (.Tuple elts kk tpos) (.Call (.Name "zip" p) [a, b] [] pos) (tI X.K E (srcZip mr)) := by
  refine PI.imp (pi_zip2 hg hm ha hs hpl) ?_
  intro σ H R h
  refine tI_of h fun ds S1 xs H1 ρ1 s1 r1 h1 => ?_
  split at h1
  · rename_i it S' ho
    unfold zp2 at ho
    split at ho
    · split at ho
      · rename_i p q hp hq
        cases ho
        obtain ⟨v, w, rfl, r2, r3⟩ := r1.two
        obtain ⟨k, a', rfl, hn, hpk⟩ := seqP_now s1 r2 (ds := p.1) (pins := p.2) hp
        obtain ⟨k', b', rfl, hn', hpk'⟩ := seqP_now s1 r3 (ds := q.1) (pins := q.2) hq
        obtain ⟨ys, q1, _⟩ := hn H1 ρ1 _ .refl s1 hpk
        obtain ⟨zs, q2, _⟩ := hn' H1 ρ1 _ .refl s1 hpk'
        exact ⟨k, k', a', b', ys, zs, rfl, q1, q2, h1 _ H1 ρ1 .refl s1 (okSrc_zip (hn.app).1 (hn'.app).2)⟩
      · cases ho
    · cases ho
  · rename_i ho
    unfold zp2 at ho
    split at ho
    · split at ho <;> cases ho
    · cases ho
  · exact h1.elim
end
section
variable {S : Store} {r : MA} {m : Env}
@[simp] theorem srcEnum_eq : srcEnum r m S = (r m S).bind en1 := id rfl
@[simp] theorem srcZip_eq : srcZip r m S = (r m S).bind zp2 := id rfl
@[simp] theorem en1_tup (ds : List D) : en1 [.v (.tup ds)] S = .ok ⟨enumI ds, []⟩ S := id rfl
@[simp] theorem en1_lst (ds : List D) : en1 [.v (.lst ds)] S = .ok ⟨enumI ds, []⟩ S := id rfl
theorem en1_ref {n : Nat} {ds : List D} (h : S[n]? = some (.lst (ds.map .v))) : en1 [.ref n] S = .ok ⟨enumI ds, [(n, .lst (ds.map .v))]⟩ S := by simp [en1, seqP, h, valsOf_map]
@[simp] theorem zp2_tt (ds es : List D) : zp2 [.v (.tup ds), .v (.tup es)] S = .ok ⟨zipI ds es, []⟩ S := id rfl
@[simp] theorem zp2_tl (ds es : List D) : zp2 [.v (.tup ds), .v (.lst es)] S = .ok ⟨zipI ds es, []⟩ S := id rfl
@[simp] theorem zp2_lt (ds es : List D) : zp2 [.v (.lst ds), .v (.tup es)] S = .ok ⟨zipI ds es, []⟩ S := id rfl
@[simp] theorem zp2_ll (ds es : List D) : zp2 [.v (.lst ds), .v (.lst es)] S = .ok ⟨zipI ds es, []⟩ S := id rfl
end
end M

/-! MExt: more of the language, and what specifications lean on. -/
namespace L2
open PySem PySem.Spec
theorem Room.units65 {k : Nat} {A : Around} (r : Room k A) : A.units + 65 < cLine := by have := r.un; omega
end L2
namespace M
open PySem PySem.Spec L2
open PyProof.Rows hiding St
def mtExt (d : R) (ds : List R) (S : Store) : Out R := if ds.all notKl = true then mtExtend d ds S else .no
theorem mtm_ext {X : Cx} : MtMm X "list.extend" mtExt := mtm_extend
section
variable {S : Store}
theorem opIn_sign (c : Nat) (z : Str) : opIn (.v (.str ⟨#[c]⟩)) (.v (.str z)) S = .ok (.v (.bl (decide (c ∈ z.cps.toList)))) S := by
  unfold opIn inM signOf
  simp
theorem opIn_py {d e : D} {p : PyData} {ps : List PyData} (h1 : d.pyS = some p) (h2 : e.pyS = some (.list ps)) (hd : ∀ x y, d = .str x → e ≠ .str y) : opIn (.v d) (.v e) S = .ok (.v (.bl (ps.any fun z => PyData.eqv z p))) S := by
  have : inM S (.v d) (.v e) = some (ps.any fun z => PyData.eqv z p) := by
    unfold inM
    split
    · rename_i x z he1 he2
      cases he1; cases he2
      exact absurd rfl (hd _ _ rfl)
    · simp [h1, h2, seqPy]
  unfold opIn; rw [this]
theorem mtExt_ref {n : Nat} {xs zs : List R} {y : R} (h : S[n]? = some (.lst xs)) (hy : lstOf S y = some zs) (hk : notKl y = true) (hz : xs.length + zs.length ≤ sizeLine) : mtExt (.ref n) [y] S = .ok (.v .non) (S.set n (.lst (xs ++ zs))) := by
  unfold mtExt mtExtend
  simp [hk, h, hy, hz]
/-- text * number -/
def strRep (x : Str) (k : Nat) : Str := ⟨(List.replicate k x.cps).foldl (· ++ ·) #[]⟩
def opMulS (d e : R) (S : Store) : Out R := match d, e with
  | .v (.str x), .v (.int k) => if 2 ≤ k ∧ k ≤ 1000000 ∧ 1 ≤ x.length ∧ x.length ≤ 1000000 ∧ x.length * k.toNat ≤ 16777216 then .ok (.v (.str (strRep x k.toNat))) S else .no
  | d, e => opMul d e S
theorem opm_mulS {X : Cx} : OpM X (binaryOp .Mult) opMulS := by
  rintro pins s σ H x y v u Q I rx ry ⟨E, ρ, S, d, e, sr, rd, re, h⟩
  unfold opMulS at h
  split at h
  · rename_i x' k
    split at h
    · rename_i hz
      cases rd with
      | v rd =>
      cases rd
      cases re with
      | v re =>
      cases re
      obtain ⟨t, rfl⟩ := rx
      obtain ⟨t', rfl⟩ := ry
      obtain ⟨z1, z2, z3, z4, z5⟩ := hz
      have hk : ¬ k < 1 := by omega
      have h1 : (k == 1 || x'.length == 0) = false := by
        rw [Bool.or_eq_false_iff]; constructor
        · simp; omega
        · simp; omega
      have hl : Builtin.Str.tooLong (x'.length * k.toNat) = false := by
        unfold Builtin.Str.tooLong
        rw [sizeLine_eq]
        exact decide_eq_false (by omega)
      refine P.mul_str (by rw [decide_eq_false (by omega), decide_eq_false (by omega)]; rfl) (fun _ _ => ?_) (fun _ _ => hl) ?_
      · have e1 : (x'.length : Int) * k ≤ 2 ^ 63 - 1 := by
          have e2 : (x'.length : Int) * k = ((x'.length * k.toNat : Nat) : Int) := by rw [Int.natCast_mul, Int.toNat_of_nonneg (by omega)]
          rw [e2]; omega
        have := Int.le_ediv_of_mul_le (by omega) e1
        omega
      · rw [if_neg hk, h1]
        refine ⟨fits_reps hl, ?_⟩
        exact ⟨.str _, H, I.tok _, ⟨_, rfl⟩, h _ _ _ .refl sr (.str _)⟩
    · exact h.elim
  · exact opm_mul pins s σ H _ _ v u Q I rx ry ⟨E, ρ, S, d, e, sr, rd, re, h⟩
/-- isinstance of data -/
def isStr : D → Bool
  | .str _ => true
  | .txt => true
  | _ => false
def isTup : D → Bool
  | .tup _ => true
  | _ => false
def notTy : D → Bool
  | .ty _ => false
  | .txt => false
  | .kt _ => false
  | _ => true
end
end M

/-! MDict: dicts with whole numbers and texts as keys. -/
namespace M
open PySem PySem.Spec L2
open PyProof.Rows hiding St
variable {K : PySem.W.Frag} {H H' : Hp} {ρ ρ' : Wd} {S : Store}
def keyOf : R → Option Key
  | .v (.int i) => some (.inl i)
  | .v (.str x) => some (.inr x)
  | _ => none
theorem keyOf_kV {v : V} {d : R} {k : Key} (r : Rq K H ρ v d) (h : keyOf d = some k) : v = kV k := by
  cases r with
  | v r => cases r <;> first | (cases h; rfl) | cases h
  | ref e => cases h
def keysOf : List (R × R) → Option (List (Key × R))
  | [] => some []
  | p :: ps => match keyOf p.1, keysOf ps with
    | some k, some r => some ((k, p.2) :: r)
    | _, _ => none
/-- in its place, or at the end -/
def putR (kvs : List (Key × R)) (k : Key) (v : R) : List (Key × R) :=
  if (kvs.any fun kv => decide (kv.1 = k)) = true then kvs.map (fun kv => if kv.1 = k then (kv.1, v) else kv) else kvs ++ [(k, v)]
def valR (kvs : List (Key × R)) (k : Key) : Option R := (kvs.find? fun kv => decide (kv.1 = k)).map (·.2)
def mergeR (kvs more : List (Key × R)) : List (Key × R) := more.foldl (fun acc kv => putR acc kv.1 kv.2) kvs
theorem RpP.any {vs : List (Key × V)} {ds : List (Key × R)} (h : RpP K H ρ vs ds) (k : Key) : (vs.any fun kv => decide (kv.1 = k)) = ds.any fun kv => decide (kv.1 = k) := by
  unfold RpP at h
  induction h with
  | nil => rfl
  | cons h1 h2 ih => rw [List.any_cons, List.any_cons, ih, h1.1]
theorem RpP.append {vs ws : List (Key × V)} {ds es : List (Key × R)} (h : RpP K H ρ vs ds) (k : RpP K H ρ ws es) : RpP K H ρ (vs ++ ws) (ds ++ es) := by
  unfold RpP at h
  induction h with
  | nil => exact k
  | cons h1 h2 ih => exact .cons h1 ih
theorem RpP.repl {vs : List (Key × V)} {ds : List (Key × R)} (h : RpP K H ρ vs ds) (k : Key) {v : V} {d : R} (r : Rq K H ρ v d) : RpP K H ρ (vs.map fun kv => if kv.1 = k then (kv.1, v) else kv) (ds.map fun kv => if kv.1 = k then (kv.1, d) else kv) := by
  unfold RpP at h
  induction h with
  | nil => exact .nil
  | @cons p q ps qs h1 h2 ih =>
    refine .cons ?_ ih
    by_cases hk : p.1 = k
    · have hk' : q.1 = k := by rw [← h1.1]; exact hk
      simp only [if_pos hk, if_pos hk']
      exact ⟨h1.1, r⟩
    · have hk' : ¬ q.1 = k := by rw [← h1.1]; exact hk
      simp only [if_neg hk, if_neg hk']
      exact h1
theorem RpP.put {vs : List (Key × V)} {ds : List (Key × R)} (h : RpP K H ρ vs ds) (k : Key) {v : V} {d : R} (r : Rq K H ρ v d) : RpP K H ρ (putK vs k v) (putR ds k d) := by
  unfold putK putR
  rw [h.any k]
  split
  · exact h.repl k r
  · exact h.append (.cons ⟨rfl, r⟩ .nil)
theorem RpP.val {vs : List (Key × V)} {ds : List (Key × R)} (h : RpP K H ρ vs ds) (k : Key) : (valV vs k = none ∧ valR ds k = none) ∨ ∃ v d, valV vs k = some v ∧ valR ds k = some d ∧ Rq K H ρ v d := by
  unfold RpP at h
  induction h with
  | nil => exact .inl ⟨rfl, rfl⟩
  | @cons p q ps qs h1 h2 ih =>
    by_cases hk : p.1 = k
    · have hk' : q.1 = k := by rw [← h1.1]; exact hk
      refine .inr ⟨p.2, q.2, valV_pos hk, ?_, h1.2⟩
      simp [valR, List.find?_cons, hk']
    · have hk' : ¬ q.1 = k := by rw [← h1.1]; exact hk
      rw [valV_neg hk]
      have : valR (q :: qs) k = valR qs k := by simp [valR, List.find?_cons, hk']
      rw [this]
      exact ih
theorem RpP.merge {ws : List (Key × V)} {es : List (Key × R)} (g : RpP K H ρ ws es) : ∀ {vs : List (Key × V)} {ds : List (Key × R)}, RpP K H ρ vs ds → RpP K H ρ (mergeK vs ws) (mergeR ds es) := by
  unfold RpP at g
  induction g with
  | nil => exact fun h => h
  | @cons p q ps qs h1 h2 ih =>
    intro vs ds h
    have := RpP.put h p.1 h1.2
    rw [show putR ds p.1 q.2 = putR ds q.1 q.2 by rw [h1.1]] at this
    exact ih this
/-- a cell that is a dict -/
theorem SR.dK {n : Nat} {a : Addr} {ds : List (Key × R)} (sr : SR K H ρ S) (e : ρ.r[n]? = some a) (h : S[n]? = some (.dK ds)) : ∃ xs, H a = some (.dK xs) ∧ RpP K H ρ xs ds ∧ ¬ ρ.z a := by
  obtain ⟨xs, hu, r⟩ := sr.obj n a _ e h
  exact ⟨xs, hu, r, sr.lv n a _ e h trivial⟩
theorem RO.newD {E : XK} {ds : List (Key × R)} {xs : List (Key × V)} {Q : VK} (sr : SR K H ρ S) (r : RpP K H ρ xs ds) (h : RO K (relD K) E H ρ (.ok (.ref S.length) (S ++ [.dK ds])) Q) {p : Addr} (hp : H p = none) : Q (.ref p) (upd H p (.dK xs)) := by
  have mo : Mo K H ρ (upd H p (.dK xs)) ⟨ρ.r ++ [p], ρ.z⟩ := .newR sr hp
  refine h _ _ ⟨ρ.r ++ [p], ρ.z⟩ mo (sr.new hp ⟨xs, upd_same, r.mo mo⟩) (.ref ?_)
  show (ρ.r ++ [p])[S.length]? = _
  rw [List.getElem?_append_right (by rw [sr.len]; exact Nat.le_refl _), sr.len, Nat.sub_self]
  rfl
/-! ### displays -/
def mDct0 : ME := fun _ S => .ok (.ref S.length) (S ++ [.dK []])
def mPairs : List (ME × ME) → Env → Store → Out (List (R × R))
  | [], _, S => .ok [] S
  | p :: r, m, S => (p.1 m S).bind fun x S1 => (p.2 m S1).bind fun y S2 => (mPairs r m S2).bind fun ps S3 => .ok ((x, y) :: ps) S3
def mDct (fs : List (ME × ME)) : ME := fun m S => (mPairs fs m (S ++ [.dK []])).bind fun ps S1 => match S1[S.length]?, keysOf ps with
  | some (.dK []), some kvs => if kvs.length ≤ 15 then .ok (.ref S.length) (S1.set S.length (.dK (mergeR [] kvs))) else .no
  | _, _ => .no
def relPs (K : PySem.W.Frag) : Hp → Wd → List (V × V) → List (R × R) → Prop := fun H ρ => Paired fun p q => Rq K H ρ p.1 q.1 ∧ Rq K H ρ p.2 q.2
theorem relPs.keys : ∀ {ps : List (V × V)} {qs : List (R × R)} {kds : List (Key × R)}, relPs K H ρ ps qs → keysOf qs = some kds → ∃ kvs : List (Key × V), ps = kvs.map (fun kv => (kV kv.1, kv.2)) ∧ RpP K H ρ kvs kds
  | _, [], kds, h, e => by
    cases h
    cases e
    exact ⟨[], rfl, .nil⟩
  | _, q :: qs, kds, h, e => by
    cases h with
    | @cons p _ ps _ h1 h2 =>
      unfold keysOf at e
      split at e
      · rename_i k r hk hr
        cases e
        obtain ⟨kvs, rfl, h3⟩ := relPs.keys h2 hr
        have := keyOf_kV h1.1 hk
        exact ⟨(k, p.2) :: kvs, by rw [List.map_cons, ← this], .cons ⟨rfl, h1.2⟩ h3⟩
      · cases e
section
variable {X : Cx} {E : St → XK} {pos : Pos}
theorem pm_dct0 : PE X (.Dict [] [] pos) (tE X.K E mDct0) := by
  refine PE.imp pe_dnewK ?_
  rintro σ H Q ⟨ρ, m, S, sr, er, h⟩
  exact fun p hp => RO.newD sr .nil h hp
theorem tPairs_of {σ : St} : ∀ (fs : List (ME × ME)) (H : Hp) (ρ : Wd) (m : Env) (S : Store) (Q : List (V × V) → Hp → Prop), SR K H ρ S → EnvR K H ρ σ m → RO K (relPs K) (E σ) H ρ (mPairs fs m S) Q → tPairs (fs.map fun p => (tE K E p.1, tE K E p.2)) σ H Q
  | [], H, ρ, m, S, Q, sr, er, h => h _ _ ρ .refl sr .nil
  | p :: r, H, ρ, m, S, Q, sr, er, h => by
    refine ⟨ρ, m, S, sr, er, RO.bind h fun d S1 v H1 ρ1 m1 s1 r1 h1 => ?_⟩
    refine ⟨ρ1, m, S1, s1, er.mo m1, RO.bind h1 fun d2 S2 v2 H2 ρ2 m2 s2 r2 h2 => ?_⟩
    refine tPairs_of r H2 ρ2 m S2 _ s2 ((er.mo m1).mo m2) (RO.bind h2 fun d3 S3 v3 H3 ρ3 m3 s3 r3 h3 => ?_)
    exact h3 _ _ ρ3 .refl s3 (.cons ⟨(r1.mo m2).mo m3, r2.mo m3⟩ r3)
theorem pm_dct {keys : List (Option Expr)} {values : List Expr} {fs : List (ME × ME)} (h : PPs X pos keys values (fs.map fun p => (tE X.K E p.1, tE X.K E p.2))) (hall : keys.all (·.isSome) = true := by rfl) (hl : keys.length = values.length := by rfl) (h0 : keys ≠ [] := by exact List.cons_ne_nil _ _)
    (h15 : keys.length ≤ 15 := by decide) : PE X (.Dict keys values pos) (tE X.K E (mDct fs)) := by
  refine PE.imp (pe_disp h hall hl h0 h15) ?_
  rintro σ H Q ⟨ρ, m, S, sr, er, h⟩
  intro p hp
  have mo : Mo X.K H ρ (upd H p (.dK [])) ⟨ρ.r ++ [p], ρ.z⟩ := .newR sr hp
  have s0 : SR X.K (upd H p (.dK [])) ⟨ρ.r ++ [p], ρ.z⟩ (S ++ [.dK []]) := sr.new hp ⟨[], upd_same, .nil⟩
  refine tPairs_of fs _ _ m _ _ s0 (er.mo mo) (RO.bind (RO.mono h mo) fun d S1 v H1 ρ1 m1 s1 r1 h1 => ?_)
  have er1 : ρ1.r[S.length]? = some p := by
    refine m1.ref _ _ ?_
    show (ρ.r ++ [p])[S.length]? = _
    rw [List.getElem?_append_right (by rw [sr.len]; exact Nat.le_refl _), sr.len, Nat.sub_self]
    rfl
  split at h1
  · rename_i kds hc hk
    obtain ⟨xs, hx, rx, hz⟩ := s1.dK er1 hc
    cases rx
    obtain ⟨kvs, rfl, rk⟩ := relPs.keys r1 hk
    split at h1
    · rename_i h15
      refine ⟨hx, kvs, rfl, by rw [Paired.length rk]; exact h15, ?_⟩
      have mv : Mo X.K H1 ρ1 (upd H1 p (.dK (mergeK [] kvs))) ρ1 := .set hx trivial hz
      exact h1 _ _ ρ1 mv (s1.set er1 hx trivial hz ⟨_, upd_same, ((rk.merge .nil).mo mv)⟩) (.ref er1)
    · exact h1.elim
  · exact h1.elim
end
/-! ### d[k] of a cell: a list, a dict; its writing -/
def getC (x y : R) (S : Store) : Option R := match x with
  | .ref n => match S[n]? with
    | some (.lst ds) => match y with
      | .v (.int i) => atI ds i
      | _ => none
    | some (.dK kvs) => (keyOf y).bind fun k => valR kvs k
    | _ => none
  | _ => none
def setC (x y d : R) (S : Store) : Option Store := match x with
  | .ref n => match S[n]? with
    | some (.lst ds) => match y with
      | .v (.int i) => match ixN ds.length i with
        | some j => some (S.set n (.lst (ds.set j d)))
        | none => none
      | _ => none
    | some (.dK kvs) => (keyOf y).bind fun k => if kvs.length < sizeLine then some (S.set n (.dK (putR kvs k d))) else none
    | _ => none
  | _ => none
section
variable {X : Cx}
theorem getItem_listV {A : Around} {pins : List (Addr × Obj)} {s : Shared} {σ : St} {H : Hp} {p : Addr} {xs : List V} {i : Int} {z : V} {u : Value} {Q : Value → Shared → Prop} {E : Value → Shared → Prop} (I : Inv X pins σ H s) (hp : SqL X.K H p xs) (ri : RelV (.int i) u) (he : atI xs i = some z) (h : ∀ w, RelV z w → Q w s) :
    wpAny (model X.prog X.w) A (getItem (.ref p) u) Q E s := by
  obtain ⟨t, rfl⟩ := ri
  obtain ⟨its, r, pl, hz⟩ := I.list hp
  obtain ⟨j, h1, h2, h3, h4, h5⟩ := atI_get he
  obtain ⟨w, ew, rw'⟩ := r.get h2
  have hl := r.length
  have hn := line63
  by_cases h0 : 0 ≤ i
  · have hj : i.toNat = j := by
      rw [seqIndex_of h0 h5] at h1
      exact Option.some.inj h1
    exact wpAny_getItem_list pl.isList h0 (by omega) (by rw [hj]; simpa using ew) (h w rw')
  · have hj : (i + (its.toArray.size : Int)).toNat = j := by
      rw [seqIndex_neg (by omega) h4] at h1
      rw [List.size_toArray, ← hl]
      exact Option.some.inj h1
    exact wpAny_getItem_list_neg pl.isList (by omega) (by rw [List.size_toArray] <;> omega) (by omega) (by rw [hj]; simpa using ew) (h w rw')
theorem getC_ok {pins : List (Addr × Obj)} {s : Shared} {σ : St} {H : Hp} {ρ : Wd} {S : Store} {x y d : R} {xv yv : V} {ov iv : Value} {Q : Value → Shared → Prop} {E : Value → Shared → Prop} (hu : X.A.units + 1 < cLine) (I : Inv X pins σ H s) (sr : SR X.K H ρ S) (rx : Rq X.K H ρ xv x) (ry : Rq X.K H ρ yv y) (ro : RelV xv ov) (ri : RelV yv iv)
    (h : getC x y S = some d) (k : ∀ z w s', Rq X.K H ρ z d → RelV z w → Inv X pins σ H s' → Q w s') : wpAny (model X.prog X.w) X.A (getItem ov iv) Q E s := by
  unfold getC at h
  split at h
  · rename_i n
    cases rx with
    | ref ea =>
    cases ro
    split at h
    · rename_i ds hds
      split at h
      · rename_i i
        obtain ⟨xs, hx, ra, hz⟩ := sr.lst ea hds
        obtain ⟨z, hz1, hz2⟩ := atI_rqa ra h
        cases ry with
        | v ry =>
        cases ry
        exact getItem_listV I (.inl (.inl hx)) ri hz1 fun w rw' => k z w s hz2 rw' I
      · cases h
    · rename_i kvs hds
      obtain ⟨key, hk, hv⟩ := Option.bind_eq_some_iff.mp h
      obtain ⟨xs, hx, ra, hz⟩ := sr.dK ea hds
      have hy := keyOf_kV ry hk
      subst hy
      rcases ra.val key with ⟨_, h2⟩ | ⟨v, d', h1, h2, h3⟩
      · rw [h2] at hv; cases hv
      · rw [h2] at hv; cases hv
        exact d_getItem hu I (by have := DGet.k (k := key) hx; rwa [h1] at this) ri fun w s' I' rw' => k v w s' h3 rw' I'
    · cases h
  · cases h
theorem setC_ok {pins : List (Addr × Obj)} {s : Shared} {σ : St} {H : Hp} {ρ : Wd} {S S' : Store} {x y d : R} {xv yv v : V} {ov iv u : Value} {Q : Hp → Prop} (hu : X.A.units + 1 < cLine) (I : Inv X pins σ H s) (sr : SR X.K H ρ S) (rx : Rq X.K H ρ xv x) (ry : Rq X.K H ρ yv y) (rd : Rq X.K H ρ v d) (ro : RelV xv ov) (ri : RelV yv iv) (rv : RelV v u)
    (h : setC x y d S = some S') (k : ∀ H', Mo X.K H ρ H' ρ → SR X.K H' ρ S' → Q H') : wpAny (model X.prog X.w) X.A (setItem ov iv u) (fun _ s' => ∃ H', Inv X pins σ H' s' ∧ Q H') X.xe s := by
  unfold setC at h
  split at h
  · rename_i n
    split at h
    · rename_i ds hds
      split at h
      · rename_i i
        split at h
        · rename_i j hj
          cases h
          refine set_list pins s σ H xv yv v ov iv u Q I ro ri rv ?_
          exact setIx_ok (S' := S.set n (.lst (ds.set j d))) sr rx ry rd (by unfold setIx; simp only [hds, hj]) k
        · cases h
      · cases h
    · rename_i kvs hds
      obtain ⟨key, hk, hv⟩ := Option.bind_eq_some_iff.mp h
      split at hv
      · rename_i hz
        cases hv
        cases rx with
        | ref ea =>
        obtain ⟨xs, hx, ra, hl⟩ := sr.dK ea hds
        have hy := keyOf_kV ry hk
        subst hy
        cases ro
        have hlen : xs.length = kvs.length := Paired.length ra
        have mo : Mo X.K H ρ (upd H _ (.dK (putK xs key v))) ρ := .set hx trivial hl
        exact d_setItem hu I (DPut.k hx (by rw [hlen]; exact hz)) ri rv fun s' I' => ⟨_, I', k _ mo (sr.set ea hx trivial hl ⟨_, upd_same, (ra.put key rd).mo mo⟩)⟩
      · cases hv
    · cases h
  · cases h
def mAugIx (f o i : ME) (g : R → R → Store → Out R) : MS := fun m S => (o m S).thenS m fun x S1 => (i m S1).thenS m fun y S2 => match getC x y S2 with
  | some old => (f m S2).thenS m fun d S3 => (g old d S3).thenS m fun z S4 => match setC x y z S4 with
    | some S5 => .nx m S5
    | none => .no
  | none => .no
theorem psm_augIx {E : St → XK} {o i value : Expr} {tpos pos : Pos} {op : Operator} {ma mo mi : ME} {g : R → R → Store → Out R} (hu : X.A.units + 65 < cLine) (ho : PE X o (tE X.K E mo)) (hi : PE X i (tE X.K E mi)) (he : PE X value (tE X.K E ma)) (hp : PIp X op (rM X.K g))
    (hi2 : ∀ ov iv new, augStore i ov iv new = (do holding [new, ov, iv] (setItem ov iv new); release [new, ov, iv] []; pure .next) := by intros; rfl) :
    PS X (.AugAssign (.Subscript o i tpos) op value pos) (tS X.K E (mAugIx ma mo mi g)) := by
  refine ⟨fun pins s σ H D I h => ?_⟩
  obtain ⟨ρ, m, S, sr, er, h⟩ := h
  have q1 : tE X.K E mo σ H fun xv H1 => ∃ x S1 ρ1, Mo X.K H ρ H1 ρ1 ∧ SR X.K H1 ρ1 S1 ∧ Rq X.K H1 ρ1 xv x ∧ EnvR X.K H1 ρ1 σ m ∧ RS X.K E H1 ρ1 ((mi m S1).thenS m fun y S2 => match getC x y S2 with
      | some old => (ma m S2).thenS m fun d S3 => (g old d S3).thenS m fun z S4 => match setC x y z S4 with
        | some S5 => .nx m S5
        | none => .no
      | none => .no) D := ⟨ρ, m, S, sr, er, RS.bind er h fun x S1 xv H1 ρ1 m1 s1 r1 e1 h1 => ⟨x, S1, ρ1, m1, s1, r1, e1, h1⟩⟩
  refine wpAny_AugAssign_SubscriptAny (thn (ho.run pins s σ H _ I q1) fun ov t1 ⟨xv, H1, I1, rx, x, S1, ρ1, m1, s1, r1, e1, h1⟩ => ?_) hi2
  have q2 : tE X.K E mi σ H1 fun yv H2 => ∃ y S2 ρ2, Mo X.K H1 ρ1 H2 ρ2 ∧ SR X.K H2 ρ2 S2 ∧ Rq X.K H2 ρ2 yv y ∧ EnvR X.K H2 ρ2 σ m ∧ RS X.K E H2 ρ2 (match getC x y S2 with
      | some old => (ma m S2).thenS m fun d S3 => (g old d S3).thenS m fun z S4 => match setC x y z S4 with
        | some S5 => .nx m S5
        | none => .no
      | none => .no) D := ⟨ρ1, m, S1, s1, e1, RS.bind e1 h1 fun y S2 yv H2 ρ2 m2 s2 r2 e2 h2 => ⟨y, S2, ρ2, m2, s2, r2, e2, h2⟩⟩
  refine thn (hi.run pins t1 σ H1 _ I1 q2) fun iv t2 ⟨yv, H2, I2, ry, y, S2, ρ2, m2, s2, r2, e2, h2⟩ => ?_
  split at h2
  · rename_i old hold
    refine getC_ok (by omega) I2 s2 (r1.mo m2) r2 rx ry hold fun zo wo t3 rzo rwo I3 => ?_
    have q3 : tE X.K E ma σ H2 fun dv H3 => ∃ d S3 ρ3, Mo X.K H2 ρ2 H3 ρ3 ∧ SR X.K H3 ρ3 S3 ∧ Rq X.K H3 ρ3 dv d ∧ EnvR X.K H3 ρ3 σ m ∧ RS X.K E H3 ρ3 ((g old d S3).thenS m fun z S4 => match setC x y z S4 with
        | some S5 => .nx m S5
        | none => .no) D := ⟨ρ2, m, S2, s2, e2, RS.bind e2 h2 fun d S3 dv H3 ρ3 m3 s3 r3 e3 h3 => ⟨d, S3, ρ3, m3, s3, r3, e3, h3⟩⟩
    refine thn (he.run pins t3 σ H2 _ I3 q3) fun dw t4 ⟨dv, H3, I4, rdv, d, S3, ρ3, m3, s3, r3, e3, h3⟩ => ?_
    have q4 : rM X.K g zo dv H3 fun zv H4 => ∃ z S4 ρ4, Mo X.K H3 ρ3 H4 ρ4 ∧ SR X.K H4 ρ4 S4 ∧ Rq X.K H4 ρ4 zv z ∧ EnvR X.K H4 ρ4 σ m ∧ RS X.K E H4 ρ4 (match setC x y z S4 with
        | some S5 => .nx m S5
        | none => .no) D := ⟨_, ρ3, S3, old, d, s3, rzo.mo m3, r3, RS.bind e3 h3 fun z S4 zv H4 ρ4 m4 s4 r4 e4 h4 => ⟨z, S4, ρ4, m4, s4, r4, e4, h4⟩⟩
    refine thn (hp pins t4 σ H3 zo dv wo dw _ I4 rwo rdv q4) fun zw t5 ⟨zv, H4, I5, rzv, z, S4, ρ4, m4, s4, r4, e4, h4⟩ => ?_
    split at h4
    · rename_i S5 hS5
      refine thn (setC_ok (Q := fun H5 => D.nx σ H5) (by omega) I5 s4 (((r1.mo m2).mo m3).mo m4) ((r2.mo m3).mo m4) r4 rx ry rzv hS5 fun H5 m5 s5 => ?_) fun _ t6 ⟨H5, I6, q⟩ => ⟨σ, H5, I6, q⟩
      exact h4 σ H5 ρ4 m5 s5 (e4.mo m5)
    · exact h4.elim
  · exact h2.elim
end
/-! ### dicts read -/
def dkOf (S : Store) : R → Option (List (Key × R))
  | .v (.dct ks ds) => some (ks.zip (ds.map .v))
  | .ref n => match S[n]? with
    | some (.dK kvs) => some kvs
    | _ => none
  | _ => none
theorem RpP.zip : ∀ {ks : List Key} {xs : List V} {ds : List R}, RqA K H ρ xs ds → RpP K H ρ (ks.zip xs) (ks.zip ds)
  | [], _, _, _ => .nil
  | _ :: _, _, _, .nil => .nil
  | _ :: _, _, _, .cons h1 h2 => .cons ⟨rfl, h1⟩ (RpP.zip h2)
theorem SR.dkD {v : V} {d : R} {kds : List (Key × R)} (sr : SR K H ρ S) (r : Rq K H ρ v d) (h : dkOf S d = some kds) : ∃ a xs, v = .ref a ∧ H a = some (.dK xs) ∧ RpP K H ρ xs kds := by
  cases r with
  | v r =>
    cases r <;> first | (cases h; done) | skip
    case dct hz hs hl ra => cases h; exact ⟨_, _, rfl, hs, RpP.zip ra.q⟩
  | ref ea =>
    unfold dkOf at h
    simp only at h
    split at h
    · rename_i kvs hx
      cases h
      obtain ⟨xs, h1, h2, _⟩ := sr.dK ea hx
      exact ⟨_, xs, rfl, h1, h2⟩
    · cases h
def opIxD (d e : R) (S : Store) : Out R := match dkOf S d, keyOf e with
  | some kvs, some k => match valR kvs k with
    | some x => .ok x S
    | none => .no
  | _, _ => opIx d e S
def biLenD (ds : List R) (S : Store) : Out R := match ds with
  | [d] => match dkOf S d with
    | some kvs => .ok (.int kvs.length) S
    | none => biLen [d] S
  | _ => biLen ds S
def notRef (n : Nat) : R → Bool
  | .ref k => !decide (k = n)
  | _ => true
def mtUpdate (d : R) (ds : List R) (S : Store) : Out R := match d, ds with
  | .ref n, [y] => match S[n]?, dkOf S y with
    | some (.dK kvs), some more => if notRef n y = true ∧ kvs.length + more.length ≤ sizeLine then .ok .non (S.set n (.dK (mergeR kvs more))) else .no
    | _, _ => .no
  | _, _ => .no
section
variable {X : Cx}
theorem ixmD (hu : X.A.units + 65 < cLine) : IxR X (rM X.K opIxD) := by
  rintro value slice pins s σ H x y v u Q I rx ry ⟨E, ρ, S, d, e, sr, rd, re, h⟩ hs
  unfold opIxD at h
  split at h
  · rename_i kvs k hk he
    split at h
    · rename_i z hz
      obtain ⟨a, xs, rfl, ha, ra⟩ := sr.dkD rd hk
      have hy := keyOf_kV re he
      subst hy
      cases rx
      rcases ra.val k with ⟨_, h2⟩ | ⟨w, d', h1, h2, h3⟩
      · rw [h2] at hz; cases hz
      · rw [h2] at hz; cases hz
        have g : DGet H a (kV k) (some w) := by have := DGet.k (k := k) ha; rwa [h1] at this
        exact tail_any (dict_typeIs I g) PySem.F.slot_dict_getitem.lookup (d_getItem (by omega) I g ry fun w' s3 I3 rw' => ⟨w, H, I3, rw', h _ _ _ .refl sr h3⟩) hs
    · exact h.elim
  · exact ixm value slice pins s σ H _ _ v u Q I rx ry ⟨E, ρ, S, d, e, sr, rd, re, h⟩ hs
theorem pm_ixD {a b : Expr} {pos : Pos} {ma mb : ME} {E : St → XK} (hu : X.A.units + 65 < cLine) (ha : PE X a (tE X.K E ma)) (hb : PE X b (tE X.K E mb)) (hs : PlainIx b := by exact fun _ _ => rfl) : PE X (.Subscript a b pos) (tE X.K E (mBin opIxD ma mb)) := PE.imp (pe_ix (ixmD hu) ha hb hs) fun _ _ _ h => tOp_of h
theorem cam_lenD : CaM X (.builtin "len") biLenD := by
  rintro pins s σ H xs us Q I r ⟨E, ρ, S, ds, sr, rd, h⟩
  have gen : RO X.K (relD X.K) E H ρ (biLen ds S) Q → _ := fun h => cam_len pins s σ H xs us Q I r ⟨E, ρ, S, ds, sr, rd, h⟩
  unfold biLenD at h
  split at h
  · split at h
    · rename_i d kvs hk
      obtain ⟨w, rfl, r1⟩ := rd.one
      obtain ⟨a, ys, rfl, ha, ra⟩ := sr.dkD r1 hk
      refine call_lenD pins s σ H _ us Q I r ⟨a, ys, rfl, ha, ?_⟩
      rw [show ys.length = kvs.length from Paired.length ra]
      exact h _ _ _ .refl sr (.int _)
    · exact gen h
  · exact gen h
theorem mtm_update : MtMm X "dict.update" mtUpdate := by
  rintro pins s σ H x vs v us Q I rx rv ⟨E, ρ, S, d, ds, sr, rd, r, h⟩
  unfold mtUpdate at h
  split at h
  · split at h
    · rename_i n y kvs more hx hy
      split at h
      · rename_i hz
        cases rd with
        | @ref a _ ea =>
        obtain ⟨w, rfl, r1⟩ := r.one
        obtain ⟨xs, ha, ra, hl⟩ := sr.dK ea hx
        obtain ⟨b, ys, rfl, hb, rb⟩ := sr.dkD r1 hy
        have hab : a ≠ b := by
          intro e
          subst e
          cases r1 with
          | v r1 =>
            cases r1 with
            | dct h1 h2 h3 h4 => exact hl h1
            | _ => cases hy
          | ref ek =>
            have hnk := hz.1
            unfold notRef at hnk
            simp only [Bool.not_eq_true', decide_eq_false_iff_not] at hnk
            exact hnk (nd_at sr.nd ek ea)
        cases rx
        obtain ⟨u, rfl, ru⟩ := rv.one
        cases ru
        obtain ⟨z1, hd1, vs1, rel1, dd1⟩ := dk_of I.hok ha
        obtain ⟨z2, hd2, vs2, rel2, dd2⟩ := dk_of I.hok hb
        have l1 : xs.length = kvs.length := Paired.length ra
        have l2 : ys.length = more.length := Paired.length rb
        have hsz : xs.length + ys.length ≤ sizeLine := by rw [l1, l2]; exact hz.2
        refine call_meetsIn PySem.F.slot_dict_update dd1.typeIs PySem.F.entry_dict_update (PySem.F.args_dict_update_2 _ _) (meets_dict_update (mixKind X.prog X.w) a b hab hd2) ⟨vs1, vs2, dd1, dd2, by rw [← rel1.length, ← rel2.length]; exact hsz, fun h' dd' _ hs => ?_⟩
        have he : ∃ q, h'.get? a = some q := let ⟨q, _, _, hq, _⟩ := dd'; ⟨q, hq⟩
        have hml : (mergeK xs ys).length ≤ sizeLine := by have := length_mergeK ys xs; omega
        have mo : Mo X.K H ρ (upd H a (.dK (mergeK xs ys))) ρ := .set ha trivial hl
        have I2 : Inv X pins σ (upd H a (.dK (mergeK xs ys))) { s with heap := h' } := d_write (t' := s.toks) I (by rw [ha]; exact True.intro) hs he (dk_new hml hd1 (rel2.merge rel1) dd')
        exact ⟨.non, _, I2, rfl, h _ _ ρ mo (sr.set ea ha trivial hl ⟨_, upd_same, ((rb.merge ra).mo mo)⟩) .non⟩
      · exact h.elim
    · exact h.elim
  · exact h.elim
end
end M

/-! MMore: xs[::-1] of lists and tuples, sorted whole numbers. -/
namespace HT
open PySem PySem.Spec L2
open PyProof.Rows hiding St
section
variable {prog : Program} {w : World} {A : Around} {E : Value → Shared → Prop} {s : Shared}
theorem places_rev (n : Nat) : Builtin.Slice.slicePlaces ((n : Int) - 1) (-1) (-1) = n := by
  unfold Builtin.Slice.slicePlaces
  rw [if_neg (by decide)]
  split
  · rw [show (- -1 : Int) = 1 by decide, Int.ediv_one]; omega
  · omega
theorem sliceApplied_rev {sl : Addr} {vs : Value} {n : Nat} {Q : Int × Int × Nat → Shared → Prop} (hs : s.heap.IsSliceOf sl .none .none vs) (ps : IsPart vs (some (-1))) (h : Q ((n : Int) - 1, -1, n) s) :
    wpAny (model prog w) A (Builtin.Slice.sliceApplied (.ref sl) (pure (n : Int))) Q E s := by
  obtain ⟨os, hos, hcs, hds⟩ := id hs
  unfold Builtin.Slice.sliceApplied Builtin.Slice.sliceFields
  refine wpAny_bind (wpAny_bind (wpAny_field hos hds (x := .none) rfl (wpAny_bind (wpAny_field hos hds (x := .none) rfl (wpAny_bind (wpAny_field hos hds (x := vs) rfl (wpAny_pure ?_)))))))
  refine wpAny_bind (slicePart_ ps ?_)
  show wpAny _ _ (if ((-1 : Int) == 0) = true then _ else _) _ _ s
  rw [if_neg (by decide)]
  refine wpAny_bind (slicePart_none (wpAny_bind (slicePart_none (wpAny_bind (wpAny_pure ?_)))))
  show wpAny _ _ (pure ((n : Int) - 1, (-1 : Int), Builtin.Slice.slicePlaces ((n : Int) - 1) (-1) (-1))) _ _ s
  rw [places_rev]
  exact wpAny_pure h
theorem filterMap_same {α β : Type} {f g : α → Option β} : ∀ {l : List α}, (∀ k ∈ l, f k = g k) → l.filterMap f = l.filterMap g
  | [], _ => rfl
  | x :: l, h => by
    rw [List.filterMap_cons, List.filterMap_cons, h x (by simp), filterMap_same fun k hk => h k (by simp [hk])]
theorem pick_rev (xs : Array Value) : ((List.range xs.size).filterMap fun (k : Nat) => xs[((xs.size : Int) - 1 + (k : Int) * (-1)).toNat]?).toArray = xs.toList.reverse.toArray := by
  have e : ∀ k ∈ List.range xs.size, xs[((xs.size : Int) - 1 + (k : Int) * (-1)).toNat]? = (fun k => xs[xs.size - 1 - k]?) k := by
    intro k hk
    have := List.mem_range.mp hk
    show _ = xs[xs.size - 1 - k]?
    congr 1
    omega
  congr 1
  rw [filterMap_same e]
  have : (List.range xs.size).filterMap (fun k => xs[xs.size - 1 - k]?) = ((List.range xs.size).map fun k => xs.size - 1 - k).filterMap (xs[·]?) := by rw [List.filterMap_map]; rfl
  rw [this, PySem.W.krv_range, List.filterMap_reverse, PySem.W.krv_all]
theorem getItem_tuple_rev {t sl : Addr} {items : Array Value} {vs : Value} {Q : Value → Shared → Prop} (ht : IsTup s.heap t items) (hs : s.heap.IsSliceOf sl .none .none vs) (ps : IsPart vs (some (-1)))
    (h : Q (.ref s.heap.objs.size) { s with heap := s.heap.push { cls := .type "tuple", data := .seq items.toList.reverse.toArray } }) (hsz : items.size ≤ sizeLine) : wpAny (model prog w) A (getItem (.ref t) (.ref sl)) Q E s := by
  have hok : sizeOk (.seq items.toList.reverse.toArray) := by
    show items.toList.reverse.toArray.size ≤ sizeLine
    rw [List.size_toArray, List.length_reverse, Array.length_toList]
    exact hsz
  obtain ⟨os, hos, hcs, hds⟩ := id hs
  have hTs : s.TypeIs (.ref sl) "slice" := ⟨os, hos, hcs⟩
  unfold getItem
  try with_reducible refine wpAny_holding ?_
  first | refine wpAny_bind (wpAny_pure ?_) | skip
  refine wpAny_bind (wpAny_sequenceKey ht.typeIs (by decide) ?_)
  refine wpAny_bind (wpAny_callSpecial?_slot (name := Str.ofString "__getitem__") ht.typeIs PyProof.Rows.slot_tuple_getitem
    (wpAny_call_entry PyProof.Rows.slot_tuple_getitem ht.typeIs entry_tuple_getitem ?_ (args_tuple_getitem _ _)))
  show wpAny _ _ (Builtin.Tuple.tupleItemsOf (.ref t) >>= _) _ _ s
  refine wpAny_bind (tupleItemsOf_ ht ?_)
  refine wpAny_bind (wpAny_typeOf hTs ?_)
  rw [if_pos (by decide)]
  refine wpAny_bind (sliceApplied_rev hs ps ?_)
  show wpAny _ _ (if (((items.size : Int) - 1) == 0 && (-1 : Int) == 1 && items.size == items.size) = true then _ else _) _ _ s
  rw [if_neg (by rw [show ((-1 : Int) == 1) = false from rfl, Bool.and_false, Bool.false_and]; exact Bool.false_ne_true), pick_rev]
  first
    | exact wpAny_bind (m := Builtin.Tuple.tupleExact _) (wpAny_newObj_type (wpAny_pure ⟨_, rfl, wpAny_pure h⟩) hok)
    | exact wpAny_bind (m := Builtin.Tuple.tupleExact _) (wpAny_newObj_type (wpAny_bind (wpAny_pure (wpAny_pure ⟨_, rfl, wpAny_pure h⟩))) hok)
    | exact wpAny_bind (wpAny_bind (m := Builtin.Tuple.tupleExact _) (wpAny_newObj_type (wpAny_pure (wpAny_pure ⟨_, rfl, wpAny_pure h⟩)) hok))
    | exact wpAny_bind (wpAny_bind (m := Builtin.Tuple.tupleExact _) (wpAny_newObj_type (wpAny_pure ⟨_, rfl, wpAny_pure h⟩) hok))
end
end HT
namespace M
open PySem PySem.Spec L2
open PyProof.Rows hiding St
def tRevA (K : PySem.W.Frag) (te : TE) : TE := fun σ H Q => te σ H fun x H1 => ∃ a xs, x = .ref a ∧ ((SqL K H1 a xs ∧ ∀ p, H1 p = none → Q (.ref p) (upd H1 p (.lst xs.reverse))) ∨ (SqT K H1 a xs ∧ ∀ p, H1 p = none → Q (.ref p) (upd H1 p (.tup xs.reverse))))
theorem pe_revA {X : Cx} {e : Expr} {te : TE} {k : Nat} {p1 p2 p3 pos : Pos} (he : PE X e te) : PE X (.Subscript e (.Slice none none (some (.UnaryOp .USub (.Constant (.int 1) k p1) p2)) p3) pos) (tRevA X.K te) := by
  refine ⟨fun pins s σ H Q I h => ?_⟩
  refine Subscript_ (thn (he.run pins s σ H _ I h) fun v s1 ⟨x, H1, I1, r1, a, xs, ex, q⟩ => ?_)
  subst ex
  cases r1
  have hst : PO X (some (.UnaryOp .USub (.Constant (.int 1) k p1) p2)) (tPart (tUn (rU fun i => .int (-i)) (tC (.int 1)))) := po_some (pe_un un_neg pe_int)
  refine wpAny_Slice (thn (po_none.run pins s1 σ H1 (fun o H2 => o = none ∧ H2 = H1) I1 ⟨rfl, rfl⟩) fun vl s2 ⟨l, H2, I2, pl, el, e2⟩ => ?_)
  subst el e2
  refine thn (po_none.run pins s2 σ H2 (fun o H3 => o = none ∧ H3 = H2) I2 ⟨rfl, rfl⟩) fun vu s3 ⟨u, H3, I3, pu, eu, e3⟩ => ?_
  subst eu e3
  refine thn (hst.run pins s3 σ H3 (fun o H4 => o = some (-1) ∧ H4 = H3) I3 ⟨1, rfl, -1, rfl, rfl, rfl⟩) fun vs s4 ⟨o, H4, I4, ps, eo, e4⟩ => ?_
  subst eo e4
  cases pl
  cases pu
  have I5 : Inv X pins σ H4 { s4 with heap := s4.heap.push { cls := .type "slice", data := .fields #[.none, .none, vs] } } := I4.kept (t' := s4.toks) fun b ob q => Heap.get?_push_of_some _ q
  show wpAny (model X.prog X.w) X.A (subscriptTail e (.Slice none none (some (.UnaryOp .USub (.Constant (.int 1) k p1) p2)) p3) (.ref a) (.ref s4.heap.objs.size)) (EP X pins σ Q) X.xe { s4 with heap := s4.heap.push { cls := .type "slice", data := .fields #[.none, .none, vs] } }
  rcases q with ⟨hx, q⟩ | ⟨hx, q⟩
  · obtain ⟨its, r, ht, hz⟩ := I5.list hx
    have hlen := r.length
    refine tail_any (ops := [.ref a, .ref s4.heap.objs.size]) ht.isList.typeIs (PySem.slot_list_getitem.lookup) ?_ (by with_unfolding_all rfl)
    refine wpAny_getItem_list_slice ht.isList (Heap.IsSliceOf.new _ .none .none vs) .none .none ps (by decide) ?_ (by rw [List.size_toArray]; omega)
    rw [PySem.W.krv_pick]
    refine ⟨.ref _, _, I5.laid (t' := s4.toks) (o := .lst xs.reverse) (fun b ob q => Heap.get?_push_of_some _ q) (Nat.le_refl _) ?_, rfl, q _ (I5.hok.fresh (Nat.le_refl _))⟩
    exact ⟨by rw [List.length_reverse]; exact hz, _, 0, r.reverse, Heap.get?_push_size _ rfl⟩
  · obtain ⟨its, r, ht, hz⟩ := I5.tuple hx
    have hlen := r.length
    refine tail_any (ops := [.ref a, .ref s4.heap.objs.size]) ht.typeIs (PyProof.Rows.slot_tuple_getitem.lookup) ?_ (by with_unfolding_all rfl)
    refine HT.getItem_tuple_rev ht (Heap.IsSliceOf.new _ .none .none vs) ps ?_ (by rw [List.size_toArray]; omega)
    refine ⟨.ref _, _, I5.laid (t' := s4.toks) (o := .tup xs.reverse) (fun b ob q => Heap.get?_push_of_some _ q) (Nat.le_refl _) ?_, rfl, q _ (I5.hok.fresh (Nat.le_refl _))⟩
    exact ⟨by rw [List.length_reverse]; exact hz, _, r.reverse, IsTup.new _ _⟩
def opRev (d : R) (S : Store) : Out R := match d with
  | .v (.tup ds) => .ok (.v (.tup ds.reverse)) S
  | d => match lstOf S d with
    | some ds => .ok (.ref S.length) (S ++ [.lst ds.reverse])
    | none => .no
theorem RqA.reverse' {K : PySem.W.Frag} {H : Hp} {ρ : Wd} {vs : List V} {ds : List R} (h : RqA K H ρ vs ds) : RqA K H ρ vs.reverse ds.reverse := by
  induction h with
  | nil => exact .nil
  | cons h1 h2 ih => rw [List.reverse_cons, List.reverse_cons]; exact RqA.append ih (.cons h1 .nil)
theorem pm_rev {X : Cx} {E : St → XK} {e : Expr} {ma : ME} {k : Nat} {p1 p2 p3 pos : Pos} (he : PE X e (tE X.K E ma)) : PE X (.Subscript e (.Slice none none (some (.UnaryOp .USub (.Constant (.int 1) k p1) p2)) p3) pos) (tE X.K E (mUn opRev ma)) := by
  refine PE.imp (pe_revA he) ?_
  rintro σ H Q ⟨ρ, m, S, sr, er, h⟩
  refine ⟨ρ, m, S, sr, er, RO.bind h fun d S1 v H1 ρ1 m1 s1 r1 h1 => ?_⟩
  unfold opRev at h1
  split at h1
  · cases r1 with
    | v r1 =>
    cases r1 with
    | tup hq ra => exact ⟨_, _, rfl, .inr ⟨sqT_at hq, fun p hp => RO.tup s1 ra.reverse h1 hp⟩⟩
  · split at h1
    · rename_i ds hds
      obtain ⟨p, xs, rfl, hq, ra⟩ := s1.lsD r1 hds
      exact ⟨_, _, rfl, .inl ⟨hq, fun p hp => RO.lst s1 (RqA.reverse' ra) h1 hp⟩⟩
    · exact h1.elim
/-! ### sorted whole numbers -/
def isort (ns : List Int) : List Int := ns.mergeSort fun a b => decide (a ≤ b)
theorem isort_perm (ns : List Int) : (isort ns).Perm ns := List.mergeSort_perm _ _
theorem isort_sorted (ns : List Int) : (isort ns).Pairwise (· ≤ ·) := by
  have := List.pairwise_mergeSort (le := fun a b : Int => decide (a ≤ b)) (fun a b c h1 h2 => by simp only [decide_eq_true_eq] at *; omega) (fun a b => by simp only [Bool.or_eq_true, decide_eq_true_eq]; omega) ns
  exact this.imp fun h => by simpa using h
theorem isort_eq {ns ms : List Int} (h : ms.Perm ns) (p : ms.Pairwise (· ≤ ·)) : ms = isort ns :=
  List.Perm.eq_of_pairwise (fun a b _ _ h1 h2 => by omega) p (isort_sorted ns) (h.trans (isort_perm ns).symm)
def biSorted (ds : List R) (S : Store) : Out R := match ds with
  | [d] => match (lstOf S d).bind intsOf with
    | some ns => .ok (.ref S.length) (S ++ [.lst ((isort ns).map fun i => R.int i)])
    | none => .no
  | _ => .no
theorem rqa_of_ints {K : PySem.W.Frag} {H : Hp} {ρ : Wd} : ∀ ns : List Int, RqA K H ρ (ns.map V.int) (ns.map fun i => R.int i)
  | [] => .nil
  | n :: ns => .cons (.v (.int n)) (rqa_of_ints ns)
theorem cam_sorted {X : Cx} : CaM X (.builtin "sorted") biSorted := by
  rintro pins s σ H xs us Q I rv ⟨E, ρ, S, ds, sr, r, h⟩
  unfold biSorted at h
  split at h
  · split at h
    · rename_i d ns hbs
      obtain ⟨es, h1, h2⟩ := Option.bind_eq_some_iff.mp hbs
      obtain ⟨v, rfl, r1⟩ := r.one
      obtain ⟨a, xs, rfl, hq, ra⟩ := sr.lsD r1 h1
      refine cr_sortedI pins s σ H _ us Q I rv ⟨_, ns, rfl, by rw [← rqa_ints ra h2]; exact hq, fun ns' p hp hs hn => ?_⟩
      have := isort_eq hp hs
      subst this
      exact RO.lst sr (rqa_of_ints _) h hn
    · exact h.elim
  · exact h.elim
/-! ### how many unlike whole numbers -/
def uniqN (ns : List Int) : Nat := (PyProof.Rows.firstMet (fun i => ns.getD i 0) ns.length).length
theorem uniqN_le (ns : List Int) : uniqN ns ≤ ns.length := PyProof.Rows.firstMet_length_le _ _
theorem uniqN_iff (ns : List Int) : uniqN ns = ns.length ↔ ns.Nodup := by
  have key : ∀ i, i ≤ ns.length → ((PyProof.Rows.firstMet (fun i => ns.getD i 0) i).length = i ↔ (ns.take i).Nodup) := by
    intro i
    induction i with
    | zero => intro _; simp [PyProof.Rows.firstMet_zero]
    | succ i ih =>
      intro hi
      have hle := PyProof.Rows.firstMet_length_le (fun i => ns.getD i 0) i
      have hany := PyProof.Rows.firstMet_any (fun i => ns.getD i 0) i (ns.getD i 0)
      have hmap : (List.range i).map (fun i => ns.getD i 0) = ns.take i := by
        refine List.ext_getElem (by simp; omega) fun j h1 h2 => ?_
        simp at h1
        have : j < ns.length := by omega
        simp [this]
      rw [hmap] at hany
      have hg : ns[i]? = some (ns.getD i 0) := by rw [List.getD_eq_getElem?_getD, List.getElem?_eq_getElem (by omega)]; rfl
      have htk : ns.take (i + 1) = ns.take i ++ [ns.getD i 0] := by rw [List.take_add_one, hg]; rfl
      have hnd : (ns.take (i + 1)).Nodup ↔ (ns.take i).Nodup ∧ ns.getD i 0 ∉ ns.take i := by
        rw [htk, List.nodup_append]
        constructor
        · rintro ⟨h1, _, h3⟩
          exact ⟨h1, fun hm => h3 _ hm _ (by simp) rfl⟩
        · rintro ⟨h1, h2⟩
          exact ⟨h1, by simp, fun a ha b hb e => by simp only [List.mem_singleton] at hb; subst hb; subst e; exact h2 ha⟩
      rw [PyProof.Rows.firstMet_succ, hnd]
      unfold PyProof.Rows.step_dedup
      by_cases hm : ns.getD i 0 ∈ ns.take i
      · have h1 : ((PyProof.Rows.firstMet (fun i => ns.getD i 0) i).any (· == ns.getD i 0)) = true := by
          rw [hany]; exact List.any_eq_true.mpr ⟨_, hm, beq_self_eq_true _⟩
        rw [if_pos h1]
        constructor
        · intro h; omega
        · rintro ⟨_, h⟩; exact absurd hm h
      · have h1 : ¬ ((PyProof.Rows.firstMet (fun i => ns.getD i 0) i).any (· == ns.getD i 0)) = true := by
          rw [hany]
          intro h
          obtain ⟨x, hx, e⟩ := List.any_eq_true.mp h
          have e := eq_of_beq e
          subst e
          exact hm hx
        rw [if_neg h1, List.length_append, List.length_singleton, ← ih (by omega)]
        constructor
        · intro h; exact ⟨by omega, hm⟩
        · rintro ⟨h, _⟩; omega
  have := key ns.length (Nat.le_refl _)
  rw [List.take_length] at this
  exact this
def opLenSet (d : R) (S : Store) : Out R := match (lstOf S d).bind intsOf with
  | some ns => if ns.length ≤ 4000 then .ok (.int (uniqN ns : Nat)) S else .no
  | none => .no
def tLenSetG (K : PySem.W.Frag) (ta : TE) : TE := fun σ H Q => ta σ H fun x H1 => ∃ (l : Addr) (ns : List Int), x = .ref l ∧ SqL K H1 l (ns.map V.int) ∧ ns.length ≤ 4000 ∧ Q (.int (uniqN ns : Nat)) H1
theorem ints_of_vals : ∀ {ns : List Int} {us : List Value}, Vals (ns.map V.int) us → PyProof.Rows.IntsAre us ns
  | [], _, .nil => .nil
  | n :: ns, _, .cons r t => by
    obtain ⟨k, rfl⟩ := r
    exact .cons n k (ints_of_vals t)
theorem pe_lenSetG {X : Cx} {a : Expr} {ta : TE} {p p2 q pos : Pos} (hg : Gl X "len") (hm : X.mg "len" = none) (hg2 : Gl X "set") (hm2 : X.mg "set" = none) (ha : PE X a ta) (hc : X.calm = true := by rfl)
    (na : starEach [a] X.env = (false, eval a X.env) :: starEach [] X.env := by rfl) : PE X (.Call (.Name "len" p) [.Call (.Name "set" p2) [a] [] q] [] pos) (tLenSetG X.K ta) := by
  refine ⟨fun pins s σ H Q I h => ?_⟩
  refine Call_ (ld_blt I hg hm boot_len ?_)
  refine PyProof.Rows.callWith_builtin1 (PyProof.Rows.args_cons ?_ rfl) rfl rfl
  refine Call_ (ld_blt I hg2 hm2 boot_set ?_)
  refine PyProof.Rows.callWith_type1 (PyProof.Rows.args_cons (thn (ha.run pins s σ H _ I h) fun v s1 ⟨x, H1, I1, r1, q1⟩ => PyProof.Rows.args_nil ?_) na) na rfl
  obtain ⟨l, ns, rfl, hq, hl, q1⟩ := q1
  cases r1
  obtain ⟨its, r, pl, hz⟩ := I1.list hq
  have hlen : its.toArray.size = ns.length := by rw [List.size_toArray, ← r.length, List.length_map]
  refine call_set_list (I1.ok.hd hc) pl.isList (by simpa using ints_of_vals r) (by rw [hlen]; unfold scanBound; omega) fun h' tk hS hk => ?_
  refine PyProof.Rows.args_nil ?_
  rw [hlen] at hS
  obtain ⟨o, es, ep, t, ho, hex, hd, _, _, _, hf, hn⟩ := hS
  have hn' : es.size = uniqN ns := hn
  have hle := uniqN_le ns
  have I2 : Inv X pins σ H1 { s1 with heap := h', toks := tk } := I1.kept fun b o e => hk b o (Heap.lt_size e) e
  exact call_len_set ho hex hd hf (by rw [hn'] <;> omega) ⟨.int (uniqN ns : Nat), H1, I2.tok _, ⟨_, by rw [hn']⟩, q1⟩
theorem pm_lenSet {X : Cx} {E : St → XK} {a : Expr} {ma : ME} {p p2 q pos : Pos} (hg : Gl X "len") (hm : X.mg "len" = none) (hg2 : Gl X "set") (hm2 : X.mg "set" = none) (ha : PE X a (tE X.K E ma)) (hc : X.calm = true := by rfl)
    (na : starEach [a] X.env = (false, eval a X.env) :: starEach [] X.env := by rfl) : PE X (.Call (.Name "len" p) [.Call (.Name "set" p2) [a] [] q] [] pos) (tE X.K E (mUn opLenSet ma)) := by
  refine PE.imp (pe_lenSetG hg hm hg2 hm2 ha hc na) ?_
  rintro σ H Q ⟨ρ, m, S, sr, er, h⟩
  refine ⟨ρ, m, S, sr, er, RO.bind h fun d S1 v H1 ρ1 m1 s1 r1 h1 => ?_⟩
  unfold opLenSet at h1
  split at h1
  · rename_i ns hbs
    split at h1
    · rename_i hz
      obtain ⟨es, e1, e2⟩ := Option.bind_eq_some_iff.mp hbs
      obtain ⟨a, xs, rfl, hq, ra⟩ := s1.lsD r1 e1
      exact ⟨a, ns, rfl, by rw [← rqa_ints ra e2]; exact hq, hz, h1 _ _ _ .refl s1 (.int _)⟩
    · exact h1.elim
  · exact h1.elim
/-! ### tuple(range(..)), list(range(..)) -/
@[irreducible] def rgSm (a b : Int) : Bool := decide (-8000000 ≤ a ∧ a ≤ 8000000 ∧ -8000000 ≤ b ∧ b ≤ 8000000)
theorem rgSm_of {a b : Int} (h1 : -8000000 ≤ a) (h2 : a ≤ 8000000) (h3 : -8000000 ≤ b) (h4 : b ≤ 8000000) : rgSm a b = true := by
  unfold rgSm; exact decide_eq_true ⟨h1, h2, h3, h4⟩
theorem rgSm_ok {a b : Int} (h : rgSm a b = true) : RgOk a b := by
  unfold rgSm at h
  have h := of_decide_eq_true h
  exact ⟨by omega, by omega, by omega, by omega, by omega⟩
def rgD (a b : Int) : List D := (List.range (b - a).toNat).map fun i => .int (a + (i : Nat))
theorem rpa_rg {K : PySem.W.Frag} {H : Hp} {ρ : Wd} (a b : Int) : RpA K H ρ (rgV a b) (rgD a b) := by
  unfold rgV rgD
  generalize List.range (b - a).toNat = l
  induction l with
  | nil => exact .nil
  | cons x l ih => exact .cons (.int _) ih
def bounds1 (d : R) : Option (Int × Int) := match d with
  | .v (.int b) => if rgSm 0 b = true then some (0, b) else none
  | _ => none
def bounds2 (d e : R) : Option (Int × Int) := match d, e with
  | .v (.int a), .v (.int b) => if rgSm a b = true then some (a, b) else none
  | _, _ => none
def rgTup (o : Option (Int × Int)) (S : Store) : Out R := match o with
  | some p => .ok (.v (.tup (rgD p.1 p.2))) S
  | none => .no
def rgLst (o : Option (Int × Int)) (S : Store) : Out R := match o with
  | some p => .ok (.ref S.length) (S ++ [.lst ((rgD p.1 p.2).map .v)])
  | none => .no
def opRgT1 (d : R) (S : Store) : Out R := rgTup (bounds1 d) S
def opRgT2 (d e : R) (S : Store) : Out R := rgTup (bounds2 d e) S
def opRgL1 (d : R) (S : Store) : Out R := rgLst (bounds1 d) S
def opRgL2 (d e : R) (S : Store) : Out R := rgLst (bounds2 d e) S
theorem bounds1_of {K : PySem.W.Frag} {H : Hp} {ρ : Wd} {v : V} {d : R} {p : Int × Int} (r : Rq K H ρ v d) (h : bounds1 d = some p) : ∃ n, v = .int n ∧ p = (0, n) ∧ RgOk 0 n := by
  unfold bounds1 at h
  split at h
  · split at h
    · rename_i hz
      cases h
      cases r with
      | v r => cases r; exact ⟨_, rfl, rfl, rgSm_ok hz⟩
    · cases h
  · cases h
theorem bounds2_of {K : PySem.W.Frag} {H : Hp} {ρ : Wd} {v w : V} {d e : R} {p : Int × Int} (r : Rq K H ρ v d) (q : Rq K H ρ w e) (h : bounds2 d e = some p) : ∃ i j, v = .int i ∧ w = .int j ∧ p = (i, j) ∧ RgOk i j := by
  unfold bounds2 at h
  split at h
  · split at h
    · rename_i hz
      cases h
      cases r with
      | v r =>
      cases r
      cases q with
      | v q => cases q; exact ⟨_, _, rfl, rfl, rfl, rgSm_ok hz⟩
    · cases h
  · cases h
section
variable {X : Cx} {E : St → XK} {a b : Expr} {ma mb : ME} {p p2 q pos : Pos}
theorem pm_tupRg1 (hc : X.calm = true) (hg : Gl X "tuple") (hm : X.mg "tuple" = none) (hg2 : Gl X "range") (hm2 : X.mg "range" = none) (ha : PE X a (tE X.K E ma)) (n1 : starEach [Expr.Call (.Name "range" p2) [a] [] q] X.env = (false, eval (.Call (.Name "range" p2) [a] [] q) X.env) :: starEach [] X.env := by rfl) (n2 : starEach [a] X.env = (false, eval a X.env) :: starEach [] X.env := by rfl) :
    PE X (.Call (.Name "tuple" p) [.Call (.Name "range" p2) [a] [] q] [] pos) (tE X.K E (mUn opRgT1 ma)) := by
  refine PE.imp (pe_tupRg hc hg hm (prg_1 hg2 hm2 ha n2) n1) ?_
  rintro σ H Q ⟨ρ, m, S, sr, er, h⟩
  refine ⟨ρ, m, S, sr, er, RO.bind h fun d S1 v H1 ρ1 m1 s1 r1 h1 => ?_⟩
  unfold opRgT1 rgTup at h1
  split at h1
  · rename_i pr hp
    obtain ⟨n, rfl, rfl, ok⟩ := bounds1_of r1 hp
    exact ⟨n, rfl, ok, fun q hq => RO.tup s1 (rpa_rg _ _) h1 hq⟩
  · exact h1.elim
theorem pm_tupRg2 (hc : X.calm = true) (hg : Gl X "tuple") (hm : X.mg "tuple" = none) (hg2 : Gl X "range") (hm2 : X.mg "range" = none) (ha : PE X a (tE X.K E ma)) (hb : PE X b (tE X.K E mb)) (n1 : starEach [Expr.Call (.Name "range" p2) [a, b] [] q] X.env = (false, eval (.Call (.Name "range" p2) [a, b] [] q) X.env) :: starEach [] X.env := by rfl)
    (n2 : starEach [a, b] X.env = (false, eval a X.env) :: starEach [b] X.env := by rfl) (n3 : starEach [b] X.env = (false, eval b X.env) :: starEach [] X.env := by rfl) (n4 : (backTo q (starEach [b] X.env)).any (·.1) = false := by rfl) :
    PE X (.Call (.Name "tuple" p) [.Call (.Name "range" p2) [a, b] [] q] [] pos) (tE X.K E (mBin opRgT2 ma mb)) := by
  refine PE.imp (pe_tupRg hc hg hm (prg_2 hg2 hm2 ha hb n2 n3 n4) n1) ?_
  rintro σ H Q ⟨ρ, m, S, sr, er, h⟩
  refine ⟨ρ, m, S, sr, er, RO.bind h fun d S1 v H1 ρ1 m1 s1 r1 h1 => ?_⟩
  refine ⟨ρ1, m, S1, s1, er.mo m1, RO.bind h1 fun e S2 w H2 ρ2 m2 s2 r2 h2 => ?_⟩
  unfold opRgT2 rgTup at h2
  split at h2
  · rename_i pr hp
    obtain ⟨i, j, rfl, rfl, rfl, ok⟩ := bounds2_of (r1.mo m2) r2 hp
    exact ⟨i, j, rfl, rfl, ok, fun q hq => RO.tup s2 (rpa_rg _ _) h2 hq⟩
  · exact h2.elim
theorem pm_lstRg1 (hc : X.calm = true) (hg : Gl X "list") (hm : X.mg "list" = none) (hg2 : Gl X "range") (hm2 : X.mg "range" = none) (ha : PE X a (tE X.K E ma)) (n1 : starEach [Expr.Call (.Name "range" p2) [a] [] q] X.env = (false, eval (.Call (.Name "range" p2) [a] [] q) X.env) :: starEach [] X.env := by rfl) (n2 : starEach [a] X.env = (false, eval a X.env) :: starEach [] X.env := by rfl) :
    PE X (.Call (.Name "list" p) [.Call (.Name "range" p2) [a] [] q] [] pos) (tE X.K E (mUn opRgL1 ma)) := by
  refine PE.imp (pe_listRg hc hg hm (prg_1 hg2 hm2 ha n2) n1) ?_
  rintro σ H Q ⟨ρ, m, S, sr, er, h⟩
  refine ⟨ρ, m, S, sr, er, RO.bind h fun d S1 v H1 ρ1 m1 s1 r1 h1 => ?_⟩
  unfold opRgL1 rgLst at h1
  split at h1
  · rename_i pr hp
    obtain ⟨n, rfl, rfl, ok⟩ := bounds1_of r1 hp
    exact ⟨n, rfl, ok, fun q hq => RO.lst s1 (rpa_rg _ _).q h1 hq⟩
  · exact h1.elim
theorem pm_lstRg2 (hc : X.calm = true) (hg : Gl X "list") (hm : X.mg "list" = none) (hg2 : Gl X "range") (hm2 : X.mg "range" = none) (ha : PE X a (tE X.K E ma)) (hb : PE X b (tE X.K E mb)) (n1 : starEach [Expr.Call (.Name "range" p2) [a, b] [] q] X.env = (false, eval (.Call (.Name "range" p2) [a, b] [] q) X.env) :: starEach [] X.env := by rfl)
    (n2 : starEach [a, b] X.env = (false, eval a X.env) :: starEach [b] X.env := by rfl) (n3 : starEach [b] X.env = (false, eval b X.env) :: starEach [] X.env := by rfl) (n4 : (backTo q (starEach [b] X.env)).any (·.1) = false := by rfl) :
    PE X (.Call (.Name "list" p) [.Call (.Name "range" p2) [a, b] [] q] [] pos) (tE X.K E (mBin opRgL2 ma mb)) := by
  refine PE.imp (pe_listRg hc hg hm (prg_2 hg2 hm2 ha hb n2 n3 n4) n1) ?_
  rintro σ H Q ⟨ρ, m, S, sr, er, h⟩
  refine ⟨ρ, m, S, sr, er, RO.bind h fun d S1 v H1 ρ1 m1 s1 r1 h1 => ?_⟩
  refine ⟨ρ1, m, S1, s1, er.mo m1, RO.bind h1 fun e S2 w H2 ρ2 m2 s2 r2 h2 => ?_⟩
  unfold opRgL2 rgLst at h2
  split at h2
  · rename_i pr hp
    obtain ⟨i, j, rfl, rfl, rfl, ok⟩ := bounds2_of (r1.mo m2) r2 hp
    exact ⟨i, j, rfl, rfl, ok, fun q hq => RO.lst s2 (rpa_rg _ _).q h2 hq⟩
  · exact h2.elim
end
/-! ### xs[-2::-1] of a list -/
theorem pick_rev2 (items : Array Value) : slicePick items (some (-2)) none (some (-1)) = items.toList.dropLast.reverse.toArray := by
  have hb : sliceBounds (some (-2)) none (some (-1)) items.size = (((items.size - 1 : Nat) : Int) - 1, -1, -1) := by
    simp only [sliceBounds]
    rcases Nat.eq_zero_or_pos items.size with h | h
    · rw [h]; rfl
    · simp
      omega
  unfold slicePick
  rw [hb]
  show ((sliceRange (((items.size - 1 : Nat) : Int) - 1) (-1) (-1)).filterMap (items[·]?)).toArray = _
  rw [PySem.W.krv_sliceRange, PySem.W.krv_range, List.filterMap_reverse]
  congr 2
  have : ∀ n, n ≤ items.size → (List.range n).filterMap (items[·]?) = items.toList.take n := by
    intro n
    induction n with
    | zero => intro _; simp
    | succ n ih =>
      intro hn
      rw [List.range_succ, List.filterMap_append, ih (by omega), List.take_add_one]
      simp [show n < items.size by omega]
  rw [this _ (by omega), List.dropLast_eq_take, Array.length_toList]
def tRev2 (K : PySem.W.Frag) (te : TE) : TE := fun σ H Q => te σ H fun x H1 => ∃ a xs, x = .ref a ∧ SqL K H1 a xs ∧ ∀ p, H1 p = none → Q (.ref p) (upd H1 p (.lst xs.dropLast.reverse))
theorem pe_rev2 {X : Cx} {e : Expr} {te : TE} {k k2 : Nat} {p1 p2 p3 p4 p5 pos : Pos} (he : PE X e te) : PE X (.Subscript e (.Slice (some (.UnaryOp .USub (.Constant (.int 2) k2 p4) p5)) none (some (.UnaryOp .USub (.Constant (.int 1) k p1) p2)) p3) pos) (tRev2 X.K te) := by
  refine ⟨fun pins s σ H Q I h => ?_⟩
  refine Subscript_ (thn (he.run pins s σ H _ I h) fun v s1 ⟨x, H1, I1, r1, a, xs, ex, hx, q⟩ => ?_)
  subst ex
  cases r1
  have hlo : PO X (some (.UnaryOp .USub (.Constant (.int 2) k2 p4) p5)) (tPart (tUn (rU fun i => .int (-i)) (tC (.int 2)))) := po_some (pe_un un_neg pe_int)
  have hst : PO X (some (.UnaryOp .USub (.Constant (.int 1) k p1) p2)) (tPart (tUn (rU fun i => .int (-i)) (tC (.int 1)))) := po_some (pe_un un_neg pe_int)
  refine wpAny_Slice (thn (hlo.run pins s1 σ H1 (fun o H2 => o = some (-2) ∧ H2 = H1) I1 ⟨2, rfl, -2, rfl, rfl, rfl⟩) fun vl s2 ⟨l, H2, I2, pl, el, e2⟩ => ?_)
  subst el e2
  refine thn (po_none.run pins s2 σ H2 (fun o H3 => o = none ∧ H3 = H2) I2 ⟨rfl, rfl⟩) fun vu s3 ⟨u, H3, I3, pu, eu, e3⟩ => ?_
  subst eu e3
  refine thn (hst.run pins s3 σ H3 (fun o H4 => o = some (-1) ∧ H4 = H3) I3 ⟨1, rfl, -1, rfl, rfl, rfl⟩) fun vs s4 ⟨o, H4, I4, ps, eo, e4⟩ => ?_
  subst eo e4
  have I5 : Inv X pins σ H4 { s4 with heap := s4.heap.push { cls := .type "slice", data := .fields #[vl, vu, vs] } } := I4.kept (t' := s4.toks) fun b ob q => Heap.get?_push_of_some _ q
  obtain ⟨its, r, ht, hz⟩ := I5.list hx
  have hlen := r.length
  show wpAny (model X.prog X.w) X.A (subscriptTail e (.Slice (some (.UnaryOp .USub (.Constant (.int 2) k2 p4) p5)) none (some (.UnaryOp .USub (.Constant (.int 1) k p1) p2)) p3) (.ref a) (.ref s4.heap.objs.size)) (EP X pins σ Q) X.xe { s4 with heap := s4.heap.push { cls := .type "slice", data := .fields #[vl, vu, vs] } }
  refine tail_any (ops := [.ref a, .ref s4.heap.objs.size]) ht.isList.typeIs (PySem.slot_list_getitem.lookup) ?_ (by with_unfolding_all rfl)
  refine wpAny_getItem_list_slice ht.isList (Heap.IsSliceOf.new _ vl vu vs) pl pu ps (by decide) ?_ (by rw [List.size_toArray]; omega)
  rw [pick_rev2]
  have r2 : Vals xs.dropLast its.dropLast := by
    rw [List.dropLast_eq_take, List.dropLast_eq_take, hlen]
    exact r.take _
  refine ⟨.ref _, _, I5.laid (t' := s4.toks) (o := .lst xs.dropLast.reverse) (fun b ob q => Heap.get?_push_of_some _ q) (Nat.le_refl _) ?_, rfl, q _ (I5.hok.fresh (Nat.le_refl _))⟩
  exact ⟨by rw [List.length_reverse, List.length_dropLast]; omega, _, 0, r2.reverse, Heap.get?_push_size _ rfl⟩
def opRev2 (d : R) (S : Store) : Out R := match lstOf S d with
  | some ds => .ok (.ref S.length) (S ++ [.lst ds.dropLast.reverse])
  | none => .no
theorem pm_rev2 {X : Cx} {E : St → XK} {e : Expr} {ma : ME} {k k2 : Nat} {p1 p2 p3 p4 p5 pos : Pos} (he : PE X e (tE X.K E ma)) : PE X (.Subscript e (.Slice (some (.UnaryOp .USub (.Constant (.int 2) k2 p4) p5)) none (some (.UnaryOp .USub (.Constant (.int 1) k p1) p2)) p3) pos) (tE X.K E (mUn opRev2 ma)) := by
  refine PE.imp (pe_rev2 he) ?_
  rintro σ H Q ⟨ρ, m, S, sr, er, h⟩
  refine ⟨ρ, m, S, sr, er, RO.bind h fun d S1 v H1 ρ1 m1 s1 r1 h1 => ?_⟩
  unfold opRev2 at h1
  split at h1
  · rename_i ds hds
    obtain ⟨p, xs, rfl, hq, ra⟩ := s1.lsD r1 hds
    exact ⟨_, _, rfl, hq, fun p hp => RO.lst s1 (RqA.reverse' ra.dropLast) h1 hp⟩
  · exact h1.elim
end M

/-! MCls: instances, dicts with tuple keys, locks. -/
namespace M
open PySem PySem.Spec L2
open PyProof.Rows hiding St
theorem lt_of_get' {S : Store} {n : Nat} {o : MO} (h : S[n]? = some o) : n < S.length := (List.getElem?_eq_some_iff.mp h).1
variable {K : PySem.W.Frag} {H H' : Hp} {ρ ρ' : Wd} {S S' : Store}
/-! ### instances -/
structure ClsT (K : PySem.W.Frag) (c : Str) (C : Addr) : Prop where
  at_ : PySem.W.nsIn K mainGlobals c = some (some (.ref C))
  cl : Cls K C
def putR' (f : Str) (d : R) : List (Str × R) → List (Str × R)
  | [] => [(f, d)]
  | (g, x) :: r => if g = f then (g, d) :: r else (g, x) :: putR' f d r
theorem RpP.look {vs : List (Str × V)} {ds : List (Str × R)} (h : RpP K H ρ vs ds) (f : Str) {d : R} (e : ds.lookup f = some d) : ∃ v, vs.lookup f = some v ∧ Rq K H ρ v d := by
  unfold RpP at h
  induction h with
  | nil => cases e
  | @cons p q ps qs h1 h2 ih =>
    obtain ⟨g, v⟩ := p
    obtain ⟨g', x⟩ := q
    obtain ⟨e1, e2⟩ := h1
    have e1 : g = g' := e1
    subst e1
    rw [List.lookup_cons] at e ⊢
    split at e
    · cases e; exact ⟨v, rfl, e2⟩
    · exact ih e
theorem RpP.lookN {vs : List (Str × V)} {ds : List (Str × R)} (h : RpP K H ρ vs ds) (f : Str) (e : ds.lookup f = none) : vs.lookup f = none := by
  unfold RpP at h
  induction h with
  | nil => rfl
  | @cons p q ps qs h1 h2 ih =>
    obtain ⟨g, v⟩ := p
    obtain ⟨g', x⟩ := q
    obtain ⟨e1, e2⟩ := h1
    have e1 : g = g' := e1
    subst e1
    rw [List.lookup_cons] at e ⊢
    split at e
    · cases e
    · exact ih e
theorem RpP.putF {vs : List (Str × V)} {ds : List (Str × R)} (h : RpP K H ρ vs ds) (f : Str) {v : V} {d : R} (r : Rq K H ρ v d) : RpP K H ρ (L2.putF f v vs) (putR' f d ds) := by
  unfold RpP at h
  induction h with
  | nil => exact .cons ⟨rfl, r⟩ .nil
  | @cons p q ps qs h1 h2 ih =>
    obtain ⟨g, w⟩ := p
    obtain ⟨g', x⟩ := q
    obtain ⟨e1, e2⟩ := h1
    have e1 : g = g' := e1
    subst e1
    show RpP K H ρ (if g = f then (g, v) :: ps else (g, w) :: L2.putF f v ps) (if g = f then (g, d) :: qs else (g, x) :: putR' f d qs)
    split
    · exact .cons ⟨rfl, r⟩ h2
    · exact .cons ⟨rfl, e2⟩ ih
def insOf (c : Str) (S : Store) : R → Option (List (Str × R))
  | .ref n => match S[n]? with
    | some (.ins c' fs) => if c' = c then some fs else none
    | _ => none
  | _ => none
theorem SR.ins {c : Str} {C : Addr} {v : V} {d : R} {gs : List (Str × R)} (T : ClsT K c C) (sr : SR K H ρ S) (r : Rq K H ρ v d) (h : insOf c S d = some gs) :
    ∃ n a dx fs, d = .ref n ∧ v = .ref a ∧ ρ.r[n]? = some a ∧ S[n]? = some (.ins c gs) ∧ H a = some (.ins C dx fs) ∧ RpP K H ρ fs gs ∧ ¬ ρ.z a := by
  cases r with
  | v r => cases h
  | @ref a n ea =>
    unfold insOf at h
    simp only at h
    split at h
    · rename_i c' fs hx
      split at h
      · rename_i hc
        cases h
        subst hc
        obtain ⟨C', dx, vs, h1, h2, h3⟩ := sr.obj n a _ ea hx
        have e : C' = C := by
          have := h1.symm.trans T.at_
          cases this
          rfl
        subst e
        exact ⟨n, a, dx, vs, rfl, rfl, ea, hx, h2, h3, sr.lv n a _ ea hx trivial⟩
      · cases h
    · cases h
def mFld (c f : Str) (a : ME) : ME := fun m S => (a m S).bind fun d S1 => match (insOf c S1 d).bind fun fs => fs.lookup f with
  | some r => .ok r S1
  | none => .no
def mSetFld (c f : Str) (o v : ME) : MS := fun m S => (v m S).thenS m fun d S1 => (o m S1).thenS m fun x S2 => match x, insOf c S2 x with
  | .ref n, some fs => if fs.length < 1000 then .nx m (S2.set n (.ins c (putR' f d fs))) else .no
  | _, _ => .no
def mAugFld (c f : Str) (o : ME) (g : R → R → Store → Out R) (v : ME) : MS := fun m S => (o m S).thenS m fun x S1 => match (insOf c S1 x).bind fun fs => fs.lookup f with
  | some old => (v m S1).thenS m fun d S2 => (g old d S2).thenS m fun z S3 => match x, insOf c S3 x with
    | .ref n, some fs => if fs.length < 1000 then .nx m (S3.set n (.ins c (putR' f z fs))) else .no
    | _, _ => .no
  | none => .no
def mMethC (c m' : Str) (g : List R → Store → Out R) (o : ME) (r : MA) : ME := fun m S => (o m S).bind fun x S1 => match insOf c S1 x with
  | some fs => match fs.lookup m' with
    | none => (r m S1).bind fun ds S2 => g (x :: ds) S2
    | some _ => .no
  | none => .no
def mMake (c : Str) (g : List R → Store → Out R) (r : MA) : ME := fun m S => (r m S).bind fun ds S1 => (g (.ref S1.length :: ds) (S1 ++ [.ins c []])).bind fun z S2 => match z with
  | .v .non => .ok (.ref S1.length) S2
  | _ => .no
section
variable {X : Cx} {E : St → XK} {a b o e value : Expr} {es : List Expr} {ma mb mo mv : ME} {mr : MA} {c f : Str} {C : Addr} {pos pos' apos tpos p : Pos}
theorem pm_fld (T : ClsT X.K c C) (n : NoAttr X.K C f) (ha : PE X a (tE X.K E ma)) (hb : attributeBase a f X.env (eval a X.env) = eval a X.env := by rfl) : PE X (.Attribute a f pos) (tE X.K E (mFld c f ma)) := by
  refine PE.imp (pe_fld ha hb) ?_
  rintro σ H Q ⟨ρ, m, S, sr, er, h⟩
  refine ⟨ρ, m, S, sr, er, RO.bind h fun d S1 v H1 ρ1 m1 s1 r1 h1 => ?_⟩
  split at h1
  · rename_i r hr
    obtain ⟨gs, hg, hl⟩ := Option.bind_eq_some_iff.mp hr
    obtain ⟨k, q, dx, fs, rfl, rfl, e1, e2, e3, e4, e5⟩ := s1.ins T r1 hg
    obtain ⟨w, l1, l2⟩ := e4.look f hl
    exact ⟨q, C, dx, fs, w, rfl, e3, T.cl, n, l1, h1 _ _ _ .refl s1 l2⟩
  · exact h1.elim
theorem psm_fld (T : ClsT X.K c C) (n : NoAttr X.K C f) (ho : PE X o (tE X.K E mo)) (hv : PE X value (tE X.K E mv)) (hs : swapsWith value (some (.Attribute o f pos')) pos.line X.env = pure false := by rfl) : PS X (.Assign [.Attribute o f pos'] value pos) (tS X.K E (mSetFld c f mo mv)) := by
  refine PS.imp (ps_fld ho hv hs) ?_
  rintro D σ H ⟨ρ, m, S, sr, er, h⟩
  refine ⟨ρ, m, S, sr, er, RS.bind er h fun d S1 v H1 ρ1 m1 s1 r1 er1 h1 => ?_⟩
  refine ⟨ρ1, m, S1, s1, er1, RS.bind er1 h1 fun x S2 w H2 ρ2 m2 s2 r2 er2 h2 => ?_⟩
  split at h2
  · rename_i k gs hk
    split at h2
    · rename_i hz
      obtain ⟨k', q, dx, fs, e0, rfl, e1, e2, e3, e4, e5⟩ := s2.ins T r2 hk
      cases e0
      have mo : Mo X.K H2 ρ2 (upd H2 q (.ins C dx (L2.putF f v fs))) ρ2 := .set e3 trivial e5
      refine ⟨q, C, dx, fs, rfl, e3, T.cl, n, by rw [show fs.length = gs.length from Paired.length e4]; exact hz, ?_⟩
      exact h2 σ _ ρ2 mo (s2.set e1 e3 trivial e5 ⟨C, dx, _, T.at_, upd_same, (e4.putF f (r1.mo m2)).mo mo⟩) (er2.mo mo)
    · exact h2.elim
  · exact h2.elim
theorem psm_fldaug {op : Operator} {g : R → R → Store → Out R} (T : ClsT X.K c C) (n : NoAttr X.K C f) (ho : PE X o (tE X.K E mo)) (hv : PE X value (tE X.K E mv)) (hp : PIp X op (rM X.K g)) : PS X (.AugAssign (.Attribute o f tpos) op value pos) (tS X.K E (mAugFld c f mo g mv)) := by
  refine PS.imp (ps_fldaug ho hv hp) ?_
  rintro D σ H ⟨ρ, m, S, sr, er, h⟩
  refine ⟨ρ, m, S, sr, er, RS.bind er h fun x S1 v H1 ρ1 m1 s1 r1 er1 h1 => ?_⟩
  split at h1
  · rename_i old hr
    obtain ⟨gs, hg, hl⟩ := Option.bind_eq_some_iff.mp hr
    obtain ⟨k, q, dx, fs, rfl, rfl, e1, e2, e3, e4, e5⟩ := s1.ins T r1 hg
    obtain ⟨w, l1, l2⟩ := e4.look f hl
    refine ⟨q, C, dx, fs, w, rfl, e3, T.cl, n, l1, ?_⟩
    refine ⟨ρ1, m, S1, s1, er1, RS.bind er1 h1 fun d S2 y H2 ρ2 m2 s2 r2 er2 h2 => ?_⟩
    refine ⟨_, ρ2, S2, old, d, s2, l2.mo m2, r2, RS.bind er2 h2 fun z S3 zv H3 ρ3 m3 s3 r3 er3 h3 => ?_⟩
    split at h3
    · rename_i n' gs' hn' hg'
      split at h3
      · rename_i hz
        cases hn'
        obtain ⟨k', q', dx', fs', e0, ev, e1', e2', e3', e4', e5'⟩ := s3.ins T ((r1.mo m2).mo m3) hg'
        cases e0; cases ev
        have mo : Mo X.K H3 ρ3 (upd H3 q (.ins C dx' (L2.putF f zv fs'))) ρ3 := .set e3' trivial e5'
        refine ⟨dx', fs', e3', by rw [show fs'.length = gs'.length from Paired.length e4']; exact hz, ?_⟩
        exact h3 σ _ ρ3 mo (s3.set e1' e3' trivial e5' ⟨C, dx', _, T.at_, upd_same, (e4'.putF f r3).mo mo⟩) (er3.mo mo)
      · exact h3.elim
    · exact h3.elim
  · exact h1.elim
/-- where arguments are handed on -/
theorem spM_in {n : Nat} {g : List R → Store → Out R} {vs : List V} {H : Hp} {Q : VK} {E : XK} {ρ : Wd} {S : Store} {ds : List R} (hn : ds.length = n) (sr : SR K H ρ S) (r : RqA K H ρ vs ds) (h : RO K (relD K) E H ρ (g ds S) Q) : spM K n g vs H Q E := ⟨by rw [r.length, hn], ρ, S, ds, sr, r, h⟩
theorem pm_meth {m' : Str} {CX : CXT} {k n : Nat} {fa : Addr} {fd : FuncData} {ps : List Str} {g : List R → Store → Out R} {pl : Sem Bool} (T : ClsT X.K c C) (hm : Meth X.K C m' fa) (F : FnOk X.prog X.w X.K X.mg X.base CX k fa fd ps (spM X.K (n + 1) g)) (hr : Room k X.A) (hb : Binds X.K fd ps [])
    {E0 : XK} (hx : Passes CX X E0) (hE : ∀ σ, E σ = E0) (ho : PE X o (tE X.K E mo)) (ha : PA X (e :: es) (tA X.K E mr)) (hA : ∀ m S ds S', mr m S = .ok ds S' → ds.length = n)
    (hst : starEach (e :: es) X.env = (false, eval e X.env) :: starEach es X.env := by rfl) (hpl : (backTo pos (starEach es X.env)).any (·.1) = false := by rfl)
    (ht : eval (.Call (.Attribute o m' apos) (e :: es) [] pos) X.env = (do
      let ov ← eval o X.env
      standAt apos.atName
      let (f, first) ← holding [ov] (getMethod ov m' pl)
      callWith pos f first (backTo pos (starEach (e :: es) X.env)) (backToKw pos (keywordEach [] X.env))) := by rfl) :
    PE X (.Call (.Attribute o m' apos) (e :: es) [] pos) (tE X.K E (mMethC c m' g mo mr)) := by
  refine PE.imp (pe_meth (E := E0) ho T.cl hm F hr hb .nil hx ha hst hpl ht) ?_
  rintro σ H Q ⟨ρ, m, S, sr, er, h⟩
  refine ⟨ρ, m, S, sr, er, RO.bind h fun x S1 v H1 ρ1 m1 s1 r1 h1 => ?_⟩
  split at h1
  · rename_i gs hg
    obtain ⟨k', q, dx, fs, rfl, rfl, e1, e2, e3, e4, e5⟩ := s1.ins T r1 hg
    split at h1
    · rename_i hl
      refine ⟨q, dx, fs, rfl, e3, e4.lookN _ hl, ρ1, m, S1, s1, er.mo m1, ?_⟩
      have hA := hA m S1
      generalize mr m S1 = oo at h1 hA ⊢
      cases oo with
      | ok ds S2 =>
        intro vs H2 ρ2 m2 s2 r2
        rw [List.append_nil]
        refine spM_in (by rw [List.length_cons, hA ds S2 rfl]) s2 (.cons (r1.mo m2) r2) ?_
        have := RO.mono h1 m2
        rw [hE] at this
        exact this
      | exc c' S2 => exact h1
      | no => exact h1
    · exact h1.elim
  · exact h1.elim
theorem pm_meth0 {m' : Str} {CX : CXT} {k : Nat} {fa : Addr} {fd : FuncData} {ps : List Str} {g : List R → Store → Out R} {pl : Sem Bool} (T : ClsT X.K c C) (hm : Meth X.K C m' fa) (F : FnOk X.prog X.w X.K X.mg X.base CX k fa fd ps (spM X.K 1 g)) (hr : Room k X.A) (hb : Binds X.K fd ps [])
    {E0 : XK} (hx : Passes CX X E0) (hE : ∀ σ, E σ = E0) (ho : PE X o (tE X.K E mo))
    (ht : eval (.Call (.Attribute o m' apos) [] [] pos) X.env = (do
      let ov ← eval o X.env
      standAt apos.atName
      let (f, first) ← holding [ov] (getMethod ov m' pl)
      callWith pos f first (backTo pos (starEach [] X.env)) (backToKw pos (keywordEach [] X.env))) := by rfl) :
    PE X (.Call (.Attribute o m' apos) [] [] pos) (tE X.K E (mMethC c m' g mo mNil)) := by
  refine PE.imp (pe_meth0 (E := E0) ho T.cl hm F hr hb .nil hx ht) ?_
  rintro σ H Q ⟨ρ, m, S, sr, er, h⟩
  refine ⟨ρ, m, S, sr, er, RO.bind h fun x S1 v H1 ρ1 m1 s1 r1 h1 => ?_⟩
  split at h1
  · rename_i gs hg
    obtain ⟨k', q, dx, fs, rfl, rfl, e1, e2, e3, e4, e5⟩ := s1.ins T r1 hg
    split at h1
    · rename_i hl
      refine ⟨q, dx, fs, rfl, e3, e4.lookN _ hl, ?_⟩
      have h1 : RO X.K (relD X.K) (E σ) H1 ρ1 (g [.ref k'] S1) Q := h1
      rw [hE] at h1
      exact spM_in rfl s1 (.cons r1 .nil) h1
    · exact h1.elim
  · exact h1.elim
theorem made {c : Str} {C x dx : Addr} {vs : List V} {ds : List R} {g : List R → Store → Out R} {n : Nat} {Q : VK} {E0 : XK} (T : ClsT K c C) (sr : SR K H ρ S) (r : RqA K H ρ vs ds) (hn : ds.length = n) (hx : H x = none) (hd : H dx = none) (hne : dx ≠ x)
    (h : RO K (relD K) E0 H ρ ((g (.ref S.length :: ds) (S ++ [.ins c []])).bind fun z S2 => match z with | .v .non => .ok (.ref S.length) S2 | _ => .no) Q) :
    spM K (n + 1) g (.ref x :: vs) (upd (upd H dx (.own x)) x (.ins C dx [])) (fun v H2 => v = .non ∧ Q (.ref x) H2) E0 := by
  have m1 : Mo K H ρ (upd H dx (.own x)) ρ := .new sr hd
  have s1 : SR K (upd H dx (.own x)) ρ S := sr.newT hd
  have hx1 : upd H dx (.own x) x = none := by rw [upd_ne (Ne.symm hne)]; exact hx
  have m2 : Mo K (upd H dx (.own x)) ρ (upd (upd H dx (.own x)) x (.ins C dx [])) ⟨ρ.r ++ [x], ρ.z⟩ := .newR s1 hx1
  have s2 : SR K (upd (upd H dx (.own x)) x (.ins C dx [])) ⟨ρ.r ++ [x], ρ.z⟩ (S ++ [.ins c []]) := s1.new hx1 ⟨C, dx, [], T.at_, upd_same, .nil⟩
  have hr : (ρ.r ++ [x])[S.length]? = some x := by rw [← sr.len, List.getElem?_append_right (Nat.le_refl _), Nat.sub_self]; rfl
  refine spM_in (by rw [List.length_cons, hn]) s2 (.cons (.ref hr) ((r.mo m1).mo m2)) (RO.bind (RO.mono (RO.mono h m1) m2) fun z S2 zv H2 ρ2 m3 s3 r3 h3 => ?_)
  split at h3
  · cases r3 with
    | v r3 => cases r3; exact ⟨rfl, h3 _ _ _ .refl s3 (.ref (m3.ref _ _ hr))⟩
  · exact h3.elim
theorem pm_make {x : Str} {CX : CXT} {k n : Nat} {fa : Addr} {fd : FuncData} {ps : List Str} {g : List R → Store → Out R} (T : ClsT X.K x C) (Mc : Mk X.K C fa) (F : FnOk X.prog X.w X.K X.mg X.base CX k fa fd ps (spM X.K (n + 1) g)) (hr : Room (k + 1) X.A) (hg : Gl X x) (hm : X.mg x = some (.ref C)) (hb : Binds X.K fd ps [])
    {E0 : XK} (hx : Passes CX X E0) (hE : ∀ σ, E σ = E0) (ha : PA X (e :: es) (tA X.K E mr)) (hA : ∀ m S ds S', mr m S = .ok ds S' → ds.length = n) (hdb : (x == ("__debug__" : Str)) = false := by decide) (he : starEach (e :: es) X.env = (false, eval e X.env) :: starEach es X.env := by rfl) (hpl : (backTo pos (starEach es X.env)).any (·.1) = false := by rfl) :
    PE X (.Call (.Name x p) (e :: es) [] pos) (tE X.K E (mMake x g mr)) := by
  refine PE.imp (pe_make (E := E0) Mc F hr hg hm hb .nil hx ha hdb he hpl) ?_
  rintro σ H Q ⟨ρ, m, S, sr, er, h⟩
  have hA := hA m S
  refine ⟨ρ, m, S, sr, er, ?_⟩
  unfold mMake at h
  generalize mr m S = oo at h hA ⊢
  cases oo with
  | ok ds S1 =>
    intro vs H1 ρ1 m1 s1 r1 y dy hy hdy hne
    rw [List.append_nil]
    have h2 := RO.mono h m1
    rw [hE] at h2
    exact made T s1 r1 (hA ds S1 rfl) hy hdy hne h2
  | exc c' S1 => exact h
  | no => exact h
end
/-! ### dicts with tuple keys -/
def keyD : D → Option Key
  | .int i => some (.inl i)
  | .str x => some (.inr x)
  | _ => none
def keyDs : List D → Option (List Key)
  | [] => some []
  | d :: ds => match keyD d, keyDs ds with
    | some k, some ks => some (k :: ks)
    | _, _ => none
def keyT : R → Option (List Key)
  | .v (.tup ds) => keyDs ds
  | _ => none
def dKey : Key → D
  | .inl i => .int i
  | .inr x => .str x
theorem keyDs_map : ∀ ks : List Key, keyDs (ks.map dKey) = some ks
  | [] => rfl
  | .inl i :: ks => by simp [keyDs, keyD, dKey, keyDs_map ks]
  | .inr i :: ks => by simp [keyDs, keyD, dKey, keyDs_map ks]
theorem keyD_kV {v : V} {d : D} {k : Key} (r : Rp K H ρ v d) (h : keyD d = some k) : v = kV k := by
  cases r <;> first | (cases h; rfl) | cases h
theorem keyDs_kV : ∀ {ds : List D} {vs : List V} {ks : List Key}, RpA K H ρ vs ds → keyDs ds = some ks → vs = ks.map kV
  | [], _, _, .nil, h => by cases h; rfl
  | d :: ds, _, ks, .cons h1 h2, h => by
    unfold keyDs at h
    split at h
    · rename_i k ks' hk hks
      cases h
      rw [keyD_kV h1 hk, keyDs_kV h2 hks]; rfl
    · cases h
theorem keyT_kV {v : V} {d : R} {ks : List Key} (r : Rq K H ρ v d) (h : keyT d = some ks) : ∃ b, v = .ref b ∧ H b = some (.tup (ks.map kV)) := by
  cases r with
  | ref e => cases h
  | v r =>
    cases r <;> first | (cases h; done) | skip
    case tup hs ra =>
      refine ⟨_, rfl, ?_⟩
      rw [← keyDs_kV ra h]; exact hs
theorem kV_dKey (k : Key) : Rp K H ρ (kV k) (dKey k) := by
  cases k with
  | inl i => exact .int i
  | inr x => exact .str x
theorem kVs_dKey : ∀ ks : List Key, RpA K H ρ (ks.map kV) (ks.map dKey)
  | [] => .nil
  | k :: ks => .cons (kV_dKey k) (kVs_dKey ks)
def putT (kvs : List (List Key × R)) (k : List Key) (v : R) : List (List Key × R) :=
  if (kvs.any fun kv => decide (kv.1 = k)) = true then kvs.map (fun kv => if kv.1 = k then (kv.1, v) else kv) else kvs ++ [(k, v)]
def valT (kvs : List (List Key × R)) (k : List Key) : Option R := (kvs.find? fun kv => decide (kv.1 = k)).map (·.2)
section
variable {κ : Type} [DecidableEq κ]
theorem RpPk.any {vs : List (κ × V)} {ds : List (κ × R)} (h : RpP K H ρ vs ds) (k : κ) : (vs.any fun kv => decide (kv.1 = k)) = ds.any fun kv => decide (kv.1 = k) := by
  unfold RpP at h
  induction h with
  | nil => rfl
  | cons h1 h2 ih => rw [List.any_cons, List.any_cons, ih, h1.1]
theorem RpPk.append {vs ws : List (κ × V)} {ds es : List (κ × R)} (h : RpP K H ρ vs ds) (k : RpP K H ρ ws es) : RpP K H ρ (vs ++ ws) (ds ++ es) := by
  unfold RpP at h
  induction h with
  | nil => exact k
  | cons h1 h2 ih => exact .cons h1 ih
theorem RpPk.repl {vs : List (κ × V)} {ds : List (κ × R)} (h : RpP K H ρ vs ds) (k : κ) {v : V} {d : R} (r : Rq K H ρ v d) : RpP K H ρ (vs.map fun kv => if kv.1 = k then (kv.1, v) else kv) (ds.map fun kv => if kv.1 = k then (kv.1, d) else kv) := by
  unfold RpP at h
  induction h with
  | nil => exact .nil
  | @cons p q ps qs h1 h2 ih =>
    refine .cons ?_ ih
    by_cases hk : p.1 = k
    · have hk' : q.1 = k := by rw [← h1.1]; exact hk
      simp only [if_pos hk, if_pos hk']
      exact ⟨h1.1, r⟩
    · have hk' : ¬ q.1 = k := by rw [← h1.1]; exact hk
      simp only [if_neg hk, if_neg hk']
      exact h1
theorem RpPk.val {vs : List (κ × V)} {ds : List (κ × R)} (h : RpP K H ρ vs ds) (k : κ) : (valV vs k = none ∧ (ds.find? fun kv => decide (kv.1 = k)).map (·.2) = none) ∨ ∃ v d, valV vs k = some v ∧ (ds.find? fun kv => decide (kv.1 = k)).map (·.2) = some d ∧ Rq K H ρ v d := by
  unfold RpP at h
  induction h with
  | nil => exact .inl ⟨rfl, rfl⟩
  | @cons p q ps qs h1 h2 ih =>
    unfold valV at ih ⊢
    by_cases hk : p.1 = k
    · have hk' : q.1 = k := by rw [← h1.1]; exact hk
      refine .inr ⟨p.2, q.2, ?_, ?_, h1.2⟩
      · rw [List.find?_cons_of_pos (by simpa using hk)]; rfl
      · rw [List.find?_cons_of_pos (by simpa using hk')]; rfl
    · have hk' : ¬ q.1 = k := by rw [← h1.1]; exact hk
      rw [List.find?_cons_of_neg (by simpa using hk), List.find?_cons_of_neg (by simpa using hk')]
      exact ih
end
theorem RpP.putT {vs : List (List Key × V)} {ds : List (List Key × R)} (h : RpP K H ρ vs ds) (k : List Key) {v : V} {d : R} (r : Rq K H ρ v d) : RpP K H ρ (putK vs k v) (putT ds k d) := by
  unfold putK M.putT
  rw [RpPk.any h k]
  split
  · exact RpPk.repl h k r
  · exact RpPk.append h (.cons ⟨rfl, r⟩ .nil)
/-- read, locked or not -/
def dtOf (S : Store) : R → Option (List (List Key × R))
  | .ref n => match S[n]? with
    | some (.dT kvs) => some kvs
    | some (.lkT kvs) => some kvs
    | _ => none
  | _ => none
theorem SR.dt {v : V} {d : R} {kds : List (List Key × R)} (sr : SR K H ρ S) (r : Rq K H ρ v d) (h : dtOf S d = some kds) : ∃ a xs, v = .ref a ∧ Rd H a (.dT xs) ∧ RpP K H ρ xs kds := by
  cases r with
  | v r => cases h
  | @ref a n ea =>
    unfold dtOf at h
    simp only at h
    split at h
    · rename_i kvs hx
      cases h
      obtain ⟨xs, h1, h2⟩ := sr.obj n a _ ea hx
      exact ⟨a, xs, rfl, .inl h1, h2⟩
    · rename_i kvs hx
      cases h
      obtain ⟨_, od, xs, h1, h2⟩ := sr.obj n a _ ea hx
      exact ⟨a, xs, rfl, .inr ⟨_, h1⟩, h2⟩
    · cases h
theorem SR.dgetT {v y : V} {d e : R} {kds : List (List Key × R)} {k : List Key} (sr : SR K H ρ S) (r : Rq K H ρ v d) (h : dtOf S d = some kds) (re : Rq K H ρ y e) (he : keyT e = some k) : ∃ a o, v = .ref a ∧ DGet H a y o ∧ (match valT kds k with
    | some w => ∃ x, o = some x ∧ Rq K H ρ x w
    | none => o = none) := by
  obtain ⟨a, xs, rfl, hd, rp⟩ := sr.dt r h
  obtain ⟨b, rfl, hb⟩ := keyT_kV re he
  refine ⟨a, valV xs k, rfl, .inr ⟨xs, k, b, hd, rfl, hb, rfl⟩, ?_⟩
  unfold valT
  rcases RpPk.val rp k with ⟨h1, h2⟩ | ⟨w, z, h1, h2, h3⟩
  · rw [h1, h2]
  · rw [h1, h2]; exact ⟨w, rfl, h3⟩
def opIxT (d e : R) (S : Store) : Out R := match dtOf S d, keyT e with
  | some kvs, some k => match valT kvs k with
    | some x => .ok x S
    | none => .no
  | _, _ => .no
def opInT (e d : R) (S : Store) : Out R := match dtOf S d, keyT e with
  | some kvs, some k => .ok (.v (.bl (valT kvs k).isSome)) S
  | _, _ => .no
def opNotInT (e d : R) (S : Store) : Out R := match dtOf S d, keyT e with
  | some kvs, some k => .ok (.v (.bl (!(valT kvs k).isSome))) S
  | _, _ => .no
def biLenT (ds : List R) (S : Store) : Out R := match ds with
  | [d] => match dtOf S d with
    | some kvs => .ok (.v (.int kvs.length)) S
    | none => .no
  | _ => .no
def mDctT0 : ME := fun _ S => .ok (.ref S.length) (S ++ [.dT []])
def mSetT (f o i : ME) : MS := fun m S => (f m S).thenS m fun d S1 => (o m S1).thenS m fun x S2 => (i m S2).thenS m fun y S3 => match x, keyT y with
  | .ref n, some k => match S3[n]? with
    | some (.dT kvs) => if kvs.length < sizeLine then .nx m (S3.set n (.dT (putT kvs k d))) else .no
    | _ => .no
  | _, _ => .no
def mGetT (d k x : ME) : ME := fun m S => (d m S).bind fun a S1 => match dtOf S1 a with
  | none => .no
  | some _ => (k m S1).bind fun e S2 => (x m S2).bind fun z S3 => match dtOf S3 a, keyT e with
    | some kvs, some ks => .ok ((valT kvs ks).getD z) S3
    | _, _ => .no
section
variable {X : Cx} {E : St → XK} {a b c o i e f value : Expr} {ma mb mc mo mi mv : ME} {pos pos' apos cpos : Pos}
theorem pm_dctT0 : PE X (.Dict [] [] pos) (tE X.K E mDctT0) := by
  refine PE.imp pe_dnewT ?_
  rintro σ H Q ⟨ρ, m, S, sr, er, h⟩
  exact fun p hp => h _ _ _ (.newR sr hp) (sr.new hp ⟨[], upd_same, .nil⟩) (.ref (by rw [← sr.len]; show (ρ.r ++ [p])[ρ.r.length]? = _; rw [List.getElem?_append_right (Nat.le_refl _), Nat.sub_self]; rfl))
theorem pm_ixT (hu : X.A.units + 65 < cLine) (ha : PE X a (tE X.K E ma)) (hb : PE X b (tE X.K E mb)) (hs : NoSl b := by exact fun _ _ => rfl) : PE X (.Subscript a b pos) (tE X.K E (mBin opIxT ma mb)) := by
  refine PE.imp (pe_dget (by omega) ha hb hs) ?_
  rintro σ H Q ⟨ρ, m, S, sr, er, h⟩
  refine ⟨ρ, m, S, sr, er, RO.bind h fun d S1 v H1 ρ1 m1 s1 r1 h1 => ?_⟩
  refine ⟨ρ1, m, S1, s1, er.mo m1, RO.bind h1 fun e S2 w H2 ρ2 m2 s2 r2 h2 => ?_⟩
  unfold opIxT at h2
  split at h2
  · rename_i kvs k hk he
    obtain ⟨q, oo, rfl, g, hv⟩ := s2.dgetT (r1.mo m2) hk r2 he
    split at h2
    · rename_i x hx
      rw [hx] at hv
      obtain ⟨y, rfl, ry⟩ := hv
      exact ⟨q, y, rfl, g, h2 _ _ _ .refl s2 ry⟩
    · exact h2.elim
  · exact h2.elim
theorem pc_dinT (hu : X.A.units + 65 < cLine) (ha : PE X a (tE X.K E ma)) (hb : PE X b (tE X.K E mb)) : PC X .In a b (tE X.K E (mBin opInT ma mb)) := by
  have q := pc_din (by omega) ha hb
  refine ⟨fun pins s σ H Q I h => q.run pins s σ H Q I ?_⟩
  obtain ⟨ρ, m, S, sr, er, h⟩ := h
  refine ⟨ρ, m, S, sr, er, RO.bind h fun d S1 v H1 ρ1 m1 s1 r1 h1 => ?_⟩
  refine ⟨ρ1, m, S1, s1, er.mo m1, RO.bind h1 fun e S2 w H2 ρ2 m2 s2 r2 h2 => ?_⟩
  unfold opInT at h2
  split at h2
  · rename_i kvs k hk he
    obtain ⟨q, oo, rfl, g, hv⟩ := s2.dgetT r2 hk (r1.mo m2) he
    refine ⟨q, oo, rfl, g, ?_⟩
    have e : oo.isSome = (valT kvs k).isSome := by
      split at hv
      · rename_i w hw; obtain ⟨x, rfl, _⟩ := hv; rw [hw]; rfl
      · rename_i hw; rw [hv, hw]; rfl
    rw [e]
    exact h2 _ _ _ .refl s2 (.v (.bl _))
  · exact h2.elim
theorem pc_dnotinT (hu : X.A.units + 65 < cLine) (ha : PE X a (tE X.K E ma)) (hb : PE X b (tE X.K E mb)) : PC X .NotIn a b (tE X.K E (mBin opNotInT ma mb)) := by
  have q := pc_dnotin (by omega) ha hb
  refine ⟨fun pins s σ H Q I h => q.run pins s σ H Q I ?_⟩
  obtain ⟨ρ, m, S, sr, er, h⟩ := h
  refine ⟨ρ, m, S, sr, er, RO.bind h fun d S1 v H1 ρ1 m1 s1 r1 h1 => ?_⟩
  refine ⟨ρ1, m, S1, s1, er.mo m1, RO.bind h1 fun e S2 w H2 ρ2 m2 s2 r2 h2 => ?_⟩
  unfold opNotInT at h2
  split at h2
  · rename_i kvs k hk he
    obtain ⟨q, oo, rfl, g, hv⟩ := s2.dgetT r2 hk (r1.mo m2) he
    refine ⟨q, oo, rfl, g, ?_⟩
    have e : oo.isSome = (valT kvs k).isSome := by
      split at hv
      · rename_i w hw; obtain ⟨x, rfl, _⟩ := hv; rw [hw]; rfl
      · rename_i hw; rw [hv, hw]; rfl
    rw [e]
    exact h2 _ _ _ .refl s2 (.v (.bl _))
  · exact h2.elim
theorem psm_setT (hu : X.A.units + 65 < cLine) (hv : PE X value (tE X.K E mv)) (ho : PE X o (tE X.K E mo)) (hi : PE X i (tE X.K E mi)) (hs : swapsWith value (some (.Subscript o i pos')) pos.line X.env = pure false := by rfl) : PS X (.Assign [.Subscript o i pos'] value pos) (tS X.K E (mSetT mv mo mi)) := by
  refine PS.imp (ps_dput (by omega) ho hi hv hs) ?_
  rintro D σ H ⟨ρ, m, S, sr, er, h⟩
  refine ⟨ρ, m, S, sr, er, RS.bind er h fun d S1 v H1 ρ1 m1 s1 r1 er1 h1 => ?_⟩
  refine ⟨ρ1, m, S1, s1, er1, RS.bind er1 h1 fun x S2 w H2 ρ2 m2 s2 r2 er2 h2 => ?_⟩
  refine ⟨ρ2, m, S2, s2, er2, RS.bind er2 h2 fun y S3 z H3 ρ3 m3 s3 r3 er3 h3 => ?_⟩
  split at h3
  · rename_i n k hk
    split at h3
    · rename_i kvs hx
      split at h3
      · rename_i hz
        have r2' := r2.mo m3
        cases r2' with
        | @ref q _ ea =>
        obtain ⟨xs, hq, rp⟩ := s3.obj n q _ ea hx
        have hl := s3.lv n q _ ea hx trivial
        obtain ⟨bb, rfl, hb⟩ := keyT_kV r3 hk
        have mo : Mo X.K H3 ρ3 (upd H3 q (.dT (putK xs k v))) ρ3 := .set hq trivial hl
        refine ⟨q, _, rfl, DPut.t hq hb (by rw [show xs.length = kvs.length from Paired.length rp]; exact hz), ?_⟩
        exact h3 σ _ ρ3 mo (s3.set ea hq trivial hl ⟨_, upd_same, (rp.putT k ((r1.mo m2).mo m3)).mo mo⟩) (er3.mo mo)
      · exact h3.elim
    · exact h3.elim
  · exact h3.elim
theorem pm_getT (hu : X.A.units + 65 < cLine) (ho : PE X o (tE X.K E mo)) (he : PE X e (tE X.K E mi)) (hf : PE X f (tE X.K E mv)) (mm : M2 X o "get" apos e f cpos) : PE X (.Call (.Attribute o "get" apos) [e, f] [] cpos) (tE X.K E (mGetT mo mi mv)) := by
  refine PE.imp (pe_dget2 (by omega) ho he hf mm) ?_
  rintro σ H Q ⟨ρ, m, S, sr, er, h⟩
  refine ⟨ρ, m, S, sr, er, RO.bind h fun d S1 v H1 ρ1 m1 s1 r1 h1 => ?_⟩
  split at h1
  · exact h1.elim
  · rename_i kds hd
    obtain ⟨q, xs, rfl, hq, rp⟩ := s1.dt r1 hd
    refine ⟨q, rfl, .inr ⟨xs, hq⟩, ρ1, m, S1, s1, er.mo m1, RO.bind h1 fun e S2 w H2 ρ2 m2 s2 r2 h2 => ?_⟩
    refine ⟨ρ2, m, S2, s2, (er.mo m1).mo m2, RO.bind h2 fun z S3 zz H3 ρ3 m3 s3 r3 h3 => ?_⟩
    split at h3
    · rename_i kvs ks hk he
      obtain ⟨q', oo, e0, g, hv⟩ := s3.dgetT ((r1.mo m2).mo m3) hk (r2.mo m3) he
      cases e0
      refine ⟨oo, g, h3 _ _ _ .refl s3 ?_⟩
      split at hv
      · rename_i w hw; obtain ⟨x, rfl, rx⟩ := hv; rw [hw]; exact rx
      · rename_i hw; rw [hv, hw]; exact r3
    · exact h3.elim
theorem cam_lenT : CaM X (.builtin "len") biLenT := by
  rintro pins s σ H xs us Q I r ⟨E, ρ, S, ds, sr, rd, h⟩
  unfold biLenT at h
  split at h
  · split at h
    · rename_i d kvs hk
      obtain ⟨w, rfl, r1⟩ := rd.one
      obtain ⟨a, ys, rfl, ha, ra⟩ := sr.dt r1 hk
      obtain ⟨u, rfl, ru⟩ := r.one
      cases ru
      obtain ⟨z, hd, zs, rel, dd⟩ := dt_rd I.hok ha
      have hl : ys.length = zs.length := Paired.length rel
      refine call_len_dictH hd dd (by rw [← hl]; rw [sizeLine_eq] at z; omega) ?_
      rw [← hl]
      refine ⟨.int ((ys.length : Nat) : Int), H, I.tok _, ⟨_, rfl⟩, ?_⟩
      rw [show ys.length = kvs.length from Paired.length ra]
      exact h _ _ _ .refl sr (.v (.int _))
    · exact h.elim
  · exact h.elim
end
/-! ### locks -/
structure Wk (K : PySem.W.Frag) (H : Hp) (ρ : Wd) (H' : Hp) (ρ' : Wd) : Prop where
  tup : ∀ a xs, H a = some (.tup xs) → H' a = some (.tup xs)
  kl : ∀ a xs, KL K H a xs → KL K H' a xs
  ref : ∀ (n : Nat) (a : Addr), ρ.r[n]? = some a → ρ'.r[n]? = some a
  zl : ∀ a xs, ρ.z a → H a = some (.lst xs) → ρ'.z a ∧ H' a = some (.lst xs)
  zd : ∀ a kvs, ρ.z a → H a = some (.dK kvs) → ρ'.z a ∧ H' a = some (.dK kvs)
mutual
theorem Rp.wk (w : Wk K H ρ H' ρ') : ∀ (d : D) (v : V), Rp K H ρ v d → Rp K H' ρ' v d
  | .non, _, h => by cases h; exact .non
  | .bl b, _, h => by cases h; exact .bl b
  | .int i, _, h => by cases h; exact .int i
  | .str x, _, h => by cases h; exact .str x
  | .ty n, _, h => by cases h; exact .ty n
  | .tup ds, _, h => by
    cases h with
    | tup hs ha => exact .tup (w.tup _ _ hs) (RpA.wk w ds _ ha)
  | .lst ds, _, h => by
    cases h with
    | lst hs ha => exact .lst (w.zl _ _ hs.1 hs.2) (RpA.wk w ds _ ha)
  | .kl ds, _, h => by
    cases h with
    | kl hs ha => exact .kl (w.kl _ _ hs) (RpA.wk w ds _ ha)
  | .dct ks ds, _, h => by
    cases h with
    | dct hz hs hl ha => exact .dct (w.zd _ _ hz hs).1 (w.zd _ _ hz hs).2 hl (RpA.wk w ds _ ha)
  | .txt, _, h => by
    cases h with
    | txt x hx => exact .txt x hx
  | .kt ds, _, h => by
    cases h with
    | kt hs ha => exact .kt hs (RpA.wk w ds _ ha)
theorem RpA.wk (w : Wk K H ρ H' ρ') : ∀ (ds : List D) (vs : List V), RpA K H ρ vs ds → RpA K H' ρ' vs ds
  | [], _, h => by cases h; exact .nil
  | d :: ds, _, h => by
    cases h with
    | cons h1 h2 => exact .cons (Rp.wk w d _ h1) (RpA.wk w ds _ h2)
end
theorem Rq.wk (w : Wk K H ρ H' ρ') {v : V} {d : R} (h : Rq K H ρ v d) : Rq K H' ρ' v d := by
  cases h with
  | v h => exact .v (Rp.wk w _ _ h)
  | ref e => exact .ref (w.ref _ _ e)
theorem RqA.wk (w : Wk K H ρ H' ρ') {v : List V} {d : List R} (h : RqA K H ρ v d) : RqA K H' ρ' v d := Paired.mapP h fun _ _ q => q.wk w
theorem RpP.wk {κ : Type} (w : Wk K H ρ H' ρ') {vs : List (κ × V)} {ds : List (κ × R)} (h : RpP K H ρ vs ds) : RpP K H' ρ' vs ds := Paired.mapP h fun _ _ q => ⟨q.1, q.2.wk w⟩
theorem EnvR.wk (w : Wk K H ρ H' ρ') {σ : St} {m : Env} (h : EnvR K H ρ σ m) : EnvR K H' ρ' σ m := ⟨h.len, fun i d e => by
  obtain ⟨v, a, b⟩ := h.get i d e
  exact ⟨v, a, b.wk w⟩⟩
theorem HoR.wk (w : Wk K H ρ H' ρ') {a : Addr} (ha : H' a = H a) (hz : ρ.z a → ρ'.z a) : ∀ {o : MO}, HoR K H ρ a o → HoR K H' ρ' a o
  | .lst ds, ⟨xs, h, r⟩ => ⟨xs, by rw [ha]; exact h, r.wk w⟩
  | .dK ds, ⟨xs, h, r⟩ => ⟨xs, by rw [ha]; exact h, r.wk w⟩
  | .dT ds, ⟨xs, h, r⟩ => ⟨xs, by rw [ha]; exact h, r.wk w⟩
  | .ins C ds, ⟨c, dx, xs, hc, h, r⟩ => ⟨c, dx, xs, hc, by rw [ha]; exact h, r.wk w⟩
  | .lkK ds, ⟨z, od, xs, h, r⟩ => ⟨hz z, od, xs, by rw [ha]; exact h, r.wk w⟩
  | .lkT ds, ⟨z, od, xs, h, r⟩ => ⟨hz z, od, xs, by rw [ha]; exact h, r.wk w⟩
  | .fz d, h => Rp.wk w _ _ h
/-- a locked dict, free, and the store that says so -/
inductive LkU : HO → MO → MO → Prop
  | t {xs : List (List Key × V)} {kvs : List (List Key × R)} : LkU (.dT xs) (.dT kvs) (.lkT kvs)
  | k {xs : List (Key × V)} {kvs : List (Key × R)} : LkU (.dK xs) (.dK kvs) (.lkK kvs)
def wdLock (ρ : Wd) (d : Addr) : Wd := ⟨ρ.r, fun b => ρ.z b ∨ b = d⟩
def wdFree (ρ : Wd) (d : Addr) : Wd := ⟨ρ.r, fun b => ρ.z b ∧ b ≠ d⟩
theorem lock_in {n : Nat} {d : Addr} {u od : HO} {o : Obj} {f l : MO} (sr : SR K H ρ S) (e : ρ.r[n]? = some d) (hx : S[n]? = some f) (hl : LkU u f l) (hd : H d = some u) (hr : HoR K H ρ d f) (hz : ¬ ρ.z d) :
    Mo K H ρ (upd H d (.frz o u)) (wdLock ρ d) ∧ SR K (upd H d (.frz o u)) (wdLock ρ d) (S.set n l) := by
  have so : Soft u := by cases hl <;> trivial
  have m0 : Mo K H ρ (upd H d (.frz o u)) ρ := .set hd so hz
  have mo : Mo K H ρ (upd H d (.frz o u)) (wdLock ρ d) := ⟨m0.tup, m0.kl, m0.ref, fun a h => ⟨.inl h, (m0.z a h).2⟩⟩
  refine ⟨mo, ⟨sr.nd, by rw [List.length_set]; exact sr.len, fun k a o' e' q => ?_, fun k a o' e' q hlv => ?_, fun a h => ?_, fun k a e' => ?_⟩⟩
  · by_cases hk : n = k
    · subst hk
      have ea : a = d := by rw [show (wdLock ρ d).r = ρ.r from rfl, e] at e'; exact (Option.some.inj e').symm
      subst ea
      rw [List.getElem?_set_self (lt_of_get' hx)] at q
      cases q
      cases hl with
      | t =>
        obtain ⟨xs, h1, h2⟩ := hr
        rw [hd] at h1; cases h1
        exact ⟨.inr rfl, o, _, upd_same, RpP.mo h2 mo⟩
      | k =>
        obtain ⟨xs, h1, h2⟩ := hr
        rw [hd] at h1; cases h1
        exact ⟨.inr rfl, o, _, upd_same, RpP.mo h2 mo⟩
    · rw [List.getElem?_set_ne hk] at q
      have hne : a ≠ d := fun z => hk (nd_at sr.nd e (z ▸ e'))
      exact (sr.obj k a o' e' q).mo mo (upd_ne hne)
  · by_cases hk : n = k
    · subst hk
      rw [List.getElem?_set_self (lt_of_get' hx)] at q
      cases q
      cases hl <;> exact hlv.elim
    · rw [List.getElem?_set_ne hk] at q
      have hne : a ≠ d := fun z => hk (nd_at sr.nd e (z ▸ e'))
      exact fun z => z.elim (sr.lv k a o' e' q hlv) hne
  · by_cases hne : a = d
    · subst hne; rw [upd_same]; exact fun z => nomatch z
    · rw [upd_ne hne]; exact sr.z a (h.resolve_right hne)
  · by_cases hne : a = d
    · subst hne; rw [upd_same]; exact fun z => nomatch z
    · rw [upd_ne hne]; exact sr.r k a e'
theorem lock_out {n : Nat} {d : Addr} {u : HO} {o : Obj} {f l : MO} {H1 : Hp} {ρ1 : Wd} {S1 : Store} (sr : SR K H ρ S) (e : ρ.r[n]? = some d) (hl : LkU u f l) (hd : H d = some u) (hr : HoR K H ρ d f) (hz : ¬ ρ.z d)
    (mo : Mo K (upd H d (.frz o u)) (wdLock ρ d) H1 ρ1) (m0 : Mo K H ρ (upd H d (.frz o u)) (wdLock ρ d)) (s1 : SR K H1 ρ1 S1) (hx : S1[n]? = some l) :
    H1 d = some (.frz o u) ∧ Wk K H1 ρ1 (upd H1 d u) (wdFree ρ1 d) ∧ Mo K H ρ (upd H1 d u) (wdFree ρ1 d) ∧ SR K (upd H1 d u) (wdFree ρ1 d) (S1.set n f) := by
  have hd1 : H1 d = some (.frz o u) := by rw [(mo.z d (.inr rfl)).2, upd_same]
  have nu : ∀ xs, u ≠ .tup xs ∧ u ≠ .lst xs := fun xs => by cases hl <;> exact ⟨(fun z => nomatch z), (fun z => nomatch z)⟩
  have e1 : ρ1.r[n]? = some d := mo.ref n d e
  have wk : Wk K H1 ρ1 (upd H1 d u) (wdFree ρ1 d) := by
    refine ⟨fun a xs h => ?_, fun a xs h => ?_, fun _ _ h => h, fun a xs hz' h => ?_, fun a xs hz' h => ?_⟩
    · have hne : a ≠ d := fun z => by subst z; rw [hd1] at h; cases h
      rw [upd_ne hne]; exact h
    · rcases h with ⟨o', h⟩ | h
      · have hne : a ≠ d := fun z => by
          subst z; rw [hd1] at h
          have q := (HO.frz.inj (Option.some.inj h)).2
          exact (nu xs).2 q
        exact .inl ⟨o', by rw [upd_ne hne]; exact h⟩
      · exact .inr h
    · have hne : a ≠ d := fun z => by subst z; rw [hd1] at h; cases h
      exact ⟨⟨hz', hne⟩, by rw [upd_ne hne]; exact h⟩
    · have hne : a ≠ d := fun z => by subst z; rw [hd1] at h; cases h
      exact ⟨⟨hz', hne⟩, by rw [upd_ne hne]; exact h⟩
  have mm := m0.trans mo
  have m2 : Mo K H ρ (upd H1 d u) (wdFree ρ1 d) := by
    refine ⟨fun a xs h => wk.tup a xs (mm.tup a xs h), fun a xs h => wk.kl a xs (mm.kl a xs h), mm.ref, fun a h => ?_⟩
    have hne : a ≠ d := fun z => hz (z ▸ h)
    exact ⟨⟨(mm.z a h).1, hne⟩, by rw [upd_ne hne]; exact (mm.z a h).2⟩
  refine ⟨hd1, wk, m2, ⟨s1.nd, by rw [List.length_set]; exact s1.len, fun k a o' e' q => ?_, fun k a o' e' q hlv => ?_, fun a h => ?_, fun k a e' => ?_⟩⟩
  · by_cases hk : n = k
    · subst hk
      have ea : a = d := by rw [show (wdFree ρ1 d).r = ρ1.r from rfl, e1] at e'; exact (Option.some.inj e').symm
      subst ea
      rw [List.getElem?_set_self (lt_of_get' hx)] at q
      cases q
      cases hl with
      | t =>
        obtain ⟨xs, h1, h2⟩ := hr
        rw [hd] at h1; cases h1
        exact ⟨_, upd_same, RpP.mo h2 m2⟩
      | k =>
        obtain ⟨xs, h1, h2⟩ := hr
        rw [hd] at h1; cases h1
        exact ⟨_, upd_same, RpP.mo h2 m2⟩
    · rw [List.getElem?_set_ne hk] at q
      have hne : a ≠ d := fun z => hk (nd_at s1.nd e1 (z ▸ e'))
      exact (s1.obj k a o' e' q).wk wk (upd_ne hne) fun z => ⟨z, hne⟩
  · by_cases hne : a = d
    · exact fun z => z.2 hne
    · by_cases hk : n = k
      · subst hk
        exact absurd (Option.some.inj (e'.symm.trans e1)) hne
      · rw [List.getElem?_set_ne hk] at q
        exact fun z => s1.lv k a o' e' q hlv z.1
  · rw [upd_ne h.2]; exact s1.z a h.1
  · by_cases hne : a = d
    · subst hne; rw [upd_same]; exact fun z => nomatch z
    · rw [upd_ne hne]; exact s1.r k a e'
abbrev LA := Env → Store → Option Nat
def laV (i : Nat) : LA := fun m _ => match m[i]? with
  | some (some (.ref n)) => some n
  | _ => none
def laF (c f : Str) (a : LA) : LA := fun m S => match a m S with
  | some n => match (insOf c S (.ref n)).bind fun fs => fs.lookup f with
    | some (.ref k) => some k
    | _ => none
  | none => none
def lkOf : MO → Option MO
  | .dT kvs => some (.lkT kvs)
  | .dK kvs => some (.lkK kvs)
  | _ => none
open Classical in
noncomputable def unlkS (n : Nat) (l f : MO) : OutS → OutS
  | .nx m S => if S[n]? = some l then .nx m (S.set n f) else .no
  | .rt d S => if S[n]? = some l then .rt d (S.set n f) else .no
  | _ => .no
open Classical in
noncomputable def unlkE (n : Nat) (l f : MO) : Out R → Out R
  | .ok d S => if S[n]? = some l then .ok d (S.set n f) else .no
  | _ => .no
noncomputable def mLockS0 (la : LA) (g : MS) : MS := fun m S => match la m S with
  | some n => match S[n]? with
    | some f => match lkOf f with
      | some l => unlkS n l f (g m (S.set n l))
      | none => .no
    | none => .no
  | none => .no
noncomputable def mLockE0 (la : LA) (g : ME) : ME := fun m S => match la m S with
  | some n => match S[n]? with
    | some f => match lkOf f with
      | some l => unlkE n l f (g m (S.set n l))
      | none => .no
    | none => .no
  | none => .no
/-- is the cell locked by now -/
def isLk (S : Store) (n : Nat) : Bool := match S[n]? with
  | some (.lkT _) => true
  | some (.lkK _) => true
  | _ => false
noncomputable def mLockS (la : LA) (g : MS) : MS := fun m S => match la m S with
  | some n => if isLk S n = true then g m S else mLockS0 la g m S
  | none => .no
noncomputable def mLockE (la : LA) (g : ME) : ME := fun m S => match la m S with
  | some n => if isLk S n = true then g m S else mLockE0 la g m S
  | none => .no
theorem lkU_of {f l : MO} {d : Addr} (sr : SR K H ρ S) {n : Nat} (e : ρ.r[n]? = some d) (hx : S[n]? = some f) (h : lkOf f = some l) : ∃ u, LkU u f l ∧ H d = some u ∧ HoR K H ρ d f ∧ ¬ ρ.z d ∧ Mut (some u) := by
  have hr := sr.obj n d f e hx
  cases f with
  | dT kvs =>
    cases h
    obtain ⟨xs, h1, h2⟩ := id hr
    exact ⟨_, .t, h1, hr, sr.lv n d _ e hx trivial, trivial⟩
  | dK kvs =>
    cases h
    obtain ⟨xs, h1, h2⟩ := id hr
    exact ⟨_, .k, h1, hr, sr.lv n d _ e hx trivial, trivial⟩
  | _ => cases h
theorem SR.addr {n : Nat} {f : MO} (sr : SR K H ρ S) (hx : S[n]? = some f) : ∃ d, ρ.r[n]? = some d := by
  have := lt_of_get' hx
  exact ⟨ρ.r[n]'(by rw [sr.len]; exact this), List.getElem?_eq_getElem _⟩
section
variable {X : Cx} {E : St → XK} {e : Expr} {st : Stmt}
theorem psm_lock0 (la : LA) {g : MS} (h : PS X st (tS X.K E g)) : PS X st (tS X.K E (mLockS0 la g)) := by
  refine PS.imp (ps_lock h) ?_
  rintro D σ H ⟨ρ, m, S, sr, er, h⟩
  unfold mLockS0 at h
  split at h
  · rename_i n _
    split at h
    · rename_i f hx
      split at h
      · rename_i l hlk
        obtain ⟨d, ed⟩ := sr.addr hx
        obtain ⟨u, hl, hd, hr, hz, mu⟩ := lkU_of sr ed hx hlk
        refine ⟨d, u, hd, mu, fun o => ?_⟩
        obtain ⟨m0, s0⟩ := lock_in (o := o) (od := u) sr ed hx hl hd hr hz
        refine ⟨wdLock ρ d, m, S.set n l, s0, er.mo m0, ?_⟩
        generalize g m (S.set n l) = oo at h ⊢
        cases oo with
        | nx m2 S2 =>
          intro σ' H1 ρ1 mo s1 er1
          unfold unlkS at h
          simp only at h
          split at h
          · rename_i hx1
            obtain ⟨h1, wk, m2', s2⟩ := lock_out sr ed hl hd hr hz mo m0 s1 hx1
            exact ⟨h1, h σ' _ _ m2' s2 (er1.wk wk)⟩
          · exact h.elim
        | rt d2 S2 =>
          intro v H1 ρ1 mo s1 r1
          unfold unlkS at h
          simp only at h
          split at h
          · rename_i hx1
            obtain ⟨h1, wk, m2', s2⟩ := lock_out sr ed hl hd hr hz mo m0 s1 hx1
            exact ⟨h1, h v _ _ m2' s2 (r1.wk wk)⟩
          · exact h.elim
        | bk m2 S2 => exact h.elim
        | ct m2 S2 => exact h.elim
        | exc c m2 S2 => exact h.elim
        | no => exact h
      · exact h.elim
    · exact h.elim
  · exact h.elim
theorem pm_lock0 (la : LA) {g : ME} (h : PE X e (tE X.K E g)) : PE X e (tE X.K E (mLockE0 la g)) := by
  refine PE.imp (pe_lock h) ?_
  rintro σ H Q ⟨ρ, m, S, sr, er, h⟩
  unfold mLockE0 at h
  split at h
  · rename_i n _
    split at h
    · rename_i f hx
      split at h
      · rename_i l hlk
        obtain ⟨d, ed⟩ := sr.addr hx
        obtain ⟨u, hl, hd, hr, hz, mu⟩ := lkU_of sr ed hx hlk
        refine ⟨d, u, hd, mu, fun o => ?_⟩
        obtain ⟨m0, s0⟩ := lock_in (o := o) (od := u) sr ed hx hl hd hr hz
        refine ⟨wdLock ρ d, m, S.set n l, s0, er.mo m0, ?_⟩
        generalize g m (S.set n l) = oo at h ⊢
        cases oo with
        | ok d2 S2 =>
          intro v H1 ρ1 mo s1 r1
          unfold unlkE at h
          simp only at h
          split at h
          · rename_i hx1
            obtain ⟨h1, wk, m2', s2⟩ := lock_out sr ed hl hd hr hz mo m0 s1 hx1
            exact ⟨h1, h v _ _ m2' s2 (r1.wk wk)⟩
          · exact h.elim
        | exc c S2 => exact h.elim
        | no => exact h
      · exact h.elim
    · exact h.elim
  · exact h.elim
theorem psm_lock (la : LA) {g : MS} (h : PS X st (tS X.K E g)) : PS X st (tS X.K E (mLockS la g)) := by
  have h0 := psm_lock0 la h
  refine ⟨fun pins s σ H Q I q => ?_⟩
  obtain ⟨ρ, m, S, sr, er, q⟩ := q
  unfold mLockS at q
  split at q
  · split at q
    · exact h.run pins s σ H Q I ⟨ρ, m, S, sr, er, q⟩
    · exact h0.run pins s σ H Q I ⟨ρ, m, S, sr, er, q⟩
  · exact q.elim
theorem pm_lock (la : LA) {g : ME} (h : PE X e (tE X.K E g)) : PE X e (tE X.K E (mLockE la g)) := by
  have h0 := pm_lock0 la h
  refine ⟨fun pins s σ H Q I q => ?_⟩
  obtain ⟨ρ, m, S, sr, er, q⟩ := q
  unfold mLockE at q
  split at q
  · split at q
    · exact h.run pins s σ H Q I ⟨ρ, m, S, sr, er, q⟩
    · exact h0.run pins s σ H Q I ⟨ρ, m, S, sr, er, q⟩
  · exact q.elim
end
/-! ### what a locked dict is walked by -/
def keysT (kvs : List (List Key × R)) : List R := kvs.map fun kv => .v (.tup (kv.1.map dKey))
def vOf : R → Option D
  | .v d => some d
  | .ref _ => none
def itemsT (kvs : List (List Key × R)) : Option (List R) := kvs.mapM fun kv => (vOf kv.2).map fun d => R.v (.tup [.tup (kv.1.map dKey), d])
def keysK (kvs : List (Key × R)) : List R := kvs.map fun kv => .v (dKey kv.1)
def itemsK (kvs : List (Key × R)) : Option (List R) := kvs.mapM fun kv => (vOf kv.2).map fun d => R.v (.tup [dKey kv.1, d])
def lkD (S : Store) : R → Option MO
  | .ref n => S[n]?
  | _ => none
def srcKeys (a : ME) : MI := fun m S => (a m S).bind fun d S1 => match lkD S1 d with
  | some (.lkT kvs) => .ok ⟨keysT kvs, []⟩ S1
  | some (.lkK kvs) => .ok ⟨keysK kvs, []⟩ S1
  | _ => .no
def srcValsK (a : ME) : MI := fun m S => (a m S).bind fun d S1 => match lkD S1 d with
  | some (.lkK kvs) => .ok ⟨kvs.map (·.2), []⟩ S1
  | _ => .no
def srcItemsK (a : ME) : MI := fun m S => (a m S).bind fun d S1 => match lkD S1 d with
  | some (.lkK kvs) => match itemsK kvs with
    | some xs => .ok ⟨xs, []⟩ S1
    | none => .no
  | _ => .no
def srcItemsT (a : ME) : MI := fun m S => (a m S).bind fun d S1 => match lkD S1 d with
  | some (.lkT kvs) => match itemsT kvs with
    | some xs => .ok ⟨xs, []⟩ S1
    | none => .no
  | _ => .no
theorem SR.lk {v : V} {d : R} {o : MO} (sr : SR K H ρ S) (r : Rq K H ρ v d) (h : lkD S d = some o) : ∃ a, v = .ref a ∧ HoR K H ρ a o := by
  cases r with
  | v r => cases h
  | @ref a n ea => exact ⟨a, rfl, sr.obj n a _ ea h⟩
theorem mapM_get {α β : Type} (f : α → Option β) : ∀ {xs : List α} {ys : List β}, xs.mapM f = some ys → ys.length = xs.length ∧ ∀ (i : Nat) (x : α), xs[i]? = some x → ∃ y, ys[i]? = some y ∧ f x = some y
  | [], ys, h => by
    simp at h; subst h
    exact ⟨rfl, fun i x hx => by simp at hx⟩
  | x :: xs, ys, h => by
    rw [List.mapM_cons] at h
    obtain ⟨y, hy, h⟩ := Option.bind_eq_some_iff.mp h
    obtain ⟨zs, hz, h⟩ := Option.bind_eq_some_iff.mp h
    cases h
    obtain ⟨h1, h2⟩ := mapM_get f hz
    refine ⟨by simp [h1], fun i a hi => ?_⟩
    cases i with
    | zero => simp at hi; subst hi; exact ⟨y, rfl, hy⟩
    | succ i => simpa using h2 i a (by simpa using hi)
theorem RpP.get {κ : Type} {vs : List (κ × V)} {ds : List (κ × R)} (h : RpP K H ρ vs ds) : ∀ {i : Nat} {p : κ × V}, vs[i]? = some p → ∃ d, ds[i]? = some (p.1, d) ∧ Rq K H ρ p.2 d := by
  unfold RpP at h
  induction h with
  | nil => intro i p e; simp at e
  | @cons a b as bs h1 h2 ih =>
    intro i p e
    cases i with
    | zero =>
      simp at e
      subst e
      exact ⟨b.2, by simp [h1.1], h1.2⟩
    | succ i => simpa using ih (by simpa using e)
theorem okSrc_keysT {a : Addr} {o : Obj} {xs : List (List Key × V)} {kvs : List (List Key × R)} (hz : ρ.z a) (hd : H a = some (.frz o (.dT xs))) (rp : RpP K H ρ xs kvs) : okSrc K ⟨keysT kvs, []⟩ H ρ (Itkt a o xs) := by
  have hl : (keysT kvs).length = xs.length := by rw [keysT, List.length_map]; exact (Paired.length rp).symm
  refine ⟨_, _, by rw [show (⟨keysT kvs, []⟩ : Src).items.length = xs.length from hl]; exact walk_keysT, fun H2 ρ2 S2 mo _ _ => by rw [(mo.z a hz).2]; exact hd, ?_⟩
  rintro i H2 x H3 ρ2 S2 hi mo sr _ ⟨rfl, k, v, q, hk, rfl, hq⟩
  obtain ⟨d, h1, h2⟩ := rp.get hk
  refine ⟨.v (.tup (k.map dKey)), by show (keysT kvs)[i]? = _; rw [keysT, List.getElem?_map, h1]; rfl, .refl, sr, .v (.tup hq (kVs_dKey k))⟩
theorem okSrc_keysK {a : Addr} {o : Obj} {xs : List (Key × V)} {kvs : List (Key × R)} (hz : ρ.z a) (hd : H a = some (.frz o (.dK xs))) (rp : RpP K H ρ xs kvs) : okSrc K ⟨keysK kvs, []⟩ H ρ (Itk a o xs) := by
  have hl : (keysK kvs).length = xs.length := by rw [keysK, List.length_map]; exact (Paired.length rp).symm
  refine ⟨fun H => H a = some (.frz o (.dK xs)), fun i H x H' => H' = H ∧ ∃ k v, xs[i]? = some (k, v) ∧ x = kV k, by rw [show (⟨keysK kvs, []⟩ : Src).items.length = xs.length from hl]; exact ⟨fun _ _ hi q => ⟨q, hi⟩, fun _ q => ⟨q, Nat.le_refl _⟩, fun _ _ _ _ _ _ y => y⟩, fun H2 ρ2 S2 mo _ _ => by show H2 a = _; rw [(mo.z a hz).2]; exact hd, ?_⟩
  rintro i H2 x H3 ρ2 S2 hi mo sr _ ⟨rfl, k, v, hk, rfl⟩
  obtain ⟨d, h1, h2⟩ := rp.get hk
  refine ⟨.v (dKey k), by show (keysK kvs)[i]? = _; rw [keysK, List.getElem?_map, h1]; rfl, .refl, sr, .v (kV_dKey k)⟩
theorem okSrc_valsK {a : Addr} {o : Obj} {xs : List (Key × V)} {kvs : List (Key × R)} (hz : ρ.z a) (hd : H a = some (.frz o (.dK xs))) (rp : RpP K H ρ xs kvs) : okSrc K ⟨kvs.map (·.2), []⟩ H ρ (Itd a o xs) := by
  have hl : (kvs.map (·.2)).length = xs.length := by rw [List.length_map]; exact (Paired.length rp).symm
  refine ⟨fun H => H a = some (.frz o (.dK xs)), fun i H x H' => H' = H ∧ ∃ k, xs[i]? = some (k, x), by rw [show (⟨kvs.map (·.2), []⟩ : Src).items.length = xs.length from hl]; exact ⟨fun _ _ hi q => ⟨q, hi⟩, fun _ q => ⟨q, Nat.le_refl _⟩, fun _ _ _ _ _ _ y => y⟩, fun H2 ρ2 S2 mo _ _ => by show H2 a = _; rw [(mo.z a hz).2]; exact hd, ?_⟩
  rintro i H2 x H3 ρ2 S2 hi mo sr _ ⟨rfl, k, hk⟩
  obtain ⟨d, h1, h2⟩ := rp.get hk
  exact ⟨d, by show (kvs.map (·.2))[i]? = _; rw [List.getElem?_map, h1]; rfl, .refl, sr, h2.mo mo⟩
theorem okSrc_itemsK {a : Addr} {o : Obj} {xs : List (Key × V)} {kvs : List (Key × R)} {ys : List R} (hi : itemsK kvs = some ys) (hz : ρ.z a) (hd : H a = some (.frz o (.dK xs))) (rp : RpP K H ρ xs kvs) : okSrc K ⟨ys, []⟩ H ρ (Iti a o xs) := by
  obtain ⟨q1, q2⟩ := mapM_get _ hi
  have hl : ys.length = xs.length := by rw [q1]; exact (Paired.length rp).symm
  refine ⟨_, _, by rw [show (⟨ys, []⟩ : Src).items.length = xs.length from hl]; exact walk_items, fun H2 ρ2 S2 mo _ _ => by rw [(mo.z a hz).2]; exact hd, ?_⟩
  rintro i H2 x H3 ρ2 S2 hi mo sr _ ⟨T, y, z, rfl, hT, rfl, hy, hz2⟩
  obtain ⟨⟨k, v⟩, hk, rfl⟩ := Option.map_eq_some_iff.mp hy
  have hz2 : (xs[i]?).map Prod.snd = some z := hz2
  rw [hk] at hz2
  have hz2 : v = z := Option.some.inj hz2
  subst hz2
  obtain ⟨d, h1, h2⟩ := rp.get hk
  obtain ⟨w, hw, ew⟩ := q2 i _ h1
  obtain ⟨d', hd', rfl⟩ := Option.map_eq_some_iff.mp ew
  cases d with
  | ref n => cases hd'
  | v d =>
    cases hd'
    have mv : Mo K H2 ρ2 (upd H2 T (.tup [kV k, v])) ρ2 := .new sr hT
    have h2' := (h2.mo mo).mo mv
    cases h2' with
    | v h2' => exact ⟨_, hw, mv, sr.newT hT, .v (.tup upd_same (.cons (kV_dKey k) (.cons h2' .nil)))⟩
/-- the pairs of a dict with tuple keys, each a new tuple -/
def ItiT (d : Addr) (o : Obj) (kvs : List (List Key × V)) : It :=
  ⟨fun i H => H d = some (.frz o (.dT kvs)) ∧ i < kvs.length, fun i H x H' => ∃ T k v q, kvs[i]? = some (k, v) ∧ x = .ref T ∧ H q = some (.tup (k.map kV)) ∧ H T = none ∧ H' = upd H T (.tup [.ref q, v]), fun i H => H d = some (.frz o (.dT kvs)) ∧ kvs.length ≤ i⟩
theorem okSrc_itemsT {a : Addr} {o : Obj} {xs : List (List Key × V)} {kvs : List (List Key × R)} {ys : List R} (hi : itemsT kvs = some ys) (hz : ρ.z a) (hd : H a = some (.frz o (.dT xs))) (rp : RpP K H ρ xs kvs) : okSrc K ⟨ys, []⟩ H ρ (ItiT a o xs) := by
  obtain ⟨q1, q2⟩ := mapM_get _ hi
  have hl : ys.length = xs.length := by rw [q1]; exact (Paired.length rp).symm
  refine ⟨fun H => H a = some (.frz o (.dT xs)), fun i H x H' => ∃ T k v q, xs[i]? = some (k, v) ∧ x = .ref T ∧ H q = some (.tup (k.map kV)) ∧ H T = none ∧ H' = upd H T (.tup [.ref q, v]), by rw [show (⟨ys, []⟩ : Src).items.length = xs.length from hl]; exact ⟨fun _ _ hi q => ⟨q, hi⟩, fun _ q => ⟨q, Nat.le_refl _⟩, fun _ _ _ _ _ _ y => y⟩, fun H2 ρ2 S2 mo _ _ => by show H2 a = _; rw [(mo.z a hz).2]; exact hd, ?_⟩
  rintro i H2 x H3 ρ2 S2 hi mo sr _ ⟨T, k, v, q, hk, rfl, hq, hT, rfl⟩
  obtain ⟨d, h1, h2⟩ := rp.get hk
  obtain ⟨w, hw, ew⟩ := q2 i _ h1
  obtain ⟨d', hd', rfl⟩ := Option.map_eq_some_iff.mp ew
  cases d with
  | ref n => cases hd'
  | v d =>
    cases hd'
    have mv : Mo K H2 ρ2 (upd H2 T (.tup [.ref q, v])) ρ2 := .new sr hT
    have h2' := (h2.mo mo).mo mv
    cases h2' with
    | v h2' => exact ⟨_, hw, mv, sr.newT hT, .v (.tup upd_same (.cons (.tup (mv.tup _ _ hq) (kVs_dKey k)) (.cons h2' .nil)))⟩
section
variable {P : Program} {w : World} {K : PySem.W.Frag} {d : Addr} {o : Obj} {es : Array DictEntry} {ep : Nat}
theorem frzTV {X : Cx} {pins : List (Addr × Obj)} {σ : St} {H : Hp} {s : Shared} {d : Addr} {o : Obj} {kvs : List (List Key × V)} (I : Inv X pins σ H s) (h : H d = some (.frz o (.dT kvs))) :
    (d == sysModules) = false ∧ s.heap.get? d = some o ∧ o.ExactDict ∧ ∃ (es : Array DictEntry) (ep : Nat), o.data = .dict es ep ∧ es.size = kvs.length ∧
      ∀ (i : Nat) (k : List Key) (v : V), kvs[i]? = some (k, v) → ∃ (en : DictEntry) (q : Addr), es[i]? = some en ∧ en.key = .ref q ∧ H q = some (.tup (k.map kV)) ∧ RelV v en.val := by
  obtain ⟨hd, z, hs, xs, pr, o', es, ep, ho, hx, hdt, he, _⟩ := I.hok d _ h
  rw [hd] at ho
  cases ho
  refine ⟨hs, hd, hx, es, ep, hdt, ?_, fun i k v e => ?_⟩
  · have l1 : es.size = xs.length := size_of_entries he
    have l2 : kvs.length = xs.length := Paired.length pr
    omega
  · obtain ⟨b, hb, e1, e2, e3⟩ := paired_get pr e
    have q := entry_at he i
    rw [hb] at q
    exact ⟨_, b.2.1, q, rfl, e2, e3⟩
theorem turn_itemsT {kvs : List (List Key × V)} {elts : List Expr} {kk : Nat} {tpos : Pos} (it : Addr) (hod : o.data = .dict es ep) :
    Turn P w K (.Tuple elts kk tpos) (ItiT d o kvs) [it] it (fun i h => ∃ ok ov, IsItemIter h it d i kvs.length ep ok ov) where
  mem := by simp
  obj := fun i h st b hb => by
    have e : b = it := by simpa using hb
    subst e
    obtain ⟨ok, ov, e⟩ := st
    exact ⟨_, e, fun v z => nomatch z⟩
  keep := fun i h h' st k => let ⟨ok, ov, e⟩ := st; ⟨ok, ov, k it (by simp) _ e⟩
  item := by
    intro X hP hw hK hc i pins s σ H E I hf st hg
    subst hP hw hK
    obtain ⟨hd, hi⟩ := hg
    obtain ⟨hs, hgd, hx, es', ep', hdt, hsz, ent⟩ := frzTV I hd
    obtain ⟨rfl, rfl⟩ := dict_ep hod hdt
    obtain ⟨⟨k, v⟩, hkv⟩ : ∃ p, kvs[i]? = some p := ⟨kvs[i], List.getElem?_eq_getElem hi⟩
    obtain ⟨en, q, hen, hkey, hq, rv⟩ := ent i k v hkv
    obtain ⟨ok, ov, he⟩ := st
    rw [← hsz] at he
    have hlt : it < s.heap.objs.size := Heap.lt_size he
    have hi' : i < es'.size := by omega
    have hee : es'[i] = en := by
      have := Array.getElem?_eq_getElem hi'
      rw [this] at hen
      exact Option.some.inj hen
    refine DT.nextI he ⟨o, hgd, hx, hdt⟩ hi' fun h' ho hT hz hk => ?_
    rw [hee] at ho hT
    refine ⟨_, rfl, wpAny_letOwnedTupleGo_items (s := { s with heap := h' }) ho fun h'' he' sb => ?_⟩
    have hT2 : h''.get? s.heap.objs.size = some { cls := .type "tuple", data := .seq #[en.key, en.val] } := (sb.2 _ (Nat.ne_of_gt hlt)).trans hT
    have new : ObjOk X.prog X.w (upd H s.heap.objs.size (.tup [.ref q, v])) h'' s.heap.objs.size (.tup [.ref q, v]) :=
      ⟨by show 2 ≤ sizeLine; decide, [en.key, en.val], .cons hkey (.cons rv .nil), ⟨_, hT2, rfl, _, rfl⟩⟩
    have I1 : Inv X pins σ (upd H s.heap.objs.size (.tup [.ref q, v])) { s with heap := h'' } :=
      I.turnedNew (t' := s.toks) (ch := [it]) (fun b ob hb e => (sb.2 b (by simpa using hb)).trans (hk b ob (by simpa using hb) e)) hf (Nat.le_refl _) new
    refine ⟨.ref s.heap.objs.size, _, I1, rfl, ⟨_, k, v, q, hkv, rfl, hq, I.hok.fresh (Nat.le_refl _), rfl⟩, ⟨en.key, en.val, ?_⟩, fun b hb => ?_⟩
    · rw [← hsz]; exact he'
    · have e : b = it := by simpa using hb
      rw [e, upd_ne (Nat.ne_of_lt hlt)]
      exact (hf it (by simp)).1
  done := by
    intro X hP hw hK hc i pins s σ H E I hf st hg
    subst hP hw hK
    obtain ⟨hd, hi⟩ := hg
    obtain ⟨f0, f1, f2, f3, f4, f5⟩ := hf it (by simp)
    obtain ⟨hs, hgd, hx, es', ep', hdt, hsz, ent⟩ := frzTV I hd
    obtain ⟨rfl, rfl⟩ := dict_ep hod hdt
    obtain ⟨ok, ov, he⟩ := st
    rw [← hsz] at he
    exact DT.endI (I.ok.hd hc) he ⟨o, hgd, hx, hdt⟩ (by omega) fun h' eb => ⟨rfl, I.turned (t' := s.toks) (fun b ob hb e => eb b ob hb e) f0 f1 f3 f4 f5⟩
  self := fun A i s Q E st h => let ⟨_, _, e⟩ := st; PySem.W.kcp_self e h
end
def iItemsT (td : TE) : TI := fun σ H R => td σ H fun x H1 => ∃ d o kvs, x = .ref d ∧ H1 d = some (.frz o (.dT kvs)) ∧ R (ItiT d o kvs) H1
section
variable {X : Cx} {tg e : Expr} {td : TE} {apos cpos : Pos} {E : St → XK} {ma : ME}
theorem pi_itemsT {elts : List Expr} {kk : Nat} {tpos : Pos} (he : PE X e td) (hbase : attributeBase e "items" X.env (eval e X.env) = eval e X.env := by rfl) (hline : (apos.endLine == cpos.line) = true := by rfl) :
    PI X (.Tuple elts kk tpos) (.Call (.Attribute e "items" apos) [] [] cpos) (iItemsT td) := by
  refine ⟨fun pins s σ H R I h => ?_⟩
  refine wpAny_Call_method (T := "dict") (id := "dict.items") hbase rfl hline PySem.F.plainAttrs_dict PySem.F.slot_dict_items PySem.F.type_dict_items (thn (he.run pins s σ H _ I h) fun u s1 ⟨x, H1, I1, rx, d, o, kvs, ex, hd, q⟩ => ?_)
  subst ex
  obtain rfl : u = Value.ref d := rx
  obtain ⟨hs, hgd, hx, es, ep, hdt, hsz, ent⟩ := frzTV I1 hd
  have rw_ : DT.Raw s1.heap d es ep := ⟨o, hgd, hx, hdt⟩
  refine ⟨rw_.typeIs, fun b q => by cases q; exact ⟨o, hgd, hx.2.1⟩, ?_⟩
  have I2 : Inv X pins σ H1 { s1 with heap := s1.heap.push { cls := .type "dict_items", data := .fields #[.ref d] } } := I1.kept (t' := s1.toks) fun b ob q => Heap.get?_push_of_some _ q
  have fin : wpAny (model X.prog X.w) X.A (pyIter (.ref s1.heap.objs.size)) (PIE X pins σ (.Tuple elts kk tpos) R) X.xe { s1 with heap := s1.heap.push { cls := .type "dict_items", data := .fields #[.ref d] } } := by
    refine DT.iterI (d := d) ⟨_, Heap.get?_push_size _ rfl, rfl, rfl⟩ (rw_.push _) (pi_one (tk := s1.toks) I2 _ (turn_itemsT _ hdt) ⟨.none, .none, ?_⟩ q)
    rw [← hsz]
    exact Heap.get?_push_size _ rfl
  show wpAny _ _ (callWith cpos (.builtin "dict.items") [.ref d] [] []) _ X.xe s1
  exact method_meetsIn PySem.F.slot_dict_items PySem.F.entry_dict_items rfl (PySem.evalArgs_none ⟨rfl, rw_.typeIs, PySem.F.args_dict_items_1 _, _, DT.meetsItems (es := es) (ep := ep) hs, ⟨rw_, fin⟩⟩)
theorem tI_of1 {g : R → Store → Out Src} {σ : St} {H : Hp} {R : It → Hp → Prop} (h : tI X.K E (fun m S => (ma m S).bind fun d S1 => g d S1) σ H R) {P : V → Hp → Prop}
    (k : ∀ d S1 v H1 ρ1, SR X.K H1 ρ1 S1 → Rq X.K H1 ρ1 v d → (match g d S1 with
      | .ok it S' => ∀ J H' ρ', Mo X.K H1 ρ1 H' ρ' → SR X.K H' ρ' S' → okSrc X.K it H' ρ' J → R J H'
      | .exc c S' => RO X.K (fun _ _ (_ : Unit) (_ : Unit) => True) (E σ) H1 ρ1 (.exc c S' : Out Unit) fun _ _ => True
      | .no => False) → P v H1) : tE X.K E ma σ H P := by
  obtain ⟨ρ, m, S, sr, er, h⟩ := h
  refine ⟨ρ, m, S, sr, er, ?_⟩
  simp only at h
  generalize ma m S = oo at h ⊢
  cases oo with
  | ok d S1 =>
    intro v H1 ρ1 m1 s1 r1
    refine k d S1 v H1 ρ1 s1 r1 ?_
    rw [Out.bind_ok] at h
    generalize g d S1 = o2 at h ⊢
    cases o2 with
    | ok it S' => exact fun J H' ρ' mo s q => h J H' ρ' (m1.trans mo) s q
    | exc c S' => exact RO.mono h m1
    | no => exact h
  | exc c S1 => exact h
  | no => exact h
theorem pim_keys (he : PE X e (tE X.K E ma)) : PI X tg e (tI X.K E (srcKeys ma)) := by
  refine PI.imp (pi_keys he) ?_
  intro σ H R h
  refine tI_of1 (g := fun d S1 => match lkD S1 d with
    | some (.lkT kvs) => .ok ⟨keysT kvs, []⟩ S1
    | some (.lkK kvs) => .ok ⟨keysK kvs, []⟩ S1
    | _ => .no) h fun d S1 v H1 ρ1 s1 r1 h1 => ?_
  split at h1
  · rename_i it S' ho
    split at ho
    · rename_i kvs hk
      cases ho
      obtain ⟨a, rfl, hz, od, xs, hd, rp⟩ := s1.lk r1 hk
      exact ⟨a, od, rfl, .inr ⟨xs, hd, h1 _ _ _ .refl s1 (okSrc_keysT hz hd rp)⟩⟩
    · rename_i kvs hk
      cases ho
      obtain ⟨a, rfl, hz, od, xs, hd, rp⟩ := s1.lk r1 hk
      exact ⟨a, od, rfl, .inl ⟨xs, hd, h1 _ _ _ .refl s1 (okSrc_keysK hz hd rp)⟩⟩
    · cases ho
  · rename_i c S' ho
    split at ho <;> cases ho
  · exact h1.elim
theorem pim_valsK (he : PE X e (tE X.K E ma)) (hbase : attributeBase e "values" X.env (eval e X.env) = eval e X.env := by rfl) (hline : (apos.endLine == cpos.line) = true := by rfl) : PI X tg (.Call (.Attribute e "values" apos) [] [] cpos) (tI X.K E (srcValsK ma)) := by
  refine PI.imp (pi_values he hbase hline) ?_
  intro σ H R h
  refine tI_of1 (g := fun d S1 => match lkD S1 d with
    | some (.lkK kvs) => .ok ⟨kvs.map (·.2), []⟩ S1
    | _ => .no) h fun d S1 v H1 ρ1 s1 r1 h1 => ?_
  split at h1
  · rename_i it S' ho
    split at ho
    · rename_i kvs hk
      cases ho
      obtain ⟨a, rfl, hz, od, xs, hd, rp⟩ := s1.lk r1 hk
      exact ⟨a, od, xs, rfl, hd, h1 _ _ _ .refl s1 (okSrc_valsK hz hd rp)⟩
    · cases ho
  · rename_i c S' ho
    split at ho <;> cases ho
  · exact h1.elim
theorem pim_itemsK {elts : List Expr} {kk : Nat} {tpos : Pos} (he : PE X e (tE X.K E ma)) (hbase : attributeBase e "items" X.env (eval e X.env) = eval e X.env := by rfl) (hline : (apos.endLine == cpos.line) = true := by rfl) : PI X (.Tuple elts kk tpos) (.Call (.Attribute e "items" apos) [] [] cpos) (tI X.K E (srcItemsK ma)) := by
  refine PI.imp (pi_items he hbase hline) ?_
  intro σ H R h
  refine tI_of1 (g := fun d S1 => match lkD S1 d with
    | some (.lkK kvs) => match itemsK kvs with
      | some xs => .ok ⟨xs, []⟩ S1
      | none => .no
    | _ => .no) h fun d S1 v H1 ρ1 s1 r1 h1 => ?_
  split at h1
  · rename_i it S' ho
    split at ho
    · rename_i kvs hk
      split at ho
      · rename_i ys hy
        cases ho
        obtain ⟨a, rfl, hz, od, xs, hd, rp⟩ := s1.lk r1 hk
        exact ⟨a, od, xs, rfl, hd, h1 _ _ _ .refl s1 (okSrc_itemsK hy hz hd rp)⟩
      · cases ho
    · cases ho
  · rename_i c S' ho
    split at ho
    · split at ho <;> cases ho
    · cases ho
  · exact h1.elim
theorem pim_itemsT {elts : List Expr} {kk : Nat} {tpos : Pos} (he : PE X e (tE X.K E ma)) (hbase : attributeBase e "items" X.env (eval e X.env) = eval e X.env := by rfl) (hline : (apos.endLine == cpos.line) = true := by rfl) : PI X (.Tuple elts kk tpos) (.Call (.Attribute e "items" apos) [] [] cpos) (tI X.K E (srcItemsT ma)) := by
  refine PI.imp (pi_itemsT he hbase hline) ?_
  intro σ H R h
  refine tI_of1 (g := fun d S1 => match lkD S1 d with
    | some (.lkT kvs) => match itemsT kvs with
      | some xs => .ok ⟨xs, []⟩ S1
      | none => .no
    | _ => .no) h fun d S1 v H1 ρ1 s1 r1 h1 => ?_
  split at h1
  · rename_i it S' ho
    split at ho
    · rename_i kvs hk
      split at ho
      · rename_i ys hy
        cases ho
        obtain ⟨a, rfl, hz, od, xs, hd, rp⟩ := s1.lk r1 hk
        exact ⟨a, od, xs, rfl, hd, h1 _ _ _ .refl s1 (okSrc_itemsT hy hz hd rp)⟩
      · cases ho
    · cases ho
  · rename_i c S' ho
    split at ho
    · split at ho <;> cases ho
    · cases ho
  · exact h1.elim
end
section
variable {X : Cx} {E : St → XK} {a b : Expr} {op : CmpOp} {f : ME} {pos : Pos}
theorem pm_pc (h : PC X op a b (tE X.K E f)) (hm : behindInMarks op b = false := by first | exact nomark _ | rfl) : PE X (.Compare a [op] [b] pos) (tE X.K E f) := pe_cmp h hm
theorem ptm_pc (h : PC X op a b (tE X.K E f)) (hm : behindInMarks op b = false := by first | exact nomark _ | rfl) : PT X (.Compare a [op] [b] pos) (tT X.K E (mtB f)) :=
  PT.imp (pt_cmp h hm) fun _ _ _ h => tE.bl h
end
end M

/-! MBi: more built-ins. -/
namespace M
open PySem PySem.Spec L2
open PyProof.Rows hiding St
variable {K : PySem.W.Frag} {H H' : Hp} {ρ ρ' : Wd} {S S' : Store}
/-- dict(pairs) -/
def pairD : D → Option (Key × R)
  | .tup [k, v] => (keyD k).map fun k => (k, .v v)
  | _ => none
def pairsD : List R → Option (List (Key × R))
  | [] => some []
  | .v d :: ds => match pairD d, pairsD ds with
    | some p, some ps => some (p :: ps)
    | _, _ => none
  | .ref _ :: _ => none
theorem pairsD_ok : ∀ {ds : List R} {xs : List V} {kds : List (Key × R)}, RqA K H ρ xs ds → pairsD ds = some kds → ∃ (ps : List Addr) (kvs : List (Key × V)), xs = ps.map V.ref ∧ Paired (fun p kv => SqT K H p [kV kv.1, kv.2]) ps kvs ∧ RpP K H ρ kvs kds
  | [], _, _, .nil, h => by cases h; exact ⟨[], [], rfl, .nil, .nil⟩
  | .ref _ :: _, _, _, _, h => by cases h
  | .v d :: ds, _, kds, .cons h1 h2, h => by
    unfold pairsD at h
    split at h
    · rename_i p ps hp hps
      cases h
      obtain ⟨as, kvs, rfl, h3, h4⟩ := pairsD_ok h2 hps
      unfold pairD at hp
      split at hp
      · rename_i k v
        obtain ⟨key, hk, rfl⟩ := Option.map_eq_some_iff.mp hp
        cases h1 with
        | v h1 =>
        cases h1 with
        | tup hs ra =>
          obtain ⟨va, vb, rfl, r1, r2⟩ := ra.two
          have := keyD_kV r1 hk
          subst this
          exact ⟨_ :: as, (key, vb) :: kvs, rfl, .cons (sqT_at hs) h3, .cons ⟨rfl, .v r2⟩ h4⟩
      · cases hp
    · cases h
def biDict (ds : List R) (S : Store) : Out R := match ds with
  | [d] => match (lstOf S d).bind pairsD with
    | some kvs => .ok (.ref S.length) (S ++ [.dK (mergeR [] kvs)])
    | none => match dkOf S d with
      | some kvs => .ok (.ref S.length) (S ++ [.dK kvs])
      | none => .no
  | _ => .no
/-- sorted of a dict with numbers as keys; of numbers -/
def intKs : List Key → Option (List Int)
  | [] => some []
  | .inl i :: ks => (intKs ks).map (i :: ·)
  | .inr _ :: _ => none
theorem intKs_eq : ∀ {ks : List Key} {ns : List Int}, intKs ks = some ns → ks = ns.map Sum.inl
  | [], _, h => by cases h; rfl
  | .inl i :: ks, ns, h => by
    obtain ⟨ms, h1, rfl⟩ := Option.map_eq_some_iff.mp h
    rw [intKs_eq h1]; rfl
  | .inr _ :: _, _, h => by cases h
def biSortedD (ds : List R) (S : Store) : Out R := match ds with
  | [d] => match (dkOf S d).bind fun kvs => intKs (kvs.map (·.1)) with
    | some ns => if ns.length < 64 then .ok (.ref S.length) (S ++ [.lst ((isort ns).map fun i => R.int i)]) else .no
    | none => .no
  | _ => .no
theorem mergeR_len (kvs : List (Key × R)) : ∀ acc, (mergeR acc kvs).length ≤ acc.length + kvs.length := by
  induction kvs with
  | nil => intro acc; exact Nat.le_refl _
  | cons p ps ih =>
    intro acc
    have := ih (putR acc p.1 p.2)
    have h2 : (putR acc p.1 p.2).length ≤ acc.length + 1 := by
      unfold putR; split <;> simp
    show (mergeR (putR acc p.1 p.2) ps).length ≤ _
    rw [List.length_cons]; omega
section
variable {X : Cx}
theorem cam_dict (hc : X.calm = true) : CaM X (.type "dict") biDict := by
  rintro pins s σ H xs us Q I rv ⟨E, ρ, S, ds, sr, r, h⟩
  unfold biDict at h
  split at h
  · rename_i d
    obtain ⟨v, rfl, r1⟩ := r.one
    split at h
    · rename_i kds hb
      obtain ⟨es, h1, h2⟩ := Option.bind_eq_some_iff.mp hb
      obtain ⟨a, ys, rfl, hq, ra⟩ := sr.lsD r1 h1
      obtain ⟨ps, kvs, rfl, hp, rp⟩ := pairsD_ok ra h2
      refine call_dictP hc pins s σ H _ us Q I rv ⟨a, ps, kvs, rfl, hq, hp, fun p hp' => ?_⟩
      exact RO.newD sr (rp.merge .nil) h hp'
    · split at h
      · rename_i kds hk
        obtain ⟨a, ys, rfl, ha, rp⟩ := sr.dkD r1 hk
        exact call_dictD pins s σ H _ us Q I rv ⟨a, ys, rfl, .inl ha, fun p hp' => RO.newD sr rp h hp'⟩
      · exact h.elim
  · exact h.elim
theorem RpP.keys {κ : Type} {vs : List (κ × V)} {ds : List (κ × R)} (h : RpP K H ρ vs ds) : vs.map (·.1) = ds.map (·.1) := by
  unfold RpP at h
  induction h with
  | nil => rfl
  | cons h1 h2 ih => rw [List.map_cons, List.map_cons, ih, h1.1]
theorem cam_sortedD (hc : X.calm = true) : CaM X (.builtin "sorted") biSortedD := by
  rintro pins s σ H xs us Q I rv ⟨E, ρ, S, ds, sr, r, h⟩
  unfold biSortedD at h
  split at h
  · rename_i d
    obtain ⟨v, rfl, r1⟩ := r.one
    split at h
    · rename_i ns hb
      obtain ⟨kds, h1, h2⟩ := Option.bind_eq_some_iff.mp hb
      split at h
      · rename_i hz
        obtain ⟨a, ys, rfl, ha, rp⟩ := sr.dkD r1 h1
        refine call_sortedDI hc pins s σ H _ us Q I rv ⟨a, ys, ns, rfl, .inl ha, by rw [rp.keys]; exact intKs_eq h2, hz, fun ns' p hp hs hn => ?_⟩
        have := isort_eq hp hs
        subst this
        exact RO.lst sr (rqa_of_ints _) h hn
      · exact h.elim
    · exact h.elim
  · exact h.elim
end
end M

/-! MW: what is wanted of an outcome: mirrors run from the front on. -/
namespace M
open PySem hiding Env
open L2
def wE {α : Type} (o : Out α) (K : Out α → Prop) : Prop := K o
def wS (o : OutS) (K : OutS → Prop) : Prop := K o
def wTg (o : Option Env) (P : Env → Prop) : Prop := match o with
  | some m => P m
  | none => False
def kB {α β : Type} (f : α → Store → Out β) (K : Out β → Prop) : Out α → Prop := fun o => K (o.bind f)
def kT {α : Type} (m : Env) (f : α → Store → OutS) (K : OutS → Prop) : Out α → Prop := fun o => K (o.thenS m f)
def kSeq (g : MS) (K : OutS → Prop) : OutS → Prop := fun o => K (match o with | .nx m S => g m S | o => o)
def kDef (K : Out R → Prop) : OutS → Prop := fun o => K (match o with | .rt d S' => .ok d S' | .nx _ S' => .ok .non S' | _ => .no)
def kTrim (S : Store) (K : OutS → Prop) : OutS → Prop := fun o => K (match o with | .nx m2 S2 => trim S m2 S2 .nx | .ct m2 S2 => trim S m2 S2 .ct | o => o)
section
variable {α β : Type} {m m' : Env} {S S' : Store}
theorem wE_ok (a : α) (K : Out α → Prop) : wE (.ok a S) K = K (.ok a S) := id rfl
theorem wE_bind (o : Out α) (f : α → Store → Out β) (K : Out β → Prop) : wE (o.bind f) K = wE o (kB f K) := id rfl
theorem kB_ok (f : α → Store → Out β) (K : Out β → Prop) (a : α) : kB f K (.ok a S) = wE (f a S) K := id rfl
theorem kB_exc (f : α → Store → Out β) (K : Out β → Prop) (c : Exc) : kB f K (.exc c S) = K (.exc c S) := id rfl
theorem wS_then (o : Out α) (f : α → Store → OutS) (K : OutS → Prop) : wS (o.thenS m f) K = wE o (kT m f K) := id rfl
theorem kT_ok (f : α → Store → OutS) (K : OutS → Prop) (a : α) : kT m f K (.ok a S) = wS (f a S) K := id rfl
theorem kT_exc (f : α → Store → OutS) (K : OutS → Prop) (c : Exc) : kT m f K (.exc c S) = K (.exc c m S) := id rfl
theorem wS_nx (K : OutS → Prop) : wS (.nx m S) K = K (.nx m S) := id rfl
theorem wS_ct (K : OutS → Prop) : wS (.ct m S) K = K (.ct m S) := id rfl
theorem wS_bk (K : OutS → Prop) : wS (.bk m S) K = K (.bk m S) := id rfl
theorem wS_rt (d : R) (K : OutS → Prop) : wS (.rt d S) K = K (.rt d S) := id rfl
theorem wS_exc (c : Exc) (K : OutS → Prop) : wS (.exc c m S) K = K (.exc c m S) := id rfl
theorem wS_seq (f g : MS) (K : OutS → Prop) : wS (mSeq f g m S) K = wS (f m S) (kSeq g K) := id rfl
theorem kSeq_nx (g : MS) (K : OutS → Prop) : kSeq g K (.nx m S) = wS (g m S) K := id rfl
theorem kSeq_ct (g : MS) (K : OutS → Prop) : kSeq g K (.ct m S) = K (.ct m S) := id rfl
theorem kSeq_bk (g : MS) (K : OutS → Prop) : kSeq g K (.bk m S) = K (.bk m S) := id rfl
theorem kSeq_rt (g : MS) (K : OutS → Prop) (d : R) : kSeq g K (.rt d S) = K (.rt d S) := id rfl
theorem kSeq_exc (g : MS) (K : OutS → Prop) (c : Exc) : kSeq g K (.exc c m S) = K (.exc c m S) := id rfl
theorem wE_def (N : Nat) (f : MS) (ds : List R) (K : Out R → Prop) : wE (mDef N f ds S) K = wS (f (ds.map some ++ List.replicate (N - ds.length) none) S) (kDef K) := id rfl
theorem wE_defV (N : Nat) (f : MS) (ds : List R) (K : Out R → Prop) : wE (mDefV N f ds S) K = wS (f (ds.map some ++ List.replicate (N - ds.length) none) S) (kDef (kB (popV S) K)) := id rfl
theorem kDef_rt (K : Out R → Prop) (d : R) : kDef K (.rt d S) = K (.ok d S) := id rfl
theorem kDef_nx (K : Out R → Prop) : kDef K (.nx m S) = K (.ok (.v .non) S) := id rfl
theorem wS_trim (f : MS) (K : OutS → Prop) : wS (mTrim f m S) K = wS (f m S) (kTrim S K) := id rfl
theorem kTrim_nx (K : OutS → Prop) : kTrim S K (.nx m S') = wS (trim S m S' .nx) K := id rfl
theorem kTrim_ct (K : OutS → Prop) : kTrim S K (.ct m S') = wS (trim S m S' .ct) K := id rfl
theorem kTrim_bk (K : OutS → Prop) : kTrim S K (.bk m S') = K (.bk m S') := id rfl
theorem kTrim_rt (K : OutS → Prop) (d : R) : kTrim S K (.rt d S') = K (.rt d S') := id rfl
theorem wTg_some (P : Env → Prop) : wTg (some m) P = P m := id rfl
theorem wE_eq {o o' : Out α} {K : Out α → Prop} (h : o = o') (k : K o') : wE o K := h ▸ k
theorem eq_wE {o o' : Out α} (h : wE o fun x => x = o') : o = o' := h
theorem wE_imp {o : Out α} {K K' : Out α → Prop} (h : wE o K) (k : ∀ o, K o → K' o) : wE o K' := k _ h
/-- ends by value, and Q -/
def Ends (Q : D → Store → Prop) : Out R → Prop
  | .ok (.v d) S => Q d S
  | _ => False
theorem Ends_ok {Q : D → Store → Prop} {d : D} : Ends Q (.ok (.v d) S) = Q d S := id rfl
theorem Ends.ex {Q : D → Store → Prop} {o : Out R} (h : wE o (Ends Q)) : ∃ d S', o = .ok (.v d) S' ∧ Q d S' := by
  cases o with
  | ok r S => cases r with
    | v d => exact ⟨d, S, rfl, h⟩
    | ref n => exact h.elim
  | exc c S => exact h.elim
  | no => exact h.elim
theorem wE_Ends {Q : D → Store → Prop} {o : Out R} {K : Out R → Prop} (h : wE o (Ends Q)) (k : ∀ d S, Q d S → K (.ok (.v d) S)) : wE o K := by
  obtain ⟨d, S', e, q⟩ := Ends.ex h
  exact wE_eq e (k d S' q)
end
/-! ### frames -/
def setAll : Env → List Nat → List (Option R) → Env
  | m, i :: vs, x :: xs => setAll (m.set i x) vs xs
  | m, _, _ => m
def getAll (m : Env) (vs : List Nat) : List (Option R) := vs.map fun i => (m[i]?).getD none
theorem setAll_nil (m : Env) (xs : List (Option R)) : setAll m [] xs = m := by cases xs <;> rfl
theorem setAll_cons (m : Env) (i : Nat) (vs : List Nat) (x : Option R) (xs : List (Option R)) : setAll m (i :: vs) (x :: xs) = setAll (m.set i x) vs xs := id rfl
theorem getAll_nil (m : Env) : getAll m [] = [] := id rfl
theorem getAll_cons (m : Env) (i : Nat) (vs : List Nat) : getAll m (i :: vs) = (m[i]?).getD none :: getAll m vs := id rfl
/-- behind a turn: the frame but for vs as ahead, J of these -/
def kTurn (m : Env) (vs : List Nat) (J : List (Option R) → Store → Prop) (K : OutS → Prop) : OutS → Prop
  | .nx m2 S2 => setAll m vs (getAll m2 vs) = m2 ∧ J (getAll m2 vs) S2
  | .ct m2 S2 => setAll m vs (getAll m2 vs) = m2 ∧ J (getAll m2 vs) S2
  | .bk m2 S2 => K (.nx m2 S2)
  | .rt d S2 => K (.rt d S2)
  | .exc c m2 S2 => K (.exc c m2 S2)
  | .no => False
section
variable {m : Env} {vs : List Nat} {J : List (Option R) → Store → Prop} {K : OutS → Prop} {m2 : Env} {S2 S : Store}
theorem kTurn_nx : kTurn m vs J K (.nx m2 S2) = (setAll m vs (getAll m2 vs) = m2 ∧ J (getAll m2 vs) S2) := id rfl
theorem kTurn_ct : kTurn m vs J K (.ct m2 S2) = (setAll m vs (getAll m2 vs) = m2 ∧ J (getAll m2 vs) S2) := id rfl
theorem kTurn_bk : kTurn m vs J K (.bk m2 S2) = K (.nx m2 S2) := id rfl
theorem kTurn_rt (d : R) : kTurn m vs J K (.rt d S2) = K (.rt d S2) := id rfl
theorem kTurn_exc (c : Exc) : kTurn m vs J K (.exc c m2 S2) = K (.exc c m2 S2) := id rfl
/-- a for: I of the turn, the changed names, the store -/
theorem forP_wp {pins : List (Nat × MO)} {t : TgM} {body : MS} {ds : List R} (vs : List Nat) (I : Nat → List (Option R) → Store → Prop) (h0 : setAll m vs (getAll m vs) = m) (h : I 0 (getAll m vs) S)
    (hp : ∀ i ws S, I i ws S → pinsOk pins S)
    (hs : ∀ i d ws S, ds[i]? = some d → I i ws S → wTg (t d (setAll m vs ws)) fun m1 => wS (body m1 S) (kTurn m vs (I (i + 1)) K))
    (he : ∀ ws S, I ds.length ws S → K (.nx (setAll m vs ws) S)) : wS (mForGo pins t body ds m S) K := by
  have key : ∀ (ds : List R) (j : Nat) (ws : List (Option R)) (S : Store), I j ws S →
      (∀ i d ws S, ds[i]? = some d → I (j + i) ws S → wTg (t d (setAll m vs ws)) fun m1 => wS (body m1 S) (kTurn m vs (I (j + i + 1)) K)) →
      (∀ ws S, I (j + ds.length) ws S → K (.nx (setAll m vs ws) S)) → K (mForGo pins t body ds (setAll m vs ws) S) := by
    intro ds
    induction ds with
    | nil =>
      intro j ws S h _ he
      unfold mForGo
      rw [if_pos (hp j ws S h)]
      exact he ws S h
    | cons d ds ih =>
      intro j ws S h hs he
      have h1 := hs 0 d ws S rfl h
      unfold mForGo
      rw [if_pos (hp j ws S h)]
      cases et : t d (setAll m vs ws) with
      | none => rw [et] at h1; exact h1.elim
      | some m1 =>
        rw [et] at h1
        have h1 : kTurn m vs (I (j + 1)) K (body m1 S) := h1
        simp only
        have next : ∀ ws2 S2, I (j + 1) ws2 S2 → K (mForGo pins t body ds (setAll m vs ws2) S2) := fun ws2 S2 h2 => by
          refine ih (j + 1) ws2 S2 h2 (fun i d ws S hi hI => ?_) fun ws S h3 => ?_
          · have := hs (i + 1) d ws S hi (by rw [show j + (i + 1) = j + 1 + i by omega]; exact hI)
            rwa [show j + (i + 1) = j + 1 + i by omega] at this
          · exact he ws S (by rw [List.length_cons, show j + (ds.length + 1) = j + 1 + ds.length by omega]; exact h3)
        cases eb : body m1 S with
        | nx m2 S2 => rw [eb] at h1; have := next _ S2 h1.2; rw [h1.1] at this; exact this
        | ct m2 S2 => rw [eb] at h1; have := next _ S2 h1.2; rw [h1.1] at this; exact this
        | bk m2 S2 => rw [eb] at h1; exact h1
        | rt d S2 => rw [eb] at h1; exact h1
        | exc c m2 S2 => rw [eb] at h1; exact h1
        | no => rw [eb] at h1; exact h1.elim
  have := key ds 0 _ S h (fun i d ws S hi hI => by
    have := hs i d ws S hi (by simpa using hI)
    simpa using this) fun ws S h3 => he ws S (by simpa using h3)
  rw [h0] at this
  exact this
theorem for_wp {t : TgM} {body : MS} {ds : List R} (vs : List Nat) (I : Nat → List (Option R) → Store → Prop) (h0 : setAll m vs (getAll m vs) = m) (h : I 0 (getAll m vs) S)
    (hs : ∀ i d ws S, ds[i]? = some d → I i ws S → wTg (t d (setAll m vs ws)) fun m1 => wS (body m1 S) (kTurn m vs (I (i + 1)) K))
    (he : ∀ ws S, I ds.length ws S → K (.nx (setAll m vs ws) S)) : wS (mForGo [] t body ds m S) K :=
  forP_wp vs I h0 h (fun _ _ _ _ => trivial) hs he
/-- a while: I of a number that falls; behind a false test P of names and store -/
theorem while_wp {t : MT} {body : MS} (vs : List Nat) (n : Nat) (I : Nat → List (Option R) → Store → Prop) (hn : n < 1000000) (h0 : setAll m vs (getAll m vs) = m) (h : I n (getAll m vs) S)
    (hs : ∀ j ws S, I j ws S → wE (t (setAll m vs ws) S) fun o => ∃ S1 b, o = .ok b S1 ∧ match b with
      | false => K (.nx (setAll m vs ws) S1)
      | true => wS (body (setAll m vs ws) S1) (kTurn m vs (fun ws2 S2 => ∃ j', j' < j ∧ I j' ws2 S2) K)) : wS (mWhile t body m S) K := by
  have key : ∀ (k j : Nat) (ws : List (Option R)) (S : Store), j < k → I j ws S → K (mWhileGo t body k (setAll m vs ws) S) := by
    intro k
    induction k with
    | zero => intro j _ _ h; omega
    | succ k ih =>
      intro j ws S hj hI
      obtain ⟨S1, b, e1, h1⟩ := hs j ws S hI
      unfold mWhileGo
      rw [e1, thenS_ok]
      cases b with
      | false => exact h1
      | true =>
        have h1 : kTurn m vs (fun ws2 S2 => ∃ j', j' < j ∧ I j' ws2 S2) K (body (setAll m vs ws) S1) := h1
        simp only
        cases eb : body (setAll m vs ws) S1 with
        | nx m2 S2 => rw [eb] at h1; obtain ⟨q, j', hl, h2⟩ := h1; have := ih j' _ S2 (by omega) h2; rw [q] at this; exact this
        | ct m2 S2 => rw [eb] at h1; obtain ⟨q, j', hl, h2⟩ := h1; have := ih j' _ S2 (by omega) h2; rw [q] at this; exact this
        | bk m2 S2 => rw [eb] at h1; exact h1
        | rt d S2 => rw [eb] at h1; exact h1
        | exc c m2 S2 => rw [eb] at h1; exact h1
        | no => rw [eb] at h1; exact h1.elim
  have := key turns n _ S (by unfold turns; omega) h
  rw [h0] at this
  exact this
end
/-! ### comprehensions -/
section
variable {pins : List (Nat × MO)} {t : TgM} {c : MT} {f : ME} {m : Env} {S S0 : Store} {K : Out R → Prop} {ds : List R}
/-- by value, the turns leave the store: p a test, g the elements -/
theorem lcP_wp {α : Type} (xs : List α) (r : α → R) (p : α → Bool) (g : α → D) (hd : ds = xs.map r) (hp : ∀ acc, pinsOk pins (S ++ [.lst acc])) (hu : Upd S0 S) (hz : xs.length ≤ sizeLine)
    (hs : ∀ x ∈ xs, ∀ acc, wTg (t (r x) m) fun m1 => c m1 (S ++ [.lst acc]) = .ok (p x) (S ++ [.lst acc]) ∧ (p x = true → wE (f m1 (S ++ [.lst acc])) fun o => o = .ok (.v (g x)) (S ++ [.lst acc])))
    (k : K (.ok (.v (.lst ((xs.filter p).map g))) S)) : wE (mLcGo pins t c f S.length m ds (S ++ [.lst []])) (kB (fun r S' => popV S0 r S') K) := by
  subst hd
  have key : ∀ (xs ys : List α), ys.length + xs.length ≤ sizeLine → (∀ x ∈ xs, ∀ acc, wTg (t (r x) m) fun m1 => c m1 (S ++ [.lst acc]) = .ok (p x) (S ++ [.lst acc]) ∧ (p x = true → wE (f m1 (S ++ [.lst acc])) fun o => o = .ok (.v (g x)) (S ++ [.lst acc]))) →
      mLcGo pins t c f S.length m (xs.map r) (S ++ [.lst ((ys.map g).map .v)]) = .ok (.ref S.length) (S ++ [.lst (((ys ++ xs.filter p).map g).map .v)]) := by
    intro xs
    induction xs with
    | nil => intro ys _ _; rw [List.map_nil]; unfold mLcGo; rw [if_pos (hp _)]; simp
    | cons x xs ih =>
      intro ys hl hs
      have h1 := hs x (by simp) ((ys.map g).map .v)
      cases et : t (r x) m with
      | none => rw [et] at h1; exact h1.elim
      | some m1 =>
        rw [et] at h1
        obtain ⟨e2, e3⟩ := h1
        rw [List.map_cons]
        unfold mLcGo
        rw [if_pos (hp _), et]
        simp only [e2, Out.calm_ok, Out.bind_ok]
        rw [List.length_cons] at hl
        cases hpx : p x with
        | false =>
          simp only
          rw [ih ys (by omega) fun x hx => hs x (by simp [hx]), List.filter_cons_of_neg (by simp [hpx])]
        | true =>
          have e3 : f m1 (S ++ [MO.lst ((ys.map g).map R.v)]) = _ := e3 hpx
          simp only [e3, Out.calm_ok, Out.bind_ok, get_len]
          rw [if_pos (by rw [List.length_map, List.length_map]; omega), set_len, List.filter_cons_of_pos hpx]
          have := ih (ys ++ [x]) (by rw [List.length_append]; simp; omega) fun x hx => hs x (by simp [hx])
          simp only [List.map_append, List.map_cons, List.map_nil, List.append_assoc, List.cons_append, List.nil_append] at this ⊢
          exact this
  have := key xs [] (by simpa using hz) hs
  simp only [List.map_nil, List.nil_append] at this
  unfold wE kB
  rw [this, Out.bind_ok, popV_newU _ hu]
  exact k
theorem lc_wp {α : Type} (xs : List α) (r : α → R) (p : α → Bool) (g : α → D) (hd : ds = xs.map r) (hu : Upd S0 S) (hz : xs.length ≤ sizeLine)
    (hs : ∀ x ∈ xs, ∀ acc, wTg (t (r x) m) fun m1 => c m1 (S ++ [.lst acc]) = .ok (p x) (S ++ [.lst acc]) ∧ (p x = true → wE (f m1 (S ++ [.lst acc])) fun o => o = .ok (.v (g x)) (S ++ [.lst acc])))
    (k : K (.ok (.v (.lst ((xs.filter p).map g))) S)) : wE (mLcGo [] t c f S.length m ds (S ++ [.lst []])) (kB (fun r S' => popV S0 r S') K) :=
  lcP_wp xs r p g hd (fun _ => trivial) hu hz hs k
/-- .. without a test -/
theorem lcT_wp {α : Type} (xs : List α) (r : α → R) (g : α → D) (hd : ds = xs.map r) (hu : Upd S0 S) (hz : xs.length ≤ sizeLine)
    (hs : ∀ x ∈ xs, ∀ acc, wTg (t (r x) m) fun m1 => wE (f m1 (S ++ [.lst acc])) fun o => o = .ok (.v (g x)) (S ++ [.lst acc]))
    (k : K (.ok (.v (.lst (xs.map g))) S)) : wE (mLcGo [] t mtYes f S.length m ds (S ++ [.lst []])) (kB (fun r S' => popV S0 r S') K) :=
  lc_wp xs r (fun _ => true) g hd hu hz (fun x hx acc => by
    have := hs x hx acc
    cases e : t (r x) m with
    | none => rw [e] at this; exact this.elim
    | some m1 => rw [e] at this; exact ⟨rfl, fun _ => this⟩) (by rw [List.filter_eq_self.mpr fun _ _ => rfl]; exact k)
/-- the turns change the store below the new list: P of the turn, the list so far, the store -/
theorem lcS_wp {α : Type} (xs : List α) (r : α → R) (P : Nat → List D → Store → Prop) (hd : ds = xs.map r) (hz : xs.length ≤ sizeLine) (h0 : P 0 [] S) (hu : ∀ i ys T, P i ys T → Upd S0 T)
    (hs : ∀ i x ys T, xs[i]? = some x → P i ys T → wTg (t (r x) m) fun m1 => wE (f m1 (T ++ [.lst (ys.map .v)])) fun o => ∃ y T', o = .ok (.v y) (T' ++ [.lst (ys.map .v)]) ∧ P (i + 1) (ys ++ [y]) T')
    (k : ∀ ys T, P xs.length ys T → ys.length = xs.length → K (.ok (.v (.lst ys)) T)) : wE (mLcGo [] t mtYes f S.length m ds (S ++ [.lst []])) (kB (fun r S' => popV S0 r S') K) := by
  subst hd
  obtain ⟨ys, T, e, h1, h2⟩ := lc_st (t := t) (f := f) (m := m) (S0 := S0) (S := S) r xs P hz h0 hu fun i x ys T hx hp => by
    have := hs i x ys T hx hp
    cases et : t (r x) m with
    | none => rw [et] at this; exact this.elim
    | some m1 =>
      rw [et] at this
      obtain ⟨y, T', e, p⟩ := this
      exact ⟨m1, rfl, y, T', e, p⟩
  unfold wE kB
  rw [e]
  exact k ys T h1 h2
end
/-! ### stores -/
section
variable {S T : Store} {n w : Nat} {a b c o x : MO} {cs : Store}
theorem get_app' (h : S[n]? = some o) (cs : Store) : (S ++ cs)[n]? = some o := get_old h cs
theorem get_set' (h : S[n]? = some o) (x : MO) : (S.set n x)[n]? = some x := get_set h x
theorem get_setlt (h : n < S.length) (x : MO) : (S.set n x)[n]? = some x := by rw [List.getElem?_set_self h]
theorem get_ne' (hn : n ≠ w) (h : S[w]? = some o) (x : MO) : (S.set n x)[w]? = some o := by rw [get_ne hn]; exact h
theorem get_applt (h : n < S.length) (cs : Store) : (S ++ cs)[n]? = S[n]? := List.getElem?_append_left h
theorem set_applt (h : n < S.length) (cs : Store) (x : MO) : (S ++ cs).set n x = S.set n x ++ cs := List.set_append_left _ _ h
theorem get_L0 {k : Nat} (hl : S.length = k) (c : MO) (cs : Store) : (S ++ c :: cs)[k]? = some c := by subst hl; simp
theorem set_L0 {k : Nat} (hl : S.length = k) (c x : MO) (cs : Store) : (S ++ c :: cs).set k x = S ++ x :: cs := by subst hl; simp
theorem get_L1 {k : Nat} (hl : S.length = k) (b c : MO) (cs : Store) : (S ++ b :: c :: cs)[k + 1]? = some c := by subst hl; simp
theorem set_L1 {k : Nat} (hl : S.length = k) (b c x : MO) (cs : Store) : (S ++ b :: c :: cs).set (k + 1) x = S ++ b :: x :: cs := by subst hl; simp
theorem get_L2 {k : Nat} (hl : S.length = k) (a b c : MO) (cs : Store) : (S ++ a :: b :: c :: cs)[k + 2]? = some c := by subst hl; simp
theorem set_L2 {k : Nat} (hl : S.length = k) (a b c x : MO) (cs : Store) : (S ++ a :: b :: c :: cs).set (k + 2) x = S ++ a :: b :: x :: cs := by subst hl; simp
theorem app_app (a b c : Store) : (a ++ b) ++ c = a ++ (b ++ c) := List.append_assoc a b c
theorem upd_setS {S T : Store} {n : Nat} {c : MO} (h : Upd S T) (hc : c.lo S.length) : Upd S (T.set n c) := h.set hc
theorem cut_appU {S T : Store} (h : Upd S T) (t : Store) : cut S (T ++ t) = T := cut_app t h
theorem cut_U {S T : Store} (h : Upd S T) : cut S T = T := cut_upd h
end
/-! ### instances, dicts -/
section
variable {S S' : Store} {m : Env} {n : Nat} {c f : Str} {fs : List (Str × R)}
theorem insOf_get (h : S[n]? = some (.ins c fs)) : insOf c S (.ref n) = some fs := by unfold insOf; simp [h]
theorem mFld_eq (c f : Str) (a : ME) : mFld c f a m S = (a m S).bind fun d S1 => match (insOf c S1 d).bind fun fs => fs.lookup f with
  | some r => .ok r S1
  | none => .no := id rfl
def fldR (c f : Str) (d : R) (S : Store) : Out R := match (insOf c S d).bind fun fs => fs.lookup f with
  | some r => .ok r S
  | none => .no
theorem mFld_run (c f : Str) (a : ME) : mFld c f a m S = (a m S).bind fun d S1 => fldR c f d S1 := id rfl
theorem fldR_get {r : R} (h : S[n]? = some (.ins c fs)) (hf : fs.lookup f = some r) : fldR c f (.ref n) S = .ok r S := by unfold fldR; rw [insOf_get h]; simp [hf]
def setFldR (c f : Str) (m : Env) (x d : R) (S : Store) : OutS := match x, insOf c S x with
  | .ref n, some fs => if fs.length < 1000 then .nx m (S.set n (.ins c (putR' f d fs))) else .no
  | _, _ => .no
theorem mSetFld_run (c f : Str) (o v : ME) : mSetFld c f o v m S = (v m S).thenS m fun d S1 => (o m S1).thenS m fun x S2 => setFldR c f m x d S2 := id rfl
theorem setFldR_get {d : R} (h : S[n]? = some (.ins c fs)) (hl : fs.length < 1000) : setFldR c f m (.ref n) d S = .nx m (S.set n (.ins c (putR' f d fs))) := by unfold setFldR; rw [insOf_get h]; simp [hl]
theorem mAugFld_run (c f : Str) (o : ME) (g : R → R → Store → Out R) (v : ME) : mAugFld c f o g v m S = (o m S).thenS m fun x S1 => (fldR c f x S1).thenS m fun old S1' => (v m S1').thenS m fun d S2 => (g old d S2).thenS m fun z S3 => setFldR c f m x z S3 := by
  unfold mAugFld fldR setFldR
  cases o m S with
  | ok x S1 =>
    simp only [thenS_ok]
    cases h : (insOf c S1 x).bind fun fs => List.lookup f fs with
    | none => rfl
    | some old => rfl
  | exc e S1 => rfl
  | no => rfl
def methR (c m' : Str) (x : R) (S : Store) (k : Out R) : Out R := match insOf c S x with
  | some fs => match fs.lookup m' with
    | none => k
    | some _ => .no
  | none => .no
theorem mMethC_run (c m' : Str) (g : List R → Store → Out R) (o : ME) (r : MA) : mMethC c m' g o r m S = (o m S).bind fun x S1 => methR c m' x S1 ((r m S1).bind fun ds S2 => g (x :: ds) S2) := id rfl
theorem methR_get {m' : Str} {k : Out R} (h : S[n]? = some (.ins c fs)) (hf : fs.lookup m' = none) : methR c m' (.ref n) S k = k := by unfold methR; rw [insOf_get h]; simp [hf]
def nonR (n : Nat) : R → Store → Out R := fun z S2 => match z with
  | .v .non => .ok (.ref n) S2
  | _ => .no
theorem mMake_run (c : Str) (g : List R → Store → Out R) (r : MA) : mMake c g r m S = (r m S).bind fun ds S1 => (g (.ref S1.length :: ds) (S1 ++ [.ins c []])).bind (nonR S1.length) := id rfl
theorem nonR_non : nonR n (.v .non) S = .ok (.ref n) S := id rfl
theorem mDctT0_eq : mDctT0 m S = .ok (.ref S.length) (S ++ [.dT []]) := id rfl
def setTR (m : Env) (x y d : R) (S : Store) : OutS := match x, keyT y with
  | .ref n, some k => match S[n]? with
    | some (.dT kvs) => if kvs.length < sizeLine then .nx m (S.set n (.dT (putT kvs k d))) else .no
    | _ => .no
  | _, _ => .no
theorem mSetT_run (f o i : ME) : mSetT f o i m S = (f m S).thenS m fun d S1 => (o m S1).thenS m fun x S2 => (i m S2).thenS m fun y S3 => setTR m x y d S3 := id rfl
theorem setTR_get {kvs : List (List Key × R)} {y d : R} {k : List Key} (h : S[n]? = some (.dT kvs)) (hk : keyT y = some k) (hz : kvs.length < sizeLine) : setTR m (.ref n) y d S = .nx m (S.set n (.dT (putT kvs k d))) := by
  unfold setTR; simp only [hk, h, if_pos hz]
theorem dtOf_T {kvs : List (List Key × R)} (h : S[n]? = some (.dT kvs)) : dtOf S (.ref n) = some kvs := by unfold dtOf; simp [h]
theorem dtOf_L {kvs : List (List Key × R)} (h : S[n]? = some (.lkT kvs)) : dtOf S (.ref n) = some kvs := by unfold dtOf; simp [h]
theorem opIxT_get {kvs : List (List Key × R)} {d y x : R} {k : List Key} (h : dtOf S d = some kvs) (hk : keyT y = some k) (hv : valT kvs k = some x) : opIxT d y S = .ok x S := by unfold opIxT; simp [h, hk, hv]
theorem opInT_get {kvs : List (List Key × R)} {d y : R} {k : List Key} (h : dtOf S d = some kvs) (hk : keyT y = some k) : opInT y d S = .ok (.v (.bl (valT kvs k).isSome)) S := by unfold opInT; simp [h, hk]
theorem opNotInT_get {kvs : List (List Key × R)} {d y : R} {k : List Key} (h : dtOf S d = some kvs) (hk : keyT y = some k) : opNotInT y d S = .ok (.v (.bl (!(valT kvs k).isSome))) S := by unfold opNotInT; simp [h, hk]
theorem biLenT_get {kvs : List (List Key × R)} {d : R} (h : dtOf S d = some kvs) : biLenT [d] S = .ok (.v (.int kvs.length)) S := by unfold biLenT; simp [h]
theorem lockS_run {la : LA} {g : MS} {f l : MO} {K : OutS → Prop} (h1 : la m S = some n) (h2 : S[n]? = some f) (h3 : lkOf f = some l) (h4 : wS (g m (S.set n l)) fun o => ∃ S', S'[n]? = some l ∧ ((∃ m', o = .nx m' S' ∧ K (.nx m' (S'.set n f))) ∨ ∃ d, o = .rt d S' ∧ K (.rt d (S'.set n f)))) : wS (mLockS la g m S) K := by
  have hk : isLk S n = false := by unfold isLk; rw [h2]; cases f <;> first | rfl | cases h3
  unfold wS mLockS mLockS0
  simp only [h1, hk, h2, h3]
  obtain ⟨S', e1, ⟨m', e2, k⟩ | ⟨d, e2, k⟩⟩ := h4
  · simp only [Bool.false_eq_true, if_false]; rw [e2]; unfold unlkS; simp only [if_pos e1]; exact k
  · simp only [Bool.false_eq_true, if_false]; rw [e2]; unfold unlkS; simp only [if_pos e1]; exact k
theorem lockE_run {la : LA} {g : ME} {f l : MO} {K : Out R → Prop} (h1 : la m S = some n) (h2 : S[n]? = some f) (h3 : lkOf f = some l) (h4 : wE (g m (S.set n l)) fun o => ∃ d S', o = .ok d S' ∧ S'[n]? = some l ∧ K (.ok d (S'.set n f))) : wE (mLockE la g m S) K := by
  have hk : isLk S n = false := by unfold isLk; rw [h2]; cases f <;> first | rfl | cases h3
  unfold wE mLockE mLockE0
  simp only [h1, hk, h2, h3]
  obtain ⟨d, S', e2, e1, k⟩ := h4
  simp only [Bool.false_eq_true, if_false]; rw [e2]; unfold unlkE; simp only [if_pos e1]; exact k
theorem lockE_in {la : LA} {g : ME} {K : Out R → Prop} (h1 : la m S = some n) (h2 : isLk S n = true) (h4 : wE (g m S) K) : wE (mLockE la g m S) K := by
  unfold wE mLockE; simp only [h1, h2, if_true]; exact h4
theorem srcKeys_run (a : ME) : srcKeys a m S = (a m S).bind fun d S1 => match lkD S1 d with
  | some (.lkT kvs) => .ok ⟨keysT kvs, []⟩ S1
  | some (.lkK kvs) => .ok ⟨keysK kvs, []⟩ S1
  | _ => .no := id rfl
theorem srcItemsT_run (a : ME) : srcItemsT a m S = (a m S).bind fun d S1 => match lkD S1 d with
  | some (.lkT kvs) => match itemsT kvs with
    | some xs => .ok ⟨xs, []⟩ S1
    | none => .no
  | _ => .no := id rfl
theorem lkD_get {o : MO} (h : S[n]? = some o) : lkD S (.ref n) = some o := h
end
/-! ### cells at the end of the store -/
section
variable {S S0 : Store} {m : Env} {c f : Str} {fs : List (Str × R)} {cs : Store} {d x : R} {K : Out R → Prop}
theorem fldR_L0 (S : Store) (c f : Str) (fs : List (Str × R)) (cs : Store) {r : R} (h : fs.lookup f = some r) : fldR c f (.ref S.length) (S ++ .ins c fs :: cs) = .ok r (S ++ .ins c fs :: cs) := fldR_get (get_len S _ cs) h
theorem setFldR_L0 (S : Store) (m : Env) (c f : Str) (fs : List (Str × R)) (cs : Store) (d : R) (h : fs.length < 1000) : setFldR c f m (.ref S.length) d (S ++ .ins c fs :: cs) = .nx m (S ++ .ins c (putR' f d fs) :: cs) := by rw [setFldR_get (get_len S _ cs) h, set_len]
theorem methR_L0 (S : Store) (c f : Str) (fs : List (Str × R)) (cs : Store) (k : Out R) (h : fs.lookup f = none) : methR c f (.ref S.length) (S ++ .ins c fs :: cs) k = k := methR_get (get_len S _ cs) h
theorem popAdd_eq {x y : List D} (h : x.length + y.length ≤ sizeLine) : wE (opAdd (.v (.lst x)) (.v (.lst y)) S) (kB (fun r S' => popV S r S') K) = K (.ok (.v (.lst (x ++ y))) S) := by
  unfold wE kB; rw [popAdd h]
theorem popAddU_eq {x y : List D} (hu : Upd S0 S) (h : x.length + y.length ≤ sizeLine) : wE (opAdd (.v (.lst x)) (.v (.lst y)) S) (kB (fun r S' => popV S0 r S') K) = K (.ok (.v (.lst (x ++ y))) S) := by
  unfold wE kB; rw [opAdd_lst h, Out.bind_ok, ← List.map_append, popV_newU _ hu]
theorem popList_eq {xs : List D} (hu : Upd S0 S) {r : R} (h : seqOf S r = some (xs.map .v)) : wE (biList [r] S) (kB (fun r S' => popV S0 r S') K) = K (.ok (.v (.lst xs)) S) := by
  unfold wE kB; rw [biList_seq h, Out.bind_ok, popV_newU _ hu]
theorem popSlice_eq {xs : List D} (hu : Upd S0 S) (lo hi : Option Int) : wE (opSl (.v (.lst xs)) lo hi S) (kB (fun r S' => popV S0 r S') K) = K (.ok (.v (.lst (cutD xs lo hi))) S) := by
  unfold wE kB; rw [popSl_lstU hu]
theorem popDict_eq {kvs : List (Key × D)} {ps : List D} (hu : Upd S0 S) (h : pairsD (ps.map .v) = some (kvs.map fun kv => (kv.1, R.v kv.2))) {ks : List Key} {xs : List D} (hm : mergeR [] (kvs.map fun kv => (kv.1, R.v kv.2)) = ks.zip (xs.map .v)) (hl : ks.length = xs.length) :
    wE (biDict [.v (.lst ps)] S) (kB (fun r S' => popV S0 r S') K) = K (.ok (.v (.dct ks xs)) S) := by
  unfold wE kB
  have e : biDict [.v (.lst ps)] S = .ok (.ref S.length) (S ++ [.dK (ks.zip (xs.map .v))]) := by
    simp only [biDict, lstOf, Option.bind_some, h, hm]
  have g := get_len S (.dK (ks.zip (xs.map .v))) []
  have e1 : (ks.zip (xs.map R.v)).map (·.1) = ks := by rw [List.map_fst_zip]; rw [List.length_map]; omega
  have e2 : (ks.zip (xs.map R.v)).map (·.2) = xs.map .v := by rw [List.map_snd_zip]; rw [List.length_map]; omega
  rw [e, Out.bind_ok]
  unfold popV
  have fz : frz 8 (S ++ [.dK (ks.zip (xs.map .v))]) (.ref S.length) = some (.dct ks xs, S ++ [.fz (.dct ks xs)]) := by
    unfold frz
    simp only [g, e2, frzA_map, Option.bind_some, e1]
    rw [set_len]
  rw [fz]
  simp only
  rw [cut_app _ hu]
end
section
variable {S S0 : Store} {n : Nat} {K : Out R → Prop}
theorem popMul_eq {xs : List D} {k : Int} (hu : Upd S0 S) (h : k < 2 ^ 20 ∧ -(2 ^ 63) ≤ k ∧ xs.length * k.toNat ≤ sizeLine) : wE (opMul (.v (.lst xs)) (.v (.int k)) S) (kB (fun r S' => popV S0 r S') K) = K (.ok (.v (.lst (List.replicate k.toNat xs).flatten)) S) := by
  have e : repR k (xs.map R.v) = ((List.replicate k.toNat xs).flatten).map .v := by
    unfold repR; rw [List.map_flatten, List.map_replicate]
  unfold wE kB
  simp only [opMul]
  rw [if_pos h, e, Out.bind_ok, popV_newU _ hu]
theorem popMul1_eq {xs : List D} (hu : Upd S0 S) (h : xs.length ≤ sizeLine) : wE (opMul (.v (.lst xs)) (.v (.int 1)) S) (kB (fun r S' => popV S0 r S') K) = K (.ok (.v (.lst xs)) S) := by
  rw [popMul_eq hu ⟨by decide, by decide, by simpa using h⟩]; simp
theorem popMul0_eq {xs : List D} (hu : Upd S0 S) : wE (opMul (.v (.lst xs)) (.v (.int 0)) S) (kB (fun r S' => popV S0 r S') K) = K (.ok (.v (.lst [])) S) := by
  rw [popMul_eq hu ⟨by decide, by decide, by simp⟩]; simp
theorem frzO_vr {α : Type} {a : D} {ds : List D} (h : S[n]? = some (.lst (ds.map .v))) (f : List D → Store → Out α) : frzO S [.v a, .ref n] f = f [a, .lst ds] (S.set n (.fz (.lst ds))) := by
  unfold frzO
  simp only [frzA, frz_v, Option.bind_some, frz_ref h]
theorem mtExt_lst {xs : List R} {zs : List D} (h : S[n]? = some (.lst xs)) (hz : xs.length + zs.length ≤ sizeLine) : mtExt (.ref n) [.v (.lst zs)] S = .ok (.v .non) (S.set n (.lst (xs ++ zs.map .v))) :=
  mtExt_ref h rfl rfl (by rw [List.length_map]; exact hz)
end
theorem wS_eq {o o' : OutS} {K : OutS → Prop} (h : o = o') (k : K o') : wS o K := h ▸ k
end M

local macro_rules
  | `(tactic| simp_arith [$ls,*]) => `(tactic| simp only [M.wE_ok, M.wE_bind, M.kB_ok, M.kB_exc, M.wS_then, M.kT_ok, M.kT_exc, M.wS_nx, M.wS_ct, M.wS_bk, M.wS_rt, M.wS_exc, M.wS_seq, M.kSeq_nx, M.kSeq_ct, M.kSeq_bk, M.kSeq_rt, M.kSeq_exc, M.wE_def, M.wE_defV, M.kDef_rt, M.kDef_nx, M.wS_trim, M.kTrim_nx, M.kTrim_ct, M.kTrim_bk, M.kTrim_rt, M.wTg_some, M.kTurn_nx, M.kTurn_ct, M.kTurn_bk, M.kTurn_rt, M.kTurn_exc,
    M.mVar_eq, M.mC_eq, M.mBin_eq, M.mUn_eq, M.mNil_eq, M.mCons_eq, M.mCall_eq, M.mTup_eq, M.mLst_eq, M.mLstV_eq, M.mIf_eq, M.mAnd_eq, M.mOr_eq, M.mNot_eq, M.mtB_eq, M.mtTru_eq, M.mtAnd_eq, M.mtOr_eq, M.mtNot_eq, M.mtYes_eq, M.mMeth_eq, M.mMeth0_eq, M.mSl_eq, M.moN_eq, M.moS_eq, M.mChain_eq, M.mPop_eq, M.mSkip_eq, M.mBrk_eq, M.mCnt_eq, M.mDrop_eq, M.mRet_eq, M.mRetN_eq, M.mIfS_eq, M.mSet_eq, M.mSetP_eq, M.mPar_eq, M.mAug_eq, M.mAsg_eq, M.mSetIx_eq, M.mFor_eq, M.srcRange1_eq, M.srcRange2_eq, M.srcAny_eq, M.mLc_eq, M.tgN_eq, M.tgT_tup, M.bindAll_nil, M.bindAll_cons, Option.bind_some, M.onBl_bl, M.onII_int, M.Out.bind_ok, M.Out.bind_exc, M.thenS_ok, M.wipeM,
    M.mFld_run, M.mSetFld_run, M.mAugFld_run, M.mMethC_run, M.mMake_run, M.nonR_non, M.mDctT0_eq, M.mSetT_run, M.srcKeys_run, M.srcItemsT_run, M.mDct0,
    List.map_cons, List.map_nil, List.length_cons, List.length_nil, List.replicate_succ, List.replicate_zero, List.cons_append, List.nil_append, List.append_assoc, List.getElem?_cons_zero, List.getElem?_cons_succ, List.set_cons_zero, List.set_cons_succ, List.length_set, List.length_append, List.set_set, M.setAll_cons, M.setAll_nil, M.getAll_cons, M.getAll_nil, Option.getD_some, Option.getD_none,
    M.opAdd_int, M.opSub_int, M.opNeg_int, M.opIadd_int, M.opCmpI_int, M.opEq_int, M.opNe_int, M.opEq_bl, M.opNe_bl, M.opIs_non, M.opIsNot_non, M.opIs_bl, M.opIsNot_bl, M.isNon, M.truM_bl, M.truM_int, M.truM_non, M.truM_tup, M.biLen_tup, M.biLen_lst, M.biLen_kl, M.biAbs_int, M.biInt_int, M.biInt_bl, M.biMax_ii, M.biMin_ii, M.biTuple_tup, M.biTuple_lst, M.tyOk_str, M.tyOk_lstV, M.isi_str_str, M.isi_str_tup, M.isi_str_int, M.isi_str_bool, M.isi_tup_str, M.isi_tup_tup, M.isi_tup_int, M.isi_int_str, M.isi_int_tup, M.isi_int_int, M.isi_int_bool, M.isi_bl_str, M.isi_bl_tup, M.isi_bl_int, M.isi_bl_bool, M.isi_non_str, M.isi_non_tup, M.isi_non_int,
    M.frzO_nil, M.frzO_1, M.frzO_2, M.frzO_3, M.frzO_4, M.frzO_5, M.frzO_6, M.sz0, M.sz1, M.sz2, M.sz3, M.sz4, M.sz5, M.sz6, M.sz7, M.sz8, M.sz9, M.sz10, M.szl0, M.szl1, if_true, if_false, Bool.false_eq_true, M.popV_v, M.cut_self', M.atI_0, M.atI_1, M.atI_2, M.atI_3, M.opSl_tup, Bool.not_true, Bool.not_false, true_and, and_true, Nat.reduceAdd, Nat.reduceSub, Nat.reduceMul, Nat.reduceLT, Int.reduceAdd, Int.reduceSub, Int.reduceMul, Int.reduceNeg, Int.reduceLT, Int.reduceLE, Int.reduceEq, reduceIte, Nat.zero_add, M.keepE_v, M.keepE_none, $ls,*])
local macro_rules
  | `(tactic| walk_at "cell") => `(tactic| repeat' first | assumption | refine M.get_app' ?_ _ | refine M.get_set' ?_ _ | exact M.get_L0 (by simp only [List.length_set]) _ _ | exact M.get_L1 (by simp only [List.length_set]) _ _ _ | exact M.get_L2 (by simp only [List.length_set]) _ _ _ _)

namespace Q
open PySem hiding Env
open L2 M
noncomputable def m_take : MS :=
  (mSeq (mIfS (mtB (mBin opGt (mBin opIx (mVar 0) (mC (.int 0))) (mC (.int 0)))) (mSeq (mSet 2 (mBin opMod (mBin opIx (mVar 0) (mC (.int 0))) (mVar 1)))
  (mSeq (mSetIx (mBin opFdiv (mBin opIx (mVar 0) (mC (.int 0))) (mVar 1)) (mVar 0) (mC (.int 0)))
  (mRet (mVar 2)))) mSkip)
  (mSeq (mSetIx (mBin opMod (mBin opAdd (mBin opMul (mBin opIx (mVar 0) (mC (.int 1))) (mC (.int 6364136223846793005))) (mC (.int 1442695040888963407))) (mC (.int 2305843009213693951))) (mVar 0) (mC (.int 1)))
  (mSeq (mSet 3 (mBin opFdiv (mBin opIx (mVar 0) (mC (.int 1))) (mC (.int 524287))))
  (mRet (mBin opMod (mBin opFdiv (mBin opMod (mBin opMul (mVar 3) (mVar 3)) (mC (.int 1000000007))) (mC (.int 11))) (mVar 1))))))
noncomputable def M_take : List R → Store → Out R := mDefV 4 (m_take)
noncomputable def m_hand : MS :=
  (mSeq (mSet 2 (mIf (mtB (mBin opNe (mVar 0) (mLstV mNil))) (mBin opIx (mVar 0) (mBin opMod (mVar 1) (mCall biLen (mCons (mVar 0) mNil)))) (mC (.int 0))))
  (mSeq (mSet 3 (mBin opMul (mBin opMod (mCall biAbs (mCons (mVar 2) mNil)) (mBin opMul (mBin opMul (mBin opPow (mC (.int 10)) (mC (.int 60))) (mBin opPow (mC (.int 10)) (mC (.int 60)))) (mBin opPow (mC (.int 10)) (mC (.int 60))))) (mCall biInt (mCons (mBin opGe (mCall biAbs (mCons (mVar 2) mNil)) (mBin opPow (mC (.int 10)) (mC (.int 18)))) mNil))))
  (mRet (mLst (mCons (mVar 3) (mCons (mBin opMod (mBin opMul (mBin opAdd (mBin opAdd (mBin opMod (mVar 2) (mC (.int 2305843009213693921))) (mBin opMul (mBin opMul (mC (.int 104729)) (mVar 1)) (mVar 1))) (mC (.int 7))) (mC (.int 48271))) (mC (.int 2305843009213693951))) mNil))))))
noncomputable def M_hand : List R → Store → Out R := mDef 4 (m_hand)
noncomputable def b1_words (g_take : List R → Store → Out R) : MS :=
  (mSeq (mSet 8 (mBin opIx (mLstV (mCons (mC (.str "")) (mCons (mC (.str "a")) (mCons (mC (.str "zz")) (mCons (mC (.str "abcde")) mNil))))) (mCall g_take (mCons (mVar 0) (mCons (mC (.int 4)) mNil)))))
  (mDrop (mMeth "list" mtAppend (mVar 6) (mCons (mBin opAdd (mBin opAdd (mVar 5) (mBin opIx (mVar 2) (mBin opMod (mBin opAdd (mVar 3) (mBin opMul (mVar 4) (mVar 7))) (mC (.int 26))))) (mVar 8)) mNil))))
noncomputable def m_words (g_take : List R → Store → Out R) : MS :=
  (mSeq (mSet 2 (mC (.str "abcdefghijklmnopqrstuvwxyz")))
  (mSeq (mPar 3 4 (mCall g_take (mCons (mVar 0) (mCons (mC (.int 26)) mNil))) (mBin opIx (mLstV (mCons (mC (.int 1)) (mCons (mC (.int 3)) (mCons (mC (.int 5)) (mCons (mC (.int 7)) (mCons (mC (.int 9)) (mCons (mC (.int 11)) mNil))))))) (mCall g_take (mCons (mVar 0) (mCons (mC (.int 6)) mNil)))))
  (mSeq (mSet 5 (mBin opIx (mLstV (mCons (mC (.str "")) (mCons (mC (.str "")) (mCons (mC (.str "ab")) mNil)))) (mCall g_take (mCons (mVar 0) (mCons (mC (.int 3)) mNil)))))
  (mSeq (mSet 6 (mLst mNil))
  (mSeq (mFor (srcRange1 (mCons (mVar 1) mNil)) (tgN 7) (b1_words g_take))
  (mRet (mVar 6)))))))
noncomputable def M_words : List R → Store → Out R := mDefV 9 (m_words M_take)
noncomputable def b1_joined_2 (g_take : List R → Store → Out R) : MS :=
  (mSeq (mSet 5 (mBin opSub (mCall biLen (mCons (mVar 2) mNil)) (mC (.int 2))))
  (mSeq (mSet 6 (mBin opIx (mLstV (mCons (mC (.int 0)) (mCons (mVar 5) (mCons (mBin opMod (mVar 4) (mBin opAdd (mVar 5) (mC (.int 1)))) (mCons (mCall g_take (mCons (mVar 0) (mCons (mBin opAdd (mVar 5) (mC (.int 1))) mNil))) (mCons (mCall g_take (mCons (mVar 0) (mCons (mBin opAdd (mVar 5) (mC (.int 1))) mNil))) mNil)))))) (mVar 3)))
  (mSetSl (mLstV (mCons (mTup (mCons (mBin opIx (mVar 2) (mVar 6)) (mCons (mBin opIx (mVar 2) (mBin opAdd (mVar 6) (mC (.int 1)))) mNil))) mNil)) (mVar 2) (moS (mVar 6)) (moS (mBin opAdd (mVar 6) (mC (.int 2)))))))
noncomputable def m_joined_2 (g_take : List R → Store → Out R) : MS :=
  (mSeq (mPar 2 3 (mCall biList (mCons (mVar 1) mNil)) (mCall g_take (mCons (mVar 0) (mCons (mC (.int 5)) mNil))))
  (mSeq (mFor (srcRange1 (mCons (mBin opSub (mCall biLen (mCons (mVar 1) mNil)) (mC (.int 1))) mNil)) (tgN 4) (b1_joined_2 g_take))
  (mRet (mBin opIx (mVar 2) (mC (.int 0))))))
noncomputable def M_joined_2 : List R → Store → Out R := mDefV 7 (m_joined_2 M_take)
noncomputable def m_leaves_3 (g_leaves_3 : List R → Store → Out R) : MS :=
  (mSeq (mIfS (mtTru (mCall biIsi (mCons (mVar 0) (mCons (mC (.ty "str")) mNil)))) (mRet (mLst (mCons (mVar 0) mNil))) mSkip)
  (mRet (mBin opAdd (mCall g_leaves_3 (mCons (mBin opIx (mVar 0) (mC (.int 0))) mNil)) (mCall g_leaves_3 (mCons (mBin opIx (mVar 0) (mC (.int 1))) mNil)))))
noncomputable def R_leaves_3 : Nat → List R → Store → Out R
  | 0 => fun _ _ => .no
  | k + 1 => mDef 1 (m_leaves_3 (R_leaves_3 k))
noncomputable def m_text (g_text : List R → Store → Out R) : MS :=
  (mSeq (mIfS (mtTru (mCall biIsi (mCons (mVar 0) (mCons (mC (.ty "str")) mNil)))) (mRet (mVar 0)) mSkip)
  (mRet (mBin opAdd (mBin opAdd (mC (.str "(")) (mMeth "str" mtJoin (mC (.str ",")) (mCons (mPop (mLc (srcAny (mVar 0)) [1] (tgN 1) mtYes (mCall g_text (mCons (mVar 1) mNil)))) mNil))) (mC (.str ")")))))
noncomputable def R_text : Nat → List R → Store → Out R
  | 0 => fun _ _ => .no
  | k + 1 => mDefV 2 (m_text (R_text k))
end Q
namespace Q
open PySem hiding Env
open L2 M
/-- what is drawn from -/
structure Hnd where
  x : Int
  y : Int
  hx : 0 ≤ x
  hy : 0 ≤ y
  hz : y < 2305843009213693951
def Hnd.c (h : Hnd) : MO := .lst [.v (.int h.x), .v (.int h.y)]
theorem Hnd.lo (h : Hnd) (k : Nat) : h.c.lo k := lo_lst [.int h.x, .int h.y] k
theorem nab {i : Int} {k : Nat} (h0 : 0 ≤ i) (h : i < 2 ^ k) : i.natAbs < 2 ^ k := by
  have : ((i.natAbs : Nat) : Int) = i := by omega
  have h2 : ((i.natAbs : Nat) : Int) < ((2 ^ k : Nat) : Int) := by rw [this]; simpa using h
  exact_mod_cast h2
theorem take_spec {S : Store} {n : Nat} {h : Hnd} {k : Int} (e : S[n]? = some h.c) (h0 : 0 < k) (h1 : k < 2 ^ 62) : ∃ (r : Int) (h' : Hnd), M_take [.ref n, .v (.int k)] S = .ok (.v (.int r)) (S.set n h'.c) ∧ 0 ≤ r ∧ r < k := by
  have hk : k.natAbs < dvLine := dv64 (Nat.lt_of_lt_of_le (nab (k := 62) (by omega) h1) (by decide))
  obtain ⟨x, y, hx, hy, hz⟩ := h
  have e : S[n]? = some (.lst [.v (.int x), .v (.int y)]) := e
  by_cases hp : 0 < x
  · refine ⟨x % k, ⟨x / k, y, Int.ediv_nonneg hx (by omega), hy, hz⟩, ?_, Int.emod_nonneg _ (by omega), Int.emod_lt_of_pos _ h0⟩
    refine mDefV_rtU (T := S.set n (.lst [.v (.int (x / k)), .v (.int y)])) ?_ (upd_set n (lo_lst [.int (x / k), .int y] _))
    simp [m_take, opIx_ref e, hp, opMod_int h0, opFdiv_int h0 hk, setIx_ref e]
  · have hm : ∀ z : Int, 0 ≤ z % 2305843009213693951 ∧ z % 2305843009213693951 < 2305843009213693951 := fun z => ⟨Int.emod_nonneg _ (by decide), Int.emod_lt_of_pos _ (by decide)⟩
    generalize hq : (y * 6364136223846793005 + 1442695040888963407) % 2305843009213693951 = y1
    have hy1 : 0 ≤ y1 ∧ y1 < 2305843009213693951 := by rw [← hq]; exact hm _
    have hq1 : 0 ≤ y1 / 524287 ∧ y1 / 524287 < 2 ^ 60 := ⟨Int.ediv_nonneg hy1.1 (by decide), by omega⟩
    have e1 : (S.set n (.lst [.v (.int x), .v (.int y1)]))[n]? = some (.lst [.v (.int x), .v (.int y1)]) := get_set e _
    refine ⟨y1 / 524287 * (y1 / 524287) % 1000000007 / 11 % k, ⟨x, y1, hx, hy1.1, hy1.2⟩, ?_, Int.emod_nonneg _ (by omega), Int.emod_lt_of_pos _ h0⟩
    refine mDefV_rtU (T := S.set n (.lst [.v (.int x), .v (.int y1)])) ?_ (upd_set n (lo_lst [.int x, .int y1] _))
    have sy : y.natAbs < smLine := sm64 (by omega)
    have s1 : (6364136223846793005 : Int).natAbs < smLine := sm64 (by decide)
    have s2 : (y1 / 524287).natAbs < smLine := sm64 (by omega)
    have d1 : (524287 : Int).natAbs < dvLine := dv64 (by decide)
    have d2 : (11 : Int).natAbs < dvLine := dv64 (by decide)
    have g0 : opIx (.ref n) (.v (.int 0)) S = .ok (.v (.int x)) S := opIx_ref e rfl
    have g1 : opIx (.ref n) (.v (.int 1)) S = .ok (.v (.int y)) S := opIx_ref e rfl
    have g2 : opIx (.ref n) (.v (.int 1)) (S.set n (.lst [.v (.int x), .v (.int y1)])) = .ok (.v (.int y1)) (S.set n (.lst [.v (.int x), .v (.int y1)])) := opIx_ref e1 rfl
    simp [m_take, g0, g1, g2, hp, opMul_int sy s1, opMod_int, setIx_ref e, hq, opFdiv_int _ d1, opMul_int s2 s2, opFdiv_int _ d2, opMod_int h0]

theorem hand_spec {S : Store} {ns : List Int} {k : Int} (h0 : 0 ≤ k) (h1 : k < 2 ^ 20) : ∃ h : Hnd, M_hand [.v (.kl (ns.map D.int)), .v (.int k)] S = .ok (.ref S.length) (S ++ [h.c]) := by
  have p60 : ∀ S : Store, opPow (.v (.int 10)) (.v (.int 60)) S = .ok (.v (.int (10 ^ 60))) S := fun S => by
    simp only [opPow, onII_int]
    rw [if_pos (by decide)]
    rfl
  have p18 : ∀ S : Store, opPow (.v (.int 10)) (.v (.int 18)) S = .ok (.v (.int (10 ^ 18))) S := fun S => by
    simp only [opPow, onII_int]
    rw [if_pos (by decide)]
    rfl
  have q1 : ∀ S : Store, opMul (.v (.int (10 ^ 60))) (.v (.int (10 ^ 60))) S = .ok (.v (.int (10 ^ 60 * 10 ^ 60))) S := fun S => opMul_int (sm_lt 400 (by decide) (by decide)) (sm_lt 400 (by decide) (by decide))
  have q2 : ∀ S : Store, opMul (.v (.int (10 ^ 60 * 10 ^ 60))) (.v (.int (10 ^ 60))) S = .ok (.v (.int (10 ^ 60 * 10 ^ 60 * 10 ^ 60))) S := fun S => opMul_int (sm_lt 800 (by decide) (by decide)) (sm_lt 400 (by decide) (by decide))
  have pos : (0 : Int) < 10 ^ 60 * 10 ^ 60 * 10 ^ 60 := by decide
  generalize hP : (10 ^ 60 * 10 ^ 60 * 10 ^ 60 : Int) = P at q2 pos
  have hPs : P < 2 ^ 1000 := by rw [← hP]; decide
  -- the cell
  have cell : ∃ c : Int, mIf (mtB (mBin opNe (mVar 0) (mLstV mNil))) (mBin opIx (mVar 0) (mBin opMod (mVar 1) (mCall biLen (mCons (mVar 0) mNil)))) (mC (.int 0)) [some (.v (.kl (ns.map D.int))), some (.v (.int k)), none, none] S = .ok (.v (.int c)) S := by
    have q := opNe_kints_nil (S := S) ns
    by_cases hne : ns = []
    · subst hne
      simp only [List.map_nil] at q
      exact ⟨0, by simp [q]⟩
    · have he : ns.isEmpty = false := by simpa using hne
      have hl : (0 : Int) < ((ns.map D.int).length : Int) := by
        have := List.length_pos_iff.mpr hne
        simp; omega
      have hr := Int.emod_nonneg k (show ((ns.map D.int).length : Int) ≠ 0 by omega)
      have hr2 := Int.emod_lt_of_pos k hl
      obtain ⟨d, hd, hm⟩ := atI_some (xs := ns.map D.int) hr hr2
      obtain ⟨c, _, rfl⟩ := List.mem_map.mp hm
      refine ⟨c, ?_⟩
      simp only [mIf_eq, mtB_eq, mBin_eq, mVar_eq, List.getElem?_cons_zero, List.getElem?_cons_succ, Out.bind_ok, mLstV_eq, mNil_eq, frzO_nil, List.length_nil, Nat.zero_le, if_true, q, onBl_bl, he, Bool.not_false, mCall_eq, mCons_eq, biLen_kl, opMod_int hl, opIx_kl hd]
  obtain ⟨c, hc⟩ := cell
  generalize hA : (if c < 0 then -c else c) = a
  have ha : 0 ≤ a := by rw [← hA]; split <;> omega
  have hx : 0 ≤ a % P ∧ a % P < P := ⟨Int.emod_nonneg _ (by omega), Int.emod_lt_of_pos _ pos⟩
  have s1 : (a % P).natAbs < smLine := sm_lt 1000 (nab hx.1 (Int.lt_trans hx.2 hPs)) (by decide)
  have hb : ∀ b : Bool, (0 : Int) ≤ (if b = true then (1 : Int) else 0) ∧ (if b = true then (1 : Int) else 0) ≤ 1 := fun b => by cases b <;> decide
  have s2 : ∀ b : Bool, (if b = true then (1 : Int) else 0).natAbs < smLine := fun b => sm64 (by cases b <;> decide)
  have c1 : (0 : Int) ≤ c % 2305843009213693921 ∧ c % 2305843009213693921 < 2305843009213693921 := ⟨Int.emod_nonneg _ (by decide), Int.emod_lt_of_pos _ (by decide)⟩
  have m1 : (104729 : Int).natAbs < smLine ∧ k.natAbs < smLine := ⟨sm64 (by decide), sm64 (by omega)⟩
  have b1 : 0 ≤ 104729 * k ∧ 104729 * k < 2 ^ 40 := by omega
  have m2 : (104729 * k).natAbs < smLine := sm64 (by omega)
  have b2 : 0 ≤ 104729 * k * k ∧ 104729 * k * k < 2 ^ 60 := ⟨Int.mul_nonneg b1.1 h0, by
    have : 104729 * k * k ≤ (2 ^ 40 - 1) * (2 ^ 20 - 1) := Int.mul_le_mul (by omega) (by omega) h0 (by omega)
    omega⟩
  have m3 : (c % 2305843009213693921 + 104729 * k * k + 7).natAbs < smLine := sm64 (by omega)
  have m4 : (48271 : Int).natAbs < smLine := sm64 (by decide)
  refine ⟨⟨a % P * (if decide (10 ^ 18 ≤ a) = true then 1 else 0), (c % 2305843009213693921 + 104729 * k * k + 7) * 48271 % 2305843009213693951, Int.mul_nonneg hx.1 (hb _).1, Int.emod_nonneg _ (by decide), Int.emod_lt_of_pos _ (by decide)⟩, mDef_rt ?_⟩
  unfold m_hand
  refine (mSeq_nx (m' := [some (.v (.kl (ns.map D.int))), some (.v (.int k)), some (.v (.int c)), none]) (S' := S) ?_).trans ?_
  · rw [mSet_eq, show ([R.v (D.kl (ns.map D.int)), .v (.int k)].map some ++ List.replicate (4 - [R.v (D.kl (ns.map D.int)), .v (.int k)].length) none) = [some (.v (.kl (ns.map D.int))), some (.v (.int k)), none, none] from rfl, hc]
    rfl
  simp only [mSeq_eq, mSet_eq, mBin_eq, mC_eq, mCall_eq, mCons_eq, mNil_eq, mVar_eq, List.getElem?_cons_succ, List.getElem?_cons_zero, Out.bind_ok, thenS_ok, biAbs_int, hA, p60, q1, q2, opMod_int pos, p18, opCmpI_int, biInt_bl, opMul_int s1 (s2 _), List.set_cons_succ, List.set_cons_zero,
    mRet_eq, mLst_eq, opMod_int (show (0 : Int) < 2305843009213693921 by decide), opMul_int m1.1 m1.2, opMul_int m2 m1.2, opAdd_int, opMul_int m3 m4, opMod_int (show (0 : Int) < 2305843009213693951 by decide), List.length_cons, List.length_nil]
  rw [if_pos (by simp)]
  rfl

theorem get_atL {S' : Store} {k : Nat} (hl : S'.length = k) (c : MO) (cs : Store) : (S' ++ c :: cs)[k]? = some c := by subst hl; simp
theorem set_atL {S' : Store} {k : Nat} (hl : S'.length = k) (c x : MO) (cs : Store) : (S' ++ c :: cs).set k x = S' ++ x :: cs := by subst hl; simp
/-- an item of a written list, drawn -/
theorem pick_spec {S : Store} {n i : Nat} {h : Hnd} {m : Env} {r : MA} {ds : List D} {k : Int} (e : S[n]? = some h.c) (hr : mLstV r m S = .ok (.v (.lst ds)) S) (hm : m[i]? = some (some (.ref n))) (hk : k = ds.length) (h0 : 0 < k) (h1 : k < 2 ^ 62) :
    ∃ (d : D) (h' : Hnd), mBin opIx (mLstV r) (mCall M_take (mCons (mVar i) (mCons (mC (.v (.int k))) mNil))) m S = .ok (.v d) (S.set n h'.c) ∧ d ∈ ds := by
  obtain ⟨x, h', e1, h2, h3⟩ := take_spec e h0 h1
  obtain ⟨d, hd, hmem⟩ := atI_some (xs := ds) h2 (by omega)
  refine ⟨d, h', ?_, hmem⟩
  rw [mBin_eq, hr]
  simp [hm, e1, opIx_lst hd]
/-- the j-th word: begin, letter, end -/
def wordAt (b : Str) (f st : Int) (j : Nat) (e : Str) : Str := b ++ ⟨#[97 + ((f + st * (j : Int)) % 26).toNat]⟩ ++ e
theorem letter_at : ∀ i : Nat, i < 26 → (Str.ofString "abcdefghijklmnopqrstuvwxyz").cps.toList[i]? = some (97 + i) := by decide +kernel
def begs : List Str := ["", "", "ab"]
def ends : List Str := ["", "a", "zz", "abcde"]
theorem begs_ok : ∀ b ∈ begs, b.length ≤ 2 ∧ ∀ c ∈ b.cps.toList, 97 ≤ c ∧ c ≤ 122 := by decide +kernel
theorem ends_ok : ∀ b ∈ ends, b.length ≤ 5 ∧ ∀ c ∈ b.cps.toList, 97 ≤ c ∧ c ≤ 122 := by decide +kernel
theorem wordAt_good {b e : Str} {f st : Int} {j : Nat} (hb : b ∈ begs) (he : e ∈ ends) : GoodW (wordAt b f st j e) := by
  obtain ⟨h1, h2⟩ := begs_ok b hb
  obtain ⟨h3, h4⟩ := ends_ok e he
  have hm : 0 ≤ (f + st * (j : Int)) % 26 ∧ (f + st * (j : Int)) % 26 < 26 := ⟨Int.emod_nonneg _ (by decide), Int.emod_lt_of_pos _ (by decide)⟩
  refine ⟨?_, ?_, ?_⟩
  · unfold wordAt; rw [str_len_append, str_len_append, str_len ⟨#[_]⟩]; simp; omega
  · unfold wordAt; rw [str_len_append, str_len_append, str_len ⟨#[_]⟩]; simp; omega
  · unfold wordAt
    intro c hc
    rw [cps_app, cps_app] at hc
    simp only [List.mem_append, List.mem_cons, List.not_mem_nil, or_false] at hc
    rcases hc with (hc | hc) | hc
    · exact h2 c hc
    · subst hc; omega
    · exact h4 c hc
theorem wordAt_inj {b e e' : Str} {f st : Int} {i j : Nat} (hs : st = 1 ∨ st = 3 ∨ st = 5 ∨ st = 7 ∨ st = 9 ∨ st = 11) (hi : i < 26) (hj : j < 26) (h : wordAt b f st i e = wordAt b f st j e') : i = j := by
  have q := congrArg (fun x : Str => x.cps.toList) h
  simp only [wordAt, cps_app, List.append_assoc] at q
  have q2 := List.append_cancel_left q
  simp only [List.cons_append, List.nil_append, List.cons.injEq] at q2
  have q3 := q2.1
  have h1 : 0 ≤ (f + st * (i : Int)) % 26 ∧ (f + st * (i : Int)) % 26 < 26 := ⟨Int.emod_nonneg _ (by decide), Int.emod_lt_of_pos _ (by decide)⟩
  have h2 : 0 ≤ (f + st * (j : Int)) % 26 ∧ (f + st * (j : Int)) % 26 < 26 := ⟨Int.emod_nonneg _ (by decide), Int.emod_lt_of_pos _ (by decide)⟩
  have q4 : (f + st * (i : Int)) % 26 = (f + st * (j : Int)) % 26 := by omega
  rcases hs with rfl | rfl | rfl | rfl | rfl | rfl <;> omega

theorem words_spec {S : Store} {n : Nat} {h : Hnd} {k : Int} (e : S[n]? = some h.c) (h0 : 0 ≤ k) (h1 : k ≤ 26) : ∃ (h' : Hnd) (ws : List Str), M_words [.ref n, .v (.int k)] S = .ok (.v (.lst (ws.map D.str))) (S.set n h'.c) ∧ (ws.length : Int) = k ∧ ws.Nodup ∧ ∀ x ∈ ws, GoodW x := by
  have hn := lt_of_get e
  obtain ⟨f, g1, e1, f0, f1⟩ := take_spec (k := 26) e (by decide) (by decide)
  obtain ⟨st, g2, e2, hst⟩ := pick_spec (i := 0) (m := [some (.ref n), some (.v (.int k)), some (.v (.str "abcdefghijklmnopqrstuvwxyz")), none, none, none, none, none, none]) (r := mCons (mC (.int 1)) (mCons (mC (.int 3)) (mCons (mC (.int 5)) (mCons (mC (.int 7)) (mCons (mC (.int 9)) (mCons (mC (.int 11)) mNil))))))
    (ds := [.int 1, .int 3, .int 5, .int 7, .int 9, .int 11]) (k := 6) (get_set e g1.c) (by simp) rfl rfl (by decide) (by decide)
  obtain ⟨z, rfl, hz⟩ : ∃ z : Int, st = .int z ∧ (z = 1 ∨ z = 3 ∨ z = 5 ∨ z = 7 ∨ z = 9 ∨ z = 11) := by
    simp only [List.mem_cons, List.not_mem_nil, or_false] at hst
    rcases hst with rfl | rfl | rfl | rfl | rfl | rfl <;> exact ⟨_, rfl, by decide⟩
  rw [List.set_set] at e2
  obtain ⟨bd, g3, e3, hb⟩ := pick_spec (i := 0) (m := [some (.ref n), some (.v (.int k)), some (.v (.str "abcdefghijklmnopqrstuvwxyz")), some (.v (.int f)), some (.v (.int z)), none, none, none, none]) (r := mCons (mC (.str "")) (mCons (mC (.str "")) (mCons (mC (.str "ab")) mNil)))
    (ds := [.str "", .str "", .str "ab"]) (k := 3) (get_set e g2.c) (by simp) rfl rfl (by decide) (by decide)
  obtain ⟨b, rfl, hbb⟩ : ∃ b : Str, bd = .str b ∧ b ∈ begs := by
    simp only [List.mem_cons, List.not_mem_nil, or_false] at hb
    rcases hb with rfl | rfl | rfl <;> exact ⟨_, rfl, by decide +kernel⟩
  rw [List.set_set] at e3
  have Le : (Str.ofString "abcdefghijklmnopqrstuvwxyz").length ≤ sizeLine := sz_of (by decide +kernel)
  obtain ⟨m', S', eL, g', ws, hS', ⟨w1, w2, hm'⟩, hlen, hws⟩ := for_inv (t := tgN 7) (body := b1_words M_take) (ds := rangeD 0 k.toNat) (m := [some (.ref n), some (.v (.int k)), some (.v (.str "abcdefghijklmnopqrstuvwxyz")), some (.v (.int f)), some (.v (.int z)), some (.v (.str b)), some (.ref S.length), none, none]) (S := S.set n g3.c ++ [.lst []])
    (fun i m T => ∃ (g : Hnd) (ws : List Str), T = S.set n g.c ++ [.lst (ws.map fun x => .v (.str x))] ∧ (∃ w1 w2, m = [some (.ref n), some (.v (.int k)), some (.v (.str "abcdefghijklmnopqrstuvwxyz")), some (.v (.int f)), some (.v (.int z)), some (.v (.str b)), some (.ref S.length), w1, w2]) ∧ ws.length = i ∧ ∀ j w, ws[j]? = some w → ∃ e ∈ ends, w = wordAt b f z j e)
    ⟨g3, [], rfl, ⟨none, none, rfl⟩, rfl, fun j w hj => by simp at hj⟩ (by
      rintro i d m T hd ⟨g, ws, rfl, ⟨w1, w2, rfl⟩, hl, hws⟩
      obtain ⟨hi, rfl⟩ := rangeD_get hd
      simp only [Int.zero_add]
      have hS : (S.set n g.c).length = S.length := by simp
      obtain ⟨ed, g4, e4, he⟩ := pick_spec (i := 0) (m := [some (.ref n), some (.v (.int k)), some (.v (.str "abcdefghijklmnopqrstuvwxyz")), some (.v (.int f)), some (.v (.int z)), some (.v (.str b)), some (.ref S.length), some (.v (.int (i : Int))), w2]) (r := mCons (mC (.str "")) (mCons (mC (.str "a")) (mCons (mC (.str "zz")) (mCons (mC (.str "abcde")) mNil))))
        (ds := [.str "", .str "a", .str "zz", .str "abcde"]) (k := 4) (get_old (get_set e g.c) [.lst (ws.map fun x => .v (.str x))]) (by simp) rfl rfl (by decide) (by decide)
      obtain ⟨en, rfl, hen⟩ : ∃ b : Str, ed = .str b ∧ b ∈ ends := by
        simp only [List.mem_cons, List.not_mem_nil, or_false] at he
        rcases he with rfl | rfl | rfl | rfl <;> exact ⟨_, rfl, by decide +kernel⟩
      rw [set_old (get_set e g.c), List.set_set] at e4
      have zs : z.natAbs < smLine := sm64 (by omega)
      have is : (i : Int).natAbs < smLine := sm64 (by omega)
      have hmod : 0 ≤ (f + z * (i : Int)) % 26 ∧ (f + z * (i : Int)) % 26 < 26 := ⟨Int.emod_nonneg _ (by decide), Int.emod_lt_of_pos _ (by decide)⟩
      have hlet := letter_at ((f + z * (i : Int)) % 26).toNat (by omega)
      rw [← atI_lt hmod.1] at hlet
      have hb1 := (begs_ok b hbb).1
      have he1 := (ends_ok en hen).1
      have s1 : b.length + (⟨#[97 + ((f + z * (i : Int)) % 26).toNat]⟩ : Str).length ≤ sizeLine := sz_of (by rw [str_len ⟨#[_]⟩]; simp; omega)
      have s2 : (b ++ (⟨#[97 + ((f + z * (i : Int)) % 26).toNat]⟩ : Str)).length + en.length ≤ sizeLine := sz_of (by rw [str_len_append, str_len ⟨#[_]⟩]; simp; omega)
      have hS4 : (S.set n g4.c).length = S.length := by simp
      have hz1 : (ws.map fun x => R.v (D.str x)).length < sizeLine := sz_lt (by rw [List.length_map]; omega)
      refine ⟨_, rfl, [some (.ref n), some (.v (.int k)), some (.v (.str "abcdefghijklmnopqrstuvwxyz")), some (.v (.int f)), some (.v (.int z)), some (.v (.str b)), some (.ref S.length), some (.v (.int (i : Int))), some (.v (.str en))], S.set n g4.c ++ [.lst ((ws ++ [wordAt b f z i en]).map fun x => .v (.str x))], .inl ?_, g4, ws ++ [wordAt b f z i en], rfl, ⟨_, _, rfl⟩, by simp [hl], fun j w hj => ?_⟩
      · unfold b1_words
        refine (mSeq_nx (m' := [some (.ref n), some (.v (.int k)), some (.v (.str "abcdefghijklmnopqrstuvwxyz")), some (.v (.int f)), some (.v (.int z)), some (.v (.str b)), some (.ref S.length), some (.v (.int (i : Int))), some (.v (.str en))]) (S' := S.set n g4.c ++ [.lst (ws.map fun x => .v (.str x))]) ?_).trans ?_
        · rw [mSet_eq, show (List.set [some (R.ref n), some (.v (.int k)), some (.v (.str "abcdefghijklmnopqrstuvwxyz")), some (.v (.int f)), some (.v (.int z)), some (.v (.str b)), some (.ref S.length), w1, w2] 7 (some (.v (.int (i : Int))))) = [some (.ref n), some (.v (.int k)), some (.v (.str "abcdefghijklmnopqrstuvwxyz")), some (.v (.int f)), some (.v (.int z)), some (.v (.str b)), some (.ref S.length), some (.v (.int (i : Int))), w2] from rfl]
          rw [e4]; rfl
        · have gt := get_atL hS4 (.lst (ws.map fun x => R.v (D.str x))) []
          simp [tyOk_lst gt, opMul_int zs is, opMod_int (show (0 : Int) < 26 by decide), opIx_str Le hlet, opAdd_str s1, opAdd_str s2, mtAppend_ref gt hz1, set_atL hS4, wordAt]
      · rcases Nat.lt_trichotomy j ws.length with hj' | hj' | hj'
        · rw [List.getElem?_append_left hj'] at hj
          exact hws j w hj
        · subst hj'
          rw [List.getElem?_append_right (Nat.le_refl _), Nat.sub_self] at hj
          cases hj
          exact ⟨en, hen, by rw [hl]⟩
        · rw [List.getElem?_eq_none (by simp; omega)] at hj
          cases hj)
  subst hS' hm'
  have hl : ws.length = k.toNat := by rw [hlen, rangeD_len]
  refine ⟨g', ws, ?_, by omega, ?_, fun x hx => ?_⟩
  · have e3' := e3
    have hS : (S.set n g'.c).length = S.length := by simp
    refine mDefV_rtL (n := S.length) (xs := ws.map D.str) [.lst (ws.map fun x => .v (.str x))] ?_ (by rw [get_atL hS]; simp) (by simp) (upd_set n (g'.lo _))
    · unfold m_words
      simp only [List.map_cons, List.map_nil, List.length_cons, List.length_nil, List.replicate, List.cons_append, List.nil_append]
      refine (mSeq_nx (m' := [some (.ref n), some (.v (.int k)), some (.v (.str "abcdefghijklmnopqrstuvwxyz")), none, none, none, none, none, none]) (S' := S) (by simp)).trans ?_
      refine (mSeq_nx (m' := [some (.ref n), some (.v (.int k)), some (.v (.str "abcdefghijklmnopqrstuvwxyz")), some (.v (.int f)), some (.v (.int z)), none, none, none, none]) (S' := S.set n g2.c) ?_).trans ?_
      · rw [mPar_eq]
        simp only [mCall_eq, mCons_eq, mVar_eq, mNil_eq, mC_eq, List.getElem?_cons_zero, Out.bind_ok, e1, thenS_ok, e2]
        rfl
      refine (mSeq_nx (m' := [some (.ref n), some (.v (.int k)), some (.v (.str "abcdefghijklmnopqrstuvwxyz")), some (.v (.int f)), some (.v (.int z)), some (.v (.str b)), none, none, none]) (S' := S.set n g3.c) ?_).trans ?_
      · rw [mSet_eq, e3]; rfl
      refine (mSeq_nx (m' := [some (.ref n), some (.v (.int k)), some (.v (.str "abcdefghijklmnopqrstuvwxyz")), some (.v (.int f)), some (.v (.int z)), some (.v (.str b)), some (.ref S.length), none, none]) (S' := S.set n g3.c ++ [.lst []]) (by simp)).trans ?_
      refine (mSeq_nx (m' := [some (.ref n), some (.v (.int k)), some (.v (.str "abcdefghijklmnopqrstuvwxyz")), some (.v (.int f)), some (.v (.int z)), some (.v (.str b)), some (.ref S.length), w1, w2]) (S' := S.set n g'.c ++ [.lst (ws.map fun x => .v (.str x))]) ?_).trans (by simp)
      simp only [mFor_eq, srcRange1_eq, mCons_eq, mVar_eq, mNil_eq, List.getElem?_cons_zero, List.getElem?_cons_succ, Out.bind_ok, rg1_int h0 (show k < 2 ^ 62 by omega), thenS_ok]
      exact eL
  · refine List.pairwise_iff_getElem.mpr fun i j hi hj hij q => ?_
    obtain ⟨e5, _, h5⟩ := hws i ws[i] (List.getElem?_eq_getElem hi)
    obtain ⟨e6, _, h6⟩ := hws j ws[j] (List.getElem?_eq_getElem hj)
    rw [h5, h6] at q
    have := wordAt_inj hz (by omega) (by omega) q
    omega
  · obtain ⟨j, hj, q⟩ := List.getElem_of_mem hx
    obtain ⟨e5, h5, h6⟩ := hws j x (by rw [List.getElem?_eq_getElem hj, q])
    rw [h6]
    exact wordAt_good hbb h5

/-- two neighbours put together -/
theorem cut2 {us : List T} {a : Nat} (h : a + 2 ≤ us.length) : ∃ l r, us[a]? = some l ∧ us[a + 1]? = some r ∧ us = us.take a ++ l :: r :: us.drop (a + 2) := by
  refine ⟨us[a], us[a + 1], List.getElem?_eq_getElem (by omega), List.getElem?_eq_getElem (by omega), ?_⟩
  conv => lhs; rw [← List.take_append_drop a us]
  rw [List.drop_eq_getElem_cons (show a < us.length by omega), List.drop_eq_getElem_cons (show a + 1 < us.length by omega)]
theorem joined_specR {S : Store} {n : Nat} {h : Hnd} {ts : List T} {q : R} (e : S[n]? = some h.c) (hq : ∀ (g : Hnd) (c : Store), seqOf (S.set n g.c ++ c) q = some ((ts.map T.d).map .v)) (hne : ts ≠ []) (hz : ts.length ≤ 100000) : ∃ (h' : Hnd) (t : T), M_joined_2 [.ref n, q] S = .ok (.v t.d) (S.set n h'.c) ∧ t.ls = ts.flatMap T.ls := by
  have hp : 0 < ts.length := List.length_pos_iff.mpr hne
  have hn := lt_of_get e
  have hq0 : seqOf S q = some ((ts.map T.d).map .v) := by
    have := hq h []
    rwa [set_get e, List.append_nil] at this
  obtain ⟨st, g1, e1, s0, s1⟩ := take_spec (k := 5) (get_old e [.lst ((ts.map T.d).map .v)]) (by decide) (by decide)
  rw [set_old e] at e1
  let m0 : R → Option R → Option R → Option R → Env := fun st w1 w2 w3 => [some (.ref n), some q, some (.ref S.length), some st, w1, w2, w3]
  obtain ⟨m', S', eL, g', us, hS', ⟨w1, w2, w3, hm'⟩, hlen, hls⟩ := for_inv (t := tgN 4) (body := b1_joined_2 M_take) (ds := rangeD 0 (ts.length - 1)) (m := m0 (.v (.int st)) none none none) (S := S.set n g1.c ++ [.lst ((ts.map T.d).map .v)])
    (fun i m X => ∃ (g : Hnd) (us : List T), X = S.set n g.c ++ [.lst ((us.map T.d).map .v)] ∧ (∃ w1 w2 w3, m = m0 (.v (.int st)) w1 w2 w3) ∧ us.length + i = ts.length ∧ us.flatMap T.ls = ts.flatMap T.ls)
    ⟨g1, ts, rfl, ⟨none, none, none, rfl⟩, rfl, rfl⟩ (by
      rintro i d m X hd ⟨g, us, rfl, ⟨w1, w2, w3, rfl⟩, hl, hf⟩
      obtain ⟨hi, rfl⟩ := rangeD_get hd
      simp only [Int.zero_add]
      have hfar : (0 : Int) ≤ (us.length : Int) - 2 := by omega
      generalize hF : (us.length : Int) - 2 = far at hfar
      have hS : ∀ g : Hnd, (S.set n g.c).length = S.length := fun g => by simp
      have eg := get_old (get_set e g.c) [.lst ((us.map T.d).map .v)]
      obtain ⟨r1, g3, e3, a0, a1⟩ := take_spec (k := far + 1) eg (by omega) (by omega)
      rw [set_old (get_set e g.c), List.set_set] at e3
      obtain ⟨r2, g4, e4, b0, b1⟩ := take_spec (k := far + 1) (get_old (get_set e g3.c) [.lst ((us.map T.d).map .v)]) (by omega) (by omega)
      rw [set_old (get_set e g3.c), List.set_set] at e4
      have m0' := Int.emod_nonneg (i : Int) (show far + 1 ≠ 0 by omega)
      have m1' := Int.emod_lt_of_pos (i : Int) (show 0 < far + 1 by omega)
      obtain ⟨ad, had, hmem⟩ := atI_some (xs := [D.int 0, .int far, .int ((i : Int) % (far + 1)), .int r1, .int r2]) (i := st) s0 (by simpa using s1)
      obtain ⟨a, rfl, ha0, ha1⟩ : ∃ a : Int, ad = .int a ∧ 0 ≤ a ∧ a ≤ far := by
        simp only [List.mem_cons, List.not_mem_nil, or_false] at hmem
        rcases hmem with rfl | rfl | rfl | rfl | rfl
        · exact ⟨_, rfl, by omega, by omega⟩
        · exact ⟨_, rfl, by omega, by omega⟩
        · exact ⟨_, rfl, m0', by omega⟩
        · exact ⟨_, rfl, a0, by omega⟩
        · exact ⟨_, rfl, b0, by omega⟩
      obtain ⟨lt, rt, c1, c2, c3⟩ := cut2 (us := us) (a := a.toNat) (by omega)
      have g5 := get_atL (hS g4) (.lst ((us.map T.d).map R.v)) []
      have g6 := get_atL (hS g) (.lst ((us.map T.d).map R.v)) []
      have i1 : atI ((us.map T.d).map R.v) a = some (.v lt.d) := by rw [atI_map, atI_map, atI_lt ha0, c1]; rfl
      have i2 : atI ((us.map T.d).map R.v) (a + 1) = some (.v rt.d) := by rw [atI_map, atI_map, atI_lt (by omega), show (a + 1).toNat = a.toNat + 1 by omega, c2]; rfl
      refine ⟨_, rfl, m0 (.v (.int st)) (some (.v (.int (i : Int)))) (some (.v (.int far))) (some (.v (.int a))), _, .inl ?_, g4, us.take a.toNat ++ T.node lt rt :: us.drop (a.toNat + 2), rfl, ⟨_, _, _, rfl⟩, ?_, ?_⟩
      · have hsz : (((us.map T.d).map R.v).length : Nat) + 1 ≤ sizeLine := sz_of (by simp; omega)
        have fin : (S.set n g4.c ++ [MO.lst ((us.map T.d).map R.v)]).set S.length (.lst (((us.map T.d).map R.v).take a.toNat ++ [R.v (.tup [lt.d, rt.d])] ++ ((us.map T.d).map R.v).drop (a + 2).toNat)) = S.set n g4.c ++ [.lst (((us.take a.toNat ++ T.node lt rt :: us.drop (a.toNat + 2)).map T.d).map .v)] := by
          rw [set_atL (hS g4), show (a + 2).toNat = a.toNat + 2 by omega]
          simp [T.d, List.map_take, List.map_drop]
        unfold b1_joined_2
        simp only [mSeq_eq, mSet_eq, mBin_eq, mCall_eq, mCons_eq, mVar_eq, mNil_eq, mC_eq, m0, List.set_cons_succ, List.set_cons_zero, List.getElem?_cons_succ, List.getElem?_cons_zero, Out.bind_ok, biLen_ref g6, opSub_int, thenS_ok, mLstV_eq, List.length_map, hF, opAdd_int, opMod_int (show 0 < far + 1 by omega), e3, e4, frzO_5, List.length_cons, List.length_nil, Nat.zero_add, Nat.reduceAdd, sz5, if_true, opIx_lst had]
        unfold mSetSl
        simp only [mLstV_eq, mTup_eq, mCons_eq, mBin_eq, mVar_eq, mC_eq, mNil_eq, List.getElem?_cons_succ, List.getElem?_cons_zero, Out.bind_ok, opIx_ref g5 i1, opIx_ref g5 i2, opAdd_int, frzO_2, frzO_1, List.length_cons, List.length_nil, Nat.zero_add, Nat.reduceAdd, sz2, sz1, if_true, thenS_ok, moS_eq, g5, lstOf, List.map_cons, List.map_nil]
        rw [if_pos ⟨rfl, by simp, ha0, by omega, by simp; omega, by simpa using hsz⟩, fin]
      · have q := congrArg List.length c3
        simp only [List.length_append, List.length_cons] at q ⊢
        omega
      · rw [← hf]
        conv => rhs; rw [c3]
        simp [T.ls])
  subst hS' hm'
  rw [rangeD_len] at hlen
  obtain ⟨t, rfl⟩ : ∃ t, us = [t] := by
    match us, hlen with
    | [t], _ => exact ⟨t, rfl⟩
    | [], h => simp at h; omega
    | _ :: _ :: _, h => simp at h; omega
  have g5 := get_atL (show (S.set n g'.c).length = S.length by simp) (.lst ([R.v t.d])) []
  refine ⟨g', t, mDefV_rtG [.lst [.v t.d]] ?_ (upd_set n (g'.lo _)), by rw [← hls]; simp⟩
  unfold m_joined_2
  have rg : ∀ S, rg1 [.v (.int ((ts.length : Int) - 1))] S = .ok ⟨rangeD 0 (ts.length - 1), []⟩ S := fun S => by rw [rg1_int (by omega) (by omega), show ((ts.length : Int) - 1).toNat = ts.length - 1 by omega]
  simp only [List.map_cons, List.map_nil, List.length_cons, List.length_nil, List.replicate, List.cons_append, List.nil_append, Nat.reduceAdd, Nat.reduceSub, mSeq_eq, mPar_eq, mCall_eq, mCons_eq, mVar_eq, mNil_eq, mC_eq, List.getElem?_cons_succ, List.getElem?_cons_zero, Out.bind_ok, biList_seq hq0, e1, thenS_ok, List.set_cons_succ, List.set_cons_zero, mBin_eq, biLen_seq (hq g1 _), List.length_map, opSub_int, mFor_eq, srcRange1_eq, rg]
  have eL' : mForGo [] (tgN 4) (b1_joined_2 M_take) (rangeD 0 (ts.length - 1)) [some (R.ref n), some q, some (.ref S.length), some (.v (.int st)), none, none, none] (S.set n g1.c ++ [.lst ((ts.map T.d).map .v)]) = _ := eL
  rw [eL']
  simp only [m0, mRet_eq, mBin_eq, mVar_eq, mC_eq, List.getElem?_cons_succ, List.getElem?_cons_zero, Out.bind_ok, opIx_ref g5 (atI_0 _ _), thenS_ok, List.map_cons, List.map_nil]
theorem joined_spec {S : Store} {n : Nat} {h : Hnd} {ts : List T} (e : S[n]? = some h.c) (hne : ts ≠ []) (hz : ts.length ≤ 100000) : ∃ (h' : Hnd) (t : T), M_joined_2 [.ref n, .v (.lst (ts.map T.d))] S = .ok (.v t.d) (S.set n h'.c) ∧ t.ls = ts.flatMap T.ls :=
  joined_specR e (fun _ _ => rfl) hne hz
theorem leaves_3_spec : ∀ (k : Nat) (t : T) (S : Store), t.depth < k → t.ls.length ≤ 100000 → ∃ (w : Nat) (g : Store), R_leaves_3 k [.v t.d] S = .ok (.ref w) (S ++ g) ∧ (S ++ g)[w]? = some (.lst ((t.ls.map D.str).map .v)) ∧ S.length ≤ w
  | 0, t, S, h, _ => by omega
  | k + 1, .leaf w, S, h, _ => by
    refine ⟨S.length, [.lst [.v (.str w)]], mDef_rt ?_, by simp [T.ls], Nat.le_refl _⟩
    simp [m_leaves_3, T.d]
  | k + 1, .node l r, S, h, hz => by
    simp only [T.depth] at h
    simp only [T.ls, List.length_append] at hz
    obtain ⟨w1, x1, e1, q1, n1⟩ := leaves_3_spec k l S (by omega) (by omega)
    obtain ⟨w2, x2, e2, q2, n2⟩ := leaves_3_spec k r (S ++ x1) (by omega) (by omega)
    have q1' := get_old q1 x2
    have hs : ((l.ls.map D.str).map R.v).length + ((r.ls.map D.str).map R.v).length ≤ sizeLine := sz_of (by simp; omega)
    refine ⟨(S ++ x1 ++ x2).length, x1 ++ x2 ++ [.lst ((l.ls.map D.str).map .v ++ (r.ls.map D.str).map .v)], mDef_rt ?_, by rw [← List.append_assoc, ← List.append_assoc, get_len]; simp [T.ls], by simp only [List.length_append]; omega⟩
    have i1 : opIx (.v (.tup [l.d, r.d])) (.v (.int 0)) S = .ok (.v l.d) S := opIx_tup (atI_0 _ _)
    have i2 : opIx (.v (.tup [l.d, r.d])) (.v (.int 1)) (S ++ x1) = .ok (.v r.d) (S ++ x1) := opIx_tup (atI_1 _ _ _)
    have i3 := opAdd_refs (lsOf_lst q1') (lsOf_lst q2) hs
    simp only [T.d, m_leaves_3, List.map_cons, List.map_nil, List.length_cons, List.length_nil, List.replicate, List.cons_append, List.nil_append, mSeq_eq, mIfS_eq, mtTru_eq, mCall_eq, mCons_eq, mVar_eq, mC_eq, mNil_eq, List.getElem?_cons_zero, Out.bind_ok, isi_tup_str, truM_bl, thenS_ok, mSkip_eq, mRet_eq, mBin_eq, i1, e1, i2, e2, i3]
    simp [List.append_assoc]
theorem join2 (x y : Str) : Txt.join "," [x, y] = x ++ "," ++ y := by
  refine str_ext ?_
  simp [Txt.join, Builtin.Str.glued, cps_app]
theorem text_spec : ∀ (k : Nat) (t : T) (S : Store), t.depth < k → t.Ok → t.ls.length ≤ 100000 → R_text k [.v t.d] S = .ok (.v (.str t.text)) S
  | 0, t, S, h, _, _ => by omega
  | k + 1, .leaf w, S, h, _, _ => by
    refine mDefV_rt0 ?_
    simp [m_text, T.d, T.text]
  | k + 1, .node l r, S, h, ht, hz => by
    simp only [T.depth] at h
    simp only [T.ls, List.length_append] at hz
    have t1 := T.text_len l ht.l
    have t2 := T.text_len r ht.r
    have lc := lc_map (S := S) (t := tgN 1) (c := mtYes) (f := mCall (R_text k) (mCons (mVar 1) mNil)) (m := [some (.v (.tup [l.d, r.d])), none]) (fun t : T => .v t.d) (fun _ => true) (fun t => .str t.text) [l, r] (by simp) (by
      intro x hx acc
      refine ⟨_, rfl, rfl, fun _ => ?_⟩
      simp only [List.mem_cons, List.not_mem_nil, or_false] at hx
      rcases hx with rfl | rfl
      · have := text_spec k x (S ++ [.lst acc]) (by omega) ht.l (by omega)
        simp [this]
      · have := text_spec k x (S ++ [.lst acc]) (by omega) ht.r (by omega)
        simp [this])
    have e3 : (Str.ofString "(").length = 1 := by decide +kernel
    have e4 : (Str.ofString ",").length = 1 := by decide +kernel
    have e5 : (Str.ofString ")").length = 1 := by decide +kernel
    have sz : ([l.text, r.text].map (·.length)).sum + [l.text, r.text].length * (Str.ofString ",").length ≤ 16777216 := by simp [e4]; omega
    have a1 : (Str.ofString "(").length + (Txt.join "," [l.text, r.text]).length ≤ sizeLine := sz_of (by rw [join2]; simp only [str_len_append]; omega)
    have a2 : ((Str.ofString "(") ++ (Txt.join "," [l.text, r.text])).length + (Str.ofString ")").length ≤ sizeLine := sz_of (by rw [join2]; simp only [str_len_append]; omega)
    have jn : mtJoin (.v (.str ",")) [.v (.lst [.str l.text, .str r.text])] S = .ok (.v (.str (Txt.join "," [l.text, r.text]))) S := by
      have : (seqOf S (.v (.lst [D.str l.text, .str r.text]))).bind strsOf = some [l.text, r.text] := strsOf_map [l.text, r.text]
      simp only [mtJoin, this]
      rw [if_pos sz]
    refine mDefV_rt0 ?_
    simp only [List.map_cons, List.map_nil, List.filter, List.map] at lc
    simp only [T.d, m_text, srcAny, wipeM, List.map_cons, List.map_nil, List.length_cons, List.length_nil, List.replicate, List.cons_append, List.nil_append, mSeq_eq, mIfS_eq, mtTru_eq, mCall_eq, mCons_eq, mVar_eq, mC_eq, mNil_eq, List.getElem?_cons_zero, Out.bind_ok, isi_tup_str, truM_bl, thenS_ok, mSkip_eq, mRet_eq, mBin_eq, mMeth_eq, tyOk_str, if_true, mPop_eq, mLc_eq, List.set_cons_succ, List.set_cons_zero, lc, jn, opAdd_str a1, opAdd_str a2]
    congr 3
    refine str_ext ?_
    rw [join2]
    simp [T.text, cps_app]
end Q

namespace Q
open PySem hiding Env
open L2 M
noncomputable def m_is_word : MS :=
  (mSeq (mIfS (mtOr (mtNot (mtTru (mCall biIsi (mCons (mVar 0) (mCons (mC (.ty "str")) mNil))))) (mtNot (mtB (mChain opLe opLe (mC (.int 1)) (mCall biLen (mCons (mVar 0) mNil)) (mC (.int 8)))))) (mRet (mC (.bl false))) mSkip)
  (mRet (mCall biAll (mCons (mPop (mLc (srcAny (mVar 0)) [1] (tgN 1) mtYes (mBin opIn (mVar 1) (mC (.str "abcdefghijklmnopqrstuvwxyz"))))) mNil))))
noncomputable def M_is_word : List R → Store → Out R := mDefV 2 (m_is_word)
noncomputable def m_is_tree (g_is_tree : List R → Store → Out R) (g_is_word : List R → Store → Out R) : MS :=
  (mSeq (mIfS (mtTru (mCall biIsi (mCons (mVar 0) (mCons (mC (.ty "tuple")) mNil)))) (mRet (mAnd (mBin opEq (mCall biLen (mCons (mVar 0) mNil)) (mC (.int 2))) (mAnd (mCall g_is_tree (mCons (mBin opIx (mVar 0) (mC (.int 0))) mNil)) (mCall g_is_tree (mCons (mBin opIx (mVar 0) (mC (.int 1))) mNil))))) mSkip)
  (mRet (mCall g_is_word (mCons (mVar 0) mNil))))
noncomputable def R_is_tree : Nat → List R → Store → Out R
  | 0 => fun _ _ => .no
  | k + 1 => mDefV 1 (m_is_tree (R_is_tree k) M_is_word)
noncomputable def m_text_of (g_text_of : List R → Store → Out R) : MS :=
  (mSeq (mIfS (mtTru (mCall biIsi (mCons (mVar 0) (mCons (mC (.ty "tuple")) mNil)))) (mRet (mBin opAdd (mBin opAdd (mBin opAdd (mBin opAdd (mC (.str "(")) (mCall g_text_of (mCons (mBin opIx (mVar 0) (mC (.int 0))) mNil))) (mC (.str ","))) (mCall g_text_of (mCons (mBin opIx (mVar 0) (mC (.int 1))) mNil))) (mC (.str ")")))) mSkip)
  (mRet (mVar 0)))
noncomputable def R_text_of : Nat → List R → Store → Out R
  | 0 => fun _ _ => .no
  | k + 1 => mDefV 1 (m_text_of (R_text_of k))
end Q
namespace Q
open PySem hiding Env
open L2 M
theorem isi_str (d : D) (h : notTy d = true) (S : Store) : biIsi [.v d, .v (.ty "str")] S = .ok (.v (.bl (isStr d))) S := by
  cases d <;> first | (simp [biIsi, tyName, tyD, kb_ss, kb_ts, kb_is, kb_bs, kb_ns, kb_ls, kb_ds, isStr]; done) | cases h
theorem isi_tuple (d : D) (h : notTy d = true) (S : Store) : biIsi [.v d, .v (.ty "tuple")] S = .ok (.v (.bl (isTup d))) S := by
  cases d <;> first | (simp [biIsi, tyName, tyD, kb_st, kb_tt, kb_it, kb_bt, kb_nt, kb_lt, kb_dt, isTup]; done) | cases h
def isWordS (w : Str) : Bool := decide (1 ≤ w.length) && decide (w.length ≤ 8) && w.cps.toList.all fun c => decide (97 ≤ c) && decide (c ≤ 122)
def isWord : D → Bool
  | .str w => isWordS w
  | _ => false
theorem isWordS_good {w : Str} (h : GoodW w) : isWordS w = true := by
  obtain ⟨h1, h2, h3⟩ := h
  simp only [isWordS, Bool.and_eq_true, decide_eq_true_eq, List.all_eq_true]
  exact ⟨⟨h1, h2⟩, fun c hc => h3 c hc⟩
theorem letters_in (c : Nat) : decide (c ∈ (Str.ofString "abcdefghijklmnopqrstuvwxyz").cps.toList) = (decide (97 ≤ c) && decide (c ≤ 122)) := by
  have e : (Str.ofString "abcdefghijklmnopqrstuvwxyz").cps.toList = (List.range 26).map (97 + ·) := by decide +kernel
  rw [e]
  apply Bool.eq_iff_iff.mpr
  simp only [decide_eq_true_eq, Bool.and_eq_true, List.mem_map, List.mem_range]
  constructor
  · rintro ⟨a, h, rfl⟩; omega
  · rintro ⟨h1, h2⟩; exact ⟨c - 97, by omega, by omega⟩
def szStr : D → Prop
  | .str w => w.length ≤ 16777216
  | .ty _ => False
  | .txt => False
  | .kt _ => False
  | _ => True
theorem is_word_spec (d : D) (h : szStr d) (S : Store) : M_is_word [.v d] S = .ok (.v (.bl (isWord d))) S := by
  have hty : notTy d = true := by cases d <;> first | rfl | cases h
  by_cases hs : isStr d = true
  · obtain ⟨w, rfl⟩ : ∃ w, d = .str w := by cases d <;> first | exact ⟨_, rfl⟩ | (cases hs; done) | exact h.elim
    have hw : w.length ≤ sizeLine := sz_of h
    by_cases hc : (1 : Int) ≤ (w.length : Int) ∧ (w.length : Int) ≤ 8
    · have lc := lc_map (S := S) (t := tgN 1) (c := mtYes) (f := mBin opIn (mVar 1) (mC (.str "abcdefghijklmnopqrstuvwxyz"))) (m := [some (.v (.str w)), none]) (fun c : Nat => .v (.str ⟨#[c]⟩)) (fun _ => true) (fun c => .bl (decide (97 ≤ c) && decide (c ≤ 122))) w.cps.toList (sz_of (by rw [Array.length_toList, ← str_len]; exact h)) (by
        intro x hx acc
        exact ⟨_, rfl, rfl, fun _ => by simp only [mBin_eq, mVar_eq, mC_eq, List.set_cons_succ, List.set_cons_zero, List.getElem?_cons_succ, List.getElem?_cons_zero, Out.bind_ok, opIn_sign, letters_in]⟩)
      refine mDefV_rt0 ?_
      rw [List.filter_eq_self.mpr (by simp)] at lc
      have e : (w.cps.toList.map fun c => D.bl (decide (97 ≤ c) && decide (c ≤ 122))) = (w.cps.toList.map fun c => (decide (97 ≤ c) && decide (c ≤ 122))).map D.bl := by rw [List.map_map]; rfl
      rw [e] at lc
      simp only [m_is_word, srcAny, chars, wipeM, List.map_cons, List.map_nil, List.length_cons, List.length_nil, List.replicate, List.cons_append, List.nil_append, mSeq_eq, mIfS_eq, mtOr_eq, mtNot_eq, mtB_eq, mChain_eq, mtTru_eq, mCall_eq, mCons_eq, mVar_eq, mC_eq, mNil_eq, List.getElem?_cons_zero, Out.bind_ok, isi_str_str, truM_bl, thenS_ok, mSkip_eq, mRet_eq, mBin_eq, Bool.not_true, biLen_str hw, opCmpI_int, onBl_bl, hc.1, hc.2, decide_true, mPop_eq, mLc_eq, List.set_cons_succ, List.set_cons_zero, lc, biAll_lst]
      congr 3
      simp only [isWord, isWordS]
      rw [decide_eq_true (show 1 ≤ w.length by omega), decide_eq_true (show w.length ≤ 8 by omega), List.all_map]
      rfl
    · have hf : isWordS w = false := by
        simp only [isWordS, Bool.and_eq_false_iff, decide_eq_false_iff_not]
        exact .inl (by omega)
      refine mDefV_rt0 ?_
      by_cases h1 : (1 : Int) ≤ (w.length : Int)
      · have h2 : ¬ (w.length : Int) ≤ 8 := fun h2 => hc ⟨h1, h2⟩
        simp [m_is_word, biLen_str hw, isWord, hf, h1, h2]
      · simp [m_is_word, biLen_str hw, isWord, hf, h1]
  · have hs : isStr d = false := by simpa using hs
    have hw : isWord d = false := by cases d <;> first | rfl | cases hs
    refine mDefV_rt0 ?_
    simp [m_is_word, isi_str d hty, hs, hw]
/-- what is_tree tells of data so many deep -/
def isTreeN : Nat → D → Bool
  | 0, _ => false
  | k + 1, .tup [a, b] => isTreeN k a && isTreeN k b
  | _ + 1, .tup _ => false
  | _ + 1, d => isWord d
def Shal : Nat → D → Prop
  | 0, _ => False
  | k + 1, .tup [a, b] => Shal k a ∧ Shal k b
  | _ + 1, d => szStr d
theorem is_tree_spec : ∀ (k : Nat) (d : D) (S : Store), Shal k d → R_is_tree k [.v d] S = .ok (.v (.bl (isTreeN k d))) S
  | 0, d, S, h => h.elim
  | k + 1, d, S, h => by
    refine mDefV_rt0 ?_
    by_cases ht : isTup d = true
    · obtain ⟨ds, rfl⟩ : ∃ w, d = .tup w := by cases d <;> first | exact ⟨_, rfl⟩ | cases ht
      by_cases hl : ds.length = 2
      · obtain ⟨a, b, rfl⟩ : ∃ a b, ds = [a, b] := by
          match ds, hl with
          | [a, b], _ => exact ⟨a, b, rfl⟩
        obtain ⟨h1, h2⟩ : Shal k a ∧ Shal k b := h
        have e1 := is_tree_spec k a S h1
        have e2 := is_tree_spec k b S h2
        have i0 : opIx (.v (.tup [a, b])) (.v (.int 0)) S = .ok (.v a) S := opIx_tup (atI_0 _ _)
        have i1 : opIx (.v (.tup [a, b])) (.v (.int 1)) S = .ok (.v b) S := opIx_tup (atI_1 _ _ _)
        cases hq : isTreeN k a <;> simp [m_is_tree, i0, i1, e1, e2, isTreeN, hq]
      · have hf : isTreeN (k + 1) (.tup ds) = false := by
          match ds, hl with
          | [], _ => rfl
          | [_], _ => rfl
          | _ :: _ :: _ :: _, _ => rfl
        have hl' : ¬ (ds.length : Int) = 2 := by omega
        have hb : ((ds.length : Int) == 2) = false := by simp [hl']
        simp [m_is_tree, hf, hb]
    · have ht' : isTup d = false := by simpa using ht
      have hd : szStr d := by cases d <;> first | exact h | cases ht'
      have hty : notTy d = true := by cases d <;> first | rfl | cases hd
      have hw := is_word_spec d hd S
      have hf : isTreeN (k + 1) d = isWord d := by cases d <;> first | rfl | cases ht'
      rw [hf]
      simp [m_is_tree, isi_tuple d hty, ht', hw]
theorem shal_T : ∀ (k : Nat) (t : T), t.depth < k → t.Ok → Shal k t.d
  | 0, t, h, _ => by omega
  | k + 1, .leaf w, h, ho => by
    have := (ho w (by simp [T.ls])).2.1
    show w.length ≤ _
    omega
  | k + 1, .node l r, h, ho => by
    simp only [T.depth] at h
    exact ⟨shal_T k l (by omega) ho.l, shal_T k r (by omega) ho.r⟩
theorem isTree_T : ∀ (k : Nat) (t : T), t.depth < k → t.Ok → isTreeN k t.d = true
  | 0, t, h, _ => by omega
  | k + 1, .leaf w, h, ho => isWordS_good (ho w (by simp [T.ls]))
  | k + 1, .node l r, h, ho => by
    simp only [T.depth] at h
    show (isTreeN k l.d && isTreeN k r.d) = true
    rw [isTree_T k l (by omega) ho.l, isTree_T k r (by omega) ho.r]; rfl
theorem is_tree_T {t : T} {k : Nat} (h : t.depth < k) (ho : t.Ok) (S : Store) : R_is_tree k [.v t.d] S = .ok (.v (.bl true)) S := by
  rw [is_tree_spec k t.d S (shal_T k t h ho), isTree_T k t h ho]
theorem text_of_spec : ∀ (k : Nat) (t : T) (S : Store), t.depth < k → t.Ok → t.ls.length ≤ 100000 → R_text_of k [.v t.d] S = .ok (.v (.str t.text)) S
  | 0, t, S, h, _, _ => by omega
  | k + 1, .leaf w, S, h, _, _ => by
    refine mDefV_rt0 ?_
    simp [m_text_of, T.d, T.text]
  | k + 1, .node l r, S, h, ht, hz => by
    simp only [T.depth] at h
    simp only [T.ls, List.length_append] at hz
    have t1 := T.text_len l ht.l
    have t2 := T.text_len r ht.r
    have e1 := text_of_spec k l S (by omega) ht.l (by omega)
    have e2 := text_of_spec k r S (by omega) ht.r (by omega)
    have e3 : (Str.ofString "(").length = 1 := by decide +kernel
    have e4 : (Str.ofString ",").length = 1 := by decide +kernel
    have e5 : (Str.ofString ")").length = 1 := by decide +kernel
    have a1 : (Str.ofString "(").length + l.text.length ≤ sizeLine := sz_of (by omega)
    have a2 : (Str.ofString "(" ++ l.text).length + (Str.ofString ",").length ≤ sizeLine := sz_of (by simp only [str_len_append]; omega)
    have a3 : (Str.ofString "(" ++ l.text ++ Str.ofString ",").length + r.text.length ≤ sizeLine := sz_of (by simp only [str_len_append]; omega)
    have a4 : (Str.ofString "(" ++ l.text ++ Str.ofString "," ++ r.text).length + (Str.ofString ")").length ≤ sizeLine := sz_of (by simp only [str_len_append]; omega)
    have i1 : opIx (.v (.tup [l.d, r.d])) (.v (.int 0)) S = .ok (.v l.d) S := opIx_tup (atI_0 _ _)
    have i2 : opIx (.v (.tup [l.d, r.d])) (.v (.int 1)) S = .ok (.v r.d) S := opIx_tup (atI_1 _ _ _)
    refine mDefV_rt0 ?_
    simp [m_text_of, T.d, T.text, i1, i2, e1, e2, opAdd_str a1, opAdd_str a2, opAdd_str a3, opAdd_str a4]
theorem flat_leaf : ∀ row : List Str, (row.map T.leaf).flatMap T.ls = row
  | [] => rfl
  | w :: r => by simp [T.ls, flat_leaf r]
end Q

namespace Q
open PySem hiding Env
open L2 M
noncomputable def m_put_nodes (g_put_nodes : List R → Store → Out R) : MS :=
  (mSeq (mIfS (mtTru (mCall biIsi (mCons (mVar 0) (mCons (mC (.ty "tuple")) mNil)))) (mSeq (mSet 2 (mCall g_put_nodes (mCons (mBin opIx (mVar 0) (mC (.int 0))) (mCons (mVar 1) mNil))))
  (mDrop (mMeth "list" mtAppend (mVar 1) (mCons (mTup (mCons (mVar 2) (mCons (mCall g_put_nodes (mCons (mBin opIx (mVar 0) (mC (.int 1))) (mCons (mVar 1) mNil))) mNil))) mNil)))) (mDrop (mMeth "list" mtAppend (mVar 1) (mCons (mVar 0) mNil))))
  (mRet (mBin opSub (mCall biLen (mCons (mVar 1) mNil)) (mC (.int 1)))))
noncomputable def R_put_nodes : Nat → List R → Store → Out R
  | 0 => fun _ _ => .no
  | k + 1 => mDefV 3 (m_put_nodes (R_put_nodes k))
noncomputable def m_nodes (g_put_nodes : List R → Store → Out R) : MS :=
  (mSeq (mSet 1 (mLst mNil))
  (mSeq (mDrop (mCall g_put_nodes (mCons (mVar 0) (mCons (mVar 1) mNil))))
  (mRet (mCall biTuple (mCons (mVar 1) mNil)))))
noncomputable def M_nodes : List R → Store → Out R := mDefV 2 (m_nodes (R_put_nodes 70))
noncomputable def m_leaves (g_nodes : List R → Store → Out R) : MS :=
  (mRet (mCall biTuple (mCons (mPop (mLc (srcAny (mCall g_nodes (mCons (mVar 0) mNil))) [1] (tgN 1) (mtTru (mCall biIsi (mCons (mVar 1) (mCons (mC (.ty "str")) mNil)))) (mVar 1))) mNil)))
noncomputable def M_leaves : List R → Store → Out R := mDefV 2 (m_leaves M_nodes)
noncomputable def m_leaves_2 (g_leaves_2 : List R → Store → Out R) : MS :=
  (mSeq (mIfS (mtTru (mCall biIsi (mCons (mVar 0) (mCons (mC (.ty "str")) mNil)))) (mRet (mLstV (mCons (mVar 0) mNil))) mSkip)
  (mRet (mBin opAdd (mCall g_leaves_2 (mCons (mBin opIx (mVar 0) (mC (.int 0))) mNil)) (mCall g_leaves_2 (mCons (mBin opIx (mVar 0) (mC (.int 1))) mNil)))))
noncomputable def R_leaves_2 : Nat → List R → Store → Out R
  | 0 => fun _ _ => .no
  | k + 1 => mDefV 1 (m_leaves_2 (R_leaves_2 k))
end Q
namespace M
open PySem hiding Env
open L2
def T.cnt : T → Nat
  | .leaf _ => 1
  | .node l r => l.cnt + r.cnt + 1
theorem T.cnt_ls : ∀ t : T, t.cnt + 1 = 2 * t.ls.length
  | .leaf w => rfl
  | .node l r => by
    have h1 := T.cnt_ls l
    have h2 := T.cnt_ls r
    simp only [T.cnt, T.ls, List.length_append]; omega
theorem T.cnt_pos (t : T) : 0 < t.cnt := by have := t.cnt_ls; have := t.ls_pos; omega
/-- the nodes of a tree whose first has the number k -/
def T.nodesFrom : Nat → T → List D
  | _, .leaf w => [.str w]
  | k, .node l r => T.nodesFrom k l ++ T.nodesFrom (k + l.cnt) r ++ [.tup [.int ((k + l.cnt - 1 : Nat) : Int), .int ((k + l.cnt + r.cnt - 1 : Nat) : Int)]]
def T.nodes (t : T) : List D := T.nodesFrom 0 t
theorem T.nodesFrom_len : ∀ (t : T) (k : Nat), (T.nodesFrom k t).length = t.cnt
  | .leaf w, k => rfl
  | .node l r, k => by simp only [T.nodesFrom, List.length_append, T.nodesFrom_len l, T.nodesFrom_len r, T.cnt, List.length_cons, List.length_nil]
theorem T.nodes_len (t : T) : t.nodes.length = t.cnt := t.nodesFrom_len 0
end M
namespace Q
open PySem hiding Env
open L2 M
theorem T_leaves_nodes : ∀ (t : T) (k : Nat), (T.nodesFrom k t).filter isStr = t.ls.map D.str
  | .leaf w, k => rfl
  | .node l r, k => by
    simp only [T.nodesFrom, T.ls, List.filter_append, T_leaves_nodes l, T_leaves_nodes r, List.map_append]
    simp [isStr]
theorem put_nodes_spec : ∀ (k : Nat) (t : T) (S : Store) (n : Nat) (xs : List D), t.depth < k → S[n]? = some (.lst (xs.map .v)) → xs.length + 2 * t.ls.length ≤ 10000000 →
    R_put_nodes k [.v t.d, .ref n] S = .ok (.v (.int ((xs.length + t.cnt - 1 : Nat) : Int))) (S.set n (.lst ((xs ++ T.nodesFrom xs.length t).map .v)))
  | 0, t, S, n, xs, h, _, _ => by omega
  | k + 1, .leaf w, S, n, xs, h, e, hz => by
    have hl : (xs.map R.v).length < sizeLine := sz_lt (by simp; omega)
    have e2 := get_set e (.lst ((xs ++ [D.str w]).map .v))
    refine mDefV_rtU (T := S.set n (.lst ((xs ++ [D.str w]).map .v))) ?_ (upd_set n (lo_lst _ _))
    have e3 : mtAppend (.ref n) [.v (.str w)] S = .ok (.v .non) (S.set n (.lst ((xs ++ [D.str w]).map .v))) := by rw [mtAppend_ref e hl, List.map_append]; rfl
    simp only [m_put_nodes, T.d, List.map_cons, List.map_nil, List.length_cons, List.length_nil, List.replicate, List.cons_append, List.nil_append, Nat.reduceAdd, Nat.reduceSub, mSeq_eq, mIfS_eq, mtTru_eq, mCall_eq, mCons_eq, mVar_eq, mC_eq, mNil_eq, List.getElem?_cons_zero, List.getElem?_cons_succ, Out.bind_ok, isi_str_tup, truM_bl, thenS_ok, mDrop_eq, mMeth_eq, tyOk_lst e, if_true, e3, mRet_eq, mBin_eq, biLen_ref e2, opSub_int]
    congr 3
    simp [T.cnt]
  | k + 1, .node l r, S, n, xs, h, e, hz => by
    simp only [T.depth] at h
    simp only [T.ls, List.length_append] at hz
    have c1 := l.cnt_ls
    have c2 := r.cnt_ls
    have p1 := l.cnt_pos
    have p2 := r.cnt_pos
    have e1 := put_nodes_spec k l S n xs (by omega) e (by omega)
    have l1 : (xs ++ T.nodesFrom xs.length l).length = xs.length + l.cnt := by rw [List.length_append, T.nodesFrom_len]
    have e2 := put_nodes_spec k r (S.set n (.lst ((xs ++ T.nodesFrom xs.length l).map .v))) n (xs ++ T.nodesFrom xs.length l) (by omega) (get_set e _) (by rw [l1]; omega)
    rw [l1, List.set_set] at e2
    have e3 := get_set e (.lst ((xs ++ T.nodesFrom xs.length l ++ T.nodesFrom (xs.length + l.cnt) r).map .v))
    have hl : ((xs ++ T.nodesFrom xs.length l ++ T.nodesFrom (xs.length + l.cnt) r).map R.v).length < sizeLine := sz_lt (by simp only [List.length_map, List.length_append, T.nodesFrom_len]; omega)
    let last : D := .tup [.int ((xs.length + l.cnt - 1 : Nat) : Int), .int ((xs.length + l.cnt + r.cnt - 1 : Nat) : Int)]
    have hfin : xs ++ T.nodesFrom xs.length (.node l r) = xs ++ T.nodesFrom xs.length l ++ T.nodesFrom (xs.length + l.cnt) r ++ [last] := by simp [T.nodesFrom, last]
    have e4 : mtAppend (.ref n) [.v last] (S.set n (.lst ((xs ++ T.nodesFrom xs.length l ++ T.nodesFrom (xs.length + l.cnt) r).map .v))) = .ok (.v .non) (S.set n (.lst ((xs ++ T.nodesFrom xs.length (.node l r)).map .v))) := by
      rw [mtAppend_ref e3 hl, List.set_set, hfin]; simp
    have e5 := get_set e (.lst ((xs ++ T.nodesFrom xs.length (.node l r)).map .v))
    have i0 : ∀ S, opIx (.v (.tup [l.d, r.d])) (.v (.int 0)) S = .ok (.v l.d) S := fun S => opIx_tup (atI_0 _ _)
    have i1 : ∀ S, opIx (.v (.tup [l.d, r.d])) (.v (.int 1)) S = .ok (.v r.d) S := fun S => opIx_tup (atI_1 _ _ _)
    refine mDefV_rtU ?_ (upd_set n (lo_lst _ _))
    simp only [m_put_nodes, T.d, List.map_cons, List.map_nil, List.length_cons, List.length_nil, List.replicate, List.cons_append, List.nil_append, Nat.reduceAdd, Nat.reduceSub, mSeq_eq, mIfS_eq, mtTru_eq, mCall_eq, mCons_eq, mVar_eq, mC_eq, mNil_eq, List.getElem?_cons_zero, List.getElem?_cons_succ, Out.bind_ok, isi_tup_tup, truM_bl, thenS_ok, mSet_eq, mBin_eq, i0, e1, List.set_cons_succ, List.set_cons_zero, mDrop_eq, mMeth_eq, tyOk_lst (get_set e _), if_true, mTup_eq, i1, e2, frzO_2, Nat.zero_add, sz2]
    have e4' := e4
    simp only [last, List.map_append] at e4'
    simp only [List.map_append, e4', thenS_ok, mRet_eq, mBin_eq, mCall_eq, mCons_eq, mVar_eq, mNil_eq, mC_eq, List.getElem?_cons_zero, List.getElem?_cons_succ, Out.bind_ok, List.set_cons_succ, List.set_cons_zero]
    rw [← List.map_append, biLen_ref e5]
    simp only [Out.bind_ok, opSub_int, thenS_ok]
    congr 3
    simp only [List.length_map, List.length_append, T.nodesFrom_len, T.cnt]
    omega
theorem nodes_spec {t : T} {S : Store} (hd : t.depth < 70) (hz : t.ls.length ≤ 1000000) : M_nodes [.v t.d] S = .ok (.v (.tup t.nodes)) S := by
  have e1 := put_nodes_spec 70 t (S ++ [.lst []]) S.length [] hd (get_len S _ []) (by simp; omega)
  rw [set_len, List.nil_append] at e1
  have e2 := get_len S (.lst ((T.nodesFrom 0 t).map .v)) []
  refine mDefV_rtG [.lst ((T.nodesFrom 0 t).map .v)] ?_ (.refl S)
  simp only [m_nodes, List.map_cons, List.map_nil, List.length_cons, List.length_nil, List.replicate, List.cons_append, List.nil_append, Nat.reduceAdd, Nat.reduceSub, mSeq_eq, mSet_eq, mLst_eq, mNil_eq, Out.bind_ok, Nat.zero_le, sz0, if_true, thenS_ok, List.set_cons_succ, List.set_cons_zero, mDrop_eq, mCall_eq, mCons_eq, mVar_eq, List.getElem?_cons_zero, List.getElem?_cons_succ, e1, mRet_eq, biTuple_ref e2]
  rfl
theorem leaves_spec {t : T} {S : Store} (hd : t.depth < 70) (hz : t.ls.length ≤ 1000000) : M_leaves [.v t.d] S = .ok (.v (.tup (t.ls.map D.str))) S := by
  have e1 := nodes_spec (S := S) hd hz
  have c := t.cnt_ls
  have nty : ∀ x ∈ t.nodes, notTy x = true := by
    have : ∀ (u : T) (k : Nat), ∀ x ∈ T.nodesFrom k u, notTy x = true := by
      intro u
      induction u with
      | leaf w => intro k x hx; simp only [T.nodesFrom, List.mem_singleton] at hx; subst hx; rfl
      | node l r h1 h2 =>
        intro k x hx
        simp only [T.nodesFrom, List.mem_append, List.mem_singleton] at hx
        rcases hx with (hx | hx) | rfl
        · exact h1 _ x hx
        · exact h2 _ x hx
        · rfl
    exact this t 0
  have lc := lc_map (S := S) (t := tgN 1) (c := mtTru (mCall biIsi (mCons (mVar 1) (mCons (mC (.ty "str")) mNil)))) (f := mVar 1) (m := [some (.v t.d), none]) (fun d : D => .v d) isStr (fun d => d) t.nodes (sz_of (by rw [T.nodes_len]; omega)) (by
    intro x hx acc
    refine ⟨_, rfl, ?_, fun _ => rfl⟩
    simp only [mtTru_eq, mCall_eq, mCons_eq, mVar_eq, mC_eq, mNil_eq, List.set_cons_succ, List.set_cons_zero, List.getElem?_cons_succ, List.getElem?_cons_zero, Out.bind_ok, isi_str x (nty x hx), truM_bl])
  refine mDefV_rt0 ?_
  have hf : (t.nodes.filter isStr).map (fun d => d) = t.ls.map D.str := by rw [List.map_id']; exact T_leaves_nodes t 0
  rw [hf] at lc
  simp only [m_leaves, srcAny, wipeM, List.map_cons, List.map_nil, List.length_cons, List.length_nil, List.replicate, List.cons_append, List.nil_append, Nat.reduceAdd, Nat.reduceSub, mRet_eq, mCall_eq, mCons_eq, mNil_eq, mPop_eq, mLc_eq, mVar_eq, List.getElem?_cons_zero, Out.bind_ok, e1, List.foldl_cons, List.foldl_nil, List.set_cons_succ, List.set_cons_zero, lc, biTuple_lst, thenS_ok]
theorem leaves_2_spec : ∀ (k : Nat) (t : T) (S : Store), t.depth < k → t.ls.length ≤ 1000000 → R_leaves_2 k [.v t.d] S = .ok (.v (.lst (t.ls.map D.str))) S
  | 0, t, S, h, _ => by omega
  | k + 1, .leaf w, S, h, _ => by
    refine mDefV_rt0 ?_
    simp [m_leaves_2, T.d, T.ls]
  | k + 1, .node l r, S, h, hz => by
    simp only [T.depth] at h
    simp only [T.ls, List.length_append] at hz
    have e1 := leaves_2_spec k l S (by omega) (by omega)
    have e2 := leaves_2_spec k r S (by omega) (by omega)
    have i0 : opIx (.v (.tup [l.d, r.d])) (.v (.int 0)) S = .ok (.v l.d) S := opIx_tup (atI_0 _ _)
    have i1 : opIx (.v (.tup [l.d, r.d])) (.v (.int 1)) S = .ok (.v r.d) S := opIx_tup (atI_1 _ _ _)
    have ad := opAdd_lst (S := S) (x := l.ls.map D.str) (y := r.ls.map D.str) (sz_of (by simp; omega))
    have hx : ((l.ls.map D.str).map R.v ++ (r.ls.map D.str).map R.v) = ((T.node l r).ls.map D.str).map R.v := by simp [T.ls]
    rw [hx] at ad
    refine mDefV_rtL (n := S.length) (xs := (T.node l r).ls.map D.str) [.lst (((T.node l r).ls.map D.str).map .v)] ?_ (get_len _ _ _) (Nat.le_refl _) (.refl S)
    simp only [T.d, m_leaves_2, List.map_cons, List.map_nil, List.length_cons, List.length_nil, List.replicate, List.cons_append, List.nil_append, mSeq_eq, mIfS_eq, mtTru_eq, mCall_eq, mCons_eq, mVar_eq, mC_eq, mNil_eq, List.getElem?_cons_zero, Out.bind_ok, isi_tup_str, truM_bl, thenS_ok, mSkip_eq, mRet_eq, mBin_eq, i0, e1, i1, e2, ad]
/-- n draws of words -/
theorem draws_spec {S0 S : Store} (hS0 : Upd S0 S) {n i n' : Nat} {h : Hnd} {few : List Str} {cnt : Int} {m : Env} {j : Nat} (e : S[n]? = some h.c) {q : Int} (hl : few.length = q.toNat) (hq : 0 < q) (hq2 : q ≤ 100000) (c0 : 0 ≤ cnt) (c1 : cnt ≤ 100000)
    (hm : ∀ d : R, (m.set j (some d))[i]? = some (some (.v (.lst (few.map D.str))))) (hn : ∀ d : R, (m.set j (some d))[n']? = some (some (.ref n))) :
    ∃ (h' : Hnd) (row : List Str), (mLcGo [] (tgN j) mtYes (mBin opIx (mVar i) (mCall M_take (mCons (mVar n') (mCons (mC (.int q)) mNil)))) S.length m (rangeD 0 cnt.toNat) (S ++ [.lst []])).bind (fun r S' => popV S0 r S') = .ok (.v (.lst (row.map D.str))) (S.set n h'.c) ∧ (row.length : Int) = cnt ∧ ∀ x ∈ row, x ∈ few := by
  obtain ⟨ys, T, e1, ⟨h', row, rfl, rfl, hr, hmem⟩, hlen⟩ := lc_st (S0 := S0) (S := S) (t := tgN j) (f := mBin opIx (mVar i) (mCall M_take (mCons (mVar n') (mCons (mC (.int q)) mNil)))) (m := m) (fun k : Nat => R.v (.int (0 + (k : Int)))) (List.range cnt.toNat)
    (fun k ys T => ∃ (g : Hnd) (row : List Str), T = S.set n g.c ∧ ys = row.map D.str ∧ row.length = k ∧ ∀ x ∈ row, x ∈ few) (sz_of (by simp; omega)) ⟨h, [], (set_get e).symm, rfl, rfl, by simp⟩
    (by rintro k ys T ⟨g, row, rfl, _⟩; exact hS0.set (g.lo _)) (by
      rintro k x ys T hx ⟨g, row, rfl, rfl, hr, hmem⟩
      obtain ⟨a, g2, e2, a0, a1⟩ := take_spec (k := q) (get_old (get_set e g.c) [.lst ((row.map D.str).map .v)]) hq (by omega)
      rw [set_old (get_set e g.c), List.set_set] at e2
      have ia : atI (few.map D.str) a = some (.str few[a.toNat]) := by rw [atI_map, atI_lt a0, List.getElem?_eq_getElem (by omega)]; rfl
      refine ⟨_, rfl, .str few[a.toNat], S.set n g2.c, ?_, g2, row ++ [few[a.toNat]], rfl, by simp, by simp [hr], fun y hy => ?_⟩
      · simp only [mBin_eq, mVar_eq, hm, hn, Out.bind_ok, mCall_eq, mCons_eq, mNil_eq, mC_eq, e2, opIx_lst ia]
      · rcases List.mem_append.mp hy with hy | hy
        · exact hmem y hy
        · simp only [List.mem_singleton] at hy
          subst hy
          exact List.getElem_mem _)
  refine ⟨h', row, ?_, ?_, hmem⟩
  · exact e1
  · simp only [List.length_range] at hr; omega
/-- ten words, cut, drawn from -/
theorem row_spec {S0 S : Store} (hS0 : Upd S0 S) {n i n' : Nat} {h : Hnd} {few : List Str} {cnt : Int} {m : Env} {j : Nat} (e : S[n]? = some h.c) (hne : few ≠ []) (hl : few.length ≤ 100000) (c0 : 0 ≤ cnt) (c1 : cnt ≤ 100000)
    (hm : ∀ d : R, (m.set j (some d))[i]? = some (some (.v (.lst (few.map D.str))))) (hn : ∀ d : R, (m.set j (some d))[n']? = some (some (.ref n))) :
    ∃ (h' : Hnd) (row : List Str), (mLcGo [] (tgN j) mtYes (mBin opIx (mVar i) (mCall M_take (mCons (mVar n') (mCons (mCall biLen (mCons (mVar i) mNil)) mNil)))) S.length m (rangeD 0 cnt.toNat) (S ++ [.lst []])).bind (fun r S' => popV S0 r S') = .ok (.v (.lst (row.map D.str))) (S.set n h'.c) ∧ (row.length : Int) = cnt ∧ ∀ x ∈ row, x ∈ few := by
  have hp : 0 < few.length := List.length_pos_iff.mpr hne
  obtain ⟨ys, T, e1, ⟨h', row, rfl, rfl, hr, hmem⟩, hlen⟩ := lc_st (S0 := S0) (S := S) (t := tgN j) (f := mBin opIx (mVar i) (mCall M_take (mCons (mVar n') (mCons (mCall biLen (mCons (mVar i) mNil)) mNil)))) (m := m) (fun k : Nat => R.v (.int (0 + (k : Int)))) (List.range cnt.toNat)
    (fun k ys T => ∃ (g : Hnd) (row : List Str), T = S.set n g.c ∧ ys = row.map D.str ∧ row.length = k ∧ ∀ x ∈ row, x ∈ few) (sz_of (by simp; omega)) ⟨h, [], (set_get e).symm, rfl, rfl, by simp⟩
    (by rintro k ys T ⟨g, row, rfl, _⟩; exact hS0.set (g.lo _)) (by
      rintro k x ys T hx ⟨g, row, rfl, rfl, hr, hmem⟩
      obtain ⟨a, g2, e2, a0, a1⟩ := take_spec (k := few.length) (get_old (get_set e g.c) [.lst ((row.map D.str).map .v)]) (by omega) (by omega)
      rw [set_old (get_set e g.c), List.set_set] at e2
      have ia : atI (few.map D.str) a = some (.str few[a.toNat]) := by rw [atI_map, atI_lt a0, List.getElem?_eq_getElem (by omega)]; rfl
      refine ⟨_, rfl, .str few[a.toNat], S.set n g2.c, ?_, g2, row ++ [few[a.toNat]], rfl, by simp, by simp [hr], fun y hy => ?_⟩
      · simp only [mBin_eq, mVar_eq, hm, hn, Out.bind_ok, mCall_eq, mCons_eq, mNil_eq, biLen_lst, List.length_map, e2, opIx_lst ia]
      · rcases List.mem_append.mp hy with hy | hy
        · exact hmem y hy
        · simp only [List.mem_singleton] at hy
          subst hy
          exact List.getElem_mem _)
  refine ⟨h', row, ?_, ?_, hmem⟩
  · exact e1
  · simp only [List.length_range] at hr; omega
end Q

namespace Q
open PySem hiding Env
open L2 M
noncomputable def m_great (g_take : List R → Store → Out R) (g_words : List R → Store → Out R) (g_joined_2 : List R → Store → Out R) : MS :=
  (mSeq (mSet 2 (mBin opAdd (mC (.int 1)) (mCall g_take (mCons (mVar 0) (mCons (mBin opIx (mLstV (mCons (mC (.int 5)) (mCons (mVar 1) mNil))) (mCall biInt (mCons (mBin opEq (mCall g_take (mCons (mVar 0) (mCons (mC (.int 8)) mNil))) (mC (.int 0))) mNil))) mNil)))))
  (mRet (mCall g_joined_2 (mCons (mVar 0) (mCons (mCall g_words (mCons (mVar 0) (mCons (mVar 2) mNil))) mNil)))))
noncomputable def M_great : List R → Store → Out R := mDefV 3 (m_great M_take M_words M_joined_2)
noncomputable def m_is_small (g_is_tree : List R → Store → Out R) (g_leaves : List R → Store → Out R) : MS :=
  (mSeq (mIfS (mtNot (mtTru (mCall g_is_tree (mCons (mVar 1) mNil)))) (mRet (mC (.bl false))) mSkip)
  (mSeq (mSet 2 (mCall g_leaves (mCons (mVar 0) mNil)))
  (mRet (mCall biAll (mCons (mPop (mLc (srcAny (mCall g_leaves (mCons (mVar 1) mNil))) [3] (tgN 3) mtYes (mBin opIn (mVar 3) (mVar 2)))) mNil)))))
noncomputable def M_is_small : List R → Store → Out R := mDefV 4 (m_is_small (R_is_tree 70) M_leaves)
noncomputable def m_small (g_take : List R → Store → Out R) (g_joined_2 : List R → Store → Out R) : MS :=
  (mSeq (mSet 3 (mBin opAdd (mC (.int 1)) (mCall g_take (mCons (mVar 0) (mCons (mBin opIx (mLstV (mCons (mC (.int 6)) (mCons (mVar 2) mNil))) (mCall biInt (mCons (mBin opEq (mCall g_take (mCons (mVar 0) (mCons (mC (.int 8)) mNil))) (mC (.int 0))) mNil))) mNil)))))
  (mSeq (mSet 4 (mPop (mSl (mVar 1) moN (moS (mBin opAdd (mC (.int 1)) (mCall g_take (mCons (mVar 0) (mCons (mCall biLen (mCons (mVar 1) mNil)) mNil))))))))
  (mRet (mCall g_joined_2 (mCons (mVar 0) (mCons (mPop (mLc (srcRange1 (mCons (mVar 3) mNil)) [5] (tgN 5) mtYes (mBin opIx (mVar 4) (mCall g_take (mCons (mVar 0) (mCons (mCall biLen (mCons (mVar 4) mNil)) mNil)))))) mNil))))))
noncomputable def M_small : List R → Store → Out R := mDefV 6 (m_small M_take M_joined_2)
end Q
namespace M
open PySem PySem.Spec L2
open PyProof.Rows hiding St
theorem pyS_tstrs {ns : List Str} (ok : ∀ x ∈ ns, strOkB x = true) : D.pyS (.tup (ns.map D.str)) = some (.tuple (ns.map PyData.str)) := by
  have h := lay_strs ns ok
  unfold D.pyS
  rw [show D.py (.tup (ns.map D.str)) = some (.tuple (ns.map PyData.str)) by simp [D.py, pys_strs]]
  simp [SeqAt.shaped, PyData.canLay0, PyData.depth, h.1, h.2]
theorem any_strs (w : Str) : ∀ ws : List Str, ((ws.map PyData.str).any fun z => PyData.eqv z (.str w)) = decide (w ∈ ws)
  | [] => rfl
  | x :: ws => by
    rw [List.map_cons, List.any_cons, any_strs w ws]
    have : PyData.eqv (.str x) (.str w) = decide (x = w) := by
      rw [PyData.eqv]
      by_cases h : x = w
      · subst h; simp
      · simp [h]
    rw [this]
    by_cases h : x = w
    · subst h; simp
    · have h' : ¬ w = x := fun e => h e.symm
      simp [h, h', List.mem_cons]
theorem opIn_strs {S : Store} {w : Str} {ws : List Str} {e : D} (he : e = .lst (ws.map D.str) ∨ e = .tup (ws.map D.str)) (hw : strOkB w = true) (ok : ∀ x ∈ ws, strOkB x = true) :
    opIn (.v (.str w)) (.v e) S = .ok (.v (.bl (decide (w ∈ ws)))) S ∧ opNotIn (.v (.str w)) (.v e) S = .ok (.v (.bl (!decide (w ∈ ws)))) S := by
  have key : inM S (.v (.str w)) (.v e) = some (decide (w ∈ ws)) := by
    have h1 : D.pyS (.str w) = some (.str w) := pyS_str hw
    rcases he with rfl | rfl
    · have h2 := pyS_lstrs ok
      simp only [inM, pyOf_v, h1, h2, Option.bind_some, seqPy, any_strs]
    · have h2 := pyS_tstrs ok
      simp only [inM, pyOf_v, h1, h2, Option.bind_some, seqPy, any_strs]
  exact ⟨by unfold opIn; rw [key], by unfold opNotIn; rw [key]⟩
theorem opEq_lstrs {S : Store} {xs ys : List Str} (ok1 : ∀ x ∈ xs, strOkB x = true) (ok2 : ∀ x ∈ ys, strOkB x = true) : opEq (.v (.lst (xs.map D.str))) (.v (.lst (ys.map D.str))) S = .ok (.v (.bl (decide (xs = ys)))) S := by
  rw [opEq_py (pyS_lstrs ok1) (pyS_lstrs ok2)]
  congr 3
  rw [PyData.eqv, eqv_strs]
theorem cutS_cps (z : Str) (lo hi : Option Int) : (cutS z lo hi).cps.toList = cutD z.cps.toList lo hi := by
  unfold cutS cutD
  rw [show z.cps.toList.length = z.length from Array.length_toList]
theorem popV_dct0 (S : Store) : popV S (.ref S.length) (S ++ [.dK []]) = .ok (.v (.dct [] [])) S := by
  have : frz 8 (S ++ [MO.dK []]) (.ref S.length) = some (.dct [] [], (S ++ [MO.dK []]).set S.length (.fz (.dct [] []))) := by
    unfold frz
    simp [frzA]
  unfold popV
  rw [this]
  simp only
  rw [set_len, cut_app']
/-- a comprehension over a cell -/
theorem lc_mapP {α : Type} {pins : List (Nat × MO)} {t : TgM} {c : MT} {f : ME} {m : Env} {S0 S : Store} (hu : Upd S0 S) (hp : ∀ o, pinsOk pins (S ++ [o])) (r : α → R) (p : α → Bool) (g : α → D) (xs : List α) (hz : xs.length ≤ sizeLine)
    (hs : ∀ x ∈ xs, ∀ acc : List R, ∃ m1, t (r x) m = some m1 ∧ c m1 (S ++ [.lst acc]) = .ok (p x) (S ++ [.lst acc]) ∧ (p x = true → f m1 (S ++ [.lst acc]) = .ok (.v (g x)) (S ++ [.lst acc]))) :
    (mLcGo pins t c f S.length m (xs.map r) (S ++ [.lst []])).bind (fun r S' => popV S0 r S') = .ok (.v (.lst ((xs.filter p).map g))) S := by
  have key : ∀ (xs ys : List α), ys.length + xs.length ≤ sizeLine → (∀ x ∈ xs, ∀ acc : List R, ∃ m1, t (r x) m = some m1 ∧ c m1 (S ++ [.lst acc]) = .ok (p x) (S ++ [.lst acc]) ∧ (p x = true → f m1 (S ++ [.lst acc]) = .ok (.v (g x)) (S ++ [.lst acc]))) →
      mLcGo pins t c f S.length m (xs.map r) (S ++ [.lst ((ys.map g).map .v)]) = .ok (.ref S.length) (S ++ [.lst (((ys ++ xs.filter p).map g).map .v)]) := by
    intro xs
    induction xs with
    | nil => intro ys _ _; unfold mLcGo; simp [hp]
    | cons x xs ih =>
      intro ys hl hs
      obtain ⟨m1, e1, e2, e3⟩ := hs x (by simp) ((ys.map g).map .v)
      rw [List.map_cons]
      unfold mLcGo
      rw [if_pos (hp _), e1]
      simp only [e2, Out.calm_ok, Out.bind_ok]
      rw [List.length_cons] at hl
      cases hpx : p x with
      | false =>
        simp only
        rw [ih ys (by omega) fun x hx => hs x (by simp [hx]), List.filter_cons_of_neg (by simp [hpx])]
      | true =>
        simp only [e3 hpx, Out.calm_ok, Out.bind_ok, get_len]
        rw [if_pos (by rw [List.length_map, List.length_map]; omega), set_len, List.filter_cons_of_pos hpx]
        have := ih (ys ++ [x]) (by rw [List.length_append]; simp; omega) fun x hx => hs x (by simp [hx])
        simp only [List.map_append, List.map_cons, List.map_nil, List.append_assoc, List.cons_append, List.nil_append] at this ⊢
        exact this
  have := key xs [] (by simpa using hz) hs
  simp only [List.map_nil, List.nil_append] at this
  rw [this, Out.bind_ok]
  exact popV_newU _ hu
end M
namespace Q
open PySem hiding Env
open L2 M
theorem GoodW.okB {w : Str} (h : GoodW w) : strOkB w = true := h.ok
theorem opIx_2' {a b : D} {S : Store} {c : Bool} : opIx (.v (.lst [a, b])) (.v (.int (if c = true then 1 else 0))) S = .ok (.v (if c = true then b else a)) S := by
  cases c
  · exact opIx_lst (atI_0 _ _)
  · exact opIx_lst (atI_1 _ _ _)
theorem great_spec {S : Store} {n : Nat} {h : Hnd} {q : Int} (e : S[n]? = some h.c) (q0 : 1 ≤ q) (q1 : q ≤ 26) : ∃ (h' : Hnd) (t : T), M_great [.ref n, .v (.int q)] S = .ok (.v t.d) (S.set n h'.c) ∧ t.Ok ∧ t.ls.Nodup ∧ (t.ls.length : Int) ≤ max 5 q := by
  obtain ⟨a, g1, e1, a0, a1⟩ := take_spec (k := 8) e (by decide) (by decide)
  obtain ⟨lim, hlim, l0, l1⟩ : ∃ lim : Int, (if (a == 0) = true then D.int q else .int 5) = .int lim ∧ 1 ≤ lim ∧ lim ≤ max 5 q := by
    by_cases hc : (a == 0) = true
    · exact ⟨q, by simp [hc], q0, by omega⟩
    · exact ⟨5, by simp [hc], by decide, by omega⟩
  obtain ⟨b, g2, e2, b0, b1⟩ := take_spec (k := lim) (get_set e g1.c) (by omega) (by omega)
  rw [List.set_set] at e2
  obtain ⟨g3, ws, e3, hwl, hnd, hok⟩ := words_spec (k := 1 + b) (get_set e g2.c) (by omega) (by omega)
  rw [List.set_set] at e3
  obtain ⟨g4, t, e4, ht⟩ := joined_spec (ts := ws.map T.leaf) (get_set e g3.c) (by intro h; have := congrArg List.length h; simp at this; rw [this] at hwl; simp at hwl; omega) (by simp; omega)
  rw [List.set_set] at e4
  have htl : t.ls = ws := by rw [ht]; exact flat_leaf ws
  have e4' : M_joined_2 [.ref n, .v (.lst (ws.map D.str))] (S.set n g3.c) = .ok (.v t.d) (S.set n g4.c) := by
    rw [List.map_map] at e4
    exact e4
  refine ⟨g4, t, mDefV_rtU ?_ (upd_set n (g4.lo _)), fun x hx => hok x (by rw [← htl]; exact hx), by rw [htl]; exact hnd, by rw [htl]; omega⟩
  simp only [m_great, List.map_cons, List.map_nil, List.length_cons, List.length_nil, List.replicate, List.cons_append, List.nil_append, Nat.reduceAdd, Nat.reduceSub, mSeq_eq, mSet_eq, mBin_eq, mC_eq, mCall_eq, mCons_eq, mVar_eq, mNil_eq, List.getElem?_cons_succ, List.getElem?_cons_zero, Out.bind_ok, mLstV_eq, frzO_2, Nat.zero_add, sz2, if_true, e1, opEq_int, biInt_bl, opIx_2', hlim, e2, opAdd_int, thenS_ok, List.set_cons_succ, List.set_cons_zero, mRet_eq, e3, e4']
theorem small_spec {S : Store} {n : Nat} {h : Hnd} {q : Int} {ws : List Str} (e : S[n]? = some h.c) (hne : ws ≠ []) (hl : ws.length ≤ 1000) (q0 : 1 ≤ q) (q1 : q ≤ 1000) : ∃ (h' : Hnd) (t : T), M_small [.ref n, .v (.lst (ws.map D.str)), .v (.int q)] S = .ok (.v t.d) (S.set n h'.c) ∧ (∀ x ∈ t.ls, x ∈ ws) ∧ (t.ls.length : Int) ≤ max 6 q := by
  have hp : 0 < ws.length := List.length_pos_iff.mpr hne
  obtain ⟨a, g1, e1, a0, a1⟩ := take_spec (k := 8) e (by decide) (by decide)
  obtain ⟨lim, hlim, l0, l1⟩ : ∃ lim : Int, (if (a == 0) = true then D.int q else .int 6) = .int lim ∧ 1 ≤ lim ∧ lim ≤ max 6 q := by
    by_cases hc : (a == 0) = true
    · exact ⟨q, by simp [hc], q0, by omega⟩
    · exact ⟨6, by simp [hc], by decide, by omega⟩
  obtain ⟨b, g2, e2, b0, b1⟩ := take_spec (k := lim) (get_set e g1.c) (by omega) (by omega)
  rw [List.set_set] at e2
  obtain ⟨a3, g3, e3, c0, c1⟩ := take_spec (k := (ws.length : Int)) (get_set e g2.c) (by omega) (by omega)
  rw [List.set_set] at e3
  have hfew : cutD (ws.map D.str) none (some (1 + a3)) = (ws.take (1 + a3).toNat).map D.str := by rw [cutD_take _ (by omega), List.map_take]
  generalize hf : ws.take (1 + a3).toNat = few at hfew
  have hfl : few.length = (1 + a3).toNat := by rw [← hf, List.length_take]; omega
  have hfm : ∀ x ∈ few, x ∈ ws := fun x hx => by rw [← hf] at hx; exact List.mem_of_mem_take hx
  obtain ⟨g4, row, e4, hr, hmem⟩ := row_spec (S0 := S.set n g3.c) (.refl _) (n' := 0) (i := 4) (j := 5) (S := S.set n g3.c) (n := n) (h := g3) (few := few) (cnt := 1 + b) (m := [some (.ref n), some (.v (.lst (ws.map D.str))), some (.v (.int q)), some (.v (.int (1 + b))), some (.v (.lst (few.map D.str))), none]) (get_set e g3.c) (by intro h; rw [h] at hfl; simp at hfl; omega) (by omega) (by omega) (by omega) (fun _ => rfl) (fun _ => rfl)
  rw [List.set_set] at e4
  obtain ⟨g5, t, e5, ht⟩ := joined_spec (ts := row.map T.leaf) (get_set e g4.c) (by intro h; have := congrArg List.length h; simp at this; rw [this] at hr; simp at hr; omega) (by simp; omega)
  rw [List.set_set] at e5
  have htl : t.ls = row := by rw [ht]; exact flat_leaf row
  have e5' : M_joined_2 [.ref n, .v (.lst (row.map D.str))] (S.set n g4.c) = .ok (.v t.d) (S.set n g5.c) := by
    rw [List.map_map] at e5
    exact e5
  have hu2 := upd_set (S := S.set n g2.c) n (c := g3.c) (g3.lo _)
  rw [List.set_set] at hu2
  refine ⟨g5, t, mDefV_rtU ?_ (upd_set n (g5.lo _)), fun x hx => hfm x (hmem x (by rw [← htl]; exact hx)), by rw [htl]; omega⟩
  have sl := popSl_lstU (S0 := S.set n g2.c) (S := S.set n g3.c) hu2 (ws.map D.str) none (some (1 + a3))
  rw [hfew] at sl
  simp only [m_small, List.map_cons, List.map_nil, List.length_cons, List.length_nil, List.replicate, List.cons_append, List.nil_append, Nat.reduceAdd, Nat.reduceSub, mSeq_eq, mSet_eq, mBin_eq, mC_eq, mCall_eq, mCons_eq, mVar_eq, mNil_eq, List.getElem?_cons_succ, List.getElem?_cons_zero, Out.bind_ok, mLstV_eq, frzO_2, Nat.zero_add, sz2, if_true, e1, opEq_int, biInt_bl, opIx_2', hlim, e2, opAdd_int, thenS_ok, List.set_cons_succ, List.set_cons_zero, mPop_eq, mSl_eq, moN_eq, moS_eq, biLen_lst, List.length_map, e3, sl, mRet_eq, mLc_eq, srcRange1_eq, rg1_int (show 0 ≤ 1 + b by omega) (show 1 + b < 2 ^ 62 by omega), wipeM, List.foldl_cons, List.foldl_nil, e4, e5']
theorem is_small_no {S : Store} {g d : D} (h : Shal 70 d) (hf : isTreeN 70 d = false) : M_is_small [.v g, .v d] S = .ok (.v (.bl false)) S := by
  have e1 := is_tree_spec 70 d S h
  rw [hf] at e1
  refine mDefV_rt0 ?_
  simp [m_is_small, e1]
theorem is_small_spec {S : Store} {g t : T} (hg : g.Ok) (gd : g.depth < 70) (gz : g.ls.length ≤ 1000000) (ht : t.Ok) (td : t.depth < 70) (tz : t.ls.length ≤ 1000000) : M_is_small [.v g.d, .v t.d] S = .ok (.v (.bl (t.ls.all fun w => decide (w ∈ g.ls)))) S := by
  have e1 := is_tree_T (k := 70) td ht S
  have e2 := leaves_spec (S := S) gd gz
  have e3 := leaves_spec (S := S) td tz
  have lc := lc_map (S := S) (t := tgN 3) (c := mtYes) (f := mBin opIn (mVar 3) (mVar 2)) (m := [some (.v g.d), some (.v t.d), some (.v (.tup (g.ls.map D.str))), none]) (fun w : Str => .v (.str w)) (fun _ => true) (fun w => .bl (decide (w ∈ g.ls))) t.ls (sz_of (by omega)) (by
    intro w hw acc
    refine ⟨_, rfl, rfl, fun _ => ?_⟩
    have := (opIn_strs (S := S ++ [.lst acc]) (w := w) (ws := g.ls) (.inr rfl) (GoodW.okB (ht w hw)) fun x hx => GoodW.okB (hg x hx)).1
    simp only [mBin_eq, mVar_eq, List.set_cons_succ, List.set_cons_zero, List.getElem?_cons_succ, List.getElem?_cons_zero, Out.bind_ok, this])
  rw [List.filter_eq_self.mpr (by simp)] at lc
  have hm : (t.ls.map fun w => D.bl (decide (w ∈ g.ls))) = (t.ls.map fun w => decide (w ∈ g.ls)).map D.bl := by rw [List.map_map]; rfl
  have hm2 : (t.ls.map fun w => R.v (D.str w)) = (t.ls.map D.str).map R.v := by rw [List.map_map]; rfl
  rw [hm, hm2] at lc
  refine mDefV_rt0 ?_
  simp only [m_is_small, List.map_cons, List.map_nil, List.length_cons, List.length_nil, List.replicate, List.cons_append, List.nil_append, Nat.reduceAdd, Nat.reduceSub, mSeq_eq, mIfS_eq, mtNot_eq, mtTru_eq, mCall_eq, mCons_eq, mVar_eq, mNil_eq, mC_eq, List.getElem?_cons_succ, List.getElem?_cons_zero, Out.bind_ok, e1, truM_bl, Bool.not_true, thenS_ok, mSkip_eq, mSet_eq, e2, List.set_cons_succ, List.set_cons_zero, mRet_eq, mPop_eq, mLc_eq, srcAny, e3, wipeM, List.foldl_cons, List.foldl_nil, lc, biAll_lst, List.all_map]
  rfl
end Q

namespace Q
open PySem hiding Env
open L2 M
noncomputable def m_take_2 : MS :=
  (mSeq (mIfS (mtB (mBin opGt (mBin opIx (mVar 0) (mC (.int 0))) (mC (.int 0)))) (mSeq (mSet 2 (mBin opMod (mBin opIx (mVar 0) (mC (.int 0))) (mVar 1)))
  (mSeq (mSetIx (mBin opFdiv (mBin opIx (mVar 0) (mC (.int 0))) (mVar 1)) (mVar 0) (mC (.int 0)))
  (mRet (mVar 2)))) mSkip)
  (mSeq (mAugIx (mC (.int 1)) (mVar 0) (mC (.int 2)) opIadd)
  (mSeq (mSet 3 (mBin opMod (mBin opAdd (mBin opAdd (mBin opMul (mBin opIx (mVar 0) (mC (.int 1))) (mC (.int 69069))) (mBin opMul (mC (.int 9973)) (mBin opIx (mVar 0) (mC (.int 2))))) (mC (.int 5))) (mC (.int 2305843009213693921))))
  (mSeq (mSetIx (mBin opMod (mBin opMul (mVar 3) (mBin opAdd (mBin opAdd (mBin opMod (mVar 3) (mC (.int 999983))) (mBin opMul (mC (.int 2)) (mBin opIx (mVar 0) (mC (.int 2))))) (mC (.int 3)))) (mC (.int 2305843009213693907))) (mVar 0) (mC (.int 1)))
  (mRet (mBin opMod (mBin opFdiv (mBin opIx (mVar 0) (mC (.int 1))) (mC (.int 65537))) (mVar 1)))))))
noncomputable def M_take_2 : List R → Store → Out R := mDefV 4 (m_take_2)
noncomputable def m_pot : MS :=
  (mSeq (mSet 2 (mC (.int 0)))
  (mSeq (mIfS (mtB (mBin opLt (mVar 1) (mCall biLen (mCons (mVar 0) mNil)))) (mSet 2 (mCall biAbs (mCons (mBin opIx (mVar 0) (mVar 1)) mNil))) mSkip)
  (mSeq (mSet 3 (mBin opMul (mBin opMod (mVar 2) (mBin opMul (mBin opPow (mC (.int 10)) (mC (.int 60))) (mBin opPow (mC (.int 10)) (mC (.int 60))))) (mCall biInt (mCons (mBin opGe (mVar 2) (mBin opPow (mC (.int 10)) (mC (.int 18)))) mNil))))
  (mRet (mLst (mCons (mVar 3) (mCons (mBin opMod (mBin opAdd (mBin opAdd (mVar 2) (mBin opMul (mC (.int 104729)) (mVar 1))) (mC (.int 7))) (mC (.int 2305843009213693951))) (mCons (mC (.int 0)) mNil))))))))
noncomputable def M_pot : List R → Store → Out R := mDef 4 (m_pot)
noncomputable def b1_words_2 : MS :=
  (mSeq (mSet 9 (mBin opIx (mVar 2) (mBin opMod (mBin opAdd (mVar 3) (mBin opMul (mVar 4) (mVar 8))) (mC (.int 26)))))
  (mDrop (mMeth "list" mtAppend (mVar 7) (mCons (mBin opAdd (mBin opAdd (mVar 5) (mVar 9)) (mBin opIx (mVar 6) (mBin opMod (mBin opAdd (mVar 3) (mVar 8)) (mC (.int 4))))) mNil))))
noncomputable def m_words_2 (g_take_2 : List R → Store → Out R) : MS :=
  (mSeq (mSet 2 (mC (.str "abcdefghijklmnopqrstuvwxyz")))
  (mSeq (mSet 3 (mCall g_take_2 (mCons (mVar 0) (mCons (mC (.int 26)) mNil))))
  (mSeq (mSet 4 (mBin opIx (mLstV (mCons (mC (.int 1)) (mCons (mC (.int 3)) (mCons (mC (.int 5)) (mCons (mC (.int 7)) (mCons (mC (.int 9)) (mCons (mC (.int 11)) mNil))))))) (mCall g_take_2 (mCons (mVar 0) (mCons (mC (.int 6)) mNil)))))
  (mSeq (mSet 5 (mBin opIx (mLstV (mCons (mC (.str "")) (mCons (mC (.str "k")) mNil))) (mCall g_take_2 (mCons (mVar 0) (mCons (mC (.int 2)) mNil)))))
  (mSeq (mSet 6 (mLstV (mCons (mC (.str "")) (mCons (mC (.str "q")) (mCons (mC (.str "zz")) (mCons (mC (.str "abcdef")) mNil))))))
  (mSeq (mSet 7 (mLst mNil))
  (mSeq (mFor (srcRange1 (mCons (mVar 1) mNil)) (tgN 8) b1_words_2)
  (mRet (mVar 7)))))))))
noncomputable def M_words_2 : List R → Store → Out R := mDefV 10 (m_words_2 M_take_2)
noncomputable def b1_tree (g_take_2 : List R → Store → Out R) : MS :=
  (mSeq (mSet 4 (mBin opIx (mLstV (mCons (mCall g_take_2 (mCons (mVar 0) (mCons (mBin opSub (mCall biLen (mCons (mVar 2) mNil)) (mC (.int 1))) mNil))) (mCons (mBin opSub (mCall biLen (mCons (mVar 2) mNil)) (mC (.int 2))) (mCons (mC (.int 0)) (mCons (mC (.int 0)) mNil))))) (mVar 3)))
  (mSeq (mSet 5 (mTup (mCons (mBin opIx (mVar 2) (mVar 4)) (mCons (mBin opIx (mVar 2) (mBin opAdd (mVar 4) (mC (.int 1)))) mNil))))
  (mSeq (mIfS (mtAnd (mtB (mBin opEq (mVar 3) (mC (.int 3)))) (mtB (mBin opEq (mCall g_take_2 (mCons (mVar 0) (mCons (mC (.int 2)) mNil))) (mC (.int 0))))) (mSet 5 (mTup (mCons (mBin opIx (mVar 2) (mBin opAdd (mVar 4) (mC (.int 1)))) (mCons (mBin opIx (mVar 2) (mVar 4)) mNil)))) mSkip)
  (mSetSl (mLstV (mCons (mVar 5) mNil)) (mVar 2) (moS (mVar 4)) (moS (mBin opAdd (mVar 4) (mC (.int 2))))))))
noncomputable def m_tree (g_take_2 : List R → Store → Out R) : MS :=
  (mSeq (mSet 2 (mCall biList (mCons (mVar 1) mNil)))
  (mSeq (mSet 3 (mCall g_take_2 (mCons (mVar 0) (mCons (mC (.int 4)) mNil))))
  (mSeq (mWhile (mtB (mBin opGt (mCall biLen (mCons (mVar 2) mNil)) (mC (.int 1)))) (b1_tree g_take_2))
  (mRet (mBin opIx (mVar 2) (mC (.int 0)))))))
noncomputable def M_tree : List R → Store → Out R := mDefV 6 (m_tree M_take_2)
noncomputable def m_great_2 (g_take_2 : List R → Store → Out R) (g_words_2 : List R → Store → Out R) (g_tree : List R → Store → Out R) : MS :=
  (mRet (mCall g_tree (mCons (mVar 0) (mCons (mCall g_words_2 (mCons (mVar 0) (mCons (mBin opAdd (mC (.int 1)) (mCall g_take_2 (mCons (mVar 0) (mCons (mBin opIx (mLstV (mCons (mC (.int 5)) (mCons (mC (.int 8)) mNil))) (mCall biInt (mCons (mBin opEq (mCall g_take_2 (mCons (mVar 0) (mCons (mC (.int 8)) mNil))) (mC (.int 0))) mNil))) mNil)))) mNil))) mNil))))
noncomputable def M_great_2 : List R → Store → Out R := mDefV 1 (m_great_2 M_take_2 M_words_2 M_tree)
end Q
namespace M
open PySem PySem.Spec L2
open PyProof.Rows hiding St
/-- a while whose turns are counted down -/
theorem while_dec {t : MT} {body : MS} (I : Nat → Env → Store → Prop) (h0 : ∀ m S, I 0 m S → t m S = .ok false S) (hs : ∀ j m S, I (j + 1) m S → t m S = .ok true S ∧ ∃ m2 S2, body m S = .nx m2 S2 ∧ I j m2 S2) :
    ∀ (n k : Nat) (m : Env) (S : Store), I n m S → n < k → ∃ m' S', mWhileGo t body k m S = .nx m' S' ∧ I 0 m' S'
  | n, 0, m, S, _, hk => by omega
  | 0, k + 1, m, S, h, _ => ⟨m, S, by unfold mWhileGo; rw [h0 m S h]; rfl, h⟩
  | n + 1, k + 1, m, S, h, hk => by
    obtain ⟨e1, m2, S2, e2, h2⟩ := hs n m S h
    obtain ⟨m', S', e3, h3⟩ := while_dec I h0 hs n k m2 S2 h2 (by omega)
    refine ⟨m', S', ?_, h3⟩
    unfold mWhileGo
    rw [e1]
    simp only [thenS_ok, e2]
    exact e3
theorem while_dec' {t : MT} {body : MS} (I : Nat → Env → Store → Prop) (n : Nat) {m : Env} {S : Store} (h : I n m S) (hn : n < 1000000) (h0 : ∀ m S, I 0 m S → t m S = .ok false S) (hs : ∀ j m S, I (j + 1) m S → t m S = .ok true S ∧ ∃ m2 S2, body m S = .nx m2 S2 ∧ I j m2 S2) :
    ∃ m' S', mWhile t body m S = .nx m' S' ∧ I 0 m' S' := while_dec I h0 hs n turns m S h hn
theorem getC_ref {S : Store} {n : Nat} {ds : List R} {i : Int} {d : R} (h : S[n]? = some (.lst ds)) (h2 : atI ds i = some d) : getC (.ref n) (.v (.int i)) S = some d := by
  unfold getC; simp only [h, h2]
theorem setC_ref {S : Store} {n : Nat} {ds : List R} {k : Int} {d : R} (h : S[n]? = some (.lst ds)) (h0 : 0 ≤ k) (h1 : k < ds.length) : setC (.ref n) (.v (.int k)) d S = some (S.set n (.lst (ds.set k.toNat d))) := by
  unfold setC; simp only [h, ixN_lt0 h0 h1]
@[simp] theorem mAugIx_eq (f o i : ME) (g : R → R → Store → Out R) (m : Env) (S : Store) : mAugIx f o i g m S = (o m S).thenS m fun x S1 => (i m S1).thenS m fun y S2 => match getC x y S2 with
  | some old => (f m S2).thenS m fun d S3 => (g old d S3).thenS m fun z S4 => match setC x y z S4 with
    | some S5 => .nx m S5
    | none => .no
  | none => .no := id rfl
end M
namespace Q
open PySem hiding Env
open L2 M
/-- a pot: digits, a number, how often it was drawn -/
structure Pot (b : Nat) where
  x : Int
  y : Int
  z : Int
  hx : 0 ≤ x
  hy : 0 ≤ y
  hyl : y < 2305843009213693951
  hz : 0 ≤ z
  hzb : z ≤ b
def Pot.c {b : Nat} (h : Pot b) : MO := .lst [.v (.int h.x), .v (.int h.y), .v (.int h.z)]
theorem Pot.lo {b : Nat} (h : Pot b) (k : Nat) : h.c.lo k := lo_lst [.int h.x, .int h.y, .int h.z] k
def Pot.up {b c : Nat} (h : Pot b) (hb : b ≤ c) : Pot c := ⟨h.x, h.y, h.z, h.hx, h.hy, h.hyl, h.hz, by have := h.hzb; omega⟩
theorem take_2_spec {b : Nat} {S : Store} {n : Nat} {h : Pot b} {k : Int} (e : S[n]? = some h.c) (hb : b ≤ 2 ^ 40) (h0 : 0 < k) (h1 : k < 2 ^ 62) : ∃ (r : Int) (h' : Pot (b + 1)), M_take_2 [.ref n, .v (.int k)] S = .ok (.v (.int r)) (S.set n h'.c) ∧ 0 ≤ r ∧ r < k := by
  have hk : k.natAbs < dvLine := dv64 (Nat.lt_of_lt_of_le (nab (k := 62) (by omega) h1) (by decide))
  obtain ⟨x, y, z, hx, hy, hyl, hz, hzb⟩ := h
  have e : S[n]? = some (.lst [.v (.int x), .v (.int y), .v (.int z)]) := e
  by_cases hp : 0 < x
  · refine ⟨x % k, ⟨x / k, y, z, Int.ediv_nonneg hx (by omega), hy, hyl, hz, by omega⟩, ?_, Int.emod_nonneg _ (by omega), Int.emod_lt_of_pos _ h0⟩
    refine mDefV_rtU (T := S.set n (.lst [.v (.int (x / k)), .v (.int y), .v (.int z)])) ?_ (upd_set n (lo_lst [.int (x / k), .int y, .int z] _))
    simp [m_take_2, opIx_ref e, hp, opMod_int h0, opFdiv_int h0 hk, setIx_ref e]
  · generalize hq : (y * 69069 + 9973 * (z + 1) + 5) % 2305843009213693921 = w
    have hw : 0 ≤ w ∧ w < 2305843009213693921 := by rw [← hq]; exact ⟨Int.emod_nonneg _ (by decide), Int.emod_lt_of_pos _ (by decide)⟩
    have hw2 : 0 ≤ w % 999983 ∧ w % 999983 < 999983 := ⟨Int.emod_nonneg _ (by decide), Int.emod_lt_of_pos _ (by decide)⟩
    generalize hr : w * (w % 999983 + 2 * (z + 1) + 3) % 2305843009213693907 = v
    have hv : 0 ≤ v ∧ v < 2305843009213693907 := by rw [← hr]; exact ⟨Int.emod_nonneg _ (by decide), Int.emod_lt_of_pos _ (by decide)⟩
    have hzb' : z ≤ 2 ^ 40 := by omega
    refine ⟨v / 65537 % k, ⟨x, v, z + 1, hx, hv.1, by omega, by omega, by omega⟩, ?_, Int.emod_nonneg _ (by omega), Int.emod_lt_of_pos _ h0⟩
    refine mDefV_rtU (T := S.set n (.lst [.v (.int x), .v (.int v), .v (.int (z + 1))])) ?_ (upd_set n (lo_lst [.int x, .int v, .int (z + 1)] _))
    have sy : y.natAbs < smLine := sm64 (by omega)
    have s1 : (69069 : Int).natAbs < smLine := sm64 (by decide)
    have s2 : (9973 : Int).natAbs < smLine := sm64 (by decide)
    have s3 : (z + 1).natAbs < smLine := sm64 (by omega)
    have s4 : w.natAbs < smLine := sm64 (by omega)
    have s5 : (2 : Int).natAbs < smLine := sm64 (by decide)
    have s6 : (w % 999983 + 2 * (z + 1) + 3).natAbs < smLine := sm64 (by omega)
    have d1 : (65537 : Int).natAbs < dvLine := dv64 (by decide)
    have g0 : opIx (.ref n) (.v (.int 0)) S = .ok (.v (.int x)) S := opIx_ref e rfl
    have f1 : getC (.ref n) (.v (.int 2)) S = some (.v (.int z)) := getC_ref e rfl
    have f2 : setC (.ref n) (.v (.int 2)) (.v (.int (z + 1))) S = some (S.set n (.lst [.v (.int x), .v (.int y), .v (.int (z + 1))])) := by rw [setC_ref e (by decide) (by simp)]; rfl
    have e1 : (S.set n (.lst [.v (.int x), .v (.int y), .v (.int (z + 1))]))[n]? = some (.lst [.v (.int x), .v (.int y), .v (.int (z + 1))]) := get_set e _
    have g1 : opIx (.ref n) (.v (.int 1)) (S.set n (.lst [.v (.int x), .v (.int y), .v (.int (z + 1))])) = .ok (.v (.int y)) (S.set n (.lst [.v (.int x), .v (.int y), .v (.int (z + 1))])) := opIx_ref e1 rfl
    have g2 : opIx (.ref n) (.v (.int 2)) (S.set n (.lst [.v (.int x), .v (.int y), .v (.int (z + 1))])) = .ok (.v (.int (z + 1))) (S.set n (.lst [.v (.int x), .v (.int y), .v (.int (z + 1))])) := opIx_ref e1 rfl
    have f3 : setIx (.ref n) (.v (.int 1)) (.v (.int v)) (S.set n (.lst [.v (.int x), .v (.int y), .v (.int (z + 1))])) = some (S.set n (.lst [.v (.int x), .v (.int v), .v (.int (z + 1))])) := by rw [setIx_ref e1 (by decide) (by simp), List.set_set]; rfl
    have e2 : (S.set n (.lst [.v (.int x), .v (.int v), .v (.int (z + 1))]))[n]? = some (.lst [.v (.int x), .v (.int v), .v (.int (z + 1))]) := get_set e _
    have g3 : opIx (.ref n) (.v (.int 1)) (S.set n (.lst [.v (.int x), .v (.int v), .v (.int (z + 1))])) = .ok (.v (.int v)) (S.set n (.lst [.v (.int x), .v (.int v), .v (.int (z + 1))])) := opIx_ref e2 rfl
    have hpf : decide (0 < x) = false := decide_eq_false hp
    simp only [m_take_2, List.map_cons, List.map_nil, List.length_cons, List.length_nil, List.replicate, List.cons_append, List.nil_append, Nat.reduceAdd, Nat.reduceSub, mSeq_eq, mIfS_eq, mtB_eq, mBin_eq, mVar_eq, mC_eq, List.getElem?_cons_zero, List.getElem?_cons_succ, Out.bind_ok, g0, opCmpI_int, onBl_bl, hpf, thenS_ok, mSkip_eq, mAugIx_eq, f1, opIadd_int, f2, mSet_eq, g1, opMul_int sy s1, g2, opMul_int s2 s3, opAdd_int, opMod_int (show (0 : Int) < 2305843009213693921 by decide), hq, List.set_cons_succ, List.set_cons_zero, mSetIx_eq, opMod_int (show (0 : Int) < 999983 by decide), opMul_int s5 s3, opMul_int s4 s6, opMod_int (show (0 : Int) < 2305843009213693907 by decide), hr, f3, mRet_eq, g3, opFdiv_int (show (0 : Int) < 65537 by decide) d1, opMod_int h0]
theorem pick_2_spec {b : Nat} {S : Store} {n i : Nat} {h : Pot b} {m : Env} {r : MA} {ds : List D} {k : Int} (e : S[n]? = some h.c) (hb : b ≤ 2 ^ 40) (hr : mLstV r m S = .ok (.v (.lst ds)) S) (hm : m[i]? = some (some (.ref n))) (hk : k = ds.length) (h0 : 0 < k) (h1 : k < 2 ^ 62) :
    ∃ (d : D) (h' : Pot (b + 1)), mBin opIx (mLstV r) (mCall M_take_2 (mCons (mVar i) (mCons (mC (.v (.int k))) mNil))) m S = .ok (.v d) (S.set n h'.c) ∧ d ∈ ds := by
  obtain ⟨x, h', e1, h2, h3⟩ := take_2_spec e hb h0 h1
  obtain ⟨d, hd, hmem⟩ := atI_some (xs := ds) h2 (by omega)
  refine ⟨d, h', ?_, hmem⟩
  rw [mBin_eq, hr]
  simp [hm, e1, opIx_lst hd]
theorem pot_spec {S : Store} {ns : List Int} {k : Int} (h0 : 0 ≤ k) (h1 : k < 2 ^ 20) : ∃ h : Pot 0, M_pot [.v (.kl (ns.map D.int)), .v (.int k)] S = .ok (.ref S.length) (S ++ [h.c]) := by
  have p60 : opPow (.v (.int 10)) (.v (.int 60)) S = .ok (.v (.int (10 ^ 60))) S := by
    simp only [opPow, onII_int]
    rw [if_pos (by decide)]
    rfl
  have p18 : opPow (.v (.int 10)) (.v (.int 18)) S = .ok (.v (.int (10 ^ 18))) S := by
    simp only [opPow, onII_int]
    rw [if_pos (by decide)]
    rfl
  have q1 : opMul (.v (.int (10 ^ 60))) (.v (.int (10 ^ 60))) S = .ok (.v (.int (10 ^ 60 * 10 ^ 60))) S := opMul_int (sm_lt 400 (by decide) (by decide)) (sm_lt 400 (by decide) (by decide))
  have pos : (0 : Int) < 10 ^ 60 * 10 ^ 60 := by decide
  generalize hP : (10 ^ 60 * 10 ^ 60 : Int) = P at q1 pos
  have hPs : P < 2 ^ 1000 := by rw [← hP]; decide
  have cell : ∃ c : Int, 0 ≤ c ∧ mSeq (mSet 2 (mC (.v (.int 0)))) (mIfS (mtB (mBin opLt (mVar 1) (mCall biLen (mCons (mVar 0) mNil)))) (mSet 2 (mCall biAbs (mCons (mBin opIx (mVar 0) (mVar 1)) mNil))) mSkip) [some (.v (.kl (ns.map D.int))), some (.v (.int k)), none, none] S = .nx [some (.v (.kl (ns.map D.int))), some (.v (.int k)), some (.v (.int c)), none] S := by
    by_cases hl : k < ((ns.map D.int).length : Int)
    · obtain ⟨d, hd, hm⟩ := atI_some (xs := ns.map D.int) h0 hl
      obtain ⟨c, _, rfl⟩ := List.mem_map.mp hm
      refine ⟨if c < 0 then -c else c, by split <;> omega, ?_⟩
      simp only [mSeq_eq, mSet_eq, mC_eq, thenS_ok, List.set_cons_succ, List.set_cons_zero, mIfS_eq, mtB_eq, mBin_eq, mVar_eq, List.getElem?_cons_zero, List.getElem?_cons_succ, Out.bind_ok, mCall_eq, mCons_eq, mNil_eq, biLen_kl, opCmpI_int, onBl_bl, decide_eq_true hl, opIx_kl hd, biAbs_int]
    · refine ⟨0, Int.le_refl _, ?_⟩
      simp only [mSeq_eq, mSet_eq, mC_eq, thenS_ok, List.set_cons_succ, List.set_cons_zero, mIfS_eq, mtB_eq, mBin_eq, mVar_eq, List.getElem?_cons_zero, List.getElem?_cons_succ, Out.bind_ok, mCall_eq, mCons_eq, mNil_eq, biLen_kl, opCmpI_int, onBl_bl, decide_eq_false hl, mSkip_eq]
  obtain ⟨c, hc, e1⟩ := cell
  have hx : 0 ≤ c % P ∧ c % P < P := ⟨Int.emod_nonneg _ (by omega), Int.emod_lt_of_pos _ pos⟩
  have s1 : (c % P).natAbs < smLine := sm_lt 1000 (nab hx.1 (Int.lt_trans hx.2 hPs)) (by decide)
  have hb : ∀ b : Bool, (0 : Int) ≤ (if b = true then (1 : Int) else 0) ∧ (if b = true then (1 : Int) else 0) ≤ 1 := fun b => by cases b <;> decide
  have s2 : ∀ b : Bool, (if b = true then (1 : Int) else 0).natAbs < smLine := fun b => sm64 (by cases b <;> decide)
  have m1 : (104729 : Int).natAbs < smLine ∧ k.natAbs < smLine := ⟨sm64 (by decide), sm64 (by omega)⟩
  refine ⟨⟨c % P * (if decide (10 ^ 18 ≤ c) = true then 1 else 0), (c + 104729 * k + 7) % 2305843009213693951, 0, Int.mul_nonneg hx.1 (hb _).1, Int.emod_nonneg _ (by decide), Int.emod_lt_of_pos _ (by decide), Int.le_refl _, Int.le_refl _⟩, mDef_rt ?_⟩
  rw [show ([R.v (D.kl (ns.map D.int)), .v (.int k)].map some ++ List.replicate (4 - [R.v (D.kl (ns.map D.int)), .v (.int k)].length) none) = [some (.v (.kl (ns.map D.int))), some (.v (.int k)), none, none] from rfl]
  have assoc : ∀ (f g h : MS) (m : Env) (S : Store), mSeq f (mSeq g h) m S = mSeq (mSeq f g) h m S := fun f g h m S => by
    simp only [mSeq_eq]
    cases f m S <;> rfl
  unfold m_pot
  rw [assoc, mSeq_nx e1]
  simp only [mSeq_eq, mSet_eq, mBin_eq, mC_eq, mCall_eq, mCons_eq, mNil_eq, mVar_eq, List.getElem?_cons_succ, List.getElem?_cons_zero, Out.bind_ok, thenS_ok, p60, q1, hP, opMod_int pos, p18, opCmpI_int, biInt_bl, opMul_int s1 (s2 _), List.set_cons_succ, List.set_cons_zero, mRet_eq, mLst_eq, opMul_int m1.1 m1.2, opAdd_int, opMod_int (show (0 : Int) < 2305843009213693951 by decide), List.length_cons, List.length_nil]
  rw [if_pos (by simp)]
  rfl
def begs2 : List Str := ["", "k"]
def ends2 : List Str := ["", "q", "zz", "abcdef"]
theorem begs2_ok : ∀ b ∈ begs2, b.length ≤ 1 ∧ ∀ c ∈ b.cps.toList, 97 ≤ c ∧ c ≤ 122 := by decide +kernel
theorem ends2_ok : ∀ b ∈ ends2, b.length ≤ 6 ∧ ∀ c ∈ b.cps.toList, 97 ≤ c ∧ c ≤ 122 := by decide +kernel
theorem wordAt_good2 {b e : Str} {f st : Int} {j : Nat} (hb : b ∈ begs2) (he : e ∈ ends2) : GoodW (wordAt b f st j e) := by
  obtain ⟨h1, h2⟩ := begs2_ok b hb
  obtain ⟨h3, h4⟩ := ends2_ok e he
  have hm : 0 ≤ (f + st * (j : Int)) % 26 ∧ (f + st * (j : Int)) % 26 < 26 := ⟨Int.emod_nonneg _ (by decide), Int.emod_lt_of_pos _ (by decide)⟩
  refine ⟨?_, ?_, ?_⟩
  · unfold wordAt; rw [str_len_append, str_len_append, str_len ⟨#[_]⟩]; simp; omega
  · unfold wordAt; rw [str_len_append, str_len_append, str_len ⟨#[_]⟩]; simp; omega
  · unfold wordAt
    intro c hc
    rw [cps_app, cps_app] at hc
    simp only [List.mem_append, List.mem_cons, List.not_mem_nil, or_false] at hc
    rcases hc with (hc | hc) | hc
    · exact h2 c hc
    · subst hc; omega
    · exact h4 c hc
theorem words_2_spec {b0 : Nat} {S : Store} {n : Nat} {h : Pot b0} {k : Int} (e : S[n]? = some h.c) (hb0 : b0 + 3 ≤ 2 ^ 40) (h0 : 0 ≤ k) (h1 : k ≤ 26) : ∃ (h' : Pot (b0 + 3)) (ws : List Str), M_words_2 [.ref n, .v (.int k)] S = .ok (.v (.lst (ws.map D.str))) (S.set n h'.c) ∧ (ws.length : Int) = k ∧ ws.Nodup ∧ ∀ x ∈ ws, GoodW x := by
  have hn := lt_of_get e
  let L : R := .v (.str "abcdefghijklmnopqrstuvwxyz")
  obtain ⟨f, g1, e1, f0, f1⟩ := take_2_spec (k := 26) e (by omega) (by decide) (by decide)
  obtain ⟨st, g2, e2, hst⟩ := pick_2_spec (i := 0) (m := [some (.ref n), some (.v (.int k)), some L, some (.v (.int f)), none, none, none, none, none, none]) (r := mCons (mC (.int 1)) (mCons (mC (.int 3)) (mCons (mC (.int 5)) (mCons (mC (.int 7)) (mCons (mC (.int 9)) (mCons (mC (.int 11)) mNil))))))
    (ds := [.int 1, .int 3, .int 5, .int 7, .int 9, .int 11]) (k := 6) (get_set e g1.c) (by omega) (by simp) rfl rfl (by decide) (by decide)
  obtain ⟨z, rfl, hz⟩ : ∃ z : Int, st = .int z ∧ (z = 1 ∨ z = 3 ∨ z = 5 ∨ z = 7 ∨ z = 9 ∨ z = 11) := by
    simp only [List.mem_cons, List.not_mem_nil, or_false] at hst
    rcases hst with rfl | rfl | rfl | rfl | rfl | rfl <;> exact ⟨_, rfl, by decide⟩
  rw [List.set_set] at e2
  obtain ⟨bd, g3, e3, hb⟩ := pick_2_spec (i := 0) (m := [some (.ref n), some (.v (.int k)), some L, some (.v (.int f)), some (.v (.int z)), none, none, none, none, none]) (r := mCons (mC (.str "")) (mCons (mC (.str "k")) mNil))
    (ds := [.str "", .str "k"]) (k := 2) (get_set e g2.c) (by omega) (by simp) rfl rfl (by decide) (by decide)
  obtain ⟨b, rfl, hbb⟩ : ∃ b : Str, bd = .str b ∧ b ∈ begs2 := by
    simp only [List.mem_cons, List.not_mem_nil, or_false] at hb
    rcases hb with rfl | rfl <;> exact ⟨_, rfl, by decide +kernel⟩
  rw [List.set_set] at e3
  have Le : (Str.ofString "abcdefghijklmnopqrstuvwxyz").length ≤ sizeLine := sz_of (by decide +kernel)
  let En : R := .v (.lst [.str "", .str "q", .str "zz", .str "abcdef"])
  have hS : (S.set n g3.c).length = S.length := by simp
  obtain ⟨m', S', eL, ws, hS', ⟨w1, w2, hm'⟩, hlen, hws⟩ := for_inv (t := tgN 8) (body := b1_words_2) (ds := rangeD 0 k.toNat) (m := [some (.ref n), some (.v (.int k)), some L, some (.v (.int f)), some (.v (.int z)), some (.v (.str b)), some En, some (.ref S.length), none, none]) (S := S.set n g3.c ++ [.lst []])
    (fun i m T => ∃ (ws : List Str), T = S.set n g3.c ++ [.lst (ws.map fun x => .v (.str x))] ∧ (∃ w1 w2, m = [some (.ref n), some (.v (.int k)), some L, some (.v (.int f)), some (.v (.int z)), some (.v (.str b)), some En, some (.ref S.length), w1, w2]) ∧ ws.length = i ∧ ∀ j w, ws[j]? = some w → ∃ e ∈ ends2, w = wordAt b f z j e)
    ⟨[], rfl, ⟨none, none, rfl⟩, rfl, fun j w hj => by simp at hj⟩ (by
      rintro i d m T hd ⟨ws, rfl, ⟨w1, w2, rfl⟩, hl, hws⟩
      obtain ⟨hi, rfl⟩ := rangeD_get hd
      simp only [Int.zero_add]
      have zs : z.natAbs < smLine := sm64 (by omega)
      have is : (i : Int).natAbs < smLine := sm64 (by omega)
      have hmod : 0 ≤ (f + z * (i : Int)) % 26 ∧ (f + z * (i : Int)) % 26 < 26 := ⟨Int.emod_nonneg _ (by decide), Int.emod_lt_of_pos _ (by decide)⟩
      have hlet := letter_at ((f + z * (i : Int)) % 26).toNat (by omega)
      rw [← atI_lt hmod.1] at hlet
      obtain ⟨ed, hed, hem⟩ := atI_some (xs := [D.str "", .str "q", .str "zz", .str "abcdef"]) (i := (f + (i : Int)) % 4) (Int.emod_nonneg _ (by decide)) (by have := Int.emod_lt_of_pos (f + (i : Int)) (show (0 : Int) < 4 by decide); simpa using this)
      obtain ⟨en, rfl, hen⟩ : ∃ b : Str, ed = .str b ∧ b ∈ ends2 := by
        simp only [List.mem_cons, List.not_mem_nil, or_false] at hem
        rcases hem with rfl | rfl | rfl | rfl <;> exact ⟨_, rfl, by decide +kernel⟩
      have hb1 := (begs2_ok b hbb).1
      have he1 := (ends2_ok en hen).1
      have s1 : b.length + (⟨#[97 + ((f + z * (i : Int)) % 26).toNat]⟩ : Str).length ≤ sizeLine := sz_of (by rw [str_len ⟨#[_]⟩]; simp; omega)
      have s2 : (b ++ (⟨#[97 + ((f + z * (i : Int)) % 26).toNat]⟩ : Str)).length + en.length ≤ sizeLine := sz_of (by rw [str_len_append, str_len ⟨#[_]⟩]; simp; omega)
      have hz1 : (ws.map fun x => R.v (D.str x)).length < sizeLine := sz_lt (by rw [List.length_map]; omega)
      have gt := get_atL hS (.lst (ws.map fun x => R.v (D.str x))) []
      refine ⟨_, rfl, [some (.ref n), some (.v (.int k)), some L, some (.v (.int f)), some (.v (.int z)), some (.v (.str b)), some En, some (.ref S.length), some (.v (.int (i : Int))), some (.v (.str ⟨#[97 + ((f + z * (i : Int)) % 26).toNat]⟩))], S.set n g3.c ++ [.lst ((ws ++ [wordAt b f z i en]).map fun x => .v (.str x))], .inl ?_, ws ++ [wordAt b f z i en], rfl, ⟨_, _, rfl⟩, by simp [hl], fun j w hj => ?_⟩
      · have ap : mtAppend (.ref S.length) [.v (.str (b ++ ⟨#[97 + ((f + z * (i : Int)) % 26).toNat]⟩ ++ en))] (S.set n g3.c ++ [.lst (ws.map fun x => R.v (D.str x))]) = .ok (.v .non) (S.set n g3.c ++ [.lst ((ws ++ [wordAt b f z i en]).map fun x => .v (.str x))]) := by
          rw [mtAppend_ref gt hz1, set_atL hS]
          simp [wordAt]
        simp only [b1_words_2, L, En, mSeq_eq, mSet_eq, mBin_eq, mVar_eq, mC_eq, List.set_cons_succ, List.set_cons_zero, List.getElem?_cons_succ, List.getElem?_cons_zero, Out.bind_ok, opMul_int zs is, opAdd_int, opMod_int (show (0 : Int) < 26 by decide), opIx_str Le hlet, thenS_ok, mDrop_eq, mMeth_eq, tyOk_lst gt, if_true, mCons_eq, mNil_eq, opAdd_str s1, opMod_int (show (0 : Int) < 4 by decide), opIx_lst hed, opAdd_str s2, ap]
      · rcases Nat.lt_trichotomy j ws.length with hj' | hj' | hj'
        · rw [List.getElem?_append_left hj'] at hj
          exact hws j w hj
        · subst hj'
          rw [List.getElem?_append_right (Nat.le_refl _), Nat.sub_self] at hj
          cases hj
          exact ⟨en, hen, by rw [hl]⟩
        · rw [List.getElem?_eq_none (by simp; omega)] at hj
          cases hj)
  subst hS' hm'
  have hl : ws.length = k.toNat := by rw [hlen, rangeD_len]
  refine ⟨g3, ws, ?_, by omega, ?_, fun x hx => ?_⟩
  · refine mDefV_rtL (n := S.length) (xs := ws.map D.str) [.lst (ws.map fun x => .v (.str x))] ?_ (by rw [get_atL hS]; simp) (by simp) (upd_set n (g3.lo _))
    have e2' : (mBin opIx (mLstV (mCons (mC (.v (.int 1))) (mCons (mC (.v (.int 3))) (mCons (mC (.v (.int 5))) (mCons (mC (.v (.int 7))) (mCons (mC (.v (.int 9))) (mCons (mC (.v (.int 11))) mNil))))))) (mCall M_take_2 (mCons (mVar 0) (mCons (mC (.v (.int 6))) mNil)))) [some (.ref n), some (.v (.int k)), some L, some (.v (.int f)), none, none, none, none, none, none] (S.set n g1.c) = .ok (.v (.int z)) (S.set n g2.c) := e2
    have e3' : (mBin opIx (mLstV (mCons (mC (.v (.str ""))) (mCons (mC (.v (.str "k"))) mNil))) (mCall M_take_2 (mCons (mVar 0) (mCons (mC (.v (.int 2))) mNil)))) [some (.ref n), some (.v (.int k)), some L, some (.v (.int f)), some (.v (.int z)), none, none, none, none, none] (S.set n g2.c) = .ok (.v (.str b)) (S.set n g3.c) := e3
    unfold m_words_2
    simp only [List.map_cons, List.map_nil, List.length_cons, List.length_nil, List.replicate, List.cons_append, List.nil_append, Nat.reduceAdd, Nat.reduceSub]
    rw [mSeq_nx (m' := [some (.ref n), some (.v (.int k)), some L, none, none, none, none, none, none, none]) (S' := S) (by simp [L])]
    rw [mSeq_nx (m' := [some (.ref n), some (.v (.int k)), some L, some (.v (.int f)), none, none, none, none, none, none]) (S' := S.set n g1.c) (by simp [e1])]
    rw [mSeq_nx (m' := [some (.ref n), some (.v (.int k)), some L, some (.v (.int f)), some (.v (.int z)), none, none, none, none, none]) (S' := S.set n g2.c) (by rw [mSet_eq, e2']; rfl)]
    rw [mSeq_nx (m' := [some (.ref n), some (.v (.int k)), some L, some (.v (.int f)), some (.v (.int z)), some (.v (.str b)), none, none, none, none]) (S' := S.set n g3.c) (by rw [mSet_eq, e3']; rfl)]
    rw [mSeq_nx (m' := [some (.ref n), some (.v (.int k)), some L, some (.v (.int f)), some (.v (.int z)), some (.v (.str b)), some En, none, none, none]) (S' := S.set n g3.c) (by simp [En])]
    rw [mSeq_nx (m' := [some (.ref n), some (.v (.int k)), some L, some (.v (.int f)), some (.v (.int z)), some (.v (.str b)), some En, some (.ref S.length), none, none]) (S' := S.set n g3.c ++ [.lst []]) (by simp)]
    simp only [mSeq_eq, mFor_eq, srcRange1_eq, mCons_eq, mVar_eq, mNil_eq, List.getElem?_cons_zero, List.getElem?_cons_succ, Out.bind_ok, rg1_int h0 (show k < 2 ^ 62 by omega), thenS_ok, eL, mRet_eq]
  · refine List.pairwise_iff_getElem.mpr fun i j hi hj hij q => ?_
    obtain ⟨e5, _, h5⟩ := hws i ws[i] (List.getElem?_eq_getElem hi)
    obtain ⟨e6, _, h6⟩ := hws j ws[j] (List.getElem?_eq_getElem hj)
    rw [h5, h6] at q
    have := wordAt_inj hz (by omega) (by omega) q
    omega
  · obtain ⟨j, hj, q⟩ := List.getElem_of_mem hx
    obtain ⟨e5, h5, h6⟩ := hws j x (by rw [List.getElem?_eq_getElem hj, q])
    rw [h6]
    exact wordAt_good2 hbb h5
theorem tree_spec {b0 : Nat} {S : Store} {n : Nat} {h : Pot b0} {ts : List T} (e : S[n]? = some h.c) (hne : ts ≠ []) (hz : ts.length ≤ 1000) (hb0 : b0 + 3 * ts.length ≤ 2 ^ 40) : ∃ (h' : Pot (b0 + 3 * ts.length)) (t : T), M_tree [.ref n, .v (.lst (ts.map T.d))] S = .ok (.v t.d) (S.set n h'.c) ∧ t.ls.Perm (ts.flatMap T.ls) := by
  have hp : 0 < ts.length := List.length_pos_iff.mpr hne
  have hn := lt_of_get e
  obtain ⟨st, g1, e1, s0, s1⟩ := take_2_spec (k := 4) (get_old e [.lst ((ts.map T.d).map .v)]) (by omega) (by decide) (by decide)
  rw [set_old e] at e1
  let m0 : Option R → Option R → Env := fun w1 w2 => [some (.ref n), some (.v (.lst (ts.map T.d))), some (.ref S.length), some (.v (.int st)), w1, w2]
  obtain ⟨m', S', eL, g', us, hS', ⟨w1, w2, hm'⟩, ⟨hlen, _⟩, hls⟩ := while_dec' (t := mtB (mBin opGt (mCall biLen (mCons (mVar 2) mNil)) (mC (.v (.int 1))))) (body := b1_tree M_take_2)
    (fun j m X => ∃ (g : Pot (b0 + 3 * (ts.length - j))) (us : List T), X = S.set n g.c ++ [.lst ((us.map T.d).map .v)] ∧ (∃ w1 w2, m = m0 w1 w2) ∧ (us.length = j + 1 ∧ j < ts.length) ∧ (us.flatMap T.ls).Perm (ts.flatMap T.ls))
    (ts.length - 1) (m := m0 none none) (S := S.set n g1.c ++ [.lst ((ts.map T.d).map .v)])
    ⟨g1.up (by omega), ts, rfl, ⟨none, none, rfl⟩, ⟨by omega, by omega⟩, .refl _⟩ (by omega)
    (by
      rintro m X ⟨g, us, rfl, ⟨w1, w2, rfl⟩, ⟨hl, _⟩, _⟩
      have g6 := get_atL (show (S.set n g.c).length = S.length by simp) (.lst ((us.map T.d).map R.v)) []
      simp only [mtB_eq, mBin_eq, mCall_eq, mCons_eq, mVar_eq, mNil_eq, mC_eq, m0, List.getElem?_cons_succ, List.getElem?_cons_zero, Out.bind_ok, biLen_ref g6, opCmpI_int, onBl_bl, List.length_map, hl]
      rfl)
    (by
      rintro j m X ⟨g, us, rfl, ⟨w1, w2, rfl⟩, ⟨hl, hj⟩, hf⟩
      have hS : ∀ {b : Nat} (g : Pot b), (S.set n g.c).length = S.length := fun g => by simp
      have eg := get_old (get_set e g.c) [.lst ((us.map T.d).map .v)]
      have g6 := get_atL (hS g) (.lst ((us.map T.d).map R.v)) []
      refine ⟨?_, ?_⟩
      · simp only [mtB_eq, mBin_eq, mCall_eq, mCons_eq, mVar_eq, mNil_eq, mC_eq, m0, List.getElem?_cons_succ, List.getElem?_cons_zero, Out.bind_ok, biLen_ref g6, opCmpI_int, onBl_bl, List.length_map, hl]
        rw [decide_eq_true (by omega)]
      obtain ⟨r1, g3, e3, a0, a1⟩ := take_2_spec (k := (us.length : Int) - 1) eg (by omega) (by omega) (by omega)
      rw [set_old (get_set e g.c), List.set_set] at e3
      obtain ⟨ad, had, hmem⟩ := atI_some (xs := [D.int r1, .int ((us.length : Int) - 2), .int 0, .int 0]) (i := st) s0 (by simpa using s1)
      obtain ⟨a, rfl, ha0, ha1⟩ : ∃ a : Int, ad = .int a ∧ 0 ≤ a ∧ a ≤ (us.length : Int) - 2 := by
        simp only [List.mem_cons, List.not_mem_nil, or_false] at hmem
        rcases hmem with rfl | rfl | rfl | rfl
        · exact ⟨_, rfl, by omega, by omega⟩
        · exact ⟨_, rfl, by omega, by omega⟩
        · exact ⟨_, rfl, by omega, by omega⟩
        · exact ⟨_, rfl, by omega, by omega⟩
      obtain ⟨lt, rt, c1, c2, c3⟩ := cut2 (us := us) (a := a.toNat) (by omega)
      have i1 : atI ((us.map T.d).map R.v) a = some (.v lt.d) := by rw [atI_map, atI_map, atI_lt ha0, c1]; rfl
      have i2 : atI ((us.map T.d).map R.v) (a + 1) = some (.v rt.d) := by rw [atI_map, atI_map, atI_lt (by omega), show (a + 1).toNat = a.toNat + 1 by omega, c2]; rfl
      -- the pair
      have pair : ∃ (g4 : Pot (b0 + 3 * (ts.length - (j + 1)) + 2)) (p : T), mSeq (mSet 5 (mTup (mCons (mBin opIx (mVar 2) (mVar 4)) (mCons (mBin opIx (mVar 2) (mBin opAdd (mVar 4) (mC (.v (.int 1))))) mNil))))
          (mIfS (mtAnd (mtB (mBin opEq (mVar 3) (mC (.v (.int 3))))) (mtB (mBin opEq (mCall M_take_2 (mCons (mVar 0) (mCons (mC (.v (.int 2))) mNil))) (mC (.v (.int 0)))))) (mSet 5 (mTup (mCons (mBin opIx (mVar 2) (mBin opAdd (mVar 4) (mC (.v (.int 1))))) (mCons (mBin opIx (mVar 2) (mVar 4)) mNil)))) mSkip)
          [some (.ref n), some (.v (.lst (ts.map T.d))), some (.ref S.length), some (.v (.int st)), some (.v (.int a)), w2] (S.set n g3.c ++ [.lst ((us.map T.d).map .v)]) =
          .nx [some (.ref n), some (.v (.lst (ts.map T.d))), some (.ref S.length), some (.v (.int st)), some (.v (.int a)), some (.v p.d)] (S.set n g4.c ++ [.lst ((us.map T.d).map .v)]) ∧ p.ls.Perm (lt.ls ++ rt.ls) := by
        have g5 := get_atL (hS g3) (.lst ((us.map T.d).map R.v)) []
        by_cases h3 : (st == 3) = true
        · obtain ⟨r2, g4, e4, b0', b1'⟩ := take_2_spec (k := 2) (get_old (get_set e g3.c) [.lst ((us.map T.d).map .v)]) (by omega) (by decide) (by decide)
          rw [set_old (get_set e g3.c), List.set_set] at e4
          have g7 := get_atL (hS g4) (.lst ((us.map T.d).map R.v)) []
          by_cases hc : (r2 == 0) = true
          · refine ⟨g4, .node rt lt, ?_, List.perm_append_comm⟩
            simp only [mSeq_eq, mSet_eq, mTup_eq, mCons_eq, mBin_eq, mVar_eq, mC_eq, mNil_eq, mCall_eq, List.getElem?_cons_succ, List.getElem?_cons_zero, Out.bind_ok, opIx_ref g5 i1, opIx_ref g5 i2, opAdd_int, frzO_2, List.length_cons, List.length_nil, Nat.zero_add, Nat.reduceAdd, sz2, if_true, thenS_ok, List.set_cons_succ, List.set_cons_zero, mIfS_eq, mtAnd_eq, mtB_eq, opEq_int, onBl_bl, h3, e4, hc, opIx_ref g7 i1, opIx_ref g7 i2, T.d]
          · have hc : (r2 == 0) = false := by simpa using hc
            refine ⟨g4, .node lt rt, ?_, .refl _⟩
            simp only [mSeq_eq, mSet_eq, mTup_eq, mCons_eq, mBin_eq, mVar_eq, mC_eq, mNil_eq, mCall_eq, List.getElem?_cons_succ, List.getElem?_cons_zero, Out.bind_ok, opIx_ref g5 i1, opIx_ref g5 i2, opAdd_int, frzO_2, List.length_cons, List.length_nil, Nat.zero_add, Nat.reduceAdd, sz2, if_true, thenS_ok, List.set_cons_succ, List.set_cons_zero, mIfS_eq, mtAnd_eq, mtB_eq, opEq_int, onBl_bl, h3, e4, hc, mSkip_eq, T.d]
        · have h3 : (st == 3) = false := by simpa using h3
          refine ⟨g3.up (by omega), .node lt rt, ?_, .refl _⟩
          simp only [mSeq_eq, mSet_eq, mTup_eq, mCons_eq, mBin_eq, mVar_eq, mC_eq, mNil_eq, mCall_eq, List.getElem?_cons_succ, List.getElem?_cons_zero, Out.bind_ok, opIx_ref g5 i1, opIx_ref g5 i2, opAdd_int, frzO_2, List.length_cons, List.length_nil, Nat.zero_add, Nat.reduceAdd, sz2, if_true, thenS_ok, List.set_cons_succ, List.set_cons_zero, mIfS_eq, mtAnd_eq, mtB_eq, opEq_int, onBl_bl, h3, mSkip_eq, T.d]
          rfl
      obtain ⟨g4, p, e4, hpp⟩ := pair
      have g8 := get_atL (hS g4) (.lst ((us.map T.d).map R.v)) []
      have hsz : (((us.map T.d).map R.v).length : Nat) + 1 ≤ sizeLine := sz_of (by simp; omega)
      have fin : (S.set n g4.c ++ [MO.lst ((us.map T.d).map R.v)]).set S.length (.lst (((us.map T.d).map R.v).take a.toNat ++ [R.v p.d] ++ ((us.map T.d).map R.v).drop (a + 2).toNat)) = S.set n g4.c ++ [.lst (((us.take a.toNat ++ p :: us.drop (a.toNat + 2)).map T.d).map .v)] := by
        rw [set_atL (hS g4), show (a + 2).toNat = a.toNat + 2 by omega]
        simp [List.map_take, List.map_drop]
      refine ⟨m0 (some (.v (.int a))) (some (.v p.d)), S.set n g4.c ++ [.lst (((us.take a.toNat ++ p :: us.drop (a.toNat + 2)).map T.d).map .v)], ?_, g4.up (by omega), us.take a.toNat ++ p :: us.drop (a.toNat + 2), rfl, ⟨_, _, rfl⟩, ⟨?_, by omega⟩, ?_⟩
      · have assoc : ∀ (f g h : MS) (m : Env) (S : Store), mSeq f (mSeq g h) m S = mSeq (mSeq f g) h m S := fun f g h m S => by
          simp only [mSeq_eq]
          cases f m S <;> rfl
        unfold b1_tree
        rw [mSeq_nx (m' := [some (.ref n), some (.v (.lst (ts.map T.d))), some (.ref S.length), some (.v (.int st)), some (.v (.int a)), w2]) (S' := S.set n g3.c ++ [.lst ((us.map T.d).map .v)]) (by
          simp only [m0, mSet_eq, mBin_eq, mCall_eq, mCons_eq, mVar_eq, mNil_eq, mC_eq, List.set_cons_succ, List.set_cons_zero, List.getElem?_cons_succ, List.getElem?_cons_zero, Out.bind_ok, biLen_ref g6, biLen_ref (get_atL (hS g3) (.lst ((us.map T.d).map R.v)) []), opSub_int, thenS_ok, mLstV_eq, List.length_map, e3, frzO_4, List.length_cons, List.length_nil, Nat.zero_add, Nat.reduceAdd, sz4, if_true, opIx_lst had])]
        rw [assoc, mSeq_nx e4]
        unfold mSetSl
        simp only [mLstV_eq, mCons_eq, mBin_eq, mVar_eq, mC_eq, mNil_eq, List.getElem?_cons_succ, List.getElem?_cons_zero, Out.bind_ok, opAdd_int, frzO_1, List.length_cons, List.length_nil, Nat.zero_add, Nat.reduceAdd, sz1, if_true, thenS_ok, moS_eq, g8, lstOf, List.map_cons, List.map_nil]
        rw [if_pos ⟨rfl, by simp, ha0, by omega, by simp; omega, by simpa using hsz⟩, fin]
      · have q := congrArg List.length c3
        simp only [List.length_append, List.length_cons] at q ⊢
        omega
      · refine List.Perm.trans ?_ hf
        conv => rhs; rw [c3]
        simp only [List.flatMap_append, List.flatMap_cons]
        refine List.Perm.append_left _ ?_
        rw [← List.append_assoc]
        exact List.Perm.append_right _ hpp)
  subst hS' hm'
  obtain ⟨t, rfl⟩ : ∃ t, us = [t] := by
    match us, hlen with
    | [t], _ => exact ⟨t, rfl⟩
    | [], h => simp at h
    | _ :: _ :: _, h => simp at h
  have g5 := get_atL (show (S.set n g'.c).length = S.length by simp) (.lst ([R.v t.d])) []
  refine ⟨g'.up (by omega), t, mDefV_rtG [.lst [.v t.d]] ?_ (upd_set n (g'.lo _)), by simpa using hls⟩
  have bl : biList [.v (.lst (ts.map T.d))] S = .ok (.ref S.length) (S ++ [.lst ((ts.map T.d).map .v)]) := biList_lst _
  have eL' : mWhile (mtB (mBin opGt (mCall biLen (mCons (mVar 2) mNil)) (mC (.v (.int 1))))) (b1_tree M_take_2) [some (.ref n), some (.v (.lst (ts.map T.d))), some (.ref S.length), some (.v (.int st)), none, none] (S.set n g1.c ++ [.lst ((ts.map T.d).map .v)]) = _ := eL
  simp only [m_tree, List.map_cons, List.map_nil, List.length_cons, List.length_nil, List.replicate, List.cons_append, List.nil_append, Nat.reduceAdd, Nat.reduceSub, mSeq_eq, mSet_eq, mCall_eq, mCons_eq, mVar_eq, mNil_eq, mC_eq, List.getElem?_cons_succ, List.getElem?_cons_zero, Out.bind_ok, bl, thenS_ok, List.set_cons_succ, List.set_cons_zero, e1, eL', m0, mRet_eq, mBin_eq]
  rw [opIx_ref g5 (atI_0 _ _)]
  rfl
theorem great_2_spec {b0 : Nat} {S : Store} {n : Nat} {h : Pot b0} (e : S[n]? = some h.c) (hb0 : b0 + 40 ≤ 2 ^ 40) : ∃ (h' : Pot (b0 + 40)) (t : T), M_great_2 [.ref n] S = .ok (.v t.d) (S.set n h'.c) ∧ t.Ok ∧ t.ls.Nodup ∧ t.ls.length ≤ 8 := by
  obtain ⟨a, g1, e1, a0, a1⟩ := take_2_spec (k := 8) e (by omega) (by decide) (by decide)
  obtain ⟨lim, hlim, l0, l1⟩ : ∃ lim : Int, (if (a == 0) = true then D.int 8 else .int 5) = .int lim ∧ 5 ≤ lim ∧ lim ≤ 8 := by
    by_cases hc : (a == 0) = true
    · exact ⟨8, by simp [hc], by decide, by decide⟩
    · exact ⟨5, by simp [hc], by decide, by decide⟩
  obtain ⟨b, g2, e2, b0', b1⟩ := take_2_spec (k := lim) (get_set e g1.c) (by omega) (by omega) (by omega)
  rw [List.set_set] at e2
  obtain ⟨g3, ws, e3, hwl, hnd, hok⟩ := words_2_spec (k := 1 + b) (get_set e g2.c) (by omega) (by omega) (by omega)
  rw [List.set_set] at e3
  obtain ⟨g4, t, e4, ht⟩ := tree_spec (ts := ws.map T.leaf) (get_set e g3.c) (by intro h; have := congrArg List.length h; simp at this; rw [this] at hwl; simp at hwl; omega) (by simp; omega) (by simp; omega)
  rw [List.set_set] at e4
  have htl : t.ls.Perm ws := by rw [flat_leaf] at ht; exact ht
  have e4' : M_tree [.ref n, .v (.lst (ws.map D.str))] (S.set n g3.c) = .ok (.v t.d) (S.set n g4.c) := by
    rw [List.map_map] at e4
    exact e4
  have hlen : (ws.map T.leaf).length = ws.length := by simp
  refine ⟨g4.up (by rw [hlen]; omega), t, mDefV_rtU ?_ (upd_set n (g4.lo _)), fun x hx => hok x (htl.mem_iff.mp hx), htl.nodup_iff.mpr hnd, by rw [htl.length_eq]; omega⟩
  simp only [m_great_2, List.map_cons, List.map_nil, List.length_cons, List.length_nil, List.replicate, List.cons_append, List.nil_append, Nat.reduceAdd, Nat.reduceSub, mBin_eq, mC_eq, mCall_eq, mCons_eq, mVar_eq, mNil_eq, List.getElem?_cons_succ, List.getElem?_cons_zero, Out.bind_ok, mLstV_eq, frzO_2, Nat.zero_add, sz2, if_true, e1, opEq_int, biInt_bl, opIx_2', hlim, e2, opAdd_int, thenS_ok, mRet_eq, e3, e4']
  rfl
end Q

namespace Q
open PySem hiding Env
open L2 M
end Q
namespace M
open PySem PySem.Spec L2
open PyProof.Rows hiding St
def oD : Option Nat → D
  | none => .non
  | some p => .int (p : Int)
/-- above each node but the last: the number of its own -/
def T.ahdI : Nat → T → List (Option Nat)
  | _, .leaf _ => []
  | k, .node l r => T.ahdI k l ++ some (k + l.cnt + r.cnt) :: (T.ahdI (k + l.cnt) r ++ [some (k + l.cnt + r.cnt)])
theorem T.ahdI_len : ∀ (t : T) (k : Nat), (T.ahdI k t).length + 1 = t.cnt
  | .leaf w, k => rfl
  | .node l r, k => by
    have h1 := T.ahdI_len l k
    have h2 := T.ahdI_len r (k + l.cnt)
    simp only [T.ahdI, T.cnt, List.length_append, List.length_cons, List.length_nil]; omega
def T.ahead (t : T) : List (Option Nat) := T.ahdI 0 t ++ [none]
/-- from each node up to the last, those in up behind it -/
def T.lines : Nat → List Nat → T → List (List Nat)
  | k, up, .leaf _ => [k :: up]
  | k, up, .node l r => T.lines k ((k + l.cnt + r.cnt) :: up) l ++ T.lines (k + l.cnt) ((k + l.cnt + r.cnt) :: up) r ++ [(k + l.cnt + r.cnt) :: up]
theorem T.lines_len : ∀ (t : T) (k : Nat) (up : List Nat), (T.lines k up t).length = t.cnt
  | .leaf w, k, up => rfl
  | .node l r, k, up => by simp only [T.lines, List.length_append, T.lines_len l, T.lines_len r, T.cnt, List.length_cons, List.length_nil]
/-- the leaves' numbers -/
def T.lvs : Nat → T → List Nat
  | k, .leaf _ => [k]
  | k, .node l r => T.lvs k l ++ T.lvs (k + l.cnt) r
def T.blw : Nat → T → List (List Nat)
  | k, .leaf _ => [[k]]
  | k, .node l r => T.blw k l ++ T.blw (k + l.cnt) r ++ [T.lvs k l ++ T.lvs (k + l.cnt) r]
theorem T.blw_len : ∀ (t : T) (k : Nat), (T.blw k t).length = t.cnt
  | .leaf w, k => rfl
  | .node l r, k => by simp only [T.blw, List.length_append, T.blw_len l, T.blw_len r, T.cnt, List.length_cons, List.length_nil]
theorem T.lvs_in : ∀ (t : T) (k x : Nat), x ∈ T.lvs k t → k ≤ x ∧ x < k + t.cnt
  | .leaf w, k, x, h => by simp only [T.lvs, List.mem_singleton] at h; simp only [T.cnt]; omega
  | .node l r, k, x, h => by
    simp only [T.lvs, List.mem_append] at h
    simp only [T.cnt]
    rcases h with h | h
    · have := T.lvs_in l k x h; omega
    · have := T.lvs_in r (k + l.cnt) x h; omega
theorem T.lvs_ne : ∀ (t : T) (k : Nat), ∃ x, x ∈ T.lvs k t
  | .leaf w, k => ⟨k, by simp [T.lvs]⟩
  | .node l r, k => by
    obtain ⟨x, h⟩ := T.lvs_ne l k
    exact ⟨x, by simp [T.lvs, h]⟩
theorem T.blw_in : ∀ (t : T) (k : Nat) (b : List Nat), b ∈ T.blw k t → (∃ x, x ∈ b) ∧ ∀ x ∈ b, x ∈ T.lvs k t
  | .leaf w, k, b, h => by simp only [T.blw, List.mem_singleton] at h; subst h; exact ⟨⟨k, by simp⟩, fun x h => h⟩
  | .node l r, k, b, h => by
    simp only [T.blw, List.mem_append, List.mem_singleton] at h
    rcases h with (h | h) | rfl
    · have := T.blw_in l k b h
      exact ⟨this.1, fun x hx => by simp [T.lvs, this.2 x hx]⟩
    · have := T.blw_in r (k + l.cnt) b h
      exact ⟨this.1, fun x hx => by simp [T.lvs, this.2 x hx]⟩
    · obtain ⟨x, hx⟩ := T.lvs_ne l k
      exact ⟨⟨x, by simp [hx]⟩, fun x h => h⟩
theorem T.lines_in : ∀ (t : T) (k : Nat) (up ln : List Nat), ln ∈ T.lines k up t → (∀ x ∈ ln, (k ≤ x ∧ x < k + t.cnt) ∨ x ∈ up) ∧ ∀ x ∈ up, x ∈ ln
  | .leaf w, k, up, ln, h => by
    simp only [T.lines, List.mem_singleton] at h; subst h
    refine ⟨fun x hx => ?_, fun x hx => by simp [hx]⟩
    simp only [List.mem_cons] at hx
    rcases hx with rfl | hx
    · exact .inl (by simp [T.cnt])
    · exact .inr hx
  | .node l r, k, up, ln, h => by
    simp only [T.lines, List.mem_append, List.mem_singleton] at h
    simp only [T.cnt]
    rcases h with (h | h) | rfl
    · obtain ⟨h1, h2⟩ := T.lines_in l k _ ln h
      refine ⟨fun x hx => ?_, fun x hx => h2 x (by simp [hx])⟩
      rcases h1 x hx with h | h
      · exact .inl (by omega)
      · simp only [List.mem_cons] at h
        rcases h with rfl | h
        · exact .inl (by omega)
        · exact .inr h
    · obtain ⟨h1, h2⟩ := T.lines_in r (k + l.cnt) _ ln h
      refine ⟨fun x hx => ?_, fun x hx => h2 x (by simp [hx])⟩
      rcases h1 x hx with h | h
      · exact .inl (by omega)
      · simp only [List.mem_cons] at h
        rcases h with rfl | h
        · exact .inl (by omega)
        · exact .inr h
    · refine ⟨fun x hx => ?_, fun x hx => by simp [hx]⟩
      simp only [List.mem_cons] at hx
      rcases hx with rfl | hx
      · exact .inl (by omega)
      · exact .inr hx
/-- which of two lists stands where, in two put together and one behind -/
theorem three {α : Type} {a b : List α} {c x : α} {i : Nat} (h : (a ++ b ++ [c])[i]? = some x) : (i < a.length ∧ a[i]? = some x) ∨ (∃ j, i = a.length + j ∧ j < b.length ∧ b[j]? = some x) ∨ (i = a.length + b.length ∧ x = c) := by
  by_cases h1 : i < a.length
  · rw [List.append_assoc, List.getElem?_append_left h1] at h
    exact .inl ⟨h1, h⟩
  · rw [List.append_assoc, List.getElem?_append_right (by omega)] at h
    by_cases h2 : i - a.length < b.length
    · rw [List.getElem?_append_left h2] at h
      exact .inr (.inl ⟨i - a.length, by omega, h2, h⟩)
    · rw [List.getElem?_append_right (by omega)] at h
      have h3 : i - a.length - b.length = 0 := by
        rcases Nat.eq_zero_or_pos (i - a.length - b.length) with z | z
        · exact z
        · rw [List.getElem?_eq_none (by simp; omega)] at h; cases h
      rw [h3] at h
      cases h
      exact .inr (.inr ⟨by omega, rfl⟩)
/-- beside one another: none leads through the other; no leaf in both -/
theorem T.apart : ∀ (t : T) (k : Nat) (up : List Nat) (i j : Nat) (li lj bi bj : List Nat), (∀ x ∈ up, k + t.cnt ≤ x) →
    (T.lines k up t)[i]? = some li → (T.lines k up t)[j]? = some lj → (T.blw k t)[i]? = some bi → (T.blw k t)[j]? = some bj → ((k + j ∈ li ∨ k + i ∈ lj) ↔ ∃ x, x ∈ bi ∧ x ∈ bj)
  | .leaf w, k, up, i, j, li, lj, bi, bj, hup, h1, h2, h3, h4 => by
    have z : ∀ (i : Nat) (li bi : List Nat), [k :: up][i]? = some li → [[k]][i]? = some bi → i = 0 ∧ li = k :: up ∧ bi = [k] := by
      intro i li bi h h'
      cases i with
      | zero => cases h; cases h'; exact ⟨rfl, rfl, rfl⟩
      | succ i => simp at h
    obtain ⟨rfl, rfl, rfl⟩ := z i li bi h1 h3
    obtain ⟨rfl, rfl, rfl⟩ := z j lj bj h2 h4
    simp
  | .node l r, k, up, i, j, li, lj, bi, bj, hup, h1, h2, h3, h4 => by
    simp only [T.lines] at h1 h2
    simp only [T.blw] at h3 h4
    simp only [T.cnt] at hup
    have L1 := T.lines_len l k ((k + l.cnt + r.cnt) :: up)
    have L2 := T.lines_len r (k + l.cnt) ((k + l.cnt + r.cnt) :: up)
    have B1 := T.blw_len l k
    have B2 := T.blw_len r (k + l.cnt)
    have up1 : ∀ x ∈ (k + l.cnt + r.cnt) :: up, k + l.cnt ≤ x := fun x hx => by
      simp only [List.mem_cons] at hx
      rcases hx with rfl | hx
      · omega
      · have := hup x hx; omega
    have up2 : ∀ x ∈ (k + l.cnt + r.cnt) :: up, k + l.cnt + r.cnt ≤ x := fun x hx => by
      simp only [List.mem_cons] at hx
      rcases hx with rfl | hx
      · omega
      · have := hup x hx; omega
    -- where one stands
    have cas : ∀ (i : Nat) (li bi : List Nat), (T.lines k ((k + l.cnt + r.cnt) :: up) l ++ T.lines (k + l.cnt) ((k + l.cnt + r.cnt) :: up) r ++ [(k + l.cnt + r.cnt) :: up])[i]? = some li → (T.blw k l ++ T.blw (k + l.cnt) r ++ [T.lvs k l ++ T.lvs (k + l.cnt) r])[i]? = some bi →
        (i < l.cnt ∧ (T.lines k ((k + l.cnt + r.cnt) :: up) l)[i]? = some li ∧ (T.blw k l)[i]? = some bi) ∨ (∃ a, i = l.cnt + a ∧ a < r.cnt ∧ (T.lines (k + l.cnt) ((k + l.cnt + r.cnt) :: up) r)[a]? = some li ∧ (T.blw (k + l.cnt) r)[a]? = some bi) ∨ (i = l.cnt + r.cnt ∧ li = (k + l.cnt + r.cnt) :: up ∧ bi = T.lvs k l ++ T.lvs (k + l.cnt) r) := by
      intro i li bi h h'
      rcases three h with ⟨a1, a2⟩ | ⟨a, a1, a2, a3⟩ | ⟨a1, a2⟩
      · rcases three h' with ⟨b1, b2⟩ | ⟨b, b1, b2, b3⟩ | ⟨b1, b2⟩
        · exact .inl ⟨by omega, a2, b2⟩
        · omega
        · omega
      · rcases three h' with ⟨b1, b2⟩ | ⟨b, b1, b2, b3⟩ | ⟨b1, b2⟩
        · omega
        · have : b = a := by omega
          subst this
          exact .inr (.inl ⟨b, by omega, by omega, a3, b3⟩)
        · omega
      · rcases three h' with ⟨b1, b2⟩ | ⟨b, b1, b2, b3⟩ | ⟨b1, b2⟩
        · omega
        · omega
        · exact .inr (.inr ⟨by omega, a2, b2⟩)
    -- in the one and in the other
    have far : ∀ (i a : Nat) (li lj bi bj : List Nat), i < l.cnt → (T.lines k ((k + l.cnt + r.cnt) :: up) l)[i]? = some li → (T.blw k l)[i]? = some bi → a < r.cnt → (T.lines (k + l.cnt) ((k + l.cnt + r.cnt) :: up) r)[a]? = some lj → (T.blw (k + l.cnt) r)[a]? = some bj →
        ¬ (k + (l.cnt + a) ∈ li) ∧ ¬ (k + i ∈ lj) ∧ ¬ ∃ x, x ∈ bi ∧ x ∈ bj := by
      intro i a li lj bi bj hi e1 e2 ha e3 e4
      have m1 := T.lines_in l k _ li (List.mem_of_getElem? e1)
      have m2 := T.lines_in r (k + l.cnt) _ lj (List.mem_of_getElem? e3)
      refine ⟨fun h => ?_, fun h => ?_, ?_⟩
      · rcases m1.1 _ h with h | h
        · omega
        · have := up2 _ h; omega
      · rcases m2.1 _ h with h | h
        · omega
        · have := up1 _ h; omega
      · rintro ⟨x, h, h'⟩
        have q1 := T.lvs_in l k x ((T.blw_in l k bi (List.mem_of_getElem? e2)).2 x h)
        have q2 := T.lvs_in r (k + l.cnt) x ((T.blw_in r (k + l.cnt) bj (List.mem_of_getElem? e4)).2 x h')
        omega
    -- the last one leads above all
    have top : ∀ (i : Nat) (li bi : List Nat), i < l.cnt + r.cnt → (T.lines k ((k + l.cnt + r.cnt) :: up) l ++ T.lines (k + l.cnt) ((k + l.cnt + r.cnt) :: up) r ++ [(k + l.cnt + r.cnt) :: up])[i]? = some li → (T.blw k l ++ T.blw (k + l.cnt) r ++ [T.lvs k l ++ T.lvs (k + l.cnt) r])[i]? = some bi →
        k + (l.cnt + r.cnt) ∈ li ∧ ∃ x, x ∈ bi ∧ x ∈ T.lvs k l ++ T.lvs (k + l.cnt) r := by
      intro i li bi hi e1 e2
      rcases cas i li bi e1 e2 with ⟨_, a1, a2⟩ | ⟨a, _, _, a1, a2⟩ | ⟨h, _, _⟩
      · refine ⟨(T.lines_in l k _ li (List.mem_of_getElem? a1)).2 _ (by simp only [List.mem_cons]; exact .inl (by omega)), ?_⟩
        obtain ⟨⟨x, hx⟩, h2⟩ := T.blw_in l k bi (List.mem_of_getElem? a2)
        exact ⟨x, hx, by simp [h2 x hx]⟩
      · refine ⟨(T.lines_in r (k + l.cnt) _ li (List.mem_of_getElem? a1)).2 _ (by simp only [List.mem_cons]; exact .inl (by omega)), ?_⟩
        obtain ⟨⟨x, hx⟩, h2⟩ := T.blw_in r (k + l.cnt) bi (List.mem_of_getElem? a2)
        exact ⟨x, hx, by simp [h2 x hx]⟩
      · omega
    rcases cas i li bi h1 h3 with ⟨hi, a1, a2⟩ | ⟨a, rfl, ha, a1, a2⟩ | ⟨rfl, rfl, rfl⟩
    · rcases cas j lj bj h2 h4 with ⟨hj, b1, b2⟩ | ⟨b, rfl, hb, b1, b2⟩ | ⟨rfl, rfl, rfl⟩
      · exact T.apart l k _ i j li lj bi bj up1 a1 b1 a2 b2
      · obtain ⟨q1, q2, q3⟩ := far i b li lj bi bj hi a1 a2 hb b1 b2
        exact ⟨fun h => (h.elim q1 q2).elim, fun h => (q3 h).elim⟩
      · obtain ⟨q1, q2⟩ := top i li bi (by omega) h1 h3
        exact ⟨fun _ => q2, fun _ => .inl q1⟩
    · rcases cas j lj bj h2 h4 with ⟨hj, b1, b2⟩ | ⟨b, rfl, hb, b1, b2⟩ | ⟨rfl, rfl, rfl⟩
      · obtain ⟨q1, q2, q3⟩ := far j a lj li bj bi hj b1 b2 ha a1 a2
        exact ⟨fun h => (h.elim q2 q1).elim, fun ⟨x, h, h'⟩ => (q3 ⟨x, h', h⟩).elim⟩
      · have := T.apart r (k + l.cnt) _ a b li lj bi bj up2 a1 b1 a2 b2
        rw [Nat.add_assoc, Nat.add_assoc] at this
        exact this
      · obtain ⟨q1, q2⟩ := top (l.cnt + a) li bi (by omega) h1 h3
        exact ⟨fun _ => q2, fun _ => .inl q1⟩
    · rcases Nat.lt_or_ge j (l.cnt + r.cnt) with hj | hj
      · obtain ⟨q1, x, q2, q3⟩ := top j lj bj hj h2 h4
        exact ⟨fun _ => ⟨x, q3, q2⟩, fun _ => .inr q1⟩
      · have hj' : j = l.cnt + r.cnt := by
          rcases cas j lj bj h2 h4 with ⟨h, _⟩ | ⟨a, h, h', _⟩ | ⟨h, _⟩
          · omega
          · omega
          · exact h
        subst hj'
        obtain ⟨x, hx⟩ := T.lvs_ne l k
        rcases cas _ lj bj h2 h4 with ⟨h, _⟩ | ⟨a, h, h', _⟩ | ⟨_, rfl, rfl⟩
        · omega
        · omega
        · exact ⟨fun _ => ⟨x, by simp [hx], by simp [hx]⟩, fun _ => .inl (by simp only [List.mem_cons]; exact .inl (by omega))⟩
/-- each the next one's own -/
def Chn (A : List (Option Nat)) : List Nat → Prop
  | [] => False
  | [x] => A[x]? = some none
  | x :: y :: r => A[x]? = some (some y) ∧ Chn A (y :: r)
theorem mid {α : Type} {P Q : List α} {x : α} {n : Nat} (h : P.length = n) : (P ++ x :: Q)[n]? = some x := by subst h; simp
theorem T.chains : ∀ (t : T) (A P Q : List (Option Nat)) (up : List Nat), A = P ++ (T.ahdI P.length t ++ up.head? :: Q) → (up = [] ∨ Chn A up) → ∀ (j : Nat) (ln : List Nat), (T.lines P.length up t)[j]? = some ln → ln.head? = some (P.length + j) ∧ Chn A ln
  | .leaf w, A, P, Q, up, hA, hup, j, ln, h => by
    have : j = 0 ∧ ln = P.length :: up := by
      cases j with
      | zero => cases h; exact ⟨rfl, rfl⟩
      | succ j => simp [T.lines] at h
    obtain ⟨rfl, rfl⟩ := this
    refine ⟨rfl, ?_⟩
    have e : A[P.length]? = some up.head? := by rw [hA]; exact mid rfl
    cases up with
    | nil => exact e
    | cons y r => exact ⟨e, hup.resolve_left (by simp)⟩
  | .node l r, A, P, Q, up, hA, hup, j, ln, h => by
    have c1 := T.ahdI_len l P.length
    have c2 := T.ahdI_len r (P.length + l.cnt)
    have p1 := l.cnt_pos
    have p2 := r.cnt_pos
    let last := P.length + l.cnt + r.cnt
    simp only [T.ahdI] at hA
    have eA : A = P ++ (T.ahdI P.length l ++ some last :: (T.ahdI (P.length + l.cnt) r ++ some last :: up.head? :: Q)) := by rw [hA]; simp [last]
    have eA2 : A = (P ++ T.ahdI P.length l ++ [some last]) ++ (T.ahdI (P ++ T.ahdI P.length l ++ [some last]).length r ++ some last :: up.head? :: Q) := by
      rw [eA, show (P ++ T.ahdI P.length l ++ [some last]).length = P.length + l.cnt by simp; omega]
      simp
    have eA3 : A = (P ++ T.ahdI P.length l ++ [some last] ++ T.ahdI (P.length + l.cnt) r ++ [some last]) ++ up.head? :: Q := by rw [eA]; simp
    have el : A[last]? = some up.head? := by rw [eA3]; exact mid (by simp; omega)
    have hup2 : Chn A (last :: up) := by
      cases up with
      | nil => exact el
      | cons y r => exact ⟨el, hup.resolve_left (by simp)⟩
    have i1 := T.chains l A P (T.ahdI (P.length + l.cnt) r ++ some last :: up.head? :: Q) (last :: up) eA (.inr hup2)
    have i2 := T.chains r A (P ++ T.ahdI P.length l ++ [some last]) (up.head? :: Q) (last :: up) eA2 (.inr hup2)
    rw [show (P ++ T.ahdI P.length l ++ [some last]).length = P.length + l.cnt by simp; omega] at i2
    have L1 := T.lines_len l P.length (last :: up)
    have L2 := T.lines_len r (P.length + l.cnt) (last :: up)
    rcases three h with ⟨a1, a2⟩ | ⟨a, a1, a2, a3⟩ | ⟨a1, a2⟩
    · exact i1 j ln a2
    · have := i2 a ln a3
      refine ⟨?_, this.2⟩
      rw [this.1, a1, L1, Nat.add_assoc]
    · subst a2
      refine ⟨?_, hup2⟩
      rw [a1, L1, L2]
      simp only [List.head?_cons, last]
      congr 1
      omega
theorem T.line_of (t : T) {h : Nat} {ln : List Nat} (e : (T.lines 0 [] t)[h]? = some ln) : ln.head? = some h ∧ Chn t.ahead ln := by
  have := T.chains t t.ahead [] [] [] (by simp [T.ahead]) (.inl rfl) h ln e
  simpa using this
end M

namespace Q
open PySem hiding Env
open L2 M
noncomputable def b1_ahead_of : MS :=
  (mIfS (mtTru (mCall biIsi (mCons (mVar 4) (mCons (mC (.ty "tuple")) mNil)))) (mSeq (mSetIx (mVar 3) (mVar 2) (mBin opIx (mVar 4) (mC (.int 0))))
  (mSetIx (mVar 3) (mVar 2) (mBin opIx (mVar 4) (mC (.int 1))))) mSkip)
noncomputable def m_ahead_of (g_nodes : List R → Store → Out R) : MS :=
  (mSeq (mSet 1 (mCall g_nodes (mCons (mVar 0) mNil)))
  (mSeq (mSet 2 (mBin opMul (mLstV (mCons (mC .non) mNil)) (mCall biLen (mCons (mVar 1) mNil))))
  (mSeq (mFor (srcEnum (mCons (mVar 1) mNil)) (tgT [(tgN 3), (tgN 4)]) b1_ahead_of)
  (mRet (mCall biTuple (mCons (mVar 2) mNil))))))
noncomputable def M_ahead_of : List R → Store → Out R := mDefV 5 (m_ahead_of M_nodes)
noncomputable def b1_line_up : MS :=
  (mSeq (mDrop (mMeth "list" mtAppend (mVar 2) (mCons (mVar 1) mNil)))
  (mSet 1 (mBin opIx (mVar 0) (mVar 1))))
noncomputable def m_line_up : MS :=
  (mSeq (mSet 2 (mLst mNil))
  (mSeq (mWhile (mtB (mBin opIsNot (mVar 1) (mC .non))) b1_line_up)
  (mRet (mVar 2))))
noncomputable def M_line_up : List R → Store → Out R := mDefV 3 (m_line_up)
noncomputable def m_name_of : MS :=
  (mSeq (mIfS (mtTru (mCall biIsi (mCons (mVar 0) (mCons (mC (.ty "str")) mNil)))) (mRet (mVar 0)) mSkip)
  (mRet (mVar 1)))
noncomputable def M_name_of : List R → Store → Out R := mDefV 2 (m_name_of)
noncomputable def m_straight_under : MS :=
  (mSeq (mIfS (mtTru (mCall biIsi (mCons (mVar 0) (mCons (mC (.ty "str")) mNil)))) (mRet (mTup mNil)) mSkip)
  (mRet (mVar 0)))
noncomputable def M_straight_under : List R → Store → Out R := mDefV 1 (m_straight_under)
noncomputable def b1_ground (g_name_of : List R → Store → Out R) (g_straight_under : List R → Store → Out R) : MS :=
  (mSeq (mSetP 6 (mLc (srcRange1 (mCons (mCall biLen (mCons (mVar 2) mNil)) mNil)) [7] (tgN 7) (mtAnd (mtB (mBin opNotIn (mVar 7) (mBin opIx (mVar 2) (mVar 4)))) (mtB (mBin opNotIn (mVar 4) (mBin opIx (mVar 2) (mVar 7))))) (mVar 7)))
  (mDrop (mMeth "list" mtAppend (mVar 3) (mCons (mTup (mCons (mCall g_name_of (mCons (mVar 5) (mCons (mVar 4) mNil))) (mCons (mC (.int 0)) (mCons (mCall g_straight_under (mCons (mVar 5) mNil)) (mCons (mCall biTuple (mCons (mVar 6) mNil)) mNil))))) mNil))))
noncomputable def m_ground (g_ahead_of : List R → Store → Out R) (g_line_up : List R → Store → Out R) (g_nodes : List R → Store → Out R) (g_straight_under : List R → Store → Out R) (g_name_of : List R → Store → Out R) : MS :=
  (mSeq (mSet 1 (mCall g_ahead_of (mCons (mVar 0) mNil)))
  (mSeq (mSet 2 (mPop (mLc (srcRange1 (mCons (mCall biLen (mCons (mVar 1) mNil)) mNil)) [4] (tgN 4) mtYes (mCall g_line_up (mCons (mVar 1) (mCons (mVar 4) mNil))))))
  (mSeq (mSet 3 (mLst mNil))
  (mSeq (mFor (srcEnum (mCons (mCall g_nodes (mCons (mVar 0) mNil)) mNil)) (tgT [(tgN 4), (tgN 5)]) (b1_ground g_name_of g_straight_under))
  (mRet (mCall biTuple (mCons (mVar 3) mNil)))))))
noncomputable def M_ground : List R → Store → Out R := mDefV 8 (m_ground M_ahead_of M_line_up M_nodes M_straight_under M_name_of)
end Q
namespace M
open PySem PySem.Spec L2
open PyProof.Rows hiding St
/-- a for's turns over xs, none of which breaks -/
def Runs (t : TgM) (body : MS) (xs : List R) (m : Env) (S : Store) (m' : Env) (S' : Store) : Prop := ∀ ys, mForGo [] t body (xs ++ ys) m S = mForGo [] t body ys m' S'
theorem Runs.nil {t : TgM} {body : MS} {m : Env} {S : Store} : Runs t body [] m S m S := fun ys => rfl
theorem Runs.app {t : TgM} {body : MS} {xs ys : List R} {m m1 m2 : Env} {S S1 S2 : Store} (h1 : Runs t body xs m S m1 S1) (h2 : Runs t body ys m1 S1 m2 S2) : Runs t body (xs ++ ys) m S m2 S2 := fun zs => by
  rw [List.append_assoc, h1, h2]
theorem Runs.one {t : TgM} {body : MS} {d : R} {m m1 m2 : Env} {S S2 : Store} (h1 : t d m = some m1) (h2 : body m1 S = .nx m2 S2) : Runs t body [d] m S m2 S2 := fun zs => by
  rw [List.singleton_append]
  conv => lhs; unfold mForGo
  rw [if_pos (show pinsOk [] S from trivial), h1]
  simp only [h2]
theorem Runs.end {t : TgM} {body : MS} {xs : List R} {m m1 : Env} {S S1 : Store} (h : Runs t body xs m S m1 S1) : mForGo [] t body xs m S = .nx m1 S1 := by
  have := h []
  rw [List.append_nil] at this
  rw [this]
  unfold mForGo
  rw [if_pos (show pinsOk [] S1 from trivial)]
def enumF (k : Nat) (ds : List D) : List R := (ds.zipIdx k).map fun p => .v (.tup [.int (p.2 : Int), p.1])
theorem enumI_F (ds : List D) : enumI ds = enumF 0 ds := rfl
theorem enumF_app (k : Nat) (xs ys : List D) : enumF k (xs ++ ys) = enumF k xs ++ enumF (k + xs.length) ys := by
  unfold enumF
  rw [List.zipIdx_append, List.map_append]
theorem enumF_one (k : Nat) (d : D) : enumF k [d] = [.v (.tup [.int (k : Int), d])] := rfl
theorem set_mid {α : Type} {P Q : List α} {x y : α} {n : Nat} (h : P.length = n) : (P ++ x :: Q).set n y = P ++ y :: Q := by
  subst h
  rw [List.set_append_right _ _ (Nat.le_refl _), Nat.sub_self]
  rfl
theorem any_ints (w : Int) : ∀ ws : List Int, ((ws.map PyData.int).any fun z => PyData.eqv z (.int w)) = decide (w ∈ ws)
  | [] => rfl
  | x :: ws => by
    rw [List.map_cons, List.any_cons, any_ints w ws]
    have : PyData.eqv (.int x) (.int w) = decide (x = w) := by
      rw [PyData.eqv]
      by_cases h : x = w
      · subst h; simp
      · simp [h]
    rw [this]
    by_cases h : x = w
    · subst h; simp
    · have h' : ¬ w = x := fun e => h e.symm
      simp [h, h', List.mem_cons]
theorem pyS_lints (ns : List Int) : D.pyS (.lst (ns.map D.int)) = some (.list (ns.map PyData.int)) := by
  have h := lay_ints ns
  unfold D.pyS
  rw [show D.py (.lst (ns.map D.int)) = some (.list (ns.map PyData.int)) by simp [D.py, pys_ints]]
  simp [SeqAt.shaped, PyData.canLay0, PyData.depth, h.1, h.2]
theorem pyS_tints (ns : List Int) : D.pyS (.tup (ns.map D.int)) = some (.tuple (ns.map PyData.int)) := by
  have h := lay_ints ns
  unfold D.pyS
  rw [show D.py (.tup (ns.map D.int)) = some (.tuple (ns.map PyData.int)) by simp [D.py, pys_ints]]
  simp [SeqAt.shaped, PyData.canLay0, PyData.depth, h.1, h.2]
theorem opIn_ints {S : Store} {w : Int} {ws : List Int} {e : D} (he : e = .lst (ws.map D.int) ∨ e = .tup (ws.map D.int)) :
    opIn (.v (.int w)) (.v e) S = .ok (.v (.bl (decide (w ∈ ws)))) S ∧ opNotIn (.v (.int w)) (.v e) S = .ok (.v (.bl (!decide (w ∈ ws)))) S := by
  have key : inM S (.v (.int w)) (.v e) = some (decide (w ∈ ws)) := by
    rcases he with rfl | rfl
    · simp only [inM, pyOf_v, pyS_int, pyS_lints, Option.bind_some, seqPy, any_ints]
    · simp only [inM, pyOf_v, pyS_int, pyS_tints, Option.bind_some, seqPy, any_ints]
  exact ⟨by unfold opIn; rw [key], by unfold opNotIn; rw [key]⟩
/-- numbers as data -/
def natD (n : Nat) : D := .int (n : Int)
theorem natD_ints (ns : List Nat) : ns.map natD = (ns.map fun n : Nat => (n : Int)).map D.int := by rw [List.map_map]; rfl
theorem opIn_nats {S : Store} {w : Nat} {ws : List Nat} {e : D} (he : e = .lst (ws.map natD) ∨ e = .tup (ws.map natD)) :
    opIn (.v (.int (w : Int))) (.v e) S = .ok (.v (.bl (decide (w ∈ ws)))) S ∧ opNotIn (.v (.int (w : Int))) (.v e) S = .ok (.v (.bl (!decide (w ∈ ws)))) S := by
  have := opIn_ints (S := S) (w := (w : Int)) (ws := ws.map fun n : Nat => (n : Int)) (e := e) (by rw [← natD_ints]; exact he)
  have e : decide ((w : Int) ∈ ws.map fun n : Nat => (n : Int)) = decide (w ∈ ws) := by
    apply Bool.eq_iff_iff.mpr
    simp only [decide_eq_true_eq, List.mem_map]
    constructor
    · rintro ⟨a, h, e⟩
      have : a = w := by omega
      rwa [this] at h
    · intro h
      exact ⟨w, h, rfl⟩
  rwa [e] at this
end M
namespace Q
open PySem hiding Env
open L2 M
theorem ahead_seg : ∀ (t : T) (P Q : List D) (S : Store) (a0 a1 w3 w4 : Option R), P.length + t.cnt + Q.length ≤ 10000000 →
    ∃ w3' w4', Runs (tgT [tgN 3, tgN 4]) b1_ahead_of (enumF P.length (T.nodesFrom P.length t)) [a0, a1, some (.ref S.length), w3, w4] (S ++ [.lst ((P ++ (List.replicate t.cnt D.non ++ Q)).map .v)])
      [a0, a1, some (.ref S.length), w3', w4'] (S ++ [.lst ((P ++ ((T.ahdI P.length t).map oD ++ .non :: Q)).map .v)])
  | .leaf w, P, Q, S, a0, a1, w3, w4, hz => by
    refine ⟨some (.v (.int (P.length : Int))), some (.v (.str w)), Runs.one (m1 := [a0, a1, some (.ref S.length), some (.v (.int (P.length : Int))), some (.v (.str w))]) rfl ?_⟩
    simp [b1_ahead_of, T.ahdI, T.cnt]
  | .node l r, P, Q, S, a0, a1, w3, w4, hz => by
    simp only [T.cnt] at hz
    have c1 := T.ahdI_len l P.length
    have c2 := T.ahdI_len r (P.length + l.cnt)
    have p1 := l.cnt_pos
    have p2 := r.cnt_pos
    obtain ⟨x3, x4, h1⟩ := ahead_seg l P (List.replicate r.cnt .non ++ .non :: Q) S a0 a1 w3 w4 (by simp; omega)
    have hL : (P ++ (T.ahdI P.length l).map oD ++ [D.non]).length = P.length + l.cnt := by simp; omega
    obtain ⟨y3, y4, h2⟩ := ahead_seg r (P ++ (T.ahdI P.length l).map oD ++ [.non]) (.non :: Q) S a0 a1 x3 x4 (by rw [hL]; simp; omega)
    rw [hL] at h2
    have e1 : P ++ (List.replicate (T.node l r).cnt D.non ++ Q) = P ++ (List.replicate l.cnt D.non ++ (List.replicate r.cnt .non ++ .non :: Q)) := by
      simp only [T.cnt]
      rw [← List.replicate_append_replicate, ← List.replicate_append_replicate, show List.replicate 1 D.non = [D.non] from rfl]
      simp only [List.append_assoc, List.cons_append, List.nil_append]
    have e2 : P ++ ((T.ahdI P.length l).map oD ++ D.non :: (List.replicate r.cnt .non ++ .non :: Q)) = P ++ (T.ahdI P.length l).map oD ++ [.non] ++ (List.replicate r.cnt .non ++ .non :: Q) := by simp
    rw [← e1] at h1
    rw [e2] at h1
    have h3 := h1.app h2
    let last : Nat := P.length + l.cnt + r.cnt
    let A : List D := P ++ (T.ahdI P.length l).map oD
    let B : List D := (T.ahdI (P.length + l.cnt) r).map oD
    have hA : A.length = P.length + l.cnt - 1 := by simp [A]; omega
    have hB : B.length + 1 = r.cnt := by simp [B]; omega
    have e3 : P ++ (T.ahdI P.length l).map oD ++ [D.non] ++ ((T.ahdI (P.length + l.cnt) r).map oD ++ .non :: .non :: Q) = A ++ .non :: (B ++ .non :: .non :: Q) := by simp [A, B]
    rw [e3] at h3
    have hS1 : (A ++ D.non :: (B ++ .non :: .non :: Q)).length ≤ 10000000 := by simp [hA]; omega
    have g1 := get_len S (.lst ((A ++ D.non :: (B ++ .non :: .non :: Q)).map R.v)) []
    have s1 : setIx (.ref S.length) (.v (.int ((P.length + l.cnt - 1 : Nat) : Int))) (.v (.int (last : Int))) (S ++ [.lst ((A ++ D.non :: (B ++ .non :: .non :: Q)).map .v)]) = some (S ++ [.lst ((A ++ D.int last :: (B ++ .non :: .non :: Q)).map .v)]) := by
      rw [setIx_ref g1 (by omega) (by simp [hA]; omega), set_len]
      congr 4
      rw [← List.map_set, show ((P.length + l.cnt - 1 : Nat) : Int).toNat = P.length + l.cnt - 1 by omega, set_mid hA]
    have g2 := get_len S (.lst ((A ++ D.int last :: (B ++ .non :: .non :: Q)).map R.v)) []
    have s2 : setIx (.ref S.length) (.v (.int ((P.length + l.cnt + r.cnt - 1 : Nat) : Int))) (.v (.int (last : Int))) (S ++ [.lst ((A ++ D.int last :: (B ++ .non :: .non :: Q)).map .v)]) = some (S ++ [.lst ((A ++ D.int last :: (B ++ .int last :: .non :: Q)).map .v)]) := by
      rw [setIx_ref g2 (by omega) (by simp [hA]; omega), set_len]
      congr 4
      rw [← List.map_set, show ((P.length + l.cnt + r.cnt - 1 : Nat) : Int).toNat = P.length + l.cnt + r.cnt - 1 by omega]
      congr 1
      rw [show A ++ D.int last :: (B ++ .non :: .non :: Q) = (A ++ D.int last :: B) ++ .non :: .non :: Q by simp, set_mid (by simp [hA]; omega)]
      simp
    have hroot := Runs.one (t := tgT [tgN 3, tgN 4]) (body := b1_ahead_of) (d := .v (.tup [.int (last : Int), .tup [.int ((P.length + l.cnt - 1 : Nat) : Int), .int ((P.length + l.cnt + r.cnt - 1 : Nat) : Int)]])) (m := [a0, a1, some (.ref S.length), y3, y4])
      (m1 := [a0, a1, some (.ref S.length), some (.v (.int (last : Int))), some (.v (.tup [.int ((P.length + l.cnt - 1 : Nat) : Int), .int ((P.length + l.cnt + r.cnt - 1 : Nat) : Int)]))])
      (m2 := [a0, a1, some (.ref S.length), some (.v (.int (last : Int))), some (.v (.tup [.int ((P.length + l.cnt - 1 : Nat) : Int), .int ((P.length + l.cnt + r.cnt - 1 : Nat) : Int)]))])
      (S := S ++ [.lst ((A ++ D.non :: (B ++ .non :: .non :: Q)).map .v)]) (S2 := S ++ [.lst ((A ++ D.int last :: (B ++ .int last :: .non :: Q)).map .v)]) rfl (by
        simp only [b1_ahead_of, mIfS_eq, mtTru_eq, mCall_eq, mCons_eq, mVar_eq, mC_eq, mNil_eq, List.getElem?_cons_succ, List.getElem?_cons_zero, Out.bind_ok, isi_tup_tup, truM_bl, thenS_ok, mSeq_eq, mSetIx_eq, mBin_eq, opIx_tup (atI_0 _ _), opIx_tup (atI_1 _ _ _), s1, s2])
    have h4 := h3.app hroot
    have e4 : enumF P.length (T.nodesFrom P.length l) ++ enumF (P.length + l.cnt) (T.nodesFrom (P.length + l.cnt) r) ++ [R.v (.tup [.int (last : Int), .tup [.int ((P.length + l.cnt - 1 : Nat) : Int), .int ((P.length + l.cnt + r.cnt - 1 : Nat) : Int)]])] = enumF P.length (T.nodesFrom P.length (.node l r)) := by
      simp only [T.nodesFrom]
      rw [enumF_app, enumF_app, List.length_append, T.nodesFrom_len, T.nodesFrom_len, enumF_one, ← Nat.add_assoc]
    have e5 : A ++ D.int last :: (B ++ .int last :: .non :: Q) = P ++ ((T.ahdI P.length (.node l r)).map oD ++ .non :: Q) := by simp [A, B, T.ahdI, oD, last]
    rw [e4, e5] at h4
    exact ⟨_, _, h4⟩
theorem ahead_of_spec {t : T} {S : Store} (hd : t.depth < 70) (hz : t.ls.length ≤ 100000) : M_ahead_of [.v t.d] S = .ok (.v (.tup (t.ahead.map oD))) S := by
  have e1 := nodes_spec (S := S) hd (by omega)
  have c := t.cnt_ls
  have hn := t.nodes_len
  obtain ⟨w3, w4, h⟩ := ahead_seg t [] [] S (some (.v t.d)) (some (.v (.tup t.nodes))) none none (by simp; omega)
  have h1 := h.end
  simp only [List.length_nil, List.nil_append, List.append_nil] at h1
  have ml : opMul (.v (.lst [D.non])) (.v (.int (t.cnt : Int))) S = .ok (.ref S.length) (S ++ [.lst ((List.replicate t.cnt D.non).map .v)]) := by
    unfold opMul
    simp only
    rw [if_pos ⟨by omega, by omega, sz_of (by simp; omega)⟩]
    congr 4
    unfold repR
    rw [show ((t.cnt : Nat) : Int).toNat = t.cnt by omega]
    rw [List.map_replicate]
    simp [List.flatten_replicate_singleton]
  have g := get_len S (.lst (((T.ahdI 0 t).map oD ++ [D.non]).map R.v)) []
  have hfin : t.ahead.map oD = (T.ahdI 0 t).map oD ++ [.non] := by simp [T.ahead, oD]
  rw [hfin]
  have h1' : mForGo [] (tgT [tgN 3, tgN 4]) b1_ahead_of (enumI t.nodes) [some (.v t.d), some (.v (.tup t.nodes)), some (.ref S.length), none, none] (S ++ [.lst ((List.replicate t.cnt D.non).map .v)]) = .nx [some (.v t.d), some (.v (.tup t.nodes)), some (.ref S.length), w3, w4] (S ++ [.lst (((T.ahdI 0 t).map oD ++ [D.non]).map R.v)]) := h1
  refine mDefV_rtG [.lst (((T.ahdI 0 t).map oD ++ [D.non]).map .v)] ?_ (.refl S)
  simp only [m_ahead_of, List.map_cons, List.map_nil, List.length_cons, List.length_nil, List.replicate, List.cons_append, List.nil_append, Nat.reduceAdd, Nat.reduceSub, mSeq_eq, mSet_eq, mCall_eq, mCons_eq, mVar_eq, mNil_eq, mC_eq, List.getElem?_cons_succ, List.getElem?_cons_zero, Out.bind_ok, e1, thenS_ok, List.set_cons_succ, List.set_cons_zero, mBin_eq, mLstV_eq, frzO_1, Nat.zero_add, sz1, if_true, biLen_tup, hn, ml, mFor_eq, srcEnum_eq, en1_tup, h1', mRet_eq, biTuple_ref g]
theorem line_up_spec {A : List (Option Nat)} {ln : List Nat} {S : Store} (h : Chn A ln) (hl : ln.length < 100000) : M_line_up [.v (.tup (A.map oD)), .v (natD (ln.headD 0))] S = .ok (.v (.lst (ln.map natD))) S := by
  let cur : List Nat → R := fun r => match r with
    | [] => .v .non
    | x :: _ => .v (natD x)
  obtain ⟨m', S', eL, dn, rest, hS, hm, hdr, hr, _⟩ := while_dec' (t := mtB (mBin opIsNot (mVar 1) (mC (.v .non)))) (body := b1_line_up)
    (fun j m X => ∃ (dn rest : List Nat), X = S ++ [.lst ((dn.map natD).map .v)] ∧ m = [some (.v (.tup (A.map oD))), some (cur rest), some (.ref S.length)] ∧ dn ++ rest = ln ∧ rest.length = j ∧ (rest = [] ∨ Chn A rest))
    ln.length (m := [some (.v (.tup (A.map oD))), some (cur ln), some (.ref S.length)]) (S := S ++ [.lst []]) ⟨[], ln, rfl, rfl, rfl, rfl, .inr h⟩ (by omega)
    (by
      rintro m X ⟨dn, rest, rfl, rfl, _, hr, _⟩
      have : rest = [] := List.eq_nil_of_length_eq_zero hr
      subst this
      rfl)
    (by
      rintro j m X ⟨dn, rest, rfl, rfl, hdr, hr, hc⟩
      match rest, hr with
      | x :: r, hr =>
        refine ⟨rfl, ?_⟩
        have hc : Chn A (x :: r) := hc.resolve_left (by simp)
        have gt := get_len S (.lst ((dn.map natD).map R.v)) []
        have dl : dn.length + (x :: r).length = ln.length := by rw [← hdr, List.length_append]
        have ap : mtAppend (.ref S.length) [.v (natD x)] (S ++ [.lst ((dn.map natD).map .v)]) = .ok (.v .non) (S ++ [.lst (((dn ++ [x]).map natD).map .v)]) := by
          rw [mtAppend_ref gt (sz_lt (by simp at dl ⊢; omega)), set_len]
          simp
        have nxt : opIx (.v (.tup (A.map oD))) (.v (.int (x : Int))) (S ++ [.lst (((dn ++ [x]).map natD).map .v)]) = .ok (cur r) (S ++ [.lst (((dn ++ [x]).map natD).map .v)]) := by
          cases r with
          | nil =>
            refine opIx_tup ?_
            have hc : A[x]? = some none := hc
            rw [atI_map, atI_lt (by omega), show ((x : Nat) : Int).toNat = x by omega, hc]
            rfl
          | cons y r =>
            refine opIx_tup ?_
            have hc : A[x]? = some (some y) := hc.1
            rw [atI_map, atI_lt (by omega), show ((x : Nat) : Int).toNat = x by omega, hc]
            rfl
        refine ⟨_, _, ?_, dn ++ [x], r, rfl, rfl, by rw [← hdr]; simp, by simpa using hr, ?_⟩
        · have hcur : cur (x :: r) = .v (.int (x : Int)) := rfl
          have ap' : mtAppend (.ref S.length) [.v (.int (x : Int))] (S ++ [.lst ((dn.map natD).map .v)]) = .ok (.v .non) (S ++ [.lst (((dn ++ [x]).map natD).map .v)]) := ap
          simp only [b1_line_up, hcur, mSeq_eq, mDrop_eq, mMeth_eq, mVar_eq, List.getElem?_cons_succ, List.getElem?_cons_zero, Out.bind_ok, tyOk_lst gt, if_true, mCons_eq, mNil_eq, ap', thenS_ok, mSet_eq, mBin_eq, nxt, List.set_cons_succ, List.set_cons_zero]
        · cases r with
          | nil => exact .inl rfl
          | cons y r => exact .inr hc.2)
  have : rest = [] := List.eq_nil_of_length_eq_zero hr
  subst this
  rw [List.append_nil] at hdr
  subst hS hm hdr
  have hh : cur dn = .v (natD (dn.headD 0)) := by
    cases dn with
    | nil => exact h.elim
    | cons x r => rfl
  rw [hh] at eL
  refine mDefV_rtL (n := S.length) (xs := dn.map natD) [.lst ((dn.map natD).map .v)] ?_ (get_len _ _ _) (Nat.le_refl _) (.refl S)
  simp only [m_line_up, List.map_cons, List.map_nil, List.length_cons, List.length_nil, List.replicate, List.cons_append, List.nil_append, Nat.reduceAdd, Nat.reduceSub, mSeq_eq, mSet_eq, mLst_eq, mNil_eq, Out.bind_ok, Nat.zero_le, sz0, if_true, thenS_ok, List.set_cons_succ, List.set_cons_zero, eL, mRet_eq, mVar_eq, List.getElem?_cons_succ, List.getElem?_cons_zero]
end Q
namespace M
open PySem PySem.Spec L2
open PyProof.Rows hiding St
def T.lns (t : T) : List (List Nat) := T.lines 0 [] t
def stayD (h : Nat) (d : D) (oth : List Nat) : D := .tup [if isStr d = true then d else natD h, .int 0, if isStr d = true then .tup [] else d, .tup (oth.map natD)]
/-- beside a house -/
def T.aside (t : T) (h : Nat) : List Nat := (List.range t.cnt).filter fun o => !decide (o ∈ t.lns.getD h []) && !decide (h ∈ t.lns.getD o [])
def T.ground (t : T) : List D := t.nodes.zipIdx.map fun p => stayD p.2 p.1 (t.aside p.2)
theorem T.lns_len (t : T) : t.lns.length = t.cnt := T.lines_len t 0 []
theorem range_getD {α : Type} (xs : List α) (z : α) : ((List.range xs.length).map fun i => xs.getD i z) = xs := by
  refine List.ext_getElem (by simp) fun i h1 h2 => ?_
  simp at h1
  simp [h1]
theorem T.notTy_nodes (t : T) (k : Nat) : ∀ x ∈ T.nodesFrom k t, notTy x = true := by
  induction t generalizing k with
  | leaf w => intro x hx; simp only [T.nodesFrom, List.mem_singleton] at hx; subst hx; rfl
  | node l r h1 h2 =>
    intro x hx
    simp only [T.nodesFrom, List.mem_append, List.mem_singleton] at hx
    rcases hx with (hx | hx) | rfl
    · exact h1 _ x hx
    · exact h2 _ x hx
    · rfl
end M
namespace Q
open PySem hiding Env
open L2 M
theorem name_of_spec {d x : D} (h : notTy d = true) (S : Store) : M_name_of [.v d, .v x] S = .ok (.v (if isStr d = true then d else x)) S := by
  refine mDefV_rt0 ?_
  have e := isi_str d h S
  cases hs : isStr d <;> simp [m_name_of, e, hs]
theorem straight_under_spec {d : D} (h : notTy d = true) (S : Store) : M_straight_under [.v d] S = .ok (.v (if isStr d = true then .tup [] else d)) S := by
  refine mDefV_rt0 ?_
  have e := isi_str d h S
  cases hs : isStr d <;> simp [m_straight_under, e, hs]
theorem line_get {t : T} {h : Nat} (hh : h < t.cnt) : ∃ ln, t.lns[h]? = some ln ∧ t.lns.getD h [] = ln ∧ ln.headD 0 = h ∧ Chn t.ahead ln ∧ ln.length ≤ t.cnt := by
  have hl := t.lns_len
  have e : t.lns[h]? = some (t.lns[h]'(by omega)) := List.getElem?_eq_getElem (by omega)
  obtain ⟨h1, h2⟩ := T.line_of t e
  refine ⟨_, e, by rw [List.getD_eq_getElem?_getD, e]; rfl, ?_, h2, ?_⟩
  · generalize t.lns[h] = ln at h1
    cases ln with
    | nil => cases h1
    | cons x r => simpa using h1
  · -- no node twice on a line
    have key : ∀ (u : T) (k : Nat) (up ln : List Nat), ln ∈ T.lines k up u → ln.length ≤ u.cnt + up.length := by
      intro u
      induction u with
      | leaf w => intro k up ln h; simp only [T.lines, List.mem_singleton] at h; subst h; simp [T.cnt]; omega
      | node l r h1 h2 =>
        intro k up ln h
        simp only [T.lines, List.mem_append, List.mem_singleton] at h
        simp only [T.cnt]
        rcases h with (h | h) | rfl
        · have := h1 _ _ ln h; simp only [List.length_cons] at this; omega
        · have := h2 _ _ ln h; simp only [List.length_cons] at this; omega
        · simp only [List.length_cons]; omega
    have := key t 0 [] _ (List.mem_of_getElem? e)
    simpa using this
theorem ground_spec {t : T} {S : Store} (hd : t.depth < 70) (hz : t.ls.length ≤ 10000) : M_ground [.v t.d] S = .ok (.v (.tup t.ground)) S := by
  have e1 := ahead_of_spec (S := S) hd (by omega)
  have c := t.cnt_ls
  have hn := t.nodes_len
  have hal : (t.ahead.map oD).length = t.cnt := by simp [T.ahead]; exact t.ahdI_len 0
  have hll := t.lns_len
  -- the lines
  have lc := lc_map (S := S) (t := tgN 4) (c := mtYes) (f := mCall M_line_up (mCons (mVar 1) (mCons (mVar 4) mNil))) (m := [some (.v t.d), some (.v (.tup (t.ahead.map oD))), none, none, none, none, none, none]) (fun k : Nat => .v (.int (0 + (k : Int)))) (fun _ => true) (fun k => .lst ((t.lns.getD k []).map natD)) (List.range t.cnt) (sz_of (by simp; omega)) (by
    intro k hk acc
    have hk : k < t.cnt := by simpa using hk
    obtain ⟨ln, _, e2, e3, e4, e5⟩ := line_get hk
    refine ⟨_, rfl, rfl, fun _ => ?_⟩
    have q := line_up_spec (A := t.ahead) (ln := ln) (S := S ++ [.lst acc]) e4 (by omega)
    rw [e3] at q
    rw [e2]
    simp only [mCall_eq, mCons_eq, mVar_eq, mNil_eq, List.set_cons_succ, List.set_cons_zero, List.getElem?_cons_succ, List.getElem?_cons_zero, Out.bind_ok, Int.zero_add]
    exact q)
  rw [List.filter_eq_self.mpr (by simp)] at lc
  have hLL : ((List.range t.cnt).map fun k => D.lst ((t.lns.getD k []).map natD)) = t.lns.map fun ln => D.lst (ln.map natD) := by
    conv => rhs; rw [← range_getD t.lns []]
    rw [List.map_map, hll]; rfl
  rw [hLL] at lc
  let LL : D := .lst (t.lns.map fun ln => D.lst (ln.map natD))
  have ixL : ∀ (k : Nat) (S : Store), k < t.cnt → opIx (.v LL) (.v (.int (k : Int))) S = .ok (.v (.lst ((t.lns.getD k []).map natD))) S := fun k S hk => opIx_lst (by
    obtain ⟨ln, e1, e2, _⟩ := line_get hk
    rw [atI_map, atI_lt (by omega), show ((k : Nat) : Int).toNat = k by omega, e1, e2]; rfl)
  -- the stays
  obtain ⟨m', S', eL, hS', w4, w5, w6, w7, hm'⟩ := for_inv (t := tgT [tgN 4, tgN 5]) (body := b1_ground M_name_of M_straight_under) (ds := enumI t.nodes) (m := [some (.v t.d), some (.v (.tup (t.ahead.map oD))), some (.v LL), some (.ref S.length), none, none, none, none]) (S := S ++ [.lst []])
    (fun i m X => X = S ++ [.lst ((t.ground.take i).map .v)] ∧ ∃ w4 w5 w6 w7, m = [some (.v t.d), some (.v (.tup (t.ahead.map oD))), some (.v LL), some (.ref S.length), w4, w5, w6, w7]) ⟨rfl, _, _, _, _, rfl⟩ (by
      rintro h d m X hdd ⟨rfl, w4, w5, w6, w7, rfl⟩
      rw [enumI_get] at hdd
      obtain ⟨nd, hnd, rfl⟩ := Option.map_eq_some_iff.mp hdd
      have hh : h < t.cnt := by rw [← hn]; exact (List.getElem?_eq_some_iff.mp hnd).1
      have nty : notTy nd = true := T.notTy_nodes t 0 nd (List.mem_of_getElem? hnd)
      have gt := get_len S (.lst ((t.ground.take h).map R.v)) []
      have lc2 := lc_map (S := S ++ [.lst ((t.ground.take h).map .v)]) (t := tgN 7) (c := mtAnd (mtB (mBin opNotIn (mVar 7) (mBin opIx (mVar 2) (mVar 4)))) (mtB (mBin opNotIn (mVar 4) (mBin opIx (mVar 2) (mVar 7))))) (f := mVar 7)
        (m := [some (.v t.d), some (.v (.tup (t.ahead.map oD))), some (.v LL), some (.ref S.length), some (.v (.int (h : Int))), some (.v nd), w6, none]) (fun k : Nat => .v (.int (0 + (k : Int)))) (fun o => !decide (o ∈ t.lns.getD h []) && !decide (h ∈ t.lns.getD o [])) (fun k => natD k) (List.range t.cnt) (sz_of (by simp; omega)) (by
          intro o ho acc
          have ho : o < t.cnt := by simpa using ho
          have q1 := (opIn_nats (S := S ++ [.lst ((t.ground.take h).map .v)] ++ [.lst acc]) (w := o) (ws := t.lns.getD h []) (.inl rfl)).2
          have q2 := (opIn_nats (S := S ++ [.lst ((t.ground.take h).map .v)] ++ [.lst acc]) (w := h) (ws := t.lns.getD o []) (.inl rfl)).2
          refine ⟨_, rfl, ?_, fun _ => ?_⟩
          · simp only [Int.zero_add, mtAnd_eq, mtB_eq, mBin_eq, mVar_eq, List.set_cons_succ, List.set_cons_zero, List.getElem?_cons_succ, List.getElem?_cons_zero, Out.bind_ok, ixL h _ hh, ixL o _ ho, q1, q2, onBl_bl]
            cases decide (o ∈ t.lns.getD h []) <;> rfl
          · simp only [Int.zero_add, mVar_eq, List.set_cons_succ, List.set_cons_zero, List.getElem?_cons_succ, List.getElem?_cons_zero]
            rfl)
      have hst : t.ground[h]? = some (stayD h nd (t.aside h)) := by
        simp only [T.ground, List.getElem?_map, List.getElem?_zipIdx, hnd, Option.map_some, Nat.zero_add]
      have htk : t.ground.take (h + 1) = t.ground.take h ++ [stayD h nd (t.aside h)] := by
        rw [List.take_add_one, hst]; rfl
      have hgl : t.ground.length = t.cnt := by simp [T.ground, hn]
      have ap : mtAppend (.ref S.length) [.v (stayD h nd (t.aside h))] (S ++ [.lst ((t.ground.take h).map .v)]) = .ok (.v .non) (S ++ [.lst ((t.ground.take (h + 1)).map .v)]) := by
        rw [mtAppend_ref gt (sz_lt (by simp; omega)), set_len, htk]
        simp
      have e8 := name_of_spec (d := nd) (x := natD h) nty (S ++ [.lst ((t.ground.take h).map .v)])
      have e9 := straight_under_spec (d := nd) nty (S ++ [.lst ((t.ground.take h).map .v)])
      simp only [natD] at e8
      have lc3 : ((mLcGo [] (tgN 7) (mtAnd (mtB (mBin opNotIn (mVar 7) (mBin opIx (mVar 2) (mVar 4)))) (mtB (mBin opNotIn (mVar 4) (mBin opIx (mVar 2) (mVar 7))))) (mVar 7) (S ++ [MO.lst ((t.ground.take h).map R.v)]).length [some (.v t.d), some (.v (.tup (t.ahead.map oD))), some (.v LL), some (.ref S.length), some (.v (.int (h : Int))), some (.v nd), w6, none] (rangeD 0 (Int.toNat (t.cnt : Int))) (S ++ [.lst ((t.ground.take h).map .v)] ++ [.lst []])).bind fun r S' => popV (S ++ [.lst ((t.ground.take h).map .v)]) r S') = .ok (.v (.lst ((t.aside h).map natD))) (S ++ [.lst ((t.ground.take h).map .v)]) := lc2
      refine ⟨[some (.v t.d), some (.v (.tup (t.ahead.map oD))), some (.v LL), some (.ref S.length), some (.v (.int (h : Int))), some (.v nd), w6, w7], rfl, _, _, .inl ?_, rfl, some (.v (.int (h : Int))), some (.v nd), some (.v (.lst ((t.aside h).map natD))), w7, rfl⟩
      have blL : ∀ S, biLen [.v LL] S = .ok (.v (.int (t.cnt : Int))) S := fun S => by rw [show LL = .lst (t.lns.map fun ln => D.lst (ln.map natD)) from rfl, biLen_lst, List.length_map, hll]
      unfold b1_ground
      rw [mSeq_nx (m' := [some (.v t.d), some (.v (.tup (t.ahead.map oD))), some (.v LL), some (.ref S.length), some (.v (.int (h : Int))), some (.v nd), some (.v (.lst ((t.aside h).map natD))), w7]) (S' := S ++ [.lst ((t.ground.take h).map .v)]) (by
        rw [mSetP_lt 6 (by simp), mSet_eq]
        simp only [mPop_eq, mLc_eq, srcRange1_eq, mCons_eq, mCall_eq, mVar_eq, mNil_eq, List.getElem?_cons_succ, List.getElem?_cons_zero, Out.bind_ok, blL, rg1_int (show 0 ≤ (t.cnt : Int) by omega) (show (t.cnt : Int) < 2 ^ 62 by omega), wipeM, List.foldl_cons, List.foldl_nil, List.set_cons_succ, List.set_cons_zero, lc3, thenS_ok])]
      simp only [mDrop_eq, mMeth_eq, mVar_eq, List.getElem?_cons_succ, List.getElem?_cons_zero, Out.bind_ok, tyOk_lst gt, if_true, mCons_eq, mNil_eq, mTup_eq, mCall_eq, mC_eq, e8, e9, biTuple_lst, frzO_4, List.length_cons, List.length_nil, Nat.zero_add, Nat.reduceAdd, sz4]
      have ap' : mtAppend (.ref S.length) [.v (.tup [if isStr nd = true then nd else .int (h : Int), .int 0, if isStr nd = true then .tup [] else nd, .tup ((t.aside h).map natD)])] (S ++ [.lst ((t.ground.take h).map .v)]) = _ := ap
      rw [ap']
      rfl)
  subst hS' hm'
  rw [enumI_len, hn] at eL
  have hgl : t.ground.length = t.cnt := by simp [T.ground, hn]
  rw [List.take_of_length_le (by omega)] at eL
  have e2 := nodes_spec (S := S ++ [.lst []]) hd (by omega)
  have g := get_len S (.lst (t.ground.map R.v)) []
  have lc' : ((mLcGo [] (tgN 4) mtYes (mCall M_line_up (mCons (mVar 1) (mCons (mVar 4) mNil))) S.length [some (.v t.d), some (.v (.tup (t.ahead.map oD))), none, none, none, none, none, none] (rangeD 0 (Int.toNat (t.cnt : Int))) (S ++ [.lst []])).bind fun r S' => popV S r S') = .ok (.v LL) S := lc
  refine mDefV_rtG [.lst (t.ground.map .v)] ?_ (.refl S)
  simp only [m_ground, List.map_cons, List.map_nil, List.length_cons, List.length_nil, List.replicate, List.cons_append, List.nil_append, Nat.reduceAdd, Nat.reduceSub, mSeq_eq, mSet_eq, mCall_eq, mCons_eq, mVar_eq, mNil_eq, mC_eq, List.getElem?_cons_succ, List.getElem?_cons_zero, Out.bind_ok, e1, thenS_ok, List.set_cons_succ, List.set_cons_zero, mPop_eq, mLc_eq, srcRange1_eq, biLen_tup, hal, rg1_int (show 0 ≤ (t.cnt : Int) by omega) (show (t.cnt : Int) < 2 ^ 62 by omega), wipeM, List.foldl_cons, List.foldl_nil, lc', mLst_eq, Nat.zero_le, sz0, if_true, mFor_eq, srcEnum_eq, e2, en1_tup, eL, mRet_eq, biTuple_ref g]
end Q

namespace Q
open PySem hiding Env
open L2 M
noncomputable def b1_nodes_3 : MS :=
  (mDrop (mMeth "list" mtAppend (mVar 1) (mCons (mIf (mtTru (mCall biIsi (mCons (mVar 3) (mCons (mC (.ty "str")) mNil)))) (mVar 3) (mTup (mCons (mBin opAdd (mBin opIx (mVar 3) (mC (.int 0))) (mVar 2)) (mCons (mBin opAdd (mBin opIx (mVar 3) (mC (.int 1))) (mVar 2)) mNil)))) mNil)))
noncomputable def m_nodes_3 (g_nodes_3 : List R → Store → Out R) : MS :=
  (mSeq (mIfS (mtTru (mCall biIsi (mCons (mVar 0) (mCons (mC (.ty "str")) mNil)))) (mRet (mLst (mCons (mVar 0) mNil))) mSkip)
  (mSeq (mSet 1 (mCall g_nodes_3 (mCons (mBin opIx (mVar 0) (mC (.int 0))) mNil)))
  (mSeq (mSet 2 (mCall biLen (mCons (mVar 1) mNil)))
  (mSeq (mFor (srcAny (mCall g_nodes_3 (mCons (mBin opIx (mVar 0) (mC (.int 1))) mNil))) (tgN 3) b1_nodes_3)
  (mRet (mBin opAdd (mVar 1) (mLstV (mCons (mTup (mCons (mBin opSub (mVar 2) (mC (.int 1))) (mCons (mBin opSub (mCall biLen (mCons (mVar 1) mNil)) (mC (.int 1))) mNil))) mNil))))))))
noncomputable def R_nodes_3 : Nat → List R → Store → Out R
  | 0 => fun _ _ => .no
  | k + 1 => mDef 4 (m_nodes_3 (R_nodes_3 k))
noncomputable def m_same_2 (g_same_2 : List R → Store → Out R) : MS :=
  (mSeq (mIfS (mtTru (mCall biIsi (mCons (mVar 1) (mCons (mC (.ty "tuple")) mNil)))) (mSeq (mIfS (mtOr (mtNot (mtTru (mCall biIsi (mCons (mVar 0) (mCons (mC (.ty "tuple")) mNil))))) (mtB (mBin opNe (mCall biLen (mCons (mVar 0) mNil)) (mCall biLen (mCons (mVar 1) mNil))))) (mRet (mC (.bl false))) mSkip)
  (mRet (mCall biAll (mCons (mPop (mLc (srcZip (mCons (mVar 0) (mCons (mVar 1) mNil))) [2, 3] (tgT [(tgN 2), (tgN 3)]) mtYes (mCall g_same_2 (mCons (mVar 2) (mCons (mVar 3) mNil))))) mNil)))) mSkip)
  (mSeq (mIfS (mtOr (mtTru (mCall biIsi (mCons (mVar 1) (mCons (mC (.ty "str")) mNil)))) (mtB (mBin opIs (mVar 1) (mC .non)))) (mRet (mAnd (mBin opEq (mCall biIsi (mCons (mVar 0) (mCons (mC (.ty "str")) mNil))) (mCall biIsi (mCons (mVar 1) (mCons (mC (.ty "str")) mNil)))) (mBin opEq (mVar 0) (mVar 1)))) mSkip)
  (mRet (mAnd (mCall biIsi (mCons (mVar 0) (mCons (mC (.ty "int")) mNil))) (mAnd (mNot (mCall biIsi (mCons (mVar 0) (mCons (mC (.ty "bool")) mNil)))) (mBin opEq (mVar 0) (mVar 1)))))))
noncomputable def R_same_2 : Nat → List R → Store → Out R
  | 0 => fun _ _ => .no
  | k + 1 => mDefV 4 (m_same_2 (R_same_2 k))
end Q
namespace M
open PySem PySem.Spec L2
open PyProof.Rows hiding St
def shiftD (k : Nat) : D → D
  | .tup [.int a, .int b] => .tup [.int (a + (k : Int)), .int (b + (k : Int))]
  | d => d
theorem T.nodes_shift (k : Nat) : ∀ (t : T) (j : Nat), T.nodesFrom (j + k) t = (T.nodesFrom j t).map (shiftD k)
  | .leaf w, j => rfl
  | .node l r, j => by
    have p1 := l.cnt_pos
    have p2 := r.cnt_pos
    simp only [T.nodesFrom, List.map_append, List.map_cons, List.map_nil, shiftD]
    rw [T.nodes_shift k l j, show j + k + l.cnt = j + l.cnt + k by omega, T.nodes_shift k r (j + l.cnt)]
    congr 2
    have e1 : ((j + l.cnt + k - 1 : Nat) : Int) = ((j + l.cnt - 1 : Nat) : Int) + (k : Int) := by omega
    have e2 : ((j + l.cnt + k + r.cnt - 1 : Nat) : Int) = ((j + l.cnt + r.cnt - 1 : Nat) : Int) + (k : Int) := by omega
    rw [e1, e2]
theorem T.blw_last : ∀ (t : T) (k : Nat), (T.blw k t)[t.cnt - 1]? = some (T.lvs k t)
  | .leaf w, k => rfl
  | .node l r, k => by
    have h1 := T.blw_len l k
    have h2 := T.blw_len r (k + l.cnt)
    simp only [T.blw, T.lvs, T.cnt]
    rw [List.getElem?_append_right (by simp; omega)]
    simp [h1, h2]
theorem T.blw_at : ∀ (t : T) (k i : Nat) (d : D), (T.nodesFrom k t)[i]? = some d → (isStr d = true ∧ (T.blw k t)[i]? = some [k + i]) ∨ ∃ a b ba bb, d = .tup [natD (k + a), natD (k + b)] ∧ a < i ∧ b < i ∧ (T.blw k t)[a]? = some ba ∧ (T.blw k t)[b]? = some bb ∧ (T.blw k t)[i]? = some (ba ++ bb)
  | .leaf w, k, i, d, h => by
    cases i with
    | zero => cases h; exact .inl ⟨rfl, rfl⟩
    | succ i => simp [T.nodesFrom] at h
  | .node l r, k, i, d, h => by
    have n1 := T.nodesFrom_len l k
    have n2 := T.nodesFrom_len r (k + l.cnt)
    have b1 := T.blw_len l k
    have b2 := T.blw_len r (k + l.cnt)
    have p1 := l.cnt_pos
    have p2 := r.cnt_pos
    have inl : ∀ (i : Nat) (b : List Nat), (T.blw k l)[i]? = some b → (T.blw k (.node l r))[i]? = some b := fun i b e => by
      have hi : i < (T.blw k l).length := (List.getElem?_eq_some_iff.mp e).1
      simp only [T.blw]
      rw [List.append_assoc, List.getElem?_append_left hi, e]
    have inr : ∀ (i : Nat) (b : List Nat), (T.blw (k + l.cnt) r)[i]? = some b → (T.blw k (.node l r))[l.cnt + i]? = some b := fun i b e => by
      have hi : i < (T.blw (k + l.cnt) r).length := (List.getElem?_eq_some_iff.mp e).1
      simp only [T.blw]
      rw [List.append_assoc, List.getElem?_append_right (by omega), b1, Nat.add_sub_cancel_left, List.getElem?_append_left hi, e]
    rcases three h with ⟨a1, a2⟩ | ⟨a, a1, a2, a3⟩ | ⟨a1, a2⟩
    · rcases T.blw_at l k i d a2 with ⟨q1, q2⟩ | ⟨a, b, ba, bb, q1, q2, q3, q4, q5, q6⟩
      · exact .inl ⟨q1, inl _ _ q2⟩
      · exact .inr ⟨a, b, ba, bb, q1, q2, q3, inl _ _ q4, inl _ _ q5, inl _ _ q6⟩
    · rw [n1] at a1
      subst a1
      rcases T.blw_at r (k + l.cnt) a d a3 with ⟨q1, q2⟩ | ⟨x, y, ba, bb, q1, q2, q3, q4, q5, q6⟩
      · exact .inl ⟨q1, by rw [inr _ _ q2]; congr 2; omega⟩
      · exact .inr ⟨l.cnt + x, l.cnt + y, ba, bb, by rw [q1, Nat.add_assoc, Nat.add_assoc], by omega, by omega, inr _ _ q4, inr _ _ q5, inr _ _ q6⟩
    · subst a2
      rw [n1, n2] at a1
      subst a1
      refine .inr ⟨l.cnt - 1, l.cnt + (r.cnt - 1), T.lvs k l, T.lvs (k + l.cnt) r, ?_, by omega, by omega, inl _ _ (T.blw_last l k), inr _ _ (T.blw_last r (k + l.cnt)), ?_⟩
      · simp only [natD]
        congr 3
        · congr 2; omega
        · congr 3; omega
      · have := T.blw_last (.node l r) k
        simpa [T.cnt, T.lvs] using this
/-- plain data so many deep -/
def Pln : Nat → D → Prop
  | 0, _ => False
  | k + 1, .tup ds => ds.length ≤ 100000 ∧ ∀ d ∈ ds, Pln k d
  | _ + 1, .str w => strOkB w = true
  | _ + 1, .int _ => True
  | _ + 1, .non => True
  | _ + 1, _ => False
theorem zipI_self (ds : List D) : zipI ds ds = ds.map fun d => .v (.tup [d, d]) := by
  unfold zipI
  induction ds with
  | nil => rfl
  | cons d ds ih => simp [ih]
end M
namespace Q
open PySem hiding Env
open L2 M
theorem nodes_3_spec : ∀ (k : Nat) (t : T) (S : Store), t.depth < k → t.ls.length ≤ 100000 → ∃ (w : Nat) (g : Store), R_nodes_3 k [.v t.d] S = .ok (.ref w) (S ++ g) ∧ (S ++ g)[w]? = some (.lst ((T.nodesFrom 0 t).map .v)) ∧ S.length ≤ w
  | 0, t, S, h, _ => by omega
  | k + 1, .leaf w, S, h, _ => by
    refine ⟨S.length, [.lst [.v (.str w)]], mDef_rt ?_, by simp [T.nodesFrom], Nat.le_refl _⟩
    simp [m_nodes_3, T.d]
  | k + 1, .node l r, S, h, hz => by
    simp only [T.depth] at h
    simp only [T.ls, List.length_append] at hz
    have c1 := l.cnt_ls
    have c2 := r.cnt_ls
    have p1 := l.cnt_pos
    have p2 := r.cnt_pos
    have n1 := T.nodesFrom_len l 0
    have n2 := T.nodesFrom_len r 0
    obtain ⟨w1, x1, e1, q1, h1⟩ := nodes_3_spec k l S (by omega) (by omega)
    obtain ⟨w2, x2, e2, q2, h2⟩ := nodes_3_spec k r (S ++ x1) (by omega) (by omega)
    have lt1 := lt_of_get q1
    have q1' := get_old q1 x2
    have hne : w1 ≠ w2 := by omega
    let Z : List D → Store := fun xs => (S ++ x1 ++ x2).set w1 (.lst (xs.map .v))
    have Z1 : ∀ xs, (Z xs)[w1]? = some (.lst (xs.map .v)) := fun xs => get_set q1' _
    have Z2 : ∀ xs, (Z xs)[w2]? = some (.lst ((T.nodesFrom 0 r).map .v)) := fun xs => by rw [get_ne hne]; exact q2
    have Z0 : Z (T.nodesFrom 0 l) = S ++ x1 ++ x2 := set_get q1'
    obtain ⟨m', S', eL, hS', w3, hm'⟩ := forGo_inv (pins := [(w2, .lst ((T.nodesFrom 0 r).map .v))]) (t := tgN 3) (body := b1_nodes_3)
      (fun i m X => X = Z (T.nodesFrom 0 l ++ ((T.nodesFrom 0 r).map (shiftD l.cnt)).take i) ∧ ∃ w3, m = [some (.v (.tup [l.d, r.d])), some (.ref w1), some (.v (.int (l.cnt : Int))), w3])
      ((T.nodesFrom 0 r).map .v) 0 [some (.v (.tup [l.d, r.d])), some (.ref w1), some (.v (.int (l.cnt : Int))), none] (S ++ x1 ++ x2) ⟨by simp [Z0], _, rfl⟩
      (by rintro i m X ⟨rfl, _⟩; exact ⟨Z2 _, trivial⟩)
      (by
        rintro i d m X hd ⟨rfl, w3, rfl⟩
        rw [Nat.zero_add] at *
        rw [List.getElem?_map] at hd
        obtain ⟨nd, hnd, rfl⟩ := Option.map_eq_some_iff.mp hd
        have nty : notTy nd = true := T.notTy_nodes r 0 nd (List.mem_of_getElem? hnd)
        have hsh : ((T.nodesFrom 0 r).map (shiftD l.cnt)).take (i + 1) = ((T.nodesFrom 0 r).map (shiftD l.cnt)).take i ++ [shiftD l.cnt nd] := by
          rw [List.take_add_one, List.getElem?_map, hnd]; rfl
        have hi : i < r.cnt := by rw [← n2]; exact (List.getElem?_eq_some_iff.mp hnd).1
        have tl := tyOk_lst (Z1 (T.nodesFrom 0 l ++ ((T.nodesFrom 0 r).map (shiftD l.cnt)).take i))
        have ap : mtAppend (.ref w1) [.v (shiftD l.cnt nd)] (Z (T.nodesFrom 0 l ++ ((T.nodesFrom 0 r).map (shiftD l.cnt)).take i)) = .ok (.v .non) (Z (T.nodesFrom 0 l ++ ((T.nodesFrom 0 r).map (shiftD l.cnt)).take (i + 1))) := by
          rw [mtAppend_ref (Z1 _) (sz_lt (by simp [n1, n2]; omega))]
          simp only [Z]
          rw [List.set_set, hsh]
          simp
        refine ⟨_, rfl, [some (.v (.tup [l.d, r.d])), some (.ref w1), some (.v (.int (l.cnt : Int))), some (.v nd)], _, .inl ?_, rfl, some (.v nd), rfl⟩
        have is := isi_str nd nty
        rcases T.blw_at r 0 i nd hnd with ⟨s1, _⟩ | ⟨a, b, _, _, hab, _⟩
        · have hsd : shiftD l.cnt nd = nd := by cases nd <;> first | rfl | cases s1
          rw [hsd] at ap
          simp only [b1_nodes_3, mDrop_eq, mMeth_eq, mVar_eq, List.set_cons_succ, List.set_cons_zero, List.getElem?_cons_succ, List.getElem?_cons_zero, Out.bind_ok, tl, if_true, mCons_eq, mNil_eq, mIf_eq, mtTru_eq, mCall_eq, mC_eq, is, s1, truM_bl, ap, thenS_ok]
        · rw [Nat.zero_add, Nat.zero_add] at hab
          subst hab
          have i0 : ∀ S, opIx (.v (.tup [natD a, natD b])) (.v (.int 0)) S = .ok (.v (.int (a : Int))) S := fun S => opIx_tup (atI_0 _ _)
          have i1 : ∀ S, opIx (.v (.tup [natD a, natD b])) (.v (.int 1)) S = .ok (.v (.int (b : Int))) S := fun S => opIx_tup (atI_1 _ _ _)
          have hs0 : isStr (.tup [natD a, natD b]) = false := rfl
          have ap' : mtAppend (.ref w1) [.v (.tup [.int ((a : Int) + (l.cnt : Int)), .int ((b : Int) + (l.cnt : Int))])] (Z (T.nodesFrom 0 l ++ ((T.nodesFrom 0 r).map (shiftD l.cnt)).take i)) = _ := ap
          simp only [b1_nodes_3, mDrop_eq, mMeth_eq, mVar_eq, List.set_cons_succ, List.set_cons_zero, List.getElem?_cons_succ, List.getElem?_cons_zero, Out.bind_ok, tl, if_true, mCons_eq, mNil_eq, mIf_eq, mtTru_eq, mCall_eq, mC_eq, is, hs0, truM_bl, mTup_eq, mBin_eq, i0, i1, opAdd_int, frzO_2, List.length_cons, List.length_nil, Nat.zero_add, Nat.reduceAdd, sz2]
          rw [ap']
          rfl)
    subst hS' hm'
    rw [List.length_map, Nat.zero_add, List.take_of_length_le (by simp)] at eL
    rw [← T.nodes_shift l.cnt r 0, Nat.zero_add] at eL
    generalize hFd : T.nodesFrom 0 l ++ T.nodesFrom l.cnt r = F at eL
    have hF : F.length = l.cnt + r.cnt := by rw [← hFd]; simp [n1, T.nodesFrom_len]
    have gF : (Z F)[w1]? = some (.lst (F.map .v)) := Z1 F
    have hlen : (Z F).length = (S ++ x1 ++ x2).length := by simp [Z]
    obtain ⟨g', hg'⟩ : ∃ g', Z F = S ++ g' := by
      refine ⟨(x1 ++ x2).set (w1 - S.length) (.lst (F.map .v)), ?_⟩
      simp only [Z]
      rw [List.append_assoc, List.set_append_right _ _ h1]
    have hroot : T.nodesFrom 0 (.node l r) = F ++ [.tup [.int ((l.cnt : Int) - 1), .int ((F.length : Int) - 1)]] := by
      have z1 : ((l.cnt - 1 : Nat) : Int) = (l.cnt : Int) - 1 := by omega
      have z2 : ((l.cnt + r.cnt - 1 : Nat) : Int) = (F.length : Int) - 1 := by rw [hF]; omega
      simp only [T.nodesFrom, Nat.zero_add, hFd, z1, z2]
    have ad : opAdd (.ref w1) (.v (.lst [.tup [.int ((l.cnt : Int) - 1), .int ((F.length : Int) - 1)]])) (Z F) = .ok (.ref (Z F).length) (Z F ++ [.lst ((T.nodesFrom 0 (.node l r)).map .v)]) := by
      unfold opAdd
      simp only [lsOf_lst gF]
      rw [if_pos (sz_of (by simp [hF]; omega)), hroot]
      simp
    have e3 := biLen_ref q1
    rw [List.length_map, n1] at e3
    have i0 : opIx (.v (.tup [l.d, r.d])) (.v (.int 0)) S = .ok (.v l.d) S := opIx_tup (atI_0 _ _)
    have i1 : opIx (.v (.tup [l.d, r.d])) (.v (.int 1)) (S ++ x1) = .ok (.v r.d) (S ++ x1) := opIx_tup (atI_1 _ _ _)
    have e5 := biLen_ref gF
    rw [List.length_map] at e5
    refine ⟨(Z F).length, g' ++ [.lst ((T.nodesFrom 0 (.node l r)).map .v)], mDef_rt ?_, ?_, ?_⟩
    · rw [← List.append_assoc, ← hg']
      simp only [T.d, m_nodes_3, List.map_cons, List.map_nil, List.length_cons, List.length_nil, List.replicate, List.cons_append, List.nil_append, Nat.reduceAdd, Nat.reduceSub, mSeq_eq, mIfS_eq, mtTru_eq, mCall_eq, mCons_eq, mVar_eq, mC_eq, mNil_eq, List.getElem?_cons_zero, List.getElem?_cons_succ, Out.bind_ok, isi_tup_str, truM_bl, thenS_ok, mSkip_eq, mSet_eq, mBin_eq, i0, e1, List.set_cons_succ, List.set_cons_zero, e3, mFor_eq, srcAny, i1, e2, q2, eL, mRet_eq, opSub_int, e5, frzO_2, mLstV_eq, mTup_eq, frzO_1, Nat.zero_add, sz2, sz1, if_true, ad]
    · rw [← List.append_assoc, ← hg', get_len]
    · rw [hlen]; simp only [List.length_append]; omega
theorem same_2_refl : ∀ (k : Nat) (d : D) (S : Store), Pln k d → R_same_2 k [.v d, .v d] S = .ok (.v (.bl true)) S
  | 0, d, S, h => h.elim
  | k + 1, d, S, h => by
    refine mDefV_rt0 ?_
    cases d with
    | non =>
      have q : opEq (.v .non) (.v .non) S = .ok (.v (.bl true)) S := by simp [opEq, PyData.eqv]
      have z : opIs (.v .non) (.v .non) S = .ok (.v (.bl true)) S := rfl
      simp [m_same_2, z, q, M.isNon]
    | int i => simp [m_same_2, M.isNon]
    | str w =>
      have hw : strOkB w = true := h
      have q : opEq (.v (.str w)) (.v (.str w)) S = .ok (.v (.bl true)) S := by rw [opEq_str hw hw]; simp
      simp [m_same_2, q, M.isNon]
    | tup ds =>
      obtain ⟨hl, hp⟩ : ds.length ≤ 100000 ∧ ∀ d ∈ ds, Pln k d := h
      have lc := lc_map (S := S) (t := tgT [tgN 2, tgN 3]) (c := mtYes) (f := mCall (R_same_2 k) (mCons (mVar 2) (mCons (mVar 3) mNil))) (m := [some (.v (.tup ds)), some (.v (.tup ds)), none, none]) (fun d : D => .v (.tup [d, d])) (fun _ => true) (fun _ => .bl true) ds (sz_of (by omega)) (by
        intro d hd acc
        have := same_2_refl k d (S ++ [.lst acc]) (hp d hd)
        refine ⟨_, rfl, rfl, fun _ => ?_⟩
        simp only [mCall_eq, mCons_eq, mVar_eq, mNil_eq, List.set_cons_succ, List.set_cons_zero, List.getElem?_cons_succ, List.getElem?_cons_zero, Out.bind_ok, this])
      rw [List.filter_eq_self.mpr (by simp)] at lc
      have hm2 : (ds.map fun _ => D.bl true) = (ds.map fun _ => true).map D.bl := by rw [List.map_map]; rfl
      rw [hm2, ← zipI_self] at lc
      have hall : ((ds.map fun _ => true).all id) = true := by simp
      have hne : opNe (.v (.int (ds.length : Int))) (.v (.int (ds.length : Int))) S = .ok (.v (.bl false)) S := by simp
      simp only [m_same_2, List.map_cons, List.map_nil, List.length_cons, List.length_nil, List.replicate, List.cons_append, List.nil_append, Nat.reduceAdd, Nat.reduceSub, mSeq_eq, mIfS_eq, mtTru_eq, mCall_eq, mCons_eq, mVar_eq, mC_eq, mNil_eq, List.getElem?_cons_zero, List.getElem?_cons_succ, Out.bind_ok, isi_tup_tup, truM_bl, thenS_ok, mtOr_eq, mtNot_eq, Bool.not_true, mtB_eq, mBin_eq, biLen_tup, hne, onBl_bl, mSkip_eq, mRet_eq, mPop_eq, mLc_eq, srcZip_eq, zp2_tt, wipeM, List.foldl_cons, List.foldl_nil, List.set_cons_succ, List.set_cons_zero, lc, biAll_lst, hall]
    | _ => exact h.elim
end Q

namespace Q
open PySem hiding Env
open L2 M
noncomputable def m_inner_dates (g_nodes : List R → Store → Out R) : MS :=
  (mRet (mPop (mLc (srcZip (mCons (mCall g_nodes (mCons (mVar 0) mNil)) (mCons (mVar 1) mNil))) [2, 3] (tgT [(tgN 2), (tgN 3)]) (mtNot (mtTru (mCall biIsi (mCons (mVar 2) (mCons (mC (.ty "str")) mNil))))) (mVar 3))))
noncomputable def M_inner_dates : List R → Store → Out R := mDefV 4 (m_inner_dates M_nodes)
noncomputable def m_is_date : MS :=
  (mSeq (mSet 3 (mBin opIx (mVar 0) (mVar 2)))
  (mSeq (mIfS (mtTru (mCall biIsi (mCons (mVar 3) (mCons (mC (.ty "str")) mNil)))) (mRet (mBin opEq (mBin opIx (mVar 1) (mVar 2)) (mC (.int 0)))) mSkip)
  (mRet (mAnd (mChain opLe opLe (mC (.int 1)) (mBin opIx (mVar 1) (mVar 2)) (mC (.int 99))) (mAnd (mBin opGt (mBin opIx (mVar 1) (mVar 2)) (mBin opIx (mVar 1) (mBin opIx (mVar 3) (mC (.int 0))))) (mBin opGt (mBin opIx (mVar 1) (mVar 2)) (mBin opIx (mVar 1) (mBin opIx (mVar 3) (mC (.int 1))))))))))
noncomputable def M_is_date : List R → Store → Out R := mDefV 4 (m_is_date)
noncomputable def m_is_whole : MS :=
  (mRet (mAnd (mCall biIsi (mCons (mVar 0) (mCons (mC (.ty "int")) mNil))) (mNot (mCall biIsi (mCons (mVar 0) (mCons (mC (.ty "bool")) mNil))))))
noncomputable def M_is_whole : List R → Store → Out R := mDefV 1 (m_is_whole)
noncomputable def m_is_dates (g_nodes : List R → Store → Out R) (g_is_whole : List R → Store → Out R) (g_is_date : List R → Store → Out R) (g_inner_dates : List R → Store → Out R) : MS :=
  (mSeq (mSet 2 (mCall g_nodes (mCons (mVar 0) mNil)))
  (mSeq (mIfS (mtOr (mtNot (mtTru (mCall biIsi (mCons (mVar 1) (mCons (mC (.ty "tuple")) mNil))))) (mtOr (mtB (mBin opNe (mCall biLen (mCons (mVar 1) mNil)) (mCall biLen (mCons (mVar 2) mNil)))) (mtNot (mtTru (mCall biAll (mCons (mPop (mLc (srcAny (mVar 1)) [4] (tgN 4) mtYes (mCall g_is_whole (mCons (mVar 4) mNil)))) mNil)))))) (mRet (mC (.bl false))) mSkip)
  (mSeq (mIfS (mtNot (mtTru (mCall biAll (mCons (mPop (mLc (srcRange1 (mCons (mCall biLen (mCons (mVar 2) mNil)) mNil)) [5] (tgN 5) mtYes (mCall g_is_date (mCons (mVar 2) (mCons (mVar 1) (mCons (mVar 5) mNil)))))) mNil)))) (mRet (mC (.bl false))) mSkip)
  (mSeq (mSet 3 (mCall g_inner_dates (mCons (mVar 0) (mCons (mVar 1) mNil))))
  (mRet (mBin opEq (mUn opLenSet (mVar 3)) (mCall biLen (mCons (mVar 3) mNil))))))))
noncomputable def M_is_dates : List R → Store → Out R := mDefV 6 (m_is_dates M_nodes M_is_whole M_is_date M_inner_dates)
end Q
namespace M
open PySem PySem.Spec L2
open PyProof.Rows hiding St
/-- whether a house's date can stand: what is_date tells -/
def nodeOk (ds : List Int) (h : Nat) : D → Bool
  | .tup [.int a, .int b] => (decide (1 ≤ ds.getD h 0) && decide (ds.getD h 0 ≤ 99)) && (decide (ds.getD a.toNat 0 < ds.getD h 0) && decide (ds.getD b.toNat 0 < ds.getD h 0))
  | _ => ds.getD h 0 == 0
def innerD (t : T) (ds : List Int) : List Int := ((t.nodes.zip ds).filter fun p => !isStr p.1).map (·.2)
/-- what is_dates tells of whole numbers -/
def isDt (t : T) (ds : List Int) : Bool := decide (ds.length = t.cnt) && (((List.range t.cnt).all fun h => nodeOk ds h (t.nodes.getD h .non)) && decide (innerD t ds).Nodup)
/-- a node: a leaf, or two ahead of it -/
theorem T.node_cases (t : T) {h : Nat} {d : D} (e : t.nodes[h]? = some d) : (∃ w, d = .str w) ∨ ∃ a b : Nat, d = .tup [natD a, natD b] ∧ a < h ∧ b < h := by
  rcases T.blw_at t 0 h d e with ⟨q, _⟩ | ⟨a, b, _, _, q1, q2, q3, _⟩
  · have nt := T.notTy_nodes t 0 d (List.mem_of_getElem? e)
    cases d <;> first | exact .inl ⟨_, rfl⟩ | (cases q; done) | cases nt
  · rw [Nat.zero_add, Nat.zero_add] at q1
    exact .inr ⟨a, b, q1, q2, q3⟩
theorem intD_get {ds : List Int} {h : Nat} (hh : h < ds.length) : atI (ds.map D.int) (h : Int) = some (.int (ds.getD h 0)) := by
  rw [atI_map, atI_lt (by omega), show ((h : Nat) : Int).toNat = h by omega, List.getD_eq_getElem?_getD, List.getElem?_eq_getElem hh]; rfl
end M
namespace Q
open PySem hiding Env
open L2 M
theorem is_whole_int (i : Int) (S : Store) : M_is_whole [.v (.int i)] S = .ok (.v (.bl true)) S := by
  refine mDefV_rt0 ?_
  simp [m_is_whole]
theorem is_date_spec {t : T} {ds : List Int} {h : Nat} {S : Store} (hl : ds.length = t.cnt) (hh : h < t.cnt) : M_is_date [.v (.tup t.nodes), .v (.tup (ds.map D.int)), .v (.int (h : Int))] S = .ok (.v (.bl (nodeOk ds h (t.nodes.getD h .non)))) S := by
  have hn := t.nodes_len
  have hg : t.nodes[h]? = some (t.nodes.getD h .non) := by rw [List.getD_eq_getElem?_getD, List.getElem?_eq_getElem (by omega)]; rfl
  generalize t.nodes.getD h .non = d at hg
  have e0 : opIx (.v (.tup t.nodes)) (.v (.int (h : Int))) S = .ok (.v d) S := opIx_tup (by rw [atI_lt (by omega), show ((h : Nat) : Int).toNat = h by omega, hg])
  have e1 : ∀ k : Nat, k < t.cnt → opIx (.v (.tup (ds.map D.int))) (.v (.int (k : Int))) S = .ok (.v (.int (ds.getD k 0))) S := fun k hk => opIx_tup (intD_get (by omega))
  refine mDefV_rt0 ?_
  rcases t.node_cases hg with ⟨w, rfl⟩ | ⟨a, b, rfl, ha, hb⟩
  · simp only [m_is_date, List.map_cons, List.map_nil, List.length_cons, List.length_nil, List.replicate, List.cons_append, List.nil_append, Nat.reduceAdd, Nat.reduceSub, mSeq_eq, mSet_eq, mBin_eq, mVar_eq, List.getElem?_cons_succ, List.getElem?_cons_zero, Out.bind_ok, e0, thenS_ok, List.set_cons_succ, List.set_cons_zero, mIfS_eq, mtTru_eq, mCall_eq, mCons_eq, mC_eq, mNil_eq, isi_str_str, truM_bl, mRet_eq, e1 h hh, opEq_int, nodeOk]
  · have i0 : opIx (.v (.tup [natD a, natD b])) (.v (.int 0)) S = .ok (.v (.int (a : Int))) S := opIx_tup (atI_0 _ _)
    have i1 : opIx (.v (.tup [natD a, natD b])) (.v (.int 1)) S = .ok (.v (.int (b : Int))) S := opIx_tup (atI_1 _ _ _)
    have ea := e1 a (by omega)
    have eb := e1 b (by omega)
    have eh := e1 h hh
    clear e1
    have hk : nodeOk ds h (.tup [natD a, natD b]) = ((decide (1 ≤ ds.getD h 0) && decide (ds.getD h 0 ≤ 99)) && (decide (ds.getD a 0 < ds.getD h 0) && decide (ds.getD b 0 < ds.getD h 0))) := by
      simp only [nodeOk, natD, Int.toNat_natCast]
    rw [hk]
    generalize ds.getD h 0 = x at *
    generalize ds.getD a 0 = y at *
    generalize ds.getD b 0 = z at *
    simp only [m_is_date, List.map_cons, List.map_nil, List.length_cons, List.length_nil, List.replicate, List.cons_append, List.nil_append, Nat.reduceAdd, Nat.reduceSub, mSeq_eq, mSet_eq, mBin_eq, mVar_eq, List.getElem?_cons_succ, List.getElem?_cons_zero, Out.bind_ok, e0, thenS_ok, List.set_cons_succ, List.set_cons_zero, mIfS_eq, mtTru_eq, mCall_eq, mCons_eq, mC_eq, mNil_eq, isi_tup_str, truM_bl, mSkip_eq, mRet_eq, mAnd_eq, mChain_eq, eh, opCmpI_int, onBl_bl, i0, i1, ea, eb]
    cases decide (1 ≤ x) <;> cases decide (x ≤ 99) <;> simp [eh, i0, i1, ea, eb] <;> cases decide (y < x) <;> simp [eh, i0, i1, ea, eb]
theorem inner_dates_spec {t : T} {ds : List Int} {S : Store} (hd : t.depth < 70) (hz : t.ls.length ≤ 1000) (hl : ds.length ≤ 100000) : M_inner_dates [.v t.d, .v (.tup (ds.map D.int))] S = .ok (.v (.lst ((innerD t ds).map D.int))) S := by
  have e1 := nodes_spec (S := S) hd (by omega)
  have c := t.cnt_ls
  have hn := t.nodes_len
  have nty : ∀ p ∈ t.nodes.zip ds, notTy p.1 = true := fun p hp => T.notTy_nodes t 0 p.1 (List.of_mem_zip hp).1
  have lc := lc_map (S := S) (t := tgT [tgN 2, tgN 3]) (c := mtNot (mtTru (mCall biIsi (mCons (mVar 2) (mCons (mC (.ty "str")) mNil))))) (f := mVar 3) (m := [some (.v t.d), some (.v (.tup (ds.map D.int))), none, none]) (fun p : D × Int => .v (.tup [p.1, .int p.2])) (fun p => !isStr p.1) (fun p => .int p.2) (t.nodes.zip ds) (sz_of (by rw [List.length_zip]; omega)) (by
    intro p hp acc
    refine ⟨_, rfl, ?_, fun _ => rfl⟩
    simp only [mtNot_eq, mtTru_eq, mCall_eq, mCons_eq, mVar_eq, mC_eq, mNil_eq, List.set_cons_succ, List.set_cons_zero, List.getElem?_cons_succ, List.getElem?_cons_zero, Out.bind_ok, isi_str p.1 (nty p hp), truM_bl])
  have hzip : zipI t.nodes (ds.map D.int) = (t.nodes.zip ds).map fun p : D × Int => R.v (.tup [p.1, .int p.2]) := by
    unfold zipI
    rw [List.zip_map_right, List.map_map]
    rfl
  rw [← hzip] at lc
  have hin : ((t.nodes.zip ds).filter fun p => !isStr p.1).map (fun p => D.int p.2) = (innerD t ds).map D.int := by rw [innerD, List.map_map]; rfl
  rw [hin] at lc
  refine mDefV_rt0 ?_
  simp only [m_inner_dates, List.map_cons, List.map_nil, List.length_cons, List.length_nil, List.replicate, List.cons_append, List.nil_append, Nat.reduceAdd, Nat.reduceSub, mRet_eq, mPop_eq, mLc_eq, srcZip_eq, mCons_eq, mCall_eq, mVar_eq, mNil_eq, List.getElem?_cons_succ, List.getElem?_cons_zero, Out.bind_ok, e1, zp2_tt, wipeM, List.foldl_cons, List.foldl_nil, List.set_cons_succ, List.set_cons_zero, lc, thenS_ok]
theorem all_of_bools {xs : List Bool} : xs.all id = xs.all fun b => b := rfl
theorem is_dates_spec {t : T} {ds : List Int} {S : Store} (hd : t.depth < 70) (hz : t.ls.length ≤ 1000) (hl : ds.length ≤ 4000) : M_is_dates [.v t.d, .v (.tup (ds.map D.int))] S = .ok (.v (.bl (isDt t ds))) S := by
  have e1 := nodes_spec (S := S) hd (by omega)
  have c := t.cnt_ls
  have hn := t.nodes_len
  have lc := lc_map (S := S) (t := tgN 4) (c := mtYes) (f := mCall M_is_whole (mCons (mVar 4) mNil)) (m := [some (.v t.d), some (.v (.tup (ds.map D.int))), some (.v (.tup t.nodes)), none, none, none]) (fun i : Int => .v (.int i)) (fun _ => true) (fun _ => .bl true) ds (sz_of (by omega)) (by
    intro i hi acc
    refine ⟨_, rfl, rfl, fun _ => ?_⟩
    simp only [mCall_eq, mCons_eq, mVar_eq, mNil_eq, List.set_cons_succ, List.set_cons_zero, List.getElem?_cons_succ, List.getElem?_cons_zero, Out.bind_ok, is_whole_int])
  rw [List.filter_eq_self.mpr (by simp)] at lc
  have hm2 : (ds.map fun _ => D.bl true) = (ds.map fun _ => true).map D.bl := by rw [List.map_map]; rfl
  have hm3 : (ds.map fun i => R.v (D.int i)) = (ds.map D.int).map R.v := by rw [List.map_map]; rfl
  rw [hm2, hm3] at lc
  have hall : ((ds.map fun _ => true).all id) = true := by simp
  refine mDefV_rt0 ?_
  by_cases hlen : ds.length = t.cnt
  · have lc2 := lc_map (S := S) (t := tgN 5) (c := mtYes) (f := mCall M_is_date (mCons (mVar 2) (mCons (mVar 1) (mCons (mVar 5) mNil)))) (m := [some (.v t.d), some (.v (.tup (ds.map D.int))), some (.v (.tup t.nodes)), none, none, none]) (fun k : Nat => .v (.int (0 + (k : Int)))) (fun _ => true) (fun h => .bl (nodeOk ds h (t.nodes.getD h .non))) (List.range t.cnt) (sz_of (by simp; omega)) (by
      intro h hh acc
      have hh : h < t.cnt := by simpa using hh
      refine ⟨_, rfl, rfl, fun _ => ?_⟩
      simp only [Int.zero_add, mCall_eq, mCons_eq, mVar_eq, mNil_eq, List.set_cons_succ, List.set_cons_zero, List.getElem?_cons_succ, List.getElem?_cons_zero, Out.bind_ok, is_date_spec hlen hh])
    rw [List.filter_eq_self.mpr (by simp)] at lc2
    have hm4 : ((List.range t.cnt).map fun h => D.bl (nodeOk ds h (t.nodes.getD h .non))) = ((List.range t.cnt).map fun h => nodeOk ds h (t.nodes.getD h .non)).map D.bl := by rw [List.map_map]; rfl
    rw [hm4] at lc2
    have lc2' : ((mLcGo [] (tgN 5) mtYes (mCall M_is_date (mCons (mVar 2) (mCons (mVar 1) (mCons (mVar 5) mNil)))) S.length [some (.v t.d), some (.v (.tup (ds.map D.int))), some (.v (.tup t.nodes)), none, none, none] (rangeD 0 (Int.toNat (t.cnt : Int))) (S ++ [.lst []])).bind fun r S' => popV S r S') = .ok (.v (.lst (((List.range t.cnt).map fun h => nodeOk ds h (t.nodes.getD h .non)).map D.bl))) S := lc2
    have hall2 : (((List.range t.cnt).map fun h => nodeOk ds h (t.nodes.getD h .non)).all id) = (List.range t.cnt).all fun h => nodeOk ds h (t.nodes.getD h .non) := by rw [List.all_map]; rfl
    have e3 := inner_dates_spec (S := S) (ds := ds) hd hz (by omega)
    have il : (innerD t ds).length ≤ ds.length := by
      unfold innerD
      rw [List.length_map]
      refine Nat.le_trans (List.length_filter_le _ _) ?_
      rw [List.length_zip]; omega
    have ls : opLenSet (.v (.lst ((innerD t ds).map D.int))) S = .ok (.v (.int (uniqN (innerD t ds) : Nat))) S := by
      unfold opLenSet
      have : (lstOf S (.v (.lst ((innerD t ds).map D.int)))).bind intsOf = some (innerD t ds) := by
        show intsOf (((innerD t ds).map D.int).map R.v) = _
        rw [List.map_map]
        exact intsOf_map _
      rw [this]
      simp only
      rw [if_pos (by omega)]
    have hu := uniqN_iff (innerD t ds)
    have hnd : (((uniqN (innerD t ds) : Nat) : Int) == ((innerD t ds).length : Int)) = decide (innerD t ds).Nodup := by
      by_cases hq : (innerD t ds).Nodup
      · rw [decide_eq_true hq, hu.mpr hq]; simp
      · rw [decide_eq_false hq]
        have : uniqN (innerD t ds) ≠ (innerD t ds).length := fun h => hq (hu.mp h)
        simp; omega
    have hne : opNe (.v (.int (t.cnt : Int))) (.v (.int (t.cnt : Int))) S = .ok (.v (.bl false)) S := by simp
    have hdt : isDt t ds = (((List.range t.cnt).all fun h => nodeOk ds h (t.nodes.getD h .non)) && decide (innerD t ds).Nodup) := by unfold isDt; rw [decide_eq_true hlen, Bool.true_and]
    rw [hdt]
    simp only [m_is_dates, List.map_cons, List.map_nil, List.length_cons, List.length_nil, List.replicate, List.cons_append, List.nil_append, Nat.reduceAdd, Nat.reduceSub, mSeq_eq, mSet_eq, mCall_eq, mCons_eq, mVar_eq, mNil_eq, mC_eq, List.getElem?_cons_succ, List.getElem?_cons_zero, Out.bind_ok, e1, thenS_ok, List.set_cons_succ, List.set_cons_zero, mIfS_eq, mtOr_eq, mtNot_eq, mtTru_eq, isi_tup_tup, truM_bl, Bool.not_true, mtB_eq, mBin_eq, biLen_tup, List.length_map, hlen, hn, hne, onBl_bl, mPop_eq, mLc_eq, srcAny, wipeM, List.foldl_cons, List.foldl_nil, lc, biAll_lst, hall, mSkip_eq, srcRange1_eq, rg1_int (show 0 ≤ (t.cnt : Int) by omega) (show (t.cnt : Int) < 2 ^ 62 by omega), lc2', hall2]
    cases hq : (List.range t.cnt).all fun h => nodeOk ds h (t.nodes.getD h .non)
    · simp only [Bool.not_false, mRet_eq, mC_eq, thenS_ok, Bool.false_and]
    · simp only [Bool.not_true, mSkip_eq, mSeq_eq, mSet_eq, mCall_eq, mCons_eq, mVar_eq, mNil_eq, List.getElem?_cons_succ, List.getElem?_cons_zero, Out.bind_ok, e3, thenS_ok, List.set_cons_succ, List.set_cons_zero, mRet_eq, mBin_eq, mUn_eq, ls, biLen_lst, List.length_map, opEq_int, hnd, Bool.true_and]
  · have hdt : isDt t ds = false := by unfold isDt; rw [decide_eq_false hlen, Bool.false_and]
    have hne : opNe (.v (.int (ds.length : Int))) (.v (.int (t.cnt : Int))) S = .ok (.v (.bl true)) S := by
      have : ¬ (ds.length : Int) = (t.cnt : Int) := by omega
      simp [this]
    rw [hdt]
    simp only [m_is_dates, List.map_cons, List.map_nil, List.length_cons, List.length_nil, List.replicate, List.cons_append, List.nil_append, Nat.reduceAdd, Nat.reduceSub, mSeq_eq, mSet_eq, mCall_eq, mCons_eq, mVar_eq, mNil_eq, mC_eq, List.getElem?_cons_succ, List.getElem?_cons_zero, Out.bind_ok, e1, thenS_ok, List.set_cons_succ, List.set_cons_zero, mIfS_eq, mtOr_eq, mtNot_eq, mtTru_eq, isi_tup_tup, truM_bl, Bool.not_true, mtB_eq, mBin_eq, biLen_tup, List.length_map, hn, hne, onBl_bl, mRet_eq]
end Q

namespace Q
open PySem hiding Env
open L2 M
end Q
namespace M
open PySem PySem.Spec L2
open PyProof.Rows hiding St
theorem pyS_lnats (L : List Nat) : D.pyS (.lst (L.map natD)) = some (.list ((L.map fun n : Nat => (n : Int)).map PyData.int)) := by
  rw [natD_ints, pyS_lints]
theorem opNe_ref_nil {S : Store} {n : Nat} {L : List Nat} (h : S[n]? = some (.lst ((L.map natD).map .v))) : opNe (.ref n) (.v (.lst [])) S = .ok (.v (.bl (!L.isEmpty))) S := by
  have h1 := pyOf_ref h
  rw [pyS_lnats] at h1
  unfold opNe
  simp only [h1, pyOf_v, pyS_lnil]
  cases L <;> simp [PyData.eqv, PyData.eqvAll]
theorem opNotIn_ref {S : Store} {n w : Nat} {L : List Nat} (h : S[n]? = some (.lst ((L.map natD).map .v))) : opNotIn (.v (.int (w : Int))) (.ref n) S = .ok (.v (.bl (!decide (w ∈ L)))) S := by
  have h1 := pyOf_ref h
  rw [pyS_lnats] at h1
  have e : decide ((w : Int) ∈ L.map fun n : Nat => (n : Int)) = decide (w ∈ L) := by
    apply Bool.eq_iff_iff.mpr
    simp only [decide_eq_true_eq, List.mem_map]
    constructor
    · rintro ⟨a, h, e⟩
      have : a = w := by omega
      rwa [this] at h
    · intro h
      exact ⟨w, h, rfl⟩
  have key : inM S (.v (.int (w : Int))) (.ref n) = some (decide (w ∈ L)) := by
    unfold inM
    simp only [pyOf_v, pyS_int, h1, Option.bind_some, seqPy, any_ints, e]
  unfold opNotIn
  rw [key]
theorem erase_nats (L : List Nat) (h : Nat) : (L.map fun n : Nat => (n : Int)).erase (h : Int) = (L.erase h).map fun n : Nat => (n : Int) := by
  induction L with
  | nil => rfl
  | cons x L ih =>
    by_cases hx : x = h
    · subst hx; simp
    · have hx' : ¬ (x : Int) = (h : Int) := by omega
      rw [List.map_cons, List.erase_cons_tail (by simpa using hx'), List.erase_cons_tail (by simpa using hx), List.map_cons, ih]
theorem mtRemove_nats {S : Store} {n h : Nat} {L : List Nat} (e : S[n]? = some (.lst ((L.map natD).map .v))) (hm : h ∈ L) : mtRemove (.ref n) [.v (.int (h : Int))] S = .ok (.v .non) (S.set n (.lst (((L.erase h).map natD).map .v))) := by
  have h1 : intsOf ((L.map natD).map R.v) = some (L.map fun n : Nat => (n : Int)) := by
    rw [natD_ints, List.map_map]
    exact intsOf_map _
  unfold mtRemove
  simp only [e, h1]
  have e2 : ((L.erase h).map fun n : Nat => (n : Int)).map R.int = ((L.erase h).map natD).map R.v := by rw [List.map_map, List.map_map]; rfl
  rw [if_pos (List.mem_map_of_mem hm), erase_nats, e2]
/-- the houses of two -/
def T.innerIx (t : T) : List Nat := (List.range t.cnt).filter fun h => !isStr (t.nodes.getD h .non)
theorem innerD_ix {t : T} {ds : List Int} (hl : ds.length = t.cnt) : innerD t ds = t.innerIx.map fun h => ds.getD h 0 := by
  have hn := t.nodes_len
  have hz : t.nodes.zip ds = (List.range t.cnt).map fun h => (t.nodes.getD h .non, ds.getD h 0) := by
    refine List.ext_getElem (by simp [hn, hl]) fun i h1 h2 => ?_
    simp [hn, hl] at h1
    simp [hn, hl, h1]
  unfold innerD T.innerIx
  rw [hz, List.filter_map, List.map_map]
  rfl
theorem nodup_map_on {α β : Type} {f : α → β} : ∀ {l : List α}, l.Nodup → (∀ a ∈ l, ∀ b ∈ l, f a = f b → a = b) → (l.map f).Nodup
  | [], _, _ => by simp
  | x :: l, h, hf => by
    rw [List.nodup_cons] at h
    rw [List.map_cons, List.nodup_cons]
    refine ⟨fun hm => ?_, nodup_map_on h.2 fun a ha b hb => hf a (by simp [ha]) b (by simp [hb])⟩
    obtain ⟨y, hy, e⟩ := List.mem_map.mp hm
    have := hf y (by simp [hy]) x (by simp) e
    subst this
    exact h.1 hy
/-- dates so far: those of the houses left are none yet -/
structure DtInv (t : T) (L : List Nat) (ds : List Int) (cur : Int) : Prop where
  len : ds.length = t.cnt
  srt : L.Pairwise (· < ·)
  lin : ∀ h ∈ L, h ∈ t.innerIx
  c0 : 0 ≤ cur
  lf : ∀ h, h < t.cnt → h ∉ t.innerIx → ds.getD h 0 = 0
  dn : ∀ h ∈ t.innerIx, h ∉ L → 1 ≤ ds.getD h 0 ∧ ds.getD h 0 ≤ cur ∧ ∀ a b, t.nodes[h]? = some (.tup [natD a, natD b]) → a ∉ L ∧ b ∉ L ∧ ds.getD a 0 < ds.getD h 0 ∧ ds.getD b 0 < ds.getD h 0
  inj : ∀ h ∈ t.innerIx, ∀ k ∈ t.innerIx, h ∉ L → k ∉ L → ds.getD h 0 = ds.getD k 0 → h = k
theorem T.inner_mem {t : T} {h : Nat} : h ∈ t.innerIx ↔ h < t.cnt ∧ ∃ a b, t.nodes[h]? = some (.tup [natD a, natD b]) ∧ a < h ∧ b < h := by
  have hn := t.nodes_len
  unfold T.innerIx
  rw [List.mem_filter, List.mem_range]
  constructor
  · rintro ⟨h1, h2⟩
    have hg : t.nodes[h]? = some (t.nodes.getD h .non) := by rw [List.getD_eq_getElem?_getD, List.getElem?_eq_getElem (by omega)]; rfl
    refine ⟨h1, ?_⟩
    rcases t.node_cases hg with ⟨w, e⟩ | ⟨a, b, e, q1, q2⟩
    · rw [e] at h2; cases h2
    · exact ⟨a, b, by rw [hg, e], q1, q2⟩
  · rintro ⟨h1, a, b, e, _, _⟩
    refine ⟨h1, ?_⟩
    rw [List.getD_eq_getElem?_getD, e]
    rfl
theorem DtInv.done {t : T} {ds : List Int} {cur : Int} (I : DtInv t [] ds cur) (hc : cur ≤ 99) : isDt t ds = true := by
  have hn := t.nodes_len
  unfold isDt
  rw [decide_eq_true I.len, Bool.true_and, Bool.and_eq_true]
  refine ⟨List.all_eq_true.mpr fun h hh => ?_, ?_⟩
  · have hh : h < t.cnt := by simpa using hh
    have hg : t.nodes[h]? = some (t.nodes.getD h .non) := by rw [List.getD_eq_getElem?_getD, List.getElem?_eq_getElem (by omega)]; rfl
    rcases t.node_cases hg with ⟨w, e⟩ | ⟨a, b, e, q1, q2⟩
    · rw [e]
      have : h ∉ t.innerIx := fun hm => by
        obtain ⟨_, a, b, e2, _⟩ := T.inner_mem.mp hm
        rw [hg, e] at e2
        cases e2
      show (ds.getD h 0 == 0) = true
      rw [I.lf h hh this]; rfl
    · rw [e]
      rw [e] at hg
      have hm : h ∈ t.innerIx := T.inner_mem.mpr ⟨hh, a, b, hg, q1, q2⟩
      obtain ⟨d1, d2, d3⟩ := I.dn h hm (by simp)
      obtain ⟨_, _, d4, d5⟩ := d3 a b hg
      simp only [nodeOk, natD, Int.toNat_natCast, Bool.and_eq_true, decide_eq_true_eq]
      exact ⟨⟨d1, by omega⟩, d4, d5⟩
  · rw [innerD_ix I.len]
    exact decide_eq_true (nodup_map_on (List.Pairwise.filter _ List.nodup_range) fun a ha b hb e => I.inj a ha b hb (by simp) (by simp) e)
theorem getD_set {ds : List Int} {h k : Nat} {x : Int} (hh : h < ds.length) : (ds.set h x).getD k 0 = if k = h then x else ds.getD k 0 := by
  rw [List.getD_eq_getElem?_getD, List.getD_eq_getElem?_getD]
  by_cases hk : k = h
  · subst hk; simp [hh]
  · rw [List.getElem?_set_ne (fun e => hk e.symm), if_neg hk]
theorem DtInv.step {t : T} {L : List Nat} {ds : List Int} {cur x : Int} {h a b : Nat} (I : DtInv t L ds cur) (hm : h ∈ L) (e : t.nodes[h]? = some (.tup [natD a, natD b])) (ha : a ∉ L) (hb : b ∉ L) (hx : cur < x) : DtInv t (L.erase h) (ds.set h x) x := by
  have hin := I.lin h hm
  obtain ⟨hc, a', b', e', a1, b1⟩ := T.inner_mem.mp hin
  rw [e] at e'
  have ea : a = a' := by
    have := Option.some.inj e'
    injection this with this
    injection this with this _
    injection this with this
    omega
  have eb : b = b' := by
    have := Option.some.inj e'
    injection this with this
    injection this with _ this
    injection this with this _
    injection this with this
    omega
  subst ea eb
  have hlen : h < ds.length := by rw [I.len]; exact hc
  have nd : L.Nodup := I.srt.imp fun h => Nat.ne_of_lt h
  have er : ∀ k, k ∈ L.erase h ↔ k ∈ L ∧ k ≠ h := fun k => by
    rw [List.Nodup.mem_erase_iff nd]
    exact ⟨fun q => ⟨q.2, q.1⟩, fun q => ⟨q.2, q.1⟩⟩
  have low : ∀ k, k ∉ L → ds.getD k 0 ≤ cur := fun k hk => by
    by_cases hki : k ∈ t.innerIx
    · exact (I.dn k hki hk).2.1
    · by_cases hkc : k < t.cnt
      · rw [I.lf k hkc hki]; exact I.c0
      · rw [List.getD_eq_getElem?_getD, List.getElem?_eq_none (by rw [I.len]; omega)]; exact I.c0
  have c0 := I.c0
  refine ⟨by rw [List.length_set]; exact I.len, I.srt.sublist List.erase_sublist, fun k hk => I.lin k ((er k).mp hk).1, by omega, fun k hk hki => ?_, fun k hki hk => ?_, fun k hki l hli hk hl e2 => ?_⟩
  · rw [getD_set hlen, if_neg (fun e => hki (by rw [e]; exact hin))]
    exact I.lf k hk hki
  · by_cases hkh : k = h
    · subst hkh
      rw [getD_set hlen, if_pos rfl]
      refine ⟨by omega, by omega, fun a2 b2 e2 => ?_⟩
      rw [e] at e2
      have ea : a = a2 := by
        have := Option.some.inj e2
        injection this with this
        injection this with this _
        injection this with this
        omega
      have eb : b = b2 := by
        have := Option.some.inj e2
        injection this with this
        injection this with _ this
        injection this with this _
        injection this with this
        omega
      subst ea eb
      have h1 := low a ha
      have h2 := low b hb
      rw [getD_set hlen, getD_set hlen, if_neg (by omega), if_neg (by omega)]
      exact ⟨fun q => ha ((er _).mp q).1, fun q => hb ((er _).mp q).1, by omega, by omega⟩
    · have hkL : k ∉ L := fun q => hk ((er k).mpr ⟨q, hkh⟩)
      obtain ⟨d1, d2, d3⟩ := I.dn k hki hkL
      rw [getD_set hlen, if_neg hkh]
      refine ⟨d1, by omega, fun a2 b2 e2 => ?_⟩
      obtain ⟨q1, q2, q3, q4⟩ := d3 a2 b2 e2
      rw [getD_set hlen, getD_set hlen, if_neg (fun e => q1 (by rw [e]; exact hm)), if_neg (fun e => q2 (by rw [e]; exact hm))]
      exact ⟨fun q => q1 ((er _).mp q).1, fun q => q2 ((er _).mp q).1, q3, q4⟩
  · rw [getD_set hlen, getD_set hlen] at e2
    by_cases hkh : k = h
    · by_cases hlh : l = h
      · omega
      · have hlL : l ∉ L := fun q => hl ((er l).mpr ⟨q, hlh⟩)
        rw [if_pos hkh, if_neg hlh] at e2
        have := low l hlL
        omega
    · have hkL : k ∉ L := fun q => hk ((er k).mpr ⟨q, hkh⟩)
      by_cases hlh : l = h
      · rw [if_neg hkh, if_pos hlh] at e2
        have := low k hkL
        omega
      · have hlL : l ∉ L := fun q => hl ((er l).mpr ⟨q, hlh⟩)
        rw [if_neg hkh, if_neg hlh] at e2
        exact I.inj k hki l hli hkL hlL e2
end M

namespace Q
open PySem hiding Env
open L2 M
noncomputable def m_pick (g_take_2 : List R → Store → Out R) : MS :=
  (mRet (mBin opIx (mVar 1) (mCall g_take_2 (mCons (mVar 0) (mCons (mCall biLen (mCons (mVar 1) mNil)) mNil)))))
noncomputable def M_pick : List R → Store → Out R := mDefV 2 (m_pick M_take_2)
noncomputable def b1_dates (g_pick : List R → Store → Out R) (g_take_2 : List R → Store → Out R) : MS :=
  (mSeq (mSetP 5 (mLc (srcAny (mVar 3)) [6] (tgN 6) (mtAnd (mtB (mBin opNotIn (mBin opIx (mBin opIx (mVar 1) (mVar 6)) (mC (.int 0))) (mVar 3))) (mtB (mBin opNotIn (mBin opIx (mBin opIx (mVar 1) (mVar 6)) (mC (.int 1))) (mVar 3)))) (mVar 6)))
  (mSeq (mSet 6 (mCall g_pick (mCons (mVar 0) (mCons (mVar 5) mNil))))
  (mSeq (mSet 4 (mBin opAdd (mBin opAdd (mVar 4) (mC (.int 1))) (mCall g_take_2 (mCons (mVar 0) (mCons (mBin opIx (mLstV (mCons (mC (.int 1)) (mCons (mC (.int 3)) (mCons (mC (.int 13)) mNil)))) (mCall g_take_2 (mCons (mVar 0) (mCons (mC (.int 3)) mNil)))) mNil)))))
  (mSeq (mSetIx (mVar 4) (mVar 2) (mVar 6))
  (mDrop (mMeth "list" mtRemove (mVar 3) (mCons (mVar 6) mNil)))))))
noncomputable def m_dates (g_pick : List R → Store → Out R) (g_take_2 : List R → Store → Out R) : MS :=
  (mSeq (mSet 2 (mBin opMul (mLstV (mCons (mC (.int 0)) mNil)) (mCall biLen (mCons (mVar 1) mNil))))
  (mSeq (mSet 3 (mLc (srcEnum (mCons (mVar 1) mNil)) [6, 7] (tgT [(tgN 6), (tgN 7)]) (mtNot (mtTru (mCall biIsi (mCons (mVar 7) (mCons (mC (.ty "str")) mNil))))) (mVar 6)))
  (mSeq (mSet 4 (mC (.int 0)))
  (mSeq (mWhile (mtB (mBin opNe (mVar 3) (mLstV mNil))) (b1_dates g_pick g_take_2))
  (mRet (mCall biTuple (mCons (mVar 2) mNil)))))))
noncomputable def M_dates : List R → Store → Out R := mDefV 8 (m_dates M_pick M_take_2)
end Q
namespace M
open PySem PySem.Spec L2
open PyProof.Rows hiding St
theorem lc_raw {α : Type} {pins : List (Nat × MO)} {t : TgM} {c : MT} {f : ME} {m : Env} {S : Store} (hp : ∀ o, pinsOk pins (S ++ [o])) (r : α → R) (p : α → Bool) (g : α → D) (xs : List α) (hz : xs.length ≤ sizeLine)
    (hs : ∀ x ∈ xs, ∀ acc : List R, ∃ m1, t (r x) m = some m1 ∧ c m1 (S ++ [.lst acc]) = .ok (p x) (S ++ [.lst acc]) ∧ (p x = true → f m1 (S ++ [.lst acc]) = .ok (.v (g x)) (S ++ [.lst acc]))) :
    mLcGo pins t c f S.length m (xs.map r) (S ++ [.lst []]) = .ok (.ref S.length) (S ++ [.lst (((xs.filter p).map g).map .v)]) := by
  have key : ∀ (xs ys : List α), ys.length + xs.length ≤ sizeLine → (∀ x ∈ xs, ∀ acc : List R, ∃ m1, t (r x) m = some m1 ∧ c m1 (S ++ [.lst acc]) = .ok (p x) (S ++ [.lst acc]) ∧ (p x = true → f m1 (S ++ [.lst acc]) = .ok (.v (g x)) (S ++ [.lst acc]))) →
      mLcGo pins t c f S.length m (xs.map r) (S ++ [.lst ((ys.map g).map .v)]) = .ok (.ref S.length) (S ++ [.lst (((ys ++ xs.filter p).map g).map .v)]) := by
    intro xs
    induction xs with
    | nil => intro ys _ _; unfold mLcGo; simp [hp]
    | cons x xs ih =>
      intro ys hl hs
      obtain ⟨m1, e1, e2, e3⟩ := hs x (by simp) ((ys.map g).map .v)
      rw [List.map_cons]
      unfold mLcGo
      rw [if_pos (hp _), e1]
      simp only [e2, Out.calm_ok, Out.bind_ok]
      rw [List.length_cons] at hl
      cases hpx : p x with
      | false =>
        simp only
        rw [ih ys (by omega) fun x hx => hs x (by simp [hx]), List.filter_cons_of_neg (by simp [hpx])]
      | true =>
        simp only [e3 hpx, Out.calm_ok, Out.bind_ok, get_len]
        rw [if_pos (by rw [List.length_map, List.length_map]; omega), set_len, List.filter_cons_of_pos hpx]
        have := ih (ys ++ [x]) (by rw [List.length_append]; simp; omega) fun x hx => hs x (by simp [hx])
        simp only [List.map_append, List.map_cons, List.map_nil, List.append_assoc, List.cons_append, List.nil_append] at this ⊢
        exact this
  have := key xs [] (by simpa using hz) hs
  simpa using this
theorem zipIdx_range {t : T} : t.nodes.zipIdx = (List.range t.cnt).map fun h => (t.nodes.getD h .non, h) := by
  have hn := t.nodes_len
  refine List.ext_getElem (by simp [hn]) fun i h1 h2 => ?_
  simp [hn] at h1
  simp [hn, h1]
theorem inner_idx (t : T) : ((t.nodes.zipIdx.filter fun p => !isStr p.1).map fun p : D × Nat => natD p.2) = t.innerIx.map natD := by
  unfold T.innerIx
  rw [zipIdx_range, List.filter_map, List.map_map]
  rfl
def chA (t : T) (h : Nat) : Nat := match t.nodes.getD h .non with
  | .tup [.int a, .int _] => a.toNat
  | _ => 0
def chB (t : T) (h : Nat) : Nat := match t.nodes.getD h .non with
  | .tup [.int _, .int b] => b.toNat
  | _ => 0
theorem T.kids {t : T} {h : Nat} (hm : h ∈ t.innerIx) : t.nodes[h]? = some (.tup [natD (chA t h), natD (chB t h)]) ∧ chA t h < h ∧ chB t h < h ∧ h < t.cnt := by
  obtain ⟨h1, a, b, e, q1, q2⟩ := T.inner_mem.mp hm
  have hg : t.nodes.getD h .non = .tup [natD a, natD b] := by rw [List.getD_eq_getElem?_getD, e]; rfl
  have ea : chA t h = a := by unfold chA; rw [hg]; simp [natD]
  have eb : chB t h = b := by unfold chB; rw [hg]; simp [natD]
  rw [ea, eb]
  exact ⟨e, q1, q2, h1⟩
theorem srt_len : ∀ (L : List Nat) (k n : Nat), L.Pairwise (· < ·) → (∀ x ∈ L, k ≤ x) → (∀ x ∈ L, x < n) → k ≤ n → L.length + k ≤ n
  | [], k, n, _, _, _, h => by simpa using h
  | x :: r, k, n, hp, h1, h2, _ => by
    rw [List.pairwise_cons] at hp
    have a1 := h1 x (by simp)
    have a2 := h2 x (by simp)
    have := srt_len r (x + 1) n hp.2 (fun y hy => hp.1 y hy) (fun y hy => h2 y (by simp [hy])) (by omega)
    rw [List.length_cons]
    omega
theorem get_atL1 {S' : Store} {k : Nat} (hl : S'.length = k) (a b : MO) (cs : Store) : (S' ++ a :: b :: cs)[k + 1]? = some b := by subst hl; simp
theorem set_atL1 {S' : Store} {k : Nat} (hl : S'.length = k) (a b x : MO) (cs : Store) : (S' ++ a :: b :: cs).set (k + 1) x = S' ++ a :: x :: cs := by subst hl; simp
theorem DtInv.start (t : T) : DtInv t t.innerIx (List.replicate t.cnt 0) 0 := by
  refine ⟨by simp, (List.pairwise_lt_range (n := t.cnt)).filter _, fun h hh => hh, Int.le_refl _, fun h hh _ => ?_, fun h hh hn => absurd hh hn, fun h hh k hk hn => absurd hh hn⟩
  rw [List.getD_eq_getElem?_getD, List.getElem?_replicate, if_pos hh]; rfl
theorem DtInv.bound {t : T} {ds : List Int} {cur : Int} (I : DtInv t [] ds cur) : ∀ x ∈ ds, 0 ≤ x ∧ x ≤ cur := by
  intro x hx
  obtain ⟨h, hh, e⟩ := List.getElem_of_mem hx
  have eg : ds.getD h 0 = x := by rw [List.getD_eq_getElem?_getD, List.getElem?_eq_getElem hh, e]; rfl
  have c0 := I.c0
  by_cases hi : h ∈ t.innerIx
  · have := I.dn h hi (by simp)
    rw [eg] at this
    omega
  · have := I.lf h (by rw [← I.len]; exact hh) hi
    rw [eg] at this
    omega
end M
namespace Q
open PySem hiding Env
open L2 M
theorem pick_spec2 {b : Nat} {S : Store} {n : Nat} {h : Pot b} {ds : List D} (e : S[n]? = some h.c) (hb : b ≤ 2 ^ 40) (hne : ds ≠ []) (hz : ds.length ≤ 100000) : ∃ (d : D) (h' : Pot (b + 1)), M_pick [.ref n, .v (.lst ds)] S = .ok (.v d) (S.set n h'.c) ∧ d ∈ ds := by
  have hp : 0 < ds.length := List.length_pos_iff.mpr hne
  obtain ⟨x, h', e1, h2, h3⟩ := take_2_spec (k := (ds.length : Int)) e hb (by omega) (by omega)
  obtain ⟨d, hd, hmem⟩ := atI_some (xs := ds) h2 h3
  refine ⟨d, h', mDefV_rtU ?_ (upd_set n (h'.lo _)), hmem⟩
  simp only [m_pick, List.map_cons, List.map_nil, List.length_cons, List.length_nil, List.replicate, List.cons_append, List.nil_append, Nat.reduceAdd, Nat.reduceSub, mRet_eq, mBin_eq, mCall_eq, mCons_eq, mVar_eq, mNil_eq, List.getElem?_cons_succ, List.getElem?_cons_zero, Out.bind_ok, biLen_lst, e1, opIx_lst hd, thenS_ok]
theorem dates_turn {b0 : Nat} {S : Store} {p n : Nat} {h : Pot b0} {t : T} {L : List Nat} {ds : List Int} {cur : Int} {w5 w6 w7 : Option R} (e : S[p]? = some h.c) (er : S[n]? = some (.lst (t.nodes.map .v))) (hpn : p ≠ n) (hz : t.ls.length ≤ 1000) (hb : b0 + 3 ≤ 2 ^ 40) (I : DtInv t L ds cur) (hne : L ≠ []) :
    ∃ (h' : Pot (b0 + 3)) (L' : List Nat) (ds' : List Int) (cur' : Int) (v5 v6 : Option R), b1_dates M_pick M_take_2 [some (.ref p), some (.ref n), some (.ref S.length), some (.ref (S.length + 1)), some (.v (.int cur)), w5, w6, w7] (S ++ [.lst ((ds.map D.int).map .v), .lst ((L.map natD).map .v)]) =
        .nx [some (.ref p), some (.ref n), some (.ref S.length), some (.ref (S.length + 1)), some (.v (.int cur')), v5, v6, w7] (S.set p h'.c ++ [.lst ((ds'.map D.int).map .v), .lst ((L'.map natD).map .v)]) ∧ DtInv t L' ds' cur' ∧ L'.length + 1 = L.length ∧ cur' ≤ cur + 13 := by
  have c := t.cnt_ls
  have hn := t.nodes_len
  let Z : Store := S ++ [.lst ((ds.map D.int).map .v), .lst ((L.map natD).map .v)]
  have zl : Z[S.length + 1]? = some (.lst ((L.map natD).map .v)) := get_atL1 rfl _ _ _
  have zr : Z[n]? = some (.lst (t.nodes.map .v)) := get_old er _
  have zp : Z[p]? = some h.c := get_old e _
  have nd : L.Nodup := I.srt.imp fun h => Nat.ne_of_lt h
  have hLc : L.length ≤ t.cnt := by
    have := srt_len L 0 t.cnt I.srt (fun _ _ => Nat.zero_le _) (fun x hx => (T.kids (I.lin x hx)).2.2.2) (Nat.zero_le _)
    omega
  -- the ready ones
  let pr : Nat → Bool := fun k => !decide (chA t k ∈ L) && !decide (chB t k ∈ L)
  have lc := lc_mapP (S := Z) (S0 := Z) (pins := [(S.length + 1, .lst ((L.map natD).map .v))]) (.refl Z) (fun o => ⟨get_old zl _, trivial⟩) (t := tgN 6) (c := mtAnd (mtB (mBin opNotIn (mBin opIx (mBin opIx (mVar 1) (mVar 6)) (mC (.v (.int 0)))) (mVar 3))) (mtB (mBin opNotIn (mBin opIx (mBin opIx (mVar 1) (mVar 6)) (mC (.v (.int 1)))) (mVar 3)))) (f := mVar 6)
    (m := [some (.ref p), some (.ref n), some (.ref S.length), some (.ref (S.length + 1)), some (.v (.int cur)), w5, none, w7]) (fun k : Nat => .v (natD k)) pr natD L (sz_of (by omega)) (by
      intro k hk acc
      obtain ⟨k1, k2, k3, k4⟩ := T.kids (I.lin k hk)
      have i0 : ∀ S, opIx (.v (.tup [natD (chA t k), natD (chB t k)])) (.v (.int 0)) S = .ok (.v (.int (chA t k : Int))) S := fun S => opIx_tup (atI_0 _ _)
      have i1 : ∀ S, opIx (.v (.tup [natD (chA t k), natD (chB t k)])) (.v (.int 1)) S = .ok (.v (.int (chB t k : Int))) S := fun S => opIx_tup (atI_1 _ _ _)
      have ir : opIx (.ref n) (.v (.int (k : Int))) (Z ++ [.lst acc]) = .ok (.v (.tup [natD (chA t k), natD (chB t k)])) (Z ++ [.lst acc]) := opIx_ref (get_old zr _) (by rw [atI_map, atI_lt (by omega), show ((k : Nat) : Int).toNat = k by omega, k1]; rfl)
      have o1 := opNotIn_ref (w := chA t k) (get_old zl [.lst acc])
      have o2 := opNotIn_ref (w := chB t k) (get_old zl [.lst acc])
      refine ⟨_, rfl, ?_, fun _ => rfl⟩
      simp only [mtAnd_eq, mtB_eq, mBin_eq, mVar_eq, mC_eq, List.set_cons_succ, List.set_cons_zero, List.getElem?_cons_succ, List.getElem?_cons_zero, Out.bind_ok, natD, ir, i0, i1]
      simp only [natD] at ir i0 i1
      simp only [ir, i0, i1, Out.bind_ok, o1, o2, onBl_bl]
      show _ = Out.ok (!decide (chA t k ∈ L) && !decide (chB t k ∈ L)) _
      cases decide (chA t k ∈ L) <;> rfl)
  have hm1 : (L.map fun k : Nat => R.v (natD k)) = (L.map natD).map R.v := by rw [List.map_map]; rfl
  rw [hm1] at lc
  generalize hrd : L.filter pr = rd at lc
  have hrne : rd ≠ [] := by
    obtain ⟨x, r, hLx⟩ : ∃ x r, L = x :: r := by
      cases L with
      | nil => exact absurd rfl hne
      | cons x r => exact ⟨x, r, rfl⟩
    have hxm : x ∈ L := by rw [hLx]; simp
    have hx := T.kids (I.lin x hxm)
    have hsm : ∀ y, y < x → y ∉ L := fun y hy hm => by
      have hs := I.srt
      rw [hLx] at hs hm
      rw [List.pairwise_cons] at hs
      rcases List.mem_cons.mp hm with e | hm
      · omega
      · have := hs.1 y hm; omega
    have hp : pr x = true := by
      show (!decide (chA t x ∈ L) && !decide (chB t x ∈ L)) = true
      rw [decide_eq_false (hsm _ hx.2.1), decide_eq_false (hsm _ hx.2.2.1)]; rfl
    have : x ∈ rd := by rw [← hrd]; exact List.mem_filter.mpr ⟨hxm, hp⟩
    intro h0
    rw [h0] at this
    cases this
  have hrl : rd.length ≤ L.length := by rw [← hrd]; exact List.length_filter_le _ _
  obtain ⟨d, h1, e1, hd⟩ := pick_spec2 (ds := rd.map natD) zp (by omega) (by simpa using hrne) (by simp; omega)
  obtain ⟨x, hx, rfl⟩ := List.mem_map.mp hd
  rw [← hrd] at hx
  obtain ⟨hxL, hxp⟩ := List.mem_filter.mp hx
  have hxp : (!decide (chA t x ∈ L) && !decide (chB t x ∈ L)) = true := hxp
  simp only [Bool.and_eq_true, Bool.not_eq_true', decide_eq_false_iff_not] at hxp
  have hk := T.kids (I.lin x hxL)
  obtain ⟨r1, h2, e2, q0, q1⟩ := take_2_spec (k := 3) (get_set zp h1.c) (by omega) (by decide) (by decide)
  rw [List.set_set] at e2
  obtain ⟨ad, had, hmem⟩ := atI_some (xs := [D.int 1, .int 3, .int 13]) (i := r1) q0 (by simpa using q1)
  obtain ⟨a, rfl, ha0, ha1⟩ : ∃ a : Int, ad = .int a ∧ 1 ≤ a ∧ a ≤ 13 := by
    simp only [List.mem_cons, List.not_mem_nil, or_false] at hmem
    rcases hmem with rfl | rfl | rfl <;> exact ⟨_, rfl, by decide, by decide⟩
  obtain ⟨r2, h3, e3, p0, p1⟩ := take_2_spec (k := a) (get_set zp h2.c) (by omega) (by omega) (by omega)
  rw [List.set_set] at e3
  have hS : (S.set p h3.c).length = S.length := by simp
  have hZ3 : Z.set p h3.c = S.set p h3.c ++ [.lst ((ds.map D.int).map .v), .lst ((L.map natD).map .v)] := set_old e _ _
  have gD := get_atL hS (.lst ((ds.map D.int).map R.v)) [.lst ((L.map natD).map .v)]
  have hlen : ((ds.map D.int).map R.v).length = t.cnt := by simp [I.len]
  have s1 : setIx (.ref S.length) (.v (.int (x : Int))) (.v (.int (cur + 1 + r2))) (Z.set p h3.c) = some (S.set p h3.c ++ [.lst (((ds.set x (cur + 1 + r2)).map D.int).map .v), .lst ((L.map natD).map .v)]) := by
    rw [hZ3, setIx_ref gD (by omega) (by rw [hlen]; have := hk.2.2.2; omega), set_atL hS, show ((x : Nat) : Int).toNat = x by omega]
    simp [List.map_set]
  have gL := get_atL1 hS (.lst (((ds.set x (cur + 1 + r2)).map D.int).map R.v)) (.lst ((L.map natD).map R.v)) []
  have rm := mtRemove_nats gL hxL
  rw [set_atL1 hS] at rm
  refine ⟨h3, L.erase x, ds.set x (cur + 1 + r2), cur + 1 + r2, some (.v (.lst (rd.map natD))), some (.v (natD x)), ?_, I.step hxL hk.1 hxp.1 hxp.2 (by omega), ?_, by omega⟩
  · show b1_dates M_pick M_take_2 _ Z = _
    unfold b1_dates
    rw [mSeq_nx (m' := [some (.ref p), some (.ref n), some (.ref S.length), some (.ref (S.length + 1)), some (.v (.int cur)), some (.v (.lst (rd.map natD))), w6, w7]) (S' := Z) (by
      rw [mSetP_lt 5 (by simp), mSet_eq]
      simp only [mPop_eq, mLc_eq, srcAny, mVar_eq, List.getElem?_cons_succ, List.getElem?_cons_zero, Out.bind_ok, zl, wipeM, List.foldl_cons, List.foldl_nil, List.set_cons_succ, List.set_cons_zero, lc, thenS_ok])]
    rw [mSeq_nx (m' := [some (.ref p), some (.ref n), some (.ref S.length), some (.ref (S.length + 1)), some (.v (.int cur)), some (.v (.lst (rd.map natD))), some (.v (natD x)), w7]) (S' := Z.set p h1.c) (by
      simp only [mSet_eq, mCall_eq, mCons_eq, mVar_eq, mNil_eq, List.getElem?_cons_succ, List.getElem?_cons_zero, Out.bind_ok, e1, thenS_ok, List.set_cons_succ, List.set_cons_zero])]
    rw [mSeq_nx (m' := [some (.ref p), some (.ref n), some (.ref S.length), some (.ref (S.length + 1)), some (.v (.int (cur + 1 + r2))), some (.v (.lst (rd.map natD))), some (.v (natD x)), w7]) (S' := Z.set p h3.c) (by
      simp only [mSet_eq, mBin_eq, mC_eq, mCall_eq, mCons_eq, mVar_eq, mNil_eq, List.getElem?_cons_succ, List.getElem?_cons_zero, Out.bind_ok, opAdd_int, mLstV_eq, frzO_3, List.length_cons, List.length_nil, Nat.zero_add, Nat.reduceAdd, sz3, if_true, e2, opIx_lst had, e3, thenS_ok, List.set_cons_succ, List.set_cons_zero])]
    simp only [mSeq_eq, mSetIx_eq, mVar_eq, List.getElem?_cons_succ, List.getElem?_cons_zero, thenS_ok, natD, s1, mDrop_eq, mMeth_eq, Out.bind_ok, tyOk_lst gL, if_true, mCons_eq, mNil_eq]
    simp only [rm, thenS_ok]
  · rw [List.length_erase_of_mem hxL]
    have : 0 < L.length := List.length_pos_iff.mpr hne
    omega
end Q
namespace M
open PySem PySem.Spec L2
open PyProof.Rows hiding St
theorem filter_both {α : Type} (p : α → Bool) : ∀ l : List α, (l.filter p).length + (l.filter fun x => !p x).length = l.length
  | [] => rfl
  | x :: l => by
    have := filter_both p l
    cases hp : p x
    · rw [List.filter_cons_of_neg (by simp [hp]), List.filter_cons_of_pos (by simp [hp])]
      simp only [List.length_cons]; omega
    · rw [List.filter_cons_of_pos hp, List.filter_cons_of_neg (by simp [hp])]
      simp only [List.length_cons]; omega
end M
namespace Q
open PySem hiding Env
open L2 M
theorem inner_len (t : T) : t.innerIx.length + t.ls.length = t.cnt := by
  have hn := t.nodes_len
  have h1 : (t.nodes.filter isStr).length = t.ls.length := by
    have := congrArg List.length (T_leaves_nodes t 0)
    rw [List.length_map] at this
    exact this
  have h2 := filter_both isStr t.nodes
  have h3 : (t.nodes.filter fun x => !isStr x).length = t.innerIx.length := by
    have e : t.nodes = (List.range t.cnt).map fun h => t.nodes.getD h .non := by rw [← hn]; exact (range_getD _ _).symm
    unfold T.innerIx
    conv => lhs; rw [e]
    rw [List.filter_map, List.length_map]
    rfl
  omega
theorem dates_spec {b0 : Nat} {S : Store} {p n : Nat} {h : Pot b0} {t : T} (e : S[p]? = some h.c) (er : S[n]? = some (.lst (t.nodes.map .v))) (hpn : p ≠ n) (hz : t.ls.length ≤ 8) (hb : b0 + 40 ≤ 2 ^ 40) :
    ∃ (h' : Pot (b0 + 40)) (ds : List Int), M_dates [.ref p, .ref n] S = .ok (.v (.tup (ds.map D.int))) (S.set p h'.c) ∧ isDt t ds = true ∧ ds.length = t.cnt ∧ ∀ x ∈ ds, 0 ≤ x ∧ x ≤ 91 := by
  have c := t.cnt_ls
  have hn := t.nodes_len
  have il := inner_len t
  have tp := t.ls_pos
  let K : Nat := t.innerIx.length
  have hK : K ≤ 7 := by show t.innerIx.length ≤ 7; omega
  let S1 : Store := S ++ [.lst (((List.replicate t.cnt (0 : Int)).map D.int).map .v)]
  have er1 : S1[n]? = some (.lst (t.nodes.map .v)) := get_old er _
  -- the houses of two
  have lc := lc_raw (S := S1) (pins := [(n, .lst (t.nodes.map .v))]) (fun o => ⟨get_old er1 _, trivial⟩) (t := tgT [tgN 6, tgN 7]) (c := mtNot (mtTru (mCall biIsi (mCons (mVar 7) (mCons (mC (.v (.ty "str"))) mNil))))) (f := mVar 6)
    (m := [some (.ref p), some (.ref n), some (.ref S.length), none, none, none, none, none]) (fun q : D × Nat => .v (.tup [.int (q.2 : Int), q.1])) (fun q => !isStr q.1) (fun q => natD q.2) t.nodes.zipIdx (sz_of (by rw [List.length_zipIdx]; omega)) (by
      intro q hq acc
      have nty : notTy q.1 = true := T.notTy_nodes t 0 q.1 (List.fst_mem_of_mem_zipIdx hq)
      refine ⟨_, rfl, ?_, fun _ => rfl⟩
      simp only [mtNot_eq, mtTru_eq, mCall_eq, mCons_eq, mVar_eq, mC_eq, mNil_eq, List.set_cons_succ, List.set_cons_zero, List.getElem?_cons_succ, List.getElem?_cons_zero, Out.bind_ok, isi_str q.1 nty, truM_bl])
  rw [inner_idx] at lc
  have lc' : mLcGo [(n, .lst (t.nodes.map .v))] (tgT [tgN 6, tgN 7]) (mtNot (mtTru (mCall biIsi (mCons (mVar 7) (mCons (mC (.v (.ty "str"))) mNil))))) (mVar 6) S1.length [some (.ref p), some (.ref n), some (.ref S.length), none, none, none, none, none] (enumI t.nodes) (S1 ++ [.lst []]) = .ok (.ref S1.length) (S1 ++ [.lst ((t.innerIx.map natD).map .v)]) := lc
  have hS1 : S1.length = S.length + 1 := by simp [S1]
  obtain ⟨m', S', eL, g, L, ds, cur, v5, v6, hS', hm', I, hL, hc⟩ := while_dec' (t := mtB (mBin opNe (mVar 3) (mLstV mNil))) (body := b1_dates M_pick M_take_2)
    (fun j m X => ∃ (g : Pot (b0 + 3 * (K - j))) (L : List Nat) (ds : List Int) (cur : Int) (v5 v6 : Option R), X = S.set p g.c ++ [.lst ((ds.map D.int).map .v), .lst ((L.map natD).map .v)] ∧ m = [some (.ref p), some (.ref n), some (.ref S.length), some (.ref (S.length + 1)), some (.v (.int cur)), v5, v6, none] ∧ DtInv t L ds cur ∧ (L.length = j ∧ j ≤ K) ∧ cur ≤ 13 * ((K - j : Nat) : Int))
    K (m := [some (.ref p), some (.ref n), some (.ref S.length), some (.ref (S.length + 1)), some (.v (.int 0)), none, none, none]) (S := S ++ [.lst (((List.replicate t.cnt (0 : Int)).map D.int).map .v), .lst ((t.innerIx.map natD).map .v)])
    ⟨h.up (by omega), t.innerIx, List.replicate t.cnt 0, 0, none, none, by show _ = S.set p h.c ++ _; rw [set_get e], rfl, DtInv.start t, ⟨rfl, Nat.le_refl _⟩, by simp⟩ (by omega)
    (by
      rintro m X ⟨g, L, ds, cur, v5, v6, rfl, rfl, I, ⟨hL, _⟩, _⟩
      have : L = [] := List.eq_nil_of_length_eq_zero hL
      subst this
      have gl := get_atL1 (show (S.set p g.c).length = S.length by simp) (.lst ((ds.map D.int).map R.v)) (.lst ((([] : List Nat).map natD).map .v)) []
      have := opNe_ref_nil gl
      simp only [mtB_eq, mBin_eq, mVar_eq, mLstV_eq, mNil_eq, List.getElem?_cons_succ, List.getElem?_cons_zero, Out.bind_ok, frzO_nil, List.length_nil, Nat.zero_le, sz0, if_true, this, onBl_bl]
      rfl)
    (by
      rintro j m X ⟨g, L, ds, cur, v5, v6, rfl, rfl, I, ⟨hL, hj⟩, hc⟩
      have hne : L ≠ [] := by intro h0; rw [h0] at hL; cases hL
      have hSl : (S.set p g.c).length = S.length := by simp
      have gl := get_atL1 hSl (.lst ((ds.map D.int).map R.v)) (.lst ((L.map natD).map R.v)) []
      have q := opNe_ref_nil gl
      have hemp : L.isEmpty = false := by simpa using hne
      rw [hemp] at q
      refine ⟨?_, ?_⟩
      · simp only [mtB_eq, mBin_eq, mVar_eq, mLstV_eq, mNil_eq, List.getElem?_cons_succ, List.getElem?_cons_zero, Out.bind_ok, frzO_nil, List.length_nil, Nat.zero_le, sz0, if_true, q, onBl_bl]
        rfl
      · obtain ⟨g', L', ds', cur', u5, u6, e1, I', hL', hc'⟩ := dates_turn (S := S.set p g.c) (p := p) (n := n) (w5 := v5) (w6 := v6) (w7 := none) (get_set e g.c) (by rw [get_ne hpn]; exact er) hpn (by omega) (by omega) I hne
        rw [hSl, List.set_set] at e1
        exact ⟨_, _, e1, g'.up (by omega), L', ds', cur', u5, u6, rfl, rfl, I', ⟨by omega, by omega⟩, by omega⟩)
  have hL0 : L = [] := List.eq_nil_of_length_eq_zero hL.1
  subst hL0 hS' hm'
  have gd := get_atL (show (S.set p g.c).length = S.length by simp) (.lst ((ds.map D.int).map R.v)) [.lst ((([] : List Nat).map natD).map .v)]
  have bt := biTuple_ref gd
  simp only [List.map_nil] at bt
  refine ⟨g.up (by omega), ds, ?_, I.done (by omega), I.len, fun x hx => by have := I.bound x hx; omega⟩
  refine mDefV_rtG [.lst ((ds.map D.int).map .v), .lst ((([] : List Nat).map natD).map .v)] ?_ (upd_set p (g.lo _))
  have bl := biLen_ref er
  rw [List.length_map, hn] at bl
  have ml : opMul (.v (.lst [D.int 0])) (.v (.int (t.cnt : Int))) S = .ok (.ref S.length) S1 := by
    unfold opMul
    simp only
    rw [if_pos ⟨by omega, by omega, sz_of (by simp; omega)⟩]
    simp only [S1]
    congr 4
    unfold repR
    rw [show ((t.cnt : Nat) : Int).toNat = t.cnt by omega]
    rw [List.map_replicate, List.map_replicate]
    simp [List.flatten_replicate_singleton]
  have en := en1_ref er1
  have hS2 : S1 ++ [MO.lst ((t.innerIx.map natD).map .v)] = S ++ [.lst (((List.replicate t.cnt (0 : Int)).map D.int).map .v), .lst ((t.innerIx.map natD).map .v)] := by simp [S1]
  rw [hS2, hS1] at lc'
  simp only [m_dates, List.map_cons, List.map_nil, List.length_cons, List.length_nil, List.replicate, List.cons_append, List.nil_append, Nat.reduceAdd, Nat.reduceSub, mSeq_eq, mSet_eq, mBin_eq, mLstV_eq, mCons_eq, mC_eq, mNil_eq, mCall_eq, mVar_eq, List.getElem?_cons_succ, List.getElem?_cons_zero, Out.bind_ok, frzO_1, Nat.zero_add, sz1, if_true, bl, ml, thenS_ok, List.set_cons_succ, List.set_cons_zero, mLc_eq, srcEnum_eq, en, wipeM, List.foldl_cons, List.foldl_nil, hS1, lc', eL, mRet_eq, bt]
  rfl
end Q

namespace Q
open PySem hiding Env
open L2 M
noncomputable def m_Slices_first_slice : MS :=
  (mRet (mMeth "list" mtIndex (mFld "Slices" "floors" (mVar 0)) (mCons (mBin opIx (mFld "Slices" "dates" (mVar 0)) (mVar 1)) mNil)))
noncomputable def M_Slices_first_slice : List R → Store → Out R := mDefV 2 (m_Slices_first_slice)
noncomputable def m_Slices_last_slice : MS :=
  (mSeq (mIfS (mtB (mBin opIs (mBin opIx (mFld "Slices" "aheads" (mVar 0)) (mVar 1)) (mC .non))) (mRet (mBin opSub (mCall biLen (mCons (mFld "Slices" "floors" (mVar 0)) mNil)) (mC (.int 1)))) mSkip)
  (mRet (mBin opSub (mMeth "list" mtIndex (mFld "Slices" "floors" (mVar 0)) (mCons (mBin opIx (mFld "Slices" "dates" (mVar 0)) (mBin opIx (mFld "Slices" "aheads" (mVar 0)) (mVar 1))) mNil)) (mC (.int 1)))))
noncomputable def M_Slices_last_slice : List R → Store → Out R := mDefV 2 (m_Slices_last_slice)
noncomputable def b1_Slices___init__ (g_Slices_first_slice : List R → Store → Out R) (g_Slices_last_slice : List R → Store → Out R) : MS :=
  (mIfS (mtB (mChain opLe opLe (mMethC "Slices" "first_slice" g_Slices_first_slice (mVar 0) (mCons (mVar 4) mNil)) (mVar 3) (mMethC "Slices" "last_slice" g_Slices_last_slice (mVar 0) (mCons (mVar 4) mNil)))) (mSetT (mCall biLenT (mCons (mFld "Slices" "places" (mVar 0)) mNil)) (mFld "Slices" "places" (mVar 0)) (mTup (mCons (mVar 4) (mCons (mVar 3) mNil)))) mSkip)
noncomputable def b2_Slices___init__ (g_Slices_first_slice : List R → Store → Out R) (g_Slices_last_slice : List R → Store → Out R) : MS :=
  (mFor (srcRange1 (mCons (mCall biLen (mCons (mFld "Slices" "rows" (mVar 0)) mNil)) mNil)) (tgN 4) (b1_Slices___init__ g_Slices_first_slice g_Slices_last_slice))
noncomputable def m_Slices___init__ (g_nodes : List R → Store → Out R) (g_ahead_of : List R → Store → Out R) (g_inner_dates : List R → Store → Out R) (g_Slices_first_slice : List R → Store → Out R) (g_Slices_last_slice : List R → Store → Out R) : MS :=
  (mSeq (mSetFld "Slices" "rows" (mVar 0) (mCall g_nodes (mCons (mVar 1) mNil)))
  (mSeq (mSetFld "Slices" "aheads" (mVar 0) (mCall g_ahead_of (mCons (mVar 1) mNil)))
  (mSeq (mSetFld "Slices" "dates" (mVar 0) (mVar 2))
  (mSeq (mSetFld "Slices" "floors" (mVar 0) (mPop (mBin opAdd (mLstV (mCons (mC (.int 0)) mNil)) (mPop (mCall biSorted (mCons (mCall g_inner_dates (mCons (mVar 1) (mCons (mVar 2) mNil))) mNil))))))
  (mSeq (mSetFld "Slices" "places" (mVar 0) mDctT0)
  (mFor (srcRange1 (mCons (mCall biLen (mCons (mFld "Slices" "floors" (mVar 0)) mNil)) mNil)) (tgN 3) (b2_Slices___init__ g_Slices_first_slice g_Slices_last_slice)))))))
noncomputable def M_Slices___init__ : List R → Store → Out R := mDef 5 (m_Slices___init__ M_nodes M_ahead_of M_inner_dates M_Slices_first_slice M_Slices_last_slice)
noncomputable def m_Slices_under_of (g_Slices_first_slice : List R → Store → Out R) : MS :=
  (mSeq (mSet 3 (mBin opIx (mFld "Slices" "rows" (mVar 0)) (mVar 1)))
  (mSeq (mIfS (mtB (mBin opLt (mMethC "Slices" "first_slice" g_Slices_first_slice (mVar 0) (mCons (mVar 1) mNil)) (mVar 2))) (mRet (mTup (mCons (mBin opIxT (mFld "Slices" "places" (mVar 0)) (mTup (mCons (mVar 1) (mCons (mBin opSub (mVar 2) (mC (.int 1))) mNil)))) mNil))) mSkip)
  (mSeq (mIfS (mtTru (mCall biIsi (mCons (mVar 3) (mCons (mC (.ty "str")) mNil)))) (mRet (mTup mNil)) mSkip)
  (mRet (mTup (mCons (mBin opIxT (mFld "Slices" "places" (mVar 0)) (mTup (mCons (mBin opIx (mVar 3) (mC (.int 0))) (mCons (mBin opSub (mVar 2) (mC (.int 1))) mNil)))) (mCons (mBin opIxT (mFld "Slices" "places" (mVar 0)) (mTup (mCons (mBin opIx (mVar 3) (mC (.int 1))) (mCons (mBin opSub (mVar 2) (mC (.int 1))) mNil)))) mNil)))))))
noncomputable def M_Slices_under_of : List R → Store → Out R := mDefV 4 (m_Slices_under_of M_Slices_first_slice)
noncomputable def m_Slices_beside_of : MS :=
  (mRet (mCall biTuple (mCons (mPop (mLockE (laF "Slices" "places" (laV 0)) (mLc (srcItemsT (mFld "Slices" "places" (mVar 0))) [3, 4, 5] (tgT [(tgT [(tgN 4), (tgN 5)]), (tgN 3)]) (mtAnd (mtB (mBin opEq (mVar 5) (mVar 2))) (mtB (mBin opNe (mVar 4) (mVar 1)))) (mVar 3)))) mNil)))
noncomputable def M_Slices_beside_of : List R → Store → Out R := mDefV 6 (m_Slices_beside_of)
noncomputable def b1_dated_2 (g_name_of : List R → Store → Out R) (g_Slices_under_of : List R → Store → Out R) (g_Slices_beside_of : List R → Store → Out R) : MS :=
  (mSeq (mSet 6 (mCall g_name_of (mCons (mBin opIx (mFld "Slices" "rows" (mVar 2)) (mVar 4)) (mCons (mVar 4) mNil))))
  (mDrop (mMeth "list" mtAppend (mVar 3) (mCons (mTup (mCons (mVar 6) (mCons (mVar 5) (mCons (mMethC "Slices" "under_of" g_Slices_under_of (mVar 2) (mCons (mVar 4) (mCons (mVar 5) mNil))) (mCons (mMethC "Slices" "beside_of" g_Slices_beside_of (mVar 2) (mCons (mVar 4) (mCons (mVar 5) mNil))) mNil))))) mNil))))
noncomputable def m_dated_2 (g_Slices___init__ : List R → Store → Out R) (g_name_of : List R → Store → Out R) (g_Slices_beside_of : List R → Store → Out R) (g_Slices_under_of : List R → Store → Out R) : MS :=
  (mSeq (mSet 2 (mMake "Slices" g_Slices___init__ (mCons (mVar 0) (mCons (mVar 1) mNil))))
  (mSeq (mSet 3 (mLst mNil))
  (mSeq (mLockS (laF "Slices" "places" (laV 2)) (mFor (srcKeys (mFld "Slices" "places" (mVar 2))) (tgT [(tgN 4), (tgN 5)]) (b1_dated_2 g_name_of g_Slices_under_of g_Slices_beside_of)))
  (mRet (mCall biTuple (mCons (mVar 3) mNil))))))
noncomputable def M_dated_2 : List R → Store → Out R := mDefV 7 (m_dated_2 M_Slices___init__ M_name_of M_Slices_beside_of M_Slices_under_of)
end Q
namespace Q
open PySem hiding Env
open L2 M
def fs_Slices1 (r0 : R) : List (Str × R) := [(("rows" : Str), r0)]
def fs_Slices2 (r0 r1 : R) : List (Str × R) := [(("rows" : Str), r0), (("aheads" : Str), r1)]
def fs_Slices3 (r0 r1 r2 : R) : List (Str × R) := [(("rows" : Str), r0), (("aheads" : Str), r1), (("dates" : Str), r2)]
def fs_Slices4 (r0 r1 r2 r3 : R) : List (Str × R) := [(("rows" : Str), r0), (("aheads" : Str), r1), (("dates" : Str), r2), (("floors" : Str), r3)]
def fs_Slices (r0 r1 r2 r3 r4 : R) : List (Str × R) := [(("rows" : Str), r0), (("aheads" : Str), r1), (("dates" : Str), r2), (("floors" : Str), r3), (("places" : Str), r4)]
theorem fs_Slices1_at_rows (r0 : R) : (fs_Slices1 r0).lookup ("rows" : Str) = some r0 := rfl
theorem fs_Slices1_put_rows (r0 x : R) : putR' ("rows" : Str) x (fs_Slices1 r0) = fs_Slices1 x := rfl
theorem fs_Slices1_no_first_slice (r0 : R) : (fs_Slices1 r0).lookup ("first_slice" : Str) = none := rfl
theorem fs_Slices1_no_last_slice (r0 : R) : (fs_Slices1 r0).lookup ("last_slice" : Str) = none := rfl
theorem fs_Slices1_no_under_of (r0 : R) : (fs_Slices1 r0).lookup ("under_of" : Str) = none := rfl
theorem fs_Slices1_no_beside_of (r0 : R) : (fs_Slices1 r0).lookup ("beside_of" : Str) = none := rfl
theorem fs_Slices1_put_aheads (r0 x : R) : putR' ("aheads" : Str) x (fs_Slices1 r0) = fs_Slices2 r0 x := rfl
theorem fs_Slices1_len (r0 : R) : (fs_Slices1 r0).length = 1 := rfl
theorem fs_Slices2_at_rows (r0 r1 : R) : (fs_Slices2 r0 r1).lookup ("rows" : Str) = some r0 := rfl
theorem fs_Slices2_put_rows (r0 r1 x : R) : putR' ("rows" : Str) x (fs_Slices2 r0 r1) = fs_Slices2 x r1 := rfl
theorem fs_Slices2_at_aheads (r0 r1 : R) : (fs_Slices2 r0 r1).lookup ("aheads" : Str) = some r1 := rfl
theorem fs_Slices2_put_aheads (r0 r1 x : R) : putR' ("aheads" : Str) x (fs_Slices2 r0 r1) = fs_Slices2 r0 x := rfl
theorem fs_Slices2_no_first_slice (r0 r1 : R) : (fs_Slices2 r0 r1).lookup ("first_slice" : Str) = none := rfl
theorem fs_Slices2_no_last_slice (r0 r1 : R) : (fs_Slices2 r0 r1).lookup ("last_slice" : Str) = none := rfl
theorem fs_Slices2_no_under_of (r0 r1 : R) : (fs_Slices2 r0 r1).lookup ("under_of" : Str) = none := rfl
theorem fs_Slices2_no_beside_of (r0 r1 : R) : (fs_Slices2 r0 r1).lookup ("beside_of" : Str) = none := rfl
theorem fs_Slices2_put_dates (r0 r1 x : R) : putR' ("dates" : Str) x (fs_Slices2 r0 r1) = fs_Slices3 r0 r1 x := rfl
theorem fs_Slices2_len (r0 r1 : R) : (fs_Slices2 r0 r1).length = 2 := rfl
theorem fs_Slices3_at_rows (r0 r1 r2 : R) : (fs_Slices3 r0 r1 r2).lookup ("rows" : Str) = some r0 := rfl
theorem fs_Slices3_put_rows (r0 r1 r2 x : R) : putR' ("rows" : Str) x (fs_Slices3 r0 r1 r2) = fs_Slices3 x r1 r2 := rfl
theorem fs_Slices3_at_aheads (r0 r1 r2 : R) : (fs_Slices3 r0 r1 r2).lookup ("aheads" : Str) = some r1 := rfl
theorem fs_Slices3_put_aheads (r0 r1 r2 x : R) : putR' ("aheads" : Str) x (fs_Slices3 r0 r1 r2) = fs_Slices3 r0 x r2 := rfl
theorem fs_Slices3_at_dates (r0 r1 r2 : R) : (fs_Slices3 r0 r1 r2).lookup ("dates" : Str) = some r2 := rfl
theorem fs_Slices3_put_dates (r0 r1 r2 x : R) : putR' ("dates" : Str) x (fs_Slices3 r0 r1 r2) = fs_Slices3 r0 r1 x := rfl
theorem fs_Slices3_no_first_slice (r0 r1 r2 : R) : (fs_Slices3 r0 r1 r2).lookup ("first_slice" : Str) = none := rfl
theorem fs_Slices3_no_last_slice (r0 r1 r2 : R) : (fs_Slices3 r0 r1 r2).lookup ("last_slice" : Str) = none := rfl
theorem fs_Slices3_no_under_of (r0 r1 r2 : R) : (fs_Slices3 r0 r1 r2).lookup ("under_of" : Str) = none := rfl
theorem fs_Slices3_no_beside_of (r0 r1 r2 : R) : (fs_Slices3 r0 r1 r2).lookup ("beside_of" : Str) = none := rfl
theorem fs_Slices3_put_floors (r0 r1 r2 x : R) : putR' ("floors" : Str) x (fs_Slices3 r0 r1 r2) = fs_Slices4 r0 r1 r2 x := rfl
theorem fs_Slices3_len (r0 r1 r2 : R) : (fs_Slices3 r0 r1 r2).length = 3 := rfl
theorem fs_Slices4_at_rows (r0 r1 r2 r3 : R) : (fs_Slices4 r0 r1 r2 r3).lookup ("rows" : Str) = some r0 := rfl
theorem fs_Slices4_put_rows (r0 r1 r2 r3 x : R) : putR' ("rows" : Str) x (fs_Slices4 r0 r1 r2 r3) = fs_Slices4 x r1 r2 r3 := rfl
theorem fs_Slices4_at_aheads (r0 r1 r2 r3 : R) : (fs_Slices4 r0 r1 r2 r3).lookup ("aheads" : Str) = some r1 := rfl
theorem fs_Slices4_put_aheads (r0 r1 r2 r3 x : R) : putR' ("aheads" : Str) x (fs_Slices4 r0 r1 r2 r3) = fs_Slices4 r0 x r2 r3 := rfl
theorem fs_Slices4_at_dates (r0 r1 r2 r3 : R) : (fs_Slices4 r0 r1 r2 r3).lookup ("dates" : Str) = some r2 := rfl
theorem fs_Slices4_put_dates (r0 r1 r2 r3 x : R) : putR' ("dates" : Str) x (fs_Slices4 r0 r1 r2 r3) = fs_Slices4 r0 r1 x r3 := rfl
theorem fs_Slices4_at_floors (r0 r1 r2 r3 : R) : (fs_Slices4 r0 r1 r2 r3).lookup ("floors" : Str) = some r3 := rfl
theorem fs_Slices4_put_floors (r0 r1 r2 r3 x : R) : putR' ("floors" : Str) x (fs_Slices4 r0 r1 r2 r3) = fs_Slices4 r0 r1 r2 x := rfl
theorem fs_Slices4_no_first_slice (r0 r1 r2 r3 : R) : (fs_Slices4 r0 r1 r2 r3).lookup ("first_slice" : Str) = none := rfl
theorem fs_Slices4_no_last_slice (r0 r1 r2 r3 : R) : (fs_Slices4 r0 r1 r2 r3).lookup ("last_slice" : Str) = none := rfl
theorem fs_Slices4_no_under_of (r0 r1 r2 r3 : R) : (fs_Slices4 r0 r1 r2 r3).lookup ("under_of" : Str) = none := rfl
theorem fs_Slices4_no_beside_of (r0 r1 r2 r3 : R) : (fs_Slices4 r0 r1 r2 r3).lookup ("beside_of" : Str) = none := rfl
theorem fs_Slices4_put_places (r0 r1 r2 r3 x : R) : putR' ("places" : Str) x (fs_Slices4 r0 r1 r2 r3) = fs_Slices r0 r1 r2 r3 x := rfl
theorem fs_Slices4_len (r0 r1 r2 r3 : R) : (fs_Slices4 r0 r1 r2 r3).length = 4 := rfl
theorem fs_Slices_at_rows (r0 r1 r2 r3 r4 : R) : (fs_Slices r0 r1 r2 r3 r4).lookup ("rows" : Str) = some r0 := rfl
theorem fs_Slices_put_rows (r0 r1 r2 r3 r4 x : R) : putR' ("rows" : Str) x (fs_Slices r0 r1 r2 r3 r4) = fs_Slices x r1 r2 r3 r4 := rfl
theorem fs_Slices_at_aheads (r0 r1 r2 r3 r4 : R) : (fs_Slices r0 r1 r2 r3 r4).lookup ("aheads" : Str) = some r1 := rfl
theorem fs_Slices_put_aheads (r0 r1 r2 r3 r4 x : R) : putR' ("aheads" : Str) x (fs_Slices r0 r1 r2 r3 r4) = fs_Slices r0 x r2 r3 r4 := rfl
theorem fs_Slices_at_dates (r0 r1 r2 r3 r4 : R) : (fs_Slices r0 r1 r2 r3 r4).lookup ("dates" : Str) = some r2 := rfl
theorem fs_Slices_put_dates (r0 r1 r2 r3 r4 x : R) : putR' ("dates" : Str) x (fs_Slices r0 r1 r2 r3 r4) = fs_Slices r0 r1 x r3 r4 := rfl
theorem fs_Slices_at_floors (r0 r1 r2 r3 r4 : R) : (fs_Slices r0 r1 r2 r3 r4).lookup ("floors" : Str) = some r3 := rfl
theorem fs_Slices_put_floors (r0 r1 r2 r3 r4 x : R) : putR' ("floors" : Str) x (fs_Slices r0 r1 r2 r3 r4) = fs_Slices r0 r1 r2 x r4 := rfl
theorem fs_Slices_at_places (r0 r1 r2 r3 r4 : R) : (fs_Slices r0 r1 r2 r3 r4).lookup ("places" : Str) = some r4 := rfl
theorem fs_Slices_put_places (r0 r1 r2 r3 r4 x : R) : putR' ("places" : Str) x (fs_Slices r0 r1 r2 r3 r4) = fs_Slices r0 r1 r2 r3 x := rfl
theorem fs_Slices_no_first_slice (r0 r1 r2 r3 r4 : R) : (fs_Slices r0 r1 r2 r3 r4).lookup ("first_slice" : Str) = none := rfl
theorem fs_Slices_no_last_slice (r0 r1 r2 r3 r4 : R) : (fs_Slices r0 r1 r2 r3 r4).lookup ("last_slice" : Str) = none := rfl
theorem fs_Slices_no_under_of (r0 r1 r2 r3 r4 : R) : (fs_Slices r0 r1 r2 r3 r4).lookup ("under_of" : Str) = none := rfl
theorem fs_Slices_no_beside_of (r0 r1 r2 r3 r4 : R) : (fs_Slices r0 r1 r2 r3 r4).lookup ("beside_of" : Str) = none := rfl
theorem fs_Slices_len (r0 r1 r2 r3 r4 : R) : (fs_Slices r0 r1 r2 r3 r4).length = 5 := rfl
theorem fs_Slices0_put (x : R) : putR' ("rows" : Str) x [] = fs_Slices1 x := rfl
end Q
namespace M
open PySem PySem.Spec L2
open PyProof.Rows hiding St
/-! ### who stands above whom -/
theorem T.ahd_kid : ∀ (t : T) (k i a b : Nat), (T.nodesFrom k t)[i]? = some (.tup [natD a, natD b]) → ∃ ja jb, a = k + ja ∧ b = k + jb ∧ (T.ahdI k t)[ja]? = some (some (k + i)) ∧ (T.ahdI k t)[jb]? = some (some (k + i))
  | .leaf w, k, i, a, b, h => by
    cases i with
    | zero => cases h
    | succ i => simp [T.nodesFrom] at h
  | .node l r, k, i, a, b, h => by
    have hl := T.ahdI_len l k
    have hr := T.ahdI_len r (k + l.cnt)
    have cl := l.cnt_pos
    have cr := r.cnt_pos
    simp only [T.nodesFrom] at h
    rcases three h with ⟨h1, h2⟩ | ⟨j, rfl, h1, h2⟩ | ⟨rfl, h2⟩
    · obtain ⟨ja, jb, e1, e2, e3, e4⟩ := T.ahd_kid l k i a b h2
      have l1 := (List.getElem?_eq_some_iff.mp e3).1
      have l2 := (List.getElem?_eq_some_iff.mp e4).1
      exact ⟨ja, jb, e1, e2, by rw [T.ahdI, List.getElem?_append_left l1, e3], by rw [T.ahdI, List.getElem?_append_left l2, e4]⟩
    · rw [T.nodesFrom_len] at *
      obtain ⟨ja, jb, e1, e2, e3, e4⟩ := T.ahd_kid r (k + l.cnt) j a b h2
      have l1 := (List.getElem?_eq_some_iff.mp e3).1
      have l2 := (List.getElem?_eq_some_iff.mp e4).1
      have key : ∀ j', j' < (T.ahdI (k + l.cnt) r).length → (T.ahdI k (.node l r))[l.cnt + j']? = (T.ahdI (k + l.cnt) r)[j']? := by
        intro j' hj
        rw [T.ahdI, List.getElem?_append_right (by omega), show l.cnt + j' - (T.ahdI k l).length = j' + 1 by omega, List.getElem?_cons_succ, List.getElem?_append_left hj]
      exact ⟨l.cnt + ja, l.cnt + jb, by omega, by omega, by rw [key ja l1, e3]; congr 2; omega, by rw [key jb l2, e4]; congr 2; omega⟩
    · rw [T.nodesFrom_len, T.nodesFrom_len] at *
      simp only [D.tup.injEq, List.cons.injEq, and_true, natD, D.int.injEq] at h2
      obtain ⟨q1, q2⟩ := h2
      refine ⟨l.cnt - 1, l.cnt + r.cnt - 1, by omega, by omega, ?_, ?_⟩
      · rw [T.ahdI, List.getElem?_append_right (by omega), show l.cnt - 1 - (T.ahdI k l).length = 0 by omega]
        simp; omega
      · rw [T.ahdI, List.getElem?_append_right (by omega), show l.cnt + r.cnt - 1 - (T.ahdI k l).length = (T.ahdI (k + l.cnt) r).length + 1 by omega, List.getElem?_cons_succ, List.getElem?_append_right (Nat.le_refl _)]
        simp; omega
theorem T.ahd_par : ∀ (t : T) (k i : Nat) (o : Option Nat), (T.ahdI k t)[i]? = some o → ∃ j a b, o = some (k + j) ∧ (T.nodesFrom k t)[j]? = some (.tup [natD a, natD b]) ∧ (k + i = a ∨ k + i = b)
  | .leaf w, k, i, o, h => by simp [T.ahdI] at h
  | .node l r, k, i, o, h => by
    have hl := T.ahdI_len l k
    have hr := T.ahdI_len r (k + l.cnt)
    have cl := l.cnt_pos
    have cr := r.cnt_pos
    have nl := l.nodesFrom_len k
    have nr := r.nodesFrom_len (k + l.cnt)
    have top : (T.nodesFrom k (.node l r))[l.cnt + r.cnt]? = some (.tup [natD (k + l.cnt - 1), natD (k + l.cnt + r.cnt - 1)]) := by
      rw [T.nodesFrom, List.getElem?_append_right (by rw [List.length_append]; omega), List.length_append, nl, nr, Nat.sub_self]; rfl
    rw [T.ahdI] at h
    by_cases h1 : i < (T.ahdI k l).length
    · rw [List.getElem?_append_left h1] at h
      obtain ⟨j, a, b, e1, e2, e3⟩ := T.ahd_par l k i o h
      have l1 := (List.getElem?_eq_some_iff.mp e2).1
      exact ⟨j, a, b, e1, by rw [T.nodesFrom, List.append_assoc, List.getElem?_append_left l1, e2], e3⟩
    · rw [List.getElem?_append_right (by omega)] at h
      cases hx : i - (T.ahdI k l).length with
      | zero =>
        rw [hx] at h
        simp at h
        exact ⟨l.cnt + r.cnt, _, _, by rw [← h]; congr 1; omega, top, .inl (by omega)⟩
      | succ j =>
        rw [hx, List.getElem?_cons_succ] at h
        by_cases h2 : j < (T.ahdI (k + l.cnt) r).length
        · rw [List.getElem?_append_left h2] at h
          obtain ⟨j', a, b, e1, e2, e3⟩ := T.ahd_par r (k + l.cnt) j o h
          have l1 := (List.getElem?_eq_some_iff.mp e2).1
          exact ⟨l.cnt + j', a, b, by rw [e1]; congr 1; omega, by rw [T.nodesFrom, List.append_assoc, List.getElem?_append_right (by omega), show l.cnt + j' - (T.nodesFrom k l).length = j' by omega, List.getElem?_append_left l1, e2], by omega⟩
        · rw [List.getElem?_append_right (by omega)] at h
          have hz : j - (T.ahdI (k + l.cnt) r).length = 0 := by
            rcases Nat.eq_zero_or_pos (j - (T.ahdI (k + l.cnt) r).length) with z | z
            · exact z
            · rw [List.getElem?_eq_none (by simp; omega)] at h; cases h
          rw [hz] at h
          simp at h
          exact ⟨l.cnt + r.cnt, _, _, by rw [← h]; congr 1; omega, top, .inr (by omega)⟩
theorem T.ahead_len (t : T) : t.ahead.length = t.cnt := by rw [T.ahead, List.length_append]; exact t.ahdI_len 0
theorem T.ahead_kid {t : T} {h a b : Nat} (e : t.nodes[h]? = some (.tup [natD a, natD b])) : t.ahead[a]? = some (some h) ∧ t.ahead[b]? = some (some h) := by
  obtain ⟨ja, jb, e1, e2, e3, e4⟩ := T.ahd_kid t 0 h a b e
  rw [Nat.zero_add] at e1 e2 e3 e4
  subst e1 e2
  have l1 := (List.getElem?_eq_some_iff.mp e3).1
  have l2 := (List.getElem?_eq_some_iff.mp e4).1
  exact ⟨by rw [T.ahead, List.getElem?_append_left l1, e3], by rw [T.ahead, List.getElem?_append_left l2, e4]⟩
theorem T.ahead_par {t : T} {i p : Nat} (e : t.ahead[i]? = some (some p)) : ∃ a b, t.nodes[p]? = some (.tup [natD a, natD b]) ∧ (i = a ∨ i = b) := by
  rw [T.ahead] at e
  by_cases h : i < (T.ahdI 0 t).length
  · rw [List.getElem?_append_left h] at e
    obtain ⟨j, a, b, e1, e2, e3⟩ := T.ahd_par t 0 i _ e
    cases e1
    rw [Nat.zero_add] at e3 ⊢
    exact ⟨a, b, e2, e3⟩
  · rw [List.getElem?_append_right (by omega)] at e
    cases hx : i - (T.ahdI 0 t).length with
    | zero => rw [hx] at e; simp at e
    | succ j => rw [hx] at e; simp at e
/-! ### slices -/
def fls (t : T) (ds : List Int) : List Int := 0 :: isort (innerD t ds)
/-- whether a house stands in a slice -/
def stands (t : T) (ds : List Int) (l h : Nat) : Bool := decide (ds.getD h 0 ≤ (fls t ds).getD l 0) && (match t.ahead.getD h none with
  | none => true
  | some p => decide ((fls t ds).getD l 0 < ds.getD p 0))
def standL (t : T) (ds : List Int) (l n : Nat) : List (Nat × Nat) := ((List.range n).filter (stands t ds l)).map fun h => (h, l)
def standTo (t : T) (ds : List Int) (n : Nat) : List (Nat × Nat) := (List.range n).flatMap fun l => standL t ds l t.cnt
/-- all stays, as they are numbered: a house, a slice -/
def standing (t : T) (ds : List Int) : List (Nat × Nat) := standTo t ds (fls t ds).length
def pix (t : T) (ds : List Int) (h l : Nat) : Nat := (standing t ds).idxOf (h, l)
/-- straight under -/
def undr (t : T) (ds : List Int) (h l : Nat) : List Nat :=
  if ds.getD h 0 < (fls t ds).getD l 0 then [pix t ds h (l - 1)]
  else if isStr (t.nodes.getD h .non) = true then [] else [pix t ds (chA t h) (l - 1), pix t ds (chB t h) (l - 1)]
def besd (t : T) (ds : List Int) (h l : Nat) : List Nat := (((standing t ds).zipIdx).filter fun p => decide (p.1.2 = l) && !decide (p.1.1 = h)).map (·.2)
def stayOf (t : T) (ds : List Int) (p : Nat × Nat) : D := .tup [if isStr (t.nodes.getD p.1 .non) = true then t.nodes.getD p.1 .non else natD p.1, natD p.2, .tup ((undr t ds p.1 p.2).map natD), .tup ((besd t ds p.1 p.2).map natD)]
def T.dated (t : T) (ds : List Int) : List D := (standing t ds).map (stayOf t ds)
/-! dates: facts -/
structure Dts (t : T) (ds : List Int) : Prop where
  len : ds.length = t.cnt
  lf : ∀ h, h < t.cnt → isStr (t.nodes.getD h .non) = true → ds.getD h 0 = 0
  inr : ∀ h ∈ t.innerIx, 1 ≤ ds.getD h 0 ∧ ds.getD h 0 ≤ 99 ∧ ds.getD (chA t h) 0 < ds.getD h 0 ∧ ds.getD (chB t h) 0 < ds.getD h 0
  nd : (innerD t ds).Nodup
theorem Dts.of {t : T} {ds : List Int} (h : isDt t ds = true) : Dts t ds := by
  unfold isDt at h
  simp only [Bool.and_eq_true, decide_eq_true_eq, List.all_eq_true, List.mem_range] at h
  obtain ⟨h1, h2, h3⟩ := h
  refine ⟨h1, fun k hk hs => ?_, fun k hk => ?_, h3⟩
  · have := h2 k hk
    have hn := t.nodes_len
    have hg : t.nodes[k]? = some (t.nodes.getD k .non) := by rw [List.getD_eq_getElem?_getD, List.getElem?_eq_getElem (by omega)]; rfl
    rcases t.node_cases hg with ⟨w, e⟩ | ⟨a, b, e, _, _⟩
    · rw [e] at this
      exact eq_of_beq (show (ds.getD k 0 == 0) = true from this)
    · rw [e] at hs; cases hs
  · obtain ⟨e, ha, hb, hc⟩ := T.kids hk
    have := h2 k hc
    rw [show t.nodes.getD k .non = .tup [natD (chA t k), natD (chB t k)] by rw [List.getD_eq_getElem?_getD, e]; rfl] at this
    have this : ((decide (1 ≤ ds.getD k 0) && decide (ds.getD k 0 ≤ 99)) && (decide (ds.getD ((chA t k : Nat) : Int).toNat 0 < ds.getD k 0) && decide (ds.getD ((chB t k : Nat) : Int).toNat 0 < ds.getD k 0))) = true := this
    simp only [Bool.and_eq_true, decide_eq_true_eq, Int.toNat_natCast] at this
    omega
theorem Dts.notIn {t : T} {h : Nat} (hh : h < t.cnt) : h ∈ t.innerIx ↔ isStr (t.nodes.getD h .non) = false := by
  unfold T.innerIx
  rw [List.mem_filter, List.mem_range]
  simp [hh]
theorem fls_si {t : T} {ds : List Int} (I : Dts t ds) : (fls t ds).Pairwise (· < ·) := by
  unfold fls
  rw [List.pairwise_cons]
  have hp := isort_perm (innerD t ds)
  refine ⟨fun x hx => ?_, ?_⟩
  · have := hp.mem_iff.mp hx
    rw [innerD_ix I.len] at this
    obtain ⟨h, hh, rfl⟩ := List.mem_map.mp this
    have := (I.inr h hh).1
    omega
  · have s1 := isort_sorted (innerD t ds)
    have s2 : (isort (innerD t ds)).Nodup := hp.nodup_iff.mpr I.nd
    exact (s1.and s2).imp fun h => by omega
theorem mem_fls {t : T} {ds : List Int} (I : Dts t ds) {h : Nat} (hh : h < t.cnt) : ds.getD h 0 ∈ fls t ds := by
  unfold fls
  cases hs : isStr (t.nodes.getD h .non) with
  | true => rw [I.lf h hh hs]; simp
  | false =>
    refine List.mem_cons_of_mem _ ((isort_perm _).mem_iff.mpr ?_)
    rw [innerD_ix I.len]
    exact List.mem_map_of_mem (f := fun h => ds.getD h 0) ((Dts.notIn hh).mpr hs)
/-- places in a rising list -/
theorem si_idx {L : List Int} (hs : L.Pairwise (· < ·)) {x : Int} (hx : x ∈ L) {l : Nat} (hl : l < L.length) : (L.idxOf x ≤ l ↔ x ≤ L.getD l 0) ∧ (l < L.idxOf x ↔ L.getD l 0 < x) := by
  have hi := List.idxOf_lt_length_of_mem hx
  have e : L[L.idxOf x] = x := List.getElem_idxOf hi
  have el : L.getD l 0 = L[l] := by rw [List.getD_eq_getElem?_getD, List.getElem?_eq_getElem hl]; rfl
  have mono := List.pairwise_iff_getElem.mp hs
  rw [el]
  have key : ∀ (i j : Nat) (hi : i < L.length) (hj : j < L.length), i < j → L[i] < L[j] := fun i j hi hj h => mono i j hi hj h
  rcases Nat.lt_trichotomy (L.idxOf x) l with q | q | q
  · have := key _ _ hi hl q
    rw [e] at this
    constructor <;> constructor <;> intro <;> omega
  · subst q
    rw [e]
    constructor <;> constructor <;> intro <;> omega
  · have := key _ _ hl hi q
    rw [e] at this
    constructor <;> constructor <;> intro <;> omega
/-! the dict of the stays -/
def encP (L : List (Nat × Nat)) : List (List Key × R) := L.zipIdx.map fun p => ([.inl (p.1.1 : Int), .inl (p.1.2 : Int)], .v (.int (p.2 : Int)))
theorem encP_len (L : List (Nat × Nat)) : (encP L).length = L.length := by simp [encP]
theorem key_inj {p q : Nat × Nat} (h : ([.inl (p.1 : Int), .inl (p.2 : Int)] : List Key) = [.inl (q.1 : Int), .inl (q.2 : Int)]) : p = q := by
  simp at h
  exact Prod.ext (by have := h.1; omega) (by have := h.2; omega)
theorem encP_any {L : List (Nat × Nat)} {p : Nat × Nat} (h : p ∉ L) : ((encP L).any fun kv => decide (kv.1 = ([.inl (p.1 : Int), .inl (p.2 : Int)] : List Key))) = false := by
  rw [List.any_eq_false]
  intro kv hkv
  obtain ⟨q, hq, rfl⟩ := List.mem_map.mp hkv
  simp only [decide_eq_true_eq]
  intro e
  have e2 : q.1 = p := key_inj (p := q.1) (q := p) e
  exact h (by rw [← e2]; exact List.fst_mem_of_mem_zipIdx hq)
theorem encP_put {L : List (Nat × Nat)} {p : Nat × Nat} (h : p ∉ L) : putT (encP L) [.inl (p.1 : Int), .inl (p.2 : Int)] (.v (.int (L.length : Int))) = encP (L ++ [p]) := by
  unfold putT
  rw [encP_any h]
  simp [encP, List.zipIdx_append]
theorem encP_val {L : List (Nat × Nat)} {p : Nat × Nat} (h : p ∈ L) : valT (encP L) [.inl (p.1 : Int), .inl (p.2 : Int)] = some (.v (.int (L.idxOf p : Int))) := by
  have key : ∀ (L : List (Nat × Nat)) (k : Nat), p ∈ L → ((L.zipIdx k).map fun p => (([.inl (p.1.1 : Int), .inl (p.1.2 : Int)] : List Key), R.v (.int (p.2 : Int)))).find? (fun kv => decide (kv.1 = ([.inl (p.1 : Int), .inl (p.2 : Int)] : List Key))) = some ([.inl (p.1 : Int), .inl (p.2 : Int)], .v (.int ((k + L.idxOf p : Nat) : Int))) := by
    intro L
    induction L with
    | nil => intro k h; simp at h
    | cons q L ih =>
      intro k h
      rw [List.zipIdx_cons, List.map_cons]
      by_cases hq : q = p
      · subst hq
        rw [List.find?_cons_of_pos (by simp), List.idxOf_cons_self]; rfl
      · rw [List.find?_cons_of_neg (by simp only [decide_eq_true_eq]; exact fun e => hq (key_inj (p := q) (q := p) e)), ih (k + 1) (by simpa [Ne.symm hq] using h), List.idxOf_cons, show (q == p) = false by simpa using hq]
        simp; omega
  have := key L 0 h
  unfold valT
  rw [show encP L = (L.zipIdx 0).map fun p => (([.inl (p.1.1 : Int), .inl (p.1.2 : Int)] : List Key), R.v (.int (p.2 : Int))) from rfl, this]
  simp
theorem standL_mem {t : T} {ds : List Int} {l n : Nat} {p : Nat × Nat} : p ∈ standL t ds l n ↔ p.2 = l ∧ p.1 < n ∧ stands t ds l p.1 = true := by
  unfold standL
  simp only [List.mem_map, List.mem_filter, List.mem_range]
  constructor
  · rintro ⟨h, ⟨h1, h2⟩, rfl⟩; exact ⟨rfl, h1, h2⟩
  · rintro ⟨h1, h2, h3⟩; exact ⟨p.1, ⟨h2, h3⟩, by rw [← h1]⟩
theorem standTo_mem {t : T} {ds : List Int} {n : Nat} {p : Nat × Nat} : p ∈ standTo t ds n ↔ p.2 < n ∧ p.1 < t.cnt ∧ stands t ds p.2 p.1 = true := by
  unfold standTo
  simp only [List.mem_flatMap, List.mem_range, standL_mem]
  constructor
  · rintro ⟨l, h1, h2, h3, h4⟩; subst h2; exact ⟨h1, h3, h4⟩
  · rintro ⟨h1, h2, h3⟩; exact ⟨p.2, h1, rfl, h2, h3⟩
theorem standTo_succ (t : T) (ds : List Int) (n : Nat) : standTo t ds (n + 1) = standTo t ds n ++ standL t ds n t.cnt := by
  unfold standTo
  rw [List.range_succ, List.flatMap_append, List.flatMap_singleton]
theorem standL_succ (t : T) (ds : List Int) (l n : Nat) : standL t ds l (n + 1) = standL t ds l n ++ (if stands t ds l n = true then [(n, l)] else []) := by
  unfold standL
  rw [List.range_succ, List.filter_append, List.map_append]
  cases h : stands t ds l n <;> simp [h]
theorem standL_len (t : T) (ds : List Int) (l n : Nat) : (standL t ds l n).length ≤ n := by
  unfold standL
  rw [List.length_map]
  exact Nat.le_trans (List.length_filter_le _ _) (by simp)
theorem standTo_len (t : T) (ds : List Int) (n : Nat) : (standTo t ds n).length ≤ n * t.cnt := by
  induction n with
  | zero => simp [standTo]
  | succ n ih =>
    rw [standTo_succ, List.length_append, Nat.succ_mul]
    have := standL_len t ds n t.cnt
    omega
theorem fls_len (t : T) (ds : List Int) (hl : ds.length = t.cnt) : (fls t ds).length ≤ t.cnt + 1 := by
  unfold fls
  rw [List.length_cons, (isort_perm _).length_eq, innerD_ix hl, List.length_map]
  unfold T.innerIx
  have := List.length_filter_le (fun h => !isStr (t.nodes.getD h .non)) (List.range t.cnt)
  rw [List.length_range] at this
  omega
/-- who stands somewhere, stood in the slice below, or his two did -/
theorem stands_low {t : T} {ds : List Int} (I : Dts t ds) {l h : Nat} (hl : l < (fls t ds).length) (hh : h < t.cnt) (hs : stands t ds l h = true) :
    (ds.getD h 0 < (fls t ds).getD l 0 → 1 ≤ l ∧ (h, l - 1) ∈ standing t ds) ∧ (¬ ds.getD h 0 < (fls t ds).getD l 0 → isStr (t.nodes.getD h .non) = false → 1 ≤ l ∧ (chA t h, l - 1) ∈ standing t ds ∧ (chB t h, l - 1) ∈ standing t ds) := by
  have si := fls_si I
  have hm := mem_fls I hh
  have h1 := si_idx si hm hl
  have z0 : (fls t ds).getD 0 0 = 0 := rfl
  have pos : 0 ≤ ds.getD h 0 := by
    cases e : isStr (t.nodes.getD h .non) with
    | true => rw [I.lf h hh e]; omega
    | false => have := (I.inr h ((Dts.notIn hh).mpr e)).1; omega
  unfold stands at hs
  simp only [Bool.and_eq_true, decide_eq_true_eq] at hs
  refine ⟨fun hlt => ?_, fun hge hi => ?_⟩
  · have hl1 : 1 ≤ l := by
      rcases Nat.eq_zero_or_pos l with z | z
      · subst z; rw [z0] at hlt; omega
      · exact z
    refine ⟨hl1, standTo_mem.mpr ⟨by simp; omega, hh, ?_⟩⟩
    have hl' : l - 1 < (fls t ds).length := by omega
    have h2 := si_idx si hm hl'
    have q1 : (fls t ds).idxOf (ds.getD h 0) < l := by
      rcases Nat.lt_or_ge ((fls t ds).idxOf (ds.getD h 0)) l with q | q
      · exact q
      · have : (fls t ds).idxOf (ds.getD h 0) = l := by have := h1.1.mpr hs.1; omega
        have e := List.getElem_idxOf (List.idxOf_lt_length_of_mem hm)
        have el : (fls t ds).getD l 0 = (fls t ds)[l] := by rw [List.getD_eq_getElem?_getD, List.getElem?_eq_getElem hl]; rfl
        rw [el] at hlt
        simp only [this] at e
        omega
    have q2 : (fls t ds).getD (l - 1) 0 < (fls t ds).getD l 0 := by
      have := List.pairwise_iff_getElem.mp si (l - 1) l hl' hl (by omega)
      simpa [List.getD_eq_getElem?_getD, List.getElem?_eq_getElem hl, List.getElem?_eq_getElem hl'] using this
    unfold stands
    simp only [Bool.and_eq_true, decide_eq_true_eq]
    refine ⟨h2.1.mp (by omega), ?_⟩
    have hs2 := hs.2
    split at hs2
    · rfl
    · simp only [decide_eq_true_eq] at hs2 ⊢; omega
  · have hi2 := (Dts.notIn hh).mpr hi
    obtain ⟨ek, ha, hb, _⟩ := T.kids hi2
    obtain ⟨d1, d2, d3, d4⟩ := I.inr h hi2
    have e : ds.getD h 0 = (fls t ds).getD l 0 := by omega
    have hl1 : 1 ≤ l := by
      rcases Nat.eq_zero_or_pos l with z | z
      · subst z; rw [z0] at e; omega
      · exact z
    have hl' : l - 1 < (fls t ds).length := by omega
    obtain ⟨ka, kb⟩ := T.ahead_kid ek
    have q2 : (fls t ds).getD (l - 1) 0 < (fls t ds).getD l 0 := by
      have := List.pairwise_iff_getElem.mp si (l - 1) l hl' hl (by omega)
      simpa [List.getD_eq_getElem?_getD, List.getElem?_eq_getElem hl, List.getElem?_eq_getElem hl'] using this
    have low : ∀ c, c < t.cnt → t.ahead[c]? = some (some h) → ds.getD c 0 < ds.getD h 0 → (c, l - 1) ∈ standing t ds := by
      intro c hc hac hcd
      refine standTo_mem.mpr ⟨by simp; omega, hc, ?_⟩
      unfold stands
      rw [show t.ahead.getD c none = some h by rw [List.getD_eq_getElem?_getD, hac]; rfl]
      simp only [Bool.and_eq_true, decide_eq_true_eq]
      refine ⟨(si_idx si (mem_fls I hc) hl').1.mp ?_, by omega⟩
      have := (si_idx si (mem_fls I hc) hl).2
      rcases Nat.lt_or_ge ((fls t ds).idxOf (ds.getD c 0)) l with q | q
      · omega
      · rcases Nat.lt_or_ge l ((fls t ds).idxOf (ds.getD c 0)) with q3 | q3
        · have := this.mp q3; omega
        · have e3 : (fls t ds).idxOf (ds.getD c 0) = l := by omega
          have e4 := List.getElem_idxOf (List.idxOf_lt_length_of_mem (mem_fls I hc))
          simp only [e3] at e4
          have el : (fls t ds).getD l 0 = (fls t ds)[l] := by rw [List.getD_eq_getElem?_getD, List.getElem?_eq_getElem hl]; rfl
          omega
    exact ⟨hl1, low _ (by omega) ka d3, low _ (by omega) kb d4⟩
theorem standing_mem {t : T} {ds : List Int} {h l : Nat} : (h, l) ∈ standing t ds ↔ l < (fls t ds).length ∧ h < t.cnt ∧ stands t ds l h = true := standTo_mem
end M
namespace Q
open PySem hiding Env
open L2 M
theorem mtIndex_ints {ns : List Int} {x : Int} {S : Store} (h : x ∈ ns) : mtIndex (.v (.lst (ns.map D.int))) [.v (.int x)] S = .ok (.v (.int (ns.idxOf x : Int))) S := by
  have e : (ns.map PyData.int).findIdx? (fun z => PyData.eqv z (.int x)) = some (ns.idxOf x) := by
    induction ns with
    | nil => simp at h
    | cons n ns ih =>
      rw [List.map_cons, List.findIdx?_cons, show PyData.eqv (.int n) (.int x) = (n == x) by simp [PyData.eqv], List.idxOf_cons]
      by_cases hn : n = x
      · simp [hn]
      · have hm : x ∈ ns := by simpa [Ne.symm hn] using h
        simp [hn, ih hm, show (n == x) = false by simpa using hn]
  simp only [mtIndex, pyOf_v, pyS_lints, pyS_int, e]
/-- an instance of the slices of dates of a tree -/
structure SlIn (t : T) (ds : List Int) (S : Store) (n p : Nat) : Prop where
  ins : S[n]? = some (.ins "Slices" (fs_Slices (.v (.tup t.nodes)) (.v (.tup (t.ahead.map oD))) (.v (.tup (ds.map D.int))) (.v (.lst ((fls t ds).map D.int))) (.ref p)))
theorem first_slice_spec {t : T} {ds : List Int} {S : Store} {n p h : Nat} (I : Dts t ds) (hi : SlIn t ds S n p) (hh : h < t.cnt) : M_Slices_first_slice [.ref n, .v (.int (h : Int))] S = .ok (.v (.int ((fls t ds).idxOf (ds.getD h 0) : Int))) S := by
  refine eq_wE ?_
  simp_arith [M_Slices_first_slice, m_Slices_first_slice, fldR_get hi.ins (fs_Slices_at_floors ..), fldR_get hi.ins (fs_Slices_at_dates ..), opIx_tup (intD_get (show h < ds.length by rw [I.len]; exact hh)), mtIndex_ints (mem_fls I hh)]
theorem ahead_at {t : T} {h : Nat} (hh : h < t.cnt) : atI (t.ahead.map oD) (h : Int) = some (oD (t.ahead.getD h none)) := by
  have := t.ahead_len
  rw [atI_map, atI_lt (by omega), show ((h : Nat) : Int).toNat = h by omega, List.getD_eq_getElem?_getD, List.getElem?_eq_getElem (by omega)]; rfl
theorem last_slice_spec {t : T} {ds : List Int} {S : Store} {n p h : Nat} (I : Dts t ds) (hi : SlIn t ds S n p) (hh : h < t.cnt) : M_Slices_last_slice [.ref n, .v (.int (h : Int))] S = .ok (.v (.int (match t.ahead.getD h none with
    | none => ((fls t ds).length : Int) - 1
    | some q => ((fls t ds).idxOf (ds.getD q 0) : Int) - 1))) S := by
  refine eq_wE ?_
  cases e : t.ahead.getD h none with
  | none => simp_arith [M_Slices_last_slice, m_Slices_last_slice, fldR_get hi.ins (fs_Slices_at_floors ..), fldR_get hi.ins (fs_Slices_at_aheads ..), opIx_tup (ahead_at hh), e, oD, List.length_map]
  | some q =>
    have hq : q < t.cnt := by
      have l := t.ahead_len
      obtain ⟨a, b, e2, _⟩ := T.ahead_par (t := t) (i := h) (p := q) (by rw [List.getD_eq_getElem?_getD, List.getElem?_eq_getElem (by omega)] at e; rw [List.getElem?_eq_getElem (by omega)]; simpa using e)
      have := (List.getElem?_eq_some_iff.mp e2).1
      rw [t.nodes_len] at this; exact this
    simp_arith [M_Slices_last_slice, m_Slices_last_slice, fldR_get hi.ins (fs_Slices_at_floors ..), fldR_get hi.ins (fs_Slices_at_aheads ..), fldR_get hi.ins (fs_Slices_at_dates ..), opIx_tup (ahead_at hh), e, oD, opIx_tup (intD_get (show q < ds.length by rw [I.len]; exact hq)), mtIndex_ints (mem_fls I hq)]
theorem dSorted {ns : List Int} {S : Store} : biSorted [.v (.lst (ns.map D.int))] S = .ok (.ref S.length) (S ++ [.lst ((isort ns).map fun i => R.int i)]) := by
  have := intsOf_map ns
  simp only [biSorted, lstOf, List.map_map, Option.bind_some]
  rw [show (R.v ∘ D.int) = fun x => R.v (.int x) from rfl, this]
theorem popSorted_eq {ns : List Int} {S : Store} {K : Out R → Prop} : wE (biSorted [.v (.lst (ns.map D.int))] S) (kB (fun r S' => popV S r S') K) = K (.ok (.v (.lst ((isort ns).map D.int))) S) := by
  unfold wE kB
  rw [dSorted, Out.bind_ok, show ((isort ns).map fun i => R.int i) = ((isort ns).map D.int).map .v by rw [List.map_map]; rfl, popV_new]
theorem popSorted {ns : List Int} {S : Store} {K : Out R → Prop} (k : K (.ok (.v (.lst ((isort ns).map D.int))) S)) : wE (biSorted [.v (.lst (ns.map D.int))] S) (kB (fun r S' => popV S r S') K) := by
  unfold wE kB
  rw [dSorted, Out.bind_ok, show ((isort ns).map fun i => R.int i) = ((isort ns).map D.int).map .v by rw [List.map_map]; rfl, popV_new]
  exact k
theorem stand_iff {t : T} {ds : List Int} (I : Dts t ds) {l h : Nat} (hl : l < (fls t ds).length) (hh : h < t.cnt) :
    (decide (((fls t ds).idxOf (ds.getD h 0) : Int) ≤ (l : Int)) && decide ((l : Int) ≤ (match t.ahead.getD h none with
      | none => ((fls t ds).length : Int) - 1
      | some q => ((fls t ds).idxOf (ds.getD q 0) : Int) - 1))) = stands t ds l h := by
  have si := fls_si I
  have h1 := si_idx si (mem_fls I hh) hl
  unfold stands
  congr 1
  · exact decide_eq_decide.mpr (by rw [← h1.1]; omega)
  · cases e : t.ahead.getD h none with
    | none => simp only; exact decide_eq_true (by omega)
    | some q =>
      have hq : q < t.cnt := by
        have l := t.ahead_len
        obtain ⟨a, b, e2, _⟩ := T.ahead_par (t := t) (i := h) (p := q) (by rw [List.getD_eq_getElem?_getD, List.getElem?_eq_getElem (by omega)] at e; rw [List.getElem?_eq_getElem (by omega)]; simpa using e)
        have := (List.getElem?_eq_some_iff.mp e2).1
        rw [t.nodes_len] at this; exact this
      have h2 := si_idx si (mem_fls I hq) hl
      simp only
      exact decide_eq_decide.mpr (by rw [← h2.2]; omega)
theorem init_spec {t : T} {ds : List Int} {S : Store} (I : Dts t ds) (hd : t.depth < 70) (hz : t.ls.length ≤ 1000) :
    M_Slices___init__ [.ref S.length, .v t.d, .v (.tup (ds.map D.int))] (S ++ [.ins "Slices" []]) = .ok (.v .non) (S ++ [.ins "Slices" (fs_Slices (.v (.tup t.nodes)) (.v (.tup (t.ahead.map oD))) (.v (.tup (ds.map D.int))) (.v (.lst ((fls t ds).map D.int))) (.ref (S.length + 1))), .dT (encP (standing t ds))]) := by
  have cl := t.cnt_ls
  have fl := fls_len t ds I.len
  have il : (innerD t ds).length ≤ t.cnt := by
    have : (fls t ds).length = (innerD t ds).length + 1 := by unfold fls; rw [List.length_cons, (isort_perm _).length_eq]
    omega
  refine eq_wE ?_
  simp_arith [M_Slices___init__, m_Slices___init__, setFldR_L0 _ _ _ _ _ _ _ (show ([] : List (Str × R)).length < 1000 by decide), nodes_spec hd (show t.ls.length ≤ 1000000 by omega), ahead_of_spec hd (show t.ls.length ≤ 100000 by omega), fs_Slices0_put, setFldR_L0 _ _ _ _ (fs_Slices1 _) _ _ (show 1 < 1000 by decide), setFldR_L0 _ _ _ _ (fs_Slices2 _ _) _ _ (show 2 < 1000 by decide), setFldR_L0 _ _ _ _ (fs_Slices3 _ _ _) _ _ (show 3 < 1000 by decide), setFldR_L0 _ _ _ _ (fs_Slices4 _ _ _ _) _ _ (show 4 < 1000 by decide),
    fs_Slices1_put_aheads, fs_Slices2_put_dates, fs_Slices3_put_floors, fs_Slices4_put_places, inner_dates_spec hd hz (show ds.length ≤ 100000 by rw [I.len]; omega), popSorted_eq, popAdd_eq (show [D.int 0].length + ((isort (innerD t ds)).map D.int).length ≤ sizeLine from sz_of (by rw [List.length_map, (isort_perm _).length_eq]; simp; omega))]
  have ef : (D.lst (D.int 0 :: List.map D.int (isort (innerD t ds)))) = D.lst ((fls t ds).map D.int) := rfl
  rw [ef]
  have hr1 : ∀ S : Store, rg1 [.v (.int ((fls t ds).length : Int))] S = .ok ⟨rangeD 0 (fls t ds).length, []⟩ S := fun S => by rw [rg1_int (by omega) (by omega), Int.toNat_natCast]
  have hr2 : ∀ S : Store, rg1 [.v (.int (t.cnt : Int))] S = .ok ⟨rangeD 0 t.cnt, []⟩ S := fun S => by rw [rg1_int (by omega) (by omega), Int.toNat_natCast]
  simp_arith [fldR_L0 _ _ _ (fs_Slices _ _ _ _ _) _ (fs_Slices_at_floors ..), List.length_map, hr1]
  generalize hfs : fs_Slices (.v (.tup t.nodes)) (.v (.tup (t.ahead.map oD))) (.v (.tup (ds.map D.int))) (.v (.lst ((fls t ds).map D.int))) (.ref (S.length + 1)) = fs
  have a1 : fs.lookup ("rows" : Str) = some (.v (.tup t.nodes)) := by rw [← hfs]; rfl
  have a2 : fs.lookup ("places" : Str) = some (.ref (S.length + 1)) := by rw [← hfs]; rfl
  have n1 : fs.lookup ("first_slice" : Str) = none := by rw [← hfs]; rfl
  have n2 : fs.lookup ("last_slice" : Str) = none := by rw [← hfs]; rfl
  refine for_wp [3, 4] (fun l ws T => ∃ a b, ws = [a, b] ∧ l ≤ (fls t ds).length ∧ T = S ++ [.ins "Slices" fs, .dT (encP (standTo t ds l))]) rfl ⟨none, none, rfl, by omega, rfl⟩ ?_ ?_
  · rintro l d ws T hd ⟨a, b, rfl, _, rfl⟩
    obtain ⟨hl, rfl⟩ := rangeD_get hd
    simp_arith [b2_Slices___init__, fldR_L0 _ _ _ _ _ a1, t.nodes_len, hr2]
    refine for_wp [4] (fun h ws T => ∃ b, ws = [b] ∧ h ≤ t.cnt ∧ T = S ++ [.ins "Slices" fs, .dT (encP (standTo t ds l ++ standL t ds l h))]) rfl ⟨b, rfl, by omega, by simp [standL]⟩ ?_ ?_
    · rintro h d ws T hd ⟨b, rfl, _, rfl⟩
      obtain ⟨hh, rfl⟩ := rangeD_get hd
      simp only [Int.zero_add]
      have hi : SlIn t ds (S ++ [.ins "Slices" fs, .dT (encP (standTo t ds l ++ standL t ds l h))]) S.length (S.length + 1) := ⟨by rw [get_len, ← hfs]⟩
      have hst := stand_iff I hl hh
      have hsz : (standTo t ds l ++ standL t ds l h).length < 5000000 := by
        have q1 := standTo_len t ds l
        have q2 := standL_len t ds l h
        have q3 : l * t.cnt ≤ 2000 * 2000 := Nat.mul_le_mul (by omega) (by omega)
        rw [List.length_append]; omega
      have hk : dtOf (S ++ [.ins "Slices" fs, .dT (encP (standTo t ds l ++ standL t ds l h))]) (.ref (S.length + 1)) = some (encP (standTo t ds l ++ standL t ds l h)) := dtOf_T (get_L1 rfl _ _ [])
      have hput : ∀ m d, setTR m (.ref (S.length + 1)) (.v (.tup [.int (h : Int), .int (l : Int)])) d (S ++ [.ins "Slices" fs, .dT (encP (standTo t ds l ++ standL t ds l h))]) = .nx m (S ++ [.ins "Slices" fs, .dT (putT (encP (standTo t ds l ++ standL t ds l h)) [.inl (h : Int), .inl (l : Int)] d)]) := fun m d => by
        rw [setTR_get (get_L1 rfl _ _ []) rfl (by rw [encP_len]; exact sz_lt (by omega)), set_L1 rfl]
      simp_arith [b1_Slices___init__, methR_L0 _ _ _ _ _ _ n1, methR_L0 _ _ _ _ _ _ n2, first_slice_spec I hi hh, last_slice_spec I hi hh]
      cases h1 : decide (((fls t ds).idxOf (ds.getD h 0) : Int) ≤ (l : Int)) with
      | false =>
        rw [h1, Bool.false_and] at hst
        simp_arith []
        exact ⟨_, rfl, by omega, by rw [standL_succ, ← hst]; simp⟩
      | true =>
        rw [h1, Bool.true_and] at hst
        simp_arith [hst, last_slice_spec I hi hh, methR_L0 _ _ _ _ _ _ n2]
        cases h2 : stands t ds l h with
        | false =>
          simp_arith []
          exact ⟨_, rfl, by omega, by rw [standL_succ, h2]; simp⟩
        | true =>
          simp_arith [fldR_L0 _ _ _ _ _ a2, biLenT_get hk, hput]
          refine ⟨_, rfl, by omega, ?_⟩
          have hni : (h, l) ∉ standTo t ds l ++ standL t ds l h := by
            rw [List.mem_append, standTo_mem, standL_mem]
            simp only
            omega
          rw [encP_len, encP_put hni, standL_succ, h2, List.append_assoc]
          simp
    · rintro ws T ⟨b, rfl, _, rfl⟩
      simp_arith []
      exact ⟨_, _, rfl, by omega, by rw [standTo_succ, rangeD_len]⟩
  · rintro ws T ⟨a, b, rfl, _, rfl⟩
    simp_arith [rangeD_len]
    rfl
theorem dtOf_encP {t : T} {ds : List Int} {S : Store} {p h l : Nat} (hp : dtOf S (.ref p) = some (encP (standing t ds))) (hm : (h, l) ∈ standing t ds) : opIxT (.ref p) (.v (.tup [.int (h : Int), .int (l : Int)])) S = .ok (.v (.int (pix t ds h l : Int))) S :=
  opIxT_get hp rfl (encP_val (p := (h, l)) hm)
theorem node_at {t : T} {h : Nat} (hh : h < t.cnt) : atI t.nodes (h : Int) = some (t.nodes.getD h .non) := by
  have := t.nodes_len
  rw [atI_lt (by omega), show ((h : Nat) : Int).toNat = h by omega, List.getD_eq_getElem?_getD, List.getElem?_eq_getElem (by omega)]; rfl
theorem node_nt {t : T} {h : Nat} (hh : h < t.cnt) : notTy (t.nodes.getD h .non) = true := T.notTy_nodes t 0 _ (by rw [List.getD_eq_getElem?_getD, List.getElem?_eq_getElem (by rw [t.nodes_len]; exact hh)]; exact List.getElem_mem _)
theorem under_of_spec {t : T} {ds : List Int} {S : Store} {n p h l : Nat} (I : Dts t ds) (hi : SlIn t ds S n p) (hp : dtOf S (.ref p) = some (encP (standing t ds))) (hm : (h, l) ∈ standing t ds) :
    M_Slices_under_of [.ref n, .v (.int (h : Int)), .v (.int (l : Int))] S = .ok (.v (.tup ((undr t ds h l).map natD))) S := by
  obtain ⟨hl, hh, hs⟩ := standing_mem.mp hm
  obtain ⟨k1, k2⟩ := stands_low I hl hh hs
  have h1 := si_idx (fls_si I) (mem_fls I hh) hl
  refine eq_wE ?_
  simp_arith [M_Slices_under_of, m_Slices_under_of, fldR_get hi.ins (fs_Slices_at_rows ..), opIx_tup (node_at hh), methR_get hi.ins (fs_Slices_no_first_slice ..), first_slice_spec I hi hh]
  by_cases q : ds.getD h 0 < (fls t ds).getD l 0
  · obtain ⟨z, k⟩ := k1 q
    have hlt : ((fls t ds).idxOf (ds.getD h 0) : Int) < (l : Int) := by
      have e := List.getElem_idxOf (List.idxOf_lt_length_of_mem (mem_fls I hh))
      have := h1.1.mpr (by omega)
      rcases Nat.lt_or_ge ((fls t ds).idxOf (ds.getD h 0)) l with w | w
      · omega
      · have e3 : (fls t ds).idxOf (ds.getD h 0) = l := by omega
        simp only [e3] at e
        have el : (fls t ds).getD l 0 = (fls t ds)[l] := by rw [List.getD_eq_getElem?_getD, List.getElem?_eq_getElem hl]; rfl
        omega
    have el : ((l : Int) - 1) = ((l - 1 : Nat) : Int) := by omega
    simp_arith [decide_eq_true hlt, fldR_get hi.ins (fs_Slices_at_places ..), el, dtOf_encP hp k]
    rw [undr, if_pos q]; rfl
  · have hlt : ¬ ((fls t ds).idxOf (ds.getD h 0) : Int) < (l : Int) := by
      intro w
      have := List.pairwise_iff_getElem.mp (fls_si I) ((fls t ds).idxOf (ds.getD h 0)) l (List.idxOf_lt_length_of_mem (mem_fls I hh)) hl (by omega)
      rw [List.getElem_idxOf] at this
      have el : (fls t ds).getD l 0 = (fls t ds)[l] := by rw [List.getD_eq_getElem?_getD, List.getElem?_eq_getElem hl]; rfl
      omega
    have hnt : notTy (t.nodes.getD h .non) = true := T.notTy_nodes t 0 _ (by rw [List.getD_eq_getElem?_getD, List.getElem?_eq_getElem (by rw [t.nodes_len]; exact hh)]; exact List.getElem_mem _)
    simp_arith [decide_eq_false hlt, isi_str _ hnt]
    cases hs2 : isStr (t.nodes.getD h .non) with
    | true =>
      simp_arith []
      rw [undr, if_neg q, if_pos hs2]; rfl
    | false =>
      obtain ⟨z, ka, kb⟩ := k2 q hs2
      have hin := (Dts.notIn hh).mpr hs2
      have ek : t.nodes.getD h .non = .tup [.int (chA t h : Int), .int (chB t h : Int)] := by rw [List.getD_eq_getElem?_getD, (T.kids hin).1]; rfl
      have el : ((l : Int) - 1) = ((l - 1 : Nat) : Int) := by omega
      have i0 : ∀ S, opIx (.v (t.nodes.getD h .non)) (.v (.int 0)) S = .ok (.v (.int (chA t h : Int))) S := fun S => by rw [ek]; exact opIx_tup (atI_0 _ _)
      have i1 : ∀ S, opIx (.v (t.nodes.getD h .non)) (.v (.int 1)) S = .ok (.v (.int (chB t h : Int))) S := fun S => by rw [ek]; exact opIx_tup (atI_1 _ _ _)
      simp_arith [i0, i1, fldR_get hi.ins (fs_Slices_at_places ..), el, dtOf_encP hp ka, dtOf_encP hp kb]
      rw [undr, if_neg q, hs2]; rfl
theorem itemsT_encP (L : List (Nat × Nat)) : itemsT (encP L) = some (L.zipIdx.map fun p => R.v (.tup [.tup [.int (p.1.1 : Int), .int (p.1.2 : Int)], .int (p.2 : Int)])) := by
  have key : ∀ (L : List (Nat × Nat)) (k : Nat), itemsT ((L.zipIdx k).map fun p => (([.inl (p.1.1 : Int), .inl (p.1.2 : Int)] : List Key), R.v (.int (p.2 : Int)))) = some ((L.zipIdx k).map fun p => R.v (.tup [.tup [.int (p.1.1 : Int), .int (p.1.2 : Int)], .int (p.2 : Int)])) := by
    intro L
    induction L with
    | nil => intro k; rfl
    | cons q L ih =>
      intro k
      have := ih (k + 1)
      unfold itemsT at this ⊢
      simp only [List.zipIdx_cons, List.map_cons, List.mapM_cons, this, show ∀ d, vOf (R.v d) = some d from fun _ => rfl, Option.map_some, dKey, List.map_nil]
      rfl
  exact key L 0
theorem beside_of_spec {t : T} {ds : List Int} {S : Store} {n p h l : Nat} (hi : SlIn t ds S n p) (hp : S[p]? = some (.lkT (encP (standing t ds)))) (hz : (standing t ds).length ≤ 10000000) :
    M_Slices_beside_of [.ref n, .v (.int (h : Int)), .v (.int (l : Int))] S = .ok (.v (.tup ((besd t ds h l).map natD))) S := by
  refine eq_wE ?_
  simp_arith [M_Slices_beside_of, m_Slices_beside_of]
  have hla : laF "Slices" "places" (laV 0) [some (.ref n), some (.v (.int (h : Int))), some (.v (.int (l : Int))), none, none, none] S = some p := by
    simp only [laF, laV, List.getElem?_cons_zero, insOf_get hi.ins, Option.bind_some, fs_Slices_at_places]
  refine lockE_in hla (by unfold isLk; rw [hp]) ?_
  simp_arith [fldR_get hi.ins (fs_Slices_at_places ..), lkD_get hp, itemsT_encP]
  refine lc_wp ((standing t ds).zipIdx) (fun p => R.v (.tup [.tup [.int (p.1.1 : Int), .int (p.1.2 : Int)], .int (p.2 : Int)])) (fun p => decide (p.1.2 = l) && !decide (p.1.1 = h)) (fun p => natD p.2) rfl (.refl S) (sz_of (by rw [List.length_zipIdx]; omega)) ?_ ?_
  · rintro ⟨⟨h', l'⟩, i⟩ hx acc
    simp_arith []
    have e1 : ((l' : Int) == (l : Int)) = decide (l' = l) := by by_cases q : l' = l <;> simp [q]; omega
    have e2 : ((h' : Int) == (h : Int)) = decide (h' = h) := by by_cases q : h' = h <;> simp [q]; omega
    refine ⟨?_, fun _ => rfl⟩
    rw [e1, e2]
    cases decide (l' = l) <;> rfl
  · simp_arith []
    rw [besd, List.map_map]
    rfl
theorem keysT_encP (L : List (Nat × Nat)) : keysT (encP L) = L.map fun p => R.v (.tup [.int (p.1 : Int), .int (p.2 : Int)]) := by
  unfold keysT encP
  rw [List.map_map]
  have : ∀ (L : List (Nat × Nat)) (k : Nat), (L.zipIdx k).map ((fun kv : List Key × R => R.v (.tup (kv.1.map dKey))) ∘ fun p => ([.inl (p.1.1 : Int), .inl (p.1.2 : Int)], .v (.int (p.2 : Int)))) = L.map fun p => R.v (.tup [.int (p.1 : Int), .int (p.2 : Int)]) := by
    intro L
    induction L with
    | nil => intro k; rfl
    | cons q L ih => intro k; rw [List.zipIdx_cons, List.map_cons, ih]; rfl
  exact this L 0
theorem standing_len {t : T} {ds : List Int} (I : Dts t ds) (hz : t.ls.length ≤ 1000) : (standing t ds).length ≤ 5000000 := by
  have cl := t.cnt_ls
  have fl := fls_len t ds I.len
  have q1 := standTo_len t ds (fls t ds).length
  have q3 : (fls t ds).length * t.cnt ≤ 2000 * 2000 := Nat.mul_le_mul (by omega) (by omega)
  unfold standing; omega
theorem dated_spec {t : T} {ds : List Int} {S : Store} (I : Dts t ds) (hd : t.depth < 70) (hz : t.ls.length ≤ 1000) : M_dated_2 [.v t.d, .v (.tup (ds.map D.int))] S = .ok (.v (.tup (t.dated ds))) S := by
  have hl := standing_len I hz
  refine eq_wE ?_
  simp_arith [M_dated_2, m_dated_2, init_spec I hd hz]
  generalize hfs : fs_Slices (.v (.tup t.nodes)) (.v (.tup (t.ahead.map oD))) (.v (.tup (ds.map D.int))) (.v (.lst ((fls t ds).map D.int))) (.ref (S.length + 1)) = fs
  have ap : fs.lookup ("places" : Str) = some (.ref (S.length + 1)) := by rw [← hfs]; rfl
  have ar : fs.lookup ("rows" : Str) = some (.v (.tup t.nodes)) := by rw [← hfs]; rfl
  have n1 : fs.lookup ("under_of" : Str) = none := by rw [← hfs]; rfl
  have n2 : fs.lookup ("beside_of" : Str) = none := by rw [← hfs]; rfl
  have hla : laF "Slices" "places" (laV 2) [some (.v t.d), some (.v (.tup (ds.map D.int))), some (.ref S.length), some (.ref (S.length + (1 + 1))), none, none, none] (S ++ [.ins "Slices" fs, .dT (encP (standing t ds)), .lst []]) = some (S.length + 1) := by
    simp only [laF, laV, List.getElem?_cons_zero, List.getElem?_cons_succ, insOf_get (get_len S (.ins "Slices" fs) _), Option.bind_some, ap]
  refine lockS_run (l := .lkT (encP (standing t ds))) hla (get_L1 rfl _ _ _) rfl ?_
  rw [set_L1 rfl]
  simp_arith [fldR_L0 _ _ _ _ _ ap, lkD_get (get_L1 rfl _ _ _), keysT_encP]
  refine for_wp [4, 5, 6] (fun i ws T => ∃ a b c, ws = [a, b, c] ∧ T = S ++ [.ins "Slices" fs, .lkT (encP (standing t ds)), .lst (((standing t ds).take i).map fun p => .v (stayOf t ds p))]) rfl ⟨_, _, _, rfl, rfl⟩ ?_ ?_
  · rintro i d ws T hd ⟨a, b, c, rfl, rfl⟩
    rw [List.getElem?_map] at hd
    obtain ⟨⟨h, l⟩, hp, rfl⟩ := Option.map_eq_some_iff.mp hd
    have hm : (h, l) ∈ standing t ds := List.mem_of_getElem? hp
    obtain ⟨hlf, hh, hs⟩ := standing_mem.mp hm
    have hil := (List.getElem?_eq_some_iff.mp hp).1
    generalize hT : S ++ [MO.ins "Slices" fs, .lkT (encP (standing t ds)), .lst (((standing t ds).take i).map fun p => R.v (stayOf t ds p))] = T
    have g0 : T[S.length]? = some (.ins "Slices" fs) := by rw [← hT]; exact get_len S _ _
    have g1 : T[S.length + 1]? = some (.lkT (encP (standing t ds))) := by rw [← hT]; exact get_L1 rfl _ _ _
    have g2 : T[S.length + 2]? = some (.lst (((standing t ds).take i).map fun p => R.v (stayOf t ds p))) := by rw [← hT]; exact get_L2 rfl _ _ _ _
    have hi : SlIn t ds T S.length (S.length + 1) := ⟨by rw [hfs]; exact g0⟩
    have hnt := node_nt hh
    simp_arith [b1_dated_2, fldR_get g0 ar, opIx_tup (node_at hh), name_of_spec hnt]
    have s3 : (((standing t ds).take i).map fun p => R.v (stayOf t ds p)).length < sizeLine := sz_lt (by rw [List.length_map, List.length_take]; omega)
    simp_arith [tyOk_lst g2, methR_get g0 n1, under_of_spec I hi (dtOf_L g1) hm, methR_get g0 n2, beside_of_spec hi g1 (show (standing t ds).length ≤ 10000000 by omega), mtAppend_ref g2 s3]
    refine ⟨_, _, _, rfl, ?_⟩
    rw [← hT, set_L2 rfl, List.take_succ, List.getElem?_eq_getElem hil]
    have : (standing t ds)[i] = (h, l) := by rw [List.getElem?_eq_getElem hil] at hp; exact Option.some.inj hp
    simp [this, stayOf, natD]
  · rintro ws T ⟨a, b, c, rfl, rfl⟩
    refine ⟨_, get_L1 rfl _ _ _, .inl ⟨_, rfl, ?_⟩⟩
    rw [set_L1 rfl, List.length_map, List.take_length]
    have g2 : (S ++ [MO.ins "Slices" fs, .dT (encP (standing t ds)), .lst ((standing t ds).map fun p => R.v (stayOf t ds p))])[S.length + 2]? = some (.lst ((t.dated ds).map .v)) := by rw [get_L2 rfl, T.dated, List.map_map]; rfl
    simp_arith [biTuple_ref g2, cut_appU (.refl S)]
end Q

namespace Q
open PySem hiding Env
open L2 M
/-! ### what is drawn, wanted -/
section
variable {b b0 : Nat} {S : Store} {n p : Nat} {K : Out R → Prop}
theorem take_2_wp {h : Pot b} {k : Int} (e : S[n]? = some h.c) (hb : b ≤ 2 ^ 40) (h0 : 0 < k) (h1 : k < 2 ^ 62) (c : ∀ (r : Int) (h' : Pot (b + 1)), 0 ≤ r → r < k → K (.ok (.v (.int r)) (S.set n h'.c))) : wE (M_take_2 [.ref n, .v (.int k)] S) K := by
  obtain ⟨r, h', e1, p0, p1⟩ := take_2_spec e hb h0 h1
  exact wE_eq e1 (c r h' p0 p1)
theorem pick_wp {h : Pot b} {ds : List D} (e : S[n]? = some h.c) (hb : b ≤ 2 ^ 40) (hne : ds ≠ []) (hz : ds.length ≤ 100000) (c : ∀ (d : D) (h' : Pot (b + 1)), d ∈ ds → K (.ok (.v d) (S.set n h'.c))) : wE (M_pick [.ref n, .v (.lst ds)] S) K := by
  obtain ⟨r, h', e1, p0⟩ := pick_spec2 e hb hne hz
  exact wE_eq e1 (c r h' p0)
theorem pot_wp {ns : List Int} {k : Int} (h0 : 0 ≤ k) (h1 : k < 2 ^ 20) (c : ∀ h : Pot 0, K (.ok (.ref S.length) (S ++ [h.c]))) : wE (M_pot [.v (.kl (ns.map D.int)), .v (.int k)] S) K := by
  obtain ⟨h, e⟩ := pot_spec (S := S) (ns := ns) h0 h1
  exact wE_eq e (c h)
theorem words_2_wp {h : Pot b} {k : Int} (e : S[n]? = some h.c) (hb : b + 3 ≤ 2 ^ 40) (h0 : 0 ≤ k) (h1 : k ≤ 26) (c : ∀ (ws : List Str) (h' : Pot (b + 3)), (ws.length : Int) = k → ws.Nodup → (∀ x ∈ ws, GoodW x) → K (.ok (.v (.lst (ws.map D.str))) (S.set n h'.c))) : wE (M_words_2 [.ref n, .v (.int k)] S) K := by
  obtain ⟨h', ws, e1, p0, p1, p2⟩ := words_2_spec e hb h0 h1
  exact wE_eq e1 (c ws h' p0 p1 p2)
theorem tree_wp {h : Pot b} {ts : List T} (e : S[n]? = some h.c) (hne : ts ≠ []) (hz : ts.length ≤ 1000) (hb : b + 3 * ts.length ≤ 2 ^ 40) (c : ∀ (t : T) (h' : Pot (b + 3 * ts.length)), t.ls.Perm (ts.flatMap T.ls) → K (.ok (.v t.d) (S.set n h'.c))) : wE (M_tree [.ref n, .v (.lst (ts.map T.d))] S) K := by
  obtain ⟨h', t, e1, p0⟩ := tree_spec e hne hz hb
  exact wE_eq e1 (c t h' p0)
theorem great_2_wp {h : Pot b} (e : S[n]? = some h.c) (hb : b + 40 ≤ 2 ^ 40) (c : ∀ (t : T) (h' : Pot (b + 40)), t.Ok → t.ls.Nodup → t.ls.length ≤ 8 → K (.ok (.v t.d) (S.set n h'.c))) : wE (M_great_2 [.ref n] S) K := by
  obtain ⟨h', t, e1, p0, p1, p2⟩ := great_2_spec e hb
  exact wE_eq e1 (c t h' p0 p1 p2)
theorem nodes_3_wp {k : Nat} {t : T} (hd : t.depth < k) (hz : t.ls.length ≤ 100000) (c : ∀ (w : Nat) (g : Store), (S ++ g)[w]? = some (.lst (t.nodes.map .v)) → S.length ≤ w → K (.ok (.ref w) (S ++ g))) : wE (R_nodes_3 k [.v t.d] S) K := by
  obtain ⟨w, g, e1, p0, p1⟩ := nodes_3_spec k t S hd hz
  exact wE_eq e1 (c w g p0 p1)
theorem dates_wp {h : Pot b} {t : T} (e : S[p]? = some h.c) (er : S[n]? = some (.lst (t.nodes.map .v))) (hpn : p ≠ n) (hz : t.ls.length ≤ 8) (hb : b + 40 ≤ 2 ^ 40) (c : ∀ (ds : List Int) (h' : Pot (b + 40)), isDt t ds = true → ds.length = t.cnt → (∀ x ∈ ds, 0 ≤ x ∧ x ≤ 91) → K (.ok (.v (.tup (ds.map D.int))) (S.set p h'.c))) : wE (M_dates [.ref p, .ref n] S) K := by
  obtain ⟨h', ds, e1, p0, p1, p2⟩ := dates_spec e er hpn hz hb
  exact wE_eq e1 (c ds h' p0 p1 p2)
end
theorem rg1_nat {S : Store} (n : Nat) (h : n < 2 ^ 60) : rg1 [.v (.int (n : Int))] S = .ok ⟨rangeD 0 n, []⟩ S := by rw [rg1_int (by omega) (by omega), Int.toNat_natCast]
theorem trim_nil {m : Env} {U : Store} {f : Env → Store → OutS} (h : U ≠ []) : trim [] m U f = f (m.map (keepE 0)) [] := by
  have := trim_app (S := []) (T := []) (t := U) (m2 := m) (f := f) (.refl _) h
  simpa using this
/-- how often a law's own loop turns -/
theorem top_count (a b : Int) (hb : 1 ≤ b) (hb2 : b ≤ 1000) : ∃ q : Nat, (if (if b < a then b else a) > 1 then (if b < a then b else a) else 1) = (q : Int) ∧ 1 ≤ q ∧ q ≤ 1000 := by
  refine ⟨(if (if b < a then b else a) > 1 then (if b < a then b else a) else 1).toNat, ?_, ?_, ?_⟩ <;> (split <;> split <;> omega)
theorem depth_lt8 {t : T} (h : t.ls.length ≤ 8) : t.depth < 70 := by have := t.depth_lt; omega
end Q

namespace M
open PySem PySem.Spec L2
open PyProof.Rows hiding St
/-! ### dated grounds by the order of the dates alone -/
def rnk (t : T) (ds : List Int) (h : Nat) : Nat := if isStr (t.nodes.getD h .non) = true then 0 else 1 + (t.innerIx.filter fun i => decide (ds.getD i 0 < ds.getD h 0)).length
theorem si_count : ∀ {L : List Int}, L.Pairwise (· < ·) → ∀ {x : Int}, x ∈ L → L.idxOf x = (L.filter fun y => decide (y < x)).length
  | [], _, x, h => by simp at h
  | y :: L, hp, x, h => by
    rw [List.pairwise_cons] at hp
    rw [List.idxOf_cons]
    by_cases hy : y = x
    · subst hy
      have : (L.filter fun z => decide (z < y)) = [] := by
        rw [List.filter_eq_nil_iff]
        intro z hz
        have := hp.1 z hz
        simp; omega
      simp [this]
    · have hm : x ∈ L := by simpa [Ne.symm hy] using h
      have := hp.1 x hm
      rw [show (y == x) = false by simpa using hy, List.filter_cons_of_pos (by simpa using this), List.length_cons, si_count hp.2 hm]
      rfl
theorem idx_rnk {t : T} {ds : List Int} (I : Dts t ds) {h : Nat} (hh : h < t.cnt) : (fls t ds).idxOf (ds.getD h 0) = rnk t ds h := by
  rw [si_count (fls_si I) (mem_fls I hh)]
  unfold fls rnk
  have hp := (isort_perm (innerD t ds)).filter fun y => decide (y < ds.getD h 0)
  have e : ((isort (innerD t ds)).filter fun y => decide (y < ds.getD h 0)).length = (t.innerIx.filter fun i => decide (ds.getD i 0 < ds.getD h 0)).length := by
    rw [hp.length_eq, innerD_ix I.len, List.filter_map, List.length_map]; rfl
  cases hs : isStr (t.nodes.getD h .non) with
  | true =>
    have z := I.lf h hh hs
    rw [z] at e ⊢
    rw [List.filter_cons_of_neg (by simp), if_pos rfl, e]
    rw [List.length_eq_zero_iff, List.filter_eq_nil_iff]
    intro i hi
    have := (I.inr i hi).1
    simp only [decide_eq_true_eq]; omega
  | false =>
    have := (I.inr h ((Dts.notIn hh).mpr hs)).1
    rw [List.filter_cons_of_pos (p := fun y => decide (y < ds.getD h 0)) (decide_eq_true (by omega)), List.length_cons, e, if_neg (by simp)]
    omega
def standsR (t : T) (r : Nat → Nat) (l h : Nat) : Bool := decide (r h ≤ l) && (match t.ahead.getD h none with
  | none => true
  | some p => decide (l < r p))
def standingR (t : T) (r : Nat → Nat) (F : Nat) : List (Nat × Nat) := (List.range F).flatMap fun l => ((List.range t.cnt).filter (standsR t r l)).map fun h => (h, l)
def pixR (t : T) (r : Nat → Nat) (F h l : Nat) : Nat := (standingR t r F).idxOf (h, l)
def undrR (t : T) (r : Nat → Nat) (F h l : Nat) : List Nat :=
  if r h < l then [pixR t r F h (l - 1)]
  else if isStr (t.nodes.getD h .non) = true then [] else [pixR t r F (chA t h) (l - 1), pixR t r F (chB t h) (l - 1)]
def besdR (t : T) (r : Nat → Nat) (F h l : Nat) : List Nat := (((standingR t r F).zipIdx).filter fun p => decide (p.1.2 = l) && !decide (p.1.1 = h)).map (·.2)
def nameR (t : T) (h : Nat) : D := if isStr (t.nodes.getD h .non) = true then t.nodes.getD h .non else natD h
def stayR (t : T) (r : Nat → Nat) (F : Nat) (p : Nat × Nat) : D := .tup [nameR t p.1, natD p.2, .tup ((undrR t r F p.1 p.2).map natD), .tup ((besdR t r F p.1 p.2).map natD)]
def datedR (t : T) (r : Nat → Nat) (F : Nat) : List D := (standingR t r F).map (stayR t r F)
theorem ahead_lt {t : T} {h p : Nat} (e : t.ahead.getD h none = some p) : h < p ∧ p < t.cnt ∧ p ∈ t.innerIx ∧ (h = chA t p ∨ h = chB t p) := by
  have hc : t.ahead[h]? = some (some p) := by
    rw [List.getD_eq_getElem?_getD] at e
    cases q : t.ahead[h]? with
    | none => rw [q] at e; cases e
    | some o => rw [q] at e; simpa using e
  obtain ⟨a, b, e2, e3⟩ := T.ahead_par hc
  have hp := (List.getElem?_eq_some_iff.mp e2).1
  rw [t.nodes_len] at hp
  have hs : isStr (t.nodes.getD p .non) = false := by rw [List.getD_eq_getElem?_getD, e2]; rfl
  have hm := (Dts.notIn hp).mpr hs
  obtain ⟨k1, k2, k3, k4⟩ := T.kids hm
  rw [k1] at e2
  simp only [Option.some.injEq, D.tup.injEq, List.cons.injEq, and_true, natD, D.int.injEq] at e2
  refine ⟨?_, hp, hm, ?_⟩ <;> omega
theorem standsR_congr {t : T} {r r' : Nat → Nat} (h : ∀ i, i < t.cnt → r i = r' i) {l k : Nat} (hk : k < t.cnt) : standsR t r l k = standsR t r' l k := by
  unfold standsR
  rw [h k hk]
  cases e : t.ahead.getD k none with
  | none => rfl
  | some p => simp only; rw [h p (ahead_lt e).2.1]
theorem standingR_congr {t : T} {r r' : Nat → Nat} (h : ∀ i, i < t.cnt → r i = r' i) (F : Nat) : standingR t r F = standingR t r' F := by
  unfold standingR
  congr 1
  funext l
  congr 1
  refine List.filter_congr fun k hk => standsR_congr h (by simpa using hk)
theorem standingR_mem {t : T} {r : Nat → Nat} {F : Nat} {p : Nat × Nat} : p ∈ standingR t r F ↔ p.2 < F ∧ p.1 < t.cnt ∧ standsR t r p.2 p.1 = true := by
  unfold standingR
  simp only [List.mem_flatMap, List.mem_range, List.mem_map, List.mem_filter]
  constructor
  · rintro ⟨l, h1, h, ⟨h2, h3⟩, rfl⟩; exact ⟨h1, h2, h3⟩
  · rintro ⟨h1, h2, h3⟩; exact ⟨p.2, h1, p.1, ⟨h2, h3⟩, rfl⟩
theorem datedR_congr {t : T} {r r' : Nat → Nat} (h : ∀ i, i < t.cnt → r i = r' i) (F : Nat) : datedR t r F = datedR t r' F := by
  have e := standingR_congr h F
  unfold datedR
  rw [← e]
  refine List.map_congr_left fun p hp => ?_
  have hc := (standingR_mem.mp hp).2.1
  unfold stayR undrR besdR pixR
  rw [← e, h p.1 hc]
theorem fls_len_eq {t : T} {ds : List Int} (hl : ds.length = t.cnt) : (fls t ds).length = t.innerIx.length + 1 := by
  unfold fls
  rw [List.length_cons, (isort_perm _).length_eq, innerD_ix hl, List.length_map]
theorem stands_R {t : T} {ds : List Int} (I : Dts t ds) {l h : Nat} (hl : l < (fls t ds).length) (hh : h < t.cnt) : stands t ds l h = standsR t (rnk t ds) l h := by
  have si := fls_si I
  unfold stands standsR
  congr 1
  · rw [← idx_rnk I hh]; exact decide_eq_decide.mpr (si_idx si (mem_fls I hh) hl).1.symm
  · cases e : t.ahead.getD h none with
    | none => rfl
    | some p =>
      have hp := (ahead_lt e).2.1
      simp only
      rw [← idx_rnk I hp]; exact decide_eq_decide.mpr (si_idx si (mem_fls I hp) hl).2.symm
theorem standing_R {t : T} {ds : List Int} (I : Dts t ds) : standing t ds = standingR t (rnk t ds) (t.innerIx.length + 1) := by
  unfold standing standTo standingR standL
  rw [fls_len_eq I.len]
  have key : ∀ L : List Nat, (∀ l ∈ L, l < (fls t ds).length) → L.flatMap (fun l => ((List.range t.cnt).filter (stands t ds l)).map fun h => (h, l)) = L.flatMap fun l => ((List.range t.cnt).filter (standsR t (rnk t ds) l)).map fun h => (h, l) := by
    intro L hL
    induction L with
    | nil => rfl
    | cons l L ih =>
      rw [List.flatMap_cons, List.flatMap_cons, ih fun x hx => hL x (by simp [hx])]
      congr 2
      refine List.filter_congr fun k hk => stands_R I (hL l (by simp)) (by simpa using hk)
  exact key _ fun l hl => by rw [fls_len_eq I.len]; simpa using hl
theorem lt_rnk {t : T} {ds : List Int} (I : Dts t ds) {l h : Nat} (hl : l < (fls t ds).length) (hh : h < t.cnt) : ds.getD h 0 < (fls t ds).getD l 0 ↔ rnk t ds h < l := by
  have si := fls_si I
  have h1 := si_idx si (mem_fls I hh) hl
  have e := List.getElem_idxOf (List.idxOf_lt_length_of_mem (mem_fls I hh))
  have el : (fls t ds).getD l 0 = (fls t ds)[l] := by rw [List.getD_eq_getElem?_getD, List.getElem?_eq_getElem hl]; rfl
  rw [← idx_rnk I hh]
  constructor
  · intro q
    have := h1.1.mpr (by omega)
    rcases Nat.lt_or_ge ((fls t ds).idxOf (ds.getD h 0)) l with w | w
    · exact w
    · have e3 : (fls t ds).idxOf (ds.getD h 0) = l := by omega
      simp only [e3] at e
      omega
  · intro w
    have := List.pairwise_iff_getElem.mp si ((fls t ds).idxOf (ds.getD h 0)) l (List.idxOf_lt_length_of_mem (mem_fls I hh)) hl w
    rw [e] at this
    omega
theorem dated_R {t : T} {ds : List Int} (I : Dts t ds) : t.dated ds = datedR t (rnk t ds) (t.innerIx.length + 1) := by
  have e := standing_R I
  unfold T.dated datedR
  rw [← e]
  refine List.map_congr_left fun p hp => ?_
  obtain ⟨h, l⟩ := p
  obtain ⟨hl, hh, _⟩ := standing_mem.mp hp
  unfold stayOf stayR undr undrR besd besdR pix pixR nameR
  simp only
  rw [← e]
  have q := lt_rnk I hl hh
  by_cases z : ds.getD h 0 < (fls t ds).getD l 0
  · rw [if_pos z, if_pos (q.mp z)]
  · rw [if_neg z, if_neg fun w => z (q.mpr w)]
/-- dates of one order tell one ground -/
theorem rnk_order {t : T} {ds es : List Int} (h : ∀ i ∈ t.innerIx, ∀ j ∈ t.innerIx, (ds.getD i 0 < ds.getD j 0 ↔ es.getD i 0 < es.getD j 0)) {k : Nat} (hk : k < t.cnt) : rnk t ds k = rnk t es k := by
  unfold rnk
  cases hs : isStr (t.nodes.getD k .non) with
  | true => rfl
  | false =>
    have hm := (Dts.notIn hk).mpr hs
    simp only [Bool.false_eq_true, if_false]
    congr 2
    exact List.filter_congr fun i hi => decide_eq_decide.mpr (h i hi k hm)
theorem dated_order {t : T} {ds es : List Int} (I : Dts t ds) (J : Dts t es) (h : ∀ i ∈ t.innerIx, ∀ j ∈ t.innerIx, (ds.getD i 0 < ds.getD j 0 ↔ es.getD i 0 < es.getD j 0)) : t.dated ds = t.dated es := by
  rw [dated_R I, dated_R J, datedR_congr fun i hi => rnk_order h hi]
end M

namespace Q
open PySem hiding Env
open L2 M
noncomputable def b1_below : MS :=
  (mDrop (mMeth "list" mtAppend (mVar 1) (mCons (mIf (mtTru (mCall biIsi (mCons (mVar 3) (mCons (mC (.ty "str")) mNil)))) (mLstV (mCons (mVar 2) mNil)) (mPop (mBin opAdd (mBin opIx (mVar 1) (mBin opIx (mVar 3) (mC (.int 0)))) (mBin opIx (mVar 1) (mBin opIx (mVar 3) (mC (.int 1))))))) mNil)))
noncomputable def m_below : MS :=
  (mSeq (mSet 1 (mLst mNil))
  (mSeq (mFor (srcEnum (mCons (mVar 0) mNil)) (tgT [(tgN 2), (tgN 3)]) b1_below)
  (mRet (mVar 1))))
noncomputable def M_below : List R → Store → Out R := mDefV 4 (m_below)
noncomputable def b1_plain_ground : MS :=
  (mSeq (mSetP 6 (mLc (srcRange1 (mCons (mCall biLen (mCons (mVar 1) mNil)) mNil)) [7] (tgN 7) (mtNot (mtTru (mCall biAny (mCons (mPop (mLc (srcAny (mBin opIx (mVar 2) (mVar 7))) [8] (tgN 8) mtYes (mBin opIn (mVar 8) (mBin opIx (mVar 2) (mVar 4))))) mNil)))) (mVar 7)))
  (mDrop (mMeth "list" mtAppend (mVar 3) (mCons (mTup (mCons (mIf (mtTru (mCall biIsi (mCons (mVar 5) (mCons (mC (.ty "str")) mNil)))) (mVar 5) (mVar 4)) (mCons (mC (.int 0)) (mCons (mIf (mtTru (mCall biIsi (mCons (mVar 5) (mCons (mC (.ty "str")) mNil)))) (mTup mNil) (mVar 5)) (mCons (mCall biTuple (mCons (mVar 6) mNil)) mNil))))) mNil))))
noncomputable def m_plain_ground (g_nodes_3 : List R → Store → Out R) (g_below : List R → Store → Out R) : MS :=
  (mSeq (mSet 1 (mCall g_nodes_3 (mCons (mVar 0) mNil)))
  (mSeq (mSet 2 (mCall g_below (mCons (mVar 1) mNil)))
  (mSeq (mSet 3 (mLst mNil))
  (mSeq (mFor (srcEnum (mCons (mVar 1) mNil)) (tgT [(tgN 4), (tgN 5)]) b1_plain_ground)
  (mRet (mCall biTuple (mCons (mVar 3) mNil)))))))
noncomputable def M_plain_ground : List R → Store → Out R := mDefV 9 (m_plain_ground (R_nodes_3 70) M_below)
noncomputable def b1_law_k09 (g_great_2 : List R → Store → Out R) (g_plain_ground : List R → Store → Out R) (g_same_2 : List R → Store → Out R) (g_ground : List R → Store → Out R) : MS :=
  (mSeq (mSet 4 (mCall g_great_2 (mCons (mVar 2) mNil)))
  (mSeq (mSet 5 (mCall g_plain_ground (mCons (mVar 4) mNil)))
  (mIfS (mtOr (mtNot (mtTru (mCall g_same_2 (mCons (mCall g_ground (mCons (mVar 4) mNil)) (mCons (mVar 5) mNil))))) (mtNot (mtTru (mCall g_same_2 (mCons (mCall g_ground (mCons (mVar 4) mNil)) (mCons (mVar 5) mNil)))))) (mRet (mC (.bl false))) mSkip)))
noncomputable def b2_law_k09 (g_pot : List R → Store → Out R) (g_great_2 : List R → Store → Out R) (g_plain_ground : List R → Store → Out R) (g_same_2 : List R → Store → Out R) (g_ground : List R → Store → Out R) : MS :=
  (mTrim (mSeq (mSet 2 (mCall g_pot (mCons (mVar 0) (mCons (mVar 1) mNil))))
  (mFor (srcRange1 (mCons (mC (.int 2)) mNil)) (tgN 3) (b1_law_k09 g_great_2 g_plain_ground g_same_2 g_ground))))
noncomputable def m_law_k09 (g_pot : List R → Store → Out R) (g_great_2 : List R → Store → Out R) (g_plain_ground : List R → Store → Out R) (g_ground : List R → Store → Out R) (g_same_2 : List R → Store → Out R) : MS :=
  (mSeq (mFor (srcRange1 (mCons (mCall biMax (mCons (mC (.int 1)) (mCons (mCall biMin (mCons (mCall biLen (mCons (mVar 0) mNil)) (mCons (mC (.int 8)) mNil))) mNil))) mNil)) (tgN 1) (b2_law_k09 g_pot g_great_2 g_plain_ground g_same_2 g_ground))
  (mRet (mC (.bl true))))
noncomputable def M_law_k09 : List R → Store → Out R := mDef 6 (m_law_k09 M_pot M_great_2 M_plain_ground M_ground (R_same_2 70))
end Q
namespace M
open PySem PySem.Spec L2
open PyProof.Rows hiding St
theorem T.pln_nodes (t : T) (ht : t.Ok) (k : Nat) : ∀ x ∈ T.nodesFrom k t, Pln 3 x := by
  induction t generalizing k with
  | leaf w => intro x hx; simp only [T.nodesFrom, List.mem_singleton] at hx; subst hx; exact (ht w (by simp [T.ls])).ok
  | node l r h1 h2 =>
    intro x hx
    simp only [T.nodesFrom, List.mem_append, List.mem_singleton] at hx
    rcases hx with (hx | hx) | rfl
    · exact h1 ht.l _ x hx
    · exact h2 ht.r _ x hx
    · refine ⟨by simp, fun d hd => ?_⟩
      simp only [List.mem_cons, List.not_mem_nil, or_false] at hd
      rcases hd with rfl | rfl <;> exact trivial
theorem T.pln_ground (t : T) (ht : t.Ok) (hz : t.ls.length ≤ 10000) : Pln 6 (.tup t.ground) := by
  have c := t.cnt_ls
  have hn := t.nodes_len
  refine ⟨by simp [T.ground, hn]; omega, fun d hd => ?_⟩
  obtain ⟨p, hp, rfl⟩ := List.mem_map.mp hd
  have hm : p.1 ∈ t.nodes := List.fst_mem_of_mem_zipIdx hp
  have q := t.pln_nodes ht 0 p.1 hm
  have up : ∀ (d : D), Pln 3 d → Pln 4 d := fun d => by
    have : ∀ (k : Nat) (d : D), Pln k d → Pln (k + 1) d := by
      intro k
      induction k with
      | zero => intro d h; exact h.elim
      | succ k ih =>
        intro d h
        cases d with
        | tup ds => exact ⟨h.1, fun d hd => ih d (h.2 d hd)⟩
        | _ => exact h
    exact this 3 d
  refine ⟨by simp, fun d hd => ?_⟩
  simp only [List.mem_cons, List.not_mem_nil, or_false] at hd
  rcases hd with rfl | rfl | rfl | rfl
  · split
    · exact up _ q
    · exact trivial
  · exact trivial
  · split
    · exact ⟨by simp, fun d hd => by cases hd⟩
    · exact up _ q
  · refine ⟨?_, fun d hd => ?_⟩
    · have := List.length_filter_le (fun o => !decide (o ∈ t.lns.getD p.2 []) && !decide (p.2 ∈ t.lns.getD o [])) (List.range t.cnt)
      rw [List.length_range] at this
      simp only [List.length_map, T.aside]
      omega
    · obtain ⟨o, _, rfl⟩ := List.mem_map.mp hd
      exact trivial
end M
namespace Q
open PySem hiding Env
open L2 M
def blwD (t : T) : List D := (T.blw 0 t).map fun b => .lst (b.map natD)
theorem below_spec {t : T} {S : Store} {n : Nat} (e : S[n]? = some (.lst (t.nodes.map .v))) (hz : t.ls.length ≤ 10000) : M_below [.ref n] S = .ok (.v (.lst (blwD t))) S := by
  have hn := lt_of_get e
  have c := t.cnt_ls
  have hnl := t.nodes_len
  have hbl : (blwD t).length = t.cnt := by simp [blwD, T.blw_len]
  have lvl : ∀ (u : T) (k : Nat), (T.lvs k u).length = u.ls.length := by
    intro u
    induction u with
    | leaf w => intro k; rfl
    | node l r h1 h2 => intro k; simp [T.lvs, T.ls, h1, h2]
  have bll : ∀ (u : T) (k : Nat), ∀ b ∈ T.blw k u, b.length ≤ u.ls.length := by
    intro u
    induction u with
    | leaf w => intro k b hb; simp only [T.blw, List.mem_singleton] at hb; subst hb; simp [T.ls]
    | node l r h1 h2 =>
      intro k b hb
      simp only [T.blw, List.mem_append, List.mem_singleton] at hb
      simp only [T.ls, List.length_append]
      rcases hb with (hb | hb) | rfl
      · have := h1 _ b hb; omega
      · have := h2 _ b hb; omega
      · rw [List.length_append, lvl, lvl]; omega
  let Z : Nat → Store := fun i => S ++ [.lst (((blwD t).take i).map .v)]
  obtain ⟨m', S', eL, hS', w2, w3, hm'⟩ := forGo_inv (pins := [(n, .lst (t.nodes.map .v))]) (t := tgT [tgN 2, tgN 3]) (body := b1_below)
    (fun i m X => X = Z i ∧ ∃ w2 w3, m = [some (.ref n), some (.ref S.length), w2, w3]) (enumI t.nodes) 0 [some (.ref n), some (.ref S.length), none, none] (S ++ [.lst []]) ⟨rfl, _, _, rfl⟩
    (by rintro i m X ⟨rfl, _⟩; exact ⟨get_old e _, trivial⟩)
    (by
      rintro i d m X hd ⟨rfl, w2, w3, rfl⟩
      rw [Nat.zero_add] at *
      rw [enumI_get] at hd
      obtain ⟨nd, hnd, rfl⟩ := Option.map_eq_some_iff.mp hd
      have nty : notTy nd = true := T.notTy_nodes t 0 nd (List.mem_of_getElem? hnd)
      have hi : i < t.cnt := by rw [← hnl]; exact (List.getElem?_eq_some_iff.mp hnd).1
      have is := isi_str nd nty
      have gt : (Z i)[S.length]? = some (.lst (((blwD t).take i).map .v)) := get_len S _ []
      have ap : ∀ x, (blwD t)[i]? = some x → mtAppend (.ref S.length) [.v x] (Z i) = .ok (.v .non) (Z (i + 1)) := fun x hx => by
        rw [mtAppend_ref gt (sz_lt (by simp; omega))]
        simp only [Z]
        rw [set_len, List.take_add_one, hx]
        simp
      refine ⟨[some (.ref n), some (.ref S.length), some (.v (.int (i : Int))), some (.v nd)], rfl, [some (.ref n), some (.ref S.length), some (.v (.int (i : Int))), some (.v nd)], _, .inl ?_, rfl, _, _, rfl⟩
      rcases T.blw_at t 0 i nd hnd with ⟨s1, s2⟩ | ⟨a, b, ba, bb, hab, ha, hb, s1, s2, s3⟩
      · have q := ap (.lst [natD i]) (by simp only [blwD, List.getElem?_map, s2, Option.map_some, Nat.zero_add]; rfl)
        simp only [natD] at q
        simp only [b1_below, mDrop_eq, mMeth_eq, mVar_eq, List.getElem?_cons_succ, List.getElem?_cons_zero, Out.bind_ok, tyOk_lst gt, if_true, mCons_eq, mNil_eq, mIf_eq, mtTru_eq, mCall_eq, mC_eq, is, s1, truM_bl, mLstV_eq, frzO_1, List.length_cons, List.length_nil, Nat.zero_add, sz1, q, thenS_ok]
      · rw [Nat.zero_add, Nat.zero_add] at hab
        subst hab
        have i0 : ∀ S, opIx (.v (.tup [natD a, natD b])) (.v (.int 0)) S = .ok (.v (.int (a : Int))) S := fun S => opIx_tup (atI_0 _ _)
        have i1 : ∀ S, opIx (.v (.tup [natD a, natD b])) (.v (.int 1)) S = .ok (.v (.int (b : Int))) S := fun S => opIx_tup (atI_1 _ _ _)
        have at_ : ∀ (x : Nat) (bx : List Nat), x < i → (T.blw 0 t)[x]? = some bx → opIx (.ref S.length) (.v (.int (x : Int))) (Z i) = .ok (.v (.lst (bx.map natD))) (Z i) := fun x bx hx hb => opIx_ref gt (by
          rw [atI_map, atI_lt (by omega), show ((x : Nat) : Int).toNat = x by omega, List.getElem?_take, if_pos hx]
          simp only [blwD, List.getElem?_map, hb]; rfl)
        have la := bll t 0 ba (List.mem_of_getElem? s1)
        have lb := bll t 0 bb (List.mem_of_getElem? s2)
        have ad := popAdd (S := Z i) (x := ba.map natD) (y := bb.map natD) (sz_of (by simp; omega))
        rw [← List.map_append] at ad
        have q := ap (.lst ((ba ++ bb).map natD)) (by simp only [blwD, List.getElem?_map, s3, Option.map_some])
        have hs0 : isStr (.tup [natD a, natD b]) = false := rfl
        simp only [b1_below, mDrop_eq, mMeth_eq, mVar_eq, List.getElem?_cons_succ, List.getElem?_cons_zero, Out.bind_ok, tyOk_lst gt, if_true, mCons_eq, mNil_eq, mIf_eq, mtTru_eq, mCall_eq, mC_eq, is, hs0, truM_bl, mPop_eq, mBin_eq, i0, i1, at_ a ba ha s1, at_ b bb hb s2, ad, q, thenS_ok])
  subst hS' hm'
  rw [enumI_len, hnl, Nat.zero_add] at eL
  have hZ : Z t.cnt = S ++ [.lst ((blwD t).map .v)] := by simp only [Z]; rw [List.take_of_length_le (by omega)]
  rw [hZ] at eL
  refine mDefV_rtL (n := S.length) (xs := blwD t) [.lst ((blwD t).map .v)] ?_ (get_len _ _ _) (Nat.le_refl _) (.refl S)
  have en := en1_ref (S := S ++ [.lst []]) (get_old e [.lst []])
  simp only [m_below, List.map_cons, List.map_nil, List.length_cons, List.length_nil, List.replicate, List.cons_append, List.nil_append, Nat.reduceAdd, Nat.reduceSub, mSeq_eq, mSet_eq, mLst_eq, mNil_eq, Out.bind_ok, Nat.zero_le, sz0, if_true, thenS_ok, List.set_cons_succ, List.set_cons_zero, mFor_eq, srcEnum_eq, mCons_eq, mVar_eq, List.getElem?_cons_succ, List.getElem?_cons_zero, en, eL, mRet_eq]
theorem aside_eq (t : T) {h : Nat} (hh : h < t.cnt) : ((List.range t.cnt).filter fun o => !((T.blw 0 t).getD o []).any fun x => decide (x ∈ (T.blw 0 t).getD h [])) = t.aside h := by
  refine List.filter_congr fun o ho => ?_
  have ho : o < t.cnt := by simpa using ho
  have hl := t.lns_len
  have hb := t.blw_len 0
  have g1 : t.lns[h]? = some (t.lns.getD h []) := by rw [List.getD_eq_getElem?_getD, List.getElem?_eq_getElem (by omega)]; rfl
  have g2 : t.lns[o]? = some (t.lns.getD o []) := by rw [List.getD_eq_getElem?_getD, List.getElem?_eq_getElem (by omega)]; rfl
  have g3 : (T.blw 0 t)[h]? = some ((T.blw 0 t).getD h []) := by rw [List.getD_eq_getElem?_getD, List.getElem?_eq_getElem (by omega)]; rfl
  have g4 : (T.blw 0 t)[o]? = some ((T.blw 0 t).getD o []) := by rw [List.getD_eq_getElem?_getD, List.getElem?_eq_getElem (by omega)]; rfl
  have q := T.apart t 0 [] h o _ _ _ _ (by simp) g1 g2 g3 g4
  rw [Nat.zero_add, Nat.zero_add] at q
  apply Bool.eq_iff_iff.mpr
  simp only [Bool.not_eq_true', List.any_eq_false, decide_eq_true_eq, Bool.and_eq_true, decide_eq_false_iff_not]
  constructor
  · intro h1
    refine ⟨fun h2 => ?_, fun h2 => ?_⟩
    · obtain ⟨x, a, b⟩ := q.mp (.inl h2); exact h1 x b a
    · obtain ⟨x, a, b⟩ := q.mp (.inr h2); exact h1 x b a
  · rintro ⟨h1, h2⟩ x a b
    exact (q.mpr ⟨x, b, a⟩).elim h1 h2
theorem plain_ground_spec {t : T} {S : Store} (hd : t.depth < 70) (hz : t.ls.length ≤ 10000) : M_plain_ground [.v t.d] S = .ok (.v (.tup t.ground)) S := by
  obtain ⟨w, g, e1, q1, hw⟩ := nodes_3_spec 70 t S hd (by omega)
  have q1 : (S ++ g)[w]? = some (.lst (t.nodes.map .v)) := q1
  have e2 := below_spec (t := t) q1 hz
  have c := t.cnt_ls
  have hn := t.nodes_len
  have hbl : (blwD t).length = t.cnt := by simp [blwD, T.blw_len]
  have hgl : t.ground.length = t.cnt := by simp [T.ground, hn]
  let S1 : Store := S ++ g
  let Z : Nat → Store := fun i => S1 ++ [.lst ((t.ground.take i).map .v)]
  have q2 : ∀ i, (Z i)[w]? = some (.lst (t.nodes.map .v)) := fun i => get_old q1 _
  let LL : D := .lst (blwD t)
  have ixL : ∀ (k : Nat) (S : Store), k < t.cnt → opIx (.v LL) (.v (.int (k : Int))) S = .ok (.v (.lst (((T.blw 0 t).getD k []).map natD))) S := fun k S hk => opIx_lst (by
    have hb := t.blw_len 0
    rw [atI_lt (by omega), show ((k : Nat) : Int).toNat = k by omega]
    simp only [blwD, List.getElem?_map]
    rw [List.getD_eq_getElem?_getD, List.getElem?_eq_getElem (by omega)]; rfl)
  have blen : ∀ k, ((T.blw 0 t).getD k []).length ≤ 100000 := fun k => by
    have lv : ∀ (u : T) (k : Nat), (T.lvs k u).length = u.ls.length := by
      intro u
      induction u with
      | leaf w => intro k; rfl
      | node l r h1 h2 => intro k; simp [T.lvs, T.ls, h1, h2]
    have bll : ∀ (u : T) (k : Nat), ∀ b ∈ T.blw k u, b.length ≤ u.ls.length := by
      intro u
      induction u with
      | leaf w => intro k b hb; simp only [T.blw, List.mem_singleton] at hb; subst hb; simp [T.ls]
      | node l r h1 h2 =>
        intro k b hb
        simp only [T.blw, List.mem_append, List.mem_singleton] at hb
        simp only [T.ls, List.length_append]
        rcases hb with (hb | hb) | rfl
        · have := h1 _ b hb; omega
        · have := h2 _ b hb; omega
        · rw [List.length_append, lv, lv]; omega
    by_cases hk : k < (T.blw 0 t).length
    · rw [List.getD_eq_getElem?_getD, List.getElem?_eq_getElem hk]
      have := bll t 0 _ (List.getElem_mem hk)
      simp only [Option.getD_some]; omega
    · rw [List.getD_eq_getElem?_getD, List.getElem?_eq_none (by omega)]; simp
  obtain ⟨m', S', eL, hS', w4, w5, w6, w7, w8, hm'⟩ := forGo_inv (pins := [(w, .lst (t.nodes.map .v))]) (t := tgT [tgN 4, tgN 5]) (body := b1_plain_ground)
    (fun i m X => X = Z i ∧ ∃ w4 w5 w6 w7 w8, m = [some (.v t.d), some (.ref w), some (.v LL), some (.ref S1.length), w4, w5, w6, w7, w8]) (enumI t.nodes) 0 [some (.v t.d), some (.ref w), some (.v LL), some (.ref S1.length), none, none, none, none, none] (S1 ++ [.lst []]) ⟨rfl, _, _, _, _, _, rfl⟩
    (by rintro i m X ⟨rfl, _⟩; exact ⟨q2 i, trivial⟩)
    (by
      rintro h d m X hdd ⟨rfl, w4, w5, w6, w7, w8, rfl⟩
      rw [Nat.zero_add] at *
      rw [enumI_get] at hdd
      obtain ⟨nd, hnd, rfl⟩ := Option.map_eq_some_iff.mp hdd
      have hh : h < t.cnt := by rw [← hn]; exact (List.getElem?_eq_some_iff.mp hnd).1
      have nty : notTy nd = true := T.notTy_nodes t 0 nd (List.mem_of_getElem? hnd)
      have is := isi_str nd nty
      have gt : (Z h)[S1.length]? = some (.lst ((t.ground.take h).map .v)) := get_len S1 _ []
      let me : Env := [some (.v t.d), some (.ref w), some (.v LL), some (.ref S1.length), some (.v (.int (h : Int))), some (.v nd), w6, none, w8]
      have lc2 := lc_map (S := Z h) (t := tgN 7) (c := mtNot (mtTru (mCall biAny (mCons (mPop (mLc (srcAny (mBin opIx (mVar 2) (mVar 7))) [8] (tgN 8) mtYes (mBin opIn (mVar 8) (mBin opIx (mVar 2) (mVar 4))))) mNil)))) (f := mVar 7)
        (m := me) (fun k : Nat => .v (.int (0 + (k : Int)))) (fun o => !((T.blw 0 t).getD o []).any fun x => decide (x ∈ (T.blw 0 t).getD h [])) (fun k => natD k) (List.range t.cnt) (sz_of (by simp; omega)) (by
          intro o ho acc
          have ho : o < t.cnt := by simpa using ho
          refine ⟨_, rfl, ?_, fun _ => ?_⟩
          · have lc4 := lc_map (S := Z h ++ [.lst acc]) (t := tgN 8) (c := mtYes) (f := mBin opIn (mVar 8) (mBin opIx (mVar 2) (mVar 4))) (m := [some (.v t.d), some (.ref w), some (.v LL), some (.ref S1.length), some (.v (.int (h : Int))), some (.v nd), w6, some (.v (.int (o : Int))), none]) (fun x : Nat => .v (natD x)) (fun _ => true) (fun x => .bl (decide (x ∈ (T.blw 0 t).getD h []))) ((T.blw 0 t).getD o []) (sz_of (by have := blen o; omega)) (by
              intro x hx acc2
              have q1 := (opIn_nats (S := Z h ++ [.lst acc] ++ [.lst acc2]) (w := x) (ws := (T.blw 0 t).getD h []) (.inl rfl)).1
              refine ⟨_, rfl, rfl, fun _ => ?_⟩
              simp only [mBin_eq, mVar_eq, List.set_cons_succ, List.set_cons_zero, List.getElem?_cons_succ, List.getElem?_cons_zero, Out.bind_ok, ixL h _ hh, natD, q1])
            rw [List.filter_eq_self.mpr (by simp)] at lc4
            have hm2 : (((T.blw 0 t).getD o []).map fun x => D.bl (decide (x ∈ (T.blw 0 t).getD h []))) = (((T.blw 0 t).getD o []).map fun x => decide (x ∈ (T.blw 0 t).getD h [])).map D.bl := by rw [List.map_map]; rfl
            have hm3 : (((T.blw 0 t).getD o []).map fun x => R.v (natD x)) = (((T.blw 0 t).getD o []).map natD).map R.v := by rw [List.map_map]; rfl
            rw [hm2, hm3] at lc4
            simp only [me, Int.zero_add, mtNot_eq, mtTru_eq, mCall_eq, mCons_eq, mNil_eq, mPop_eq, mLc_eq, srcAny, mBin_eq, mVar_eq, List.set_cons_succ, List.set_cons_zero, List.getElem?_cons_succ, List.getElem?_cons_zero, Out.bind_ok, ixL o _ ho, wipeM, List.foldl_cons, List.foldl_nil, lc4, biAny_lst, truM_bl, List.any_map]
            rfl
          · simp only [me, Int.zero_add, mVar_eq, List.set_cons_succ, List.set_cons_zero, List.getElem?_cons_succ, List.getElem?_cons_zero]
            rfl)
      rw [aside_eq t hh] at lc2
      have hst : t.ground[h]? = some (stayD h nd (t.aside h)) := by
        simp only [T.ground, List.getElem?_map, List.getElem?_zipIdx, hnd, Option.map_some, Nat.zero_add]
      have ap : mtAppend (.ref S1.length) [.v (stayD h nd (t.aside h))] (Z h) = .ok (.v .non) (Z (h + 1)) := by
        rw [mtAppend_ref gt (sz_lt (by simp; omega))]
        simp only [Z]
        rw [set_len, List.take_add_one, hst]
        simp
      refine ⟨[some (.v t.d), some (.ref w), some (.v LL), some (.ref S1.length), some (.v (.int (h : Int))), some (.v nd), w6, w7, w8], rfl, _, _, .inl ?_, rfl, some (.v (.int (h : Int))), some (.v nd), some (.v (.lst ((t.aside h).map natD))), w7, w8, rfl⟩
      have bl := biLen_ref (q2 h)
      rw [List.length_map, hn] at bl
      have lc3 : ((mLcGo [] (tgN 7) (mtNot (mtTru (mCall biAny (mCons (mPop (mLc (srcAny (mBin opIx (mVar 2) (mVar 7))) [8] (tgN 8) mtYes (mBin opIn (mVar 8) (mBin opIx (mVar 2) (mVar 4))))) mNil)))) (mVar 7) (Z h).length me (rangeD 0 (Int.toNat (t.cnt : Int))) (Z h ++ [.lst []])).bind fun r S' => popV (Z h) r S') = .ok (.v (.lst ((t.aside h).map natD))) (Z h) := lc2
      unfold b1_plain_ground
      rw [mSeq_nx (m' := [some (.v t.d), some (.ref w), some (.v LL), some (.ref S1.length), some (.v (.int (h : Int))), some (.v nd), some (.v (.lst ((t.aside h).map natD))), w7, w8]) (S' := Z h) (by
        rw [mSetP_lt 6 (by simp), mSet_eq]
        have hw : wipeM [some (.v t.d), some (.ref w), some (.v LL), some (.ref S1.length), some (.v (.int (h : Int))), some (.v nd), w6, w7, w8] [7] = me := rfl
        rw [mPop_eq, mLc_eq, hw]
        simp only [srcRange1_eq, mCons_eq, mCall_eq, mVar_eq, mNil_eq, List.getElem?_cons_succ, List.getElem?_cons_zero, Out.bind_ok, bl, rg1_int (show 0 ≤ (t.cnt : Int) by omega) (show (t.cnt : Int) < 2 ^ 62 by omega), lc3, thenS_ok, List.set_cons_succ, List.set_cons_zero])]
      have ap' : mtAppend (.ref S1.length) [.v (.tup [if isStr nd = true then nd else .int (h : Int), .int 0, if isStr nd = true then .tup [] else nd, .tup ((t.aside h).map natD)])] (Z h) = _ := ap
      cases hs : isStr nd <;> rw [hs] at ap' <;> simp only [Bool.false_eq_true, if_true, if_false] at ap' <;>
        simp only [mDrop_eq, mMeth_eq, mVar_eq, List.getElem?_cons_succ, List.getElem?_cons_zero, Out.bind_ok, tyOk_lst gt, if_true, mCons_eq, mNil_eq, mTup_eq, mIf_eq, mtTru_eq, mCall_eq, mC_eq, is, hs, truM_bl, biTuple_lst, frzO_nil, Nat.zero_le, sz0, frzO_4, List.length_cons, List.length_nil, Nat.zero_add, Nat.reduceAdd, sz4, ap', thenS_ok])
  subst hS' hm'
  rw [enumI_len, hn, Nat.zero_add] at eL
  have hZ : Z t.cnt = S ++ (g ++ [.lst (t.ground.map .v)]) := by simp only [Z, S1]; rw [List.take_of_length_le (by omega), List.append_assoc]
  have gf : (Z t.cnt)[S1.length]? = some (.lst (t.ground.map .v)) := by simp only [Z]; rw [List.take_of_length_le (by omega)]; exact get_len S1 _ []
  have bt := biTuple_ref gf
  refine mDefV_rtG (g ++ [.lst (t.ground.map .v)]) ?_ (.refl S)
  rw [← hZ]
  have en := en1_ref (S := S1 ++ [.lst []]) (get_old q1 [.lst []])
  have e1' : R_nodes_3 70 [.v t.d] S = .ok (.ref w) S1 := e1
  have e2' : M_below [.ref w] S1 = .ok (.v LL) S1 := e2
  simp only [m_plain_ground, List.map_cons, List.map_nil, List.length_cons, List.length_nil, List.replicate, List.cons_append, List.nil_append, Nat.reduceAdd, Nat.reduceSub, mSeq_eq, mSet_eq, mCall_eq, mCons_eq, mVar_eq, mNil_eq, List.getElem?_cons_succ, List.getElem?_cons_zero, Out.bind_ok, e1', thenS_ok, List.set_cons_succ, List.set_cons_zero, e2', mLst_eq, Nat.zero_le, sz0, if_true, mFor_eq, srcEnum_eq, en, eL, mRet_eq, bt]
end Q
namespace Q
open PySem hiding Env
open L2 M
theorem k09_main (ns : List Int) (hns : ns.length ≤ 63) : ∃ S', M_law_k09 [.v (.kl (ns.map D.int))] [] = .ok (.v (.bl true)) S' := by
  let sc : R := .v (.kl (ns.map D.int))
  have turn : ∀ (b : Nat) (h : Pot b) (a0 a1 a3 a4 a5 : Option R), b + 40 ≤ 2 ^ 40 → ∃ (h' : Pot (b + 40)) (c4 c5 : Option R), b1_law_k09 M_great_2 M_plain_ground (R_same_2 70) M_ground [a0, a1, some (.ref 0), a3, a4, a5] [h.c] = .nx [a0, a1, some (.ref 0), a3, c4, c5] [h'.c] := by
    intro b h a0 a1 a3 a4 a5 hb
    obtain ⟨h', t, e1, tok, _, tz⟩ := great_2_spec (S := [h.c]) (n := 0) rfl hb
    simp only [List.set_cons_zero] at e1
    have td := t.depth_lt
    have e2 := plain_ground_spec (t := t) (S := [h'.c]) (by omega) (by omega)
    have e3 := ground_spec (t := t) (S := [h'.c]) (by omega) (by omega)
    have pl : Pln 70 (.tup t.ground) := by
      have up : ∀ (k : Nat) (d : D), Pln k d → Pln (k + 1) d := by
        intro k
        induction k with
        | zero => intro d h; exact h.elim
        | succ k ih =>
          intro d h
          cases d with
          | tup ds => exact ⟨h.1, fun d hd => ih d (h.2 d hd)⟩
          | _ => exact h
      have upn : ∀ (n k : Nat) (d : D), Pln k d → Pln (k + n) d := by
        intro n
        induction n with
        | zero => intro k d h; exact h
        | succ n ih => intro k d h; exact up _ _ (ih k d h)
      exact upn 64 6 _ (t.pln_ground tok (by omega))
    have e4 := same_2_refl 70 (.tup t.ground) [h'.c] pl
    refine ⟨h', some (.v t.d), some (.v (.tup t.ground)), ?_⟩
    simp only [b1_law_k09, mSeq_eq, mSet_eq, mCall_eq, mCons_eq, mVar_eq, mNil_eq, List.getElem?_cons_succ, List.getElem?_cons_zero, Out.bind_ok, e1, thenS_ok, List.set_cons_succ, List.set_cons_zero, e2, mIfS_eq, mtOr_eq, mtNot_eq, mtTru_eq, e3, e4, truM_bl, Bool.not_true, mSkip_eq]
  have hmx : ∀ S, mCall biMax (mCons (mC (.v (.int 1))) (mCons (mCall biMin (mCons (mCall biLen (mCons (mVar 0) mNil)) (mCons (mC (.v (.int 8))) mNil))) mNil)) [some sc, none, none, none, none, none] S = .ok (.v (.int (if (if (8 : Int) < (ns.length : Int) then (8 : Int) else ns.length) > 1 then (if (8 : Int) < (ns.length : Int) then (8 : Int) else ns.length) else 1))) S := fun S => by
    simp only [mCall_eq, mCons_eq, mC_eq, mVar_eq, mNil_eq, List.getElem?_cons_zero, Out.bind_ok, sc, biLen_kl, List.length_map, biMin_ii, biMax_ii]
  generalize hq : (if (if (8 : Int) < (ns.length : Int) then (8 : Int) else ns.length) > 1 then (if (8 : Int) < (ns.length : Int) then (8 : Int) else ns.length) else 1) = q at hmx
  have hq0 : 1 ≤ q ∧ q ≤ 8 := by rw [← hq]; split <;> split <;> omega
  obtain ⟨m', S', eL, hS', w, hw, hm'⟩ := for_inv (t := tgN 1) (body := b2_law_k09 M_pot M_great_2 M_plain_ground (R_same_2 70) M_ground) (ds := rangeD 0 q.toNat) (m := [some sc, none, none, none, none, none]) (S := [])
    (fun i m T => T = [] ∧ ∃ w : Env, w.length = 5 ∧ m = some sc :: w) ⟨rfl, _, rfl, rfl⟩ (by
      rintro i d m T hd ⟨rfl, w, hw, rfl⟩
      obtain ⟨hi, rfl⟩ := rangeD_get hd
      simp only [Int.zero_add]
      obtain ⟨w1, w2, w3, w4, w5, rfl⟩ : ∃ w1 w2 w3 w4 w5, w = [w1, w2, w3, w4, w5] := by
        match w, hw with
        | [w1, w2, w3, w4, w5], _ => exact ⟨_, _, _, _, _, rfl⟩
      obtain ⟨h, e1⟩ := pot_spec (S := []) (ns := ns) (k := (i : Int)) (by omega) (by omega)
      simp only [List.length_nil, List.nil_append] at e1
      obtain ⟨m2, S2, eI, h2, hS2, v3, v4, v5, hm2⟩ := for_inv (t := tgN 3) (body := b1_law_k09 M_great_2 M_plain_ground (R_same_2 70) M_ground) (ds := rangeD 0 2) (m := [some sc, some (.v (.int (i : Int))), some (.ref 0), w3, w4, w5]) (S := [h.c])
        (fun j m T => ∃ g : Pot (j * 40), T = [g.c] ∧ ∃ v3 v4 v5, m = [some sc, some (.v (.int (i : Int))), some (.ref 0), v3, v4, v5]) ⟨h.up (by omega), rfl, _, _, _, rfl⟩ (by
          rintro j d m T hd ⟨g, rfl, v3, v4, v5, rfl⟩
          obtain ⟨hj, rfl⟩ := rangeD_get hd
          obtain ⟨g', c4, c5, e⟩ := turn _ g (some sc) (some (.v (.int (i : Int)))) (some (.v (.int (0 + (j : Int))))) v4 v5 (by omega)
          exact ⟨_, rfl, _, _, .inl e, g'.up (by omega), rfl, _, _, _, rfl⟩)
      subst hS2 hm2
      have s1 : mSeq (mSet 2 (mCall M_pot (mCons (mVar 0) (mCons (mVar 1) mNil)))) (mFor (srcRange1 (mCons (mC (.v (.int 2))) mNil)) (tgN 3) (b1_law_k09 M_great_2 M_plain_ground (R_same_2 70) M_ground)) [some sc, some (.v (.int (i : Int))), w2, w3, w4, w5] [] = .nx [some sc, some (.v (.int (i : Int))), some (.ref 0), v3, v4, v5] ([] ++ [h2.c]) := by
        simp only [mSeq_eq, mSet_eq, mCall_eq, mCons_eq, mVar_eq, mNil_eq, mC_eq, List.getElem?_cons_succ, List.getElem?_cons_zero, Out.bind_ok, e1, sc, thenS_ok, List.set_cons_succ, List.set_cons_zero, mFor_eq, srcRange1_eq, rg1_int (show (0 : Int) ≤ 2 by decide) (show (2 : Int) < 2 ^ 62 by omega)]
        exact eI
      refine ⟨_, rfl, [some sc, some (.v (.int (i : Int))), none, keepE 0 v3, keepE 0 v4, keepE 0 v5], [], .inl ?_, rfl, _, ?_, rfl⟩
      · show b2_law_k09 _ _ _ _ _ [some sc, some (.v (.int (i : Int))), w2, w3, w4, w5] [] = _
        unfold b2_law_k09
        rw [mTrim_eq, s1]
        simp only
        rw [trim_app (.refl []) (by simp)]
        rfl
      · rfl)
  subst hS' hm'
  refine ⟨[], mDef_rt ?_⟩
  unfold m_law_k09
  have hmx' := hmx []
  simp only [mCall_eq, mCons_eq, mC_eq, mVar_eq, mNil_eq, List.getElem?_cons_zero, Out.bind_ok, sc] at hmx'
  have eL' : mForGo [] (tgN 1) (b2_law_k09 M_pot M_great_2 M_plain_ground (R_same_2 70) M_ground) (rangeD 0 q.toNat) [some (.v (.kl (ns.map D.int))), none, none, none, none, none] [] = _ := eL
  simp only [List.map_cons, List.map_nil, List.length_cons, List.length_nil, List.replicate, List.cons_append, List.nil_append, Nat.reduceAdd, Nat.reduceSub, mSeq_eq, mFor_eq, srcRange1_eq, mCons_eq, mCall_eq, mC_eq, mVar_eq, mNil_eq, List.getElem?_cons_zero, Out.bind_ok, hmx', rg1_int (show 0 ≤ q by omega) (show q < 2 ^ 62 by omega), thenS_ok, eL', mRet_eq]
end Q

namespace Q
open PySem hiding Env
open L2 M
noncomputable def b1_first_comb : MS :=
  (mSet 1 (mTup (mCons (mVar 1) (mCons (mVar 2) mNil))))
noncomputable def m_first_comb : MS :=
  (mSeq (mSet 1 (mBin opIx (mVar 0) (mC (.int 0))))
  (mSeq (mFor (srcAny (mPop (mSl (mVar 0) (moS (mC (.int 1))) moN))) (tgN 2) b1_first_comb)
  (mRet (mVar 1))))
noncomputable def M_first_comb : List R → Store → Out R := mDefV 3 (m_first_comb)
noncomputable def b1_last_comb : MS :=
  (mSet 1 (mTup (mCons (mVar 2) (mCons (mVar 1) mNil))))
noncomputable def m_last_comb : MS :=
  (mSeq (mSet 1 (mBin opIx (mVar 0) (mUn opNeg (mC (.int 1)))))
  (mSeq (mFor (srcAny (mPop (mUn opRev2 (mVar 0)))) (tgN 2) b1_last_comb)
  (mRet (mVar 1))))
noncomputable def M_last_comb : List R → Store → Out R := mDefV 3 (m_last_comb)
noncomputable def b1_first_stays : MS :=
  (mSeq (mSet 5 (mCall biTuple (mCons (mPop (mLc (srcAny (mVar 2)) [6] (tgN 6) (mtB (mBin opGt (mVar 6) (mBin opSub (mBin opMul (mC (.int 2)) (mVar 4)) (mC (.int 1))))) (mVar 6))) mNil)))
  (mSeq (mDrop (mMeth "list" mtAppend (mVar 3) (mCons (mTup (mCons (mBin opIx (mVar 0) (mVar 4)) (mCons (mC (.int 0)) (mCons (mTup mNil) (mCons (mBin opAdd (mUn opRgT1 (mBin opSub (mBin opMul (mC (.int 2)) (mVar 4)) (mC (.int 1)))) (mVar 5)) mNil))))) mNil)))
  (mDrop (mMeth "list" mtAppend (mVar 3) (mCons (mTup (mCons (mBin opMul (mC (.int 2)) (mVar 4)) (mCons (mC (.int 0)) (mCons (mTup (mCons (mBin opSub (mBin opMul (mC (.int 2)) (mVar 4)) (mC (.int 2))) (mCons (mBin opSub (mBin opMul (mC (.int 2)) (mVar 4)) (mC (.int 1))) mNil))) (mCons (mVar 5) mNil))))) mNil)))))
noncomputable def m_first_stays : MS :=
  (mSeq (mSet 1 (mCall biLen (mCons (mVar 0) mNil)))
  (mSeq (mSetP 2 (mLc (srcRange2 (mCons (mC (.int 1)) (mCons (mVar 1) mNil))) [4] (tgN 4) mtYes (mBin opSub (mBin opMul (mC (.int 2)) (mVar 4)) (mC (.int 1)))))
  (mSeq (mSet 3 (mLst (mCons (mTup (mCons (mBin opIx (mVar 0) (mC (.int 0))) (mCons (mC (.int 0)) (mCons (mTup mNil) (mCons (mCall biTuple (mCons (mVar 2) mNil)) mNil))))) mNil)))
  (mSeq (mFor (srcRange2 (mCons (mC (.int 1)) (mCons (mVar 1) mNil))) (tgN 4) b1_first_stays)
  (mRet (mCall biTuple (mCons (mVar 3) mNil)))))))
noncomputable def M_first_stays : List R → Store → Out R := mDefV 7 (m_first_stays)
noncomputable def b1_last_stays : MS :=
  (mSeq (mSet 4 (mPop (mBin opAdd (mPop (mLc (srcRange1 (mCons (mVar 1) mNil)) [5] (tgN 5) (mtB (mBin opNe (mVar 5) (mVar 3))) (mVar 5))) (mPop (mBin opRgL2 (mVar 1) (mCall biMax (mCons (mVar 1) (mCons (mBin opSub (mBin opSub (mBin opMul (mC (.int 2)) (mVar 1)) (mC (.int 2))) (mVar 3)) mNil))))))))
  (mDrop (mMeth "list" mtAppend (mVar 2) (mCons (mTup (mCons (mBin opIx (mVar 0) (mVar 3)) (mCons (mC (.int 0)) (mCons (mTup mNil) (mCons (mCall biTuple (mCons (mVar 4) mNil)) mNil))))) mNil))))
noncomputable def b2_last_stays : MS :=
  (mDrop (mMeth "list" mtAppend (mVar 2) (mCons (mTup (mCons (mBin opAdd (mVar 1) (mVar 3)) (mCons (mC (.int 0)) (mCons (mTup (mCons (mBin opSub (mBin opSub (mVar 1) (mC (.int 2))) (mVar 3)) (mCons (mBin opSub (mBin opAdd (mVar 1) (mVar 3)) (mC (.int 1))) mNil))) (mCons (mUn opRgT1 (mBin opSub (mBin opSub (mVar 1) (mC (.int 2))) (mVar 3))) mNil))))) mNil)))
noncomputable def m_last_stays : MS :=
  (mSeq (mSet 1 (mCall biLen (mCons (mVar 0) mNil)))
  (mSeq (mSet 2 (mLst mNil))
  (mSeq (mFor (srcRange1 (mCons (mVar 1) mNil)) (tgN 3) b1_last_stays)
  (mSeq (mFor (srcRange1 (mCons (mBin opSub (mVar 1) (mC (.int 1))) mNil)) (tgN 3) b2_last_stays)
  (mRet (mCall biTuple (mCons (mVar 2) mNil)))))))
noncomputable def M_last_stays : List R → Store → Out R := mDefV 6 (m_last_stays)
noncomputable def b1_law_k10 (g_pot : List R → Store → Out R) (g_words_2 : List R → Store → Out R) (g_take_2 : List R → Store → Out R) (g_same_2 : List R → Store → Out R) (g_ground : List R → Store → Out R) (g_first_comb : List R → Store → Out R) (g_first_stays : List R → Store → Out R) (g_last_comb : List R → Store → Out R) (g_last_stays : List R → Store → Out R) : MS :=
  (mTrim (mSeq (mSet 2 (mCall g_pot (mCons (mVar 0) (mCons (mVar 1) mNil))))
  (mSeq (mSet 3 (mCall g_words_2 (mCons (mVar 2) (mCons (mBin opAdd (mC (.int 1)) (mCall g_take_2 (mCons (mVar 2) (mCons (mC (.int 8)) mNil)))) mNil))))
  (mSeq (mIfS (mtNot (mtTru (mCall g_same_2 (mCons (mCall g_ground (mCons (mCall g_first_comb (mCons (mVar 3) mNil)) mNil)) (mCons (mCall g_first_stays (mCons (mVar 3) mNil)) mNil))))) (mRet (mC (.bl false))) mSkip)
  (mIfS (mtNot (mtTru (mCall g_same_2 (mCons (mCall g_ground (mCons (mCall g_last_comb (mCons (mVar 3) mNil)) mNil)) (mCons (mCall g_last_stays (mCons (mVar 3) mNil)) mNil))))) (mRet (mC (.bl false))) mSkip)))))
noncomputable def m_law_k10 (g_pot : List R → Store → Out R) (g_take_2 : List R → Store → Out R) (g_words_2 : List R → Store → Out R) (g_first_stays : List R → Store → Out R) (g_first_comb : List R → Store → Out R) (g_ground : List R → Store → Out R) (g_same_2 : List R → Store → Out R) (g_last_stays : List R → Store → Out R) (g_last_comb : List R → Store → Out R) : MS :=
  (mSeq (mFor (srcRange1 (mCons (mCall biMax (mCons (mC (.int 1)) (mCons (mCall biMin (mCons (mCall biLen (mCons (mVar 0) mNil)) (mCons (mC (.int 8)) mNil))) mNil))) mNil)) (tgN 1) (b1_law_k10 g_pot g_words_2 g_take_2 g_same_2 g_ground g_first_comb g_first_stays g_last_comb g_last_stays))
  (mRet (mCall g_same_2 (mCons (mCall g_ground (mCons (mC (.str "a")) mNil)) (mCons (mTup (mCons (mTup (mCons (mC (.str "a")) (mCons (mC (.int 0)) (mCons (mTup mNil) (mCons (mTup mNil) mNil))))) mNil)) mNil)))))
noncomputable def M_law_k10 : List R → Store → Out R := mDef 4 (m_law_k10 M_pot M_take_2 M_words_2 M_first_stays M_first_comb M_ground (R_same_2 70) M_last_stays M_last_comb)
end Q
namespace M
open PySem PySem.Spec L2
open PyProof.Rows hiding St
/-- the combs -/
def fcFrom (t : T) (ws : List Str) : T := ws.foldl (fun t w => .node t (.leaf w)) t
def lcFrom (t : T) (ws : List Str) : T := ws.foldl (fun t w => .node (.leaf w) t) t
def oddN (n : Nat) : List Nat := (List.range (n - 1)).map fun j => 2 * j + 1
def laterN (n k : Nat) : List Nat := (oddN n).filter fun o => decide (2 * k - 1 < o)
/-- the stays of the first comb, by numbers -/
def fstF (ws : List Str) : List D :=
  .tup [.str (ws.headD ""), .int 0, .tup [], .tup ((oddN ws.length).map natD)] :: (List.range (ws.length - 1)).flatMap fun j =>
    [.tup [.str (ws.getD (j + 1) ""), .int 0, .tup [], .tup ((List.range (2 * j + 1) ++ laterN ws.length (j + 1)).map natD)],
     .tup [natD (2 * j + 2), .int 0, .tup [natD (2 * j), natD (2 * j + 1)], .tup ((laterN ws.length (j + 1)).map natD)]]
def lstF (ws : List Str) : List D :=
  ((List.range ws.length).map fun k => .tup [.str (ws.getD k ""), .int 0, .tup [], .tup (((List.range ws.length).filter (fun o => !decide (o = k)) ++ (List.range (max ws.length (2 * ws.length - 2 - k) - ws.length)).map (ws.length + ·)).map natD)]) ++
  (List.range (ws.length - 1)).map fun k => .tup [natD (ws.length + k), .int 0, .tup [natD (ws.length - 2 - k), natD (ws.length + k - 1)], .tup ((List.range (ws.length - 2 - k)).map natD)]
theorem fst_ground : ∀ ws : List Str, 1 ≤ ws.length → ws.length ≤ 8 → (fcFrom (.leaf (ws.headD "")) ws.tail).ground = fstF ws
  | [], h, _ => by cases h
  | [_], _, _ => by kernel_rfl
  | [_, _], _, _ => by kernel_rfl
  | [_, _, _], _, _ => by kernel_rfl
  | [_, _, _, _], _, _ => by kernel_rfl
  | [_, _, _, _, _], _, _ => by kernel_rfl
  | [_, _, _, _, _, _], _, _ => by kernel_rfl
  | [_, _, _, _, _, _, _], _, _ => by kernel_rfl
  | [_, _, _, _, _, _, _, _], _, _ => by kernel_rfl
  | _ :: _ :: _ :: _ :: _ :: _ :: _ :: _ :: _ :: _, _, h => by simp at h
theorem lst_ground : ∀ ws : List Str, 1 ≤ ws.length → ws.length ≤ 8 → (lcFrom (.leaf (ws.getLastD "")) ws.dropLast.reverse).ground = lstF ws
  | [], h, _ => by cases h
  | [_], _, _ => by kernel_rfl
  | [_, _], _, _ => by kernel_rfl
  | [_, _, _], _, _ => by kernel_rfl
  | [_, _, _, _], _, _ => by kernel_rfl
  | [_, _, _, _, _], _, _ => by kernel_rfl
  | [_, _, _, _, _, _], _, _ => by kernel_rfl
  | [_, _, _, _, _, _, _], _, _ => by kernel_rfl
  | [_, _, _, _, _, _, _, _], _, _ => by kernel_rfl
  | _ :: _ :: _ :: _ :: _ :: _ :: _ :: _ :: _ :: _, _, h => by simp at h
end M
namespace Q
open PySem hiding Env
open L2 M
theorem rgT1 {b : Int} {S : Store} (h0 : 0 ≤ b) (h1 : b ≤ 1000000) : opRgT1 (.v (.int b)) S = .ok (.v (.tup ((List.range b.toNat).map natD))) S := by
  have hb : bounds1 (.v (.int b)) = some (0, b) := by
    unfold bounds1
    simp only
    rw [if_pos (rgSm_of (by omega) (by omega) (by omega) (by omega))]
  unfold opRgT1 rgTup
  rw [hb]
  simp only
  congr 3
  unfold rgD
  rw [Int.sub_zero]
  refine List.map_congr_left fun i _ => ?_
  simp [natD]
theorem first_comb_spec {ws : List Str} {S : Store} (h0 : 1 ≤ ws.length) (h1 : ws.length ≤ 1000) : M_first_comb [.v (.lst (ws.map D.str))] S = .ok (.v (fcFrom (.leaf (ws.headD "")) ws.tail).d) S := by
  have i0 : opIx (.v (.lst (ws.map D.str))) (.v (.int 0)) S = .ok (.v (.str (ws.headD ""))) S := opIx_lst (by
    cases ws with
    | nil => cases h0
    | cons w r => rw [List.map_cons, atI_0]; rfl)
  have hcut : cutD (ws.map D.str) (some 1) none = ws.tail.map D.str := by rw [cutD_drop _ (by decide)]; cases ws <;> rfl
  have sl := popSl_lst (S := S) (ws.map D.str) (some 1) none
  rw [hcut] at sl
  obtain ⟨m', S', eL, hS', w2, hm'⟩ := for_inv (t := tgN 2) (body := b1_first_comb) (ds := (ws.tail.map D.str).map .v) (m := [some (.v (.lst (ws.map D.str))), some (.v (.str (ws.headD ""))), none]) (S := S)
    (fun i m X => X = S ∧ ∃ w2, m = [some (.v (.lst (ws.map D.str))), some (.v (fcFrom (.leaf (ws.headD "")) (ws.tail.take i)).d), w2]) ⟨rfl, _, rfl⟩ (by
      rintro i d m X hd ⟨rfl, w2, rfl⟩
      rw [List.map_map, List.getElem?_map] at hd
      obtain ⟨w, hw, rfl⟩ := Option.map_eq_some_iff.mp hd
      have htk : fcFrom (.leaf (ws.headD "")) (ws.tail.take (i + 1)) = .node (fcFrom (.leaf (ws.headD "")) (ws.tail.take i)) (.leaf w) := by
        unfold fcFrom
        rw [List.take_add_one, hw, List.foldl_append]; rfl
      refine ⟨_, rfl, _, _, .inl ?_, rfl, some (.v (.str w)), rfl⟩
      rw [htk]
      simp only [b1_first_comb, mSet_eq, mTup_eq, mCons_eq, mVar_eq, mNil_eq, List.set_cons_succ, List.set_cons_zero, List.getElem?_cons_succ, List.getElem?_cons_zero, Out.bind_ok, Function.comp, frzO_2, List.length_cons, List.length_nil, Nat.zero_add, Nat.reduceAdd, sz2, if_true, thenS_ok, T.d])
  subst hS' hm'
  rw [List.length_map, List.length_map, List.take_length] at eL
  refine mDefV_rt0 ?_
  simp only [m_first_comb, List.map_cons, List.map_nil, List.length_cons, List.length_nil, List.replicate, List.cons_append, List.nil_append, Nat.reduceAdd, Nat.reduceSub, mSeq_eq, mSet_eq, mBin_eq, mVar_eq, mC_eq, List.getElem?_cons_succ, List.getElem?_cons_zero, Out.bind_ok, i0, thenS_ok, List.set_cons_succ, List.set_cons_zero, mFor_eq, srcAny, mPop_eq, mSl_eq, moS_eq, moN_eq, sl, eL, mRet_eq]
theorem last_comb_spec {ws : List Str} {S : Store} (h0 : 1 ≤ ws.length) (h1 : ws.length ≤ 1000) : M_last_comb [.v (.lst (ws.map D.str))] S = .ok (.v (lcFrom (.leaf (ws.getLastD "")) ws.dropLast.reverse).d) S := by
  have hne : ws ≠ [] := by intro h; rw [h] at h0; cases h0
  have i0 : opIx (.v (.lst (ws.map D.str))) (.v (.int (-1))) S = .ok (.v (.str (ws.getLastD ""))) S := opIx_lst (by
    rw [atI_map, atI_neg (by decide) (by omega), show (-1 + (ws.length : Int)).toNat = ws.length - 1 by omega]
    rw [← List.getLast?_eq_getElem?, List.getLastD_eq_getLast?]
    rw [List.getLast?_eq_some_getLast hne]; rfl)
  have rv : (opRev2 (.v (.lst (ws.map D.str))) S).bind (fun r S' => popV S r S') = .ok (.v (.lst (ws.dropLast.reverse.map D.str))) S := by
    have e : opRev2 (.v (.lst (ws.map D.str))) S = .ok (.ref S.length) (S ++ [.lst ((ws.dropLast.reverse.map D.str).map .v)]) := by
      unfold opRev2
      simp only [lstOf]
      rw [← List.map_dropLast, ← List.map_reverse, ← List.map_dropLast, ← List.map_reverse]
    rw [e, Out.bind_ok]
    exact popV_new S _
  generalize hv : ws.dropLast.reverse = vs at rv
  obtain ⟨m', S', eL, hS', w2, hm'⟩ := for_inv (t := tgN 2) (body := b1_last_comb) (ds := (vs.map D.str).map .v) (m := [some (.v (.lst (ws.map D.str))), some (.v (.str (ws.getLastD ""))), none]) (S := S)
    (fun i m X => X = S ∧ ∃ w2, m = [some (.v (.lst (ws.map D.str))), some (.v (lcFrom (.leaf (ws.getLastD "")) (vs.take i)).d), w2]) ⟨rfl, _, rfl⟩ (by
      rintro i d m X hd ⟨rfl, w2, rfl⟩
      rw [List.map_map, List.getElem?_map] at hd
      obtain ⟨w, hw, rfl⟩ := Option.map_eq_some_iff.mp hd
      have htk : lcFrom (.leaf (ws.getLastD "")) (vs.take (i + 1)) = .node (.leaf w) (lcFrom (.leaf (ws.getLastD "")) (vs.take i)) := by
        unfold lcFrom
        rw [List.take_add_one, hw, List.foldl_append]; rfl
      refine ⟨_, rfl, _, _, .inl ?_, rfl, some (.v (.str w)), rfl⟩
      rw [htk]
      simp only [b1_last_comb, mSet_eq, mTup_eq, mCons_eq, mVar_eq, mNil_eq, List.set_cons_succ, List.set_cons_zero, List.getElem?_cons_succ, List.getElem?_cons_zero, Out.bind_ok, Function.comp, frzO_2, List.length_cons, List.length_nil, Nat.zero_add, Nat.reduceAdd, sz2, if_true, thenS_ok, T.d])
  subst hS' hm'
  rw [List.length_map, List.length_map, List.take_length] at eL
  refine mDefV_rt0 ?_
  simp only [m_last_comb, List.map_cons, List.map_nil, List.length_cons, List.length_nil, List.replicate, List.cons_append, List.nil_append, Nat.reduceAdd, Nat.reduceSub, mSeq_eq, mSet_eq, mBin_eq, mUn_eq, opNeg_int, mVar_eq, mC_eq, List.getElem?_cons_succ, List.getElem?_cons_zero, Out.bind_ok, i0, thenS_ok, List.set_cons_succ, List.set_cons_zero, mFor_eq, srcAny, mPop_eq, rv, eL, mRet_eq]
end Q
namespace M
open PySem PySem.Spec L2
open PyProof.Rows hiding St
def fstP (ws : List Str) (j : Nat) : List D :=
  [.tup [.str (ws.getD (j + 1) ""), .int 0, .tup [], .tup ((List.range (2 * j + 1) ++ laterN ws.length (j + 1)).map natD)],
   .tup [natD (2 * j + 2), .int 0, .tup [natD (2 * j), natD (2 * j + 1)], .tup ((laterN ws.length (j + 1)).map natD)]]
def fst0 (ws : List Str) : D := .tup [.str (ws.headD ""), .int 0, .tup [], .tup ((oddN ws.length).map natD)]
theorem fstF_eq (ws : List Str) : fstF ws = fst0 ws :: (List.range (ws.length - 1)).flatMap (fstP ws) := rfl
end M
namespace Q
open PySem hiding Env
open L2 M
theorem rgRange2 {a b : Int} (h0 : -1000000 ≤ a) (h1 : a ≤ 1000000) (h2 : -1000000 ≤ b) (h3 : b ≤ 1000000) (S : Store) : rg2 [.v (.int a), .v (.int b)] S = .ok ⟨rangeD a (b - a).toNat, []⟩ S := rg2_int ⟨by omega, by omega⟩ ⟨by omega, by omega⟩
theorem first_stays_spec {ws : List Str} {S : Store} (h0 : 1 ≤ ws.length) (h1 : ws.length ≤ 1000) : M_first_stays [.v (.lst (ws.map D.str))] S = .ok (.v (.tup (fstF ws))) S := by
  have s2 : (2 : Int).natAbs < smLine := sm64 (by decide)
  have sm : ∀ n : Nat, n ≤ 100000 → (1 + (n : Int)).natAbs < smLine := fun n h => sm64 (by omega)
  have ixw : ∀ (k : Nat) (S : Store), k < ws.length → opIx (.v (.lst (ws.map D.str))) (.v (.int (k : Int))) S = .ok (.v (.str (ws.getD k ""))) S := fun k S hk => opIx_lst (by
    rw [atI_map, atI_lt (by omega), show ((k : Nat) : Int).toNat = k by omega, List.getD_eq_getElem?_getD, List.getElem?_eq_getElem hk]; rfl)
  have hol : (oddN ws.length).length = ws.length - 1 := by simp [oddN]
  let O : D := .lst ((oddN ws.length).map natD)
  have lc := lc_map (S := S) (t := tgN 4) (c := mtYes) (f := mBin opSub (mBin opMul (mC (.v (.int 2))) (mVar 4)) (mC (.v (.int 1)))) (m := [some (.v (.lst (ws.map D.str))), some (.v (.int (ws.length : Int))), none, none, none, none, none]) (fun j : Nat => .v (.int (1 + (j : Int)))) (fun _ => true) (fun j => natD (2 * j + 1)) (List.range (ws.length - 1)) (sz_of (by simp; omega)) (by
    intro j hj acc
    have hj : j < ws.length - 1 := by simpa using hj
    refine ⟨_, rfl, rfl, fun _ => ?_⟩
    have e : 2 * (1 + (j : Int)) - 1 = ((2 * j + 1 : Nat) : Int) := by omega
    simp only [mBin_eq, mC_eq, mVar_eq, List.set_cons_succ, List.set_cons_zero, List.getElem?_cons_succ, List.getElem?_cons_zero, Out.bind_ok, opMul_int s2 (sm j (by omega)), opSub_int, e, natD])
  rw [List.filter_eq_self.mpr (by simp)] at lc
  have hO : ((List.range (ws.length - 1)).map fun j => natD (2 * j + 1)) = (oddN ws.length).map natD := by rw [oddN, List.map_map]; rfl
  rw [hO] at lc
  have hrg : ((ws.length : Int) - 1).toNat = ws.length - 1 := by omega
  have lc' : ((mLcGo [] (tgN 4) mtYes (mBin opSub (mBin opMul (mC (.v (.int 2))) (mVar 4)) (mC (.v (.int 1)))) S.length [some (.v (.lst (ws.map D.str))), some (.v (.int (ws.length : Int))), none, none, none, none, none] (rangeD 1 (ws.length - 1)) (S ++ [.lst []])).bind fun r S' => popV S r S') = .ok (.v O) S := lc
  let Z : Nat → Store := fun i => S ++ [.lst ((fst0 ws :: (List.range i).flatMap (fstP ws)).map .v)]
  have zl : ∀ i, (fst0 ws :: (List.range i).flatMap (fstP ws)).length = 2 * i + 1 := fun i => by
    rw [List.length_cons, List.length_flatMap]
    have : ((List.range i).map fun a => (fstP ws a).length) = List.replicate i 2 := by
      refine List.ext_getElem (by simp) fun k h1 h2 => ?_
      simp [fstP]
    rw [this]; simp; omega
  obtain ⟨m', S', eL, hS', w4, w5, w6, hm'⟩ := for_inv (t := tgN 4) (body := b1_first_stays) (ds := rangeD 1 (ws.length - 1)) (m := [some (.v (.lst (ws.map D.str))), some (.v (.int (ws.length : Int))), some (.v O), some (.ref S.length), none, none, none]) (S := S ++ [.lst [.v (fst0 ws)]])
    (fun i m X => X = Z i ∧ ∃ w4 w5 w6, m = [some (.v (.lst (ws.map D.str))), some (.v (.int (ws.length : Int))), some (.v O), some (.ref S.length), w4, w5, w6]) ⟨rfl, _, _, _, rfl⟩ (by
      rintro j d m X hd ⟨rfl, w4, w5, w6, rfl⟩
      obtain ⟨hj, rfl⟩ := rangeD_get hd
      have e1 : 2 * (1 + (j : Int)) - 1 = ((2 * j + 1 : Nat) : Int) := by omega
      have e2 : 2 * (1 + (j : Int)) - 2 = ((2 * j : Nat) : Int) := by omega
      have e3 : 2 * (1 + (j : Int)) = ((2 * j + 2 : Nat) : Int) := by omega
      have e4 : 1 + (j : Int) = ((j + 1 : Nat) : Int) := by omega
      have f1 : ((2 * j + 2 : Nat) : Int) - 1 = ((2 * j + 1 : Nat) : Int) := by omega
      have f2 : ((2 * j + 2 : Nat) : Int) - 2 = ((2 * j : Nat) : Int) := by omega
      have lc2 := lc_map (S := Z j) (t := tgN 6) (c := mtB (mBin opGt (mVar 6) (mBin opSub (mBin opMul (mC (.v (.int 2))) (mVar 4)) (mC (.v (.int 1)))))) (f := mVar 6) (m := [some (.v (.lst (ws.map D.str))), some (.v (.int (ws.length : Int))), some (.v O), some (.ref S.length), some (.v (.int (1 + (j : Int)))), w5, none]) (fun o : Nat => .v (natD o)) (fun o => decide (2 * (j + 1) - 1 < o)) natD (oddN ws.length) (sz_of (by omega)) (by
        intro o ho acc
        refine ⟨_, rfl, ?_, fun _ => rfl⟩
        have e5 : decide (((2 * j + 1 : Nat) : Int) < (o : Int)) = decide (2 * (j + 1) - 1 < o) := by
          apply Bool.eq_iff_iff.mpr
          simp only [decide_eq_true_eq]
          omega
        simp only [mtB_eq, mBin_eq, mC_eq, mVar_eq, List.set_cons_succ, List.set_cons_zero, List.getElem?_cons_succ, List.getElem?_cons_zero, Out.bind_ok, opMul_int s2 (sm j (by omega)), opSub_int, e1, natD, opCmpI_int, onBl_bl, e5])
      have hm1 : ((oddN ws.length).map fun o => R.v (natD o)) = ((oddN ws.length).map natD).map R.v := by rw [List.map_map]; rfl
      rw [hm1] at lc2
      have hlt : ((oddN ws.length).filter fun o => decide (2 * (j + 1) - 1 < o)) = laterN ws.length (j + 1) := rfl
      rw [hlt] at lc2
      have hll : (laterN ws.length (j + 1)).length ≤ ws.length := by
        have := List.length_filter_le (fun o => decide (2 * (j + 1) - 1 < o)) (oddN ws.length)
        unfold laterN; omega
      have gt : (Z j)[S.length]? = some (.lst ((fst0 ws :: (List.range j).flatMap (fstP ws)).map .v)) := get_len S _ []
      let A : D := .tup [.str (ws.getD (j + 1) ""), .int 0, .tup [], .tup ((List.range (2 * j + 1) ++ laterN ws.length (j + 1)).map natD)]
      let B : D := .tup [natD (2 * j + 2), .int 0, .tup [natD (2 * j), natD (2 * j + 1)], .tup ((laterN ws.length (j + 1)).map natD)]
      have hZ : Z (j + 1) = S ++ [.lst (((fst0 ws :: (List.range j).flatMap (fstP ws)) ++ [A] ++ [B]).map .v)] := by
        simp only [Z]
        rw [List.range_succ, List.flatMap_append]
        simp [fstP, A, B]
      have ap1 : mtAppend (.ref S.length) [.v A] (Z j) = .ok (.v .non) (S ++ [.lst (((fst0 ws :: (List.range j).flatMap (fstP ws)) ++ [A]).map .v)]) := by
        rw [mtAppend_ref gt (sz_lt (by rw [List.length_map, zl]; omega))]
        simp only [Z]
        rw [set_len]; simp
      have gt2 := get_len S (.lst (((fst0 ws :: (List.range j).flatMap (fstP ws)) ++ [A]).map R.v)) []
      have ap2 : mtAppend (.ref S.length) [.v B] (S ++ [.lst (((fst0 ws :: (List.range j).flatMap (fstP ws)) ++ [A]).map .v)]) = .ok (.v .non) (Z (j + 1)) := by
        rw [mtAppend_ref gt2 (sz_lt (by rw [List.length_map, List.length_append, zl]; simp; omega)), set_len, hZ]
        simp
      have rg : ∀ S, opRgT1 (.v (.int ((2 * j + 1 : Nat) : Int))) S = .ok (.v (.tup ((List.range (2 * j + 1)).map natD))) S := fun S => by
        rw [rgT1 (by omega) (by omega), show (((2 * j + 1 : Nat) : Int)).toNat = 2 * j + 1 by omega]
      have ad : ∀ S, opAdd (.v (.tup ((List.range (2 * j + 1)).map natD))) (.v (.tup ((laterN ws.length (j + 1)).map natD))) S = .ok (.v (.tup ((List.range (2 * j + 1) ++ laterN ws.length (j + 1)).map natD))) S := fun S => by
        rw [opAdd_tup (sz_of (by simp; omega)), List.map_append]
      have iw := fun S => ixw (j + 1) S (by omega)
      rw [← e4] at iw
      refine ⟨_, rfl, _, _, .inl ?_, rfl, some (.v (.int (1 + (j : Int)))), some (.v (.tup ((laterN ws.length (j + 1)).map natD))), w6, rfl⟩
      have tl1 := tyOk_lst gt
      have tl2 := tyOk_lst gt2
      have ap1' : mtAppend (.ref S.length) [.v (.tup [.str (ws.getD (j + 1) ""), .int 0, .tup [], .tup ((List.range (2 * j + 1) ++ laterN ws.length (j + 1)).map natD)])] (Z j) = _ := ap1
      have ap2' : mtAppend (.ref S.length) [.v (.tup [.int ((2 * j + 2 : Nat) : Int), .int 0, .tup [.int ((2 * j : Nat) : Int), .int ((2 * j + 1 : Nat) : Int)], .tup ((laterN ws.length (j + 1)).map natD)])] (S ++ [.lst (((fst0 ws :: (List.range j).flatMap (fstP ws)) ++ [A]).map .v)]) = _ := ap2
      simp only [b1_first_stays, mSeq_eq, mSet_eq, mCall_eq, mCons_eq, mNil_eq, mPop_eq, mLc_eq, srcAny, mVar_eq, List.set_cons_succ, List.set_cons_zero, List.getElem?_cons_succ, List.getElem?_cons_zero, Out.bind_ok, O, wipeM, List.foldl_cons, List.foldl_nil, lc2, biTuple_lst, thenS_ok, mDrop_eq, mMeth_eq, tl1, if_true, mTup_eq, mBin_eq, iw, mC_eq, frzO_nil, List.length_nil, Nat.zero_le, sz0, mUn_eq, opMul_int s2 (sm j (by omega)), opSub_int, e3, f1, f2, rg, ad, frzO_4, List.length_cons, Nat.zero_add, Nat.reduceAdd, sz4, ap1', tl2, frzO_2, sz2, ap2'])
  subst hS' hm'
  rw [rangeD_len] at eL
  have gf := get_len S (.lst ((fstF ws).map R.v)) []
  have hZf : Z (ws.length - 1) = S ++ [.lst ((fstF ws).map .v)] := rfl
  rw [hZf] at eL
  have bt := biTuple_ref gf
  have i0 : ∀ S, opIx (.v (.lst (ws.map D.str))) (.v (.int 0)) S = .ok (.v (.str (ws.headD ""))) S := fun S => opIx_lst (by
    cases ws with
    | nil => cases h0
    | cons w r => rw [List.map_cons, atI_0]; rfl)
  have r2 := fun S => rgRange2 (a := 1) (b := (ws.length : Int)) (by decide) (by decide) (by omega) (by omega) S
  rw [hrg] at r2
  refine mDefV_rtG [.lst ((fstF ws).map .v)] ?_ (.refl S)
  unfold m_first_stays
  simp only [List.map_cons, List.map_nil, List.length_cons, List.length_nil, List.replicate, List.cons_append, List.nil_append, Nat.reduceAdd, Nat.reduceSub]
  rw [mSeq_nx (m' := [some (.v (.lst (ws.map D.str))), some (.v (.int (ws.length : Int))), none, none, none, none, none]) (S' := S) (by simp only [mSet_eq, mCall_eq, mCons_eq, mVar_eq, mNil_eq, List.getElem?_cons_zero, Out.bind_ok, biLen_lst, List.length_map, thenS_ok, List.set_cons_succ, List.set_cons_zero])]
  rw [mSeq_nx (m' := [some (.v (.lst (ws.map D.str))), some (.v (.int (ws.length : Int))), some (.v O), none, none, none, none]) (S' := S) (by
    rw [mSetP_lt 2 (by simp), mSet_eq]
    simp only [mPop_eq, mLc_eq, srcRange2_eq, mCons_eq, mC_eq, mVar_eq, mNil_eq, List.getElem?_cons_succ, List.getElem?_cons_zero, Out.bind_ok, r2, wipeM, List.foldl_cons, List.foldl_nil, List.set_cons_succ, List.set_cons_zero, lc', thenS_ok])]
  have fz : fst0 ws = .tup [.str (ws.headD ""), .int 0, .tup [], .tup ((oddN ws.length).map natD)] := rfl
  rw [mSeq_nx (m' := [some (.v (.lst (ws.map D.str))), some (.v (.int (ws.length : Int))), some (.v O), some (.ref S.length), none, none, none]) (S' := S ++ [.lst [.v (fst0 ws)]]) (by
    simp only [mSet_eq, mLst_eq, mCons_eq, mTup_eq, mBin_eq, mVar_eq, mC_eq, mNil_eq, mCall_eq, List.getElem?_cons_succ, List.getElem?_cons_zero, Out.bind_ok, i0, frzO_nil, List.length_nil, Nat.zero_le, sz0, if_true, O, biTuple_lst, frzO_4, List.length_cons, Nat.zero_add, Nat.reduceAdd, sz4, sz1, thenS_ok, List.set_cons_succ, List.set_cons_zero, fz])]
  simp only [mSeq_eq, mFor_eq, srcRange2_eq, mCons_eq, mC_eq, mVar_eq, mNil_eq, List.getElem?_cons_succ, List.getElem?_cons_zero, Out.bind_ok, r2, thenS_ok, eL, mRet_eq, mCall_eq, bt]
end Q
namespace M
open PySem PySem.Spec L2
open PyProof.Rows hiding St
def lstP (ws : List Str) (k : Nat) : D := .tup [.str (ws.getD k ""), .int 0, .tup [], .tup (((List.range ws.length).filter (fun o => !decide (o = k)) ++ (List.range (max ws.length (2 * ws.length - 2 - k) - ws.length)).map (ws.length + ·)).map natD)]
def lstQ (n k : Nat) : D := .tup [natD (n + k), .int 0, .tup [natD (n - 2 - k), natD (n + k - 1)], .tup ((List.range (n - 2 - k)).map natD)]
theorem lstF_eq (ws : List Str) : lstF ws = (List.range ws.length).map (lstP ws) ++ (List.range (ws.length - 1)).map (lstQ ws.length) := rfl
end M
namespace Q
open PySem hiding Env
open L2 M
theorem rgL2 {a b : Int} {S : Store} (h0 : 0 ≤ a) (h1 : a ≤ b) (h2 : b ≤ 1000000) : (opRgL2 (.v (.int a)) (.v (.int b)) S).bind (fun r S' => popV S r S') = .ok (.v (.lst ((List.range (b - a).toNat).map fun i : Nat => .int (a + (i : Int))))) S := by
  have hb : bounds2 (.v (.int a)) (.v (.int b)) = some (a, b) := by
    unfold bounds2
    simp only
    rw [if_pos (rgSm_of (by omega) (by omega) (by omega) (by omega))]
  have e : opRgL2 (.v (.int a)) (.v (.int b)) S = .ok (.ref S.length) (S ++ [.lst (((List.range (b - a).toNat).map fun i : Nat => D.int (a + (i : Int))).map .v)]) := by
    unfold opRgL2 rgLst
    rw [hb]
    rfl
  rw [e, Out.bind_ok]
  exact popV_new S _
theorem last_stays_spec {ws : List Str} {S : Store} (h0 : 1 ≤ ws.length) (h1 : ws.length ≤ 1000) : M_last_stays [.v (.lst (ws.map D.str))] S = .ok (.v (.tup (lstF ws))) S := by
  have s2 : (2 : Int).natAbs < smLine := sm64 (by decide)
  generalize hn : ws.length = n at h0 h1
  have sn : (n : Int).natAbs < smLine := sm64 (by omega)
  have ixw : ∀ (k : Nat) (S : Store), k < n → opIx (.v (.lst (ws.map D.str))) (.v (.int (k : Int))) S = .ok (.v (.str (ws.getD k ""))) S := fun k S hk => opIx_lst (by
    rw [atI_map, atI_lt (by omega), show ((k : Nat) : Int).toNat = k by omega, List.getD_eq_getElem?_getD, List.getElem?_eq_getElem (by omega)]; rfl)
  let Z : Nat → Store := fun i => S ++ [.lst (((List.range i).map (lstP ws)).map .v)]
  obtain ⟨m1, S1, eL, hS1, w3, w4, w5, hm1⟩ := for_inv (t := tgN 3) (body := b1_last_stays) (ds := rangeD 0 n) (m := [some (.v (.lst (ws.map D.str))), some (.v (.int (n : Int))), some (.ref S.length), none, none, none]) (S := S ++ [.lst []])
    (fun i m X => X = Z i ∧ ∃ w3 w4 w5, m = [some (.v (.lst (ws.map D.str))), some (.v (.int (n : Int))), some (.ref S.length), w3, w4, w5]) ⟨rfl, _, _, _, rfl⟩ (by
      rintro k d m X hd ⟨rfl, w3, w4, w5, rfl⟩
      obtain ⟨hk, rfl⟩ := rangeD_get hd
      simp only [Int.zero_add]
      have gt : (Z k)[S.length]? = some (.lst (((List.range k).map (lstP ws)).map .v)) := get_len S _ []
      have lc := lc_map (S := Z k) (t := tgN 5) (c := mtB (mBin opNe (mVar 5) (mVar 3))) (f := mVar 5) (m := [some (.v (.lst (ws.map D.str))), some (.v (.int (n : Int))), some (.ref S.length), some (.v (.int (k : Int))), w4, none]) (fun o : Nat => .v (.int (0 + (o : Int)))) (fun o => !decide (o = k)) natD (List.range n) (sz_of (by simp; omega)) (by
        intro o ho acc
        have e5 : (!((o : Int) == (k : Int))) = !decide (o = k) := by
          congr 1
          apply Bool.eq_iff_iff.mpr
          simp only [beq_iff_eq, decide_eq_true_eq]
          omega
        refine ⟨_, rfl, ?_, fun _ => ?_⟩
        · simp only [Int.zero_add, mtB_eq, mBin_eq, mVar_eq, List.set_cons_succ, List.set_cons_zero, List.getElem?_cons_succ, List.getElem?_cons_zero, Out.bind_ok, opNe_int, onBl_bl, e5]
        · simp only [Int.zero_add, mVar_eq, List.set_cons_succ, List.set_cons_zero, List.getElem?_cons_succ, List.getElem?_cons_zero]; rfl)
      have lc' : ((mLcGo [] (tgN 5) (mtB (mBin opNe (mVar 5) (mVar 3))) (mVar 5) (Z k).length [some (.v (.lst (ws.map D.str))), some (.v (.int (n : Int))), some (.ref S.length), some (.v (.int (k : Int))), w4, none] (rangeD 0 (Int.toNat (n : Int))) (Z k ++ [.lst []])).bind fun r S' => popV (Z k) r S') = .ok (.v (.lst (((List.range n).filter fun o => !decide (o = k)).map natD))) (Z k) := lc
      let mx : Int := if 2 * (n : Int) - 2 - (k : Int) > (n : Int) then 2 * (n : Int) - 2 - (k : Int) else n
      have hmx : (mx - (n : Int)).toNat = max n (2 * n - 2 - k) - n := by simp only [mx]; split <;> omega
      have rl := rgL2 (a := (n : Int)) (b := mx) (S := Z k) (by omega) (by simp only [mx]; split <;> omega) (by simp only [mx]; split <;> omega)
      have hrl : ((List.range (mx - (n : Int)).toNat).map fun i : Nat => D.int ((n : Int) + (i : Int))) = ((List.range (max n (2 * n - 2 - k) - n)).map (n + ·)).map natD := by
        rw [hmx, List.map_map]
        refine List.map_congr_left fun i _ => ?_
        simp [natD]
      rw [hrl] at rl
      have ad := popAdd (S := Z k) (x := ((List.range n).filter fun o => !decide (o = k)).map natD) (y := ((List.range (max n (2 * n - 2 - k) - n)).map (n + ·)).map natD) (sz_of (by
        have := List.length_filter_le (fun o => !decide (o = k)) (List.range n)
        rw [List.length_range] at this
        simp only [List.length_map, List.length_range]
        omega))
      rw [← List.map_append] at ad
      have hst : lstP ws k = .tup [.str (ws.getD k ""), .int 0, .tup [], .tup (((List.range n).filter (fun o => !decide (o = k)) ++ (List.range (max n (2 * n - 2 - k) - n)).map (n + ·)).map natD)] := by unfold lstP; rw [hn]
      have ap : mtAppend (.ref S.length) [.v (lstP ws k)] (Z k) = .ok (.v .non) (Z (k + 1)) := by
        rw [mtAppend_ref gt (sz_lt (by simp; omega))]
        simp only [Z]
        rw [set_len, List.range_succ]; simp
      rw [hst] at ap
      refine ⟨_, rfl, _, _, .inl ?_, rfl, some (.v (.int (k : Int))), some (.v (.lst (((List.range n).filter (fun o => !decide (o = k)) ++ (List.range (max n (2 * n - 2 - k) - n)).map (n + ·)).map natD))), w5, rfl⟩
      simp only [b1_last_stays, mSeq_eq, mSet_eq, mPop_eq, mBin_eq, mLc_eq, srcRange1_eq, mCons_eq, mVar_eq, mNil_eq, List.set_cons_succ, List.set_cons_zero, List.getElem?_cons_succ, List.getElem?_cons_zero, Out.bind_ok, rg1_int (show 0 ≤ (n : Int) by omega) (show (n : Int) < 2 ^ 62 by omega), wipeM, List.foldl_cons, List.foldl_nil, lc', mCall_eq, mC_eq, opMul_int s2 sn, opSub_int, biMax_ii]
      show (match (((opRgL2 (.v (.int (n : Int))) (.v (.int mx)) (Z k)).bind (fun r S' => popV (Z k) r S')).bind fun y S2 => opAdd _ y S2).bind (fun r S' => popV (Z k) r S') |>.thenS _ _ with | .nx m' S' => _ | o => o) = _
      rw [rl]
      simp only [Out.bind_ok, ad, thenS_ok, mDrop_eq, mMeth_eq, mVar_eq, List.getElem?_cons_succ, List.getElem?_cons_zero, tyOk_lst gt, if_true, mCons_eq, mNil_eq, mTup_eq, mBin_eq, ixw k _ hk, mC_eq, frzO_nil, List.length_nil, Nat.zero_le, sz0, mCall_eq, biTuple_lst, frzO_4, List.length_cons, Nat.zero_add, Nat.reduceAdd, sz4, ap])
  subst hS1 hm1
  rw [rangeD_len] at eL
  let Y : Nat → Store := fun i => S ++ [.lst (((List.range n).map (lstP ws) ++ (List.range i).map (lstQ n)).map .v)]
  obtain ⟨m2, S2, eL2, hS2, u3, hm2⟩ := for_inv (t := tgN 3) (body := b2_last_stays) (ds := rangeD 0 (n - 1)) (m := [some (.v (.lst (ws.map D.str))), some (.v (.int (n : Int))), some (.ref S.length), w3, w4, w5]) (S := Z n)
    (fun i m X => X = Y i ∧ ∃ w3, m = [some (.v (.lst (ws.map D.str))), some (.v (.int (n : Int))), some (.ref S.length), w3, w4, w5]) ⟨by simp [Y, Z], _, rfl⟩ (by
      rintro k d m X hd ⟨rfl, w3, rfl⟩
      obtain ⟨hk, rfl⟩ := rangeD_get hd
      simp only [Int.zero_add]
      have gt : (Y k)[S.length]? = some (.lst (((List.range n).map (lstP ws) ++ (List.range k).map (lstQ n)).map .v)) := get_len S _ []
      have f1 : (n : Int) + (k : Int) = ((n + k : Nat) : Int) := by omega
      have f2 : (n : Int) - 2 - (k : Int) = ((n - 2 - k : Nat) : Int) := by omega
      have f3 : ((n + k : Nat) : Int) - 1 = ((n + k - 1 : Nat) : Int) := by omega
      have rg : ∀ S, opRgT1 (.v (.int ((n - 2 - k : Nat) : Int))) S = .ok (.v (.tup ((List.range (n - 2 - k)).map natD))) S := fun S => by
        rw [rgT1 (by omega) (by omega), show (((n - 2 - k : Nat) : Int)).toNat = n - 2 - k by omega]
      have ap : mtAppend (.ref S.length) [.v (lstQ n k)] (Y k) = .ok (.v .non) (Y (k + 1)) := by
        rw [mtAppend_ref gt (sz_lt (by simp; omega))]
        simp only [Y]
        rw [set_len, List.range_succ (n := k)]; simp
      have ap' : mtAppend (.ref S.length) [.v (.tup [.int ((n + k : Nat) : Int), .int 0, .tup [.int ((n - 2 - k : Nat) : Int), .int ((n + k - 1 : Nat) : Int)], .tup ((List.range (n - 2 - k)).map natD)])] (Y k) = _ := ap
      refine ⟨_, rfl, _, _, .inl ?_, rfl, some (.v (.int (k : Int))), rfl⟩
      simp only [b2_last_stays, mDrop_eq, mMeth_eq, mVar_eq, List.set_cons_succ, List.set_cons_zero, List.getElem?_cons_succ, List.getElem?_cons_zero, Out.bind_ok, tyOk_lst gt, if_true, mCons_eq, mNil_eq, mTup_eq, mBin_eq, mUn_eq, mC_eq, opAdd_int, opSub_int, f1, f2, f3, rg, frzO_2, frzO_4, List.length_cons, List.length_nil, Nat.zero_add, Nat.reduceAdd, sz2, sz4, ap', thenS_ok])
  subst hS2 hm2
  rw [rangeD_len] at eL2
  have hF : lstF ws = (List.range n).map (lstP ws) ++ (List.range (n - 1)).map (lstQ n) := by rw [lstF_eq, hn]
  have hY : Y (n - 1) = S ++ [.lst ((lstF ws).map .v)] := by rw [hF]
  rw [hY] at eL2
  have bt := biTuple_ref (get_len S (.lst ((lstF ws).map R.v)) [])
  refine mDefV_rtG [.lst ((lstF ws).map .v)] ?_ (.refl S)
  have r1 := fun S => rg1_int (S := S) (show 0 ≤ (n : Int) by omega) (show (n : Int) < 2 ^ 62 by omega)
  have r2 := fun S => rg1_int (S := S) (show 0 ≤ (n : Int) - 1 by omega) (show (n : Int) - 1 < 2 ^ 62 by omega)
  have q1 : ((n : Int)).toNat = n := by omega
  have q2 : ((n : Int) - 1).toNat = n - 1 := by omega
  rw [q1] at r1
  rw [q2] at r2
  simp only [m_last_stays, List.map_cons, List.map_nil, List.length_cons, List.length_nil, List.replicate, List.cons_append, List.nil_append, Nat.reduceAdd, Nat.reduceSub, mSeq_eq, mSet_eq, mCall_eq, mCons_eq, mVar_eq, mNil_eq, mC_eq, List.getElem?_cons_succ, List.getElem?_cons_zero, Out.bind_ok, biLen_lst, List.length_map, hn, thenS_ok, List.set_cons_succ, List.set_cons_zero, mLst_eq, Nat.zero_le, sz0, if_true, mFor_eq, srcRange1_eq, r1, eL, mBin_eq, opSub_int, r2, eL2, mRet_eq, bt]
end Q
namespace Q
open PySem hiding Env
open L2 M
theorem fc_ls : ∀ (ws : List Str) (t : T), (fcFrom t ws).ls = t.ls ++ ws
  | [], t => by simp [fcFrom]
  | w :: ws, t => by
    have := fc_ls ws (.node t (.leaf w))
    unfold fcFrom at this ⊢
    rw [List.foldl_cons, this]
    simp [T.ls]
theorem lc_ls : ∀ (ws : List Str) (t : T), (lcFrom t ws).ls = ws.reverse ++ t.ls
  | [], t => by simp [lcFrom]
  | w :: ws, t => by
    have := lc_ls ws (.node (.leaf w) t)
    unfold lcFrom at this ⊢
    rw [List.foldl_cons, this]
    simp [T.ls]
theorem upn70 (d : D) (h : Pln 6 d) : Pln 70 d := by
  have up : ∀ (k : Nat) (d : D), Pln k d → Pln (k + 1) d := by
    intro k
    induction k with
    | zero => intro d h; exact h.elim
    | succ k ih =>
      intro d h
      cases d with
      | tup ds => exact ⟨h.1, fun d hd => ih d (h.2 d hd)⟩
      | _ => exact h
  have upn : ∀ (n k : Nat) (d : D), Pln k d → Pln (k + n) d := by
    intro n
    induction n with
    | zero => intro k d h; exact h
    | succ n ih => intro k d h; exact up _ _ (ih k d h)
  exact upn 64 6 d h
theorem k10_round {h : Pot 0} {sc k : R} {w3 : Option R} : ∃ (m' : Env) (S' : Store), mSeq (mSet 3 (mCall M_words_2 (mCons (mVar 2) (mCons (mBin opAdd (mC (.v (.int 1))) (mCall M_take_2 (mCons (mVar 2) (mCons (mC (.v (.int 8))) mNil)))) mNil))))
  (mSeq (mIfS (mtNot (mtTru (mCall (R_same_2 70) (mCons (mCall M_ground (mCons (mCall M_first_comb (mCons (mVar 3) mNil)) mNil)) (mCons (mCall M_first_stays (mCons (mVar 3) mNil)) mNil))))) (mRet (mC (.v (.bl false)))) mSkip)
  (mIfS (mtNot (mtTru (mCall (R_same_2 70) (mCons (mCall M_ground (mCons (mCall M_last_comb (mCons (mVar 3) mNil)) mNil)) (mCons (mCall M_last_stays (mCons (mVar 3) mNil)) mNil))))) (mRet (mC (.v (.bl false)))) mSkip))
    [some sc, some k, some (.ref 0), w3] [h.c] = .nx (some sc :: some k :: m') S' ∧ m'.length = 2 ∧ S' ≠ [] := by
  obtain ⟨b, g1, e1, b0, b1⟩ := take_2_spec (S := [h.c]) (n := 0) (k := 8) rfl (by decide) (by decide) (by decide)
  simp only [List.set_cons_zero] at e1
  obtain ⟨g2, ws, e2, hl, _, ok⟩ := words_2_spec (S := [g1.c]) (n := 0) (k := 1 + b) rfl (by decide) (by omega) (by omega)
  simp only [List.set_cons_zero] at e2
  have l0 : 1 ≤ ws.length := by omega
  have l1 : ws.length ≤ 8 := by omega
  have hne : ws ≠ [] := by intro h; rw [h] at l0; cases l0
  let t1 : T := fcFrom (.leaf (ws.headD "")) ws.tail
  let t2 : T := lcFrom (.leaf (ws.getLastD "")) ws.dropLast.reverse
  have s1 : t1.ls = ws := by
    show (fcFrom _ _).ls = ws
    rw [fc_ls]
    cases ws with
    | nil => exact absurd rfl hne
    | cons w r => rfl
  have s2 : t2.ls = ws := by
    show (lcFrom _ _).ls = ws
    rw [lc_ls, List.reverse_reverse]
    show ws.dropLast ++ [ws.getLastD ""] = ws
    rw [List.getLastD_eq_getLast?, List.getLast?_eq_some_getLast hne]
    exact List.dropLast_concat_getLast hne
  have ok1 : t1.Ok := fun x hx => ok x (by rw [← s1]; exact hx)
  have ok2 : t2.Ok := fun x hx => ok x (by rw [← s2]; exact hx)
  have d1 := t1.depth_lt
  have d2 := t2.depth_lt
  rw [s1] at d1
  rw [s2] at d2
  have f1 := first_comb_spec (ws := ws) (S := [g2.c]) l0 (by omega)
  have f2 := last_comb_spec (ws := ws) (S := [g2.c]) l0 (by omega)
  have f3 := first_stays_spec (ws := ws) (S := [g2.c]) l0 (by omega)
  have f4 := last_stays_spec (ws := ws) (S := [g2.c]) l0 (by omega)
  have f5 := ground_spec (t := t1) (S := [g2.c]) (by omega) (by rw [s1]; omega)
  have f6 := ground_spec (t := t2) (S := [g2.c]) (by omega) (by rw [s2]; omega)
  have p1 := upn70 _ (t1.pln_ground ok1 (by rw [s1]; omega))
  have p2 := upn70 _ (t2.pln_ground ok2 (by rw [s2]; omega))
  have e3 : t1.ground = fstF ws := fst_ground ws l0 l1
  have e4 : t2.ground = lstF ws := lst_ground ws l0 l1
  rw [e3] at f5 p1
  rw [e4] at f6 p2
  have q1 := same_2_refl 70 _ [g2.c] p1
  have q2 := same_2_refl 70 _ [g2.c] p2
  have f5' : M_ground [.v (fcFrom (.leaf (ws.headD "")) ws.tail).d] [g2.c] = _ := f5
  have f6' : M_ground [.v (lcFrom (.leaf (ws.getLastD "")) ws.dropLast.reverse).d] [g2.c] = _ := f6
  refine ⟨[some (.ref 0), some (.v (.lst (ws.map D.str)))], [g2.c], ?_, rfl, by simp⟩
  simp only [mSeq_eq, mSet_eq, mCall_eq, mCons_eq, mVar_eq, mNil_eq, mBin_eq, mC_eq, List.getElem?_cons_succ, List.getElem?_cons_zero, Out.bind_ok, e1, opAdd_int, e2, thenS_ok, List.set_cons_succ, List.set_cons_zero, mIfS_eq, mtNot_eq, mtTru_eq, f1, f5', f3, q1, truM_bl, Bool.not_true, mSkip_eq, f2, f6', f4, q2]
theorem k10_main (ns : List Int) (hns : ns.length ≤ 63) : ∃ S', M_law_k10 [.v (.kl (ns.map D.int))] [] = .ok (.v (.bl true)) S' := by
  let sc : R := .v (.kl (ns.map D.int))
  have hmx : ∀ S, mCall biMax (mCons (mC (.v (.int 1))) (mCons (mCall biMin (mCons (mCall biLen (mCons (mVar 0) mNil)) (mCons (mC (.v (.int 8))) mNil))) mNil)) [some sc, none, none, none] S = .ok (.v (.int (if (if (8 : Int) < (ns.length : Int) then (8 : Int) else ns.length) > 1 then (if (8 : Int) < (ns.length : Int) then (8 : Int) else ns.length) else 1))) S := fun S => by
    simp only [mCall_eq, mCons_eq, mC_eq, mVar_eq, mNil_eq, List.getElem?_cons_zero, Out.bind_ok, sc, biLen_kl, List.length_map, biMin_ii, biMax_ii]
  generalize hq : (if (if (8 : Int) < (ns.length : Int) then (8 : Int) else ns.length) > 1 then (if (8 : Int) < (ns.length : Int) then (8 : Int) else ns.length) else 1) = q at hmx
  have hq0 : 1 ≤ q ∧ q ≤ 8 := by rw [← hq]; split <;> split <;> omega
  obtain ⟨m', S', eL, hS', w, hw, hm'⟩ := for_inv (t := tgN 1) (body := b1_law_k10 M_pot M_words_2 M_take_2 (R_same_2 70) M_ground M_first_comb M_first_stays M_last_comb M_last_stays) (ds := rangeD 0 q.toNat) (m := [some sc, none, none, none]) (S := [])
    (fun i m T => T = [] ∧ ∃ w : Env, w.length = 3 ∧ m = some sc :: w) ⟨rfl, _, rfl, rfl⟩ (by
      rintro i d m T hd ⟨rfl, w, hw, rfl⟩
      obtain ⟨hi, rfl⟩ := rangeD_get hd
      simp only [Int.zero_add]
      obtain ⟨w1, w2, w3, rfl⟩ : ∃ w1 w2 w3, w = [w1, w2, w3] := by
        match w, hw with
        | [w1, w2, w3], _ => exact ⟨_, _, _, rfl⟩
      obtain ⟨h, e1⟩ := pot_spec (S := []) (ns := ns) (k := (i : Int)) (by omega) (by omega)
      simp only [List.length_nil, List.nil_append] at e1
      obtain ⟨m8, S8, e2, hl8, hne8⟩ := k10_round (h := h) (sc := sc) (k := .v (.int (i : Int))) (w3 := w3)
      refine ⟨_, rfl, (some sc :: some (.v (.int (i : Int))) :: m8).map (keepE 0), [], .inl ?_, rfl, (some (.v (.int (i : Int))) :: m8).map (keepE 0), by simp [hl8], rfl⟩
      show b1_law_k10 _ _ _ _ _ _ _ _ _ [some sc, some (.v (.int (i : Int))), w2, w3] [] = _
      have s1 : mSet 2 (mCall M_pot (mCons (mVar 0) (mCons (mVar 1) mNil))) [some sc, some (.v (.int (i : Int))), w2, w3] [] = .nx [some sc, some (.v (.int (i : Int))), some (.ref 0), w3] [h.c] := by
        simp only [mSet_eq, mCall_eq, mCons_eq, mVar_eq, mNil_eq, List.getElem?_cons_succ, List.getElem?_cons_zero, Out.bind_ok, e1, sc, thenS_ok, List.set_cons_succ, List.set_cons_zero]
      unfold b1_law_k10
      rw [mTrim_eq, mSeq_nx s1, e2]
      simp only
      rw [show S8 = [] ++ S8 from rfl, trim_app (.refl []) hne8]
      rfl)
  subst hS' hm'
  have ga : GoodW "a" := ⟨by decide +kernel, by decide +kernel, by decide +kernel⟩
  have oka : (T.leaf "a").Ok := fun x hx => by simp only [T.ls, List.mem_singleton] at hx; subst hx; exact ga
  have g1 := ground_spec (t := .leaf "a") (S := []) (by decide) (by simp [T.ls])
  have g2 : (T.leaf "a").ground = [.tup [.str "a", .int 0, .tup [], .tup []]] := rfl
  have p1 := upn70 _ ((T.leaf "a").pln_ground oka (by simp [T.ls]))
  rw [g2] at g1 p1
  have q1 := same_2_refl 70 _ [] p1
  simp only [T.d] at g1
  refine ⟨[], mDef_rt ?_⟩
  unfold m_law_k10
  have hmx' := hmx []
  simp only [mCall_eq, mCons_eq, mC_eq, mVar_eq, mNil_eq, List.getElem?_cons_zero, Out.bind_ok, sc] at hmx'
  have eL' : mForGo [] (tgN 1) (b1_law_k10 M_pot M_words_2 M_take_2 (R_same_2 70) M_ground M_first_comb M_first_stays M_last_comb M_last_stays) (rangeD 0 q.toNat) [some (.v (.kl (ns.map D.int))), none, none, none] [] = _ := eL
  simp only [List.map_cons, List.map_nil, List.length_cons, List.length_nil, List.replicate, List.cons_append, List.nil_append, Nat.reduceAdd, Nat.reduceSub, mSeq_eq, mFor_eq, srcRange1_eq, mCons_eq, mCall_eq, mC_eq, mVar_eq, mNil_eq, List.getElem?_cons_zero, Out.bind_ok, hmx', rg1_int (show 0 ≤ q by omega) (show q < 2 ^ 62 by omega), thenS_ok, eL', mRet_eq, g1, mTup_eq, frzO_nil, Nat.zero_le, sz0, if_true, frzO_4, Nat.zero_add, sz4, frzO_1, sz1, q1]
end Q

namespace Q
open PySem hiding Env
open L2 M
noncomputable def b1_stays : MS :=
  (mSeq (mSet 8 (mCall biTuple (mCons (mPop (mLc (srcAny (mVar 6)) [11] (tgN 11) (mtB (mBin opNe (mVar 11) (mVar 7))) (mVar 11))) mNil)))
  (mSeq (mSet 9 (mBin opIx (mVar 0) (mBin opSub (mBin opAdd (mVar 5) (mVar 7)) (mVar 3))))
  (mSeq (mSet 10 (mTup (mCons (mBin opSub (mBin opAdd (mBin opAdd (mVar 4) (mC (.int 1))) (mVar 7)) (mVar 3)) mNil)))
  (mSeq (mIfS (mtAnd (mtB (mBin opEq (mVar 7) (mVar 3))) (mtB (mBin opGt (mVar 5) (mC (.int 0))))) (mSeq (mSet 9 (mBin opMul (mC (.int 2)) (mVar 5)))
  (mSet 10 (mTup (mCons (mVar 4) (mCons (mBin opAdd (mVar 4) (mC (.int 1))) mNil))))) mSkip)
  (mSeq (mIfS (mtB (mBin opEq (mVar 5) (mC (.int 0)))) (mSet 10 (mTup mNil)) mSkip)
  (mDrop (mMeth "list" mtAppend (mVar 2) (mCons (mTup (mCons (mVar 9) (mCons (mVar 5) (mCons (mVar 10) (mCons (mVar 8) mNil))))) mNil))))))))
noncomputable def b2_stays : MS :=
  (mSeq (mSet 6 (mPop (mBin opRgL2 (mVar 3) (mBin opSub (mBin opAdd (mVar 3) (mVar 1)) (mVar 5)))))
  (mSeq (mFor (srcAny (mVar 6)) (tgN 7) b1_stays)
  (mSeq (mSet 4 (mVar 3))
  (mSet 3 (mBin opSub (mBin opAdd (mVar 3) (mVar 1)) (mVar 5))))))
noncomputable def m_stays : MS :=
  (mSeq (mSet 1 (mCall biLen (mCons (mVar 0) mNil)))
  (mSeq (mSet 2 (mLst mNil))
  (mSeq (mAsg (tgT [(tgN 3), (tgN 4)]) (mTup (mCons (mC (.int 0)) (mCons (mC (.int 0)) mNil))))
  (mSeq (mFor (srcRange1 (mCons (mVar 1) mNil)) (tgN 5) b2_stays)
  (mRet (mCall biTuple (mCons (mVar 2) mNil)))))))
noncomputable def M_stays : List R → Store → Out R := mDefV 12 (m_stays)
noncomputable def b1_law_k15 (g_pot : List R → Store → Out R) (g_words_2 : List R → Store → Out R) (g_take_2 : List R → Store → Out R) (g_first_comb : List R → Store → Out R) (g_same_2 : List R → Store → Out R) (g_dated_2 : List R → Store → Out R) (g_dates : List R → Store → Out R) (g_nodes_3 : List R → Store → Out R) (g_stays : List R → Store → Out R) : MS :=
  (mTrim (mSeq (mSet 2 (mCall g_pot (mCons (mVar 0) (mCons (mVar 1) mNil))))
  (mSeq (mSet 3 (mCall g_words_2 (mCons (mVar 2) (mCons (mBin opAdd (mC (.int 1)) (mCall g_take_2 (mCons (mVar 2) (mCons (mC (.int 8)) mNil)))) mNil))))
  (mSeq (mSet 4 (mCall g_first_comb (mCons (mVar 3) mNil)))
  (mIfS (mtNot (mtTru (mCall g_same_2 (mCons (mCall g_dated_2 (mCons (mVar 4) (mCons (mCall g_dates (mCons (mVar 2) (mCons (mCall g_nodes_3 (mCons (mVar 4) mNil)) mNil))) mNil))) (mCons (mCall g_stays (mCons (mVar 3) mNil)) mNil))))) (mRet (mC (.bl false))) mSkip)))))
noncomputable def m_law_k15 (g_pot : List R → Store → Out R) (g_take_2 : List R → Store → Out R) (g_words_2 : List R → Store → Out R) (g_first_comb : List R → Store → Out R) (g_stays : List R → Store → Out R) (g_nodes_3 : List R → Store → Out R) (g_dates : List R → Store → Out R) (g_dated_2 : List R → Store → Out R) (g_same_2 : List R → Store → Out R) : MS :=
  (mSeq (mFor (srcRange1 (mCons (mCall biMax (mCons (mC (.int 1)) (mCons (mCall biMin (mCons (mCall biLen (mCons (mVar 0) mNil)) (mCons (mC (.int 8)) mNil))) mNil))) mNil)) (tgN 1) (b1_law_k15 g_pot g_words_2 g_take_2 g_first_comb g_same_2 g_dated_2 g_dates g_nodes_3 g_stays))
  (mRet (mC (.bl true))))
noncomputable def M_law_k15 : List R → Store → Out R := mDef 5 (m_law_k15 M_pot M_take_2 M_words_2 M_first_comb M_stays (R_nodes_3 70) M_dates M_dated_2 (R_same_2 70))
end Q
namespace M
open PySem PySem.Spec L2
open PyProof.Rows hiding St
def bsN (n : Nat) : Nat → Nat
  | 0 => 0
  | l + 1 => bsN n l + (n - l)
def stU (n l i : Nat) : List Nat := if l = 0 then [] else if i = 0 then [bsN n (l - 1), bsN n (l - 1) + 1] else [bsN n (l - 1) + 1 + i]
def stB (n l i : Nat) : List Nat := ((List.range (n - l)).map fun j => bsN n l + j).filter fun x => !decide (x = bsN n l + i)
def stF (ws : List Str) (l i : Nat) : D := .tup [if i = 0 ∧ 0 < l then natD (2 * l) else .str (ws.getD (l + i) ""), natD l, .tup ((stU ws.length l i).map natD), .tup ((stB ws.length l i).map natD)]
def stL (ws : List Str) (l k : Nat) : List D := (List.range k).map (stF ws l)
def stT (ws : List Str) (k : Nat) : List D := (List.range k).flatMap fun l => stL ws l (ws.length - l)
def cmbR (h : Nat) : Nat := if h % 2 = 0 then h / 2 else 0
theorem cmb_dated : ∀ ws : List Str, 1 ≤ ws.length → ws.length ≤ 8 → datedR (fcFrom (.leaf (ws.headD "")) ws.tail) cmbR ws.length = stT ws ws.length
  | [], h, _ => by cases h
  | [_], _, _ => by kernel_rfl
  | [_, _], _, _ => by kernel_rfl
  | [_, _, _], _, _ => by kernel_rfl
  | [_, _, _, _], _, _ => by kernel_rfl
  | [_, _, _, _, _], _, _ => by kernel_rfl
  | [_, _, _, _, _, _], _, _ => by kernel_rfl
  | [_, _, _, _, _, _, _], _, _ => by kernel_rfl
  | [_, _, _, _, _, _, _, _], _, _ => by kernel_rfl
  | _ :: _ :: _ :: _ :: _ :: _ :: _ :: _ :: _ :: _, _, h => by simp at h
def cmbIx (n : Nat) : List Nat := (List.range (n - 1)).map fun j => 2 * j + 2
theorem cmb_ix : ∀ ws : List Str, 1 ≤ ws.length → ws.length ≤ 8 → (fcFrom (.leaf (ws.headD "")) ws.tail).innerIx = cmbIx ws.length ∧ (cmbIx ws.length).map (chA (fcFrom (.leaf (ws.headD "")) ws.tail)) = (List.range (ws.length - 1)).map (2 * ·) ∧ (fcFrom (.leaf (ws.headD "")) ws.tail).cnt = 2 * ws.length - 1
  | [], h, _ => by cases h
  | [_], _, _ => ⟨by kernel_rfl, by kernel_rfl, by kernel_rfl⟩
  | [_, _], _, _ => ⟨by kernel_rfl, by kernel_rfl, by kernel_rfl⟩
  | [_, _, _], _, _ => ⟨by kernel_rfl, by kernel_rfl, by kernel_rfl⟩
  | [_, _, _, _], _, _ => ⟨by kernel_rfl, by kernel_rfl, by kernel_rfl⟩
  | [_, _, _, _, _], _, _ => ⟨by kernel_rfl, by kernel_rfl, by kernel_rfl⟩
  | [_, _, _, _, _, _], _, _ => ⟨by kernel_rfl, by kernel_rfl, by kernel_rfl⟩
  | [_, _, _, _, _, _, _], _, _ => ⟨by kernel_rfl, by kernel_rfl, by kernel_rfl⟩
  | [_, _, _, _, _, _, _, _], _, _ => ⟨by kernel_rfl, by kernel_rfl, by kernel_rfl⟩
  | _ :: _ :: _ :: _ :: _ :: _ :: _ :: _ :: _ :: _, _, h => by simp at h
theorem cmb_rnk {ws : List Str} (h1 : 1 ≤ ws.length) (h2 : ws.length ≤ 8) {ds : List Int} (I : Dts (fcFrom (.leaf (ws.headD "")) ws.tail) ds) {h : Nat} (hh : h < (fcFrom (.leaf (ws.headD "")) ws.tail).cnt) : rnk (fcFrom (.leaf (ws.headD "")) ws.tail) ds h = cmbR h := by
  obtain ⟨e1, e2, e3⟩ := cmb_ix ws h1 h2
  generalize fcFrom (.leaf (ws.headD "")) ws.tail = t at *
  have mem : ∀ i, i ∈ t.innerIx ↔ i < t.cnt ∧ i % 2 = 0 ∧ 0 < i := by
    intro i
    rw [e1, e3]
    unfold cmbIx
    simp only [List.mem_map, List.mem_range]
    constructor
    · rintro ⟨j, hj, rfl⟩; omega
    · rintro ⟨q1, q2, q3⟩; exact ⟨i / 2 - 1, by omega, by omega⟩
  have ca : ∀ j, j + 1 < ws.length → chA t (2 * j + 2) = 2 * j := by
    intro j hj
    have := congrArg (fun L : List Nat => L[j]?) e2
    simp only [cmbIx, List.map_map, List.getElem?_map, List.getElem?_range (show j < ws.length - 1 by omega), Option.map_some, Function.comp_apply] at this
    exact Option.some.inj this
  have up : ∀ j, j + 1 < ws.length → ds.getD (2 * j) 0 < ds.getD (2 * j + 2) 0 := by
    intro j hj
    have := (I.inr (2 * j + 2) ((mem _).mpr (by omega))).2.2.1
    rwa [ca j hj] at this
  have upk : ∀ k j, j < k → k < ws.length → ds.getD (2 * j) 0 < ds.getD (2 * k) 0 := by
    intro k
    induction k with
    | zero => intro j h; omega
    | succ k ih =>
      intro j hj hk
      have := up k hk
      rw [show 2 * (k + 1) = 2 * k + 2 by omega]
      rcases Nat.lt_or_ge j k with q | q
      · have := ih j q (by omega); omega
      · have : j = k := by omega
        subst this; exact up j hk
  unfold rnk cmbR
  cases hs : isStr (t.nodes.getD h .non) with
  | true =>
    rw [if_pos rfl]
    have : ¬ (h ∈ t.innerIx) := fun m => by have := (Dts.notIn hh).mp m; rw [hs] at this; cases this
    rw [mem] at this
    by_cases q : h % 2 = 0
    · rw [if_pos q]; omega
    · rw [if_neg q]
  | false =>
    have hm := (mem h).mp ((Dts.notIn hh).mpr hs)
    rw [if_neg (by simp), if_pos hm.2.1, e1]
    unfold cmbIx
    rw [List.filter_map, List.length_map]
    obtain ⟨k, rfl⟩ : ∃ k, h = 2 * k + 2 := ⟨h / 2 - 1, by omega⟩
    have : (List.range (ws.length - 1)).filter ((fun i => decide (ds.getD i 0 < ds.getD (2 * k + 2) 0)) ∘ fun j => 2 * j + 2) = List.range k := by
      have hk : k < ws.length - 1 := by omega
      rw [show ws.length - 1 = k + (ws.length - 1 - k) by omega, List.range_add, List.filter_append]
      have p1 : (List.range k).filter ((fun i => decide (ds.getD i 0 < ds.getD (2 * k + 2) 0)) ∘ fun j => 2 * j + 2) = List.range k := by
        rw [List.filter_eq_self]
        intro j hj
        have hj : j < k := by simpa using hj
        have := upk (k + 1) (j + 1) (by omega) (by omega)
        simp only [Function.comp_apply, decide_eq_true_eq]
        rw [show 2 * j + 2 = 2 * (j + 1) by omega, show 2 * k + 2 = 2 * (k + 1) by omega]; exact this
      have p2 : (((List.range (ws.length - 1 - k)).map fun x => k + x).filter ((fun i => decide (ds.getD i 0 < ds.getD (2 * k + 2) 0)) ∘ fun j => 2 * j + 2)) = [] := by
        rw [List.filter_eq_nil_iff]
        intro j hj
        obtain ⟨x, hx, rfl⟩ := List.mem_map.mp hj
        have hx : x < ws.length - 1 - k := by simpa using hx
        simp only [Function.comp_apply, decide_eq_true_eq]
        rcases Nat.eq_zero_or_pos x with z | z
        · subst z; simp
        · have := upk (k + x + 1) (k + 1) (by omega) (by omega)
          rw [show 2 * (k + x) + 2 = 2 * (k + x + 1) by omega, show 2 * k + 2 = 2 * (k + 1) by omega]; omega
      rw [p1, p2, List.append_nil]
    rw [this, List.length_range]; omega
theorem cmb_all {ws : List Str} (h1 : 1 ≤ ws.length) (h2 : ws.length ≤ 8) {ds : List Int} (I : Dts (fcFrom (.leaf (ws.headD "")) ws.tail) ds) : (fcFrom (.leaf (ws.headD "")) ws.tail).dated ds = stT ws ws.length := by
  rw [dated_R I, datedR_congr fun i hi => cmb_rnk h1 h2 I hi, (cmb_ix ws h1 h2).1, ← cmb_dated ws h1 h2]
  congr 1
  simp [cmbIx]; omega
theorem stL_succ (ws : List Str) (l k : Nat) : stL ws l (k + 1) = stL ws l k ++ [stF ws l k] := by
  unfold stL; rw [List.range_succ, List.map_append]; rfl
theorem stT_succ (ws : List Str) (k : Nat) : stT ws (k + 1) = stT ws k ++ stL ws k (ws.length - k) := by
  unfold stT; rw [List.range_succ, List.flatMap_append, List.flatMap_singleton]
theorem stT_len (ws : List Str) (k : Nat) : (stT ws k).length ≤ k * ws.length := by
  induction k with
  | zero => simp [stT]
  | succ k ih => rw [stT_succ, List.length_append, Nat.succ_mul]; simp only [stL, List.length_map, List.length_range]; omega
theorem bsN_le (n : Nat) : ∀ l, bsN n l ≤ l * n
  | 0 => Nat.zero_le _
  | l + 1 => by have := bsN_le n l; rw [bsN, Nat.succ_mul]; omega
end M
namespace Q
open PySem hiding Env
open L2 M
theorem stays_spec {ws : List Str} {S : Store} (h0 : 1 ≤ ws.length) (h1 : ws.length ≤ 8) : M_stays [.v (.lst (ws.map D.str))] S = .ok (.v (.tup (stT ws ws.length))) S := by
  have hb : ∀ l, l ≤ 8 → bsN ws.length l ≤ 64 := fun l hl => by
    have := bsN_le ws.length l
    have : l * ws.length ≤ 8 * 8 := Nat.mul_le_mul hl h1
    omega
  refine eq_wE ?_
  simp_arith [M_stays, m_stays, List.length_map, rg1_nat ws.length (by omega)]
  refine for_wp [3, 4, 5, 6, 7, 8, 9, 10] (fun l vs U => ∃ a b c d e f, vs = [some (.v (.int (bsN ws.length l : Int))), some (.v (.int (bsN ws.length (l - 1) : Int))), a, b, c, d, e, f] ∧ U = S ++ [.lst ((stT ws l).map .v)]) rfl ⟨_, _, _, _, _, _, rfl, rfl⟩ ?_ ?_
  · rintro l d vs U hd ⟨a, b, c, d', e, f, rfl, rfl⟩
    obtain ⟨hl, rfl⟩ := rangeD_get hd
    simp only [Int.zero_add]
    have hbl := hb l (by omega)
    have eN : ((bsN ws.length l : Int) + (ws.length : Int) - (l : Int)) = ((bsN ws.length l + (ws.length - l) : Nat) : Int) := by omega
    have hrg : ∀ (S : Store) (K : Out R → Prop), wE (opRgL2 (.v (.int (bsN ws.length l : Int))) (.v (.int ((bsN ws.length l + (ws.length - l) : Nat) : Int))) S) (kB (fun r S' => popV S r S') K) = K (.ok (.v (.lst (((List.range (ws.length - l)).map fun j => bsN ws.length l + j).map natD))) S) := fun S K => by
      have := rgL2 (S := S) (a := (bsN ws.length l : Int)) (b := ((bsN ws.length l + (ws.length - l) : Nat) : Int)) (by omega) (by omega) (by omega)
      unfold wE kB
      rw [this, show (((bsN ws.length l + (ws.length - l) : Nat) : Int) - (bsN ws.length l : Int)).toNat = ws.length - l by omega, List.map_map]
      rfl
    simp_arith [b2_stays, eN, hrg]
    refine for_wp [7, 8, 9, 10] (fun i vs U => ∃ a b c d, vs = [a, b, c, d] ∧ U = S ++ [.lst ((stT ws l ++ stL ws l i).map .v)]) rfl ⟨_, _, _, _, rfl, by simp [stL]⟩ ?_ ?_
    · rintro i d vs U hd2 ⟨a2, b2, c2, d2, rfl, rfl⟩
      rw [List.map_map, List.map_map, List.getElem?_map] at hd2
      obtain ⟨i', hi', rfl⟩ := Option.map_eq_some_iff.mp hd2
      have hi : i < ws.length - l := by have := (List.getElem?_eq_some_iff.mp hi').1; simpa using this
      have : i' = i := by rw [List.getElem?_range hi] at hi'; exact (Option.some.inj hi').symm
      subst this
      simp only [Function.comp_apply, natD]
      have g0 := get_len S (.lst ((stT ws l ++ stL ws l i').map R.v)) []
      have sf : ∀ x, (S ++ [MO.lst ((stT ws l ++ stL ws l i').map R.v)]).set S.length x = S ++ [x] := fun x => set_len S _ x []
      generalize S ++ [MO.lst ((stT ws l ++ stL ws l i').map R.v)] = U at g0 sf ⊢
      have sz : ((stT ws l ++ stL ws l i').map R.v).length < sizeLine := sz_lt (by
        have q1 := stT_len ws l
        have q2 : l * ws.length ≤ 8 * 8 := Nat.mul_le_mul (by omega) h1
        simp only [List.length_map, List.length_append, stL, List.length_range]; omega)
      simp_arith [b1_stays]
      refine lc_wp ((List.range (ws.length - l)).map fun j => bsN ws.length l + j) (fun x => .v (.int (x : Int))) (fun x => !decide (x = bsN ws.length l + i')) natD (by rw [List.map_map]; rfl) (.refl U) (sz_of (by simp; omega)) ?_ ?_
      · intro x hx acc
        simp_arith []
        refine ⟨?_, fun _ => rfl⟩
        have : ((x : Int) == ((bsN ws.length l + i' : Nat) : Int)) = decide (x = bsN ws.length l + i') := by by_cases q : x = bsN ws.length l + i' <;> simp [q]; omega
        rw [this]
      have hix : opIx (.v (.lst (ws.map D.str))) (.v (.int ((l : Int) + ((bsN ws.length l + i' : Nat) : Int) - (bsN ws.length l : Int)))) U = .ok (.v (.str (ws.getD (l + i') ""))) U := opIx_lst (by
        rw [show (l : Int) + ((bsN ws.length l + i' : Nat) : Int) - (bsN ws.length l : Int) = ((l + i' : Nat) : Int) by omega, atI_map, atI_lt (by omega), Int.toNat_natCast, List.getD_eq_getElem?_getD, List.getElem?_eq_getElem (by omega)]; rfl)
      simp_arith [hix]
      have b1 : (((bsN ws.length l + i' : Nat) : Int) == (bsN ws.length l : Int)) = decide (i' = 0) := by by_cases q : i' = 0 <;> simp [q]; omega
      have b3 : ((l : Int) == 0) = decide (l = 0) := by by_cases q : l = 0 <;> simp [q]
      rw [b1, stL_succ]
      have eb : (((List.range (ws.length - l)).map fun j => bsN ws.length l + j).filter fun x => !decide (x = bsN ws.length l + i')).map natD = (stB ws.length l i').map natD := rfl
      rw [eb]
      rcases Nat.eq_zero_or_pos l with z | z
      · subst z
        cases i' with
        | zero =>
          simp_arith [decide_true, decide_false, show decide ((0 : Int) < ((0 : Nat) : Int)) = false from rfl, show (((0 : Nat) : Int) == 0) = true from rfl, tyOk_lst g0, mtAppend_ref g0 sz, sf]
          exact ⟨_, _, _, _, rfl, by simp [stF, stU, natD]⟩
        | succ i' =>
          simp_arith [show decide (i' + 1 = 0) = false from by simp, show (((0 : Nat) : Int) == 0) = true from rfl, tyOk_lst g0, mtAppend_ref g0 sz, sf]
          exact ⟨_, _, _, _, rfl, by simp [stF, stU, natD]⟩
      · have zl : ((l : Int) == 0) = false := by rw [b3]; simp; omega
        have zp : decide ((0 : Int) < (l : Int)) = true := decide_eq_true (by omega)
        cases i' with
        | zero =>
          simp_arith [decide_true, zl, zp, tyOk_lst g0, mtAppend_ref g0 sz, sf, opMul_int (show (2 : Int).natAbs < smLine from sm64 (by decide)) (show (l : Int).natAbs < smLine from sm64 (by omega))]
          refine ⟨_, _, _, _, rfl, ?_⟩
          simp [stF, stU, natD, z, show ¬ l = 0 by omega]
        | succ i' =>
          simp_arith [show decide (i' + 1 = 0) = false from by simp, zl, tyOk_lst g0, mtAppend_ref g0 sz, sf]
          refine ⟨_, _, _, _, rfl, ?_⟩
          have : ((bsN ws.length (l - 1) : Int) + 1 + ((bsN ws.length l + (i' + 1) : Nat) : Int) - (bsN ws.length l : Int)) = ((bsN ws.length (l - 1) + 1 + (i' + 1) : Nat) : Int) := by omega
          rw [this]
          simp [stF, stU, natD, show ¬ l = 0 by omega]
    · rintro vs U ⟨a2, b2, c2, d2, rfl, rfl⟩
      simp_arith [eN]
      refine ⟨_, _, _, _, _, _, rfl, ?_⟩
      rw [stT_succ]; simp
  · rintro vs U ⟨a, b, c, d, e, f, rfl, rfl⟩
    rw [rangeD_len]
    simp_arith [biTuple_ref (get_len S (.lst ((stT ws ws.length).map R.v)) []), cut_appU (.refl S)]
theorem stT_pln {ws : List Str} (h0 : 1 ≤ ws.length) (h1 : ws.length ≤ 8) (hg : ∀ x ∈ ws, GoodW x) (k : Nat) : Pln (k + 4) (.tup (stT ws ws.length)) := by
  have q1 := stT_len ws ws.length
  have q2 : ws.length * ws.length ≤ 8 * 8 := Nat.mul_le_mul h1 h1
  refine ⟨by omega, fun d hd => ?_⟩
  simp only [stT, stL, List.mem_flatMap, List.mem_range, List.mem_map] at hd
  obtain ⟨l, hl, i, hi, rfl⟩ := hd
  have nat_ : ∀ (k n : Nat), Pln (k + 1) (natD n) := fun _ _ => trivial
  have lst : ∀ L : List Nat, L.length ≤ 100000 → Pln (k + 2) (.tup (L.map natD)) := fun L hL => by
    refine ⟨by rw [List.length_map]; exact hL, fun d hd => ?_⟩
    obtain ⟨x, _, rfl⟩ := List.mem_map.mp hd
    exact nat_ _ _
  refine ⟨by simp, fun d hd => ?_⟩
  simp only [List.mem_cons, List.not_mem_nil, or_false] at hd
  rcases hd with rfl | rfl | rfl | rfl
  · split
    · exact nat_ _ _
    · have : ws.getD (l + i) "" ∈ ws := by rw [List.getD_eq_getElem?_getD, List.getElem?_eq_getElem (by omega)]; exact List.getElem_mem _
      exact (hg _ this).ok
  · exact nat_ _ _
  · refine lst _ ?_
    unfold stU; split <;> (try split) <;> simp
  · refine lst _ ?_
    unfold stB
    have := List.length_filter_le (fun x => !decide (x = bsN ws.length l + i)) ((List.range (ws.length - l)).map fun j => bsN ws.length l + j)
    rw [List.length_map, List.length_range] at this; omega
theorem k15_main (ns : List Int) (hns : ns.length ≤ 63) : ∃ S', M_law_k15 [.v (.kl (ns.map D.int))] [] = .ok (.v (.bl true)) S' := by
  suffices h : wE (M_law_k15 [.v (.kl (ns.map D.int))] []) (fun o => ∃ S', o = .ok (.v (.bl true)) S') from h
  obtain ⟨q, hq, q1, q2⟩ := top_count (ns.length : Int) 8 (by omega) (by omega)
  simp_arith [M_law_k15, m_law_k15, List.length_map]
  rw [hq]
  simp_arith [rg1_nat q (by omega)]
  refine for_wp [1, 2, 3, 4] (fun i ws U => U = [] ∧ ∃ a b c d, ws = [a, b, c, d]) rfl ⟨rfl, _, _, _, _, rfl⟩ ?_ ?_
  · rintro i d ws U hd ⟨rfl, a, b, c, d', rfl⟩
    obtain ⟨hi, rfl⟩ := rangeD_get hd
    simp only [Int.zero_add]
    simp_arith [b1_law_k15]
    refine pot_wp (by omega) (by omega) fun h => ?_
    simp_arith []
    refine take_2_wp (h := h) rfl (by omega) (by decide) (by decide) fun r h1 r0 r1 => ?_
    simp_arith []
    refine words_2_wp (h := h1) (by rfl) (by omega) (by omega) (by omega) fun wd h2 hl hnd hg => ?_
    have l1 : 1 ≤ wd.length := by omega
    have l8 : wd.length ≤ 8 := by omega
    simp_arith [first_comb_spec l1 (show wd.length ≤ 1000 by omega), stays_spec l1 l8]
    have hls : (fcFrom (.leaf (wd.headD "")) wd.tail).ls.length ≤ 8 := by
      rw [fc_ls]; simp only [T.ls, List.length_append, List.length_cons, List.length_nil, List.length_tail]; omega
    have hdp := depth_lt8 hls
    refine nodes_3_wp hdp (by omega) fun w g hw hwl => ?_
    simp_arith []
    refine dates_wp (h := h2) (n := w) rfl hw (by simp at hwl; omega) hls (by omega) fun ds h3 hdt hlen _ => ?_
    have I := Dts.of hdt
    simp_arith [dated_spec I hdp (show (fcFrom (.leaf (wd.headD "")) wd.tail).ls.length ≤ 1000 by omega), cmb_all l1 l8 I, same_2_refl 70 _ _ (stT_pln l1 l8 hg 66)]
    simp_arith [trim_nil (show (h3.c :: g : Store) ≠ [] by simp)]
    exact ⟨_, _, _, _, rfl⟩
  · rintro ws U ⟨rfl, a, b, c, d', rfl⟩
    simp_arith []
    exact ⟨_, rfl⟩
end Q

namespace K15
open PySem hiding Env
open L2 M Q
def topS (i : Nat) : Stmt := PySem.Challenge.pw_treewithin_k15_dated_combs_known_by_hand.main.body.getD i (.Pass ⟨0, 0, 0, 0⟩)
abbrev s_put_nodes : Stmt := topS 1
abbrev N_put_nodes : List Str := ["tree", "found", "one"]
theorem sc_put_nodes : FnScope N_put_nodes ["tree", "found"] (defScope s_put_nodes) := ⟨rfl, rfl, rfl, by decide +kernel, rfl, by decide +kernel, by decide +kernel⟩
abbrev s_nodes : Stmt := topS 2
abbrev N_nodes : List Str := ["tree", "found"]
theorem sc_nodes : FnScope N_nodes ["tree"] (defScope s_nodes) := ⟨rfl, rfl, rfl, by decide +kernel, rfl, by decide +kernel, by decide +kernel⟩
abbrev s_ahead_of : Stmt := topS 3
abbrev N_ahead_of : List Str := ["tree", "some", "found", "number", "node"]
theorem sc_ahead_of : FnScope N_ahead_of ["tree"] (defScope s_ahead_of) := ⟨rfl, rfl, rfl, by decide +kernel, rfl, by decide +kernel, by decide +kernel⟩
abbrev s_name_of : Stmt := topS 5
abbrev N_name_of : List Str := ["told", "house"]
theorem sc_name_of : FnScope N_name_of ["told", "house"] (defScope s_name_of) := ⟨rfl, rfl, rfl, by decide +kernel, rfl, by decide +kernel, by decide +kernel⟩
abbrev s_inner_dates : Stmt := topS 7
abbrev N_inner_dates : List Str := ["great", "dates", "told", "date"]
theorem sc_inner_dates : FnScope N_inner_dates ["great", "dates"] (defScope s_inner_dates) := ⟨rfl, rfl, rfl, by decide +kernel, rfl, by decide +kernel, by decide +kernel⟩
abbrev s_Slices_first_slice : Stmt := inClass (topS 8) 1
abbrev N_Slices_first_slice : List Str := ["self", "house"]
theorem sc_Slices_first_slice : FnScope N_Slices_first_slice ["self", "house"] (defScope s_Slices_first_slice) := ⟨rfl, rfl, rfl, by decide +kernel, rfl, by decide +kernel, by decide +kernel⟩
abbrev s_Slices_last_slice : Stmt := inClass (topS 8) 2
abbrev N_Slices_last_slice : List Str := ["self", "house"]
theorem sc_Slices_last_slice : FnScope N_Slices_last_slice ["self", "house"] (defScope s_Slices_last_slice) := ⟨rfl, rfl, rfl, by decide +kernel, rfl, by decide +kernel, by decide +kernel⟩
abbrev s_Slices___init__ : Stmt := inClass (topS 8) 0
abbrev N_Slices___init__ : List Str := ["self", "great", "dates", "level", "house"]
theorem sc_Slices___init__ : FnScope N_Slices___init__ ["self", "great", "dates"] (defScope s_Slices___init__) := ⟨rfl, rfl, rfl, by decide +kernel, rfl, by decide +kernel, by decide +kernel⟩
abbrev s_Slices_under_of : Stmt := inClass (topS 8) 3
abbrev N_Slices_under_of : List Str := ["self", "house", "level", "told"]
theorem sc_Slices_under_of : FnScope N_Slices_under_of ["self", "house", "level"] (defScope s_Slices_under_of) := ⟨rfl, rfl, rfl, by decide +kernel, rfl, by decide +kernel, by decide +kernel⟩
abbrev s_Slices_beside_of : Stmt := inClass (topS 8) 4
abbrev N_Slices_beside_of : List Str := ["self", "house", "level", "at", "other", "here"]
theorem sc_Slices_beside_of : FnScope N_Slices_beside_of ["self", "house", "level"] (defScope s_Slices_beside_of) := ⟨rfl, rfl, rfl, by decide +kernel, rfl, by decide +kernel, by decide +kernel⟩
abbrev s_dated : Stmt := topS 9
abbrev N_dated : List Str := ["great", "dates", "slices", "stays", "house", "level", "name"]
theorem sc_dated : FnScope N_dated ["great", "dates"] (defScope s_dated) := ⟨rfl, rfl, rfl, by decide +kernel, rfl, by decide +kernel, by decide +kernel⟩
abbrev s__law_pot : Stmt := topS 11
abbrev N__law_pot : List Str := ["_law_script", "_law_k", "_law_cell", "_law_digits"]
theorem sc__law_pot : FnScope N__law_pot ["_law_script", "_law_k"] (defScope s__law_pot) := ⟨rfl, rfl, rfl, by decide +kernel, rfl, by decide +kernel, by decide +kernel⟩
abbrev s__law_take : Stmt := topS 12
abbrev N__law_take : List Str := ["_law_pot_here", "_law_many", "_law_digit", "_law_mixed"]
theorem sc__law_take : FnScope N__law_take ["_law_pot_here", "_law_many"] (defScope s__law_take) := ⟨rfl, rfl, rfl, by decide +kernel, rfl, by decide +kernel, by decide +kernel⟩
abbrev s__law_pick : Stmt := topS 13
abbrev N__law_pick : List Str := ["_law_pot_here", "_law_some"]
theorem sc__law_pick : FnScope N__law_pick ["_law_pot_here", "_law_some"] (defScope s__law_pick) := ⟨rfl, rfl, rfl, by decide +kernel, rfl, by decide +kernel, by decide +kernel⟩
abbrev s__law_words : Stmt := topS 14
abbrev N__law_words : List Str := ["_law_pot_here", "_law_many", "_law_letters", "_law_first", "_law_turn", "_law_stem", "_law_ends", "_law_found", "_law_k", "_law_letter"]
theorem sc__law_words : FnScope N__law_words ["_law_pot_here", "_law_many"] (defScope s__law_words) := ⟨rfl, rfl, rfl, by decide +kernel, rfl, by decide +kernel, by decide +kernel⟩
abbrev s__law_nodes : Stmt := topS 15
abbrev N__law_nodes : List Str := ["_law_tree", "_law_rows", "_law_many", "_law_row"]
theorem sc__law_nodes : FnScope N__law_nodes ["_law_tree"] (defScope s__law_nodes) := ⟨rfl, rfl, rfl, by decide +kernel, rfl, by decide +kernel, by decide +kernel⟩
abbrev s__law_dates : Stmt := topS 16
abbrev N__law_dates : List Str := ["_law_pot_here", "_law_rows", "_law_dates_here", "_law_left", "_law_date", "_law_ready", "_law_house", "_law_row"]
theorem sc__law_dates : FnScope N__law_dates ["_law_pot_here", "_law_rows"] (defScope s__law_dates) := ⟨rfl, rfl, rfl, by decide +kernel, rfl, by decide +kernel, by decide +kernel⟩
abbrev s__law_same : Stmt := topS 17
abbrev N__law_same : List Str := ["_law_found", "_law_due", "_law_one", "_law_other"]
theorem sc__law_same : FnScope N__law_same ["_law_found", "_law_due"] (defScope s__law_same) := ⟨rfl, rfl, rfl, by decide +kernel, rfl, by decide +kernel, by decide +kernel⟩
abbrev s__law_comb : Stmt := topS 18
abbrev N__law_comb : List Str := ["_law_words_here", "_law_tree", "_law_word"]
theorem sc__law_comb : FnScope N__law_comb ["_law_words_here"] (defScope s__law_comb) := ⟨rfl, rfl, rfl, by decide +kernel, rfl, by decide +kernel, by decide +kernel⟩
abbrev s__law_stays : Stmt := topS 19
abbrev N__law_stays : List Str := ["_law_words_here", "_law_many", "_law_stays_here", "_law_base", "_law_below", "_law_level", "_law_here", "_law_at", "_law_beside", "_law_name", "_law_under", "_law_one"]
theorem sc__law_stays : FnScope N__law_stays ["_law_words_here"] (defScope s__law_stays) := ⟨rfl, rfl, rfl, by decide +kernel, rfl, by decide +kernel, by decide +kernel⟩
abbrev s_law : Stmt := topS 20
abbrev N_law : List Str := ["_law_script", "_law_k", "_law_pot_here", "_law_words_here", "_law_comb_here"]
theorem sc_law : FnScope N_law ["_law_script"] (defScope s_law) := ⟨rfl, rfl, rfl, by decide +kernel, rfl, by decide +kernel, by decide +kernel⟩
/-! ### what stands behind the top -/
structure Tp (K : PySem.W.Frag) (mg : Str → Option Value) where
  a_put_nodes : Addr
  fd_put_nodes : FuncData
  F_put_nodes : Fun K "put_nodes" "put_nodes" s_put_nodes a_put_nodes fd_put_nodes
  b_put_nodes : Binds K fd_put_nodes ["tree", "found"] []
  m_put_nodes : mg "put_nodes" = some (.ref a_put_nodes)
  a_nodes : Addr
  fd_nodes : FuncData
  F_nodes : Fun K "nodes" "nodes" s_nodes a_nodes fd_nodes
  b_nodes : Binds K fd_nodes ["tree"] []
  m_nodes : mg "nodes" = some (.ref a_nodes)
  a_ahead_of : Addr
  fd_ahead_of : FuncData
  F_ahead_of : Fun K "ahead_of" "ahead_of" s_ahead_of a_ahead_of fd_ahead_of
  b_ahead_of : Binds K fd_ahead_of ["tree"] []
  m_ahead_of : mg "ahead_of" = some (.ref a_ahead_of)
  a_name_of : Addr
  fd_name_of : FuncData
  F_name_of : Fun K "name_of" "name_of" s_name_of a_name_of fd_name_of
  b_name_of : Binds K fd_name_of ["told", "house"] []
  m_name_of : mg "name_of" = some (.ref a_name_of)
  a_inner_dates : Addr
  fd_inner_dates : FuncData
  F_inner_dates : Fun K "inner_dates" "inner_dates" s_inner_dates a_inner_dates fd_inner_dates
  b_inner_dates : Binds K fd_inner_dates ["great", "dates"] []
  m_inner_dates : mg "inner_dates" = some (.ref a_inner_dates)
  a_Slices_first_slice : Addr
  fd_Slices_first_slice : FuncData
  F_Slices_first_slice : Fun K "first_slice" "Slices.first_slice" s_Slices_first_slice a_Slices_first_slice fd_Slices_first_slice
  b_Slices_first_slice : Binds K fd_Slices_first_slice ["self", "house"] []
  a_Slices_last_slice : Addr
  fd_Slices_last_slice : FuncData
  F_Slices_last_slice : Fun K "last_slice" "Slices.last_slice" s_Slices_last_slice a_Slices_last_slice fd_Slices_last_slice
  b_Slices_last_slice : Binds K fd_Slices_last_slice ["self", "house"] []
  a_Slices___init__ : Addr
  fd_Slices___init__ : FuncData
  F_Slices___init__ : Fun K "__init__" "Slices.__init__" s_Slices___init__ a_Slices___init__ fd_Slices___init__
  b_Slices___init__ : Binds K fd_Slices___init__ ["self", "great", "dates"] []
  a_Slices_under_of : Addr
  fd_Slices_under_of : FuncData
  F_Slices_under_of : Fun K "under_of" "Slices.under_of" s_Slices_under_of a_Slices_under_of fd_Slices_under_of
  b_Slices_under_of : Binds K fd_Slices_under_of ["self", "house", "level"] []
  a_Slices_beside_of : Addr
  fd_Slices_beside_of : FuncData
  F_Slices_beside_of : Fun K "beside_of" "Slices.beside_of" s_Slices_beside_of a_Slices_beside_of fd_Slices_beside_of
  b_Slices_beside_of : Binds K fd_Slices_beside_of ["self", "house", "level"] []
  a_dated : Addr
  fd_dated : FuncData
  F_dated : Fun K "dated" "dated" s_dated a_dated fd_dated
  b_dated : Binds K fd_dated ["great", "dates"] []
  m_dated : mg "dated" = some (.ref a_dated)
  a__law_pot : Addr
  fd__law_pot : FuncData
  F__law_pot : Fun K "_law_pot" "_law_pot" s__law_pot a__law_pot fd__law_pot
  b__law_pot : Binds K fd__law_pot ["_law_script", "_law_k"] []
  m__law_pot : mg "_law_pot" = some (.ref a__law_pot)
  a__law_take : Addr
  fd__law_take : FuncData
  F__law_take : Fun K "_law_take" "_law_take" s__law_take a__law_take fd__law_take
  b__law_take : Binds K fd__law_take ["_law_pot_here", "_law_many"] []
  m__law_take : mg "_law_take" = some (.ref a__law_take)
  a__law_pick : Addr
  fd__law_pick : FuncData
  F__law_pick : Fun K "_law_pick" "_law_pick" s__law_pick a__law_pick fd__law_pick
  b__law_pick : Binds K fd__law_pick ["_law_pot_here", "_law_some"] []
  m__law_pick : mg "_law_pick" = some (.ref a__law_pick)
  a__law_words : Addr
  fd__law_words : FuncData
  F__law_words : Fun K "_law_words" "_law_words" s__law_words a__law_words fd__law_words
  b__law_words : Binds K fd__law_words ["_law_pot_here", "_law_many"] []
  m__law_words : mg "_law_words" = some (.ref a__law_words)
  a__law_nodes : Addr
  fd__law_nodes : FuncData
  F__law_nodes : Fun K "_law_nodes" "_law_nodes" s__law_nodes a__law_nodes fd__law_nodes
  b__law_nodes : Binds K fd__law_nodes ["_law_tree"] []
  m__law_nodes : mg "_law_nodes" = some (.ref a__law_nodes)
  a__law_dates : Addr
  fd__law_dates : FuncData
  F__law_dates : Fun K "_law_dates" "_law_dates" s__law_dates a__law_dates fd__law_dates
  b__law_dates : Binds K fd__law_dates ["_law_pot_here", "_law_rows"] []
  m__law_dates : mg "_law_dates" = some (.ref a__law_dates)
  a__law_same : Addr
  fd__law_same : FuncData
  F__law_same : Fun K "_law_same" "_law_same" s__law_same a__law_same fd__law_same
  b__law_same : Binds K fd__law_same ["_law_found", "_law_due"] []
  m__law_same : mg "_law_same" = some (.ref a__law_same)
  a__law_comb : Addr
  fd__law_comb : FuncData
  F__law_comb : Fun K "_law_comb" "_law_comb" s__law_comb a__law_comb fd__law_comb
  b__law_comb : Binds K fd__law_comb ["_law_words_here"] []
  m__law_comb : mg "_law_comb" = some (.ref a__law_comb)
  a__law_stays : Addr
  fd__law_stays : FuncData
  F__law_stays : Fun K "_law_stays" "_law_stays" s__law_stays a__law_stays fd__law_stays
  b__law_stays : Binds K fd__law_stays ["_law_words_here"] []
  m__law_stays : mg "_law_stays" = some (.ref a__law_stays)
  a_law : Addr
  fd_law : FuncData
  F_law : Fun K "law" "law" s_law a_law fd_law
  b_law : Binds K fd_law ["_law_script"] []
  m_law : mg "law" = some (.ref a_law)
  C_Slices : Addr
  k_Slices : ClsT K "Slices" C_Slices
  mg_Slices : mg "Slices" = some (.ref C_Slices)
  mk_Slices : Mk K C_Slices a_Slices___init__
  me_Slices_first_slice : Meth K C_Slices "first_slice" a_Slices_first_slice
  me_Slices_last_slice : Meth K C_Slices "last_slice" a_Slices_last_slice
  me_Slices_under_of : Meth K C_Slices "under_of" a_Slices_under_of
  me_Slices_beside_of : Meth K C_Slices "beside_of" a_Slices_beside_of
  na_Slices_aheads : NoAttr K C_Slices "aheads"
  na_Slices_dates : NoAttr K C_Slices "dates"
  na_Slices_floors : NoAttr K C_Slices "floors"
  na_Slices_places : NoAttr K C_Slices "places"
  na_Slices_rows : NoAttr K C_Slices "rows"
  z_abs : mg "abs" = none
  z_all : mg "all" = none
  z_bool : mg "bool" = none
  z_enumerate : mg "enumerate" = none
  z_int : mg "int" = none
  z_isinstance : mg "isinstance" = none
  z_len : mg "len" = none
  z_list : mg "list" = none
  z_max : mg "max" = none
  z_min : mg "min" = none
  z_range : mg "range" = none
  z_sorted : mg "sorted" = none
  z_str : mg "str" = none
  z_tuple : mg "tuple" = none
  z_zip : mg "zip" = none
/-! ### walks -/
section
variable {P : Program} {w : World} {K : PySem.W.Frag} {mg : Str → Option Value} {base : Heap}
theorem w_put_nodes (T : Tp K mg) : ∀ k : Nat, FnOk P w K mg base CX0 (k + 0) T.a_put_nodes T.fd_put_nodes ["tree", "found"] (spM K 2 (R_put_nodes k))
  | 0 => FnOk.none rfl
  | k + 1 => by
    have ih := w_put_nodes T k
    rw [show k + 1 + 0 = (k + 0) + 1 by omega]
    exact okMV (N := N_put_nodes) T.F_put_nodes sc_put_nodes rfl fun cdv A outer s H E hr =>
  (psm_cons (psm_if (ptm_val (pm_callB cam_isi rfl T.z_isinstance bb_isinstance (pam_cons (pm_var 0) (pam_cons (pm_ty rfl T.z_tuple bb_tuple) pam_nil)))) (psm_cons (psm_set 2 sc_put_nodes.nd rfl (Or.inl rfl) (pm_call ih hr rfl T.m_put_nodes T.F_put_nodes.kp T.b_put_nodes pass0 (fun _ => rfl) (pam_cons (pm_ix (pm_var 0) pm_int) (pam_cons (pm_var 1) pam_nil)) (hA := (an_cons (an_cons an_nil)))))
  (psm_one (psm_expr (pm_bm PySem.F.plainAttrs_list PySem.F.slot_list_append PySem.F.type_list_append mtm_append (pm_var 1) (pam_cons (pm_tup (pam_cons (pm_var 2) (pam_cons (pm_call ih hr rfl T.m_put_nodes T.F_put_nodes.kp T.b_put_nodes pass0 (fun _ => rfl) (pam_cons (pm_ix (pm_var 0) pm_int) (pam_cons (pm_var 1) pam_nil)) (hA := (an_cons (an_cons an_nil)))) pam_nil))) pam_nil))))) (psm_one (psm_expr (pm_bm PySem.F.plainAttrs_list PySem.F.slot_list_append PySem.F.type_list_append mtm_append (pm_var 1) (pam_cons (pm_var 0) pam_nil)))))
  (psm_one (psm_ret (pm_bin opm_sub (pm_callB cam_len rfl T.z_len bb_len (pam_cons (pm_var 1) pam_nil)) pm_int))))
theorem w_nodes (T : Tp K mg) : FnOk P w K mg base CX0 71 T.a_nodes T.fd_nodes ["tree"] (spM K 1 M_nodes) :=
  okMV (N := N_nodes) T.F_nodes sc_nodes rfl fun cdv A outer s H E hr =>
  (psm_cons (psm_set 1 sc_nodes.nd rfl (Or.inl rfl) (pm_lst pam_nil))
  (psm_cons (psm_expr (pm_call (w_put_nodes (base := base) T 70) (hr.mono (by omega)) rfl T.m_put_nodes T.F_put_nodes.kp T.b_put_nodes pass0 (fun _ => rfl) (pam_cons (pm_var 0) (pam_cons (pm_var 1) pam_nil)) (hA := (an_cons (an_cons an_nil)))))
  (psm_one (psm_ret (pm_callTy cam_tuple rfl T.z_tuple bb_tuple (pam_cons (pm_var 1) pam_nil))))))
theorem w_ahead_of (T : Tp K mg) : FnOk P w K mg base CX0 72 T.a_ahead_of T.fd_ahead_of ["tree"] (spM K 1 M_ahead_of) :=
  okMV (N := N_ahead_of) T.F_ahead_of sc_ahead_of rfl fun cdv A outer s H E hr =>
  (psm_cons (psm_set 1 sc_ahead_of.nd rfl (Or.inl rfl) (pm_call (w_nodes (base := base) T) (hr.mono (by omega)) rfl T.m_nodes T.F_nodes.kp T.b_nodes pass0 (fun _ => rfl) (pam_cons (pm_var 0) pam_nil) (hA := (an_cons an_nil))))
  (psm_cons (psm_set 2 sc_ahead_of.nd rfl (Or.inl rfl) (pm_bin opm_mul (pm_lstV (pam_cons pm_non pam_nil)) (pm_callB cam_len rfl T.z_len bb_len (pam_cons (pm_var 1) pam_nil))))
  (psm_cons (psm_for PassesOwn.never rfl (pim_enum rfl T.z_enumerate (pam_cons (pm_var 1) pam_nil)) (pgm_tup rfl (pgms_cons (pgm_name 3 sc_ahead_of.nd rfl (Or.inl rfl)) (pgms_cons (pgm_name 4 sc_ahead_of.nd rfl (Or.inl rfl)) pgms_nil))) (psm_one (psm_if (ptm_val (pm_callB cam_isi rfl T.z_isinstance bb_isinstance (pam_cons (pm_var 4) (pam_cons (pm_ty rfl T.z_tuple bb_tuple) pam_nil)))) (psm_cons (psm_setIx (pm_var 3) (pm_var 2) (pm_ix (pm_var 4) pm_int))
  (psm_one (psm_setIx (pm_var 3) (pm_var 2) (pm_ix (pm_var 4) pm_int)))) psm_nil)))
  (psm_one (psm_ret (pm_callTy cam_tuple rfl T.z_tuple bb_tuple (pam_cons (pm_var 2) pam_nil)))))))
theorem w_name_of (T : Tp K mg) : FnOk P w K mg base CX0 1 T.a_name_of T.fd_name_of ["told", "house"] (spM K 2 M_name_of) :=
  okMV (N := N_name_of) T.F_name_of sc_name_of rfl fun cdv A outer s H E hr =>
  (psm_cons (psm_if (ptm_val (pm_callB cam_isi rfl T.z_isinstance bb_isinstance (pam_cons (pm_var 0) (pam_cons (pm_ty rfl T.z_str bb_str) pam_nil)))) (psm_one (psm_ret (pm_var 0))) psm_nil)
  (psm_one (psm_ret (pm_var 1))))
theorem w_inner_dates (T : Tp K mg) : FnOk P w K mg base CX0 72 T.a_inner_dates T.fd_inner_dates ["great", "dates"] (spM K 2 M_inner_dates) :=
  okMV (N := N_inner_dates) T.F_inner_dates sc_inner_dates rfl fun cdv A outer s H E hr =>
  (psm_one (psm_ret (pm_pop (pm_lc (own := [("told", 2), ("date", 3)]) rfl sc_inner_dates.nd (pim_zip rfl T.z_zip (pam_cons (pm_call (w_nodes (base := base) T) (hr.mono (by omega)) rfl T.m_nodes T.F_nodes.kp T.b_nodes pass0 (fun _ => rfl) (pam_cons (pm_var 0) pam_nil) (hA := (an_cons an_nil))) (pam_cons (pm_var 1) pam_nil))) (blkOk_by (N := N_inner_dates) (sc := (defScope s_inner_dates)) (by decide +kernel)) (fun _ _ _ _ _ => (pgm_tup rfl (pgms_cons (pgm_name 2 sc_inner_dates.nd rfl (Or.inl rfl)) (pgms_cons (pgm_name 3 sc_inner_dates.nd rfl (Or.inl rfl)) pgms_nil)))) (fun _ _ _ _ _ => (ptsm_one (ptm_not (ptm_val (pm_callB cam_isi rfl T.z_isinstance bb_isinstance (pam_cons (pm_var 2) (pam_cons (pm_ty rfl T.z_str bb_str) pam_nil))))))) (fun _ _ _ _ _ => (pm_var 3))))))
theorem w_Slices_first_slice (T : Tp K mg) : FnOk P w K mg base CX0 1 T.a_Slices_first_slice T.fd_Slices_first_slice ["self", "house"] (spM K 2 M_Slices_first_slice) :=
  okMV (N := N_Slices_first_slice) T.F_Slices_first_slice sc_Slices_first_slice rfl fun cdv A outer s H E hr =>
  (psm_one (psm_ret (pm_bm PySem.F.plainAttrs_list PySem.F.slot_list_index PySem.F.type_list_index (mtm_index hr.units65) (pm_fld T.k_Slices T.na_Slices_floors (pm_var 0)) (pam_cons (pm_ix (pm_fld T.k_Slices T.na_Slices_dates (pm_var 0)) (pm_var 1)) pam_nil))))
theorem w_Slices_last_slice (T : Tp K mg) : FnOk P w K mg base CX0 1 T.a_Slices_last_slice T.fd_Slices_last_slice ["self", "house"] (spM K 2 M_Slices_last_slice) :=
  okMV (N := N_Slices_last_slice) T.F_Slices_last_slice sc_Slices_last_slice rfl fun cdv A outer s H E hr =>
  (psm_cons (psm_if (ptm_cmp opm_is (pm_ix (pm_fld T.k_Slices T.na_Slices_aheads (pm_var 0)) (pm_var 1)) pm_non) (psm_one (psm_ret (pm_bin opm_sub (pm_callB cam_len rfl T.z_len bb_len (pam_cons (pm_fld T.k_Slices T.na_Slices_floors (pm_var 0)) pam_nil)) pm_int))) psm_nil)
  (psm_one (psm_ret (pm_bin opm_sub (pm_bm PySem.F.plainAttrs_list PySem.F.slot_list_index PySem.F.type_list_index (mtm_index hr.units65) (pm_fld T.k_Slices T.na_Slices_floors (pm_var 0)) (pam_cons (pm_ix (pm_fld T.k_Slices T.na_Slices_dates (pm_var 0)) (pm_ix (pm_fld T.k_Slices T.na_Slices_aheads (pm_var 0)) (pm_var 1))) pam_nil)) pm_int))))
theorem w_Slices___init__ (T : Tp K mg) : FnOk P w K mg base CX0 73 T.a_Slices___init__ T.fd_Slices___init__ ["self", "great", "dates"] (spM K 3 M_Slices___init__) :=
  okM (N := N_Slices___init__) T.F_Slices___init__ sc_Slices___init__ rfl fun cdv A outer s H E hr =>
  (psm_cons (psm_fld T.k_Slices T.na_Slices_rows (pm_var 0) (pm_call (w_nodes (base := base) T) (hr.mono (by omega)) rfl T.m_nodes T.F_nodes.kp T.b_nodes pass0 (fun _ => rfl) (pam_cons (pm_var 1) pam_nil) (hA := (an_cons an_nil))))
  (psm_cons (psm_fld T.k_Slices T.na_Slices_aheads (pm_var 0) (pm_call (w_ahead_of (base := base) T) (hr.mono (by omega)) rfl T.m_ahead_of T.F_ahead_of.kp T.b_ahead_of pass0 (fun _ => rfl) (pam_cons (pm_var 1) pam_nil) (hA := (an_cons an_nil))))
  (psm_cons (psm_fld T.k_Slices T.na_Slices_dates (pm_var 0) (pm_var 2))
  (psm_cons (psm_fld T.k_Slices T.na_Slices_floors (pm_var 0) (pm_pop (pm_bin opm_add (pm_lstV (pam_cons pm_int pam_nil)) (pm_pop (pm_callB cam_sorted rfl T.z_sorted bb_sorted (pam_cons (pm_call (w_inner_dates (base := base) T) (hr.mono (by omega)) rfl T.m_inner_dates T.F_inner_dates.kp T.b_inner_dates pass0 (fun _ => rfl) (pam_cons (pm_var 1) (pam_cons (pm_var 2) pam_nil)) (hA := (an_cons (an_cons an_nil)))) pam_nil))))))
  (psm_cons (psm_fld T.k_Slices T.na_Slices_places (pm_var 0) pm_dctT0)
  (psm_one (psm_for PassesOwn.never rfl (pim_range1 rfl T.z_range (pam_cons (pm_callB cam_len rfl T.z_len bb_len (pam_cons (pm_fld T.k_Slices T.na_Slices_floors (pm_var 0)) pam_nil)) pam_nil)) (pgm_name 3 sc_Slices___init__.nd rfl (Or.inl rfl)) (psm_one (psm_for PassesOwn.never rfl (pim_range1 rfl T.z_range (pam_cons (pm_callB cam_len rfl T.z_len bb_len (pam_cons (pm_fld T.k_Slices T.na_Slices_rows (pm_var 0)) pam_nil)) pam_nil)) (pgm_name 4 sc_Slices___init__.nd rfl (Or.inl rfl)) (psm_one (psm_if (ptm_chain opm_le opm_le (pm_meth T.k_Slices T.me_Slices_first_slice (w_Slices_first_slice (base := base) T) (hr.mono (by omega)) T.b_Slices_first_slice pass0 (fun _ => rfl) (pm_var 0) (pam_cons (pm_var 4) pam_nil) (hA := (an_cons an_nil))) (pm_var 3) (pm_meth T.k_Slices T.me_Slices_last_slice (w_Slices_last_slice (base := base) T) (hr.mono (by omega)) T.b_Slices_last_slice pass0 (fun _ => rfl) (pm_var 0) (pam_cons (pm_var 4) pam_nil) (hA := (an_cons an_nil)))) (psm_one (psm_setT hr.units65 (pm_callB cam_lenT rfl T.z_len bb_len (pam_cons (pm_fld T.k_Slices T.na_Slices_places (pm_var 0)) pam_nil)) (pm_fld T.k_Slices T.na_Slices_places (pm_var 0)) (pm_tup (pam_cons (pm_var 4) (pam_cons (pm_var 3) pam_nil))))) psm_nil)))))))))))
theorem w_Slices_under_of (T : Tp K mg) : FnOk P w K mg base CX0 2 T.a_Slices_under_of T.fd_Slices_under_of ["self", "house", "level"] (spM K 3 M_Slices_under_of) :=
  okMV (N := N_Slices_under_of) T.F_Slices_under_of sc_Slices_under_of rfl fun cdv A outer s H E hr =>
  (psm_cons (psm_set 3 sc_Slices_under_of.nd rfl (Or.inl rfl) (pm_ix (pm_fld T.k_Slices T.na_Slices_rows (pm_var 0)) (pm_var 1)))
  (psm_cons (psm_if (ptm_cmp opm_lt (pm_meth T.k_Slices T.me_Slices_first_slice (w_Slices_first_slice (base := base) T) (hr.mono (by omega)) T.b_Slices_first_slice pass0 (fun _ => rfl) (pm_var 0) (pam_cons (pm_var 1) pam_nil) (hA := (an_cons an_nil))) (pm_var 2)) (psm_one (psm_ret (pm_tup (pam_cons (pm_ixT hr.units65 (pm_fld T.k_Slices T.na_Slices_places (pm_var 0)) (pm_tup (pam_cons (pm_var 1) (pam_cons (pm_bin opm_sub (pm_var 2) pm_int) pam_nil)))) pam_nil)))) psm_nil)
  (psm_cons (psm_if (ptm_val (pm_callB cam_isi rfl T.z_isinstance bb_isinstance (pam_cons (pm_var 3) (pam_cons (pm_ty rfl T.z_str bb_str) pam_nil)))) (psm_one (psm_ret (pm_tup pam_nil))) psm_nil)
  (psm_one (psm_ret (pm_tup (pam_cons (pm_ixT hr.units65 (pm_fld T.k_Slices T.na_Slices_places (pm_var 0)) (pm_tup (pam_cons (pm_ix (pm_var 3) pm_int) (pam_cons (pm_bin opm_sub (pm_var 2) pm_int) pam_nil)))) (pam_cons (pm_ixT hr.units65 (pm_fld T.k_Slices T.na_Slices_places (pm_var 0)) (pm_tup (pam_cons (pm_ix (pm_var 3) pm_int) (pam_cons (pm_bin opm_sub (pm_var 2) pm_int) pam_nil)))) pam_nil))))))))
theorem w_Slices_beside_of (T : Tp K mg) : FnOk P w K mg base CX0 1 T.a_Slices_beside_of T.fd_Slices_beside_of ["self", "house", "level"] (spM K 3 M_Slices_beside_of) :=
  okMV (N := N_Slices_beside_of) T.F_Slices_beside_of sc_Slices_beside_of rfl fun cdv A outer s H E hr =>
  (psm_one (psm_ret (pm_callTy cam_tuple rfl T.z_tuple bb_tuple (pam_cons (pm_pop (pm_lock (laF "Slices" "places" (laV 0)) (pm_lc (own := [("at", 3), ("other", 4), ("here", 5)]) rfl sc_Slices_beside_of.nd (pim_itemsT (pm_fld T.k_Slices T.na_Slices_places (pm_var 0))) (blkOk_by (N := N_Slices_beside_of) (sc := (defScope s_Slices_beside_of)) (by decide +kernel)) (fun _ _ _ _ _ => (pgm_tup rfl (pgms_cons (pgm_tup rfl (pgms_cons (pgm_name 4 sc_Slices_beside_of.nd rfl (Or.inl rfl)) (pgms_cons (pgm_name 5 sc_Slices_beside_of.nd rfl (Or.inl rfl)) pgms_nil))) (pgms_cons (pgm_name 3 sc_Slices_beside_of.nd rfl (Or.inl rfl)) pgms_nil)))) (fun _ _ _ _ _ => (ptsm_one (PW.pt (pwm_and (ptm_cmp (opm_eq hr.units) (pm_var 5) (pm_var 2)) (pwm_and1 (ptm_cmp (opm_ne hr.units) (pm_var 4) (pm_var 1))))))) (fun _ _ _ _ _ => (pm_var 3))))) pam_nil))))
theorem w_dated (T : Tp K mg) : FnOk P w K mg base CX0 75 T.a_dated T.fd_dated ["great", "dates"] (spM K 2 M_dated_2) :=
  okMV (N := N_dated) T.F_dated sc_dated rfl fun cdv A outer s H E hr =>
  (psm_cons (psm_set 2 sc_dated.nd rfl (Or.inl rfl) (pm_make T.k_Slices T.mk_Slices (w_Slices___init__ (base := base) T) (hr.mono (by omega)) rfl T.mg_Slices T.b_Slices___init__ pass0 (fun _ => rfl) (pam_cons (pm_var 0) (pam_cons (pm_var 1) pam_nil)) (hA := (an_cons (an_cons an_nil)))))
  (psm_cons (psm_set 3 sc_dated.nd rfl (Or.inl rfl) (pm_lst pam_nil))
  (psm_cons (psm_lock (laF "Slices" "places" (laV 2)) (psm_for PassesOwn.never rfl (pim_keys (pm_fld T.k_Slices T.na_Slices_places (pm_var 2))) (pgm_tup rfl (pgms_cons (pgm_name 4 sc_dated.nd rfl (Or.inl rfl)) (pgms_cons (pgm_name 5 sc_dated.nd rfl (Or.inl rfl)) pgms_nil))) (psm_cons (psm_set 6 sc_dated.nd rfl (Or.inl rfl) (pm_call (w_name_of (base := base) T) (hr.mono (by omega)) rfl T.m_name_of T.F_name_of.kp T.b_name_of pass0 (fun _ => rfl) (pam_cons (pm_ix (pm_fld T.k_Slices T.na_Slices_rows (pm_var 2)) (pm_var 4)) (pam_cons (pm_var 4) pam_nil)) (hA := (an_cons (an_cons an_nil)))))
  (psm_one (psm_expr (pm_bm PySem.F.plainAttrs_list PySem.F.slot_list_append PySem.F.type_list_append mtm_append (pm_var 3) (pam_cons (pm_tup (pam_cons (pm_var 6) (pam_cons (pm_var 5) (pam_cons (pm_meth T.k_Slices T.me_Slices_under_of (w_Slices_under_of (base := base) T) (hr.mono (by omega)) T.b_Slices_under_of pass0 (fun _ => rfl) (pm_var 2) (pam_cons (pm_var 4) (pam_cons (pm_var 5) pam_nil)) (hA := (an_cons (an_cons an_nil)))) (pam_cons (pm_meth T.k_Slices T.me_Slices_beside_of (w_Slices_beside_of (base := base) T) (hr.mono (by omega)) T.b_Slices_beside_of pass0 (fun _ => rfl) (pm_var 2) (pam_cons (pm_var 4) (pam_cons (pm_var 5) pam_nil)) (hA := (an_cons (an_cons an_nil)))) pam_nil))))) pam_nil)))))))
  (psm_one (psm_ret (pm_callTy cam_tuple rfl T.z_tuple bb_tuple (pam_cons (pm_var 3) pam_nil)))))))
theorem w__law_pot (T : Tp K mg) : FnOk P w K mg base CX0 1 T.a__law_pot T.fd__law_pot ["_law_script", "_law_k"] (spM K 2 M_pot) :=
  okM (N := N__law_pot) T.F__law_pot sc__law_pot rfl fun cdv A outer s H E hr =>
  (psm_cons (psm_set 2 sc__law_pot.nd rfl (Or.inl rfl) pm_int)
  (psm_cons (psm_if (ptm_cmp opm_lt (pm_var 1) (pm_callB cam_len rfl T.z_len bb_len (pam_cons (pm_var 0) pam_nil))) (psm_one (psm_set 2 sc__law_pot.nd rfl (Or.inl rfl) (pm_callB cam_abs rfl T.z_abs bb_abs (pam_cons (pm_ix (pm_var 0) (pm_var 1)) pam_nil)))) psm_nil)
  (psm_cons (psm_set 3 sc__law_pot.nd rfl (Or.inl rfl) (pm_bin opm_mul (pm_bin opm_mod (pm_var 2) (pm_bin opm_mul (pm_bin opm_pow pm_int pm_int) (pm_bin opm_pow pm_int pm_int))) (pm_callTy cam_int rfl T.z_int bb_int (pam_cons (pm_cmp opm_ge (pm_var 2) (pm_bin opm_pow pm_int pm_int)) pam_nil))))
  (psm_one (psm_ret (pm_lst (pam_cons (pm_var 3) (pam_cons (pm_bin opm_mod (pm_bin opm_add (pm_bin opm_add (pm_var 2) (pm_bin opm_mul pm_int (pm_var 1))) pm_int) pm_int) (pam_cons pm_int pam_nil)))))))))
theorem w__law_take (T : Tp K mg) : FnOk P w K mg base CX0 1 T.a__law_take T.fd__law_take ["_law_pot_here", "_law_many"] (spM K 2 M_take_2) :=
  okMV (N := N__law_take) T.F__law_take sc__law_take rfl fun cdv A outer s H E hr =>
  (psm_cons (psm_if (ptm_cmp opm_gt (pm_ix (pm_var 0) pm_int) pm_int) (psm_cons (psm_set 2 sc__law_take.nd rfl (Or.inl rfl) (pm_bin opm_mod (pm_ix (pm_var 0) pm_int) (pm_var 1)))
  (psm_cons (psm_setIx (pm_bin opm_fdiv (pm_ix (pm_var 0) pm_int) (pm_var 1)) (pm_var 0) pm_int)
  (psm_one (psm_ret (pm_var 2))))) psm_nil)
  (psm_cons (psm_augIx hr.units65 (pm_var 0) pm_int pm_int ipm_add)
  (psm_cons (psm_set 3 sc__law_take.nd rfl (Or.inl rfl) (pm_bin opm_mod (pm_bin opm_add (pm_bin opm_add (pm_bin opm_mul (pm_ix (pm_var 0) pm_int) pm_int) (pm_bin opm_mul pm_int (pm_ix (pm_var 0) pm_int))) pm_int) pm_int))
  (psm_cons (psm_setIx (pm_bin opm_mod (pm_bin opm_mul (pm_var 3) (pm_bin opm_add (pm_bin opm_add (pm_bin opm_mod (pm_var 3) pm_int) (pm_bin opm_mul pm_int (pm_ix (pm_var 0) pm_int))) pm_int)) pm_int) (pm_var 0) pm_int)
  (psm_one (psm_ret (pm_bin opm_mod (pm_bin opm_fdiv (pm_ix (pm_var 0) pm_int) pm_int) (pm_var 1))))))))
theorem w__law_pick (T : Tp K mg) : FnOk P w K mg base CX0 2 T.a__law_pick T.fd__law_pick ["_law_pot_here", "_law_some"] (spM K 2 M_pick) :=
  okMV (N := N__law_pick) T.F__law_pick sc__law_pick rfl fun cdv A outer s H E hr =>
  (psm_one (psm_ret (pm_ix (pm_var 1) (pm_call (w__law_take (base := base) T) (hr.mono (by omega)) rfl T.m__law_take T.F__law_take.kp T.b__law_take pass0 (fun _ => rfl) (pam_cons (pm_var 0) (pam_cons (pm_callB cam_len rfl T.z_len bb_len (pam_cons (pm_var 1) pam_nil)) pam_nil)) (hA := (an_cons (an_cons an_nil)))))))
theorem w__law_words (T : Tp K mg) : FnOk P w K mg base CX0 2 T.a__law_words T.fd__law_words ["_law_pot_here", "_law_many"] (spM K 2 M_words_2) :=
  okMV (N := N__law_words) T.F__law_words sc__law_words rfl fun cdv A outer s H E hr =>
  (psm_cons (psm_set 2 sc__law_words.nd rfl (Or.inl rfl) pm_str)
  (psm_cons (psm_set 3 sc__law_words.nd rfl (Or.inl rfl) (pm_call (w__law_take (base := base) T) (hr.mono (by omega)) rfl T.m__law_take T.F__law_take.kp T.b__law_take pass0 (fun _ => rfl) (pam_cons (pm_var 0) (pam_cons pm_int pam_nil)) (hA := (an_cons (an_cons an_nil)))))
  (psm_cons (psm_set 4 sc__law_words.nd rfl (Or.inl rfl) (pm_ix (pm_lstV (pam_cons pm_int (pam_cons pm_int (pam_cons pm_int (pam_cons pm_int (pam_cons pm_int (pam_cons pm_int pam_nil))))))) (pm_call (w__law_take (base := base) T) (hr.mono (by omega)) rfl T.m__law_take T.F__law_take.kp T.b__law_take pass0 (fun _ => rfl) (pam_cons (pm_var 0) (pam_cons pm_int pam_nil)) (hA := (an_cons (an_cons an_nil))))))
  (psm_cons (psm_set 5 sc__law_words.nd rfl (Or.inl rfl) (pm_ix (pm_lstV (pam_cons pm_str (pam_cons pm_str pam_nil))) (pm_call (w__law_take (base := base) T) (hr.mono (by omega)) rfl T.m__law_take T.F__law_take.kp T.b__law_take pass0 (fun _ => rfl) (pam_cons (pm_var 0) (pam_cons pm_int pam_nil)) (hA := (an_cons (an_cons an_nil))))))
  (psm_cons (psm_set 6 sc__law_words.nd rfl (Or.inl rfl) (pm_lstV (pam_cons pm_str (pam_cons pm_str (pam_cons pm_str (pam_cons pm_str pam_nil))))))
  (psm_cons (psm_set 7 sc__law_words.nd rfl (Or.inl rfl) (pm_lst pam_nil))
  (psm_cons (psm_for PassesOwn.never rfl (pim_range1 rfl T.z_range (pam_cons (pm_var 1) pam_nil)) (pgm_name 8 sc__law_words.nd rfl (Or.inl rfl)) (psm_cons (psm_set 9 sc__law_words.nd rfl (Or.inl rfl) (pm_ix (pm_var 2) (pm_bin opm_mod (pm_bin opm_add (pm_var 3) (pm_bin opm_mul (pm_var 4) (pm_var 8))) pm_int)))
  (psm_one (psm_expr (pm_bm PySem.F.plainAttrs_list PySem.F.slot_list_append PySem.F.type_list_append mtm_append (pm_var 7) (pam_cons (pm_bin opm_add (pm_bin opm_add (pm_var 5) (pm_var 9)) (pm_ix (pm_var 6) (pm_bin opm_mod (pm_bin opm_add (pm_var 3) (pm_var 8)) pm_int))) pam_nil))))))
  (psm_one (psm_ret (pm_var 7))))))))))
theorem w__law_nodes (T : Tp K mg) : ∀ k : Nat, FnOk P w K mg base CX0 (k + 0) T.a__law_nodes T.fd__law_nodes ["_law_tree"] (spM K 1 (R_nodes_3 k))
  | 0 => FnOk.none rfl
  | k + 1 => by
    have ih := w__law_nodes T k
    rw [show k + 1 + 0 = (k + 0) + 1 by omega]
    exact okM (N := N__law_nodes) T.F__law_nodes sc__law_nodes rfl fun cdv A outer s H E hr =>
  (psm_cons (psm_if (ptm_val (pm_callB cam_isi rfl T.z_isinstance bb_isinstance (pam_cons (pm_var 0) (pam_cons (pm_ty rfl T.z_str bb_str) pam_nil)))) (psm_one (psm_ret (pm_lst (pam_cons (pm_var 0) pam_nil)))) psm_nil)
  (psm_cons (psm_set 1 sc__law_nodes.nd rfl (Or.inl rfl) (pm_call ih hr rfl T.m__law_nodes T.F__law_nodes.kp T.b__law_nodes pass0 (fun _ => rfl) (pam_cons (pm_ix (pm_var 0) pm_int) pam_nil) (hA := (an_cons an_nil))))
  (psm_cons (psm_set 2 sc__law_nodes.nd rfl (Or.inl rfl) (pm_callB cam_len rfl T.z_len bb_len (pam_cons (pm_var 1) pam_nil)))
  (psm_cons (psm_for PassesOwn.never rfl (pim_any (pm_call ih hr rfl T.m__law_nodes T.F__law_nodes.kp T.b__law_nodes pass0 (fun _ => rfl) (pam_cons (pm_ix (pm_var 0) pm_int) pam_nil) (hA := (an_cons an_nil)))) (pgm_name 3 sc__law_nodes.nd rfl (Or.inl rfl)) (psm_one (psm_expr (pm_bm PySem.F.plainAttrs_list PySem.F.slot_list_append PySem.F.type_list_append mtm_append (pm_var 1) (pam_cons (pm_ifExp (ptm_val (pm_callB cam_isi rfl T.z_isinstance bb_isinstance (pam_cons (pm_var 3) (pam_cons (pm_ty rfl T.z_str bb_str) pam_nil)))) (pm_var 3) (pm_tup (pam_cons (pm_bin opm_add (pm_ix (pm_var 3) pm_int) (pm_var 2)) (pam_cons (pm_bin opm_add (pm_ix (pm_var 3) pm_int) (pm_var 2)) pam_nil)))) pam_nil)))))
  (psm_one (psm_ret (pm_bin opm_add (pm_var 1) (pm_lstV (pam_cons (pm_tup (pam_cons (pm_bin opm_sub (pm_var 2) pm_int) (pam_cons (pm_bin opm_sub (pm_callB cam_len rfl T.z_len bb_len (pam_cons (pm_var 1) pam_nil)) pm_int) pam_nil))) pam_nil)))))))))
theorem w__law_dates (T : Tp K mg) : FnOk P w K mg base CX0 3 T.a__law_dates T.fd__law_dates ["_law_pot_here", "_law_rows"] (spM K 2 M_dates) :=
  okMV (N := N__law_dates) T.F__law_dates sc__law_dates rfl fun cdv A outer s H E hr =>
  (psm_cons (psm_set 2 sc__law_dates.nd rfl (Or.inl rfl) (pm_bin opm_mul (pm_lstV (pam_cons pm_int pam_nil)) (pm_callB cam_len rfl T.z_len bb_len (pam_cons (pm_var 1) pam_nil))))
  (psm_cons (psm_set 3 sc__law_dates.nd rfl (Or.inr rfl) (pm_lc (own := [("_law_house", 6), ("_law_row", 7)]) rfl sc__law_dates.nd (pim_enum rfl T.z_enumerate (pam_cons (pm_var 1) pam_nil)) (blkOk_by (N := N__law_dates) (sc := (defScope s__law_dates)) (by decide +kernel)) (fun _ _ _ _ _ => (pgm_tup rfl (pgms_cons (pgm_name 6 sc__law_dates.nd rfl (Or.inl rfl)) (pgms_cons (pgm_name 7 sc__law_dates.nd rfl (Or.inl rfl)) pgms_nil)))) (fun _ _ _ _ _ => (ptsm_one (ptm_not (ptm_val (pm_callB cam_isi rfl T.z_isinstance bb_isinstance (pam_cons (pm_var 7) (pam_cons (pm_ty rfl T.z_str bb_str) pam_nil))))))) (fun _ _ _ _ _ => (pm_var 6))))
  (psm_cons (psm_set 4 sc__law_dates.nd rfl (Or.inl rfl) pm_int)
  (psm_cons (psm_while PassesOwn.never (ptm_cmp (opm_ne hr.units) (pm_var 3) (pm_lstV pam_nil)) (psm_cons (psm_pop (psm_setLc 5 (own := [("_law_house", 6)]) rfl sc__law_dates.nd rfl rfl (sw_true rfl rfl rfl (by decide +kernel)) (pim_any (pm_var 3)) (blkOk_by (N := N__law_dates) (sc := (defScope s__law_dates)) (by decide +kernel)) (fun _ _ _ _ _ => (pgm_name 6 sc__law_dates.nd rfl (Or.inl rfl))) (fun _ _ _ _ _ => (ptsm_one (PW.pt (pwm_and (ptm_cmp (opm_notIn hr.units65) (pm_ix (pm_ix (pm_var 1) (pm_var 6)) pm_int) (pm_var 3) (by rfl)) (pwm_and1 (ptm_cmp (opm_notIn hr.units65) (pm_ix (pm_ix (pm_var 1) (pm_var 6)) pm_int) (pm_var 3) (by rfl))))))) (fun _ _ _ _ _ => (pm_var 6))))
  (psm_cons (psm_set 6 sc__law_dates.nd rfl (Or.inl rfl) (pm_call (w__law_pick (base := base) T) (hr.mono (by omega)) rfl T.m__law_pick T.F__law_pick.kp T.b__law_pick pass0 (fun _ => rfl) (pam_cons (pm_var 0) (pam_cons (pm_var 5) pam_nil)) (hA := (an_cons (an_cons an_nil)))))
  (psm_cons (psm_set 4 sc__law_dates.nd rfl (Or.inl rfl) (pm_bin opm_add (pm_bin opm_add (pm_var 4) pm_int) (pm_call (w__law_take (base := base) T) (hr.mono (by omega)) rfl T.m__law_take T.F__law_take.kp T.b__law_take pass0 (fun _ => rfl) (pam_cons (pm_var 0) (pam_cons (pm_ix (pm_lstV (pam_cons pm_int (pam_cons pm_int (pam_cons pm_int pam_nil)))) (pm_call (w__law_take (base := base) T) (hr.mono (by omega)) rfl T.m__law_take T.F__law_take.kp T.b__law_take pass0 (fun _ => rfl) (pam_cons (pm_var 0) (pam_cons pm_int pam_nil)) (hA := (an_cons (an_cons an_nil))))) pam_nil)) (hA := (an_cons (an_cons an_nil))))))
  (psm_cons (psm_setIx (pm_var 4) (pm_var 2) (pm_var 6))
  (psm_one (psm_expr (pm_bm PySem.F.plainAttrs_list PySem.F.slot_list_remove PySem.F.type_list_remove mtm_remove (pm_var 3) (pam_cons (pm_var 6) pam_nil)))))))))
  (psm_one (psm_ret (pm_callTy cam_tuple rfl T.z_tuple bb_tuple (pam_cons (pm_var 2) pam_nil))))))))
theorem w__law_same (T : Tp K mg) : ∀ k : Nat, FnOk P w K mg base CX0 (k + 0) T.a__law_same T.fd__law_same ["_law_found", "_law_due"] (spM K 2 (R_same_2 k))
  | 0 => FnOk.none rfl
  | k + 1 => by
    have ih := w__law_same T k
    rw [show k + 1 + 0 = (k + 0) + 1 by omega]
    exact okMV (N := N__law_same) T.F__law_same sc__law_same rfl fun cdv A outer s H E hr =>
  (psm_cons (psm_if (ptm_val (pm_callB cam_isi rfl T.z_isinstance bb_isinstance (pam_cons (pm_var 1) (pam_cons (pm_ty rfl T.z_tuple bb_tuple) pam_nil)))) (psm_cons (psm_if (PW.pt (pwm_or (ptm_not (ptm_val (pm_callB cam_isi rfl T.z_isinstance bb_isinstance (pam_cons (pm_var 0) (pam_cons (pm_ty rfl T.z_tuple bb_tuple) pam_nil))))) (pwm_or1 (ptm_cmp (opm_ne hr.units) (pm_callB cam_len rfl T.z_len bb_len (pam_cons (pm_var 0) pam_nil)) (pm_callB cam_len rfl T.z_len bb_len (pam_cons (pm_var 1) pam_nil)))))) (psm_one (psm_ret pm_bl)) psm_nil)
  (psm_one (psm_ret (pm_callB (cam_all rfl) rfl T.z_all bb_all (pam_cons (pm_pop (pm_lc (own := [("_law_one", 2), ("_law_other", 3)]) rfl sc__law_same.nd (pim_zip rfl T.z_zip (pam_cons (pm_var 0) (pam_cons (pm_var 1) pam_nil))) (blkOk_by (N := N__law_same) (sc := (defScope s__law_same)) (by decide +kernel)) (fun _ _ _ _ _ => (pgm_tup rfl (pgms_cons (pgm_name 2 sc__law_same.nd rfl (Or.inl rfl)) (pgms_cons (pgm_name 3 sc__law_same.nd rfl (Or.inl rfl)) pgms_nil)))) (fun _ _ _ _ _ => ptsm_nil) (fun _ _ _ _ _ => (pm_call ih hr rfl T.m__law_same T.F__law_same.kp T.b__law_same pass0 (fun _ => rfl) (pam_cons (pm_var 2) (pam_cons (pm_var 3) pam_nil)) (hA := (an_cons (an_cons an_nil))))))) pam_nil))))) psm_nil)
  (psm_cons (psm_if (PW.pt (pwm_or (ptm_val (pm_callB cam_isi rfl T.z_isinstance bb_isinstance (pam_cons (pm_var 1) (pam_cons (pm_ty rfl T.z_str bb_str) pam_nil)))) (pwm_or1 (ptm_cmp opm_is (pm_var 1) pm_non)))) (psm_one (psm_ret (pm_and (pm_cmp (opm_eq hr.units) (pm_callB cam_isi rfl T.z_isinstance bb_isinstance (pam_cons (pm_var 0) (pam_cons (pm_ty rfl T.z_str bb_str) pam_nil))) (pm_callB cam_isi rfl T.z_isinstance bb_isinstance (pam_cons (pm_var 1) (pam_cons (pm_ty rfl T.z_str bb_str) pam_nil)))) (pm_one (pm_cmp (opm_eq hr.units) (pm_var 0) (pm_var 1)))))) psm_nil)
  (psm_one (psm_ret (pm_and (pm_callB cam_isi rfl T.z_isinstance bb_isinstance (pam_cons (pm_var 0) (pam_cons (pm_ty rfl T.z_int bb_int) pam_nil))) (pm_and (pm_not (pm_callB cam_isi rfl T.z_isinstance bb_isinstance (pam_cons (pm_var 0) (pam_cons (pm_ty rfl T.z_bool bb_bool) pam_nil)))) (pm_one (pm_cmp (opm_eq hr.units) (pm_var 0) (pm_var 1)))))))))
theorem w__law_comb (T : Tp K mg) : FnOk P w K mg base CX0 1 T.a__law_comb T.fd__law_comb ["_law_words_here"] (spM K 1 M_first_comb) :=
  okMV (N := N__law_comb) T.F__law_comb sc__law_comb rfl fun cdv A outer s H E hr =>
  (psm_cons (psm_set 1 sc__law_comb.nd rfl (Or.inl rfl) (pm_ix (pm_var 0) pm_int))
  (psm_cons (psm_for PassesOwn.never rfl (pim_any (pm_pop (pm_slice (pm_var 0) (pom_some pm_int) pom_none))) (pgm_name 2 sc__law_comb.nd rfl (Or.inl rfl)) (psm_one (psm_set 1 sc__law_comb.nd rfl (Or.inl rfl) (pm_tup (pam_cons (pm_var 1) (pam_cons (pm_var 2) pam_nil))))))
  (psm_one (psm_ret (pm_var 1)))))
theorem w__law_stays (T : Tp K mg) : FnOk P w K mg base CX0 1 T.a__law_stays T.fd__law_stays ["_law_words_here"] (spM K 1 M_stays) :=
  okMV (N := N__law_stays) T.F__law_stays sc__law_stays rfl fun cdv A outer s H E hr =>
  (psm_cons (psm_set 1 sc__law_stays.nd rfl (Or.inl rfl) (pm_callB cam_len rfl T.z_len bb_len (pam_cons (pm_var 0) pam_nil)))
  (psm_cons (psm_set 2 sc__law_stays.nd rfl (Or.inl rfl) (pm_lst pam_nil))
  (psm_cons (psm_asg (pm_tup (pam_cons pm_int (pam_cons pm_int pam_nil))) (pgm_tup rfl (pgms_cons (pgm_name 3 sc__law_stays.nd rfl (Or.inl rfl)) (pgms_cons (pgm_name 4 sc__law_stays.nd rfl (Or.inl rfl)) pgms_nil))))
  (psm_cons (psm_for PassesOwn.never rfl (pim_range1 rfl T.z_range (pam_cons (pm_var 1) pam_nil)) (pgm_name 5 sc__law_stays.nd rfl (Or.inl rfl)) (psm_cons (psm_set 6 sc__law_stays.nd rfl (Or.inl rfl) (pm_pop (pm_lstRg2 rfl rfl T.z_list rfl T.z_range (pm_var 3) (pm_bin opm_sub (pm_bin opm_add (pm_var 3) (pm_var 1)) (pm_var 5)))))
  (psm_cons (psm_for PassesOwn.never rfl (pim_any (pm_var 6)) (pgm_name 7 sc__law_stays.nd rfl (Or.inr rfl)) (psm_cons (psm_set 8 sc__law_stays.nd rfl (Or.inl rfl) (pm_callTy cam_tuple rfl T.z_tuple bb_tuple (pam_cons (pm_pop (pm_lc (own := [("_law_one", 11)]) rfl sc__law_stays.nd (pim_any (pm_var 6)) (blkOk_by (N := N__law_stays) (sc := (defScope s__law_stays)) (by decide +kernel)) (fun _ _ _ _ _ => (pgm_name 11 sc__law_stays.nd rfl (Or.inl rfl))) (fun _ _ _ _ _ => (ptsm_one (ptm_cmp (opm_ne hr.units) (pm_var 11) (pm_var 7)))) (fun _ _ _ _ _ => (pm_var 11)))) pam_nil)))
  (psm_cons (psm_set 9 sc__law_stays.nd rfl (Or.inl rfl) (pm_ix (pm_var 0) (pm_bin opm_sub (pm_bin opm_add (pm_var 5) (pm_var 7)) (pm_var 3))))
  (psm_cons (psm_set 10 sc__law_stays.nd rfl (Or.inl rfl) (pm_tup (pam_cons (pm_bin opm_sub (pm_bin opm_add (pm_bin opm_add (pm_var 4) pm_int) (pm_var 7)) (pm_var 3)) pam_nil)))
  (psm_cons (psm_if (PW.pt (pwm_and (ptm_cmp (opm_eq hr.units) (pm_var 7) (pm_var 3)) (pwm_and1 (ptm_cmp opm_gt (pm_var 5) pm_int)))) (psm_cons (psm_set 9 sc__law_stays.nd rfl (Or.inl rfl) (pm_bin opm_mul pm_int (pm_var 5)))
  (psm_one (psm_set 10 sc__law_stays.nd rfl (Or.inl rfl) (pm_tup (pam_cons (pm_var 4) (pam_cons (pm_bin opm_add (pm_var 4) pm_int) pam_nil)))))) psm_nil)
  (psm_cons (psm_if (ptm_cmp (opm_eq hr.units) (pm_var 5) pm_int) (psm_one (psm_set 10 sc__law_stays.nd rfl (Or.inl rfl) (pm_tup pam_nil))) psm_nil)
  (psm_one (psm_expr (pm_bm PySem.F.plainAttrs_list PySem.F.slot_list_append PySem.F.type_list_append mtm_append (pm_var 2) (pam_cons (pm_tup (pam_cons (pm_var 9) (pam_cons (pm_var 5) (pam_cons (pm_var 10) (pam_cons (pm_var 8) pam_nil))))) pam_nil))))))))))
  (psm_cons (psm_set 4 sc__law_stays.nd rfl (Or.inl rfl) (pm_var 3))
  (psm_one (psm_set 3 sc__law_stays.nd rfl (Or.inl rfl) (pm_bin opm_sub (pm_bin opm_add (pm_var 3) (pm_var 1)) (pm_var 5))))))))
  (psm_one (psm_ret (pm_callTy cam_tuple rfl T.z_tuple bb_tuple (pam_cons (pm_var 2) pam_nil))))))))
theorem w_law (T : Tp K mg) : FnOk P w K mg base CX0 76 T.a_law T.fd_law ["_law_script"] (spM K 1 M_law_k15) :=
  okM (N := N_law) T.F_law sc_law rfl fun cdv A outer s H E hr =>
  (psm_cons (psm_for PassesOwn.never rfl (pim_range1 rfl T.z_range (pam_cons (pm_callB (cam_max rfl) rfl T.z_max bb_max (pam_cons pm_int (pam_cons (pm_callB (cam_min rfl) rfl T.z_min bb_min (pam_cons (pm_callB cam_len rfl T.z_len bb_len (pam_cons (pm_var 0) pam_nil)) (pam_cons pm_int pam_nil))) pam_nil))) pam_nil)) (pgm_name 1 sc_law.nd rfl (Or.inl rfl)) (psm_trim (psm_cons (psm_set 2 sc_law.nd rfl (Or.inl rfl) (pm_call (w__law_pot (base := base) T) (hr.mono (by omega)) rfl T.m__law_pot T.F__law_pot.kp T.b__law_pot pass0 (fun _ => rfl) (pam_cons (pm_var 0) (pam_cons (pm_var 1) pam_nil)) (hA := (an_cons (an_cons an_nil)))))
  (psm_cons (psm_set 3 sc_law.nd rfl (Or.inl rfl) (pm_call (w__law_words (base := base) T) (hr.mono (by omega)) rfl T.m__law_words T.F__law_words.kp T.b__law_words pass0 (fun _ => rfl) (pam_cons (pm_var 2) (pam_cons (pm_bin opm_add pm_int (pm_call (w__law_take (base := base) T) (hr.mono (by omega)) rfl T.m__law_take T.F__law_take.kp T.b__law_take pass0 (fun _ => rfl) (pam_cons (pm_var 2) (pam_cons pm_int pam_nil)) (hA := (an_cons (an_cons an_nil))))) pam_nil)) (hA := (an_cons (an_cons an_nil)))))
  (psm_cons (psm_set 4 sc_law.nd rfl (Or.inl rfl) (pm_call (w__law_comb (base := base) T) (hr.mono (by omega)) rfl T.m__law_comb T.F__law_comb.kp T.b__law_comb pass0 (fun _ => rfl) (pam_cons (pm_var 3) pam_nil) (hA := (an_cons an_nil))))
  (psm_one (psm_if (ptm_not (ptm_val (pm_call (w__law_same (base := base) T 70) (hr.mono (by omega)) rfl T.m__law_same T.F__law_same.kp T.b__law_same pass0 (fun _ => rfl) (pam_cons (pm_call (w_dated (base := base) T) (hr.mono (by omega)) rfl T.m_dated T.F_dated.kp T.b_dated pass0 (fun _ => rfl) (pam_cons (pm_var 4) (pam_cons (pm_call (w__law_dates (base := base) T) (hr.mono (by omega)) rfl T.m__law_dates T.F__law_dates.kp T.b__law_dates pass0 (fun _ => rfl) (pam_cons (pm_var 2) (pam_cons (pm_call (w__law_nodes (base := base) T 70) (hr.mono (by omega)) rfl T.m__law_nodes T.F__law_nodes.kp T.b__law_nodes pass0 (fun _ => rfl) (pam_cons (pm_var 4) pam_nil) (hA := (an_cons an_nil))) pam_nil)) (hA := (an_cons (an_cons an_nil)))) pam_nil)) (hA := (an_cons (an_cons an_nil)))) (pam_cons (pm_call (w__law_stays (base := base) T) (hr.mono (by omega)) rfl T.m__law_stays T.F__law_stays.kp T.b__law_stays pass0 (fun _ => rfl) (pam_cons (pm_var 3) pam_nil) (hA := (an_cons an_nil))) pam_nil)) (hA := (an_cons (an_cons an_nil)))))) (psm_one (psm_ret pm_bl)) psm_nil)))))))
  (psm_one (psm_ret pm_bl)))
end
/-! ### the end -/
theorem all_mk {l : PySem.W.OpenLaw} {w : World} {K : PySem.W.Frag} {h : Heap} {mg : Str → Option Value} {fa : Addr} (X : K.In h) (G : h.Ns mainGlobals mg) (hfa : mg "law" = some (.ref fa))
    {f0 f1 f2 f3 f4 f5 f6 f7 f8 f9 f10 f11 f12 f13 f14 f15 f16 f17 f18 f19 f20 : Addr} {od0 an0 od1 an1 od2 an2 od3 an3 od4 an4 od5 an5 od6 an6 od7 an7 od8 an8 od9 an9 od10 an10 od11 an11 od12 an12 od13 an13 od14 an14 od15 an15 od16 an16 od17 an17 od18 an18 od19 an19 od20 an20 : Option Addr} {sl0 sl1 sl2 sl3 sl4 sl5 sl6 sl7 sl8 sl9 sl10 sl11 sl12 sl13 sl14 sl15 sl16 sl17 sl18 sl19 sl20 : Array (Option Value)} {oc0 kV0 dc0 pm0 cd0 ct0 oc1 kV1 dc1 pm1 cd1 ct1 oc2 kV2 dc2 pm2 cd2 ct2 oc3 kV3 dc3 pm3 cd3 ct3 oc4 kV4 dc4 pm4 cd4 ct4 oc5 kV5 dc5 pm5 cd5 ct5 oc6 kV6 dc6 pm6 cd6 ct6 oc7 kV7 dc7 pm7 cd7 ct7 oc8 kV8 dc8 pm8 cd8 ct8 oc9 kV9 dc9 pm9 cd9 ct9 oc10 kV10 dc10 pm10 cd10 ct10 oc11 kV11 dc11 pm11 cd11 ct11 oc12 kV12 dc12 pm12 cd12 ct12 oc13 kV13 dc13 pm13 cd13 ct13 oc14 kV14 dc14 pm14 cd14 ct14 oc15 kV15 dc15 pm15 cd15 ct15 oc16 kV16 dc16 pm16 cd16 ct16 oc17 kV17 dc17 pm17 cd17 ct17 oc18 kV18 dc18 pm18 cd18 ct18 oc19 kV19 dc19 pm19 cd19 ct19 oc20 kV20 dc20 pm20 cd20 ct20 : Value}
    {C_Slices : Addr}
    (aC_Slices : PySem.W.nsIn K mainGlobals "Slices" = some (some (.ref C_Slices)))
    (a0 : PySem.W.nsIn K mainGlobals "put_nodes" = some (some (.ref f0)))
    (l0 : K.lookup f0 = some ⟨oc0, od0, .func (PySem.W.fnOf "put_nodes" "put_nodes" (defArgs s_put_nodes) (defBody s_put_nodes) (defScope s_put_nodes) .none kV0 dc0 pm0 an0 cd0 ct0), sl0⟩) (c0 : PySem.W.codeIn K cd0 "put_nodes" = true) (k0 : PySem.W.keepIn K (.ref f0) = true)
    (a1 : PySem.W.nsIn K mainGlobals "nodes" = some (some (.ref f1)))
    (l1 : K.lookup f1 = some ⟨oc1, od1, .func (PySem.W.fnOf "nodes" "nodes" (defArgs s_nodes) (defBody s_nodes) (defScope s_nodes) .none kV1 dc1 pm1 an1 cd1 ct1), sl1⟩) (c1 : PySem.W.codeIn K cd1 "nodes" = true) (k1 : PySem.W.keepIn K (.ref f1) = true)
    (a2 : PySem.W.nsIn K mainGlobals "ahead_of" = some (some (.ref f2)))
    (l2 : K.lookup f2 = some ⟨oc2, od2, .func (PySem.W.fnOf "ahead_of" "ahead_of" (defArgs s_ahead_of) (defBody s_ahead_of) (defScope s_ahead_of) .none kV2 dc2 pm2 an2 cd2 ct2), sl2⟩) (c2 : PySem.W.codeIn K cd2 "ahead_of" = true) (k2 : PySem.W.keepIn K (.ref f2) = true)
    (a3 : PySem.W.nsIn K mainGlobals "name_of" = some (some (.ref f3)))
    (l3 : K.lookup f3 = some ⟨oc3, od3, .func (PySem.W.fnOf "name_of" "name_of" (defArgs s_name_of) (defBody s_name_of) (defScope s_name_of) .none kV3 dc3 pm3 an3 cd3 ct3), sl3⟩) (c3 : PySem.W.codeIn K cd3 "name_of" = true) (k3 : PySem.W.keepIn K (.ref f3) = true)
    (a4 : PySem.W.nsIn K mainGlobals "inner_dates" = some (some (.ref f4)))
    (l4 : K.lookup f4 = some ⟨oc4, od4, .func (PySem.W.fnOf "inner_dates" "inner_dates" (defArgs s_inner_dates) (defBody s_inner_dates) (defScope s_inner_dates) .none kV4 dc4 pm4 an4 cd4 ct4), sl4⟩) (c4 : PySem.W.codeIn K cd4 "inner_dates" = true) (k4 : PySem.W.keepIn K (.ref f4) = true)
    (a5 : PySem.W.findIn K (.ref C_Slices) "first_slice" = some (some (.ref f5))) (i5 : PySem.W.isFn K (.ref f5) = true)
    (l5 : K.lookup f5 = some ⟨oc5, od5, .func (PySem.W.fnOf "first_slice" "Slices.first_slice" (defArgs s_Slices_first_slice) (defBody s_Slices_first_slice) (defScope s_Slices_first_slice) .none kV5 dc5 pm5 an5 cd5 ct5), sl5⟩) (c5 : PySem.W.codeIn K cd5 "Slices.first_slice" = true) (k5 : PySem.W.keepIn K (.ref f5) = true)
    (a6 : PySem.W.findIn K (.ref C_Slices) "last_slice" = some (some (.ref f6))) (i6 : PySem.W.isFn K (.ref f6) = true)
    (l6 : K.lookup f6 = some ⟨oc6, od6, .func (PySem.W.fnOf "last_slice" "Slices.last_slice" (defArgs s_Slices_last_slice) (defBody s_Slices_last_slice) (defScope s_Slices_last_slice) .none kV6 dc6 pm6 an6 cd6 ct6), sl6⟩) (c6 : PySem.W.codeIn K cd6 "Slices.last_slice" = true) (k6 : PySem.W.keepIn K (.ref f6) = true)
    (a7 : PySem.W.findIn K (.ref C_Slices) "__init__" = some (some (.ref f7))) (i7 : PySem.W.isFn K (.ref f7) = true)
    (l7 : K.lookup f7 = some ⟨oc7, od7, .func (PySem.W.fnOf "__init__" "Slices.__init__" (defArgs s_Slices___init__) (defBody s_Slices___init__) (defScope s_Slices___init__) .none kV7 dc7 pm7 an7 cd7 ct7), sl7⟩) (c7 : PySem.W.codeIn K cd7 "Slices.__init__" = true) (k7 : PySem.W.keepIn K (.ref f7) = true)
    (a8 : PySem.W.findIn K (.ref C_Slices) "under_of" = some (some (.ref f8))) (i8 : PySem.W.isFn K (.ref f8) = true)
    (l8 : K.lookup f8 = some ⟨oc8, od8, .func (PySem.W.fnOf "under_of" "Slices.under_of" (defArgs s_Slices_under_of) (defBody s_Slices_under_of) (defScope s_Slices_under_of) .none kV8 dc8 pm8 an8 cd8 ct8), sl8⟩) (c8 : PySem.W.codeIn K cd8 "Slices.under_of" = true) (k8 : PySem.W.keepIn K (.ref f8) = true)
    (a9 : PySem.W.findIn K (.ref C_Slices) "beside_of" = some (some (.ref f9))) (i9 : PySem.W.isFn K (.ref f9) = true)
    (l9 : K.lookup f9 = some ⟨oc9, od9, .func (PySem.W.fnOf "beside_of" "Slices.beside_of" (defArgs s_Slices_beside_of) (defBody s_Slices_beside_of) (defScope s_Slices_beside_of) .none kV9 dc9 pm9 an9 cd9 ct9), sl9⟩) (c9 : PySem.W.codeIn K cd9 "Slices.beside_of" = true) (k9 : PySem.W.keepIn K (.ref f9) = true)
    (a10 : PySem.W.nsIn K mainGlobals "dated" = some (some (.ref f10)))
    (l10 : K.lookup f10 = some ⟨oc10, od10, .func (PySem.W.fnOf "dated" "dated" (defArgs s_dated) (defBody s_dated) (defScope s_dated) .none kV10 dc10 pm10 an10 cd10 ct10), sl10⟩) (c10 : PySem.W.codeIn K cd10 "dated" = true) (k10 : PySem.W.keepIn K (.ref f10) = true)
    (a11 : PySem.W.nsIn K mainGlobals "_law_pot" = some (some (.ref f11)))
    (l11 : K.lookup f11 = some ⟨oc11, od11, .func (PySem.W.fnOf "_law_pot" "_law_pot" (defArgs s__law_pot) (defBody s__law_pot) (defScope s__law_pot) .none kV11 dc11 pm11 an11 cd11 ct11), sl11⟩) (c11 : PySem.W.codeIn K cd11 "_law_pot" = true) (k11 : PySem.W.keepIn K (.ref f11) = true)
    (a12 : PySem.W.nsIn K mainGlobals "_law_take" = some (some (.ref f12)))
    (l12 : K.lookup f12 = some ⟨oc12, od12, .func (PySem.W.fnOf "_law_take" "_law_take" (defArgs s__law_take) (defBody s__law_take) (defScope s__law_take) .none kV12 dc12 pm12 an12 cd12 ct12), sl12⟩) (c12 : PySem.W.codeIn K cd12 "_law_take" = true) (k12 : PySem.W.keepIn K (.ref f12) = true)
    (a13 : PySem.W.nsIn K mainGlobals "_law_pick" = some (some (.ref f13)))
    (l13 : K.lookup f13 = some ⟨oc13, od13, .func (PySem.W.fnOf "_law_pick" "_law_pick" (defArgs s__law_pick) (defBody s__law_pick) (defScope s__law_pick) .none kV13 dc13 pm13 an13 cd13 ct13), sl13⟩) (c13 : PySem.W.codeIn K cd13 "_law_pick" = true) (k13 : PySem.W.keepIn K (.ref f13) = true)
    (a14 : PySem.W.nsIn K mainGlobals "_law_words" = some (some (.ref f14)))
    (l14 : K.lookup f14 = some ⟨oc14, od14, .func (PySem.W.fnOf "_law_words" "_law_words" (defArgs s__law_words) (defBody s__law_words) (defScope s__law_words) .none kV14 dc14 pm14 an14 cd14 ct14), sl14⟩) (c14 : PySem.W.codeIn K cd14 "_law_words" = true) (k14 : PySem.W.keepIn K (.ref f14) = true)
    (a15 : PySem.W.nsIn K mainGlobals "_law_nodes" = some (some (.ref f15)))
    (l15 : K.lookup f15 = some ⟨oc15, od15, .func (PySem.W.fnOf "_law_nodes" "_law_nodes" (defArgs s__law_nodes) (defBody s__law_nodes) (defScope s__law_nodes) .none kV15 dc15 pm15 an15 cd15 ct15), sl15⟩) (c15 : PySem.W.codeIn K cd15 "_law_nodes" = true) (k15 : PySem.W.keepIn K (.ref f15) = true)
    (a16 : PySem.W.nsIn K mainGlobals "_law_dates" = some (some (.ref f16)))
    (l16 : K.lookup f16 = some ⟨oc16, od16, .func (PySem.W.fnOf "_law_dates" "_law_dates" (defArgs s__law_dates) (defBody s__law_dates) (defScope s__law_dates) .none kV16 dc16 pm16 an16 cd16 ct16), sl16⟩) (c16 : PySem.W.codeIn K cd16 "_law_dates" = true) (k16 : PySem.W.keepIn K (.ref f16) = true)
    (a17 : PySem.W.nsIn K mainGlobals "_law_same" = some (some (.ref f17)))
    (l17 : K.lookup f17 = some ⟨oc17, od17, .func (PySem.W.fnOf "_law_same" "_law_same" (defArgs s__law_same) (defBody s__law_same) (defScope s__law_same) .none kV17 dc17 pm17 an17 cd17 ct17), sl17⟩) (c17 : PySem.W.codeIn K cd17 "_law_same" = true) (k17 : PySem.W.keepIn K (.ref f17) = true)
    (a18 : PySem.W.nsIn K mainGlobals "_law_comb" = some (some (.ref f18)))
    (l18 : K.lookup f18 = some ⟨oc18, od18, .func (PySem.W.fnOf "_law_comb" "_law_comb" (defArgs s__law_comb) (defBody s__law_comb) (defScope s__law_comb) .none kV18 dc18 pm18 an18 cd18 ct18), sl18⟩) (c18 : PySem.W.codeIn K cd18 "_law_comb" = true) (k18 : PySem.W.keepIn K (.ref f18) = true)
    (a19 : PySem.W.nsIn K mainGlobals "_law_stays" = some (some (.ref f19)))
    (l19 : K.lookup f19 = some ⟨oc19, od19, .func (PySem.W.fnOf "_law_stays" "_law_stays" (defArgs s__law_stays) (defBody s__law_stays) (defScope s__law_stays) .none kV19 dc19 pm19 an19 cd19 ct19), sl19⟩) (c19 : PySem.W.codeIn K cd19 "_law_stays" = true) (k19 : PySem.W.keepIn K (.ref f19) = true)
    (a20 : PySem.W.nsIn K mainGlobals "law" = some (some (.ref f20)))
    (l20 : K.lookup f20 = some ⟨oc20, od20, .func (PySem.W.fnOf "law" "law" (defArgs s_law) (defBody s_law) (defScope s_law) .none kV20 dc20 pm20 an20 cd20 ct20), sl20⟩) (c20 : PySem.W.codeIn K cd20 "law" = true) (k20 : PySem.W.keepIn K (.ref f20) = true)
    (pg_Slices : PySem.W.plainGet K C_Slices Str.empty = true) (hd_Slices : PySem.W.hasDictIn K C_Slices = true) (po_Slices : PySem.W.plainOver K C_Slices = true) (sa_Slices : PySem.W.findIn K (.ref C_Slices) "__setattr__" = some (some (.builtin "object.__setattr__"))) (mk_Slices : PySem.W.makesIn K C_Slices = true) (kc_Slices : PySem.W.keepIn K (.ref C_Slices) = true)
    (na_Slices_aheads : PySem.W.findIn K (.ref C_Slices) "aheads" = some none)
    (na_Slices_dates : PySem.W.findIn K (.ref C_Slices) "dates" = some none)
    (na_Slices_floors : PySem.W.findIn K (.ref C_Slices) "floors" = some none)
    (na_Slices_places : PySem.W.findIn K (.ref C_Slices) "places" = some none)
    (na_Slices_rows : PySem.W.findIn K (.ref C_Slices) "rows" = some none)
    (z_abs : PySem.W.nsIn K mainGlobals "abs" = some none)
    (z_all : PySem.W.nsIn K mainGlobals "all" = some none)
    (z_bool : PySem.W.nsIn K mainGlobals "bool" = some none)
    (z_enumerate : PySem.W.nsIn K mainGlobals "enumerate" = some none)
    (z_int : PySem.W.nsIn K mainGlobals "int" = some none)
    (z_isinstance : PySem.W.nsIn K mainGlobals "isinstance" = some none)
    (z_len : PySem.W.nsIn K mainGlobals "len" = some none)
    (z_list : PySem.W.nsIn K mainGlobals "list" = some none)
    (z_max : PySem.W.nsIn K mainGlobals "max" = some none)
    (z_min : PySem.W.nsIn K mainGlobals "min" = some none)
    (z_range : PySem.W.nsIn K mainGlobals "range" = some none)
    (z_sorted : PySem.W.nsIn K mainGlobals "sorted" = some none)
    (z_str : PySem.W.nsIn K mainGlobals "str" = some none)
    (z_tuple : PySem.W.nsIn K mainGlobals "tuple" = some none)
    (z_zip : PySem.W.nsIn K mainGlobals "zip" = some none)
    : ∃ fd : FuncData, (∀ (s : Shared) (v : Value), BindsTo s fd ⟨[v], []⟩ [("_law_script", v)]) ∧ ∀ base : Heap, K.In base → base.Ns mainGlobals mg → FnOk l.prog w K mg base CX0 76 fa fd ["_law_script"] (spM K 1 M_law_k15) := by
  have e := hfa.symm.trans (PySem.W.mg_of X G a20)
  cases e
  have F0 := fun_mk (st := s_put_nodes) l0 c0 k0
  have F1 := fun_mk (st := s_nodes) l1 c1 k1
  have F2 := fun_mk (st := s_ahead_of) l2 c2 k2
  have F3 := fun_mk (st := s_name_of) l3 c3 k3
  have F4 := fun_mk (st := s_inner_dates) l4 c4 k4
  have F5 := fun_mk (st := s_Slices_first_slice) l5 c5 k5
  have F6 := fun_mk (st := s_Slices_last_slice) l6 c6 k6
  have F7 := fun_mk (st := s_Slices___init__) l7 c7 k7
  have F8 := fun_mk (st := s_Slices_under_of) l8 c8 k8
  have F9 := fun_mk (st := s_Slices_beside_of) l9 c9 k9
  have F10 := fun_mk (st := s_dated) l10 c10 k10
  have F11 := fun_mk (st := s__law_pot) l11 c11 k11
  have F12 := fun_mk (st := s__law_take) l12 c12 k12
  have F13 := fun_mk (st := s__law_pick) l13 c13 k13
  have F14 := fun_mk (st := s__law_words) l14 c14 k14
  have F15 := fun_mk (st := s__law_nodes) l15 c15 k15
  have F16 := fun_mk (st := s__law_dates) l16 c16 k16
  have F17 := fun_mk (st := s__law_same) l17 c17 k17
  have F18 := fun_mk (st := s__law_comb) l18 c18 k18
  have F19 := fun_mk (st := s__law_stays) l19 c19 k19
  have F20 := fun_mk (st := s_law) l20 c20 k20
  let T : Tp K mg :=
    { a_put_nodes := _, fd_put_nodes := _, F_put_nodes := F0, b_put_nodes := F0.binds (ps := ["tree", "found"]) (fun _ _ _ _ _ _ us hl => match us, hl with | [_, _], _ => rfl),
      m_put_nodes := PySem.W.mg_of X G a0,
      a_nodes := _, fd_nodes := _, F_nodes := F1, b_nodes := F1.binds (ps := ["tree"]) (fun _ _ _ _ _ _ us hl => match us, hl with | [_], _ => rfl),
      m_nodes := PySem.W.mg_of X G a1,
      a_ahead_of := _, fd_ahead_of := _, F_ahead_of := F2, b_ahead_of := F2.binds (ps := ["tree"]) (fun _ _ _ _ _ _ us hl => match us, hl with | [_], _ => rfl),
      m_ahead_of := PySem.W.mg_of X G a2,
      a_name_of := _, fd_name_of := _, F_name_of := F3, b_name_of := F3.binds (ps := ["told", "house"]) (fun _ _ _ _ _ _ us hl => match us, hl with | [_, _], _ => rfl),
      m_name_of := PySem.W.mg_of X G a3,
      a_inner_dates := _, fd_inner_dates := _, F_inner_dates := F4, b_inner_dates := F4.binds (ps := ["great", "dates"]) (fun _ _ _ _ _ _ us hl => match us, hl with | [_, _], _ => rfl),
      m_inner_dates := PySem.W.mg_of X G a4,
      a_Slices_first_slice := _, fd_Slices_first_slice := _, F_Slices_first_slice := F5, b_Slices_first_slice := F5.binds (ps := ["self", "house"]) (fun _ _ _ _ _ _ us hl => match us, hl with | [_, _], _ => rfl),
      me_Slices_first_slice := ⟨a5, i5, k5⟩,
      a_Slices_last_slice := _, fd_Slices_last_slice := _, F_Slices_last_slice := F6, b_Slices_last_slice := F6.binds (ps := ["self", "house"]) (fun _ _ _ _ _ _ us hl => match us, hl with | [_, _], _ => rfl),
      me_Slices_last_slice := ⟨a6, i6, k6⟩,
      a_Slices___init__ := _, fd_Slices___init__ := _, F_Slices___init__ := F7, b_Slices___init__ := F7.binds (ps := ["self", "great", "dates"]) (fun _ _ _ _ _ _ us hl => match us, hl with | [_, _, _], _ => rfl),
      a_Slices_under_of := _, fd_Slices_under_of := _, F_Slices_under_of := F8, b_Slices_under_of := F8.binds (ps := ["self", "house", "level"]) (fun _ _ _ _ _ _ us hl => match us, hl with | [_, _, _], _ => rfl),
      me_Slices_under_of := ⟨a8, i8, k8⟩,
      a_Slices_beside_of := _, fd_Slices_beside_of := _, F_Slices_beside_of := F9, b_Slices_beside_of := F9.binds (ps := ["self", "house", "level"]) (fun _ _ _ _ _ _ us hl => match us, hl with | [_, _, _], _ => rfl),
      me_Slices_beside_of := ⟨a9, i9, k9⟩,
      a_dated := _, fd_dated := _, F_dated := F10, b_dated := F10.binds (ps := ["great", "dates"]) (fun _ _ _ _ _ _ us hl => match us, hl with | [_, _], _ => rfl),
      m_dated := PySem.W.mg_of X G a10,
      a__law_pot := _, fd__law_pot := _, F__law_pot := F11, b__law_pot := F11.binds (ps := ["_law_script", "_law_k"]) (fun _ _ _ _ _ _ us hl => match us, hl with | [_, _], _ => rfl),
      m__law_pot := PySem.W.mg_of X G a11,
      a__law_take := _, fd__law_take := _, F__law_take := F12, b__law_take := F12.binds (ps := ["_law_pot_here", "_law_many"]) (fun _ _ _ _ _ _ us hl => match us, hl with | [_, _], _ => rfl),
      m__law_take := PySem.W.mg_of X G a12,
      a__law_pick := _, fd__law_pick := _, F__law_pick := F13, b__law_pick := F13.binds (ps := ["_law_pot_here", "_law_some"]) (fun _ _ _ _ _ _ us hl => match us, hl with | [_, _], _ => rfl),
      m__law_pick := PySem.W.mg_of X G a13,
      a__law_words := _, fd__law_words := _, F__law_words := F14, b__law_words := F14.binds (ps := ["_law_pot_here", "_law_many"]) (fun _ _ _ _ _ _ us hl => match us, hl with | [_, _], _ => rfl),
      m__law_words := PySem.W.mg_of X G a14,
      a__law_nodes := _, fd__law_nodes := _, F__law_nodes := F15, b__law_nodes := F15.binds (ps := ["_law_tree"]) (fun _ _ _ _ _ _ us hl => match us, hl with | [_], _ => rfl),
      m__law_nodes := PySem.W.mg_of X G a15,
      a__law_dates := _, fd__law_dates := _, F__law_dates := F16, b__law_dates := F16.binds (ps := ["_law_pot_here", "_law_rows"]) (fun _ _ _ _ _ _ us hl => match us, hl with | [_, _], _ => rfl),
      m__law_dates := PySem.W.mg_of X G a16,
      a__law_same := _, fd__law_same := _, F__law_same := F17, b__law_same := F17.binds (ps := ["_law_found", "_law_due"]) (fun _ _ _ _ _ _ us hl => match us, hl with | [_, _], _ => rfl),
      m__law_same := PySem.W.mg_of X G a17,
      a__law_comb := _, fd__law_comb := _, F__law_comb := F18, b__law_comb := F18.binds (ps := ["_law_words_here"]) (fun _ _ _ _ _ _ us hl => match us, hl with | [_], _ => rfl),
      m__law_comb := PySem.W.mg_of X G a18,
      a__law_stays := _, fd__law_stays := _, F__law_stays := F19, b__law_stays := F19.binds (ps := ["_law_words_here"]) (fun _ _ _ _ _ _ us hl => match us, hl with | [_], _ => rfl),
      m__law_stays := PySem.W.mg_of X G a19,
      a_law := _, fd_law := _, F_law := F20, b_law := F20.binds (ps := ["_law_script"]) (fun _ _ _ _ _ _ us hl => match us, hl with | [_], _ => rfl),
      m_law := PySem.W.mg_of X G a20,
      C_Slices := C_Slices, k_Slices := ⟨aC_Slices, ⟨pg_Slices, hd_Slices, po_Slices, sa_Slices⟩⟩, mg_Slices := PySem.W.mg_of X G aC_Slices,
      mk_Slices := ⟨mk_Slices, a7, i7, kc_Slices⟩,
      na_Slices_aheads := na_Slices_aheads,
      na_Slices_dates := na_Slices_dates,
      na_Slices_floors := na_Slices_floors,
      na_Slices_places := na_Slices_places,
      na_Slices_rows := na_Slices_rows,
      z_abs := PySem.W.mg_none_of X G z_abs,
      z_all := PySem.W.mg_none_of X G z_all,
      z_bool := PySem.W.mg_none_of X G z_bool,
      z_enumerate := PySem.W.mg_none_of X G z_enumerate,
      z_int := PySem.W.mg_none_of X G z_int,
      z_isinstance := PySem.W.mg_none_of X G z_isinstance,
      z_len := PySem.W.mg_none_of X G z_len,
      z_list := PySem.W.mg_none_of X G z_list,
      z_max := PySem.W.mg_none_of X G z_max,
      z_min := PySem.W.mg_none_of X G z_min,
      z_range := PySem.W.mg_none_of X G z_range,
      z_sorted := PySem.W.mg_none_of X G z_sorted,
      z_str := PySem.W.mg_none_of X G z_str,
      z_tuple := PySem.W.mg_none_of X G z_tuple,
      z_zip := PySem.W.mg_none_of X G z_zip }
  exact ⟨T.fd_law, fun s v => .of_eq rfl, fun base _ _ => w_law T⟩
theorem walk {l : PySem.W.OpenLaw} {q : Program} {loose : List Str} {XP : (Str → Option Value) → Heap → Prop} {YP : World → Heap → Prop} {d : DefRec} {K : Params → PySem.W.Frag} (hn : l.most = some 63) (hdf : d.params.defaults = [])
    (main : ∀ ns : List Int, ns.length ≤ 63 → ∃ S', M_law_k15 [.v (.kl (ns.map D.int))] [] = .ok (.bl true) S')
    (hY : ∀ (w : World) (h : Heap), YP w h → (K w.params).In h)
    (F : ∀ (w : World) (mg : Str → Option Value) (fa : Addr) (h : Heap), (K w.params).In h → h.Ns mainGlobals mg → mg d.name = some (.ref fa) →
      ∃ fd : FuncData, (∀ (s : Shared) (u : Value), BindsTo s fd ⟨[u], []⟩ [("_law_script", u)]) ∧ ∀ base : Heap, (K w.params).In base → base.Ns mainGlobals mg → FnOk l.prog w (K w.params) mg base CX0 76 fa fd ["_law_script"] (spM (K w.params) 1 M_law_k15)) :
    PySem.W.WalkO q loose XP YP l.row.toRowW d [] (fun f vs => PySem.call f vs) :=
  L2.walk_of (n := 63) (k := 76) (x := "_law_script") (CX := fun _ => CX0) (sp := fun w => spM (K w.params) 1 M_law_k15) hn (by decide) hdf ⟨rfl, by decide, by decide⟩ hY F (fun _ H a ns hl hO hS => law_sp hO hS (main ns hl)) fun _ _ _ _ _ z => z
end K15
open PySem PySem.W PySem.W.X PyProof.Rows
set_option maxRecDepth 100000 in
set_option maxHeartbeats 0 in
theorem PySem.Challenge.cw_treewithin_k15_dated_combs_known_by_hand_holds : PySem.Challenge.rw_treewithin_k15_dated_combs_known_by_hand.Holds := by
  w_on; o_law; k_head; (case hw => w_witness2)
  k_fill
  refine K15.walk (l := PySem.Challenge.rw_treewithin_k15_dated_combs_known_by_hand) rfl rfl Q.k15_main (fun w h Y => PySem.W.kIn_of Y) ?F
  case F =>
    intro w mg fa h KX G hmg
    refine' K15.all_mk KX G hmg ?aC_Slices ?a0 ?l0 ?c0 ?k0 ?a1 ?l1 ?c1 ?k1 ?a2 ?l2 ?c2 ?k2 ?a3 ?l3 ?c3 ?k3 ?a4 ?l4 ?c4 ?k4 ?a5 ?i5 ?l5 ?c5 ?k5 ?a6 ?i6 ?l6 ?c6 ?k6 ?a7 ?i7 ?l7 ?c7 ?k7 ?a8 ?i8 ?l8 ?c8 ?k8 ?a9 ?i9 ?l9 ?c9 ?k9 ?a10 ?l10 ?c10 ?k10 ?a11 ?l11 ?c11 ?k11 ?a12 ?l12 ?c12 ?k12 ?a13 ?l13 ?c13 ?k13 ?a14 ?l14 ?c14 ?k14 ?a15 ?l15 ?c15 ?k15 ?a16 ?l16 ?c16 ?k16 ?a17 ?l17 ?c17 ?k17 ?a18 ?l18 ?c18 ?k18 ?a19 ?l19 ?c19 ?k19 ?a20 ?l20 ?c20 ?k20 ?pg_Slices ?hd_Slices ?po_Slices ?sa_Slices ?mk_Slices ?kc_Slices ?na_Slices_aheads ?na_Slices_dates ?na_Slices_floors ?na_Slices_places ?na_Slices_rows ?z_abs ?z_all ?z_bool ?z_enumerate ?z_int ?z_isinstance ?z_len ?z_list ?z_max ?z_min ?z_range ?z_sorted ?z_str ?z_tuple ?z_zip
    (case aC_Slices => k_is)
    (case a0 => k_is)
    (case l0 => k_is)
    (case c0 => k_is)
    (case k0 => k_is)
    (case a1 => k_is)
    (case l1 => k_is)
    (case c1 => k_is)
    (case k1 => k_is)
    (case a2 => k_is)
    (case l2 => k_is)
    (case c2 => k_is)
    (case k2 => k_is)
    (case a3 => k_is)
    (case l3 => k_is)
    (case c3 => k_is)
    (case k3 => k_is)
    (case a4 => k_is)
    (case l4 => k_is)
    (case c4 => k_is)
    (case k4 => k_is)
    (case a5 => k_is)
    (case i5 => k_is)
    (case l5 => k_is)
    (case c5 => k_is)
    (case k5 => k_is)
    (case a6 => k_is)
    (case i6 => k_is)
    (case l6 => k_is)
    (case c6 => k_is)
    (case k6 => k_is)
    (case a7 => k_is)
    (case i7 => k_is)
    (case l7 => k_is)
    (case c7 => k_is)
    (case k7 => k_is)
    (case a8 => k_is)
    (case i8 => k_is)
    (case l8 => k_is)
    (case c8 => k_is)
    (case k8 => k_is)
    (case a9 => k_is)
    (case i9 => k_is)
    (case l9 => k_is)
    (case c9 => k_is)
    (case k9 => k_is)
    (case a10 => k_is)
    (case l10 => k_is)
    (case c10 => k_is)
    (case k10 => k_is)
    (case a11 => k_is)
    (case l11 => k_is)
    (case c11 => k_is)
    (case k11 => k_is)
    (case a12 => k_is)
    (case l12 => k_is)
    (case c12 => k_is)
    (case k12 => k_is)
    (case a13 => k_is)
    (case l13 => k_is)
    (case c13 => k_is)
    (case k13 => k_is)
    (case a14 => k_is)
    (case l14 => k_is)
    (case c14 => k_is)
    (case k14 => k_is)
    (case a15 => k_is)
    (case l15 => k_is)
    (case c15 => k_is)
    (case k15 => k_is)
    (case a16 => k_is)
    (case l16 => k_is)
    (case c16 => k_is)
    (case k16 => k_is)
    (case a17 => k_is)
    (case l17 => k_is)
    (case c17 => k_is)
    (case k17 => k_is)
    (case a18 => k_is)
    (case l18 => k_is)
    (case c18 => k_is)
    (case k18 => k_is)
    (case a19 => k_is)
    (case l19 => k_is)
    (case c19 => k_is)
    (case k19 => k_is)
    (case a20 => k_is)
    (case l20 => k_is)
    (case c20 => k_is)
    (case k20 => k_is)
    (case pg_Slices => k_is)
    (case hd_Slices => k_is)
    (case po_Slices => k_is)
    (case sa_Slices => k_is)
    (case mk_Slices => k_is)
    (case kc_Slices => k_is)
    (case na_Slices_aheads => k_is)
    (case na_Slices_dates => k_is)
    (case na_Slices_floors => k_is)
    (case na_Slices_places => k_is)
    (case na_Slices_rows => k_is)
    (case z_abs => k_is)
    (case z_all => k_is)
    (case z_bool => k_is)
    (case z_enumerate => k_is)
    (case z_int => k_is)
    (case z_isinstance => k_is)
    (case z_len => k_is)
    (case z_list => k_is)
    (case z_max => k_is)
    (case z_min => k_is)
    (case z_range => k_is)
    (case z_sorted => k_is)
    (case z_str => k_is)
    (case z_tuple => k_is)
    (case z_zip => k_is)
