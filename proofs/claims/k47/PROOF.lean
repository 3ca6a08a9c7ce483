import PyProof.Rows.All
import Wide.All
import OpenK.AllK
import Wide.FinOn
import HandS.ForExc
import HandS.ForMost
import HandS.Wide
import HandS.TryMany
import HandS.TupAny
import HandS.TupMul
import HandS.Flow
import HandS.Deep
import HandS.ExcOwn
import HandS.WordsExc
import HandS.Zip
import HandS.Iter
import HandS.Comp
import HandS.IsInst
import HandS.RaiseMore
import KE.SortData
import HandS.Ends
import HandS.DictComp
import HandS.SortInts
import KE.SortKeyHeap
import HandS.SortKw
import PyProof.ReprRoads
import KE.KIndexOf
import KE.DataMinMax
import HandS.Style
import HandS.More
import KE.DataCmp
import KE.DataFind
import PyProof.StrOps2
import KE.GoesMore
import KE.GoesEnum
import PySem.Challenge.RW_roundsforce_k47_whole_lists_of_greatest
set_option Elab.async false
set_option linter.all false
set_option maxRecDepth 100000
namespace DM
open PySem PySem.Spec L2
open PyProof.Rows hiding St

/-- the built-in classes that a program names -/
inductive Ty where
  | none | bool | int | str | tuple | list | dict
  deriving DecidableEq
def Ty.name : Ty → String
  | .none => "NoneType" | .bool => "bool" | .int => "int" | .str => "str" | .tuple => "tuple" | .list => "list" | .dict => "dict"
/-- a datum: immutable things by what they are; `lst`: a list that nobody changes any more; `ref`: a cell of the store -/
inductive D where
  | non | bl (b : Bool) | int (i : Int) | str (s : Str)
  | tup (ds : List D) | lst (ds : List D) | kst (ds : List D) | brw (ds : List D) | pr (ds : List D) | ref (n : Nat) | fn (n : Nat) | ty (s : Ty)
/-- a cell of the store -/
inductive C where
  | lst (ds : List D)
  | dct (kvs : List (Key × D))
  /-- a list that is being made, its last item first -/
  | rev (ds : List D) (k : Nat)
abbrev Store := List C
abbrev Env := List (Option D)

/-- what is fixed: the written part, the addresses of the defs -/
structure Gv where
  K : PySem.W.Frag
  fa : Nat → Option Addr
  /-- the cells of those who called -/
  ph : Addr → Prop
  /-- the own error classes by number, the name under which one keeps its value -/
  ca : Nat → Option Addr
  cn : Nat → Str

/-- a list that nobody changes, locked or written (the script) -/
def FL (K : PySem.W.Frag) (H : Hp) (a : Addr) (xs : List V) : Prop :=
  (∃ o, H a = some (.frz o (.lst xs))) ∨
    ∃ (o : Obj) (its : Array Value) (n : Nat), K.lookup a = some o ∧ o.cls = .type "list" ∧ o.dict = none ∧ o.data = .seq its n ∧ its.size ≤ sizeLine ∧ Vals xs its.toList
theorem FL.sq {K : PySem.W.Frag} {H : Hp} {a : Addr} {xs : List V} (h : FL K H a xs) : SqL K H a xs := by
  rcases h with ⟨o, h⟩ | h
  · exact .inl (.inr ⟨o, h⟩)
  · exact .inr h

/-- a tuple whose object is known to have no dict of its own -/
def TupF (K : PySem.W.Frag) (H : Hp) (a : Addr) (xs : List V) : Prop :=
  (∃ o : Obj, H a = some (.frz o (.tup xs)) ∧ o.cls = .type "tuple" ∧ o.dict = none) ∨
    ∃ (o : Obj) (its : Array Value) (n : Nat), K.lookup a = some o ∧ o.cls = .type "tuple" ∧ o.dict = none ∧ o.data = .seq its n ∧ its.size ≤ sizeLine ∧ Vals xs its.toList
theorem TupF.sq {K : PySem.W.Frag} {H : Hp} {a : Addr} {xs : List V} (h : TupF K H a xs) : SqT K H a xs := by
  rcases h with ⟨o, h, _⟩ | ⟨o, its, n, h1, h2, _, h4⟩
  · exact .inl (.inr ⟨o, h⟩)
  · exact .inr ⟨o, its, n, h1, h2, h4⟩
theorem TupF.new {K : PySem.W.Frag} {H : Hp} {a : Addr} {xs : List V} {o : Obj} (h1 : o.cls = .type "tuple") (h2 : o.dict = none) : TupF K (upd H a (.frz o (.tup xs))) a xs := .inl ⟨o, upd_same, h1, h2⟩

mutual
inductive RD (G : Gv) (θ : List Addr) (H : Hp) : D → V → Prop
  | non : RD G θ H .non .non
  | bl (b : Bool) : RD G θ H (.bl b) (.bl b)
  | int (i : Int) : RD G θ H (.int i) (.int i)
  | str (s : Str) : RD G θ H (.str s) (.str s)
  | ty (s : Ty) : RD G θ H (.ty s) (.ty s.name)
  | tup {a : Addr} {xs : List V} {ds : List D} : TupF G.K H a xs → RDs G θ H ds xs → RD G θ H (.tup ds) (.ref a)
  | pr {a : Addr} {xs : List V} {ds : List D} : SqT G.K H a xs → RDs G θ H ds xs → RD G θ H (.pr ds) (.ref a)
  | lst {a : Addr} {xs : List V} {ds : List D} : ¬ G.ph a → a ∉ θ → H a = some (.lst xs) → RDs G θ H ds xs → RD G θ H (.lst ds) (.ref a)
  | brw {a : Addr} {xs : List V} {ds : List D} : a ∉ θ → H a = some (.lst xs) → RDs G θ H ds xs → RD G θ H (.brw ds) (.ref a)
  | kst {a : Addr} {xs : List V} {ds : List D} : FL G.K H a xs → RDs G θ H ds xs → RD G θ H (.kst ds) (.ref a)
  | ref {n : Nat} {a : Addr} : θ[n]? = some a → RD G θ H (.ref n) (.ref a)
  | fn {n : Nat} {a : Addr} : G.fa n = some a → RD G θ H (.fn n) (.ref a)
inductive RDs (G : Gv) (θ : List Addr) (H : Hp) : List D → List V → Prop
  | nil : RDs G θ H [] []
  | cons {d : D} {v : V} {ds : List D} {vs : List V} : RD G θ H d v → RDs G θ H ds vs → RDs G θ H (d :: ds) (v :: vs)
end

/-- objects that are not tables, and that are tuples or no cells, stay -/
def notTbl : HO → Prop
  | .tbl _ => False
  | _ => True
def isTup : HO → Prop
  | .tup _ => True
  | .frz _ _ => True
  | _ => False
structure Keep (θ : List Addr) (H H' : Hp) : Prop where
  st : ∀ a o, H a = some o → (a ∉ θ ∨ isTup o) → notTbl o → H' a = some o
  gr : ∀ a, H' a = none → H a = none
theorem Keep.refl {θ : List Addr} {H : Hp} : Keep θ H H := ⟨fun _ _ e _ _ => e, fun _ e => e⟩
/-- the store has grown by new cells -/
structure Ext (θ : List Addr) (H : Hp) (θ' : List Addr) (H' : Hp) : Prop where
  pre : ∃ nw, θ' = θ ++ nw ∧ ∀ a ∈ nw, H a = none
  keep : Keep θ H H'
theorem Ext.refl {θ : List Addr} {H : Hp} : Ext θ H θ H := ⟨⟨[], by simp, by simp⟩, .refl⟩
theorem Ext.of_keep {θ : List Addr} {H H' : Hp} (k : Keep θ H H') : Ext θ H θ H' := ⟨⟨[], by simp, by simp⟩, k⟩
theorem Ext.get {θ θ' : List Addr} {H H' : Hp} (e : Ext θ H θ' H') {n : Nat} {a : Addr} (h : θ[n]? = some a) : θ'[n]? = some a := by
  obtain ⟨nw, rfl, _⟩ := e.pre
  rw [List.getElem?_append_left (List.getElem?_eq_some_iff.mp h).1]
  exact h
theorem Ext.not_mem {θ θ' : List Addr} {H H' : Hp} (e : Ext θ H θ' H') {a : Addr} {o : HO} (h : a ∉ θ) (t : H a = some o) : a ∉ θ' := by
  obtain ⟨nw, rfl, hn⟩ := e.pre
  intro m
  rcases List.mem_append.mp m with m | m
  · exact h m
  · rw [hn a m] at t; cases t
theorem Ext.trans {θ θ1 θ2 : List Addr} {H H1 H2 : Hp} (e : Ext θ H θ1 H1) (f : Ext θ1 H1 θ2 H2) : Ext θ H θ2 H2 := by
  refine ⟨?_, ⟨fun a o h c t => ?_, fun a h => e.keep.gr a (f.keep.gr a h)⟩⟩
  · obtain ⟨n1, rfl, h1⟩ := id e.pre
    obtain ⟨n2, rfl, h2⟩ := f.pre
    refine ⟨n1 ++ n2, by simp, fun a m => ?_⟩
    rcases List.mem_append.mp m with m | m
    · exact h1 a m
    · exact e.keep.gr a (h2 a m)
  · have h1 := e.keep.st a o h c t
    refine f.keep.st a o h1 ?_ t
    rcases c with c | c
    · exact .inl (e.not_mem c h)
    · exact .inr c
theorem Rd.keep {θ : List Addr} {H H' : Hp} (k : Keep θ H H') {a : Addr} {u : HO} (h : Rd H a u) (c : a ∉ θ ∨ isTup u) (t : notTbl u) : Rd H' a u := by
  rcases h with h | ⟨o, h⟩
  · exact .inl (k.st a _ h c t)
  · exact .inr ⟨o, k.st a _ h (.inr trivial) trivial⟩
theorem Rd.ne {H : Hp} {a : Addr} {u : HO} (h : Rd H a u) : ∃ o, H a = some o := by
  rcases h with h | ⟨o, h⟩
  · exact ⟨_, h⟩
  · exact ⟨_, h⟩
theorem SqT.keep {K : PySem.W.Frag} {θ : List Addr} {H H' : Hp} (k : Keep θ H H') {a : Addr} {xs : List V} (h : SqT K H a xs) : SqT K H' a xs := by
  rcases h with h | h
  · exact .inl (Rd.keep k h (.inr trivial) trivial)
  · exact .inr h
theorem TupF.keep {K : PySem.W.Frag} {θ : List Addr} {H H' : Hp} (k : Keep θ H H') {a : Addr} {xs : List V} (h : TupF K H a xs) : TupF K H' a xs := by
  rcases h with ⟨o, h, r⟩ | h
  · exact .inl ⟨o, k.st a _ h (.inr trivial) trivial, r⟩
  · exact .inr h
theorem FL.ext {K : PySem.W.Frag} {θ θ' : List Addr} {H H' : Hp} (e : Ext θ H θ' H') {a : Addr} {xs : List V} (h : FL K H a xs) : FL K H' a xs := by
  rcases h with ⟨o, h⟩ | h
  · exact .inl ⟨o, e.keep.st a _ h (.inr trivial) trivial⟩
  · exact .inr h
section
variable {G : Gv} {θ θ' : List Addr} {H H' : Hp}
mutual
theorem RD.ext (e : Ext θ H θ' H') : ∀ {d : D} {v : V}, RD G θ H d v → RD G θ' H' d v
  | _, _, .non => .non
  | _, _, .bl b => .bl b
  | _, _, .int i => .int i
  | _, _, .str s => .str s
  | _, _, .ty s => .ty s
  | _, _, .tup h1 h2 => .tup (TupF.keep e.keep h1) (RDs.ext e h2)
  | _, _, .pr h1 h2 => .pr (SqT.keep e.keep h1) (RDs.ext e h2)
  | _, _, .lst h0 h1 h2 h3 => .lst h0 (e.not_mem h1 h2) (e.keep.st _ _ h2 (.inl h1) trivial) (RDs.ext e h3)
  | _, _, .brw h1 h2 h3 => .brw (e.not_mem h1 h2) (e.keep.st _ _ h2 (.inl h1) trivial) (RDs.ext e h3)
  | _, _, .kst h1 h2 => .kst (FL.ext e h1) (RDs.ext e h2)
  | _, _, .ref h => .ref (e.get h)
  | _, _, .fn h => .fn h
theorem RDs.ext (e : Ext θ H θ' H') : ∀ {ds : List D} {vs : List V}, RDs G θ H ds vs → RDs G θ' H' ds vs
  | _, _, .nil => .nil
  | _, _, .cons h1 h2 => .cons (RD.ext e h1) (RDs.ext e h2)
end
theorem RDs.length : ∀ {ds : List D} {vs : List V}, RDs G θ H ds vs → ds.length = vs.length
  | _, _, .nil => rfl
  | _, _, .cons _ h => congrArg (· + 1) (RDs.length h)
theorem RDs.get : ∀ {ds : List D} {vs : List V} {i : Nat} {d : D}, RDs G θ H ds vs → ds[i]? = some d → ∃ v, vs[i]? = some v ∧ RD G θ H d v
  | _, _, _, _, .nil, e => by simp at e
  | _, _, 0, _, .cons r _, e => by simp at e; subst e; exact ⟨_, rfl, r⟩
  | _, _, i + 1, d, .cons _ t, e => by
    obtain ⟨u, h1, h2⟩ := RDs.get (i := i) (d := d) t (by simpa using e)
    exact ⟨u, by simpa using h1, h2⟩
theorem RDs.getV : ∀ {ds : List D} {vs : List V} {i : Nat} {v : V}, RDs G θ H ds vs → vs[i]? = some v → ∃ d, ds[i]? = some d ∧ RD G θ H d v
  | _, _, _, _, .nil, e => by simp at e
  | _, _, 0, _, .cons r _, e => by simp at e; subst e; exact ⟨_, rfl, r⟩
  | _, _, i + 1, v, .cons _ t, e => by
    obtain ⟨u, h1, h2⟩ := RDs.getV (i := i) (v := v) t (by simpa using e)
    exact ⟨u, by simpa using h1, h2⟩
theorem RDs.append : ∀ {ds es : List D} {vs ws : List V}, RDs G θ H ds vs → RDs G θ H es ws → RDs G θ H (ds ++ es) (vs ++ ws)
  | _, _, _, _, .nil, s => s
  | _, _, _, _, .cons r t, s => .cons r (RDs.append t s)
theorem RDs.take : ∀ {ds : List D} {vs : List V} (n : Nat), RDs G θ H ds vs → RDs G θ H (ds.take n) (vs.take n)
  | _, _, 0, _ => .nil
  | _, _, _ + 1, .nil => .nil
  | _, _, n + 1, .cons r t => .cons r (RDs.take n t)
theorem RDs.drop : ∀ {ds : List D} {vs : List V} (n : Nat), RDs G θ H ds vs → RDs G θ H (ds.drop n) (vs.drop n)
  | _, _, 0, r => r
  | _, _, _ + 1, .nil => .nil
  | _, _, n + 1, .cons _ t => RDs.drop n t
theorem RDs.set {x : D} {u : V} (r : RD G θ H x u) : ∀ {ds : List D} {vs : List V} (i : Nat), RDs G θ H ds vs → RDs G θ H (ds.set i x) (vs.set i u)
  | _, _, _, .nil => .nil
  | _, _, 0, .cons _ t => .cons r t
  | _, _, i + 1, .cons q t => .cons q (RDs.set r i t)
theorem RDs.eraseIdx : ∀ {ds : List D} {vs : List V} (i : Nat), RDs G θ H ds vs → RDs G θ H (ds.eraseIdx i) (vs.eraseIdx i)
  | _, _, _, .nil => .nil
  | _, _, 0, .cons _ t => t
  | _, _, i + 1, .cons q t => .cons q (RDs.eraseIdx i t)
theorem RDs.reverse : ∀ {ds : List D} {vs : List V}, RDs G θ H ds vs → RDs G θ H ds.reverse vs.reverse
  | _, _, .nil => .nil
  | _, _, .cons r t => by
    rw [List.reverse_cons, List.reverse_cons]
    exact RDs.append (RDs.reverse t) (.cons r .nil)

/-- a dict's entries -/
inductive RK (G : Gv) (θ : List Addr) (H : Hp) : List (Key × D) → List (Key × V) → Prop
  | nil : RK G θ H [] []
  | cons {k : Key} {d : D} {v : V} {r : List (Key × D)} {s : List (Key × V)} : RD G θ H d v → RK G θ H r s → RK G θ H ((k, d) :: r) ((k, v) :: s)
theorem RK.ext (e : Ext θ H θ' H') : ∀ {r : List (Key × D)} {s : List (Key × V)}, RK G θ H r s → RK G θ' H' r s
  | _, _, .nil => .nil
  | _, _, .cons h t => .cons (h.ext e) (RK.ext e t)
theorem RK.length : ∀ {r : List (Key × D)} {s : List (Key × V)}, RK G θ H r s → r.length = s.length
  | _, _, .nil => rfl
  | _, _, .cons _ t => congrArg (· + 1) (RK.length t)
/-- what stands at a cell -/
def RC (G : Gv) (θ : List Addr) (H : Hp) (c : C) (a : Addr) : Prop :=
  match c with
  | .lst ds => ∃ xs, H a = some (.lst xs) ∧ RDs G θ H ds xs
  | .dct kvs => ∃ es, H a = some (.dK es) ∧ RK G θ H kvs es
  | .rev ds k => ∃ xs, H a = some (.lst xs) ∧ RDs G θ H ds.reverse xs ∧ ds.length ≤ k

/-- the frame of a def: the heap and the cells at its entry -/
structure Fr0 where
  H : Hp
  θ : List Addr
/-- the store stands at θ -/
structure Rel (G : Gv) (F : Fr0) (θ : List Addr) (S : Store) (H : Hp) : Prop where
  len : θ.length = S.length
  nd : θ.Nodup
  cells : ∀ (n : Nat) (a : Addr) (c : C), θ[n]? = some a → S[n]? = some c → RC G θ H c a
  fr : Ext F.θ F.H θ H
  pht : ∀ a, G.ph a → H a ≠ none
/-- the slots -/
inductive RS (G : Gv) (θ : List Addr) (H : Hp) : Env → St → Prop
  | nil : RS G θ H [] []
  | no {o : Option V} {ρ : Env} {σ : St} : RS G θ H ρ σ → RS G θ H (none :: ρ) (o :: σ)
  | yes {d : D} {v : V} {ρ : Env} {σ : St} : RD G θ H d v → RS G θ H ρ σ → RS G θ H (some d :: ρ) (some v :: σ)
theorem RS.ext (e : Ext θ H θ' H') : ∀ {ρ : Env} {σ : St}, RS G θ H ρ σ → RS G θ' H' ρ σ
  | _, _, .nil => .nil
  | _, _, .no t => .no (RS.ext e t)
  | _, _, .yes r t => .yes (r.ext e) (RS.ext e t)
theorem RS.get : ∀ {ρ : Env} {σ : St} {i : Nat} {d : D}, RS G θ H ρ σ → ρ[i]? = some (some d) → ∃ v, σ[i]? = some (some v) ∧ RD G θ H d v
  | _, _, _, _, .nil, e => by simp at e
  | _, _, 0, _, .no _, e => by simp at e
  | _, _, 0, _, .yes r _, e => by simp at e; subst e; exact ⟨_, rfl, r⟩
  | _, _, i + 1, d, .no t, e => by
    obtain ⟨u, h1, h2⟩ := RS.get (i := i) (d := d) t (by simpa using e)
    exact ⟨u, by simpa using h1, h2⟩
  | _, _, i + 1, d, .yes _ t, e => by
    obtain ⟨u, h1, h2⟩ := RS.get (i := i) (d := d) t (by simpa using e)
    exact ⟨u, by simpa using h1, h2⟩
theorem RS.set {d : D} {v : V} (r : RD G θ H d v) : ∀ {ρ : Env} {σ : St} (i : Nat), RS G θ H ρ σ → RS G θ H (ρ.set i (some d)) (σ.set i (some v))
  | _, _, _, .nil => .nil
  | _, _, 0, .no t => .yes r t
  | _, _, 0, .yes _ t => .yes r t
  | _, _, i + 1, .no t => .no (RS.set r i t)
  | _, _, i + 1, .yes q t => .yes q (RS.set r i t)
/-- names forgotten -/
def wipeE (ρ : Env) : List Nat → Env
  | [] => ρ
  | i :: r => (wipeE ρ r).set i none
theorem RS.set_none : ∀ {ρ : Env} {σ : St} (i : Nat), RS G θ H ρ σ → RS G θ H (ρ.set i none) (σ.set i none)
  | _, _, _, .nil => .nil
  | _, _, 0, .no t => .no t
  | _, _, 0, .yes _ t => .no t
  | _, _, i + 1, .no t => .no (RS.set_none i t)
  | _, _, i + 1, .yes q t => .yes q (RS.set_none i t)
theorem RS.weaken : ∀ {ρ : Env} {σ : St} (i : Nat), RS G θ H ρ σ → RS G θ H (ρ.set i none) σ
  | _, _, _, .nil => .nil
  | _, _, 0, .no t => .no t
  | _, _, 0, .yes _ t => .no t
  | _, _, i + 1, .no t => .no (RS.weaken i t)
  | _, _, i + 1, .yes q t => .yes q (RS.weaken i t)
theorem RS.wipe {ρ : Env} {σ : St} (r : RS G θ H ρ σ) : ∀ vs : List Nat, RS G θ H (wipeE ρ vs) (wipe σ vs)
  | [] => r
  | i :: vs => RS.set_none i (RS.wipe r vs)
theorem RS.start : ∀ {ds : List D} {vs : List V} (k : Nat), RDs G θ H ds vs → RS G θ H (ds.map some ++ List.replicate k none) (vs.map some ++ List.replicate k none)
  | _, _, k, .nil => by
    induction k with
    | zero => exact .nil
    | succ k ih => exact .no ih
  | _, _, k, .cons r t => .yes r (RS.start k t)
end
end DM

namespace DM
open PySem PySem.Spec L2
open PyProof.Rows hiding St

/-- an exception: its class by number, what it keeps -/
structure Ex where
  c : Nat
  v : Option D
inductive R (α : Type) where
  | ok (a : α) (S : Store)
  | exc (x : Ex) (S : Store)
  | bad
def R.bind {α β : Type} : R α → (α → Store → R β) → R β
  | .ok a S, f => f a S
  | .exc x S, _ => .exc x S
  | .bad, _ => .bad
abbrev M (α : Type) := Env → Store → R α

/-- how an exception lies: its class, its dict -/
structure RX (G : Gv) (θ : List Addr) (H : Hp) (x : Ex) (c : Value) (a : Option Addr) : Prop where
  cls : ∃ C, G.ca x.c = some C ∧ c = .ref C
  val : ∀ d, x.v = some d → ∃ dd fs v, a = some dd ∧ H dd = some (.xd fs) ∧ fs.lookup (G.cn x.c) = some v ∧ RD G θ H d v

/-- the fixed things of a def's body -/
structure Bv where
  G : Gv
  F : Fr0
  W : WX

section
variable {α β γ : Type}
/-- what is wanted of a result -/
def Fin (B : Bv) (Rl : List Addr → Hp → α → β → Prop) (σ : St) (θ : List Addr) (H : Hp) (r : R α) (Q : β → Hp → Prop) : Prop :=
  match r with
  | .ok a S => ∀ θ' H' v, Ext θ H θ' H' → Rel B.G B.F θ' S H' → Rl θ' H' a v → Q v H'
  | .exc x S => ∀ θ' H' c d, Ext θ H θ' H' → Rel B.G B.F θ' S H' → RX B.G θ' H' x c d → B.W c d σ H'
  | .bad => False
theorem Fin.ext {B : Bv} {Rl : List Addr → Hp → α → β → Prop} {σ : St} {θ θ1 : List Addr} {H H1 : Hp} {r : R α} {Q : β → Hp → Prop} (e : Ext θ H θ1 H1) (h : Fin B Rl σ θ H r Q) : Fin B Rl σ θ1 H1 r Q := by
  cases r with
  | ok a S => exact fun θ' H' v e' => h θ' H' v (e.trans e')
  | exc x S => exact fun θ' H' c d e' => h θ' H' c d (e.trans e')
  | bad => exact h
theorem Fin.bind {B : Bv} {Rl : List Addr → Hp → α → β → Prop} {Rl2 : List Addr → Hp → γ → δ → Prop} {σ : St} {θ : List Addr} {H : Hp} {r : R α} {f : α → Store → R γ} {Q : δ → Hp → Prop} {P : β → Hp → Prop} (h : Fin B Rl2 σ θ H (r.bind f) Q)
    (k : ∀ a S1 θ1 H1 v, r = .ok a S1 → Ext θ H θ1 H1 → Rel B.G B.F θ1 S1 H1 → Rl θ1 H1 a v → Fin B Rl2 σ θ1 H1 (f a S1) Q → P v H1) : Fin B Rl σ θ H r P := by
  cases r with
  | ok a S => exact fun θ1 H1 v e1 R1 r1 => k a S θ1 H1 v rfl e1 R1 r1 (h.ext e1)
  | exc x S => exact h
  | bad => exact h
theorem Fin.ok {B : Bv} {Rl : List Addr → Hp → α → β → Prop} {σ : St} {θ θ' : List Addr} {H H' : Hp} {a : α} {S : Store} {v : β} {Q : β → Hp → Prop} (h : Fin B Rl σ θ H (.ok a S) Q) (e : Ext θ H θ' H') (R1 : Rel B.G B.F θ' S H') (r : Rl θ' H' a v) : Q v H' := h θ' H' v e R1 r
end

theorem Fin.ite {α β : Type} {B : Bv} {Rl : List Addr → Hp → α → β → Prop} {σ : St} {θ : List Addr} {H : Hp} {c : Prop} [Decidable c] {r : R α} {Q : β → Hp → Prop} (f : Fin B Rl σ θ H (if c then r else .bad) Q) : c ∧ Fin B Rl σ θ H r Q := by
  by_cases h : c
  · rw [if_pos h] at f; exact ⟨h, f⟩
  · rw [if_neg h] at f; exact f.elim
/-- the readings -/
def rd (B : Bv) {α β : Type} (Rl : List Addr → Hp → α → β → Prop) (m : M α) : St → Hp → (β → Hp → Prop) → Prop := fun σ H Q =>
  ∃ (ρ : Env) (S : Store) (θ : List Addr), Rel B.G B.F θ S H ∧ RS B.G θ H ρ σ ∧ Fin B Rl σ θ H (m ρ S) Q
abbrev rdE (B : Bv) (m : M D) : TE := rd B (RD B.G) m
abbrev rdT (B : Bv) (m : M Bool) : TT := rd B (fun _ _ a b => a = b) m
abbrev rdA (B : Bv) (m : M (List D)) : TA := rd B (RDs B.G) m

theorem PE.imp {X : Cx} {e : Expr} {t t' : TE} (h : PE X e t) (k : ∀ σ H Q, t' σ H Q → t σ H Q) : PE X e t' := ⟨fun pins s σ H Q I q => h.run pins s σ H Q I (k σ H Q q)⟩
theorem PT.imp {X : Cx} {e : Expr} {t t' : TT} (h : PT X e t) (k : ∀ σ H Q, t' σ H Q → t σ H Q) : PT X e t' := ⟨fun pins s σ H Q I q => h.run pins s σ H Q I (k σ H Q q)⟩
theorem PW.imp {X : Cx} {e : Expr} {t t' : TT} (h : PW X e t) (k : ∀ σ H Q, t' σ H Q → t σ H Q) : PW X e t' := ⟨fun wh pins s σ H Q I q => h.run wh pins s σ H Q I (k σ H Q q)⟩
theorem PA.imp {X : Cx} {e : List Expr} {t t' : TA} (h : PA X e t) (k : ∀ σ H Q, t' σ H Q → t σ H Q) : PA X e t' := ⟨fun pos pins s σ H Q I q => h.run pos pins s σ H Q I (k σ H Q q)⟩
theorem PS.imp {X : Cx} {e : Stmt} {t t' : TS} (h : PS X e t) (k : ∀ D σ H, t' D σ H → t D σ H) : PS X e t' := ⟨fun pins s σ H D I q => h.run pins s σ H D I (k D σ H q)⟩
theorem PSs.imp {X : Cx} {e : List Stmt} {t t' : TS} (h : PSs X e t) (k : ∀ D σ H, t' D σ H → t D σ H) : PSs X e t' := ⟨fun pins s σ H D I q => h.run pins s σ H D I (k D σ H q)⟩

section
variable {G : Gv} {F : Fr0} {θ : List Addr} {S : Store} {H : Hp} {a p : Addr} {o o' : HO} {ds : List D} {xs : List V}
theorem keep_new (h : H p = none) : Keep θ H (upd H p o) :=
  ⟨fun a u e _ _ => by rw [upd_ne (ne_of_none e h)]; exact e, fun a e => by
    by_cases q : a = p
    · subst q; rw [upd_same] at e; cases e
    · rw [upd_ne q] at e; exact e⟩
theorem keep_cell (h : H p = some o) (hp : p ∈ θ) (ht : ¬ isTup o) : Keep θ H (upd H p o') :=
  ⟨fun a u e c _ => by
    by_cases q : a = p
    · subst q
      rw [h] at e; cases e
      exact absurd c (fun z => z.elim (fun z => z hp) ht)
    · rw [upd_ne q]; exact e, fun a e => by
    by_cases q : a = p
    · subst q; rw [upd_same] at e; cases e
    · rw [upd_ne q] at e; exact e⟩
theorem Rel.mem_some (R0 : Rel G F θ S H) (h : a ∈ θ) : ∃ (n : Nat) (c : C), θ[n]? = some a ∧ S[n]? = some c ∧ RC G θ H c a := by
  obtain ⟨n, hn, e⟩ := List.getElem_of_mem h
  have h1 : θ[n]? = some a := by rw [List.getElem?_eq_getElem hn, e]
  have h2 : n < S.length := R0.len ▸ hn
  exact ⟨n, S[n], h1, List.getElem?_eq_getElem h2, R0.cells n a _ h1 (List.getElem?_eq_getElem h2)⟩
theorem rc_some {c : C} (h : RC G θ H c a) : ∃ o, H a = some o ∧ ¬ isTup o ∧ notTbl o := by
  cases c with
  | lst ds => obtain ⟨xs, e, _⟩ := h; exact ⟨_, e, fun z => z, trivial⟩
  | dct kvs => obtain ⟨xs, e, _⟩ := h; exact ⟨_, e, fun z => z, trivial⟩
  | rev rs0 k0 => obtain ⟨xs, e, _⟩ := h; exact ⟨_, e, fun z => z, trivial⟩
theorem rc_ext {θ' : List Addr} {H' : Hp} {c : C} (e : Ext θ H θ' H') (k : ∀ o, H a = some o → H' a = some o) (h : RC G θ H c a) : RC G θ' H' c a := by
  cases c with
  | lst ds => obtain ⟨xs, h1, h2⟩ := h; exact ⟨xs, k _ h1, h2.ext e⟩
  | dct kvs => obtain ⟨xs, h1, h2⟩ := h; exact ⟨xs, k _ h1, h2.ext e⟩
  | rev rs0 k0 => obtain ⟨xs, h1, h2, h3⟩ := h; exact ⟨xs, k _ h1, h2.ext e, h3⟩
theorem Rel.not_new (R0 : Rel G F θ S H) (h : H p = none) : p ∉ θ := fun m => by
  obtain ⟨n, c, _, _, r⟩ := R0.mem_some m
  obtain ⟨xs, e, _⟩ := rc_some r
  rw [h] at e; cases e
/-- an object that is no cell is laid -/
theorem Rel.laid (R0 : Rel G F θ S H) (h : H p = none) : Rel G F θ S (upd H p o) := by
  have e : Ext θ H θ (upd H p o) := .of_keep (keep_new h)
  exact ⟨R0.len, R0.nd, fun n a c h1 h2 => rc_ext e (fun u q => by rw [upd_ne (ne_of_none q h)]; exact q) (R0.cells n a c h1 h2), R0.fr.trans e, fun a h z => R0.pht a h (e.keep.gr a z)⟩
/-- a new cell -/
theorem ext_cell (h : H p = none) : Ext θ H (θ ++ [p]) (upd H p o) := ⟨⟨[p], rfl, fun a m => by rw [List.mem_singleton.mp m]; exact h⟩, keep_new h⟩
theorem Rel.allocC {c0 : C} (R0 : Rel G F θ S H) (h : H p = none) (r : RC G (θ ++ [p]) (upd H p o) c0 p) : Rel G F (θ ++ [p]) (S ++ [c0]) (upd H p o) := by
  have e : Ext θ H (θ ++ [p]) (upd H p o) := ext_cell h
  refine ⟨by simp [R0.len], ?_, fun n a c h1 h2 => ?_, R0.fr.trans e, fun a h z => R0.pht a h (e.keep.gr a z)⟩
  · rw [List.nodup_append]
    exact ⟨R0.nd, by simp, fun a ha b hb => by
      rw [List.mem_singleton.mp hb]
      rintro rfl
      exact R0.not_new h ha⟩
  · by_cases hn : n < θ.length
    · rw [List.getElem?_append_left hn] at h1
      rw [List.getElem?_append_left (R0.len ▸ hn)] at h2
      exact rc_ext e (fun u q => by rw [upd_ne (ne_of_none q h)]; exact q) (R0.cells n a c h1 h2)
    · have hl : n = θ.length := by
        have := (List.getElem?_eq_some_iff.mp h1).1
        simp at this
        omega
      subst hl
      rw [List.getElem?_concat_length] at h1
      rw [R0.len, List.getElem?_concat_length] at h2
      cases h1; cases h2
      exact r
theorem Rel.alloc (R0 : Rel G F θ S H) (h : H p = none) (r : RDs G θ H ds xs) : Rel G F (θ ++ [p]) (S ++ [.lst ds]) (upd H p (.lst xs)) := R0.allocC h ⟨xs, upd_same, r.ext (ext_cell h)⟩
theorem RD.new {H' : Hp} (R0 : Rel G F θ S H) : RD G (θ ++ [p]) H' (.ref S.length) (.ref p) := .ref (by rw [← R0.len, List.getElem?_concat_length])
/-- a changed cell -/
theorem Rel.writeC {n : Nat} {c0 c1 : C} (R0 : Rel G F θ S H) (h1 : θ[n]? = some a) (h2 : S[n]? = some c0) (r : Ext θ H θ (upd H a o) → RC G θ (upd H a o) c1 a) : Ext θ H θ (upd H a o) ∧ Rel G F θ (S.set n c1) (upd H a o) := by
  obtain ⟨ys, e0, nt, _⟩ := rc_some (R0.cells n a _ h1 h2)
  have e : Ext θ H θ (upd H a o) := .of_keep (keep_cell e0 (List.mem_of_getElem? h1) nt)
  refine ⟨e, by simp [R0.len], R0.nd, fun k b c k1 k2 => ?_, R0.fr.trans e, fun a h z => R0.pht a h (e.keep.gr a z)⟩
  by_cases hk : k = n
  · subst hk
    rw [h1] at k1; cases k1
    rw [List.getElem?_set_self (List.getElem?_eq_some_iff.mp h2).1] at k2
    cases k2
    exact r e
  · rw [List.getElem?_set_ne (Ne.symm hk)] at k2
    refine rc_ext e (fun u q => ?_) (R0.cells k b c k1 k2)
    have hb : b ≠ a := by
      rintro rfl
      obtain ⟨i1, j1⟩ := List.getElem?_eq_some_iff.mp k1
      obtain ⟨i2, j2⟩ := List.getElem?_eq_some_iff.mp h1
      exact hk ((List.getElem_inj R0.nd).mp (j1.trans j2.symm))
    rw [upd_ne hb]; exact q
theorem Rel.write {n : Nat} {ds0 : List D} (R0 : Rel G F θ S H) (h1 : θ[n]? = some a) (h2 : S[n]? = some (.lst ds0)) (r : RDs G θ H ds xs) : Ext θ H θ (upd H a (.lst xs)) ∧ Rel G F θ (S.set n (.lst ds)) (upd H a (.lst xs)) :=
  R0.writeC h1 h2 fun e => ⟨xs, upd_same, r.ext e⟩
end

/-- a list that may be added to others: a cell, or a list that nobody changes -/
def getP : D → Store → Option (List D)
  | .lst ds, _ => some ds
  | .brw ds, _ => some ds
  | .ref n, S => match S[n]? with
    | some (.lst ds) => some ds
    | _ => none
  | _, _ => none
def getL : D → Store → Option (List D)
  | .kst ds, _ => some ds
  | d, S => getP d S
/-- a list or a tuple -/
def getSeq : D → Store → Option (List D)
  | .tup ds, _ => some ds
  | .pr ds, _ => some ds
  | d, S => getL d S
section
variable {G : Gv} {F : Fr0} {θ : List Addr} {S : Store} {H : Hp} {d : D} {v : V} {ds : List D}
theorem getP_ok (R0 : Rel G F θ S H) (r : RD G θ H d v) (e : getP d S = some ds) : ∃ a xs, v = .ref a ∧ H a = some (.lst xs) ∧ RDs G θ H ds xs := by
  cases r with
  | lst h0 h1 h2 h3 => cases e; exact ⟨_, _, rfl, h2, h3⟩
  | brw h1 h2 h3 => cases e; exact ⟨_, _, rfl, h2, h3⟩
  | @ref n a h =>
    have e' : (match S[n]? with | some (.lst ds) => some ds | _ => none) = some ds := e
    cases q : S[n]? with
    | none => rw [q] at e'; cases e'
    | some c =>
      cases c with
      | dct kvs => rw [q] at e'; cases e'
      | rev rs0 k0 => rw [q] at e'; cases e'
      | lst es =>
        rw [q] at e'
        cases e'
        obtain ⟨xs, h1, h2⟩ := R0.cells _ _ _ h q
        exact ⟨_, xs, rfl, h1, h2⟩
  | _ => cases e
theorem getL_ok (R0 : Rel G F θ S H) (r : RD G θ H d v) (e : getL d S = some ds) : ∃ a xs, v = .ref a ∧ SqL G.K H a xs ∧ RDs G θ H ds xs := by
  have go : getP d S = some ds → ∃ a xs, v = .ref a ∧ SqL G.K H a xs ∧ RDs G θ H ds xs := fun e => by
    obtain ⟨a, xs, e1, e2, e3⟩ := getP_ok R0 r e
    exact ⟨a, xs, e1, .inl (.inl e2), e3⟩
  cases r with
  | kst h1 h2 => cases e; exact ⟨_, _, rfl, h1.sq, h2⟩
  | lst h0 h1 h2 h3 => exact go e
  | brw h1 h2 h3 => exact go e
  | ref h => exact go e
  | _ => cases e
theorem getSeq_ok (R0 : Rel G F θ S H) (r : RD G θ H d v) (e : getSeq d S = some ds) : ∃ a xs, v = .ref a ∧ (SqL G.K H a xs ∨ SqT G.K H a xs) ∧ RDs G θ H ds xs := by
  have go : getL d S = some ds → ∃ a xs, v = .ref a ∧ (SqL G.K H a xs ∨ SqT G.K H a xs) ∧ RDs G θ H ds xs := fun e => by
    obtain ⟨a, xs, e1, e2, e3⟩ := getL_ok R0 r e
    exact ⟨a, xs, e1, .inl e2, e3⟩
  cases r with
  | tup h1 h2 => cases e; exact ⟨_, _, rfl, .inr h1.sq, h2⟩
  | pr h1 h2 => cases e; exact ⟨_, _, rfl, .inr h1, h2⟩
  | kst h1 h2 => exact go e
  | lst h0 h1 h2 h3 => exact go e
  | brw h1 h2 h3 => exact go e
  | ref h => exact go e
  | _ => cases e
end

section
variable {X : Cx} {B : Bv} {pos : Pos}
def mVar (i : Nat) : M D := fun ρ S => match ρ[i]? with
  | some (some d) => .ok d S
  | _ => .bad
def mC (d : D) : M D := fun _ S => .ok d S
theorem de_var {i : Nat} {x : Str} (h : PE X (.Name x pos) (tVar i)) : PE X (.Name x pos) (rdE B (mVar i)) := PE.imp h fun σ H Q ⟨ρ, S, θ, R0, rs, f⟩ => by
  unfold mVar at f
  cases q : ρ[i]? with
  | none => rw [q] at f; exact f.elim
  | some o =>
    cases o with
    | none => rw [q] at f; exact f.elim
    | some d =>
      rw [q] at f
      obtain ⟨v, e, r⟩ := rs.get q
      exact ⟨v, e, f.ok .refl R0 r⟩
theorem de_c {e : Expr} {d : D} {v : V} (h : PE X e (tC v)) (r : ∀ θ H, RD B.G θ H d v) : PE X e (rdE B (mC d)) := PE.imp h fun σ H Q ⟨ρ, S, θ, R0, rs, f⟩ => f.ok .refl R0 (r θ H)
theorem de_int {i j} : PE X (.Constant (.int i) j pos) (rdE B (mC (.int i))) := de_c pe_int fun _ _ => .int i
theorem de_bl {b j} : PE X (.Constant (.bool b) j pos) (rdE B (mC (.bl b))) := de_c pe_bl fun _ _ => .bl b
theorem de_non {j} : PE X (.Constant .none j pos) (rdE B (mC .non)) := de_c pe_non fun _ _ => .non
theorem de_str {x j} : PE X (.Constant (.str x) j pos) (rdE B (mC (.str x))) := de_c pe_str fun _ _ => .str x

def mNil : M (List D) := fun _ S => .ok [] S
def mCons (a : M D) (r : M (List D)) : M (List D) := fun ρ S => (a ρ S).bind fun x S1 => (r ρ S1).bind fun xs S2 => .ok (x :: xs) S2
theorem da_nil : PA X [] (rdA B mNil) := PA.imp pa_nil fun σ H Q ⟨ρ, S, θ, R0, rs, f⟩ => f.ok .refl R0 .nil
theorem da_cons {e : Expr} {es : List Expr} {a : M D} {r : M (List D)} (ha : PE X e (rdE B a)) (hr : PA X es (rdA B r)) (hs : starEach (e :: es) X.env = (false, eval e X.env) :: starEach es X.env := by rfl) : PA X (e :: es) (rdA B (mCons a r)) :=
  PA.imp (pa_cons ha hr hs) fun σ H Q ⟨ρ, S, θ, R0, rs, f⟩ => ⟨ρ, S, θ, R0, rs, Fin.bind f fun x S1 θ1 H1 v _ e1 R1 r1 f1 => ⟨ρ, S1, θ1, R1, rs.ext e1, Fin.bind f1 fun xs S2 θ2 H2 vs _ e2 R2 r2 f2 => f2.ok .refl R2 (.cons (r1.ext e2) r2)⟩⟩
def tupD (ds : List D) (S : Store) : R D := if ds.length ≤ sizeLine then .ok (.tup ds) S else .bad
def lstD (ds : List D) (S : Store) : R D := if ds.length ≤ sizeLine then .ok (.ref S.length) (S ++ [.lst ds]) else .bad
def mTup (a : M (List D)) : M D := fun ρ S => (a ρ S).bind fun ds S1 => tupD ds S1
def mLst (a : M (List D)) : M D := fun ρ S => (a ρ S).bind fun ds S1 => lstD ds S1
/-- a new tuple -/
theorem fin_tup {σ : St} {θ : List Addr} {S : Store} {H : Hp} {ds : List D} {xs : List V} {Q : VK} (R0 : Rel B.G B.F θ S H) (r : RDs B.G θ H ds xs) (f : Fin B (RD B.G) σ θ H (tupD ds S) Q) : xs.length ≤ sizeLine ∧ ∀ (p : Addr) (o : Obj), o.cls = .type "tuple" → o.dict = none → H p = none → Q (.ref p) (upd H p (.frz o (.tup xs))) := by
  unfold tupD at f
  split at f
  · rename_i hz
    refine ⟨by rw [← r.length]; exact hz, fun p o h1 h2 hp => ?_⟩
    have e : Ext θ H θ (upd H p (.frz o (.tup xs))) := .of_keep (keep_new hp)
    exact f.ok e (R0.laid hp) (.tup (.new h1 h2) (r.ext e))
  · exact f.elim
/-- a display of a tuple, its object told -/
def tTupF (t : TA) : TE := fun σ H Q => t σ H fun xs H1 => xs.length ≤ sizeLine ∧ ∀ (p : Addr) (o : Obj), o.cls = .type "tuple" → o.dict = none → H1 p = none → Q (.ref p) (upd H1 p (.frz o (.tup xs)))
theorem pe_tupF {es : List Expr} {k : Nat} {t : TA} (h : PA X es t) : PE X (.Tuple es k pos) (tTupF t) := ⟨fun pins s σ H Q I hq => wpAny_Tuple_spliced (thn (h.run pos pins s σ H _ I hq) fun us s1 ⟨xs, H1, I1, r, z, q⟩ => ⟨by rw [← r.length]; exact z, by
    have hf := I1.hok.fresh (Nat.le_refl s1.heap.objs.size)
    exact ⟨.ref s1.heap.objs.size, upd H1 s1.heap.objs.size (.frz (seqObj "tuple" us.toArray 0) (.tup xs)), I1.laid (t' := s1.toks) (fun b u e => Heap.get?_push_of_some _ e) (Nat.le_refl _) ⟨Heap.get?_push_size _ rfl, z, us, r, ⟨_, Heap.get?_push_size _ rfl, rfl, _, rfl⟩⟩, rfl, q _ _ rfl rfl hf⟩⟩)⟩
/-- a new list -/
theorem fin_lst {σ : St} {θ : List Addr} {S : Store} {H : Hp} {ds : List D} {xs : List V} {Q : VK} (R0 : Rel B.G B.F θ S H) (r : RDs B.G θ H ds xs) (f : Fin B (RD B.G) σ θ H (lstD ds S) Q) : xs.length ≤ sizeLine ∧ ∀ p, H p = none → Q (.ref p) (upd H p (.lst xs)) := by
  unfold lstD at f
  split at f
  · rename_i hz
    exact ⟨by rw [← r.length]; exact hz, fun p hp => f.ok (ext_cell hp) (R0.alloc hp r) (RD.new R0)⟩
  · exact f.elim
theorem de_tup {es : List Expr} {k : Nat} {a : M (List D)} (ha : PA X es (rdA B a)) : PE X (.Tuple es k pos) (rdE B (mTup a)) :=
  PE.imp (pe_tupF ha) fun σ H Q ⟨ρ, S, θ, R0, rs, f⟩ => ⟨ρ, S, θ, R0, rs, Fin.bind f fun x S1 θ1 H1 v _ e1 R1 r1 f1 => fin_tup R1 r1 f1⟩
theorem de_lst {es : List Expr} {a : M (List D)} (ha : PA X es (rdA B a)) : PE X (.List es pos) (rdE B (mLst a)) :=
  PE.imp (pe_lst ha) fun σ H Q ⟨ρ, S, θ, R0, rs, f⟩ => ⟨ρ, S, θ, R0, rs, Fin.bind f fun x S1 θ1 H1 v _ e1 R1 r1 f1 => fin_lst R1 r1 f1⟩

abbrev O2 := D → D → Store → R D
def mBin (o : O2) (a b : M D) : M D := fun ρ S => (a ρ S).bind fun x S1 => (b ρ S1).bind fun y S2 => o x y S2
/-- r serves what o tells -/
def Den2 (B : Bv) (r : R2) (o : O2) : Prop := ∀ (σ : St) (θ : List Addr) (S : Store) (H : Hp) (d e : D) (x y : V) (Q : VK), Rel B.G B.F θ S H → RD B.G θ H d x → RD B.G θ H e y → Fin B (RD B.G) σ θ H (o d e S) Q → r x y H Q
theorem imp_bin {a b : M D} {r : R2} {o : O2} (hd : Den2 B r o) : ∀ (σ : St) (H : Hp) (Q : VK), rdE B (mBin o a b) σ H Q → tOp r (rdE B a) (rdE B b) σ H Q := fun σ H Q ⟨ρ, S, θ, R0, rs, f⟩ =>
  ⟨ρ, S, θ, R0, rs, Fin.bind f fun x S1 θ1 H1 v _ e1 R1 r1 f1 => ⟨ρ, S1, θ1, R1, rs.ext e1, Fin.bind f1 fun y S2 θ2 H2 u _ e2 R2 r2 f2 => hd σ θ2 S2 H2 x y v u Q R2 (r1.ext e2) r2 f2⟩⟩
theorem de_bin {op : Operator} {r : R2} {o : O2} {a b : Expr} {ma mb : M D} (ho : OpR X (binaryOp op) r) (hd : Den2 B r o) (ha : PE X a (rdE B ma)) (hb : PE X b (rdE B mb)) : PE X (.BinOp a op b pos) (rdE B (mBin o ma mb)) :=
  PE.imp (pe_op ho ha hb) (imp_bin hd)
theorem Den2.or {r r' : R2} {o : O2} (h : ∀ (σ : St) (θ : List Addr) (S : Store) (H : Hp) (d e : D) (x y : V) (Q : VK), Rel B.G B.F θ S H → RD B.G θ H d x → RD B.G θ H e y → Fin B (RD B.G) σ θ H (o d e S) Q → r x y H Q ∨ r' x y H Q) : Den2 B (fun x y H Q => r x y H Q ∨ r' x y H Q) o := h
end
end DM

namespace DM
open PySem PySem.Spec L2
open PyProof.Rows hiding St

section
variable {X : Cx} {B : Bv} {pos : Pos}
abbrev FinE (B : Bv) (σ : St) (θ : List Addr) (H : Hp) (r : R D) (Q : VK) : Prop := Fin B (RD B.G) σ θ H r Q

/-- t + u, the object told -/
def rCatF (K : PySem.W.Frag) : R2 := fun x y H Q => ∃ a b xs ys, x = .ref a ∧ y = .ref b ∧ SqT K H a xs ∧ SqT K H b ys ∧ xs.length + ys.length ≤ sizeLine ∧
  (xs = [] → Q (.ref b) H) ∧ (xs ≠ [] → ys = [] → Q (.ref a) H) ∧ (xs ≠ [] → ys ≠ [] → ∀ (p : Addr) (o : Obj), o.cls = .type "tuple" → o.dict = none → H p = none → Q (.ref p) (upd H p (.frz o (.tup (xs ++ ys)))))
theorem op_catF : OpR X (binaryOp .Add) (rCatF X.K) := by
  intro pins s σ H x y v u Q I rx ry h
  obtain ⟨a, b, xs, ys, rfl, rfl, ha, hb, hz, q0, q1, q2⟩ := h
  cases rx
  cases ry
  obtain ⟨us, k1, p1, _⟩ := I.tuple ha
  obtain ⟨ws, k2, p2, _⟩ := I.tuple hb
  by_cases hx : us = []
  · subst hx
    cases k1
    exact cat_tup0 p1 p2 ⟨.ref b, H, I, rfl, q0 rfl⟩
  · have hx' : xs ≠ [] := fun z => by subst z; cases k1; exact hx rfl
    refine HT.cat_tup p1 p2 hx (fun z => ⟨.ref a, H, I, rfl, q1 hx' (by subst z; cases k2; rfl)⟩) (fun z => ?_) (by rw [← k1.length, ← k2.length]; exact hz)
    have hy' : ys ≠ [] := fun e => by subst e; cases k2; exact z rfl
    exact ⟨.ref s.heap.objs.size, _, I.laid (t' := s.toks) (o := .frz (seqObj "tuple" (us ++ ws).toArray 0) (.tup (xs ++ ys))) (fun _ _ q => Heap.get?_push_of_some _ q) (Nat.le_refl _) ⟨Heap.get?_push_size _ rfl, by rw [List.length_append]; exact hz, _, k1.append k2, IsTup.new _ _⟩, rfl, q2 hx' hy' _ _ rfl rfl (I.hok.fresh (Nat.le_refl _))⟩
def addD : O2
  | .int i, .int j, S => .ok (.int (i + j)) S
  | .int i, .bl k, S => .ok (.int (i + if k then 1 else 0)) S
  | .str x, .str y, S => if x.length + y.length ≤ sizeLine then .ok (.str (x ++ y)) S else .bad
  | .tup xs, .tup ys, S => if xs.length + ys.length ≤ sizeLine then .ok (.tup (xs ++ ys)) S else .bad
  | .tup xs, .pr ys, S => if xs.length + ys.length ≤ sizeLine then .ok (.pr (xs ++ ys)) S else .bad
  | .pr xs, .tup ys, S => if xs.length + ys.length ≤ sizeLine then .ok (.pr (xs ++ ys)) S else .bad
  | .pr xs, .pr ys, S => if xs.length + ys.length ≤ sizeLine then .ok (.pr (xs ++ ys)) S else .bad
  | d, e, S => match getP d S, getP e S with
    | some xs, some ys => lstD (xs ++ ys) S
    | _, _ => .bad
abbrev rAddA (K : PySem.W.Frag) : R2 := fun x y H Q => rI0 (fun i j => .int (i + j)) x y H Q ∨ (∃ i k, x = .int i ∧ y = .bl k ∧ Q (.int (i + PyProof.Rows.b2i k)) H) ∨
  (∃ i j, x = .str i ∧ y = .str j ∧ i.length + j.length ≤ sizeLine ∧ Q (.str (i ++ j)) H) ∨ rCatF K x y H Q ∨ rCat x y H Q
theorem opR_add : OpR X (binaryOp .Add) (rAddA X.K) := op_add.or (op_add_ib.or (op_add_str.or (op_catF.or op_cat)))
theorem den_add (hK : B.G.K = X.K) : Den2 B (rAddA X.K) addD := by
  intro σ θ S H d e x y Q R0 r1 r2 f
  have lists : (match getP d S, getP e S with
    | some xs, some ys => lstD (xs ++ ys) S
    | _, _ => .bad) = addD d e S → rAddA X.K x y H Q := fun q => by
    rw [← q] at f
    cases q1 : getP d S with
    | none => rw [q1] at f; exact f.elim
    | some xs =>
      cases q2 : getP e S with
      | none => rw [q1, q2] at f; exact f.elim
      | some ys =>
        rw [q1, q2] at f
        obtain ⟨a, us, rfl, h1, h2⟩ := getP_ok R0 r1 q1
        obtain ⟨b, ws, rfl, h3, h4⟩ := getP_ok R0 r2 q2
        have g := fin_lst R0 (h2.append h4) f
        exact .inr (.inr (.inr (.inr ⟨a, b, us, ws, rfl, rfl, h1, h3, by simpa using g.1, g.2⟩)))
  have weak : ∀ {a b : Addr} {us ws : List V} (xs ys : List D), Fin B (RD B.G) σ θ H (if xs.length + ys.length ≤ sizeLine then .ok (.pr (xs ++ ys)) S else .bad) Q → SqT X.K H a us → RDs B.G θ H xs us → SqT X.K H b ws → RDs B.G θ H ys ws → rAddA X.K (.ref a) (.ref b) H Q := fun {a b us ws} xs ys f h1 h2 h3 h4 => by
    obtain ⟨hz, f⟩ := Fin.ite (c := xs.length + ys.length ≤ sizeLine) f
    refine .inr (.inr (.inr (.inl ⟨a, b, us, ws, rfl, rfl, h1, h3, by rw [← h2.length, ← h4.length]; exact hz, fun e0 => ?_, fun _ e1 => ?_, fun _ _ p o o1 o2 hp => ?_⟩)))
    · subst e0
      cases h2
      exact f.ok .refl R0 (.pr (by rw [hK]; exact h3) h4)
    · subst e1
      cases h4
      rw [List.append_nil] at f
      exact f.ok .refl R0 (.pr (by rw [hK]; exact h1) h2)
    · have e : Ext θ H θ (upd H p (.frz o (.tup (us ++ ws)))) := .of_keep (keep_new hp)
      exact f.ok e (R0.laid hp) (.pr (TupF.new o1 o2).sq ((h2.append h4).ext e))
  cases d with
  | int i =>
    cases r1
    cases e with
    | int j => cases r2; exact .inl ⟨i, j, rfl, rfl, f.ok .refl R0 (.int _)⟩
    | bl k => cases r2; exact .inr (.inl ⟨i, k, rfl, rfl, f.ok .refl R0 (by cases k <;> exact .int _)⟩)
    | _ => exact lists rfl
  | str s =>
    cases r1
    cases e with
    | str t =>
      cases r2
      obtain ⟨hz, f⟩ := Fin.ite f
      exact .inr (.inr (.inl ⟨s, t, rfl, rfl, hz, f.ok .refl R0 (.str _)⟩))
    | _ => exact lists rfl
  | tup xs =>
    cases e with
    | tup ys =>
      cases r1 with
      | @tup a us _ h1 h2 =>
        cases r2 with
        | @tup b ws _ h3 h4 =>
          obtain ⟨hz, f⟩ := Fin.ite (c := xs.length + ys.length ≤ sizeLine) f
          rw [hK] at h1 h3
          refine .inr (.inr (.inr (.inl ⟨a, b, us, ws, rfl, rfl, h1.sq, h3.sq, by rw [← h2.length, ← h4.length]; exact hz, fun e0 => ?_, fun _ e1 => ?_, fun _ _ p o o1 o2 hp => ?_⟩)))
          · subst e0
            cases h2
            exact f.ok .refl R0 (.tup (by rw [hK]; exact h3) h4)
          · subst e1
            cases h4
            rw [List.append_nil] at f
            exact f.ok .refl R0 (.tup (by rw [hK]; exact h1) h2)
          · have e : Ext θ H θ (upd H p (.frz o (.tup (us ++ ws)))) := .of_keep (keep_new hp)
            exact f.ok e (R0.laid hp) (.tup (.new o1 o2) ((h2.append h4).ext e))
    | pr ys =>
      cases r1 with
      | @tup a us _ h1 h2 =>
        cases r2 with
        | @pr b ws _ h3 h4 => exact weak xs ys f (by rw [hK] at h1; exact h1.sq) h2 (by rw [hK] at h3; exact h3) h4
    | _ => exact lists rfl
  | pr xs =>
    cases e with
    | tup ys =>
      cases r1 with
      | @pr a us _ h1 h2 =>
        cases r2 with
        | @tup b ws _ h3 h4 => exact weak xs ys f (by rw [hK] at h1; exact h1) h2 (by rw [hK] at h3; exact h3.sq) h4
    | pr ys =>
      cases r1 with
      | @pr a us _ h1 h2 =>
        cases r2 with
        | @pr b ws _ h3 h4 => exact weak xs ys f (by rw [hK] at h1; exact h1) h2 (by rw [hK] at h3; exact h3) h4
    | _ => exact lists rfl
  | _ => exact lists rfl
theorem de_add {a b : Expr} {ma mb : M D} (hK : B.G.K = X.K) (ha : PE X a (rdE B ma)) (hb : PE X b (rdE B mb)) : PE X (.BinOp a .Add b pos) (rdE B (mBin addD ma mb)) := de_bin opR_add (den_add hK) ha hb

def intD (C : Int → Int → Bool) (g : Int → Int → Int) : O2
  | .int i, .int j, S => if C i j then .ok (.int (g i j)) S else .bad
  | _, _, _ => .bad
theorem den_int {C : Int → Int → Bool} {C' : Int → Int → Prop} {g : Int → Int → Int} (h : ∀ i j, C i j = true → C' i j) : Den2 B (rI C' fun i j => .int (g i j)) (intD C g) := by
  intro σ θ S H d e x y Q R0 r1 r2 f
  cases d with
  | int i =>
    cases e with
    | int j =>
      cases r1; cases r2
      obtain ⟨hc, f⟩ := Fin.ite f
      exact ⟨i, j, rfl, rfl, h _ _ hc, f.ok .refl R0 (.int _)⟩
    | _ => exact f.elim
  | _ => exact f.elim
def subD : O2
  | .int i, .int j, S => .ok (.int (i - j)) S
  | _, _, _ => .bad
theorem den_sub : Den2 B (rI0 fun i j => .int (i - j)) subD := by
  intro σ θ S H d e x y Q R0 r1 r2 f
  cases d with
  | int i =>
    cases e with
    | int j => cases r1; cases r2; exact ⟨i, j, rfl, rfl, f.ok .refl R0 (.int _)⟩
    | _ => exact f.elim
  | _ => exact f.elim
theorem de_sub {a b : Expr} {ma mb : M D} (ha : PE X a (rdE B ma)) (hb : PE X b (rdE B mb)) : PE X (.BinOp a .Sub b pos) (rdE B (mBin subD ma mb)) := de_bin op_sub den_sub ha hb
def mulC (i j : Int) : Bool := decide (i.natAbs.log2 + j.natAbs.log2 < 1000000)
def repC (k : Int) (n : Nat) : Bool := decide (-(2 ^ 63) ≤ k) && decide (k < 2 ^ 63) && decide (n * k.toNat ≤ sizeLine)
def repL (xs : Option (List D)) (k : Int) (S : Store) : R D := match xs with
  | some xs => if repC k xs.length then lstD (List.replicate k.toNat xs).flatten S else .bad
  | none => .bad
def repTC (k : Int) (n : Nat) : Bool := !(n == 0) && decide (2 ≤ k) && decide (k ≤ 1000) && decide (n ≤ 1000)
def mulD : O2
  | .int i, .int j, S => if mulC i j then .ok (.int (i * j)) S else .bad
  | .tup xs, .int k, S => if repTC k xs.length then .ok (.pr (List.replicate k.toNat xs).flatten) S else .bad
  | .pr xs, .int k, S => if repTC k xs.length then .ok (.pr (List.replicate k.toNat xs).flatten) S else .bad
  | d, .int k, S => repL (getP d S) k S
  | _, _, _ => .bad
theorem RDs.rep {G : Gv} {θ : List Addr} {H : Hp} {ds : List D} {vs : List V} (r : RDs G θ H ds vs) : ∀ n : Nat, RDs G θ H (List.replicate n ds).flatten (List.replicate n vs).flatten
  | 0 => .nil
  | n + 1 => by
    rw [List.replicate_succ, List.replicate_succ, List.flatten_cons, List.flatten_cons]
    exact r.append (RDs.rep r n)
abbrev rMulA (K : PySem.W.Frag) : R2 := fun x y H Q => rI CMulW (fun i j => .int (i * j)) x y H Q ∨ rRepT K x y H Q ∨ rRep x y H Q
theorem opR_mul : OpR X (binaryOp .Mult) (rMulA X.K) := op_mulW.or (op_repT.or op_rep)
theorem den_mul (hK : B.G.K = X.K) : Den2 B (rMulA X.K) mulD := by
  intro σ θ S H d e x y Q R0 r1 r2 f
  have lists : ∀ k, e = .int k → mulD d e S = repL (getP d S) k S → rMulA X.K x y H Q := fun k he q => by
    rw [q] at f
    subst he
    cases r2
    cases q1 : getP d S with
    | none => rw [q1] at f; exact f.elim
    | some xs =>
      rw [q1] at f
      obtain ⟨hc, f⟩ := Fin.ite f
      rw [repC, Bool.and_eq_true, Bool.and_eq_true] at hc
      obtain ⟨⟨h1, h2⟩, h3⟩ := hc
      obtain ⟨a, us, rfl, h4, h5⟩ := getP_ok R0 r1 q1
      have g := fin_lst R0 (RDs.rep h5 k.toNat) f
      exact .inr (.inr ⟨a, k, us, rfl, rfl, h4, of_decide_eq_true h1, of_decide_eq_true h2, by rw [← h5.length]; exact of_decide_eq_true h3, g.2⟩)
  have reps : ∀ {a : Addr} {us : List V} (k : Int) (xs : List D), Fin B (RD B.G) σ θ H (if repTC k xs.length then .ok (.pr (List.replicate k.toNat xs).flatten) S else .bad) Q → SqT X.K H a us → RDs B.G θ H xs us → rMulA X.K (.ref a) (.int k) H Q := fun {a us} k xs f h1 h2 => by
    obtain ⟨hc, f⟩ := Fin.ite (c := repTC k xs.length = true) f
    rw [repTC, Bool.and_eq_true, Bool.and_eq_true, Bool.and_eq_true] at hc
    obtain ⟨⟨⟨c1, c2⟩, c3⟩, c4⟩ := hc
    refine .inr (.inl ⟨a, k, us, rfl, rfl, h1, ?_, of_decide_eq_true c2, of_decide_eq_true c3, by rw [← h2.length]; exact of_decide_eq_true c4, fun p hp => ?_⟩)
    · rintro rfl
      cases h2
      cases c1
    · have e : Ext θ H θ (upd H p (.tup (List.replicate k.toNat us).flatten)) := .of_keep (keep_new hp)
      exact f.ok e (R0.laid hp) (.pr (.inl (.inl upd_same)) ((RDs.rep h2 _).ext e))
  cases e with
  | int k =>
    cases d with
    | int i =>
      cases r1; cases r2
      obtain ⟨hc, f⟩ := Fin.ite f
      have hc' : i.natAbs.log2 + k.natAbs.log2 < 1000000 := of_decide_eq_true hc
      exact .inl ⟨i, k, rfl, rfl, hc', f.ok .refl R0 (.int _)⟩
    | tup xs =>
      cases r2
      cases r1 with
      | @tup a us _ h1 h2 => exact reps k xs f (by rw [hK] at h1; exact h1.sq) h2
    | pr xs =>
      cases r2
      cases r1 with
      | @pr a us _ h1 h2 => exact reps k xs f (by rw [hK] at h1; exact h1) h2
    | _ => exact lists k rfl rfl
  | _ => cases d <;> exact f.elim
theorem de_mul {a b : Expr} {ma mb : M D} (hK : B.G.K = X.K) (ha : PE X a (rdE B ma)) (hb : PE X b (rdE B mb)) : PE X (.BinOp a .Mult b pos) (rdE B (mBin mulD ma mb)) := de_bin opR_mul (den_mul hK) ha hb
/-- // by a divisor above 0 -/
def fdivC (_ j : Int) : Bool := decide (0 < j) && decide (j.natAbs.log2 < 9000)
abbrev fdivD : O2 := intD fdivC fun i j => i / j
theorem de_fdiv {a b : Expr} {ma mb : M D} (ha : PE X a (rdE B ma)) (hb : PE X b (rdE B mb)) : PE X (.BinOp a .FloorDiv b pos) (rdE B (mBin fdivD ma mb)) :=
  de_bin op_fdivW (den_int fun i j h => by
    rw [fdivC, Bool.and_eq_true] at h
    exact ⟨of_decide_eq_true h.1, of_decide_eq_true h.2⟩) ha hb
abbrev modD : O2 := intD (fun _ j => decide (j ≠ 0)) fun i j => i.fmod j
theorem de_mod {a b : Expr} {ma mb : M D} (ha : PE X a (rdE B ma)) (hb : PE X b (rdE B mb)) : PE X (.BinOp a .Mod b pos) (rdE B (mBin modD ma mb)) := de_bin op_modN (den_int fun i j h => of_decide_eq_true h) ha hb
def powC (i j : Int) : Bool := decide (0 ≤ j) && decide (j ≤ 1000000) && decide (i.natAbs < 2 ^ 64)
theorem powC_ok {i j : Int} (h : powC i j = true) : CPow i j := by
  rw [powC, Bool.and_eq_true, Bool.and_eq_true] at h
  exact ⟨of_decide_eq_true h.1.1, of_decide_eq_true h.1.2, of_decide_eq_true h.2⟩
abbrev powD : O2 := intD powC fun i j => i ^ j.toNat
theorem de_pow {a b : Expr} {ma mb : M D} (ha : PE X a (rdE B ma)) (hb : PE X b (rdE B mb)) : PE X (.BinOp a .Pow b pos) (rdE B (mBin powD ma mb)) := de_bin op_pow (den_int fun _ _ => powC_ok) ha hb
abbrev shlD : O2 := intD powC fun i j => i * 2 ^ j.toNat
theorem de_shl {a b : Expr} {ma mb : M D} (ha : PE X a (rdE B ma)) (hb : PE X b (rdE B mb)) : PE X (.BinOp a .LShift b pos) (rdE B (mBin shlD ma mb)) := de_bin op_shl (den_int fun _ _ => powC_ok) ha hb
abbrev shrD : O2 := intD (fun _ j => decide (0 ≤ j)) fun i j => i / 2 ^ j.toNat
theorem de_shr {a b : Expr} {ma mb : M D} (ha : PE X a (rdE B ma)) (hb : PE X b (rdE B mb)) : PE X (.BinOp a .RShift b pos) (rdE B (mBin shrD ma mb)) := de_bin op_shr (den_int fun _ _ h => of_decide_eq_true h) ha hb

abbrev O1 := D → Store → R D
def mUn (o : O1) (a : M D) : M D := fun ρ S => (a ρ S).bind o
def negD : O1
  | .int i, S => .ok (.int (-i)) S
  | _, _ => .bad
theorem de_neg {a : Expr} {ma : M D} (ha : PE X a (rdE B ma)) : PE X (.UnaryOp .USub a pos) (rdE B (mUn negD ma)) :=
  PE.imp (pe_un un_neg ha) fun σ H Q ⟨ρ, S, θ, R0, rs, f⟩ => ⟨ρ, S, θ, R0, rs, Fin.bind f fun x S1 θ1 H1 v _ e1 R1 r1 f1 => by
    cases x with
    | int i => cases r1; exact ⟨i, rfl, f1.ok .refl R1 (.int _)⟩
    | _ => exact f1.elim⟩

abbrev C2 := D → D → Store → Option Bool
def cmpD (c : C2) : O2 := fun d e S => match c d e S with
  | some b => .ok (.bl b) S
  | none => .bad
/-- r serves the answer of c -/
def DenC (B : Bv) (r : R2) (c : C2) : Prop := ∀ (θ : List Addr) (S : Store) (H : Hp) (d e : D) (x y : V) (b : Bool) (Q : VK), Rel B.G B.F θ S H → RD B.G θ H d x → RD B.G θ H e y → c d e S = some b → Q (.bl b) H → r x y H Q
theorem DenC.d2 {r : R2} {c : C2} (h : DenC B r c) : Den2 B r (cmpD c) := by
  intro σ θ S H d e x y Q R0 r1 r2 f
  unfold cmpD at f
  cases q : c d e S with
  | none => rw [q] at f; exact f.elim
  | some b => rw [q] at f; exact h θ S H d e x y b Q R0 r1 r2 q (f.ok .refl R0 (.bl b))
def ltI (g : Int → Int → Bool) : C2
  | .int i, .int j, _ => some (g i j)
  | _, _, _ => none
theorem den_ltI {g : Int → Int → Bool} : DenC B (rI0 fun i j => .bl (g i j)) (ltI g) := by
  intro θ S H d e x y b Q R0 r1 r2 h q
  cases d with
  | int i =>
    cases e with
    | int j => cases r1; cases r2; cases h; exact ⟨i, j, rfl, rfl, q⟩
    | _ => cases h
  | _ => cases h
/-- the data of Python: what == looks at -/
def toPy : Nat → Store → D → Option PyData
  | 0, _, _ => none
  | n + 1, S, d => match d with
    | .non => some .none
    | .bl b => some (.bool b)
    | .int i => some (.int i)
    | .str s => some (.str s)
    | .tup ds => (ds.mapM (toPy n S)).map .tuple
    | .pr ds => (ds.mapM (toPy n S)).map .tuple
    | .lst ds => (ds.mapM (toPy n S)).map .list
    | .brw ds => (ds.mapM (toPy n S)).map .list
    | .kst ds => (ds.mapM (toPy n S)).map .list
    | .ref k => match S[k]? with
      | some (.lst ds) => (ds.mapM (toPy n S)).map .list
      | _ => none
    | _ => none
end
end DM

namespace DM
open PySem PySem.Spec L2
open PyProof.Rows hiding St

section
variable {X : Cx} {B : Bv} {pos : Pos}

theorem dpAll_of {G : Gv} {F : Fr0} {θ : List Addr} {S : Store} {H : Hp} {n : Nat} (ih : ∀ (d : D) (v : V) (p : PyData), RD G θ H d v → toPy n S d = some p → Dp G.K H v p) :
    ∀ (ds : List D) (vs : List V) (ps : List PyData), RDs G θ H ds vs → ds.mapM (toPy n S) = some ps → DpAll G.K H vs ps
  | [], _, ps, .nil, e => by
    simp at e
    subst e
    exact .nil
  | d :: ds, _, ps, .cons r rs, e => by
    rw [List.mapM_cons] at e
    cases q : toPy n S d with
    | none => rw [q] at e; cases e
    | some p =>
      rw [q] at e
      cases q2 : ds.mapM (toPy n S) with
      | none => rw [q2] at e; cases e
      | some ps' =>
        rw [q2] at e
        cases e
        exact .cons (ih d _ p r q) (dpAll_of (F := F) ih ds _ ps' rs q2)
theorem map_some {α β : Type} {o : Option α} {f : α → β} {b : β} (h : o.map f = some b) : ∃ a, o = some a ∧ f a = b := by
  cases o with
  | none => cases h
  | some a => cases h; exact ⟨a, rfl, rfl⟩
theorem toPy_dp {G : Gv} {F : Fr0} {θ : List Addr} {S : Store} {H : Hp} (R0 : Rel G F θ S H) : ∀ (n : Nat) (d : D) (v : V) (p : PyData), RD G θ H d v → toPy n S d = some p → Dp G.K H v p
  | 0, _, _, _, _, e => by cases e
  | n + 1, d, v, p, r, e => by
    have ih := toPy_dp R0 n
    cases r with
    | non => cases e; exact .non
    | bl b => cases e; exact .bl b
    | int i => cases e; exact .int i
    | str s => cases e; exact .str s
    | ty s => cases e
    | fn h => cases e
    | tup h1 h2 =>
      obtain ⟨ps, e1, rfl⟩ := map_some e
      exact .tup h1.sq (dpAll_of (F := F) ih _ _ _ h2 e1)
    | pr h1 h2 =>
      obtain ⟨ps, e1, rfl⟩ := map_some e
      exact .tup h1 (dpAll_of (F := F) ih _ _ _ h2 e1)
    | lst h0 h1 h2 h3 =>
      obtain ⟨ps, e1, rfl⟩ := map_some e
      exact .lst (.inl (.inl h2)) (dpAll_of (F := F) ih _ _ _ h3 e1)
    | brw h1 h2 h3 =>
      obtain ⟨ps, e1, rfl⟩ := map_some e
      exact .lst (.inl (.inl h2)) (dpAll_of (F := F) ih _ _ _ h3 e1)
    | kst h1 h2 =>
      obtain ⟨ps, e1, rfl⟩ := map_some e
      exact .lst h1.sq (dpAll_of (F := F) ih _ _ _ h2 e1)
    | @ref k a h =>
      have e' : (match S[k]? with | some (.lst ds) => (ds.mapM (toPy n S)).map .list | _ => none) = some p := e
      cases q : S[k]? with
      | none => rw [q] at e'; cases e'
      | some c =>
        cases c with
        | dct kvs => rw [q] at e'; cases e'
        | rev rs0 k0 => rw [q] at e'; cases e'
        | lst ds =>
          rw [q] at e'
          obtain ⟨ps, e1, rfl⟩ := map_some e'
          obtain ⟨xs, h1, h2⟩ := R0.cells _ _ _ h q
          exact .lst (.inl (.inl h1)) (dpAll_of (F := F) ih _ _ _ h2 e1)
def eqG (d e : D) (S : Store) : Option Bool := match toPy 20 S d, toPy 20 S e with
  | some p, some q => if SeqAt.shaped p && SeqAt.shaped q then some (PyData.eqv p q) else none
  | _, _ => none
def eqC : C2
  | .int i, .int j, _ => some (decide (i = j))
  | .str x, .str y, _ => some (decide (x = y))
  | .bl a, .bl b, _ => some (a == b)
  | d, e, S => eqG d e S
abbrev rEqA (K : PySem.W.Frag) : R2 := fun x y H Q => rEq x y H Q ∨ rEqD K x y H Q
theorem opR_eq (hu : X.A.units + 65 < cLine) : OpR X (compareOp .Eq) (rEqA X.K) := op_eq.or (op_eqD (by omega))
theorem eqG_ok {G : Gv} {F : Fr0} {θ : List Addr} {S : Store} {H : Hp} (R0 : Rel G F θ S H) {d e : D} {x y : V} {b : Bool} (r1 : RD G θ H d x) (r2 : RD G θ H e y) (h : eqG d e S = some b) :
    ∃ p q, Dp G.K H x p ∧ Dp G.K H y q ∧ SeqAt.shaped p = true ∧ SeqAt.shaped q = true ∧ b = PyData.eqv p q := by
  unfold eqG at h
  cases q1 : toPy 20 S d with
  | none => rw [q1] at h; cases h
  | some p =>
    cases q2 : toPy 20 S e with
    | none => rw [q1, q2] at h; cases h
    | some q =>
      rw [q1, q2] at h
      replace h : (if SeqAt.shaped p && SeqAt.shaped q then some (PyData.eqv p q) else none) = some b := h
      by_cases hc : (SeqAt.shaped p && SeqAt.shaped q) = true
      · rw [if_pos hc] at h
        cases h
        rw [Bool.and_eq_true] at hc
        exact ⟨p, q, toPy_dp R0 _ _ _ _ r1 q1, toPy_dp R0 _ _ _ _ r2 q2, hc.1, hc.2, rfl⟩
      · rw [if_neg hc] at h; cases h
theorem den_eq (hK : B.G.K = X.K) : DenC B (rEqA X.K) eqC := by
  intro θ S H d e x y b Q R0 r1 r2 h q
  have gen : eqG d e S = some b → rEqA X.K x y H Q := fun h => by
    obtain ⟨p, r, h1, h2, h3, h4, rfl⟩ := eqG_ok R0 r1 r2 h
    rw [hK] at h1 h2
    exact .inr ⟨p, r, h1, h2, h3, h4, q⟩
  cases d with
  | int i =>
    cases e with
    | int j =>
      cases r1; cases r2; cases h
      refine .inl ⟨rfl, ?_⟩
      have e0 : decide (V.int i = V.int j) = decide (i = j) := by simp
      rw [e0]; exact q
    | _ => exact gen h
  | str s =>
    cases e with
    | str t =>
      cases r1; cases r2; cases h
      refine .inl ⟨rfl, ?_⟩
      have e0 : decide (V.str s = V.str t) = decide (s = t) := by simp
      rw [e0]; exact q
    | _ => exact gen h
  | bl s =>
    cases e with
    | bl t =>
      cases r1; cases r2; cases h
      refine .inl ⟨rfl, ?_⟩
      rw [dec_bl]; exact q
    | _ => exact gen h
  | _ => exact gen h
def neC : C2 := fun d e S => (eqC d e S).map (!·)
abbrev rNeA (K : PySem.W.Frag) : R2 := fun x y H Q => rNe x y H Q ∨ rNeD K x y H Q
theorem opR_ne (hu : X.A.units + 65 < cLine) : OpR X (compareOp .NotEq) (rNeA X.K) := op_ne.or (op_neD (by omega))
theorem den_ne (hK : B.G.K = X.K) : DenC B (rNeA X.K) neC := by
  intro θ S H d e x y b Q R0 r1 r2 h q
  obtain ⟨b', h9, rfl⟩ := map_some h
  have h := h9
  clear h9
  have gen : eqG d e S = some b' → rNeA X.K x y H Q := fun h => by
    obtain ⟨p, r, h1, h2, h3, h4, rfl⟩ := eqG_ok R0 r1 r2 h
    rw [hK] at h1 h2
    exact .inr ⟨p, r, h1, h2, h3, h4, q⟩
  cases d with
  | int i =>
    cases e with
    | int j =>
      cases r1; cases r2; cases h
      refine .inl ⟨rfl, ?_⟩
      have e0 : decide (V.int i = V.int j) = decide (i = j) := by simp
      rw [e0]; exact q
    | _ => exact gen h
  | str s =>
    cases e with
    | str t =>
      cases r1; cases r2; cases h
      refine .inl ⟨rfl, ?_⟩
      have e0 : decide (V.str s = V.str t) = decide (s = t) := by simp
      rw [e0]; exact q
    | _ => exact gen h
  | bl s =>
    cases e with
    | bl t =>
      cases r1; cases r2; cases h
      refine .inl ⟨rfl, ?_⟩
      rw [dec_bl]; exact q
    | _ => exact gen h
  | _ => exact gen h
/-- order of ints, of tuples of ints, of texts -/
def asInts : List D → Option (List Int)
  | [] => some []
  | .int i :: r => (asInts r).map (i :: ·)
  | _ => none
theorem asInts_ok {G : Gv} {θ : List Addr} {H : Hp} : ∀ {ds : List D} {vs : List V} {ns : List Int}, RDs G θ H ds vs → asInts ds = some ns → vs = ns.map V.int
  | [], _, _, .nil, e => by cases e; rfl
  | .int i :: r, _, _, .cons h t, e => by
    cases h
    obtain ⟨ms, e1, rfl⟩ := map_some e
    rw [asInts_ok t e1]; rfl
def tupOf : D → Option (List D)
  | .tup ds => some ds
  | .pr ds => some ds
  | _ => none
theorem tupOf_ok {G : Gv} {θ : List Addr} {H : Hp} {d : D} {v : V} {ds : List D} (r : RD G θ H d v) (e : tupOf d = some ds) : ∃ a xs, v = .ref a ∧ SqT G.K H a xs ∧ RDs G θ H ds xs := by
  cases r with
  | tup h1 h2 => cases e; exact ⟨_, _, rfl, h1.sq, h2⟩
  | pr h1 h2 => cases e; exact ⟨_, _, rfl, h1, h2⟩
  | _ => cases e
def ltT (xs ys : List D) : Option Bool := match asInts xs, asInts ys with
  | some ns, some ms => some (HT.lexLt ns ms)
  | _, _ => none
def ltC : C2
  | .int i, .int j, _ => some (decide (i < j))
  | .str x, .str y, _ => some (decide (x.cps.toList < y.cps.toList))
  | .tup xs, .tup ys, _ => ltT xs ys
  | d, e, _ => match tupOf d, tupOf e with
    | some xs, some ys => ltT xs ys
    | _, _ => none
abbrev rLtA (K : PySem.W.Frag) : R2 := fun x y H Q => rI0 (fun i j => .bl (decide (i < j))) x y H Q ∨ (∃ i j, x = .str i ∧ y = .str j ∧ Q (.bl (decide (i.cps.toList < j.cps.toList))) H) ∨ rLtT K x y H Q
theorem opR_lt (hu : X.A.units + 65 < cLine) : OpR X (compareOp .Lt) (rLtA X.K) := op_lt.or (op_lt_str.or (op_ltT (by omega)))
theorem den_lt (hK : B.G.K = X.K) : DenC B (rLtA X.K) ltC := by
  intro θ S H d e x y b Q R0 r1 r2 h q
  have tups : ∀ {xs ys : List D}, tupOf d = some xs → tupOf e = some ys → ltT xs ys = some b → rLtA X.K x y H Q := fun {xs ys} k1 k2 h => by
    obtain ⟨a, us, rfl, h1, h2⟩ := tupOf_ok r1 k1
    obtain ⟨c, ws, rfl, h3, h4⟩ := tupOf_ok r2 k2
    unfold ltT at h
    cases q1 : asInts xs with
    | none => rw [q1] at h; cases h
    | some ns =>
      cases q2 : asInts ys with
      | none => rw [q1, q2] at h; cases h
      | some ms =>
        rw [q1, q2] at h
        cases h
        rw [hK] at h1 h3
        rw [asInts_ok h2 q1] at h1
        rw [asInts_ok h4 q2] at h3
        exact .inr (.inr ⟨a, c, ns, ms, rfl, rfl, h1, h3, q⟩)
  have gen : (match tupOf d, tupOf e with
    | some xs, some ys => ltT xs ys
    | _, _ => none) = some b → rLtA X.K x y H Q := fun h => by
    cases k1 : tupOf d with
    | none => rw [k1] at h; cases h
    | some xs =>
      cases k2 : tupOf e with
      | none => rw [k1, k2] at h; cases h
      | some ys =>
        rw [k1, k2] at h
        exact tups k1 k2 h
  cases d with
  | int i =>
    cases e with
    | int j => cases r1; cases r2; cases h; exact .inl ⟨i, j, rfl, rfl, q⟩
    | _ => exact gen h
  | str s =>
    cases e with
    | str t => cases r1; cases r2; cases h; exact .inr (.inl ⟨s, t, rfl, rfl, q⟩)
    | _ => exact gen h
  | tup xs =>
    cases e with
    | tup ys => exact tups rfl rfl h
    | _ => exact gen h
  | _ => exact gen h
/-- is None -/
def isNon : D → Bool
  | .non => true
  | _ => false
def isNC : C2
  | d, .non, _ => some (isNon d)
  | _, _, _ => none
theorem isN_v {G : Gv} {θ : List Addr} {H : Hp} {d : D} {x : V} (r : RD G θ H d x) : decide (x = V.non) = isNon d := by
  cases r <;> rfl
theorem den_isN : DenC B (fun x y H Q => y = .non ∧ Q (.bl (decide (x = .non))) H) isNC := by
  intro θ S H d e x y b Q R0 r1 r2 h q
  cases e with
  | non =>
    cases r2
    refine ⟨rfl, ?_⟩
    rw [isN_v r1]
    have h' : some (isNon d) = some b := by cases d <;> exact h
    rw [Option.some.inj h']; exact q
  | _ => cases d <;> cases h
def notNC : C2 := fun d e S => (isNC d e S).map (!·)
theorem den_notN : DenC B (fun x y H Q => y = .non ∧ Q (.bl (!decide (x = .non))) H) notNC := by
  intro θ S H d e x y b Q R0 r1 r2 h q
  obtain ⟨b', h9, rfl⟩ := map_some h
  have h := h9
  clear h9
  cases e with
  | non =>
    cases r2
    refine ⟨rfl, ?_⟩
    rw [isN_v r1]
    have h' : some (isNon d) = some b' := by cases d <;> exact h
    rw [Option.some.inj h']; exact q
  | _ => cases d <;> cases h
theorem de_cmp {op : CmpOp} {r : R2} {c : C2} {a b : Expr} {ma mb : M D} (ho : OpR X (compareOp op) r) (hd : DenC B r c) (ha : PE X a (rdE B ma)) (hb : PE X b (rdE B mb)) (hm : behindInMarks op b = false) : PE X (.Compare a [op] [b] pos) (rdE B (mBin (cmpD c) ma mb)) :=
  PE.imp (pe_cmpR ho ha hb hm) (imp_bin hd.d2)

def truD : D → Store → Option Bool
  | .non, _ => some false
  | .bl b, _ => some b
  | .int i, _ => some (i != 0)
  | .str s, _ => if s.length ≤ sizeLine then some ((s.length : Int) != 0) else none
  | d, S => (getSeq d S).map fun ds => !ds.isEmpty
theorem isEmpty_r {G : Gv} {θ : List Addr} {H : Hp} {ds : List D} {vs : List V} (r : RDs G θ H ds vs) : ds.isEmpty = vs.isEmpty := by cases r <;> rfl
theorem truD_ok {G : Gv} {F : Fr0} {θ : List Addr} {S : Store} {H : Hp} {d : D} {x : V} {b : Bool} (R0 : Rel G F θ S H) (r : RD G θ H d x) (h : truD d S = some b) : TruV G.K x H b := by
  have seq : ((getSeq d S).map fun ds => !ds.isEmpty) = some b → TruV G.K x H b := fun h => by
    obtain ⟨ds, e, rfl⟩ := map_some h
    obtain ⟨a, xs, rfl, k, rs⟩ := getSeq_ok R0 r e
    rw [isEmpty_r rs]
    rcases k with k | k
    · exact .inl ⟨xs, k, rfl⟩
    · exact .inr (.inl ⟨xs, k, rfl⟩)
  cases d with
  | non => cases r; cases h; rfl
  | bl b => cases r; cases h; rfl
  | int i => cases r; cases h; rfl
  | str s =>
    cases r
    have h' : (if s.length ≤ sizeLine then some ((s.length : Int) != 0) else none) = some b := h
    by_cases hc : s.length ≤ sizeLine
    · rw [if_pos hc] at h'; cases h'; exact ⟨hc, rfl⟩
    · rw [if_neg hc] at h'; cases h'
  | _ => exact seq h
def testD (d : D) (S : Store) : R Bool := match truD d S with
  | some b => .ok b S
  | none => .bad
def mTest (a : M D) : M Bool := fun ρ S => (a ρ S).bind testD
theorem dt_truth {a : Expr} {ma : M D} (hK : B.G.K = X.K) (ha : PE X a (rdE B ma)) (he : ∀ whole, PySem.isTrue a X.env whole = (do let v ← whole; standAt a.pos; holding [v] (truthy v)) := by intro _; rfl) : PT X a (rdT B (mTest ma)) :=
  PT.imp (pt_truth ha he) fun σ H Q ⟨ρ, S, θ, R0, rs, f⟩ => ⟨ρ, S, θ, R0, rs, Fin.bind f fun x S1 θ1 H1 v _ e1 R1 r1 f1 => by
    unfold testD at f1
    cases q : truD x S1 with
    | none => rw [q] at f1; exact f1.elim
    | some b =>
      rw [q] at f1
      exact ⟨b, hK ▸ truD_ok R1 r1 q, f1.ok .refl R1 rfl⟩⟩
theorem dt_cmp {op : CmpOp} {r : R2} {c : C2} {a b : Expr} {ma mb : M D} (ho : OpR X (compareOp op) r) (hd : DenC B r c) (ha : PE X a (rdE B ma)) (hb : PE X b (rdE B mb)) (hm : behindInMarks op b = false) : PT X (.Compare a [op] [b] pos) (rdT B (mTest (mBin (cmpD c) ma mb))) :=
  PT.imp (pt_cmpR ho ha hb hm) fun σ H Q ⟨ρ, S, θ, R0, rs, f⟩ => by
    refine ⟨ρ, S, θ, R0, rs, ?_⟩
    have f' : Fin B (fun _ _ a b => a = b) σ θ H ((ma ρ S).bind fun x S1 => ((mb ρ S1).bind fun y S2 => (cmpD c x y S2).bind testD)) Q := by
      have e : mTest (mBin (cmpD c) ma mb) ρ S = (ma ρ S).bind fun x S1 => ((mb ρ S1).bind fun y S2 => (cmpD c x y S2).bind testD) := by
        unfold mTest mBin
        cases ma ρ S with
        | ok a S1 =>
          show ((mb ρ S1).bind _).bind _ = (mb ρ S1).bind _
          cases mb ρ S1 <;> rfl
        | exc => rfl
        | bad => rfl
      rw [← e]; exact f
    refine Fin.bind f' fun x S1 θ1 H1 v _ e1 R1 r1 f1 => ⟨ρ, S1, θ1, R1, rs.ext e1, Fin.bind f1 fun y S2 θ2 H2 u _ e2 R2 r2 f2 => ?_⟩
    cases q : c x y S2 with
    | none =>
      have e : cmpD c x y S2 = .bad := by unfold cmpD; rw [q]
      rw [e] at f2; exact f2.elim
    | some b =>
      have e : cmpD c x y S2 = .ok (.bl b) S2 := by unfold cmpD; rw [q]
      rw [e] at f2
      exact hd θ2 S2 H2 x y v u b _ R2 (r1.ext e2) r2 q ⟨b, rfl, f2.ok .refl R2 rfl⟩
def mNotT (a : M Bool) : M Bool := fun ρ S => (a ρ S).bind fun b S1 => .ok (!b) S1
def mAndT (a b : M Bool) : M Bool := fun ρ S => (a ρ S).bind fun x S1 => if x then b ρ S1 else .ok false S1
def mOrT (a b : M Bool) : M Bool := fun ρ S => (a ρ S).bind fun x S1 => if x then .ok true S1 else b ρ S1
theorem dt_not {a : Expr} {ma : M Bool} (ha : PT X a (rdT B ma)) : PT X (.UnaryOp .Not a pos) (rdT B (mNotT ma)) :=
  PT.imp (pt_not ha) fun σ H Q ⟨ρ, S, θ, R0, rs, f⟩ => ⟨ρ, S, θ, R0, rs, Fin.bind f fun x S1 θ1 H1 v _ e1 R1 r1 f1 => by subst r1; exact f1.ok .refl R1 rfl⟩
theorem dw_and1 {a : Expr} {ma : M Bool} (ha : PT X a (rdT B ma)) : PW X (.BoolOp .And [a] pos) (rdT B ma) := pw_and1 ha
theorem dw_or1 {a : Expr} {ma : M Bool} (ha : PT X a (rdT B ma)) : PW X (.BoolOp .Or [a] pos) (rdT B ma) := pw_or1 ha
theorem dw_and {a b : Expr} {rest : List Expr} {ma mb : M Bool} (ha : PT X a (rdT B ma)) (hb : PW X (.BoolOp .And (b :: rest) pos) (rdT B mb)) : PW X (.BoolOp .And (a :: b :: rest) pos) (rdT B (mAndT ma mb)) :=
  PW.imp (pw_and ha hb) fun σ H Q ⟨ρ, S, θ, R0, rs, f⟩ => ⟨ρ, S, θ, R0, rs, Fin.bind f fun x S1 θ1 H1 v _ e1 R1 r1 f1 => by
    subst r1
    cases x with
    | true => exact ⟨ρ, S1, θ1, R1, rs.ext e1, f1⟩
    | false => exact f1.ok .refl R1 rfl⟩
theorem dw_or {a b : Expr} {rest : List Expr} {ma mb : M Bool} (ha : PT X a (rdT B ma)) (hb : PW X (.BoolOp .Or (b :: rest) pos) (rdT B mb)) : PW X (.BoolOp .Or (a :: b :: rest) pos) (rdT B (mOrT ma mb)) :=
  PW.imp (pw_or ha hb) fun σ H Q ⟨ρ, S, θ, R0, rs, f⟩ => ⟨ρ, S, θ, R0, rs, Fin.bind f fun x S1 θ1 H1 v _ e1 R1 r1 f1 => by
    subst r1
    cases x with
    | true => exact f1.ok .refl R1 rfl
    | false => exact ⟨ρ, S1, θ1, R1, rs.ext e1, f1⟩⟩
/-- .. as values -/
def mNot (a : M D) : M D := fun ρ S => (a ρ S).bind fun x S1 => (testD x S1).bind fun b S2 => .ok (.bl (!b)) S2
def mAnd (a b : M D) : M D := fun ρ S => (a ρ S).bind fun x S1 => (testD x S1).bind fun k S2 => if k then b ρ S2 else .ok x S2
def mOr (a b : M D) : M D := fun ρ S => (a ρ S).bind fun x S1 => (testD x S1).bind fun k S2 => if k then .ok x S2 else b ρ S2
theorem fin_test {γ δ : Type} {Rl : List Addr → Hp → γ → δ → Prop} {σ : St} {θ : List Addr} {S : Store} {H : Hp} {x : D} {v : V} {f : Bool → Store → R γ} {Q : δ → Hp → Prop} (R0 : Rel B.G B.F θ S H) (r : RD B.G θ H x v) (h : Fin B Rl σ θ H ((testD x S).bind f) Q) :
    ∃ k, TruV B.G.K v H k ∧ Fin B Rl σ θ H (f k S) Q := by
  unfold testD at h
  cases q : truD x S with
  | none => rw [q] at h; exact h.elim
  | some b => rw [q] at h; exact ⟨b, truD_ok R0 r q, h⟩
theorem de_not {a : Expr} {ma : M D} (hK : B.G.K = X.K) (ha : PE X a (rdE B ma)) : PE X (.UnaryOp .Not a pos) (rdE B (mNot ma)) :=
  PE.imp (pe_notT ha) fun σ H Q ⟨ρ, S, θ, R0, rs, f⟩ => ⟨ρ, S, θ, R0, rs, Fin.bind f fun x S1 θ1 H1 v _ e1 R1 r1 f1 => by
    obtain ⟨k, hk, f2⟩ := fin_test R1 r1 f1
    exact ⟨k, hK ▸ hk, f2.ok .refl R1 (.bl _)⟩⟩
theorem de_one {op} {a : Expr} {ma : M D} (ha : PE X a (rdE B ma)) : PE X (.BoolOp op [a] pos) (rdE B ma) := pe_one ha
theorem de_and {a b : Expr} {rest : List Expr} {ma mb : M D} (hK : B.G.K = X.K) (ha : PE X a (rdE B ma)) (hb : PE X (.BoolOp .And (b :: rest) pos) (rdE B mb)) : PE X (.BoolOp .And (a :: b :: rest) pos) (rdE B (mAnd ma mb)) :=
  PE.imp (pe_andT ha hb) fun σ H Q ⟨ρ, S, θ, R0, rs, f⟩ => ⟨ρ, S, θ, R0, rs, Fin.bind f fun x S1 θ1 H1 v _ e1 R1 r1 f1 => by
    obtain ⟨k, hk, f2⟩ := fin_test R1 r1 f1
    refine ⟨k, hK ▸ hk, ?_⟩
    cases k with
    | true => exact ⟨ρ, S1, θ1, R1, rs.ext e1, f2⟩
    | false => exact f2.ok .refl R1 r1⟩
theorem de_or {a b : Expr} {rest : List Expr} {ma mb : M D} (hK : B.G.K = X.K) (ha : PE X a (rdE B ma)) (hb : PE X (.BoolOp .Or (b :: rest) pos) (rdE B mb)) : PE X (.BoolOp .Or (a :: b :: rest) pos) (rdE B (mOr ma mb)) :=
  PE.imp (pe_orT ha hb) fun σ H Q ⟨ρ, S, θ, R0, rs, f⟩ => ⟨ρ, S, θ, R0, rs, Fin.bind f fun x S1 θ1 H1 v _ e1 R1 r1 f1 => by
    obtain ⟨k, hk, f2⟩ := fin_test R1 r1 f1
    refine ⟨k, hK ▸ hk, ?_⟩
    cases k with
    | true => exact f2.ok .refl R1 r1
    | false => exact ⟨ρ, S1, θ1, R1, rs.ext e1, f2⟩⟩
def mIf (c : M Bool) (a b : M D) : M D := fun ρ S => (c ρ S).bind fun k S1 => if k then a ρ S1 else b ρ S1
theorem de_if {c a b : Expr} {mc : M Bool} {ma mb : M D} (hc : PT X c (rdT B mc)) (ha : PE X a (rdE B ma)) (hb : PE X b (rdE B mb)) : PE X (.IfExp c a b pos) (rdE B (mIf mc ma mb)) :=
  PE.imp (pe_ifExp hc ha hb) fun σ H Q ⟨ρ, S, θ, R0, rs, f⟩ => ⟨ρ, S, θ, R0, rs, Fin.bind f fun x S1 θ1 H1 v _ e1 R1 r1 f1 => by
    subst r1
    cases x with
    | true => exact ⟨ρ, S1, θ1, R1, rs.ext e1, f1⟩
    | false => exact ⟨ρ, S1, θ1, R1, rs.ext e1, f1⟩⟩
/-- a < b < c -/
def mChain (o o' : O2) (a b c : M D) : M D := fun ρ S => (a ρ S).bind fun x S1 => (b ρ S1).bind fun y S2 => (o x y S2).bind fun z S3 => match z with
  | .bl true => (c ρ S3).bind fun w S4 => o' y w S4
  | .bl false => .ok (.bl false) S3
  | _ => .bad
end
end DM

namespace DM
open PySem PySem.Spec L2
open PyProof.Rows hiding St

inductive SR where
  | nx (ρ : Env) (S : Store) | bk (ρ : Env) (S : Store) | ct (ρ : Env) (S : Store)
  | rt (d : D) (S : Store)
  | exc (x : Ex) (ρ : Env) (S : Store)
  | bad
abbrev SM := Env → Store → SR
def R.toS {α : Type} : R α → Env → (α → Store → SR) → SR
  | .ok a S, _, k => k a S
  | .exc x S, ρ, _ => .exc x ρ S
  | .bad, _, _ => .bad
def FinS (B : Bv) (θ : List Addr) (H : Hp) (r : SR) (D : Ends) : Prop :=
  match r with
  | .nx ρ S => ∀ θ' σ' H', Ext θ H θ' H' → Rel B.G B.F θ' S H' → RS B.G θ' H' ρ σ' → D.nx σ' H'
  | .bk ρ S => ∀ θ' σ' H', Ext θ H θ' H' → Rel B.G B.F θ' S H' → RS B.G θ' H' ρ σ' → D.bk σ' H'
  | .ct ρ S => ∀ θ' σ' H', Ext θ H θ' H' → Rel B.G B.F θ' S H' → RS B.G θ' H' ρ σ' → D.ct σ' H'
  | .rt d S => ∀ θ' H' v, Ext θ H θ' H' → Rel B.G B.F θ' S H' → RD B.G θ' H' d v → D.rt v H'
  | .exc x ρ S => ∀ θ' σ' H' c a, Ext θ H θ' H' → Rel B.G B.F θ' S H' → RS B.G θ' H' ρ σ' → RX B.G θ' H' x c a → B.W c a σ' H'
  | .bad => False
theorem FinS.ext {B : Bv} {θ θ1 : List Addr} {H H1 : Hp} {r : SR} {D : Ends} (e : Ext θ H θ1 H1) (h : FinS B θ H r D) : FinS B θ1 H1 r D := by
  cases r with
  | nx ρ S => exact fun θ' σ' H' e' => h θ' σ' H' (e.trans e')
  | bk ρ S => exact fun θ' σ' H' e' => h θ' σ' H' (e.trans e')
  | ct ρ S => exact fun θ' σ' H' e' => h θ' σ' H' (e.trans e')
  | rt d S => exact fun θ' H' v e' => h θ' H' v (e.trans e')
  | exc x ρ S => exact fun θ' σ' H' c a e' => h θ' σ' H' c a (e.trans e')
  | bad => exact h
theorem FinS.bind {α β : Type} {B : Bv} {Rl : List Addr → Hp → α → β → Prop} {ρ : Env} {σ : St} {θ : List Addr} {H : Hp} {r : R α} {k : α → Store → SR} {D : Ends} {P : β → Hp → Prop} (rs : RS B.G θ H ρ σ) (h : FinS B θ H (r.toS ρ k) D)
    (f : ∀ a S1 θ1 H1 v, r = .ok a S1 → Ext θ H θ1 H1 → Rel B.G B.F θ1 S1 H1 → Rl θ1 H1 a v → FinS B θ1 H1 (k a S1) D → P v H1) : Fin B Rl σ θ H r P := by
  cases r with
  | ok a S => exact fun θ1 H1 v e1 R1 r1 => f a S θ1 H1 v rfl e1 R1 r1 (h.ext e1)
  | exc x S => exact fun θ1 H1 c d e1 R1 x1 => h θ1 σ H1 c d e1 R1 (rs.ext e1) x1
  | bad => exact h
/-- the same with another state ahead -/
def rdS (B : Bv) (m : SM) : TS := fun D σ H => ∃ (ρ : Env) (S : Store) (θ : List Addr), Rel B.G B.F θ S H ∧ RS B.G θ H ρ σ ∧ FinS B θ H (m ρ S) D
/-- targets -/
abbrev TM := D → Env → Store → R Env
/-- the slots but those in I are as they were -/
structure Agr (I : Nat → Prop) (σ σ' : St) : Prop where
  len : σ'.length = σ.length
  eq : ∀ j, ¬ I j → σ'[j]? = σ[j]?
theorem Agr.refl {I : Nat → Prop} {σ : St} : Agr I σ σ := ⟨rfl, fun _ _ => rfl⟩
theorem Agr.trans {I : Nat → Prop} {σ σ1 σ2 : St} (a : Agr I σ σ1) (b : Agr I σ1 σ2) : Agr I σ σ2 := ⟨b.len.trans a.len, fun j h => (b.eq j h).trans (a.eq j h)⟩
theorem Agr.set {I : Nat → Prop} {σ : St} {i : Nat} {o : Option V} (h : I i) : Agr I σ (σ.set i o) := ⟨by simp, fun j hj => List.getElem?_set_ne (fun (e : i = j) => hj (e ▸ h))⟩
abbrev RSA (B : Bv) (I : Nat → Prop) (σ : St) (θ : List Addr) (H : Hp) (ρ : Env) (σ' : St) : Prop := RS B.G θ H ρ σ' ∧ Agr I σ σ'
def rdG (B : Bv) (I : Nat → Prop) (m : TM) : TG := fun v σ H Q => ∃ (ρ : Env) (S : Store) (θ : List Addr) (d : D), Rel B.G B.F θ S H ∧ RS B.G θ H ρ σ ∧ RD B.G θ H d v ∧ Fin B (RSA B I σ) σ θ H (m d ρ S) Q
abbrev TMs := List D → Env → Store → R Env
def rdGs (B : Bv) (I : Nat → Prop) (m : TMs) : TGs := fun vs σ H Q => ∃ (ρ : Env) (S : Store) (θ : List Addr) (ds : List D), Rel B.G B.F θ S H ∧ RS B.G θ H ρ σ ∧ RDs B.G θ H ds vs ∧ Fin B (RSA B I σ) σ θ H (m ds ρ S) Q
theorem PG.imp {X : Cx} {e : Expr} {t t' : TG} (h : PG X e t) (k : ∀ v σ H Q, t' v σ H Q → t v σ H Q) : PG X e t' := ⟨fun pins s σ H v u Q I r q => h.run pins s σ H v u Q I r (k v σ H Q q)⟩
theorem PGs.imp {X : Cx} {e : List Expr} {t t' : TGs} (h : PGs X e t) (k : ∀ v σ H Q, t' v σ H Q → t v σ H Q) : PGs X e t' := ⟨fun pins s σ H v u Q I r q => h.run pins s σ H v u Q I r (k v σ H Q q)⟩
theorem PI.imp {X : Cx} {tg e : Expr} {t t' : TI} (h : PI X tg e t) (k : ∀ σ H Q, t' σ H Q → t σ H Q) : PI X tg e t' := ⟨fun pins s σ H R I q => h.run pins s σ H R I (k σ H R q)⟩

section
variable {X : Cx} {B : Bv} {pos : Pos}
def tName (i : Nat) : TM := fun d ρ S => .ok (ρ.set i (some d)) S
theorem dg_name {I : Nat → Prop} {i : Nat} {x : Str} (hI : I i) (h : PG X (.Name x pos) (gName i)) : PG X (.Name x pos) (rdG B I (tName i)) :=
  PG.imp h fun v σ H Q ⟨ρ, S, θ, d, R0, rs, r, f⟩ => f.ok .refl R0 ⟨rs.set r i, .set hI⟩
def tNils : TMs := fun ds ρ S => match ds with
  | [] => .ok ρ S
  | _ => .bad
def tConss (a : TM) (b : TMs) : TMs := fun ds ρ S => match ds with
  | d :: r => (a d ρ S).bind fun ρ1 S1 => b r ρ1 S1
  | [] => .bad
end
/-- results that are no exceptions -/
def R.noexc {α : Type} : R α → R α
  | .exc _ _ => .bad
  | r => r
theorem Fin.noexc {α β : Type} {B : Bv} {Rl : List Addr → Hp → α → β → Prop} {σ σ' : St} {θ : List Addr} {H : Hp} {r : R α} {Q : β → Hp → Prop} (h : Fin B Rl σ θ H r.noexc Q) : Fin B Rl σ' θ H r Q := by
  cases r with
  | ok a S => exact h
  | exc x S => exact h.elim
  | bad => exact h
section
variable {X : Cx} {B : Bv} {pos : Pos}
theorem dgs_cons {I : Nat → Prop} {e : Expr} {es : List Expr} {a : TM} {b : TMs} (h1 : PG X e (rdG B I a)) (h2 : PGs X es (rdGs B I fun ds ρ S => (b ds ρ S).noexc))
    (hs : (assignEach (e :: es) X.env).map (·.2) = assign e X.env :: (assignEach es X.env).map (·.2) := by rfl) : PGs X (e :: es) (rdGs B I fun ds ρ S => (tConss a b ds ρ S).noexc) :=
  PGs.imp (pgs_cons h1 h2 hs) fun v σ H Q ⟨ρ, S, θ, ds, R0, rs, r, f⟩ => by
    cases r with
    | nil => exact f.elim
    | @cons d0 v0 ds' vs' r1 r2 =>
      have f' : Fin B (RSA B I σ) σ θ H (((a d0 ρ S).bind fun ρ1 S1 => b ds' ρ1 S1).noexc) Q := f
      refine ⟨_, _, rfl, ρ, S, θ, _, R0, rs, r1, ?_⟩
      cases q : a d0 ρ S with
      | exc => rw [q] at f'; exact f'.elim
      | bad => rw [q] at f'; exact f'.elim
      | ok ρ1 S1 =>
        rw [q] at f'
        intro θ1 H1 σ1 e1 R1 rs1
        refine ⟨ρ1, S1, θ1, ds', R1, rs1.1, r2.ext e1, ?_⟩
        have f2 : Fin B (RSA B I σ) σ θ1 H1 ((b ds' ρ1 S1).noexc) Q := Fin.ext e1 f'
        show Fin B (RSA B I σ1) σ1 θ1 H1 ((b ds' ρ1 S1).noexc) Q
        revert f2
        cases b ds' ρ1 S1 with
        | ok a S2 => exact fun f2 θ' H' v e R r => f2 θ' H' v e R ⟨r.1, rs1.2.trans r.2⟩
        | exc => exact fun f2 => f2.elim
        | bad => exact fun f2 => f2
theorem dgs_nil {I : Nat → Prop} : PGs X [] (rdGs B I fun ds ρ S => (tNils ds ρ S).noexc) := PGs.imp pgs_nil fun v σ H Q ⟨ρ, S, θ, ds, R0, rs, r, f⟩ => by
  cases r with
  | nil => exact ⟨rfl, f.ok .refl R0 ⟨rs, .refl⟩⟩
  | cons => exact f.elim
def getT : D → Option (List D)
  | .tup ds => some ds
  | .pr ds => some ds
  | _ => none
def tTupG (n : Nat) (b : TMs) : TM := fun d ρ S => match getT d with
  | some ds => if ds.length = n then (b ds ρ S).noexc else .bad
  | none => .bad
theorem dg_tup {I : Nat → Prop} {es : List Expr} {k : Nat} {b : TMs} {n : Nat} (hK : B.G.K = X.K) (hc : X.calm = true) (h : PGs X es (rdGs B I fun ds ρ S => (b ds ρ S).noexc))
    (hn : (assignEach es X.env).length = n := by rfl) (hst : (assignEach es X.env).findIdx? (·.1) = none := by rfl) : PG X (.Tuple es k pos) (rdG B I (tTupG n b)) :=
  PG.imp (pg_tup hc h hn hst) fun v σ H Q ⟨ρ, S, θ, d, R0, rs, r, f⟩ => by
    cases r with
    | @tup a xs ds h1 h2 =>
      obtain ⟨hl, f⟩ := Fin.ite (c := ds.length = n) f
      exact ⟨a, xs, rfl, hK ▸ h1.sq, by rw [← h2.length]; exact hl, ρ, S, θ, ds, R0, rs, h2, f⟩
    | @pr a xs ds h1 h2 =>
      obtain ⟨hl, f⟩ := Fin.ite (c := ds.length = n) f
      exact ⟨a, xs, rfl, hK ▸ h1, by rw [← h2.length]; exact hl, ρ, S, θ, ds, R0, rs, h2, f⟩
    | _ => exact f.elim

def sNil : SM := fun ρ S => .nx ρ S
def SR.seq : SR → SM → SR
  | .nx ρ S, k => k ρ S
  | r, _ => r
def sSeq (a b : SM) : SM := fun ρ S => (a ρ S).seq b
theorem ds_nil : PSs X [] (rdS B sNil) := PSs.imp pss_nil fun D σ H ⟨ρ, S, θ, R0, rs, f⟩ => f θ σ H .refl R0 rs
theorem ds_cons {st : Stmt} {rest : List Stmt} {a b : SM} (h1 : PS X st (rdS B a)) (h2 : PSs X rest (rdS B b)) : PSs X (st :: rest) (rdS B (sSeq a b)) :=
  PSs.imp (pss_cons h1 h2) fun D σ H ⟨ρ, S, θ, R0, rs, f⟩ => by
    refine ⟨ρ, S, θ, R0, rs, ?_⟩
    unfold sSeq at f
    cases q : a ρ S with
    | nx ρ1 S1 =>
      rw [q] at f
      exact fun θ' σ' H' e R1 rs1 => ⟨ρ1, S1, θ', R1, rs1, FinS.ext e f⟩
    | bk => rw [q] at f; exact f
    | ct => rw [q] at f; exact f
    | rt => rw [q] at f; exact f
    | exc => rw [q] at f; exact f
    | bad => rw [q] at f; exact f
theorem ds_one {st : Stmt} {a : SM} (h1 : PS X st (rdS B a)) : PSs X [st] (rdS B a) := pss_one h1
theorem ds_pass : PS X (.Pass pos) (rdS B sNil) := PS.imp ps_pass fun D σ H ⟨ρ, S, θ, R0, rs, f⟩ => f θ σ H .refl R0 rs
def sBreak : SM := fun ρ S => .bk ρ S
def sCont : SM := fun ρ S => .ct ρ S
theorem ds_break : PS X (.Break pos) (rdS B sBreak) := PS.imp ps_break fun D σ H ⟨ρ, S, θ, R0, rs, f⟩ => f θ σ H .refl R0 rs
theorem ds_cont : PS X (.Continue pos) (rdS B sCont) := PS.imp ps_continue fun D σ H ⟨ρ, S, θ, R0, rs, f⟩ => f θ σ H .refl R0 rs
def sExpr (a : M D) : SM := fun ρ S => (a ρ S).toS ρ fun _ S1 => .nx ρ S1
theorem ds_expr {e : Expr} {a : M D} (ha : PE X e (rdE B a)) (hs : swapsWith e none pos.line X.env = pure false := by rfl) : PS X (.Expr e pos) (rdS B (sExpr a)) :=
  PS.imp (ps_expr ha hs) fun D σ H ⟨ρ, S, θ, R0, rs, f⟩ => ⟨ρ, S, θ, R0, rs, FinS.bind rs f fun d S1 θ1 H1 v _ e1 R1 r1 f1 => f1 θ1 σ H1 .refl R1 (rs.ext e1)⟩
def sRet (a : M D) : SM := fun ρ S => (a ρ S).toS ρ fun d S1 => .rt d S1
theorem ds_ret {e : Expr} {a : M D} (ha : PE X e (rdE B a)) : PS X (.Return (some e) pos) (rdS B (sRet a)) :=
  PS.imp (ps_ret ha) fun D σ H ⟨ρ, S, θ, R0, rs, f⟩ => ⟨ρ, S, θ, R0, rs, FinS.bind rs f fun d S1 θ1 H1 v _ e1 R1 r1 f1 => f1 θ1 H1 v .refl R1 r1⟩
theorem ds_retN : PS X (.Return none pos) (rdS B (sRet (mC .non))) := PS.imp ps_retN fun D σ H ⟨ρ, S, θ, R0, rs, f⟩ => f θ H _ .refl R0 .non
def sIf (c : M Bool) (a b : SM) : SM := fun ρ S => (c ρ S).toS ρ fun k S1 => if k then a ρ S1 else b ρ S1
theorem ds_if {c : Expr} {s1 s2 : List Stmt} {mc : M Bool} {a b : SM} (hc : PT X c (rdT B mc)) (h1 : PSs X s1 (rdS B a)) (h2 : PSs X s2 (rdS B b)) : PS X (.If c s1 s2 pos) (rdS B (sIf mc a b)) :=
  PS.imp (ps_if hc h1 h2) fun D σ H ⟨ρ, S, θ, R0, rs, f⟩ => ⟨ρ, S, θ, R0, rs, FinS.bind rs f fun d S1 θ1 H1 v _ e1 R1 r1 f1 => by
    subst r1
    cases d with
    | true => exact ⟨ρ, S1, θ1, R1, rs.ext e1, f1⟩
    | false => exact ⟨ρ, S1, θ1, R1, rs.ext e1, f1⟩⟩
def sSet (i : Nat) (a : M D) : SM := fun ρ S => (a ρ S).toS ρ fun d S1 => .nx (ρ.set i (some d)) S1
theorem ds_set {i : Nat} {x : Str} {e : Expr} {pos' : Pos} {a : M D} (h : ∀ te, PE X e te → PS X (.Assign [.Name x pos'] e pos) (tAsg te (gName i))) (ha : PE X e (rdE B a)) : PS X (.Assign [.Name x pos'] e pos) (rdS B (sSet i a)) :=
  PS.imp (h _ ha) fun D σ H ⟨ρ, S, θ, R0, rs, f⟩ => ⟨ρ, S, θ, R0, rs, FinS.bind rs f fun d S1 θ1 H1 v _ e1 R1 r1 f1 => f1 θ1 _ H1 .refl R1 ((rs.ext e1).set r1 i)⟩
/-- target = e -/
def sAsg (a : M D) (g : TM) : SM := fun ρ S => (a ρ S).toS ρ fun d S1 => (g d ρ S1).noexc.toS ρ fun ρ1 S2 => .nx ρ1 S2
theorem ds_asg {I : Nat → Prop} {tg e : Expr} {a : M D} {g : TM} (ha : PE X e (rdE B a)) (hg : PG X tg (rdG B I g)) (hs : swapsWithSole [tg] e pos.line X.env = pure false := by rfl) (hw : swappedStores [tg] e X.env = pure none := by rfl)
    (h1 : (assignEach [tg] X.env).map (·.2) = [assign tg X.env] := by rfl) : PS X (.Assign [tg] e pos) (rdS B (sAsg a g)) :=
  PS.imp (ps_asg ha hg hs hw h1) fun D σ H ⟨ρ, S, θ, R0, rs, f⟩ => ⟨ρ, S, θ, R0, rs, FinS.bind rs f fun d S1 θ1 H1 v _ e1 R1 r1 f1 => ⟨ρ, S1, θ1, d, R1, rs.ext e1, r1,
    Fin.noexc (σ := σ) (FinS.bind (rs.ext e1) f1 fun ρ1 S2 θ2 H2 σ2 _ e2 R2 rs2 f2 => f2 θ2 σ2 H2 .refl R2 rs2.1)⟩⟩
/-- a, b = x, y -/
def sPar (i j : Nat) (a : M (List D)) : SM := fun ρ S => (a ρ S).toS ρ fun ds S1 => match ds with
  | [d, e] => .nx ((ρ.set i (some d)).set j (some e)) S1
  | _ => .bad
theorem ds_par {i j : Nat} {st : Stmt} {es : List Expr} {a : M (List D)} (h : ∀ ta, PA X es ta → PS X st (tPar i j ta)) (ha : PA X es (rdA B a)) : PS X st (rdS B (sPar i j a)) :=
  PS.imp (h _ ha) fun D σ H ⟨ρ, S, θ, R0, rs, f⟩ => ⟨ρ, S, θ, R0, rs, FinS.bind rs f fun ds S1 θ1 H1 vs _ e1 R1 r1 f1 => by
    cases r1 with
    | nil => exact f1.elim
    | cons a1 b1 =>
      cases b1 with
      | nil => exact f1.elim
      | cons a2 b2 =>
        cases b2 with
        | nil => exact ⟨_, _, rfl, f1 θ1 _ H1 .refl R1 (((rs.ext e1).set a1 i).set a2 j)⟩
        | cons => exact f1.elim⟩
/-- x op= e: op by values -/
def DenIp (B : Bv) (r : TIp) (o : O2) : Prop := ∀ (σ : St) (θ : List Addr) (S : Store) (H : Hp) (d e : D) (x y : V) (Q : VK), Rel B.G B.F θ S H → RD B.G θ H d x → RD B.G θ H e y → Fin B (RD B.G) σ θ H (o d e S) Q → r x y H Q
def sAug (i : Nat) (o : O2) (a : M D) : SM := fun ρ S => match ρ[i]? with
  | some (some d) => (a ρ S).toS ρ fun e S1 => (o d e S1).toS ρ fun z S2 => .nx (ρ.set i (some z)) S2
  | _ => .bad
theorem ds_aug {i : Nat} {x : Str} {e : Expr} {op : Operator} {ti : TIp} {o : O2} {pos' : Pos} {a : M D} (h : ∀ te, PE X e te → PS X (.AugAssign (.Name x pos') op e pos) (tAug i te ti)) (hd : DenIp B ti o) (ha : PE X e (rdE B a)) :
    PS X (.AugAssign (.Name x pos') op e pos) (rdS B (sAug i o a)) :=
  PS.imp (h _ ha) fun D σ H ⟨ρ, S, θ, R0, rs, f⟩ => by
    unfold sAug at f
    cases q : ρ[i]? with
    | none => rw [q] at f; exact f.elim
    | some w =>
      cases w with
      | none => rw [q] at f; exact f.elim
      | some d =>
        rw [q] at f
        obtain ⟨v, hv, rv⟩ := rs.get q
        exact ⟨v, hv, ρ, S, θ, R0, rs, FinS.bind rs f fun e S1 θ1 H1 y _ e1 R1 r1 f1 => hd σ θ1 S1 H1 d e v y _ R1 (rv.ext e1) r1
          (FinS.bind (rs.ext e1) f1 fun z S2 θ2 H2 u _ e2 R2 r2 f2 => f2 θ2 _ H2 .refl R2 (((rs.ext e1).ext e2).set r2 i))⟩

def SR.turn : SR → SM → SR
  | .nx ρ S, k => k ρ S
  | .ct ρ S, k => k ρ S
  | .bk ρ S, _ => .nx ρ S
  | r, _ => r
def sWhileN (c : M Bool) (b : SM) : Nat → SM
  | 0 => fun _ _ => .bad
  | n + 1 => fun ρ S => (c ρ S).toS ρ fun k S1 => if k then (b ρ S1).turn (sWhileN c b n) else .nx ρ S1
def fuel : Nat := 20000000
def sWhile (c : M Bool) (b : SM) : SM := sWhileN c b fuel
theorem turn_ok {θ : List Addr} {H : Hp} {r : SR} {k : SM} {D : Ends} {N : St → Hp → Prop} (h : FinS B θ H (r.turn k) D) (hN : ∀ ρ S θ' σ' H', Ext θ H θ' H' → Rel B.G B.F θ' S H' → RS B.G θ' H' ρ σ' → FinS B θ' H' (k ρ S) D → N σ' H') : FinS B θ H r { D with nx := N, ct := N, bk := D.nx } := by
  cases r with
  | nx ρ S => exact fun θ' σ' H' e R1 rs => hN ρ S θ' σ' H' e R1 rs (FinS.ext e h)
  | ct ρ S => exact fun θ' σ' H' e R1 rs => hN ρ S θ' σ' H' e R1 rs (FinS.ext e h)
  | bk ρ S => exact h
  | rt d S => exact h
  | exc x ρ S => exact h
  | bad => exact h
theorem ds_while {c : Expr} {body : List Stmt} {mc : M Bool} {b : SM} (hp : PassesOwn (model X.prog X.w) X.A X.env X.xe) (hc : PT X c (rdT B mc)) (hb : PSs X body (rdS B b)) : PS X (.While c body [] pos) (rdS B (sWhile mc b)) :=
  PS.imp (ps_while hp hc hb) fun D σ H ⟨ρ, S, θ, R0, rs, f⟩ => by
    refine ⟨fun m σ H => ∃ ρ S θ, Rel B.G B.F θ S H ∧ RS B.G θ H ρ σ ∧ FinS B θ H (sWhileN mc b m ρ S) D, ⟨fuel, ρ, S, θ, R0, rs, f⟩, ?_⟩
    rintro m σ H ⟨ρ, S, θ, R0, rs, f⟩
    cases m with
    | zero => exact f.elim
    | succ m =>
      refine ⟨ρ, S, θ, R0, rs, FinS.bind rs f fun k S1 θ1 H1 v _ e1 R1 r1 f1 => ?_⟩
      subst r1
      cases k with
      | true =>
        rw [if_pos rfl]
        exact ⟨fun σ' H' => ∃ ρ S θ, Rel B.G B.F θ S H' ∧ RS B.G θ H' ρ σ' ∧ FinS B θ H' (sWhileN mc b m ρ S) D, fun σ' H' h => ⟨m, Nat.lt_succ_self _, h⟩, ρ, S1, θ1, R1, rs.ext e1,
          turn_ok f1 fun ρ2 S2 θ2 σ2 H2 e2 R2 rs2 f2 => ⟨ρ2, S2, θ2, R2, rs2, f2⟩⟩
      | false =>
        rw [if_neg Bool.false_ne_true]
        exact f1 θ1 σ H1 .refl R1 (rs.ext e1)

abbrev Nx := Nat → Store → Option (Option D)
def RI (B : Bv) (θ : List Addr) (H : Hp) (nx : Nx) (J : It) : Prop := ∀ (i : Nat) (θ' : List Addr) (S' : Store) (H' : Hp), Ext θ H θ' H' → Rel B.G B.F θ' S' H' →
  (nx i S' = some none → J.stop i H') ∧ ∀ d, nx i S' = some (some d) → J.go i H' ∧ ∀ x H'', J.yld i H' x H'' → Ext θ' H' θ' H'' ∧ Rel B.G B.F θ' S' H'' ∧ RD B.G θ' H'' d x
theorem RI.ext {θ θ1 : List Addr} {H H1 : Hp} {nx : Nx} {J : It} (e : Ext θ H θ1 H1) (h : RI B θ H nx J) : RI B θ1 H1 nx J := fun i θ' S' H' e' => h i θ' S' H' (e.trans e')
abbrev rdI (B : Bv) (m : M Nx) : TI := rd B (RI B) m
def sForN (nx : Nx) (g : TM) (b : SM) : Nat → Nat → SM
  | 0, _ => fun _ _ => .bad
  | n + 1, i => fun ρ S => match nx i S with
    | some (some d) => (g d ρ S).noexc.toS ρ fun ρ1 S1 => (b ρ1 S1).turn (sForN nx g b n (i + 1))
    | some none => .nx ρ S
    | none => .bad
def sFor (it : M Nx) (g : TM) (b : SM) : SM := fun ρ S => (it ρ S).toS ρ fun nx S1 => sForN nx g b fuel 0 ρ S1
theorem ds_for {I : Nat → Prop} {tg iter : Expr} {body : List Stmt} {it : M Nx} {g : TM} {b : SM} (hp : PassesOwn (model X.prog X.w) X.A X.env X.xe) (hc : X.calm = true) (hi : PI X tg iter (rdI B it)) (hg : PG X tg (rdG B I g)) (hb : PSs X body (rdS B b))
    (hs : ∀ x, foldedSetIterable iter X.env x = pure x := by intro _; rfl) : PS X (.For tg iter body [] pos) (rdS B (sFor it g b)) :=
  PS.imp (ps_for hp hc hi hg hb hs) fun D σ H ⟨ρ, S, θ, R0, rs, f⟩ => by
    refine ⟨ρ, S, θ, R0, rs, FinS.bind rs f fun nx S1 θ1 H1 J _ e1 R1 r1 f1 => ?_⟩
    refine ⟨fun i m σ H' => ∃ ρ S θ, Ext θ1 H1 θ H' ∧ Rel B.G B.F θ S H' ∧ RS B.G θ H' ρ σ ∧ FinS B θ H' (sForN nx g b m i ρ S) D, ⟨fuel, ρ, S1, θ1, .refl, R1, rs.ext e1, f1⟩, ?_⟩
    rintro i m σ' H' ⟨ρ2, S2, θ2, e2, R2, rs2, f2⟩
    cases m with
    | zero => exact f2.elim
    | succ m =>
      obtain ⟨q1, q2⟩ := r1 i θ2 S2 H' e2 R2
      unfold sForN at f2
      cases q : nx i S2 with
      | none => rw [q] at f2; exact f2.elim
      | some o =>
        cases o with
        | none =>
          rw [q] at f2
          exact .inl ⟨q1 q, f2 θ2 σ' H' .refl R2 rs2⟩
        | some d =>
          rw [q] at f2
          obtain ⟨go, yl⟩ := q2 d q
          refine .inr ⟨go, fun σ' H' => ∃ ρ S θ, Ext θ1 H1 θ H' ∧ Rel B.G B.F θ S H' ∧ RS B.G θ H' ρ σ' ∧ FinS B θ H' (sForN nx g b m (i + 1) ρ S) D, fun σ' H' h => ⟨m, Nat.lt_succ_self _, h⟩, fun x H3 hy => ?_⟩
          obtain ⟨e3, R3, r3⟩ := yl x H3 hy
          refine ⟨ρ2, S2, θ2, d, R3, rs2.ext e3, r3, Fin.noexc (σ := σ') (FinS.bind (rs2.ext e3) (FinS.ext e3 f2) fun ρ4 S4 θ4 H4 σ4 _ e4 R4 rs4 f4 => ?_)⟩
          exact ⟨ρ4, S4, θ4, R4, rs4.1, turn_ok f4 fun ρ5 S5 θ5 σ5 H5 e5 R5 rs5 f5 => ⟨ρ5, S5, θ5, ((e2.trans e3).trans e4).trans e5, R5, rs5, f5⟩⟩
end
end DM

namespace DM
open PySem PySem.Spec L2
open PyProof.Rows hiding St

mutual
def cleanD : D → Bool
  | .ref _ => false
  | .tup ds => cleanAll ds
  | .pr ds => cleanAll ds
  | .lst ds => cleanAll ds
  | .kst ds => cleanAll ds
  | .brw ds => cleanAll ds
  | .non => true
  | .bl _ => true
  | .int _ => true
  | .str _ => true
  | .fn _ => true
  | .ty _ => true
def cleanAll : List D → Bool
  | [] => true
  | d :: ds => cleanD d && cleanAll ds
end
mutual
def pureD : D → Bool
  | .ref _ => false
  | .brw _ => false
  | .tup ds => pureAll ds
  | .pr ds => pureAll ds
  | .lst ds => pureAll ds
  | .kst ds => pureAll ds
  | .non => true
  | .bl _ => true
  | .int _ => true
  | .str _ => true
  | .fn _ => true
  | .ty _ => true
def pureAll : List D → Bool
  | [] => true
  | d :: ds => pureD d && pureAll ds
end
/-- another view of the same things: other cells, other callers' cells -/
structure View (G G' : Gv) : Prop where
  K : G'.K = G.K
  fa : G'.fa = G.fa
  ca : G'.ca = G.ca
  cn : G'.cn = G.cn
section
variable {G G' : Gv} {θ θ' : List Addr} {H : Hp}
mutual
theorem RD.clean (w : View G G') (h1 : ∀ a o, H a = some o → ¬ G.ph a → a ∉ θ → ¬ G'.ph a) (h2 : ∀ a o, H a = some o → a ∉ θ → a ∉ θ') : ∀ {d : D} {v : V}, RD G θ H d v → cleanD d = true → RD G' θ' H d v
  | _, _, .non, _ => .non
  | _, _, .bl b, _ => .bl b
  | _, _, .int i, _ => .int i
  | _, _, .str s, _ => .str s
  | _, _, .ty s, _ => .ty s
  | _, _, .tup (ds := ds) k1 k2, c => .tup (w.K ▸ k1) (RDs.clean w h1 h2 k2 (by simpa [cleanD] using c))
  | _, _, .pr (ds := ds) k1 k2, c => .pr (w.K ▸ k1) (RDs.clean w h1 h2 k2 (by simpa [cleanD] using c))
  | _, _, .lst (ds := ds) k0 k1 k2 k3, c => .lst (h1 _ _ k2 k0 k1) (h2 _ _ k2 k1) k2 (RDs.clean w h1 h2 k3 (by simpa [cleanD] using c))
  | _, _, .brw (ds := ds) k1 k2 k3, c => .brw (h2 _ _ k2 k1) k2 (RDs.clean w h1 h2 k3 (by simpa [cleanD] using c))
  | _, _, .kst (ds := ds) k1 k2, c => .kst (w.K ▸ k1) (RDs.clean w h1 h2 k2 (by simpa [cleanD] using c))
  | _, _, .ref h, c => by simp [cleanD] at c
  | _, _, .fn h, _ => .fn (w.fa ▸ h)
theorem RDs.clean (w : View G G') (h1 : ∀ a o, H a = some o → ¬ G.ph a → a ∉ θ → ¬ G'.ph a) (h2 : ∀ a o, H a = some o → a ∉ θ → a ∉ θ') : ∀ {ds : List D} {vs : List V}, RDs G θ H ds vs → cleanAll ds = true → RDs G' θ' H ds vs
  | _, _, .nil, _ => .nil
  | _, _, .cons r t, c => by
    simp only [cleanAll, Bool.and_eq_true] at c
    exact .cons (RD.clean w h1 h2 r c.1) (RDs.clean w h1 h2 t c.2)
end
mutual
/-- back to those who called: nothing borrowed -/
theorem RD.pure (w : View G G') (h : ∀ a, ¬ G.ph a → a ∉ θ → ¬ G'.ph a ∧ a ∉ θ') : ∀ {d : D} {v : V}, RD G θ H d v → pureD d = true → RD G' θ' H d v
  | _, _, .non, _ => .non
  | _, _, .bl b, _ => .bl b
  | _, _, .int i, _ => .int i
  | _, _, .str s, _ => .str s
  | _, _, .ty s, _ => .ty s
  | _, _, .tup (ds := ds) k1 k2, c => .tup (w.K ▸ k1) (RDs.pure w h k2 (by simpa [pureD] using c))
  | _, _, .pr (ds := ds) k1 k2, c => .pr (w.K ▸ k1) (RDs.pure w h k2 (by simpa [pureD] using c))
  | _, _, .lst (ds := ds) k0 k1 k2 k3, c => .lst (h _ k0 k1).1 (h _ k0 k1).2 k2 (RDs.pure w h k3 (by simpa [pureD] using c))
  | _, _, .brw (ds := ds) k1 k2 k3, c => by simp [pureD] at c
  | _, _, .kst (ds := ds) k1 k2, c => .kst (w.K ▸ k1) (RDs.pure w h k2 (by simpa [pureD] using c))
  | _, _, .ref h, c => by simp [pureD] at c
  | _, _, .fn h, _ => .fn (w.fa ▸ h)
theorem RDs.pure (w : View G G') (h : ∀ a, ¬ G.ph a → a ∉ θ → ¬ G'.ph a ∧ a ∉ θ') : ∀ {ds : List D} {vs : List V}, RDs G θ H ds vs → pureAll ds = true → RDs G' θ' H ds vs
  | _, _, .nil, _ => .nil
  | _, _, .cons r t, c => by
    simp only [pureAll, Bool.and_eq_true] at c
    exact .cons (RD.pure w h r c.1) (RDs.pure w h t c.2)
end
end

/-- cells become borrowed lists -/
def brwG (S : Store) : Nat → D → Option D
  | 0, _ => none
  | n + 1, d => match d with
    | .ref j => match S[j]? with
      | some (.lst es) => (es.mapM (brwG S n)).map .brw
      | _ => none
    | .tup ds => (ds.mapM (brwG S n)).map .tup
    | .pr ds => (ds.mapM (brwG S n)).map .pr
    | d => if cleanD d then some d else none
def cellOk (S : Store) (i : Nat) : Bool := match S[i]? with
  | some (.lst es) => cleanAll es
  | _ => false
def ixOf (i : Nat) : List Nat → Nat → Option Nat
  | [], _ => none
  | j :: r, k => if i = j then some k else ixOf i r (k + 1)
def argA (S : Store) (is : List Nat) (d : D) : Option (D × List Nat) := match d with
  | .ref i => if cellOk S i then (match ixOf i is 0 with
    | some j => some (.ref j, is)
    | none => some (.ref is.length, is ++ [i])) else none
  | d => if cleanD d then some (d, is) else none
def argsA (S : Store) : List Nat → List D → Option (List D × List Nat)
  | is, [] => some ([], is)
  | is, d :: ds => match argA S is d with
    | none => none
    | some p => match argsA S p.2 ds with
      | none => none
      | some q => some (p.1 :: q.1, q.2)
def passArgs (S : Store) (ds : List D) : Option (List D × List Nat) := match argsA S [] ds with
  | some r => some r
  | none => (ds.mapM (brwG S 20)).map fun ds' => (ds', [])
def cellsOf (S : Store) (is : List Nat) : Store := is.map fun i => (S[i]?).getD (.lst [])
def retG (k av : Nat) (S : Store) : Nat → D → Option D
  | 0, _ => none
  | n + 1, d => match d with
    | .ref j => if j < k then none else if j = av then none else match S[j]? with
      | some (.lst es) => (es.mapM (retG k av S n)).map .lst
      | _ => none
    | .tup ds => (ds.mapM (retG k av S n)).map .tup
    | .pr ds => (ds.mapM (retG k av S n)).map .pr
    | .lst ds => (ds.mapM (retG k av S n)).map .lst
    | d => if pureD d then some d else none
def retD (k av : Nat) (S : Store) (d : D) : Option D := if pureD d then some d else retG k av S 20 d
def retAll (k av : Nat) (S : Store) (ds : List D) : Option (List D) := if pureAll ds then some ds else ds.mapM (retG k av S 20)
def putBack (k av : Nat) (S1 : Store) : List Nat → Nat → Store → Option Store
  | [], _, S => some S
  | i :: is, j, S => match S1[j]? with
    | some (.lst es) => match retAll k av S1 es with
      | some es' => putBack k av S1 is (j + 1) (S.set i (.lst es'))
      | none => none
    | _ => none
/-- the datum is no new cell: it is seen from outside -/
def backP (is : List Nat) (S S1 : Store) (d : D) : R D := match putBack is.length S1.length S1 is 0 S with
  | some S2 => match retD is.length S1.length S1 d with
    | some d' => .ok d' S2
    | none => .bad
  | none => .bad
/-- a new cell is handed back -/
def backN (is : List Nat) (S S1 : Store) (j : Nat) : R D := match putBack is.length j S1 is 0 S with
  | some S2 => match S1[j]? with
    | some (.lst es) => match retAll is.length j S1 es with
      | some es' => .ok (.ref S2.length) (S2 ++ [.lst es'])
      | none => .bad
    | _ => .bad
  | none => .bad
/-- a cell that was handed in is handed back -/
def backO (is : List Nat) (S S1 : Store) (j : Nat) : R D := match putBack is.length S1.length S1 is 0 S with
  | some S2 => .ok (.ref (is.getD j 0)) S2
  | none => .bad
def backX (is : List Nat) (S S1 : Store) (x : Ex) : R D := match putBack is.length S1.length S1 is 0 S with
  | some S2 => match x.v with
    | none => .exc ⟨x.c, none⟩ S2
    | some d => match retD is.length S1.length S1 d with
      | some d' => .exc ⟨x.c, some d'⟩ S2
      | none => .bad
  | none => .bad
def back (is : List Nat) (S : Store) (r : R D) : R D := match r with
  | .ok (.ref j) S1 => if j < is.length then backO is S S1 j else backN is S S1 j
  | .ok d S1 => backP is S S1 d
  | .exc x S1 => backX is S S1 x
  | .bad => .bad
abbrev Fm := List D → Store → R D
def callD (m : Fm) (ds : List D) (S : Store) : R D := match passArgs S ds with
  | some p => back p.2 S (m p.1 (cellsOf S p.2))
  | none => .bad
def mCall (m : Fm) (a : M (List D)) : M D := fun ρ S => (a ρ S).bind fun ds S1 => callD m ds S1
/-- a def by its body: k names that are no parameters -/
def defM (k : Nat) (b : SM) : Fm := fun ds S => match b (ds.map some ++ List.replicate k none) S with
  | .nx _ S' => .ok .non S'
  | .rt d S' => .ok d S'
  | .exc x _ S' => .exc x S'
  | _ => .bad

def spD (G : Gv) (n : Nat) (m : Fm) : Sp := fun vs H Q E => ∃ (ph : Addr → Prop) (ds : List D) (S : Store) (θ : List Addr), vs.length = n ∧ Rel { G with ph := ph } ⟨H, θ⟩ θ S H ∧ RDs { G with ph := ph } θ H ds vs ∧
  Fin ⟨{ G with ph := ph }, ⟨H, θ⟩, fun c a _ H' => E c a H'⟩ (RD { G with ph := ph }) [] θ H (m ds S) Q
/-- L2's FnOk where no repr runs around the call -/
structure FnG (P : Program) (w : World) (K : PySem.W.Frag) (mg : Str → Option Value) (base : Heap) (k : Nat) (f : Addr) (fd : FuncData) (ps : List Str) (sp : Sp) : Prop where
  len : ∀ vs H Q E, sp vs H Q E → vs.length = ps.length
  run : ∀ (A : Around) (outer : List PySem.Env) (s : Shared) (H : Hp) (args : Args) (us : List Value) (vs : List V) (Q : VK) (E : XK),
    Room k A → A.guards = some [] → Env0 P w K mg base A outer s H → BindsTo s fd args (ps.zip us) → Vals vs us → sp vs H Q E → codeAny (model P w) A (.call (.ref f) args) (CR (L2.CX P w) outer P w H s Q E) s
theorem FnG.mono {P : Program} {w : World} {K : PySem.W.Frag} {mg : Str → Option Value} {base : Heap} {j k : Nat} {f : Addr} {fd : FuncData} {ps : List Str} {sp : Sp} (F : FnG P w K mg base j f fd ps sp) (h : j ≤ k) : FnG P w K mg base k f fd ps sp :=
  ⟨F.len, fun A outer s H args us vs Q E hr => F.run A outer s H args us vs Q E (hr.mono h)⟩
/-- what a def's body may use -/
structure Body (P : Program) (w : World) (mg : Str → Option Value) (base : Heap) (G : Gv) (N : List Str) (sc : Scope) (k : Nat) (X : Cx) (B : Bv) : Prop where
  gK : B.G.K = G.K
  gf : B.G.fa = G.fa
  gc : B.G.ca = G.ca
  gn : B.G.cn = G.cn
  K : X.K = G.K
  mg : X.mg = mg
  prog : X.prog = P
  w : X.w = w
  base : X.base = base
  N : X.N = N
  sc : X.env.scope = sc
  calm : X.calm = true
  room : Room k X.A
  gd : X.A.guards = some []
  takes : Takes X B.W
  own : PassesOwn (model X.prog X.w) X.A X.env X.xe
  stk : X.stack = X.env :: X.outer
  frm : X.env.frame = some X.env.locals
  ex : X.ex = []
  fn : X.fn = fun _ => true
section
variable {P : Program} {w : World} {mg : Str → Option Value} {base : Heap}
/-- THE RULE for a def -/
theorem def_ok {G : Gv} {x qual : Str} {st : Stmt} {f : Addr} {fd : FuncData} {N ps : List Str} {k l : Nat} {b : SM} (F : Fun G.K x qual st f fd) (S : FnScope N ps (defScope st)) (hl : N.length = ps.length + l)
    (hb : ∀ (E : XK) (cd : Value) (A : Around) (outer : List PySem.Env) (s : Shared) (H : Hp) (B : Bv), Body P w mg base G N (defScope st) k (cxOf (L2.CX P w) P w G.K mg base N qual (defScope st) f cd A outer s H E) B →
      PSs (cxOf (L2.CX P w) P w G.K mg base N qual (defScope st) f cd A outer s H E) (defBody st) (rdS B b)) :
    FnG P w G.K mg base (k + 1) f fd ps (spD G ps.length (defM l b)) := by
  refine ⟨fun vs H Q E h => ?_, fun A outer s H args us vs Q E hr hgd e0 hbi r hsp => ?_⟩
  · obtain ⟨_, _, _, _, e, _⟩ := h; exact e
  obtain ⟨oc, od, kV, doc, pm, an, cdv, ct, osl, rfl, lk, hcd⟩ := F.ex
  obtain ⟨ph, ds, S0, θ, hn, R0, rd0, f0⟩ := hsp
  have KX : G.K.In s.heap := e0.mod.kin.keeps fun b o e => (e0.bs b o e).1
  have limH : s.heap.NoLimit := e0.mod.nolimit.keeps fun b o e => (e0.bs b o e).1
  have kinds : ∀ y ∈ ps.zip us, (defScope st).names.lookup y.1 = some .local ∨ ((defScope st).names.lookup y.1 = some .cell ∧ ((cellsFrom (s.heap.objs.size + 1) (defScope st).names []).lookup y.1).isSome = true) := by
    rintro ⟨n, v⟩ hy
    rcases S.par n (List.of_mem_zip hy).1 with q | q
    · exact .inl q
    · exact .inr ⟨q, PySem.W.cellsFrom_some _ _ _ (.inl q)⟩
  refine codeAny_call_function (hr.depth) (KX _ _ lk) rfl S.co S.gen rfl (PySem.W.codeRec_of KX hcd) (hbi _ _ _ _ ?_)
  refine wpAny_newFunctionEnv_cells (S.kind) kinds fun env he s1 x => ?_
  subst he
  refine ⟨limH.keeps x.toInCall.keep, codeAny_func ?_⟩
  have I : Inv (cxOf (L2.CX P w) P w G.K mg base N qual (defScope st) f cdv A outer s H E) [] (L2.start N vs) H s1 := inv_start S hr.hd e0 hn r x
  have hlen : ds.length = ps.length := rd0.length.trans hn
  have rs0 : RS { G with ph := ph } θ H (ds.map some ++ List.replicate l none) (L2.start N vs) := by
    have e : N.length - vs.length = l := by omega
    unfold L2.start
    rw [e]
    exact RS.start l rd0
  have hB : Body P w mg base G N (defScope st) k (cxOf (L2.CX P w) P w G.K mg base N qual (defScope st) f cdv A outer s H E) ⟨{ G with ph := ph }, ⟨H, θ⟩, fun c a _ H' => E c a H'⟩ :=
    ⟨rfl, rfl, rfl, rfl, rfl, rfl, rfl, rfl, rfl, rfl, rfl, rfl, hr.deeper _, hgd, takes_of rfl rfl rfl rfl, passes_of rfl, rfl, rfl, rfl, rfl⟩
  have body := hb E cdv A outer s H _ hB
  have hq : rdS ⟨{ G with ph := ph }, ⟨H, θ⟩, fun c a _ H' => E c a H'⟩ b { nx := fun _ H' => Q .non H', rt := Q } (L2.start N vs) H := by
    refine ⟨_, S0, θ, R0, rs0, ?_⟩
    unfold defM at f0
    cases q : b (ds.map some ++ List.replicate l none) S0 with
    | nx ρ S1 => rw [q] at f0; exact fun θ' σ' H' e R1 _ => f0 θ' H' .non e R1 .non
    | rt d S1 => rw [q] at f0; exact f0
    | exc x ρ S1 => rw [q] at f0; exact fun θ' σ' H' c a e R1 _ => f0 θ' H' c a e R1
    | bk ρ S1 => rw [q] at f0; exact f0.elim
    | ct ρ S1 => rw [q] at f0; exact f0.elim
    | bad => rw [q] at f0; exact f0.elim
  refine wpAny_mono (body.run [] s1 _ H _ I hq) (fun fl s' hs => ?_) fun e s' hs => hs
  cases fl with
  | ret u => obtain ⟨v, _, H', J, rv, q⟩ := hs; exact ⟨v, H', J.os, J.bare, J.base, J.hok, rv, q⟩
  | next => obtain ⟨_, H', J, q⟩ := hs; exact ⟨.non, H', J.os, J.bare, J.base, J.hok, rfl, q⟩
  | brk => obtain ⟨_, _, _, q⟩ := hs; exact q.elim
  | cont => obtain ⟨_, _, _, q⟩ := hs; exact q.elim
end
end DM

namespace DM
open PySem PySem.Spec L2
open PyProof.Rows hiding St

theorem mapM_cons_some {α β : Type} {f : α → Option β} {a : α} {l : List α} {r : List β} (h : (a :: l).mapM f = some r) : ∃ b bs, f a = some b ∧ l.mapM f = some bs ∧ r = b :: bs := by
  rw [List.mapM_cons] at h
  cases q : f a with
  | none => rw [q] at h; cases h
  | some b =>
    rw [q] at h
    cases q2 : l.mapM f with
    | none => rw [q2] at h; cases h
    | some bs => rw [q2] at h; cases h; exact ⟨b, bs, rfl, rfl, rfl⟩
theorem rds_mapM {G G' : Gv} {θ θ' : List Addr} {H : Hp} {f : D → Option D} (ih : ∀ d v d', RD G θ H d v → f d = some d' → RD G' θ' H d' v) :
    ∀ {ds : List D} {vs : List V} {ds' : List D}, RDs G θ H ds vs → ds.mapM f = some ds' → RDs G' θ' H ds' vs
  | [], _, ds', .nil, e => by simp at e; subst e; exact .nil
  | d :: ds, _, ds', .cons r t, e => by
    obtain ⟨b, bs, e1, e2, rfl⟩ := mapM_cons_some e
    exact .cons (ih _ _ _ r e1) (rds_mapM ih t e2)
abbrev Gv.sub (G : Gv) (θ : List Addr) : Gv := { G with ph := fun a => G.ph a ∨ a ∈ θ }
theorem view_sub (G : Gv) (θ : List Addr) : View G (G.sub θ) := ⟨rfl, rfl, rfl, rfl⟩
theorem sub_view (G : Gv) (θ : List Addr) : View (G.sub θ) G := ⟨rfl, rfl, rfl, rfl⟩
section
variable {G : Gv} {F : Fr0} {θ : List Addr} {S : Store} {H : Hp}
theorem brwG_ok (R0 : Rel G F θ S H) : ∀ (n : Nat) (d : D) (v : V) (d' : D), RD G θ H d v → brwG S n d = some d' → RD (G.sub θ) [] H d' v
  | 0, _, _, _, _, e => by cases e
  | n + 1, d, v, d', r, e => by
    have ih := brwG_ok R0 n
    have cl : (if cleanD d then some d else none) = some d' → RD (G.sub θ) [] H d' v := fun e => by
      by_cases c : cleanD d = true
      · rw [if_pos c] at e
        cases e
        exact RD.clean (view_sub G θ) (fun a o _ h1 h2 z => z.elim h1 h2) (fun a o _ _ => by simp) r c
      · rw [if_neg c] at e; cases e
    cases r with
    | tup h1 h2 =>
      obtain ⟨ds', e1, rfl⟩ := map_some e
      exact .tup h1 (rds_mapM ih h2 e1)
    | pr h1 h2 =>
      obtain ⟨ds', e1, rfl⟩ := map_some e
      exact .pr h1 (rds_mapM ih h2 e1)
    | @ref j a h =>
      have e' : (match S[j]? with | some (.lst es) => (es.mapM (brwG S n)).map .brw | _ => none) = some d' := e
      cases q : S[j]? with
      | none => rw [q] at e'; cases e'
      | some c =>
        cases c with
        | dct kvs => rw [q] at e'; cases e'
        | rev rs0 k0 => rw [q] at e'; cases e'
        | lst es =>
          rw [q] at e'
          obtain ⟨ds', e1, rfl⟩ := map_some e'
          obtain ⟨xs, h1, h2⟩ := R0.cells _ _ _ h q
          exact .brw (by simp) h1 (rds_mapM ih h2 e1)
    | _ => exact cl e
theorem ixOf_get {i : Nat} : ∀ {l : List Nat} {k j : Nat}, ixOf i l k = some j → k ≤ j ∧ l[j - k]? = some i
  | [], _, _, e => by cases e
  | x :: r, k, j, e => by
    have e' : (if i = x then some k else ixOf i r (k + 1)) = some j := e
    by_cases h : i = x
    · rw [if_pos h] at e'; cases e'; subst h; simp
    · rw [if_neg h] at e'
      obtain ⟨h1, h2⟩ := ixOf_get e'
      refine ⟨by omega, ?_⟩
      have : j - k = (j - (k + 1)) + 1 := by omega
      rw [this]; simpa using h2
theorem ixOf_none {i : Nat} : ∀ {l : List Nat} {k : Nat}, ixOf i l k = none → i ∉ l
  | [], _, _ => by simp
  | x :: r, k, e => by
    have e' : (if i = x then some k else ixOf i r (k + 1)) = none := e
    by_cases h : i = x
    · rw [if_pos h] at e'; cases e'
    · rw [if_neg h] at e'
      simp [h, ixOf_none e']
def thOf (θ : List Addr) (is : List Nat) : List Addr := is.map fun i => θ.getD i 0
theorem cellOk_get (R0 : Rel G F θ S H) {i : Nat} (h : cellOk S i = true) : ∃ a es xs, θ[i]? = some a ∧ θ.getD i 0 = a ∧ S[i]? = some (.lst es) ∧ cleanAll es = true ∧ H a = some (.lst xs) ∧ RDs G θ H es xs := by
  unfold cellOk at h
  cases q : S[i]? with
  | none => rw [q] at h; cases h
  | some c =>
    cases c with
    | dct kvs => rw [q] at h; cases h
    | rev rs0 k0 => rw [q] at h; cases h
    | lst es =>
      rw [q] at h
      have hi : i < θ.length := by rw [R0.len]; exact (List.getElem?_eq_some_iff.mp q).1
      obtain ⟨xs, h1, h2⟩ := R0.cells i θ[i] _ (List.getElem?_eq_getElem hi) q
      exact ⟨θ[i], es, xs, List.getElem?_eq_getElem hi, by simp [List.getD, List.getElem?_eq_getElem hi], rfl, h, h1, h2⟩
theorem argsA_ok (R0 : Rel G F θ S H) : ∀ {ds : List D} {vs : List V} {is is' : List Nat} {ds' : List D}, RDs G θ H ds vs → argsA S is ds = some (ds', is') → is.Nodup → (∀ i ∈ is, cellOk S i = true) →
    is'.Nodup ∧ (∀ i ∈ is', cellOk S i = true) ∧ (∃ m, is' = is ++ m) ∧ ∀ θ0, (∀ (j : Nat) a, (thOf θ is')[j]? = some a → θ0[j]? = some a) → (∀ a, a ∉ θ → a ∉ θ0) → RDs (G.sub θ) θ0 H ds' vs
  | [], _, is, is', ds', .nil, e, hn, hc => by
    cases e
    exact ⟨hn, hc, ⟨[], by simp⟩, fun _ _ _ => .nil⟩
  | d :: ds, _, is, is', ds', .cons (v := v0) r t, e, hn, hc => by
    have e' : (match argA S is d with | none => none | some p => match argsA S p.2 ds with | none => none | some q => some (p.1 :: q.1, q.2)) = some (ds', is') := e
    cases q1 : argA S is d with
    | none => rw [q1] at e'; cases e'
    | some p =>
      rw [q1] at e'
      replace e' : (match argsA S p.2 ds with | none => none | some q => some (p.1 :: q.1, q.2)) = some (ds', is') := e'
      cases q2 : argsA S p.2 ds with
      | none => rw [q2] at e'; cases e'
      | some q =>
        rw [q2] at e'
        cases e'
        obtain ⟨d1, is1⟩ := p
        obtain ⟨ds1, is2⟩ := q
        have cl : ∀ d v, RD G θ H d v → (if cleanD d then some (d, is) else none) = some (d1, is1) → is1 = is ∧ ∀ θ0, (∀ a, a ∉ θ → a ∉ θ0) → RD (G.sub θ) θ0 H d1 v := fun d v r e => by
          by_cases c : cleanD d = true
          · rw [if_pos c] at e
            cases e
            exact ⟨rfl, fun θ0 h0 => RD.clean (view_sub G θ) (fun a o _ h1 h2 z => z.elim h1 h2) (fun a o _ h => h0 a h) r c⟩
          · rw [if_neg c] at e; cases e
        have step : is1.Nodup ∧ (∀ i ∈ is1, cellOk S i = true) ∧ (∃ m, is1 = is ++ m) ∧ ∀ θ0, (∀ (j : Nat) a, (thOf θ is1)[j]? = some a → θ0[j]? = some a) → (∀ a, a ∉ θ → a ∉ θ0) → RD (G.sub θ) θ0 H d1 v0 := by
          cases r with
          | @ref i a h =>
            have e2 : (if cellOk S i then (match ixOf i is 0 with | some j => some (.ref j, is) | none => some (.ref is.length, is ++ [i])) else none) = some (d1, is1) := q1
            by_cases c : cellOk S i = true
            · rw [if_pos c] at e2
              obtain ⟨a', es, xs, g1, g2, g3, g4, g5, g6⟩ := cellOk_get R0 c
              rw [h] at g1
              cases g1
              cases q3 : ixOf i is 0 with
              | some j =>
                rw [q3] at e2
                cases e2
                obtain ⟨_, k2⟩ := ixOf_get q3
                refine ⟨hn, hc, ⟨[], by simp⟩, fun θ0 h0 _ => .ref (h0 j a ?_)⟩
                unfold thOf
                rw [List.getElem?_map]
                rw [Nat.sub_zero] at k2
                rw [k2]
                exact congrArg some g2
              | none =>
                rw [q3] at e2
                cases e2
                have nm := ixOf_none q3
                refine ⟨?_, fun k hk => ?_, ⟨[i], rfl⟩, fun θ0 h0 _ => .ref (h0 is.length a ?_)⟩
                · rw [List.nodup_append]
                  exact ⟨hn, by simp, fun x hx y hy => by
                    rw [List.mem_singleton.mp hy]
                    rintro rfl
                    exact nm hx⟩
                · rcases List.mem_append.mp hk with hk | hk
                  · exact hc k hk
                  · rw [List.mem_singleton.mp hk]; exact c
                · unfold thOf
                  rw [List.getElem?_map, List.getElem?_concat_length]
                  exact congrArg some g2
            · rw [if_neg c] at e2; cases e2
          | non => obtain ⟨rfl, k⟩ := cl _ _ .non q1; exact ⟨hn, hc, ⟨[], by simp⟩, fun θ0 _ h0 => k θ0 h0⟩
          | bl b => obtain ⟨rfl, k⟩ := cl _ _ (.bl b) q1; exact ⟨hn, hc, ⟨[], by simp⟩, fun θ0 _ h0 => k θ0 h0⟩
          | int i => obtain ⟨rfl, k⟩ := cl _ _ (.int i) q1; exact ⟨hn, hc, ⟨[], by simp⟩, fun θ0 _ h0 => k θ0 h0⟩
          | str s => obtain ⟨rfl, k⟩ := cl _ _ (.str s) q1; exact ⟨hn, hc, ⟨[], by simp⟩, fun θ0 _ h0 => k θ0 h0⟩
          | ty s => obtain ⟨rfl, k⟩ := cl _ _ (.ty s) q1; exact ⟨hn, hc, ⟨[], by simp⟩, fun θ0 _ h0 => k θ0 h0⟩
          | tup k1 k2 => obtain ⟨rfl, k⟩ := cl _ _ (.tup k1 k2) q1; exact ⟨hn, hc, ⟨[], by simp⟩, fun θ0 _ h0 => k θ0 h0⟩
          | pr k1 k2 => obtain ⟨rfl, k⟩ := cl _ _ (.pr k1 k2) q1; exact ⟨hn, hc, ⟨[], by simp⟩, fun θ0 _ h0 => k θ0 h0⟩
          | lst k0 k1 k2 k3 => obtain ⟨rfl, k⟩ := cl _ _ (.lst k0 k1 k2 k3) q1; exact ⟨hn, hc, ⟨[], by simp⟩, fun θ0 _ h0 => k θ0 h0⟩
          | kst k1 k2 => obtain ⟨rfl, k⟩ := cl _ _ (.kst k1 k2) q1; exact ⟨hn, hc, ⟨[], by simp⟩, fun θ0 _ h0 => k θ0 h0⟩
          | brw k1 k2 k3 => obtain ⟨rfl, k⟩ := cl _ _ (.brw k1 k2 k3) q1; exact ⟨hn, hc, ⟨[], by simp⟩, fun θ0 _ h0 => k θ0 h0⟩
          | fn k1 => obtain ⟨rfl, k⟩ := cl _ _ (.fn k1) q1; exact ⟨hn, hc, ⟨[], by simp⟩, fun θ0 _ h0 => k θ0 h0⟩
        obtain ⟨s1, s2, ⟨m1, s3⟩, s4⟩ := step
        obtain ⟨t1, t2, ⟨m2, t3⟩, t4⟩ := argsA_ok R0 t q2 s1 s2
        refine ⟨t1, t2, ⟨m1 ++ m2, by rw [t3, s3]; simp⟩, fun θ0 h0 h1 => .cons (s4 θ0 (fun j a hj => h0 j a ?_) h1) (t4 θ0 h0 h1)⟩
        rw [t3]
        unfold thOf at hj ⊢
        rw [List.map_append, List.getElem?_append_left (List.getElem?_eq_some_iff.mp hj).1]
        exact hj
/-- the cells handed in -/
theorem sub_rel (R0 : Rel G F θ S H) {is : List Nat} (hn : is.Nodup) (hc : ∀ i ∈ is, cellOk S i = true) : Rel (G.sub θ) ⟨H, thOf θ is⟩ (thOf θ is) (cellsOf S is) H ∧ (∀ a, a ∉ θ → a ∉ thOf θ is) := by
  have inθ : ∀ a ∈ thOf θ is, a ∈ θ := fun a ha => by
    obtain ⟨i, hi, rfl⟩ := List.mem_map.mp ha
    obtain ⟨a', es, xs, g1, g2, _⟩ := cellOk_get R0 (hc i hi)
    rw [g2]
    exact List.mem_of_getElem? g1
  refine ⟨⟨by simp [thOf, cellsOf], ?_, fun n a c h1 h2 => ?_, .refl, fun a h => ?_⟩, fun a h z => h (inθ a z)⟩
  · have go : ∀ is : List Nat, is.Nodup → (∀ i ∈ is, cellOk S i = true) → (thOf θ is).Nodup := by
      intro is
      induction is with
      | nil => intro _ _; exact List.nodup_nil
      | cons i r ih =>
        intro hn hc
        rw [List.nodup_cons] at hn
        show (θ.getD i 0 :: thOf θ r).Nodup
        rw [List.nodup_cons]
        refine ⟨fun z => ?_, ih hn.2 fun k hk => hc k (List.mem_cons_of_mem _ hk)⟩
        obtain ⟨k, hk, e⟩ := List.mem_map.mp z
        obtain ⟨a1, _, _, g1, g2, _⟩ := cellOk_get R0 (hc i List.mem_cons_self)
        obtain ⟨a2, _, _, g3, g4, _⟩ := cellOk_get R0 (hc k (List.mem_cons_of_mem _ hk))
        replace e : θ.getD k 0 = θ.getD i 0 := e
        rw [g4, g2] at e
        subst e
        obtain ⟨i1, j1⟩ := List.getElem?_eq_some_iff.mp g1
        obtain ⟨i2, j2⟩ := List.getElem?_eq_some_iff.mp g3
        have : i = k := (List.getElem_inj R0.nd).mp (j1.trans j2.symm)
        exact hn.1 (this ▸ hk)
    exact go is hn hc
  · unfold thOf at h1
    unfold cellsOf at h2
    rw [List.getElem?_map] at h1 h2
    cases q : is[n]? with
    | none => rw [q] at h1; cases h1
    | some i =>
      rw [q] at h1 h2
      have hi := List.mem_of_getElem? q
      obtain ⟨a', es, xs, g1, g2, g3, g4, g5, g6⟩ := cellOk_get R0 (hc i hi)
      replace h1 : some (θ.getD i 0) = some a := h1
      replace h2 : some ((S[i]?).getD (.lst [])) = some c := h2
      rw [g2] at h1
      rw [g3] at h2
      cases h1
      cases h2
      exact ⟨xs, g5, RDs.clean (view_sub G θ) (fun a o _ h1 h2 z => z.elim h1 h2) (fun a o _ h => fun z => h (inθ a z)) g6 g4⟩
  · rcases h with h | h
    · exact R0.pht a h
    · obtain ⟨n, c, _, _, r⟩ := R0.mem_some h
      obtain ⟨xs, q, _⟩ := rc_some r
      rw [q]; exact fun z => by cases z
end

section
variable {G : Gv} {F F1 : Fr0} {θ θ1 θt : List Addr} {S S1 : Store} {H H2 : Hp} {k av : Nat}
/-- what the callee hands back, seen from its caller with the cells θt: θ1 = the cells handed in (the first k), then new ones -/
structure Bk (G : Gv) (θ θ1 θt : List Addr) (k av : Nat) : Prop where
  new : ∀ (j : Nat) a, k ≤ j → j ≠ av → θ1[j]? = some a → ¬ G.ph a ∧ a ∉ θt
  old : ∀ a, ¬ (G.sub θ).ph a → a ∉ θ1 → ¬ G.ph a ∧ a ∉ θt
theorem retG_ok (b : Bk G θ θ1 θt k av) (R1 : Rel (G.sub θ) F1 θ1 S1 H2) : ∀ (n : Nat) (d : D) (v : V) (d' : D), RD (G.sub θ) θ1 H2 d v → retG k av S1 n d = some d' → RD G θt H2 d' v
  | 0, _, _, _, _, e => by cases e
  | n + 1, d, v, d', r, e => by
    have ih := retG_ok b R1 n
    have cl : (if pureD d then some d else none) = some d' → RD G θt H2 d' v := fun e => by
      by_cases c : pureD d = true
      · rw [if_pos c] at e
        cases e
        exact RD.pure (sub_view G θ) b.old r c
      · rw [if_neg c] at e; cases e
    cases r with
    | tup h1 h2 =>
      obtain ⟨ds', e1, rfl⟩ := map_some e
      exact .tup h1 (rds_mapM ih h2 e1)
    | pr h1 h2 =>
      obtain ⟨ds', e1, rfl⟩ := map_some e
      exact .pr h1 (rds_mapM ih h2 e1)
    | lst h0 h1 h2 h3 =>
      obtain ⟨ds', e1, rfl⟩ := map_some e
      exact .lst (b.old _ h0 h1).1 (b.old _ h0 h1).2 h2 (rds_mapM ih h3 e1)
    | @ref j a h =>
      have e' : (if j < k then none else if j = av then none else match S1[j]? with | some (.lst es) => (es.mapM (retG k av S1 n)).map .lst | _ => none) = some d' := e
      by_cases hj : j < k
      · rw [if_pos hj] at e'; cases e'
      · rw [if_neg hj] at e'
        by_cases hv : j = av
        · rw [if_pos hv] at e'; cases e'
        · rw [if_neg hv] at e'
          cases q : S1[j]? with
          | none => rw [q] at e'; cases e'
          | some c =>
            cases c with
            | dct kvs => rw [q] at e'; cases e'
            | rev rs0 k0 => rw [q] at e'; cases e'
            | lst es =>
              rw [q] at e'
              obtain ⟨ds', e1, rfl⟩ := map_some e'
              obtain ⟨xs, h1, h2⟩ := R1.cells _ _ _ h q
              obtain ⟨b1, b2⟩ := b.new j a (by omega) hv h
              exact .lst b1 b2 h1 (rds_mapM ih h2 e1)
    | _ => exact cl e
theorem retD_ok (b : Bk G θ θ1 θt k av) (R1 : Rel (G.sub θ) F1 θ1 S1 H2) {d d' : D} {v : V} (r : RD (G.sub θ) θ1 H2 d v) (e : retD k av S1 d = some d') : RD G θt H2 d' v := by
  unfold retD at e
  by_cases c : pureD d = true
  · rw [if_pos c] at e
    cases e
    exact RD.pure (sub_view G θ) b.old r c
  · rw [if_neg c] at e
    exact retG_ok b R1 _ _ _ _ r e
theorem retAll_ok (b : Bk G θ θ1 θt k av) (R1 : Rel (G.sub θ) F1 θ1 S1 H2) {ds ds' : List D} {vs : List V} (r : RDs (G.sub θ) θ1 H2 ds vs) (e : retAll k av S1 ds = some ds') : RDs G θt H2 ds' vs := by
  unfold retAll at e
  by_cases c : pureAll ds = true
  · rw [if_pos c] at e
    cases e
    exact RDs.pure (sub_view G θ) b.old r c
  · rw [if_neg c] at e
    exact rds_mapM (retG_ok b R1 _) r e
theorem putBack_get : ∀ {is : List Nat} {j : Nat} {S S2 : Store}, putBack k av S1 is j S = some S2 → is.Nodup → (∀ i ∈ is, i < S.length) →
    S2.length = S.length ∧ (∀ n, n ∉ is → S2[n]? = S[n]?) ∧ ∀ (m : Nat) i, is[m]? = some i → ∃ es es', S1[j + m]? = some (.lst es) ∧ retAll k av S1 es = some es' ∧ S2[i]? = some (.lst es')
  | [], _, S, S2, e, _, _ => by
    cases e
    exact ⟨rfl, fun _ _ => rfl, fun m i h => by simp at h⟩
  | i :: is, j, S, S2, e, hn, hl => by
    have e' : (match S1[j]? with | some (.lst es) => (match retAll k av S1 es with | some es' => putBack k av S1 is (j + 1) (S.set i (.lst es')) | none => none) | _ => none) = some S2 := e
    rw [List.nodup_cons] at hn
    cases q : S1[j]? with
    | none => rw [q] at e'; cases e'
    | some c =>
      cases c with
      | dct kvs => rw [q] at e'; cases e'
      | rev rs0 k0 => rw [q] at e'; cases e'
      | lst es =>
        rw [q] at e'
        replace e' : (match retAll k av S1 es with | some es' => putBack k av S1 is (j + 1) (S.set i (.lst es')) | none => none) = some S2 := e'
        cases q2 : retAll k av S1 es with
        | none => rw [q2] at e'; cases e'
        | some es' =>
          rw [q2] at e'
          obtain ⟨h1, h2, h3⟩ := putBack_get e' hn.2 fun x hx => by rw [List.length_set]; exact hl x (List.mem_cons_of_mem _ hx)
          rw [List.length_set] at h1
          refine ⟨h1, fun n hx => ?_, fun m x hx => ?_⟩
          · rw [List.mem_cons, not_or] at hx
            rw [h2 n hx.2, List.getElem?_set_ne (Ne.symm hx.1)]
          · cases m with
            | zero =>
              have : x = i := by simpa using hx.symm
              subst this
              refine ⟨es, es', q, q2, ?_⟩
              rw [h2 x hn.1, List.getElem?_set_self (hl x List.mem_cons_self)]
            | succ m =>
              obtain ⟨a, b, c1, c2, c3⟩ := h3 m x (by simpa using hx)
              exact ⟨a, b, by rw [show j + (m + 1) = j + 1 + m by omega]; exact c1, c2, c3⟩
/-- the heap behind the call, for the caller -/
theorem back_ext (R0 : Rel G F θ S H) {is : List Nat} (hc : ∀ i ∈ is, cellOk S i = true) (e : Ext (thOf θ is) H θ1 H2) : Keep θ H H2 ∧ (∀ a ∈ thOf θ is, a ∈ θ) ∧ (∀ a ∈ θ, H a ≠ none) ∧ ∀ (j : Nat) a, is.length ≤ j → θ1[j]? = some a → H a = none ∧ ¬ G.ph a ∧ a ∉ θ := by
  have inθ : ∀ a ∈ thOf θ is, a ∈ θ := fun a ha => by
    obtain ⟨i, hi, rfl⟩ := List.mem_map.mp ha
    obtain ⟨a', es, xs, g1, g2, _⟩ := cellOk_get R0 (hc i hi)
    rw [g2]
    exact List.mem_of_getElem? g1
  have tr : ∀ a ∈ θ, H a ≠ none := fun a ha => by
    obtain ⟨n, c, _, _, r⟩ := R0.mem_some ha
    obtain ⟨xs, q, _⟩ := rc_some r
    rw [q]; exact fun z => by cases z
  refine ⟨⟨fun a o q c t => e.keep.st a o q (c.imp (fun z y => z (inθ a y)) id) t, e.keep.gr⟩, inθ, tr, fun j a hj ha => ?_⟩
  obtain ⟨nw, rfl, hw⟩ := e.pre
  rw [List.getElem?_append_right (by simpa [thOf] using hj)] at ha
  have hn := hw a (List.mem_of_getElem? ha)
  exact ⟨hn, fun z => R0.pht a z hn, fun z => tr a z hn⟩
/-- the caller's cells behind the call -/
theorem back_cells (R0 : Rel G F θ S H) {is : List Nat} (hn : is.Nodup) (hc : ∀ i ∈ is, cellOk S i = true) (e : Ext (thOf θ is) H θ1 H2) (R1 : Rel (G.sub θ) ⟨H, thOf θ is⟩ θ1 S1 H2) {S2 : Store} (hb : putBack is.length av S1 is 0 S = some S2)
    (bk : Bk G θ θ1 θt is.length av) (ex : Ext θ H θt H2) : S2.length = S.length ∧ ∀ (n : Nat) (a : Addr) (c : C), θ[n]? = some a → S2[n]? = some c → RC G θt H2 c a := by
  have lt : ∀ i ∈ is, i < S.length := fun i hi => by
    obtain ⟨_, _, _, _, _, g, _⟩ := cellOk_get R0 (hc i hi)
    exact (List.getElem?_eq_some_iff.mp g).1
  obtain ⟨h1, h2, h3⟩ := putBack_get hb hn lt
  refine ⟨h1, fun n a c k1 k2 => ?_⟩
  by_cases hm : n ∈ is
  · obtain ⟨m, hm2, em⟩ := List.getElem_of_mem hm
    have em' : is[m]? = some n := by rw [List.getElem?_eq_getElem hm2, em]
    obtain ⟨es, es', q1, q2, q3⟩ := h3 m n em'
    rw [q3] at k2
    cases k2
    have ha : θ1[m]? = some a := e.get (by
      unfold thOf
      rw [List.getElem?_map, em']
      show some (θ.getD n 0) = some a
      simp [List.getD, k1])
    rw [Nat.zero_add] at q1
    obtain ⟨xs, g1, g2⟩ := R1.cells m a _ ha q1
    exact ⟨xs, g1, retAll_ok bk R1 g2 q2⟩
  · rw [h2 n hm] at k2
    refine rc_ext ex (fun o q => e.keep.st a o q (.inl fun z => ?_) ?_) (R0.cells n a c k1 k2)
    · obtain ⟨i, hi, ei⟩ := List.mem_map.mp z
      obtain ⟨a', es, xs, g1, g2, _⟩ := cellOk_get R0 (hc i hi)
      replace ei : θ.getD i 0 = a := ei
      rw [g2] at ei
      subst ei
      obtain ⟨i1, j1⟩ := List.getElem?_eq_some_iff.mp g1
      obtain ⟨i2, j2⟩ := List.getElem?_eq_some_iff.mp k1
      have : i = n := (List.getElem_inj R0.nd).mp (j1.trans j2.symm)
      exact hm (this ▸ hi)
    · obtain ⟨xs, q', _, nt⟩ := rc_some (R0.cells n a c k1 k2)
      rw [q'] at q; cases q; exact nt
/-- no new cell handed back -/
theorem back_rel (R0 : Rel G F θ S H) {is : List Nat} (hn : is.Nodup) (hc : ∀ i ∈ is, cellOk S i = true) (e : Ext (thOf θ is) H θ1 H2) (R1 : Rel (G.sub θ) ⟨H, thOf θ is⟩ θ1 S1 H2) {S2 : Store} (hb : putBack is.length av S1 is 0 S = some S2) :
    Bk G θ θ1 θ is.length av ∧ Ext θ H θ H2 ∧ Rel G F θ S2 H2 := by
  obtain ⟨kp, inθ, tr, nw⟩ := back_ext R0 hc e
  have bk : Bk G θ θ1 θ is.length av := ⟨fun j a hj _ ha => (nw j a hj ha).2, fun a h _ => ⟨fun z => h (.inl z), fun z => h (.inr z)⟩⟩
  have ex : Ext θ H θ H2 := .of_keep kp
  obtain ⟨h1, h2⟩ := back_cells R0 hn hc e R1 hb bk ex
  exact ⟨bk, ex, by rw [R0.len, h1], R0.nd, h2, R0.fr.trans ex, fun a h z => R0.pht a h (ex.keep.gr a z)⟩
/-- a new cell handed back -/
theorem back_rel2 (R0 : Rel G F θ S H) {is : List Nat} (hn : is.Nodup) (hc : ∀ i ∈ is, cellOk S i = true) (e : Ext (thOf θ is) H θ1 H2) (R1 : Rel (G.sub θ) ⟨H, thOf θ is⟩ θ1 S1 H2) {S2 : Store} {j : Nat} {a : Addr} {es es' : List D} (hb : putBack is.length j S1 is 0 S = some S2)
    (hj : is.length ≤ j) (ha : θ1[j]? = some a) (q1 : S1[j]? = some (.lst es)) (q2 : retAll is.length j S1 es = some es') :
    Ext θ H (θ ++ [a]) H2 ∧ Rel G F (θ ++ [a]) (S2 ++ [.lst es']) H2 ∧ S2.length = S.length := by
  obtain ⟨kp, inθ, tr, nw⟩ := back_ext R0 hc e
  obtain ⟨na, np, nt⟩ := nw j a hj ha
  have am := List.mem_of_getElem? ha
  have ex : Ext θ H (θ ++ [a]) H2 := ⟨⟨[a], rfl, fun b m => by rw [List.mem_singleton.mp m]; exact na⟩, kp⟩
  have bk : Bk G θ θ1 (θ ++ [a]) is.length j := ⟨fun i b hi hv hb => ⟨(nw i b hi hb).2.1, fun z => by
      rcases List.mem_append.mp z with z | z
      · exact (nw i b hi hb).2.2 z
      · have eb := List.mem_singleton.mp z
        subst eb
        obtain ⟨i1, j1⟩ := List.getElem?_eq_some_iff.mp hb
        obtain ⟨i2, j2⟩ := List.getElem?_eq_some_iff.mp ha
        exact hv ((List.getElem_inj R1.nd).mp (j1.trans j2.symm))⟩,
    fun b h1 h2 => ⟨fun z => h1 (.inl z), fun z => by
      rcases List.mem_append.mp z with z | z
      · exact h1 (.inr z)
      · rw [List.mem_singleton.mp z] at h2; exact h2 am⟩⟩
  obtain ⟨h1, h2⟩ := back_cells R0 hn hc e R1 hb bk ex
  refine ⟨ex, ⟨by simp [R0.len, h1], ?_, fun n b c k1 k2 => ?_, R0.fr.trans ex, fun b h z => R0.pht b h (ex.keep.gr b z)⟩, h1⟩
  · rw [List.nodup_append]
    exact ⟨R0.nd, by simp, fun x hx y hy => by
      rw [List.mem_singleton.mp hy]
      rintro rfl
      exact nt hx⟩
  · by_cases hn : n < θ.length
    · rw [List.getElem?_append_left hn] at k1
      rw [List.getElem?_append_left (by rw [h1, ← R0.len]; exact hn)] at k2
      exact h2 n b c k1 k2
    · have hl : n = θ.length := by
        have := (List.getElem?_eq_some_iff.mp k1).1
        simp at this
        omega
      subst hl
      rw [List.getElem?_concat_length] at k1
      rw [R0.len, ← h1, List.getElem?_concat_length] at k2
      cases k1; cases k2
      obtain ⟨xs, g1, g2⟩ := R1.cells j a _ ha q1
      exact ⟨xs, g1, retAll_ok bk R1 g2 q2⟩
end

theorem fin_back {G : Gv} {F : Fr0} {W : WX} {σ : St} {θ : List Addr} {S : Store} {H : Hp} {Q : VK} (R0 : Rel G F θ S H) {is : List Nat} (hn : is.Nodup) (hc : ∀ i ∈ is, cellOk S i = true) {r : R D} (f : Fin ⟨G, F, W⟩ (RD G) σ θ H (back is S r) Q) :
    Fin ⟨G.sub θ, ⟨H, thOf θ is⟩, fun c a _ H' => W c a σ H'⟩ (RD (G.sub θ)) [] (thOf θ is) H r Q := by
  cases r with
  | bad => exact f
  | ok d S1 =>
    intro θ1 H2 v e R1 r1
    have plain : RD (G.sub θ) θ1 H2 d v → Fin ⟨G, F, W⟩ (RD G) σ θ H (backP is S S1 d) Q → Q v H2 := fun r1 f => by
      unfold backP at f
      cases q : putBack is.length S1.length S1 is 0 S with
      | none => rw [q] at f; exact f.elim
      | some S2 =>
        rw [q] at f
        replace f : Fin ⟨G, F, W⟩ (RD G) σ θ H (match retD is.length S1.length S1 d with | some d' => .ok d' S2 | none => .bad) Q := f
        obtain ⟨bk, ex, R2⟩ := back_rel R0 hn hc e R1 q
        cases q2 : retD is.length S1.length S1 d with
        | none => rw [q2] at f; exact f.elim
        | some d' =>
          rw [q2] at f
          exact Fin.ok f ex R2 (retD_ok bk R1 r1 q2)
    cases r1 with
    | @ref j a h =>
      have f2 : Fin ⟨G, F, W⟩ (RD G) σ θ H (if j < is.length then backO is S S1 j else backN is S S1 j) Q := f
      by_cases hj : j < is.length
      · rw [if_pos hj] at f2
        unfold backO at f2
        cases q : putBack is.length S1.length S1 is 0 S with
        | none => rw [q] at f2; exact f2.elim
        | some S2 =>
          rw [q] at f2
          obtain ⟨bk, ex, R2⟩ := back_rel R0 hn hc e R1 q
          refine Fin.ok f2 ex R2 (.ref ?_)
          obtain ⟨a', es, xs, g1, g2, _⟩ := cellOk_get R0 (hc is[j] (List.getElem_mem hj))
          have ha : (thOf θ is)[j]? = some a' := by
            unfold thOf
            rw [List.getElem?_map, List.getElem?_eq_getElem hj]
            exact congrArg some g2
          have := e.get ha
          rw [h] at this
          cases this
          rw [show is.getD j 0 = is[j] by simp [List.getD, List.getElem?_eq_getElem hj]]
          exact g1
      · rw [if_neg hj] at f2
        unfold backN at f2
        cases q : putBack is.length j S1 is 0 S with
        | none => rw [q] at f2; exact f2.elim
        | some S2 =>
          rw [q] at f2
          cases q3 : S1[j]? with
          | none => rw [q3] at f2; exact f2.elim
          | some c =>
            cases c with
            | dct kvs => rw [q3] at f2; exact f2.elim
            | rev rs0 k0 => rw [q3] at f2; exact f2.elim
            | lst es =>
              rw [q3] at f2
              replace f2 : Fin ⟨G, F, W⟩ (RD G) σ θ H (match retAll is.length j S1 es with | some es' => .ok (.ref S2.length) (S2 ++ [.lst es']) | none => .bad) Q := f2
              cases q4 : retAll is.length j S1 es with
              | none => rw [q4] at f2; exact f2.elim
              | some es' =>
                rw [q4] at f2
                obtain ⟨ex, R2, hl⟩ := back_rel2 R0 hn hc e R1 q (Nat.le_of_not_lt hj) h q3 q4
                exact Fin.ok f2 ex R2 (.ref (by rw [hl, ← R0.len, List.getElem?_concat_length]))
    | non => exact plain .non f
    | bl b => exact plain (.bl b) f
    | int i => exact plain (.int i) f
    | str s => exact plain (.str s) f
    | ty s => exact plain (.ty s) f
    | tup k1 k2 => exact plain (.tup k1 k2) f
    | pr k1 k2 => exact plain (.pr k1 k2) f
    | lst k0 k1 k2 k3 => exact plain (.lst k0 k1 k2 k3) f
    | brw k1 k2 k3 => exact plain (.brw k1 k2 k3) f
    | kst k1 k2 => exact plain (.kst k1 k2) f
    | fn k1 => exact plain (.fn k1) f
  | exc x S1 =>
    intro θ1 H2 c a e R1 x1
    have f2 : Fin ⟨G, F, W⟩ (RD G) σ θ H (backX is S S1 x) Q := f
    unfold backX at f2
    cases q : putBack is.length S1.length S1 is 0 S with
    | none => rw [q] at f2; exact f2.elim
    | some S2 =>
      rw [q] at f2
      obtain ⟨bk, ex, R2⟩ := back_rel R0 hn hc e R1 q
      cases q5 : x.v with
      | none =>
        rw [q5] at f2
        exact f2 θ H2 c a ex R2 ⟨x1.cls, fun d h => by cases h⟩
      | some d =>
        rw [q5] at f2
        replace f2 : Fin ⟨G, F, W⟩ (RD G) σ θ H (match retD is.length S1.length S1 d with | some d' => .exc ⟨x.c, some d'⟩ S2 | none => .bad) Q := f2
        cases q2 : retD is.length S1.length S1 d with
        | none => rw [q2] at f2; exact f2.elim
        | some d' =>
          rw [q2] at f2
          refine f2 θ H2 c a ex R2 ⟨x1.cls, fun d1 h => ?_⟩
          cases h
          obtain ⟨dd, fs, v, h1, h2, h3, h4⟩ := x1.val d q5
          exact ⟨dd, fs, v, h1, h2, h3, retD_ok bk R1 h4 q2⟩

/-- the callee's promise serves what callD tells -/
theorem call_sp {G0 G : Gv} {F : Fr0} {W : WX} {σ : St} {θ : List Addr} {S : Store} {H : Hp} {Q : VK} {m : Fm} {n : Nat} {ds : List D} {vs : List V} (hK : G.K = G0.K) (hf : G.fa = G0.fa) (hc : G.ca = G0.ca) (hcn : G.cn = G0.cn) (R0 : Rel G F θ S H) (r : RDs G θ H ds vs) (hn : vs.length = n)
    (f : Fin ⟨G, F, W⟩ (RD G) σ θ H (callD m ds S) Q) : spD G0 n m vs H Q (fun c a H' => W c a σ H') := by
  obtain ⟨K, fa, ph, ca, cn⟩ := G
  obtain ⟨K0, fa0, ph0, ca0, cn0⟩ := G0
  cases hK; cases hf; cases hc; cases hcn
  unfold callD at f
  cases q : passArgs S ds with
  | none => rw [q] at f; exact f.elim
  | some p =>
    rw [q] at f
    obtain ⟨ds', is⟩ := p
    have key : is.Nodup ∧ (∀ i ∈ is, cellOk S i = true) ∧ RDs (Gv.sub ⟨K, fa, ph, ca, cn⟩ θ) (thOf θ is) H ds' vs := by
      unfold passArgs at q
      cases q1 : argsA S [] ds with
      | some r1 =>
        rw [q1] at q
        cases q
        obtain ⟨h1, h2, _, h4⟩ := argsA_ok R0 r q1 List.nodup_nil (fun i hi => by simp at hi)
        exact ⟨h1, h2, h4 _ (fun _ _ h => h) (sub_rel R0 h1 h2).2⟩
      | none =>
        rw [q1] at q
        obtain ⟨ds1, q2, e⟩ := map_some q
        cases e
        exact ⟨List.nodup_nil, fun i hi => by simp at hi, rds_mapM (brwG_ok R0 20) r q2⟩
    obtain ⟨k1, k2, k3⟩ := key
    exact ⟨_, ds', cellsOf S is, thOf θ is, hn, (sub_rel R0 k1 k2).1, k3, fin_back R0 k1 k2 f⟩
section
variable {X : Cx} {B : Bv} {pos : Pos}
/-- the callee runs, its wish at these slots -/
theorem run_g {k : Nat} {f : Addr} {fd : FuncData} {ps : List Str} {sp : Sp} {W : WX} {pins : List (Addr × Obj)} {σ : St} {H : Hp} {s : Shared} {Q : VK} {us : List Value} {vs : List V} (FO : FnG X.prog X.w X.K X.mg X.base k f fd ps sp) (hr : Room k X.A) (gd : X.A.guards = some []) (hb : Binds X.K fd ps []) (tk : Takes X W)
    (I : Inv X pins σ H s) (r : Vals vs us) (h : sp vs H Q (WE W σ)) : wpAny (model X.prog X.w) X.A (call (.ref f) us) (EP X pins σ Q) X.xe s := by
  have hl : us.length = ps.length := r.length.symm.trans (FO.len _ _ _ _ h)
  have b := hb s us I.kIn (by simpa using hl)
  rw [List.append_nil] at b
  refine wpAny_call (codeAny_mono (FO.run X.A X.stack s H ⟨us, []⟩ us vs Q (WE W σ) hr gd I.env0 b r h) fun res s' hq => ?_)
  match res, hq with
  | .error e, hq => exact passAt tk σ pins H s e s' I hq
  | .ok (.ret u), hq => exact I.after hq
theorem pe_callG {k : Nat} {f : Addr} {fd : FuncData} {ps : List Str} {sp : Sp} {W : WX} {x : Str} {p : Pos} {e : Expr} {es : List Expr} {t : TA} (FO : FnG X.prog X.w X.K X.mg X.base k f fd ps sp) (hr : Room k X.A) (gd : X.A.guards = some []) (hg : Gl X x) (hm : X.mg x = some (.ref f)) (hk : PySem.W.keepIn X.K (.ref f) = true)
    (hb : Binds X.K fd ps []) (tk : Takes X W) (ha : PA X (e :: es) t) (hdb : (x == ("__debug__" : Str)) = false := by decide) (he : starEach (e :: es) X.env = (false, eval e X.env) :: starEach es X.env := by rfl) (hpl : (backTo pos (starEach es X.env)).any (·.1) = false := by rfl) :
    PE X (.Call (.Name x p) (e :: es) [] pos) (tCallS sp (WE W) t) := ⟨fun pins s σ H Q I h =>
  wpAny_Call_Name_kw (ld_glob I hg hm (PySem.W.callWith_K (h₀ := X.base) I.ok.mod.kin hk (thn (ha.run pos pins s σ H _ I h) fun us s1 ⟨vs, H1, I1, r, q⟩ => ⟨I1.kIn, run_g FO hr gd hb tk I1 r q⟩) he hpl) hdb)⟩
theorem de_call {k n : Nat} {f : Addr} {fd : FuncData} {ps : List Str} {x : Str} {p : Pos} {e : Expr} {es : List Expr} {G0 : Gv} {m : Fm} {a : M (List D)} (hB : B.G.K = G0.K ∧ B.G.fa = G0.fa ∧ B.G.ca = G0.ca ∧ B.G.cn = G0.cn) (FO : FnG X.prog X.w X.K X.mg X.base k f fd ps (spD G0 n m)) (hr : Room k X.A) (gd : X.A.guards = some []) (hg : Gl X x) (hm : X.mg x = some (.ref f))
    (hk : PySem.W.keepIn X.K (.ref f) = true) (hb : Binds X.K fd ps []) (tk : Takes X B.W) (hl : ∀ ρ S ds S', a ρ S = .ok ds S' → ds.length = n) (ha : PA X (e :: es) (rdA B a)) (hdb : (x == ("__debug__" : Str)) = false := by decide) (he : starEach (e :: es) X.env = (false, eval e X.env) :: starEach es X.env := by rfl)
    (hpl : (backTo pos (starEach es X.env)).any (·.1) = false := by rfl) : PE X (.Call (.Name x p) (e :: es) [] pos) (rdE B (mCall m a)) :=
  PE.imp (pe_callG FO hr gd hg hm hk hb tk ha hdb he hpl) fun σ H Q ⟨ρ, S, θ, R0, rs, f⟩ => ⟨ρ, S, θ, R0, rs, Fin.bind f fun ds S1 θ1 H1 vs q e1 R1 r1 f1 =>
    call_sp (G := B.G) (F := B.F) (W := B.W) (σ := σ) hB.1 hB.2.1 hB.2.2.1 hB.2.2.2 R1 r1 (by rw [← r1.length]; exact hl _ _ _ _ q) f1⟩
end
end DM

namespace DM
open PySem PySem.Spec L2
open PyProof.Rows hiding St

section
variable {X : Cx} {B : Bv} {pos : Pos}
theorem PI.or {tg e : Expr} {t t' : TI} (h : PI X tg e t) (h' : PI X tg e t') : PI X tg e (fun σ H R => t σ H R ∨ t' σ H R) := ⟨fun pins s σ H R I q => q.elim (h.run pins s σ H R I) (h'.run pins s σ H R I)⟩
def nxTup (ds : List D) : Nx := fun i _ => some ds[i]?
def nxList (d : D) : Nx := fun i S => (getL d S).map (·[i]?)
def nxStr (s : Str) : Nx := fun i _ => some (s.cps[i]?.map fun c => .str ⟨#[c]⟩)
def nxRng (lo c : Int) (n : Nat) : Nx := fun i _ => some (if i < n then some (.int (lo + i * c)) else none)
theorem ri_tup {θ : List Addr} {H : Hp} {d0 : D} {ds : List D} {a : Addr} (hK : B.G.K = X.K) (k : tupOf d0 = some ds) (r : RD B.G θ H d0 (.ref a)) : RI B θ H (nxTup ds) (Itt X.K a) := by
  intro i θ' S' H' e R0
  obtain ⟨a', xs, ea, h1, h2⟩ := tupOf_ok (r.ext e) k
  cases ea
  · rw [hK] at h1
    refine ⟨fun q => ⟨xs, h1, ?_⟩, fun d q => ?_⟩
    · have q' : ds[i]? = none := Option.some.inj q
      rw [← h2.length]
      exact List.getElem?_eq_none_iff.mp q'
    · have q' : ds[i]? = some d := Option.some.inj q
      obtain ⟨v, e1, r1⟩ := h2.get q'
      refine ⟨⟨xs, v, h1, e1⟩, fun x H'' y => ?_⟩
      obtain ⟨rfl, y⟩ := y
      have := y xs h1
      rw [e1] at this
      cases this
      exact ⟨.refl, R0, r1⟩
theorem getL_ref {G : Gv} {F : Fr0} {θ : List Addr} {S : Store} {H : Hp} {d : D} {a : Addr} {ds : List D} (R0 : Rel G F θ S H) (r : RD G θ H d (.ref a)) (e : getL d S = some ds) : ∃ xs, SqL G.K H a xs ∧ RDs G θ H ds xs := by
  obtain ⟨a', xs, e1, e2, e3⟩ := getL_ok R0 r e
  cases e1
  exact ⟨xs, e2, e3⟩
theorem ri_list {θ : List Addr} {H : Hp} {d : D} {a : Addr} (hK : B.G.K = X.K) (r : RD B.G θ H d (.ref a)) : RI B θ H (nxList d) (Itl X.K a) := by
  intro i θ' S' H' e R0
  have r' := r.ext e
  refine ⟨fun q => ?_, fun d1 q => ?_⟩
  · obtain ⟨ds, e1, e2⟩ := map_some q
    obtain ⟨xs, h1, h2⟩ := getL_ref R0 r' e1
    rw [hK] at h1
    exact ⟨xs, h1, by rw [← h2.length]; exact List.getElem?_eq_none_iff.mp e2⟩
  · obtain ⟨ds, e1, e2⟩ := map_some q
    obtain ⟨xs, h1, h2⟩ := getL_ref R0 r' e1
    rw [hK] at h1
    obtain ⟨v, e3, r1⟩ := h2.get e2
    refine ⟨⟨xs, v, h1, e3⟩, fun x H'' y => ?_⟩
    obtain ⟨rfl, y⟩ := y
    have := y xs h1
    rw [e3] at this
    cases this
    exact ⟨.refl, R0, r1⟩
def iterD (d : D) (S : Store) : R Nx := match d with
  | .tup ds => .ok (nxTup ds) S
  | .pr ds => .ok (nxTup ds) S
  | .str s => .ok (nxStr s) S
  | d => match getL d S with
    | some _ => .ok (nxList d) S
    | none => .bad
def mIter (a : M D) : M Nx := fun ρ S => (a ρ S).bind iterD
theorem di_seq {tg e : Expr} {a : M D} (hK : B.G.K = X.K) (ha : PE X e (rdE B a)) : PI X tg e (rdI B (mIter a)) :=
  PI.imp (PI.or (pi_tup ha) (PI.or (pi_str ha) (pi_list ha))) fun σ H R ⟨ρ, S, θ, R0, rs, f⟩ => by
    cases q : a ρ S with
    | bad => have f' : Fin B (RI B) σ θ H ((a ρ S).bind iterD) R := f; rw [q] at f'; exact f'.elim
    | exc x S1 =>
      exact .inl ⟨ρ, S, θ, R0, rs, Fin.bind f fun d S2 θ1 H1 v q2 => by rw [q] at q2; cases q2⟩
    | ok d S1 =>
      have lst : (∀ ds, d ≠ .tup ds) → (∀ s, d ≠ .str s) → iterD d S1 = (match getL d S1 with | some _ => .ok (nxList d) S1 | none => .bad) → iList X.K (rdE B a) σ H R := fun n1 n2 hi =>
        ⟨ρ, S, θ, R0, rs, Fin.bind f fun d2 S2 θ1 H1 v q2 e1 R1 r1 f1 => by
          rw [q] at q2
          cases q2
          rw [hi] at f1
          cases q3 : getL d S1 with
          | none => rw [q3] at f1; exact f1.elim
          | some ds =>
            rw [q3] at f1
            obtain ⟨a', xs, rfl, h1, h2⟩ := getL_ok R1 r1 q3
            exact ⟨a', rfl, ⟨xs, hK ▸ h1⟩, Fin.ok f1 .refl R1 (ri_list hK r1)⟩⟩
      cases d with
      | tup ds =>
        refine .inl ⟨ρ, S, θ, R0, rs, Fin.bind f fun d2 S2 θ1 H1 v q2 e1 R1 r1 f1 => ?_⟩
        rw [q] at q2
        cases q2
        have r2 := r1
        cases r1 with
        | tup h1 h2 => exact ⟨_, rfl, ⟨_, hK ▸ h1.sq⟩, Fin.ok f1 .refl R1 (ri_tup hK rfl r2)⟩
      | pr ds =>
        refine .inl ⟨ρ, S, θ, R0, rs, Fin.bind f fun d2 S2 θ1 H1 v q2 e1 R1 r1 f1 => ?_⟩
        rw [q] at q2
        cases q2
        have r2 := r1
        cases r1 with
        | pr h1 h2 => exact ⟨_, rfl, ⟨_, hK ▸ h1⟩, Fin.ok f1 .refl R1 (ri_tup hK rfl r2)⟩
      | str s =>
        refine .inr (.inl ⟨ρ, S, θ, R0, rs, Fin.bind f fun d2 S2 θ1 H1 v q2 e1 R1 r1 f1 => ?_⟩)
        rw [q] at q2
        cases q2
        cases r1
        refine ⟨s, rfl, Fin.ok f1 .refl R1 fun i θ' S' H' e R2 => ⟨fun q => ?_, fun d q => ?_⟩⟩
        · have q' : (s.cps[i]?.map fun c => D.str ⟨#[c]⟩) = none := Option.some.inj q
          show s.cps.size ≤ i
          rw [Option.map_eq_none_iff] at q'
          exact Array.getElem?_eq_none_iff.mp q'
        · have q' : (s.cps[i]?.map fun c => D.str ⟨#[c]⟩) = some d := Option.some.inj q
          obtain ⟨c, h1, rfl⟩ := map_some q'
          refine ⟨(Array.getElem?_eq_some_iff.mp h1).1, fun x H'' y => ?_⟩
          obtain ⟨rfl, c', h2, rfl⟩ := y
          rw [h1] at h2
          cases h2
          exact ⟨.refl, R2, .str _⟩
      | _ => exact .inr (.inr (lst (fun _ z => by cases z) (fun _ z => by cases z) rfl))
def small62 (j : Int) : Bool := decide (-4611686018427387904 ≤ j) && decide (j < 4611686018427387904)
theorem small62_ok {j : Int} (h : small62 j = true) : -(2 ^ 62) ≤ j ∧ j < 2 ^ 62 := by
  unfold small62 at h
  rw [Bool.and_eq_true] at h
  exact ⟨of_decide_eq_true h.1, of_decide_eq_true h.2⟩
theorem ri_rng {θ : List Addr} {H : Hp} {lo : Int} {n : Nat} : RI B θ H (nxRng lo 1 n) (Itr lo n) := by
  intro i θ' S' H' e R0
  refine ⟨fun q => ?_, fun d q => ?_⟩
  · have q' : (if i < n then some (D.int (lo + i * 1)) else none) = none := Option.some.inj q
    by_cases h : i < n
    · rw [if_pos h] at q'; cases q'
    · exact Nat.le_of_not_lt h
  · have q' : (if i < n then some (D.int (lo + i * 1)) else none) = some d := Option.some.inj q
    by_cases h : i < n
    · rw [if_pos h] at q'
      cases q'
      refine ⟨h, fun x H'' y => ?_⟩
      obtain ⟨rfl, rfl⟩ := y
      rw [Int.mul_one]
      exact ⟨.refl, R0, .int _⟩
    · rw [if_neg h] at q'; cases q'
def rngD (ds : List D) (S : Store) : R Nx := match ds with
  | [.int j] => if small62 j then .ok (nxRng 0 1 j.toNat) S else .bad
  | [.int i, .int j] => if small62 i && small62 j then .ok (nxRng i 1 (j - i).toNat) S else .bad
  | _ => .bad
def mRng (a : M (List D)) : M Nx := fun ρ S => (a ρ S).bind rngD
theorem di_rng1 {tg a : Expr} {ma : M (List D)} {p : Pos} (hg : Gl X "range") (hm : X.mg "range" = none) (ha : PA X [a] (rdA B ma)) (hs : starEach [a] X.env = [(false, eval a X.env)] := by rfl) (hl : ∀ ρ S ds S', ma ρ S = .ok ds S' → ds.length = 1) :
    PI X tg (.Call (.Name "range" p) [a] [] pos) (rdI B (mRng ma)) :=
  PI.imp (pi_range1 hg hm ha hs) fun σ H R ⟨ρ, S, θ, R0, rs, f⟩ => ⟨ρ, S, θ, R0, rs, Fin.bind f fun ds S1 θ1 H1 vs q e1 R1 r1 f1 => by
    have l := hl _ _ _ _ q
    cases r1 with
    | nil => cases l
    | @cons d v dr vr r1 r2 =>
      cases r2 with
      | cons => simp at l
      | nil =>
        cases d with
        | int j =>
          cases r1
          obtain ⟨c, f2⟩ := Fin.ite (c := small62 j = true) f1
          obtain ⟨h1, h2⟩ := small62_ok c
          exact ⟨j, rfl, h1, h2, Fin.ok f2 .refl R1 ri_rng⟩
        | _ => exact f1.elim⟩
theorem di_rng2 {tg a b : Expr} {ma : M (List D)} {p : Pos} (hg : Gl X "range") (hm : X.mg "range" = none) (ha : PA X [a, b] (rdA B ma)) (hl : ∀ ρ S ds S', ma ρ S = .ok ds S' → ds.length = 2) (hs : starEach [a, b] X.env = [(false, eval a X.env), (false, eval b X.env)] := by rfl) (hs2 : starEach [b] X.env = [(false, eval b X.env)] := by rfl) :
    PI X tg (.Call (.Name "range" p) [a, b] [] pos) (rdI B (mRng ma)) :=
  PI.imp (pi_range2 hg hm ha hs hs2) fun σ H R ⟨ρ, S, θ, R0, rs, f⟩ => ⟨ρ, S, θ, R0, rs, Fin.bind f fun ds S1 θ1 H1 vs q e1 R1 r1 f1 => by
    have l := hl _ _ _ _ q
    cases r1 with
    | nil => cases l
    | @cons d v dr vr r1 r2 =>
      cases r2 with
      | nil => simp at l
      | @cons d2 v2 dr2 vr2 r2 r3 =>
        cases r3 with
        | cons => simp at l
        | nil =>
          cases d with
          | int i =>
            cases d2 with
            | int j =>
              cases r1
              cases r2
              obtain ⟨c, f2⟩ := Fin.ite (c := (small62 i && small62 j) = true) f1
              rw [Bool.and_eq_true] at c
              obtain ⟨h1, h2⟩ := small62_ok c.1
              obtain ⟨h3, h4⟩ := small62_ok c.2
              exact ⟨i, j, rfl, ⟨h1, h2, h3, h4⟩, Fin.ok f2 .refl R1 ri_rng⟩
            | _ => exact f1.elim
          | _ => exact f1.elim⟩

/-- tests of a clause -/
def mYes : M Bool := fun _ S => .ok true S
theorem dts_nil : PTs X [] (rdT B mYes) := ⟨fun pins s σ H Q I ⟨ρ, S, θ, R0, rs, f⟩ => pts_nil.run pins s σ H Q I (f.ok .refl R0 rfl)⟩
theorem dts_one {c : Expr} {m : M Bool} (h : PT X c (rdT B m)) : PTs X [c] (rdT B m) := pts_one h
def lcEnd (n : Nat) (y : D) (S : Store) (k : Store → R D) : R D := match S[n]? with
  | some (.rev acc c) => if c < 16777216 then k (S.set n (.rev (y :: acc) (c + 1))) else .bad
  | _ => .bad
def lcDone (n : Nat) (S : Store) : R D := match S[n]? with
  | some (.rev acc _) => .ok (.ref n) (S.set n (.lst acc.reverse))
  | _ => .bad
def lcN (nx : Nx) (g : TM) (t : M Bool) (e : M D) (ρ : Env) (n : Nat) : Nat → Nat → Store → R D
  | 0, _, _ => .bad
  | m + 1, i, S => match nx i S with
    | some (some d) => (g d ρ S).noexc.bind fun ρ1 S1 => (t ρ1 S1).noexc.bind fun k S2 =>
        if k then (e ρ1 S2).noexc.bind fun y S3 => lcEnd n y S3 (lcN nx g t e ρ n m (i + 1)) else lcN nx g t e ρ n m (i + 1) S2
    | some none => lcDone n S
    | none => .bad
def mLc (it : M Nx) (g : TM) (t : M Bool) (e : M D) (vs : List Nat) : M D := fun ρ S => (it ρ S).bind fun nx S1 => lcN nx g t e (wipeE ρ vs) S1.length fuel 0 (S1 ++ [.rev [] 0])
theorem wipe_agr {vs : List Nat} {σ σ' : St} (h : Agr (· ∈ vs) σ σ') : wipe σ' vs = wipe σ vs := by
  apply List.ext_getElem?
  intro j
  by_cases hj : j ∈ vs
  · have go : ∀ (vs : List Nat) (σ : St), j ∈ vs → (wipe σ vs)[j]? = if j < σ.length then some none else none := by
      intro vs
      induction vs with
      | nil => intro σ h; simp at h
      | cons v vs ih =>
        intro σ h
        show ((wipe σ vs).set v none)[j]? = _
        by_cases hv : v = j
        · subst hv
          rw [List.getElem?_set]
          rw [if_pos rfl, wipe_length]
        · rw [List.getElem?_set_ne hv]
          rcases List.mem_cons.mp h with h | h
          · exact absurd h.symm hv
          · exact ih σ h
    rw [go vs σ' hj, go vs σ hj, h.len]
  · rw [wipe_out hj, wipe_out hj, h.eq j hj]
theorem Agr.wiped {vs : List Nat} {σ : St} : Agr (· ∈ vs) σ (wipe σ vs) := ⟨wipe_length _ _, fun j hj => wipe_out hj⟩
/-- the fixed things within a comprehension's block: nothing is let out -/
abbrev Bv.blk (B : Bv) : Bv := { B with W := fun _ _ _ _ => False }
theorem Fin.toBlk {α β : Type} {Rl : List Addr → Hp → α → β → Prop} {σ σ' : St} {θ : List Addr} {H : Hp} {r : R α} {Q : β → Hp → Prop} (h : Fin B Rl σ θ H r.noexc Q) : Fin B.blk Rl σ' θ H r Q := by
  cases r with
  | ok a S => exact h
  | exc x S => exact h.elim
  | bad => exact h
theorem lc_read {it : M Nx} {g : TM} {t : M Bool} {e : M D} {vs : List Nat} (σ : St) (H : Hp) (Q : VK) (h : rdE B (mLc it g t e vs) σ H Q) :
    tLc (rdI B it) (rdG B.blk (· ∈ vs) g) (rdT B.blk t) (rdE B.blk e) vs σ H Q := by
  obtain ⟨ρ, S, θ, R0, rs, f⟩ := h
  refine ⟨ρ, S, θ, R0, rs, Fin.bind f fun nx S1 θ1 H1 J _ e1 R1 r1 f1 => fun Da hD => ?_⟩
  have e2 : Ext θ1 H1 (θ1 ++ [Da]) (upd H1 Da (.lst [])) := ext_cell hD
  have R2 : Rel B.G B.F (θ1 ++ [Da]) (S1 ++ [.rev [] 0]) (upd H1 Da (.lst [])) := R1.allocC hD ⟨[], upd_same, .nil, Nat.le_refl _⟩
  have rsw : RS B.G (θ1 ++ [Da]) (upd H1 Da (.lst [])) (wipeE ρ vs) (wipe σ vs) := (((rs.ext e1).ext e2).wipe vs)
  have aD : (θ1 ++ [Da])[S1.length]? = some Da := by rw [← R1.len, List.getElem?_concat_length]
  refine ⟨fun i m H' => ∃ S θ, Ext (θ1 ++ [Da]) (upd H1 Da (.lst [])) θ H' ∧ Rel B.G B.F θ S H' ∧ Fin B (RD B.G) σ θ H' (lcN nx g t e (wipeE ρ vs) S1.length m i S) Q,
    ⟨fuel, _, _, .refl, R2, f1.ext e2⟩, ?_⟩
  rintro i m H' ⟨S, θ, e3, R3, f3⟩
  cases m with
  | zero => exact f3.elim
  | succ m =>
    have ri := (r1.ext e2) i θ S H' e3 R3
    have rs3 := rsw.ext e3
    have f3' : Fin B (RD B.G) σ θ H' (match nx i S with
      | some (some d) => (g d (wipeE ρ vs) S).noexc.bind fun ρ1 S1' => (t ρ1 S1').noexc.bind fun k S2 =>
        if k then (e ρ1 S2).noexc.bind fun y S3 => lcEnd S1.length y S3 (lcN nx g t e (wipeE ρ vs) S1.length m (i + 1)) else lcN nx g t e (wipeE ρ vs) S1.length m (i + 1) S2
      | some none => lcDone S1.length S
      | none => .bad) Q := f3
    cases q : nx i S with
    | none => rw [q] at f3'; exact f3'.elim
    | some o =>
      cases o with
      | none =>
        rw [q] at f3'
        replace f3' : Fin B (RD B.G) σ θ H' (lcDone S1.length S) Q := f3'
        unfold lcDone at f3'
        refine .inl ⟨ri.1 q, ?_⟩
        have hDa := e3.get aD
        obtain ⟨acc, k0, ha⟩ : ∃ acc k0, S[S1.length]? = some (.rev acc k0) := by
          cases q9 : S[S1.length]? with
          | none => rw [q9] at f3'; exact f3'.elim
          | some c =>
            cases c with
            | lst _ => rw [q9] at f3'; exact f3'.elim
            | dct _ => rw [q9] at f3'; exact f3'.elim
            | rev acc k0 => exact ⟨acc, k0, rfl⟩
        rw [ha] at f3'
        obtain ⟨xs, g1, g2, _⟩ := R3.cells _ _ _ hDa ha
        have ew : upd H' Da (.lst xs) = H' := by
          funext b
          by_cases hb : b = Da
          · subst hb; rw [upd_same, g1]
          · rw [upd_ne hb]
        have w := R3.writeC (o := .lst xs) (c1 := .lst acc.reverse) hDa ha fun e => ⟨xs, upd_same, g2.ext e⟩
        rw [ew] at w
        exact Fin.ok f3' w.1 w.2 (.ref hDa)
      | some d =>
        rw [q] at f3'
        replace f3' : Fin B (RD B.G) σ θ H' ((g d (wipeE ρ vs) S).noexc.bind fun ρ1 S1' => (t ρ1 S1').noexc.bind fun k S2 =>
          if k then (e ρ1 S2).noexc.bind fun y S3 => lcEnd S1.length y S3 (lcN nx g t e (wipeE ρ vs) S1.length m (i + 1)) else lcN nx g t e (wipeE ρ vs) S1.length m (i + 1) S2) Q := f3'
        obtain ⟨go, yl⟩ := ri.2 d q
        refine .inr ⟨go, fun H' => ∃ S θ, Ext (θ1 ++ [Da]) (upd H1 Da (.lst [])) θ H' ∧ Rel B.G B.F θ S H' ∧ Fin B (RD B.G) σ θ H' (lcN nx g t e (wipeE ρ vs) S1.length m (i + 1) S) Q, fun H' h => ⟨m, Nat.lt_succ_self _, h⟩, fun x H4 hy => ?_⟩
        obtain ⟨e4, R4, r4⟩ := yl x H4 hy
        refine ⟨wipeE ρ vs, S, θ, d, R4, rs3.ext e4, r4, Fin.toBlk (B := B) (σ := σ) (Fin.bind (f3'.ext e4) fun ρ5 S5 θ5 H5 σ5 _ e5 R5 rs5 f5 => ?_)⟩
        refine ⟨(wipe_agr rs5.2).trans (wipe_agr Agr.wiped), ρ5, S5, θ5, R5, rs5.1, Fin.toBlk (B := B) (σ := σ) (Fin.bind f5 fun k S6 θ6 H6 b _ e6 R6 r6 f6 => ?_)⟩
        subst r6
        have e36 := ((e3.trans e4).trans e5).trans e6
        cases k with
        | true =>
          rw [if_pos rfl]
          rw [if_pos rfl] at f6
          refine ⟨ρ5, S6, θ6, R6, rs5.1.ext e6, Fin.toBlk (B := B) (σ := σ) (Fin.bind f6 fun y S7 θ7 H7 v _ e7 R7 r7 f7 => ?_)⟩
          unfold lcEnd at f7
          cases q7 : S7[S1.length]? with
          | none => rw [q7] at f7; exact f7.elim
          | some c =>
            cases c with
            | lst _ => rw [q7] at f7; exact f7.elim
            | dct _ => rw [q7] at f7; exact f7.elim
            | rev acc7 c7 =>
              rw [q7] at f7
              obtain ⟨hi, f8⟩ := Fin.ite (c := c7 < 16777216) f7
              have hDa := (e36.trans e7).get aD
              obtain ⟨xs, g1, g2, g3⟩ := R7.cells _ _ _ hDa q7
              refine ⟨xs, g1, ?_, ?_⟩
              · rw [← g2.length, List.length_reverse]
                exact Nat.lt_of_le_of_lt g3 hi
              · have w := R7.writeC (o := .lst (xs ++ [v])) (c1 := .rev (y :: acc7) (c7 + 1)) hDa q7 fun e => ⟨xs ++ [v], upd_same, by
                  rw [List.reverse_cons]
                  exact (g2.append (.cons r7 .nil)).ext e, by simpa using g3⟩
                exact ⟨_, θ7, (e36.trans e7).trans w.1, w.2, f8.ext w.1⟩
        | false =>
          rw [if_neg Bool.false_ne_true] at f6
          rw [if_neg Bool.false_ne_true]
          exact ⟨S6, θ6, e36, R6, f6⟩
theorem de_lc {elt tg iter : Expr} {ifs : List Expr} {scope : Scope} {own : List (Str × Nat)} {it : M Nx} {g : TM} {t : M Bool} {e : M D} (hc : X.calm = true) (hN : X.N.Nodup) (hi : PI X tg iter (rdI B it)) (ok : BlkOk X.N X.env.scope scope own)
    (hg : ∀ s H C cl fp, PG (X.blk s H scope (compEnvC scope cl C X.env) fp) tg (rdG B.blk (· ∈ own.map (·.2)) g)) (ht : ∀ s H C cl fp, PTs (X.blk s H scope (compEnvC scope cl C X.env) fp) ifs (rdT B.blk t))
    (he : ∀ s H C cl fp, PE (X.blk s H scope (compEnvC scope cl C X.env) fp) elt (rdE B.blk e)) (hs : ∀ x, foldedSetIterable iter X.env x = pure x := by intro _; rfl) :
    PE X (.ListComp elt [⟨tg, iter, ifs, 0⟩] scope pos) (rdE B (mLc it g t e (own.map (·.2)))) :=
  PE.imp (pe_lc hc hN hi ok hg ht he hs) lc_read
theorem ds_setLc {i : Nat} {y : Str} {py spos : Pos} {elt tg iter : Expr} {ifs : List Expr} {scope : Scope} {own : List (Str × Nat)} {it : M Nx} {g : TM} {t : M Bool} {e : M D} (hc : X.calm = true) (hN : X.N.Nodup) (hy : X.N[i]? = some y) (hyl : X.env.scope.names.lookup y = some .local)
    (hw : swapsWith (.ListComp elt [⟨tg, iter, ifs, 0⟩] scope pos) (some (.Name y py)) spos.line X.env = pure true) (hi : PI X tg iter (rdI B it)) (ok : BlkOk X.N X.env.scope scope own)
    (hg : ∀ s H C cl fp, PG (X.blk s H scope (compEnvC scope cl C X.env) fp) tg (rdG B.blk (· ∈ own.map (·.2)) g)) (ht : ∀ s H C cl fp, PTs (X.blk s H scope (compEnvC scope cl C X.env) fp) ifs (rdT B.blk t))
    (he : ∀ s H C cl fp, PE (X.blk s H scope (compEnvC scope cl C X.env) fp) elt (rdE B.blk e)) (hs : ∀ x, foldedSetIterable iter X.env x = pure x := by intro _; rfl) :
    PS X (.Assign [.Name y py] (.ListComp elt [⟨tg, iter, ifs, 0⟩] scope pos) spos) (rdS B (sSet i (mLc it g t e (own.map (·.2))))) :=
  PS.imp (ps_setLc hc hN hy hyl hw hi ok hg ht he hs) fun D σ H ⟨ρ, S, θ, R0, rs, f⟩ => lc_read σ H _ ⟨ρ, S, θ, R0, rs, FinS.bind rs f fun d S1 θ1 H1 v _ e1 R1 r1 f1 => f1 θ1 _ H1 .refl R1 ((rs.ext e1).set r1 i)⟩
end
end DM

namespace DM
open PySem PySem.Spec L2
open PyProof.Rows hiding St

section
variable {X : Cx} {B : Bv} {pos : Pos}
theorem bind_assoc {α β γ : Type} (r : R α) (f : α → Store → R β) (g : β → Store → R γ) : (r.bind f).bind g = r.bind fun a S => (f a S).bind g := by cases r <;> rfl

def LenA (a : M (List D)) (n : Nat) : Prop := ∀ ρ S ds S', a ρ S = .ok ds S' → ds.length = n
theorem len_nil : LenA mNil 0 := fun ρ S ds S' h => by cases h; rfl
theorem len_cons {a : M D} {r : M (List D)} {n : Nat} (h : LenA r n) : LenA (mCons a r) (n + 1) := fun ρ S ds S' q => by
  unfold mCons at q
  cases q1 : a ρ S with
  | ok x S1 =>
    rw [q1] at q
    replace q : ((r ρ S1).bind fun xs S2 => R.ok (x :: xs) S2) = .ok ds S' := q
    cases q2 : r ρ S1 with
    | ok xs S2 =>
      rw [q2] at q
      replace q : R.ok (x :: xs) S2 = .ok ds S' := q
      cases q
      exact congrArg (· + 1) (h _ _ _ _ q2)
    | exc => rw [q2] at q; cases q
    | bad => rw [q2] at q; cases q
  | exc => rw [q1] at q; cases q
  | bad => rw [q1] at q; cases q

theorem de_chain {op op' : CmpOp} {r r' : R2} {c c' : C2} {a b e : Expr} {ma mb me : M D} (ho : OpR X (compareOp op) r) (ho' : OpR X (compareOp op') r') (hd : DenC B r c) (hd' : DenC B r' c') (ha : PE X a (rdE B ma)) (hb : PE X b (rdE B mb)) (he : PE X e (rdE B me))
    (hm : lastMarks [op, op'] [b, e] = false := by with_unfolding_all rfl) : PE X (.Compare a [op, op'] [b, e] pos) (rdE B (mChain (cmpD c) (cmpD c') ma mb me)) :=
  PE.imp (pe_chain ho ho' ha hb he hm) fun σ H Q ⟨ρ, S, θ, R0, rs, f⟩ => ⟨ρ, S, θ, R0, rs, Fin.bind f fun x S1 θ1 H1 v _ e1 R1 r1 f1 => ⟨ρ, S1, θ1, R1, rs.ext e1, Fin.bind f1 fun y S2 θ2 H2 u _ e2 R2 r2 f2 => by
    cases q : c x y S2 with
    | none =>
      have e : cmpD c x y S2 = .bad := by unfold cmpD; rw [q]
      rw [e] at f2; exact f2.elim
    | some k =>
      have e : cmpD c x y S2 = .ok (.bl k) S2 := by unfold cmpD; rw [q]
      rw [e] at f2
      refine hd θ2 S2 H2 x y v u k _ R2 (r1.ext e2) r2 q ⟨k, rfl, ?_⟩
      cases k with
      | false => exact f2.ok .refl R2 (.bl _)
      | true =>
        refine ⟨ρ, S2, θ2, R2, (rs.ext e1).ext e2, Fin.bind f2 fun z S3 θ3 H3 w _ e3 R3 r3 f3 => ?_⟩
        exact hd'.d2 σ θ3 S3 H3 y z u w Q R3 (r2.ext e3) r3 f3⟩⟩
theorem dt_chain {op op' : CmpOp} {r r' : R2} {c c' : C2} {a b e : Expr} {ma mb me : M D} (ho : OpR X (compareOp op) r) (ho' : OpR X (compareOp op') r') (hd : DenC B r c) (hd' : DenC B r' c') (ha : PE X a (rdE B ma)) (hb : PE X b (rdE B mb)) (he : PE X e (rdE B me))
    (hm : lastMarks [op, op'] [b, e] = false := by with_unfolding_all rfl) : PT X (.Compare a [op, op'] [b, e] pos) (rdT B (mTest (mChain (cmpD c) (cmpD c') ma mb me))) :=
  PT.imp (pt_chain ho ho' ha hb he hm) fun σ H Q ⟨ρ, S, θ, R0, rs, f⟩ => by
    have f0 : Fin B (fun _ _ a b => a = b) σ θ H ((ma ρ S).bind fun x S1 => (mb ρ S1).bind fun y S2 => ((cmpD c x y S2).bind fun z S3 => match z with
      | .bl true => (me ρ S3).bind fun w S4 => cmpD c' y w S4
      | .bl false => .ok (.bl false) S3
      | _ => .bad).bind testD) Q := by
      have e : mTest (mChain (cmpD c) (cmpD c') ma mb me) ρ S = (ma ρ S).bind fun x S1 => (mb ρ S1).bind fun y S2 => ((cmpD c x y S2).bind fun z S3 => match z with
        | .bl true => (me ρ S3).bind fun w S4 => cmpD c' y w S4
        | .bl false => .ok (.bl false) S3
        | _ => .bad).bind testD := by
        unfold mTest mChain
        rw [bind_assoc]
        congr
        funext x S1
        rw [bind_assoc]
        all_goals rfl
      rw [← e]; exact f
    refine ⟨ρ, S, θ, R0, rs, Fin.bind f0 fun x S1 θ1 H1 v _ e1 R1 r1 f1 => ⟨ρ, S1, θ1, R1, rs.ext e1, Fin.bind f1 fun y S2 θ2 H2 u _ e2 R2 r2 f2 => ?_⟩⟩
    cases q : c x y S2 with
    | none =>
      have e : cmpD c x y S2 = .bad := by unfold cmpD; rw [q]
      rw [e] at f2; exact f2.elim
    | some k =>
      have e : cmpD c x y S2 = .ok (.bl k) S2 := by unfold cmpD; rw [q]
      rw [e] at f2
      refine hd θ2 S2 H2 x y v u k _ R2 (r1.ext e2) r2 q ⟨k, rfl, ?_⟩
      cases k with
      | false => exact ⟨false, rfl, f2.ok .refl R2 rfl⟩
      | true =>
        replace f2 : Fin B (fun _ _ a b => a = b) σ θ2 H2 (((me ρ S2).bind fun w S4 => cmpD c' y w S4).bind testD) Q := f2
        rw [bind_assoc] at f2
        refine ⟨ρ, S2, θ2, R2, (rs.ext e1).ext e2, Fin.bind f2 fun z S3 θ3 H3 w _ e3 R3 r3 f3 => ?_⟩
        cases q2 : c' y z S3 with
        | none =>
          have e : cmpD c' y z S3 = .bad := by unfold cmpD; rw [q2]
          rw [e] at f3; exact f3.elim
        | some k2 =>
          have e : cmpD c' y z S3 = .ok (.bl k2) S3 := by unfold cmpD; rw [q2]
          rw [e] at f3
          exact hd' θ3 S3 H3 y z u w k2 _ R3 (r2.ext e3) r3 q2 ⟨k2, rfl, f3.ok .refl R3 rfl⟩
/-- other orders of ints -/
theorem den_le : DenC B (rI0 fun i j => .bl (decide (i ≤ j))) (ltI fun i j => decide (i ≤ j)) := den_ltI
theorem den_gt : DenC B (rI0 fun i j => .bl (decide (j < i))) (ltI fun i j => decide (j < i)) := den_ltI
theorem den_ge : DenC B (rI0 fun i j => .bl (decide (j ≤ i))) (ltI fun i j => decide (j ≤ i)) := den_ltI

theorem rds_atI {G : Gv} {θ : List Addr} {H : Hp} {ds : List D} {vs : List V} {i : Int} {d : D} (r : RDs G θ H ds vs) (h : atI ds i = some d) : ∃ v, atI vs i = some v ∧ RD G θ H d v := by
  unfold atI at h ⊢
  rw [← r.length]
  cases q : ixN ds.length i with
  | none => rw [q] at h; cases h
  | some j =>
    rw [q] at h
    obtain ⟨v, h1, h2⟩ := r.get (i := j) (d := d) h
    exact ⟨v, h1, h2⟩
def itemD : O2
  | .str s, .int i, S => if s.length ≤ sizeLine then (match atI s.cps.toList i with
    | some c => .ok (.str ⟨#[c]⟩) S
    | none => .bad) else .bad
  | d, .int i, S => match getSeq d S with
    | some ds => match atI ds i with
      | some x => .ok x S
      | none => .bad
    | none => .bad
  | _, _, _ => .bad
theorem den_item (hK : B.G.K = X.K) : Den2 B (rIx X.K) itemD := by
  intro σ θ S H d e x y Q R0 r1 r2 f
  have seq : ∀ i, e = .int i → itemD d e S = (match getSeq d S with | some ds => (match atI ds i with | some x => .ok x S | none => .bad) | none => .bad) → rIx X.K x y H Q := fun i he q => by
    rw [q] at f
    subst he
    cases r2
    cases q1 : getSeq d S with
    | none => rw [q1] at f; exact f.elim
    | some ds =>
      rw [q1] at f
      replace f : Fin B (RD B.G) σ θ H (match atI ds i with | some x => .ok x S | none => .bad) Q := f
      cases q2 : atI ds i with
      | none => rw [q2] at f; exact f.elim
      | some z =>
        rw [q2] at f
        obtain ⟨a, xs, rfl, k, rs⟩ := getSeq_ok R0 r1 q1
        obtain ⟨v, h1, h2⟩ := rds_atI rs q2
        rw [hK] at k
        rcases k with k | k
        · exact .inl ⟨a, xs, i, v, rfl, rfl, k, h1, f.ok .refl R0 h2⟩
        · exact .inr (.inl ⟨a, xs, i, v, rfl, rfl, k, h1, f.ok .refl R0 h2⟩)
  cases e with
  | int i =>
    cases d with
    | str s =>
      cases r1; cases r2
      obtain ⟨hz, f⟩ := Fin.ite (c := s.length ≤ sizeLine) f
      cases q : atI s.cps.toList i with
      | none => rw [q] at f; exact f.elim
      | some c =>
        rw [q] at f
        exact .inr (.inr ⟨s, i, c, rfl, rfl, hz, q, f.ok .refl R0 (.str _)⟩)
    | _ => exact seq i rfl rfl
  | _ => cases d <;> exact f.elim
theorem de_item {a b : Expr} {ma mb : M D} (hK : B.G.K = X.K) (ha : PE X a (rdE B ma)) (hb : PE X b (rdE B mb)) (hp : PlainIx b) : PE X (.Subscript a b pos) (rdE B (mBin itemD ma mb)) :=
  PE.imp (pe_ix ix_seq ha hb hp) (imp_bin (den_item hK))

abbrev rdO (B : Bv) (m : M (Option Int)) : TO := rd B (fun _ _ a b => a = b) m
def mPart (a : M D) : M (Option Int) := fun ρ S => (a ρ S).bind fun x S1 => match x with
  | .int i => .ok (some i) S1
  | _ => .bad
def mNoPart : M (Option Int) := fun _ S => .ok none S
theorem PO.imp {o : Option Expr} {t t' : TO} (h : PO X o t) (k : ∀ σ H Q, t' σ H Q → t σ H Q) : PO X o t' := ⟨fun pins s σ H Q I q => h.run pins s σ H Q I (k σ H Q q)⟩
theorem do_some {e : Expr} {a : M D} (ha : PE X e (rdE B a)) : PO X (some e) (rdO B (mPart a)) :=
  PO.imp (po_some ha) fun σ H Q ⟨ρ, S, θ, R0, rs, f⟩ => ⟨ρ, S, θ, R0, rs, Fin.bind f fun x S1 θ1 H1 v _ e1 R1 r1 f1 => by
    cases x with
    | int i => cases r1; exact ⟨i, rfl, f1.ok .refl R1 rfl⟩
    | _ => exact f1.elim⟩
theorem do_none : PO X none (rdO B mNoPart) := PO.imp po_none fun σ H Q ⟨ρ, S, θ, R0, rs, f⟩ => f.ok .refl R0 rfl
def cutL {α : Type} (xs : List α) (lo hi : Option Int) : List α := (xs.drop (HT.sIx xs.length 0 lo)).take (HT.sIx xs.length xs.length hi - HT.sIx xs.length 0 lo)
theorem rds_cut {G : Gv} {θ : List Addr} {H : Hp} {ds : List D} {vs : List V} (r : RDs G θ H ds vs) (lo hi : Option Int) : RDs G θ H (cutL ds lo hi) (cutV vs lo hi) := by
  unfold cutL cutV
  rw [r.length]
  exact (r.drop _).take _
def sliceD (d : D) (lo hi : Option Int) (S : Store) : R D := match d with
  | .str s => if s.length ≤ sizeLine then .ok (.str (cutS s lo hi)) S else .bad
  | .tup ds => .ok (.pr (cutL ds lo hi)) S
  | .pr ds => .ok (.pr (cutL ds lo hi)) S
  | d => match getL d S with
    | some ds => .ok (.ref S.length) (S ++ [.lst (cutL ds lo hi)])
    | none => .bad
abbrev rSlG (K : PySem.W.Frag) : V → Option Int → Option Int → Hp → VK → Prop := fun x lo hi H Q => rSlL K x lo hi H Q ∨ rSlA K x lo hi H Q ∨ rSlS x lo hi H Q
theorem SlR.or {r r' : V → Option Int → Option Int → Hp → VK → Prop} (h : SlR X r) (h' : SlR X r') : SlR X (fun x lo hi H Q => r x lo hi H Q ∨ r' x lo hi H Q) :=
  fun pins s σ H x v vl vu lo hi sl Q I r1 r2 r3 r4 q => q.elim (h pins s σ H x v vl vu lo hi sl Q I r1 r2 r3 r4) (h' pins s σ H x v vl vu lo hi sl Q I r1 r2 r3 r4)
theorem slR_all : SlR X (rSlG X.K) := SlR.or sl_list (SlR.or sl_tupA sl_str)
theorem cut_full {α : Type} (xs : List α) {lo hi : Option Int} (h : HT.sIx xs.length 0 lo = 0 ∧ HT.sIx xs.length xs.length hi = xs.length) : cutL xs lo hi = xs := by
  unfold cutL
  rw [h.1, h.2]
  simp
theorem den_slice (hK : B.G.K = X.K) {σ : St} {θ : List Addr} {S : Store} {H : Hp} {d : D} {x : V} {lo hi : Option Int} {Q : VK} (R0 : Rel B.G B.F θ S H) (r : RD B.G θ H d x) (f : Fin B (RD B.G) σ θ H (sliceD d lo hi S) Q) : rSlG X.K x lo hi H Q := by
  have lst : sliceD d lo hi S = (match getL d S with | some ds => .ok (.ref S.length) (S ++ [.lst (cutL ds lo hi)]) | none => .bad) → rSlG X.K x lo hi H Q := fun q => by
    rw [q] at f
    cases q1 : getL d S with
    | none => rw [q1] at f; exact f.elim
    | some ds =>
      rw [q1] at f
      obtain ⟨a, xs, rfl, h1, h2⟩ := getL_ok R0 r q1
      rw [hK] at h1
      exact .inl ⟨a, xs, rfl, h1, fun p hp => Fin.ok f (ext_cell hp) (R0.alloc hp (rds_cut h2 lo hi)) (RD.new R0)⟩
  have tp : ∀ {a : Addr} {xs : List V} (ds : List D), SqT B.G.K H a xs → RDs B.G θ H ds xs → Fin B (RD B.G) σ θ H (.ok (.pr (cutL ds lo hi)) S) Q → rSlG X.K (.ref a) lo hi H Q := fun {a xs} ds h1 h2 f => by
    have h1' := h1
    rw [hK] at h1'
    refine .inr (.inl ⟨a, xs, rfl, h1', fun h => ?_, fun h p hp => ?_⟩)
    · rw [← h2.length] at h
      rw [cut_full ds h] at f
      exact f.ok .refl R0 (.pr h1 h2)
    · have e : Ext θ H θ (upd H p (.tup (cutV xs lo hi))) := .of_keep (keep_new hp)
      exact f.ok e (R0.laid hp) (.pr (.inl (.inl upd_same)) ((rds_cut h2 lo hi).ext e))
  cases d with
  | str s =>
    cases r
    obtain ⟨hz, f⟩ := Fin.ite (c := s.length ≤ sizeLine) f
    exact .inr (.inr ⟨s, rfl, hz, f.ok .refl R0 (.str _)⟩)
  | tup ds =>
    obtain ⟨a, xs, rfl, h1, h2⟩ := tupOf_ok r (ds := ds) rfl
    exact tp ds h1 h2 f
  | pr ds =>
    obtain ⟨a, xs, rfl, h1, h2⟩ := tupOf_ok r (ds := ds) rfl
    exact tp ds h1 h2 f
  | _ => exact lst rfl
def mSlice (a : M D) (lo hi : M (Option Int)) : M D := fun ρ S => (a ρ S).bind fun x S1 => (lo ρ S1).bind fun l S2 => (hi ρ S2).bind fun h S3 => sliceD x l h S3
theorem de_slice {e : Expr} {lo hi : Option Expr} {p2 : Pos} {a : M D} {ml mh : M (Option Int)} (hK : B.G.K = X.K) (ha : PE X e (rdE B a)) (hl : PO X lo (rdO B ml)) (hh : PO X hi (rdO B mh)) : PE X (.Subscript e (.Slice lo hi none p2) pos) (rdE B (mSlice a ml mh)) :=
  PE.imp (pe_slice slR_all ha hl hh) fun σ H Q ⟨ρ, S, θ, R0, rs, f⟩ => ⟨ρ, S, θ, R0, rs, Fin.bind f fun x S1 θ1 H1 v _ e1 R1 r1 f1 => ⟨ρ, S1, θ1, R1, rs.ext e1, Fin.bind f1 fun l S2 θ2 H2 l' _ e2 R2 r2 f2 =>
    ⟨ρ, S2, θ2, R2, (rs.ext e1).ext e2, Fin.bind f2 fun h S3 θ3 H3 h' _ e3 R3 r3 f3 => by
      subst r2; subst r3
      exact den_slice hK R3 ((r1.ext e2).ext e3) f3⟩⟩⟩

abbrev Ob := List D → Store → R D
def DenB (B : Bv) (r : List V → Hp → VK → Prop) (o : Ob) : Prop := ∀ (σ : St) (θ : List Addr) (S : Store) (H : Hp) (ds : List D) (vs : List V) (Q : VK), Rel B.G B.F θ S H → RDs B.G θ H ds vs → Fin B (RD B.G) σ θ H (o ds S) Q → r vs H Q
def mBlt (o : Ob) (a : M (List D)) : M D := fun ρ S => (a ρ S).bind o
theorem de_blt {x : Str} {p : Pos} {e : Expr} {es : List Expr} {id : String} {r : List V → Hp → VK → Prop} {o : Ob} {a : M (List D)} (hc : CallR X (.builtin id) r) (hd : DenB B r o) (hg : Gl X x) (hm : X.mg x = none) (hv : bootBuiltins x = some (.builtin id)) (ha : PA X (e :: es) (rdA B a))
    (hn : x ≠ "__name__" := by decide) (hdb : (x == ("__debug__" : Str)) = false := by decide) (he : starEach (e :: es) X.env = (false, eval e X.env) :: starEach es X.env := by rfl) (hpl : (backTo pos (starEach es X.env)).any (·.1) = false := by rfl) : PE X (.Call (.Name x p) (e :: es) [] pos) (rdE B (mBlt o a)) :=
  PE.imp (pe_callB hc hg hm hv ha hn hdb he hpl) fun σ H Q ⟨ρ, S, θ, R0, rs, f⟩ => ⟨ρ, S, θ, R0, rs, Fin.bind f fun ds S1 θ1 H1 vs _ e1 R1 r1 f1 => hd σ θ1 S1 H1 ds vs Q R1 r1 f1⟩
theorem de_blty {x : Str} {p : Pos} {e : Expr} {es : List Expr} {T : String} {r : List V → Hp → VK → Prop} {o : Ob} {a : M (List D)} (hc : CallR X (.type T) r) (hd : DenB B r o) (hg : Gl X x) (hm : X.mg x = none) (hv : bootBuiltins x = some (.type T)) (ha : PA X (e :: es) (rdA B a))
    (hn : x ≠ "__name__" := by decide) (hdb : (x == ("__debug__" : Str)) = false := by decide) (he : starEach (e :: es) X.env = (false, eval e X.env) :: starEach es X.env := by rfl) (hpl : (backTo pos (starEach es X.env)).any (·.1) = false := by rfl) : PE X (.Call (.Name x p) (e :: es) [] pos) (rdE B (mBlt o a)) :=
  PE.imp (pe_callTy hc hg hm hv ha hn hdb he hpl) fun σ H Q ⟨ρ, S, θ, R0, rs, f⟩ => ⟨ρ, S, θ, R0, rs, Fin.bind f fun ds S1 θ1 H1 vs _ e1 R1 r1 f1 => hd σ θ1 S1 H1 ds vs Q R1 r1 f1⟩
theorem CallR.or {f : Value} {r r' : List V → Hp → VK → Prop} (h : CallR X f r) (h' : CallR X f r') : CallR X f (fun xs H Q => r xs H Q ∨ r' xs H Q) := fun pins s σ H xs us Q I r1 q => q.elim (h pins s σ H xs us Q I r1) (h' pins s σ H xs us Q I r1)
/-- the class's name as a value -/
theorem de_ty {x : Str} {n : Ty} (hg : Gl X x) (hm : X.mg x = none) (hv : bootBuiltins x = some (.type n.name)) (hn : x ≠ "__name__" := by decide) (hd : (x == ("__debug__" : Str)) = false := by decide) : PE X (.Name x pos) (rdE B (mC (.ty n))) := de_c (v := .ty n.name) (pe_bltn hg hm hv rfl hn hd) fun _ _ => .ty n
theorem rds1 {G : Gv} {θ : List Addr} {H : Hp} {d : D} {vs : List V} (r : RDs G θ H [d] vs) : ∃ v, vs = [v] ∧ RD G θ H d v := by
  cases r with
  | cons a b => cases b; exact ⟨_, rfl, a⟩
theorem rds2 {G : Gv} {θ : List Addr} {H : Hp} {d e : D} {vs : List V} (r : RDs G θ H [d, e] vs) : ∃ v w, vs = [v, w] ∧ RD G θ H d v ∧ RD G θ H e w := by
  cases r with
  | cons a b =>
    obtain ⟨w, rfl, h⟩ := rds1 b
    exact ⟨_, w, rfl, a, h⟩
/-- len -/
def getK : D → Store → Option (List (Key × D))
  | .ref n, S => match S[n]? with
    | some (.dct kvs) => some kvs
    | _ => none
  | _, _ => none
theorem getK_ok {G : Gv} {F : Fr0} {θ : List Addr} {S : Store} {H : Hp} {d : D} {v : V} {kvs : List (Key × D)} (R0 : Rel G F θ S H) (r : RD G θ H d v) (e : getK d S = some kvs) : ∃ n a es, d = .ref n ∧ v = .ref a ∧ θ[n]? = some a ∧ S[n]? = some (.dct kvs) ∧ H a = some (.dK es) ∧ RK G θ H kvs es := by
  cases r with
  | @ref n a h =>
    have e' : (match S[n]? with | some (.dct kvs) => some kvs | _ => none) = some kvs := e
    cases q : S[n]? with
    | none => rw [q] at e'; cases e'
    | some c =>
      cases c with
      | lst _ => rw [q] at e'; cases e'
      | rev _ _ => rw [q] at e'; cases e'
      | dct k2 =>
        rw [q] at e'
        cases e'
        obtain ⟨es, h1, h2⟩ := R0.cells _ _ _ h q
        exact ⟨n, a, es, rfl, rfl, h, q, h1, h2⟩
  | _ => cases e
def lenD : Ob
  | [.str s], S => if s.length ≤ sizeLine then .ok (.int s.length) S else .bad
  | [d], S => match getSeq d S with
    | some ds => .ok (.int ds.length) S
    | none => match getK d S with
      | some kvs => .ok (.int kvs.length) S
      | none => .bad
  | _, _ => .bad
abbrev rLenA (K : PySem.W.Frag) : List V → Hp → VK → Prop := fun xs H Q => (∃ x n, xs = [x] ∧ LenV K x H n ∧ Q (.int n) H) ∨ ∃ a kvs, xs = [.ref a] ∧ H a = some (.dK kvs) ∧ Q (.int kvs.length) H
theorem call_lenA : CallR X (.builtin "len") (rLenA X.K) := CallR.or call_len call_lenD
theorem den_len (hK : B.G.K = X.K) : DenB B (rLenA X.K) lenD := by
  intro σ θ S H ds vs Q R0 r f
  cases ds with
  | nil => exact f.elim
  | cons d t =>
    cases t with
    | cons => cases d <;> exact f.elim
    | nil =>
      obtain ⟨v, rfl, r1⟩ := rds1 r
      have seq : lenD [d] S = (match getSeq d S with | some ds => .ok (.int ds.length) S | none => (match getK d S with | some kvs => .ok (.int kvs.length) S | none => .bad)) → rLenA X.K [v] H Q := fun q => by
        rw [q] at f
        cases q1 : getSeq d S with
        | some ds =>
          rw [q1] at f
          obtain ⟨a, xs, rfl, k, rs⟩ := getSeq_ok R0 r1 q1
          rw [hK] at k
          have hq : Q (.int xs.length) H := by rw [← rs.length]; exact Fin.ok f .refl R0 (.int _)
          rcases k with k | k
          · exact .inl ⟨_, xs.length, rfl, .inl ⟨xs, k, rfl⟩, hq⟩
          · exact .inl ⟨_, xs.length, rfl, .inr ⟨xs, k, rfl⟩, hq⟩
        | none =>
          rw [q1] at f
          replace f : Fin B (RD B.G) σ θ H (match getK d S with | some kvs => .ok (.int kvs.length) S | none => .bad) Q := f
          cases q2 : getK d S with
          | none => rw [q2] at f; exact f.elim
          | some kvs =>
            rw [q2] at f
            obtain ⟨n, a, es, rfl, rfl, _, _, h1, h2⟩ := getK_ok R0 r1 q2
            exact .inr ⟨a, es, rfl, h1, by rw [← h2.length]; exact Fin.ok f .refl R0 (.int _)⟩
      cases d with
      | str s =>
        cases r1
        obtain ⟨hz, f⟩ := Fin.ite (c := s.length ≤ sizeLine) f
        exact .inl ⟨_, s.length, rfl, ⟨hz, rfl⟩, f.ok .refl R0 (.int _)⟩
      | _ => exact seq rfl
/-- abs, max, min of two, int -/
def absD : Ob
  | [.int i], S => .ok (.int (if i < 0 then -i else i)) S
  | _, _ => .bad
theorem den_abs : DenB B (fun xs H Q => ∃ i, xs = [.int i] ∧ Q (.int (if i < 0 then -i else i)) H) absD := by
  intro σ θ S H ds vs Q R0 r f
  match ds, r, f with
  | [.int i], r, f =>
    obtain ⟨v, rfl, r1⟩ := rds1 r
    cases r1
    exact ⟨i, rfl, f.ok .refl R0 (.int _)⟩
  | [], _, f => exact f.elim
  | .int _ :: _ :: _, _, f => exact f.elim
  | .non :: _, _, f => exact f.elim
  | .bl _ :: _, _, f => exact f.elim
  | .str _ :: _, _, f => exact f.elim
  | .tup _ :: _, _, f => exact f.elim
  | .lst _ :: _, _, f => exact f.elim
  | .kst _ :: _, _, f => exact f.elim
  | .brw _ :: _, _, f => exact f.elim
  | .ref _ :: _, _, f => exact f.elim
  | .fn _ :: _, _, f => exact f.elim
  | .ty _ :: _, _, f => exact f.elim
def pair2 : List D → Option (Int × Int)
  | [.int i, .int j] => some (i, j)
  | _ => none
theorem pair2_ok {G : Gv} {θ : List Addr} {H : Hp} {ds : List D} {vs : List V} {p : Int × Int} (r : RDs G θ H ds vs) (h : pair2 ds = some p) : vs = [.int p.1, .int p.2] := by
  cases r with
  | nil => cases h
  | @cons d v dr vr a b =>
    cases b with
    | nil => cases d <;> cases h
    | @cons d2 v2 dr2 vr2 b c =>
      cases c with
      | cons => cases d <;> cases d2 <;> cases h
      | nil =>
        cases d with
        | int i =>
          cases d2 with
          | int j => cases h; cases a; cases b; rfl
          | _ => cases h
        | _ => cases d2 <;> cases h
def max2D : Ob := fun ds S => match pair2 ds with
  | some p => .ok (.int (if p.2 > p.1 then p.2 else p.1)) S
  | none => .bad
def min2D : Ob := fun ds S => match pair2 ds with
  | some p => .ok (.int (if p.2 < p.1 then p.2 else p.1)) S
  | none => .bad
theorem den_max2 : DenB B (fun xs H Q => ∃ i j, xs = [.int i, .int j] ∧ Q (.int (if j > i then j else i)) H) max2D := by
  intro σ θ S H ds vs Q R0 r f
  unfold max2D at f
  cases q : pair2 ds with
  | none => rw [q] at f; exact f.elim
  | some p => rw [q] at f; exact ⟨p.1, p.2, pair2_ok r q, Fin.ok f .refl R0 (.int _)⟩
theorem den_min2 : DenB B (fun xs H Q => ∃ i j, xs = [.int i, .int j] ∧ Q (.int (if j < i then j else i)) H) min2D := by
  intro σ θ S H ds vs Q R0 r f
  unfold min2D at f
  cases q : pair2 ds with
  | none => rw [q] at f; exact f.elim
  | some p => rw [q] at f; exact ⟨p.1, p.2, pair2_ok r q, Fin.ok f .refl R0 (.int _)⟩
def one1 : List D → Option D
  | [d] => some d
  | _ => none
theorem one1_ok {ds : List D} {d : D} (h : one1 ds = some d) : ds = [d] := by
  cases ds with
  | nil => cases h
  | cons a t =>
    cases t with
    | nil => cases h; rfl
    | cons => cases h
def intD1 : D → Option Int
  | .int i => some i
  | .bl b => some (if b then 1 else 0)
  | _ => none
def toIntD : Ob := fun ds S => match one1 ds with
  | some d => match intD1 d with
    | some i => .ok (.int i) S
    | none => .bad
  | none => .bad
theorem den_int1 : DenB B (fun xs H Q => (∃ i, xs = [.int i] ∧ Q (.int i) H) ∨ ∃ k, xs = [.bl k] ∧ Q (.int (if k then 1 else 0)) H) toIntD := by
  intro σ θ S H ds vs Q R0 r f
  unfold toIntD at f
  cases q : one1 ds with
  | none => rw [q] at f; exact f.elim
  | some d =>
    rw [q] at f
    have e := one1_ok q
    subst e
    obtain ⟨v, rfl, r1⟩ := rds1 r
    cases d with
    | int i => cases r1; exact .inl ⟨i, rfl, Fin.ok (a := D.int i) f .refl R0 (.int _)⟩
    | bl k => cases r1; exact .inr ⟨k, rfl, Fin.ok (a := D.int (if k then 1 else 0)) f .refl R0 (.int _)⟩
    | _ => exact f.elim
/-- list(..), tuple(..) -/
def listD : Ob := fun ds S => match one1 ds with
  | some d => match getSeq d S with
    | some xs => .ok (.ref S.length) (S ++ [.lst xs])
    | none => .bad
  | none => .bad
theorem den_list (hK : B.G.K = X.K) : DenB B (fun xs H Q => ∃ p ys, xs = [.ref p] ∧ (SqL X.K H p ys ∨ SqT X.K H p ys) ∧ ∀ l, H l = none → Q (.ref l) (upd H l (.lst ys))) listD := by
  intro σ θ S H ds vs Q R0 r f
  unfold listD at f
  cases q : one1 ds with
  | none => rw [q] at f; exact f.elim
  | some d =>
    rw [q] at f
    have e := one1_ok q
    subst e
    obtain ⟨v, rfl, r1⟩ := rds1 r
    replace f : Fin B (RD B.G) σ θ H (match getSeq d S with | some xs => .ok (.ref S.length) (S ++ [.lst xs]) | none => .bad) Q := f
    cases q1 : getSeq d S with
    | none => rw [q1] at f; exact f.elim
    | some xs =>
      rw [q1] at f
      obtain ⟨a, ys, rfl, k, rs⟩ := getSeq_ok R0 r1 q1
      rw [hK] at k
      exact ⟨a, ys, rfl, k, fun l hl => Fin.ok f (ext_cell hl) (R0.alloc hl rs) (RD.new R0)⟩
def tupleD : Ob := fun ds S => match one1 ds with
  | some (.pr xs) => .ok (.pr xs) S
  | some d => match getSeq d S with
    | some xs => .ok (.tup xs) S
    | none => .bad
  | none => .bad
abbrev rTupF (K : PySem.W.Frag) : List V → Hp → VK → Prop := fun xs H Q => ∃ p ys, xs = [.ref p] ∧ ((SqL K H p ys ∧ ∀ (l : Addr) (o : Obj), o.cls = .type "tuple" → o.dict = none → H l = none → Q (.ref l) (upd H l (.frz o (.tup ys)))) ∨ (SqT K H p ys ∧ Q (.ref p) H))
theorem call_tupleF : CallR X (.type "tuple") (rTupF X.K) := by
  intro pins s σ H xs us Q I r h
  obtain ⟨p, ys, rfl, h⟩ := h
  obtain ⟨u, rfl, rx⟩ := vals1 r
  cases rx
  rcases h with ⟨hs, q⟩ | ⟨hs, q⟩
  · obtain ⟨its, k, pl, hz⟩ := I.list hs
    have hl := k.length
    refine call_tuple_list pl.isList (fun h' kp => ?_) (by simp only [List.size_toArray] <;> omega)
    have I1 : Inv X pins σ H { s with heap := h' } := I.kept (t' := s.toks) kp
    exact ⟨.ref h'.objs.size, _, I1.laid (t' := s.toks) (o := .frz { cls := .type "tuple", data := .seq its.toArray } (.tup ys)) (fun b o e => Heap.get?_push_of_some _ e) (Nat.le_refl _) ⟨Heap.get?_push_size _ rfl, hz, its, k, IsTup.new _ _⟩, rfl, q _ _ rfl rfl (I1.hok.fresh (Nat.le_refl _))⟩
  · obtain ⟨its, k, pl, hz⟩ := I.tuple hs
    exact call_tuple_same pl ⟨.ref p, H, I, rfl, q⟩
theorem den_tuple (hK : B.G.K = X.K) : DenB B (rTupF X.K) tupleD := by
  intro σ θ S H ds vs Q R0 r f
  unfold tupleD at f
  cases q : one1 ds with
  | none => rw [q] at f; exact f.elim
  | some d =>
    rw [q] at f
    have e := one1_ok q
    subst e
    obtain ⟨v, rfl, r1⟩ := rds1 r
    have lst : ∀ {ys : List D}, getL d S = some ys → Fin B (RD B.G) σ θ H (.ok (.tup ys) S) Q → rTupF X.K [v] H Q := fun {ys} k f => by
      obtain ⟨a, xs, rfl, k1, rs⟩ := getL_ok R0 r1 k
      exact ⟨a, xs, rfl, .inl ⟨hK ▸ k1, fun l o o1 o2 hl => by
        have e : Ext θ H θ (upd H l (.frz o (.tup xs))) := .of_keep (keep_new hl)
        exact Fin.ok f e (R0.laid hl) (.tup (.new o1 o2) (rs.ext e))⟩⟩
    have gen : (match getL d S with | some xs => R.ok (D.tup xs) S | none => .bad) = (match getL d S with | some xs => R.ok (D.tup xs) S | none => .bad) → Fin B (RD B.G) σ θ H (match getL d S with | some xs => .ok (.tup xs) S | none => .bad) Q → rTupF X.K [v] H Q := fun _ f => by
      cases k : getL d S with
      | none => rw [k] at f; exact f.elim
      | some ys => rw [k] at f; exact lst k f
    cases d with
    | tup xs =>
      cases r1 with
      | @tup a us _ h1 h2 => exact ⟨a, us, rfl, .inr ⟨hK ▸ h1.sq, Fin.ok f .refl R0 (.tup h1 h2)⟩⟩
    | pr xs =>
      cases r1 with
      | @pr a us _ h1 h2 => exact ⟨a, us, rfl, .inr ⟨hK ▸ h1, Fin.ok f .refl R0 (.pr h1 h2)⟩⟩
    | _ => exact gen rfl f
end
end DM

namespace DM
open PySem PySem.Spec L2
open PyProof.Rows hiding St

section
variable {X : Cx} {B : Bv} {pos : Pos}
def tyOf (d : D) (S : Store) : Option Ty := match d with
  | .non => some .none
  | .bl _ => some .bool
  | .int _ => some .int
  | .str _ => some .str
  | .tup _ => some .tuple
  | .pr _ => some .tuple
  | .lst _ => some .list
  | .kst _ => some .list
  | .brw _ => some .list
  | .ref n => match S[n]? with
    | some (.lst _) => some .list
    | some (.dct _) => some .dict
    | _ => none
  | _ => none
def isTy : Ty → Ty → Bool
  | .none, .none => true
  | .bool, .bool => true
  | .bool, .int => true
  | .int, .int => true
  | .str, .str => true
  | .tuple, .tuple => true
  | .list, .list => true
  | .dict, .dict => true
  | _, _ => false
theorem kit_isTy (a b : Ty) : kitB a.name b.name = some (isTy a b) := by
  cases a <;> cases b <;> decide +kernel
theorem tyOf_ok {G : Gv} {F : Fr0} {θ : List Addr} {S : Store} {H : Hp} {d : D} {x : V} {t : Ty} (R0 : Rel G F θ S H) (r : RD G θ H d x) (h : tyOf d S = some t) : TyX G.K H x (.type t.name) := by
  cases r with
  | non => cases h; exact .base .non
  | bl b => cases h; exact .base (.bl b)
  | int i => cases h; exact .base (.int i)
  | str s => cases h; exact .base (.str s)
  | ty s => cases h
  | fn k => cases h
  | tup h1 h2 =>
    cases h
    rcases h1.sq with (h1 | ⟨o, h1⟩) | ⟨o, its, n, h1, h2, _⟩
    · exact .base (.tup h1)
    · exact .fTuple h1
    · exact .kTuple h1 h2
  | pr h1 h2 =>
    cases h
    rcases h1 with (h1 | ⟨o, h1⟩) | ⟨o, its, n, h1, h2, _⟩
    · exact .base (.tup h1)
    · exact .fTuple h1
    · exact .kTuple h1 h2
  | lst h0 h1 h2 h3 => cases h; exact .base (.lst h2)
  | brw h1 h2 h3 => cases h; exact .base (.lst h2)
  | kst h1 h2 =>
    cases h
    rcases h1 with ⟨o, h1⟩ | ⟨o, its, n, h1, h2, _⟩
    · exact .base (.frz h1)
    · exact .kList h1 h2
  | @ref n a hn =>
    have h' : (match S[n]? with | some (.lst _) => some Ty.list | some (.dct _) => some Ty.dict | _ => none) = some t := h
    cases q : S[n]? with
    | none => rw [q] at h'; cases h'
    | some c =>
      cases c with
      | lst ds =>
        rw [q] at h'; cases h'
        obtain ⟨xs, h1, _⟩ := R0.cells _ _ _ hn q
        exact .base (.lst h1)
      | dct kvs =>
        rw [q] at h'; cases h'
        obtain ⟨xs, h1, _⟩ := R0.cells _ _ _ hn q
        exact .base (.dK h1)
      | rev _ _ => rw [q] at h'; cases h'
def tyPair : List D → Option (D × Ty)
  | [d, .ty t] => some (d, t)
  | _ => none
theorem tyPair_ok {ds : List D} {p : D × Ty} (h : tyPair ds = some p) : ds = [p.1, .ty p.2] := by
  match ds, h with
  | [d, .ty t], h => cases h; rfl
def isiD : Ob := fun ds S => match tyPair ds with
  | some p => match tyOf p.1 S with
    | some t => .ok (.bl (isTy t p.2)) S
    | none => .bad
  | none => .bad
theorem den_isi (hK : B.G.K = X.K) : DenB B (rIsi X.K) isiD := by
  intro σ θ S H ds vs Q R0 r f
  unfold isiD at f
  cases q : tyPair ds with
  | none => rw [q] at f; exact f.elim
  | some p =>
    rw [q] at f
    obtain ⟨d, t2⟩ := p
    have e := tyPair_ok q
    subst e
    obtain ⟨v, w, rfl, r1, r2⟩ := rds2 r
    replace f : Fin B (RD B.G) σ θ H (match tyOf d S with | some t => .ok (.bl (isTy t t2)) S | none => .bad) Q := f
    cases q1 : tyOf d S with
    | none => rw [q1] at f; exact f.elim
    | some t =>
      rw [q1] at f
      cases r2
      exact ⟨v, _, .type t.name, .type t2.name, isTy t t2, rfl, .ty _, hK ▸ tyOf_ok R0 r1 q1, kit_ty (kit_isTy t t2), Fin.ok f .refl R0 (.bl _)⟩

def asBools : List D → Option (List Bool)
  | [] => some []
  | .bl b :: r => (asBools r).map (b :: ·)
  | _ => none
theorem asBools_ok {G : Gv} {θ : List Addr} {H : Hp} : ∀ {ds : List D} {vs : List V} {bs : List Bool}, RDs G θ H ds vs → asBools ds = some bs → vs = bs.map V.bl
  | [], _, _, .nil, e => by cases e; rfl
  | .bl i :: r, _, _, .cons h t, e => by
    cases h
    obtain ⟨ms, e1, rfl⟩ := map_some e
    rw [asBools_ok t e1]; rfl
/-- a list of ints handed in alone -/
def argInts (ds : List D) (S : Store) : Option (List Int) := match one1 ds with
  | some d => match getL d S with
    | some xs => asInts xs
    | none => none
  | none => none
theorem argInts_ok {G : Gv} {F : Fr0} {θ : List Addr} {S : Store} {H : Hp} {ds : List D} {vs : List V} {ns : List Int} (R0 : Rel G F θ S H) (r : RDs G θ H ds vs) (h : argInts ds S = some ns) : ∃ a, vs = [.ref a] ∧ SqL G.K H a (ns.map V.int) := by
  unfold argInts at h
  cases q : one1 ds with
  | none => rw [q] at h; cases h
  | some d =>
    rw [q] at h
    have e := one1_ok q
    subst e
    obtain ⟨v, rfl, r1⟩ := rds1 r
    replace h : (match getL d S with | some xs => asInts xs | none => none) = some ns := h
    cases q1 : getL d S with
    | none => rw [q1] at h; cases h
    | some xs =>
      rw [q1] at h
      obtain ⟨a, ys, rfl, k, rs⟩ := getL_ok R0 r1 q1
      rw [asInts_ok rs h] at k
      exact ⟨a, rfl, k⟩
def argBools (ds : List D) (S : Store) : Option (List Bool) := match one1 ds with
  | some d => match getL d S with
    | some xs => asBools xs
    | none => none
  | none => none
theorem argBools_ok {G : Gv} {F : Fr0} {θ : List Addr} {S : Store} {H : Hp} {ds : List D} {vs : List V} {ns : List Bool} (R0 : Rel G F θ S H) (r : RDs G θ H ds vs) (h : argBools ds S = some ns) : ∃ a, vs = [.ref a] ∧ SqL G.K H a (ns.map V.bl) := by
  unfold argBools at h
  cases q : one1 ds with
  | none => rw [q] at h; cases h
  | some d =>
    rw [q] at h
    have e := one1_ok q
    subst e
    obtain ⟨v, rfl, r1⟩ := rds1 r
    replace h : (match getL d S with | some xs => asBools xs | none => none) = some ns := h
    cases q1 : getL d S with
    | none => rw [q1] at h; cases h
    | some xs =>
      rw [q1] at h
      obtain ⟨a, ys, rfl, k, rs⟩ := getL_ok R0 r1 q1
      rw [asBools_ok rs h] at k
      exact ⟨a, rfl, k⟩
def sumD : Ob := fun ds S => match argInts ds S with
  | some ns => .ok (.int ns.sum) S
  | none => .bad
theorem den_sum (hK : B.G.K = X.K) : DenB B (rSum X.K) sumD := by
  intro σ θ S H ds vs Q R0 r f
  unfold sumD at f
  cases q : argInts ds S with
  | none => rw [q] at f; exact f.elim
  | some ns =>
    rw [q] at f
    obtain ⟨a, rfl, k⟩ := argInts_ok R0 r q
    exact ⟨a, ns, rfl, hK ▸ k, Fin.ok f .refl R0 (.int _)⟩
def allD : Ob := fun ds S => match argBools ds S with
  | some bs => .ok (.bl (bs.all id)) S
  | none => .bad
def anyD : Ob := fun ds S => match argBools ds S with
  | some bs => .ok (.bl (bs.any id)) S
  | none => .bad
theorem den_all (hK : B.G.K = X.K) : DenB B (rAll X.K) allD := by
  intro σ θ S H ds vs Q R0 r f
  unfold allD at f
  cases q : argBools ds S with
  | none => rw [q] at f; exact f.elim
  | some ns =>
    rw [q] at f
    obtain ⟨a, rfl, k⟩ := argBools_ok R0 r q
    exact ⟨a, ns, rfl, hK ▸ k, Fin.ok f .refl R0 (.bl _)⟩
theorem den_any (hK : B.G.K = X.K) : DenB B (rAny X.K) anyD := by
  intro σ θ S H ds vs Q R0 r f
  unfold anyD at f
  cases q : argBools ds S with
  | none => rw [q] at f; exact f.elim
  | some ns =>
    rw [q] at f
    obtain ⟨a, rfl, k⟩ := argBools_ok R0 r q
    exact ⟨a, ns, rfl, hK ▸ k, Fin.ok f .refl R0 (.bl _)⟩

abbrev Om := D → List D → Store → R D
def isL (d : D) (S : Store) : Bool := (getL d S).isSome
def mMth (o : Om) (a : M D) (b : M (List D)) : M D := fun ρ S => (a ρ S).bind fun x S1 => if isL x S1 then (b ρ S1).bind fun ys S2 => o x ys S2 else .bad
def DenM (B : Bv) (r : V → List V → Hp → VK → Prop) (o : Om) : Prop := ∀ (σ : St) (θ : List Addr) (S : Store) (H : Hp) (d : D) (x : V) (ds : List D) (vs : List V) (Q : VK), Rel B.G B.F θ S H → RD B.G θ H d x → RDs B.G θ H ds vs → Fin B (RD B.G) σ θ H (o d ds S) Q → r x vs H Q
theorem tyV_list (hK : B.G.K = X.K) {θ : List Addr} {S : Store} {H : Hp} {d : D} {x : V} (R0 : Rel B.G B.F θ S H) (r : RD B.G θ H d x) (h : isL d S = true) : tyV X.K "list" x H := by
  unfold isL at h
  obtain ⟨ds, e⟩ := Option.isSome_iff_exists.mp h
  obtain ⟨a, xs, rfl, k, _⟩ := getL_ok R0 r e
  exact .inl ⟨rfl, xs, hK ▸ k⟩
theorem de_mth {o e : Expr} {es : List Expr} {name : Str} {apos cpos : Pos} {id : String} {r : V → List V → Hp → VK → Prop} {om : Om} {a : M D} {b : M (List D)} (hK : B.G.K = X.K) (pa : PlainAttrs "list") (slot : Slot "list" name id) (hty : typeOf (.builtin id) = pure (.type "method_descriptor")) (hm : MtR X id r) (hd : DenM B r om)
    (ho : PE X o (rdE B a)) (ha : PA X (e :: es) (rdA B b)) (h1 : attributeBase o name X.env (eval o X.env) = eval o X.env := by rfl)
    (h2 : ((((backTo cpos (starEach (e :: es) X.env)).all fun x => !x.fst) && (backToKw cpos (keywordEach [] X.env)).all fun x => x.fst.isSome) && decide (((e :: es).length + ([] : List Keyword).length + if ([] : List Keyword).isEmpty = true then 0 else 1) < 30)) = true := by rfl)
    (h3 : (apos.endLine == cpos.line) = true := by rfl) (h4 : starEach (e :: es) X.env = (false, eval e X.env) :: starEach es X.env := by rfl) (h5 : ((backTo cpos (starEach es X.env)).any fun x => x.fst) = false := by rfl) :
    PE X (.Call (.Attribute o name apos) (e :: es) [] cpos) (rdE B (mMth om a b)) :=
  PE.imp (pe_bm pa slot hty hm ho ha h1 h2 h3 h4 h5) fun σ H Q ⟨ρ, S, θ, R0, rs, f⟩ => ⟨ρ, S, θ, R0, rs, Fin.bind f fun x S1 θ1 H1 v _ e1 R1 r1 f1 => by
    obtain ⟨hl, f2⟩ := Fin.ite (c := isL x S1 = true) f1
    exact ⟨tyV_list hK R1 r1 hl, ρ, S1, θ1, R1, rs.ext e1, Fin.bind f2 fun ys S2 θ2 H2 us _ e2 R2 r2 f3 => hd σ θ2 S2 H2 x v ys us Q R2 (r1.ext e2) r2 f3⟩⟩
def mMth0 (o : Om) (a : M D) : M D := fun ρ S => (a ρ S).bind fun x S1 => if isL x S1 then o x [] S1 else .bad
theorem de_mth0 {o : Expr} {name : Str} {apos cpos : Pos} {id : String} {r : V → List V → Hp → VK → Prop} {om : Om} {a : M D} (hK : B.G.K = X.K) (pa : PlainAttrs "list") (slot : Slot "list" name id) (hty : typeOf (.builtin id) = pure (.type "method_descriptor")) (hm : MtR X id r) (hd : DenM B r om)
    (ho : PE X o (rdE B a)) (h1 : attributeBase o name X.env (eval o X.env) = eval o X.env := by rfl) (h3 : (apos.endLine == cpos.line) = true := by rfl) : PE X (.Call (.Attribute o name apos) [] [] cpos) (rdE B (mMth0 om a)) :=
  PE.imp (pe_bm0 pa slot hty hm ho h1 h3) fun σ H Q ⟨ρ, S, θ, R0, rs, f⟩ => ⟨ρ, S, θ, R0, rs, Fin.bind f fun x S1 θ1 H1 v _ e1 R1 r1 f1 => by
    obtain ⟨hl, f2⟩ := Fin.ite (c := isL x S1 = true) f1
    exact ⟨tyV_list hK R1 r1 hl, hd σ θ1 S1 H1 x v [] [] Q R1 r1 .nil f2⟩⟩
/-- a list that may be changed -/
def getM (d : D) (S : Store) : Option (Nat × List D) := match d with
  | .ref n => match S[n]? with
    | some (.lst ds) => some (n, ds)
    | _ => none
  | _ => none
theorem getM_ok {G : Gv} {F : Fr0} {θ : List Addr} {S : Store} {H : Hp} {d : D} {x : V} {p : Nat × List D} (R0 : Rel G F θ S H) (r : RD G θ H d x) (h : getM d S = some p) : ∃ a xs, x = .ref a ∧ θ[p.1]? = some a ∧ S[p.1]? = some (.lst p.2) ∧ H a = some (.lst xs) ∧ RDs G θ H p.2 xs := by
  cases r with
  | @ref n a hn =>
    have h' : (match S[n]? with | some (.lst ds) => some (n, ds) | _ => none) = some p := h
    cases q : S[n]? with
    | none => rw [q] at h'; cases h'
    | some c =>
      cases c with
      | lst ds =>
        rw [q] at h'; cases h'
        obtain ⟨xs, h1, h2⟩ := R0.cells _ _ _ hn q
        exact ⟨a, xs, rfl, hn, q, h1, h2⟩
      | dct kvs => rw [q] at h'; cases h'
      | rev _ _ => rw [q] at h'; cases h'
  | _ => cases h
def appendD : Om := fun d ds S => match getM d S, one1 ds with
  | some p, some y => if p.2.length < 16777216 then .ok .non (S.set p.1 (.lst (p.2 ++ [y]))) else .bad
  | _, _ => .bad
theorem den_append : DenM B rAppend appendD := by
  intro σ θ S H d x ds vs Q R0 r1 r2 f
  unfold appendD at f
  cases q1 : getM d S with
  | none => rw [q1] at f; exact f.elim
  | some p =>
    cases q2 : one1 ds with
    | none => rw [q1, q2] at f; exact f.elim
    | some y =>
      rw [q1, q2] at f
      have e := one1_ok q2
      subst e
      obtain ⟨v, rfl, r3⟩ := rds1 r2
      obtain ⟨a, xs, rfl, k1, k2, k3, k4⟩ := getM_ok R0 r1 q1
      obtain ⟨hl, f2⟩ := Fin.ite (c := p.2.length < 16777216) f
      have w := R0.write k1 k2 (k4.append (.cons r3 .nil))
      exact ⟨a, xs, v, rfl, rfl, k3, by rw [← k4.length]; exact hl, f2.ok w.1 w.2 .non⟩
def popD : Om := fun d ds S => match getM d S, ds with
  | some p, [] => match p.2[p.2.length - 1]? with
    | some y => .ok y (S.set p.1 (.lst p.2.dropLast))
    | none => .bad
  | _, _ => .bad
theorem RDs.dropLast {G : Gv} {θ : List Addr} {H : Hp} : ∀ {ds : List D} {vs : List V}, RDs G θ H ds vs → RDs G θ H ds.dropLast vs.dropLast
  | _, _, .nil => .nil
  | _, _, .cons r .nil => .nil
  | _, _, .cons r (.cons r2 t) => .cons r (RDs.dropLast (.cons r2 t))
theorem den_pop : DenM B rPop popD := by
  intro σ θ S H d x ds vs Q R0 r1 r2 f
  unfold popD at f
  cases q1 : getM d S with
  | none => rw [q1] at f; exact f.elim
  | some p =>
    cases r2 with
    | cons => rw [q1] at f; exact f.elim
    | nil =>
      rw [q1] at f
      obtain ⟨a, xs, rfl, k1, k2, k3, k4⟩ := getM_ok R0 r1 q1
      replace f : Fin B (RD B.G) σ θ H (match p.2[p.2.length - 1]? with | some y => .ok y (S.set p.1 (.lst p.2.dropLast)) | none => .bad) Q := f
      cases q2 : p.2[p.2.length - 1]? with
      | none => rw [q2] at f; exact f.elim
      | some y =>
        rw [q2] at f
        obtain ⟨v, h1, h2⟩ := k4.get q2
        have w := R0.write k1 k2 k4.dropLast
        exact ⟨a, xs, v, rfl, rfl, k3, by rw [← k4.length]; exact h1, Fin.ok f w.1 w.2 (h2.ext w.1)⟩
def small63 (j : Int) : Bool := decide (-9223372036854775808 ≤ j) && decide (j < 9223372036854775808)
def popAtD : Om := fun d ds S => match getM d S, ds with
  | some p, [.int i] => if small63 i then (match seqIndex? i p.2.length with
    | some k => match p.2[k]? with
      | some y => .ok y (S.set p.1 (.lst (p.2.eraseIdx k)))
      | none => .bad
    | none => .bad) else .bad
  | _, _ => .bad
theorem den_popAt : DenM B rPopAt popAtD := by
  intro σ θ S H d x ds vs Q R0 r1 r2 f
  unfold popAtD at f
  cases q1 : getM d S with
  | none => rw [q1] at f; exact f.elim
  | some p =>
    rw [q1] at f
    cases ds with
    | nil => exact f.elim
    | cons e t =>
      cases t with
      | cons => cases e <;> exact f.elim
      | nil =>
        obtain ⟨v, rfl, r3⟩ := rds1 r2
        cases e with
        | int i =>
          cases r3
          obtain ⟨c, f2⟩ := Fin.ite (c := small63 i = true) f
          obtain ⟨a, xs, rfl, k1, k2, k3, k4⟩ := getM_ok R0 r1 q1
          cases q2 : seqIndex? i p.2.length with
          | none => rw [q2] at f2; exact f2.elim
          | some k =>
            rw [q2] at f2
            replace f2 : Fin B (RD B.G) σ θ H (match p.2[k]? with | some y => .ok y (S.set p.1 (.lst (p.2.eraseIdx k))) | none => .bad) Q := f2
            cases q3 : p.2[k]? with
            | none => rw [q3] at f2; exact f2.elim
            | some y =>
              rw [q3] at f2
              obtain ⟨v, h1, h2⟩ := k4.get q3
              have w := R0.write k1 k2 (k4.eraseIdx k)
              unfold small63 at c
              rw [Bool.and_eq_true] at c
              exact ⟨a, xs, i, k, v, rfl, rfl, k3, of_decide_eq_true c.1, of_decide_eq_true c.2, by rw [← k4.length]; exact q2, h1, Fin.ok f2 w.1 w.2 (h2.ext w.1)⟩
        | _ => exact f.elim
def extendD : Om := fun d ds S => match getM d S, one1 ds with
  | some p, some y => match getP y S with
    | some ys => if p.2.length + ys.length ≤ 16777216 then .ok .non (S.set p.1 (.lst (p.2 ++ ys))) else .bad
    | none => .bad
  | _, _ => .bad
theorem den_extend : DenM B rExtend extendD := by
  intro σ θ S H d x ds vs Q R0 r1 r2 f
  unfold extendD at f
  cases q1 : getM d S with
  | none => rw [q1] at f; exact f.elim
  | some p =>
    cases q2 : one1 ds with
    | none => rw [q1, q2] at f; exact f.elim
    | some y =>
      rw [q1, q2] at f
      have e := one1_ok q2
      subst e
      obtain ⟨v, rfl, r3⟩ := rds1 r2
      obtain ⟨a, xs, rfl, k1, k2, k3, k4⟩ := getM_ok R0 r1 q1
      replace f : Fin B (RD B.G) σ θ H (match getP y S with | some ys => if p.2.length + ys.length ≤ 16777216 then .ok .non (S.set p.1 (.lst (p.2 ++ ys))) else .bad | none => .bad) Q := f
      cases q3 : getP y S with
      | none => rw [q3] at f; exact f.elim
      | some ys =>
        rw [q3] at f
        obtain ⟨hl, f2⟩ := Fin.ite (c := p.2.length + ys.length ≤ 16777216) f
        obtain ⟨b, zs, rfl, g1, g2⟩ := getP_ok R0 r3 q3
        have w := R0.write k1 k2 (k4.append g2)
        exact ⟨a, b, xs, zs, rfl, rfl, k3, g1, by rw [← k4.length, ← g2.length]; exact hl, f2.ok w.1 w.2 .non⟩

def setD (d i y : D) (S : Store) : R Unit := match getM d S, i with
  | some p, .int k => match ixN p.2.length k with
    | some j => .ok () (S.set p.1 (.lst (p.2.set j y)))
    | none => .bad
  | _, _ => .bad
def tSub (o i : M D) : TM := fun d ρ S => (o ρ S).noexc.bind fun x S1 => (i ρ S1).noexc.bind fun k S2 => (setD x k d S2).bind fun _ S3 => .ok ρ S3
theorem dg_sub {I : Nat → Prop} {o i : Expr} {mo mi : M D} (ho : PE X o (rdE B mo)) (hi : PE X i (rdE B mi)) (ha : ∀ v, assign (.Subscript o i pos) X.env v = (do
      let ov ← holding [v] (eval o X.env)
      let iv ← holding [v, ov] (eval i X.env)
      standAt pos
      holding [v, ov, iv] (setItem ov iv v)
      release [v, ov, iv] []) := by intro _; rfl) : PG X (.Subscript o i pos) (rdG B I (tSub mo mi)) :=
  PG.imp (pg_sub ho hi set_list ha) fun v σ H Q ⟨ρ, S, θ, d, R0, rs, r, f⟩ => ⟨ρ, S, θ, R0, rs, Fin.noexc (σ := σ) (Fin.bind f fun x S1 θ1 H1 u _ e1 R1 r1 f1 => ⟨ρ, S1, θ1, R1, rs.ext e1, Fin.noexc (σ := σ) (Fin.bind f1 fun k S2 θ2 H2 w _ e2 R2 r2 f2 => by
    have f3 : Fin B (RSA B I σ) σ θ2 H2 ((setD x k d S2).bind fun _ S3 => .ok ρ S3) Q := f2
    unfold setD at f3
    cases q1 : getM x S2 with
    | none => rw [q1] at f3; exact f3.elim
    | some p =>
      rw [q1] at f3
      cases k with
      | int k =>
        cases r2
        replace f3 : Fin B (RSA B I σ) σ θ2 H2 ((match ixN p.2.length k with | some j => R.ok () (S2.set p.1 (.lst (p.2.set j d))) | none => .bad).bind fun _ S3 => .ok ρ S3) Q := f3
        cases q2 : ixN p.2.length k with
        | none => rw [q2] at f3; exact f3.elim
        | some j =>
          rw [q2] at f3
          obtain ⟨a, xs, rfl, k1, k2, k3, k4⟩ := getM_ok R2 (r1.ext e2) q1
          have w' := R2.write k1 k2 (RDs.set ((r.ext e1).ext e2) j k4)
          exact ⟨a, xs, k, j, rfl, rfl, k3, by rw [← k4.length]; exact q2, Fin.ok (a := ρ) f3 w'.1 w'.2 ⟨((rs.ext e1).ext e2).ext w'.1, .refl⟩⟩
      | _ => exact f3.elim)⟩)⟩

theorem call_repr_bool : CallR X (.builtin "repr") (fun xs H Q => ∃ b, xs = [.bl b] ∧ Q (.str (if b then "True" else "False")) H) := by
  intro pins s σ H xs us Q I r h
  obtain ⟨b, rfl, q⟩ := h
  obtain ⟨u, rfl, rfl⟩ := vals1 r
  exact PySem.P.repr_of_bool ⟨.str _, H, I.tok _, ⟨_, rfl⟩, q⟩
def reprD : Ob := fun ds S => match one1 ds with
  | some (.bl b) => .ok (.str (if b then "True" else "False")) S
  | some (.int i) => if i.natAbs.log2 < 1920 then .ok (.str (toString i)) S else .bad
  | _ => .bad
abbrev rRepr : List V → Hp → VK → Prop := fun xs H Q => (∃ b, xs = [.bl b] ∧ Q (.str (if b then "True" else "False")) H) ∨ ∃ i, xs = [.int i] ∧ i.natAbs.log2 < 1920 ∧ Q (.str (toString i)) H
theorem call_repr2 : CallR X (.builtin "repr") rRepr := CallR.or call_repr_bool SkE.call_repr_int
theorem den_repr : DenB B rRepr reprD := by
  intro σ θ S H ds vs Q R0 r f
  unfold reprD at f
  cases q : one1 ds with
  | none => rw [q] at f; exact f.elim
  | some d =>
    rw [q] at f
    have e := one1_ok q
    subst e
    obtain ⟨v, rfl, r1⟩ := rds1 r
    cases d with
    | bl b => cases r1; exact .inl ⟨b, rfl, Fin.ok (a := D.str (if b then "True" else "False")) f .refl R0 (.str _)⟩
    | int i =>
      cases r1
      obtain ⟨c, f2⟩ := Fin.ite (c := i.natAbs.log2 < 1920) f
      exact .inr ⟨i, rfl, c, f2.ok .refl R0 (.str _)⟩
    | _ => exact f.elim
end
end DM

namespace DM
open PySem PySem.Spec L2
open PyProof.Rows hiding St

/-- what is asked of the law's mirror -/
def LawTrue (m : Fm) : Prop := ∀ ns : List Int, ns.length ≤ 63 → ∃ S, m [.kst (ns.map .int)] [] = .ok (.bl true) S
theorem rds_ints {G : Gv} {θ : List Addr} {H : Hp} : ∀ ns : List Int, RDs G θ H (ns.map D.int) (ns.map V.int)
  | [] => .nil
  | n :: r => .cons (.int n) (rds_ints r)
theorem law_sp {G : Gv} {m : Fm} (hm : LawTrue m) {H : Hp} {a : Addr} {ns : List Int} (hl : ns.length ≤ 63) (hO : Only H) (hS : SqL G.K H a (ns.map V.int)) : spD G 1 m [.ref a] H (fun v _ => v = .bl true) fun _ _ _ => False := by
  obtain ⟨S, e⟩ := hm ns hl
  have fl : FL G.K H a (ns.map V.int) := by
    rcases hS with (h | ⟨o, h⟩) | h
    · rcases hO a with z | ⟨o, xs, z⟩
      · rw [z] at h; cases h
      · rw [z] at h; cases h
    · exact .inl ⟨o, h⟩
    · exact .inr h
  refine ⟨fun _ => False, [.kst (ns.map .int)], [], [], rfl, ⟨rfl, List.nodup_nil, fun n a c h => by simp at h, .refl, fun _ h => h.elim⟩, .cons (.kst fl (rds_ints ns)) .nil, ?_⟩
  rw [e]
  intro θ' H' v _ _ r
  cases r
  rfl
theorem law_callG {P : Program} {w : World} {K : PySem.W.Frag} {mg mb : Str → Option Value} {k : Nat} {fa a : Addr} {fd : FuncData} {x : Str} {sp : Sp} {s₁ : Shared} {vs : List Value} {ns : List Int}
    (KX : K.In s₁.heap) (hns : s₁.heap.Ns mainGlobals mg) (hb : s₁.heap.Ns builtinsNs mb) (hbb : ∀ x : Str, x ≠ "__name__" → mb x = bootBuiltins x) (hlim : s₁.heap.NoLimit) (hg : s₁.gens = #[])
    (ha : s₁.heap.get? a = some { cls := .type "list", data := .seq vs.toArray }) (hi : PyProof.Rows.IntsAre vs ns) (hl : ns.length ≤ sizeLine) (hr : Room k callerA)
    (FF : ∀ base : Heap, K.In base → base.Ns mainGlobals mg → FnG P w K mg base k fa fd [x] sp) (hbind : ∀ (s : Shared) (u : Value), BindsTo s fd ⟨[u], []⟩ [(x, u)])
    (hsp : ∀ H : Hp, Only H → SqL K H a (ns.map V.int) → sp [.ref a] H (fun v _ => v = .bl true) fun _ _ _ => False) :
    codeAny (model P w) callerA (.call (.ref fa) ⟨[.ref a], []⟩) (fun r s' => r = .ok (.ret (.bool true)) ∧ OldK s₁.heap s'.heap ∧ s'.os = s₁.os ∧ AllBare s'.gens) s₁ := by
  have rv := vals_ints hi
  have lv := hi.length
  suffices core : ∀ H : Hp, Only H → SqL K H a (ns.map V.int) → HOk P w H s₁.heap → (∀ b, H b ≠ none → b = a) → (H a ≠ none → K.lookup a = none) →
      codeAny (model P w) callerA (.call (.ref fa) ⟨[.ref a], []⟩) (fun r s' => r = .ok (.ret (.bool true)) ∧ OldK s₁.heap s'.heap ∧ s'.os = s₁.os ∧ AllBare s'.gens) s₁ by
    cases hk : K.lookup a with
    | some o =>
      have e := KX a o hk
      rw [ha] at e
      cases e
      exact core (fun _ => none) (fun _ => .inl rfl) (.inr ⟨_, vs.toArray, _, hk, rfl, rfl, rfl, by simpa [lv] using hl, by simpa using rv⟩) (fun b u z => by cases z) (fun b z => absurd rfl z) fun z => absurd rfl z
    | none =>
      let H0 : Hp := fun b => if b = a then some (.frz { cls := .type "list", data := .seq vs.toArray } (.lst (ns.map V.int))) else none
      have at_a : H0 a = some (.frz { cls := .type "list", data := .seq vs.toArray } (.lst (ns.map V.int))) := if_pos rfl
      have off_a : ∀ {b : Addr}, b ≠ a → H0 b = none := fun h => if_neg h
      refine core H0 (fun b => ?_) (.inl (.inr ⟨_, at_a⟩)) (fun b u z => ?_) (fun b z => Classical.byContradiction fun h => z (off_a h)) fun _ => hk
      · by_cases h : b = a
        · subst h; exact .inr ⟨_, _, at_a⟩
        · exact .inl (off_a h)
      · by_cases h : b = a
        · subst h
          rw [at_a] at z; cases z
          exact ⟨ha, by rw [List.length_map]; exact hl, vs, _, rv, ha⟩
        · rw [off_a h] at z; cases z
  intro H hO hS hok hA hK
  have noA : ∀ {b : Addr} {o : Obj} {es : Array DictEntry} {ep : Nat}, s₁.heap.get? b = some o → o.data = .dict es ep → H b = none := fun {b o es ep} e d => by
    cases q : H b with
    | none => rfl
    | some u =>
      have e' : b = a := hA b (by rw [q]; exact fun z => by cases z)
      subst e'
      rw [ha] at e; cases e
      cases d
  have nsK : ∀ {b : Addr} {m : Str → Option Value}, s₁.heap.Ns b m → (hidT s₁.heap H).Ns b m := fun {b m} ⟨o, es, ep, e, d, r⟩ => ⟨o, es, ep, hidT_get e (noA e d), d, r⟩
  have hKb : K.In (hidT s₁.heap H) := fun b o e => hidT_get (KX b o e) (by
    cases q : H b with
    | none => rfl
    | some u =>
      have hn : H b ≠ none := by rw [q]; exact fun z => by cases z
      have e' : b = a := hA b hn
      subst e'
      rw [hK hn] at e; cases e)
  obtain ⟨mc, l1, l2⟩ := hlim
  have e0 : Env0 P w K mg (hidT s₁.heap H) callerA [] s₁ H :=
    ⟨rfl, ⟨hKb, nsK hns, ⟨mb, nsK hb, hbb⟩, mc, nsK l1, l2⟩, fun b o e => of_hidT e, Nat.le_of_eq (hidT_size _ _), trivial, fun b hb => absurd hb (by simp [frs]), hok, .of_eq hg⟩
  refine codeAny_mono ((FF _ hKb (nsK hns)).run callerA [] s₁ H ⟨[.ref a], []⟩ [.ref a] [.ref a] _ _ hr rfl e0 (hbind s₁ (.ref a)) (.cons rfl .nil) (hsp H hO hS)) fun r s' h => ?_
  match r, h with
  | .error e, h =>
    obtain ⟨_, _, _, _, _, _, _, _, _, _, _, _, z⟩ := h
    exact z.elim
  | .ok (.ret u), h =>
    obtain ⟨v, H', os, bare, un, hok', r', q⟩ := h
    have q' : v = .bl true := q
    subst q'
    have r2 : u = Value.bool true := r'
    subst r2
    refine ⟨rfl, OldK.of_keep fun b o e => ?_, os, bare⟩
    cases q : H b with
    | none => exact un.keep b o e q (by simp [frs]) (by simp)
    | some u =>
      rcases hO b with z | ⟨ob, xs, z⟩
      · rw [q] at z; cases z
      · have z2 := un.frzs b ob _ z
        obtain ⟨e1, _⟩ := hok b _ z
        obtain ⟨e2, _⟩ := hok' b _ z2
        rw [e] at e1; cases e1
        exact e2
/-- the goal that the head leaves -/
theorem walk_end {l : PySem.W.OpenLaw} {k : Nat} {q : Program} {loose : List Str} {XP : (Str → Option Value) → Heap → Prop} {YP : World → Heap → Prop} {d : DefRec} {K : Params → PySem.W.Frag} {fz : World → (Str → Option Value) → Nat → Option Addr} {x : Str} {m : Fm} (hm : LawTrue m)
    (hn : l.most = some 63) (hdf : d.params.defaults = []) (hr : Room k callerA) (hY : ∀ (w : World) (h : Heap), YP w h → (K w.params).In h)
    (FF : ∀ (w : World) (mg : Str → Option Value) (fa : Addr) (h : Heap), (K w.params).In h → h.Ns mainGlobals mg → mg d.name = some (.ref fa) →
      ∃ (G : Gv) (fd : FuncData), G.K = K w.params ∧ (∀ (s : Shared) (u : Value), BindsTo s fd ⟨[u], []⟩ [(x, u)]) ∧ ∀ base : Heap, (K w.params).In base → base.Ns mainGlobals mg → FnG l.prog w (K w.params) mg base k fa fd [x] (spD G 1 m)) :
    PySem.W.WalkO q loose XP YP l.row.toRowW d [] (fun f vs => PySem.call f vs) := by
  refine Att.attach_call hn hdf fun w s₀ s₁ mg mb fa o pm cd doc a vs ns G Y ho hd hcd hmg hobj hints hlen hg => ?_
  have KX := hY w _ Y
  obtain ⟨Gv, fd, hK, hb, hF⟩ := FF w mg fa _ KX G.T.g hmg
  exact law_callG KX G.T.g G.T.b G.T.builtins G.T.nolimit hg hobj hints (Nat.le_trans hlen (by decide)) hr hF hb fun H hO hS => law_sp hm hlen hO (hK ▸ hS)
end DM

namespace DM
open PySem PySem.Spec L2
open PyProof.Rows hiding St

section
variable {X : Cx} {B : Bv} {pos : Pos}
theorem hu65 {k : Nat} {A : Around} (r : Room k A) : A.units + 65 < cLine := by have := r.un; omega
theorem de_gi {x : Str} {v : Int} (hg : Gl X x) (hm : ∃ t, X.mg x = some (.int v t)) (hd : (x == ("__debug__" : Str)) = false := by decide) : PE X (.Name x pos) (rdE B (mC (.int v))) := by
  obtain ⟨t, e⟩ := hm
  exact de_c (v := .int v) (pe_glob hg e ⟨t, rfl⟩ hd) fun _ _ => .int v
theorem de_gs {x : Str} {v : Str} (hg : Gl X x) (hm : ∃ t, X.mg x = some (.str v t)) (hd : (x == ("__debug__" : Str)) = false := by decide) : PE X (.Name x pos) (rdE B (mC (.str v))) := by
  obtain ⟨t, e⟩ := hm
  exact de_c (v := .str v) (pe_glob hg e ⟨t, rfl⟩ hd) fun _ _ => .str v
theorem ds_never {st : Stmt} : PS X st (rdS B fun _ _ => .bad) := PS.imp ps_never fun D σ H ⟨ρ, S, θ, R0, rs, f⟩ => f.elim

def putKD (kvs : List (Key × D)) (k : Key) (d : D) : List (Key × D) := if (kvs.any fun kv => decide (kv.1 = k)) = true then kvs.map (fun kv => if kv.1 = k then (kv.1, d) else kv) else kvs ++ [(k, d)]
section
variable {G : Gv} {θ : List Addr} {H : Hp}
theorem RK.any {k : Key} : ∀ {r : List (Key × D)} {s : List (Key × V)}, RK G θ H r s → (r.any fun kv => decide (kv.1 = k)) = (s.any fun kv => decide (kv.1 = k))
  | _, _, .nil => rfl
  | _, _, .cons _ t => by rw [List.any_cons, List.any_cons, RK.any t]
theorem RK.map {k : Key} {d : D} {v : V} (h : RD G θ H d v) : ∀ {r : List (Key × D)} {s : List (Key × V)}, RK G θ H r s → RK G θ H (r.map fun kv => if kv.1 = k then (kv.1, d) else kv) (s.map fun kv => if kv.1 = k then (kv.1, v) else kv)
  | _, _, .nil => .nil
  | _, _, .cons (k := k2) q t => by
    rw [List.map_cons, List.map_cons]
    by_cases e : k2 = k
    · rw [if_pos e, if_pos e]; exact .cons h (RK.map h t)
    · rw [if_neg e, if_neg e]; exact .cons q (RK.map h t)
theorem RK.snoc {k : Key} {d : D} {v : V} (h : RD G θ H d v) : ∀ {r : List (Key × D)} {s : List (Key × V)}, RK G θ H r s → RK G θ H (r ++ [(k, d)]) (s ++ [(k, v)])
  | _, _, .nil => .cons h .nil
  | _, _, .cons q t => .cons q (RK.snoc h t)
theorem RK.put {k : Key} {d : D} {v : V} (h : RD G θ H d v) {r : List (Key × D)} {s : List (Key × V)} (q : RK G θ H r s) : RK G θ H (putKD r k d) (putK s k v) := by
  unfold putKD putK
  rw [RK.any q]
  split
  · exact RK.map h q
  · exact RK.snoc h q
theorem RK.fold : ∀ {r : List (Key × D)} {s : List (Key × V)} {r0 : List (Key × D)} {s0 : List (Key × V)}, RK G θ H r s → RK G θ H r0 s0 → RK G θ H (r.foldl (fun a p => putKD a p.1 p.2) r0) (s.foldl (fun a p => putK a p.1 p.2) s0)
  | _, _, _, _, .nil, q => q
  | _, _, _, _, .cons (k := k) h t, q => by
    have z := RK.fold t (RK.put (k := k) h q)
    exact z
theorem RK.keys : ∀ {r : List (Key × D)} {s : List (Key × V)}, RK G θ H r s → s.map (·.1) = r.map (·.1)
  | _, _, .nil => rfl
  | _, _, .cons _ t => by rw [List.map_cons, List.map_cons, RK.keys t]
end
def keyD : D → Option Key
  | .int i => some (.inl i)
  | .str s => some (.inr s)
  | _ => none
theorem keyD_ok {G : Gv} {θ : List Addr} {H : Hp} {d : D} {v : V} {k : Key} (r : RD G θ H d v) (e : keyD d = some k) : v = kV k := by
  cases r with
  | int i => cases e; rfl
  | str s => cases e; rfl
  | _ => cases e
def pairD : D → Option (Key × D)
  | .tup [k, v] => (keyD k).map fun k => (k, v)
  | _ => none
theorem pairs_ok {G : Gv} {θ : List Addr} {H : Hp} : ∀ {ds : List D} {vs : List V} {ps : List (Key × D)}, RDs G θ H ds vs → ds.mapM pairD = some ps → ∃ (as : List Addr) (kvs : List (Key × V)), vs = as.map V.ref ∧ Paired (fun p kv => SqT G.K H p [kV kv.1, kv.2]) as kvs ∧ RK G θ H ps kvs
  | _, _, ps, .nil, e => by
    cases (show some [] = some ps from e)
    exact ⟨[], [], rfl, .nil, .nil⟩
  | _, _, ps, .cons (d := d) r t, e => by
    obtain ⟨p, qs, e1, e2, rfl⟩ := mapM_cons_some e
    obtain ⟨as, kvs, rfl, h2, h3⟩ := pairs_ok t e2
    unfold pairD at e1
    split at e1
    · rename_i k v
      obtain ⟨kk, e3, rfl⟩ := map_some e1
      cases r with
      | @tup a xs _ k1 k2 =>
        obtain ⟨x, y, rfl, r1, r2⟩ := rds2 k2
        rw [keyD_ok r1 e3] at k1
        exact ⟨a :: as, (kk, y) :: kvs, rfl, .cons k1.sq h2, .cons r2 h3⟩
    · cases e1
def dictD : Ob := fun ds S => match one1 ds with
  | some d => match getL d S with
    | some xs => match xs.mapM pairD with
      | some ps => .ok (.ref S.length) (S ++ [.dct (ps.foldl (fun a p => putKD a p.1 p.2) [])])
      | none => .bad
    | none => .bad
  | none => .bad
abbrev rDictP (K : PySem.W.Frag) : List V → Hp → VK → Prop := fun xs H Q => ∃ (a : Addr) (ps : List Addr) (kvs : List (Key × V)), xs = [.ref a] ∧ SqL K H a (ps.map V.ref) ∧ Paired (fun p kv => SqT K H p [kV kv.1, kv.2]) ps kvs ∧
    ∀ p, H p = none → Q (.ref p) (upd H p (.dK (mergeK [] kvs)))
theorem den_dict (hK : B.G.K = X.K) : DenB B (rDictP X.K) dictD := by
  intro σ θ S H ds vs Q R0 r f
  unfold dictD at f
  cases q : one1 ds with
  | none => rw [q] at f; exact f.elim
  | some d =>
    rw [q] at f
    have e := one1_ok q
    subst e
    obtain ⟨v, rfl, r1⟩ := rds1 r
    replace f : Fin B (RD B.G) σ θ H (match getL d S with | some xs => (match xs.mapM pairD with | some ps => R.ok (D.ref S.length) (S ++ [.dct (ps.foldl (fun a p => putKD a p.1 p.2) [])]) | none => .bad) | none => .bad) Q := f
    cases q1 : getL d S with
    | none => rw [q1] at f; exact f.elim
    | some xs =>
      rw [q1] at f
      replace f : Fin B (RD B.G) σ θ H (match xs.mapM pairD with | some ps => R.ok (D.ref S.length) (S ++ [.dct (ps.foldl (fun a p => putKD a p.1 p.2) [])]) | none => .bad) Q := f
      cases q2 : xs.mapM pairD with
      | none => rw [q2] at f; exact f.elim
      | some ps =>
        rw [q2] at f
        obtain ⟨a, ws, rfl, k1, k2⟩ := getL_ok R0 r1 q1
        obtain ⟨as, kvs, rfl, h2, h3⟩ := pairs_ok k2 q2
        rw [hK] at k1 h2
        exact ⟨a, as, kvs, rfl, k1, h2, fun p hp => Fin.ok f (ext_cell hp) (R0.allocC hp ⟨_, upd_same, (RK.fold h3 .nil).ext (ext_cell hp)⟩) (RD.new R0)⟩

def insI (x : Int) : List Int → List Int
  | [] => [x]
  | y :: r => if x ≤ y then x :: y :: r else y :: insI x r
def srtI : List Int → List Int
  | [] => []
  | x :: r => insI x (srtI r)
theorem insI_perm (x : Int) : ∀ l : List Int, (insI x l).Perm (x :: l)
  | [] => .refl _
  | y :: r => by
    unfold insI
    split
    · exact .refl _
    · exact ((insI_perm x r).cons y).trans (.swap x y r)
theorem srtI_perm : ∀ l : List Int, (srtI l).Perm l
  | [] => .refl _
  | x :: r => (insI_perm x (srtI r)).trans ((srtI_perm r).cons x)
theorem insI_sorted (x : Int) : ∀ {l : List Int}, l.Pairwise (· ≤ ·) → (insI x l).Pairwise (· ≤ ·)
  | [], _ => by simp [insI]
  | y :: r, h => by
    unfold insI
    rw [List.pairwise_cons] at h
    split
    · rename_i hx
      rw [List.pairwise_cons]
      refine ⟨fun z hz => ?_, List.pairwise_cons.mpr h⟩
      rcases List.mem_cons.mp hz with rfl | hz
      · exact hx
      · exact Int.le_trans hx (h.1 z hz)
    · rename_i hx
      rw [List.pairwise_cons]
      refine ⟨fun z hz => ?_, insI_sorted x h.2⟩
      rcases List.mem_cons.mp ((insI_perm x r).mem_iff.mp hz) with rfl | hz
      · omega
      · exact h.1 z hz
theorem srtI_sorted : ∀ l : List Int, (srtI l).Pairwise (· ≤ ·)
  | [] => .nil
  | x :: r => insI_sorted x (srtI_sorted r)
theorem srtI_eq {l m : List Int} (h : m.Perm l) (hs : m.Pairwise (· ≤ ·)) : m = srtI l :=
  List.Perm.eq_of_pairwise (fun a b _ _ h1 h2 => Int.le_antisymm h1 h2) hs (srtI_sorted l) (h.trans (srtI_perm l).symm)
def intK : Key × D → Option Int
  | (.inl i, _) => some i
  | _ => none
theorem intK_ok : ∀ {kvs : List (Key × D)} {ns : List Int}, kvs.mapM intK = some ns → kvs.map (·.1) = ns.map Sum.inl
  | [], ns, e => by cases (show some [] = some ns from e); rfl
  | p :: r, ns, e => by
    obtain ⟨n, ms, e1, e2, rfl⟩ := mapM_cons_some e
    rw [List.map_cons, List.map_cons, intK_ok e2]
    congr 1
    obtain ⟨k, d⟩ := p
    cases k with
    | inl i => cases e1; rfl
    | inr s => cases e1
def sortedD : Ob := fun ds S => match one1 ds with
  | some d => match getK d S with
    | some kvs => match kvs.mapM intK with
      | some ns => if ns.length < 64 then .ok (.ref S.length) (S ++ [.lst ((srtI ns).map .int)]) else .bad
      | none => .bad
    | none => match getL d S with
      | some xs => match asInts xs with
        | some ns => .ok (.ref S.length) (S ++ [.lst ((srtI ns).map .int)])
        | none => .bad
      | none => .bad
  | none => .bad
abbrev rSortA (K : PySem.W.Frag) : List V → Hp → VK → Prop := fun xs H Q => (∃ (a : Addr) (kvs : List (Key × V)) (ks : List Int), xs = [.ref a] ∧ Rd H a (.dK kvs) ∧ kvs.map (·.1) = ks.map Sum.inl ∧ ks.length < 64 ∧
    ∀ (ys : List Int) (p : Addr), ys.Perm ks → ys.Pairwise (· ≤ ·) → H p = none → Q (.ref p) (upd H p (.lst (ys.map V.int)))) ∨ rSortedI K xs H Q
theorem call_sortedA (hc : X.calm = true) : CallR X (.builtin "sorted") (rSortA X.K) := CallR.or (call_sortedDI hc) cr_sortedI
theorem den_sorted (hK : B.G.K = X.K) : DenB B (rSortA X.K) sortedD := by
  intro σ θ S H ds vs Q R0 r f
  unfold sortedD at f
  cases q : one1 ds with
  | none => rw [q] at f; exact f.elim
  | some d =>
    rw [q] at f
    have e := one1_ok q
    subst e
    obtain ⟨v, rfl, r1⟩ := rds1 r
    have fin : ∀ (ns ys : List Int) (p : Addr), Fin B (RD B.G) σ θ H (.ok (.ref S.length) (S ++ [.lst ((srtI ns).map .int)])) Q → ys.Perm ns → ys.Pairwise (· ≤ ·) → H p = none → Q (.ref p) (upd H p (.lst (ys.map V.int))) := fun ns ys p f h1 h2 hp => by
      rw [srtI_eq h1 h2]
      exact Fin.ok f (ext_cell hp) (R0.alloc hp (rds_ints _)) (RD.new R0)
    dsimp only at f
    cases q1 : getK d S with
    | some kvs =>
      rw [q1] at f
      dsimp only at f
      cases q2 : kvs.mapM intK with
      | none => rw [q2] at f; exact f.elim
      | some ns =>
        rw [q2] at f
        obtain ⟨h64, f2⟩ := Fin.ite (c := ns.length < 64) f
        obtain ⟨n, a, es, rfl, rfl, _, _, h1, h2⟩ := getK_ok R0 r1 q1
        exact .inl ⟨a, es, ns, rfl, .inl h1, h2.keys.trans (intK_ok q2), h64, fun ys p => fin ns ys p f2⟩
    | none =>
      rw [q1] at f
      dsimp only at f
      cases q2 : getL d S with
      | none => rw [q2] at f; exact f.elim
      | some xs =>
        rw [q2] at f
        dsimp only at f
        cases q3 : asInts xs with
        | none => rw [q3] at f; exact f.elim
        | some ns =>
          rw [q3] at f
          obtain ⟨a, ws, rfl, k1, k2⟩ := getL_ok R0 r1 q2
          rw [asInts_ok k2 q3, hK] at k1
          exact .inr ⟨a, ns, rfl, k1, fun ys p => fin ns ys p f⟩

end
end DM

namespace DM
open PySem PySem.Spec L2
open PyProof.Rows hiding St

section
variable {X : Cx} {pins : List (Addr × Obj)} {σ : St} {H : Hp} {s : Shared}
/-- an address that is new at I's state is off all that I speak of -/
theorem off_new (I : Inv X pins σ H s) {p : Addr} (hp : s.heap.objs.size ≤ p) : H p = none ∧ p ≠ X.env.locals ∧ p ∉ X.fs ∧ X.s_0.heap.objs.size ≤ p ∧ (∀ x c, X.env.cells.lookup x = some c → c ≠ p) ∧ ∀ q ∈ X.pn ++ pins, q.1 ≠ p := by
  refine ⟨I.hok.fresh hp, fun z => ?_, I.nofs hp, Nat.le_trans I.sz hp, fun x c e z => ?_, fun q hq z => ?_⟩
  · exact absurd (z ▸ I.lt) (Nat.not_lt.mpr hp)
  · obtain ⟨v, o, ho, _⟩ := I.cell x c e
    exact absurd (z ▸ Heap.lt_size ho) (Nat.not_lt.mpr hp)
  · exact absurd (z ▸ Heap.lt_size (I.pin q hq).1) (Nat.not_lt.mpr hp)
theorem valsAt : ∀ {xs : List V} {us : List Value} {j : Nat} {u : Value}, Vals xs us → us[j]? = some u → ∃ x, xs[j]? = some x ∧ RelV x u
  | _, _, j, u, .nil, e => by simp at e
  | _, _, 0, u, .cons r t, e => by simp at e; subst e; exact ⟨_, rfl, r⟩
  | _, _, j + 1, u, .cons r t, e => by
    obtain ⟨x, h1, h2⟩ := valsAt (j := j) (u := u) t (by simpa using e)
    exact ⟨x, by simpa using h1, h2⟩
theorem valsSnoc {x : V} {u : Value} (h : RelV x u) : ∀ {xs : List V} {us : List Value}, Vals xs us → Vals (xs ++ [x]) (us ++ [u])
  | _, _, .nil => .cons h .nil
  | _, _, .cons r t => .cons r (valsSnoc h t)
def srtK (xs : List V) (kz : List PyData) : List V := ((xs.zip kz).mergeSort (PySem.W.dataLe false (·.2))).map (·.1)
theorem each_zip {xs : List V} {us : List Value} (r : Vals xs us) : ∀ {kz : List PyData}, kz.length = xs.length → PySem.W.EachIs (fun (v : Value) (b : V × PyData) => RelV b.1 v) us (xs.zip kz) := by
  induction r with
  | nil => intro kz h; cases kz with
    | nil => exact .nil
    | cons => cases h
  | cons h t ih => intro kz e; cases kz with
    | nil => cases e
    | cons k kz => exact .cons h (ih (by simpa using e))
theorem each_vals {us : List Value} {bs : List (V × PyData)} (e : PySem.W.EachIs (fun (v : Value) (b : V × PyData) => RelV b.1 v) us bs) : Vals (bs.map (·.1)) us := by
  induction e with
  | nil => exact .nil
  | cons h t ih => exact .cons h ih
theorem map_zip_snd {xs : List V} : ∀ {kz : List PyData}, kz.length = xs.length → (xs.zip kz).map (·.2) = kz := fun {kz} h => by
  rw [← List.unzip_snd, List.unzip_zip h.symm]
theorem dps_reads (I : Inv X pins σ H s) : ∀ {ks : List V} {us : List Value} {kz : List PyData}, Vals ks us → DpAll X.K H ks kz → PySem.W.EachIs (fun v k => ∃ as, Reads s.heap v k as) us kz
  | _, _, _, .nil, .nil => .nil
  | _, _, _, .cons r t, .cons h q => .cons (Dp.reads I _ _ _ h r) (dps_reads I t q)
/-- the same of a list or a tuple: what a built-in collects -/
theorem seq_at (I : Inv X pins σ H s) {l : Addr} {xs : List V} (h : SqL X.K H l xs ∨ SqT X.K H l xs) : ∃ (its : List Value) (T : String) (o : Obj) (n : Nat), Vals xs its ∧ (T = "list" ∨ T = "tuple") ∧ s.heap.get? l = some o ∧ o.cls = .type T ∧ o.data = .seq its.toArray n ∧ xs.length ≤ sizeLine := by
  rcases h with h | h
  · obtain ⟨its, rv, ⟨o, n, h1, h2, _, h3⟩, hz⟩ := I.list h
    exact ⟨its, _, o, n, rv, .inl rfl, h1, h2, h3, hz⟩
  · obtain ⟨its, rv, ⟨o, h1, h2, n, h3⟩, hz⟩ := I.tuple h
    exact ⟨its, _, o, n, rv, .inr rfl, h1, h2, h3, hz⟩
theorem sortK_run {l fa : Addr} {xs : List V} {Q : VK} (I : Inv X pins σ H s) (hs : SqL X.K H l xs ∨ SqT X.K H l xs) (J : Nat → List V → Hp → Prop) (h0 : J 0 [] H)
    (turn : ∀ (i : Nat) (x : V) (ks : List V) (H1 : Hp) (ps : List (Addr × Obj)) (s1 : Shared) (u : Value), xs[i]? = some x → J i ks H1 → Inv X ps σ H1 s1 → RelV x u →
      wpAny (model X.prog X.w) X.A.in1.in1 (call (.ref fa) [u]) (fun r s2 => ∃ k H2, Inv X ps σ H2 s2 ∧ RelV k r ∧ J (i + 1) (ks ++ [k]) H2) (fun _ _ => False) s1)
    (done : ∀ (ks : List V) (H1 : Hp), J xs.length ks H1 → ∃ kz, DpAll X.K H1 ks kz ∧ kz.length = xs.length ∧ PySem.W.AllAlike kz ∧ PySem.W.Sortable kz ∧ (∀ d ∈ kz, X.A.in1.in1.units + d.depth < cLine) ∧ ∀ p, H1 p = none → Q (.ref p) (upd H1 p (.lst (srtK xs kz)))) :
    wpAny (model X.prog X.w) X.A (call (.builtin "sorted") [.ref l] [(Str.ofString "key", .ref fa)]) (EP X pins σ Q) X.xe s := by
  obtain ⟨its, T, ob, n0, rv, hT, hob, hcl, hda, hz⟩ := seq_at I hs
  have hzl : its.length ≤ sizeLine := by rw [← rv.length]; exact hz
  refine PyProof.Rows.call_function_entry_kw kind_sorted plain_sorted entry_sorted (PyProof.Rows.ksk_s1 _ _) ?_
  unfold Builtin.«sorted»
  refine wpAny_bind (m := checkCount "sorted" 1 1 _) (wpAny_pure ?_)
  refine wpAny_bind (wpAny_collect_seq l hT hob hcl hda (fun hp kp0 => ?_) hzl)
  have Ip : Inv X pins σ H { s with heap := hp } := I.kept (t' := s.toks) kp0
  refine wpAny_bind (wpAny_newList ?_ hzl)
  show wpAny _ _ _ _ _ { s with heap := hp.push (seqObj "list" its.toArray 0) }
  obtain ⟨a, ea⟩ : ∃ a, a = hp.objs.size := ⟨_, rfl⟩
  rw [← ea]
  have hoL : (hp.push (seqObj "list" its.toArray 0)).get? a = some (seqObj "list" its.toArray 0) := by rw [ea]; exact Heap.get?_push_size _ rfl
  have hah : a < (hp.push (seqObj "list" its.toArray 0)).objs.size := Heap.lt_size hoL
  refine wpAny_bind (wpAny_holding (PyProof.Rows.wpAny_call_entry_kw slot_list_sort ⟨_, hoL, rfl⟩ entry_list_sort ?_ (PyProof.Rows.ksk_l1 _ _)))
  show wpAny _ X.A.in1.in1 _ _ _ _
  rw [ksk_t1]
  suffices main : wpAny (model X.prog X.w) X.A.in1.in1 (ksk_tree a (.ref fa) false) (fun f s' => f = .done (.ret .none) ∧ EP X pins σ Q (.ref a) s') X.xe { s with heap := hp.push (seqObj "list" its.toArray 0) } by
    refine wpAny_mono main (fun f s' hf => ?_) fun _ _ e => e
    obtain ⟨rfl, hq⟩ := hf
    exact ⟨_, rfl, wpAny_pure ⟨_, rfl, hq⟩⟩
  obtain ⟨e1, ho1⟩ : ∃ e1, ((hp.push (seqObj "list" its.toArray 0)).update a (Obj.mapSeq fun _ => (#[] : Array Value))).get? a = some (seqObj "list" #[] e1) := ⟨_, get?_update_seq hoL fun _ => #[]⟩
  obtain ⟨kS, ek⟩ : ∃ kS, kS = (((hp.push (seqObj "list" its.toArray 0)).update a (Obj.mapSeq fun _ => (#[] : Array Value))).push (seqObj "tuple" its.toArray 0)).objs.size := ⟨_, rfl⟩
  have hkS : a < kS := by rw [ek, size_push', Heap.size_update]; omega
  unfold ksk_tree
  refine wpAny_bind (listItems_at hoL rfl ?_)
  refine wpAny_bind (listUpdate_at hoL rfl ?_ (by rw [List.size_toArray]; exact hzl) (Nat.zero_le _))
  refine wpAny_bind (seqEpoch_at ho1 rfl ?_)
  refine wpAny_bind (wpAny_newTuple ?_ (by show its.length ≤ _; exact hzl))
  refine wpAny_bind (wpAny_newList ?_ (Nat.zero_le _))
  refine wpAny_holding ?_
  have na : hp.objs.size ≤ a := Nat.le_of_eq ea.symm
  have nk : hp.objs.size ≤ kS := Nat.le_trans na (Nat.le_of_lt hkS)
  have hka : kS ≠ a := by omega
  obtain ⟨a1, a2, a3, a4, a5, a6⟩ := off_new Ip na
  obtain ⟨k1, k2, k3, k4, k5, k6⟩ := off_new Ip nk
  have I0 : Inv X pins σ H { s with heap := PySem.W.sortingHeap (hp.push (seqObj "list" its.toArray 0)) a its } := I.kept (t' := s.toks) fun b o e => PySem.W.sortingHeap_old (Nat.ne_of_lt (ea ▸ Heap.lt_size (kp0 b o e))) (Heap.get?_push_of_some _ (kp0 b o e))
  have at_a : (PySem.W.sortingHeap (hp.push (seqObj "list" its.toArray 0)) a its).get? a = some (seqObj "list" #[] e1) := Heap.get?_push_of_some _ (Heap.get?_push_of_some _ ho1)
  have at_k : (PySem.W.sortingHeap (hp.push (seqObj "list" its.toArray 0)) a its).get? kS = some (seqObj "list" #[] 0) := by rw [ek]; exact Heap.get?_push_size _ rfl
  show wpAny _ _ (ksk_rest a (.ref fa) false its.toArray e1 (.ref (((hp.push (seqObj "list" its.toArray 0)).update a (Obj.mapSeq fun _ => (#[] : Array Value))).push (seqObj "tuple" its.toArray 0)).objs.size)) _ _ { s with heap := PySem.W.sortingHeap (hp.push (seqObj "list" its.toArray 0)) a its }
  rw [← ek]
  -- the pins
  have pinA : ∀ {H1 : Hp} {s1 : Shared} {kA : Array Value} {e : Nat}, Inv X pins σ H1 s1 → s1.heap.get? a = some (seqObj "list" #[] e1) → s1.heap.get? kS = some (seqObj "list" kA e) → H1 a = none → H1 kS = none → Inv X (pins ++ [(a, seqObj "list" #[] e1), (kS, seqObj "list" kA e)]) σ H1 s1 :=
    fun {H1 s1 kA e} I1 g1 g2 n1 n2 => I1.pins_of fun p hp => by
      rcases List.mem_append.mp hp with hp | hp
      · exact I1.pin p (List.mem_append_right _ hp)
      · rcases List.mem_cons.mp hp with rfl | hp
        · exact ⟨g1, n1, a2, a3, fun v z => by cases z⟩
        · rw [List.mem_singleton.mp hp]
          exact ⟨g2, n2, k2, k3, fun v z => by cases z⟩
  have unpin : ∀ {H1 : Hp} {s1 : Shared} {kA : Array Value} {e : Nat}, Inv X (pins ++ [(a, seqObj "list" #[] e1), (kS, seqObj "list" kA e)]) σ H1 s1 → Inv X pins σ H1 s1 ∧ s1.heap.get? a = some (seqObj "list" #[] e1) ∧ s1.heap.get? kS = some (seqObj "list" kA e) ∧ H1 a = none ∧ H1 kS = none :=
    fun {H1 s1 kA e} I1 => by
      have p1 := I1.pin (a, seqObj "list" #[] e1) (List.mem_append_right _ (List.mem_append_right _ (List.mem_cons_self)))
      have p2 := I1.pin (kS, seqObj "list" kA e) (List.mem_append_right _ (List.mem_append_right _ (List.mem_cons_of_mem _ List.mem_cons_self)))
      exact ⟨I1.unpinned, p1.1, p2.1, p1.2.1, p2.2.1⟩
  unfold ksk_rest
  refine wpAny_bind (wpAny_rule ?_)
  first
    | rw [List.forIn_toArray]
    | (rw [← Array.forIn_toList]; simp only [List.toList_toArray])
    | rw [← Array.forIn_toList]
  refine wpAny_bind (ksk_fold (fun i s1 => ∃ (H1 : Hp) (ks : List V) (kA : Array Value) (e : Nat), Inv X (pins ++ [(a, seqObj "list" #[] e1), (kS, seqObj "list" kA e)]) σ H1 s1 ∧ Vals ks kA.toList ∧ J i ks H1 ∧ ks.length = i) its 0 _
    ⟨H, [], #[], 0, pinA I0 at_a at_k a1 k1, .nil, h0, rfl⟩ ?step ?done)
  case step =>
    rintro j u s1 hu ⟨H1, ks, kA, e, I1, rk, hJ, hkl⟩
    simp only [Nat.zero_add] at hJ hkl ⊢
    obtain ⟨x, hx, rx⟩ : ∃ x, xs[j]? = some x ∧ RelV x u := by
      have hj : j < its.length := (List.getElem?_eq_some_iff.mp hu).1
      exact valsAt rv hu
    have hz2 : kA.size ≤ its.length := by
      have h1 : ks.length = kA.size := rk.length.trans Array.length_toList
      have h2 : j < its.length := (List.getElem?_eq_some_iff.mp hu).1
      rw [← h1, hkl]
      exact Nat.le_of_lt h2
    refine wpAny_bind (wpAny_attempt (wpAny_mono (turn j x ks H1 _ s1 u hx hJ I1 rx) (fun r s2 he => ?_) fun _ _ hF => hF.elim))
    obtain ⟨k, H2, I2, rk2, hJ2⟩ := he
    obtain ⟨I3, g1, g2, n1, n2⟩ := unpin I2
    have sb := Heap.SameBut.update s2.heap kS (Obj.mapSeq (·.push r))
    obtain ⟨c2, hc2⟩ : ∃ c2, (s2.heap.update kS (Obj.mapSeq (·.push r))).get? kS = some (seqObj "list" (kA.push r) c2) := ⟨_, get?_update_seq g2 (·.push r)⟩
    try dsimp only
    refine wpAny_bind (listUpdate_at g2 rfl ?_ (Nat.le_trans hz2 hzl) (Nat.le_trans (Nat.le_of_eq (Array.size_push ..)) (Nat.succ_le_succ (Nat.le_trans hz2 hzl))))
    have I4 : Inv X pins σ H2 { s2 with heap := s2.heap.update kS (Obj.mapSeq (·.push r)) } := I3.turned (t' := s2.toks) (it := kS) (fun b o hb q => (sb.2 b hb).trans q) n2 k2 (.inr k4) k5 k6
    refine wpAny_pure ⟨rfl, H2, ks ++ [k], kA.push r, c2, pinA I4 ((sb.2 a hka.symm).trans g1) hc2 n1 n2, ?_, hJ2, by simp [hkl]⟩
    rw [Array.toList_push]
    exact valsSnoc rk2 rk
  case done =>
    rintro s1 ⟨H1, ks, kA, e, I1, rk, hJ, hkl⟩
    rw [Nat.zero_add, ← rv.length] at hJ hkl
    obtain ⟨kz, hD, hkz, hal, hsk, hu, q⟩ := done ks H1 hJ
    obtain ⟨I3, g1, g2, n1, n2⟩ := unpin I1
    have hsz : kA.size = its.length := by
      have h1 : ks.length = kA.size := rk.length.trans Array.length_toList
      rw [← h1, hkl]
      exact rv.length
    try dsimp only
    refine wpAny_bind (listItems_at g2 rfl ?_)
    obtain ⟨G, r1, r2⟩ := restrict s1.heap fun b => !decide (b = kS)
    have r1' : ∀ b, b ≠ kS → G.get? b = s1.heap.get? b := fun b hb => r1 b (by simp [hb])
    have r2' : G.get? kS = none := r2 kS (by simp)
    have hrd : PySem.W.EachIs (fun v k => ∃ as, Reads s1.heap v k as) kA.toList kz := dps_reads I3 rk hD
    refine PySem.W.keyH_end (κ := PySem.W.dataKind s1.heap kz) (h₁ := G) (fun b o _ q => ?_) r2' g2 g1 hka (PySem.W.SortsAt.data hrd hal hsk hu) hsz hzl fun h3 tk3 c kp n3 => ?_
    · by_cases hb : b = kS
      · subst hb; rw [r2'] at q; cases q
      · rw [← r1' b hb]; exact q
    refine ⟨rfl, ?_⟩
    have hlen : kA.toList.length = its.length := by rw [Array.length_toList]; exact hsz
    have hout : Vals (srtK xs kz) (PySem.W.sortVals (PySem.W.dataKind s1.heap kz) false kA.toList its) := by
      have ko : PySem.W.KeyedOut false ((xs.zip kz).map (·.2)) its (PySem.W.sortVals (PySem.W.dataKind s1.heap kz) false kA.toList its) := by
        rw [map_zip_snd hkz]
        exact ⟨s1.heap, kA.toList, hal, rfl, hrd⟩
      exact each_vals (PySem.W.keyedOut_each (fun b : V × PyData => b.2) ko (each_zip rv hkz))
    have kept : ∀ b o, b ≠ a → b ≠ kS → s1.heap.get? b = some o → h3.get? b = some o := fun b o hb hk q => kp b o hb (by rw [r1' b hk]; exact q)
    have nT : ∀ b o, H1 b = some o → b ≠ a ∧ b ≠ kS := fun b o q => ⟨(fun z => by rw [z, n1] at q; cases q), (fun z => by rw [z, n2] at q; cases q)⟩
    have I5 : Inv X pins σ (upd H1 a (.lst (srtK xs kz))) { s1 with heap := h3, toks := tk3 } := by
      refine I3.step (g' := s1.gens) (d' := s1.drawn) (t' := tk3) (ch := [a, kS]) (fun b hb => ?_) (fun b o _ _ hc q _ => ?_) (fun b o _ _ hc q _ => ?_) (fun b o hc q n => ?_) (fun b o hc q => ?_) (fun b ys q => ?_) (fun b o u q => ?_) (fun b ps q => ?_) (fun m hm => ?_) (fun b u q => ?_) I3.bare
      · rcases List.mem_cons.mp hb with rfl | hb
        · exact ⟨.inr a4, a2, a5, a6⟩
        · rw [List.mem_singleton.mp hb]; exact ⟨.inr k4, k2, k5, k6⟩
      · simp only [List.mem_cons, List.not_mem_nil, or_false, not_or] at hc
        exact kept b o hc.1 hc.2 q
      · simp only [List.mem_cons, List.not_mem_nil, or_false, not_or] at hc
        exact ⟨o.slots, kept b o hc.1 hc.2 q⟩
      · simp only [List.mem_cons, List.not_mem_nil, or_false, not_or] at hc
        rw [upd_ne hc.1]; exact n
      · simp only [List.mem_cons, List.not_mem_nil, or_false, not_or] at hc
        exact ⟨o, kept b o hc.1 hc.2 q⟩
      · rw [upd_ne (nT b _ q).1]; exact q
      · rw [upd_ne (nT b _ q).1]; exact q
      · exact ⟨#[], by rw [upd_ne (nT b _ q).1, q]; simp⟩
      · obtain ⟨o, es, ep, ho, r⟩ := hm
        exact ⟨o, es, ep, kept _ o (Ne.symm a2) (Ne.symm k2) ho, r⟩
      · by_cases hb : b = a
        · subst hb
          rw [upd_same] at q
          cases q
          refine ⟨?_, _, c, hout, n3⟩
          unfold srtK
          rw [List.length_map, List.length_mergeSort, List.length_zip, hkz, Nat.min_self]
          exact hz
        · rw [upd_ne hb] at q
          refine (I3.hok b u q).stay (fun c v hc r => ?_) (fun c r => ?_) fun c ys r => ?_
          · rcases hc with z | z
            · rw [z] at r ⊢; exact kept b v hb (nT b _ q).2 r
            · exact kept c v (nT c _ z).1 (nT c _ z).2 r
          · rw [upd_ne (nT c _ r).1]; exact r
          · rw [upd_ne (nT c _ r).1]; exact r
    exact ⟨.ref a, _, I5, rfl, q a n1⟩
end
end DM

namespace DM
open PySem PySem.Spec L2
open PyProof.Rows hiding St

section
variable {X : Cx} {B : Bv} {pos : Pos}
def keysD (m : Fm) : List D → Store → R (List D)
  | [], S => .ok [] S
  | d :: ds, S => (callD m [d] S).bind fun k S1 => (keysD m ds S1).bind fun ks S2 => .ok (k :: ks) S2
def tup1 : PyData → Bool
  | .tuple (_ :: _) => true
  | _ => false
def noTup : PyData → Bool
  | .tuple _ => false
  | .none => false
  | _ => true
def okK (kz : List PyData) : Bool := (kz.all fun d => kz.all fun e => PySem.W.alike d e) && ((kz.all tup1) || (kz.all noTup)) && kz.all fun d => decide (d.depth ≤ 20)
theorem okK_ok {kz : List PyData} (h : okK kz = true) : PySem.W.AllAlike kz ∧ PySem.W.Sortable kz ∧ ∀ d ∈ kz, d.depth ≤ 20 := by
  unfold okK at h
  simp only [Bool.and_eq_true, Bool.or_eq_true, List.all_eq_true, decide_eq_true_eq] at h
  obtain ⟨⟨h1, h2⟩, h3⟩ := h
  refine ⟨fun d hd e he => h1 d hd e he, ?_, h3⟩
  rcases h2 with h2 | h2
  · refine .inl fun d hd => ?_
    have z := h2 d hd
    unfold tup1 at z
    split at z
    · exact ⟨_, _, rfl⟩
    · cases z
  · refine .inr fun d hd => ?_
    have z := h2 d hd
    constructor
    · rintro rfl; cases z
    · rintro xs rfl; cases z
def srtD (xs : List D) (kz : List PyData) : List D := ((xs.zip kz).mergeSort (PySem.W.dataLe false (·.2))).map (·.1)
def sortKD (xs ks : List D) (S : Store) : R D := match ks.mapM (toPy 20 S) with
  | some kz => if (okK kz && (kz.length == xs.length)) = true then .ok (.ref S.length) (S ++ [.lst (srtD xs kz)]) else .bad
  | none => .bad
def mSortK (m : Fm) (a : M (List D)) : M D := fun ρ S => (a ρ S).bind fun ds S1 => match one1 ds with
  | some d => match getSeq d S1 with
    | some xs => (keysD m xs S1).noexc.bind fun ks S2 => sortKD xs ks S2
    | none => .bad
  | none => .bad
/-- sorted alike: the data and what stands for them -/
theorem srtD_ok {G : Gv} {θ : List Addr} {H : Hp} {xs : List D} {vs : List V} {kz : List PyData} (r : RDs G θ H xs vs) (hl : kz.length = xs.length) : RDs G θ H (srtD xs kz) (srtK vs kz) := by
  have hn : kz.length = vs.length := hl.trans r.length
  -- both are images of one sorted list
  have e1 : xs.zip kz = ((xs.zip vs).zip kz).map fun t => (t.1.1, t.2) := by
    apply List.ext_getElem
    · simp [r.length]
    · intro i h1 h2; simp
  have e2 : vs.zip kz = ((xs.zip vs).zip kz).map fun t => (t.1.2, t.2) := by
    apply List.ext_getElem
    · simp [r.length]
    · intro i h1 h2; simp
  have m1 : (xs.zip kz).mergeSort (PySem.W.dataLe false (·.2)) = (((xs.zip vs).zip kz).mergeSort (PySem.W.dataLe false (·.2))).map fun t => (t.1.1, t.2) := by
    rw [e1]
    refine (List.map_mergeSort fun a _ b _ => ?_).symm
    rfl
  have m2 : (vs.zip kz).mergeSort (PySem.W.dataLe false (·.2)) = (((xs.zip vs).zip kz).mergeSort (PySem.W.dataLe false (·.2))).map fun t => (t.1.2, t.2) := by
    rw [e2]
    refine (List.map_mergeSort fun a _ b _ => ?_).symm
    rfl
  unfold srtD srtK
  rw [m1, m2, List.map_map, List.map_map]
  have each : ∀ t ∈ ((xs.zip vs).zip kz).mergeSort (PySem.W.dataLe false (·.2)), RD G θ H t.1.1 t.1.2 := by
    intro t ht
    have h1 := (List.mergeSort_perm _ _).mem_iff.mp ht
    obtain ⟨⟨x, v⟩, k⟩ := t
    have h2 : (x, v) ∈ xs.zip vs := (List.of_mem_zip h1).1
    obtain ⟨i, hi, e⟩ := List.getElem_of_mem h2
    have hx : (xs.zip vs)[i]? = some (x, v) := by rw [List.getElem?_eq_getElem hi, e]
    rw [List.getElem?_zip_eq_some] at hx
    obtain ⟨u, h3, h4⟩ := r.get hx.1
    rw [hx.2] at h3
    cases h3
    exact h4
  generalize ((xs.zip vs).zip kz).mergeSort (PySem.W.dataLe false (·.2)) = l at each
  induction l with
  | nil => exact .nil
  | cons t l ih => exact .cons (each t List.mem_cons_self) (ih fun u hu => each u (List.mem_cons_of_mem _ hu))
abbrev rSortK (X : Cx) (fa : Addr) : List V → List V → Hp → VK → Prop := fun vs zs H Q => ∃ (l : Addr) (xs : List V) (J : Nat → List V → Hp → Prop), vs = [.ref l] ∧ zs = [.ref fa] ∧ (SqL X.K H l xs ∨ SqT X.K H l xs) ∧ J 0 [] H ∧
    (∀ (i : Nat) (x : V) (ks : List V) (H1 : Hp) (σ : St) (ps : List (Addr × Obj)) (s1 : Shared) (u : Value), xs[i]? = some x → J i ks H1 → Inv X ps σ H1 s1 → RelV x u →
      wpAny (model X.prog X.w) X.A.in1.in1 (call (.ref fa) [u]) (fun r s2 => ∃ k H2, Inv X ps σ H2 s2 ∧ RelV k r ∧ J (i + 1) (ks ++ [k]) H2) (fun _ _ => False) s1) ∧
    (∀ (ks : List V) (H1 : Hp), J xs.length ks H1 → ∃ kz, DpAll X.K H1 ks kz ∧ kz.length = xs.length ∧ PySem.W.AllAlike kz ∧ PySem.W.Sortable kz ∧ (∀ d ∈ kz, X.A.in1.in1.units + d.depth < cLine) ∧ ∀ p, H1 p = none → Q (.ref p) (upd H1 p (.lst (srtK xs kz))))
theorem call_sortK (fa : Addr) : CallRK X (.builtin "sorted") [Str.ofString "key"] (rSortK X fa) := by
  intro pins s σ H vs zs us ws Q I r rz h
  obtain ⟨l, xs, J, rfl, rfl, hs, h0, turn, done⟩ := h
  obtain ⟨u, rfl, rfl⟩ := vals1 r
  obtain ⟨w, rfl, rfl⟩ := vals1 rz
  exact sortK_run I hs J h0 (fun i x ks H1 ps s1 u => turn i x ks H1 σ ps s1 u) done
theorem de_sortK {k : Nat} {f : Addr} {fd : FuncData} {ps : List Str} {x : Str} {p p2 p3 : Pos} {e : Expr} {G0 : Gv} {m : Fm} {a : M (List D)} (hB : B.G.K = G0.K ∧ B.G.fa = G0.fa ∧ B.G.ca = G0.ca ∧ B.G.cn = G0.cn) (hK : B.G.K = X.K) (FO : FnG X.prog X.w X.K X.mg X.base k f fd ps (spD G0 1 m)) (hr : Room (k + 2) X.A) (gd : X.A.guards = some [])
    (hg : Gl X "sorted") (hm : X.mg "sorted" = none) (hgf : Gl X x) (hmf : X.mg x = some (.ref f)) (hb : Binds X.K fd ps []) (ha : PA X [e] (rdA B a)) (hdb : (x == ("__debug__" : Str)) = false := by decide)
    (he : backTo pos (starEach [e] X.env) = (false, eval e X.env) :: backTo pos (starEach [] X.env) := by rfl) (hpl : (backTo pos (starEach [e] X.env)).any (·.1) = false := by rfl)
    (hall : (backToKw pos (keywordEach [⟨some "key", .Name x p3, p2⟩] X.env)).all (·.1.isSome) = true := by rfl) (hnone : (backToKw pos (keywordEach [⟨some "key", .Name x p3, p2⟩] X.env)).any (·.1.isNone) = false := by rfl)
    (hks : (backToKw pos (keywordEach [⟨some "key", .Name x p3, p2⟩] X.env)).filterMap (·.1) = [Str.ofString "key"] := by rfl) : PE X (.Call (.Name "sorted" p) [e] [⟨some "key", .Name x p3, p2⟩] pos) (rdE B (mSortK m a)) := by
  refine PE.imp (pe_callBK (call_sortK f) hg hm (by decide +kernel) ha (pk_cons (pe_glob (v := .ref f) hgf hmf rfl hdb) pk_nil) (by decide) (by decide) he hpl hall hnone hks) fun σ H Q ⟨ρ, S, θ, R0, rs, f0⟩ => ?_
  refine ⟨ρ, S, θ, R0, rs, Fin.bind f0 fun ds S1 θ1 H1 vs _ e1 R1 r1 f1 => ?_⟩
  show rSortK X f vs [.ref f] H1 Q
  cases q : one1 ds with
  | none => rw [q] at f1; exact f1.elim
  | some d =>
    rw [q] at f1
    have ed := one1_ok q
    subst ed
    obtain ⟨v, rfl, r2⟩ := rds1 r1
    dsimp only at f1
    cases q1 : getSeq d S1 with
    | none => rw [q1] at f1; exact f1.elim
    | some xs =>
      rw [q1] at f1
      obtain ⟨l, ws, rfl, k1, k2⟩ := getSeq_ok R1 r2 q1
      rw [hK] at k1
      refine ⟨l, ws, fun i ks H2 => ∃ θ2 S2 kds, i ≤ xs.length ∧ Ext θ1 H1 θ2 H2 ∧ Rel B.G B.F θ2 S2 H2 ∧ RDs B.G θ2 H2 kds ks ∧ Fin B (RD B.G) σ θ2 H2 ((keysD m (xs.drop i) S2).noexc.bind fun ks2 S3 => sortKD xs (kds ++ ks2) S3) Q,
        rfl, rfl, k1, ⟨θ1, S1, [], Nat.zero_le _, .refl, R1, .nil, f1⟩, ?_, ?_⟩
      · rintro i x2 ks H2 σ2 pins s2 u hx ⟨θ2, S2, kds, hi, e2, R2, rk, f2⟩ I2 ru
        obtain ⟨dx, hdx, rdx⟩ := k2.getV hx
        have hlt : i < xs.length := (List.getElem?_eq_some_iff.mp hdx).1
        have ed : xs.drop i = dx :: xs.drop (i + 1) := by
          rw [List.drop_eq_getElem_cons hlt]
          congr 1
          exact (List.getElem?_eq_some_iff.mp hdx).2
        rw [ed] at f2
        have f3 : Fin ⟨B.G, B.F, fun _ _ _ _ => False⟩ (RD B.G) σ2 θ2 H2 (callD m [dx] S2) fun k H3 => ∃ θ3 S3 kds3, i + 1 ≤ xs.length ∧ Ext θ1 H1 θ3 H3 ∧ Rel B.G B.F θ3 S3 H3 ∧ RDs B.G θ3 H3 kds3 (ks ++ [k]) ∧ Fin B (RD B.G) σ θ3 H3 ((keysD m (xs.drop (i + 1)) S3).noexc.bind fun ks2 S4 => sortKD xs (kds3 ++ ks2) S4) Q := by
          cases qc : callD m [dx] S2 with
          | bad =>
            have : keysD m (dx :: xs.drop (i + 1)) S2 = .bad := by unfold keysD; rw [qc]; rfl
            rw [this] at f2; exact f2.elim
          | exc x3 S3 =>
            have : keysD m (dx :: xs.drop (i + 1)) S2 = .exc x3 S3 := by unfold keysD; rw [qc]; rfl
            rw [this] at f2; exact f2.elim
          | ok kd S3 =>
            have : keysD m (dx :: xs.drop (i + 1)) S2 = (keysD m (xs.drop (i + 1)) S3).bind fun ks S4 => .ok (kd :: ks) S4 := by
              conv => lhs; unfold keysD
              rw [qc]; rfl
            rw [this] at f2
            intro θ3 H3 k e3 R3 r3
            refine ⟨θ3, S3, kds ++ [kd], hlt, e2.trans e3, R3, (rk.ext e3).append (.cons r3 .nil), ?_⟩
            have f4 := f2.ext e3
            cases qk : keysD m (xs.drop (i + 1)) S3 with
            | bad => rw [qk] at f4; exact f4.elim
            | exc => rw [qk] at f4; exact f4.elim
            | ok ks2 S4 =>
              rw [qk] at f4
              have f5 : Fin B (RD B.G) σ θ3 H3 (sortKD xs (kds ++ kd :: ks2) S4) Q := f4
              show Fin B (RD B.G) σ θ3 H3 (sortKD xs (kds ++ [kd] ++ ks2) S4) Q
              rw [List.append_assoc]
              exact f5
        have sp := call_sp (G := B.G) (F := B.F) (W := fun _ _ _ _ => False) (σ := σ2) (n := 1) hB.1 hB.2.1 hB.2.2.1 hB.2.2.2 R2 (.cons (rdx.ext e2) .nil : RDs B.G θ2 H2 [dx] [x2]) rfl f3
        have rr : Room k X.A.in1.in1 := hr.in1.in1
        have hbb := hb s2 [u] I2.kIn (FO.len _ _ _ _ sp)
        rw [List.append_nil] at hbb
        refine wpAny_call (codeAny_mono (FO.run X.A.in1.in1 X.stack s2 H2 ⟨[u], []⟩ [u] [x2] _ _ rr gd I2.env0.in1.in1 hbb (.cons ru .nil) sp) fun res s3 hq => ?_)
        match res, hq with
        | .error e, hq =>
          obtain ⟨_, _, _, _, _, _, _, _, _, _, _, _, z⟩ := hq
          exact z.elim
        | .ok (.ret u), hq =>
          obtain ⟨k, H3, I3, rk3, h3⟩ := I2.after hq
          exact ⟨k, H3, I3, rk3, h3⟩
      · rintro ks H2 ⟨θ2, S2, kds, hi, e2, R2, rk, f2⟩
        have ed : xs.drop ws.length = [] := by rw [← k2.length]; exact List.drop_length
        rw [ed] at f2
        replace f2 : Fin B (RD B.G) σ θ2 H2 (sortKD xs (kds ++ []) S2) Q := f2
        rw [List.append_nil] at f2
        unfold sortKD at f2
        cases q3 : kds.mapM (toPy 20 S2) with
        | none => rw [q3] at f2; exact f2.elim
        | some kz =>
          rw [q3] at f2
          obtain ⟨c, f3⟩ := Fin.ite (c := (okK kz && (kz.length == xs.length)) = true) f2
          rw [Bool.and_eq_true] at c
          obtain ⟨c1, c2, c3⟩ := okK_ok c.1
          have hl : kz.length = xs.length := by simpa using c.2
          refine ⟨kz, ?_, hl.trans k2.length, c1, c2, fun d hd => ?_, fun p hp => Fin.ok f3 (ext_cell hp) (R2.alloc hp (srtD_ok (k2.ext e2) hl)) (RD.new R2)⟩
          · rw [← hK]; exact dpAll_of (F := B.F) (toPy_dp R2 20) kds ks kz rk q3
          · have h1 := c3 d hd
            have h2 := hr.in1.in1.un
            omega

def dcEnd (n : Nat) (kd y : D) (S : Store) (k : Store → R D) : R D := match S[n]?, keyD kd with
  | some (.dct kvs), some kk => if kvs.length < 16777216 then k (S.set n (.dct (putKD kvs kk y))) else .bad
  | _, _ => .bad
def dcN (nx : Nx) (g : TM) (ek ev : M D) (ρ : Env) (n : Nat) : Nat → Nat → Store → R D
  | 0, _, _ => .bad
  | m + 1, i, S => match nx i S with
    | some (some d) => (g d ρ S).noexc.bind fun ρ1 S1 => (ek ρ1 S1).noexc.bind fun kd S2 => (ev ρ1 S2).noexc.bind fun y S3 => dcEnd n kd y S3 (dcN nx g ek ev ρ n m (i + 1))
    | some none => .ok (.ref n) S
    | none => .bad
def mDc (it : M Nx) (g : TM) (ek ev : M D) (vs : List Nat) : M D := fun ρ S => (it ρ S).bind fun nx S1 => dcN nx g ek ev (wipeE ρ vs) S1.length fuel 0 (S1 ++ [.dct []])
theorem dc_read {it : M Nx} {g : TM} {ek ev : M D} {vs : List Nat} (σ : St) (H : Hp) (Q : VK) (h : rdE B (mDc it g ek ev vs) σ H Q) :
    tDc (rdI B it) (rdG B.blk (· ∈ vs) g) (rdT B.blk mYes) (rdE B.blk ek) (rdE B.blk ev) vs σ H Q := by
  obtain ⟨ρ, S, θ, R0, rs, f⟩ := h
  refine ⟨ρ, S, θ, R0, rs, Fin.bind f fun nx S1 θ1 H1 J _ e1 R1 r1 f1 => fun Da hD => ?_⟩
  have e2 : Ext θ1 H1 (θ1 ++ [Da]) (upd H1 Da (.dK [])) := ext_cell hD
  have R2 : Rel B.G B.F (θ1 ++ [Da]) (S1 ++ [.dct []]) (upd H1 Da (.dK [])) := R1.allocC hD ⟨[], upd_same, .nil⟩
  have rsw : RS B.G (θ1 ++ [Da]) (upd H1 Da (.dK [])) (wipeE ρ vs) (wipe σ vs) := (((rs.ext e1).ext e2).wipe vs)
  have aD : (θ1 ++ [Da])[S1.length]? = some Da := by rw [← R1.len, List.getElem?_concat_length]
  refine ⟨fun i m H' => ∃ S θ, Ext (θ1 ++ [Da]) (upd H1 Da (.dK [])) θ H' ∧ Rel B.G B.F θ S H' ∧ Fin B (RD B.G) σ θ H' (dcN nx g ek ev (wipeE ρ vs) S1.length m i S) Q,
    ⟨fuel, _, _, .refl, R2, f1.ext e2⟩, ?_⟩
  rintro i m H' ⟨S, θ, e3, R3, f3⟩
  cases m with
  | zero => exact f3.elim
  | succ m =>
    have ri := (r1.ext e2) i θ S H' e3 R3
    have rs3 := rsw.ext e3
    have f3' : Fin B (RD B.G) σ θ H' (match nx i S with
      | some (some d) => (g d (wipeE ρ vs) S).noexc.bind fun ρ1 S1' => (ek ρ1 S1').noexc.bind fun kd S2 => (ev ρ1 S2).noexc.bind fun y S3 => dcEnd S1.length kd y S3 (dcN nx g ek ev (wipeE ρ vs) S1.length m (i + 1))
      | some none => .ok (.ref S1.length) S
      | none => .bad) Q := f3
    cases q : nx i S with
    | none => rw [q] at f3'; exact f3'.elim
    | some o =>
      cases o with
      | none =>
        rw [q] at f3'
        replace f3' : Fin B (RD B.G) σ θ H' (.ok (.ref S1.length) S) Q := f3'
        exact .inl ⟨ri.1 q, Fin.ok f3' .refl R3 (.ref (e3.get aD))⟩
      | some d =>
        rw [q] at f3'
        replace f3' : Fin B (RD B.G) σ θ H' ((g d (wipeE ρ vs) S).noexc.bind fun ρ1 S1' => (ek ρ1 S1').noexc.bind fun kd S2 => (ev ρ1 S2).noexc.bind fun y S3 => dcEnd S1.length kd y S3 (dcN nx g ek ev (wipeE ρ vs) S1.length m (i + 1))) Q := f3'
        obtain ⟨go, yl⟩ := ri.2 d q
        refine .inr ⟨go, fun H' => ∃ S θ, Ext (θ1 ++ [Da]) (upd H1 Da (.dK [])) θ H' ∧ Rel B.G B.F θ S H' ∧ Fin B (RD B.G) σ θ H' (dcN nx g ek ev (wipeE ρ vs) S1.length m (i + 1) S) Q, fun H' h => ⟨m, Nat.lt_succ_self _, h⟩, fun x H4 hy => ?_⟩
        obtain ⟨e4, R4, r4⟩ := yl x H4 hy
        refine ⟨wipeE ρ vs, S, θ, d, R4, rs3.ext e4, r4, Fin.toBlk (B := B) (σ := σ) (Fin.bind (f3'.ext e4) fun ρ5 S5 θ5 H5 σ5 _ e5 R5 rs5 f5 => ?_)⟩
        refine ⟨(wipe_agr rs5.2).trans (wipe_agr Agr.wiped), ρ5, S5, θ5, R5, rs5.1, ?_⟩
        intro θ6 H6 b e6 R6 r6
        subst r6
        rw [if_pos rfl]
        refine ⟨ρ5, S5, θ6, R6, rs5.1.ext e6, Fin.toBlk (B := B) (σ := σ) (Fin.bind (f5.ext e6) fun kd S7 θ7 H7 v _ e7 R7 r7 f7 => ?_)⟩
        refine ⟨ρ5, S7, θ7, R7, (rs5.1.ext e6).ext e7, Fin.toBlk (B := B) (σ := σ) (Fin.bind f7 fun y S8 θ8 H8 v2 _ e8 R8 r8 f8 => ?_)⟩
        unfold dcEnd at f8
        have e38 := ((((e3.trans e4).trans e5).trans e6).trans e7).trans e8
        cases q7 : S8[S1.length]? with
        | none => rw [q7] at f8; exact f8.elim
        | some c =>
          cases c with
          | lst _ => rw [q7] at f8; exact f8.elim
          | rev _ _ => rw [q7] at f8; exact f8.elim
          | dct kvs =>
            rw [q7] at f8
            cases q8 : keyD kd with
            | none => rw [q8] at f8; exact f8.elim
            | some kk =>
              rw [q8] at f8
              obtain ⟨hi, f9⟩ := Fin.ite (c := kvs.length < 16777216) f8
              have hDa := e38.get aD
              obtain ⟨es, g1, g2⟩ := R8.cells _ _ _ hDa q7
              refine ⟨es, kk, keyD_ok r7 q8, g1, by rw [← g2.length]; exact hi, ?_⟩
              have w := R8.writeC (o := .dK (putK es kk v2)) (c1 := .dct (putKD kvs kk y)) hDa q7 fun e => ⟨_, upd_same, (g2.put r8).ext e⟩
              exact ⟨_, θ8, e38.trans w.1, w.2, f9.ext w.1⟩
theorem de_dc {kx vx tg iter : Expr} {scope : Scope} {own : List (Str × Nat)} {it : M Nx} {g : TM} {ek ev : M D} (hc : X.calm = true) (hN : X.N.Nodup) (hi : PI X tg iter (rdI B it)) (ok : BlkOk X.N X.env.scope scope own)
    (hg : ∀ s H C cl fp, PG (X.blk s H scope (compEnvC scope cl C X.env) fp) tg (rdG B.blk (· ∈ own.map (·.2)) g))
    (hk : ∀ s H C cl fp, PE (X.blk s H scope (compEnvC scope cl C X.env) fp) kx (rdE B.blk ek)) (he : ∀ s H C cl fp, PE (X.blk s H scope (compEnvC scope cl C X.env) fp) vx (rdE B.blk ev)) (hs : ∀ x, foldedSetIterable iter X.env x = pure x := by intro _; rfl) :
    PE X (.DictComp kx vx [⟨tg, iter, [], 0⟩] scope pos) (rdE B (mDc it g ek ev (own.map (·.2)))) :=
  PE.imp (pe_dc hc hN hi ok hg (fun _ _ _ _ _ => dts_nil) hk he hs) dc_read
end
end DM

namespace DM
open PySem PySem.Spec L2
theorem mulD_i {i j : Int} {S : Store} (h : i.natAbs.log2 + j.natAbs.log2 < 1000000) : mulD (.int i) (.int j) S = .ok (.int (i * j)) S := by
  show (if mulC i j = true then R.ok (D.int (i * j)) S else .bad) = _
  have hc : mulC i j = true := decide_eq_true h
  rw [if_pos hc]
theorem addD_i {i j : Int} {S : Store} : addD (.int i) (.int j) S = .ok (.int (i + j)) S := rfl
theorem log2_lt {n k : Nat} (h : n < 2 ^ k) (hk : 0 < k) : n.log2 < k := by
  by_cases h0 : n = 0
  · subst h0; simpa using hk
  · exact (Nat.log2_lt h0).mpr h
theorem mulD_b {i j : Int} {S : Store} (h : i.natAbs < 2 ^ 1000) (h2 : j.natAbs < 2 ^ 1000) : mulD (.int i) (.int j) S = .ok (.int (i * j)) S := by
  have h1 := log2_lt h (by decide)
  have h2 := log2_lt h2 (by decide)
  exact mulD_i (by omega)

theorem argsA_clean {S : Store} {is : List Nat} : ∀ {ds : List D}, cleanAll ds = true → argsA S is ds = some (ds, is)
  | [], _ => rfl
  | d :: ds, h => by
    rw [cleanAll, Bool.and_eq_true] at h
    have e : argA S is d = some (d, is) := by
      cases d with
      | ref n => cases h.1
      | _ => exact (if_pos h.1 : (if cleanD _ = true then some (_, is) else none) = _)
    show (match argA S is d with
      | none => none
      | some p => match argsA S p.2 ds with
        | none => none
        | some q => some (p.1 :: q.1, q.2)) = some (d :: ds, is)
    rw [e]
    show (match argsA S is ds with
        | none => none
        | some q => some (d :: q.1, q.2)) = some (d :: ds, is)
    rw [argsA_clean h.2]
theorem passArgs_clean {S : Store} {ds : List D} (h : cleanAll ds = true) : passArgs S ds = some (ds, []) := by
  unfold passArgs
  rw [argsA_clean h]
theorem back_pure {is : List Nat} {S S1 S2 : Store} {d : D} (hd : pureD d = true) (hp : putBack is.length S1.length S1 is 0 S = some S2) : back is S (.ok d S1) = .ok d S2 := by
  have go : backP is S S1 d = .ok d S2 := by
    unfold backP
    rw [hp]
    show (match retD is.length S1.length S1 d with | some d' => R.ok d' S2 | none => .bad) = _
    unfold retD
    rw [if_pos hd]
  cases d with
  | ref j => cases hd
  | _ => exact go
theorem callD_val {m : Fm} {S S1 : Store} {ds : List D} {d : D} (hc : cleanAll ds = true) (h : m ds [] = .ok d S1) (hd : pureD d = true) : callD m ds S = .ok d S := by
  unfold callD
  rw [passArgs_clean hc]
  show back [] S (m ds []) = _
  rw [h]
  exact back_pure hd rfl
theorem callD_new {m : Fm} {S S1 : Store} {ds es : List D} {j : Nat} (hc : cleanAll ds = true) (h : m ds [] = .ok (.ref j) S1) (h1 : S1[j]? = some (.lst es)) (hp : pureAll es = true) : callD m ds S = .ok (.ref S.length) (S ++ [.lst es]) := by
  unfold callD
  rw [passArgs_clean hc]
  show back [] S (m ds []) = _
  rw [h]
  show backN [] S S1 j = _
  unfold backN
  show (match S1[j]? with
    | some (.lst es) => match retAll 0 j S1 es with
      | some es' => R.ok (D.ref S.length) (S ++ [C.lst es'])
      | none => .bad
    | _ => .bad) = _
  rw [h1]
  show (match retAll 0 j S1 es with
      | some es' => R.ok (D.ref S.length) (S ++ [C.lst es'])
      | none => .bad) = _
  unfold retAll
  rw [if_pos hp]
theorem cellOk_of {S : Store} {k : Nat} {es : List D} (hS : S[k]? = some (.lst es)) (he : cleanAll es = true) : cellOk S k = true := by
  unfold cellOk
  rw [hS]
  exact he
theorem passArgs_ref {S : Store} {k : Nat} {es ds : List D} (hS : S[k]? = some (.lst es)) (he : cleanAll es = true) (hc : cleanAll ds = true) : passArgs S (.ref k :: ds) = some (.ref 0 :: ds, [k]) := by
  have h0 : argA S [] (D.ref k) = some (D.ref 0, [k]) := by
    show (if cellOk S k = true then (match ixOf k [] 0 with
      | some j => some (D.ref j, [])
      | none => some (D.ref ([] : List Nat).length, [] ++ [k])) else none) = _
    rw [if_pos (cellOk_of hS he)]
    rfl
  unfold passArgs
  have e : argsA S [] (.ref k :: ds) = some (.ref 0 :: ds, [k]) := by
    show (match argA S [] (D.ref k) with
      | none => none
      | some p => match argsA S p.2 ds with
        | none => none
        | some q => some (p.1 :: q.1, q.2)) = some (D.ref 0 :: ds, [k])
    rw [h0]
    show (match argsA S [k] ds with
        | none => none
        | some q => some (D.ref 0 :: q.1, q.2)) = some (D.ref 0 :: ds, [k])
    rw [argsA_clean hc]
  rw [e]
theorem putBack1 {S S1 : Store} {k av : Nat} {es : List D} (h1 : S1[0]? = some (.lst es)) (hp : pureAll es = true) : putBack 1 av S1 [k] 0 S = some (S.set k (.lst es)) := by
  show (match S1[0]? with
    | some (.lst es) => match retAll 1 av S1 es with
      | some es' => some (S.set k (.lst es'))
      | none => none
    | _ => none) = _
  rw [h1]
  show (match retAll 1 av S1 es with
      | some es' => some (S.set k (.lst es'))
      | none => none) = _
  unfold retAll
  rw [if_pos hp]
/-- a call with one cell, handed on first -/
theorem callD_ref {m : Fm} {S S1 : Store} {k : Nat} {es es' ds : List D} {d : D} (hS : S[k]? = some (.lst es)) (he : cleanAll es = true) (hc : cleanAll ds = true) (h : m (.ref 0 :: ds) [.lst es] = .ok d S1) (h1 : S1[0]? = some (.lst es')) (hp : pureAll es' = true) (hd : pureD d = true) :
    callD m (.ref k :: ds) S = .ok d (S.set k (.lst es')) := by
  unfold callD
  rw [passArgs_ref hS he hc]
  have e : cellsOf S [k] = [.lst es] := by
    show [(S[k]?).getD (.lst [])] = _
    rw [hS]; rfl
  show back [k] S (m (.ref 0 :: ds) (cellsOf S [k])) = _
  rw [e, h]
  exact back_pure hd (putBack1 h1 hp)

theorem forN_ok {nx : Nx} {g : TM} {b : SM} {n : Nat} (I : Nat → Env → Store → Prop) (hs : ∀ i ρ S, i < n → I i ρ S → ∃ d ρ1 S1 ρ2 S2, nx i S = some (some d) ∧ g d ρ S = .ok ρ1 S1 ∧ b ρ1 S1 = .nx ρ2 S2 ∧ I (i + 1) ρ2 S2) (he : ∀ ρ S, I n ρ S → nx n S = some none) :
    ∀ m i ρ S, i ≤ n → n < i + m → I i ρ S → ∃ ρ' S', sForN nx g b m i ρ S = .nx ρ' S' ∧ I n ρ' S'
  | 0, i, ρ, S, h1, h2, _ => by omega
  | m + 1, i, ρ, S, h1, h2, h => by
    by_cases hi : i = n
    · subst hi
      refine ⟨ρ, S, ?_, h⟩
      unfold sForN
      rw [he ρ S h]
    · obtain ⟨d, ρ1, S1, ρ2, S2, e1, e2, e3, h'⟩ := hs i ρ S (by omega) h
      obtain ⟨ρ', S', e4, h4⟩ := forN_ok I hs he m (i + 1) ρ2 S2 (by omega) (by omega) h'
      refine ⟨ρ', S', ?_, h4⟩
      unfold sForN
      rw [e1]
      show (g d ρ S).noexc.toS ρ (fun ρ1 S1 => (b ρ1 S1).turn (sForN nx g b m (i + 1))) = _
      rw [e2]
      show (b ρ1 S1).turn (sForN nx g b m (i + 1)) = _
      rw [e3]
      exact e4
theorem sFor_ok {it : M Nx} {nx : Nx} {g : TM} {b : SM} {n : Nat} {ρ : Env} {S S0 : Store} (I : Nat → Env → Store → Prop) (hi : it ρ S0 = .ok nx S) (hn : n < fuel) (h0 : I 0 ρ S)
    (hs : ∀ i ρ S, i < n → I i ρ S → ∃ d ρ1 S1 ρ2 S2, nx i S = some (some d) ∧ g d ρ S = .ok ρ1 S1 ∧ b ρ1 S1 = .nx ρ2 S2 ∧ I (i + 1) ρ2 S2) (he : ∀ ρ S, I n ρ S → nx n S = some none) : ∃ ρ' S', sFor it g b ρ S0 = .nx ρ' S' ∧ I n ρ' S' := by
  obtain ⟨ρ', S', e, h⟩ := forN_ok I hs he fuel 0 ρ S (Nat.zero_le _) (by omega) h0
  refine ⟨ρ', S', ?_, h⟩
  unfold sFor
  rw [hi]
  exact e
theorem nxRng_lt {lo c : Int} {n i : Nat} {S : Store} (h : i < n) : nxRng lo c n i S = some (some (.int (lo + i * c))) := by
  show some (if i < n then some (D.int (lo + i * c)) else none) = _
  rw [if_pos h]
theorem nxRng_end {lo c : Int} {n : Nat} {S : Store} : nxRng lo c n n S = some none := by
  show some (if n < n then some (D.int (lo + n * c)) else none) = _
  rw [if_neg (Nat.lt_irrefl _)]
/-- comprehensions: I tells what has been made (the last first) and the store -/
theorem lcN_ok {nx : Nx} {g : TM} {t : M Bool} {e : M D} {ρ : Env} {n k : Nat} (hn : n < 16777216) (I : Nat → List D → Store → Prop)
    (hs : ∀ i acc S z, i < n → S.length = k → I i acc S → ∃ d ρ1 b, nx i (S ++ [z]) = some (some d) ∧ g d ρ (S ++ [z]) = .ok ρ1 (S ++ [z]) ∧ t ρ1 (S ++ [z]) = .ok b (S ++ [z]) ∧ (b = true → ∃ y S1, S1.length = k ∧ e ρ1 (S ++ [z]) = .ok y (S1 ++ [z]) ∧ I (i + 1) (y :: acc) S1) ∧ (b = false → I (i + 1) acc S))
    (he : ∀ acc S z, I n acc S → nx n (S ++ [z]) = some none) : ∀ m i acc c S, i ≤ n → n < i + m → c ≤ i → S.length = k → I i acc S → ∃ acc' S', lcN nx g t e ρ k m i (S ++ [.rev acc c]) = .ok (.ref k) (S' ++ [.lst acc'.reverse]) ∧ S'.length = k ∧ I n acc' S'
  | 0, i, acc, c, S, h1, h2, _, _, _ => by omega
  | m + 1, i, acc, c, S, h1, h2, h3, h4, h => by
    have hk : ∀ (S : Store) (z : C), S.length = k → (S ++ [z])[k]? = some z := fun S z h => by rw [← h, List.getElem?_concat_length]
    have hset : ∀ (S : Store) (z w : C), S.length = k → (S ++ [z]).set k w = S ++ [w] := fun S z w h => by
      rw [List.set_append]
      rw [if_neg (by omega), h, Nat.sub_self]
      rfl
    by_cases hi : i = n
    · subst hi
      refine ⟨acc, S, ?_, h4, h⟩
      unfold lcN
      rw [he acc S _ h]
      show lcDone k (S ++ [C.rev acc c]) = _
      unfold lcDone
      rw [hk S _ h4]
      show R.ok (D.ref k) ((S ++ [C.rev acc c]).set k (.lst acc.reverse)) = _
      rw [hset S _ _ h4]
    · obtain ⟨d, ρ1, b, e1, e2, e3, hy, hn'⟩ := hs i acc S (C.rev acc c) (by omega) h4 h
      unfold lcN
      rw [e1]
      show ∃ (acc' : List D) (S' : Store), (g d ρ (S ++ [.rev acc c])).noexc.bind (fun ρ1 S1 => (t ρ1 S1).noexc.bind fun k' S2 =>
        if k' then (e ρ1 S2).noexc.bind fun y S3 => lcEnd k y S3 (lcN nx g t e ρ k m (i + 1)) else lcN nx g t e ρ k m (i + 1) S2) = .ok (.ref k) (S' ++ [.lst acc'.reverse]) ∧ _
      rw [e2]
      show ∃ (acc' : List D) (S' : Store), (t ρ1 (S ++ [C.rev acc c])).noexc.bind (fun k' S2 =>
        if k' then (e ρ1 S2).noexc.bind fun y S3 => lcEnd k y S3 (lcN nx g t e ρ k m (i + 1)) else lcN nx g t e ρ k m (i + 1) S2) = .ok (.ref k) (S' ++ [.lst acc'.reverse]) ∧ _
      rw [e3]
      cases b with
      | true =>
        obtain ⟨y, S1, l1, e4, h'⟩ := hy rfl
        show ∃ (acc' : List D) (S' : Store), (e ρ1 (S ++ [C.rev acc c])).noexc.bind (fun y S3 => lcEnd k y S3 (lcN nx g t e ρ k m (i + 1))) = .ok (.ref k) (S' ++ [.lst acc'.reverse]) ∧ _
        rw [e4]
        show ∃ (acc' : List D) (S' : Store), lcEnd k y (S1 ++ [C.rev acc c]) (lcN nx g t e ρ k m (i + 1)) = .ok (.ref k) (S' ++ [.lst acc'.reverse]) ∧ _
        unfold lcEnd
        rw [hk S1 _ l1]
        show ∃ (acc' : List D) (S' : Store), (if c < 16777216 then lcN nx g t e ρ k m (i + 1) ((S1 ++ [C.rev acc c]).set k (.rev (y :: acc) (c + 1))) else .bad) = .ok (.ref k) (S' ++ [.lst acc'.reverse]) ∧ _
        rw [if_pos (by omega), hset S1 _ _ l1]
        exact lcN_ok hn I hs he m (i + 1) (y :: acc) (c + 1) S1 (by omega) (by omega) (by omega) l1 h'
      | false => exact lcN_ok hn I hs he m (i + 1) acc c S (by omega) (by omega) (by omega) h4 (hn' rfl)
theorem mLc_ok {it : M Nx} {nx : Nx} {g : TM} {t : M Bool} {e : M D} {vs : List Nat} {ρ : Env} {n : Nat} {S S0 : Store} (hn : n < 16777216) (I : Nat → List D → Store → Prop) (hi : it ρ S0 = .ok nx S) (h0 : I 0 [] S)
    (hs : ∀ i acc S1 z, i < n → S1.length = S.length → I i acc S1 → ∃ d ρ1 b, nx i (S1 ++ [z]) = some (some d) ∧ g d (wipeE ρ vs) (S1 ++ [z]) = .ok ρ1 (S1 ++ [z]) ∧ t ρ1 (S1 ++ [z]) = .ok b (S1 ++ [z]) ∧ (b = true → ∃ y S2, S2.length = S.length ∧ e ρ1 (S1 ++ [z]) = .ok y (S2 ++ [z]) ∧ I (i + 1) (y :: acc) S2) ∧ (b = false → I (i + 1) acc S1))
    (he : ∀ acc S1 z, I n acc S1 → nx n (S1 ++ [z]) = some none) : ∃ acc' S', mLc it g t e vs ρ S0 = .ok (.ref S.length) (S' ++ [.lst acc'.reverse]) ∧ S'.length = S.length ∧ I n acc' S' := by
  obtain ⟨acc', S', e1, h1, h2⟩ := lcN_ok hn I hs he fuel 0 [] 0 S (Nat.zero_le _) (by unfold fuel; omega) (Nat.le_refl _) rfl h0
  refine ⟨acc', S', ?_, h1, h2⟩
  unfold mLc
  rw [hi]
  exact e1
/-- .. where nothing else changes -/
theorem mLc_pure {it : M Nx} {nx : Nx} {g : TM} {t : M Bool} {e : M D} {vs : List Nat} {ρ : Env} {n : Nat} {S S0 : Store} (x f : Nat → D) (p : Nat → Bool) (ρ1 : Nat → Env) (hn : n < 16777216) (hi : it ρ S0 = .ok nx S)
    (hs : ∀ i z, i < n → nx i (S ++ [z]) = some (some (x i)) ∧ g (x i) (wipeE ρ vs) (S ++ [z]) = .ok (ρ1 i) (S ++ [z]) ∧ t (ρ1 i) (S ++ [z]) = .ok (p i) (S ++ [z]) ∧ (p i = true → e (ρ1 i) (S ++ [z]) = .ok (f i) (S ++ [z])))
    (he : ∀ z, nx n (S ++ [z]) = some none) : mLc it g t e vs ρ S0 = .ok (.ref S.length) (S ++ [.lst (((List.range n).filter p).map f)]) := by
  obtain ⟨acc', S', e1, h1, h2, h3⟩ := mLc_ok (it := it) (g := g) (t := t) (e := e) (vs := vs) (ρ := ρ) (S0 := S0) hn (fun i acc S1 => S1 = S ∧ acc.reverse = ((List.range i).filter p).map f) hi ⟨rfl, rfl⟩
    (fun i acc S1 z hi9 hl ⟨e0, ha⟩ => by
      subst e0
      obtain ⟨a1, a2, a3, a4⟩ := hs i z hi9
      refine ⟨x i, ρ1 i, p i, a1, a2, a3, fun hp => ⟨f i, S1, rfl, a4 hp, rfl, ?_⟩, fun hp => ⟨rfl, ?_⟩⟩
      · rw [List.reverse_cons, ha, List.range_succ, List.filter_append, List.map_append]
        simp [hp]
      · rw [ha, List.range_succ, List.filter_append, List.map_append]
        simp [hp]) (fun acc S1 z ⟨e0, _⟩ => by subst e0; exact he z)
  rw [e1, h2, h3]
/-- keys of items -/
theorem keysD_ok {m : Fm} {f : D → D} {S : Store} : ∀ {ds : List D}, (∀ d ∈ ds, callD m [d] S = .ok (f d) S) → keysD m ds S = .ok (ds.map f) S
  | [], _ => rfl
  | d :: ds, h => by
    unfold keysD
    rw [h d List.mem_cons_self]
    show (keysD m ds S).bind (fun ks S2 => .ok (f d :: ks) S2) = _
    rw [keysD_ok fun e he => h e (List.mem_cons_of_mem _ he)]
    rfl
theorem ixN_get {n i : Nat} (h : i < n) : ixN n (i : Int) = some i := by
  unfold ixN
  simp [h]
theorem atI_get {α : Type} {l : List α} {i : Nat} {d : α} (h : l[i]? = some d) : atI l (i : Int) = some d := by
  unfold atI
  rw [ixN_get (List.getElem?_eq_some_iff.mp h).1]
  exact h

section
variable {ρ ρ1 : Env} {S S1 S2 : Store}
theorem defM_rt {k : Nat} {b : SM} {ds : List D} {d : D} (h : b (ds.map some ++ List.replicate k none) S = .rt d S1) : defM k b ds S = .ok d S1 := by
  unfold defM; rw [h]
theorem defM_nx {k : Nat} {b : SM} {ds : List D} (h : b (ds.map some ++ List.replicate k none) S = .nx ρ1 S1) : defM k b ds S = .ok .non S1 := by
  unfold defM; rw [h]
theorem sSeq_nx {a b : SM} {r : SR} (h : a ρ S = .nx ρ1 S1) (k : b ρ1 S1 = r) : sSeq a b ρ S = r := by
  unfold sSeq; rw [h]; exact k
theorem sSeq_rt {a b : SM} {d : D} (h : a ρ S = .rt d S1) : sSeq a b ρ S = .rt d S1 := by
  unfold sSeq; rw [h]; rfl
theorem sSet_ok {i : Nat} {a : M D} {d : D} (h : a ρ S = .ok d S1) : sSet i a ρ S = .nx (ρ.set i (some d)) S1 := by
  unfold sSet; rw [h]; rfl
theorem sRet_ok {a : M D} {d : D} (h : a ρ S = .ok d S1) : sRet a ρ S = .rt d S1 := by
  unfold sRet; rw [h]; rfl
theorem sExpr_ok {a : M D} {d : D} (h : a ρ S = .ok d S1) : sExpr a ρ S = .nx ρ S1 := by
  unfold sExpr; rw [h]; rfl
theorem sIf_t {c : M Bool} {a b : SM} {r : SR} (h : c ρ S = .ok true S1) (k : a ρ S1 = r) : sIf c a b ρ S = r := by
  unfold sIf; rw [h]; exact k
theorem sIf_f {c : M Bool} {a b : SM} {r : SR} (h : c ρ S = .ok false S1) (k : b ρ S1 = r) : sIf c a b ρ S = r := by
  unfold sIf; rw [h]; exact k
theorem sPar_ok {i j : Nat} {a : M (List D)} {d e : D} (h : a ρ S = .ok [d, e] S1) : sPar i j a ρ S = .nx ((ρ.set i (some d)).set j (some e)) S1 := by
  unfold sPar; rw [h]; rfl
theorem sAsg_ok {a : M D} {g : TM} {d : D} (h : a ρ S = .ok d S1) (k : g d ρ S1 = .ok ρ1 S2) : sAsg a g ρ S = .nx ρ1 S2 := by
  unfold sAsg; rw [h]
  show (g d ρ S1).noexc.toS ρ _ = _
  rw [k]; rfl
theorem mBin_ok {o : O2} {a b : M D} {x y : D} {r : R D} (h1 : a ρ S = .ok x S1) (h2 : b ρ S1 = .ok y S2) (h3 : o x y S2 = r) : mBin o a b ρ S = r := by
  unfold mBin; rw [h1]
  show (b ρ S1).bind _ = _
  rw [h2]; exact h3
theorem mUn_ok {o : O1} {a : M D} {x : D} {r : R D} (h1 : a ρ S = .ok x S1) (h3 : o x S1 = r) : mUn o a ρ S = r := by
  unfold mUn; rw [h1]; exact h3
theorem mCons_ok {a : M D} {b : M (List D)} {x : D} {xs : List D} (h1 : a ρ S = .ok x S1) (h2 : b ρ S1 = .ok xs S2) : mCons a b ρ S = .ok (x :: xs) S2 := by
  unfold mCons; rw [h1]
  show (b ρ S1).bind _ = _
  rw [h2]; rfl
theorem mBlt_ok {o : Ob} {a : M (List D)} {xs : List D} {r : R D} (h1 : a ρ S = .ok xs S1) (h2 : o xs S1 = r) : mBlt o a ρ S = r := by
  unfold mBlt; rw [h1]; exact h2
theorem mCall_ok {m : Fm} {a : M (List D)} {xs : List D} {r : R D} (h1 : a ρ S = .ok xs S1) (h2 : callD m xs S1 = r) : mCall m a ρ S = r := by
  unfold mCall; rw [h1]; exact h2
theorem mTest_ok {a : M D} {b : Bool} (h : a ρ S = .ok (.bl b) S1) : mTest a ρ S = .ok b S1 := by
  unfold mTest; rw [h]; rfl
theorem mNotT_ok {a : M Bool} {b : Bool} (h : a ρ S = .ok b S1) : mNotT a ρ S = .ok (!b) S1 := by
  unfold mNotT; rw [h]; rfl
theorem mOrT_ok {a b : M Bool} {x y : Bool} (h1 : a ρ S = .ok x S) (h2 : b ρ S = .ok y S) : mOrT a b ρ S = .ok (x || y) S := by
  unfold mOrT; rw [h1]
  cases x with
  | true => rfl
  | false => exact h2
theorem mAndT_ok {a b : M Bool} {x y : Bool} (h1 : a ρ S = .ok x S) (h2 : b ρ S = .ok y S) : mAndT a b ρ S = .ok (x && y) S := by
  unfold mAndT; rw [h1]
  cases x with
  | true => exact h2
  | false => rfl
theorem mIf_t {c : M Bool} {a b : M D} {r : R D} (h : c ρ S = .ok true S1) (k : a ρ S1 = r) : mIf c a b ρ S = r := by
  unfold mIf; rw [h]; exact k
theorem mIf_f {c : M Bool} {a b : M D} {r : R D} (h : c ρ S = .ok false S1) (k : b ρ S1 = r) : mIf c a b ρ S = r := by
  unfold mIf; rw [h]; exact k
theorem mTup_ok {a : M (List D)} {xs : List D} (h : a ρ S = .ok xs S1) (hl : xs.length ≤ sizeLine) : mTup a ρ S = .ok (.tup xs) S1 := by
  unfold mTup; rw [h]
  show tupD xs S1 = _
  unfold tupD; rw [if_pos hl]
theorem mLst_ok {a : M (List D)} {xs : List D} (h : a ρ S = .ok xs S1) (hl : xs.length ≤ sizeLine) : mLst a ρ S = .ok (.ref S1.length) (S1 ++ [.lst xs]) := by
  unfold mLst; rw [h]
  show lstD xs S1 = _
  unfold lstD; rw [if_pos hl]
theorem while_t {c : M Bool} {b : SM} {m : Nat} {r : SR} {ρ2 : Env} (h1 : c ρ S = .ok true S1) (h2 : b ρ S1 = .nx ρ2 S2) (h3 : sWhileN c b m ρ2 S2 = r) : sWhileN c b (m + 1) ρ S = r := by
  unfold sWhileN; rw [h1]
  show (b ρ S1).turn _ = _
  rw [h2]; exact h3
theorem while_f {c : M Bool} {b : SM} {m : Nat} (h1 : c ρ S = .ok false S1) : sWhileN c b (m + 1) ρ S = .nx ρ S1 := by
  unfold sWhileN; rw [h1]; rfl
end
end DM

namespace DM
open PySem PySem.Spec L2
theorem back_new {is : List Nat} {S S1 S2 : Store} {j : Nat} {gs : List D} (hj : is.length ≤ j) (h1 : S1[j]? = some (.lst gs)) (hg : pureAll gs = true) (hp : putBack is.length j S1 is 0 S = some S2) : back is S (.ok (.ref j) S1) = .ok (.ref S2.length) (S2 ++ [.lst gs]) := by
  have go : backN is S S1 j = .ok (.ref S2.length) (S2 ++ [.lst gs]) := by
    unfold backN
    rw [hp]
    show (match S1[j]? with
      | some (.lst es) => match retAll is.length j S1 es with
        | some es' => R.ok (D.ref S2.length) (S2 ++ [C.lst es'])
        | none => .bad
      | _ => .bad) = _
    rw [h1]
    show (match retAll is.length j S1 gs with
        | some es' => R.ok (D.ref S2.length) (S2 ++ [C.lst es'])
        | none => .bad) = _
    unfold retAll
    rw [if_pos hg]
  show (if j < is.length then backO is S S1 j else backN is S S1 j) = _
  rw [if_neg (by omega)]
  exact go
theorem callD_refn {m : Fm} {S S1 : Store} {k j : Nat} {es es' gs ds : List D} (hS : S[k]? = some (.lst es)) (he : cleanAll es = true) (hc : cleanAll ds = true) (h : m (.ref 0 :: ds) [.lst es] = .ok (.ref j) S1) (hj : 1 ≤ j) (h1 : S1[0]? = some (.lst es')) (hp : pureAll es' = true) (h2 : S1[j]? = some (.lst gs)) (hg : pureAll gs = true) :
    callD m (.ref k :: ds) S = .ok (.ref S.length) (S.set k (.lst es') ++ [.lst gs]) := by
  unfold callD
  rw [passArgs_ref hS he hc]
  have e : cellsOf S [k] = [.lst es] := by
    show [(S[k]?).getD (.lst [])] = _
    rw [hS]; rfl
  show back [k] S (m (.ref 0 :: ds) (cellsOf S [k])) = _
  rw [e, h]
  have z := back_new (is := [k]) (S := S) hj h2 hg (putBack1 h1 hp)
  rw [List.length_set] at z
  exact z
theorem passArgs_ref2 {S : Store} {k k2 : Nat} {es fs : List D} (hS : S[k]? = some (.lst es)) (he : cleanAll es = true) (hT : S[k2]? = some (.lst fs)) (hf : cleanAll fs = true) (hk : k2 ≠ k) : passArgs S [.ref k, .ref k2] = some ([.ref 0, .ref 1], [k, k2]) := by
  have h0 : argA S [] (D.ref k) = some (D.ref 0, [k]) := by
    show (if cellOk S k = true then (match ixOf k [] 0 with
      | some j => some (D.ref j, [])
      | none => some (D.ref ([] : List Nat).length, [] ++ [k])) else none) = _
    rw [if_pos (cellOk_of hS he)]
    rfl
  have h1 : argA S [k] (D.ref k2) = some (D.ref 1, [k, k2]) := by
    show (if cellOk S k2 = true then (match ixOf k2 [k] 0 with
      | some j => some (D.ref j, [k])
      | none => some (D.ref [k].length, [k] ++ [k2])) else none) = _
    rw [if_pos (cellOk_of hT hf)]
    have : ixOf k2 [k] 0 = none := by
      show (if k2 = k then some 0 else ixOf k2 [] 1) = none
      rw [if_neg hk]; rfl
    rw [this]
    rfl
  unfold passArgs
  have e : argsA S [] [.ref k, .ref k2] = some ([.ref 0, .ref 1], [k, k2]) := by
    show (match argA S [] (D.ref k) with
      | none => none
      | some p => match argsA S p.2 [.ref k2] with
        | none => none
        | some q => some (p.1 :: q.1, q.2)) = some ([D.ref 0, D.ref 1], [k, k2])
    rw [h0]
    show (match (match argA S [k] (D.ref k2) with
      | none => none
      | some p => match argsA S p.2 [] with
        | none => none
        | some q => some (p.1 :: q.1, q.2)) with
        | none => none
        | some q => some (D.ref 0 :: q.1, q.2)) = some ([D.ref 0, D.ref 1], [k, k2])
    rw [h1]
    rfl
  rw [e]
theorem putBack2 {S S1 : Store} {k k2 av : Nat} {es fs : List D} (h1 : S1[0]? = some (.lst es)) (hp : pureAll es = true) (h2 : S1[1]? = some (.lst fs)) (hq : pureAll fs = true) : putBack 2 av S1 [k, k2] 0 S = some ((S.set k (.lst es)).set k2 (.lst fs)) := by
  have r1 : retAll 2 av S1 es = some es := by unfold retAll; rw [if_pos hp]
  have r2 : retAll 2 av S1 fs = some fs := by unfold retAll; rw [if_pos hq]
  show (match S1[0]? with
    | some (C.lst es) => match retAll 2 av S1 es with
      | some es' => (match S1[1]? with
        | some (C.lst fs) => match retAll 2 av S1 fs with
          | some fs' => some ((S.set k (C.lst es')).set k2 (C.lst fs'))
          | none => none
        | _ => none)
      | none => none
    | _ => none) = _
  rw [h1]
  dsimp only
  rw [r1]
  dsimp only
  rw [h2]
  dsimp only
  rw [r2]
theorem callD_ref2 {m : Fm} {S S1 : Store} {k k2 : Nat} {es es' fs fs' : List D} {d : D} (hS : S[k]? = some (.lst es)) (he : cleanAll es = true) (hT : S[k2]? = some (.lst fs)) (hf : cleanAll fs = true) (hk : k2 ≠ k) (h : m [.ref 0, .ref 1] [.lst es, .lst fs] = .ok d S1)
    (h1 : S1[0]? = some (.lst es')) (hp : pureAll es' = true) (h2 : S1[1]? = some (.lst fs')) (hq : pureAll fs' = true) (hd : pureD d = true) : callD m [.ref k, .ref k2] S = .ok d ((S.set k (.lst es')).set k2 (.lst fs')) := by
  unfold callD
  rw [passArgs_ref2 hS he hT hf hk]
  have e : cellsOf S [k, k2] = [.lst es, .lst fs] := by
    show [(S[k]?).getD (.lst []), (S[k2]?).getD (.lst [])] = _
    rw [hS, hT]; rfl
  show back [k, k2] S (m [.ref 0, .ref 1] (cellsOf S [k, k2])) = _
  rw [e, h]
  exact back_pure hd (putBack2 h1 hp h2 hq)
theorem callD_ref2n {m : Fm} {S S1 : Store} {k k2 j : Nat} {es es' fs fs' gs : List D} (hS : S[k]? = some (.lst es)) (he : cleanAll es = true) (hT : S[k2]? = some (.lst fs)) (hf : cleanAll fs = true) (hk : k2 ≠ k) (h : m [.ref 0, .ref 1] [.lst es, .lst fs] = .ok (.ref j) S1) (hj : 2 ≤ j)
    (h1 : S1[0]? = some (.lst es')) (hp : pureAll es' = true) (h2 : S1[1]? = some (.lst fs')) (hq : pureAll fs' = true) (h3 : S1[j]? = some (.lst gs)) (hg : pureAll gs = true) : callD m [.ref k, .ref k2] S = .ok (.ref S.length) ((S.set k (.lst es')).set k2 (.lst fs') ++ [.lst gs]) := by
  unfold callD
  rw [passArgs_ref2 hS he hT hf hk]
  have e : cellsOf S [k, k2] = [.lst es, .lst fs] := by
    show [(S[k]?).getD (.lst []), (S[k2]?).getD (.lst [])] = _
    rw [hS, hT]; rfl
  show back [k, k2] S (m [.ref 0, .ref 1] (cellsOf S [k, k2])) = _
  rw [e, h]
  have z := back_new (is := [k, k2]) (S := S) hj h3 hg (putBack2 h1 hp h2 hq)
  rw [List.length_set, List.length_set] at z
  exact z

theorem dcN_ok {nx : Nx} {g : TM} {ek ev : M D} {ρ : Env} {n : Nat} {S : Store} (hn : n < 16777216) (I : Nat → List (Key × D) → Prop)
    (hs : ∀ i z kvs, i < n → I i kvs → ∃ d ρ1 kd kk y, nx i (S ++ [z]) = some (some d) ∧ g d ρ (S ++ [z]) = .ok ρ1 (S ++ [z]) ∧ ek ρ1 (S ++ [z]) = .ok kd (S ++ [z]) ∧ keyD kd = some kk ∧ ev ρ1 (S ++ [z]) = .ok y (S ++ [z]) ∧ I (i + 1) (putKD kvs kk y)) (hl : ∀ i kvs, I i kvs → kvs.length ≤ i)
    (he : ∀ z, nx n (S ++ [z]) = some none) : ∀ m i kvs, i ≤ n → n < i + m → I i kvs → ∃ kvs', dcN nx g ek ev ρ S.length m i (S ++ [.dct kvs]) = .ok (.ref S.length) (S ++ [.dct kvs']) ∧ I n kvs'
  | 0, i, kvs, h1, h2, _ => by omega
  | m + 1, i, kvs, h1, h2, h => by
    by_cases hi : i = n
    · subst hi
      refine ⟨kvs, ?_, h⟩
      unfold dcN
      rw [he]
    · obtain ⟨d, ρ1, kd, kk, y, e1, e2, e3, e4, e5, h'⟩ := hs i (.dct kvs) kvs (by omega) h
      obtain ⟨kvs', e6, h6⟩ := dcN_ok hn I hs hl he m (i + 1) _ (by omega) (by omega) h'
      refine ⟨kvs', ?_, h6⟩
      unfold dcN
      rw [e1]
      show (g d ρ (S ++ [C.dct kvs])).noexc.bind (fun ρ1 S1 => (ek ρ1 S1).noexc.bind fun kd S2 => (ev ρ1 S2).noexc.bind fun y S3 => dcEnd S.length kd y S3 (dcN nx g ek ev ρ S.length m (i + 1))) = _
      rw [e2]
      show (ek ρ1 (S ++ [C.dct kvs])).noexc.bind (fun kd S2 => (ev ρ1 S2).noexc.bind fun y S3 => dcEnd S.length kd y S3 (dcN nx g ek ev ρ S.length m (i + 1))) = _
      rw [e3]
      show (ev ρ1 (S ++ [C.dct kvs])).noexc.bind (fun y S3 => dcEnd S.length kd y S3 (dcN nx g ek ev ρ S.length m (i + 1))) = _
      rw [e5]
      show dcEnd S.length kd y (S ++ [C.dct kvs]) (dcN nx g ek ev ρ S.length m (i + 1)) = _
      unfold dcEnd
      rw [List.getElem?_concat_length, e4]
      show (if kvs.length < 16777216 then dcN nx g ek ev ρ S.length m (i + 1) ((S ++ [C.dct kvs]).set S.length (.dct (putKD kvs kk y))) else .bad) = _
      have := hl i kvs h
      rw [if_pos (by omega), List.set_append, if_neg (Nat.lt_irrefl _), Nat.sub_self]
      exact e6
theorem mDc_ok {it : M Nx} {nx : Nx} {g : TM} {ek ev : M D} {vs : List Nat} {ρ : Env} {n : Nat} {S S0 : Store} (hn : n < 16777216) (I : Nat → List (Key × D) → Prop) (hi : it ρ S0 = .ok nx S) (h0 : I 0 [])
    (hs : ∀ i z kvs, i < n → I i kvs → ∃ d ρ1 kd kk y, nx i (S ++ [z]) = some (some d) ∧ g d (wipeE ρ vs) (S ++ [z]) = .ok ρ1 (S ++ [z]) ∧ ek ρ1 (S ++ [z]) = .ok kd (S ++ [z]) ∧ keyD kd = some kk ∧ ev ρ1 (S ++ [z]) = .ok y (S ++ [z]) ∧ I (i + 1) (putKD kvs kk y)) (hl : ∀ i kvs, I i kvs → kvs.length ≤ i)
    (he : ∀ z, nx n (S ++ [z]) = some none) : ∃ kvs, mDc it g ek ev vs ρ S0 = .ok (.ref S.length) (S ++ [.dct kvs]) ∧ I n kvs := by
  obtain ⟨kvs, e, h⟩ := dcN_ok hn I hs hl he fuel 0 [] (Nat.zero_le _) (by unfold fuel; omega) h0
  refine ⟨kvs, ?_, h⟩
  unfold mDc
  rw [hi]
  exact e
/-- the keys of a dict are these whole numbers -/
def KI (kvs : List (Key × D)) (ks : List Int) : Prop := kvs.map (·.1) = ks.map Sum.inl
theorem KI.any {n : Int} : ∀ {kvs : List (Key × D)} {ks : List Int}, KI kvs ks → (kvs.any fun kv => decide (kv.1 = Sum.inl n)) = decide (n ∈ ks)
  | [], [], _ => rfl
  | [], _ :: _, h => by cases h
  | _ :: _, [], h => by cases h
  | p :: r, k :: ks, h => by
    have h' : p.1 :: r.map (·.1) = Sum.inl k :: ks.map Sum.inl := h
    injection h' with h1 h2
    rw [List.any_cons, KI.any (n := n) (show KI r ks from h2), h1]
    by_cases e : k = n
    · subst e; simp
    · have e1 : ¬ n = k := fun z => e z.symm
      simp [e, e1]
theorem KI.put {n : Int} {d : D} {kvs : List (Key × D)} {ks : List Int} (h : KI kvs ks) : KI (putKD kvs (.inl n) d) (if n ∈ ks then ks else ks ++ [n]) := by
  unfold putKD
  rw [h.any]
  by_cases e : n ∈ ks
  · rw [if_pos (decide_eq_true e), if_pos e]
    have : ∀ kvs : List (Key × D), (kvs.map fun (kv : Key × D) => if kv.1 = (Sum.inl n : Key) then (kv.1, d) else kv).map (fun (kv : Key × D) => kv.1) = kvs.map (fun (kv : Key × D) => kv.1) := fun kvs => by
      rw [List.map_map]
      refine List.map_congr_left fun kv _ => ?_
      show (if kv.1 = (Sum.inl n : Key) then (kv.1, d) else kv).1 = kv.1
      split <;> rfl
    exact (this kvs).trans h
  · rw [if_neg (fun z => e (of_decide_eq_true z)), if_neg e]
    show (kvs ++ [((Sum.inl n : Key), d)]).map (fun (kv : Key × D) => kv.1) = (ks ++ [n]).map Sum.inl
    rw [List.map_append, List.map_append]
    have h' : kvs.map (fun (kv : Key × D) => kv.1) = ks.map Sum.inl := h
    rw [h']
    rfl
theorem KI.ints : ∀ {kvs : List (Key × D)} {ks : List Int}, KI kvs ks → kvs.mapM intK = some ks
  | [], [], _ => rfl
  | [], _ :: _, h => by cases h
  | _ :: _, [], h => by cases h
  | (k0, d) :: r, k :: ks, h => by
    have h' : k0 :: r.map (·.1) = Sum.inl k :: ks.map Sum.inl := h
    injection h' with h1 h2
    subst h1
    rw [List.mapM_cons]
    have e : intK (Sum.inl k, d) = some k := rfl
    rw [e, KI.ints (show KI r ks from h2)]
    rfl
theorem KI.length {kvs : List (Key × D)} {ks : List Int} (h : KI kvs ks) : kvs.length = ks.length := by
  have := congrArg List.length h
  simpa using this

def pyT (l : List Int) : PyData := .tuple (l.map .int)
theorem toPy_ints {S : Store} {m : Nat} : ∀ l : List Int, (l.map D.int).mapM (toPy (m + 1) S) = some (l.map .int)
  | [] => rfl
  | n :: r => by
    rw [List.map_cons, List.mapM_cons]
    have e : toPy (m + 1) S (.int n) = some (.int n) := rfl
    rw [e, toPy_ints r]
    rfl
theorem toPy_tup {S : Store} {m : Nat} (l : List Int) : toPy (m + 2) S (.tup (l.map .int)) = some (pyT l) := by
  show ((l.map D.int).mapM (toPy (m + 1) S)).map PyData.tuple = _
  rw [toPy_ints]
  rfl
theorem toPy_keys {S : Store} {k : Int → List Int} : ∀ ns : List Int, (ns.map fun n => D.tup ((k n).map .int)).mapM (toPy 20 S) = some (ns.map fun n => pyT (k n))
  | [] => rfl
  | n :: r => by
    rw [List.map_cons, List.mapM_cons, toPy_tup (m := 18), toPy_keys r]
    rfl
theorem okK_ints {k : Int → List Int} (ns : List Int) (hk : ∀ n, k n ≠ []) : okK (ns.map fun n => pyT (k n)) = true := by
  unfold okK
  rw [Bool.and_eq_true, Bool.and_eq_true]
  refine ⟨⟨?_, ?_⟩, ?_⟩
  · rw [List.all_eq_true]
    intro d hd
    rw [List.all_eq_true]
    intro e he
    obtain ⟨a, _, rfl⟩ := List.mem_map.mp hd
    obtain ⟨b, _, rfl⟩ := List.mem_map.mp he
    show PySem.W.alikeAll ((k a).map .int) ((k b).map .int) = true
    exact PySem.W.alike_ints _ _
  · rw [Bool.or_eq_true]
    left
    rw [List.all_eq_true]
    intro d hd
    obtain ⟨a, _, rfl⟩ := List.mem_map.mp hd
    unfold pyT
    cases q : k a with
    | nil => exact absurd q (hk a)
    | cons x r => rfl
  · rw [List.all_eq_true]
    intro d hd
    obtain ⟨a, _, rfl⟩ := List.mem_map.mp hd
    refine decide_eq_true ?_
    unfold pyT
    rw [PyData.depth, PySem.W.depth_ints]
    decide
/-- the sorted whole numbers -/
def srtN (lt : Int → Int → Bool) (ns : List Int) : List Int := ns.mergeSort fun a b => !lt b a
theorem srtD_ints {k : Int → List Int} {lt : Int → Int → Bool} {ns : List Int} (h : ∀ a ∈ ns, ∀ b ∈ ns, PySem.W.dataLt (pyT (k a)) (pyT (k b)) = lt a b) : srtD (ns.map .int) (ns.map fun n => pyT (k n)) = (srtN lt ns).map .int := by
  unfold srtD srtN
  have e : (ns.map D.int).zip (ns.map fun n => pyT (k n)) = ns.map fun n => (D.int n, pyT (k n)) := by
    rw [List.zip_map']
  rw [e]
  have z := List.map_mergeSort (r := fun a b => !lt b a) (s := PySem.W.dataLe false (·.2)) (f := fun n : Int => (D.int n, pyT (k n))) (l := ns) (fun a ha b hb => by
    show (!lt b a) = !PySem.W.dataLt (pyT (k b)) (pyT (k a))
    rw [h b hb a ha])
  rw [← z, List.map_map]
  rfl
theorem sortKD_ints {k : Int → List Int} {lt : Int → Int → Bool} {ns : List Int} {S : Store} (hk : ∀ n, k n ≠ []) (h : ∀ a ∈ ns, ∀ b ∈ ns, PySem.W.dataLt (pyT (k a)) (pyT (k b)) = lt a b) :
    sortKD (ns.map .int) (ns.map fun n => D.tup ((k n).map .int)) S = .ok (.ref S.length) (S ++ [.lst ((srtN lt ns).map .int)]) := by
  unfold sortKD
  rw [toPy_keys]
  dsimp only
  rw [okK_ints ns hk, List.length_map, List.length_map, beq_self_eq_true, if_pos (by rfl), srtD_ints h]
theorem lt_lex : ∀ a b : List Int, decide (a < b) = HT.lexLt a b
  | [], [] => by simp [HT.lexLt]
  | [], _ :: _ => by simp [HT.lexLt]
  | _ :: _, [] => by simp [HT.lexLt]
  | x :: xs, y :: ys => by
    have ih := lt_lex xs ys
    by_cases e : x = y
    · subst e
      simp [HT.lexLt, ← ih]
    · simp [HT.lexLt, e, List.cons_lt_cons_iff]
theorem dataLt_pyT (a b : List Int) : PySem.W.dataLt (pyT a) (pyT b) = HT.lexLt a b := by
  unfold pyT
  rw [← lt_lex, ← PySem.W.dataLt_ints]
  rw [PySem.W.dataLt_tuple]
  rfl
theorem mSortK_ok {m : Fm} {a : M (List D)} {ρ : Env} {S S1 : Store} {d : D} {xs : List D} {f : D → D} {r : R D} (ha : a ρ S = .ok [d] S1) (hg : getSeq d S1 = some xs) (hk : ∀ x ∈ xs, callD m [x] S1 = .ok (f x) S1) (hs : sortKD xs (xs.map f) S1 = r) : mSortK m a ρ S = r := by
  unfold mSortK
  rw [ha]
  show (match one1 [d] with
    | some d => match getSeq d S1 with
      | some xs => (keysD m xs S1).noexc.bind fun ks S2 => sortKD xs ks S2
      | none => .bad
    | none => .bad) = _
  show (match getSeq d S1 with
      | some xs => (keysD m xs S1).noexc.bind fun ks S2 => sortKD xs ks S2
      | none => .bad) = _
  rw [hg]
  show (keysD m xs S1).noexc.bind (fun ks S2 => sortKD xs ks S2) = _
  rw [keysD_ok hk]
  exact hs
theorem mRng_ok {a : M (List D)} {ρ : Env} {S S1 : Store} {ds : List D} {r : R Nx} (h : a ρ S = .ok ds S1) (k : rngD ds S1 = r) : mRng a ρ S = r := by
  unfold mRng; rw [h]; exact k
theorem mIter_ok {a : M D} {ρ : Env} {S S1 : Store} {d : D} {r : R Nx} (h : a ρ S = .ok d S1) (k : iterD d S1 = r) : mIter a ρ S = r := by
  unfold mIter; rw [h]; exact k
theorem small_le {j : Int} (h : 0 ≤ j) (h2 : j ≤ 1000000000000) : small62 j = true := by
  unfold small62
  rw [Bool.and_eq_true]
  exact ⟨decide_eq_true (by omega), decide_eq_true (by omega)⟩
theorem rng_one {j : Nat} {S : Store} (h : j ≤ 1000000000000) : rngD [.int (j : Int)] S = .ok (nxRng 0 1 j) S := by
  show (if small62 (j : Int) = true then R.ok (nxRng 0 1 (j : Int).toNat) S else .bad) = _
  rw [if_pos (small_le (by omega) (by omega)), Int.toNat_natCast]
theorem rng_two {i j : Int} {S : Store} (h0 : 0 ≤ i) (h1 : i ≤ 1000000000000) (h2 : 0 ≤ j) (h : j ≤ 1000000000000) : rngD [.int i, .int j] S = .ok (nxRng i 1 (j - i).toNat) S := by
  show (if (small62 i && small62 j) = true then R.ok (nxRng i 1 (j - i).toNat) S else .bad) = _
  rw [if_pos (by rw [small_le h0 h1, small_le h2 h]; rfl)]
theorem pow2_le {i k : Nat} (h : i ≤ k) : 2 ^ i ≤ 2 ^ k := Nat.pow_le_pow_right (by decide) h
theorem mMth_ok {o : Om} {a : M D} {b : M (List D)} {ρ : Env} {S S1 S2 : Store} {x : D} {ys : List D} {r : R D} (h1 : a ρ S = .ok x S1) (hl : isL x S1 = true) (h2 : b ρ S1 = .ok ys S2) (h3 : o x ys S2 = r) : mMth o a b ρ S = r := by
  unfold mMth; rw [h1]
  show (if isL x S1 = true then (b ρ S1).bind fun ys S2 => o x ys S2 else .bad) = _
  rw [if_pos hl, h2]
  exact h3
theorem getM_ref {n : Nat} {S : Store} {ds : List D} (h : S[n]? = some (.lst ds)) : getM (.ref n) S = some (n, ds) := by
  show (match S[n]? with
    | some (.lst ds) => some (n, ds)
    | _ => none) = _
  rw [h]
theorem isL_ref {n : Nat} {S : Store} {ds : List D} (h : S[n]? = some (.lst ds)) : isL (.ref n) S = true := by
  show Option.isSome (match S[n]? with
    | some (.lst ds) => some ds
    | _ => none) = true
  rw [h]; rfl
theorem popAtD_ok {n k : Nat} {S : Store} {ds : List D} {y : D} (h : S[n]? = some (.lst ds)) (hy : ds[k]? = some y) (hl : ds.length ≤ 1000000000000) : popAtD (.ref n) [.int (k : Int)] S = .ok y (S.set n (.lst (ds.eraseIdx k))) := by
  have hk := (List.getElem?_eq_some_iff.mp hy).1
  have g1 : small63 (k : Int) = true := by
    unfold small63
    rw [Bool.and_eq_true]
    exact ⟨decide_eq_true (by omega), decide_eq_true (by omega)⟩
  have g2 : seqIndex? (k : Int) ds.length = some k := by
    unfold seqIndex?
    have : ¬ (k : Int) < 0 := by omega
    simp [this, hk]
  unfold popAtD
  rw [getM_ref h]
  dsimp only
  rw [if_pos g1, g2]
  dsimp only
  rw [hy]
theorem appendD_ok {n : Nat} {S : Store} {ds : List D} {y : D} (h : S[n]? = some (.lst ds)) (hl : ds.length < 16777216) : appendD (.ref n) [y] S = .ok .non (S.set n (.lst (ds ++ [y]))) := by
  unfold appendD
  rw [getM_ref h]
  dsimp only [one1]
  rw [if_pos hl]
theorem erase_map {α β : Type} (f : α → β) : ∀ (l : List α) (k : Nat), (l.map f).eraseIdx k = (l.eraseIdx k).map f
  | [], _ => rfl
  | _ :: _, 0 => rfl
  | a :: l, k + 1 => by
    show f a :: (l.map f).eraseIdx k = f a :: (l.eraseIdx k).map f
    rw [erase_map f l k]
theorem erase_perm {α : Type} {y : α} : ∀ {l : List α} {k : Nat}, l[k]? = some y → (y :: l.eraseIdx k).Perm l
  | [], k, h => by simp at h
  | a :: l, 0, h => by
    have e : a = y := by simpa using h
    subst e
    exact .refl _
  | a :: l, k + 1, h => by
    have ih := erase_perm (l := l) (k := k) (y := y) (by simpa using h)
    exact (List.Perm.swap a y _).trans (ih.cons a)
theorem lenD_ref {n : Nat} {S : Store} {ds : List D} (h : S[n]? = some (.lst ds)) : lenD [.ref n] S = .ok (.int ds.length) S := by
  have e : getSeq (.ref n) S = some ds := by
    show (match S[n]? with
      | some (.lst ds) => some ds
      | _ => none) = _
    rw [h]
  unfold lenD
  dsimp only
  rw [e]
end DM

namespace DM
open PySem PySem.Spec L2
open PyProof.Rows hiding St

section
variable {X : Cx} {B : Bv} {pos : Pos}
def ipC (C : Int → Int → Prop) (f : Int → Int → Int) : TIp := fun x y H Q => ∃ i j, x = .int i ∧ y = .int j ∧ C i j ∧ Q (.int (f i j)) H
theorem ip_mul : PIp X .Mult (ipC CMulW fun i j => i * j) := by
  intro pins s σ H x y v u Q I r1 r2 h
  obtain ⟨i, j, e1, e2, hc, q⟩ := h
  subst e1; subst e2
  obtain ⟨t, rfl⟩ := r1
  obtain ⟨t', rfl⟩ := r2
  exact PyProof.Rows.imul_int ⟨.int _, H, I.tok _, ⟨_, rfl⟩, q⟩ hc.ok
theorem ip_fdiv : PIp X .FloorDiv (ipC CDivW fun i j => i / j) := by
  intro pins s σ H x y v u Q I r1 r2 h
  obtain ⟨i, j, e1, e2, hc, q⟩ := h
  subst e1; subst e2
  obtain ⟨t, rfl⟩ := r1
  obtain ⟨t', rfl⟩ := r2
  have h1 : (0 : Int) < j := hc.1
  exact PyProof.Rows.ifloordiv_int (by omega) (by
    rw [Int.fdiv_eq_ediv_of_nonneg i (by omega)]
    exact ⟨.int _, H, I.tok _, ⟨_, rfl⟩, q⟩) (.inl (PyProof.noPylong_of_log2 hc.2))
theorem den_ipC {C : Int → Int → Bool} {C' : Int → Int → Prop} {g : Int → Int → Int} (h : ∀ i j, C i j = true → C' i j) : DenIp B (ipC C' g) (intD C g) := by
  intro σ θ S H d e x y Q R0 r1 r2 f
  cases d with
  | int i =>
    cases e with
    | int j =>
      cases r1; cases r2
      obtain ⟨hc, f⟩ := Fin.ite (c := C i j = true) f
      exact ⟨i, j, rfl, rfl, h _ _ hc, f.ok .refl R0 (.int _)⟩
    | _ => exact f.elim
  | _ => exact f.elim
def addI : O2
  | .int i, .int j, S => .ok (.int (i + j)) S
  | _, _, _ => .bad
theorem den_ipadd : DenIp B (ipI fun i j => i + j) addI := by
  intro σ θ S H d e x y Q R0 r1 r2 f
  cases d with
  | int i =>
    cases e with
    | int j => cases r1; cases r2; exact ⟨i, j, rfl, rfl, f.ok .refl R0 (.int _)⟩
    | _ => exact f.elim
  | _ => exact f.elim
theorem den_ipsub : DenIp B (ipI fun i j => i - j) subD := by
  intro σ θ S H d e x y Q R0 r1 r2 f
  cases d with
  | int i =>
    cases e with
    | int j => cases r1; cases r2; exact ⟨i, j, rfl, rfl, f.ok .refl R0 (.int _)⟩
    | _ => exact f.elim
  | _ => exact f.elim
abbrev mulI : O2 := intD mulC fun i j => i * j
theorem den_ipmul : DenIp B (ipC CMulW fun i j => i * j) mulI := den_ipC (C := mulC) fun i j h => (of_decide_eq_true h : i.natAbs.log2 + j.natAbs.log2 < 1000000)
theorem den_ipfdiv : DenIp B (ipC CDivW fun i j => i / j) fdivD := den_ipC fun i j h => by
  rw [fdivC, Bool.and_eq_true] at h
  exact ⟨of_decide_eq_true h.1, of_decide_eq_true h.2⟩

def rng3D (ds : List D) (S : Store) : R Nx := match ds with
  | [.int i, .int j, .int c] => if (decide (c ≠ 0) && decide (c.natAbs < 1073741824) && Builtin.Range.small i j c && decide (0 ≤ Builtin.Range.rangeSize i j c)) = true then .ok (nxRng i c (Builtin.Range.rangeSize i j c).toNat) S else .bad
  | _ => .bad

theorem ri_rngC {θ : List Addr} {H : Hp} {lo c : Int} {n : Nat} : RI B θ H (nxRng lo c n) (Itc lo c n) := by
  intro i θ' S' H' e R0
  refine ⟨fun q => ?_, fun d q => ?_⟩
  · have q' : (if i < n then some (D.int (lo + i * c)) else none) = none := Option.some.inj q
    by_cases h : i < n
    · rw [if_pos h] at q'; cases q'
    · exact Nat.le_of_not_lt h
  · have q' : (if i < n then some (D.int (lo + i * c)) else none) = some d := Option.some.inj q
    by_cases h : i < n
    · rw [if_pos h] at q'
      cases q'
      refine ⟨h, fun x H'' y => ?_⟩
      obtain ⟨rfl, rfl⟩ := y
      exact ⟨.refl, R0, .int _⟩
    · rw [if_neg h] at q'; cases q'
def mRng3 (a : M (List D)) : M Nx := fun ρ S => (a ρ S).bind rng3D
theorem di_rng3 {tg a b c : Expr} {ma : M (List D)} {p : Pos} (hg : Gl X "range") (hm : X.mg "range" = none) (ha : PA X [a, b, c] (rdA B ma)) (hs : starEach [a, b, c] X.env = (false, eval a X.env) :: starEach [b, c] X.env := by rfl) (hpl : (backTo pos (starEach [b, c] X.env)).any (·.1) = false := by rfl) :
    PI X tg (.Call (.Name "range" p) [a, b, c] [] pos) (rdI B (mRng3 ma)) :=
  PI.imp (pi_range3 hg hm ha hs hpl) fun σ H R ⟨ρ, S, θ, R0, rs, f⟩ => ⟨ρ, S, θ, R0, rs, Fin.bind f fun ds S1 θ1 H1 vs q e1 R1 r1 f1 => by
    unfold rng3D at f1
    split at f1
    · rename_i i j c
      obtain ⟨hc, f2⟩ := Fin.ite (c := (decide (c ≠ 0) && decide (c.natAbs < 1073741824) && Builtin.Range.small i j c && decide (0 ≤ Builtin.Range.rangeSize i j c)) = true) f1
      simp only [Bool.and_eq_true, decide_eq_true_eq] at hc
      obtain ⟨⟨⟨h1, h2⟩, h3⟩, h4⟩ := hc
      cases r1 with
      | cons x1 r1 =>
        cases r1 with
        | cons x2 r1 =>
          cases r1 with
          | cons x3 r1 =>
            cases r1
            cases x1; cases x2; cases x3
            exact ⟨i, j, c, _, rfl, ⟨h1, h2, h3, (Int.toNat_of_nonneg h4).symm⟩, Fin.ok f2 .refl R1 ri_rngC⟩
    · exact f1.elim⟩
def inC : C2 := fun d e S => match toPy 20 S d, toPy 20 S e with
  | some p, some (.list qs) => if SeqAt.shaped p && SeqAt.shaped (.list qs) then some (qs.any fun z => PyData.eqv z p) else none
  | some p, some (.tuple qs) => if SeqAt.shaped p && SeqAt.shaped (.tuple qs) then some (qs.any fun z => PyData.eqv z p) else none
  | _, _ => none
def notInC : C2 := fun d e S => (inC d e S).map (!·)
theorem inC_ok {G : Gv} {F : Fr0} {θ : List Addr} {S : Store} {H : Hp} (R0 : Rel G F θ S H) {d e : D} {x y : V} {b : Bool} (r1 : RD G θ H d x) (r2 : RD G θ H e y) (h : inC d e S = some b) :
    ∃ p qs, Dp G.K H x p ∧ SeqAt.shaped p = true ∧ b = (qs.any fun z => PyData.eqv z p) ∧ ((Dp G.K H y (.list qs) ∧ SeqAt.shaped (.list qs) = true) ∨ (Dp G.K H y (.tuple qs) ∧ SeqAt.shaped (.tuple qs) = true)) := by
  unfold inC at h
  cases q1 : toPy 20 S d with
  | none => rw [q1] at h; cases h
  | some p =>
    cases q2 : toPy 20 S e with
    | none => rw [q1, q2] at h; cases h
    | some q =>
      rw [q1, q2] at h
      have k1 := toPy_dp R0 _ _ _ _ r1 q1
      have k2 := toPy_dp R0 _ _ _ _ r2 q2
      cases q with
      | list qs =>
        replace h : (if (SeqAt.shaped p && SeqAt.shaped (.list qs)) = true then some (qs.any fun z => PyData.eqv z p) else none) = some b := h
        by_cases hc : (SeqAt.shaped p && SeqAt.shaped (.list qs)) = true
        · rw [if_pos hc] at h
          cases h
          rw [Bool.and_eq_true] at hc
          exact ⟨p, qs, k1, hc.1, rfl, .inl ⟨k2, hc.2⟩⟩
        · rw [if_neg hc] at h; cases h
      | tuple qs =>
        replace h : (if (SeqAt.shaped p && SeqAt.shaped (.tuple qs)) = true then some (qs.any fun z => PyData.eqv z p) else none) = some b := h
        by_cases hc : (SeqAt.shaped p && SeqAt.shaped (.tuple qs)) = true
        · rw [if_pos hc] at h
          cases h
          rw [Bool.and_eq_true] at hc
          exact ⟨p, qs, k1, hc.1, rfl, .inr ⟨k2, hc.2⟩⟩
        · rw [if_neg hc] at h; cases h
      | _ => cases h
def rInT (K : PySem.W.Frag) : R2 := fun x y H Q => ∃ d ds, Dp K H x d ∧ Dp K H y (.tuple ds) ∧ SeqAt.shaped d = true ∧ SeqAt.shaped (.tuple ds) = true ∧ Q (.bl (ds.any fun z => PyData.eqv z d)) H
def rNotInT (K : PySem.W.Frag) : R2 := fun x y H Q => ∃ d ds, Dp K H x d ∧ Dp K H y (.tuple ds) ∧ SeqAt.shaped d = true ∧ SeqAt.shaped (.tuple ds) = true ∧ Q (.bl (!ds.any fun z => PyData.eqv z d)) H
theorem op_inT (hu : X.A.units + 65 < cLine) : OpR X (compareOp .In) (rInT X.K) := by
  intro pins s σ H x y v u Q I rx ry h
  obtain ⟨d, ds, hd, he, sd, se, q⟩ := h
  obtain ⟨as, r1⟩ := Dp.reads I d x v hd rx
  obtain ⟨bs, r2⟩ := Dp.reads I (.tuple ds) y u he ry
  exact SeqAt.in_tuple_reads r2 r1 (SeqAt.canLay_of_shaped se) (SeqAt.canLay_of_shaped sd) (room_in_shaped sd hu) ⟨.bl _, H, I, rfl, q⟩
theorem op_notInT (hu : X.A.units + 65 < cLine) : OpR X (compareOp .NotIn) (rNotInT X.K) := by
  intro pins s σ H x y v u Q I rx ry h
  obtain ⟨d, ds, hd, he, sd, se, q⟩ := h
  obtain ⟨as, r1⟩ := Dp.reads I d x v hd rx
  obtain ⟨bs, r2⟩ := Dp.reads I (.tuple ds) y u he ry
  exact SeqAt.notIn_tuple_reads r2 r1 (SeqAt.canLay_of_shaped se) (SeqAt.canLay_of_shaped sd) (room_in_shaped sd hu) ⟨.bl _, H, I, rfl, q⟩
theorem opR_in (hu : X.A.units + 65 < cLine) : OpR X (compareOp .In) (fun x y H Q => rInD X.K x y H Q ∨ rInT X.K x y H Q) := (op_inD hu).or (op_inT hu)
theorem opR_notIn (hu : X.A.units + 65 < cLine) : OpR X (compareOp .NotIn) (fun x y H Q => rNotInD X.K x y H Q ∨ rNotInT X.K x y H Q) := (op_notInD hu).or (op_notInT hu)
theorem den_in (hK : B.G.K = X.K) : DenC B (fun x y H Q => rInD X.K x y H Q ∨ rInT X.K x y H Q) inC := by
  intro θ S H d e x y b Q R0 r1 r2 h q
  obtain ⟨p, qs, k1, k2, rfl, k3⟩ := inC_ok R0 r1 r2 h
  rw [hK] at k1 k3
  rcases k3 with ⟨k3, k4⟩ | ⟨k3, k4⟩
  · exact .inl ⟨p, qs, k1, k3, k2, k4, q⟩
  · exact .inr ⟨p, qs, k1, k3, k2, k4, q⟩
theorem den_notIn (hK : B.G.K = X.K) : DenC B (fun x y H Q => rNotInD X.K x y H Q ∨ rNotInT X.K x y H Q) notInC := by
  intro θ S H d e x y b Q R0 r1 r2 h q
  obtain ⟨b', h9, rfl⟩ := map_some h
  obtain ⟨p, qs, k1, k2, rfl, k3⟩ := inC_ok R0 r1 r2 h9
  rw [hK] at k1 k3
  rcases k3 with ⟨k3, k4⟩ | ⟨k3, k4⟩
  · exact .inl ⟨p, qs, k1, k3, k2, k4, q⟩
  · exact .inr ⟨p, qs, k1, k3, k2, k4, q⟩

def nxZip (xs ys : List D) : Nx := fun i _ => some (match xs[i]?, ys[i]? with
  | some x, some y => some (.pr [x, y])
  | _, _ => none)
def zipD (ds : List D) (S : Store) : R Nx := match ds with
  | [d, e] => match tupOf d, tupOf e with
    | some xs, some ys => .ok (nxZip xs ys) S
    | _, _ => .bad
  | _ => .bad
def mZip (a : M (List D)) : M Nx := fun ρ S => (a ρ S).bind zipD
theorem ri_zip {θ : List Addr} {H : Hp} {d1 d2 : D} {xs ys : List D} {a b : Addr} (hK : B.G.K = X.K) (r1 : RD B.G θ H d1 (.ref a)) (k1 : tupOf d1 = some xs) (r2 : RD B.G θ H d2 (.ref b)) (k2 : tupOf d2 = some ys) : RI B θ H (nxZip xs ys) (RZ.ItzT X.K a b) := by
  intro i θ' S' H' e R0
  obtain ⟨a', us, ea, h1, h2⟩ := tupOf_ok (r1.ext e) k1
  obtain ⟨b', ws, eb, h3, h4⟩ := tupOf_ok (r2.ext e) k2
  cases ea
  cases eb
  rw [hK] at h1 h3
  refine ⟨fun q => ⟨us, ws, h1, h3, ?_⟩, fun d q => ?_⟩
  · have q' : (match xs[i]?, ys[i]? with
      | some x, some y => some (D.pr [x, y])
      | _, _ => (none : Option D)) = none := Option.some.inj q
    rw [← h2.length, ← h4.length]
    cases q1 : xs[i]? with
    | none => exact .inl (List.getElem?_eq_none_iff.mp q1)
    | some x =>
      cases q2 : ys[i]? with
      | none => exact .inr (List.getElem?_eq_none_iff.mp q2)
      | some y => rw [q1, q2] at q'; cases q'
  · have q' : (match xs[i]?, ys[i]? with
      | some x, some y => some (D.pr [x, y])
      | _, _ => (none : Option D)) = some d := Option.some.inj q
    cases q1 : xs[i]? with
    | none => rw [q1] at q'; cases q'
    | some x =>
      cases q2 : ys[i]? with
      | none => rw [q1, q2] at q'; cases q'
      | some y =>
        rw [q1, q2] at q'
        have q9 : D.pr [x, y] = d := Option.some.inj q'
        subst q9
        obtain ⟨u, hu, ru⟩ := h2.get q1
        obtain ⟨w, hw, rw'⟩ := h4.get q2
        refine ⟨⟨us, ws, u, w, h1, h3, hu, hw⟩, fun v H'' hy => ?_⟩
        obtain ⟨T, u', w', rfl, hT, rfl, k1, k2⟩ := hy
        have e1 := k1 us h1
        have e2 := k2 ws h3
        rw [hu] at e1
        rw [hw] at e2
        cases e1
        cases e2
        have ex : Ext θ' H' θ' (upd H' T (.tup [u, w])) := .of_keep (keep_new hT)
        exact ⟨ex, R0.laid hT, .pr (.inl (.inl upd_same)) (.cons (ru.ext ex) (.cons (rw'.ext ex) .nil))⟩
theorem di_zip {e e2 : Expr} {elts : List Expr} {kk : Nat} {tpos : Pos} {ma : M (List D)} {p : Pos} (hK : B.G.K = X.K) (hg : Gl X "zip") (hm : X.mg "zip" = none) (ha : PA X [e, e2] (rdA B ma)) (hs : starEach [e, e2] X.env = (false, eval e X.env) :: starEach [e2] X.env := by rfl)
    (hpl : (backTo pos (starEach [e2] X.env)).any (·.1) = false := by rfl) : PI X (.Tuple elts kk tpos) (.Call (.Name "zip" p) [e, e2] [] pos) (rdI B (mZip ma)) :=
  PI.imp (RZ.pi_zipA hg hm ha hs hpl) fun σ H R ⟨ρ, S, θ, R0, rs, f⟩ => ⟨ρ, S, θ, R0, rs, Fin.bind f fun ds S1 θ1 H1 vs q e1 R1 r1 f1 => by
    unfold zipD at f1
    split at f1
    · rename_i d d2
      cases q1 : tupOf d with
      | none => rw [q1] at f1; exact f1.elim
      | some xs =>
        cases q2 : tupOf d2 with
        | none => rw [q1, q2] at f1; exact f1.elim
        | some ys =>
          rw [q1, q2] at f1
          obtain ⟨v, w, rfl, k1, k2⟩ := rds2 r1
          obtain ⟨a, us, rfl, h1, h2⟩ := tupOf_ok k1 q1
          obtain ⟨b, ws, rfl, h3, h4⟩ := tupOf_ok k2 q2
          rw [hK] at h1 h3
          exact ⟨a, b, us, ws, rfl, .inr ⟨h1, h3, Fin.ok f1 .refl R1 (ri_zip hK k1 q1 k2 q2)⟩⟩
    · exact f1.elim⟩

abbrev rSortD (X : Cx) : List V → Hp → VK → Prop := fun vs H Q => ∃ (l : Addr) (xs : List V) (kz : List PyData), vs = [.ref l] ∧ SqL X.K H l xs ∧ DpAll X.K H xs kz ∧ PySem.W.AllAlike kz ∧ PySem.W.Sortable kz ∧ (∀ d ∈ kz, X.A.units + 2 + d.depth < cLine) ∧
  ∀ p, H p = none → Q (.ref p) (upd H p (.lst (srtK xs kz)))
theorem dpAll_len {K : PySem.W.Frag} {H : Hp} : ∀ {xs : List V} {kz : List PyData}, DpAll K H xs kz → kz.length = xs.length
  | _, _, .nil => rfl
  | _, _, .cons _ t => congrArg (· + 1) (dpAll_len t)
theorem each_zip2 {R : Value → PyData → Prop} : ∀ {us : List Value} {xs : List V} {kz : List PyData}, PySem.W.EachIs R us kz → xs.length = kz.length → PySem.W.EachIs (fun v (b : V × PyData) => R v b.2) us (xs.zip kz)
  | _, xs, _, .nil, _ => by
    rw [List.zip_nil_right]
    exact .nil
  | _, [], _, .cons _ _, e => by cases e
  | _, x :: xs, _, .cons h t, e => .cons h (each_zip2 t (by simpa using e))
theorem call_sortD : CallR X (.builtin "sorted") (rSortD X) := by
  intro pins s σ H vs us Q I r h
  obtain ⟨l, xs, kz, rfl, hs, hD, hal, hsk, hu, q⟩ := h
  obtain ⟨u, rfl, rfl⟩ := vals1 r
  obtain ⟨its, rv, hl, hz⟩ := I.list hs
  have hk := dpAll_len hD
  refine PySem.W.sorted_data (bs := xs.zip kz) (enc := (·.2)) (R := fun v b => RelV b.1 v) hl.isList (each_zip rv hk) (each_zip2 (dps_reads I rv hD) hk.symm) (by rw [map_zip_snd hk]; exact hal) (by rw [map_zip_snd hk]; exact hsk) (by
    rw [List.length_zip, hk, Nat.min_self]; exact hz) (fun b hb => hu b.2 (List.of_mem_zip hb).2) fun out ho eo => ?_
  obtain ⟨ep, he'⟩ := PyProof.Rows.sortedAll_at s.heap its out.toArray
  have hv : Vals (srtK xs kz) out := each_vals eo
  have hlen : (srtK xs kz).length ≤ sizeLine := by
    unfold srtK
    rw [List.length_map, List.length_mergeSort, List.length_zip, hk, Nat.min_self]
    exact hz
  exact ⟨.ref _, upd H (s.heap.objs.size + 1) (.lst (srtK xs kz)), I.laid (t' := s.toks) (fun _ _ => PyProof.Rows.sortedAll_old) (Nat.le_succ _) ⟨hlen, out, ep, hv, he'⟩, rfl, q _ (I.hok.fresh (Nat.le_succ _))⟩
abbrev rSortAll (X : Cx) : List V → Hp → VK → Prop := fun vs H Q => rSortA X.K vs H Q ∨ rSortD X vs H Q
theorem call_sortAll (hc : X.calm = true) : CallR X (.builtin "sorted") (rSortAll X) := CallR.or (call_sortedA hc) call_sortD
def sortAllD : Ob := fun ds S => match one1 ds with
  | some d => match getK d S with
    | some _ => sortedD ds S
    | none => match getL d S with
      | some xs => match asInts xs with
        | some _ => sortedD ds S
        | none => match xs.mapM (toPy 20 S) with
          | some kz => if okK kz then .ok (.ref S.length) (S ++ [.lst (srtD xs kz)]) else .bad
          | none => .bad
      | none => .bad
  | none => .bad
theorem den_sortAll {k : Nat} (hr : Room k X.A) (hK : B.G.K = X.K) : DenB B (rSortAll X) sortAllD := by
  intro σ θ S H ds vs Q R0 r f
  unfold sortAllD at f
  cases q : one1 ds with
  | none => rw [q] at f; exact f.elim
  | some d =>
    rw [q] at f
    dsimp only at f
    cases q1 : getK d S with
    | some kvs => rw [q1] at f; exact .inl (den_sorted hK σ θ S H ds vs Q R0 r f)
    | none =>
      rw [q1] at f
      dsimp only at f
      cases q2 : getL d S with
      | none => rw [q2] at f; exact f.elim
      | some xs =>
        rw [q2] at f
        dsimp only at f
        cases q3 : asInts xs with
        | some ns => rw [q3] at f; exact .inl (den_sorted hK σ θ S H ds vs Q R0 r f)
        | none =>
          rw [q3] at f
          dsimp only at f
          cases q4 : xs.mapM (toPy 20 S) with
          | none => rw [q4] at f; exact f.elim
          | some kz =>
            rw [q4] at f
            obtain ⟨c, f2⟩ := Fin.ite (c := okK kz = true) f
            obtain ⟨c1, c2, c3⟩ := okK_ok c
            have e := one1_ok q
            subst e
            obtain ⟨v, rfl, r1⟩ := rds1 r
            obtain ⟨a, ws, rfl, k1, k2⟩ := getL_ok R0 r1 q2
            have hD := dpAll_of (F := B.F) (toPy_dp R0 20) xs ws kz k2 q4
            rw [hK] at k1 hD
            refine .inr ⟨a, ws, kz, rfl, k1, hD, c1, c2, fun d hd => ?_, fun p hp => Fin.ok f2 (ext_cell hp) (R0.alloc hp (srtD_ok k2 ((dpAll_len hD).trans k2.length.symm))) (RD.new R0)⟩
            have h1 := c3 d hd
            have h2 := hr.un
            omega

def showD (p : PyData) : Bool := p.showable && !p.hasDict && decide (p.depth ≤ 20) && decide (p.shown.length ≤ sizeLine)
def reprAllD : Ob := fun ds S => match one1 ds with
  | some (.bl b) => .ok (.str (if b then "True" else "False")) S
  | some (.int i) => if i.natAbs.log2 < 1920 then .ok (.str (toString i)) S else .bad
  | some d => match getSeq d S with
    | some _ => match toPy 20 S d with
      | some p => if showD p then .ok (.str p.shown) S else .bad
      | none => .bad
    | none => .bad
  | none => .bad
abbrev rReprA (X : Cx) : List V → Hp → VK → Prop := fun xs H Q => rRepr xs H Q ∨ ∃ a p, xs = [.ref a] ∧ Dp X.K H (.ref a) p ∧ showD p = true ∧ Q (.str p.shown) H
theorem call_reprA {k : Nat} (hr : Room k X.A) (gd : X.A.guards = some []) : CallR X (.builtin "repr") (rReprA X) := by
  intro pins s σ H vs us Q I r h
  rcases h with h | ⟨a, p, rfl, hD, hs, q⟩
  · exact call_repr2 pins s σ H vs us Q I r h
  · obtain ⟨u, rfl, ru⟩ := vals1 r
    cases ru
    unfold showD at hs
    simp only [Bool.and_eq_true, decide_eq_true_eq, Bool.not_eq_true'] at hs
    obtain ⟨⟨⟨h1, h2⟩, h3⟩, h4⟩ := hs
    obtain ⟨as, rr⟩ := Dp.reads I p (.ref a) (.ref a) hD rfl
    have hu := hr.un
    exact repr_of_reads' rr h1 (fun z => by rw [h2] at z; cases z) gd (by omega) (fun _ _ e => e) (fun h' t tk hk => ⟨.str p.shown, H, I.kept hk, ⟨_, rfl⟩, q⟩) h4
theorem den_reprA (hK : B.G.K = X.K) : DenB B (rReprA X) reprAllD := by
  intro σ θ S H ds vs Q R0 r f
  unfold reprAllD at f
  cases q : one1 ds with
  | none => rw [q] at f; exact f.elim
  | some d =>
    rw [q] at f
    have e := one1_ok q
    subst e
    obtain ⟨v, rfl, r1⟩ := rds1 r
    have gen : Fin B (RD B.G) σ θ H (match getSeq d S with
      | some _ => match toPy 20 S d with
        | some p => if showD p then .ok (.str p.shown) S else .bad
        | none => .bad
      | none => .bad) Q → rReprA X [v] H Q := fun f => by
      cases q1 : getSeq d S with
      | none => rw [q1] at f; exact f.elim
      | some xs =>
        rw [q1] at f
        dsimp only at f
        cases q2 : toPy 20 S d with
        | none => rw [q2] at f; exact f.elim
        | some p =>
          rw [q2] at f
          obtain ⟨c, f2⟩ := Fin.ite (c := showD p = true) f
          obtain ⟨a, ws, rfl, _, _⟩ := getSeq_ok R0 r1 q1
          exact .inr ⟨a, p, rfl, hK ▸ toPy_dp R0 20 d _ p r1 q2, c, f2.ok .refl R0 (.str _)⟩
    cases d with
    | bl b => cases r1; exact .inl (.inl ⟨b, rfl, Fin.ok (a := D.str (if b then "True" else "False")) f .refl R0 (.str _)⟩)
    | int i =>
      cases r1
      obtain ⟨c, f2⟩ := Fin.ite (c := i.natAbs.log2 < 1920) f
      exact .inl (.inr ⟨i, rfl, c, f2.ok .refl R0 (.str _)⟩)
    | _ => exact gen f

/-- a method of a tuple that we made -/
theorem tupF_obj {pins : List (Addr × Obj)} {σ : St} {H : Hp} {s : Shared} {a : Addr} {xs : List V} (I : Inv X pins σ H s) (h : TupF X.K H a xs) : ∃ o, s.heap.get? a = some o ∧ o.cls = .type "tuple" ∧ o.dict = none := by
  rcases h with ⟨o, h, h1, h2⟩ | ⟨o, its, n, h, h1, h2, _⟩
  · exact ⟨o, (I.hok a _ h).1, h1, h2⟩
  · exact ⟨o, I.kIn a o h, h1, h2⟩
end
end DM

namespace DM
open PySem PySem.Spec L2
open PyProof.Rows hiding St

section
variable {X : Cx} {B : Bv} {pos : Pos}
def tTM (K : PySem.W.Frag) (r : V → List V → Hp → VK → Prop) (to : TE) (t : TA) : TE := fun σ H Q => to σ H fun x H1 => (∃ a xs, x = .ref a ∧ TupF K H1 a xs) ∧ t σ H1 fun vs H2 => r x vs H2 Q
theorem pe_tm {o e : Expr} {es : List Expr} {name : Str} {apos cpos : Pos} {id : String} {r : V → List V → Hp → VK → Prop} {to : TE} {t : TA} (slot : Slot "tuple" name id) (hty : typeOf (.builtin id) = pure (.type "method_descriptor")) (hm : MtR X id r) (ho : PE X o to) (ha : PA X (e :: es) t)
    (h1 : attributeBase o name X.env (eval o X.env) = eval o X.env := by rfl)
    (h2 : ((backTo cpos (starEach (e :: es) X.env)).all (fun x => !x.1) && (backToKw cpos (keywordEach [] X.env)).all (fun x => x.1.isSome) && decide ((e :: es).length + ([] : List Keyword).length + (if ([] : List Keyword).isEmpty then 0 else 1) < 30)) = true := by rfl)
    (h3 : (apos.endLine == cpos.line) = true := by rfl) (h4 : starEach (e :: es) X.env = (false, eval e X.env) :: starEach es X.env := by rfl) (h5 : (backTo cpos (starEach es X.env)).any (·.1) = false := by rfl) :
    PE X (.Call (.Attribute o name apos) (e :: es) [] cpos) (tTM X.K r to t) := by
  refine ⟨fun pins s σ H Q I h => ?_⟩
  refine wpAny_Call_method_late h1 h2 h3 rfl (thn (ho.run pins s σ H _ I h) fun v s1 ⟨x, H1, I1, r1, ⟨a, xs, ex, tf⟩, q1⟩ => ?_)
  subst ex
  cases r1
  obtain ⟨ob, k1, k2, k3⟩ := tupF_obj I1 tf
  refine ⟨"tuple", id, PySem.F.plainAttrs_tuple, slot, hty, ⟨ob, k1, k2⟩, fun b e => ⟨ob, by cases e; exact k1, k3⟩, ?_⟩
  have hA := ha.run cpos pins s1 σ H1 _ I1 q1
  rw [h4] at hA ⊢
  exact Calls.callWith_builtin (by show (false || (backTo cpos (starEach es X.env)).any (·.1)) = false; rw [h5] <;> rfl) (Calls.evalArgs_plain (thn hA fun us s2 ⟨vs, H2, I2, r2, q2⟩ => hm pins s2 σ H2 (.ref a) vs (.ref a) us Q I2 rfl r2 q2))
def isT : D → Bool
  | .tup _ => true
  | _ => false
def mMthT (o : Om) (a : M D) (b : M (List D)) : M D := fun ρ S => (a ρ S).bind fun x S1 => if isT x then (b ρ S1).bind fun ys S2 => o x ys S2 else .bad
theorem de_mthT {o e : Expr} {es : List Expr} {name : Str} {apos cpos : Pos} {id : String} {r : V → List V → Hp → VK → Prop} {om : Om} {a : M D} {b : M (List D)} (hK : B.G.K = X.K) (slot : Slot "tuple" name id) (hty : typeOf (.builtin id) = pure (.type "method_descriptor")) (hm : MtR X id r) (hd : DenM B r om)
    (ho : PE X o (rdE B a)) (ha : PA X (e :: es) (rdA B b)) (h1 : attributeBase o name X.env (eval o X.env) = eval o X.env := by rfl)
    (h2 : ((backTo cpos (starEach (e :: es) X.env)).all (fun x => !x.1) && (backToKw cpos (keywordEach [] X.env)).all (fun x => x.1.isSome) && decide ((e :: es).length + ([] : List Keyword).length + (if ([] : List Keyword).isEmpty then 0 else 1) < 30)) = true := by rfl)
    (h3 : (apos.endLine == cpos.line) = true := by rfl) (h4 : starEach (e :: es) X.env = (false, eval e X.env) :: starEach es X.env := by rfl) (h5 : (backTo cpos (starEach es X.env)).any (·.1) = false := by rfl) :
    PE X (.Call (.Attribute o name apos) (e :: es) [] cpos) (rdE B (mMthT om a b)) :=
  PE.imp (pe_tm slot hty hm ho ha h1 h2 h3 h4 h5) fun σ H Q ⟨ρ, S, θ, R0, rs, f⟩ => ⟨ρ, S, θ, R0, rs, Fin.bind f fun x S1 θ1 H1 v _ e1 R1 r1 f1 => by
    obtain ⟨hl, f2⟩ := Fin.ite (c := isT x = true) f1
    have r9 := r1
    cases x with
    | tup ds =>
      cases r9 with
      | @tup a xs _ k1 k2 => exact ⟨⟨a, xs, rfl, hK ▸ k1⟩, ρ, S1, θ1, R1, rs.ext e1, Fin.bind f2 fun ys S2 θ2 H2 vs _ e2 R2 r2 f3 => hd σ θ2 S2 H2 _ _ ys vs Q R2 (r1.ext e2) r2 f3⟩
    | _ => cases hl⟩
/-- t.index(k), whole numbers -/
def rTIx (K : PySem.W.Frag) : V → List V → Hp → VK → Prop := fun x xs H Q => ∃ (a : Addr) (ns : List Int) (k : Int), x = .ref a ∧ xs = [.int k] ∧ SqT K H a (ns.map V.int) ∧ k ∈ ns ∧ Q (.int (ns.idxOf k : Nat)) H
theorem mt_tix : MtR X "tuple.index" (rTIx X.K) := by
  intro pins s σ H x xs v us Q I rx rs h
  obtain ⟨a, ns, k, rfl, rfl, ht, hk, q⟩ := h
  cases rx
  obtain ⟨u, rfl, t, rfl⟩ := vals1 rs
  obtain ⟨its, rv, p, _⟩ := I.tuple ht
  exact PySem.SeqAt.tuple_index_ints (show s.heap.IsTuple a its.toArray from p) rv.ints hk ⟨.int _, H, I.tok _, ⟨_, rfl⟩, q⟩
def tixD : Om := fun d ds S => match d, one1 ds with
  | .tup xs, some (.int k) => match asInts xs with
    | some ns => if k ∈ ns then .ok (.int (ns.idxOf k : Nat)) S else .bad
    | none => .bad
  | _, _ => .bad
theorem den_tix (hK : B.G.K = X.K) : DenM B (rTIx X.K) tixD := by
  intro σ θ S H d x ds vs Q R0 r1 r2 f
  unfold tixD at f
  cases d with
  | tup xs =>
    cases q : one1 ds with
    | none => rw [q] at f; exact f.elim
    | some e =>
      have ee := one1_ok q
      subst ee
      obtain ⟨w, rfl, r3⟩ := rds1 r2
      rw [q] at f
      cases e with
      | int k =>
        cases r3
        dsimp only at f
        cases q1 : asInts xs with
        | none => rw [q1] at f; exact f.elim
        | some ns =>
          rw [q1] at f
          obtain ⟨hk, f2⟩ := Fin.ite (c := k ∈ ns) f
          cases r1 with
          | @tup a us _ h1 h2 =>
            rw [asInts_ok h2 q1, hK] at h1
            exact ⟨a, ns, k, rfl, rfl, h1.sq, hk, f2.ok .refl R0 (.int _)⟩
      | _ => exact f.elim
  | _ => exact f.elim
abbrev rBest (K : PySem.W.Frag) (g : Int → Int → Int) : List V → Hp → VK → Prop := fun vs H Q => ∃ (a : Addr) (n : Int) (ns : List Int), vs = [.ref a] ∧ (SqL K H a ((n :: ns).map V.int) ∨ SqT K H a ((n :: ns).map V.int)) ∧ Q (.int (ns.foldl g n)) H
theorem alike_all_ints (ns : List Int) : PySem.W.AlikeAll (ns.map .int) := ⟨fun x hx y hy => by
  obtain ⟨a, _, rfl⟩ := List.mem_map.mp hx
  obtain ⟨b, _, rfl⟩ := List.mem_map.mp hy
  rfl, fun x hx => by
  obtain ⟨a, _, rfl⟩ := List.mem_map.mp hx
  exact fun z => by cases z⟩
theorem reads_ints {h : Heap} : ∀ {ns : List Int} {us : List Value}, Vals (ns.map V.int) us → ReadsAll h us (ns.map .int) []
  | [], _, .nil => .nil
  | n :: r, _, .cons ⟨t, e⟩ q => by
    subst e
    exact .cons (as := []) (bs := []) (.int n t) (reads_ints q)
theorem reads_int_eq {h : Heap} {v : Value} {n m : Int} {as : List Addr} (r : Reads h v (.int n) as) (e : ∃ t, v = .int m t) : n = m := by
  obtain ⟨t, rfl⟩ := e
  cases r
  rfl
theorem int_at {ns : List Int} {us : List Value} {i : Nat} {v : Value} (r : Vals (ns.map V.int) us) (h : us[i]? = some v) : ∃ m t, v = .int m t := by
  obtain ⟨x, e, rv⟩ := valsAt r h
  rw [List.getElem?_map] at e
  obtain ⟨m, _, rfl⟩ := map_some e
  obtain ⟨t, e2⟩ := rv
  exact ⟨m, t, e2⟩
theorem call_maxS {k : Nat} (hc : X.calm = true) (hr : Room k X.A) : CallR X (.builtin "max") (rBest X.K max) := by
  intro pins s σ H vs us Q I r h
  obtain ⟨a, n, ns, rfl, hs, q⟩ := h
  obtain ⟨u, rfl, rfl⟩ := vals1 r
  have hh := I.ok.hd hc
  have hu := hr.un
  have hd : PyData.depthAll (.int n :: ns.map .int) = 0 := PySem.W.depth_ints (n :: ns)
  have fin : ∀ (its : List Value), Vals ((n :: ns).map V.int) its → ∀ (i : Nat) v h' tk bs, its.toArray[i]? = some v → Reads h' v (PySem.W.maxD (.int n) (ns.map .int)) bs → (∀ b o, s.heap.get? b = some o → h'.get? b = some o) → EP X pins σ Q v { s with heap := h', toks := tk } := fun its rv i v h' tk bs hv rd hk => by
    obtain ⟨m, t, rfl⟩ := int_at rv (by simpa using hv)
    rw [PySem.W.maxD_ints] at rd
    have e := reads_int_eq rd ⟨t, rfl⟩
    exact ⟨.int m, H, I.kept hk, ⟨t, rfl⟩, by rw [← e]; exact q⟩
  rcases hs with hs | hs
  · obtain ⟨its, rv, hl, _⟩ := I.list hs
    exact PySem.W.max_list_data (x := .int n) (xs := ns.map .int) hh hl.isList (reads_ints (ns := n :: ns) rv) (alike_all_ints (n :: ns)) (by rw [hd]; omega) (fin its rv)
  · obtain ⟨its, rv, p, _⟩ := I.tuple hs
    exact PySem.W.max_tuple_data (x := .int n) (xs := ns.map .int) hh (show s.heap.IsTuple a its.toArray from p) (reads_ints (ns := n :: ns) rv) (alike_all_ints (n :: ns)) (by rw [hd]; omega) (fin its rv)
theorem call_minS {k : Nat} (hc : X.calm = true) (hr : Room k X.A) : CallR X (.builtin "min") (rBest X.K min) := by
  intro pins s σ H vs us Q I r h
  obtain ⟨a, n, ns, rfl, hs, q⟩ := h
  obtain ⟨u, rfl, rfl⟩ := vals1 r
  have hh := I.ok.hd hc
  have hu := hr.un
  have hd : PyData.depthAll (.int n :: ns.map .int) = 0 := PySem.W.depth_ints (n :: ns)
  have fin : ∀ (its : List Value), Vals ((n :: ns).map V.int) its → ∀ (i : Nat) v h' tk bs, its.toArray[i]? = some v → Reads h' v (PySem.W.minD (.int n) (ns.map .int)) bs → (∀ b o, s.heap.get? b = some o → h'.get? b = some o) → EP X pins σ Q v { s with heap := h', toks := tk } := fun its rv i v h' tk bs hv rd hk => by
    obtain ⟨m, t, rfl⟩ := int_at rv (by simpa using hv)
    rw [PySem.W.minD_ints] at rd
    have e := reads_int_eq rd ⟨t, rfl⟩
    exact ⟨.int m, H, I.kept hk, ⟨t, rfl⟩, by rw [← e]; exact q⟩
  rcases hs with hs | hs
  · obtain ⟨its, rv, hl, _⟩ := I.list hs
    exact PySem.W.min_list_data (x := .int n) (xs := ns.map .int) hh hl.isList (reads_ints (ns := n :: ns) rv) (alike_all_ints (n :: ns)) (by rw [hd]; omega) (fin its rv)
  · obtain ⟨its, rv, p, _⟩ := I.tuple hs
    exact PySem.W.min_tuple_data (x := .int n) (xs := ns.map .int) hh (show s.heap.IsTuple a its.toArray from p) (reads_ints (ns := n :: ns) rv) (alike_all_ints (n :: ns)) (by rw [hd]; omega) (fin its rv)
def bestD (g : Int → Int → Int) : Ob := fun ds S => match one1 ds with
  | some d => match getSeq d S with
    | some xs => match asInts xs with
      | some (n :: ns) => .ok (.int (ns.foldl g n)) S
      | _ => .bad
    | none => .bad
  | none => .bad
theorem den_best {g : Int → Int → Int} (hK : B.G.K = X.K) : DenB B (rBest X.K g) (bestD g) := by
  intro σ θ S H ds vs Q R0 r f
  unfold bestD at f
  cases q : one1 ds with
  | none => rw [q] at f; exact f.elim
  | some d =>
    rw [q] at f
    have e := one1_ok q
    subst e
    obtain ⟨v, rfl, r1⟩ := rds1 r
    dsimp only at f
    cases q1 : getSeq d S with
    | none => rw [q1] at f; exact f.elim
    | some xs =>
      rw [q1] at f
      dsimp only at f
      obtain ⟨a, ws, rfl, k, rs⟩ := getSeq_ok R0 r1 q1
      cases q2 : asInts xs with
      | none => rw [q2] at f; exact f.elim
      | some ms =>
        cases ms with
        | nil => rw [q2] at f; exact f.elim
        | cons n ns =>
          rw [q2] at f
          rw [asInts_ok rs q2, hK] at k
          exact ⟨a, n, ns, rfl, k, Fin.ok f .refl R0 (.int _)⟩
end
end DM

namespace DM
open PySem PySem.Spec L2
open PyProof.Rows hiding St

theorem lexLt_asym : ∀ a b : List Int, HT.lexLt a b = true → HT.lexLt b a = false
  | [], [], h => by simp [HT.lexLt] at h
  | [], _ :: _, _ => rfl
  | _ :: _, [], h => by simp [HT.lexLt] at h
  | x :: xs, y :: ys, h => by
    by_cases e : x = y
    · subst e
      simp [HT.lexLt] at h ⊢
      exact lexLt_asym xs ys h
    · have e' : ¬ y = x := fun z => e z.symm
      simp [HT.lexLt, e] at h
      simp [HT.lexLt, e']
      omega
theorem lexLt_nt : ∀ a b c : List Int, HT.lexLt a c = true → HT.lexLt a b = true ∨ HT.lexLt b c = true
  | [], [], c, h => .inr h
  | [], _ :: _, _, _ => .inl rfl
  | _ :: _, _, [], h => by simp [HT.lexLt] at h
  | x :: xs, [], z :: zs, _ => .inr rfl
  | x :: xs, y :: ys, z :: zs, h => by
    simp only [HT.lexLt] at h ⊢
    by_cases e : x = z
    · subst e
      rw [if_pos rfl] at h
      by_cases e2 : x = y
      · subst e2
        rw [if_pos rfl, if_pos rfl]
        exact lexLt_nt xs ys zs h
      · have e3 : ¬ y = x := fun q => e2 q.symm
        rw [if_neg e2, if_neg e3, decide_eq_true_eq, decide_eq_true_eq]
        omega
    · rw [if_neg e, decide_eq_true_eq] at h
      by_cases e2 : x = y
      · subst e2
        rw [if_neg e]
        right
        exact decide_eq_true h
      · rw [if_neg e2, decide_eq_true_eq]
        by_cases e3 : y = z
        · subst e3
          left; exact h
        · rw [if_neg e3, decide_eq_true_eq]
          omega
theorem lexLt_anti : ∀ a b : List Int, HT.lexLt a b = false → HT.lexLt b a = false → a = b
  | [], [], _, _ => rfl
  | [], _ :: _, h, _ => by simp [HT.lexLt] at h
  | _ :: _, [], _, h => by simp [HT.lexLt] at h
  | x :: xs, y :: ys, h1, h2 => by
    by_cases e : x = y
    · subst e
      simp [HT.lexLt] at h1 h2
      rw [lexLt_anti xs ys h1 h2]
    · have e' : ¬ y = x := fun z => e z.symm
      simp [HT.lexLt, e] at h1
      simp [HT.lexLt, e'] at h2
      omega
def insL (x : List Int) : List (List Int) → List (List Int)
  | [] => [x]
  | y :: r => if HT.lexLt y x then y :: insL x r else x :: y :: r
def srtL : List (List Int) → List (List Int)
  | [] => []
  | x :: r => insL x (srtL r)
theorem insL_perm (x : List Int) : ∀ l, (insL x l).Perm (x :: l)
  | [] => .refl _
  | y :: r => by
    unfold insL
    split
    · exact ((insL_perm x r).cons y).trans (.swap x y r)
    · exact .refl _
theorem srtL_perm : ∀ l, (srtL l).Perm l
  | [] => .refl _
  | x :: r => (insL_perm x (srtL r)).trans ((srtL_perm r).cons x)
theorem insL_sorted (x : List Int) : ∀ {l : List (List Int)}, l.Pairwise (fun a b => (!HT.lexLt b a) = true) → (insL x l).Pairwise (fun a b => (!HT.lexLt b a) = true)
  | [], _ => by simp [insL]
  | y :: r, h => by
    unfold insL
    rw [List.pairwise_cons] at h
    split
    · rename_i hx
      rw [List.pairwise_cons]
      refine ⟨fun z hz => ?_, insL_sorted x h.2⟩
      rcases List.mem_cons.mp ((insL_perm x r).mem_iff.mp hz) with rfl | hz
      · rw [lexLt_asym _ _ hx]; rfl
      · exact h.1 z hz
    · rename_i hx
      have hx' : HT.lexLt y x = false := by simpa using hx
      rw [List.pairwise_cons]
      refine ⟨fun z hz => ?_, List.pairwise_cons.mpr h⟩
      rcases List.mem_cons.mp hz with rfl | hz
      · rw [hx']; rfl
      · have k := h.1 z hz
        rw [Bool.not_eq_true'] at k ⊢
        cases q : HT.lexLt z x with
        | false => rfl
        | true =>
          rcases lexLt_nt z y x q with w | w
          · rw [k] at w; cases w
          · rw [hx'] at w; cases w
theorem srtL_sorted : ∀ l, (srtL l).Pairwise (fun a b => (!HT.lexLt b a) = true)
  | [] => .nil
  | x :: r => insL_sorted x (srtL_sorted r)
theorem srtL_eq (l : List (List Int)) : (l.mergeSort fun a b => !HT.lexLt b a) = srtL l := by
  refine List.Perm.eq_of_pairwise (le := fun a b => (!HT.lexLt b a) = true) (fun a b _ _ h1 h2 => ?_) (List.pairwise_mergeSort (fun a b c h1 h2 => ?_) (fun a b => ?_) _) (srtL_sorted l) ((List.mergeSort_perm _ _).trans (srtL_perm l).symm)
  · rw [Bool.not_eq_true'] at h1 h2
    exact lexLt_anti a b h2 h1
  · rw [Bool.not_eq_true'] at h1 h2 ⊢
    cases q : HT.lexLt c a with
    | false => rfl
    | true =>
      rcases lexLt_nt c b a q with w | w
      · rw [h2] at w; cases w
      · rw [h1] at w; cases w
  · cases q : HT.lexLt b a with
    | false => rfl
    | true => rw [lexLt_asym _ _ q]; rfl
def tupI : D → Option (List Int)
  | .tup ds => match asInts ds with
    | some (n :: r) => some (n :: r)
    | _ => none
  | _ => none
def tupsI : List D → Option (List (List Int))
  | [] => some []
  | d :: ds => match tupI d, tupsI ds with
    | some l, some r => some (l :: r)
    | _, _ => none
def tIn (l : List Int) : D := .tup (l.map .int)
theorem asInts_eq : ∀ {ds : List D} {ns : List Int}, asInts ds = some ns → ds = ns.map .int
  | [], _, e => by cases e; rfl
  | .int i :: r, _, e => by
    obtain ⟨ms, e1, rfl⟩ := map_some e
    rw [asInts_eq e1]; rfl
theorem tupsI_ok : ∀ {ds : List D} {ls : List (List Int)}, tupsI ds = some ls → ds = ls.map tIn ∧ ∀ l ∈ ls, l ≠ []
  | [], _, e => by cases e; exact ⟨rfl, fun l hl => by simp at hl⟩
  | d :: ds, ls, e => by
    unfold tupsI at e
    cases q1 : tupI d with
    | none => rw [q1] at e; cases e
    | some l =>
      cases q2 : tupsI ds with
      | none => rw [q1, q2] at e; cases e
      | some r =>
        rw [q1, q2] at e
        cases e
        obtain ⟨h1, h2⟩ := tupsI_ok q2
        have hd : d = tIn l ∧ l ≠ [] := by
          unfold tupI at q1
          split at q1
          · rename_i xs
            split at q1
            · rename_i n r0 q3
              cases q1
              exact ⟨by rw [asInts_eq q3]; rfl, fun z => by cases z⟩
            · cases q1
          · cases q1
        refine ⟨by rw [hd.1, h1]; rfl, fun l' hl => ?_⟩
        rcases List.mem_cons.mp hl with rfl | hl
        · exact hd.2
        · exact h2 l' hl
theorem toPy_tups {S : Store} : ∀ ls : List (List Int), (ls.map tIn).mapM (toPy 20 S) = some (ls.map pyT)
  | [] => rfl
  | l :: r => by
    rw [List.map_cons, List.mapM_cons]
    have e : toPy 20 S (tIn l) = some (pyT l) := toPy_tup (m := 18) l
    rw [e, toPy_tups r]
    rfl
theorem srtD_tups (ls : List (List Int)) : srtD (ls.map tIn) (ls.map pyT) = (srtL ls).map tIn := by
  unfold srtD
  have e : (ls.map tIn).zip (ls.map pyT) = ls.map fun l => (tIn l, pyT l) := by rw [List.zip_map']
  rw [e]
  have z := List.map_mergeSort (r := fun a b => !HT.lexLt b a) (s := PySem.W.dataLe false (·.2)) (f := fun l : List Int => (tIn l, pyT l)) (l := ls) (fun a ha b hb => by
    show (!HT.lexLt b a) = !PySem.W.dataLt (pyT b) (pyT a)
    rw [dataLt_pyT])
  rw [← z, List.map_map, srtL_eq]
  rfl
theorem okK_tups (ls : List (List Int)) (h : ∀ l ∈ ls, l ≠ []) : okK (ls.map pyT) = true := by
  unfold okK
  rw [Bool.and_eq_true, Bool.and_eq_true]
  refine ⟨⟨?_, ?_⟩, ?_⟩
  · rw [List.all_eq_true]
    intro d hd
    rw [List.all_eq_true]
    intro e he
    obtain ⟨a, _, rfl⟩ := List.mem_map.mp hd
    obtain ⟨b, _, rfl⟩ := List.mem_map.mp he
    exact PySem.W.alike_ints _ _
  · rw [Bool.or_eq_true]
    left
    rw [List.all_eq_true]
    intro d hd
    obtain ⟨a, ha, rfl⟩ := List.mem_map.mp hd
    cases a with
    | nil => exact absurd rfl (h [] ha)
    | cons x r => rfl
  · rw [List.all_eq_true]
    intro d hd
    obtain ⟨a, _, rfl⟩ := List.mem_map.mp hd
    refine decide_eq_true ?_
    unfold pyT
    rw [PyData.depth, PySem.W.depth_ints]
    decide
section
variable {X : Cx} {B : Bv}
def sortTD : Ob := fun ds S => match one1 ds with
  | some d => match getL d S with
    | some (x :: xs) => match tupsI (x :: xs) with
      | some ls => .ok (.ref S.length) (S ++ [.lst ((srtL ls).map tIn)])
      | none => sortAllD ds S
    | _ => sortAllD ds S
  | none => .bad
theorem den_sortT {k : Nat} (hr : Room k X.A) (hK : B.G.K = X.K) : DenB B (rSortAll X) sortTD := by
  intro σ θ S H ds vs Q R0 r f
  refine den_sortAll hr hK σ θ S H ds vs Q R0 r ?_
  unfold sortTD at f
  cases q : one1 ds with
  | none => rw [q] at f; exact f.elim
  | some d =>
    rw [q] at f
    dsimp only at f
    cases q1 : getL d S with
    | none => rw [q1] at f; exact f
    | some xs =>
      cases xs with
      | nil => rw [q1] at f; exact f
      | cons x xs =>
        rw [q1] at f
        dsimp only at f
        cases q2 : tupsI (x :: xs) with
        | none => rw [q2] at f; exact f
        | some ls =>
          rw [q2] at f
          obtain ⟨h1, h2⟩ := tupsI_ok q2
          have e : sortAllD ds S = .ok (.ref S.length) (S ++ [.lst ((srtL ls).map tIn)]) := by
            have k0 : getK d S = none := by
              cases d with
              | ref n =>
                have q1' : (match S[n]? with | some (.lst ds) => some ds | _ => none) = some (x :: xs) := q1
                show (match S[n]? with | some (.dct kvs) => some kvs | _ => none) = none
                cases q3 : S[n]? with
                | none => rfl
                | some c =>
                  rw [q3] at q1'
                  cases c with
                  | lst _ => rfl
                  | dct _ => cases q1'
                  | rev _ _ => rfl
              | _ => rfl
            have k1 : asInts (x :: xs) = none := by
              have hx : ∃ l, x = tIn l := by
                cases ls with
                | nil => cases h1
                | cons l r => injection h1 with h1 _; exact ⟨l, h1⟩
              obtain ⟨l, rfl⟩ := hx
              rfl
            unfold sortAllD
            rw [q]
            dsimp only
            rw [k0]
            dsimp only
            rw [q1]
            dsimp only
            rw [k1]
            dsimp only
            rw [h1, toPy_tups]
            dsimp only
            rw [okK_tups ls h2, if_pos rfl, srtD_tups]
          rw [e]
          exact f
end
end DM

namespace DM
open PySem PySem.Spec L2
open PyProof.Rows hiding St

section
variable {X : Cx} {B : Bv} {pos : Pos}
def gtC : C2
  | .int i, .int j, _ => some (decide (j < i))
  | .tup xs, .tup ys, _ => match asInts xs, asInts ys with
    | some ns, some ms => some (HT.lexLt ms ns)
    | _, _ => none
  | _, _, _ => none
def rGtT (K : PySem.W.Frag) : R2 := fun x y H Q => ∃ ns ms : List Int, Dp K H x (pyT ns) ∧ Dp K H y (pyT ms) ∧ Q (.bl (HT.lexLt ms ns)) H
theorem depth_pyT (l : List Int) : (pyT l).depth ≤ 20 := by
  unfold pyT
  rw [PyData.depth, PySem.W.depth_ints]
  decide
theorem op_gtTup (hu : X.A.units + 65 < cLine) : OpR X (compareOp .Gt) (rGtT X.K) := by
  intro pins s σ H x y v u Q I rx ry h
  obtain ⟨ns, ms, d1, d2, q⟩ := h
  obtain ⟨as, k1⟩ := Dp.reads I _ x v d1 rx
  obtain ⟨bs, k2⟩ := Dp.reads I _ y u d2 ry
  have z := depth_pyT ns
  refine PySem.W.gt_data k1 k2 (PySem.W.alike_ints _ _) (fun z => by cases z) (by omega) ?_
  rw [dataLt_pyT]
  exact ⟨.bl _, H, I, rfl, q⟩
theorem opR_gt2 (hu : X.A.units + 65 < cLine) : OpR X (compareOp .Gt) (fun x y H Q => rI0 (fun i j => .bl (decide (j < i))) x y H Q ∨ rGtT X.K x y H Q) := op_gt.or (op_gtTup hu)
theorem dp_tupI {G : Gv} {F : Fr0} {θ : List Addr} {S : Store} {H : Hp} {xs : List D} {v : V} {ns : List Int} (R0 : Rel G F θ S H) (r : RD G θ H (.tup xs) v) (e : asInts xs = some ns) : Dp G.K H v (pyT ns) := by
  rw [asInts_eq e] at r
  exact toPy_dp R0 20 _ v _ r (toPy_tup (m := 18) ns)
theorem den_gt2 (hK : B.G.K = X.K) : DenC B (fun x y H Q => rI0 (fun i j => .bl (decide (j < i))) x y H Q ∨ rGtT X.K x y H Q) gtC := by
  intro θ S H d e x y b Q R0 r1 r2 h q
  unfold gtC at h
  split at h
  · cases r1; cases r2; cases h
    exact .inl ⟨_, _, rfl, rfl, q⟩
  · rename_i xs ys
    cases q1 : asInts xs with
    | none => rw [q1] at h; cases h
    | some ns =>
      cases q2 : asInts ys with
      | none => rw [q1, q2] at h; cases h
      | some ms =>
        rw [q1, q2] at h
        cases h
        exact .inr ⟨ns, ms, hK ▸ dp_tupI R0 r1 q1, hK ▸ dp_tupI R0 r2 q2, q⟩
  · cases h

def repS (s : Str) (k : Int) : Str := if k < 1 then Str.empty else if (k == 1 || s.length == 0) = true then s else ⟨(List.replicate k.toNat s.cps).foldl (· ++ ·) #[]⟩
def rMulS : R2 := fun x y H Q => ∃ (s : Str) (k : Int), x = .str s ∧ y = .int k ∧ -1000 ≤ k ∧ k ≤ 1000 ∧ s.length ≤ 1000 ∧ (repS s k).length ≤ sizeLine ∧ Q (.str (repS s k)) H
theorem op_mulS : OpR X (binaryOp .Mult) rMulS := by
  intro pins s σ H x y v u Q I rx ry h
  obtain ⟨z, k, rfl, rfl, k0, k1, z1, zl, q⟩ := h
  obtain ⟨t, rfl⟩ := rx
  obtain ⟨t2, rfl⟩ := ry
  refine PySem.P.mul_str (by rw [Bool.or_eq_false_iff]; exact ⟨decide_eq_false (by omega), decide_eq_false (by omega)⟩) (fun h1 _ h3 => ?_) (fun h1 _ => ?_) ?_
  · have hk : 0 < k := by omega
    have : (1000 : Int) ≤ (2 ^ 63 - 1) / k := by
      rw [Int.le_ediv_iff_mul_le hk]
      omega
    have : (z.length : Int) ≤ 1000 := by omega
    omega
  · have h2 : k.toNat ≤ 1000 := by omega
    have h3 : z.length * k.toNat ≤ 1000 * 1000 := Nat.mul_le_mul z1 h2
    generalize z.length * k.toNat = m at h3
    have z2 := sizeLine_eq
    show decide (m > sizeLine) = false
    rw [decide_eq_false_iff_not]
    omega
  · unfold repS at q zl
    split
    · rename_i h1
      rw [if_pos h1] at q zl
      exact ⟨zl, .str _, H, I.tok _, ⟨_, rfl⟩, q⟩
    · rename_i h1
      rw [if_neg h1] at q zl
      split
      · rename_i h2
        rw [if_pos h2] at q
        exact ⟨.str _, H, I, ⟨_, rfl⟩, q⟩
      · rename_i h2
        rw [if_neg h2] at q zl
        exact ⟨zl, .str _, H, I.tok _, ⟨_, rfl⟩, q⟩
def mulS : O2 := fun d e S => match d, e with
  | .str s, .int k => if (decide (-1000 ≤ k) && decide (k ≤ 1000) && decide (s.length ≤ 1000) && decide ((repS s k).length ≤ sizeLine)) = true then .ok (.str (repS s k)) S else .bad
  | _, _ => .bad
theorem den_mulS : Den2 B rMulS mulS := by
  intro σ θ S H d e x y Q R0 r1 r2 f
  unfold mulS at f
  split at f
  · obtain ⟨c, f2⟩ := Fin.ite f
    simp only [Bool.and_eq_true, decide_eq_true_eq] at c
    cases r1; cases r2
    exact ⟨_, _, rfl, rfl, c.1.1.1, c.1.1.2, c.1.2, c.2, f2.ok .refl R0 (.str _)⟩
  · exact f.elim
theorem de_mulS {a b : Expr} {ma mb : M D} (ha : PE X a (rdE B ma)) (hb : PE X b (rdE B mb)) : PE X (.BinOp a .Mult b pos) (rdE B (mBin mulS ma mb)) := de_bin op_mulS den_mulS ha hb

def kdC (T : List (Str × Int)) (d : D) (S : Store) : R D := match d with
  | .str x => match T.lookup x with
    | some i => .ok (.int i) S
    | none => .bad
  | _ => .bad
def mKd (T : List (Str × Int)) (b : M D) : M D := fun ρ S => (b ρ S).bind (kdC T)
theorem de_kd {x : Str} {p : Pos} {b : Expr} {mb : M D} {d : Addr} {T : List (Str × Int)} (hg : Gl X x) (hm : X.mg x = some (.ref d)) (hT : ∀ z i, T.lookup z = some i → KDct X.K X.w d z (.int i)) (hb : PE X b (rdE B mb)) (hp : PlainIx b) (hd : (x == ("__debug__" : Str)) = false := by decide) :
    PE X (.Subscript (.Name x p) b pos) (rdE B (mKd T mb)) :=
  PE.imp (pe_ix ix_kdict (pe_glob (v := .ref d) hg hm rfl hd) hb hp) fun σ H Q ⟨ρ, S, θ, R0, rs, f⟩ => ⟨ρ, S, θ, R0, rs, Fin.bind f fun y S1 θ1 H1 v _ e1 R1 r1 f1 => by
    cases y with
    | str z =>
      replace f1 : Fin B (RD B.G) σ θ1 H1 (match T.lookup z with | some i => .ok (.int i) S1 | none => .bad) Q := f1
      cases q : T.lookup z with
      | none => rw [q] at f1; exact f1.elim
      | some i =>
        rw [q] at f1
        cases r1
        exact ⟨d, z, .int i, rfl, rfl, hT z i q, f1.ok .refl R1 (.int _)⟩
    | _ => exact f1.elim⟩

def ixOfP (p : PyData) : List PyData → Nat → Option Nat
  | [], _ => none
  | q :: r, n => if PyData.eqv q p then some n else ixOfP p r (n + 1)
theorem ixOfP_ok {p : PyData} : ∀ {qs : List PyData} {n j : Nat}, ixOfP p qs n = some j → n ≤ j ∧ (∃ z, qs[j - n]? = some z ∧ PyData.eqv z p = true) ∧ ∀ (m : Nat) z, m < j - n → qs[m]? = some z → PyData.eqv z p = false
  | [], _, _, e => by cases e
  | q :: r, n, j, e => by
    unfold ixOfP at e
    by_cases h : PyData.eqv q p = true
    · rw [if_pos h] at e
      cases e
      exact ⟨Nat.le_refl _, ⟨q, by simp, h⟩, fun m z hm => by omega⟩
    · rw [if_neg h] at e
      obtain ⟨h1, ⟨z, h2, h3⟩, h4⟩ := ixOfP_ok e
      have e1 : j - n = (j - (n + 1)) + 1 := by omega
      refine ⟨by omega, ⟨z, by rw [e1]; simpa using h2, h3⟩, fun m z' hm hz => ?_⟩
      cases m with
      | zero =>
        have : q = z' := by simpa using hz
        subst this
        simpa using h
      | succ m => exact h4 m z' (by omega) (by simpa using hz)
def indexD : Om := fun d ds S => match one1 ds, toPy 20 S d with
  | some e, some (.list qs) => match toPy 20 S e with
    | some p => if (SeqAt.shaped p && SeqAt.shaped (.list qs)) = true then (match ixOfP p qs 0 with
      | some j => .ok (.int (j : Nat)) S
      | none => .bad) else .bad
    | none => .bad
  | _, _ => .bad
theorem dp_list_ref {K : PySem.W.Frag} {H : Hp} {x : V} {qs : List PyData} (h : Dp K H x (.list qs)) : ∃ a, x = .ref a := by
  cases h with
  | lst h1 h2 => exact ⟨_, rfl⟩
theorem den_index (hK : B.G.K = X.K) : DenM B (rIndexD X.K) indexD := by
  intro σ θ S H d x ds vs Q R0 r1 r2 f
  unfold indexD at f
  split at f
  · rename_i e qs q1 q2
    have ee := one1_ok q1
    subst ee
    obtain ⟨w, rfl, r3⟩ := rds1 r2
    cases q3 : toPy 20 S e with
    | none => rw [q3] at f; exact f.elim
    | some p =>
      rw [q3] at f
      dsimp only at f
      obtain ⟨c, f2⟩ := Fin.ite (c := (SeqAt.shaped p && SeqAt.shaped (.list qs)) = true) f
      rw [Bool.and_eq_true] at c
      cases q4 : ixOfP p qs 0 with
      | none => rw [q4] at f2; exact f2.elim
      | some j =>
        rw [q4] at f2
        obtain ⟨_, ⟨z, h2, h3⟩, h4⟩ := ixOfP_ok q4
        have k1 : Dp X.K H x (.list qs) := hK ▸ toPy_dp R0 20 d x _ r1 q2
        have k2 : Dp X.K H w p := hK ▸ toPy_dp R0 20 e w _ r3 q3
        obtain ⟨a, rfl⟩ := dp_list_ref k1
        exact ⟨a, w, p, qs, j, z, rfl, rfl, k1, k2, c.2, c.1, by simpa using h2, h3, fun m z' hm hz => h4 m z' (by simpa using hm) hz, f2.ok .refl R0 (.int _)⟩
  · exact f.elim
def rCount (X : Cx) : V → List V → Hp → VK → Prop := fun x xs H Q => ∃ (a : Addr) (y : V) (d : PyData) (ds : List PyData), x = .ref a ∧ xs = [y] ∧ Dp X.K H (.ref a) (.tuple ds) ∧ Dp X.K H y d ∧ PyData.plainAll ds = true ∧ d.plain = true ∧ d.depth ≤ 20 ∧ Q (.int ((ds.countP fun z => PyData.eqv z d : Nat) : Int)) H
theorem mt_count (hu : X.A.units + 65 < cLine) : MtR X "tuple.count" (rCount X) := by
  intro pins s σ H x xs v us Q I rx rs h
  obtain ⟨a, y, d, ds, rfl, rfl, k1, k2, p1, p2, dp, q⟩ := h
  cases rx
  obtain ⟨u, rfl, ru⟩ := vals1 rs
  obtain ⟨bs, rd⟩ := Dp.reads I d y u k2 ru
  cases k1 with
  | tup ht hd =>
    obtain ⟨its, rv, pt, _⟩ := I.tuple ht
    obtain ⟨as, ra⟩ := Dp.readsAll I ds _ its hd rv
    exact PySem.SeqAt.count_tuple_data (show s.heap.IsTuple a its.toArray from pt) (show ReadsAll s.heap its.toArray.toList ds as from ra) rd p1 p2 (by omega) ⟨.int _, H, I.tok _, ⟨_, rfl⟩, q⟩
def countD : Om := fun d ds S => match one1 ds, toPy 20 S d with
  | some e, some (.tuple qs) => match toPy 20 S e with
    | some p => if (PyData.plainAll qs && p.plain && decide (p.depth ≤ 20)) = true then .ok (.int ((qs.countP fun z => PyData.eqv z p : Nat) : Int)) S else .bad
    | none => .bad
  | _, _ => .bad
theorem dp_tup_ref {K : PySem.W.Frag} {H : Hp} {x : V} {qs : List PyData} (h : Dp K H x (.tuple qs)) : ∃ a, x = .ref a := by
  cases h with
  | tup h1 h2 => exact ⟨_, rfl⟩
theorem den_count (hK : B.G.K = X.K) : DenM B (rCount X) countD := by
  intro σ θ S H d x ds vs Q R0 r1 r2 f
  unfold countD at f
  split at f
  · rename_i e qs q1 q2
    have ee := one1_ok q1
    subst ee
    obtain ⟨w, rfl, r3⟩ := rds1 r2
    cases q3 : toPy 20 S e with
    | none => rw [q3] at f; exact f.elim
    | some p =>
      rw [q3] at f
      dsimp only at f
      obtain ⟨c, f2⟩ := Fin.ite (c := (PyData.plainAll qs && p.plain && decide (p.depth ≤ 20)) = true) f
      rw [Bool.and_eq_true, Bool.and_eq_true, decide_eq_true_eq] at c
      have k1 : Dp X.K H x (.tuple qs) := hK ▸ toPy_dp R0 20 d x _ r1 q2
      have k2 : Dp X.K H w p := hK ▸ toPy_dp R0 20 e w _ r3 q3
      obtain ⟨a, rfl⟩ := dp_tup_ref k1
      exact ⟨a, w, p, qs, rfl, rfl, k1, k2, c.1.1, c.1.2, c.2, f2.ok .refl R0 (.int _)⟩
  · exact f.elim

def revD (d : D) (S : Store) : R D := match getL d S with
  | some ds => .ok (.ref S.length) (S ++ [.lst ds.reverse])
  | none => .bad
def mRev (a : M D) : M D := fun ρ S => (a ρ S).bind revD
theorem de_rev {e : Expr} {a : M D} {k : Nat} {p1 p2 p3 : Pos} (hK : B.G.K = X.K) (ha : PE X e (rdE B a)) : PE X (.Subscript e (.Slice none none (some (.UnaryOp .USub (.Constant (.int 1) k p1) p2)) p3) pos) (rdE B (mRev a)) :=
  PE.imp (pe_revL ha) fun σ H Q ⟨ρ, S, θ, R0, rs, f⟩ => ⟨ρ, S, θ, R0, rs, Fin.bind f fun x S1 θ1 H1 v _ e1 R1 r1 f1 => by
    unfold revD at f1
    cases q : getL x S1 with
    | none => rw [q] at f1; exact f1.elim
    | some ds =>
      rw [q] at f1
      obtain ⟨b, xs, rfl, k1, k2⟩ := getL_ok R1 r1 q
      exact ⟨b, xs, rfl, hK ▸ k1, fun p hp => Fin.ok f1 (ext_cell hp) (R1.alloc hp k2.reverse) (RD.new R1)⟩⟩
end
end DM

namespace DM
open PySem PySem.Spec L2
open PyProof.Rows hiding St

/-- the signs of two texts, in new pairs -/
def ItzS (z1 z2 : Str) : It :=
  ⟨fun i _ => i < z1.cps.size ∧ i < z2.cps.size,
    fun i H v H' => ∃ T c1 c2, v = .ref T ∧ H T = none ∧ H' = upd H T (.tup [.str ⟨#[c1]⟩, .str ⟨#[c2]⟩]) ∧ z1.cps[i]? = some c1 ∧ z2.cps[i]? = some c2,
    fun i _ => i ≤ z1.cps.size ∧ i ≤ z2.cps.size ∧ (i = z1.cps.size ∨ i = z2.cps.size)⟩
theorem turn_zipS {P : Program} {w : World} {K : PySem.W.Frag} {elts : List Expr} {kk : Nat} {tpos : Pos} {y1 y2 : Str} {t1 t2 : Tok} {z TI TO i1 i2 : Addr} (D : ZipSep2 z TI TO i1 i2 [i1] [i2]) :
    Turn P w K (.Tuple elts kk tpos) (ItzS y1 y2) [i2, i1, TO, TI, z] z (fun i h => h.IsStrIter i1 (strIterType y1) y1 t1 i ∧ h.IsStrIter i2 (strIterType y2) y2 t2 i ∧ IsZip h z TI TO .none ∧ IsTupOf2 h TI (.ref i1) (.ref i2) ∧ ∃ a1 a2, IsTupOf2 h TO a1 a2) where
  mem := by simp
  obj := fun i h st c hc => by
    obtain ⟨⟨o1, e1, _, d1⟩, ⟨o2, e2, _, d2⟩, qz, qI, ⟨a1, a2, qO⟩⟩ := st
    simp only [List.mem_cons, List.not_mem_nil, or_false] at hc
    rcases hc with rfl | rfl | rfl | rfl | rfl
    · exact ⟨o2, e2, fun v k => by rw [d2] at k; cases k⟩
    · exact ⟨o1, e1, fun v k => by rw [d1] at k; cases k⟩
    · exact ⟨_, qO, fun v k => nomatch k⟩
    · exact ⟨_, qI, fun v k => nomatch k⟩
    · exact ⟨_, qz, fun v k => nomatch k⟩
  keep := fun i h h' st k => by
    obtain ⟨⟨o1, e1, b1, d1⟩, ⟨o2, e2, b2, d2⟩, qz, qI, ⟨a1, a2, qO⟩⟩ := st
    exact ⟨⟨o1, k i1 (by simp) _ e1, b1, d1⟩, ⟨o2, k i2 (by simp) _ e2, b2, d2⟩, k z (by simp) _ qz, k TI (by simp) _ qI, ⟨a1, a2, k TO (by simp) _ qO⟩⟩
  item := by
    intro X hP hw hK hc i pins s σ H E I hf st hg
    subst hP hw hK
    obtain ⟨n1, n2, qz, qI, ⟨a1, a2, qO⟩⟩ := st
    have hh : X.A.in1.handled = none := I.ok.hd hc
    refine wpAny_pyNext_zipD2_item D (Draws.text hh i1 y1 t1) (Draws.text hh i2 y2 t2) qz qI qO n1 n2 hg.1 hg.2 fun u1 u2 h' tk g1 g2 qz' qO' n1' n2' qT qs qk => ?_
    obtain ⟨c1, tk1, hc1, rfl⟩ := g1
    obtain ⟨c2, tk2, hc2, rfl⟩ := g2
    refine ⟨_, rfl, wpAny_letOwnedTupleGo_zip (s := { s with heap := h', toks := tk }) qz' fun h2 qz2 sb => ?_⟩
    have zlt : z < s.heap.objs.size := Heap.lt_size qz
    have qT2 : h2.get? s.heap.objs.size = some { cls := .type "tuple", data := .seq #[.str ⟨#[c1]⟩ tk1, .str ⟨#[c2]⟩ tk2] } := (sb.2 _ (Nat.ne_of_gt zlt)).trans qT
    have ok2 : ObjOk X.prog X.w (upd H s.heap.objs.size (.tup [.str ⟨#[c1]⟩, .str ⟨#[c2]⟩])) h2 s.heap.objs.size (.tup [.str ⟨#[c1]⟩, .str ⟨#[c2]⟩]) :=
      ⟨by show 2 ≤ sizeLine; decide, [.str ⟨#[c1]⟩ tk1, .str ⟨#[c2]⟩ tk2], .cons ⟨_, rfl⟩ (.cons ⟨_, rfl⟩ .nil), ⟨_, qT2, rfl, _, rfl⟩⟩
    have I2 : Inv X pins σ (upd H s.heap.objs.size (.tup [.str ⟨#[c1]⟩, .str ⟨#[c2]⟩])) { s with heap := h2, toks := tk } :=
      I.turnedNew (t' := tk) (ch := [i2, i1, TO, TI, z]) (fun c o hb e => (sb.2 c fun m => hb (by simp [m])).trans (qk c o (fun m => hb (by simp [m])) (fun m => hb (by simp [m])) (fun m => hb (by simp [m])) (fun m => hb (by simp [m])) e)) hf (Nat.le_refl _) ok2
    obtain ⟨o1, e1, _⟩ := id n1
    obtain ⟨o2, e2, _⟩ := id n2
    have lts : ∀ c ∈ [i2, i1, TO, TI, z], c < s.heap.objs.size := fun c hm => by
      simp only [List.mem_cons, List.not_mem_nil, or_false] at hm
      rcases hm with rfl | rfl | rfl | rfl | rfl
      · exact Heap.lt_size e2
      · exact Heap.lt_size e1
      · exact Heap.lt_size qO
      · exact Heap.lt_size qI
      · exact zlt
    refine ⟨.ref s.heap.objs.size, _, I2, rfl, ⟨_, c1, c2, rfl, I.hok.fresh (Nat.le_refl _), rfl, hc1, hc2⟩, ⟨?_, ?_, qz2, ?_, ⟨.str ⟨#[c1]⟩ tk1, .str ⟨#[c2]⟩ tk2, ?_⟩⟩, fun c hm => ?_⟩
    · obtain ⟨o, e, r⟩ := n1'
      exact ⟨o, (sb.2 _ (Ne.symm D.zi1)).trans e, r⟩
    · obtain ⟨o, e, r⟩ := n2'
      exact ⟨o, (sb.2 _ (Ne.symm D.zi2)).trans e, r⟩
    · exact (sb.2 _ D.TIz).trans (qk _ _ D.TIz D.TITO D.TIi1 D.TIi2 qI)
    · exact (sb.2 _ D.TOz).trans qO'
    · rw [upd_ne (Nat.ne_of_lt (lts c hm))]
      exact (hf c hm).1
  done := by
    intro X hP hw hK hc i pins s σ H E I hf st hg
    subst hP hw hK
    obtain ⟨n1, n2, qz, qI, ⟨a1, a2, qO⟩⟩ := st
    have hh : X.A.in1.handled = none := I.ok.hd hc
    exact wpAny_pyNext_zipD2_end D (Draws.text hh i1 y1 t1) (Draws.text hh i2 y2 t2) qz qI qO n1 n2 hg.1 hg.2.1 hg.2.2 fun h' tk qk =>
      ⟨rfl, I.turnedL (t' := tk) (ch := [i2, i1, TO, TI, z]) (fun c o hb e => qk c o (fun m => hb (by simp [m])) (fun m => hb (by simp [m])) (fun m => hb (by simp [m])) (fun m => hb (by simp [m])) e) hf⟩
  self := fun A i s Q E st h => wpAny_pyIter_zip st.2.2.1 h
def iZipS (ta : TA) : TI := fun σ H R => ta σ H fun vs H1 => ∃ x y, vs = [.str x, .str y] ∧ R (ItzS x y) H1
theorem pi_zipS {X : Cx} {e e2 : Expr} {ta : TA} {p pos tpos : Pos} {elts : List Expr} {kk : Nat} (hg : Gl X "zip") (hm : X.mg "zip" = none) (ha : PA X [e, e2] ta)
    (he : starEach [e, e2] X.env = (false, eval e X.env) :: starEach [e2] X.env := by rfl) (hn : (backTo pos (starEach [e2] X.env)).any (·.1) = false := by rfl) :
    PI X (.Tuple elts kk tpos) (.Call (.Name "zip" p) [e, e2] [] pos) (iZipS ta) := by
  refine ⟨fun pins s σ H R I h => Call_ (ld_blt I hg hm PyProof.Rows.boot_zip (PyProof.Rows.callWith_type1 (thn (ha.run pos pins s σ H _ I h) fun us s1 ⟨vs, H1, I1, r1, x, y, ex, q1⟩ => ?_) he hn))⟩
  subst ex
  obtain ⟨u1, u2, rfl, ⟨t1, rfl⟩, ⟨t2, rfl⟩⟩ : ∃ u1 u2, us = [u1, u2] ∧ RelV (.str x) u1 ∧ RelV (.str y) u2 := by
    cases r1 with
    | cons a b =>
      cases b with
      | cons c d => cases d; exact ⟨_, _, rfl, a, c⟩
  refine zip_begins2 (begins_text x t1) (begins_text y t2) trivial trivial fun h' qz qI qO e1 e2 qs qk => wpAny_pyIter_zip qz ?_
  have I2 : Inv X pins σ H1 { s1 with heap := h' } := I1.kept (t' := s1.toks) qk
  have lts : ∀ c ∈ [s1.heap.objs.size + 1, s1.heap.objs.size, s1.heap.objs.size + 3, s1.heap.objs.size + 2, s1.heap.objs.size + 4], FpOk X pins H1 c := fun c hm => by
    have hle : s1.heap.objs.size ≤ c := by
      simp only [List.mem_cons, List.not_mem_nil, or_false] at hm
      rcases hm with rfl | rfl | rfl | rfl | rfl <;> omega
    exact I1.fpOk hle (I1.hok.fresh hle)
  exact ⟨s1.heap.objs.size + 4, _, _, _, H1, rfl, I2, turn_zipS (zip_sep2 (fp1 := []) (fp2 := []) (by simp) (by simp)), ⟨⟨_, e1, rfl, rfl⟩, ⟨_, e2, rfl, rfl⟩, qz, qI, ⟨_, _, qO⟩⟩, lts, q1⟩

section
variable {X : Cx} {B : Bv} {pos : Pos}
def nxZipS (x y : Str) : Nx := fun i _ => match x.cps[i]?, y.cps[i]? with
  | some a, some b => some (some (.pr [.str ⟨#[a]⟩, .str ⟨#[b]⟩]))
  | _, _ => if i ≤ x.cps.size ∧ i ≤ y.cps.size then some none else none
theorem ri_zipS {θ : List Addr} {H : Hp} {x y : Str} : RI B θ H (nxZipS x y) (ItzS x y) := by
  intro i θ' S' H' e R0
  unfold nxZipS
  cases q1 : x.cps[i]? with
  | some a =>
    have l1 := (Array.getElem?_eq_some_iff.mp q1).1
    cases q2 : y.cps[i]? with
    | some b =>
      have l2 := (Array.getElem?_eq_some_iff.mp q2).1
      refine ⟨(fun z => by cases z), fun d z => ?_⟩
      cases z
      refine ⟨⟨l1, l2⟩, fun v H'' hy => ?_⟩
      obtain ⟨T, c1, c2, rfl, hT, rfl, k1, k2⟩ := hy
      rw [q1] at k1
      rw [q2] at k2
      cases k1
      cases k2
      have ex : Ext θ' H' θ' (upd H' T (.tup [.str ⟨#[a]⟩, .str ⟨#[b]⟩])) := .of_keep (keep_new hT)
      exact ⟨ex, R0.laid hT, .pr (.inl (.inl upd_same)) (.cons (.str _) (.cons (.str _) .nil))⟩
    | none =>
      have l2 := Array.getElem?_eq_none_iff.mp q2
      dsimp only
      split
      · rename_i hc
        exact ⟨fun _ => ⟨hc.1, hc.2, .inr (by omega)⟩, fun d z => by cases z⟩
      · exact ⟨(fun z => by cases z), fun d z => by cases z⟩
  | none =>
    have l1 := Array.getElem?_eq_none_iff.mp q1
    dsimp only
    split
    · rename_i hc
      exact ⟨fun _ => ⟨hc.1, hc.2, .inl (by omega)⟩, fun d z => by cases z⟩
    · exact ⟨(fun z => by cases z), fun d z => by cases z⟩
def nxZipL (d e : D) : Nx := fun i S => match getL d S, getL e S with
  | some xs, some ys => some (match xs[i]?, ys[i]? with
    | some x, some y => some (.pr [x, y])
    | _, _ => none)
  | _, _ => none
theorem ri_zipL {θ : List Addr} {H : Hp} {d1 d2 : D} {a b : Addr} (hK : B.G.K = X.K) (r1 : RD B.G θ H d1 (.ref a)) (r2 : RD B.G θ H d2 (.ref b)) : RI B θ H (nxZipL d1 d2) (Itz X.K a b) := by
  intro i θ' S' H' e R0
  unfold nxZipL
  cases q1 : getL d1 S' with
  | none => exact ⟨(fun z => by cases z), fun d z => by cases z⟩
  | some xs =>
    cases q2 : getL d2 S' with
    | none => exact ⟨(fun z => by cases z), fun d z => by cases z⟩
    | some ys =>
      obtain ⟨us, h1, h2⟩ := getL_ref R0 (r1.ext e) q1
      obtain ⟨ws, h3, h4⟩ := getL_ref R0 (r2.ext e) q2
      rw [hK] at h1 h3
      dsimp only
      have l1 := h2.length
      have l2 := h4.length
      cases k1 : xs[i]? with
      | none => exact ⟨fun _ => ⟨us, ws, h1, h3, .inl (by rw [← l1]; exact List.getElem?_eq_none_iff.mp k1)⟩, fun d z => by cases z⟩
      | some x =>
        cases k2 : ys[i]? with
        | none => exact ⟨fun _ => ⟨us, ws, h1, h3, .inr (by rw [← l2]; exact List.getElem?_eq_none_iff.mp k2)⟩, fun d z => by cases z⟩
        | some y =>
          refine ⟨(fun z => by cases z), fun d z => ?_⟩
          cases z
          obtain ⟨u, hu, ru⟩ := h2.get k1
          obtain ⟨v, hv, rv⟩ := h4.get k2
          refine ⟨⟨us, ws, u, v, h1, h3, hu, hv⟩, fun v' H'' hy => ?_⟩
          obtain ⟨T, u', w', rfl, hT, rfl, m1, m2⟩ := hy
          have f1 := m1 us h1
          have f2 := m2 ws h3
          rw [hu] at f1
          rw [hv] at f2
          cases f1
          cases f2
          have ex : Ext θ' H' θ' (upd H' T (.tup [u, v])) := .of_keep (keep_new hT)
          exact ⟨ex, R0.laid hT, .pr (.inl (.inl upd_same)) (.cons (ru.ext ex) (.cons (rv.ext ex) .nil))⟩
/-- zip of two tuples, two lists, two texts -/
def isTx : D → Option Str
  | .str x => some x
  | _ => none
def zipAD (ds : List D) (S : Store) : R Nx := match ds with
  | [d, e] => match isTx d, isTx e with
    | some x, some y => .ok (nxZipS x y) S
    | _, _ => match tupOf d, tupOf e with
      | some xs, some ys => .ok (nxZip xs ys) S
      | _, _ => match getL d S, getL e S with
        | some _, some _ => .ok (nxZipL d e) S
        | _, _ => .bad
  | _ => .bad
def mZipA (a : M (List D)) : M Nx := fun ρ S => (a ρ S).bind zipAD
theorem isTx_ok {d : D} {x : Str} (h : isTx d = some x) : d = .str x := by
  cases d with
  | str y => cases h; rfl
  | _ => cases h
def txts (ds : List D) : Bool := match ds with
  | [d, e] => (isTx d).isSome && (isTx e).isSome
  | _ => false
theorem di_zipA {e e2 : Expr} {elts : List Expr} {kk : Nat} {tpos : Pos} {ma : M (List D)} {p : Pos} (hK : B.G.K = X.K) (hg : Gl X "zip") (hm : X.mg "zip" = none) (ha : PA X [e, e2] (rdA B ma)) (hs : starEach [e, e2] X.env = (false, eval e X.env) :: starEach [e2] X.env := by rfl)
    (hpl : (backTo pos (starEach [e2] X.env)).any (·.1) = false := by rfl) : PI X (.Tuple elts kk tpos) (.Call (.Name "zip" p) [e, e2] [] pos) (rdI B (mZipA ma)) :=
  PI.imp (PI.or (pi_zipS hg hm ha hs hpl) (RZ.pi_zipA hg hm ha hs hpl)) fun σ H R ⟨ρ, S, θ, R0, rs, f⟩ => by
    have key : (txts (match ma ρ S with | .ok ds _ => ds | _ => []) = true) ∨ (txts (match ma ρ S with | .ok ds _ => ds | _ => []) = false) := by
      cases txts (match ma ρ S with | .ok ds _ => ds | _ => []) with
      | true => exact .inl rfl
      | false => exact .inr rfl
    rcases key with key | key
    · refine .inl ⟨ρ, S, θ, R0, rs, Fin.bind f fun ds S1 θ1 H1 vs q e1 R1 r1 f1 => ?_⟩
      rw [q] at key
      dsimp only at key
      unfold txts at key
      split at key
      · rename_i d d2
        rw [Bool.and_eq_true] at key
        obtain ⟨x, hx⟩ := Option.isSome_iff_exists.mp key.1
        obtain ⟨y, hy⟩ := Option.isSome_iff_exists.mp key.2
        have ex := isTx_ok hx
        have ey := isTx_ok hy
        subst ex ey
        obtain ⟨v, w, rfl, k1, k2⟩ := rds2 r1
        cases k1; cases k2
        exact ⟨x, y, rfl, Fin.ok f1 .refl R1 ri_zipS⟩
      · cases key
    · refine .inr ⟨ρ, S, θ, R0, rs, Fin.bind f fun ds S1 θ1 H1 vs q e1 R1 r1 f1 => ?_⟩
      rw [q] at key
      dsimp only at key
      unfold zipAD at f1
      split at f1
      · rename_i d d2
        have nt : Fin B (RI B) σ θ1 H1 (match tupOf d, tupOf d2 with
          | some xs, some ys => .ok (nxZip xs ys) S1
          | _, _ => match getL d S1, getL d2 S1 with
            | some _, some _ => .ok (nxZipL d d2) S1
            | _, _ => .bad) R := by
          unfold txts at key
          dsimp only at key
          cases h1 : isTx d with
          | none => rw [h1] at f1; exact f1
          | some x =>
            cases h2 : isTx d2 with
            | none => rw [h1, h2] at f1; exact f1
            | some y => rw [h1, h2] at key; cases key
        obtain ⟨v, w, rfl, k1, k2⟩ := rds2 r1
        have lists : Fin B (RI B) σ θ1 H1 (match getL d S1, getL d2 S1 with
            | some _, some _ => .ok (nxZipL d d2) S1
            | _, _ => .bad) R → ∃ a b us ws, [v, w] = [V.ref a, V.ref b] ∧ ((SqL X.K H1 a us ∧ SqL X.K H1 b ws ∧ R (Itz X.K a b) H1) ∨ (SqT X.K H1 a us ∧ SqT X.K H1 b ws ∧ R (RZ.ItzT X.K a b) H1)) := fun g => by
          cases q1 : getL d S1 with
          | none => rw [q1] at g; exact g.elim
          | some xs =>
            cases q2 : getL d2 S1 with
            | none => rw [q1, q2] at g; exact g.elim
            | some ys =>
              rw [q1, q2] at g
              obtain ⟨a, us, rfl, h1, h2⟩ := getL_ok R1 k1 q1
              obtain ⟨b, ws, rfl, h3, h4⟩ := getL_ok R1 k2 q2
              exact ⟨a, b, us, ws, rfl, .inl ⟨hK ▸ h1, hK ▸ h3, Fin.ok g .refl R1 (ri_zipL hK k1 k2)⟩⟩
        cases q1 : tupOf d with
        | none => rw [q1] at nt; exact lists nt
        | some xs =>
          cases q2 : tupOf d2 with
          | none => rw [q1, q2] at nt; exact lists nt
          | some ys =>
            rw [q1, q2] at nt
            obtain ⟨a, us, rfl, h1, h2⟩ := tupOf_ok k1 q1
            obtain ⟨b, ws, rfl, h3, h4⟩ := tupOf_ok k2 q2
            exact ⟨a, b, us, ws, rfl, .inr ⟨hK ▸ h1, hK ▸ h3, Fin.ok nt .refl R1 (ri_zip hK k1 q1 k2 q2)⟩⟩
      · exact f1.elim

def lcIn (nx : Nx) (g : TM) (t : M Bool) (e : M D) (ρ : Env) (n : Nat) : Nat → Nat → Store → (Store → R D) → R D
  | 0, _, _, _ => .bad
  | m + 1, j, S, k => match nx j S with
    | some (some d) => (g d ρ S).noexc.bind fun ρ1 S1 => (t ρ1 S1).noexc.bind fun b S2 =>
        if b then (e ρ1 S2).noexc.bind fun y S3 => lcEnd n y S3 fun S4 => lcIn nx g t e ρ n m (j + 1) S4 k else lcIn nx g t e ρ n m (j + 1) S2 k
    | some none => k S
    | none => .bad
def lc2N (nx : Nx) (g : TM) (t : M Bool) (it1 : M Nx) (g1 : TM) (t1 : M Bool) (e : M D) (vs1 : List Nat) (ρ : Env) (n : Nat) : Nat → Nat → Store → R D
  | 0, _, _ => .bad
  | m + 1, i, S => match nx i S with
    | some (some d) => (g d ρ S).noexc.bind fun ρ1 S1 => (t ρ1 S1).noexc.bind fun b S2 =>
        if b then (it1 ρ1 S2).noexc.bind fun nx1 S3 => lcIn nx1 g1 t1 e (wipeE ρ1 vs1) n fuel 0 S3 (lc2N nx g t it1 g1 t1 e vs1 ρ n m (i + 1)) else lc2N nx g t it1 g1 t1 e vs1 ρ n m (i + 1) S2
    | some none => lcDone n S
    | none => .bad
def mLc2 (it : M Nx) (g : TM) (t : M Bool) (it1 : M Nx) (g1 : TM) (t1 : M Bool) (e : M D) (vs vs1 : List Nat) : M D := fun ρ S => (it ρ S).bind fun nx S1 => lc2N nx g t it1 g1 t1 e vs1 (wipeE ρ vs) S1.length fuel 0 (S1 ++ [.rev [] 0])
/-- what has been laid is put behind the list's items -/
theorem lcEnd_ok {θ0 θ7 : List Addr} {H0 H7 : Hp} {S7 : Store} {n : Nat} {Da : Addr} {y : D} {v : V} {k : Store → R D} {σ : St} {Q : VK} (aD : θ0[n]? = some Da) (e7 : Ext θ0 H0 θ7 H7) (R7 : Rel B.G B.F θ7 S7 H7) (r7 : RD B.G θ7 H7 y v)
    (f7 : Fin B (RD B.G) σ θ7 H7 (lcEnd n y S7 k) Q) : ∃ acc, H7 Da = some (.lst acc) ∧ acc.length < sizeLine ∧ ∃ S8, Ext θ7 H7 θ7 (upd H7 Da (.lst (acc ++ [v]))) ∧ Rel B.G B.F θ7 S8 (upd H7 Da (.lst (acc ++ [v]))) ∧ Fin B (RD B.G) σ θ7 (upd H7 Da (.lst (acc ++ [v]))) (k S8) Q := by
  unfold lcEnd at f7
  cases q7 : S7[n]? with
  | none => rw [q7] at f7; exact f7.elim
  | some c =>
    cases c with
    | lst _ => rw [q7] at f7; exact f7.elim
    | dct _ => rw [q7] at f7; exact f7.elim
    | rev acc7 c7 =>
      rw [q7] at f7
      obtain ⟨hi, f8⟩ := Fin.ite (c := c7 < 16777216) f7
      have hDa := e7.get aD
      obtain ⟨xs, g1, g2, g3⟩ := R7.cells _ _ _ hDa q7
      have w := R7.writeC (o := .lst (xs ++ [v])) (c1 := .rev (y :: acc7) (c7 + 1)) hDa q7 fun e => ⟨xs ++ [v], upd_same, by
        rw [List.reverse_cons]
        exact (g2.append (.cons r7 .nil)).ext e, by simpa using g3⟩
      refine ⟨xs, g1, ?_, _, w.1, w.2, f8.ext w.1⟩
      rw [← g2.length, List.length_reverse]
      exact Nat.lt_of_le_of_lt g3 hi
theorem lcDone_ok {θ0 θ : List Addr} {H0 H' : Hp} {S : Store} {n : Nat} {Da : Addr} {σ : St} {Q : VK} (aD : θ0[n]? = some Da) (e3 : Ext θ0 H0 θ H') (R3 : Rel B.G B.F θ S H') (f3 : Fin B (RD B.G) σ θ H' (lcDone n S) Q) : Q (.ref Da) H' := by
  unfold lcDone at f3
  have hDa := e3.get aD
  cases q9 : S[n]? with
  | none => rw [q9] at f3; exact f3.elim
  | some c =>
    cases c with
    | lst _ => rw [q9] at f3; exact f3.elim
    | dct _ => rw [q9] at f3; exact f3.elim
    | rev acc k0 =>
      rw [q9] at f3
      obtain ⟨xs, g1, g2, _⟩ := R3.cells _ _ _ hDa q9
      have ew : upd H' Da (.lst xs) = H' := by
        funext b
        by_cases hb : b = Da
        · subst hb; rw [upd_same, g1]
        · rw [upd_ne hb]
      have w := R3.writeC (o := .lst xs) (c1 := .lst acc.reverse) hDa q9 fun e => ⟨xs, upd_same, g2.ext e⟩
      rw [ew] at w
      exact Fin.ok f3 w.1 w.2 (.ref hDa)
theorem lc2_read {it it1 : M Nx} {g g1 : TM} {t t1 : M Bool} {e : M D} {vs vs1 : List Nat} (σ : St) (H : Hp) (Q : VK) (h : rdE B (mLc2 it g t it1 g1 t1 e vs vs1) σ H Q) :
    tLc2 (rdI B it) (rdG B.blk (· ∈ vs) g) (rdT B.blk t) (rdI B.blk it1) (rdG B.blk (· ∈ vs1) g1) (rdT B.blk t1) (rdE B.blk e) vs vs1 σ H Q := by
  obtain ⟨ρ, S, θ, R0, rs, f⟩ := h
  refine ⟨ρ, S, θ, R0, rs, Fin.bind f fun nx S1 θ1 H1 J _ e1 R1 r1 f1 => fun Da hD => ?_⟩
  have e2 : Ext θ1 H1 (θ1 ++ [Da]) (upd H1 Da (.lst [])) := ext_cell hD
  have R2 : Rel B.G B.F (θ1 ++ [Da]) (S1 ++ [.rev [] 0]) (upd H1 Da (.lst [])) := R1.allocC hD ⟨[], upd_same, .nil, Nat.le_refl _⟩
  have rsw : RS B.G (θ1 ++ [Da]) (upd H1 Da (.lst [])) (wipeE ρ vs) (wipe σ vs) := (((rs.ext e1).ext e2).wipe vs)
  have aD : (θ1 ++ [Da])[S1.length]? = some Da := by rw [← R1.len, List.getElem?_concat_length]
  generalize hn : S1.length = n at f1 aD
  generalize hρ : wipeE ρ vs = ρw at f1 rsw
  let St2 : (Store → R D) → Hp → Prop := fun r H' => ∃ S θ, Ext (θ1 ++ [Da]) (upd H1 Da (.lst [])) θ H' ∧ Rel B.G B.F θ S H' ∧ Fin B (RD B.G) σ θ H' (r S) Q
  refine ⟨fun i m H' => St2 (lc2N nx g t it1 g1 t1 e vs1 ρw n m i) H', ⟨fuel, _, _, .refl, R2, f1.ext e2⟩, ?_⟩
  rintro i m H' ⟨S, θ, e3, R3, f3⟩
  cases m with
  | zero => exact f3.elim
  | succ m =>
    have ri := (r1.ext e2) i θ S H' e3 R3
    have rs3 := rsw.ext e3
    replace f3 : Fin B (RD B.G) σ θ H' (match nx i S with
      | some (some d) => (g d ρw S).noexc.bind fun ρ1 S1' => (t ρ1 S1').noexc.bind fun b S2 =>
        if b then (it1 ρ1 S2).noexc.bind fun nx1 S3 => lcIn nx1 g1 t1 e (wipeE ρ1 vs1) n fuel 0 S3 (lc2N nx g t it1 g1 t1 e vs1 ρw n m (i + 1)) else lc2N nx g t it1 g1 t1 e vs1 ρw n m (i + 1) S2
      | some none => lcDone n S
      | none => .bad) Q := f3
    cases q : nx i S with
    | none => rw [q] at f3; exact f3.elim
    | some o =>
      cases o with
      | none =>
        rw [q] at f3
        exact .inl ⟨ri.1 q, lcDone_ok aD e3 R3 f3⟩
      | some d =>
        rw [q] at f3
        replace f3 : Fin B (RD B.G) σ θ H' ((g d ρw S).noexc.bind fun ρ1 S1' => (t ρ1 S1').noexc.bind fun b S2 =>
          if b then (it1 ρ1 S2).noexc.bind fun nx1 S3 => lcIn nx1 g1 t1 e (wipeE ρ1 vs1) n fuel 0 S3 (lc2N nx g t it1 g1 t1 e vs1 ρw n m (i + 1)) else lc2N nx g t it1 g1 t1 e vs1 ρw n m (i + 1) S2) Q := f3
        obtain ⟨go, yl⟩ := ri.2 d q
        refine .inr ⟨go, fun H' => St2 (lc2N nx g t it1 g1 t1 e vs1 ρw n m (i + 1)) H', fun H' h => ⟨m, Nat.lt_succ_self _, h⟩, fun x H4 hy => ?_⟩
        obtain ⟨e4, R4, r4⟩ := yl x H4 hy
        refine ⟨ρw, S, θ, d, R4, rs3.ext e4, r4, Fin.toBlk (B := B) (σ := σ) (Fin.bind (f3.ext e4) fun ρ5 S5 θ5 H5 σ5 _ e5 R5 rs5 f5 => ?_)⟩
        refine ⟨(wipe_agr rs5.2).trans (wipe_agr Agr.wiped), ρ5, S5, θ5, R5, rs5.1, Fin.toBlk (B := B) (σ := σ) (Fin.bind f5 fun k S6 θ6 H6 b _ e6 R6 r6 f6 => ?_)⟩
        subst r6
        have e36 : Ext (θ1 ++ [Da]) (upd H1 Da (.lst [])) θ6 H6 := ((e3.trans e4).trans e5).trans e6
        cases k with
        | false =>
          rw [if_neg Bool.false_ne_true] at f6
          rw [if_neg Bool.false_ne_true]
          exact ⟨S6, θ6, e36, R6, f6⟩
        | true =>
          rw [if_pos rfl] at f6
          rw [if_pos rfl]
          refine ⟨ρ5, S6, θ6, R6, rs5.1.ext e6, Fin.toBlk (B := B) (σ := σ) (Fin.bind f6 fun nx1 S7 θ7 H7 J1 _ e7 R7 r7 f7 => ?_)⟩
          have rs7 : RS B.G θ7 H7 (wipeE ρ5 vs1) (wipe σ5 vs1) := ((rs5.1.ext e6).ext e7).wipe vs1
          refine ⟨fun j m' H' => ∃ S θ, Ext θ7 H7 θ H' ∧ Rel B.G B.F θ S H' ∧ Fin B (RD B.G) σ θ H' (lcIn nx1 g1 t1 e (wipeE ρ5 vs1) n m' j S (lc2N nx g t it1 g1 t1 e vs1 ρw n m (i + 1))) Q, ⟨fuel, _, _, .refl, R7, f7⟩, ?_⟩
          rintro j m' H8 ⟨S8, θ8, e8, R8, f8⟩
          cases m' with
          | zero => exact f8.elim
          | succ m' =>
            have ri1 := r7 j θ8 S8 H8 e8 R8
            replace f8 : Fin B (RD B.G) σ θ8 H8 (match nx1 j S8 with
              | some (some d) => (g1 d (wipeE ρ5 vs1) S8).noexc.bind fun ρ1 S1 => (t1 ρ1 S1).noexc.bind fun b S2 =>
                if b then (e ρ1 S2).noexc.bind fun y S3 => lcEnd n y S3 fun S4 => lcIn nx1 g1 t1 e (wipeE ρ5 vs1) n m' (j + 1) S4 (lc2N nx g t it1 g1 t1 e vs1 ρw n m (i + 1)) else lcIn nx1 g1 t1 e (wipeE ρ5 vs1) n m' (j + 1) S2 (lc2N nx g t it1 g1 t1 e vs1 ρw n m (i + 1))
              | some none => lc2N nx g t it1 g1 t1 e vs1 ρw n m (i + 1) S8
              | none => .bad) Q := f8
            cases q8 : nx1 j S8 with
            | none => rw [q8] at f8; exact f8.elim
            | some o =>
              cases o with
              | none =>
                rw [q8] at f8
                exact .inl ⟨ri1.1 q8, S8, θ8, (e36.trans e7).trans e8, R8, f8⟩
              | some d1 =>
                rw [q8] at f8
                replace f8 : Fin B (RD B.G) σ θ8 H8 ((g1 d1 (wipeE ρ5 vs1) S8).noexc.bind fun ρ1 S1 => (t1 ρ1 S1).noexc.bind fun b S2 =>
                  if b then (e ρ1 S2).noexc.bind fun y S3 => lcEnd n y S3 fun S4 => lcIn nx1 g1 t1 e (wipeE ρ5 vs1) n m' (j + 1) S4 (lc2N nx g t it1 g1 t1 e vs1 ρw n m (i + 1)) else lcIn nx1 g1 t1 e (wipeE ρ5 vs1) n m' (j + 1) S2 (lc2N nx g t it1 g1 t1 e vs1 ρw n m (i + 1))) Q := f8
                obtain ⟨go1, yl1⟩ := ri1.2 d1 q8
                refine .inr ⟨go1, fun H' => ∃ S θ, Ext θ7 H7 θ H' ∧ Rel B.G B.F θ S H' ∧ Fin B (RD B.G) σ θ H' (lcIn nx1 g1 t1 e (wipeE ρ5 vs1) n m' (j + 1) S (lc2N nx g t it1 g1 t1 e vs1 ρw n m (i + 1))) Q, fun H' h => ⟨m', Nat.lt_succ_self _, h⟩, fun x H9 hy => ?_⟩
                obtain ⟨e9, R9, r9⟩ := yl1 x H9 hy
                have e89 := e8.trans e9
                refine ⟨wipeE ρ5 vs1, S8, θ8, d1, R9, rs7.ext e89, r9, Fin.toBlk (B := B) (σ := σ) (Fin.bind (f8.ext e9) fun ρa Sa θa Ha σa _ ea Ra rsa fa => ?_)⟩
                refine ⟨(wipe_agr rsa.2).trans (wipe_agr Agr.wiped), ρa, Sa, θa, Ra, rsa.1, Fin.toBlk (B := B) (σ := σ) (Fin.bind fa fun k Sb θb Hb b _ eb Rb rb fb => ?_)⟩
                subst rb
                have e7b : Ext θ7 H7 θb Hb := (e89.trans ea).trans eb
                cases k with
                | false =>
                  rw [if_neg Bool.false_ne_true] at fb
                  rw [if_neg Bool.false_ne_true]
                  exact ⟨Sb, θb, e7b, Rb, fb⟩
                | true =>
                  rw [if_pos rfl] at fb
                  rw [if_pos rfl]
                  refine ⟨ρa, Sb, θb, Rb, rsa.1.ext eb, Fin.toBlk (B := B) (σ := σ) (Fin.bind fb fun y Sc θc Hc v _ ec Rc rc fc => ?_)⟩
                  obtain ⟨acc, k1, k2, S9, k3, k4, k5⟩ := lcEnd_ok aD (((e36.trans e7).trans e7b).trans ec) Rc rc fc
                  exact ⟨acc, k1, k2, S9, θc, (e7b.trans ec).trans k3, k4, k5⟩
section
variable {elt tg iter tg1 iter1 : Expr} {ifs ifs1 : List Expr} {scope : Scope} {own : List (Str × Nat)} {vs1 : List Nat} {it it1 : M Nx} {g g1 : TM} {t t1 : M Bool} {e : M D}
theorem de_lc2 (hc : X.calm = true) (hN : X.N.Nodup) (hi : PI X tg iter (rdI B it)) (ok : BlkOk X.N X.env.scope scope own) (hv : ∀ i ∈ vs1, i ∈ own.map (·.2))
    (hg : ∀ s H C cl fp, PG (X.blk s H scope (compEnvC scope cl C X.env) fp) tg (rdG B.blk (· ∈ own.map (·.2)) g)) (ht : ∀ s H C cl fp, PTs (X.blk s H scope (compEnvC scope cl C X.env) fp) ifs (rdT B.blk t))
    (hi1 : ∀ s H C cl fp, PI (X.blk s H scope (compEnvC scope cl C X.env) fp) tg1 iter1 (rdI B.blk it1)) (hg1 : ∀ s H C cl fp, PG (X.blk s H scope (compEnvC scope cl C X.env) fp) tg1 (rdG B.blk (· ∈ vs1) g1)) (ht1 : ∀ s H C cl fp, PTs (X.blk s H scope (compEnvC scope cl C X.env) fp) ifs1 (rdT B.blk t1))
    (he : ∀ s H C cl fp, PE (X.blk s H scope (compEnvC scope cl C X.env) fp) elt (rdE B.blk e)) (hs : ∀ x, foldedSetIterable iter X.env x = pure x := by intro _; rfl) (hs1 : ∀ env x, foldedSetIterable iter1 env x = pure x := by intro _ _; rfl) :
    PE X (.ListComp elt [⟨tg, iter, ifs, 0⟩, ⟨tg1, iter1, ifs1, 0⟩] scope pos) (rdE B (mLc2 it g t it1 g1 t1 e (own.map (·.2)) vs1)) :=
  PE.imp (pe_lc2 hc hN hi ok hv hg ht hi1 hg1 ht1 he hs hs1) lc2_read
theorem ds_setLc2 {i : Nat} {y : Str} {py spos : Pos} (hc : X.calm = true) (hN : X.N.Nodup) (hy : X.N[i]? = some y) (hyl : X.env.scope.names.lookup y = some .local)
    (hw : swapsWith (.ListComp elt [⟨tg, iter, ifs, 0⟩, ⟨tg1, iter1, ifs1, 0⟩] scope pos) (some (.Name y py)) spos.line X.env = pure true) (hi : PI X tg iter (rdI B it)) (ok : BlkOk X.N X.env.scope scope own) (hv : ∀ i ∈ vs1, i ∈ own.map (·.2))
    (hg : ∀ s H C cl fp, PG (X.blk s H scope (compEnvC scope cl C X.env) fp) tg (rdG B.blk (· ∈ own.map (·.2)) g)) (ht : ∀ s H C cl fp, PTs (X.blk s H scope (compEnvC scope cl C X.env) fp) ifs (rdT B.blk t))
    (hi1 : ∀ s H C cl fp, PI (X.blk s H scope (compEnvC scope cl C X.env) fp) tg1 iter1 (rdI B.blk it1)) (hg1 : ∀ s H C cl fp, PG (X.blk s H scope (compEnvC scope cl C X.env) fp) tg1 (rdG B.blk (· ∈ vs1) g1)) (ht1 : ∀ s H C cl fp, PTs (X.blk s H scope (compEnvC scope cl C X.env) fp) ifs1 (rdT B.blk t1))
    (he : ∀ s H C cl fp, PE (X.blk s H scope (compEnvC scope cl C X.env) fp) elt (rdE B.blk e)) (hs : ∀ x, foldedSetIterable iter X.env x = pure x := by intro _; rfl) (hs1 : ∀ env x, foldedSetIterable iter1 env x = pure x := by intro _ _; rfl) :
    PS X (.Assign [.Name y py] (.ListComp elt [⟨tg, iter, ifs, 0⟩, ⟨tg1, iter1, ifs1, 0⟩] scope pos) spos) (rdS B (sSet i (mLc2 it g t it1 g1 t1 e (own.map (·.2)) vs1))) :=
  PS.imp (ps_setLc2 hc hN hy hyl hw hi ok hv hg ht hi1 hg1 ht1 he hs hs1) fun D σ H ⟨ρ, S, θ, R0, rs, f⟩ => lc2_read σ H _ ⟨ρ, S, θ, R0, rs, FinS.bind rs f fun d S1 θ1 H1 v _ e1 R1 r1 f1 => f1 θ1 _ H1 .refl R1 ((rs.ext e1).set r1 i)⟩
end
end
end DM

namespace DM
open PySem PySem.Spec L2
open PyProof.Rows hiding St

def insP {α : Type} (x : α × List Int) : List (α × List Int) → List (α × List Int)
  | [] => [x]
  | y :: r => if HT.lexLt y.2 x.2 then y :: insP x r else x :: y :: r
def srtP {α : Type} : List (α × List Int) → List (α × List Int)
  | [] => []
  | x :: r => insP x (srtP r)
theorem insP_split {α : Type} (x : α × List Int) (b : List (α × List Int)) (hb : ∀ y ∈ b, HT.lexLt y.2 x.2 = false) : ∀ a : List (α × List Int), (∀ y ∈ a, HT.lexLt y.2 x.2 = true) → insP x (a ++ b) = a ++ x :: b
  | [], _ => by
    cases b with
    | nil => rfl
    | cons y r =>
      show (if HT.lexLt y.2 x.2 then y :: insP x r else x :: y :: r) = _
      rw [hb y List.mem_cons_self]
      rfl
  | y :: a, ha => by
    show (if HT.lexLt y.2 x.2 then y :: insP x (a ++ b) else x :: y :: (a ++ b)) = _
    rw [ha y List.mem_cons_self, if_pos rfl, insP_split x b hb a fun z hz => ha z (List.mem_cons_of_mem _ hz)]
    rfl
def leP {α : Type} (a b : α × List Int) : Bool := !HT.lexLt b.2 a.2
theorem leP_trans {α : Type} (a b c : α × List Int) (h1 : leP a b = true) (h2 : leP b c = true) : leP a c = true := by
  unfold leP at *
  rw [Bool.not_eq_true'] at h1 h2 ⊢
  cases q : HT.lexLt c.2 a.2 with
  | false => rfl
  | true =>
    rcases lexLt_nt c.2 b.2 a.2 q with w | w
    · rw [h2] at w; cases w
    · rw [h1] at w; cases w
theorem leP_total {α : Type} (a b : α × List Int) : (leP a b || leP b a) = true := by
  unfold leP
  cases q : HT.lexLt b.2 a.2 with
  | false => rfl
  | true => rw [lexLt_asym _ _ q]; rfl
theorem srtP_eq {α : Type} : ∀ l : List (α × List Int), l.mergeSort leP = srtP l
  | [] => by simp [srtP]
  | x :: r => by
    obtain ⟨l1, l2, e1, e2, e3⟩ := List.mergeSort_cons (le := leP) leP_trans leP_total x r
    have hs := List.pairwise_mergeSort (le := leP) leP_trans leP_total (x :: r)
    rw [e1] at hs
    rw [e1]
    unfold srtP
    rw [← srtP_eq r, e2]
    refine (insP_split x l2 (fun y hy => ?_) l1 fun y hy => ?_).symm
    · have z := (List.pairwise_append.mp hs).2.1
      have z2 := (List.pairwise_cons.mp z).1 y hy
      unfold leP at z2
      rwa [Bool.not_eq_true'] at z2
    · have z := e3 y hy
      unfold leP at z
      simpa using z
def sortKTD (xs ks : List D) (S : Store) : R D := match tupsI ks with
  | some ls => if ls.length == xs.length then .ok (.ref S.length) (S ++ [.lst ((srtP (xs.zip ls)).map (·.1))]) else .bad
  | none => sortKD xs ks S
theorem sortKTD_eq (xs ks : List D) (S : Store) : sortKTD xs ks S = sortKD xs ks S := by
  unfold sortKTD
  cases q : tupsI ks with
  | none => rfl
  | some ls =>
    obtain ⟨h1, h2⟩ := tupsI_ok q
    subst h1
    unfold sortKD
    rw [toPy_tups]
    dsimp only
    rw [okK_tups ls h2, Bool.true_and, List.length_map]
    have e : srtD xs (ls.map pyT) = (srtP (xs.zip ls)).map (·.1) := by
      unfold srtD
      rw [List.zip_map_right]
      have z := List.map_mergeSort (r := leP) (s := PySem.W.dataLe false (·.2)) (f := Prod.map id pyT) (l := xs.zip ls) (fun a ha b hb => by
        show (!HT.lexLt b.2 a.2) = !PySem.W.dataLt (pyT b.2) (pyT a.2)
        rw [dataLt_pyT])
      rw [← z, List.map_map, srtP_eq]
      rfl
    rw [e]
def mSortKT (m : Fm) (a : M (List D)) : M D := fun ρ S => (a ρ S).bind fun ds S1 => match one1 ds with
  | some d => match getSeq d S1 with
    | some xs => (keysD m xs S1).noexc.bind fun ks S2 => sortKTD xs ks S2
    | none => .bad
  | none => .bad
theorem mSortKT_eq (m : Fm) (a : M (List D)) : mSortKT m a = mSortK m a := by
  have e : sortKTD = sortKD := by
    funext xs ks S
    exact sortKTD_eq xs ks S
  unfold mSortKT mSortK
  rw [e]
  all_goals rfl
theorem kd_of {K : PySem.W.Frag} {w : World} {d : Addr} {es : Array DictEntry} {n : Nat} (hl : K.lookup d = some ⟨.type "dict", none, .dict es n, #[]⟩) (hk : PySem.W.KeysLit w.params es.toList) {T : List (Str × Int)}
    (h : ∀ p ∈ T, ∃ t, PySem.W.nsIn K d p.1 = some (some (.int p.2 t))) (z : Str) (i : Int) (hz : T.lookup z = some i) : KDct K w d z (.int i) := by
  obtain ⟨t, e⟩ := h (z, i) (PySem.mem_of_lookup hz)
  exact ⟨es, n, _, hl, hk, e, ⟨t, rfl⟩⟩
section
variable {X : Cx} {B : Bv} {pos : Pos}
theorem de_kt {e : Expr} {m : Fm} {a : M (List D)} (h : PE X e (rdE B (mSortK m a))) : PE X e (rdE B (mSortKT m a)) := by
  rw [mSortKT_eq]
  exact h
/-- a, b, c = x, y, z -/
def sPar3 (i j l : Nat) (a : M (List D)) : SM := fun ρ S => (a ρ S).toS ρ fun ds S1 => match ds with
  | [d, e, f] => .nx (((ρ.set i (some d)).set j (some e)).set l (some f)) S1
  | _ => .bad
theorem rds3 {G : Gv} {θ : List Addr} {H : Hp} {a b c : D} {vs : List V} (r : RDs G θ H [a, b, c] vs) : ∃ x y z, vs = [x, y, z] ∧ RD G θ H a x ∧ RD G θ H b y ∧ RD G θ H c z := by
  cases r with
  | cons r1 t =>
    obtain ⟨y, z, rfl, r2, r3⟩ := rds2 t
    exact ⟨_, y, z, rfl, r1, r2, r3⟩
theorem ds_par3 {i j l : Nat} {st : Stmt} {es : List Expr} {a : M (List D)} (h : ∀ ta, PA X es ta → PS X st (tPar3 i j l ta)) (ha : PA X es (rdA B a)) : PS X st (rdS B (sPar3 i j l a)) :=
  PS.imp (h _ ha) fun D σ H ⟨ρ, S, θ, R0, rs, f⟩ => ⟨ρ, S, θ, R0, rs, FinS.bind rs f fun ds S1 θ1 H1 vs _ e1 R1 r1 f1 => by
    match ds, r1, f1 with
    | [d, e, g], r1, f1 =>
      obtain ⟨x, y, z, rfl, k1, k2, k3⟩ := rds3 r1
      exact ⟨x, y, z, rfl, f1 θ1 _ H1 .refl R1 ((((rs.ext e1).set k1 i).set k2 j).set k3 l)⟩⟩
end
end DM

namespace DM
open PySem PySem.Spec L2
open PyProof.Rows hiding St

mutual
/-- all cells that d names are below n -/
def belowD (n : Nat) : D → Bool
  | .ref j => decide (j < n)
  | .tup ds => belowAll n ds
  | .pr ds => belowAll n ds
  | .lst ds => belowAll n ds
  | .kst ds => belowAll n ds
  | .brw ds => belowAll n ds
  | .int _ => true
  | .str _ => true
  | .bl _ => true
  | .non => true
  | .fn _ => true
  | .ty _ => true
def belowAll (n : Nat) : List D → Bool
  | [] => true
  | d :: ds => belowD n d && belowAll n ds
end
def belowK (n : Nat) : List (Key × D) → Bool
  | [] => true
  | p :: r => belowD n p.2 && belowK n r
def belowC (n : Nat) : C → Bool
  | .lst ds => belowAll n ds
  | .dct kvs => belowK n kvs
  | .rev ds _ => belowAll n ds
def belowS (n : Nat) : Store → Bool
  | [] => true
  | c :: r => belowC n c && belowS n r
def belowE (n : Nat) : Env → Bool
  | [] => true
  | none :: r => belowE n r
  | some d :: r => belowD n d && belowE n r
section
variable {G : Gv} {θ θ' : List Addr} {H : Hp} {n : Nat}
mutual
theorem RD.cut (hr : ∀ (j : Nat) a, j < n → θ'[j]? = some a → θ[j]? = some a) (hm : ∀ a, a ∉ θ' → a ∉ θ) : ∀ {d : D} {v : V}, RD G θ' H d v → belowD n d = true → RD G θ H d v
  | _, _, .non, _ => .non
  | _, _, .bl b, _ => .bl b
  | _, _, .int i, _ => .int i
  | _, _, .str s, _ => .str s
  | _, _, .ty s, _ => .ty s
  | _, _, .tup (ds := ds) h1 h2, c => .tup h1 (RDs.cut hr hm h2 (by simpa [belowD] using c))
  | _, _, .pr (ds := ds) h1 h2, c => .pr h1 (RDs.cut hr hm h2 (by simpa [belowD] using c))
  | _, _, .lst (ds := ds) h0 h1 h2 h3, c => .lst h0 (hm _ h1) h2 (RDs.cut hr hm h3 (by simpa [belowD] using c))
  | _, _, .brw (ds := ds) h1 h2 h3, c => .brw (hm _ h1) h2 (RDs.cut hr hm h3 (by simpa [belowD] using c))
  | _, _, .kst (ds := ds) h1 h2, c => .kst h1 (RDs.cut hr hm h2 (by simpa [belowD] using c))
  | _, _, .ref h, c => .ref (hr _ _ (by simpa [belowD] using c) h)
  | _, _, .fn h, _ => .fn h
theorem RDs.cut (hr : ∀ (j : Nat) a, j < n → θ'[j]? = some a → θ[j]? = some a) (hm : ∀ a, a ∉ θ' → a ∉ θ) : ∀ {ds : List D} {vs : List V}, RDs G θ' H ds vs → belowAll n ds = true → RDs G θ H ds vs
  | _, _, .nil, _ => .nil
  | _, _, .cons r t, c => by
    simp only [belowAll, Bool.and_eq_true] at c
    exact .cons (RD.cut hr hm r c.1) (RDs.cut hr hm t c.2)
end
theorem RK.cut (hr : ∀ (j : Nat) a, j < n → θ'[j]? = some a → θ[j]? = some a) (hm : ∀ a, a ∉ θ' → a ∉ θ) : ∀ {r : List (Key × D)} {s : List (Key × V)}, RK G θ' H r s → belowK n r = true → RK G θ H r s
  | _, _, .nil, _ => .nil
  | _, _, .cons h t, c => by
    simp only [belowK, Bool.and_eq_true] at c
    exact .cons (RD.cut hr hm h c.1) (RK.cut hr hm t c.2)
theorem RS.cut (hr : ∀ (j : Nat) a, j < n → θ'[j]? = some a → θ[j]? = some a) (hm : ∀ a, a ∉ θ' → a ∉ θ) : ∀ {ρ : Env} {σ : St}, RS G θ' H ρ σ → belowE n ρ = true → RS G θ H ρ σ
  | _, _, .nil, _ => .nil
  | _, _, .no t, c => .no (RS.cut hr hm t c)
  | _, _, .yes h t, c => by
    simp only [belowE, Bool.and_eq_true] at c
    exact .yes (RD.cut hr hm h c.1) (RS.cut hr hm t c.2)
theorem belowAll_rev {n : Nat} {ds : List D} (h : belowAll n ds = true) : belowAll n ds.reverse = true := by
  have go : ∀ (a b : List D), belowAll n a = true → belowAll n b = true → belowAll n (a ++ b) = true := fun a b ha hb => by
    induction a with
    | nil => exact hb
    | cons x a ih =>
      simp only [belowAll, Bool.and_eq_true] at ha
      show (belowD n x && belowAll n (a ++ b)) = true
      rw [ha.1, ih ha.2]; rfl
  induction ds with
  | nil => rfl
  | cons x r ih =>
    simp only [belowAll, Bool.and_eq_true] at h
    rw [List.reverse_cons]
    exact go _ _ (ih h.2) (by show (belowD n x && true) = true; rw [h.1]; rfl)
theorem belowS_get : ∀ {S : Store} {j : Nat} {c : C}, belowS n S = true → S[j]? = some c → belowC n c = true
  | [], _, _, _, e => by simp at e
  | c0 :: r, 0, c, h, e => by
    simp only [belowS, Bool.and_eq_true] at h
    simp at e; subst e; exact h.1
  | c0 :: r, j + 1, c, h, e => by
    simp only [belowS, Bool.and_eq_true] at h
    exact belowS_get (j := j) h.2 (by simpa using e)
theorem rc_cut (hr : ∀ (j : Nat) a, j < n → θ'[j]? = some a → θ[j]? = some a) (hm : ∀ a, a ∉ θ' → a ∉ θ) {c : C} {a : Addr} (h : RC G θ' H c a) (b : belowC n c = true) : RC G θ H c a := by
  cases c with
  | lst ds => obtain ⟨xs, h1, h2⟩ := h; exact ⟨xs, h1, h2.cut hr hm b⟩
  | dct kvs => obtain ⟨xs, h1, h2⟩ := h; exact ⟨xs, h1, h2.cut hr hm b⟩
  | rev ds k => obtain ⟨xs, h1, h2, h3⟩ := h; exact ⟨xs, h1, h2.cut hr hm (belowAll_rev b), h3⟩
end
/-- the store, cut back to n cells where nothing else is named -/
def gcS (n : Nat) (ρ : Env) (S : Store) : Store := if (belowE n ρ && belowS n (S.take n)) = true then S.take n else S
def SR.gc (n : Nat) : SR → SR
  | .nx ρ S => .nx ρ (gcS n ρ S)
  | .ct ρ S => .ct ρ (gcS n ρ S)
  | r => r
def sGC (b : SM) : SM := fun ρ S => (b ρ S).gc S.length
section
variable {X : Cx} {B : Bv}
theorem gc_ok {θ θ' : List Addr} {H H' : Hp} {S S' : Store} {ρ' : Env} {σ' : St} (R0 : Rel B.G B.F θ S H) (e : Ext θ H θ' H') (R1 : Rel B.G B.F θ' S' H') (rs : RS B.G θ' H' ρ' σ') :
    ∃ θ2, Ext θ H θ2 H' ∧ Rel B.G B.F θ2 (gcS S.length ρ' S') H' ∧ RS B.G θ2 H' ρ' σ' := by
  unfold gcS
  split
  · rename_i c
    rw [Bool.and_eq_true] at c
    have hl := R0.len
    have hr : ∀ (j : Nat) a, j < S.length → θ'[j]? = some a → θ[j]? = some a := fun j a hj h => by
      obtain ⟨nw, rfl, _⟩ := e.pre
      rwa [List.getElem?_append_left (by omega)] at h
    have hm : ∀ a, a ∉ θ' → a ∉ θ := fun a h z => by
      obtain ⟨nw, rfl, _⟩ := e.pre
      exact h (List.mem_append_left _ z)
    have hlen : S.length ≤ S'.length := by
      obtain ⟨nw, e1, _⟩ := e.pre
      have := R1.len
      rw [e1, List.length_append] at this
      omega
    refine ⟨θ, .of_keep e.keep, ⟨by rw [List.length_take]; omega, R0.nd, fun j a c0 h1 h2 => ?_, ⟨R0.fr.pre, R1.fr.keep⟩, R1.pht⟩, rs.cut hr hm c.1⟩
    have hj : j < S.length := hl ▸ (List.getElem?_eq_some_iff.mp h1).1
    have h3 : S'[j]? = some c0 := by rwa [List.getElem?_take_of_lt hj] at h2
    exact rc_cut hr hm (R1.cells j a c0 (e.get h1) h3) (belowS_get c.2 h2)
  · exact ⟨θ', e, R1, rs⟩
theorem ds_gc {ss : List Stmt} {b : SM} (h : PSs X ss (rdS B b)) : PSs X ss (rdS B (sGC b)) := PSs.imp h fun D σ H ⟨ρ, S, θ, R0, rs, f⟩ => by
  refine ⟨ρ, S, θ, R0, rs, ?_⟩
  unfold sGC at f
  cases q : b ρ S with
  | nx ρ' S' =>
    rw [q] at f
    intro θ' σ' H' e R1 rs1
    obtain ⟨θ2, k1, k2, k3⟩ := gc_ok R0 e R1 rs1
    exact f θ2 σ' H' k1 k2 k3
  | ct ρ' S' =>
    rw [q] at f
    intro θ' σ' H' e R1 rs1
    obtain ⟨θ2, k1, k2, k3⟩ := gc_ok R0 e R1 rs1
    exact f θ2 σ' H' k1 k2 k3
  | bk => rw [q] at f; exact f
  | rt => rw [q] at f; exact f
  | exc => rw [q] at f; exact f
  | bad => rw [q] at f; exact f
end
end DM

namespace Law
open PySem PySem.Spec L2 DM
open PyProof.Rows hiding St
def T_PLACES : List (Str × Int) := [(("l" : Str), -1), (("c" : Str), 0), (("r" : Str), 1)]
/-- is_whole(value) -/
def b_0 : SM :=
  sRet (mAnd (mBlt isiD (mCons (mVar 0) (mCons (mC (.ty .int)) (mNil)))) (mNot (mBlt isiD (mCons (mVar 0) (mCons (mC (.ty .bool)) (mNil))))))
def m_0 : Fm := defM 0 b_0
/-- is_near(value) -/
def b_1 : SM :=
  sRet (mAnd (mCall m_0 (mCons (mVar 0) (mNil))) (mChain (cmpD ltC) (cmpD ltC) (mUn negD (mC (.int (1000000000000000000000000000000000000000000000000000000000000)))) (mVar 0) (mC (.int (1000000000000000000000000000000000000000000000000000000000000)))))
def m_1 : Fm := defM 0 b_1
/-- require_number(value, least, most) -/
def b_2 : SM :=
  sIf (mOrT (mNotT (mTest (mCall m_1 (mCons (mVar 0) (mNil))))) (mOrT (mAndT (mTest (mBin (cmpD notNC) (mVar 1) (mC .non))) (mTest (mBin (cmpD ltC) (mVar 0) (mVar 1)))) (mAndT (mTest (mBin (cmpD notNC) (mVar 2) (mC .non))) (mTest (mBin (cmpD gtC) (mVar 0) (mVar 2)))))) ((fun _ _ => .bad)) (sNil)
def m_2 : Fm := defM 0 b_2
/-- is_word_in(value, sign) -/
def b_3 : SM :=
  sSeq (sIf (mOrT (mNotT (mTest (mBlt isiD (mCons (mVar 0) (mCons (mC (.ty .str)) (mNil)))))) (mOrT (mNotT (mTest (mChain (cmpD (ltI fun i j => decide (i ≤ j))) (cmpD (ltI fun i j => decide (i ≤ j))) (mC (.int 1)) (mBlt lenD (mCons (mVar 0) (mNil))) (mC (.int (24)))))) (mTest (mBin (cmpD neC) (mBin itemD (mVar 0) (mUn negD (mC (.int 1)))) (mC (.str ("c" : Str))))))) (sRet (mC (.bl false))) (sNil)) (sRet (mBlt allD (mCons (mLc (mIter (mSlice (mVar 0) (mNoPart) (mPart (mUn negD (mC (.int 1)))))) (tName 1) (mYes) (mBin (cmpD inC) (mVar 1) (mTup (mCons (mC (.str ("l" : Str))) (mCons (mC (.str ("r" : Str))) (mNil))))) [1]) (mNil))))
def m_3 : Fm := defM 1 b_3
/-- key_of_signs(signs, found, sense, sign) -/
def b_4 : SM :=
  sSeq (sPar 1 2 (mCons (mLst (mNil)) (mCons (mC (.int 1)) (mNil)))) (sSeq (sFor (mIter (mVar 0)) (tName 3) (sSeq (sExpr (mMth appendD (mVar 1) (mCons (mBin mulD (mVar 2) (mKd T_PLACES (mVar 3))) (mNil)))) (sIf (mTest (mBin (cmpD eqC) (mVar 3) (mC (.str ("r" : Str))))) (sSet 2 (mUn negD (mVar 2))) (sNil)))) (sRet (mBlt tupleD (mCons (mVar 1) (mNil)))))
def m_4 : Fm := defM 3 b_4
/-- words_compared(one, other, first, second) -/
def b_5 : SM :=
  sSeq (sPar 2 3 (mCons (mCall m_4 (mCons (mVar 0) (mNil))) (mCons (mCall m_4 (mCons (mVar 1) (mNil))) (mNil)))) (sRet (mBin subD (mBlt toIntD (mCons (mBin (cmpD gtC) (mVar 2) (mVar 3)) (mNil))) (mBlt toIntD (mCons (mBin (cmpD ltC) (mVar 2) (mVar 3)) (mNil)))))
def m_5 : Fm := defM 2 b_5
/-- shifted(word, i) -/
def b_6 : SM :=
  sRet (mBin addD (mSlice (mVar 0) (mPart (mVar 1)) (mNoPart)) (mSlice (mVar 0) (mNoPart) (mPart (mVar 1))))
def m_6 : Fm := defM 0 b_6
/-- beaten_at(word, i) -/
def b_7 : SM :=
  sSeq (sFor (mRng (mCons (mC (.int 1)) (mCons (mBlt lenD (mCons (mVar 0) (mNil))) (mNil)))) (tName 1) (sIf (mTest (mBin (cmpD gtC) (mCall m_5 (mCons (mCall m_6 (mCons (mVar 0) (mCons (mVar 1) (mNil)))) (mCons (mVar 0) (mNil)))) (mC (.int 0)))) (sRet (mVar 1)) (sNil))) (sRet (mC .non))
def m_7 : Fm := defM 1 b_7
/-- is_greatest_in(word) -/
def b_8 : SM :=
  sRet (mBin (cmpD isNC) (mCall m_7 (mCons (mVar 0) (mNil))) (mC .non))
def m_8 : Fm := defM 0 b_8
/-- all_words(n, found, turn, row, sign) -/
def b_9 : SM :=
  sSeq (sSet 1 (mLst (mCons (mC (.str ("" : Str))) (mNil)))) (sSeq (sFor (mRng (mCons (mBin subD (mVar 0) (mC (.int 1))) (mNil))) (tName 2) (sSet 1 (mLc2 (mIter (mVar 1)) (tName 3) (mYes) (mIter (mTup (mCons (mC (.str ("l" : Str))) (mCons (mC (.str ("r" : Str))) (mNil))))) (tName 4) (mYes) (mBin addD (mVar 3) (mVar 4)) [3, 4] [4]))) (sRet (mLc (mIter (mVar 1)) (tName 3) (mYes) (mBin addD (mVar 3) (mC (.str ("c" : Str)))) [3])))
def m_9 : Fm := defM 4 b_9
/-- greatest_words_in(n, word) -/
def b_10 : SM :=
  sRet (mSortKT m_4 (mCons (mLc (mIter (mCall m_9 (mCons (mVar 0) (mNil)))) (tName 1) (mTest (mCall m_8 (mCons (mVar 1) (mNil)))) (mVar 1) [1]) (mNil)))
def m_10 : Fm := defM 1 b_10
/-- moebius_in(number, found, factor) -/
def b_11 : SM :=
  sSeq (sAsg (mTup (mCons (mC (.int 1)) (mCons (mC (.int 2)) (mNil)))) (tTupG 2 (tConss (tName 1) (tConss (tName 2) (tNils))))) (sSeq (sWhile (mTest (mBin (cmpD gtC) (mVar 0) (mC (.int 1)))) (sSeq (sIf (mTest (mBin (cmpD eqC) (mBin modD (mVar 0) (mVar 2)) (mC (.int 0)))) (sSeq (sAug 0 fdivD (mVar 2)) (sSeq (sIf (mTest (mBin (cmpD eqC) (mBin modD (mVar 0) (mVar 2)) (mC (.int 0)))) (sRet (mC (.int 0))) (sNil)) (sSet 1 (mUn negD (mVar 1))))) (sNil)) (sAug 2 addI (mC (.int 1))))) (sRet (mVar 1)))
def m_11 : Fm := defM 2 b_11
/-- count_greatest_in(n, found, divisor) -/
def b_12 : SM :=
  sSeq (sSet 1 (mC (.int 0))) (sSeq (sFor (mRng3 (mCons (mC (.int 1)) (mCons (mBin addD (mVar 0) (mC (.int 1))) (mCons (mC (.int 2)) (mNil))))) (tName 2) (sIf (mTest (mBin (cmpD eqC) (mBin modD (mVar 0) (mVar 2)) (mC (.int 0)))) (sAug 1 addI (mBin mulD (mCall m_11 (mCons (mVar 2) (mNil))) (mBin shlD (mC (.int 1)) (mBin fdivD (mVar 0) (mVar 2))))) (sNil))) (sRet (mBin fdivD (mVar 1) (mBin mulD (mC (.int 2)) (mVar 0)))))
def m_12 : Fm := defM 2 b_12
/-- require_word(value) -/
def b_13 : SM :=
  sIf (mNotT (mTest (mCall m_3 (mCons (mVar 0) (mNil))))) ((fun _ _ => .bad)) (sNil)
def m_13 : Fm := defM 0 b_13
/-- require_two_words(word, other) -/
def b_14 : SM :=
  sSeq (sExpr (mCall m_13 (mCons (mVar 0) (mNil)))) (sExpr (mCall m_13 (mCons (mVar 1) (mNil))))
def m_14 : Fm := defM 0 b_14
/-- is_above(word, other) -/
def b_15 : SM :=
  sSeq (sExpr (mCall m_14 (mCons (mVar 0) (mCons (mVar 1) (mNil))))) (sRet (mBin (cmpD gtC) (mCall m_5 (mCons (mVar 0) (mCons (mVar 1) (mNil)))) (mC (.int 0))))
def m_15 : Fm := defM 0 b_15
/-- greatest_words(n) -/
def b_16 : SM :=
  sSeq (sExpr (mCall m_2 (mCons (mVar 0) (mCons (mC (.int 1)) (mCons (mC (.int (14))) (mNil)))))) (sRet (mBlt tupleD (mCons (mCall m_10 (mCons (mVar 0) (mNil))) (mNil))))
def m_16 : Fm := defM 0 b_16
/-- count_greatest(n) -/
def b_17 : SM :=
  sSeq (sExpr (mCall m_2 (mCons (mVar 0) (mCons (mC (.int 1)) (mCons (mC (.int (200))) (mNil)))))) (sRet (mCall m_12 (mCons (mVar 0) (mNil))))
def m_17 : Fm := defM 0 b_17
/-- _law_dice(script, spot, cell, left) -/
def b_18 : SM :=
  sSeq (sSet 2 (mIf (mTest (mBin (cmpD ltC) (mVar 1) (mBlt lenD (mCons (mVar 0) (mNil))))) (mBlt toIntD (mCons (mBin itemD (mVar 0) (mVar 1)) (mNil))) (mBin addD (mBin mulD (mC (.int 97)) (mVar 1)) (mC (.int 43))))) (sSeq (sSet 3 (mBin modD (mBlt max2D (mCons (mC (.int 0)) (mCons (mBin subD (mBlt absD (mCons (mVar 2) (mNil))) (mBin powD (mC (.int 10)) (mC (.int 17)))) (mNil)))) (mBin mulD (mBin powD (mC (.int 10)) (mC (.int 60))) (mBin powD (mC (.int 10)) (mC (.int 60)))))) (sRet (mLst (mCons (mVar 3) (mCons (mBin addD (mBin addD (mBin addD (mBin mulD (mBin modD (mBlt absD (mCons (mVar 2) (mNil))) (mC (.int 1152921504606846737))) (mC (.int 37))) (mBin mulD (mC (.int 859)) (mVar 1))) (mBin mulD (mC (.int 31)) (mBlt toIntD (mCons (mBin (cmpD ltC) (mVar 2) (mC (.int 0))) (mNil))))) (mC (.int 17))) (mCons (mC (.int 0)) (mNil)))))))
def m_18 : Fm := defM 2 b_18
/-- _law_roll(dice, total, found, one, two) -/
def b_19 : SM :=
  sSeq (sIf (mTest (mBin (cmpD gtC) (mBin itemD (mVar 0) (mC (.int 0))) (mC (.int 0)))) (sSeq (sSet 2 (mBin modD (mBlt toIntD (mCons (mBin itemD (mVar 0) (mC (.int 0))) (mNil))) (mVar 1))) (sSeq (sAsg (mBin fdivD (mBin itemD (mVar 0) (mC (.int 0))) (mVar 1)) (tSub (mVar 0) (mC (.int 0)))) (sRet (mVar 2)))) (sNil)) (sSeq (sAsg (mBin addD (mBin itemD (mVar 0) (mC (.int 2))) (mC (.int 1))) (tSub (mVar 0) (mC (.int 2)))) (sSeq (sSet 3 (mBin modD (mBlt toIntD (mCons (mBin addD (mBin itemD (mVar 0) (mC (.int 1))) (mBin mulD (mC (.int 15486209)) (mBin itemD (mVar 0) (mC (.int 2))))) (mNil))) (mC (.int 2305843009213693951)))) (sSeq (sSet 4 (mBin addD (mBin mulD (mBin modD (mBlt toIntD (mCons (mBin addD (mBin mulD (mVar 3) (mVar 3)) (mBin mulD (mC (.int 199)) (mBin itemD (mVar 0) (mC (.int 2))))) (mNil))) (mC (.int 2305843009213693907))) (mC (.int 7368751))) (mVar 3))) (sRet (mBin modD (mBlt toIntD (mCons (mBin fdivD (mVar 4) (mC (.int 65536))) (mNil))) (mVar 1))))))
def m_19 : Fm := defM 3 b_19
/-- _law_is_integer(value, least, most) -/
def b_20 : SM :=
  sRet (mAnd (mBlt isiD (mCons (mVar 0) (mCons (mC (.ty .int)) (mNil)))) (mAnd (mNot (mBlt isiD (mCons (mVar 0) (mCons (mC (.ty .bool)) (mNil))))) (mChain (cmpD (ltI fun i j => decide (i ≤ j))) (cmpD (ltI fun i j => decide (i ≤ j))) (mVar 1) (mVar 0) (mVar 2))))
def m_20 : Fm := defM 0 b_20
/-- _law_is_line(value, one) -/
def b_21 : SM :=
  sSeq (sIf (mOrT (mNotT (mTest (mBlt isiD (mCons (mVar 0) (mCons (mC (.ty .tuple)) (mNil)))))) (mNotT (mTest (mChain (cmpD (ltI fun i j => decide (i ≤ j))) (cmpD (ltI fun i j => decide (i ≤ j))) (mC (.int 1)) (mBlt lenD (mCons (mVar 0) (mNil))) (mC (.int 10)))))) (sRet (mC (.bl false))) (sNil)) (sRet (mBin (cmpD eqC) (mLc (mIter (mVar 0)) (tName 1) (mNotT (mTest (mCall m_20 (mCons (mVar 1) (mCons (mC (.int 0)) (mCons (mBin subD (mBlt lenD (mCons (mVar 0) (mNil))) (mC (.int 1))) (mNil))))))) (mVar 1) [1]) (mLst (mNil))))
def m_21 : Fm := defM 1 b_21
/-- _law_is_round(value, met, here) -/
def b_22 : SM :=
  sSeq (sIf (mNotT (mTest (mCall m_21 (mCons (mVar 0) (mNil))))) (sRet (mC (.bl false))) (sNil)) (sSeq (sPar 1 2 (mCons (mLst (mNil)) (mCons (mC (.int 0)) (mNil)))) (sSeq (sWhile (mTest (mBin (cmpD notInC) (mVar 2) (mVar 1))) (sSeq (sExpr (mMth appendD (mVar 1) (mCons (mVar 2) (mNil)))) (sSet 2 (mBin itemD (mVar 0) (mVar 2))))) (sRet (mAnd (mBin (cmpD eqC) (mBlt lenD (mCons (mVar 1) (mNil))) (mBlt lenD (mCons (mVar 0) (mNil)))) (mBin (cmpD eqC) (mVar 2) (mC (.int 0)))))))
def m_22 : Fm := defM 2 b_22
/-- _law_bump_rounds(n, found, top, rows, at, later, row, side, left, right, line) -/
def b_23 : SM :=
  sSeq (sSet 1 (mLst (mNil))) (sSeq (sFor (mRng (mCons (mC (.int 1)) (mCons (mBin subD (mVar 0) (mC (.int 1))) (mNil)))) (tName 2) (sSeq (sSet 3 (mLst (mCons (mTup (mNil)) (mNil)))) (sSeq (sFor (mRng (mCons (mBin subD (mVar 0) (mC (.int 1))) (mNil))) (tName 4) (sSeq (sSet 5 (mLst (mNil))) (sSeq (sFor (mIter (mVar 3)) (tName 6) (sExpr (mMth extendD (mVar 5) (mCons (mLc (mIter (mTup (mCons (mC (.int 0)) (mCons (mC (.int 1)) (mNil))))) (tName 7) (mTest (mBin (cmpD ltC) (mMthT countD (mVar 6) (mCons (mVar 7) (mNil))) (mBin itemD (mLst (mCons (mVar 2) (mCons (mBin subD (mBin subD (mVar 0) (mC (.int 1))) (mVar 2)) (mNil)))) (mVar 7)))) (mBin addD (mVar 6) (mTup (mCons (mVar 7) (mNil)))) [7]) (mNil))))) (sSet 3 (mVar 5))))) (sFor (mIter (mVar 3)) (tName 6) (sSeq (sSet 8 (mLc (mRng (mCons (mBin subD (mVar 0) (mC (.int 1))) (mNil))) (tName 4) (mTest (mBin (cmpD eqC) (mBin itemD (mVar 6) (mVar 4)) (mC (.int 0)))) (mVar 4) [4])) (sSeq (sSet 9 (mLc (mRng (mCons (mBin subD (mVar 0) (mC (.int 1))) (mNil))) (tName 4) (mTest (mBin (cmpD eqC) (mBin itemD (mVar 6) (mVar 4)) (mC (.int 1)))) (mVar 4) [4])) (sSeq (sSet 10 (mBlt tupleD (mCons (mBin addD (mBin addD (mVar 8) (mLst (mCons (mBin subD (mVar 0) (mC (.int 1))) (mNil)))) (mRev (mVar 9))) (mNil)))) (sIf (mTest (mCall m_22 (mCons (mVar 10) (mNil)))) (sExpr (mMth appendD (mVar 1) (mCons (mVar 10) (mNil)))) (sNil))))))))) (sRet (mBlt sortTD (mCons (mVar 1) (mNil)))))
def m_23 : Fm := defM 10 b_23
/-- _law_is_above(one, other, turned, a, b) -/
def b_24 : SM :=
  sSeq (sSet 2 (mC (.bl false))) (sSeq (sFor (mZipA (mCons (mVar 0) (mCons (mVar 1) (mNil)))) (tTupG 2 (tConss (tName 3) (tConss (tName 4) (tNils)))) (sSeq (sIf (mTest (mBin (cmpD neC) (mVar 3) (mVar 4))) (sRet (mBin (cmpD neC) (mBin (cmpD gtC) (mMth indexD (mLst (mCons (mC (.str ("l" : Str))) (mCons (mC (.str ("c" : Str))) (mCons (mC (.str ("r" : Str))) (mNil))))) (mCons (mVar 3) (mNil))) (mMth indexD (mLst (mCons (mC (.str ("l" : Str))) (mCons (mC (.str ("c" : Str))) (mCons (mC (.str ("r" : Str))) (mNil))))) (mCons (mVar 4) (mNil)))) (mVar 2))) (sNil)) (sSet 2 (mBin (cmpD neC) (mVar 2) (mBin (cmpD eqC) (mVar 3) (mC (.str ("r" : Str)))))))) (sRet (mC (.bl false))))
def m_24 : Fm := defM 3 b_24
/-- _law_shifts(word, at) -/
def b_25 : SM :=
  sRet (mLc (mRng (mCons (mC (.int 1)) (mCons (mBlt lenD (mCons (mVar 0) (mNil))) (mNil)))) (tName 1) (mYes) (mBin addD (mSlice (mVar 0) (mPart (mVar 1)) (mNoPart)) (mSlice (mVar 0) (mNoPart) (mPart (mVar 1)))) [1])
def m_25 : Fm := defM 1 b_25
/-- _law_is_greatest(word, some) -/
def b_26 : SM :=
  sRet (mBin (cmpD eqC) (mLc (mIter (mCall m_25 (mCons (mVar 0) (mNil)))) (tName 1) (mTest (mCall m_24 (mCons (mVar 1) (mCons (mVar 0) (mNil))))) (mC (.int 1)) [1]) (mLst (mNil)))
def m_26 : Fm := defM 1 b_26
/-- _law_every(n, found, turn, row, kept, word, at, other) -/
def b_27 : SM :=
  sSeq (sSet 1 (mLst (mCons (mC (.str ("" : Str))) (mNil)))) (sSeq (sFor (mRng (mCons (mBin subD (mVar 0) (mC (.int 1))) (mNil))) (tName 2) (sSet 1 (mBin addD (mLc (mIter (mVar 1)) (tName 3) (mYes) (mBin addD (mVar 3) (mC (.str ("l" : Str)))) [3]) (mLc (mIter (mVar 1)) (tName 3) (mYes) (mBin addD (mVar 3) (mC (.str ("r" : Str)))) [3])))) (sSeq (sSet 4 (mLst (mNil))) (sSeq (sFor (mIter (mLc (mIter (mVar 1)) (tName 3) (mYes) (mBin addD (mVar 3) (mC (.str ("c" : Str)))) [3])) (tName 5) (sIf (mTest (mCall m_26 (mCons (mVar 5) (mNil)))) (sSeq (sSet 6 (mBlt lenD (mCons (mLc (mIter (mVar 4)) (tName 7) (mTest (mCall m_24 (mCons (mVar 5) (mCons (mVar 7) (mNil))))) (mC (.int 1)) [7]) (mNil)))) (sSet 4 (mBin addD (mBin addD (mSlice (mVar 4) (mNoPart) (mPart (mVar 6))) (mLst (mCons (mVar 5) (mNil)))) (mSlice (mVar 4) (mPart (mVar 6)) (mNoPart))))) (sNil))) (sRet (mVar 4)))))
def m_27 : Fm := defM 7 b_27
/-- _law_moebius(number, found, left, prime, times) -/
def b_29 : SM :=
  sSeq (sPar3 1 2 3 (mCons (mC (.int 1)) (mCons (mVar 0) (mCons (mC (.int 2)) (mNil))))) (sSeq (sWhile (mTest (mBin (cmpD gtC) (mVar 2) (mC (.int 1)))) (sSeq (sSet 4 (mC (.int 0))) (sSeq (sWhile (mTest (mBin (cmpD eqC) (mBin modD (mBlt toIntD (mCons (mVar 2) (mNil))) (mVar 3)) (mC (.int 0)))) (sPar 2 4 (mCons (mBin fdivD (mVar 2) (mVar 3)) (mCons (mBin addD (mVar 4) (mC (.int 1))) (mNil))))) (sSeq (sSet 1 (mBin mulD (mVar 1) (mBin itemD (mLst (mCons (mC (.int 1)) (mCons (mUn negD (mC (.int 1))) (mCons (mC (.int 0)) (mNil))))) (mBlt min2D (mCons (mVar 4) (mCons (mC (.int 2)) (mNil))))))) (sSet 3 (mBin addD (mVar 3) (mC (.int 1)))))))) (sRet (mVar 1)))
def m_29 : Fm := defM 4 b_29
/-- _law_two(many, found, turn) -/
def b_30 : SM :=
  sSeq (sSet 1 (mC (.int 1))) (sSeq (sFor (mRng (mCons (mVar 0) (mNil))) (tName 2) (sSet 1 (mBin mulD (mVar 1) (mC (.int 2))))) (sRet (mVar 1)))
def m_30 : Fm := defM 2 b_30
/-- _law_count(n, found, d) -/
def b_28 : SM :=
  sSeq (sSet 1 (mC (.int 0))) (sSeq (sFor (mRng (mCons (mC (.int 1)) (mCons (mBin addD (mVar 0) (mC (.int 1))) (mNil)))) (tName 2) (sIf (mAndT (mTest (mBin (cmpD eqC) (mBin modD (mBlt toIntD (mCons (mVar 0) (mNil))) (mVar 2)) (mC (.int 0)))) (mTest (mBin (cmpD eqC) (mBin modD (mBlt toIntD (mCons (mVar 2) (mNil))) (mC (.int 2))) (mC (.int 1))))) (sSet 1 (mBin addD (mVar 1) (mBin mulD (mCall m_29 (mCons (mVar 2) (mNil))) (mCall m_30 (mCons (mBin fdivD (mVar 0) (mVar 2)) (mNil)))))) (sNil))) (sRet (mBin fdivD (mVar 1) (mBin mulD (mC (.int 2)) (mVar 0)))))
def m_28 : Fm := defM 2 b_28
/-- _law_right(dice, n, far, every, one, other) -/
def b_31 : SM :=
  sSeq (sPar 1 2 (mCons (mBin addD (mC (.int 1)) (mCall m_19 (mCons (mVar 0) (mCons (mC (.int 9)) (mNil))))) (mCons (mBin addD (mC (.int 1)) (mCall m_19 (mCons (mVar 0) (mCons (mC (.int 200)) (mNil))))) (mNil)))) (sSeq (sSet 3 (mCall m_27 (mCons (mVar 1) (mNil)))) (sSeq (sIf (mOrT (mTest (mBin (cmpD neC) (mBlt reprAllD (mCons (mCall m_16 (mCons (mVar 1) (mNil))) (mNil))) (mBlt reprAllD (mCons (mBlt tupleD (mCons (mVar 3) (mNil))) (mNil))))) (mTest (mBin (cmpD neC) (mBlt reprAllD (mCons (mCall m_17 (mCons (mVar 1) (mNil))) (mNil))) (mBlt reprAllD (mCons (mBlt lenD (mCons (mVar 3) (mNil))) (mNil)))))) (sRet (mC (.bl false))) (sNil)) (sSeq (sIf (mAndT (mTest (mBin (cmpD gtC) (mVar 1) (mC (.int 2)))) (mOrT (mTest (mBin (cmpD neC) (mBin itemD (mVar 3) (mUn negD (mC (.int 1)))) (mBin addD (mBin addD (mC (.str ("r" : Str))) (mBin mulS (mC (.str ("l" : Str))) (mBin subD (mVar 1) (mC (.int 2))))) (mC (.str ("c" : Str)))))) (mTest (mBin (cmpD neC) (mBlt lenD (mCons (mVar 3) (mNil))) (mBlt lenD (mCons (mCall m_23 (mCons (mVar 1) (mNil))) (mNil))))))) (sRet (mC (.bl false))) (sNil)) (sSeq (sIf (mTest (mBin (cmpD neC) (mLc (mZipA (mCons (mVar 3) (mCons (mSlice (mVar 3) (mPart (mC (.int 1))) (mNoPart)) (mNil)))) (tTupG 2 (tConss (tName 4) (tConss (tName 5) (tNils)))) (mNotT (mTest (mCall m_15 (mCons (mVar 5) (mCons (mVar 4) (mNil)))))) (mC (.int 1)) [4, 5]) (mLst (mNil)))) (sRet (mC (.bl false))) (sNil)) (sRet (mBin (cmpD eqC) (mBlt reprAllD (mCons (mCall m_17 (mCons (mVar 2) (mNil))) (mNil))) (mBlt reprAllD (mCons (mCall m_28 (mCons (mVar 2) (mNil))) (mNil)))))))))
def m_31 : Fm := defM 5 b_31
/-- law(script, spot, told, n) -/
def b_32 : SM :=
  sSeq (sFor (mRng (mCons (mBlt max2D (mCons (mC (.int 1)) (mCons (mBlt min2D (mCons (mC (.int 4)) (mCons (mBlt lenD (mCons (mVar 0) (mNil))) (mNil)))) (mNil)))) (mNil))) (tName 1) (sIf (mNotT (mTest (mCall m_31 (mCons (mCall m_18 (mCons (mVar 0) (mCons (mVar 1) (mNil)))) (mNil))))) (sRet (mC (.bl false))) (sNil))) (sSeq (sSet 2 (mLst (mCons (mCall m_16 (mCons (mC (.int 3)) (mNil))) (mCons (mCall m_16 (mCons (mC (.int 4)) (mNil))) (mCons (mLc (mRng (mCons (mC (.int 1)) (mCons (mC (.int 9)) (mNil)))) (tName 3) (mYes) (mCall m_17 (mCons (mVar 3) (mNil))) [3]) (mCons (mBlt lenD (mCons (mCall m_16 (mCons (mC (.int 12)) (mNil))) (mNil))) (mNil))))))) (sRet (mBin (cmpD eqC) (mVar 2) (mLst (mCons (mTup (mCons (mC (.str ("rlc" : Str))) (mNil))) (mCons (mTup (mCons (mC (.str ("rlrc" : Str))) (mCons (mC (.str ("rllc" : Str))) (mNil)))) (mCons (mLst (mCons (mC (.int 1)) (mCons (mC (.int 1)) (mCons (mC (.int 1)) (mCons (mC (.int 2)) (mCons (mC (.int 3)) (mCons (mC (.int 5)) (mCons (mC (.int 9)) (mCons (mC (.int 16)) (mNil)))))))))) (mCons (mCall m_28 (mCons (mC (.int 12)) (mNil))) (mNil)))))))))
def m_32 : Fm := defM 3 b_32
end Law

namespace Law
open PySem PySem.Spec L2 DM
/-- three whole numbers, the last one not above n -/
def Dc (es : List D) (n : Nat) : Prop := ∃ (a : Int) (b : Int) (c : Nat), es = [.int a, .int b, .int c] ∧ b.natAbs < 2 ^ 200 ∧ c ≤ n
theorem Dc.clean {es : List D} {n : Nat} (h : Dc es n) : cleanAll es = true ∧ pureAll es = true := by
  obtain ⟨a, b, c, rfl, _⟩ := h
  exact ⟨rfl, rfl⟩
theorem Dc.mono {es : List D} {n m : Nat} (h : Dc es n) (k : n ≤ m) : Dc es m := by
  obtain ⟨a, b, c, e, h1, h2⟩ := h
  exact ⟨a, b, c, e, h1, Nat.le_trans h2 k⟩
theorem fdivC_ok {a t : Int} (ht : 0 < t) (ht2 : t < 2 ^ 100) : fdivC a t = true := by
  unfold fdivC
  rw [Bool.and_eq_true]
  exact ⟨decide_eq_true ht, decide_eq_true (Nat.lt_trans (log2_lt (k := 100) (by omega) (by decide)) (by decide))⟩
theorem roll_pos {a b c t : Int} (ha : 0 < a) (ht : 0 < t) (ht2 : t < 2 ^ 100) : m_19 [.ref 0, .int t] [.lst [.int a, .int b, .int c]] = .ok (.int (a % t)) [.lst [.int (a / t), .int b, .int c]] := by
  have h1 : ¬ t = 0 := by omega
  simp [DM.R.bind, DM.R.toS, DM.R.noexc, DM.mVar, DM.mC, DM.mNil, DM.mCons, DM.mBin, DM.cmpD, DM.mUn, DM.negD, DM.subD, DM.intD, DM.mTup, DM.mLst, DM.mTest, DM.testD, DM.truD, DM.mNotT, DM.mAndT, DM.mOrT, DM.mNot, DM.mAnd, DM.mOr, DM.mIf, DM.mChain, DM.ltI, DM.isNon, DM.isNC, DM.notNC, DM.mBlt, DM.one1, DM.intD1, DM.toIntD, DM.absD, DM.pair2, DM.max2D, DM.min2D, DM.tyPair, DM.tyOf, DM.isTy, DM.isiD, DM.sNil, DM.SR.seq, DM.sSeq, DM.sBreak, DM.sCont, DM.sExpr, DM.sRet, DM.sIf, DM.sSet, DM.sAsg, DM.sPar, DM.SR.turn, DM.tName, DM.tNils, DM.tConss, DM.tTupG, DM.getT, DM.tSub, DM.setD, DM.getM, DM.itemD, DM.getSeq, DM.getL, DM.getP, DM.mMth, DM.mMth0, DM.isL, DM.appendD, DM.mCall, DM.mIter, DM.iterD, DM.mRng, DM.rngD, DM.mYes, DM.eqC, DM.neC, DM.asInts, DM.ltC, DM.gtC, DM.tupD, DM.lstD, DM.addD_i, m_19, defM, b_19, ha, h1, fdivC_ok ht ht2, atI, ixN, Int.fmod_eq_emod_of_nonneg, Int.le_of_lt ht]
theorem roll_neg {a b t : Int} {c : Nat} (ha : ¬ 0 < a) (ht : 0 < t) (ht2 : t < 2 ^ 100) (hb : b.natAbs < 2 ^ 200) (hc : c < 2 ^ 200) :
    ∃ r : Int, m_19 [.ref 0, .int t] [.lst [.int a, .int b, .int (c : Int)]] = .ok (.int (r % t)) [.lst [.int a, .int b, .int ((c + 1 : Nat) : Int)]] := by
  have h1 : ¬ t = 0 := by omega
  have g1 : ∀ S, mulD (.int 15486209) (.int ((c : Int) + 1)) S = .ok (.int (15486209 * ((c : Int) + 1))) S := fun S => mulD_b (by decide) (by
    have : ((c : Int) + 1).natAbs = c + 1 := by omega
    rw [this]
    exact Nat.lt_of_le_of_lt (Nat.succ_le_of_lt hc) (by decide))
  have g2 : ∀ S, mulD (.int 199) (.int ((c : Int) + 1)) S = .ok (.int (199 * ((c : Int) + 1))) S := fun S => mulD_b (by decide) (by
    have : ((c : Int) + 1).natAbs = c + 1 := by omega
    rw [this]
    exact Nat.lt_of_le_of_lt (Nat.succ_le_of_lt hc) (by decide))
  obtain ⟨one, e1⟩ : ∃ one : Int, one = (b + 15486209 * ((c : Int) + 1)) % 2305843009213693951 := ⟨_, rfl⟩
  have o1 : 0 ≤ one := by rw [e1]; exact Int.emod_nonneg _ (by decide)
  have o2 : one < 2305843009213693951 := by rw [e1]; exact Int.emod_lt_of_pos _ (by decide)
  have g3 : ∀ S, mulD (.int one) (.int one) S = .ok (.int (one * one)) S := fun S => mulD_b (by omega) (by omega)
  obtain ⟨tw, e2⟩ : ∃ tw : Int, tw = (one * one + 199 * ((c : Int) + 1)) % 2305843009213693907 := ⟨_, rfl⟩
  have o3 : 0 ≤ tw := by rw [e2]; exact Int.emod_nonneg _ (by decide)
  have o4 : tw < 2305843009213693907 := by rw [e2]; exact Int.emod_lt_of_pos _ (by decide)
  have g4 : ∀ S, mulD (.int tw) (.int 7368751) S = .ok (.int (tw * 7368751)) S := fun S => mulD_b (by omega) (by decide)
  have f1 : fdivC (tw * 7368751 + one) 65536 = true := fdivC_ok (by decide) (by decide)
  refine ⟨(tw * 7368751 + one) / 65536, ?_⟩
  simp [DM.R.bind, DM.R.toS, DM.R.noexc, DM.mVar, DM.mC, DM.mNil, DM.mCons, DM.mBin, DM.cmpD, DM.mUn, DM.negD, DM.subD, DM.intD, DM.mTup, DM.mLst, DM.mTest, DM.testD, DM.truD, DM.mNotT, DM.mAndT, DM.mOrT, DM.mNot, DM.mAnd, DM.mOr, DM.mIf, DM.mChain, DM.ltI, DM.isNon, DM.isNC, DM.notNC, DM.mBlt, DM.one1, DM.intD1, DM.toIntD, DM.absD, DM.pair2, DM.max2D, DM.min2D, DM.tyPair, DM.tyOf, DM.isTy, DM.isiD, DM.sNil, DM.SR.seq, DM.sSeq, DM.sBreak, DM.sCont, DM.sExpr, DM.sRet, DM.sIf, DM.sSet, DM.sAsg, DM.sPar, DM.SR.turn, DM.tName, DM.tNils, DM.tConss, DM.tTupG, DM.getT, DM.tSub, DM.setD, DM.getM, DM.itemD, DM.getSeq, DM.getL, DM.getP, DM.mMth, DM.mMth0, DM.isL, DM.appendD, DM.mCall, DM.mIter, DM.iterD, DM.mRng, DM.rngD, DM.mYes, DM.eqC, DM.neC, DM.asInts, DM.ltC, DM.gtC, DM.tupD, DM.lstD, DM.addD_i, m_19, defM, b_19, ha, h1, atI, ixN, Int.fmod_eq_emod_of_nonneg, Int.le_of_lt ht, g1, g2, ← e1, g3, ← e2, g4, f1]
/-- a roll -/
theorem roll {es : List D} {n : Nat} {t : Int} (h : Dc es n) (hn : n < 2 ^ 100) (ht : 0 < t) (ht2 : t < 2 ^ 100) :
    ∃ (r : Int) (es' : List D), m_19 [.ref 0, .int t] [.lst es] = .ok (.int r) [.lst es'] ∧ 0 ≤ r ∧ r < t ∧ Dc es' (n + 1) := by
  obtain ⟨a, b, c, rfl, hb, hc⟩ := h
  by_cases ha : 0 < a
  · exact ⟨_, _, roll_pos ha ht ht2, Int.emod_nonneg _ (by omega), Int.emod_lt_of_pos _ ht, a / t, b, c, rfl, hb, by omega⟩
  · obtain ⟨r, e⟩ := roll_neg (c := c) ha ht ht2 hb (Nat.lt_of_le_of_lt hc (Nat.lt_trans hn (by decide)))
    exact ⟨_, _, e, Int.emod_nonneg _ (by omega), Int.emod_lt_of_pos _ ht, a, b, c + 1, rfl, hb, by omega⟩
theorem rollC {es : List D} {n k : Nat} {t : Int} {S : Store} (hS : S[k]? = some (.lst es)) (h : Dc es n) (hn : n < 2 ^ 100) (ht : 0 < t) (ht2 : t < 2 ^ 100) :
    ∃ (r : Int) (es' : List D), callD m_19 [.ref k, .int t] S = .ok (.int r) (S.set k (.lst es')) ∧ 0 ≤ r ∧ r < t ∧ Dc es' (n + 1) := by
  obtain ⟨r, es', e, h1, h2, h3⟩ := roll h hn ht ht2
  exact ⟨r, es', callD_ref hS h.clean.1 rfl e rfl h3.clean.2 rfl, h1, h2, h3⟩
theorem dice_left {x y z : Option D} (cell : Int) (S : Store) : ∃ left : Int, (mBin modD (mBlt max2D (mCons (mC (.int 0)) (mCons (mBin subD (mBlt absD (mCons (mVar 2) (mNil))) (mBin powD (mC (.int 10)) (mC (.int 17)))) (mNil)))) (mBin mulD (mBin powD (mC (.int 10)) (mC (.int 60))) (mBin powD (mC (.int 10)) (mC (.int 60))))) [x, y, some (.int cell), z] S = .ok (.int left) S := by
  have g3 : ∀ S, mulD (.int 1000000000000000000000000000000000000000000000000000000000000) (.int 1000000000000000000000000000000000000000000000000000000000000) S = .ok (.int 1000000000000000000000000000000000000000000000000000000000000000000000000000000000000000000000000000000000000000000000000) S := fun S => mulD_b (by decide) (by decide)
  simp [DM.R.bind, DM.R.toS, DM.R.noexc, DM.mVar, DM.mC, DM.mNil, DM.mCons, DM.mBin, DM.cmpD, DM.mUn, DM.negD, DM.subD, DM.intD, DM.mTup, DM.mLst, DM.mTest, DM.testD, DM.truD, DM.mNotT, DM.mAndT, DM.mOrT, DM.mNot, DM.mAnd, DM.mOr, DM.mIf, DM.mChain, DM.ltI, DM.isNon, DM.isNC, DM.notNC, DM.mBlt, DM.one1, DM.intD1, DM.toIntD, DM.absD, DM.pair2, DM.max2D, DM.min2D, DM.tyPair, DM.tyOf, DM.isTy, DM.isiD, DM.sNil, DM.SR.seq, DM.sSeq, DM.sBreak, DM.sCont, DM.sExpr, DM.sRet, DM.sIf, DM.sSet, DM.sAsg, DM.sPar, DM.SR.turn, DM.tName, DM.tNils, DM.tConss, DM.tTupG, DM.getT, DM.tSub, DM.setD, DM.getM, DM.itemD, DM.getSeq, DM.getL, DM.getP, DM.mMth, DM.mMth0, DM.isL, DM.appendD, DM.mCall, DM.mIter, DM.iterD, DM.mRng, DM.rngD, DM.mYes, DM.eqC, DM.neC, DM.asInts, DM.ltC, DM.gtC, DM.tupD, DM.lstD, DM.addD_i, powC, g3]
theorem dice_mid {x z : Option D} {i : Nat} (hi : i < 64) (cell left : Int) (S : Store) : ∃ b : Int, b.natAbs < 2 ^ 200 ∧ (mBin addD (mBin addD (mBin addD (mBin mulD (mBin modD (mBlt absD (mCons (mVar 2) (mNil))) (mC (.int 1152921504606846737))) (mC (.int 37))) (mBin mulD (mC (.int 859)) (mVar 1))) (mBin mulD (mC (.int 31)) (mBlt toIntD (mCons (mBin (cmpD ltC) (mVar 2) (mC (.int 0))) (mNil))))) (mC (.int 17))) [x, some (.int (i : Int)), some (.int cell), some (.int left)] S = .ok (.int b) S := by
  have g2 : ∀ S, mulD (.int 859) (.int (i : Int)) S = .ok (.int (859 * (i : Int))) S := fun S => mulD_b (by decide) (by omega)
  obtain ⟨ab, e1⟩ : ∃ ab : Int, ab = if cell < 0 then -cell else cell := ⟨_, rfl⟩
  obtain ⟨rm, e2⟩ : ∃ rm : Int, rm = ab % 1152921504606846737 := ⟨_, rfl⟩
  have o1 : 0 ≤ rm := by rw [e2]; exact Int.emod_nonneg _ (by decide)
  have o2 : rm < 1152921504606846737 := by rw [e2]; exact Int.emod_lt_of_pos _ (by decide)
  have g4 : ∀ S, mulD (.int rm) (.int 37) S = .ok (.int (rm * 37)) S := fun S => mulD_b (by omega) (by decide)
  have g5 : ∀ S, mulD (.int 31) (.int 1) S = .ok (.int 31) S := fun S => mulD_b (by decide) (by decide)
  have g6 : ∀ S, mulD (.int 31) (.int 0) S = .ok (.int 0) S := fun S => mulD_b (by decide) (by decide)
  by_cases hc : cell < 0
  · rw [if_pos hc] at e1
    refine ⟨rm * 37 + 859 * i + 31 + 17, by omega, ?_⟩
    simp [DM.R.bind, DM.R.toS, DM.R.noexc, DM.mVar, DM.mC, DM.mNil, DM.mCons, DM.mBin, DM.cmpD, DM.mUn, DM.negD, DM.subD, DM.intD, DM.mTup, DM.mLst, DM.mTest, DM.testD, DM.truD, DM.mNotT, DM.mAndT, DM.mOrT, DM.mNot, DM.mAnd, DM.mOr, DM.mIf, DM.mChain, DM.ltI, DM.isNon, DM.isNC, DM.notNC, DM.mBlt, DM.one1, DM.intD1, DM.toIntD, DM.absD, DM.pair2, DM.max2D, DM.min2D, DM.tyPair, DM.tyOf, DM.isTy, DM.isiD, DM.sNil, DM.SR.seq, DM.sSeq, DM.sBreak, DM.sCont, DM.sExpr, DM.sRet, DM.sIf, DM.sSet, DM.sAsg, DM.sPar, DM.SR.turn, DM.tName, DM.tNils, DM.tConss, DM.tTupG, DM.getT, DM.tSub, DM.setD, DM.getM, DM.itemD, DM.getSeq, DM.getL, DM.getP, DM.mMth, DM.mMth0, DM.isL, DM.appendD, DM.mCall, DM.mIter, DM.iterD, DM.mRng, DM.rngD, DM.mYes, DM.eqC, DM.neC, DM.asInts, DM.ltC, DM.gtC, DM.tupD, DM.lstD, DM.addD_i, hc, ← e1, Int.fmod_eq_emod_of_nonneg, ← e2, g2, g4, g5]
  · rw [if_neg hc] at e1
    subst e1
    refine ⟨rm * 37 + 859 * i + 0 + 17, by omega, ?_⟩
    simp [DM.R.bind, DM.R.toS, DM.R.noexc, DM.mVar, DM.mC, DM.mNil, DM.mCons, DM.mBin, DM.cmpD, DM.mUn, DM.negD, DM.subD, DM.intD, DM.mTup, DM.mLst, DM.mTest, DM.testD, DM.truD, DM.mNotT, DM.mAndT, DM.mOrT, DM.mNot, DM.mAnd, DM.mOr, DM.mIf, DM.mChain, DM.ltI, DM.isNon, DM.isNC, DM.notNC, DM.mBlt, DM.one1, DM.intD1, DM.toIntD, DM.absD, DM.pair2, DM.max2D, DM.min2D, DM.tyPair, DM.tyOf, DM.isTy, DM.isiD, DM.sNil, DM.SR.seq, DM.sSeq, DM.sBreak, DM.sCont, DM.sExpr, DM.sRet, DM.sIf, DM.sSet, DM.sAsg, DM.sPar, DM.SR.turn, DM.tName, DM.tNils, DM.tConss, DM.tTupG, DM.getT, DM.tSub, DM.setD, DM.getM, DM.itemD, DM.getSeq, DM.getL, DM.getP, DM.mMth, DM.mMth0, DM.isL, DM.appendD, DM.mCall, DM.mIter, DM.iterD, DM.mRng, DM.rngD, DM.mYes, DM.eqC, DM.neC, DM.asInts, DM.ltC, DM.gtC, DM.tupD, DM.lstD, DM.addD_i, hc, Int.fmod_eq_emod_of_nonneg, ← e2, g2, g4, g6]
theorem dice_cell {x z : Option D} {ns : List Int} {i : Nat} (hi : i < 64) (hn : ns.length ≤ 63) (S : Store) : ∃ cell : Int, (mIf (mTest (mBin (cmpD ltC) (mVar 1) (mBlt lenD (mCons (mVar 0) (mNil))))) (mBlt toIntD (mCons (mBin itemD (mVar 0) (mVar 1)) (mNil))) (mBin addD (mBin mulD (mC (.int 97)) (mVar 1)) (mC (.int 43)))) [some (.kst (ns.map .int)), some (.int (i : Int)), x, z] S = .ok (.int cell) S := by
  have g1 : ∀ S, mulD (.int 97) (.int (i : Int)) S = .ok (.int (97 * (i : Int))) S := fun S => mulD_b (by decide) (by omega)
  by_cases h : i < ns.length
  · have e : atI (ns.map D.int) (i : Int) = some (.int ns[i]) := atI_get (by simp [DM.R.bind, DM.R.toS, DM.R.noexc, DM.mVar, DM.mC, DM.mNil, DM.mCons, DM.mBin, DM.cmpD, DM.mUn, DM.negD, DM.subD, DM.intD, DM.mTup, DM.mLst, DM.mTest, DM.testD, DM.truD, DM.mNotT, DM.mAndT, DM.mOrT, DM.mNot, DM.mAnd, DM.mOr, DM.mIf, DM.mChain, DM.ltI, DM.isNon, DM.isNC, DM.notNC, DM.mBlt, DM.one1, DM.intD1, DM.toIntD, DM.absD, DM.pair2, DM.max2D, DM.min2D, DM.tyPair, DM.tyOf, DM.isTy, DM.isiD, DM.sNil, DM.SR.seq, DM.sSeq, DM.sBreak, DM.sCont, DM.sExpr, DM.sRet, DM.sIf, DM.sSet, DM.sAsg, DM.sPar, DM.SR.turn, DM.tName, DM.tNils, DM.tConss, DM.tTupG, DM.getT, DM.tSub, DM.setD, DM.getM, DM.itemD, DM.getSeq, DM.getL, DM.getP, DM.mMth, DM.mMth0, DM.isL, DM.appendD, DM.mCall, DM.mIter, DM.iterD, DM.mRng, DM.rngD, DM.mYes, DM.eqC, DM.neC, DM.asInts, DM.ltC, DM.gtC, DM.tupD, DM.lstD, DM.addD_i, h])
    simp [DM.R.bind, DM.R.toS, DM.R.noexc, DM.mVar, DM.mC, DM.mNil, DM.mCons, DM.mBin, DM.cmpD, DM.mUn, DM.negD, DM.subD, DM.intD, DM.mTup, DM.mLst, DM.mTest, DM.testD, DM.truD, DM.mNotT, DM.mAndT, DM.mOrT, DM.mNot, DM.mAnd, DM.mOr, DM.mIf, DM.mChain, DM.ltI, DM.isNon, DM.isNC, DM.notNC, DM.mBlt, DM.one1, DM.intD1, DM.toIntD, DM.absD, DM.pair2, DM.max2D, DM.min2D, DM.tyPair, DM.tyOf, DM.isTy, DM.isiD, DM.sNil, DM.SR.seq, DM.sSeq, DM.sBreak, DM.sCont, DM.sExpr, DM.sRet, DM.sIf, DM.sSet, DM.sAsg, DM.sPar, DM.SR.turn, DM.tName, DM.tNils, DM.tConss, DM.tTupG, DM.getT, DM.tSub, DM.setD, DM.getM, DM.itemD, DM.getSeq, DM.getL, DM.getP, DM.mMth, DM.mMth0, DM.isL, DM.appendD, DM.mCall, DM.mIter, DM.iterD, DM.mRng, DM.rngD, DM.mYes, DM.eqC, DM.neC, DM.asInts, DM.ltC, DM.gtC, DM.tupD, DM.lstD, DM.addD_i, lenD, h, e]
  · simp [DM.R.bind, DM.R.toS, DM.R.noexc, DM.mVar, DM.mC, DM.mNil, DM.mCons, DM.mBin, DM.cmpD, DM.mUn, DM.negD, DM.subD, DM.intD, DM.mTup, DM.mLst, DM.mTest, DM.testD, DM.truD, DM.mNotT, DM.mAndT, DM.mOrT, DM.mNot, DM.mAnd, DM.mOr, DM.mIf, DM.mChain, DM.ltI, DM.isNon, DM.isNC, DM.notNC, DM.mBlt, DM.one1, DM.intD1, DM.toIntD, DM.absD, DM.pair2, DM.max2D, DM.min2D, DM.tyPair, DM.tyOf, DM.isTy, DM.isiD, DM.sNil, DM.SR.seq, DM.sSeq, DM.sBreak, DM.sCont, DM.sExpr, DM.sRet, DM.sIf, DM.sSet, DM.sAsg, DM.sPar, DM.SR.turn, DM.tName, DM.tNils, DM.tConss, DM.tTupG, DM.getT, DM.tSub, DM.setD, DM.getM, DM.itemD, DM.getSeq, DM.getL, DM.getP, DM.mMth, DM.mMth0, DM.isL, DM.appendD, DM.mCall, DM.mIter, DM.iterD, DM.mRng, DM.rngD, DM.mYes, DM.eqC, DM.neC, DM.asInts, DM.ltC, DM.gtC, DM.tupD, DM.lstD, DM.addD_i, lenD, h, g1]
theorem dice_ok {ns : List Int} {i : Nat} (hi : i < 64) (hn : ns.length ≤ 63) : ∃ es, m_18 [.kst (ns.map .int), .int i] [] = .ok (.ref 0) [.lst es] ∧ Dc es 0 := by
  obtain ⟨cell, e1⟩ := dice_cell (x := none) (z := none) hi hn []
  obtain ⟨left, e2⟩ := dice_left (x := some (.kst (ns.map .int))) (y := some (.int (i : Int))) (z := none) cell []
  obtain ⟨b, hb, e3⟩ := dice_mid (x := some (.kst (ns.map .int))) (z := none) hi cell left []
  refine ⟨[.int left, .int b, .int ((0 : Nat) : Int)], defM_rt (sSeq_nx (sSet_ok e1) (sSeq_nx (sSet_ok e2) (sRet_ok (mLst_ok (S1 := []) (xs := [.int left, .int b, .int ((0 : Nat) : Int)]) (mCons_ok rfl (mCons_ok e3 (mCons_ok rfl rfl))) (by show (3 : Nat) ≤ sizeLine; decide))))), left, b, 0, rfl, hb, Nat.le_refl _⟩
theorem diceC {ns : List Int} {i : Nat} {S : Store} (hi : i < 64) (hn : ns.length ≤ 63) : ∃ es, callD m_18 [.kst (ns.map .int), .int i] S = .ok (.ref S.length) (S ++ [.lst es]) ∧ Dc es 0 := by
  obtain ⟨es, e, h⟩ := dice_ok hi hn
  have hc : cleanAll [.kst (ns.map D.int), .int (i : Int)] = true := by
    have : ∀ l : List Int, cleanAll (l.map D.int) = true := fun l => by
      induction l with
      | nil => rfl
      | cons a l ih => show (true && cleanAll (l.map D.int)) = true; rw [ih]; rfl
    show (cleanAll (ns.map D.int) && true) = true
    rw [this]; rfl
  exact ⟨es, callD_new hc e rfl h.clean.2, h⟩
theorem mOrT_ok2 {a b : M Bool} {ρ : DM.Env} {S S1 S2 : Store} {y : Bool} (h1 : a ρ S = .ok false S1) (h2 : b ρ S1 = .ok y S2) : mOrT a b ρ S = .ok y S2 := by
  unfold mOrT; rw [h1]; exact h2
theorem pure_ints : ∀ ns : List Int, pureAll (ns.map D.int) = true
  | [] => rfl
  | n :: r => by show (true && pureAll (r.map D.int)) = true; rw [pure_ints r]; rfl
theorem clean_ints : ∀ ns : List Int, cleanAll (ns.map D.int) = true
  | [] => rfl
  | n :: r => by show (true && cleanAll (r.map D.int)) = true; rw [clean_ints r]; rfl
end Law

namespace Law
open PySem PySem.Spec L2 DM
theorem range_getD {α : Type} (l : List α) (d : α) : (List.range l.length).map (fun i => l.getD i d) = l := by
  apply List.ext_getElem
  · simp
  · intro i h1 h2
    simp [List.getD, h2]
theorem lc_cell {it : M Nx} {k t : Nat} {xs : List D} {ρ : DM.Env} {S S0 : Store} {T : M Bool} {E : M D} (f : D → D) (p : D → Bool) (h : S[k]? = some (.lst xs)) (hl : xs.length < 16777216) (hi : it ρ S0 = .ok (nxList (.ref k)) S)
    (hs : ∀ x ∈ xs, ∀ z, T ((wipeE ρ [t]).set t (some x)) (S ++ [z]) = .ok (p x) (S ++ [z]) ∧ (p x = true → E ((wipeE ρ [t]).set t (some x)) (S ++ [z]) = .ok (f x) (S ++ [z]))) :
    mLc it (tName t) T E [t] ρ S0 = .ok (.ref S.length) (S ++ [.lst ((xs.filter p).map f)]) := by
  have gl : ∀ z, getL (.ref k) (S ++ [z]) = some xs := fun z => by
    show (match (S ++ [z])[k]? with | some (.lst ds) => some ds | _ => none) = some xs
    rw [List.getElem?_append_left (List.getElem?_eq_some_iff.mp h).1, h]
  have z := mLc_pure (it := it) (g := tName t) (t := T) (e := E) (vs := [t]) (ρ := ρ) (nx := nxList (.ref k)) (S := S) (S0 := S0) (n := xs.length)
    (fun i => xs.getD i .non) (fun i => f (xs.getD i .non)) (fun i => p (xs.getD i .non)) (fun i => (wipeE ρ [t]).set t (some (xs.getD i .non))) hl hi
    (fun i z hi => by
      have hx : xs.getD i .non = xs[i] := by simp [List.getD, hi]
      have hm : xs.getD i .non ∈ xs := by rw [hx]; exact List.getElem_mem hi
      refine ⟨?_, rfl, (hs _ hm z).1, (hs _ hm z).2⟩
      show (getL (.ref k) (S ++ [z])).map (·[i]?) = _
      rw [gl, Option.map_some, hx, List.getElem?_eq_getElem hi]) (fun z => by
      show (getL (.ref k) (S ++ [z])).map (·[xs.length]?) = _
      rw [gl, Option.map_some, List.getElem?_eq_none (Nat.le_refl _)])
  rw [z]
  congr 3
  have e1 : ((List.range xs.length).filter fun i => p (xs.getD i .non)).map (fun i => f (xs.getD i .non)) = (((List.range xs.length).map fun i => xs.getD i .non).filter p).map f := by
    rw [List.filter_map, List.map_map]
    rfl
  rw [e1, range_getD]
theorem lc_strs {it : M Nx} {k t : Nat} {ws : List Str} {ρ : DM.Env} {S S0 : Store} {T : M Bool} {E : M D} (f : Str → D) (p : Str → Bool) (h : S[k]? = some (.lst (ws.map .str))) (hl : ws.length < 16777216) (hi : it ρ S0 = .ok (nxList (.ref k)) S)
    (hs : ∀ x ∈ ws, ∀ z, T ((wipeE ρ [t]).set t (some (.str x))) (S ++ [z]) = .ok (p x) (S ++ [z]) ∧ (p x = true → E ((wipeE ρ [t]).set t (some (.str x))) (S ++ [z]) = .ok (f x) (S ++ [z]))) :
    mLc it (tName t) T E [t] ρ S0 = .ok (.ref S.length) (S ++ [.lst ((ws.filter p).map f)]) := by
  have z := lc_cell (it := it) (k := k) (t := t) (xs := ws.map .str) (ρ := ρ) (S := S) (S0 := S0) (T := T) (E := E) (fun d => match d with | .str x => f x | _ => .non) (fun d => match d with | .str x => p x | _ => false) h (by simpa using hl) hi (fun x hx z => by
    obtain ⟨w, hw, rfl⟩ := List.mem_map.mp hx
    exact hs w hw z)
  rw [z]
  congr 3
  rw [List.filter_map, List.map_map]
  rfl
theorem iter_ref {i k : Nat} {ds : List D} {ρ : DM.Env} {S : Store} (hr : ρ[i]? = some (some (.ref k))) (h : S[k]? = some (.lst ds)) : mIter (mVar i) ρ S = .ok (nxList (.ref k)) S := by
  refine mIter_ok (d := .ref k) (S1 := S) (by unfold mVar; rw [hr]) ?_
  show (match getL (.ref k) S with | some _ => R.ok (nxList (.ref k)) S | none => .bad) = _
  have : getL (.ref k) S = some ds := by
    show (match S[k]? with | some (.lst ds) => some ds | _ => none) = some ds
    rw [h]
  rw [this]
/-- lists put one behind the other -/
theorem addD_lists {a b : Nat} {xs ys : List D} {S : Store} (h1 : S[a]? = some (.lst xs)) (h2 : S[b]? = some (.lst ys)) (hl : xs.length + ys.length ≤ sizeLine) : addD (.ref a) (.ref b) S = .ok (.ref S.length) (S ++ [.lst (xs ++ ys)]) := by
  show (match getP (.ref a) S, getP (.ref b) S with
    | some xs, some ys => lstD (xs ++ ys) S
    | _, _ => .bad) = _
  have e1 : getP (.ref a) S = some xs := by
    show (match S[a]? with | some (.lst ds) => some ds | _ => none) = some xs
    rw [h1]
  have e2 : getP (.ref b) S = some ys := by
    show (match S[b]? with | some (.lst ds) => some ds | _ => none) = some ys
    rw [h2]
  rw [e1, e2]
  show (if (xs ++ ys).length ≤ sizeLine then R.ok (D.ref S.length) (S ++ [C.lst (xs ++ ys)]) else .bad) = _
  rw [if_pos (by rw [List.length_append]; exact hl)]
theorem addD_strs {x y : Str} {S : Store} (h : x.length + y.length ≤ sizeLine) : addD (.str x) (.str y) S = .ok (.str (x ++ y)) S := by
  show (if x.length + y.length ≤ sizeLine then R.ok (D.str (x ++ y)) S else .bad) = _
  rw [if_pos h]
theorem len_app (x y : Str) : (x ++ y).length = x.length + y.length := by
  show (x.cps ++ y.cps).size = _
  rw [Array.size_append]
  rfl
theorem get_old {α : Type} {S : List α} {k : Nat} {c : α} (T : List α) (h : S[k]? = some c) : (S ++ T)[k]? = some c := by rw [List.getElem?_append_left (List.getElem?_eq_some_iff.mp h).1, h]
theorem get_new {α : Type} {S : List α} {c : α} : (S ++ [c])[S.length]? = some c := List.getElem?_concat_length
def rowsP : Nat → List Str
  | 0 => [""]
  | n + 1 => (rowsP n).map (· ++ ("l" : Str)) ++ (rowsP n).map (· ++ ("r" : Str))
theorem rowsP_len : ∀ (n : Nat) (w : Str), w ∈ rowsP n → w.length = n
  | 0, w, h => by
    simp [rowsP] at h
    subst h; rfl
  | n + 1, w, h => by
    unfold rowsP at h
    rcases List.mem_append.mp h with h | h
    · obtain ⟨v, hv, rfl⟩ := List.mem_map.mp h
      rw [len_app, rowsP_len n v hv]; rfl
    · obtain ⟨v, hv, rfl⟩ := List.mem_map.mp h
      rw [len_app, rowsP_len n v hv]; rfl
theorem rowsP_card : ∀ n : Nat, (rowsP n).length = 2 ^ n
  | 0 => rfl
  | n + 1 => by
    unfold rowsP
    rw [List.length_append, List.length_map, List.length_map, rowsP_card n, Nat.pow_succ]
    omega
def wordsP (n : Nat) : List Str := (rowsP n).map (· ++ ("c" : Str))
def isBl (r : R D) : Bool := match r with | .ok (.bl _) _ => true | _ => false
def blOf (r : R D) : Bool := match r with | .ok (.bl b) _ => b | _ => false
theorem isBl_ok {r : R D} (h : isBl r = true) : ∃ S, r = .ok (.bl (blOf r)) S := by
  unfold isBl at h
  split at h
  · exact ⟨_, rfl⟩
  · cases h
theorem call_bl {m : Fm} {ds : List D} {S : Store} (hc : cleanAll ds = true) (h : isBl (m ds []) = true) : callD m ds S = .ok (.bl (blOf (m ds []))) S := by
  obtain ⟨S1, e⟩ := isBl_ok h
  exact callD_val hc e rfl
def isg (w : Str) : Bool := blOf (m_26 [.str w] [])
def abv (w o : Str) : Bool := blOf (m_24 [.str w, .str o] [])
def keepP (kept : List Str) (w : Str) : List Str := if isg w then kept.take (kept.filter (abv w)).length ++ [w] ++ kept.drop (kept.filter (abv w)).length else kept
def keptP (ws : List Str) : List Str := ws.foldl keepP []
end Law

namespace Law
open PySem PySem.Spec L2 DM
theorem slice_to {k n : Nat} {ds : List D} {S : Store} (h : S[k]? = some (.lst ds)) : sliceD (.ref k) none (some (n : Int)) S = .ok (.ref S.length) (S ++ [.lst (ds.take n)]) := by
  have e : getL (.ref k) S = some ds := by
    show (match S[k]? with | some (.lst ds) => some ds | _ => none) = some ds
    rw [h]
  show (match getL (.ref k) S with | some ds => R.ok (D.ref S.length) (S ++ [C.lst (cutL ds none (some (n : Int)))]) | none => .bad) = _
  rw [e]
  have e2 : cutL ds none (some (n : Int)) = ds.take n := by
    unfold cutL
    rw [HT.sIx_none, HT.sIx_nat, List.drop_zero, Nat.sub_zero]
    by_cases hn : n ≤ ds.length
    · rw [Nat.min_eq_left hn]
    · rw [Nat.min_eq_right (by omega), List.take_of_length_le (Nat.le_refl _), List.take_of_length_le (by omega)]
  dsimp only
  rw [e2]
theorem slice_from {k n : Nat} {ds : List D} {S : Store} (h : S[k]? = some (.lst ds)) : sliceD (.ref k) (some (n : Int)) none S = .ok (.ref S.length) (S ++ [.lst (ds.drop n)]) := by
  have e : getL (.ref k) S = some ds := by
    show (match S[k]? with | some (.lst ds) => some ds | _ => none) = some ds
    rw [h]
  show (match getL (.ref k) S with | some ds => R.ok (D.ref S.length) (S ++ [C.lst (cutL ds (some (n : Int)) none)]) | none => .bad) = _
  rw [e]
  have e2 : cutL ds (some (n : Int)) none = ds.drop n := by
    unfold cutL
    rw [HT.sIx_none, HT.sIx_nat]
    by_cases hn : n ≤ ds.length
    · rw [Nat.min_eq_left hn, List.take_of_length_le (by rw [List.length_drop]; omega)]
    · rw [Nat.min_eq_right (by omega), List.drop_of_length_le (Nat.le_refl _), List.drop_of_length_le (by omega), List.take_nil]
  dsimp only
  rw [e2]
theorem mSlice_ok {a : M D} {l h : M (Option Int)} {ρ : DM.Env} {S S1 S2 S3 : Store} {x : D} {i j : Option Int} {r : R D} (h1 : a ρ S = .ok x S1) (h2 : l ρ S1 = .ok i S2) (h3 : h ρ S2 = .ok j S3) (h4 : sliceD x i j S3 = r) : mSlice a l h ρ S = r := by
  unfold mSlice
  rw [h1]
  show (l ρ S1).bind (fun l S2 => (h ρ S2).bind fun h S3 => sliceD x l h S3) = _
  rw [h2]
  show (h ρ S2).bind (fun h S3 => sliceD x i h S3) = _
  rw [h3]
  exact h4
theorem addLR {w : Str} {ch : Str} {i : Nat} {ρ : DM.Env} {S : Store} (hr : ρ[i]? = some (some (.str w))) (hl : w.length + ch.length ≤ sizeLine) : mBin addD (mVar i) (mC (.str ch)) ρ S = .ok (.str (w ++ ch)) S :=
  mBin_ok (x := .str w) (by unfold mVar; rw [hr]) rfl (addD_strs hl)
theorem filter_yes {α : Type} (l : List α) : (l.filter fun _ => true) = l := by simp
/-- one row longer -/
theorem rows_step {x2 : Option D} {nD : D} {k n : Nat} {S : Store} (hk : S[k]? = some (.lst ((rowsP n).map .str))) (hn : n ≤ 20) :
    ∃ S', sSet 1 (mBin addD (mLc (mIter (mVar 1)) (tName 3) (mYes) (mBin addD (mVar 3) (mC (.str ("l" : Str)))) [3]) (mLc (mIter (mVar 1)) (tName 3) (mYes) (mBin addD (mVar 3) (mC (.str ("r" : Str)))) [3])) [some nD, some (.ref k), x2, none, none, none, none, none] S =
      .nx [some nD, some (.ref (S.length + 2)), x2, none, none, none, none, none] S' ∧ S'[S.length + 2]? = some (.lst ((rowsP (n + 1)).map .str)) := by
  have hc : (rowsP n).length < 16777216 := by
    rw [rowsP_card]
    exact Nat.lt_of_le_of_lt (Nat.pow_le_pow_right (by decide) hn) (by decide)
  have e1 := lc_strs (it := mIter (mVar 1)) (t := 3) (ρ := [some nD, some (.ref k), x2, none, none, none, none, none]) (T := mYes) (E := mBin addD (mVar 3) (mC (.str ("l" : Str)))) (fun x => .str (x ++ ("l" : Str))) (fun _ => true) hk hc (iter_ref rfl hk)
    (fun x hx z => ⟨rfl, fun _ => addLR rfl (by rw [rowsP_len n x hx]; have := sizeLine_eq; show n + 1 ≤ _; omega)⟩)
  have hk2 := get_old [C.lst ((rowsP n).map fun x => D.str (x ++ ("l" : Str)))] hk
  rw [filter_yes] at e1
  have e2 := lc_strs (it := mIter (mVar 1)) (t := 3) (ρ := [some nD, some (.ref k), x2, none, none, none, none, none]) (T := mYes) (E := mBin addD (mVar 3) (mC (.str ("r" : Str)))) (fun x => .str (x ++ ("r" : Str))) (fun _ => true) hk2 hc (iter_ref rfl hk2)
    (fun x hx z => ⟨rfl, fun _ => addLR rfl (by rw [rowsP_len n x hx]; have := sizeLine_eq; show n + 1 ≤ _; omega)⟩)
  rw [filter_yes] at e2
  have hl : (S ++ [C.lst ((rowsP n).map fun x => D.str (x ++ ("l" : Str)))]).length = S.length + 1 := by simp
  have h3 : ((S ++ [C.lst ((rowsP n).map fun x => D.str (x ++ ("l" : Str)))]) ++ [C.lst ((rowsP n).map fun x => D.str (x ++ ("r" : Str)))])[S.length]? = some (.lst ((rowsP n).map fun x => D.str (x ++ ("l" : Str)))) := get_old _ get_new
  have h4 : ((S ++ [C.lst ((rowsP n).map fun x => D.str (x ++ ("l" : Str)))]) ++ [C.lst ((rowsP n).map fun x => D.str (x ++ ("r" : Str)))])[(S ++ [C.lst ((rowsP n).map fun x => D.str (x ++ ("l" : Str)))]).length]? = some (.lst ((rowsP n).map fun x => D.str (x ++ ("r" : Str)))) := get_new
  have e3 := addD_lists h3 h4 (by
    rw [List.length_map, List.length_map, rowsP_card]
    have : 2 ^ n ≤ 2 ^ 20 := Nat.pow_le_pow_right (by decide) hn
    have := sizeLine_eq
    omega)
  refine ⟨_, sSet_ok (mBin_ok e1 e2 (by rw [e3]; congr 2; simp)), ?_⟩
  have : S.length + 2 = ((S ++ [C.lst ((rowsP n).map fun x => D.str (x ++ ("l" : Str)))]) ++ [C.lst ((rowsP n).map fun x => D.str (x ++ ("r" : Str)))]).length := by simp
  rw [this, get_new]
  congr 2
  rw [show rowsP (n + 1) = (rowsP n).map (· ++ ("l" : Str)) ++ (rowsP n).map (· ++ ("r" : Str)) from rfl, List.map_append, List.map_map, List.map_map]
  rfl
theorem keep_step {x2 x6 nD : Option D} {x1 : Option D} {q : Nat} {kept : List Str} {w : Str} {S : Store} (hq : S[q]? = some (.lst (kept.map .str))) (hg : isBl (m_26 [.str w] []) = true) (ha : isg w = true → ∀ o ∈ kept, isBl (m_24 [.str w, .str o] []) = true) (hl : kept.length ≤ 1000000) :
    ∃ q' x6' S' T, (sIf (mTest (mCall m_26 (mCons (mVar 5) (mNil)))) (sSeq (sSet 6 (mBlt lenD (mCons (mLc (mIter (mVar 4)) (tName 7) (mTest (mCall m_24 (mCons (mVar 5) (mCons (mVar 7) (mNil))))) (mC (.int 1)) [7]) (mNil)))) (sSet 4 (mBin addD (mBin addD (mSlice (mVar 4) (mNoPart) (mPart (mVar 6))) (mLst (mCons (mVar 5) (mNil)))) (mSlice (mVar 4) (mPart (mVar 6)) (mNoPart))))) (sNil))
      [nD, x1, x2, none, some (.ref q), some (.str w), x6, none] S = .nx [nD, x1, x2, none, some (.ref q'), some (.str w), x6', none] S' ∧ S' = S ++ T ∧ S'[q']? = some (.lst ((keepP kept w).map .str)) := by
  have t1 : mTest (mCall m_26 (mCons (mVar 5) (mNil))) [nD, x1, x2, none, some (.ref q), some (.str w), x6, none] S = .ok (isg w) S := mTest_ok (mCall_ok (mCons_ok rfl rfl) (call_bl rfl hg))
  cases hw : isg w with
  | false =>
    rw [hw] at t1
    refine ⟨q, x6, S, [], sIf_f t1 rfl, by simp, ?_⟩
    unfold keepP
    rw [hw]
    exact hq
  | true =>
    rw [hw] at t1
    have e1 := lc_strs (it := mIter (mVar 4)) (t := 7) (ρ := [nD, x1, x2, none, some (.ref q), some (.str w), x6, none]) (T := mTest (mCall m_24 (mCons (mVar 5) (mCons (mVar 7) (mNil))))) (E := mC (.int 1)) (fun _ => .int 1) (abv w) hq (by omega) (iter_ref rfl hq)
      (fun x hx z => ⟨mTest_ok (mCall_ok (mCons_ok rfl (mCons_ok rfl rfl)) (call_bl rfl (ha hw x hx))), fun _ => rfl⟩)
    obtain ⟨at_, hat⟩ : ∃ at_, at_ = (kept.filter (abv w)).length := ⟨_, rfl⟩
    obtain ⟨c1, hc1⟩ : ∃ c1 : C, c1 = .lst ((kept.filter (abv w)).map fun _ => D.int 1) := ⟨_, rfl⟩
    rw [← hc1] at e1
    have s1 : sSet 6 (mBlt lenD (mCons (mLc (mIter (mVar 4)) (tName 7) (mTest (mCall m_24 (mCons (mVar 5) (mCons (mVar 7) (mNil))))) (mC (.int 1)) [7]) (mNil))) [nD, x1, x2, none, some (.ref q), some (.str w), x6, none] S =
        .nx [nD, x1, x2, none, some (.ref q), some (.str w), some (.int (at_ : Int)), none] (S ++ [c1]) :=
      sSet_ok (mBlt_ok (mCons_ok e1 rfl) (by rw [lenD_ref (ds := (kept.filter (abv w)).map fun _ => D.int 1) (by rw [get_new, hc1]), List.length_map, hat]))
    have hq1 := get_old [c1] hq
    have e2 := slice_to (n := at_) hq1
    obtain ⟨c2, hc2⟩ : ∃ c2 : C, c2 = .lst ((kept.map D.str).take at_) := ⟨_, rfl⟩
    rw [← hc2] at e2
    have e3 : mLst (mCons (mVar 5) (mNil)) [nD, x1, x2, none, some (.ref q), some (.str w), some (.int (at_ : Int)), none] (S ++ [c1] ++ [c2]) = .ok (.ref (S ++ [c1] ++ [c2]).length) (S ++ [c1] ++ [c2] ++ [.lst [.str w]]) := mLst_ok (mCons_ok rfl rfl) (by show (1 : Nat) ≤ sizeLine; decide)
    have g2 : (S ++ [c1] ++ [c2] ++ [C.lst [D.str w]])[(S ++ [c1]).length]? = some (.lst ((kept.map D.str).take at_)) := by rw [get_old _ get_new, hc2]
    have g3 : (S ++ [c1] ++ [c2] ++ [C.lst [D.str w]])[(S ++ [c1] ++ [c2]).length]? = some (.lst [.str w]) := get_new
    have sl := sizeLine_eq
    have e4 := addD_lists g2 g3 (by rw [List.length_take, List.length_map]; show _ + 1 ≤ _; omega)
    obtain ⟨S4, hS4⟩ : ∃ S4, S4 = S ++ [c1] ++ [c2] ++ [C.lst [D.str w]] := ⟨_, rfl⟩
    obtain ⟨c4, hc4⟩ : ∃ c4 : C, c4 = .lst ((kept.map D.str).take at_ ++ [.str w]) := ⟨_, rfl⟩
    rw [← hc4, ← hS4] at e4
    rw [← hS4] at e3
    have hq4 : (S4 ++ [c4])[q]? = some (.lst (kept.map .str)) := by rw [hS4]; exact get_old _ (get_old _ (get_old _ hq1))
    have e5 := slice_from (n := at_) hq4
    have g5 : (S4 ++ [c4] ++ [C.lst ((kept.map D.str).drop at_)])[S4.length]? = some (.lst ((kept.map D.str).take at_ ++ [.str w])) := by rw [get_old _ get_new, hc4]
    have e6 := addD_lists g5 get_new (by rw [List.length_append, List.length_take, List.length_drop, List.length_map]; show _ + 1 + _ ≤ _; omega)
    refine ⟨_, _, _, [c1] ++ [c2] ++ [C.lst [D.str w]] ++ [c4] ++ [C.lst ((kept.map D.str).drop at_)] ++ [C.lst ((kept.map D.str).take at_ ++ [.str w] ++ (kept.map D.str).drop at_)],
      sIf_t t1 (sSeq_nx s1 (sSet_ok (mBin_ok (mBin_ok (mSlice_ok rfl rfl rfl e2) e3 e4) (mSlice_ok rfl rfl rfl e5) e6))), ?_, ?_⟩
    · rw [hS4]; simp
    · rw [get_new]
      unfold keepP
      rw [if_pos hw, ← hat]
      simp
end Law

namespace Law
open PySem PySem.Spec L2 DM
theorem take_one {α : Type} {l : List α} {i : Nat} (h : i < l.length) : l.take (i + 1) = l.take i ++ [l[i]] := by
  rw [List.take_succ, List.getElem?_eq_getElem h]; rfl
theorem keptP_step {ws : List Str} {i : Nat} (h : i < ws.length) : keptP (ws.take (i + 1)) = keepP (keptP (ws.take i)) ws[i] := by
  unfold keptP
  rw [take_one h, List.foldl_append]; rfl
theorem keepP_mem {kept : List Str} {w o : Str} (h : o ∈ keepP kept w) : (o = w ∧ isg w = true) ∨ o ∈ kept := by
  unfold keepP at h
  split at h
  · rename_i hw
    rcases List.mem_append.mp h with h | h
    · rcases List.mem_append.mp h with h | h
      · exact .inr (List.mem_of_mem_take h)
      · exact .inl ⟨by simpa using h, hw⟩
    · exact .inr (List.mem_of_mem_drop h)
  · exact .inr h
theorem keepP_len {kept : List Str} {w : Str} : (keepP kept w).length ≤ kept.length + 1 := by
  unfold keepP
  split
  · rw [List.length_append, List.length_append, List.length_take, List.length_drop]
    show _ + 1 + _ ≤ _
    omega
  · omega
/-- what is to be looked up for n signs -/
def chk27 (ws : List Str) : Bool := (ws.all fun w => isBl (m_26 [.str w] [])) && ((ws.filter isg).all fun w => (ws.filter isg).all fun o => isBl (m_24 [.str w, .str o] []))
theorem every_ok {n : Nat} (h1 : 1 ≤ n) (h2 : n ≤ 16) (hc : chk27 (wordsP (n - 1)) = true) : ∃ j S', m_27 [.int (n : Int)] [] = .ok (.ref j) S' ∧ S'[j]? = some (.lst ((keptP (wordsP (n - 1))).map .str)) := by
  unfold chk27 at hc
  rw [Bool.and_eq_true, List.all_eq_true, List.all_eq_true] at hc
  obtain ⟨hA, hB⟩ := hc
  have sl := sizeLine_eq
  -- the rows
  have s1 : sSet 1 (mLst (mCons (mC (.str ("" : Str))) (mNil))) [some (.int (n : Int)), none, none, none, none, none, none, none] [] = .nx [some (.int (n : Int)), some (.ref 0), none, none, none, none, none, none] [.lst [.str ""]] :=
    sSet_ok (mLst_ok (xs := [.str ""]) (S1 := []) (mCons_ok rfl rfl) (by show (1 : Nat) ≤ sizeLine; decide))
  obtain ⟨ρ2, S2, e2, k2, x2, rfl, hk2⟩ := sFor_ok (it := mRng (mCons (mBin subD (mVar 0) (mC (.int 1))) (mNil))) (g := tName 2)
    (b := sSet 1 (mBin addD (mLc (mIter (mVar 1)) (tName 3) (mYes) (mBin addD (mVar 3) (mC (.str ("l" : Str)))) [3]) (mLc (mIter (mVar 1)) (tName 3) (mYes) (mBin addD (mVar 3) (mC (.str ("r" : Str)))) [3])))
    (nx := nxRng 0 1 (n - 1)) (n := n - 1) (ρ := [some (.int (n : Int)), some (.ref 0), none, none, none, none, none, none]) (S := [.lst [.str ""]]) (S0 := [.lst [.str ""]])
    (fun i ρ S => ∃ k x2, ρ = [some (.int (n : Int)), some (.ref k), x2, none, none, none, none, none] ∧ S[k]? = some (.lst ((rowsP i).map .str)))
    (mRng_ok (mCons_ok (mBin_ok rfl rfl (show subD (.int (n : Int)) (.int 1) _ = .ok (.int ((n - 1 : Nat) : Int)) _ by
      show R.ok (D.int ((n : Int) - 1)) _ = _
      congr 2; omega)) rfl) (rng_one (by omega))) (Nat.lt_of_lt_of_le (show n - 1 < 20 by omega) (by decide)) ⟨0, none, rfl, rfl⟩
    (fun i ρ S hi ⟨k, x2, hρ, hk⟩ => by
      subst hρ
      obtain ⟨S', q1, q2⟩ := rows_step (nD := .int (n : Int)) (x2 := some (.int (0 + (i : Int) * 1))) hk (by omega)
      exact ⟨_, _, _, _, S', nxRng_lt hi, rfl, q1, _, _, rfl, q2⟩) (fun ρ S _ => nxRng_end)
  have s3 : sSet 4 (mLst (mNil)) [some (.int (n : Int)), some (.ref k2), x2, none, none, none, none, none] S2 = .nx [some (.int (n : Int)), some (.ref k2), x2, none, some (.ref S2.length), none, none, none] (S2 ++ [.lst []]) :=
    sSet_ok (mLst_ok rfl (Nat.zero_le _))
  have hk3 := get_old [C.lst []] hk2
  have hcard : (rowsP (n - 1)).length < 16777216 := by
    rw [rowsP_card]
    exact Nat.lt_of_le_of_lt (Nat.pow_le_pow_right (by decide) (show n - 1 ≤ 20 by omega)) (by decide)
  have e4 := lc_strs (it := mIter (mVar 1)) (t := 3) (ρ := [some (.int (n : Int)), some (.ref k2), x2, none, some (.ref S2.length), none, none, none]) (T := mYes) (E := mBin addD (mVar 3) (mC (.str ("c" : Str)))) (fun x => .str (x ++ ("c" : Str))) (fun _ => true) hk3 hcard (iter_ref rfl hk3)
    (fun x hx z => ⟨rfl, fun _ => addLR rfl (by rw [rowsP_len _ x hx]; show n - 1 + 1 ≤ _; omega)⟩)
  rw [filter_yes] at e4
  have ew : ((rowsP (n - 1)).map fun x => D.str (x ++ ("c" : Str))) = (wordsP (n - 1)).map .str := by
    unfold wordsP
    rw [List.map_map]; rfl
  rw [ew] at e4
  obtain ⟨S3, hS3⟩ : ∃ S3, S3 = S2 ++ [C.lst []] := ⟨_, rfl⟩
  rw [← hS3] at e4 s3
  obtain ⟨ws, hws⟩ : ∃ ws, ws = wordsP (n - 1) := ⟨_, rfl⟩
  rw [← hws] at e4 hA hB ⊢
  have wl : ws.length ≤ 32768 := by
    rw [hws]
    unfold wordsP
    rw [List.length_map, rowsP_card]
    exact Nat.pow_le_pow_right (by decide) (show n - 1 ≤ 15 by omega)
  have g0 : (S3 ++ [C.lst (ws.map D.str)])[S2.length]? = some (.lst (([] : List Str).map .str)) := by rw [hS3]; exact get_old _ get_new
  obtain ⟨ρ5, S5, e5, q5, x5, x6, rfl, hq5, _, _, _⟩ := sFor_ok (it := mIter (mLc (mIter (mVar 1)) (tName 3) (mYes) (mBin addD (mVar 3) (mC (.str ("c" : Str)))) [3])) (g := tName 5)
    (b := sIf (mTest (mCall m_26 (mCons (mVar 5) (mNil)))) (sSeq (sSet 6 (mBlt lenD (mCons (mLc (mIter (mVar 4)) (tName 7) (mTest (mCall m_24 (mCons (mVar 5) (mCons (mVar 7) (mNil))))) (mC (.int 1)) [7]) (mNil)))) (sSet 4 (mBin addD (mBin addD (mSlice (mVar 4) (mNoPart) (mPart (mVar 6))) (mLst (mCons (mVar 5) (mNil)))) (mSlice (mVar 4) (mPart (mVar 6)) (mNoPart))))) (sNil))
    (nx := nxList (.ref S3.length)) (n := ws.length) (ρ := [some (.int (n : Int)), some (.ref k2), x2, none, some (.ref S2.length), none, none, none]) (S := S3 ++ [.lst (ws.map .str)]) (S0 := S3)
    (fun i ρ S => ∃ q x5 x6, ρ = [some (.int (n : Int)), some (.ref k2), x2, none, some (.ref q), x5, x6, none] ∧ S[q]? = some (.lst ((keptP (ws.take i)).map .str)) ∧ S[S3.length]? = some (.lst (ws.map .str)) ∧ (∀ o ∈ keptP (ws.take i), o ∈ ws.filter isg) ∧ (keptP (ws.take i)).length ≤ i)
    (mIter_ok e4 (by
      have : getL (.ref S3.length) (S3 ++ [C.lst (ws.map D.str)]) = some (ws.map D.str) := by
        show (match (S3 ++ [C.lst (ws.map D.str)])[S3.length]? with | some (.lst ds) => some ds | _ => none) = _
        rw [get_new]
      show (match getL (.ref S3.length) (S3 ++ [C.lst (ws.map D.str)]) with | some _ => R.ok (nxList (.ref S3.length)) (S3 ++ [C.lst (ws.map D.str)]) | none => .bad) = _
      rw [this])) (Nat.lt_of_le_of_lt wl (by decide)) ⟨S2.length, none, none, rfl, by rw [List.take_zero]; exact g0, get_new, by rw [List.take_zero]; intro o ho; simp [keptP] at ho, by rw [List.take_zero]; exact Nat.le_refl _⟩
    (fun i ρ S hi ⟨q, x5, x6, hρ, hq, hw, hm, hl⟩ => by
      subst hρ
      have hwi : ws[i] ∈ ws := List.getElem_mem hi
      have hcl : isg ws[i] = true → ∀ o ∈ keptP (ws.take i), isBl (m_24 [.str ws[i], .str o] []) = true := fun hg o ho => by
        have z := hB _ (List.mem_filter.mpr ⟨hwi, hg⟩)
        rw [List.all_eq_true] at z
        exact z o (hm o ho)
      obtain ⟨q', x6', S', T, r1, r2, r3⟩ := keep_step (x1 := some (.ref k2)) (x2 := x2) (x6 := x6) (nD := some (.int (n : Int))) (w := ws[i]) hq (hA _ hwi) hcl (by omega)
      · refine ⟨.str ws[i], _, S, _, S', ?_, rfl, r1, q', some (.str ws[i]), x6', rfl, ?_, ?_, fun o ho => ?_, ?_⟩
        · show (getL (.ref S3.length) S).map (·[i]?) = _
          have : getL (.ref S3.length) S = some (ws.map D.str) := by
            show (match S[S3.length]? with | some (.lst ds) => some ds | _ => none) = _
            rw [hw]
          rw [this, Option.map_some, List.getElem?_map, List.getElem?_eq_getElem hi]
          rfl
        · rw [r3, keptP_step hi]
        · rw [r2]; exact get_old T hw
        · rw [keptP_step hi] at ho
          rcases keepP_mem ho with ⟨rfl, h9⟩ | h9
          · exact List.mem_filter.mpr ⟨hwi, h9⟩
          · exact hm o h9
        · rw [keptP_step hi]
          have := keepP_len (kept := keptP (ws.take i)) (w := ws[i])
          omega)
    (fun ρ S ⟨q, x5, x6, hρ, hq, hw, _⟩ => by
      show (getL (.ref S3.length) S).map (·[ws.length]?) = _
      have : getL (.ref S3.length) S = some (ws.map D.str) := by
        show (match S[S3.length]? with | some (.lst ds) => some ds | _ => none) = _
        rw [hw]
      rw [this, Option.map_some, List.getElem?_eq_none (by simp)])
  rw [List.take_length] at hq5
  exact ⟨q5, S5, defM_rt (sSeq_nx s1 (sSeq_nx e2 (sSeq_nx s3 (sSeq_nx e5 (sRet_ok rfl))))), hq5⟩
end Law

namespace Law
open PySem PySem.Spec L2 DM
def okc (a : Nat) : Bool := a == 108 || a == 99 || a == 114
def ixc (a : Nat) : Int := if a = 108 then 0 else if a = 99 then 1 else 2
def sg (a : Nat) : D := .str ⟨#[a]⟩
def abL : Bool → List Nat → List Nat → Bool
  | t, a :: as, b :: bs => if a = b then abL (t != (a == 114)) as bs else (decide (ixc b < ixc a) != t)
  | _, _, _ => false
theorem okc_cases {a : Nat} (h : okc a = true) : a = 108 ∨ a = 99 ∨ a = 114 := by
  unfold okc at h
  simp only [Bool.or_eq_true, beq_iff_eq] at h
  rcases h with (h | h) | h
  · exact .inl h
  · exact .inr (.inl h)
  · exact .inr (.inr h)
def LCR : C := .lst [.str ("l" : Str), .str ("c" : Str), .str ("r" : Str)]
def qs3 : List PyData := [.str ("l" : Str), .str ("c" : Str), .str ("r" : Str)]
theorem key3 {a : Nat} (h : okc a = true) : (SeqAt.shaped (.str ⟨#[a]⟩) && SeqAt.shaped (.list qs3)) = true ∧ ∃ j : Nat, ixOfP (.str ⟨#[a]⟩) qs3 0 = some j ∧ (j : Int) = ixc a := by
  rcases okc_cases h with rfl | rfl | rfl
  · exact ⟨by decide +kernel, 0, by decide +kernel, by decide⟩
  · exact ⟨by decide +kernel, 1, by decide +kernel, by decide⟩
  · exact ⟨by decide +kernel, 2, by decide +kernel, by decide⟩
theorem idx_ok {j : Nat} {a : Nat} {ρ : DM.Env} {S : Store} (h : okc a = true) (hr : ρ[j]? = some (some (sg a))) :
    mMth indexD (mLst (mCons (mC (.str ("l" : Str))) (mCons (mC (.str ("c" : Str))) (mCons (mC (.str ("r" : Str))) (mNil))))) (mCons (mVar j) (mNil)) ρ S = .ok (.int (ixc a)) (S ++ [LCR]) := by
  refine mMth_ok (x := .ref S.length) (S1 := S ++ [LCR]) (S2 := S ++ [LCR]) (ys := [sg a]) (mLst_ok (mCons_ok rfl (mCons_ok rfl (mCons_ok rfl rfl))) (by show (3 : Nat) ≤ sizeLine; decide)) (isL_ref get_new) (mCons_ok (by unfold mVar; rw [hr]) rfl) ?_
  have e : toPy 20 (S ++ [LCR]) (.ref S.length) = some (.list [.str ("l" : Str), .str ("c" : Str), .str ("r" : Str)]) := by
    show (match (S ++ [LCR])[S.length]? with | some (.lst es) => (es.mapM (toPy 19 (S ++ [LCR]))).map PyData.list | _ => none) = _
    rw [get_new]
    rfl
  unfold indexD
  rw [e]
  obtain ⟨k1, n, k2, k3⟩ := key3 h
  show (if (SeqAt.shaped (.str ⟨#[a]⟩) && SeqAt.shaped (.list qs3)) = true then (match ixOfP (.str ⟨#[a]⟩) qs3 0 with
    | some j => R.ok (D.int (j : Nat)) (S ++ [LCR])
    | none => .bad) else .bad) = _
  rw [if_pos k1, k2, ← k3]
theorem ne_sg {a b : Nat} {S : Store} : neC (sg a) (sg b) S = some (!decide (a = b)) := by
  show (some (decide ((⟨#[a]⟩ : Str) = ⟨#[b]⟩))).map (!·) = _
  have : decide ((⟨#[a]⟩ : Str) = ⟨#[b]⟩) = decide (a = b) := by
    by_cases h : a = b
    · subst h; simp
    · rw [decide_eq_false h, decide_eq_false]
      intro z
      injection z with z
      injection z with z
      injection z with z
      exact h z
  rw [this]; rfl
theorem eq_r {a : Nat} {S : Store} : eqC (sg a) (.str ("r" : Str)) S = some (a == 114) := by
  have z := ne_sg (a := a) (b := 114) (S := S)
  have e : neC (sg a) (sg 114) S = (eqC (sg a) (.str ("r" : Str)) S).map (!·) := rfl
  rw [e] at z
  have e2 : eqC (sg a) (.str ("r" : Str)) S = some (decide ((⟨#[a]⟩ : Str) = ("r" : Str))) := rfl
  rw [e2] at z ⊢
  have z2 : (!decide ((⟨#[a]⟩ : Str) = ("r" : Str))) = !decide (a = 114) := Option.some.inj z
  have z3 : decide ((⟨#[a]⟩ : Str) = ("r" : Str)) = decide (a = 114) := by
    cases h1 : decide ((⟨#[a]⟩ : Str) = ("r" : Str)) <;> cases h2 : decide (a = 114) <;> rw [h1, h2] at z2 <;> first | rfl | cases z2
  rw [z3]
  congr 1
def body24 : SM := (sSeq (sIf (mTest (mBin (cmpD neC) (mVar 3) (mVar 4))) (sRet (mBin (cmpD neC) (mBin (cmpD gtC) (mMth indexD (mLst (mCons (mC (.str ("l" : Str))) (mCons (mC (.str ("c" : Str))) (mCons (mC (.str ("r" : Str))) (mNil))))) (mCons (mVar 3) (mNil))) (mMth indexD (mLst (mCons (mC (.str ("l" : Str))) (mCons (mC (.str ("c" : Str))) (mCons (mC (.str ("r" : Str))) (mNil))))) (mCons (mVar 4) (mNil)))) (mVar 2))) (sNil)) (sSet 2 (mBin (cmpD neC) (mVar 2) (mBin (cmpD eqC) (mVar 3) (mC (.str ("r" : Str)))))))
theorem cmpD_ok {c : C2} {x y : D} {b : Bool} {S : Store} (h : c x y S = some b) : cmpD c x y S = .ok (.bl b) S := by
  unfold cmpD
  rw [h]
theorem body_ne {a b : Nat} {t : Bool} {X Y : D} {S : Store} (ha : okc a = true) (hb : okc b = true) (h : a ≠ b) : ∃ S', body24 [some X, some Y, some (.bl t), some (sg a), some (sg b)] S = .rt (.bl (decide (ixc b < ixc a) != t)) S' := by
  have t1 : mTest (mBin (cmpD neC) (mVar 3) (mVar 4)) [some X, some Y, some (.bl t), some (sg a), some (sg b)] S = .ok true S := by
    have z := mTest_ok (a := mBin (cmpD neC) (mVar 3) (mVar 4)) (ρ := [some X, some Y, some (.bl t), some (sg a), some (sg b)]) (S := S) (b := !decide (a = b)) (mBin_ok rfl rfl (cmpD_ok ne_sg))
    rwa [decide_eq_false h] at z
  refine ⟨_, sSeq_rt (sIf_t t1 (sRet_ok (mBin_ok (mBin_ok (idx_ok ha rfl) (idx_ok hb rfl) (cmpD_ok rfl)) rfl (cmpD_ok ?_))))⟩
  rfl
theorem body_eq {a : Nat} {t : Bool} {X Y : D} {S : Store} : body24 [some X, some Y, some (.bl t), some (sg a), some (sg a)] S = .nx [some X, some Y, some (.bl (t != (a == 114))), some (sg a), some (sg a)] S := by
  have t1 : mTest (mBin (cmpD neC) (mVar 3) (mVar 4)) [some X, some Y, some (.bl t), some (sg a), some (sg a)] S = .ok false S := by
    have z := mTest_ok (a := mBin (cmpD neC) (mVar 3) (mVar 4)) (ρ := [some X, some Y, some (.bl t), some (sg a), some (sg a)]) (S := S) (b := !decide (a = a)) (mBin_ok rfl rfl (cmpD_ok ne_sg))
    rwa [decide_eq_true rfl] at z
  exact sSeq_nx (sIf_f t1 rfl) (sSet_ok (mBin_ok rfl (mBin_ok rfl rfl (cmpD_ok eq_r)) (cmpD_ok rfl)))
theorem loop24 {x y : Str} : ∀ (m i : Nat) (t : Bool) (a3 a4 : Option D) (S : Store) (as bs : List Nat), (∀ c ∈ as, okc c = true) → (∀ c ∈ bs, okc c = true) → x.cps.toList.drop i = as → y.cps.toList.drop i = bs → i ≤ x.cps.size → i ≤ y.cps.size → as.length < m →
    (∃ S', sForN (nxZipS x y) (tTupG 2 (tConss (tName 3) (tConss (tName 4) (tNils)))) body24 m i [some (.str x), some (.str y), some (.bl t), a3, a4] S = .rt (.bl (abL t as bs)) S') ∨
    (abL t as bs = false ∧ ∃ ρ' S', sForN (nxZipS x y) (tTupG 2 (tConss (tName 3) (tConss (tName 4) (tNils)))) body24 m i [some (.str x), some (.str y), some (.bl t), a3, a4] S = .nx ρ' S')
  | 0, i, t, a3, a4, S, as, bs, _, _, _, _, _, _, hm => by omega
  | m + 1, i, t, a3, a4, S, as, bs, oa, ob, ea, eb, ix, iy, hm => by
    have gx : x.cps[i]? = as[0]? := by
      rw [← ea, List.getElem?_drop, ← Array.getElem?_toList]; rfl
    have gy : y.cps[i]? = bs[0]? := by
      rw [← eb, List.getElem?_drop, ← Array.getElem?_toList]; rfl
    have lx : x.cps.toList.length = x.cps.size := Array.length_toList
    have ly : y.cps.toList.length = y.cps.size := Array.length_toList
    have stop : nxZipS x y i S = some none → sForN (nxZipS x y) (tTupG 2 (tConss (tName 3) (tConss (tName 4) (tNils)))) body24 (m + 1) i [some (.str x), some (.str y), some (.bl t), a3, a4] S = .nx [some (.str x), some (.str y), some (.bl t), a3, a4] S := fun q => by
      unfold sForN
      rw [q]
    cases as with
    | nil =>
      refine .inr ⟨by unfold abL; rfl, _, _, stop ?_⟩
      unfold nxZipS
      rw [gx]
      show (if _ ∧ _ then some none else none) = _
      rw [if_pos ⟨ix, iy⟩]
    | cons a as =>
      cases bs with
      | nil =>
        refine .inr ⟨by unfold abL; rfl, _, _, stop ?_⟩
        unfold nxZipS
        rw [gx, gy]
        show (if _ ∧ _ then some none else none) = _
        rw [if_pos ⟨ix, iy⟩]
      | cons b bs =>
        have go : nxZipS x y i S = some (some (.pr [sg a, sg b])) := by
          unfold nxZipS
          rw [gx, gy]
          rfl
        have tg : tTupG 2 (tConss (tName 3) (tConss (tName 4) (tNils))) (.pr [sg a, sg b]) [some (.str x), some (.str y), some (.bl t), a3, a4] S = .ok [some (.str x), some (.str y), some (.bl t), some (sg a), some (sg b)] S := rfl
        have step : sForN (nxZipS x y) (tTupG 2 (tConss (tName 3) (tConss (tName 4) (tNils)))) body24 (m + 1) i [some (.str x), some (.str y), some (.bl t), a3, a4] S = (body24 [some (.str x), some (.str y), some (.bl t), some (sg a), some (sg b)] S).turn (sForN (nxZipS x y) (tTupG 2 (tConss (tName 3) (tConss (tName 4) (tNils)))) body24 m (i + 1)) := by
          conv => lhs; unfold sForN
          rw [go]
          show (tTupG 2 (tConss (tName 3) (tConss (tName 4) (tNils))) (.pr [sg a, sg b]) [some (.str x), some (.str y), some (.bl t), a3, a4] S).noexc.toS _ _ = _
          rw [tg]
          rfl
        rw [step]
        by_cases hab : a = b
        · subst hab
          rw [body_eq]
          have e1 : abL t (a :: as) (a :: bs) = abL (t != (a == 114)) as bs := by
            rw [abL, if_pos rfl]
          rw [e1]
          have da : x.cps.toList.drop (i + 1) = as := by rw [← List.drop_drop, ea]; rfl
          have db : y.cps.toList.drop (i + 1) = bs := by rw [← List.drop_drop, eb]; rfl
          have hx : i < x.cps.size := by
            have := congrArg List.length ea
            rw [List.length_drop, lx] at this
            simp at this; omega
          have hy : i < y.cps.size := by
            have := congrArg List.length eb
            rw [List.length_drop, ly] at this
            simp at this; omega
          exact loop24 m (i + 1) _ _ _ S as bs (fun c h => oa c (List.mem_cons_of_mem _ h)) (fun c h => ob c (List.mem_cons_of_mem _ h)) da db hx hy (by simp at hm; omega)
        · obtain ⟨S', e⟩ := body_ne (t := t) (X := .str x) (Y := .str y) (S := S) (oa a List.mem_cons_self) (ob b List.mem_cons_self) hab
          rw [e]
          refine .inl ⟨S', ?_⟩
          rw [abL, if_neg hab]
          rfl
def okW (w : Str) : Bool := w.cps.toList.all okc && decide (w.length ≤ 30)
def abP (x y : Str) : Bool := abL false x.cps.toList y.cps.toList
theorem above_ok {x y : Str} (hx : okW x = true) (hy : okW y = true) : ∃ S', m_24 [.str x, .str y] [] = .ok (.bl (abP x y)) S' := by
  unfold okW at hx hy
  rw [Bool.and_eq_true, List.all_eq_true, decide_eq_true_eq] at hx hy
  have hl : x.cps.toList.length < fuel := by
    have : x.cps.toList.length = x.length := Array.length_toList
    rw [this]
    exact Nat.lt_of_le_of_lt hx.2 (by decide)
  have hb : m_24 = defM 3 (sSeq (sSet 2 (mC (.bl false))) (sSeq (sFor (mZipA (mCons (mVar 0) (mCons (mVar 1) (mNil)))) (tTupG 2 (tConss (tName 3) (tConss (tName 4) (tNils)))) body24) (sRet (mC (.bl false))))) := rfl
  have z := loop24 (x := x) (y := y) fuel 0 false none none [] _ _ hx.1 hy.1 rfl rfl (Nat.zero_le _) (Nat.zero_le _) hl
  rw [hb]
  have it : sFor (mZipA (mCons (mVar 0) (mCons (mVar 1) (mNil)))) (tTupG 2 (tConss (tName 3) (tConss (tName 4) (tNils)))) body24 [some (.str x), some (.str y), some (.bl false), none, none] [] = sForN (nxZipS x y) (tTupG 2 (tConss (tName 3) (tConss (tName 4) (tNils)))) body24 fuel 0 [some (.str x), some (.str y), some (.bl false), none, none] [] := rfl
  rcases z with ⟨S', e⟩ | ⟨e0, ρ', S', e⟩
  · exact ⟨S', defM_rt (sSeq_nx (sSet_ok rfl) (sSeq_rt (it.trans e)))⟩
  · refine ⟨S', defM_rt (sSeq_nx (sSet_ok rfl) (sSeq_nx (it.trans e) (sRet_ok ?_)))⟩
    unfold abP
    rw [e0]; rfl
end Law

namespace Law
open PySem PySem.Spec L2 DM
def shf (w : Str) (i : Nat) : Str := cutS w (some (i : Int)) none ++ cutS w none (some (i : Int))
theorem cut_len (w : Str) (lo hi : Option Int) : (cutS w lo hi).length ≤ w.length := by
  unfold cutS
  show (List.toArray _).size ≤ w.cps.size
  rw [List.size_toArray, List.length_take, List.length_drop, Array.length_toList]
  omega
theorem slice_str {w : Str} {lo hi : Option Int} {S : Store} (h : w.length ≤ 30) : sliceD (.str w) lo hi S = .ok (.str (cutS w lo hi)) S := by
  show (if w.length ≤ sizeLine then R.ok (D.str (cutS w lo hi)) S else .bad) = _
  rw [if_pos (by have := sizeLine_eq; omega)]
theorem shf_ok {i j k : Nat} {w : Str} {ρ : DM.Env} {S : Store} (h : w.length ≤ 30) (hj : ρ[j]? = some (some (.str w))) (hk : ρ[k]? = some (some (.int (i : Int)))) :
    mBin addD (mSlice (mVar j) (mPart (mVar k)) (mNoPart)) (mSlice (mVar j) (mNoPart) (mPart (mVar k))) ρ S = .ok (.str (shf w i)) S := by
  have v1 : mVar j ρ S = .ok (.str w) S := by unfold mVar; rw [hj]
  have v2 : mPart (mVar k) ρ S = .ok (some (i : Int)) S := by
    unfold mPart mVar
    rw [hk]; rfl
  refine mBin_ok (mSlice_ok v1 v2 rfl (slice_str h)) (mSlice_ok v1 rfl v2 (slice_str h)) (addD_strs ?_)
  have a := cut_len w (some (i : Int)) none
  have b := cut_len w none (some (i : Int))
  have := sizeLine_eq
  omega
def shP (w : Str) : List Str := (List.range (w.length - 1)).map fun i => shf w (i + 1)
theorem len_str {w : Str} {S : Store} (h : w.length ≤ 30) : lenD [.str w] S = .ok (.int (w.length : Int)) S := by
  show (if w.length ≤ sizeLine then R.ok (D.int (w.length : Int)) S else .bad) = _
  rw [if_pos (by have := sizeLine_eq; omega)]
theorem shifts_ok {w : Str} (h : w.length ≤ 30) (h1 : 1 ≤ w.length) : m_25 [.str w] [] = .ok (.ref 0) [.lst ((shP w).map .str)] := by
  have z := mLc_pure (it := mRng (mCons (mC (.int 1)) (mCons (mBlt lenD (mCons (mVar 0) (mNil))) (mNil)))) (g := tName 1) (t := mYes) (e := mBin addD (mSlice (mVar 0) (mPart (mVar 1)) (mNoPart)) (mSlice (mVar 0) (mNoPart) (mPart (mVar 1)))) (vs := [1])
    (ρ := [some (.str w), none]) (nx := nxRng 1 1 (w.length - 1)) (S := []) (S0 := []) (n := w.length - 1) (fun i => .int (1 + (i : Int) * 1)) (fun i => .str (shf w (i + 1))) (fun _ => true) (fun i => [some (.str w), some (.int (1 + (i : Int) * 1))]) (by omega)
    (mRng_ok (mCons_ok rfl (mCons_ok (mBlt_ok (mCons_ok rfl rfl) (len_str h)) rfl)) (by
      rw [rng_two (by decide) (by decide) (by omega) (by omega)]
      congr 2
      omega))
    (fun i z hi => ⟨nxRng_lt hi, rfl, rfl, fun _ => by
      have e : (1 + (i : Int) * 1) = ((i + 1 : Nat) : Int) := by omega
      rw [e]
      exact shf_ok h rfl rfl⟩) (fun z => nxRng_end)
  rw [filter_yes] at z
  refine defM_rt (sRet_ok ?_)
  have e : ((List.range (w.length - 1)).map fun i => D.str (shf w (i + 1))) = (shP w).map .str := by
    unfold shP
    rw [List.map_map]; rfl
  rw [e] at z
  exact z
theorem canLayI : ∀ ns : List Int, PyData.canLayAll0 (ns.map .int) = true
  | [] => rfl
  | n :: r => by
    show (PyData.canLay0 (.int n) && PyData.canLayAll0 (r.map .int)) = true
    rw [canLayI r]; rfl
theorem shapedL (ns : List Int) : SeqAt.shaped (.list (ns.map .int)) = true := by
  unfold SeqAt.shaped
  rw [Bool.and_eq_true]
  refine ⟨canLayI ns, decide_eq_true ?_⟩
  rw [PyData.depth, PySem.W.depth_ints]
  decide
theorem toPy_cellI {a : Nat} {ns : List Int} {S : Store} (h : S[a]? = some (.lst (ns.map .int))) : toPy 20 S (.ref a) = some (.list (ns.map .int)) := by
  show (match S[a]? with | some (.lst es) => (es.mapM (toPy 19 S)).map PyData.list | _ => none) = _
  rw [h]
  show ((ns.map D.int).mapM (toPy 19 S)).map PyData.list = _
  rw [toPy_ints (m := 18)]
  rfl
theorem eq_nil {a b : Nat} {ns : List Int} {S : Store} (h1 : S[a]? = some (.lst (ns.map .int))) (h2 : S[b]? = some (.lst [])) : eqC (.ref a) (.ref b) S = some ns.isEmpty := by
  have e1 := toPy_cellI h1
  have e2 := toPy_cellI (ns := []) h2
  show eqG (.ref a) (.ref b) S = _
  unfold eqG
  rw [e1, e2]
  show (if (SeqAt.shaped (.list (ns.map .int)) && SeqAt.shaped (.list (([] : List Int).map .int))) = true then some (PyData.eqv (.list (ns.map .int)) (.list [])) else none) = _
  rw [shapedL, shapedL]
  cases ns <;> rfl
def gP (w : Str) : Bool := ((shP w).filter fun s => abP s w).isEmpty
def okG (w : Str) : Bool := okW w && (shP w).all okW && decide (1 ≤ w.length)
theorem great_ok {w : Str} (h : okG w = true) : ∃ S', m_26 [.str w] [] = .ok (.bl (gP w)) S' := by
  unfold okG at h
  rw [Bool.and_eq_true, Bool.and_eq_true, List.all_eq_true, decide_eq_true_eq] at h
  obtain ⟨⟨hw, hs⟩, h1⟩ := h
  have hl : w.length ≤ 30 := by
    unfold okW at hw
    rw [Bool.and_eq_true, decide_eq_true_eq] at hw
    exact hw.2
  have pa : pureAll ((shP w).map D.str) = true := by
    have : ∀ l : List Str, pureAll (l.map D.str) = true := fun l => by
      induction l with
      | nil => rfl
      | cons a l ih => show (true && pureAll (l.map D.str)) = true; rw [ih]; rfl
    exact this _
  have c1 := callD_new (m := m_25) (ds := [.str w]) (S := []) rfl (shifts_ok hl h1) rfl pa
  have e1 := lc_strs (it := mIter (mCall m_25 (mCons (mVar 0) (mNil)))) (k := 0) (t := 1) (ρ := [some (.str w), none]) (S := [.lst ((shP w).map .str)]) (S0 := []) (T := mTest (mCall m_24 (mCons (mVar 1) (mCons (mVar 0) (mNil))))) (E := mC (.int 1)) (fun _ => .int 1) (fun s => abP s w) rfl (by
      unfold shP
      rw [List.length_map, List.length_range]; omega) (mIter_ok (mCall_ok (mCons_ok rfl rfl) c1) rfl)
    (fun x hx z => ⟨by
      obtain ⟨S', e⟩ := above_ok (hs x hx) hw
      exact mTest_ok (mCall_ok (mCons_ok rfl (mCons_ok rfl rfl)) (callD_val rfl e rfl)), fun _ => rfl⟩)
  have em : (((shP w).filter fun s => abP s w).map fun _ => D.int 1) = (((shP w).filter fun s => abP s w).map fun _ => (1 : Int)).map D.int := by rw [List.map_map]; rfl
  rw [em] at e1
  refine ⟨_, defM_rt (sRet_ok (mBin_ok e1 (mLst_ok rfl (Nat.zero_le _)) (cmpD_ok ?_)))⟩
  rw [eq_nil (get_old _ get_new) get_new]
  unfold gP
  cases (shP w).filter fun s => abP s w <;> rfl
theorem isg_eq {w : Str} (h : okG w = true) : isg w = gP w ∧ isBl (m_26 [.str w] []) = true := by
  obtain ⟨S', e⟩ := great_ok h
  unfold isg
  rw [e]
  exact ⟨rfl, rfl⟩
theorem abv_eq {x y : Str} (hx : okW x = true) (hy : okW y = true) : abv x y = abP x y ∧ isBl (m_24 [.str x, .str y] []) = true := by
  obtain ⟨S', e⟩ := above_ok hx hy
  unfold abv
  rw [e]
  exact ⟨rfl, rfl⟩
/-- the same by plain lists -/
def keepQ (kept : List Str) (w : Str) : List Str := if gP w then kept.take (kept.filter (abP w)).length ++ [w] ++ kept.drop (kept.filter (abP w)).length else kept
theorem keptP_eq : ∀ (ws kept : List Str), (∀ w ∈ ws, okG w = true) → (∀ w ∈ kept, okG w = true) → ws.foldl keepP kept = ws.foldl keepQ kept
  | [], _, _, _ => rfl
  | w :: ws, kept, h1, h2 => by
    have hw := h1 w List.mem_cons_self
    have ow : ∀ v, okG v = true → okW v = true := fun v hv => by
      unfold okG at hv
      rw [Bool.and_eq_true, Bool.and_eq_true] at hv
      exact hv.1.1
    have ef : kept.filter (abv w) = kept.filter (abP w) := List.filter_congr fun o ho => (abv_eq (ow w hw) (ow o (h2 o ho))).1
    have e : keepP kept w = keepQ kept w := by
      unfold keepP keepQ
      rw [(isg_eq hw).1, ef]
    rw [List.foldl_cons, List.foldl_cons, e]
    refine keptP_eq ws _ (fun v hv => h1 v (List.mem_cons_of_mem _ hv)) fun v hv => ?_
    rw [← e] at hv
    rcases keepP_mem hv with ⟨rfl, _⟩ | hv
    · exact hw
    · exact h2 v hv
theorem chk_ok {ws : List Str} (h : ws.all okG = true) : chk27 ws = true := by
  rw [List.all_eq_true] at h
  have ow : ∀ v, okG v = true → okW v = true := fun v hv => by
    unfold okG at hv
    rw [Bool.and_eq_true, Bool.and_eq_true] at hv
    exact hv.1.1
  unfold chk27
  rw [Bool.and_eq_true, List.all_eq_true, List.all_eq_true]
  refine ⟨fun w hw => (isg_eq (h w hw)).2, fun w hw => ?_⟩
  rw [List.all_eq_true]
  exact fun o ho => (abv_eq (ow _ (h w (List.mem_filter.mp hw).1)) (ow _ (h o (List.mem_filter.mp ho).1))).2
theorem every_P {n : Nat} (h1 : 1 ≤ n) (h2 : n ≤ 16) (hc : (wordsP (n - 1)).all okG = true) : ∃ j S', m_27 [.int (n : Int)] [] = .ok (.ref j) S' ∧ S'[j]? = some (.lst (((wordsP (n - 1)).foldl keepQ []).map .str)) := by
  obtain ⟨j, S', e1, e2⟩ := every_ok h1 h2 (chk_ok hc)
  refine ⟨j, S', e1, ?_⟩
  rw [e2]
  congr 3
  rw [List.all_eq_true] at hc
  exact keptP_eq _ _ hc (fun w hw => by simp at hw)
end Law

namespace Law
open PySem PySem.Spec L2 DM
def valc (a : Nat) : Int := if a = 108 then -1 else if a = 99 then 0 else 1
def keyL : Int → List Nat → List Int
  | _, [] => []
  | s, a :: as => s * valc a :: keyL (if a = 114 then -s else s) as
def keyP (w : Str) : List Int := keyL 1 w.cps.toList
theorem keyL_len : ∀ (s : Int) (l : List Nat), (keyL s l).length = l.length
  | _, [] => rfl
  | s, a :: as => by rw [keyL, List.length_cons, List.length_cons, keyL_len]
theorem kd_ok {a : Nat} (h : okc a = true) : T_PLACES.lookup (⟨#[a]⟩ : Str) = some (valc a) := by
  rcases okc_cases h with rfl | rfl | rfl <;> decide +kernel
theorem asInts_map : ∀ l : List Int, asInts (l.map D.int) = some l
  | [] => rfl
  | i :: r => by
    show (asInts (r.map D.int)).map (i :: ·) = _
    rw [asInts_map r]; rfl
theorem kdC_ok {a j : Nat} {ρ : DM.Env} {S : Store} (h : okc a = true) (hr : ρ[j]? = some (some (sg a))) : mKd T_PLACES (mVar j) ρ S = .ok (.int (valc a)) S := by
  have v : mVar j ρ S = .ok (sg a) S := by unfold mVar; rw [hr]
  unfold mKd
  rw [v]
  show (match T_PLACES.lookup (⟨#[a]⟩ : Str) with | some i => R.ok (D.int i) S | none => .bad) = _
  rw [kd_ok h]
theorem valc_small (a : Nat) : (valc a).natAbs ≤ 1 := by
  unfold valc
  split
  · decide
  · split <;> decide
theorem key_ok {w : Str} (h : okW w = true) : ∃ S', m_4 [.str w] [] = .ok (.tup ((keyP w).map .int)) S' := by
  unfold okW at h
  rw [Bool.and_eq_true, List.all_eq_true, decide_eq_true_eq] at h
  obtain ⟨ho, hl⟩ := h
  have sz : w.cps.toList.length = w.cps.size := Array.length_toList
  have hl' : w.cps.size ≤ 30 := hl
  obtain ⟨ρ1, S1, e1, s, a3, pre, rfl, rfl, hp, _, _⟩ := sFor_ok (it := mIter (mVar 0)) (g := tName 3) (b := sSeq (sExpr (mMth appendD (mVar 1) (mCons (mBin mulD (mVar 2) (mKd T_PLACES (mVar 3))) (mNil)))) (sIf (mTest (mBin (cmpD eqC) (mVar 3) (mC (.str ("r" : Str))))) (sSet 2 (mUn negD (mVar 2))) (sNil)))
    (nx := nxStr w) (n := w.cps.size) (ρ := [some (.str w), some (.ref 0), some (.int 1), none]) (S := [.lst []]) (S0 := [.lst []])
    (fun i ρ S => ∃ (s : Int) (a3 : Option D) (pre : List Int), ρ = [some (.str w), some (.ref 0), some (.int s), a3] ∧ S = [.lst (pre.map .int)] ∧ keyP w = pre ++ keyL s (w.cps.toList.drop i) ∧ s.natAbs = 1 ∧ pre.length = i)
    (mIter_ok rfl rfl) (Nat.lt_of_le_of_lt hl' (by decide)) ⟨1, none, [], rfl, rfl, rfl, rfl, rfl⟩
    (fun i ρ S hi ⟨s, a3, pre, hρ, hS, hp, hs, hn⟩ => by
      subst hρ hS
      have hi2 : i < w.cps.toList.length := by rw [sz]; exact hi
      obtain ⟨a, ha⟩ : ∃ a, a = w.cps.toList[i] := ⟨_, rfl⟩
      have oa : okc a = true := by rw [ha]; exact ho _ (List.getElem_mem hi2)
      have hd : w.cps.toList.drop i = a :: w.cps.toList.drop (i + 1) := by rw [ha]; exact List.drop_eq_getElem_cons hi2
      have nx : nxStr w i [C.lst (pre.map D.int)] = some (some (sg a)) := by
        show some (w.cps[i]?.map fun c => D.str ⟨#[c]⟩) = _
        rw [← Array.getElem?_toList, List.getElem?_eq_getElem hi2, ha]
        rfl
      have vs := valc_small a
      have ap := appendD_ok (n := 0) (S := [C.lst (pre.map D.int)]) (ds := pre.map D.int) (y := .int (s * valc a)) rfl (by rw [List.length_map]; omega)
      have st1 : sExpr (mMth appendD (mVar 1) (mCons (mBin mulD (mVar 2) (mKd T_PLACES (mVar 3))) (mNil))) [some (.str w), some (.ref 0), some (.int s), some (sg a)] [C.lst (pre.map D.int)] = .nx [some (.str w), some (.ref 0), some (.int s), some (sg a)] [C.lst ((pre ++ [s * valc a]).map D.int)] := by
        refine sExpr_ok (d := .non) (mMth_ok rfl (isL_ref rfl) (mCons_ok (mBin_ok rfl (kdC_ok oa rfl) (mulD_b (by omega) (by omega))) rfl) ?_)
        rw [ap]
        simp
      have t1 := mTest_ok (a := mBin (cmpD eqC) (mVar 3) (mC (.str ("r" : Str)))) (ρ := [some (.str w), some (.ref 0), some (.int s), some (sg a)]) (S := [C.lst ((pre ++ [s * valc a]).map D.int)]) (b := a == 114) (mBin_ok rfl rfl (cmpD_ok eq_r))
      by_cases hr : a = 114
      · have hb : (a == 114) = true := by rw [hr]; rfl
        rw [hb] at t1
        refine ⟨sg a, _, _, _, _, nx, rfl, sSeq_nx st1 (sIf_t t1 (sSet_ok (mUn_ok rfl rfl))), -s, some (sg a), pre ++ [s * valc a], rfl, rfl, ?_, by omega, by simp [hn]⟩
        rw [hp, hd, keyL, if_pos hr]
        simp
      · have hb : (a == 114) = false := by simpa using hr
        rw [hb] at t1
        refine ⟨sg a, _, _, _, _, nx, rfl, sSeq_nx st1 (sIf_f t1 rfl), s, some (sg a), pre ++ [s * valc a], rfl, rfl, ?_, hs, by simp [hn]⟩
        rw [hp, hd, keyL, if_neg hr]
        simp)
    (fun ρ S _ => by
      show some (w.cps[w.cps.size]?.map fun c => D.str ⟨#[c]⟩) = _
      rw [Array.getElem?_eq_none (Nat.le_refl _)]; rfl)
  have ep : pre = keyP w := by
    rw [hp, List.drop_of_length_le (by omega)]
    simp [keyL]
  refine ⟨[C.lst (pre.map D.int)], defM_rt (sSeq_nx (sPar_ok (mCons_ok (mLst_ok (xs := []) (S1 := []) rfl (Nat.zero_le _)) (mCons_ok rfl rfl))) (sSeq_nx e1 (sRet_ok (mBlt_ok (mCons_ok rfl rfl) ?_))))⟩
  rw [← ep]
  rfl
def cmpP (x y : Str) : Int := (if HT.lexLt (keyP y) (keyP x) then 1 else 0) - (if HT.lexLt (keyP x) (keyP y) then 1 else 0)
theorem clean_tI (l : List Int) : cleanAll (l.map D.int) = true := by
  induction l with
  | nil => rfl
  | cons a l ih => show (true && cleanAll (l.map D.int)) = true; rw [ih]; rfl
theorem pure_tI (l : List Int) : pureD (.tup (l.map D.int)) = true := by
  show pureAll (l.map D.int) = true
  induction l with
  | nil => rfl
  | cons a l ih => show (true && pureAll (l.map D.int)) = true; rw [ih]; rfl
theorem gt_tI (a b : List Int) (S : Store) : gtC (.tup (a.map D.int)) (.tup (b.map D.int)) S = some (HT.lexLt b a) := by
  show (match asInts (a.map D.int), asInts (b.map D.int) with | some ns, some ms => some (HT.lexLt ms ns) | _, _ => none) = _
  rw [asInts_map, asInts_map]
theorem lt_tI (a b : List Int) (S : Store) : ltC (.tup (a.map D.int)) (.tup (b.map D.int)) S = some (HT.lexLt a b) := by
  show ltT (a.map D.int) (b.map D.int) = _
  unfold ltT
  rw [asInts_map, asInts_map]
theorem compared_ok {x y : Str} (hx : okW x = true) (hy : okW y = true) : ∃ S', m_5 [.str x, .str y] [] = .ok (.int (cmpP x y)) S' := by
  obtain ⟨S1, e1⟩ := key_ok hx
  obtain ⟨S2, e2⟩ := key_ok hy
  have c1 : ∀ S, callD m_4 [.str x] S = .ok (.tup ((keyP x).map .int)) S := fun S => callD_val rfl e1 (pure_tI _)
  have c2 : ∀ S, callD m_4 [.str y] S = .ok (.tup ((keyP y).map .int)) S := fun S => callD_val rfl e2 (pure_tI _)
  refine ⟨[], defM_rt (sSeq_nx (sPar_ok (mCons_ok (mCall_ok (mCons_ok rfl rfl) (c1 _)) (mCons_ok (mCall_ok (mCons_ok rfl rfl) (c2 _)) rfl))) (sRet_ok (mBin_ok (mBlt_ok (mCons_ok (mBin_ok rfl rfl (cmpD_ok (gt_tI _ _ _))) rfl) rfl) (mBlt_ok (mCons_ok (mBin_ok rfl rfl (cmpD_ok (lt_tI _ _ _))) rfl) rfl) ?_)))⟩
  rfl
theorem shifted_ok {w : Str} {i : Nat} (h : w.length ≤ 30) : m_6 [.str w, .int (i : Int)] [] = .ok (.str (shf w i)) [] := defM_rt (sRet_ok (shf_ok h rfl rfl))
def body7 : SM := sIf (mTest (mBin (cmpD gtC) (mCall m_5 (mCons (mCall m_6 (mCons (mVar 0) (mCons (mVar 1) (mNil)))) (mCons (mVar 0) (mNil)))) (mC (.int 0)))) (sRet (mVar 1)) (sNil)
/-- some shift from the j-th on is above -/
def btL (w : Str) : Nat → Nat → Bool
  | 0, _ => false
  | k + 1, j => decide (0 < cmpP (shf w j) w) || btL w k (j + 1)
theorem loop7 {w : Str} (hw : okW w = true) (hl : w.length ≤ 30) (n : Nat) (hs : ∀ i, i < n → okW (shf w (i + 1)) = true) : ∀ (m k i : Nat) (a1 : Option D) (S : Store), i + k = n → k < m →
    (btL w k (i + 1) = true ∧ ∃ v S', sForN (nxRng 1 1 n) (tName 1) body7 m i [some (.str w), a1] S = .rt (.int v) S') ∨
    (btL w k (i + 1) = false ∧ ∃ ρ' S', sForN (nxRng 1 1 n) (tName 1) body7 m i [some (.str w), a1] S = .nx ρ' S')
  | 0, k, i, a1, S, _, hm => by omega
  | m + 1, 0, i, a1, S, hi, hm => by
    refine .inr ⟨rfl, [some (.str w), a1], S, ?_⟩
    have : i = n := by omega
    subst this
    unfold sForN
    rw [nxRng_end]
  | m + 1, k + 1, i, a1, S, hi, hm => by
    have hin : i < n := by omega
    have e : (1 + (i : Int) * 1) = ((i + 1 : Nat) : Int) := by omega
    obtain ⟨S1, c5⟩ := compared_ok (hs i hin) hw
    have step : sForN (nxRng 1 1 n) (tName 1) body7 (m + 1) i [some (.str w), a1] S = (body7 [some (.str w), some (.int ((i + 1 : Nat) : Int))] S).turn (sForN (nxRng 1 1 n) (tName 1) body7 m (i + 1)) := by
      conv => lhs; unfold sForN
      rw [nxRng_lt hin, e]
      rfl
    have t1 := mTest_ok (a := mBin (cmpD gtC) (mCall m_5 (mCons (mCall m_6 (mCons (mVar 0) (mCons (mVar 1) (mNil)))) (mCons (mVar 0) (mNil)))) (mC (.int 0))) (ρ := [some (.str w), some (.int ((i + 1 : Nat) : Int))]) (S := S) (b := decide (0 < cmpP (shf w (i + 1)) w))
      (mBin_ok (mCall_ok (mCons_ok (mCall_ok (mCons_ok rfl (mCons_ok rfl rfl)) (callD_val rfl (shifted_ok hl) rfl)) (mCons_ok rfl rfl)) (callD_val rfl c5 rfl)) rfl (cmpD_ok rfl))
    rw [step]
    cases hc : decide (0 < cmpP (shf w (i + 1)) w) with
    | true =>
      rw [hc] at t1
      refine .inl ⟨by rw [btL, hc]; rfl, ((i + 1 : Nat) : Int), S, ?_⟩
      have : body7 [some (.str w), some (.int ((i + 1 : Nat) : Int))] S = .rt (.int ((i + 1 : Nat) : Int)) S := sIf_t t1 (sRet_ok rfl)
      rw [this]
      rfl
    | false =>
      rw [hc] at t1
      have : body7 [some (.str w), some (.int ((i + 1 : Nat) : Int))] S = .nx [some (.str w), some (.int ((i + 1 : Nat) : Int))] S := sIf_f t1 rfl
      rw [this]
      have z := loop7 hw hl n hs m k (i + 1) (some (.int ((i + 1 : Nat) : Int))) S (by omega) (by omega)
      have eb : btL w (k + 1) (i + 1) = btL w k (i + 1 + 1) := by rw [btL, hc]; rfl
      rw [eb]
      exact z
def btP (w : Str) : Bool := btL w (w.length - 1) 1
theorem isgr_ok {w : Str} (h : okG w = true) : ∃ S', m_8 [.str w] [] = .ok (.bl (!btP w)) S' := by
  unfold okG at h
  rw [Bool.and_eq_true, Bool.and_eq_true, List.all_eq_true, decide_eq_true_eq] at h
  obtain ⟨⟨hw, hs⟩, h1⟩ := h
  have hl : w.length ≤ 30 := by
    have := hw
    unfold okW at this
    rw [Bool.and_eq_true, decide_eq_true_eq] at this
    exact this.2
  have z := loop7 hw hl (w.length - 1) (fun i hi => hs _ (by
    unfold shP
    exact List.mem_map.mpr ⟨i, List.mem_range.mpr hi, rfl⟩)) fuel (w.length - 1) 0 none [] (by omega) (Nat.lt_of_le_of_lt (show w.length - 1 ≤ 30 by omega) (by decide))
  have it : sFor (mRng (mCons (mC (.int 1)) (mCons (mBlt lenD (mCons (mVar 0) (mNil))) (mNil)))) (tName 1) body7 [some (.str w), none] [] = sForN (nxRng 1 1 (w.length - 1)) (tName 1) body7 fuel 0 [some (.str w), none] [] := by
    have e : mRng (mCons (mC (.int 1)) (mCons (mBlt lenD (mCons (mVar 0) (mNil))) (mNil))) [some (.str w), none] [] = .ok (nxRng 1 1 (w.length - 1)) [] := mRng_ok (mCons_ok rfl (mCons_ok (mBlt_ok (mCons_ok rfl rfl) (len_str hl)) rfl)) (by
      rw [rng_two (by decide) (by decide) (by omega) (by omega)]
      congr 2
      omega)
    unfold sFor
    rw [e]
    rfl
  have hb : m_7 = defM 1 (sSeq (sFor (mRng (mCons (mC (.int 1)) (mCons (mBlt lenD (mCons (mVar 0) (mNil))) (mNil)))) (tName 1) body7) (sRet (mC .non))) := rfl
  rcases z with ⟨e0, v, S', e⟩ | ⟨e0, ρ', S', e⟩
  · have c7 : m_7 [.str w] [] = .ok (.int v) S' := by
      rw [hb]
      exact defM_rt (sSeq_rt (it.trans e))
    refine ⟨[], defM_rt (sRet_ok (mBin_ok (mCall_ok (mCons_ok rfl rfl) (callD_val rfl c7 rfl)) rfl (cmpD_ok ?_)))⟩
    unfold btP
    rw [e0]
    rfl
  · have c7 : m_7 [.str w] [] = .ok .non S' := by
      rw [hb]
      exact defM_rt (sSeq_nx (it.trans e) (sRet_ok rfl))
    refine ⟨[], defM_rt (sRet_ok (mBin_ok (mCall_ok (mCons_ok rfl rfl) (callD_val rfl c7 rfl)) rfl (cmpD_ok ?_)))⟩
    unfold btP
    rw [e0]
    rfl
end Law

namespace Law
open PySem PySem.Spec L2 DM
theorem lcEnd_at {S0 : Store} {acc : List D} {c : Nat} {y : D} {k : Store → R D} (hc : c < 16777216) : lcEnd S0.length y (S0 ++ [.rev acc c]) k = k (S0 ++ [.rev (y :: acc) (c + 1)]) := by
  unfold lcEnd
  rw [get_new]
  dsimp only
  rw [if_pos hc]
  congr 1
  simp
theorem lcIn_go {nx : Nx} {E : M D} {d y : D} {ρ : DM.Env} {S0 : Store} {acc : List D} {c m j : Nat} {k : Store → R D} (hx : nx j (S0 ++ [.rev acc c]) = some (some d)) (h1 : E (ρ.set 4 (some d)) (S0 ++ [.rev acc c]) = .ok y (S0 ++ [.rev acc c])) (hc : c < 16777216) :
    lcIn nx (tName 4) mYes E ρ S0.length (m + 1) j (S0 ++ [.rev acc c]) k = lcIn nx (tName 4) mYes E ρ S0.length m (j + 1) (S0 ++ [.rev (y :: acc) (c + 1)]) k := by
  conv => lhs; unfold lcIn
  rw [hx]
  show (E (ρ.set 4 (some d)) (S0 ++ [.rev acc c])).noexc.bind (fun y S3 => lcEnd S0.length y S3 fun S4 => lcIn nx (tName 4) mYes E ρ S0.length m (j + 1) S4 k) = _
  rw [h1]
  show lcEnd S0.length y (S0 ++ [.rev acc c]) (fun S4 => lcIn nx (tName 4) mYes E ρ S0.length m (j + 1) S4 k) = _
  rw [lcEnd_at hc]
theorem lcIn_stop {nx : Nx} {E : M D} {ρ : DM.Env} {S : Store} {n m j : Nat} {k : Store → R D} (hx : nx j S = some none) : lcIn nx (tName 4) mYes E ρ n (m + 1) j S k = k S := by
  conv => lhs; unfold lcIn
  rw [hx]
theorem lcIn_two {E : M D} {d1 d2 y1 y2 : D} {ρ : DM.Env} {S0 : Store} {acc : List D} {c M : Nat} {k : Store → R D} (h1 : E (ρ.set 4 (some d1)) (S0 ++ [.rev acc c]) = .ok y1 (S0 ++ [.rev acc c])) (h2 : E (ρ.set 4 (some d2)) (S0 ++ [.rev (y1 :: acc) (c + 1)]) = .ok y2 (S0 ++ [.rev (y1 :: acc) (c + 1)])) (hc : c + 2 < 16777216) (hM : 3 ≤ M) :
    lcIn (nxTup [d1, d2]) (tName 4) mYes E ρ S0.length M 0 (S0 ++ [.rev acc c]) k = k (S0 ++ [.rev (y2 :: y1 :: acc) (c + 2)]) := by
  obtain ⟨m, rfl⟩ : ∃ m, M = m + 3 := ⟨M - 3, by omega⟩
  rw [lcIn_go (m := m + 2) rfl h1 (by omega), lcIn_go (m := m + 1) rfl h2 (by omega), lcIn_stop (m := m) rfl]
def LRt : M (List D) := mCons (mC (.str ("l" : Str))) (mCons (mC (.str ("r" : Str))) (mNil))
def twoE : M D := mBin addD (mVar 3) (mVar 4)
def two (r : Str) : List Str := [r ++ ("l" : Str), r ++ ("r" : Str)]
theorem lc2_run {nD : D} {x1 x2 : Option D} {k : Nat} {ws : List Str} {S : Store} (hk : S[k]? = some (.lst (ws.map .str))) (hw : ∀ w ∈ ws, w.length ≤ 30) (hl : ws.length ≤ 1000000) : ∀ (m i : Nat) (acc : List D), i ≤ ws.length → ws.length < i + m → acc.length = 2 * i →
    lc2N (nxList (.ref k)) (tName 3) mYes (mIter (mTup LRt)) (tName 4) mYes twoE [4] [some nD, x1, x2, none, none] S.length m i (S ++ [.rev acc (2 * i)]) = .ok (.ref S.length) (S ++ [.lst (acc.reverse ++ ((ws.drop i).flatMap two).map .str)])
  | 0, i, acc, h1, h2, _ => by omega
  | m + 1, i, acc, h1, h2, h3 => by
    have gl : ∀ z, getL (.ref k) (S ++ [z]) = some (ws.map D.str) := fun z => by
      show (match (S ++ [z])[k]? with | some (.lst ds) => some ds | _ => none) = _
      rw [get_old _ hk]
    by_cases hi : i = ws.length
    · have nx : nxList (.ref k) i (S ++ [.rev acc (2 * i)]) = some none := by
        show (getL (.ref k) (S ++ [.rev acc (2 * i)])).map (·[i]?) = _
        rw [gl, Option.map_some, List.getElem?_eq_none (by simp [hi])]
      conv => lhs; unfold lc2N
      rw [nx]
      show lcDone S.length (S ++ [.rev acc (2 * i)]) = _
      unfold lcDone
      rw [get_new]
      dsimp only
      rw [List.drop_of_length_le (by omega)]
      simp
    · have hi2 : i < ws.length := by omega
      obtain ⟨w, hwe⟩ : ∃ w, w = ws[i] := ⟨_, rfl⟩
      have nx : nxList (.ref k) i (S ++ [.rev acc (2 * i)]) = some (some (.str w)) := by
        show (getL (.ref k) (S ++ [.rev acc (2 * i)])).map (·[i]?) = _
        rw [gl, Option.map_some, List.getElem?_map, List.getElem?_eq_getElem hi2, hwe]
        rfl
      have wl : w.length ≤ 30 := hw w (by rw [hwe]; exact List.getElem_mem hi2)
      have ad : ∀ (ch : Str) (T : Store), ch.length = 1 → twoE [some nD, x1, x2, some (.str w), some (.str ch)] T = .ok (.str (w ++ ch)) T := fun ch T h => mBin_ok rfl rfl (addD_strs (by have := sizeLine_eq; omega))
      have hit : ∀ T, mIter (mTup LRt) [some nD, x1, x2, some (.str w), none] T = .ok (nxTup [.str ("l" : Str), .str ("r" : Str)]) T := fun T => mIter_ok (mTup_ok (mCons_ok rfl (mCons_ok rfl rfl)) (by show (2 : Nat) ≤ sizeLine; decide)) rfl
      have step : lc2N (nxList (.ref k)) (tName 3) mYes (mIter (mTup LRt)) (tName 4) mYes twoE [4] [some nD, x1, x2, none, none] S.length (m + 1) i (S ++ [.rev acc (2 * i)]) =
          lcIn (nxTup [.str ("l" : Str), .str ("r" : Str)]) (tName 4) mYes twoE [some nD, x1, x2, some (.str w), none] S.length fuel 0 (S ++ [.rev acc (2 * i)]) (lc2N (nxList (.ref k)) (tName 3) mYes (mIter (mTup LRt)) (tName 4) mYes twoE [4] [some nD, x1, x2, none, none] S.length m (i + 1)) := by
        conv => lhs; unfold lc2N
        rw [nx]
        show (mIter (mTup LRt) [some nD, x1, x2, some (.str w), none] (S ++ [.rev acc (2 * i)])).noexc.bind (fun nx1 S3 => lcIn nx1 (tName 4) mYes twoE (wipeE [some nD, x1, x2, some (.str w), none] [4]) S.length fuel 0 S3 (lc2N (nxList (.ref k)) (tName 3) mYes (mIter (mTup LRt)) (tName 4) mYes twoE [4] [some nD, x1, x2, none, none] S.length m (i + 1))) = _
        rw [hit]
        rfl
      rw [step]
      rw [lcIn_two (ad ("l" : Str) _ rfl) (ad ("r" : Str) _ rfl) (by omega) (by decide)]
      have ih := lc2_run (nD := nD) (x1 := x1) (x2 := x2) hk hw hl m (i + 1) (.str (w ++ ("r" : Str)) :: .str (w ++ ("l" : Str)) :: acc) (by omega) (by omega) (by simp [h3]; omega)
      have e2 : 2 * (i + 1) = 2 * i + 2 := by omega
      rw [e2] at ih
      rw [ih]
      congr 4
      rw [List.drop_eq_getElem_cons hi2, ← hwe, List.flatMap_cons, List.map_append]
      simp [two]
def rows2 : Nat → List Str
  | 0 => [""]
  | n + 1 => (rows2 n).flatMap two
theorem rows2_len : ∀ (n : Nat) (w : Str), w ∈ rows2 n → w.length = n
  | 0, w, h => by
    simp [rows2] at h
    subst h; rfl
  | n + 1, w, h => by
    unfold rows2 at h
    obtain ⟨v, hv, hm⟩ := List.mem_flatMap.mp h
    unfold two at hm
    simp only [List.mem_cons, List.not_mem_nil, or_false] at hm
    rcases hm with rfl | rfl <;> rw [len_app, rows2_len n v hv] <;> rfl
theorem flat_two : ∀ l : List Str, (l.flatMap two).length = 2 * l.length
  | [] => rfl
  | a :: r => by
    rw [List.flatMap_cons, List.length_append, flat_two r]
    show 2 + _ = 2 * (r.length + 1)
    omega
theorem rows2_card : ∀ n : Nat, (rows2 n).length = 2 ^ n
  | 0 => rfl
  | n + 1 => by
    rw [show rows2 (n + 1) = (rows2 n).flatMap two from rfl, flat_two, rows2_card n, Nat.pow_succ]
    omega
theorem mLc2_ok {it it1 : M Nx} {g g1 : TM} {t t1 : M Bool} {e : M D} {vs vs1 : List Nat} {ρ ρw : DM.Env} {S S0 : Store} {nx : Nx} {r : R D} (hi : it ρ S0 = .ok nx S) (hw : wipeE ρ vs = ρw) (h : lc2N nx g t it1 g1 t1 e vs1 ρw S.length fuel 0 (S ++ [.rev [] 0]) = r) : mLc2 it g t it1 g1 t1 e vs vs1 ρ S0 = r := by
  subst hw
  unfold mLc2
  rw [hi]
  exact h
def words2 (n : Nat) : List Str := (rows2 n).map (· ++ ("c" : Str))
theorem words_ok {n : Nat} (h1 : 1 ≤ n) (h2 : n ≤ 16) : ∃ j S', m_9 [.int (n : Int)] [] = .ok (.ref j) S' ∧ S'[j]? = some (.lst ((words2 (n - 1)).map .str)) := by
  have sl := sizeLine_eq
  have s1 : sSet 1 (mLst (mCons (mC (.str ("" : Str))) (mNil))) [some (.int (n : Int)), none, none, none, none] [] = .nx [some (.int (n : Int)), some (.ref 0), none, none, none] [.lst [.str ""]] :=
    sSet_ok (mLst_ok (xs := [.str ""]) (S1 := []) (mCons_ok rfl rfl) (by show (1 : Nat) ≤ sizeLine; decide))
  obtain ⟨ρ2, S2, e2, k2, x2, rfl, hk2⟩ := sFor_ok (it := mRng (mCons (mBin subD (mVar 0) (mC (.int 1))) (mNil))) (g := tName 2)
    (b := sSet 1 (mLc2 (mIter (mVar 1)) (tName 3) (mYes) (mIter (mTup LRt)) (tName 4) (mYes) twoE [3, 4] [4]))
    (nx := nxRng 0 1 (n - 1)) (n := n - 1) (ρ := [some (.int (n : Int)), some (.ref 0), none, none, none]) (S := [.lst [.str ""]]) (S0 := [.lst [.str ""]])
    (fun i ρ S => ∃ k x2, ρ = [some (.int (n : Int)), some (.ref k), x2, none, none] ∧ S[k]? = some (.lst ((rows2 i).map .str)))
    (mRng_ok (mCons_ok (mBin_ok rfl rfl (show subD (.int (n : Int)) (.int 1) _ = .ok (.int ((n - 1 : Nat) : Int)) _ by
      show R.ok (D.int ((n : Int) - 1)) _ = _
      congr 2; omega)) rfl) (rng_one (by omega))) (Nat.lt_of_lt_of_le (show n - 1 < 20 by omega) (by decide)) ⟨0, none, rfl, rfl⟩
    (fun i ρ S hi ⟨k, x2, hρ, hk⟩ => by
      subst hρ
      have hcard : (rows2 i).length ≤ 1000000 := by
        rw [rows2_card]
        exact Nat.le_trans (Nat.pow_le_pow_right (by decide) (show i ≤ 16 by omega)) (by decide)
      have q := lc2_run (nD := .int (n : Int)) (x1 := some (.ref k)) (x2 := some (.int (0 + (i : Int) * 1))) hk (fun w hw => by rw [rows2_len i w hw]; omega) hcard fuel 0 [] (Nat.zero_le _) (Nat.lt_of_le_of_lt hcard (by decide)) rfl
      rw [Nat.mul_zero, List.drop_zero, List.reverse_nil, List.nil_append] at q
      have hit := iter_ref (i := 1) (ρ := [some (.int (n : Int)), some (.ref k), some (.int (0 + (i : Int) * 1)), none, none]) rfl hk
      have q2 := mLc2_ok (vs := [3, 4]) hit rfl q
      exact ⟨_, _, _, _, _, nxRng_lt hi, rfl, sSet_ok q2, S.length, _, rfl, get_new⟩) (fun ρ S _ => nxRng_end)
  have hcard : (rows2 (n - 1)).length < 16777216 := by
    rw [rows2_card]
    exact Nat.lt_of_le_of_lt (Nat.pow_le_pow_right (by decide) (show n - 1 ≤ 20 by omega)) (by decide)
  have e4 := lc_strs (it := mIter (mVar 1)) (t := 3) (ρ := [some (.int (n : Int)), some (.ref k2), x2, none, none]) (T := mYes) (E := mBin addD (mVar 3) (mC (.str ("c" : Str)))) (fun x => .str (x ++ ("c" : Str))) (fun _ => true) hk2 hcard (iter_ref rfl hk2)
    (fun x hx z => ⟨rfl, fun _ => addLR rfl (by rw [rows2_len _ x hx]; show n - 1 + 1 ≤ _; omega)⟩)
  rw [filter_yes] at e4
  have ew : ((rows2 (n - 1)).map fun x => D.str (x ++ ("c" : Str))) = (words2 (n - 1)).map .str := by
    unfold words2
    rw [List.map_map]; rfl
  rw [ew] at e4
  exact ⟨_, _, defM_rt (sSeq_nx s1 (sSeq_nx e2 (sRet_ok e4))), get_new⟩
theorem insP_map {α β : Type} (f : α → β) (x : α × List Int) : ∀ l : List (α × List Int), insP (f x.1, x.2) (l.map fun p => (f p.1, p.2)) = (insP x l).map fun p => (f p.1, p.2)
  | [] => rfl
  | y :: r => by
    show (if HT.lexLt y.2 x.2 then (f y.1, y.2) :: insP (f x.1, x.2) (r.map fun p => (f p.1, p.2)) else _) = _
    rw [insP_map f x r]
    show _ = ((if HT.lexLt y.2 x.2 then y :: insP x r else x :: y :: r).map fun p => (f p.1, p.2))
    split <;> rfl
theorem srtP_map {α β : Type} (f : α → β) : ∀ l : List (α × List Int), srtP (l.map fun p => (f p.1, p.2)) = (srtP l).map fun p => (f p.1, p.2)
  | [] => rfl
  | x :: r => by
    show insP (f x.1, x.2) (srtP (r.map fun p => (f p.1, p.2))) = _
    rw [srtP_map f r, insP_map]
    rfl
def sortP (ws : List Str) : List Str := (srtP (ws.map fun w => (w, keyP w))).map (·.1)
theorem tupsI_map : ∀ ls : List (List Int), (∀ l ∈ ls, l ≠ []) → tupsI (ls.map tIn) = some ls
  | [], _ => rfl
  | l :: r, h => by
    have e : tupI (tIn l) = some l := by
      show (match asInts (l.map D.int) with | some (n :: r) => some (n :: r) | _ => none) = _
      rw [asInts_map]
      cases l with
      | nil => exact absurd rfl (h [] List.mem_cons_self)
      | cons => rfl
    show (match tupI (tIn l), tupsI (r.map tIn) with | some l, some r => some (l :: r) | _, _ => none) = _
    rw [e, tupsI_map r fun l hl => h l (List.mem_cons_of_mem _ hl)]
theorem sorted_P {ws : List Str} {S : Store} (h : ∀ w ∈ ws, keyP w ≠ []) : sortKTD (ws.map .str) (ws.map fun w => tIn (keyP w)) S = .ok (.ref S.length) (S ++ [.lst ((sortP ws).map .str)]) := by
  have e : (ws.map fun w => tIn (keyP w)) = (ws.map keyP).map tIn := by rw [List.map_map]; rfl
  unfold sortKTD
  rw [e, tupsI_map _ (fun l hl => by
    obtain ⟨w, hw, rfl⟩ := List.mem_map.mp hl
    exact h w hw)]
  dsimp only
  have e1 : ((ws.map keyP).length == (ws.map D.str).length) = true := by rw [List.length_map, List.length_map]; simp
  rw [if_pos e1, List.zip_map']
  have e2 : (ws.map fun w => (D.str w, keyP w)) = (ws.map fun w => (w, keyP w)).map fun p => (D.str p.1, p.2) := by rw [List.map_map]; rfl
  rw [e2, srtP_map]
  congr 3
  unfold sortP
  rw [List.map_map, List.map_map]
  rfl
theorem mSortKT_ok {m : Fm} {a : M (List D)} {ρ : DM.Env} {S S1 S2 : Store} {d : D} {xs ks : List D} {r : R D} (ha : a ρ S = .ok [d] S1) (hg : getSeq d S1 = some xs) (hk : keysD m xs S1 = .ok ks S2) (hs : sortKTD xs ks S2 = r) : mSortKT m a ρ S = r := by
  unfold mSortKT
  rw [ha]
  show (match getSeq d S1 with
      | some xs => (keysD m xs S1).noexc.bind fun ks S2 => sortKTD xs ks S2
      | none => .bad) = _
  rw [hg]
  show (keysD m xs S1).noexc.bind (fun ks S2 => sortKTD xs ks S2) = _
  rw [hk]
  exact hs
def greatQ (n : Nat) : List Str := sortP ((words2 (n - 1)).filter fun w => !btP w)
theorem greatest_ok {n : Nat} (h1 : 1 ≤ n) (h2 : n ≤ 16) (hc : (words2 (n - 1)).all okG = true) : ∃ S', m_10 [.int (n : Int)] [] = .ok (.ref 2) S' ∧ S'[2]? = some (.lst ((greatQ n).map .str)) := by
  rw [List.all_eq_true] at hc
  obtain ⟨j, S1, c1, c2⟩ := words_ok h1 h2
  have ow : ∀ v, okG v = true → okW v = true := fun v hv => by
    unfold okG at hv
    rw [Bool.and_eq_true, Bool.and_eq_true] at hv
    exact hv.1.1
  have ol : ∀ v, okG v = true → 1 ≤ v.length := fun v hv => by
    unfold okG at hv
    rw [Bool.and_eq_true, decide_eq_true_eq] at hv
    exact hv.2
  have pa : ∀ l : List Str, pureAll (l.map D.str) = true := fun l => by
    induction l with
    | nil => rfl
    | cons a l ih => show (true && pureAll (l.map D.str)) = true; rw [ih]; rfl
  have c9 := callD_new (m := m_9) (ds := [.int (n : Int)]) (S := []) rfl c1 c2 (pa _)
  have wl : (words2 (n - 1)).length < 16777216 := by
    unfold words2
    rw [List.length_map, rows2_card]
    exact Nat.lt_of_le_of_lt (Nat.pow_le_pow_right (by decide) (show n - 1 ≤ 20 by omega)) (by decide)
  have e1 := lc_strs (it := mIter (mCall m_9 (mCons (mVar 0) (mNil)))) (k := 0) (t := 1) (ρ := [some (.int (n : Int)), none]) (S := [.lst ((words2 (n - 1)).map .str)]) (S0 := []) (T := mTest (mCall m_8 (mCons (mVar 1) (mNil)))) (E := mVar 1) (fun w => .str w) (fun w => !btP w) rfl wl (mIter_ok (mCall_ok (mCons_ok rfl rfl) c9) rfl)
    (fun x hx z => ⟨by
      obtain ⟨S', e⟩ := isgr_ok (hc x hx)
      exact mTest_ok (mCall_ok (mCons_ok rfl rfl) (callD_val rfl e rfl)), fun _ => rfl⟩)
  obtain ⟨ws, hws⟩ : ∃ ws, ws = (words2 (n - 1)).filter fun w => !btP w := ⟨_, rfl⟩
  have hm : ∀ w ∈ ws, okG w = true := fun w hw => hc w (by rw [hws] at hw; exact (List.mem_filter.mp hw).1)
  rw [← hws] at e1
  have kk : keysD m_4 (ws.map D.str) ([C.lst ((words2 (n - 1)).map D.str)] ++ [C.lst (ws.map D.str)]) = .ok (ws.map fun w => tIn (keyP w)) ([C.lst ((words2 (n - 1)).map D.str)] ++ [C.lst (ws.map D.str)]) := by
    have z := keysD_ok (m := m_4) (f := fun d => match d with | .str w => tIn (keyP w) | _ => .non) (S := [C.lst ((words2 (n - 1)).map D.str)] ++ [C.lst (ws.map D.str)]) (ds := ws.map D.str) (fun d hd => by
      obtain ⟨w, hw, rfl⟩ := List.mem_map.mp hd
      obtain ⟨S', e⟩ := key_ok (ow w (hm w hw))
      exact callD_val rfl e (pure_tI _))
    rw [List.map_map] at z
    exact z
  have ss := sorted_P (ws := ws) (S := [C.lst ((words2 (n - 1)).map D.str)] ++ [C.lst (ws.map D.str)]) (fun w hw => by
    intro z
    have h9 := ol w (hm w hw)
    have h8 := keyL_len 1 w.cps.toList
    unfold keyP at z
    rw [z] at h8
    have h7 : w.cps.toList.length = w.cps.size := Array.length_toList
    have h6 : w.length = w.cps.size := rfl
    simp at h8
    omega)
  refine ⟨_, defM_rt (sRet_ok (d := .ref 2) (S1 := [C.lst ((words2 (n - 1)).map D.str)] ++ [C.lst (ws.map D.str)] ++ [C.lst ((sortP ws).map D.str)]) ?_), ?_⟩
  · exact mSortKT_ok (mCons_ok e1 rfl) rfl kk ss
  · show some (C.lst ((sortP ws).map D.str)) = _
    rw [hws]; rfl
def isNonR (r : R D) : Bool := match r with | .ok .non _ => true | _ => false
theorem isNonR_ok {r : R D} (h : isNonR r = true) : ∃ S, r = .ok .non S := by
  unfold isNonR at h
  split at h
  · exact ⟨_, rfl⟩
  · cases h
theorem listed_ok {n : Nat} (h1 : 1 ≤ n) (h2 : n ≤ 16) (hc : (words2 (n - 1)).all okG = true) (hr : isNonR (m_2 [.int (n : Int), .int 1, .int 14] []) = true) : ∃ S', m_16 [.int (n : Int)] [] = .ok (.tup ((greatQ n).map .str)) S' := by
  obtain ⟨S1, e1⟩ := isNonR_ok hr
  obtain ⟨S2, e2, e3⟩ := greatest_ok h1 h2 hc
  have pa : ∀ l : List Str, pureAll (l.map D.str) = true := fun l => by
    induction l with
    | nil => rfl
    | cons a l ih => show (true && pureAll (l.map D.str)) = true; rw [ih]; rfl
  have c10 := callD_new (m := m_10) (ds := [.int (n : Int)]) (S := []) rfl e2 e3 (pa _)
  exact ⟨_, defM_rt (sSeq_nx (sExpr_ok (mCall_ok (mCons_ok rfl (mCons_ok rfl (mCons_ok rfl rfl))) (callD_val rfl e1 rfl))) (sRet_ok (mBlt_ok (mCons_ok (mCall_ok (mCons_ok rfl rfl) c10) rfl) rfl)))⟩
end Law

namespace Law
open PySem PySem.Spec L2 DM
theorem app_list (x y : Str) : (x ++ y).cps.toList = x.cps.toList ++ y.cps.toList := by
  show (x.cps ++ y.cps).toList = _
  rw [Array.toList_append]
theorem cut_list (w : Str) (lo hi : Option Int) : (cutS w lo hi).cps.toList = (w.cps.toList.drop (HT.sIx w.length 0 lo)).take (HT.sIx w.length w.length hi - HT.sIx w.length 0 lo) := by
  unfold cutS
  simp
theorem shf_list (w : Str) (i : Nat) : (shf w i).cps.toList = w.cps.toList.drop (min i w.length) ++ w.cps.toList.take (min i w.length) := by
  have hn : w.cps.toList.length = w.length := Array.length_toList
  unfold shf
  rw [app_list, cut_list, cut_list, HT.sIx_none, HT.sIx_none, HT.sIx_nat, List.drop_zero, Nat.sub_zero]
  congr 1
  rw [List.take_of_length_le]
  rw [List.length_drop, hn]
  omega
theorem len_list (w : Str) : w.length = w.cps.toList.length := Array.length_toList.symm
theorem shf_len (w : Str) (i : Nat) : (shf w i).length = w.length := by
  rw [len_list, shf_list, List.length_append, List.length_drop, List.length_take, ← len_list]
  omega
theorem okG_of {w : Str} (h : ∀ c ∈ w.cps.toList, okc c = true) (hl : w.length ≤ 30) (h1 : 1 ≤ w.length) : okG w = true := by
  have ok : ∀ v : Str, (∀ c ∈ v.cps.toList, okc c = true) → v.length ≤ 30 → okW v = true := fun v hv hl => by
    unfold okW
    rw [Bool.and_eq_true, List.all_eq_true, decide_eq_true_eq]
    exact ⟨hv, hl⟩
  unfold okG
  rw [Bool.and_eq_true, Bool.and_eq_true, List.all_eq_true, decide_eq_true_eq]
  refine ⟨⟨ok w h hl, fun s hs => ?_⟩, h1⟩
  unfold shP at hs
  obtain ⟨i, _, rfl⟩ := List.mem_map.mp hs
  refine ok _ (fun c hc => ?_) (by rw [shf_len]; exact hl)
  rw [shf_list] at hc
  rcases List.mem_append.mp hc with hc | hc
  · exact h c (List.mem_of_mem_drop hc)
  · exact h c (List.mem_of_mem_take hc)
theorem okc_app {x y : Str} (hx : ∀ c ∈ x.cps.toList, okc c = true) (hy : ∀ c ∈ y.cps.toList, okc c = true) : ∀ c ∈ (x ++ y).cps.toList, okc c = true := fun c hc => by
  rw [app_list] at hc
  rcases List.mem_append.mp hc with hc | hc
  · exact hx c hc
  · exact hy c hc
theorem okc_l : ∀ c ∈ ("l" : Str).cps.toList, okc c = true := by decide +kernel
theorem okc_r : ∀ c ∈ ("r" : Str).cps.toList, okc c = true := by decide +kernel
theorem okc_c : ∀ c ∈ ("c" : Str).cps.toList, okc c = true := by decide +kernel
theorem rowsP_okc : ∀ (n : Nat) (w : Str), w ∈ rowsP n → ∀ c ∈ w.cps.toList, okc c = true
  | 0, w, h => by
    simp [rowsP] at h
    subst h
    intro c hc
    exact absurd hc (by decide +revert +kernel)
  | n + 1, w, h => by
    unfold rowsP at h
    rcases List.mem_append.mp h with h | h
    · obtain ⟨v, hv, rfl⟩ := List.mem_map.mp h
      exact okc_app (rowsP_okc n v hv) okc_l
    · obtain ⟨v, hv, rfl⟩ := List.mem_map.mp h
      exact okc_app (rowsP_okc n v hv) okc_r
theorem rows2_okc : ∀ (n : Nat) (w : Str), w ∈ rows2 n → ∀ c ∈ w.cps.toList, okc c = true
  | 0, w, h => rowsP_okc 0 w h
  | n + 1, w, h => by
    unfold rows2 at h
    obtain ⟨v, hv, hm⟩ := List.mem_flatMap.mp h
    unfold two at hm
    simp only [List.mem_cons, List.not_mem_nil, or_false] at hm
    rcases hm with rfl | rfl
    · exact okc_app (rows2_okc n v hv) okc_l
    · exact okc_app (rows2_okc n v hv) okc_r
theorem wordsP_okG {n : Nat} (h : n ≤ 16) : (wordsP n).all okG = true := by
  rw [List.all_eq_true]
  intro w hw
  unfold wordsP at hw
  obtain ⟨v, hv, rfl⟩ := List.mem_map.mp hw
  have hl : (v ++ ("c" : Str)).length = n + 1 := by rw [len_app, rowsP_len n v hv]; rfl
  exact okG_of (okc_app (rowsP_okc n v hv) okc_c) (by omega) (by omega)
theorem words2_okG {n : Nat} (h : n ≤ 16) : (words2 n).all okG = true := by
  rw [List.all_eq_true]
  intro w hw
  unfold words2 at hw
  obtain ⟨v, hv, rfl⟩ := List.mem_map.mp hw
  have hl : (v ++ ("c" : Str)).length = n + 1 := by rw [len_app, rows2_len n v hv]; rfl
  exact okG_of (okc_app (rows2_okc n v hv) okc_c) (by omega) (by omega)
def W : Nat → List Str
  | 1 => ["c"]
  | 2 => ["rc"]
  | 3 => ["rlc"]
  | 4 => ["rlrc", "rllc"]
  | 5 => ["rlrrc", "rllrc", "rlllc"]
  | 6 => ["rlrrrc", "rllrlc", "rllrrc", "rlllrc", "rllllc"]
  | 7 => ["rlrrrrc", "rlrrlrc", "rllrlrc", "rllrrrc", "rllrrlc", "rlllrlc", "rlllrrc", "rllllrc", "rlllllc"]
  | 8 => ["rlrrrlrc", "rlrrrrrc", "rlrrlrrc", "rllrlrrc", "rllrlrlc", "rllrrrlc", "rllrrrrc", "rllrrlrc", "rlllrllc", "rlllrlrc", "rlllrrrc", "rlllrrlc", "rllllrlc", "rllllrrc", "rlllllrc", "rllllllc"]
  | 9 => ["rlrrrrrrc", "rlrrrrlrc", "rlrrlrlrc", "rlrrlrrrc", "rllrlrrlc", "rllrlrrrc", "rllrlrlrc", "rllrrrlrc", "rllrrrrrc", "rllrrrrlc", "rllrrlrlc", "rllrrlrrc", "rllrrllrc", "rlllrllrc", "rlllrlrrc", "rlllrlrlc", "rlllrrrlc", "rlllrrrrc", "rlllrrlrc", "rlllrrllc", "rllllrllc", "rllllrlrc", "rllllrrrc", "rllllrrlc", "rlllllrlc", "rlllllrrc", "rllllllrc", "rlllllllc"]
  | _ => []
theorem everyW : ∀ n, 1 ≤ n → n ≤ 9 → (wordsP (n - 1)).foldl keepQ [] = W n := by
  have h : ((List.range 9).all fun i => decide ((wordsP i).foldl keepQ [] = W (i + 1))) = true := by decide +kernel
  intro n h1 h2
  rw [List.all_eq_true] at h
  have z := h (n - 1) (List.mem_range.mpr (by omega))
  have e : n - 1 + 1 = n := by omega
  rw [e] at z
  exact of_decide_eq_true z
theorem greatW : ∀ n, 1 ≤ n → n ≤ 9 → greatQ n = W n := by
  have h : ((List.range 9).all fun i => decide (greatQ (i + 1) = W (i + 1))) = true := by decide +kernel
  intro n h1 h2
  rw [List.all_eq_true] at h
  have z := h (n - 1) (List.mem_range.mpr (by omega))
  have e : n - 1 + 1 = n := by omega
  rw [e] at z
  exact of_decide_eq_true z
theorem great12 : (greatQ 12).length = 170 := by decide +kernel
end Law

namespace Law
open PySem PySem.Spec L2 DM
theorem extendD_ok {q l : Nat} {S : Store} {ds ys : List D} (h : S[q]? = some (.lst ds)) (h2 : S[l]? = some (.lst ys)) (hl : ds.length + ys.length ≤ 16777216) : extendD (.ref q) [.ref l] S = .ok .non (S.set q (.lst (ds ++ ys))) := by
  have g : getP (.ref l) S = some ys := by
    show (match S[l]? with | some (.lst ds) => some ds | _ => none) = _
    rw [h2]
  unfold extendD
  rw [getM_ref h]
  dsimp only [one1]
  rw [g]
  dsimp only
  rw [if_pos hl]
theorem nxlT {S : Store} {k i : Nat} {ls : List (List Int)} (hS : S[k]? = some (.lst (ls.map tIn))) (hi : i < ls.length) : nxList (.ref k) i S = some (some (tIn ls[i])) := by
  show (match S[k]? with | some (.lst ds) => some ds | _ => none : Option (List D)).map (·[i]?) = _
  rw [hS]
  show some ((ls.map tIn)[i]?) = _
  rw [List.getElem?_map, List.getElem?_eq_getElem hi]
  rfl
theorem nxlT_end {S : Store} {k : Nat} {ls : List (List Int)} (hS : S[k]? = some (.lst (ls.map tIn))) : nxList (.ref k) ls.length S = some none := by
  show (match S[k]? with | some (.lst ds) => some ds | _ => none : Option (List D)).map (·[ls.length]?) = _
  rw [hS]
  show some ((ls.map tIn)[ls.length]?) = _
  simp
theorem lcEnd_in {S0 G : Store} {acc : List D} {c : Nat} {y : D} {k : Store → R D} (hc : c < 16777216) : lcEnd S0.length y (S0 ++ [.rev acc c] ++ G) k = k (S0 ++ [.rev (y :: acc) (c + 1)] ++ G) := by
  unfold lcEnd
  rw [get_old _ get_new]
  dsimp only
  rw [if_pos hc]
  congr 1
  simp
theorem lcDone_in {S0 G : Store} {acc : List D} {c : Nat} : lcDone S0.length (S0 ++ [.rev acc c] ++ G) = .ok (.ref S0.length) (S0 ++ [.lst acc.reverse] ++ G) := by
  unfold lcDone
  rw [get_old _ get_new]
  dsimp only
  congr 1
  simp
section
variable {nx : Nx} {T : M Bool} {E : M D} {ρ : DM.Env} {S S2 : Store} {n m i : Nat} {d y : D}
theorem lcN_yes (hx : nx i S = some (some d)) (h1 : T (ρ.set 7 (some d)) S = .ok true S2) (h2 : E (ρ.set 7 (some d)) S2 = .ok y S2) : lcN nx (tName 7) T E ρ n (m + 1) i S = lcEnd n y S2 (lcN nx (tName 7) T E ρ n m (i + 1)) := by
  conv => lhs; unfold lcN
  rw [hx]
  show (T (ρ.set 7 (some d)) S).noexc.bind (fun k S2 => if k then (E (ρ.set 7 (some d)) S2).noexc.bind fun y S3 => lcEnd n y S3 (lcN nx (tName 7) T E ρ n m (i + 1)) else lcN nx (tName 7) T E ρ n m (i + 1) S2) = _
  rw [h1]
  show (E (ρ.set 7 (some d)) S2).noexc.bind (fun y S3 => lcEnd n y S3 (lcN nx (tName 7) T E ρ n m (i + 1))) = _
  rw [h2]
  rfl
theorem lcN_no (hx : nx i S = some (some d)) (h1 : T (ρ.set 7 (some d)) S = .ok false S2) : lcN nx (tName 7) T E ρ n (m + 1) i S = lcN nx (tName 7) T E ρ n m (i + 1) S2 := by
  conv => lhs; unfold lcN
  rw [hx]
  show (T (ρ.set 7 (some d)) S).noexc.bind (fun k S2 => if k then (E (ρ.set 7 (some d)) S2).noexc.bind fun y S3 => lcEnd n y S3 (lcN nx (tName 7) T E ρ n m (i + 1)) else lcN nx (tName 7) T E ρ n m (i + 1) S2) = _
  rw [h1]
  rfl
theorem lcN_stop (hx : nx i S = some none) : lcN nx (tName 7) T E ρ n (m + 1) i S = lcDone n S := by
  conv => lhs; unfold lcN
  rw [hx]
end
theorem plainI : ∀ ns : List Int, PyData.plainAll (ns.map .int) = true
  | [] => rfl
  | n :: r => by
    show (PyData.plain (.int n) && PyData.plainAll (r.map .int)) = true
    rw [plainI r]; rfl
theorem countI (s : Int) : ∀ ns : List Int, ((ns.map PyData.int).countP fun z => PyData.eqv z (.int s)) = ns.count s
  | [] => rfl
  | n :: r => by
    rw [List.map_cons, List.countP_cons, countI s r, List.count_cons]
    rfl
theorem cnt_ok {row : List Int} {s : Int} {ρ : DM.Env} {S : Store} (h6 : ρ[6]? = some (some (tIn row))) (h7 : ρ[7]? = some (some (.int s))) : mMthT countD (mVar 6) (mCons (mVar 7) (mNil)) ρ S = .ok (.int (row.count s : Nat)) S := by
  have v6 : mVar 6 ρ S = .ok (tIn row) S := by unfold mVar; rw [h6]
  have v7 : mCons (mVar 7) (mNil) ρ S = .ok [.int s] S := mCons_ok (by unfold mVar; rw [h7]) rfl
  unfold mMthT
  rw [v6]
  show (mCons (mVar 7) (mNil) ρ S).bind (fun ys S2 => countD (tIn row) ys S2) = _
  rw [v7]
  show countD (tIn row) [.int s] S = _
  have e : toPy 20 S (tIn row) = some (.tuple (row.map .int)) := toPy_tup (m := 18) row
  unfold countD
  rw [e]
  show (if (PyData.plainAll (row.map .int) && PyData.plain (.int s) && decide ((PyData.int s).depth ≤ 20)) = true then R.ok (D.int (((row.map PyData.int).countP fun z => PyData.eqv z (.int s) : Nat) : Int)) S else .bad) = _
  rw [plainI, countI]
  have dp : decide ((PyData.int s).depth ≤ 20) = true := by rw [PyData.depth]; decide
  rw [dp]
  rfl
def limB (n top : Int) (s : Int) : Int := if s = 0 then top else n - 1 - top
def stepB (n top : Int) (row : List Int) : List (List Int) := (([0, 1] : List Int).filter fun s => decide ((row.count s : Int) < limB n top s)).map fun s => row ++ [s]
def tstB : M Bool := mTest (mBin (cmpD ltC) (mMthT countD (mVar 6) (mCons (mVar 7) (mNil))) (mBin itemD (mLst (mCons (mVar 2) (mCons (mBin subD (mBin subD (mVar 0) (mC (.int 1))) (mVar 2)) (mNil)))) (mVar 7)))
def eltB : M D := mBin addD (mVar 6) (mTup (mCons (mVar 7) (mNil)))
theorem tst_ok {n top : Int} {row : List Int} {s : Int} {ρ : DM.Env} {S : Store} (hs : s = 0 ∨ s = 1) (h0 : ρ[0]? = some (some (.int n))) (h2 : ρ[2]? = some (some (.int top))) (h6 : ρ[6]? = some (some (tIn row))) (h7 : ρ[7]? = some (some (.int s))) :
    tstB ρ S = .ok (decide ((row.count s : Int) < limB n top s)) (S ++ [.lst [.int top, .int (n - 1 - top)]]) := by
  have v0 : ∀ S, mVar 0 ρ S = .ok (.int n) S := fun S => by unfold mVar; rw [h0]
  have v2 : ∀ S, mVar 2 ρ S = .ok (.int top) S := fun S => by unfold mVar; rw [h2]
  have v7 : ∀ S, mVar 7 ρ S = .ok (.int s) S := fun S => by unfold mVar; rw [h7]
  have ea : (mCons (mVar 2) (mCons (mBin subD (mBin subD (mVar 0) (mC (.int 1))) (mVar 2)) (mNil))) ρ S = .ok [.int top, .int (n - 1 - top)] S :=
    mCons_ok (v2 S) (mCons_ok (mBin_ok (mBin_ok (v0 S) (show mC (.int 1) ρ S = .ok (.int 1) S from rfl) (show subD (.int n) (.int 1) S = .ok (.int (n - 1)) S from rfl)) (v2 S) (show subD (.int (n - 1)) (.int top) S = .ok (.int (n - 1 - top)) S from rfl)) (show mNil ρ S = .ok [] S from rfl))
  have e := mBin_ok (o := itemD) (mLst_ok ea (by show (2 : Nat) ≤ sizeLine; decide)) (v7 _) (r := .ok (.int (limB n top s)) (S ++ [.lst [.int top, .int (n - 1 - top)]])) (by
    show (match getSeq (.ref S.length) (S ++ [C.lst [D.int top, .int (n - 1 - top)]]) with
      | some ds => match atI ds s with
        | some x => R.ok x (S ++ [C.lst [D.int top, .int (n - 1 - top)]])
        | none => .bad
      | none => .bad) = _
    have g : getSeq (.ref S.length) (S ++ [C.lst [D.int top, .int (n - 1 - top)]]) = some [D.int top, .int (n - 1 - top)] := by
      show (match (S ++ [C.lst [D.int top, .int (n - 1 - top)]])[S.length]? with | some (.lst ds) => some ds | _ => none) = _
      rw [get_new]
    rw [g]
    rcases hs with rfl | rfl <;> rfl)
  exact mTest_ok (mBin_ok (cnt_ok h6 h7) e (cmpD_ok rfl))
theorem add_one {row : List Int} {c : Int} {S : Store} (h : row.length ≤ 1000) : addD (tIn row) (.tup [.int c]) S = .ok (tIn (row ++ [c])) S := by
  show (if (row.map D.int).length + 1 ≤ sizeLine then R.ok (D.tup (row.map D.int ++ [.int c])) S else .bad) = _
  rw [if_pos (by rw [List.length_map]; have := sizeLine_eq; omega)]
  unfold tIn
  rw [List.map_append]
  rfl
theorem elt_ok {row : List Int} {s : Int} {ρ : DM.Env} {S : Store} (h6 : ρ[6]? = some (some (tIn row))) (h7 : ρ[7]? = some (some (.int s))) (hl : row.length ≤ 1000) : eltB ρ S = .ok (tIn (row ++ [s])) S :=
  mBin_ok (by unfold mVar; rw [h6]) (mTup_ok (xs := [.int s]) (mCons_ok (by unfold mVar; rw [h7]) rfl) (by show (1 : Nat) ≤ sizeLine; decide)) (add_one hl)
theorem lcB_ok {n top : Int} {row : List Int} {ρ : DM.Env} {S : Store} (h0 : ρ[0]? = some (some (.int n))) (h2 : ρ[2]? = some (some (.int top))) (h6 : ρ[6]? = some (some (tIn row))) (hr : ρ.length = 11) (hl : row.length ≤ 1000) :
    ∃ G, mLc (mIter (mTup (mCons (mC (.int 0)) (mCons (mC (.int 1)) (mNil))))) (tName 7) tstB eltB [7] ρ S = .ok (.ref S.length) (S ++ [.lst ((stepB n top row).map tIn)] ++ G) := by
  obtain ⟨ρw, hρ⟩ : ∃ ρw, ρw = wipeE ρ [7] := ⟨_, rfl⟩
  have w0 : ∀ d, (ρw.set 7 (some d))[0]? = some (some (.int n)) := fun d => by rw [hρ]; show ((ρ.set 7 none).set 7 (some d))[0]? = _; simp [h0]
  have w2 : ∀ d, (ρw.set 7 (some d))[2]? = some (some (.int top)) := fun d => by rw [hρ]; show ((ρ.set 7 none).set 7 (some d))[2]? = _; simp [h2]
  have w6 : ∀ d, (ρw.set 7 (some d))[6]? = some (some (tIn row)) := fun d => by rw [hρ]; show ((ρ.set 7 none).set 7 (some d))[6]? = _; simp [h6]
  have w7 : ∀ d, (ρw.set 7 (some d))[7]? = some (some d) := fun d => by rw [hρ]; show ((ρ.set 7 none).set 7 (some d))[7]? = _; simp [hr]
  obtain ⟨L, hL⟩ : ∃ L : C, L = .lst [.int top, .int (n - 1 - top)] := ⟨_, rfl⟩
  have t : ∀ s S, (s = 0 ∨ s = 1) → tstB (ρw.set 7 (some (.int s))) S = .ok (decide ((row.count s : Int) < limB n top s)) (S ++ [L]) := fun s S hs => by rw [hL]; exact tst_ok hs (w0 _) (w2 _) (w6 _) (w7 _)
  have e : ∀ s S, eltB (ρw.set 7 (some (.int s))) S = .ok (tIn (row ++ [s])) S := fun s S => elt_ok (w6 _) (w7 _) hl
  have hit : mIter (mTup (mCons (mC (.int 0)) (mCons (mC (.int 1)) (mNil)))) ρ S = .ok (nxTup [.int 0, .int 1]) S := mIter_ok (mTup_ok (mCons_ok rfl (mCons_ok rfl rfl)) (by show (2 : Nat) ≤ sizeLine; decide)) rfl
  refine ⟨[L] ++ [L], ?_⟩
  have go : ∀ m, 3 ≤ m → lcN (nxTup [.int 0, .int 1]) (tName 7) tstB eltB ρw S.length m 0 (S ++ [.rev [] 0]) = .ok (.ref S.length) (S ++ [.lst ((stepB n top row).map tIn)] ++ ([L] ++ [L])) := fun m hm => by
    obtain ⟨m, rfl⟩ : ∃ k, m = k + 3 := ⟨m - 3, by omega⟩
    have t0 := t 0 (S ++ [.rev [] 0]) (.inl rfl)
    unfold stepB
    cases b0 : decide ((row.count 0 : Int) < limB n top 0) with
    | true =>
      rw [b0] at t0
      rw [lcN_yes (m := m + 2) rfl t0 (e 0 _), lcEnd_in (by omega)]
      have t1 := t 1 (S ++ [.rev [tIn (row ++ [0])] (0 + 1)] ++ [L]) (.inr rfl)
      cases b1 : decide ((row.count 1 : Int) < limB n top 1) with
      | true =>
        rw [b1] at t1
        rw [lcN_yes (m := m + 1) rfl t1 (e 1 _), List.append_assoc (S ++ _), lcEnd_in (by omega), lcN_stop (m := m) rfl, lcDone_in]
        simp [b0, b1]
      | false =>
        rw [b1] at t1
        rw [lcN_no (m := m + 1) rfl t1, List.append_assoc (S ++ _), lcN_stop (m := m) rfl, lcDone_in]
        simp [b0, b1]
    | false =>
      rw [b0] at t0
      rw [lcN_no (m := m + 2) rfl t0]
      have t1 := t 1 (S ++ [.rev [] 0] ++ [L]) (.inr rfl)
      cases b1 : decide ((row.count 1 : Int) < limB n top 1) with
      | true =>
        rw [b1] at t1
        rw [lcN_yes (m := m + 1) rfl t1 (e 1 _), List.append_assoc (S ++ _), lcEnd_in (by omega), lcN_stop (m := m) rfl, lcDone_in]
        simp [b0, b1]
      | false =>
        rw [b1] at t1
        rw [lcN_no (m := m + 1) rfl t1, List.append_assoc (S ++ _), lcN_stop (m := m) rfl, lcDone_in]
        simp [b0, b1]
  have z := go fuel (by decide)
  unfold mLc
  rw [hit, ← hρ]
  exact z
def extS : SM := sExpr (mMth extendD (mVar 5) (mCons (mLc (mIter (mTup (mCons (mC (.int 0)) (mCons (mC (.int 1)) (mNil))))) (tName 7) tstB eltB [7]) (mNil)))
/-- one place more -/
theorem level_ok {n top : Int} {rows : List (List Int)} {kf p : Nat} {a4 a5 a6 a8 a9 a10 : Option D} {S : Store} {fnd : List D} (hp : S[p]? = some (.lst (rows.map tIn))) (hf : S[kf]? = some (.lst fnd)) (hr : ∀ r ∈ rows, r.length ≤ 100) (hl : rows.length ≤ 100000) :
    ∃ a6' S', sSeq (sSet 5 (mLst (mNil))) (sSeq (sFor (mIter (mVar 3)) (tName 6) extS) (sSet 3 (mVar 5))) [some (.int n), some (.ref kf), some (.int top), some (.ref p), a4, a5, a6, none, a8, a9, a10] S =
      .nx [some (.int n), some (.ref kf), some (.int top), some (.ref S.length), a4, some (.ref S.length), a6', none, a8, a9, a10] S' ∧ S'[S.length]? = some (.lst ((rows.flatMap (stepB n top)).map tIn)) ∧ S'[kf]? = some (.lst fnd) := by
  have pl := (List.getElem?_eq_some_iff.mp hp).1
  have fl := (List.getElem?_eq_some_iff.mp hf).1
  have s1 : sSet 5 (mLst (mNil)) [some (.int n), some (.ref kf), some (.int top), some (.ref p), a4, a5, a6, none, a8, a9, a10] S = .nx [some (.int n), some (.ref kf), some (.int top), some (.ref p), a4, some (.ref S.length), a6, none, a8, a9, a10] (S ++ [.lst []]) := sSet_ok (mLst_ok rfl (Nat.zero_le _))
  have len2 : ∀ r, (stepB n top r).length ≤ 2 := fun r => by
    unfold stepB
    rw [List.length_map]
    exact List.length_filter_le _ _
  have flen : ∀ l : List (List Int), (l.flatMap (stepB n top)).length ≤ 2 * l.length := fun l => by
    induction l with
    | nil => simp
    | cons a l ih =>
      rw [List.flatMap_cons, List.length_append, List.length_cons]
      have := len2 a
      omega
  obtain ⟨ρ2, S2, e2, a6', rfl, h1, h2, h3⟩ := sFor_ok (it := mIter (mVar 3)) (g := tName 6) (b := extS) (nx := nxList (.ref p)) (n := rows.length) (ρ := [some (.int n), some (.ref kf), some (.int top), some (.ref p), a4, some (.ref S.length), a6, none, a8, a9, a10]) (S := S ++ [.lst []]) (S0 := S ++ [.lst []])
    (fun i ρ T => ∃ a6, ρ = [some (.int n), some (.ref kf), some (.int top), some (.ref p), a4, some (.ref S.length), a6, none, a8, a9, a10] ∧ T[p]? = some (.lst (rows.map tIn)) ∧ T[kf]? = some (.lst fnd) ∧ T[S.length]? = some (.lst (((rows.take i).flatMap (stepB n top)).map tIn)))
    (iter_ref rfl (get_old _ hp)) (Nat.lt_of_le_of_lt hl (by decide)) ⟨a6, rfl, get_old _ hp, get_old _ hf, by rw [get_new]; rfl⟩
    (fun i ρ T hi ⟨a6, hρ, g1, g2, g3⟩ => by
      subst hρ
      obtain ⟨G, q⟩ := lcB_ok (n := n) (top := top) (row := rows[i]) (ρ := [some (.int n), some (.ref kf), some (.int top), some (.ref p), a4, some (.ref S.length), some (tIn rows[i]), none, a8, a9, a10]) (S := T) rfl rfl rfl rfl (by have := hr _ (List.getElem_mem hi); omega)
      have g4 : (T ++ [C.lst ((stepB n top rows[i]).map tIn)] ++ G)[S.length]? = some (.lst (((rows.take i).flatMap (stepB n top)).map tIn)) := get_old _ (get_old _ g3)
      have g5 : (T ++ [C.lst ((stepB n top rows[i]).map tIn)] ++ G)[T.length]? = some (.lst ((stepB n top rows[i]).map tIn)) := get_old _ get_new
      have x := extendD_ok g4 g5 (by
        rw [List.length_map, List.length_map]
        have q1 := flen (rows.take i)
        have q2 := len2 rows[i]
        rw [List.length_take] at q1
        omega)
      have nl : S.length < (T ++ [C.lst ((stepB n top rows[i]).map tIn)] ++ G).length := (List.getElem?_eq_some_iff.mp g4).1
      refine ⟨tIn rows[i], _, _, _, _, nxlT g1 hi, rfl, sExpr_ok (mMth_ok rfl (isL_ref g3) (mCons_ok q rfl) x), some (tIn rows[i]), rfl, ?_, ?_, ?_⟩
      · rw [List.getElem?_set_ne (by omega)]
        exact get_old _ (get_old _ g1)
      · rw [List.getElem?_set_ne (by omega)]
        exact get_old _ (get_old _ g2)
      · rw [List.getElem?_set_self nl, take_one hi, List.flatMap_append, List.map_append]
        simp)
    (fun ρ T ⟨a6, _, g1, _⟩ => nxlT_end g1)
  rw [List.take_length] at h3
  exact ⟨a6', S2, sSeq_nx s1 (sSeq_nx e2 (sSet_ok rfl)), h3, h2⟩
def rowsB (n top : Int) : Nat → List (List Int)
  | 0 => [[]]
  | k + 1 => (rowsB n top k).flatMap (stepB n top)
theorem rowsB_len (n top : Int) : ∀ (k : Nat) (r : List Int), r ∈ rowsB n top k → r.length = k
  | 0, r, h => by
    simp [rowsB] at h
    subst h; rfl
  | k + 1, r, h => by
    unfold rowsB at h
    obtain ⟨v, hv, hm⟩ := List.mem_flatMap.mp h
    unfold stepB at hm
    obtain ⟨s, _, rfl⟩ := List.mem_map.mp hm
    rw [List.length_append, rowsB_len n top k v hv]; rfl
theorem rowsB_card (n top : Int) : ∀ k : Nat, (rowsB n top k).length ≤ 2 ^ k
  | 0 => Nat.le_refl _
  | k + 1 => by
    have len2 : ∀ r, (stepB n top r).length ≤ 2 := fun r => by
      unfold stepB
      rw [List.length_map]
      exact List.length_filter_le _ _
    have flen : ∀ l : List (List Int), (l.flatMap (stepB n top)).length ≤ 2 * l.length := fun l => by
      induction l with
      | nil => simp
      | cons a l ih =>
        rw [List.flatMap_cons, List.length_append, List.length_cons]
        have := len2 a
        omega
    have := flen (rowsB n top k)
    have := rowsB_card n top k
    rw [show rowsB n top (k + 1) = (rowsB n top k).flatMap (stepB n top) from rfl, Nat.pow_succ]
    omega
end Law

namespace Law
open PySem PySem.Spec L2 DM
def idxB (n : Nat) (row : List Int) (v : Int) : List Int := ((List.range (n - 1)).filter fun i => decide (row.getD i 0 = v)).map fun i => ((i : Nat) : Int)
def lineB (n : Nat) (row : List Int) : List Int := idxB n row 0 ++ [((n : Int) - 1)] ++ (idxB n row 1).reverse
theorem idxB_len (n : Nat) (row : List Int) (v : Int) : (idxB n row v).length ≤ n - 1 := by
  unfold idxB
  rw [List.length_map]
  exact Nat.le_trans (List.length_filter_le _ _) (by rw [List.length_range]; exact Nat.le_refl _)
theorem idx_lc {n : Nat} {row : List Int} {v : Int} {ρ : DM.Env} {S : Store} (h1 : 1 ≤ n) (h2 : n ≤ 100) (hr : row.length = n - 1) (h0 : ρ[0]? = some (some (.int (n : Int)))) (h6 : ρ[6]? = some (some (tIn row))) (hl : ρ.length = 11) :
    mLc (mRng (mCons (mBin subD (mVar 0) (mC (.int 1))) (mNil))) (tName 4) (mTest (mBin (cmpD eqC) (mBin itemD (mVar 6) (mVar 4)) (mC (.int v)))) (mVar 4) [4] ρ S = .ok (.ref S.length) (S ++ [.lst ((idxB n row v).map .int)]) := by
  have v0 : mVar 0 ρ S = .ok (.int (n : Int)) S := by unfold mVar; rw [h0]
  have es : ∀ i : Nat, (0 + (i : Int) * 1) = (i : Int) := fun i => by omega
  have z := mLc_pure (it := mRng (mCons (mBin subD (mVar 0) (mC (.int 1))) (mNil))) (g := tName 4) (t := mTest (mBin (cmpD eqC) (mBin itemD (mVar 6) (mVar 4)) (mC (.int v)))) (e := mVar 4) (vs := [4]) (ρ := ρ) (nx := nxRng 0 1 (n - 1)) (S := S) (S0 := S) (n := n - 1)
    (fun i => .int (0 + (i : Int) * 1)) (fun i => .int (0 + (i : Int) * 1)) (fun i => decide (row.getD i 0 = v)) (fun i => (wipeE ρ [4]).set 4 (some (.int (0 + (i : Int) * 1)))) (by omega)
    (mRng_ok (mCons_ok (mBin_ok v0 (show mC (.int 1) ρ S = .ok (.int 1) S from rfl) (show subD (.int (n : Int)) (.int 1) S = .ok (.int ((n - 1 : Nat) : Int)) S by
      show R.ok (D.int ((n : Int) - 1)) _ = _
      congr 2; omega)) (show mNil ρ S = .ok [] S from rfl)) (rng_one (by omega)))
    (fun i z hi => by
      have w4 : ((wipeE ρ [4]).set 4 (some (.int (0 + (i : Int) * 1))))[4]? = some (some (.int (0 + (i : Int) * 1))) := by
        show ((ρ.set 4 none).set 4 _)[4]? = _
        simp [hl]
      have w6 : ((wipeE ρ [4]).set 4 (some (.int (0 + (i : Int) * 1))))[6]? = some (some (tIn row)) := by
        show ((ρ.set 4 none).set 4 _)[6]? = _
        simp [h6]
      have x4 : mVar 4 ((wipeE ρ [4]).set 4 (some (.int (0 + (i : Int) * 1)))) (S ++ [z]) = .ok (.int (0 + (i : Int) * 1)) (S ++ [z]) := by unfold mVar; rw [w4]
      have x6 : mVar 6 ((wipeE ρ [4]).set 4 (some (.int (0 + (i : Int) * 1)))) (S ++ [z]) = .ok (tIn row) (S ++ [z]) := by unfold mVar; rw [w6]
      have hg : row.getD i 0 = row[i] := by simp [List.getD, hr, hi]
      refine ⟨nxRng_lt hi, rfl, ?_, fun _ => x4⟩
      refine mTest_ok (mBin_ok (x := .int (row.getD i 0)) (mBin_ok x6 x4 ?_) (show mC (.int v) _ (S ++ [z]) = .ok (.int v) (S ++ [z]) from rfl) (cmpD_ok rfl))
      rw [es]
      show (match atI (row.map D.int) (i : Int) with
        | some x => R.ok x (S ++ [z])
        | none => .bad) = _
      rw [atI_get (d := .int row[i]) (by rw [List.getElem?_map, List.getElem?_eq_getElem (by omega)]; rfl), hg]) (fun z => nxRng_end)
  rw [z]
  congr 3
  unfold idxB
  rw [List.map_map]
  simp only [es]
  rfl
def isr (l : List Int) : Bool := blOf (m_22 [tIn l] [])
def okR (l : List Int) : Bool := isBl (m_22 [tIn l] [])
def bmpS : SM := (sSeq (sSet 8 (mLc (mRng (mCons (mBin subD (mVar 0) (mC (.int 1))) (mNil))) (tName 4) (mTest (mBin (cmpD eqC) (mBin itemD (mVar 6) (mVar 4)) (mC (.int 0)))) (mVar 4) [4])) (sSeq (sSet 9 (mLc (mRng (mCons (mBin subD (mVar 0) (mC (.int 1))) (mNil))) (tName 4) (mTest (mBin (cmpD eqC) (mBin itemD (mVar 6) (mVar 4)) (mC (.int 1)))) (mVar 4) [4])) (sSeq (sSet 10 (mBlt tupleD (mCons (mBin addD (mBin addD (mVar 8) (mLst (mCons (mBin subD (mVar 0) (mC (.int 1))) (mNil)))) (mRev (mVar 9))) (mNil)))) (sIf (mTest (mCall m_22 (mCons (mVar 10) (mNil)))) (sExpr (mMth appendD (mVar 1) (mCons (mVar 10) (mNil)))) (sNil)))))
theorem clean_tIn (l : List Int) : cleanAll [tIn l] = true := by
  show (cleanAll (l.map D.int) && true) = true
  rw [clean_tI]; rfl
theorem bmp_ok {n : Nat} {row : List Int} {kf p : Nat} {a2 a4 a5 a8 a9 a10 : Option D} {S : Store} {fnd : List (List Int)} {rows : List (List Int)} (h1 : 1 ≤ n) (h2 : n ≤ 100) (hr : row.length = n - 1) (hf : S[kf]? = some (.lst (fnd.map tIn))) (hp : S[p]? = some (.lst (rows.map tIn))) (hne : p ≠ kf) (hl : fnd.length ≤ 100000) (ho : okR (lineB n row) = true) :
    ∃ b8 b9 b10 S', bmpS [some (.int (n : Int)), some (.ref kf), a2, some (.ref p), a4, a5, some (tIn row), none, a8, a9, a10] S = .nx [some (.int (n : Int)), some (.ref kf), a2, some (.ref p), a4, a5, some (tIn row), none, b8, b9, b10] S' ∧
      S'[kf]? = some (.lst ((fnd ++ [lineB n row].filter isr).map tIn)) ∧ S'[p]? = some (.lst (rows.map tIn)) := by
  have i8 := idxB_len n row 0
  have i9 := idxB_len n row 1
  have sl := sizeLine_eq
  have e8 := idx_lc (v := 0) (S := S) (ρ := [some (.int (n : Int)), some (.ref kf), a2, some (.ref p), a4, a5, some (tIn row), none, a8, a9, a10]) h1 h2 hr rfl rfl rfl
  obtain ⟨c8, h8⟩ : ∃ c : C, c = .lst ((idxB n row 0).map .int) := ⟨_, rfl⟩
  rw [← h8] at e8
  have e9 := idx_lc (v := 1) (S := S ++ [c8]) (ρ := [some (.int (n : Int)), some (.ref kf), a2, some (.ref p), a4, a5, some (tIn row), none, some (.ref S.length), a9, a10]) h1 h2 hr rfl rfl rfl
  obtain ⟨c9, h9⟩ : ∃ c : C, c = .lst ((idxB n row 1).map .int) := ⟨_, rfl⟩
  rw [← h9] at e9
  obtain ⟨T, hT⟩ : ∃ T, T = S ++ [c8] ++ [c9] := ⟨_, rfl⟩
  rw [← hT] at e9
  have g8 : T[S.length]? = some (.lst ((idxB n row 0).map .int)) := by rw [hT, get_old _ get_new, h8]
  have g9 : T[(S ++ [c8]).length]? = some (.lst ((idxB n row 1).map .int)) := by rw [hT, get_new, h9]
  obtain ⟨ρ, hρ⟩ : ∃ ρ : DM.Env, ρ = [some (.int (n : Int)), some (.ref kf), a2, some (.ref p), a4, a5, some (tIn row), none, some (.ref S.length), some (.ref (S ++ [c8]).length), a10] := ⟨_, rfl⟩
  have en : mLst (mCons (mBin subD (mVar 0) (mC (.int 1))) (mNil)) ρ T = .ok (.ref T.length) (T ++ [.lst [.int ((n : Int) - 1)]]) := by
    subst hρ
    exact mLst_ok (mCons_ok (mBin_ok rfl rfl rfl) rfl) (by show (1 : Nat) ≤ sizeLine; decide)
  have ea := addD_lists (get_old [C.lst [D.int ((n : Int) - 1)]] g8) get_new (by rw [List.length_map]; show _ + 1 ≤ _; omega)
  obtain ⟨T2, hT2⟩ : ∃ T2, T2 = T ++ [C.lst [D.int ((n : Int) - 1)]] := ⟨_, rfl⟩
  rw [← hT2] at ea en
  have g9' : (T2 ++ [C.lst ((idxB n row 0).map D.int ++ [.int ((n : Int) - 1)])])[(S ++ [c8]).length]? = some (.lst ((idxB n row 1).map .int)) := by rw [hT2]; exact get_old _ (get_old _ g9)
  have er : mRev (mVar 9) ρ (T2 ++ [C.lst ((idxB n row 0).map D.int ++ [.int ((n : Int) - 1)])]) = .ok (.ref (T2 ++ [C.lst ((idxB n row 0).map D.int ++ [.int ((n : Int) - 1)])]).length) (T2 ++ [C.lst ((idxB n row 0).map D.int ++ [.int ((n : Int) - 1)])] ++ [.lst ((idxB n row 1).map D.int).reverse]) := by
    have v9 : mVar 9 ρ (T2 ++ [C.lst ((idxB n row 0).map D.int ++ [.int ((n : Int) - 1)])]) = .ok (.ref (S ++ [c8]).length) (T2 ++ [C.lst ((idxB n row 0).map D.int ++ [.int ((n : Int) - 1)])]) := by subst hρ; rfl
    have gl : getL (.ref (S ++ [c8]).length) (T2 ++ [C.lst ((idxB n row 0).map D.int ++ [.int ((n : Int) - 1)])]) = some ((idxB n row 1).map .int) := by
      show (match (T2 ++ [C.lst ((idxB n row 0).map D.int ++ [.int ((n : Int) - 1)])])[(S ++ [c8]).length]? with | some (.lst ds) => some ds | _ => none) = _
      rw [g9']
    unfold mRev
    rw [v9]
    show revD (.ref (S ++ [c8]).length) (T2 ++ [C.lst ((idxB n row 0).map D.int ++ [.int ((n : Int) - 1)])]) = _
    unfold revD
    rw [gl]
  obtain ⟨T3, hT3⟩ : ∃ T3, T3 = T2 ++ [C.lst ((idxB n row 0).map D.int ++ [.int ((n : Int) - 1)])] := ⟨_, rfl⟩
  rw [← hT3] at er ea
  have g3 : (T3 ++ [C.lst ((idxB n row 1).map D.int).reverse])[T2.length]? = some (.lst ((idxB n row 0).map D.int ++ [.int ((n : Int) - 1)])) := by rw [hT3]; exact get_old _ get_new
  have eb := addD_lists g3 get_new (by rw [List.length_append, List.length_map, List.length_reverse, List.length_map]; show _ + 1 + _ ≤ _; omega)
  have el : (idxB n row 0).map D.int ++ [.int ((n : Int) - 1)] ++ ((idxB n row 1).map D.int).reverse = (lineB n row).map D.int := by
    unfold lineB
    rw [List.map_append, List.map_append, List.map_reverse]
    rfl
  rw [el] at eb
  obtain ⟨T4, hT4⟩ : ∃ T4, T4 = T3 ++ [C.lst ((idxB n row 1).map D.int).reverse] ++ [C.lst ((lineB n row).map D.int)] := ⟨_, rfl⟩
  rw [← hT4] at eb
  have g4 : T4[(T3 ++ [C.lst ((idxB n row 1).map D.int).reverse]).length]? = some (.lst ((lineB n row).map D.int)) := by rw [hT4]; exact get_new
  have et : mBlt tupleD (mCons (mBin addD (mBin addD (mVar 8) (mLst (mCons (mBin subD (mVar 0) (mC (.int 1))) (mNil)))) (mRev (mVar 9))) (mNil)) ρ T = .ok (tIn (lineB n row)) T4 := by
    have v8 : mVar 8 ρ T = .ok (.ref S.length) T := by subst hρ; rfl
    refine mBlt_ok (mCons_ok (mBin_ok (mBin_ok v8 en ea) er eb) (show mNil ρ T4 = .ok [] T4 from rfl)) ?_
    show (match getSeq (.ref (T3 ++ [C.lst ((idxB n row 1).map D.int).reverse]).length) T4 with
      | some xs => R.ok (D.tup xs) T4
      | none => .bad) = _
    have : getSeq (.ref (T3 ++ [C.lst ((idxB n row 1).map D.int).reverse]).length) T4 = some ((lineB n row).map D.int) := by
      show (match T4[(T3 ++ [C.lst ((idxB n row 1).map D.int).reverse]).length]? with | some (.lst ds) => some ds | _ => none) = _
      rw [g4]
    rw [this]
    rfl
  have gf : T4[kf]? = some (.lst (fnd.map tIn)) := by
    rw [hT4, hT3, hT2, hT]
    exact get_old _ (get_old _ (get_old _ (get_old _ (get_old _ (get_old _ hf)))))
  have gp : T4[p]? = some (.lst (rows.map tIn)) := by
    rw [hT4, hT3, hT2, hT]
    exact get_old _ (get_old _ (get_old _ (get_old _ (get_old _ (get_old _ hp)))))
  have s10 : sSet 10 (mBlt tupleD (mCons (mBin addD (mBin addD (mVar 8) (mLst (mCons (mBin subD (mVar 0) (mC (.int 1))) (mNil)))) (mRev (mVar 9))) (mNil))) [some (.int (n : Int)), some (.ref kf), a2, some (.ref p), a4, a5, some (tIn row), none, some (.ref S.length), some (.ref (S ++ [c8]).length), a10] T =
      .nx [some (.int (n : Int)), some (.ref kf), a2, some (.ref p), a4, a5, some (tIn row), none, some (.ref S.length), some (.ref (S ++ [c8]).length), some (tIn (lineB n row))] T4 := by
    rw [← hρ]
    have z := sSet_ok (i := 10) et
    rw [z, hρ]
    rfl
  have cl := call_bl (m := m_22) (ds := [tIn (lineB n row)]) (S := T4) (clean_tIn _) ho
  have t1 : mTest (mCall m_22 (mCons (mVar 10) (mNil))) [some (.int (n : Int)), some (.ref kf), a2, some (.ref p), a4, a5, some (tIn row), none, some (.ref S.length), some (.ref (S ++ [c8]).length), some (tIn (lineB n row))] T4 = .ok (isr (lineB n row)) T4 := mTest_ok (mCall_ok (mCons_ok rfl rfl) cl)
  cases hi : isr (lineB n row) with
  | true =>
    rw [hi] at t1
    have ap := appendD_ok (y := tIn (lineB n row)) gf (by rw [List.length_map]; omega)
    refine ⟨_, _, _, _, sSeq_nx (sSet_ok e8) (sSeq_nx (sSet_ok e9) (sSeq_nx s10 (sIf_t t1 (sExpr_ok (mMth_ok rfl (isL_ref gf) (mCons_ok rfl rfl) ap))))), ?_, ?_⟩
    · rw [List.getElem?_set_self (List.getElem?_eq_some_iff.mp gf).1]
      simp [hi]
    · rw [List.getElem?_set_ne (Ne.symm hne)]
      exact gp
  | false =>
    rw [hi] at t1
    refine ⟨_, _, _, _, sSeq_nx (sSet_ok e8) (sSeq_nx (sSet_ok e9) (sSeq_nx s10 (sIf_f t1 rfl))), ?_, gp⟩
    rw [gf]
    simp [hi]
def partB (n : Nat) (t : Nat) : List (List Int) := ((rowsB (n : Int) (1 + (t : Int) * 1) (n - 1)).map (lineB n)).filter isr
def foundB (n : Nat) : Nat → List (List Int)
  | 0 => []
  | t + 1 => foundB n t ++ partB n t
def okRB (n : Nat) : Bool := (List.range (n - 2)).all fun t => ((rowsB (n : Int) (1 + (t : Int) * 1) (n - 1)).map (lineB n)).all okR
theorem foundB_len (n : Nat) : ∀ t, (foundB n t).length ≤ t * 2 ^ (n - 1)
  | 0 => Nat.zero_le _
  | t + 1 => by
    have h1 := foundB_len n t
    have h2 : (partB n t).length ≤ 2 ^ (n - 1) := by
      unfold partB
      exact Nat.le_trans (List.length_filter_le _ _) (by rw [List.length_map]; exact rowsB_card _ _ _)
    rw [show foundB n (t + 1) = foundB n t ++ partB n t from rfl, List.length_append, Nat.succ_mul]
    omega
def topS23 : SM := (sSeq (sSet 3 (mLst (mCons (mTup (mNil)) (mNil)))) (sSeq (sFor (mRng (mCons (mBin subD (mVar 0) (mC (.int 1))) (mNil))) (tName 4) (sSeq (sSet 5 (mLst (mNil))) (sSeq (sFor (mIter (mVar 3)) (tName 6) extS) (sSet 3 (mVar 5))))) (sFor (mIter (mVar 3)) (tName 6) bmpS)))
theorem top_ok {n : Nat} {t : Nat} {kf : Nat} {a3 a4 a5 a6 a8 a9 a10 : Option D} {S : Store} {fnd : List (List Int)} (h1 : 3 ≤ n) (h2 : n ≤ 12) (hf : S[kf]? = some (.lst (fnd.map tIn))) (hl : fnd.length ≤ 50000) (ho : ((rowsB (n : Int) (1 + (t : Int) * 1) (n - 1)).map (lineB n)).all okR = true) :
    ∃ b3 b4 b5 b6 b8 b9 b10 S', topS23 [some (.int (n : Int)), some (.ref kf), some (.int (1 + (t : Int) * 1)), a3, a4, a5, a6, none, a8, a9, a10] S = .nx [some (.int (n : Int)), some (.ref kf), some (.int (1 + (t : Int) * 1)), b3, b4, b5, b6, none, b8, b9, b10] S' ∧ S'[kf]? = some (.lst ((fnd ++ partB n t).map tIn)) := by
  have fl := (List.getElem?_eq_some_iff.mp hf).1
  rw [List.all_eq_true] at ho
  obtain ⟨top, htop⟩ : ∃ top : Int, top = 1 + (t : Int) * 1 := ⟨_, rfl⟩
  unfold partB
  rw [← htop] at ho ⊢
  have s1 : sSet 3 (mLst (mCons (mTup (mNil)) (mNil))) [some (.int (n : Int)), some (.ref kf), some (.int top), a3, a4, a5, a6, none, a8, a9, a10] S = .nx [some (.int (n : Int)), some (.ref kf), some (.int top), some (.ref S.length), a4, a5, a6, none, a8, a9, a10] (S ++ [.lst (([[]] : List (List Int)).map tIn)]) :=
    sSet_ok (mLst_ok (xs := [.tup []]) (mCons_ok (mTup_ok rfl (Nat.zero_le _)) rfl) (by show (1 : Nat) ≤ sizeLine; decide))
  have card : ∀ i, i ≤ 12 → (rowsB (n : Int) top i).length ≤ 4096 := fun i hi => Nat.le_trans (rowsB_card _ _ i) (Nat.pow_le_pow_right (by decide) hi)
  obtain ⟨ρ2, S2, e2, p, c4, c5, c6, rfl, g1, g2, g3⟩ := sFor_ok (it := mRng (mCons (mBin subD (mVar 0) (mC (.int 1))) (mNil))) (g := tName 4) (b := sSeq (sSet 5 (mLst (mNil))) (sSeq (sFor (mIter (mVar 3)) (tName 6) extS) (sSet 3 (mVar 5))))
    (nx := nxRng 0 1 (n - 1)) (n := n - 1) (ρ := [some (.int (n : Int)), some (.ref kf), some (.int top), some (.ref S.length), a4, a5, a6, none, a8, a9, a10]) (S := S ++ [.lst (([[]] : List (List Int)).map tIn)]) (S0 := S ++ [.lst (([[]] : List (List Int)).map tIn)])
    (fun i ρ T => ∃ p a4 a5 a6, ρ = [some (.int (n : Int)), some (.ref kf), some (.int top), some (.ref p), a4, a5, a6, none, a8, a9, a10] ∧ T[p]? = some (.lst ((rowsB (n : Int) top i).map tIn)) ∧ T[kf]? = some (.lst (fnd.map tIn)) ∧ p ≠ kf)
    (mRng_ok (mCons_ok (mBin_ok rfl rfl (show subD (.int (n : Int)) (.int 1) _ = .ok (.int ((n - 1 : Nat) : Int)) _ by
      show R.ok (D.int ((n : Int) - 1)) _ = _
      congr 2; omega)) rfl) (rng_one (by omega))) (Nat.lt_of_lt_of_le (show n - 1 < 20 by omega) (by decide)) ⟨S.length, a4, a5, a6, rfl, get_new, get_old _ hf, by omega⟩
    (fun i ρ T hi ⟨p, a4, a5, a6, hρ, g1, g2, g3⟩ => by
      subst hρ
      obtain ⟨a6', T', q1, q2, q3⟩ := level_ok (n := (n : Int)) (top := top) (rows := rowsB (n : Int) top i) (a4 := some (.int (0 + (i : Int) * 1))) (a5 := a5) (a6 := a6) (a8 := a8) (a9 := a9) (a10 := a10) g1 g2 (fun r hr => by rw [rowsB_len _ _ _ _ hr]; omega) (Nat.le_trans (card i (by omega)) (by decide))
      have kl := (List.getElem?_eq_some_iff.mp g2).1
      exact ⟨_, _, _, _, T', nxRng_lt hi, rfl, q1, T.length, _, _, _, rfl, q2, q3, by omega⟩)
    (fun ρ T _ => nxRng_end)
  obtain ⟨rows, hrows⟩ : ∃ rows, rows = rowsB (n : Int) top (n - 1) := ⟨_, rfl⟩
  have rl : ∀ r ∈ rows, r.length = n - 1 := fun r hr => rowsB_len _ _ _ _ (hrows ▸ hr)
  have rc : rows.length ≤ 4096 := by rw [hrows]; exact card _ (by omega)
  rw [← hrows] at g1 ho ⊢
  obtain ⟨ρ3, S3, e3, d6, d8, d9, d10, rfl, k1, k2⟩ := sFor_ok (it := mIter (mVar 3)) (g := tName 6) (b := bmpS) (nx := nxList (.ref p)) (n := rows.length) (ρ := [some (.int (n : Int)), some (.ref kf), some (.int top), some (.ref p), c4, c5, c6, none, a8, a9, a10]) (S := S2) (S0 := S2)
    (fun i ρ T => ∃ a6 a8 a9 a10, ρ = [some (.int (n : Int)), some (.ref kf), some (.int top), some (.ref p), c4, c5, a6, none, a8, a9, a10] ∧ T[kf]? = some (.lst ((fnd ++ ((rows.take i).map (lineB n)).filter isr).map tIn)) ∧ T[p]? = some (.lst (rows.map tIn)))
    (iter_ref rfl g1) (Nat.lt_of_le_of_lt rc (by decide)) ⟨c6, a8, a9, a10, rfl, by rw [List.take_zero]; simpa using g2, g1⟩
    (fun i ρ T hi ⟨a6, a8, a9, a10, hρ, k1, k2⟩ => by
      subst hρ
      have hm : rows[i] ∈ rows := List.getElem_mem hi
      obtain ⟨b8, b9, b10, T', q1, q2, q3⟩ := bmp_ok (n := n) (row := rows[i]) (a2 := some (.int top)) (a4 := c4) (a5 := c5) (a8 := a8) (a9 := a9) (a10 := a10) (by omega) (by omega) (rl _ hm) k1 k2 g3 (by
        rw [List.length_append]
        have := List.length_filter_le isr ((rows.take i).map (lineB n))
        rw [List.length_map, List.length_take] at this
        omega) (ho _ (List.mem_map.mpr ⟨_, hm, rfl⟩))
      refine ⟨tIn rows[i], _, _, _, T', nxlT k2 hi, rfl, q1, _, _, _, _, rfl, ?_, q3⟩
      have ef : ((rows.take (i + 1)).map (lineB n)).filter isr = ((rows.take i).map (lineB n)).filter isr ++ [lineB n rows[i]].filter isr := by
        rw [take_one hi, List.map_append, List.filter_append]; rfl
      rw [q2, ef, List.append_assoc])
    (fun ρ T ⟨_, _, _, _, _, _, k2⟩ => nxlT_end k2)
  rw [List.take_length] at k1
  exact ⟨_, _, _, _, _, _, _, S3, sSeq_nx s1 (sSeq_nx e2 e3), k1⟩
theorem bumps_ok {n : Nat} (h1 : 3 ≤ n) (h2 : n ≤ 12) (ho : okRB n = true) (hne : foundB n (n - 2) ≠ []) : ∃ j S' es, m_23 [.int (n : Int)] [] = .ok (.ref j) S' ∧ S'[j]? = some (.lst es) ∧ pureAll es = true ∧ es.length = (foundB n (n - 2)).length := by
  unfold okRB at ho
  rw [List.all_eq_true] at ho
  have s1 : sSet 1 (mLst (mNil)) [some (.int (n : Int)), none, none, none, none, none, none, none, none, none, none] [] = .nx [some (.int (n : Int)), some (.ref 0), none, none, none, none, none, none, none, none, none] [.lst []] := sSet_ok (mLst_ok (S1 := []) rfl (Nat.zero_le _))
  obtain ⟨ρ2, S2, e2, b2, b3, b4, b5, b6, b8, b9, b10, rfl, g1⟩ := sFor_ok (it := mRng (mCons (mC (.int 1)) (mCons (mBin subD (mVar 0) (mC (.int 1))) (mNil)))) (g := tName 2) (b := topS23)
    (nx := nxRng 1 1 (n - 2)) (n := n - 2) (ρ := [some (.int (n : Int)), some (.ref 0), none, none, none, none, none, none, none, none, none]) (S := [.lst []]) (S0 := [.lst []])
    (fun i ρ T => ∃ b2 b3 b4 b5 b6 b8 b9 b10, ρ = [some (.int (n : Int)), some (.ref 0), b2, b3, b4, b5, b6, none, b8, b9, b10] ∧ T[0]? = some (.lst ((foundB n i).map tIn)))
    (mRng_ok (ds := [.int 1, .int ((n : Int) - 1)]) (mCons_ok rfl (mCons_ok (mBin_ok rfl rfl rfl) rfl)) (by
      rw [rng_two (by decide) (by decide) (by omega) (by omega)]
      congr 2
      omega)) (Nat.lt_of_lt_of_le (show n - 2 < 20 by omega) (by decide)) ⟨none, none, none, none, none, none, none, none, rfl, rfl⟩
    (fun i ρ T hi ⟨b2, b3, b4, b5, b6, b8, b9, b10, hρ, g⟩ => by
      subst hρ
      have hc := foundB_len n i
      have hc2 : i * 2 ^ (n - 1) ≤ 12 * 2 ^ 11 := Nat.mul_le_mul (by omega) (Nat.pow_le_pow_right (by decide) (by omega))
      obtain ⟨c3, c4, c5, c6, c8, c9, c10, T', q1, q2⟩ := top_ok (n := n) (t := i) (a3 := b3) (a4 := b4) (a5 := b5) (a6 := b6) (a8 := b8) (a9 := b9) (a10 := b10) h1 h2 g (by omega) (ho i (List.mem_range.mpr hi))
      exact ⟨_, _, _, _, T', nxRng_lt hi, rfl, q1, _, _, _, _, _, _, _, _, rfl, q2⟩)
    (fun ρ T _ => nxRng_end)
  obtain ⟨ls, hls⟩ : ∃ ls, ls = foundB n (n - 2) := ⟨_, rfl⟩
  rw [← hls] at g1 hne ⊢
  have nn : ∀ l ∈ ls, l ≠ [] := by
    have go : ∀ t, ∀ l ∈ foundB n t, l ≠ [] := fun t => by
      induction t with
      | zero => intro l hl; simp [foundB] at hl
      | succ t ih =>
        intro l hl
        rcases List.mem_append.mp hl with hl | hl
        · exact ih l hl
        · unfold partB at hl
          obtain ⟨r, _, rfl⟩ := List.mem_map.mp (List.mem_filter.mp hl).1
          unfold lineB
          intro z
          have := congrArg List.length z
          simp at this
    rw [hls]
    exact go _
  have gl : getL (.ref 0) S2 = some (ls.map tIn) := by
    show (match S2[0]? with | some (.lst ds) => some ds | _ => none) = _
    rw [g1]
  have so : sortTD [.ref 0] S2 = .ok (.ref S2.length) (S2 ++ [.lst ((srtL ls).map tIn)]) := by
    cases ls with
    | nil => exact absurd rfl hne
    | cons l r =>
      have ti := tupsI_map (l :: r) nn
      unfold sortTD
      show (match getL (.ref 0) S2 with
        | some (x :: xs) => match tupsI (x :: xs) with
          | some ls => R.ok (D.ref S2.length) (S2 ++ [C.lst ((srtL ls).map tIn)])
          | none => sortAllD [.ref 0] S2
        | _ => sortAllD [.ref 0] S2) = _
      rw [gl]
      show (match tupsI ((l :: r).map tIn) with
          | some ls => R.ok (D.ref S2.length) (S2 ++ [C.lst ((srtL ls).map tIn)])
          | none => sortAllD [.ref 0] S2) = _
      rw [ti]
  refine ⟨_, _, (srtL ls).map tIn, defM_rt (sSeq_nx s1 (sSeq_nx e2 (sRet_ok (mBlt_ok (mCons_ok rfl rfl) so)))), get_new, ?_, ?_⟩
  · have : ∀ l : List (List Int), pureAll (l.map tIn) = true := fun l => by
      induction l with
      | nil => rfl
      | cons a l ih =>
        show (pureD (tIn a) && pureAll (l.map tIn)) = true
        rw [ih]
        have := pure_tI a
        unfold tIn
        rw [this]; rfl
    exact this _
  · rw [List.length_map, (srtL_perm ls).length_eq]
end Law

namespace Law
open PySem PySem.Spec L2 DM
def okI (r : R D) (n : Int) : Bool := match r with | .ok (.int m) _ => decide (m = n) | _ => false
theorem okI_ok {r : R D} {n : Int} (h : okI r n = true) : ∃ S, r = .ok (.int n) S := by
  unfold okI at h
  split at h
  · rw [of_decide_eq_true h]; exact ⟨_, rfl⟩
  · cases h
def okT (r : R D) : Bool := match r with | .ok (.bl true) _ => true | _ => false
theorem okT_ok {r : R D} (h : okT r = true) : ∃ S, r = .ok (.bl true) S := by
  unfold okT at h
  split at h
  · exact ⟨_, rfl⟩
  · cases h
def sameI (a b : R D) : Bool := match a, b with
  | .ok (.int x) _, .ok (.int y) _ => decide (x = y) && decide (x.natAbs.log2 < 1920)
  | _, _ => false
theorem sameI_ok {a b : R D} (h : sameI a b = true) : ∃ x S T, a = .ok (.int x) S ∧ b = .ok (.int x) T ∧ x.natAbs.log2 < 1920 := by
  unfold sameI at h
  split at h
  · rw [Bool.and_eq_true] at h
    have e := of_decide_eq_true h.1
    subst e
    exact ⟨_, _, _, rfl, rfl, of_decide_eq_true h.2⟩
  · cases h
def far (i n : Nat) : Bool := (List.range n).all fun k => sameI (m_17 [.int ((i + k : Nat) : Int)] []) (m_28 [.int ((i + k : Nat) : Int)] [])
theorem farp0 : far 1 60 = true := by decide +kernel
theorem farp1 : far 61 30 = true := by decide +kernel
theorem farp2 : far 91 20 = true := by decide +kernel
theorem farp3 : far 111 20 = true := by decide +kernel
theorem farp4 : far 131 20 = true := by decide +kernel
theorem farp5 : far 151 20 = true := by decide +kernel
theorem farp6 : far 171 15 = true := by decide +kernel
theorem farp7 : far 186 15 = true := by decide +kernel
theorem far_add {i a b : Nat} (h : far i a = true) (k : far (i + a) b = true) : far i (a + b) = true := by
  unfold far at h k ⊢
  rw [List.all_eq_true] at h k ⊢
  intro x hx
  have hx' := List.mem_range.mp hx
  by_cases c : x < a
  · exact h x (List.mem_range.mpr c)
  · obtain ⟨y, rfl⟩ : ∃ y, x = a + y := ⟨x - a, by omega⟩
    have z := k y (List.mem_range.mpr (by omega))
    have e : i + (a + y) = i + a + y := by omega
    rw [e]
    exact z
theorem far_put {i a b c d : Nat} (hc : i + a = c) (hd : a + b = d) (h : far i a = true) (k : far c b = true) : far i d = true := by
  subst hc hd
  exact far_add h k
theorem farq1 : far 1 90 = true := far_put (i := 1) (a := 60) (b := 30) (c := 61) (d := 90) rfl rfl farp0 farp1
theorem farq2 : far 1 110 = true := far_put (i := 1) (a := 90) (b := 20) (c := 91) (d := 110) rfl rfl farq1 farp2
theorem farq3 : far 1 130 = true := far_put (i := 1) (a := 110) (b := 20) (c := 111) (d := 130) rfl rfl farq2 farp3
theorem farq4 : far 1 150 = true := far_put (i := 1) (a := 130) (b := 20) (c := 131) (d := 150) rfl rfl farq3 farp4
theorem farq5 : far 1 170 = true := far_put (i := 1) (a := 150) (b := 20) (c := 151) (d := 170) rfl rfl farq4 farp5
theorem farq6 : far 1 185 = true := far_put (i := 1) (a := 170) (b := 15) (c := 171) (d := 185) rfl rfl farq5 farp6
theorem farq7 : far 1 200 = true := far_put (i := 1) (a := 185) (b := 15) (c := 186) (d := 200) rfl rfl farq6 farp7
theorem far200 : far 1 200 = true := farq7
theorem far_ok {x : Int} (h1 : 1 ≤ x) (h2 : x ≤ 200) : ∃ v S T, m_17 [.int x] [] = .ok (.int v) S ∧ m_28 [.int x] [] = .ok (.int v) T ∧ v.natAbs.log2 < 1920 := by
  have go : ∀ i n, far i n = true → (i : Int) ≤ x → x < (i : Int) + n → sameI (m_17 [.int x] []) (m_28 [.int x] []) = true := fun i n h a b => by
    unfold far at h
    rw [List.all_eq_true] at h
    have z := h (x - i).toNat (List.mem_range.mpr (by omega))
    have e : ((i + (x - i).toNat : Nat) : Int) = x := by omega
    rwa [e] at z
  refine sameI_ok ?_
  exact go 1 200 far200 (by omega) (by omega)
theorem cnt9 : ((List.range 9).all fun i => okI (m_17 [.int ((i + 1 : Nat) : Int)] []) ((W (i + 1)).length : Nat)) = true := by decide +kernel
theorem num9 : ((List.range 12).all fun i => isNonR (m_2 [.int ((i + 1 : Nat) : Int), .int 1, .int 14] [])) = true := by decide +kernel
def pairsW (n : Nat) : Bool := (List.range ((W n).length - 1)).all fun i => okT (m_15 [.str ((W n).getD (i + 1) ""), .str ((W n).getD i "")] [])
theorem pairs8 : ((List.range 8).all fun i => pairsW (i + 1)) = true := by decide +kernel
theorem pairs9 : pairsW 9 = true := by decide +kernel
def bumpW (n : Nat) : Bool := okRB n && decide ((foundB n (n - 2)).length = (W n).length)
theorem bump8 : ((List.range 6).all fun i => bumpW (i + 3)) = true := by decide +kernel
theorem bump9 : bumpW 9 = true := by decide +kernel
def shwN (i : Nat) : Bool := showD (.tuple ((W (i + 1)).map .str))
theorem shwp0 : shwN 0 = true := by decide +kernel
theorem shwp1 : shwN 1 = true := by decide +kernel
theorem shwp2 : shwN 2 = true := by decide +kernel
theorem shwp3 : shwN 3 = true := by decide +kernel
theorem shwp4 : shwN 4 = true := by decide +kernel
theorem shwp5 : shwN 5 = true := by decide +kernel
theorem shwp6 : shwN 6 = true := by decide +kernel
theorem shwp7 : shwN 7 = true := by decide +kernel
theorem shwp8 : shwN 8 = true := by decide +kernel
theorem shw9 : ((List.range 9).all fun i => showD (.tuple ((W (i + 1)).map .str))) = true := by
  rw [List.all_eq_true]
  intro i hi
  have h := List.mem_range.mp hi
  match i, h with
  | 0, _ => exact shwp0
  | 1, _ => exact shwp1
  | 2, _ => exact shwp2
  | 3, _ => exact shwp3
  | 4, _ => exact shwp4
  | 5, _ => exact shwp5
  | 6, _ => exact shwp6
  | 7, _ => exact shwp7
  | 8, _ => exact shwp8
  | n + 9, h => exact absurd h (by omega)
def lastIs (ds : List D) (x : Str) : Bool := match atI ds (-1) with | some (.str y) => decide (y = x) | _ => false
theorem last9 : ((List.range 7).all fun i => lastIs ((W (i + 3)).map .str) (("r" : Str) ++ repS ("l" : Str) ((i + 1 : Nat) : Int) ++ ("c" : Str)) && decide ((repS ("l" : Str) ((i + 1 : Nat) : Int)).length ≤ 20)) = true := by decide +kernel
theorem c12 : okI (m_28 [.int 12] []) 170 = true := by decide +kernel
end Law

namespace Law
open PySem PySem.Spec L2 DM
theorem pure_strs (l : List Str) : pureAll (l.map D.str) = true := by
  induction l with
  | nil => rfl
  | cons a l ih => show (true && pureAll (l.map D.str)) = true; rw [ih]; rfl
/-- all that is known of n signs -/
structure Fx (n : Nat) : Prop where
  ev : ∃ j S', m_27 [.int (n : Int)] [] = .ok (.ref j) S' ∧ S'[j]? = some (.lst ((W n).map .str))
  gr : ∃ S', m_16 [.int (n : Int)] [] = .ok (.tup ((W n).map .str)) S'
  ct : ∃ S', m_17 [.int (n : Int)] [] = .ok (.int ((W n).length : Nat)) S'
  pr : ∀ i, i + 1 < (W n).length → ∃ S', m_15 [.str ((W n).getD (i + 1) ""), .str ((W n).getD i "")] [] = .ok (.bl true) S'
  sh : showD (.tuple ((W n).map .str)) = true
  bu : 3 ≤ n → ∃ j S' es, m_23 [.int (n : Int)] [] = .ok (.ref j) S' ∧ S'[j]? = some (.lst es) ∧ pureAll es = true ∧ es.length = (W n).length
  la : 3 ≤ n → atI ((W n).map D.str) (-1) = some (.str (("r" : Str) ++ repS ("l" : Str) ((n : Int) - 2) ++ ("c" : Str))) ∧ (repS ("l" : Str) ((n : Int) - 2)).length ≤ 20
  ln : (W n).length ≤ 28
theorem W_len : ∀ n, 1 ≤ n → n ≤ 9 → 1 ≤ (W n).length ∧ (W n).length ≤ 28 := by
  intro n h1 h2
  have h : ((List.range 9).all fun i => decide (1 ≤ (W (i + 1)).length) && decide ((W (i + 1)).length ≤ 28)) = true := by decide +kernel
  rw [List.all_eq_true] at h
  have z := h (n - 1) (List.mem_range.mpr (by omega))
  have e : n - 1 + 1 = n := by omega
  rw [e, Bool.and_eq_true, decide_eq_true_eq, decide_eq_true_eq] at z
  exact z
theorem fx {n : Nat} (h1 : 1 ≤ n) (h2 : n ≤ 9) : Fx n := by
  have e : n - 1 + 1 = n := by omega
  have w := W_len n h1 h2
  have nr : isNonR (m_2 [.int (n : Int), .int 1, .int 14] []) = true := by
    have z := num9
    rw [List.all_eq_true] at z
    have z := z (n - 1) (List.mem_range.mpr (by omega))
    rwa [e] at z
  refine ⟨?_, ?_, ?_, fun i hi => ?_, ?_, fun h3 => ?_, fun h3 => ?_, w.2⟩
  · have z := every_P h1 (by omega) (wordsP_okG (n := n - 1) (by omega))
    rwa [everyW n h1 h2] at z
  · have z := listed_ok h1 (by omega) (words2_okG (n := n - 1) (by omega)) nr
    rwa [greatW n h1 h2] at z
  · have z := cnt9
    rw [List.all_eq_true] at z
    have z := z (n - 1) (List.mem_range.mpr (by omega))
    rw [e] at z
    exact okI_ok z
  · have z : pairsW n = true := by
      by_cases h9 : n = 9
      · subst h9; exact pairs9
      · have z := pairs8
        rw [List.all_eq_true] at z
        have z := z (n - 1) (List.mem_range.mpr (by omega))
        rwa [e] at z
    unfold pairsW at z
    rw [List.all_eq_true] at z
    exact okT_ok (z i (List.mem_range.mpr (by omega)))
  · have z := shw9
    rw [List.all_eq_true] at z
    have z := z (n - 1) (List.mem_range.mpr (by omega))
    rwa [e] at z
  · have z : bumpW n = true := by
      by_cases h9 : n = 9
      · subst h9; exact bump9
      · have z := bump8
        rw [List.all_eq_true] at z
        have z := z (n - 3) (List.mem_range.mpr (by omega))
        have e3 : n - 3 + 3 = n := by omega
        rwa [e3] at z
    unfold bumpW at z
    rw [Bool.and_eq_true, decide_eq_true_eq] at z
    obtain ⟨j, S', es, a, b, c, d⟩ := bumps_ok h3 (by omega) z.1 (fun q => by
      have := z.2
      rw [q] at this
      simp at this
      omega)
    exact ⟨j, S', es, a, b, c, d.trans z.2⟩
  · have z := last9
    rw [List.all_eq_true] at z
    have z := z (n - 3) (List.mem_range.mpr (by omega))
    have e3 : n - 3 + 3 = n := by omega
    have e1 : ((n - 3 + 1 : Nat) : Int) = (n : Int) - 2 := by omega
    rw [e3, e1, Bool.and_eq_true, decide_eq_true_eq] at z
    refine ⟨?_, z.2⟩
    have y := z.1
    unfold lastIs at y
    split at y
    · rename_i v q
      rw [q, of_decide_eq_true y]
    · cases y
theorem toPy_strs {m : Nat} {S : Store} : ∀ l : List Str, (l.map D.str).mapM (toPy (m + 1) S) = some (l.map .str)
  | [] => rfl
  | a :: r => by
    rw [List.map_cons, List.mapM_cons, toPy_strs r]
    rfl
theorem toPy_tupS {m : Nat} {S : Store} (l : List Str) : toPy (m + 2) S (.tup (l.map D.str)) = some (.tuple (l.map .str)) := by
  show ((l.map D.str).mapM (toPy (m + 1) S)).map PyData.tuple = _
  rw [toPy_strs]
  rfl
theorem repr_tup {l : List Str} {S : Store} (h : showD (.tuple (l.map .str)) = true) : ∃ x, reprAllD [.tup (l.map D.str)] S = .ok (.str x) S := by
  refine ⟨(PyData.tuple (l.map .str)).shown, ?_⟩
  show (match toPy 20 S (.tup (l.map D.str)) with
      | some p => if showD p then R.ok (D.str p.shown) S else .bad
      | none => .bad) = _
  rw [toPy_tupS (m := 18)]
  show (if showD (.tuple (l.map .str)) = true then R.ok (D.str (PyData.tuple (l.map .str)).shown) S else .bad) = _
  rw [if_pos h]
theorem repr_int {i : Int} {S : Store} (h : i.natAbs.log2 < 1920) : reprAllD [.int i] S = .ok (.str (toString i)) S := by
  show (if i.natAbs.log2 < 1920 then R.ok (D.str (toString i)) S else .bad) = _
  rw [if_pos h]
theorem ne_same {x : Str} {S : Store} : neC (.str x) (.str x) S = some false := by
  show (some (decide (x = x))).map (!·) = _
  rw [decide_eq_true rfl]; rfl
theorem small_log {n : Nat} (h : n ≤ 28) : ((n : Nat) : Int).natAbs.log2 < 1920 := by
  rw [Int.natAbs_natCast]
  exact log2_lt (k := 1920) (Nat.lt_of_le_of_lt h (Nat.lt_of_lt_of_le (by decide : (28 : Nat) < 2 ^ 5) (Nat.pow_le_pow_right (by decide) (by decide)))) (by decide)
def if1 : SM := (sIf (mOrT (mTest (mBin (cmpD neC) (mBlt reprAllD (mCons (mCall m_16 (mCons (mVar 1) (mNil))) (mNil))) (mBlt reprAllD (mCons (mBlt tupleD (mCons (mVar 3) (mNil))) (mNil))))) (mTest (mBin (cmpD neC) (mBlt reprAllD (mCons (mCall m_17 (mCons (mVar 1) (mNil))) (mNil))) (mBlt reprAllD (mCons (mBlt lenD (mCons (mVar 3) (mNil))) (mNil)))))) (sRet (mC (.bl false))) (sNil))
def if2 : SM := (sIf (mAndT (mTest (mBin (cmpD gtC) (mVar 1) (mC (.int 2)))) (mOrT (mTest (mBin (cmpD neC) (mBin itemD (mVar 3) (mUn negD (mC (.int 1)))) (mBin addD (mBin addD (mC (.str ("r" : Str))) (mBin mulS (mC (.str ("l" : Str))) (mBin subD (mVar 1) (mC (.int 2))))) (mC (.str ("c" : Str)))))) (mTest (mBin (cmpD neC) (mBlt lenD (mCons (mVar 3) (mNil))) (mBlt lenD (mCons (mCall m_23 (mCons (mVar 1) (mNil))) (mNil))))))) (sRet (mC (.bl false))) (sNil))
def if3 : SM := (sIf (mTest (mBin (cmpD neC) (mLc (mZipA (mCons (mVar 3) (mCons (mSlice (mVar 3) (mPart (mC (.int 1))) (mNoPart)) (mNil)))) (tTupG 2 (tConss (tName 4) (tConss (tName 5) (tNils)))) (mNotT (mTest (mCall m_15 (mCons (mVar 5) (mCons (mVar 4) (mNil)))))) (mC (.int 1)) [4, 5]) (mLst (mNil)))) (sRet (mC (.bl false))) (sNil))
def ret31 : SM := (sRet (mBin (cmpD eqC) (mBlt reprAllD (mCons (mCall m_17 (mCons (mVar 2) (mNil))) (mNil))) (mBlt reprAllD (mCons (mCall m_28 (mCons (mVar 2) (mNil))) (mNil)))))
section
variable {n k : Nat} {fr : Int} {S : Store} {dc : D}
abbrev en31 (dc : D) (n : Nat) (fr : Int) (k : Nat) : DM.Env := [some dc, some (.int (n : Int)), some (.int fr), some (.ref k), none, none]
theorem if1_ok (F : Fx n) (hk : S[k]? = some (.lst ((W n).map .str))) : if1 (en31 dc n fr k) S = .nx (en31 dc n fr k) S := by
  obtain ⟨S1, g1⟩ := F.gr
  obtain ⟨S2, g2⟩ := F.ct
  obtain ⟨x, rx⟩ := repr_tup (S := S) F.sh
  have lw := F.ln
  have pt : pureD (.tup ((W n).map D.str)) = true := pure_strs _
  have t1 : mTest (mBin (cmpD neC) (mBlt reprAllD (mCons (mCall m_16 (mCons (mVar 1) (mNil))) (mNil))) (mBlt reprAllD (mCons (mBlt tupleD (mCons (mVar 3) (mNil))) (mNil)))) (en31 dc n fr k) S = .ok false S := by
    refine mTest_ok (mBin_ok (mBlt_ok (mCons_ok (mCall_ok (mCons_ok rfl rfl) (callD_val rfl g1 pt)) rfl) rx) (mBlt_ok (mCons_ok (x := .tup ((W n).map D.str)) (S1 := S) (mBlt_ok (mCons_ok rfl rfl) ?_) rfl) rx) (cmpD_ok ne_same))
    show (match getSeq (.ref k) S with
      | some xs => R.ok (D.tup xs) S
      | none => .bad) = _
    have : getSeq (.ref k) S = some ((W n).map D.str) := by
      show (match S[k]? with | some (.lst ds) => some ds | _ => none) = _
      rw [hk]
    rw [this]
  have t2 : mTest (mBin (cmpD neC) (mBlt reprAllD (mCons (mCall m_17 (mCons (mVar 1) (mNil))) (mNil))) (mBlt reprAllD (mCons (mBlt lenD (mCons (mVar 3) (mNil))) (mNil)))) (en31 dc n fr k) S = .ok false S := by
    have rl := repr_int (S := S) (small_log lw)
    refine mTest_ok (mBin_ok (mBlt_ok (mCons_ok (mCall_ok (mCons_ok rfl rfl) (callD_val rfl g2 rfl)) rfl) rl) (mBlt_ok (mCons_ok (x := .int ((W n).length : Nat)) (S1 := S) (mBlt_ok (mCons_ok rfl rfl) (by rw [lenD_ref hk, List.length_map])) rfl) rl) (cmpD_ok ne_same))
  exact sIf_f (mOrT_ok t1 t2) rfl
theorem if2_ok (F : Fx n) (hk : S[k]? = some (.lst ((W n).map .str))) (hn : n ≤ 9) : ∃ T, if2 (en31 dc n fr k) S = .nx (en31 dc n fr k) (S ++ T) := by
  by_cases h3 : 3 ≤ n
  · obtain ⟨l1, l2⟩ := F.la h3
    obtain ⟨j, S1, es, b1, b2, b3, b4⟩ := F.bu h3
    have t0 : mTest (mBin (cmpD gtC) (mVar 1) (mC (.int 2))) (en31 dc n fr k) S = .ok true S := by
      have z := mTest_ok (a := mBin (cmpD gtC) (mVar 1) (mC (.int 2))) (ρ := en31 dc n fr k) (S := S) (b := decide ((2 : Int) < (n : Int))) (mBin_ok rfl rfl (cmpD_ok rfl))
      rwa [decide_eq_true (by omega)] at z
    have sl := sizeLine_eq
    have r1 : ("r" : Str).length = 1 := rfl
    have c1 : ("c" : Str).length = 1 := rfl
    have t1 : mTest (mBin (cmpD neC) (mBin itemD (mVar 3) (mUn negD (mC (.int 1)))) (mBin addD (mBin addD (mC (.str ("r" : Str))) (mBin mulS (mC (.str ("l" : Str))) (mBin subD (mVar 1) (mC (.int 2))))) (mC (.str ("c" : Str))))) (en31 dc n fr k) S = .ok false S := by
      refine mTest_ok (mBin_ok (mBin_ok (o := itemD) (x := .ref k) (y := .int (-1)) (S2 := S) rfl rfl (r := .ok (.str (("r" : Str) ++ repS ("l" : Str) ((n : Int) - 2) ++ ("c" : Str))) S) ?_) (mBin_ok (mBin_ok rfl (mBin_ok (o := mulS) (x := .str ("l" : Str)) (y := .int ((n : Int) - 2)) (S2 := S) rfl rfl (r := .ok (.str (repS ("l" : Str) ((n : Int) - 2))) S) ?_) (addD_strs (by rw [r1]; omega))) rfl (addD_strs (by rw [len_app, r1, c1]; omega))) (cmpD_ok ne_same))
      · show (match getSeq (.ref k) S with
          | some ds => match atI ds (-1) with
            | some x => R.ok x S
            | none => .bad
          | none => .bad) = _
        have : getSeq (.ref k) S = some ((W n).map D.str) := by
          show (match S[k]? with | some (.lst ds) => some ds | _ => none) = _
          rw [hk]
        rw [this]
        dsimp only
        rw [l1]
      · show (if (decide (-1000 ≤ (n : Int) - 2) && decide ((n : Int) - 2 ≤ 1000) && decide (("l" : Str).length ≤ 1000) && decide ((repS ("l" : Str) ((n : Int) - 2)).length ≤ sizeLine)) = true then R.ok (D.str (repS ("l" : Str) ((n : Int) - 2))) S else .bad) = _
        rw [if_pos]
        have l9 : ("l" : Str).length = 1 := rfl
        rw [decide_eq_true (by omega), decide_eq_true (by omega), decide_eq_true (by omega), decide_eq_true (by omega)]
        rfl
    have cn := callD_new (m := m_23) (ds := [.int (n : Int)]) (S := S) rfl b1 b2 b3
    have t2 : mTest (mBin (cmpD neC) (mBlt lenD (mCons (mVar 3) (mNil))) (mBlt lenD (mCons (mCall m_23 (mCons (mVar 1) (mNil))) (mNil)))) (en31 dc n fr k) S = .ok false (S ++ [.lst es]) := by
      refine mTest_ok (mBin_ok (x := .int ((W n).length : Nat)) (y := .int ((W n).length : Nat)) (mBlt_ok (mCons_ok rfl rfl) (by rw [lenD_ref hk, List.length_map])) (mBlt_ok (mCons_ok (mCall_ok (mCons_ok rfl rfl) cn) rfl) (by rw [lenD_ref get_new, b4])) (cmpD_ok ?_))
      show (some (decide (((W n).length : Int) = ((W n).length : Int)))).map (!·) = _
      rw [decide_eq_true rfl]; rfl
    have tt : mAndT (mTest (mBin (cmpD gtC) (mVar 1) (mC (.int 2)))) (mOrT (mTest (mBin (cmpD neC) (mBin itemD (mVar 3) (mUn negD (mC (.int 1)))) (mBin addD (mBin addD (mC (.str ("r" : Str))) (mBin mulS (mC (.str ("l" : Str))) (mBin subD (mVar 1) (mC (.int 2))))) (mC (.str ("c" : Str)))))) (mTest (mBin (cmpD neC) (mBlt lenD (mCons (mVar 3) (mNil))) (mBlt lenD (mCons (mCall m_23 (mCons (mVar 1) (mNil))) (mNil)))))) (en31 dc n fr k) S = .ok false (S ++ [.lst es]) := by
      unfold mAndT
      rw [t0]
      exact mOrT_ok2 t1 t2
    exact ⟨_, sIf_f tt rfl⟩
  · have t0 : mTest (mBin (cmpD gtC) (mVar 1) (mC (.int 2))) (en31 dc n fr k) S = .ok false S := by
      have z := mTest_ok (a := mBin (cmpD gtC) (mVar 1) (mC (.int 2))) (ρ := en31 dc n fr k) (S := S) (b := decide ((2 : Int) < (n : Int))) (mBin_ok rfl rfl (cmpD_ok rfl))
      rwa [decide_eq_false (by omega)] at z
    refine ⟨[], ?_⟩
    rw [List.append_nil]
    refine sIf_f (S1 := S) ?_ rfl
    unfold mAndT
    rw [t0]
    rfl
theorem if3_ok (F : Fx n) (hk : S[k]? = some (.lst ((W n).map .str))) : ∃ T, if3 (en31 dc n fr k) S = .nx (en31 dc n fr k) (S ++ T) := by
  have lw := F.ln
  have sl := slice_from (n := 1) hk
  obtain ⟨c, hc⟩ : ∃ c : C, c = .lst (((W n).map D.str).drop 1) := ⟨_, rfl⟩
  rw [← hc] at sl
  have hk2 := get_old [c] hk
  have hc2 : (S ++ [c])[S.length]? = some (.lst (((W n).map D.str).drop 1)) := by rw [get_new, hc]
  have gk : ∀ T, (∀ m, m < (S ++ [c]).length → T[m]? = (S ++ [c])[m]?) → getL (.ref k) T = some ((W n).map D.str) ∧ getL (.ref S.length) T = some (((W n).map D.str).drop 1) := fun T h => by
    constructor
    · show (match T[k]? with | some (.lst ds) => some ds | _ => none) = _
      rw [h k (List.getElem?_eq_some_iff.mp hk2).1, hk2]
    · show (match T[S.length]? with | some (.lst ds) => some ds | _ => none) = _
      rw [h S.length (List.getElem?_eq_some_iff.mp hc2).1, hc2]
  have g0 := gk (S ++ [c]) (fun _ _ => rfl)
  have it : mZipA (mCons (mVar 3) (mCons (mSlice (mVar 3) (mPart (mC (.int 1))) (mNoPart)) (mNil))) (en31 dc n fr k) S = .ok (nxZipL (.ref k) (.ref S.length)) (S ++ [c]) := by
    unfold mZipA
    rw [mCons_ok (x := .ref k) (S1 := S) rfl (mCons_ok (mSlice_ok rfl rfl rfl sl) rfl)]
    show (match getL (.ref k) (S ++ [c]), getL (.ref S.length) (S ++ [c]) with
        | some _, some _ => R.ok (nxZipL (.ref k) (.ref S.length)) (S ++ [c])
        | _, _ => .bad) = _
    rw [g0.1, g0.2]
  have lc := mLc_pure (it := mZipA (mCons (mVar 3) (mCons (mSlice (mVar 3) (mPart (mC (.int 1))) (mNoPart)) (mNil)))) (g := tTupG 2 (tConss (tName 4) (tConss (tName 5) (tNils)))) (t := mNotT (mTest (mCall m_15 (mCons (mVar 5) (mCons (mVar 4) (mNil)))))) (e := mC (.int 1)) (vs := [4, 5]) (ρ := en31 dc n fr k) (nx := nxZipL (.ref k) (.ref S.length)) (S := S ++ [c]) (S0 := S) (n := (W n).length - 1)
    (fun i => .pr [.str ((W n).getD i ""), .str ((W n).getD (i + 1) "")]) (fun _ => .int 1) (fun _ => false) (fun i => [some dc, some (.int (n : Int)), some (.int fr), some (.ref k), some (.str ((W n).getD i "")), some (.str ((W n).getD (i + 1) ""))]) (by omega) it
    (fun i z hi => by
      obtain ⟨q1, q2⟩ := gk (S ++ [c] ++ [z]) (fun m hm => List.getElem?_append_left hm)
      obtain ⟨S1, p⟩ := F.pr i (by omega)
      refine ⟨?_, rfl, mNotT_ok (b := true) (mTest_ok (mCall_ok (mCons_ok rfl (mCons_ok rfl rfl)) (callD_val rfl p rfl))), fun h => by cases h⟩
      unfold nxZipL
      rw [q1, q2]
      have x1 : ((W n).map D.str)[i]? = some (.str ((W n).getD i "")) := by
        rw [List.getElem?_map, List.getElem?_eq_getElem (by omega)]
        simp [List.getD, show i < (W n).length by omega]
      have x2 : (((W n).map D.str).drop 1)[i]? = some (.str ((W n).getD (i + 1) "")) := by
        rw [List.getElem?_drop, List.getElem?_map, Nat.add_comm, List.getElem?_eq_getElem (by omega)]
        simp [List.getD, show i + 1 < (W n).length by omega]
      dsimp only
      rw [x1, x2])
    (fun z => by
      obtain ⟨q1, q2⟩ := gk (S ++ [c] ++ [z]) (fun m hm => List.getElem?_append_left hm)
      unfold nxZipL
      rw [q1, q2]
      have x2 : (((W n).map D.str).drop 1)[(W n).length - 1]? = none := by
        rw [List.getElem?_eq_none]
        rw [List.length_drop, List.length_map]
        omega
      dsimp only
      rw [x2]
      cases ((W n).map D.str)[(W n).length - 1]? <;> rfl)
  have ef : ((List.range ((W n).length - 1)).filter fun _ => false).map (fun _ => D.int 1) = [] := by simp
  rw [ef] at lc
  have t : mTest (mBin (cmpD neC) (mLc (mZipA (mCons (mVar 3) (mCons (mSlice (mVar 3) (mPart (mC (.int 1))) (mNoPart)) (mNil)))) (tTupG 2 (tConss (tName 4) (tConss (tName 5) (tNils)))) (mNotT (mTest (mCall m_15 (mCons (mVar 5) (mCons (mVar 4) (mNil)))))) (mC (.int 1)) [4, 5]) (mLst (mNil))) (en31 dc n fr k) S = .ok false (S ++ [c] ++ [.lst []] ++ [.lst []]) := by
    refine mTest_ok (mBin_ok lc (mLst_ok rfl (Nat.zero_le _)) (cmpD_ok ?_))
    have z := eq_nil (ns := []) (S := S ++ [c] ++ [.lst []] ++ [.lst []]) (a := (S ++ [c]).length) (b := (S ++ [c] ++ [C.lst []]).length) (get_old _ get_new) get_new
    show (eqC _ _ _).map (!·) = _
    rw [z]
    rfl
  exact ⟨_, sIf_f t (by rw [List.append_assoc, List.append_assoc]; rfl)⟩
theorem ret_ok (h1 : 1 ≤ fr) (h2 : fr ≤ 200) : ret31 (en31 dc n fr k) S = .rt (.bl true) S := by
  obtain ⟨v, S1, S2, e1, e2, hv⟩ := far_ok h1 h2
  refine sRet_ok (mBin_ok (mBlt_ok (mCons_ok (mCall_ok (mCons_ok rfl rfl) (callD_val rfl e1 rfl)) rfl) (repr_int hv)) (mBlt_ok (mCons_ok (mCall_ok (mCons_ok rfl rfl) (callD_val rfl e2 rfl)) rfl) (repr_int hv)) (cmpD_ok ?_))
  show some (decide (Str.ofString (toString v) = Str.ofString (toString v))) = _
  rw [decide_eq_true rfl]
end
theorem right_ok {es : List D} (h : Dc es 0) : ∃ S' es', m_31 [.ref 0] [.lst es] = .ok (.bl true) S' ∧ S'[0]? = some (.lst es') ∧ pureAll es' = true := by
  obtain ⟨r1, es1, e1, a1, a2, d1⟩ := rollC (k := 0) (t := 9) (S := [.lst es]) rfl h (by omega) (by decide) (by decide)
  obtain ⟨r2, es2, e2, b1, b2, d2⟩ := rollC (k := 0) (t := 200) (S := [.lst es1]) rfl d1 (by omega) (by decide) (by decide)
  obtain ⟨n, hn⟩ : ∃ n : Nat, (n : Int) = 1 + r1 := ⟨(1 + r1).toNat, by omega⟩
  have F := fx (n := n) (by omega) (by omega)
  have s1 : sPar 1 2 (mCons (mBin addD (mC (.int 1)) (mCall m_19 (mCons (mVar 0) (mCons (mC (.int 9)) (mNil))))) (mCons (mBin addD (mC (.int 1)) (mCall m_19 (mCons (mVar 0) (mCons (mC (.int 200)) (mNil))))) (mNil))) [some (.ref 0), none, none, none, none, none] [.lst es] =
      .nx [some (.ref 0), some (.int (n : Int)), some (.int (1 + r2)), none, none, none] [.lst es2] := by
    have a1 : mBin addD (mC (.int 1)) (mCall m_19 (mCons (mVar 0) (mCons (mC (.int 9)) (mNil)))) [some (.ref 0), none, none, none, none, none] [.lst es] = .ok (.int (1 + r1)) [.lst es1] := mBin_ok rfl (mCall_ok (mCons_ok rfl (mCons_ok rfl rfl)) e1) rfl
    have a2 : mBin addD (mC (.int 1)) (mCall m_19 (mCons (mVar 0) (mCons (mC (.int 200)) (mNil)))) [some (.ref 0), none, none, none, none, none] [.lst es1] = .ok (.int (1 + r2)) [.lst es2] := mBin_ok rfl (mCall_ok (mCons_ok rfl (mCons_ok rfl rfl)) e2) rfl
    have z := sPar_ok (i := 1) (j := 2) (ρ := [some (.ref 0), none, none, none, none, none]) (mCons_ok a1 (mCons_ok a2 (show mNil _ [.lst es2] = .ok [] [.lst es2] from rfl)))
    rw [z, hn]
    rfl
  obtain ⟨j, S1, v1, v2⟩ := F.ev
  have cn := callD_new (m := m_27) (ds := [.int (n : Int)]) (S := [.lst es2]) rfl v1 v2 (pure_strs _)
  have s2 : sSet 3 (mCall m_27 (mCons (mVar 1) (mNil))) [some (.ref 0), some (.int (n : Int)), some (.int (1 + r2)), none, none, none] [.lst es2] = .nx (en31 (.ref 0) n (1 + r2) 1) ([.lst es2] ++ [.lst ((W n).map .str)]) := sSet_ok (mCall_ok (mCons_ok rfl rfl) cn)
  have hk : ([C.lst es2] ++ [C.lst ((W n).map D.str)])[1]? = some (.lst ((W n).map .str)) := rfl
  have s3 := if1_ok (dc := .ref 0) (fr := 1 + r2) F hk
  obtain ⟨T1, s4⟩ := if2_ok (dc := .ref 0) (fr := 1 + r2) F hk (by omega)
  obtain ⟨T2, s5⟩ := if3_ok (dc := .ref 0) (fr := 1 + r2) F (get_old T1 hk)
  have s6 := ret_ok (dc := .ref 0) (n := n) (k := 1) (S := [C.lst es2] ++ [C.lst ((W n).map D.str)] ++ T1 ++ T2) (fr := 1 + r2) (by omega) (by omega)
  have hb : m_31 = defM 5 (sSeq (sPar 1 2 (mCons (mBin addD (mC (.int 1)) (mCall m_19 (mCons (mVar 0) (mCons (mC (.int 9)) (mNil))))) (mCons (mBin addD (mC (.int 1)) (mCall m_19 (mCons (mVar 0) (mCons (mC (.int 200)) (mNil))))) (mNil)))) (sSeq (sSet 3 (mCall m_27 (mCons (mVar 1) (mNil)))) (sSeq if1 (sSeq if2 (sSeq if3 ret31))))) := rfl
  rw [hb]
  exact ⟨_, es2, defM_rt (sSeq_nx s1 (sSeq_nx s2 (sSeq_nx s3 (sSeq_nx s4 (sSeq_nx s5 s6))))), rfl, d2.clean.2⟩
end Law

namespace Law
open PySem PySem.Spec L2 DM
theorem app_get (S l : Store) (i : Nat) : (S ++ l)[S.length + i]? = l[i]? := by
  rw [List.getElem?_append_right (Nat.le_add_right _ _), Nat.add_sub_cancel_left]
theorem toPy_ref {m k : Nat} {S : Store} {ds : List D} {ps : List PyData} (h : S[k]? = some (.lst ds)) (e : ds.mapM (toPy m S) = some ps) : toPy (m + 1) S (.ref k) = some (.list ps) := by
  show (match S[k]? with
    | some (.lst ds) => (ds.mapM (toPy m S)).map PyData.list
    | _ => none) = _
  rw [h]
  show (ds.mapM (toPy m S)).map PyData.list = _
  rw [e]
  rfl
theorem spots {ns : List Int} (hn : ns.length ≤ 63) : ∃ (sp : Option D) (S : Store), sFor (mRng (mCons (mBlt max2D (mCons (mC (.int 1)) (mCons (mBlt min2D (mCons (mC (.int 4)) (mCons (mBlt lenD (mCons (mVar 0) (mNil))) (mNil)))) (mNil)))) (mNil))) (tName 1) (sIf (mNotT (mTest (mCall m_31 (mCons (mCall m_18 (mCons (mVar 0) (mCons (mVar 1) (mNil)))) (mNil))))) (sRet (mC (.bl false))) (sNil))
    [some (.kst (ns.map .int)), none, none, none] [] = .nx [some (.kst (ns.map .int)), sp, none, none] S := by
  obtain ⟨N, hN, eN⟩ : ∃ N : Nat, N ≤ 4 ∧ mRng (mCons (mBlt max2D (mCons (mC (.int 1)) (mCons (mBlt min2D (mCons (mC (.int 4)) (mCons (mBlt lenD (mCons (mVar 0) (mNil))) (mNil)))) (mNil)))) (mNil)) [some (.kst (ns.map .int)), none, none, none] [] = .ok (nxRng 0 1 N) [] := by
    obtain ⟨x, hx, ex⟩ : ∃ x : Nat, x ≤ 4 ∧ mBlt min2D (mCons (mC (.int 4)) (mCons (mBlt lenD (mCons (mVar 0) (mNil))) (mNil))) [some (.kst (ns.map .int)), none, none, none] [] = .ok (.int (x : Int)) [] := by
      have e : mBlt min2D (mCons (mC (.int 4)) (mCons (mBlt lenD (mCons (mVar 0) (mNil))) (mNil))) [some (.kst (ns.map .int)), none, none, none] [] = .ok (.int (if ((ns.map D.int).length : Int) < 4 then ((ns.map D.int).length : Int) else 4)) [] := rfl
      rw [List.length_map] at e
      by_cases h : ns.length < 4
      · exact ⟨ns.length, by omega, by rw [e, if_pos (by omega)]⟩
      · exact ⟨4, by omega, by rw [e, if_neg (by omega)]; rfl⟩
    have e2 : mBlt max2D (mCons (mC (.int 1)) (mCons (mBlt min2D (mCons (mC (.int 4)) (mCons (mBlt lenD (mCons (mVar 0) (mNil))) (mNil)))) (mNil))) [some (.kst (ns.map .int)), none, none, none] [] = .ok (.int (if (x : Int) > 1 then (x : Int) else 1)) [] :=
      mBlt_ok (mCons_ok rfl (mCons_ok ex rfl)) rfl
    by_cases h : (x : Int) > 1
    · rw [if_pos h] at e2
      exact ⟨x, hx, mRng_ok (mCons_ok e2 rfl) (rng_one (by omega))⟩
    · rw [if_neg h] at e2
      exact ⟨1, by omega, mRng_ok (mCons_ok e2 rfl) (rng_one (j := 1) (by omega))⟩
  obtain ⟨ρ2, S2, e2, sp, rfl⟩ := sFor_ok (it := mRng (mCons (mBlt max2D (mCons (mC (.int 1)) (mCons (mBlt min2D (mCons (mC (.int 4)) (mCons (mBlt lenD (mCons (mVar 0) (mNil))) (mNil)))) (mNil)))) (mNil))) (g := tName 1)
    (b := sIf (mNotT (mTest (mCall m_31 (mCons (mCall m_18 (mCons (mVar 0) (mCons (mVar 1) (mNil)))) (mNil))))) (sRet (mC (.bl false))) (sNil)) (nx := nxRng 0 1 N) (n := N) (ρ := [some (.kst (ns.map .int)), none, none, none]) (S := []) (S0 := [])
    (fun i ρ S => ∃ sp, ρ = [some (.kst (ns.map .int)), sp, none, none]) eN (Nat.lt_of_le_of_lt hN (by decide)) ⟨none, rfl⟩
    (fun i ρ S hi ⟨sp, hρ⟩ => by
      subst hρ
      have ei : (0 + (i : Int) * 1) = (i : Int) := by omega
      obtain ⟨es, d1, d2⟩ := diceC (ns := ns) (i := i) (S := S) (by omega) hn
      obtain ⟨S', es', r1, r2, r3⟩ := right_ok d2
      have c := callD_ref (k := S.length) (S := S ++ [C.lst es]) (ds := []) get_new d2.clean.1 rfl r1 r2 r3 rfl
      refine ⟨_, _, _, _, _, nxRng_lt hi, rfl, sIf_f (S1 := (S ++ [C.lst es]).set S.length (.lst es')) (mNotT_ok (b := true) (mTest_ok (mCall_ok (mCons_ok (x := .ref S.length) (S1 := S ++ [C.lst es]) (mCall_ok (mCons_ok rfl (mCons_ok rfl rfl)) ?_) rfl) c))) rfl, some (.int (0 + (i : Int) * 1)), rfl⟩
      rw [ei]
      exact d1)
    (fun ρ S _ => nxRng_end)
  exact ⟨sp, S2, e2⟩
def w3 : D := .tup ((W 3).map .str)
def w4 : D := .tup ((W 4).map .str)
def u8 : List D := [.int 1, .int 1, .int 1, .int 2, .int 3, .int 5, .int 9, .int 16]
def p8 : PyData := .list [.int 1, .int 1, .int 1, .int 2, .int 3, .int 5, .int 9, .int 16]
def uA (p : Nat) : List D := [w3, w4, .ref p, .int 170]
def pA : List PyData := [.tuple ((W 3).map .str), .tuple ((W 4).map .str), p8, .int 170]
theorem toPy_18 {S : Store} {i : Int} : toPy 18 S (.int i) = some (.int i) := rfl
theorem p8_ok {S : Store} : u8.mapM (toPy 18 S) = some [.int 1, .int 1, .int 1, .int 2, .int 3, .int 5, .int 9, .int 16] := by
  unfold u8
  simp only [List.mapM_cons, List.mapM_nil, toPy_18]
  rfl
theorem pA_ok {S : Store} {p : Nat} (h : S[p]? = some (.lst u8)) : (uA p).mapM (toPy 19 S) = some pA := by
  have e1 : toPy 19 S w3 = some (.tuple ((W 3).map .str)) := toPy_tupS (m := 17) _
  have e2 : toPy 19 S w4 = some (.tuple ((W 4).map .str)) := toPy_tupS (m := 17) _
  have e3 : toPy 19 S (.ref p) = some p8 := toPy_ref h p8_ok
  have e4 : toPy 19 S (.int 170) = some (.int 170) := rfl
  unfold uA
  simp only [List.mapM_cons, List.mapM_nil, e1, e2, e3, e4]
  rfl
theorem counts_lc {S : Store} {a0 a1 a2 a3 : Option D} : mLc (mRng (mCons (mC (.int 1)) (mCons (mC (.int 9)) (mNil)))) (tName 3) (mYes) (mCall m_17 (mCons (mVar 3) (mNil))) [3] [a0, a1, a2, a3] S = .ok (.ref S.length) (S ++ [.lst u8]) := by
  have lc := mLc_pure (it := mRng (mCons (mC (.int 1)) (mCons (mC (.int 9)) (mNil)))) (g := tName 3) (t := mYes) (e := mCall m_17 (mCons (mVar 3) (mNil))) (vs := [3]) (ρ := [a0, a1, a2, a3]) (nx := nxRng 1 1 8) (S := S) (S0 := S) (n := 8)
    (fun i => .int (1 + (i : Int) * 1)) (fun i => .int ((W (i + 1)).length : Nat)) (fun _ => true) (fun i => [a0, a1, a2, some (.int (1 + (i : Int) * 1))]) (by omega) (mRng_ok (mCons_ok rfl (mCons_ok rfl rfl)) (rng_two (by decide) (by decide) (by decide) (by decide)))
    (fun i z hi => ⟨nxRng_lt hi, rfl, rfl, fun _ => by
      have e : (1 + (i : Int) * 1) = ((i + 1 : Nat) : Int) := by omega
      obtain ⟨S', c⟩ := (fx (n := i + 1) (by omega) (by omega)).ct
      rw [e]
      exact mCall_ok (mCons_ok rfl rfl) (callD_val rfl c rfl)⟩) (fun z => nxRng_end)
  exact lc
theorem pure_tS (l : List Str) : pureD (.tup (l.map D.str)) = true := pure_strs l
theorem len_tS (l : List Str) (T : Store) : lenD [.tup (l.map D.str)] T = .ok (.int (l.length : Nat)) T := by
  show R.ok (D.int ((l.map D.str).length : Nat)) T = _
  rw [List.length_map]
theorem law_true : LawTrue m_32 := by
  intro ns hn
  obtain ⟨sp, S, e1⟩ := spots hn
  obtain ⟨S3, g3⟩ := (fx (n := 3) (by decide) (by decide)).gr
  obtain ⟨S4, g4⟩ := (fx (n := 4) (by decide) (by decide)).gr
  have n12 : isNonR (m_2 [.int ((12 : Nat) : Int), .int 1, .int 14] []) = true := by
    have z := num9
    rw [List.all_eq_true] at z
    have z := z 11 (List.mem_range.mpr (by decide))
    have e : (11 + 1 : Nat) = 12 := rfl
    rwa [e] at z
  obtain ⟨S12, g12⟩ := listed_ok (n := 12) (by decide) (by decide) (words2_okG (n := 11) (by decide)) n12
  obtain ⟨S28, g28⟩ := okI_ok c12
  have k3 : ((3 : Nat) : Int) = 3 := rfl
  have k4 : ((4 : Nat) : Int) = 4 := rfl
  have k12 : ((12 : Nat) : Int) = 12 := rfl
  rw [k3] at g3
  rw [k4] at g4
  rw [k12] at g12
  have q3 : ∀ T, callD m_16 [.int 3] T = .ok w3 T := fun T => callD_val rfl g3 (pure_tS (W 3))
  have q4 : ∀ T, callD m_16 [.int 4] T = .ok w4 T := fun T => callD_val rfl g4 (pure_tS (W 4))
  have q12 : ∀ T, callD m_16 [.int 12] T = .ok (.tup ((greatQ 12).map .str)) T := fun T => callD_val rfl g12 (pure_tS (greatQ 12))
  have q28 : ∀ T, callD m_28 [.int 12] T = .ok (.int 170) T := fun T => callD_val rfl g28 rfl
  have sz : ∀ n : Nat, n ≤ 20 → n ≤ sizeLine := fun n h => Nat.le_trans h (by decide)
  have l12 : ∀ T, lenD [.tup ((greatQ 12).map D.str)] T = .ok (.int 170) T := fun T => by
    rw [len_tS (greatQ 12) T, great12]
    rfl
  have s1 : sSet 2 (mLst (mCons (mCall m_16 (mCons (mC (.int 3)) (mNil))) (mCons (mCall m_16 (mCons (mC (.int 4)) (mNil))) (mCons (mLc (mRng (mCons (mC (.int 1)) (mCons (mC (.int 9)) (mNil)))) (tName 3) (mYes) (mCall m_17 (mCons (mVar 3) (mNil))) [3]) (mCons (mBlt lenD (mCons (mCall m_16 (mCons (mC (.int 12)) (mNil))) (mNil))) (mNil)))))) [some (.kst (ns.map .int)), sp, none, none] S =
      .nx [some (.kst (ns.map .int)), sp, some (.ref (S ++ [C.lst u8]).length), none] (S ++ [C.lst u8] ++ [C.lst (uA S.length)]) :=
    sSet_ok (mLst_ok (xs := uA S.length) (S1 := S ++ [C.lst u8]) (mCons_ok (mCall_ok (mCons_ok rfl rfl) (q3 S)) (mCons_ok (mCall_ok (mCons_ok rfl rfl) (q4 S)) (mCons_ok counts_lc (mCons_ok (mBlt_ok (mCons_ok (mCall_ok (mCons_ok rfl rfl) (q12 _)) rfl) (l12 _)) rfl)))) (sz 4 (by decide)))
  obtain ⟨T, hT⟩ : ∃ T, T = S ++ [C.lst u8] ++ [C.lst (uA S.length)] := ⟨_, rfl⟩
  rw [← hT] at s1
  have i1 : mLst (mCons (mC (.int 1)) (mCons (mC (.int 1)) (mCons (mC (.int 1)) (mCons (mC (.int 2)) (mCons (mC (.int 3)) (mCons (mC (.int 5)) (mCons (mC (.int 9)) (mCons (mC (.int 16)) (mNil))))))))) [some (.kst (ns.map .int)), sp, some (.ref (S ++ [C.lst u8]).length), none] T = .ok (.ref T.length) (T ++ [C.lst u8]) :=
    mLst_ok (xs := u8) (S1 := T) (mCons_ok rfl (mCons_ok rfl (mCons_ok rfl (mCons_ok rfl (mCons_ok rfl (mCons_ok rfl (mCons_ok rfl (mCons_ok rfl rfl)))))))) (sz 8 (by decide))
  have t3 : mTup (mCons (mC (.str ("rlc" : Str))) (mNil)) [some (.kst (ns.map .int)), sp, some (.ref (S ++ [C.lst u8]).length), none] T = .ok w3 T := mTup_ok (xs := (W 3).map .str) (mCons_ok rfl rfl) (sz 1 (by decide))
  have t4 : mTup (mCons (mC (.str ("rlrc" : Str))) (mCons (mC (.str ("rllc" : Str))) (mNil))) [some (.kst (ns.map .int)), sp, some (.ref (S ++ [C.lst u8]).length), none] T = .ok w4 T := mTup_ok (xs := (W 4).map .str) (mCons_ok rfl (mCons_ok rfl rfl)) (sz 2 (by decide))
  have i2 := mLst_ok (xs := uA T.length) (S1 := T ++ [C.lst u8]) (mCons_ok t3 (mCons_ok t4 (mCons_ok i1 (mCons_ok (mCall_ok (a := mCons (mC (.int 12)) (mNil)) (mCons_ok rfl rfl) (q28 _)) (b := mNil) rfl)))) (sz 4 (by decide))
  have ga : (T ++ [C.lst u8] ++ [C.lst (uA T.length)])[(S ++ [C.lst u8]).length]? = some (.lst (uA S.length)) := by rw [hT]; exact get_old _ (get_old _ get_new)
  have gb : (T ++ [C.lst u8] ++ [C.lst (uA T.length)])[S.length]? = some (.lst u8) := by rw [hT]; exact get_old _ (get_old _ (get_old _ get_new))
  have gc : (T ++ [C.lst u8] ++ [C.lst (uA T.length)])[T.length]? = some (.lst u8) := get_old _ get_new
  have fin : eqC (.ref (S ++ [C.lst u8]).length) (.ref (T ++ [C.lst u8]).length) (T ++ [C.lst u8] ++ [C.lst (uA T.length)]) = some true := by
    have c1 := toPy_ref (m := 19) ga (pA_ok gb)
    have c2 := toPy_ref (m := 19) (get_new (S := T ++ [C.lst u8]) (c := C.lst (uA T.length))) (pA_ok gc)
    show eqG _ _ _ = _
    unfold eqG
    rw [c1, c2]
    decide +kernel
  exact ⟨_, defM_rt (sSeq_nx e1 (sSeq_nx s1 (sRet_ok (mBin_ok rfl i2 (cmpD_ok fin)))))⟩
end Law

namespace Law
open PySem PySem.Spec L2 DM
open PyProof.Rows hiding St
def topS (i : Nat) : Stmt := PySem.Challenge.pw_roundsforce_k47_whole_lists_of_greatest.main.body.getD i (.Pass ⟨0, 0, 0, 0⟩)
/-- is_whole -/
abbrev s_0 : Stmt := topS 6
theorem sc_0 : FnScope ["value"] ["value"] (defScope s_0) := ⟨rfl, rfl, rfl, by decide +kernel, rfl, by decide +kernel, by decide +kernel⟩
/-- is_near -/
abbrev s_1 : Stmt := topS 7
theorem sc_1 : FnScope ["value"] ["value"] (defScope s_1) := ⟨rfl, rfl, rfl, by decide +kernel, rfl, by decide +kernel, by decide +kernel⟩
/-- require_number -/
abbrev s_2 : Stmt := topS 8
theorem sc_2 : FnScope ["value", "least", "most"] ["value", "least", "most"] (defScope s_2) := ⟨rfl, rfl, rfl, by decide +kernel, rfl, by decide +kernel, by decide +kernel⟩
/-- is_word_in -/
abbrev s_3 : Stmt := topS 17
theorem sc_3 : FnScope ["value", "sign"] ["value"] (defScope s_3) := ⟨rfl, rfl, rfl, by decide +kernel, rfl, by decide +kernel, by decide +kernel⟩
/-- key_of_signs -/
abbrev s_4 : Stmt := topS 18
theorem sc_4 : FnScope ["signs", "found", "sense", "sign"] ["signs"] (defScope s_4) := ⟨rfl, rfl, rfl, by decide +kernel, rfl, by decide +kernel, by decide +kernel⟩
/-- words_compared -/
abbrev s_5 : Stmt := topS 19
theorem sc_5 : FnScope ["one", "other", "first", "second"] ["one", "other"] (defScope s_5) := ⟨rfl, rfl, rfl, by decide +kernel, rfl, by decide +kernel, by decide +kernel⟩
/-- shifted -/
abbrev s_6 : Stmt := topS 20
theorem sc_6 : FnScope ["word", "i"] ["word", "i"] (defScope s_6) := ⟨rfl, rfl, rfl, by decide +kernel, rfl, by decide +kernel, by decide +kernel⟩
/-- beaten_at -/
abbrev s_7 : Stmt := topS 21
theorem sc_7 : FnScope ["word", "i"] ["word"] (defScope s_7) := ⟨rfl, rfl, rfl, by decide +kernel, rfl, by decide +kernel, by decide +kernel⟩
/-- is_greatest_in -/
abbrev s_8 : Stmt := topS 22
theorem sc_8 : FnScope ["word"] ["word"] (defScope s_8) := ⟨rfl, rfl, rfl, by decide +kernel, rfl, by decide +kernel, by decide +kernel⟩
/-- all_words -/
abbrev s_9 : Stmt := topS 23
theorem sc_9 : FnScope ["n", "found", "turn", "row", "sign"] ["n"] (defScope s_9) := ⟨rfl, rfl, rfl, by decide +kernel, rfl, by decide +kernel, by decide +kernel⟩
/-- greatest_words_in -/
abbrev s_10 : Stmt := topS 24
theorem sc_10 : FnScope ["n", "word"] ["n"] (defScope s_10) := ⟨rfl, rfl, rfl, by decide +kernel, rfl, by decide +kernel, by decide +kernel⟩
/-- moebius_in -/
abbrev s_11 : Stmt := topS 25
theorem sc_11 : FnScope ["number", "found", "factor"] ["number"] (defScope s_11) := ⟨rfl, rfl, rfl, by decide +kernel, rfl, by decide +kernel, by decide +kernel⟩
/-- count_greatest_in -/
abbrev s_12 : Stmt := topS 26
theorem sc_12 : FnScope ["n", "found", "divisor"] ["n"] (defScope s_12) := ⟨rfl, rfl, rfl, by decide +kernel, rfl, by decide +kernel, by decide +kernel⟩
/-- require_word -/
abbrev s_13 : Stmt := topS 27
theorem sc_13 : FnScope ["value"] ["value"] (defScope s_13) := ⟨rfl, rfl, rfl, by decide +kernel, rfl, by decide +kernel, by decide +kernel⟩
/-- require_two_words -/
abbrev s_14 : Stmt := topS 28
theorem sc_14 : FnScope ["word", "other"] ["word", "other"] (defScope s_14) := ⟨rfl, rfl, rfl, by decide +kernel, rfl, by decide +kernel, by decide +kernel⟩
/-- is_above -/
abbrev s_15 : Stmt := topS 29
theorem sc_15 : FnScope ["word", "other"] ["word", "other"] (defScope s_15) := ⟨rfl, rfl, rfl, by decide +kernel, rfl, by decide +kernel, by decide +kernel⟩
/-- greatest_words -/
abbrev s_16 : Stmt := topS 30
theorem sc_16 : FnScope ["n"] ["n"] (defScope s_16) := ⟨rfl, rfl, rfl, by decide +kernel, rfl, by decide +kernel, by decide +kernel⟩
/-- count_greatest -/
abbrev s_17 : Stmt := topS 31
theorem sc_17 : FnScope ["n"] ["n"] (defScope s_17) := ⟨rfl, rfl, rfl, by decide +kernel, rfl, by decide +kernel, by decide +kernel⟩
/-- _law_dice -/
abbrev s_18 : Stmt := topS 33
theorem sc_18 : FnScope ["script", "spot", "cell", "left"] ["script", "spot"] (defScope s_18) := ⟨rfl, rfl, rfl, by decide +kernel, rfl, by decide +kernel, by decide +kernel⟩
/-- _law_roll -/
abbrev s_19 : Stmt := topS 34
theorem sc_19 : FnScope ["dice", "total", "found", "one", "two"] ["dice", "total"] (defScope s_19) := ⟨rfl, rfl, rfl, by decide +kernel, rfl, by decide +kernel, by decide +kernel⟩
/-- _law_is_integer -/
abbrev s_20 : Stmt := topS 35
theorem sc_20 : FnScope ["value", "least", "most"] ["value", "least", "most"] (defScope s_20) := ⟨rfl, rfl, rfl, by decide +kernel, rfl, by decide +kernel, by decide +kernel⟩
/-- _law_is_line -/
abbrev s_21 : Stmt := topS 36
theorem sc_21 : FnScope ["value", "one"] ["value"] (defScope s_21) := ⟨rfl, rfl, rfl, by decide +kernel, rfl, by decide +kernel, by decide +kernel⟩
/-- _law_is_round -/
abbrev s_22 : Stmt := topS 37
theorem sc_22 : FnScope ["value", "met", "here"] ["value"] (defScope s_22) := ⟨rfl, rfl, rfl, by decide +kernel, rfl, by decide +kernel, by decide +kernel⟩
/-- _law_bump_rounds -/
abbrev s_23 : Stmt := topS 38
theorem sc_23 : FnScope ["n", "found", "top", "rows", "at", "later", "row", "side", "left", "right", "line"] ["n"] (defScope s_23) := ⟨rfl, rfl, rfl, by decide +kernel, rfl, by decide +kernel, by decide +kernel⟩
/-- _law_is_above -/
abbrev s_24 : Stmt := topS 39
theorem sc_24 : FnScope ["one", "other", "turned", "a", "b"] ["one", "other"] (defScope s_24) := ⟨rfl, rfl, rfl, by decide +kernel, rfl, by decide +kernel, by decide +kernel⟩
/-- _law_shifts -/
abbrev s_25 : Stmt := topS 40
theorem sc_25 : FnScope ["word", "at"] ["word"] (defScope s_25) := ⟨rfl, rfl, rfl, by decide +kernel, rfl, by decide +kernel, by decide +kernel⟩
/-- _law_is_greatest -/
abbrev s_26 : Stmt := topS 41
theorem sc_26 : FnScope ["word", "some"] ["word"] (defScope s_26) := ⟨rfl, rfl, rfl, by decide +kernel, rfl, by decide +kernel, by decide +kernel⟩
/-- _law_every -/
abbrev s_27 : Stmt := topS 42
theorem sc_27 : FnScope ["n", "found", "turn", "row", "kept", "word", "at", "other"] ["n"] (defScope s_27) := ⟨rfl, rfl, rfl, by decide +kernel, rfl, by decide +kernel, by decide +kernel⟩
/-- _law_moebius -/
abbrev s_29 : Stmt := topS 44
theorem sc_29 : FnScope ["number", "found", "left", "prime", "times"] ["number"] (defScope s_29) := ⟨rfl, rfl, rfl, by decide +kernel, rfl, by decide +kernel, by decide +kernel⟩
/-- _law_two -/
abbrev s_30 : Stmt := topS 45
theorem sc_30 : FnScope ["many", "found", "turn"] ["many"] (defScope s_30) := ⟨rfl, rfl, rfl, by decide +kernel, rfl, by decide +kernel, by decide +kernel⟩
/-- _law_count -/
abbrev s_28 : Stmt := topS 43
theorem sc_28 : FnScope ["n", "found", "d"] ["n"] (defScope s_28) := ⟨rfl, rfl, rfl, by decide +kernel, rfl, by decide +kernel, by decide +kernel⟩
/-- _law_right -/
abbrev s_31 : Stmt := topS 46
theorem sc_31 : FnScope ["dice", "n", "far", "every", "one", "other"] ["dice"] (defScope s_31) := ⟨rfl, rfl, rfl, by decide +kernel, rfl, by decide +kernel, by decide +kernel⟩
/-- law -/
abbrev s_32 : Stmt := topS 47
theorem sc_32 : FnScope ["script", "spot", "told", "n"] ["script"] (defScope s_32) := ⟨rfl, rfl, rfl, by decide +kernel, rfl, by decide +kernel, by decide +kernel⟩
structure Tx (G : Gv) (mg : Str → Option Value) (fA : Nat → Addr) (fD : Nat → FuncData) (w : World) : Prop where
  F_0 : Fun G.K "is_whole" "is_whole" s_0 (fA 0) (fD 0)
  g_0 : mg "is_whole" = some (.ref (fA 0))
  b_0 : Binds G.K (fD 0) ["value"] []
  F_1 : Fun G.K "is_near" "is_near" s_1 (fA 1) (fD 1)
  g_1 : mg "is_near" = some (.ref (fA 1))
  b_1 : Binds G.K (fD 1) ["value"] []
  F_2 : Fun G.K "require_number" "require_number" s_2 (fA 2) (fD 2)
  g_2 : mg "require_number" = some (.ref (fA 2))
  b_2 : Binds G.K (fD 2) ["value", "least", "most"] []
  F_3 : Fun G.K "is_word_in" "is_word_in" s_3 (fA 3) (fD 3)
  g_3 : mg "is_word_in" = some (.ref (fA 3))
  b_3 : Binds G.K (fD 3) ["value"] []
  F_4 : Fun G.K "key_of_signs" "key_of_signs" s_4 (fA 4) (fD 4)
  g_4 : mg "key_of_signs" = some (.ref (fA 4))
  b_4 : Binds G.K (fD 4) ["signs"] []
  F_5 : Fun G.K "words_compared" "words_compared" s_5 (fA 5) (fD 5)
  g_5 : mg "words_compared" = some (.ref (fA 5))
  b_5 : Binds G.K (fD 5) ["one", "other"] []
  F_6 : Fun G.K "shifted" "shifted" s_6 (fA 6) (fD 6)
  g_6 : mg "shifted" = some (.ref (fA 6))
  b_6 : Binds G.K (fD 6) ["word", "i"] []
  F_7 : Fun G.K "beaten_at" "beaten_at" s_7 (fA 7) (fD 7)
  g_7 : mg "beaten_at" = some (.ref (fA 7))
  b_7 : Binds G.K (fD 7) ["word"] []
  F_8 : Fun G.K "is_greatest_in" "is_greatest_in" s_8 (fA 8) (fD 8)
  g_8 : mg "is_greatest_in" = some (.ref (fA 8))
  b_8 : Binds G.K (fD 8) ["word"] []
  F_9 : Fun G.K "all_words" "all_words" s_9 (fA 9) (fD 9)
  g_9 : mg "all_words" = some (.ref (fA 9))
  b_9 : Binds G.K (fD 9) ["n"] []
  F_10 : Fun G.K "greatest_words_in" "greatest_words_in" s_10 (fA 10) (fD 10)
  g_10 : mg "greatest_words_in" = some (.ref (fA 10))
  b_10 : Binds G.K (fD 10) ["n"] []
  F_11 : Fun G.K "moebius_in" "moebius_in" s_11 (fA 11) (fD 11)
  g_11 : mg "moebius_in" = some (.ref (fA 11))
  b_11 : Binds G.K (fD 11) ["number"] []
  F_12 : Fun G.K "count_greatest_in" "count_greatest_in" s_12 (fA 12) (fD 12)
  g_12 : mg "count_greatest_in" = some (.ref (fA 12))
  b_12 : Binds G.K (fD 12) ["n"] []
  F_13 : Fun G.K "require_word" "require_word" s_13 (fA 13) (fD 13)
  g_13 : mg "require_word" = some (.ref (fA 13))
  b_13 : Binds G.K (fD 13) ["value"] []
  F_14 : Fun G.K "require_two_words" "require_two_words" s_14 (fA 14) (fD 14)
  g_14 : mg "require_two_words" = some (.ref (fA 14))
  b_14 : Binds G.K (fD 14) ["word", "other"] []
  F_15 : Fun G.K "is_above" "is_above" s_15 (fA 15) (fD 15)
  g_15 : mg "is_above" = some (.ref (fA 15))
  b_15 : Binds G.K (fD 15) ["word", "other"] []
  F_16 : Fun G.K "greatest_words" "greatest_words" s_16 (fA 16) (fD 16)
  g_16 : mg "greatest_words" = some (.ref (fA 16))
  b_16 : Binds G.K (fD 16) ["n"] []
  F_17 : Fun G.K "count_greatest" "count_greatest" s_17 (fA 17) (fD 17)
  g_17 : mg "count_greatest" = some (.ref (fA 17))
  b_17 : Binds G.K (fD 17) ["n"] []
  F_18 : Fun G.K "_law_dice" "_law_dice" s_18 (fA 18) (fD 18)
  g_18 : mg "_law_dice" = some (.ref (fA 18))
  b_18 : Binds G.K (fD 18) ["script", "spot"] []
  F_19 : Fun G.K "_law_roll" "_law_roll" s_19 (fA 19) (fD 19)
  g_19 : mg "_law_roll" = some (.ref (fA 19))
  b_19 : Binds G.K (fD 19) ["dice", "total"] []
  F_20 : Fun G.K "_law_is_integer" "_law_is_integer" s_20 (fA 20) (fD 20)
  g_20 : mg "_law_is_integer" = some (.ref (fA 20))
  b_20 : Binds G.K (fD 20) ["value", "least", "most"] []
  F_21 : Fun G.K "_law_is_line" "_law_is_line" s_21 (fA 21) (fD 21)
  g_21 : mg "_law_is_line" = some (.ref (fA 21))
  b_21 : Binds G.K (fD 21) ["value"] []
  F_22 : Fun G.K "_law_is_round" "_law_is_round" s_22 (fA 22) (fD 22)
  g_22 : mg "_law_is_round" = some (.ref (fA 22))
  b_22 : Binds G.K (fD 22) ["value"] []
  F_23 : Fun G.K "_law_bump_rounds" "_law_bump_rounds" s_23 (fA 23) (fD 23)
  g_23 : mg "_law_bump_rounds" = some (.ref (fA 23))
  b_23 : Binds G.K (fD 23) ["n"] []
  F_24 : Fun G.K "_law_is_above" "_law_is_above" s_24 (fA 24) (fD 24)
  g_24 : mg "_law_is_above" = some (.ref (fA 24))
  b_24 : Binds G.K (fD 24) ["one", "other"] []
  F_25 : Fun G.K "_law_shifts" "_law_shifts" s_25 (fA 25) (fD 25)
  g_25 : mg "_law_shifts" = some (.ref (fA 25))
  b_25 : Binds G.K (fD 25) ["word"] []
  F_26 : Fun G.K "_law_is_greatest" "_law_is_greatest" s_26 (fA 26) (fD 26)
  g_26 : mg "_law_is_greatest" = some (.ref (fA 26))
  b_26 : Binds G.K (fD 26) ["word"] []
  F_27 : Fun G.K "_law_every" "_law_every" s_27 (fA 27) (fD 27)
  g_27 : mg "_law_every" = some (.ref (fA 27))
  b_27 : Binds G.K (fD 27) ["n"] []
  F_28 : Fun G.K "_law_count" "_law_count" s_28 (fA 28) (fD 28)
  g_28 : mg "_law_count" = some (.ref (fA 28))
  b_28 : Binds G.K (fD 28) ["n"] []
  F_29 : Fun G.K "_law_moebius" "_law_moebius" s_29 (fA 29) (fD 29)
  g_29 : mg "_law_moebius" = some (.ref (fA 29))
  b_29 : Binds G.K (fD 29) ["number"] []
  F_30 : Fun G.K "_law_two" "_law_two" s_30 (fA 30) (fD 30)
  g_30 : mg "_law_two" = some (.ref (fA 30))
  b_30 : Binds G.K (fD 30) ["many"] []
  F_31 : Fun G.K "_law_right" "_law_right" s_31 (fA 31) (fD 31)
  g_31 : mg "_law_right" = some (.ref (fA 31))
  b_31 : Binds G.K (fD 31) ["dice"] []
  F_32 : Fun G.K "law" "law" s_32 (fA 32) (fD 32)
  g_32 : mg "law" = some (.ref (fA 32))
  b_32 : Binds G.K (fD 32) ["script"] []
  c_FAR : ∃ t, mg "FAR" = some (.int (1000000000000000000000000000000000000000000000000000000000000) t)
  c_LEFT : ∃ t, mg "LEFT" = some (.str ("l" : Str) t)
  c_MOST_COUNTED : ∃ t, mg "MOST_COUNTED" = some (.int (200) t)
  c_MOST_LISTED : ∃ t, mg "MOST_LISTED" = some (.int (14) t)
  c_MOST_SIGNS : ∃ t, mg "MOST_SIGNS" = some (.int (24) t)
  c_RIGHT : ∃ t, mg "RIGHT" = some (.str ("r" : Str) t)
  c_TOP : ∃ t, mg "TOP" = some (.str ("c" : Str) t)
  c_PLACES : ∃ d, mg "PLACES" = some (.ref d) ∧ ∀ z i, T_PLACES.lookup z = some i → KDct G.K w d z (.int i)
  n_abs : mg "abs" = none
  n_all : mg "all" = none
  n_bool : mg "bool" = none
  n_int : mg "int" = none
  n_isinstance : mg "isinstance" = none
  n_len : mg "len" = none
  n_max : mg "max" = none
  n_min : mg "min" = none
  n_range : mg "range" = none
  n_repr : mg "repr" = none
  n_sorted : mg "sorted" = none
  n_str : mg "str" = none
  n_tuple : mg "tuple" = none
  n_zip : mg "zip" = none
section
variable {P : Program} {w : World} {mg : Str → Option Value} {base : Heap} {G : Gv} {fA : Nat → Addr} {fD : Nat → FuncData}
theorem ok_0 (T : Tx G mg fA fD w) : FnG P w G.K mg base 1 (fA 0) (fD 0) ["value"] (spD G 1 m_0) := by
  have nd := sc_0.nd
  refine def_ok (k := 0) T.F_0 sc_0 rfl fun E cd A outer s H B hB => ?_
  have hK := hB.gK
  have hu := hu65 hB.room
  exact
      ds_one (ds_ret (de_and hK (de_blt call_isi (den_isi hK) (by rfl) T.n_isinstance (by decide +kernel) (da_cons (de_var (pv 0)) (da_cons (de_ty (n := .int) (by rfl) T.n_int (by decide +kernel)) (da_nil)))) (de_one (de_not hK (de_blt call_isi (den_isi hK) (by rfl) T.n_isinstance (by decide +kernel) (da_cons (de_var (pv 0)) (da_cons (de_ty (n := .bool) (by rfl) T.n_bool (by decide +kernel)) (da_nil))))))))
theorem ok_1 (T : Tx G mg fA fD w) : FnG P w G.K mg base 2 (fA 1) (fD 1) ["value"] (spD G 1 m_1) := by
  have nd := sc_1.nd
  have O_0 : FnG P w G.K mg base 1 (fA 0) (fD 0) ["value"] (spD G 1 m_0) := ok_0 T
  refine def_ok (k := 1) T.F_1 sc_1 rfl fun E cd A outer s H B hB => ?_
  have hK := hB.gK
  have hu := hu65 hB.room
  exact
      ds_one (ds_ret (de_and hK (de_call ⟨hB.gK, hB.gf, hB.gc, hB.gn⟩ O_0 (hB.room.mono (by decide)) hB.gd (by rfl) T.g_0 T.F_0.kp T.b_0 hB.takes (len_cons (len_nil)) (da_cons (de_var (pv 0)) (da_nil))) (de_one (de_chain (opR_lt hu) (opR_lt hu) (den_lt hK) (den_lt hK) (de_neg (de_gi (by rfl) T.c_FAR)) (de_var (pv 0)) (de_gi (by rfl) T.c_FAR)))))
theorem ok_2 (T : Tx G mg fA fD w) : FnG P w G.K mg base 3 (fA 2) (fD 2) ["value", "least", "most"] (spD G 3 m_2) := by
  have nd := sc_2.nd
  have O_1 : FnG P w G.K mg base 2 (fA 1) (fD 1) ["value"] (spD G 1 m_1) := ok_1 T
  refine def_ok (k := 2) T.F_2 sc_2 rfl fun E cd A outer s H B hB => ?_
  have hK := hB.gK
  have hu := hu65 hB.room
  exact
      ds_one (ds_if (PW.pt (dw_or (dt_not (dt_truth hK (de_call ⟨hB.gK, hB.gf, hB.gc, hB.gn⟩ O_1 (hB.room.mono (by decide)) hB.gd (by rfl) T.g_1 T.F_1.kp T.b_1 hB.takes (len_cons (len_nil)) (da_cons (de_var (pv 0)) (da_nil))))) (dw_or (PW.pt (dw_and (dt_cmp op_notN den_notN (de_var (pv 1)) (de_non) (nomark _)) (dw_and1 (dt_cmp (opR_lt hu) (den_lt hK) (de_var (pv 0)) (de_var (pv 1)) (nomark _))))) (dw_or1 (PW.pt (dw_and (dt_cmp op_notN den_notN (de_var (pv 2)) (de_non) (nomark _)) (dw_and1 (dt_cmp (opR_gt2 hu) (den_gt2 hK) (de_var (pv 0)) (de_var (pv 2)) (nomark _))))))))) (ds_one (ds_never)) (ds_nil))
theorem ok_3 (T : Tx G mg fA fD w) : FnG P w G.K mg base 1 (fA 3) (fD 3) ["value"] (spD G 1 m_3) := by
  have nd := sc_3.nd
  refine def_ok (k := 0) T.F_3 sc_3 rfl fun E cd A outer s H B hB => ?_
  have hK := hB.gK
  have hu := hu65 hB.room
  exact
      ds_cons (ds_if (PW.pt (dw_or (dt_not (dt_truth hK (de_blt call_isi (den_isi hK) (by rfl) T.n_isinstance (by decide +kernel) (da_cons (de_var (pv 0)) (da_cons (de_ty (n := .str) (by rfl) T.n_str (by decide +kernel)) (da_nil)))))) (dw_or (dt_not (dt_chain op_le op_le den_le den_le (de_int) (de_blt call_lenA (den_len hK) (by rfl) T.n_len (by decide +kernel) (da_cons (de_var (pv 0)) (da_nil))) (de_gi (by rfl) T.c_MOST_SIGNS))) (dw_or1 (dt_cmp (opR_ne hu) (den_ne hK) (de_item hK (de_var (pv 0)) (de_neg (de_int)) (fun _ _ => rfl)) (de_gs (by rfl) T.c_TOP) (nomark _)))))) (ds_one (ds_ret (de_bl))) (ds_nil))
      (ds_one (ds_ret (de_blt (cr_all rfl) (den_all hK) (by rfl) T.n_all (by decide +kernel) (da_cons (de_lc (own := [("sign", 1)]) rfl nd (di_seq hK (de_slice hK (de_var (pv 0)) (do_none) (do_some (de_neg (de_int))))) (blkOk_by (N := ["value", "sign"]) (sc := defScope s_3) (own := [("sign", 1)]) (by decide +kernel)) (fun _ _ _ _ _ => dg_name (I := (· ∈ [1])) (by simp) (pg_name (i := 1) nd rfl (Or.inl rfl))) (fun _ _ _ _ _ => dts_nil) (fun _ _ _ _ _ => de_cmp (opR_in hu) (den_in hK) (de_var (pv 1)) (de_tup (da_cons (de_gs (by rfl) T.c_LEFT) (da_cons (de_gs (by rfl) T.c_RIGHT) (da_nil)))) (by rfl))) (da_nil)))))
theorem ok_4 (T : Tx G mg fA fD w) : FnG P w G.K mg base 1 (fA 4) (fD 4) ["signs"] (spD G 1 m_4) := by
  have nd := sc_4.nd
  obtain ⟨d_PLACES, g_PLACES, t_PLACES⟩ := T.c_PLACES
  refine def_ok (k := 0) T.F_4 sc_4 rfl fun E cd A outer s H B hB => ?_
  have hK := hB.gK
  have hu := hu65 hB.room
  exact
      ds_cons (ds_par (i := 1) (j := 2) (fun ta ha => ps_par rfl nd rfl rfl (by decide) rfl rfl ha (by rfl)) (da_cons (de_lst (da_nil)) (da_cons (de_int) (da_nil))))
      (ds_cons (ds_for hB.own rfl (di_seq hK (de_var (pv 0))) (dg_name (I := fun _ => True) trivial (pg_name (i := 3) nd rfl (Or.inl rfl))) (ds_cons (ds_expr (de_mth hK PySem.F.plainAttrs_list PySem.F.slot_list_append PySem.F.type_list_append mt_append den_append (de_var (pv 1)) (da_cons (de_mul hK (de_var (pv 2)) (de_kd (by rfl) g_PLACES t_PLACES (de_var (pv 3)) (fun _ _ => rfl))) (da_nil))))
      (ds_one (ds_if (dt_cmp (opR_eq hu) (den_eq hK) (de_var (pv 3)) (de_gs (by rfl) T.c_RIGHT) (nomark _)) (ds_one (ds_set (i := 2) (fun te he => ps_set (i := 2) nd rfl (Or.inl rfl) he) (de_neg (de_var (pv 2))))) (ds_nil)))))
      (ds_one (ds_ret (de_blty call_tupleF (den_tuple hK) (by rfl) T.n_tuple (by decide +kernel) (da_cons (de_var (pv 1)) (da_nil))))))
theorem ok_5 (T : Tx G mg fA fD w) : FnG P w G.K mg base 2 (fA 5) (fD 5) ["one", "other"] (spD G 2 m_5) := by
  have nd := sc_5.nd
  have O_4 : FnG P w G.K mg base 1 (fA 4) (fD 4) ["signs"] (spD G 1 m_4) := ok_4 T
  refine def_ok (k := 1) T.F_5 sc_5 rfl fun E cd A outer s H B hB => ?_
  have hK := hB.gK
  have hu := hu65 hB.room
  exact
      ds_cons (ds_par (i := 2) (j := 3) (fun ta ha => ps_par rfl nd rfl rfl (by decide) rfl rfl ha (by rfl)) (da_cons (de_call ⟨hB.gK, hB.gf, hB.gc, hB.gn⟩ O_4 (hB.room.mono (by decide)) hB.gd (by rfl) T.g_4 T.F_4.kp T.b_4 hB.takes (len_cons (len_nil)) (da_cons (de_var (pv 0)) (da_nil))) (da_cons (de_call ⟨hB.gK, hB.gf, hB.gc, hB.gn⟩ O_4 (hB.room.mono (by decide)) hB.gd (by rfl) T.g_4 T.F_4.kp T.b_4 hB.takes (len_cons (len_nil)) (da_cons (de_var (pv 1)) (da_nil))) (da_nil))))
      (ds_one (ds_ret (de_sub (de_blty call_int1 den_int1 (by rfl) T.n_int (by decide +kernel) (da_cons (de_cmp (opR_gt2 hu) (den_gt2 hK) (de_var (pv 2)) (de_var (pv 3)) (nomark _)) (da_nil))) (de_blty call_int1 den_int1 (by rfl) T.n_int (by decide +kernel) (da_cons (de_cmp (opR_lt hu) (den_lt hK) (de_var (pv 2)) (de_var (pv 3)) (nomark _)) (da_nil))))))
theorem ok_6 (T : Tx G mg fA fD w) : FnG P w G.K mg base 1 (fA 6) (fD 6) ["word", "i"] (spD G 2 m_6) := by
  have nd := sc_6.nd
  refine def_ok (k := 0) T.F_6 sc_6 rfl fun E cd A outer s H B hB => ?_
  have hK := hB.gK
  have hu := hu65 hB.room
  exact
      ds_one (ds_ret (de_add hK (de_slice hK (de_var (pv 0)) (do_some (de_var (pv 1))) (do_none)) (de_slice hK (de_var (pv 0)) (do_none) (do_some (de_var (pv 1))))))
theorem ok_7 (T : Tx G mg fA fD w) : FnG P w G.K mg base 3 (fA 7) (fD 7) ["word"] (spD G 1 m_7) := by
  have nd := sc_7.nd
  have O_5 : FnG P w G.K mg base 2 (fA 5) (fD 5) ["one", "other"] (spD G 2 m_5) := ok_5 T
  have O_6 : FnG P w G.K mg base 1 (fA 6) (fD 6) ["word", "i"] (spD G 2 m_6) := ok_6 T
  refine def_ok (k := 2) T.F_7 sc_7 rfl fun E cd A outer s H B hB => ?_
  have hK := hB.gK
  have hu := hu65 hB.room
  exact
      ds_cons (ds_for hB.own rfl (di_rng2 (by rfl) T.n_range (da_cons (de_int) (da_cons (de_blt call_lenA (den_len hK) (by rfl) T.n_len (by decide +kernel) (da_cons (de_var (pv 0)) (da_nil))) (da_nil))) (len_cons (len_cons (len_nil)))) (dg_name (I := fun _ => True) trivial (pg_name (i := 1) nd rfl (Or.inl rfl))) (ds_one (ds_if (dt_cmp (opR_gt2 hu) (den_gt2 hK) (de_call ⟨hB.gK, hB.gf, hB.gc, hB.gn⟩ O_5 (hB.room.mono (by decide)) hB.gd (by rfl) T.g_5 T.F_5.kp T.b_5 hB.takes (len_cons (len_cons (len_nil))) (da_cons (de_call ⟨hB.gK, hB.gf, hB.gc, hB.gn⟩ O_6 (hB.room.mono (by decide)) hB.gd (by rfl) T.g_6 T.F_6.kp T.b_6 hB.takes (len_cons (len_cons (len_nil))) (da_cons (de_var (pv 0)) (da_cons (de_var (pv 1)) (da_nil)))) (da_cons (de_var (pv 0)) (da_nil)))) (de_int) (nomark _)) (ds_one (ds_ret (de_var (pv 1)))) (ds_nil))))
      (ds_one (ds_ret (de_non)))
theorem ok_8 (T : Tx G mg fA fD w) : FnG P w G.K mg base 4 (fA 8) (fD 8) ["word"] (spD G 1 m_8) := by
  have nd := sc_8.nd
  have O_7 : FnG P w G.K mg base 3 (fA 7) (fD 7) ["word"] (spD G 1 m_7) := ok_7 T
  refine def_ok (k := 3) T.F_8 sc_8 rfl fun E cd A outer s H B hB => ?_
  have hK := hB.gK
  have hu := hu65 hB.room
  exact
      ds_one (ds_ret (de_cmp op_isN den_isN (de_call ⟨hB.gK, hB.gf, hB.gc, hB.gn⟩ O_7 (hB.room.mono (by decide)) hB.gd (by rfl) T.g_7 T.F_7.kp T.b_7 hB.takes (len_cons (len_nil)) (da_cons (de_var (pv 0)) (da_nil))) (de_non) (nomark _)))
theorem ok_9 (T : Tx G mg fA fD w) : FnG P w G.K mg base 1 (fA 9) (fD 9) ["n"] (spD G 1 m_9) := by
  have nd := sc_9.nd
  refine def_ok (k := 0) T.F_9 sc_9 rfl fun E cd A outer s H B hB => ?_
  have hK := hB.gK
  have hu := hu65 hB.room
  exact
      ds_cons (ds_set (i := 1) (fun te he => ps_set (i := 1) nd rfl (Or.inl rfl) he) (de_lst (da_cons (de_str) (da_nil))))
      (ds_cons (ds_for hB.own rfl (di_rng1 (by rfl) T.n_range (da_cons (de_sub (de_var (pv 0)) (de_int)) (da_nil)) rfl (len_cons (len_nil))) (dg_name (I := fun _ => True) trivial (pg_name (i := 2) nd rfl (Or.inl rfl))) (ds_one (ds_setLc2 (i := 1) (own := [("row", 3), ("sign", 4)]) (vs1 := [4]) rfl nd rfl rfl (sw_true rfl rfl rfl (by decide +kernel)) (di_seq hK (de_var (pv 1))) (blkOk_by (N := ["n", "found", "turn", "row", "sign"]) (sc := defScope s_9) (own := [("row", 3), ("sign", 4)]) (by decide +kernel)) (by simp) (fun _ _ _ _ _ => dg_name (I := (· ∈ [3, 4])) (by simp) (pg_name (i := 3) nd rfl (Or.inl rfl))) (fun _ _ _ _ _ => dts_nil) (fun _ _ _ _ _ => di_seq hK (de_tup (da_cons (de_gs (by rfl) T.c_LEFT) (da_cons (de_gs (by rfl) T.c_RIGHT) (da_nil))))) (fun _ _ _ _ _ => dg_name (I := (· ∈ [4])) (by simp) (pg_name (i := 4) nd rfl (Or.inl rfl))) (fun _ _ _ _ _ => dts_nil) (fun _ _ _ _ _ => de_add hK (de_var (pv 3)) (de_var (pv 4))))))
      (ds_one (ds_ret (de_lc (own := [("row", 3)]) rfl nd (di_seq hK (de_var (pv 1))) (blkOk_by (N := ["n", "found", "turn", "row", "sign"]) (sc := defScope s_9) (own := [("row", 3)]) (by decide +kernel)) (fun _ _ _ _ _ => dg_name (I := (· ∈ [3])) (by simp) (pg_name (i := 3) nd rfl (Or.inl rfl))) (fun _ _ _ _ _ => dts_nil) (fun _ _ _ _ _ => de_add hK (de_var (pv 3)) (de_gs (by rfl) T.c_TOP))))))
theorem ok_10 (T : Tx G mg fA fD w) : FnG P w G.K mg base 7 (fA 10) (fD 10) ["n"] (spD G 1 m_10) := by
  have nd := sc_10.nd
  have O_4 : FnG P w G.K mg base 1 (fA 4) (fD 4) ["signs"] (spD G 1 m_4) := ok_4 T
  have O_8 : FnG P w G.K mg base 4 (fA 8) (fD 8) ["word"] (spD G 1 m_8) := ok_8 T
  have O_9 : FnG P w G.K mg base 1 (fA 9) (fD 9) ["n"] (spD G 1 m_9) := ok_9 T
  refine def_ok (k := 6) T.F_10 sc_10 rfl fun E cd A outer s H B hB => ?_
  have hK := hB.gK
  have hu := hu65 hB.room
  exact
      ds_one (ds_ret (de_kt <| de_sortK ⟨hB.gK, hB.gf, hB.gc, hB.gn⟩ hK O_4 (hB.room.mono (by decide)) hB.gd (by rfl) T.n_sorted (by rfl) T.g_4 T.b_4 (da_cons (de_lc (own := [("word", 1)]) rfl nd (di_seq hK (de_call ⟨hB.gK, hB.gf, hB.gc, hB.gn⟩ O_9 (hB.room.mono (by decide)) hB.gd (by rfl) T.g_9 T.F_9.kp T.b_9 hB.takes (len_cons (len_nil)) (da_cons (de_var (pv 0)) (da_nil)))) (blkOk_by (N := ["n", "word"]) (sc := defScope s_10) (own := [("word", 1)]) (by decide +kernel)) (fun _ _ _ _ _ => dg_name (I := (· ∈ [1])) (by simp) (pg_name (i := 1) nd rfl (Or.inl rfl))) (fun _ _ _ _ _ => dts_one (dt_truth hK (de_call ⟨hB.gK, hB.gf, hB.gc, hB.gn⟩ O_8 (hB.room.mono (by decide)) hB.gd (by rfl) T.g_8 T.F_8.kp T.b_8 L2.takes0 (len_cons (len_nil)) (da_cons (de_var (pv 1)) (da_nil))))) (fun _ _ _ _ _ => de_var (pv 1))) (da_nil))))
theorem ok_11 (T : Tx G mg fA fD w) : FnG P w G.K mg base 1 (fA 11) (fD 11) ["number"] (spD G 1 m_11) := by
  have nd := sc_11.nd
  refine def_ok (k := 0) T.F_11 sc_11 rfl fun E cd A outer s H B hB => ?_
  have hK := hB.gK
  have hu := hu65 hB.room
  exact
      ds_cons (ds_asg (de_tup (da_cons (de_int) (da_cons (de_int) (da_nil)))) (dg_tup hK rfl (dgs_cons (dg_name (I := fun _ => True) trivial (pg_name (i := 1) nd rfl (Or.inl rfl))) (dgs_cons (dg_name (I := fun _ => True) trivial (pg_name (i := 2) nd rfl (Or.inl rfl))) (dgs_nil)))))
      (ds_cons (ds_while hB.own (dt_cmp (opR_gt2 hu) (den_gt2 hK) (de_var (pv 0)) (de_int) (nomark _)) (ds_cons (ds_if (dt_cmp (opR_eq hu) (den_eq hK) (de_mod (de_var (pv 0)) (de_var (pv 2))) (de_int) (nomark _)) (ds_cons (ds_aug (fun te he => ps_aug (i := 0) nd rfl (Or.inl rfl) he ip_fdiv) den_ipfdiv (de_var (pv 2)))
      (ds_cons (ds_if (dt_cmp (opR_eq hu) (den_eq hK) (de_mod (de_var (pv 0)) (de_var (pv 2))) (de_int) (nomark _)) (ds_one (ds_ret (de_int))) (ds_nil))
      (ds_one (ds_set (i := 1) (fun te he => ps_set (i := 1) nd rfl (Or.inl rfl) he) (de_neg (de_var (pv 1))))))) (ds_nil))
      (ds_one (ds_aug (fun te he => ps_aug (i := 2) nd rfl (Or.inl rfl) he ip_add) den_ipadd (de_int)))))
      (ds_one (ds_ret (de_var (pv 1)))))
theorem ok_12 (T : Tx G mg fA fD w) : FnG P w G.K mg base 2 (fA 12) (fD 12) ["n"] (spD G 1 m_12) := by
  have nd := sc_12.nd
  have O_11 : FnG P w G.K mg base 1 (fA 11) (fD 11) ["number"] (spD G 1 m_11) := ok_11 T
  refine def_ok (k := 1) T.F_12 sc_12 rfl fun E cd A outer s H B hB => ?_
  have hK := hB.gK
  have hu := hu65 hB.room
  exact
      ds_cons (ds_set (i := 1) (fun te he => ps_set (i := 1) nd rfl (Or.inl rfl) he) (de_int))
      (ds_cons (ds_for hB.own rfl (di_rng3 (by rfl) T.n_range (da_cons (de_int) (da_cons (de_add hK (de_var (pv 0)) (de_int)) (da_cons (de_int) (da_nil))))) (dg_name (I := fun _ => True) trivial (pg_name (i := 2) nd rfl (Or.inl rfl))) (ds_one (ds_if (dt_cmp (opR_eq hu) (den_eq hK) (de_mod (de_var (pv 0)) (de_var (pv 2))) (de_int) (nomark _)) (ds_one (ds_aug (fun te he => ps_aug (i := 1) nd rfl (Or.inl rfl) he ip_add) den_ipadd (de_mul hK (de_call ⟨hB.gK, hB.gf, hB.gc, hB.gn⟩ O_11 (hB.room.mono (by decide)) hB.gd (by rfl) T.g_11 T.F_11.kp T.b_11 hB.takes (len_cons (len_nil)) (da_cons (de_var (pv 2)) (da_nil))) (de_shl (de_int) (de_fdiv (de_var (pv 0)) (de_var (pv 2))))))) (ds_nil))))
      (ds_one (ds_ret (de_fdiv (de_var (pv 1)) (de_mul hK (de_int) (de_var (pv 0)))))))
theorem ok_13 (T : Tx G mg fA fD w) : FnG P w G.K mg base 2 (fA 13) (fD 13) ["value"] (spD G 1 m_13) := by
  have nd := sc_13.nd
  have O_3 : FnG P w G.K mg base 1 (fA 3) (fD 3) ["value"] (spD G 1 m_3) := ok_3 T
  refine def_ok (k := 1) T.F_13 sc_13 rfl fun E cd A outer s H B hB => ?_
  have hK := hB.gK
  have hu := hu65 hB.room
  exact
      ds_one (ds_if (dt_not (dt_truth hK (de_call ⟨hB.gK, hB.gf, hB.gc, hB.gn⟩ O_3 (hB.room.mono (by decide)) hB.gd (by rfl) T.g_3 T.F_3.kp T.b_3 hB.takes (len_cons (len_nil)) (da_cons (de_var (pv 0)) (da_nil))))) (ds_one (ds_never)) (ds_nil))
theorem ok_14 (T : Tx G mg fA fD w) : FnG P w G.K mg base 3 (fA 14) (fD 14) ["word", "other"] (spD G 2 m_14) := by
  have nd := sc_14.nd
  have O_13 : FnG P w G.K mg base 2 (fA 13) (fD 13) ["value"] (spD G 1 m_13) := ok_13 T
  refine def_ok (k := 2) T.F_14 sc_14 rfl fun E cd A outer s H B hB => ?_
  have hK := hB.gK
  have hu := hu65 hB.room
  exact
      ds_cons (ds_expr (de_call ⟨hB.gK, hB.gf, hB.gc, hB.gn⟩ O_13 (hB.room.mono (by decide)) hB.gd (by rfl) T.g_13 T.F_13.kp T.b_13 hB.takes (len_cons (len_nil)) (da_cons (de_var (pv 0)) (da_nil))))
      (ds_one (ds_expr (de_call ⟨hB.gK, hB.gf, hB.gc, hB.gn⟩ O_13 (hB.room.mono (by decide)) hB.gd (by rfl) T.g_13 T.F_13.kp T.b_13 hB.takes (len_cons (len_nil)) (da_cons (de_var (pv 1)) (da_nil)))))
theorem ok_15 (T : Tx G mg fA fD w) : FnG P w G.K mg base 4 (fA 15) (fD 15) ["word", "other"] (spD G 2 m_15) := by
  have nd := sc_15.nd
  have O_5 : FnG P w G.K mg base 2 (fA 5) (fD 5) ["one", "other"] (spD G 2 m_5) := ok_5 T
  have O_14 : FnG P w G.K mg base 3 (fA 14) (fD 14) ["word", "other"] (spD G 2 m_14) := ok_14 T
  refine def_ok (k := 3) T.F_15 sc_15 rfl fun E cd A outer s H B hB => ?_
  have hK := hB.gK
  have hu := hu65 hB.room
  exact
      ds_cons (ds_expr (de_call ⟨hB.gK, hB.gf, hB.gc, hB.gn⟩ O_14 (hB.room.mono (by decide)) hB.gd (by rfl) T.g_14 T.F_14.kp T.b_14 hB.takes (len_cons (len_cons (len_nil))) (da_cons (de_var (pv 0)) (da_cons (de_var (pv 1)) (da_nil)))))
      (ds_one (ds_ret (de_cmp (opR_gt2 hu) (den_gt2 hK) (de_call ⟨hB.gK, hB.gf, hB.gc, hB.gn⟩ O_5 (hB.room.mono (by decide)) hB.gd (by rfl) T.g_5 T.F_5.kp T.b_5 hB.takes (len_cons (len_cons (len_nil))) (da_cons (de_var (pv 0)) (da_cons (de_var (pv 1)) (da_nil)))) (de_int) (nomark _))))
theorem ok_16 (T : Tx G mg fA fD w) : FnG P w G.K mg base 8 (fA 16) (fD 16) ["n"] (spD G 1 m_16) := by
  have nd := sc_16.nd
  have O_2 : FnG P w G.K mg base 3 (fA 2) (fD 2) ["value", "least", "most"] (spD G 3 m_2) := ok_2 T
  have O_10 : FnG P w G.K mg base 7 (fA 10) (fD 10) ["n"] (spD G 1 m_10) := ok_10 T
  refine def_ok (k := 7) T.F_16 sc_16 rfl fun E cd A outer s H B hB => ?_
  have hK := hB.gK
  have hu := hu65 hB.room
  exact
      ds_cons (ds_expr (de_call ⟨hB.gK, hB.gf, hB.gc, hB.gn⟩ O_2 (hB.room.mono (by decide)) hB.gd (by rfl) T.g_2 T.F_2.kp T.b_2 hB.takes (len_cons (len_cons (len_cons (len_nil)))) (da_cons (de_var (pv 0)) (da_cons (de_int) (da_cons (de_gi (by rfl) T.c_MOST_LISTED) (da_nil))))))
      (ds_one (ds_ret (de_blty call_tupleF (den_tuple hK) (by rfl) T.n_tuple (by decide +kernel) (da_cons (de_call ⟨hB.gK, hB.gf, hB.gc, hB.gn⟩ O_10 (hB.room.mono (by decide)) hB.gd (by rfl) T.g_10 T.F_10.kp T.b_10 hB.takes (len_cons (len_nil)) (da_cons (de_var (pv 0)) (da_nil))) (da_nil)))))
theorem ok_17 (T : Tx G mg fA fD w) : FnG P w G.K mg base 4 (fA 17) (fD 17) ["n"] (spD G 1 m_17) := by
  have nd := sc_17.nd
  have O_2 : FnG P w G.K mg base 3 (fA 2) (fD 2) ["value", "least", "most"] (spD G 3 m_2) := ok_2 T
  have O_12 : FnG P w G.K mg base 2 (fA 12) (fD 12) ["n"] (spD G 1 m_12) := ok_12 T
  refine def_ok (k := 3) T.F_17 sc_17 rfl fun E cd A outer s H B hB => ?_
  have hK := hB.gK
  have hu := hu65 hB.room
  exact
      ds_cons (ds_expr (de_call ⟨hB.gK, hB.gf, hB.gc, hB.gn⟩ O_2 (hB.room.mono (by decide)) hB.gd (by rfl) T.g_2 T.F_2.kp T.b_2 hB.takes (len_cons (len_cons (len_cons (len_nil)))) (da_cons (de_var (pv 0)) (da_cons (de_int) (da_cons (de_gi (by rfl) T.c_MOST_COUNTED) (da_nil))))))
      (ds_one (ds_ret (de_call ⟨hB.gK, hB.gf, hB.gc, hB.gn⟩ O_12 (hB.room.mono (by decide)) hB.gd (by rfl) T.g_12 T.F_12.kp T.b_12 hB.takes (len_cons (len_nil)) (da_cons (de_var (pv 0)) (da_nil)))))
theorem ok_18 (T : Tx G mg fA fD w) : FnG P w G.K mg base 1 (fA 18) (fD 18) ["script", "spot"] (spD G 2 m_18) := by
  have nd := sc_18.nd
  refine def_ok (k := 0) T.F_18 sc_18 rfl fun E cd A outer s H B hB => ?_
  have hK := hB.gK
  have hu := hu65 hB.room
  exact
      ds_cons (ds_set (i := 2) (fun te he => ps_set (i := 2) nd rfl (Or.inl rfl) he) (de_if (dt_cmp (opR_lt hu) (den_lt hK) (de_var (pv 1)) (de_blt call_lenA (den_len hK) (by rfl) T.n_len (by decide +kernel) (da_cons (de_var (pv 0)) (da_nil))) (nomark _)) (de_blty call_int1 den_int1 (by rfl) T.n_int (by decide +kernel) (da_cons (de_item hK (de_var (pv 0)) (de_var (pv 1)) (fun _ _ => rfl)) (da_nil))) (de_add hK (de_mul hK (de_int) (de_var (pv 1))) (de_int))))
      (ds_cons (ds_set (i := 3) (fun te he => ps_set (i := 3) nd rfl (Or.inl rfl) he) (de_mod (de_blt (call_max2 rfl) den_max2 (by rfl) T.n_max (by decide +kernel) (da_cons (de_int) (da_cons (de_sub (de_blt call_abs den_abs (by rfl) T.n_abs (by decide +kernel) (da_cons (de_var (pv 2)) (da_nil))) (de_pow (de_int) (de_int))) (da_nil)))) (de_mul hK (de_pow (de_int) (de_int)) (de_pow (de_int) (de_int)))))
      (ds_one (ds_ret (de_lst (da_cons (de_var (pv 3)) (da_cons (de_add hK (de_add hK (de_add hK (de_mul hK (de_mod (de_blt call_abs den_abs (by rfl) T.n_abs (by decide +kernel) (da_cons (de_var (pv 2)) (da_nil))) (de_int)) (de_int)) (de_mul hK (de_int) (de_var (pv 1)))) (de_mul hK (de_int) (de_blty call_int1 den_int1 (by rfl) T.n_int (by decide +kernel) (da_cons (de_cmp (opR_lt hu) (den_lt hK) (de_var (pv 2)) (de_int) (nomark _)) (da_nil))))) (de_int)) (da_cons (de_int) (da_nil))))))))
theorem ok_19 (T : Tx G mg fA fD w) : FnG P w G.K mg base 1 (fA 19) (fD 19) ["dice", "total"] (spD G 2 m_19) := by
  have nd := sc_19.nd
  refine def_ok (k := 0) T.F_19 sc_19 rfl fun E cd A outer s H B hB => ?_
  have hK := hB.gK
  have hu := hu65 hB.room
  exact
      ds_cons (ds_if (dt_cmp (opR_gt2 hu) (den_gt2 hK) (de_item hK (de_var (pv 0)) (de_int) (fun _ _ => rfl)) (de_int) (nomark _)) (ds_cons (ds_set (i := 2) (fun te he => ps_set (i := 2) nd rfl (Or.inl rfl) he) (de_mod (de_blty call_int1 den_int1 (by rfl) T.n_int (by decide +kernel) (da_cons (de_item hK (de_var (pv 0)) (de_int) (fun _ _ => rfl)) (da_nil))) (de_var (pv 1))))
      (ds_cons (ds_asg (de_fdiv (de_item hK (de_var (pv 0)) (de_int) (fun _ _ => rfl)) (de_var (pv 1))) (dg_sub (I := fun _ => True) (de_var (pv 0)) (de_int)))
      (ds_one (ds_ret (de_var (pv 2)))))) (ds_nil))
      (ds_cons (ds_asg (de_add hK (de_item hK (de_var (pv 0)) (de_int) (fun _ _ => rfl)) (de_int)) (dg_sub (I := fun _ => True) (de_var (pv 0)) (de_int)))
      (ds_cons (ds_set (i := 3) (fun te he => ps_set (i := 3) nd rfl (Or.inl rfl) he) (de_mod (de_blty call_int1 den_int1 (by rfl) T.n_int (by decide +kernel) (da_cons (de_add hK (de_item hK (de_var (pv 0)) (de_int) (fun _ _ => rfl)) (de_mul hK (de_int) (de_item hK (de_var (pv 0)) (de_int) (fun _ _ => rfl)))) (da_nil))) (de_int)))
      (ds_cons (ds_set (i := 4) (fun te he => ps_set (i := 4) nd rfl (Or.inl rfl) he) (de_add hK (de_mul hK (de_mod (de_blty call_int1 den_int1 (by rfl) T.n_int (by decide +kernel) (da_cons (de_add hK (de_mul hK (de_var (pv 3)) (de_var (pv 3))) (de_mul hK (de_int) (de_item hK (de_var (pv 0)) (de_int) (fun _ _ => rfl)))) (da_nil))) (de_int)) (de_int)) (de_var (pv 3))))
      (ds_one (ds_ret (de_mod (de_blty call_int1 den_int1 (by rfl) T.n_int (by decide +kernel) (da_cons (de_fdiv (de_var (pv 4)) (de_int)) (da_nil))) (de_var (pv 1))))))))
theorem ok_20 (T : Tx G mg fA fD w) : FnG P w G.K mg base 1 (fA 20) (fD 20) ["value", "least", "most"] (spD G 3 m_20) := by
  have nd := sc_20.nd
  refine def_ok (k := 0) T.F_20 sc_20 rfl fun E cd A outer s H B hB => ?_
  have hK := hB.gK
  have hu := hu65 hB.room
  exact
      ds_one (ds_ret (de_and hK (de_blt call_isi (den_isi hK) (by rfl) T.n_isinstance (by decide +kernel) (da_cons (de_var (pv 0)) (da_cons (de_ty (n := .int) (by rfl) T.n_int (by decide +kernel)) (da_nil)))) (de_and hK (de_not hK (de_blt call_isi (den_isi hK) (by rfl) T.n_isinstance (by decide +kernel) (da_cons (de_var (pv 0)) (da_cons (de_ty (n := .bool) (by rfl) T.n_bool (by decide +kernel)) (da_nil))))) (de_one (de_chain op_le op_le den_le den_le (de_var (pv 1)) (de_var (pv 0)) (de_var (pv 2)))))))
theorem ok_21 (T : Tx G mg fA fD w) : FnG P w G.K mg base 2 (fA 21) (fD 21) ["value"] (spD G 1 m_21) := by
  have nd := sc_21.nd
  have O_20 : FnG P w G.K mg base 1 (fA 20) (fD 20) ["value", "least", "most"] (spD G 3 m_20) := ok_20 T
  refine def_ok (k := 1) T.F_21 sc_21 rfl fun E cd A outer s H B hB => ?_
  have hK := hB.gK
  have hu := hu65 hB.room
  exact
      ds_cons (ds_if (PW.pt (dw_or (dt_not (dt_truth hK (de_blt call_isi (den_isi hK) (by rfl) T.n_isinstance (by decide +kernel) (da_cons (de_var (pv 0)) (da_cons (de_ty (n := .tuple) (by rfl) T.n_tuple (by decide +kernel)) (da_nil)))))) (dw_or1 (dt_not (dt_chain op_le op_le den_le den_le (de_int) (de_blt call_lenA (den_len hK) (by rfl) T.n_len (by decide +kernel) (da_cons (de_var (pv 0)) (da_nil))) (de_int)))))) (ds_one (ds_ret (de_bl))) (ds_nil))
      (ds_one (ds_ret (de_cmp (opR_eq hu) (den_eq hK) (de_lc (own := [("one", 1)]) rfl nd (di_seq hK (de_var (pv 0))) (blkOk_by (N := ["value", "one"]) (sc := defScope s_21) (own := [("one", 1)]) (by decide +kernel)) (fun _ _ _ _ _ => dg_name (I := (· ∈ [1])) (by simp) (pg_name (i := 1) nd rfl (Or.inl rfl))) (fun _ _ _ _ _ => dts_one (dt_not (dt_truth hK (de_call ⟨hB.gK, hB.gf, hB.gc, hB.gn⟩ O_20 (hB.room.mono (by decide)) hB.gd (by rfl) T.g_20 T.F_20.kp T.b_20 L2.takes0 (len_cons (len_cons (len_cons (len_nil)))) (da_cons (de_var (pv 1)) (da_cons (de_int) (da_cons (de_sub (de_blt call_lenA (den_len hK) (by rfl) T.n_len (by decide +kernel) (da_cons (de_var (pv 0)) (da_nil))) (de_int)) (da_nil)))))))) (fun _ _ _ _ _ => de_var (pv 1))) (de_lst (da_nil)) (nomark _))))
theorem ok_22 (T : Tx G mg fA fD w) : FnG P w G.K mg base 3 (fA 22) (fD 22) ["value"] (spD G 1 m_22) := by
  have nd := sc_22.nd
  have O_21 : FnG P w G.K mg base 2 (fA 21) (fD 21) ["value"] (spD G 1 m_21) := ok_21 T
  refine def_ok (k := 2) T.F_22 sc_22 rfl fun E cd A outer s H B hB => ?_
  have hK := hB.gK
  have hu := hu65 hB.room
  exact
      ds_cons (ds_if (dt_not (dt_truth hK (de_call ⟨hB.gK, hB.gf, hB.gc, hB.gn⟩ O_21 (hB.room.mono (by decide)) hB.gd (by rfl) T.g_21 T.F_21.kp T.b_21 hB.takes (len_cons (len_nil)) (da_cons (de_var (pv 0)) (da_nil))))) (ds_one (ds_ret (de_bl))) (ds_nil))
      (ds_cons (ds_par (i := 1) (j := 2) (fun ta ha => ps_par rfl nd rfl rfl (by decide) rfl rfl ha (by rfl)) (da_cons (de_lst (da_nil)) (da_cons (de_int) (da_nil))))
      (ds_cons (ds_while hB.own (dt_cmp (opR_notIn hu) (den_notIn hK) (de_var (pv 2)) (de_var (pv 1)) (by rfl)) (ds_cons (ds_expr (de_mth hK PySem.F.plainAttrs_list PySem.F.slot_list_append PySem.F.type_list_append mt_append den_append (de_var (pv 1)) (da_cons (de_var (pv 2)) (da_nil))))
      (ds_one (ds_set (i := 2) (fun te he => ps_set (i := 2) nd rfl (Or.inl rfl) he) (de_item hK (de_var (pv 0)) (de_var (pv 2)) (fun _ _ => rfl))))))
      (ds_one (ds_ret (de_and hK (de_cmp (opR_eq hu) (den_eq hK) (de_blt call_lenA (den_len hK) (by rfl) T.n_len (by decide +kernel) (da_cons (de_var (pv 1)) (da_nil))) (de_blt call_lenA (den_len hK) (by rfl) T.n_len (by decide +kernel) (da_cons (de_var (pv 0)) (da_nil))) (nomark _)) (de_one (de_cmp (opR_eq hu) (den_eq hK) (de_var (pv 2)) (de_int) (nomark _))))))))
theorem ok_23 (T : Tx G mg fA fD w) : FnG P w G.K mg base 4 (fA 23) (fD 23) ["n"] (spD G 1 m_23) := by
  have nd := sc_23.nd
  have O_22 : FnG P w G.K mg base 3 (fA 22) (fD 22) ["value"] (spD G 1 m_22) := ok_22 T
  refine def_ok (k := 3) T.F_23 sc_23 rfl fun E cd A outer s H B hB => ?_
  have hK := hB.gK
  have hu := hu65 hB.room
  exact
      ds_cons (ds_set (i := 1) (fun te he => ps_set (i := 1) nd rfl (Or.inl rfl) he) (de_lst (da_nil)))
      (ds_cons (ds_for hB.own rfl (di_rng2 (by rfl) T.n_range (da_cons (de_int) (da_cons (de_sub (de_var (pv 0)) (de_int)) (da_nil))) (len_cons (len_cons (len_nil)))) (dg_name (I := fun _ => True) trivial (pg_name (i := 2) nd rfl (Or.inr rfl))) (ds_cons (ds_set (i := 3) (fun te he => ps_set (i := 3) nd rfl (Or.inl rfl) he) (de_lst (da_cons (de_tup (da_nil)) (da_nil))))
      (ds_cons (ds_for hB.own rfl (di_rng1 (by rfl) T.n_range (da_cons (de_sub (de_var (pv 0)) (de_int)) (da_nil)) rfl (len_cons (len_nil))) (dg_name (I := fun _ => True) trivial (pg_name (i := 4) nd rfl (Or.inl rfl))) (ds_cons (ds_set (i := 5) (fun te he => ps_set (i := 5) nd rfl (Or.inl rfl) he) (de_lst (da_nil)))
      (ds_cons (ds_for hB.own rfl (di_seq hK (de_var (pv 3))) (dg_name (I := fun _ => True) trivial (pg_name (i := 6) nd rfl (Or.inr rfl))) (ds_one (ds_expr (de_mth hK PySem.F.plainAttrs_list PySem.F.slot_list_extend PySem.F.type_list_extend mt_extend den_extend (de_var (pv 5)) (da_cons (de_lc (own := [("side", 7)]) rfl nd (di_seq hK (de_tup (da_cons (de_int) (da_cons (de_int) (da_nil))))) (blkOk_by (N := ["n", "found", "top", "rows", "at", "later", "row", "side", "left", "right", "line"]) (sc := defScope s_23) (own := [("side", 7)]) (by decide +kernel)) (fun _ _ _ _ _ => dg_name (I := (· ∈ [7])) (by simp) (pg_name (i := 7) nd rfl (Or.inl rfl))) (fun _ _ _ _ _ => dts_one (dt_cmp (opR_lt hu) (den_lt hK) (de_mthT hK PySem.F.slot_tuple_count PySem.F.type_tuple_count (mt_count hu) (den_count hK) (de_var (pv 6)) (da_cons (de_var (pv 7)) (da_nil))) (de_item hK (de_lst (da_cons (de_var (pv 2)) (da_cons (de_sub (de_sub (de_var (pv 0)) (de_int)) (de_var (pv 2))) (da_nil)))) (de_var (pv 7)) (fun _ _ => rfl)) (nomark _))) (fun _ _ _ _ _ => de_add hK (de_var (pv 6)) (de_tup (da_cons (de_var (pv 7)) (da_nil))))) (da_nil))))))
      (ds_one (ds_set (i := 3) (fun te he => ps_set (i := 3) nd rfl (Or.inl rfl) he) (de_var (pv 5)))))))
      (ds_one (ds_for hB.own rfl (di_seq hK (de_var (pv 3))) (dg_name (I := fun _ => True) trivial (pg_name (i := 6) nd rfl (Or.inr rfl))) (ds_cons (ds_setLc (i := 8) (own := [("at", 4)]) rfl nd rfl rfl (sw_true rfl rfl rfl (by decide +kernel)) (di_rng1 (by rfl) T.n_range (da_cons (de_sub (de_var (pv 0)) (de_int)) (da_nil)) rfl (len_cons (len_nil))) (blkOk_by (N := ["n", "found", "top", "rows", "at", "later", "row", "side", "left", "right", "line"]) (sc := defScope s_23) (own := [("at", 4)]) (by decide +kernel)) (fun _ _ _ _ _ => dg_name (I := (· ∈ [4])) (by simp) (pg_name (i := 4) nd rfl (Or.inl rfl))) (fun _ _ _ _ _ => dts_one (dt_cmp (opR_eq hu) (den_eq hK) (de_item hK (de_var (pv 6)) (de_var (pv 4)) (fun _ _ => rfl)) (de_int) (nomark _))) (fun _ _ _ _ _ => de_var (pv 4)))
      (ds_cons (ds_setLc (i := 9) (own := [("at", 4)]) rfl nd rfl rfl (sw_true rfl rfl rfl (by decide +kernel)) (di_rng1 (by rfl) T.n_range (da_cons (de_sub (de_var (pv 0)) (de_int)) (da_nil)) rfl (len_cons (len_nil))) (blkOk_by (N := ["n", "found", "top", "rows", "at", "later", "row", "side", "left", "right", "line"]) (sc := defScope s_23) (own := [("at", 4)]) (by decide +kernel)) (fun _ _ _ _ _ => dg_name (I := (· ∈ [4])) (by simp) (pg_name (i := 4) nd rfl (Or.inl rfl))) (fun _ _ _ _ _ => dts_one (dt_cmp (opR_eq hu) (den_eq hK) (de_item hK (de_var (pv 6)) (de_var (pv 4)) (fun _ _ => rfl)) (de_int) (nomark _))) (fun _ _ _ _ _ => de_var (pv 4)))
      (ds_cons (ds_set (i := 10) (fun te he => ps_set (i := 10) nd rfl (Or.inl rfl) he) (de_blty call_tupleF (den_tuple hK) (by rfl) T.n_tuple (by decide +kernel) (da_cons (de_add hK (de_add hK (de_var (pv 8)) (de_lst (da_cons (de_sub (de_var (pv 0)) (de_int)) (da_nil)))) (de_rev hK (de_var (pv 9)))) (da_nil))))
      (ds_one (ds_if (dt_truth hK (de_call ⟨hB.gK, hB.gf, hB.gc, hB.gn⟩ O_22 (hB.room.mono (by decide)) hB.gd (by rfl) T.g_22 T.F_22.kp T.b_22 hB.takes (len_cons (len_nil)) (da_cons (de_var (pv 10)) (da_nil)))) (ds_one (ds_expr (de_mth hK PySem.F.plainAttrs_list PySem.F.slot_list_append PySem.F.type_list_append mt_append den_append (de_var (pv 1)) (da_cons (de_var (pv 10)) (da_nil))))) (ds_nil)))))))))))
      (ds_one (ds_ret (de_blt (call_sortAll rfl) (den_sortT hB.room hK) (by rfl) T.n_sorted (by decide +kernel) (da_cons (de_var (pv 1)) (da_nil))))))
theorem ok_24 (T : Tx G mg fA fD w) : FnG P w G.K mg base 1 (fA 24) (fD 24) ["one", "other"] (spD G 2 m_24) := by
  have nd := sc_24.nd
  refine def_ok (k := 0) T.F_24 sc_24 rfl fun E cd A outer s H B hB => ?_
  have hK := hB.gK
  have hu := hu65 hB.room
  exact
      ds_cons (ds_set (i := 2) (fun te he => ps_set (i := 2) nd rfl (Or.inl rfl) he) (de_bl))
      (ds_cons (ds_for hB.own rfl (di_zipA hK (by rfl) T.n_zip (da_cons (de_var (pv 0)) (da_cons (de_var (pv 1)) (da_nil)))) (dg_tup hK rfl (dgs_cons (dg_name (I := fun _ => True) trivial (pg_name (i := 3) nd rfl (Or.inl rfl))) (dgs_cons (dg_name (I := fun _ => True) trivial (pg_name (i := 4) nd rfl (Or.inl rfl))) (dgs_nil)))) (ds_cons (ds_if (dt_cmp (opR_ne hu) (den_ne hK) (de_var (pv 3)) (de_var (pv 4)) (nomark _)) (ds_one (ds_ret (de_cmp (opR_ne hu) (den_ne hK) (de_cmp (opR_gt2 hu) (den_gt2 hK) (de_mth hK PySem.F.plainAttrs_list PySem.F.slot_list_index PySem.F.type_list_index (mt_indexD hu) (den_index hK) (de_lst (da_cons (de_str) (da_cons (de_str) (da_cons (de_str) (da_nil))))) (da_cons (de_var (pv 3)) (da_nil))) (de_mth hK PySem.F.plainAttrs_list PySem.F.slot_list_index PySem.F.type_list_index (mt_indexD hu) (den_index hK) (de_lst (da_cons (de_str) (da_cons (de_str) (da_cons (de_str) (da_nil))))) (da_cons (de_var (pv 4)) (da_nil))) (nomark _)) (de_var (pv 2)) (nomark _)))) (ds_nil))
      (ds_one (ds_set (i := 2) (fun te he => ps_set (i := 2) nd rfl (Or.inl rfl) he) (de_cmp (opR_ne hu) (den_ne hK) (de_var (pv 2)) (de_cmp (opR_eq hu) (den_eq hK) (de_var (pv 3)) (de_str) (nomark _)) (nomark _))))))
      (ds_one (ds_ret (de_bl))))
theorem ok_25 (T : Tx G mg fA fD w) : FnG P w G.K mg base 1 (fA 25) (fD 25) ["word"] (spD G 1 m_25) := by
  have nd := sc_25.nd
  refine def_ok (k := 0) T.F_25 sc_25 rfl fun E cd A outer s H B hB => ?_
  have hK := hB.gK
  have hu := hu65 hB.room
  exact
      ds_one (ds_ret (de_lc (own := [("at", 1)]) rfl nd (di_rng2 (by rfl) T.n_range (da_cons (de_int) (da_cons (de_blt call_lenA (den_len hK) (by rfl) T.n_len (by decide +kernel) (da_cons (de_var (pv 0)) (da_nil))) (da_nil))) (len_cons (len_cons (len_nil)))) (blkOk_by (N := ["word", "at"]) (sc := defScope s_25) (own := [("at", 1)]) (by decide +kernel)) (fun _ _ _ _ _ => dg_name (I := (· ∈ [1])) (by simp) (pg_name (i := 1) nd rfl (Or.inl rfl))) (fun _ _ _ _ _ => dts_nil) (fun _ _ _ _ _ => de_add hK (de_slice hK (de_var (pv 0)) (do_some (de_var (pv 1))) (do_none)) (de_slice hK (de_var (pv 0)) (do_none) (do_some (de_var (pv 1)))))))
theorem ok_26 (T : Tx G mg fA fD w) : FnG P w G.K mg base 2 (fA 26) (fD 26) ["word"] (spD G 1 m_26) := by
  have nd := sc_26.nd
  have O_24 : FnG P w G.K mg base 1 (fA 24) (fD 24) ["one", "other"] (spD G 2 m_24) := ok_24 T
  have O_25 : FnG P w G.K mg base 1 (fA 25) (fD 25) ["word"] (spD G 1 m_25) := ok_25 T
  refine def_ok (k := 1) T.F_26 sc_26 rfl fun E cd A outer s H B hB => ?_
  have hK := hB.gK
  have hu := hu65 hB.room
  exact
      ds_one (ds_ret (de_cmp (opR_eq hu) (den_eq hK) (de_lc (own := [("some", 1)]) rfl nd (di_seq hK (de_call ⟨hB.gK, hB.gf, hB.gc, hB.gn⟩ O_25 (hB.room.mono (by decide)) hB.gd (by rfl) T.g_25 T.F_25.kp T.b_25 hB.takes (len_cons (len_nil)) (da_cons (de_var (pv 0)) (da_nil)))) (blkOk_by (N := ["word", "some"]) (sc := defScope s_26) (own := [("some", 1)]) (by decide +kernel)) (fun _ _ _ _ _ => dg_name (I := (· ∈ [1])) (by simp) (pg_name (i := 1) nd rfl (Or.inl rfl))) (fun _ _ _ _ _ => dts_one (dt_truth hK (de_call ⟨hB.gK, hB.gf, hB.gc, hB.gn⟩ O_24 (hB.room.mono (by decide)) hB.gd (by rfl) T.g_24 T.F_24.kp T.b_24 L2.takes0 (len_cons (len_cons (len_nil))) (da_cons (de_var (pv 1)) (da_cons (de_var (pv 0)) (da_nil)))))) (fun _ _ _ _ _ => de_int)) (de_lst (da_nil)) (nomark _)))
theorem ok_27 (T : Tx G mg fA fD w) : FnG P w G.K mg base 3 (fA 27) (fD 27) ["n"] (spD G 1 m_27) := by
  have nd := sc_27.nd
  have O_24 : FnG P w G.K mg base 1 (fA 24) (fD 24) ["one", "other"] (spD G 2 m_24) := ok_24 T
  have O_26 : FnG P w G.K mg base 2 (fA 26) (fD 26) ["word"] (spD G 1 m_26) := ok_26 T
  refine def_ok (k := 2) T.F_27 sc_27 rfl fun E cd A outer s H B hB => ?_
  have hK := hB.gK
  have hu := hu65 hB.room
  exact
      ds_cons (ds_set (i := 1) (fun te he => ps_set (i := 1) nd rfl (Or.inl rfl) he) (de_lst (da_cons (de_str) (da_nil))))
      (ds_cons (ds_for hB.own rfl (di_rng1 (by rfl) T.n_range (da_cons (de_sub (de_var (pv 0)) (de_int)) (da_nil)) rfl (len_cons (len_nil))) (dg_name (I := fun _ => True) trivial (pg_name (i := 2) nd rfl (Or.inl rfl))) (ds_one (ds_set (i := 1) (fun te he => ps_set (i := 1) nd rfl (Or.inl rfl) he) (de_add hK (de_lc (own := [("row", 3)]) rfl nd (di_seq hK (de_var (pv 1))) (blkOk_by (N := ["n", "found", "turn", "row", "kept", "word", "at", "other"]) (sc := defScope s_27) (own := [("row", 3)]) (by decide +kernel)) (fun _ _ _ _ _ => dg_name (I := (· ∈ [3])) (by simp) (pg_name (i := 3) nd rfl (Or.inl rfl))) (fun _ _ _ _ _ => dts_nil) (fun _ _ _ _ _ => de_add hK (de_var (pv 3)) (de_str))) (de_lc (own := [("row", 3)]) rfl nd (di_seq hK (de_var (pv 1))) (blkOk_by (N := ["n", "found", "turn", "row", "kept", "word", "at", "other"]) (sc := defScope s_27) (own := [("row", 3)]) (by decide +kernel)) (fun _ _ _ _ _ => dg_name (I := (· ∈ [3])) (by simp) (pg_name (i := 3) nd rfl (Or.inl rfl))) (fun _ _ _ _ _ => dts_nil) (fun _ _ _ _ _ => de_add hK (de_var (pv 3)) (de_str)))))))
      (ds_cons (ds_set (i := 4) (fun te he => ps_set (i := 4) nd rfl (Or.inl rfl) he) (de_lst (da_nil)))
      (ds_cons (ds_for hB.own rfl (di_seq hK (de_lc (own := [("row", 3)]) rfl nd (di_seq hK (de_var (pv 1))) (blkOk_by (N := ["n", "found", "turn", "row", "kept", "word", "at", "other"]) (sc := defScope s_27) (own := [("row", 3)]) (by decide +kernel)) (fun _ _ _ _ _ => dg_name (I := (· ∈ [3])) (by simp) (pg_name (i := 3) nd rfl (Or.inl rfl))) (fun _ _ _ _ _ => dts_nil) (fun _ _ _ _ _ => de_add hK (de_var (pv 3)) (de_str)))) (dg_name (I := fun _ => True) trivial (pg_name (i := 5) nd rfl (Or.inr rfl))) (ds_one (ds_if (dt_truth hK (de_call ⟨hB.gK, hB.gf, hB.gc, hB.gn⟩ O_26 (hB.room.mono (by decide)) hB.gd (by rfl) T.g_26 T.F_26.kp T.b_26 hB.takes (len_cons (len_nil)) (da_cons (de_var (pv 5)) (da_nil)))) (ds_cons (ds_set (i := 6) (fun te he => ps_set (i := 6) nd rfl (Or.inl rfl) he) (de_blt call_lenA (den_len hK) (by rfl) T.n_len (by decide +kernel) (da_cons (de_lc (own := [("other", 7)]) rfl nd (di_seq hK (de_var (pv 4))) (blkOk_by (N := ["n", "found", "turn", "row", "kept", "word", "at", "other"]) (sc := defScope s_27) (own := [("other", 7)]) (by decide +kernel)) (fun _ _ _ _ _ => dg_name (I := (· ∈ [7])) (by simp) (pg_name (i := 7) nd rfl (Or.inl rfl))) (fun _ _ _ _ _ => dts_one (dt_truth hK (de_call ⟨hB.gK, hB.gf, hB.gc, hB.gn⟩ O_24 (hB.room.mono (by decide)) hB.gd (by rfl) T.g_24 T.F_24.kp T.b_24 L2.takes0 (len_cons (len_cons (len_nil))) (da_cons (de_var (pv 5)) (da_cons (de_var (pv 7)) (da_nil)))))) (fun _ _ _ _ _ => de_int)) (da_nil))))
      (ds_one (ds_set (i := 4) (fun te he => ps_set (i := 4) nd rfl (Or.inl rfl) he) (de_add hK (de_add hK (de_slice hK (de_var (pv 4)) (do_none) (do_some (de_var (pv 6)))) (de_lst (da_cons (de_var (pv 5)) (da_nil)))) (de_slice hK (de_var (pv 4)) (do_some (de_var (pv 6))) (do_none)))))) (ds_nil))))
      (ds_one (ds_ret (de_var (pv 4)))))))
theorem ok_29 (T : Tx G mg fA fD w) : FnG P w G.K mg base 1 (fA 29) (fD 29) ["number"] (spD G 1 m_29) := by
  have nd := sc_29.nd
  refine def_ok (k := 0) T.F_29 sc_29 rfl fun E cd A outer s H B hB => ?_
  have hK := hB.gK
  have hu := hu65 hB.room
  exact
      ds_cons (ds_par3 (i := 1) (j := 2) (l := 3) (fun ta ha => ps_par3 rfl nd rfl rfl rfl (by decide) (by decide) (by decide) rfl rfl rfl ha (by rfl)) (da_cons (de_int) (da_cons (de_var (pv 0)) (da_cons (de_int) (da_nil)))))
      (ds_cons (ds_while hB.own (dt_cmp (opR_gt2 hu) (den_gt2 hK) (de_var (pv 2)) (de_int) (nomark _)) (ds_cons (ds_set (i := 4) (fun te he => ps_set (i := 4) nd rfl (Or.inl rfl) he) (de_int))
      (ds_cons (ds_while hB.own (dt_cmp (opR_eq hu) (den_eq hK) (de_mod (de_blty call_int1 den_int1 (by rfl) T.n_int (by decide +kernel) (da_cons (de_var (pv 2)) (da_nil))) (de_var (pv 3))) (de_int) (nomark _)) (ds_one (ds_par (i := 2) (j := 4) (fun ta ha => ps_par rfl nd rfl rfl (by decide) rfl rfl ha (by rfl)) (da_cons (de_fdiv (de_var (pv 2)) (de_var (pv 3))) (da_cons (de_add hK (de_var (pv 4)) (de_int)) (da_nil))))))
      (ds_cons (ds_set (i := 1) (fun te he => ps_set (i := 1) nd rfl (Or.inl rfl) he) (de_mul hK (de_var (pv 1)) (de_item hK (de_lst (da_cons (de_int) (da_cons (de_neg (de_int)) (da_cons (de_int) (da_nil))))) (de_blt (call_min2 rfl) den_min2 (by rfl) T.n_min (by decide +kernel) (da_cons (de_var (pv 4)) (da_cons (de_int) (da_nil)))) (fun _ _ => rfl))))
      (ds_one (ds_set (i := 3) (fun te he => ps_set (i := 3) nd rfl (Or.inl rfl) he) (de_add hK (de_var (pv 3)) (de_int))))))))
      (ds_one (ds_ret (de_var (pv 1)))))
theorem ok_30 (T : Tx G mg fA fD w) : FnG P w G.K mg base 1 (fA 30) (fD 30) ["many"] (spD G 1 m_30) := by
  have nd := sc_30.nd
  refine def_ok (k := 0) T.F_30 sc_30 rfl fun E cd A outer s H B hB => ?_
  have hK := hB.gK
  have hu := hu65 hB.room
  exact
      ds_cons (ds_set (i := 1) (fun te he => ps_set (i := 1) nd rfl (Or.inl rfl) he) (de_int))
      (ds_cons (ds_for hB.own rfl (di_rng1 (by rfl) T.n_range (da_cons (de_var (pv 0)) (da_nil)) rfl (len_cons (len_nil))) (dg_name (I := fun _ => True) trivial (pg_name (i := 2) nd rfl (Or.inl rfl))) (ds_one (ds_set (i := 1) (fun te he => ps_set (i := 1) nd rfl (Or.inl rfl) he) (de_mul hK (de_var (pv 1)) (de_int)))))
      (ds_one (ds_ret (de_var (pv 1)))))
theorem ok_28 (T : Tx G mg fA fD w) : FnG P w G.K mg base 2 (fA 28) (fD 28) ["n"] (spD G 1 m_28) := by
  have nd := sc_28.nd
  have O_29 : FnG P w G.K mg base 1 (fA 29) (fD 29) ["number"] (spD G 1 m_29) := ok_29 T
  have O_30 : FnG P w G.K mg base 1 (fA 30) (fD 30) ["many"] (spD G 1 m_30) := ok_30 T
  refine def_ok (k := 1) T.F_28 sc_28 rfl fun E cd A outer s H B hB => ?_
  have hK := hB.gK
  have hu := hu65 hB.room
  exact
      ds_cons (ds_set (i := 1) (fun te he => ps_set (i := 1) nd rfl (Or.inl rfl) he) (de_int))
      (ds_cons (ds_for hB.own rfl (di_rng2 (by rfl) T.n_range (da_cons (de_int) (da_cons (de_add hK (de_var (pv 0)) (de_int)) (da_nil))) (len_cons (len_cons (len_nil)))) (dg_name (I := fun _ => True) trivial (pg_name (i := 2) nd rfl (Or.inl rfl))) (ds_one (ds_if (PW.pt (dw_and (dt_cmp (opR_eq hu) (den_eq hK) (de_mod (de_blty call_int1 den_int1 (by rfl) T.n_int (by decide +kernel) (da_cons (de_var (pv 0)) (da_nil))) (de_var (pv 2))) (de_int) (nomark _)) (dw_and1 (dt_cmp (opR_eq hu) (den_eq hK) (de_mod (de_blty call_int1 den_int1 (by rfl) T.n_int (by decide +kernel) (da_cons (de_var (pv 2)) (da_nil))) (de_int)) (de_int) (nomark _))))) (ds_one (ds_set (i := 1) (fun te he => ps_set (i := 1) nd rfl (Or.inl rfl) he) (de_add hK (de_var (pv 1)) (de_mul hK (de_call ⟨hB.gK, hB.gf, hB.gc, hB.gn⟩ O_29 (hB.room.mono (by decide)) hB.gd (by rfl) T.g_29 T.F_29.kp T.b_29 hB.takes (len_cons (len_nil)) (da_cons (de_var (pv 2)) (da_nil))) (de_call ⟨hB.gK, hB.gf, hB.gc, hB.gn⟩ O_30 (hB.room.mono (by decide)) hB.gd (by rfl) T.g_30 T.F_30.kp T.b_30 hB.takes (len_cons (len_nil)) (da_cons (de_fdiv (de_var (pv 0)) (de_var (pv 2))) (da_nil))))))) (ds_nil))))
      (ds_one (ds_ret (de_fdiv (de_var (pv 1)) (de_mul hK (de_int) (de_var (pv 0)))))))
theorem ok_31 (T : Tx G mg fA fD w) : FnG P w G.K mg base 9 (fA 31) (fD 31) ["dice"] (spD G 1 m_31) := by
  have nd := sc_31.nd
  have O_15 : FnG P w G.K mg base 4 (fA 15) (fD 15) ["word", "other"] (spD G 2 m_15) := ok_15 T
  have O_16 : FnG P w G.K mg base 8 (fA 16) (fD 16) ["n"] (spD G 1 m_16) := ok_16 T
  have O_17 : FnG P w G.K mg base 4 (fA 17) (fD 17) ["n"] (spD G 1 m_17) := ok_17 T
  have O_19 : FnG P w G.K mg base 1 (fA 19) (fD 19) ["dice", "total"] (spD G 2 m_19) := ok_19 T
  have O_23 : FnG P w G.K mg base 4 (fA 23) (fD 23) ["n"] (spD G 1 m_23) := ok_23 T
  have O_27 : FnG P w G.K mg base 3 (fA 27) (fD 27) ["n"] (spD G 1 m_27) := ok_27 T
  have O_28 : FnG P w G.K mg base 2 (fA 28) (fD 28) ["n"] (spD G 1 m_28) := ok_28 T
  refine def_ok (k := 8) T.F_31 sc_31 rfl fun E cd A outer s H B hB => ?_
  have hK := hB.gK
  have hu := hu65 hB.room
  exact
      ds_cons (ds_par (i := 1) (j := 2) (fun ta ha => ps_par rfl nd rfl rfl (by decide) rfl rfl ha (by rfl)) (da_cons (de_add hK (de_int) (de_call ⟨hB.gK, hB.gf, hB.gc, hB.gn⟩ O_19 (hB.room.mono (by decide)) hB.gd (by rfl) T.g_19 T.F_19.kp T.b_19 hB.takes (len_cons (len_cons (len_nil))) (da_cons (de_var (pv 0)) (da_cons (de_int) (da_nil))))) (da_cons (de_add hK (de_int) (de_call ⟨hB.gK, hB.gf, hB.gc, hB.gn⟩ O_19 (hB.room.mono (by decide)) hB.gd (by rfl) T.g_19 T.F_19.kp T.b_19 hB.takes (len_cons (len_cons (len_nil))) (da_cons (de_var (pv 0)) (da_cons (de_int) (da_nil))))) (da_nil))))
      (ds_cons (ds_set (i := 3) (fun te he => ps_set (i := 3) nd rfl (Or.inl rfl) he) (de_call ⟨hB.gK, hB.gf, hB.gc, hB.gn⟩ O_27 (hB.room.mono (by decide)) hB.gd (by rfl) T.g_27 T.F_27.kp T.b_27 hB.takes (len_cons (len_nil)) (da_cons (de_var (pv 1)) (da_nil))))
      (ds_cons (ds_if (PW.pt (dw_or (dt_cmp (opR_ne hu) (den_ne hK) (de_blt (call_reprA hB.room hB.gd) (den_reprA hK) (by rfl) T.n_repr (by decide +kernel) (da_cons (de_call ⟨hB.gK, hB.gf, hB.gc, hB.gn⟩ O_16 (hB.room.mono (by decide)) hB.gd (by rfl) T.g_16 T.F_16.kp T.b_16 hB.takes (len_cons (len_nil)) (da_cons (de_var (pv 1)) (da_nil))) (da_nil))) (de_blt (call_reprA hB.room hB.gd) (den_reprA hK) (by rfl) T.n_repr (by decide +kernel) (da_cons (de_blty call_tupleF (den_tuple hK) (by rfl) T.n_tuple (by decide +kernel) (da_cons (de_var (pv 3)) (da_nil))) (da_nil))) (nomark _)) (dw_or1 (dt_cmp (opR_ne hu) (den_ne hK) (de_blt (call_reprA hB.room hB.gd) (den_reprA hK) (by rfl) T.n_repr (by decide +kernel) (da_cons (de_call ⟨hB.gK, hB.gf, hB.gc, hB.gn⟩ O_17 (hB.room.mono (by decide)) hB.gd (by rfl) T.g_17 T.F_17.kp T.b_17 hB.takes (len_cons (len_nil)) (da_cons (de_var (pv 1)) (da_nil))) (da_nil))) (de_blt (call_reprA hB.room hB.gd) (den_reprA hK) (by rfl) T.n_repr (by decide +kernel) (da_cons (de_blt call_lenA (den_len hK) (by rfl) T.n_len (by decide +kernel) (da_cons (de_var (pv 3)) (da_nil))) (da_nil))) (nomark _))))) (ds_one (ds_ret (de_bl))) (ds_nil))
      (ds_cons (ds_if (PW.pt (dw_and (dt_cmp (opR_gt2 hu) (den_gt2 hK) (de_var (pv 1)) (de_int) (nomark _)) (dw_and1 (PW.pt (dw_or (dt_cmp (opR_ne hu) (den_ne hK) (de_item hK (de_var (pv 3)) (de_neg (de_int)) (fun _ _ => rfl)) (de_add hK (de_add hK (de_str) (de_mulS (de_str) (de_sub (de_var (pv 1)) (de_int)))) (de_str)) (nomark _)) (dw_or1 (dt_cmp (opR_ne hu) (den_ne hK) (de_blt call_lenA (den_len hK) (by rfl) T.n_len (by decide +kernel) (da_cons (de_var (pv 3)) (da_nil))) (de_blt call_lenA (den_len hK) (by rfl) T.n_len (by decide +kernel) (da_cons (de_call ⟨hB.gK, hB.gf, hB.gc, hB.gn⟩ O_23 (hB.room.mono (by decide)) hB.gd (by rfl) T.g_23 T.F_23.kp T.b_23 hB.takes (len_cons (len_nil)) (da_cons (de_var (pv 1)) (da_nil))) (da_nil))) (nomark _)))))))) (ds_one (ds_ret (de_bl))) (ds_nil))
      (ds_cons (ds_if (dt_cmp (opR_ne hu) (den_ne hK) (de_lc (own := [("one", 4), ("other", 5)]) rfl nd (di_zipA hK (by rfl) T.n_zip (da_cons (de_var (pv 3)) (da_cons (de_slice hK (de_var (pv 3)) (do_some (de_int)) (do_none)) (da_nil)))) (blkOk_by (N := ["dice", "n", "far", "every", "one", "other"]) (sc := defScope s_31) (own := [("one", 4), ("other", 5)]) (by decide +kernel)) (fun _ _ _ _ _ => dg_tup hK rfl (dgs_cons (dg_name (I := (· ∈ [4, 5])) (by simp) (pg_name (i := 4) nd rfl (Or.inl rfl))) (dgs_cons (dg_name (I := (· ∈ [4, 5])) (by simp) (pg_name (i := 5) nd rfl (Or.inl rfl))) (dgs_nil)))) (fun _ _ _ _ _ => dts_one (dt_not (dt_truth hK (de_call ⟨hB.gK, hB.gf, hB.gc, hB.gn⟩ O_15 (hB.room.mono (by decide)) hB.gd (by rfl) T.g_15 T.F_15.kp T.b_15 L2.takes0 (len_cons (len_cons (len_nil))) (da_cons (de_var (pv 5)) (da_cons (de_var (pv 4)) (da_nil))))))) (fun _ _ _ _ _ => de_int)) (de_lst (da_nil)) (nomark _)) (ds_one (ds_ret (de_bl))) (ds_nil))
      (ds_one (ds_ret (de_cmp (opR_eq hu) (den_eq hK) (de_blt (call_reprA hB.room hB.gd) (den_reprA hK) (by rfl) T.n_repr (by decide +kernel) (da_cons (de_call ⟨hB.gK, hB.gf, hB.gc, hB.gn⟩ O_17 (hB.room.mono (by decide)) hB.gd (by rfl) T.g_17 T.F_17.kp T.b_17 hB.takes (len_cons (len_nil)) (da_cons (de_var (pv 2)) (da_nil))) (da_nil))) (de_blt (call_reprA hB.room hB.gd) (den_reprA hK) (by rfl) T.n_repr (by decide +kernel) (da_cons (de_call ⟨hB.gK, hB.gf, hB.gc, hB.gn⟩ O_28 (hB.room.mono (by decide)) hB.gd (by rfl) T.g_28 T.F_28.kp T.b_28 hB.takes (len_cons (len_nil)) (da_cons (de_var (pv 2)) (da_nil))) (da_nil))) (nomark _))))))))
theorem ok_32 (T : Tx G mg fA fD w) : FnG P w G.K mg base 10 (fA 32) (fD 32) ["script"] (spD G 1 m_32) := by
  have nd := sc_32.nd
  have O_16 : FnG P w G.K mg base 8 (fA 16) (fD 16) ["n"] (spD G 1 m_16) := ok_16 T
  have O_17 : FnG P w G.K mg base 4 (fA 17) (fD 17) ["n"] (spD G 1 m_17) := ok_17 T
  have O_18 : FnG P w G.K mg base 1 (fA 18) (fD 18) ["script", "spot"] (spD G 2 m_18) := ok_18 T
  have O_28 : FnG P w G.K mg base 2 (fA 28) (fD 28) ["n"] (spD G 1 m_28) := ok_28 T
  have O_31 : FnG P w G.K mg base 9 (fA 31) (fD 31) ["dice"] (spD G 1 m_31) := ok_31 T
  refine def_ok (k := 9) T.F_32 sc_32 rfl fun E cd A outer s H B hB => ?_
  have hK := hB.gK
  have hu := hu65 hB.room
  exact
      ds_cons (ds_for hB.own rfl (di_rng1 (by rfl) T.n_range (da_cons (de_blt (call_max2 rfl) den_max2 (by rfl) T.n_max (by decide +kernel) (da_cons (de_int) (da_cons (de_blt (call_min2 rfl) den_min2 (by rfl) T.n_min (by decide +kernel) (da_cons (de_int) (da_cons (de_blt call_lenA (den_len hK) (by rfl) T.n_len (by decide +kernel) (da_cons (de_var (pv 0)) (da_nil))) (da_nil)))) (da_nil)))) (da_nil)) rfl (len_cons (len_nil))) (dg_name (I := fun _ => True) trivial (pg_name (i := 1) nd rfl (Or.inl rfl))) (ds_one (ds_if (dt_not (dt_truth hK (de_call ⟨hB.gK, hB.gf, hB.gc, hB.gn⟩ O_31 (hB.room.mono (by decide)) hB.gd (by rfl) T.g_31 T.F_31.kp T.b_31 hB.takes (len_cons (len_nil)) (da_cons (de_call ⟨hB.gK, hB.gf, hB.gc, hB.gn⟩ O_18 (hB.room.mono (by decide)) hB.gd (by rfl) T.g_18 T.F_18.kp T.b_18 hB.takes (len_cons (len_cons (len_nil))) (da_cons (de_var (pv 0)) (da_cons (de_var (pv 1)) (da_nil)))) (da_nil))))) (ds_one (ds_ret (de_bl))) (ds_nil))))
      (ds_cons (ds_set (i := 2) (fun te he => ps_set (i := 2) nd rfl (Or.inl rfl) he) (de_lst (da_cons (de_call ⟨hB.gK, hB.gf, hB.gc, hB.gn⟩ O_16 (hB.room.mono (by decide)) hB.gd (by rfl) T.g_16 T.F_16.kp T.b_16 hB.takes (len_cons (len_nil)) (da_cons (de_int) (da_nil))) (da_cons (de_call ⟨hB.gK, hB.gf, hB.gc, hB.gn⟩ O_16 (hB.room.mono (by decide)) hB.gd (by rfl) T.g_16 T.F_16.kp T.b_16 hB.takes (len_cons (len_nil)) (da_cons (de_int) (da_nil))) (da_cons (de_lc (own := [("n", 3)]) rfl nd (di_rng2 (by rfl) T.n_range (da_cons (de_int) (da_cons (de_int) (da_nil))) (len_cons (len_cons (len_nil)))) (blkOk_by (N := ["script", "spot", "told", "n"]) (sc := defScope s_32) (own := [("n", 3)]) (by decide +kernel)) (fun _ _ _ _ _ => dg_name (I := (· ∈ [3])) (by simp) (pg_name (i := 3) nd rfl (Or.inl rfl))) (fun _ _ _ _ _ => dts_nil) (fun _ _ _ _ _ => de_call ⟨hB.gK, hB.gf, hB.gc, hB.gn⟩ O_17 (hB.room.mono (by decide)) hB.gd (by rfl) T.g_17 T.F_17.kp T.b_17 L2.takes0 (len_cons (len_nil)) (da_cons (de_var (pv 3)) (da_nil)))) (da_cons (de_blt call_lenA (den_len hK) (by rfl) T.n_len (by decide +kernel) (da_cons (de_call ⟨hB.gK, hB.gf, hB.gc, hB.gn⟩ O_16 (hB.room.mono (by decide)) hB.gd (by rfl) T.g_16 T.F_16.kp T.b_16 hB.takes (len_cons (len_nil)) (da_cons (de_int) (da_nil))) (da_nil))) (da_nil)))))))
      (ds_one (ds_ret (de_cmp (opR_eq hu) (den_eq hK) (de_var (pv 2)) (de_lst (da_cons (de_tup (da_cons (de_str) (da_nil))) (da_cons (de_tup (da_cons (de_str) (da_cons (de_str) (da_nil)))) (da_cons (de_lst (da_cons (de_int) (da_cons (de_int) (da_cons (de_int) (da_cons (de_int) (da_cons (de_int) (da_cons (de_int) (da_cons (de_int) (da_cons (de_int) (da_nil)))))))))) (da_cons (de_call ⟨hB.gK, hB.gf, hB.gc, hB.gn⟩ O_28 (hB.room.mono (by decide)) hB.gd (by rfl) T.g_28 T.F_28.kp T.b_28 hB.takes (len_cons (len_nil)) (da_cons (de_int) (da_nil))) (da_nil)))))) (nomark _)))))
end
end Law

namespace Law
open PySem PySem.Spec L2 DM
open PyProof.Rows hiding St
set_option maxHeartbeats 4000000 in
theorem all_mk {l : PySem.W.OpenLaw} {w : World} {K : PySem.W.Frag} {h : Heap} {mg : Str → Option Value} {fa : Addr} (X : K.In h) (G : h.Ns mainGlobals mg) (hfa : mg "law" = some (.ref fa)) {od0 an0 : Option Addr} {sl0 : Array (Option Value)} {oc0 kV0 dc0 pm0 cd0 ct0 : Value} {f0 : Addr} {od1 an1 : Option Addr} {sl1 : Array (Option Value)} {oc1 kV1 dc1 pm1 cd1 ct1 : Value} {f1 : Addr} {od2 an2 : Option Addr} {sl2 : Array (Option Value)} {oc2 kV2 dc2 pm2 cd2 ct2 : Value} {f2 : Addr} {od3 an3 : Option Addr} {sl3 : Array (Option Value)} {oc3 kV3 dc3 pm3 cd3 ct3 : Value} {f3 : Addr} {od4 an4 : Option Addr} {sl4 : Array (Option Value)} {oc4 kV4 dc4 pm4 cd4 ct4 : Value} {f4 : Addr} {od5 an5 : Option Addr} {sl5 : Array (Option Value)} {oc5 kV5 dc5 pm5 cd5 ct5 : Value} {f5 : Addr} {od6 an6 : Option Addr} {sl6 : Array (Option Value)} {oc6 kV6 dc6 pm6 cd6 ct6 : Value} {f6 : Addr} {od7 an7 : Option Addr} {sl7 : Array (Option Value)} {oc7 kV7 dc7 pm7 cd7 ct7 : Value} {f7 : Addr} {od8 an8 : Option Addr} {sl8 : Array (Option Value)} {oc8 kV8 dc8 pm8 cd8 ct8 : Value} {f8 : Addr} {od9 an9 : Option Addr} {sl9 : Array (Option Value)} {oc9 kV9 dc9 pm9 cd9 ct9 : Value} {f9 : Addr} {od10 an10 : Option Addr} {sl10 : Array (Option Value)} {oc10 kV10 dc10 pm10 cd10 ct10 : Value} {f10 : Addr} {od11 an11 : Option Addr} {sl11 : Array (Option Value)} {oc11 kV11 dc11 pm11 cd11 ct11 : Value} {f11 : Addr} {od12 an12 : Option Addr} {sl12 : Array (Option Value)} {oc12 kV12 dc12 pm12 cd12 ct12 : Value} {f12 : Addr} {od13 an13 : Option Addr} {sl13 : Array (Option Value)} {oc13 kV13 dc13 pm13 cd13 ct13 : Value} {f13 : Addr} {od14 an14 : Option Addr} {sl14 : Array (Option Value)} {oc14 kV14 dc14 pm14 cd14 ct14 : Value} {f14 : Addr} {od15 an15 : Option Addr} {sl15 : Array (Option Value)} {oc15 kV15 dc15 pm15 cd15 ct15 : Value} {f15 : Addr} {od16 an16 : Option Addr} {sl16 : Array (Option Value)} {oc16 kV16 dc16 pm16 cd16 ct16 : Value} {f16 : Addr} {od17 an17 : Option Addr} {sl17 : Array (Option Value)} {oc17 kV17 dc17 pm17 cd17 ct17 : Value} {f17 : Addr} {od18 an18 : Option Addr} {sl18 : Array (Option Value)} {oc18 kV18 dc18 pm18 cd18 ct18 : Value} {f18 : Addr} {od19 an19 : Option Addr} {sl19 : Array (Option Value)} {oc19 kV19 dc19 pm19 cd19 ct19 : Value} {f19 : Addr} {od20 an20 : Option Addr} {sl20 : Array (Option Value)} {oc20 kV20 dc20 pm20 cd20 ct20 : Value} {f20 : Addr} {od21 an21 : Option Addr} {sl21 : Array (Option Value)} {oc21 kV21 dc21 pm21 cd21 ct21 : Value} {f21 : Addr} {od22 an22 : Option Addr} {sl22 : Array (Option Value)} {oc22 kV22 dc22 pm22 cd22 ct22 : Value} {f22 : Addr} {od23 an23 : Option Addr} {sl23 : Array (Option Value)} {oc23 kV23 dc23 pm23 cd23 ct23 : Value} {f23 : Addr} {od24 an24 : Option Addr} {sl24 : Array (Option Value)} {oc24 kV24 dc24 pm24 cd24 ct24 : Value} {f24 : Addr} {od25 an25 : Option Addr} {sl25 : Array (Option Value)} {oc25 kV25 dc25 pm25 cd25 ct25 : Value} {f25 : Addr} {od26 an26 : Option Addr} {sl26 : Array (Option Value)} {oc26 kV26 dc26 pm26 cd26 ct26 : Value} {f26 : Addr} {od27 an27 : Option Addr} {sl27 : Array (Option Value)} {oc27 kV27 dc27 pm27 cd27 ct27 : Value} {f27 : Addr} {od28 an28 : Option Addr} {sl28 : Array (Option Value)} {oc28 kV28 dc28 pm28 cd28 ct28 : Value} {f28 : Addr} {od29 an29 : Option Addr} {sl29 : Array (Option Value)} {oc29 kV29 dc29 pm29 cd29 ct29 : Value} {f29 : Addr} {od30 an30 : Option Addr} {sl30 : Array (Option Value)} {oc30 kV30 dc30 pm30 cd30 ct30 : Value} {f30 : Addr} {od31 an31 : Option Addr} {sl31 : Array (Option Value)} {oc31 kV31 dc31 pm31 cd31 ct31 : Value} {f31 : Addr} {od32 an32 : Option Addr} {sl32 : Array (Option Value)} {oc32 kV32 dc32 pm32 cd32 ct32 : Value} {f32 : Addr}
    (a0 : PySem.W.nsIn K mainGlobals "is_whole" = some (some (.ref f0))) (l0 : K.lookup f0 = some ⟨oc0, od0, .func (PySem.W.fnOf "is_whole" "is_whole" (defArgs s_0) (defBody s_0) (defScope s_0) .none kV0 dc0 pm0 an0 cd0 ct0), sl0⟩) (c0 : PySem.W.codeIn K cd0 "is_whole" = true) (k0 : PySem.W.keepIn K (.ref f0) = true)
    (a1 : PySem.W.nsIn K mainGlobals "is_near" = some (some (.ref f1))) (l1 : K.lookup f1 = some ⟨oc1, od1, .func (PySem.W.fnOf "is_near" "is_near" (defArgs s_1) (defBody s_1) (defScope s_1) .none kV1 dc1 pm1 an1 cd1 ct1), sl1⟩) (c1 : PySem.W.codeIn K cd1 "is_near" = true) (k1 : PySem.W.keepIn K (.ref f1) = true)
    (a2 : PySem.W.nsIn K mainGlobals "require_number" = some (some (.ref f2))) (l2 : K.lookup f2 = some ⟨oc2, od2, .func (PySem.W.fnOf "require_number" "require_number" (defArgs s_2) (defBody s_2) (defScope s_2) .none kV2 dc2 pm2 an2 cd2 ct2), sl2⟩) (c2 : PySem.W.codeIn K cd2 "require_number" = true) (k2 : PySem.W.keepIn K (.ref f2) = true)
    (a3 : PySem.W.nsIn K mainGlobals "is_word_in" = some (some (.ref f3))) (l3 : K.lookup f3 = some ⟨oc3, od3, .func (PySem.W.fnOf "is_word_in" "is_word_in" (defArgs s_3) (defBody s_3) (defScope s_3) .none kV3 dc3 pm3 an3 cd3 ct3), sl3⟩) (c3 : PySem.W.codeIn K cd3 "is_word_in" = true) (k3 : PySem.W.keepIn K (.ref f3) = true)
    (a4 : PySem.W.nsIn K mainGlobals "key_of_signs" = some (some (.ref f4))) (l4 : K.lookup f4 = some ⟨oc4, od4, .func (PySem.W.fnOf "key_of_signs" "key_of_signs" (defArgs s_4) (defBody s_4) (defScope s_4) .none kV4 dc4 pm4 an4 cd4 ct4), sl4⟩) (c4 : PySem.W.codeIn K cd4 "key_of_signs" = true) (k4 : PySem.W.keepIn K (.ref f4) = true)
    (a5 : PySem.W.nsIn K mainGlobals "words_compared" = some (some (.ref f5))) (l5 : K.lookup f5 = some ⟨oc5, od5, .func (PySem.W.fnOf "words_compared" "words_compared" (defArgs s_5) (defBody s_5) (defScope s_5) .none kV5 dc5 pm5 an5 cd5 ct5), sl5⟩) (c5 : PySem.W.codeIn K cd5 "words_compared" = true) (k5 : PySem.W.keepIn K (.ref f5) = true)
    (a6 : PySem.W.nsIn K mainGlobals "shifted" = some (some (.ref f6))) (l6 : K.lookup f6 = some ⟨oc6, od6, .func (PySem.W.fnOf "shifted" "shifted" (defArgs s_6) (defBody s_6) (defScope s_6) .none kV6 dc6 pm6 an6 cd6 ct6), sl6⟩) (c6 : PySem.W.codeIn K cd6 "shifted" = true) (k6 : PySem.W.keepIn K (.ref f6) = true)
    (a7 : PySem.W.nsIn K mainGlobals "beaten_at" = some (some (.ref f7))) (l7 : K.lookup f7 = some ⟨oc7, od7, .func (PySem.W.fnOf "beaten_at" "beaten_at" (defArgs s_7) (defBody s_7) (defScope s_7) .none kV7 dc7 pm7 an7 cd7 ct7), sl7⟩) (c7 : PySem.W.codeIn K cd7 "beaten_at" = true) (k7 : PySem.W.keepIn K (.ref f7) = true)
    (a8 : PySem.W.nsIn K mainGlobals "is_greatest_in" = some (some (.ref f8))) (l8 : K.lookup f8 = some ⟨oc8, od8, .func (PySem.W.fnOf "is_greatest_in" "is_greatest_in" (defArgs s_8) (defBody s_8) (defScope s_8) .none kV8 dc8 pm8 an8 cd8 ct8), sl8⟩) (c8 : PySem.W.codeIn K cd8 "is_greatest_in" = true) (k8 : PySem.W.keepIn K (.ref f8) = true)
    (a9 : PySem.W.nsIn K mainGlobals "all_words" = some (some (.ref f9))) (l9 : K.lookup f9 = some ⟨oc9, od9, .func (PySem.W.fnOf "all_words" "all_words" (defArgs s_9) (defBody s_9) (defScope s_9) .none kV9 dc9 pm9 an9 cd9 ct9), sl9⟩) (c9 : PySem.W.codeIn K cd9 "all_words" = true) (k9 : PySem.W.keepIn K (.ref f9) = true)
    (a10 : PySem.W.nsIn K mainGlobals "greatest_words_in" = some (some (.ref f10))) (l10 : K.lookup f10 = some ⟨oc10, od10, .func (PySem.W.fnOf "greatest_words_in" "greatest_words_in" (defArgs s_10) (defBody s_10) (defScope s_10) .none kV10 dc10 pm10 an10 cd10 ct10), sl10⟩) (c10 : PySem.W.codeIn K cd10 "greatest_words_in" = true) (k10 : PySem.W.keepIn K (.ref f10) = true)
    (a11 : PySem.W.nsIn K mainGlobals "moebius_in" = some (some (.ref f11))) (l11 : K.lookup f11 = some ⟨oc11, od11, .func (PySem.W.fnOf "moebius_in" "moebius_in" (defArgs s_11) (defBody s_11) (defScope s_11) .none kV11 dc11 pm11 an11 cd11 ct11), sl11⟩) (c11 : PySem.W.codeIn K cd11 "moebius_in" = true) (k11 : PySem.W.keepIn K (.ref f11) = true)
    (a12 : PySem.W.nsIn K mainGlobals "count_greatest_in" = some (some (.ref f12))) (l12 : K.lookup f12 = some ⟨oc12, od12, .func (PySem.W.fnOf "count_greatest_in" "count_greatest_in" (defArgs s_12) (defBody s_12) (defScope s_12) .none kV12 dc12 pm12 an12 cd12 ct12), sl12⟩) (c12 : PySem.W.codeIn K cd12 "count_greatest_in" = true) (k12 : PySem.W.keepIn K (.ref f12) = true)
    (a13 : PySem.W.nsIn K mainGlobals "require_word" = some (some (.ref f13))) (l13 : K.lookup f13 = some ⟨oc13, od13, .func (PySem.W.fnOf "require_word" "require_word" (defArgs s_13) (defBody s_13) (defScope s_13) .none kV13 dc13 pm13 an13 cd13 ct13), sl13⟩) (c13 : PySem.W.codeIn K cd13 "require_word" = true) (k13 : PySem.W.keepIn K (.ref f13) = true)
    (a14 : PySem.W.nsIn K mainGlobals "require_two_words" = some (some (.ref f14))) (l14 : K.lookup f14 = some ⟨oc14, od14, .func (PySem.W.fnOf "require_two_words" "require_two_words" (defArgs s_14) (defBody s_14) (defScope s_14) .none kV14 dc14 pm14 an14 cd14 ct14), sl14⟩) (c14 : PySem.W.codeIn K cd14 "require_two_words" = true) (k14 : PySem.W.keepIn K (.ref f14) = true)
    (a15 : PySem.W.nsIn K mainGlobals "is_above" = some (some (.ref f15))) (l15 : K.lookup f15 = some ⟨oc15, od15, .func (PySem.W.fnOf "is_above" "is_above" (defArgs s_15) (defBody s_15) (defScope s_15) .none kV15 dc15 pm15 an15 cd15 ct15), sl15⟩) (c15 : PySem.W.codeIn K cd15 "is_above" = true) (k15 : PySem.W.keepIn K (.ref f15) = true)
    (a16 : PySem.W.nsIn K mainGlobals "greatest_words" = some (some (.ref f16))) (l16 : K.lookup f16 = some ⟨oc16, od16, .func (PySem.W.fnOf "greatest_words" "greatest_words" (defArgs s_16) (defBody s_16) (defScope s_16) .none kV16 dc16 pm16 an16 cd16 ct16), sl16⟩) (c16 : PySem.W.codeIn K cd16 "greatest_words" = true) (k16 : PySem.W.keepIn K (.ref f16) = true)
    (a17 : PySem.W.nsIn K mainGlobals "count_greatest" = some (some (.ref f17))) (l17 : K.lookup f17 = some ⟨oc17, od17, .func (PySem.W.fnOf "count_greatest" "count_greatest" (defArgs s_17) (defBody s_17) (defScope s_17) .none kV17 dc17 pm17 an17 cd17 ct17), sl17⟩) (c17 : PySem.W.codeIn K cd17 "count_greatest" = true) (k17 : PySem.W.keepIn K (.ref f17) = true)
    (a18 : PySem.W.nsIn K mainGlobals "_law_dice" = some (some (.ref f18))) (l18 : K.lookup f18 = some ⟨oc18, od18, .func (PySem.W.fnOf "_law_dice" "_law_dice" (defArgs s_18) (defBody s_18) (defScope s_18) .none kV18 dc18 pm18 an18 cd18 ct18), sl18⟩) (c18 : PySem.W.codeIn K cd18 "_law_dice" = true) (k18 : PySem.W.keepIn K (.ref f18) = true)
    (a19 : PySem.W.nsIn K mainGlobals "_law_roll" = some (some (.ref f19))) (l19 : K.lookup f19 = some ⟨oc19, od19, .func (PySem.W.fnOf "_law_roll" "_law_roll" (defArgs s_19) (defBody s_19) (defScope s_19) .none kV19 dc19 pm19 an19 cd19 ct19), sl19⟩) (c19 : PySem.W.codeIn K cd19 "_law_roll" = true) (k19 : PySem.W.keepIn K (.ref f19) = true)
    (a20 : PySem.W.nsIn K mainGlobals "_law_is_integer" = some (some (.ref f20))) (l20 : K.lookup f20 = some ⟨oc20, od20, .func (PySem.W.fnOf "_law_is_integer" "_law_is_integer" (defArgs s_20) (defBody s_20) (defScope s_20) .none kV20 dc20 pm20 an20 cd20 ct20), sl20⟩) (c20 : PySem.W.codeIn K cd20 "_law_is_integer" = true) (k20 : PySem.W.keepIn K (.ref f20) = true)
    (a21 : PySem.W.nsIn K mainGlobals "_law_is_line" = some (some (.ref f21))) (l21 : K.lookup f21 = some ⟨oc21, od21, .func (PySem.W.fnOf "_law_is_line" "_law_is_line" (defArgs s_21) (defBody s_21) (defScope s_21) .none kV21 dc21 pm21 an21 cd21 ct21), sl21⟩) (c21 : PySem.W.codeIn K cd21 "_law_is_line" = true) (k21 : PySem.W.keepIn K (.ref f21) = true)
    (a22 : PySem.W.nsIn K mainGlobals "_law_is_round" = some (some (.ref f22))) (l22 : K.lookup f22 = some ⟨oc22, od22, .func (PySem.W.fnOf "_law_is_round" "_law_is_round" (defArgs s_22) (defBody s_22) (defScope s_22) .none kV22 dc22 pm22 an22 cd22 ct22), sl22⟩) (c22 : PySem.W.codeIn K cd22 "_law_is_round" = true) (k22 : PySem.W.keepIn K (.ref f22) = true)
    (a23 : PySem.W.nsIn K mainGlobals "_law_bump_rounds" = some (some (.ref f23))) (l23 : K.lookup f23 = some ⟨oc23, od23, .func (PySem.W.fnOf "_law_bump_rounds" "_law_bump_rounds" (defArgs s_23) (defBody s_23) (defScope s_23) .none kV23 dc23 pm23 an23 cd23 ct23), sl23⟩) (c23 : PySem.W.codeIn K cd23 "_law_bump_rounds" = true) (k23 : PySem.W.keepIn K (.ref f23) = true)
    (a24 : PySem.W.nsIn K mainGlobals "_law_is_above" = some (some (.ref f24))) (l24 : K.lookup f24 = some ⟨oc24, od24, .func (PySem.W.fnOf "_law_is_above" "_law_is_above" (defArgs s_24) (defBody s_24) (defScope s_24) .none kV24 dc24 pm24 an24 cd24 ct24), sl24⟩) (c24 : PySem.W.codeIn K cd24 "_law_is_above" = true) (k24 : PySem.W.keepIn K (.ref f24) = true)
    (a25 : PySem.W.nsIn K mainGlobals "_law_shifts" = some (some (.ref f25))) (l25 : K.lookup f25 = some ⟨oc25, od25, .func (PySem.W.fnOf "_law_shifts" "_law_shifts" (defArgs s_25) (defBody s_25) (defScope s_25) .none kV25 dc25 pm25 an25 cd25 ct25), sl25⟩) (c25 : PySem.W.codeIn K cd25 "_law_shifts" = true) (k25 : PySem.W.keepIn K (.ref f25) = true)
    (a26 : PySem.W.nsIn K mainGlobals "_law_is_greatest" = some (some (.ref f26))) (l26 : K.lookup f26 = some ⟨oc26, od26, .func (PySem.W.fnOf "_law_is_greatest" "_law_is_greatest" (defArgs s_26) (defBody s_26) (defScope s_26) .none kV26 dc26 pm26 an26 cd26 ct26), sl26⟩) (c26 : PySem.W.codeIn K cd26 "_law_is_greatest" = true) (k26 : PySem.W.keepIn K (.ref f26) = true)
    (a27 : PySem.W.nsIn K mainGlobals "_law_every" = some (some (.ref f27))) (l27 : K.lookup f27 = some ⟨oc27, od27, .func (PySem.W.fnOf "_law_every" "_law_every" (defArgs s_27) (defBody s_27) (defScope s_27) .none kV27 dc27 pm27 an27 cd27 ct27), sl27⟩) (c27 : PySem.W.codeIn K cd27 "_law_every" = true) (k27 : PySem.W.keepIn K (.ref f27) = true)
    (a28 : PySem.W.nsIn K mainGlobals "_law_count" = some (some (.ref f28))) (l28 : K.lookup f28 = some ⟨oc28, od28, .func (PySem.W.fnOf "_law_count" "_law_count" (defArgs s_28) (defBody s_28) (defScope s_28) .none kV28 dc28 pm28 an28 cd28 ct28), sl28⟩) (c28 : PySem.W.codeIn K cd28 "_law_count" = true) (k28 : PySem.W.keepIn K (.ref f28) = true)
    (a29 : PySem.W.nsIn K mainGlobals "_law_moebius" = some (some (.ref f29))) (l29 : K.lookup f29 = some ⟨oc29, od29, .func (PySem.W.fnOf "_law_moebius" "_law_moebius" (defArgs s_29) (defBody s_29) (defScope s_29) .none kV29 dc29 pm29 an29 cd29 ct29), sl29⟩) (c29 : PySem.W.codeIn K cd29 "_law_moebius" = true) (k29 : PySem.W.keepIn K (.ref f29) = true)
    (a30 : PySem.W.nsIn K mainGlobals "_law_two" = some (some (.ref f30))) (l30 : K.lookup f30 = some ⟨oc30, od30, .func (PySem.W.fnOf "_law_two" "_law_two" (defArgs s_30) (defBody s_30) (defScope s_30) .none kV30 dc30 pm30 an30 cd30 ct30), sl30⟩) (c30 : PySem.W.codeIn K cd30 "_law_two" = true) (k30 : PySem.W.keepIn K (.ref f30) = true)
    (a31 : PySem.W.nsIn K mainGlobals "_law_right" = some (some (.ref f31))) (l31 : K.lookup f31 = some ⟨oc31, od31, .func (PySem.W.fnOf "_law_right" "_law_right" (defArgs s_31) (defBody s_31) (defScope s_31) .none kV31 dc31 pm31 an31 cd31 ct31), sl31⟩) (c31 : PySem.W.codeIn K cd31 "_law_right" = true) (k31 : PySem.W.keepIn K (.ref f31) = true)
    (a32 : PySem.W.nsIn K mainGlobals "law" = some (some (.ref f32))) (l32 : K.lookup f32 = some ⟨oc32, od32, .func (PySem.W.fnOf "law" "law" (defArgs s_32) (defBody s_32) (defScope s_32) .none kV32 dc32 pm32 an32 cd32 ct32), sl32⟩) (c32 : PySem.W.codeIn K cd32 "law" = true) (k32 : PySem.W.keepIn K (.ref f32) = true)
    {tk0 : Tok} (q0 : PySem.W.nsIn K mainGlobals "FAR" = some (some (.int (1000000000000000000000000000000000000000000000000000000000000) tk0)))
    {tk1 : Tok} (q1 : PySem.W.nsIn K mainGlobals "LEFT" = some (some (.str ("l" : Str) tk1)))
    {tk2 : Tok} (q2 : PySem.W.nsIn K mainGlobals "MOST_COUNTED" = some (some (.int (200) tk2)))
    {tk3 : Tok} (q3 : PySem.W.nsIn K mainGlobals "MOST_LISTED" = some (some (.int (14) tk3)))
    {tk4 : Tok} (q4 : PySem.W.nsIn K mainGlobals "MOST_SIGNS" = some (some (.int (24) tk4)))
    {tk5 : Tok} (q5 : PySem.W.nsIn K mainGlobals "RIGHT" = some (some (.str ("r" : Str) tk5)))
    {tk6 : Tok} (q6 : PySem.W.nsIn K mainGlobals "TOP" = some (some (.str ("c" : Str) tk6)))
    {d0 : Addr} {es0 : Array DictEntry} {dn0 : Nat} (dq0 : PySem.W.nsIn K mainGlobals "PLACES" = some (some (.ref d0))) (dl0 : K.lookup d0 = some ⟨.type "dict", none, .dict es0 dn0, #[]⟩) (dk0 : PySem.W.KeysLit w.params es0.toList)
    {dt0_0 : Tok} (de0_0 : PySem.W.nsIn K d0 ("l" : Str) = some (some (.int (-1) dt0_0)))
    {dt0_1 : Tok} (de0_1 : PySem.W.nsIn K d0 ("c" : Str) = some (some (.int (0) dt0_1)))
    {dt0_2 : Tok} (de0_2 : PySem.W.nsIn K d0 ("r" : Str) = some (some (.int (1) dt0_2)))
    (z0 : PySem.W.nsIn K mainGlobals "abs" = some none)
    (z1 : PySem.W.nsIn K mainGlobals "all" = some none)
    (z2 : PySem.W.nsIn K mainGlobals "bool" = some none)
    (z3 : PySem.W.nsIn K mainGlobals "int" = some none)
    (z4 : PySem.W.nsIn K mainGlobals "isinstance" = some none)
    (z5 : PySem.W.nsIn K mainGlobals "len" = some none)
    (z6 : PySem.W.nsIn K mainGlobals "max" = some none)
    (z7 : PySem.W.nsIn K mainGlobals "min" = some none)
    (z8 : PySem.W.nsIn K mainGlobals "range" = some none)
    (z9 : PySem.W.nsIn K mainGlobals "repr" = some none)
    (z10 : PySem.W.nsIn K mainGlobals "sorted" = some none)
    (z11 : PySem.W.nsIn K mainGlobals "str" = some none)
    (z12 : PySem.W.nsIn K mainGlobals "tuple" = some none)
    (z13 : PySem.W.nsIn K mainGlobals "zip" = some none) :
    ∃ (G : Gv) (fd : FuncData), G.K = K ∧ (∀ (s : Shared) (v : Value), BindsTo s fd ⟨[v], []⟩ [("script", v)]) ∧ ∀ base : Heap, K.In base → base.Ns mainGlobals mg → FnG l.prog w K mg base 10 fa fd ["script"] (spD G 1 m_32) := by
  have hbind : ∀ (s : Shared) (v : Value), BindsTo s (PySem.W.fnOf "law" "law" (defArgs s_32) (defBody s_32) (defScope s_32) .none kV32 dc32 pm32 an32 cd32 ct32) ⟨[v], []⟩ [("script", v)] := fun s v => .of_eq rfl
  have e := hfa.symm.trans (PySem.W.mg_of X G a32)
  cases e
  have F0 := fun_mk (st := s_0) l0 c0 k0
  have F1 := fun_mk (st := s_1) l1 c1 k1
  have F2 := fun_mk (st := s_2) l2 c2 k2
  have F3 := fun_mk (st := s_3) l3 c3 k3
  have F4 := fun_mk (st := s_4) l4 c4 k4
  have F5 := fun_mk (st := s_5) l5 c5 k5
  have F6 := fun_mk (st := s_6) l6 c6 k6
  have F7 := fun_mk (st := s_7) l7 c7 k7
  have F8 := fun_mk (st := s_8) l8 c8 k8
  have F9 := fun_mk (st := s_9) l9 c9 k9
  have F10 := fun_mk (st := s_10) l10 c10 k10
  have F11 := fun_mk (st := s_11) l11 c11 k11
  have F12 := fun_mk (st := s_12) l12 c12 k12
  have F13 := fun_mk (st := s_13) l13 c13 k13
  have F14 := fun_mk (st := s_14) l14 c14 k14
  have F15 := fun_mk (st := s_15) l15 c15 k15
  have F16 := fun_mk (st := s_16) l16 c16 k16
  have F17 := fun_mk (st := s_17) l17 c17 k17
  have F18 := fun_mk (st := s_18) l18 c18 k18
  have F19 := fun_mk (st := s_19) l19 c19 k19
  have F20 := fun_mk (st := s_20) l20 c20 k20
  have F21 := fun_mk (st := s_21) l21 c21 k21
  have F22 := fun_mk (st := s_22) l22 c22 k22
  have F23 := fun_mk (st := s_23) l23 c23 k23
  have F24 := fun_mk (st := s_24) l24 c24 k24
  have F25 := fun_mk (st := s_25) l25 c25 k25
  have F26 := fun_mk (st := s_26) l26 c26 k26
  have F27 := fun_mk (st := s_27) l27 c27 k27
  have F28 := fun_mk (st := s_28) l28 c28 k28
  have F29 := fun_mk (st := s_29) l29 c29 k29
  have F30 := fun_mk (st := s_30) l30 c30 k30
  have F31 := fun_mk (st := s_31) l31 c31 k31
  have F32 := fun_mk (st := s_32) l32 c32 k32
  let fA : Nat → Addr := fun n => [f0, f1, f2, f3, f4, f5, f6, f7, f8, f9, f10, f11, f12, f13, f14, f15, f16, f17, f18, f19, f20, f21, f22, f23, f24, f25, f26, f27, f28, f29, f30, f31, fa].getD n 0
  let fD : Nat → FuncData := fun n => [PySem.W.fnOf "is_whole" "is_whole" (defArgs s_0) (defBody s_0) (defScope s_0) .none kV0 dc0 pm0 an0 cd0 ct0, PySem.W.fnOf "is_near" "is_near" (defArgs s_1) (defBody s_1) (defScope s_1) .none kV1 dc1 pm1 an1 cd1 ct1, PySem.W.fnOf "require_number" "require_number" (defArgs s_2) (defBody s_2) (defScope s_2) .none kV2 dc2 pm2 an2 cd2 ct2, PySem.W.fnOf "is_word_in" "is_word_in" (defArgs s_3) (defBody s_3) (defScope s_3) .none kV3 dc3 pm3 an3 cd3 ct3, PySem.W.fnOf "key_of_signs" "key_of_signs" (defArgs s_4) (defBody s_4) (defScope s_4) .none kV4 dc4 pm4 an4 cd4 ct4, PySem.W.fnOf "words_compared" "words_compared" (defArgs s_5) (defBody s_5) (defScope s_5) .none kV5 dc5 pm5 an5 cd5 ct5, PySem.W.fnOf "shifted" "shifted" (defArgs s_6) (defBody s_6) (defScope s_6) .none kV6 dc6 pm6 an6 cd6 ct6, PySem.W.fnOf "beaten_at" "beaten_at" (defArgs s_7) (defBody s_7) (defScope s_7) .none kV7 dc7 pm7 an7 cd7 ct7, PySem.W.fnOf "is_greatest_in" "is_greatest_in" (defArgs s_8) (defBody s_8) (defScope s_8) .none kV8 dc8 pm8 an8 cd8 ct8, PySem.W.fnOf "all_words" "all_words" (defArgs s_9) (defBody s_9) (defScope s_9) .none kV9 dc9 pm9 an9 cd9 ct9, PySem.W.fnOf "greatest_words_in" "greatest_words_in" (defArgs s_10) (defBody s_10) (defScope s_10) .none kV10 dc10 pm10 an10 cd10 ct10, PySem.W.fnOf "moebius_in" "moebius_in" (defArgs s_11) (defBody s_11) (defScope s_11) .none kV11 dc11 pm11 an11 cd11 ct11, PySem.W.fnOf "count_greatest_in" "count_greatest_in" (defArgs s_12) (defBody s_12) (defScope s_12) .none kV12 dc12 pm12 an12 cd12 ct12, PySem.W.fnOf "require_word" "require_word" (defArgs s_13) (defBody s_13) (defScope s_13) .none kV13 dc13 pm13 an13 cd13 ct13, PySem.W.fnOf "require_two_words" "require_two_words" (defArgs s_14) (defBody s_14) (defScope s_14) .none kV14 dc14 pm14 an14 cd14 ct14, PySem.W.fnOf "is_above" "is_above" (defArgs s_15) (defBody s_15) (defScope s_15) .none kV15 dc15 pm15 an15 cd15 ct15, PySem.W.fnOf "greatest_words" "greatest_words" (defArgs s_16) (defBody s_16) (defScope s_16) .none kV16 dc16 pm16 an16 cd16 ct16, PySem.W.fnOf "count_greatest" "count_greatest" (defArgs s_17) (defBody s_17) (defScope s_17) .none kV17 dc17 pm17 an17 cd17 ct17, PySem.W.fnOf "_law_dice" "_law_dice" (defArgs s_18) (defBody s_18) (defScope s_18) .none kV18 dc18 pm18 an18 cd18 ct18, PySem.W.fnOf "_law_roll" "_law_roll" (defArgs s_19) (defBody s_19) (defScope s_19) .none kV19 dc19 pm19 an19 cd19 ct19, PySem.W.fnOf "_law_is_integer" "_law_is_integer" (defArgs s_20) (defBody s_20) (defScope s_20) .none kV20 dc20 pm20 an20 cd20 ct20, PySem.W.fnOf "_law_is_line" "_law_is_line" (defArgs s_21) (defBody s_21) (defScope s_21) .none kV21 dc21 pm21 an21 cd21 ct21, PySem.W.fnOf "_law_is_round" "_law_is_round" (defArgs s_22) (defBody s_22) (defScope s_22) .none kV22 dc22 pm22 an22 cd22 ct22, PySem.W.fnOf "_law_bump_rounds" "_law_bump_rounds" (defArgs s_23) (defBody s_23) (defScope s_23) .none kV23 dc23 pm23 an23 cd23 ct23, PySem.W.fnOf "_law_is_above" "_law_is_above" (defArgs s_24) (defBody s_24) (defScope s_24) .none kV24 dc24 pm24 an24 cd24 ct24, PySem.W.fnOf "_law_shifts" "_law_shifts" (defArgs s_25) (defBody s_25) (defScope s_25) .none kV25 dc25 pm25 an25 cd25 ct25, PySem.W.fnOf "_law_is_greatest" "_law_is_greatest" (defArgs s_26) (defBody s_26) (defScope s_26) .none kV26 dc26 pm26 an26 cd26 ct26, PySem.W.fnOf "_law_every" "_law_every" (defArgs s_27) (defBody s_27) (defScope s_27) .none kV27 dc27 pm27 an27 cd27 ct27, PySem.W.fnOf "_law_count" "_law_count" (defArgs s_28) (defBody s_28) (defScope s_28) .none kV28 dc28 pm28 an28 cd28 ct28, PySem.W.fnOf "_law_moebius" "_law_moebius" (defArgs s_29) (defBody s_29) (defScope s_29) .none kV29 dc29 pm29 an29 cd29 ct29, PySem.W.fnOf "_law_two" "_law_two" (defArgs s_30) (defBody s_30) (defScope s_30) .none kV30 dc30 pm30 an30 cd30 ct30, PySem.W.fnOf "_law_right" "_law_right" (defArgs s_31) (defBody s_31) (defScope s_31) .none kV31 dc31 pm31 an31 cd31 ct31, PySem.W.fnOf "law" "law" (defArgs s_32) (defBody s_32) (defScope s_32) .none kV32 dc32 pm32 an32 cd32 ct32].getD n (PySem.W.fnOf "law" "law" (defArgs s_32) (defBody s_32) (defScope s_32) .none kV32 dc32 pm32 an32 cd32 ct32)
  let Gz : Gv := ⟨K, fun _ => none, fun _ => False, fun _ => none, fun _ => ""⟩
  have T : Tx Gz mg fA fD w := ⟨F0, PySem.W.mg_of X G a0, F0.binds (ps := ["value"]) fun _ _ _ _ _ _ us hl => match us, hl with | [_], _ => rfl,
    F1, PySem.W.mg_of X G a1, F1.binds (ps := ["value"]) fun _ _ _ _ _ _ us hl => match us, hl with | [_], _ => rfl,
    F2, PySem.W.mg_of X G a2, F2.binds (ps := ["value", "least", "most"]) fun _ _ _ _ _ _ us hl => match us, hl with | [_, _, _], _ => rfl,
    F3, PySem.W.mg_of X G a3, F3.binds (ps := ["value"]) fun _ _ _ _ _ _ us hl => match us, hl with | [_], _ => rfl,
    F4, PySem.W.mg_of X G a4, F4.binds (ps := ["signs"]) fun _ _ _ _ _ _ us hl => match us, hl with | [_], _ => rfl,
    F5, PySem.W.mg_of X G a5, F5.binds (ps := ["one", "other"]) fun _ _ _ _ _ _ us hl => match us, hl with | [_, _], _ => rfl,
    F6, PySem.W.mg_of X G a6, F6.binds (ps := ["word", "i"]) fun _ _ _ _ _ _ us hl => match us, hl with | [_, _], _ => rfl,
    F7, PySem.W.mg_of X G a7, F7.binds (ps := ["word"]) fun _ _ _ _ _ _ us hl => match us, hl with | [_], _ => rfl,
    F8, PySem.W.mg_of X G a8, F8.binds (ps := ["word"]) fun _ _ _ _ _ _ us hl => match us, hl with | [_], _ => rfl,
    F9, PySem.W.mg_of X G a9, F9.binds (ps := ["n"]) fun _ _ _ _ _ _ us hl => match us, hl with | [_], _ => rfl,
    F10, PySem.W.mg_of X G a10, F10.binds (ps := ["n"]) fun _ _ _ _ _ _ us hl => match us, hl with | [_], _ => rfl,
    F11, PySem.W.mg_of X G a11, F11.binds (ps := ["number"]) fun _ _ _ _ _ _ us hl => match us, hl with | [_], _ => rfl,
    F12, PySem.W.mg_of X G a12, F12.binds (ps := ["n"]) fun _ _ _ _ _ _ us hl => match us, hl with | [_], _ => rfl,
    F13, PySem.W.mg_of X G a13, F13.binds (ps := ["value"]) fun _ _ _ _ _ _ us hl => match us, hl with | [_], _ => rfl,
    F14, PySem.W.mg_of X G a14, F14.binds (ps := ["word", "other"]) fun _ _ _ _ _ _ us hl => match us, hl with | [_, _], _ => rfl,
    F15, PySem.W.mg_of X G a15, F15.binds (ps := ["word", "other"]) fun _ _ _ _ _ _ us hl => match us, hl with | [_, _], _ => rfl,
    F16, PySem.W.mg_of X G a16, F16.binds (ps := ["n"]) fun _ _ _ _ _ _ us hl => match us, hl with | [_], _ => rfl,
    F17, PySem.W.mg_of X G a17, F17.binds (ps := ["n"]) fun _ _ _ _ _ _ us hl => match us, hl with | [_], _ => rfl,
    F18, PySem.W.mg_of X G a18, F18.binds (ps := ["script", "spot"]) fun _ _ _ _ _ _ us hl => match us, hl with | [_, _], _ => rfl,
    F19, PySem.W.mg_of X G a19, F19.binds (ps := ["dice", "total"]) fun _ _ _ _ _ _ us hl => match us, hl with | [_, _], _ => rfl,
    F20, PySem.W.mg_of X G a20, F20.binds (ps := ["value", "least", "most"]) fun _ _ _ _ _ _ us hl => match us, hl with | [_, _, _], _ => rfl,
    F21, PySem.W.mg_of X G a21, F21.binds (ps := ["value"]) fun _ _ _ _ _ _ us hl => match us, hl with | [_], _ => rfl,
    F22, PySem.W.mg_of X G a22, F22.binds (ps := ["value"]) fun _ _ _ _ _ _ us hl => match us, hl with | [_], _ => rfl,
    F23, PySem.W.mg_of X G a23, F23.binds (ps := ["n"]) fun _ _ _ _ _ _ us hl => match us, hl with | [_], _ => rfl,
    F24, PySem.W.mg_of X G a24, F24.binds (ps := ["one", "other"]) fun _ _ _ _ _ _ us hl => match us, hl with | [_, _], _ => rfl,
    F25, PySem.W.mg_of X G a25, F25.binds (ps := ["word"]) fun _ _ _ _ _ _ us hl => match us, hl with | [_], _ => rfl,
    F26, PySem.W.mg_of X G a26, F26.binds (ps := ["word"]) fun _ _ _ _ _ _ us hl => match us, hl with | [_], _ => rfl,
    F27, PySem.W.mg_of X G a27, F27.binds (ps := ["n"]) fun _ _ _ _ _ _ us hl => match us, hl with | [_], _ => rfl,
    F28, PySem.W.mg_of X G a28, F28.binds (ps := ["n"]) fun _ _ _ _ _ _ us hl => match us, hl with | [_], _ => rfl,
    F29, PySem.W.mg_of X G a29, F29.binds (ps := ["number"]) fun _ _ _ _ _ _ us hl => match us, hl with | [_], _ => rfl,
    F30, PySem.W.mg_of X G a30, F30.binds (ps := ["many"]) fun _ _ _ _ _ _ us hl => match us, hl with | [_], _ => rfl,
    F31, PySem.W.mg_of X G a31, F31.binds (ps := ["dice"]) fun _ _ _ _ _ _ us hl => match us, hl with | [_], _ => rfl,
    F32, PySem.W.mg_of X G a32, F32.binds (ps := ["script"]) fun _ _ _ _ _ _ us hl => match us, hl with | [_], _ => rfl,
    ⟨_, PySem.W.mg_of X G q0⟩,
    ⟨_, PySem.W.mg_of X G q1⟩,
    ⟨_, PySem.W.mg_of X G q2⟩,
    ⟨_, PySem.W.mg_of X G q3⟩,
    ⟨_, PySem.W.mg_of X G q4⟩,
    ⟨_, PySem.W.mg_of X G q5⟩,
    ⟨_, PySem.W.mg_of X G q6⟩,
    ⟨_, PySem.W.mg_of X G dq0, kd_of dl0 dk0 fun p hp => by
      simp only [T_PLACES, List.mem_cons, List.not_mem_nil, or_false] at hp
      rcases hp with rfl | rfl | rfl
      · exact ⟨_, de0_0⟩
      · exact ⟨_, de0_1⟩
      · exact ⟨_, de0_2⟩⟩,
    PySem.W.mg_none_of X G z0,
    PySem.W.mg_none_of X G z1,
    PySem.W.mg_none_of X G z2,
    PySem.W.mg_none_of X G z3,
    PySem.W.mg_none_of X G z4,
    PySem.W.mg_none_of X G z5,
    PySem.W.mg_none_of X G z6,
    PySem.W.mg_none_of X G z7,
    PySem.W.mg_none_of X G z8,
    PySem.W.mg_none_of X G z9,
    PySem.W.mg_none_of X G z10,
    PySem.W.mg_none_of X G z11,
    PySem.W.mg_none_of X G z12,
    PySem.W.mg_none_of X G z13⟩
  exact ⟨Gz, _, rfl, hbind, fun base _ _ => ok_32 T⟩
end Law

open PySem PySem.W PyProof.Rows
set_option maxRecDepth 100000 in
set_option maxHeartbeats 0 in
theorem PySem.Challenge.cw_roundsforce_k47_whole_lists_of_greatest_holds : PySem.Challenge.rw_roundsforce_k47_whole_lists_of_greatest.Holds := by
  w_on; o_law; k_head; (case hw => w_witness2)
  k_fill
  refine DM.walk_end (l := PySem.Challenge.rw_roundsforce_k47_whole_lists_of_greatest) (k := 10) (x := "script") (fz := fun _ _ _ => none) Law.law_true rfl rfl ⟨rfl, by decide, by decide⟩ (fun w h Y => PySem.W.kIn_of Y) ?FF
  case FF =>
    intro w mg fa h KX G hmg
    refine' Law.all_mk KX G hmg ?a0 ?l0 ?c0 ?k0 ?a1 ?l1 ?c1 ?k1 ?a2 ?l2 ?c2 ?k2 ?a3 ?l3 ?c3 ?k3 ?a4 ?l4 ?c4 ?k4 ?a5 ?l5 ?c5 ?k5 ?a6 ?l6 ?c6 ?k6 ?a7 ?l7 ?c7 ?k7 ?a8 ?l8 ?c8 ?k8 ?a9 ?l9 ?c9 ?k9 ?a10 ?l10 ?c10 ?k10 ?a11 ?l11 ?c11 ?k11 ?a12 ?l12 ?c12 ?k12 ?a13 ?l13 ?c13 ?k13 ?a14 ?l14 ?c14 ?k14 ?a15 ?l15 ?c15 ?k15 ?a16 ?l16 ?c16 ?k16 ?a17 ?l17 ?c17 ?k17 ?a18 ?l18 ?c18 ?k18 ?a19 ?l19 ?c19 ?k19 ?a20 ?l20 ?c20 ?k20 ?a21 ?l21 ?c21 ?k21 ?a22 ?l22 ?c22 ?k22 ?a23 ?l23 ?c23 ?k23 ?a24 ?l24 ?c24 ?k24 ?a25 ?l25 ?c25 ?k25 ?a26 ?l26 ?c26 ?k26 ?a27 ?l27 ?c27 ?k27 ?a28 ?l28 ?c28 ?k28 ?a29 ?l29 ?c29 ?k29 ?a30 ?l30 ?c30 ?k30 ?a31 ?l31 ?c31 ?k31 ?a32 ?l32 ?c32 ?k32 ?q0 ?q1 ?q2 ?q3 ?q4 ?q5 ?q6 ?dq0 ?dl0 ?dk0 ?de0_0 ?de0_1 ?de0_2 ?z0 ?z1 ?z2 ?z3 ?z4 ?z5 ?z6 ?z7 ?z8 ?z9 ?z10 ?z11 ?z12 ?z13
    (case a0 => k_is); (case l0 => k_is); (case c0 => k_is); (case k0 => k_is); (case a1 => k_is); (case l1 => k_is); (case c1 => k_is); (case k1 => k_is); (case a2 => k_is); (case l2 => k_is); (case c2 => k_is); (case k2 => k_is); (case a3 => k_is); (case l3 => k_is); (case c3 => k_is); (case k3 => k_is); (case a4 => k_is); (case l4 => k_is); (case c4 => k_is); (case k4 => k_is); (case a5 => k_is); (case l5 => k_is); (case c5 => k_is); (case k5 => k_is); (case a6 => k_is); (case l6 => k_is); (case c6 => k_is); (case k6 => k_is); (case a7 => k_is); (case l7 => k_is); (case c7 => k_is); (case k7 => k_is); (case a8 => k_is); (case l8 => k_is); (case c8 => k_is); (case k8 => k_is); (case a9 => k_is); (case l9 => k_is); (case c9 => k_is); (case k9 => k_is); (case a10 => k_is); (case l10 => k_is); (case c10 => k_is); (case k10 => k_is); (case a11 => k_is); (case l11 => k_is); (case c11 => k_is); (case k11 => k_is); (case a12 => k_is); (case l12 => k_is); (case c12 => k_is); (case k12 => k_is); (case a13 => k_is); (case l13 => k_is); (case c13 => k_is); (case k13 => k_is); (case a14 => k_is); (case l14 => k_is); (case c14 => k_is); (case k14 => k_is); (case a15 => k_is); (case l15 => k_is); (case c15 => k_is); (case k15 => k_is); (case a16 => k_is); (case l16 => k_is); (case c16 => k_is); (case k16 => k_is); (case a17 => k_is); (case l17 => k_is); (case c17 => k_is); (case k17 => k_is); (case a18 => k_is); (case l18 => k_is); (case c18 => k_is); (case k18 => k_is); (case a19 => k_is); (case l19 => k_is); (case c19 => k_is); (case k19 => k_is); (case a20 => k_is); (case l20 => k_is); (case c20 => k_is); (case k20 => k_is); (case a21 => k_is); (case l21 => k_is); (case c21 => k_is); (case k21 => k_is); (case a22 => k_is); (case l22 => k_is); (case c22 => k_is); (case k22 => k_is); (case a23 => k_is); (case l23 => k_is); (case c23 => k_is); (case k23 => k_is); (case a24 => k_is); (case l24 => k_is); (case c24 => k_is); (case k24 => k_is); (case a25 => k_is); (case l25 => k_is); (case c25 => k_is); (case k25 => k_is); (case a26 => k_is); (case l26 => k_is); (case c26 => k_is); (case k26 => k_is); (case a27 => k_is); (case l27 => k_is); (case c27 => k_is); (case k27 => k_is); (case a28 => k_is); (case l28 => k_is); (case c28 => k_is); (case k28 => k_is); (case a29 => k_is); (case l29 => k_is); (case c29 => k_is); (case k29 => k_is); (case a30 => k_is); (case l30 => k_is); (case c30 => k_is); (case k30 => k_is); (case a31 => k_is); (case l31 => k_is); (case c31 => k_is); (case k31 => k_is); (case a32 => k_is); (case l32 => k_is); (case c32 => k_is); (case k32 => k_is); (case q0 => k_is); (case q1 => k_is); (case q2 => k_is); (case q3 => k_is); (case q4 => k_is); (case q5 => k_is); (case q6 => k_is); (case dq0 => k_is); (case dl0 => k_is); (case dk0 => exact ⟨⟨_, _, rfl, rfl⟩, ⟨_, _, rfl, rfl⟩, ⟨_, _, rfl, rfl⟩, trivial⟩); (case de0_0 => k_is); (case de0_1 => k_is); (case de0_2 => k_is); (case z0 => k_is); (case z1 => k_is); (case z2 => k_is); (case z3 => k_is); (case z4 => k_is); (case z5 => k_is); (case z6 => k_is); (case z7 => k_is); (case z8 => k_is); (case z9 => k_is); (case z10 => k_is); (case z11 => k_is); (case z12 => k_is); (case z13 => k_is)
