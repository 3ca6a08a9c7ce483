import PyProof.Rows.All
import Wide.All
import OpenK.AllK
import Wide.FinOn
import HandS.ForExc
import HandS.ForMost
import HandS.Wide
import HandS.TryMany
import HandS.Lambda
import HandS.TupAny
import HandS.TupMul
import HandS.Flow
import HandS.Deep
import HandS.ExcOwn
import HandS.WordsExc
import HandS.Zip
import HandS.Iter
import HandS.Comp
import HandS.IsInst
import HandS.RaiseMore
import KE.SortData
import HandS.Ends
import HandS.DictComp
import HandS.SortInts
import KE.SortKeyHeap
import HandS.SortKw
import PyProof.ReprRoads
import KE.KIndexOf
import KE.DataMinMax
import HandS.Style
import HandS.More
import KE.DataCmp
import KE.DataFind
import PyProof.StrOps2
import KE.GoesMore
import KE.GoesEnum
import KE.KExcLine
import HandS.ExcInit
import HandS.ExcField
import HandS.ExcIs
import HandS.EndTab
import HandS.Star
import HandS.Conv
import KE.KTupSum
import PyProof.AutoSeq1
import PySem.Challenge.RW_roundsforce_k48_errors_of_words
set_option Elab.async false
set_option linter.all false
set_option maxRecDepth 100000
namespace DM
open PySem PySem.Spec L2
open PyProof.Rows hiding St

/-- the built-in classes that a program names -/
inductive Ty where
  | none | bool | int | str | tuple | list | dict
  deriving DecidableEq
def Ty.name : Ty → String
  | .none => "NoneType" | .bool => "bool" | .int => "int" | .str => "str" | .tuple => "tuple" | .list => "list" | .dict => "dict"
/-- a datum: immutable things by what they are; `lst`: a list that nobody changes any more; `ref`: a cell of the store -/
inductive D where
  | non | bl (b : Bool) | int (i : Int) | str (s : Str)
  | tup (ds : List D) | lst (ds : List D) | kst (ds : List D) | brw (ds : List D) | pr (ds : List D) | ref (n : Nat) | fn (n : Nat) | ty (s : Ty) | edc
/-- a cell of the store -/
inductive C where
  | lst (ds : List D)
  | dct (kvs : List (Key × D))
  /-- a list that is being made, its last item first -/
  | rev (ds : List D) (k : Nat)
abbrev Store := List C
abbrev Env := List (Option D)

/-- what is fixed: the written part, the addresses of the defs -/
structure Gv where
  K : PySem.W.Frag
  fa : Nat → Option Addr
  /-- the cells of those who called -/
  ph : Addr → Prop
  /-- the own error classes by number, the name under which one keeps its value -/
  ca : Nat → Option Addr
  cn : Nat → Str
  /-- the tables of code objects, with the names of those code objects -/
  tt : List (Addr × Str)

/-- a list that nobody changes, locked or written (the script) -/
def FL (K : PySem.W.Frag) (H : Hp) (a : Addr) (xs : List V) : Prop :=
  (∃ o, H a = some (.frz o (.lst xs))) ∨
    ∃ (o : Obj) (its : Array Value) (n : Nat), K.lookup a = some o ∧ o.cls = .type "list" ∧ o.dict = none ∧ o.data = .seq its n ∧ its.size ≤ sizeLine ∧ Vals xs its.toList
theorem FL.sq {K : PySem.W.Frag} {H : Hp} {a : Addr} {xs : List V} (h : FL K H a xs) : SqL K H a xs := by
  rcases h with ⟨o, h⟩ | h
  · exact .inl (.inr ⟨o, h⟩)
  · exact .inr h

/-- a tuple whose object is known to have no dict of its own -/
def TupF (K : PySem.W.Frag) (H : Hp) (a : Addr) (xs : List V) : Prop :=
  (∃ o : Obj, H a = some (.frz o (.tup xs)) ∧ o.cls = .type "tuple" ∧ o.dict = none) ∨
    ∃ (o : Obj) (its : Array Value) (n : Nat), K.lookup a = some o ∧ o.cls = .type "tuple" ∧ o.dict = none ∧ o.data = .seq its n ∧ its.size ≤ sizeLine ∧ Vals xs its.toList
theorem TupF.sq {K : PySem.W.Frag} {H : Hp} {a : Addr} {xs : List V} (h : TupF K H a xs) : SqT K H a xs := by
  rcases h with ⟨o, h, _⟩ | ⟨o, its, n, h1, h2, _, h4⟩
  · exact .inl (.inr ⟨o, h⟩)
  · exact .inr ⟨o, its, n, h1, h2, h4⟩
theorem TupF.new {K : PySem.W.Frag} {H : Hp} {a : Addr} {xs : List V} {o : Obj} (h1 : o.cls = .type "tuple") (h2 : o.dict = none) : TupF K (upd H a (.frz o (.tup xs))) a xs := .inl ⟨o, upd_same, h1, h2⟩

mutual
inductive RD (G : Gv) (θ : List Addr) (H : Hp) : D → V → Prop
  | non : RD G θ H .non .non
  | bl (b : Bool) : RD G θ H (.bl b) (.bl b)
  | int (i : Int) : RD G θ H (.int i) (.int i)
  | str (s : Str) : RD G θ H (.str s) (.str s)
  | ty (s : Ty) : RD G θ H (.ty s) (.ty s.name)
  | tup {a : Addr} {xs : List V} {ds : List D} : TupF G.K H a xs → RDs G θ H ds xs → RD G θ H (.tup ds) (.ref a)
  | pr {a : Addr} {xs : List V} {ds : List D} : SqT G.K H a xs → RDs G θ H ds xs → RD G θ H (.pr ds) (.ref a)
  | lst {a : Addr} {xs : List V} {ds : List D} : ¬ G.ph a → a ∉ θ → H a = some (.lst xs) → RDs G θ H ds xs → RD G θ H (.lst ds) (.ref a)
  | brw {a : Addr} {xs : List V} {ds : List D} : a ∉ θ → H a = some (.lst xs) → RDs G θ H ds xs → RD G θ H (.brw ds) (.ref a)
  | kst {a : Addr} {xs : List V} {ds : List D} : FL G.K H a xs → RDs G θ H ds xs → RD G θ H (.kst ds) (.ref a)
  | ref {n : Nat} {a : Addr} : θ[n]? = some a → RD G θ H (.ref n) (.ref a)
  | fn {n : Nat} {a : Addr} : G.fa n = some a → RD G θ H (.fn n) (.ref a)
  | edc {a : Addr} : ¬ G.ph a → a ∉ θ → H a = some (.dK []) → RD G θ H .edc (.ref a)
inductive RDs (G : Gv) (θ : List Addr) (H : Hp) : List D → List V → Prop
  | nil : RDs G θ H [] []
  | cons {d : D} {v : V} {ds : List D} {vs : List V} : RD G θ H d v → RDs G θ H ds vs → RDs G θ H (d :: ds) (v :: vs)
end

/-- objects that are not tables, and that are tuples or no cells, stay -/
def notTbl : HO → Prop
  | .tbl _ => False
  | _ => True
def isTup : HO → Prop
  | .tup _ => True
  | .frz _ _ => True
  | _ => False
structure Keep (θ : List Addr) (H H' : Hp) : Prop where
  st : ∀ a o, H a = some o → (a ∉ θ ∨ isTup o) → notTbl o → H' a = some o
  gr : ∀ a, H' a = none → H a = none
theorem Keep.refl {θ : List Addr} {H : Hp} : Keep θ H H := ⟨fun _ _ e _ _ => e, fun _ e => e⟩
/-- the store has grown by new cells -/
structure Ext (θ : List Addr) (H : Hp) (θ' : List Addr) (H' : Hp) : Prop where
  pre : ∃ nw, θ' = θ ++ nw ∧ ∀ a ∈ nw, H a = none
  keep : Keep θ H H'
theorem Ext.refl {θ : List Addr} {H : Hp} : Ext θ H θ H := ⟨⟨[], by simp, by simp⟩, .refl⟩
theorem Ext.of_keep {θ : List Addr} {H H' : Hp} (k : Keep θ H H') : Ext θ H θ H' := ⟨⟨[], by simp, by simp⟩, k⟩
theorem Ext.get {θ θ' : List Addr} {H H' : Hp} (e : Ext θ H θ' H') {n : Nat} {a : Addr} (h : θ[n]? = some a) : θ'[n]? = some a := by
  obtain ⟨nw, rfl, _⟩ := e.pre
  rw [List.getElem?_append_left (List.getElem?_eq_some_iff.mp h).1]
  exact h
theorem Ext.not_mem {θ θ' : List Addr} {H H' : Hp} (e : Ext θ H θ' H') {a : Addr} {o : HO} (h : a ∉ θ) (t : H a = some o) : a ∉ θ' := by
  obtain ⟨nw, rfl, hn⟩ := e.pre
  intro m
  rcases List.mem_append.mp m with m | m
  · exact h m
  · rw [hn a m] at t; cases t
theorem Ext.trans {θ θ1 θ2 : List Addr} {H H1 H2 : Hp} (e : Ext θ H θ1 H1) (f : Ext θ1 H1 θ2 H2) : Ext θ H θ2 H2 := by
  refine ⟨?_, ⟨fun a o h c t => ?_, fun a h => e.keep.gr a (f.keep.gr a h)⟩⟩
  · obtain ⟨n1, rfl, h1⟩ := id e.pre
    obtain ⟨n2, rfl, h2⟩ := f.pre
    refine ⟨n1 ++ n2, by simp, fun a m => ?_⟩
    rcases List.mem_append.mp m with m | m
    · exact h1 a m
    · exact e.keep.gr a (h2 a m)
  · have h1 := e.keep.st a o h c t
    refine f.keep.st a o h1 ?_ t
    rcases c with c | c
    · exact .inl (e.not_mem c h)
    · exact .inr c
theorem Rd.keep {θ : List Addr} {H H' : Hp} (k : Keep θ H H') {a : Addr} {u : HO} (h : Rd H a u) (c : a ∉ θ ∨ isTup u) (t : notTbl u) : Rd H' a u := by
  rcases h with h | ⟨o, h⟩
  · exact .inl (k.st a _ h c t)
  · exact .inr ⟨o, k.st a _ h (.inr trivial) trivial⟩
theorem Rd.ne {H : Hp} {a : Addr} {u : HO} (h : Rd H a u) : ∃ o, H a = some o := by
  rcases h with h | ⟨o, h⟩
  · exact ⟨_, h⟩
  · exact ⟨_, h⟩
theorem SqT.keep {K : PySem.W.Frag} {θ : List Addr} {H H' : Hp} (k : Keep θ H H') {a : Addr} {xs : List V} (h : SqT K H a xs) : SqT K H' a xs := by
  rcases h with h | h
  · exact .inl (Rd.keep k h (.inr trivial) trivial)
  · exact .inr h
theorem TupF.keep {K : PySem.W.Frag} {θ : List Addr} {H H' : Hp} (k : Keep θ H H') {a : Addr} {xs : List V} (h : TupF K H a xs) : TupF K H' a xs := by
  rcases h with ⟨o, h, r⟩ | h
  · exact .inl ⟨o, k.st a _ h (.inr trivial) trivial, r⟩
  · exact .inr h
theorem FL.ext {K : PySem.W.Frag} {θ θ' : List Addr} {H H' : Hp} (e : Ext θ H θ' H') {a : Addr} {xs : List V} (h : FL K H a xs) : FL K H' a xs := by
  rcases h with ⟨o, h⟩ | h
  · exact .inl ⟨o, e.keep.st a _ h (.inr trivial) trivial⟩
  · exact .inr h
section
variable {G : Gv} {θ θ' : List Addr} {H H' : Hp}
mutual
theorem RD.ext (e : Ext θ H θ' H') : ∀ {d : D} {v : V}, RD G θ H d v → RD G θ' H' d v
  | _, _, .non => .non
  | _, _, .bl b => .bl b
  | _, _, .int i => .int i
  | _, _, .str s => .str s
  | _, _, .ty s => .ty s
  | _, _, .tup h1 h2 => .tup (TupF.keep e.keep h1) (RDs.ext e h2)
  | _, _, .pr h1 h2 => .pr (SqT.keep e.keep h1) (RDs.ext e h2)
  | _, _, .lst h0 h1 h2 h3 => .lst h0 (e.not_mem h1 h2) (e.keep.st _ _ h2 (.inl h1) trivial) (RDs.ext e h3)
  | _, _, .brw h1 h2 h3 => .brw (e.not_mem h1 h2) (e.keep.st _ _ h2 (.inl h1) trivial) (RDs.ext e h3)
  | _, _, .kst h1 h2 => .kst (FL.ext e h1) (RDs.ext e h2)
  | _, _, .ref h => .ref (e.get h)
  | _, _, .fn h => .fn h
  | _, _, .edc h0 h1 h2 => .edc h0 (e.not_mem h1 h2) (e.keep.st _ _ h2 (.inl h1) trivial)
theorem RDs.ext (e : Ext θ H θ' H') : ∀ {ds : List D} {vs : List V}, RDs G θ H ds vs → RDs G θ' H' ds vs
  | _, _, .nil => .nil
  | _, _, .cons h1 h2 => .cons (RD.ext e h1) (RDs.ext e h2)
end
theorem RDs.length : ∀ {ds : List D} {vs : List V}, RDs G θ H ds vs → ds.length = vs.length
  | _, _, .nil => rfl
  | _, _, .cons _ h => congrArg (· + 1) (RDs.length h)
theorem RDs.get : ∀ {ds : List D} {vs : List V} {i : Nat} {d : D}, RDs G θ H ds vs → ds[i]? = some d → ∃ v, vs[i]? = some v ∧ RD G θ H d v
  | _, _, _, _, .nil, e => by simp at e
  | _, _, 0, _, .cons r _, e => by simp at e; subst e; exact ⟨_, rfl, r⟩
  | _, _, i + 1, d, .cons _ t, e => by
    obtain ⟨u, h1, h2⟩ := RDs.get (i := i) (d := d) t (by simpa using e)
    exact ⟨u, by simpa using h1, h2⟩
theorem RDs.getV : ∀ {ds : List D} {vs : List V} {i : Nat} {v : V}, RDs G θ H ds vs → vs[i]? = some v → ∃ d, ds[i]? = some d ∧ RD G θ H d v
  | _, _, _, _, .nil, e => by simp at e
  | _, _, 0, _, .cons r _, e => by simp at e; subst e; exact ⟨_, rfl, r⟩
  | _, _, i + 1, v, .cons _ t, e => by
    obtain ⟨u, h1, h2⟩ := RDs.getV (i := i) (v := v) t (by simpa using e)
    exact ⟨u, by simpa using h1, h2⟩
theorem RDs.append : ∀ {ds es : List D} {vs ws : List V}, RDs G θ H ds vs → RDs G θ H es ws → RDs G θ H (ds ++ es) (vs ++ ws)
  | _, _, _, _, .nil, s => s
  | _, _, _, _, .cons r t, s => .cons r (RDs.append t s)
theorem RDs.take : ∀ {ds : List D} {vs : List V} (n : Nat), RDs G θ H ds vs → RDs G θ H (ds.take n) (vs.take n)
  | _, _, 0, _ => .nil
  | _, _, _ + 1, .nil => .nil
  | _, _, n + 1, .cons r t => .cons r (RDs.take n t)
theorem RDs.drop : ∀ {ds : List D} {vs : List V} (n : Nat), RDs G θ H ds vs → RDs G θ H (ds.drop n) (vs.drop n)
  | _, _, 0, r => r
  | _, _, _ + 1, .nil => .nil
  | _, _, n + 1, .cons _ t => RDs.drop n t
theorem RDs.set {x : D} {u : V} (r : RD G θ H x u) : ∀ {ds : List D} {vs : List V} (i : Nat), RDs G θ H ds vs → RDs G θ H (ds.set i x) (vs.set i u)
  | _, _, _, .nil => .nil
  | _, _, 0, .cons _ t => .cons r t
  | _, _, i + 1, .cons q t => .cons q (RDs.set r i t)
theorem RDs.eraseIdx : ∀ {ds : List D} {vs : List V} (i : Nat), RDs G θ H ds vs → RDs G θ H (ds.eraseIdx i) (vs.eraseIdx i)
  | _, _, _, .nil => .nil
  | _, _, 0, .cons _ t => t
  | _, _, i + 1, .cons q t => .cons q (RDs.eraseIdx i t)
theorem RDs.reverse : ∀ {ds : List D} {vs : List V}, RDs G θ H ds vs → RDs G θ H ds.reverse vs.reverse
  | _, _, .nil => .nil
  | _, _, .cons r t => by
    rw [List.reverse_cons, List.reverse_cons]
    exact RDs.append (RDs.reverse t) (.cons r .nil)

/-- a dict's entries -/
inductive RK (G : Gv) (θ : List Addr) (H : Hp) : List (Key × D) → List (Key × V) → Prop
  | nil : RK G θ H [] []
  | cons {k : Key} {d : D} {v : V} {r : List (Key × D)} {s : List (Key × V)} : RD G θ H d v → RK G θ H r s → RK G θ H ((k, d) :: r) ((k, v) :: s)
theorem RK.ext (e : Ext θ H θ' H') : ∀ {r : List (Key × D)} {s : List (Key × V)}, RK G θ H r s → RK G θ' H' r s
  | _, _, .nil => .nil
  | _, _, .cons h t => .cons (h.ext e) (RK.ext e t)
theorem RK.length : ∀ {r : List (Key × D)} {s : List (Key × V)}, RK G θ H r s → r.length = s.length
  | _, _, .nil => rfl
  | _, _, .cons _ t => congrArg (· + 1) (RK.length t)
/-- what stands at a cell -/
def RC (G : Gv) (θ : List Addr) (H : Hp) (c : C) (a : Addr) : Prop :=
  match c with
  | .lst ds => ∃ xs, H a = some (.lst xs) ∧ RDs G θ H ds xs
  | .dct kvs => ∃ es, H a = some (.dK es) ∧ RK G θ H kvs es
  | .rev ds k => ∃ xs, H a = some (.lst xs) ∧ RDs G θ H ds.reverse xs ∧ ds.length ≤ k

/-- the frame of a def: the heap and the cells at its entry -/
structure Fr0 where
  H : Hp
  θ : List Addr
/-- the store stands at θ -/
structure Rel (G : Gv) (F : Fr0) (θ : List Addr) (S : Store) (H : Hp) : Prop where
  len : θ.length = S.length
  nd : θ.Nodup
  cells : ∀ (n : Nat) (a : Addr) (c : C), θ[n]? = some a → S[n]? = some c → RC G θ H c a
  fr : Ext F.θ F.H θ H
  pht : ∀ a, G.ph a → H a ≠ none
  tab : LamX.Tabs G.tt H
/-- the slots -/
inductive RS (G : Gv) (θ : List Addr) (H : Hp) : Env → St → Prop
  | nil : RS G θ H [] []
  | no {o : Option V} {ρ : Env} {σ : St} : RS G θ H ρ σ → RS G θ H (none :: ρ) (o :: σ)
  | yes {d : D} {v : V} {ρ : Env} {σ : St} : RD G θ H d v → RS G θ H ρ σ → RS G θ H (some d :: ρ) (some v :: σ)
theorem RS.ext (e : Ext θ H θ' H') : ∀ {ρ : Env} {σ : St}, RS G θ H ρ σ → RS G θ' H' ρ σ
  | _, _, .nil => .nil
  | _, _, .no t => .no (RS.ext e t)
  | _, _, .yes r t => .yes (r.ext e) (RS.ext e t)
theorem RS.get : ∀ {ρ : Env} {σ : St} {i : Nat} {d : D}, RS G θ H ρ σ → ρ[i]? = some (some d) → ∃ v, σ[i]? = some (some v) ∧ RD G θ H d v
  | _, _, _, _, .nil, e => by simp at e
  | _, _, 0, _, .no _, e => by simp at e
  | _, _, 0, _, .yes r _, e => by simp at e; subst e; exact ⟨_, rfl, r⟩
  | _, _, i + 1, d, .no t, e => by
    obtain ⟨u, h1, h2⟩ := RS.get (i := i) (d := d) t (by simpa using e)
    exact ⟨u, by simpa using h1, h2⟩
  | _, _, i + 1, d, .yes _ t, e => by
    obtain ⟨u, h1, h2⟩ := RS.get (i := i) (d := d) t (by simpa using e)
    exact ⟨u, by simpa using h1, h2⟩
theorem RS.set {d : D} {v : V} (r : RD G θ H d v) : ∀ {ρ : Env} {σ : St} (i : Nat), RS G θ H ρ σ → RS G θ H (ρ.set i (some d)) (σ.set i (some v))
  | _, _, _, .nil => .nil
  | _, _, 0, .no t => .yes r t
  | _, _, 0, .yes _ t => .yes r t
  | _, _, i + 1, .no t => .no (RS.set r i t)
  | _, _, i + 1, .yes q t => .yes q (RS.set r i t)
/-- names forgotten -/
def wipeE (ρ : Env) : List Nat → Env
  | [] => ρ
  | i :: r => (wipeE ρ r).set i none
theorem RS.set_none : ∀ {ρ : Env} {σ : St} (i : Nat), RS G θ H ρ σ → RS G θ H (ρ.set i none) (σ.set i none)
  | _, _, _, .nil => .nil
  | _, _, 0, .no t => .no t
  | _, _, 0, .yes _ t => .no t
  | _, _, i + 1, .no t => .no (RS.set_none i t)
  | _, _, i + 1, .yes q t => .yes q (RS.set_none i t)
theorem RS.weaken : ∀ {ρ : Env} {σ : St} (i : Nat), RS G θ H ρ σ → RS G θ H (ρ.set i none) σ
  | _, _, _, .nil => .nil
  | _, _, 0, .no t => .no t
  | _, _, 0, .yes _ t => .no t
  | _, _, i + 1, .no t => .no (RS.weaken i t)
  | _, _, i + 1, .yes q t => .yes q (RS.weaken i t)
theorem RS.wipe {ρ : Env} {σ : St} (r : RS G θ H ρ σ) : ∀ vs : List Nat, RS G θ H (wipeE ρ vs) (wipe σ vs)
  | [] => r
  | i :: vs => RS.set_none i (RS.wipe r vs)
theorem RS.start : ∀ {ds : List D} {vs : List V} (k : Nat), RDs G θ H ds vs → RS G θ H (ds.map some ++ List.replicate k none) (vs.map some ++ List.replicate k none)
  | _, _, k, .nil => by
    induction k with
    | zero => exact .nil
    | succ k ih => exact .no ih
  | _, _, k, .cons r t => .yes r (RS.start k t)
end
end DM

namespace DM
open PySem PySem.Spec L2
open PyProof.Rows hiding St

/-- an exception: its class by number, what it keeps -/
structure Ex where
  c : Nat
  v : Option D
inductive R (α : Type) where
  | ok (a : α) (S : Store)
  | exc (x : Ex) (S : Store)
  | bad
def R.bind {α β : Type} : R α → (α → Store → R β) → R β
  | .ok a S, f => f a S
  | .exc x S, _ => .exc x S
  | .bad, _ => .bad
abbrev M (α : Type) := Env → Store → R α

/-- how an exception lies: its class, its dict -/
structure RX (G : Gv) (θ : List Addr) (H : Hp) (x : Ex) (c : Value) (a : Option Addr) : Prop where
  cls : ∃ C, G.ca x.c = some C ∧ c = .ref C
  val : ∀ d, x.v = some d → ∃ dd fs v, a = some dd ∧ H dd = some (.xd fs) ∧ fs.lookup (G.cn x.c) = some v ∧ RD G θ H d v

/-- the fixed things of a def's body -/
structure Bv where
  G : Gv
  F : Fr0
  W : WX

section
variable {α β γ : Type}
/-- what is wanted of a result -/
def Fin (B : Bv) (Rl : List Addr → Hp → α → β → Prop) (σ : St) (θ : List Addr) (H : Hp) (r : R α) (Q : β → Hp → Prop) : Prop :=
  match r with
  | .ok a S => ∀ θ' H' v, Ext θ H θ' H' → Rel B.G B.F θ' S H' → Rl θ' H' a v → Q v H'
  | .exc x S => ∀ θ' H' c d, Ext θ H θ' H' → Rel B.G B.F θ' S H' → RX B.G θ' H' x c d → B.W c d σ H'
  | .bad => False
theorem Fin.ext {B : Bv} {Rl : List Addr → Hp → α → β → Prop} {σ : St} {θ θ1 : List Addr} {H H1 : Hp} {r : R α} {Q : β → Hp → Prop} (e : Ext θ H θ1 H1) (h : Fin B Rl σ θ H r Q) : Fin B Rl σ θ1 H1 r Q := by
  cases r with
  | ok a S => exact fun θ' H' v e' => h θ' H' v (e.trans e')
  | exc x S => exact fun θ' H' c d e' => h θ' H' c d (e.trans e')
  | bad => exact h
theorem Fin.bind {B : Bv} {Rl : List Addr → Hp → α → β → Prop} {Rl2 : List Addr → Hp → γ → δ → Prop} {σ : St} {θ : List Addr} {H : Hp} {r : R α} {f : α → Store → R γ} {Q : δ → Hp → Prop} {P : β → Hp → Prop} (h : Fin B Rl2 σ θ H (r.bind f) Q)
    (k : ∀ a S1 θ1 H1 v, r = .ok a S1 → Ext θ H θ1 H1 → Rel B.G B.F θ1 S1 H1 → Rl θ1 H1 a v → Fin B Rl2 σ θ1 H1 (f a S1) Q → P v H1) : Fin B Rl σ θ H r P := by
  cases r with
  | ok a S => exact fun θ1 H1 v e1 R1 r1 => k a S θ1 H1 v rfl e1 R1 r1 (h.ext e1)
  | exc x S => exact h
  | bad => exact h
theorem Fin.ok {B : Bv} {Rl : List Addr → Hp → α → β → Prop} {σ : St} {θ θ' : List Addr} {H H' : Hp} {a : α} {S : Store} {v : β} {Q : β → Hp → Prop} (h : Fin B Rl σ θ H (.ok a S) Q) (e : Ext θ H θ' H') (R1 : Rel B.G B.F θ' S H') (r : Rl θ' H' a v) : Q v H' := h θ' H' v e R1 r
end

theorem Fin.ite {α β : Type} {B : Bv} {Rl : List Addr → Hp → α → β → Prop} {σ : St} {θ : List Addr} {H : Hp} {c : Prop} [Decidable c] {r : R α} {Q : β → Hp → Prop} (f : Fin B Rl σ θ H (if c then r else .bad) Q) : c ∧ Fin B Rl σ θ H r Q := by
  by_cases h : c
  · rw [if_pos h] at f; exact ⟨h, f⟩
  · rw [if_neg h] at f; exact f.elim
/-- the readings -/
def rd (B : Bv) {α β : Type} (Rl : List Addr → Hp → α → β → Prop) (m : M α) : St → Hp → (β → Hp → Prop) → Prop := fun σ H Q =>
  ∃ (ρ : Env) (S : Store) (θ : List Addr), Rel B.G B.F θ S H ∧ RS B.G θ H ρ σ ∧ Fin B Rl σ θ H (m ρ S) Q
abbrev rdE (B : Bv) (m : M D) : TE := rd B (RD B.G) m
abbrev rdT (B : Bv) (m : M Bool) : TT := rd B (fun _ _ a b => a = b) m
abbrev rdA (B : Bv) (m : M (List D)) : TA := rd B (RDs B.G) m

theorem PE.imp {X : Cx} {e : Expr} {t t' : TE} (h : PE X e t) (k : ∀ σ H Q, t' σ H Q → t σ H Q) : PE X e t' := ⟨fun pins s σ H Q I q => h.run pins s σ H Q I (k σ H Q q)⟩
theorem PT.imp {X : Cx} {e : Expr} {t t' : TT} (h : PT X e t) (k : ∀ σ H Q, t' σ H Q → t σ H Q) : PT X e t' := ⟨fun pins s σ H Q I q => h.run pins s σ H Q I (k σ H Q q)⟩
theorem PW.imp {X : Cx} {e : Expr} {t t' : TT} (h : PW X e t) (k : ∀ σ H Q, t' σ H Q → t σ H Q) : PW X e t' := ⟨fun wh pins s σ H Q I q => h.run wh pins s σ H Q I (k σ H Q q)⟩
theorem PA.imp {X : Cx} {e : List Expr} {t t' : TA} (h : PA X e t) (k : ∀ σ H Q, t' σ H Q → t σ H Q) : PA X e t' := ⟨fun pos pins s σ H Q I q => h.run pos pins s σ H Q I (k σ H Q q)⟩
theorem PS.imp {X : Cx} {e : Stmt} {t t' : TS} (h : PS X e t) (k : ∀ D σ H, t' D σ H → t D σ H) : PS X e t' := ⟨fun pins s σ H D I q => h.run pins s σ H D I (k D σ H q)⟩
theorem PSs.imp {X : Cx} {e : List Stmt} {t t' : TS} (h : PSs X e t) (k : ∀ D σ H, t' D σ H → t D σ H) : PSs X e t' := ⟨fun pins s σ H D I q => h.run pins s σ H D I (k D σ H q)⟩

section
variable {G : Gv} {F : Fr0} {θ : List Addr} {S : Store} {H : Hp} {a p : Addr} {o o' : HO} {ds : List D} {xs : List V}
theorem keep_new (h : H p = none) : Keep θ H (upd H p o) :=
  ⟨fun a u e _ _ => by rw [upd_ne (ne_of_none e h)]; exact e, fun a e => by
    by_cases q : a = p
    · subst q; rw [upd_same] at e; cases e
    · rw [upd_ne q] at e; exact e⟩
/-- what stands at a cell -/
def isCel : HO → Prop
  | .lst _ => True
  | .dK _ => True
  | _ => False
theorem codeO_cel {c : Addr} {q : Str} (h : isCel (LamX.CodeO c q)) : False := h
theorem keep_cell (h : H p = some o) (hp : p ∈ θ) (ht : ¬ isTup o) : Keep θ H (upd H p o') :=
  ⟨fun a u e c _ => by
    by_cases q : a = p
    · subst q
      rw [h] at e; cases e
      exact absurd c (fun z => z.elim (fun z => z hp) ht)
    · rw [upd_ne q]; exact e, fun a e => by
    by_cases q : a = p
    · subst q; rw [upd_same] at e; cases e
    · rw [upd_ne q] at e; exact e⟩
theorem tabs_new {T : List (Addr × Str)} (h : H p = none) (t : LamX.Tabs T H) : LamX.Tabs T (upd H p o) := fun q hq => (t q hq).ext fun b u e => by rw [upd_ne (ne_of_none e h)]; exact e
theorem tabs_cell {T : List (Addr × Str)} (h : H p = some o) (hc : isCel o) (t : LamX.Tabs T H) : LamX.Tabs T (upd H p o') := fun q hq => by
  obtain ⟨ps, t1, t2, t3⟩ := t q hq
  refine ⟨ps, by rw [upd_ne (fun z => by rw [z, h] at t1; cases t1; exact hc)]; exact t1, t2, fun pos cv e => ?_⟩
  obtain ⟨c, e1, e2⟩ := t3 pos cv e
  exact ⟨c, e1, by rw [upd_ne (fun z => by rw [z, h] at e2; cases e2; exact codeO_cel hc)]; exact e2⟩
theorem Rel.mem_some (R0 : Rel G F θ S H) (h : a ∈ θ) : ∃ (n : Nat) (c : C), θ[n]? = some a ∧ S[n]? = some c ∧ RC G θ H c a := by
  obtain ⟨n, hn, e⟩ := List.getElem_of_mem h
  have h1 : θ[n]? = some a := by rw [List.getElem?_eq_getElem hn, e]
  have h2 : n < S.length := R0.len ▸ hn
  exact ⟨n, S[n], h1, List.getElem?_eq_getElem h2, R0.cells n a _ h1 (List.getElem?_eq_getElem h2)⟩
theorem rc_some {c : C} (h : RC G θ H c a) : ∃ o, H a = some o ∧ ¬ isTup o ∧ notTbl o ∧ isCel o := by
  cases c with
  | lst ds => obtain ⟨xs, e, _⟩ := h; exact ⟨_, e, fun z => z, trivial, trivial⟩
  | dct kvs => obtain ⟨xs, e, _⟩ := h; exact ⟨_, e, fun z => z, trivial, trivial⟩
  | rev rs0 k0 => obtain ⟨xs, e, _⟩ := h; exact ⟨_, e, fun z => z, trivial, trivial⟩
theorem rc_ext {θ' : List Addr} {H' : Hp} {c : C} (e : Ext θ H θ' H') (k : ∀ o, H a = some o → H' a = some o) (h : RC G θ H c a) : RC G θ' H' c a := by
  cases c with
  | lst ds => obtain ⟨xs, h1, h2⟩ := h; exact ⟨xs, k _ h1, h2.ext e⟩
  | dct kvs => obtain ⟨xs, h1, h2⟩ := h; exact ⟨xs, k _ h1, h2.ext e⟩
  | rev rs0 k0 => obtain ⟨xs, h1, h2, h3⟩ := h; exact ⟨xs, k _ h1, h2.ext e, h3⟩
theorem Rel.not_new (R0 : Rel G F θ S H) (h : H p = none) : p ∉ θ := fun m => by
  obtain ⟨n, c, _, _, r⟩ := R0.mem_some m
  obtain ⟨xs, e, _⟩ := rc_some r
  rw [h] at e; cases e
/-- an object that is no cell is laid -/
theorem Rel.laid (R0 : Rel G F θ S H) (h : H p = none) : Rel G F θ S (upd H p o) := by
  have e : Ext θ H θ (upd H p o) := .of_keep (keep_new h)
  exact ⟨R0.len, R0.nd, fun n a c h1 h2 => rc_ext e (fun u q => by rw [upd_ne (ne_of_none q h)]; exact q) (R0.cells n a c h1 h2), R0.fr.trans e, fun a h z => R0.pht a h (e.keep.gr a z), tabs_new h R0.tab⟩
/-- a new cell -/
theorem ext_cell (h : H p = none) : Ext θ H (θ ++ [p]) (upd H p o) := ⟨⟨[p], rfl, fun a m => by rw [List.mem_singleton.mp m]; exact h⟩, keep_new h⟩
theorem Rel.allocC {c0 : C} (R0 : Rel G F θ S H) (h : H p = none) (r : RC G (θ ++ [p]) (upd H p o) c0 p) : Rel G F (θ ++ [p]) (S ++ [c0]) (upd H p o) := by
  have e : Ext θ H (θ ++ [p]) (upd H p o) := ext_cell h
  refine ⟨by simp [R0.len], ?_, fun n a c h1 h2 => ?_, R0.fr.trans e, fun a h z => R0.pht a h (e.keep.gr a z), tabs_new h R0.tab⟩
  · rw [List.nodup_append]
    exact ⟨R0.nd, by simp, fun a ha b hb => by
      rw [List.mem_singleton.mp hb]
      rintro rfl
      exact R0.not_new h ha⟩
  · by_cases hn : n < θ.length
    · rw [List.getElem?_append_left hn] at h1
      rw [List.getElem?_append_left (R0.len ▸ hn)] at h2
      exact rc_ext e (fun u q => by rw [upd_ne (ne_of_none q h)]; exact q) (R0.cells n a c h1 h2)
    · have hl : n = θ.length := by
        have := (List.getElem?_eq_some_iff.mp h1).1
        simp at this
        omega
      subst hl
      rw [List.getElem?_concat_length] at h1
      rw [R0.len, List.getElem?_concat_length] at h2
      cases h1; cases h2
      exact r
theorem Rel.alloc (R0 : Rel G F θ S H) (h : H p = none) (r : RDs G θ H ds xs) : Rel G F (θ ++ [p]) (S ++ [.lst ds]) (upd H p (.lst xs)) := R0.allocC h ⟨xs, upd_same, r.ext (ext_cell h)⟩
theorem RD.new {H' : Hp} (R0 : Rel G F θ S H) : RD G (θ ++ [p]) H' (.ref S.length) (.ref p) := .ref (by rw [← R0.len, List.getElem?_concat_length])
/-- a changed cell -/
theorem Rel.writeC {n : Nat} {c0 c1 : C} (R0 : Rel G F θ S H) (h1 : θ[n]? = some a) (h2 : S[n]? = some c0) (r : Ext θ H θ (upd H a o) → RC G θ (upd H a o) c1 a) : Ext θ H θ (upd H a o) ∧ Rel G F θ (S.set n c1) (upd H a o) := by
  obtain ⟨ys, e0, nt, _, ic⟩ := rc_some (R0.cells n a _ h1 h2)
  have e : Ext θ H θ (upd H a o) := .of_keep (keep_cell e0 (List.mem_of_getElem? h1) nt)
  refine ⟨e, by simp [R0.len], R0.nd, fun k b c k1 k2 => ?_, R0.fr.trans e, fun a h z => R0.pht a h (e.keep.gr a z), tabs_cell e0 ic R0.tab⟩
  by_cases hk : k = n
  · subst hk
    rw [h1] at k1; cases k1
    rw [List.getElem?_set_self (List.getElem?_eq_some_iff.mp h2).1] at k2
    cases k2
    exact r e
  · rw [List.getElem?_set_ne (Ne.symm hk)] at k2
    refine rc_ext e (fun u q => ?_) (R0.cells k b c k1 k2)
    have hb : b ≠ a := by
      rintro rfl
      obtain ⟨i1, j1⟩ := List.getElem?_eq_some_iff.mp k1
      obtain ⟨i2, j2⟩ := List.getElem?_eq_some_iff.mp h1
      exact hk ((List.getElem_inj R0.nd).mp (j1.trans j2.symm))
    rw [upd_ne hb]; exact q
theorem Rel.write {n : Nat} {ds0 : List D} (R0 : Rel G F θ S H) (h1 : θ[n]? = some a) (h2 : S[n]? = some (.lst ds0)) (r : RDs G θ H ds xs) : Ext θ H θ (upd H a (.lst xs)) ∧ Rel G F θ (S.set n (.lst ds)) (upd H a (.lst xs)) :=
  R0.writeC h1 h2 fun e => ⟨xs, upd_same, r.ext e⟩
end

/-- a list that may be added to others: a cell, or a list that nobody changes -/
def getP : D → Store → Option (List D)
  | .lst ds, _ => some ds
  | .brw ds, _ => some ds
  | .ref n, S => match S[n]? with
    | some (.lst ds) => some ds
    | _ => none
  | _, _ => none
def getL : D → Store → Option (List D)
  | .kst ds, _ => some ds
  | d, S => getP d S
/-- a list or a tuple -/
def getSeq : D → Store → Option (List D)
  | .tup ds, _ => some ds
  | .pr ds, _ => some ds
  | d, S => getL d S
section
variable {G : Gv} {F : Fr0} {θ : List Addr} {S : Store} {H : Hp} {d : D} {v : V} {ds : List D}
theorem getP_ok (R0 : Rel G F θ S H) (r : RD G θ H d v) (e : getP d S = some ds) : ∃ a xs, v = .ref a ∧ H a = some (.lst xs) ∧ RDs G θ H ds xs := by
  cases r with
  | lst h0 h1 h2 h3 => cases e; exact ⟨_, _, rfl, h2, h3⟩
  | brw h1 h2 h3 => cases e; exact ⟨_, _, rfl, h2, h3⟩
  | @ref n a h =>
    have e' : (match S[n]? with | some (.lst ds) => some ds | _ => none) = some ds := e
    cases q : S[n]? with
    | none => rw [q] at e'; cases e'
    | some c =>
      cases c with
      | dct kvs => rw [q] at e'; cases e'
      | rev rs0 k0 => rw [q] at e'; cases e'
      | lst es =>
        rw [q] at e'
        cases e'
        obtain ⟨xs, h1, h2⟩ := R0.cells _ _ _ h q
        exact ⟨_, xs, rfl, h1, h2⟩
  | _ => cases e
theorem getL_ok (R0 : Rel G F θ S H) (r : RD G θ H d v) (e : getL d S = some ds) : ∃ a xs, v = .ref a ∧ SqL G.K H a xs ∧ RDs G θ H ds xs := by
  have go : getP d S = some ds → ∃ a xs, v = .ref a ∧ SqL G.K H a xs ∧ RDs G θ H ds xs := fun e => by
    obtain ⟨a, xs, e1, e2, e3⟩ := getP_ok R0 r e
    exact ⟨a, xs, e1, .inl (.inl e2), e3⟩
  cases r with
  | kst h1 h2 => cases e; exact ⟨_, _, rfl, h1.sq, h2⟩
  | lst h0 h1 h2 h3 => exact go e
  | brw h1 h2 h3 => exact go e
  | ref h => exact go e
  | _ => cases e
theorem getSeq_ok (R0 : Rel G F θ S H) (r : RD G θ H d v) (e : getSeq d S = some ds) : ∃ a xs, v = .ref a ∧ (SqL G.K H a xs ∨ SqT G.K H a xs) ∧ RDs G θ H ds xs := by
  have go : getL d S = some ds → ∃ a xs, v = .ref a ∧ (SqL G.K H a xs ∨ SqT G.K H a xs) ∧ RDs G θ H ds xs := fun e => by
    obtain ⟨a, xs, e1, e2, e3⟩ := getL_ok R0 r e
    exact ⟨a, xs, e1, .inl e2, e3⟩
  cases r with
  | tup h1 h2 => cases e; exact ⟨_, _, rfl, .inr h1.sq, h2⟩
  | pr h1 h2 => cases e; exact ⟨_, _, rfl, .inr h1, h2⟩
  | kst h1 h2 => exact go e
  | lst h0 h1 h2 h3 => exact go e
  | brw h1 h2 h3 => exact go e
  | ref h => exact go e
  | _ => cases e
end

section
variable {X : Cx} {B : Bv} {pos : Pos}
def mVar (i : Nat) : M D := fun ρ S => match ρ[i]? with
  | some (some d) => .ok d S
  | _ => .bad
def mC (d : D) : M D := fun _ S => .ok d S
theorem de_var {i : Nat} {x : Str} (h : PE X (.Name x pos) (tVar i)) : PE X (.Name x pos) (rdE B (mVar i)) := PE.imp h fun σ H Q ⟨ρ, S, θ, R0, rs, f⟩ => by
  unfold mVar at f
  cases q : ρ[i]? with
  | none => rw [q] at f; exact f.elim
  | some o =>
    cases o with
    | none => rw [q] at f; exact f.elim
    | some d =>
      rw [q] at f
      obtain ⟨v, e, r⟩ := rs.get q
      exact ⟨v, e, f.ok .refl R0 r⟩
theorem de_c {e : Expr} {d : D} {v : V} (h : PE X e (tC v)) (r : ∀ θ H, RD B.G θ H d v) : PE X e (rdE B (mC d)) := PE.imp h fun σ H Q ⟨ρ, S, θ, R0, rs, f⟩ => f.ok .refl R0 (r θ H)
theorem de_int {i j} : PE X (.Constant (.int i) j pos) (rdE B (mC (.int i))) := de_c pe_int fun _ _ => .int i
theorem de_bl {b j} : PE X (.Constant (.bool b) j pos) (rdE B (mC (.bl b))) := de_c pe_bl fun _ _ => .bl b
theorem de_non {j} : PE X (.Constant .none j pos) (rdE B (mC .non)) := de_c pe_non fun _ _ => .non
theorem de_str {x j} : PE X (.Constant (.str x) j pos) (rdE B (mC (.str x))) := de_c pe_str fun _ _ => .str x

def mNil : M (List D) := fun _ S => .ok [] S
def mCons (a : M D) (r : M (List D)) : M (List D) := fun ρ S => (a ρ S).bind fun x S1 => (r ρ S1).bind fun xs S2 => .ok (x :: xs) S2
theorem da_nil : PA X [] (rdA B mNil) := PA.imp pa_nil fun σ H Q ⟨ρ, S, θ, R0, rs, f⟩ => f.ok .refl R0 .nil
theorem da_cons {e : Expr} {es : List Expr} {a : M D} {r : M (List D)} (ha : PE X e (rdE B a)) (hr : PA X es (rdA B r)) (hs : starEach (e :: es) X.env = (false, eval e X.env) :: starEach es X.env := by rfl) : PA X (e :: es) (rdA B (mCons a r)) :=
  PA.imp (pa_cons ha hr hs) fun σ H Q ⟨ρ, S, θ, R0, rs, f⟩ => ⟨ρ, S, θ, R0, rs, Fin.bind f fun x S1 θ1 H1 v _ e1 R1 r1 f1 => ⟨ρ, S1, θ1, R1, rs.ext e1, Fin.bind f1 fun xs S2 θ2 H2 vs _ e2 R2 r2 f2 => f2.ok .refl R2 (.cons (r1.ext e2) r2)⟩⟩
def tupD (ds : List D) (S : Store) : R D := if ds.length ≤ sizeLine then .ok (.tup ds) S else .bad
def lstD (ds : List D) (S : Store) : R D := if ds.length ≤ sizeLine then .ok (.ref S.length) (S ++ [.lst ds]) else .bad
def mTup (a : M (List D)) : M D := fun ρ S => (a ρ S).bind fun ds S1 => tupD ds S1
def mLst (a : M (List D)) : M D := fun ρ S => (a ρ S).bind fun ds S1 => lstD ds S1
/-- a new tuple -/
theorem fin_tup {σ : St} {θ : List Addr} {S : Store} {H : Hp} {ds : List D} {xs : List V} {Q : VK} (R0 : Rel B.G B.F θ S H) (r : RDs B.G θ H ds xs) (f : Fin B (RD B.G) σ θ H (tupD ds S) Q) : xs.length ≤ sizeLine ∧ ∀ (p : Addr) (o : Obj), o.cls = .type "tuple" → o.dict = none → H p = none → Q (.ref p) (upd H p (.frz o (.tup xs))) := by
  unfold tupD at f
  split at f
  · rename_i hz
    refine ⟨by rw [← r.length]; exact hz, fun p o h1 h2 hp => ?_⟩
    have e : Ext θ H θ (upd H p (.frz o (.tup xs))) := .of_keep (keep_new hp)
    exact f.ok e (R0.laid hp) (.tup (.new h1 h2) (r.ext e))
  · exact f.elim
/-- a display of a tuple, its object told -/
def tTupF (t : TA) : TE := fun σ H Q => t σ H fun xs H1 => xs.length ≤ sizeLine ∧ ∀ (p : Addr) (o : Obj), o.cls = .type "tuple" → o.dict = none → H1 p = none → Q (.ref p) (upd H1 p (.frz o (.tup xs)))
theorem pe_tupF {es : List Expr} {k : Nat} {t : TA} (h : PA X es t) : PE X (.Tuple es k pos) (tTupF t) := ⟨fun pins s σ H Q I hq => wpAny_Tuple_spliced (thn (h.run pos pins s σ H _ I hq) fun us s1 ⟨xs, H1, I1, r, z, q⟩ => ⟨by rw [← r.length]; exact z, by
    have hf := I1.hok.fresh (Nat.le_refl s1.heap.objs.size)
    exact ⟨.ref s1.heap.objs.size, upd H1 s1.heap.objs.size (.frz (seqObj "tuple" us.toArray 0) (.tup xs)), I1.laid (t' := s1.toks) (fun b u e => Heap.get?_push_of_some _ e) (Nat.le_refl _) ⟨Heap.get?_push_size _ rfl, z, us, r, ⟨_, Heap.get?_push_size _ rfl, rfl, _, rfl⟩⟩, rfl, q _ _ rfl rfl hf⟩⟩)⟩
/-- a new list -/
theorem fin_lst {σ : St} {θ : List Addr} {S : Store} {H : Hp} {ds : List D} {xs : List V} {Q : VK} (R0 : Rel B.G B.F θ S H) (r : RDs B.G θ H ds xs) (f : Fin B (RD B.G) σ θ H (lstD ds S) Q) : xs.length ≤ sizeLine ∧ ∀ p, H p = none → Q (.ref p) (upd H p (.lst xs)) := by
  unfold lstD at f
  split at f
  · rename_i hz
    exact ⟨by rw [← r.length]; exact hz, fun p hp => f.ok (ext_cell hp) (R0.alloc hp r) (RD.new R0)⟩
  · exact f.elim
theorem de_tup {es : List Expr} {k : Nat} {a : M (List D)} (ha : PA X es (rdA B a)) : PE X (.Tuple es k pos) (rdE B (mTup a)) :=
  PE.imp (pe_tupF ha) fun σ H Q ⟨ρ, S, θ, R0, rs, f⟩ => ⟨ρ, S, θ, R0, rs, Fin.bind f fun x S1 θ1 H1 v _ e1 R1 r1 f1 => fin_tup R1 r1 f1⟩
theorem de_lst {es : List Expr} {a : M (List D)} (ha : PA X es (rdA B a)) : PE X (.List es pos) (rdE B (mLst a)) :=
  PE.imp (pe_lst ha) fun σ H Q ⟨ρ, S, θ, R0, rs, f⟩ => ⟨ρ, S, θ, R0, rs, Fin.bind f fun x S1 θ1 H1 v _ e1 R1 r1 f1 => fin_lst R1 r1 f1⟩

abbrev O2 := D → D → Store → R D
def mBin (o : O2) (a b : M D) : M D := fun ρ S => (a ρ S).bind fun x S1 => (b ρ S1).bind fun y S2 => o x y S2
/-- r serves what o tells -/
def Den2 (B : Bv) (r : R2) (o : O2) : Prop := ∀ (σ : St) (θ : List Addr) (S : Store) (H : Hp) (d e : D) (x y : V) (Q : VK), Rel B.G B.F θ S H → RD B.G θ H d x → RD B.G θ H e y → Fin B (RD B.G) σ θ H (o d e S) Q → r x y H Q
theorem imp_bin {a b : M D} {r : R2} {o : O2} (hd : Den2 B r o) : ∀ (σ : St) (H : Hp) (Q : VK), rdE B (mBin o a b) σ H Q → tOp r (rdE B a) (rdE B b) σ H Q := fun σ H Q ⟨ρ, S, θ, R0, rs, f⟩ =>
  ⟨ρ, S, θ, R0, rs, Fin.bind f fun x S1 θ1 H1 v _ e1 R1 r1 f1 => ⟨ρ, S1, θ1, R1, rs.ext e1, Fin.bind f1 fun y S2 θ2 H2 u _ e2 R2 r2 f2 => hd σ θ2 S2 H2 x y v u Q R2 (r1.ext e2) r2 f2⟩⟩
theorem de_bin {op : Operator} {r : R2} {o : O2} {a b : Expr} {ma mb : M D} (ho : OpR X (binaryOp op) r) (hd : Den2 B r o) (ha : PE X a (rdE B ma)) (hb : PE X b (rdE B mb)) : PE X (.BinOp a op b pos) (rdE B (mBin o ma mb)) :=
  PE.imp (pe_op ho ha hb) (imp_bin hd)
theorem Den2.or {r r' : R2} {o : O2} (h : ∀ (σ : St) (θ : List Addr) (S : Store) (H : Hp) (d e : D) (x y : V) (Q : VK), Rel B.G B.F θ S H → RD B.G θ H d x → RD B.G θ H e y → Fin B (RD B.G) σ θ H (o d e S) Q → r x y H Q ∨ r' x y H Q) : Den2 B (fun x y H Q => r x y H Q ∨ r' x y H Q) o := h
end
end DM

namespace DM
open PySem PySem.Spec L2
open PyProof.Rows hiding St

section
variable {X : Cx} {B : Bv} {pos : Pos}
abbrev FinE (B : Bv) (σ : St) (θ : List Addr) (H : Hp) (r : R D) (Q : VK) : Prop := Fin B (RD B.G) σ θ H r Q

/-- t + u, the object told -/
def rCatF (K : PySem.W.Frag) : R2 := fun x y H Q => ∃ a b xs ys, x = .ref a ∧ y = .ref b ∧ SqT K H a xs ∧ SqT K H b ys ∧ xs.length + ys.length ≤ sizeLine ∧
  (xs = [] → Q (.ref b) H) ∧ (xs ≠ [] → ys = [] → Q (.ref a) H) ∧ (xs ≠ [] → ys ≠ [] → ∀ (p : Addr) (o : Obj), o.cls = .type "tuple" → o.dict = none → H p = none → Q (.ref p) (upd H p (.frz o (.tup (xs ++ ys)))))
theorem op_catF : OpR X (binaryOp .Add) (rCatF X.K) := by
  intro pins s σ H x y v u Q I rx ry h
  obtain ⟨a, b, xs, ys, rfl, rfl, ha, hb, hz, q0, q1, q2⟩ := h
  cases rx
  cases ry
  obtain ⟨us, k1, p1, _⟩ := I.tuple ha
  obtain ⟨ws, k2, p2, _⟩ := I.tuple hb
  by_cases hx : us = []
  · subst hx
    cases k1
    exact cat_tup0 p1 p2 ⟨.ref b, H, I, rfl, q0 rfl⟩
  · have hx' : xs ≠ [] := fun z => by subst z; cases k1; exact hx rfl
    refine HT.cat_tup p1 p2 hx (fun z => ⟨.ref a, H, I, rfl, q1 hx' (by subst z; cases k2; rfl)⟩) (fun z => ?_) (by rw [← k1.length, ← k2.length]; exact hz)
    have hy' : ys ≠ [] := fun e => by subst e; cases k2; exact z rfl
    exact ⟨.ref s.heap.objs.size, _, I.laid (t' := s.toks) (o := .frz (seqObj "tuple" (us ++ ws).toArray 0) (.tup (xs ++ ys))) (fun _ _ q => Heap.get?_push_of_some _ q) (Nat.le_refl _) ⟨Heap.get?_push_size _ rfl, by rw [List.length_append]; exact hz, _, k1.append k2, IsTup.new _ _⟩, rfl, q2 hx' hy' _ _ rfl rfl (I.hok.fresh (Nat.le_refl _))⟩
def addD : O2
  | .int i, .int j, S => .ok (.int (i + j)) S
  | .int i, .bl k, S => .ok (.int (i + if k then 1 else 0)) S
  | .str x, .str y, S => if x.length + y.length ≤ sizeLine then .ok (.str (x ++ y)) S else .bad
  | .tup xs, .tup ys, S => if xs.length + ys.length ≤ sizeLine then .ok (.tup (xs ++ ys)) S else .bad
  | .tup xs, .pr ys, S => if xs.length + ys.length ≤ sizeLine then .ok (.pr (xs ++ ys)) S else .bad
  | .pr xs, .tup ys, S => if xs.length + ys.length ≤ sizeLine then .ok (.pr (xs ++ ys)) S else .bad
  | .pr xs, .pr ys, S => if xs.length + ys.length ≤ sizeLine then .ok (.pr (xs ++ ys)) S else .bad
  | d, e, S => match getP d S, getP e S with
    | some xs, some ys => lstD (xs ++ ys) S
    | _, _ => .bad
abbrev rAddA (K : PySem.W.Frag) : R2 := fun x y H Q => rI0 (fun i j => .int (i + j)) x y H Q ∨ (∃ i k, x = .int i ∧ y = .bl k ∧ Q (.int (i + PyProof.Rows.b2i k)) H) ∨
  (∃ i j, x = .str i ∧ y = .str j ∧ i.length + j.length ≤ sizeLine ∧ Q (.str (i ++ j)) H) ∨ rCatF K x y H Q ∨ rCat x y H Q
theorem opR_add : OpR X (binaryOp .Add) (rAddA X.K) := op_add.or (op_add_ib.or (op_add_str.or (op_catF.or op_cat)))
theorem den_add (hK : B.G.K = X.K) : Den2 B (rAddA X.K) addD := by
  intro σ θ S H d e x y Q R0 r1 r2 f
  have lists : (match getP d S, getP e S with
    | some xs, some ys => lstD (xs ++ ys) S
    | _, _ => .bad) = addD d e S → rAddA X.K x y H Q := fun q => by
    rw [← q] at f
    cases q1 : getP d S with
    | none => rw [q1] at f; exact f.elim
    | some xs =>
      cases q2 : getP e S with
      | none => rw [q1, q2] at f; exact f.elim
      | some ys =>
        rw [q1, q2] at f
        obtain ⟨a, us, rfl, h1, h2⟩ := getP_ok R0 r1 q1
        obtain ⟨b, ws, rfl, h3, h4⟩ := getP_ok R0 r2 q2
        have g := fin_lst R0 (h2.append h4) f
        exact .inr (.inr (.inr (.inr ⟨a, b, us, ws, rfl, rfl, h1, h3, by simpa using g.1, g.2⟩)))
  have weak : ∀ {a b : Addr} {us ws : List V} (xs ys : List D), Fin B (RD B.G) σ θ H (if xs.length + ys.length ≤ sizeLine then .ok (.pr (xs ++ ys)) S else .bad) Q → SqT X.K H a us → RDs B.G θ H xs us → SqT X.K H b ws → RDs B.G θ H ys ws → rAddA X.K (.ref a) (.ref b) H Q := fun {a b us ws} xs ys f h1 h2 h3 h4 => by
    obtain ⟨hz, f⟩ := Fin.ite (c := xs.length + ys.length ≤ sizeLine) f
    refine .inr (.inr (.inr (.inl ⟨a, b, us, ws, rfl, rfl, h1, h3, by rw [← h2.length, ← h4.length]; exact hz, fun e0 => ?_, fun _ e1 => ?_, fun _ _ p o o1 o2 hp => ?_⟩)))
    · subst e0
      cases h2
      exact f.ok .refl R0 (.pr (by rw [hK]; exact h3) h4)
    · subst e1
      cases h4
      rw [List.append_nil] at f
      exact f.ok .refl R0 (.pr (by rw [hK]; exact h1) h2)
    · have e : Ext θ H θ (upd H p (.frz o (.tup (us ++ ws)))) := .of_keep (keep_new hp)
      exact f.ok e (R0.laid hp) (.pr (TupF.new o1 o2).sq ((h2.append h4).ext e))
  cases d with
  | int i =>
    cases r1
    cases e with
    | int j => cases r2; exact .inl ⟨i, j, rfl, rfl, f.ok .refl R0 (.int _)⟩
    | bl k => cases r2; exact .inr (.inl ⟨i, k, rfl, rfl, f.ok .refl R0 (by cases k <;> exact .int _)⟩)
    | _ => exact lists rfl
  | str s =>
    cases r1
    cases e with
    | str t =>
      cases r2
      obtain ⟨hz, f⟩ := Fin.ite f
      exact .inr (.inr (.inl ⟨s, t, rfl, rfl, hz, f.ok .refl R0 (.str _)⟩))
    | _ => exact lists rfl
  | tup xs =>
    cases e with
    | tup ys =>
      cases r1 with
      | @tup a us _ h1 h2 =>
        cases r2 with
        | @tup b ws _ h3 h4 =>
          obtain ⟨hz, f⟩ := Fin.ite (c := xs.length + ys.length ≤ sizeLine) f
          rw [hK] at h1 h3
          refine .inr (.inr (.inr (.inl ⟨a, b, us, ws, rfl, rfl, h1.sq, h3.sq, by rw [← h2.length, ← h4.length]; exact hz, fun e0 => ?_, fun _ e1 => ?_, fun _ _ p o o1 o2 hp => ?_⟩)))
          · subst e0
            cases h2
            exact f.ok .refl R0 (.tup (by rw [hK]; exact h3) h4)
          · subst e1
            cases h4
            rw [List.append_nil] at f
            exact f.ok .refl R0 (.tup (by rw [hK]; exact h1) h2)
          · have e : Ext θ H θ (upd H p (.frz o (.tup (us ++ ws)))) := .of_keep (keep_new hp)
            exact f.ok e (R0.laid hp) (.tup (.new o1 o2) ((h2.append h4).ext e))
    | pr ys =>
      cases r1 with
      | @tup a us _ h1 h2 =>
        cases r2 with
        | @pr b ws _ h3 h4 => exact weak xs ys f (by rw [hK] at h1; exact h1.sq) h2 (by rw [hK] at h3; exact h3) h4
    | _ => exact lists rfl
  | pr xs =>
    cases e with
    | tup ys =>
      cases r1 with
      | @pr a us _ h1 h2 =>
        cases r2 with
        | @tup b ws _ h3 h4 => exact weak xs ys f (by rw [hK] at h1; exact h1) h2 (by rw [hK] at h3; exact h3.sq) h4
    | pr ys =>
      cases r1 with
      | @pr a us _ h1 h2 =>
        cases r2 with
        | @pr b ws _ h3 h4 => exact weak xs ys f (by rw [hK] at h1; exact h1) h2 (by rw [hK] at h3; exact h3) h4
    | _ => exact lists rfl
  | _ => exact lists rfl
theorem de_add {a b : Expr} {ma mb : M D} (hK : B.G.K = X.K) (ha : PE X a (rdE B ma)) (hb : PE X b (rdE B mb)) : PE X (.BinOp a .Add b pos) (rdE B (mBin addD ma mb)) := de_bin opR_add (den_add hK) ha hb

def intD (C : Int → Int → Bool) (g : Int → Int → Int) : O2
  | .int i, .int j, S => if C i j then .ok (.int (g i j)) S else .bad
  | _, _, _ => .bad
theorem den_int {C : Int → Int → Bool} {C' : Int → Int → Prop} {g : Int → Int → Int} (h : ∀ i j, C i j = true → C' i j) : Den2 B (rI C' fun i j => .int (g i j)) (intD C g) := by
  intro σ θ S H d e x y Q R0 r1 r2 f
  cases d with
  | int i =>
    cases e with
    | int j =>
      cases r1; cases r2
      obtain ⟨hc, f⟩ := Fin.ite f
      exact ⟨i, j, rfl, rfl, h _ _ hc, f.ok .refl R0 (.int _)⟩
    | _ => exact f.elim
  | _ => exact f.elim
def subD : O2
  | .int i, .int j, S => .ok (.int (i - j)) S
  | _, _, _ => .bad
theorem den_sub : Den2 B (rI0 fun i j => .int (i - j)) subD := by
  intro σ θ S H d e x y Q R0 r1 r2 f
  cases d with
  | int i =>
    cases e with
    | int j => cases r1; cases r2; exact ⟨i, j, rfl, rfl, f.ok .refl R0 (.int _)⟩
    | _ => exact f.elim
  | _ => exact f.elim
theorem de_sub {a b : Expr} {ma mb : M D} (ha : PE X a (rdE B ma)) (hb : PE X b (rdE B mb)) : PE X (.BinOp a .Sub b pos) (rdE B (mBin subD ma mb)) := de_bin op_sub den_sub ha hb
def mulC (i j : Int) : Bool := decide (i.natAbs.log2 + j.natAbs.log2 < 1000000)
def repC (k : Int) (n : Nat) : Bool := decide (-(2 ^ 63) ≤ k) && decide (k < 2 ^ 63) && decide (n * k.toNat ≤ sizeLine)
def repL (xs : Option (List D)) (k : Int) (S : Store) : R D := match xs with
  | some xs => if repC k xs.length then lstD (List.replicate k.toNat xs).flatten S else .bad
  | none => .bad
def repTC (k : Int) (n : Nat) : Bool := !(n == 0) && decide (2 ≤ k) && decide (k ≤ 1000) && decide (n ≤ 1000)
def mulD : O2
  | .int i, .int j, S => if mulC i j then .ok (.int (i * j)) S else .bad
  | .tup xs, .int k, S => if repTC k xs.length then .ok (.pr (List.replicate k.toNat xs).flatten) S else .bad
  | .pr xs, .int k, S => if repTC k xs.length then .ok (.pr (List.replicate k.toNat xs).flatten) S else .bad
  | d, .int k, S => repL (getP d S) k S
  | _, _, _ => .bad
theorem RDs.rep {G : Gv} {θ : List Addr} {H : Hp} {ds : List D} {vs : List V} (r : RDs G θ H ds vs) : ∀ n : Nat, RDs G θ H (List.replicate n ds).flatten (List.replicate n vs).flatten
  | 0 => .nil
  | n + 1 => by
    rw [List.replicate_succ, List.replicate_succ, List.flatten_cons, List.flatten_cons]
    exact r.append (RDs.rep r n)
abbrev rMulA (K : PySem.W.Frag) : R2 := fun x y H Q => rI CMulW (fun i j => .int (i * j)) x y H Q ∨ rRepT K x y H Q ∨ rRep x y H Q
theorem opR_mul : OpR X (binaryOp .Mult) (rMulA X.K) := op_mulW.or (op_repT.or op_rep)
theorem den_mul (hK : B.G.K = X.K) : Den2 B (rMulA X.K) mulD := by
  intro σ θ S H d e x y Q R0 r1 r2 f
  have lists : ∀ k, e = .int k → mulD d e S = repL (getP d S) k S → rMulA X.K x y H Q := fun k he q => by
    rw [q] at f
    subst he
    cases r2
    cases q1 : getP d S with
    | none => rw [q1] at f; exact f.elim
    | some xs =>
      rw [q1] at f
      obtain ⟨hc, f⟩ := Fin.ite f
      rw [repC, Bool.and_eq_true, Bool.and_eq_true] at hc
      obtain ⟨⟨h1, h2⟩, h3⟩ := hc
      obtain ⟨a, us, rfl, h4, h5⟩ := getP_ok R0 r1 q1
      have g := fin_lst R0 (RDs.rep h5 k.toNat) f
      exact .inr (.inr ⟨a, k, us, rfl, rfl, h4, of_decide_eq_true h1, of_decide_eq_true h2, by rw [← h5.length]; exact of_decide_eq_true h3, g.2⟩)
  have reps : ∀ {a : Addr} {us : List V} (k : Int) (xs : List D), Fin B (RD B.G) σ θ H (if repTC k xs.length then .ok (.pr (List.replicate k.toNat xs).flatten) S else .bad) Q → SqT X.K H a us → RDs B.G θ H xs us → rMulA X.K (.ref a) (.int k) H Q := fun {a us} k xs f h1 h2 => by
    obtain ⟨hc, f⟩ := Fin.ite (c := repTC k xs.length = true) f
    rw [repTC, Bool.and_eq_true, Bool.and_eq_true, Bool.and_eq_true] at hc
    obtain ⟨⟨⟨c1, c2⟩, c3⟩, c4⟩ := hc
    refine .inr (.inl ⟨a, k, us, rfl, rfl, h1, ?_, of_decide_eq_true c2, of_decide_eq_true c3, by rw [← h2.length]; exact of_decide_eq_true c4, fun p hp => ?_⟩)
    · rintro rfl
      cases h2
      cases c1
    · have e : Ext θ H θ (upd H p (.tup (List.replicate k.toNat us).flatten)) := .of_keep (keep_new hp)
      exact f.ok e (R0.laid hp) (.pr (.inl (.inl upd_same)) ((RDs.rep h2 _).ext e))
  cases e with
  | int k =>
    cases d with
    | int i =>
      cases r1; cases r2
      obtain ⟨hc, f⟩ := Fin.ite f
      have hc' : i.natAbs.log2 + k.natAbs.log2 < 1000000 := of_decide_eq_true hc
      exact .inl ⟨i, k, rfl, rfl, hc', f.ok .refl R0 (.int _)⟩
    | tup xs =>
      cases r2
      cases r1 with
      | @tup a us _ h1 h2 => exact reps k xs f (by rw [hK] at h1; exact h1.sq) h2
    | pr xs =>
      cases r2
      cases r1 with
      | @pr a us _ h1 h2 => exact reps k xs f (by rw [hK] at h1; exact h1) h2
    | _ => exact lists k rfl rfl
  | _ => cases d <;> exact f.elim
theorem de_mul {a b : Expr} {ma mb : M D} (hK : B.G.K = X.K) (ha : PE X a (rdE B ma)) (hb : PE X b (rdE B mb)) : PE X (.BinOp a .Mult b pos) (rdE B (mBin mulD ma mb)) := de_bin opR_mul (den_mul hK) ha hb
/-- // by a divisor above 0 -/
def fdivC (_ j : Int) : Bool := decide (0 < j) && decide (j.natAbs.log2 < 9000)
abbrev fdivD : O2 := intD fdivC fun i j => i / j
theorem de_fdiv {a b : Expr} {ma mb : M D} (ha : PE X a (rdE B ma)) (hb : PE X b (rdE B mb)) : PE X (.BinOp a .FloorDiv b pos) (rdE B (mBin fdivD ma mb)) :=
  de_bin op_fdivW (den_int fun i j h => by
    rw [fdivC, Bool.and_eq_true] at h
    exact ⟨of_decide_eq_true h.1, of_decide_eq_true h.2⟩) ha hb
abbrev modD : O2 := intD (fun _ j => decide (j ≠ 0)) fun i j => i.fmod j
theorem de_mod {a b : Expr} {ma mb : M D} (ha : PE X a (rdE B ma)) (hb : PE X b (rdE B mb)) : PE X (.BinOp a .Mod b pos) (rdE B (mBin modD ma mb)) := de_bin op_modN (den_int fun i j h => of_decide_eq_true h) ha hb
def powC (i j : Int) : Bool := decide (0 ≤ j) && decide (j ≤ 1000000) && decide (i.natAbs < 2 ^ 64)
theorem powC_ok {i j : Int} (h : powC i j = true) : CPow i j := by
  rw [powC, Bool.and_eq_true, Bool.and_eq_true] at h
  exact ⟨of_decide_eq_true h.1.1, of_decide_eq_true h.1.2, of_decide_eq_true h.2⟩
abbrev powD : O2 := intD powC fun i j => i ^ j.toNat
theorem de_pow {a b : Expr} {ma mb : M D} (ha : PE X a (rdE B ma)) (hb : PE X b (rdE B mb)) : PE X (.BinOp a .Pow b pos) (rdE B (mBin powD ma mb)) := de_bin op_pow (den_int fun _ _ => powC_ok) ha hb
abbrev shlD : O2 := intD powC fun i j => i * 2 ^ j.toNat
theorem de_shl {a b : Expr} {ma mb : M D} (ha : PE X a (rdE B ma)) (hb : PE X b (rdE B mb)) : PE X (.BinOp a .LShift b pos) (rdE B (mBin shlD ma mb)) := de_bin op_shl (den_int fun _ _ => powC_ok) ha hb
abbrev shrD : O2 := intD (fun _ j => decide (0 ≤ j)) fun i j => i / 2 ^ j.toNat
theorem de_shr {a b : Expr} {ma mb : M D} (ha : PE X a (rdE B ma)) (hb : PE X b (rdE B mb)) : PE X (.BinOp a .RShift b pos) (rdE B (mBin shrD ma mb)) := de_bin op_shr (den_int fun _ _ h => of_decide_eq_true h) ha hb

abbrev O1 := D → Store → R D
def mUn (o : O1) (a : M D) : M D := fun ρ S => (a ρ S).bind o
def negD : O1
  | .int i, S => .ok (.int (-i)) S
  | _, _ => .bad
theorem de_neg {a : Expr} {ma : M D} (ha : PE X a (rdE B ma)) : PE X (.UnaryOp .USub a pos) (rdE B (mUn negD ma)) :=
  PE.imp (pe_un un_neg ha) fun σ H Q ⟨ρ, S, θ, R0, rs, f⟩ => ⟨ρ, S, θ, R0, rs, Fin.bind f fun x S1 θ1 H1 v _ e1 R1 r1 f1 => by
    cases x with
    | int i => cases r1; exact ⟨i, rfl, f1.ok .refl R1 (.int _)⟩
    | _ => exact f1.elim⟩

abbrev C2 := D → D → Store → Option Bool
def cmpD (c : C2) : O2 := fun d e S => match c d e S with
  | some b => .ok (.bl b) S
  | none => .bad
/-- r serves the answer of c -/
def DenC (B : Bv) (r : R2) (c : C2) : Prop := ∀ (θ : List Addr) (S : Store) (H : Hp) (d e : D) (x y : V) (b : Bool) (Q : VK), Rel B.G B.F θ S H → RD B.G θ H d x → RD B.G θ H e y → c d e S = some b → Q (.bl b) H → r x y H Q
theorem DenC.d2 {r : R2} {c : C2} (h : DenC B r c) : Den2 B r (cmpD c) := by
  intro σ θ S H d e x y Q R0 r1 r2 f
  unfold cmpD at f
  cases q : c d e S with
  | none => rw [q] at f; exact f.elim
  | some b => rw [q] at f; exact h θ S H d e x y b Q R0 r1 r2 q (f.ok .refl R0 (.bl b))
def ltI (g : Int → Int → Bool) : C2
  | .int i, .int j, _ => some (g i j)
  | _, _, _ => none
theorem den_ltI {g : Int → Int → Bool} : DenC B (rI0 fun i j => .bl (g i j)) (ltI g) := by
  intro θ S H d e x y b Q R0 r1 r2 h q
  cases d with
  | int i =>
    cases e with
    | int j => cases r1; cases r2; cases h; exact ⟨i, j, rfl, rfl, q⟩
    | _ => cases h
  | _ => cases h
/-- the data of Python: what == looks at -/
def toPy : Nat → Store → D → Option PyData
  | 0, _, _ => none
  | n + 1, S, d => match d with
    | .non => some .none
    | .bl b => some (.bool b)
    | .int i => some (.int i)
    | .str s => some (.str s)
    | .tup ds => (ds.mapM (toPy n S)).map .tuple
    | .pr ds => (ds.mapM (toPy n S)).map .tuple
    | .lst ds => (ds.mapM (toPy n S)).map .list
    | .brw ds => (ds.mapM (toPy n S)).map .list
    | .kst ds => (ds.mapM (toPy n S)).map .list
    | .ref k => match S[k]? with
      | some (.lst ds) => (ds.mapM (toPy n S)).map .list
      | _ => none
    | _ => none
end
end DM

namespace DM
open PySem PySem.Spec L2
open PyProof.Rows hiding St

section
variable {X : Cx} {B : Bv} {pos : Pos}

theorem dpAll_of {G : Gv} {F : Fr0} {θ : List Addr} {S : Store} {H : Hp} {n : Nat} (ih : ∀ (d : D) (v : V) (p : PyData), RD G θ H d v → toPy n S d = some p → Dp G.K H v p) :
    ∀ (ds : List D) (vs : List V) (ps : List PyData), RDs G θ H ds vs → ds.mapM (toPy n S) = some ps → DpAll G.K H vs ps
  | [], _, ps, .nil, e => by
    simp at e
    subst e
    exact .nil
  | d :: ds, _, ps, .cons r rs, e => by
    rw [List.mapM_cons] at e
    cases q : toPy n S d with
    | none => rw [q] at e; cases e
    | some p =>
      rw [q] at e
      cases q2 : ds.mapM (toPy n S) with
      | none => rw [q2] at e; cases e
      | some ps' =>
        rw [q2] at e
        cases e
        exact .cons (ih d _ p r q) (dpAll_of (F := F) ih ds _ ps' rs q2)
theorem map_some {α β : Type} {o : Option α} {f : α → β} {b : β} (h : o.map f = some b) : ∃ a, o = some a ∧ f a = b := by
  cases o with
  | none => cases h
  | some a => cases h; exact ⟨a, rfl, rfl⟩
theorem toPy_dp {G : Gv} {F : Fr0} {θ : List Addr} {S : Store} {H : Hp} (R0 : Rel G F θ S H) : ∀ (n : Nat) (d : D) (v : V) (p : PyData), RD G θ H d v → toPy n S d = some p → Dp G.K H v p
  | 0, _, _, _, _, e => by cases e
  | n + 1, d, v, p, r, e => by
    have ih := toPy_dp R0 n
    cases r with
    | non => cases e; exact .non
    | bl b => cases e; exact .bl b
    | int i => cases e; exact .int i
    | str s => cases e; exact .str s
    | ty s => cases e
    | fn h => cases e
    | edc h0 h1 h2 => cases e
    | tup h1 h2 =>
      obtain ⟨ps, e1, rfl⟩ := map_some e
      exact .tup h1.sq (dpAll_of (F := F) ih _ _ _ h2 e1)
    | pr h1 h2 =>
      obtain ⟨ps, e1, rfl⟩ := map_some e
      exact .tup h1 (dpAll_of (F := F) ih _ _ _ h2 e1)
    | lst h0 h1 h2 h3 =>
      obtain ⟨ps, e1, rfl⟩ := map_some e
      exact .lst (.inl (.inl h2)) (dpAll_of (F := F) ih _ _ _ h3 e1)
    | brw h1 h2 h3 =>
      obtain ⟨ps, e1, rfl⟩ := map_some e
      exact .lst (.inl (.inl h2)) (dpAll_of (F := F) ih _ _ _ h3 e1)
    | kst h1 h2 =>
      obtain ⟨ps, e1, rfl⟩ := map_some e
      exact .lst h1.sq (dpAll_of (F := F) ih _ _ _ h2 e1)
    | @ref k a h =>
      have e' : (match S[k]? with | some (.lst ds) => (ds.mapM (toPy n S)).map .list | _ => none) = some p := e
      cases q : S[k]? with
      | none => rw [q] at e'; cases e'
      | some c =>
        cases c with
        | dct kvs => rw [q] at e'; cases e'
        | rev rs0 k0 => rw [q] at e'; cases e'
        | lst ds =>
          rw [q] at e'
          obtain ⟨ps, e1, rfl⟩ := map_some e'
          obtain ⟨xs, h1, h2⟩ := R0.cells _ _ _ h q
          exact .lst (.inl (.inl h1)) (dpAll_of (F := F) ih _ _ _ h2 e1)
def eqG (d e : D) (S : Store) : Option Bool := match toPy 20 S d, toPy 20 S e with
  | some p, some q => if SeqAt.shaped p && SeqAt.shaped q then some (PyData.eqv p q) else none
  | _, _ => none
def eqC : C2
  | .int i, .int j, _ => some (decide (i = j))
  | .str x, .str y, _ => some (decide (x = y))
  | .bl a, .bl b, _ => some (a == b)
  | d, e, S => eqG d e S
abbrev rEqA (K : PySem.W.Frag) : R2 := fun x y H Q => rEq x y H Q ∨ rEqD K x y H Q
theorem opR_eq (hu : X.A.units + 65 < cLine) : OpR X (compareOp .Eq) (rEqA X.K) := op_eq.or (op_eqD (by omega))
theorem eqG_ok {G : Gv} {F : Fr0} {θ : List Addr} {S : Store} {H : Hp} (R0 : Rel G F θ S H) {d e : D} {x y : V} {b : Bool} (r1 : RD G θ H d x) (r2 : RD G θ H e y) (h : eqG d e S = some b) :
    ∃ p q, Dp G.K H x p ∧ Dp G.K H y q ∧ SeqAt.shaped p = true ∧ SeqAt.shaped q = true ∧ b = PyData.eqv p q := by
  unfold eqG at h
  cases q1 : toPy 20 S d with
  | none => rw [q1] at h; cases h
  | some p =>
    cases q2 : toPy 20 S e with
    | none => rw [q1, q2] at h; cases h
    | some q =>
      rw [q1, q2] at h
      replace h : (if SeqAt.shaped p && SeqAt.shaped q then some (PyData.eqv p q) else none) = some b := h
      by_cases hc : (SeqAt.shaped p && SeqAt.shaped q) = true
      · rw [if_pos hc] at h
        cases h
        rw [Bool.and_eq_true] at hc
        exact ⟨p, q, toPy_dp R0 _ _ _ _ r1 q1, toPy_dp R0 _ _ _ _ r2 q2, hc.1, hc.2, rfl⟩
      · rw [if_neg hc] at h; cases h
theorem den_eq (hK : B.G.K = X.K) : DenC B (rEqA X.K) eqC := by
  intro θ S H d e x y b Q R0 r1 r2 h q
  have gen : eqG d e S = some b → rEqA X.K x y H Q := fun h => by
    obtain ⟨p, r, h1, h2, h3, h4, rfl⟩ := eqG_ok R0 r1 r2 h
    rw [hK] at h1 h2
    exact .inr ⟨p, r, h1, h2, h3, h4, q⟩
  cases d with
  | int i =>
    cases e with
    | int j =>
      cases r1; cases r2; cases h
      refine .inl ⟨rfl, ?_⟩
      have e0 : decide (V.int i = V.int j) = decide (i = j) := by simp
      rw [e0]; exact q
    | _ => exact gen h
  | str s =>
    cases e with
    | str t =>
      cases r1; cases r2; cases h
      refine .inl ⟨rfl, ?_⟩
      have e0 : decide (V.str s = V.str t) = decide (s = t) := by simp
      rw [e0]; exact q
    | _ => exact gen h
  | bl s =>
    cases e with
    | bl t =>
      cases r1; cases r2; cases h
      refine .inl ⟨rfl, ?_⟩
      rw [dec_bl]; exact q
    | _ => exact gen h
  | _ => exact gen h
def neC : C2 := fun d e S => (eqC d e S).map (!·)
abbrev rNeA (K : PySem.W.Frag) : R2 := fun x y H Q => rNe x y H Q ∨ rNeD K x y H Q
theorem opR_ne (hu : X.A.units + 65 < cLine) : OpR X (compareOp .NotEq) (rNeA X.K) := op_ne.or (op_neD (by omega))
theorem den_ne (hK : B.G.K = X.K) : DenC B (rNeA X.K) neC := by
  intro θ S H d e x y b Q R0 r1 r2 h q
  obtain ⟨b', h9, rfl⟩ := map_some h
  have h := h9
  clear h9
  have gen : eqG d e S = some b' → rNeA X.K x y H Q := fun h => by
    obtain ⟨p, r, h1, h2, h3, h4, rfl⟩ := eqG_ok R0 r1 r2 h
    rw [hK] at h1 h2
    exact .inr ⟨p, r, h1, h2, h3, h4, q⟩
  cases d with
  | int i =>
    cases e with
    | int j =>
      cases r1; cases r2; cases h
      refine .inl ⟨rfl, ?_⟩
      have e0 : decide (V.int i = V.int j) = decide (i = j) := by simp
      rw [e0]; exact q
    | _ => exact gen h
  | str s =>
    cases e with
    | str t =>
      cases r1; cases r2; cases h
      refine .inl ⟨rfl, ?_⟩
      have e0 : decide (V.str s = V.str t) = decide (s = t) := by simp
      rw [e0]; exact q
    | _ => exact gen h
  | bl s =>
    cases e with
    | bl t =>
      cases r1; cases r2; cases h
      refine .inl ⟨rfl, ?_⟩
      rw [dec_bl]; exact q
    | _ => exact gen h
  | _ => exact gen h
/-- order of ints, of tuples of ints, of texts -/
def asInts : List D → Option (List Int)
  | [] => some []
  | .int i :: r => (asInts r).map (i :: ·)
  | _ => none
theorem asInts_ok {G : Gv} {θ : List Addr} {H : Hp} : ∀ {ds : List D} {vs : List V} {ns : List Int}, RDs G θ H ds vs → asInts ds = some ns → vs = ns.map V.int
  | [], _, _, .nil, e => by cases e; rfl
  | .int i :: r, _, _, .cons h t, e => by
    cases h
    obtain ⟨ms, e1, rfl⟩ := map_some e
    rw [asInts_ok t e1]; rfl
def tupOf : D → Option (List D)
  | .tup ds => some ds
  | .pr ds => some ds
  | _ => none
theorem tupOf_ok {G : Gv} {θ : List Addr} {H : Hp} {d : D} {v : V} {ds : List D} (r : RD G θ H d v) (e : tupOf d = some ds) : ∃ a xs, v = .ref a ∧ SqT G.K H a xs ∧ RDs G θ H ds xs := by
  cases r with
  | tup h1 h2 => cases e; exact ⟨_, _, rfl, h1.sq, h2⟩
  | pr h1 h2 => cases e; exact ⟨_, _, rfl, h1, h2⟩
  | _ => cases e
def ltT (xs ys : List D) : Option Bool := match asInts xs, asInts ys with
  | some ns, some ms => some (HT.lexLt ns ms)
  | _, _ => none
def ltC : C2
  | .int i, .int j, _ => some (decide (i < j))
  | .str x, .str y, _ => some (decide (x.cps.toList < y.cps.toList))
  | .tup xs, .tup ys, _ => ltT xs ys
  | d, e, _ => match tupOf d, tupOf e with
    | some xs, some ys => ltT xs ys
    | _, _ => none
abbrev rLtA (K : PySem.W.Frag) : R2 := fun x y H Q => rI0 (fun i j => .bl (decide (i < j))) x y H Q ∨ (∃ i j, x = .str i ∧ y = .str j ∧ Q (.bl (decide (i.cps.toList < j.cps.toList))) H) ∨ rLtT K x y H Q
theorem opR_lt (hu : X.A.units + 65 < cLine) : OpR X (compareOp .Lt) (rLtA X.K) := op_lt.or (op_lt_str.or (op_ltT (by omega)))
theorem den_lt (hK : B.G.K = X.K) : DenC B (rLtA X.K) ltC := by
  intro θ S H d e x y b Q R0 r1 r2 h q
  have tups : ∀ {xs ys : List D}, tupOf d = some xs → tupOf e = some ys → ltT xs ys = some b → rLtA X.K x y H Q := fun {xs ys} k1 k2 h => by
    obtain ⟨a, us, rfl, h1, h2⟩ := tupOf_ok r1 k1
    obtain ⟨c, ws, rfl, h3, h4⟩ := tupOf_ok r2 k2
    unfold ltT at h
    cases q1 : asInts xs with
    | none => rw [q1] at h; cases h
    | some ns =>
      cases q2 : asInts ys with
      | none => rw [q1, q2] at h; cases h
      | some ms =>
        rw [q1, q2] at h
        cases h
        rw [hK] at h1 h3
        rw [asInts_ok h2 q1] at h1
        rw [asInts_ok h4 q2] at h3
        exact .inr (.inr ⟨a, c, ns, ms, rfl, rfl, h1, h3, q⟩)
  have gen : (match tupOf d, tupOf e with
    | some xs, some ys => ltT xs ys
    | _, _ => none) = some b → rLtA X.K x y H Q := fun h => by
    cases k1 : tupOf d with
    | none => rw [k1] at h; cases h
    | some xs =>
      cases k2 : tupOf e with
      | none => rw [k1, k2] at h; cases h
      | some ys =>
        rw [k1, k2] at h
        exact tups k1 k2 h
  cases d with
  | int i =>
    cases e with
    | int j => cases r1; cases r2; cases h; exact .inl ⟨i, j, rfl, rfl, q⟩
    | _ => exact gen h
  | str s =>
    cases e with
    | str t => cases r1; cases r2; cases h; exact .inr (.inl ⟨s, t, rfl, rfl, q⟩)
    | _ => exact gen h
  | tup xs =>
    cases e with
    | tup ys => exact tups rfl rfl h
    | _ => exact gen h
  | _ => exact gen h
/-- is None -/
def isNon : D → Bool
  | .non => true
  | _ => false
def isNC : C2
  | d, .non, _ => some (isNon d)
  | _, _, _ => none
theorem isN_v {G : Gv} {θ : List Addr} {H : Hp} {d : D} {x : V} (r : RD G θ H d x) : decide (x = V.non) = isNon d := by
  cases r <;> rfl
theorem den_isN : DenC B (fun x y H Q => y = .non ∧ Q (.bl (decide (x = .non))) H) isNC := by
  intro θ S H d e x y b Q R0 r1 r2 h q
  cases e with
  | non =>
    cases r2
    refine ⟨rfl, ?_⟩
    rw [isN_v r1]
    have h' : some (isNon d) = some b := by cases d <;> exact h
    rw [Option.some.inj h']; exact q
  | _ => cases d <;> cases h
def notNC : C2 := fun d e S => (isNC d e S).map (!·)
theorem den_notN : DenC B (fun x y H Q => y = .non ∧ Q (.bl (!decide (x = .non))) H) notNC := by
  intro θ S H d e x y b Q R0 r1 r2 h q
  obtain ⟨b', h9, rfl⟩ := map_some h
  have h := h9
  clear h9
  cases e with
  | non =>
    cases r2
    refine ⟨rfl, ?_⟩
    rw [isN_v r1]
    have h' : some (isNon d) = some b' := by cases d <;> exact h
    rw [Option.some.inj h']; exact q
  | _ => cases d <;> cases h
theorem de_cmp {op : CmpOp} {r : R2} {c : C2} {a b : Expr} {ma mb : M D} (ho : OpR X (compareOp op) r) (hd : DenC B r c) (ha : PE X a (rdE B ma)) (hb : PE X b (rdE B mb)) (hm : behindInMarks op b = false) : PE X (.Compare a [op] [b] pos) (rdE B (mBin (cmpD c) ma mb)) :=
  PE.imp (pe_cmpR ho ha hb hm) (imp_bin hd.d2)

def truD : D → Store → Option Bool
  | .non, _ => some false
  | .bl b, _ => some b
  | .int i, _ => some (i != 0)
  | .str s, _ => if s.length ≤ sizeLine then some ((s.length : Int) != 0) else none
  | d, S => (getSeq d S).map fun ds => !ds.isEmpty
theorem isEmpty_r {G : Gv} {θ : List Addr} {H : Hp} {ds : List D} {vs : List V} (r : RDs G θ H ds vs) : ds.isEmpty = vs.isEmpty := by cases r <;> rfl
theorem truD_ok {G : Gv} {F : Fr0} {θ : List Addr} {S : Store} {H : Hp} {d : D} {x : V} {b : Bool} (R0 : Rel G F θ S H) (r : RD G θ H d x) (h : truD d S = some b) : TruV G.K x H b := by
  have seq : ((getSeq d S).map fun ds => !ds.isEmpty) = some b → TruV G.K x H b := fun h => by
    obtain ⟨ds, e, rfl⟩ := map_some h
    obtain ⟨a, xs, rfl, k, rs⟩ := getSeq_ok R0 r e
    rw [isEmpty_r rs]
    rcases k with k | k
    · exact .inl ⟨xs, k, rfl⟩
    · exact .inr (.inl ⟨xs, k, rfl⟩)
  cases d with
  | non => cases r; cases h; rfl
  | bl b => cases r; cases h; rfl
  | int i => cases r; cases h; rfl
  | str s =>
    cases r
    have h' : (if s.length ≤ sizeLine then some ((s.length : Int) != 0) else none) = some b := h
    by_cases hc : s.length ≤ sizeLine
    · rw [if_pos hc] at h'; cases h'; exact ⟨hc, rfl⟩
    · rw [if_neg hc] at h'; cases h'
  | _ => exact seq h
def testD (d : D) (S : Store) : R Bool := match truD d S with
  | some b => .ok b S
  | none => .bad
def mTest (a : M D) : M Bool := fun ρ S => (a ρ S).bind testD
theorem dt_truth {a : Expr} {ma : M D} (hK : B.G.K = X.K) (ha : PE X a (rdE B ma)) (he : ∀ whole, PySem.isTrue a X.env whole = (do let v ← whole; standAt a.pos; holding [v] (truthy v)) := by intro _; rfl) : PT X a (rdT B (mTest ma)) :=
  PT.imp (pt_truth ha he) fun σ H Q ⟨ρ, S, θ, R0, rs, f⟩ => ⟨ρ, S, θ, R0, rs, Fin.bind f fun x S1 θ1 H1 v _ e1 R1 r1 f1 => by
    unfold testD at f1
    cases q : truD x S1 with
    | none => rw [q] at f1; exact f1.elim
    | some b =>
      rw [q] at f1
      exact ⟨b, hK ▸ truD_ok R1 r1 q, f1.ok .refl R1 rfl⟩⟩
theorem dt_cmp {op : CmpOp} {r : R2} {c : C2} {a b : Expr} {ma mb : M D} (ho : OpR X (compareOp op) r) (hd : DenC B r c) (ha : PE X a (rdE B ma)) (hb : PE X b (rdE B mb)) (hm : behindInMarks op b = false) : PT X (.Compare a [op] [b] pos) (rdT B (mTest (mBin (cmpD c) ma mb))) :=
  PT.imp (pt_cmpR ho ha hb hm) fun σ H Q ⟨ρ, S, θ, R0, rs, f⟩ => by
    refine ⟨ρ, S, θ, R0, rs, ?_⟩
    have f' : Fin B (fun _ _ a b => a = b) σ θ H ((ma ρ S).bind fun x S1 => ((mb ρ S1).bind fun y S2 => (cmpD c x y S2).bind testD)) Q := by
      have e : mTest (mBin (cmpD c) ma mb) ρ S = (ma ρ S).bind fun x S1 => ((mb ρ S1).bind fun y S2 => (cmpD c x y S2).bind testD) := by
        unfold mTest mBin
        cases ma ρ S with
        | ok a S1 =>
          show ((mb ρ S1).bind _).bind _ = (mb ρ S1).bind _
          cases mb ρ S1 <;> rfl
        | exc => rfl
        | bad => rfl
      rw [← e]; exact f
    refine Fin.bind f' fun x S1 θ1 H1 v _ e1 R1 r1 f1 => ⟨ρ, S1, θ1, R1, rs.ext e1, Fin.bind f1 fun y S2 θ2 H2 u _ e2 R2 r2 f2 => ?_⟩
    cases q : c x y S2 with
    | none =>
      have e : cmpD c x y S2 = .bad := by unfold cmpD; rw [q]
      rw [e] at f2; exact f2.elim
    | some b =>
      have e : cmpD c x y S2 = .ok (.bl b) S2 := by unfold cmpD; rw [q]
      rw [e] at f2
      exact hd θ2 S2 H2 x y v u b _ R2 (r1.ext e2) r2 q ⟨b, rfl, f2.ok .refl R2 rfl⟩
def mNotT (a : M Bool) : M Bool := fun ρ S => (a ρ S).bind fun b S1 => .ok (!b) S1
def mAndT (a b : M Bool) : M Bool := fun ρ S => (a ρ S).bind fun x S1 => if x then b ρ S1 else .ok false S1
def mOrT (a b : M Bool) : M Bool := fun ρ S => (a ρ S).bind fun x S1 => if x then .ok true S1 else b ρ S1
theorem dt_not {a : Expr} {ma : M Bool} (ha : PT X a (rdT B ma)) : PT X (.UnaryOp .Not a pos) (rdT B (mNotT ma)) :=
  PT.imp (pt_not ha) fun σ H Q ⟨ρ, S, θ, R0, rs, f⟩ => ⟨ρ, S, θ, R0, rs, Fin.bind f fun x S1 θ1 H1 v _ e1 R1 r1 f1 => by subst r1; exact f1.ok .refl R1 rfl⟩
theorem dw_and1 {a : Expr} {ma : M Bool} (ha : PT X a (rdT B ma)) : PW X (.BoolOp .And [a] pos) (rdT B ma) := pw_and1 ha
theorem dw_or1 {a : Expr} {ma : M Bool} (ha : PT X a (rdT B ma)) : PW X (.BoolOp .Or [a] pos) (rdT B ma) := pw_or1 ha
theorem dw_and {a b : Expr} {rest : List Expr} {ma mb : M Bool} (ha : PT X a (rdT B ma)) (hb : PW X (.BoolOp .And (b :: rest) pos) (rdT B mb)) : PW X (.BoolOp .And (a :: b :: rest) pos) (rdT B (mAndT ma mb)) :=
  PW.imp (pw_and ha hb) fun σ H Q ⟨ρ, S, θ, R0, rs, f⟩ => ⟨ρ, S, θ, R0, rs, Fin.bind f fun x S1 θ1 H1 v _ e1 R1 r1 f1 => by
    subst r1
    cases x with
    | true => exact ⟨ρ, S1, θ1, R1, rs.ext e1, f1⟩
    | false => exact f1.ok .refl R1 rfl⟩
theorem dw_or {a b : Expr} {rest : List Expr} {ma mb : M Bool} (ha : PT X a (rdT B ma)) (hb : PW X (.BoolOp .Or (b :: rest) pos) (rdT B mb)) : PW X (.BoolOp .Or (a :: b :: rest) pos) (rdT B (mOrT ma mb)) :=
  PW.imp (pw_or ha hb) fun σ H Q ⟨ρ, S, θ, R0, rs, f⟩ => ⟨ρ, S, θ, R0, rs, Fin.bind f fun x S1 θ1 H1 v _ e1 R1 r1 f1 => by
    subst r1
    cases x with
    | true => exact f1.ok .refl R1 rfl
    | false => exact ⟨ρ, S1, θ1, R1, rs.ext e1, f1⟩⟩
/-- .. as values -/
def mNot (a : M D) : M D := fun ρ S => (a ρ S).bind fun x S1 => (testD x S1).bind fun b S2 => .ok (.bl (!b)) S2
def mAnd (a b : M D) : M D := fun ρ S => (a ρ S).bind fun x S1 => (testD x S1).bind fun k S2 => if k then b ρ S2 else .ok x S2
def mOr (a b : M D) : M D := fun ρ S => (a ρ S).bind fun x S1 => (testD x S1).bind fun k S2 => if k then .ok x S2 else b ρ S2
theorem fin_test {γ δ : Type} {Rl : List Addr → Hp → γ → δ → Prop} {σ : St} {θ : List Addr} {S : Store} {H : Hp} {x : D} {v : V} {f : Bool → Store → R γ} {Q : δ → Hp → Prop} (R0 : Rel B.G B.F θ S H) (r : RD B.G θ H x v) (h : Fin B Rl σ θ H ((testD x S).bind f) Q) :
    ∃ k, TruV B.G.K v H k ∧ Fin B Rl σ θ H (f k S) Q := by
  unfold testD at h
  cases q : truD x S with
  | none => rw [q] at h; exact h.elim
  | some b => rw [q] at h; exact ⟨b, truD_ok R0 r q, h⟩
theorem de_not {a : Expr} {ma : M D} (hK : B.G.K = X.K) (ha : PE X a (rdE B ma)) : PE X (.UnaryOp .Not a pos) (rdE B (mNot ma)) :=
  PE.imp (pe_notT ha) fun σ H Q ⟨ρ, S, θ, R0, rs, f⟩ => ⟨ρ, S, θ, R0, rs, Fin.bind f fun x S1 θ1 H1 v _ e1 R1 r1 f1 => by
    obtain ⟨k, hk, f2⟩ := fin_test R1 r1 f1
    exact ⟨k, hK ▸ hk, f2.ok .refl R1 (.bl _)⟩⟩
theorem de_one {op} {a : Expr} {ma : M D} (ha : PE X a (rdE B ma)) : PE X (.BoolOp op [a] pos) (rdE B ma) := pe_one ha
theorem de_and {a b : Expr} {rest : List Expr} {ma mb : M D} (hK : B.G.K = X.K) (ha : PE X a (rdE B ma)) (hb : PE X (.BoolOp .And (b :: rest) pos) (rdE B mb)) : PE X (.BoolOp .And (a :: b :: rest) pos) (rdE B (mAnd ma mb)) :=
  PE.imp (pe_andT ha hb) fun σ H Q ⟨ρ, S, θ, R0, rs, f⟩ => ⟨ρ, S, θ, R0, rs, Fin.bind f fun x S1 θ1 H1 v _ e1 R1 r1 f1 => by
    obtain ⟨k, hk, f2⟩ := fin_test R1 r1 f1
    refine ⟨k, hK ▸ hk, ?_⟩
    cases k with
    | true => exact ⟨ρ, S1, θ1, R1, rs.ext e1, f2⟩
    | false => exact f2.ok .refl R1 r1⟩
theorem de_or {a b : Expr} {rest : List Expr} {ma mb : M D} (hK : B.G.K = X.K) (ha : PE X a (rdE B ma)) (hb : PE X (.BoolOp .Or (b :: rest) pos) (rdE B mb)) : PE X (.BoolOp .Or (a :: b :: rest) pos) (rdE B (mOr ma mb)) :=
  PE.imp (pe_orT ha hb) fun σ H Q ⟨ρ, S, θ, R0, rs, f⟩ => ⟨ρ, S, θ, R0, rs, Fin.bind f fun x S1 θ1 H1 v _ e1 R1 r1 f1 => by
    obtain ⟨k, hk, f2⟩ := fin_test R1 r1 f1
    refine ⟨k, hK ▸ hk, ?_⟩
    cases k with
    | true => exact f2.ok .refl R1 r1
    | false => exact ⟨ρ, S1, θ1, R1, rs.ext e1, f2⟩⟩
def mIf (c : M Bool) (a b : M D) : M D := fun ρ S => (c ρ S).bind fun k S1 => if k then a ρ S1 else b ρ S1
theorem de_if {c a b : Expr} {mc : M Bool} {ma mb : M D} (hc : PT X c (rdT B mc)) (ha : PE X a (rdE B ma)) (hb : PE X b (rdE B mb)) : PE X (.IfExp c a b pos) (rdE B (mIf mc ma mb)) :=
  PE.imp (pe_ifExp hc ha hb) fun σ H Q ⟨ρ, S, θ, R0, rs, f⟩ => ⟨ρ, S, θ, R0, rs, Fin.bind f fun x S1 θ1 H1 v _ e1 R1 r1 f1 => by
    subst r1
    cases x with
    | true => exact ⟨ρ, S1, θ1, R1, rs.ext e1, f1⟩
    | false => exact ⟨ρ, S1, θ1, R1, rs.ext e1, f1⟩⟩
/-- a < b < c -/
def mChain (o o' : O2) (a b c : M D) : M D := fun ρ S => (a ρ S).bind fun x S1 => (b ρ S1).bind fun y S2 => (o x y S2).bind fun z S3 => match z with
  | .bl true => (c ρ S3).bind fun w S4 => o' y w S4
  | .bl false => .ok (.bl false) S3
  | _ => .bad
end
end DM

namespace DM
open PySem PySem.Spec L2
open PyProof.Rows hiding St

inductive SR where
  | nx (ρ : Env) (S : Store) | bk (ρ : Env) (S : Store) | ct (ρ : Env) (S : Store)
  | rt (d : D) (S : Store)
  | exc (x : Ex) (ρ : Env) (S : Store)
  | bad
abbrev SM := Env → Store → SR
def R.toS {α : Type} : R α → Env → (α → Store → SR) → SR
  | .ok a S, _, k => k a S
  | .exc x S, ρ, _ => .exc x ρ S
  | .bad, _, _ => .bad
def FinS (B : Bv) (θ : List Addr) (H : Hp) (r : SR) (D : Ends) : Prop :=
  match r with
  | .nx ρ S => ∀ θ' σ' H', Ext θ H θ' H' → Rel B.G B.F θ' S H' → RS B.G θ' H' ρ σ' → D.nx σ' H'
  | .bk ρ S => ∀ θ' σ' H', Ext θ H θ' H' → Rel B.G B.F θ' S H' → RS B.G θ' H' ρ σ' → D.bk σ' H'
  | .ct ρ S => ∀ θ' σ' H', Ext θ H θ' H' → Rel B.G B.F θ' S H' → RS B.G θ' H' ρ σ' → D.ct σ' H'
  | .rt d S => ∀ θ' H' v, Ext θ H θ' H' → Rel B.G B.F θ' S H' → RD B.G θ' H' d v → D.rt v H'
  | .exc x ρ S => ∀ θ' σ' H' c a, Ext θ H θ' H' → Rel B.G B.F θ' S H' → RS B.G θ' H' ρ σ' → RX B.G θ' H' x c a → B.W c a σ' H'
  | .bad => False
theorem FinS.ext {B : Bv} {θ θ1 : List Addr} {H H1 : Hp} {r : SR} {D : Ends} (e : Ext θ H θ1 H1) (h : FinS B θ H r D) : FinS B θ1 H1 r D := by
  cases r with
  | nx ρ S => exact fun θ' σ' H' e' => h θ' σ' H' (e.trans e')
  | bk ρ S => exact fun θ' σ' H' e' => h θ' σ' H' (e.trans e')
  | ct ρ S => exact fun θ' σ' H' e' => h θ' σ' H' (e.trans e')
  | rt d S => exact fun θ' H' v e' => h θ' H' v (e.trans e')
  | exc x ρ S => exact fun θ' σ' H' c a e' => h θ' σ' H' c a (e.trans e')
  | bad => exact h
theorem FinS.bind {α β : Type} {B : Bv} {Rl : List Addr → Hp → α → β → Prop} {ρ : Env} {σ : St} {θ : List Addr} {H : Hp} {r : R α} {k : α → Store → SR} {D : Ends} {P : β → Hp → Prop} (rs : RS B.G θ H ρ σ) (h : FinS B θ H (r.toS ρ k) D)
    (f : ∀ a S1 θ1 H1 v, r = .ok a S1 → Ext θ H θ1 H1 → Rel B.G B.F θ1 S1 H1 → Rl θ1 H1 a v → FinS B θ1 H1 (k a S1) D → P v H1) : Fin B Rl σ θ H r P := by
  cases r with
  | ok a S => exact fun θ1 H1 v e1 R1 r1 => f a S θ1 H1 v rfl e1 R1 r1 (h.ext e1)
  | exc x S => exact fun θ1 H1 c d e1 R1 x1 => h θ1 σ H1 c d e1 R1 (rs.ext e1) x1
  | bad => exact h
/-- the same with another state ahead -/
def rdS (B : Bv) (m : SM) : TS := fun D σ H => ∃ (ρ : Env) (S : Store) (θ : List Addr), Rel B.G B.F θ S H ∧ RS B.G θ H ρ σ ∧ FinS B θ H (m ρ S) D
/-- targets -/
abbrev TM := D → Env → Store → R Env
/-- the slots but those in I are as they were -/
structure Agr (I : Nat → Prop) (σ σ' : St) : Prop where
  len : σ'.length = σ.length
  eq : ∀ j, ¬ I j → σ'[j]? = σ[j]?
theorem Agr.refl {I : Nat → Prop} {σ : St} : Agr I σ σ := ⟨rfl, fun _ _ => rfl⟩
theorem Agr.trans {I : Nat → Prop} {σ σ1 σ2 : St} (a : Agr I σ σ1) (b : Agr I σ1 σ2) : Agr I σ σ2 := ⟨b.len.trans a.len, fun j h => (b.eq j h).trans (a.eq j h)⟩
theorem Agr.set {I : Nat → Prop} {σ : St} {i : Nat} {o : Option V} (h : I i) : Agr I σ (σ.set i o) := ⟨by simp, fun j hj => List.getElem?_set_ne (fun (e : i = j) => hj (e ▸ h))⟩
abbrev RSA (B : Bv) (I : Nat → Prop) (σ : St) (θ : List Addr) (H : Hp) (ρ : Env) (σ' : St) : Prop := RS B.G θ H ρ σ' ∧ Agr I σ σ'
def rdG (B : Bv) (I : Nat → Prop) (m : TM) : TG := fun v σ H Q => ∃ (ρ : Env) (S : Store) (θ : List Addr) (d : D), Rel B.G B.F θ S H ∧ RS B.G θ H ρ σ ∧ RD B.G θ H d v ∧ Fin B (RSA B I σ) σ θ H (m d ρ S) Q
abbrev TMs := List D → Env → Store → R Env
def rdGs (B : Bv) (I : Nat → Prop) (m : TMs) : TGs := fun vs σ H Q => ∃ (ρ : Env) (S : Store) (θ : List Addr) (ds : List D), Rel B.G B.F θ S H ∧ RS B.G θ H ρ σ ∧ RDs B.G θ H ds vs ∧ Fin B (RSA B I σ) σ θ H (m ds ρ S) Q
theorem PG.imp {X : Cx} {e : Expr} {t t' : TG} (h : PG X e t) (k : ∀ v σ H Q, t' v σ H Q → t v σ H Q) : PG X e t' := ⟨fun pins s σ H v u Q I r q => h.run pins s σ H v u Q I r (k v σ H Q q)⟩
theorem PGs.imp {X : Cx} {e : List Expr} {t t' : TGs} (h : PGs X e t) (k : ∀ v σ H Q, t' v σ H Q → t v σ H Q) : PGs X e t' := ⟨fun pins s σ H v u Q I r q => h.run pins s σ H v u Q I r (k v σ H Q q)⟩
theorem PI.imp {X : Cx} {tg e : Expr} {t t' : TI} (h : PI X tg e t) (k : ∀ σ H Q, t' σ H Q → t σ H Q) : PI X tg e t' := ⟨fun pins s σ H R I q => h.run pins s σ H R I (k σ H R q)⟩

section
variable {X : Cx} {B : Bv} {pos : Pos}
def tName (i : Nat) : TM := fun d ρ S => .ok (ρ.set i (some d)) S
theorem dg_name {I : Nat → Prop} {i : Nat} {x : Str} (hI : I i) (h : PG X (.Name x pos) (gName i)) : PG X (.Name x pos) (rdG B I (tName i)) :=
  PG.imp h fun v σ H Q ⟨ρ, S, θ, d, R0, rs, r, f⟩ => f.ok .refl R0 ⟨rs.set r i, .set hI⟩
def tNils : TMs := fun ds ρ S => match ds with
  | [] => .ok ρ S
  | _ => .bad
def tConss (a : TM) (b : TMs) : TMs := fun ds ρ S => match ds with
  | d :: r => (a d ρ S).bind fun ρ1 S1 => b r ρ1 S1
  | [] => .bad
end
/-- results that are no exceptions -/
def R.noexc {α : Type} : R α → R α
  | .exc _ _ => .bad
  | r => r
theorem Fin.noexc {α β : Type} {B : Bv} {Rl : List Addr → Hp → α → β → Prop} {σ σ' : St} {θ : List Addr} {H : Hp} {r : R α} {Q : β → Hp → Prop} (h : Fin B Rl σ θ H r.noexc Q) : Fin B Rl σ' θ H r Q := by
  cases r with
  | ok a S => exact h
  | exc x S => exact h.elim
  | bad => exact h
section
variable {X : Cx} {B : Bv} {pos : Pos}
theorem dgs_cons {I : Nat → Prop} {e : Expr} {es : List Expr} {a : TM} {b : TMs} (h1 : PG X e (rdG B I a)) (h2 : PGs X es (rdGs B I fun ds ρ S => (b ds ρ S).noexc))
    (hs : (assignEach (e :: es) X.env).map (·.2) = assign e X.env :: (assignEach es X.env).map (·.2) := by rfl) : PGs X (e :: es) (rdGs B I fun ds ρ S => (tConss a b ds ρ S).noexc) :=
  PGs.imp (pgs_cons h1 h2 hs) fun v σ H Q ⟨ρ, S, θ, ds, R0, rs, r, f⟩ => by
    cases r with
    | nil => exact f.elim
    | @cons d0 v0 ds' vs' r1 r2 =>
      have f' : Fin B (RSA B I σ) σ θ H (((a d0 ρ S).bind fun ρ1 S1 => b ds' ρ1 S1).noexc) Q := f
      refine ⟨_, _, rfl, ρ, S, θ, _, R0, rs, r1, ?_⟩
      cases q : a d0 ρ S with
      | exc => rw [q] at f'; exact f'.elim
      | bad => rw [q] at f'; exact f'.elim
      | ok ρ1 S1 =>
        rw [q] at f'
        intro θ1 H1 σ1 e1 R1 rs1
        refine ⟨ρ1, S1, θ1, ds', R1, rs1.1, r2.ext e1, ?_⟩
        have f2 : Fin B (RSA B I σ) σ θ1 H1 ((b ds' ρ1 S1).noexc) Q := Fin.ext e1 f'
        show Fin B (RSA B I σ1) σ1 θ1 H1 ((b ds' ρ1 S1).noexc) Q
        revert f2
        cases b ds' ρ1 S1 with
        | ok a S2 => exact fun f2 θ' H' v e R r => f2 θ' H' v e R ⟨r.1, rs1.2.trans r.2⟩
        | exc => exact fun f2 => f2.elim
        | bad => exact fun f2 => f2
theorem dgs_nil {I : Nat → Prop} : PGs X [] (rdGs B I fun ds ρ S => (tNils ds ρ S).noexc) := PGs.imp pgs_nil fun v σ H Q ⟨ρ, S, θ, ds, R0, rs, r, f⟩ => by
  cases r with
  | nil => exact ⟨rfl, f.ok .refl R0 ⟨rs, .refl⟩⟩
  | cons => exact f.elim
def getT : D → Option (List D)
  | .tup ds => some ds
  | .pr ds => some ds
  | _ => none
def tTupG (n : Nat) (b : TMs) : TM := fun d ρ S => match getT d with
  | some ds => if ds.length = n then (b ds ρ S).noexc else .bad
  | none => .bad
theorem dg_tup {I : Nat → Prop} {es : List Expr} {k : Nat} {b : TMs} {n : Nat} (hK : B.G.K = X.K) (hc : X.calm = true) (h : PGs X es (rdGs B I fun ds ρ S => (b ds ρ S).noexc))
    (hn : (assignEach es X.env).length = n := by rfl) (hst : (assignEach es X.env).findIdx? (·.1) = none := by rfl) : PG X (.Tuple es k pos) (rdG B I (tTupG n b)) :=
  PG.imp (pg_tup hc h hn hst) fun v σ H Q ⟨ρ, S, θ, d, R0, rs, r, f⟩ => by
    cases r with
    | @tup a xs ds h1 h2 =>
      obtain ⟨hl, f⟩ := Fin.ite (c := ds.length = n) f
      exact ⟨a, xs, rfl, hK ▸ h1.sq, by rw [← h2.length]; exact hl, ρ, S, θ, ds, R0, rs, h2, f⟩
    | @pr a xs ds h1 h2 =>
      obtain ⟨hl, f⟩ := Fin.ite (c := ds.length = n) f
      exact ⟨a, xs, rfl, hK ▸ h1, by rw [← h2.length]; exact hl, ρ, S, θ, ds, R0, rs, h2, f⟩
    | _ => exact f.elim

def sNil : SM := fun ρ S => .nx ρ S
def SR.seq : SR → SM → SR
  | .nx ρ S, k => k ρ S
  | r, _ => r
def sSeq (a b : SM) : SM := fun ρ S => (a ρ S).seq b
theorem ds_nil : PSs X [] (rdS B sNil) := PSs.imp pss_nil fun D σ H ⟨ρ, S, θ, R0, rs, f⟩ => f θ σ H .refl R0 rs
theorem ds_cons {st : Stmt} {rest : List Stmt} {a b : SM} (h1 : PS X st (rdS B a)) (h2 : PSs X rest (rdS B b)) : PSs X (st :: rest) (rdS B (sSeq a b)) :=
  PSs.imp (pss_cons h1 h2) fun D σ H ⟨ρ, S, θ, R0, rs, f⟩ => by
    refine ⟨ρ, S, θ, R0, rs, ?_⟩
    unfold sSeq at f
    cases q : a ρ S with
    | nx ρ1 S1 =>
      rw [q] at f
      exact fun θ' σ' H' e R1 rs1 => ⟨ρ1, S1, θ', R1, rs1, FinS.ext e f⟩
    | bk => rw [q] at f; exact f
    | ct => rw [q] at f; exact f
    | rt => rw [q] at f; exact f
    | exc => rw [q] at f; exact f
    | bad => rw [q] at f; exact f
theorem ds_one {st : Stmt} {a : SM} (h1 : PS X st (rdS B a)) : PSs X [st] (rdS B a) := pss_one h1
theorem ds_pass : PS X (.Pass pos) (rdS B sNil) := PS.imp ps_pass fun D σ H ⟨ρ, S, θ, R0, rs, f⟩ => f θ σ H .refl R0 rs
def sBreak : SM := fun ρ S => .bk ρ S
def sCont : SM := fun ρ S => .ct ρ S
theorem ds_break : PS X (.Break pos) (rdS B sBreak) := PS.imp ps_break fun D σ H ⟨ρ, S, θ, R0, rs, f⟩ => f θ σ H .refl R0 rs
theorem ds_cont : PS X (.Continue pos) (rdS B sCont) := PS.imp ps_continue fun D σ H ⟨ρ, S, θ, R0, rs, f⟩ => f θ σ H .refl R0 rs
def sExpr (a : M D) : SM := fun ρ S => (a ρ S).toS ρ fun _ S1 => .nx ρ S1
theorem ds_expr {e : Expr} {a : M D} (ha : PE X e (rdE B a)) (hs : swapsWith e none pos.line X.env = pure false := by rfl) : PS X (.Expr e pos) (rdS B (sExpr a)) :=
  PS.imp (ps_expr ha hs) fun D σ H ⟨ρ, S, θ, R0, rs, f⟩ => ⟨ρ, S, θ, R0, rs, FinS.bind rs f fun d S1 θ1 H1 v _ e1 R1 r1 f1 => f1 θ1 σ H1 .refl R1 (rs.ext e1)⟩
def sRet (a : M D) : SM := fun ρ S => (a ρ S).toS ρ fun d S1 => .rt d S1
theorem ds_ret {e : Expr} {a : M D} (ha : PE X e (rdE B a)) : PS X (.Return (some e) pos) (rdS B (sRet a)) :=
  PS.imp (ps_ret ha) fun D σ H ⟨ρ, S, θ, R0, rs, f⟩ => ⟨ρ, S, θ, R0, rs, FinS.bind rs f fun d S1 θ1 H1 v _ e1 R1 r1 f1 => f1 θ1 H1 v .refl R1 r1⟩
theorem ds_retN : PS X (.Return none pos) (rdS B (sRet (mC .non))) := PS.imp ps_retN fun D σ H ⟨ρ, S, θ, R0, rs, f⟩ => f θ H _ .refl R0 .non
def sIf (c : M Bool) (a b : SM) : SM := fun ρ S => (c ρ S).toS ρ fun k S1 => if k then a ρ S1 else b ρ S1
theorem ds_if {c : Expr} {s1 s2 : List Stmt} {mc : M Bool} {a b : SM} (hc : PT X c (rdT B mc)) (h1 : PSs X s1 (rdS B a)) (h2 : PSs X s2 (rdS B b)) : PS X (.If c s1 s2 pos) (rdS B (sIf mc a b)) :=
  PS.imp (ps_if hc h1 h2) fun D σ H ⟨ρ, S, θ, R0, rs, f⟩ => ⟨ρ, S, θ, R0, rs, FinS.bind rs f fun d S1 θ1 H1 v _ e1 R1 r1 f1 => by
    subst r1
    cases d with
    | true => exact ⟨ρ, S1, θ1, R1, rs.ext e1, f1⟩
    | false => exact ⟨ρ, S1, θ1, R1, rs.ext e1, f1⟩⟩
def sSet (i : Nat) (a : M D) : SM := fun ρ S => (a ρ S).toS ρ fun d S1 => .nx (ρ.set i (some d)) S1
theorem ds_set {i : Nat} {x : Str} {e : Expr} {pos' : Pos} {a : M D} (h : ∀ te, PE X e te → PS X (.Assign [.Name x pos'] e pos) (tAsg te (gName i))) (ha : PE X e (rdE B a)) : PS X (.Assign [.Name x pos'] e pos) (rdS B (sSet i a)) :=
  PS.imp (h _ ha) fun D σ H ⟨ρ, S, θ, R0, rs, f⟩ => ⟨ρ, S, θ, R0, rs, FinS.bind rs f fun d S1 θ1 H1 v _ e1 R1 r1 f1 => f1 θ1 _ H1 .refl R1 ((rs.ext e1).set r1 i)⟩
/-- target = e -/
def sAsg (a : M D) (g : TM) : SM := fun ρ S => (a ρ S).toS ρ fun d S1 => (g d ρ S1).noexc.toS ρ fun ρ1 S2 => .nx ρ1 S2
theorem ds_asg {I : Nat → Prop} {tg e : Expr} {a : M D} {g : TM} (ha : PE X e (rdE B a)) (hg : PG X tg (rdG B I g)) (hs : swapsWithSole [tg] e pos.line X.env = pure false := by rfl) (hw : swappedStores [tg] e X.env = pure none := by rfl)
    (h1 : (assignEach [tg] X.env).map (·.2) = [assign tg X.env] := by rfl) : PS X (.Assign [tg] e pos) (rdS B (sAsg a g)) :=
  PS.imp (ps_asg ha hg hs hw h1) fun D σ H ⟨ρ, S, θ, R0, rs, f⟩ => ⟨ρ, S, θ, R0, rs, FinS.bind rs f fun d S1 θ1 H1 v _ e1 R1 r1 f1 => ⟨ρ, S1, θ1, d, R1, rs.ext e1, r1,
    Fin.noexc (σ := σ) (FinS.bind (rs.ext e1) f1 fun ρ1 S2 θ2 H2 σ2 _ e2 R2 rs2 f2 => f2 θ2 σ2 H2 .refl R2 rs2.1)⟩⟩
/-- a, b = x, y -/
def sPar (i j : Nat) (a : M (List D)) : SM := fun ρ S => (a ρ S).toS ρ fun ds S1 => match ds with
  | [d, e] => .nx ((ρ.set i (some d)).set j (some e)) S1
  | _ => .bad
theorem ds_par {i j : Nat} {st : Stmt} {es : List Expr} {a : M (List D)} (h : ∀ ta, PA X es ta → PS X st (tPar i j ta)) (ha : PA X es (rdA B a)) : PS X st (rdS B (sPar i j a)) :=
  PS.imp (h _ ha) fun D σ H ⟨ρ, S, θ, R0, rs, f⟩ => ⟨ρ, S, θ, R0, rs, FinS.bind rs f fun ds S1 θ1 H1 vs _ e1 R1 r1 f1 => by
    cases r1 with
    | nil => exact f1.elim
    | cons a1 b1 =>
      cases b1 with
      | nil => exact f1.elim
      | cons a2 b2 =>
        cases b2 with
        | nil => exact ⟨_, _, rfl, f1 θ1 _ H1 .refl R1 (((rs.ext e1).set a1 i).set a2 j)⟩
        | cons => exact f1.elim⟩
/-- x op= e: op by values -/
def DenIp (B : Bv) (r : TIp) (o : O2) : Prop := ∀ (σ : St) (θ : List Addr) (S : Store) (H : Hp) (d e : D) (x y : V) (Q : VK), Rel B.G B.F θ S H → RD B.G θ H d x → RD B.G θ H e y → Fin B (RD B.G) σ θ H (o d e S) Q → r x y H Q
def sAug (i : Nat) (o : O2) (a : M D) : SM := fun ρ S => match ρ[i]? with
  | some (some d) => (a ρ S).toS ρ fun e S1 => (o d e S1).toS ρ fun z S2 => .nx (ρ.set i (some z)) S2
  | _ => .bad
theorem ds_aug {i : Nat} {x : Str} {e : Expr} {op : Operator} {ti : TIp} {o : O2} {pos' : Pos} {a : M D} (h : ∀ te, PE X e te → PS X (.AugAssign (.Name x pos') op e pos) (tAug i te ti)) (hd : DenIp B ti o) (ha : PE X e (rdE B a)) :
    PS X (.AugAssign (.Name x pos') op e pos) (rdS B (sAug i o a)) :=
  PS.imp (h _ ha) fun D σ H ⟨ρ, S, θ, R0, rs, f⟩ => by
    unfold sAug at f
    cases q : ρ[i]? with
    | none => rw [q] at f; exact f.elim
    | some w =>
      cases w with
      | none => rw [q] at f; exact f.elim
      | some d =>
        rw [q] at f
        obtain ⟨v, hv, rv⟩ := rs.get q
        exact ⟨v, hv, ρ, S, θ, R0, rs, FinS.bind rs f fun e S1 θ1 H1 y _ e1 R1 r1 f1 => hd σ θ1 S1 H1 d e v y _ R1 (rv.ext e1) r1
          (FinS.bind (rs.ext e1) f1 fun z S2 θ2 H2 u _ e2 R2 r2 f2 => f2 θ2 _ H2 .refl R2 (((rs.ext e1).ext e2).set r2 i))⟩

def SR.turn : SR → SM → SR
  | .nx ρ S, k => k ρ S
  | .ct ρ S, k => k ρ S
  | .bk ρ S, _ => .nx ρ S
  | r, _ => r
def sWhileN (c : M Bool) (b : SM) : Nat → SM
  | 0 => fun _ _ => .bad
  | n + 1 => fun ρ S => (c ρ S).toS ρ fun k S1 => if k then (b ρ S1).turn (sWhileN c b n) else .nx ρ S1
def fuel : Nat := 20000000
def sWhile (c : M Bool) (b : SM) : SM := sWhileN c b fuel
theorem turn_ok {θ : List Addr} {H : Hp} {r : SR} {k : SM} {D : Ends} {N : St → Hp → Prop} (h : FinS B θ H (r.turn k) D) (hN : ∀ ρ S θ' σ' H', Ext θ H θ' H' → Rel B.G B.F θ' S H' → RS B.G θ' H' ρ σ' → FinS B θ' H' (k ρ S) D → N σ' H') : FinS B θ H r { D with nx := N, ct := N, bk := D.nx } := by
  cases r with
  | nx ρ S => exact fun θ' σ' H' e R1 rs => hN ρ S θ' σ' H' e R1 rs (FinS.ext e h)
  | ct ρ S => exact fun θ' σ' H' e R1 rs => hN ρ S θ' σ' H' e R1 rs (FinS.ext e h)
  | bk ρ S => exact h
  | rt d S => exact h
  | exc x ρ S => exact h
  | bad => exact h
theorem ds_while {c : Expr} {body : List Stmt} {mc : M Bool} {b : SM} (hp : PassesOwn (model X.prog X.w) X.A X.env X.xe) (hc : PT X c (rdT B mc)) (hb : PSs X body (rdS B b)) : PS X (.While c body [] pos) (rdS B (sWhile mc b)) :=
  PS.imp (ps_while hp hc hb) fun D σ H ⟨ρ, S, θ, R0, rs, f⟩ => by
    refine ⟨fun m σ H => ∃ ρ S θ, Rel B.G B.F θ S H ∧ RS B.G θ H ρ σ ∧ FinS B θ H (sWhileN mc b m ρ S) D, ⟨fuel, ρ, S, θ, R0, rs, f⟩, ?_⟩
    rintro m σ H ⟨ρ, S, θ, R0, rs, f⟩
    cases m with
    | zero => exact f.elim
    | succ m =>
      refine ⟨ρ, S, θ, R0, rs, FinS.bind rs f fun k S1 θ1 H1 v _ e1 R1 r1 f1 => ?_⟩
      subst r1
      cases k with
      | true =>
        rw [if_pos rfl]
        exact ⟨fun σ' H' => ∃ ρ S θ, Rel B.G B.F θ S H' ∧ RS B.G θ H' ρ σ' ∧ FinS B θ H' (sWhileN mc b m ρ S) D, fun σ' H' h => ⟨m, Nat.lt_succ_self _, h⟩, ρ, S1, θ1, R1, rs.ext e1,
          turn_ok f1 fun ρ2 S2 θ2 σ2 H2 e2 R2 rs2 f2 => ⟨ρ2, S2, θ2, R2, rs2, f2⟩⟩
      | false =>
        rw [if_neg Bool.false_ne_true]
        exact f1 θ1 σ H1 .refl R1 (rs.ext e1)

abbrev Nx := Nat → Store → Option (Option D)
def RI (B : Bv) (θ : List Addr) (H : Hp) (nx : Nx) (J : It) : Prop := ∀ (i : Nat) (θ' : List Addr) (S' : Store) (H' : Hp), Ext θ H θ' H' → Rel B.G B.F θ' S' H' →
  (nx i S' = some none → J.stop i H') ∧ ∀ d, nx i S' = some (some d) → J.go i H' ∧ ∀ x H'', J.yld i H' x H'' → Ext θ' H' θ' H'' ∧ Rel B.G B.F θ' S' H'' ∧ RD B.G θ' H'' d x
theorem RI.ext {θ θ1 : List Addr} {H H1 : Hp} {nx : Nx} {J : It} (e : Ext θ H θ1 H1) (h : RI B θ H nx J) : RI B θ1 H1 nx J := fun i θ' S' H' e' => h i θ' S' H' (e.trans e')
abbrev rdI (B : Bv) (m : M Nx) : TI := rd B (RI B) m
def sForN (nx : Nx) (g : TM) (b : SM) : Nat → Nat → SM
  | 0, _ => fun _ _ => .bad
  | n + 1, i => fun ρ S => match nx i S with
    | some (some d) => (g d ρ S).noexc.toS ρ fun ρ1 S1 => (b ρ1 S1).turn (sForN nx g b n (i + 1))
    | some none => .nx ρ S
    | none => .bad
def sFor (it : M Nx) (g : TM) (b : SM) : SM := fun ρ S => (it ρ S).toS ρ fun nx S1 => sForN nx g b fuel 0 ρ S1
theorem ds_for {I : Nat → Prop} {tg iter : Expr} {body : List Stmt} {it : M Nx} {g : TM} {b : SM} (hp : PassesOwn (model X.prog X.w) X.A X.env X.xe) (hc : X.calm = true) (hi : PI X tg iter (rdI B it)) (hg : PG X tg (rdG B I g)) (hb : PSs X body (rdS B b))
    (hs : ∀ x, foldedSetIterable iter X.env x = pure x := by intro _; rfl) : PS X (.For tg iter body [] pos) (rdS B (sFor it g b)) :=
  PS.imp (ps_for hp hc hi hg hb hs) fun D σ H ⟨ρ, S, θ, R0, rs, f⟩ => by
    refine ⟨ρ, S, θ, R0, rs, FinS.bind rs f fun nx S1 θ1 H1 J _ e1 R1 r1 f1 => ?_⟩
    refine ⟨fun i m σ H' => ∃ ρ S θ, Ext θ1 H1 θ H' ∧ Rel B.G B.F θ S H' ∧ RS B.G θ H' ρ σ ∧ FinS B θ H' (sForN nx g b m i ρ S) D, ⟨fuel, ρ, S1, θ1, .refl, R1, rs.ext e1, f1⟩, ?_⟩
    rintro i m σ' H' ⟨ρ2, S2, θ2, e2, R2, rs2, f2⟩
    cases m with
    | zero => exact f2.elim
    | succ m =>
      obtain ⟨q1, q2⟩ := r1 i θ2 S2 H' e2 R2
      unfold sForN at f2
      cases q : nx i S2 with
      | none => rw [q] at f2; exact f2.elim
      | some o =>
        cases o with
        | none =>
          rw [q] at f2
          exact .inl ⟨q1 q, f2 θ2 σ' H' .refl R2 rs2⟩
        | some d =>
          rw [q] at f2
          obtain ⟨go, yl⟩ := q2 d q
          refine .inr ⟨go, fun σ' H' => ∃ ρ S θ, Ext θ1 H1 θ H' ∧ Rel B.G B.F θ S H' ∧ RS B.G θ H' ρ σ' ∧ FinS B θ H' (sForN nx g b m (i + 1) ρ S) D, fun σ' H' h => ⟨m, Nat.lt_succ_self _, h⟩, fun x H3 hy => ?_⟩
          obtain ⟨e3, R3, r3⟩ := yl x H3 hy
          refine ⟨ρ2, S2, θ2, d, R3, rs2.ext e3, r3, Fin.noexc (σ := σ') (FinS.bind (rs2.ext e3) (FinS.ext e3 f2) fun ρ4 S4 θ4 H4 σ4 _ e4 R4 rs4 f4 => ?_)⟩
          exact ⟨ρ4, S4, θ4, R4, rs4.1, turn_ok f4 fun ρ5 S5 θ5 σ5 H5 e5 R5 rs5 f5 => ⟨ρ5, S5, θ5, ((e2.trans e3).trans e4).trans e5, R5, rs5, f5⟩⟩
end
end DM

namespace DM
open PySem PySem.Spec L2
open PyProof.Rows hiding St

mutual
def cleanD : D → Bool
  | .ref _ => false
  | .tup ds => cleanAll ds
  | .pr ds => cleanAll ds
  | .lst ds => cleanAll ds
  | .kst ds => cleanAll ds
  | .brw ds => cleanAll ds
  | .non => true
  | .bl _ => true
  | .int _ => true
  | .str _ => true
  | .fn _ => true
  | .ty _ => true
  | .edc => true
def cleanAll : List D → Bool
  | [] => true
  | d :: ds => cleanD d && cleanAll ds
end
mutual
def pureD : D → Bool
  | .ref _ => false
  | .brw _ => false
  | .tup ds => pureAll ds
  | .pr ds => pureAll ds
  | .lst ds => pureAll ds
  | .kst ds => pureAll ds
  | .non => true
  | .bl _ => true
  | .int _ => true
  | .str _ => true
  | .fn _ => true
  | .ty _ => true
  | .edc => true
def pureAll : List D → Bool
  | [] => true
  | d :: ds => pureD d && pureAll ds
end
/-- another view of the same things: other cells, other callers' cells -/
structure View (G G' : Gv) : Prop where
  K : G'.K = G.K
  fa : G'.fa = G.fa
  ca : G'.ca = G.ca
  cn : G'.cn = G.cn
section
variable {G G' : Gv} {θ θ' : List Addr} {H : Hp}
mutual
theorem RD.clean (w : View G G') (h1 : ∀ a o, H a = some o → ¬ G.ph a → a ∉ θ → ¬ G'.ph a) (h2 : ∀ a o, H a = some o → a ∉ θ → a ∉ θ') : ∀ {d : D} {v : V}, RD G θ H d v → cleanD d = true → RD G' θ' H d v
  | _, _, .non, _ => .non
  | _, _, .bl b, _ => .bl b
  | _, _, .int i, _ => .int i
  | _, _, .str s, _ => .str s
  | _, _, .ty s, _ => .ty s
  | _, _, .tup (ds := ds) k1 k2, c => .tup (w.K ▸ k1) (RDs.clean w h1 h2 k2 (by simpa [cleanD] using c))
  | _, _, .pr (ds := ds) k1 k2, c => .pr (w.K ▸ k1) (RDs.clean w h1 h2 k2 (by simpa [cleanD] using c))
  | _, _, .lst (ds := ds) k0 k1 k2 k3, c => .lst (h1 _ _ k2 k0 k1) (h2 _ _ k2 k1) k2 (RDs.clean w h1 h2 k3 (by simpa [cleanD] using c))
  | _, _, .brw (ds := ds) k1 k2 k3, c => .brw (h2 _ _ k2 k1) k2 (RDs.clean w h1 h2 k3 (by simpa [cleanD] using c))
  | _, _, .kst (ds := ds) k1 k2, c => .kst (w.K ▸ k1) (RDs.clean w h1 h2 k2 (by simpa [cleanD] using c))
  | _, _, .ref h, c => by simp [cleanD] at c
  | _, _, .fn h, _ => .fn (w.fa ▸ h)
  | _, _, .edc k0 k1 k2, _ => .edc (h1 _ _ k2 k0 k1) (h2 _ _ k2 k1) k2
theorem RDs.clean (w : View G G') (h1 : ∀ a o, H a = some o → ¬ G.ph a → a ∉ θ → ¬ G'.ph a) (h2 : ∀ a o, H a = some o → a ∉ θ → a ∉ θ') : ∀ {ds : List D} {vs : List V}, RDs G θ H ds vs → cleanAll ds = true → RDs G' θ' H ds vs
  | _, _, .nil, _ => .nil
  | _, _, .cons r t, c => by
    simp only [cleanAll, Bool.and_eq_true] at c
    exact .cons (RD.clean w h1 h2 r c.1) (RDs.clean w h1 h2 t c.2)
end
mutual
/-- back to those who called: nothing borrowed -/
theorem RD.pure (w : View G G') (h : ∀ a, ¬ G.ph a → a ∉ θ → ¬ G'.ph a ∧ a ∉ θ') : ∀ {d : D} {v : V}, RD G θ H d v → pureD d = true → RD G' θ' H d v
  | _, _, .non, _ => .non
  | _, _, .bl b, _ => .bl b
  | _, _, .int i, _ => .int i
  | _, _, .str s, _ => .str s
  | _, _, .ty s, _ => .ty s
  | _, _, .tup (ds := ds) k1 k2, c => .tup (w.K ▸ k1) (RDs.pure w h k2 (by simpa [pureD] using c))
  | _, _, .pr (ds := ds) k1 k2, c => .pr (w.K ▸ k1) (RDs.pure w h k2 (by simpa [pureD] using c))
  | _, _, .lst (ds := ds) k0 k1 k2 k3, c => .lst (h _ k0 k1).1 (h _ k0 k1).2 k2 (RDs.pure w h k3 (by simpa [pureD] using c))
  | _, _, .brw (ds := ds) k1 k2 k3, c => by simp [pureD] at c
  | _, _, .kst (ds := ds) k1 k2, c => .kst (w.K ▸ k1) (RDs.pure w h k2 (by simpa [pureD] using c))
  | _, _, .ref h, c => by simp [pureD] at c
  | _, _, .fn h, _ => .fn (w.fa ▸ h)
  | _, _, .edc k0 k1 k2, _ => .edc (h _ k0 k1).1 (h _ k0 k1).2 k2
theorem RDs.pure (w : View G G') (h : ∀ a, ¬ G.ph a → a ∉ θ → ¬ G'.ph a ∧ a ∉ θ') : ∀ {ds : List D} {vs : List V}, RDs G θ H ds vs → pureAll ds = true → RDs G' θ' H ds vs
  | _, _, .nil, _ => .nil
  | _, _, .cons r t, c => by
    simp only [pureAll, Bool.and_eq_true] at c
    exact .cons (RD.pure w h r c.1) (RDs.pure w h t c.2)
end
end

/-- cells become borrowed lists -/
def brwG (S : Store) : Nat → D → Option D
  | 0, _ => none
  | n + 1, d => match d with
    | .ref j => match S[j]? with
      | some (.lst es) => (es.mapM (brwG S n)).map .brw
      | _ => none
    | .tup ds => (ds.mapM (brwG S n)).map .tup
    | .pr ds => (ds.mapM (brwG S n)).map .pr
    | d => if cleanD d then some d else none
def cellOk (S : Store) (i : Nat) : Bool := match S[i]? with
  | some (.lst es) => cleanAll es
  | _ => false
def ixOf (i : Nat) : List Nat → Nat → Option Nat
  | [], _ => none
  | j :: r, k => if i = j then some k else ixOf i r (k + 1)
def argA (S : Store) (is : List Nat) (d : D) : Option (D × List Nat) := match d with
  | .ref i => if cellOk S i then (match ixOf i is 0 with
    | some j => some (.ref j, is)
    | none => some (.ref is.length, is ++ [i])) else none
  | d => if cleanD d then some (d, is) else none
def argsA (S : Store) : List Nat → List D → Option (List D × List Nat)
  | is, [] => some ([], is)
  | is, d :: ds => match argA S is d with
    | none => none
    | some p => match argsA S p.2 ds with
      | none => none
      | some q => some (p.1 :: q.1, q.2)
def passArgs (S : Store) (ds : List D) : Option (List D × List Nat) := match argsA S [] ds with
  | some r => some r
  | none => (ds.mapM (brwG S 20)).map fun ds' => (ds', [])
def cellsOf (S : Store) (is : List Nat) : Store := is.map fun i => (S[i]?).getD (.lst [])
def retG (k av : Nat) (S : Store) : Nat → D → Option D
  | 0, _ => none
  | n + 1, d => match d with
    | .ref j => if j < k then none else if j = av then none else match S[j]? with
      | some (.lst es) => (es.mapM (retG k av S n)).map .lst
      | _ => none
    | .tup ds => (ds.mapM (retG k av S n)).map .tup
    | .pr ds => (ds.mapM (retG k av S n)).map .pr
    | .lst ds => (ds.mapM (retG k av S n)).map .lst
    | d => if pureD d then some d else none
def retD (k av : Nat) (S : Store) (d : D) : Option D := if pureD d then some d else retG k av S 20 d
def retAll (k av : Nat) (S : Store) (ds : List D) : Option (List D) := if pureAll ds then some ds else ds.mapM (retG k av S 20)
def putBack (k av : Nat) (S1 : Store) : List Nat → Nat → Store → Option Store
  | [], _, S => some S
  | i :: is, j, S => match S1[j]? with
    | some (.lst es) => match retAll k av S1 es with
      | some es' => putBack k av S1 is (j + 1) (S.set i (.lst es'))
      | none => none
    | _ => none
/-- the datum is no new cell: it is seen from outside -/
def backP (is : List Nat) (S S1 : Store) (d : D) : R D := match putBack is.length S1.length S1 is 0 S with
  | some S2 => match retD is.length S1.length S1 d with
    | some d' => .ok d' S2
    | none => .bad
  | none => .bad
/-- a new cell is handed back -/
def backN (is : List Nat) (S S1 : Store) (j : Nat) : R D := match putBack is.length j S1 is 0 S with
  | some S2 => match S1[j]? with
    | some (.lst es) => match retAll is.length j S1 es with
      | some es' => .ok (.ref S2.length) (S2 ++ [.lst es'])
      | none => .bad
    | _ => .bad
  | none => .bad
/-- a cell that was handed in is handed back -/
def backO (is : List Nat) (S S1 : Store) (j : Nat) : R D := match putBack is.length S1.length S1 is 0 S with
  | some S2 => .ok (.ref (is.getD j 0)) S2
  | none => .bad
def backX (is : List Nat) (S S1 : Store) (x : Ex) : R D := match putBack is.length S1.length S1 is 0 S with
  | some S2 => match x.v with
    | none => .exc ⟨x.c, none⟩ S2
    | some d => match retD is.length S1.length S1 d with
      | some d' => .exc ⟨x.c, some d'⟩ S2
      | none => .bad
  | none => .bad
def back (is : List Nat) (S : Store) (r : R D) : R D := match r with
  | .ok (.ref j) S1 => if j < is.length then backO is S S1 j else backN is S S1 j
  | .ok d S1 => backP is S S1 d
  | .exc x S1 => backX is S S1 x
  | .bad => .bad
abbrev Fm := List D → Store → R D
def callD (m : Fm) (ds : List D) (S : Store) : R D := match passArgs S ds with
  | some p => back p.2 S (m p.1 (cellsOf S p.2))
  | none => .bad
def mCall (m : Fm) (a : M (List D)) : M D := fun ρ S => (a ρ S).bind fun ds S1 => callD m ds S1
/-- a def by its body: k names that are no parameters -/
def defM (k : Nat) (b : SM) : Fm := fun ds S => match b (ds.map some ++ List.replicate k none) S with
  | .nx _ S' => .ok .non S'
  | .rt d S' => .ok d S'
  | .exc x _ S' => .exc x S'
  | _ => .bad

def spD (G : Gv) (n : Nat) (m : Fm) : Sp := fun vs H Q E => ∃ (ph : Addr → Prop) (ds : List D) (S : Store) (θ : List Addr), vs.length = n ∧ Rel { G with ph := ph } ⟨H, θ⟩ θ S H ∧ RDs { G with ph := ph } θ H ds vs ∧
  Fin ⟨{ G with ph := ph }, ⟨H, θ⟩, fun c a _ H' => E c a H'⟩ (RD { G with ph := ph }) [] θ H (m ds S) Q
/-- L2's FnOk where no repr runs around the call -/
structure FnG (P : Program) (w : World) (K : PySem.W.Frag) (mg : Str → Option Value) (base : Heap) (k : Nat) (f : Addr) (fd : FuncData) (ps : List Str) (sp : Sp) : Prop where
  len : ∀ vs H Q E, sp vs H Q E → vs.length = ps.length
  run : ∀ (A : Around) (outer : List PySem.Env) (s : Shared) (H : Hp) (args : Args) (us : List Value) (vs : List V) (Q : VK) (E : XK),
    Room k A → A.guards = some [] → Env0 P w K mg base A outer s H → BindsTo s fd args (ps.zip us) → Vals vs us → sp vs H Q E → codeAny (model P w) A (.call (.ref f) args) (CR (L2.CX P w) outer P w H s Q E) s
theorem FnG.mono {P : Program} {w : World} {K : PySem.W.Frag} {mg : Str → Option Value} {base : Heap} {j k : Nat} {f : Addr} {fd : FuncData} {ps : List Str} {sp : Sp} (F : FnG P w K mg base j f fd ps sp) (h : j ≤ k) : FnG P w K mg base k f fd ps sp :=
  ⟨F.len, fun A outer s H args us vs Q E hr => F.run A outer s H args us vs Q E (hr.mono h)⟩
/-- what a def's body may use -/
structure Body (P : Program) (w : World) (mg : Str → Option Value) (base : Heap) (G : Gv) (N : List Str) (sc : Scope) (k : Nat) (X : Cx) (B : Bv) : Prop where
  gK : B.G.K = G.K
  gf : B.G.fa = G.fa
  gc : B.G.ca = G.ca
  gn : B.G.cn = G.cn
  gt : B.G.tt = G.tt
  K : X.K = G.K
  mg : X.mg = mg
  prog : X.prog = P
  w : X.w = w
  base : X.base = base
  N : X.N = N
  sc : X.env.scope = sc
  calm : X.calm = true
  room : Room k X.A
  gd : X.A.guards = some []
  takes : Takes X B.W
  own : PassesOwn (model X.prog X.w) X.A X.env X.xe
  stk : X.stack = X.env :: X.outer
  frm : X.env.frame = some X.env.locals
  ex : X.ex = []
  fn : X.fn = fun _ => true
section
variable {P : Program} {w : World} {mg : Str → Option Value} {base : Heap}
/-- THE RULE for a def; its code object is told -/
theorem def_okC {G : Gv} {x qual : Str} {st : Stmt} {f : Addr} {fd : FuncData} {N ps : List Str} {k l : Nat} {b : SM} (F : Fun G.K x qual st f fd) (S : FnScope N ps (defScope st)) (hl : N.length = ps.length + l)
    (hb : ∀ (E : XK) (cd : Value) (A : Around) (outer : List PySem.Env) (s : Shared) (H : Hp) (B : Bv), cd = fd.code → Body P w mg base G N (defScope st) k (cxOf (L2.CX P w) P w G.K mg base N qual (defScope st) f cd A outer s H E) B →
      PSs (cxOf (L2.CX P w) P w G.K mg base N qual (defScope st) f cd A outer s H E) (defBody st) (rdS B b)) :
    FnG P w G.K mg base (k + 1) f fd ps (spD G ps.length (defM l b)) := by
  refine ⟨fun vs H Q E h => ?_, fun A outer s H args us vs Q E hr hgd e0 hbi r hsp => ?_⟩
  · obtain ⟨_, _, _, _, e, _⟩ := h; exact e
  obtain ⟨oc, od, kV, doc, pm, an, cdv, ct, osl, rfl, lk, hcd⟩ := F.ex
  obtain ⟨ph, ds, S0, θ, hn, R0, rd0, f0⟩ := hsp
  have KX : G.K.In s.heap := e0.mod.kin.keeps fun b o e => (e0.bs b o e).1
  have limH : s.heap.NoLimit := e0.mod.nolimit.keeps fun b o e => (e0.bs b o e).1
  have kinds : ∀ y ∈ ps.zip us, (defScope st).names.lookup y.1 = some .local ∨ ((defScope st).names.lookup y.1 = some .cell ∧ ((cellsFrom (s.heap.objs.size + 1) (defScope st).names []).lookup y.1).isSome = true) := by
    rintro ⟨n, v⟩ hy
    rcases S.par n (List.of_mem_zip hy).1 with q | q
    · exact .inl q
    · exact .inr ⟨q, PySem.W.cellsFrom_some _ _ _ (.inl q)⟩
  refine codeAny_call_function (hr.depth) (KX _ _ lk) rfl S.co S.gen rfl (PySem.W.codeRec_of KX hcd) (hbi _ _ _ _ ?_)
  refine wpAny_newFunctionEnv_cells (S.kind) kinds fun env he s1 x => ?_
  subst he
  refine ⟨limH.keeps x.toInCall.keep, codeAny_func ?_⟩
  have I : Inv (cxOf (L2.CX P w) P w G.K mg base N qual (defScope st) f cdv A outer s H E) [] (L2.start N vs) H s1 := inv_start S hr.hd e0 hn r x
  have hlen : ds.length = ps.length := rd0.length.trans hn
  have rs0 : RS { G with ph := ph } θ H (ds.map some ++ List.replicate l none) (L2.start N vs) := by
    have e : N.length - vs.length = l := by omega
    unfold L2.start
    rw [e]
    exact RS.start l rd0
  have hB : Body P w mg base G N (defScope st) k (cxOf (L2.CX P w) P w G.K mg base N qual (defScope st) f cdv A outer s H E) ⟨{ G with ph := ph }, ⟨H, θ⟩, fun c a _ H' => E c a H'⟩ :=
    ⟨rfl, rfl, rfl, rfl, rfl, rfl, rfl, rfl, rfl, rfl, rfl, rfl, rfl, hr.deeper _, hgd, takes_of rfl rfl rfl rfl, passes_of rfl, rfl, rfl, rfl, rfl⟩
  have body := hb E cdv A outer s H _ rfl hB
  have hq : rdS ⟨{ G with ph := ph }, ⟨H, θ⟩, fun c a _ H' => E c a H'⟩ b { nx := fun _ H' => Q .non H', rt := Q } (L2.start N vs) H := by
    refine ⟨_, S0, θ, R0, rs0, ?_⟩
    unfold defM at f0
    cases q : b (ds.map some ++ List.replicate l none) S0 with
    | nx ρ S1 => rw [q] at f0; exact fun θ' σ' H' e R1 _ => f0 θ' H' .non e R1 .non
    | rt d S1 => rw [q] at f0; exact f0
    | exc x ρ S1 => rw [q] at f0; exact fun θ' σ' H' c a e R1 _ => f0 θ' H' c a e R1
    | bk ρ S1 => rw [q] at f0; exact f0.elim
    | ct ρ S1 => rw [q] at f0; exact f0.elim
    | bad => rw [q] at f0; exact f0.elim
  refine wpAny_mono (body.run [] s1 _ H _ I hq) (fun fl s' hs => ?_) fun e s' hs => hs
  cases fl with
  | ret u => obtain ⟨v, _, H', J, rv, q⟩ := hs; exact ⟨v, H', J.os, J.bare, J.base, J.hok, rv, q⟩
  | next => obtain ⟨_, H', J, q⟩ := hs; exact ⟨.non, H', J.os, J.bare, J.base, J.hok, rfl, q⟩
  | brk => obtain ⟨_, _, _, q⟩ := hs; exact q.elim
  | cont => obtain ⟨_, _, _, q⟩ := hs; exact q.elim
/-- THE RULE for a def -/
theorem def_ok {G : Gv} {x qual : Str} {st : Stmt} {f : Addr} {fd : FuncData} {N ps : List Str} {k l : Nat} {b : SM} (F : Fun G.K x qual st f fd) (S : FnScope N ps (defScope st)) (hl : N.length = ps.length + l)
    (hb : ∀ (E : XK) (cd : Value) (A : Around) (outer : List PySem.Env) (s : Shared) (H : Hp) (B : Bv), Body P w mg base G N (defScope st) k (cxOf (L2.CX P w) P w G.K mg base N qual (defScope st) f cd A outer s H E) B →
      PSs (cxOf (L2.CX P w) P w G.K mg base N qual (defScope st) f cd A outer s H E) (defBody st) (rdS B b)) :
    FnG P w G.K mg base (k + 1) f fd ps (spD G ps.length (defM l b)) := def_okC F S hl fun E cd A outer s H B _ hB => hb E cd A outer s H B hB
end
end DM

namespace DM
open PySem PySem.Spec L2
open PyProof.Rows hiding St

theorem mapM_cons_some {α β : Type} {f : α → Option β} {a : α} {l : List α} {r : List β} (h : (a :: l).mapM f = some r) : ∃ b bs, f a = some b ∧ l.mapM f = some bs ∧ r = b :: bs := by
  rw [List.mapM_cons] at h
  cases q : f a with
  | none => rw [q] at h; cases h
  | some b =>
    rw [q] at h
    cases q2 : l.mapM f with
    | none => rw [q2] at h; cases h
    | some bs => rw [q2] at h; cases h; exact ⟨b, bs, rfl, rfl, rfl⟩
theorem rds_mapM {G G' : Gv} {θ θ' : List Addr} {H : Hp} {f : D → Option D} (ih : ∀ d v d', RD G θ H d v → f d = some d' → RD G' θ' H d' v) :
    ∀ {ds : List D} {vs : List V} {ds' : List D}, RDs G θ H ds vs → ds.mapM f = some ds' → RDs G' θ' H ds' vs
  | [], _, ds', .nil, e => by simp at e; subst e; exact .nil
  | d :: ds, _, ds', .cons r t, e => by
    obtain ⟨b, bs, e1, e2, rfl⟩ := mapM_cons_some e
    exact .cons (ih _ _ _ r e1) (rds_mapM ih t e2)
abbrev Gv.sub (G : Gv) (θ : List Addr) : Gv := { G with ph := fun a => G.ph a ∨ a ∈ θ }
theorem view_sub (G : Gv) (θ : List Addr) : View G (G.sub θ) := ⟨rfl, rfl, rfl, rfl⟩
theorem sub_view (G : Gv) (θ : List Addr) : View (G.sub θ) G := ⟨rfl, rfl, rfl, rfl⟩
section
variable {G : Gv} {F : Fr0} {θ : List Addr} {S : Store} {H : Hp}
theorem brwG_ok (R0 : Rel G F θ S H) : ∀ (n : Nat) (d : D) (v : V) (d' : D), RD G θ H d v → brwG S n d = some d' → RD (G.sub θ) [] H d' v
  | 0, _, _, _, _, e => by cases e
  | n + 1, d, v, d', r, e => by
    have ih := brwG_ok R0 n
    have cl : (if cleanD d then some d else none) = some d' → RD (G.sub θ) [] H d' v := fun e => by
      by_cases c : cleanD d = true
      · rw [if_pos c] at e
        cases e
        exact RD.clean (view_sub G θ) (fun a o _ h1 h2 z => z.elim h1 h2) (fun a o _ _ => by simp) r c
      · rw [if_neg c] at e; cases e
    cases r with
    | tup h1 h2 =>
      obtain ⟨ds', e1, rfl⟩ := map_some e
      exact .tup h1 (rds_mapM ih h2 e1)
    | pr h1 h2 =>
      obtain ⟨ds', e1, rfl⟩ := map_some e
      exact .pr h1 (rds_mapM ih h2 e1)
    | @ref j a h =>
      have e' : (match S[j]? with | some (.lst es) => (es.mapM (brwG S n)).map .brw | _ => none) = some d' := e
      cases q : S[j]? with
      | none => rw [q] at e'; cases e'
      | some c =>
        cases c with
        | dct kvs => rw [q] at e'; cases e'
        | rev rs0 k0 => rw [q] at e'; cases e'
        | lst es =>
          rw [q] at e'
          obtain ⟨ds', e1, rfl⟩ := map_some e'
          obtain ⟨xs, h1, h2⟩ := R0.cells _ _ _ h q
          exact .brw (by simp) h1 (rds_mapM ih h2 e1)
    | _ => exact cl e
theorem ixOf_get {i : Nat} : ∀ {l : List Nat} {k j : Nat}, ixOf i l k = some j → k ≤ j ∧ l[j - k]? = some i
  | [], _, _, e => by cases e
  | x :: r, k, j, e => by
    have e' : (if i = x then some k else ixOf i r (k + 1)) = some j := e
    by_cases h : i = x
    · rw [if_pos h] at e'; cases e'; subst h; simp
    · rw [if_neg h] at e'
      obtain ⟨h1, h2⟩ := ixOf_get e'
      refine ⟨by omega, ?_⟩
      have : j - k = (j - (k + 1)) + 1 := by omega
      rw [this]; simpa using h2
theorem ixOf_none {i : Nat} : ∀ {l : List Nat} {k : Nat}, ixOf i l k = none → i ∉ l
  | [], _, _ => by simp
  | x :: r, k, e => by
    have e' : (if i = x then some k else ixOf i r (k + 1)) = none := e
    by_cases h : i = x
    · rw [if_pos h] at e'; cases e'
    · rw [if_neg h] at e'
      simp [h, ixOf_none e']
def thOf (θ : List Addr) (is : List Nat) : List Addr := is.map fun i => θ.getD i 0
theorem cellOk_get (R0 : Rel G F θ S H) {i : Nat} (h : cellOk S i = true) : ∃ a es xs, θ[i]? = some a ∧ θ.getD i 0 = a ∧ S[i]? = some (.lst es) ∧ cleanAll es = true ∧ H a = some (.lst xs) ∧ RDs G θ H es xs := by
  unfold cellOk at h
  cases q : S[i]? with
  | none => rw [q] at h; cases h
  | some c =>
    cases c with
    | dct kvs => rw [q] at h; cases h
    | rev rs0 k0 => rw [q] at h; cases h
    | lst es =>
      rw [q] at h
      have hi : i < θ.length := by rw [R0.len]; exact (List.getElem?_eq_some_iff.mp q).1
      obtain ⟨xs, h1, h2⟩ := R0.cells i θ[i] _ (List.getElem?_eq_getElem hi) q
      exact ⟨θ[i], es, xs, List.getElem?_eq_getElem hi, by simp [List.getD, List.getElem?_eq_getElem hi], rfl, h, h1, h2⟩
theorem argsA_ok (R0 : Rel G F θ S H) : ∀ {ds : List D} {vs : List V} {is is' : List Nat} {ds' : List D}, RDs G θ H ds vs → argsA S is ds = some (ds', is') → is.Nodup → (∀ i ∈ is, cellOk S i = true) →
    is'.Nodup ∧ (∀ i ∈ is', cellOk S i = true) ∧ (∃ m, is' = is ++ m) ∧ ∀ θ0, (∀ (j : Nat) a, (thOf θ is')[j]? = some a → θ0[j]? = some a) → (∀ a, a ∉ θ → a ∉ θ0) → RDs (G.sub θ) θ0 H ds' vs
  | [], _, is, is', ds', .nil, e, hn, hc => by
    cases e
    exact ⟨hn, hc, ⟨[], by simp⟩, fun _ _ _ => .nil⟩
  | d :: ds, _, is, is', ds', .cons (v := v0) r t, e, hn, hc => by
    have e' : (match argA S is d with | none => none | some p => match argsA S p.2 ds with | none => none | some q => some (p.1 :: q.1, q.2)) = some (ds', is') := e
    cases q1 : argA S is d with
    | none => rw [q1] at e'; cases e'
    | some p =>
      rw [q1] at e'
      replace e' : (match argsA S p.2 ds with | none => none | some q => some (p.1 :: q.1, q.2)) = some (ds', is') := e'
      cases q2 : argsA S p.2 ds with
      | none => rw [q2] at e'; cases e'
      | some q =>
        rw [q2] at e'
        cases e'
        obtain ⟨d1, is1⟩ := p
        obtain ⟨ds1, is2⟩ := q
        have cl : ∀ d v, RD G θ H d v → (if cleanD d then some (d, is) else none) = some (d1, is1) → is1 = is ∧ ∀ θ0, (∀ a, a ∉ θ → a ∉ θ0) → RD (G.sub θ) θ0 H d1 v := fun d v r e => by
          by_cases c : cleanD d = true
          · rw [if_pos c] at e
            cases e
            exact ⟨rfl, fun θ0 h0 => RD.clean (view_sub G θ) (fun a o _ h1 h2 z => z.elim h1 h2) (fun a o _ h => h0 a h) r c⟩
          · rw [if_neg c] at e; cases e
        have step : is1.Nodup ∧ (∀ i ∈ is1, cellOk S i = true) ∧ (∃ m, is1 = is ++ m) ∧ ∀ θ0, (∀ (j : Nat) a, (thOf θ is1)[j]? = some a → θ0[j]? = some a) → (∀ a, a ∉ θ → a ∉ θ0) → RD (G.sub θ) θ0 H d1 v0 := by
          cases r with
          | @ref i a h =>
            have e2 : (if cellOk S i then (match ixOf i is 0 with | some j => some (.ref j, is) | none => some (.ref is.length, is ++ [i])) else none) = some (d1, is1) := q1
            by_cases c : cellOk S i = true
            · rw [if_pos c] at e2
              obtain ⟨a', es, xs, g1, g2, g3, g4, g5, g6⟩ := cellOk_get R0 c
              rw [h] at g1
              cases g1
              cases q3 : ixOf i is 0 with
              | some j =>
                rw [q3] at e2
                cases e2
                obtain ⟨_, k2⟩ := ixOf_get q3
                refine ⟨hn, hc, ⟨[], by simp⟩, fun θ0 h0 _ => .ref (h0 j a ?_)⟩
                unfold thOf
                rw [List.getElem?_map]
                rw [Nat.sub_zero] at k2
                rw [k2]
                exact congrArg some g2
              | none =>
                rw [q3] at e2
                cases e2
                have nm := ixOf_none q3
                refine ⟨?_, fun k hk => ?_, ⟨[i], rfl⟩, fun θ0 h0 _ => .ref (h0 is.length a ?_)⟩
                · rw [List.nodup_append]
                  exact ⟨hn, by simp, fun x hx y hy => by
                    rw [List.mem_singleton.mp hy]
                    rintro rfl
                    exact nm hx⟩
                · rcases List.mem_append.mp hk with hk | hk
                  · exact hc k hk
                  · rw [List.mem_singleton.mp hk]; exact c
                · unfold thOf
                  rw [List.getElem?_map, List.getElem?_concat_length]
                  exact congrArg some g2
            · rw [if_neg c] at e2; cases e2
          | non => obtain ⟨rfl, k⟩ := cl _ _ .non q1; exact ⟨hn, hc, ⟨[], by simp⟩, fun θ0 _ h0 => k θ0 h0⟩
          | bl b => obtain ⟨rfl, k⟩ := cl _ _ (.bl b) q1; exact ⟨hn, hc, ⟨[], by simp⟩, fun θ0 _ h0 => k θ0 h0⟩
          | int i => obtain ⟨rfl, k⟩ := cl _ _ (.int i) q1; exact ⟨hn, hc, ⟨[], by simp⟩, fun θ0 _ h0 => k θ0 h0⟩
          | str s => obtain ⟨rfl, k⟩ := cl _ _ (.str s) q1; exact ⟨hn, hc, ⟨[], by simp⟩, fun θ0 _ h0 => k θ0 h0⟩
          | ty s => obtain ⟨rfl, k⟩ := cl _ _ (.ty s) q1; exact ⟨hn, hc, ⟨[], by simp⟩, fun θ0 _ h0 => k θ0 h0⟩
          | tup k1 k2 => obtain ⟨rfl, k⟩ := cl _ _ (.tup k1 k2) q1; exact ⟨hn, hc, ⟨[], by simp⟩, fun θ0 _ h0 => k θ0 h0⟩
          | pr k1 k2 => obtain ⟨rfl, k⟩ := cl _ _ (.pr k1 k2) q1; exact ⟨hn, hc, ⟨[], by simp⟩, fun θ0 _ h0 => k θ0 h0⟩
          | lst k0 k1 k2 k3 => obtain ⟨rfl, k⟩ := cl _ _ (.lst k0 k1 k2 k3) q1; exact ⟨hn, hc, ⟨[], by simp⟩, fun θ0 _ h0 => k θ0 h0⟩
          | kst k1 k2 => obtain ⟨rfl, k⟩ := cl _ _ (.kst k1 k2) q1; exact ⟨hn, hc, ⟨[], by simp⟩, fun θ0 _ h0 => k θ0 h0⟩
          | brw k1 k2 k3 => obtain ⟨rfl, k⟩ := cl _ _ (.brw k1 k2 k3) q1; exact ⟨hn, hc, ⟨[], by simp⟩, fun θ0 _ h0 => k θ0 h0⟩
          | fn k1 => obtain ⟨rfl, k⟩ := cl _ _ (.fn k1) q1; exact ⟨hn, hc, ⟨[], by simp⟩, fun θ0 _ h0 => k θ0 h0⟩
          | edc k0 k1 k2 => obtain ⟨rfl, k⟩ := cl _ _ (.edc k0 k1 k2) q1; exact ⟨hn, hc, ⟨[], by simp⟩, fun θ0 _ h0 => k θ0 h0⟩
        obtain ⟨s1, s2, ⟨m1, s3⟩, s4⟩ := step
        obtain ⟨t1, t2, ⟨m2, t3⟩, t4⟩ := argsA_ok R0 t q2 s1 s2
        refine ⟨t1, t2, ⟨m1 ++ m2, by rw [t3, s3]; simp⟩, fun θ0 h0 h1 => .cons (s4 θ0 (fun j a hj => h0 j a ?_) h1) (t4 θ0 h0 h1)⟩
        rw [t3]
        unfold thOf at hj ⊢
        rw [List.map_append, List.getElem?_append_left (List.getElem?_eq_some_iff.mp hj).1]
        exact hj
/-- the cells handed in -/
theorem sub_rel (R0 : Rel G F θ S H) {is : List Nat} (hn : is.Nodup) (hc : ∀ i ∈ is, cellOk S i = true) : Rel (G.sub θ) ⟨H, thOf θ is⟩ (thOf θ is) (cellsOf S is) H ∧ (∀ a, a ∉ θ → a ∉ thOf θ is) := by
  have inθ : ∀ a ∈ thOf θ is, a ∈ θ := fun a ha => by
    obtain ⟨i, hi, rfl⟩ := List.mem_map.mp ha
    obtain ⟨a', es, xs, g1, g2, _⟩ := cellOk_get R0 (hc i hi)
    rw [g2]
    exact List.mem_of_getElem? g1
  refine ⟨⟨by simp [thOf, cellsOf], ?_, fun n a c h1 h2 => ?_, .refl, fun a h => ?_, R0.tab⟩, fun a h z => h (inθ a z)⟩
  · have go : ∀ is : List Nat, is.Nodup → (∀ i ∈ is, cellOk S i = true) → (thOf θ is).Nodup := by
      intro is
      induction is with
      | nil => intro _ _; exact List.nodup_nil
      | cons i r ih =>
        intro hn hc
        rw [List.nodup_cons] at hn
        show (θ.getD i 0 :: thOf θ r).Nodup
        rw [List.nodup_cons]
        refine ⟨fun z => ?_, ih hn.2 fun k hk => hc k (List.mem_cons_of_mem _ hk)⟩
        obtain ⟨k, hk, e⟩ := List.mem_map.mp z
        obtain ⟨a1, _, _, g1, g2, _⟩ := cellOk_get R0 (hc i List.mem_cons_self)
        obtain ⟨a2, _, _, g3, g4, _⟩ := cellOk_get R0 (hc k (List.mem_cons_of_mem _ hk))
        replace e : θ.getD k 0 = θ.getD i 0 := e
        rw [g4, g2] at e
        subst e
        obtain ⟨i1, j1⟩ := List.getElem?_eq_some_iff.mp g1
        obtain ⟨i2, j2⟩ := List.getElem?_eq_some_iff.mp g3
        have : i = k := (List.getElem_inj R0.nd).mp (j1.trans j2.symm)
        exact hn.1 (this ▸ hk)
    exact go is hn hc
  · unfold thOf at h1
    unfold cellsOf at h2
    rw [List.getElem?_map] at h1 h2
    cases q : is[n]? with
    | none => rw [q] at h1; cases h1
    | some i =>
      rw [q] at h1 h2
      have hi := List.mem_of_getElem? q
      obtain ⟨a', es, xs, g1, g2, g3, g4, g5, g6⟩ := cellOk_get R0 (hc i hi)
      replace h1 : some (θ.getD i 0) = some a := h1
      replace h2 : some ((S[i]?).getD (.lst [])) = some c := h2
      rw [g2] at h1
      rw [g3] at h2
      cases h1
      cases h2
      exact ⟨xs, g5, RDs.clean (view_sub G θ) (fun a o _ h1 h2 z => z.elim h1 h2) (fun a o _ h => fun z => h (inθ a z)) g6 g4⟩
  · rcases h with h | h
    · exact R0.pht a h
    · obtain ⟨n, c, _, _, r⟩ := R0.mem_some h
      obtain ⟨xs, q, _⟩ := rc_some r
      rw [q]; exact fun z => by cases z
end

section
variable {G : Gv} {F F1 : Fr0} {θ θ1 θt : List Addr} {S S1 : Store} {H H2 : Hp} {k av : Nat}
/-- what the callee hands back, seen from its caller with the cells θt: θ1 = the cells handed in (the first k), then new ones -/
structure Bk (G : Gv) (θ θ1 θt : List Addr) (k av : Nat) : Prop where
  new : ∀ (j : Nat) a, k ≤ j → j ≠ av → θ1[j]? = some a → ¬ G.ph a ∧ a ∉ θt
  old : ∀ a, ¬ (G.sub θ).ph a → a ∉ θ1 → ¬ G.ph a ∧ a ∉ θt
theorem retG_ok (b : Bk G θ θ1 θt k av) (R1 : Rel (G.sub θ) F1 θ1 S1 H2) : ∀ (n : Nat) (d : D) (v : V) (d' : D), RD (G.sub θ) θ1 H2 d v → retG k av S1 n d = some d' → RD G θt H2 d' v
  | 0, _, _, _, _, e => by cases e
  | n + 1, d, v, d', r, e => by
    have ih := retG_ok b R1 n
    have cl : (if pureD d then some d else none) = some d' → RD G θt H2 d' v := fun e => by
      by_cases c : pureD d = true
      · rw [if_pos c] at e
        cases e
        exact RD.pure (sub_view G θ) b.old r c
      · rw [if_neg c] at e; cases e
    cases r with
    | tup h1 h2 =>
      obtain ⟨ds', e1, rfl⟩ := map_some e
      exact .tup h1 (rds_mapM ih h2 e1)
    | pr h1 h2 =>
      obtain ⟨ds', e1, rfl⟩ := map_some e
      exact .pr h1 (rds_mapM ih h2 e1)
    | lst h0 h1 h2 h3 =>
      obtain ⟨ds', e1, rfl⟩ := map_some e
      exact .lst (b.old _ h0 h1).1 (b.old _ h0 h1).2 h2 (rds_mapM ih h3 e1)
    | @ref j a h =>
      have e' : (if j < k then none else if j = av then none else match S1[j]? with | some (.lst es) => (es.mapM (retG k av S1 n)).map .lst | _ => none) = some d' := e
      by_cases hj : j < k
      · rw [if_pos hj] at e'; cases e'
      · rw [if_neg hj] at e'
        by_cases hv : j = av
        · rw [if_pos hv] at e'; cases e'
        · rw [if_neg hv] at e'
          cases q : S1[j]? with
          | none => rw [q] at e'; cases e'
          | some c =>
            cases c with
            | dct kvs => rw [q] at e'; cases e'
            | rev rs0 k0 => rw [q] at e'; cases e'
            | lst es =>
              rw [q] at e'
              obtain ⟨ds', e1, rfl⟩ := map_some e'
              obtain ⟨xs, h1, h2⟩ := R1.cells _ _ _ h q
              obtain ⟨b1, b2⟩ := b.new j a (by omega) hv h
              exact .lst b1 b2 h1 (rds_mapM ih h2 e1)
    | _ => exact cl e
theorem retD_ok (b : Bk G θ θ1 θt k av) (R1 : Rel (G.sub θ) F1 θ1 S1 H2) {d d' : D} {v : V} (r : RD (G.sub θ) θ1 H2 d v) (e : retD k av S1 d = some d') : RD G θt H2 d' v := by
  unfold retD at e
  by_cases c : pureD d = true
  · rw [if_pos c] at e
    cases e
    exact RD.pure (sub_view G θ) b.old r c
  · rw [if_neg c] at e
    exact retG_ok b R1 _ _ _ _ r e
theorem retAll_ok (b : Bk G θ θ1 θt k av) (R1 : Rel (G.sub θ) F1 θ1 S1 H2) {ds ds' : List D} {vs : List V} (r : RDs (G.sub θ) θ1 H2 ds vs) (e : retAll k av S1 ds = some ds') : RDs G θt H2 ds' vs := by
  unfold retAll at e
  by_cases c : pureAll ds = true
  · rw [if_pos c] at e
    cases e
    exact RDs.pure (sub_view G θ) b.old r c
  · rw [if_neg c] at e
    exact rds_mapM (retG_ok b R1 _) r e
theorem putBack_get : ∀ {is : List Nat} {j : Nat} {S S2 : Store}, putBack k av S1 is j S = some S2 → is.Nodup → (∀ i ∈ is, i < S.length) →
    S2.length = S.length ∧ (∀ n, n ∉ is → S2[n]? = S[n]?) ∧ ∀ (m : Nat) i, is[m]? = some i → ∃ es es', S1[j + m]? = some (.lst es) ∧ retAll k av S1 es = some es' ∧ S2[i]? = some (.lst es')
  | [], _, S, S2, e, _, _ => by
    cases e
    exact ⟨rfl, fun _ _ => rfl, fun m i h => by simp at h⟩
  | i :: is, j, S, S2, e, hn, hl => by
    have e' : (match S1[j]? with | some (.lst es) => (match retAll k av S1 es with | some es' => putBack k av S1 is (j + 1) (S.set i (.lst es')) | none => none) | _ => none) = some S2 := e
    rw [List.nodup_cons] at hn
    cases q : S1[j]? with
    | none => rw [q] at e'; cases e'
    | some c =>
      cases c with
      | dct kvs => rw [q] at e'; cases e'
      | rev rs0 k0 => rw [q] at e'; cases e'
      | lst es =>
        rw [q] at e'
        replace e' : (match retAll k av S1 es with | some es' => putBack k av S1 is (j + 1) (S.set i (.lst es')) | none => none) = some S2 := e'
        cases q2 : retAll k av S1 es with
        | none => rw [q2] at e'; cases e'
        | some es' =>
          rw [q2] at e'
          obtain ⟨h1, h2, h3⟩ := putBack_get e' hn.2 fun x hx => by rw [List.length_set]; exact hl x (List.mem_cons_of_mem _ hx)
          rw [List.length_set] at h1
          refine ⟨h1, fun n hx => ?_, fun m x hx => ?_⟩
          · rw [List.mem_cons, not_or] at hx
            rw [h2 n hx.2, List.getElem?_set_ne (Ne.symm hx.1)]
          · cases m with
            | zero =>
              have : x = i := by simpa using hx.symm
              subst this
              refine ⟨es, es', q, q2, ?_⟩
              rw [h2 x hn.1, List.getElem?_set_self (hl x List.mem_cons_self)]
            | succ m =>
              obtain ⟨a, b, c1, c2, c3⟩ := h3 m x (by simpa using hx)
              exact ⟨a, b, by rw [show j + (m + 1) = j + 1 + m by omega]; exact c1, c2, c3⟩
/-- the heap behind the call, for the caller -/
theorem back_ext (R0 : Rel G F θ S H) {is : List Nat} (hc : ∀ i ∈ is, cellOk S i = true) (e : Ext (thOf θ is) H θ1 H2) : Keep θ H H2 ∧ (∀ a ∈ thOf θ is, a ∈ θ) ∧ (∀ a ∈ θ, H a ≠ none) ∧ ∀ (j : Nat) a, is.length ≤ j → θ1[j]? = some a → H a = none ∧ ¬ G.ph a ∧ a ∉ θ := by
  have inθ : ∀ a ∈ thOf θ is, a ∈ θ := fun a ha => by
    obtain ⟨i, hi, rfl⟩ := List.mem_map.mp ha
    obtain ⟨a', es, xs, g1, g2, _⟩ := cellOk_get R0 (hc i hi)
    rw [g2]
    exact List.mem_of_getElem? g1
  have tr : ∀ a ∈ θ, H a ≠ none := fun a ha => by
    obtain ⟨n, c, _, _, r⟩ := R0.mem_some ha
    obtain ⟨xs, q, _⟩ := rc_some r
    rw [q]; exact fun z => by cases z
  refine ⟨⟨fun a o q c t => e.keep.st a o q (c.imp (fun z y => z (inθ a y)) id) t, e.keep.gr⟩, inθ, tr, fun j a hj ha => ?_⟩
  obtain ⟨nw, rfl, hw⟩ := e.pre
  rw [List.getElem?_append_right (by simpa [thOf] using hj)] at ha
  have hn := hw a (List.mem_of_getElem? ha)
  exact ⟨hn, fun z => R0.pht a z hn, fun z => tr a z hn⟩
/-- the caller's cells behind the call -/
theorem back_cells (R0 : Rel G F θ S H) {is : List Nat} (hn : is.Nodup) (hc : ∀ i ∈ is, cellOk S i = true) (e : Ext (thOf θ is) H θ1 H2) (R1 : Rel (G.sub θ) ⟨H, thOf θ is⟩ θ1 S1 H2) {S2 : Store} (hb : putBack is.length av S1 is 0 S = some S2)
    (bk : Bk G θ θ1 θt is.length av) (ex : Ext θ H θt H2) : S2.length = S.length ∧ ∀ (n : Nat) (a : Addr) (c : C), θ[n]? = some a → S2[n]? = some c → RC G θt H2 c a := by
  have lt : ∀ i ∈ is, i < S.length := fun i hi => by
    obtain ⟨_, _, _, _, _, g, _⟩ := cellOk_get R0 (hc i hi)
    exact (List.getElem?_eq_some_iff.mp g).1
  obtain ⟨h1, h2, h3⟩ := putBack_get hb hn lt
  refine ⟨h1, fun n a c k1 k2 => ?_⟩
  by_cases hm : n ∈ is
  · obtain ⟨m, hm2, em⟩ := List.getElem_of_mem hm
    have em' : is[m]? = some n := by rw [List.getElem?_eq_getElem hm2, em]
    obtain ⟨es, es', q1, q2, q3⟩ := h3 m n em'
    rw [q3] at k2
    cases k2
    have ha : θ1[m]? = some a := e.get (by
      unfold thOf
      rw [List.getElem?_map, em']
      show some (θ.getD n 0) = some a
      simp [List.getD, k1])
    rw [Nat.zero_add] at q1
    obtain ⟨xs, g1, g2⟩ := R1.cells m a _ ha q1
    exact ⟨xs, g1, retAll_ok bk R1 g2 q2⟩
  · rw [h2 n hm] at k2
    refine rc_ext ex (fun o q => e.keep.st a o q (.inl fun z => ?_) ?_) (R0.cells n a c k1 k2)
    · obtain ⟨i, hi, ei⟩ := List.mem_map.mp z
      obtain ⟨a', es, xs, g1, g2, _⟩ := cellOk_get R0 (hc i hi)
      replace ei : θ.getD i 0 = a := ei
      rw [g2] at ei
      subst ei
      obtain ⟨i1, j1⟩ := List.getElem?_eq_some_iff.mp g1
      obtain ⟨i2, j2⟩ := List.getElem?_eq_some_iff.mp k1
      have : i = n := (List.getElem_inj R0.nd).mp (j1.trans j2.symm)
      exact hm (this ▸ hi)
    · obtain ⟨xs, q', _, nt, _⟩ := rc_some (R0.cells n a c k1 k2)
      rw [q'] at q; cases q; exact nt
/-- no new cell handed back -/
theorem back_rel (R0 : Rel G F θ S H) {is : List Nat} (hn : is.Nodup) (hc : ∀ i ∈ is, cellOk S i = true) (e : Ext (thOf θ is) H θ1 H2) (R1 : Rel (G.sub θ) ⟨H, thOf θ is⟩ θ1 S1 H2) {S2 : Store} (hb : putBack is.length av S1 is 0 S = some S2) :
    Bk G θ θ1 θ is.length av ∧ Ext θ H θ H2 ∧ Rel G F θ S2 H2 := by
  obtain ⟨kp, inθ, tr, nw⟩ := back_ext R0 hc e
  have bk : Bk G θ θ1 θ is.length av := ⟨fun j a hj _ ha => (nw j a hj ha).2, fun a h _ => ⟨fun z => h (.inl z), fun z => h (.inr z)⟩⟩
  have ex : Ext θ H θ H2 := .of_keep kp
  obtain ⟨h1, h2⟩ := back_cells R0 hn hc e R1 hb bk ex
  exact ⟨bk, ex, by rw [R0.len, h1], R0.nd, h2, R0.fr.trans ex, fun a h z => R0.pht a h (ex.keep.gr a z), R1.tab⟩
/-- a new cell handed back -/
theorem back_rel2 (R0 : Rel G F θ S H) {is : List Nat} (hn : is.Nodup) (hc : ∀ i ∈ is, cellOk S i = true) (e : Ext (thOf θ is) H θ1 H2) (R1 : Rel (G.sub θ) ⟨H, thOf θ is⟩ θ1 S1 H2) {S2 : Store} {j : Nat} {a : Addr} {es es' : List D} (hb : putBack is.length j S1 is 0 S = some S2)
    (hj : is.length ≤ j) (ha : θ1[j]? = some a) (q1 : S1[j]? = some (.lst es)) (q2 : retAll is.length j S1 es = some es') :
    Ext θ H (θ ++ [a]) H2 ∧ Rel G F (θ ++ [a]) (S2 ++ [.lst es']) H2 ∧ S2.length = S.length := by
  obtain ⟨kp, inθ, tr, nw⟩ := back_ext R0 hc e
  obtain ⟨na, np, nt⟩ := nw j a hj ha
  have am := List.mem_of_getElem? ha
  have ex : Ext θ H (θ ++ [a]) H2 := ⟨⟨[a], rfl, fun b m => by rw [List.mem_singleton.mp m]; exact na⟩, kp⟩
  have bk : Bk G θ θ1 (θ ++ [a]) is.length j := ⟨fun i b hi hv hb => ⟨(nw i b hi hb).2.1, fun z => by
      rcases List.mem_append.mp z with z | z
      · exact (nw i b hi hb).2.2 z
      · have eb := List.mem_singleton.mp z
        subst eb
        obtain ⟨i1, j1⟩ := List.getElem?_eq_some_iff.mp hb
        obtain ⟨i2, j2⟩ := List.getElem?_eq_some_iff.mp ha
        exact hv ((List.getElem_inj R1.nd).mp (j1.trans j2.symm))⟩,
    fun b h1 h2 => ⟨fun z => h1 (.inl z), fun z => by
      rcases List.mem_append.mp z with z | z
      · exact h1 (.inr z)
      · rw [List.mem_singleton.mp z] at h2; exact h2 am⟩⟩
  obtain ⟨h1, h2⟩ := back_cells R0 hn hc e R1 hb bk ex
  refine ⟨ex, ⟨by simp [R0.len, h1], ?_, fun n b c k1 k2 => ?_, R0.fr.trans ex, fun b h z => R0.pht b h (ex.keep.gr b z), R1.tab⟩, h1⟩
  · rw [List.nodup_append]
    exact ⟨R0.nd, by simp, fun x hx y hy => by
      rw [List.mem_singleton.mp hy]
      rintro rfl
      exact nt hx⟩
  · by_cases hn : n < θ.length
    · rw [List.getElem?_append_left hn] at k1
      rw [List.getElem?_append_left (by rw [h1, ← R0.len]; exact hn)] at k2
      exact h2 n b c k1 k2
    · have hl : n = θ.length := by
        have := (List.getElem?_eq_some_iff.mp k1).1
        simp at this
        omega
      subst hl
      rw [List.getElem?_concat_length] at k1
      rw [R0.len, ← h1, List.getElem?_concat_length] at k2
      cases k1; cases k2
      obtain ⟨xs, g1, g2⟩ := R1.cells j a _ ha q1
      exact ⟨xs, g1, retAll_ok bk R1 g2 q2⟩
end

theorem fin_back {G : Gv} {F : Fr0} {W : WX} {σ : St} {θ : List Addr} {S : Store} {H : Hp} {Q : VK} (R0 : Rel G F θ S H) {is : List Nat} (hn : is.Nodup) (hc : ∀ i ∈ is, cellOk S i = true) {r : R D} (f : Fin ⟨G, F, W⟩ (RD G) σ θ H (back is S r) Q) :
    Fin ⟨G.sub θ, ⟨H, thOf θ is⟩, fun c a _ H' => W c a σ H'⟩ (RD (G.sub θ)) [] (thOf θ is) H r Q := by
  cases r with
  | bad => exact f
  | ok d S1 =>
    intro θ1 H2 v e R1 r1
    have plain : RD (G.sub θ) θ1 H2 d v → Fin ⟨G, F, W⟩ (RD G) σ θ H (backP is S S1 d) Q → Q v H2 := fun r1 f => by
      unfold backP at f
      cases q : putBack is.length S1.length S1 is 0 S with
      | none => rw [q] at f; exact f.elim
      | some S2 =>
        rw [q] at f
        replace f : Fin ⟨G, F, W⟩ (RD G) σ θ H (match retD is.length S1.length S1 d with | some d' => .ok d' S2 | none => .bad) Q := f
        obtain ⟨bk, ex, R2⟩ := back_rel R0 hn hc e R1 q
        cases q2 : retD is.length S1.length S1 d with
        | none => rw [q2] at f; exact f.elim
        | some d' =>
          rw [q2] at f
          exact Fin.ok f ex R2 (retD_ok bk R1 r1 q2)
    cases r1 with
    | @ref j a h =>
      have f2 : Fin ⟨G, F, W⟩ (RD G) σ θ H (if j < is.length then backO is S S1 j else backN is S S1 j) Q := f
      by_cases hj : j < is.length
      · rw [if_pos hj] at f2
        unfold backO at f2
        cases q : putBack is.length S1.length S1 is 0 S with
        | none => rw [q] at f2; exact f2.elim
        | some S2 =>
          rw [q] at f2
          obtain ⟨bk, ex, R2⟩ := back_rel R0 hn hc e R1 q
          refine Fin.ok f2 ex R2 (.ref ?_)
          obtain ⟨a', es, xs, g1, g2, _⟩ := cellOk_get R0 (hc is[j] (List.getElem_mem hj))
          have ha : (thOf θ is)[j]? = some a' := by
            unfold thOf
            rw [List.getElem?_map, List.getElem?_eq_getElem hj]
            exact congrArg some g2
          have := e.get ha
          rw [h] at this
          cases this
          rw [show is.getD j 0 = is[j] by simp [List.getD, List.getElem?_eq_getElem hj]]
          exact g1
      · rw [if_neg hj] at f2
        unfold backN at f2
        cases q : putBack is.length j S1 is 0 S with
        | none => rw [q] at f2; exact f2.elim
        | some S2 =>
          rw [q] at f2
          cases q3 : S1[j]? with
          | none => rw [q3] at f2; exact f2.elim
          | some c =>
            cases c with
            | dct kvs => rw [q3] at f2; exact f2.elim
            | rev rs0 k0 => rw [q3] at f2; exact f2.elim
            | lst es =>
              rw [q3] at f2
              replace f2 : Fin ⟨G, F, W⟩ (RD G) σ θ H (match retAll is.length j S1 es with | some es' => .ok (.ref S2.length) (S2 ++ [.lst es']) | none => .bad) Q := f2
              cases q4 : retAll is.length j S1 es with
              | none => rw [q4] at f2; exact f2.elim
              | some es' =>
                rw [q4] at f2
                obtain ⟨ex, R2, hl⟩ := back_rel2 R0 hn hc e R1 q (Nat.le_of_not_lt hj) h q3 q4
                exact Fin.ok f2 ex R2 (.ref (by rw [hl, ← R0.len, List.getElem?_concat_length]))
    | non => exact plain .non f
    | bl b => exact plain (.bl b) f
    | int i => exact plain (.int i) f
    | str s => exact plain (.str s) f
    | ty s => exact plain (.ty s) f
    | tup k1 k2 => exact plain (.tup k1 k2) f
    | pr k1 k2 => exact plain (.pr k1 k2) f
    | lst k0 k1 k2 k3 => exact plain (.lst k0 k1 k2 k3) f
    | brw k1 k2 k3 => exact plain (.brw k1 k2 k3) f
    | kst k1 k2 => exact plain (.kst k1 k2) f
    | fn k1 => exact plain (.fn k1) f
    | edc k0 k1 k2 => exact plain (.edc k0 k1 k2) f
  | exc x S1 =>
    intro θ1 H2 c a e R1 x1
    have f2 : Fin ⟨G, F, W⟩ (RD G) σ θ H (backX is S S1 x) Q := f
    unfold backX at f2
    cases q : putBack is.length S1.length S1 is 0 S with
    | none => rw [q] at f2; exact f2.elim
    | some S2 =>
      rw [q] at f2
      obtain ⟨bk, ex, R2⟩ := back_rel R0 hn hc e R1 q
      cases q5 : x.v with
      | none =>
        rw [q5] at f2
        exact f2 θ H2 c a ex R2 ⟨x1.cls, fun d h => by cases h⟩
      | some d =>
        rw [q5] at f2
        replace f2 : Fin ⟨G, F, W⟩ (RD G) σ θ H (match retD is.length S1.length S1 d with | some d' => .exc ⟨x.c, some d'⟩ S2 | none => .bad) Q := f2
        cases q2 : retD is.length S1.length S1 d with
        | none => rw [q2] at f2; exact f2.elim
        | some d' =>
          rw [q2] at f2
          refine f2 θ H2 c a ex R2 ⟨x1.cls, fun d1 h => ?_⟩
          cases h
          obtain ⟨dd, fs, v, h1, h2, h3, h4⟩ := x1.val d q5
          exact ⟨dd, fs, v, h1, h2, h3, retD_ok bk R1 h4 q2⟩

/-- the callee's promise serves what callD tells -/
theorem call_sp {G0 G : Gv} {F : Fr0} {W : WX} {σ : St} {θ : List Addr} {S : Store} {H : Hp} {Q : VK} {m : Fm} {n : Nat} {ds : List D} {vs : List V} (hK : G.K = G0.K) (hf : G.fa = G0.fa) (hc : G.ca = G0.ca) (hcn : G.cn = G0.cn) (htt : G.tt = G0.tt) (R0 : Rel G F θ S H) (r : RDs G θ H ds vs) (hn : vs.length = n)
    (f : Fin ⟨G, F, W⟩ (RD G) σ θ H (callD m ds S) Q) : spD G0 n m vs H Q (fun c a H' => W c a σ H') := by
  obtain ⟨K, fa, ph, ca, cn, tt⟩ := G
  obtain ⟨K0, fa0, ph0, ca0, cn0, tt0⟩ := G0
  cases hK; cases hf; cases hc; cases hcn; cases htt
  unfold callD at f
  cases q : passArgs S ds with
  | none => rw [q] at f; exact f.elim
  | some p =>
    rw [q] at f
    obtain ⟨ds', is⟩ := p
    have key : is.Nodup ∧ (∀ i ∈ is, cellOk S i = true) ∧ RDs (Gv.sub ⟨K, fa, ph, ca, cn, tt⟩ θ) (thOf θ is) H ds' vs := by
      unfold passArgs at q
      cases q1 : argsA S [] ds with
      | some r1 =>
        rw [q1] at q
        cases q
        obtain ⟨h1, h2, _, h4⟩ := argsA_ok R0 r q1 List.nodup_nil (fun i hi => by simp at hi)
        exact ⟨h1, h2, h4 _ (fun _ _ h => h) (sub_rel R0 h1 h2).2⟩
      | none =>
        rw [q1] at q
        obtain ⟨ds1, q2, e⟩ := map_some q
        cases e
        exact ⟨List.nodup_nil, fun i hi => by simp at hi, rds_mapM (brwG_ok R0 20) r q2⟩
    obtain ⟨k1, k2, k3⟩ := key
    exact ⟨_, ds', cellsOf S is, thOf θ is, hn, (sub_rel R0 k1 k2).1, k3, fin_back R0 k1 k2 f⟩
section
variable {X : Cx} {B : Bv} {pos : Pos}
/-- the callee runs, its wish at these slots -/
theorem run_g {k : Nat} {f : Addr} {fd : FuncData} {ps : List Str} {sp : Sp} {W : WX} {pins : List (Addr × Obj)} {σ : St} {H : Hp} {s : Shared} {Q : VK} {us : List Value} {vs : List V} (FO : FnG X.prog X.w X.K X.mg X.base k f fd ps sp) (hr : Room k X.A) (gd : X.A.guards = some []) (hb : Binds X.K fd ps []) (tk : Takes X W)
    (I : Inv X pins σ H s) (r : Vals vs us) (h : sp vs H Q (WE W σ)) : wpAny (model X.prog X.w) X.A (call (.ref f) us) (EP X pins σ Q) X.xe s := by
  have hl : us.length = ps.length := r.length.symm.trans (FO.len _ _ _ _ h)
  have b := hb s us I.kIn (by simpa using hl)
  rw [List.append_nil] at b
  refine wpAny_call (codeAny_mono (FO.run X.A X.stack s H ⟨us, []⟩ us vs Q (WE W σ) hr gd I.env0 b r h) fun res s' hq => ?_)
  match res, hq with
  | .error e, hq => exact passAt tk σ pins H s e s' I hq
  | .ok (.ret u), hq => exact I.after hq
theorem pe_callG {k : Nat} {f : Addr} {fd : FuncData} {ps : List Str} {sp : Sp} {W : WX} {x : Str} {p : Pos} {e : Expr} {es : List Expr} {t : TA} (FO : FnG X.prog X.w X.K X.mg X.base k f fd ps sp) (hr : Room k X.A) (gd : X.A.guards = some []) (hg : Gl X x) (hm : X.mg x = some (.ref f)) (hk : PySem.W.keepIn X.K (.ref f) = true)
    (hb : Binds X.K fd ps []) (tk : Takes X W) (ha : PA X (e :: es) t) (hdb : (x == ("__debug__" : Str)) = false := by decide) (he : starEach (e :: es) X.env = (false, eval e X.env) :: starEach es X.env := by rfl) (hpl : (backTo pos (starEach es X.env)).any (·.1) = false := by rfl) :
    PE X (.Call (.Name x p) (e :: es) [] pos) (tCallS sp (WE W) t) := ⟨fun pins s σ H Q I h =>
  wpAny_Call_Name_kw (ld_glob I hg hm (PySem.W.callWith_K (h₀ := X.base) I.ok.mod.kin hk (thn (ha.run pos pins s σ H _ I h) fun us s1 ⟨vs, H1, I1, r, q⟩ => ⟨I1.kIn, run_g FO hr gd hb tk I1 r q⟩) he hpl) hdb)⟩
theorem de_call {k n : Nat} {f : Addr} {fd : FuncData} {ps : List Str} {x : Str} {p : Pos} {e : Expr} {es : List Expr} {G0 : Gv} {m : Fm} {a : M (List D)} (hB : B.G.K = G0.K ∧ B.G.fa = G0.fa ∧ B.G.ca = G0.ca ∧ B.G.cn = G0.cn ∧ B.G.tt = G0.tt) (FO : FnG X.prog X.w X.K X.mg X.base k f fd ps (spD G0 n m)) (hr : Room k X.A) (gd : X.A.guards = some []) (hg : Gl X x) (hm : X.mg x = some (.ref f))
    (hk : PySem.W.keepIn X.K (.ref f) = true) (hb : Binds X.K fd ps []) (tk : Takes X B.W) (hl : ∀ ρ S ds S', a ρ S = .ok ds S' → ds.length = n) (ha : PA X (e :: es) (rdA B a)) (hdb : (x == ("__debug__" : Str)) = false := by decide) (he : starEach (e :: es) X.env = (false, eval e X.env) :: starEach es X.env := by rfl)
    (hpl : (backTo pos (starEach es X.env)).any (·.1) = false := by rfl) : PE X (.Call (.Name x p) (e :: es) [] pos) (rdE B (mCall m a)) :=
  PE.imp (pe_callG FO hr gd hg hm hk hb tk ha hdb he hpl) fun σ H Q ⟨ρ, S, θ, R0, rs, f⟩ => ⟨ρ, S, θ, R0, rs, Fin.bind f fun ds S1 θ1 H1 vs q e1 R1 r1 f1 =>
    call_sp (G := B.G) (F := B.F) (W := B.W) (σ := σ) hB.1 hB.2.1 hB.2.2.1 hB.2.2.2.1 hB.2.2.2.2 R1 r1 (by rw [← r1.length]; exact hl _ _ _ _ q) f1⟩
end
end DM

namespace DM
open PySem PySem.Spec L2
open PyProof.Rows hiding St

section
variable {X : Cx} {B : Bv} {pos : Pos}
theorem PI.or {tg e : Expr} {t t' : TI} (h : PI X tg e t) (h' : PI X tg e t') : PI X tg e (fun σ H R => t σ H R ∨ t' σ H R) := ⟨fun pins s σ H R I q => q.elim (h.run pins s σ H R I) (h'.run pins s σ H R I)⟩
def nxTup (ds : List D) : Nx := fun i _ => some ds[i]?
def nxList (d : D) : Nx := fun i S => (getL d S).map (·[i]?)
def nxStr (s : Str) : Nx := fun i _ => some (s.cps[i]?.map fun c => .str ⟨#[c]⟩)
def nxRng (lo c : Int) (n : Nat) : Nx := fun i _ => some (if i < n then some (.int (lo + i * c)) else none)
theorem ri_tup {θ : List Addr} {H : Hp} {d0 : D} {ds : List D} {a : Addr} (hK : B.G.K = X.K) (k : tupOf d0 = some ds) (r : RD B.G θ H d0 (.ref a)) : RI B θ H (nxTup ds) (Itt X.K a) := by
  intro i θ' S' H' e R0
  obtain ⟨a', xs, ea, h1, h2⟩ := tupOf_ok (r.ext e) k
  cases ea
  · rw [hK] at h1
    refine ⟨fun q => ⟨xs, h1, ?_⟩, fun d q => ?_⟩
    · have q' : ds[i]? = none := Option.some.inj q
      rw [← h2.length]
      exact List.getElem?_eq_none_iff.mp q'
    · have q' : ds[i]? = some d := Option.some.inj q
      obtain ⟨v, e1, r1⟩ := h2.get q'
      refine ⟨⟨xs, v, h1, e1⟩, fun x H'' y => ?_⟩
      obtain ⟨rfl, y⟩ := y
      have := y xs h1
      rw [e1] at this
      cases this
      exact ⟨.refl, R0, r1⟩
theorem getL_ref {G : Gv} {F : Fr0} {θ : List Addr} {S : Store} {H : Hp} {d : D} {a : Addr} {ds : List D} (R0 : Rel G F θ S H) (r : RD G θ H d (.ref a)) (e : getL d S = some ds) : ∃ xs, SqL G.K H a xs ∧ RDs G θ H ds xs := by
  obtain ⟨a', xs, e1, e2, e3⟩ := getL_ok R0 r e
  cases e1
  exact ⟨xs, e2, e3⟩
theorem ri_list {θ : List Addr} {H : Hp} {d : D} {a : Addr} (hK : B.G.K = X.K) (r : RD B.G θ H d (.ref a)) : RI B θ H (nxList d) (Itl X.K a) := by
  intro i θ' S' H' e R0
  have r' := r.ext e
  refine ⟨fun q => ?_, fun d1 q => ?_⟩
  · obtain ⟨ds, e1, e2⟩ := map_some q
    obtain ⟨xs, h1, h2⟩ := getL_ref R0 r' e1
    rw [hK] at h1
    exact ⟨xs, h1, by rw [← h2.length]; exact List.getElem?_eq_none_iff.mp e2⟩
  · obtain ⟨ds, e1, e2⟩ := map_some q
    obtain ⟨xs, h1, h2⟩ := getL_ref R0 r' e1
    rw [hK] at h1
    obtain ⟨v, e3, r1⟩ := h2.get e2
    refine ⟨⟨xs, v, h1, e3⟩, fun x H'' y => ?_⟩
    obtain ⟨rfl, y⟩ := y
    have := y xs h1
    rw [e3] at this
    cases this
    exact ⟨.refl, R0, r1⟩
def iterD (d : D) (S : Store) : R Nx := match d with
  | .tup ds => .ok (nxTup ds) S
  | .pr ds => .ok (nxTup ds) S
  | .str s => .ok (nxStr s) S
  | d => match getL d S with
    | some _ => .ok (nxList d) S
    | none => .bad
def mIter (a : M D) : M Nx := fun ρ S => (a ρ S).bind iterD
theorem di_seq {tg e : Expr} {a : M D} (hK : B.G.K = X.K) (ha : PE X e (rdE B a)) : PI X tg e (rdI B (mIter a)) :=
  PI.imp (PI.or (pi_tup ha) (PI.or (pi_str ha) (pi_list ha))) fun σ H R ⟨ρ, S, θ, R0, rs, f⟩ => by
    cases q : a ρ S with
    | bad => have f' : Fin B (RI B) σ θ H ((a ρ S).bind iterD) R := f; rw [q] at f'; exact f'.elim
    | exc x S1 =>
      exact .inl ⟨ρ, S, θ, R0, rs, Fin.bind f fun d S2 θ1 H1 v q2 => by rw [q] at q2; cases q2⟩
    | ok d S1 =>
      have lst : (∀ ds, d ≠ .tup ds) → (∀ s, d ≠ .str s) → iterD d S1 = (match getL d S1 with | some _ => .ok (nxList d) S1 | none => .bad) → iList X.K (rdE B a) σ H R := fun n1 n2 hi =>
        ⟨ρ, S, θ, R0, rs, Fin.bind f fun d2 S2 θ1 H1 v q2 e1 R1 r1 f1 => by
          rw [q] at q2
          cases q2
          rw [hi] at f1
          cases q3 : getL d S1 with
          | none => rw [q3] at f1; exact f1.elim
          | some ds =>
            rw [q3] at f1
            obtain ⟨a', xs, rfl, h1, h2⟩ := getL_ok R1 r1 q3
            exact ⟨a', rfl, ⟨xs, hK ▸ h1⟩, Fin.ok f1 .refl R1 (ri_list hK r1)⟩⟩
      cases d with
      | tup ds =>
        refine .inl ⟨ρ, S, θ, R0, rs, Fin.bind f fun d2 S2 θ1 H1 v q2 e1 R1 r1 f1 => ?_⟩
        rw [q] at q2
        cases q2
        have r2 := r1
        cases r1 with
        | tup h1 h2 => exact ⟨_, rfl, ⟨_, hK ▸ h1.sq⟩, Fin.ok f1 .refl R1 (ri_tup hK rfl r2)⟩
      | pr ds =>
        refine .inl ⟨ρ, S, θ, R0, rs, Fin.bind f fun d2 S2 θ1 H1 v q2 e1 R1 r1 f1 => ?_⟩
        rw [q] at q2
        cases q2
        have r2 := r1
        cases r1 with
        | pr h1 h2 => exact ⟨_, rfl, ⟨_, hK ▸ h1⟩, Fin.ok f1 .refl R1 (ri_tup hK rfl r2)⟩
      | str s =>
        refine .inr (.inl ⟨ρ, S, θ, R0, rs, Fin.bind f fun d2 S2 θ1 H1 v q2 e1 R1 r1 f1 => ?_⟩)
        rw [q] at q2
        cases q2
        cases r1
        refine ⟨s, rfl, Fin.ok f1 .refl R1 fun i θ' S' H' e R2 => ⟨fun q => ?_, fun d q => ?_⟩⟩
        · have q' : (s.cps[i]?.map fun c => D.str ⟨#[c]⟩) = none := Option.some.inj q
          show s.cps.size ≤ i
          rw [Option.map_eq_none_iff] at q'
          exact Array.getElem?_eq_none_iff.mp q'
        · have q' : (s.cps[i]?.map fun c => D.str ⟨#[c]⟩) = some d := Option.some.inj q
          obtain ⟨c, h1, rfl⟩ := map_some q'
          refine ⟨(Array.getElem?_eq_some_iff.mp h1).1, fun x H'' y => ?_⟩
          obtain ⟨rfl, c', h2, rfl⟩ := y
          rw [h1] at h2
          cases h2
          exact ⟨.refl, R2, .str _⟩
      | _ => exact .inr (.inr (lst (fun _ z => by cases z) (fun _ z => by cases z) rfl))
def small62 (j : Int) : Bool := decide (-4611686018427387904 ≤ j) && decide (j < 4611686018427387904)
theorem small62_ok {j : Int} (h : small62 j = true) : -(2 ^ 62) ≤ j ∧ j < 2 ^ 62 := by
  unfold small62 at h
  rw [Bool.and_eq_true] at h
  exact ⟨of_decide_eq_true h.1, of_decide_eq_true h.2⟩
theorem ri_rng {θ : List Addr} {H : Hp} {lo : Int} {n : Nat} : RI B θ H (nxRng lo 1 n) (Itr lo n) := by
  intro i θ' S' H' e R0
  refine ⟨fun q => ?_, fun d q => ?_⟩
  · have q' : (if i < n then some (D.int (lo + i * 1)) else none) = none := Option.some.inj q
    by_cases h : i < n
    · rw [if_pos h] at q'; cases q'
    · exact Nat.le_of_not_lt h
  · have q' : (if i < n then some (D.int (lo + i * 1)) else none) = some d := Option.some.inj q
    by_cases h : i < n
    · rw [if_pos h] at q'
      cases q'
      refine ⟨h, fun x H'' y => ?_⟩
      obtain ⟨rfl, rfl⟩ := y
      rw [Int.mul_one]
      exact ⟨.refl, R0, .int _⟩
    · rw [if_neg h] at q'; cases q'
def rngD (ds : List D) (S : Store) : R Nx := match ds with
  | [.int j] => if small62 j then .ok (nxRng 0 1 j.toNat) S else .bad
  | [.int i, .int j] => if small62 i && small62 j then .ok (nxRng i 1 (j - i).toNat) S else .bad
  | _ => .bad
def mRng (a : M (List D)) : M Nx := fun ρ S => (a ρ S).bind rngD
theorem di_rng1 {tg a : Expr} {ma : M (List D)} {p : Pos} (hg : Gl X "range") (hm : X.mg "range" = none) (ha : PA X [a] (rdA B ma)) (hs : starEach [a] X.env = [(false, eval a X.env)] := by rfl) (hl : ∀ ρ S ds S', ma ρ S = .ok ds S' → ds.length = 1) :
    PI X tg (.Call (.Name "range" p) [a] [] pos) (rdI B (mRng ma)) :=
  PI.imp (pi_range1 hg hm ha hs) fun σ H R ⟨ρ, S, θ, R0, rs, f⟩ => ⟨ρ, S, θ, R0, rs, Fin.bind f fun ds S1 θ1 H1 vs q e1 R1 r1 f1 => by
    have l := hl _ _ _ _ q
    cases r1 with
    | nil => cases l
    | @cons d v dr vr r1 r2 =>
      cases r2 with
      | cons => simp at l
      | nil =>
        cases d with
        | int j =>
          cases r1
          obtain ⟨c, f2⟩ := Fin.ite (c := small62 j = true) f1
          obtain ⟨h1, h2⟩ := small62_ok c
          exact ⟨j, rfl, h1, h2, Fin.ok f2 .refl R1 ri_rng⟩
        | _ => exact f1.elim⟩
theorem di_rng2 {tg a b : Expr} {ma : M (List D)} {p : Pos} (hg : Gl X "range") (hm : X.mg "range" = none) (ha : PA X [a, b] (rdA B ma)) (hl : ∀ ρ S ds S', ma ρ S = .ok ds S' → ds.length = 2) (hs : starEach [a, b] X.env = [(false, eval a X.env), (false, eval b X.env)] := by rfl) (hs2 : starEach [b] X.env = [(false, eval b X.env)] := by rfl) :
    PI X tg (.Call (.Name "range" p) [a, b] [] pos) (rdI B (mRng ma)) :=
  PI.imp (pi_range2 hg hm ha hs hs2) fun σ H R ⟨ρ, S, θ, R0, rs, f⟩ => ⟨ρ, S, θ, R0, rs, Fin.bind f fun ds S1 θ1 H1 vs q e1 R1 r1 f1 => by
    have l := hl _ _ _ _ q
    cases r1 with
    | nil => cases l
    | @cons d v dr vr r1 r2 =>
      cases r2 with
      | nil => simp at l
      | @cons d2 v2 dr2 vr2 r2 r3 =>
        cases r3 with
        | cons => simp at l
        | nil =>
          cases d with
          | int i =>
            cases d2 with
            | int j =>
              cases r1
              cases r2
              obtain ⟨c, f2⟩ := Fin.ite (c := (small62 i && small62 j) = true) f1
              rw [Bool.and_eq_true] at c
              obtain ⟨h1, h2⟩ := small62_ok c.1
              obtain ⟨h3, h4⟩ := small62_ok c.2
              exact ⟨i, j, rfl, ⟨h1, h2, h3, h4⟩, Fin.ok f2 .refl R1 ri_rng⟩
            | _ => exact f1.elim
          | _ => exact f1.elim⟩

/-- tests of a clause -/
def mYes : M Bool := fun _ S => .ok true S
theorem dts_nil : PTs X [] (rdT B mYes) := ⟨fun pins s σ H Q I ⟨ρ, S, θ, R0, rs, f⟩ => pts_nil.run pins s σ H Q I (f.ok .refl R0 rfl)⟩
theorem dts_one {c : Expr} {m : M Bool} (h : PT X c (rdT B m)) : PTs X [c] (rdT B m) := pts_one h
def lcEnd (n : Nat) (y : D) (S : Store) (k : Store → R D) : R D := match S[n]? with
  | some (.rev acc c) => if c < 16777216 then k (S.set n (.rev (y :: acc) (c + 1))) else .bad
  | _ => .bad
def lcDone (n : Nat) (S : Store) : R D := match S[n]? with
  | some (.rev acc _) => .ok (.ref n) (S.set n (.lst acc.reverse))
  | _ => .bad
def lcN (nx : Nx) (g : TM) (t : M Bool) (e : M D) (ρ : Env) (n : Nat) : Nat → Nat → Store → R D
  | 0, _, _ => .bad
  | m + 1, i, S => match nx i S with
    | some (some d) => (g d ρ S).noexc.bind fun ρ1 S1 => (t ρ1 S1).noexc.bind fun k S2 =>
        if k then (e ρ1 S2).noexc.bind fun y S3 => lcEnd n y S3 (lcN nx g t e ρ n m (i + 1)) else lcN nx g t e ρ n m (i + 1) S2
    | some none => lcDone n S
    | none => .bad
def mLc (it : M Nx) (g : TM) (t : M Bool) (e : M D) (vs : List Nat) : M D := fun ρ S => (it ρ S).bind fun nx S1 => lcN nx g t e (wipeE ρ vs) S1.length fuel 0 (S1 ++ [.rev [] 0])
theorem wipe_agr {vs : List Nat} {σ σ' : St} (h : Agr (· ∈ vs) σ σ') : wipe σ' vs = wipe σ vs := by
  apply List.ext_getElem?
  intro j
  by_cases hj : j ∈ vs
  · have go : ∀ (vs : List Nat) (σ : St), j ∈ vs → (wipe σ vs)[j]? = if j < σ.length then some none else none := by
      intro vs
      induction vs with
      | nil => intro σ h; simp at h
      | cons v vs ih =>
        intro σ h
        show ((wipe σ vs).set v none)[j]? = _
        by_cases hv : v = j
        · subst hv
          rw [List.getElem?_set]
          rw [if_pos rfl, wipe_length]
        · rw [List.getElem?_set_ne hv]
          rcases List.mem_cons.mp h with h | h
          · exact absurd h.symm hv
          · exact ih σ h
    rw [go vs σ' hj, go vs σ hj, h.len]
  · rw [wipe_out hj, wipe_out hj, h.eq j hj]
theorem Agr.wiped {vs : List Nat} {σ : St} : Agr (· ∈ vs) σ (wipe σ vs) := ⟨wipe_length _ _, fun j hj => wipe_out hj⟩
/-- the fixed things within a comprehension's block: nothing is let out -/
abbrev Bv.blk (B : Bv) : Bv := { B with W := fun _ _ _ _ => False }
theorem Fin.toBlk {α β : Type} {Rl : List Addr → Hp → α → β → Prop} {σ σ' : St} {θ : List Addr} {H : Hp} {r : R α} {Q : β → Hp → Prop} (h : Fin B Rl σ θ H r.noexc Q) : Fin B.blk Rl σ' θ H r Q := by
  cases r with
  | ok a S => exact h
  | exc x S => exact h.elim
  | bad => exact h
theorem lc_read {it : M Nx} {g : TM} {t : M Bool} {e : M D} {vs : List Nat} (σ : St) (H : Hp) (Q : VK) (h : rdE B (mLc it g t e vs) σ H Q) :
    tLc (rdI B it) (rdG B.blk (· ∈ vs) g) (rdT B.blk t) (rdE B.blk e) vs σ H Q := by
  obtain ⟨ρ, S, θ, R0, rs, f⟩ := h
  refine ⟨ρ, S, θ, R0, rs, Fin.bind f fun nx S1 θ1 H1 J _ e1 R1 r1 f1 => fun Da hD => ?_⟩
  have e2 : Ext θ1 H1 (θ1 ++ [Da]) (upd H1 Da (.lst [])) := ext_cell hD
  have R2 : Rel B.G B.F (θ1 ++ [Da]) (S1 ++ [.rev [] 0]) (upd H1 Da (.lst [])) := R1.allocC hD ⟨[], upd_same, .nil, Nat.le_refl _⟩
  have rsw : RS B.G (θ1 ++ [Da]) (upd H1 Da (.lst [])) (wipeE ρ vs) (wipe σ vs) := (((rs.ext e1).ext e2).wipe vs)
  have aD : (θ1 ++ [Da])[S1.length]? = some Da := by rw [← R1.len, List.getElem?_concat_length]
  refine ⟨fun i m H' => ∃ S θ, Ext (θ1 ++ [Da]) (upd H1 Da (.lst [])) θ H' ∧ Rel B.G B.F θ S H' ∧ Fin B (RD B.G) σ θ H' (lcN nx g t e (wipeE ρ vs) S1.length m i S) Q,
    ⟨fuel, _, _, .refl, R2, f1.ext e2⟩, ?_⟩
  rintro i m H' ⟨S, θ, e3, R3, f3⟩
  cases m with
  | zero => exact f3.elim
  | succ m =>
    have ri := (r1.ext e2) i θ S H' e3 R3
    have rs3 := rsw.ext e3
    have f3' : Fin B (RD B.G) σ θ H' (match nx i S with
      | some (some d) => (g d (wipeE ρ vs) S).noexc.bind fun ρ1 S1' => (t ρ1 S1').noexc.bind fun k S2 =>
        if k then (e ρ1 S2).noexc.bind fun y S3 => lcEnd S1.length y S3 (lcN nx g t e (wipeE ρ vs) S1.length m (i + 1)) else lcN nx g t e (wipeE ρ vs) S1.length m (i + 1) S2
      | some none => lcDone S1.length S
      | none => .bad) Q := f3
    cases q : nx i S with
    | none => rw [q] at f3'; exact f3'.elim
    | some o =>
      cases o with
      | none =>
        rw [q] at f3'
        replace f3' : Fin B (RD B.G) σ θ H' (lcDone S1.length S) Q := f3'
        unfold lcDone at f3'
        refine .inl ⟨ri.1 q, ?_⟩
        have hDa := e3.get aD
        obtain ⟨acc, k0, ha⟩ : ∃ acc k0, S[S1.length]? = some (.rev acc k0) := by
          cases q9 : S[S1.length]? with
          | none => rw [q9] at f3'; exact f3'.elim
          | some c =>
            cases c with
            | lst _ => rw [q9] at f3'; exact f3'.elim
            | dct _ => rw [q9] at f3'; exact f3'.elim
            | rev acc k0 => exact ⟨acc, k0, rfl⟩
        rw [ha] at f3'
        obtain ⟨xs, g1, g2, _⟩ := R3.cells _ _ _ hDa ha
        have ew : upd H' Da (.lst xs) = H' := by
          funext b
          by_cases hb : b = Da
          · subst hb; rw [upd_same, g1]
          · rw [upd_ne hb]
        have w := R3.writeC (o := .lst xs) (c1 := .lst acc.reverse) hDa ha fun e => ⟨xs, upd_same, g2.ext e⟩
        rw [ew] at w
        exact Fin.ok f3' w.1 w.2 (.ref hDa)
      | some d =>
        rw [q] at f3'
        replace f3' : Fin B (RD B.G) σ θ H' ((g d (wipeE ρ vs) S).noexc.bind fun ρ1 S1' => (t ρ1 S1').noexc.bind fun k S2 =>
          if k then (e ρ1 S2).noexc.bind fun y S3 => lcEnd S1.length y S3 (lcN nx g t e (wipeE ρ vs) S1.length m (i + 1)) else lcN nx g t e (wipeE ρ vs) S1.length m (i + 1) S2) Q := f3'
        obtain ⟨go, yl⟩ := ri.2 d q
        refine .inr ⟨go, fun H' => ∃ S θ, Ext (θ1 ++ [Da]) (upd H1 Da (.lst [])) θ H' ∧ Rel B.G B.F θ S H' ∧ Fin B (RD B.G) σ θ H' (lcN nx g t e (wipeE ρ vs) S1.length m (i + 1) S) Q, fun H' h => ⟨m, Nat.lt_succ_self _, h⟩, fun x H4 hy => ?_⟩
        obtain ⟨e4, R4, r4⟩ := yl x H4 hy
        refine ⟨wipeE ρ vs, S, θ, d, R4, rs3.ext e4, r4, Fin.toBlk (B := B) (σ := σ) (Fin.bind (f3'.ext e4) fun ρ5 S5 θ5 H5 σ5 _ e5 R5 rs5 f5 => ?_)⟩
        refine ⟨(wipe_agr rs5.2).trans (wipe_agr Agr.wiped), ρ5, S5, θ5, R5, rs5.1, Fin.toBlk (B := B) (σ := σ) (Fin.bind f5 fun k S6 θ6 H6 b _ e6 R6 r6 f6 => ?_)⟩
        subst r6
        have e36 := ((e3.trans e4).trans e5).trans e6
        cases k with
        | true =>
          rw [if_pos rfl]
          rw [if_pos rfl] at f6
          refine ⟨ρ5, S6, θ6, R6, rs5.1.ext e6, Fin.toBlk (B := B) (σ := σ) (Fin.bind f6 fun y S7 θ7 H7 v _ e7 R7 r7 f7 => ?_)⟩
          unfold lcEnd at f7
          cases q7 : S7[S1.length]? with
          | none => rw [q7] at f7; exact f7.elim
          | some c =>
            cases c with
            | lst _ => rw [q7] at f7; exact f7.elim
            | dct _ => rw [q7] at f7; exact f7.elim
            | rev acc7 c7 =>
              rw [q7] at f7
              obtain ⟨hi, f8⟩ := Fin.ite (c := c7 < 16777216) f7
              have hDa := (e36.trans e7).get aD
              obtain ⟨xs, g1, g2, g3⟩ := R7.cells _ _ _ hDa q7
              refine ⟨xs, g1, ?_, ?_⟩
              · rw [← g2.length, List.length_reverse]
                exact Nat.lt_of_le_of_lt g3 hi
              · have w := R7.writeC (o := .lst (xs ++ [v])) (c1 := .rev (y :: acc7) (c7 + 1)) hDa q7 fun e => ⟨xs ++ [v], upd_same, by
                  rw [List.reverse_cons]
                  exact (g2.append (.cons r7 .nil)).ext e, by simpa using g3⟩
                exact ⟨_, θ7, (e36.trans e7).trans w.1, w.2, f8.ext w.1⟩
        | false =>
          rw [if_neg Bool.false_ne_true] at f6
          rw [if_neg Bool.false_ne_true]
          exact ⟨S6, θ6, e36, R6, f6⟩
theorem de_lc {elt tg iter : Expr} {ifs : List Expr} {scope : Scope} {own : List (Str × Nat)} {it : M Nx} {g : TM} {t : M Bool} {e : M D} (hc : X.calm = true) (hN : X.N.Nodup) (hi : PI X tg iter (rdI B it)) (ok : BlkOk X.N X.env.scope scope own)
    (hg : ∀ s H C cl fp, PG (X.blk s H scope (compEnvC scope cl C X.env) fp) tg (rdG B.blk (· ∈ own.map (·.2)) g)) (ht : ∀ s H C cl fp, PTs (X.blk s H scope (compEnvC scope cl C X.env) fp) ifs (rdT B.blk t))
    (he : ∀ s H C cl fp, PE (X.blk s H scope (compEnvC scope cl C X.env) fp) elt (rdE B.blk e)) (hs : ∀ x, foldedSetIterable iter X.env x = pure x := by intro _; rfl) :
    PE X (.ListComp elt [⟨tg, iter, ifs, 0⟩] scope pos) (rdE B (mLc it g t e (own.map (·.2)))) :=
  PE.imp (pe_lc hc hN hi ok hg ht he hs) lc_read
theorem ds_setLc {i : Nat} {y : Str} {py spos : Pos} {elt tg iter : Expr} {ifs : List Expr} {scope : Scope} {own : List (Str × Nat)} {it : M Nx} {g : TM} {t : M Bool} {e : M D} (hc : X.calm = true) (hN : X.N.Nodup) (hy : X.N[i]? = some y) (hyl : X.env.scope.names.lookup y = some .local)
    (hw : swapsWith (.ListComp elt [⟨tg, iter, ifs, 0⟩] scope pos) (some (.Name y py)) spos.line X.env = pure true) (hi : PI X tg iter (rdI B it)) (ok : BlkOk X.N X.env.scope scope own)
    (hg : ∀ s H C cl fp, PG (X.blk s H scope (compEnvC scope cl C X.env) fp) tg (rdG B.blk (· ∈ own.map (·.2)) g)) (ht : ∀ s H C cl fp, PTs (X.blk s H scope (compEnvC scope cl C X.env) fp) ifs (rdT B.blk t))
    (he : ∀ s H C cl fp, PE (X.blk s H scope (compEnvC scope cl C X.env) fp) elt (rdE B.blk e)) (hs : ∀ x, foldedSetIterable iter X.env x = pure x := by intro _; rfl) :
    PS X (.Assign [.Name y py] (.ListComp elt [⟨tg, iter, ifs, 0⟩] scope pos) spos) (rdS B (sSet i (mLc it g t e (own.map (·.2))))) :=
  PS.imp (ps_setLc hc hN hy hyl hw hi ok hg ht he hs) fun D σ H ⟨ρ, S, θ, R0, rs, f⟩ => lc_read σ H _ ⟨ρ, S, θ, R0, rs, FinS.bind rs f fun d S1 θ1 H1 v _ e1 R1 r1 f1 => f1 θ1 _ H1 .refl R1 ((rs.ext e1).set r1 i)⟩
end
end DM

namespace DM
open PySem PySem.Spec L2
open PyProof.Rows hiding St

section
variable {X : Cx} {B : Bv} {pos : Pos}
theorem bind_assoc {α β γ : Type} (r : R α) (f : α → Store → R β) (g : β → Store → R γ) : (r.bind f).bind g = r.bind fun a S => (f a S).bind g := by cases r <;> rfl

def LenA (a : M (List D)) (n : Nat) : Prop := ∀ ρ S ds S', a ρ S = .ok ds S' → ds.length = n
theorem len_nil : LenA mNil 0 := fun ρ S ds S' h => by cases h; rfl
theorem len_cons {a : M D} {r : M (List D)} {n : Nat} (h : LenA r n) : LenA (mCons a r) (n + 1) := fun ρ S ds S' q => by
  unfold mCons at q
  cases q1 : a ρ S with
  | ok x S1 =>
    rw [q1] at q
    replace q : ((r ρ S1).bind fun xs S2 => R.ok (x :: xs) S2) = .ok ds S' := q
    cases q2 : r ρ S1 with
    | ok xs S2 =>
      rw [q2] at q
      replace q : R.ok (x :: xs) S2 = .ok ds S' := q
      cases q
      exact congrArg (· + 1) (h _ _ _ _ q2)
    | exc => rw [q2] at q; cases q
    | bad => rw [q2] at q; cases q
  | exc => rw [q1] at q; cases q
  | bad => rw [q1] at q; cases q

theorem de_chain {op op' : CmpOp} {r r' : R2} {c c' : C2} {a b e : Expr} {ma mb me : M D} (ho : OpR X (compareOp op) r) (ho' : OpR X (compareOp op') r') (hd : DenC B r c) (hd' : DenC B r' c') (ha : PE X a (rdE B ma)) (hb : PE X b (rdE B mb)) (he : PE X e (rdE B me))
    (hm : lastMarks [op, op'] [b, e] = false := by with_unfolding_all rfl) : PE X (.Compare a [op, op'] [b, e] pos) (rdE B (mChain (cmpD c) (cmpD c') ma mb me)) :=
  PE.imp (pe_chain ho ho' ha hb he hm) fun σ H Q ⟨ρ, S, θ, R0, rs, f⟩ => ⟨ρ, S, θ, R0, rs, Fin.bind f fun x S1 θ1 H1 v _ e1 R1 r1 f1 => ⟨ρ, S1, θ1, R1, rs.ext e1, Fin.bind f1 fun y S2 θ2 H2 u _ e2 R2 r2 f2 => by
    cases q : c x y S2 with
    | none =>
      have e : cmpD c x y S2 = .bad := by unfold cmpD; rw [q]
      rw [e] at f2; exact f2.elim
    | some k =>
      have e : cmpD c x y S2 = .ok (.bl k) S2 := by unfold cmpD; rw [q]
      rw [e] at f2
      refine hd θ2 S2 H2 x y v u k _ R2 (r1.ext e2) r2 q ⟨k, rfl, ?_⟩
      cases k with
      | false => exact f2.ok .refl R2 (.bl _)
      | true =>
        refine ⟨ρ, S2, θ2, R2, (rs.ext e1).ext e2, Fin.bind f2 fun z S3 θ3 H3 w _ e3 R3 r3 f3 => ?_⟩
        exact hd'.d2 σ θ3 S3 H3 y z u w Q R3 (r2.ext e3) r3 f3⟩⟩
theorem dt_chain {op op' : CmpOp} {r r' : R2} {c c' : C2} {a b e : Expr} {ma mb me : M D} (ho : OpR X (compareOp op) r) (ho' : OpR X (compareOp op') r') (hd : DenC B r c) (hd' : DenC B r' c') (ha : PE X a (rdE B ma)) (hb : PE X b (rdE B mb)) (he : PE X e (rdE B me))
    (hm : lastMarks [op, op'] [b, e] = false := by with_unfolding_all rfl) : PT X (.Compare a [op, op'] [b, e] pos) (rdT B (mTest (mChain (cmpD c) (cmpD c') ma mb me))) :=
  PT.imp (pt_chain ho ho' ha hb he hm) fun σ H Q ⟨ρ, S, θ, R0, rs, f⟩ => by
    have f0 : Fin B (fun _ _ a b => a = b) σ θ H ((ma ρ S).bind fun x S1 => (mb ρ S1).bind fun y S2 => ((cmpD c x y S2).bind fun z S3 => match z with
      | .bl true => (me ρ S3).bind fun w S4 => cmpD c' y w S4
      | .bl false => .ok (.bl false) S3
      | _ => .bad).bind testD) Q := by
      have e : mTest (mChain (cmpD c) (cmpD c') ma mb me) ρ S = (ma ρ S).bind fun x S1 => (mb ρ S1).bind fun y S2 => ((cmpD c x y S2).bind fun z S3 => match z with
        | .bl true => (me ρ S3).bind fun w S4 => cmpD c' y w S4
        | .bl false => .ok (.bl false) S3
        | _ => .bad).bind testD := by
        unfold mTest mChain
        rw [bind_assoc]
        congr
        funext x S1
        rw [bind_assoc]
        all_goals rfl
      rw [← e]; exact f
    refine ⟨ρ, S, θ, R0, rs, Fin.bind f0 fun x S1 θ1 H1 v _ e1 R1 r1 f1 => ⟨ρ, S1, θ1, R1, rs.ext e1, Fin.bind f1 fun y S2 θ2 H2 u _ e2 R2 r2 f2 => ?_⟩⟩
    cases q : c x y S2 with
    | none =>
      have e : cmpD c x y S2 = .bad := by unfold cmpD; rw [q]
      rw [e] at f2; exact f2.elim
    | some k =>
      have e : cmpD c x y S2 = .ok (.bl k) S2 := by unfold cmpD; rw [q]
      rw [e] at f2
      refine hd θ2 S2 H2 x y v u k _ R2 (r1.ext e2) r2 q ⟨k, rfl, ?_⟩
      cases k with
      | false => exact ⟨false, rfl, f2.ok .refl R2 rfl⟩
      | true =>
        replace f2 : Fin B (fun _ _ a b => a = b) σ θ2 H2 (((me ρ S2).bind fun w S4 => cmpD c' y w S4).bind testD) Q := f2
        rw [bind_assoc] at f2
        refine ⟨ρ, S2, θ2, R2, (rs.ext e1).ext e2, Fin.bind f2 fun z S3 θ3 H3 w _ e3 R3 r3 f3 => ?_⟩
        cases q2 : c' y z S3 with
        | none =>
          have e : cmpD c' y z S3 = .bad := by unfold cmpD; rw [q2]
          rw [e] at f3; exact f3.elim
        | some k2 =>
          have e : cmpD c' y z S3 = .ok (.bl k2) S3 := by unfold cmpD; rw [q2]
          rw [e] at f3
          exact hd' θ3 S3 H3 y z u w k2 _ R3 (r2.ext e3) r3 q2 ⟨k2, rfl, f3.ok .refl R3 rfl⟩
/-- other orders of ints -/
theorem den_le : DenC B (rI0 fun i j => .bl (decide (i ≤ j))) (ltI fun i j => decide (i ≤ j)) := den_ltI
theorem den_gt : DenC B (rI0 fun i j => .bl (decide (j < i))) (ltI fun i j => decide (j < i)) := den_ltI
theorem den_ge : DenC B (rI0 fun i j => .bl (decide (j ≤ i))) (ltI fun i j => decide (j ≤ i)) := den_ltI

theorem rds_atI {G : Gv} {θ : List Addr} {H : Hp} {ds : List D} {vs : List V} {i : Int} {d : D} (r : RDs G θ H ds vs) (h : atI ds i = some d) : ∃ v, atI vs i = some v ∧ RD G θ H d v := by
  unfold atI at h ⊢
  rw [← r.length]
  cases q : ixN ds.length i with
  | none => rw [q] at h; cases h
  | some j =>
    rw [q] at h
    obtain ⟨v, h1, h2⟩ := r.get (i := j) (d := d) h
    exact ⟨v, h1, h2⟩
def itemD : O2
  | .str s, .int i, S => if s.length ≤ sizeLine then (match atI s.cps.toList i with
    | some c => .ok (.str ⟨#[c]⟩) S
    | none => .bad) else .bad
  | d, .int i, S => match getSeq d S with
    | some ds => match atI ds i with
      | some x => .ok x S
      | none => .bad
    | none => .bad
  | _, _, _ => .bad
theorem den_item (hK : B.G.K = X.K) : Den2 B (rIx X.K) itemD := by
  intro σ θ S H d e x y Q R0 r1 r2 f
  have seq : ∀ i, e = .int i → itemD d e S = (match getSeq d S with | some ds => (match atI ds i with | some x => .ok x S | none => .bad) | none => .bad) → rIx X.K x y H Q := fun i he q => by
    rw [q] at f
    subst he
    cases r2
    cases q1 : getSeq d S with
    | none => rw [q1] at f; exact f.elim
    | some ds =>
      rw [q1] at f
      replace f : Fin B (RD B.G) σ θ H (match atI ds i with | some x => .ok x S | none => .bad) Q := f
      cases q2 : atI ds i with
      | none => rw [q2] at f; exact f.elim
      | some z =>
        rw [q2] at f
        obtain ⟨a, xs, rfl, k, rs⟩ := getSeq_ok R0 r1 q1
        obtain ⟨v, h1, h2⟩ := rds_atI rs q2
        rw [hK] at k
        rcases k with k | k
        · exact .inl ⟨a, xs, i, v, rfl, rfl, k, h1, f.ok .refl R0 h2⟩
        · exact .inr (.inl ⟨a, xs, i, v, rfl, rfl, k, h1, f.ok .refl R0 h2⟩)
  cases e with
  | int i =>
    cases d with
    | str s =>
      cases r1; cases r2
      obtain ⟨hz, f⟩ := Fin.ite (c := s.length ≤ sizeLine) f
      cases q : atI s.cps.toList i with
      | none => rw [q] at f; exact f.elim
      | some c =>
        rw [q] at f
        exact .inr (.inr ⟨s, i, c, rfl, rfl, hz, q, f.ok .refl R0 (.str _)⟩)
    | _ => exact seq i rfl rfl
  | _ => cases d <;> exact f.elim
theorem de_item {a b : Expr} {ma mb : M D} (hK : B.G.K = X.K) (ha : PE X a (rdE B ma)) (hb : PE X b (rdE B mb)) (hp : PlainIx b) : PE X (.Subscript a b pos) (rdE B (mBin itemD ma mb)) :=
  PE.imp (pe_ix ix_seq ha hb hp) (imp_bin (den_item hK))

abbrev rdO (B : Bv) (m : M (Option Int)) : TO := rd B (fun _ _ a b => a = b) m
def mPart (a : M D) : M (Option Int) := fun ρ S => (a ρ S).bind fun x S1 => match x with
  | .int i => .ok (some i) S1
  | _ => .bad
def mNoPart : M (Option Int) := fun _ S => .ok none S
theorem PO.imp {o : Option Expr} {t t' : TO} (h : PO X o t) (k : ∀ σ H Q, t' σ H Q → t σ H Q) : PO X o t' := ⟨fun pins s σ H Q I q => h.run pins s σ H Q I (k σ H Q q)⟩
theorem do_some {e : Expr} {a : M D} (ha : PE X e (rdE B a)) : PO X (some e) (rdO B (mPart a)) :=
  PO.imp (po_some ha) fun σ H Q ⟨ρ, S, θ, R0, rs, f⟩ => ⟨ρ, S, θ, R0, rs, Fin.bind f fun x S1 θ1 H1 v _ e1 R1 r1 f1 => by
    cases x with
    | int i => cases r1; exact ⟨i, rfl, f1.ok .refl R1 rfl⟩
    | _ => exact f1.elim⟩
theorem do_none : PO X none (rdO B mNoPart) := PO.imp po_none fun σ H Q ⟨ρ, S, θ, R0, rs, f⟩ => f.ok .refl R0 rfl
def cutL {α : Type} (xs : List α) (lo hi : Option Int) : List α := (xs.drop (HT.sIx xs.length 0 lo)).take (HT.sIx xs.length xs.length hi - HT.sIx xs.length 0 lo)
theorem rds_cut {G : Gv} {θ : List Addr} {H : Hp} {ds : List D} {vs : List V} (r : RDs G θ H ds vs) (lo hi : Option Int) : RDs G θ H (cutL ds lo hi) (cutV vs lo hi) := by
  unfold cutL cutV
  rw [r.length]
  exact (r.drop _).take _
def sliceD (d : D) (lo hi : Option Int) (S : Store) : R D := match d with
  | .str s => if s.length ≤ sizeLine then .ok (.str (cutS s lo hi)) S else .bad
  | .tup ds => .ok (.pr (cutL ds lo hi)) S
  | .pr ds => .ok (.pr (cutL ds lo hi)) S
  | d => match getL d S with
    | some ds => .ok (.ref S.length) (S ++ [.lst (cutL ds lo hi)])
    | none => .bad
abbrev rSlG (K : PySem.W.Frag) : V → Option Int → Option Int → Hp → VK → Prop := fun x lo hi H Q => rSlL K x lo hi H Q ∨ rSlA K x lo hi H Q ∨ rSlS x lo hi H Q
theorem SlR.or {r r' : V → Option Int → Option Int → Hp → VK → Prop} (h : SlR X r) (h' : SlR X r') : SlR X (fun x lo hi H Q => r x lo hi H Q ∨ r' x lo hi H Q) :=
  fun pins s σ H x v vl vu lo hi sl Q I r1 r2 r3 r4 q => q.elim (h pins s σ H x v vl vu lo hi sl Q I r1 r2 r3 r4) (h' pins s σ H x v vl vu lo hi sl Q I r1 r2 r3 r4)
theorem slR_all : SlR X (rSlG X.K) := SlR.or sl_list (SlR.or sl_tupA sl_str)
theorem cut_full {α : Type} (xs : List α) {lo hi : Option Int} (h : HT.sIx xs.length 0 lo = 0 ∧ HT.sIx xs.length xs.length hi = xs.length) : cutL xs lo hi = xs := by
  unfold cutL
  rw [h.1, h.2]
  simp
theorem den_slice (hK : B.G.K = X.K) {σ : St} {θ : List Addr} {S : Store} {H : Hp} {d : D} {x : V} {lo hi : Option Int} {Q : VK} (R0 : Rel B.G B.F θ S H) (r : RD B.G θ H d x) (f : Fin B (RD B.G) σ θ H (sliceD d lo hi S) Q) : rSlG X.K x lo hi H Q := by
  have lst : sliceD d lo hi S = (match getL d S with | some ds => .ok (.ref S.length) (S ++ [.lst (cutL ds lo hi)]) | none => .bad) → rSlG X.K x lo hi H Q := fun q => by
    rw [q] at f
    cases q1 : getL d S with
    | none => rw [q1] at f; exact f.elim
    | some ds =>
      rw [q1] at f
      obtain ⟨a, xs, rfl, h1, h2⟩ := getL_ok R0 r q1
      rw [hK] at h1
      exact .inl ⟨a, xs, rfl, h1, fun p hp => Fin.ok f (ext_cell hp) (R0.alloc hp (rds_cut h2 lo hi)) (RD.new R0)⟩
  have tp : ∀ {a : Addr} {xs : List V} (ds : List D), SqT B.G.K H a xs → RDs B.G θ H ds xs → Fin B (RD B.G) σ θ H (.ok (.pr (cutL ds lo hi)) S) Q → rSlG X.K (.ref a) lo hi H Q := fun {a xs} ds h1 h2 f => by
    have h1' := h1
    rw [hK] at h1'
    refine .inr (.inl ⟨a, xs, rfl, h1', fun h => ?_, fun h p hp => ?_⟩)
    · rw [← h2.length] at h
      rw [cut_full ds h] at f
      exact f.ok .refl R0 (.pr h1 h2)
    · have e : Ext θ H θ (upd H p (.tup (cutV xs lo hi))) := .of_keep (keep_new hp)
      exact f.ok e (R0.laid hp) (.pr (.inl (.inl upd_same)) ((rds_cut h2 lo hi).ext e))
  cases d with
  | str s =>
    cases r
    obtain ⟨hz, f⟩ := Fin.ite (c := s.length ≤ sizeLine) f
    exact .inr (.inr ⟨s, rfl, hz, f.ok .refl R0 (.str _)⟩)
  | tup ds =>
    obtain ⟨a, xs, rfl, h1, h2⟩ := tupOf_ok r (ds := ds) rfl
    exact tp ds h1 h2 f
  | pr ds =>
    obtain ⟨a, xs, rfl, h1, h2⟩ := tupOf_ok r (ds := ds) rfl
    exact tp ds h1 h2 f
  | _ => exact lst rfl
def mSlice (a : M D) (lo hi : M (Option Int)) : M D := fun ρ S => (a ρ S).bind fun x S1 => (lo ρ S1).bind fun l S2 => (hi ρ S2).bind fun h S3 => sliceD x l h S3
theorem de_slice {e : Expr} {lo hi : Option Expr} {p2 : Pos} {a : M D} {ml mh : M (Option Int)} (hK : B.G.K = X.K) (ha : PE X e (rdE B a)) (hl : PO X lo (rdO B ml)) (hh : PO X hi (rdO B mh)) : PE X (.Subscript e (.Slice lo hi none p2) pos) (rdE B (mSlice a ml mh)) :=
  PE.imp (pe_slice slR_all ha hl hh) fun σ H Q ⟨ρ, S, θ, R0, rs, f⟩ => ⟨ρ, S, θ, R0, rs, Fin.bind f fun x S1 θ1 H1 v _ e1 R1 r1 f1 => ⟨ρ, S1, θ1, R1, rs.ext e1, Fin.bind f1 fun l S2 θ2 H2 l' _ e2 R2 r2 f2 =>
    ⟨ρ, S2, θ2, R2, (rs.ext e1).ext e2, Fin.bind f2 fun h S3 θ3 H3 h' _ e3 R3 r3 f3 => by
      subst r2; subst r3
      exact den_slice hK R3 ((r1.ext e2).ext e3) f3⟩⟩⟩

abbrev Ob := List D → Store → R D
def DenB (B : Bv) (r : List V → Hp → VK → Prop) (o : Ob) : Prop := ∀ (σ : St) (θ : List Addr) (S : Store) (H : Hp) (ds : List D) (vs : List V) (Q : VK), Rel B.G B.F θ S H → RDs B.G θ H ds vs → Fin B (RD B.G) σ θ H (o ds S) Q → r vs H Q
def mBlt (o : Ob) (a : M (List D)) : M D := fun ρ S => (a ρ S).bind o
theorem de_blt {x : Str} {p : Pos} {e : Expr} {es : List Expr} {id : String} {r : List V → Hp → VK → Prop} {o : Ob} {a : M (List D)} (hc : CallR X (.builtin id) r) (hd : DenB B r o) (hg : Gl X x) (hm : X.mg x = none) (hv : bootBuiltins x = some (.builtin id)) (ha : PA X (e :: es) (rdA B a))
    (hn : x ≠ "__name__" := by decide) (hdb : (x == ("__debug__" : Str)) = false := by decide) (he : starEach (e :: es) X.env = (false, eval e X.env) :: starEach es X.env := by rfl) (hpl : (backTo pos (starEach es X.env)).any (·.1) = false := by rfl) : PE X (.Call (.Name x p) (e :: es) [] pos) (rdE B (mBlt o a)) :=
  PE.imp (pe_callB hc hg hm hv ha hn hdb he hpl) fun σ H Q ⟨ρ, S, θ, R0, rs, f⟩ => ⟨ρ, S, θ, R0, rs, Fin.bind f fun ds S1 θ1 H1 vs _ e1 R1 r1 f1 => hd σ θ1 S1 H1 ds vs Q R1 r1 f1⟩
theorem de_blty {x : Str} {p : Pos} {e : Expr} {es : List Expr} {T : String} {r : List V → Hp → VK → Prop} {o : Ob} {a : M (List D)} (hc : CallR X (.type T) r) (hd : DenB B r o) (hg : Gl X x) (hm : X.mg x = none) (hv : bootBuiltins x = some (.type T)) (ha : PA X (e :: es) (rdA B a))
    (hn : x ≠ "__name__" := by decide) (hdb : (x == ("__debug__" : Str)) = false := by decide) (he : starEach (e :: es) X.env = (false, eval e X.env) :: starEach es X.env := by rfl) (hpl : (backTo pos (starEach es X.env)).any (·.1) = false := by rfl) : PE X (.Call (.Name x p) (e :: es) [] pos) (rdE B (mBlt o a)) :=
  PE.imp (pe_callTy hc hg hm hv ha hn hdb he hpl) fun σ H Q ⟨ρ, S, θ, R0, rs, f⟩ => ⟨ρ, S, θ, R0, rs, Fin.bind f fun ds S1 θ1 H1 vs _ e1 R1 r1 f1 => hd σ θ1 S1 H1 ds vs Q R1 r1 f1⟩
theorem CallR.or {f : Value} {r r' : List V → Hp → VK → Prop} (h : CallR X f r) (h' : CallR X f r') : CallR X f (fun xs H Q => r xs H Q ∨ r' xs H Q) := fun pins s σ H xs us Q I r1 q => q.elim (h pins s σ H xs us Q I r1) (h' pins s σ H xs us Q I r1)
/-- the class's name as a value -/
theorem de_ty {x : Str} {n : Ty} (hg : Gl X x) (hm : X.mg x = none) (hv : bootBuiltins x = some (.type n.name)) (hn : x ≠ "__name__" := by decide) (hd : (x == ("__debug__" : Str)) = false := by decide) : PE X (.Name x pos) (rdE B (mC (.ty n))) := de_c (v := .ty n.name) (pe_bltn hg hm hv rfl hn hd) fun _ _ => .ty n
theorem rds1 {G : Gv} {θ : List Addr} {H : Hp} {d : D} {vs : List V} (r : RDs G θ H [d] vs) : ∃ v, vs = [v] ∧ RD G θ H d v := by
  cases r with
  | cons a b => cases b; exact ⟨_, rfl, a⟩
theorem rds2 {G : Gv} {θ : List Addr} {H : Hp} {d e : D} {vs : List V} (r : RDs G θ H [d, e] vs) : ∃ v w, vs = [v, w] ∧ RD G θ H d v ∧ RD G θ H e w := by
  cases r with
  | cons a b =>
    obtain ⟨w, rfl, h⟩ := rds1 b
    exact ⟨_, w, rfl, a, h⟩
/-- len -/
def getK : D → Store → Option (List (Key × D))
  | .ref n, S => match S[n]? with
    | some (.dct kvs) => some kvs
    | _ => none
  | _, _ => none
theorem getK_ok {G : Gv} {F : Fr0} {θ : List Addr} {S : Store} {H : Hp} {d : D} {v : V} {kvs : List (Key × D)} (R0 : Rel G F θ S H) (r : RD G θ H d v) (e : getK d S = some kvs) : ∃ n a es, d = .ref n ∧ v = .ref a ∧ θ[n]? = some a ∧ S[n]? = some (.dct kvs) ∧ H a = some (.dK es) ∧ RK G θ H kvs es := by
  cases r with
  | @ref n a h =>
    have e' : (match S[n]? with | some (.dct kvs) => some kvs | _ => none) = some kvs := e
    cases q : S[n]? with
    | none => rw [q] at e'; cases e'
    | some c =>
      cases c with
      | lst _ => rw [q] at e'; cases e'
      | rev _ _ => rw [q] at e'; cases e'
      | dct k2 =>
        rw [q] at e'
        cases e'
        obtain ⟨es, h1, h2⟩ := R0.cells _ _ _ h q
        exact ⟨n, a, es, rfl, rfl, h, q, h1, h2⟩
  | _ => cases e
def lenD : Ob
  | [.str s], S => if s.length ≤ sizeLine then .ok (.int s.length) S else .bad
  | [d], S => match getSeq d S with
    | some ds => .ok (.int ds.length) S
    | none => match getK d S with
      | some kvs => .ok (.int kvs.length) S
      | none => .bad
  | _, _ => .bad
abbrev rLenA (K : PySem.W.Frag) : List V → Hp → VK → Prop := fun xs H Q => (∃ x n, xs = [x] ∧ LenV K x H n ∧ Q (.int n) H) ∨ ∃ a kvs, xs = [.ref a] ∧ H a = some (.dK kvs) ∧ Q (.int kvs.length) H
theorem call_lenA : CallR X (.builtin "len") (rLenA X.K) := CallR.or call_len call_lenD
theorem den_len (hK : B.G.K = X.K) : DenB B (rLenA X.K) lenD := by
  intro σ θ S H ds vs Q R0 r f
  cases ds with
  | nil => exact f.elim
  | cons d t =>
    cases t with
    | cons => cases d <;> exact f.elim
    | nil =>
      obtain ⟨v, rfl, r1⟩ := rds1 r
      have seq : lenD [d] S = (match getSeq d S with | some ds => .ok (.int ds.length) S | none => (match getK d S with | some kvs => .ok (.int kvs.length) S | none => .bad)) → rLenA X.K [v] H Q := fun q => by
        rw [q] at f
        cases q1 : getSeq d S with
        | some ds =>
          rw [q1] at f
          obtain ⟨a, xs, rfl, k, rs⟩ := getSeq_ok R0 r1 q1
          rw [hK] at k
          have hq : Q (.int xs.length) H := by rw [← rs.length]; exact Fin.ok f .refl R0 (.int _)
          rcases k with k | k
          · exact .inl ⟨_, xs.length, rfl, .inl ⟨xs, k, rfl⟩, hq⟩
          · exact .inl ⟨_, xs.length, rfl, .inr ⟨xs, k, rfl⟩, hq⟩
        | none =>
          rw [q1] at f
          replace f : Fin B (RD B.G) σ θ H (match getK d S with | some kvs => .ok (.int kvs.length) S | none => .bad) Q := f
          cases q2 : getK d S with
          | none => rw [q2] at f; exact f.elim
          | some kvs =>
            rw [q2] at f
            obtain ⟨n, a, es, rfl, rfl, _, _, h1, h2⟩ := getK_ok R0 r1 q2
            exact .inr ⟨a, es, rfl, h1, by rw [← h2.length]; exact Fin.ok f .refl R0 (.int _)⟩
      cases d with
      | str s =>
        cases r1
        obtain ⟨hz, f⟩ := Fin.ite (c := s.length ≤ sizeLine) f
        exact .inl ⟨_, s.length, rfl, ⟨hz, rfl⟩, f.ok .refl R0 (.int _)⟩
      | _ => exact seq rfl
/-- abs, max, min of two, int -/
def absD : Ob
  | [.int i], S => .ok (.int (if i < 0 then -i else i)) S
  | _, _ => .bad
theorem den_abs : DenB B (fun xs H Q => ∃ i, xs = [.int i] ∧ Q (.int (if i < 0 then -i else i)) H) absD := by
  intro σ θ S H ds vs Q R0 r f
  match ds, r, f with
  | [.int i], r, f =>
    obtain ⟨v, rfl, r1⟩ := rds1 r
    cases r1
    exact ⟨i, rfl, f.ok .refl R0 (.int _)⟩
  | [], _, f => exact f.elim
  | .int _ :: _ :: _, _, f => exact f.elim
  | .non :: _, _, f => exact f.elim
  | .bl _ :: _, _, f => exact f.elim
  | .str _ :: _, _, f => exact f.elim
  | .tup _ :: _, _, f => exact f.elim
  | .lst _ :: _, _, f => exact f.elim
  | .kst _ :: _, _, f => exact f.elim
  | .brw _ :: _, _, f => exact f.elim
  | .ref _ :: _, _, f => exact f.elim
  | .fn _ :: _, _, f => exact f.elim
  | .ty _ :: _, _, f => exact f.elim
def pair2 : List D → Option (Int × Int)
  | [.int i, .int j] => some (i, j)
  | _ => none
theorem pair2_ok {G : Gv} {θ : List Addr} {H : Hp} {ds : List D} {vs : List V} {p : Int × Int} (r : RDs G θ H ds vs) (h : pair2 ds = some p) : vs = [.int p.1, .int p.2] := by
  cases r with
  | nil => cases h
  | @cons d v dr vr a b =>
    cases b with
    | nil => cases d <;> cases h
    | @cons d2 v2 dr2 vr2 b c =>
      cases c with
      | cons => cases d <;> cases d2 <;> cases h
      | nil =>
        cases d with
        | int i =>
          cases d2 with
          | int j => cases h; cases a; cases b; rfl
          | _ => cases h
        | _ => cases d2 <;> cases h
def max2D : Ob := fun ds S => match pair2 ds with
  | some p => .ok (.int (if p.2 > p.1 then p.2 else p.1)) S
  | none => .bad
def min2D : Ob := fun ds S => match pair2 ds with
  | some p => .ok (.int (if p.2 < p.1 then p.2 else p.1)) S
  | none => .bad
theorem den_max2 : DenB B (fun xs H Q => ∃ i j, xs = [.int i, .int j] ∧ Q (.int (if j > i then j else i)) H) max2D := by
  intro σ θ S H ds vs Q R0 r f
  unfold max2D at f
  cases q : pair2 ds with
  | none => rw [q] at f; exact f.elim
  | some p => rw [q] at f; exact ⟨p.1, p.2, pair2_ok r q, Fin.ok f .refl R0 (.int _)⟩
theorem den_min2 : DenB B (fun xs H Q => ∃ i j, xs = [.int i, .int j] ∧ Q (.int (if j < i then j else i)) H) min2D := by
  intro σ θ S H ds vs Q R0 r f
  unfold min2D at f
  cases q : pair2 ds with
  | none => rw [q] at f; exact f.elim
  | some p => rw [q] at f; exact ⟨p.1, p.2, pair2_ok r q, Fin.ok f .refl R0 (.int _)⟩
def one1 : List D → Option D
  | [d] => some d
  | _ => none
theorem one1_ok {ds : List D} {d : D} (h : one1 ds = some d) : ds = [d] := by
  cases ds with
  | nil => cases h
  | cons a t =>
    cases t with
    | nil => cases h; rfl
    | cons => cases h
def intD1 : D → Option Int
  | .int i => some i
  | .bl b => some (if b then 1 else 0)
  | _ => none
def toIntD : Ob := fun ds S => match one1 ds with
  | some d => match intD1 d with
    | some i => .ok (.int i) S
    | none => .bad
  | none => .bad
theorem den_int1 : DenB B (fun xs H Q => (∃ i, xs = [.int i] ∧ Q (.int i) H) ∨ ∃ k, xs = [.bl k] ∧ Q (.int (if k then 1 else 0)) H) toIntD := by
  intro σ θ S H ds vs Q R0 r f
  unfold toIntD at f
  cases q : one1 ds with
  | none => rw [q] at f; exact f.elim
  | some d =>
    rw [q] at f
    have e := one1_ok q
    subst e
    obtain ⟨v, rfl, r1⟩ := rds1 r
    cases d with
    | int i => cases r1; exact .inl ⟨i, rfl, Fin.ok (a := D.int i) f .refl R0 (.int _)⟩
    | bl k => cases r1; exact .inr ⟨k, rfl, Fin.ok (a := D.int (if k then 1 else 0)) f .refl R0 (.int _)⟩
    | _ => exact f.elim
/-- list(..), tuple(..) -/
def listD : Ob := fun ds S => match one1 ds with
  | some d => match getSeq d S with
    | some xs => .ok (.ref S.length) (S ++ [.lst xs])
    | none => .bad
  | none => .bad
theorem den_list (hK : B.G.K = X.K) : DenB B (fun xs H Q => ∃ p ys, xs = [.ref p] ∧ (SqL X.K H p ys ∨ SqT X.K H p ys) ∧ ∀ l, H l = none → Q (.ref l) (upd H l (.lst ys))) listD := by
  intro σ θ S H ds vs Q R0 r f
  unfold listD at f
  cases q : one1 ds with
  | none => rw [q] at f; exact f.elim
  | some d =>
    rw [q] at f
    have e := one1_ok q
    subst e
    obtain ⟨v, rfl, r1⟩ := rds1 r
    replace f : Fin B (RD B.G) σ θ H (match getSeq d S with | some xs => .ok (.ref S.length) (S ++ [.lst xs]) | none => .bad) Q := f
    cases q1 : getSeq d S with
    | none => rw [q1] at f; exact f.elim
    | some xs =>
      rw [q1] at f
      obtain ⟨a, ys, rfl, k, rs⟩ := getSeq_ok R0 r1 q1
      rw [hK] at k
      exact ⟨a, ys, rfl, k, fun l hl => Fin.ok f (ext_cell hl) (R0.alloc hl rs) (RD.new R0)⟩
def tupleD : Ob := fun ds S => match one1 ds with
  | some (.pr xs) => .ok (.pr xs) S
  | some d => match getSeq d S with
    | some xs => .ok (.tup xs) S
    | none => .bad
  | none => .bad
abbrev rTupF (K : PySem.W.Frag) : List V → Hp → VK → Prop := fun xs H Q => ∃ p ys, xs = [.ref p] ∧ ((SqL K H p ys ∧ ∀ (l : Addr) (o : Obj), o.cls = .type "tuple" → o.dict = none → H l = none → Q (.ref l) (upd H l (.frz o (.tup ys)))) ∨ (SqT K H p ys ∧ Q (.ref p) H))
theorem call_tupleF : CallR X (.type "tuple") (rTupF X.K) := by
  intro pins s σ H xs us Q I r h
  obtain ⟨p, ys, rfl, h⟩ := h
  obtain ⟨u, rfl, rx⟩ := vals1 r
  cases rx
  rcases h with ⟨hs, q⟩ | ⟨hs, q⟩
  · obtain ⟨its, k, pl, hz⟩ := I.list hs
    have hl := k.length
    refine call_tuple_list pl.isList (fun h' kp => ?_) (by simp only [List.size_toArray] <;> omega)
    have I1 : Inv X pins σ H { s with heap := h' } := I.kept (t' := s.toks) kp
    exact ⟨.ref h'.objs.size, _, I1.laid (t' := s.toks) (o := .frz { cls := .type "tuple", data := .seq its.toArray } (.tup ys)) (fun b o e => Heap.get?_push_of_some _ e) (Nat.le_refl _) ⟨Heap.get?_push_size _ rfl, hz, its, k, IsTup.new _ _⟩, rfl, q _ _ rfl rfl (I1.hok.fresh (Nat.le_refl _))⟩
  · obtain ⟨its, k, pl, hz⟩ := I.tuple hs
    exact call_tuple_same pl ⟨.ref p, H, I, rfl, q⟩
theorem den_tuple (hK : B.G.K = X.K) : DenB B (rTupF X.K) tupleD := by
  intro σ θ S H ds vs Q R0 r f
  unfold tupleD at f
  cases q : one1 ds with
  | none => rw [q] at f; exact f.elim
  | some d =>
    rw [q] at f
    have e := one1_ok q
    subst e
    obtain ⟨v, rfl, r1⟩ := rds1 r
    have lst : ∀ {ys : List D}, getL d S = some ys → Fin B (RD B.G) σ θ H (.ok (.tup ys) S) Q → rTupF X.K [v] H Q := fun {ys} k f => by
      obtain ⟨a, xs, rfl, k1, rs⟩ := getL_ok R0 r1 k
      exact ⟨a, xs, rfl, .inl ⟨hK ▸ k1, fun l o o1 o2 hl => by
        have e : Ext θ H θ (upd H l (.frz o (.tup xs))) := .of_keep (keep_new hl)
        exact Fin.ok f e (R0.laid hl) (.tup (.new o1 o2) (rs.ext e))⟩⟩
    have gen : (match getL d S with | some xs => R.ok (D.tup xs) S | none => .bad) = (match getL d S with | some xs => R.ok (D.tup xs) S | none => .bad) → Fin B (RD B.G) σ θ H (match getL d S with | some xs => .ok (.tup xs) S | none => .bad) Q → rTupF X.K [v] H Q := fun _ f => by
      cases k : getL d S with
      | none => rw [k] at f; exact f.elim
      | some ys => rw [k] at f; exact lst k f
    cases d with
    | tup xs =>
      cases r1 with
      | @tup a us _ h1 h2 => exact ⟨a, us, rfl, .inr ⟨hK ▸ h1.sq, Fin.ok f .refl R0 (.tup h1 h2)⟩⟩
    | pr xs =>
      cases r1 with
      | @pr a us _ h1 h2 => exact ⟨a, us, rfl, .inr ⟨hK ▸ h1, Fin.ok f .refl R0 (.pr h1 h2)⟩⟩
    | _ => exact gen rfl f
end
end DM

namespace DM
open PySem PySem.Spec L2
open PyProof.Rows hiding St

section
variable {X : Cx} {B : Bv} {pos : Pos}
def tyOf (d : D) (S : Store) : Option Ty := match d with
  | .non => some .none
  | .bl _ => some .bool
  | .int _ => some .int
  | .str _ => some .str
  | .tup _ => some .tuple
  | .pr _ => some .tuple
  | .lst _ => some .list
  | .kst _ => some .list
  | .brw _ => some .list
  | .edc => some .dict
  | .ref n => match S[n]? with
    | some (.lst _) => some .list
    | some (.dct _) => some .dict
    | _ => none
  | _ => none
def isTy : Ty → Ty → Bool
  | .none, .none => true
  | .bool, .bool => true
  | .bool, .int => true
  | .int, .int => true
  | .str, .str => true
  | .tuple, .tuple => true
  | .list, .list => true
  | .dict, .dict => true
  | _, _ => false
theorem kit_isTy (a b : Ty) : kitB a.name b.name = some (isTy a b) := by
  cases a <;> cases b <;> decide +kernel
theorem tyOf_ok {G : Gv} {F : Fr0} {θ : List Addr} {S : Store} {H : Hp} {d : D} {x : V} {t : Ty} (R0 : Rel G F θ S H) (r : RD G θ H d x) (h : tyOf d S = some t) : TyX G.K H x (.type t.name) := by
  cases r with
  | non => cases h; exact .base .non
  | bl b => cases h; exact .base (.bl b)
  | int i => cases h; exact .base (.int i)
  | str s => cases h; exact .base (.str s)
  | ty s => cases h
  | fn k => cases h
  | edc h0 h1 h2 => cases h; exact .base (.dK h2)
  | tup h1 h2 =>
    cases h
    rcases h1.sq with (h1 | ⟨o, h1⟩) | ⟨o, its, n, h1, h2, _⟩
    · exact .base (.tup h1)
    · exact .fTuple h1
    · exact .kTuple h1 h2
  | pr h1 h2 =>
    cases h
    rcases h1 with (h1 | ⟨o, h1⟩) | ⟨o, its, n, h1, h2, _⟩
    · exact .base (.tup h1)
    · exact .fTuple h1
    · exact .kTuple h1 h2
  | lst h0 h1 h2 h3 => cases h; exact .base (.lst h2)
  | brw h1 h2 h3 => cases h; exact .base (.lst h2)
  | kst h1 h2 =>
    cases h
    rcases h1 with ⟨o, h1⟩ | ⟨o, its, n, h1, h2, _⟩
    · exact .base (.frz h1)
    · exact .kList h1 h2
  | @ref n a hn =>
    have h' : (match S[n]? with | some (.lst _) => some Ty.list | some (.dct _) => some Ty.dict | _ => none) = some t := h
    cases q : S[n]? with
    | none => rw [q] at h'; cases h'
    | some c =>
      cases c with
      | lst ds =>
        rw [q] at h'; cases h'
        obtain ⟨xs, h1, _⟩ := R0.cells _ _ _ hn q
        exact .base (.lst h1)
      | dct kvs =>
        rw [q] at h'; cases h'
        obtain ⟨xs, h1, _⟩ := R0.cells _ _ _ hn q
        exact .base (.dK h1)
      | rev _ _ => rw [q] at h'; cases h'
def tyPair : List D → Option (D × Ty)
  | [d, .ty t] => some (d, t)
  | _ => none
theorem tyPair_ok {ds : List D} {p : D × Ty} (h : tyPair ds = some p) : ds = [p.1, .ty p.2] := by
  match ds, h with
  | [d, .ty t], h => cases h; rfl
def isiD : Ob := fun ds S => match tyPair ds with
  | some p => match tyOf p.1 S with
    | some t => .ok (.bl (isTy t p.2)) S
    | none => .bad
  | none => .bad
theorem den_isi (hK : B.G.K = X.K) : DenB B (rIsi X.K) isiD := by
  intro σ θ S H ds vs Q R0 r f
  unfold isiD at f
  cases q : tyPair ds with
  | none => rw [q] at f; exact f.elim
  | some p =>
    rw [q] at f
    obtain ⟨d, t2⟩ := p
    have e := tyPair_ok q
    subst e
    obtain ⟨v, w, rfl, r1, r2⟩ := rds2 r
    replace f : Fin B (RD B.G) σ θ H (match tyOf d S with | some t => .ok (.bl (isTy t t2)) S | none => .bad) Q := f
    cases q1 : tyOf d S with
    | none => rw [q1] at f; exact f.elim
    | some t =>
      rw [q1] at f
      cases r2
      exact ⟨v, _, .type t.name, .type t2.name, isTy t t2, rfl, .ty _, hK ▸ tyOf_ok R0 r1 q1, kit_ty (kit_isTy t t2), Fin.ok f .refl R0 (.bl _)⟩

def asBools : List D → Option (List Bool)
  | [] => some []
  | .bl b :: r => (asBools r).map (b :: ·)
  | _ => none
theorem asBools_ok {G : Gv} {θ : List Addr} {H : Hp} : ∀ {ds : List D} {vs : List V} {bs : List Bool}, RDs G θ H ds vs → asBools ds = some bs → vs = bs.map V.bl
  | [], _, _, .nil, e => by cases e; rfl
  | .bl i :: r, _, _, .cons h t, e => by
    cases h
    obtain ⟨ms, e1, rfl⟩ := map_some e
    rw [asBools_ok t e1]; rfl
/-- a list of ints handed in alone -/
def argInts (ds : List D) (S : Store) : Option (List Int) := match one1 ds with
  | some d => match getL d S with
    | some xs => asInts xs
    | none => none
  | none => none
theorem argInts_ok {G : Gv} {F : Fr0} {θ : List Addr} {S : Store} {H : Hp} {ds : List D} {vs : List V} {ns : List Int} (R0 : Rel G F θ S H) (r : RDs G θ H ds vs) (h : argInts ds S = some ns) : ∃ a, vs = [.ref a] ∧ SqL G.K H a (ns.map V.int) := by
  unfold argInts at h
  cases q : one1 ds with
  | none => rw [q] at h; cases h
  | some d =>
    rw [q] at h
    have e := one1_ok q
    subst e
    obtain ⟨v, rfl, r1⟩ := rds1 r
    replace h : (match getL d S with | some xs => asInts xs | none => none) = some ns := h
    cases q1 : getL d S with
    | none => rw [q1] at h; cases h
    | some xs =>
      rw [q1] at h
      obtain ⟨a, ys, rfl, k, rs⟩ := getL_ok R0 r1 q1
      rw [asInts_ok rs h] at k
      exact ⟨a, rfl, k⟩
def argBools (ds : List D) (S : Store) : Option (List Bool) := match one1 ds with
  | some d => match getL d S with
    | some xs => asBools xs
    | none => none
  | none => none
theorem argBools_ok {G : Gv} {F : Fr0} {θ : List Addr} {S : Store} {H : Hp} {ds : List D} {vs : List V} {ns : List Bool} (R0 : Rel G F θ S H) (r : RDs G θ H ds vs) (h : argBools ds S = some ns) : ∃ a, vs = [.ref a] ∧ SqL G.K H a (ns.map V.bl) := by
  unfold argBools at h
  cases q : one1 ds with
  | none => rw [q] at h; cases h
  | some d =>
    rw [q] at h
    have e := one1_ok q
    subst e
    obtain ⟨v, rfl, r1⟩ := rds1 r
    replace h : (match getL d S with | some xs => asBools xs | none => none) = some ns := h
    cases q1 : getL d S with
    | none => rw [q1] at h; cases h
    | some xs =>
      rw [q1] at h
      obtain ⟨a, ys, rfl, k, rs⟩ := getL_ok R0 r1 q1
      rw [asBools_ok rs h] at k
      exact ⟨a, rfl, k⟩
def sumD : Ob := fun ds S => match argInts ds S with
  | some ns => .ok (.int ns.sum) S
  | none => .bad
theorem den_sum (hK : B.G.K = X.K) : DenB B (rSum X.K) sumD := by
  intro σ θ S H ds vs Q R0 r f
  unfold sumD at f
  cases q : argInts ds S with
  | none => rw [q] at f; exact f.elim
  | some ns =>
    rw [q] at f
    obtain ⟨a, rfl, k⟩ := argInts_ok R0 r q
    exact ⟨a, ns, rfl, hK ▸ k, Fin.ok f .refl R0 (.int _)⟩
def allD : Ob := fun ds S => match argBools ds S with
  | some bs => .ok (.bl (bs.all id)) S
  | none => .bad
def anyD : Ob := fun ds S => match argBools ds S with
  | some bs => .ok (.bl (bs.any id)) S
  | none => .bad
theorem den_all (hK : B.G.K = X.K) : DenB B (rAll X.K) allD := by
  intro σ θ S H ds vs Q R0 r f
  unfold allD at f
  cases q : argBools ds S with
  | none => rw [q] at f; exact f.elim
  | some ns =>
    rw [q] at f
    obtain ⟨a, rfl, k⟩ := argBools_ok R0 r q
    exact ⟨a, ns, rfl, hK ▸ k, Fin.ok f .refl R0 (.bl _)⟩
theorem den_any (hK : B.G.K = X.K) : DenB B (rAny X.K) anyD := by
  intro σ θ S H ds vs Q R0 r f
  unfold anyD at f
  cases q : argBools ds S with
  | none => rw [q] at f; exact f.elim
  | some ns =>
    rw [q] at f
    obtain ⟨a, rfl, k⟩ := argBools_ok R0 r q
    exact ⟨a, ns, rfl, hK ▸ k, Fin.ok f .refl R0 (.bl _)⟩

abbrev Om := D → List D → Store → R D
def isL (d : D) (S : Store) : Bool := (getL d S).isSome
def mMth (o : Om) (a : M D) (b : M (List D)) : M D := fun ρ S => (a ρ S).bind fun x S1 => if isL x S1 then (b ρ S1).bind fun ys S2 => o x ys S2 else .bad
def DenM (B : Bv) (r : V → List V → Hp → VK → Prop) (o : Om) : Prop := ∀ (σ : St) (θ : List Addr) (S : Store) (H : Hp) (d : D) (x : V) (ds : List D) (vs : List V) (Q : VK), Rel B.G B.F θ S H → RD B.G θ H d x → RDs B.G θ H ds vs → Fin B (RD B.G) σ θ H (o d ds S) Q → r x vs H Q
theorem tyV_list (hK : B.G.K = X.K) {θ : List Addr} {S : Store} {H : Hp} {d : D} {x : V} (R0 : Rel B.G B.F θ S H) (r : RD B.G θ H d x) (h : isL d S = true) : tyV X.K "list" x H := by
  unfold isL at h
  obtain ⟨ds, e⟩ := Option.isSome_iff_exists.mp h
  obtain ⟨a, xs, rfl, k, _⟩ := getL_ok R0 r e
  exact .inl ⟨rfl, xs, hK ▸ k⟩
theorem de_mth {o e : Expr} {es : List Expr} {name : Str} {apos cpos : Pos} {id : String} {r : V → List V → Hp → VK → Prop} {om : Om} {a : M D} {b : M (List D)} (hK : B.G.K = X.K) (pa : PlainAttrs "list") (slot : Slot "list" name id) (hty : typeOf (.builtin id) = pure (.type "method_descriptor")) (hm : MtR X id r) (hd : DenM B r om)
    (ho : PE X o (rdE B a)) (ha : PA X (e :: es) (rdA B b)) (h1 : attributeBase o name X.env (eval o X.env) = eval o X.env := by rfl)
    (h2 : ((((backTo cpos (starEach (e :: es) X.env)).all fun x => !x.fst) && (backToKw cpos (keywordEach [] X.env)).all fun x => x.fst.isSome) && decide (((e :: es).length + ([] : List Keyword).length + if ([] : List Keyword).isEmpty = true then 0 else 1) < 30)) = true := by rfl)
    (h3 : (apos.endLine == cpos.line) = true := by rfl) (h4 : starEach (e :: es) X.env = (false, eval e X.env) :: starEach es X.env := by rfl) (h5 : ((backTo cpos (starEach es X.env)).any fun x => x.fst) = false := by rfl) :
    PE X (.Call (.Attribute o name apos) (e :: es) [] cpos) (rdE B (mMth om a b)) :=
  PE.imp (pe_bm pa slot hty hm ho ha h1 h2 h3 h4 h5) fun σ H Q ⟨ρ, S, θ, R0, rs, f⟩ => ⟨ρ, S, θ, R0, rs, Fin.bind f fun x S1 θ1 H1 v _ e1 R1 r1 f1 => by
    obtain ⟨hl, f2⟩ := Fin.ite (c := isL x S1 = true) f1
    exact ⟨tyV_list hK R1 r1 hl, ρ, S1, θ1, R1, rs.ext e1, Fin.bind f2 fun ys S2 θ2 H2 us _ e2 R2 r2 f3 => hd σ θ2 S2 H2 x v ys us Q R2 (r1.ext e2) r2 f3⟩⟩
def mMth0 (o : Om) (a : M D) : M D := fun ρ S => (a ρ S).bind fun x S1 => if isL x S1 then o x [] S1 else .bad
theorem de_mth0 {o : Expr} {name : Str} {apos cpos : Pos} {id : String} {r : V → List V → Hp → VK → Prop} {om : Om} {a : M D} (hK : B.G.K = X.K) (pa : PlainAttrs "list") (slot : Slot "list" name id) (hty : typeOf (.builtin id) = pure (.type "method_descriptor")) (hm : MtR X id r) (hd : DenM B r om)
    (ho : PE X o (rdE B a)) (h1 : attributeBase o name X.env (eval o X.env) = eval o X.env := by rfl) (h3 : (apos.endLine == cpos.line) = true := by rfl) : PE X (.Call (.Attribute o name apos) [] [] cpos) (rdE B (mMth0 om a)) :=
  PE.imp (pe_bm0 pa slot hty hm ho h1 h3) fun σ H Q ⟨ρ, S, θ, R0, rs, f⟩ => ⟨ρ, S, θ, R0, rs, Fin.bind f fun x S1 θ1 H1 v _ e1 R1 r1 f1 => by
    obtain ⟨hl, f2⟩ := Fin.ite (c := isL x S1 = true) f1
    exact ⟨tyV_list hK R1 r1 hl, hd σ θ1 S1 H1 x v [] [] Q R1 r1 .nil f2⟩⟩
/-- a list that may be changed -/
def getM (d : D) (S : Store) : Option (Nat × List D) := match d with
  | .ref n => match S[n]? with
    | some (.lst ds) => some (n, ds)
    | _ => none
  | _ => none
theorem getM_ok {G : Gv} {F : Fr0} {θ : List Addr} {S : Store} {H : Hp} {d : D} {x : V} {p : Nat × List D} (R0 : Rel G F θ S H) (r : RD G θ H d x) (h : getM d S = some p) : ∃ a xs, x = .ref a ∧ θ[p.1]? = some a ∧ S[p.1]? = some (.lst p.2) ∧ H a = some (.lst xs) ∧ RDs G θ H p.2 xs := by
  cases r with
  | @ref n a hn =>
    have h' : (match S[n]? with | some (.lst ds) => some (n, ds) | _ => none) = some p := h
    cases q : S[n]? with
    | none => rw [q] at h'; cases h'
    | some c =>
      cases c with
      | lst ds =>
        rw [q] at h'; cases h'
        obtain ⟨xs, h1, h2⟩ := R0.cells _ _ _ hn q
        exact ⟨a, xs, rfl, hn, q, h1, h2⟩
      | dct kvs => rw [q] at h'; cases h'
      | rev _ _ => rw [q] at h'; cases h'
  | _ => cases h
def appendD : Om := fun d ds S => match getM d S, one1 ds with
  | some p, some y => if p.2.length < 16777216 then .ok .non (S.set p.1 (.lst (p.2 ++ [y]))) else .bad
  | _, _ => .bad
theorem den_append : DenM B rAppend appendD := by
  intro σ θ S H d x ds vs Q R0 r1 r2 f
  unfold appendD at f
  cases q1 : getM d S with
  | none => rw [q1] at f; exact f.elim
  | some p =>
    cases q2 : one1 ds with
    | none => rw [q1, q2] at f; exact f.elim
    | some y =>
      rw [q1, q2] at f
      have e := one1_ok q2
      subst e
      obtain ⟨v, rfl, r3⟩ := rds1 r2
      obtain ⟨a, xs, rfl, k1, k2, k3, k4⟩ := getM_ok R0 r1 q1
      obtain ⟨hl, f2⟩ := Fin.ite (c := p.2.length < 16777216) f
      have w := R0.write k1 k2 (k4.append (.cons r3 .nil))
      exact ⟨a, xs, v, rfl, rfl, k3, by rw [← k4.length]; exact hl, f2.ok w.1 w.2 .non⟩
def popD : Om := fun d ds S => match getM d S, ds with
  | some p, [] => match p.2[p.2.length - 1]? with
    | some y => .ok y (S.set p.1 (.lst p.2.dropLast))
    | none => .bad
  | _, _ => .bad
theorem RDs.dropLast {G : Gv} {θ : List Addr} {H : Hp} : ∀ {ds : List D} {vs : List V}, RDs G θ H ds vs → RDs G θ H ds.dropLast vs.dropLast
  | _, _, .nil => .nil
  | _, _, .cons r .nil => .nil
  | _, _, .cons r (.cons r2 t) => .cons r (RDs.dropLast (.cons r2 t))
theorem den_pop : DenM B rPop popD := by
  intro σ θ S H d x ds vs Q R0 r1 r2 f
  unfold popD at f
  cases q1 : getM d S with
  | none => rw [q1] at f; exact f.elim
  | some p =>
    cases r2 with
    | cons => rw [q1] at f; exact f.elim
    | nil =>
      rw [q1] at f
      obtain ⟨a, xs, rfl, k1, k2, k3, k4⟩ := getM_ok R0 r1 q1
      replace f : Fin B (RD B.G) σ θ H (match p.2[p.2.length - 1]? with | some y => .ok y (S.set p.1 (.lst p.2.dropLast)) | none => .bad) Q := f
      cases q2 : p.2[p.2.length - 1]? with
      | none => rw [q2] at f; exact f.elim
      | some y =>
        rw [q2] at f
        obtain ⟨v, h1, h2⟩ := k4.get q2
        have w := R0.write k1 k2 k4.dropLast
        exact ⟨a, xs, v, rfl, rfl, k3, by rw [← k4.length]; exact h1, Fin.ok f w.1 w.2 (h2.ext w.1)⟩
def small63 (j : Int) : Bool := decide (-9223372036854775808 ≤ j) && decide (j < 9223372036854775808)
def popAtD : Om := fun d ds S => match getM d S, ds with
  | some p, [.int i] => if small63 i then (match seqIndex? i p.2.length with
    | some k => match p.2[k]? with
      | some y => .ok y (S.set p.1 (.lst (p.2.eraseIdx k)))
      | none => .bad
    | none => .bad) else .bad
  | _, _ => .bad
theorem den_popAt : DenM B rPopAt popAtD := by
  intro σ θ S H d x ds vs Q R0 r1 r2 f
  unfold popAtD at f
  cases q1 : getM d S with
  | none => rw [q1] at f; exact f.elim
  | some p =>
    rw [q1] at f
    cases ds with
    | nil => exact f.elim
    | cons e t =>
      cases t with
      | cons => cases e <;> exact f.elim
      | nil =>
        obtain ⟨v, rfl, r3⟩ := rds1 r2
        cases e with
        | int i =>
          cases r3
          obtain ⟨c, f2⟩ := Fin.ite (c := small63 i = true) f
          obtain ⟨a, xs, rfl, k1, k2, k3, k4⟩ := getM_ok R0 r1 q1
          cases q2 : seqIndex? i p.2.length with
          | none => rw [q2] at f2; exact f2.elim
          | some k =>
            rw [q2] at f2
            replace f2 : Fin B (RD B.G) σ θ H (match p.2[k]? with | some y => .ok y (S.set p.1 (.lst (p.2.eraseIdx k))) | none => .bad) Q := f2
            cases q3 : p.2[k]? with
            | none => rw [q3] at f2; exact f2.elim
            | some y =>
              rw [q3] at f2
              obtain ⟨v, h1, h2⟩ := k4.get q3
              have w := R0.write k1 k2 (k4.eraseIdx k)
              unfold small63 at c
              rw [Bool.and_eq_true] at c
              exact ⟨a, xs, i, k, v, rfl, rfl, k3, of_decide_eq_true c.1, of_decide_eq_true c.2, by rw [← k4.length]; exact q2, h1, Fin.ok f2 w.1 w.2 (h2.ext w.1)⟩
        | _ => exact f.elim
def extendD : Om := fun d ds S => match getM d S, one1 ds with
  | some p, some y => match getP y S with
    | some ys => if p.2.length + ys.length ≤ 16777216 then .ok .non (S.set p.1 (.lst (p.2 ++ ys))) else .bad
    | none => .bad
  | _, _ => .bad
theorem den_extend : DenM B rExtend extendD := by
  intro σ θ S H d x ds vs Q R0 r1 r2 f
  unfold extendD at f
  cases q1 : getM d S with
  | none => rw [q1] at f; exact f.elim
  | some p =>
    cases q2 : one1 ds with
    | none => rw [q1, q2] at f; exact f.elim
    | some y =>
      rw [q1, q2] at f
      have e := one1_ok q2
      subst e
      obtain ⟨v, rfl, r3⟩ := rds1 r2
      obtain ⟨a, xs, rfl, k1, k2, k3, k4⟩ := getM_ok R0 r1 q1
      replace f : Fin B (RD B.G) σ θ H (match getP y S with | some ys => if p.2.length + ys.length ≤ 16777216 then .ok .non (S.set p.1 (.lst (p.2 ++ ys))) else .bad | none => .bad) Q := f
      cases q3 : getP y S with
      | none => rw [q3] at f; exact f.elim
      | some ys =>
        rw [q3] at f
        obtain ⟨hl, f2⟩ := Fin.ite (c := p.2.length + ys.length ≤ 16777216) f
        obtain ⟨b, zs, rfl, g1, g2⟩ := getP_ok R0 r3 q3
        have w := R0.write k1 k2 (k4.append g2)
        exact ⟨a, b, xs, zs, rfl, rfl, k3, g1, by rw [← k4.length, ← g2.length]; exact hl, f2.ok w.1 w.2 .non⟩

def setD (d i y : D) (S : Store) : R Unit := match getM d S, i with
  | some p, .int k => match ixN p.2.length k with
    | some j => .ok () (S.set p.1 (.lst (p.2.set j y)))
    | none => .bad
  | _, _ => .bad
def tSub (o i : M D) : TM := fun d ρ S => (o ρ S).noexc.bind fun x S1 => (i ρ S1).noexc.bind fun k S2 => (setD x k d S2).bind fun _ S3 => .ok ρ S3
theorem dg_sub {I : Nat → Prop} {o i : Expr} {mo mi : M D} (ho : PE X o (rdE B mo)) (hi : PE X i (rdE B mi)) (ha : ∀ v, assign (.Subscript o i pos) X.env v = (do
      let ov ← holding [v] (eval o X.env)
      let iv ← holding [v, ov] (eval i X.env)
      standAt pos
      holding [v, ov, iv] (setItem ov iv v)
      release [v, ov, iv] []) := by intro _; rfl) : PG X (.Subscript o i pos) (rdG B I (tSub mo mi)) :=
  PG.imp (pg_sub ho hi set_list ha) fun v σ H Q ⟨ρ, S, θ, d, R0, rs, r, f⟩ => ⟨ρ, S, θ, R0, rs, Fin.noexc (σ := σ) (Fin.bind f fun x S1 θ1 H1 u _ e1 R1 r1 f1 => ⟨ρ, S1, θ1, R1, rs.ext e1, Fin.noexc (σ := σ) (Fin.bind f1 fun k S2 θ2 H2 w _ e2 R2 r2 f2 => by
    have f3 : Fin B (RSA B I σ) σ θ2 H2 ((setD x k d S2).bind fun _ S3 => .ok ρ S3) Q := f2
    unfold setD at f3
    cases q1 : getM x S2 with
    | none => rw [q1] at f3; exact f3.elim
    | some p =>
      rw [q1] at f3
      cases k with
      | int k =>
        cases r2
        replace f3 : Fin B (RSA B I σ) σ θ2 H2 ((match ixN p.2.length k with | some j => R.ok () (S2.set p.1 (.lst (p.2.set j d))) | none => .bad).bind fun _ S3 => .ok ρ S3) Q := f3
        cases q2 : ixN p.2.length k with
        | none => rw [q2] at f3; exact f3.elim
        | some j =>
          rw [q2] at f3
          obtain ⟨a, xs, rfl, k1, k2, k3, k4⟩ := getM_ok R2 (r1.ext e2) q1
          have w' := R2.write k1 k2 (RDs.set ((r.ext e1).ext e2) j k4)
          exact ⟨a, xs, k, j, rfl, rfl, k3, by rw [← k4.length]; exact q2, Fin.ok (a := ρ) f3 w'.1 w'.2 ⟨((rs.ext e1).ext e2).ext w'.1, .refl⟩⟩
      | _ => exact f3.elim)⟩)⟩

theorem call_repr_bool : CallR X (.builtin "repr") (fun xs H Q => ∃ b, xs = [.bl b] ∧ Q (.str (if b then "True" else "False")) H) := by
  intro pins s σ H xs us Q I r h
  obtain ⟨b, rfl, q⟩ := h
  obtain ⟨u, rfl, rfl⟩ := vals1 r
  exact PySem.P.repr_of_bool ⟨.str _, H, I.tok _, ⟨_, rfl⟩, q⟩
def reprD : Ob := fun ds S => match one1 ds with
  | some (.bl b) => .ok (.str (if b then "True" else "False")) S
  | some (.int i) => if i.natAbs.log2 < 1920 then .ok (.str (toString i)) S else .bad
  | _ => .bad
abbrev rRepr : List V → Hp → VK → Prop := fun xs H Q => (∃ b, xs = [.bl b] ∧ Q (.str (if b then "True" else "False")) H) ∨ ∃ i, xs = [.int i] ∧ i.natAbs.log2 < 1920 ∧ Q (.str (toString i)) H
theorem call_repr2 : CallR X (.builtin "repr") rRepr := CallR.or call_repr_bool SkE.call_repr_int
theorem den_repr : DenB B rRepr reprD := by
  intro σ θ S H ds vs Q R0 r f
  unfold reprD at f
  cases q : one1 ds with
  | none => rw [q] at f; exact f.elim
  | some d =>
    rw [q] at f
    have e := one1_ok q
    subst e
    obtain ⟨v, rfl, r1⟩ := rds1 r
    cases d with
    | bl b => cases r1; exact .inl ⟨b, rfl, Fin.ok (a := D.str (if b then "True" else "False")) f .refl R0 (.str _)⟩
    | int i =>
      cases r1
      obtain ⟨c, f2⟩ := Fin.ite (c := i.natAbs.log2 < 1920) f
      exact .inr ⟨i, rfl, c, f2.ok .refl R0 (.str _)⟩
    | _ => exact f.elim
end
end DM

namespace DM
open PySem PySem.Spec L2
open PyProof.Rows hiding St

/-- what is asked of the law's mirror -/
def LawTrue (m : Fm) : Prop := ∀ ns : List Int, ns.length ≤ 63 → ∃ S, m [.kst (ns.map .int)] [] = .ok (.bl true) S
theorem rds_ints {G : Gv} {θ : List Addr} {H : Hp} : ∀ ns : List Int, RDs G θ H (ns.map D.int) (ns.map V.int)
  | [] => .nil
  | n :: r => .cons (.int n) (rds_ints r)
theorem law_sp {G : Gv} {m : Fm} (hm : LawTrue m) {H : Hp} {a : Addr} {ns : List Int} (hl : ns.length ≤ 63) (hO : Only H) (hT : LamX.Tabs G.tt H) (hS : SqL G.K H a (ns.map V.int)) : spD G 1 m [.ref a] H (fun v _ => v = .bl true) fun _ _ _ => False := by
  obtain ⟨S, e⟩ := hm ns hl
  have fl : FL G.K H a (ns.map V.int) := by
    rcases hS with (h | ⟨o, h⟩) | h
    · rcases hO a with z | ⟨o, xs, z⟩
      · rw [z] at h; cases h
      · rw [z] at h; cases h
    · exact .inl ⟨o, h⟩
    · exact .inr h
  refine ⟨fun _ => False, [.kst (ns.map .int)], [], [], rfl, ⟨rfl, List.nodup_nil, fun n a c h => by simp at h, .refl, fun _ h => h.elim, hT⟩, .cons (.kst fl (rds_ints ns)) .nil, ?_⟩
  rw [e]
  intro θ' H' v _ _ r
  cases r
  rfl
theorem law_callG {P : Program} {w : World} {K : PySem.W.Frag} {mg mb : Str → Option Value} {k : Nat} {fa a : Addr} {fd : FuncData} {x : Str} {sp : Sp} {s₁ : Shared} {vs : List Value} {ns : List Int}
    (KX : K.In s₁.heap) (hns : s₁.heap.Ns mainGlobals mg) (hb : s₁.heap.Ns builtinsNs mb) (hbb : ∀ x : Str, x ≠ "__name__" → mb x = bootBuiltins x) (hlim : s₁.heap.NoLimit) (hg : s₁.gens = #[])
    (ha : s₁.heap.get? a = some { cls := .type "list", data := .seq vs.toArray }) (hi : PyProof.Rows.IntsAre vs ns) (hl : ns.length ≤ sizeLine) (hr : Room k callerA)
    (FF : ∀ base : Heap, K.In base → base.Ns mainGlobals mg → FnG P w K mg base k fa fd [x] sp) (hbind : ∀ (s : Shared) (u : Value), BindsTo s fd ⟨[u], []⟩ [(x, u)])
    (hsp : ∀ H : Hp, Only H → SqL K H a (ns.map V.int) → sp [.ref a] H (fun v _ => v = .bl true) fun _ _ _ => False) :
    codeAny (model P w) callerA (.call (.ref fa) ⟨[.ref a], []⟩) (fun r s' => r = .ok (.ret (.bool true)) ∧ OldK s₁.heap s'.heap ∧ s'.os = s₁.os ∧ AllBare s'.gens) s₁ := by
  have rv := vals_ints hi
  have lv := hi.length
  suffices core : ∀ H : Hp, Only H → SqL K H a (ns.map V.int) → HOk P w H s₁.heap → (∀ b, H b ≠ none → b = a) → (H a ≠ none → K.lookup a = none) →
      codeAny (model P w) callerA (.call (.ref fa) ⟨[.ref a], []⟩) (fun r s' => r = .ok (.ret (.bool true)) ∧ OldK s₁.heap s'.heap ∧ s'.os = s₁.os ∧ AllBare s'.gens) s₁ by
    cases hk : K.lookup a with
    | some o =>
      have e := KX a o hk
      rw [ha] at e
      cases e
      exact core (fun _ => none) (fun _ => .inl rfl) (.inr ⟨_, vs.toArray, _, hk, rfl, rfl, rfl, by simpa [lv] using hl, by simpa using rv⟩) (fun b u z => by cases z) (fun b z => absurd rfl z) fun z => absurd rfl z
    | none =>
      let H0 : Hp := fun b => if b = a then some (.frz { cls := .type "list", data := .seq vs.toArray } (.lst (ns.map V.int))) else none
      have at_a : H0 a = some (.frz { cls := .type "list", data := .seq vs.toArray } (.lst (ns.map V.int))) := if_pos rfl
      have off_a : ∀ {b : Addr}, b ≠ a → H0 b = none := fun h => if_neg h
      refine core H0 (fun b => ?_) (.inl (.inr ⟨_, at_a⟩)) (fun b u z => ?_) (fun b z => Classical.byContradiction fun h => z (off_a h)) fun _ => hk
      · by_cases h : b = a
        · subst h; exact .inr ⟨_, _, at_a⟩
        · exact .inl (off_a h)
      · by_cases h : b = a
        · subst h
          rw [at_a] at z; cases z
          exact ⟨ha, by rw [List.length_map]; exact hl, vs, _, rv, ha⟩
        · rw [off_a h] at z; cases z
  intro H hO hS hok hA hK
  have noA : ∀ {b : Addr} {o : Obj} {es : Array DictEntry} {ep : Nat}, s₁.heap.get? b = some o → o.data = .dict es ep → H b = none := fun {b o es ep} e d => by
    cases q : H b with
    | none => rfl
    | some u =>
      have e' : b = a := hA b (by rw [q]; exact fun z => by cases z)
      subst e'
      rw [ha] at e; cases e
      cases d
  have nsK : ∀ {b : Addr} {m : Str → Option Value}, s₁.heap.Ns b m → (hidT s₁.heap H).Ns b m := fun {b m} ⟨o, es, ep, e, d, r⟩ => ⟨o, es, ep, hidT_get e (noA e d), d, r⟩
  have hKb : K.In (hidT s₁.heap H) := fun b o e => hidT_get (KX b o e) (by
    cases q : H b with
    | none => rfl
    | some u =>
      have hn : H b ≠ none := by rw [q]; exact fun z => by cases z
      have e' : b = a := hA b hn
      subst e'
      rw [hK hn] at e; cases e)
  obtain ⟨mc, l1, l2⟩ := hlim
  have e0 : Env0 P w K mg (hidT s₁.heap H) callerA [] s₁ H :=
    ⟨rfl, ⟨hKb, nsK hns, ⟨mb, nsK hb, hbb⟩, mc, nsK l1, l2⟩, fun b o e => of_hidT e, Nat.le_of_eq (hidT_size _ _), trivial, fun b hb => absurd hb (by simp [frs]), hok, .of_eq hg⟩
  refine codeAny_mono ((FF _ hKb (nsK hns)).run callerA [] s₁ H ⟨[.ref a], []⟩ [.ref a] [.ref a] _ _ hr rfl e0 (hbind s₁ (.ref a)) (.cons rfl .nil) (hsp H hO hS)) fun r s' h => ?_
  match r, h with
  | .error e, h =>
    obtain ⟨_, _, _, _, _, _, _, _, _, _, _, _, z⟩ := h
    exact z.elim
  | .ok (.ret u), h =>
    obtain ⟨v, H', os, bare, un, hok', r', q⟩ := h
    have q' : v = .bl true := q
    subst q'
    have r2 : u = Value.bool true := r'
    subst r2
    refine ⟨rfl, OldK.of_keep fun b o e => ?_, os, bare⟩
    cases q : H b with
    | none => exact un.keep b o e q (by simp [frs]) (by simp)
    | some u =>
      rcases hO b with z | ⟨ob, xs, z⟩
      · rw [q] at z; cases z
      · have z2 := un.frzs b ob _ z
        obtain ⟨e1, _⟩ := hok b _ z
        obtain ⟨e2, _⟩ := hok' b _ z2
        rw [e] at e1; cases e1
        exact e2
/-- the goal that the head leaves -/
theorem walk_end {l : PySem.W.OpenLaw} {k : Nat} {q : Program} {loose : List Str} {XP : (Str → Option Value) → Heap → Prop} {YP : World → Heap → Prop} {d : DefRec} {K : Params → PySem.W.Frag} {fz : World → (Str → Option Value) → Nat → Option Addr} {x : Str} {m : Fm} (hm : LawTrue m)
    (hn : l.most = some 63) (hdf : d.params.defaults = []) (hr : Room k callerA) (hY : ∀ (w : World) (h : Heap), YP w h → (K w.params).In h)
    (FF : ∀ (w : World) (mg : Str → Option Value) (fa : Addr) (h : Heap), (K w.params).In h → h.Ns mainGlobals mg → mg d.name = some (.ref fa) →
      ∃ (G : Gv) (fd : FuncData), (G.K = K w.params ∧ G.tt = []) ∧ (∀ (s : Shared) (u : Value), BindsTo s fd ⟨[u], []⟩ [(x, u)]) ∧ ∀ base : Heap, (K w.params).In base → base.Ns mainGlobals mg → FnG l.prog w (K w.params) mg base k fa fd [x] (spD G 1 m)) :
    PySem.W.WalkO q loose XP YP l.row.toRowW d [] (fun f vs => PySem.call f vs) := by
  refine Att.attach_call hn hdf fun w s₀ s₁ mg mb fa o pm cd doc a vs ns G Y ho hd hcd hmg hobj hints hlen hg => ?_
  have KX := hY w _ Y
  obtain ⟨Gv, fd, ⟨hK, hT⟩, hb, hF⟩ := FF w mg fa _ KX G.T.g hmg
  exact law_callG KX G.T.g G.T.b G.T.builtins G.T.nolimit hg hobj hints (Nat.le_trans hlen (by decide)) hr hF hb fun H hO hS => law_sp hm hlen hO (by rw [hT]; exact fun p hp => absurd hp (by simp)) (hK ▸ hS)
end DM

namespace DM
open PySem PySem.Spec L2
open PyProof.Rows hiding St

section
variable {X : Cx} {B : Bv} {pos : Pos}
theorem hu65 {k : Nat} {A : Around} (r : Room k A) : A.units + 65 < cLine := by have := r.un; omega
theorem de_gi {x : Str} {v : Int} (hg : Gl X x) (hm : ∃ t, X.mg x = some (.int v t)) (hd : (x == ("__debug__" : Str)) = false := by decide) : PE X (.Name x pos) (rdE B (mC (.int v))) := by
  obtain ⟨t, e⟩ := hm
  exact de_c (v := .int v) (pe_glob hg e ⟨t, rfl⟩ hd) fun _ _ => .int v
theorem de_gs {x : Str} {v : Str} (hg : Gl X x) (hm : ∃ t, X.mg x = some (.str v t)) (hd : (x == ("__debug__" : Str)) = false := by decide) : PE X (.Name x pos) (rdE B (mC (.str v))) := by
  obtain ⟨t, e⟩ := hm
  exact de_c (v := .str v) (pe_glob hg e ⟨t, rfl⟩ hd) fun _ _ => .str v
theorem ds_never {st : Stmt} : PS X st (rdS B fun _ _ => .bad) := PS.imp ps_never fun D σ H ⟨ρ, S, θ, R0, rs, f⟩ => f.elim

def putKD (kvs : List (Key × D)) (k : Key) (d : D) : List (Key × D) := if (kvs.any fun kv => decide (kv.1 = k)) = true then kvs.map (fun kv => if kv.1 = k then (kv.1, d) else kv) else kvs ++ [(k, d)]
section
variable {G : Gv} {θ : List Addr} {H : Hp}
theorem RK.any {k : Key} : ∀ {r : List (Key × D)} {s : List (Key × V)}, RK G θ H r s → (r.any fun kv => decide (kv.1 = k)) = (s.any fun kv => decide (kv.1 = k))
  | _, _, .nil => rfl
  | _, _, .cons _ t => by rw [List.any_cons, List.any_cons, RK.any t]
theorem RK.map {k : Key} {d : D} {v : V} (h : RD G θ H d v) : ∀ {r : List (Key × D)} {s : List (Key × V)}, RK G θ H r s → RK G θ H (r.map fun kv => if kv.1 = k then (kv.1, d) else kv) (s.map fun kv => if kv.1 = k then (kv.1, v) else kv)
  | _, _, .nil => .nil
  | _, _, .cons (k := k2) q t => by
    rw [List.map_cons, List.map_cons]
    by_cases e : k2 = k
    · rw [if_pos e, if_pos e]; exact .cons h (RK.map h t)
    · rw [if_neg e, if_neg e]; exact .cons q (RK.map h t)
theorem RK.snoc {k : Key} {d : D} {v : V} (h : RD G θ H d v) : ∀ {r : List (Key × D)} {s : List (Key × V)}, RK G θ H r s → RK G θ H (r ++ [(k, d)]) (s ++ [(k, v)])
  | _, _, .nil => .cons h .nil
  | _, _, .cons q t => .cons q (RK.snoc h t)
theorem RK.put {k : Key} {d : D} {v : V} (h : RD G θ H d v) {r : List (Key × D)} {s : List (Key × V)} (q : RK G θ H r s) : RK G θ H (putKD r k d) (putK s k v) := by
  unfold putKD putK
  rw [RK.any q]
  split
  · exact RK.map h q
  · exact RK.snoc h q
theorem RK.fold : ∀ {r : List (Key × D)} {s : List (Key × V)} {r0 : List (Key × D)} {s0 : List (Key × V)}, RK G θ H r s → RK G θ H r0 s0 → RK G θ H (r.foldl (fun a p => putKD a p.1 p.2) r0) (s.foldl (fun a p => putK a p.1 p.2) s0)
  | _, _, _, _, .nil, q => q
  | _, _, _, _, .cons (k := k) h t, q => by
    have z := RK.fold t (RK.put (k := k) h q)
    exact z
theorem RK.keys : ∀ {r : List (Key × D)} {s : List (Key × V)}, RK G θ H r s → s.map (·.1) = r.map (·.1)
  | _, _, .nil => rfl
  | _, _, .cons _ t => by rw [List.map_cons, List.map_cons, RK.keys t]
end
def keyD : D → Option Key
  | .int i => some (.inl i)
  | .str s => some (.inr s)
  | _ => none
theorem keyD_ok {G : Gv} {θ : List Addr} {H : Hp} {d : D} {v : V} {k : Key} (r : RD G θ H d v) (e : keyD d = some k) : v = kV k := by
  cases r with
  | int i => cases e; rfl
  | str s => cases e; rfl
  | _ => cases e
def pairD : D → Option (Key × D)
  | .tup [k, v] => (keyD k).map fun k => (k, v)
  | _ => none
theorem pairs_ok {G : Gv} {θ : List Addr} {H : Hp} : ∀ {ds : List D} {vs : List V} {ps : List (Key × D)}, RDs G θ H ds vs → ds.mapM pairD = some ps → ∃ (as : List Addr) (kvs : List (Key × V)), vs = as.map V.ref ∧ Paired (fun p kv => SqT G.K H p [kV kv.1, kv.2]) as kvs ∧ RK G θ H ps kvs
  | _, _, ps, .nil, e => by
    cases (show some [] = some ps from e)
    exact ⟨[], [], rfl, .nil, .nil⟩
  | _, _, ps, .cons (d := d) r t, e => by
    obtain ⟨p, qs, e1, e2, rfl⟩ := mapM_cons_some e
    obtain ⟨as, kvs, rfl, h2, h3⟩ := pairs_ok t e2
    unfold pairD at e1
    split at e1
    · rename_i k v
      obtain ⟨kk, e3, rfl⟩ := map_some e1
      cases r with
      | @tup a xs _ k1 k2 =>
        obtain ⟨x, y, rfl, r1, r2⟩ := rds2 k2
        rw [keyD_ok r1 e3] at k1
        exact ⟨a :: as, (kk, y) :: kvs, rfl, .cons k1.sq h2, .cons r2 h3⟩
    · cases e1
def dictD : Ob := fun ds S => match one1 ds with
  | some d => match getL d S with
    | some xs => match xs.mapM pairD with
      | some ps => .ok (.ref S.length) (S ++ [.dct (ps.foldl (fun a p => putKD a p.1 p.2) [])])
      | none => .bad
    | none => .bad
  | none => .bad
abbrev rDictP (K : PySem.W.Frag) : List V → Hp → VK → Prop := fun xs H Q => ∃ (a : Addr) (ps : List Addr) (kvs : List (Key × V)), xs = [.ref a] ∧ SqL K H a (ps.map V.ref) ∧ Paired (fun p kv => SqT K H p [kV kv.1, kv.2]) ps kvs ∧
    ∀ p, H p = none → Q (.ref p) (upd H p (.dK (mergeK [] kvs)))
theorem den_dict (hK : B.G.K = X.K) : DenB B (rDictP X.K) dictD := by
  intro σ θ S H ds vs Q R0 r f
  unfold dictD at f
  cases q : one1 ds with
  | none => rw [q] at f; exact f.elim
  | some d =>
    rw [q] at f
    have e := one1_ok q
    subst e
    obtain ⟨v, rfl, r1⟩ := rds1 r
    replace f : Fin B (RD B.G) σ θ H (match getL d S with | some xs => (match xs.mapM pairD with | some ps => R.ok (D.ref S.length) (S ++ [.dct (ps.foldl (fun a p => putKD a p.1 p.2) [])]) | none => .bad) | none => .bad) Q := f
    cases q1 : getL d S with
    | none => rw [q1] at f; exact f.elim
    | some xs =>
      rw [q1] at f
      replace f : Fin B (RD B.G) σ θ H (match xs.mapM pairD with | some ps => R.ok (D.ref S.length) (S ++ [.dct (ps.foldl (fun a p => putKD a p.1 p.2) [])]) | none => .bad) Q := f
      cases q2 : xs.mapM pairD with
      | none => rw [q2] at f; exact f.elim
      | some ps =>
        rw [q2] at f
        obtain ⟨a, ws, rfl, k1, k2⟩ := getL_ok R0 r1 q1
        obtain ⟨as, kvs, rfl, h2, h3⟩ := pairs_ok k2 q2
        rw [hK] at k1 h2
        exact ⟨a, as, kvs, rfl, k1, h2, fun p hp => Fin.ok f (ext_cell hp) (R0.allocC hp ⟨_, upd_same, (RK.fold h3 .nil).ext (ext_cell hp)⟩) (RD.new R0)⟩

def insI (x : Int) : List Int → List Int
  | [] => [x]
  | y :: r => if x ≤ y then x :: y :: r else y :: insI x r
def srtI : List Int → List Int
  | [] => []
  | x :: r => insI x (srtI r)
theorem insI_perm (x : Int) : ∀ l : List Int, (insI x l).Perm (x :: l)
  | [] => .refl _
  | y :: r => by
    unfold insI
    split
    · exact .refl _
    · exact ((insI_perm x r).cons y).trans (.swap x y r)
theorem srtI_perm : ∀ l : List Int, (srtI l).Perm l
  | [] => .refl _
  | x :: r => (insI_perm x (srtI r)).trans ((srtI_perm r).cons x)
theorem insI_sorted (x : Int) : ∀ {l : List Int}, l.Pairwise (· ≤ ·) → (insI x l).Pairwise (· ≤ ·)
  | [], _ => by simp [insI]
  | y :: r, h => by
    unfold insI
    rw [List.pairwise_cons] at h
    split
    · rename_i hx
      rw [List.pairwise_cons]
      refine ⟨fun z hz => ?_, List.pairwise_cons.mpr h⟩
      rcases List.mem_cons.mp hz with rfl | hz
      · exact hx
      · exact Int.le_trans hx (h.1 z hz)
    · rename_i hx
      rw [List.pairwise_cons]
      refine ⟨fun z hz => ?_, insI_sorted x h.2⟩
      rcases List.mem_cons.mp ((insI_perm x r).mem_iff.mp hz) with rfl | hz
      · omega
      · exact h.1 z hz
theorem srtI_sorted : ∀ l : List Int, (srtI l).Pairwise (· ≤ ·)
  | [] => .nil
  | x :: r => insI_sorted x (srtI_sorted r)
theorem srtI_eq {l m : List Int} (h : m.Perm l) (hs : m.Pairwise (· ≤ ·)) : m = srtI l :=
  List.Perm.eq_of_pairwise (fun a b _ _ h1 h2 => Int.le_antisymm h1 h2) hs (srtI_sorted l) (h.trans (srtI_perm l).symm)
def intK : Key × D → Option Int
  | (.inl i, _) => some i
  | _ => none
theorem intK_ok : ∀ {kvs : List (Key × D)} {ns : List Int}, kvs.mapM intK = some ns → kvs.map (·.1) = ns.map Sum.inl
  | [], ns, e => by cases (show some [] = some ns from e); rfl
  | p :: r, ns, e => by
    obtain ⟨n, ms, e1, e2, rfl⟩ := mapM_cons_some e
    rw [List.map_cons, List.map_cons, intK_ok e2]
    congr 1
    obtain ⟨k, d⟩ := p
    cases k with
    | inl i => cases e1; rfl
    | inr s => cases e1
def sortedD : Ob := fun ds S => match one1 ds with
  | some d => match getK d S with
    | some kvs => match kvs.mapM intK with
      | some ns => if ns.length < 64 then .ok (.ref S.length) (S ++ [.lst ((srtI ns).map .int)]) else .bad
      | none => .bad
    | none => match getL d S with
      | some xs => match asInts xs with
        | some ns => .ok (.ref S.length) (S ++ [.lst ((srtI ns).map .int)])
        | none => .bad
      | none => .bad
  | none => .bad
abbrev rSortA (K : PySem.W.Frag) : List V → Hp → VK → Prop := fun xs H Q => (∃ (a : Addr) (kvs : List (Key × V)) (ks : List Int), xs = [.ref a] ∧ Rd H a (.dK kvs) ∧ kvs.map (·.1) = ks.map Sum.inl ∧ ks.length < 64 ∧
    ∀ (ys : List Int) (p : Addr), ys.Perm ks → ys.Pairwise (· ≤ ·) → H p = none → Q (.ref p) (upd H p (.lst (ys.map V.int)))) ∨ rSortedI K xs H Q
theorem call_sortedA (hc : X.calm = true) : CallR X (.builtin "sorted") (rSortA X.K) := CallR.or (call_sortedDI hc) cr_sortedI
theorem den_sorted (hK : B.G.K = X.K) : DenB B (rSortA X.K) sortedD := by
  intro σ θ S H ds vs Q R0 r f
  unfold sortedD at f
  cases q : one1 ds with
  | none => rw [q] at f; exact f.elim
  | some d =>
    rw [q] at f
    have e := one1_ok q
    subst e
    obtain ⟨v, rfl, r1⟩ := rds1 r
    have fin : ∀ (ns ys : List Int) (p : Addr), Fin B (RD B.G) σ θ H (.ok (.ref S.length) (S ++ [.lst ((srtI ns).map .int)])) Q → ys.Perm ns → ys.Pairwise (· ≤ ·) → H p = none → Q (.ref p) (upd H p (.lst (ys.map V.int))) := fun ns ys p f h1 h2 hp => by
      rw [srtI_eq h1 h2]
      exact Fin.ok f (ext_cell hp) (R0.alloc hp (rds_ints _)) (RD.new R0)
    dsimp only at f
    cases q1 : getK d S with
    | some kvs =>
      rw [q1] at f
      dsimp only at f
      cases q2 : kvs.mapM intK with
      | none => rw [q2] at f; exact f.elim
      | some ns =>
        rw [q2] at f
        obtain ⟨h64, f2⟩ := Fin.ite (c := ns.length < 64) f
        obtain ⟨n, a, es, rfl, rfl, _, _, h1, h2⟩ := getK_ok R0 r1 q1
        exact .inl ⟨a, es, ns, rfl, .inl h1, h2.keys.trans (intK_ok q2), h64, fun ys p => fin ns ys p f2⟩
    | none =>
      rw [q1] at f
      dsimp only at f
      cases q2 : getL d S with
      | none => rw [q2] at f; exact f.elim
      | some xs =>
        rw [q2] at f
        dsimp only at f
        cases q3 : asInts xs with
        | none => rw [q3] at f; exact f.elim
        | some ns =>
          rw [q3] at f
          obtain ⟨a, ws, rfl, k1, k2⟩ := getL_ok R0 r1 q2
          rw [asInts_ok k2 q3, hK] at k1
          exact .inr ⟨a, ns, rfl, k1, fun ys p => fin ns ys p f⟩

end
end DM

namespace DM
open PySem PySem.Spec L2
open PyProof.Rows hiding St

section
variable {X : Cx} {pins : List (Addr × Obj)} {σ : St} {H : Hp} {s : Shared}
/-- an address that is new at I's state is off all that I speak of -/
theorem off_new (I : Inv X pins σ H s) {p : Addr} (hp : s.heap.objs.size ≤ p) : H p = none ∧ p ≠ X.env.locals ∧ p ∉ X.fs ∧ X.s_0.heap.objs.size ≤ p ∧ (∀ x c, X.env.cells.lookup x = some c → c ≠ p) ∧ ∀ q ∈ X.pn ++ pins, q.1 ≠ p := by
  refine ⟨I.hok.fresh hp, fun z => ?_, I.nofs hp, Nat.le_trans I.sz hp, fun x c e z => ?_, fun q hq z => ?_⟩
  · exact absurd (z ▸ I.lt) (Nat.not_lt.mpr hp)
  · obtain ⟨v, o, ho, _⟩ := I.cell x c e
    exact absurd (z ▸ Heap.lt_size ho) (Nat.not_lt.mpr hp)
  · exact absurd (z ▸ Heap.lt_size (I.pin q hq).1) (Nat.not_lt.mpr hp)
theorem valsAt : ∀ {xs : List V} {us : List Value} {j : Nat} {u : Value}, Vals xs us → us[j]? = some u → ∃ x, xs[j]? = some x ∧ RelV x u
  | _, _, j, u, .nil, e => by simp at e
  | _, _, 0, u, .cons r t, e => by simp at e; subst e; exact ⟨_, rfl, r⟩
  | _, _, j + 1, u, .cons r t, e => by
    obtain ⟨x, h1, h2⟩ := valsAt (j := j) (u := u) t (by simpa using e)
    exact ⟨x, by simpa using h1, h2⟩
theorem valsSnoc {x : V} {u : Value} (h : RelV x u) : ∀ {xs : List V} {us : List Value}, Vals xs us → Vals (xs ++ [x]) (us ++ [u])
  | _, _, .nil => .cons h .nil
  | _, _, .cons r t => .cons r (valsSnoc h t)
def srtK (xs : List V) (kz : List PyData) : List V := ((xs.zip kz).mergeSort (PySem.W.dataLe false (·.2))).map (·.1)
theorem each_zip {xs : List V} {us : List Value} (r : Vals xs us) : ∀ {kz : List PyData}, kz.length = xs.length → PySem.W.EachIs (fun (v : Value) (b : V × PyData) => RelV b.1 v) us (xs.zip kz) := by
  induction r with
  | nil => intro kz h; cases kz with
    | nil => exact .nil
    | cons => cases h
  | cons h t ih => intro kz e; cases kz with
    | nil => cases e
    | cons k kz => exact .cons h (ih (by simpa using e))
theorem each_vals {us : List Value} {bs : List (V × PyData)} (e : PySem.W.EachIs (fun (v : Value) (b : V × PyData) => RelV b.1 v) us bs) : Vals (bs.map (·.1)) us := by
  induction e with
  | nil => exact .nil
  | cons h t ih => exact .cons h ih
theorem map_zip_snd {xs : List V} : ∀ {kz : List PyData}, kz.length = xs.length → (xs.zip kz).map (·.2) = kz := fun {kz} h => by
  rw [← List.unzip_snd, List.unzip_zip h.symm]
theorem dps_reads (I : Inv X pins σ H s) : ∀ {ks : List V} {us : List Value} {kz : List PyData}, Vals ks us → DpAll X.K H ks kz → PySem.W.EachIs (fun v k => ∃ as, Reads s.heap v k as) us kz
  | _, _, _, .nil, .nil => .nil
  | _, _, _, .cons r t, .cons h q => .cons (Dp.reads I _ _ _ h r) (dps_reads I t q)
/-- the same of a list or a tuple: what a built-in collects -/
theorem seq_at (I : Inv X pins σ H s) {l : Addr} {xs : List V} (h : SqL X.K H l xs ∨ SqT X.K H l xs) : ∃ (its : List Value) (T : String) (o : Obj) (n : Nat), Vals xs its ∧ (T = "list" ∨ T = "tuple") ∧ s.heap.get? l = some o ∧ o.cls = .type T ∧ o.data = .seq its.toArray n ∧ xs.length ≤ sizeLine := by
  rcases h with h | h
  · obtain ⟨its, rv, ⟨o, n, h1, h2, _, h3⟩, hz⟩ := I.list h
    exact ⟨its, _, o, n, rv, .inl rfl, h1, h2, h3, hz⟩
  · obtain ⟨its, rv, ⟨o, h1, h2, n, h3⟩, hz⟩ := I.tuple h
    exact ⟨its, _, o, n, rv, .inr rfl, h1, h2, h3, hz⟩
theorem sortK_run {l fa : Addr} {xs : List V} {Q : VK} (I : Inv X pins σ H s) (hs : SqL X.K H l xs ∨ SqT X.K H l xs) (J : Nat → List V → Hp → Prop) (h0 : J 0 [] H)
    (turn : ∀ (i : Nat) (x : V) (ks : List V) (H1 : Hp) (ps : List (Addr × Obj)) (s1 : Shared) (u : Value), xs[i]? = some x → J i ks H1 → Inv X ps σ H1 s1 → RelV x u →
      wpAny (model X.prog X.w) X.A.in1.in1 (call (.ref fa) [u]) (fun r s2 => ∃ k H2, Inv X ps σ H2 s2 ∧ RelV k r ∧ J (i + 1) (ks ++ [k]) H2) (fun _ _ => False) s1)
    (done : ∀ (ks : List V) (H1 : Hp), J xs.length ks H1 → ∃ kz, DpAll X.K H1 ks kz ∧ kz.length = xs.length ∧ PySem.W.AllAlike kz ∧ PySem.W.Sortable kz ∧ (∀ d ∈ kz, X.A.in1.in1.units + d.depth < cLine) ∧ ∀ p, H1 p = none → Q (.ref p) (upd H1 p (.lst (srtK xs kz)))) :
    wpAny (model X.prog X.w) X.A (call (.builtin "sorted") [.ref l] [(Str.ofString "key", .ref fa)]) (EP X pins σ Q) X.xe s := by
  obtain ⟨its, T, ob, n0, rv, hT, hob, hcl, hda, hz⟩ := seq_at I hs
  have hzl : its.length ≤ sizeLine := by rw [← rv.length]; exact hz
  refine PyProof.Rows.call_function_entry_kw kind_sorted plain_sorted entry_sorted (PyProof.Rows.ksk_s1 _ _) ?_
  unfold Builtin.«sorted»
  refine wpAny_bind (m := checkCount "sorted" 1 1 _) (wpAny_pure ?_)
  refine wpAny_bind (wpAny_collect_seq l hT hob hcl hda (fun hp kp0 => ?_) hzl)
  have Ip : Inv X pins σ H { s with heap := hp } := I.kept (t' := s.toks) kp0
  refine wpAny_bind (wpAny_newList ?_ hzl)
  show wpAny _ _ _ _ _ { s with heap := hp.push (seqObj "list" its.toArray 0) }
  obtain ⟨a, ea⟩ : ∃ a, a = hp.objs.size := ⟨_, rfl⟩
  rw [← ea]
  have hoL : (hp.push (seqObj "list" its.toArray 0)).get? a = some (seqObj "list" its.toArray 0) := by rw [ea]; exact Heap.get?_push_size _ rfl
  have hah : a < (hp.push (seqObj "list" its.toArray 0)).objs.size := Heap.lt_size hoL
  refine wpAny_bind (wpAny_holding (PyProof.Rows.wpAny_call_entry_kw slot_list_sort ⟨_, hoL, rfl⟩ entry_list_sort ?_ (PyProof.Rows.ksk_l1 _ _)))
  show wpAny _ X.A.in1.in1 _ _ _ _
  rw [ksk_t1]
  suffices main : wpAny (model X.prog X.w) X.A.in1.in1 (ksk_tree a (.ref fa) false) (fun f s' => f = .done (.ret .none) ∧ EP X pins σ Q (.ref a) s') X.xe { s with heap := hp.push (seqObj "list" its.toArray 0) } by
    refine wpAny_mono main (fun f s' hf => ?_) fun _ _ e => e
    obtain ⟨rfl, hq⟩ := hf
    exact ⟨_, rfl, wpAny_pure ⟨_, rfl, hq⟩⟩
  obtain ⟨e1, ho1⟩ : ∃ e1, ((hp.push (seqObj "list" its.toArray 0)).update a (Obj.mapSeq fun _ => (#[] : Array Value))).get? a = some (seqObj "list" #[] e1) := ⟨_, get?_update_seq hoL fun _ => #[]⟩
  obtain ⟨kS, ek⟩ : ∃ kS, kS = (((hp.push (seqObj "list" its.toArray 0)).update a (Obj.mapSeq fun _ => (#[] : Array Value))).push (seqObj "tuple" its.toArray 0)).objs.size := ⟨_, rfl⟩
  have hkS : a < kS := by rw [ek, size_push', Heap.size_update]; omega
  unfold ksk_tree
  refine wpAny_bind (listItems_at hoL rfl ?_)
  refine wpAny_bind (listUpdate_at hoL rfl ?_ (by rw [List.size_toArray]; exact hzl) (Nat.zero_le _))
  refine wpAny_bind (seqEpoch_at ho1 rfl ?_)
  refine wpAny_bind (wpAny_newTuple ?_ (by show its.length ≤ _; exact hzl))
  refine wpAny_bind (wpAny_newList ?_ (Nat.zero_le _))
  refine wpAny_holding ?_
  have na : hp.objs.size ≤ a := Nat.le_of_eq ea.symm
  have nk : hp.objs.size ≤ kS := Nat.le_trans na (Nat.le_of_lt hkS)
  have hka : kS ≠ a := by omega
  obtain ⟨a1, a2, a3, a4, a5, a6⟩ := off_new Ip na
  obtain ⟨k1, k2, k3, k4, k5, k6⟩ := off_new Ip nk
  have I0 : Inv X pins σ H { s with heap := PySem.W.sortingHeap (hp.push (seqObj "list" its.toArray 0)) a its } := I.kept (t' := s.toks) fun b o e => PySem.W.sortingHeap_old (Nat.ne_of_lt (ea ▸ Heap.lt_size (kp0 b o e))) (Heap.get?_push_of_some _ (kp0 b o e))
  have at_a : (PySem.W.sortingHeap (hp.push (seqObj "list" its.toArray 0)) a its).get? a = some (seqObj "list" #[] e1) := Heap.get?_push_of_some _ (Heap.get?_push_of_some _ ho1)
  have at_k : (PySem.W.sortingHeap (hp.push (seqObj "list" its.toArray 0)) a its).get? kS = some (seqObj "list" #[] 0) := by rw [ek]; exact Heap.get?_push_size _ rfl
  show wpAny _ _ (ksk_rest a (.ref fa) false its.toArray e1 (.ref (((hp.push (seqObj "list" its.toArray 0)).update a (Obj.mapSeq fun _ => (#[] : Array Value))).push (seqObj "tuple" its.toArray 0)).objs.size)) _ _ { s with heap := PySem.W.sortingHeap (hp.push (seqObj "list" its.toArray 0)) a its }
  rw [← ek]
  -- the pins
  have pinA : ∀ {H1 : Hp} {s1 : Shared} {kA : Array Value} {e : Nat}, Inv X pins σ H1 s1 → s1.heap.get? a = some (seqObj "list" #[] e1) → s1.heap.get? kS = some (seqObj "list" kA e) → H1 a = none → H1 kS = none → Inv X (pins ++ [(a, seqObj "list" #[] e1), (kS, seqObj "list" kA e)]) σ H1 s1 :=
    fun {H1 s1 kA e} I1 g1 g2 n1 n2 => I1.pins_of fun p hp => by
      rcases List.mem_append.mp hp with hp | hp
      · exact I1.pin p (List.mem_append_right _ hp)
      · rcases List.mem_cons.mp hp with rfl | hp
        · exact ⟨g1, n1, a2, a3, fun v z => by cases z⟩
        · rw [List.mem_singleton.mp hp]
          exact ⟨g2, n2, k2, k3, fun v z => by cases z⟩
  have unpin : ∀ {H1 : Hp} {s1 : Shared} {kA : Array Value} {e : Nat}, Inv X (pins ++ [(a, seqObj "list" #[] e1), (kS, seqObj "list" kA e)]) σ H1 s1 → Inv X pins σ H1 s1 ∧ s1.heap.get? a = some (seqObj "list" #[] e1) ∧ s1.heap.get? kS = some (seqObj "list" kA e) ∧ H1 a = none ∧ H1 kS = none :=
    fun {H1 s1 kA e} I1 => by
      have p1 := I1.pin (a, seqObj "list" #[] e1) (List.mem_append_right _ (List.mem_append_right _ (List.mem_cons_self)))
      have p2 := I1.pin (kS, seqObj "list" kA e) (List.mem_append_right _ (List.mem_append_right _ (List.mem_cons_of_mem _ List.mem_cons_self)))
      exact ⟨I1.unpinned, p1.1, p2.1, p1.2.1, p2.2.1⟩
  unfold ksk_rest
  refine wpAny_bind (wpAny_rule ?_)
  first
    | rw [List.forIn_toArray]
    | (rw [← Array.forIn_toList]; simp only [List.toList_toArray])
    | rw [← Array.forIn_toList]
  refine wpAny_bind (ksk_fold (fun i s1 => ∃ (H1 : Hp) (ks : List V) (kA : Array Value) (e : Nat), Inv X (pins ++ [(a, seqObj "list" #[] e1), (kS, seqObj "list" kA e)]) σ H1 s1 ∧ Vals ks kA.toList ∧ J i ks H1 ∧ ks.length = i) its 0 _
    ⟨H, [], #[], 0, pinA I0 at_a at_k a1 k1, .nil, h0, rfl⟩ ?step ?done)
  case step =>
    rintro j u s1 hu ⟨H1, ks, kA, e, I1, rk, hJ, hkl⟩
    simp only [Nat.zero_add] at hJ hkl ⊢
    obtain ⟨x, hx, rx⟩ : ∃ x, xs[j]? = some x ∧ RelV x u := by
      have hj : j < its.length := (List.getElem?_eq_some_iff.mp hu).1
      exact valsAt rv hu
    have hz2 : kA.size ≤ its.length := by
      have h1 : ks.length = kA.size := rk.length.trans Array.length_toList
      have h2 : j < its.length := (List.getElem?_eq_some_iff.mp hu).1
      rw [← h1, hkl]
      exact Nat.le_of_lt h2
    refine wpAny_bind (wpAny_attempt (wpAny_mono (turn j x ks H1 _ s1 u hx hJ I1 rx) (fun r s2 he => ?_) fun _ _ hF => hF.elim))
    obtain ⟨k, H2, I2, rk2, hJ2⟩ := he
    obtain ⟨I3, g1, g2, n1, n2⟩ := unpin I2
    have sb := Heap.SameBut.update s2.heap kS (Obj.mapSeq (·.push r))
    obtain ⟨c2, hc2⟩ : ∃ c2, (s2.heap.update kS (Obj.mapSeq (·.push r))).get? kS = some (seqObj "list" (kA.push r) c2) := ⟨_, get?_update_seq g2 (·.push r)⟩
    try dsimp only
    refine wpAny_bind (listUpdate_at g2 rfl ?_ (Nat.le_trans hz2 hzl) (Nat.le_trans (Nat.le_of_eq (Array.size_push ..)) (Nat.succ_le_succ (Nat.le_trans hz2 hzl))))
    have I4 : Inv X pins σ H2 { s2 with heap := s2.heap.update kS (Obj.mapSeq (·.push r)) } := I3.turned (t' := s2.toks) (it := kS) (fun b o hb q => (sb.2 b hb).trans q) n2 k2 (.inr k4) k5 k6
    refine wpAny_pure ⟨rfl, H2, ks ++ [k], kA.push r, c2, pinA I4 ((sb.2 a hka.symm).trans g1) hc2 n1 n2, ?_, hJ2, by simp [hkl]⟩
    rw [Array.toList_push]
    exact valsSnoc rk2 rk
  case done =>
    rintro s1 ⟨H1, ks, kA, e, I1, rk, hJ, hkl⟩
    rw [Nat.zero_add, ← rv.length] at hJ hkl
    obtain ⟨kz, hD, hkz, hal, hsk, hu, q⟩ := done ks H1 hJ
    obtain ⟨I3, g1, g2, n1, n2⟩ := unpin I1
    have hsz : kA.size = its.length := by
      have h1 : ks.length = kA.size := rk.length.trans Array.length_toList
      rw [← h1, hkl]
      exact rv.length
    try dsimp only
    refine wpAny_bind (listItems_at g2 rfl ?_)
    obtain ⟨G, r1, r2⟩ := restrict s1.heap fun b => !decide (b = kS)
    have r1' : ∀ b, b ≠ kS → G.get? b = s1.heap.get? b := fun b hb => r1 b (by simp [hb])
    have r2' : G.get? kS = none := r2 kS (by simp)
    have hrd : PySem.W.EachIs (fun v k => ∃ as, Reads s1.heap v k as) kA.toList kz := dps_reads I3 rk hD
    refine PySem.W.keyH_end (κ := PySem.W.dataKind s1.heap kz) (h₁ := G) (fun b o _ q => ?_) r2' g2 g1 hka (PySem.W.SortsAt.data hrd hal hsk hu) hsz hzl fun h3 tk3 c kp n3 => ?_
    · by_cases hb : b = kS
      · subst hb; rw [r2'] at q; cases q
      · rw [← r1' b hb]; exact q
    refine ⟨rfl, ?_⟩
    have hlen : kA.toList.length = its.length := by rw [Array.length_toList]; exact hsz
    have hout : Vals (srtK xs kz) (PySem.W.sortVals (PySem.W.dataKind s1.heap kz) false kA.toList its) := by
      have ko : PySem.W.KeyedOut false ((xs.zip kz).map (·.2)) its (PySem.W.sortVals (PySem.W.dataKind s1.heap kz) false kA.toList its) := by
        rw [map_zip_snd hkz]
        exact ⟨s1.heap, kA.toList, hal, rfl, hrd⟩
      exact each_vals (PySem.W.keyedOut_each (fun b : V × PyData => b.2) ko (each_zip rv hkz))
    have kept : ∀ b o, b ≠ a → b ≠ kS → s1.heap.get? b = some o → h3.get? b = some o := fun b o hb hk q => kp b o hb (by rw [r1' b hk]; exact q)
    have nT : ∀ b o, H1 b = some o → b ≠ a ∧ b ≠ kS := fun b o q => ⟨(fun z => by rw [z, n1] at q; cases q), (fun z => by rw [z, n2] at q; cases q)⟩
    have I5 : Inv X pins σ (upd H1 a (.lst (srtK xs kz))) { s1 with heap := h3, toks := tk3 } := by
      refine I3.step (g' := s1.gens) (d' := s1.drawn) (t' := tk3) (ch := [a, kS]) (fun b hb => ?_) (fun b o _ _ hc q _ => ?_) (fun b o _ _ hc q _ => ?_) (fun b o hc q n => ?_) (fun b o hc q => ?_) (fun b ys q => ?_) (fun b o u q => ?_) (fun b ps q => ?_) (fun m hm => ?_) (fun b u q => ?_) I3.bare
      · rcases List.mem_cons.mp hb with rfl | hb
        · exact ⟨.inr a4, a2, a5, a6⟩
        · rw [List.mem_singleton.mp hb]; exact ⟨.inr k4, k2, k5, k6⟩
      · simp only [List.mem_cons, List.not_mem_nil, or_false, not_or] at hc
        exact kept b o hc.1 hc.2 q
      · simp only [List.mem_cons, List.not_mem_nil, or_false, not_or] at hc
        exact ⟨o.slots, kept b o hc.1 hc.2 q⟩
      · simp only [List.mem_cons, List.not_mem_nil, or_false, not_or] at hc
        rw [upd_ne hc.1]; exact n
      · simp only [List.mem_cons, List.not_mem_nil, or_false, not_or] at hc
        exact ⟨o, kept b o hc.1 hc.2 q⟩
      · rw [upd_ne (nT b _ q).1]; exact q
      · rw [upd_ne (nT b _ q).1]; exact q
      · exact ⟨#[], by rw [upd_ne (nT b _ q).1, q]; simp⟩
      · obtain ⟨o, es, ep, ho, r⟩ := hm
        exact ⟨o, es, ep, kept _ o (Ne.symm a2) (Ne.symm k2) ho, r⟩
      · by_cases hb : b = a
        · subst hb
          rw [upd_same] at q
          cases q
          refine ⟨?_, _, c, hout, n3⟩
          unfold srtK
          rw [List.length_map, List.length_mergeSort, List.length_zip, hkz, Nat.min_self]
          exact hz
        · rw [upd_ne hb] at q
          refine (I3.hok b u q).stay (fun c v hc r => ?_) (fun c r => ?_) fun c ys r => ?_
          · rcases hc with z | z
            · rw [z] at r ⊢; exact kept b v hb (nT b _ q).2 r
            · exact kept c v (nT c _ z).1 (nT c _ z).2 r
          · rw [upd_ne (nT c _ r).1]; exact r
          · rw [upd_ne (nT c _ r).1]; exact r
    exact ⟨.ref a, _, I5, rfl, q a n1⟩
end
end DM

namespace DM
open PySem PySem.Spec L2
open PyProof.Rows hiding St

section
variable {X : Cx} {B : Bv} {pos : Pos}
def keysD (m : Fm) : List D → Store → R (List D)
  | [], S => .ok [] S
  | d :: ds, S => (callD m [d] S).bind fun k S1 => (keysD m ds S1).bind fun ks S2 => .ok (k :: ks) S2
def tup1 : PyData → Bool
  | .tuple (_ :: _) => true
  | _ => false
def noTup : PyData → Bool
  | .tuple _ => false
  | .none => false
  | _ => true
def okK (kz : List PyData) : Bool := (kz.all fun d => kz.all fun e => PySem.W.alike d e) && ((kz.all tup1) || (kz.all noTup)) && kz.all fun d => decide (d.depth ≤ 20)
theorem okK_ok {kz : List PyData} (h : okK kz = true) : PySem.W.AllAlike kz ∧ PySem.W.Sortable kz ∧ ∀ d ∈ kz, d.depth ≤ 20 := by
  unfold okK at h
  simp only [Bool.and_eq_true, Bool.or_eq_true, List.all_eq_true, decide_eq_true_eq] at h
  obtain ⟨⟨h1, h2⟩, h3⟩ := h
  refine ⟨fun d hd e he => h1 d hd e he, ?_, h3⟩
  rcases h2 with h2 | h2
  · refine .inl fun d hd => ?_
    have z := h2 d hd
    unfold tup1 at z
    split at z
    · exact ⟨_, _, rfl⟩
    · cases z
  · refine .inr fun d hd => ?_
    have z := h2 d hd
    constructor
    · rintro rfl; cases z
    · rintro xs rfl; cases z
def srtD (xs : List D) (kz : List PyData) : List D := ((xs.zip kz).mergeSort (PySem.W.dataLe false (·.2))).map (·.1)
def sortKD (xs ks : List D) (S : Store) : R D := match ks.mapM (toPy 20 S) with
  | some kz => if (okK kz && (kz.length == xs.length)) = true then .ok (.ref S.length) (S ++ [.lst (srtD xs kz)]) else .bad
  | none => .bad
def mSortK (m : Fm) (a : M (List D)) : M D := fun ρ S => (a ρ S).bind fun ds S1 => match one1 ds with
  | some d => match getSeq d S1 with
    | some xs => (keysD m xs S1).noexc.bind fun ks S2 => sortKD xs ks S2
    | none => .bad
  | none => .bad
/-- sorted alike: the data and what stands for them -/
theorem srtD_ok {G : Gv} {θ : List Addr} {H : Hp} {xs : List D} {vs : List V} {kz : List PyData} (r : RDs G θ H xs vs) (hl : kz.length = xs.length) : RDs G θ H (srtD xs kz) (srtK vs kz) := by
  have hn : kz.length = vs.length := hl.trans r.length
  -- both are images of one sorted list
  have e1 : xs.zip kz = ((xs.zip vs).zip kz).map fun t => (t.1.1, t.2) := by
    apply List.ext_getElem
    · simp [r.length]
    · intro i h1 h2; simp
  have e2 : vs.zip kz = ((xs.zip vs).zip kz).map fun t => (t.1.2, t.2) := by
    apply List.ext_getElem
    · simp [r.length]
    · intro i h1 h2; simp
  have m1 : (xs.zip kz).mergeSort (PySem.W.dataLe false (·.2)) = (((xs.zip vs).zip kz).mergeSort (PySem.W.dataLe false (·.2))).map fun t => (t.1.1, t.2) := by
    rw [e1]
    refine (List.map_mergeSort fun a _ b _ => ?_).symm
    rfl
  have m2 : (vs.zip kz).mergeSort (PySem.W.dataLe false (·.2)) = (((xs.zip vs).zip kz).mergeSort (PySem.W.dataLe false (·.2))).map fun t => (t.1.2, t.2) := by
    rw [e2]
    refine (List.map_mergeSort fun a _ b _ => ?_).symm
    rfl
  unfold srtD srtK
  rw [m1, m2, List.map_map, List.map_map]
  have each : ∀ t ∈ ((xs.zip vs).zip kz).mergeSort (PySem.W.dataLe false (·.2)), RD G θ H t.1.1 t.1.2 := by
    intro t ht
    have h1 := (List.mergeSort_perm _ _).mem_iff.mp ht
    obtain ⟨⟨x, v⟩, k⟩ := t
    have h2 : (x, v) ∈ xs.zip vs := (List.of_mem_zip h1).1
    obtain ⟨i, hi, e⟩ := List.getElem_of_mem h2
    have hx : (xs.zip vs)[i]? = some (x, v) := by rw [List.getElem?_eq_getElem hi, e]
    rw [List.getElem?_zip_eq_some] at hx
    obtain ⟨u, h3, h4⟩ := r.get hx.1
    rw [hx.2] at h3
    cases h3
    exact h4
  generalize ((xs.zip vs).zip kz).mergeSort (PySem.W.dataLe false (·.2)) = l at each
  induction l with
  | nil => exact .nil
  | cons t l ih => exact .cons (each t List.mem_cons_self) (ih fun u hu => each u (List.mem_cons_of_mem _ hu))
abbrev rSortK (X : Cx) (fa : Addr) : List V → List V → Hp → VK → Prop := fun vs zs H Q => ∃ (l : Addr) (xs : List V) (J : Nat → List V → Hp → Prop), vs = [.ref l] ∧ zs = [.ref fa] ∧ (SqL X.K H l xs ∨ SqT X.K H l xs) ∧ J 0 [] H ∧
    (∀ (i : Nat) (x : V) (ks : List V) (H1 : Hp) (σ : St) (ps : List (Addr × Obj)) (s1 : Shared) (u : Value), xs[i]? = some x → J i ks H1 → Inv X ps σ H1 s1 → RelV x u →
      wpAny (model X.prog X.w) X.A.in1.in1 (call (.ref fa) [u]) (fun r s2 => ∃ k H2, Inv X ps σ H2 s2 ∧ RelV k r ∧ J (i + 1) (ks ++ [k]) H2) (fun _ _ => False) s1) ∧
    (∀ (ks : List V) (H1 : Hp), J xs.length ks H1 → ∃ kz, DpAll X.K H1 ks kz ∧ kz.length = xs.length ∧ PySem.W.AllAlike kz ∧ PySem.W.Sortable kz ∧ (∀ d ∈ kz, X.A.in1.in1.units + d.depth < cLine) ∧ ∀ p, H1 p = none → Q (.ref p) (upd H1 p (.lst (srtK xs kz))))
theorem call_sortK (fa : Addr) : CallRK X (.builtin "sorted") [Str.ofString "key"] (rSortK X fa) := by
  intro pins s σ H vs zs us ws Q I r rz h
  obtain ⟨l, xs, J, rfl, rfl, hs, h0, turn, done⟩ := h
  obtain ⟨u, rfl, rfl⟩ := vals1 r
  obtain ⟨w, rfl, rfl⟩ := vals1 rz
  exact sortK_run I hs J h0 (fun i x ks H1 ps s1 u => turn i x ks H1 σ ps s1 u) done
theorem de_sortK {k : Nat} {f : Addr} {fd : FuncData} {ps : List Str} {x : Str} {p p2 p3 : Pos} {e : Expr} {G0 : Gv} {m : Fm} {a : M (List D)} (hB : B.G.K = G0.K ∧ B.G.fa = G0.fa ∧ B.G.ca = G0.ca ∧ B.G.cn = G0.cn ∧ B.G.tt = G0.tt) (hK : B.G.K = X.K) (FO : FnG X.prog X.w X.K X.mg X.base k f fd ps (spD G0 1 m)) (hr : Room (k + 2) X.A) (gd : X.A.guards = some [])
    (hg : Gl X "sorted") (hm : X.mg "sorted" = none) (hgf : Gl X x) (hmf : X.mg x = some (.ref f)) (hb : Binds X.K fd ps []) (ha : PA X [e] (rdA B a)) (hdb : (x == ("__debug__" : Str)) = false := by decide)
    (he : backTo pos (starEach [e] X.env) = (false, eval e X.env) :: backTo pos (starEach [] X.env) := by rfl) (hpl : (backTo pos (starEach [e] X.env)).any (·.1) = false := by rfl)
    (hall : (backToKw pos (keywordEach [⟨some "key", .Name x p3, p2⟩] X.env)).all (·.1.isSome) = true := by rfl) (hnone : (backToKw pos (keywordEach [⟨some "key", .Name x p3, p2⟩] X.env)).any (·.1.isNone) = false := by rfl)
    (hks : (backToKw pos (keywordEach [⟨some "key", .Name x p3, p2⟩] X.env)).filterMap (·.1) = [Str.ofString "key"] := by rfl) : PE X (.Call (.Name "sorted" p) [e] [⟨some "key", .Name x p3, p2⟩] pos) (rdE B (mSortK m a)) := by
  refine PE.imp (pe_callBK (call_sortK f) hg hm (by decide +kernel) ha (pk_cons (pe_glob (v := .ref f) hgf hmf rfl hdb) pk_nil) (by decide) (by decide) he hpl hall hnone hks) fun σ H Q ⟨ρ, S, θ, R0, rs, f0⟩ => ?_
  refine ⟨ρ, S, θ, R0, rs, Fin.bind f0 fun ds S1 θ1 H1 vs _ e1 R1 r1 f1 => ?_⟩
  show rSortK X f vs [.ref f] H1 Q
  cases q : one1 ds with
  | none => rw [q] at f1; exact f1.elim
  | some d =>
    rw [q] at f1
    have ed := one1_ok q
    subst ed
    obtain ⟨v, rfl, r2⟩ := rds1 r1
    dsimp only at f1
    cases q1 : getSeq d S1 with
    | none => rw [q1] at f1; exact f1.elim
    | some xs =>
      rw [q1] at f1
      obtain ⟨l, ws, rfl, k1, k2⟩ := getSeq_ok R1 r2 q1
      rw [hK] at k1
      refine ⟨l, ws, fun i ks H2 => ∃ θ2 S2 kds, i ≤ xs.length ∧ Ext θ1 H1 θ2 H2 ∧ Rel B.G B.F θ2 S2 H2 ∧ RDs B.G θ2 H2 kds ks ∧ Fin B (RD B.G) σ θ2 H2 ((keysD m (xs.drop i) S2).noexc.bind fun ks2 S3 => sortKD xs (kds ++ ks2) S3) Q,
        rfl, rfl, k1, ⟨θ1, S1, [], Nat.zero_le _, .refl, R1, .nil, f1⟩, ?_, ?_⟩
      · rintro i x2 ks H2 σ2 pins s2 u hx ⟨θ2, S2, kds, hi, e2, R2, rk, f2⟩ I2 ru
        obtain ⟨dx, hdx, rdx⟩ := k2.getV hx
        have hlt : i < xs.length := (List.getElem?_eq_some_iff.mp hdx).1
        have ed : xs.drop i = dx :: xs.drop (i + 1) := by
          rw [List.drop_eq_getElem_cons hlt]
          congr 1
          exact (List.getElem?_eq_some_iff.mp hdx).2
        rw [ed] at f2
        have f3 : Fin ⟨B.G, B.F, fun _ _ _ _ => False⟩ (RD B.G) σ2 θ2 H2 (callD m [dx] S2) fun k H3 => ∃ θ3 S3 kds3, i + 1 ≤ xs.length ∧ Ext θ1 H1 θ3 H3 ∧ Rel B.G B.F θ3 S3 H3 ∧ RDs B.G θ3 H3 kds3 (ks ++ [k]) ∧ Fin B (RD B.G) σ θ3 H3 ((keysD m (xs.drop (i + 1)) S3).noexc.bind fun ks2 S4 => sortKD xs (kds3 ++ ks2) S4) Q := by
          cases qc : callD m [dx] S2 with
          | bad =>
            have : keysD m (dx :: xs.drop (i + 1)) S2 = .bad := by unfold keysD; rw [qc]; rfl
            rw [this] at f2; exact f2.elim
          | exc x3 S3 =>
            have : keysD m (dx :: xs.drop (i + 1)) S2 = .exc x3 S3 := by unfold keysD; rw [qc]; rfl
            rw [this] at f2; exact f2.elim
          | ok kd S3 =>
            have : keysD m (dx :: xs.drop (i + 1)) S2 = (keysD m (xs.drop (i + 1)) S3).bind fun ks S4 => .ok (kd :: ks) S4 := by
              conv => lhs; unfold keysD
              rw [qc]; rfl
            rw [this] at f2
            intro θ3 H3 k e3 R3 r3
            refine ⟨θ3, S3, kds ++ [kd], hlt, e2.trans e3, R3, (rk.ext e3).append (.cons r3 .nil), ?_⟩
            have f4 := f2.ext e3
            cases qk : keysD m (xs.drop (i + 1)) S3 with
            | bad => rw [qk] at f4; exact f4.elim
            | exc => rw [qk] at f4; exact f4.elim
            | ok ks2 S4 =>
              rw [qk] at f4
              have f5 : Fin B (RD B.G) σ θ3 H3 (sortKD xs (kds ++ kd :: ks2) S4) Q := f4
              show Fin B (RD B.G) σ θ3 H3 (sortKD xs (kds ++ [kd] ++ ks2) S4) Q
              rw [List.append_assoc]
              exact f5
        have sp := call_sp (G := B.G) (F := B.F) (W := fun _ _ _ _ => False) (σ := σ2) (n := 1) hB.1 hB.2.1 hB.2.2.1 hB.2.2.2.1 hB.2.2.2.2 R2 (.cons (rdx.ext e2) .nil : RDs B.G θ2 H2 [dx] [x2]) rfl f3
        have rr : Room k X.A.in1.in1 := hr.in1.in1
        have hbb := hb s2 [u] I2.kIn (FO.len _ _ _ _ sp)
        rw [List.append_nil] at hbb
        refine wpAny_call (codeAny_mono (FO.run X.A.in1.in1 X.stack s2 H2 ⟨[u], []⟩ [u] [x2] _ _ rr gd I2.env0.in1.in1 hbb (.cons ru .nil) sp) fun res s3 hq => ?_)
        match res, hq with
        | .error e, hq =>
          obtain ⟨_, _, _, _, _, _, _, _, _, _, _, _, z⟩ := hq
          exact z.elim
        | .ok (.ret u), hq =>
          obtain ⟨k, H3, I3, rk3, h3⟩ := I2.after hq
          exact ⟨k, H3, I3, rk3, h3⟩
      · rintro ks H2 ⟨θ2, S2, kds, hi, e2, R2, rk, f2⟩
        have ed : xs.drop ws.length = [] := by rw [← k2.length]; exact List.drop_length
        rw [ed] at f2
        replace f2 : Fin B (RD B.G) σ θ2 H2 (sortKD xs (kds ++ []) S2) Q := f2
        rw [List.append_nil] at f2
        unfold sortKD at f2
        cases q3 : kds.mapM (toPy 20 S2) with
        | none => rw [q3] at f2; exact f2.elim
        | some kz =>
          rw [q3] at f2
          obtain ⟨c, f3⟩ := Fin.ite (c := (okK kz && (kz.length == xs.length)) = true) f2
          rw [Bool.and_eq_true] at c
          obtain ⟨c1, c2, c3⟩ := okK_ok c.1
          have hl : kz.length = xs.length := by simpa using c.2
          refine ⟨kz, ?_, hl.trans k2.length, c1, c2, fun d hd => ?_, fun p hp => Fin.ok f3 (ext_cell hp) (R2.alloc hp (srtD_ok (k2.ext e2) hl)) (RD.new R2)⟩
          · rw [← hK]; exact dpAll_of (F := B.F) (toPy_dp R2 20) kds ks kz rk q3
          · have h1 := c3 d hd
            have h2 := hr.in1.in1.un
            omega

def dcEnd (n : Nat) (kd y : D) (S : Store) (k : Store → R D) : R D := match S[n]?, keyD kd with
  | some (.dct kvs), some kk => if kvs.length < 16777216 then k (S.set n (.dct (putKD kvs kk y))) else .bad
  | _, _ => .bad
def dcN (nx : Nx) (g : TM) (ek ev : M D) (ρ : Env) (n : Nat) : Nat → Nat → Store → R D
  | 0, _, _ => .bad
  | m + 1, i, S => match nx i S with
    | some (some d) => (g d ρ S).noexc.bind fun ρ1 S1 => (ek ρ1 S1).noexc.bind fun kd S2 => (ev ρ1 S2).noexc.bind fun y S3 => dcEnd n kd y S3 (dcN nx g ek ev ρ n m (i + 1))
    | some none => .ok (.ref n) S
    | none => .bad
def mDc (it : M Nx) (g : TM) (ek ev : M D) (vs : List Nat) : M D := fun ρ S => (it ρ S).bind fun nx S1 => dcN nx g ek ev (wipeE ρ vs) S1.length fuel 0 (S1 ++ [.dct []])
theorem dc_read {it : M Nx} {g : TM} {ek ev : M D} {vs : List Nat} (σ : St) (H : Hp) (Q : VK) (h : rdE B (mDc it g ek ev vs) σ H Q) :
    tDc (rdI B it) (rdG B.blk (· ∈ vs) g) (rdT B.blk mYes) (rdE B.blk ek) (rdE B.blk ev) vs σ H Q := by
  obtain ⟨ρ, S, θ, R0, rs, f⟩ := h
  refine ⟨ρ, S, θ, R0, rs, Fin.bind f fun nx S1 θ1 H1 J _ e1 R1 r1 f1 => fun Da hD => ?_⟩
  have e2 : Ext θ1 H1 (θ1 ++ [Da]) (upd H1 Da (.dK [])) := ext_cell hD
  have R2 : Rel B.G B.F (θ1 ++ [Da]) (S1 ++ [.dct []]) (upd H1 Da (.dK [])) := R1.allocC hD ⟨[], upd_same, .nil⟩
  have rsw : RS B.G (θ1 ++ [Da]) (upd H1 Da (.dK [])) (wipeE ρ vs) (wipe σ vs) := (((rs.ext e1).ext e2).wipe vs)
  have aD : (θ1 ++ [Da])[S1.length]? = some Da := by rw [← R1.len, List.getElem?_concat_length]
  refine ⟨fun i m H' => ∃ S θ, Ext (θ1 ++ [Da]) (upd H1 Da (.dK [])) θ H' ∧ Rel B.G B.F θ S H' ∧ Fin B (RD B.G) σ θ H' (dcN nx g ek ev (wipeE ρ vs) S1.length m i S) Q,
    ⟨fuel, _, _, .refl, R2, f1.ext e2⟩, ?_⟩
  rintro i m H' ⟨S, θ, e3, R3, f3⟩
  cases m with
  | zero => exact f3.elim
  | succ m =>
    have ri := (r1.ext e2) i θ S H' e3 R3
    have rs3 := rsw.ext e3
    have f3' : Fin B (RD B.G) σ θ H' (match nx i S with
      | some (some d) => (g d (wipeE ρ vs) S).noexc.bind fun ρ1 S1' => (ek ρ1 S1').noexc.bind fun kd S2 => (ev ρ1 S2).noexc.bind fun y S3 => dcEnd S1.length kd y S3 (dcN nx g ek ev (wipeE ρ vs) S1.length m (i + 1))
      | some none => .ok (.ref S1.length) S
      | none => .bad) Q := f3
    cases q : nx i S with
    | none => rw [q] at f3'; exact f3'.elim
    | some o =>
      cases o with
      | none =>
        rw [q] at f3'
        replace f3' : Fin B (RD B.G) σ θ H' (.ok (.ref S1.length) S) Q := f3'
        exact .inl ⟨ri.1 q, Fin.ok f3' .refl R3 (.ref (e3.get aD))⟩
      | some d =>
        rw [q] at f3'
        replace f3' : Fin B (RD B.G) σ θ H' ((g d (wipeE ρ vs) S).noexc.bind fun ρ1 S1' => (ek ρ1 S1').noexc.bind fun kd S2 => (ev ρ1 S2).noexc.bind fun y S3 => dcEnd S1.length kd y S3 (dcN nx g ek ev (wipeE ρ vs) S1.length m (i + 1))) Q := f3'
        obtain ⟨go, yl⟩ := ri.2 d q
        refine .inr ⟨go, fun H' => ∃ S θ, Ext (θ1 ++ [Da]) (upd H1 Da (.dK [])) θ H' ∧ Rel B.G B.F θ S H' ∧ Fin B (RD B.G) σ θ H' (dcN nx g ek ev (wipeE ρ vs) S1.length m (i + 1) S) Q, fun H' h => ⟨m, Nat.lt_succ_self _, h⟩, fun x H4 hy => ?_⟩
        obtain ⟨e4, R4, r4⟩ := yl x H4 hy
        refine ⟨wipeE ρ vs, S, θ, d, R4, rs3.ext e4, r4, Fin.toBlk (B := B) (σ := σ) (Fin.bind (f3'.ext e4) fun ρ5 S5 θ5 H5 σ5 _ e5 R5 rs5 f5 => ?_)⟩
        refine ⟨(wipe_agr rs5.2).trans (wipe_agr Agr.wiped), ρ5, S5, θ5, R5, rs5.1, ?_⟩
        intro θ6 H6 b e6 R6 r6
        subst r6
        rw [if_pos rfl]
        refine ⟨ρ5, S5, θ6, R6, rs5.1.ext e6, Fin.toBlk (B := B) (σ := σ) (Fin.bind (f5.ext e6) fun kd S7 θ7 H7 v _ e7 R7 r7 f7 => ?_)⟩
        refine ⟨ρ5, S7, θ7, R7, (rs5.1.ext e6).ext e7, Fin.toBlk (B := B) (σ := σ) (Fin.bind f7 fun y S8 θ8 H8 v2 _ e8 R8 r8 f8 => ?_)⟩
        unfold dcEnd at f8
        have e38 := ((((e3.trans e4).trans e5).trans e6).trans e7).trans e8
        cases q7 : S8[S1.length]? with
        | none => rw [q7] at f8; exact f8.elim
        | some c =>
          cases c with
          | lst _ => rw [q7] at f8; exact f8.elim
          | rev _ _ => rw [q7] at f8; exact f8.elim
          | dct kvs =>
            rw [q7] at f8
            cases q8 : keyD kd with
            | none => rw [q8] at f8; exact f8.elim
            | some kk =>
              rw [q8] at f8
              obtain ⟨hi, f9⟩ := Fin.ite (c := kvs.length < 16777216) f8
              have hDa := e38.get aD
              obtain ⟨es, g1, g2⟩ := R8.cells _ _ _ hDa q7
              refine ⟨es, kk, keyD_ok r7 q8, g1, by rw [← g2.length]; exact hi, ?_⟩
              have w := R8.writeC (o := .dK (putK es kk v2)) (c1 := .dct (putKD kvs kk y)) hDa q7 fun e => ⟨_, upd_same, (g2.put r8).ext e⟩
              exact ⟨_, θ8, e38.trans w.1, w.2, f9.ext w.1⟩
theorem de_dc {kx vx tg iter : Expr} {scope : Scope} {own : List (Str × Nat)} {it : M Nx} {g : TM} {ek ev : M D} (hc : X.calm = true) (hN : X.N.Nodup) (hi : PI X tg iter (rdI B it)) (ok : BlkOk X.N X.env.scope scope own)
    (hg : ∀ s H C cl fp, PG (X.blk s H scope (compEnvC scope cl C X.env) fp) tg (rdG B.blk (· ∈ own.map (·.2)) g))
    (hk : ∀ s H C cl fp, PE (X.blk s H scope (compEnvC scope cl C X.env) fp) kx (rdE B.blk ek)) (he : ∀ s H C cl fp, PE (X.blk s H scope (compEnvC scope cl C X.env) fp) vx (rdE B.blk ev)) (hs : ∀ x, foldedSetIterable iter X.env x = pure x := by intro _; rfl) :
    PE X (.DictComp kx vx [⟨tg, iter, [], 0⟩] scope pos) (rdE B (mDc it g ek ev (own.map (·.2)))) :=
  PE.imp (pe_dc hc hN hi ok hg (fun _ _ _ _ _ => dts_nil) hk he hs) dc_read
end
end DM

namespace DM
open PySem PySem.Spec L2
theorem mulD_i {i j : Int} {S : Store} (h : i.natAbs.log2 + j.natAbs.log2 < 1000000) : mulD (.int i) (.int j) S = .ok (.int (i * j)) S := by
  show (if mulC i j = true then R.ok (D.int (i * j)) S else .bad) = _
  have hc : mulC i j = true := decide_eq_true h
  rw [if_pos hc]
theorem addD_i {i j : Int} {S : Store} : addD (.int i) (.int j) S = .ok (.int (i + j)) S := rfl
theorem log2_lt {n k : Nat} (h : n < 2 ^ k) (hk : 0 < k) : n.log2 < k := by
  by_cases h0 : n = 0
  · subst h0; simpa using hk
  · exact (Nat.log2_lt h0).mpr h
theorem mulD_b {i j : Int} {S : Store} (h : i.natAbs < 2 ^ 1000) (h2 : j.natAbs < 2 ^ 1000) : mulD (.int i) (.int j) S = .ok (.int (i * j)) S := by
  have h1 := log2_lt h (by decide)
  have h2 := log2_lt h2 (by decide)
  exact mulD_i (by omega)

theorem argsA_clean {S : Store} {is : List Nat} : ∀ {ds : List D}, cleanAll ds = true → argsA S is ds = some (ds, is)
  | [], _ => rfl
  | d :: ds, h => by
    rw [cleanAll, Bool.and_eq_true] at h
    have e : argA S is d = some (d, is) := by
      cases d with
      | ref n => cases h.1
      | _ => exact (if_pos h.1 : (if cleanD _ = true then some (_, is) else none) = _)
    show (match argA S is d with
      | none => none
      | some p => match argsA S p.2 ds with
        | none => none
        | some q => some (p.1 :: q.1, q.2)) = some (d :: ds, is)
    rw [e]
    show (match argsA S is ds with
        | none => none
        | some q => some (d :: q.1, q.2)) = some (d :: ds, is)
    rw [argsA_clean h.2]
theorem passArgs_clean {S : Store} {ds : List D} (h : cleanAll ds = true) : passArgs S ds = some (ds, []) := by
  unfold passArgs
  rw [argsA_clean h]
theorem back_pure {is : List Nat} {S S1 S2 : Store} {d : D} (hd : pureD d = true) (hp : putBack is.length S1.length S1 is 0 S = some S2) : back is S (.ok d S1) = .ok d S2 := by
  have go : backP is S S1 d = .ok d S2 := by
    unfold backP
    rw [hp]
    show (match retD is.length S1.length S1 d with | some d' => R.ok d' S2 | none => .bad) = _
    unfold retD
    rw [if_pos hd]
  cases d with
  | ref j => cases hd
  | _ => exact go
theorem callD_val {m : Fm} {S S1 : Store} {ds : List D} {d : D} (hc : cleanAll ds = true) (h : m ds [] = .ok d S1) (hd : pureD d = true) : callD m ds S = .ok d S := by
  unfold callD
  rw [passArgs_clean hc]
  show back [] S (m ds []) = _
  rw [h]
  exact back_pure hd rfl
theorem callD_new {m : Fm} {S S1 : Store} {ds es : List D} {j : Nat} (hc : cleanAll ds = true) (h : m ds [] = .ok (.ref j) S1) (h1 : S1[j]? = some (.lst es)) (hp : pureAll es = true) : callD m ds S = .ok (.ref S.length) (S ++ [.lst es]) := by
  unfold callD
  rw [passArgs_clean hc]
  show back [] S (m ds []) = _
  rw [h]
  show backN [] S S1 j = _
  unfold backN
  show (match S1[j]? with
    | some (.lst es) => match retAll 0 j S1 es with
      | some es' => R.ok (D.ref S.length) (S ++ [C.lst es'])
      | none => .bad
    | _ => .bad) = _
  rw [h1]
  show (match retAll 0 j S1 es with
      | some es' => R.ok (D.ref S.length) (S ++ [C.lst es'])
      | none => .bad) = _
  unfold retAll
  rw [if_pos hp]
theorem cellOk_of {S : Store} {k : Nat} {es : List D} (hS : S[k]? = some (.lst es)) (he : cleanAll es = true) : cellOk S k = true := by
  unfold cellOk
  rw [hS]
  exact he
theorem passArgs_ref {S : Store} {k : Nat} {es ds : List D} (hS : S[k]? = some (.lst es)) (he : cleanAll es = true) (hc : cleanAll ds = true) : passArgs S (.ref k :: ds) = some (.ref 0 :: ds, [k]) := by
  have h0 : argA S [] (D.ref k) = some (D.ref 0, [k]) := by
    show (if cellOk S k = true then (match ixOf k [] 0 with
      | some j => some (D.ref j, [])
      | none => some (D.ref ([] : List Nat).length, [] ++ [k])) else none) = _
    rw [if_pos (cellOk_of hS he)]
    rfl
  unfold passArgs
  have e : argsA S [] (.ref k :: ds) = some (.ref 0 :: ds, [k]) := by
    show (match argA S [] (D.ref k) with
      | none => none
      | some p => match argsA S p.2 ds with
        | none => none
        | some q => some (p.1 :: q.1, q.2)) = some (D.ref 0 :: ds, [k])
    rw [h0]
    show (match argsA S [k] ds with
        | none => none
        | some q => some (D.ref 0 :: q.1, q.2)) = some (D.ref 0 :: ds, [k])
    rw [argsA_clean hc]
  rw [e]
theorem putBack1 {S S1 : Store} {k av : Nat} {es : List D} (h1 : S1[0]? = some (.lst es)) (hp : pureAll es = true) : putBack 1 av S1 [k] 0 S = some (S.set k (.lst es)) := by
  show (match S1[0]? with
    | some (.lst es) => match retAll 1 av S1 es with
      | some es' => some (S.set k (.lst es'))
      | none => none
    | _ => none) = _
  rw [h1]
  show (match retAll 1 av S1 es with
      | some es' => some (S.set k (.lst es'))
      | none => none) = _
  unfold retAll
  rw [if_pos hp]
/-- a call with one cell, handed on first -/
theorem callD_ref {m : Fm} {S S1 : Store} {k : Nat} {es es' ds : List D} {d : D} (hS : S[k]? = some (.lst es)) (he : cleanAll es = true) (hc : cleanAll ds = true) (h : m (.ref 0 :: ds) [.lst es] = .ok d S1) (h1 : S1[0]? = some (.lst es')) (hp : pureAll es' = true) (hd : pureD d = true) :
    callD m (.ref k :: ds) S = .ok d (S.set k (.lst es')) := by
  unfold callD
  rw [passArgs_ref hS he hc]
  have e : cellsOf S [k] = [.lst es] := by
    show [(S[k]?).getD (.lst [])] = _
    rw [hS]; rfl
  show back [k] S (m (.ref 0 :: ds) (cellsOf S [k])) = _
  rw [e, h]
  exact back_pure hd (putBack1 h1 hp)

theorem forN_ok {nx : Nx} {g : TM} {b : SM} {n : Nat} (I : Nat → Env → Store → Prop) (hs : ∀ i ρ S, i < n → I i ρ S → ∃ d ρ1 S1 ρ2 S2, nx i S = some (some d) ∧ g d ρ S = .ok ρ1 S1 ∧ b ρ1 S1 = .nx ρ2 S2 ∧ I (i + 1) ρ2 S2) (he : ∀ ρ S, I n ρ S → nx n S = some none) :
    ∀ m i ρ S, i ≤ n → n < i + m → I i ρ S → ∃ ρ' S', sForN nx g b m i ρ S = .nx ρ' S' ∧ I n ρ' S'
  | 0, i, ρ, S, h1, h2, _ => by omega
  | m + 1, i, ρ, S, h1, h2, h => by
    by_cases hi : i = n
    · subst hi
      refine ⟨ρ, S, ?_, h⟩
      unfold sForN
      rw [he ρ S h]
    · obtain ⟨d, ρ1, S1, ρ2, S2, e1, e2, e3, h'⟩ := hs i ρ S (by omega) h
      obtain ⟨ρ', S', e4, h4⟩ := forN_ok I hs he m (i + 1) ρ2 S2 (by omega) (by omega) h'
      refine ⟨ρ', S', ?_, h4⟩
      unfold sForN
      rw [e1]
      show (g d ρ S).noexc.toS ρ (fun ρ1 S1 => (b ρ1 S1).turn (sForN nx g b m (i + 1))) = _
      rw [e2]
      show (b ρ1 S1).turn (sForN nx g b m (i + 1)) = _
      rw [e3]
      exact e4
theorem sFor_ok {it : M Nx} {nx : Nx} {g : TM} {b : SM} {n : Nat} {ρ : Env} {S S0 : Store} (I : Nat → Env → Store → Prop) (hi : it ρ S0 = .ok nx S) (hn : n < fuel) (h0 : I 0 ρ S)
    (hs : ∀ i ρ S, i < n → I i ρ S → ∃ d ρ1 S1 ρ2 S2, nx i S = some (some d) ∧ g d ρ S = .ok ρ1 S1 ∧ b ρ1 S1 = .nx ρ2 S2 ∧ I (i + 1) ρ2 S2) (he : ∀ ρ S, I n ρ S → nx n S = some none) : ∃ ρ' S', sFor it g b ρ S0 = .nx ρ' S' ∧ I n ρ' S' := by
  obtain ⟨ρ', S', e, h⟩ := forN_ok I hs he fuel 0 ρ S (Nat.zero_le _) (by omega) h0
  refine ⟨ρ', S', ?_, h⟩
  unfold sFor
  rw [hi]
  exact e
theorem nxRng_lt {lo c : Int} {n i : Nat} {S : Store} (h : i < n) : nxRng lo c n i S = some (some (.int (lo + i * c))) := by
  show some (if i < n then some (D.int (lo + i * c)) else none) = _
  rw [if_pos h]
theorem nxRng_end {lo c : Int} {n : Nat} {S : Store} : nxRng lo c n n S = some none := by
  show some (if n < n then some (D.int (lo + n * c)) else none) = _
  rw [if_neg (Nat.lt_irrefl _)]
/-- comprehensions: I tells what has been made (the last first) and the store -/
theorem lcN_ok {nx : Nx} {g : TM} {t : M Bool} {e : M D} {ρ : Env} {n k : Nat} (hn : n < 16777216) (I : Nat → List D → Store → Prop)
    (hs : ∀ i acc S z, i < n → S.length = k → I i acc S → ∃ d ρ1 b, nx i (S ++ [z]) = some (some d) ∧ g d ρ (S ++ [z]) = .ok ρ1 (S ++ [z]) ∧ t ρ1 (S ++ [z]) = .ok b (S ++ [z]) ∧ (b = true → ∃ y S1, S1.length = k ∧ e ρ1 (S ++ [z]) = .ok y (S1 ++ [z]) ∧ I (i + 1) (y :: acc) S1) ∧ (b = false → I (i + 1) acc S))
    (he : ∀ acc S z, I n acc S → nx n (S ++ [z]) = some none) : ∀ m i acc c S, i ≤ n → n < i + m → c ≤ i → S.length = k → I i acc S → ∃ acc' S', lcN nx g t e ρ k m i (S ++ [.rev acc c]) = .ok (.ref k) (S' ++ [.lst acc'.reverse]) ∧ S'.length = k ∧ I n acc' S'
  | 0, i, acc, c, S, h1, h2, _, _, _ => by omega
  | m + 1, i, acc, c, S, h1, h2, h3, h4, h => by
    have hk : ∀ (S : Store) (z : C), S.length = k → (S ++ [z])[k]? = some z := fun S z h => by rw [← h, List.getElem?_concat_length]
    have hset : ∀ (S : Store) (z w : C), S.length = k → (S ++ [z]).set k w = S ++ [w] := fun S z w h => by
      rw [List.set_append]
      rw [if_neg (by omega), h, Nat.sub_self]
      rfl
    by_cases hi : i = n
    · subst hi
      refine ⟨acc, S, ?_, h4, h⟩
      unfold lcN
      rw [he acc S _ h]
      show lcDone k (S ++ [C.rev acc c]) = _
      unfold lcDone
      rw [hk S _ h4]
      show R.ok (D.ref k) ((S ++ [C.rev acc c]).set k (.lst acc.reverse)) = _
      rw [hset S _ _ h4]
    · obtain ⟨d, ρ1, b, e1, e2, e3, hy, hn'⟩ := hs i acc S (C.rev acc c) (by omega) h4 h
      unfold lcN
      rw [e1]
      show ∃ (acc' : List D) (S' : Store), (g d ρ (S ++ [.rev acc c])).noexc.bind (fun ρ1 S1 => (t ρ1 S1).noexc.bind fun k' S2 =>
        if k' then (e ρ1 S2).noexc.bind fun y S3 => lcEnd k y S3 (lcN nx g t e ρ k m (i + 1)) else lcN nx g t e ρ k m (i + 1) S2) = .ok (.ref k) (S' ++ [.lst acc'.reverse]) ∧ _
      rw [e2]
      show ∃ (acc' : List D) (S' : Store), (t ρ1 (S ++ [C.rev acc c])).noexc.bind (fun k' S2 =>
        if k' then (e ρ1 S2).noexc.bind fun y S3 => lcEnd k y S3 (lcN nx g t e ρ k m (i + 1)) else lcN nx g t e ρ k m (i + 1) S2) = .ok (.ref k) (S' ++ [.lst acc'.reverse]) ∧ _
      rw [e3]
      cases b with
      | true =>
        obtain ⟨y, S1, l1, e4, h'⟩ := hy rfl
        show ∃ (acc' : List D) (S' : Store), (e ρ1 (S ++ [C.rev acc c])).noexc.bind (fun y S3 => lcEnd k y S3 (lcN nx g t e ρ k m (i + 1))) = .ok (.ref k) (S' ++ [.lst acc'.reverse]) ∧ _
        rw [e4]
        show ∃ (acc' : List D) (S' : Store), lcEnd k y (S1 ++ [C.rev acc c]) (lcN nx g t e ρ k m (i + 1)) = .ok (.ref k) (S' ++ [.lst acc'.reverse]) ∧ _
        unfold lcEnd
        rw [hk S1 _ l1]
        show ∃ (acc' : List D) (S' : Store), (if c < 16777216 then lcN nx g t e ρ k m (i + 1) ((S1 ++ [C.rev acc c]).set k (.rev (y :: acc) (c + 1))) else .bad) = .ok (.ref k) (S' ++ [.lst acc'.reverse]) ∧ _
        rw [if_pos (by omega), hset S1 _ _ l1]
        exact lcN_ok hn I hs he m (i + 1) (y :: acc) (c + 1) S1 (by omega) (by omega) (by omega) l1 h'
      | false => exact lcN_ok hn I hs he m (i + 1) acc c S (by omega) (by omega) (by omega) h4 (hn' rfl)
theorem mLc_ok {it : M Nx} {nx : Nx} {g : TM} {t : M Bool} {e : M D} {vs : List Nat} {ρ : Env} {n : Nat} {S S0 : Store} (hn : n < 16777216) (I : Nat → List D → Store → Prop) (hi : it ρ S0 = .ok nx S) (h0 : I 0 [] S)
    (hs : ∀ i acc S1 z, i < n → S1.length = S.length → I i acc S1 → ∃ d ρ1 b, nx i (S1 ++ [z]) = some (some d) ∧ g d (wipeE ρ vs) (S1 ++ [z]) = .ok ρ1 (S1 ++ [z]) ∧ t ρ1 (S1 ++ [z]) = .ok b (S1 ++ [z]) ∧ (b = true → ∃ y S2, S2.length = S.length ∧ e ρ1 (S1 ++ [z]) = .ok y (S2 ++ [z]) ∧ I (i + 1) (y :: acc) S2) ∧ (b = false → I (i + 1) acc S1))
    (he : ∀ acc S1 z, I n acc S1 → nx n (S1 ++ [z]) = some none) : ∃ acc' S', mLc it g t e vs ρ S0 = .ok (.ref S.length) (S' ++ [.lst acc'.reverse]) ∧ S'.length = S.length ∧ I n acc' S' := by
  obtain ⟨acc', S', e1, h1, h2⟩ := lcN_ok hn I hs he fuel 0 [] 0 S (Nat.zero_le _) (by unfold fuel; omega) (Nat.le_refl _) rfl h0
  refine ⟨acc', S', ?_, h1, h2⟩
  unfold mLc
  rw [hi]
  exact e1
/-- .. where nothing else changes -/
theorem mLc_pure {it : M Nx} {nx : Nx} {g : TM} {t : M Bool} {e : M D} {vs : List Nat} {ρ : Env} {n : Nat} {S S0 : Store} (x f : Nat → D) (p : Nat → Bool) (ρ1 : Nat → Env) (hn : n < 16777216) (hi : it ρ S0 = .ok nx S)
    (hs : ∀ i z, i < n → nx i (S ++ [z]) = some (some (x i)) ∧ g (x i) (wipeE ρ vs) (S ++ [z]) = .ok (ρ1 i) (S ++ [z]) ∧ t (ρ1 i) (S ++ [z]) = .ok (p i) (S ++ [z]) ∧ (p i = true → e (ρ1 i) (S ++ [z]) = .ok (f i) (S ++ [z])))
    (he : ∀ z, nx n (S ++ [z]) = some none) : mLc it g t e vs ρ S0 = .ok (.ref S.length) (S ++ [.lst (((List.range n).filter p).map f)]) := by
  obtain ⟨acc', S', e1, h1, h2, h3⟩ := mLc_ok (it := it) (g := g) (t := t) (e := e) (vs := vs) (ρ := ρ) (S0 := S0) hn (fun i acc S1 => S1 = S ∧ acc.reverse = ((List.range i).filter p).map f) hi ⟨rfl, rfl⟩
    (fun i acc S1 z hi9 hl ⟨e0, ha⟩ => by
      subst e0
      obtain ⟨a1, a2, a3, a4⟩ := hs i z hi9
      refine ⟨x i, ρ1 i, p i, a1, a2, a3, fun hp => ⟨f i, S1, rfl, a4 hp, rfl, ?_⟩, fun hp => ⟨rfl, ?_⟩⟩
      · rw [List.reverse_cons, ha, List.range_succ, List.filter_append, List.map_append]
        simp [hp]
      · rw [ha, List.range_succ, List.filter_append, List.map_append]
        simp [hp]) (fun acc S1 z ⟨e0, _⟩ => by subst e0; exact he z)
  rw [e1, h2, h3]
/-- keys of items -/
theorem keysD_ok {m : Fm} {f : D → D} {S : Store} : ∀ {ds : List D}, (∀ d ∈ ds, callD m [d] S = .ok (f d) S) → keysD m ds S = .ok (ds.map f) S
  | [], _ => rfl
  | d :: ds, h => by
    unfold keysD
    rw [h d List.mem_cons_self]
    show (keysD m ds S).bind (fun ks S2 => .ok (f d :: ks) S2) = _
    rw [keysD_ok fun e he => h e (List.mem_cons_of_mem _ he)]
    rfl
theorem ixN_get {n i : Nat} (h : i < n) : ixN n (i : Int) = some i := by
  unfold ixN
  simp [h]
theorem atI_get {α : Type} {l : List α} {i : Nat} {d : α} (h : l[i]? = some d) : atI l (i : Int) = some d := by
  unfold atI
  rw [ixN_get (List.getElem?_eq_some_iff.mp h).1]
  exact h

section
variable {ρ ρ1 : Env} {S S1 S2 : Store}
theorem defM_rt {k : Nat} {b : SM} {ds : List D} {d : D} (h : b (ds.map some ++ List.replicate k none) S = .rt d S1) : defM k b ds S = .ok d S1 := by
  unfold defM; rw [h]
theorem defM_nx {k : Nat} {b : SM} {ds : List D} (h : b (ds.map some ++ List.replicate k none) S = .nx ρ1 S1) : defM k b ds S = .ok .non S1 := by
  unfold defM; rw [h]
theorem sSeq_nx {a b : SM} {r : SR} (h : a ρ S = .nx ρ1 S1) (k : b ρ1 S1 = r) : sSeq a b ρ S = r := by
  unfold sSeq; rw [h]; exact k
theorem sSeq_rt {a b : SM} {d : D} (h : a ρ S = .rt d S1) : sSeq a b ρ S = .rt d S1 := by
  unfold sSeq; rw [h]; rfl
theorem sSet_ok {i : Nat} {a : M D} {d : D} (h : a ρ S = .ok d S1) : sSet i a ρ S = .nx (ρ.set i (some d)) S1 := by
  unfold sSet; rw [h]; rfl
theorem sRet_ok {a : M D} {d : D} (h : a ρ S = .ok d S1) : sRet a ρ S = .rt d S1 := by
  unfold sRet; rw [h]; rfl
theorem sExpr_ok {a : M D} {d : D} (h : a ρ S = .ok d S1) : sExpr a ρ S = .nx ρ S1 := by
  unfold sExpr; rw [h]; rfl
theorem sIf_t {c : M Bool} {a b : SM} {r : SR} (h : c ρ S = .ok true S1) (k : a ρ S1 = r) : sIf c a b ρ S = r := by
  unfold sIf; rw [h]; exact k
theorem sIf_f {c : M Bool} {a b : SM} {r : SR} (h : c ρ S = .ok false S1) (k : b ρ S1 = r) : sIf c a b ρ S = r := by
  unfold sIf; rw [h]; exact k
theorem sPar_ok {i j : Nat} {a : M (List D)} {d e : D} (h : a ρ S = .ok [d, e] S1) : sPar i j a ρ S = .nx ((ρ.set i (some d)).set j (some e)) S1 := by
  unfold sPar; rw [h]; rfl
theorem sAsg_ok {a : M D} {g : TM} {d : D} (h : a ρ S = .ok d S1) (k : g d ρ S1 = .ok ρ1 S2) : sAsg a g ρ S = .nx ρ1 S2 := by
  unfold sAsg; rw [h]
  show (g d ρ S1).noexc.toS ρ _ = _
  rw [k]; rfl
theorem mBin_ok {o : O2} {a b : M D} {x y : D} {r : R D} (h1 : a ρ S = .ok x S1) (h2 : b ρ S1 = .ok y S2) (h3 : o x y S2 = r) : mBin o a b ρ S = r := by
  unfold mBin; rw [h1]
  show (b ρ S1).bind _ = _
  rw [h2]; exact h3
theorem mUn_ok {o : O1} {a : M D} {x : D} {r : R D} (h1 : a ρ S = .ok x S1) (h3 : o x S1 = r) : mUn o a ρ S = r := by
  unfold mUn; rw [h1]; exact h3
theorem mCons_ok {a : M D} {b : M (List D)} {x : D} {xs : List D} (h1 : a ρ S = .ok x S1) (h2 : b ρ S1 = .ok xs S2) : mCons a b ρ S = .ok (x :: xs) S2 := by
  unfold mCons; rw [h1]
  show (b ρ S1).bind _ = _
  rw [h2]; rfl
theorem mBlt_ok {o : Ob} {a : M (List D)} {xs : List D} {r : R D} (h1 : a ρ S = .ok xs S1) (h2 : o xs S1 = r) : mBlt o a ρ S = r := by
  unfold mBlt; rw [h1]; exact h2
theorem mCall_ok {m : Fm} {a : M (List D)} {xs : List D} {r : R D} (h1 : a ρ S = .ok xs S1) (h2 : callD m xs S1 = r) : mCall m a ρ S = r := by
  unfold mCall; rw [h1]; exact h2
theorem mTest_ok {a : M D} {b : Bool} (h : a ρ S = .ok (.bl b) S1) : mTest a ρ S = .ok b S1 := by
  unfold mTest; rw [h]; rfl
theorem mNotT_ok {a : M Bool} {b : Bool} (h : a ρ S = .ok b S1) : mNotT a ρ S = .ok (!b) S1 := by
  unfold mNotT; rw [h]; rfl
theorem mOrT_ok {a b : M Bool} {x y : Bool} (h1 : a ρ S = .ok x S) (h2 : b ρ S = .ok y S) : mOrT a b ρ S = .ok (x || y) S := by
  unfold mOrT; rw [h1]
  cases x with
  | true => rfl
  | false => exact h2
theorem mAndT_ok {a b : M Bool} {x y : Bool} (h1 : a ρ S = .ok x S) (h2 : b ρ S = .ok y S) : mAndT a b ρ S = .ok (x && y) S := by
  unfold mAndT; rw [h1]
  cases x with
  | true => exact h2
  | false => rfl
theorem mIf_t {c : M Bool} {a b : M D} {r : R D} (h : c ρ S = .ok true S1) (k : a ρ S1 = r) : mIf c a b ρ S = r := by
  unfold mIf; rw [h]; exact k
theorem mIf_f {c : M Bool} {a b : M D} {r : R D} (h : c ρ S = .ok false S1) (k : b ρ S1 = r) : mIf c a b ρ S = r := by
  unfold mIf; rw [h]; exact k
theorem mTup_ok {a : M (List D)} {xs : List D} (h : a ρ S = .ok xs S1) (hl : xs.length ≤ sizeLine) : mTup a ρ S = .ok (.tup xs) S1 := by
  unfold mTup; rw [h]
  show tupD xs S1 = _
  unfold tupD; rw [if_pos hl]
theorem mLst_ok {a : M (List D)} {xs : List D} (h : a ρ S = .ok xs S1) (hl : xs.length ≤ sizeLine) : mLst a ρ S = .ok (.ref S1.length) (S1 ++ [.lst xs]) := by
  unfold mLst; rw [h]
  show lstD xs S1 = _
  unfold lstD; rw [if_pos hl]
theorem while_t {c : M Bool} {b : SM} {m : Nat} {r : SR} {ρ2 : Env} (h1 : c ρ S = .ok true S1) (h2 : b ρ S1 = .nx ρ2 S2) (h3 : sWhileN c b m ρ2 S2 = r) : sWhileN c b (m + 1) ρ S = r := by
  unfold sWhileN; rw [h1]
  show (b ρ S1).turn _ = _
  rw [h2]; exact h3
theorem while_f {c : M Bool} {b : SM} {m : Nat} (h1 : c ρ S = .ok false S1) : sWhileN c b (m + 1) ρ S = .nx ρ S1 := by
  unfold sWhileN; rw [h1]; rfl
end
end DM

namespace DM
open PySem PySem.Spec L2
theorem back_new {is : List Nat} {S S1 S2 : Store} {j : Nat} {gs : List D} (hj : is.length ≤ j) (h1 : S1[j]? = some (.lst gs)) (hg : pureAll gs = true) (hp : putBack is.length j S1 is 0 S = some S2) : back is S (.ok (.ref j) S1) = .ok (.ref S2.length) (S2 ++ [.lst gs]) := by
  have go : backN is S S1 j = .ok (.ref S2.length) (S2 ++ [.lst gs]) := by
    unfold backN
    rw [hp]
    show (match S1[j]? with
      | some (.lst es) => match retAll is.length j S1 es with
        | some es' => R.ok (D.ref S2.length) (S2 ++ [C.lst es'])
        | none => .bad
      | _ => .bad) = _
    rw [h1]
    show (match retAll is.length j S1 gs with
        | some es' => R.ok (D.ref S2.length) (S2 ++ [C.lst es'])
        | none => .bad) = _
    unfold retAll
    rw [if_pos hg]
  show (if j < is.length then backO is S S1 j else backN is S S1 j) = _
  rw [if_neg (by omega)]
  exact go
theorem callD_refn {m : Fm} {S S1 : Store} {k j : Nat} {es es' gs ds : List D} (hS : S[k]? = some (.lst es)) (he : cleanAll es = true) (hc : cleanAll ds = true) (h : m (.ref 0 :: ds) [.lst es] = .ok (.ref j) S1) (hj : 1 ≤ j) (h1 : S1[0]? = some (.lst es')) (hp : pureAll es' = true) (h2 : S1[j]? = some (.lst gs)) (hg : pureAll gs = true) :
    callD m (.ref k :: ds) S = .ok (.ref S.length) (S.set k (.lst es') ++ [.lst gs]) := by
  unfold callD
  rw [passArgs_ref hS he hc]
  have e : cellsOf S [k] = [.lst es] := by
    show [(S[k]?).getD (.lst [])] = _
    rw [hS]; rfl
  show back [k] S (m (.ref 0 :: ds) (cellsOf S [k])) = _
  rw [e, h]
  have z := back_new (is := [k]) (S := S) hj h2 hg (putBack1 h1 hp)
  rw [List.length_set] at z
  exact z
theorem passArgs_ref2 {S : Store} {k k2 : Nat} {es fs : List D} (hS : S[k]? = some (.lst es)) (he : cleanAll es = true) (hT : S[k2]? = some (.lst fs)) (hf : cleanAll fs = true) (hk : k2 ≠ k) : passArgs S [.ref k, .ref k2] = some ([.ref 0, .ref 1], [k, k2]) := by
  have h0 : argA S [] (D.ref k) = some (D.ref 0, [k]) := by
    show (if cellOk S k = true then (match ixOf k [] 0 with
      | some j => some (D.ref j, [])
      | none => some (D.ref ([] : List Nat).length, [] ++ [k])) else none) = _
    rw [if_pos (cellOk_of hS he)]
    rfl
  have h1 : argA S [k] (D.ref k2) = some (D.ref 1, [k, k2]) := by
    show (if cellOk S k2 = true then (match ixOf k2 [k] 0 with
      | some j => some (D.ref j, [k])
      | none => some (D.ref [k].length, [k] ++ [k2])) else none) = _
    rw [if_pos (cellOk_of hT hf)]
    have : ixOf k2 [k] 0 = none := by
      show (if k2 = k then some 0 else ixOf k2 [] 1) = none
      rw [if_neg hk]; rfl
    rw [this]
    rfl
  unfold passArgs
  have e : argsA S [] [.ref k, .ref k2] = some ([.ref 0, .ref 1], [k, k2]) := by
    show (match argA S [] (D.ref k) with
      | none => none
      | some p => match argsA S p.2 [.ref k2] with
        | none => none
        | some q => some (p.1 :: q.1, q.2)) = some ([D.ref 0, D.ref 1], [k, k2])
    rw [h0]
    show (match (match argA S [k] (D.ref k2) with
      | none => none
      | some p => match argsA S p.2 [] with
        | none => none
        | some q => some (p.1 :: q.1, q.2)) with
        | none => none
        | some q => some (D.ref 0 :: q.1, q.2)) = some ([D.ref 0, D.ref 1], [k, k2])
    rw [h1]
    rfl
  rw [e]
theorem putBack2 {S S1 : Store} {k k2 av : Nat} {es fs : List D} (h1 : S1[0]? = some (.lst es)) (hp : pureAll es = true) (h2 : S1[1]? = some (.lst fs)) (hq : pureAll fs = true) : putBack 2 av S1 [k, k2] 0 S = some ((S.set k (.lst es)).set k2 (.lst fs)) := by
  have r1 : retAll 2 av S1 es = some es := by unfold retAll; rw [if_pos hp]
  have r2 : retAll 2 av S1 fs = some fs := by unfold retAll; rw [if_pos hq]
  show (match S1[0]? with
    | some (C.lst es) => match retAll 2 av S1 es with
      | some es' => (match S1[1]? with
        | some (C.lst fs) => match retAll 2 av S1 fs with
          | some fs' => some ((S.set k (C.lst es')).set k2 (C.lst fs'))
          | none => none
        | _ => none)
      | none => none
    | _ => none) = _
  rw [h1]
  dsimp only
  rw [r1]
  dsimp only
  rw [h2]
  dsimp only
  rw [r2]
theorem callD_ref2 {m : Fm} {S S1 : Store} {k k2 : Nat} {es es' fs fs' : List D} {d : D} (hS : S[k]? = some (.lst es)) (he : cleanAll es = true) (hT : S[k2]? = some (.lst fs)) (hf : cleanAll fs = true) (hk : k2 ≠ k) (h : m [.ref 0, .ref 1] [.lst es, .lst fs] = .ok d S1)
    (h1 : S1[0]? = some (.lst es')) (hp : pureAll es' = true) (h2 : S1[1]? = some (.lst fs')) (hq : pureAll fs' = true) (hd : pureD d = true) : callD m [.ref k, .ref k2] S = .ok d ((S.set k (.lst es')).set k2 (.lst fs')) := by
  unfold callD
  rw [passArgs_ref2 hS he hT hf hk]
  have e : cellsOf S [k, k2] = [.lst es, .lst fs] := by
    show [(S[k]?).getD (.lst []), (S[k2]?).getD (.lst [])] = _
    rw [hS, hT]; rfl
  show back [k, k2] S (m [.ref 0, .ref 1] (cellsOf S [k, k2])) = _
  rw [e, h]
  exact back_pure hd (putBack2 h1 hp h2 hq)
theorem callD_ref2n {m : Fm} {S S1 : Store} {k k2 j : Nat} {es es' fs fs' gs : List D} (hS : S[k]? = some (.lst es)) (he : cleanAll es = true) (hT : S[k2]? = some (.lst fs)) (hf : cleanAll fs = true) (hk : k2 ≠ k) (h : m [.ref 0, .ref 1] [.lst es, .lst fs] = .ok (.ref j) S1) (hj : 2 ≤ j)
    (h1 : S1[0]? = some (.lst es')) (hp : pureAll es' = true) (h2 : S1[1]? = some (.lst fs')) (hq : pureAll fs' = true) (h3 : S1[j]? = some (.lst gs)) (hg : pureAll gs = true) : callD m [.ref k, .ref k2] S = .ok (.ref S.length) ((S.set k (.lst es')).set k2 (.lst fs') ++ [.lst gs]) := by
  unfold callD
  rw [passArgs_ref2 hS he hT hf hk]
  have e : cellsOf S [k, k2] = [.lst es, .lst fs] := by
    show [(S[k]?).getD (.lst []), (S[k2]?).getD (.lst [])] = _
    rw [hS, hT]; rfl
  show back [k, k2] S (m [.ref 0, .ref 1] (cellsOf S [k, k2])) = _
  rw [e, h]
  have z := back_new (is := [k, k2]) (S := S) hj h3 hg (putBack2 h1 hp h2 hq)
  rw [List.length_set, List.length_set] at z
  exact z

theorem dcN_ok {nx : Nx} {g : TM} {ek ev : M D} {ρ : Env} {n : Nat} {S : Store} (hn : n < 16777216) (I : Nat → List (Key × D) → Prop)
    (hs : ∀ i z kvs, i < n → I i kvs → ∃ d ρ1 kd kk y, nx i (S ++ [z]) = some (some d) ∧ g d ρ (S ++ [z]) = .ok ρ1 (S ++ [z]) ∧ ek ρ1 (S ++ [z]) = .ok kd (S ++ [z]) ∧ keyD kd = some kk ∧ ev ρ1 (S ++ [z]) = .ok y (S ++ [z]) ∧ I (i + 1) (putKD kvs kk y)) (hl : ∀ i kvs, I i kvs → kvs.length ≤ i)
    (he : ∀ z, nx n (S ++ [z]) = some none) : ∀ m i kvs, i ≤ n → n < i + m → I i kvs → ∃ kvs', dcN nx g ek ev ρ S.length m i (S ++ [.dct kvs]) = .ok (.ref S.length) (S ++ [.dct kvs']) ∧ I n kvs'
  | 0, i, kvs, h1, h2, _ => by omega
  | m + 1, i, kvs, h1, h2, h => by
    by_cases hi : i = n
    · subst hi
      refine ⟨kvs, ?_, h⟩
      unfold dcN
      rw [he]
    · obtain ⟨d, ρ1, kd, kk, y, e1, e2, e3, e4, e5, h'⟩ := hs i (.dct kvs) kvs (by omega) h
      obtain ⟨kvs', e6, h6⟩ := dcN_ok hn I hs hl he m (i + 1) _ (by omega) (by omega) h'
      refine ⟨kvs', ?_, h6⟩
      unfold dcN
      rw [e1]
      show (g d ρ (S ++ [C.dct kvs])).noexc.bind (fun ρ1 S1 => (ek ρ1 S1).noexc.bind fun kd S2 => (ev ρ1 S2).noexc.bind fun y S3 => dcEnd S.length kd y S3 (dcN nx g ek ev ρ S.length m (i + 1))) = _
      rw [e2]
      show (ek ρ1 (S ++ [C.dct kvs])).noexc.bind (fun kd S2 => (ev ρ1 S2).noexc.bind fun y S3 => dcEnd S.length kd y S3 (dcN nx g ek ev ρ S.length m (i + 1))) = _
      rw [e3]
      show (ev ρ1 (S ++ [C.dct kvs])).noexc.bind (fun y S3 => dcEnd S.length kd y S3 (dcN nx g ek ev ρ S.length m (i + 1))) = _
      rw [e5]
      show dcEnd S.length kd y (S ++ [C.dct kvs]) (dcN nx g ek ev ρ S.length m (i + 1)) = _
      unfold dcEnd
      rw [List.getElem?_concat_length, e4]
      show (if kvs.length < 16777216 then dcN nx g ek ev ρ S.length m (i + 1) ((S ++ [C.dct kvs]).set S.length (.dct (putKD kvs kk y))) else .bad) = _
      have := hl i kvs h
      rw [if_pos (by omega), List.set_append, if_neg (Nat.lt_irrefl _), Nat.sub_self]
      exact e6
theorem mDc_ok {it : M Nx} {nx : Nx} {g : TM} {ek ev : M D} {vs : List Nat} {ρ : Env} {n : Nat} {S S0 : Store} (hn : n < 16777216) (I : Nat → List (Key × D) → Prop) (hi : it ρ S0 = .ok nx S) (h0 : I 0 [])
    (hs : ∀ i z kvs, i < n → I i kvs → ∃ d ρ1 kd kk y, nx i (S ++ [z]) = some (some d) ∧ g d (wipeE ρ vs) (S ++ [z]) = .ok ρ1 (S ++ [z]) ∧ ek ρ1 (S ++ [z]) = .ok kd (S ++ [z]) ∧ keyD kd = some kk ∧ ev ρ1 (S ++ [z]) = .ok y (S ++ [z]) ∧ I (i + 1) (putKD kvs kk y)) (hl : ∀ i kvs, I i kvs → kvs.length ≤ i)
    (he : ∀ z, nx n (S ++ [z]) = some none) : ∃ kvs, mDc it g ek ev vs ρ S0 = .ok (.ref S.length) (S ++ [.dct kvs]) ∧ I n kvs := by
  obtain ⟨kvs, e, h⟩ := dcN_ok hn I hs hl he fuel 0 [] (Nat.zero_le _) (by unfold fuel; omega) h0
  refine ⟨kvs, ?_, h⟩
  unfold mDc
  rw [hi]
  exact e
/-- the keys of a dict are these whole numbers -/
def KI (kvs : List (Key × D)) (ks : List Int) : Prop := kvs.map (·.1) = ks.map Sum.inl
theorem KI.any {n : Int} : ∀ {kvs : List (Key × D)} {ks : List Int}, KI kvs ks → (kvs.any fun kv => decide (kv.1 = Sum.inl n)) = decide (n ∈ ks)
  | [], [], _ => rfl
  | [], _ :: _, h => by cases h
  | _ :: _, [], h => by cases h
  | p :: r, k :: ks, h => by
    have h' : p.1 :: r.map (·.1) = Sum.inl k :: ks.map Sum.inl := h
    injection h' with h1 h2
    rw [List.any_cons, KI.any (n := n) (show KI r ks from h2), h1]
    by_cases e : k = n
    · subst e; simp
    · have e1 : ¬ n = k := fun z => e z.symm
      simp [e, e1]
theorem KI.put {n : Int} {d : D} {kvs : List (Key × D)} {ks : List Int} (h : KI kvs ks) : KI (putKD kvs (.inl n) d) (if n ∈ ks then ks else ks ++ [n]) := by
  unfold putKD
  rw [h.any]
  by_cases e : n ∈ ks
  · rw [if_pos (decide_eq_true e), if_pos e]
    have : ∀ kvs : List (Key × D), (kvs.map fun (kv : Key × D) => if kv.1 = (Sum.inl n : Key) then (kv.1, d) else kv).map (fun (kv : Key × D) => kv.1) = kvs.map (fun (kv : Key × D) => kv.1) := fun kvs => by
      rw [List.map_map]
      refine List.map_congr_left fun kv _ => ?_
      show (if kv.1 = (Sum.inl n : Key) then (kv.1, d) else kv).1 = kv.1
      split <;> rfl
    exact (this kvs).trans h
  · rw [if_neg (fun z => e (of_decide_eq_true z)), if_neg e]
    show (kvs ++ [((Sum.inl n : Key), d)]).map (fun (kv : Key × D) => kv.1) = (ks ++ [n]).map Sum.inl
    rw [List.map_append, List.map_append]
    have h' : kvs.map (fun (kv : Key × D) => kv.1) = ks.map Sum.inl := h
    rw [h']
    rfl
theorem KI.ints : ∀ {kvs : List (Key × D)} {ks : List Int}, KI kvs ks → kvs.mapM intK = some ks
  | [], [], _ => rfl
  | [], _ :: _, h => by cases h
  | _ :: _, [], h => by cases h
  | (k0, d) :: r, k :: ks, h => by
    have h' : k0 :: r.map (·.1) = Sum.inl k :: ks.map Sum.inl := h
    injection h' with h1 h2
    subst h1
    rw [List.mapM_cons]
    have e : intK (Sum.inl k, d) = some k := rfl
    rw [e, KI.ints (show KI r ks from h2)]
    rfl
theorem KI.length {kvs : List (Key × D)} {ks : List Int} (h : KI kvs ks) : kvs.length = ks.length := by
  have := congrArg List.length h
  simpa using this

def pyT (l : List Int) : PyData := .tuple (l.map .int)
theorem toPy_ints {S : Store} {m : Nat} : ∀ l : List Int, (l.map D.int).mapM (toPy (m + 1) S) = some (l.map .int)
  | [] => rfl
  | n :: r => by
    rw [List.map_cons, List.mapM_cons]
    have e : toPy (m + 1) S (.int n) = some (.int n) := rfl
    rw [e, toPy_ints r]
    rfl
theorem toPy_tup {S : Store} {m : Nat} (l : List Int) : toPy (m + 2) S (.tup (l.map .int)) = some (pyT l) := by
  show ((l.map D.int).mapM (toPy (m + 1) S)).map PyData.tuple = _
  rw [toPy_ints]
  rfl
theorem toPy_keys {S : Store} {k : Int → List Int} : ∀ ns : List Int, (ns.map fun n => D.tup ((k n).map .int)).mapM (toPy 20 S) = some (ns.map fun n => pyT (k n))
  | [] => rfl
  | n :: r => by
    rw [List.map_cons, List.mapM_cons, toPy_tup (m := 18), toPy_keys r]
    rfl
theorem okK_ints {k : Int → List Int} (ns : List Int) (hk : ∀ n, k n ≠ []) : okK (ns.map fun n => pyT (k n)) = true := by
  unfold okK
  rw [Bool.and_eq_true, Bool.and_eq_true]
  refine ⟨⟨?_, ?_⟩, ?_⟩
  · rw [List.all_eq_true]
    intro d hd
    rw [List.all_eq_true]
    intro e he
    obtain ⟨a, _, rfl⟩ := List.mem_map.mp hd
    obtain ⟨b, _, rfl⟩ := List.mem_map.mp he
    show PySem.W.alikeAll ((k a).map .int) ((k b).map .int) = true
    exact PySem.W.alike_ints _ _
  · rw [Bool.or_eq_true]
    left
    rw [List.all_eq_true]
    intro d hd
    obtain ⟨a, _, rfl⟩ := List.mem_map.mp hd
    unfold pyT
    cases q : k a with
    | nil => exact absurd q (hk a)
    | cons x r => rfl
  · rw [List.all_eq_true]
    intro d hd
    obtain ⟨a, _, rfl⟩ := List.mem_map.mp hd
    refine decide_eq_true ?_
    unfold pyT
    rw [PyData.depth, PySem.W.depth_ints]
    decide
/-- the sorted whole numbers -/
def srtN (lt : Int → Int → Bool) (ns : List Int) : List Int := ns.mergeSort fun a b => !lt b a
theorem srtD_ints {k : Int → List Int} {lt : Int → Int → Bool} {ns : List Int} (h : ∀ a ∈ ns, ∀ b ∈ ns, PySem.W.dataLt (pyT (k a)) (pyT (k b)) = lt a b) : srtD (ns.map .int) (ns.map fun n => pyT (k n)) = (srtN lt ns).map .int := by
  unfold srtD srtN
  have e : (ns.map D.int).zip (ns.map fun n => pyT (k n)) = ns.map fun n => (D.int n, pyT (k n)) := by
    rw [List.zip_map']
  rw [e]
  have z := List.map_mergeSort (r := fun a b => !lt b a) (s := PySem.W.dataLe false (·.2)) (f := fun n : Int => (D.int n, pyT (k n))) (l := ns) (fun a ha b hb => by
    show (!lt b a) = !PySem.W.dataLt (pyT (k b)) (pyT (k a))
    rw [h b hb a ha])
  rw [← z, List.map_map]
  rfl
theorem sortKD_ints {k : Int → List Int} {lt : Int → Int → Bool} {ns : List Int} {S : Store} (hk : ∀ n, k n ≠ []) (h : ∀ a ∈ ns, ∀ b ∈ ns, PySem.W.dataLt (pyT (k a)) (pyT (k b)) = lt a b) :
    sortKD (ns.map .int) (ns.map fun n => D.tup ((k n).map .int)) S = .ok (.ref S.length) (S ++ [.lst ((srtN lt ns).map .int)]) := by
  unfold sortKD
  rw [toPy_keys]
  dsimp only
  rw [okK_ints ns hk, List.length_map, List.length_map, beq_self_eq_true, if_pos (by rfl), srtD_ints h]
theorem lt_lex : ∀ a b : List Int, decide (a < b) = HT.lexLt a b
  | [], [] => by simp [HT.lexLt]
  | [], _ :: _ => by simp [HT.lexLt]
  | _ :: _, [] => by simp [HT.lexLt]
  | x :: xs, y :: ys => by
    have ih := lt_lex xs ys
    by_cases e : x = y
    · subst e
      simp [HT.lexLt, ← ih]
    · simp [HT.lexLt, e, List.cons_lt_cons_iff]
theorem dataLt_pyT (a b : List Int) : PySem.W.dataLt (pyT a) (pyT b) = HT.lexLt a b := by
  unfold pyT
  rw [← lt_lex, ← PySem.W.dataLt_ints]
  rw [PySem.W.dataLt_tuple]
  rfl
theorem mSortK_ok {m : Fm} {a : M (List D)} {ρ : Env} {S S1 : Store} {d : D} {xs : List D} {f : D → D} {r : R D} (ha : a ρ S = .ok [d] S1) (hg : getSeq d S1 = some xs) (hk : ∀ x ∈ xs, callD m [x] S1 = .ok (f x) S1) (hs : sortKD xs (xs.map f) S1 = r) : mSortK m a ρ S = r := by
  unfold mSortK
  rw [ha]
  show (match one1 [d] with
    | some d => match getSeq d S1 with
      | some xs => (keysD m xs S1).noexc.bind fun ks S2 => sortKD xs ks S2
      | none => .bad
    | none => .bad) = _
  show (match getSeq d S1 with
      | some xs => (keysD m xs S1).noexc.bind fun ks S2 => sortKD xs ks S2
      | none => .bad) = _
  rw [hg]
  show (keysD m xs S1).noexc.bind (fun ks S2 => sortKD xs ks S2) = _
  rw [keysD_ok hk]
  exact hs
theorem mRng_ok {a : M (List D)} {ρ : Env} {S S1 : Store} {ds : List D} {r : R Nx} (h : a ρ S = .ok ds S1) (k : rngD ds S1 = r) : mRng a ρ S = r := by
  unfold mRng; rw [h]; exact k
theorem mIter_ok {a : M D} {ρ : Env} {S S1 : Store} {d : D} {r : R Nx} (h : a ρ S = .ok d S1) (k : iterD d S1 = r) : mIter a ρ S = r := by
  unfold mIter; rw [h]; exact k
theorem small_le {j : Int} (h : 0 ≤ j) (h2 : j ≤ 1000000000000) : small62 j = true := by
  unfold small62
  rw [Bool.and_eq_true]
  exact ⟨decide_eq_true (by omega), decide_eq_true (by omega)⟩
theorem rng_one {j : Nat} {S : Store} (h : j ≤ 1000000000000) : rngD [.int (j : Int)] S = .ok (nxRng 0 1 j) S := by
  show (if small62 (j : Int) = true then R.ok (nxRng 0 1 (j : Int).toNat) S else .bad) = _
  rw [if_pos (small_le (by omega) (by omega)), Int.toNat_natCast]
theorem rng_two {i j : Int} {S : Store} (h0 : 0 ≤ i) (h1 : i ≤ 1000000000000) (h2 : 0 ≤ j) (h : j ≤ 1000000000000) : rngD [.int i, .int j] S = .ok (nxRng i 1 (j - i).toNat) S := by
  show (if (small62 i && small62 j) = true then R.ok (nxRng i 1 (j - i).toNat) S else .bad) = _
  rw [if_pos (by rw [small_le h0 h1, small_le h2 h]; rfl)]
theorem pow2_le {i k : Nat} (h : i ≤ k) : 2 ^ i ≤ 2 ^ k := Nat.pow_le_pow_right (by decide) h
theorem mMth_ok {o : Om} {a : M D} {b : M (List D)} {ρ : Env} {S S1 S2 : Store} {x : D} {ys : List D} {r : R D} (h1 : a ρ S = .ok x S1) (hl : isL x S1 = true) (h2 : b ρ S1 = .ok ys S2) (h3 : o x ys S2 = r) : mMth o a b ρ S = r := by
  unfold mMth; rw [h1]
  show (if isL x S1 = true then (b ρ S1).bind fun ys S2 => o x ys S2 else .bad) = _
  rw [if_pos hl, h2]
  exact h3
theorem getM_ref {n : Nat} {S : Store} {ds : List D} (h : S[n]? = some (.lst ds)) : getM (.ref n) S = some (n, ds) := by
  show (match S[n]? with
    | some (.lst ds) => some (n, ds)
    | _ => none) = _
  rw [h]
theorem isL_ref {n : Nat} {S : Store} {ds : List D} (h : S[n]? = some (.lst ds)) : isL (.ref n) S = true := by
  show Option.isSome (match S[n]? with
    | some (.lst ds) => some ds
    | _ => none) = true
  rw [h]; rfl
theorem popAtD_ok {n k : Nat} {S : Store} {ds : List D} {y : D} (h : S[n]? = some (.lst ds)) (hy : ds[k]? = some y) (hl : ds.length ≤ 1000000000000) : popAtD (.ref n) [.int (k : Int)] S = .ok y (S.set n (.lst (ds.eraseIdx k))) := by
  have hk := (List.getElem?_eq_some_iff.mp hy).1
  have g1 : small63 (k : Int) = true := by
    unfold small63
    rw [Bool.and_eq_true]
    exact ⟨decide_eq_true (by omega), decide_eq_true (by omega)⟩
  have g2 : seqIndex? (k : Int) ds.length = some k := by
    unfold seqIndex?
    have : ¬ (k : Int) < 0 := by omega
    simp [this, hk]
  unfold popAtD
  rw [getM_ref h]
  dsimp only
  rw [if_pos g1, g2]
  dsimp only
  rw [hy]
theorem appendD_ok {n : Nat} {S : Store} {ds : List D} {y : D} (h : S[n]? = some (.lst ds)) (hl : ds.length < 16777216) : appendD (.ref n) [y] S = .ok .non (S.set n (.lst (ds ++ [y]))) := by
  unfold appendD
  rw [getM_ref h]
  dsimp only [one1]
  rw [if_pos hl]
theorem erase_map {α β : Type} (f : α → β) : ∀ (l : List α) (k : Nat), (l.map f).eraseIdx k = (l.eraseIdx k).map f
  | [], _ => rfl
  | _ :: _, 0 => rfl
  | a :: l, k + 1 => by
    show f a :: (l.map f).eraseIdx k = f a :: (l.eraseIdx k).map f
    rw [erase_map f l k]
theorem erase_perm {α : Type} {y : α} : ∀ {l : List α} {k : Nat}, l[k]? = some y → (y :: l.eraseIdx k).Perm l
  | [], k, h => by simp at h
  | a :: l, 0, h => by
    have e : a = y := by simpa using h
    subst e
    exact .refl _
  | a :: l, k + 1, h => by
    have ih := erase_perm (l := l) (k := k) (y := y) (by simpa using h)
    exact (List.Perm.swap a y _).trans (ih.cons a)
theorem lenD_ref {n : Nat} {S : Store} {ds : List D} (h : S[n]? = some (.lst ds)) : lenD [.ref n] S = .ok (.int ds.length) S := by
  have e : getSeq (.ref n) S = some ds := by
    show (match S[n]? with
      | some (.lst ds) => some ds
      | _ => none) = _
    rw [h]
  unfold lenD
  dsimp only
  rw [e]
end DM

namespace DM
open PySem PySem.Spec L2
open PyProof.Rows hiding St

section
variable {X : Cx} {B : Bv} {pos : Pos}
def ipC (C : Int → Int → Prop) (f : Int → Int → Int) : TIp := fun x y H Q => ∃ i j, x = .int i ∧ y = .int j ∧ C i j ∧ Q (.int (f i j)) H
theorem ip_mul : PIp X .Mult (ipC CMulW fun i j => i * j) := by
  intro pins s σ H x y v u Q I r1 r2 h
  obtain ⟨i, j, e1, e2, hc, q⟩ := h
  subst e1; subst e2
  obtain ⟨t, rfl⟩ := r1
  obtain ⟨t', rfl⟩ := r2
  exact PyProof.Rows.imul_int ⟨.int _, H, I.tok _, ⟨_, rfl⟩, q⟩ hc.ok
theorem ip_fdiv : PIp X .FloorDiv (ipC CDivW fun i j => i / j) := by
  intro pins s σ H x y v u Q I r1 r2 h
  obtain ⟨i, j, e1, e2, hc, q⟩ := h
  subst e1; subst e2
  obtain ⟨t, rfl⟩ := r1
  obtain ⟨t', rfl⟩ := r2
  have h1 : (0 : Int) < j := hc.1
  exact PyProof.Rows.ifloordiv_int (by omega) (by
    rw [Int.fdiv_eq_ediv_of_nonneg i (by omega)]
    exact ⟨.int _, H, I.tok _, ⟨_, rfl⟩, q⟩) (.inl (PyProof.noPylong_of_log2 hc.2))
theorem den_ipC {C : Int → Int → Bool} {C' : Int → Int → Prop} {g : Int → Int → Int} (h : ∀ i j, C i j = true → C' i j) : DenIp B (ipC C' g) (intD C g) := by
  intro σ θ S H d e x y Q R0 r1 r2 f
  cases d with
  | int i =>
    cases e with
    | int j =>
      cases r1; cases r2
      obtain ⟨hc, f⟩ := Fin.ite (c := C i j = true) f
      exact ⟨i, j, rfl, rfl, h _ _ hc, f.ok .refl R0 (.int _)⟩
    | _ => exact f.elim
  | _ => exact f.elim
def addI : O2
  | .int i, .int j, S => .ok (.int (i + j)) S
  | _, _, _ => .bad
theorem den_ipadd : DenIp B (ipI fun i j => i + j) addI := by
  intro σ θ S H d e x y Q R0 r1 r2 f
  cases d with
  | int i =>
    cases e with
    | int j => cases r1; cases r2; exact ⟨i, j, rfl, rfl, f.ok .refl R0 (.int _)⟩
    | _ => exact f.elim
  | _ => exact f.elim
theorem den_ipsub : DenIp B (ipI fun i j => i - j) subD := by
  intro σ θ S H d e x y Q R0 r1 r2 f
  cases d with
  | int i =>
    cases e with
    | int j => cases r1; cases r2; exact ⟨i, j, rfl, rfl, f.ok .refl R0 (.int _)⟩
    | _ => exact f.elim
  | _ => exact f.elim
abbrev mulI : O2 := intD mulC fun i j => i * j
theorem den_ipmul : DenIp B (ipC CMulW fun i j => i * j) mulI := den_ipC (C := mulC) fun i j h => (of_decide_eq_true h : i.natAbs.log2 + j.natAbs.log2 < 1000000)
theorem den_ipfdiv : DenIp B (ipC CDivW fun i j => i / j) fdivD := den_ipC fun i j h => by
  rw [fdivC, Bool.and_eq_true] at h
  exact ⟨of_decide_eq_true h.1, of_decide_eq_true h.2⟩

def rng3D (ds : List D) (S : Store) : R Nx := match ds with
  | [.int i, .int j, .int c] => if (decide (c ≠ 0) && decide (c.natAbs < 1073741824) && Builtin.Range.small i j c && decide (0 ≤ Builtin.Range.rangeSize i j c)) = true then .ok (nxRng i c (Builtin.Range.rangeSize i j c).toNat) S else .bad
  | _ => .bad

theorem ri_rngC {θ : List Addr} {H : Hp} {lo c : Int} {n : Nat} : RI B θ H (nxRng lo c n) (Itc lo c n) := by
  intro i θ' S' H' e R0
  refine ⟨fun q => ?_, fun d q => ?_⟩
  · have q' : (if i < n then some (D.int (lo + i * c)) else none) = none := Option.some.inj q
    by_cases h : i < n
    · rw [if_pos h] at q'; cases q'
    · exact Nat.le_of_not_lt h
  · have q' : (if i < n then some (D.int (lo + i * c)) else none) = some d := Option.some.inj q
    by_cases h : i < n
    · rw [if_pos h] at q'
      cases q'
      refine ⟨h, fun x H'' y => ?_⟩
      obtain ⟨rfl, rfl⟩ := y
      exact ⟨.refl, R0, .int _⟩
    · rw [if_neg h] at q'; cases q'
def mRng3 (a : M (List D)) : M Nx := fun ρ S => (a ρ S).bind rng3D
theorem di_rng3 {tg a b c : Expr} {ma : M (List D)} {p : Pos} (hg : Gl X "range") (hm : X.mg "range" = none) (ha : PA X [a, b, c] (rdA B ma)) (hs : starEach [a, b, c] X.env = (false, eval a X.env) :: starEach [b, c] X.env := by rfl) (hpl : (backTo pos (starEach [b, c] X.env)).any (·.1) = false := by rfl) :
    PI X tg (.Call (.Name "range" p) [a, b, c] [] pos) (rdI B (mRng3 ma)) :=
  PI.imp (pi_range3 hg hm ha hs hpl) fun σ H R ⟨ρ, S, θ, R0, rs, f⟩ => ⟨ρ, S, θ, R0, rs, Fin.bind f fun ds S1 θ1 H1 vs q e1 R1 r1 f1 => by
    unfold rng3D at f1
    split at f1
    · rename_i i j c
      obtain ⟨hc, f2⟩ := Fin.ite (c := (decide (c ≠ 0) && decide (c.natAbs < 1073741824) && Builtin.Range.small i j c && decide (0 ≤ Builtin.Range.rangeSize i j c)) = true) f1
      simp only [Bool.and_eq_true, decide_eq_true_eq] at hc
      obtain ⟨⟨⟨h1, h2⟩, h3⟩, h4⟩ := hc
      cases r1 with
      | cons x1 r1 =>
        cases r1 with
        | cons x2 r1 =>
          cases r1 with
          | cons x3 r1 =>
            cases r1
            cases x1; cases x2; cases x3
            exact ⟨i, j, c, _, rfl, ⟨h1, h2, h3, (Int.toNat_of_nonneg h4).symm⟩, Fin.ok f2 .refl R1 ri_rngC⟩
    · exact f1.elim⟩
def inC : C2 := fun d e S => match toPy 20 S d, toPy 20 S e with
  | some p, some (.list qs) => if SeqAt.shaped p && SeqAt.shaped (.list qs) then some (qs.any fun z => PyData.eqv z p) else none
  | some p, some (.tuple qs) => if SeqAt.shaped p && SeqAt.shaped (.tuple qs) then some (qs.any fun z => PyData.eqv z p) else none
  | _, _ => none
def notInC : C2 := fun d e S => (inC d e S).map (!·)
theorem inC_ok {G : Gv} {F : Fr0} {θ : List Addr} {S : Store} {H : Hp} (R0 : Rel G F θ S H) {d e : D} {x y : V} {b : Bool} (r1 : RD G θ H d x) (r2 : RD G θ H e y) (h : inC d e S = some b) :
    ∃ p qs, Dp G.K H x p ∧ SeqAt.shaped p = true ∧ b = (qs.any fun z => PyData.eqv z p) ∧ ((Dp G.K H y (.list qs) ∧ SeqAt.shaped (.list qs) = true) ∨ (Dp G.K H y (.tuple qs) ∧ SeqAt.shaped (.tuple qs) = true)) := by
  unfold inC at h
  cases q1 : toPy 20 S d with
  | none => rw [q1] at h; cases h
  | some p =>
    cases q2 : toPy 20 S e with
    | none => rw [q1, q2] at h; cases h
    | some q =>
      rw [q1, q2] at h
      have k1 := toPy_dp R0 _ _ _ _ r1 q1
      have k2 := toPy_dp R0 _ _ _ _ r2 q2
      cases q with
      | list qs =>
        replace h : (if (SeqAt.shaped p && SeqAt.shaped (.list qs)) = true then some (qs.any fun z => PyData.eqv z p) else none) = some b := h
        by_cases hc : (SeqAt.shaped p && SeqAt.shaped (.list qs)) = true
        · rw [if_pos hc] at h
          cases h
          rw [Bool.and_eq_true] at hc
          exact ⟨p, qs, k1, hc.1, rfl, .inl ⟨k2, hc.2⟩⟩
        · rw [if_neg hc] at h; cases h
      | tuple qs =>
        replace h : (if (SeqAt.shaped p && SeqAt.shaped (.tuple qs)) = true then some (qs.any fun z => PyData.eqv z p) else none) = some b := h
        by_cases hc : (SeqAt.shaped p && SeqAt.shaped (.tuple qs)) = true
        · rw [if_pos hc] at h
          cases h
          rw [Bool.and_eq_true] at hc
          exact ⟨p, qs, k1, hc.1, rfl, .inr ⟨k2, hc.2⟩⟩
        · rw [if_neg hc] at h; cases h
      | _ => cases h
def rInT (K : PySem.W.Frag) : R2 := fun x y H Q => ∃ d ds, Dp K H x d ∧ Dp K H y (.tuple ds) ∧ SeqAt.shaped d = true ∧ SeqAt.shaped (.tuple ds) = true ∧ Q (.bl (ds.any fun z => PyData.eqv z d)) H
def rNotInT (K : PySem.W.Frag) : R2 := fun x y H Q => ∃ d ds, Dp K H x d ∧ Dp K H y (.tuple ds) ∧ SeqAt.shaped d = true ∧ SeqAt.shaped (.tuple ds) = true ∧ Q (.bl (!ds.any fun z => PyData.eqv z d)) H
theorem op_inT (hu : X.A.units + 65 < cLine) : OpR X (compareOp .In) (rInT X.K) := by
  intro pins s σ H x y v u Q I rx ry h
  obtain ⟨d, ds, hd, he, sd, se, q⟩ := h
  obtain ⟨as, r1⟩ := Dp.reads I d x v hd rx
  obtain ⟨bs, r2⟩ := Dp.reads I (.tuple ds) y u he ry
  exact SeqAt.in_tuple_reads r2 r1 (SeqAt.canLay_of_shaped se) (SeqAt.canLay_of_shaped sd) (room_in_shaped sd hu) ⟨.bl _, H, I, rfl, q⟩
theorem op_notInT (hu : X.A.units + 65 < cLine) : OpR X (compareOp .NotIn) (rNotInT X.K) := by
  intro pins s σ H x y v u Q I rx ry h
  obtain ⟨d, ds, hd, he, sd, se, q⟩ := h
  obtain ⟨as, r1⟩ := Dp.reads I d x v hd rx
  obtain ⟨bs, r2⟩ := Dp.reads I (.tuple ds) y u he ry
  exact SeqAt.notIn_tuple_reads r2 r1 (SeqAt.canLay_of_shaped se) (SeqAt.canLay_of_shaped sd) (room_in_shaped sd hu) ⟨.bl _, H, I, rfl, q⟩
theorem opR_in (hu : X.A.units + 65 < cLine) : OpR X (compareOp .In) (fun x y H Q => rInD X.K x y H Q ∨ rInT X.K x y H Q) := (op_inD hu).or (op_inT hu)
theorem opR_notIn (hu : X.A.units + 65 < cLine) : OpR X (compareOp .NotIn) (fun x y H Q => rNotInD X.K x y H Q ∨ rNotInT X.K x y H Q) := (op_notInD hu).or (op_notInT hu)
theorem den_in (hK : B.G.K = X.K) : DenC B (fun x y H Q => rInD X.K x y H Q ∨ rInT X.K x y H Q) inC := by
  intro θ S H d e x y b Q R0 r1 r2 h q
  obtain ⟨p, qs, k1, k2, rfl, k3⟩ := inC_ok R0 r1 r2 h
  rw [hK] at k1 k3
  rcases k3 with ⟨k3, k4⟩ | ⟨k3, k4⟩
  · exact .inl ⟨p, qs, k1, k3, k2, k4, q⟩
  · exact .inr ⟨p, qs, k1, k3, k2, k4, q⟩
theorem den_notIn (hK : B.G.K = X.K) : DenC B (fun x y H Q => rNotInD X.K x y H Q ∨ rNotInT X.K x y H Q) notInC := by
  intro θ S H d e x y b Q R0 r1 r2 h q
  obtain ⟨b', h9, rfl⟩ := map_some h
  obtain ⟨p, qs, k1, k2, rfl, k3⟩ := inC_ok R0 r1 r2 h9
  rw [hK] at k1 k3
  rcases k3 with ⟨k3, k4⟩ | ⟨k3, k4⟩
  · exact .inl ⟨p, qs, k1, k3, k2, k4, q⟩
  · exact .inr ⟨p, qs, k1, k3, k2, k4, q⟩

def nxZip (xs ys : List D) : Nx := fun i _ => some (match xs[i]?, ys[i]? with
  | some x, some y => some (.pr [x, y])
  | _, _ => none)
def zipD (ds : List D) (S : Store) : R Nx := match ds with
  | [d, e] => match tupOf d, tupOf e with
    | some xs, some ys => .ok (nxZip xs ys) S
    | _, _ => .bad
  | _ => .bad
def mZip (a : M (List D)) : M Nx := fun ρ S => (a ρ S).bind zipD
theorem ri_zip {θ : List Addr} {H : Hp} {d1 d2 : D} {xs ys : List D} {a b : Addr} (hK : B.G.K = X.K) (r1 : RD B.G θ H d1 (.ref a)) (k1 : tupOf d1 = some xs) (r2 : RD B.G θ H d2 (.ref b)) (k2 : tupOf d2 = some ys) : RI B θ H (nxZip xs ys) (RZ.ItzT X.K a b) := by
  intro i θ' S' H' e R0
  obtain ⟨a', us, ea, h1, h2⟩ := tupOf_ok (r1.ext e) k1
  obtain ⟨b', ws, eb, h3, h4⟩ := tupOf_ok (r2.ext e) k2
  cases ea
  cases eb
  rw [hK] at h1 h3
  refine ⟨fun q => ⟨us, ws, h1, h3, ?_⟩, fun d q => ?_⟩
  · have q' : (match xs[i]?, ys[i]? with
      | some x, some y => some (D.pr [x, y])
      | _, _ => (none : Option D)) = none := Option.some.inj q
    rw [← h2.length, ← h4.length]
    cases q1 : xs[i]? with
    | none => exact .inl (List.getElem?_eq_none_iff.mp q1)
    | some x =>
      cases q2 : ys[i]? with
      | none => exact .inr (List.getElem?_eq_none_iff.mp q2)
      | some y => rw [q1, q2] at q'; cases q'
  · have q' : (match xs[i]?, ys[i]? with
      | some x, some y => some (D.pr [x, y])
      | _, _ => (none : Option D)) = some d := Option.some.inj q
    cases q1 : xs[i]? with
    | none => rw [q1] at q'; cases q'
    | some x =>
      cases q2 : ys[i]? with
      | none => rw [q1, q2] at q'; cases q'
      | some y =>
        rw [q1, q2] at q'
        have q9 : D.pr [x, y] = d := Option.some.inj q'
        subst q9
        obtain ⟨u, hu, ru⟩ := h2.get q1
        obtain ⟨w, hw, rw'⟩ := h4.get q2
        refine ⟨⟨us, ws, u, w, h1, h3, hu, hw⟩, fun v H'' hy => ?_⟩
        obtain ⟨T, u', w', rfl, hT, rfl, k1, k2⟩ := hy
        have e1 := k1 us h1
        have e2 := k2 ws h3
        rw [hu] at e1
        rw [hw] at e2
        cases e1
        cases e2
        have ex : Ext θ' H' θ' (upd H' T (.tup [u, w])) := .of_keep (keep_new hT)
        exact ⟨ex, R0.laid hT, .pr (.inl (.inl upd_same)) (.cons (ru.ext ex) (.cons (rw'.ext ex) .nil))⟩
theorem di_zip {e e2 : Expr} {elts : List Expr} {kk : Nat} {tpos : Pos} {ma : M (List D)} {p : Pos} (hK : B.G.K = X.K) (hg : Gl X "zip") (hm : X.mg "zip" = none) (ha : PA X [e, e2] (rdA B ma)) (hs : starEach [e, e2] X.env = (false, eval e X.env) :: starEach [e2] X.env := by rfl)
    (hpl : (backTo pos (starEach [e2] X.env)).any (·.1) = false := by rfl) : PI X (.Tuple elts kk tpos) (.Call (.Name "zip" p) [e, e2] [] pos) (rdI B (mZip ma)) :=
  PI.imp (RZ.pi_zipA hg hm ha hs hpl) fun σ H R ⟨ρ, S, θ, R0, rs, f⟩ => ⟨ρ, S, θ, R0, rs, Fin.bind f fun ds S1 θ1 H1 vs q e1 R1 r1 f1 => by
    unfold zipD at f1
    split at f1
    · rename_i d d2
      cases q1 : tupOf d with
      | none => rw [q1] at f1; exact f1.elim
      | some xs =>
        cases q2 : tupOf d2 with
        | none => rw [q1, q2] at f1; exact f1.elim
        | some ys =>
          rw [q1, q2] at f1
          obtain ⟨v, w, rfl, k1, k2⟩ := rds2 r1
          obtain ⟨a, us, rfl, h1, h2⟩ := tupOf_ok k1 q1
          obtain ⟨b, ws, rfl, h3, h4⟩ := tupOf_ok k2 q2
          rw [hK] at h1 h3
          exact ⟨a, b, us, ws, rfl, .inr ⟨h1, h3, Fin.ok f1 .refl R1 (ri_zip hK k1 q1 k2 q2)⟩⟩
    · exact f1.elim⟩

abbrev rSortD (X : Cx) : List V → Hp → VK → Prop := fun vs H Q => ∃ (l : Addr) (xs : List V) (kz : List PyData), vs = [.ref l] ∧ SqL X.K H l xs ∧ DpAll X.K H xs kz ∧ PySem.W.AllAlike kz ∧ PySem.W.Sortable kz ∧ (∀ d ∈ kz, X.A.units + 2 + d.depth < cLine) ∧
  ∀ p, H p = none → Q (.ref p) (upd H p (.lst (srtK xs kz)))
theorem dpAll_len {K : PySem.W.Frag} {H : Hp} : ∀ {xs : List V} {kz : List PyData}, DpAll K H xs kz → kz.length = xs.length
  | _, _, .nil => rfl
  | _, _, .cons _ t => congrArg (· + 1) (dpAll_len t)
theorem each_zip2 {R : Value → PyData → Prop} : ∀ {us : List Value} {xs : List V} {kz : List PyData}, PySem.W.EachIs R us kz → xs.length = kz.length → PySem.W.EachIs (fun v (b : V × PyData) => R v b.2) us (xs.zip kz)
  | _, xs, _, .nil, _ => by
    rw [List.zip_nil_right]
    exact .nil
  | _, [], _, .cons _ _, e => by cases e
  | _, x :: xs, _, .cons h t, e => .cons h (each_zip2 t (by simpa using e))
theorem call_sortD : CallR X (.builtin "sorted") (rSortD X) := by
  intro pins s σ H vs us Q I r h
  obtain ⟨l, xs, kz, rfl, hs, hD, hal, hsk, hu, q⟩ := h
  obtain ⟨u, rfl, rfl⟩ := vals1 r
  obtain ⟨its, rv, hl, hz⟩ := I.list hs
  have hk := dpAll_len hD
  refine PySem.W.sorted_data (bs := xs.zip kz) (enc := (·.2)) (R := fun v b => RelV b.1 v) hl.isList (each_zip rv hk) (each_zip2 (dps_reads I rv hD) hk.symm) (by rw [map_zip_snd hk]; exact hal) (by rw [map_zip_snd hk]; exact hsk) (by
    rw [List.length_zip, hk, Nat.min_self]; exact hz) (fun b hb => hu b.2 (List.of_mem_zip hb).2) fun out ho eo => ?_
  obtain ⟨ep, he'⟩ := PyProof.Rows.sortedAll_at s.heap its out.toArray
  have hv : Vals (srtK xs kz) out := each_vals eo
  have hlen : (srtK xs kz).length ≤ sizeLine := by
    unfold srtK
    rw [List.length_map, List.length_mergeSort, List.length_zip, hk, Nat.min_self]
    exact hz
  exact ⟨.ref _, upd H (s.heap.objs.size + 1) (.lst (srtK xs kz)), I.laid (t' := s.toks) (fun _ _ => PyProof.Rows.sortedAll_old) (Nat.le_succ _) ⟨hlen, out, ep, hv, he'⟩, rfl, q _ (I.hok.fresh (Nat.le_succ _))⟩
abbrev rSortAll (X : Cx) : List V → Hp → VK → Prop := fun vs H Q => rSortA X.K vs H Q ∨ rSortD X vs H Q
theorem call_sortAll (hc : X.calm = true) : CallR X (.builtin "sorted") (rSortAll X) := CallR.or (call_sortedA hc) call_sortD
def sortAllD : Ob := fun ds S => match one1 ds with
  | some d => match getK d S with
    | some _ => sortedD ds S
    | none => match getL d S with
      | some xs => match asInts xs with
        | some _ => sortedD ds S
        | none => match xs.mapM (toPy 20 S) with
          | some kz => if okK kz then .ok (.ref S.length) (S ++ [.lst (srtD xs kz)]) else .bad
          | none => .bad
      | none => .bad
  | none => .bad
theorem den_sortAll {k : Nat} (hr : Room k X.A) (hK : B.G.K = X.K) : DenB B (rSortAll X) sortAllD := by
  intro σ θ S H ds vs Q R0 r f
  unfold sortAllD at f
  cases q : one1 ds with
  | none => rw [q] at f; exact f.elim
  | some d =>
    rw [q] at f
    dsimp only at f
    cases q1 : getK d S with
    | some kvs => rw [q1] at f; exact .inl (den_sorted hK σ θ S H ds vs Q R0 r f)
    | none =>
      rw [q1] at f
      dsimp only at f
      cases q2 : getL d S with
      | none => rw [q2] at f; exact f.elim
      | some xs =>
        rw [q2] at f
        dsimp only at f
        cases q3 : asInts xs with
        | some ns => rw [q3] at f; exact .inl (den_sorted hK σ θ S H ds vs Q R0 r f)
        | none =>
          rw [q3] at f
          dsimp only at f
          cases q4 : xs.mapM (toPy 20 S) with
          | none => rw [q4] at f; exact f.elim
          | some kz =>
            rw [q4] at f
            obtain ⟨c, f2⟩ := Fin.ite (c := okK kz = true) f
            obtain ⟨c1, c2, c3⟩ := okK_ok c
            have e := one1_ok q
            subst e
            obtain ⟨v, rfl, r1⟩ := rds1 r
            obtain ⟨a, ws, rfl, k1, k2⟩ := getL_ok R0 r1 q2
            have hD := dpAll_of (F := B.F) (toPy_dp R0 20) xs ws kz k2 q4
            rw [hK] at k1 hD
            refine .inr ⟨a, ws, kz, rfl, k1, hD, c1, c2, fun d hd => ?_, fun p hp => Fin.ok f2 (ext_cell hp) (R0.alloc hp (srtD_ok k2 ((dpAll_len hD).trans k2.length.symm))) (RD.new R0)⟩
            have h1 := c3 d hd
            have h2 := hr.un
            omega

def showD (p : PyData) : Bool := p.showable && !p.hasDict && decide (p.depth ≤ 20) && decide (p.shown.length ≤ sizeLine)
def reprAllD : Ob := fun ds S => match one1 ds with
  | some (.bl b) => .ok (.str (if b then "True" else "False")) S
  | some (.int i) => if i.natAbs.log2 < 1920 then .ok (.str (toString i)) S else .bad
  | some d => match getSeq d S with
    | some _ => match toPy 20 S d with
      | some p => if showD p then .ok (.str p.shown) S else .bad
      | none => .bad
    | none => .bad
  | none => .bad
abbrev rReprA (X : Cx) : List V → Hp → VK → Prop := fun xs H Q => rRepr xs H Q ∨ ∃ a p, xs = [.ref a] ∧ Dp X.K H (.ref a) p ∧ showD p = true ∧ Q (.str p.shown) H
theorem call_reprA {k : Nat} (hr : Room k X.A) (gd : X.A.guards = some []) : CallR X (.builtin "repr") (rReprA X) := by
  intro pins s σ H vs us Q I r h
  rcases h with h | ⟨a, p, rfl, hD, hs, q⟩
  · exact call_repr2 pins s σ H vs us Q I r h
  · obtain ⟨u, rfl, ru⟩ := vals1 r
    cases ru
    unfold showD at hs
    simp only [Bool.and_eq_true, decide_eq_true_eq, Bool.not_eq_true'] at hs
    obtain ⟨⟨⟨h1, h2⟩, h3⟩, h4⟩ := hs
    obtain ⟨as, rr⟩ := Dp.reads I p (.ref a) (.ref a) hD rfl
    have hu := hr.un
    exact repr_of_reads' rr h1 (fun z => by rw [h2] at z; cases z) gd (by omega) (fun _ _ e => e) (fun h' t tk hk => ⟨.str p.shown, H, I.kept hk, ⟨_, rfl⟩, q⟩) h4
theorem den_reprA (hK : B.G.K = X.K) : DenB B (rReprA X) reprAllD := by
  intro σ θ S H ds vs Q R0 r f
  unfold reprAllD at f
  cases q : one1 ds with
  | none => rw [q] at f; exact f.elim
  | some d =>
    rw [q] at f
    have e := one1_ok q
    subst e
    obtain ⟨v, rfl, r1⟩ := rds1 r
    have gen : Fin B (RD B.G) σ θ H (match getSeq d S with
      | some _ => match toPy 20 S d with
        | some p => if showD p then .ok (.str p.shown) S else .bad
        | none => .bad
      | none => .bad) Q → rReprA X [v] H Q := fun f => by
      cases q1 : getSeq d S with
      | none => rw [q1] at f; exact f.elim
      | some xs =>
        rw [q1] at f
        dsimp only at f
        cases q2 : toPy 20 S d with
        | none => rw [q2] at f; exact f.elim
        | some p =>
          rw [q2] at f
          obtain ⟨c, f2⟩ := Fin.ite (c := showD p = true) f
          obtain ⟨a, ws, rfl, _, _⟩ := getSeq_ok R0 r1 q1
          exact .inr ⟨a, p, rfl, hK ▸ toPy_dp R0 20 d _ p r1 q2, c, f2.ok .refl R0 (.str _)⟩
    cases d with
    | bl b => cases r1; exact .inl (.inl ⟨b, rfl, Fin.ok (a := D.str (if b then "True" else "False")) f .refl R0 (.str _)⟩)
    | int i =>
      cases r1
      obtain ⟨c, f2⟩ := Fin.ite (c := i.natAbs.log2 < 1920) f
      exact .inl (.inr ⟨i, rfl, c, f2.ok .refl R0 (.str _)⟩)
    | _ => exact gen f

/-- a method of a tuple that we made -/
theorem tupF_obj {pins : List (Addr × Obj)} {σ : St} {H : Hp} {s : Shared} {a : Addr} {xs : List V} (I : Inv X pins σ H s) (h : TupF X.K H a xs) : ∃ o, s.heap.get? a = some o ∧ o.cls = .type "tuple" ∧ o.dict = none := by
  rcases h with ⟨o, h, h1, h2⟩ | ⟨o, its, n, h, h1, h2, _⟩
  · exact ⟨o, (I.hok a _ h).1, h1, h2⟩
  · exact ⟨o, I.kIn a o h, h1, h2⟩
end
end DM

namespace DM
open PySem PySem.Spec L2
open PyProof.Rows hiding St

section
variable {X : Cx} {B : Bv} {pos : Pos}
def tTM (K : PySem.W.Frag) (r : V → List V → Hp → VK → Prop) (to : TE) (t : TA) : TE := fun σ H Q => to σ H fun x H1 => (∃ a xs, x = .ref a ∧ TupF K H1 a xs) ∧ t σ H1 fun vs H2 => r x vs H2 Q
theorem pe_tm {o e : Expr} {es : List Expr} {name : Str} {apos cpos : Pos} {id : String} {r : V → List V → Hp → VK → Prop} {to : TE} {t : TA} (slot : Slot "tuple" name id) (hty : typeOf (.builtin id) = pure (.type "method_descriptor")) (hm : MtR X id r) (ho : PE X o to) (ha : PA X (e :: es) t)
    (h1 : attributeBase o name X.env (eval o X.env) = eval o X.env := by rfl)
    (h2 : ((backTo cpos (starEach (e :: es) X.env)).all (fun x => !x.1) && (backToKw cpos (keywordEach [] X.env)).all (fun x => x.1.isSome) && decide ((e :: es).length + ([] : List Keyword).length + (if ([] : List Keyword).isEmpty then 0 else 1) < 30)) = true := by rfl)
    (h3 : (apos.endLine == cpos.line) = true := by rfl) (h4 : starEach (e :: es) X.env = (false, eval e X.env) :: starEach es X.env := by rfl) (h5 : (backTo cpos (starEach es X.env)).any (·.1) = false := by rfl) :
    PE X (.Call (.Attribute o name apos) (e :: es) [] cpos) (tTM X.K r to t) := by
  refine ⟨fun pins s σ H Q I h => ?_⟩
  refine wpAny_Call_method_late h1 h2 h3 rfl (thn (ho.run pins s σ H _ I h) fun v s1 ⟨x, H1, I1, r1, ⟨a, xs, ex, tf⟩, q1⟩ => ?_)
  subst ex
  cases r1
  obtain ⟨ob, k1, k2, k3⟩ := tupF_obj I1 tf
  refine ⟨"tuple", id, PySem.F.plainAttrs_tuple, slot, hty, ⟨ob, k1, k2⟩, fun b e => ⟨ob, by cases e; exact k1, k3⟩, ?_⟩
  have hA := ha.run cpos pins s1 σ H1 _ I1 q1
  rw [h4] at hA ⊢
  exact Calls.callWith_builtin (by show (false || (backTo cpos (starEach es X.env)).any (·.1)) = false; rw [h5] <;> rfl) (Calls.evalArgs_plain (thn hA fun us s2 ⟨vs, H2, I2, r2, q2⟩ => hm pins s2 σ H2 (.ref a) vs (.ref a) us Q I2 rfl r2 q2))
def isT : D → Bool
  | .tup _ => true
  | _ => false
def mMthT (o : Om) (a : M D) (b : M (List D)) : M D := fun ρ S => (a ρ S).bind fun x S1 => if isT x then (b ρ S1).bind fun ys S2 => o x ys S2 else .bad
theorem de_mthT {o e : Expr} {es : List Expr} {name : Str} {apos cpos : Pos} {id : String} {r : V → List V → Hp → VK → Prop} {om : Om} {a : M D} {b : M (List D)} (hK : B.G.K = X.K) (slot : Slot "tuple" name id) (hty : typeOf (.builtin id) = pure (.type "method_descriptor")) (hm : MtR X id r) (hd : DenM B r om)
    (ho : PE X o (rdE B a)) (ha : PA X (e :: es) (rdA B b)) (h1 : attributeBase o name X.env (eval o X.env) = eval o X.env := by rfl)
    (h2 : ((backTo cpos (starEach (e :: es) X.env)).all (fun x => !x.1) && (backToKw cpos (keywordEach [] X.env)).all (fun x => x.1.isSome) && decide ((e :: es).length + ([] : List Keyword).length + (if ([] : List Keyword).isEmpty then 0 else 1) < 30)) = true := by rfl)
    (h3 : (apos.endLine == cpos.line) = true := by rfl) (h4 : starEach (e :: es) X.env = (false, eval e X.env) :: starEach es X.env := by rfl) (h5 : (backTo cpos (starEach es X.env)).any (·.1) = false := by rfl) :
    PE X (.Call (.Attribute o name apos) (e :: es) [] cpos) (rdE B (mMthT om a b)) :=
  PE.imp (pe_tm slot hty hm ho ha h1 h2 h3 h4 h5) fun σ H Q ⟨ρ, S, θ, R0, rs, f⟩ => ⟨ρ, S, θ, R0, rs, Fin.bind f fun x S1 θ1 H1 v _ e1 R1 r1 f1 => by
    obtain ⟨hl, f2⟩ := Fin.ite (c := isT x = true) f1
    have r9 := r1
    cases x with
    | tup ds =>
      cases r9 with
      | @tup a xs _ k1 k2 => exact ⟨⟨a, xs, rfl, hK ▸ k1⟩, ρ, S1, θ1, R1, rs.ext e1, Fin.bind f2 fun ys S2 θ2 H2 vs _ e2 R2 r2 f3 => hd σ θ2 S2 H2 _ _ ys vs Q R2 (r1.ext e2) r2 f3⟩
    | _ => cases hl⟩
/-- t.index(k), whole numbers -/
def rTIx (K : PySem.W.Frag) : V → List V → Hp → VK → Prop := fun x xs H Q => ∃ (a : Addr) (ns : List Int) (k : Int), x = .ref a ∧ xs = [.int k] ∧ SqT K H a (ns.map V.int) ∧ k ∈ ns ∧ Q (.int (ns.idxOf k : Nat)) H
theorem mt_tix : MtR X "tuple.index" (rTIx X.K) := by
  intro pins s σ H x xs v us Q I rx rs h
  obtain ⟨a, ns, k, rfl, rfl, ht, hk, q⟩ := h
  cases rx
  obtain ⟨u, rfl, t, rfl⟩ := vals1 rs
  obtain ⟨its, rv, p, _⟩ := I.tuple ht
  exact PySem.SeqAt.tuple_index_ints (show s.heap.IsTuple a its.toArray from p) rv.ints hk ⟨.int _, H, I.tok _, ⟨_, rfl⟩, q⟩
def tixD : Om := fun d ds S => match d, one1 ds with
  | .tup xs, some (.int k) => match asInts xs with
    | some ns => if k ∈ ns then .ok (.int (ns.idxOf k : Nat)) S else .bad
    | none => .bad
  | _, _ => .bad
theorem den_tix (hK : B.G.K = X.K) : DenM B (rTIx X.K) tixD := by
  intro σ θ S H d x ds vs Q R0 r1 r2 f
  unfold tixD at f
  cases d with
  | tup xs =>
    cases q : one1 ds with
    | none => rw [q] at f; exact f.elim
    | some e =>
      have ee := one1_ok q
      subst ee
      obtain ⟨w, rfl, r3⟩ := rds1 r2
      rw [q] at f
      cases e with
      | int k =>
        cases r3
        dsimp only at f
        cases q1 : asInts xs with
        | none => rw [q1] at f; exact f.elim
        | some ns =>
          rw [q1] at f
          obtain ⟨hk, f2⟩ := Fin.ite (c := k ∈ ns) f
          cases r1 with
          | @tup a us _ h1 h2 =>
            rw [asInts_ok h2 q1, hK] at h1
            exact ⟨a, ns, k, rfl, rfl, h1.sq, hk, f2.ok .refl R0 (.int _)⟩
      | _ => exact f.elim
  | _ => exact f.elim
abbrev rBest (K : PySem.W.Frag) (g : Int → Int → Int) : List V → Hp → VK → Prop := fun vs H Q => ∃ (a : Addr) (n : Int) (ns : List Int), vs = [.ref a] ∧ (SqL K H a ((n :: ns).map V.int) ∨ SqT K H a ((n :: ns).map V.int)) ∧ Q (.int (ns.foldl g n)) H
theorem alike_all_ints (ns : List Int) : PySem.W.AlikeAll (ns.map .int) := ⟨fun x hx y hy => by
  obtain ⟨a, _, rfl⟩ := List.mem_map.mp hx
  obtain ⟨b, _, rfl⟩ := List.mem_map.mp hy
  rfl, fun x hx => by
  obtain ⟨a, _, rfl⟩ := List.mem_map.mp hx
  exact fun z => by cases z⟩
theorem reads_ints {h : Heap} : ∀ {ns : List Int} {us : List Value}, Vals (ns.map V.int) us → ReadsAll h us (ns.map .int) []
  | [], _, .nil => .nil
  | n :: r, _, .cons ⟨t, e⟩ q => by
    subst e
    exact .cons (as := []) (bs := []) (.int n t) (reads_ints q)
theorem reads_int_eq {h : Heap} {v : Value} {n m : Int} {as : List Addr} (r : Reads h v (.int n) as) (e : ∃ t, v = .int m t) : n = m := by
  obtain ⟨t, rfl⟩ := e
  cases r
  rfl
theorem int_at {ns : List Int} {us : List Value} {i : Nat} {v : Value} (r : Vals (ns.map V.int) us) (h : us[i]? = some v) : ∃ m t, v = .int m t := by
  obtain ⟨x, e, rv⟩ := valsAt r h
  rw [List.getElem?_map] at e
  obtain ⟨m, _, rfl⟩ := map_some e
  obtain ⟨t, e2⟩ := rv
  exact ⟨m, t, e2⟩
theorem call_maxS {k : Nat} (hc : X.calm = true) (hr : Room k X.A) : CallR X (.builtin "max") (rBest X.K max) := by
  intro pins s σ H vs us Q I r h
  obtain ⟨a, n, ns, rfl, hs, q⟩ := h
  obtain ⟨u, rfl, rfl⟩ := vals1 r
  have hh := I.ok.hd hc
  have hu := hr.un
  have hd : PyData.depthAll (.int n :: ns.map .int) = 0 := PySem.W.depth_ints (n :: ns)
  have fin : ∀ (its : List Value), Vals ((n :: ns).map V.int) its → ∀ (i : Nat) v h' tk bs, its.toArray[i]? = some v → Reads h' v (PySem.W.maxD (.int n) (ns.map .int)) bs → (∀ b o, s.heap.get? b = some o → h'.get? b = some o) → EP X pins σ Q v { s with heap := h', toks := tk } := fun its rv i v h' tk bs hv rd hk => by
    obtain ⟨m, t, rfl⟩ := int_at rv (by simpa using hv)
    rw [PySem.W.maxD_ints] at rd
    have e := reads_int_eq rd ⟨t, rfl⟩
    exact ⟨.int m, H, I.kept hk, ⟨t, rfl⟩, by rw [← e]; exact q⟩
  rcases hs with hs | hs
  · obtain ⟨its, rv, hl, _⟩ := I.list hs
    exact PySem.W.max_list_data (x := .int n) (xs := ns.map .int) hh hl.isList (reads_ints (ns := n :: ns) rv) (alike_all_ints (n :: ns)) (by rw [hd]; omega) (fin its rv)
  · obtain ⟨its, rv, p, _⟩ := I.tuple hs
    exact PySem.W.max_tuple_data (x := .int n) (xs := ns.map .int) hh (show s.heap.IsTuple a its.toArray from p) (reads_ints (ns := n :: ns) rv) (alike_all_ints (n :: ns)) (by rw [hd]; omega) (fin its rv)
theorem call_minS {k : Nat} (hc : X.calm = true) (hr : Room k X.A) : CallR X (.builtin "min") (rBest X.K min) := by
  intro pins s σ H vs us Q I r h
  obtain ⟨a, n, ns, rfl, hs, q⟩ := h
  obtain ⟨u, rfl, rfl⟩ := vals1 r
  have hh := I.ok.hd hc
  have hu := hr.un
  have hd : PyData.depthAll (.int n :: ns.map .int) = 0 := PySem.W.depth_ints (n :: ns)
  have fin : ∀ (its : List Value), Vals ((n :: ns).map V.int) its → ∀ (i : Nat) v h' tk bs, its.toArray[i]? = some v → Reads h' v (PySem.W.minD (.int n) (ns.map .int)) bs → (∀ b o, s.heap.get? b = some o → h'.get? b = some o) → EP X pins σ Q v { s with heap := h', toks := tk } := fun its rv i v h' tk bs hv rd hk => by
    obtain ⟨m, t, rfl⟩ := int_at rv (by simpa using hv)
    rw [PySem.W.minD_ints] at rd
    have e := reads_int_eq rd ⟨t, rfl⟩
    exact ⟨.int m, H, I.kept hk, ⟨t, rfl⟩, by rw [← e]; exact q⟩
  rcases hs with hs | hs
  · obtain ⟨its, rv, hl, _⟩ := I.list hs
    exact PySem.W.min_list_data (x := .int n) (xs := ns.map .int) hh hl.isList (reads_ints (ns := n :: ns) rv) (alike_all_ints (n :: ns)) (by rw [hd]; omega) (fin its rv)
  · obtain ⟨its, rv, p, _⟩ := I.tuple hs
    exact PySem.W.min_tuple_data (x := .int n) (xs := ns.map .int) hh (show s.heap.IsTuple a its.toArray from p) (reads_ints (ns := n :: ns) rv) (alike_all_ints (n :: ns)) (by rw [hd]; omega) (fin its rv)
def bestD (g : Int → Int → Int) : Ob := fun ds S => match one1 ds with
  | some d => match getSeq d S with
    | some xs => match asInts xs with
      | some (n :: ns) => .ok (.int (ns.foldl g n)) S
      | _ => .bad
    | none => .bad
  | none => .bad
theorem den_best {g : Int → Int → Int} (hK : B.G.K = X.K) : DenB B (rBest X.K g) (bestD g) := by
  intro σ θ S H ds vs Q R0 r f
  unfold bestD at f
  cases q : one1 ds with
  | none => rw [q] at f; exact f.elim
  | some d =>
    rw [q] at f
    have e := one1_ok q
    subst e
    obtain ⟨v, rfl, r1⟩ := rds1 r
    dsimp only at f
    cases q1 : getSeq d S with
    | none => rw [q1] at f; exact f.elim
    | some xs =>
      rw [q1] at f
      dsimp only at f
      obtain ⟨a, ws, rfl, k, rs⟩ := getSeq_ok R0 r1 q1
      cases q2 : asInts xs with
      | none => rw [q2] at f; exact f.elim
      | some ms =>
        cases ms with
        | nil => rw [q2] at f; exact f.elim
        | cons n ns =>
          rw [q2] at f
          rw [asInts_ok rs q2, hK] at k
          exact ⟨a, n, ns, rfl, k, Fin.ok f .refl R0 (.int _)⟩
end
end DM

namespace DM
open PySem PySem.Spec L2
open PyProof.Rows hiding St

theorem lexLt_asym : ∀ a b : List Int, HT.lexLt a b = true → HT.lexLt b a = false
  | [], [], h => by simp [HT.lexLt] at h
  | [], _ :: _, _ => rfl
  | _ :: _, [], h => by simp [HT.lexLt] at h
  | x :: xs, y :: ys, h => by
    by_cases e : x = y
    · subst e
      simp [HT.lexLt] at h ⊢
      exact lexLt_asym xs ys h
    · have e' : ¬ y = x := fun z => e z.symm
      simp [HT.lexLt, e] at h
      simp [HT.lexLt, e']
      omega
theorem lexLt_nt : ∀ a b c : List Int, HT.lexLt a c = true → HT.lexLt a b = true ∨ HT.lexLt b c = true
  | [], [], c, h => .inr h
  | [], _ :: _, _, _ => .inl rfl
  | _ :: _, _, [], h => by simp [HT.lexLt] at h
  | x :: xs, [], z :: zs, _ => .inr rfl
  | x :: xs, y :: ys, z :: zs, h => by
    simp only [HT.lexLt] at h ⊢
    by_cases e : x = z
    · subst e
      rw [if_pos rfl] at h
      by_cases e2 : x = y
      · subst e2
        rw [if_pos rfl, if_pos rfl]
        exact lexLt_nt xs ys zs h
      · have e3 : ¬ y = x := fun q => e2 q.symm
        rw [if_neg e2, if_neg e3, decide_eq_true_eq, decide_eq_true_eq]
        omega
    · rw [if_neg e, decide_eq_true_eq] at h
      by_cases e2 : x = y
      · subst e2
        rw [if_neg e]
        right
        exact decide_eq_true h
      · rw [if_neg e2, decide_eq_true_eq]
        by_cases e3 : y = z
        · subst e3
          left; exact h
        · rw [if_neg e3, decide_eq_true_eq]
          omega
theorem lexLt_anti : ∀ a b : List Int, HT.lexLt a b = false → HT.lexLt b a = false → a = b
  | [], [], _, _ => rfl
  | [], _ :: _, h, _ => by simp [HT.lexLt] at h
  | _ :: _, [], _, h => by simp [HT.lexLt] at h
  | x :: xs, y :: ys, h1, h2 => by
    by_cases e : x = y
    · subst e
      simp [HT.lexLt] at h1 h2
      rw [lexLt_anti xs ys h1 h2]
    · have e' : ¬ y = x := fun z => e z.symm
      simp [HT.lexLt, e] at h1
      simp [HT.lexLt, e'] at h2
      omega
def insL (x : List Int) : List (List Int) → List (List Int)
  | [] => [x]
  | y :: r => if HT.lexLt y x then y :: insL x r else x :: y :: r
def srtL : List (List Int) → List (List Int)
  | [] => []
  | x :: r => insL x (srtL r)
theorem insL_perm (x : List Int) : ∀ l, (insL x l).Perm (x :: l)
  | [] => .refl _
  | y :: r => by
    unfold insL
    split
    · exact ((insL_perm x r).cons y).trans (.swap x y r)
    · exact .refl _
theorem srtL_perm : ∀ l, (srtL l).Perm l
  | [] => .refl _
  | x :: r => (insL_perm x (srtL r)).trans ((srtL_perm r).cons x)
theorem insL_sorted (x : List Int) : ∀ {l : List (List Int)}, l.Pairwise (fun a b => (!HT.lexLt b a) = true) → (insL x l).Pairwise (fun a b => (!HT.lexLt b a) = true)
  | [], _ => by simp [insL]
  | y :: r, h => by
    unfold insL
    rw [List.pairwise_cons] at h
    split
    · rename_i hx
      rw [List.pairwise_cons]
      refine ⟨fun z hz => ?_, insL_sorted x h.2⟩
      rcases List.mem_cons.mp ((insL_perm x r).mem_iff.mp hz) with rfl | hz
      · rw [lexLt_asym _ _ hx]; rfl
      · exact h.1 z hz
    · rename_i hx
      have hx' : HT.lexLt y x = false := by simpa using hx
      rw [List.pairwise_cons]
      refine ⟨fun z hz => ?_, List.pairwise_cons.mpr h⟩
      rcases List.mem_cons.mp hz with rfl | hz
      · rw [hx']; rfl
      · have k := h.1 z hz
        rw [Bool.not_eq_true'] at k ⊢
        cases q : HT.lexLt z x with
        | false => rfl
        | true =>
          rcases lexLt_nt z y x q with w | w
          · rw [k] at w; cases w
          · rw [hx'] at w; cases w
theorem srtL_sorted : ∀ l, (srtL l).Pairwise (fun a b => (!HT.lexLt b a) = true)
  | [] => .nil
  | x :: r => insL_sorted x (srtL_sorted r)
theorem srtL_eq (l : List (List Int)) : (l.mergeSort fun a b => !HT.lexLt b a) = srtL l := by
  refine List.Perm.eq_of_pairwise (le := fun a b => (!HT.lexLt b a) = true) (fun a b _ _ h1 h2 => ?_) (List.pairwise_mergeSort (fun a b c h1 h2 => ?_) (fun a b => ?_) _) (srtL_sorted l) ((List.mergeSort_perm _ _).trans (srtL_perm l).symm)
  · rw [Bool.not_eq_true'] at h1 h2
    exact lexLt_anti a b h2 h1
  · rw [Bool.not_eq_true'] at h1 h2 ⊢
    cases q : HT.lexLt c a with
    | false => rfl
    | true =>
      rcases lexLt_nt c b a q with w | w
      · rw [h2] at w; cases w
      · rw [h1] at w; cases w
  · cases q : HT.lexLt b a with
    | false => rfl
    | true => rw [lexLt_asym _ _ q]; rfl
def tupI : D → Option (List Int)
  | .tup ds => match asInts ds with
    | some (n :: r) => some (n :: r)
    | _ => none
  | _ => none
def tupsI : List D → Option (List (List Int))
  | [] => some []
  | d :: ds => match tupI d, tupsI ds with
    | some l, some r => some (l :: r)
    | _, _ => none
def tIn (l : List Int) : D := .tup (l.map .int)
theorem asInts_eq : ∀ {ds : List D} {ns : List Int}, asInts ds = some ns → ds = ns.map .int
  | [], _, e => by cases e; rfl
  | .int i :: r, _, e => by
    obtain ⟨ms, e1, rfl⟩ := map_some e
    rw [asInts_eq e1]; rfl
theorem tupsI_ok : ∀ {ds : List D} {ls : List (List Int)}, tupsI ds = some ls → ds = ls.map tIn ∧ ∀ l ∈ ls, l ≠ []
  | [], _, e => by cases e; exact ⟨rfl, fun l hl => by simp at hl⟩
  | d :: ds, ls, e => by
    unfold tupsI at e
    cases q1 : tupI d with
    | none => rw [q1] at e; cases e
    | some l =>
      cases q2 : tupsI ds with
      | none => rw [q1, q2] at e; cases e
      | some r =>
        rw [q1, q2] at e
        cases e
        obtain ⟨h1, h2⟩ := tupsI_ok q2
        have hd : d = tIn l ∧ l ≠ [] := by
          unfold tupI at q1
          split at q1
          · rename_i xs
            split at q1
            · rename_i n r0 q3
              cases q1
              exact ⟨by rw [asInts_eq q3]; rfl, fun z => by cases z⟩
            · cases q1
          · cases q1
        refine ⟨by rw [hd.1, h1]; rfl, fun l' hl => ?_⟩
        rcases List.mem_cons.mp hl with rfl | hl
        · exact hd.2
        · exact h2 l' hl
theorem toPy_tups {S : Store} : ∀ ls : List (List Int), (ls.map tIn).mapM (toPy 20 S) = some (ls.map pyT)
  | [] => rfl
  | l :: r => by
    rw [List.map_cons, List.mapM_cons]
    have e : toPy 20 S (tIn l) = some (pyT l) := toPy_tup (m := 18) l
    rw [e, toPy_tups r]
    rfl
theorem srtD_tups (ls : List (List Int)) : srtD (ls.map tIn) (ls.map pyT) = (srtL ls).map tIn := by
  unfold srtD
  have e : (ls.map tIn).zip (ls.map pyT) = ls.map fun l => (tIn l, pyT l) := by rw [List.zip_map']
  rw [e]
  have z := List.map_mergeSort (r := fun a b => !HT.lexLt b a) (s := PySem.W.dataLe false (·.2)) (f := fun l : List Int => (tIn l, pyT l)) (l := ls) (fun a ha b hb => by
    show (!HT.lexLt b a) = !PySem.W.dataLt (pyT b) (pyT a)
    rw [dataLt_pyT])
  rw [← z, List.map_map, srtL_eq]
  rfl
theorem okK_tups (ls : List (List Int)) (h : ∀ l ∈ ls, l ≠ []) : okK (ls.map pyT) = true := by
  unfold okK
  rw [Bool.and_eq_true, Bool.and_eq_true]
  refine ⟨⟨?_, ?_⟩, ?_⟩
  · rw [List.all_eq_true]
    intro d hd
    rw [List.all_eq_true]
    intro e he
    obtain ⟨a, _, rfl⟩ := List.mem_map.mp hd
    obtain ⟨b, _, rfl⟩ := List.mem_map.mp he
    exact PySem.W.alike_ints _ _
  · rw [Bool.or_eq_true]
    left
    rw [List.all_eq_true]
    intro d hd
    obtain ⟨a, ha, rfl⟩ := List.mem_map.mp hd
    cases a with
    | nil => exact absurd rfl (h [] ha)
    | cons x r => rfl
  · rw [List.all_eq_true]
    intro d hd
    obtain ⟨a, _, rfl⟩ := List.mem_map.mp hd
    refine decide_eq_true ?_
    unfold pyT
    rw [PyData.depth, PySem.W.depth_ints]
    decide
section
variable {X : Cx} {B : Bv}
def sortTD : Ob := fun ds S => match one1 ds with
  | some d => match getL d S with
    | some (x :: xs) => match tupsI (x :: xs) with
      | some ls => .ok (.ref S.length) (S ++ [.lst ((srtL ls).map tIn)])
      | none => sortAllD ds S
    | _ => sortAllD ds S
  | none => .bad
theorem den_sortT {k : Nat} (hr : Room k X.A) (hK : B.G.K = X.K) : DenB B (rSortAll X) sortTD := by
  intro σ θ S H ds vs Q R0 r f
  refine den_sortAll hr hK σ θ S H ds vs Q R0 r ?_
  unfold sortTD at f
  cases q : one1 ds with
  | none => rw [q] at f; exact f.elim
  | some d =>
    rw [q] at f
    dsimp only at f
    cases q1 : getL d S with
    | none => rw [q1] at f; exact f
    | some xs =>
      cases xs with
      | nil => rw [q1] at f; exact f
      | cons x xs =>
        rw [q1] at f
        dsimp only at f
        cases q2 : tupsI (x :: xs) with
        | none => rw [q2] at f; exact f
        | some ls =>
          rw [q2] at f
          obtain ⟨h1, h2⟩ := tupsI_ok q2
          have e : sortAllD ds S = .ok (.ref S.length) (S ++ [.lst ((srtL ls).map tIn)]) := by
            have k0 : getK d S = none := by
              cases d with
              | ref n =>
                have q1' : (match S[n]? with | some (.lst ds) => some ds | _ => none) = some (x :: xs) := q1
                show (match S[n]? with | some (.dct kvs) => some kvs | _ => none) = none
                cases q3 : S[n]? with
                | none => rfl
                | some c =>
                  rw [q3] at q1'
                  cases c with
                  | lst _ => rfl
                  | dct _ => cases q1'
                  | rev _ _ => rfl
              | _ => rfl
            have k1 : asInts (x :: xs) = none := by
              have hx : ∃ l, x = tIn l := by
                cases ls with
                | nil => cases h1
                | cons l r => injection h1 with h1 _; exact ⟨l, h1⟩
              obtain ⟨l, rfl⟩ := hx
              rfl
            unfold sortAllD
            rw [q]
            dsimp only
            rw [k0]
            dsimp only
            rw [q1]
            dsimp only
            rw [k1]
            dsimp only
            rw [h1, toPy_tups]
            dsimp only
            rw [okK_tups ls h2, if_pos rfl, srtD_tups]
          rw [e]
          exact f
end
end DM

namespace DM
open PySem PySem.Spec L2
open PyProof.Rows hiding St

section
variable {X : Cx} {B : Bv} {pos : Pos}
def gtC : C2
  | .int i, .int j, _ => some (decide (j < i))
  | .tup xs, .tup ys, _ => match asInts xs, asInts ys with
    | some ns, some ms => some (HT.lexLt ms ns)
    | _, _ => none
  | _, _, _ => none
def rGtT (K : PySem.W.Frag) : R2 := fun x y H Q => ∃ ns ms : List Int, Dp K H x (pyT ns) ∧ Dp K H y (pyT ms) ∧ Q (.bl (HT.lexLt ms ns)) H
theorem depth_pyT (l : List Int) : (pyT l).depth ≤ 20 := by
  unfold pyT
  rw [PyData.depth, PySem.W.depth_ints]
  decide
theorem op_gtTup (hu : X.A.units + 65 < cLine) : OpR X (compareOp .Gt) (rGtT X.K) := by
  intro pins s σ H x y v u Q I rx ry h
  obtain ⟨ns, ms, d1, d2, q⟩ := h
  obtain ⟨as, k1⟩ := Dp.reads I _ x v d1 rx
  obtain ⟨bs, k2⟩ := Dp.reads I _ y u d2 ry
  have z := depth_pyT ns
  refine PySem.W.gt_data k1 k2 (PySem.W.alike_ints _ _) (fun z => by cases z) (by omega) ?_
  rw [dataLt_pyT]
  exact ⟨.bl _, H, I, rfl, q⟩
theorem opR_gt2 (hu : X.A.units + 65 < cLine) : OpR X (compareOp .Gt) (fun x y H Q => rI0 (fun i j => .bl (decide (j < i))) x y H Q ∨ rGtT X.K x y H Q) := op_gt.or (op_gtTup hu)
theorem dp_tupI {G : Gv} {F : Fr0} {θ : List Addr} {S : Store} {H : Hp} {xs : List D} {v : V} {ns : List Int} (R0 : Rel G F θ S H) (r : RD G θ H (.tup xs) v) (e : asInts xs = some ns) : Dp G.K H v (pyT ns) := by
  rw [asInts_eq e] at r
  exact toPy_dp R0 20 _ v _ r (toPy_tup (m := 18) ns)
theorem den_gt2 (hK : B.G.K = X.K) : DenC B (fun x y H Q => rI0 (fun i j => .bl (decide (j < i))) x y H Q ∨ rGtT X.K x y H Q) gtC := by
  intro θ S H d e x y b Q R0 r1 r2 h q
  unfold gtC at h
  split at h
  · cases r1; cases r2; cases h
    exact .inl ⟨_, _, rfl, rfl, q⟩
  · rename_i xs ys
    cases q1 : asInts xs with
    | none => rw [q1] at h; cases h
    | some ns =>
      cases q2 : asInts ys with
      | none => rw [q1, q2] at h; cases h
      | some ms =>
        rw [q1, q2] at h
        cases h
        exact .inr ⟨ns, ms, hK ▸ dp_tupI R0 r1 q1, hK ▸ dp_tupI R0 r2 q2, q⟩
  · cases h

def repS (s : Str) (k : Int) : Str := if k < 1 then Str.empty else if (k == 1 || s.length == 0) = true then s else ⟨(List.replicate k.toNat s.cps).foldl (· ++ ·) #[]⟩
def rMulS : R2 := fun x y H Q => ∃ (s : Str) (k : Int), x = .str s ∧ y = .int k ∧ -1000 ≤ k ∧ k ≤ 1000 ∧ s.length ≤ 1000 ∧ (repS s k).length ≤ sizeLine ∧ Q (.str (repS s k)) H
theorem op_mulS : OpR X (binaryOp .Mult) rMulS := by
  intro pins s σ H x y v u Q I rx ry h
  obtain ⟨z, k, rfl, rfl, k0, k1, z1, zl, q⟩ := h
  obtain ⟨t, rfl⟩ := rx
  obtain ⟨t2, rfl⟩ := ry
  refine PySem.P.mul_str (by rw [Bool.or_eq_false_iff]; exact ⟨decide_eq_false (by omega), decide_eq_false (by omega)⟩) (fun h1 _ h3 => ?_) (fun h1 _ => ?_) ?_
  · have hk : 0 < k := by omega
    have : (1000 : Int) ≤ (2 ^ 63 - 1) / k := by
      rw [Int.le_ediv_iff_mul_le hk]
      omega
    have : (z.length : Int) ≤ 1000 := by omega
    omega
  · have h2 : k.toNat ≤ 1000 := by omega
    have h3 : z.length * k.toNat ≤ 1000 * 1000 := Nat.mul_le_mul z1 h2
    generalize z.length * k.toNat = m at h3
    have z2 := sizeLine_eq
    show decide (m > sizeLine) = false
    rw [decide_eq_false_iff_not]
    omega
  · unfold repS at q zl
    split
    · rename_i h1
      rw [if_pos h1] at q zl
      exact ⟨zl, .str _, H, I.tok _, ⟨_, rfl⟩, q⟩
    · rename_i h1
      rw [if_neg h1] at q zl
      split
      · rename_i h2
        rw [if_pos h2] at q
        exact ⟨.str _, H, I, ⟨_, rfl⟩, q⟩
      · rename_i h2
        rw [if_neg h2] at q zl
        exact ⟨zl, .str _, H, I.tok _, ⟨_, rfl⟩, q⟩
def mulS : O2 := fun d e S => match d, e with
  | .str s, .int k => if (decide (-1000 ≤ k) && decide (k ≤ 1000) && decide (s.length ≤ 1000) && decide ((repS s k).length ≤ sizeLine)) = true then .ok (.str (repS s k)) S else .bad
  | _, _ => .bad
theorem den_mulS : Den2 B rMulS mulS := by
  intro σ θ S H d e x y Q R0 r1 r2 f
  unfold mulS at f
  split at f
  · obtain ⟨c, f2⟩ := Fin.ite f
    simp only [Bool.and_eq_true, decide_eq_true_eq] at c
    cases r1; cases r2
    exact ⟨_, _, rfl, rfl, c.1.1.1, c.1.1.2, c.1.2, c.2, f2.ok .refl R0 (.str _)⟩
  · exact f.elim
theorem de_mulS {a b : Expr} {ma mb : M D} (ha : PE X a (rdE B ma)) (hb : PE X b (rdE B mb)) : PE X (.BinOp a .Mult b pos) (rdE B (mBin mulS ma mb)) := de_bin op_mulS den_mulS ha hb

def kdC (T : List (Str × Int)) (d : D) (S : Store) : R D := match d with
  | .str x => match T.lookup x with
    | some i => .ok (.int i) S
    | none => .bad
  | _ => .bad
def mKd (T : List (Str × Int)) (b : M D) : M D := fun ρ S => (b ρ S).bind (kdC T)
theorem de_kd {x : Str} {p : Pos} {b : Expr} {mb : M D} {d : Addr} {T : List (Str × Int)} (hg : Gl X x) (hm : X.mg x = some (.ref d)) (hT : ∀ z i, T.lookup z = some i → KDct X.K X.w d z (.int i)) (hb : PE X b (rdE B mb)) (hp : PlainIx b) (hd : (x == ("__debug__" : Str)) = false := by decide) :
    PE X (.Subscript (.Name x p) b pos) (rdE B (mKd T mb)) :=
  PE.imp (pe_ix ix_kdict (pe_glob (v := .ref d) hg hm rfl hd) hb hp) fun σ H Q ⟨ρ, S, θ, R0, rs, f⟩ => ⟨ρ, S, θ, R0, rs, Fin.bind f fun y S1 θ1 H1 v _ e1 R1 r1 f1 => by
    cases y with
    | str z =>
      replace f1 : Fin B (RD B.G) σ θ1 H1 (match T.lookup z with | some i => .ok (.int i) S1 | none => .bad) Q := f1
      cases q : T.lookup z with
      | none => rw [q] at f1; exact f1.elim
      | some i =>
        rw [q] at f1
        cases r1
        exact ⟨d, z, .int i, rfl, rfl, hT z i q, f1.ok .refl R1 (.int _)⟩
    | _ => exact f1.elim⟩

def ixOfP (p : PyData) : List PyData → Nat → Option Nat
  | [], _ => none
  | q :: r, n => if PyData.eqv q p then some n else ixOfP p r (n + 1)
theorem ixOfP_ok {p : PyData} : ∀ {qs : List PyData} {n j : Nat}, ixOfP p qs n = some j → n ≤ j ∧ (∃ z, qs[j - n]? = some z ∧ PyData.eqv z p = true) ∧ ∀ (m : Nat) z, m < j - n → qs[m]? = some z → PyData.eqv z p = false
  | [], _, _, e => by cases e
  | q :: r, n, j, e => by
    unfold ixOfP at e
    by_cases h : PyData.eqv q p = true
    · rw [if_pos h] at e
      cases e
      exact ⟨Nat.le_refl _, ⟨q, by simp, h⟩, fun m z hm => by omega⟩
    · rw [if_neg h] at e
      obtain ⟨h1, ⟨z, h2, h3⟩, h4⟩ := ixOfP_ok e
      have e1 : j - n = (j - (n + 1)) + 1 := by omega
      refine ⟨by omega, ⟨z, by rw [e1]; simpa using h2, h3⟩, fun m z' hm hz => ?_⟩
      cases m with
      | zero =>
        have : q = z' := by simpa using hz
        subst this
        simpa using h
      | succ m => exact h4 m z' (by omega) (by simpa using hz)
def indexD : Om := fun d ds S => match one1 ds, toPy 20 S d with
  | some e, some (.list qs) => match toPy 20 S e with
    | some p => if (SeqAt.shaped p && SeqAt.shaped (.list qs)) = true then (match ixOfP p qs 0 with
      | some j => .ok (.int (j : Nat)) S
      | none => .bad) else .bad
    | none => .bad
  | _, _ => .bad
theorem dp_list_ref {K : PySem.W.Frag} {H : Hp} {x : V} {qs : List PyData} (h : Dp K H x (.list qs)) : ∃ a, x = .ref a := by
  cases h with
  | lst h1 h2 => exact ⟨_, rfl⟩
theorem den_index (hK : B.G.K = X.K) : DenM B (rIndexD X.K) indexD := by
  intro σ θ S H d x ds vs Q R0 r1 r2 f
  unfold indexD at f
  split at f
  · rename_i e qs q1 q2
    have ee := one1_ok q1
    subst ee
    obtain ⟨w, rfl, r3⟩ := rds1 r2
    cases q3 : toPy 20 S e with
    | none => rw [q3] at f; exact f.elim
    | some p =>
      rw [q3] at f
      dsimp only at f
      obtain ⟨c, f2⟩ := Fin.ite (c := (SeqAt.shaped p && SeqAt.shaped (.list qs)) = true) f
      rw [Bool.and_eq_true] at c
      cases q4 : ixOfP p qs 0 with
      | none => rw [q4] at f2; exact f2.elim
      | some j =>
        rw [q4] at f2
        obtain ⟨_, ⟨z, h2, h3⟩, h4⟩ := ixOfP_ok q4
        have k1 : Dp X.K H x (.list qs) := hK ▸ toPy_dp R0 20 d x _ r1 q2
        have k2 : Dp X.K H w p := hK ▸ toPy_dp R0 20 e w _ r3 q3
        obtain ⟨a, rfl⟩ := dp_list_ref k1
        exact ⟨a, w, p, qs, j, z, rfl, rfl, k1, k2, c.2, c.1, by simpa using h2, h3, fun m z' hm hz => h4 m z' (by simpa using hm) hz, f2.ok .refl R0 (.int _)⟩
  · exact f.elim
def rCount (X : Cx) : V → List V → Hp → VK → Prop := fun x xs H Q => ∃ (a : Addr) (y : V) (d : PyData) (ds : List PyData), x = .ref a ∧ xs = [y] ∧ Dp X.K H (.ref a) (.tuple ds) ∧ Dp X.K H y d ∧ PyData.plainAll ds = true ∧ d.plain = true ∧ d.depth ≤ 20 ∧ Q (.int ((ds.countP fun z => PyData.eqv z d : Nat) : Int)) H
theorem mt_count (hu : X.A.units + 65 < cLine) : MtR X "tuple.count" (rCount X) := by
  intro pins s σ H x xs v us Q I rx rs h
  obtain ⟨a, y, d, ds, rfl, rfl, k1, k2, p1, p2, dp, q⟩ := h
  cases rx
  obtain ⟨u, rfl, ru⟩ := vals1 rs
  obtain ⟨bs, rd⟩ := Dp.reads I d y u k2 ru
  cases k1 with
  | tup ht hd =>
    obtain ⟨its, rv, pt, _⟩ := I.tuple ht
    obtain ⟨as, ra⟩ := Dp.readsAll I ds _ its hd rv
    exact PySem.SeqAt.count_tuple_data (show s.heap.IsTuple a its.toArray from pt) (show ReadsAll s.heap its.toArray.toList ds as from ra) rd p1 p2 (by omega) ⟨.int _, H, I.tok _, ⟨_, rfl⟩, q⟩
def countD : Om := fun d ds S => match one1 ds, toPy 20 S d with
  | some e, some (.tuple qs) => match toPy 20 S e with
    | some p => if (PyData.plainAll qs && p.plain && decide (p.depth ≤ 20)) = true then .ok (.int ((qs.countP fun z => PyData.eqv z p : Nat) : Int)) S else .bad
    | none => .bad
  | _, _ => .bad
theorem dp_tup_ref {K : PySem.W.Frag} {H : Hp} {x : V} {qs : List PyData} (h : Dp K H x (.tuple qs)) : ∃ a, x = .ref a := by
  cases h with
  | tup h1 h2 => exact ⟨_, rfl⟩
theorem den_count (hK : B.G.K = X.K) : DenM B (rCount X) countD := by
  intro σ θ S H d x ds vs Q R0 r1 r2 f
  unfold countD at f
  split at f
  · rename_i e qs q1 q2
    have ee := one1_ok q1
    subst ee
    obtain ⟨w, rfl, r3⟩ := rds1 r2
    cases q3 : toPy 20 S e with
    | none => rw [q3] at f; exact f.elim
    | some p =>
      rw [q3] at f
      dsimp only at f
      obtain ⟨c, f2⟩ := Fin.ite (c := (PyData.plainAll qs && p.plain && decide (p.depth ≤ 20)) = true) f
      rw [Bool.and_eq_true, Bool.and_eq_true, decide_eq_true_eq] at c
      have k1 : Dp X.K H x (.tuple qs) := hK ▸ toPy_dp R0 20 d x _ r1 q2
      have k2 : Dp X.K H w p := hK ▸ toPy_dp R0 20 e w _ r3 q3
      obtain ⟨a, rfl⟩ := dp_tup_ref k1
      exact ⟨a, w, p, qs, rfl, rfl, k1, k2, c.1.1, c.1.2, c.2, f2.ok .refl R0 (.int _)⟩
  · exact f.elim

def revD (d : D) (S : Store) : R D := match getL d S with
  | some ds => .ok (.ref S.length) (S ++ [.lst ds.reverse])
  | none => .bad
def mRev (a : M D) : M D := fun ρ S => (a ρ S).bind revD
theorem de_rev {e : Expr} {a : M D} {k : Nat} {p1 p2 p3 : Pos} (hK : B.G.K = X.K) (ha : PE X e (rdE B a)) : PE X (.Subscript e (.Slice none none (some (.UnaryOp .USub (.Constant (.int 1) k p1) p2)) p3) pos) (rdE B (mRev a)) :=
  PE.imp (pe_revL ha) fun σ H Q ⟨ρ, S, θ, R0, rs, f⟩ => ⟨ρ, S, θ, R0, rs, Fin.bind f fun x S1 θ1 H1 v _ e1 R1 r1 f1 => by
    unfold revD at f1
    cases q : getL x S1 with
    | none => rw [q] at f1; exact f1.elim
    | some ds =>
      rw [q] at f1
      obtain ⟨b, xs, rfl, k1, k2⟩ := getL_ok R1 r1 q
      exact ⟨b, xs, rfl, hK ▸ k1, fun p hp => Fin.ok f1 (ext_cell hp) (R1.alloc hp k2.reverse) (RD.new R1)⟩⟩
end
end DM

namespace DM
open PySem PySem.Spec L2
open PyProof.Rows hiding St

/-- the signs of two texts, in new pairs -/
def ItzS (z1 z2 : Str) : It :=
  ⟨fun i _ => i < z1.cps.size ∧ i < z2.cps.size,
    fun i H v H' => ∃ T c1 c2, v = .ref T ∧ H T = none ∧ H' = upd H T (.tup [.str ⟨#[c1]⟩, .str ⟨#[c2]⟩]) ∧ z1.cps[i]? = some c1 ∧ z2.cps[i]? = some c2,
    fun i _ => i ≤ z1.cps.size ∧ i ≤ z2.cps.size ∧ (i = z1.cps.size ∨ i = z2.cps.size)⟩
theorem turn_zipS {P : Program} {w : World} {K : PySem.W.Frag} {elts : List Expr} {kk : Nat} {tpos : Pos} {y1 y2 : Str} {t1 t2 : Tok} {z TI TO i1 i2 : Addr} (D : ZipSep2 z TI TO i1 i2 [i1] [i2]) :
    Turn P w K (.Tuple elts kk tpos) (ItzS y1 y2) [i2, i1, TO, TI, z] z (fun i h => h.IsStrIter i1 (strIterType y1) y1 t1 i ∧ h.IsStrIter i2 (strIterType y2) y2 t2 i ∧ IsZip h z TI TO .none ∧ IsTupOf2 h TI (.ref i1) (.ref i2) ∧ ∃ a1 a2, IsTupOf2 h TO a1 a2) where
  mem := by simp
  obj := fun i h st c hc => by
    obtain ⟨⟨o1, e1, _, d1⟩, ⟨o2, e2, _, d2⟩, qz, qI, ⟨a1, a2, qO⟩⟩ := st
    simp only [List.mem_cons, List.not_mem_nil, or_false] at hc
    rcases hc with rfl | rfl | rfl | rfl | rfl
    · exact ⟨o2, e2, fun v k => by rw [d2] at k; cases k⟩
    · exact ⟨o1, e1, fun v k => by rw [d1] at k; cases k⟩
    · exact ⟨_, qO, fun v k => nomatch k⟩
    · exact ⟨_, qI, fun v k => nomatch k⟩
    · exact ⟨_, qz, fun v k => nomatch k⟩
  keep := fun i h h' st k => by
    obtain ⟨⟨o1, e1, b1, d1⟩, ⟨o2, e2, b2, d2⟩, qz, qI, ⟨a1, a2, qO⟩⟩ := st
    exact ⟨⟨o1, k i1 (by simp) _ e1, b1, d1⟩, ⟨o2, k i2 (by simp) _ e2, b2, d2⟩, k z (by simp) _ qz, k TI (by simp) _ qI, ⟨a1, a2, k TO (by simp) _ qO⟩⟩
  item := by
    intro X hP hw hK hc i pins s σ H E I hf st hg
    subst hP hw hK
    obtain ⟨n1, n2, qz, qI, ⟨a1, a2, qO⟩⟩ := st
    have hh : X.A.in1.handled = none := I.ok.hd hc
    refine wpAny_pyNext_zipD2_item D (Draws.text hh i1 y1 t1) (Draws.text hh i2 y2 t2) qz qI qO n1 n2 hg.1 hg.2 fun u1 u2 h' tk g1 g2 qz' qO' n1' n2' qT qs qk => ?_
    obtain ⟨c1, tk1, hc1, rfl⟩ := g1
    obtain ⟨c2, tk2, hc2, rfl⟩ := g2
    refine ⟨_, rfl, wpAny_letOwnedTupleGo_zip (s := { s with heap := h', toks := tk }) qz' fun h2 qz2 sb => ?_⟩
    have zlt : z < s.heap.objs.size := Heap.lt_size qz
    have qT2 : h2.get? s.heap.objs.size = some { cls := .type "tuple", data := .seq #[.str ⟨#[c1]⟩ tk1, .str ⟨#[c2]⟩ tk2] } := (sb.2 _ (Nat.ne_of_gt zlt)).trans qT
    have ok2 : ObjOk X.prog X.w (upd H s.heap.objs.size (.tup [.str ⟨#[c1]⟩, .str ⟨#[c2]⟩])) h2 s.heap.objs.size (.tup [.str ⟨#[c1]⟩, .str ⟨#[c2]⟩]) :=
      ⟨by show 2 ≤ sizeLine; decide, [.str ⟨#[c1]⟩ tk1, .str ⟨#[c2]⟩ tk2], .cons ⟨_, rfl⟩ (.cons ⟨_, rfl⟩ .nil), ⟨_, qT2, rfl, _, rfl⟩⟩
    have I2 : Inv X pins σ (upd H s.heap.objs.size (.tup [.str ⟨#[c1]⟩, .str ⟨#[c2]⟩])) { s with heap := h2, toks := tk } :=
      I.turnedNew (t' := tk) (ch := [i2, i1, TO, TI, z]) (fun c o hb e => (sb.2 c fun m => hb (by simp [m])).trans (qk c o (fun m => hb (by simp [m])) (fun m => hb (by simp [m])) (fun m => hb (by simp [m])) (fun m => hb (by simp [m])) e)) hf (Nat.le_refl _) ok2
    obtain ⟨o1, e1, _⟩ := id n1
    obtain ⟨o2, e2, _⟩ := id n2
    have lts : ∀ c ∈ [i2, i1, TO, TI, z], c < s.heap.objs.size := fun c hm => by
      simp only [List.mem_cons, List.not_mem_nil, or_false] at hm
      rcases hm with rfl | rfl | rfl | rfl | rfl
      · exact Heap.lt_size e2
      · exact Heap.lt_size e1
      · exact Heap.lt_size qO
      · exact Heap.lt_size qI
      · exact zlt
    refine ⟨.ref s.heap.objs.size, _, I2, rfl, ⟨_, c1, c2, rfl, I.hok.fresh (Nat.le_refl _), rfl, hc1, hc2⟩, ⟨?_, ?_, qz2, ?_, ⟨.str ⟨#[c1]⟩ tk1, .str ⟨#[c2]⟩ tk2, ?_⟩⟩, fun c hm => ?_⟩
    · obtain ⟨o, e, r⟩ := n1'
      exact ⟨o, (sb.2 _ (Ne.symm D.zi1)).trans e, r⟩
    · obtain ⟨o, e, r⟩ := n2'
      exact ⟨o, (sb.2 _ (Ne.symm D.zi2)).trans e, r⟩
    · exact (sb.2 _ D.TIz).trans (qk _ _ D.TIz D.TITO D.TIi1 D.TIi2 qI)
    · exact (sb.2 _ D.TOz).trans qO'
    · rw [upd_ne (Nat.ne_of_lt (lts c hm))]
      exact (hf c hm).1
  done := by
    intro X hP hw hK hc i pins s σ H E I hf st hg
    subst hP hw hK
    obtain ⟨n1, n2, qz, qI, ⟨a1, a2, qO⟩⟩ := st
    have hh : X.A.in1.handled = none := I.ok.hd hc
    exact wpAny_pyNext_zipD2_end D (Draws.text hh i1 y1 t1) (Draws.text hh i2 y2 t2) qz qI qO n1 n2 hg.1 hg.2.1 hg.2.2 fun h' tk qk =>
      ⟨rfl, I.turnedL (t' := tk) (ch := [i2, i1, TO, TI, z]) (fun c o hb e => qk c o (fun m => hb (by simp [m])) (fun m => hb (by simp [m])) (fun m => hb (by simp [m])) (fun m => hb (by simp [m])) e) hf⟩
  self := fun A i s Q E st h => wpAny_pyIter_zip st.2.2.1 h
def iZipS (ta : TA) : TI := fun σ H R => ta σ H fun vs H1 => ∃ x y, vs = [.str x, .str y] ∧ R (ItzS x y) H1
theorem pi_zipS {X : Cx} {e e2 : Expr} {ta : TA} {p pos tpos : Pos} {elts : List Expr} {kk : Nat} (hg : Gl X "zip") (hm : X.mg "zip" = none) (ha : PA X [e, e2] ta)
    (he : starEach [e, e2] X.env = (false, eval e X.env) :: starEach [e2] X.env := by rfl) (hn : (backTo pos (starEach [e2] X.env)).any (·.1) = false := by rfl) :
    PI X (.Tuple elts kk tpos) (.Call (.Name "zip" p) [e, e2] [] pos) (iZipS ta) := by
  refine ⟨fun pins s σ H R I h => Call_ (ld_blt I hg hm PyProof.Rows.boot_zip (PyProof.Rows.callWith_type1 (thn (ha.run pos pins s σ H _ I h) fun us s1 ⟨vs, H1, I1, r1, x, y, ex, q1⟩ => ?_) he hn))⟩
  subst ex
  obtain ⟨u1, u2, rfl, ⟨t1, rfl⟩, ⟨t2, rfl⟩⟩ : ∃ u1 u2, us = [u1, u2] ∧ RelV (.str x) u1 ∧ RelV (.str y) u2 := by
    cases r1 with
    | cons a b =>
      cases b with
      | cons c d => cases d; exact ⟨_, _, rfl, a, c⟩
  refine zip_begins2 (begins_text x t1) (begins_text y t2) trivial trivial fun h' qz qI qO e1 e2 qs qk => wpAny_pyIter_zip qz ?_
  have I2 : Inv X pins σ H1 { s1 with heap := h' } := I1.kept (t' := s1.toks) qk
  have lts : ∀ c ∈ [s1.heap.objs.size + 1, s1.heap.objs.size, s1.heap.objs.size + 3, s1.heap.objs.size + 2, s1.heap.objs.size + 4], FpOk X pins H1 c := fun c hm => by
    have hle : s1.heap.objs.size ≤ c := by
      simp only [List.mem_cons, List.not_mem_nil, or_false] at hm
      rcases hm with rfl | rfl | rfl | rfl | rfl <;> omega
    exact I1.fpOk hle (I1.hok.fresh hle)
  exact ⟨s1.heap.objs.size + 4, _, _, _, H1, rfl, I2, turn_zipS (zip_sep2 (fp1 := []) (fp2 := []) (by simp) (by simp)), ⟨⟨_, e1, rfl, rfl⟩, ⟨_, e2, rfl, rfl⟩, qz, qI, ⟨_, _, qO⟩⟩, lts, q1⟩

section
variable {X : Cx} {B : Bv} {pos : Pos}
def nxZipS (x y : Str) : Nx := fun i _ => match x.cps[i]?, y.cps[i]? with
  | some a, some b => some (some (.pr [.str ⟨#[a]⟩, .str ⟨#[b]⟩]))
  | _, _ => if i ≤ x.cps.size ∧ i ≤ y.cps.size then some none else none
theorem ri_zipS {θ : List Addr} {H : Hp} {x y : Str} : RI B θ H (nxZipS x y) (ItzS x y) := by
  intro i θ' S' H' e R0
  unfold nxZipS
  cases q1 : x.cps[i]? with
  | some a =>
    have l1 := (Array.getElem?_eq_some_iff.mp q1).1
    cases q2 : y.cps[i]? with
    | some b =>
      have l2 := (Array.getElem?_eq_some_iff.mp q2).1
      refine ⟨(fun z => by cases z), fun d z => ?_⟩
      cases z
      refine ⟨⟨l1, l2⟩, fun v H'' hy => ?_⟩
      obtain ⟨T, c1, c2, rfl, hT, rfl, k1, k2⟩ := hy
      rw [q1] at k1
      rw [q2] at k2
      cases k1
      cases k2
      have ex : Ext θ' H' θ' (upd H' T (.tup [.str ⟨#[a]⟩, .str ⟨#[b]⟩])) := .of_keep (keep_new hT)
      exact ⟨ex, R0.laid hT, .pr (.inl (.inl upd_same)) (.cons (.str _) (.cons (.str _) .nil))⟩
    | none =>
      have l2 := Array.getElem?_eq_none_iff.mp q2
      dsimp only
      split
      · rename_i hc
        exact ⟨fun _ => ⟨hc.1, hc.2, .inr (by omega)⟩, fun d z => by cases z⟩
      · exact ⟨(fun z => by cases z), fun d z => by cases z⟩
  | none =>
    have l1 := Array.getElem?_eq_none_iff.mp q1
    dsimp only
    split
    · rename_i hc
      exact ⟨fun _ => ⟨hc.1, hc.2, .inl (by omega)⟩, fun d z => by cases z⟩
    · exact ⟨(fun z => by cases z), fun d z => by cases z⟩
def nxZipL (d e : D) : Nx := fun i S => match getL d S, getL e S with
  | some xs, some ys => some (match xs[i]?, ys[i]? with
    | some x, some y => some (.pr [x, y])
    | _, _ => none)
  | _, _ => none
theorem ri_zipL {θ : List Addr} {H : Hp} {d1 d2 : D} {a b : Addr} (hK : B.G.K = X.K) (r1 : RD B.G θ H d1 (.ref a)) (r2 : RD B.G θ H d2 (.ref b)) : RI B θ H (nxZipL d1 d2) (Itz X.K a b) := by
  intro i θ' S' H' e R0
  unfold nxZipL
  cases q1 : getL d1 S' with
  | none => exact ⟨(fun z => by cases z), fun d z => by cases z⟩
  | some xs =>
    cases q2 : getL d2 S' with
    | none => exact ⟨(fun z => by cases z), fun d z => by cases z⟩
    | some ys =>
      obtain ⟨us, h1, h2⟩ := getL_ref R0 (r1.ext e) q1
      obtain ⟨ws, h3, h4⟩ := getL_ref R0 (r2.ext e) q2
      rw [hK] at h1 h3
      dsimp only
      have l1 := h2.length
      have l2 := h4.length
      cases k1 : xs[i]? with
      | none => exact ⟨fun _ => ⟨us, ws, h1, h3, .inl (by rw [← l1]; exact List.getElem?_eq_none_iff.mp k1)⟩, fun d z => by cases z⟩
      | some x =>
        cases k2 : ys[i]? with
        | none => exact ⟨fun _ => ⟨us, ws, h1, h3, .inr (by rw [← l2]; exact List.getElem?_eq_none_iff.mp k2)⟩, fun d z => by cases z⟩
        | some y =>
          refine ⟨(fun z => by cases z), fun d z => ?_⟩
          cases z
          obtain ⟨u, hu, ru⟩ := h2.get k1
          obtain ⟨v, hv, rv⟩ := h4.get k2
          refine ⟨⟨us, ws, u, v, h1, h3, hu, hv⟩, fun v' H'' hy => ?_⟩
          obtain ⟨T, u', w', rfl, hT, rfl, m1, m2⟩ := hy
          have f1 := m1 us h1
          have f2 := m2 ws h3
          rw [hu] at f1
          rw [hv] at f2
          cases f1
          cases f2
          have ex : Ext θ' H' θ' (upd H' T (.tup [u, v])) := .of_keep (keep_new hT)
          exact ⟨ex, R0.laid hT, .pr (.inl (.inl upd_same)) (.cons (ru.ext ex) (.cons (rv.ext ex) .nil))⟩
/-- zip of two tuples, two lists, two texts -/
def isTx : D → Option Str
  | .str x => some x
  | _ => none
def zipAD (ds : List D) (S : Store) : R Nx := match ds with
  | [d, e] => match isTx d, isTx e with
    | some x, some y => .ok (nxZipS x y) S
    | _, _ => match tupOf d, tupOf e with
      | some xs, some ys => .ok (nxZip xs ys) S
      | _, _ => match getL d S, getL e S with
        | some _, some _ => .ok (nxZipL d e) S
        | _, _ => .bad
  | _ => .bad
def mZipA (a : M (List D)) : M Nx := fun ρ S => (a ρ S).bind zipAD
theorem isTx_ok {d : D} {x : Str} (h : isTx d = some x) : d = .str x := by
  cases d with
  | str y => cases h; rfl
  | _ => cases h
def txts (ds : List D) : Bool := match ds with
  | [d, e] => (isTx d).isSome && (isTx e).isSome
  | _ => false
theorem di_zipA {e e2 : Expr} {elts : List Expr} {kk : Nat} {tpos : Pos} {ma : M (List D)} {p : Pos} (hK : B.G.K = X.K) (hg : Gl X "zip") (hm : X.mg "zip" = none) (ha : PA X [e, e2] (rdA B ma)) (hs : starEach [e, e2] X.env = (false, eval e X.env) :: starEach [e2] X.env := by rfl)
    (hpl : (backTo pos (starEach [e2] X.env)).any (·.1) = false := by rfl) : PI X (.Tuple elts kk tpos) (.Call (.Name "zip" p) [e, e2] [] pos) (rdI B (mZipA ma)) :=
  PI.imp (PI.or (pi_zipS hg hm ha hs hpl) (RZ.pi_zipA hg hm ha hs hpl)) fun σ H R ⟨ρ, S, θ, R0, rs, f⟩ => by
    have key : (txts (match ma ρ S with | .ok ds _ => ds | _ => []) = true) ∨ (txts (match ma ρ S with | .ok ds _ => ds | _ => []) = false) := by
      cases txts (match ma ρ S with | .ok ds _ => ds | _ => []) with
      | true => exact .inl rfl
      | false => exact .inr rfl
    rcases key with key | key
    · refine .inl ⟨ρ, S, θ, R0, rs, Fin.bind f fun ds S1 θ1 H1 vs q e1 R1 r1 f1 => ?_⟩
      rw [q] at key
      dsimp only at key
      unfold txts at key
      split at key
      · rename_i d d2
        rw [Bool.and_eq_true] at key
        obtain ⟨x, hx⟩ := Option.isSome_iff_exists.mp key.1
        obtain ⟨y, hy⟩ := Option.isSome_iff_exists.mp key.2
        have ex := isTx_ok hx
        have ey := isTx_ok hy
        subst ex ey
        obtain ⟨v, w, rfl, k1, k2⟩ := rds2 r1
        cases k1; cases k2
        exact ⟨x, y, rfl, Fin.ok f1 .refl R1 ri_zipS⟩
      · cases key
    · refine .inr ⟨ρ, S, θ, R0, rs, Fin.bind f fun ds S1 θ1 H1 vs q e1 R1 r1 f1 => ?_⟩
      rw [q] at key
      dsimp only at key
      unfold zipAD at f1
      split at f1
      · rename_i d d2
        have nt : Fin B (RI B) σ θ1 H1 (match tupOf d, tupOf d2 with
          | some xs, some ys => .ok (nxZip xs ys) S1
          | _, _ => match getL d S1, getL d2 S1 with
            | some _, some _ => .ok (nxZipL d d2) S1
            | _, _ => .bad) R := by
          unfold txts at key
          dsimp only at key
          cases h1 : isTx d with
          | none => rw [h1] at f1; exact f1
          | some x =>
            cases h2 : isTx d2 with
            | none => rw [h1, h2] at f1; exact f1
            | some y => rw [h1, h2] at key; cases key
        obtain ⟨v, w, rfl, k1, k2⟩ := rds2 r1
        have lists : Fin B (RI B) σ θ1 H1 (match getL d S1, getL d2 S1 with
            | some _, some _ => .ok (nxZipL d d2) S1
            | _, _ => .bad) R → ∃ a b us ws, [v, w] = [V.ref a, V.ref b] ∧ ((SqL X.K H1 a us ∧ SqL X.K H1 b ws ∧ R (Itz X.K a b) H1) ∨ (SqT X.K H1 a us ∧ SqT X.K H1 b ws ∧ R (RZ.ItzT X.K a b) H1)) := fun g => by
          cases q1 : getL d S1 with
          | none => rw [q1] at g; exact g.elim
          | some xs =>
            cases q2 : getL d2 S1 with
            | none => rw [q1, q2] at g; exact g.elim
            | some ys =>
              rw [q1, q2] at g
              obtain ⟨a, us, rfl, h1, h2⟩ := getL_ok R1 k1 q1
              obtain ⟨b, ws, rfl, h3, h4⟩ := getL_ok R1 k2 q2
              exact ⟨a, b, us, ws, rfl, .inl ⟨hK ▸ h1, hK ▸ h3, Fin.ok g .refl R1 (ri_zipL hK k1 k2)⟩⟩
        cases q1 : tupOf d with
        | none => rw [q1] at nt; exact lists nt
        | some xs =>
          cases q2 : tupOf d2 with
          | none => rw [q1, q2] at nt; exact lists nt
          | some ys =>
            rw [q1, q2] at nt
            obtain ⟨a, us, rfl, h1, h2⟩ := tupOf_ok k1 q1
            obtain ⟨b, ws, rfl, h3, h4⟩ := tupOf_ok k2 q2
            exact ⟨a, b, us, ws, rfl, .inr ⟨hK ▸ h1, hK ▸ h3, Fin.ok nt .refl R1 (ri_zip hK k1 q1 k2 q2)⟩⟩
      · exact f1.elim

def lcIn (nx : Nx) (g : TM) (t : M Bool) (e : M D) (ρ : Env) (n : Nat) : Nat → Nat → Store → (Store → R D) → R D
  | 0, _, _, _ => .bad
  | m + 1, j, S, k => match nx j S with
    | some (some d) => (g d ρ S).noexc.bind fun ρ1 S1 => (t ρ1 S1).noexc.bind fun b S2 =>
        if b then (e ρ1 S2).noexc.bind fun y S3 => lcEnd n y S3 fun S4 => lcIn nx g t e ρ n m (j + 1) S4 k else lcIn nx g t e ρ n m (j + 1) S2 k
    | some none => k S
    | none => .bad
def lc2N (nx : Nx) (g : TM) (t : M Bool) (it1 : M Nx) (g1 : TM) (t1 : M Bool) (e : M D) (vs1 : List Nat) (ρ : Env) (n : Nat) : Nat → Nat → Store → R D
  | 0, _, _ => .bad
  | m + 1, i, S => match nx i S with
    | some (some d) => (g d ρ S).noexc.bind fun ρ1 S1 => (t ρ1 S1).noexc.bind fun b S2 =>
        if b then (it1 ρ1 S2).noexc.bind fun nx1 S3 => lcIn nx1 g1 t1 e (wipeE ρ1 vs1) n fuel 0 S3 (lc2N nx g t it1 g1 t1 e vs1 ρ n m (i + 1)) else lc2N nx g t it1 g1 t1 e vs1 ρ n m (i + 1) S2
    | some none => lcDone n S
    | none => .bad
def mLc2 (it : M Nx) (g : TM) (t : M Bool) (it1 : M Nx) (g1 : TM) (t1 : M Bool) (e : M D) (vs vs1 : List Nat) : M D := fun ρ S => (it ρ S).bind fun nx S1 => lc2N nx g t it1 g1 t1 e vs1 (wipeE ρ vs) S1.length fuel 0 (S1 ++ [.rev [] 0])
/-- what has been laid is put behind the list's items -/
theorem lcEnd_ok {θ0 θ7 : List Addr} {H0 H7 : Hp} {S7 : Store} {n : Nat} {Da : Addr} {y : D} {v : V} {k : Store → R D} {σ : St} {Q : VK} (aD : θ0[n]? = some Da) (e7 : Ext θ0 H0 θ7 H7) (R7 : Rel B.G B.F θ7 S7 H7) (r7 : RD B.G θ7 H7 y v)
    (f7 : Fin B (RD B.G) σ θ7 H7 (lcEnd n y S7 k) Q) : ∃ acc, H7 Da = some (.lst acc) ∧ acc.length < sizeLine ∧ ∃ S8, Ext θ7 H7 θ7 (upd H7 Da (.lst (acc ++ [v]))) ∧ Rel B.G B.F θ7 S8 (upd H7 Da (.lst (acc ++ [v]))) ∧ Fin B (RD B.G) σ θ7 (upd H7 Da (.lst (acc ++ [v]))) (k S8) Q := by
  unfold lcEnd at f7
  cases q7 : S7[n]? with
  | none => rw [q7] at f7; exact f7.elim
  | some c =>
    cases c with
    | lst _ => rw [q7] at f7; exact f7.elim
    | dct _ => rw [q7] at f7; exact f7.elim
    | rev acc7 c7 =>
      rw [q7] at f7
      obtain ⟨hi, f8⟩ := Fin.ite (c := c7 < 16777216) f7
      have hDa := e7.get aD
      obtain ⟨xs, g1, g2, g3⟩ := R7.cells _ _ _ hDa q7
      have w := R7.writeC (o := .lst (xs ++ [v])) (c1 := .rev (y :: acc7) (c7 + 1)) hDa q7 fun e => ⟨xs ++ [v], upd_same, by
        rw [List.reverse_cons]
        exact (g2.append (.cons r7 .nil)).ext e, by simpa using g3⟩
      refine ⟨xs, g1, ?_, _, w.1, w.2, f8.ext w.1⟩
      rw [← g2.length, List.length_reverse]
      exact Nat.lt_of_le_of_lt g3 hi
theorem lcDone_ok {θ0 θ : List Addr} {H0 H' : Hp} {S : Store} {n : Nat} {Da : Addr} {σ : St} {Q : VK} (aD : θ0[n]? = some Da) (e3 : Ext θ0 H0 θ H') (R3 : Rel B.G B.F θ S H') (f3 : Fin B (RD B.G) σ θ H' (lcDone n S) Q) : Q (.ref Da) H' := by
  unfold lcDone at f3
  have hDa := e3.get aD
  cases q9 : S[n]? with
  | none => rw [q9] at f3; exact f3.elim
  | some c =>
    cases c with
    | lst _ => rw [q9] at f3; exact f3.elim
    | dct _ => rw [q9] at f3; exact f3.elim
    | rev acc k0 =>
      rw [q9] at f3
      obtain ⟨xs, g1, g2, _⟩ := R3.cells _ _ _ hDa q9
      have ew : upd H' Da (.lst xs) = H' := by
        funext b
        by_cases hb : b = Da
        · subst hb; rw [upd_same, g1]
        · rw [upd_ne hb]
      have w := R3.writeC (o := .lst xs) (c1 := .lst acc.reverse) hDa q9 fun e => ⟨xs, upd_same, g2.ext e⟩
      rw [ew] at w
      exact Fin.ok f3 w.1 w.2 (.ref hDa)
theorem lc2_read {it it1 : M Nx} {g g1 : TM} {t t1 : M Bool} {e : M D} {vs vs1 : List Nat} (σ : St) (H : Hp) (Q : VK) (h : rdE B (mLc2 it g t it1 g1 t1 e vs vs1) σ H Q) :
    tLc2 (rdI B it) (rdG B.blk (· ∈ vs) g) (rdT B.blk t) (rdI B.blk it1) (rdG B.blk (· ∈ vs1) g1) (rdT B.blk t1) (rdE B.blk e) vs vs1 σ H Q := by
  obtain ⟨ρ, S, θ, R0, rs, f⟩ := h
  refine ⟨ρ, S, θ, R0, rs, Fin.bind f fun nx S1 θ1 H1 J _ e1 R1 r1 f1 => fun Da hD => ?_⟩
  have e2 : Ext θ1 H1 (θ1 ++ [Da]) (upd H1 Da (.lst [])) := ext_cell hD
  have R2 : Rel B.G B.F (θ1 ++ [Da]) (S1 ++ [.rev [] 0]) (upd H1 Da (.lst [])) := R1.allocC hD ⟨[], upd_same, .nil, Nat.le_refl _⟩
  have rsw : RS B.G (θ1 ++ [Da]) (upd H1 Da (.lst [])) (wipeE ρ vs) (wipe σ vs) := (((rs.ext e1).ext e2).wipe vs)
  have aD : (θ1 ++ [Da])[S1.length]? = some Da := by rw [← R1.len, List.getElem?_concat_length]
  generalize hn : S1.length = n at f1 aD
  generalize hρ : wipeE ρ vs = ρw at f1 rsw
  let St2 : (Store → R D) → Hp → Prop := fun r H' => ∃ S θ, Ext (θ1 ++ [Da]) (upd H1 Da (.lst [])) θ H' ∧ Rel B.G B.F θ S H' ∧ Fin B (RD B.G) σ θ H' (r S) Q
  refine ⟨fun i m H' => St2 (lc2N nx g t it1 g1 t1 e vs1 ρw n m i) H', ⟨fuel, _, _, .refl, R2, f1.ext e2⟩, ?_⟩
  rintro i m H' ⟨S, θ, e3, R3, f3⟩
  cases m with
  | zero => exact f3.elim
  | succ m =>
    have ri := (r1.ext e2) i θ S H' e3 R3
    have rs3 := rsw.ext e3
    replace f3 : Fin B (RD B.G) σ θ H' (match nx i S with
      | some (some d) => (g d ρw S).noexc.bind fun ρ1 S1' => (t ρ1 S1').noexc.bind fun b S2 =>
        if b then (it1 ρ1 S2).noexc.bind fun nx1 S3 => lcIn nx1 g1 t1 e (wipeE ρ1 vs1) n fuel 0 S3 (lc2N nx g t it1 g1 t1 e vs1 ρw n m (i + 1)) else lc2N nx g t it1 g1 t1 e vs1 ρw n m (i + 1) S2
      | some none => lcDone n S
      | none => .bad) Q := f3
    cases q : nx i S with
    | none => rw [q] at f3; exact f3.elim
    | some o =>
      cases o with
      | none =>
        rw [q] at f3
        exact .inl ⟨ri.1 q, lcDone_ok aD e3 R3 f3⟩
      | some d =>
        rw [q] at f3
        replace f3 : Fin B (RD B.G) σ θ H' ((g d ρw S).noexc.bind fun ρ1 S1' => (t ρ1 S1').noexc.bind fun b S2 =>
          if b then (it1 ρ1 S2).noexc.bind fun nx1 S3 => lcIn nx1 g1 t1 e (wipeE ρ1 vs1) n fuel 0 S3 (lc2N nx g t it1 g1 t1 e vs1 ρw n m (i + 1)) else lc2N nx g t it1 g1 t1 e vs1 ρw n m (i + 1) S2) Q := f3
        obtain ⟨go, yl⟩ := ri.2 d q
        refine .inr ⟨go, fun H' => St2 (lc2N nx g t it1 g1 t1 e vs1 ρw n m (i + 1)) H', fun H' h => ⟨m, Nat.lt_succ_self _, h⟩, fun x H4 hy => ?_⟩
        obtain ⟨e4, R4, r4⟩ := yl x H4 hy
        refine ⟨ρw, S, θ, d, R4, rs3.ext e4, r4, Fin.toBlk (B := B) (σ := σ) (Fin.bind (f3.ext e4) fun ρ5 S5 θ5 H5 σ5 _ e5 R5 rs5 f5 => ?_)⟩
        refine ⟨(wipe_agr rs5.2).trans (wipe_agr Agr.wiped), ρ5, S5, θ5, R5, rs5.1, Fin.toBlk (B := B) (σ := σ) (Fin.bind f5 fun k S6 θ6 H6 b _ e6 R6 r6 f6 => ?_)⟩
        subst r6
        have e36 : Ext (θ1 ++ [Da]) (upd H1 Da (.lst [])) θ6 H6 := ((e3.trans e4).trans e5).trans e6
        cases k with
        | false =>
          rw [if_neg Bool.false_ne_true] at f6
          rw [if_neg Bool.false_ne_true]
          exact ⟨S6, θ6, e36, R6, f6⟩
        | true =>
          rw [if_pos rfl] at f6
          rw [if_pos rfl]
          refine ⟨ρ5, S6, θ6, R6, rs5.1.ext e6, Fin.toBlk (B := B) (σ := σ) (Fin.bind f6 fun nx1 S7 θ7 H7 J1 _ e7 R7 r7 f7 => ?_)⟩
          have rs7 : RS B.G θ7 H7 (wipeE ρ5 vs1) (wipe σ5 vs1) := ((rs5.1.ext e6).ext e7).wipe vs1
          refine ⟨fun j m' H' => ∃ S θ, Ext θ7 H7 θ H' ∧ Rel B.G B.F θ S H' ∧ Fin B (RD B.G) σ θ H' (lcIn nx1 g1 t1 e (wipeE ρ5 vs1) n m' j S (lc2N nx g t it1 g1 t1 e vs1 ρw n m (i + 1))) Q, ⟨fuel, _, _, .refl, R7, f7⟩, ?_⟩
          rintro j m' H8 ⟨S8, θ8, e8, R8, f8⟩
          cases m' with
          | zero => exact f8.elim
          | succ m' =>
            have ri1 := r7 j θ8 S8 H8 e8 R8
            replace f8 : Fin B (RD B.G) σ θ8 H8 (match nx1 j S8 with
              | some (some d) => (g1 d (wipeE ρ5 vs1) S8).noexc.bind fun ρ1 S1 => (t1 ρ1 S1).noexc.bind fun b S2 =>
                if b then (e ρ1 S2).noexc.bind fun y S3 => lcEnd n y S3 fun S4 => lcIn nx1 g1 t1 e (wipeE ρ5 vs1) n m' (j + 1) S4 (lc2N nx g t it1 g1 t1 e vs1 ρw n m (i + 1)) else lcIn nx1 g1 t1 e (wipeE ρ5 vs1) n m' (j + 1) S2 (lc2N nx g t it1 g1 t1 e vs1 ρw n m (i + 1))
              | some none => lc2N nx g t it1 g1 t1 e vs1 ρw n m (i + 1) S8
              | none => .bad) Q := f8
            cases q8 : nx1 j S8 with
            | none => rw [q8] at f8; exact f8.elim
            | some o =>
              cases o with
              | none =>
                rw [q8] at f8
                exact .inl ⟨ri1.1 q8, S8, θ8, (e36.trans e7).trans e8, R8, f8⟩
              | some d1 =>
                rw [q8] at f8
                replace f8 : Fin B (RD B.G) σ θ8 H8 ((g1 d1 (wipeE ρ5 vs1) S8).noexc.bind fun ρ1 S1 => (t1 ρ1 S1).noexc.bind fun b S2 =>
                  if b then (e ρ1 S2).noexc.bind fun y S3 => lcEnd n y S3 fun S4 => lcIn nx1 g1 t1 e (wipeE ρ5 vs1) n m' (j + 1) S4 (lc2N nx g t it1 g1 t1 e vs1 ρw n m (i + 1)) else lcIn nx1 g1 t1 e (wipeE ρ5 vs1) n m' (j + 1) S2 (lc2N nx g t it1 g1 t1 e vs1 ρw n m (i + 1))) Q := f8
                obtain ⟨go1, yl1⟩ := ri1.2 d1 q8
                refine .inr ⟨go1, fun H' => ∃ S θ, Ext θ7 H7 θ H' ∧ Rel B.G B.F θ S H' ∧ Fin B (RD B.G) σ θ H' (lcIn nx1 g1 t1 e (wipeE ρ5 vs1) n m' (j + 1) S (lc2N nx g t it1 g1 t1 e vs1 ρw n m (i + 1))) Q, fun H' h => ⟨m', Nat.lt_succ_self _, h⟩, fun x H9 hy => ?_⟩
                obtain ⟨e9, R9, r9⟩ := yl1 x H9 hy
                have e89 := e8.trans e9
                refine ⟨wipeE ρ5 vs1, S8, θ8, d1, R9, rs7.ext e89, r9, Fin.toBlk (B := B) (σ := σ) (Fin.bind (f8.ext e9) fun ρa Sa θa Ha σa _ ea Ra rsa fa => ?_)⟩
                refine ⟨(wipe_agr rsa.2).trans (wipe_agr Agr.wiped), ρa, Sa, θa, Ra, rsa.1, Fin.toBlk (B := B) (σ := σ) (Fin.bind fa fun k Sb θb Hb b _ eb Rb rb fb => ?_)⟩
                subst rb
                have e7b : Ext θ7 H7 θb Hb := (e89.trans ea).trans eb
                cases k with
                | false =>
                  rw [if_neg Bool.false_ne_true] at fb
                  rw [if_neg Bool.false_ne_true]
                  exact ⟨Sb, θb, e7b, Rb, fb⟩
                | true =>
                  rw [if_pos rfl] at fb
                  rw [if_pos rfl]
                  refine ⟨ρa, Sb, θb, Rb, rsa.1.ext eb, Fin.toBlk (B := B) (σ := σ) (Fin.bind fb fun y Sc θc Hc v _ ec Rc rc fc => ?_)⟩
                  obtain ⟨acc, k1, k2, S9, k3, k4, k5⟩ := lcEnd_ok aD (((e36.trans e7).trans e7b).trans ec) Rc rc fc
                  exact ⟨acc, k1, k2, S9, θc, (e7b.trans ec).trans k3, k4, k5⟩
section
variable {elt tg iter tg1 iter1 : Expr} {ifs ifs1 : List Expr} {scope : Scope} {own : List (Str × Nat)} {vs1 : List Nat} {it it1 : M Nx} {g g1 : TM} {t t1 : M Bool} {e : M D}
theorem de_lc2 (hc : X.calm = true) (hN : X.N.Nodup) (hi : PI X tg iter (rdI B it)) (ok : BlkOk X.N X.env.scope scope own) (hv : ∀ i ∈ vs1, i ∈ own.map (·.2))
    (hg : ∀ s H C cl fp, PG (X.blk s H scope (compEnvC scope cl C X.env) fp) tg (rdG B.blk (· ∈ own.map (·.2)) g)) (ht : ∀ s H C cl fp, PTs (X.blk s H scope (compEnvC scope cl C X.env) fp) ifs (rdT B.blk t))
    (hi1 : ∀ s H C cl fp, PI (X.blk s H scope (compEnvC scope cl C X.env) fp) tg1 iter1 (rdI B.blk it1)) (hg1 : ∀ s H C cl fp, PG (X.blk s H scope (compEnvC scope cl C X.env) fp) tg1 (rdG B.blk (· ∈ vs1) g1)) (ht1 : ∀ s H C cl fp, PTs (X.blk s H scope (compEnvC scope cl C X.env) fp) ifs1 (rdT B.blk t1))
    (he : ∀ s H C cl fp, PE (X.blk s H scope (compEnvC scope cl C X.env) fp) elt (rdE B.blk e)) (hs : ∀ x, foldedSetIterable iter X.env x = pure x := by intro _; rfl) (hs1 : ∀ env x, foldedSetIterable iter1 env x = pure x := by intro _ _; rfl) :
    PE X (.ListComp elt [⟨tg, iter, ifs, 0⟩, ⟨tg1, iter1, ifs1, 0⟩] scope pos) (rdE B (mLc2 it g t it1 g1 t1 e (own.map (·.2)) vs1)) :=
  PE.imp (pe_lc2 hc hN hi ok hv hg ht hi1 hg1 ht1 he hs hs1) lc2_read
theorem ds_setLc2 {i : Nat} {y : Str} {py spos : Pos} (hc : X.calm = true) (hN : X.N.Nodup) (hy : X.N[i]? = some y) (hyl : X.env.scope.names.lookup y = some .local)
    (hw : swapsWith (.ListComp elt [⟨tg, iter, ifs, 0⟩, ⟨tg1, iter1, ifs1, 0⟩] scope pos) (some (.Name y py)) spos.line X.env = pure true) (hi : PI X tg iter (rdI B it)) (ok : BlkOk X.N X.env.scope scope own) (hv : ∀ i ∈ vs1, i ∈ own.map (·.2))
    (hg : ∀ s H C cl fp, PG (X.blk s H scope (compEnvC scope cl C X.env) fp) tg (rdG B.blk (· ∈ own.map (·.2)) g)) (ht : ∀ s H C cl fp, PTs (X.blk s H scope (compEnvC scope cl C X.env) fp) ifs (rdT B.blk t))
    (hi1 : ∀ s H C cl fp, PI (X.blk s H scope (compEnvC scope cl C X.env) fp) tg1 iter1 (rdI B.blk it1)) (hg1 : ∀ s H C cl fp, PG (X.blk s H scope (compEnvC scope cl C X.env) fp) tg1 (rdG B.blk (· ∈ vs1) g1)) (ht1 : ∀ s H C cl fp, PTs (X.blk s H scope (compEnvC scope cl C X.env) fp) ifs1 (rdT B.blk t1))
    (he : ∀ s H C cl fp, PE (X.blk s H scope (compEnvC scope cl C X.env) fp) elt (rdE B.blk e)) (hs : ∀ x, foldedSetIterable iter X.env x = pure x := by intro _; rfl) (hs1 : ∀ env x, foldedSetIterable iter1 env x = pure x := by intro _ _; rfl) :
    PS X (.Assign [.Name y py] (.ListComp elt [⟨tg, iter, ifs, 0⟩, ⟨tg1, iter1, ifs1, 0⟩] scope pos) spos) (rdS B (sSet i (mLc2 it g t it1 g1 t1 e (own.map (·.2)) vs1))) :=
  PS.imp (ps_setLc2 hc hN hy hyl hw hi ok hv hg ht hi1 hg1 ht1 he hs hs1) fun D σ H ⟨ρ, S, θ, R0, rs, f⟩ => lc2_read σ H _ ⟨ρ, S, θ, R0, rs, FinS.bind rs f fun d S1 θ1 H1 v _ e1 R1 r1 f1 => f1 θ1 _ H1 .refl R1 ((rs.ext e1).set r1 i)⟩
end
end
end DM

namespace DM
open PySem PySem.Spec L2
open PyProof.Rows hiding St

def insP {α : Type} (x : α × List Int) : List (α × List Int) → List (α × List Int)
  | [] => [x]
  | y :: r => if HT.lexLt y.2 x.2 then y :: insP x r else x :: y :: r
def srtP {α : Type} : List (α × List Int) → List (α × List Int)
  | [] => []
  | x :: r => insP x (srtP r)
theorem insP_split {α : Type} (x : α × List Int) (b : List (α × List Int)) (hb : ∀ y ∈ b, HT.lexLt y.2 x.2 = false) : ∀ a : List (α × List Int), (∀ y ∈ a, HT.lexLt y.2 x.2 = true) → insP x (a ++ b) = a ++ x :: b
  | [], _ => by
    cases b with
    | nil => rfl
    | cons y r =>
      show (if HT.lexLt y.2 x.2 then y :: insP x r else x :: y :: r) = _
      rw [hb y List.mem_cons_self]
      rfl
  | y :: a, ha => by
    show (if HT.lexLt y.2 x.2 then y :: insP x (a ++ b) else x :: y :: (a ++ b)) = _
    rw [ha y List.mem_cons_self, if_pos rfl, insP_split x b hb a fun z hz => ha z (List.mem_cons_of_mem _ hz)]
    rfl
def leP {α : Type} (a b : α × List Int) : Bool := !HT.lexLt b.2 a.2
theorem leP_trans {α : Type} (a b c : α × List Int) (h1 : leP a b = true) (h2 : leP b c = true) : leP a c = true := by
  unfold leP at *
  rw [Bool.not_eq_true'] at h1 h2 ⊢
  cases q : HT.lexLt c.2 a.2 with
  | false => rfl
  | true =>
    rcases lexLt_nt c.2 b.2 a.2 q with w | w
    · rw [h2] at w; cases w
    · rw [h1] at w; cases w
theorem leP_total {α : Type} (a b : α × List Int) : (leP a b || leP b a) = true := by
  unfold leP
  cases q : HT.lexLt b.2 a.2 with
  | false => rfl
  | true => rw [lexLt_asym _ _ q]; rfl
theorem srtP_eq {α : Type} : ∀ l : List (α × List Int), l.mergeSort leP = srtP l
  | [] => by simp [srtP]
  | x :: r => by
    obtain ⟨l1, l2, e1, e2, e3⟩ := List.mergeSort_cons (le := leP) leP_trans leP_total x r
    have hs := List.pairwise_mergeSort (le := leP) leP_trans leP_total (x :: r)
    rw [e1] at hs
    rw [e1]
    unfold srtP
    rw [← srtP_eq r, e2]
    refine (insP_split x l2 (fun y hy => ?_) l1 fun y hy => ?_).symm
    · have z := (List.pairwise_append.mp hs).2.1
      have z2 := (List.pairwise_cons.mp z).1 y hy
      unfold leP at z2
      rwa [Bool.not_eq_true'] at z2
    · have z := e3 y hy
      unfold leP at z
      simpa using z
def sortKTD (xs ks : List D) (S : Store) : R D := match tupsI ks with
  | some ls => if ls.length == xs.length then .ok (.ref S.length) (S ++ [.lst ((srtP (xs.zip ls)).map (·.1))]) else .bad
  | none => sortKD xs ks S
theorem sortKTD_eq (xs ks : List D) (S : Store) : sortKTD xs ks S = sortKD xs ks S := by
  unfold sortKTD
  cases q : tupsI ks with
  | none => rfl
  | some ls =>
    obtain ⟨h1, h2⟩ := tupsI_ok q
    subst h1
    unfold sortKD
    rw [toPy_tups]
    dsimp only
    rw [okK_tups ls h2, Bool.true_and, List.length_map]
    have e : srtD xs (ls.map pyT) = (srtP (xs.zip ls)).map (·.1) := by
      unfold srtD
      rw [List.zip_map_right]
      have z := List.map_mergeSort (r := leP) (s := PySem.W.dataLe false (·.2)) (f := Prod.map id pyT) (l := xs.zip ls) (fun a ha b hb => by
        show (!HT.lexLt b.2 a.2) = !PySem.W.dataLt (pyT b.2) (pyT a.2)
        rw [dataLt_pyT])
      rw [← z, List.map_map, srtP_eq]
      rfl
    rw [e]
def mSortKT (m : Fm) (a : M (List D)) : M D := fun ρ S => (a ρ S).bind fun ds S1 => match one1 ds with
  | some d => match getSeq d S1 with
    | some xs => (keysD m xs S1).noexc.bind fun ks S2 => sortKTD xs ks S2
    | none => .bad
  | none => .bad
theorem mSortKT_eq (m : Fm) (a : M (List D)) : mSortKT m a = mSortK m a := by
  have e : sortKTD = sortKD := by
    funext xs ks S
    exact sortKTD_eq xs ks S
  unfold mSortKT mSortK
  rw [e]
  all_goals rfl
theorem kd_of {K : PySem.W.Frag} {w : World} {d : Addr} {es : Array DictEntry} {n : Nat} (hl : K.lookup d = some ⟨.type "dict", none, .dict es n, #[]⟩) (hk : PySem.W.KeysLit w.params es.toList) {T : List (Str × Int)}
    (h : ∀ p ∈ T, ∃ t, PySem.W.nsIn K d p.1 = some (some (.int p.2 t))) (z : Str) (i : Int) (hz : T.lookup z = some i) : KDct K w d z (.int i) := by
  obtain ⟨t, e⟩ := h (z, i) (PySem.mem_of_lookup hz)
  exact ⟨es, n, _, hl, hk, e, ⟨t, rfl⟩⟩
section
variable {X : Cx} {B : Bv} {pos : Pos}
theorem de_kt {e : Expr} {m : Fm} {a : M (List D)} (h : PE X e (rdE B (mSortK m a))) : PE X e (rdE B (mSortKT m a)) := by
  rw [mSortKT_eq]
  exact h
/-- a, b, c = x, y, z -/
def sPar3 (i j l : Nat) (a : M (List D)) : SM := fun ρ S => (a ρ S).toS ρ fun ds S1 => match ds with
  | [d, e, f] => .nx (((ρ.set i (some d)).set j (some e)).set l (some f)) S1
  | _ => .bad
theorem rds3 {G : Gv} {θ : List Addr} {H : Hp} {a b c : D} {vs : List V} (r : RDs G θ H [a, b, c] vs) : ∃ x y z, vs = [x, y, z] ∧ RD G θ H a x ∧ RD G θ H b y ∧ RD G θ H c z := by
  cases r with
  | cons r1 t =>
    obtain ⟨y, z, rfl, r2, r3⟩ := rds2 t
    exact ⟨_, y, z, rfl, r1, r2, r3⟩
theorem ds_par3 {i j l : Nat} {st : Stmt} {es : List Expr} {a : M (List D)} (h : ∀ ta, PA X es ta → PS X st (tPar3 i j l ta)) (ha : PA X es (rdA B a)) : PS X st (rdS B (sPar3 i j l a)) :=
  PS.imp (h _ ha) fun D σ H ⟨ρ, S, θ, R0, rs, f⟩ => ⟨ρ, S, θ, R0, rs, FinS.bind rs f fun ds S1 θ1 H1 vs _ e1 R1 r1 f1 => by
    match ds, r1, f1 with
    | [d, e, g], r1, f1 =>
      obtain ⟨x, y, z, rfl, k1, k2, k3⟩ := rds3 r1
      exact ⟨x, y, z, rfl, f1 θ1 _ H1 .refl R1 ((((rs.ext e1).set k1 i).set k2 j).set k3 l)⟩⟩
end
end DM

namespace DM
open PySem PySem.Spec L2
open PyProof.Rows hiding St

mutual
/-- all cells that d names are below n -/
def belowD (n : Nat) : D → Bool
  | .ref j => decide (j < n)
  | .tup ds => belowAll n ds
  | .pr ds => belowAll n ds
  | .lst ds => belowAll n ds
  | .kst ds => belowAll n ds
  | .brw ds => belowAll n ds
  | .int _ => true
  | .str _ => true
  | .bl _ => true
  | .non => true
  | .fn _ => true
  | .ty _ => true
  | .edc => true
def belowAll (n : Nat) : List D → Bool
  | [] => true
  | d :: ds => belowD n d && belowAll n ds
end
def belowK (n : Nat) : List (Key × D) → Bool
  | [] => true
  | p :: r => belowD n p.2 && belowK n r
def belowC (n : Nat) : C → Bool
  | .lst ds => belowAll n ds
  | .dct kvs => belowK n kvs
  | .rev ds _ => belowAll n ds
def belowS (n : Nat) : Store → Bool
  | [] => true
  | c :: r => belowC n c && belowS n r
def belowE (n : Nat) : Env → Bool
  | [] => true
  | none :: r => belowE n r
  | some d :: r => belowD n d && belowE n r
section
variable {G : Gv} {θ θ' : List Addr} {H : Hp} {n : Nat}
mutual
theorem RD.cut (hr : ∀ (j : Nat) a, j < n → θ'[j]? = some a → θ[j]? = some a) (hm : ∀ a, a ∉ θ' → a ∉ θ) : ∀ {d : D} {v : V}, RD G θ' H d v → belowD n d = true → RD G θ H d v
  | _, _, .non, _ => .non
  | _, _, .bl b, _ => .bl b
  | _, _, .int i, _ => .int i
  | _, _, .str s, _ => .str s
  | _, _, .ty s, _ => .ty s
  | _, _, .tup (ds := ds) h1 h2, c => .tup h1 (RDs.cut hr hm h2 (by simpa [belowD] using c))
  | _, _, .pr (ds := ds) h1 h2, c => .pr h1 (RDs.cut hr hm h2 (by simpa [belowD] using c))
  | _, _, .lst (ds := ds) h0 h1 h2 h3, c => .lst h0 (hm _ h1) h2 (RDs.cut hr hm h3 (by simpa [belowD] using c))
  | _, _, .brw (ds := ds) h1 h2 h3, c => .brw (hm _ h1) h2 (RDs.cut hr hm h3 (by simpa [belowD] using c))
  | _, _, .kst (ds := ds) h1 h2, c => .kst h1 (RDs.cut hr hm h2 (by simpa [belowD] using c))
  | _, _, .ref h, c => .ref (hr _ _ (by simpa [belowD] using c) h)
  | _, _, .fn h, _ => .fn h
  | _, _, .edc h0 h1 h2, _ => .edc h0 (hm _ h1) h2
theorem RDs.cut (hr : ∀ (j : Nat) a, j < n → θ'[j]? = some a → θ[j]? = some a) (hm : ∀ a, a ∉ θ' → a ∉ θ) : ∀ {ds : List D} {vs : List V}, RDs G θ' H ds vs → belowAll n ds = true → RDs G θ H ds vs
  | _, _, .nil, _ => .nil
  | _, _, .cons r t, c => by
    simp only [belowAll, Bool.and_eq_true] at c
    exact .cons (RD.cut hr hm r c.1) (RDs.cut hr hm t c.2)
end
theorem RK.cut (hr : ∀ (j : Nat) a, j < n → θ'[j]? = some a → θ[j]? = some a) (hm : ∀ a, a ∉ θ' → a ∉ θ) : ∀ {r : List (Key × D)} {s : List (Key × V)}, RK G θ' H r s → belowK n r = true → RK G θ H r s
  | _, _, .nil, _ => .nil
  | _, _, .cons h t, c => by
    simp only [belowK, Bool.and_eq_true] at c
    exact .cons (RD.cut hr hm h c.1) (RK.cut hr hm t c.2)
theorem RS.cut (hr : ∀ (j : Nat) a, j < n → θ'[j]? = some a → θ[j]? = some a) (hm : ∀ a, a ∉ θ' → a ∉ θ) : ∀ {ρ : Env} {σ : St}, RS G θ' H ρ σ → belowE n ρ = true → RS G θ H ρ σ
  | _, _, .nil, _ => .nil
  | _, _, .no t, c => .no (RS.cut hr hm t c)
  | _, _, .yes h t, c => by
    simp only [belowE, Bool.and_eq_true] at c
    exact .yes (RD.cut hr hm h c.1) (RS.cut hr hm t c.2)
theorem belowAll_rev {n : Nat} {ds : List D} (h : belowAll n ds = true) : belowAll n ds.reverse = true := by
  have go : ∀ (a b : List D), belowAll n a = true → belowAll n b = true → belowAll n (a ++ b) = true := fun a b ha hb => by
    induction a with
    | nil => exact hb
    | cons x a ih =>
      simp only [belowAll, Bool.and_eq_true] at ha
      show (belowD n x && belowAll n (a ++ b)) = true
      rw [ha.1, ih ha.2]; rfl
  induction ds with
  | nil => rfl
  | cons x r ih =>
    simp only [belowAll, Bool.and_eq_true] at h
    rw [List.reverse_cons]
    exact go _ _ (ih h.2) (by show (belowD n x && true) = true; rw [h.1]; rfl)
theorem belowS_get : ∀ {S : Store} {j : Nat} {c : C}, belowS n S = true → S[j]? = some c → belowC n c = true
  | [], _, _, _, e => by simp at e
  | c0 :: r, 0, c, h, e => by
    simp only [belowS, Bool.and_eq_true] at h
    simp at e; subst e; exact h.1
  | c0 :: r, j + 1, c, h, e => by
    simp only [belowS, Bool.and_eq_true] at h
    exact belowS_get (j := j) h.2 (by simpa using e)
theorem rc_cut (hr : ∀ (j : Nat) a, j < n → θ'[j]? = some a → θ[j]? = some a) (hm : ∀ a, a ∉ θ' → a ∉ θ) {c : C} {a : Addr} (h : RC G θ' H c a) (b : belowC n c = true) : RC G θ H c a := by
  cases c with
  | lst ds => obtain ⟨xs, h1, h2⟩ := h; exact ⟨xs, h1, h2.cut hr hm b⟩
  | dct kvs => obtain ⟨xs, h1, h2⟩ := h; exact ⟨xs, h1, h2.cut hr hm b⟩
  | rev ds k => obtain ⟨xs, h1, h2, h3⟩ := h; exact ⟨xs, h1, h2.cut hr hm (belowAll_rev b), h3⟩
end
/-- the store, cut back to n cells where nothing else is named -/
def gcS (n : Nat) (ρ : Env) (S : Store) : Store := if (belowE n ρ && belowS n (S.take n)) = true then S.take n else S
def SR.gc (n : Nat) : SR → SR
  | .nx ρ S => .nx ρ (gcS n ρ S)
  | .ct ρ S => .ct ρ (gcS n ρ S)
  | r => r
def sGC (b : SM) : SM := fun ρ S => (b ρ S).gc S.length
section
variable {X : Cx} {B : Bv}
theorem gc_ok {θ θ' : List Addr} {H H' : Hp} {S S' : Store} {ρ' : Env} {σ' : St} (R0 : Rel B.G B.F θ S H) (e : Ext θ H θ' H') (R1 : Rel B.G B.F θ' S' H') (rs : RS B.G θ' H' ρ' σ') :
    ∃ θ2, Ext θ H θ2 H' ∧ Rel B.G B.F θ2 (gcS S.length ρ' S') H' ∧ RS B.G θ2 H' ρ' σ' := by
  unfold gcS
  split
  · rename_i c
    rw [Bool.and_eq_true] at c
    have hl := R0.len
    have hr : ∀ (j : Nat) a, j < S.length → θ'[j]? = some a → θ[j]? = some a := fun j a hj h => by
      obtain ⟨nw, rfl, _⟩ := e.pre
      rwa [List.getElem?_append_left (by omega)] at h
    have hm : ∀ a, a ∉ θ' → a ∉ θ := fun a h z => by
      obtain ⟨nw, rfl, _⟩ := e.pre
      exact h (List.mem_append_left _ z)
    have hlen : S.length ≤ S'.length := by
      obtain ⟨nw, e1, _⟩ := e.pre
      have := R1.len
      rw [e1, List.length_append] at this
      omega
    refine ⟨θ, .of_keep e.keep, ⟨by rw [List.length_take]; omega, R0.nd, fun j a c0 h1 h2 => ?_, ⟨R0.fr.pre, R1.fr.keep⟩, R1.pht, R1.tab⟩, rs.cut hr hm c.1⟩
    have hj : j < S.length := hl ▸ (List.getElem?_eq_some_iff.mp h1).1
    have h3 : S'[j]? = some c0 := by rwa [List.getElem?_take_of_lt hj] at h2
    exact rc_cut hr hm (R1.cells j a c0 (e.get h1) h3) (belowS_get c.2 h2)
  · exact ⟨θ', e, R1, rs⟩
theorem ds_gc {ss : List Stmt} {b : SM} (h : PSs X ss (rdS B b)) : PSs X ss (rdS B (sGC b)) := PSs.imp h fun D σ H ⟨ρ, S, θ, R0, rs, f⟩ => by
  refine ⟨ρ, S, θ, R0, rs, ?_⟩
  unfold sGC at f
  cases q : b ρ S with
  | nx ρ' S' =>
    rw [q] at f
    intro θ' σ' H' e R1 rs1
    obtain ⟨θ2, k1, k2, k3⟩ := gc_ok R0 e R1 rs1
    exact f θ2 σ' H' k1 k2 k3
  | ct ρ' S' =>
    rw [q] at f
    intro θ' σ' H' e R1 rs1
    obtain ⟨θ2, k1, k2, k3⟩ := gc_ok R0 e R1 rs1
    exact f θ2 σ' H' k1 k2 k3
  | bk => rw [q] at f; exact f
  | rt => rw [q] at f; exact f
  | exc => rw [q] at f; exact f
  | bad => rw [q] at f; exact f
end
end DM

namespace DM
open PySem PySem.Spec L2
open PyProof.Rows hiding St

section
variable {P : Program} {w : World} {A : Around} {E : Value → Shared → Prop} {hp : Heap} {g : Array GenState} {d : Drawn} {t : Nat} {os : OsState}
open PySem.W PySem.Calls Builtin.ObjectAttr
/-- self.f = v on an error without a dict -/
theorem exc_set {K : Frag} {B : String} {bmB : List Value} {C x t0 : Addr} {cd : ClassData} {f : Str} {v : Value} {Q : Unit → Shared → Prop} (SF : StoreFacts B bmB "object.__setattr__" "object") (X : K.In hp)
    (hx : hp.get? x = some (HandSPX.excO C t0)) (hs : findIn K (.ref C) "__setattr__" = some (some (.builtin "object.__setattr__"))) (ho : excOver K C bmB = true) (ht : takerIn K C f = some none) (hcd : clsIn K C = some cd) (hh : cd.hasDict = true)
    (hq : ∀ h' tk' dx, (∀ b o, b ≠ x → hp.get? b = some o → h'.get? b = some o) → hp.objs.size ≤ dx → dx ≠ x → h'.get? x = some { cls := .ref C, dict := some dx, data := .fields #[.ref t0, .none, .none, .none, .bool false, .none] } →
      h'.Ns1 dx (fun y => if y = f then some v else none) → Q () ⟨h', g, d, tk', os⟩) :
    wpAny (model P w) A (setAttr (.ref x) f v) Q E ⟨hp, g, d, t, os⟩ := by
  have I : InstAt hp x { cls := .ref C, data := .fields #[.ref t0, .none, .none, .none, .bool false, .none] } C none := ⟨hx, rfl, rfl, trivial⟩
  have hxs : x ≠ hp.objs.size := Nat.ne_of_lt (Heap.lt_size hx)
  have hcls : Looks (model P w) hp (classData C) cd := looks_clsIn X hcd
  refine set_plain X I hs (osa_openX SF X I ho ht fun b => ?_)
  obtain ⟨nm, bs, mro, ns, qn, hd, sn, sb, ab, col, del⟩ := cd
  dsimp only at hh
  subst hh
  show wpAny _ _ (storeInOwnDict (.ref x) (.ref C) (.str f t) f v b) _ _ _
  unfold storeInOwnDict ownDictForStores
  repeat (first | with_reducible refine HandSPX.store_in_new ?_ ?_ | with_reducible refine wpAny_loadPart_at hx ?_ | with_reducible refine hcls.at ?_ | wp_step)
  · exact ⟨_, #[], _, (Heap.get?_update_ne _ _ _ _ hxs.symm).trans (Heap.get?_push_at rfl rfl), rfl, fun e he => absurd he (by simp), fun _ => rfl⟩
  · intro h' tk' hn' hs
    have hx₁ : (hp.push { cls := .type "dict", data := .dict #[] }).get? x = some { cls := .ref C, data := .fields #[.ref t0, .none, .none, .none, .bool false, .none] } := Heap.get?_push_of_some _ hx
    refine hq h' tk' hp.objs.size (fun b o hb ho => ?_) (Nat.le_refl _) hxs.symm ?_ hn'
    · exact (hs.2 b (Nat.ne_of_lt (Heap.lt_size ho))).trans ((Heap.get?_update_ne _ _ _ _ hb).trans (Heap.get?_push_of_some _ ho))
    · exact (hs.2 x hxs).trans (Heap.get?_update_self _ hx₁ rfl)
/-- what the written part says of an own error's class: C, its __init__ at fI, the class's cell at cc, its code at cda -/
structure IniC (P : Program) (K : Frag) (mg : Str → Option Value) (C fI : Addr) (st : Stmt) (qual f : Str) (B newId initId : String) (bmB : List Value) : Prop where
  F : ExcBaseFacts B newId initId bmB
  KF : KxsFacts B initId
  SF : StoreFacts B bmB "object.__setattr__" "object"
  q : excInitIn K C bmB newId = true
  ov : excOver K C bmB = true
  iC : findIn K (.ref C) "__init__" = some (some (.ref fI))
  tI : typeIn K (.ref fI) = some (.type "function")
  fd : ∃ (oc dV kV doc pm ct : Value) (od an : Option Addr) (osl : Array (Option Value)) (cc cda : Addr), dV = .none ∧ K.lookup fI = some ⟨oc, od, .func (ksFn "__init__" qual (defArgs st) (defBody st) (defScope st) dV kV doc pm an (.ref cda) ct cc), osl⟩ ∧ codeIn K (.ref cda) qual = true ∧
    (∃ cl cld csl, K.lookup cc = some ⟨cl, cld, .cell (some (.ref C)), csl⟩) ∧
    (∃ ccl cdd vs ccs file tf, K.lookup cda = some ⟨ccl, cdd, .fields vs, ccs⟩ ∧ vs[2]? = some (.str file tf) ∧ ((P.main.file : Str) == file) = true)
  top : (P.main.scope.names.lookup ("super" : Str)).isSome = false
  gs : mg "super" = none
  cls : ∃ cd, clsIn K C = some cd ∧ cd.hasDict = true
  mro : mroIn K C (.ref C) = some true
  sup : ks_superIn K C C "__init__" = some (some (.builtin initId))
  sB : subIn K (.ref C) (.type B) = some true
  any : nsIn K cStatics "thirdparty.any" = some none
  sa : findIn K (.ref C) "__setattr__" = some (some (.builtin "object.__setattr__"))
  tk : takerIn K C f = some none

theorem super_init {K : Frag} {mg : Str → Option Value} {base : Heap} {C fI e t0 L cc cda : Addr} {st : Stmt} {qual f msg : Str} {B newId initId : String} {bmB : List Value} {oc dV kV doc pm ct : Value} {od an : Option Addr} {osl : Array (Option Value)}
    (T : IniC P K mg C fI st qual f B newId initId bmB) (Mo : Mod K mg base) (kb : ∀ b o, base.get? b = some o → hp.get? b = some o)
    (lk : K.lookup fI = some ⟨oc, od, .func (ksFn "__init__" qual (defArgs st) (defBody st) (defScope st) dV kV doc pm an (.ref cda) ct cc), osl⟩)
    (hcc : ∃ cl cld csl, K.lookup cc = some ⟨cl, cld, .cell (some (.ref C)), csl⟩)
    (hco : ∃ ccl cdd vs ccs file tf, K.lookup cda = some ⟨ccl, cdd, .fields vs, ccs⟩ ∧ vs[2]? = some (.str file tf) ∧ ((P.main.file : Str) == file) = true)
    {m : Str → Option Value} (hN : hp.Ns L m) (hself : m "self" = some (.ref e)) (he : hp.get? e = some (HandSPX.excO C t0))
    {ar : Arg} (har : ((defArgs st).posonlyargs ++ (defArgs st).args).head? = some ar) (hars : ar.arg = "self")
    (hks : (defScope st).names.lookup ("super" : Str) = some .globalImplicit) (hkc : (defScope st).names.lookup ("__class__" : Str) = some .free) (hka : (defScope st).names.lookup ("self" : Str) = some .local) (hk : (defScope st).kind = .function)
    {body : List Stmt} {p0 p1 p2 p3 p4 p5 : Pos} {j : Nat} {pl : Sem Bool} {Q : Flow → Shared → Prop} (hi : interactive (ksEnv qual (defScope st) L fI (.ref cda) cc) = false)
    (hev : eval (.Call (.Attribute (.Call (.Name "super" p0) [] [] p1) "__init__" p2) [.Constant (.str msg) j p3] [] p4) (ksEnv qual (defScope st) L fI (.ref cda) cc) = (do
      let ov ← attributeBase (.Call (.Name "super" p0) [] [] p1) "__init__" (ksEnv qual (defScope st) L fI (.ref cda) cc) (eval (.Call (.Name "super" p0) [] [] p1) (ksEnv qual (defScope st) L fI (.ref cda) cc))
      standAt p2.atName
      let (f, first) ← holding [ov] (getMethod ov "__init__" pl)
      callWith p4 f first (backTo p4 (starEach [.Constant (.str msg) j p3] (ksEnv qual (defScope st) L fI (.ref cda) cc))) []))
    (hq : ∀ h' t' t1, (∀ b o, b ≠ e → hp.get? b = some o → h'.get? b = some o) → h'.get? e = some (HandSPX.excO C t1) → Q .next ⟨h', g, d, t', os⟩) :
    _root_.PySem.wpAt (model P w) A (.func body (ksEnv qual (defScope st) L fI (.ref cda) cc)) (exec (.Expr (.Call (.Attribute (.Call (.Name "super" p0) [] [] p1) "__init__" p2) [.Constant (.str msg) j p3] [] p4) p5) (ksEnv qual (defScope st) L fI (.ref cda) cc)) Q E ⟨hp, g, d, t, os⟩ := by
  have X : K.In hp := Mo.kin.keeps kb
  obtain ⟨cd, hcd, hdd⟩ := T.cls
  obtain ⟨cl, cld, csl, hcc⟩ := hcc
  obtain ⟨ccl, cdd, vs, ccs, file, tf, hcode, hvs, hfile⟩ := hco
  obtain ⟨mb, hb1, hb2⟩ := Mo.blt
  obtain ⟨oD, hD1, hD2⟩ : ∃ oD, hp.get? C = some oD ∧ oD.data = .cls cd := by
    have hD := hcd
    unfold clsIn at hD
    split at hD
    · rename_i c d cd' sl ho
      cases hD
      exact ⟨_, X _ _ ho, rfl⟩
    · cases hD
  have I : InstAt hp e (HandSPX.excO C t0) C none := ⟨he, rfl, rfl, trivial⟩
  have ne : e ≠ C := ks_ne X I hcd
  refine ks_wpAt_Expr_any (ks_wpAt_MethodCall (pl := pl) ?_ hev) hi
  refine ks_wpAt_super_base (env := ksEnv qual (defScope st) L fI (.ref cda) cc) hks hkc (by decide) rfl (X _ _ lk) rfl har rfl (X _ _ hcode) rfl hvs hfile T.top ?_
  refine ks_loadName_global hk hks (loadGlobal_builtin (env := ksEnv qual (defScope st) L fI (.ref cda) cc) (Mo.glob.keeps kb) T.gs (hb1.keeps kb) ((hb2 "super" (by decide)).trans (by decide +kernel)) ⟨rfl, ?_⟩)
  refine wpAny_loadName_free hk hkc rfl ⟨_, X _ _ hcc, rfl⟩ ?_
  rw [hars]
  refine wpAny_loadName_local hk hka hN hself ?_
  refine ks_wpAny_isType_cls hD1 hD2 ⟨rfl, ?_⟩
  refine ks_wpAny_call_super hD1 hD2 he rfl (fun c e => by cases e) (looks_mroIn X T.mro) (fun h1 e1 k1 => ?_)
  have up1 : ∀ b o, base.get? b = some o → h1.get? b = some o := fun b o z => k1 b o (kb b o z)
  have X1 : K.In h1 := Mo.kin.keeps up1
  refine kxs_getMethod T.KF e1 (looks_opaque X1 T.any) (l₀ := cd.mro) (fun A Q E s k q => wpAny_bind ((looks_clsIn X1 hcd) A _ E s k (wpAny_pure q))) rfl X1 ?_ ?_ ne (by decide) ?_
  · have z := T.sup
    unfold ks_superIn at z
    rw [hcd] at z
    exact z
  · exact (InstAt.type (show InstAt h1 e (HandSPX.excO C t0) C none from ⟨k1 _ _ he, rfl, rfl, trivial⟩)).andThen (looks_subIn X1 T.sB)
  have k2 : ∀ b o, h1.get? b = some o → (h1.push (kxs_mw initId e)).get? b = some o := fun b o z => Heap.get?_push_of_some _ z
  have hu : (h1.push (kxs_mw initId e)).get? h1.objs.size = some (kxs_mw initId e) := Heap.get?_push_size h1 rfl
  show wpAny _ _ (callWith p4 (.ref h1.objs.size) [] (backTo p4 (starEach [.Constant (.str msg) j p3] (ksEnv qual (defScope st) L fI (.ref cda) cc))) []) _ _ _
  refine kxs_callWith (i := initId) (x := e) rfl ?_
  refine evalArgs_plain ?_
  show wpAny _ _ (spliced ((false, eval (.Constant (.str msg) j p3) (ksEnv qual (defScope st) L fI (.ref cda) cc)) :: [])) _ _ _
  refine Calls.spliced_cons (Calls.Constant_str (Calls.spliced_nil ⟨hu, ?_⟩))
  show wpAny _ _ (call (.ref h1.objs.size) [.str msg _]) _ _ _
  obtain ⟨nm, N', qn, bs, bm, hdct, sn, sub, ab, col, dd, k0, k1', k2', k3, k5, hC, hT⟩ := excInit_of ((Mo.kin.keeps up1).keeps k2) T.q
  have he2 : (h1.push (kxs_mw initId e)).get? e = some (HandSPX.excO C t0) := k2 _ _ (k1 _ _ he)
  refine wpAny_call (codeAny_of_tree ?_)
  show wpAny _ A.in1 (callAny (.ref h1.objs.size) ⟨_, []⟩) _ _ _
  simp only [callAny]
  refine wpAny_bind (wpAny_load hu ?_)
  simp only [kxs_mw, show (Value.type "method-wrapper" == Value.type "method" || Value.type "method-wrapper" == Value.type "builtin_function_or_method" || Value.type "method-wrapper" == Value.type "method-wrapper") = true by decide, if_true]
  refine KFB.if_so (by decide) ?_
  refine wpAny_bind (check_bound_init T.F.toExcCallFacts hC he2 rfl ?_)
  refine wpAny_bind (wpAny_pure (wpAny_pure ?_))
  refine ⟨plainId_quiet T.F.init.plain _, codeAny_builtin T.F.initEntry ?_⟩
  refine exc_init_tree (cls := .ref C) (t0 := t0) (dv := none) (c2 := .none) (c3 := .none) (b4 := .bool false) he2 (by show 1 ≤ sizeLine; rw [sizeLine_eq]; omega) fun h' k' e' t' => ?_
  exact hq h' _ _ (fun b o hb z => k' b o hb (k2 _ _ (k1 _ _ z))) e'

/-- the shape of such an __init__ -/
structure IniS (st : Stmt) (qual f pv msg : Str) : Prop where
  body : ∃ (p0 p1 p2 p3 p4 p5 p6 p7 p8 p9 : Pos) (j : Nat), defBody st = [.Expr (.Call (.Attribute (.Call (.Name "super" p0) [] [] p1) "__init__" p2) [.Constant (.str msg) j p3] [] p4) p5, .Assign [.Attribute (.Name "self" p6) f p7] (.Name pv p8) p9] ∧
    (∀ (L fI cda cc : Addr), interactive (ksEnv qual (defScope st) L fI (.ref cda) cc) = false ∧
      ∃ pl : Sem Bool, eval (.Call (.Attribute (.Call (.Name "super" p0) [] [] p1) "__init__" p2) [.Constant (.str msg) j p3] [] p4) (ksEnv qual (defScope st) L fI (.ref cda) cc) = (do
      let ov ← attributeBase (.Call (.Name "super" p0) [] [] p1) "__init__" (ksEnv qual (defScope st) L fI (.ref cda) cc) (eval (.Call (.Name "super" p0) [] [] p1) (ksEnv qual (defScope st) L fI (.ref cda) cc))
      standAt p2.atName
      let (f, first) ← holding [ov] (getMethod ov "__init__" pl)
      callWith p4 f first (backTo p4 (starEach [.Constant (.str msg) j p3] (ksEnv qual (defScope st) L fI (.ref cda) cc))) [])) ∧
    ∀ (L fI cda cc : Addr), swapsWith (.Name pv p8) (some (.Attribute (.Name "self" p6) f p7)) p9.line (ksEnv qual (defScope st) L fI (.ref cda) cc) = pure false
  ar : ∃ ar, ((defArgs st).posonlyargs ++ (defArgs st).args).head? = some ar ∧ ar.arg = "self"
  ks : (defScope st).names.lookup ("super" : Str) = some .globalImplicit
  kc : (defScope st).names.lookup ("__class__" : Str) = some .free
  ka : (defScope st).names.lookup ("self" : Str) = some .local
  kv : (defScope st).names.lookup pv = some .local
  k : (defScope st).kind = .function
  co : (defScope st).isCoroutine = false
  gen : (defScope st).isGenerator = false
  cell : ∀ x ∈ (defScope st).names, x.2 ≠ .cell
  nv : pv ≠ "self"
  dv : (pv == ("__debug__" : Str)) = false
  bind : ∀ (s : Shared) (dV kV doc pm cdv ct : Value) (an : Option Addr) (cc : Addr) (u v : Value), dV = .none → BindsTo s (ksFn "__init__" qual (defArgs st) (defBody st) (defScope st) dV kV doc pm an cdv ct cc) ⟨[u, v], []⟩ [("self", u), (pv, v)]

theorem ini_run {K : Frag} {mg : Str → Option Value} {base : Heap} {C fI e t0 : Addr} {st : Stmt} {qual f pv msg : Str} {B newId initId : String} {bmB : List Value} {u : Value}
    (T : IniC P K mg C fI st qual f B newId initId bmB) (S : IniS st qual f pv msg) (Mo : Mod K mg base) (kb : ∀ b o, base.get? b = some o → hp.get? b = some o) (hbe : base.get? e = none) (hroom : A.depth < recursionLimit)
    (he : hp.get? e = some (HandSPX.excO C t0)) {R : Result → Shared → Prop}
    (hq : ∀ h' t' t1 dx, (∀ b o, b ≠ e → hp.get? b = some o → h'.get? b = some o) → hp.objs.size ≤ dx → h'.get? e = some { cls := .ref C, dict := some dx, data := .fields #[.ref t1, .none, .none, .none, .bool false, .none] } →
      h'.Ns1 dx (fun y => if y = f then some u else none) → R (.ok (.ret .none)) ⟨h', g, d, t', os⟩) :
    codeAny (model P w) A (.call (.ref fI) ⟨[.ref e, u], []⟩) R ⟨hp, g, d, t, os⟩ := by
  obtain ⟨oc, dV, kV, doc, pm, ct, od, an, osl, cc, cda, edv, lk, hcd, hcc, hco⟩ := T.fd
  obtain ⟨p0, p1, p2, p3, p4, p5, p6, p7, p8, p9, j, hbody, hev, hsw⟩ := S.body
  obtain ⟨ar, har, hars⟩ := S.ar
  obtain ⟨cd, hcls, hdd⟩ := T.cls
  have X : K.In hp := Mo.kin.keeps kb
  have hle : e < hp.objs.size := Heap.lt_size he
  refine ks_codeAny_call_defAt (fd := ksFn "__init__" qual (defArgs st) (defBody st) (defScope st) dV kV doc pm an (.ref cda) ct cc) (body := defBody st) (binds := [("self", .ref e), (pv, u)]) hroom (X _ _ lk) rfl (Mo.nolimit.keeps kb) (codeRec_of X hcd) rfl
    (S.bind _ _ _ _ _ _ _ _ _ _ _ edv) S.cell (fun x hx => ?_) (fun h0 hns k0 => ?_) S.co S.gen S.k
  · rcases List.mem_cons.mp hx with rfl | hx
    · exact S.ka
    · rw [List.mem_singleton.mp hx]; exact S.kv
  obtain ⟨hi, pl, hev⟩ := hev hp.objs.size fI cda cc
  have nsv : (("self" : Str) == pv) = false := by simpa using S.nv.symm
  have hself : (fun x => List.lookup x (List.reverse [(("self" : Str), Value.ref e), (pv, u)])) "self" = some (.ref e) := by
    show List.lookup ("self" : Str) [(pv, u), ("self", .ref e)] = _
    simp [List.lookup, nsv]
  have hval : (fun x => List.lookup x (List.reverse [(("self" : Str), Value.ref e), (pv, u)])) pv = some u := by
    show List.lookup pv [(pv, u), ("self", .ref e)] = _
    simp [List.lookup]
  have kb0 : ∀ b o, base.get? b = some o → h0.get? b = some o := fun b o z => k0 b o (kb b o z)
  obtain ⟨oL, es, ep, hL, rL⟩ := hns
  have hLe : hp.objs.size ≠ e := Nat.ne_of_gt hle
  rw [hbody]
  refine ks_wpAt_execs_cons (super_init (body := [_, _]) T Mo kb0 lk hcc hco ⟨oL, es, ep, hL, rL⟩ hself (k0 _ _ he) har hars S.ks S.kc S.ka S.k hi hev fun h1 t' t1 k1 e1 => ?_)
  have kb1 : ∀ b o, base.get? b = some o → h1.get? b = some o := fun b o z => k1 b o (fun q => by rw [q, hbe] at z; cases z) (kb0 b o z)
  have X1 : K.In h1 := Mo.kin.keeps kb1
  have hns1 : h1.Ns hp.objs.size (fun x => List.lookup x (List.reverse [(("self" : Str), Value.ref e), (pv, u)])) := ⟨oL, es, ep, k1 _ _ hLe hL, rL⟩
  dsimp only
  refine wpAt_of_wpAny (wpAny_execs_cons ?_)
  refine plainObj_wpAny_Assign_Attribute ?_ (hsw _ _ _ _)
  refine wpAny_Name (wpAny_loadName_local S.k S.kv hns1 hval ?_) S.dv
  refine wpAny_Name (wpAny_loadName_local S.k S.ka hns1 hself ?_) (by decide)
  refine exc_set T.SF X1 e1 T.sa T.ov T.tk hcls hdd fun h2 t2 dx k2 hd ne e2 n2 => ?_
  refine wpAny_execs_nil ?_
  refine hq h2 t2 t1 dx (fun b o hb z => k2 b o hb (k1 b o hb (k0 b o z))) ?_ e2 n2
  exact Nat.le_trans (Nat.le_of_lt (Heap.lt_size (k1 _ _ hLe hL))) hd
end

section
variable {X : Cx} {C fI : Addr} {st : Stmt} {qual f pv msg x : Str} {B newId initId : String} {bmB : List Value} {e : Expr} {te : TE} {p pos : Pos}
def tIni (C : Addr) (f : Str) (te : TE) : St → Hp → XK → Prop := fun σ H Q => te σ H fun v H1 => ∀ dx, H1 dx = none → Q (.ref C) (some dx) (upd H1 dx (.xd [(f, v)]))
theorem pmk_ini (T : IniC X.prog X.K X.mg C fI st qual f B newId initId bmB) (S : IniS st qual f pv msg) (r : Raises X (.ref C)) (kC : PySem.W.keepIn X.K (.ref C) = true) (hr : Room 1 X.A) (hg : Gl X x) (hm : X.mg x = some (.ref C)) (he : PE X e te)
    (hdb : (x == ("__debug__" : Str)) = false := by decide) (hst : starEach [e] X.env = (false, eval e X.env) :: starEach [] X.env := by rfl) (hpl : (backTo pos (starEach [] X.env)).any (·.1) = false := by rfl) :
    PMk X (.Call (.Name x p) [e] [] pos) (tIni C f te) := by
  intro pins s σ H Q I h
  refine wpAny_Call_Name_kw (ld_glob I hg hm ?_ hdb)
  have ha : PA X [e] (tCons te tNil) := pa_cons he pa_nil hst
  refine PySem.W.callWith_K (h₀ := X.base) I.ok.mod.kin kC (thn (ha.run pos pins s σ H (fun vs H1 => match vs with | [v] => ∀ dx, H1 dx = none → Q (.ref C) (some dx) (upd H1 dx (.xd [(f, v)])) | _ => False) I h) fun us s1 hh => ?_) hst hpl
  obtain ⟨vs, H1, I1, r1, q⟩ := hh
  refine ⟨I1.kIn, ?_⟩
  cases r1 with
  | nil => exact q.elim
  | cons ru rn =>
   cases rn with
   | cons _ _ => exact q.elim
   | nil =>
    rename_i v u
    show wpAny _ _ (call (.ref C) [u]) _ _ _
    obtain ⟨hp, g, dr, tk, os⟩ := s1
    obtain ⟨nm, N', qn, bs, bm, hdct, sn, sub, ab, col, dd, k0, k1, k2, k3, k5, hC, hT⟩ := PySem.W.excInit_of I1.kIn T.q
    have kk : ∀ b o, hp.get? b = some o → ((hp.push (PySem.W.kdv_tup [u])).push (HandSPX.excO C hp.objs.size)).get? b = some o := fun b o e => Heap.get?_push_of_some _ (Heap.get?_push_of_some _ e)
    have hget : ((hp.push (PySem.W.kdv_tup [u])).push (HandSPX.excO C hp.objs.size)).get? (hp.objs.size + 1) = some (HandSPX.excO C hp.objs.size) := by heap_get
    have hnone : ∀ n, hp.get? (hp.objs.size + n) = none := fun n => Heap.get?_none_of_le (Nat.le_add_right _ _)
    have hbe : X.base.get? (hp.objs.size + 1) = none := by
      cases z : X.base.get? (hp.objs.size + 1) with
      | none => rfl
      | some o =>
        have y := I1.bk _ _ z
        rw [hnone 1] at y
        cases y
    refine wpAny_call (HandSPX.call_own T.F hT hC (PySem.W.looks_findIn I1.kIn T.iC) (fun self => PySem.W.bind_fn I1.kIn self T.tI) (by show 1 ≤ sizeLine; rw [sizeLine_eq]; omega) ?_)
    refine ini_run T S I1.ok.mod (fun b o z => kk b o (I1.bk b o z)) hbe (hr.make C [u] []).depth hget fun h2 t2 t1 dx k2 hd e2 n2 => ?_
    obtain ⟨G, g1, g2⟩ := restrict h2 fun b => decide (b ≠ hp.objs.size + 1)
    have gk : ∀ b, b ≠ hp.objs.size + 1 → G.get? b = h2.get? b := fun b hb => g1 b (decide_eq_true hb)
    have ge : G.get? (hp.objs.size + 1) = none := g2 _ (by simp)
    have nha : ∀ {b : Addr} {o : Obj}, hp.get? b = some o → b ≠ hp.objs.size + 1 := fun {b o} z => Nat.ne_of_lt (Nat.lt_succ_of_lt (Heap.lt_size z))
    have hs2 : ((hp.push (PySem.W.kdv_tup [u])).push (HandSPX.excO C hp.objs.size)).objs.size = hp.objs.size + 2 := by rw [Heap.size_push, Heap.size_push]
    have hsz : hp.objs.size ≤ dx := Nat.le_trans (Nat.le_trans (Nat.le_add_right _ 2) (Nat.le_of_eq hs2.symm)) hd
    have hdx : H1 dx = none := I1.hok.fresh hsz
    have hda : dx ≠ hp.objs.size + 1 := fun z => by
      obtain ⟨o, es, ep, e1, e3, _⟩ := n2
      rw [z, e2] at e1
      have z2 := Option.some.inj e1
      subst z2
      cases e3
    have J : Inv X pins σ (upd H1 dx (.xd [(f, v)])) ⟨G, g, dr, t2, os⟩ := I1.laid (t' := t2) (a := dx) (o := .xd [(f, v)]) (h' := G) (fun b o z => by rw [gk b (nha z)]; exact k2 b o (nha z) (kk b o z)) hsz
      ⟨_, n2.at fun o y => (gk dx hda).trans y, relO_put (fs := []) ru fun g => True.intro⟩
    refine ⟨rfl, hp.objs.size + 1, _, _, ⟨G, g, dr, t2, os⟩, _, .ref C, some dx, rfl, J, fun b o z => ?_, ge, e2, ⟨rfl, rfl⟩, rfl, rfl, ?_, rfl, I1.bare, r, q dx hdx⟩
    · by_cases hba : b = hp.objs.size + 1
      · rw [hba, ge] at z
        cases z
      · exact (gk b hba).symm.trans z
    · rw [upd_ne (Ne.symm hda)]
      exact I1.hok.fresh (Nat.le_succ _)
end
end DM

namespace DM
open PySem PySem.Spec L2
open PyProof.Rows hiding St

abbrev Gv.fx (G : Gv) (k : Nat) (a : Addr) : Gv := { G with fa := fun n => if n = k then some a else G.fa n }
mutual
def noF (k : Nat) : D → Bool
  | .fn n => decide (n ≠ k)
  | .tup ds => noFs k ds
  | .pr ds => noFs k ds
  | .lst ds => noFs k ds
  | .kst ds => noFs k ds
  | .brw ds => noFs k ds
  | .non => true
  | .bl _ => true
  | .int _ => true
  | .str _ => true
  | .ref _ => true
  | .ty _ => true
  | .edc => true
def noFs (k : Nat) : List D → Bool
  | [] => true
  | d :: ds => noF k d && noFs k ds
end
section
variable {G : Gv} {k : Nat} {a : Addr} {θ : List Addr} {H : Hp}
mutual
theorem RD.fx (hk : G.fa k = none) : ∀ {d : D} {v : V}, RD G θ H d v → RD (G.fx k a) θ H d v
  | _, _, .non => .non
  | _, _, .bl b => .bl b
  | _, _, .int i => .int i
  | _, _, .str s => .str s
  | _, _, .ty s => .ty s
  | _, _, .tup (ds := ds) k1 k2 => .tup k1 (RDs.fx hk k2)
  | _, _, .pr (ds := ds) k1 k2 => .pr k1 (RDs.fx hk k2)
  | _, _, .lst (ds := ds) k0 k1 k2 k3 => .lst k0 k1 k2 (RDs.fx hk k3)
  | _, _, .brw (ds := ds) k1 k2 k3 => .brw k1 k2 (RDs.fx hk k3)
  | _, _, .kst (ds := ds) k1 k2 => .kst k1 (RDs.fx hk k2)
  | _, _, .ref h => .ref h
  | _, _, .edc k0 k1 k2 => .edc k0 k1 k2
  | _, _, .fn (n := n) h => .fn (by
      show (if n = k then some a else G.fa n) = _
      by_cases e : n = k
      · rw [e, hk] at h; cases h
      · rw [if_neg e]; exact h)
theorem RDs.fx (hk : G.fa k = none) : ∀ {ds : List D} {vs : List V}, RDs G θ H ds vs → RDs (G.fx k a) θ H ds vs
  | _, _, .nil => .nil
  | _, _, .cons r t => .cons (RD.fx hk r) (RDs.fx hk t)
end
mutual
theorem RD.unfx : ∀ {d : D} {v : V}, RD (G.fx k a) θ H d v → noF k d = true → RD G θ H d v
  | _, _, .non, _ => .non
  | _, _, .bl b, _ => .bl b
  | _, _, .int i, _ => .int i
  | _, _, .str s, _ => .str s
  | _, _, .ty s, _ => .ty s
  | _, _, .tup (ds := ds) k1 k2, c => .tup k1 (RDs.unfx k2 (by simpa [noF] using c))
  | _, _, .pr (ds := ds) k1 k2, c => .pr k1 (RDs.unfx k2 (by simpa [noF] using c))
  | _, _, .lst (ds := ds) k0 k1 k2 k3, c => .lst k0 k1 k2 (RDs.unfx k3 (by simpa [noF] using c))
  | _, _, .brw (ds := ds) k1 k2 k3, c => .brw k1 k2 (RDs.unfx k3 (by simpa [noF] using c))
  | _, _, .kst (ds := ds) k1 k2, c => .kst k1 (RDs.unfx k2 (by simpa [noF] using c))
  | _, _, .ref h, _ => .ref h
  | _, _, .edc k0 k1 k2, _ => .edc k0 k1 k2
  | _, _, .fn (n := n) h, c => .fn (by
      have e : n ≠ k := by simpa [noF] using c
      have h' : (if n = k then some a else G.fa n) = _ := h
      rwa [if_neg e] at h')
theorem RDs.unfx : ∀ {ds : List D} {vs : List V}, RDs (G.fx k a) θ H ds vs → noFs k ds = true → RDs G θ H ds vs
  | _, _, .nil, _ => .nil
  | _, _, .cons r t, c => by
    simp only [noFs, Bool.and_eq_true] at c
    exact .cons (RD.unfx r c.1) (RDs.unfx t c.2)
end
theorem RK.fx (hk : G.fa k = none) : ∀ {r : List (Key × D)} {s : List (Key × V)}, RK G θ H r s → RK (G.fx k a) θ H r s
  | _, _, .nil => .nil
  | _, _, .cons h t => .cons (h.fx hk) (RK.fx hk t)
theorem RK.unfx : ∀ {r : List (Key × D)} {s : List (Key × V)}, RK (G.fx k a) θ H r s → (r.all fun p => noF k p.2) = true → RK G θ H r s
  | _, _, .nil, _ => .nil
  | _, _, .cons h t, c => by
    rw [List.all_cons, Bool.and_eq_true] at c
    exact .cons (h.unfx c.1) (RK.unfx t c.2)
def noC (k : Nat) : C → Bool
  | .lst ds => noFs k ds
  | .dct kvs => kvs.all fun p => noF k p.2
  | .rev ds _ => noFs k ds
theorem noFs_rev {k : Nat} : ∀ ds : List D, noFs k ds.reverse = noFs k ds := by
  have app : ∀ a b : List D, noFs k (a ++ b) = (noFs k a && noFs k b) := by
    intro a
    induction a with
    | nil => intro b; rfl
    | cons x r ih =>
      intro b
      show (noF k x && noFs k (r ++ b)) = ((noF k x && noFs k r) && noFs k b)
      rw [ih, Bool.and_assoc]
  intro ds
  induction ds with
  | nil => rfl
  | cons x r ih =>
    rw [List.reverse_cons, app, ih]
    show (noFs k r && (noF k x && true)) = (noF k x && noFs k r)
    rw [Bool.and_true, Bool.and_comm]
theorem RC.fx (hk : G.fa k = none) {c : C} {b : Addr} (h : RC G θ H c b) : RC (G.fx k a) θ H c b := by
  cases c with
  | lst ds => obtain ⟨xs, h1, h2⟩ := h; exact ⟨xs, h1, h2.fx hk⟩
  | dct kvs => obtain ⟨xs, h1, h2⟩ := h; exact ⟨xs, h1, h2.fx hk⟩
  | rev rs n => obtain ⟨xs, h1, h2, h3⟩ := h; exact ⟨xs, h1, h2.fx hk, h3⟩
theorem RC.unfx {c : C} {b : Addr} (h : RC (G.fx k a) θ H c b) (n : noC k c = true) : RC G θ H c b := by
  cases c with
  | lst ds => obtain ⟨xs, h1, h2⟩ := h; exact ⟨xs, h1, h2.unfx n⟩
  | dct kvs => obtain ⟨xs, h1, h2⟩ := h; exact ⟨xs, h1, h2.unfx n⟩
  | rev rs m => obtain ⟨xs, h1, h2, h3⟩ := h; exact ⟨xs, h1, h2.unfx (by rw [noFs_rev]; exact n), h3⟩
def noS (k : Nat) (S : Store) : Bool := S.all (noC k)
theorem Rel.fx (hk : G.fa k = none) {F : Fr0} {S : Store} (R0 : Rel G F θ S H) : Rel (G.fx k a) F θ S H :=
  { R0 with cells := fun n b c h1 h2 => (R0.cells n b c h1 h2).fx hk }
theorem Rel.unfx {F : Fr0} {S : Store} (R0 : Rel (G.fx k a) F θ S H) (n : noS k S = true) : Rel G F θ S H :=
  { R0 with cells := fun m b c h1 h2 => (R0.cells m b c h1 h2).unfx (List.all_eq_true.mp n c (List.mem_of_getElem? h2)) }
def noE (k : Nat) (ρ : Env) : Bool := ρ.all fun o => match o with | some d => noF k d | none => true
theorem RS.fx (hk : G.fa k = none) : ∀ {ρ : Env} {σ : St}, RS G θ H ρ σ → RS (G.fx k a) θ H ρ σ
  | _, _, .nil => .nil
  | _, _, .no t => .no (RS.fx hk t)
  | _, _, .yes r t => .yes (r.fx hk) (RS.fx hk t)
theorem RS.unfx : ∀ {ρ : Env} {σ : St}, RS (G.fx k a) θ H ρ σ → noE k ρ = true → RS G θ H ρ σ
  | _, _, .nil, _ => .nil
  | _, _, .no t, c => by
    simp only [noE, List.all_cons, Bool.true_and] at c
    exact .no (RS.unfx t c)
  | _, _, .yes r t, c => by
    simp only [noE, List.all_cons, Bool.and_eq_true] at c
    exact .yes (r.unfx c.1) (RS.unfx t c.2)
end
/-- another frame -/
theorem Rel.frame {G : Gv} {F : Fr0} {θ θ' : List Addr} {S S' : Store} {H H' : Hp} (R0 : Rel G F θ S H) (R1 : Rel G ⟨H, θ⟩ θ' S' H') : Rel G F θ' S' H' :=
  { R1 with fr := R0.fr.trans R1.fr }
theorem Rel.here {G : Gv} {F : Fr0} {θ : List Addr} {S : Store} {H : Hp} (R0 : Rel G F θ S H) : Rel G ⟨H, θ⟩ θ S H := { R0 with fr := .refl }
end DM

namespace DM
open PySem PySem.Spec L2
open PyProof.Rows hiding St

abbrev Clause := Value × Option Nat × (Addr → Value → Option Addr → TS)
/-- the ends behind a suite whose name i goes -/
def endsAs (D : Ends) : Option Nat → Ends
  | none => D
  | some i => { nx := fun σ H => D.nx (σ.set i none) H, rt := D.rt, bk := fun σ H => D.bk (σ.set i none) H, ct := fun σ H => D.ct (σ.set i none) H }
def slotAs (σ : St) (a : Addr) : Option Nat → St
  | none => σ
  | some i => σ.set i (some (.ref a))
def wMix (K : PySem.W.Frag) (Wout : WX) (D : Ends) : List Clause → WX
  | [] => Wout
  | q :: r => fun cls d σ H => ∃ b, PySem.W.exmOne K cls q.1 = some b ∧ (b = true → ∀ a, H a = none → q.2.2 a cls d (endsAs D q.2.1) (slotAs σ a q.2.1) H) ∧ (b = false → wMix K Wout D r cls d σ H)
/-- a clause's name -/
def NameAs (X : Cx) (o : Option Nat) (n : Option Str) : Prop := match o, n with
  | none, none => True
  | some i, some n => X.N.Nodup ∧ X.N[i]? = some n ∧ X.env.kindOf n = some .local
  | _, _ => False
inductive HdsX (X : Cx) : List ExceptHandler → List Clause → Prop
  | nil : HdsX X [] []
  | cons {x : Str} {c : Value} {o : Option Nat} {n : Option Str} {ts : Addr → Value → Option Addr → TS} {b₀ : Stmt} {suite : List Stmt} {np pos' : Pos} {hds : List ExceptHandler} {l : List Clause} (hc : Names X x c) (hn : NameAs X o n)
      (hsu : ∀ (a : Addr) (oe : Obj) (cls : Value) (d : Option Addr) (pn : List (Addr × Obj)), Zc cls d oe → (∃ vs, oe.data = .fields vs) → PSs (X.suite a ((a, oe) :: pn)) (b₀ :: suite) (ts a cls d)) (r : HdsX X hds l) :
      HdsX X (.ExceptHandler (some (.Name x np)) n (b₀ :: suite) pos' :: hds) ((c, o, ts) :: l)
section
variable {X : Cx} {body : List Stmt} {h₀ : ExceptHandler} {hds : List ExceptHandler} {l : List Clause} {pos : Pos} {tb : WX → TS} {Wout : WX}
theorem ps_tryX (hs : X.stack = X.env :: X.outer) (hf : X.env.frame = some X.env.locals) (tk : Takes X Wout)
    (hb : ∀ (W : WX) (pn : List (Addr × Obj)) (xe : Value → Shared → Prop), Takes (X.tr pn xe) W → PassesOwn (model X.prog X.w) X.A X.env xe → PSs (X.tr pn xe) body (tb W))
    (hh : HdsX X (h₀ :: hds) l) : PS X (.Try body (h₀ :: hds) [] [] pos) (fun D σ H => tb (wMix X.K Wout D l) D σ H) := by
  refine ⟨fun pins s σ H D I h => wpAny_Try_except ?_⟩
  have ok := I.ok
  have hfr : X.A.frames = some (X.env :: X.outer) := by rw [ok.frames, hs]
  refine wpAny_mono ((hb _ (X.pn ++ pins) (fun e s₁ => wpAny (model X.prog X.w) X.A (noteFrame e X.env) (fun _ s₂ => wpAny (model X.prog X.w) X.A (setFlight e none) (fun _ s₃ =>
    wpAny (model X.prog X.w) X.A (handleBy e X.env (h₀ :: hds)) (SP X pins D) X.xe s₃) X.xe s₂) X.xe s₁) (fun u s' xx => ?_) PassesOwn.looking).run [] s σ H D (I.toTry _) h) (fun f s1 hsp => ?_) (fun _ _ z => z)
  · obtain ⟨a, B, sI, pins', σ', H', cls, d, rfl, J', nb, up, sky, na, os, ag, w⟩ := xx
    have J : Inv X pins σ' H' sI := J'.ofTry ok
    rw [show (X.tr (X.pn ++ pins) _).stack = X.env :: X.outer from hs] at sky
    show wpAny (model X.prog X.w) X.A (noteFrame (.ref a) X.env) _ _ _
    refine Sky.land Zc.steady hfr hf sky fun h3 fl3 up3 => ?_
    have J3 : Inv X pins σ' H' { s' with heap := h3 } := J.landed nb fl3.1 (up.trans up3) os ag
    obtain ⟨oe3, vs3, he3, hz3, hd3⟩ := fl3.there
    have nfr : a ∉ frs (X.env :: X.outer) := fun hm => by
      obtain ⟨_, o', e', hnf⟩ := fl3.2.2.1.mem hm
      rw [he3] at e'; cases e'
      exact hnf _ hd3
    have nL : a ≠ X.env.locals := fun z => nfr (List.mem_filterMap.mpr ⟨X.env, List.mem_cons_self, by rw [hf, z]⟩)
    have nF : a ∉ X.fs := fun hm => by
      obtain ⟨e, he, q⟩ := List.mem_filterMap.mp hm
      exact nfr (List.mem_filterMap.mpr ⟨e, List.mem_cons_of_mem _ he, q⟩)
    have S3 := J3.suite he3 hd3 na nL nF
    suffices go : ∀ {hs' : List ExceptHandler} {l' : List Clause}, HdsX X hs' l' → wMix X.K Wout D l' cls d σ' H' →
        wpAny (model X.prog X.w) X.A (handleBy (.ref a) X.env hs') (SP X pins D) X.xe { s' with heap := h3 } from go hh w
    intro hs' l' hk
    induction hk with
    | nil =>
      intro w
      obtain ⟨k1, k2, k3, oe, vs, T, oT, ts', he, hz, hd, h1, hr⟩ := id fl3
      refine wpAny_handleBy_nil ?_
      unfold PySem.passOn
      refine wpAny_bind (wpAny_field he hd h1 ?_)
      rw [if_neg (show ¬ ((Value.ref T == Value.none) = true) by simp)]
      have fin : wpAny (model X.prog X.w) X.A (setFlight (.ref a) X.env.frame) (fun _ s4 => wpAny (model X.prog X.w) X.A (throw (.ref a) : Sem Flow) (SP X pins D) X.xe s4) X.xe { s' with heap := h3 } := by
        rw [hf]
        exact HandSPX.setFlight_upZ fl3 fun h4 hh4 up4 => wpAny_throw (tk _ _ ⟨a, B, sI, pins, σ', H', cls, d, rfl, J, nb, (up.trans up3).trans up4, .inr (.inr (by rw [hs]; exact hh4)), na, os, ag, w⟩)
      first
        | exact wpAny_bind (wpAny_pure (wpAny_bind fin))
        | exact wpAny_bind fin
    | @cons x c o n ts b₀ suite np pos' hds2 l2 hc hn hsu r ih =>
      intro w
      obtain ⟨b, hb1, hyes, hno⟩ := w
      refine wpAny_handleBy_cons (codeAny_handlers_test ?_) (by intro q; cases q)
      have LT : PySem.W.Looks (model X.prog X.w) h3 (typeOf (.ref a)) cls := fun A Q E s k q => wpAny_typeOf_ref (k _ _ he3) (by rw [hz3.1]; exact q)
      have LM := PySem.W.exm_one (M := model X.prog X.w) (J3.kIn) LT hb1
      have test : ∀ {Q : Value → Shared → Prop} {E : Value → Shared → Prop}, Q c { s' with heap := h3 } → wpAny (model X.prog X.w) (X.A.mark (some (.ref a))) (eval (.Name x np) X.env) Q E { s' with heap := h3 } := fun {Q E} q => by
        obtain ⟨hg, hdbg, hm | ⟨hm, hv, hnn⟩⟩ := hc
        · exact ld_glob (X := X.suite a ((a, oe3) :: (X.pn ++ pins))) S3 hg hm q hdbg
        · exact ld_blt (X := X.suite a ((a, oe3) :: (X.pn ++ pins))) S3 hg hm hv q hnn hdbg
      refine test (LM.here ?_)
      cases b with
      | false =>
        show wpAny _ X.A (handleBy (.ref a) X.env hds2) _ _ _
        exact ih (hno rfl)
      | true =>
        cases o with
        | none =>
          cases n with
          | some n => exact hn.elim
          | none =>
            refine codeAny_handlers_suite (HandSPX.lands_againZ fl3 fun h4 fl4 up4 => ?_)
            have J4 : Inv X pins σ' H' { s' with heap := h4 } := J.landed nb fl4.1 ((up.trans up3).trans up4) os ag
            obtain ⟨oe4, vs4, he4, hz4, hd4⟩ := fl4.there
            have S4 := J4.suite he4 hd4 na nL nF
            refine wpAny_mono ((hsu a oe4 cls d (X.pn ++ pins) hz4 ⟨_, hd4⟩).run [] _ _ H' _ S4 (hyes rfl a na)) (fun f s6 hsp => ?_) (fun _ _ z => False.elim z)
            cases f with
            | ret u => obtain ⟨v6, σ6, H6, S6, r6, q6⟩ := hsp; exact ⟨_, _, _, S6.unsuite ok, r6, q6⟩
            | next => obtain ⟨σ6, H6, S6, q6⟩ := hsp; exact ⟨_, _, S6.unsuite ok, q6⟩
            | brk => obtain ⟨σ6, H6, S6, q6⟩ := hsp; exact ⟨_, _, S6.unsuite ok, q6⟩
            | cont => obtain ⟨σ6, H6, S6, q6⟩ := hsp; exact ⟨_, _, S6.unsuite ok, q6⟩
        | some i =>
          cases n with
          | none => exact hn.elim
          | some n =>
            obtain ⟨hN, hi, hln⟩ := hn
            refine codeAny_handlers_suite_as (HandSPX.lands_againZ fl3 fun h4 fl4 up4 => ?_)
            have J4 : Inv X pins σ' H' { s' with heap := h4 } := J.landed nb fl4.1 ((up.trans up3).trans up4) os ag
            obtain ⟨oe4, vs4, he4, hz4, hd4⟩ := fl4.there
            have S4 := J4.suite he4 hd4 na nL nF
            have hloc : Loc X.env.scope n := .inl hln
            refine store_ok (X := X.suite a ((a, oe4) :: (X.pn ++ pins))) (v := .ref a) S4 hN hi hloc rfl (fun s5 S5 => ?_) (.inr hln)
            refine wpAny_mono ((hsu a oe4 cls d (X.pn ++ pins) hz4 ⟨_, hd4⟩).run [] s5 _ H' _ S5 (hyes rfl a na)) (fun f s6 hsp => ?_) (fun _ _ z => False.elim z)
            have end_ : ∀ {σ6 : St} {H6 : Hp} {Q : Shared → Prop}, Inv (X.suite a ((a, oe4) :: (X.pn ++ pins))) [] σ6 H6 s6 → (∀ s7, Inv X pins (σ6.set i none) H6 s7 → Q s7) →
                wpAny (model X.prog X.w) X.A (do bindName X.env n .none; unbindBehindTheSuite X.env n pos') (fun _ s7 => Q s7) X.xe s6 := fun {σ6 H6 Q} S6 hq => gone_ok (S6.unsuite ok) hN hi hln hq
            cases f with
            | ret u => obtain ⟨v6, σ6, H6, S6, r6, q6⟩ := hsp; exact end_ S6 fun s7 J7 => ⟨_, _, _, J7, r6, q6⟩
            | next => obtain ⟨σ6, H6, S6, q6⟩ := hsp; exact end_ S6 fun s7 J7 => ⟨_, _, J7, q6⟩
            | brk => obtain ⟨σ6, H6, S6, q6⟩ := hsp; exact end_ S6 fun s7 J7 => ⟨_, _, J7, q6⟩
            | cont => obtain ⟨σ6, H6, S6, q6⟩ := hsp; exact end_ S6 fun s7 J7 => ⟨_, _, J7, q6⟩
  · cases f with
    | next => obtain ⟨σ', H', J', q⟩ := hsp; exact wpAny_execs_nil ⟨σ', H', J'.ofTry ok, q⟩
    | brk => obtain ⟨σ', H', J', q⟩ := hsp; exact ⟨σ', H', J'.ofTry ok, q⟩
    | cont => obtain ⟨σ', H', J', q⟩ := hsp; exact ⟨σ', H', J'.ofTry ok, q⟩
    | ret u => obtain ⟨v, σ', H', J', r, q⟩ := hsp; exact ⟨v, σ', H', J'.ofTry ok, r, q⟩
end
end DM

namespace DM
open PySem PySem.Spec L2
open PyProof.Rows hiding St

section
variable {X : Cx} {B : Bv} {pos : Pos}
def sRaise0 (c : Nat) : SM := fun ρ S => .exc ⟨c, none⟩ ρ S
def sRaise1 (c : Nat) (m : M D) : SM := fun ρ S => (m ρ S).toS ρ fun d S1 => .exc ⟨c, some d⟩ ρ S1
theorem ds_raise0 {c : Nat} {C : Addr} {e : Expr} (hc : X.calm = true) (tk : Takes X B.W) (hC : B.G.ca c = some C) (he : PMk X e (fun _ H Q => Q (.ref C) none H)) : PS X (.Raise (some e) none pos) (rdS B (sRaise0 c)) :=
  PS.imp (ps_raise hc tk he) fun D σ H ⟨ρ, S, θ, R0, rs, f⟩ => f θ σ H (.ref C) none .refl R0 rs ⟨⟨C, hC, rfl⟩, fun d e => by cases e⟩
theorem ds_raise1 {c : Nat} {C : Addr} {f : Str} {e : Expr} {m : M D} (hc : X.calm = true) (tk : Takes X B.W) (hC : B.G.ca c = some C) (hn : B.G.cn c = f) (he : PMk X e (tIni C f (rdE B m))) : PS X (.Raise (some e) none pos) (rdS B (sRaise1 c m)) :=
  PS.imp (ps_raise hc tk he) fun D σ H ⟨ρ, S, θ, R0, rs, f0⟩ => by
    refine ⟨ρ, S, θ, R0, rs, FinS.bind rs f0 fun d S1 θ1 H1 v _ e1 R1 r1 f1 => fun dx hdx => ?_⟩
    have k : Ext θ1 H1 θ1 (upd H1 dx (.xd [(f, v)])) := .of_keep (keep_new hdx)
    refine f1 θ1 σ _ (.ref C) (some dx) k (R1.laid hdx) ((rs.ext e1).ext k) ⟨⟨C, hC, rfl⟩, fun d' e => ?_⟩
    cases e
    exact ⟨dx, _, v, rfl, upd_same, by rw [hn]; simp [List.lookup], r1.ext k⟩

/-- a clause: which classes it takes, its name's slot, its suite -/
structure Hd where
  t : Nat → Option Bool
  o : Option Nat
  su : Ex → SM
/-- the slot of the error that is held -/
def kX : Nat := 1000
def SR.noexc : SR → SR
  | .exc _ _ _ => .bad
  | r => r
/-- behind the suite the name goes -/
def unAs (i : Nat) : SR → SR
  | .rt d S => if (noF kX d && noS kX S) = true then .rt d S else .bad
  | .nx ρ S => if (noE kX (ρ.set i none) && noS kX S) = true then .nx (ρ.set i none) S else .bad
  | _ => .bad
def tryH : List Hd → Ex → SM
  | [], x => fun ρ S => .exc x ρ S
  | h :: r, x => fun ρ S => match h.t x.c with
    | some true => (match h.o with
      | none => (h.su x ρ S).noexc
      | some i => unAs i (h.su x (ρ.set i (some (.fn kX))) S))
    | some false => tryH r x ρ S
    | none => .bad
def sTry (b : SM) (hs : List Hd) : SM := fun ρ S => match b ρ S with
  | .exc x ρ1 S1 => tryH hs x ρ1 S1
  | r => r
theorem RX.ext {G : Gv} {θ θ' : List Addr} {H H' : Hp} {F : Fr0} {S : Store} {x : Ex} {c : Value} {a : Option Addr} (R0 : Rel G F θ S H) (e : Ext θ H θ' H') (h : RX G θ H x c a) : RX G θ' H' x c a :=
  ⟨h.cls, fun d q => by
    obtain ⟨dd, fs, v, e1, e2, e3, e4⟩ := h.val d q
    have nd : dd ∉ θ := fun m => by
      obtain ⟨n, c, _, _, r⟩ := R0.mem_some m
      cases c with
      | lst ds => obtain ⟨xs, h1, _⟩ := r; rw [e2] at h1; cases h1
      | dct kvs => obtain ⟨xs, h1, _⟩ := r; rw [e2] at h1; cases h1
      | rev rs n => obtain ⟨xs, h1, _⟩ := r; rw [e2] at h1; cases h1
    exact ⟨dd, fs, v, e1, e.keep.st _ _ e2 (.inl nd) trivial, e3, e4.ext e⟩⟩
theorem RX.fx {G : Gv} {k : Nat} {a : Addr} {θ : List Addr} {H : Hp} {x : Ex} {c : Value} {o : Option Addr} (hk : G.fa k = none) (h : RX G θ H x c o) : RX (G.fx k a) θ H x c o :=
  ⟨h.cls, fun d q => by
    obtain ⟨dd, fs, v, e1, e2, e3, e4⟩ := h.val d q
    exact ⟨dd, fs, v, e1, e2, e3, e4.fx hk⟩⟩
theorem RX.unfx {G : Gv} {k : Nat} {a : Addr} {θ : List Addr} {H : Hp} {x : Ex} {c : Value} {o : Option Addr} (h : RX (G.fx k a) θ H x c o) (n : ∀ d, x.v = some d → noF k d = true) : RX G θ H x c o :=
  ⟨h.cls, fun d q => by
    obtain ⟨dd, fs, v, e1, e2, e3, e4⟩ := h.val d q
    exact ⟨dd, fs, v, e1, e2, e3, e4.unfx (n d q)⟩⟩
/-- no error leaves -/
abbrev Bv.quiet (B : Bv) (G : Gv) (F : Fr0) : Bv := ⟨G, F, fun _ _ _ _ => False⟩
abbrev selG (B : Bv) (o : Option Nat) (a : Addr) : Gv := match o with
  | none => B.G
  | some _ => B.G.fx kX a
/-- a suite's reading -/
def rdU (B : Bv) (o : Option Nat) (su : Ex → SM) (a : Addr) (cls : Value) (d : Option Addr) : TS := fun D σ H =>
  ∃ (x : Ex) (F : Fr0), (∀ θ H, Ext F.θ F.H θ H → RX B.G θ H x cls d) ∧ rdS (B.quiet (selG B o a) F) (su x) D σ H
/-- a clause's suite, told for each error -/
def SuOk (X : Cx) (B : Bv) (o : Option Nat) (su : Ex → SM) (suite : List Stmt) : Prop :=
  ∀ (a : Addr) (oe : Obj) (cls : Value) (d : Option Addr) (pn : List (Addr × Obj)) (x : Ex) (F : Fr0), Zc cls d oe → (∃ vs, oe.data = .fields vs) → (∀ θ H, Ext F.θ F.H θ H → RX B.G θ H x cls d) →
    PSs (X.suite a ((a, oe) :: pn)) suite (rdS (B.quiet (selG B o a) F) (su x))
inductive HdsD (X : Cx) (B : Bv) : List ExceptHandler → List Hd → Prop
  | nil : HdsD X B [] []
  | cons {x : Str} {c : Value} {o : Option Nat} {n : Option Str} {t : Nat → Option Bool} {su : Ex → SM} {b₀ : Stmt} {suite : List Stmt} {np pos' : Pos} {hds : List ExceptHandler} {hs : List Hd} (hc : Names X x c) (hn : NameAs X o n)
      (ht : ∀ k C b, B.G.ca k = some C → t k = some b → PySem.W.exmOne X.K (.ref C) c = some b) (hsu : SuOk X B o su (b₀ :: suite)) (r : HdsD X B hds hs) :
      HdsD X B (.ExceptHandler (some (.Name x np)) n (b₀ :: suite) pos' :: hds) (⟨t, o, su⟩ :: hs)
theorem FinS.quiet {θ : List Addr} {S : Store} {H : Hp} {r : SR} {D : Ends} (R0 : Rel B.G B.F θ S H) (f : FinS B θ H r.noexc D) : FinS (B.quiet B.G ⟨H, θ⟩) θ H r D := by
  cases r with
  | nx ρ S1 => exact fun θ' σ' H' e R1 rs => f θ' σ' H' e (R0.frame R1) rs
  | bk ρ S1 => exact fun θ' σ' H' e R1 rs => f θ' σ' H' e (R0.frame R1) rs
  | ct ρ S1 => exact fun θ' σ' H' e R1 rs => f θ' σ' H' e (R0.frame R1) rs
  | rt d S1 => exact fun θ' H' v e R1 r => f θ' H' v e (R0.frame R1) r
  | exc x ρ S1 => exact f.elim
  | bad => exact f
theorem FinS.unAs {θ : List Addr} {S : Store} {H : Hp} {r : SR} {D : Ends} {i : Nat} {a : Addr} (R0 : Rel B.G B.F θ S H) (f : FinS B θ H (DM.unAs i r) D) : FinS (B.quiet (B.G.fx kX a) ⟨H, θ⟩) θ H r (endsAs D (some i)) := by
  cases r with
  | nx ρ S1 =>
    intro θ' σ' H' e R1 rs
    have f' : FinS B θ H (if (noE kX (ρ.set i none) && noS kX S1) = true then .nx (ρ.set i none) S1 else .bad) D := f
    by_cases c : (noE kX (ρ.set i none) && noS kX S1) = true
    · rw [if_pos c] at f'
      rw [Bool.and_eq_true] at c
      exact f' θ' (σ'.set i none) H' e (R0.frame (R1.unfx c.2)) ((rs.set_none i).unfx c.1)
    · rw [if_neg c] at f'; exact f'.elim
  | rt d S1 =>
    intro θ' H' v e R1 r
    have f' : FinS B θ H (if (noF kX d && noS kX S1) = true then .rt d S1 else .bad) D := f
    by_cases c : (noF kX d && noS kX S1) = true
    · rw [if_pos c] at f'
      rw [Bool.and_eq_true] at c
      exact f' θ' H' v e (R0.frame (R1.unfx c.2)) (r.unfx c.1)
    · rw [if_neg c] at f'; exact f'.elim
  | bk ρ S1 => exact f.elim
  | ct ρ S1 => exact f.elim
  | exc x ρ S1 => exact f.elim
  | bad => exact f.elim
theorem hds_ok (hk : B.G.fa kX = none) {hds : List ExceptHandler} {hs : List Hd} (hh : HdsD X B hds hs) : ∃ l, HdsX X hds l ∧
    ∀ (D : Ends) (x : Ex) (ρ : Env) (S : Store) (θ : List Addr) (σ : St) (H : Hp) (cls : Value) (d : Option Addr), Rel B.G B.F θ S H → RS B.G θ H ρ σ → RX B.G θ H x cls d → FinS B θ H (tryH hs x ρ S) D → wMix X.K B.W D l cls d σ H := by
  induction hh with
  | nil => exact ⟨[], .nil, fun D x ρ S θ σ H cls d R0 rs rx f => f θ σ H cls d .refl R0 rs rx⟩
  | @cons x c o n t su b₀ suite np pos' hds hs hc hn ht hsu r ih =>
    obtain ⟨l, h1, h2⟩ := ih
    refine ⟨(c, o, rdU B o su) :: l, .cons hc hn (fun a oe cls d pn hz hv => ⟨fun pins s σ H D I ⟨x, F, rx, q⟩ => (hsu a oe cls d pn x F hz hv rx).run pins s σ H D I q⟩) h1, ?_⟩
    intro D x ρ S θ σ H cls d R0 rs rx f
    obtain ⟨C, e1, e2⟩ := rx.cls
    cases q : t x.c with
    | none => simp only [tryH, q] at f; exact f.elim
    | some b =>
      have eb := ht _ _ _ e1 q
      rw [← e2] at eb
      refine ⟨b, eb, fun hb a na => ?_, fun hb => ?_⟩
      · subst hb
        refine ⟨x, ⟨H, θ⟩, fun θ' H' e => rx.ext R0 e, ?_⟩
        cases o with
        | none =>
          simp only [tryH, q] at f
          exact ⟨ρ, S, θ, R0.here, rs, FinS.quiet R0 f⟩
        | some i =>
          simp only [tryH, q] at f
          exact ⟨ρ.set i (some (.fn kX)), S, θ, R0.here.fx hk, (rs.fx hk).set (.fn (show (if kX = kX then some a else B.G.fa kX) = some a from if_pos rfl)) i, FinS.unAs R0 f⟩
      · subst hb
        simp only [tryH, q] at f
        exact h2 D x ρ S θ σ H cls d R0 rs rx f
theorem ds_try {b : SM} {body : List Stmt} {h₀ : ExceptHandler} {hds : List ExceptHandler} {hs : List Hd} (hst : X.stack = X.env :: X.outer) (hfr : X.env.frame = some X.env.locals) (tk : Takes X B.W) (hk : B.G.fa kX = none)
    (hb : ∀ (W : WX) (pn : List (Addr × Obj)) (xe : Value → Shared → Prop), Takes (X.tr pn xe) W → PassesOwn (model X.prog X.w) X.A X.env xe → PSs (X.tr pn xe) body (rdS ⟨B.G, B.F, W⟩ b)) (hh : HdsD X B (h₀ :: hds) hs) :
    PS X (.Try body (h₀ :: hds) [] [] pos) (rdS B (sTry b hs)) := by
  obtain ⟨l, h1, h2⟩ := hds_ok hk hh
  refine PS.imp (ps_tryX (tb := fun W => rdS ⟨B.G, B.F, W⟩ b) hst hfr tk hb h1) fun D σ H ⟨ρ, S, θ, R0, rs, f⟩ => ⟨ρ, S, θ, R0, rs, ?_⟩
  unfold sTry at f
  cases q : b ρ S with
  | exc x ρ1 S1 =>
    rw [q] at f
    exact fun θ' σ' H' c a e R1 rs1 rx => h2 D x ρ1 S1 θ' σ' H' c a R1 rs1 rx (FinS.ext e f)
  | nx ρ1 S1 => rw [q] at f; exact f
  | bk ρ1 S1 => rw [q] at f; exact f
  | ct ρ1 S1 => rw [q] at f; exact f
  | rt d S1 => rw [q] at f; exact f
  | bad => rw [q] at f; exact f
end
end DM
namespace DM
open PySem PySem.Spec L2
open PyProof.Rows hiding St
section
variable {X : Cx} {B : Bv} {pos : Pos}
/-- the value that the held error of the class c keeps; its name stands in the slot i -/
def mXv (i c : Nat) (x : Ex) : M D := fun ρ S => match ρ[i]? with
  | some (some (.fn j)) => if j = kX ∧ x.c = c then (match x.v with | some d => .ok d S | none => .bad) else .bad
  | _ => .bad
theorem de_xv {i c : Nat} {a C : Addr} {oe : Obj} {cls : Value} {d : Option Addr} {pn : List (Addr × Obj)} {x : Ex} {F : Fr0} {n f : Str} {p : Pos} (hk : B.G.fa kX = none) (hz : Zc cls d oe) (hv : ∃ vs, oe.data = .fields vs) (rx : ∀ θ H, Ext F.θ F.H θ H → RX B.G θ H x cls d)
    (hi : X.N[i]? = some n) (hvis : Vis X.env.scope n) (hC : B.G.ca c = some C) (T : XfC X.K C) (hno : PySem.W.findIn X.K (.ref C) f = some none) (hn : B.G.cn c = f)
    (hdb : (n == ("__debug__" : Str)) = false := by decide) (hcd : (n == ("__classdict__" : Str)) = false := by decide)
    (hb : attributeBase (.Name n p) f (X.suite a ((a, oe) :: pn)).env (eval (.Name n p) (X.suite a ((a, oe) :: pn)).env) = eval (.Name n p) (X.suite a ((a, oe) :: pn)).env := by rfl) :
    PE (X.suite a ((a, oe) :: pn)) (.Attribute (.Name n p) f pos) (rdE (B.quiet (B.G.fx kX a) F) (mXv i c x)) := by
  refine PE.imp (pe_xf T hno hz hv (pe_var (X := X.suite a ((a, oe) :: pn)) (i := i) hi hvis hdb hcd) hb) fun σ H Q ⟨ρ, S, θ, R0, rs, f0⟩ => ?_
  unfold mXv at f0
  cases q : ρ[i]? with
  | none => rw [q] at f0; exact f0.elim
  | some o =>
    rw [q] at f0
    cases o with
    | none => exact f0.elim
    | some dd =>
      cases dd with
      | fn j =>
        obtain ⟨⟨rfl, hc⟩, f1⟩ := Fin.ite (c := j = kX ∧ x.c = c) f0
        obtain ⟨v, e1, e2⟩ := rs.get q
        have e3 : v = .ref a := by
          cases e2 with
          | fn h =>
            have h' : (if kX = kX then some a else B.G.fa kX) = _ := h
            rw [if_pos rfl] at h'
            cases h'
            rfl
        cases q2 : x.v with
        | none => rw [q2] at f1; exact f1.elim
        | some dv =>
          rw [q2] at f1
          have r := rx θ H R0.fr
          obtain ⟨C', e4, e5⟩ := r.cls
          rw [hc, hC] at e4
          cases e4
          obtain ⟨da, fs, w, e6, e7, e8, e9⟩ := r.val dv q2
          rw [hc, hn] at e8
          refine ⟨v, e1, e3, e5, da, fs, w, e6, e7, e8, ?_⟩
          exact Fin.ok f1 .refl R0 (RD.fx hk e9)
      | _ => exact f0.elim
/-- repr of whatever is shown -/
def reprUD : Ob := fun ds S => match one1 ds with
  | some .non => .ok (.str "None") S
  | some (.str x) => if (reprText x).length ≤ sizeLine then .ok (.str (reprText x)) S else .bad
  | some d => reprAllD [d] S
  | none => .bad
abbrev rReprU (X : Cx) : List V → Hp → VK → Prop := fun xs H Q => rReprA X xs H Q ∨ (xs = [.non] ∧ Q (.str "None") H) ∨ ∃ x, xs = [.str x] ∧ (reprText x).length ≤ sizeLine ∧ Q (.str (reprText x)) H
theorem call_reprU (hu : X.A.units + 100 < cLine) (gd : X.A.guards = some []) : CallR X (.builtin "repr") (rReprU X) := by
  intro pins s σ H vs us Q I r h
  rcases h with (h | ⟨a, p, rfl, hD, hs, q⟩) | ⟨rfl, q⟩ | ⟨x, rfl, hx, q⟩
  · exact call_repr2 pins s σ H vs us Q I r h
  · obtain ⟨u, rfl, ru⟩ := vals1 r
    cases ru
    unfold showD at hs
    simp only [Bool.and_eq_true, decide_eq_true_eq, Bool.not_eq_true'] at hs
    obtain ⟨⟨⟨h1, h2⟩, h3⟩, h4⟩ := hs
    obtain ⟨as, rr⟩ := Dp.reads I p (.ref a) (.ref a) hD rfl
    exact repr_of_reads' rr h1 (fun z => by rw [h2] at z; cases z) gd (by omega) (fun _ _ e => e) (fun h' t tk hk => ⟨.str p.shown, H, I.kept hk, ⟨_, rfl⟩, q⟩) h4
  · obtain ⟨u, rfl, ru⟩ := vals1 r
    cases ru
    exact PySem.P.repr_of_none ⟨.str "None", H, I.tok _, ⟨_, rfl⟩, q⟩
  · obtain ⟨u, rfl, ru⟩ := vals1 r
    obtain ⟨t, rfl⟩ := ru
    exact PySem.P.repr_of_str ⟨.str (reprText x), H, I.tok _, ⟨_, rfl⟩, q⟩ hx
theorem den_reprU (hK : B.G.K = X.K) : DenB B (rReprU X) reprUD := by
  intro σ θ S H ds vs Q R0 r f
  unfold reprUD at f
  cases q : one1 ds with
  | none => rw [q] at f; exact f.elim
  | some d =>
    rw [q] at f
    have e := one1_ok q
    subst e
    have gen : Fin B (RD B.G) σ θ H (reprAllD [d] S) Q → rReprU X vs H Q := fun f => .inl (den_reprA hK σ θ S H _ vs Q R0 r f)
    cases d with
    | non =>
      obtain ⟨v, rfl, r1⟩ := rds1 r
      cases r1
      exact .inr (.inl ⟨rfl, Fin.ok (a := D.str "None") f .refl R0 (.str _)⟩)
    | str x =>
      obtain ⟨v, rfl, r1⟩ := rds1 r
      cases r1
      obtain ⟨c, f2⟩ := Fin.ite (c := (reprText x).length ≤ sizeLine) f
      exact .inr (.inr ⟨x, rfl, c, f2.ok .refl R0 (.str _)⟩)
    | _ => exact gen f
end
end DM

set_option maxHeartbeats 1000000
namespace DM
open PySem PySem.Spec L2 LamX
open PyProof.Rows hiding St

/-- the slot of the lambda that is held -/
def kL : Nat := 1001
/-- what a block of code may use, whatever its frame -/
structure LBody (P : Program) (w : World) (mg : Str → Option Value) (base : Heap) (G : Gv) (k : Nat) (X : Cx) (B : Bv) : Prop where
  gK : B.G.K = G.K
  gf : B.G.fa = G.fa
  gc : B.G.ca = G.ca
  gn : B.G.cn = G.cn
  gt : B.G.tt = G.tt
  room : Room k X.A
  gd : X.A.guards = some []
  takes : Takes X B.W
  calm : X.calm = true

section
variable {X : Cx} {pins : List (Addr × Obj)} {σ : L2.St} {H : Hp} {s : Shared}
abbrev lamZ (X : Cx) (Ng : List Str) (qg : Str) (sg : Scope) (g : Addr) (cdg : Value) (s : Shared) (H : Hp) : Cx := cxOf (L2.CX X.prog X.w) X.prog X.w X.K X.mg X.base Ng qg sg g cdg X.A X.stack s H (fun _ _ _ => False)
/-- a(), in the def that got the lambda -/
theorem pe_actS {Ng : List Str} {qg : Str} {sg : Scope} {g f c' : Addr} {cdg pm ctv : Value} {params : Arguments} {body : Expr} {scope : Scope} {k i : Nat} {a : Str} {pn : List (Addr × Obj)} {xe : Value → Shared → Prop} {W : WX} {tb : XK → TE} {p1 p2 : Pos}
    (I : Inv X pins σ H s) (L : LamS X.env.scope scope) (hf : s.heap.get? f = some (PySem.W.kla_obj "<lambda>" (X.env.qual ++ "<lambda>") params body scope (cloFrom X.env.cells scope.names []) pm c' ctv)) (hfn : H f = none) (hfr : f ∉ frs X.stack)
    (hbind : bindArgs (PySem.W.kla_fn "<lambda>" (X.env.qual ++ "<lambda>") params body scope (cloFrom X.env.cells scope.names []) pm (.ref c') ctv) ⟨[], []⟩ = pure [])
    (tk : Takes ((lamZ X Ng qg sg g cdg s H).tr pn xe) W) (hr : Room (k + 1) (X.A.deeper (envOfC qg sg s.heap.objs.size g cdg))) (gd : X.A.guards = some [])
    (hbody : ∀ (A : Around) (outer : List PySem.Env) (s : Shared) (H : Hp) (E : XK), Room k (A.deeper (lamEnv X scope s.heap.objs.size f c')) → A.guards = some [] → PE (lamCx X A outer s H E scope f c') body (tb E))
    (hN : Ng[i]? = some a) (hv : Vis sg a) (hd : (a == ("__debug__" : Str)) = false := by decide) (hcd : (a == ("__classdict__" : Str)) = false := by decide) :
    PE ((lamZ X Ng qg sg g cdg s H).tr pn xe) (.Call (.Name a p1) [] [] p2) (fun σZ HZ Q => σZ[i]? = some (some (.ref f)) ∧ HZ c' = some (CodeO c' (X.env.qual ++ "<lambda>")) ∧ tb (WE W σZ) σ HZ Q) := by
  refine ⟨fun pinsZ sZ σZ HZ Q IZ h => ?_⟩
  obtain ⟨hs, hc, ht⟩ := h
  refine wpAny_Call_Name_kw (thn ((pe_var (pos := p1) (i := i) hN hv hd hcd).run pinsZ sZ σZ HZ (fun v H1 => v = .ref f ∧ H1 = HZ) IZ ⟨.ref f, hs, rfl, rfl⟩) fun u s1 ⟨v, H1, I1, r1, q1⟩ => ?_)
  obtain ⟨ev, eH⟩ := q1
  subst ev
  rw [eH] at I1
  obtain rfl : u = Value.ref f := r1
  have of1 : s1.heap.get? f = some (PySem.W.kla_obj "<lambda>" (X.env.qual ++ "<lambda>") params body scope (cloFrom X.env.cells scope.names []) pm c' ctv) := I1.base.keep f _ hf hfn hfr (fun z => nomatch (show f ∈ ([] : List Addr) from z))
  refine PySem.W.callWith_F0 ⟨_, _, _, _, of1⟩ ?_
  have un : Un (frs X.stack) [] H HZ s.heap s1.heap := I1.base
  obtain ⟨⟨oc, vs, t, hoc, hdc, hvc⟩, _, _⟩ := I1.hok c' _ hc
  have rc : codeAny (model X.prog X.w) (X.A.deeper (envOfC qg sg s.heap.objs.size g cdg)) (.call (.ref f) ⟨[], []⟩) (CR (L2.CX X.prog X.w) (envOfC qg sg s.heap.objs.size g cdg :: X.stack) X.prog X.w HZ s1 Q (WE W σZ)) s1 := by
    refine PySem.W.kla_callFunE hr.depth of1 rfl L.co L.gen rfl ⟨c', oc, vs, t, rfl, hoc, hdc, hvc⟩ ?_
    rw [hbind]
    refine wpAny_pure (wpAny_newFunctionEnv (fun y hy => (L.own y hy).2) (fun y hy => absurd hy (by simp)) (fun h₁ hns hsb => ⟨I1.nolimit.fresh _ hsb, ?_⟩) L.kind)
    show codeAny _ _ (.expr body (lamEnv X scope s1.heap.objs.size f c')) _ _
    have kp : ∀ b o, s1.heap.get? b = some o → h₁.get? b = some o := fun b o e => hsb.extBut b o (Nat.ne_of_lt (Heap.lt_size e)) (Heap.get?_push_of_some _ e)
    have J : Inv (lamCx X (X.A.deeper (envOfC qg sg s.heap.objs.size g cdg)) (envOfC qg sg s.heap.objs.size g cdg :: X.stack) s1 HZ (WE W σZ) scope f c') [] σ HZ { s1 with heap := h₁, toks := s1.toks + ([] : List (Str × Value)).length } :=
      lam_start2 I L I1.env0 hr.hd un hns kp
    refine PySem.W.kla_codeExpr (wpAny_mono ((hbody _ _ s1 HZ (WE W σZ) (hr.deeper _) gd).run [] _ _ HZ Q J ht) (fun v s' hq => ?_) fun e s' hq => hq)
    obtain ⟨w', H', J', rv, q⟩ := hq
    exact ⟨w', H', J'.os, J'.bare, J'.base, J'.hok, rv, q⟩
  refine wpAny_call (codeAny_mono rc fun r s' hq => ?_)
  match r, hq with
  | .error e, hq => exact passAt tk σZ pinsZ HZ s1 e s' I1 hq
  | .ok (.ret u), hq => exact I1.after hq
end

section
variable {X : Cx} {pins : List (Addr × Obj)} {σ : L2.St} {H : Hp} {s : Shared}
theorem lam_make3 {T : List (Addr × Str)} {c P : Addr} {params : Arguments} {body : Expr} {scope : Scope} {pos : Pos} {E : Value → Shared → Prop} {Q : Value → Shared → Prop} (I : Inv X pins σ H s) (TB : TabB X.base X.mg c P) (hcode : X.env.code = .ref c)
    (hm : (P, X.env.qual ++ "<lambda>") ∈ T) (hu : ∀ p ∈ T, p.1 = P → p.2 = X.env.qual ++ "<lambda>") (hT : Tabs T H) (hdef : defaultsOf params X.env = ([], [])) (hfree : ∀ y ∈ scope.names, y.2 = .free → ∃ c, X.env.cells.lookup y.1 = some c)
    (h : ∀ (f c' : Addr) (pm ctv : Value) (H1 : Hp) (s' : Shared), Inv X pins σ H1 s' → ExtN H H1 → (∀ b, H1 b = none → H b = none) → Tabs T H1 →
      s'.heap.get? f = some (PySem.W.kla_obj "<lambda>" (X.env.qual ++ "<lambda>") params body scope (cloFrom X.env.cells scope.names []) pm c' ctv) → H1 f = none → f ∉ frs X.stack → H1 c' = some (CodeO c' (X.env.qual ++ "<lambda>")) → Q (.ref f) s') :
    wpAny (model X.prog X.w) X.A (eval (.Lambda params body scope pos) X.env) Q E s := by
  obtain ⟨ps, hP, ht, ha⟩ := hT _ hm
  refine PySem.W.kla_eval hdef ?_
  have bP : s.heap.BuiltinsAt X.mg P := TB.bm.keeps I.bk
  have hP' : s.heap.get? P = some { cls := .none, data := .fields ps } := I.hok P _ hP
  have nofr : ∀ f, s.heap.objs.size ≤ f → f ∉ frs X.stack := fun f hf z => by
    rcases List.mem_cons.mp (I.stkSub _ z) with e | e
    · have h1 := I.lt
      rw [← e] at h1
      exact Nat.lt_irrefl _ (Nat.lt_of_lt_of_le h1 hf)
    · exact I.nofs hf e
  cases hc : codeAmong pos ps.toList with
  | some cv =>
    obtain ⟨c', e, hco⟩ := ha pos cv hc
    subst e
    refine PySem.W.kla_makeFunctionHit (mg := X.mg) (c := c) (P := P) (ps := ps) (closure_ok hfree) I.ok.glob (I.mod.glob.keeps I.bk) hcode (TB.code.keeps I.bk) hP' ht hc bP fun ctv h' tk hx hsz => ?_
    exact h h'.objs.size c' ((X.mg "__name__").getD .none) ctv H _ (I.kept fun b o e => Heap.get?_push_of_some _ (hx b o e)) (ExtN.refl H) (fun _ z => z) hT (Heap.get?_push_size _ rfl) (I.hok.fresh hsz) (nofr _ hsz) hco
  | none =>
    refine PySem.W.kla_makeFunction (mg := X.mg) (c := c) (P := P) (ps := ps) (closure_ok hfree) I.ok.glob (I.mod.glob.keeps I.bk) hcode (TB.code.keeps I.bk) hP' ht hc TB.gP bP fun c' ctv h' tk hx hge hlt hrec htb => ?_
    obtain ⟨c2, oc, vs, t, e2, hoc, hd, hv⟩ := hrec
    cases e2
    have hsz : s.heap.objs.size ≤ h'.objs.size := Nat.le_trans hge (Nat.le_of_lt hlt)
    have nC : H c' = none := I.hok.fresh hge
    have I1 := inv_table (t' := tk) (more := #[rawInt pos.line, rawInt pos.col, .ref c']) (h' := h'.push (PySem.W.kla_obj "<lambda>" (X.env.qual ++ "<lambda>") params body scope (cloFrom X.env.cells scope.names []) ((X.mg "__name__").getD .none) c' ctv)) I hP
      (fun b o hb e => Heap.get?_push_of_some _ (hx b o hb e)) (Heap.get?_push_of_some _ htb) hge ⟨oc, vs, t, Heap.get?_push_of_some _ hoc, hd, hv⟩
    have hE : ExtN H (upd (upd H P (.tbl (ps ++ #[rawInt pos.line, rawInt pos.col, .ref c']))) c' (CodeO c' (X.env.qual ++ "<lambda>"))) := fun b o e n => by
      rw [upd_ne (ne_of_none e nC), upd_ne (fun z => n ps (Option.some.inj (e.symm.trans (by rw [z]; exact hP))))]
      exact e
    have eL : (ps ++ #[rawInt pos.line, rawInt pos.col, .ref c']).toList = ps.toList ++ [rawInt pos.line, rawInt pos.col, .ref c'] := by simp
    have gr : ∀ b, upd (upd H P (.tbl (ps ++ #[rawInt pos.line, rawInt pos.col, .ref c']))) c' (CodeO c' (X.env.qual ++ "<lambda>")) b = none → H b = none := fun b e => by
      by_cases h1 : b = c'
      · rw [h1]; exact nC
      · rw [upd_ne h1] at e
        by_cases h2 : b = P
        · rw [h2, upd_same] at e; cases e
        · rw [upd_ne h2] at e; exact e
    refine h h'.objs.size c' ((X.mg "__name__").getD .none) ctv _ _ I1 hE gr (fun p hp => ?_) (Heap.get?_push_size _ rfl) ?_ (nofr _ hsz) upd_same
    · by_cases hb : p.1 = P
      · rw [hu p hp hb, hb]
        refine ⟨_, by rw [upd_ne (ne_of_none hP nC), upd_same], by rw [eL]; exact PySem.TriplesOk_snoc _ _ _ _ ht, fun p' cv hcv => ?_⟩
        rw [eL] at hcv
        rcases among_app _ ht hcv with z | z
        · obtain ⟨c0, e1, e2⟩ := ha p' cv z
          exact ⟨c0, e1, hE _ _ e2 codeO_ne⟩
        · exact ⟨c', z, upd_same⟩
      · obtain ⟨ps', a1, a2, a3⟩ := hT p hp
        refine ⟨ps', by rw [upd_ne (ne_of_none a1 nC), upd_ne hb]; exact a1, a2, fun p' cv hcv => ?_⟩
        obtain ⟨c0, e1, e2⟩ := a3 p' cv hcv
        exact ⟨c0, e1, hE _ _ e2 codeO_ne⟩
    · have n1 : h'.objs.size ≠ c' := Nat.ne_of_gt hlt
      have n2 : h'.objs.size ≠ P := Nat.ne_of_gt (Nat.lt_of_lt_of_le (Heap.lt_size hP') hsz)
      rw [upd_ne n1, upd_ne n2]
      exact I.hok.fresh hsz
end

/-- a(), a the lambda that is held -/
def mAct (i : Nat) (th : Store → R D) : M D := fun ρ S => match ρ[i]? with
  | some (some (.fn j)) => if j = kL ∧ noS kL S = true then th S else .bad
  | _ => .bad
abbrev Lm := (Store → R D) → Store → R D
/-- a def that calls what it got, by its body -/
def defL (l : Nat) (b : (Store → R D) → SM) : Lm := fun th S => match b th (some (.fn kL) :: List.replicate l none) S with
  | .nx _ S' => if noS kL S' = true then .ok .non S' else .bad
  | .rt d S' => if (noF kL d && noS kL S') = true then .ok d S' else .bad
  | _ => .bad
def mLam (m : Lm) (b : M D) : M D := fun ρ S => m (fun S' => b ρ S') S
/-- such a def's promise -/
def LamG (P : Program) (w : World) (K : PySem.W.Frag) (G : Gv) (mg : Str → Option Value) (base : Heap) (k : Nat) (st : Stmt) (qual : Str) (g : Addr) (Ng : List Str) (a : Str) (b : (Store → R D) → SM) : Prop :=
  ∀ (cd : Value) (A : Around) (outer : List PySem.Env) (s : Shared) (H : Hp) (f : Addr) (B : Bv) (th : Store → R D),
    Body P w mg base (G.fx kL f) Ng (defScope st) k (cxOf (L2.CX P w) P w K mg base Ng qual (defScope st) g cd A outer s H fun _ _ _ => False) B →
    (∀ (W : WX) (pn : List (Addr × Obj)) (xe : Value → Shared → Prop) (p1 p2 : Pos), Takes ((cxOf (L2.CX P w) P w K mg base Ng qual (defScope st) g cd A outer s H fun _ _ _ => False).tr pn xe) W →
      PE ((cxOf (L2.CX P w) P w K mg base Ng qual (defScope st) g cd A outer s H fun _ _ _ => False).tr pn xe) (.Call (.Name a p1) [] [] p2) (rdE ⟨B.G, B.F, W⟩ (mAct 0 th))) →
    PSs (cxOf (L2.CX P w) P w K mg base Ng qual (defScope st) g cd A outer s H fun _ _ _ => False) (defBody st) (rdS B (b th))
theorem keep_extN {θ : List Addr} {H H1 : Hp} (e : ExtN H H1) (g : ∀ b, H1 b = none → H b = none) : Keep θ H H1 :=
  ⟨fun a o h _ n => e a o h fun ps z => by subst z; exact n, g⟩
theorem Rel.extN {G : Gv} {F : Fr0} {θ : List Addr} {S : Store} {H H1 : Hp} (R0 : Rel G F θ S H) (e : ExtN H H1) (g : ∀ b, H1 b = none → H b = none) (t : Tabs G.tt H1) : Ext θ H θ H1 ∧ Rel G F θ S H1 := by
  have k : Ext θ H θ H1 := .of_keep (keep_extN e g)
  refine ⟨k, R0.len, R0.nd, fun n a c h1 h2 => rc_ext k (fun o q => ?_) (R0.cells n a c h1 h2), R0.fr.trans k, fun a h z => R0.pht a h (g a z), t⟩
  obtain ⟨o', q', _, nt, _⟩ := rc_some (R0.cells n a c h1 h2)
  rw [q] at q'; cases q'
  exact e a o q fun ps z => by subst z; exact nt
section
variable {X : Cx} {B : Bv} {pos : Pos}
theorem de_lam {k l : Nat} {G0 : Gv} {st : Stmt} {x a : Str} {g c P : Addr} {fd : FuncData} {Nr : List Str} {bL : (Store → R D) → SM} {params : Arguments} {body : Expr} {scope : Scope} {p lpos : Pos} {b : M D}
    (hB : B.G.K = G0.K ∧ B.G.fa = G0.fa ∧ B.G.ca = G0.ca ∧ B.G.cn = G0.cn ∧ B.G.tt = G0.tt) (hXK : X.K = G0.K) (FL : LamG X.prog X.w X.K G0 X.mg X.base k st x g (a :: Nr) a bL) (F : Fun X.K x x st g fd) (hg : Gl X x) (hm : X.mg x = some (.ref g)) (hbd : Binds X.K fd [a] [])
    (Sg : FnScope (a :: Nr) [a] (defScope st)) (hl : Nr.length = l) (hva : Vis (defScope st) a) (hkL : G0.fa kL = none) (TB : TabB X.base X.mg c P) (hcode : X.env.code = .ref c) (hmT : (P, X.env.qual ++ "<lambda>") ∈ G0.tt) (hu : ∀ p ∈ G0.tt, p.1 = P → p.2 = X.env.qual ++ "<lambda>")
    (hr : Room (k + 2) X.A) (gd : X.A.guards = some []) (L : LamS X.env.scope scope) (hdef : defaultsOf params X.env = ([], []))
    (hbind : ∀ (q : Str) (cl : List (Str × Addr)) (pm cv ctv : Value), bindArgs (PySem.W.kla_fn "<lambda>" q params body scope cl pm cv ctv) ⟨[], []⟩ = pure [])
    (hbody : ∀ (A : Around) (outer : List PySem.Env) (s : Shared) (H : Hp) (E : XK) (f c' : Addr) (B' : Bv), LBody X.prog X.w X.mg X.base G0 k (lamCx X A outer s H E scope f c') B' → PE (lamCx X A outer s H E scope f c') body (rdE B' b))
    (hdb : (x == ("__debug__" : Str)) = false := by decide) (hd : (a == ("__debug__" : Str)) = false := by decide) (hcd : (a == ("__classdict__" : Str)) = false := by decide) :
    PE X (.Call (.Name x p) [.Lambda params body scope lpos] [] pos) (rdE B (mLam (defL l bL) b)) := by
  refine ⟨fun pins s σ H Q I ⟨ρ, S, θ, R0, rs, f0⟩ => ?_⟩
  obtain ⟨oc, od, kV, doc, pm0, an, cdv, ct, osl, rfl, lk, hcg⟩ := F.ex
  have hT : Tabs G0.tt H := hB.2.2.2.2 ▸ R0.tab
  refine wpAny_Call_Name_kw (ld_glob I hg hm ?_ hdb)
  refine PySem.W.callWith_K (h₀ := X.base) I.ok.mod.kin F.kp ?_ (by rfl) (by rfl)
  show wpAny _ _ (spliced ((false, eval (.Lambda params body scope lpos) X.env) :: backTo pos (starEach [] X.env))) _ _ s
  refine Calls.spliced_cons (lam_make3 I TB hcode hmT hu hT hdef (L.has I.ok) fun f c' pm' ctv H1 s' I1 eN gr T1 hf hfn hfr hco => ?_)
  refine Calls.spliced_nil ⟨I1.kIn, ?_⟩
  obtain ⟨k1, R1⟩ := R0.extN eN gr (hB.2.2.2.2.symm ▸ T1)
  have f1 := Fin.ext k1 f0
  have nc : c' ∉ θ := fun m => by
    obtain ⟨n, c0, _, _, r⟩ := R1.mem_some m
    obtain ⟨o', q', _, _, ic⟩ := rc_some r
    rw [hco] at q'; cases q'
    exact codeO_cel ic
  have fxL : B.G.fa kL = none := by rw [hB.2.1]; exact hkL
  let B' : Bv := ⟨B.G.fx kL f, ⟨H1, θ⟩, fun _ _ _ _ => False⟩
  have rc : codeAny (model X.prog X.w) X.A (.call (.ref g) ⟨[.ref f], []⟩) (CR (L2.CX X.prog X.w) X.stack X.prog X.w H1 s' Q fun _ _ _ => False) s' := by
    refine run_ofS (k := k + 1) (N := a :: Nr) (ps := [a]) (us := [.ref f]) (vs := [.ref f]) lk hcg Sg hr I1.env0 (hbd s' [.ref f] I1.kIn rfl) (.cons rfl .nil) rfl fun hr' => ⟨rdS B' (bL fun S' => b ρ S'), ?_, ?_⟩
    · refine FL cdv X.A X.stack s' H1 f B' (fun S' => b ρ S') ⟨hB.1, ?_, hB.2.2.1, hB.2.2.2.1, hB.2.2.2.2, hXK, rfl, rfl, rfl, rfl, rfl, rfl, rfl, hr'.mono (Nat.le_succ k), gd, takes_of rfl rfl rfl rfl, passes_of rfl, rfl, rfl, rfl, rfl⟩ fun W pn xe p1 p2 tk => ?_
      · show (fun n => if n = kL then some f else B.G.fa n) = fun n => if n = kL then some f else G0.fa n
        rw [hB.2.1]
      refine PE.imp (pe_actS (i := 0) (W := W) (tb := fun E => rdE ⟨B.G, ⟨H1, θ⟩, fun c a _ H' => E c a H'⟩ b) I1 L hf hfn hfr (hbind _ _ _ _ _) tk hr' gd (fun A outer s H E hr2 gd2 => hbody A outer s H E f c' _ ⟨hB.1, hB.2.1, hB.2.2.1, hB.2.2.2.1, hB.2.2.2.2, hr2, gd2, takes_of rfl rfl rfl rfl, rfl⟩) rfl hva hd hcd)
        fun σZ HZ Q' ⟨ρZ, SZ, θZ, RZ, rsZ, fZ⟩ => ?_
      unfold mAct at fZ
      cases q : ρZ[0]? with
      | none => rw [q] at fZ; exact fZ.elim
      | some o =>
        rw [q] at fZ
        cases o with
        | none => exact fZ.elim
        | some dd =>
          cases dd with
          | fn j =>
            obtain ⟨⟨rfl, hn⟩, gZ⟩ := Fin.ite (c := j = kL ∧ noS kL SZ = true) fZ
            obtain ⟨v, e1, e2⟩ := rsZ.get q
            have e3 : v = .ref f := by
              cases e2 with
              | fn h =>
                have h' : (if kL = kL then some f else B.G.fa kL) = _ := h
                rw [if_pos rfl] at h'
                cases h'
                rfl
            subst e3
            refine ⟨e1, RZ.fr.keep.st c' _ hco (.inl nc) trivial, ρ, SZ, θZ, RZ.unfx hn, rs.ext (k1.trans RZ.fr), ?_⟩
            clear fZ
            have gZ' : Fin ⟨B.G.fx kL f, ⟨H1, θ⟩, W⟩ (RD (B.G.fx kL f)) σZ θZ HZ (b ρ SZ) Q' := gZ
            revert gZ'
            cases b ρ SZ with
            | ok d S2 => exact fun gZ' θ' H' v e R r => gZ' θ' H' v e (R.fx fxL) (r.fx fxL)
            | exc x S2 => exact fun gZ' θ' H' c d e R r => gZ' θ' H' c d e (R.fx fxL) (r.fx fxL)
            | bad => exact fun gZ' => gZ'
          | _ => exact fZ.elim
    · have rs0 : RS (B.G.fx kL f) θ H1 (some (.fn kL) :: List.replicate l none) (L2.start (a :: Nr) [.ref f]) := by
        have e : (a :: Nr).length - 1 = l := by simpa using hl
        unfold L2.start
        rw [show (a :: Nr).length - [V.ref f].length = l from e]
        exact RS.start (ds := [.fn kL]) (vs := [.ref f]) l (.cons (.fn (show (if kL = kL then some f else B.G.fa kL) = some f from if_pos rfl)) .nil)
      refine ⟨_, S, θ, R1.here.fx fxL, rs0, ?_⟩
      unfold mLam defL at f1
      cases q : bL (fun S' => b ρ S') (some (.fn kL) :: List.replicate l none) S with
      | nx ρ' S1 =>
        rw [q] at f1
        obtain ⟨hn, f2⟩ := Fin.ite (c := noS kL S1 = true) f1
        exact fun θ' σ' H' e R2 _ => f2 θ' H' .non e (R1.frame (R2.unfx hn)) .non
      | rt d S1 =>
        rw [q] at f1
        obtain ⟨hn, f2⟩ := Fin.ite (c := (noF kL d && noS kL S1) = true) f1
        rw [Bool.and_eq_true] at hn
        exact fun θ' H' v e R2 r => f2 θ' H' v e (R1.frame (R2.unfx hn.2)) (r.unfx hn.1)
      | exc x ρ' S1 => rw [q] at f1; exact f1.elim
      | bk ρ' S1 => rw [q] at f1; exact f1.elim
      | ct ρ' S1 => rw [q] at f1; exact f1.elim
      | bad => rw [q] at f1; exact f1.elim
  refine wpAny_call (codeAny_mono rc fun r s2 hq => ?_)
  match r, hq with
  | .error e, hq =>
    obtain ⟨_, _, _, _, _, _, _, _, _, _, _, _, z⟩ := hq
    exact z.elim
  | .ok (.ret u), hq => exact I1.after hq
end
end DM

namespace DM
open PySem PySem.Spec L2
open PyProof.Rows hiding St

theorem mem_lkN {α : Type} {j : Nat} {p : α} : ∀ {l : List (Nat × α)}, l.lookup j = some p → (j, p) ∈ l
  | [], h => by cases h
  | (i, q) :: r, h => by
    rw [List.lookup_cons] at h
    by_cases e : j = i
    · subst e
      rw [beq_self_eq_true] at h
      cases h
      exact List.mem_cons_self
    · rw [beq_false_of_ne e] at h
      exact List.mem_cons_of_mem _ (mem_lkN h)
section
variable {X : Cx} {B : Bv} {pos : Pos}
theorem de_fn {x : Str} {j : Nat} {f : Addr} (hg : Gl X x) (hm : X.mg x = some (.ref f)) (hf : B.G.fa j = some f) (hd : (x == ("__debug__" : Str)) = false := by decide) : PE X (.Name x pos) (rdE B (mC (.fn j))) :=
  de_c (v := .ref f) (pe_glob hg hm rfl hd) fun _ _ => .fn hf
/-- one of the defs that a name may hold -/
structure HeldG (P : Program) (w : World) (K : PySem.W.Frag) (mg : Str → Option Value) (base : Heap) (k : Nat) (G0 : Gv) (j n : Nat) (m : Fm) : Prop where
  ex : ∃ (f : Addr) (fd : FuncData) (ps : List Str), G0.fa j = some f ∧ FnG P w K mg base k f fd ps (spD G0 n m) ∧ PySem.W.keepIn K (.ref f) = true ∧ Binds K fd ps []
theorem HeldG.mono {P : Program} {w : World} {K : PySem.W.Frag} {mg : Str → Option Value} {base : Heap} {k k' : Nat} {G0 : Gv} {j n : Nat} {m : Fm} (h : HeldG P w K mg base k G0 j n m) (hk : k ≤ k') : HeldG P w K mg base k' G0 j n m := by
  obtain ⟨f, fd, ps, h1, h2, h3, h4⟩ := h.ex
  exact ⟨f, fd, ps, h1, h2.mono hk, h3, h4⟩
theorem pe_callLG {k i : Nat} {f : Addr} {fd : FuncData} {ps : List Str} {sp : Sp} {W : WX} {x : Str} {p : Pos} {e : Expr} {es : List Expr} {t : TA} (FO : FnG X.prog X.w X.K X.mg X.base k f fd ps sp) (hr : Room k X.A) (gd : X.A.guards = some []) (hN : X.N[i]? = some x) (hv : Vis X.env.scope x)
    (hk : PySem.W.keepIn X.K (.ref f) = true) (hb : Binds X.K fd ps []) (tk : Takes X W) (ha : PA X (e :: es) t) (hdb : (x == ("__debug__" : Str)) = false := by decide) (hcd : (x == ("__classdict__" : Str)) = false := by decide)
    (he : starEach (e :: es) X.env = (false, eval e X.env) :: starEach es X.env := by rfl) (hpl : (backTo pos (starEach es X.env)).any (·.1) = false := by rfl) :
    PE X (.Call (.Name x p) (e :: es) [] pos) (fun σ H Q => σ[i]? = some (some (.ref f)) ∧ t σ H fun vs H1 => sp vs H1 Q (WE W σ)) := by
  refine ⟨fun pins s σ H Q I ⟨hs, ht⟩ => ?_⟩
  refine wpAny_Call_Name_kw (thn ((pe_var (pos := p) hN hv hdb hcd).run pins s σ H (fun v H1 => v = .ref f ∧ H1 = H) I ⟨.ref f, hs, rfl, rfl⟩) fun u s1 ⟨v, H1, I1, r1, q1⟩ => ?_)
  obtain ⟨ev, eH⟩ := q1
  subst ev
  rw [eH] at I1
  obtain rfl : u = Value.ref f := r1
  exact PySem.W.callWith_K (h₀ := X.base) I.ok.mod.kin hk (thn (ha.run pos pins s1 σ _ _ I1 ht) fun us s2 ⟨vs, H2, I2, r, q⟩ => ⟨I2.kIn, run_g FO hr gd hb tk I2 r q⟩) he hpl
/-- the i-th name holds a def of the table -/
def mCallV (i : Nat) (tb : List (Nat × Nat × Fm)) (a : M (List D)) : M D := fun ρ S => match ρ[i]? with
  | some (some (.fn j)) => match tb.lookup j with
    | some p => (a ρ S).bind fun ds S1 => if ds.length = p.1 then callD p.2 ds S1 else .bad
    | none => .bad
  | _ => .bad
theorem de_callV {k i : Nat} {x : Str} {p : Pos} {e : Expr} {es : List Expr} {G0 : Gv} {tb : List (Nat × Nat × Fm)} {a : M (List D)} (hB : B.G.K = G0.K ∧ B.G.fa = G0.fa ∧ B.G.ca = G0.ca ∧ B.G.cn = G0.cn ∧ B.G.tt = G0.tt)
    (A : ∀ q ∈ tb, HeldG X.prog X.w X.K X.mg X.base k G0 q.1 q.2.1 q.2.2) (hr : Room k X.A) (gd : X.A.guards = some []) (hN : X.N[i]? = some x) (hv : Vis X.env.scope x) (tk : Takes X B.W) (ha : PA X (e :: es) (rdA B a))
    (hdb : (x == ("__debug__" : Str)) = false := by decide) (hcd : (x == ("__classdict__" : Str)) = false := by decide) (he : starEach (e :: es) X.env = (false, eval e X.env) :: starEach es X.env := by rfl) (hpl : (backTo pos (starEach es X.env)).any (·.1) = false := by rfl) :
    PE X (.Call (.Name x p) (e :: es) [] pos) (rdE B (mCallV i tb a)) := by
  refine ⟨fun pins s σ H Q I ⟨ρ, S, θ, R0, rs, f⟩ => ?_⟩
  unfold mCallV at f
  cases q : ρ[i]? with
  | none => rw [q] at f; exact f.elim
  | some o =>
    rw [q] at f
    cases o with
    | none => exact f.elim
    | some d =>
      cases d with
      | fn j =>
        replace f : Fin B (RD B.G) σ θ H (match tb.lookup j with | some p => (a ρ S).bind fun ds S1 => if ds.length = p.1 then callD p.2 ds S1 else .bad | none => .bad) Q := f
        cases q2 : tb.lookup j with
        | none => rw [q2] at f; exact f.elim
        | some pr =>
          rw [q2] at f
          obtain ⟨g, fd, ps, h1, h2, h3, h4⟩ := (A (j, pr) (mem_lkN q2)).ex
          obtain ⟨v, e1, e2⟩ := rs.get q
          have e3 : v = .ref g := by
            cases e2 with
            | fn h =>
              rw [hB.2.1] at h
              rw [h] at h1
              cases h1
              rfl
          subst e3
          refine (pe_callLG (W := B.W) (i := i) h2 hr gd hN hv h3 h4 tk ha hdb hcd he hpl).run pins s σ H Q I ⟨e1, ρ, S, θ, R0, rs, Fin.bind f fun ds S1 θ1 H1 vs _ e4 R1 r1 f1 => ?_⟩
          obtain ⟨hl, f2⟩ := Fin.ite (c := ds.length = pr.1) f1
          exact call_sp (G := B.G) (F := B.F) (W := B.W) (σ := σ) hB.1 hB.2.1 hB.2.2.1 hB.2.2.2.1 hB.2.2.2.2 R1 r1 (by rw [← r1.length]; exact hl) f2
      | _ => exact f.elim

theorem Rel.noPh {G : Gv} {F : Fr0} {θ : List Addr} {S : Store} {H : Hp} {p : Addr} (R0 : Rel G F θ S H) (h : H p = none) : ¬ G.ph p := fun z => R0.pht p z h
def mLstK (a : M (List D)) : M D := fun ρ S => (a ρ S).bind fun ds S1 => if ds.length ≤ sizeLine then .ok (.lst ds) S1 else .bad
theorem de_lstK {es : List Expr} {a : M (List D)} (h : PA X es (rdA B a)) : PE X (.List es pos) (rdE B (mLstK a)) :=
  PE.imp (pe_lst h) fun σ H Q ⟨ρ, S, θ, R0, rs, f⟩ => ⟨ρ, S, θ, R0, rs, Fin.bind f fun ds S1 θ1 H1 vs _ e1 R1 r1 f1 => by
    obtain ⟨c, f2⟩ := Fin.ite (c := ds.length ≤ sizeLine) f1
    refine ⟨by rw [← r1.length]; exact c, fun p hp => ?_⟩
    have k : Ext θ1 H1 θ1 (upd H1 p (.lst vs)) := .of_keep (keep_new hp)
    exact f2.ok k (R1.laid hp) (.lst (R1.noPh hp) (R1.not_new hp) upd_same (r1.ext k))⟩
def mEdc : M D := fun _ S => .ok .edc S
theorem de_edc : PE X (.Dict [] [] pos) (rdE B mEdc) :=
  PE.imp pe_dnewK fun σ H Q ⟨ρ, S, θ, R0, rs, f⟩ => fun p hp => Fin.ok (a := D.edc) (S := S) f (.of_keep (keep_new hp)) (R0.laid hp) (.edc (R0.noPh hp) (R0.not_new hp) upd_same)
/-- a dict of our own -/
def mDct0 : M D := fun _ S => .ok (.ref S.length) (S ++ [.dct []])
theorem de_dct0 : PE X (.Dict [] [] pos) (rdE B mDct0) :=
  PE.imp pe_dnewK fun σ H Q ⟨ρ, S, θ, R0, rs, f⟩ => fun p hp => Fin.ok (a := D.ref S.length) (S := S ++ [.dct []]) f (ext_cell hp) (R0.allocC (c0 := .dct []) hp ⟨[], upd_same, .nil⟩) (RD.new R0)

def hasK (kvs : List (Key × D)) (k : Key) : Bool := kvs.any fun kv => decide (kv.1 = k)
def dInD (neg : Bool) (y x : D) (S : Store) : R D := match getK x S, keyD y with
  | some kvs, some k => .ok (.bl (if neg then !hasK kvs k else hasK kvs k)) S
  | _, _ => .bad
def mDIn (neg : Bool) (a b : M D) : M D := fun ρ S => (a ρ S).bind fun y S1 => (b ρ S1).bind fun x S2 => dInD neg y x S2
theorem valV_has {kvs : List (Key × V)} {k : Key} : (valV kvs k).isSome = kvs.any fun kv => decide (kv.1 = k) := by
  unfold valV
  rw [Option.isSome_map]
  induction kvs with
  | nil => rfl
  | cons p r ih =>
    rw [List.find?_cons, List.any_cons]
    by_cases h : p.1 = k
    · simp [h]
    · simp only [h, decide_false, Bool.false_or]
      exact ih
theorem dIn_sem {neg : Bool} {σ : St} {θ : List Addr} {S : Store} {H : Hp} {y x : D} {yv xv : V} {Q : VK} (R0 : Rel B.G B.F θ S H) (ry : RD B.G θ H y yv) (rx : RD B.G θ H x xv) (f : Fin B (RD B.G) σ θ H (dInD neg y x S) Q) :
    ∃ a o, xv = .ref a ∧ DGet H a yv o ∧ Q (.bl (if neg then !o.isSome else o.isSome)) H := by
  unfold dInD at f
  cases q1 : getK x S with
  | none => rw [q1] at f; exact f.elim
  | some kvs =>
    cases q2 : keyD y with
    | none => rw [q1, q2] at f; exact f.elim
    | some k =>
      rw [q1, q2] at f
      obtain ⟨n, a, es, rfl, rfl, h1, h2, h3, h4⟩ := getK_ok R0 rx q1
      have e := keyD_ok ry q2
      subst e
      refine ⟨a, _, rfl, DGet.k h3, ?_⟩
      have eq : (valV es k).isSome = hasK kvs k := by
        rw [valV_has]
        exact (RK.any h4).symm
      rw [eq]
      exact Fin.ok (a := D.bl (if neg then !hasK kvs k else hasK kvs k)) f .refl R0 (.bl _)
theorem dc_in {i o : Expr} {a b : M D} (hu : X.A.units + 1 < cLine) (hi : PE X i (rdE B a)) (ho : PE X o (rdE B b)) : PC X .In i o (rdE B (mDIn false a b)) :=
  ⟨fun pins s σ H Q I ⟨ρ, S, θ, R0, rs, f⟩ => (pc_din hu hi ho).run pins s σ H Q I ⟨ρ, S, θ, R0, rs, Fin.bind f fun y S1 θ1 H1 yv _ e1 R1 r1 f1 => ⟨ρ, S1, θ1, R1, rs.ext e1, Fin.bind f1 fun x S2 θ2 H2 xv _ e2 R2 r2 f2 => by
    obtain ⟨a, o, h1, h2, h3⟩ := dIn_sem R2 (r1.ext e2) r2 f2
    exact ⟨a, o, h1, h2, h3⟩⟩⟩⟩
theorem dc_notin {i o : Expr} {a b : M D} (hu : X.A.units + 1 < cLine) (hi : PE X i (rdE B a)) (ho : PE X o (rdE B b)) : PC X .NotIn i o (rdE B (mDIn true a b)) :=
  ⟨fun pins s σ H Q I ⟨ρ, S, θ, R0, rs, f⟩ => (pc_dnotin hu hi ho).run pins s σ H Q I ⟨ρ, S, θ, R0, rs, Fin.bind f fun y S1 θ1 H1 yv _ e1 R1 r1 f1 => ⟨ρ, S1, θ1, R1, rs.ext e1, Fin.bind f1 fun x S2 θ2 H2 xv _ e2 R2 r2 f2 => by
    obtain ⟨a, o, h1, h2, h3⟩ := dIn_sem R2 (r1.ext e2) r2 f2
    exact ⟨a, o, h1, h2, h3⟩⟩⟩⟩
def dPutD (y v x : D) (S : Store) (k : Store → SR) : SR := match x with
  | .ref n => match S[n]?, keyD y with
    | some (.dct kvs), some kk => if kvs.length < 16777216 then k (S.set n (.dct (putKD kvs kk v))) else .bad
    | _, _ => .bad
  | _ => .bad
/-- d[y] = v: v, d, y -/
def sDPutM (v d y : M D) : SM := fun ρ S => (v ρ S).toS ρ fun vv S1 => (d ρ S1).toS ρ fun dv S2 => (y ρ S2).toS ρ fun yv S3 => dPutD yv vv dv S3 fun S4 => .nx ρ S4
theorem ds_dput {o i value : Expr} {pos' : Pos} {v d y : M D} (hu : X.A.units + 1 < cLine) (ho : PE X o (rdE B d)) (hi : PE X i (rdE B y)) (hv : PE X value (rdE B v)) (hs : swapsWith value (some (.Subscript o i pos')) pos.line X.env = pure false := by rfl) :
    PS X (.Assign [.Subscript o i pos'] value pos) (rdS B (sDPutM v d y)) :=
  PS.imp (ps_dput hu ho hi hv hs) fun D σ H ⟨ρ, S, θ, R0, rs, f⟩ => ⟨ρ, S, θ, R0, rs, FinS.bind rs f fun vv S1 θ1 H1 v1 _ e1 R1 r1 f1 => ⟨ρ, S1, θ1, R1, rs.ext e1, FinS.bind (rs.ext e1) f1 fun dv S2 θ2 H2 v2 _ e2 R2 r2 f2 =>
    ⟨ρ, S2, θ2, R2, (rs.ext e1).ext e2, FinS.bind ((rs.ext e1).ext e2) f2 fun yv S3 θ3 H3 v3 _ e3 R3 r3 f3 => by
    have r2' := r2.ext e3
    have r1' := (r1.ext e2).ext e3
    unfold dPutD at f3
    cases dv with
    | ref n =>
      replace f3 : FinS B θ3 H3 (match S3[n]?, keyD yv with | some (.dct kvs), some kk => if kvs.length < 16777216 then .nx ρ (S3.set n (.dct (putKD kvs kk vv))) else .bad | _, _ => .bad) D := f3
      cases r2' with
      | ref hn =>
        cases q7 : S3[n]? with
        | none => rw [q7] at f3; exact f3.elim
        | some c =>
          cases c with
          | lst _ => rw [q7] at f3; exact f3.elim
          | rev _ _ => rw [q7] at f3; exact f3.elim
          | dct kvs =>
            cases q8 : keyD yv with
            | none => rw [q7, q8] at f3; exact f3.elim
            | some kk =>
              rw [q7, q8] at f3
              by_cases hl : kvs.length < 16777216
              · replace f3 : FinS B θ3 H3 (.nx ρ (S3.set n (.dct (putKD kvs kk vv)))) D := by
                  have f4 : FinS B θ3 H3 (if kvs.length < 16777216 then .nx ρ (S3.set n (.dct (putKD kvs kk vv))) else .bad) D := f3
                  rwa [if_pos hl] at f4
                obtain ⟨es, g1, g2⟩ := R3.cells _ _ _ hn q7
                have ek := keyD_ok r3 q8
                subst ek
                have w := R3.writeC (o := .dK (putK es kk v1)) (c1 := .dct (putKD kvs kk vv)) hn q7 fun e => ⟨_, upd_same, (g2.put r1').ext e⟩
                refine ⟨_, _, rfl, DPut.k g1 (by rw [← g2.length, sizeLine_eq]; exact hl), ?_⟩
                exact f3 θ3 σ _ w.1 w.2 ((((rs.ext e1).ext e2).ext e3).ext w.1)
              · have f4 : FinS B θ3 H3 (if kvs.length < 16777216 then .nx ρ (S3.set n (.dct (putKD kvs kk vv))) else .bad) D := f3
                rw [if_neg hl] at f4
                exact f4.elim
    | _ => exact f3.elim⟩⟩⟩
end
end DM

namespace DM
open PySem PySem.Spec L2 LamX
open PyProof.Rows hiding St

theorem hu100 {k : Nat} {A : Around} (r : Room k A) : A.units + 100 < cLine := by have := r.un; omega
section
variable {P : Program} {w : World} {mg : Str → Option Value} {base : Heap} {G : Gv} {N : List Str} {sc : Scope} {k : Nat} {X : Cx} {B : Bv}
theorem Body.tr (hB : Body P w mg base G N sc k X B) {W : WX} {pn : List (Addr × Obj)} {xe : Value → Shared → Prop} (tk : Takes (X.tr pn xe) W) (own : PassesOwn (model X.prog X.w) X.A X.env xe) : Body P w mg base G N sc k (X.tr pn xe) ⟨B.G, B.F, W⟩ :=
  ⟨hB.gK, hB.gf, hB.gc, hB.gn, hB.gt, hB.K, hB.mg, hB.prog, hB.w, hB.base, hB.N, hB.sc, hB.calm, hB.room, hB.gd, tk, own, hB.stk, hB.frm, hB.ex, hB.fn⟩
end
/-- an own error without an __init__ of its own -/
structure Er0 (K : PySem.W.Frag) (mg : Str → Option Value) (x : Str) (C : Addr) : Prop where
  q : ∃ (B newId initId : String) (bmB : List Value), ExcBaseFacts B newId initId bmB ∧ PySem.W.excIn K C bmB newId = true
  g : mg x = some (.ref C)
  k : PySem.W.keepIn K (.ref C) = true
  sb : PySem.W.subIn K (.ref C) (.type "BaseException") = some true
  ty : PySem.W.typeIn K (.ref C) = some (.type "type")
/-- an own error with an __init__ of its own -/
structure Er1 (P : Program) (K : PySem.W.Frag) (mg : Str → Option Value) (x : Str) (C : Addr) (f : Str) : Prop where
  q : ∃ (fI : Addr) (st : Stmt) (qual pv msg : Str) (B newId initId : String) (bmB : List Value), IniC P K mg C fI st qual f B newId initId bmB ∧ IniS st qual f pv msg
  g : mg x = some (.ref C)
  k : PySem.W.keepIn K (.ref C) = true
  sb : PySem.W.subIn K (.ref C) (.type "BaseException") = some true
  ty : PySem.W.typeIn K (.ref C) = some (.type "type")
  xf : XfC K C
  xn : PySem.W.findIn K (.ref C) f = some none
section
variable {X : Cx} {B : Bv} {pos : Pos}
theorem pmk_er0 {K : PySem.W.Frag} {x m : Str} {C : Addr} {j : Nat} {p p2 : Pos} (T : Er0 K X.mg x C) (hK : X.K = K) (hg : Gl X x) (hdb : (x == ("__debug__" : Str)) = false := by decide) : PMk X (.Call (.Name x p) [.Constant (.str m) j p2] [] pos) (fun _ H Q => Q (.ref C) none H) := by
  subst hK
  obtain ⟨B, newId, initId, bmB, F, q⟩ := T.q
  exact pmk_own F q T.g T.k (raises_own T.sb T.ty) hg hdb
theorem pmk_er1 {K : PySem.W.Frag} {x f : Str} {C : Addr} {p : Pos} {e : Expr} {te : TE} (T : Er1 X.prog K X.mg x C f) (hK : X.K = K) (hr : Room 1 X.A) (hg : Gl X x) (he : PE X e te)
    (hdb : (x == ("__debug__" : Str)) = false := by decide) (hst : starEach [e] X.env = (false, eval e X.env) :: starEach [] X.env := by rfl) (hpl : (backTo pos (starEach [] X.env)).any (·.1) = false := by rfl) : PMk X (.Call (.Name x p) [e] [] pos) (tIni C f te) := by
  subst hK
  obtain ⟨fI, st, qual, pv, msg, B, newId, initId, bmB, I, S⟩ := T.q
  exact pmk_ini I S (raises_own T.sb T.ty) T.k hr hg T.g he hdb hst hpl
end
end DM

set_option maxHeartbeats 2000000
namespace DM
open PySem PySem.Spec L2 LamX
open PyProof.Rows hiding St

/-- what the start tracks: the script's list, empty tables -/
def Only2 (ts : List Addr) (H : Hp) : Prop := ∀ b, H b = none ∨ (b ∈ ts ∧ H b = some (.tbl #[])) ∨ ∃ o xs, H b = some (.frz o (.lst xs))
theorem law_spT {G : Gv} {m : Fm} (hm : LawTrue m) {H : Hp} {a : Addr} {ns : List Int} {ts : List Addr} (hl : ns.length ≤ 63) (hO : Only2 ts H) (ha : a ∉ ts) (hT : Tabs G.tt H) (hS : SqL G.K H a (ns.map V.int)) : spD G 1 m [.ref a] H (fun v _ => v = .bl true) fun _ _ _ => False := by
  obtain ⟨S, e⟩ := hm ns hl
  have fl : FL G.K H a (ns.map V.int) := by
    rcases hS with (h | ⟨o, h⟩) | h
    · rcases hO a with z | ⟨z, _⟩ | ⟨o, xs, z⟩
      · rw [z] at h; cases h
      · exact absurd z ha
      · rw [z] at h; cases h
    · exact .inl ⟨o, h⟩
    · exact .inr h
  refine ⟨fun _ => False, [.kst (ns.map .int)], [], [], rfl, ⟨rfl, List.nodup_nil, fun n a c h => by simp at h, .refl, fun _ h => h.elim, hT⟩, .cons (.kst fl (rds_ints ns)) .nil, ?_⟩
  rw [e]
  intro θ' H' v _ _ r
  cases r
  rfl
/-- the tables of the law's run: the code objects and their tables, their names -/
structure TabsAt (K : PySem.W.Frag) (h : Heap) (cs : List (Addr × Addr)) : Prop where
  hT : ∀ p ∈ cs, h.get? p.2 = some { cls := .none, data := .fields #[] }
  nT : ∀ p ∈ cs, K.lookup p.2 = none
  C : ∀ p ∈ cs, PySem.W.CodeHd h p.1 p.2
theorem law_callT {P : Program} {w : World} {K : PySem.W.Frag} {mg mb : Str → Option Value} {k : Nat} {fa a : Addr} {cs : List (Addr × Addr)} {fd : FuncData} {x : Str} {sp : Sp} {s₁ : Shared} {vs : List Value} {ns : List Int}
    (KX : K.In s₁.heap) (hns : s₁.heap.Ns mainGlobals mg) (hb : s₁.heap.Ns builtinsNs mb) (hbb : ∀ x : Str, x ≠ "__name__" → mb x = bootBuiltins x) (hlim : s₁.heap.NoLimit) (hg : s₁.gens = #[]) (TT : TabsAt K s₁.heap cs)
    (hbm : ∃ (bm : Addr) (ob : Obj), mg "__builtins__" = some (.ref bm) ∧ bm ≠ builtinsNs ∧ s₁.heap.get? bm = some ob ∧ ob.cls = .type "module" ∧ ob.dict = some builtinsNs ∧ ob.data = .plain)
    (ha : s₁.heap.get? a = some { cls := .type "list", data := .seq vs.toArray }) (hi : PyProof.Rows.IntsAre vs ns) (hl : ns.length ≤ sizeLine) (hr : Room k callerA)
    (FF : ∀ base : Heap, K.In base → base.Ns mainGlobals mg → (∀ p ∈ cs, TabB base mg p.1 p.2) → FnG P w K mg base k fa fd [x] sp) (hbind : ∀ (s : Shared) (u : Value), BindsTo s fd ⟨[u], []⟩ [(x, u)])
    (hsp : ∀ H : Hp, Only2 (cs.map (·.2)) H → a ∉ cs.map (·.2) → (∀ p ∈ cs, H p.2 = some (.tbl #[])) → SqL K H a (ns.map V.int) → sp [.ref a] H (fun v _ => v = .bl true) fun _ _ _ => False) :
    codeAny (model P w) callerA (.call (.ref fa) ⟨[.ref a], []⟩) (fun r s' => r = .ok (.ret (.bool true)) ∧ OldK s₁.heap s'.heap ∧ s'.os = s₁.os ∧ AllBare s'.gens) s₁ := by
  obtain ⟨hT, nT, C⟩ := TT
  have rv := vals_ints hi
  have lenV := hi.length
  have isT : ∀ b : Addr, b ∈ cs.map (·.2) → s₁.heap.get? b = some { cls := .none, data := .fields #[] } := fun b hb => by
    obtain ⟨p, hp, rfl⟩ := List.mem_map.mp hb
    exact hT p hp
  have memT : ∀ p ∈ cs, p.2 ∈ cs.map (·.2) := fun p hp => List.mem_map.mpr ⟨p, hp, rfl⟩
  have aT : a ∉ cs.map (·.2) := fun z => by
    have q := isT a z
    rw [ha] at q
    have z' : Data.seq vs.toArray _ = Data.fields #[] := congrArg Obj.data (Option.some.inj q)
    cases z'
  suffices core : ∀ H : Hp, (∀ p ∈ cs, H p.2 = some (.tbl #[])) → Only2 (cs.map (·.2)) H → SqL K H a (ns.map V.int) → HOk P w H s₁.heap → (∀ b, H b ≠ none → b = a ∨ b ∈ cs.map (·.2)) → (H a ≠ none → K.lookup a = none) →
      codeAny (model P w) callerA (.call (.ref fa) ⟨[.ref a], []⟩) (fun r s' => r = .ok (.ret (.bool true)) ∧ OldK s₁.heap s'.heap ∧ s'.os = s₁.os ∧ AllBare s'.gens) s₁ by
    cases hk : K.lookup a with
    | some o =>
      have e := KX a o hk
      rw [ha] at e
      cases e
      let H0 : Hp := fun b => if b ∈ cs.map (·.2) then some (.tbl #[]) else none
      have on : ∀ {b : Addr}, b ∈ cs.map (·.2) → H0 b = some (.tbl #[]) := fun h => if_pos h
      have off : ∀ {b : Addr}, b ∉ cs.map (·.2) → H0 b = none := fun h => if_neg h
      refine core H0 (fun p hp => on (memT p hp)) (fun b => ?_) (.inr ⟨_, vs.toArray, _, hk, rfl, rfl, rfl, by rw [List.size_toArray, lenV]; exact hl, by simpa using rv⟩) (fun b u z => ?_) (fun b z => ?_) fun z => absurd (off aT) z
      · by_cases hb : b ∈ cs.map (·.2)
        · exact .inr (.inl ⟨hb, on hb⟩)
        · exact .inl (off hb)
      · by_cases hb : b ∈ cs.map (·.2)
        · rw [on hb] at z; cases z
          exact isT b hb
        · rw [off hb] at z; cases z
      · by_cases hb : b ∈ cs.map (·.2)
        · exact .inr hb
        · exact absurd (off hb) z
    | none =>
      let H0 : Hp := fun b => if b = a then some (.frz { cls := .type "list", data := .seq vs.toArray } (.lst (ns.map V.int))) else if b ∈ cs.map (·.2) then some (.tbl #[]) else none
      have at_a : H0 a = some (.frz { cls := .type "list", data := .seq vs.toArray } (.lst (ns.map V.int))) := if_pos rfl
      have na : ∀ {b : Addr}, b ∈ cs.map (·.2) → b ≠ a := fun h z => aT (z ▸ h)
      have on : ∀ {b : Addr}, b ∈ cs.map (·.2) → H0 b = some (.tbl #[]) := fun h => (if_neg (na h)).trans (if_pos h)
      have off : ∀ {b : Addr}, b ≠ a → b ∉ cs.map (·.2) → H0 b = none := fun h1 h2 => (if_neg h1).trans (if_neg h2)
      refine core H0 (fun p hp => on (memT p hp)) (fun b => ?_) (.inl (.inr ⟨_, at_a⟩)) (fun b u z => ?_) (fun b z => ?_) fun _ => hk
      · by_cases h : b = a
        · subst h; exact .inr (.inr ⟨_, _, at_a⟩)
        · by_cases hb : b ∈ cs.map (·.2)
          · exact .inr (.inl ⟨hb, on hb⟩)
          · exact .inl (off h hb)
      · by_cases h : b = a
        · subst h
          rw [at_a] at z; cases z
          exact ⟨ha, by rw [List.length_map]; exact hl, vs, _, rv, ha⟩
        · by_cases hb : b ∈ cs.map (·.2)
          · rw [on hb] at z; cases z
            exact isT b hb
          · rw [off h hb] at z; cases z
      · by_cases h : b = a
        · exact .inl h
        · by_cases hb : b ∈ cs.map (·.2)
          · exact .inr hb
          · exact absurd (off h hb) z
  intro H hH hO hS hok hA hK
  have noD : ∀ {b : Addr} {o : Obj}, s₁.heap.get? b = some o → (∀ vs n, o.data ≠ .seq vs n) → o.data ≠ .fields #[] → H b = none := fun {b o} e h1 h2 => by
    cases q : H b with
    | none => rfl
    | some u =>
      rcases hA b (by rw [q]; exact fun z => by cases z) with e' | e'
      · rw [e', ha] at e; cases e
        exact (h1 _ _ rfl).elim
      · rw [isT b e'] at e; cases e
        exact (h2 rfl).elim
  have noA : ∀ {b : Addr} {o : Obj} {es : Array DictEntry} {ep : Nat}, s₁.heap.get? b = some o → o.data = .dict es ep → H b = none := fun {b o es ep} e d => noD e (fun vs n z => by rw [d] at z; cases z) fun z => by rw [d] at z; cases z
  have nsK : ∀ {b : Addr} {m : Str → Option Value}, s₁.heap.Ns b m → (hidT s₁.heap H).Ns b m := fun {b m} ⟨o, es, ep, e, d, r⟩ => ⟨o, es, ep, hidT_get e (noA e d), d, r⟩
  have hKb : K.In (hidT s₁.heap H) := fun b o e => hidT_get (KX b o e) (by
    cases q : H b with
    | none => rfl
    | some u =>
      have hn : H b ≠ none := by rw [q]; exact fun z => by cases z
      rcases hA b hn with e' | e'
      · subst e'
        rw [hK hn] at e; cases e
      · obtain ⟨p, hp, ep⟩ := List.mem_map.mp e'
        rw [← ep, nT p hp] at e
        cases e)
  have TB : ∀ p ∈ cs, TabB (hidT s₁.heap H) mg p.1 p.2 := fun p hp => by
    have hTp := hT p hp
    refine ⟨?_, ?_, fun z => ?_⟩
    · obtain ⟨o, us, file, tf, flags, tg, inF, text, tt, e1, r1, r2, r3, r4, r5, r6, r7, r8, hne⟩ := C p hp
      exact ⟨o, us, file, tf, flags, tg, inF, text, tt, hidT_get e1 (noD e1 (fun vs n z => by rw [r2] at z; cases z) fun z => by rw [r2] at z; cases z; simp at r3), r1, r2, r3, r4, r5, r6, r7, r8, hne⟩
    · obtain ⟨bm, ob, b1, b2, b3, b4, b5, b6⟩ := hbm
      have nG : bm ≠ mainGlobals := fun q => by
        obtain ⟨o, es, ep, e, hd, _⟩ := hns
        rw [q, e] at b3; cases b3
        rw [hd] at b6; cases b6
      have nP : bm ≠ p.2 := fun q => by
        rw [q, hTp] at b3; cases b3
        cases b6
      exact ⟨bm, ob, b1, b2, nG, nP, hidT_get b3 (noD b3 (fun vs n z => by rw [b6] at z; cases z) fun z => by rw [b6] at z; cases z), b4, b5, b6⟩
    · obtain ⟨o, es, ep, e, hd, _⟩ := hns
      rw [z, hTp] at e; cases e
      cases hd
  obtain ⟨mc, l1, l2⟩ := hlim
  have e0 : Env0 P w K mg (hidT s₁.heap H) callerA [] s₁ H :=
    ⟨rfl, ⟨hKb, nsK hns, ⟨mb, nsK hb, hbb⟩, mc, nsK l1, l2⟩, fun b o e => of_hidT e, Nat.le_of_eq (hidT_size _ _), trivial, fun b hb => absurd hb (by simp [frs]), hok, .of_eq hg⟩
  refine codeAny_mono ((FF _ hKb (nsK hns) TB).run callerA [] s₁ H ⟨[.ref a], []⟩ [.ref a] [.ref a] _ _ hr rfl e0 (hbind s₁ (.ref a)) (.cons rfl .nil) (hsp H hO aT hH hS)) fun r s' h => ?_
  match r, h with
  | .error e, h =>
    obtain ⟨_, _, _, _, _, _, _, _, _, _, _, _, z⟩ := h
    exact z.elim
  | .ok (.ret u), h =>
    obtain ⟨v, H', os, bare, un, hok', r', q⟩ := h
    have q' : v = .bl true := q
    subst q'
    have r2 : u = Value.bool true := r'
    subst r2
    have key : ∀ b o, b ∉ cs.map (·.2) → s₁.heap.get? b = some o → s'.heap.get? b = some o := fun b o nb e => by
      cases q : H b with
      | none => exact un.keep b o e q (by simp [frs]) (by simp)
      | some u =>
        rcases hO b with z | ⟨z, _⟩ | ⟨ob, xs, z⟩
        · rw [q] at z; cases z
        · exact absurd z nb
        · have z2 := un.frzs b ob _ z
          obtain ⟨e1, _⟩ := hok b _ z
          obtain ⟨e2, _⟩ := hok' b _ z2
          rw [e] at e1; cases e1
          exact e2
    have grown : ∀ p ∈ cs, ∃ more : Array Value, s'.heap.get? p.2 = some { cls := .none, data := .fields more } := fun p hp => by
      obtain ⟨more, z⟩ := un.tbls p.2 #[] (hH p hp)
      exact ⟨_, hok' p.2 _ z⟩
    refine ⟨rfl, ⟨fun b o e => ?_, fun b o e => ?_⟩, os, bare⟩
    · by_cases hb : b ∈ cs.map (·.2)
      · obtain ⟨p, hp, ep⟩ := List.mem_map.mp hb
        obtain ⟨more, hm⟩ := grown p hp
        rw [← ep] at e ⊢
        rw [hT p hp] at e; cases e
        exact .inr (.inl ⟨((C p hp).tab (hT p hp)).isCodeTable, rfl, #[], more, rfl, by rw [Array.empty_append]; exact hm⟩)
      · exact .inl (key b o hb e)
    · by_cases hb : b ∈ cs.map (·.2)
      · obtain ⟨p, hp, ep⟩ := List.mem_map.mp hb
        obtain ⟨more, hm⟩ := grown p hp
        rw [← ep]
        exact ⟨_, hm⟩
      · exact ⟨o, key b o hb e⟩
theorem tab_ofL {K : PySem.W.Frag} {x : Str} {f c P : Addr} {oc ccl : Value} {od cdd : Option Addr} {fd : FuncData} {osl ccs : Array (Option Value)} {vs : Array Value} (h1 : PySem.W.nsIn K mainGlobals x = some (some (.ref f))) (h2 : K.lookup f = some ⟨oc, od, .func fd, osl⟩) (h3 : fd.code = .ref c)
    (h4 : K.lookup c = some ⟨ccl, cdd, .fields vs, ccs⟩) (h5 : (vs[11]? : Option Value) = some (.ref P)) : PySem.W.tabIn K x = some (c, P) := by
  unfold PySem.W.tabIn
  rw [h1]
  dsimp only
  rw [h2]
  dsimp only
  rw [h3]
  dsimp only
  rw [h4]
  dsimp only
  rw [h5]
/-- the goal that the head leaves -/
theorem walk_endT {l : PySem.W.OpenLaw} {k : Nat} {q : Program} {loose : List Str} {XP : (Str → Option Value) → Heap → Prop} {YP : World → Heap → Prop} {d : DefRec} {K : Params → PySem.W.Frag} {x : Str} {m : Fm} (hm : LawTrue m)
    (hn : l.most = some 63) (hdf : d.params.defaults = []) (hr : Room k callerA) (hY : ∀ (w : World) (h : Heap), YP w h → (K w.params).In h)
    (FF : ∀ (w : World) (s₀ : Shared) (mg mb : Str → Option Value) (fa : Addr) (h : Heap), PySem.W.Ground q loose [] XP w s₀ mg mb h → (K w.params).In h → mg d.name = some (.ref fa) →
      ∃ (G : Gv) (fd : FuncData) (cs : List (Addr × Addr)), (G.K = K w.params ∧ TabsAt (K w.params) h cs ∧ ∀ p ∈ G.tt, p.1 ∈ cs.map (·.2)) ∧ (∀ (s : Shared) (u : Value), BindsTo s fd ⟨[u], []⟩ [(x, u)]) ∧
        ∀ base : Heap, (K w.params).In base → base.Ns mainGlobals mg → (∀ p ∈ cs, TabB base mg p.1 p.2) → FnG l.prog w (K w.params) mg base k fa fd [x] (spD G 1 m)) :
    PySem.W.WalkO q loose XP YP l.row.toRowW d [] (fun f vs => PySem.call f vs) := by
  refine Att.attach_call hn hdf fun w s₀ s₁ mg mb fa o pm cd doc a vs ns G Y ho hd hcd hmg hobj hints hlen hg => ?_
  have KX := hY w _ Y
  obtain ⟨Gv, fd, cs, ⟨hK, hT, hcs⟩, hb, hF⟩ := FF w s₀ mg mb fa _ G KX hmg
  refine law_callT KX G.T.g G.T.b G.T.builtins G.T.nolimit hg hT G.T.bmain hobj hints (Nat.le_trans hlen (by decide)) hr hF hb fun H hO ha hH hS => law_spT hm hlen hO ha (fun p hp => ?_) (hK ▸ hS)
  obtain ⟨z, hz, e⟩ := List.mem_map.mp (hcs p hp)
  exact TabS.nil (e ▸ hH z hz)
end DM

namespace DM
open PySem PySem.Spec L2
open PyProof.Rows hiding St

theorem hu2 {k : Nat} {A : Around} (r : Room k A) : A.units + 1 < cLine := by have := r.un; omega
theorem fx_kX {G : Gv} {f : Addr} (h : G.fa kX = none) : (G.fx kL f).fa kX = none := by
  show (if kX = kL then some f else G.fa kX) = none
  rw [if_neg (by decide)]
  exact h
def clsBody : Stmt → List Stmt
  | .ClassDef _ _ _ b _ _ _ _ _ _ _ => b
  | _ => []
/-- a written tuple of ints and texts -/
def KTup (K : PySem.W.Frag) (a : Addr) (ds : List D) : Prop :=
  ∃ (o : Obj) (its : Array Value) (n : Nat) (xs : List V), K.lookup a = some o ∧ o.cls = .type "tuple" ∧ o.dict = none ∧ o.data = .seq its n ∧ its.size ≤ sizeLine ∧ Vals xs its.toList ∧ ∀ (G : Gv) (θ : List Addr) (H : Hp), RDs G θ H ds xs
section
variable {X : Cx} {B : Bv} {pos : Pos}
theorem de_gt {x : Str} {ds : List D} (hg : Gl X x) (hK : B.G.K = X.K) (hm : ∃ a, X.mg x = some (.ref a) ∧ KTup X.K a ds) (hd : (x == ("__debug__" : Str)) = false := by decide) : PE X (.Name x pos) (rdE B (mC (.tup ds))) := by
  obtain ⟨a, e, o, its, n, xs, h1, h2, h3, h4, h5, h6, h7⟩ := hm
  exact de_c (v := .ref a) (pe_glob hg e rfl hd) fun θ H => .tup (.inr ⟨o, its, n, by rw [hK]; exact h1, h2, h3, h4, h5, h6⟩) (h7 _ _ _)
theorem de_ofC {op : CmpOp} {a b : Expr} {m : M D} (h : PC X op a b (rdE B m)) (h1 : behindInMarks op b = false) : PE X (.Compare a [op] [b] pos) (rdE B m) := pe_cmp h h1
theorem mDIn_bl {neg : Bool} {a b : M D} {ρ : Env} {S S1 : Store} {x : D} (h : mDIn neg a b ρ S = .ok x S1) : ∃ c, x = .bl c := by
  unfold mDIn at h
  cases q1 : a ρ S with
  | exc => rw [q1] at h; cases h
  | bad => rw [q1] at h; cases h
  | ok y S2 =>
    rw [q1] at h
    replace h : (b ρ S2).bind (fun x S3 => dInD neg y x S3) = .ok x S1 := h
    cases q2 : b ρ S2 with
    | exc => rw [q2] at h; cases h
    | bad => rw [q2] at h; cases h
    | ok z S3 =>
      rw [q2] at h
      replace h : dInD neg y z S3 = .ok x S1 := h
      unfold dInD at h
      split at h
      · cases h; exact ⟨_, rfl⟩
      · cases h
theorem dt_ofC {op : CmpOp} {a b : Expr} {neg : Bool} {ma mb : M D} (h : PC X op a b (rdE B (mDIn neg ma mb))) (h1 : behindInMarks op b = false) : PT X (.Compare a [op] [b] pos) (rdT B (mTest (mDIn neg ma mb))) :=
  PT.imp (pt_cmp h h1) fun σ H Q ⟨ρ, S, θ, R0, rs, f⟩ => ⟨ρ, S, θ, R0, rs, Fin.bind f fun x S1 θ1 H1 v e e1 R1 r1 f1 => by
    obtain ⟨c, rfl⟩ := mDIn_bl e
    cases r1
    exact ⟨c, rfl, Fin.ok (a := c) f1 .refl R1 rfl⟩⟩
def mStar (a : M D) (r : M (List D)) : M (List D) := fun ρ S => (a ρ S).bind fun x S1 => match getSeq x S1 with
  | some ds => (r ρ S1).bind fun xs S2 => .ok (ds ++ xs) S2
  | none => .bad
theorem da_star {e : Expr} {es : List Expr} {p : Pos} {a : M D} {r : M (List D)} (hK : B.G.K = X.K) (ha : PE X e (rdE B a)) (hr : PA X es (rdA B r)) (hs : starEach (.Starred e p :: es) X.env = (true, eval e X.env) :: starEach es X.env := by rfl) : PA X (.Starred e p :: es) (rdA B (mStar a r)) :=
  PA.imp (StX.pa_star ha hr hs) fun σ H Q ⟨ρ, S, θ, R0, rs, f⟩ => ⟨ρ, S, θ, R0, rs, Fin.bind f fun x S1 θ1 H1 v _ e1 R1 r1 f1 => by
    cases q : getSeq x S1 with
    | none => rw [q] at f1; exact f1.elim
    | some ds =>
      rw [q] at f1
      obtain ⟨p, xs, h1, h2, h3⟩ := getSeq_ok R1 r1 q
      refine ⟨p, xs, h1, by rw [← hK]; exact h2.symm, ρ, S1, θ1, R1, rs.ext e1, Fin.bind f1 fun ys S2 θ2 H2 ws _ e2 R2 r2 f2 => f2.ok .refl R2 ((h3.ext e2).append r2)⟩⟩
end
theorem er1_mk {P : Program} {K : PySem.W.Frag} {mg : Str → Option Value} {x f pv msg qual : Str} {C fI cc cda : Addr} {st : Stmt} {B newId initId : String} {bmB : List Value} {oc kV doc pm ct cl ccl : Value} {od an cld cdd : Option Addr} {osl csl ccs : Array (Option Value)} {vs : Array Value} {file : Str} {tf : Tok} {cd : ClassData}
    (F : ExcBaseFacts B newId initId bmB) (KF : PySem.W.KxsFacts B initId) (SF : StoreFacts B bmB "object.__setattr__" "object") (S : IniS st qual f pv msg)
    (g : mg x = some (.ref C)) (k : PySem.W.keepIn K (.ref C) = true) (sb : PySem.W.subIn K (.ref C) (.type "BaseException") = some true) (ty : PySem.W.typeIn K (.ref C) = some (.type "type"))
    (q : PySem.W.excInitIn K C bmB newId = true) (ov : PySem.W.excOver K C bmB = true) (iC : PySem.W.findIn K (.ref C) "__init__" = some (some (.ref fI))) (tI : PySem.W.typeIn K (.ref fI) = some (.type "function"))
    (lF : K.lookup fI = some ⟨oc, od, .func (PySem.W.ksFn "__init__" qual (defArgs st) (defBody st) (defScope st) .none kV doc pm an (.ref cda) ct cc), osl⟩) (cI : PySem.W.codeIn K (.ref cda) qual = true)
    (lc : K.lookup cc = some ⟨cl, cld, .cell (some (.ref C)), csl⟩) (ld : K.lookup cda = some ⟨ccl, cdd, .fields vs, ccs⟩) (hvs : vs[2]? = some (.str file tf)) (hfile : ((P.main.file : Str) == file) = true) (top : (P.main.scope.names.lookup ("super" : Str)).isSome = false) (gs : mg "super" = none)
    (hcd : PySem.W.clsIn K C = some cd) (hdd : cd.hasDict = true) (mro : PySem.W.mroIn K C (.ref C) = some true) (sup : PySem.W.ks_superIn K C C "__init__" = some (some (.builtin initId))) (sB : PySem.W.subIn K (.ref C) (.type B) = some true) (any : PySem.W.nsIn K cStatics "thirdparty.any" = some none)
    (sa : PySem.W.findIn K (.ref C) "__setattr__" = some (some (.builtin "object.__setattr__"))) (tk : PySem.W.takerIn K C f = some none) (ga : PySem.W.findIn K (.ref C) "__getattribute__" = some (some (.builtin "BaseException.__getattribute__"))) (gg : PySem.W.findIn K (.ref C) "__getattr__" = some none)
    (hdC : PySem.W.hasDictIn K C = true) (xn : PySem.W.findIn K (.ref C) f = some none) : Er1 P K mg x C f :=
  ⟨⟨fI, st, qual, pv, msg, B, newId, initId, bmB, ⟨F, KF, SF, q, ov, iC, tI, ⟨oc, .none, kV, doc, pm, ct, od, an, osl, cc, cda, rfl, lF, cI, ⟨cl, cld, csl, lc⟩, ⟨ccl, cdd, vs, ccs, file, tf, ld, hvs, hfile⟩⟩, top, gs, ⟨cd, hcd, hdd⟩, mro, sup, sB, any, sa, tk⟩, S⟩, g, k, sb, ty, ⟨ga, gg, sb, hdC⟩, xn⟩
end DM

namespace DM
open PySem PySem.Spec L2
open PyProof.Rows hiding St
open AutoSeq1 (wpAny_loadPart')

theorem meets_enum1 {v : Value} {o : Obj} {Hh : Heap → Prop} (Bg : Begins v o Hh) :
    Meets (Builtin.«enumerate.__new__» ⟨[.type "enumerate", v], []⟩) (fun _ R s => Hh s.heap ∧
      R (.ok (.ret (.ref (s.heap.push o).objs.size))) { s with heap := (s.heap.push o).push { cls := .type "enumerate", data := .fields #[.none, .bool false, .ref s.heap.objs.size, rawInt 0, .none, .none] } }) :=
  .of_wp fun prog w A R s h => by
    obtain ⟨hp, g, d, tk, os⟩ := s; obtain ⟨h1, h⟩ := h
    have hsub := sub_enumerate
    have q1 : ∀ {A : Around} {E : Value → Shared → Prop} {Q : Value → Shared → Prop}, Q (.ref hp.objs.size) ⟨hp.push o, g, d, tk, os⟩ → wpAny (model prog w) A (pyIter v) Q E ⟨hp, g, d, tk, os⟩ := fun {A E Q} z => Bg.iter prog w A E ⟨hp, g, d, tk, os⟩ Q h1 z
    wp_walk using q1
    refine wpAny_stack_any fun st => wpAny_pure ?_
    split
    · rename_i c _ _ _ _ _
      cases (c == Value.type "enumerate")
      · wp_walk using q1
        exact ⟨_, rfl, h⟩
      · wp_walk using q1
        exact ⟨_, rfl, h⟩
    · wp_walk using q1
      exact ⟨_, rfl, h⟩
theorem call_enum1 {P : Program} {w : World} {A : Around} {E : Value → Shared → Prop} {s : Shared} {v : Value} {o : Obj} {Hh : Heap → Prop} {Q : Value → Shared → Prop} (Bg : Begins v o Hh) (h1 : Hh s.heap)
    (h : ∀ h', IsEnum h' (s.heap.objs.size + 1) s.heap.objs.size 0 .none → h'.get? s.heap.objs.size = some o → (∀ b u, s.heap.get? b = some u → h'.get? b = some u) → Q (.ref (s.heap.objs.size + 1)) { s with heap := h' }) :
    wpAny (model P w) A (call (.type "enumerate") [v]) Q E s := by
  refine callType_new F.called_enumerate (by decide) (F.typeCall_enumerate_1 _) (F.newCall_enumerate_1 _) (fun obj => F.args_object_init_2 obj _) F.entry_enumerate_new (meets_enum1 Bg) ⟨h1, ?_⟩
  have hz : (s.heap.push o).objs.size = s.heap.objs.size + 1 := Heap.size_push ..
  show _ ∧ _
  rw [hz]
  have he : IsEnum ((s.heap.push o).push { cls := .type "enumerate", data := .fields #[.none, .bool false, .ref s.heap.objs.size, rawInt 0, .none, .none] }) (s.heap.objs.size + 1) s.heap.objs.size 0 .none := by
    have := Heap.get?_push_size (s.heap.push o) (o := { cls := .type "enumerate", data := .fields #[.none, .bool false, .ref s.heap.objs.size, rawInt 0, .none, .none] }) rfl
    rw [hz] at this; exact this
  exact ⟨⟨_, he, rfl⟩, h _ he (Heap.get?_push_of_some _ (Heap.get?_push_size _ Bg.free)) fun b u x => Heap.get?_push_of_some _ (Heap.get?_push_of_some _ x)⟩

/-- a tuple's items with their places, in new pairs -/
def IteT (K : PySem.W.Frag) (a : Addr) : It :=
  ⟨fun i H => ∃ (xs : List V) (x : V), SqT K H a xs ∧ xs[i]? = some x, fun i H v H' => ∃ T x, v = .ref T ∧ H T = none ∧ H' = upd H T (.tup [.int (i : Nat), x]) ∧ ∀ xs, SqT K H a xs → xs[i]? = some x, fun i H => ∃ xs : List V, SqT K H a xs ∧ xs.length = i⟩
theorem turn_enumT {P : Program} {w : World} {K : PySem.W.Frag} {elts : List Expr} {kk : Nat} {tpos : Pos} (a e it : Addr) (na : a ≠ it) (ne : e ≠ a) :
    Turn P w K (.Tuple elts kk tpos) (IteT K a) [e, it] e (fun i h => (∃ old, IsEnum h e it ((i : Nat) : Int) old) ∧ h.IsTupleIter it a i ∧ e ≠ it) where
  mem := by simp
  obj := fun i h st b hb => by
    obtain ⟨⟨old, he⟩, ⟨o, ho, hc, hd⟩, _⟩ := st
    have e' : b = e ∨ b = it := by simpa using hb
    rcases e' with z | z
    · rw [z]; exact ⟨_, he, fun v q => nomatch q⟩
    · rw [z]; exact ⟨o, ho, fun v q => by rw [hd] at q; cases q⟩
  keep := fun i h h' st k => let ⟨⟨old, he⟩, hi, hne⟩ := st; ⟨⟨old, k e (by simp) _ he⟩, hi.at fun o q => k it (by simp) o q, hne⟩
  item := by
    intro X hP hw hK hc i pins s σ H E I hf st hg
    subst hP hw hK
    obtain ⟨⟨old, he⟩, hit, hne⟩ := st
    obtain ⟨xs, x, hq, hx⟩ := hg
    obtain ⟨its, rv, p, hz⟩ := I.tuple hq
    obtain ⟨u, hu, ru⟩ := rv.get hx
    have hel : e < s.heap.objs.size := Heap.lt_size he
    have hil : it < s.heap.objs.size := by obtain ⟨_, q, _⟩ := hit; exact Heap.lt_size q
    have hlt : i < its.toArray.size := by
      have := (List.getElem?_eq_some_iff.mp hu).1
      simpa using this
    refine wpAny_pyNext_enum_itemD (Draws.tuple (A := X.A.in1) (show X.A.in1.handled = none from I.ok.hd hc) it a na its.toArray) he ⟨hit, p⟩ hlt hne (by simp [hne, ne]) fun u' h' tk hP' ho hst' hT hsz hk => ?_
    have eu : u' = u := by
      have z : its[i]? = some u' := by simpa using hP'
      rw [hu] at z; cases z; rfl
    subst eu
    refine ⟨_, rfl, wpAny_letOwnedTupleGo_enum (s := { s with heap := h', toks := tk + 1 }) ho fun h'' he' sb => ?_⟩
    have hT2 : h''.get? s.heap.objs.size = some { cls := .type "tuple", data := .seq #[.int i tk, u'] } := (sb.2 _ (Nat.ne_of_gt hel)).trans hT
    have new : ObjOk X.prog X.w (upd H s.heap.objs.size (.tup [.int (i : Nat), x])) h'' s.heap.objs.size (.tup [.int (i : Nat), x]) :=
      ⟨by show 2 ≤ sizeLine; decide, [.int i tk, u'], .cons ⟨_, rfl⟩ (.cons ru .nil), ⟨_, hT2, rfl, _, rfl⟩⟩
    have I1 : Inv X pins σ (upd H s.heap.objs.size (.tup [.int (i : Nat), x])) { s with heap := h'', toks := tk + 1 } :=
      I.turnedNew (ch := [e, it]) (fun b ob hb q => (sb.2 b (fun z => hb (by simp [z]))).trans (hk b ob (fun z => hb (by simp [z])) (fun z => hb (by simp [z])) q)) hf (Nat.le_refl _) new
    refine ⟨.ref s.heap.objs.size, _, I1, rfl, ⟨_, x, rfl, I.hok.fresh (Nat.le_refl _), rfl, fun ys hy => by rw [I.tuple_inj hy hq]; exact hx⟩, ⟨⟨u', ?_⟩, hst'.1.at fun o q => (sb.2 it (Ne.symm hne)).trans q, hne⟩, fun b hb => ?_⟩
    · have e1 : ((i + 1 : Nat) : Int) = (i : Int) + 1 := by omega
      rw [e1]; exact he'
    · have hb' : b < s.heap.objs.size := by
        have e' : b = e ∨ b = it := by simpa using hb
        rcases e' with z | z
        · rw [z]; exact hel
        · rw [z]; exact hil
      rw [upd_ne (Nat.ne_of_lt hb')]
      exact (hf b hb).1
  done := by
    intro X hP hw hK hc i pins s σ H E I hf st hg
    subst hP hw hK
    obtain ⟨⟨old, he⟩, hit, hne⟩ := st
    obtain ⟨xs, hq, hx⟩ := hg
    obtain ⟨its, rv, p, hz⟩ := I.tuple hq
    obtain ⟨f0, f1, f2, f3, f4, f5⟩ := hf it (by simp)
    have hl : its.toArray.size = i := by
      rw [List.size_toArray, ← rv.length]; exact hx
    subst hl
    exact wpAny_pyNext_enum_endD (Draws.tuple (A := X.A.in1) (show X.A.in1.handled = none from I.ok.hd hc) it a na its.toArray) he ⟨hit, p⟩ fun h' eb => ⟨rfl, I.turned (t' := s.toks) (fun b o hb q => eb b o hb q) f0 f1 f3 f4 f5⟩
  self := fun A i s Q E st h => let ⟨⟨_, he⟩, _⟩ := st; wpAny_pyIter_enum he h
def iEnumT (K : PySem.W.Frag) (ta : TA) : TI := fun σ H R => ta σ H fun vs H1 => ∃ a xs, vs = [.ref a] ∧ SqT K H1 a xs ∧ R (IteT K a) H1
theorem pi_enumT {X : Cx} {e : Expr} {ta : TA} {p pos tpos : Pos} {elts : List Expr} {kk : Nat} (hg : Gl X "enumerate") (hm : X.mg "enumerate" = none) (ha : PA X [e] ta) (hs : starEach [e] X.env = [(false, eval e X.env)] := by rfl) :
    PI X (.Tuple elts kk tpos) (.Call (.Name "enumerate" p) [e] [] pos) (iEnumT X.K ta) := by
  refine ⟨fun pins s σ H R I h => ?_⟩
  refine Call_ (ld_blt I hg hm PyProof.Rows.boot_enumerate (PyProof.Rows.callWith_type1 (thn (ha.run pos pins s σ H _ I h) fun us s1 ⟨vs, H1, I1, r1, q1⟩ => ?_) hs rfl))
  obtain ⟨a, xs, ex, hq, q⟩ := q1
  subst ex
  cases r1 with
  | cons r rr =>
    cases rr
    cases r
    obtain ⟨its, rv, p', hz⟩ := I1.tuple hq
    have hal : a < s1.heap.objs.size := by obtain ⟨o, e, _⟩ := p'; exact Heap.lt_size e
    refine call_enum1 (begins_tuple a its.toArray) p' fun h' he hit hk => wpAny_pyIter_enum he ?_
    have I2 : Inv X pins σ H1 { s1 with heap := h' } := I1.kept (t' := s1.toks) hk
    refine ⟨s1.heap.objs.size + 1, [s1.heap.objs.size + 1, s1.heap.objs.size], _, _, H1, rfl, I2, turn_enumT a (s1.heap.objs.size + 1) s1.heap.objs.size (Nat.ne_of_lt hal) (Nat.ne_of_gt (Nat.lt_succ_of_lt hal)), ⟨⟨.none, he⟩, ⟨_, hit, rfl, rfl⟩, Nat.succ_ne_self _⟩, fun b hb => ?_, q⟩
    have e' : b = s1.heap.objs.size + 1 ∨ b = s1.heap.objs.size := by simpa using hb
    have hle : s1.heap.objs.size ≤ b := by
      rcases e' with z | z
      · rw [z]; exact Nat.le_add_right _ _
      · rw [z]; exact Nat.le_refl _
    exact I1.fpOk hle (I1.hok.fresh hle)
section
variable {X : Cx} {B : Bv} {pos : Pos}
def nxEnT (xs : List D) : Nx := fun i _ => match xs[i]? with
  | some x => some (some (.pr [.int (i : Nat), x]))
  | none => if xs.length = i then some none else none
def nxEnL (d : D) : Nx := fun i S => (getL d S).map fun xs => xs[i]?.map fun x => .pr [.int (i : Nat), x]
theorem ri_enT {θ : List Addr} {H : Hp} {d0 : D} {ds : List D} {a : Addr} (hK : B.G.K = X.K) (k : tupOf d0 = some ds) (r : RD B.G θ H d0 (.ref a)) : RI B θ H (nxEnT ds) (IteT X.K a) := by
  intro i θ' S' H' e R0
  obtain ⟨a', xs, ea, h1, h2⟩ := tupOf_ok (r.ext e) k
  cases ea
  rw [hK] at h1
  unfold nxEnT
  cases q : ds[i]? with
  | none =>
    dsimp only
    by_cases c : ds.length = i
    · rw [if_pos c]
      exact ⟨fun _ => ⟨xs, h1, by rw [← h2.length]; exact c⟩, fun d z => by cases z⟩
    · rw [if_neg c]
      exact ⟨(fun z => by cases z), fun d z => by cases z⟩
  | some x =>
    refine ⟨(fun z => by cases z), fun d z => ?_⟩
    cases z
    obtain ⟨u, hu, ru⟩ := h2.get q
    refine ⟨⟨xs, u, h1, hu⟩, fun v H'' hy => ?_⟩
    obtain ⟨T, x', rfl, hT, rfl, m⟩ := hy
    have f := m xs h1
    rw [hu] at f
    cases f
    have ex : Ext θ' H' θ' (upd H' T (.tup [.int (i : Nat), u])) := .of_keep (keep_new hT)
    exact ⟨ex, R0.laid hT, .pr (.inl (.inl upd_same)) (.cons (.int _) (.cons (ru.ext ex) .nil))⟩
theorem ri_enL {θ : List Addr} {H : Hp} {d : D} {a : Addr} (hK : B.G.K = X.K) (r : RD B.G θ H d (.ref a)) : RI B θ H (nxEnL d) (Ite X.K a) := by
  intro i θ' S' H' e R0
  have r' := r.ext e
  unfold nxEnL
  cases q1 : getL d S' with
  | none => exact ⟨(fun z => by cases z), fun d z => by cases z⟩
  | some xs =>
    obtain ⟨us, h1, h2⟩ := getL_ref R0 r' q1
    rw [hK] at h1
    cases q : xs[i]? with
    | none =>
      refine ⟨fun _ => ⟨us, h1, by rw [← h2.length]; exact List.getElem?_eq_none_iff.mp q⟩, fun d z => ?_⟩
      simp [q] at z
    | some x =>
      refine ⟨fun z => ?_, fun d1 z => ?_⟩
      · simp [q] at z
      · have ez : d1 = .pr [.int (i : Nat), x] := by simpa [q] using z.symm
        subst ez
        obtain ⟨u, hu, ru⟩ := h2.get q
        refine ⟨⟨us, u, h1, hu⟩, fun v H'' hy => ?_⟩
        obtain ⟨T, x', rfl, hT, rfl, m⟩ := hy
        have f := m us h1
        rw [hu] at f
        cases f
        have ex : Ext θ' H' θ' (upd H' T (.tup [.int (i : Nat), u])) := .of_keep (keep_new hT)
        exact ⟨ex, R0.laid hT, .pr (.inl (.inl upd_same)) (.cons (.int _) (.cons (ru.ext ex) .nil))⟩
def enumD (ds : List D) (S : Store) : R Nx := match one1 ds with
  | some d => match tupOf d with
    | some xs => .ok (nxEnT xs) S
    | none => match getL d S with
      | some _ => .ok (nxEnL d) S
      | none => .bad
  | none => .bad
def mEnum (a : M (List D)) : M Nx := fun ρ S => (a ρ S).bind enumD
theorem di_enum {e : Expr} {elts : List Expr} {kk : Nat} {tpos : Pos} {ma : M (List D)} {p : Pos} (hK : B.G.K = X.K) (hg : Gl X "enumerate") (hm : X.mg "enumerate" = none) (ha : PA X [e] (rdA B ma)) (hs : starEach [e] X.env = [(false, eval e X.env)] := by rfl) :
    PI X (.Tuple elts kk tpos) (.Call (.Name "enumerate" p) [e] [] pos) (rdI B (mEnum ma)) :=
  PI.imp (PI.or (pi_enumT hg hm ha hs) (pi_enum hg hm ha hs)) fun σ H R ⟨ρ, S, θ, R0, rs, f⟩ => by
    cases q : ma ρ S with
    | exc x S1 =>
      have f0 : Fin B (RI B) σ θ H ((ma ρ S).bind enumD) R := f
      refine .inl ⟨ρ, S, θ, R0, rs, ?_⟩
      rw [q] at f0 ⊢
      exact f0
    | bad =>
      have f0 : Fin B (RI B) σ θ H ((ma ρ S).bind enumD) R := f
      rw [q] at f0
      exact f0.elim
    | ok ds S1 =>
      have f0 : Fin B (RI B) σ θ H ((ma ρ S).bind enumD) R := f
      rw [q] at f0
      replace f0 : Fin B (RI B) σ θ H (enumD ds S1) R := f0
      unfold enumD at f0
      cases q1 : one1 ds with
      | none => rw [q1] at f0; exact f0.elim
      | some d =>
        rw [q1] at f0
        have e1 := one1_ok q1
        subst e1
        dsimp only at f0
        cases q2 : tupOf d with
        | some xs =>
          rw [q2] at f0
          refine .inl ⟨ρ, S, θ, R0, rs, ?_⟩
          rw [q]
          intro θ1 H1 vs e1 R1 r1
          obtain ⟨v, rfl, k1⟩ := rds1 r1
          obtain ⟨a, us, rfl, h1, h2⟩ := tupOf_ok k1 q2
          exact ⟨a, us, rfl, hK ▸ h1, Fin.ok f0 e1 R1 (ri_enT hK q2 k1)⟩
        | none =>
          rw [q2] at f0
          dsimp only at f0
          cases q3 : getL d S1 with
          | none => rw [q3] at f0; exact f0.elim
          | some xs =>
            rw [q3] at f0
            refine .inr ⟨ρ, S, θ, R0, rs, ?_⟩
            rw [q]
            intro θ1 H1 vs e1 R1 r1
            obtain ⟨v, rfl, k1⟩ := rds1 r1
            obtain ⟨a, us, rfl, h1, h2⟩ := getL_ok R1 k1 q3
            exact ⟨a, us, rfl, hK ▸ h1, Fin.ok f0 e1 R1 (ri_enL hK k1)⟩

def asI : D → Option Int
  | .int i => some i
  | _ => none
theorem asI_ok {d : D} {i : Int} (h : asI d = some i) : d = .int i := by
  cases d with
  | int j => cases h; rfl
  | _ => cases h
def rgD (a b : Int) : List D := (List.range (b - a).toNat).map fun i => .int (a + (i : Nat))
theorem rds_rg {G : Gv} {θ : List Addr} {H : Hp} {a b : Int} : RDs G θ H (rgD a b) (rgV a b) := by
  unfold rgD rgV
  generalize List.range (b - a).toNat = l
  induction l with
  | nil => exact .nil
  | cons x r ih => exact .cons (.int _) ih
def rgOk (a b : Int) : Bool := decide (-(2 ^ 62) ≤ a) && decide (a < 2 ^ 62) && decide (-(2 ^ 62) ≤ b) && decide (b < 2 ^ 62) && decide ((b - a).toNat ≤ 2 ^ 24)
theorem rgOk_ok {a b : Int} (h : rgOk a b = true) : RgOk a b := by
  unfold rgOk at h
  simp only [Bool.and_eq_true, decide_eq_true_eq] at h
  exact ⟨h.1.1.1.1, h.1.1.1.2, h.1.1.2, h.1.2, h.2⟩
def rgL (a b : Int) (S : Store) : R D := if rgOk a b then .ok (.ref S.length) (S ++ [.lst (rgD a b)]) else .bad
theorem rgL_ok {σ : St} {θ : List Addr} {S : Store} {H : Hp} {a b : Int} {Q : VK} (R0 : Rel B.G B.F θ S H) (f : Fin B (RD B.G) σ θ H (rgL a b S) Q) : RgOk a b ∧ ∀ q, H q = none → Q (.ref q) (upd H q (.lst (rgV a b))) := by
  unfold rgL at f
  obtain ⟨c, f2⟩ := Fin.ite (c := rgOk a b = true) f
  exact ⟨rgOk_ok c, fun q hq => f2.ok (ext_cell hq) (R0.alloc hq rds_rg) (RD.new R0)⟩
def mListR1 (a : M D) : M D := fun ρ S => (a ρ S).bind fun x S1 => match asI x with
  | some j => rgL 0 j S1
  | none => .bad
def mListR2 (a b : M D) : M D := fun ρ S => (a ρ S).bind fun x S1 => (b ρ S1).bind fun y S2 => match asI x, asI y with
  | some i, some j => rgL i j S2
  | _, _ => .bad
theorem de_listR1 {a : Expr} {ma : M D} {p p2 pos2 : Pos} (hc : X.calm = true) (hg : Gl X "list") (hm : X.mg "list" = none) (hg2 : Gl X "range") (hm2 : X.mg "range" = none) (ha : PE X a (rdE B ma)) (na : starEach [a] X.env = (false, eval a X.env) :: starEach [] X.env := by rfl)
    (nr : starEach [.Call (.Name "range" p2) [a] [] pos2] X.env = (false, eval (.Call (.Name "range" p2) [a] [] pos2) X.env) :: starEach [] X.env := by rfl) : PE X (.Call (.Name "list" p) [.Call (.Name "range" p2) [a] [] pos2] [] pos) (rdE B (mListR1 ma)) :=
  PE.imp (pe_listRg hc hg hm (prg_1 hg2 hm2 ha na) nr) fun σ H Q ⟨ρ, S, θ, R0, rs, f⟩ => ⟨ρ, S, θ, R0, rs, Fin.bind f fun x S1 θ1 H1 v _ e1 R1 r1 f1 => by
    cases q : asI x with
    | none => rw [q] at f1; exact f1.elim
    | some j =>
      rw [q] at f1
      have ex := asI_ok q
      subst ex
      cases r1
      exact ⟨j, rfl, rgL_ok R1 f1⟩⟩
theorem de_listR2 {a b : Expr} {ma mb : M D} {p p2 pos2 : Pos} (hc : X.calm = true) (hg : Gl X "list") (hm : X.mg "list" = none) (hg2 : Gl X "range") (hm2 : X.mg "range" = none) (ha : PE X a (rdE B ma)) (hb : PE X b (rdE B mb)) (na : starEach [a, b] X.env = (false, eval a X.env) :: starEach [b] X.env := by rfl)
    (nb : starEach [b] X.env = (false, eval b X.env) :: starEach [] X.env := by rfl) (nr : starEach [.Call (.Name "range" p2) [a, b] [] pos2] X.env = (false, eval (.Call (.Name "range" p2) [a, b] [] pos2) X.env) :: starEach [] X.env := by rfl) (np : (backTo pos2 (starEach [b] X.env)).any (·.1) = false := by rfl) :
    PE X (.Call (.Name "list" p) [.Call (.Name "range" p2) [a, b] [] pos2] [] pos) (rdE B (mListR2 ma mb)) :=
  PE.imp (pe_listRg hc hg hm (prg_2 hg2 hm2 ha hb na nb np) nr) fun σ H Q ⟨ρ, S, θ, R0, rs, f⟩ => ⟨ρ, S, θ, R0, rs, Fin.bind f fun x S1 θ1 H1 v _ e1 R1 r1 f1 => ⟨ρ, S1, θ1, R1, rs.ext e1, Fin.bind f1 fun y S2 θ2 H2 w _ e2 R2 r2 f2 => by
    cases q : asI x with
    | none => rw [q] at f2; exact f2.elim
    | some i =>
      cases q2 : asI y with
      | none => rw [q, q2] at f2; exact f2.elim
      | some j =>
        rw [q, q2] at f2
        have ex := asI_ok q
        have ey := asI_ok q2
        subst ex ey
        cases r1; cases r2
        exact ⟨i, j, rfl, rfl, rgL_ok R2 f2⟩⟩⟩
end
end DM

namespace DM
open PySem PySem.Spec L2 LamX
open PyProof.Rows hiding St
/-- the items are these ints and texts -/
def tupLit : List Value → List D → Bool
  | [], [] => true
  | .int i _ :: r, .int j :: s => decide (i = j) && tupLit r s
  | .str a _ :: r, .str b :: s => decide (a = b) && tupLit r s
  | _, _ => false
theorem tupLit_ok : ∀ {vs : List Value} {ds : List D}, tupLit vs ds = true → ∃ xs, Vals xs vs ∧ ∀ (G : Gv) (θ : List Addr) (H : Hp), RDs G θ H ds xs
  | [], [], _ => ⟨[], .nil, fun _ _ _ => .nil⟩
  | .int i t :: r, .int j :: s, h => by
    unfold tupLit at h
    rw [Bool.and_eq_true, decide_eq_true_eq] at h
    obtain ⟨xs, h1, h2⟩ := tupLit_ok h.2
    obtain ⟨e, _⟩ := h
    subst e
    exact ⟨.int i :: xs, .cons ⟨t, rfl⟩ h1, fun G θ H => .cons (.int _) (h2 G θ H)⟩
  | .str a t :: r, .str b :: s, h => by
    unfold tupLit at h
    rw [Bool.and_eq_true, decide_eq_true_eq] at h
    obtain ⟨xs, h1, h2⟩ := tupLit_ok h.2
    obtain ⟨e, _⟩ := h
    subst e
    exact ⟨.str a :: xs, .cons ⟨t, rfl⟩ h1, fun G θ H => .cons (.str _) (h2 G θ H)⟩
theorem tupLit_len : ∀ {vs : List Value} {ds : List D}, tupLit vs ds = true → vs.length = ds.length
  | [], [], _ => rfl
  | .int i t :: r, .int j :: s, h => by
    unfold tupLit at h
    rw [Bool.and_eq_true] at h
    rw [List.length_cons, List.length_cons, tupLit_len h.2]
  | .str a t :: r, .str b :: s, h => by
    unfold tupLit at h
    rw [Bool.and_eq_true] at h
    rw [List.length_cons, List.length_cons, tupLit_len h.2]
theorem ktup_of {K : PySem.W.Frag} {a : Addr} {its : Array Value} {n : Nat} {sl : Array (Option Value)} {ds : List D} (h : K.lookup a = some ⟨.type "tuple", none, .seq its n, sl⟩) (hl : tupLit its.toList ds = true) (hz : ds.length ≤ sizeLine) : KTup K a ds := by
  obtain ⟨xs, h1, h2⟩ := tupLit_ok hl
  exact ⟨_, its, n, xs, h, rfl, rfl, rfl, by rw [← Array.length_toList, tupLit_len hl]; exact hz, h1, h2⟩
end DM

namespace DM
open PySem PySem.Spec L2
def diceB : SM :=
  sSeq (sSet 2 (mIf (mTest (mBin (cmpD ltC) (mVar 1) (mBlt lenD (mCons (mVar 0) (mNil))))) (mBlt toIntD (mCons (mBin itemD (mVar 0) (mVar 1)) (mNil))) (mBin addD (mBin mulD (mC (.int 97)) (mVar 1)) (mC (.int 43))))) (sSeq (sSet 3 (mBin modD (mBlt max2D (mCons (mC (.int 0)) (mCons (mBin subD (mBlt absD (mCons (mVar 2) (mNil))) (mBin powD (mC (.int 10)) (mC (.int 17)))) (mNil)))) (mBin mulD (mBin powD (mC (.int 10)) (mC (.int 60))) (mBin powD (mC (.int 10)) (mC (.int 60)))))) (sRet (mLst (mCons (mVar 3) (mCons (mBin addD (mBin addD (mBin addD (mBin mulD (mBin modD (mBlt absD (mCons (mVar 2) (mNil))) (mC (.int 1152921504606846737))) (mC (.int 37))) (mBin mulD (mC (.int 859)) (mVar 1))) (mBin mulD (mC (.int 31)) (mBlt toIntD (mCons (mBin (cmpD ltC) (mVar 2) (mC (.int 0))) (mNil))))) (mC (.int 17))) (mCons (mC (.int 0)) (mNil)))))))
def diceM : Fm := defM 2 diceB
def rollB : SM :=
  sSeq (sIf (mTest (mBin (cmpD gtC) (mBin itemD (mVar 0) (mC (.int 0))) (mC (.int 0)))) (sSeq (sSet 2 (mBin modD (mBlt toIntD (mCons (mBin itemD (mVar 0) (mC (.int 0))) (mNil))) (mVar 1))) (sSeq (sAsg (mBin fdivD (mBin itemD (mVar 0) (mC (.int 0))) (mVar 1)) (tSub (mVar 0) (mC (.int 0)))) (sRet (mVar 2)))) (sNil)) (sSeq (sAsg (mBin addD (mBin itemD (mVar 0) (mC (.int 2))) (mC (.int 1))) (tSub (mVar 0) (mC (.int 2)))) (sSeq (sSet 3 (mBin modD (mBlt toIntD (mCons (mBin addD (mBin itemD (mVar 0) (mC (.int 1))) (mBin mulD (mC (.int 15486209)) (mBin itemD (mVar 0) (mC (.int 2))))) (mNil))) (mC (.int 2305843009213693951)))) (sSeq (sSet 4 (mBin addD (mBin mulD (mBin modD (mBlt toIntD (mCons (mBin addD (mBin mulD (mVar 3) (mVar 3)) (mBin mulD (mC (.int 199)) (mBin itemD (mVar 0) (mC (.int 2))))) (mNil))) (mC (.int 2305843009213693907))) (mC (.int 7368751))) (mVar 3))) (sRet (mBin modD (mBlt toIntD (mCons (mBin fdivD (mVar 4) (mC (.int 65536))) (mNil))) (mVar 1))))))
def rollM : Fm := defM 3 rollB
def pickB : SM :=
  sRet (mBin itemD (mVar 1) (mCall rollM (mCons (mVar 0) (mCons (mBlt lenD (mCons (mVar 1) (mNil))) (mNil)))))
def pickM : Fm := defM 0 pickB
/-- three whole numbers, the last one not above n -/
def Dc (es : List D) (n : Nat) : Prop := ∃ (a : Int) (b : Int) (c : Nat), es = [.int a, .int b, .int c] ∧ b.natAbs < 2 ^ 200 ∧ c ≤ n
theorem Dc.clean {es : List D} {n : Nat} (h : Dc es n) : cleanAll es = true ∧ pureAll es = true := by
  obtain ⟨a, b, c, rfl, _⟩ := h
  exact ⟨rfl, rfl⟩
theorem Dc.mono {es : List D} {n m : Nat} (h : Dc es n) (k : n ≤ m) : Dc es m := by
  obtain ⟨a, b, c, e, h1, h2⟩ := h
  exact ⟨a, b, c, e, h1, Nat.le_trans h2 k⟩
theorem fdivC_ok {a t : Int} (ht : 0 < t) (ht2 : t < 2 ^ 100) : fdivC a t = true := by
  unfold fdivC
  rw [Bool.and_eq_true]
  exact ⟨decide_eq_true ht, decide_eq_true (Nat.lt_trans (log2_lt (k := 100) (by omega) (by decide)) (by decide))⟩
theorem roll_pos {a b c t : Int} (ha : 0 < a) (ht : 0 < t) (ht2 : t < 2 ^ 100) : rollM [.ref 0, .int t] [.lst [.int a, .int b, .int c]] = .ok (.int (a % t)) [.lst [.int (a / t), .int b, .int c]] := by
  have h1 : ¬ t = 0 := by omega
  simp [DM.R.bind, DM.R.toS, DM.R.noexc, DM.mVar, DM.mC, DM.mNil, DM.mCons, DM.mBin, DM.cmpD, DM.mUn, DM.negD, DM.subD, DM.intD, DM.mTup, DM.mLst, DM.mTest, DM.testD, DM.truD, DM.mNotT, DM.mAndT, DM.mOrT, DM.mNot, DM.mAnd, DM.mOr, DM.mIf, DM.mChain, DM.ltI, DM.isNon, DM.isNC, DM.notNC, DM.mBlt, DM.one1, DM.intD1, DM.toIntD, DM.absD, DM.pair2, DM.max2D, DM.min2D, DM.tyPair, DM.tyOf, DM.isTy, DM.isiD, DM.sNil, DM.SR.seq, DM.sSeq, DM.sBreak, DM.sCont, DM.sExpr, DM.sRet, DM.sIf, DM.sSet, DM.sAsg, DM.sPar, DM.SR.turn, DM.tName, DM.tNils, DM.tConss, DM.tTupG, DM.getT, DM.tSub, DM.setD, DM.getM, DM.itemD, DM.getSeq, DM.getL, DM.getP, DM.mMth, DM.mMth0, DM.isL, DM.appendD, DM.mCall, DM.mIter, DM.iterD, DM.mRng, DM.rngD, DM.mYes, DM.eqC, DM.neC, DM.asInts, DM.ltC, DM.gtC, DM.tupD, DM.lstD, DM.addD_i, rollM, defM, rollB, ha, h1, fdivC_ok ht ht2, atI, ixN, Int.fmod_eq_emod_of_nonneg, Int.le_of_lt ht]
theorem roll_neg {a b t : Int} {c : Nat} (ha : ¬ 0 < a) (ht : 0 < t) (ht2 : t < 2 ^ 100) (hb : b.natAbs < 2 ^ 200) (hc : c < 2 ^ 200) :
    ∃ r : Int, rollM [.ref 0, .int t] [.lst [.int a, .int b, .int (c : Int)]] = .ok (.int (r % t)) [.lst [.int a, .int b, .int ((c + 1 : Nat) : Int)]] := by
  have h1 : ¬ t = 0 := by omega
  have g1 : ∀ S, mulD (.int 15486209) (.int ((c : Int) + 1)) S = .ok (.int (15486209 * ((c : Int) + 1))) S := fun S => mulD_b (by decide) (by
    have : ((c : Int) + 1).natAbs = c + 1 := by omega
    rw [this]
    exact Nat.lt_of_le_of_lt (Nat.succ_le_of_lt hc) (by decide))
  have g2 : ∀ S, mulD (.int 199) (.int ((c : Int) + 1)) S = .ok (.int (199 * ((c : Int) + 1))) S := fun S => mulD_b (by decide) (by
    have : ((c : Int) + 1).natAbs = c + 1 := by omega
    rw [this]
    exact Nat.lt_of_le_of_lt (Nat.succ_le_of_lt hc) (by decide))
  obtain ⟨one, e1⟩ : ∃ one : Int, one = (b + 15486209 * ((c : Int) + 1)) % 2305843009213693951 := ⟨_, rfl⟩
  have o1 : 0 ≤ one := by rw [e1]; exact Int.emod_nonneg _ (by decide)
  have o2 : one < 2305843009213693951 := by rw [e1]; exact Int.emod_lt_of_pos _ (by decide)
  have g3 : ∀ S, mulD (.int one) (.int one) S = .ok (.int (one * one)) S := fun S => mulD_b (by omega) (by omega)
  obtain ⟨tw, e2⟩ : ∃ tw : Int, tw = (one * one + 199 * ((c : Int) + 1)) % 2305843009213693907 := ⟨_, rfl⟩
  have o3 : 0 ≤ tw := by rw [e2]; exact Int.emod_nonneg _ (by decide)
  have o4 : tw < 2305843009213693907 := by rw [e2]; exact Int.emod_lt_of_pos _ (by decide)
  have g4 : ∀ S, mulD (.int tw) (.int 7368751) S = .ok (.int (tw * 7368751)) S := fun S => mulD_b (by omega) (by decide)
  have f1 : fdivC (tw * 7368751 + one) 65536 = true := fdivC_ok (by decide) (by decide)
  refine ⟨(tw * 7368751 + one) / 65536, ?_⟩
  simp [DM.R.bind, DM.R.toS, DM.R.noexc, DM.mVar, DM.mC, DM.mNil, DM.mCons, DM.mBin, DM.cmpD, DM.mUn, DM.negD, DM.subD, DM.intD, DM.mTup, DM.mLst, DM.mTest, DM.testD, DM.truD, DM.mNotT, DM.mAndT, DM.mOrT, DM.mNot, DM.mAnd, DM.mOr, DM.mIf, DM.mChain, DM.ltI, DM.isNon, DM.isNC, DM.notNC, DM.mBlt, DM.one1, DM.intD1, DM.toIntD, DM.absD, DM.pair2, DM.max2D, DM.min2D, DM.tyPair, DM.tyOf, DM.isTy, DM.isiD, DM.sNil, DM.SR.seq, DM.sSeq, DM.sBreak, DM.sCont, DM.sExpr, DM.sRet, DM.sIf, DM.sSet, DM.sAsg, DM.sPar, DM.SR.turn, DM.tName, DM.tNils, DM.tConss, DM.tTupG, DM.getT, DM.tSub, DM.setD, DM.getM, DM.itemD, DM.getSeq, DM.getL, DM.getP, DM.mMth, DM.mMth0, DM.isL, DM.appendD, DM.mCall, DM.mIter, DM.iterD, DM.mRng, DM.rngD, DM.mYes, DM.eqC, DM.neC, DM.asInts, DM.ltC, DM.gtC, DM.tupD, DM.lstD, DM.addD_i, rollM, defM, rollB, ha, h1, atI, ixN, Int.fmod_eq_emod_of_nonneg, Int.le_of_lt ht, g1, g2, ← e1, g3, ← e2, g4, f1]
/-- a roll -/
theorem roll {es : List D} {n : Nat} {t : Int} (h : Dc es n) (hn : n < 2 ^ 100) (ht : 0 < t) (ht2 : t < 2 ^ 100) :
    ∃ (r : Int) (es' : List D), rollM [.ref 0, .int t] [.lst es] = .ok (.int r) [.lst es'] ∧ 0 ≤ r ∧ r < t ∧ Dc es' (n + 1) := by
  obtain ⟨a, b, c, rfl, hb, hc⟩ := h
  by_cases ha : 0 < a
  · exact ⟨_, _, roll_pos ha ht ht2, Int.emod_nonneg _ (by omega), Int.emod_lt_of_pos _ ht, a / t, b, c, rfl, hb, by omega⟩
  · obtain ⟨r, e⟩ := roll_neg (c := c) ha ht ht2 hb (Nat.lt_of_le_of_lt hc (Nat.lt_trans hn (by decide)))
    exact ⟨_, _, e, Int.emod_nonneg _ (by omega), Int.emod_lt_of_pos _ ht, a, b, c + 1, rfl, hb, by omega⟩
theorem rollC {es : List D} {n k : Nat} {t : Int} {S : Store} (hS : S[k]? = some (.lst es)) (h : Dc es n) (hn : n < 2 ^ 100) (ht : 0 < t) (ht2 : t < 2 ^ 100) :
    ∃ (r : Int) (es' : List D), callD rollM [.ref k, .int t] S = .ok (.int r) (S.set k (.lst es')) ∧ 0 ≤ r ∧ r < t ∧ Dc es' (n + 1) := by
  obtain ⟨r, es', e, h1, h2, h3⟩ := roll h hn ht ht2
  exact ⟨r, es', callD_ref hS h.clean.1 rfl e rfl h3.clean.2 rfl, h1, h2, h3⟩
theorem dice_left {x y z : Option D} (cell : Int) (S : Store) : ∃ left : Int, (mBin modD (mBlt max2D (mCons (mC (.int 0)) (mCons (mBin subD (mBlt absD (mCons (mVar 2) (mNil))) (mBin powD (mC (.int 10)) (mC (.int 17)))) (mNil)))) (mBin mulD (mBin powD (mC (.int 10)) (mC (.int 60))) (mBin powD (mC (.int 10)) (mC (.int 60))))) [x, y, some (.int cell), z] S = .ok (.int left) S := by
  have g3 : ∀ S, mulD (.int 1000000000000000000000000000000000000000000000000000000000000) (.int 1000000000000000000000000000000000000000000000000000000000000) S = .ok (.int 1000000000000000000000000000000000000000000000000000000000000000000000000000000000000000000000000000000000000000000000000) S := fun S => mulD_b (by decide) (by decide)
  simp [DM.R.bind, DM.R.toS, DM.R.noexc, DM.mVar, DM.mC, DM.mNil, DM.mCons, DM.mBin, DM.cmpD, DM.mUn, DM.negD, DM.subD, DM.intD, DM.mTup, DM.mLst, DM.mTest, DM.testD, DM.truD, DM.mNotT, DM.mAndT, DM.mOrT, DM.mNot, DM.mAnd, DM.mOr, DM.mIf, DM.mChain, DM.ltI, DM.isNon, DM.isNC, DM.notNC, DM.mBlt, DM.one1, DM.intD1, DM.toIntD, DM.absD, DM.pair2, DM.max2D, DM.min2D, DM.tyPair, DM.tyOf, DM.isTy, DM.isiD, DM.sNil, DM.SR.seq, DM.sSeq, DM.sBreak, DM.sCont, DM.sExpr, DM.sRet, DM.sIf, DM.sSet, DM.sAsg, DM.sPar, DM.SR.turn, DM.tName, DM.tNils, DM.tConss, DM.tTupG, DM.getT, DM.tSub, DM.setD, DM.getM, DM.itemD, DM.getSeq, DM.getL, DM.getP, DM.mMth, DM.mMth0, DM.isL, DM.appendD, DM.mCall, DM.mIter, DM.iterD, DM.mRng, DM.rngD, DM.mYes, DM.eqC, DM.neC, DM.asInts, DM.ltC, DM.gtC, DM.tupD, DM.lstD, DM.addD_i, powC, g3]
theorem dice_mid {x z : Option D} {i : Nat} (hi : i < 64) (cell left : Int) (S : Store) : ∃ b : Int, b.natAbs < 2 ^ 200 ∧ (mBin addD (mBin addD (mBin addD (mBin mulD (mBin modD (mBlt absD (mCons (mVar 2) (mNil))) (mC (.int 1152921504606846737))) (mC (.int 37))) (mBin mulD (mC (.int 859)) (mVar 1))) (mBin mulD (mC (.int 31)) (mBlt toIntD (mCons (mBin (cmpD ltC) (mVar 2) (mC (.int 0))) (mNil))))) (mC (.int 17))) [x, some (.int (i : Int)), some (.int cell), some (.int left)] S = .ok (.int b) S := by
  have g2 : ∀ S, mulD (.int 859) (.int (i : Int)) S = .ok (.int (859 * (i : Int))) S := fun S => mulD_b (by decide) (by omega)
  obtain ⟨ab, e1⟩ : ∃ ab : Int, ab = if cell < 0 then -cell else cell := ⟨_, rfl⟩
  obtain ⟨rm, e2⟩ : ∃ rm : Int, rm = ab % 1152921504606846737 := ⟨_, rfl⟩
  have o1 : 0 ≤ rm := by rw [e2]; exact Int.emod_nonneg _ (by decide)
  have o2 : rm < 1152921504606846737 := by rw [e2]; exact Int.emod_lt_of_pos _ (by decide)
  have g4 : ∀ S, mulD (.int rm) (.int 37) S = .ok (.int (rm * 37)) S := fun S => mulD_b (by omega) (by decide)
  have g5 : ∀ S, mulD (.int 31) (.int 1) S = .ok (.int 31) S := fun S => mulD_b (by decide) (by decide)
  have g6 : ∀ S, mulD (.int 31) (.int 0) S = .ok (.int 0) S := fun S => mulD_b (by decide) (by decide)
  by_cases hc : cell < 0
  · rw [if_pos hc] at e1
    refine ⟨rm * 37 + 859 * i + 31 + 17, by omega, ?_⟩
    simp [DM.R.bind, DM.R.toS, DM.R.noexc, DM.mVar, DM.mC, DM.mNil, DM.mCons, DM.mBin, DM.cmpD, DM.mUn, DM.negD, DM.subD, DM.intD, DM.mTup, DM.mLst, DM.mTest, DM.testD, DM.truD, DM.mNotT, DM.mAndT, DM.mOrT, DM.mNot, DM.mAnd, DM.mOr, DM.mIf, DM.mChain, DM.ltI, DM.isNon, DM.isNC, DM.notNC, DM.mBlt, DM.one1, DM.intD1, DM.toIntD, DM.absD, DM.pair2, DM.max2D, DM.min2D, DM.tyPair, DM.tyOf, DM.isTy, DM.isiD, DM.sNil, DM.SR.seq, DM.sSeq, DM.sBreak, DM.sCont, DM.sExpr, DM.sRet, DM.sIf, DM.sSet, DM.sAsg, DM.sPar, DM.SR.turn, DM.tName, DM.tNils, DM.tConss, DM.tTupG, DM.getT, DM.tSub, DM.setD, DM.getM, DM.itemD, DM.getSeq, DM.getL, DM.getP, DM.mMth, DM.mMth0, DM.isL, DM.appendD, DM.mCall, DM.mIter, DM.iterD, DM.mRng, DM.rngD, DM.mYes, DM.eqC, DM.neC, DM.asInts, DM.ltC, DM.gtC, DM.tupD, DM.lstD, DM.addD_i, hc, ← e1, Int.fmod_eq_emod_of_nonneg, ← e2, g2, g4, g5]
  · rw [if_neg hc] at e1
    subst e1
    refine ⟨rm * 37 + 859 * i + 0 + 17, by omega, ?_⟩
    simp [DM.R.bind, DM.R.toS, DM.R.noexc, DM.mVar, DM.mC, DM.mNil, DM.mCons, DM.mBin, DM.cmpD, DM.mUn, DM.negD, DM.subD, DM.intD, DM.mTup, DM.mLst, DM.mTest, DM.testD, DM.truD, DM.mNotT, DM.mAndT, DM.mOrT, DM.mNot, DM.mAnd, DM.mOr, DM.mIf, DM.mChain, DM.ltI, DM.isNon, DM.isNC, DM.notNC, DM.mBlt, DM.one1, DM.intD1, DM.toIntD, DM.absD, DM.pair2, DM.max2D, DM.min2D, DM.tyPair, DM.tyOf, DM.isTy, DM.isiD, DM.sNil, DM.SR.seq, DM.sSeq, DM.sBreak, DM.sCont, DM.sExpr, DM.sRet, DM.sIf, DM.sSet, DM.sAsg, DM.sPar, DM.SR.turn, DM.tName, DM.tNils, DM.tConss, DM.tTupG, DM.getT, DM.tSub, DM.setD, DM.getM, DM.itemD, DM.getSeq, DM.getL, DM.getP, DM.mMth, DM.mMth0, DM.isL, DM.appendD, DM.mCall, DM.mIter, DM.iterD, DM.mRng, DM.rngD, DM.mYes, DM.eqC, DM.neC, DM.asInts, DM.ltC, DM.gtC, DM.tupD, DM.lstD, DM.addD_i, hc, Int.fmod_eq_emod_of_nonneg, ← e2, g2, g4, g6]
theorem dice_cell {x z : Option D} {ns : List Int} {i : Nat} (hi : i < 64) (hn : ns.length ≤ 63) (S : Store) : ∃ cell : Int, (mIf (mTest (mBin (cmpD ltC) (mVar 1) (mBlt lenD (mCons (mVar 0) (mNil))))) (mBlt toIntD (mCons (mBin itemD (mVar 0) (mVar 1)) (mNil))) (mBin addD (mBin mulD (mC (.int 97)) (mVar 1)) (mC (.int 43)))) [some (.kst (ns.map .int)), some (.int (i : Int)), x, z] S = .ok (.int cell) S := by
  have g1 : ∀ S, mulD (.int 97) (.int (i : Int)) S = .ok (.int (97 * (i : Int))) S := fun S => mulD_b (by decide) (by omega)
  by_cases h : i < ns.length
  · have e : atI (ns.map D.int) (i : Int) = some (.int ns[i]) := atI_get (by simp [DM.R.bind, DM.R.toS, DM.R.noexc, DM.mVar, DM.mC, DM.mNil, DM.mCons, DM.mBin, DM.cmpD, DM.mUn, DM.negD, DM.subD, DM.intD, DM.mTup, DM.mLst, DM.mTest, DM.testD, DM.truD, DM.mNotT, DM.mAndT, DM.mOrT, DM.mNot, DM.mAnd, DM.mOr, DM.mIf, DM.mChain, DM.ltI, DM.isNon, DM.isNC, DM.notNC, DM.mBlt, DM.one1, DM.intD1, DM.toIntD, DM.absD, DM.pair2, DM.max2D, DM.min2D, DM.tyPair, DM.tyOf, DM.isTy, DM.isiD, DM.sNil, DM.SR.seq, DM.sSeq, DM.sBreak, DM.sCont, DM.sExpr, DM.sRet, DM.sIf, DM.sSet, DM.sAsg, DM.sPar, DM.SR.turn, DM.tName, DM.tNils, DM.tConss, DM.tTupG, DM.getT, DM.tSub, DM.setD, DM.getM, DM.itemD, DM.getSeq, DM.getL, DM.getP, DM.mMth, DM.mMth0, DM.isL, DM.appendD, DM.mCall, DM.mIter, DM.iterD, DM.mRng, DM.rngD, DM.mYes, DM.eqC, DM.neC, DM.asInts, DM.ltC, DM.gtC, DM.tupD, DM.lstD, DM.addD_i, h])
    simp [DM.R.bind, DM.R.toS, DM.R.noexc, DM.mVar, DM.mC, DM.mNil, DM.mCons, DM.mBin, DM.cmpD, DM.mUn, DM.negD, DM.subD, DM.intD, DM.mTup, DM.mLst, DM.mTest, DM.testD, DM.truD, DM.mNotT, DM.mAndT, DM.mOrT, DM.mNot, DM.mAnd, DM.mOr, DM.mIf, DM.mChain, DM.ltI, DM.isNon, DM.isNC, DM.notNC, DM.mBlt, DM.one1, DM.intD1, DM.toIntD, DM.absD, DM.pair2, DM.max2D, DM.min2D, DM.tyPair, DM.tyOf, DM.isTy, DM.isiD, DM.sNil, DM.SR.seq, DM.sSeq, DM.sBreak, DM.sCont, DM.sExpr, DM.sRet, DM.sIf, DM.sSet, DM.sAsg, DM.sPar, DM.SR.turn, DM.tName, DM.tNils, DM.tConss, DM.tTupG, DM.getT, DM.tSub, DM.setD, DM.getM, DM.itemD, DM.getSeq, DM.getL, DM.getP, DM.mMth, DM.mMth0, DM.isL, DM.appendD, DM.mCall, DM.mIter, DM.iterD, DM.mRng, DM.rngD, DM.mYes, DM.eqC, DM.neC, DM.asInts, DM.ltC, DM.gtC, DM.tupD, DM.lstD, DM.addD_i, lenD, h, e]
  · simp [DM.R.bind, DM.R.toS, DM.R.noexc, DM.mVar, DM.mC, DM.mNil, DM.mCons, DM.mBin, DM.cmpD, DM.mUn, DM.negD, DM.subD, DM.intD, DM.mTup, DM.mLst, DM.mTest, DM.testD, DM.truD, DM.mNotT, DM.mAndT, DM.mOrT, DM.mNot, DM.mAnd, DM.mOr, DM.mIf, DM.mChain, DM.ltI, DM.isNon, DM.isNC, DM.notNC, DM.mBlt, DM.one1, DM.intD1, DM.toIntD, DM.absD, DM.pair2, DM.max2D, DM.min2D, DM.tyPair, DM.tyOf, DM.isTy, DM.isiD, DM.sNil, DM.SR.seq, DM.sSeq, DM.sBreak, DM.sCont, DM.sExpr, DM.sRet, DM.sIf, DM.sSet, DM.sAsg, DM.sPar, DM.SR.turn, DM.tName, DM.tNils, DM.tConss, DM.tTupG, DM.getT, DM.tSub, DM.setD, DM.getM, DM.itemD, DM.getSeq, DM.getL, DM.getP, DM.mMth, DM.mMth0, DM.isL, DM.appendD, DM.mCall, DM.mIter, DM.iterD, DM.mRng, DM.rngD, DM.mYes, DM.eqC, DM.neC, DM.asInts, DM.ltC, DM.gtC, DM.tupD, DM.lstD, DM.addD_i, lenD, h, g1]
theorem dice_ok {ns : List Int} {i : Nat} (hi : i < 64) (hn : ns.length ≤ 63) : ∃ es, diceM [.kst (ns.map .int), .int i] [] = .ok (.ref 0) [.lst es] ∧ Dc es 0 := by
  obtain ⟨cell, e1⟩ := dice_cell (x := none) (z := none) hi hn []
  obtain ⟨left, e2⟩ := dice_left (x := some (.kst (ns.map .int))) (y := some (.int (i : Int))) (z := none) cell []
  obtain ⟨b, hb, e3⟩ := dice_mid (x := some (.kst (ns.map .int))) (z := none) hi cell left []
  refine ⟨[.int left, .int b, .int ((0 : Nat) : Int)], defM_rt (sSeq_nx (sSet_ok e1) (sSeq_nx (sSet_ok e2) (sRet_ok (mLst_ok (S1 := []) (xs := [.int left, .int b, .int ((0 : Nat) : Int)]) (mCons_ok rfl (mCons_ok e3 (mCons_ok rfl rfl))) (by show (3 : Nat) ≤ sizeLine; decide))))), left, b, 0, rfl, hb, Nat.le_refl _⟩
theorem diceC {ns : List Int} {i : Nat} {S : Store} (hi : i < 64) (hn : ns.length ≤ 63) : ∃ es, callD diceM [.kst (ns.map .int), .int i] S = .ok (.ref S.length) (S ++ [.lst es]) ∧ Dc es 0 := by
  obtain ⟨es, e, h⟩ := dice_ok hi hn
  have hc : cleanAll [.kst (ns.map D.int), .int (i : Int)] = true := by
    have : ∀ l : List Int, cleanAll (l.map D.int) = true := fun l => by
      induction l with
      | nil => rfl
      | cons a l ih => show (true && cleanAll (l.map D.int)) = true; rw [ih]; rfl
    show (cleanAll (ns.map D.int) && true) = true
    rw [this]; rfl
  exact ⟨es, callD_new hc e rfl h.clean.2, h⟩
theorem mOrT_ok2 {a b : M Bool} {ρ : DM.Env} {S S1 S2 : Store} {y : Bool} (h1 : a ρ S = .ok false S1) (h2 : b ρ S1 = .ok y S2) : mOrT a b ρ S = .ok y S2 := by
  unfold mOrT; rw [h1]; exact h2
theorem pure_ints : ∀ ns : List Int, pureAll (ns.map D.int) = true
  | [] => rfl
  | n :: r => by show (true && pureAll (r.map D.int)) = true; rw [pure_ints r]; rfl
theorem clean_ints : ∀ ns : List Int, cleanAll (ns.map D.int) = true
  | [] => rfl
  | n :: r => by show (true && cleanAll (r.map D.int)) = true; rw [clean_ints r]; rfl
/-- a pick from a list of whole numbers -/
theorem pick_ints {es : List D} {n k l : Nat} {S : Store} {is : List Int} (hS : S[k]? = some (.lst es)) (hT : S[l]? = some (.lst (is.map .int))) (hk : l ≠ k) (h : Dc es n) (hn : n < 2 ^ 100) (hl : 0 < is.length) (hl2 : is.length < 2 ^ 60) :
    ∃ (v : Int) (es' : List D), callD pickM [.ref k, .ref l] S = .ok (.int v) ((S.set k (.lst es')).set l (.lst (is.map .int))) ∧ v ∈ is ∧ Dc es' (n + 1) := by
  obtain ⟨r, es', e1, h1, h2, h3⟩ := rollC (S := [.lst es, .lst (is.map .int)]) (k := 0) (t := (is.length : Int)) rfl h hn (by omega) (by omega)
  obtain ⟨j, rfl⟩ : ∃ j : Nat, r = j := ⟨r.toNat, by omega⟩
  have hj : j < is.length := by omega
  have e2 : (is.map D.int)[j]? = some (.int is[j]) := by rw [List.getElem?_map, List.getElem?_eq_getElem hj]; rfl
  refine ⟨is[j], es', ?_, List.getElem_mem hj, h3⟩
  refine callD_ref2 (es := es) (fs := is.map .int) (fs' := is.map .int) hS h.clean.1 hT (clean_ints _) hk (S1 := [.lst es', .lst (is.map .int)]) ?_ rfl h3.clean.2 rfl (pure_ints _) rfl
  refine defM_rt (sRet_ok (mBin_ok rfl (mCall_ok (mCons_ok rfl (mCons_ok (x := .int (is.length : Int)) (mBlt_ok (mCons_ok rfl rfl) (by rw [lenD_ref (ds := is.map .int) rfl, List.length_map])) rfl)) e1) ?_))
  show (match atI (is.map D.int) (j : Int) with
      | some x => R.ok x [.lst es', .lst (is.map .int)]
      | none => .bad) = R.ok (.int is[j]) [.lst es', .lst (is.map .int)]
  rw [atI_get e2]
end DM

namespace DM
open PySem PySem.Spec L2

theorem pickD {es : List D} {n k l : Nat} {S : Store} {ds : List D} (hS : S[k]? = some (.lst es)) (hT : S[l]? = some (.lst ds)) (hk : l ≠ k) (h : Dc es n) (hn : n < 2 ^ 99) (hl : 0 < ds.length) (hl2 : ds.length < 2 ^ 60) (hc : cleanAll ds = true) (hp : pureAll ds = true) :
    ∃ (v : D) (es' : List D), callD pickM [.ref k, .ref l] S = .ok v ((S.set k (.lst es')).set l (.lst ds)) ∧ v ∈ ds ∧ Dc es' (n + 1) := by
  obtain ⟨r, es', e1, h1, h2, h3⟩ := rollC (S := [.lst es, .lst ds]) (k := 0) (t := (ds.length : Int)) rfl h (by omega) (by omega) (by omega)
  obtain ⟨j, rfl⟩ : ∃ j : Nat, r = j := ⟨r.toNat, by omega⟩
  have hj : j < ds.length := by omega
  have e2 : ds[j]? = some ds[j] := List.getElem?_eq_getElem hj
  have hpj : pureD ds[j] = true := by
    have go : ∀ (l : List D), pureAll l = true → ∀ x ∈ l, pureD x = true := by
      intro l
      induction l with
      | nil => intro _ x hx; cases hx
      | cons a r ih =>
        intro h x hx
        simp only [pureAll, Bool.and_eq_true] at h
        rcases List.mem_cons.mp hx with rfl | hx
        · exact h.1
        · exact ih h.2 x hx
    exact go ds hp _ (List.getElem_mem hj)
  refine ⟨ds[j], es', ?_, List.getElem_mem hj, h3⟩
  refine callD_ref2 (es := es) (fs := ds) (fs' := ds) hS h.clean.1 hT hc hk (S1 := [.lst es', .lst ds]) ?_ rfl h3.clean.2 rfl hp hpj
  refine defM_rt (sRet_ok (mBin_ok rfl (mCall_ok (mCons_ok rfl (mCons_ok (x := .int (ds.length : Int)) (mBlt_ok (mCons_ok rfl rfl) (by rw [lenD_ref (ds := ds) rfl])) rfl)) e1) ?_))
  show (match atI ds (j : Int) with
      | some x => R.ok x [.lst es', .lst ds]
      | none => .bad) = R.ok ds[j] [.lst es', .lst ds]
  rw [atI_get e2]
theorem cleanAll_mem : ∀ {ds : List D}, cleanAll ds = true → ∀ d ∈ ds, cleanD d = true
  | a :: r, h, x, hx => by
    simp only [cleanAll, Bool.and_eq_true] at h
    rcases List.mem_cons.mp hx with rfl | hx
    · exact h.1
    · exact cleanAll_mem h.2 x hx
theorem pureAll_mem : ∀ {ds : List D}, pureAll ds = true → ∀ d ∈ ds, pureD d = true
  | a :: r, h, x, hx => by
    simp only [pureAll, Bool.and_eq_true] at h
    rcases List.mem_cons.mp hx with rfl | hx
    · exact h.1
    · exact pureAll_mem h.2 x hx
theorem cleanAll_nil : cleanAll [] = true := rfl
theorem cleanAll_cons {d : D} {ds : List D} (h : cleanD d = true) (k : cleanAll ds = true) : cleanAll (d :: ds) = true := by
  simp only [cleanAll, Bool.and_eq_true]; exact ⟨h, k⟩

mutual
def eqD : D → D → Bool
  | .non, .non => true
  | .bl a, .bl b => a == b
  | .int a, .int b => decide (a = b)
  | .str a, .str b => decide (a = b)
  | .tup a, .tup b => eqDs a b
  | .pr a, .pr b => eqDs a b
  | .lst a, .lst b => eqDs a b
  | .edc, .edc => true
  | _, _ => false
def eqDs : List D → List D → Bool
  | [], [] => true
  | a :: r, b :: s => eqD a b && eqDs r s
  | _, _ => false
end
mutual
theorem eqD_ok : ∀ {a b : D}, eqD a b = true → a = b
  | .non, .non, _ => rfl
  | .bl a, .bl b, h => by rw [show a = b from by simpa [eqD] using h]
  | .int a, .int b, h => by rw [show a = b from by simpa [eqD] using h]
  | .str a, .str b, h => by rw [show a = b from by simpa [eqD] using h]
  | .tup a, .tup b, h => by rw [eqDs_ok (show eqDs a b = true from by simpa [eqD] using h)]
  | .pr a, .pr b, h => by rw [eqDs_ok (show eqDs a b = true from by simpa [eqD] using h)]
  | .lst a, .lst b, h => by rw [eqDs_ok (show eqDs a b = true from by simpa [eqD] using h)]
  | .edc, .edc, _ => rfl
theorem eqDs_ok : ∀ {a b : List D}, eqDs a b = true → a = b
  | [], [], _ => rfl
  | a :: r, b :: s, h => by
    simp only [eqDs, Bool.and_eq_true] at h
    rw [eqD_ok h.1, eqDs_ok h.2]
end
def isFine : R D → Bool
  | .ok d _ => pureD d
  | _ => false
def isExc (c : Nat) : R D → Bool
  | .exc ⟨k, none⟩ _ => decide (k = c)
  | _ => false
def isExcV (c : Nat) (v : D) : R D → Bool
  | .exc ⟨k, some w⟩ _ => decide (k = c) && eqD w v
  | _ => false
section
variable {m : Fm} {ds : List D}
theorem callD_at (hc : cleanAll ds = true) (S : Store) : callD m ds S = back [] S (m ds []) := by
  unfold callD
  rw [passArgs_clean hc]
  rfl
theorem fine_all (hc : cleanAll ds = true) (h : isFine (callD m ds []) = true) (S : Store) : ∃ d, callD m ds S = .ok d S := by
  rw [callD_at hc] at h ⊢
  cases q : m ds [] with
  | bad => rw [q] at h; cases h
  | exc x S1 =>
    rw [q] at h
    have h' : isFine (backX [] [] S1 x) = true := h
    unfold backX at h'
    simp only [putBack] at h'
    cases q2 : x.v with
    | none => rw [q2] at h'; cases h'
    | some w =>
      rw [q2] at h'
      dsimp only at h'
      split at h' <;> cases h'
  | ok d S1 =>
    rw [q] at h
    have go : (∀ j, d ≠ .ref j) → back [] [] (.ok d S1) = backP [] [] S1 d ∧ back [] S (.ok d S1) = backP [] S S1 d := fun n => by
      cases d with
      | ref j => exact absurd rfl (n j)
      | _ => exact ⟨rfl, rfl⟩
    by_cases n : ∀ j, d ≠ .ref j
    · rw [(go n).1] at h
      rw [(go n).2]
      unfold backP at h ⊢
      simp only [putBack, List.length_nil] at h ⊢
      cases q2 : retD 0 S1.length S1 d with
      | none => rw [q2] at h; cases h
      | some d' => exact ⟨d', by simp⟩
    · obtain ⟨j, hj⟩ := Classical.not_forall.mp n
      have hj := Classical.not_not.mp hj
      subst hj
      have h' : isFine (backN [] [] S1 j) = true := h
      unfold backN at h'
      simp only [putBack] at h'
      split at h'
      · split at h'
        · cases h'
        · cases h'
      · cases h'
theorem back_ok_ne {is : List Nat} {S S1 S2 : Store} {d : D} {x : Ex} : back is S (.ok d S1) ≠ .exc x S2 := by
  have go : ∀ d, backP is S S1 d ≠ .exc x S2 := fun d z => by
    unfold backP at z
    split at z
    · split at z <;> cases z
    · cases z
  intro z
  cases d with
  | ref j =>
    have z' : (if j < is.length then backO is S S1 j else backN is S S1 j) = .exc x S2 := z
    split at z'
    · unfold backO at z'
      split at z' <;> cases z'
    · unfold backN at z'
      split at z'
      · split at z'
        · split at z' <;> cases z'
        · cases z'
      · cases z'
  | non => exact go .non z
  | bl b => exact go (.bl b) z
  | int i => exact go (.int i) z
  | str s => exact go (.str s) z
  | tup ds => exact go (.tup ds) z
  | lst ds => exact go (.lst ds) z
  | kst ds => exact go (.kst ds) z
  | brw ds => exact go (.brw ds) z
  | pr ds => exact go (.pr ds) z
  | fn n => exact go (.fn n) z
  | ty s => exact go (.ty s) z
  | edc => exact go .edc z
theorem exc_all {c : Nat} (hc : cleanAll ds = true) (h : isExc c (callD m ds []) = true) (S : Store) : callD m ds S = .exc ⟨c, none⟩ S := by
  rw [callD_at hc] at h ⊢
  cases q : m ds [] with
  | bad => rw [q] at h; cases h
  | exc x S1 =>
    rw [q] at h
    have h' : isExc c (backX [] [] S1 x) = true := h
    show backX [] S S1 x = _
    unfold backX at h' ⊢
    simp only [putBack] at h' ⊢
    cases q2 : x.v with
    | none =>
      rw [q2] at h'
      have h2 : x.c = c := of_decide_eq_true h'
      rw [h2]
    | some w =>
      rw [q2] at h'
      dsimp only at h'
      split at h' <;> cases h'
  | ok d S1 =>
    rw [q] at h
    exfalso
    have no : ∀ r : R D, (∀ x S, r ≠ .exc x S) → isExc c r = true → False := fun r n h => by
      cases r with
      | exc x S => exact n x S rfl
      | _ => cases h
    exact no _ (fun x S => back_ok_ne) h
theorem excV_all {c : Nat} {v : D} (hc : cleanAll ds = true) (h : isExcV c v (callD m ds []) = true) (S : Store) : callD m ds S = .exc ⟨c, some v⟩ S := by
  rw [callD_at hc] at h ⊢
  cases q : m ds [] with
  | bad => rw [q] at h; cases h
  | exc x S1 =>
    rw [q] at h
    have h' : isExcV c v (backX [] [] S1 x) = true := h
    show backX [] S S1 x = _
    unfold backX at h' ⊢
    simp only [putBack] at h' ⊢
    cases q2 : x.v with
    | none => rw [q2] at h'; cases h'
    | some w =>
      rw [q2] at h'
      dsimp only at h' ⊢
      simp only [List.length_nil] at h' ⊢
      cases q3 : retD 0 S1.length S1 w with
      | none => rw [q3] at h'; cases h'
      | some d' =>
        rw [q3] at h'
        have h2 : (decide (x.c = c) && eqD d' v) = true := h'
        rw [Bool.and_eq_true, decide_eq_true_eq] at h2
        rw [h2.1, eqD_ok h2.2]
  | ok d S1 =>
    rw [q] at h
    exfalso
    have no : ∀ r : R D, (∀ x S, r ≠ .exc x S) → isExcV c v r = true → False := fun r n h => by
      cases r with
      | exc x S => exact n x S rfl
      | _ => cases h
    exact no _ (fun x S => back_ok_ne) h
end

def metL (hs : List Hd) (fw : Str) (l : Nat) : Lm := defL l fun th => sSeq (sTry (sExpr (mAct 0 th)) hs) (sRet (mC (.str fw)))
section
variable {hs : List Hd} {fw : Str} {l : Nat} {th : Store → R D} {S : Store}
theorem act0 {ρ : Env} (n : noS kL S = true) : mAct 0 th (some (.fn kL) :: ρ) S = th S := by
  show (if kL = kL ∧ noS kL S = true then th S else .bad) = _
  rw [if_pos ⟨rfl, n⟩]
theorem metL_fine {d : D} (h : th S = .ok d S) (n : noS kL S = true) : metL hs fw l th S = .ok (.str fw) S := by
  unfold metL defL
  dsimp only
  have e : sTry (sExpr (mAct 0 th)) hs (some (.fn kL) :: List.replicate l none) S = .nx (some (.fn kL) :: List.replicate l none) S := by
    unfold sTry sExpr
    rw [act0 n, h]
    rfl
  rw [show sSeq (sTry (sExpr (mAct 0 th)) hs) (sRet (mC (.str fw))) (some (.fn kL) :: List.replicate l none) S = .rt (.str fw) S from sSeq_nx e rfl]
  show (if (noF kL (D.str fw) && noS kL S) = true then R.ok (D.str fw) S else .bad) = _
  rw [n]; rfl
theorem metL_exc {x : Ex} {d : D} (h : th S = .exc x S) (n : noS kL S = true) (t : tryH hs x (some (.fn kL) :: List.replicate l none) S = .rt d S) (nd : noF kL d = true) : metL hs fw l th S = .ok d S := by
  unfold metL defL
  dsimp only
  have e : sTry (sExpr (mAct 0 th)) hs (some (.fn kL) :: List.replicate l none) S = .rt d S := by
    unfold sTry sExpr
    rw [act0 n, h]
    exact t
  rw [show sSeq (sTry (sExpr (mAct 0 th)) hs) (sRet (mC (.str fw))) (some (.fn kL) :: List.replicate l none) S = .rt d S from sSeq_rt e]
  show (if (noF kL d && noS kL S) = true then R.ok d S else .bad) = _
  rw [n, nd]; rfl
variable {h : Hd} {r : List Hd} {x : Ex} {ρ : Env} {d : D}
theorem tryH_skip {res : SR} (e : h.t x.c = some false) (k : tryH r x ρ S = res) : tryH (h :: r) x ρ S = res := by
  unfold tryH; rw [e]; exact k
theorem tryH_take0 (e : h.t x.c = some true) (o : h.o = none) (k : h.su x ρ S = .rt d S) : tryH (h :: r) x ρ S = .rt d S := by
  unfold tryH; rw [e]
  show (match h.o with
      | none => (h.su x ρ S).noexc
      | some i => unAs i (h.su x (ρ.set i (some (.fn kX))) S)) = _
  rw [o]
  show (h.su x ρ S).noexc = _
  rw [k]; rfl
theorem tryH_take1 {i : Nat} (e : h.t x.c = some true) (o : h.o = some i) (k : h.su x (ρ.set i (some (.fn kX))) S = .rt d S) (nd : noF kX d = true) (n : noS kX S = true) : tryH (h :: r) x ρ S = .rt d S := by
  unfold tryH; rw [e]
  show (match h.o with
      | none => (h.su x ρ S).noexc
      | some i => unAs i (h.su x (ρ.set i (some (.fn kX))) S)) = _
  rw [o]
  show unAs i (h.su x (ρ.set i (some (.fn kX))) S) = _
  rw [k]
  show (if (noF kX d && noS kX S) = true then SR.rt d S else .bad) = _
  rw [nd, n]; rfl
end
def rpS (d : D) : Str := match reprUD [d] [] with
  | .ok (.str s) _ => s
  | _ => Str.empty
structure Rp (d : D) : Prop where
  r : ∀ S, reprUD [d] S = .ok (.str (rpS d)) S
  l : (rpS d).length ≤ 1000
  o : PyData.strOk (rpS d) = true
theorem Rp.add {d : D} (h : Rp d) {p : Str} (hp : p.length ≤ 1000) (S : Store) : addD (.str p) (.str (rpS d)) S = .ok (.str (p ++ rpS d)) S := by
  show (if p.length + (rpS d).length ≤ sizeLine then R.ok (D.str (p ++ rpS d)) S else .bad) = _
  have := h.l
  rw [if_pos (by rw [sizeLine_eq]; omega)]
/-- the suite: a text and the repr of what the error keeps -/
theorem suR {i c : Nat} {v : D} {p : Str} {ρ : Env} {S : Store} (hi : ρ[i]? = some (some (.fn kX))) (h : Rp v) (hp : p.length ≤ 1000) : sRet (mBin addD (mC (.str p)) (mBlt reprUD (mCons (mXv i c ⟨c, some v⟩) mNil))) ρ S = .rt (.str (p ++ rpS v)) S := by
  have e : mXv i c ⟨c, some v⟩ ρ S = .ok v S := by
    unfold mXv
    rw [hi]
    show (if kX = kX ∧ c = c then R.ok v S else .bad) = _
    rw [if_pos ⟨rfl, rfl⟩]
  exact sRet_ok (mBin_ok rfl (mBlt_ok (mCons_ok e rfl) (h.r S)) (h.add hp S))
/-- the suite: what the error keeps -/
theorem suV {i c : Nat} {v : D} {ρ : Env} {S : Store} (hi : ρ[i]? = some (some (.fn kX))) : sRet (mXv i c ⟨c, some v⟩) ρ S = .rt v S := by
  have e : mXv i c ⟨c, some v⟩ ρ S = .ok v S := by
    unfold mXv
    rw [hi]
    show (if kX = kX ∧ c = c then R.ok v S else .bad) = _
    rw [if_pos ⟨rfl, rfl⟩]
  exact sRet_ok e
/-- the suite: the first item of what the error keeps -/
theorem suV0 {i c : Nat} {v w : D} {vs : List D} {ρ : Env} {S : Store} (hi : ρ[i]? = some (some (.fn kX))) (hv : v = .tup (w :: vs)) : sRet (mBin itemD (mXv i c ⟨c, some v⟩) (mC (.int 0))) ρ S = .rt w S := by
  have e : mXv i c ⟨c, some v⟩ ρ S = .ok v S := by
    unfold mXv
    rw [hi]
    show (if kX = kX ∧ c = c then R.ok v S else .bad) = _
    rw [if_pos ⟨rfl, rfl⟩]
  subst hv
  refine sRet_ok (mBin_ok e rfl ?_)
  show (match atI (w :: vs) ((0 : Nat) : Int) with
      | some x => R.ok x S
      | none => .bad) = _
  rw [atI_get (d := w) rfl]

section
variable {g : TM} {t : M Bool} {e : M D} {b : SM} {ρ : Env}
theorem noS_app {k : Nat} {S T : Store} : noS k (S ++ T) = (noS k S && noS k T) := by
  unfold noS; rw [List.all_append]
inductive LF (g : TM) (t : M Bool) (e : M D) (ρ : Env) : List D → List D → Prop
  | nil : LF g t e ρ [] []
  | cons {d y : D} {ds ys : List D} (h : ∀ S, noS kL S = true → noS kX S = true → ∃ ρ1, g d ρ S = .ok ρ1 S ∧ t ρ1 S = .ok true S ∧ e ρ1 S = .ok y S) (h1 : noF kL y = true) (h2 : noF kX y = true) (r : LF g t e ρ ds ys) : LF g t e ρ (d :: ds) (y :: ys)
theorem lcN_F {S : Store} (n1 : noS kL S = true) (n2 : noS kX S = true) {ds ys : List D} (h : LF g t e ρ ds ys) : ∀ (pre acc : List D) (c m : Nat), c ≤ pre.length → pre.length + ds.length < 1000 → ds.length < m → noFs kL acc = true → noFs kX acc = true →
    lcN (nxTup (pre ++ ds)) g t e ρ S.length m pre.length (S ++ [.rev acc c]) = .ok (.ref S.length) (S ++ [.lst (acc.reverse ++ ys)]) := by
  have hk : ∀ z : C, (S ++ [z])[S.length]? = some z := fun z => List.getElem?_concat_length
  have hset : ∀ z w : C, (S ++ [z]).set S.length w = S ++ [w] := fun z w => by
    rw [List.set_append, if_neg (by omega), Nat.sub_self]; rfl
  induction h with
  | nil =>
    intro pre acc c m hc hl hm a1 a2
    cases m with
    | zero => omega
    | succ m =>
      unfold lcN
      have e0 : nxTup (pre ++ []) pre.length (S ++ [.rev acc c]) = some none := by
        show some ((pre ++ [])[pre.length]?) = _
        simp
      rw [e0]
      show lcDone S.length (S ++ [.rev acc c]) = _
      unfold lcDone
      rw [hk]
      dsimp only
      rw [hset, List.append_nil]
  | @cons d y ds ys hd h1 h2 r ih =>
    intro pre acc c m hc hl hm a1 a2
    rw [List.length_cons] at hl hm
    cases m with
    | zero => omega
    | succ m =>
      unfold lcN
      have e0 : nxTup (pre ++ d :: ds) pre.length (S ++ [.rev acc c]) = some (some d) := by
        show some ((pre ++ d :: ds)[pre.length]?) = _
        simp
      rw [e0]
      have s1 : noS kL (S ++ [.rev acc c]) = true := by rw [noS_app, n1]; show (true && (noFs kL acc && true)) = true; rw [a1]; rfl
      have s2 : noS kX (S ++ [.rev acc c]) = true := by rw [noS_app, n2]; show (true && (noFs kX acc && true)) = true; rw [a2]; rfl
      obtain ⟨ρ1, k1, k2, k3⟩ := hd _ s1 s2
      dsimp only
      rw [k1]
      show (t ρ1 (S ++ [.rev acc c])).noexc.bind (fun k' S2 => if k' then (e ρ1 S2).noexc.bind fun y S3 => lcEnd S.length y S3 (lcN (nxTup (pre ++ d :: ds)) g t e ρ S.length m (pre.length + 1)) else lcN (nxTup (pre ++ d :: ds)) g t e ρ S.length m (pre.length + 1) S2) = _
      rw [k2]
      show (e ρ1 (S ++ [.rev acc c])).noexc.bind (fun y S3 => lcEnd S.length y S3 (lcN (nxTup (pre ++ d :: ds)) g t e ρ S.length m (pre.length + 1))) = _
      rw [k3]
      show lcEnd S.length y (S ++ [.rev acc c]) (lcN (nxTup (pre ++ d :: ds)) g t e ρ S.length m (pre.length + 1)) = _
      unfold lcEnd
      rw [hk]
      show (if c < 16777216 then lcN (nxTup (pre ++ d :: ds)) g t e ρ S.length m (pre.length + 1) ((S ++ [C.rev acc c]).set S.length (.rev (y :: acc) (c + 1))) else .bad) = _
      rw [if_pos (by omega), hset]
      have z := ih (pre ++ [d]) (y :: acc) (c + 1) m (by simp; omega) (by simp; omega) (by omega) (by show (noF kL y && noFs kL acc) = true; rw [h1, a1]; rfl) (by show (noF kX y && noFs kX acc) = true; rw [h2, a2]; rfl)
      rw [List.append_assoc, List.singleton_append, List.length_append, List.length_singleton, List.reverse_cons, List.append_assoc, List.singleton_append] at z
      exact z
theorem mLc_F {it : M Nx} {vs : List Nat} {S S0 : Store} {ds ys : List D} (hi : it ρ S0 = .ok (nxTup ds) S) (hl : ds.length < 1000) (h : LF g t e (wipeE ρ vs) ds ys) (n1 : noS kL S = true) (n2 : noS kX S = true) : mLc it g t e vs ρ S0 = .ok (.ref S.length) (S ++ [.lst ys]) := by
  unfold mLc
  rw [hi]
  have z := lcN_F n1 n2 h [] [] 0 fuel (Nat.le_refl _) (by simpa using hl) (by unfold fuel; omega) rfl rfl
  rw [List.nil_append, List.reverse_nil, List.nil_append, List.length_nil] at z
  exact z
def forL (g : TM) (b : SM) : List D → SM
  | [] => fun ρ S => .nx ρ S
  | d :: ds => fun ρ S => (g d ρ S).noexc.toS ρ fun ρ1 S1 => (b ρ1 S1).turn (forL g b ds)
theorem sForN_L : ∀ (ds pre : List D) (m : Nat) (ρ : Env) (S : Store), ds.length < m → sForN (nxTup (pre ++ ds)) g b m pre.length ρ S = forL g b ds ρ S
  | _, _, 0, _, _, h => by omega
  | [], pre, m + 1, ρ, S, h => by
    unfold sForN
    have e0 : nxTup (pre ++ []) pre.length S = some none := by
      show some ((pre ++ [])[pre.length]?) = _
      simp
    rw [e0]
    rfl
  | d :: ds, pre, m + 1, ρ, S, h => by
    unfold sForN
    have e0 : nxTup (pre ++ d :: ds) pre.length S = some (some d) := by
      show some ((pre ++ d :: ds)[pre.length]?) = _
      simp
    rw [e0]
    have z : ∀ ρ S, sForN (nxTup (pre ++ d :: ds)) g b m (pre.length + 1) ρ S = forL g b ds ρ S := fun ρ S => by
      have z := sForN_L ds (pre ++ [d]) m ρ S (by rw [List.length_cons] at h; omega)
      rw [List.append_assoc, List.singleton_append, List.length_append, List.length_singleton] at z
      exact z
    show (g d ρ S).noexc.toS ρ (fun ρ1 S1 => (b ρ1 S1).turn (sForN (nxTup (pre ++ d :: ds)) g b m (pre.length + 1))) = (g d ρ S).noexc.toS ρ fun ρ1 S1 => (b ρ1 S1).turn (forL g b ds)
    rw [show sForN (nxTup (pre ++ d :: ds)) g b m (pre.length + 1) = forL g b ds from funext fun ρ => funext fun S => z ρ S]
theorem sFor_L {it : M Nx} {S S0 : Store} {ds : List D} {r : SR} (hi : it ρ S0 = .ok (nxTup ds) S) (hl : ds.length < 1000) (h : forL g b ds ρ S = r) : sFor it g b ρ S0 = r := by
  unfold sFor
  rw [hi]
  have z := sForN_L (g := g) (b := b) ds [] fuel ρ S (by unfold fuel; omega)
  rw [List.nil_append, List.length_nil] at z
  exact z.trans h
theorem forL_nil {S : Store} : forL g b [] ρ S = .nx ρ S := rfl
theorem forL_cons {d : D} {ds : List D} {S S1 S2 : Store} {ρ1 ρ2 : Env} {r : SR} (h1 : g d ρ S = .ok ρ1 S1) (h2 : b ρ1 S1 = .nx ρ2 S2) (h3 : forL g b ds ρ2 S2 = r) : forL g b (d :: ds) ρ S = r := by
  show (g d ρ S).noexc.toS ρ (fun ρ1 S1 => (b ρ1 S1).turn (forL g b ds)) = r
  rw [h1]
  show (b ρ1 S1).turn (forL g b ds) = r
  rw [h2]
  exact h3
end
theorem strOk_app {a b : Str} (h : PyData.strOk a = true) (k : PyData.strOk b = true) : PyData.strOk (a ++ b) = true := by
  show (a.cps ++ b.cps).all (· < 0x110000) = true
  rw [Array.all_append]
  have h' : a.cps.all (· < 0x110000) = true := h
  have k' : b.cps.all (· < 0x110000) = true := k
  rw [h', k']; rfl
/-- texts -/
inductive SL : List D → Prop
  | nil : SL []
  | cons {s : Str} {l : List D} (h : PyData.strOk s = true) (r : SL l) : SL (.str s :: l)
def strPy : List D → List PyData
  | .str s :: r => .str s :: strPy r
  | _ => []
theorem toPy_strs {n : Nat} {S : Store} {l : List D} (h : SL l) : l.mapM (toPy (n + 1) S) = some (strPy l) := by
  induction h with
  | nil => rfl
  | cons h r ih => rw [List.mapM_cons, ih]; rfl
theorem eqv_strs {l : List D} (h : SL l) : PyData.eqvAll (strPy l) (strPy l) = true := by
  induction h with
  | nil => rfl
  | @cons s l h r ih =>
    show (PyData.eqv (.str s) (.str s) && PyData.eqvAll (strPy l) (strPy l)) = true
    rw [ih, Bool.and_true]
    show (s == s) = true
    exact beq_self_eq_true s
theorem canLay_strs {l : List D} (h : SL l) : PyData.canLayAll0 (strPy l) = true ∧ PyData.depthAll (strPy l) = 0 := by
  induction h with
  | nil => exact ⟨rfl, rfl⟩
  | @cons s l h r ih =>
    refine ⟨?_, ?_⟩
    · show (PyData.strOk s && PyData.canLayAll0 (strPy l)) = true
      rw [h, ih.1]; rfl
    · show max 0 (PyData.depthAll (strPy l)) = 0
      rw [ih.2]; rfl
theorem shaped_strs {l : List D} (h : SL l) : SeqAt.shaped (.list (strPy l)) = true := by
  obtain ⟨h1, h2⟩ := canLay_strs h
  show (PyData.canLayAll0 (strPy l) && decide (PyData.depthAll (strPy l) + 1 ≤ 64)) = true
  rw [h1, h2]; rfl
theorem eqG_strs {S : Store} {a b : Nat} {l : List D} (h1 : S[a]? = some (.lst l)) (h2 : S[b]? = some (.lst l)) (h : SL l) : eqG (.ref a) (.ref b) S = some true := by
  have go : ∀ k, S[k]? = some (.lst l) → toPy 20 S (.ref k) = some (.list (strPy l)) := fun k hk => by
    show (match S[k]? with
      | some (.lst ds) => (ds.mapM (toPy 19 S)).map PyData.list
      | _ => none) = _
    rw [hk]
    show (l.mapM (toPy 19 S)).map PyData.list = _
    rw [toPy_strs (n := 18) h]; rfl
  unfold eqG
  rw [go a h1, go b h2]
  show (if (SeqAt.shaped (.list (strPy l)) && SeqAt.shaped (.list (strPy l))) = true then some (PyData.eqvAll (strPy l) (strPy l)) else none) = _
  rw [shaped_strs h, eqv_strs h]; rfl
theorem ne_strs {S : Store} {a b : Nat} {l : List D} (h1 : S[a]? = some (.lst l)) (h2 : S[b]? = some (.lst l)) (h : SL l) : cmpD neC (.ref a) (.ref b) S = .ok (.bl false) S := by
  have e : neC (.ref a) (.ref b) S = some false := by
    show (eqG (.ref a) (.ref b) S).map (!·) = _
    rw [eqG_strs h1 h2 h]; rfl
  unfold cmpD
  rw [e]
theorem eq_strs {S : Store} {a b : Nat} {l : List D} (h1 : S[a]? = some (.lst l)) (h2 : S[b]? = some (.lst l)) (h : SL l) : cmpD eqC (.ref a) (.ref b) S = .ok (.bl true) S := by
  have e : eqC (.ref a) (.ref b) S = some true := eqG_strs h1 h2 h
  unfold cmpD
  rw [e]
theorem ne_str {S : Store} {s : Str} : cmpD neC (.str s) (.str s) S = .ok (.bl false) S := by
  have e : neC (.str s) (.str s) S = some false := by
    show (some (decide (s = s))).map (!·) = _
    simp
  unfold cmpD
  rw [e]
theorem eq_str {S : Store} {s : Str} : cmpD eqC (.str s) (.str s) S = .ok (.bl true) S := by
  have e : eqC (.str s) (.str s) S = some true := by
    show some (decide (s = s)) = _
    simp
  unfold cmpD
  rw [e]
/-- tables -/
theorem tab1 {A : List D} {p : D → Bool} (h : A.all p = true) : ∀ a ∈ A, p a = true := List.all_eq_true.mp h
theorem tab2 {A B : List D} {p : D → D → Bool} (h : (A.all fun a => B.all fun b => p a b) = true) : ∀ a ∈ A, ∀ b ∈ B, p a b = true := fun a ha => tab1 (tab1 h a ha)
theorem tab3 {A B C : List D} {p : D → D → D → Bool} (h : (A.all fun a => B.all fun b => C.all fun c => p a b c) = true) : ∀ a ∈ A, ∀ b ∈ B, ∀ c ∈ C, p a b c = true := fun a ha => tab2 (tab1 h a ha)
theorem tab4 {A B C E : List D} {p : D → D → D → D → Bool} (h : (A.all fun a => B.all fun b => C.all fun c => E.all fun e => p a b c e) = true) : ∀ a ∈ A, ∀ b ∈ B, ∀ c ∈ C, ∀ e ∈ E, p a b c e = true := fun a ha => tab3 (tab1 h a ha)
/-- the first spot's walk: range(max(1, min(n, len(script)))) -/
theorem spots_rng {n : Nat} {ns : List Int} {ρ : Env} {S : Store} (hn : 1 ≤ n) (hn2 : n ≤ 63) (h0 : ρ[0]? = some (some (.kst (ns.map .int)))) : ∃ N : Nat, N ≤ n ∧ mRng (mCons (mBlt max2D (mCons (mC (.int 1)) (mCons (mBlt min2D (mCons (mC (.int (n : Int))) (mCons (mBlt lenD (mCons (mVar 0) (mNil))) (mNil)))) (mNil)))) (mNil)) ρ S = .ok (nxRng 0 1 N) S := by
  have ev : mVar 0 ρ S = .ok (.kst (ns.map .int)) S := by unfold mVar; rw [h0]
  have el : mBlt lenD (mCons (mVar 0) mNil) ρ S = .ok (.int ((ns.map D.int).length : Nat)) S := mBlt_ok (mCons_ok ev rfl) rfl
  rw [List.length_map] at el
  obtain ⟨x, hx, ex⟩ : ∃ x : Nat, x ≤ n ∧ mBlt min2D (mCons (mC (.int (n : Int))) (mCons (mBlt lenD (mCons (mVar 0) (mNil))) (mNil))) ρ S = .ok (.int (x : Int)) S := by
    have e : mBlt min2D (mCons (mC (.int (n : Int))) (mCons (mBlt lenD (mCons (mVar 0) (mNil))) (mNil))) ρ S = .ok (.int (if ((ns.length : Nat) : Int) < (n : Int) then ((ns.length : Nat) : Int) else (n : Int))) S := mBlt_ok (mCons_ok rfl (mCons_ok el rfl)) rfl
    by_cases h : ns.length < n
    · exact ⟨ns.length, by omega, by rw [e, if_pos (by omega)]⟩
    · exact ⟨n, Nat.le_refl _, by rw [e, if_neg (by omega)]⟩
  have e2 : mBlt max2D (mCons (mC (.int 1)) (mCons (mBlt min2D (mCons (mC (.int (n : Int))) (mCons (mBlt lenD (mCons (mVar 0) (mNil))) (mNil)))) (mNil))) ρ S = .ok (.int (if (x : Int) > 1 then (x : Int) else 1)) S := mBlt_ok (mCons_ok rfl (mCons_ok ex rfl)) rfl
  by_cases h : (x : Int) > 1
  · rw [if_pos h] at e2
    exact ⟨x, hx, mRng_ok (mCons_ok e2 rfl) (rng_one (by omega))⟩
  · rw [if_neg h] at e2
    exact ⟨1, hn, mRng_ok (mCons_ok e2 rfl) (rng_one (j := 1) (by omega))⟩
end DM

namespace DM
open PySem PySem.Spec L2
open PyProof.Rows hiding St

theorem PE.or {X : Cx} {e : Expr} {t t' : TE} (h : PE X e t) (h' : PE X e t') : PE X e (fun σ H Q => t σ H Q ∨ t' σ H Q) := ⟨fun pins s σ H Q I q => q.elim (h.run pins s σ H Q I) (h'.run pins s σ H Q I)⟩
def valK (kvs : List (Key × D)) (k : Key) : Option D := (kvs.find? fun kv => decide (kv.1 = k)).map (·.2)
theorem RK.val {G : Gv} {θ : List Addr} {H : Hp} {k : Key} : ∀ {r : List (Key × D)} {s : List (Key × V)}, RK G θ H r s → (valK r k = none ∧ valV s k = none) ∨ ∃ d v, valK r k = some d ∧ valV s k = some v ∧ RD G θ H d v
  | _, _, .nil => .inl ⟨rfl, rfl⟩
  | _, _, .cons (k := k2) (d := d) (v := v) h t => by
    unfold valK valV
    by_cases e : k2 = k
    · rw [List.find?_cons_of_pos (by simpa using e), List.find?_cons_of_pos (by simpa using e)]
      exact .inr ⟨d, v, rfl, rfl, h⟩
    · rw [List.find?_cons_of_neg (by simpa using e), List.find?_cons_of_neg (by simpa using e)]
      exact RK.val (k := k) t
section
variable {X : Cx} {B : Bv} {pos : Pos}
def dGetD (x y : D) (S : Store) : R D := match getK x S, keyD y with
  | some kvs, some k => match valK kvs k with
    | some v => .ok v S
    | none => .bad
  | _, _ => .bad
theorem dGet_sem {σ : St} {θ : List Addr} {S : Store} {H : Hp} {y x : D} {yv xv : V} {Q : VK} (R0 : Rel B.G B.F θ S H) (ry : RD B.G θ H y yv) (rx : RD B.G θ H x xv) (f : Fin B (RD B.G) σ θ H (dGetD x y S) Q) :
    ∃ a v, xv = .ref a ∧ DGet H a yv (some v) ∧ Q v H := by
  unfold dGetD at f
  cases q1 : getK x S with
  | none => rw [q1] at f; exact f.elim
  | some kvs =>
    cases q2 : keyD y with
    | none => rw [q1, q2] at f; exact f.elim
    | some k =>
      rw [q1, q2] at f
      obtain ⟨n, a, es, rfl, rfl, h1, h2, h3, h4⟩ := getK_ok R0 rx q1
      have e := keyD_ok ry q2
      subst e
      dsimp only at f
      rcases RK.val (k := k) h4 with ⟨e1, _⟩ | ⟨d, v, e1, e2, r⟩
      · rw [e1] at f; exact f.elim
      · rw [e1] at f
        exact ⟨a, v, rfl, e2 ▸ DGet.k h3, Fin.ok f .refl R0 r⟩
/-- an item of a list, a tuple, a text, a dict -/
def itemX : O2 := fun d e S => match getK d S with
  | some _ => dGetD d e S
  | none => itemD d e S
theorem de_itemX {a b : Expr} {ma mb : M D} (hK : B.G.K = X.K) (hu : X.A.units + 1 < cLine) (ha : PE X a (rdE B ma)) (hb : PE X b (rdE B mb)) (hp : PlainIx b) (hs : NoSl b) : PE X (.Subscript a b pos) (rdE B (mBin itemX ma mb)) :=
  PE.imp (PE.or (pe_dget hu ha hb hs) (de_item hK ha hb hp)) fun σ H Q ⟨ρ, S, θ, R0, rs, f⟩ => by
    have f0 : Fin B (RD B.G) σ θ H ((ma ρ S).bind fun x S1 => (mb ρ S1).bind fun y S2 => itemX x y S2) Q := f
    cases q : ma ρ S with
    | bad => rw [q] at f0; exact f0.elim
    | exc x S1 =>
      refine .inr ⟨ρ, S, θ, R0, rs, ?_⟩
      show Fin B (RD B.G) σ θ H ((ma ρ S).bind fun x S1 => (mb ρ S1).bind fun y S2 => itemD x y S2) Q
      rw [q] at f0 ⊢
      exact f0
    | ok x S1 =>
      cases q2 : mb ρ S1 with
      | bad =>
        rw [q] at f0
        replace f0 : Fin B (RD B.G) σ θ H ((mb ρ S1).bind fun y S2 => itemX x y S2) Q := f0
        rw [q2] at f0; exact f0.elim
      | exc z S2 =>
        refine .inr ⟨ρ, S, θ, R0, rs, ?_⟩
        show Fin B (RD B.G) σ θ H ((ma ρ S).bind fun x S1 => (mb ρ S1).bind fun y S2 => itemD x y S2) Q
        rw [q] at f0 ⊢
        replace f0 : Fin B (RD B.G) σ θ H ((mb ρ S1).bind fun y S2 => itemX x y S2) Q := f0
        show Fin B (RD B.G) σ θ H ((mb ρ S1).bind fun y S2 => itemD x y S2) Q
        rw [q2] at f0 ⊢
        exact f0
      | ok y S2 =>
        cases q3 : getK x S2 with
        | none =>
          refine .inr ⟨ρ, S, θ, R0, rs, ?_⟩
          show Fin B (RD B.G) σ θ H ((ma ρ S).bind fun x S1 => (mb ρ S1).bind fun y S2 => itemD x y S2) Q
          rw [q] at f0 ⊢
          replace f0 : Fin B (RD B.G) σ θ H ((mb ρ S1).bind fun y S2 => itemX x y S2) Q := f0
          show Fin B (RD B.G) σ θ H ((mb ρ S1).bind fun y S2 => itemD x y S2) Q
          rw [q2] at f0 ⊢
          replace f0 : Fin B (RD B.G) σ θ H (itemX x y S2) Q := f0
          show Fin B (RD B.G) σ θ H (itemD x y S2) Q
          unfold itemX at f0
          rw [q3] at f0
          exact f0
        | some kvs =>
          refine .inl ⟨ρ, S, θ, R0, rs, Fin.bind f0 fun x' S1' θ1 H1 v q' e1 R1 r1 f1 => ⟨ρ, S1', θ1, R1, rs.ext e1, Fin.bind f1 fun y' S2' θ2 H2 w q2' e2 R2 r2 f2 => ?_⟩⟩
          rw [q] at q'; cases q'
          rw [q2] at q2'; cases q2'
          unfold itemX at f2
          rw [q3] at f2
          obtain ⟨a, u, h1, h2, h3⟩ := dGet_sem R2 r2 (r1.ext e2) f2
          exact ⟨a, u, h1, h2, h3⟩
/-- d.get(k, x) -/
def dGet2D (x y z : D) (S : Store) : R D := match getK x S, keyD y with
  | some kvs, some k => .ok ((valK kvs k).getD z) S
  | _, _ => .bad
def mDGet2 (d y z : M D) : M D := fun ρ S => (d ρ S).bind fun dv S1 => match getK dv S1 with
  | some _ => (y ρ S1).bind fun yv S2 => (z ρ S2).bind fun zv S3 => dGet2D dv yv zv S3
  | none => .bad
theorem getK_isD {G : Gv} {F : Fr0} {θ : List Addr} {S : Store} {H : Hp} {d : D} {v : V} {kvs : List (Key × D)} (R0 : Rel G F θ S H) (r : RD G θ H d v) (e : getK d S = some kvs) : ∃ a, v = .ref a ∧ IsD H a := by
  obtain ⟨n, a, es, rfl, rfl, h1, h2, h3, h4⟩ := getK_ok R0 r e
  exact ⟨a, rfl, .inl ⟨es, .inl h3⟩⟩
theorem dGet2_sem {σ : St} {θ : List Addr} {S : Store} {H : Hp} {y x z : D} {yv zv : V} {a : Addr} {Q : VK} (R0 : Rel B.G B.F θ S H) (ry : RD B.G θ H y yv) (rx : RD B.G θ H x (.ref a)) (rz : RD B.G θ H z zv) (f : Fin B (RD B.G) σ θ H (dGet2D x y z S) Q) :
    ∃ o, DGet H a yv o ∧ Q (o.getD zv) H := by
  unfold dGet2D at f
  cases q1 : getK x S with
  | none => rw [q1] at f; exact f.elim
  | some kvs =>
    cases q2 : keyD y with
    | none => rw [q1, q2] at f; exact f.elim
    | some k =>
      rw [q1, q2] at f
      obtain ⟨n, a', es, rfl, e9, h1, h2, h3, h4⟩ := getK_ok R0 rx q1
      cases e9
      have e := keyD_ok ry q2
      subst e
      dsimp only at f
      rcases RK.val (k := k) h4 with ⟨e1, e2⟩ | ⟨d, v, e1, e2, r⟩
      · rw [e1] at f
        exact ⟨none, e2 ▸ DGet.k h3, Fin.ok f .refl R0 rz⟩
      · rw [e1] at f
        exact ⟨some v, e2 ▸ DGet.k h3, Fin.ok f .refl R0 r⟩
theorem de_dget2 {o e f : Expr} {apos cpos : Pos} {md me mf : M D} (hu : X.A.units + 1 < cLine) (ho : PE X o (rdE B md)) (he : PE X e (rdE B me)) (hf : PE X f (rdE B mf)) (m : M2 X o "get" apos e f cpos) : PE X (.Call (.Attribute o "get" apos) [e, f] [] cpos) (rdE B (mDGet2 md me mf)) :=
  PE.imp (pe_dget2 hu ho he hf m) fun σ H Q ⟨ρ, S, θ, R0, rs, f⟩ => ⟨ρ, S, θ, R0, rs, Fin.bind f fun x S1 θ1 H1 xv _ e1 R1 r1 f1 => by
    cases q : getK x S1 with
    | none => rw [q] at f1; exact f1.elim
    | some kvs =>
      rw [q] at f1
      obtain ⟨a, rfl, hd⟩ := getK_isD R1 r1 q
      exact ⟨a, rfl, hd, ρ, S1, θ1, R1, rs.ext e1, Fin.bind f1 fun y S2 θ2 H2 yv _ e2 R2 r2 f2 => ⟨ρ, S2, θ2, R2, (rs.ext e1).ext e2, Fin.bind f2 fun z S3 θ3 H3 zv _ e3 R3 r3 f3 => dGet2_sem R3 (r2.ext e3) ((r1.ext e2).ext e3) r3 f3⟩⟩⟩
def mDGet1 (d y : M D) : M D := mDGet2 d y (mC .non)
theorem de_dget1 {o e : Expr} {apos cpos : Pos} {md me : M D} (hu : X.A.units + 1 < cLine) (ho : PE X o (rdE B md)) (he : PE X e (rdE B me)) (m : M1 X o "get" apos e cpos) : PE X (.Call (.Attribute o "get" apos) [e] [] cpos) (rdE B (mDGet1 md me)) :=
  PE.imp (pe_dget1 hu ho he m) fun σ H Q ⟨ρ, S, θ, R0, rs, f⟩ => ⟨ρ, S, θ, R0, rs, Fin.bind f fun x S1 θ1 H1 xv _ e1 R1 r1 f1 => by
    cases q : getK x S1 with
    | none => rw [q] at f1; exact f1.elim
    | some kvs =>
      rw [q] at f1
      obtain ⟨a, rfl, hd⟩ := getK_isD R1 r1 q
      refine ⟨a, rfl, hd, ρ, S1, θ1, R1, rs.ext e1, Fin.bind f1 fun y S2 θ2 H2 yv _ e2 R2 r2 f2 => ?_⟩
      have f3 : Fin B (RD B.G) σ θ2 H2 (dGet2D x y .non S2) Q := f2
      exact dGet2_sem R2 r2 (r1.ext e2) .non f3⟩

def mPairs : List (M D × M D) → M (List (D × D))
  | [] => fun _ S => .ok [] S
  | (a, b) :: r => fun ρ S => (a ρ S).bind fun k S1 => (b ρ S1).bind fun v S2 => (mPairs r ρ S2).bind fun l S3 => .ok ((k, v) :: l) S3
def keysP : List (D × D) → Option (List (Key × D))
  | [] => some []
  | (k, v) :: r => match keyD k, keysP r with
    | some k, some r => some ((k, v) :: r)
    | _, _ => none
def mergeKD (kvs more : List (Key × D)) : List (Key × D) := more.foldl (fun acc kv => putKD acc kv.1 kv.2) kvs
def dispD (n : Nat) (ps : List (D × D)) (S : Store) : R D := match S[n]?, keysP ps with
  | some (.dct []), some kvs => if kvs.length ≤ 15 then .ok (.ref n) (S.set n (.dct (mergeKD [] kvs))) else .bad
  | _, _ => .bad
def mDisp (l : List (M D × M D)) : M D := fun ρ S => (mPairs l ρ (S ++ [.dct []])).bind fun ps S1 => dispD S.length ps S1
inductive RP (G : Gv) (θ : List Addr) (H : Hp) : List (D × D) → List (V × V) → Prop
  | nil : RP G θ H [] []
  | cons {k v : D} {x y : V} {r : List (D × D)} {s : List (V × V)} : RD G θ H k x → RD G θ H v y → RP G θ H r s → RP G θ H ((k, v) :: r) ((x, y) :: s)
theorem RP.ext {G : Gv} {θ θ' : List Addr} {H H' : Hp} (e : Ext θ H θ' H') : ∀ {r : List (D × D)} {s : List (V × V)}, RP G θ H r s → RP G θ' H' r s
  | _, _, .nil => .nil
  | _, _, .cons a b t => .cons (a.ext e) (b.ext e) (RP.ext e t)
theorem pairs_read : ∀ {l : List (M D × M D)} {σ : St} {H : Hp} {Q : List (V × V) → Hp → Prop}, rd B (RP B.G) (mPairs l) σ H Q → tPairs (l.map fun p => (rdE B p.1, rdE B p.2)) σ H Q
  | [], σ, H, Q, ⟨ρ, S, θ, R0, rs, f⟩ => Fin.ok (a := ([] : List (D × D))) (S := S) f .refl R0 .nil
  | (a, b) :: r, σ, H, Q, ⟨ρ, S, θ, R0, rs, f⟩ => ⟨ρ, S, θ, R0, rs, Fin.bind f fun k S1 θ1 H1 kv _ e1 R1 r1 f1 => ⟨ρ, S1, θ1, R1, rs.ext e1, Fin.bind f1 fun v S2 θ2 H2 vv _ e2 R2 r2 f2 =>
    pairs_read ⟨ρ, S2, θ2, R2, (rs.ext e1).ext e2, Fin.bind f2 fun l S3 θ3 H3 ps _ e3 R3 r3 f3 => Fin.ok f3 .refl R3 (.cons ((r1.ext e2).ext e3) (r2.ext e3) r3)⟩⟩⟩
theorem keysP_ok {G : Gv} {θ : List Addr} {H : Hp} : ∀ {ps : List (D × D)} {vs : List (V × V)} {kvs : List (Key × D)}, RP G θ H ps vs → keysP ps = some kvs → ∃ es : List (Key × V), vs = es.map (fun kv => (kV kv.1, kv.2)) ∧ RK G θ H kvs es
  | _, _, _, .nil, e => by cases e; exact ⟨[], rfl, .nil⟩
  | _, _, _, .cons (k := k) (v := v) (r := r) a b t, e => by
    unfold keysP at e
    cases q1 : keyD k with
    | none => rw [q1] at e; cases e
    | some kk =>
      cases q2 : keysP r with
      | none => rw [q1, q2] at e; cases e
      | some rr =>
        rw [q1, q2] at e
        cases e
        obtain ⟨es, h1, h2⟩ := keysP_ok t q2
        have e := keyD_ok a q1
        subst e
        subst h1
        exact ⟨(kk, _) :: es, rfl, .cons b h2⟩
theorem RK.merge {G : Gv} {θ : List Addr} {H : Hp} : ∀ {more : List (Key × D)} {ms : List (Key × V)} {r : List (Key × D)} {s : List (Key × V)}, RK G θ H more ms → RK G θ H r s → RK G θ H (mergeKD r more) (mergeK s ms)
  | _, _, _, _, .nil, q => q
  | _, _, r, s, .cons (k := k) (d := d) (v := v) (r := more) (s := ms) h t, q => by
    show RK G θ H (mergeKD (putKD r k d) more) (mergeK (putK s k v) ms)
    exact RK.merge t (q.put h)
theorem de_disp {keys : List (Option Expr)} {values : List Expr} {l : List (M D × M D)} (h : PPs X pos keys values (l.map fun p => (rdE B p.1, rdE B p.2))) (hall : keys.all (·.isSome) = true) (hl : keys.length = values.length) (h0 : keys ≠ []) (h15 : keys.length ≤ 15) : PE X (.Dict keys values pos) (rdE B (mDisp l)) :=
  PE.imp (pe_disp h hall hl h0 h15) fun σ H Q ⟨ρ, S, θ, R0, rs, f⟩ => fun p hp => by
    have e0 : Ext θ H (θ ++ [p]) (upd H p (.dK [])) := ext_cell hp
    have R1 : Rel B.G B.F (θ ++ [p]) (S ++ [.dct []]) (upd H p (.dK [])) := R0.allocC (c0 := .dct []) hp ⟨[], upd_same, .nil⟩
    have gp : (θ ++ [p])[S.length]? = some p := by rw [← R0.len, List.getElem?_concat_length]
    refine pairs_read ⟨ρ, _, _, R1, rs.ext e0, Fin.bind (Fin.ext e0 f) fun ps S1 θ1 H1 vs _ e1 R2 r1 f1 => ?_⟩
    have g1 := e1.get gp
    unfold dispD at f1
    cases q : S1[S.length]? with
    | none => rw [q] at f1; exact f1.elim
    | some c =>
      rw [q] at f1
      cases c with
      | lst _ => exact f1.elim
      | rev _ _ => exact f1.elim
      | dct es0 =>
        cases es0 with
        | cons _ _ => exact f1.elim
        | nil =>
          cases q2 : keysP ps with
          | none => rw [q2] at f1; exact f1.elim
          | some kvs =>
            rw [q2] at f1
            obtain ⟨c, f2⟩ := Fin.ite (c := kvs.length ≤ 15) f1
            obtain ⟨es, h1, h2⟩ := keysP_ok r1 q2
            obtain ⟨ys, k1, k2⟩ := R2.cells _ _ _ g1 q
            cases k2
            have w := R2.writeC (o := .dK (mergeK [] es)) (c1 := .dct (mergeKD [] kvs)) g1 q fun e => ⟨_, upd_same, (RK.merge h2 .nil).ext e⟩
            exact ⟨k1, es, h1, by rw [← h2.length]; exact c, Fin.ok f2 w.1 w.2 (.ref g1)⟩
end
end DM

namespace DM
open PySem PySem.Spec L2
open PyProof.Rows hiding St
section
variable {X : Cx} {B : Bv} {pos : Pos}
abbrev rSortTup (X : Cx) : List V → Hp → VK → Prop := fun vs H Q => ∃ (l : Addr) (xs : List V) (kz : List PyData), vs = [.ref l] ∧ SqT X.K H l xs ∧ DpAll X.K H xs kz ∧ PySem.W.AllAlike kz ∧ PySem.W.Sortable kz ∧ (∀ d ∈ kz, X.A.units + 2 + d.depth < cLine) ∧
  ∀ p, H p = none → Q (.ref p) (upd H p (.lst (srtK xs kz)))
theorem each_mono {α : Type} {R R' : Value → α → Prop} (h : ∀ v a, R v a → R' v a) : ∀ {us : List Value} {xs : List α}, PySem.W.EachIs R us xs → PySem.W.EachIs R' us xs
  | _, _, .nil => .nil
  | _, _, .cons a t => .cons (h _ _ a) (each_mono h t)
theorem call_sortTup : CallR X (.builtin "sorted") (rSortTup X) := by
  intro pins s σ H vs us Q I r h
  obtain ⟨l, xs, kz, rfl, hs, hD, hal, hsk, hu, q⟩ := h
  obtain ⟨u, rfl, rfl⟩ := vals1 r
  obtain ⟨its, rv, ⟨ob, hob, hcl, n0, hda⟩, hz⟩ := I.tuple hs
  have hk := dpAll_len hD
  have hzl : its.length ≤ sizeLine := by rw [← rv.length]; exact hz
  refine PyProof.Rows.call_function_entry_kw kind_sorted plain_sorted entry_sorted (args_sorted1 _) ?_
  unfold Builtin.«sorted»
  refine wpAny_bind (m := checkCount "sorted" 1 1 _) (wpAny_pure ?_)
  refine wpAny_bind (wpAny_collect_seq l (.inr rfl) hob hcl hda (fun hp kp0 => ?_) hzl)
  have Ip : Inv X pins σ H { s with heap := hp } := I.kept (t' := s.toks) kp0
  refine wpAny_bind (wpAny_newList ?_ hzl)
  show wpAny _ _ _ _ _ { s with heap := hp.push (seqObj "list" its.toArray 0) }
  obtain ⟨a, ea⟩ : ∃ a, a = hp.objs.size := ⟨_, rfl⟩
  rw [← ea]
  have hoL : (hp.push (seqObj "list" its.toArray 0)).get? a = some (seqObj "list" its.toArray 0) := by rw [ea]; exact Heap.get?_push_size _ rfl
  have kp1 : ∀ b o, s.heap.get? b = some o → (hp.push (seqObj "list" its.toArray 0)).get? b = some o := fun b o e => Heap.get?_push_of_some _ (kp0 b o e)
  have na : hp.objs.size ≤ a := Nat.le_of_eq ea.symm
  have I1 : Inv X pins σ H { s with heap := hp.push (seqObj "list" its.toArray 0) } := I.kept (t' := s.toks) kp1
  have er : PySem.W.EachIs (fun v (b : V × PyData) => ∃ as, Reads (hp.push (seqObj "list" its.toArray 0)) v b.2 as ∧ a ∉ as) its (xs.zip kz) := by
    refine each_mono (R := fun v (b : V × PyData) => ∃ as, Reads hp v b.2 as) (fun v b ⟨as, rd⟩ => ⟨as, PyProof.Rows.Reads.keeps (fun _ _ e => Heap.get?_push_of_some _ e) rd, fun hm => ?_⟩) (each_zip2 (dps_reads Ip rv hD) hk.symm)
    obtain ⟨o9, e9⟩ := PyProof.On.reads_mem_get rd a hm
    exact absurd (Heap.lt_size e9) (by rw [ea]; exact Nat.lt_irrefl _)
  refine wpAny_bind (wpAny_holding ?_)
  refine PySem.W.list_sort_data (A := X.A.in1) (bs := xs.zip kz) (enc := (·.2)) (R := fun v b => RelV b.1 v) hoL (each_zip rv hk) er (by rw [map_zip_snd hk]; exact hal) (by rw [map_zip_snd hk]; exact hsk) (by
    rw [List.length_zip, hk, Nat.min_self]; exact hz) (fun b hb => by have := hu b.2 (List.of_mem_zip hb).2; exact Nat.lt_of_le_of_lt (by show X.A.in1.units + 1 + b.2.depth ≤ X.A.units + 2 + b.2.depth; have : X.A.in1.units = X.A.units + 1 := rfl; omega) this) fun out ho eo => ?_
  obtain ⟨ep, he'⟩ := PyProof.Rows.sortedHeap_at (out := out.toArray) hoL
  have hv : Vals (srtK xs kz) out := each_vals eo
  have hlen : (srtK xs kz).length ≤ sizeLine := by
    unfold srtK
    rw [List.length_map, List.length_mergeSort, List.length_zip, hk, Nat.min_self]
    exact hz
  refine wpAny_pure ⟨_, rfl, .ref a, upd H a (.lst (srtK xs kz)), Ip.laid (t' := s.toks) (fun b o e => ?_) na ⟨hlen, out, ep, hv, he'⟩, rfl, q _ (Ip.hok.fresh na)⟩
  have hb : b ≠ a := by rw [ea]; exact Nat.ne_of_lt (Heap.lt_size e)
  rw [PyProof.Rows.sortedHeap_old hb (Heap.lt_size (Heap.get?_push_of_some _ e))]
  exact Heap.get?_push_of_some _ e
/-- sorted of a tuple: of ints first, then by data -/
def tupSD (S : Store) (xs : List D) : R D := match xs.mapM (toPy 20 S) with
  | some kz => if okK kz then (match asInts xs with
    | some ns => .ok (.ref S.length) (S ++ [.lst ((srtI ns).map .int)])
    | none => .ok (.ref S.length) (S ++ [.lst (srtD xs kz)])) else .bad
  | none => .bad
def sortXD : Ob := fun ds S => match one1 ds with
  | some d => match tupOf d with
    | some xs => tupSD S xs
    | none => sortTD ds S
  | none => .bad
abbrev rSortX (X : Cx) : List V → Hp → VK → Prop := fun vs H Q => rSortAll X vs H Q ∨ rSortTup X vs H Q
theorem call_sortX (hc : X.calm = true) : CallR X (.builtin "sorted") (rSortX X) := CallR.or (call_sortAll hc) call_sortTup
theorem asInts_map : ∀ {xs : List D} {ns : List Int}, asInts xs = some ns → xs = ns.map D.int
  | [], _, h => by cases h; rfl
  | x :: r, ns, h => by
    cases x with
    | int i =>
      have h' : (asInts r).map (i :: ·) = some ns := h
      cases q : asInts r with
      | none => rw [q] at h'; cases h'
      | some ms =>
        rw [q] at h'
        cases h'
        rw [asInts_map q]; rfl
    | _ => cases h
theorem mapM_ints {S : Store} : ∀ {ns : List Int}, (ns.map D.int).mapM (toPy 20 S) = some (ns.map PyData.int)
  | [] => rfl
  | n :: r => by
    rw [List.map_cons, List.mapM_cons, mapM_ints (ns := r)]
    rfl
theorem srtD_int {ns : List Int} : srtD (ns.map D.int) (ns.map PyData.int) = (srtI ns).map D.int := by
  unfold srtD
  rw [List.zip_map']
  have z := List.map_mergeSort (r := fun a b : Int => decide (a ≤ b)) (s := PySem.W.dataLe false (·.2)) (f := fun n : Int => (D.int n, PyData.int n)) (l := ns) (fun a ha b hb => by
    show decide (a ≤ b) = !PySem.W.dataLt (.int b) (.int a)
    rw [PySem.W.dataLt_int]
    by_cases h : a ≤ b
    · rw [decide_eq_true h, decide_eq_false (by omega)]; rfl
    · rw [decide_eq_false h, decide_eq_true (by omega)]; rfl)
  rw [← z, List.map_map]
  have e : ns.mergeSort (fun a b : Int => decide (a ≤ b)) = srtI ns := by
    refine srtI_eq (List.mergeSort_perm ns _) ?_
    have := List.pairwise_mergeSort (le := fun a b : Int => decide (a ≤ b)) (fun a b c h1 h2 => by simp only [decide_eq_true_eq] at *; omega) (fun a b => by simp only [Bool.or_eq_true, decide_eq_true_eq]; omega) ns
    exact this.imp fun h => by simpa using h
  rw [e]; rfl
theorem den_sortX {k : Nat} (hr : Room k X.A) (hK : B.G.K = X.K) : DenB B (rSortX X) sortXD := by
  intro σ θ S H ds vs Q R0 r f
  unfold sortXD at f
  cases q : one1 ds with
  | none => rw [q] at f; exact f.elim
  | some d =>
    rw [q] at f
    dsimp only at f
    cases q1 : tupOf d with
    | none => rw [q1] at f; exact .inl (den_sortT hr hK σ θ S H ds vs Q R0 r f)
    | some xs =>
      rw [q1] at f
      replace f : Fin B (RD B.G) σ θ H (tupSD S xs) Q := f
      unfold tupSD at f
      cases q4 : xs.mapM (toPy 20 S) with
      | none => rw [q4] at f; exact f.elim
      | some kz =>
        rw [q4] at f
        obtain ⟨c, f2⟩ := Fin.ite (c := okK kz = true) f
        obtain ⟨c1, c2, c3⟩ := okK_ok c
        have e := one1_ok q
        subst e
        obtain ⟨v, rfl, r1⟩ := rds1 r
        obtain ⟨a, ws, rfl, k1, k2⟩ := tupOf_ok r1 q1
        have hD := dpAll_of (F := B.F) (toPy_dp R0 20) xs ws kz k2 q4
        rw [hK] at k1 hD
        have hz : DM.srtD xs kz = DM.srtD xs kz := rfl
        have f3 : Fin B (RD B.G) σ θ H (.ok (.ref S.length) (S ++ [.lst (srtD xs kz)])) Q := by
          cases q5 : asInts xs with
          | none => rw [q5] at f2; exact f2
          | some ns =>
            rw [q5] at f2
            have e1 := asInts_map q5
            subst e1
            rw [mapM_ints] at q4
            cases q4
            rw [srtD_int]
            exact f2
        refine .inr ⟨a, ws, kz, rfl, k1, hD, c1, c2, fun d hd => ?_, fun p hp => Fin.ok f3 (ext_cell hp) (R0.alloc hp (srtD_ok k2 ((dpAll_len hD).trans k2.length.symm))) (RD.new R0)⟩
        have h1 := c3 d hd
        have h2 := hr.un
        omega
end
end DM

namespace DM
open PySem PySem.Spec L2
open PyProof.Rows hiding St
open PySem.AutoSeq1
theorem ext_tup (l : Addr) (items : Array Value) (n : Nat) (b : Addr) (items2 : Array Value) (n2 : Nat) (od : Option Addr) (sl : Array (Option Value)) (hs0 : ¬(!items.isEmpty && Builtin.List.listTooLong (items.size + items2.size)) = true) (hs1 : items.size ≤ sizeLine) (hs2 : items.size + items2.size ≤ sizeLine + 1) :
    Meets (Builtin.«list.extend» ⟨[.ref l, .ref b], []⟩) (fun _ R s => s.heap.get? l = some { cls := .type "list", dict := none, data := .seq items n, slots := #[] } ∧ s.heap.get? b = some { cls := .type "tuple", dict := od, data := .seq items2 n2, slots := sl } ∧ R (.ok (.ret Value.none)) { s with heap := s.heap.update l (Obj.mapSeq fun x => x ++ items2), toks := s.toks }) :=
  .of_wp fun prog w A R s h => by
    obtain ⟨hp, g, d, tk, os⟩ := s; obtain ⟨hl, hb, h⟩ := h; have f1 := idx_int; have f2 := PySem.AutoSeq1.sub_tuple_tuple; have f3 := PySem.AutoSeq1.sub_list_list; have f4 := PySem.AutoSeq1.sub_tuple_list; have f5 := PySem.AutoSeq1.sub_list_tuple;
    have hz' : (items ++ items2).size ≤ sizeLine + 1 := by rw [Array.size_append]; exact hs2
    wp_walk using (wpAny_updateSeq hl rfl (hz := hs1) (_hz' := hz')), wpAny_loadPart' hl, wpAny_loadPart' hb; exact ⟨_, rfl, h⟩
section
variable {X : Cx} {B : Bv} {pos : Pos}
def rExtT (K : PySem.W.Frag) : V → List V → Hp → VK → Prop := fun x vs H Q => ∃ l b xs zs, x = .ref l ∧ vs = [.ref b] ∧ H l = some (.lst xs) ∧ SqT K H b zs ∧ xs.length + zs.length ≤ sizeLine ∧ Q .non (upd H l (.lst (xs ++ zs)))
theorem mt_extT : MtM X "list.extend" (rExtT X.K) := by
  intro pins s σ H x vs v us Q I rx rv h
  obtain ⟨l, b, xs, zs, rfl, rfl, hH, hB, hz, q⟩ := h
  cases rx
  obtain ⟨u, rfl, ru⟩ := rv.one
  cases ru
  obtain ⟨z, its, n, r, hl, e⟩ := I.lstM hH
  obtain ⟨its2, r2, ⟨ob, hob, hcl, n2, hda⟩, hz2⟩ := I.tuple hB
  obtain ⟨oc, od, dt, sl⟩ := ob
  dsimp only at hcl hda
  subst hcl
  subst hda
  have l2 : zs.length = its2.length := r2.length
  have hsz : its.toArray.size + its2.toArray.size ≤ sizeLine := by rw [List.size_toArray, List.size_toArray]; omega
  have hlong : ¬ (!its.toArray.isEmpty && Builtin.List.listTooLong (its.toArray.size + its2.toArray.size)) = true := by
    rw [notLongL hsz, Bool.and_false]
    exact Bool.false_ne_true
  refine call_meets F.slot_list_extend ⟨_, e, rfl⟩ F.entry_list_extend (F.args_list_extend_2 _ _)
    (ext_tup l its.toArray n b its2.toArray n2 od sl hlong (by rw [List.size_toArray]; omega) (by omega)) ⟨e, hob, ?_⟩
  refine ⟨.non, _, I.lset (its' := its ++ its2) hH e (by simp) (r.append r2) ?_, rfl, q⟩
  rw [List.length_append]
  omega
def extXD : Om := fun d ds S => match one1 ds with
  | some y => match tupOf y with
    | some ys => match getM d S with
      | some p => if p.2.length + ys.length ≤ 16777216 then .ok .non (S.set p.1 (.lst (p.2 ++ ys))) else .bad
      | none => .bad
    | none => extendD d ds S
  | none => .bad
abbrev rExtX (K : PySem.W.Frag) : V → List V → Hp → VK → Prop := fun x vs H Q => rExtend x vs H Q ∨ rExtT K x vs H Q
theorem mt_extX : MtM X "list.extend" (rExtX X.K) := fun pins s σ H x vs v us Q I rx rv h => h.elim (mt_extend pins s σ H x vs v us Q I rx rv) (mt_extT pins s σ H x vs v us Q I rx rv)
theorem den_extX (hK : B.G.K = X.K) : DenM B (rExtX X.K) extXD := by
  intro σ θ S H d x ds vs Q R0 r1 r2 f
  unfold extXD at f
  cases q2 : one1 ds with
  | none => rw [q2] at f; exact f.elim
  | some y =>
    rw [q2] at f
    replace f : Fin B (RD B.G) σ θ H (match tupOf y with
      | some ys => match getM d S with
        | some p => if p.2.length + ys.length ≤ 16777216 then .ok .non (S.set p.1 (.lst (p.2 ++ ys))) else .bad
        | none => .bad
      | none => extendD d ds S) Q := f
    cases q3 : tupOf y with
    | none => rw [q3] at f; exact .inl (den_extend σ θ S H d x ds vs Q R0 r1 r2 f)
    | some ys =>
      rw [q3] at f
      replace f : Fin B (RD B.G) σ θ H (match getM d S with
        | some p => if p.2.length + ys.length ≤ 16777216 then .ok .non (S.set p.1 (.lst (p.2 ++ ys))) else .bad
        | none => .bad) Q := f
      cases q1 : getM d S with
      | none => rw [q1] at f; exact f.elim
      | some p =>
        rw [q1] at f
        have e := one1_ok q2
        subst e
        obtain ⟨v, rfl, r3⟩ := rds1 r2
        obtain ⟨a, xs, rfl, k1, k2, k3, k4⟩ := getM_ok R0 r1 q1
        obtain ⟨hl, f2⟩ := Fin.ite (c := p.2.length + ys.length ≤ 16777216) f
        obtain ⟨b, zs, rfl, g1, g2⟩ := tupOf_ok r3 q3
        have w := R0.write k1 k2 (k4.append g2)
        exact .inr ⟨a, b, xs, zs, rfl, rfl, k3, hK ▸ g1, by rw [← k4.length, ← g2.length]; exact hl, f2.ok w.1 w.2 .non⟩

theorem sum_rawT {prog : Program} {w : World} {A : Around} {E : Value → Shared → Prop} {s : Shared} {l : Addr} {its : List Value} {ns : List Int} {Q : Value → Shared → Prop} (hh : A.handled = none) (hl : s.heap.IsTuple l its.toArray) (hi : IntsAre its ns)
    (h : ∀ h' tk t', (∀ b o, s.heap.get? b = some o → h'.get? b = some o) → Q (.int ns.sum t') { s with heap := h', toks := tk }) : wpAny (model prog w) A (call (.builtin "sum") [.ref l]) Q E s := by
  obtain ⟨xs, e⟩ := hi.allInts.items
  have hn : numsOf (intItems xs).toList = ns := by rw [← e]; exact hi.numsOf
  rw [nums_intItems] at hn
  rw [e] at hl
  refine PySem.W.ktm_sumG hh hl fun h' tk t' hk => ?_
  have := h h' tk t' hk
  rw [preSum_eq, List.take_of_length_le (by simp), hn]; exact this
def rSumT (K : PySem.W.Frag) : List V → Hp → VK → Prop := fun vs H Q => ∃ (a : Addr) (ns : List Int), vs = [V.ref a] ∧ SqT K H a (ns.map V.int) ∧ Q (.int ns.sum) H
theorem cr_sumT (hc : X.calm = true) : CallR X (.builtin "sum") (rSumT X.K) := by
  intro pins s σ H vs us Q I r h
  obtain ⟨a, ns, rfl, hs, q⟩ := h
  obtain ⟨its, rv, hl, _⟩ := I.tuple hs
  rw [Vals.ref1 r]
  exact sum_rawT (I.ok.hd hc) hl rv.ints fun h' tk t' hk => ⟨.int _, H, I.kept hk, ⟨_, rfl⟩, q⟩
def sumXD : Ob := fun ds S => match one1 ds with
  | some d => match tupOf d with
    | some xs => match asInts xs with
      | some ns => .ok (.int ns.sum) S
      | none => .bad
    | none => sumD ds S
  | none => .bad
abbrev rSumX (K : PySem.W.Frag) : List V → Hp → VK → Prop := fun vs H Q => rSum K vs H Q ∨ rSumT K vs H Q
theorem cr_sumX (hc : X.calm = true) : CallR X (.builtin "sum") (rSumX X.K) := CallR.or (cr_sum hc) (cr_sumT hc)
theorem rds_int {G : Gv} {θ : List Addr} {H : Hp} : ∀ {ns : List Int} {ws : List V}, RDs G θ H (ns.map D.int) ws → ws = ns.map V.int
  | [], _, .nil => rfl
  | n :: r, _, .cons (.int _) t => by rw [rds_int t]; rfl
theorem den_sumX (hK : B.G.K = X.K) : DenB B (rSumX X.K) sumXD := by
  intro σ θ S H ds vs Q R0 r f
  unfold sumXD at f
  cases q : one1 ds with
  | none => rw [q] at f; exact f.elim
  | some d =>
    rw [q] at f
    replace f : Fin B (RD B.G) σ θ H (match tupOf d with
      | some xs => match asInts xs with
        | some ns => .ok (.int ns.sum) S
        | none => .bad
      | none => sumD ds S) Q := f
    cases q1 : tupOf d with
    | none => rw [q1] at f; exact .inl (den_sum hK σ θ S H ds vs Q R0 r f)
    | some xs =>
      rw [q1] at f
      replace f : Fin B (RD B.G) σ θ H (match asInts xs with
        | some ns => .ok (.int ns.sum) S
        | none => .bad) Q := f
      cases q2 : asInts xs with
      | none => rw [q2] at f; exact f.elim
      | some ns =>
        rw [q2] at f
        have e := one1_ok q
        subst e
        obtain ⟨v, rfl, r1⟩ := rds1 r
        obtain ⟨a, ws, rfl, k1, k2⟩ := tupOf_ok r1 q1
        have e1 := asInts_map q2
        subst e1
        rw [rds_int k2] at k1
        exact .inr ⟨a, ns, rfl, hK ▸ k1, Fin.ok (a := D.int ns.sum) f .refl R0 (.int _)⟩
end
end DM

namespace DM
open PySem PySem.Spec L2
theorem addL_ok {a b : Nat} {xs ys : List D} {S : Store} (h1 : S[a]? = some (.lst xs)) (h2 : S[b]? = some (.lst ys)) (hl : (xs ++ ys).length ≤ 1000) : addD (.ref a) (.ref b) S = .ok (.ref S.length) (S ++ [.lst (xs ++ ys)]) := by
  show (match (match S[a]? with | some (.lst ds) => some ds | _ => none), (match S[b]? with | some (.lst ds) => some ds | _ => none) with
    | some xs, some ys => lstD (xs ++ ys) S
    | _, _ => .bad) = _
  rw [h1, h2]
  show lstD (xs ++ ys) S = _
  unfold lstD
  rw [if_pos (by rw [sizeLine_eq]; omega)]
theorem mulL_ok {a : Nat} {xs ys : List D} {k : Nat} {S : Store} (h1 : S[a]? = some (.lst xs)) (hk : k ≤ 1000) (hx : xs.length ≤ 1000) (e : (List.replicate k xs).flatten = ys) (hl : ys.length ≤ 1000) : mulD (.ref a) (.int (k : Int)) S = .ok (.ref S.length) (S ++ [.lst ys]) := by
  show repL (match S[a]? with | some (.lst ds) => some ds | _ => none) (k : Int) S = _
  rw [h1]
  unfold repL
  have c : repC (k : Int) xs.length = true := by
    unfold repC
    have h3 : ((k : Int)).toNat = k := Int.toNat_natCast k
    rw [h3]
    simp only [Bool.and_eq_true, decide_eq_true_eq]
    refine ⟨⟨by omega, by omega⟩, ?_⟩
    rw [sizeLine_eq]
    exact Nat.le_trans (Nat.mul_le_mul hx hk) (by decide)
  dsimp only
  rw [if_pos c, Int.toNat_natCast, e]
  unfold lstD
  rw [if_pos (by rw [sizeLine_eq]; omega)]
/-- the call hands back a new list of these texts -/
def isTxs : List Str → List D → Bool
  | [], [] => true
  | w :: r, .str s :: t => decide (s = w) && isTxs r t
  | _, _ => false
def lstIs (ws : List Str) : R D → Bool
  | .ok (.ref j) S => match S[j]? with
    | some (.lst ds) => isTxs ws ds
    | _ => false
  | _ => false
theorem isTxs_ok : ∀ {ws : List Str} {ds : List D}, isTxs ws ds = true → ds = ws.map D.str
  | [], [], _ => rfl
  | w :: r, .str s :: t, h => by
    unfold isTxs at h
    rw [Bool.and_eq_true, decide_eq_true_eq] at h
    rw [h.1, isTxs_ok h.2]; rfl
theorem pure_strs : ∀ ws : List Str, pureAll (ws.map D.str) = true
  | [] => rfl
  | w :: r => by show (true && pureAll (r.map D.str)) = true; rw [pure_strs r]; rfl
theorem lst_all {m : Fm} {ds : List D} {ws : List Str} (hc : cleanAll ds = true) (h : lstIs ws (m ds []) = true) (S : Store) : callD m ds S = .ok (.ref S.length) (S ++ [.lst (ws.map D.str)]) := by
  cases q : m ds [] with
  | bad => rw [q] at h; cases h
  | exc => rw [q] at h; cases h
  | ok d S1 =>
    rw [q] at h
    cases d with
    | ref j =>
      unfold lstIs at h
      dsimp only at h
      cases q2 : S1[j]? with
      | none => rw [q2] at h; cases h
      | some c =>
        rw [q2] at h
        cases c with
        | lst es =>
          have e := isTxs_ok h
          subst e
          exact callD_new hc q q2 (pure_strs ws)
        | _ => cases h
    | _ => cases h
/-- texts all right -/
theorem sl_of : ∀ {ws : List Str}, ws.all PyData.strOk = true → SL (ws.map D.str)
  | [], _ => .nil
  | w :: r, h => by
    rw [List.all_cons, Bool.and_eq_true] at h
    exact .cons h.1 (sl_of h.2)
def okB : R D → Bool
  | .ok (.bl true) _ => true
  | _ => false
theorem okB_ok {r : R D} (h : okB r = true) : ∃ S, r = .ok (.bl true) S := by
  unfold okB at h
  split at h
  · exact ⟨_, rfl⟩
  · cases h

/-- one asking of the dice: right, and the dice go on -/
def RightOk (m : Fm) (K : Nat) : Prop := ∀ (es : List D) (n : Nat), Dc es n → n < 2 ^ 90 → ∃ es' S', m [.ref 0] [.lst es] = .ok (.bl true) S' ∧ S'[0]? = some (.lst es') ∧ Dc es' (n + K)
theorem right_call {m : Fm} {K n k : Nat} {es : List D} {S : Store} (h : RightOk m K) (hS : S[k]? = some (.lst es)) (hd : Dc es n) (hn : n < 2 ^ 90) : ∃ es', callD m [.ref k] S = .ok (.bl true) (S.set k (.lst es')) ∧ Dc es' (n + K) := by
  obtain ⟨es', S', e, h1, h2⟩ := h es n hd hn
  exact ⟨es', callD_ref hS hd.clean.1 rfl e h1 h2.clean.2 rfl, h2⟩
/-- twice -/
theorem two_or {m : Fm} {K n k i : Nat} {es : List D} {S : Store} {ρ : Env} (h : RightOk m K) (hK : K ≤ 1000) (hi : ρ[i]? = some (some (.ref k))) (hS : S[k]? = some (.lst es)) (hd : Dc es n) (hn : n < 2 ^ 80) :
    ∃ S', sIf (mOrT (mNotT (mTest (mCall m (mCons (mVar i) (mNil))))) (mNotT (mTest (mCall m (mCons (mVar i) (mNil)))))) (sRet (mC (.bl false))) (sNil) ρ S = .nx ρ S' := by
  obtain ⟨es1, e1, d1⟩ := right_call h hS hd (by omega)
  have hk : k < S.length := (List.getElem?_eq_some_iff.mp hS).1
  obtain ⟨es2, e2, d2⟩ := right_call (S := S.set k (.lst es1)) h (List.getElem?_set_self hk) d1 (by omega)
  have ev : ∀ S, mVar i ρ S = .ok (.ref k) S := fun S => by unfold mVar; rw [hi]
  exact ⟨_, sIf_f (mOrT_ok2 (mNotT_ok (mTest_ok (mCall_ok (mCons_ok (ev _) rfl) e1))) (mNotT_ok (mTest_ok (mCall_ok (mCons_ok (ev _) rfl) e2)))) rfl⟩
/-- for turn in range(t): if not right: return False -/
theorem turns_ok {m : Fm} {K n k i j t : Nat} {es : List D} {S : Store} {ρ : Env} (h : RightOk m K) (hK : K ≤ 1000) (ht : t ≤ 1000) (hj : j ≠ i) (hi : ρ[i]? = some (some (.ref k))) (hS : S[k]? = some (.lst es)) (hd : Dc es n) (hn : n < 2 ^ 80) :
    ∃ ρ' S', sFor (mRng (mCons (mC (.int (t : Int))) (mNil))) (tName j) (sIf (mNotT (mTest (mCall m (mCons (mVar i) (mNil))))) (sRet (mC (.bl false))) (sNil)) ρ S = .nx ρ' S' ∧ ∀ x, x ≠ j → ρ'[x]? = ρ[x]? := by
  have er : mRng (mCons (mC (.int (t : Int))) mNil) ρ S = .ok (nxRng 0 1 t) S := mRng_ok (mCons_ok rfl rfl) (rng_one (by omega))
  obtain ⟨ρ', S', e, a, _⟩ := sFor_ok (it := mRng (mCons (mC (.int (t : Int))) mNil)) (g := tName j) (b := sIf (mNotT (mTest (mCall m (mCons (mVar i) (mNil))))) (sRet (mC (.bl false))) (sNil)) (n := t) (nx := nxRng 0 1 t) (ρ := ρ) (S := S) (S0 := S)
    (fun x ρ' S' => (∀ y, y ≠ j → ρ'[y]? = ρ[y]?) ∧ ∃ (es' : List D) (n' : Nat), S'[k]? = some (.lst es') ∧ Dc es' n' ∧ n' ≤ n + x * K) er (by unfold fuel; omega)
    ⟨fun _ _ => rfl, es, n, hS, hd, by omega⟩
    (fun x ρ' S' hx ⟨a, es', n', b1, b2, b3⟩ => by
      have hb : x * K ≤ 1000 * 1000 := Nat.mul_le_mul (by omega) hK
      obtain ⟨es2, e2, d2⟩ := right_call h b1 b2 (by omega)
      have hk : k < S'.length := (List.getElem?_eq_some_iff.mp b1).1
      have hi' : ((ρ'.set j (some (.int (0 + (x : Int) * 1)))))[i]? = some (some (.ref k)) := by
        rw [List.getElem?_set_ne hj, a i (Ne.symm hj)]; exact hi
      have ev : mVar i (ρ'.set j (some (.int (0 + (x : Int) * 1)))) S' = .ok (.ref k) S' := by unfold mVar; rw [hi']
      refine ⟨_, ρ'.set j (some (.int (0 + (x : Int) * 1))), S', _, _, nxRng_lt hx, rfl, sIf_f (mNotT_ok (mTest_ok (mCall_ok (mCons_ok ev rfl) e2))) rfl, fun y hy => ?_, es2, n' + K, List.getElem?_set_self hk, d2, ?_⟩
      · rw [List.getElem?_set_ne (Ne.symm hy)]; exact a y hy
      · rw [Nat.succ_mul]; omega) (fun ρ S _ => nxRng_end)
  exact ⟨ρ', S', e, a⟩
/-- all spots -/
theorem spots_ok {n l : Nat} {ns : List Int} {dice : Fm} {rest : SM} (hd : dice = diceM) (hn : 1 ≤ n) (hn2 : n ≤ 63) (hl : ns.length ≤ 63)
    (hr : ∀ (ρ : Env) (S : Store) (es : List D) (k : Nat), ρ.length = l + 3 → ρ[2]? = some (some (.ref k)) → S[k]? = some (.lst es) → Dc es 0 → ∃ ρ' S', rest ρ S = .nx ρ' S' ∧ ρ'[0]? = ρ[0]? ∧ ρ'.length = ρ.length) :
    ∃ ρ' S', sFor (mRng (mCons (mBlt max2D (mCons (mC (.int 1)) (mCons (mBlt min2D (mCons (mC (.int (n : Int))) (mCons (mBlt lenD (mCons (mVar 0) (mNil))) (mNil)))) (mNil)))) (mNil))) (tName 1) (sSeq (sSet 2 (mCall dice (mCons (mVar 0) (mCons (mVar 1) (mNil))))) rest) (some (.kst (ns.map .int)) :: List.replicate (l + 2) none) [] = .nx ρ' S' ∧ ρ'.length = l + 3 := by
  subst hd
  obtain ⟨N, hN, eN⟩ := spots_rng (n := n) (ns := ns) (ρ := some (.kst (ns.map .int)) :: List.replicate (l + 2) none) (S := []) hn hn2 rfl
  obtain ⟨ρ', S', e, a1, a2⟩ := sFor_ok (g := tName 1) (b := sSeq (sSet 2 (mCall diceM (mCons (mVar 0) (mCons (mVar 1) (mNil))))) rest) (n := N) (nx := nxRng 0 1 N) (S := [])
    (fun x ρ S => ρ[0]? = some (some (.kst (ns.map .int))) ∧ ρ.length = l + 3) eN (by unfold fuel; omega) ⟨rfl, by simp⟩
    (fun x ρ S hx ⟨a, b⟩ => by
      obtain ⟨es, e1, d1⟩ := diceC (ns := ns) (i := x) (S := S) (by omega) hl
      have ei : (0 + (x : Int) * 1) = (x : Int) := by omega
      have g0 : (ρ.set 1 (some (.int (x : Int))))[0]? = some (some (.kst (ns.map .int))) := by rw [List.getElem?_set_ne (by decide)]; exact a
      have g1 : (ρ.set 1 (some (.int (x : Int))))[1]? = some (some (.int (x : Int))) := List.getElem?_set_self (by omega)
      have s1 : sSet 2 (mCall diceM (mCons (mVar 0) (mCons (mVar 1) (mNil)))) (ρ.set 1 (some (.int (x : Int)))) S = .nx ((ρ.set 1 (some (.int (x : Int)))).set 2 (some (.ref S.length))) (S ++ [.lst es]) :=
        sSet_ok (mCall_ok (mCons_ok (x := .kst (ns.map .int)) (by unfold mVar; rw [g0]) (mCons_ok (x := .int (x : Int)) (by unfold mVar; rw [g1]) rfl)) e1)
      obtain ⟨ρ2, S2, e2, h0, h3⟩ := hr ((ρ.set 1 (some (.int (x : Int)))).set 2 (some (.ref S.length))) (S ++ [.lst es]) es S.length (by simpa using b) (List.getElem?_set_self (by rw [List.length_set]; omega)) List.getElem?_concat_length d1
      refine ⟨_, ρ.set 1 (some (.int (x : Int))), S, ρ2, S2, nxRng_lt hx, ?_, sSeq_nx s1 e2, ?_, ?_⟩
      · rw [ei]; rfl
      · rw [h0, List.getElem?_set_ne (by decide)]; exact g0
      · rw [h3]; simpa using b) (fun ρ S _ => nxRng_end)
  exact ⟨ρ', S', e, a2⟩
def RT (b : SM) (ρ : Env) (S : Store) (N : Nat) : Prop := ∃ es' S', b ρ S = .rt (.bl true) S' ∧ S'[0]? = some (.lst es') ∧ Dc es' N
section
variable {a : SM} {b : SM} {ρ ρ1 : Env} {S S1 : Store} {N : Nat}
theorem RT.seq (h : a ρ S = .nx ρ1 S1) (k : RT b ρ1 S1 N) : RT (sSeq a b) ρ S N := by
  obtain ⟨es', S', e, h1, h2⟩ := k
  exact ⟨es', S', sSeq_nx h e, h1, h2⟩
theorem RT.ret {m : M D} {es : List D} {n : Nat} (h : m ρ S = .ok (.bl true) S1) (h1 : S1[0]? = some (.lst es)) (h2 : Dc es n) (hn : n ≤ N) : RT (sRet m) ρ S N := ⟨es, S1, sRet_ok h, h1, h2.mono hn⟩
theorem RT.pick {i l n : Nat} {pk : Fm} {items : M D} {es ds : List D} (hp : pk = pickM) (h0 : ρ[0]? = some (some (.ref 0))) (hi : items ρ S = .ok (.ref l) S1) (hS : S1[0]? = some (.lst es)) (hT : S1[l]? = some (.lst ds)) (hl0 : l ≠ 0) (h : Dc es n) (hn : n < 2 ^ 99) (hl : 0 < ds.length) (hl2 : ds.length < 2 ^ 60) (hc : cleanAll ds = true) (hq : pureAll ds = true)
    (k : ∀ v ∈ ds, cleanD v = true → ∀ es', Dc es' (n + 1) → RT b (ρ.set i (some v)) ((S1.set 0 (.lst es')).set l (.lst ds)) N) : RT (sSeq (sSet i (mCall pk (mCons (mVar 0) (mCons items mNil)))) b) ρ S N := by
  subst hp
  obtain ⟨v, es', e, hv, hd⟩ := pickD hS hT hl0 h hn hl hl2 hc hq
  have ev : mVar 0 ρ S = .ok (.ref 0) S := by unfold mVar; rw [h0]
  exact RT.seq (sSet_ok (mCall_ok (mCons_ok ev (mCons_ok hi rfl)) e)) (k v hv (cleanAll_mem hc v hv) es' hd)
theorem right_of {m : Fm} {b : SM} {l K : Nat} (hm : m = defM l b) (h : ∀ es n, Dc es n → n < 2 ^ 90 → RT b (some (.ref 0) :: List.replicate l none) [.lst es] (n + K)) : RightOk m K := by
  subst hm
  intro es n hd hn
  obtain ⟨es', S', e, h1, h2⟩ := h es n hd hn
  exact ⟨es', S', defM_rt e, h1, h2⟩
/-- an if whose words are as they should be -/
theorem if_ne {x y : M D} {p q : Nat} {l : List D} {S2 : Store} {r : SM} (h1 : x ρ S = .ok (.ref p) S1) (h2 : y ρ S1 = .ok (.ref q) S2) (g1 : S2[p]? = some (.lst l)) (g2 : S2[q]? = some (.lst l)) (h : SL l) : sIf (mTest (mBin (cmpD neC) x y)) r sNil ρ S = .nx ρ S2 :=
  sIf_f (mTest_ok (mBin_ok h1 h2 (ne_strs g1 g2 h))) rfl
end
theorem mLst_same {a : M (List D)} {xs : List D} {ρ : Env} {S : Store} (h : a ρ S = .ok xs S) (hl : xs.length ≤ sizeLine) : mLst a ρ S = .ok (.ref S.length) (S ++ [.lst xs]) := mLst_ok h hl
end DM

namespace DM
open PySem PySem.Spec L2
theorem gl {S : Store} {c : C} : (S ++ [c])[S.length]? = some c := List.getElem?_concat_length
theorem ag {S : Store} {c d : C} {p : Nat} (h : S[p]? = some c) : (S ++ [d])[p]? = some c := by
  rw [List.getElem?_append_left (List.getElem?_eq_some_iff.mp h).1]; exact h
/-- the dice lie in the cell 0; nothing that is held stands in the store -/
structure KS (S : Store) (es : List D) : Prop where
  dice : S[0]? = some (.lst es)
  g1 : noS kL S = true
  g2 : noS kX S = true
theorem KS.app {S : Store} {es : List D} {c : C} (h : KS S es) (h1 : noC kL c = true) (h2 : noC kX c = true) : KS (S ++ [c]) es :=
  ⟨ag h.dice, by rw [noS_app, h.g1]; show (true && (noC kL c && true)) = true; rw [h1]; rfl, by rw [noS_app, h.g2]; show (true && (noC kX c && true)) = true; rw [h2]; rfl⟩
theorem KS.pos {S : Store} {es : List D} (h : KS S es) : S.length ≠ 0 := Nat.ne_of_gt (List.getElem?_eq_some_iff.mp h.dice).1
theorem noC_dc {k : Nat} {es : List D} {n : Nat} (h : Dc es n) : noC k (.lst es) = true := by
  obtain ⟨a, b, c, rfl, _⟩ := h; rfl
theorem noS_set {k : Nat} {S : Store} {c : C} (i : Nat) (h : noS k S = true) (hc : noC k c = true) : noS k (S.set i c) = true := by
  unfold noS at h ⊢
  rw [List.all_eq_true] at h ⊢
  intro x hx
  rcases List.mem_or_eq_of_mem_set hx with hx | hx
  · exact h x hx
  · rw [hx]; exact hc
theorem KS.start {es : List D} {n : Nat} (h : Dc es n) : KS [.lst es] es := ⟨rfl, by show (noC kL (C.lst es) && true) = true; rw [noC_dc h]; rfl, by show (noC kX (C.lst es) && true) = true; rw [noC_dc h]; rfl⟩
section
variable {a : SM} {b : SM} {ρ ρ1 : Env} {S S1 : Store} {N : Nat} {es : List D}
theorem RT.next (h : a ρ S = .nx ρ1 S1) (hK : KS S1 es) (k : ∀ S', KS S' es → (∀ (p : Nat) (x : List D), S1[p]? = some (.lst x) → S'[p]? = some (.lst x)) → RT b ρ1 S' N) : RT (sSeq a b) ρ S N := RT.seq h (k S1 hK fun _ _ h => h)
theorem RT.setL {i P : Nat} {m : M D} {x : List D} (h : m ρ S = .ok (.ref P) S1) (hP : S1[P]? = some (.lst x)) (hP0 : P ≠ 0) (hK : KS S1 es) (k : ∀ S' P', KS S' es → S'[P']? = some (.lst x) → P' ≠ 0 → (∀ (p : Nat) (x : List D), S1[p]? = some (.lst x) → S'[p]? = some (.lst x)) → RT b (ρ.set i (some (.ref P'))) S' N) : RT (sSeq (sSet i m) b) ρ S N :=
  RT.seq (sSet_ok h) (k S1 P hK hP hP0 fun _ _ h => h)
theorem RT.pickK {i l n : Nat} {pk : Fm} {items : M D} {ds : List D} (hp : pk = pickM) (h0 : ρ[0]? = some (some (.ref 0))) (hi : items ρ S = .ok (.ref l) S1) (hK : KS S1 es) (hT : S1[l]? = some (.lst ds)) (hl0 : l ≠ 0) (h : Dc es n) (hn : n < 2 ^ 99) (hl : 0 < ds.length) (hl2 : ds.length < 2 ^ 60) (hc : cleanAll ds = true) (hq : pureAll ds = true) (f1 : noFs kL ds = true) (f2 : noFs kX ds = true)
    (k : ∀ v ∈ ds, cleanD v = true → ∀ es' S', Dc es' (n + 1) → KS S' es' → (∀ (p : Nat) (x : List D), p ≠ 0 → S1[p]? = some (.lst x) → S'[p]? = some (.lst x)) → RT b (ρ.set i (some v)) S' N) : RT (sSeq (sSet i (mCall pk (mCons (mVar 0) (mCons items mNil)))) b) ρ S N :=
  RT.pick hp h0 hi hK.dice hT hl0 h hn hl hl2 hc hq fun v hv cv es' hd => k v hv cv es' _ hd
    ⟨by
      have h0 : 0 < S1.length := (List.getElem?_eq_some_iff.mp hK.dice).1
      rw [List.getElem?_set_ne hl0, List.getElem?_set_self h0], noS_set _ (noS_set _ hK.g1 (noC_dc hd)) f1, noS_set _ (noS_set _ hK.g2 (noC_dc hd)) f2⟩
    fun p x hp hx => by
      by_cases e : p = l
      · subst e
        rw [hT] at hx; cases hx
        rw [List.getElem?_set_self]
        rw [List.length_set]
        exact (List.getElem?_eq_some_iff.mp hT).1
      · rw [List.getElem?_set_ne (Ne.symm e), List.getElem?_set_ne (Ne.symm hp)]; exact hx
theorem RT.retK {m : M D} {n : Nat} (h : m ρ S = .ok (.bl true) S1) (h1 : KS S1 es) (h2 : Dc es n) (hn : n ≤ N) : RT (sRet m) ρ S N := RT.ret h h1.dice h2 hn
/-- a word appended to a list -/
theorem app_ok {p : Nat} {xs : List D} {y : D} (h : S[p]? = some (.lst xs)) (hl : xs.length ≤ 1000) : appendD (.ref p) [y] S = .ok .non (S.set p (.lst (xs ++ [y]))) := appendD_ok h (by omega)
theorem RT.appL {p : Nat} {o e : M D} {xs : List D} {y : D} (ho : o ρ S = .ok (.ref p) S) (he : e ρ S = .ok y S) (hP : S[p]? = some (.lst xs)) (hl : xs.length ≤ 1000) (hp : p ≠ 0) (hK : KS S es) (f1 : noFs kL (xs ++ [y]) = true) (f2 : noFs kX (xs ++ [y]) = true)
    (k : ∀ S', KS S' es → S'[p]? = some (.lst (xs ++ [y])) → (∀ (q : Nat) (x : List D), q ≠ p → S[q]? = some (.lst x) → S'[q]? = some (.lst x)) → RT b ρ S' N) : RT (sSeq (sExpr (mMth appendD o (mCons e mNil))) b) ρ S N := by
  have hlp : p < S.length := (List.getElem?_eq_some_iff.mp hP).1
  have il : isL (.ref p) S = true := by
    show (getL (.ref p) S).isSome = true
    show (match S[p]? with | some (.lst ds) => some ds | _ => none).isSome = true
    rw [hP]; rfl
  refine RT.seq (sExpr_ok (mMth_ok ho il (mCons_ok he rfl) (app_ok hP hl))) (k _ ⟨?_, noS_set _ hK.g1 f1, noS_set _ hK.g2 f2⟩ (List.getElem?_set_self hlp) fun q x hq hx => ?_)
  · rw [List.getElem?_set_ne hp]; exact hK.dice
  · rw [List.getElem?_set_ne (Ne.symm hq)]; exact hx
theorem right_ofK {m : Fm} {b : SM} {l K : Nat} (hm : m = defM l b) (h : ∀ es n, Dc es n → n < 2 ^ 90 → ∀ S, KS S es → RT b (some (.ref 0) :: List.replicate l none) S (n + K)) : RightOk m K :=
  right_of hm fun es n hd hn => h es n hd hn _ (.start hd)
end
end DM

namespace DM
open PySem PySem.Spec L2
theorem set_same {S : Store} {k : Nat} {c : C} (h : S[k]? = some c) : S.set k c = S := by
  apply List.ext_getElem?
  intro i
  by_cases e : k = i
  · subst e
    rw [List.getElem?_set_self (List.getElem?_eq_some_iff.mp h).1, h]
  · rw [List.getElem?_set_ne e]
/-- the asking of one spot: the dice at k go on, nothing else changes -/
def RestOk (rest : SM) (l : Nat) : Prop := ∀ (ρ : Env) (S : Store) (es : List D) (k : Nat), ρ.length = l + 3 → ρ[2]? = some (some (.ref k)) → S[k]? = some (.lst es) → Dc es 0 → ∃ ρ' es' n, rest ρ S = .nx ρ' (S.set k (.lst es')) ∧ Dc es' n ∧ ρ'[0]? = ρ[0]? ∧ ρ'.length = ρ.length
theorem two_rest {m : Fm} {K l : Nat} (h : RightOk m K) (hK : K ≤ 1000) : RestOk (sIf (mOrT (mNotT (mTest (mCall m (mCons (mVar 2) (mNil))))) (mNotT (mTest (mCall m (mCons (mVar 2) (mNil)))))) (sRet (mC (.bl false))) (sNil)) l := by
  intro ρ S es k hl hi hS hd
  obtain ⟨es1, e1, d1⟩ := right_call h hS hd (by omega)
  have hk : k < S.length := (List.getElem?_eq_some_iff.mp hS).1
  obtain ⟨es2, e2, d2⟩ := right_call (S := S.set k (.lst es1)) h (List.getElem?_set_self hk) d1 (by omega)
  have ev : ∀ S, mVar 2 ρ S = .ok (.ref k) S := fun S => by unfold mVar; rw [hi]
  rw [List.set_set] at e2
  exact ⟨ρ, es2, _, sIf_f (mOrT_ok2 (mNotT_ok (mTest_ok (mCall_ok (mCons_ok (ev _) rfl) e1))) (mNotT_ok (mTest_ok (mCall_ok (mCons_ok (ev _) rfl) e2)))) rfl, d2, rfl, rfl⟩
theorem turns_rest {m : Fm} {K l j t : Nat} (h : RightOk m K) (hK : K ≤ 1000) (ht : t ≤ 1000) (hj : 3 ≤ j) : RestOk (sFor (mRng (mCons (mC (.int (t : Int))) (mNil))) (tName j) (sIf (mNotT (mTest (mCall m (mCons (mVar 2) (mNil))))) (sRet (mC (.bl false))) (sNil))) l := by
  intro ρ S es k hl hi hS hd
  have er : mRng (mCons (mC (.int (t : Int))) mNil) ρ S = .ok (nxRng 0 1 t) S := mRng_ok (mCons_ok rfl rfl) (rng_one (by omega))
  obtain ⟨ρ', S', e, a, al, es', n', rfl, b2, _⟩ := sFor_ok (it := mRng (mCons (mC (.int (t : Int))) mNil)) (g := tName j) (b := sIf (mNotT (mTest (mCall m (mCons (mVar 2) (mNil))))) (sRet (mC (.bl false))) (sNil)) (n := t) (nx := nxRng 0 1 t) (ρ := ρ) (S := S) (S0 := S)
    (fun x ρ' S' => (∀ y, y ≠ j → ρ'[y]? = ρ[y]?) ∧ ρ'.length = ρ.length ∧ ∃ (es' : List D) (n' : Nat), S' = S.set k (.lst es') ∧ Dc es' n' ∧ n' ≤ x * K) er (by unfold fuel; omega)
    ⟨fun _ _ => rfl, rfl, es, 0, (set_same hS).symm, hd, by omega⟩
    (fun x ρ' S' hx ⟨a, al, es', n', b1, b2, b3⟩ => by
      subst b1
      have hb : x * K ≤ 1000 * 1000 := Nat.mul_le_mul (by omega) hK
      have hk : k < S.length := (List.getElem?_eq_some_iff.mp hS).1
      obtain ⟨es2, e2, d2⟩ := right_call (S := S.set k (.lst es')) h (List.getElem?_set_self hk) b2 (by omega)
      rw [List.set_set] at e2
      have hi' : ((ρ'.set j (some (.int (0 + (x : Int) * 1)))))[2]? = some (some (.ref k)) := by
        rw [List.getElem?_set_ne (by omega), a 2 (by omega)]; exact hi
      have ev : mVar 2 (ρ'.set j (some (.int (0 + (x : Int) * 1)))) (S.set k (.lst es')) = .ok (.ref k) (S.set k (.lst es')) := by unfold mVar; rw [hi']
      refine ⟨_, ρ'.set j (some (.int (0 + (x : Int) * 1))), S.set k (.lst es'), _, _, nxRng_lt hx, rfl, sIf_f (mNotT_ok (mTest_ok (mCall_ok (mCons_ok ev rfl) e2))) rfl, fun y hy => ?_, ?_, es2, n' + K, rfl, d2, ?_⟩
      · rw [List.getElem?_set_ne (Ne.symm hy)]; exact a y hy
      · rw [List.length_set]; exact al
      · rw [Nat.succ_mul]; omega) (fun ρ S _ => nxRng_end)
  exact ⟨ρ', es', n', e, b2, a 0 (by omega), al⟩
theorem KS.setk {S : Store} {es es' : List D} {k n : Nat} (h : KS S es) (hd : Dc es' n) (hk : k ≠ 0) : KS (S.set k (.lst es')) es :=
  ⟨by rw [List.getElem?_set_ne hk]; exact h.dice, noS_set _ h.g1 (noC_dc hd), noS_set _ h.g2 (noC_dc hd)⟩
/-- all spots -/
theorem spots_all {n l : Nat} {ns : List Int} {dice : Fm} {rest : SM} (hd : dice = diceM) (hn : 1 ≤ n) (hn2 : n ≤ 63) (hl : ns.length ≤ 63) (hr : RestOk rest l) :
    ∃ ρ' S' es m, sFor (mRng (mCons (mBlt max2D (mCons (mC (.int 1)) (mCons (mBlt min2D (mCons (mC (.int (n : Int))) (mCons (mBlt lenD (mCons (mVar 0) (mNil))) (mNil)))) (mNil)))) (mNil))) (tName 1) (sSeq (sSet 2 (mCall dice (mCons (mVar 0) (mCons (mVar 1) (mNil))))) rest) (some (.kst (ns.map .int)) :: List.replicate (l + 2) none) [] = .nx ρ' S' ∧ ρ'.length = l + 3 ∧ KS S' es ∧ Dc es m := by
  subst hd
  obtain ⟨N, h1N, hN, eN⟩ : ∃ N : Nat, 1 ≤ N ∧ N ≤ n ∧ mRng (mCons (mBlt max2D (mCons (mC (.int 1)) (mCons (mBlt min2D (mCons (mC (.int (n : Int))) (mCons (mBlt lenD (mCons (mVar 0) (mNil))) (mNil)))) (mNil)))) (mNil)) (some (.kst (ns.map .int)) :: List.replicate (l + 2) none) [] = .ok (nxRng 0 1 N) [] := by
    have el : mBlt lenD (mCons (mVar 0) mNil) (some (.kst (ns.map .int)) :: List.replicate (l + 2) none) [] = .ok (.int ((ns.map D.int).length : Nat)) [] := mBlt_ok (mCons_ok rfl rfl) rfl
    rw [List.length_map] at el
    obtain ⟨x, hx, ex⟩ : ∃ x : Nat, x ≤ n ∧ mBlt min2D (mCons (mC (.int (n : Int))) (mCons (mBlt lenD (mCons (mVar 0) (mNil))) (mNil))) (some (.kst (ns.map .int)) :: List.replicate (l + 2) none) [] = .ok (.int (x : Int)) [] := by
      have e : mBlt min2D (mCons (mC (.int (n : Int))) (mCons (mBlt lenD (mCons (mVar 0) (mNil))) (mNil))) (some (.kst (ns.map .int)) :: List.replicate (l + 2) none) [] = .ok (.int (if ((ns.length : Nat) : Int) < (n : Int) then ((ns.length : Nat) : Int) else (n : Int))) [] := mBlt_ok (mCons_ok rfl (mCons_ok el rfl)) rfl
      by_cases h : ns.length < n
      · exact ⟨ns.length, by omega, by rw [e, if_pos (by omega)]⟩
      · exact ⟨n, Nat.le_refl _, by rw [e, if_neg (by omega)]⟩
    have e2 : mBlt max2D (mCons (mC (.int 1)) (mCons (mBlt min2D (mCons (mC (.int (n : Int))) (mCons (mBlt lenD (mCons (mVar 0) (mNil))) (mNil)))) (mNil))) (some (.kst (ns.map .int)) :: List.replicate (l + 2) none) [] = .ok (.int (if (x : Int) > 1 then (x : Int) else 1)) [] := mBlt_ok (mCons_ok rfl (mCons_ok ex rfl)) rfl
    by_cases h : (x : Int) > 1
    · rw [if_pos h] at e2
      exact ⟨x, by omega, hx, mRng_ok (mCons_ok e2 rfl) (rng_one (by omega))⟩
    · rw [if_neg h] at e2
      exact ⟨1, Nat.le_refl _, hn, mRng_ok (mCons_ok e2 rfl) (rng_one (j := 1) (by omega))⟩
  obtain ⟨ρ', S', e, a1, a2, a3⟩ := sFor_ok (g := tName 1) (b := sSeq (sSet 2 (mCall diceM (mCons (mVar 0) (mCons (mVar 1) (mNil))))) rest) (n := N) (nx := nxRng 0 1 N) (S := [])
    (fun x ρ S => ρ[0]? = some (some (.kst (ns.map .int))) ∧ ρ.length = l + 3 ∧ (if x = 0 then S = [] else ∃ es m, KS S es ∧ Dc es m)) eN (by unfold fuel; omega) ⟨rfl, by simp, by rw [if_pos rfl]⟩
    (fun x ρ S hx ⟨a, b, c⟩ => by
      obtain ⟨es, e1, d1⟩ := diceC (ns := ns) (i := x) (S := S) (by omega) hl
      have ei : (0 + (x : Int) * 1) = (x : Int) := by omega
      have g0 : (ρ.set 1 (some (.int (x : Int))))[0]? = some (some (.kst (ns.map .int))) := by rw [List.getElem?_set_ne (by decide)]; exact a
      have g1 : (ρ.set 1 (some (.int (x : Int))))[1]? = some (some (.int (x : Int))) := List.getElem?_set_self (by omega)
      have s1 : sSet 2 (mCall diceM (mCons (mVar 0) (mCons (mVar 1) (mNil)))) (ρ.set 1 (some (.int (x : Int)))) S = .nx ((ρ.set 1 (some (.int (x : Int)))).set 2 (some (.ref S.length))) (S ++ [.lst es]) :=
        sSet_ok (mCall_ok (mCons_ok (x := .kst (ns.map .int)) (by unfold mVar; rw [g0]) (mCons_ok (x := .int (x : Int)) (by unfold mVar; rw [g1]) rfl)) e1)
      obtain ⟨ρ2, es2, m2, e2, d2, h0, h3⟩ := hr ((ρ.set 1 (some (.int (x : Int)))).set 2 (some (.ref S.length))) (S ++ [.lst es]) es S.length (by simpa using b) (List.getElem?_set_self (by rw [List.length_set]; omega)) List.getElem?_concat_length d1
      refine ⟨_, ρ.set 1 (some (.int (x : Int))), S, ρ2, _, nxRng_lt hx, ?_, sSeq_nx s1 e2, ?_, ?_, ?_⟩
      · rw [ei]; rfl
      · rw [h0, List.getElem?_set_ne (by decide)]; exact g0
      · rw [h3]; simpa using b
      · rw [if_neg (by omega)]
        by_cases hx0 : x = 0
        · rw [if_pos hx0] at c
          subst c
          exact ⟨es2, m2, KS.start d2, d2⟩
        · rw [if_neg hx0] at c
          obtain ⟨es0, m0, k0, d0⟩ := c
          exact ⟨es0, m0, (k0.app (noC_dc d1) (noC_dc d1)).setk d2 k0.pos, d0⟩) (fun ρ S _ => nxRng_end)
  rw [if_neg (by omega)] at a3
  obtain ⟨es, m, k, d⟩ := a3
  exact ⟨ρ', S', es, m, e, a2, k, d⟩
/-- the law -/
theorem law_of {n l : Nat} {dice m : Fm} {b rest tail : SM} (hm : m = defM (l + 2) b) (hb : b = sSeq (sFor (mRng (mCons (mBlt max2D (mCons (mC (.int 1)) (mCons (mBlt min2D (mCons (mC (.int (n : Int))) (mCons (mBlt lenD (mCons (mVar 0) (mNil))) (mNil)))) (mNil)))) (mNil))) (tName 1) (sSeq (sSet 2 (mCall dice (mCons (mVar 0) (mCons (mVar 1) (mNil))))) rest)) tail)
    (hd : dice = diceM) (hn : 1 ≤ n) (hn2 : n ≤ 63) (hr : RestOk rest l) (ht : ∀ (ρ : Env) (S : Store) (es : List D) (k : Nat), ρ.length = l + 3 → KS S es → Dc es k → RT tail ρ S k) : LawTrue m := by
  subst hm
  intro ns hl
  obtain ⟨ρ', S', es, k, e, h1, h2, h3⟩ := spots_all (n := n) (l := l) hd hn hn2 hl hr
  obtain ⟨_, S2, e2, _⟩ := ht ρ' S' es k h1 h2 h3
  refine ⟨S2, defM_rt ?_⟩
  subst hb
  exact sSeq_nx e e2
end DM

namespace DM
open PySem PySem.Spec L2
inductive NL (S : Store) : List D → List D → Prop
  | nil : NL S [] []
  | cons {p q : Nat} {l ds es : List D} (g1 : S[p]? = some (.lst l)) (g2 : S[q]? = some (.lst l)) (h : SL l) (r : NL S ds es) : NL S (.ref p :: ds) (.ref q :: es)
theorem toPy_lst {S : Store} {n p : Nat} {l : List D} (g : S[p]? = some (.lst l)) (h : SL l) : toPy (n + 2) S (.ref p) = some (.list (strPy l)) := by
  show (match S[p]? with
    | some (.lst ds) => (ds.mapM (toPy (n + 1) S)).map PyData.list
    | _ => none) = _
  rw [g]
  show (l.mapM (toPy (n + 1) S)).map PyData.list = _
  rw [toPy_strs h]; rfl
theorem NL.py {S : Store} {n : Nat} {ds es : List D} (h : NL S ds es) : ∃ ps : List PyData, ds.mapM (toPy (n + 2) S) = some ps ∧ es.mapM (toPy (n + 2) S) = some ps ∧ PyData.eqvAll ps ps = true ∧ PyData.canLayAll0 ps = true ∧ PyData.depthAll ps ≤ 1 := by
  induction h with
  | nil => exact ⟨[], rfl, rfl, rfl, rfl, Nat.zero_le _⟩
  | @cons p q l ds es g1 g2 h r ih =>
    obtain ⟨ps, k1, k2, k3, k4, k5⟩ := ih
    refine ⟨.list (strPy l) :: ps, ?_, ?_, ?_, ?_, ?_⟩
    · rw [List.mapM_cons, k1, toPy_lst g1 h]; rfl
    · rw [List.mapM_cons, k2, toPy_lst g2 h]; rfl
    · show (PyData.eqvAll (strPy l) (strPy l) && PyData.eqvAll ps ps) = true
      rw [eqv_strs h, k3]; rfl
    · show (PyData.canLayAll0 (strPy l) && PyData.canLayAll0 ps) = true
      rw [(canLay_strs h).1, k4]; rfl
    · show max (PyData.depthAll (strPy l) + 1) (PyData.depthAll ps) ≤ 1
      rw [(canLay_strs h).2]; omega
theorem eq_strss {S : Store} {a b : Nat} {ds es : List D} (h1 : S[a]? = some (.lst ds)) (h2 : S[b]? = some (.lst es)) (h : NL S ds es) : cmpD eqC (.ref a) (.ref b) S = .ok (.bl true) S := by
  obtain ⟨ps, k1, k2, k3, k4, k5⟩ := h.py (n := 17)
  have sh : SeqAt.shaped (.list ps) = true := by
    show (PyData.canLayAll0 ps && decide (PyData.depthAll ps + 1 ≤ 64)) = true
    rw [k4, decide_eq_true (by omega)]; rfl
  have e : eqC (.ref a) (.ref b) S = some true := by
    show eqG (.ref a) (.ref b) S = _
    unfold eqG
    have g1 : toPy 20 S (.ref a) = some (.list ps) := by
      show (match S[a]? with
        | some (.lst ds) => (ds.mapM (toPy 19 S)).map PyData.list
        | _ => none) = _
      rw [h1]
      show (ds.mapM (toPy 19 S)).map PyData.list = _
      rw [k1]; rfl
    have g2 : toPy 20 S (.ref b) = some (.list ps) := by
      show (match S[b]? with
        | some (.lst ds) => (ds.mapM (toPy 19 S)).map PyData.list
        | _ => none) = _
      rw [h2]
      show (es.mapM (toPy 19 S)).map PyData.list = _
      rw [k2]; rfl
    rw [g1, g2]
    show (if (SeqAt.shaped (.list ps) && SeqAt.shaped (.list ps)) = true then some (PyData.eqvAll ps ps) else none) = _
    rw [sh, k3]; rfl
  unfold cmpD
  rw [e]
theorem mAnd_t {a b : M D} {ρ : Env} {S S1 : Store} {r : R D} (h1 : a ρ S = .ok (.bl true) S1) (h2 : b ρ S1 = r) : mAnd a b ρ S = r := by
  unfold mAnd; rw [h1]; exact h2
theorem itemL_ok {S : Store} {p k : Nat} {l : List D} {x : D} (h : S[p]? = some (.lst l)) (hx : l[k]? = some x) : itemD (.ref p) (.int (k : Int)) S = .ok x S := by
  show (match getSeq (.ref p) S with
    | some ds => match atI ds (k : Int) with
      | some x => R.ok x S
      | none => .bad
    | none => .bad) = _
  have e : getSeq (.ref p) S = some l := by
    show (match S[p]? with | some (.lst ds) => some ds | _ => none) = _
    rw [h]
  rw [e]
  dsimp only
  rw [atI_get hx]
theorem sliceL_ok {a : M D} {lo hi : M (Option Int)} {ρ : Env} {S S1 : Store} {p : Nat} {l l' : List D} {lo' hi' : Option Int} (h : a ρ S = .ok (.ref p) S1) (g : S1[p]? = some (.lst l)) (hl : lo ρ S1 = .ok lo' S1) (hh : hi ρ S1 = .ok hi' S1) (e : cutL l lo' hi' = l') : mSlice a lo hi ρ S = .ok (.ref S1.length) (S1 ++ [.lst l']) := by
  unfold mSlice
  rw [h]
  show (lo ρ S1).bind _ = _
  rw [hl]
  show (hi ρ S1).bind _ = _
  rw [hh]
  show (match getL (.ref p) S1 with
    | some ds => R.ok (D.ref S1.length) (S1 ++ [C.lst (cutL ds lo' hi')])
    | none => .bad) = _
  have e2 : getL (.ref p) S1 = some l := by
    show (match S1[p]? with | some (.lst ds) => some ds | _ => none) = _
    rw [g]
  rw [e2]
  dsimp only
  rw [e]
end DM

namespace DM
open PySem PySem.Spec L2
open PyProof.Rows hiding St
section
variable {X : Cx} {B : Bv}
theorem de_never {e : Expr} : PE X e (rdE B fun _ _ => .bad) := ⟨fun pins s σ H Q I ⟨ρ, S, θ, R0, rs, f⟩ => f.elim⟩
theorem dt_never {e : Expr} : PT X e (rdT B fun _ _ => .bad) := ⟨fun pins s σ H Q I ⟨ρ, S, θ, R0, rs, f⟩ => f.elim⟩
theorem di_never {tg e : Expr} : PI X tg e (rdI B fun _ _ => .bad) := ⟨fun pins s σ H Q I ⟨ρ, S, θ, R0, rs, f⟩ => f.elim⟩
end
end DM

namespace DM
open PySem PySem.Spec L2
structure KG (S : Store) : Prop where
  g1 : noS kL S = true
  g2 : noS kX S = true
theorem KG.app {S : Store} {c : C} (h : KG S) (h1 : noC kL c = true) (h2 : noC kX c = true) : KG (S ++ [c]) :=
  ⟨by rw [noS_app, h.g1]; show (true && (noC kL c && true)) = true; rw [h1]; rfl, by rw [noS_app, h.g2]; show (true && (noC kX c && true)) = true; rw [h2]; rfl⟩
/-- a list of words is handed back -/
def RW (b : SM) (ρ : Env) (S : Store) (l : List D) : Prop := ∃ p S', b ρ S = .rt (.ref p) S' ∧ S'[p]? = some (.lst l)
section
variable {a b : SM} {ρ ρ1 : Env} {S S1 : Store} {l : List D}
theorem RW.seq (h : a ρ S = .nx ρ1 S1) (k : RW b ρ1 S1 l) : RW (sSeq a b) ρ S l := by
  obtain ⟨p, S', e, h1⟩ := k
  exact ⟨p, S', sSeq_nx h e, h1⟩
theorem RW.setL {i P : Nat} {m : M D} {x : List D} (h : m ρ S = .ok (.ref P) S1) (hP : S1[P]? = some (.lst x)) (hK : KG S1) (k : ∀ S' P', KG S' → S'[P']? = some (.lst x) → RW b (ρ.set i (some (.ref P'))) S' l) : RW (sSeq (sSet i m) b) ρ S l :=
  RW.seq (sSet_ok h) (k S1 P hK hP)
theorem RW.appL {p : Nat} {o e : M D} {xs : List D} {y : D} (ho : o ρ S = .ok (.ref p) S) (he : e ρ S = .ok y S) (hP : S[p]? = some (.lst xs)) (hl : xs.length ≤ 1000) (hK : KG S) (f1 : noFs kL (xs ++ [y]) = true) (f2 : noFs kX (xs ++ [y]) = true)
    (k : ∀ S', KG S' → S'[p]? = some (.lst (xs ++ [y])) → RW b ρ S' l) : RW (sSeq (sExpr (mMth appendD o (mCons e mNil))) b) ρ S l := by
  have hlp : p < S.length := (List.getElem?_eq_some_iff.mp hP).1
  have il : isL (.ref p) S = true := by
    show (match S[p]? with | some (.lst ds) => some ds | _ => none).isSome = true
    rw [hP]; rfl
  exact RW.seq (sExpr_ok (mMth_ok ho il (mCons_ok he rfl) (app_ok hP hl))) (k _ ⟨noS_set _ hK.g1 f1, noS_set _ hK.g2 f2⟩ (List.getElem?_set_self hlp))
theorem RW.ret {m : M D} {P : Nat} (h : m ρ S = .ok (.ref P) S1) (hP : S1[P]? = some (.lst l)) : RW (sRet m) ρ S l := ⟨P, S1, sRet_ok h, hP⟩
/-- for call in (..): told.append(..) -/
inductive LA (e : M D) (i : Nat) (ρ : Env) : List D → List D → Prop
  | nil : LA e i ρ [] []
  | cons {d y : D} {ds ys : List D} (h : ∀ S, noS kL S = true → noS kX S = true → e (ρ.set i (some d)) S = .ok y S) (h1 : noF kL y = true) (h2 : noF kX y = true) (r : LA e i ρ ds ys) : LA e i ρ (d :: ds) (y :: ys)
theorem noFs_app {k : Nat} : ∀ {a b : List D}, noFs k (a ++ b) = (noFs k a && noFs k b)
  | [], _ => rfl
  | x :: r, b => by
    show (noF k x && noFs k (r ++ b)) = ((noF k x && noFs k r) && noFs k b)
    rw [noFs_app, Bool.and_assoc]
theorem for_app {e : M D} {i t p : Nat} {ds ys : List D} (h : LA e i ρ ds ys) (ht : t ≠ i) (h0 : ρ[t]? = some (some (.ref p))) : ∀ (xs : List D) (S : Store) (c : Option D), KG S → S[p]? = some (.lst xs) → xs.length + ds.length ≤ 1000 → noFs kL xs = true → noFs kX xs = true →
    ∃ c', forL (tName i) (sExpr (mMth appendD (mVar t) (mCons e mNil))) ds (ρ.set i c) S = .nx (ρ.set i c') (S.set p (.lst (xs ++ ys))) := by
  induction h with
  | nil =>
    intro xs S c hK hP hl f1 f2
    refine ⟨c, ?_⟩
    rw [List.append_nil, set_same hP]
    rfl
  | @cons d y ds ys hd h1 h2 r ih =>
    intro xs S c hK hP hl f1 f2
    rw [List.length_cons] at hl
    have hlp : p < S.length := (List.getElem?_eq_some_iff.mp hP).1
    have il : isL (.ref p) S = true := by
      show (match S[p]? with | some (.lst ds) => some ds | _ => none).isSome = true
      rw [hP]; rfl
    have ev : mVar t (ρ.set i (some d)) S = .ok (.ref p) S := by unfold mVar; rw [List.getElem?_set_ne (Ne.symm ht), h0]
    have g1 : noFs kL (xs ++ [y]) = true := by rw [noFs_app, f1]; show (true && (noF kL y && true)) = true; rw [h1]; rfl
    have g2 : noFs kX (xs ++ [y]) = true := by rw [noFs_app, f2]; show (true && (noF kX y && true)) = true; rw [h2]; rfl
    obtain ⟨c', z⟩ := ih (xs ++ [y]) (S.set p (.lst (xs ++ [y]))) (some d) ⟨noS_set _ hK.g1 g1, noS_set _ hK.g2 g2⟩ (List.getElem?_set_self hlp) (by simp; omega) g1 g2
    refine ⟨c', forL_cons (ρ1 := ρ.set i (some d)) (S1 := S) (ρ2 := ρ.set i (some d)) (S2 := S.set p (.lst (xs ++ [y]))) ?_ (sExpr_ok (mMth_ok ev il (mCons_ok (hd S hK.g1 hK.g2) rfl) (app_ok hP (by omega)))) ?_⟩
    · show R.ok ((ρ.set i c).set i (some d)) S = _
      rw [List.set_set]
    · rw [z, List.set_set, List.append_assoc]; rfl
theorem RW.forA {it : M Nx} {e : M D} {i t p : Nat} {ds xs ys : List D} {c : Option D} (hi : it ρ S = .ok (nxTup ds) S) (hn : ds.length < 900) (h : LA e i ρ ds ys) (ht : t ≠ i) (h0 : ρ[t]? = some (some (.ref p))) (hc : ρ.set i c = ρ) (hK : KG S) (hP : S[p]? = some (.lst xs)) (hl : xs.length ≤ 100) (f1 : noFs kL (xs ++ ys) = true) (f2 : noFs kX (xs ++ ys) = true)
    (k : ∀ S' c', KG S' → S'[p]? = some (.lst (xs ++ ys)) → RW b (ρ.set i c') S' l) : RW (sSeq (sFor it (tName i) (sExpr (mMth appendD (mVar t) (mCons e mNil)))) b) ρ S l := by
  have a1 := f1
  have a2 := f2
  rw [noFs_app, Bool.and_eq_true] at a1 a2
  obtain ⟨c', z⟩ := for_app h ht h0 xs S c hK hP (by omega) a1.1 a2.1
  rw [hc] at z
  exact RW.seq (sFor_L hi (by omega) z) (k _ c' ⟨noS_set _ hK.g1 f1, noS_set _ hK.g2 f2⟩ (List.getElem?_set_self (List.getElem?_eq_some_iff.mp hP).1))
theorem words_of {m : Fm} {b : SM} {k : Nat} {ds : List D} {ws : List Str} (hm : m = defM k b) (hc : cleanAll ds = true) (h : RW b (ds.map some ++ List.replicate k none) [] (ws.map D.str)) (S : Store) : callD m ds S = .ok (.ref S.length) (S ++ [.lst (ws.map D.str)]) := by
  subst hm
  obtain ⟨p, S', e, h1⟩ := h
  exact callD_new hc (defM_rt e) h1 (pure_strs ws)
end
/-- the word of a call handed on by a def of its own -/
theorem via_of {m : Fm} {b : SM} {k : Nat} {ds : List D} {w : Str} (hm : m = defM k b) (hc : cleanAll ds = true) (h : b (ds.map some ++ List.replicate k none) [] = .rt (.str w) []) (S : Store) : callD m ds S = .ok (.str w) S := by
  subst hm
  exact callD_val hc (defM_rt h) rfl
end DM

namespace DM
open PySem PySem.Spec L2
def PL (a : M (List D)) (ρ : Env) (S : Store) (Q : List D → Store → Prop) : Prop := ∃ ds S', a ρ S = .ok ds S' ∧ Q ds S'
section
variable {ρ : Env} {S S1 : Store} {es : List D} {b : M (List D)} {Q : List D → Store → Prop} {N : Nat} {c : SM}
theorem PL.nil (h : Q [] S) : PL mNil ρ S Q := ⟨[], S, rfl, h⟩
theorem PL.val {m : M D} {d : D} (h : m ρ S = .ok d S1) (k : PL b ρ S1 fun r S2 => Q (d :: r) S2) : PL (mCons m b) ρ S Q := by
  obtain ⟨ds, S2, e, q⟩ := k
  exact ⟨d :: ds, S2, mCons_ok h e, q⟩
theorem PL.pick {l n : Nat} {pk : Fm} {items : M D} {ds : List D} (hp : pk = pickM) (h0 : ρ[0]? = some (some (.ref 0))) (hi : items ρ S = .ok (.ref l) S1) (hK : KS S1 es) (hT : S1[l]? = some (.lst ds)) (hl0 : l ≠ 0) (h : Dc es n) (hn : n < 2 ^ 99) (hl : 0 < ds.length) (hl2 : ds.length < 2 ^ 60) (hc : cleanAll ds = true) (hq : pureAll ds = true) (f1 : noFs kL ds = true) (f2 : noFs kX ds = true)
    (k : ∀ v ∈ ds, cleanD v = true → ∀ es' S', Dc es' (n + 1) → KS S' es' → (∀ (p : Nat) (x : List D), p ≠ 0 → S1[p]? = some (.lst x) → S'[p]? = some (.lst x)) → PL b ρ S' fun r S2 => Q (v :: r) S2) : PL (mCons (mCall pk (mCons (mVar 0) (mCons items mNil))) b) ρ S Q := by
  subst hp
  obtain ⟨v, es', e, hv, hd⟩ := pickD hK.dice hT hl0 h hn hl hl2 hc hq
  have ev : mVar 0 ρ S = .ok (.ref 0) S := by unfold mVar; rw [h0]
  refine PL.val (mCall_ok (mCons_ok ev (mCons_ok hi rfl)) e) (k v hv (cleanAll_mem hc v hv) es' _ hd
    ⟨by
      have h0 : 0 < S1.length := (List.getElem?_eq_some_iff.mp hK.dice).1
      rw [List.getElem?_set_ne hl0, List.getElem?_set_self h0], noS_set _ (noS_set _ hK.g1 (noC_dc hd)) f1, noS_set _ (noS_set _ hK.g2 (noC_dc hd)) f2⟩
    fun p x hp hx => by
      by_cases e : p = l
      · subst e
        rw [hT] at hx; cases hx
        rw [List.getElem?_set_self]
        rw [List.length_set]
        exact (List.getElem?_eq_some_iff.mp hT).1
      · rw [List.getElem?_set_ne (Ne.symm e), List.getElem?_set_ne (Ne.symm hp)]; exact hx)
theorem RT.par {i j : Nat} {a : M (List D)} (h : PL a ρ S fun ds S1 => ∃ d e, ds = [d, e] ∧ RT c ((ρ.set i (some d)).set j (some e)) S1 N) : RT (sSeq (sPar i j a) c) ρ S N := by
  obtain ⟨_, S1, e, d, f, rfl, r⟩ := h
  exact RT.seq (sPar_ok e) r
theorem RT.par3 {i j l : Nat} {a : M (List D)} (h : PL a ρ S fun ds S1 => ∃ d e f, ds = [d, e, f] ∧ RT c (((ρ.set i (some d)).set j (some e)).set l (some f)) S1 N) : RT (sSeq (sPar3 i j l a) c) ρ S N := by
  obtain ⟨_, S1, e, d, f, g, rfl, r⟩ := h
  exact RT.seq (ρ1 := ((ρ.set i (some d)).set j (some f)).set l (some g)) (S1 := S1) (by unfold sPar3; rw [e]; rfl) r
end
end DM
namespace DM
open PySem PySem.Spec L2
theorem alt_or {a b : Bool} {X : R D} {S : Store} {x y : Str} (h1 : a = true → X = .ok (.str x) S) (h2 : b = true → X = .ok (.str y) S) (h : (a || b) = true) : X = .ok (.str (bif a then x else y)) S := by
  cases a with
  | true => exact h1 rfl
  | false => exact h2 (by simpa using h)
end DM
namespace DM
open PySem PySem.Spec L2
theorem mCallV_ok {i j n : Nat} {tb : List (Nat × Nat × Fm)} {m : Fm} {a : M (List D)} {ρ : Env} {S S1 : Store} {ds : List D} {r : R D} (h0 : ρ[i]? = some (some (.fn j))) (hl : tb.lookup j = some (n, m)) (ha : a ρ S = .ok ds S1) (hn : ds.length = n) (h : callD m ds S1 = r) : mCallV i tb a ρ S = r := by
  unfold mCallV
  rw [h0]
  show (match tb.lookup j with
    | some p => (a ρ S).bind fun ds S1 => if ds.length = p.1 then callD p.2 ds S1 else .bad
    | none => .bad) = r
  rw [hl]
  show ((a ρ S).bind fun ds S1 => if ds.length = n then callD m ds S1 else .bad) = r
  rw [ha]
  show (if ds.length = n then callD m ds S1 else .bad) = r
  rw [if_pos hn]; exact h
theorem mLam_ok {m : Lm} {b : M D} {ρ : Env} {S : Store} {r : R D} (h : m (fun S' => b ρ S') S = r) : mLam m b ρ S = r := h
end DM
namespace DM
open PySem PySem.Spec L2
theorem mCallV_ex {i j n : Nat} {tb : List (Nat × Nat × Fm)} {m : Fm} {a : M (List D)} {ρ : Env} {S : Store} {ds : List D} (h0 : ρ[i]? = some (some (.fn j))) (hl : tb.lookup j = some (n, m)) (ha : a ρ S = .ok ds S) (hn : ds.length = n) (h : ∃ d, callD m ds S = .ok d S) : ∃ d, mCallV i tb a ρ S = .ok d S := by
  obtain ⟨d, e⟩ := h
  exact ⟨d, mCallV_ok h0 hl ha hn e⟩
end DM
namespace DM
open PySem PySem.Spec L2
theorem mCall_ex {m : Fm} {a : M (List D)} {ρ : Env} {S : Store} {ds : List D} (ha : a ρ S = .ok ds S) (h : ∃ d, callD m ds S = .ok d S) : ∃ d, mCall m a ρ S = .ok d S := by
  obtain ⟨d, e⟩ := h
  exact ⟨d, mCall_ok ha e⟩
end DM

namespace HT
open PySem PySem.Spec PyProof.Rows
section
variable {prog : Program} {w : World} {A : Around} {E : Value → Shared → Prop} {s : Shared}
theorem sliceApplied_rev {sl : Addr} {vl vu vs : Value} {n : Nat} {Q : Int × Int × Nat → Shared → Prop} (hs : s.heap.IsSliceOf sl vl vu vs) (pl : IsPart vl none) (pu : IsPart vu none) (ps : IsPart vs (some (-1)))
    (h : Q ((n : Int) - 1, -1, n) s) : wpAny (model prog w) A (Builtin.Slice.sliceApplied (.ref sl) (pure (n : Int))) Q E s := by
  obtain ⟨os, hos, hcs, hds⟩ := id hs
  unfold Builtin.Slice.sliceApplied Builtin.Slice.sliceFields
  refine wpAny_bind (wpAny_bind (wpAny_field hos hds (x := vl) rfl (wpAny_bind (wpAny_field hos hds (x := vu) rfl (wpAny_bind (wpAny_field hos hds (x := vs) rfl (wpAny_pure ?_)))))))
  refine wpAny_bind (slicePart_ ps ?_)
  show wpAny _ _ (if ((-1 : Int) == 0) = true then _ else _) _ _ s
  rw [if_neg (by decide)]
  refine wpAny_bind (slicePart_ pl (wpAny_bind (slicePart_ pu (wpAny_bind (wpAny_pure ?_)))))
  have e : Builtin.Slice.slicePlaces ((n : Int) - 1) (-1) (-1) = n := by
    unfold Builtin.Slice.slicePlaces
    have h1 : ¬ ((-1 : Int) > 0) := by omega
    simp only [h1, if_false]
    have e2 : (- -1 : Int) = 1 := by decide
    rw [e2, Int.ediv_one]
    split <;> omega
  show wpAny _ _ (pure ((n : Int) - 1, (-1 : Int), Builtin.Slice.slicePlaces ((n : Int) - 1) (-1) (-1))) _ _ s
  rw [e]
  exact wpAny_pure h
theorem fm_congr {α β : Type} {f g : α → Option β} : ∀ {l : List α}, (∀ x ∈ l, f x = g x) → l.filterMap f = l.filterMap g
  | [], _ => rfl
  | x :: l, h => by
    rw [List.filterMap_cons, List.filterMap_cons, h x List.mem_cons_self, fm_congr (l := l) fun y hy => h y (List.mem_cons_of_mem _ hy)]
theorem pick_rev (xs : Array Value) : ((List.range xs.size).filterMap fun (m : Nat) => xs[(((xs.size : Nat) : Int) - 1 + (m : Int) * (-1)).toNat]?).toArray = xs.toList.reverse.toArray := by
  have e : ((List.range xs.size).filterMap fun (m : Nat) => xs[(((xs.size : Nat) : Int) - 1 + (m : Int) * (-1)).toNat]?) = ((List.range xs.size).map fun k => xs.size - 1 - k).filterMap (xs[·]?) := by
    rw [List.filterMap_map]
    refine fm_congr ?_
    intro m hm
    have := List.mem_range.mp hm
    show _ = xs[xs.size - 1 - m]?
    congr 1
    omega
  rw [e, PySem.W.krv_range, List.filterMap_reverse, PySem.W.krv_all]
theorem getItem_tuple_rev {t sl : Addr} {items : Array Value} {vl vu vs : Value} {Q : Value → Shared → Prop} (ht : IsTup s.heap t items) (hs : s.heap.IsSliceOf sl vl vu vs) (pl : IsPart vl none) (pu : IsPart vu none) (ps : IsPart vs (some (-1)))
    (h : Q (.ref s.heap.objs.size) { s with heap := s.heap.push { cls := .type "tuple", data := .seq items.toList.reverse.toArray } })
    (hsz : items.size ≤ sizeLine) : wpAny (model prog w) A (getItem (.ref t) (.ref sl)) Q E s := by
  have htake : sizeOk (.seq items.toList.reverse.toArray) := by
    show items.toList.reverse.toArray.size ≤ sizeLine
    rw [List.size_toArray, List.length_reverse, Array.length_toList]; exact hsz
  obtain ⟨os, hos, hcs, hds⟩ := id hs
  have hTs : s.TypeIs (.ref sl) "slice" := ⟨os, hos, hcs⟩
  unfold getItem
  try with_reducible refine wpAny_holding ?_
  first | refine wpAny_bind (wpAny_pure ?_) | skip
  refine wpAny_bind (wpAny_sequenceKey ht.typeIs (by decide) ?_)
  refine wpAny_bind (wpAny_callSpecial?_slot (name := Str.ofString "__getitem__") ht.typeIs PyProof.Rows.slot_tuple_getitem
    (wpAny_call_entry PyProof.Rows.slot_tuple_getitem ht.typeIs entry_tuple_getitem ?_ (args_tuple_getitem _ _)))
  show wpAny _ _ (Builtin.Tuple.tupleItemsOf (.ref t) >>= _) _ _ s
  refine wpAny_bind (tupleItemsOf_ ht ?_)
  refine wpAny_bind (wpAny_typeOf hTs ?_)
  rw [if_pos (by decide)]
  refine wpAny_bind (sliceApplied_rev hs pl pu ps ?_)
  have hno : ¬ (((items.size : Int) - 1 == 0 && (-1 : Int) == 1 && items.size == items.size) = true) := by
    intro q
    rw [Bool.and_eq_true, Bool.and_eq_true] at q
    exact absurd q.1.2 (by decide)
  show wpAny _ _ (if ((items.size : Int) - 1 == 0 && (-1 : Int) == 1 && items.size == items.size) = true then _ else _) _ _ s
  rw [if_neg hno, pick_rev]
  first
    | exact wpAny_bind (m := Builtin.Tuple.tupleExact _) (wpAny_newObj_type (wpAny_pure ⟨_, rfl, wpAny_pure h⟩) htake)
    | exact wpAny_bind (m := Builtin.Tuple.tupleExact _) (wpAny_newObj_type (wpAny_bind (wpAny_pure (wpAny_pure ⟨_, rfl, wpAny_pure h⟩))) htake)
    | exact wpAny_bind (wpAny_bind (m := Builtin.Tuple.tupleExact _) (wpAny_newObj_type (wpAny_pure (wpAny_pure ⟨_, rfl, wpAny_pure h⟩)) htake))
    | exact wpAny_bind (wpAny_bind (m := Builtin.Tuple.tupleExact _) (wpAny_newObj_type (wpAny_pure ⟨_, rfl, wpAny_pure h⟩) htake))
end
end HT
namespace L2
open PySem PySem.Spec PyProof.Rows
/-- xs[::-1], a list or a tuple: a new one -/
def tRevLT (K : PySem.W.Frag) (te : TE) : TE := fun σ H Q => te σ H fun x H1 => ∃ a xs, x = .ref a ∧ ((SqL K H1 a xs ∧ ∀ p, H1 p = none → Q (.ref p) (upd H1 p (.lst xs.reverse))) ∨ (SqT K H1 a xs ∧ ∀ p, H1 p = none → Q (.ref p) (upd H1 p (.tup xs.reverse))))
section
variable {X : Cx}
theorem pe_revLT {e : Expr} {te : TE} {k : Nat} {p1 p2 p3 pos : Pos} (he : PE X e te) : PE X (.Subscript e (.Slice none none (some (.UnaryOp .USub (.Constant (.int 1) k p1) p2)) p3) pos) (tRevLT X.K te) := by
  refine ⟨fun pins s σ H Q I h => ?_⟩
  refine Subscript_ (thn (he.run pins s σ H _ I h) fun v s1 ⟨x, H1, I1, r1, q1⟩ => ?_)
  obtain ⟨a, xs, ex, q⟩ := q1
  subst ex
  cases r1
  have hst : PO X (some (.UnaryOp .USub (.Constant (.int 1) k p1) p2)) (tPart (tUn (rU fun i => .int (-i)) (tC (.int 1)))) := po_some (pe_un un_neg pe_int)
  refine wpAny_Slice (thn (po_none.run pins s1 σ H1 (fun o H2 => o = none ∧ H2 = H1) I1 ⟨rfl, rfl⟩) fun vl s2 ⟨l, H2, I2, pl, el, e2⟩ => ?_)
  subst el e2
  refine thn (po_none.run pins s2 σ H2 (fun o H3 => o = none ∧ H3 = H2) I2 ⟨rfl, rfl⟩) fun vu s3 ⟨u, H3, I3, pu, eu, e3⟩ => ?_
  subst eu e3
  refine thn (hst.run pins s3 σ H3 (fun o H4 => o = some (-1) ∧ H4 = H3) I3 ⟨1, rfl, -1, rfl, rfl, rfl⟩) fun vs s4 ⟨o, H4, I4, ps, eo, e4⟩ => ?_
  subst eo e4
  have I5 : Inv X pins σ H4 { s4 with heap := s4.heap.push { cls := .type "slice", data := .fields #[vl, vu, vs] } } := I4.kept (t' := s4.toks) fun b ob q => Heap.get?_push_of_some _ q
  rcases q with ⟨hx, q⟩ | ⟨hx, q⟩
  · obtain ⟨its, r, ht, hz⟩ := I5.list hx
    have hlen := r.length
    show wpAny (model X.prog X.w) X.A (subscriptTail e (.Slice none none (some (.UnaryOp .USub (.Constant (.int 1) k p1) p2)) p3) (.ref a) (.ref s4.heap.objs.size)) (EP X pins σ Q) X.xe { s4 with heap := s4.heap.push { cls := .type "slice", data := .fields #[vl, vu, vs] } }
    refine tail_any (ops := [.ref a, .ref s4.heap.objs.size]) ht.isList.typeIs (PySem.slot_list_getitem.lookup) ?_ (by with_unfolding_all rfl)
    refine wpAny_getItem_list_slice ht.isList (Heap.IsSliceOf.new _ vl vu vs) pl pu ps (by decide) ?_ (by rw [List.size_toArray]; omega)
    rw [PySem.W.krv_pick]
    refine ⟨.ref _, _, I5.laid (t' := s4.toks) (o := .lst xs.reverse) (fun b ob q => Heap.get?_push_of_some _ q) (Nat.le_refl _) ?_, rfl, q _ (I5.hok.fresh (Nat.le_refl _))⟩
    exact ⟨by rw [List.length_reverse]; exact hz, _, 0, r.reverse, Heap.get?_push_size _ rfl⟩
  · obtain ⟨its, r, ht, hz⟩ := I5.tuple hx
    have hlen := r.length
    show wpAny (model X.prog X.w) X.A (subscriptTail e (.Slice none none (some (.UnaryOp .USub (.Constant (.int 1) k p1) p2)) p3) (.ref a) (.ref s4.heap.objs.size)) (EP X pins σ Q) X.xe { s4 with heap := s4.heap.push { cls := .type "slice", data := .fields #[vl, vu, vs] } }
    refine tail_any (ops := [.ref a, .ref s4.heap.objs.size]) ht.typeIs (PyProof.Rows.slot_tuple_getitem.lookup) ?_ (by with_unfolding_all rfl)
    refine HT.getItem_tuple_rev ht (Heap.IsSliceOf.new _ vl vu vs) pl pu ps ?_ (by rw [List.size_toArray]; omega)
    refine ⟨.ref _, _, I5.laid (t' := s4.toks) (o := .tup xs.reverse) (fun b ob q => Heap.get?_push_of_some _ q) (Nat.le_refl _) ?_, rfl, q _ (I5.hok.fresh (Nat.le_refl _))⟩
    exact ⟨by rw [List.length_reverse]; exact hz, _, r.reverse, IsTup.new _ _⟩
end
end L2

namespace DM
open PySem PySem.Spec L2
open PyProof.Rows hiding St
variable {X : Cx} {B : Bv} {pos : Pos}
def revTD (d : D) (S : Store) : R D := match d with
  | .tup ds => .ok (.pr ds.reverse) S
  | .pr ds => .ok (.pr ds.reverse) S
  | d => revD d S
def mRevT (a : M D) : M D := fun ρ S => (a ρ S).bind revTD
theorem de_revT {e : Expr} {a : M D} {k : Nat} {p1 p2 p3 : Pos} (hK : B.G.K = X.K) (ha : PE X e (rdE B a)) : PE X (.Subscript e (.Slice none none (some (.UnaryOp .USub (.Constant (.int 1) k p1) p2)) p3) pos) (rdE B (mRevT a)) :=
  PE.imp (pe_revLT ha) fun σ H Q ⟨ρ, S, θ, R0, rs, f⟩ => ⟨ρ, S, θ, R0, rs, Fin.bind f fun x S1 θ1 H1 v _ e1 R1 r1 f1 => by
    have tp : ∀ (ds : List D), (∃ a xs, v = .ref a ∧ SqT B.G.K H1 a xs ∧ RDs B.G θ1 H1 ds xs) → Fin B (RD B.G) σ θ1 H1 (.ok (.pr ds.reverse) S1) Q → ∃ a xs, v = .ref a ∧ ((SqL X.K H1 a xs ∧ ∀ p, H1 p = none → Q (.ref p) (upd H1 p (.lst xs.reverse))) ∨ (SqT X.K H1 a xs ∧ ∀ p, H1 p = none → Q (.ref p) (upd H1 p (.tup xs.reverse)))) := fun ds ⟨b, xs, e, h1, h2⟩ f =>
      ⟨b, xs, e, .inr ⟨hK ▸ h1, fun p hp => f.ok (.of_keep (keep_new hp)) (R1.laid hp) (.pr (.inl (.inl upd_same)) (h2.reverse.ext (.of_keep (keep_new hp))))⟩⟩
    have lst : revTD x S1 = revD x S1 → ∃ a xs, v = .ref a ∧ ((SqL X.K H1 a xs ∧ ∀ p, H1 p = none → Q (.ref p) (upd H1 p (.lst xs.reverse))) ∨ (SqT X.K H1 a xs ∧ ∀ p, H1 p = none → Q (.ref p) (upd H1 p (.tup xs.reverse)))) := fun e => by
      rw [e] at f1
      unfold revD at f1
      cases q : getL x S1 with
      | none => rw [q] at f1; exact f1.elim
      | some ds =>
        rw [q] at f1
        obtain ⟨b, xs, rfl, k1, k2⟩ := getL_ok R1 r1 q
        exact ⟨b, xs, rfl, .inl ⟨hK ▸ k1, fun p hp => Fin.ok f1 (ext_cell hp) (R1.alloc hp k2.reverse) (RD.new R1)⟩⟩
    cases x with
    | tup ds => exact tp ds (tupOf_ok r1 (ds := ds) rfl) f1
    | pr ds => exact tp ds (tupOf_ok r1 (ds := ds) rfl) f1
    | _ => exact lst rfl⟩
/-- texts -/
def strsOf : List D → Option (List Str)
  | [] => some []
  | .str s :: r => (strsOf r).map (s :: ·)
  | _ => none
theorem strsOf_ok {G : Gv} {θ : List Addr} {H : Hp} : ∀ {ds : List D} {vs : List V} {ys : List Str}, RDs G θ H ds vs → strsOf ds = some ys → vs = ys.map V.str
  | [], _, _, r, e => by cases r; cases e; rfl
  | d :: ds, _, ys, r, e => by
    cases r with
    | cons a b =>
      cases d with
      | str s =>
        cases q : strsOf ds with
        | none =>
          have e : (strsOf ds).map (s :: ·) = some ys := e
          rw [q] at e; cases e
        | some zs =>
          have e : (strsOf ds).map (s :: ·) = some ys := e
          rw [q] at e; cases e
          have := strsOf_ok b q
          subst this
          cases a
          rfl
      | _ => cases e
def joinD : O2 := fun d e S => match d, getSeq e S with
  | .str a, some ds => match strsOf ds with
    | some ys => if (ys.map (·.length)).sum + ys.length * a.length ≤ 16777216 then .ok (.str (Str.join a ys)) S else .bad
    | none => .bad
  | _, _ => .bad
def isStr : D → Bool
  | .str _ => true
  | _ => false
def mStrM (o : O2) (a b : M D) : M D := fun ρ S => (a ρ S).bind fun x S1 => if isStr x = true then (b ρ S1).bind fun y S2 => o x y S2 else .bad
theorem isStr_ok {θ : List Addr} {H : Hp} {x : D} {v : V} (r : RD B.G θ H x v) (h : isStr x = true) : ∃ a, v = .str a := by
  cases x with
  | str s => cases r; exact ⟨_, rfl⟩
  | _ => cases h
def DenS (B : Bv) (r : V → List V → Hp → VK → Prop) (o : O2) : Prop := ∀ (σ : St) (θ : List Addr) (S : Store) (H : Hp) (d e : D) (x y : V) (Q : VK), Rel B.G B.F θ S H → RD B.G θ H d x → RD B.G θ H e y → Fin B (RD B.G) σ θ H (o d e S) Q → r x [y] H Q
theorem de_strM {o e : Expr} {id : String} {name : Str} {apos : Pos} {r : V → List V → Hp → VK → Prop} {om : O2} {a b : M D} (slot : Slot "str" name id) (ty : typeOf (.builtin id) = pure (.type "method_descriptor")) (rule : MtR X id r) (hd : DenS B r om) (ho : PE X o (rdE B a)) (he : PE X e (rdE B b))
    (hs : starEach [e] X.env = [(false, eval e X.env)] := by rfl) (hbase : attributeBase o name X.env (eval o X.env) = eval o X.env := by rfl) (hline : (apos.endLine == pos.line) = true := by rfl) : PE X (.Call (.Attribute o name apos) [e] [] pos) (rdE B (mStrM om a b)) :=
  PE.imp (pe_m1 slot ty rule ho he hs hbase hline) fun σ H Q ⟨ρ, S, θ, R0, rs, f⟩ => ⟨ρ, S, θ, R0, rs, Fin.bind f fun x S1 θ1 H1 v _ e1 R1 r1 f1 => by
    obtain ⟨hl, f2⟩ := Fin.ite (c := isStr x = true) f1
    exact ⟨isStr_ok r1 hl, ρ, S1, θ1, R1, rs.ext e1, Fin.bind f2 fun y S2 θ2 H2 u _ e2 R2 r2 f3 => hd σ θ2 S2 H2 x y v u Q R2 (r1.ext e2) r2 f3⟩⟩
theorem den_join (hK : B.G.K = X.K) : DenS B (fun x xs H Q => ∃ a p, ∃ ys : List Str, x = .str a ∧ xs = [.ref p] ∧ (SqL X.K H p (ys.map V.str) ∨ SqT X.K H p (ys.map V.str)) ∧
    (ys.map (·.length)).sum + ys.length * a.length ≤ 16777216 ∧ Q (.str (Txt.join a ys)) H) joinD := by
  intro σ θ S H d e x y Q R0 r1 r2 f
  unfold joinD at f
  split at f
  · rename_i a ds q
    cases r1
    obtain ⟨p, xs, rfl, k1, k2⟩ := getSeq_ok R0 r2 q
    split at f
    · rename_i ys q2
      obtain ⟨c, f2⟩ := Fin.ite f
      have := strsOf_ok k2 q2
      subst this
      rw [← StrLaws.glued_eq_join] at f2
      exact ⟨a, p, ys, rfl, rfl, hK ▸ k1, c, f2.ok .refl R0 (.str _)⟩
    · exact f.elim
  · exact f.elim
def endsD : O2 := fun d e S => match d, e with
  | .str a, .str b => .ok (.bl (Txt.endswith a b)) S
  | _, _ => .bad
theorem den_ends : DenS B (fun x xs H Q => ∃ a b, x = .str a ∧ xs = [.str b] ∧ Q (.bl (Txt.endswith a b)) H) endsD := by
  intro σ θ S H d e x y Q R0 r1 r2 f
  unfold endsD at f
  split at f
  · cases r1; cases r2
    exact ⟨_, _, rfl, rfl, f.ok .refl R0 (.bl _)⟩
  · exact f.elim
def insertD : Om := fun d ds S => match getM d S, ds with
  | some p, [.int i, y] => if p.2.length < 16777216 ∧ 0 ≤ i ∧ i < 2 ^ 63 then .ok .non (S.set p.1 (.lst (p.2.take i.toNat ++ [y] ++ p.2.drop i.toNat))) else .bad
  | _, _ => .bad
theorem den_insert : DenM B (fun x vs H Q => ∃ (l : Addr) (xs : List V) (i : Int) (y : V), x = .ref l ∧ vs = [.int i, y] ∧ H l = some (.lst xs) ∧ xs.length < sizeLine ∧ 0 ≤ i ∧ i < 2 ^ 63 ∧
    Q .non (upd H l (.lst (xs.take i.toNat ++ [y] ++ xs.drop i.toNat)))) insertD := by
  intro σ θ S H d x ds vs Q R0 r1 r2 f
  unfold insertD at f
  split at f
  · rename_i p i y q1
    obtain ⟨v, w, rfl, ri, ry⟩ := rds2 r2
    cases ri
    obtain ⟨a, xs, rfl, k1, k2, k3, k4⟩ := getM_ok R0 r1 q1
    obtain ⟨⟨hl, h0, h1⟩, f2⟩ := Fin.ite f
    have w2 := R0.write k1 k2 (((k4.take i.toNat).append (.cons ry .nil)).append (k4.drop i.toNat))
    exact ⟨a, xs, i, w, rfl, rfl, k3, by rw [← k4.length]; exact hl, h0, h1, f2.ok w2.1 w2.2 .non⟩
  · exact f.elim
end DM
namespace DM
open PySem PySem.Spec L2
open PyProof.Rows hiding St
variable {B : Bv}
def countSD : O2 := fun d e S => match d, e with
  | .str a, .str b => .ok (.int (Txt.count a b)) S
  | _, _ => .bad
theorem den_countS : DenS B (fun x xs H Q => ∃ a b, x = .str a ∧ xs = [.str b] ∧ Q (.int (Txt.count a b)) H) countSD := by
  intro σ θ S H d e x y Q R0 r1 r2 f
  unfold countSD at f
  split at f
  · cases r1; cases r2
    exact ⟨_, _, rfl, rfl, f.ok .refl R0 (.int _)⟩
  · exact f.elim
end DM

namespace DM
open PySem PySem.Spec L2
variable {X : Cx} {B : Bv} {pos : Pos}
def rgT (a b : Int) (S : Store) : R D := if rgOk a b then .ok (.pr (rgD a b)) S else .bad
theorem rgT_ok {σ : St} {θ : List Addr} {S : Store} {H : Hp} {a b : Int} {Q : VK} (R0 : Rel B.G B.F θ S H) (f : Fin B (RD B.G) σ θ H (rgT a b S) Q) : RgOk a b ∧ ∀ q, H q = none → Q (.ref q) (upd H q (.tup (rgV a b))) := by
  unfold rgT at f
  obtain ⟨c, f2⟩ := Fin.ite (c := rgOk a b = true) f
  exact ⟨rgOk_ok c, fun q hq => f2.ok (.of_keep (keep_new hq)) (R0.laid hq) (.pr (.inl (.inl upd_same)) rds_rg)⟩
def mTupR1 (a : M D) : M D := fun ρ S => (a ρ S).bind fun x S1 => match asI x with
  | some j => rgT 0 j S1
  | none => .bad
def mTupR2 (a b : M D) : M D := fun ρ S => (a ρ S).bind fun x S1 => (b ρ S1).bind fun y S2 => match asI x, asI y with
  | some i, some j => rgT i j S2
  | _, _ => .bad
theorem de_tupR1 {a : Expr} {ma : M D} {p p2 pos2 : Pos} (hc : X.calm = true) (hg : Gl X "tuple") (hm : X.mg "tuple" = none) (hg2 : Gl X "range") (hm2 : X.mg "range" = none) (ha : PE X a (rdE B ma)) (na : starEach [a] X.env = (false, eval a X.env) :: starEach [] X.env := by rfl)
    (nr : starEach [.Call (.Name "range" p2) [a] [] pos2] X.env = (false, eval (.Call (.Name "range" p2) [a] [] pos2) X.env) :: starEach [] X.env := by rfl) : PE X (.Call (.Name "tuple" p) [.Call (.Name "range" p2) [a] [] pos2] [] pos) (rdE B (mTupR1 ma)) :=
  PE.imp (pe_tupRg hc hg hm (prg_1 hg2 hm2 ha na) nr) fun σ H Q ⟨ρ, S, θ, R0, rs, f⟩ => ⟨ρ, S, θ, R0, rs, Fin.bind f fun x S1 θ1 H1 v _ e1 R1 r1 f1 => by
    cases q : asI x with
    | none => rw [q] at f1; exact f1.elim
    | some j =>
      rw [q] at f1
      have ex := asI_ok q
      subst ex
      cases r1
      exact ⟨j, rfl, rgT_ok R1 f1⟩⟩
theorem de_tupR2 {a b : Expr} {ma mb : M D} {p p2 pos2 : Pos} (hc : X.calm = true) (hg : Gl X "tuple") (hm : X.mg "tuple" = none) (hg2 : Gl X "range") (hm2 : X.mg "range" = none) (ha : PE X a (rdE B ma)) (hb : PE X b (rdE B mb)) (na : starEach [a, b] X.env = (false, eval a X.env) :: starEach [b] X.env := by rfl)
    (nb : starEach [b] X.env = (false, eval b X.env) :: starEach [] X.env := by rfl) (nr : starEach [.Call (.Name "range" p2) [a, b] [] pos2] X.env = (false, eval (.Call (.Name "range" p2) [a, b] [] pos2) X.env) :: starEach [] X.env := by rfl) (np : (backTo pos2 (starEach [b] X.env)).any (·.1) = false := by rfl) :
    PE X (.Call (.Name "tuple" p) [.Call (.Name "range" p2) [a, b] [] pos2] [] pos) (rdE B (mTupR2 ma mb)) :=
  PE.imp (pe_tupRg hc hg hm (prg_2 hg2 hm2 ha hb na nb np) nr) fun σ H Q ⟨ρ, S, θ, R0, rs, f⟩ => ⟨ρ, S, θ, R0, rs, Fin.bind f fun x S1 θ1 H1 v _ e1 R1 r1 f1 => ⟨ρ, S1, θ1, R1, rs.ext e1, Fin.bind f1 fun y S2 θ2 H2 w _ e2 R2 r2 f2 => by
    cases q : asI x with
    | none => rw [q] at f2; exact f2.elim
    | some i =>
      cases q2 : asI y with
      | none => rw [q, q2] at f2; exact f2.elim
      | some j =>
        rw [q, q2] at f2
        have ex := asI_ok q
        have ey := asI_ok q2
        subst ex; subst ey
        cases r1; cases r2
        exact ⟨i, j, rfl, rfl, rgT_ok R2 f2⟩⟩⟩
end DM
namespace DM
open PySem PySem.Spec L2
variable {X : Cx} {B : Bv} {pos : Pos}
/-- x += e: ints, texts, lists -/
def addX : O2 := fun d e S => match d, e with
  | .int i, .int j => .ok (.int (i + j)) S
  | .str x, .str y => if x.length + y.length ≤ sizeLine then .ok (.str (x ++ y)) S else .bad
  | d, e => match getM d S, getP e S with
    | some p, some ys => if p.2.length + ys.length ≤ sizeLine then .ok d (S.set p.1 (.lst (p.2 ++ ys))) else .bad
    | _, _ => .bad
abbrev rAddX : TIp := fun x y H Q => ipI (fun i j => i + j) x y H Q ∨ (∃ i j, x = .str i ∧ y = .str j ∧ i.length + j.length ≤ sizeLine ∧ Q (.str (i ++ j)) H) ∨ rExt2 x y H Q
theorem ip_addX : PIp X .Add rAddX := fun pins s σ H x y v u Q I r1 r2 h => by
  rcases h with h | h | h
  · exact ip_add pins s σ H x y v u Q I r1 r2 h
  · exact iop_add_str pins s σ H x y v u Q I r1 r2 h
  · exact iop_ext pins s σ H x y v u Q I r1 r2 h
theorem den_addX : DenIp B rAddX addX := by
  intro σ θ S H d e x y Q R0 r1 r2 f
  unfold addX at f
  split at f
  · cases r1; cases r2
    exact .inl ⟨_, _, rfl, rfl, f.ok .refl R0 (.int _)⟩
  · cases r1; cases r2
    obtain ⟨hz, f⟩ := Fin.ite f
    exact .inr (.inl ⟨_, _, rfl, rfl, hz, f.ok .refl R0 (.str _)⟩)
  · split at f
    · rename_i p ys q1 q2
      obtain ⟨hz, f⟩ := Fin.ite f
      obtain ⟨a, xs, rfl, k1, k2, k3, k4⟩ := getM_ok R0 r1 q1
      obtain ⟨b, zs, rfl, l2, l3⟩ := getP_ok R0 r2 q2
      have w := R0.write k1 k2 (k4.append l3)
      exact .inr (.inr ⟨a, b, xs, zs, rfl, rfl, k3, l2, by rw [← k4.length, ← l3.length]; exact hz, f.ok w.1 w.2 (r1.ext w.1)⟩)
    · exact f.elim
end DM

namespace DM
open PySem PySem.Spec L2
open PyProof.Rows hiding St
variable {X : Cx} {B : Bv} {pos : Pos}
def TyOk (X : Cx) (T : String) (H : Hp) (x : V) : Prop := ∀ (pins : List (Addr × Obj)) (s : Shared) (σ : St) (v : Value), Inv X pins σ H s → RelV x v → s.TypeIs v T ∧ ∀ a, v = .ref a → ∃ ob, s.heap.get? a = some ob ∧ ob.dict = none
def tMX (X : Cx) (name : Str) (to : TE) (t : TA) : TE := fun σ H Q => to σ H fun x H1 => ∃ (T id : String) (r : V → List V → Hp → VK → Prop), PlainAttrs T ∧ Slot T name id ∧ typeOf (.builtin id) = pure (.type "method_descriptor") ∧ MtR X id r ∧ TyOk X T H1 x ∧ t σ H1 fun vs H2 => r x vs H2 Q
theorem pe_mX {o e : Expr} {es : List Expr} {name : Str} {apos cpos : Pos} {to : TE} {t : TA} (ho : PE X o to) (ha : PA X (e :: es) t)
    (h1 : attributeBase o name X.env (eval o X.env) = eval o X.env := by rfl)
    (h2 : ((backTo cpos (starEach (e :: es) X.env)).all (fun x => !x.1) && (backToKw cpos (keywordEach [] X.env)).all (fun x => x.1.isSome) && decide ((e :: es).length + ([] : List Keyword).length + (if ([] : List Keyword).isEmpty then 0 else 1) < 30)) = true := by rfl)
    (h3 : (apos.endLine == cpos.line) = true := by rfl) (h4 : starEach (e :: es) X.env = (false, eval e X.env) :: starEach es X.env := by rfl) (h5 : (backTo cpos (starEach es X.env)).any (·.1) = false := by rfl) :
    PE X (.Call (.Attribute o name apos) (e :: es) [] cpos) (tMX X name to t) := by
  refine ⟨fun pins s σ H Q I h => ?_⟩
  refine wpAny_Call_method_late h1 h2 h3 rfl (thn (ho.run pins s σ H _ I h) fun v s1 ⟨x, H1, I1, r1, T, id, r, pa, slot, hty, hm, ty, q1⟩ => ?_)
  obtain ⟨a1, a2⟩ := ty pins s1 σ v I1 r1
  refine ⟨T, id, pa, slot, hty, a1, a2, ?_⟩
  have hA := ha.run cpos pins s1 σ H1 _ I1 q1
  rw [h4] at hA ⊢
  exact Calls.callWith_builtin (by show (false || (backTo cpos (starEach es X.env)).any (·.1)) = false; rw [h5] <;> rfl) (Calls.evalArgs_plain (thn hA fun us s2 ⟨vs, H2, I2, r2, q2⟩ => hm pins s2 σ H2 x vs v us Q I2 r1 r2 q2))
/-- what a method does, by what it is called of -/
def MthOk (X : Cx) (B : Bv) (name : Str) (pre : D → Store → Bool) (om : Om) : Prop := ∀ (θ : List Addr) (S : Store) (H : Hp) (d : D) (x : V), Rel B.G B.F θ S H → RD B.G θ H d x → pre d S = true →
  ∃ (T id : String) (r : V → List V → Hp → VK → Prop), PlainAttrs T ∧ Slot T name id ∧ typeOf (.builtin id) = pure (.type "method_descriptor") ∧ MtR X id r ∧ TyOk X T H x ∧
    ∀ (σ : St) (θ2 : List Addr) (S2 : Store) (H2 : Hp) (ds : List D) (vs : List V) (Q : VK), Rel B.G B.F θ2 S2 H2 → RD B.G θ2 H2 d x → RDs B.G θ2 H2 ds vs → Fin B (RD B.G) σ θ2 H2 (om d ds S2) Q → r x vs H2 Q
def mMthX (pre : D → Store → Bool) (o : Om) (a : M D) (b : M (List D)) : M D := fun ρ S => (a ρ S).bind fun x S1 => if pre x S1 = true then (b ρ S1).bind fun ys S2 => o x ys S2 else .bad
theorem de_mX {o e : Expr} {es : List Expr} {name : Str} {apos cpos : Pos} {pre : D → Store → Bool} {om : Om} {a : M D} {b : M (List D)} (hd : MthOk X B name pre om) (ho : PE X o (rdE B a)) (ha : PA X (e :: es) (rdA B b))
    (h1 : attributeBase o name X.env (eval o X.env) = eval o X.env := by rfl)
    (h2 : ((backTo cpos (starEach (e :: es) X.env)).all (fun x => !x.1) && (backToKw cpos (keywordEach [] X.env)).all (fun x => x.1.isSome) && decide ((e :: es).length + ([] : List Keyword).length + (if ([] : List Keyword).isEmpty then 0 else 1) < 30)) = true := by rfl)
    (h3 : (apos.endLine == cpos.line) = true := by rfl) (h4 : starEach (e :: es) X.env = (false, eval e X.env) :: starEach es X.env := by rfl) (h5 : (backTo cpos (starEach es X.env)).any (·.1) = false := by rfl) :
    PE X (.Call (.Attribute o name apos) (e :: es) [] cpos) (rdE B (mMthX pre om a b)) :=
  PE.imp (pe_mX ho ha h1 h2 h3 h4 h5) fun σ H Q ⟨ρ, S, θ, R0, rs, f⟩ => ⟨ρ, S, θ, R0, rs, Fin.bind f fun x S1 θ1 H1 v _ e1 R1 r1 f1 => by
    obtain ⟨hp, f2⟩ := Fin.ite (c := pre x S1 = true) f1
    obtain ⟨T, id, r, a1, a2, a3, a4, a5, a6⟩ := hd θ1 S1 H1 x v R1 r1 hp
    exact ⟨T, id, r, a1, a2, a3, a4, a5, ρ, S1, θ1, R1, rs.ext e1, Fin.bind f2 fun ys S2 θ2 H2 vs _ e2 R2 r2 f3 => a6 σ θ2 S2 H2 ys vs Q R2 (r1.ext e2) r2 f3⟩⟩
theorem tyOk_str {T : String} {H : Hp} {x : V} (h : tyV X.K T x H) : TyOk X T H x := fun pins s σ v I r => tyV_is I r h
theorem tyOk_tup {H : Hp} {a : Addr} {xs : List V} (tf : TupF X.K H a xs) : TyOk X "tuple" H (.ref a) := fun pins s σ v I r => by
  cases r
  obtain ⟨ob, k1, k2, k3⟩ := tupF_obj I tf
  exact ⟨⟨ob, k1, k2⟩, fun b e => ⟨ob, by cases e; exact k1, k3⟩⟩
def preLT (d : D) (S : Store) : Bool := isT d || isL d S
def ixX : Om := fun d ds S => if isT d = true then tixD d ds S else indexD d ds S
theorem isT_ok {θ : List Addr} {H : Hp} {d : D} {x : V} (r : RD B.G θ H d x) (h : isT d = true) : ∃ a xs, x = .ref a ∧ TupF B.G.K H a xs := by
  cases d with
  | tup ds =>
    cases r with
    | @tup a xs _ k1 k2 => exact ⟨a, xs, rfl, k1⟩
  | _ => cases h
theorem mth_index (hK : B.G.K = X.K) (hu : X.A.units + 65 < cLine) : MthOk X B "index" preLT ixX := by
  intro θ S H d x R0 r hp
  cases q : isT d with
  | true =>
    obtain ⟨a, xs, rfl, tf⟩ := isT_ok r q
    refine ⟨"tuple", _, _, PySem.F.plainAttrs_tuple, PySem.F.slot_tuple_index, PySem.F.type_tuple_index, mt_tix, tyOk_tup (hK ▸ tf), fun σ θ2 S2 H2 ds vs Q R2 r2 r3 f => ?_⟩
    have f : Fin B (RD B.G) σ θ2 H2 (if isT d = true then tixD d ds S2 else indexD d ds S2) Q := f
    rw [if_pos q] at f
    exact den_tix hK σ θ2 S2 H2 d _ ds vs Q R2 r2 r3 f
  | false =>
    have hl : isL d S = true := by
      unfold preLT at hp; rw [q, Bool.false_or] at hp; exact hp
    refine ⟨"list", _, _, PySem.F.plainAttrs_list, PySem.F.slot_list_index, PySem.F.type_list_index, mt_indexD hu, tyOk_str (tyV_list hK R0 r hl), fun σ θ2 S2 H2 ds vs Q R2 r2 r3 f => ?_⟩
    have f : Fin B (RD B.G) σ θ2 H2 (if isT d = true then tixD d ds S2 else indexD d ds S2) Q := f
    rw [q, if_neg Bool.false_ne_true] at f
    exact den_index hK σ θ2 S2 H2 d x ds vs Q R2 r2 r3 f
def preST (d : D) (S : Store) : Bool := isT d || isStr d
def cntX : Om := fun d ds S => if isT d = true then countD d ds S else match ds with
  | [e] => countSD d e S
  | _ => .bad
theorem mth_count (hK : B.G.K = X.K) (hu : X.A.units + 65 < cLine) : MthOk X B "count" preST cntX := by
  intro θ S H d x R0 r hp
  cases q : isT d with
  | true =>
    obtain ⟨a, xs, rfl, tf⟩ := isT_ok r q
    refine ⟨"tuple", _, _, PySem.F.plainAttrs_tuple, PySem.F.slot_tuple_count, PySem.F.type_tuple_count, mt_count hu, tyOk_tup (hK ▸ tf), fun σ θ2 S2 H2 ds vs Q R2 r2 r3 f => ?_⟩
    have f : Fin B (RD B.G) σ θ2 H2 (if isT d = true then countD d ds S2 else _) Q := f
    rw [if_pos q] at f
    exact den_count hK σ θ2 S2 H2 d _ ds vs Q R2 r2 r3 f
  | false =>
    have hl : isStr d = true := by
      unfold preST at hp; rw [q, Bool.false_or] at hp; exact hp
    obtain ⟨a, rfl⟩ := isStr_ok r hl
    refine ⟨"str", _, _, PySem.F.plainAttrs_str, PySem.F.slot_str_count, PySem.F.type_str_count, L2.mt_count, tyOk_str (T := "str") rfl, fun σ θ2 S2 H2 ds vs Q R2 r2 r3 f => ?_⟩
    unfold cntX at f
    rw [q, if_neg Bool.false_ne_true] at f
    split at f
    · rename_i e
      obtain ⟨w, rfl, r4⟩ := rds1 r3
      exact den_countS σ θ2 S2 H2 d e _ w Q R2 r2 r4 f
    · exact f.elim
end DM

namespace DM
open PySem PySem.Spec L2
variable {ρ : Env} {S S0 : Store}
/-- [x for x in xs if t(x)], xs a list in the store, the test leaves the store alone -/
theorem filter_ok {a : M D} {i p : Nat} {t : M Bool} {vs : List Nat} {F : List D} (g : D → Bool) (ha : a ρ S0 = .ok (.ref p) S) (hp : S[p]? = some (.lst F)) (hF : F.length < 16777216) (hi : i < (wipeE ρ vs).length)
    (ht : ∀ d ∈ F, ∀ S', t ((wipeE ρ vs).set i (some d)) S' = .ok (g d) S') : mLc (mIter a) (tName i) t (mVar i) vs ρ S0 = .ok (.ref S.length) (S ++ [.lst (F.filter g)]) := by
  have hpl : p < S.length := (List.getElem?_eq_some_iff.mp hp).1
  have hget : ∀ z : C, (S ++ [z])[p]? = some (.lst F) := fun z => by rw [List.getElem?_append_left hpl]; exact hp
  have hit : mIter a ρ S0 = .ok (nxList (.ref p)) S := by
    unfold mIter
    rw [ha]
    show iterD (.ref p) S = _
    show (match getL (.ref p) S with | some _ => R.ok (nxList (.ref p)) S | none => .bad) = _
    have : getL (.ref p) S = some F := by
      show (match S[p]? with | some (.lst ds) => some ds | _ => none) = _
      rw [hp]
    rw [this]
  have hnx : ∀ (j : Nat) (z : C), nxList (.ref p) j (S ++ [z]) = some F[j]? := fun j z => by
    show (getL (.ref p) (S ++ [z])).map (fun ds => ds[j]?) = _
    have : getL (.ref p) (S ++ [z]) = some F := by
      show (match (S ++ [z])[p]? with | some (.lst ds) => some ds | _ => none) = _
      rw [hget]
    rw [this]; rfl
  have h := mLc_pure (it := mIter a) (nx := nxList (.ref p)) (g := tName i) (t := t) (e := mVar i) (vs := vs) (ρ := ρ) (n := F.length) (S := S) (S0 := S0) (fun j => F.getD j .non) (fun j => F.getD j .non) (fun j => g (F.getD j .non)) (fun j => (wipeE ρ vs).set i (some (F.getD j .non))) hF hit
    (fun j z hj => by
      have e : F[j]? = some (F.getD j .non) := by rw [List.getD_eq_getElem?_getD, List.getElem?_eq_getElem hj]; rfl
      have hm : F.getD j .non ∈ F := List.mem_of_getElem? e
      refine ⟨by rw [hnx, e], rfl, ht _ hm _, fun _ => ?_⟩
      show mVar i _ _ = _
      unfold mVar
      rw [List.getElem?_set_self hi])
    (fun z => by rw [hnx, List.getElem?_eq_none (Nat.le_refl _)])
  rw [h]
  have e : ((List.range F.length).filter fun j => g (F.getD j .non)).map (fun j => F.getD j .non) = F.filter g := by
    have : F = (List.range F.length).map fun j => F.getD j .non := by
      apply List.ext_getElem (by simp)
      intro j h1 h2
      simp [List.getD_eq_getElem?_getD, List.getElem?_eq_getElem h1]
    conv => rhs; rw [this]
    rw [List.filter_map]; rfl
  rw [e]
/-- tuples of ints, not empty -/
theorem tupsI_some : ∀ {l : List D}, (∀ d ∈ l, (tupI d).isSome = true) → ∃ ls, tupsI l = some ls
  | [], _ => ⟨[], rfl⟩
  | d :: r, h => by
    obtain ⟨a, ea⟩ := Option.isSome_iff_exists.mp (h d List.mem_cons_self)
    obtain ⟨b, eb⟩ := tupsI_some fun x hx => h x (List.mem_cons_of_mem _ hx)
    exact ⟨a :: b, by show (match tupI d, tupsI r with | some l, some r => some (l :: r) | _, _ => none) = _; rw [ea, eb]⟩
theorem sortX_ok {p : Nat} {l : List D} (hp : S[p]? = some (.lst l)) (hne : l ≠ []) (h : ∀ d ∈ l, (tupI d).isSome = true) : ∃ ls : List (List Int), sortXD [.ref p] S = .ok (.ref S.length) (S ++ [.lst (ls.map tIn)]) := by
  obtain ⟨ls, e⟩ := tupsI_some h
  refine ⟨srtL ls, ?_⟩
  show sortTD [.ref p] S = _
  have g : getL (.ref p) S = some l := by
    show (match S[p]? with | some (.lst ds) => some ds | _ => none) = _
    rw [hp]
  unfold sortTD
  show (match getL (.ref p) S with
    | some (x :: xs) => match tupsI (x :: xs) with
      | some ls => R.ok (D.ref S.length) (S ++ [C.lst ((srtL ls).map tIn)])
      | none => sortAllD [.ref p] S
    | _ => sortAllD [.ref p] S) = _
  rw [g]
  cases l with
  | nil => exact absurd rfl hne
  | cons x r =>
    show (match tupsI (x :: r) with
      | some ls => R.ok (D.ref S.length) (S ++ [C.lst ((srtL ls).map tIn)])
      | none => sortAllD [.ref p] S) = _
    rw [e]
end DM
namespace DM
open PySem PySem.Spec L2
def isB : R D → Bool
  | .ok (.bl _) _ => true
  | _ => false
def gB : R D → Bool
  | .ok (.bl b) _ => b
  | _ => false
theorem isB_call {m : Fm} {d : D} (hc : cleanD d = true) (h : isB (m [d] []) = true) (S : Store) : callD m [d] S = .ok (.bl (gB (m [d] []))) S := by
  have hc' : cleanAll [d] = true := cleanAll_cons hc rfl
  cases q : m [d] [] with
  | ok e S1 =>
    rw [q] at h
    cases e with
    | bl b => exact callD_val hc' q rfl
    | _ => cases h
  | exc _ _ => rw [q] at h; cases h
  | bad => rw [q] at h; cases h
/-- behind some statements a name holds a list -/
def listAt (i n : Nat) (l : List D) : SR → Bool
  | .nx ρ S => match ρ[i]? with
    | some (some (.ref p)) => match S[p]? with
      | some (.lst ds) => eqDs ds l && decide (ρ.length = n)
      | _ => false
    | _ => false
  | _ => false
theorem listAt_ok {i n : Nat} {l : List D} {r : SR} (h : listAt i n l r = true) : ∃ ρ S p, r = .nx ρ S ∧ ρ[i]? = some (some (.ref p)) ∧ S[p]? = some (.lst l) ∧ ρ.length = n := by
  unfold listAt at h
  split at h
  · rename_i ρ S
    split at h
    · rename_i p q1
      split at h
      · rename_i ds q2
        rw [Bool.and_eq_true, decide_eq_true_eq] at h
        have := eqDs_ok h.1
        subst this
        exact ⟨ρ, S, p, rfl, q1, q2, h.2⟩
      · cases h
    · cases h
  · cases h
theorem all_parts {A : List D} {p : D → Bool} (k : Nat) (h1 : (A.take k).all p = true) (h2 : (A.drop k).all p = true) : A.all p = true := by
  rw [← List.take_append_drop k A, List.all_append, h1, h2]; rfl
end DM
namespace DM
theorem wipeE_length : ∀ (vs : List Nat) (ρ : Env), (wipeE ρ vs).length = ρ.length
  | [], _ => rfl
  | v :: vs, ρ => by
    show ((wipeE ρ vs).set v none).length = _
    rw [List.length_set, wipeE_length vs]
end DM

set_option maxHeartbeats 1000000
namespace DM
open PySem PySem.Spec L2 LamX
open PyProof.Rows hiding St

section
variable {X : Cx} {pins : List (Addr × Obj)} {σ : L2.St} {H : Hp} {s : Shared}
theorem sortK_runC {l fa : Addr} {xs : List V} {Q : VK} (I : Inv X pins σ H s)
    (col : ∀ (A : Around) (E : Value → Shared → Prop) (Q' : List Value → Shared → Prop), A.handled = X.A.handled → (∀ (hp : Heap) (tk : Nat) (its : List Value), (∀ b o, s.heap.get? b = some o → hp.get? b = some o) → Vals xs its → xs.length ≤ sizeLine → Q' its { s with heap := hp, toks := tk }) → wpAny (model X.prog X.w) A (collect (.ref l)) Q' E s) (J : Nat → List V → Hp → Prop) (h0 : J 0 [] H)
    (turn : ∀ (i : Nat) (x : V) (ks : List V) (H1 : Hp) (ps : List (Addr × Obj)) (s1 : Shared) (u : Value), (∀ q ∈ pins, q ∈ ps) → xs[i]? = some x → J i ks H1 → Inv X ps σ H1 s1 → RelV x u →
      wpAny (model X.prog X.w) X.A.in1.in1 (call (.ref fa) [u]) (fun r s2 => ∃ k H2, Inv X ps σ H2 s2 ∧ RelV k r ∧ J (i + 1) (ks ++ [k]) H2) (fun _ _ => False) s1)
    (done : ∀ (ks : List V) (H1 : Hp), J xs.length ks H1 → ∃ kz, DpAll X.K H1 ks kz ∧ kz.length = xs.length ∧ PySem.W.AllAlike kz ∧ PySem.W.Sortable kz ∧ (∀ d ∈ kz, X.A.in1.in1.units + d.depth < cLine) ∧ ∀ p, H1 p = none → Q (.ref p) (upd H1 p (.lst (srtK xs kz)))) :
    wpAny (model X.prog X.w) X.A (call (.builtin "sorted") [.ref l] [(Str.ofString "key", .ref fa)]) (EP X pins σ Q) X.xe s := by
  refine PyProof.Rows.call_function_entry_kw kind_sorted plain_sorted entry_sorted (PyProof.Rows.ksk_s1 _ _) ?_
  unfold Builtin.«sorted»
  refine wpAny_bind (m := checkCount "sorted" 1 1 _) (wpAny_pure ?_)
  refine wpAny_bind (col X.A.in1 _ _ rfl fun hp tk its kp0 rv hz => ?_)
  have hzl : its.length ≤ sizeLine := by rw [← rv.length]; exact hz
  have Ip : Inv X pins σ H { s with heap := hp, toks := tk } := I.kept (t' := tk) kp0
  refine wpAny_bind (wpAny_newList ?_ hzl)
  show wpAny _ _ _ _ _ { s with heap := hp.push (seqObj "list" its.toArray 0), toks := tk }
  obtain ⟨a, ea⟩ : ∃ a, a = hp.objs.size := ⟨_, rfl⟩
  rw [← ea]
  have hoL : (hp.push (seqObj "list" its.toArray 0)).get? a = some (seqObj "list" its.toArray 0) := by rw [ea]; exact Heap.get?_push_size _ rfl
  have hah : a < (hp.push (seqObj "list" its.toArray 0)).objs.size := Heap.lt_size hoL
  refine wpAny_bind (wpAny_holding (PyProof.Rows.wpAny_call_entry_kw slot_list_sort ⟨_, hoL, rfl⟩ entry_list_sort ?_ (PyProof.Rows.ksk_l1 _ _)))
  show wpAny _ X.A.in1.in1 _ _ _ _
  rw [ksk_t1]
  suffices main : wpAny (model X.prog X.w) X.A.in1.in1 (ksk_tree a (.ref fa) false) (fun f s' => f = .done (.ret .none) ∧ EP X pins σ Q (.ref a) s') X.xe { s with heap := hp.push (seqObj "list" its.toArray 0), toks := tk } by
    refine wpAny_mono main (fun f s' hf => ?_) fun _ _ e => e
    obtain ⟨rfl, hq⟩ := hf
    exact ⟨_, rfl, wpAny_pure ⟨_, rfl, hq⟩⟩
  obtain ⟨e1, ho1⟩ : ∃ e1, ((hp.push (seqObj "list" its.toArray 0)).update a (Obj.mapSeq fun _ => (#[] : Array Value))).get? a = some (seqObj "list" #[] e1) := ⟨_, get?_update_seq hoL fun _ => #[]⟩
  obtain ⟨kS, ek⟩ : ∃ kS, kS = (((hp.push (seqObj "list" its.toArray 0)).update a (Obj.mapSeq fun _ => (#[] : Array Value))).push (seqObj "tuple" its.toArray 0)).objs.size := ⟨_, rfl⟩
  have hkS : a < kS := by rw [ek, size_push', Heap.size_update]; omega
  unfold ksk_tree
  refine wpAny_bind (listItems_at hoL rfl ?_)
  refine wpAny_bind (listUpdate_at hoL rfl ?_ (by rw [List.size_toArray]; exact hzl) (Nat.zero_le _))
  refine wpAny_bind (seqEpoch_at ho1 rfl ?_)
  refine wpAny_bind (wpAny_newTuple ?_ (by show its.length ≤ _; exact hzl))
  refine wpAny_bind (wpAny_newList ?_ (Nat.zero_le _))
  refine wpAny_holding ?_
  have na : hp.objs.size ≤ a := Nat.le_of_eq ea.symm
  have nk : hp.objs.size ≤ kS := Nat.le_trans na (Nat.le_of_lt hkS)
  have hka : kS ≠ a := by omega
  obtain ⟨a1, a2, a3, a4, a5, a6⟩ := off_new Ip na
  obtain ⟨k1, k2, k3, k4, k5, k6⟩ := off_new Ip nk
  have I0 : Inv X pins σ H { s with heap := PySem.W.sortingHeap (hp.push (seqObj "list" its.toArray 0)) a its, toks := tk } := I.kept (t' := tk) fun b o e => PySem.W.sortingHeap_old (Nat.ne_of_lt (ea ▸ Heap.lt_size (kp0 b o e))) (Heap.get?_push_of_some _ (kp0 b o e))
  have at_a : (PySem.W.sortingHeap (hp.push (seqObj "list" its.toArray 0)) a its).get? a = some (seqObj "list" #[] e1) := Heap.get?_push_of_some _ (Heap.get?_push_of_some _ ho1)
  have at_k : (PySem.W.sortingHeap (hp.push (seqObj "list" its.toArray 0)) a its).get? kS = some (seqObj "list" #[] 0) := by rw [ek]; exact Heap.get?_push_size _ rfl
  show wpAny _ _ (ksk_rest a (.ref fa) false its.toArray e1 (.ref (((hp.push (seqObj "list" its.toArray 0)).update a (Obj.mapSeq fun _ => (#[] : Array Value))).push (seqObj "tuple" its.toArray 0)).objs.size)) _ _ { s with heap := PySem.W.sortingHeap (hp.push (seqObj "list" its.toArray 0)) a its, toks := tk }
  rw [← ek]
  -- the pins
  have pinA : ∀ {H1 : Hp} {s1 : Shared} {kA : Array Value} {e : Nat}, Inv X pins σ H1 s1 → s1.heap.get? a = some (seqObj "list" #[] e1) → s1.heap.get? kS = some (seqObj "list" kA e) → H1 a = none → H1 kS = none → Inv X (pins ++ [(a, seqObj "list" #[] e1), (kS, seqObj "list" kA e)]) σ H1 s1 :=
    fun {H1 s1 kA e} I1 g1 g2 n1 n2 => I1.pins_of fun p hp => by
      rcases List.mem_append.mp hp with hp | hp
      · exact I1.pin p (List.mem_append_right _ hp)
      · rcases List.mem_cons.mp hp with rfl | hp
        · exact ⟨g1, n1, a2, a3, fun v z => by cases z⟩
        · rw [List.mem_singleton.mp hp]
          exact ⟨g2, n2, k2, k3, fun v z => by cases z⟩
  have unpin : ∀ {H1 : Hp} {s1 : Shared} {kA : Array Value} {e : Nat}, Inv X (pins ++ [(a, seqObj "list" #[] e1), (kS, seqObj "list" kA e)]) σ H1 s1 → Inv X pins σ H1 s1 ∧ s1.heap.get? a = some (seqObj "list" #[] e1) ∧ s1.heap.get? kS = some (seqObj "list" kA e) ∧ H1 a = none ∧ H1 kS = none :=
    fun {H1 s1 kA e} I1 => by
      have p1 := I1.pin (a, seqObj "list" #[] e1) (List.mem_append_right _ (List.mem_append_right _ (List.mem_cons_self)))
      have p2 := I1.pin (kS, seqObj "list" kA e) (List.mem_append_right _ (List.mem_append_right _ (List.mem_cons_of_mem _ List.mem_cons_self)))
      exact ⟨I1.unpinned, p1.1, p2.1, p1.2.1, p2.2.1⟩
  unfold ksk_rest
  refine wpAny_bind (wpAny_rule ?_)
  first
    | rw [List.forIn_toArray]
    | (rw [← Array.forIn_toList]; simp only [List.toList_toArray])
    | rw [← Array.forIn_toList]
  refine wpAny_bind (ksk_fold (fun i s1 => ∃ (H1 : Hp) (ks : List V) (kA : Array Value) (e : Nat), Inv X (pins ++ [(a, seqObj "list" #[] e1), (kS, seqObj "list" kA e)]) σ H1 s1 ∧ Vals ks kA.toList ∧ J i ks H1 ∧ ks.length = i) its 0 _
    ⟨H, [], #[], 0, pinA I0 at_a at_k a1 k1, .nil, h0, rfl⟩ ?step ?done)
  case step =>
    rintro j u s1 hu ⟨H1, ks, kA, e, I1, rk, hJ, hkl⟩
    simp only [Nat.zero_add] at hJ hkl ⊢
    obtain ⟨x, hx, rx⟩ : ∃ x, xs[j]? = some x ∧ RelV x u := by
      have hj : j < its.length := (List.getElem?_eq_some_iff.mp hu).1
      exact valsAt rv hu
    have hz2 : kA.size ≤ its.length := by
      have h1 : ks.length = kA.size := rk.length.trans Array.length_toList
      have h2 : j < its.length := (List.getElem?_eq_some_iff.mp hu).1
      rw [← h1, hkl]
      exact Nat.le_of_lt h2
    refine wpAny_bind (wpAny_attempt (wpAny_mono (turn j x ks H1 _ s1 u (fun q hq => List.mem_append_left _ hq) hx hJ I1 rx) (fun r s2 he => ?_) fun _ _ hF => hF.elim))
    obtain ⟨k, H2, I2, rk2, hJ2⟩ := he
    obtain ⟨I3, g1, g2, n1, n2⟩ := unpin I2
    have sb := Heap.SameBut.update s2.heap kS (Obj.mapSeq (·.push r))
    obtain ⟨c2, hc2⟩ : ∃ c2, (s2.heap.update kS (Obj.mapSeq (·.push r))).get? kS = some (seqObj "list" (kA.push r) c2) := ⟨_, get?_update_seq g2 (·.push r)⟩
    try dsimp only
    refine wpAny_bind (listUpdate_at g2 rfl ?_ (Nat.le_trans hz2 hzl) (Nat.le_trans (Nat.le_of_eq (Array.size_push ..)) (Nat.succ_le_succ (Nat.le_trans hz2 hzl))))
    have I4 : Inv X pins σ H2 { s2 with heap := s2.heap.update kS (Obj.mapSeq (·.push r)) } := I3.turned (t' := s2.toks) (it := kS) (fun b o hb q => (sb.2 b hb).trans q) n2 k2 (.inr k4) k5 k6
    refine wpAny_pure ⟨rfl, H2, ks ++ [k], kA.push r, c2, pinA I4 ((sb.2 a hka.symm).trans g1) hc2 n1 n2, ?_, hJ2, by simp [hkl]⟩
    rw [Array.toList_push]
    exact valsSnoc rk2 rk
  case done =>
    rintro s1 ⟨H1, ks, kA, e, I1, rk, hJ, hkl⟩
    rw [Nat.zero_add, ← rv.length] at hJ hkl
    obtain ⟨kz, hD, hkz, hal, hsk, hu, q⟩ := done ks H1 hJ
    obtain ⟨I3, g1, g2, n1, n2⟩ := unpin I1
    have hsz : kA.size = its.length := by
      have h1 : ks.length = kA.size := rk.length.trans Array.length_toList
      rw [← h1, hkl]
      exact rv.length
    try dsimp only
    refine wpAny_bind (listItems_at g2 rfl ?_)
    obtain ⟨G, r1, r2⟩ := restrict s1.heap fun b => !decide (b = kS)
    have r1' : ∀ b, b ≠ kS → G.get? b = s1.heap.get? b := fun b hb => r1 b (by simp [hb])
    have r2' : G.get? kS = none := r2 kS (by simp)
    have hrd : PySem.W.EachIs (fun v k => ∃ as, Reads s1.heap v k as) kA.toList kz := dps_reads I3 rk hD
    refine PySem.W.keyH_end (κ := PySem.W.dataKind s1.heap kz) (h₁ := G) (fun b o _ q => ?_) r2' g2 g1 hka (PySem.W.SortsAt.data hrd hal hsk hu) hsz hzl fun h3 tk3 c kp n3 => ?_
    · by_cases hb : b = kS
      · subst hb; rw [r2'] at q; cases q
      · rw [← r1' b hb]; exact q
    refine ⟨rfl, ?_⟩
    have hlen : kA.toList.length = its.length := by rw [Array.length_toList]; exact hsz
    have hout : Vals (srtK xs kz) (PySem.W.sortVals (PySem.W.dataKind s1.heap kz) false kA.toList its) := by
      have ko : PySem.W.KeyedOut false ((xs.zip kz).map (·.2)) its (PySem.W.sortVals (PySem.W.dataKind s1.heap kz) false kA.toList its) := by
        rw [map_zip_snd hkz]
        exact ⟨s1.heap, kA.toList, hal, rfl, hrd⟩
      exact each_vals (PySem.W.keyedOut_each (fun b : V × PyData => b.2) ko (each_zip rv hkz))
    have kept : ∀ b o, b ≠ a → b ≠ kS → s1.heap.get? b = some o → h3.get? b = some o := fun b o hb hk q => kp b o hb (by rw [r1' b hk]; exact q)
    have nT : ∀ b o, H1 b = some o → b ≠ a ∧ b ≠ kS := fun b o q => ⟨(fun z => by rw [z, n1] at q; cases q), (fun z => by rw [z, n2] at q; cases q)⟩
    have I5 : Inv X pins σ (upd H1 a (.lst (srtK xs kz))) { s1 with heap := h3, toks := tk3 } := by
      refine I3.step (g' := s1.gens) (d' := s1.drawn) (t' := tk3) (ch := [a, kS]) (fun b hb => ?_) (fun b o _ _ hc q _ => ?_) (fun b o _ _ hc q _ => ?_) (fun b o hc q n => ?_) (fun b o hc q => ?_) (fun b ys q => ?_) (fun b o u q => ?_) (fun b ps q => ?_) (fun m hm => ?_) (fun b u q => ?_) I3.bare
      · rcases List.mem_cons.mp hb with rfl | hb
        · exact ⟨.inr a4, a2, a5, a6⟩
        · rw [List.mem_singleton.mp hb]; exact ⟨.inr k4, k2, k5, k6⟩
      · simp only [List.mem_cons, List.not_mem_nil, or_false, not_or] at hc
        exact kept b o hc.1 hc.2 q
      · simp only [List.mem_cons, List.not_mem_nil, or_false, not_or] at hc
        exact ⟨o.slots, kept b o hc.1 hc.2 q⟩
      · simp only [List.mem_cons, List.not_mem_nil, or_false, not_or] at hc
        rw [upd_ne hc.1]; exact n
      · simp only [List.mem_cons, List.not_mem_nil, or_false, not_or] at hc
        exact ⟨o, kept b o hc.1 hc.2 q⟩
      · rw [upd_ne (nT b _ q).1]; exact q
      · rw [upd_ne (nT b _ q).1]; exact q
      · exact ⟨#[], by rw [upd_ne (nT b _ q).1, q]; simp⟩
      · obtain ⟨o, es, ep, ho, r⟩ := hm
        exact ⟨o, es, ep, kept _ o (Ne.symm a2) (Ne.symm k2) ho, r⟩
      · by_cases hb : b = a
        · subst hb
          rw [upd_same] at q
          cases q
          refine ⟨?_, _, c, hout, n3⟩
          unfold srtK
          rw [List.length_map, List.length_mergeSort, List.length_zip, hkz, Nat.min_self]
          exact hz
        · rw [upd_ne hb] at q
          refine (I3.hok b u q).stay (fun c v hc r => ?_) (fun c r => ?_) fun c ys r => ?_
          · rcases hc with z | z
            · rw [z] at r ⊢; exact kept b v hb (nT b _ q).2 r
            · exact kept c v (nT c _ z).1 (nT c _ z).2 r
          · rw [upd_ne (nT c _ r).1]; exact r
          · rw [upd_ne (nT c _ r).1]; exact r
    exact ⟨.ref a, _, I5, rfl, q a n1⟩
end

structure LamP (p : Str) (sc scope : Scope) : Prop where
  kind : scope.kind = .function
  co : scope.isCoroutine = false
  gen : scope.isGenerator = false
  own : ∀ y ∈ scope.names, y.2 ≠ .cell ∧ (y.2 = .local → y.1 = p)
  par : scope.names.lookup p = some .local
  free : ∀ y ∈ scope.names, y.2 = .free → sc.names.lookup y.1 = some .cell ∨ sc.names.lookup y.1 = some .free
def lamPB (p : Str) (sc scope : Scope) : Bool :=
  decide (scope.kind = .function) && !scope.isCoroutine && !scope.isGenerator && decide (scope.names.lookup p = some .local) && scope.names.all fun y => !decide (y.2 = .cell) && (!decide (y.2 = .local) || decide (y.1 = p)) && (!decide (y.2 = .free) || decide (sc.names.lookup y.1 = some .cell) || decide (sc.names.lookup y.1 = some .free))
theorem lamP_by {p : Str} {sc scope : Scope} (h : lamPB p sc scope = true) : LamP p sc scope := by
  unfold lamPB at h
  simp only [Bool.and_eq_true, Bool.or_eq_true, Bool.not_eq_true', decide_eq_true_eq, decide_eq_false_iff_not, List.all_eq_true] at h
  obtain ⟨⟨⟨⟨h1, h2⟩, h3⟩, h5⟩, h4⟩ := h
  refine ⟨h1, h2, h3, fun y hy => ⟨(h4 y hy).1.1, fun e => ?_⟩, h5, fun y hy e => ?_⟩
  · rcases (h4 y hy).1.2 with z | z
    · exact absurd e z
    · exact z
  · rcases (h4 y hy).2 with (z | z) | z
    · exact absurd e z
    · exact .inl z
    · exact .inr z
theorem LamP.has {X : Cx} {p : Str} {scope : Scope} (L : LamP p X.env.scope scope) (ok : X.Ok) : ∀ y ∈ scope.names, y.2 = .free → ∃ c, X.env.cells.lookup y.1 = some c := fun y hy e => by
  rcases L.free y hy e with k | k
  · exact ok.has _ (.inl k)
  · exact ok.has _ (.inr k)
section
variable {X : Cx} {pins : List (Addr × Obj)} {σ : L2.St} {H HZ : Hp} {s s1 : Shared}
theorem lam_startP {A : Around} {outer : List PySem.Env} {E : XK} {scope : Scope} {f c' : Addr} {h₁ : Heap} {tk : Nat} {p : Str} {j : Nat} {x : V} {u : Value} (I : Inv X pins σ H s) (L : LamP p X.env.scope scope) (e0 : Env0 X.prog X.w X.K X.mg X.base A outer s1 HZ) (hd : A.handled = none)
    (nd : X.N.Nodup) (hj : X.N[j]? = some p) (rx : RelV x u)
    (un : Un (frs X.stack) [] H HZ s.heap s1.heap) (hns : h₁.Ns s1.heap.objs.size fun y => ([(p, u)] : List (Str × Value)).reverse.lookup y) (kp : ∀ b o, s1.heap.get? b = some o → h₁.get? b = some o) :
    Inv (lamCx X A outer s1 HZ E scope f c') [] (σ.set j (some x)) HZ { s1 with heap := h₁, toks := tk } := by
  have hfree := L.has I.ok
  have cm : ∀ {y c}, (cloFrom X.env.cells scope.names []).lookup y = some c → X.env.cells.lookup y = some c := fun {y c} e => by
    rcases cloFrom_mem (PySem.mem_of_lookup e) with hm | ⟨h1, h2⟩
    · cases hm
    · obtain ⟨c1, hc⟩ := hfree _ h1 rfl
      have hc : X.env.cells.lookup y = some c1 := hc
      have e2 : c = c1 := by
        rw [h2, hc] <;> rfl
      rw [e2]
      exact hc
  have look : ∀ {y}, scope.names.lookup y = some .free → ∃ c, (cloFrom X.env.cells scope.names []).lookup y = some c := fun {y} hl => by
    have hy : (y, NameKind.free) ∈ scope.names := PySem.mem_of_lookup hl
    exact mem_lookup (cloFrom_has (cells := X.env.cells) (acc := []) hy)
  have cellK : ∀ {c : Addr} {v : Option Value}, H c = none → s.heap.IsCell c v → h₁.IsCell c v := fun {c v} n ⟨o, ho, hd⟩ => by
    obtain ⟨sl, q⟩ := un.any ho n (by simp)
    exact ⟨_, kp _ _ q, hd⟩
  have noA : ∀ b : Addr, b ∉ (lamCx X A outer s1 HZ E scope f c').ex := fun b z => absurd (show b ∈ ([] : List Addr) from z) (by simp)
  refine ⟨⟨e0.mod, L.kind, rfl, rfl, Nat.le_refl _, fun y z c e1 e2 => I.ok.inj y z c (cm e1) (cm e2), fun y hy => ?_, fun y c z _ => ?_, fun _ => hd, Around.frames_deeper e0.frames, .inr ⟨rfl, rfl⟩, fun b z => absurd z (noA b), e0.bs, e0.bsz, fun b _ _ => noA b,
      fun b z => absurd z (noA b), e0.funs, e0.frf⟩,
    rfl, e0.bare, Un.kept kp, ⟨_, hns, fun i y v e1 e2 e3 => ?_⟩, fun y c e => ?_, e0.hok.fresh (Nat.le_refl _), fun y c e => ?_, fun q hq => absurd (show q ∈ ([] : List (Addr × Obj)) ++ [] from hq) (by simp), e0.hok.kept kp, by rw [List.length_set]; exact I.len⟩
  · have hy : scope.names.lookup y = some .cell ∨ scope.names.lookup y = some .free := hy
    rcases hy with hy | hy
    · exact absurd rfl (L.own _ (PySem.mem_of_lookup hy)).1
    · exact look hy
  · have z : false = true := z
    cases z
  · have e3 : Vis scope y := e3
    have e1 : X.N[i]? = some y := e1
    rcases e3 with k | k | k
    · have ey := (L.own _ (PySem.mem_of_lookup k)).2 rfl
      have ey : y = p := ey
      subst ey
      have eij : i = j := by
        have hi := (List.getElem?_eq_some_iff.mp e1)
        have hj2 := (List.getElem?_eq_some_iff.mp hj)
        obtain ⟨hi1, hi2⟩ := hi
        obtain ⟨hj1, hj3⟩ := hj2
        exact (List.getElem_inj nd).mp (hi2.trans hj3.symm)
      subst eij
      have hl : i < σ.length := by
        rw [List.getElem?_set] at e2
        by_cases h : i < σ.length
        · exact h
        · rw [if_pos rfl, if_neg h] at e2; cases e2
      rw [List.getElem?_set_self hl] at e2
      cases e2
      exact ⟨u, rx, .inl ⟨k, by simp⟩⟩
    · exact absurd rfl (L.own _ (PySem.mem_of_lookup k)).1
    · have ny : y ≠ p := fun z => by
        subst z
        have h2 : scope.names.lookup y = some .local := L.par
        rw [h2] at k
        cases k
      have nij : j ≠ i := fun z => by
        subst z
        rw [hj] at e1
        exact ny (Option.some.inj e1).symm
      rw [List.getElem?_set_ne nij] at e2
      obtain ⟨m, hn, hl⟩ := I.loc
      have hvis : Vis X.env.scope y := (L.free _ (PySem.mem_of_lookup k) rfl).elim (fun k => .inr (.inl k)) (fun k => .inr (.inr k))
      obtain ⟨w', r, q⟩ := hl i y v e1 e2 hvis
      obtain ⟨c2, h2⟩ := look k
      refine ⟨w', r, .inr ⟨.inr k, c2, h2, ?_⟩⟩
      have c1 := cm h2
      rcases q with ⟨k', _⟩ | ⟨_, c3, e', z⟩
      · have k' : X.env.scope.names.lookup y = some .local := k'
        rcases L.free _ (PySem.mem_of_lookup k) rfl with k2 | k2 <;> rw [show X.env.scope.names.lookup y = _ from k2] at k' <;> cases k'
      · rw [c1] at e'
        cases e'
        exact cellK (I.freeC y _ c1) z
  · obtain ⟨w', z⟩ := I.cell y c (cm e)
    exact ⟨w', cellK (I.freeC y c (cm e)) z⟩
  · obtain ⟨v, o, ho, hd⟩ := I.cell y c (cm e)
    exact un.free c o ho (I.freeC y c (cm e)) (by simp)
/-- f(x), f that lambda, called by a built-in -/
theorem lamP_call {f c' : Addr} {pm ctv : Value} {params : Arguments} {body : Expr} {scope : Scope} {k j : Nat} {p : Str} {tb : TE} {pins' : List (Addr × Obj)} {x : V} {u : Value} {H1 : Hp} {Q : VK}
    (I : Inv X pins σ H s) (L : LamP p X.env.scope scope) (hf : s.heap.get? f = some (PySem.W.kla_obj "<lambda>" (X.env.qual ++ "<lambda>") params body scope (cloFrom X.env.cells scope.names []) pm c' ctv)) (hfn : H1 f = none) (hfr : f ∉ frs X.stack) (hc0 : H c' = some (CodeO c' (X.env.qual ++ "<lambda>"))) (hc1 : H1 c' = some (CodeO c' (X.env.qual ++ "<lambda>")))
    (I1 : Inv X pins' σ H1 s1) (of1 : s1.heap.get? f = some (PySem.W.kla_obj "<lambda>" (X.env.qual ++ "<lambda>") params body scope (cloFrom X.env.cells scope.names []) pm c' ctv))
    (hbind : ∀ v : Value, bindArgs (PySem.W.kla_fn "<lambda>" (X.env.qual ++ "<lambda>") params body scope (cloFrom X.env.cells scope.names []) pm (.ref c') ctv) ⟨[v], []⟩ = pure [(p, v)])
    (nd : X.N.Nodup) (hj : X.N[j]? = some p) (rx : RelV x u) (hr : Room (k + 1) X.A.in1.in1)
    (gd : X.A.guards = some []) (hbody : ∀ (A : Around) (outer : List PySem.Env) (s : Shared) (H : Hp), Room k (A.deeper (lamEnv X scope s.heap.objs.size f c')) → A.guards = some [] → PE (lamCx X A outer s H (fun _ _ _ => False) scope f c') body tb)
    (ht : tb (σ.set j (some x)) H1 Q) :
    wpAny (model X.prog X.w) X.A.in1.in1 (call (.ref f) [u]) (fun r s2 => ∃ v H2, Inv X pins' σ H2 s2 ∧ RelV v r ∧ Q v H2) (fun _ _ => False) s1 := by
  obtain ⟨⟨oc, vs, t, hoc, hdc, hvc⟩, _, _⟩ := I1.hok c' _ hc1
  have rc : codeAny (model X.prog X.w) X.A.in1.in1 (.call (.ref f) ⟨[u], []⟩) (CR (L2.CX X.prog X.w) X.stack X.prog X.w H1 s1 Q (fun _ _ _ => False)) s1 := by
    refine PySem.W.kla_callFunE hr.depth of1 rfl L.co L.gen rfl ⟨c', oc, vs, t, rfl, hoc, hdc, hvc⟩ ?_
    rw [hbind]
    refine wpAny_pure (wpAny_newFunctionEnv (fun y hy => (L.own y hy).1) (fun y hy => ?_) (fun h₁ hns hsb => ⟨I1.nolimit.fresh _ hsb, ?_⟩) L.kind)
    · rw [List.mem_singleton.mp hy]; exact L.par
    show codeAny _ _ (.expr body (lamEnv X scope s1.heap.objs.size f c')) _ _
    have kp : ∀ b o, s1.heap.get? b = some o → h₁.get? b = some o := fun b o e => hsb.extBut b o (Nat.ne_of_lt (Heap.lt_size e)) (Heap.get?_push_of_some _ e)
    have J := lam_startP (E := fun _ _ _ => False) (tk := s1.toks + ([(p, u)] : List (Str × Value)).length) (f := f) (c' := c') I1 L (I1.env0.in1.in1) hr.hd nd hj rx Un.refl hns kp
    refine PySem.W.kla_codeExpr (wpAny_mono ((hbody _ _ s1 H1 (hr.deeper _) gd).run [] _ _ H1 Q J ht) (fun v s' hq => ?_) fun e s' hq => hq)
    obtain ⟨w', H', J', rv, q⟩ := hq
    exact ⟨w', H', J'.os, J'.bare, J'.base, J'.hok, rv, q⟩
  refine wpAny_call (codeAny_mono rc fun r s' hq => ?_)
  match r, hq with
  | .error e, hq =>
    obtain ⟨_, _, _, _, _, _, _, _, _, _, _, _, z⟩ := hq
    exact z.elim
  | .ok (.ret u), hq => exact I1.after hq
end
section
variable {X : Cx} {pins : List (Addr × Obj)} {σ : L2.St} {H : Hp} {s : Shared}
theorem lam_make4 {T : List (Addr × Str)} {c P : Addr} {params : Arguments} {body : Expr} {scope : Scope} {pos : Pos} {E : Value → Shared → Prop} {Q : Value → Shared → Prop} (I : Inv X pins σ H s) (TB : TabB X.base X.mg c P) (hcode : X.env.code = .ref c)
    (hm : (P, X.env.qual ++ "<lambda>") ∈ T) (hu : ∀ p ∈ T, p.1 = P → p.2 = X.env.qual ++ "<lambda>") (hT : Tabs T H) (hdef : defaultsOf params X.env = ([], [])) (hfree : ∀ y ∈ scope.names, y.2 = .free → ∃ c, X.env.cells.lookup y.1 = some c)
    (h : ∀ (f c' : Addr) (pm ctv : Value) (H1 : Hp) (s' : Shared), Inv X pins σ H1 s' → ExtN H H1 → (∀ b, H1 b = none → H b = none) → Tabs T H1 →
      s'.heap.get? f = some (PySem.W.kla_obj "<lambda>" (X.env.qual ++ "<lambda>") params body scope (cloFrom X.env.cells scope.names []) pm c' ctv) → H1 f = none → s.heap.objs.size ≤ f → f ∉ frs X.stack → H1 c' = some (CodeO c' (X.env.qual ++ "<lambda>")) → (∀ b o, b ≠ P → s.heap.get? b = some o → s'.heap.get? b = some o) → Q (.ref f) s') :
    wpAny (model X.prog X.w) X.A (eval (.Lambda params body scope pos) X.env) Q E s := by
  obtain ⟨ps, hP, ht, ha⟩ := hT _ hm
  refine PySem.W.kla_eval hdef ?_
  have bP : s.heap.BuiltinsAt X.mg P := TB.bm.keeps I.bk
  have hP' : s.heap.get? P = some { cls := .none, data := .fields ps } := I.hok P _ hP
  have nofr : ∀ f, s.heap.objs.size ≤ f → f ∉ frs X.stack := fun f hf z => by
    rcases List.mem_cons.mp (I.stkSub _ z) with e | e
    · have h1 := I.lt
      rw [← e] at h1
      exact Nat.lt_irrefl _ (Nat.lt_of_lt_of_le h1 hf)
    · exact I.nofs hf e
  cases hc : codeAmong pos ps.toList with
  | some cv =>
    obtain ⟨c', e, hco⟩ := ha pos cv hc
    subst e
    refine PySem.W.kla_makeFunctionHit (mg := X.mg) (c := c) (P := P) (ps := ps) (closure_ok hfree) I.ok.glob (I.mod.glob.keeps I.bk) hcode (TB.code.keeps I.bk) hP' ht hc bP fun ctv h' tk hx hsz => ?_
    exact h h'.objs.size c' ((X.mg "__name__").getD .none) ctv H _ (I.kept fun b o e => Heap.get?_push_of_some _ (hx b o e)) (ExtN.refl H) (fun _ z => z) hT (Heap.get?_push_size _ rfl) (I.hok.fresh hsz) hsz (nofr _ hsz) hco (fun b o _ e => Heap.get?_push_of_some _ (hx b o e))
  | none =>
    refine PySem.W.kla_makeFunction (mg := X.mg) (c := c) (P := P) (ps := ps) (closure_ok hfree) I.ok.glob (I.mod.glob.keeps I.bk) hcode (TB.code.keeps I.bk) hP' ht hc TB.gP bP fun c' ctv h' tk hx hge hlt hrec htb => ?_
    obtain ⟨c2, oc, vs, t, e2, hoc, hd, hv⟩ := hrec
    cases e2
    have hsz : s.heap.objs.size ≤ h'.objs.size := Nat.le_trans hge (Nat.le_of_lt hlt)
    have nC : H c' = none := I.hok.fresh hge
    have I1 := inv_table (t' := tk) (more := #[rawInt pos.line, rawInt pos.col, .ref c']) (h' := h'.push (PySem.W.kla_obj "<lambda>" (X.env.qual ++ "<lambda>") params body scope (cloFrom X.env.cells scope.names []) ((X.mg "__name__").getD .none) c' ctv)) I hP
      (fun b o hb e => Heap.get?_push_of_some _ (hx b o hb e)) (Heap.get?_push_of_some _ htb) hge ⟨oc, vs, t, Heap.get?_push_of_some _ hoc, hd, hv⟩
    have hE : ExtN H (upd (upd H P (.tbl (ps ++ #[rawInt pos.line, rawInt pos.col, .ref c']))) c' (CodeO c' (X.env.qual ++ "<lambda>"))) := fun b o e n => by
      rw [upd_ne (ne_of_none e nC), upd_ne (fun z => n ps (Option.some.inj (e.symm.trans (by rw [z]; exact hP))))]
      exact e
    have eL : (ps ++ #[rawInt pos.line, rawInt pos.col, .ref c']).toList = ps.toList ++ [rawInt pos.line, rawInt pos.col, .ref c'] := by simp
    have gr : ∀ b, upd (upd H P (.tbl (ps ++ #[rawInt pos.line, rawInt pos.col, .ref c']))) c' (CodeO c' (X.env.qual ++ "<lambda>")) b = none → H b = none := fun b e => by
      by_cases h1 : b = c'
      · rw [h1]; exact nC
      · rw [upd_ne h1] at e
        by_cases h2 : b = P
        · rw [h2, upd_same] at e; cases e
        · rw [upd_ne h2] at e; exact e
    refine h h'.objs.size c' ((X.mg "__name__").getD .none) ctv _ _ I1 hE gr (fun p hp => ?_) (Heap.get?_push_size _ rfl) ?_ hsz (nofr _ hsz) upd_same (fun b o hb e => Heap.get?_push_of_some _ (hx b o hb e))
    · by_cases hb : p.1 = P
      · rw [hu p hp hb, hb]
        refine ⟨_, by rw [upd_ne (ne_of_none hP nC), upd_same], by rw [eL]; exact PySem.TriplesOk_snoc _ _ _ _ ht, fun p' cv hcv => ?_⟩
        rw [eL] at hcv
        rcases among_app _ ht hcv with z | z
        · obtain ⟨c0, e1, e2⟩ := ha p' cv z
          exact ⟨c0, e1, hE _ _ e2 codeO_ne⟩
        · exact ⟨c', z, upd_same⟩
      · obtain ⟨ps', a1, a2, a3⟩ := hT p hp
        refine ⟨ps', by rw [upd_ne (ne_of_none a1 nC), upd_ne hb]; exact a1, a2, fun p' cv hcv => ?_⟩
        obtain ⟨c0, e1, e2⟩ := a3 p' cv hcv
        exact ⟨c0, e1, hE _ _ e2 codeO_ne⟩
    · have n1 : h'.objs.size ≠ c' := Nat.ne_of_gt hlt
      have n2 : h'.objs.size ≠ P := Nat.ne_of_gt (Nat.lt_of_lt_of_le (Heap.lt_size hP') hsz)
      rw [upd_ne n1, upd_ne n2]
      exact I.hok.fresh hsz
end
def keysL (b : M D) (j : Nat) (ρ : Env) : List D → Store → R (List D)
  | [], S => .ok [] S
  | d :: ds, S => (b (ρ.set j (some d)) S).bind fun k S1 => (keysL b j ρ ds S1).bind fun ks S2 => .ok (k :: ks) S2
def sortLD (b : M D) (j : Nat) (ρ : Env) (n : Int) (S : Store) : R D := if rgOk 0 n = true then (keysL b j ρ (rgD 0 n) S).noexc.bind fun ks S2 => sortKTD (rgD 0 n) ks S2 else .bad
def mSortLR (j : Nat) (b a : M D) : M D := fun ρ S => (a ρ S).bind fun x S1 => match asI x with
  | some n => sortLD b j ρ n S1
  | none => .bad
section
variable {X : Cx} {B : Bv} {pos : Pos}
theorem de_sortL {k j : Nat} {G0 : Gv} {pz : Str} {c P : Addr} {params : Arguments} {body e : Expr} {scope : Scope} {p p2 p3 lpos pos2 : Pos} {b a : M D}
    (hB : B.G.K = G0.K ∧ B.G.fa = G0.fa ∧ B.G.ca = G0.ca ∧ B.G.cn = G0.cn ∧ B.G.tt = G0.tt) (hXK : X.K = G0.K) (hcalm : X.calm = true) (nd : X.N.Nodup) (hj : X.N[j]? = some pz)
    (hg : Gl X "sorted") (hm : X.mg "sorted" = none) (hg2 : Gl X "range") (hm2 : X.mg "range" = none) (ha : PE X e (rdE B a))
    (TB : TabB X.base X.mg c P) (hcode : X.env.code = .ref c) (hmT : (P, X.env.qual ++ "<lambda>") ∈ G0.tt) (hu : ∀ p ∈ G0.tt, p.1 = P → p.2 = X.env.qual ++ "<lambda>")
    (hr : Room (k + 4) X.A) (gd : X.A.guards = some []) (L : LamP pz X.env.scope scope) (hdef : defaultsOf params X.env = ([], []))
    (hbind : ∀ (q : Str) (cl : List (Str × Addr)) (pm cv ctv v : Value), bindArgs (PySem.W.kla_fn "<lambda>" q params body scope cl pm cv ctv) ⟨[v], []⟩ = pure [(pz, v)])
    (hbody : ∀ (A : Around) (outer : List PySem.Env) (s : Shared) (H : Hp) (E : XK) (f c' : Addr) (B' : Bv), LBody X.prog X.w X.mg X.base G0 k (lamCx X A outer s H E scope f c') B' → PE (lamCx X A outer s H E scope f c') body (rdE B' b))
    (na : starEach [e] X.env = (false, eval e X.env) :: starEach [] X.env := by rfl)
    (nr : backTo pos (starEach [.Call (.Name "range" p2) [e] [] pos2] X.env) = (false, eval (.Call (.Name "range" p2) [e] [] pos2) X.env) :: backTo pos (starEach [] X.env) := by rfl) (npl : (backTo pos (starEach [.Call (.Name "range" p2) [e] [] pos2] X.env)).any (·.1) = false := by rfl)
    (nr2 : starEach [.Call (.Name "range" p2) [e] [] pos2] X.env = (false, eval (.Call (.Name "range" p2) [e] [] pos2) X.env) :: starEach [] X.env := by rfl)
    (hall : (backToKw pos (keywordEach [⟨some "key", .Lambda params body scope lpos, p3⟩] X.env)).all (·.1.isSome) = true := by rfl) (hnone : (backToKw pos (keywordEach [⟨some "key", .Lambda params body scope lpos, p3⟩] X.env)).any (·.1.isNone) = false := by rfl)
    (hks : (backToKw pos (keywordEach [⟨some "key", .Lambda params body scope lpos, p3⟩] X.env)).filterMap (·.1) = [Str.ofString "key"] := by rfl) :
    PE X (.Call (.Name "sorted" p) [.Call (.Name "range" p2) [e] [] pos2] [⟨some "key", .Lambda params body scope lpos, p3⟩] pos) (rdE B (mSortLR j b a)) := by
  refine ⟨fun pins s σ H Q I ⟨ρ, S, θ, R0, rs, f0⟩ => ?_⟩
  refine wpAny_Call_Name_kw (ld_blt I hg hm (by decide +kernel : bootBuiltins "sorted" = some (.builtin "sorted")) ?_ (by decide) (by decide))
  refine PyProof.Rows.callWith_kw (args_cons (thn (prg_1 hg2 hm2 ha na pins s σ H (fun i n H1 => i = 0 ∧ ∃ S1 θ1, Ext θ H θ1 H1 ∧ Rel B.G B.F θ1 S1 H1 ∧ Fin B (RD B.G) σ θ1 H1 (sortLD b j ρ n S1) Q) I ?_) fun x s1 ⟨r, a0, n, t, u, v, H1, ex, hrr, I1, e0, S1, θ1, e1, R1, f1⟩ => args_nil ?_) nr2) nr npl hall hnone
  · refine ⟨ρ, S, θ, R0, rs, Fin.bind f0 fun x S1 θ1 H1 v _ e1 R1 r1 f1 => ?_⟩
    cases q : asI x with
    | none => rw [q] at f1; exact f1.elim
    | some n =>
      rw [q] at f1
      have ed := asI_ok q
      subst ed
      cases r1
      exact ⟨n, rfl, rfl, S1, θ1, e1, R1, f1⟩
  subst ex
  subst e0
  rw [hks]
  have ekt : sortKTD = sortKD := by
    funext xs ks S
    exact sortKTD_eq xs ks S
  unfold sortLD at f1
  rw [ekt] at f1
  obtain ⟨hrg, f2⟩ := Fin.ite (c := rgOk 0 n = true) f1
  have rgok := rgOk_ok hrg
  have hT : Tabs G0.tt H1 := hB.2.2.2.2 ▸ R1.tab
  show wpAny _ _ (evalAll ((do let v ← eval (.Lambda params body scope lpos) X.env; standAt pos; pure v) :: [])) _ _ s1
  refine wpAny_evalAll_cons (wpAny_bind (lam_make4 I1 TB hcode hmT hu hT hdef (L.has I1.ok) fun f c' pm ctv H2 s2 I2 eN gr T2 hf hfn hge hfr hco kpt => wpAny_bind (wpAny_standAt (wpAny_pure (wpAny_evalAll_nil ?_)))))
  show wpAny _ _ (call (.builtin "sorted") [.ref r] [(Str.ofString "key", .ref f)]) _ _ s2
  have hr2 : IsRange s2.heap r 0 n 1 t u v := kpt _ _ (fun z => by
    obtain ⟨ps, hP, _⟩ := hT _ hmT
    have h1 := I1.hok P _ hP
    have h1 : s1.heap.get? P = some { cls := .none, data := .fields ps } := h1
    rw [← z] at h1
    have h2 : s1.heap.get? r = _ := hrr
    rw [h2] at h1
    cases h1) hrr
  obtain ⟨k1, R2⟩ := R1.extN eN gr (hB.2.2.2.2.symm ▸ T2)
  have f3 := Fin.ext k1 f2
  have nc : c' ∉ θ1 := fun m => by
    obtain ⟨n, c0, _, _, r⟩ := R2.mem_some m
    obtain ⟨o', q', _, _, ic⟩ := rc_some r
    rw [hco] at q'; cases q'
    exact codeO_cel ic
  obtain ⟨o1, o2, o3, o4, o5, o6⟩ := off_new I1 hge
  have I3 : Inv X (pins ++ [(f, PySem.W.kla_obj "<lambda>" (X.env.qual ++ "<lambda>") params body scope (cloFrom X.env.cells scope.names []) pm c' ctv)]) σ H2 s2 := I2.pins_of fun q hq => by
    rcases List.mem_append.mp hq with hq | hq
    · exact I2.pin q (List.mem_append_right _ hq)
    · rw [List.mem_singleton.mp hq]
      exact ⟨hf, hfn, o2, o3, fun v z => by cases z⟩
  obtain ⟨b1, b2, b3, b4, b5⟩ := rgok
  have col : ∀ (A : Around) (E : Value → Shared → Prop) (Q' : List Value → Shared → Prop), A.handled = X.A.handled → (∀ (hp : Heap) (tk : Nat) (its : List Value), (∀ b o, s2.heap.get? b = some o → hp.get? b = some o) → Vals (rgV 0 n) its → (rgV 0 n).length ≤ sizeLine → Q' its { s2 with heap := hp, toks := tk }) → wpAny (model X.prog X.w) A (collect (.ref r)) Q' E s2 :=
    fun A E Q' hA hq => collect_range (n := (n - 0).toNat) (hA.trans (I2.ok.hd hcalm)) hr2 (small_one b1 b2 b3 b4) (rangeSize_nat 0 n) b5 fun h' tk acc hk hacc => hq h' tk acc.toList hk (vals_rg hacc) (by rw [rgV_length, sizeLine_eq]; omega)
  refine wpAny_mono (sortK_runC (Q := Q) I3 col (fun i ks H' => ∃ θ2 S2 kds, i ≤ (rgD 0 n).length ∧ Ext θ1 H2 θ2 H' ∧ Rel B.G B.F θ2 S2 H' ∧ RDs B.G θ2 H' kds ks ∧ Fin B (RD B.G) σ θ2 H' ((keysL b j ρ ((rgD 0 n).drop i) S2).noexc.bind fun ks2 S3 => sortKD (rgD 0 n) (kds ++ ks2) S3) Q)
    ⟨θ1, S1, [], Nat.zero_le _, .refl, R2, .nil, f3⟩ ?_ ?_) (fun v s' hq => ?_) fun _ _ h => h
  · rintro i x2 ks H3 ps s3 u3 hps hx ⟨θ2, S2, kds, hi, e2, R3, rk, f4⟩ I4 ru
    obtain ⟨dx, hdx, rdx⟩ := (rds_rg (G := B.G) (θ := θ2) (H := H3) (a := 0) (b := n)).getV hx
    have hlt : i < (rgD 0 n).length := (List.getElem?_eq_some_iff.mp hdx).1
    have ed : (rgD 0 n).drop i = dx :: (rgD 0 n).drop (i + 1) := by
      rw [List.drop_eq_getElem_cons hlt]
      congr 1
      exact (List.getElem?_eq_some_iff.mp hdx).2
    rw [ed] at f4
    have pf := I4.pin (f, PySem.W.kla_obj "<lambda>" (X.env.qual ++ "<lambda>") params body scope (cloFrom X.env.cells scope.names []) pm c' ctv) (List.mem_append_right _ (hps _ (List.mem_append_right _ (List.mem_singleton.mpr rfl))))
    have hco3 : H3 c' = some (CodeO c' (X.env.qual ++ "<lambda>")) := e2.keep.st _ _ hco (.inl nc) trivial
    have rs3 : RS B.G θ2 H3 (ρ.set j (some dx)) (σ.set j (some x2)) := RS.set rdx j (((rs.ext e1).ext k1).ext e2)
    refine wpAny_mono (lamP_call (k := k) (j := j) (tb := rdE ⟨B.G, B.F, fun _ _ _ _ => False⟩ b) (Q := fun kv H' => ∃ θ3 S3 kds3, i + 1 ≤ (rgD 0 n).length ∧ Ext θ1 H2 θ3 H' ∧ Rel B.G B.F θ3 S3 H' ∧ RDs B.G θ3 H' kds3 (ks ++ [kv]) ∧ Fin B (RD B.G) σ θ3 H' ((keysL b j ρ ((rgD 0 n).drop (i + 1)) S3).noexc.bind fun ks2 S4 => sortKD (rgD 0 n) (kds3 ++ ks2) S4) Q)
      I2 L hf pf.2.1 hfr hco hco3 I4 pf.1 (fun v => hbind _ _ _ _ _ v) nd hj ru ((hr.in1.in1).mono (by omega)) gd (fun A outer s5 H5 hr5 gd5 => hbody A outer s5 H5 _ f c' _ ⟨hB.1, hB.2.1, hB.2.2.1, hB.2.2.2.1, hB.2.2.2.2, hr5, gd5, L2.takes0, rfl⟩) ?_) (fun v s' hq => hq) fun _ _ h => h
    · refine ⟨ρ.set j (some dx), S2, θ2, R3, rs3, ?_⟩
      cases qc : b (ρ.set j (some dx)) S2 with
      | bad =>
        have : keysL b j ρ (dx :: (rgD 0 n).drop (i + 1)) S2 = .bad := by unfold keysL; rw [qc]; rfl
        rw [this] at f4; exact f4.elim
      | exc x3 S3 =>
        have : keysL b j ρ (dx :: (rgD 0 n).drop (i + 1)) S2 = .exc x3 S3 := by unfold keysL; rw [qc]; rfl
        rw [this] at f4; exact f4.elim
      | ok kd S3 =>
        have : keysL b j ρ (dx :: (rgD 0 n).drop (i + 1)) S2 = (keysL b j ρ ((rgD 0 n).drop (i + 1)) S3).bind fun ks S4 => .ok (kd :: ks) S4 := by
          conv => lhs; unfold keysL
          rw [qc]; rfl
        rw [this] at f4
        intro θ3 H6 k e3 R4 r3
        refine ⟨θ3, S3, kds ++ [kd], hlt, e2.trans e3, R4, (rk.ext e3).append (.cons r3 .nil), ?_⟩
        have f5 := f4.ext e3
        cases qk : keysL b j ρ ((rgD 0 n).drop (i + 1)) S3 with
        | bad => rw [qk] at f5; exact f5.elim
        | exc => rw [qk] at f5; exact f5.elim
        | ok ks2 S4 =>
          rw [qk] at f5
          have f6 : Fin B (RD B.G) σ θ3 H6 (sortKD (rgD 0 n) (kds ++ kd :: ks2) S4) Q := f5
          show Fin B (RD B.G) σ θ3 H6 (sortKD (rgD 0 n) (kds ++ [kd] ++ ks2) S4) Q
          rw [List.append_assoc]
          exact f6
  · rintro ks H3 ⟨θ2, S2, kds, hi, e2, R3, rk, f4⟩
    have hl0 : (rgV 0 n).length = (rgD 0 n).length := (rds_rg (G := B.G) (θ := θ2) (H := H3) (a := 0) (b := n)).length.symm
    have ed : (rgD 0 n).drop (rgV 0 n).length = [] := by rw [hl0]; exact List.drop_length
    rw [ed] at f4
    replace f4 : Fin B (RD B.G) σ θ2 H3 (sortKD (rgD 0 n) (kds ++ []) S2) Q := f4
    rw [List.append_nil] at f4
    unfold sortKD at f4
    cases q3 : kds.mapM (toPy 20 S2) with
    | none => rw [q3] at f4; exact f4.elim
    | some kz =>
      rw [q3] at f4
      obtain ⟨c, f5⟩ := Fin.ite (c := (okK kz && (kz.length == (rgD 0 n).length)) = true) f4
      rw [Bool.and_eq_true] at c
      obtain ⟨c1, c2, c3⟩ := okK_ok c.1
      have hl : kz.length = (rgD 0 n).length := by simpa using c.2
      refine ⟨kz, ?_, hl.trans hl0.symm, c1, c2, fun d hd => ?_, fun p hp => Fin.ok f5 (ext_cell hp) (R3.alloc hp (srtD_ok rds_rg hl)) (RD.new R3)⟩
      · rw [hXK, ← hB.1]; exact dpAll_of (F := B.F) (toPy_dp R3 20) kds ks kz rk q3
      · have h1 := c3 d hd
        have h2 := hr.in1.in1.un
        omega
  · obtain ⟨w, H5, I5, r5, q5⟩ := hq
    exact ⟨w, H5, I5.unpinned, r5, q5⟩
end
end DM

namespace DM
open PySem PySem.Spec L2
section
variable {g : TM} {t : M Bool} {e : M D} {b : SM} {ρ : Env}
theorem getAp {S : Store} {p : Nat} {c : C} (h : S[p]? = some c) (T : Store) : (S ++ T)[p]? = some c := by
  rw [List.getElem?_append_left (List.getElem?_eq_some_iff.mp h).1]; exact h
theorem getL_at {S : Store} {p : Nat} {ds : List D} (h : S[p]? = some (.lst ds)) : getL (.ref p) S = some ds := by
  show (match S[p]? with | some (C.lst ds) => some ds | _ => none) = _
  rw [h]
theorem iter_at {S : Store} {p : Nat} {ds : List D} {a : M D} {S0 : Store} (ha : a ρ S0 = .ok (.ref p) S) (h : S[p]? = some (.lst ds)) : mIter a ρ S0 = .ok (nxList (.ref p)) S := by
  unfold mIter
  rw [ha]
  show iterD (.ref p) S = _
  show (match getL (.ref p) S with | some _ => _ | none => _) = _
  rw [getL_at h]
theorem lcN_FL {S : Store} {p : Nat} {all : List D} (hp : S[p]? = some (.lst all)) (n1 : noS kL S = true) (n2 : noS kX S = true) {ds ys : List D} (h : LF g t e ρ ds ys)   : ∀ (pre acc : List D) (c m : Nat), all = pre ++ ds → c ≤ pre.length → pre.length + ds.length < 1000 → ds.length < m → noFs kL acc = true → noFs kX acc = true →
    lcN (nxList (.ref p)) g t e ρ S.length m pre.length (S ++ [.rev acc c]) = .ok (.ref S.length) (S ++ [.lst (acc.reverse ++ ys)]) := by
  have hk : ∀ z : C, (S ++ [z])[S.length]? = some z := fun z => List.getElem?_concat_length
  have hset : ∀ z w : C, (S ++ [z]).set S.length w = S ++ [w] := fun z w => by
    rw [List.set_append, if_neg (by omega), Nat.sub_self]; rfl
  induction h with
  | nil =>
    intro pre acc c m ha hc hl hm a1 a2
    cases m with
    | zero => omega
    | succ m =>
      unfold lcN
      have e0 : nxList (.ref p) pre.length (S ++ [.rev acc c]) = some none := by
        show (getL (.ref p) (S ++ [.rev acc c])).map (·[pre.length]?) = _
        rw [show getL (.ref p) (S ++ [.rev acc c]) = some all from getL_at (getAp hp _), ha]
        simp
      rw [e0]
      show lcDone S.length (S ++ [.rev acc c]) = _
      unfold lcDone
      rw [hk]
      dsimp only
      rw [hset, List.append_nil]
  | @cons d y ds ys hd h1 h2 r ih =>
    intro pre acc c m ha hc hl hm a1 a2
    rw [List.length_cons] at hl hm
    cases m with
    | zero => omega
    | succ m =>
      unfold lcN
      have e0 : nxList (.ref p) pre.length (S ++ [.rev acc c]) = some (some d) := by
        show (getL (.ref p) (S ++ [.rev acc c])).map (·[pre.length]?) = _
        rw [show getL (.ref p) (S ++ [.rev acc c]) = some all from getL_at (getAp hp _), ha]
        simp
      rw [e0]
      have s1 : noS kL (S ++ [.rev acc c]) = true := by rw [noS_app, n1]; show (true && (noFs kL acc && true)) = true; rw [a1]; rfl
      have s2 : noS kX (S ++ [.rev acc c]) = true := by rw [noS_app, n2]; show (true && (noFs kX acc && true)) = true; rw [a2]; rfl
      obtain ⟨ρ1, k1, k2, k3⟩ := hd _ s1 s2
      dsimp only
      rw [k1]
      show (t ρ1 (S ++ [.rev acc c])).noexc.bind (fun k' S2 => if k' then (e ρ1 S2).noexc.bind fun y S3 => lcEnd S.length y S3 (lcN (nxList (.ref p)) g t e ρ S.length m (pre.length + 1)) else lcN (nxList (.ref p)) g t e ρ S.length m (pre.length + 1) S2) = _
      rw [k2]
      show (e ρ1 (S ++ [.rev acc c])).noexc.bind (fun y S3 => lcEnd S.length y S3 (lcN (nxList (.ref p)) g t e ρ S.length m (pre.length + 1))) = _
      rw [k3]
      show lcEnd S.length y (S ++ [.rev acc c]) (lcN (nxList (.ref p)) g t e ρ S.length m (pre.length + 1)) = _
      unfold lcEnd
      rw [hk]
      show (if c < 16777216 then lcN (nxList (.ref p)) g t e ρ S.length m (pre.length + 1) ((S ++ [C.rev acc c]).set S.length (.rev (y :: acc) (c + 1))) else .bad) = _
      rw [if_pos (by omega), hset]
      have z := ih (pre ++ [d]) (y :: acc) (c + 1) m (by rw [ha]; simp) (by simp; omega) (by simp; omega) (by omega) (by show (noF kL y && noFs kL acc) = true; rw [h1, a1]; rfl) (by show (noF kX y && noFs kX acc) = true; rw [h2, a2]; rfl)
      rw [List.length_append, List.length_singleton, List.reverse_cons, List.append_assoc, List.singleton_append] at z
      exact z
theorem mLc_FL {it : M Nx} {vs : List Nat} {S S0 : Store} {ds ys : List D} {p : Nat} (hi : it ρ S0 = .ok (nxList (.ref p)) S) (hp : S[p]? = some (.lst ds)) (hl : ds.length < 1000) (h : LF g t e (wipeE ρ vs) ds ys) (n1 : noS kL S = true) (n2 : noS kX S = true) : mLc it g t e vs ρ S0 = .ok (.ref S.length) (S ++ [.lst ys]) := by
  unfold mLc
  rw [hi]
  have z := lcN_FL hp n1 n2 h [] [] 0 fuel rfl (Nat.le_refl _) (by simpa using hl) (by unfold fuel; omega) rfl rfl
  rw [List.reverse_nil, List.nil_append, List.length_nil] at z
  exact z
end
theorem toPy_at {S : Store} {p n : Nat} {l : List D} {ps : List PyData} (g : S[p]? = some (.lst l)) (h : l.mapM (toPy n S) = some ps) : toPy (n + 1) S (.ref p) = some (.list ps) := by
  show (match S[p]? with
    | some (.lst ds) => (ds.mapM (toPy n S)).map PyData.list
    | _ => none) = _
  rw [g]
  show (l.mapM (toPy n S)).map PyData.list = _
  rw [h]; rfl
theorem eq_clos {S : Store} {a b : Nat} {l : List D} {ps : List PyData} (h1 : S[a]? = some (.lst l)) (h2 : S[b]? = some (.lst l)) (h : ∀ S, l.mapM (toPy 19 S) = some ps) (h3 : (SeqAt.shaped (.list ps) && PyData.eqv (.list ps) (.list ps)) = true) : cmpD eqC (.ref a) (.ref b) S = .ok (.bl true) S := by
  rw [Bool.and_eq_true] at h3
  have e : eqC (.ref a) (.ref b) S = some true := by
    show eqG (.ref a) (.ref b) S = _
    unfold eqG
    rw [toPy_at h1 (h S), toPy_at h2 (h S)]
    show (if (SeqAt.shaped (.list ps) && SeqAt.shaped (.list ps)) = true then some (PyData.eqv (.list ps) (.list ps)) else none) = _
    rw [h3.1, h3.2]; rfl
  unfold cmpD
  rw [e]
end DM

namespace Law
open PySem PySem.Spec L2 DM LamX
open PyProof.Rows hiding St
def T_PLACES : List (Str × Int) := [(("l" : Str), -1), (("c" : Str), 0), (("r" : Str), 1)]
/-- except InvalidWord: of which errors -/
def t_1 : Nat → Option Bool := fun k => [some false, some true, some false, some false, some false].getD k none
/-- except InvalidLine: of which errors -/
def t_0 : Nat → Option Bool := fun k => [some true, some false, some false, some false, some false].getD k none
/-- except InvalidNumber: of which errors -/
def t_2 : Nat → Option Bool := fun k => [some false, some false, some true, some false, some false].getD k none
/-- except Refused: of which errors -/
def t_4 : Nat → Option Bool := fun k => [some false, some false, some false, some false, some true].getD k none
/-- except TooMany: of which errors -/
def t_3 : Nat → Option Bool := fun k => [some false, some false, some false, some true, some false].getD k none
/-- is_whole(value) -/
def b_0 : SM :=
  sRet (mAnd (mBlt isiD (mCons (mVar 0) (mCons (mC (.ty .int)) (mNil)))) (mNot (mBlt isiD (mCons (mVar 0) (mCons (mC (.ty .bool)) (mNil))))))
def m_0 : Fm := defM 0 b_0
/-- is_near(value) -/
def b_1 : SM :=
  sRet (mAnd (mCall m_0 (mCons (mVar 0) (mNil))) (mChain (cmpD ltC) (cmpD ltC) (mUn negD (mC (.int (1000000000000000000000000000000000000000000000000000000000000)))) (mVar 0) (mC (.int (1000000000000000000000000000000000000000000000000000000000000)))))
def m_1 : Fm := defM 0 b_1
/-- is_within(value, least, most) -/
def b_2 : SM :=
  sRet (mAnd (mCall m_0 (mCons (mVar 0) (mNil))) (mChain (cmpD (ltI fun i j => decide (i ≤ j))) (cmpD (ltI fun i j => decide (i ≤ j))) (mVar 1) (mVar 0) (mVar 2)))
def m_2 : Fm := defM 0 b_2
/-- require_number(value, least, most) -/
def b_3 : SM :=
  sIf (mOrT (mNotT (mTest (mCall m_1 (mCons (mVar 0) (mNil))))) (mOrT (mAndT (mTest (mBin (cmpD notNC) (mVar 1) (mC .non))) (mTest (mBin (cmpD ltC) (mVar 0) (mVar 1)))) (mAndT (mTest (mBin (cmpD notNC) (mVar 2) (mC .non))) (mTest (mBin (cmpD gtC) (mVar 0) (mVar 2)))))) (sRaise1 2 (mVar 0)) (sNil)
def m_3 : Fm := defM 0 b_3
/-- is_line_in(value, height) -/
def b_4 : SM :=
  sSeq (sIf (mOrT (mNotT (mTest (mBlt isiD (mCons (mVar 0) (mCons (mC (.ty .tuple)) (mNil)))))) (mNotT (mTest (mChain (cmpD (ltI fun i j => decide (i ≤ j))) (cmpD (ltI fun i j => decide (i ≤ j))) (mC (.int 1)) (mBlt lenD (mCons (mVar 0) (mNil))) (mC (.int (10))))))) (sRet (mC (.bl false))) (sNil)) (sRet (mBlt allD (mCons (mLc (mIter (mVar 0)) (tName 1) (mYes) (mCall m_2 (mCons (mVar 1) (mCons (mC (.int 0)) (mCons (mBin subD (mBlt lenD (mCons (mVar 0) (mNil))) (mC (.int 1))) (mNil))))) [1]) (mNil))))
def m_4 : Fm := defM 1 b_4
/-- cycle_in(line, found, met, here) -/
def b_5 : SM :=
  sSeq (sPar3 1 2 3 (mCons (mLst (mNil)) (mCons (mDct0) (mCons (mC (.int 0)) (mNil))))) (sSeq (sWhile (mTest (mDIn true (mVar 3) (mVar 2))) (sSeq (sDPutM (mC (.bl true)) (mVar 2) (mVar 3)) (sSeq (sExpr (mMth appendD (mVar 1) (mCons (mVar 3) (mNil)))) (sSet 3 (mBin itemD (mVar 0) (mVar 3)))))) (sRet (mVar 1)))
def m_5 : Fm := defM 3 b_5
/-- is_round_in(value) -/
def b_6 : SM :=
  sSeq (sIf (mOrT (mNotT (mTest (mCall m_4 (mCons (mVar 0) (mNil))))) (mTest (mBin (cmpD neC) (mBlt sortXD (mCons (mVar 0) (mNil))) (mListR1 (mBlt lenD (mCons (mVar 0) (mNil))))))) (sRet (mC (.bl false))) (sNil)) (sRet (mBin (cmpD eqC) (mBlt lenD (mCons (mCall m_5 (mCons (mVar 0) (mNil))) (mNil))) (mBlt lenD (mCons (mVar 0) (mNil)))))
def m_6 : Fm := defM 0 b_6
/-- is_word_in(value, sign) -/
def b_7 : SM :=
  sSeq (sIf (mOrT (mNotT (mTest (mBlt isiD (mCons (mVar 0) (mCons (mC (.ty .str)) (mNil)))))) (mOrT (mNotT (mTest (mChain (cmpD (ltI fun i j => decide (i ≤ j))) (cmpD (ltI fun i j => decide (i ≤ j))) (mC (.int 1)) (mBlt lenD (mCons (mVar 0) (mNil))) (mC (.int (24)))))) (mTest (mBin (cmpD neC) (mBin itemD (mVar 0) (mUn negD (mC (.int 1)))) (mC (.str ("c" : Str))))))) (sRet (mC (.bl false))) (sNil)) (sRet (mBlt allD (mCons (mLc (mIter (mSlice (mVar 0) (mNoPart) (mPart (mUn negD (mC (.int 1)))))) (tName 1) (mYes) (mBin (cmpD inC) (mVar 1) (mTup (mCons (mC (.str ("l" : Str))) (mCons (mC (.str ("r" : Str))) (mNil))))) [1]) (mNil))))
def m_7 : Fm := defM 1 b_7
/-- key_of_signs(signs, found, sense, sign) -/
def b_8 : SM :=
  sSeq (sPar 1 2 (mCons (mLst (mNil)) (mCons (mC (.int 1)) (mNil)))) (sSeq (sFor (mIter (mVar 0)) (tName 3) (sSeq (sExpr (mMth appendD (mVar 1) (mCons (mBin mulD (mVar 2) (mKd T_PLACES (mVar 3))) (mNil)))) (sIf (mTest (mBin (cmpD eqC) (mVar 3) (mC (.str ("r" : Str))))) (sSet 2 (mUn negD (mVar 2))) (sNil)))) (sRet (mBlt tupleD (mCons (mVar 1) (mNil)))))
def m_8 : Fm := defM 3 b_8
/-- words_compared(one, other, first, second) -/
def b_9 : SM :=
  sSeq (sPar 2 3 (mCons (mCall m_8 (mCons (mVar 0) (mNil))) (mCons (mCall m_8 (mCons (mVar 1) (mNil))) (mNil)))) (sRet (mBin subD (mBlt toIntD (mCons (mBin (cmpD gtC) (mVar 2) (mVar 3)) (mNil))) (mBlt toIntD (mCons (mBin (cmpD ltC) (mVar 2) (mVar 3)) (mNil)))))
def m_9 : Fm := defM 2 b_9
/-- shifted(word, i) -/
def b_10 : SM :=
  sRet (mBin addD (mSlice (mVar 0) (mPart (mVar 1)) (mNoPart)) (mSlice (mVar 0) (mNoPart) (mPart (mVar 1))))
def m_10 : Fm := defM 0 b_10
/-- shifts_in(word, i) -/
def b_11 : SM :=
  sRet (mLc (mRng (mCons (mBlt lenD (mCons (mVar 0) (mNil))) (mNil))) (tName 1) (mYes) (mCall m_10 (mCons (mVar 0) (mCons (mVar 1) (mNil)))) [1])
def m_11 : Fm := defM 1 b_11
/-- shift_order_in(word, keys, shift, index) -/
def b_12 : SM :=
  sSeq (sSet 1 (mLc (mIter (mCall m_11 (mCons (mVar 0) (mNil)))) (tName 2) (mYes) (mCall m_8 (mCons (mVar 2) (mNil))) [2])) (sRet (mSortLR 3 (mBin itemD (mVar 1) (mVar 3)) (mBlt lenD (mCons (mVar 0) (mNil)))))
def m_12 : Fm := defM 3 b_12
/-- beaten_at(word, i) -/
def b_13 : SM :=
  sSeq (sFor (mRng (mCons (mC (.int 1)) (mCons (mBlt lenD (mCons (mVar 0) (mNil))) (mNil)))) (tName 1) (sIf (mTest (mBin (cmpD gtC) (mCall m_9 (mCons (mCall m_10 (mCons (mVar 0) (mCons (mVar 1) (mNil)))) (mCons (mVar 0) (mNil)))) (mC (.int 0)))) (sRet (mVar 1)) (sNil))) (sRet (mC .non))
def m_13 : Fm := defM 1 b_13
/-- is_greatest_in(word) -/
def b_14 : SM :=
  sRet (mBin (cmpD isNC) (mCall m_13 (mCons (mVar 0) (mNil))) (mC .non))
def m_14 : Fm := defM 0 b_14
/-- greatest_answer_in(word, index) -/
def b_15 : SM :=
  sSeq (sSet 1 (mCall m_13 (mCons (mVar 0) (mNil)))) (sRet (mIf (mTest (mBin (cmpD isNC) (mVar 1) (mC .non))) (mTup (mCons (mTup (mCons (mC (.str ("greatest" : Str))) (mCons (mVar 0) (mNil)))) (mCons (mTup (mNil)) (mNil)))) (mTup (mCons (mTup (mCons (mC (.str ("beaten" : Str))) (mCons (mVar 0) (mNil)))) (mCons (mVar 1) (mNil))))))
def m_15 : Fm := defM 1 b_15
/-- is_beaten_paper_in(word, value) -/
def b_16 : SM :=
  sRet (mAnd (mCall m_2 (mCons (mVar 1) (mCons (mC (.int 1)) (mCons (mBin subD (mBlt lenD (mCons (mVar 0) (mNil))) (mC (.int 1))) (mNil))))) (mBin (cmpD gtC) (mCall m_9 (mCons (mCall m_10 (mCons (mVar 0) (mCons (mVar 1) (mNil)))) (mCons (mVar 0) (mNil)))) (mC (.int 0))))
def m_16 : Fm := defM 0 b_16
/-- all_words(n, found, turn, row, sign) -/
def b_17 : SM :=
  sSeq (sSet 1 (mLst (mCons (mC (.str ("" : Str))) (mNil)))) (sSeq (sFor (mRng (mCons (mBin subD (mVar 0) (mC (.int 1))) (mNil))) (tName 2) (sSet 1 (mLc2 (mIter (mVar 1)) (tName 3) (mYes) (mIter (mTup (mCons (mC (.str ("l" : Str))) (mCons (mC (.str ("r" : Str))) (mNil))))) (tName 4) (mYes) (mBin addD (mVar 3) (mVar 4)) [3, 4] [4]))) (sRet (mLc (mIter (mVar 1)) (tName 3) (mYes) (mBin addD (mVar 3) (mC (.str ("c" : Str)))) [3])))
def m_17 : Fm := defM 4 b_17
/-- greatest_words_in(n, word) -/
def b_18 : SM :=
  sRet (mSortKT m_8 (mCons (mLc (mIter (mCall m_17 (mCons (mVar 0) (mNil)))) (tName 1) (mTest (mCall m_14 (mCons (mVar 1) (mNil)))) (mVar 1) [1]) (mNil)))
def m_18 : Fm := defM 1 b_18
/-- moebius_in(number, found, factor) -/
def b_19 : SM :=
  sSeq (sAsg (mTup (mCons (mC (.int 1)) (mCons (mC (.int 2)) (mNil)))) (tTupG 2 (tConss (tName 1) (tConss (tName 2) (tNils))))) (sSeq (sWhile (mTest (mBin (cmpD gtC) (mVar 0) (mC (.int 1)))) (sSeq (sIf (mTest (mBin (cmpD eqC) (mBin modD (mVar 0) (mVar 2)) (mC (.int 0)))) (sSeq (sAug 0 fdivD (mVar 2)) (sSeq (sIf (mTest (mBin (cmpD eqC) (mBin modD (mVar 0) (mVar 2)) (mC (.int 0)))) (sRet (mC (.int 0))) (sNil)) (sSet 1 (mUn negD (mVar 1))))) (sNil)) (sAug 2 addX (mC (.int 1))))) (sRet (mVar 1)))
def m_19 : Fm := defM 2 b_19
/-- count_greatest_in(n, found, divisor) -/
def b_20 : SM :=
  sSeq (sSet 1 (mC (.int 0))) (sSeq (sFor (mRng3 (mCons (mC (.int 1)) (mCons (mBin addD (mVar 0) (mC (.int 1))) (mCons (mC (.int 2)) (mNil))))) (tName 2) (sIf (mTest (mBin (cmpD eqC) (mBin modD (mVar 0) (mVar 2)) (mC (.int 0)))) (sAug 1 addX (mBin mulD (mCall m_19 (mCons (mVar 2) (mNil))) (mBin shlD (mC (.int 1)) (mBin fdivD (mVar 0) (mVar 2))))) (sNil))) (sRet (mBin fdivD (mVar 1) (mBin mulD (mC (.int 2)) (mVar 0)))))
def m_20 : Fm := defM 2 b_20
/-- evenness_in(word) -/
def b_21 : SM :=
  sRet (mBin subD (mC (.int 1)) (mBin mulD (mC (.int 2)) (mBin modD (mMthX preST cntX (mVar 0) (mCons (mC (.str ("r" : Str))) (mNil))) (mC (.int 2)))))
def m_21 : Fm := defM 0 b_21
/-- is_bump_in(line, top, rises, i) -/
def b_22 : SM :=
  sSeq (sSet 1 (mMthX preLT ixX (mVar 0) (mCons (mBlt (bestD max) (mCons (mVar 0) (mNil))) (mNil)))) (sSeq (sIf (mOrT (mTest (mBin (cmpD ltC) (mBlt lenD (mCons (mVar 0) (mNil))) (mC (.int (3))))) (mNotT (mTest (mChain (cmpD ltC) (cmpD ltC) (mC (.int 0)) (mVar 1) (mBin subD (mBlt lenD (mCons (mVar 0) (mNil))) (mC (.int 1))))))) (sRet (mC (.bl false))) (sNil)) (sSeq (sSet 2 (mLc (mRng (mCons (mVar 1) (mNil))) (tName 3) (mYes) (mBin (cmpD ltC) (mBin itemD (mVar 0) (mVar 3)) (mBin itemD (mVar 0) (mBin addD (mVar 3) (mC (.int 1))))) [3])) (sRet (mAnd (mBlt allD (mCons (mVar 2) (mNil))) (mBlt allD (mCons (mLc (mRng (mCons (mVar 1) (mCons (mBin subD (mBlt lenD (mCons (mVar 0) (mNil))) (mC (.int 1))) (mNil)))) (tName 3) (mYes) (mBin (cmpD gtC) (mBin itemD (mVar 0) (mVar 3)) (mBin itemD (mVar 0) (mBin addD (mVar 3) (mC (.int 1))))) [3]) (mNil)))))))
def m_22 : Fm := defM 3 b_22
/-- top_in(line) -/
def b_23 : SM :=
  sRet (mMthX preLT ixX (mVar 0) (mCons (mBlt (bestD max) (mCons (mVar 0) (mNil))) (mNil)))
def m_23 : Fm := defM 0 b_23
/-- word_in(line, top, signs, here) -/
def b_24 : SM :=
  sSeq (sPar 1 2 (mCons (mCall m_23 (mCons (mVar 0) (mNil))) (mCons (mLst (mNil)) (mNil)))) (sSeq (sSet 3 (mBin itemD (mVar 0) (mVar 1))) (sSeq (sWhile (mTest (mBin (cmpD neC) (mVar 3) (mVar 1))) (sSeq (sExpr (mMth appendD (mVar 2) (mCons (mIf (mTest (mBin (cmpD ltC) (mVar 3) (mVar 1))) (mC (.str ("l" : Str))) (mC (.str ("r" : Str)))) (mNil)))) (sSet 3 (mBin itemD (mVar 0) (mVar 3))))) (sRet (mBin addD (mStrM joinD (mC (.str ("" : Str))) (mVar 2)) (mC (.str ("c" : Str)))))))
def m_24 : Fm := defM 3 b_24
/-- round_in(word, ranks, rank, index, heights) -/
def b_25 : SM :=
  sSeq (sSet 1 (mBin mulD (mLst (mCons (mC (.int 0)) (mNil))) (mBlt lenD (mCons (mVar 0) (mNil))))) (sSeq (sFor (mEnum (mCons (mCall m_12 (mCons (mVar 0) (mNil))) (mNil))) (tTupG 2 (tConss (tName 2) (tConss (tName 3) (tNils)))) (sAsg (mVar 2) (tSub (mVar 1) (mVar 3)))) (sSeq (sSet 4 (mBin mulD (mLst (mCons (mC (.int 0)) (mNil))) (mBlt lenD (mCons (mVar 0) (mNil))))) (sSeq (sFor (mRng (mCons (mBlt lenD (mCons (mVar 0) (mNil))) (mNil))) (tName 3) (sAsg (mBin itemD (mVar 1) (mBin modD (mBin addD (mVar 3) (mC (.int 1))) (mBlt lenD (mCons (mVar 0) (mNil))))) (tSub (mVar 4) (mBin itemD (mVar 1) (mVar 3))))) (sRet (mBlt tupleD (mCons (mVar 4) (mNil)))))))
def m_25 : Fm := defM 4 b_25
/-- require_word(value) -/
def b_26 : SM :=
  sIf (mNotT (mTest (mCall m_7 (mCons (mVar 0) (mNil))))) (sRaise0 1) (sNil)
def m_26 : Fm := defM 0 b_26
/-- require_words(word, words, one) -/
def b_27 : SM :=
  sSeq (sExpr (mCall m_26 (mCons (mVar 0) (mNil)))) (sIf (mOrT (mNotT (mTest (mBlt isiD (mCons (mVar 1) (mCons (mC (.ty .tuple)) (mNil)))))) (mNotT (mTest (mBlt allD (mCons (mLc (mIter (mVar 1)) (tName 2) (mYes) (mCall m_7 (mCons (mVar 2) (mNil))) [2]) (mNil)))))) (sRaise0 1) (sNil))
def m_27 : Fm := defM 1 b_27
/-- require_two_words(word, other) -/
def b_28 : SM :=
  sSeq (sExpr (mCall m_26 (mCons (mVar 0) (mNil)))) (sExpr (mCall m_26 (mCons (mVar 1) (mNil))))
def m_28 : Fm := defM 0 b_28
/-- require_bump(value) -/
def b_29 : SM :=
  sIf (mOrT (mNotT (mTest (mCall m_4 (mCons (mVar 0) (mNil))))) (mNotT (mTest (mCall m_22 (mCons (mVar 0) (mNil)))))) (sRaise0 0) (sNil)
def m_29 : Fm := defM 0 b_29
/-- is_above(word, other) -/
def b_30 : SM :=
  sSeq (sExpr (mCall m_28 (mCons (mVar 0) (mCons (mVar 1) (mNil))))) (sRet (mBin (cmpD gtC) (mCall m_9 (mCons (mVar 0) (mCons (mVar 1) (mNil)))) (mC (.int 0))))
def m_30 : Fm := defM 0 b_30
/-- compared(word, other) -/
def b_31 : SM :=
  sSeq (sExpr (mCall m_28 (mCons (mVar 0) (mCons (mVar 1) (mNil))))) (sRet (mCall m_9 (mCons (mVar 0) (mCons (mVar 1) (mNil)))))
def m_31 : Fm := defM 0 b_31
/-- rank_of(word, words, one) -/
def b_32 : SM :=
  sSeq (sExpr (mCall m_27 (mCons (mVar 0) (mCons (mVar 1) (mNil))))) (sRet (mBlt lenD (mCons (mLc (mIter (mVar 1)) (tName 2) (mTest (mBin (cmpD ltC) (mCall m_9 (mCons (mVar 2) (mCons (mVar 0) (mNil)))) (mC (.int 0)))) (mVar 2) [2]) (mNil))))
def m_32 : Fm := defM 1 b_32
/-- shift_of(word, i) -/
def b_33 : SM :=
  sSeq (sExpr (mCall m_26 (mCons (mVar 0) (mNil)))) (sSeq (sExpr (mCall m_3 (mCons (mVar 1) (mCons (mC (.int 0)) (mCons (mBin subD (mBlt lenD (mCons (mVar 0) (mNil))) (mC (.int 1))) (mNil)))))) (sRet (mCall m_10 (mCons (mVar 0) (mCons (mVar 1) (mNil))))))
def m_33 : Fm := defM 0 b_33
/-- shifts_of(word) -/
def b_34 : SM :=
  sSeq (sExpr (mCall m_26 (mCons (mVar 0) (mNil)))) (sRet (mBlt tupleD (mCons (mCall m_11 (mCons (mVar 0) (mNil))) (mNil))))
def m_34 : Fm := defM 0 b_34
/-- shift_order(word) -/
def b_35 : SM :=
  sSeq (sExpr (mCall m_26 (mCons (mVar 0) (mNil)))) (sRet (mBlt tupleD (mCons (mCall m_12 (mCons (mVar 0) (mNil))) (mNil))))
def m_35 : Fm := defM 0 b_35
/-- is_greatest(word) -/
def b_36 : SM :=
  sSeq (sExpr (mCall m_26 (mCons (mVar 0) (mNil)))) (sRet (mCall m_14 (mCons (mVar 0) (mNil))))
def m_36 : Fm := defM 0 b_36
/-- greatest_answer(word) -/
def b_37 : SM :=
  sSeq (sExpr (mCall m_26 (mCons (mVar 0) (mNil)))) (sRet (mCall m_15 (mCons (mVar 0) (mNil))))
def m_37 : Fm := defM 0 b_37
/-- is_beaten_paper(word, value) -/
def b_38 : SM :=
  sSeq (sExpr (mCall m_26 (mCons (mVar 0) (mNil)))) (sRet (mCall m_16 (mCons (mVar 0) (mCons (mVar 1) (mNil)))))
def m_38 : Fm := defM 0 b_38
/-- greatest_shift(word) -/
def b_39 : SM :=
  sSeq (sExpr (mCall m_26 (mCons (mVar 0) (mNil)))) (sRet (mBin itemD (mCall m_12 (mCons (mVar 0) (mNil))) (mUn negD (mC (.int 1)))))
def m_39 : Fm := defM 0 b_39
/-- greatest_words(n) -/
def b_40 : SM :=
  sSeq (sExpr (mCall m_3 (mCons (mVar 0) (mCons (mC (.int 1)) (mCons (mC (.int (14))) (mNil)))))) (sRet (mBlt tupleD (mCons (mCall m_18 (mCons (mVar 0) (mNil))) (mNil))))
def m_40 : Fm := defM 0 b_40
/-- count_greatest(n) -/
def b_41 : SM :=
  sSeq (sExpr (mCall m_3 (mCons (mVar 0) (mCons (mC (.int 1)) (mCons (mC (.int (200))) (mNil)))))) (sRet (mCall m_20 (mCons (mVar 0) (mNil))))
def m_41 : Fm := defM 0 b_41
/-- top_of(bump) -/
def b_42 : SM :=
  sSeq (sExpr (mCall m_29 (mCons (mVar 0) (mNil)))) (sRet (mCall m_23 (mCons (mVar 0) (mNil))))
def m_42 : Fm := defM 0 b_42
/-- word_of(bump) -/
def b_43 : SM :=
  sSeq (sExpr (mCall m_29 (mCons (mVar 0) (mNil)))) (sSeq (sIf (mNotT (mTest (mCall m_6 (mCons (mVar 0) (mNil))))) (sRaise1 4 (mTup (mCons (mC (.str ("unlike" : Str))) (mNil)))) (sNil)) (sRet (mCall m_24 (mCons (mVar 0) (mNil)))))
def m_43 : Fm := defM 0 b_43
/-- round_of(word) -/
def b_44 : SM :=
  sSeq (sExpr (mCall m_26 (mCons (mVar 0) (mNil)))) (sSeq (sIf (mNotT (mTest (mCall m_14 (mCons (mVar 0) (mNil))))) (sRaise1 4 (mTup (mCons (mC (.str ("unlike" : Str))) (mNil)))) (sNil)) (sSeq (sIf (mTest (mBin (cmpD gtC) (mBlt lenD (mCons (mVar 0) (mNil))) (mC (.int (10))))) (sRaise1 3 (mC (.int (10)))) (sNil)) (sRet (mCall m_25 (mCons (mVar 0) (mNil))))))
def m_44 : Fm := defM 0 b_44
/-- evenness(word) -/
def b_45 : SM :=
  sSeq (sExpr (mCall m_26 (mCons (mVar 0) (mNil)))) (sRet (mCall m_21 (mCons (mVar 0) (mNil))))
def m_45 : Fm := defM 0 b_45
/-- _law_dice(script, spot, cell, left) -/
def b_46 : SM :=
  sSeq (sSet 2 (mIf (mTest (mBin (cmpD ltC) (mVar 1) (mBlt lenD (mCons (mVar 0) (mNil))))) (mBlt toIntD (mCons (mBin itemD (mVar 0) (mVar 1)) (mNil))) (mBin addD (mBin mulD (mC (.int 97)) (mVar 1)) (mC (.int 43))))) (sSeq (sSet 3 (mBin modD (mBlt max2D (mCons (mC (.int 0)) (mCons (mBin subD (mBlt absD (mCons (mVar 2) (mNil))) (mBin powD (mC (.int 10)) (mC (.int 17)))) (mNil)))) (mBin mulD (mBin powD (mC (.int 10)) (mC (.int 60))) (mBin powD (mC (.int 10)) (mC (.int 60)))))) (sRet (mLst (mCons (mVar 3) (mCons (mBin addD (mBin addD (mBin addD (mBin mulD (mBin modD (mBlt absD (mCons (mVar 2) (mNil))) (mC (.int 1152921504606846737))) (mC (.int 37))) (mBin mulD (mC (.int 859)) (mVar 1))) (mBin mulD (mC (.int 31)) (mBlt toIntD (mCons (mBin (cmpD ltC) (mVar 2) (mC (.int 0))) (mNil))))) (mC (.int 17))) (mCons (mC (.int 0)) (mNil)))))))
def m_46 : Fm := defM 2 b_46
/-- _law_roll(dice, total, found, one, two) -/
def b_47 : SM :=
  sSeq (sIf (mTest (mBin (cmpD gtC) (mBin itemD (mVar 0) (mC (.int 0))) (mC (.int 0)))) (sSeq (sSet 2 (mBin modD (mBlt toIntD (mCons (mBin itemD (mVar 0) (mC (.int 0))) (mNil))) (mVar 1))) (sSeq (sAsg (mBin fdivD (mBin itemD (mVar 0) (mC (.int 0))) (mVar 1)) (tSub (mVar 0) (mC (.int 0)))) (sRet (mVar 2)))) (sNil)) (sSeq (sAsg (mBin addD (mBin itemD (mVar 0) (mC (.int 2))) (mC (.int 1))) (tSub (mVar 0) (mC (.int 2)))) (sSeq (sSet 3 (mBin modD (mBlt toIntD (mCons (mBin addD (mBin itemD (mVar 0) (mC (.int 1))) (mBin mulD (mC (.int 15486209)) (mBin itemD (mVar 0) (mC (.int 2))))) (mNil))) (mC (.int 2305843009213693951)))) (sSeq (sSet 4 (mBin addD (mBin mulD (mBin modD (mBlt toIntD (mCons (mBin addD (mBin mulD (mVar 3) (mVar 3)) (mBin mulD (mC (.int 199)) (mBin itemD (mVar 0) (mC (.int 2))))) (mNil))) (mC (.int 2305843009213693907))) (mC (.int 7368751))) (mVar 3))) (sRet (mBin modD (mBlt toIntD (mCons (mBin fdivD (mVar 4) (mC (.int 65536))) (mNil))) (mVar 1))))))
def m_47 : Fm := defM 3 b_47
/-- _law_pick(dice, items) -/
def b_48 : SM :=
  sRet (mBin itemD (mVar 1) (mCall m_47 (mCons (mVar 0) (mCons (mBlt lenD (mCons (mVar 1) (mNil))) (mNil)))))
def m_48 : Fm := defM 0 b_48
/-- _law_word_of_error(call, error) -/
def bL_49 (th : Store → R D) : SM :=
  sSeq (sTry (sExpr (mAct 0 th)) [⟨t_1, none, fun x => sRet (mC (.str ("word" : Str)))⟩, ⟨t_0, none, fun x => sRet (mC (.str ("line" : Str)))⟩, ⟨t_2, some 1, fun x => sRet (mBin addD (mC (.str ("number " : Str))) (mBlt reprUD (mCons (mXv 1 2 x) (mNil))))⟩, ⟨t_4, some 1, fun x => sRet (mXv 1 4 x)⟩, ⟨t_3, some 1, fun x => sRet (mBin addD (mC (.str ("many " : Str))) (mBlt reprUD (mCons (mXv 1 3 x) (mNil))))⟩]) (sRet (mC (.str ("fine" : Str))))
def mL_49 : Lm := defL 1 bL_49
def tb_0 : List (Nat × Nat × Fm) := [(34, 1, m_34), (35, 1, m_35), (36, 1, m_36), (37, 1, m_37), (39, 1, m_39), (45, 1, m_45)]
def tb_1 : List (Nat × Nat × Fm) := [(30, 2, m_30), (31, 2, m_31), (32, 2, m_32)]
/-- _law_words(word, other, i, found, call) -/
def b_50 : SM :=
  sSeq (sSet 3 (mLst (mNil))) (sSeq (sFor (mIter (mTup (mCons (mC (.fn 34)) (mCons (mC (.fn 35)) (mCons (mC (.fn 36)) (mCons (mC (.fn 37)) (mCons (mC (.fn 39)) (mCons (mC (.fn 45)) (mNil))))))))) (tName 4) (sExpr (mMth appendD (mVar 3) (mCons (mLam mL_49 (mCallV 4 tb_0 (mCons (mVar 0) (mNil)))) (mNil))))) (sSeq (sFor (mIter (mTup (mCons (mC (.fn 30)) (mCons (mC (.fn 31)) (mCons (mC (.fn 32)) (mNil)))))) (tName 4) (sExpr (mMth appendD (mVar 3) (mCons (mLam mL_49 (mCallV 4 tb_1 (mCons (mVar 0) (mCons (mVar 1) (mNil))))) (mNil))))) (sSeq (sExpr (mMth appendD (mVar 3) (mCons (mLam mL_49 (mCall m_38 (mCons (mVar 0) (mCons (mC .non) (mNil))))) (mNil)))) (sRet (mBin addD (mVar 3) (mLst (mCons (mLam mL_49 (mCall m_33 (mCons (mVar 0) (mCons (mVar 2) (mNil))))) (mNil))))))))
def m_50 : Fm := defM 2 b_50
def tb_2 : List (Nat × Nat × Fm) := [(42, 1, m_42), (43, 1, m_43)]
/-- _law_right(dice, no, i, word, some, told, line, call, n, far) -/
def b_51 : SM :=
  sSeq (sSet 1 (mLst (mCons (mC .non) (mCons (mC (.int 0)) (mCons (mC (.str ("" : Str))) (mCons (mC (.str ("l" : Str))) (mCons (mC (.str ("cr" : Str))) (mCons (mC (.str ("rlcc" : Str))) (mCons (mC (.str ("RC" : Str))) (mCons (mC (.str ("r c" : Str))) (mCons (mTup (mCons (mC (.str ("r" : Str))) (mCons (mC (.str ("c" : Str))) (mNil)))) (mCons (mLstK (mCons (mC (.str ("rc" : Str))) (mNil))) (mCons (mEdc) (mCons (mBin addD (mBin mulS (mC (.str ("l" : Str))) (mC (.int 24))) (mC (.str ("c" : Str)))) (mCons (mC (.str ("clc" : Str))) (mCons (mC (.str ("rxc" : Str))) (mCons (mC (.bl true)) (mNil)))))))))))))))))) (sSeq (sSet 1 (mCall m_48 (mCons (mVar 0) (mCons (mVar 1) (mNil))))) (sSeq (sSet 2 (mCall m_48 (mCons (mVar 0) (mCons (mLst (mCons (mC .non) (mCons (mUn negD (mC (.int 1))) (mCons (mC (.int 3)) (mCons (mC (.bl true)) (mCons (mC (.str ("1" : Str))) (mCons (mTup (mCons (mC (.int 1)) (mNil))) (mCons (mBin powD (mC (.int 10)) (mC (.int 60))) (mNil))))))))) (mNil))))) (sSeq (sIf (mTest (mBin (cmpD neC) (mCall m_50 (mCons (mVar 1) (mCons (mVar 1) (mCons (mVar 2) (mNil))))) (mBin mulD (mLst (mCons (mC (.str ("word" : Str))) (mNil))) (mC (.int 11))))) (sRet (mC (.bl false))) (sNil)) (sSeq (sSet 3 (mBin addD (mC (.str ("number " : Str))) (mBlt reprUD (mCons (mVar 2) (mNil))))) (sSeq (sIf (mTest (mBin (cmpD neC) (mCall m_50 (mCons (mC (.str ("rlc" : Str))) (mCons (mVar 1) (mCons (mVar 2) (mNil))))) (mBin addD (mBin addD (mBin mulD (mLst (mCons (mC (.str ("fine" : Str))) (mNil))) (mC (.int 6))) (mBin mulD (mLst (mCons (mC (.str ("word" : Str))) (mNil))) (mC (.int 3)))) (mLst (mCons (mC (.str ("fine" : Str))) (mCons (mVar 3) (mNil))))))) (sRet (mC (.bl false))) (sNil)) (sSeq (sSet 4 (mCall m_48 (mCons (mVar 0) (mCons (mLst (mCons (mTup (mCons (mVar 1) (mNil))) (mCons (mTup (mCons (mC (.str ("rc" : Str))) (mCons (mVar 1) (mNil)))) (mCons (mLstK (mCons (mC (.str ("rc" : Str))) (mNil))) (mCons (mC .non) (mCons (mC (.str ("rc" : Str))) (mCons (mC (.int 0)) (mCons (mEdc) (mNil))))))))) (mNil))))) (sSeq (sSet 5 (mLst (mCons (mLam mL_49 (mCall m_32 (mCons (mC (.str ("rc" : Str))) (mCons (mVar 4) (mNil))))) (mNil)))) (sSeq (sSet 5 (mBin addD (mVar 5) (mLst (mCons (mLam mL_49 (mCall m_44 (mCons (mVar 1) (mNil)))) (mNil))))) (sSeq (sSet 6 (mLst (mCons (mC .non) (mCons (mC (.int 0)) (mCons (mTup (mNil)) (mCons (mTup (mCons (mC (.int 0)) (mCons (mC (.int 1)) (mNil)))) (mCons (mTup (mCons (mC (.int 1)) (mCons (mC (.int 0)) (mNil)))) (mCons (mTup (mCons (mC (.int 0)) (mNil))) (mCons (mTup (mCons (mC (.int 1)) (mCons (mC (.int 1)) (mCons (mC (.int 0)) (mNil))))) (mCons (mTup (mCons (mC (.int 0)) (mCons (mC (.int 1)) (mCons (mC (.int 1)) (mNil))))) (mCons (mTup (mCons (mC (.int 2)) (mCons (mC (.int 1)) (mCons (mC (.int 0)) (mNil))))) (mCons (mTup (mCons (mC (.int 0)) (mCons (mC (.int 1)) (mCons (mC (.int 2)) (mNil))))) (mCons (mLstK (mCons (mC (.int 0)) (mCons (mC (.int 1)) (mCons (mC (.int 0)) (mNil))))) (mCons (mTup (mCons (mC (.int 0)) (mCons (mC (.bl true)) (mCons (mC (.int 0)) (mNil))))) (mCons (mEdc) (mNil)))))))))))))))) (sSeq (sSet 6 (mCall m_48 (mCons (mVar 0) (mCons (mBin addD (mVar 6) (mLst (mCons (mC (.str ("010" : Str))) (mNil)))) (mNil))))) (sSeq (sSet 5 (mBin addD (mVar 5) (mLc (mIter (mTup (mCons (mC (.fn 42)) (mCons (mC (.fn 43)) (mNil))))) (tName 7) (mYes) (mLam mL_49 (mCallV 7 tb_2 (mCons (mVar 6) (mNil)))) [7]))) (sSeq (sSet 8 (mCall m_48 (mCons (mVar 0) (mCons (mLst (mCons (mC .non) (mCons (mC (.int 0)) (mCons (mUn negD (mC (.int 1))) (mCons (mC (.int 15)) (mCons (mC (.bl true)) (mCons (mC (.str ("1" : Str))) (mCons (mTup (mCons (mC (.int 1)) (mNil))) (mCons (mBin powD (mC (.int 10)) (mC (.int 60))) (mNil)))))))))) (mNil))))) (sSeq (sSet 9 (mCall m_48 (mCons (mVar 0) (mCons (mLst (mCons (mC .non) (mCons (mC (.int 0)) (mCons (mUn negD (mC (.int 1))) (mCons (mC (.int 201)) (mCons (mC (.bl true)) (mCons (mC (.str ("1" : Str))) (mCons (mTup (mCons (mC (.int 1)) (mNil))) (mCons (mBin powD (mC (.int 10)) (mC (.int 60))) (mNil)))))))))) (mNil))))) (sSeq (sSet 5 (mBin addD (mVar 5) (mLst (mCons (mLam mL_49 (mCall m_40 (mCons (mVar 8) (mNil)))) (mNil))))) (sSeq (sSet 5 (mBin addD (mVar 5) (mLst (mCons (mLam mL_49 (mCall m_41 (mCons (mVar 9) (mNil)))) (mNil))))) (sRet (mBin (cmpD eqC) (mVar 5) (mBin addD (mBin addD (mBin mulD (mLst (mCons (mC (.str ("word" : Str))) (mNil))) (mC (.int 2))) (mBin mulD (mLst (mCons (mC (.str ("line" : Str))) (mNil))) (mC (.int 2)))) (mLst (mCons (mBin addD (mC (.str ("number " : Str))) (mBlt reprUD (mCons (mVar 8) (mNil)))) (mCons (mBin addD (mC (.str ("number " : Str))) (mBlt reprUD (mCons (mVar 9) (mNil)))) (mNil))))))))))))))))))))))
def m_51 : Fm := defM 9 b_51
/-- law(script, spot, dice, turn, some, told, word, line) -/
def b_52 : SM :=
  sSeq (sFor (mRng (mCons (mBlt max2D (mCons (mC (.int 1)) (mCons (mBlt min2D (mCons (mC (.int 5)) (mCons (mBlt lenD (mCons (mVar 0) (mNil))) (mNil)))) (mNil)))) (mNil))) (tName 1) (sSeq (sSet 2 (mCall m_46 (mCons (mVar 0) (mCons (mVar 1) (mNil))))) (sFor (mRng (mCons (mC (.int 3)) (mNil))) (tName 3) (sIf (mNotT (mTest (mCall m_51 (mCons (mVar 2) (mNil))))) (sRet (mC (.bl false))) (sNil))))) (sSeq (sSet 4 (mLst (mCons (mC (.str ("lrc" : Str))) (mCons (mBin addD (mBin addD (mC (.str ("r" : Str))) (mBin mulS (mC (.str ("l" : Str))) (mC (.int 8)))) (mC (.str ("c" : Str)))) (mCons (mBin addD (mBin addD (mC (.str ("r" : Str))) (mBin mulS (mC (.str ("l" : Str))) (mC (.int 9)))) (mC (.str ("c" : Str)))) (mCons (mBin addD (mBin mulS (mC (.str ("l" : Str))) (mC (.int 12))) (mC (.str ("c" : Str)))) (mNil))))))) (sSeq (sSet 5 (mLc (mIter (mVar 4)) (tName 6) (mYes) (mLam mL_49 (mCall m_44 (mCons (mVar 6) (mNil)))) [6])) (sSeq (sSet 5 (mBin addD (mVar 5) (mLc (mIter (mTup (mCons (mTup (mCons (mC (.int 0)) (mCons (mC (.int 2)) (mCons (mC (.int 0)) (mNil))))) (mCons (mTup (mCons (mC (.int 1)) (mCons (mC (.int 2)) (mCons (mC (.int 0)) (mNil))))) (mNil))))) (tName 7) (mYes) (mLam mL_49 (mCall m_43 (mCons (mVar 7) (mNil)))) [7]))) (sSeq (sExpr (mMth appendD (mVar 5) (mCons (mLam mL_49 (mCall m_32 (mCons (mC (.str ("rc" : Str))) (mCons (mTup (mNil)) (mNil))))) (mNil)))) (sRet (mBin (cmpD eqC) (mVar 5) (mLst (mCons (mTup (mCons (mC (.str ("unlike" : Str))) (mNil))) (mCons (mC (.str ("fine" : Str))) (mCons (mC (.str ("many 10" : Str))) (mCons (mTup (mCons (mC (.str ("unlike" : Str))) (mNil))) (mCons (mTup (mCons (mC (.str ("unlike" : Str))) (mNil))) (mCons (mC (.str ("fine" : Str))) (mCons (mC (.str ("fine" : Str))) (mNil)))))))))))))))
def m_52 : Fm := defM 7 b_52
end Law

namespace Law
open PySem PySem.Spec L2 DM
def A1 : List D := [.non, .int 0, .str ("" : Str), .str ("l" : Str), .str ("cr" : Str), .str ("rlcc" : Str), .str ("RC" : Str), .str ("r c" : Str), .tup [.str ("r" : Str), .str ("c" : Str)], .lst [.str ("rc" : Str)], .edc, .str ("llllllllllllllllllllllllc" : Str), .str ("clc" : Str), .str ("rxc" : Str), .bl true]
def A2 : List D := [.non, .int (-1), .int 3, .bl true, .str ("1" : Str), .tup [.int 1], .int 1000000000000000000000000000000000000000000000000000000000000]
def A3 (v1 : D) : List D := [.tup [v1], .tup [.str ("rc" : Str), v1], .lst [.str ("rc" : Str)], .non, .str ("rc" : Str), .int 0, .edc]
def A4 : List D := [.non, .int 0, .tup [], .tup [.int 0, .int 1], .tup [.int 1, .int 0], .tup [.int 0], .tup [.int 1, .int 1, .int 0], .tup [.int 0, .int 1, .int 1], .tup [.int 2, .int 1, .int 0], .tup [.int 0, .int 1, .int 2], .lst [.int 0, .int 1, .int 0], .tup [.int 0, .bl true, .int 0], .edc]
def A5 : List D := [.str ("010" : Str)]
def A6 : List D := [.non, .int 0, .tup [], .tup [.int 0, .int 1], .tup [.int 1, .int 0], .tup [.int 0], .tup [.int 1, .int 1, .int 0], .tup [.int 0, .int 1, .int 1], .tup [.int 2, .int 1, .int 0], .tup [.int 0, .int 1, .int 2], .lst [.int 0, .int 1, .int 0], .tup [.int 0, .bl true, .int 0], .edc, .str ("010" : Str)]
def A7 : List D := [.non, .int 0, .int (-1), .int 15, .bl true, .str ("1" : Str), .tup [.int 1], .int 1000000000000000000000000000000000000000000000000000000000000]
def A8 : List D := [.non, .int 0, .int (-1), .int 201, .bl true, .str ("1" : Str), .tup [.int 1], .int 1000000000000000000000000000000000000000000000000000000000000]
def A9 : List D := [.str ("lrc" : Str), .str ("rllllllllc" : Str), .str ("rlllllllllc" : Str), .str ("llllllllllllc" : Str)]
theorem met_fine {th : Store → R D} {S : Store} (h : ∃ d, th S = .ok d S) (n1 : noS kL S = true) (_n2 : noS kX S = true) : mL_49 th S = .ok (.str "fine") S := by
  obtain ⟨d, e⟩ := h
  exact metL_fine (hs := _) (fw := "fine") (l := 1) e n1
theorem met_1 {th : Store → R D} {S : Store} (h : th S = .exc ⟨1, none⟩ S) (n1 : noS kL S = true) (_n2 : noS kX S = true) : mL_49 th S = .ok (.str ("word" : Str)) S :=
  metL_exc (fw := "fine") (l := 1) h n1 (tryH_take0 rfl rfl rfl) rfl
theorem met_0 {th : Store → R D} {S : Store} (h : th S = .exc ⟨0, none⟩ S) (n1 : noS kL S = true) (_n2 : noS kX S = true) : mL_49 th S = .ok (.str ("line" : Str)) S :=
  metL_exc (fw := "fine") (l := 1) h n1 (tryH_skip rfl (tryH_take0 rfl rfl rfl)) rfl
theorem met_2 {th : Store → R D} {S : Store} {v : D} (r : Rp v) (h : th S = .exc ⟨2, some v⟩ S) (n1 : noS kL S = true) (n2 : noS kX S = true) : mL_49 th S = .ok (.str (("number " : Str) ++ rpS v)) S :=
  metL_exc (fw := "fine") (l := 1) h n1 (tryH_skip rfl (tryH_skip rfl (tryH_take1 rfl rfl (suR rfl r (by decide)) rfl n2))) rfl
theorem met_4 {th : Store → R D} {S : Store} {s : Str} (h : th S = .exc ⟨4, some (.tup [.str s])⟩ S) (n1 : noS kL S = true) (n2 : noS kX S = true) : mL_49 th S = .ok (.tup [.str s]) S :=
  metL_exc (fw := "fine") (l := 1) h n1 (tryH_skip rfl (tryH_skip rfl (tryH_skip rfl (tryH_take1 rfl rfl (suV (i := 1) (c := 4) (ρ := (some (.fn kL) :: List.replicate 1 none).set 1 (some (.fn kX))) rfl) rfl n2)))) rfl
theorem met_3 {th : Store → R D} {S : Store} {v : D} (r : Rp v) (h : th S = .exc ⟨3, some v⟩ S) (n1 : noS kL S = true) (n2 : noS kX S = true) : mL_49 th S = .ok (.str (("many " : Str) ++ rpS v)) S :=
  metL_exc (fw := "fine") (l := 1) h n1 (tryH_skip rfl (tryH_skip rfl (tryH_skip rfl (tryH_skip rfl (tryH_take1 rfl rfl (suR rfl r (by decide)) rfl n2))))) rfl
theorem rp_A2 : ∀ a ∈ A2, Rp a := by
  intro a ha
  simp only [A2, List.mem_cons, List.not_mem_nil, or_false] at ha
  rcases ha with rfl | rfl | rfl | rfl | rfl | rfl | rfl <;> exact ⟨fun S => by kernel_rfl, by decide +kernel, by decide +kernel⟩
theorem rp_A7 : ∀ a ∈ A7, Rp a := by
  intro a ha
  simp only [A7, List.mem_cons, List.not_mem_nil, or_false] at ha
  rcases ha with rfl | rfl | rfl | rfl | rfl | rfl | rfl | rfl <;> exact ⟨fun S => by kernel_rfl, by decide +kernel, by decide +kernel⟩
theorem rp_A8 : ∀ a ∈ A8, Rp a := by
  intro a ha
  simp only [A8, List.mem_cons, List.not_mem_nil, or_false] at ha
  rcases ha with rfl | rfl | rfl | rfl | rfl | rfl | rfl | rfl <;> exact ⟨fun S => by kernel_rfl, by decide +kernel, by decide +kernel⟩
theorem rpc_3 : Rp (.int 10) := ⟨fun S => by kernel_rfl, by decide +kernel, by decide +kernel⟩
theorem q1 : (A1.all fun v1 => isExc 1 (callD m_45 [v1] [])) = true := by decide +kernel
theorem q2 : (A1.all fun v1 => isExc 1 (callD m_39 [v1] [])) = true := by decide +kernel
theorem q3 : (A1.all fun v1 => isExc 1 (callD m_37 [v1] [])) = true := by decide +kernel
theorem q4 : (A1.all fun v1 => isExc 1 (callD m_36 [v1] [])) = true := by decide +kernel
theorem q5 : (A1.all fun v1 => isExc 1 (callD m_35 [v1] [])) = true := by decide +kernel
theorem q6 : (A1.all fun v1 => isExc 1 (callD m_34 [v1] [])) = true := by decide +kernel
theorem q7 : (A1.all fun v1 => isExc 1 (callD m_32 [v1, v1] [])) = true := by decide +kernel
theorem q8 : (A1.all fun v1 => isExc 1 (callD m_31 [v1, v1] [])) = true := by decide +kernel
theorem q9 : (A1.all fun v1 => isExc 1 (callD m_30 [v1, v1] [])) = true := by decide +kernel
theorem q10 : (A1.all fun v1 => isExc 1 (callD m_38 [v1, .non] [])) = true := by decide +kernel
theorem q11 : (A1.all fun v1 => A2.all fun v2 => isExc 1 (callD m_33 [v1, v2] [])) = true := by decide +kernel
set_option maxHeartbeats 0 in
theorem g1 (v1 : D) (hv1 : v1 ∈ A1) (cv1 : cleanD v1 = true) (v2 : D) (hv2 : v2 ∈ A2) (cv2 : cleanD v2 = true) (S : Store) : callD m_50 [v1, v1, v2] S = .ok (.ref S.length) (S ++ [.lst [.str (("word" : Str)), .str (("word" : Str)), .str (("word" : Str)), .str (("word" : Str)), .str (("word" : Str)), .str (("word" : Str)), .str (("word" : Str)), .str (("word" : Str)), .str (("word" : Str)), .str (("word" : Str)), .str (("word" : Str))]]) := words_of (b := b_50) (k := 2) (ds := [v1, v1, v2]) (ws := [("word" : Str), ("word" : Str), ("word" : Str), ("word" : Str), ("word" : Str), ("word" : Str), ("word" : Str), ("word" : Str), ("word" : Str), ("word" : Str), ("word" : Str)]) rfl (cleanAll_cons cv1 (cleanAll_cons cv1 (cleanAll_cons cv2 (rfl)))) (by
  unfold b_50
  show RW _ [some (v1), some (v1), some (v2), none, none] [] _
  have K0 : KG [] := ⟨rfl, rfl⟩
  refine RW.setL (x := []) (mLst_ok (rfl) (Nat.le_of_ble_eq_true rfl)) gl (KG.app K0 rfl rfl) fun S1 P1 K1 hl1 => ?_
  show RW _ [some (v1), some (v1), some (v2), some (.ref P1), none] S1 _
  refine RW.forA (xs := []) (ys := [.str (("word" : Str)), .str (("word" : Str)), .str (("word" : Str)), .str (("word" : Str)), .str (("word" : Str)), .str (("word" : Str))]) (c := none) rfl (by decide) (.cons (fun S n1 n2 => (mLam_ok (met_1 (mCallV_ok rfl rfl (mCons_ok rfl (rfl)) rfl (exc_all (cleanAll_cons cv1 (rfl)) (tab1 q6 v1 hv1) _)) n1 n2))) rfl rfl (.cons (fun S n1 n2 => (mLam_ok (met_1 (mCallV_ok rfl rfl (mCons_ok rfl (rfl)) rfl (exc_all (cleanAll_cons cv1 (rfl)) (tab1 q5 v1 hv1) _)) n1 n2))) rfl rfl (.cons (fun S n1 n2 => (mLam_ok (met_1 (mCallV_ok rfl rfl (mCons_ok rfl (rfl)) rfl (exc_all (cleanAll_cons cv1 (rfl)) (tab1 q4 v1 hv1) _)) n1 n2))) rfl rfl (.cons (fun S n1 n2 => (mLam_ok (met_1 (mCallV_ok rfl rfl (mCons_ok rfl (rfl)) rfl (exc_all (cleanAll_cons cv1 (rfl)) (tab1 q3 v1 hv1) _)) n1 n2))) rfl rfl (.cons (fun S n1 n2 => (mLam_ok (met_1 (mCallV_ok rfl rfl (mCons_ok rfl (rfl)) rfl (exc_all (cleanAll_cons cv1 (rfl)) (tab1 q2 v1 hv1) _)) n1 n2))) rfl rfl (.cons (fun S n1 n2 => (mLam_ok (met_1 (mCallV_ok rfl rfl (mCons_ok rfl (rfl)) rfl (exc_all (cleanAll_cons cv1 (rfl)) (tab1 q1 v1 hv1) _)) n1 n2))) rfl rfl (.nil))))))) (by decide) rfl rfl K1 hl1 (Nat.le_of_ble_eq_true rfl) rfl rfl fun S2 c2 K2 hl2 => ?_
  show RW _ [some (v1), some (v1), some (v2), some (.ref P1), c2] S2 _
  refine RW.forA (xs := [.str (("word" : Str)), .str (("word" : Str)), .str (("word" : Str)), .str (("word" : Str)), .str (("word" : Str)), .str (("word" : Str))]) (ys := [.str (("word" : Str)), .str (("word" : Str)), .str (("word" : Str))]) (c := c2) rfl (by decide) (.cons (fun S n1 n2 => (mLam_ok (met_1 (mCallV_ok rfl rfl (mCons_ok rfl (mCons_ok rfl (rfl))) rfl (exc_all (cleanAll_cons cv1 (cleanAll_cons cv1 (rfl))) (tab1 q9 v1 hv1) _)) n1 n2))) rfl rfl (.cons (fun S n1 n2 => (mLam_ok (met_1 (mCallV_ok rfl rfl (mCons_ok rfl (mCons_ok rfl (rfl))) rfl (exc_all (cleanAll_cons cv1 (cleanAll_cons cv1 (rfl))) (tab1 q8 v1 hv1) _)) n1 n2))) rfl rfl (.cons (fun S n1 n2 => (mLam_ok (met_1 (mCallV_ok rfl rfl (mCons_ok rfl (mCons_ok rfl (rfl))) rfl (exc_all (cleanAll_cons cv1 (cleanAll_cons cv1 (rfl))) (tab1 q7 v1 hv1) _)) n1 n2))) rfl rfl (.nil)))) (by decide) rfl rfl K2 hl2 (Nat.le_of_ble_eq_true rfl) rfl rfl fun S3 c3 K3 hl3 => ?_
  show RW _ [some (v1), some (v1), some (v2), some (.ref P1), c3] S3 _
  refine RW.appL (xs := [.str (("word" : Str)), .str (("word" : Str)), .str (("word" : Str)), .str (("word" : Str)), .str (("word" : Str)), .str (("word" : Str)), .str (("word" : Str)), .str (("word" : Str)), .str (("word" : Str))]) (y := .str (("word" : Str))) rfl ((mLam_ok (met_1 (mCall_ok (mCons_ok rfl (mCons_ok (x := .non) rfl (rfl))) (exc_all (cleanAll_cons cv1 (cleanAll_cons rfl (rfl))) (tab1 q10 v1 hv1) _)) K3.g1 K3.g2))) hl3 (Nat.le_of_ble_eq_true rfl) K3 rfl rfl fun S4 K4 hl4 => ?_
  show RW _ [some (v1), some (v1), some (v2), some (.ref P1), c3] S4 _
  exact RW.ret (mBin_ok (rfl) (mLst_ok (mCons_ok (x := .str (("word" : Str))) ((mLam_ok (met_1 (mCall_ok (mCons_ok rfl (mCons_ok rfl (rfl))) (exc_all (cleanAll_cons cv1 (cleanAll_cons cv2 (rfl))) (tab1 (tab1 q11 v1 hv1) v2 hv2) _)) K4.g1 K4.g2))) (rfl)) (Nat.le_of_ble_eq_true rfl)) (addL_ok (ag hl4) gl (Nat.le_of_ble_eq_true rfl))) gl) S
theorem q12 : (isFine (callD m_45 [.str ("rlc" : Str)] [])) = true := by decide +kernel
theorem q13 : (isFine (callD m_39 [.str ("rlc" : Str)] [])) = true := by decide +kernel
theorem q14 : (isFine (callD m_37 [.str ("rlc" : Str)] [])) = true := by decide +kernel
theorem q15 : (isFine (callD m_36 [.str ("rlc" : Str)] [])) = true := by decide +kernel
theorem q16 : (isFine (callD m_35 [.str ("rlc" : Str)] [])) = true := by decide +kernel
theorem q17 : (isFine (callD m_34 [.str ("rlc" : Str)] [])) = true := by decide +kernel
theorem q18 : (A1.all fun v1 => isExc 1 (callD m_32 [.str ("rlc" : Str), v1] [])) = true := by decide +kernel
theorem q19 : (A1.all fun v1 => isExc 1 (callD m_31 [.str ("rlc" : Str), v1] [])) = true := by decide +kernel
theorem q20 : (A1.all fun v1 => isExc 1 (callD m_30 [.str ("rlc" : Str), v1] [])) = true := by decide +kernel
theorem q21 : (isFine (callD m_38 [.str ("rlc" : Str), .non] [])) = true := by decide +kernel
theorem q22 : (A2.all fun v2 => isExcV 2 (v2) (callD m_33 [.str ("rlc" : Str), v2] [])) = true := by decide +kernel
set_option maxHeartbeats 0 in
theorem g2 (v1 : D) (hv1 : v1 ∈ A1) (cv1 : cleanD v1 = true) (v2 : D) (hv2 : v2 ∈ A2) (cv2 : cleanD v2 = true) (S : Store) : callD m_50 [.str ("rlc" : Str), v1, v2] S = .ok (.ref S.length) (S ++ [.lst [.str (("fine" : Str)), .str (("fine" : Str)), .str (("fine" : Str)), .str (("fine" : Str)), .str (("fine" : Str)), .str (("fine" : Str)), .str (("word" : Str)), .str (("word" : Str)), .str (("word" : Str)), .str (("fine" : Str)), .str (("number " : Str) ++ rpS v2)]]) := words_of (b := b_50) (k := 2) (ds := [.str ("rlc" : Str), v1, v2]) (ws := [("fine" : Str), ("fine" : Str), ("fine" : Str), ("fine" : Str), ("fine" : Str), ("fine" : Str), ("word" : Str), ("word" : Str), ("word" : Str), ("fine" : Str), ("number " : Str) ++ rpS v2]) rfl (cleanAll_cons rfl (cleanAll_cons cv1 (cleanAll_cons cv2 (rfl)))) (by
  unfold b_50
  show RW _ [some (.str ("rlc" : Str)), some (v1), some (v2), none, none] [] _
  have K0 : KG [] := ⟨rfl, rfl⟩
  refine RW.setL (x := []) (mLst_ok (rfl) (Nat.le_of_ble_eq_true rfl)) gl (KG.app K0 rfl rfl) fun S1 P1 K1 hl1 => ?_
  show RW _ [some (.str ("rlc" : Str)), some (v1), some (v2), some (.ref P1), none] S1 _
  refine RW.forA (xs := []) (ys := [.str (("fine" : Str)), .str (("fine" : Str)), .str (("fine" : Str)), .str (("fine" : Str)), .str (("fine" : Str)), .str (("fine" : Str))]) (c := none) rfl (by decide) (.cons (fun S n1 n2 => (mLam_ok (met_fine (mCallV_ex rfl rfl (mCons_ok rfl (rfl)) rfl (fine_all (cleanAll_cons rfl (rfl)) q17 _)) n1 n2))) rfl rfl (.cons (fun S n1 n2 => (mLam_ok (met_fine (mCallV_ex rfl rfl (mCons_ok rfl (rfl)) rfl (fine_all (cleanAll_cons rfl (rfl)) q16 _)) n1 n2))) rfl rfl (.cons (fun S n1 n2 => (mLam_ok (met_fine (mCallV_ex rfl rfl (mCons_ok rfl (rfl)) rfl (fine_all (cleanAll_cons rfl (rfl)) q15 _)) n1 n2))) rfl rfl (.cons (fun S n1 n2 => (mLam_ok (met_fine (mCallV_ex rfl rfl (mCons_ok rfl (rfl)) rfl (fine_all (cleanAll_cons rfl (rfl)) q14 _)) n1 n2))) rfl rfl (.cons (fun S n1 n2 => (mLam_ok (met_fine (mCallV_ex rfl rfl (mCons_ok rfl (rfl)) rfl (fine_all (cleanAll_cons rfl (rfl)) q13 _)) n1 n2))) rfl rfl (.cons (fun S n1 n2 => (mLam_ok (met_fine (mCallV_ex rfl rfl (mCons_ok rfl (rfl)) rfl (fine_all (cleanAll_cons rfl (rfl)) q12 _)) n1 n2))) rfl rfl (.nil))))))) (by decide) rfl rfl K1 hl1 (Nat.le_of_ble_eq_true rfl) rfl rfl fun S2 c2 K2 hl2 => ?_
  show RW _ [some (.str ("rlc" : Str)), some (v1), some (v2), some (.ref P1), c2] S2 _
  refine RW.forA (xs := [.str (("fine" : Str)), .str (("fine" : Str)), .str (("fine" : Str)), .str (("fine" : Str)), .str (("fine" : Str)), .str (("fine" : Str))]) (ys := [.str (("word" : Str)), .str (("word" : Str)), .str (("word" : Str))]) (c := c2) rfl (by decide) (.cons (fun S n1 n2 => (mLam_ok (met_1 (mCallV_ok rfl rfl (mCons_ok rfl (mCons_ok rfl (rfl))) rfl (exc_all (cleanAll_cons rfl (cleanAll_cons cv1 (rfl))) (tab1 q20 v1 hv1) _)) n1 n2))) rfl rfl (.cons (fun S n1 n2 => (mLam_ok (met_1 (mCallV_ok rfl rfl (mCons_ok rfl (mCons_ok rfl (rfl))) rfl (exc_all (cleanAll_cons rfl (cleanAll_cons cv1 (rfl))) (tab1 q19 v1 hv1) _)) n1 n2))) rfl rfl (.cons (fun S n1 n2 => (mLam_ok (met_1 (mCallV_ok rfl rfl (mCons_ok rfl (mCons_ok rfl (rfl))) rfl (exc_all (cleanAll_cons rfl (cleanAll_cons cv1 (rfl))) (tab1 q18 v1 hv1) _)) n1 n2))) rfl rfl (.nil)))) (by decide) rfl rfl K2 hl2 (Nat.le_of_ble_eq_true rfl) rfl rfl fun S3 c3 K3 hl3 => ?_
  show RW _ [some (.str ("rlc" : Str)), some (v1), some (v2), some (.ref P1), c3] S3 _
  refine RW.appL (xs := [.str (("fine" : Str)), .str (("fine" : Str)), .str (("fine" : Str)), .str (("fine" : Str)), .str (("fine" : Str)), .str (("fine" : Str)), .str (("word" : Str)), .str (("word" : Str)), .str (("word" : Str))]) (y := .str (("fine" : Str))) rfl ((mLam_ok (met_fine (mCall_ex (mCons_ok rfl (mCons_ok (x := .non) rfl (rfl))) (fine_all (cleanAll_cons rfl (cleanAll_cons rfl (rfl))) q21 _)) K3.g1 K3.g2))) hl3 (Nat.le_of_ble_eq_true rfl) K3 rfl rfl fun S4 K4 hl4 => ?_
  show RW _ [some (.str ("rlc" : Str)), some (v1), some (v2), some (.ref P1), c3] S4 _
  exact RW.ret (mBin_ok (rfl) (mLst_ok (mCons_ok (x := .str (("number " : Str) ++ rpS v2)) ((mLam_ok (met_2 (rp_A2 v2 hv2) (mCall_ok (mCons_ok rfl (mCons_ok rfl (rfl))) (excV_all (cleanAll_cons rfl (cleanAll_cons cv2 (rfl))) (tab1 q22 v2 hv2) _)) K4.g1 K4.g2))) (rfl)) (Nat.le_of_ble_eq_true rfl)) (addL_ok (ag hl4) gl (Nat.le_of_ble_eq_true rfl))) gl) S
theorem A3_0 : (A1.all fun v1 => cleanAll (A3 v1)) = true := by decide +kernel
theorem A3_1 : (A1.all fun v1 => pureAll (A3 v1)) = true := by decide +kernel
theorem A3_2 : (A1.all fun v1 => noFs kL (A3 v1)) = true := by decide +kernel
theorem A3_3 : (A1.all fun v1 => noFs kX (A3 v1)) = true := by decide +kernel
theorem q23 : (A1.all fun v1 => (A3 v1).all fun v3 => isExc 1 (callD m_32 [.str ("rc" : Str), v3] [])) = true := by decide +kernel
theorem q24 : (A1.all fun v1 => isExc 1 (callD m_44 [v1] [])) = true := by decide +kernel
theorem q25 : (A6.all fun v4 => isExc 0 (callD m_43 [v4] [])) = true := by decide +kernel
theorem q26 : (A6.all fun v4 => isExc 0 (callD m_42 [v4] [])) = true := by decide +kernel
theorem q27 : (A7.all fun v5 => isExcV 2 (v5) (callD m_40 [v5] [])) = true := by decide +kernel
theorem q28 : (A8.all fun v6 => isExcV 2 (v6) (callD m_41 [v6] [])) = true := by decide +kernel
theorem q29 : (isExcV 4 (.tup [.str ("unlike" : Str)]) (callD m_44 [.str ("llllllllllllc" : Str)] [])) = true := by decide +kernel
theorem q30 : (isExcV 3 (.int 10) (callD m_44 [.str ("rlllllllllc" : Str)] [])) = true := by decide +kernel
theorem e31 : (("many " : Str) ++ rpS (.int 10) : Str) = ("many 10" : Str) := by decide +kernel
theorem q32 : (isFine (callD m_44 [.str ("rllllllllc" : Str)] [])) = true := by decide +kernel
theorem q33 : (isExcV 4 (.tup [.str ("unlike" : Str)]) (callD m_44 [.str ("lrc" : Str)] [])) = true := by decide +kernel
theorem q34 : (isFine (callD m_43 [.tup [.int 1, .int 2, .int 0]] [])) = true := by decide +kernel
theorem q35 : (isExcV 4 (.tup [.str ("unlike" : Str)]) (callD m_43 [.tup [.int 0, .int 2, .int 0]] [])) = true := by decide +kernel
theorem q36 : (isFine (callD m_32 [.str ("rc" : Str), .tup []] [])) = true := by decide +kernel
set_option maxHeartbeats 0 in
theorem right_ok : RightOk m_51 6 := right_ofK (b := b_51) (l := 9) rfl fun es n h hn S0 K0 => by
  unfold b_51
  show RT _ [some (.ref 0), none, none, none, none, none, none, none, none, none] S0 _
  refine RT.setL (x := A1) (mLst_same (xs := A1) (by kernel_rfl) (by decide)) gl K0.pos (KS.app K0 rfl rfl) fun S1 P1 K1 hl_no_1 p0_1 tr1 => ?_
  show RT _ [some (.ref 0), some (.ref P1), none, none, none, none, none, none, none, none] S1 _
  refine RT.pickK (ds := A1) rfl rfl (rfl) K1 hl_no_1 p0_1 h (by omega) (by decide) (by decide) rfl rfl rfl rfl fun v1 hv1 cv1 es1 S2 d1 K2 tr2 => ?_
  have hl_no_2 := tr2 _ _ p0_1 hl_no_1
  show RT _ [some (.ref 0), some (v1), none, none, none, none, none, none, none, none] S2 _
  refine RT.pickK (ds := A2) rfl rfl (mLst_same (xs := A2) (by kernel_rfl) (by decide)) (KS.app K2 rfl rfl) gl K2.pos d1 (by omega) (by decide) (by decide) rfl rfl rfl rfl fun v2 hv2 cv2 es2 S3 d2 K3 tr3 => ?_
  show RT _ [some (.ref 0), some (v1), some (v2), none, none, none, none, none, none, none] S3 _
  refine RT.next (sIf_f (mTest_ok (mBin_ok (mCall_ok (mCons_ok rfl (mCons_ok rfl (mCons_ok rfl (rfl)))) (g1 v1 hv1 cv1 v2 hv2 cv2 _)) (mBin_ok (mLst_ok (mCons_ok (x := .str (("word" : Str))) (rfl) (rfl)) (Nat.le_of_ble_eq_true rfl)) rfl (mulL_ok (k := 11) (ys := [.str (("word" : Str)), .str (("word" : Str)), .str (("word" : Str)), .str (("word" : Str)), .str (("word" : Str)), .str (("word" : Str)), .str (("word" : Str)), .str (("word" : Str)), .str (("word" : Str)), .str (("word" : Str)), .str (("word" : Str))]) gl (by decide) (Nat.le_of_ble_eq_true rfl) rfl (Nat.le_of_ble_eq_true rfl))) (ne_strs (ag (ag gl)) gl (.cons (by decide +kernel) (.cons (by decide +kernel) (.cons (by decide +kernel) (.cons (by decide +kernel) (.cons (by decide +kernel) (.cons (by decide +kernel) (.cons (by decide +kernel) (.cons (by decide +kernel) (.cons (by decide +kernel) (.cons (by decide +kernel) (.cons (by decide +kernel) (.nil))))))))))))))) rfl) (KS.app (KS.app (KS.app K3 rfl rfl) rfl rfl) rfl rfl) fun S4 K4 tr4 => ?_
  show RT _ [some (.ref 0), some (v1), some (v2), none, none, none, none, none, none, none] S4 _
  refine RT.seq (sSet_ok (mBin_ok rfl (mBlt_ok (mCons_ok rfl rfl) ((rp_A2 v2 hv2).r _)) ((rp_A2 v2 hv2).add (by decide) _))) ?_
  show RT _ [some (.ref 0), some (v1), some (v2), some (.str (("number " : Str) ++ rpS v2)), none, none, none, none, none, none] S4 _
  refine RT.next (sIf_f (mTest_ok (mBin_ok (mCall_ok (mCons_ok (x := .str ("rlc" : Str)) rfl (mCons_ok rfl (mCons_ok rfl (rfl)))) (g2 v1 hv1 cv1 v2 hv2 cv2 _)) (mBin_ok (mBin_ok (mBin_ok (mLst_ok (mCons_ok (x := .str (("fine" : Str))) (rfl) (rfl)) (Nat.le_of_ble_eq_true rfl)) rfl (mulL_ok (k := 6) (ys := [.str (("fine" : Str)), .str (("fine" : Str)), .str (("fine" : Str)), .str (("fine" : Str)), .str (("fine" : Str)), .str (("fine" : Str))]) gl (by decide) (Nat.le_of_ble_eq_true rfl) rfl (Nat.le_of_ble_eq_true rfl))) (mBin_ok (mLst_ok (mCons_ok (x := .str (("word" : Str))) (rfl) (rfl)) (Nat.le_of_ble_eq_true rfl)) rfl (mulL_ok (k := 3) (ys := [.str (("word" : Str)), .str (("word" : Str)), .str (("word" : Str))]) gl (by decide) (Nat.le_of_ble_eq_true rfl) rfl (Nat.le_of_ble_eq_true rfl))) (addL_ok (ag (ag gl)) gl (Nat.le_of_ble_eq_true rfl))) (mLst_ok (mCons_ok (x := .str (("fine" : Str))) (rfl) (mCons_ok (x := .str (("number " : Str) ++ rpS v2)) (rfl) (rfl))) (Nat.le_of_ble_eq_true rfl)) (addL_ok (ag gl) gl (Nat.le_of_ble_eq_true rfl))) (ne_strs (ag (ag (ag (ag (ag (ag (ag gl))))))) gl (.cons (by decide +kernel) (.cons (by decide +kernel) (.cons (by decide +kernel) (.cons (by decide +kernel) (.cons (by decide +kernel) (.cons (by decide +kernel) (.cons (by decide +kernel) (.cons (by decide +kernel) (.cons (by decide +kernel) (.cons (by decide +kernel) (.cons (strOk_app (by decide +kernel) (rp_A2 v2 hv2).o) (.nil))))))))))))))) rfl) (KS.app (KS.app (KS.app (KS.app (KS.app (KS.app (KS.app (KS.app K4 rfl rfl) rfl rfl) rfl rfl) rfl rfl) rfl rfl) rfl rfl) rfl rfl) rfl rfl) fun S5 K5 tr5 => ?_
  show RT _ [some (.ref 0), some (v1), some (v2), some (.str (("number " : Str) ++ rpS v2)), none, none, none, none, none, none] S5 _
  refine RT.pickK (ds := (A3 v1)) rfl rfl (mLst_same (xs := (A3 v1)) (by kernel_rfl) (Nat.le_of_ble_eq_true rfl)) (KS.app K5 (tab1 A3_2 v1 hv1) (tab1 A3_3 v1 hv1)) gl K5.pos d2 (by omega) (Nat.le_of_ble_eq_true rfl) (Nat.lt_of_lt_of_le (Nat.lt_succ_self _) (Nat.le_of_ble_eq_true rfl)) (tab1 A3_0 v1 hv1) (tab1 A3_1 v1 hv1) (tab1 A3_2 v1 hv1) (tab1 A3_3 v1 hv1) fun v3 hv3 cv3 es3 S6 d3 K6 tr6 => ?_
  show RT _ [some (.ref 0), some (v1), some (v2), some (.str (("number " : Str) ++ rpS v2)), some (v3), none, none, none, none, none] S6 _
  refine RT.setL (x := [.str (("word" : Str))]) (mLst_ok (mCons_ok (x := .str (("word" : Str))) ((mLam_ok (met_1 (mCall_ok (mCons_ok (x := .str ("rc" : Str)) rfl (mCons_ok rfl (rfl))) (exc_all (cleanAll_cons rfl (cleanAll_cons cv3 (rfl))) (tab1 (tab1 q23 v1 hv1) v3 hv3) _)) K6.g1 K6.g2))) (rfl)) (Nat.le_of_ble_eq_true rfl)) gl K6.pos (KS.app K6 rfl rfl) fun S7 P7 K7 hl_told_7 p0_7 tr7 => ?_
  show RT _ [some (.ref 0), some (v1), some (v2), some (.str (("number " : Str) ++ rpS v2)), some (v3), some (.ref P7), none, none, none, none] S7 _
  refine RT.setL (x := [.str (("word" : Str)), .str (("word" : Str))]) (mBin_ok (rfl) (mLst_ok (mCons_ok (x := .str (("word" : Str))) ((mLam_ok (met_1 (mCall_ok (mCons_ok rfl (rfl)) (exc_all (cleanAll_cons cv1 (rfl)) (tab1 q24 v1 hv1) _)) K7.g1 K7.g2))) (rfl)) (Nat.le_of_ble_eq_true rfl)) (addL_ok (ag hl_told_7) gl (Nat.le_of_ble_eq_true rfl))) gl (KS.app K7 rfl rfl).pos (KS.app (KS.app K7 rfl rfl) rfl rfl) fun S8 P8 K8 hl_told_8 p0_8 tr8 => ?_
  show RT _ [some (.ref 0), some (v1), some (v2), some (.str (("number " : Str) ++ rpS v2)), some (v3), some (.ref P8), none, none, none, none] S8 _
  refine RT.setL (x := A4) (mLst_same (xs := A4) (by kernel_rfl) (by decide)) gl K8.pos (KS.app K8 rfl rfl) fun S9 P9 K9 hl_line_9 p0_9 tr9 => ?_
  have hl_told_9 := tr9 _ _ (ag hl_told_8)
  show RT _ [some (.ref 0), some (v1), some (v2), some (.str (("number " : Str) ++ rpS v2)), some (v3), some (.ref P8), some (.ref P9), none, none, none] S9 _
  refine RT.pickK (ds := A6) rfl rfl (mBin_ok (rfl) (mLst_same (xs := A5) (by kernel_rfl) (by decide)) (addL_ok (ag hl_line_9) gl (Nat.le_of_ble_eq_true rfl))) (KS.app (KS.app K9 rfl rfl) rfl rfl) gl (KS.app K9 rfl rfl).pos d3 (by omega) (by decide) (by decide) rfl rfl rfl rfl fun v4 hv4 cv4 es4 S10 d4 K10 tr10 => ?_
  have hl_told_10 := tr10 _ _ p0_8 (ag (ag hl_told_9))
  have hl_line_10 := tr10 _ _ p0_9 (ag (ag hl_line_9))
  show RT _ [some (.ref 0), some (v1), some (v2), some (.str (("number " : Str) ++ rpS v2)), some (v3), some (.ref P8), some (v4), none, none, none] S10 _
  refine RT.setL (x := [.str (("word" : Str)), .str (("word" : Str)), .str (("line" : Str)), .str (("line" : Str))]) (mBin_ok (rfl) (mLc_F rfl (Nat.lt_of_lt_of_le (Nat.lt_succ_self _) (Nat.le_of_ble_eq_true rfl)) (.cons (fun S n1 n2 => ⟨_, rfl, rfl, (mLam_ok (met_0 (mCallV_ok rfl rfl (mCons_ok rfl (rfl)) rfl (exc_all (cleanAll_cons cv4 (rfl)) (tab1 q26 v4 hv4) _)) n1 n2))⟩) rfl rfl (.cons (fun S n1 n2 => ⟨_, rfl, rfl, (mLam_ok (met_0 (mCallV_ok rfl rfl (mCons_ok rfl (rfl)) rfl (exc_all (cleanAll_cons cv4 (rfl)) (tab1 q25 v4 hv4) _)) n1 n2))⟩) rfl rfl (.nil))) K10.g1 K10.g2) (addL_ok (ag hl_told_10) gl (Nat.le_of_ble_eq_true rfl))) gl (KS.app K10 rfl rfl).pos (KS.app (KS.app K10 rfl rfl) rfl rfl) fun S11 P11 K11 hl_told_11 p0_11 tr11 => ?_
  show RT _ [some (.ref 0), some (v1), some (v2), some (.str (("number " : Str) ++ rpS v2)), some (v3), some (.ref P11), some (v4), none, none, none] S11 _
  refine RT.pickK (ds := A7) rfl rfl (mLst_same (xs := A7) (by kernel_rfl) (by decide)) (KS.app K11 rfl rfl) gl K11.pos d4 (by omega) (by decide) (by decide) rfl rfl rfl rfl fun v5 hv5 cv5 es5 S12 d5 K12 tr12 => ?_
  have hl_told_12 := tr12 _ _ p0_11 (ag hl_told_11)
  show RT _ [some (.ref 0), some (v1), some (v2), some (.str (("number " : Str) ++ rpS v2)), some (v3), some (.ref P11), some (v4), none, some (v5), none] S12 _
  refine RT.pickK (ds := A8) rfl rfl (mLst_same (xs := A8) (by kernel_rfl) (by decide)) (KS.app K12 rfl rfl) gl K12.pos d5 (by omega) (by decide) (by decide) rfl rfl rfl rfl fun v6 hv6 cv6 es6 S13 d6 K13 tr13 => ?_
  have hl_told_13 := tr13 _ _ p0_11 (ag hl_told_12)
  show RT _ [some (.ref 0), some (v1), some (v2), some (.str (("number " : Str) ++ rpS v2)), some (v3), some (.ref P11), some (v4), none, some (v5), some (v6)] S13 _
  refine RT.setL (x := [.str (("word" : Str)), .str (("word" : Str)), .str (("line" : Str)), .str (("line" : Str)), .str (("number " : Str) ++ rpS v5)]) (mBin_ok (rfl) (mLst_ok (mCons_ok (x := .str (("number " : Str) ++ rpS v5)) ((mLam_ok (met_2 (rp_A7 v5 hv5) (mCall_ok (mCons_ok rfl (rfl)) (excV_all (cleanAll_cons cv5 (rfl)) (tab1 q27 v5 hv5) _)) K13.g1 K13.g2))) (rfl)) (Nat.le_of_ble_eq_true rfl)) (addL_ok (ag hl_told_13) gl (Nat.le_of_ble_eq_true rfl))) gl (KS.app K13 rfl rfl).pos (KS.app (KS.app K13 rfl rfl) rfl rfl) fun S14 P14 K14 hl_told_14 p0_14 tr14 => ?_
  show RT _ [some (.ref 0), some (v1), some (v2), some (.str (("number " : Str) ++ rpS v2)), some (v3), some (.ref P14), some (v4), none, some (v5), some (v6)] S14 _
  refine RT.setL (x := [.str (("word" : Str)), .str (("word" : Str)), .str (("line" : Str)), .str (("line" : Str)), .str (("number " : Str) ++ rpS v5), .str (("number " : Str) ++ rpS v6)]) (mBin_ok (rfl) (mLst_ok (mCons_ok (x := .str (("number " : Str) ++ rpS v6)) ((mLam_ok (met_2 (rp_A8 v6 hv6) (mCall_ok (mCons_ok rfl (rfl)) (excV_all (cleanAll_cons cv6 (rfl)) (tab1 q28 v6 hv6) _)) K14.g1 K14.g2))) (rfl)) (Nat.le_of_ble_eq_true rfl)) (addL_ok (ag hl_told_14) gl (Nat.le_of_ble_eq_true rfl))) gl (KS.app K14 rfl rfl).pos (KS.app (KS.app K14 rfl rfl) rfl rfl) fun S15 P15 K15 hl_told_15 p0_15 tr15 => ?_
  show RT _ [some (.ref 0), some (v1), some (v2), some (.str (("number " : Str) ++ rpS v2)), some (v3), some (.ref P15), some (v4), none, some (v5), some (v6)] S15 _
  exact RT.retK (mBin_ok (rfl) (mBin_ok (mBin_ok (mBin_ok (mLst_ok (mCons_ok (x := .str (("word" : Str))) (rfl) (rfl)) (Nat.le_of_ble_eq_true rfl)) rfl (mulL_ok (k := 2) (ys := [.str (("word" : Str)), .str (("word" : Str))]) gl (by decide) (Nat.le_of_ble_eq_true rfl) rfl (Nat.le_of_ble_eq_true rfl))) (mBin_ok (mLst_ok (mCons_ok (x := .str (("line" : Str))) (rfl) (rfl)) (Nat.le_of_ble_eq_true rfl)) rfl (mulL_ok (k := 2) (ys := [.str (("line" : Str)), .str (("line" : Str))]) gl (by decide) (Nat.le_of_ble_eq_true rfl) rfl (Nat.le_of_ble_eq_true rfl))) (addL_ok (ag (ag gl)) gl (Nat.le_of_ble_eq_true rfl))) (mLst_ok (mCons_ok (x := .str (("number " : Str) ++ rpS v5)) (mBin_ok rfl (mBlt_ok (mCons_ok rfl rfl) ((rp_A7 v5 hv5).r _)) ((rp_A7 v5 hv5).add (by decide) _)) (mCons_ok (x := .str (("number " : Str) ++ rpS v6)) (mBin_ok rfl (mBlt_ok (mCons_ok rfl rfl) ((rp_A8 v6 hv6).r _)) ((rp_A8 v6 hv6).add (by decide) _)) (rfl))) (Nat.le_of_ble_eq_true rfl)) (addL_ok (ag gl) gl (Nat.le_of_ble_eq_true rfl))) (eq_strs (ag (ag (ag (ag (ag (ag (ag hl_told_15))))))) gl (.cons (by decide +kernel) (.cons (by decide +kernel) (.cons (by decide +kernel) (.cons (by decide +kernel) (.cons (strOk_app (by decide +kernel) (rp_A7 v5 hv5).o) (.cons (strOk_app (by decide +kernel) (rp_A8 v6 hv6).o) (.nil))))))))) (KS.app (KS.app (KS.app (KS.app (KS.app (KS.app (KS.app K15 rfl rfl) rfl rfl) rfl rfl) rfl rfl) rfl rfl) rfl rfl) rfl rfl) d6 (by omega)
set_option maxHeartbeats 0 in
theorem law_true : LawTrue m_52 := law_of (n := 5) (l := 5) (b := b_52) rfl rfl rfl (by decide) (by decide) (turns_rest (j := 3) (t := 3) right_ok (by decide) (by decide) (by decide)) fun ρ S es k hl K0 d0 => by
  match ρ, hl with
  | [x0, x1, x2, x3, x4, x5, x6, x7], _ =>
  show RT _ [x0, x1, x2, x3, x4, x5, x6, x7] S _
  refine RT.seq (sSet_ok (mLst_same (xs := A9) (by kernel_rfl) (by decide))) ?_
  show RT _ [x0, x1, x2, x3, some _, x5, x6, x7] _ _
  refine RT.seq (sSet_ok (mLc_FL (iter_at rfl gl) gl (Nat.lt_of_lt_of_le (Nat.lt_succ_self _) (Nat.le_of_ble_eq_true rfl)) (.cons (fun S n1 n2 => ⟨_, rfl, rfl, (mLam_ok (met_4 (mCall_ok (mCons_ok rfl (rfl)) (excV_all (cleanAll_cons rfl (rfl)) q33 _)) n1 n2))⟩) rfl rfl (.cons (fun S n1 n2 => ⟨_, rfl, rfl, (mLam_ok (met_fine (mCall_ex (mCons_ok rfl (rfl)) (fine_all (cleanAll_cons rfl (rfl)) q32 _)) n1 n2))⟩) rfl rfl (.cons (fun S n1 n2 => ⟨_, rfl, rfl, (mLam_ok ((met_3 rpc_3 (mCall_ok (mCons_ok rfl (rfl)) (excV_all (cleanAll_cons rfl (rfl)) q30 _)) n1 n2).trans (by rw [e31])))⟩) rfl rfl (.cons (fun S n1 n2 => ⟨_, rfl, rfl, (mLam_ok (met_4 (mCall_ok (mCons_ok rfl (rfl)) (excV_all (cleanAll_cons rfl (rfl)) q29 _)) n1 n2))⟩) rfl rfl (.nil))))) (KS.app K0 rfl rfl).g1 (KS.app K0 rfl rfl).g2)) ?_
  show RT _ [x0, x1, x2, x3, some _, some _, x6, x7] _ _
  refine RT.seq (sSet_ok (mBin_ok (rfl) (mLc_F rfl (Nat.lt_of_lt_of_le (Nat.lt_succ_self _) (Nat.le_of_ble_eq_true rfl)) (.cons (fun S n1 n2 => ⟨_, rfl, rfl, (mLam_ok (met_4 (mCall_ok (mCons_ok rfl (rfl)) (excV_all (cleanAll_cons rfl (rfl)) q35 _)) n1 n2))⟩) rfl rfl (.cons (fun S n1 n2 => ⟨_, rfl, rfl, (mLam_ok (met_fine (mCall_ex (mCons_ok rfl (rfl)) (fine_all (cleanAll_cons rfl (rfl)) q34 _)) n1 n2))⟩) rfl rfl (.nil))) (KS.app (KS.app K0 rfl rfl) rfl rfl).g1 (KS.app (KS.app K0 rfl rfl) rfl rfl).g2) (addL_ok (ag gl) gl (Nat.le_of_ble_eq_true rfl)))) ?_
  show RT _ [x0, x1, x2, x3, some _, some _, x6, x7] _ _
  refine RT.appL (xs := [.tup [.str ("unlike" : Str)], .str (("fine" : Str)), .str (("many 10" : Str)), .tup [.str ("unlike" : Str)], .tup [.str ("unlike" : Str)], .str (("fine" : Str))]) (y := .str (("fine" : Str))) rfl ((mLam_ok (met_fine (mCall_ex (mCons_ok (x := .str ("rc" : Str)) rfl (mCons_ok (x := .tup []) rfl (rfl))) (fine_all (cleanAll_cons rfl (cleanAll_cons rfl (rfl))) q36 _)) (KS.app (KS.app (KS.app (KS.app K0 rfl rfl) rfl rfl) rfl rfl) rfl rfl).g1 (KS.app (KS.app (KS.app (KS.app K0 rfl rfl) rfl rfl) rfl rfl) rfl rfl).g2))) gl (Nat.le_of_ble_eq_true rfl) (KS.app (KS.app (KS.app K0 rfl rfl) rfl rfl) rfl rfl).pos (KS.app (KS.app (KS.app (KS.app K0 rfl rfl) rfl rfl) rfl rfl) rfl rfl) rfl rfl fun St1 Kt1 hlt1 trt1 => ?_
  show RT _ [x0, x1, x2, x3, some _, some _, x6, x7] _ _
  exact RT.retK (mBin_ok (rfl) (mLst_ok (mCons_ok (x := .tup [.str ("unlike" : Str)]) (mTup_ok (mCons_ok (x := .str ("unlike" : Str)) rfl (rfl)) (Nat.le_of_ble_eq_true rfl)) (mCons_ok (x := .str (("fine" : Str))) (rfl) (mCons_ok (x := .str (("many 10" : Str))) (rfl) (mCons_ok (x := .tup [.str ("unlike" : Str)]) (mTup_ok (mCons_ok (x := .str ("unlike" : Str)) rfl (rfl)) (Nat.le_of_ble_eq_true rfl)) (mCons_ok (x := .tup [.str ("unlike" : Str)]) (mTup_ok (mCons_ok (x := .str ("unlike" : Str)) rfl (rfl)) (Nat.le_of_ble_eq_true rfl)) (mCons_ok (x := .str (("fine" : Str))) (rfl) (mCons_ok (x := .str (("fine" : Str))) (rfl) (rfl)))))))) (Nat.le_of_ble_eq_true rfl)) (eq_clos (ps := [.tuple [.str ("unlike" : Str)], .str (("fine" : Str)), .str (("many 10" : Str)), .tuple [.str ("unlike" : Str)], .tuple [.str ("unlike" : Str)], .str (("fine" : Str)), .str (("fine" : Str))]) (ag hlt1) gl (fun _ => by kernel_rfl) (by decide +kernel))) (KS.app Kt1 rfl rfl) d0 (Nat.le_refl _)
end Law

namespace Law
open PySem PySem.Spec L2 DM LamX
open PyProof.Rows hiding St
def topS (i : Nat) : Stmt := PySem.Challenge.pw_roundsforce_k48_errors_of_words.main.body.getD i (.Pass ⟨0, 0, 0, 0⟩)
/-- is_whole -/
abbrev s_0 : Stmt := topS 9
theorem sc_0 : FnScope ["value"] ["value"] (defScope s_0) := ⟨rfl, rfl, rfl, by decide +kernel, rfl, by decide +kernel, by decide +kernel⟩
/-- is_near -/
abbrev s_1 : Stmt := topS 10
theorem sc_1 : FnScope ["value"] ["value"] (defScope s_1) := ⟨rfl, rfl, rfl, by decide +kernel, rfl, by decide +kernel, by decide +kernel⟩
/-- is_within -/
abbrev s_2 : Stmt := topS 11
theorem sc_2 : FnScope ["value", "least", "most"] ["value", "least", "most"] (defScope s_2) := ⟨rfl, rfl, rfl, by decide +kernel, rfl, by decide +kernel, by decide +kernel⟩
/-- require_number -/
abbrev s_3 : Stmt := topS 12
theorem sc_3 : FnScope ["value", "least", "most"] ["value", "least", "most"] (defScope s_3) := ⟨rfl, rfl, rfl, by decide +kernel, rfl, by decide +kernel, by decide +kernel⟩
/-- is_line_in -/
abbrev s_4 : Stmt := topS 15
theorem sc_4 : FnScope ["value", "height"] ["value"] (defScope s_4) := ⟨rfl, rfl, rfl, by decide +kernel, rfl, by decide +kernel, by decide +kernel⟩
/-- cycle_in -/
abbrev s_5 : Stmt := topS 17
theorem sc_5 : FnScope ["line", "found", "met", "here"] ["line"] (defScope s_5) := ⟨rfl, rfl, rfl, by decide +kernel, rfl, by decide +kernel, by decide +kernel⟩
/-- is_round_in -/
abbrev s_6 : Stmt := topS 18
theorem sc_6 : FnScope ["value"] ["value"] (defScope s_6) := ⟨rfl, rfl, rfl, by decide +kernel, rfl, by decide +kernel, by decide +kernel⟩
/-- is_word_in -/
abbrev s_7 : Stmt := topS 32
theorem sc_7 : FnScope ["value", "sign"] ["value"] (defScope s_7) := ⟨rfl, rfl, rfl, by decide +kernel, rfl, by decide +kernel, by decide +kernel⟩
/-- key_of_signs -/
abbrev s_8 : Stmt := topS 33
theorem sc_8 : FnScope ["signs", "found", "sense", "sign"] ["signs"] (defScope s_8) := ⟨rfl, rfl, rfl, by decide +kernel, rfl, by decide +kernel, by decide +kernel⟩
/-- words_compared -/
abbrev s_9 : Stmt := topS 34
theorem sc_9 : FnScope ["one", "other", "first", "second"] ["one", "other"] (defScope s_9) := ⟨rfl, rfl, rfl, by decide +kernel, rfl, by decide +kernel, by decide +kernel⟩
/-- shifted -/
abbrev s_10 : Stmt := topS 35
theorem sc_10 : FnScope ["word", "i"] ["word", "i"] (defScope s_10) := ⟨rfl, rfl, rfl, by decide +kernel, rfl, by decide +kernel, by decide +kernel⟩
/-- shifts_in -/
abbrev s_11 : Stmt := topS 36
theorem sc_11 : FnScope ["word", "i"] ["word"] (defScope s_11) := ⟨rfl, rfl, rfl, by decide +kernel, rfl, by decide +kernel, by decide +kernel⟩
/-- shift_order_in -/
abbrev s_12 : Stmt := topS 37
theorem sc_12 : FnScope ["word", "keys", "shift", "index"] ["word"] (defScope s_12) := ⟨rfl, rfl, rfl, by decide +kernel, rfl, by decide +kernel, by decide +kernel⟩
/-- beaten_at -/
abbrev s_13 : Stmt := topS 38
theorem sc_13 : FnScope ["word", "i"] ["word"] (defScope s_13) := ⟨rfl, rfl, rfl, by decide +kernel, rfl, by decide +kernel, by decide +kernel⟩
/-- is_greatest_in -/
abbrev s_14 : Stmt := topS 39
theorem sc_14 : FnScope ["word"] ["word"] (defScope s_14) := ⟨rfl, rfl, rfl, by decide +kernel, rfl, by decide +kernel, by decide +kernel⟩
/-- greatest_answer_in -/
abbrev s_15 : Stmt := topS 40
theorem sc_15 : FnScope ["word", "index"] ["word"] (defScope s_15) := ⟨rfl, rfl, rfl, by decide +kernel, rfl, by decide +kernel, by decide +kernel⟩
/-- is_beaten_paper_in -/
abbrev s_16 : Stmt := topS 41
theorem sc_16 : FnScope ["word", "value"] ["word", "value"] (defScope s_16) := ⟨rfl, rfl, rfl, by decide +kernel, rfl, by decide +kernel, by decide +kernel⟩
/-- all_words -/
abbrev s_17 : Stmt := topS 42
theorem sc_17 : FnScope ["n", "found", "turn", "row", "sign"] ["n"] (defScope s_17) := ⟨rfl, rfl, rfl, by decide +kernel, rfl, by decide +kernel, by decide +kernel⟩
/-- greatest_words_in -/
abbrev s_18 : Stmt := topS 43
theorem sc_18 : FnScope ["n", "word"] ["n"] (defScope s_18) := ⟨rfl, rfl, rfl, by decide +kernel, rfl, by decide +kernel, by decide +kernel⟩
/-- moebius_in -/
abbrev s_19 : Stmt := topS 44
theorem sc_19 : FnScope ["number", "found", "factor"] ["number"] (defScope s_19) := ⟨rfl, rfl, rfl, by decide +kernel, rfl, by decide +kernel, by decide +kernel⟩
/-- count_greatest_in -/
abbrev s_20 : Stmt := topS 45
theorem sc_20 : FnScope ["n", "found", "divisor"] ["n"] (defScope s_20) := ⟨rfl, rfl, rfl, by decide +kernel, rfl, by decide +kernel, by decide +kernel⟩
/-- evenness_in -/
abbrev s_21 : Stmt := topS 46
theorem sc_21 : FnScope ["word"] ["word"] (defScope s_21) := ⟨rfl, rfl, rfl, by decide +kernel, rfl, by decide +kernel, by decide +kernel⟩
/-- is_bump_in -/
abbrev s_22 : Stmt := topS 47
theorem sc_22 : FnScope ["line", "top", "rises", "i"] ["line"] (defScope s_22) := ⟨rfl, rfl, rfl, by decide +kernel, rfl, by decide +kernel, by decide +kernel⟩
/-- top_in -/
abbrev s_23 : Stmt := topS 48
theorem sc_23 : FnScope ["line"] ["line"] (defScope s_23) := ⟨rfl, rfl, rfl, by decide +kernel, rfl, by decide +kernel, by decide +kernel⟩
/-- word_in -/
abbrev s_24 : Stmt := topS 49
theorem sc_24 : FnScope ["line", "top", "signs", "here"] ["line"] (defScope s_24) := ⟨rfl, rfl, rfl, by decide +kernel, rfl, by decide +kernel, by decide +kernel⟩
/-- round_in -/
abbrev s_25 : Stmt := topS 50
theorem sc_25 : FnScope ["word", "ranks", "rank", "index", "heights"] ["word"] (defScope s_25) := ⟨rfl, rfl, rfl, by decide +kernel, rfl, by decide +kernel, by decide +kernel⟩
/-- require_word -/
abbrev s_26 : Stmt := topS 51
theorem sc_26 : FnScope ["value"] ["value"] (defScope s_26) := ⟨rfl, rfl, rfl, by decide +kernel, rfl, by decide +kernel, by decide +kernel⟩
/-- require_words -/
abbrev s_27 : Stmt := topS 52
theorem sc_27 : FnScope ["word", "words", "one"] ["word", "words"] (defScope s_27) := ⟨rfl, rfl, rfl, by decide +kernel, rfl, by decide +kernel, by decide +kernel⟩
/-- require_two_words -/
abbrev s_28 : Stmt := topS 53
theorem sc_28 : FnScope ["word", "other"] ["word", "other"] (defScope s_28) := ⟨rfl, rfl, rfl, by decide +kernel, rfl, by decide +kernel, by decide +kernel⟩
/-- require_bump -/
abbrev s_29 : Stmt := topS 54
theorem sc_29 : FnScope ["value"] ["value"] (defScope s_29) := ⟨rfl, rfl, rfl, by decide +kernel, rfl, by decide +kernel, by decide +kernel⟩
/-- is_above -/
abbrev s_30 : Stmt := topS 55
theorem sc_30 : FnScope ["word", "other"] ["word", "other"] (defScope s_30) := ⟨rfl, rfl, rfl, by decide +kernel, rfl, by decide +kernel, by decide +kernel⟩
/-- compared -/
abbrev s_31 : Stmt := topS 56
theorem sc_31 : FnScope ["word", "other"] ["word", "other"] (defScope s_31) := ⟨rfl, rfl, rfl, by decide +kernel, rfl, by decide +kernel, by decide +kernel⟩
/-- rank_of -/
abbrev s_32 : Stmt := topS 57
theorem sc_32 : FnScope ["word", "words", "one"] ["word", "words"] (defScope s_32) := ⟨rfl, rfl, rfl, by decide +kernel, rfl, by decide +kernel, by decide +kernel⟩
/-- shift_of -/
abbrev s_33 : Stmt := topS 58
theorem sc_33 : FnScope ["word", "i"] ["word", "i"] (defScope s_33) := ⟨rfl, rfl, rfl, by decide +kernel, rfl, by decide +kernel, by decide +kernel⟩
/-- shifts_of -/
abbrev s_34 : Stmt := topS 59
theorem sc_34 : FnScope ["word"] ["word"] (defScope s_34) := ⟨rfl, rfl, rfl, by decide +kernel, rfl, by decide +kernel, by decide +kernel⟩
/-- shift_order -/
abbrev s_35 : Stmt := topS 60
theorem sc_35 : FnScope ["word"] ["word"] (defScope s_35) := ⟨rfl, rfl, rfl, by decide +kernel, rfl, by decide +kernel, by decide +kernel⟩
/-- is_greatest -/
abbrev s_36 : Stmt := topS 61
theorem sc_36 : FnScope ["word"] ["word"] (defScope s_36) := ⟨rfl, rfl, rfl, by decide +kernel, rfl, by decide +kernel, by decide +kernel⟩
/-- greatest_answer -/
abbrev s_37 : Stmt := topS 62
theorem sc_37 : FnScope ["word"] ["word"] (defScope s_37) := ⟨rfl, rfl, rfl, by decide +kernel, rfl, by decide +kernel, by decide +kernel⟩
/-- is_beaten_paper -/
abbrev s_38 : Stmt := topS 63
theorem sc_38 : FnScope ["word", "value"] ["word", "value"] (defScope s_38) := ⟨rfl, rfl, rfl, by decide +kernel, rfl, by decide +kernel, by decide +kernel⟩
/-- greatest_shift -/
abbrev s_39 : Stmt := topS 64
theorem sc_39 : FnScope ["word"] ["word"] (defScope s_39) := ⟨rfl, rfl, rfl, by decide +kernel, rfl, by decide +kernel, by decide +kernel⟩
/-- greatest_words -/
abbrev s_40 : Stmt := topS 65
theorem sc_40 : FnScope ["n"] ["n"] (defScope s_40) := ⟨rfl, rfl, rfl, by decide +kernel, rfl, by decide +kernel, by decide +kernel⟩
/-- count_greatest -/
abbrev s_41 : Stmt := topS 66
theorem sc_41 : FnScope ["n"] ["n"] (defScope s_41) := ⟨rfl, rfl, rfl, by decide +kernel, rfl, by decide +kernel, by decide +kernel⟩
/-- top_of -/
abbrev s_42 : Stmt := topS 67
theorem sc_42 : FnScope ["bump"] ["bump"] (defScope s_42) := ⟨rfl, rfl, rfl, by decide +kernel, rfl, by decide +kernel, by decide +kernel⟩
/-- word_of -/
abbrev s_43 : Stmt := topS 68
theorem sc_43 : FnScope ["bump"] ["bump"] (defScope s_43) := ⟨rfl, rfl, rfl, by decide +kernel, rfl, by decide +kernel, by decide +kernel⟩
/-- round_of -/
abbrev s_44 : Stmt := topS 69
theorem sc_44 : FnScope ["word"] ["word"] (defScope s_44) := ⟨rfl, rfl, rfl, by decide +kernel, rfl, by decide +kernel, by decide +kernel⟩
/-- evenness -/
abbrev s_45 : Stmt := topS 70
theorem sc_45 : FnScope ["word"] ["word"] (defScope s_45) := ⟨rfl, rfl, rfl, by decide +kernel, rfl, by decide +kernel, by decide +kernel⟩
/-- _law_dice -/
abbrev s_46 : Stmt := topS 72
theorem sc_46 : FnScope ["script", "spot", "cell", "left"] ["script", "spot"] (defScope s_46) := ⟨rfl, rfl, rfl, by decide +kernel, rfl, by decide +kernel, by decide +kernel⟩
/-- _law_roll -/
abbrev s_47 : Stmt := topS 73
theorem sc_47 : FnScope ["dice", "total", "found", "one", "two"] ["dice", "total"] (defScope s_47) := ⟨rfl, rfl, rfl, by decide +kernel, rfl, by decide +kernel, by decide +kernel⟩
/-- _law_pick -/
abbrev s_48 : Stmt := topS 74
theorem sc_48 : FnScope ["dice", "items"] ["dice", "items"] (defScope s_48) := ⟨rfl, rfl, rfl, by decide +kernel, rfl, by decide +kernel, by decide +kernel⟩
/-- _law_word_of_error -/
abbrev s_49 : Stmt := topS 75
theorem sc_49 : FnScope ["call", "error"] ["call"] (defScope s_49) := ⟨rfl, rfl, rfl, by decide +kernel, rfl, by decide +kernel, by decide +kernel⟩
/-- _law_words -/
abbrev s_50 : Stmt := topS 76
theorem sc_50 : FnScope ["word", "other", "i", "found", "call"] ["word", "other", "i"] (defScope s_50) := ⟨rfl, rfl, rfl, by decide +kernel, rfl, by decide +kernel, by decide +kernel⟩
/-- _law_right -/
abbrev s_51 : Stmt := topS 77
theorem sc_51 : FnScope ["dice", "no", "i", "word", "some", "told", "line", "call", "n", "far"] ["dice"] (defScope s_51) := ⟨rfl, rfl, rfl, by decide +kernel, rfl, by decide +kernel, by decide +kernel⟩
/-- law -/
abbrev s_52 : Stmt := topS 78
theorem sc_52 : FnScope ["script", "spot", "dice", "turn", "some", "told", "word", "line"] ["script"] (defScope s_52) := ⟨rfl, rfl, rfl, by decide +kernel, rfl, by decide +kernel, by decide +kernel⟩
structure Tx (P : Program) (G : Gv) (mg : Str → Option Value) (fA : Nat → Addr) (fD : Nat → FuncData) (w : World) (cA kA pA : Nat → Addr) : Prop where
  F_0 : Fun G.K "is_whole" "is_whole" s_0 (fA 0) (fD 0)
  g_0 : mg "is_whole" = some (.ref (fA 0))
  b_0 : Binds G.K (fD 0) ["value"] []
  F_1 : Fun G.K "is_near" "is_near" s_1 (fA 1) (fD 1)
  g_1 : mg "is_near" = some (.ref (fA 1))
  b_1 : Binds G.K (fD 1) ["value"] []
  F_2 : Fun G.K "is_within" "is_within" s_2 (fA 2) (fD 2)
  g_2 : mg "is_within" = some (.ref (fA 2))
  b_2 : Binds G.K (fD 2) ["value", "least", "most"] []
  F_3 : Fun G.K "require_number" "require_number" s_3 (fA 3) (fD 3)
  g_3 : mg "require_number" = some (.ref (fA 3))
  b_3 : Binds G.K (fD 3) ["value", "least", "most"] []
  F_4 : Fun G.K "is_line_in" "is_line_in" s_4 (fA 4) (fD 4)
  g_4 : mg "is_line_in" = some (.ref (fA 4))
  b_4 : Binds G.K (fD 4) ["value"] []
  F_5 : Fun G.K "cycle_in" "cycle_in" s_5 (fA 5) (fD 5)
  g_5 : mg "cycle_in" = some (.ref (fA 5))
  b_5 : Binds G.K (fD 5) ["line"] []
  F_6 : Fun G.K "is_round_in" "is_round_in" s_6 (fA 6) (fD 6)
  g_6 : mg "is_round_in" = some (.ref (fA 6))
  b_6 : Binds G.K (fD 6) ["value"] []
  F_7 : Fun G.K "is_word_in" "is_word_in" s_7 (fA 7) (fD 7)
  g_7 : mg "is_word_in" = some (.ref (fA 7))
  b_7 : Binds G.K (fD 7) ["value"] []
  F_8 : Fun G.K "key_of_signs" "key_of_signs" s_8 (fA 8) (fD 8)
  g_8 : mg "key_of_signs" = some (.ref (fA 8))
  b_8 : Binds G.K (fD 8) ["signs"] []
  F_9 : Fun G.K "words_compared" "words_compared" s_9 (fA 9) (fD 9)
  g_9 : mg "words_compared" = some (.ref (fA 9))
  b_9 : Binds G.K (fD 9) ["one", "other"] []
  F_10 : Fun G.K "shifted" "shifted" s_10 (fA 10) (fD 10)
  g_10 : mg "shifted" = some (.ref (fA 10))
  b_10 : Binds G.K (fD 10) ["word", "i"] []
  F_11 : Fun G.K "shifts_in" "shifts_in" s_11 (fA 11) (fD 11)
  g_11 : mg "shifts_in" = some (.ref (fA 11))
  b_11 : Binds G.K (fD 11) ["word"] []
  F_12 : Fun G.K "shift_order_in" "shift_order_in" s_12 (fA 12) (fD 12)
  g_12 : mg "shift_order_in" = some (.ref (fA 12))
  b_12 : Binds G.K (fD 12) ["word"] []
  k_12 : (fD 12).code = .ref (kA 12)
  t_12 : (pA 12, (("shift_order_in" : Str) ++ ".<locals>.") ++ "<lambda>") ∈ G.tt
  u_12 : ∀ p ∈ G.tt, p.1 = pA 12 → p.2 = (("shift_order_in" : Str) ++ ".<locals>.") ++ "<lambda>"
  F_13 : Fun G.K "beaten_at" "beaten_at" s_13 (fA 13) (fD 13)
  g_13 : mg "beaten_at" = some (.ref (fA 13))
  b_13 : Binds G.K (fD 13) ["word"] []
  F_14 : Fun G.K "is_greatest_in" "is_greatest_in" s_14 (fA 14) (fD 14)
  g_14 : mg "is_greatest_in" = some (.ref (fA 14))
  b_14 : Binds G.K (fD 14) ["word"] []
  F_15 : Fun G.K "greatest_answer_in" "greatest_answer_in" s_15 (fA 15) (fD 15)
  g_15 : mg "greatest_answer_in" = some (.ref (fA 15))
  b_15 : Binds G.K (fD 15) ["word"] []
  F_16 : Fun G.K "is_beaten_paper_in" "is_beaten_paper_in" s_16 (fA 16) (fD 16)
  g_16 : mg "is_beaten_paper_in" = some (.ref (fA 16))
  b_16 : Binds G.K (fD 16) ["word", "value"] []
  F_17 : Fun G.K "all_words" "all_words" s_17 (fA 17) (fD 17)
  g_17 : mg "all_words" = some (.ref (fA 17))
  b_17 : Binds G.K (fD 17) ["n"] []
  F_18 : Fun G.K "greatest_words_in" "greatest_words_in" s_18 (fA 18) (fD 18)
  g_18 : mg "greatest_words_in" = some (.ref (fA 18))
  b_18 : Binds G.K (fD 18) ["n"] []
  F_19 : Fun G.K "moebius_in" "moebius_in" s_19 (fA 19) (fD 19)
  g_19 : mg "moebius_in" = some (.ref (fA 19))
  b_19 : Binds G.K (fD 19) ["number"] []
  F_20 : Fun G.K "count_greatest_in" "count_greatest_in" s_20 (fA 20) (fD 20)
  g_20 : mg "count_greatest_in" = some (.ref (fA 20))
  b_20 : Binds G.K (fD 20) ["n"] []
  F_21 : Fun G.K "evenness_in" "evenness_in" s_21 (fA 21) (fD 21)
  g_21 : mg "evenness_in" = some (.ref (fA 21))
  b_21 : Binds G.K (fD 21) ["word"] []
  F_22 : Fun G.K "is_bump_in" "is_bump_in" s_22 (fA 22) (fD 22)
  g_22 : mg "is_bump_in" = some (.ref (fA 22))
  b_22 : Binds G.K (fD 22) ["line"] []
  F_23 : Fun G.K "top_in" "top_in" s_23 (fA 23) (fD 23)
  g_23 : mg "top_in" = some (.ref (fA 23))
  b_23 : Binds G.K (fD 23) ["line"] []
  F_24 : Fun G.K "word_in" "word_in" s_24 (fA 24) (fD 24)
  g_24 : mg "word_in" = some (.ref (fA 24))
  b_24 : Binds G.K (fD 24) ["line"] []
  F_25 : Fun G.K "round_in" "round_in" s_25 (fA 25) (fD 25)
  g_25 : mg "round_in" = some (.ref (fA 25))
  b_25 : Binds G.K (fD 25) ["word"] []
  F_26 : Fun G.K "require_word" "require_word" s_26 (fA 26) (fD 26)
  g_26 : mg "require_word" = some (.ref (fA 26))
  b_26 : Binds G.K (fD 26) ["value"] []
  F_27 : Fun G.K "require_words" "require_words" s_27 (fA 27) (fD 27)
  g_27 : mg "require_words" = some (.ref (fA 27))
  b_27 : Binds G.K (fD 27) ["word", "words"] []
  F_28 : Fun G.K "require_two_words" "require_two_words" s_28 (fA 28) (fD 28)
  g_28 : mg "require_two_words" = some (.ref (fA 28))
  b_28 : Binds G.K (fD 28) ["word", "other"] []
  F_29 : Fun G.K "require_bump" "require_bump" s_29 (fA 29) (fD 29)
  g_29 : mg "require_bump" = some (.ref (fA 29))
  b_29 : Binds G.K (fD 29) ["value"] []
  F_30 : Fun G.K "is_above" "is_above" s_30 (fA 30) (fD 30)
  g_30 : mg "is_above" = some (.ref (fA 30))
  b_30 : Binds G.K (fD 30) ["word", "other"] []
  h_30 : G.fa 30 = some (fA 30)
  F_31 : Fun G.K "compared" "compared" s_31 (fA 31) (fD 31)
  g_31 : mg "compared" = some (.ref (fA 31))
  b_31 : Binds G.K (fD 31) ["word", "other"] []
  h_31 : G.fa 31 = some (fA 31)
  F_32 : Fun G.K "rank_of" "rank_of" s_32 (fA 32) (fD 32)
  g_32 : mg "rank_of" = some (.ref (fA 32))
  b_32 : Binds G.K (fD 32) ["word", "words"] []
  h_32 : G.fa 32 = some (fA 32)
  F_33 : Fun G.K "shift_of" "shift_of" s_33 (fA 33) (fD 33)
  g_33 : mg "shift_of" = some (.ref (fA 33))
  b_33 : Binds G.K (fD 33) ["word", "i"] []
  F_34 : Fun G.K "shifts_of" "shifts_of" s_34 (fA 34) (fD 34)
  g_34 : mg "shifts_of" = some (.ref (fA 34))
  b_34 : Binds G.K (fD 34) ["word"] []
  h_34 : G.fa 34 = some (fA 34)
  F_35 : Fun G.K "shift_order" "shift_order" s_35 (fA 35) (fD 35)
  g_35 : mg "shift_order" = some (.ref (fA 35))
  b_35 : Binds G.K (fD 35) ["word"] []
  h_35 : G.fa 35 = some (fA 35)
  F_36 : Fun G.K "is_greatest" "is_greatest" s_36 (fA 36) (fD 36)
  g_36 : mg "is_greatest" = some (.ref (fA 36))
  b_36 : Binds G.K (fD 36) ["word"] []
  h_36 : G.fa 36 = some (fA 36)
  F_37 : Fun G.K "greatest_answer" "greatest_answer" s_37 (fA 37) (fD 37)
  g_37 : mg "greatest_answer" = some (.ref (fA 37))
  b_37 : Binds G.K (fD 37) ["word"] []
  h_37 : G.fa 37 = some (fA 37)
  F_38 : Fun G.K "is_beaten_paper" "is_beaten_paper" s_38 (fA 38) (fD 38)
  g_38 : mg "is_beaten_paper" = some (.ref (fA 38))
  b_38 : Binds G.K (fD 38) ["word", "value"] []
  F_39 : Fun G.K "greatest_shift" "greatest_shift" s_39 (fA 39) (fD 39)
  g_39 : mg "greatest_shift" = some (.ref (fA 39))
  b_39 : Binds G.K (fD 39) ["word"] []
  h_39 : G.fa 39 = some (fA 39)
  F_40 : Fun G.K "greatest_words" "greatest_words" s_40 (fA 40) (fD 40)
  g_40 : mg "greatest_words" = some (.ref (fA 40))
  b_40 : Binds G.K (fD 40) ["n"] []
  F_41 : Fun G.K "count_greatest" "count_greatest" s_41 (fA 41) (fD 41)
  g_41 : mg "count_greatest" = some (.ref (fA 41))
  b_41 : Binds G.K (fD 41) ["n"] []
  F_42 : Fun G.K "top_of" "top_of" s_42 (fA 42) (fD 42)
  g_42 : mg "top_of" = some (.ref (fA 42))
  b_42 : Binds G.K (fD 42) ["bump"] []
  h_42 : G.fa 42 = some (fA 42)
  F_43 : Fun G.K "word_of" "word_of" s_43 (fA 43) (fD 43)
  g_43 : mg "word_of" = some (.ref (fA 43))
  b_43 : Binds G.K (fD 43) ["bump"] []
  h_43 : G.fa 43 = some (fA 43)
  F_44 : Fun G.K "round_of" "round_of" s_44 (fA 44) (fD 44)
  g_44 : mg "round_of" = some (.ref (fA 44))
  b_44 : Binds G.K (fD 44) ["word"] []
  F_45 : Fun G.K "evenness" "evenness" s_45 (fA 45) (fD 45)
  g_45 : mg "evenness" = some (.ref (fA 45))
  b_45 : Binds G.K (fD 45) ["word"] []
  h_45 : G.fa 45 = some (fA 45)
  F_46 : Fun G.K "_law_dice" "_law_dice" s_46 (fA 46) (fD 46)
  g_46 : mg "_law_dice" = some (.ref (fA 46))
  b_46 : Binds G.K (fD 46) ["script", "spot"] []
  F_47 : Fun G.K "_law_roll" "_law_roll" s_47 (fA 47) (fD 47)
  g_47 : mg "_law_roll" = some (.ref (fA 47))
  b_47 : Binds G.K (fD 47) ["dice", "total"] []
  F_48 : Fun G.K "_law_pick" "_law_pick" s_48 (fA 48) (fD 48)
  g_48 : mg "_law_pick" = some (.ref (fA 48))
  b_48 : Binds G.K (fD 48) ["dice", "items"] []
  F_49 : Fun G.K "_law_word_of_error" "_law_word_of_error" s_49 (fA 49) (fD 49)
  g_49 : mg "_law_word_of_error" = some (.ref (fA 49))
  b_49 : Binds G.K (fD 49) ["call"] []
  F_50 : Fun G.K "_law_words" "_law_words" s_50 (fA 50) (fD 50)
  g_50 : mg "_law_words" = some (.ref (fA 50))
  b_50 : Binds G.K (fD 50) ["word", "other", "i"] []
  k_50 : (fD 50).code = .ref (kA 50)
  t_50 : (pA 50, (("_law_words" : Str) ++ ".<locals>.") ++ "<lambda>") ∈ G.tt
  u_50 : ∀ p ∈ G.tt, p.1 = pA 50 → p.2 = (("_law_words" : Str) ++ ".<locals>.") ++ "<lambda>"
  F_51 : Fun G.K "_law_right" "_law_right" s_51 (fA 51) (fD 51)
  g_51 : mg "_law_right" = some (.ref (fA 51))
  b_51 : Binds G.K (fD 51) ["dice"] []
  k_51 : (fD 51).code = .ref (kA 51)
  t_51 : (pA 51, (("_law_right" : Str) ++ ".<locals>.") ++ "<lambda>") ∈ G.tt
  u_51 : ∀ p ∈ G.tt, p.1 = pA 51 → p.2 = (("_law_right" : Str) ++ ".<locals>.") ++ "<lambda>"
  F_52 : Fun G.K "law" "law" s_52 (fA 52) (fD 52)
  g_52 : mg "law" = some (.ref (fA 52))
  b_52 : Binds G.K (fD 52) ["script"] []
  k_52 : (fD 52).code = .ref (kA 52)
  t_52 : (pA 52, (("law" : Str) ++ ".<locals>.") ++ "<lambda>") ∈ G.tt
  u_52 : ∀ p ∈ G.tt, p.1 = pA 52 → p.2 = (("law" : Str) ++ ".<locals>.") ++ "<lambda>"
  fX : G.fa kX = none
  fL : G.fa kL = none
  a_0 : G.ca 0 = some (cA 0)
  e_0 : Er0 G.K mg "InvalidLine" (cA 0)
  x_0 : ∀ k C b, G.ca k = some C → t_0 k = some b → PySem.W.exmOne G.K (.ref C) (.ref (cA 0)) = some b
  a_1 : G.ca 1 = some (cA 1)
  e_1 : Er0 G.K mg "InvalidWord" (cA 1)
  x_1 : ∀ k C b, G.ca k = some C → t_1 k = some b → PySem.W.exmOne G.K (.ref C) (.ref (cA 1)) = some b
  a_2 : G.ca 2 = some (cA 2)
  v_2 : G.cn 2 = "value"
  e_2 : Er1 P G.K mg "InvalidNumber" (cA 2) "value"
  x_2 : ∀ k C b, G.ca k = some C → t_2 k = some b → PySem.W.exmOne G.K (.ref C) (.ref (cA 2)) = some b
  a_3 : G.ca 3 = some (cA 3)
  v_3 : G.cn 3 = "number"
  e_3 : Er1 P G.K mg "TooMany" (cA 3) "number"
  x_3 : ∀ k C b, G.ca k = some C → t_3 k = some b → PySem.W.exmOne G.K (.ref C) (.ref (cA 3)) = some b
  a_4 : G.ca 4 = some (cA 4)
  v_4 : G.cn 4 = "reason"
  e_4 : Er1 P G.K mg "Refused" (cA 4) "reason"
  x_4 : ∀ k C b, G.ca k = some C → t_4 k = some b → PySem.W.exmOne G.K (.ref C) (.ref (cA 4)) = some b
  c_BEATEN : ∃ t, mg "BEATEN" = some (.str ("beaten" : Str) t)
  c_FAR : ∃ t, mg "FAR" = some (.int (1000000000000000000000000000000000000000000000000000000000000) t)
  c_GREATEST : ∃ t, mg "GREATEST" = some (.str ("greatest" : Str) t)
  c_LEAST_BUMP : ∃ t, mg "LEAST_BUMP" = some (.int (3) t)
  c_LEFT : ∃ t, mg "LEFT" = some (.str ("l" : Str) t)
  c_MOST_CORNERS : ∃ t, mg "MOST_CORNERS" = some (.int (10) t)
  c_MOST_COUNTED : ∃ t, mg "MOST_COUNTED" = some (.int (200) t)
  c_MOST_LISTED : ∃ t, mg "MOST_LISTED" = some (.int (14) t)
  c_MOST_POINTS : ∃ t, mg "MOST_POINTS" = some (.int (10) t)
  c_MOST_SIGNS : ∃ t, mg "MOST_SIGNS" = some (.int (24) t)
  c_RIGHT : ∃ t, mg "RIGHT" = some (.str ("r" : Str) t)
  c_TOP : ∃ t, mg "TOP" = some (.str ("c" : Str) t)
  c_UNLIKE : ∃ t, mg "UNLIKE" = some (.str ("unlike" : Str) t)
  c_PLACES : ∃ d, mg "PLACES" = some (.ref d) ∧ ∀ z i, T_PLACES.lookup z = some i → KDct G.K w d z (.int i)
  n_abs : mg "abs" = none
  n_all : mg "all" = none
  n_bool : mg "bool" = none
  n_enumerate : mg "enumerate" = none
  n_int : mg "int" = none
  n_isinstance : mg "isinstance" = none
  n_len : mg "len" = none
  n_list : mg "list" = none
  n_max : mg "max" = none
  n_min : mg "min" = none
  n_range : mg "range" = none
  n_repr : mg "repr" = none
  n_sorted : mg "sorted" = none
  n_str : mg "str" = none
  n_tuple : mg "tuple" = none
section
variable {P : Program} {w : World} {mg : Str → Option Value} {base : Heap} {G : Gv} {fA : Nat → Addr} {fD : Nat → FuncData} {cA kA pA : Nat → Addr}
def lamDefs : List Nat := [12, 50, 51, 52]
theorem ok_0 (T : Tx P G mg fA fD w cA kA pA) : FnG P w G.K mg base 2 (fA 0) (fD 0) ["value"] (spD G 1 m_0) := by
  have nd := sc_0.nd
  refine def_ok (k := 1) T.F_0 sc_0 rfl fun E cd A outer s H B hB => ?_
  have hK := hB.gK
  have hu := hu65 hB.room
  exact
      ds_one (ds_ret (de_and hK (de_blt call_isi (den_isi hK) (by rfl) T.n_isinstance (by decide +kernel) (da_cons (de_var (pv 0)) (da_cons (de_ty (n := .int) (by rfl) T.n_int (by decide +kernel)) (da_nil)))) (de_one (de_not hK (de_blt call_isi (den_isi hK) (by rfl) T.n_isinstance (by decide +kernel) (da_cons (de_var (pv 0)) (da_cons (de_ty (n := .bool) (by rfl) T.n_bool (by decide +kernel)) (da_nil))))))))
theorem ok_1 (T : Tx P G mg fA fD w cA kA pA) : FnG P w G.K mg base 3 (fA 1) (fD 1) ["value"] (spD G 1 m_1) := by
  have nd := sc_1.nd
  have O_0 : FnG P w G.K mg base 2 (fA 0) (fD 0) ["value"] (spD G 1 m_0) := ok_0 T
  refine def_ok (k := 2) T.F_1 sc_1 rfl fun E cd A outer s H B hB => ?_
  have hK := hB.gK
  have hu := hu65 hB.room
  exact
      ds_one (ds_ret (de_and hK (de_call ⟨hB.gK, hB.gf, hB.gc, hB.gn, hB.gt⟩ O_0 (hB.room.mono (by decide)) hB.gd (by rfl) T.g_0 T.F_0.kp T.b_0 hB.takes (len_cons (len_nil)) (da_cons (de_var (pv 0)) (da_nil))) (de_one (de_chain (opR_lt hu) (opR_lt hu) (den_lt hK) (den_lt hK) (de_neg (de_gi (by rfl) T.c_FAR)) (de_var (pv 0)) (de_gi (by rfl) T.c_FAR)))))
theorem ok_2 (T : Tx P G mg fA fD w cA kA pA) : FnG P w G.K mg base 3 (fA 2) (fD 2) ["value", "least", "most"] (spD G 3 m_2) := by
  have nd := sc_2.nd
  have O_0 : FnG P w G.K mg base 2 (fA 0) (fD 0) ["value"] (spD G 1 m_0) := ok_0 T
  refine def_ok (k := 2) T.F_2 sc_2 rfl fun E cd A outer s H B hB => ?_
  have hK := hB.gK
  have hu := hu65 hB.room
  exact
      ds_one (ds_ret (de_and hK (de_call ⟨hB.gK, hB.gf, hB.gc, hB.gn, hB.gt⟩ O_0 (hB.room.mono (by decide)) hB.gd (by rfl) T.g_0 T.F_0.kp T.b_0 hB.takes (len_cons (len_nil)) (da_cons (de_var (pv 0)) (da_nil))) (de_one (de_chain op_le op_le den_le den_le (de_var (pv 1)) (de_var (pv 0)) (de_var (pv 2))))))
theorem ok_3 (T : Tx P G mg fA fD w cA kA pA) : FnG P w G.K mg base 4 (fA 3) (fD 3) ["value", "least", "most"] (spD G 3 m_3) := by
  have nd := sc_3.nd
  have O_1 : FnG P w G.K mg base 3 (fA 1) (fD 1) ["value"] (spD G 1 m_1) := ok_1 T
  refine def_ok (k := 3) T.F_3 sc_3 rfl fun E cd A outer s H B hB => ?_
  have hK := hB.gK
  have hu := hu65 hB.room
  exact
      ds_one (ds_if (PW.pt (dw_or (dt_not (dt_truth hK (de_call ⟨hB.gK, hB.gf, hB.gc, hB.gn, hB.gt⟩ O_1 (hB.room.mono (by decide)) hB.gd (by rfl) T.g_1 T.F_1.kp T.b_1 hB.takes (len_cons (len_nil)) (da_cons (de_var (pv 0)) (da_nil))))) (dw_or (PW.pt (dw_and (dt_cmp op_notN den_notN (de_var (pv 1)) (de_non) (nomark _)) (dw_and1 (dt_cmp (opR_lt hu) (den_lt hK) (de_var (pv 0)) (de_var (pv 1)) (nomark _))))) (dw_or1 (PW.pt (dw_and (dt_cmp op_notN den_notN (de_var (pv 2)) (de_non) (nomark _)) (dw_and1 (dt_cmp (opR_gt2 hu) (den_gt2 hK) (de_var (pv 0)) (de_var (pv 2)) (nomark _))))))))) (ds_one (ds_raise1 rfl hB.takes (by rw [hB.gc]; exact T.a_2) (by rw [hB.gn]; exact T.v_2) (pmk_er1 T.e_2 rfl (hB.room.mono (by decide)) (by rfl) (de_var (pv 0))))) (ds_nil))
theorem ok_4 (T : Tx P G mg fA fD w cA kA pA) : FnG P w G.K mg base 4 (fA 4) (fD 4) ["value"] (spD G 1 m_4) := by
  have nd := sc_4.nd
  have O_2 : FnG P w G.K mg base 3 (fA 2) (fD 2) ["value", "least", "most"] (spD G 3 m_2) := ok_2 T
  refine def_ok (k := 3) T.F_4 sc_4 rfl fun E cd A outer s H B hB => ?_
  have hK := hB.gK
  have hu := hu65 hB.room
  exact
      ds_cons (ds_if (PW.pt (dw_or (dt_not (dt_truth hK (de_blt call_isi (den_isi hK) (by rfl) T.n_isinstance (by decide +kernel) (da_cons (de_var (pv 0)) (da_cons (de_ty (n := .tuple) (by rfl) T.n_tuple (by decide +kernel)) (da_nil)))))) (dw_or1 (dt_not (dt_chain op_le op_le den_le den_le (de_int) (de_blt call_lenA (den_len hK) (by rfl) T.n_len (by decide +kernel) (da_cons (de_var (pv 0)) (da_nil))) (de_gi (by rfl) T.c_MOST_CORNERS)))))) (ds_one (ds_ret (de_bl))) (ds_nil))
      (ds_one (ds_ret (de_blt (cr_all rfl) (den_all hK) (by rfl) T.n_all (by decide +kernel) (da_cons (de_lc (own := [("height", 1)]) rfl nd (di_seq hK (de_var (pv 0))) (blkOk_by (N := ["value", "height"]) (sc := defScope s_4) (own := [("height", 1)]) (by decide +kernel)) (fun _ _ _ _ _ => dg_name (I := (· ∈ [1])) (by simp) (pg_name (i := 1) nd rfl (by first | exact Or.inl rfl | exact Or.inr rfl))) (fun _ _ _ _ _ => dts_nil) (fun _ _ _ _ _ => de_call ⟨hB.gK, hB.gf, hB.gc, hB.gn, hB.gt⟩ O_2 (hB.room.mono (by decide)) hB.gd (by rfl) T.g_2 T.F_2.kp T.b_2 L2.takes0 (len_cons (len_cons (len_cons (len_nil)))) (da_cons (de_var (pv 1)) (da_cons (de_int) (da_cons (de_sub (de_blt call_lenA (den_len hK) (by rfl) T.n_len (by decide +kernel) (da_cons (de_var (pv 0)) (da_nil))) (de_int)) (da_nil)))))) (da_nil)))))
theorem ok_5 (T : Tx P G mg fA fD w cA kA pA) : FnG P w G.K mg base 2 (fA 5) (fD 5) ["line"] (spD G 1 m_5) := by
  have nd := sc_5.nd
  refine def_ok (k := 1) T.F_5 sc_5 rfl fun E cd A outer s H B hB => ?_
  have hK := hB.gK
  have hu := hu65 hB.room
  exact
      ds_cons (ds_par3 (i := 1) (j := 2) (l := 3) (fun ta ha => ps_par3 rfl nd rfl rfl rfl (by decide) (by decide) (by decide) rfl rfl rfl ha (by rfl)) (da_cons (de_lst (da_nil)) (da_cons (de_dct0) (da_cons (de_int) (da_nil)))))
      (ds_cons (ds_while hB.own (dt_ofC (dc_notin (hu2 hB.room) (de_var (pv 3)) (de_var (pv 2))) (by rfl)) (ds_cons (ds_dput (hu2 hB.room) (de_var (pv 2)) (de_var (pv 3)) (de_bl))
      (ds_cons (ds_expr (de_mth hK PySem.F.plainAttrs_list PySem.F.slot_list_append PySem.F.type_list_append mt_append den_append (de_var (pv 1)) (da_cons (de_var (pv 3)) (da_nil))))
      (ds_one (ds_set (i := 3) (fun te he => ps_set (i := 3) nd rfl (Or.inl rfl) he) (de_item hK (de_var (pv 0)) (de_var (pv 3)) (fun _ _ => rfl)))))))
      (ds_one (ds_ret (de_var (pv 1)))))
theorem ok_6 (T : Tx P G mg fA fD w cA kA pA) : FnG P w G.K mg base 5 (fA 6) (fD 6) ["value"] (spD G 1 m_6) := by
  have nd := sc_6.nd
  have O_4 : FnG P w G.K mg base 4 (fA 4) (fD 4) ["value"] (spD G 1 m_4) := ok_4 T
  have O_5 : FnG P w G.K mg base 2 (fA 5) (fD 5) ["line"] (spD G 1 m_5) := ok_5 T
  refine def_ok (k := 4) T.F_6 sc_6 rfl fun E cd A outer s H B hB => ?_
  have hK := hB.gK
  have hu := hu65 hB.room
  exact
      ds_cons (ds_if (PW.pt (dw_or (dt_not (dt_truth hK (de_call ⟨hB.gK, hB.gf, hB.gc, hB.gn, hB.gt⟩ O_4 (hB.room.mono (by decide)) hB.gd (by rfl) T.g_4 T.F_4.kp T.b_4 hB.takes (len_cons (len_nil)) (da_cons (de_var (pv 0)) (da_nil))))) (dw_or1 (dt_cmp (opR_ne hu) (den_ne hK) (de_blt (call_sortX rfl) (den_sortX hB.room hK) (by rfl) T.n_sorted (by decide +kernel) (da_cons (de_var (pv 0)) (da_nil))) (de_listR1 rfl (by rfl) T.n_list (by rfl) T.n_range (de_blt call_lenA (den_len hK) (by rfl) T.n_len (by decide +kernel) (da_cons (de_var (pv 0)) (da_nil)))) (nomark _))))) (ds_one (ds_ret (de_bl))) (ds_nil))
      (ds_one (ds_ret (de_cmp (opR_eq hu) (den_eq hK) (de_blt call_lenA (den_len hK) (by rfl) T.n_len (by decide +kernel) (da_cons (de_call ⟨hB.gK, hB.gf, hB.gc, hB.gn, hB.gt⟩ O_5 (hB.room.mono (by decide)) hB.gd (by rfl) T.g_5 T.F_5.kp T.b_5 hB.takes (len_cons (len_nil)) (da_cons (de_var (pv 0)) (da_nil))) (da_nil))) (de_blt call_lenA (den_len hK) (by rfl) T.n_len (by decide +kernel) (da_cons (de_var (pv 0)) (da_nil))) (nomark _))))
theorem ok_7 (T : Tx P G mg fA fD w cA kA pA) : FnG P w G.K mg base 2 (fA 7) (fD 7) ["value"] (spD G 1 m_7) := by
  have nd := sc_7.nd
  refine def_ok (k := 1) T.F_7 sc_7 rfl fun E cd A outer s H B hB => ?_
  have hK := hB.gK
  have hu := hu65 hB.room
  exact
      ds_cons (ds_if (PW.pt (dw_or (dt_not (dt_truth hK (de_blt call_isi (den_isi hK) (by rfl) T.n_isinstance (by decide +kernel) (da_cons (de_var (pv 0)) (da_cons (de_ty (n := .str) (by rfl) T.n_str (by decide +kernel)) (da_nil)))))) (dw_or (dt_not (dt_chain op_le op_le den_le den_le (de_int) (de_blt call_lenA (den_len hK) (by rfl) T.n_len (by decide +kernel) (da_cons (de_var (pv 0)) (da_nil))) (de_gi (by rfl) T.c_MOST_SIGNS))) (dw_or1 (dt_cmp (opR_ne hu) (den_ne hK) (de_item hK (de_var (pv 0)) (de_neg (de_int)) (fun _ _ => rfl)) (de_gs (by rfl) T.c_TOP) (nomark _)))))) (ds_one (ds_ret (de_bl))) (ds_nil))
      (ds_one (ds_ret (de_blt (cr_all rfl) (den_all hK) (by rfl) T.n_all (by decide +kernel) (da_cons (de_lc (own := [("sign", 1)]) rfl nd (di_seq hK (de_slice hK (de_var (pv 0)) (do_none) (do_some (de_neg (de_int))))) (blkOk_by (N := ["value", "sign"]) (sc := defScope s_7) (own := [("sign", 1)]) (by decide +kernel)) (fun _ _ _ _ _ => dg_name (I := (· ∈ [1])) (by simp) (pg_name (i := 1) nd rfl (by first | exact Or.inl rfl | exact Or.inr rfl))) (fun _ _ _ _ _ => dts_nil) (fun _ _ _ _ _ => de_cmp (opR_in hu) (den_in hK) (de_var (pv 1)) (de_tup (da_cons (de_gs (by rfl) T.c_LEFT) (da_cons (de_gs (by rfl) T.c_RIGHT) (da_nil)))) (by rfl))) (da_nil)))))
theorem ok_8 (T : Tx P G mg fA fD w cA kA pA) : FnG P w G.K mg base 2 (fA 8) (fD 8) ["signs"] (spD G 1 m_8) := by
  have nd := sc_8.nd
  obtain ⟨d_PLACES, g_PLACES, t_PLACES⟩ := T.c_PLACES
  refine def_ok (k := 1) T.F_8 sc_8 rfl fun E cd A outer s H B hB => ?_
  have hK := hB.gK
  have hu := hu65 hB.room
  exact
      ds_cons (ds_par (i := 1) (j := 2) (fun ta ha => ps_par rfl nd rfl rfl (by decide) rfl rfl ha (by rfl)) (da_cons (de_lst (da_nil)) (da_cons (de_int) (da_nil))))
      (ds_cons (ds_for hB.own rfl (di_seq hK (de_var (pv 0))) (dg_name (I := fun _ => True) trivial (pg_name (i := 3) nd rfl (Or.inl rfl))) (ds_cons (ds_expr (de_mth hK PySem.F.plainAttrs_list PySem.F.slot_list_append PySem.F.type_list_append mt_append den_append (de_var (pv 1)) (da_cons (de_mul hK (de_var (pv 2)) (de_kd (by rfl) g_PLACES t_PLACES (de_var (pv 3)) (fun _ _ => rfl))) (da_nil))))
      (ds_one (ds_if (dt_cmp (opR_eq hu) (den_eq hK) (de_var (pv 3)) (de_gs (by rfl) T.c_RIGHT) (nomark _)) (ds_one (ds_set (i := 2) (fun te he => ps_set (i := 2) nd rfl (Or.inl rfl) he) (de_neg (de_var (pv 2))))) (ds_nil)))))
      (ds_one (ds_ret (de_blty call_tupleF (den_tuple hK) (by rfl) T.n_tuple (by decide +kernel) (da_cons (de_var (pv 1)) (da_nil))))))
theorem ok_9 (T : Tx P G mg fA fD w cA kA pA) : FnG P w G.K mg base 3 (fA 9) (fD 9) ["one", "other"] (spD G 2 m_9) := by
  have nd := sc_9.nd
  have O_8 : FnG P w G.K mg base 2 (fA 8) (fD 8) ["signs"] (spD G 1 m_8) := ok_8 T
  refine def_ok (k := 2) T.F_9 sc_9 rfl fun E cd A outer s H B hB => ?_
  have hK := hB.gK
  have hu := hu65 hB.room
  exact
      ds_cons (ds_par (i := 2) (j := 3) (fun ta ha => ps_par rfl nd rfl rfl (by decide) rfl rfl ha (by rfl)) (da_cons (de_call ⟨hB.gK, hB.gf, hB.gc, hB.gn, hB.gt⟩ O_8 (hB.room.mono (by decide)) hB.gd (by rfl) T.g_8 T.F_8.kp T.b_8 hB.takes (len_cons (len_nil)) (da_cons (de_var (pv 0)) (da_nil))) (da_cons (de_call ⟨hB.gK, hB.gf, hB.gc, hB.gn, hB.gt⟩ O_8 (hB.room.mono (by decide)) hB.gd (by rfl) T.g_8 T.F_8.kp T.b_8 hB.takes (len_cons (len_nil)) (da_cons (de_var (pv 1)) (da_nil))) (da_nil))))
      (ds_one (ds_ret (de_sub (de_blty call_int1 den_int1 (by rfl) T.n_int (by decide +kernel) (da_cons (de_cmp (opR_gt2 hu) (den_gt2 hK) (de_var (pv 2)) (de_var (pv 3)) (nomark _)) (da_nil))) (de_blty call_int1 den_int1 (by rfl) T.n_int (by decide +kernel) (da_cons (de_cmp (opR_lt hu) (den_lt hK) (de_var (pv 2)) (de_var (pv 3)) (nomark _)) (da_nil))))))
theorem ok_10 (T : Tx P G mg fA fD w cA kA pA) : FnG P w G.K mg base 2 (fA 10) (fD 10) ["word", "i"] (spD G 2 m_10) := by
  have nd := sc_10.nd
  refine def_ok (k := 1) T.F_10 sc_10 rfl fun E cd A outer s H B hB => ?_
  have hK := hB.gK
  have hu := hu65 hB.room
  exact
      ds_one (ds_ret (de_add hK (de_slice hK (de_var (pv 0)) (do_some (de_var (pv 1))) (do_none)) (de_slice hK (de_var (pv 0)) (do_none) (do_some (de_var (pv 1))))))
theorem ok_11 (T : Tx P G mg fA fD w cA kA pA) : FnG P w G.K mg base 3 (fA 11) (fD 11) ["word"] (spD G 1 m_11) := by
  have nd := sc_11.nd
  have O_10 : FnG P w G.K mg base 2 (fA 10) (fD 10) ["word", "i"] (spD G 2 m_10) := ok_10 T
  refine def_ok (k := 2) T.F_11 sc_11 rfl fun E cd A outer s H B hB => ?_
  have hK := hB.gK
  have hu := hu65 hB.room
  exact
      ds_one (ds_ret (de_lc (own := [("i", 1)]) rfl nd (di_rng1 (by rfl) T.n_range (da_cons (de_blt call_lenA (den_len hK) (by rfl) T.n_len (by decide +kernel) (da_cons (de_var (pv 0)) (da_nil))) (da_nil)) rfl (len_cons (len_nil))) (blkOk_by (N := ["word", "i"]) (sc := defScope s_11) (own := [("i", 1)]) (by decide +kernel)) (fun _ _ _ _ _ => dg_name (I := (· ∈ [1])) (by simp) (pg_name (i := 1) nd rfl (by first | exact Or.inl rfl | exact Or.inr rfl))) (fun _ _ _ _ _ => dts_nil) (fun _ _ _ _ _ => de_call ⟨hB.gK, hB.gf, hB.gc, hB.gn, hB.gt⟩ O_10 (hB.room.mono (by decide)) hB.gd (by rfl) T.g_10 T.F_10.kp T.b_10 L2.takes0 (len_cons (len_cons (len_nil))) (da_cons (de_var (pv 0)) (da_cons (de_var (pv 1)) (da_nil))))))
theorem ok_12 (T : Tx P G mg fA fD w cA kA pA) (TBs : ∀ j ∈ lamDefs, TabB base mg (kA j) (pA j)) : FnG P w G.K mg base 5 (fA 12) (fD 12) ["word"] (spD G 1 m_12) := by
  have nd := sc_12.nd
  have O_8 : FnG P w G.K mg base 2 (fA 8) (fD 8) ["signs"] (spD G 1 m_8) := ok_8 T
  have O_11 : FnG P w G.K mg base 3 (fA 11) (fD 11) ["word"] (spD G 1 m_11) := ok_11 T
  have TB : TabB base mg (kA 12) (pA 12) := TBs 12 (by decide)
  refine def_okC (k := 4) T.F_12 sc_12 rfl fun E cd A outer s H B hcd hB => ?_
  have hK := hB.gK
  have hu := hu65 hB.room
  exact
      ds_cons (ds_set (i := 1) (fun te he => ps_set (i := 1) nd rfl (Or.inr rfl) he) (de_lc (own := [("shift", 2)]) rfl nd (di_seq hK (de_call ⟨hB.gK, hB.gf, hB.gc, hB.gn, hB.gt⟩ O_11 (hB.room.mono (by decide)) hB.gd (by rfl) T.g_11 T.F_11.kp T.b_11 hB.takes (len_cons (len_nil)) (da_cons (de_var (pv 0)) (da_nil)))) (blkOk_by (N := ["word", "keys", "shift", "index"]) (sc := defScope s_12) (own := [("shift", 2)]) (by decide +kernel)) (fun _ _ _ _ _ => dg_name (I := (· ∈ [2])) (by simp) (pg_name (i := 2) nd rfl (by first | exact Or.inl rfl | exact Or.inr rfl))) (fun _ _ _ _ _ => dts_nil) (fun _ _ _ _ _ => de_call ⟨hB.gK, hB.gf, hB.gc, hB.gn, hB.gt⟩ O_8 (hB.room.mono (by decide)) hB.gd (by rfl) T.g_8 T.F_8.kp T.b_8 L2.takes0 (len_cons (len_nil)) (da_cons (de_var (pv 2)) (da_nil)))))
      (ds_one (ds_ret (de_sortL (k := 0) (j := 3) ⟨hB.gK, hB.gf, hB.gc, hB.gn, hB.gt⟩ rfl rfl nd rfl (by rfl) T.n_sorted (by rfl) T.n_range (de_blt call_lenA (den_len hK) (by rfl) T.n_len (by decide +kernel) (da_cons (de_var (pv 0)) (da_nil))) TB (hcd.trans T.k_12) T.t_12 T.u_12 (hB.room.mono (by decide)) hB.gd (lamP_by (sc := defScope s_12) (by decide +kernel)) rfl (fun _ _ _ _ _ _ => rfl) (fun A outer s H E f c' B hB => have hK := hB.gK; have hu := hu65 hB.room; de_item hK (de_var (pv 1)) (de_var (pv 3)) (fun _ _ => rfl)))))
theorem ok_13 (T : Tx P G mg fA fD w cA kA pA) : FnG P w G.K mg base 4 (fA 13) (fD 13) ["word"] (spD G 1 m_13) := by
  have nd := sc_13.nd
  have O_9 : FnG P w G.K mg base 3 (fA 9) (fD 9) ["one", "other"] (spD G 2 m_9) := ok_9 T
  have O_10 : FnG P w G.K mg base 2 (fA 10) (fD 10) ["word", "i"] (spD G 2 m_10) := ok_10 T
  refine def_ok (k := 3) T.F_13 sc_13 rfl fun E cd A outer s H B hB => ?_
  have hK := hB.gK
  have hu := hu65 hB.room
  exact
      ds_cons (ds_for hB.own rfl (di_rng2 (by rfl) T.n_range (da_cons (de_int) (da_cons (de_blt call_lenA (den_len hK) (by rfl) T.n_len (by decide +kernel) (da_cons (de_var (pv 0)) (da_nil))) (da_nil))) (len_cons (len_cons (len_nil)))) (dg_name (I := fun _ => True) trivial (pg_name (i := 1) nd rfl (Or.inl rfl))) (ds_one (ds_if (dt_cmp (opR_gt2 hu) (den_gt2 hK) (de_call ⟨hB.gK, hB.gf, hB.gc, hB.gn, hB.gt⟩ O_9 (hB.room.mono (by decide)) hB.gd (by rfl) T.g_9 T.F_9.kp T.b_9 hB.takes (len_cons (len_cons (len_nil))) (da_cons (de_call ⟨hB.gK, hB.gf, hB.gc, hB.gn, hB.gt⟩ O_10 (hB.room.mono (by decide)) hB.gd (by rfl) T.g_10 T.F_10.kp T.b_10 hB.takes (len_cons (len_cons (len_nil))) (da_cons (de_var (pv 0)) (da_cons (de_var (pv 1)) (da_nil)))) (da_cons (de_var (pv 0)) (da_nil)))) (de_int) (nomark _)) (ds_one (ds_ret (de_var (pv 1)))) (ds_nil))))
      (ds_one (ds_ret (de_non)))
theorem ok_14 (T : Tx P G mg fA fD w cA kA pA) : FnG P w G.K mg base 5 (fA 14) (fD 14) ["word"] (spD G 1 m_14) := by
  have nd := sc_14.nd
  have O_13 : FnG P w G.K mg base 4 (fA 13) (fD 13) ["word"] (spD G 1 m_13) := ok_13 T
  refine def_ok (k := 4) T.F_14 sc_14 rfl fun E cd A outer s H B hB => ?_
  have hK := hB.gK
  have hu := hu65 hB.room
  exact
      ds_one (ds_ret (de_cmp op_isN den_isN (de_call ⟨hB.gK, hB.gf, hB.gc, hB.gn, hB.gt⟩ O_13 (hB.room.mono (by decide)) hB.gd (by rfl) T.g_13 T.F_13.kp T.b_13 hB.takes (len_cons (len_nil)) (da_cons (de_var (pv 0)) (da_nil))) (de_non) (nomark _)))
theorem ok_15 (T : Tx P G mg fA fD w cA kA pA) : FnG P w G.K mg base 5 (fA 15) (fD 15) ["word"] (spD G 1 m_15) := by
  have nd := sc_15.nd
  have O_13 : FnG P w G.K mg base 4 (fA 13) (fD 13) ["word"] (spD G 1 m_13) := ok_13 T
  refine def_ok (k := 4) T.F_15 sc_15 rfl fun E cd A outer s H B hB => ?_
  have hK := hB.gK
  have hu := hu65 hB.room
  exact
      ds_cons (ds_set (i := 1) (fun te he => ps_set (i := 1) nd rfl (Or.inl rfl) he) (de_call ⟨hB.gK, hB.gf, hB.gc, hB.gn, hB.gt⟩ O_13 (hB.room.mono (by decide)) hB.gd (by rfl) T.g_13 T.F_13.kp T.b_13 hB.takes (len_cons (len_nil)) (da_cons (de_var (pv 0)) (da_nil))))
      (ds_one (ds_ret (de_if (dt_cmp op_isN den_isN (de_var (pv 1)) (de_non) (nomark _)) (de_tup (da_cons (de_tup (da_cons (de_gs (by rfl) T.c_GREATEST) (da_cons (de_var (pv 0)) (da_nil)))) (da_cons (de_tup (da_nil)) (da_nil)))) (de_tup (da_cons (de_tup (da_cons (de_gs (by rfl) T.c_BEATEN) (da_cons (de_var (pv 0)) (da_nil)))) (da_cons (de_var (pv 1)) (da_nil)))))))
theorem ok_16 (T : Tx P G mg fA fD w cA kA pA) : FnG P w G.K mg base 4 (fA 16) (fD 16) ["word", "value"] (spD G 2 m_16) := by
  have nd := sc_16.nd
  have O_2 : FnG P w G.K mg base 3 (fA 2) (fD 2) ["value", "least", "most"] (spD G 3 m_2) := ok_2 T
  have O_9 : FnG P w G.K mg base 3 (fA 9) (fD 9) ["one", "other"] (spD G 2 m_9) := ok_9 T
  have O_10 : FnG P w G.K mg base 2 (fA 10) (fD 10) ["word", "i"] (spD G 2 m_10) := ok_10 T
  refine def_ok (k := 3) T.F_16 sc_16 rfl fun E cd A outer s H B hB => ?_
  have hK := hB.gK
  have hu := hu65 hB.room
  exact
      ds_one (ds_ret (de_and hK (de_call ⟨hB.gK, hB.gf, hB.gc, hB.gn, hB.gt⟩ O_2 (hB.room.mono (by decide)) hB.gd (by rfl) T.g_2 T.F_2.kp T.b_2 hB.takes (len_cons (len_cons (len_cons (len_nil)))) (da_cons (de_var (pv 1)) (da_cons (de_int) (da_cons (de_sub (de_blt call_lenA (den_len hK) (by rfl) T.n_len (by decide +kernel) (da_cons (de_var (pv 0)) (da_nil))) (de_int)) (da_nil))))) (de_one (de_cmp (opR_gt2 hu) (den_gt2 hK) (de_call ⟨hB.gK, hB.gf, hB.gc, hB.gn, hB.gt⟩ O_9 (hB.room.mono (by decide)) hB.gd (by rfl) T.g_9 T.F_9.kp T.b_9 hB.takes (len_cons (len_cons (len_nil))) (da_cons (de_call ⟨hB.gK, hB.gf, hB.gc, hB.gn, hB.gt⟩ O_10 (hB.room.mono (by decide)) hB.gd (by rfl) T.g_10 T.F_10.kp T.b_10 hB.takes (len_cons (len_cons (len_nil))) (da_cons (de_var (pv 0)) (da_cons (de_var (pv 1)) (da_nil)))) (da_cons (de_var (pv 0)) (da_nil)))) (de_int) (nomark _)))))
theorem ok_17 (T : Tx P G mg fA fD w cA kA pA) : FnG P w G.K mg base 2 (fA 17) (fD 17) ["n"] (spD G 1 m_17) := by
  have nd := sc_17.nd
  refine def_ok (k := 1) T.F_17 sc_17 rfl fun E cd A outer s H B hB => ?_
  have hK := hB.gK
  have hu := hu65 hB.room
  exact
      ds_cons (ds_set (i := 1) (fun te he => ps_set (i := 1) nd rfl (Or.inl rfl) he) (de_lst (da_cons (de_str) (da_nil))))
      (ds_cons (ds_for hB.own rfl (di_rng1 (by rfl) T.n_range (da_cons (de_sub (de_var (pv 0)) (de_int)) (da_nil)) rfl (len_cons (len_nil))) (dg_name (I := fun _ => True) trivial (pg_name (i := 2) nd rfl (Or.inl rfl))) (ds_one (ds_setLc2 (i := 1) (own := [("row", 3), ("sign", 4)]) (vs1 := [4]) rfl nd rfl rfl (sw_true rfl rfl rfl (by decide +kernel)) (di_seq hK (de_var (pv 1))) (blkOk_by (N := ["n", "found", "turn", "row", "sign"]) (sc := defScope s_17) (own := [("row", 3), ("sign", 4)]) (by decide +kernel)) (by simp) (fun _ _ _ _ _ => dg_name (I := (· ∈ [3, 4])) (by simp) (pg_name (i := 3) nd rfl (by first | exact Or.inl rfl | exact Or.inr rfl))) (fun _ _ _ _ _ => dts_nil) (fun _ _ _ _ _ => di_seq hK (de_tup (da_cons (de_gs (by rfl) T.c_LEFT) (da_cons (de_gs (by rfl) T.c_RIGHT) (da_nil))))) (fun _ _ _ _ _ => dg_name (I := (· ∈ [4])) (by simp) (pg_name (i := 4) nd rfl (by first | exact Or.inl rfl | exact Or.inr rfl))) (fun _ _ _ _ _ => dts_nil) (fun _ _ _ _ _ => de_add hK (de_var (pv 3)) (de_var (pv 4))))))
      (ds_one (ds_ret (de_lc (own := [("row", 3)]) rfl nd (di_seq hK (de_var (pv 1))) (blkOk_by (N := ["n", "found", "turn", "row", "sign"]) (sc := defScope s_17) (own := [("row", 3)]) (by decide +kernel)) (fun _ _ _ _ _ => dg_name (I := (· ∈ [3])) (by simp) (pg_name (i := 3) nd rfl (by first | exact Or.inl rfl | exact Or.inr rfl))) (fun _ _ _ _ _ => dts_nil) (fun _ _ _ _ _ => de_add hK (de_var (pv 3)) (de_gs (by rfl) T.c_TOP))))))
theorem ok_18 (T : Tx P G mg fA fD w cA kA pA) : FnG P w G.K mg base 8 (fA 18) (fD 18) ["n"] (spD G 1 m_18) := by
  have nd := sc_18.nd
  have O_8 : FnG P w G.K mg base 2 (fA 8) (fD 8) ["signs"] (spD G 1 m_8) := ok_8 T
  have O_14 : FnG P w G.K mg base 5 (fA 14) (fD 14) ["word"] (spD G 1 m_14) := ok_14 T
  have O_17 : FnG P w G.K mg base 2 (fA 17) (fD 17) ["n"] (spD G 1 m_17) := ok_17 T
  refine def_ok (k := 7) T.F_18 sc_18 rfl fun E cd A outer s H B hB => ?_
  have hK := hB.gK
  have hu := hu65 hB.room
  exact
      ds_one (ds_ret (de_kt <| de_sortK ⟨hB.gK, hB.gf, hB.gc, hB.gn, hB.gt⟩ hK O_8 (hB.room.mono (by decide)) hB.gd (by rfl) T.n_sorted (by rfl) T.g_8 T.b_8 (da_cons (de_lc (own := [("word", 1)]) rfl nd (di_seq hK (de_call ⟨hB.gK, hB.gf, hB.gc, hB.gn, hB.gt⟩ O_17 (hB.room.mono (by decide)) hB.gd (by rfl) T.g_17 T.F_17.kp T.b_17 hB.takes (len_cons (len_nil)) (da_cons (de_var (pv 0)) (da_nil)))) (blkOk_by (N := ["n", "word"]) (sc := defScope s_18) (own := [("word", 1)]) (by decide +kernel)) (fun _ _ _ _ _ => dg_name (I := (· ∈ [1])) (by simp) (pg_name (i := 1) nd rfl (by first | exact Or.inl rfl | exact Or.inr rfl))) (fun _ _ _ _ _ => dts_one (dt_truth hK (de_call ⟨hB.gK, hB.gf, hB.gc, hB.gn, hB.gt⟩ O_14 (hB.room.mono (by decide)) hB.gd (by rfl) T.g_14 T.F_14.kp T.b_14 L2.takes0 (len_cons (len_nil)) (da_cons (de_var (pv 1)) (da_nil))))) (fun _ _ _ _ _ => de_var (pv 1))) (da_nil))))
theorem ok_19 (T : Tx P G mg fA fD w cA kA pA) : FnG P w G.K mg base 2 (fA 19) (fD 19) ["number"] (spD G 1 m_19) := by
  have nd := sc_19.nd
  refine def_ok (k := 1) T.F_19 sc_19 rfl fun E cd A outer s H B hB => ?_
  have hK := hB.gK
  have hu := hu65 hB.room
  exact
      ds_cons (ds_asg (de_tup (da_cons (de_int) (da_cons (de_int) (da_nil)))) (dg_tup hK rfl (dgs_cons (dg_name (I := fun _ => True) trivial (pg_name (i := 1) nd rfl (Or.inl rfl))) (dgs_cons (dg_name (I := fun _ => True) trivial (pg_name (i := 2) nd rfl (Or.inl rfl))) (dgs_nil)))))
      (ds_cons (ds_while hB.own (dt_cmp (opR_gt2 hu) (den_gt2 hK) (de_var (pv 0)) (de_int) (nomark _)) (ds_cons (ds_if (dt_cmp (opR_eq hu) (den_eq hK) (de_mod (de_var (pv 0)) (de_var (pv 2))) (de_int) (nomark _)) (ds_cons (ds_aug (fun te he => ps_aug (i := 0) nd rfl (Or.inl rfl) he ip_fdiv) den_ipfdiv (de_var (pv 2)))
      (ds_cons (ds_if (dt_cmp (opR_eq hu) (den_eq hK) (de_mod (de_var (pv 0)) (de_var (pv 2))) (de_int) (nomark _)) (ds_one (ds_ret (de_int))) (ds_nil))
      (ds_one (ds_set (i := 1) (fun te he => ps_set (i := 1) nd rfl (Or.inl rfl) he) (de_neg (de_var (pv 1))))))) (ds_nil))
      (ds_one (ds_aug (fun te he => ps_aug (i := 2) nd rfl (Or.inl rfl) he ip_addX) den_addX (de_int)))))
      (ds_one (ds_ret (de_var (pv 1)))))
theorem ok_20 (T : Tx P G mg fA fD w cA kA pA) : FnG P w G.K mg base 3 (fA 20) (fD 20) ["n"] (spD G 1 m_20) := by
  have nd := sc_20.nd
  have O_19 : FnG P w G.K mg base 2 (fA 19) (fD 19) ["number"] (spD G 1 m_19) := ok_19 T
  refine def_ok (k := 2) T.F_20 sc_20 rfl fun E cd A outer s H B hB => ?_
  have hK := hB.gK
  have hu := hu65 hB.room
  exact
      ds_cons (ds_set (i := 1) (fun te he => ps_set (i := 1) nd rfl (Or.inl rfl) he) (de_int))
      (ds_cons (ds_for hB.own rfl (di_rng3 (by rfl) T.n_range (da_cons (de_int) (da_cons (de_add hK (de_var (pv 0)) (de_int)) (da_cons (de_int) (da_nil))))) (dg_name (I := fun _ => True) trivial (pg_name (i := 2) nd rfl (Or.inl rfl))) (ds_one (ds_if (dt_cmp (opR_eq hu) (den_eq hK) (de_mod (de_var (pv 0)) (de_var (pv 2))) (de_int) (nomark _)) (ds_one (ds_aug (fun te he => ps_aug (i := 1) nd rfl (Or.inl rfl) he ip_addX) den_addX (de_mul hK (de_call ⟨hB.gK, hB.gf, hB.gc, hB.gn, hB.gt⟩ O_19 (hB.room.mono (by decide)) hB.gd (by rfl) T.g_19 T.F_19.kp T.b_19 hB.takes (len_cons (len_nil)) (da_cons (de_var (pv 2)) (da_nil))) (de_shl (de_int) (de_fdiv (de_var (pv 0)) (de_var (pv 2))))))) (ds_nil))))
      (ds_one (ds_ret (de_fdiv (de_var (pv 1)) (de_mul hK (de_int) (de_var (pv 0)))))))
theorem ok_21 (T : Tx P G mg fA fD w cA kA pA) : FnG P w G.K mg base 2 (fA 21) (fD 21) ["word"] (spD G 1 m_21) := by
  have nd := sc_21.nd
  refine def_ok (k := 1) T.F_21 sc_21 rfl fun E cd A outer s H B hB => ?_
  have hK := hB.gK
  have hu := hu65 hB.room
  exact
      ds_one (ds_ret (de_sub (de_int) (de_mul hK (de_int) (de_mod (de_mX (mth_count hK hu) (de_var (pv 0)) (da_cons (de_gs (by rfl) T.c_RIGHT) (da_nil))) (de_int)))))
theorem ok_22 (T : Tx P G mg fA fD w cA kA pA) : FnG P w G.K mg base 2 (fA 22) (fD 22) ["line"] (spD G 1 m_22) := by
  have nd := sc_22.nd
  refine def_ok (k := 1) T.F_22 sc_22 rfl fun E cd A outer s H B hB => ?_
  have hK := hB.gK
  have hu := hu65 hB.room
  exact
      ds_cons (ds_set (i := 1) (fun te he => ps_set (i := 1) nd rfl (Or.inl rfl) he) (de_mX (mth_index hK hu) (de_var (pv 0)) (da_cons (de_blt (call_maxS rfl hB.room) (den_best hK) (by rfl) T.n_max (by decide +kernel) (da_cons (de_var (pv 0)) (da_nil))) (da_nil))))
      (ds_cons (ds_if (PW.pt (dw_or (dt_cmp (opR_lt hu) (den_lt hK) (de_blt call_lenA (den_len hK) (by rfl) T.n_len (by decide +kernel) (da_cons (de_var (pv 0)) (da_nil))) (de_gi (by rfl) T.c_LEAST_BUMP) (nomark _)) (dw_or1 (dt_not (dt_chain (opR_lt hu) (opR_lt hu) (den_lt hK) (den_lt hK) (de_int) (de_var (pv 1)) (de_sub (de_blt call_lenA (den_len hK) (by rfl) T.n_len (by decide +kernel) (da_cons (de_var (pv 0)) (da_nil))) (de_int))))))) (ds_one (ds_ret (de_bl))) (ds_nil))
      (ds_cons (ds_setLc (i := 2) (own := [("i", 3)]) rfl nd rfl rfl (sw_true rfl rfl rfl (by decide +kernel)) (di_rng1 (by rfl) T.n_range (da_cons (de_var (pv 1)) (da_nil)) rfl (len_cons (len_nil))) (blkOk_by (N := ["line", "top", "rises", "i"]) (sc := defScope s_22) (own := [("i", 3)]) (by decide +kernel)) (fun _ _ _ _ _ => dg_name (I := (· ∈ [3])) (by simp) (pg_name (i := 3) nd rfl (by first | exact Or.inl rfl | exact Or.inr rfl))) (fun _ _ _ _ _ => dts_nil) (fun _ _ _ _ _ => de_cmp (opR_lt hu) (den_lt hK) (de_item hK (de_var (pv 0)) (de_var (pv 3)) (fun _ _ => rfl)) (de_item hK (de_var (pv 0)) (de_add hK (de_var (pv 3)) (de_int)) (fun _ _ => rfl)) (nomark _)))
      (ds_one (ds_ret (de_and hK (de_blt (cr_all rfl) (den_all hK) (by rfl) T.n_all (by decide +kernel) (da_cons (de_var (pv 2)) (da_nil))) (de_one (de_blt (cr_all rfl) (den_all hK) (by rfl) T.n_all (by decide +kernel) (da_cons (de_lc (own := [("i", 3)]) rfl nd (di_rng2 (by rfl) T.n_range (da_cons (de_var (pv 1)) (da_cons (de_sub (de_blt call_lenA (den_len hK) (by rfl) T.n_len (by decide +kernel) (da_cons (de_var (pv 0)) (da_nil))) (de_int)) (da_nil))) (len_cons (len_cons (len_nil)))) (blkOk_by (N := ["line", "top", "rises", "i"]) (sc := defScope s_22) (own := [("i", 3)]) (by decide +kernel)) (fun _ _ _ _ _ => dg_name (I := (· ∈ [3])) (by simp) (pg_name (i := 3) nd rfl (by first | exact Or.inl rfl | exact Or.inr rfl))) (fun _ _ _ _ _ => dts_nil) (fun _ _ _ _ _ => de_cmp (opR_gt2 hu) (den_gt2 hK) (de_item hK (de_var (pv 0)) (de_var (pv 3)) (fun _ _ => rfl)) (de_item hK (de_var (pv 0)) (de_add hK (de_var (pv 3)) (de_int)) (fun _ _ => rfl)) (nomark _))) (da_nil)))))))))
theorem ok_23 (T : Tx P G mg fA fD w cA kA pA) : FnG P w G.K mg base 2 (fA 23) (fD 23) ["line"] (spD G 1 m_23) := by
  have nd := sc_23.nd
  refine def_ok (k := 1) T.F_23 sc_23 rfl fun E cd A outer s H B hB => ?_
  have hK := hB.gK
  have hu := hu65 hB.room
  exact
      ds_one (ds_ret (de_mX (mth_index hK hu) (de_var (pv 0)) (da_cons (de_blt (call_maxS rfl hB.room) (den_best hK) (by rfl) T.n_max (by decide +kernel) (da_cons (de_var (pv 0)) (da_nil))) (da_nil))))
theorem ok_24 (T : Tx P G mg fA fD w cA kA pA) : FnG P w G.K mg base 3 (fA 24) (fD 24) ["line"] (spD G 1 m_24) := by
  have nd := sc_24.nd
  have O_23 : FnG P w G.K mg base 2 (fA 23) (fD 23) ["line"] (spD G 1 m_23) := ok_23 T
  refine def_ok (k := 2) T.F_24 sc_24 rfl fun E cd A outer s H B hB => ?_
  have hK := hB.gK
  have hu := hu65 hB.room
  exact
      ds_cons (ds_par (i := 1) (j := 2) (fun ta ha => ps_par rfl nd rfl rfl (by decide) rfl rfl ha (by rfl)) (da_cons (de_call ⟨hB.gK, hB.gf, hB.gc, hB.gn, hB.gt⟩ O_23 (hB.room.mono (by decide)) hB.gd (by rfl) T.g_23 T.F_23.kp T.b_23 hB.takes (len_cons (len_nil)) (da_cons (de_var (pv 0)) (da_nil))) (da_cons (de_lst (da_nil)) (da_nil))))
      (ds_cons (ds_set (i := 3) (fun te he => ps_set (i := 3) nd rfl (Or.inl rfl) he) (de_item hK (de_var (pv 0)) (de_var (pv 1)) (fun _ _ => rfl)))
      (ds_cons (ds_while hB.own (dt_cmp (opR_ne hu) (den_ne hK) (de_var (pv 3)) (de_var (pv 1)) (nomark _)) (ds_cons (ds_expr (de_mth hK PySem.F.plainAttrs_list PySem.F.slot_list_append PySem.F.type_list_append mt_append den_append (de_var (pv 2)) (da_cons (de_if (dt_cmp (opR_lt hu) (den_lt hK) (de_var (pv 3)) (de_var (pv 1)) (nomark _)) (de_gs (by rfl) T.c_LEFT) (de_gs (by rfl) T.c_RIGHT)) (da_nil))))
      (ds_one (ds_set (i := 3) (fun te he => ps_set (i := 3) nd rfl (Or.inl rfl) he) (de_item hK (de_var (pv 0)) (de_var (pv 3)) (fun _ _ => rfl))))))
      (ds_one (ds_ret (de_add hK (de_strM PySem.F.slot_str_join PySem.F.type_str_join mt_join (den_join hK) (de_str) (de_var (pv 2))) (de_gs (by rfl) T.c_TOP))))))
theorem ok_25 (T : Tx P G mg fA fD w cA kA pA) (TBs : ∀ j ∈ lamDefs, TabB base mg (kA j) (pA j)) : FnG P w G.K mg base 6 (fA 25) (fD 25) ["word"] (spD G 1 m_25) := by
  have nd := sc_25.nd
  have O_12 : FnG P w G.K mg base 5 (fA 12) (fD 12) ["word"] (spD G 1 m_12) := ok_12 T TBs
  refine def_ok (k := 5) T.F_25 sc_25 rfl fun E cd A outer s H B hB => ?_
  have hK := hB.gK
  have hu := hu65 hB.room
  exact
      ds_cons (ds_set (i := 1) (fun te he => ps_set (i := 1) nd rfl (Or.inl rfl) he) (de_mul hK (de_lst (da_cons (de_int) (da_nil))) (de_blt call_lenA (den_len hK) (by rfl) T.n_len (by decide +kernel) (da_cons (de_var (pv 0)) (da_nil)))))
      (ds_cons (ds_for hB.own rfl (di_enum hK (by rfl) T.n_enumerate (da_cons (de_call ⟨hB.gK, hB.gf, hB.gc, hB.gn, hB.gt⟩ O_12 (hB.room.mono (by decide)) hB.gd (by rfl) T.g_12 T.F_12.kp T.b_12 hB.takes (len_cons (len_nil)) (da_cons (de_var (pv 0)) (da_nil))) (da_nil))) (dg_tup hK rfl (dgs_cons (dg_name (I := fun _ => True) trivial (pg_name (i := 2) nd rfl (Or.inl rfl))) (dgs_cons (dg_name (I := fun _ => True) trivial (pg_name (i := 3) nd rfl (Or.inl rfl))) (dgs_nil)))) (ds_one (ds_asg (de_var (pv 2)) (dg_sub (I := fun _ => True) (de_var (pv 1)) (de_var (pv 3))))))
      (ds_cons (ds_set (i := 4) (fun te he => ps_set (i := 4) nd rfl (Or.inl rfl) he) (de_mul hK (de_lst (da_cons (de_int) (da_nil))) (de_blt call_lenA (den_len hK) (by rfl) T.n_len (by decide +kernel) (da_cons (de_var (pv 0)) (da_nil)))))
      (ds_cons (ds_for hB.own rfl (di_rng1 (by rfl) T.n_range (da_cons (de_blt call_lenA (den_len hK) (by rfl) T.n_len (by decide +kernel) (da_cons (de_var (pv 0)) (da_nil))) (da_nil)) rfl (len_cons (len_nil))) (dg_name (I := fun _ => True) trivial (pg_name (i := 3) nd rfl (Or.inl rfl))) (ds_one (ds_asg (de_item hK (de_var (pv 1)) (de_mod (de_add hK (de_var (pv 3)) (de_int)) (de_blt call_lenA (den_len hK) (by rfl) T.n_len (by decide +kernel) (da_cons (de_var (pv 0)) (da_nil)))) (fun _ _ => rfl)) (dg_sub (I := fun _ => True) (de_var (pv 4)) (de_item hK (de_var (pv 1)) (de_var (pv 3)) (fun _ _ => rfl))))))
      (ds_one (ds_ret (de_blty call_tupleF (den_tuple hK) (by rfl) T.n_tuple (by decide +kernel) (da_cons (de_var (pv 4)) (da_nil))))))))
theorem ok_26 (T : Tx P G mg fA fD w cA kA pA) : FnG P w G.K mg base 3 (fA 26) (fD 26) ["value"] (spD G 1 m_26) := by
  have nd := sc_26.nd
  have O_7 : FnG P w G.K mg base 2 (fA 7) (fD 7) ["value"] (spD G 1 m_7) := ok_7 T
  refine def_ok (k := 2) T.F_26 sc_26 rfl fun E cd A outer s H B hB => ?_
  have hK := hB.gK
  have hu := hu65 hB.room
  exact
      ds_one (ds_if (dt_not (dt_truth hK (de_call ⟨hB.gK, hB.gf, hB.gc, hB.gn, hB.gt⟩ O_7 (hB.room.mono (by decide)) hB.gd (by rfl) T.g_7 T.F_7.kp T.b_7 hB.takes (len_cons (len_nil)) (da_cons (de_var (pv 0)) (da_nil))))) (ds_one (ds_raise0 rfl hB.takes (by rw [hB.gc]; exact T.a_1) (pmk_er0 T.e_1 rfl (by rfl)))) (ds_nil))
theorem ok_27 (T : Tx P G mg fA fD w cA kA pA) : FnG P w G.K mg base 4 (fA 27) (fD 27) ["word", "words"] (spD G 2 m_27) := by
  have nd := sc_27.nd
  have O_7 : FnG P w G.K mg base 2 (fA 7) (fD 7) ["value"] (spD G 1 m_7) := ok_7 T
  have O_26 : FnG P w G.K mg base 3 (fA 26) (fD 26) ["value"] (spD G 1 m_26) := ok_26 T
  refine def_ok (k := 3) T.F_27 sc_27 rfl fun E cd A outer s H B hB => ?_
  have hK := hB.gK
  have hu := hu65 hB.room
  exact
      ds_cons (ds_expr (de_call ⟨hB.gK, hB.gf, hB.gc, hB.gn, hB.gt⟩ O_26 (hB.room.mono (by decide)) hB.gd (by rfl) T.g_26 T.F_26.kp T.b_26 hB.takes (len_cons (len_nil)) (da_cons (de_var (pv 0)) (da_nil))))
      (ds_one (ds_if (PW.pt (dw_or (dt_not (dt_truth hK (de_blt call_isi (den_isi hK) (by rfl) T.n_isinstance (by decide +kernel) (da_cons (de_var (pv 1)) (da_cons (de_ty (n := .tuple) (by rfl) T.n_tuple (by decide +kernel)) (da_nil)))))) (dw_or1 (dt_not (dt_truth hK (de_blt (cr_all rfl) (den_all hK) (by rfl) T.n_all (by decide +kernel) (da_cons (de_lc (own := [("one", 2)]) rfl nd (di_seq hK (de_var (pv 1))) (blkOk_by (N := ["word", "words", "one"]) (sc := defScope s_27) (own := [("one", 2)]) (by decide +kernel)) (fun _ _ _ _ _ => dg_name (I := (· ∈ [2])) (by simp) (pg_name (i := 2) nd rfl (by first | exact Or.inl rfl | exact Or.inr rfl))) (fun _ _ _ _ _ => dts_nil) (fun _ _ _ _ _ => de_call ⟨hB.gK, hB.gf, hB.gc, hB.gn, hB.gt⟩ O_7 (hB.room.mono (by decide)) hB.gd (by rfl) T.g_7 T.F_7.kp T.b_7 L2.takes0 (len_cons (len_nil)) (da_cons (de_var (pv 2)) (da_nil)))) (da_nil)))))))) (ds_one (ds_raise0 rfl hB.takes (by rw [hB.gc]; exact T.a_1) (pmk_er0 T.e_1 rfl (by rfl)))) (ds_nil)))
theorem ok_28 (T : Tx P G mg fA fD w cA kA pA) : FnG P w G.K mg base 4 (fA 28) (fD 28) ["word", "other"] (spD G 2 m_28) := by
  have nd := sc_28.nd
  have O_26 : FnG P w G.K mg base 3 (fA 26) (fD 26) ["value"] (spD G 1 m_26) := ok_26 T
  refine def_ok (k := 3) T.F_28 sc_28 rfl fun E cd A outer s H B hB => ?_
  have hK := hB.gK
  have hu := hu65 hB.room
  exact
      ds_cons (ds_expr (de_call ⟨hB.gK, hB.gf, hB.gc, hB.gn, hB.gt⟩ O_26 (hB.room.mono (by decide)) hB.gd (by rfl) T.g_26 T.F_26.kp T.b_26 hB.takes (len_cons (len_nil)) (da_cons (de_var (pv 0)) (da_nil))))
      (ds_one (ds_expr (de_call ⟨hB.gK, hB.gf, hB.gc, hB.gn, hB.gt⟩ O_26 (hB.room.mono (by decide)) hB.gd (by rfl) T.g_26 T.F_26.kp T.b_26 hB.takes (len_cons (len_nil)) (da_cons (de_var (pv 1)) (da_nil)))))
theorem ok_29 (T : Tx P G mg fA fD w cA kA pA) : FnG P w G.K mg base 5 (fA 29) (fD 29) ["value"] (spD G 1 m_29) := by
  have nd := sc_29.nd
  have O_4 : FnG P w G.K mg base 4 (fA 4) (fD 4) ["value"] (spD G 1 m_4) := ok_4 T
  have O_22 : FnG P w G.K mg base 2 (fA 22) (fD 22) ["line"] (spD G 1 m_22) := ok_22 T
  refine def_ok (k := 4) T.F_29 sc_29 rfl fun E cd A outer s H B hB => ?_
  have hK := hB.gK
  have hu := hu65 hB.room
  exact
      ds_one (ds_if (PW.pt (dw_or (dt_not (dt_truth hK (de_call ⟨hB.gK, hB.gf, hB.gc, hB.gn, hB.gt⟩ O_4 (hB.room.mono (by decide)) hB.gd (by rfl) T.g_4 T.F_4.kp T.b_4 hB.takes (len_cons (len_nil)) (da_cons (de_var (pv 0)) (da_nil))))) (dw_or1 (dt_not (dt_truth hK (de_call ⟨hB.gK, hB.gf, hB.gc, hB.gn, hB.gt⟩ O_22 (hB.room.mono (by decide)) hB.gd (by rfl) T.g_22 T.F_22.kp T.b_22 hB.takes (len_cons (len_nil)) (da_cons (de_var (pv 0)) (da_nil)))))))) (ds_one (ds_raise0 rfl hB.takes (by rw [hB.gc]; exact T.a_0) (pmk_er0 T.e_0 rfl (by rfl)))) (ds_nil))
theorem ok_30 (T : Tx P G mg fA fD w cA kA pA) : FnG P w G.K mg base 5 (fA 30) (fD 30) ["word", "other"] (spD G 2 m_30) := by
  have nd := sc_30.nd
  have O_9 : FnG P w G.K mg base 3 (fA 9) (fD 9) ["one", "other"] (spD G 2 m_9) := ok_9 T
  have O_28 : FnG P w G.K mg base 4 (fA 28) (fD 28) ["word", "other"] (spD G 2 m_28) := ok_28 T
  refine def_ok (k := 4) T.F_30 sc_30 rfl fun E cd A outer s H B hB => ?_
  have hK := hB.gK
  have hu := hu65 hB.room
  exact
      ds_cons (ds_expr (de_call ⟨hB.gK, hB.gf, hB.gc, hB.gn, hB.gt⟩ O_28 (hB.room.mono (by decide)) hB.gd (by rfl) T.g_28 T.F_28.kp T.b_28 hB.takes (len_cons (len_cons (len_nil))) (da_cons (de_var (pv 0)) (da_cons (de_var (pv 1)) (da_nil)))))
      (ds_one (ds_ret (de_cmp (opR_gt2 hu) (den_gt2 hK) (de_call ⟨hB.gK, hB.gf, hB.gc, hB.gn, hB.gt⟩ O_9 (hB.room.mono (by decide)) hB.gd (by rfl) T.g_9 T.F_9.kp T.b_9 hB.takes (len_cons (len_cons (len_nil))) (da_cons (de_var (pv 0)) (da_cons (de_var (pv 1)) (da_nil)))) (de_int) (nomark _))))
theorem ok_31 (T : Tx P G mg fA fD w cA kA pA) : FnG P w G.K mg base 5 (fA 31) (fD 31) ["word", "other"] (spD G 2 m_31) := by
  have nd := sc_31.nd
  have O_9 : FnG P w G.K mg base 3 (fA 9) (fD 9) ["one", "other"] (spD G 2 m_9) := ok_9 T
  have O_28 : FnG P w G.K mg base 4 (fA 28) (fD 28) ["word", "other"] (spD G 2 m_28) := ok_28 T
  refine def_ok (k := 4) T.F_31 sc_31 rfl fun E cd A outer s H B hB => ?_
  have hK := hB.gK
  have hu := hu65 hB.room
  exact
      ds_cons (ds_expr (de_call ⟨hB.gK, hB.gf, hB.gc, hB.gn, hB.gt⟩ O_28 (hB.room.mono (by decide)) hB.gd (by rfl) T.g_28 T.F_28.kp T.b_28 hB.takes (len_cons (len_cons (len_nil))) (da_cons (de_var (pv 0)) (da_cons (de_var (pv 1)) (da_nil)))))
      (ds_one (ds_ret (de_call ⟨hB.gK, hB.gf, hB.gc, hB.gn, hB.gt⟩ O_9 (hB.room.mono (by decide)) hB.gd (by rfl) T.g_9 T.F_9.kp T.b_9 hB.takes (len_cons (len_cons (len_nil))) (da_cons (de_var (pv 0)) (da_cons (de_var (pv 1)) (da_nil))))))
theorem ok_32 (T : Tx P G mg fA fD w cA kA pA) : FnG P w G.K mg base 5 (fA 32) (fD 32) ["word", "words"] (spD G 2 m_32) := by
  have nd := sc_32.nd
  have O_9 : FnG P w G.K mg base 3 (fA 9) (fD 9) ["one", "other"] (spD G 2 m_9) := ok_9 T
  have O_27 : FnG P w G.K mg base 4 (fA 27) (fD 27) ["word", "words"] (spD G 2 m_27) := ok_27 T
  refine def_ok (k := 4) T.F_32 sc_32 rfl fun E cd A outer s H B hB => ?_
  have hK := hB.gK
  have hu := hu65 hB.room
  exact
      ds_cons (ds_expr (de_call ⟨hB.gK, hB.gf, hB.gc, hB.gn, hB.gt⟩ O_27 (hB.room.mono (by decide)) hB.gd (by rfl) T.g_27 T.F_27.kp T.b_27 hB.takes (len_cons (len_cons (len_nil))) (da_cons (de_var (pv 0)) (da_cons (de_var (pv 1)) (da_nil)))))
      (ds_one (ds_ret (de_blt call_lenA (den_len hK) (by rfl) T.n_len (by decide +kernel) (da_cons (de_lc (own := [("one", 2)]) rfl nd (di_seq hK (de_var (pv 1))) (blkOk_by (N := ["word", "words", "one"]) (sc := defScope s_32) (own := [("one", 2)]) (by decide +kernel)) (fun _ _ _ _ _ => dg_name (I := (· ∈ [2])) (by simp) (pg_name (i := 2) nd rfl (by first | exact Or.inl rfl | exact Or.inr rfl))) (fun _ _ _ _ _ => dts_one (dt_cmp (opR_lt hu) (den_lt hK) (de_call ⟨hB.gK, hB.gf, hB.gc, hB.gn, hB.gt⟩ O_9 (hB.room.mono (by decide)) hB.gd (by rfl) T.g_9 T.F_9.kp T.b_9 L2.takes0 (len_cons (len_cons (len_nil))) (da_cons (de_var (pv 2)) (da_cons (de_var (pv 0)) (da_nil)))) (de_int) (nomark _))) (fun _ _ _ _ _ => de_var (pv 2))) (da_nil)))))
theorem ok_33 (T : Tx P G mg fA fD w cA kA pA) : FnG P w G.K mg base 5 (fA 33) (fD 33) ["word", "i"] (spD G 2 m_33) := by
  have nd := sc_33.nd
  have O_3 : FnG P w G.K mg base 4 (fA 3) (fD 3) ["value", "least", "most"] (spD G 3 m_3) := ok_3 T
  have O_10 : FnG P w G.K mg base 2 (fA 10) (fD 10) ["word", "i"] (spD G 2 m_10) := ok_10 T
  have O_26 : FnG P w G.K mg base 3 (fA 26) (fD 26) ["value"] (spD G 1 m_26) := ok_26 T
  refine def_ok (k := 4) T.F_33 sc_33 rfl fun E cd A outer s H B hB => ?_
  have hK := hB.gK
  have hu := hu65 hB.room
  exact
      ds_cons (ds_expr (de_call ⟨hB.gK, hB.gf, hB.gc, hB.gn, hB.gt⟩ O_26 (hB.room.mono (by decide)) hB.gd (by rfl) T.g_26 T.F_26.kp T.b_26 hB.takes (len_cons (len_nil)) (da_cons (de_var (pv 0)) (da_nil))))
      (ds_cons (ds_expr (de_call ⟨hB.gK, hB.gf, hB.gc, hB.gn, hB.gt⟩ O_3 (hB.room.mono (by decide)) hB.gd (by rfl) T.g_3 T.F_3.kp T.b_3 hB.takes (len_cons (len_cons (len_cons (len_nil)))) (da_cons (de_var (pv 1)) (da_cons (de_int) (da_cons (de_sub (de_blt call_lenA (den_len hK) (by rfl) T.n_len (by decide +kernel) (da_cons (de_var (pv 0)) (da_nil))) (de_int)) (da_nil))))))
      (ds_one (ds_ret (de_call ⟨hB.gK, hB.gf, hB.gc, hB.gn, hB.gt⟩ O_10 (hB.room.mono (by decide)) hB.gd (by rfl) T.g_10 T.F_10.kp T.b_10 hB.takes (len_cons (len_cons (len_nil))) (da_cons (de_var (pv 0)) (da_cons (de_var (pv 1)) (da_nil)))))))
theorem ok_34 (T : Tx P G mg fA fD w cA kA pA) : FnG P w G.K mg base 4 (fA 34) (fD 34) ["word"] (spD G 1 m_34) := by
  have nd := sc_34.nd
  have O_11 : FnG P w G.K mg base 3 (fA 11) (fD 11) ["word"] (spD G 1 m_11) := ok_11 T
  have O_26 : FnG P w G.K mg base 3 (fA 26) (fD 26) ["value"] (spD G 1 m_26) := ok_26 T
  refine def_ok (k := 3) T.F_34 sc_34 rfl fun E cd A outer s H B hB => ?_
  have hK := hB.gK
  have hu := hu65 hB.room
  exact
      ds_cons (ds_expr (de_call ⟨hB.gK, hB.gf, hB.gc, hB.gn, hB.gt⟩ O_26 (hB.room.mono (by decide)) hB.gd (by rfl) T.g_26 T.F_26.kp T.b_26 hB.takes (len_cons (len_nil)) (da_cons (de_var (pv 0)) (da_nil))))
      (ds_one (ds_ret (de_blty call_tupleF (den_tuple hK) (by rfl) T.n_tuple (by decide +kernel) (da_cons (de_call ⟨hB.gK, hB.gf, hB.gc, hB.gn, hB.gt⟩ O_11 (hB.room.mono (by decide)) hB.gd (by rfl) T.g_11 T.F_11.kp T.b_11 hB.takes (len_cons (len_nil)) (da_cons (de_var (pv 0)) (da_nil))) (da_nil)))))
theorem ok_35 (T : Tx P G mg fA fD w cA kA pA) (TBs : ∀ j ∈ lamDefs, TabB base mg (kA j) (pA j)) : FnG P w G.K mg base 6 (fA 35) (fD 35) ["word"] (spD G 1 m_35) := by
  have nd := sc_35.nd
  have O_12 : FnG P w G.K mg base 5 (fA 12) (fD 12) ["word"] (spD G 1 m_12) := ok_12 T TBs
  have O_26 : FnG P w G.K mg base 3 (fA 26) (fD 26) ["value"] (spD G 1 m_26) := ok_26 T
  refine def_ok (k := 5) T.F_35 sc_35 rfl fun E cd A outer s H B hB => ?_
  have hK := hB.gK
  have hu := hu65 hB.room
  exact
      ds_cons (ds_expr (de_call ⟨hB.gK, hB.gf, hB.gc, hB.gn, hB.gt⟩ O_26 (hB.room.mono (by decide)) hB.gd (by rfl) T.g_26 T.F_26.kp T.b_26 hB.takes (len_cons (len_nil)) (da_cons (de_var (pv 0)) (da_nil))))
      (ds_one (ds_ret (de_blty call_tupleF (den_tuple hK) (by rfl) T.n_tuple (by decide +kernel) (da_cons (de_call ⟨hB.gK, hB.gf, hB.gc, hB.gn, hB.gt⟩ O_12 (hB.room.mono (by decide)) hB.gd (by rfl) T.g_12 T.F_12.kp T.b_12 hB.takes (len_cons (len_nil)) (da_cons (de_var (pv 0)) (da_nil))) (da_nil)))))
theorem ok_36 (T : Tx P G mg fA fD w cA kA pA) : FnG P w G.K mg base 6 (fA 36) (fD 36) ["word"] (spD G 1 m_36) := by
  have nd := sc_36.nd
  have O_14 : FnG P w G.K mg base 5 (fA 14) (fD 14) ["word"] (spD G 1 m_14) := ok_14 T
  have O_26 : FnG P w G.K mg base 3 (fA 26) (fD 26) ["value"] (spD G 1 m_26) := ok_26 T
  refine def_ok (k := 5) T.F_36 sc_36 rfl fun E cd A outer s H B hB => ?_
  have hK := hB.gK
  have hu := hu65 hB.room
  exact
      ds_cons (ds_expr (de_call ⟨hB.gK, hB.gf, hB.gc, hB.gn, hB.gt⟩ O_26 (hB.room.mono (by decide)) hB.gd (by rfl) T.g_26 T.F_26.kp T.b_26 hB.takes (len_cons (len_nil)) (da_cons (de_var (pv 0)) (da_nil))))
      (ds_one (ds_ret (de_call ⟨hB.gK, hB.gf, hB.gc, hB.gn, hB.gt⟩ O_14 (hB.room.mono (by decide)) hB.gd (by rfl) T.g_14 T.F_14.kp T.b_14 hB.takes (len_cons (len_nil)) (da_cons (de_var (pv 0)) (da_nil)))))
theorem ok_37 (T : Tx P G mg fA fD w cA kA pA) : FnG P w G.K mg base 6 (fA 37) (fD 37) ["word"] (spD G 1 m_37) := by
  have nd := sc_37.nd
  have O_15 : FnG P w G.K mg base 5 (fA 15) (fD 15) ["word"] (spD G 1 m_15) := ok_15 T
  have O_26 : FnG P w G.K mg base 3 (fA 26) (fD 26) ["value"] (spD G 1 m_26) := ok_26 T
  refine def_ok (k := 5) T.F_37 sc_37 rfl fun E cd A outer s H B hB => ?_
  have hK := hB.gK
  have hu := hu65 hB.room
  exact
      ds_cons (ds_expr (de_call ⟨hB.gK, hB.gf, hB.gc, hB.gn, hB.gt⟩ O_26 (hB.room.mono (by decide)) hB.gd (by rfl) T.g_26 T.F_26.kp T.b_26 hB.takes (len_cons (len_nil)) (da_cons (de_var (pv 0)) (da_nil))))
      (ds_one (ds_ret (de_call ⟨hB.gK, hB.gf, hB.gc, hB.gn, hB.gt⟩ O_15 (hB.room.mono (by decide)) hB.gd (by rfl) T.g_15 T.F_15.kp T.b_15 hB.takes (len_cons (len_nil)) (da_cons (de_var (pv 0)) (da_nil)))))
theorem ok_38 (T : Tx P G mg fA fD w cA kA pA) : FnG P w G.K mg base 5 (fA 38) (fD 38) ["word", "value"] (spD G 2 m_38) := by
  have nd := sc_38.nd
  have O_16 : FnG P w G.K mg base 4 (fA 16) (fD 16) ["word", "value"] (spD G 2 m_16) := ok_16 T
  have O_26 : FnG P w G.K mg base 3 (fA 26) (fD 26) ["value"] (spD G 1 m_26) := ok_26 T
  refine def_ok (k := 4) T.F_38 sc_38 rfl fun E cd A outer s H B hB => ?_
  have hK := hB.gK
  have hu := hu65 hB.room
  exact
      ds_cons (ds_expr (de_call ⟨hB.gK, hB.gf, hB.gc, hB.gn, hB.gt⟩ O_26 (hB.room.mono (by decide)) hB.gd (by rfl) T.g_26 T.F_26.kp T.b_26 hB.takes (len_cons (len_nil)) (da_cons (de_var (pv 0)) (da_nil))))
      (ds_one (ds_ret (de_call ⟨hB.gK, hB.gf, hB.gc, hB.gn, hB.gt⟩ O_16 (hB.room.mono (by decide)) hB.gd (by rfl) T.g_16 T.F_16.kp T.b_16 hB.takes (len_cons (len_cons (len_nil))) (da_cons (de_var (pv 0)) (da_cons (de_var (pv 1)) (da_nil))))))
theorem ok_39 (T : Tx P G mg fA fD w cA kA pA) (TBs : ∀ j ∈ lamDefs, TabB base mg (kA j) (pA j)) : FnG P w G.K mg base 6 (fA 39) (fD 39) ["word"] (spD G 1 m_39) := by
  have nd := sc_39.nd
  have O_12 : FnG P w G.K mg base 5 (fA 12) (fD 12) ["word"] (spD G 1 m_12) := ok_12 T TBs
  have O_26 : FnG P w G.K mg base 3 (fA 26) (fD 26) ["value"] (spD G 1 m_26) := ok_26 T
  refine def_ok (k := 5) T.F_39 sc_39 rfl fun E cd A outer s H B hB => ?_
  have hK := hB.gK
  have hu := hu65 hB.room
  exact
      ds_cons (ds_expr (de_call ⟨hB.gK, hB.gf, hB.gc, hB.gn, hB.gt⟩ O_26 (hB.room.mono (by decide)) hB.gd (by rfl) T.g_26 T.F_26.kp T.b_26 hB.takes (len_cons (len_nil)) (da_cons (de_var (pv 0)) (da_nil))))
      (ds_one (ds_ret (de_item hK (de_call ⟨hB.gK, hB.gf, hB.gc, hB.gn, hB.gt⟩ O_12 (hB.room.mono (by decide)) hB.gd (by rfl) T.g_12 T.F_12.kp T.b_12 hB.takes (len_cons (len_nil)) (da_cons (de_var (pv 0)) (da_nil))) (de_neg (de_int)) (fun _ _ => rfl))))
theorem ok_40 (T : Tx P G mg fA fD w cA kA pA) : FnG P w G.K mg base 9 (fA 40) (fD 40) ["n"] (spD G 1 m_40) := by
  have nd := sc_40.nd
  have O_3 : FnG P w G.K mg base 4 (fA 3) (fD 3) ["value", "least", "most"] (spD G 3 m_3) := ok_3 T
  have O_18 : FnG P w G.K mg base 8 (fA 18) (fD 18) ["n"] (spD G 1 m_18) := ok_18 T
  refine def_ok (k := 8) T.F_40 sc_40 rfl fun E cd A outer s H B hB => ?_
  have hK := hB.gK
  have hu := hu65 hB.room
  exact
      ds_cons (ds_expr (de_call ⟨hB.gK, hB.gf, hB.gc, hB.gn, hB.gt⟩ O_3 (hB.room.mono (by decide)) hB.gd (by rfl) T.g_3 T.F_3.kp T.b_3 hB.takes (len_cons (len_cons (len_cons (len_nil)))) (da_cons (de_var (pv 0)) (da_cons (de_int) (da_cons (de_gi (by rfl) T.c_MOST_LISTED) (da_nil))))))
      (ds_one (ds_ret (de_blty call_tupleF (den_tuple hK) (by rfl) T.n_tuple (by decide +kernel) (da_cons (de_call ⟨hB.gK, hB.gf, hB.gc, hB.gn, hB.gt⟩ O_18 (hB.room.mono (by decide)) hB.gd (by rfl) T.g_18 T.F_18.kp T.b_18 hB.takes (len_cons (len_nil)) (da_cons (de_var (pv 0)) (da_nil))) (da_nil)))))
theorem ok_41 (T : Tx P G mg fA fD w cA kA pA) : FnG P w G.K mg base 5 (fA 41) (fD 41) ["n"] (spD G 1 m_41) := by
  have nd := sc_41.nd
  have O_3 : FnG P w G.K mg base 4 (fA 3) (fD 3) ["value", "least", "most"] (spD G 3 m_3) := ok_3 T
  have O_20 : FnG P w G.K mg base 3 (fA 20) (fD 20) ["n"] (spD G 1 m_20) := ok_20 T
  refine def_ok (k := 4) T.F_41 sc_41 rfl fun E cd A outer s H B hB => ?_
  have hK := hB.gK
  have hu := hu65 hB.room
  exact
      ds_cons (ds_expr (de_call ⟨hB.gK, hB.gf, hB.gc, hB.gn, hB.gt⟩ O_3 (hB.room.mono (by decide)) hB.gd (by rfl) T.g_3 T.F_3.kp T.b_3 hB.takes (len_cons (len_cons (len_cons (len_nil)))) (da_cons (de_var (pv 0)) (da_cons (de_int) (da_cons (de_gi (by rfl) T.c_MOST_COUNTED) (da_nil))))))
      (ds_one (ds_ret (de_call ⟨hB.gK, hB.gf, hB.gc, hB.gn, hB.gt⟩ O_20 (hB.room.mono (by decide)) hB.gd (by rfl) T.g_20 T.F_20.kp T.b_20 hB.takes (len_cons (len_nil)) (da_cons (de_var (pv 0)) (da_nil)))))
theorem ok_42 (T : Tx P G mg fA fD w cA kA pA) : FnG P w G.K mg base 6 (fA 42) (fD 42) ["bump"] (spD G 1 m_42) := by
  have nd := sc_42.nd
  have O_23 : FnG P w G.K mg base 2 (fA 23) (fD 23) ["line"] (spD G 1 m_23) := ok_23 T
  have O_29 : FnG P w G.K mg base 5 (fA 29) (fD 29) ["value"] (spD G 1 m_29) := ok_29 T
  refine def_ok (k := 5) T.F_42 sc_42 rfl fun E cd A outer s H B hB => ?_
  have hK := hB.gK
  have hu := hu65 hB.room
  exact
      ds_cons (ds_expr (de_call ⟨hB.gK, hB.gf, hB.gc, hB.gn, hB.gt⟩ O_29 (hB.room.mono (by decide)) hB.gd (by rfl) T.g_29 T.F_29.kp T.b_29 hB.takes (len_cons (len_nil)) (da_cons (de_var (pv 0)) (da_nil))))
      (ds_one (ds_ret (de_call ⟨hB.gK, hB.gf, hB.gc, hB.gn, hB.gt⟩ O_23 (hB.room.mono (by decide)) hB.gd (by rfl) T.g_23 T.F_23.kp T.b_23 hB.takes (len_cons (len_nil)) (da_cons (de_var (pv 0)) (da_nil)))))
theorem ok_43 (T : Tx P G mg fA fD w cA kA pA) : FnG P w G.K mg base 6 (fA 43) (fD 43) ["bump"] (spD G 1 m_43) := by
  have nd := sc_43.nd
  have O_6 : FnG P w G.K mg base 5 (fA 6) (fD 6) ["value"] (spD G 1 m_6) := ok_6 T
  have O_24 : FnG P w G.K mg base 3 (fA 24) (fD 24) ["line"] (spD G 1 m_24) := ok_24 T
  have O_29 : FnG P w G.K mg base 5 (fA 29) (fD 29) ["value"] (spD G 1 m_29) := ok_29 T
  refine def_ok (k := 5) T.F_43 sc_43 rfl fun E cd A outer s H B hB => ?_
  have hK := hB.gK
  have hu := hu65 hB.room
  exact
      ds_cons (ds_expr (de_call ⟨hB.gK, hB.gf, hB.gc, hB.gn, hB.gt⟩ O_29 (hB.room.mono (by decide)) hB.gd (by rfl) T.g_29 T.F_29.kp T.b_29 hB.takes (len_cons (len_nil)) (da_cons (de_var (pv 0)) (da_nil))))
      (ds_cons (ds_if (dt_not (dt_truth hK (de_call ⟨hB.gK, hB.gf, hB.gc, hB.gn, hB.gt⟩ O_6 (hB.room.mono (by decide)) hB.gd (by rfl) T.g_6 T.F_6.kp T.b_6 hB.takes (len_cons (len_nil)) (da_cons (de_var (pv 0)) (da_nil))))) (ds_one (ds_raise1 rfl hB.takes (by rw [hB.gc]; exact T.a_4) (by rw [hB.gn]; exact T.v_4) (pmk_er1 T.e_4 rfl (hB.room.mono (by decide)) (by rfl) (de_tup (da_cons (de_gs (by rfl) T.c_UNLIKE) (da_nil)))))) (ds_nil))
      (ds_one (ds_ret (de_call ⟨hB.gK, hB.gf, hB.gc, hB.gn, hB.gt⟩ O_24 (hB.room.mono (by decide)) hB.gd (by rfl) T.g_24 T.F_24.kp T.b_24 hB.takes (len_cons (len_nil)) (da_cons (de_var (pv 0)) (da_nil))))))
theorem ok_44 (T : Tx P G mg fA fD w cA kA pA) (TBs : ∀ j ∈ lamDefs, TabB base mg (kA j) (pA j)) : FnG P w G.K mg base 7 (fA 44) (fD 44) ["word"] (spD G 1 m_44) := by
  have nd := sc_44.nd
  have O_14 : FnG P w G.K mg base 5 (fA 14) (fD 14) ["word"] (spD G 1 m_14) := ok_14 T
  have O_25 : FnG P w G.K mg base 6 (fA 25) (fD 25) ["word"] (spD G 1 m_25) := ok_25 T TBs
  have O_26 : FnG P w G.K mg base 3 (fA 26) (fD 26) ["value"] (spD G 1 m_26) := ok_26 T
  refine def_ok (k := 6) T.F_44 sc_44 rfl fun E cd A outer s H B hB => ?_
  have hK := hB.gK
  have hu := hu65 hB.room
  exact
      ds_cons (ds_expr (de_call ⟨hB.gK, hB.gf, hB.gc, hB.gn, hB.gt⟩ O_26 (hB.room.mono (by decide)) hB.gd (by rfl) T.g_26 T.F_26.kp T.b_26 hB.takes (len_cons (len_nil)) (da_cons (de_var (pv 0)) (da_nil))))
      (ds_cons (ds_if (dt_not (dt_truth hK (de_call ⟨hB.gK, hB.gf, hB.gc, hB.gn, hB.gt⟩ O_14 (hB.room.mono (by decide)) hB.gd (by rfl) T.g_14 T.F_14.kp T.b_14 hB.takes (len_cons (len_nil)) (da_cons (de_var (pv 0)) (da_nil))))) (ds_one (ds_raise1 rfl hB.takes (by rw [hB.gc]; exact T.a_4) (by rw [hB.gn]; exact T.v_4) (pmk_er1 T.e_4 rfl (hB.room.mono (by decide)) (by rfl) (de_tup (da_cons (de_gs (by rfl) T.c_UNLIKE) (da_nil)))))) (ds_nil))
      (ds_cons (ds_if (dt_cmp (opR_gt2 hu) (den_gt2 hK) (de_blt call_lenA (den_len hK) (by rfl) T.n_len (by decide +kernel) (da_cons (de_var (pv 0)) (da_nil))) (de_gi (by rfl) T.c_MOST_POINTS) (nomark _)) (ds_one (ds_raise1 rfl hB.takes (by rw [hB.gc]; exact T.a_3) (by rw [hB.gn]; exact T.v_3) (pmk_er1 T.e_3 rfl (hB.room.mono (by decide)) (by rfl) (de_gi (by rfl) T.c_MOST_POINTS)))) (ds_nil))
      (ds_one (ds_ret (de_call ⟨hB.gK, hB.gf, hB.gc, hB.gn, hB.gt⟩ O_25 (hB.room.mono (by decide)) hB.gd (by rfl) T.g_25 T.F_25.kp T.b_25 hB.takes (len_cons (len_nil)) (da_cons (de_var (pv 0)) (da_nil)))))))
theorem ok_45 (T : Tx P G mg fA fD w cA kA pA) : FnG P w G.K mg base 4 (fA 45) (fD 45) ["word"] (spD G 1 m_45) := by
  have nd := sc_45.nd
  have O_21 : FnG P w G.K mg base 2 (fA 21) (fD 21) ["word"] (spD G 1 m_21) := ok_21 T
  have O_26 : FnG P w G.K mg base 3 (fA 26) (fD 26) ["value"] (spD G 1 m_26) := ok_26 T
  refine def_ok (k := 3) T.F_45 sc_45 rfl fun E cd A outer s H B hB => ?_
  have hK := hB.gK
  have hu := hu65 hB.room
  exact
      ds_cons (ds_expr (de_call ⟨hB.gK, hB.gf, hB.gc, hB.gn, hB.gt⟩ O_26 (hB.room.mono (by decide)) hB.gd (by rfl) T.g_26 T.F_26.kp T.b_26 hB.takes (len_cons (len_nil)) (da_cons (de_var (pv 0)) (da_nil))))
      (ds_one (ds_ret (de_call ⟨hB.gK, hB.gf, hB.gc, hB.gn, hB.gt⟩ O_21 (hB.room.mono (by decide)) hB.gd (by rfl) T.g_21 T.F_21.kp T.b_21 hB.takes (len_cons (len_nil)) (da_cons (de_var (pv 0)) (da_nil)))))
theorem ok_46 (T : Tx P G mg fA fD w cA kA pA) : FnG P w G.K mg base 2 (fA 46) (fD 46) ["script", "spot"] (spD G 2 m_46) := by
  have nd := sc_46.nd
  refine def_ok (k := 1) T.F_46 sc_46 rfl fun E cd A outer s H B hB => ?_
  have hK := hB.gK
  have hu := hu65 hB.room
  exact
      ds_cons (ds_set (i := 2) (fun te he => ps_set (i := 2) nd rfl (Or.inl rfl) he) (de_if (dt_cmp (opR_lt hu) (den_lt hK) (de_var (pv 1)) (de_blt call_lenA (den_len hK) (by rfl) T.n_len (by decide +kernel) (da_cons (de_var (pv 0)) (da_nil))) (nomark _)) (de_blty call_int1 den_int1 (by rfl) T.n_int (by decide +kernel) (da_cons (de_item hK (de_var (pv 0)) (de_var (pv 1)) (fun _ _ => rfl)) (da_nil))) (de_add hK (de_mul hK (de_int) (de_var (pv 1))) (de_int))))
      (ds_cons (ds_set (i := 3) (fun te he => ps_set (i := 3) nd rfl (Or.inl rfl) he) (de_mod (de_blt (call_max2 rfl) den_max2 (by rfl) T.n_max (by decide +kernel) (da_cons (de_int) (da_cons (de_sub (de_blt call_abs den_abs (by rfl) T.n_abs (by decide +kernel) (da_cons (de_var (pv 2)) (da_nil))) (de_pow (de_int) (de_int))) (da_nil)))) (de_mul hK (de_pow (de_int) (de_int)) (de_pow (de_int) (de_int)))))
      (ds_one (ds_ret (de_lst (da_cons (de_var (pv 3)) (da_cons (de_add hK (de_add hK (de_add hK (de_mul hK (de_mod (de_blt call_abs den_abs (by rfl) T.n_abs (by decide +kernel) (da_cons (de_var (pv 2)) (da_nil))) (de_int)) (de_int)) (de_mul hK (de_int) (de_var (pv 1)))) (de_mul hK (de_int) (de_blty call_int1 den_int1 (by rfl) T.n_int (by decide +kernel) (da_cons (de_cmp (opR_lt hu) (den_lt hK) (de_var (pv 2)) (de_int) (nomark _)) (da_nil))))) (de_int)) (da_cons (de_int) (da_nil))))))))
theorem ok_47 (T : Tx P G mg fA fD w cA kA pA) : FnG P w G.K mg base 2 (fA 47) (fD 47) ["dice", "total"] (spD G 2 m_47) := by
  have nd := sc_47.nd
  refine def_ok (k := 1) T.F_47 sc_47 rfl fun E cd A outer s H B hB => ?_
  have hK := hB.gK
  have hu := hu65 hB.room
  exact
      ds_cons (ds_if (dt_cmp (opR_gt2 hu) (den_gt2 hK) (de_item hK (de_var (pv 0)) (de_int) (fun _ _ => rfl)) (de_int) (nomark _)) (ds_cons (ds_set (i := 2) (fun te he => ps_set (i := 2) nd rfl (Or.inl rfl) he) (de_mod (de_blty call_int1 den_int1 (by rfl) T.n_int (by decide +kernel) (da_cons (de_item hK (de_var (pv 0)) (de_int) (fun _ _ => rfl)) (da_nil))) (de_var (pv 1))))
      (ds_cons (ds_asg (de_fdiv (de_item hK (de_var (pv 0)) (de_int) (fun _ _ => rfl)) (de_var (pv 1))) (dg_sub (I := fun _ => True) (de_var (pv 0)) (de_int)))
      (ds_one (ds_ret (de_var (pv 2)))))) (ds_nil))
      (ds_cons (ds_asg (de_add hK (de_item hK (de_var (pv 0)) (de_int) (fun _ _ => rfl)) (de_int)) (dg_sub (I := fun _ => True) (de_var (pv 0)) (de_int)))
      (ds_cons (ds_set (i := 3) (fun te he => ps_set (i := 3) nd rfl (Or.inl rfl) he) (de_mod (de_blty call_int1 den_int1 (by rfl) T.n_int (by decide +kernel) (da_cons (de_add hK (de_item hK (de_var (pv 0)) (de_int) (fun _ _ => rfl)) (de_mul hK (de_int) (de_item hK (de_var (pv 0)) (de_int) (fun _ _ => rfl)))) (da_nil))) (de_int)))
      (ds_cons (ds_set (i := 4) (fun te he => ps_set (i := 4) nd rfl (Or.inl rfl) he) (de_add hK (de_mul hK (de_mod (de_blty call_int1 den_int1 (by rfl) T.n_int (by decide +kernel) (da_cons (de_add hK (de_mul hK (de_var (pv 3)) (de_var (pv 3))) (de_mul hK (de_int) (de_item hK (de_var (pv 0)) (de_int) (fun _ _ => rfl)))) (da_nil))) (de_int)) (de_int)) (de_var (pv 3))))
      (ds_one (ds_ret (de_mod (de_blty call_int1 den_int1 (by rfl) T.n_int (by decide +kernel) (da_cons (de_fdiv (de_var (pv 4)) (de_int)) (da_nil))) (de_var (pv 1))))))))
theorem ok_48 (T : Tx P G mg fA fD w cA kA pA) : FnG P w G.K mg base 3 (fA 48) (fD 48) ["dice", "items"] (spD G 2 m_48) := by
  have nd := sc_48.nd
  have O_47 : FnG P w G.K mg base 2 (fA 47) (fD 47) ["dice", "total"] (spD G 2 m_47) := ok_47 T
  refine def_ok (k := 2) T.F_48 sc_48 rfl fun E cd A outer s H B hB => ?_
  have hK := hB.gK
  have hu := hu65 hB.room
  exact
      ds_one (ds_ret (de_item hK (de_var (pv 1)) (de_call ⟨hB.gK, hB.gf, hB.gc, hB.gn, hB.gt⟩ O_47 (hB.room.mono (by decide)) hB.gd (by rfl) T.g_47 T.F_47.kp T.b_47 hB.takes (len_cons (len_cons (len_nil))) (da_cons (de_var (pv 0)) (da_cons (de_blt call_lenA (den_len hK) (by rfl) T.n_len (by decide +kernel) (da_cons (de_var (pv 1)) (da_nil))) (da_nil)))) (fun _ _ => rfl)))
theorem okL_49 {k : Nat} (T : Tx P G mg fA fD w cA kA pA) : LamG P w G.K G mg base k s_49 "_law_word_of_error" (fA 49) ["call", "error"] "call" bL_49 := by
  intro cd A outer s H f B th hB hcall
  have nd := sc_49.nd
  have hK := hB.gK
  have hu := hu65 hB.room
  exact
      ds_cons (ds_try hB.stk hB.frm hB.takes (by rw [hB.gf]; exact fx_kX T.fX) (fun W pn xe tk own => have hB := hB.tr tk own; ds_one (ds_expr (hcall _ _ _ _ _ hB.takes))) (HdsD.cons ⟨by rfl, by decide, Or.inl T.e_1.g⟩ trivial (by rw [hB.gc]; exact T.x_1) (fun a oe cls d pn x F hz hv rx => ds_one (ds_ret (de_str))) (HdsD.cons ⟨by rfl, by decide, Or.inl T.e_0.g⟩ trivial (by rw [hB.gc]; exact T.x_0) (fun a oe cls d pn x F hz hv rx => ds_one (ds_ret (de_str))) (HdsD.cons ⟨by rfl, by decide, Or.inl T.e_2.g⟩ ⟨nd, rfl, rfl⟩ (by rw [hB.gc]; exact T.x_2) (fun a oe cls d pn x F hz hv rx => ds_one (ds_ret (de_add hK (de_str) (de_blt (call_reprU (have h := hu100 hB.room; h) hB.gd) (den_reprU hK) (by rfl) T.n_repr (by decide +kernel) (da_cons (de_xv (c := 2) (i := 1) (by rw [hB.gf]; exact fx_kX T.fX) hz hv rx rfl (Or.inl rfl) (by rw [hB.gc]; exact T.a_2) T.e_2.xf T.e_2.xn (by rw [hB.gn]; exact T.v_2)) (da_nil)))))) (HdsD.cons ⟨by rfl, by decide, Or.inl T.e_4.g⟩ ⟨nd, rfl, rfl⟩ (by rw [hB.gc]; exact T.x_4) (fun a oe cls d pn x F hz hv rx => ds_one (ds_ret (de_xv (c := 4) (i := 1) (by rw [hB.gf]; exact fx_kX T.fX) hz hv rx rfl (Or.inl rfl) (by rw [hB.gc]; exact T.a_4) T.e_4.xf T.e_4.xn (by rw [hB.gn]; exact T.v_4)))) (HdsD.cons ⟨by rfl, by decide, Or.inl T.e_3.g⟩ ⟨nd, rfl, rfl⟩ (by rw [hB.gc]; exact T.x_3) (fun a oe cls d pn x F hz hv rx => ds_one (ds_ret (de_add hK (de_str) (de_blt (call_reprU (have h := hu100 hB.room; h) hB.gd) (den_reprU hK) (by rfl) T.n_repr (by decide +kernel) (da_cons (de_xv (c := 3) (i := 1) (by rw [hB.gf]; exact fx_kX T.fX) hz hv rx rfl (Or.inl rfl) (by rw [hB.gc]; exact T.a_3) T.e_3.xf T.e_3.xn (by rw [hB.gn]; exact T.v_3)) (da_nil)))))) (HdsD.nil)))))))
      (ds_one (ds_ret (de_str)))
theorem held_0 (T : Tx P G mg fA fD w cA kA pA) (TBs : ∀ j ∈ lamDefs, TabB base mg (kA j) (pA j)) : ∀ q ∈ tb_0, HeldG P w G.K mg base 6 G q.1 q.2.1 q.2.2 := List.forall_mem_cons.mpr ⟨⟨⟨fA 34, fD 34, ["word"], T.h_34, (ok_34 T).mono (by decide), T.F_34.kp, T.b_34⟩⟩, List.forall_mem_cons.mpr ⟨⟨⟨fA 35, fD 35, ["word"], T.h_35, (ok_35 T TBs).mono (by decide), T.F_35.kp, T.b_35⟩⟩, List.forall_mem_cons.mpr ⟨⟨⟨fA 36, fD 36, ["word"], T.h_36, (ok_36 T).mono (by decide), T.F_36.kp, T.b_36⟩⟩, List.forall_mem_cons.mpr ⟨⟨⟨fA 37, fD 37, ["word"], T.h_37, (ok_37 T).mono (by decide), T.F_37.kp, T.b_37⟩⟩, List.forall_mem_cons.mpr ⟨⟨⟨fA 39, fD 39, ["word"], T.h_39, (ok_39 T TBs).mono (by decide), T.F_39.kp, T.b_39⟩⟩, List.forall_mem_cons.mpr ⟨⟨⟨fA 45, fD 45, ["word"], T.h_45, (ok_45 T).mono (by decide), T.F_45.kp, T.b_45⟩⟩, (fun _ h => nomatch h)⟩⟩⟩⟩⟩⟩
theorem held_1 (T : Tx P G mg fA fD w cA kA pA) : ∀ q ∈ tb_1, HeldG P w G.K mg base 5 G q.1 q.2.1 q.2.2 := List.forall_mem_cons.mpr ⟨⟨⟨fA 30, fD 30, ["word", "other"], T.h_30, (ok_30 T).mono (by decide), T.F_30.kp, T.b_30⟩⟩, List.forall_mem_cons.mpr ⟨⟨⟨fA 31, fD 31, ["word", "other"], T.h_31, (ok_31 T).mono (by decide), T.F_31.kp, T.b_31⟩⟩, List.forall_mem_cons.mpr ⟨⟨⟨fA 32, fD 32, ["word", "words"], T.h_32, (ok_32 T).mono (by decide), T.F_32.kp, T.b_32⟩⟩, (fun _ h => nomatch h)⟩⟩⟩
theorem ok_50 (T : Tx P G mg fA fD w cA kA pA) (TBs : ∀ j ∈ lamDefs, TabB base mg (kA j) (pA j)) : FnG P w G.K mg base 9 (fA 50) (fD 50) ["word", "other", "i"] (spD G 3 m_50) := by
  have nd := sc_50.nd
  have O_30 : FnG P w G.K mg base 5 (fA 30) (fD 30) ["word", "other"] (spD G 2 m_30) := ok_30 T
  have O_31 : FnG P w G.K mg base 5 (fA 31) (fD 31) ["word", "other"] (spD G 2 m_31) := ok_31 T
  have O_32 : FnG P w G.K mg base 5 (fA 32) (fD 32) ["word", "words"] (spD G 2 m_32) := ok_32 T
  have O_33 : FnG P w G.K mg base 5 (fA 33) (fD 33) ["word", "i"] (spD G 2 m_33) := ok_33 T
  have O_34 : FnG P w G.K mg base 4 (fA 34) (fD 34) ["word"] (spD G 1 m_34) := ok_34 T
  have O_35 : FnG P w G.K mg base 6 (fA 35) (fD 35) ["word"] (spD G 1 m_35) := ok_35 T TBs
  have O_36 : FnG P w G.K mg base 6 (fA 36) (fD 36) ["word"] (spD G 1 m_36) := ok_36 T
  have O_37 : FnG P w G.K mg base 6 (fA 37) (fD 37) ["word"] (spD G 1 m_37) := ok_37 T
  have O_38 : FnG P w G.K mg base 5 (fA 38) (fD 38) ["word", "value"] (spD G 2 m_38) := ok_38 T
  have O_39 : FnG P w G.K mg base 6 (fA 39) (fD 39) ["word"] (spD G 1 m_39) := ok_39 T TBs
  have O_45 : FnG P w G.K mg base 4 (fA 45) (fD 45) ["word"] (spD G 1 m_45) := ok_45 T
  have TB : TabB base mg (kA 50) (pA 50) := TBs 50 (by decide)
  refine def_okC (k := 8) T.F_50 sc_50 rfl fun E cd A outer s H B hcd hB => ?_
  have hK := hB.gK
  have hu := hu65 hB.room
  exact
      ds_cons (ds_set (i := 3) (fun te he => ps_set (i := 3) nd rfl (Or.inl rfl) he) (de_lst (da_nil)))
      (ds_cons (ds_for hB.own rfl (di_seq hK (de_tup (da_cons (de_fn (by rfl) T.g_34 (by rw [hB.gf]; exact T.h_34)) (da_cons (de_fn (by rfl) T.g_35 (by rw [hB.gf]; exact T.h_35)) (da_cons (de_fn (by rfl) T.g_36 (by rw [hB.gf]; exact T.h_36)) (da_cons (de_fn (by rfl) T.g_37 (by rw [hB.gf]; exact T.h_37)) (da_cons (de_fn (by rfl) T.g_39 (by rw [hB.gf]; exact T.h_39)) (da_cons (de_fn (by rfl) T.g_45 (by rw [hB.gf]; exact T.h_45)) (da_nil))))))))) (dg_name (I := fun _ => True) trivial (pg_name (i := 4) nd rfl (Or.inr rfl))) (ds_one (ds_expr (de_mth hK PySem.F.plainAttrs_list PySem.F.slot_list_append PySem.F.type_list_append mt_append den_append (de_var (pv 3)) (da_cons (de_lam (k := 6) ⟨hB.gK, hB.gf, hB.gc, hB.gn, hB.gt⟩ rfl (okL_49 T) T.F_49 (by rfl) T.g_49 T.b_49 sc_49 rfl (by first | exact Or.inl rfl | exact Or.inr (Or.inl rfl) | exact Or.inr (Or.inr rfl)) T.fL TB (hcd.trans T.k_50) T.t_50 T.u_50 (hB.room.mono (by decide)) hB.gd (lamS_by (sc := defScope s_50) (by decide +kernel)) rfl (fun _ _ _ _ _ => rfl) (fun A outer s H E f c' B hB => have hK := hB.gK; have hu := hu65 hB.room; de_callV ⟨hB.gK, hB.gf, hB.gc, hB.gn, hB.gt⟩ (held_0 T TBs) (hB.room.mono (by decide)) hB.gd (by rfl) (by first | exact Or.inl rfl | exact Or.inr (Or.inl rfl) | exact Or.inr (Or.inr rfl)) hB.takes (da_cons (de_var (pv 0)) (da_nil)))) (da_nil))))))
      (ds_cons (ds_for hB.own rfl (di_seq hK (de_tup (da_cons (de_fn (by rfl) T.g_30 (by rw [hB.gf]; exact T.h_30)) (da_cons (de_fn (by rfl) T.g_31 (by rw [hB.gf]; exact T.h_31)) (da_cons (de_fn (by rfl) T.g_32 (by rw [hB.gf]; exact T.h_32)) (da_nil)))))) (dg_name (I := fun _ => True) trivial (pg_name (i := 4) nd rfl (Or.inr rfl))) (ds_one (ds_expr (de_mth hK PySem.F.plainAttrs_list PySem.F.slot_list_append PySem.F.type_list_append mt_append den_append (de_var (pv 3)) (da_cons (de_lam (k := 5) ⟨hB.gK, hB.gf, hB.gc, hB.gn, hB.gt⟩ rfl (okL_49 T) T.F_49 (by rfl) T.g_49 T.b_49 sc_49 rfl (by first | exact Or.inl rfl | exact Or.inr (Or.inl rfl) | exact Or.inr (Or.inr rfl)) T.fL TB (hcd.trans T.k_50) T.t_50 T.u_50 (hB.room.mono (by decide)) hB.gd (lamS_by (sc := defScope s_50) (by decide +kernel)) rfl (fun _ _ _ _ _ => rfl) (fun A outer s H E f c' B hB => have hK := hB.gK; have hu := hu65 hB.room; de_callV ⟨hB.gK, hB.gf, hB.gc, hB.gn, hB.gt⟩ (held_1 T) (hB.room.mono (by decide)) hB.gd (by rfl) (by first | exact Or.inl rfl | exact Or.inr (Or.inl rfl) | exact Or.inr (Or.inr rfl)) hB.takes (da_cons (de_var (pv 0)) (da_cons (de_var (pv 1)) (da_nil))))) (da_nil))))))
      (ds_cons (ds_expr (de_mth hK PySem.F.plainAttrs_list PySem.F.slot_list_append PySem.F.type_list_append mt_append den_append (de_var (pv 3)) (da_cons (de_lam (k := 5) ⟨hB.gK, hB.gf, hB.gc, hB.gn, hB.gt⟩ rfl (okL_49 T) T.F_49 (by rfl) T.g_49 T.b_49 sc_49 rfl (by first | exact Or.inl rfl | exact Or.inr (Or.inl rfl) | exact Or.inr (Or.inr rfl)) T.fL TB (hcd.trans T.k_50) T.t_50 T.u_50 (hB.room.mono (by decide)) hB.gd (lamS_by (sc := defScope s_50) (by decide +kernel)) rfl (fun _ _ _ _ _ => rfl) (fun A outer s H E f c' B hB => have hK := hB.gK; have hu := hu65 hB.room; de_call ⟨hB.gK, hB.gf, hB.gc, hB.gn, hB.gt⟩ O_38 (hB.room.mono (by decide)) hB.gd (by rfl) T.g_38 T.F_38.kp T.b_38 hB.takes (len_cons (len_cons (len_nil))) (da_cons (de_var (pv 0)) (da_cons (de_non) (da_nil))))) (da_nil))))
      (ds_one (ds_ret (de_add hK (de_var (pv 3)) (de_lst (da_cons (de_lam (k := 5) ⟨hB.gK, hB.gf, hB.gc, hB.gn, hB.gt⟩ rfl (okL_49 T) T.F_49 (by rfl) T.g_49 T.b_49 sc_49 rfl (by first | exact Or.inl rfl | exact Or.inr (Or.inl rfl) | exact Or.inr (Or.inr rfl)) T.fL TB (hcd.trans T.k_50) T.t_50 T.u_50 (hB.room.mono (by decide)) hB.gd (lamS_by (sc := defScope s_50) (by decide +kernel)) rfl (fun _ _ _ _ _ => rfl) (fun A outer s H E f c' B hB => have hK := hB.gK; have hu := hu65 hB.room; de_call ⟨hB.gK, hB.gf, hB.gc, hB.gn, hB.gt⟩ O_33 (hB.room.mono (by decide)) hB.gd (by rfl) T.g_33 T.F_33.kp T.b_33 hB.takes (len_cons (len_cons (len_nil))) (da_cons (de_var (pv 0)) (da_cons (de_var (pv 2)) (da_nil))))) (da_nil)))))))))
theorem held_2 (T : Tx P G mg fA fD w cA kA pA) : ∀ q ∈ tb_2, HeldG P w G.K mg base 6 G q.1 q.2.1 q.2.2 := List.forall_mem_cons.mpr ⟨⟨⟨fA 42, fD 42, ["bump"], T.h_42, (ok_42 T).mono (by decide), T.F_42.kp, T.b_42⟩⟩, List.forall_mem_cons.mpr ⟨⟨⟨fA 43, fD 43, ["bump"], T.h_43, (ok_43 T).mono (by decide), T.F_43.kp, T.b_43⟩⟩, (fun _ h => nomatch h)⟩⟩
theorem ok_51 (T : Tx P G mg fA fD w cA kA pA) (TBs : ∀ j ∈ lamDefs, TabB base mg (kA j) (pA j)) : FnG P w G.K mg base 12 (fA 51) (fD 51) ["dice"] (spD G 1 m_51) := by
  have nd := sc_51.nd
  have O_32 : FnG P w G.K mg base 5 (fA 32) (fD 32) ["word", "words"] (spD G 2 m_32) := ok_32 T
  have O_40 : FnG P w G.K mg base 9 (fA 40) (fD 40) ["n"] (spD G 1 m_40) := ok_40 T
  have O_41 : FnG P w G.K mg base 5 (fA 41) (fD 41) ["n"] (spD G 1 m_41) := ok_41 T
  have O_42 : FnG P w G.K mg base 6 (fA 42) (fD 42) ["bump"] (spD G 1 m_42) := ok_42 T
  have O_43 : FnG P w G.K mg base 6 (fA 43) (fD 43) ["bump"] (spD G 1 m_43) := ok_43 T
  have O_44 : FnG P w G.K mg base 7 (fA 44) (fD 44) ["word"] (spD G 1 m_44) := ok_44 T TBs
  have O_48 : FnG P w G.K mg base 3 (fA 48) (fD 48) ["dice", "items"] (spD G 2 m_48) := ok_48 T
  have O_50 : FnG P w G.K mg base 9 (fA 50) (fD 50) ["word", "other", "i"] (spD G 3 m_50) := ok_50 T TBs
  have TB : TabB base mg (kA 51) (pA 51) := TBs 51 (by decide)
  refine def_okC (k := 11) T.F_51 sc_51 rfl fun E cd A outer s H B hcd hB => ?_
  have hK := hB.gK
  have hu := hu65 hB.room
  exact
      ds_cons (ds_set (i := 1) (fun te he => ps_set (i := 1) nd rfl (Or.inr rfl) he) (de_lst (da_cons (de_non) (da_cons (de_int) (da_cons (de_str) (da_cons (de_str) (da_cons (de_str) (da_cons (de_str) (da_cons (de_str) (da_cons (de_str) (da_cons (de_tup (da_cons (de_str) (da_cons (de_str) (da_nil)))) (da_cons (de_lstK (da_cons (de_str) (da_nil))) (da_cons (de_edc) (da_cons (de_add hK (de_mulS (de_str) (de_int)) (de_str)) (da_cons (de_str) (da_cons (de_str) (da_cons (de_bl) (da_nil))))))))))))))))))
      (ds_cons (ds_set (i := 1) (fun te he => ps_set (i := 1) nd rfl (Or.inr rfl) he) (de_call ⟨hB.gK, hB.gf, hB.gc, hB.gn, hB.gt⟩ O_48 (hB.room.mono (by decide)) hB.gd (by rfl) T.g_48 T.F_48.kp T.b_48 hB.takes (len_cons (len_cons (len_nil))) (da_cons (de_var (pv 0)) (da_cons (de_var (pv 1)) (da_nil)))))
      (ds_cons (ds_set (i := 2) (fun te he => ps_set (i := 2) nd rfl (Or.inl rfl) he) (de_call ⟨hB.gK, hB.gf, hB.gc, hB.gn, hB.gt⟩ O_48 (hB.room.mono (by decide)) hB.gd (by rfl) T.g_48 T.F_48.kp T.b_48 hB.takes (len_cons (len_cons (len_nil))) (da_cons (de_var (pv 0)) (da_cons (de_lst (da_cons (de_non) (da_cons (de_neg (de_int)) (da_cons (de_int) (da_cons (de_bl) (da_cons (de_str) (da_cons (de_tup (da_cons (de_int) (da_nil))) (da_cons (de_pow (de_int) (de_int)) (da_nil))))))))) (da_nil)))))
      (ds_cons (ds_if (dt_cmp (opR_ne hu) (den_ne hK) (de_call ⟨hB.gK, hB.gf, hB.gc, hB.gn, hB.gt⟩ O_50 (hB.room.mono (by decide)) hB.gd (by rfl) T.g_50 T.F_50.kp T.b_50 hB.takes (len_cons (len_cons (len_cons (len_nil)))) (da_cons (de_var (pv 1)) (da_cons (de_var (pv 1)) (da_cons (de_var (pv 2)) (da_nil))))) (de_mul hK (de_lst (da_cons (de_str) (da_nil))) (de_int)) (nomark _)) (ds_one (ds_ret (de_bl))) (ds_nil))
      (ds_cons (ds_set (i := 3) (fun te he => ps_set (i := 3) nd rfl (Or.inl rfl) he) (de_add hK (de_str) (de_blt (call_reprU (have h := hu100 hB.room; h) hB.gd) (den_reprU hK) (by rfl) T.n_repr (by decide +kernel) (da_cons (de_var (pv 2)) (da_nil)))))
      (ds_cons (ds_if (dt_cmp (opR_ne hu) (den_ne hK) (de_call ⟨hB.gK, hB.gf, hB.gc, hB.gn, hB.gt⟩ O_50 (hB.room.mono (by decide)) hB.gd (by rfl) T.g_50 T.F_50.kp T.b_50 hB.takes (len_cons (len_cons (len_cons (len_nil)))) (da_cons (de_str) (da_cons (de_var (pv 1)) (da_cons (de_var (pv 2)) (da_nil))))) (de_add hK (de_add hK (de_mul hK (de_lst (da_cons (de_str) (da_nil))) (de_int)) (de_mul hK (de_lst (da_cons (de_str) (da_nil))) (de_int))) (de_lst (da_cons (de_str) (da_cons (de_var (pv 3)) (da_nil))))) (nomark _)) (ds_one (ds_ret (de_bl))) (ds_nil))
      (ds_cons (ds_set (i := 4) (fun te he => ps_set (i := 4) nd rfl (Or.inr rfl) he) (de_call ⟨hB.gK, hB.gf, hB.gc, hB.gn, hB.gt⟩ O_48 (hB.room.mono (by decide)) hB.gd (by rfl) T.g_48 T.F_48.kp T.b_48 hB.takes (len_cons (len_cons (len_nil))) (da_cons (de_var (pv 0)) (da_cons (de_lst (da_cons (de_tup (da_cons (de_var (pv 1)) (da_nil))) (da_cons (de_tup (da_cons (de_str) (da_cons (de_var (pv 1)) (da_nil)))) (da_cons (de_lstK (da_cons (de_str) (da_nil))) (da_cons (de_non) (da_cons (de_str) (da_cons (de_int) (da_cons (de_edc) (da_nil))))))))) (da_nil)))))
      (ds_cons (ds_set (i := 5) (fun te he => ps_set (i := 5) nd rfl (Or.inl rfl) he) (de_lst (da_cons (de_lam (k := 5) ⟨hB.gK, hB.gf, hB.gc, hB.gn, hB.gt⟩ rfl (okL_49 T) T.F_49 (by rfl) T.g_49 T.b_49 sc_49 rfl (by first | exact Or.inl rfl | exact Or.inr (Or.inl rfl) | exact Or.inr (Or.inr rfl)) T.fL TB (hcd.trans T.k_51) T.t_51 T.u_51 (hB.room.mono (by decide)) hB.gd (lamS_by (sc := defScope s_51) (by decide +kernel)) rfl (fun _ _ _ _ _ => rfl) (fun A outer s H E f c' B hB => have hK := hB.gK; have hu := hu65 hB.room; de_call ⟨hB.gK, hB.gf, hB.gc, hB.gn, hB.gt⟩ O_32 (hB.room.mono (by decide)) hB.gd (by rfl) T.g_32 T.F_32.kp T.b_32 hB.takes (len_cons (len_cons (len_nil))) (da_cons (de_str) (da_cons (de_var (pv 4)) (da_nil))))) (da_nil))))
      (ds_cons (ds_set (i := 5) (fun te he => ps_set (i := 5) nd rfl (Or.inl rfl) he) (de_add hK (de_var (pv 5)) (de_lst (da_cons (de_lam (k := 7) ⟨hB.gK, hB.gf, hB.gc, hB.gn, hB.gt⟩ rfl (okL_49 T) T.F_49 (by rfl) T.g_49 T.b_49 sc_49 rfl (by first | exact Or.inl rfl | exact Or.inr (Or.inl rfl) | exact Or.inr (Or.inr rfl)) T.fL TB (hcd.trans T.k_51) T.t_51 T.u_51 (hB.room.mono (by decide)) hB.gd (lamS_by (sc := defScope s_51) (by decide +kernel)) rfl (fun _ _ _ _ _ => rfl) (fun A outer s H E f c' B hB => have hK := hB.gK; have hu := hu65 hB.room; de_call ⟨hB.gK, hB.gf, hB.gc, hB.gn, hB.gt⟩ O_44 (hB.room.mono (by decide)) hB.gd (by rfl) T.g_44 T.F_44.kp T.b_44 hB.takes (len_cons (len_nil)) (da_cons (de_var (pv 1)) (da_nil)))) (da_nil)))))
      (ds_cons (ds_set (i := 6) (fun te he => ps_set (i := 6) nd rfl (Or.inr rfl) he) (de_lst (da_cons (de_non) (da_cons (de_int) (da_cons (de_tup (da_nil)) (da_cons (de_tup (da_cons (de_int) (da_cons (de_int) (da_nil)))) (da_cons (de_tup (da_cons (de_int) (da_cons (de_int) (da_nil)))) (da_cons (de_tup (da_cons (de_int) (da_nil))) (da_cons (de_tup (da_cons (de_int) (da_cons (de_int) (da_cons (de_int) (da_nil))))) (da_cons (de_tup (da_cons (de_int) (da_cons (de_int) (da_cons (de_int) (da_nil))))) (da_cons (de_tup (da_cons (de_int) (da_cons (de_int) (da_cons (de_int) (da_nil))))) (da_cons (de_tup (da_cons (de_int) (da_cons (de_int) (da_cons (de_int) (da_nil))))) (da_cons (de_lstK (da_cons (de_int) (da_cons (de_int) (da_cons (de_int) (da_nil))))) (da_cons (de_tup (da_cons (de_int) (da_cons (de_bl) (da_cons (de_int) (da_nil))))) (da_cons (de_edc) (da_nil))))))))))))))))
      (ds_cons (ds_set (i := 6) (fun te he => ps_set (i := 6) nd rfl (Or.inr rfl) he) (de_call ⟨hB.gK, hB.gf, hB.gc, hB.gn, hB.gt⟩ O_48 (hB.room.mono (by decide)) hB.gd (by rfl) T.g_48 T.F_48.kp T.b_48 hB.takes (len_cons (len_cons (len_nil))) (da_cons (de_var (pv 0)) (da_cons (de_add hK (de_var (pv 6)) (de_lst (da_cons (de_str) (da_nil)))) (da_nil)))))
      (ds_cons (ds_set (i := 5) (fun te he => ps_set (i := 5) nd rfl (Or.inl rfl) he) (de_add hK (de_var (pv 5)) (de_lc (own := [("call", 7)]) rfl nd (di_seq hK (de_tup (da_cons (de_fn (by rfl) T.g_42 (by rw [hB.gf]; exact T.h_42)) (da_cons (de_fn (by rfl) T.g_43 (by rw [hB.gf]; exact T.h_43)) (da_nil))))) (blkOk_by (N := ["dice", "no", "i", "word", "some", "told", "line", "call", "n", "far"]) (sc := defScope s_51) (own := [("call", 7)]) (by decide +kernel)) (fun _ _ _ _ _ => dg_name (I := (· ∈ [7])) (by simp) (pg_name (i := 7) nd rfl (by first | exact Or.inl rfl | exact Or.inr rfl))) (fun _ _ _ _ _ => dts_nil) (fun _ _ _ _ _ => de_lam (k := 6) ⟨hB.gK, hB.gf, hB.gc, hB.gn, hB.gt⟩ rfl (okL_49 T) T.F_49 (by rfl) T.g_49 T.b_49 sc_49 rfl (by first | exact Or.inl rfl | exact Or.inr (Or.inl rfl) | exact Or.inr (Or.inr rfl)) T.fL TB (hcd.trans T.k_51) T.t_51 T.u_51 (hB.room.mono (by decide)) hB.gd (lamS_by (by rfl)) rfl (fun _ _ _ _ _ => rfl) (fun A outer s H E f c' B hB => have hK := hB.gK; have hu := hu65 hB.room; de_callV ⟨hB.gK, hB.gf, hB.gc, hB.gn, hB.gt⟩ (held_2 T) (hB.room.mono (by decide)) hB.gd (by rfl) (by first | exact Or.inl rfl | exact Or.inr (Or.inl rfl) | exact Or.inr (Or.inr rfl)) hB.takes (da_cons (de_var (pv 6)) (da_nil)))))))
      (ds_cons (ds_set (i := 8) (fun te he => ps_set (i := 8) nd rfl (Or.inr rfl) he) (de_call ⟨hB.gK, hB.gf, hB.gc, hB.gn, hB.gt⟩ O_48 (hB.room.mono (by decide)) hB.gd (by rfl) T.g_48 T.F_48.kp T.b_48 hB.takes (len_cons (len_cons (len_nil))) (da_cons (de_var (pv 0)) (da_cons (de_lst (da_cons (de_non) (da_cons (de_int) (da_cons (de_neg (de_int)) (da_cons (de_int) (da_cons (de_bl) (da_cons (de_str) (da_cons (de_tup (da_cons (de_int) (da_nil))) (da_cons (de_pow (de_int) (de_int)) (da_nil)))))))))) (da_nil)))))
      (ds_cons (ds_set (i := 9) (fun te he => ps_set (i := 9) nd rfl (Or.inr rfl) he) (de_call ⟨hB.gK, hB.gf, hB.gc, hB.gn, hB.gt⟩ O_48 (hB.room.mono (by decide)) hB.gd (by rfl) T.g_48 T.F_48.kp T.b_48 hB.takes (len_cons (len_cons (len_nil))) (da_cons (de_var (pv 0)) (da_cons (de_lst (da_cons (de_non) (da_cons (de_int) (da_cons (de_neg (de_int)) (da_cons (de_int) (da_cons (de_bl) (da_cons (de_str) (da_cons (de_tup (da_cons (de_int) (da_nil))) (da_cons (de_pow (de_int) (de_int)) (da_nil)))))))))) (da_nil)))))
      (ds_cons (ds_set (i := 5) (fun te he => ps_set (i := 5) nd rfl (Or.inl rfl) he) (de_add hK (de_var (pv 5)) (de_lst (da_cons (de_lam (k := 9) ⟨hB.gK, hB.gf, hB.gc, hB.gn, hB.gt⟩ rfl (okL_49 T) T.F_49 (by rfl) T.g_49 T.b_49 sc_49 rfl (by first | exact Or.inl rfl | exact Or.inr (Or.inl rfl) | exact Or.inr (Or.inr rfl)) T.fL TB (hcd.trans T.k_51) T.t_51 T.u_51 (hB.room.mono (by decide)) hB.gd (lamS_by (sc := defScope s_51) (by decide +kernel)) rfl (fun _ _ _ _ _ => rfl) (fun A outer s H E f c' B hB => have hK := hB.gK; have hu := hu65 hB.room; de_call ⟨hB.gK, hB.gf, hB.gc, hB.gn, hB.gt⟩ O_40 (hB.room.mono (by decide)) hB.gd (by rfl) T.g_40 T.F_40.kp T.b_40 hB.takes (len_cons (len_nil)) (da_cons (de_var (pv 8)) (da_nil)))) (da_nil)))))
      (ds_cons (ds_set (i := 5) (fun te he => ps_set (i := 5) nd rfl (Or.inl rfl) he) (de_add hK (de_var (pv 5)) (de_lst (da_cons (de_lam (k := 5) ⟨hB.gK, hB.gf, hB.gc, hB.gn, hB.gt⟩ rfl (okL_49 T) T.F_49 (by rfl) T.g_49 T.b_49 sc_49 rfl (by first | exact Or.inl rfl | exact Or.inr (Or.inl rfl) | exact Or.inr (Or.inr rfl)) T.fL TB (hcd.trans T.k_51) T.t_51 T.u_51 (hB.room.mono (by decide)) hB.gd (lamS_by (sc := defScope s_51) (by decide +kernel)) rfl (fun _ _ _ _ _ => rfl) (fun A outer s H E f c' B hB => have hK := hB.gK; have hu := hu65 hB.room; de_call ⟨hB.gK, hB.gf, hB.gc, hB.gn, hB.gt⟩ O_41 (hB.room.mono (by decide)) hB.gd (by rfl) T.g_41 T.F_41.kp T.b_41 hB.takes (len_cons (len_nil)) (da_cons (de_var (pv 9)) (da_nil)))) (da_nil)))))
      (ds_one (ds_ret (de_cmp (opR_eq hu) (den_eq hK) (de_var (pv 5)) (de_add hK (de_add hK (de_mul hK (de_lst (da_cons (de_str) (da_nil))) (de_int)) (de_mul hK (de_lst (da_cons (de_str) (da_nil))) (de_int))) (de_lst (da_cons (de_add hK (de_str) (de_blt (call_reprU (have h := hu100 hB.room; h) hB.gd) (den_reprU hK) (by rfl) T.n_repr (by decide +kernel) (da_cons (de_var (pv 8)) (da_nil)))) (da_cons (de_add hK (de_str) (de_blt (call_reprU (have h := hu100 hB.room; h) hB.gd) (den_reprU hK) (by rfl) T.n_repr (by decide +kernel) (da_cons (de_var (pv 9)) (da_nil)))) (da_nil))))) (nomark _)))))))))))))))))))
theorem ok_52 (T : Tx P G mg fA fD w cA kA pA) (TBs : ∀ j ∈ lamDefs, TabB base mg (kA j) (pA j)) : FnG P w G.K mg base 13 (fA 52) (fD 52) ["script"] (spD G 1 m_52) := by
  have nd := sc_52.nd
  have O_32 : FnG P w G.K mg base 5 (fA 32) (fD 32) ["word", "words"] (spD G 2 m_32) := ok_32 T
  have O_43 : FnG P w G.K mg base 6 (fA 43) (fD 43) ["bump"] (spD G 1 m_43) := ok_43 T
  have O_44 : FnG P w G.K mg base 7 (fA 44) (fD 44) ["word"] (spD G 1 m_44) := ok_44 T TBs
  have O_46 : FnG P w G.K mg base 2 (fA 46) (fD 46) ["script", "spot"] (spD G 2 m_46) := ok_46 T
  have O_51 : FnG P w G.K mg base 12 (fA 51) (fD 51) ["dice"] (spD G 1 m_51) := ok_51 T TBs
  have TB : TabB base mg (kA 52) (pA 52) := TBs 52 (by decide)
  refine def_okC (k := 12) T.F_52 sc_52 rfl fun E cd A outer s H B hcd hB => ?_
  have hK := hB.gK
  have hu := hu65 hB.room
  exact
      ds_cons (ds_for hB.own rfl (di_rng1 (by rfl) T.n_range (da_cons (de_blt (call_max2 rfl) den_max2 (by rfl) T.n_max (by decide +kernel) (da_cons (de_int) (da_cons (de_blt (call_min2 rfl) den_min2 (by rfl) T.n_min (by decide +kernel) (da_cons (de_int) (da_cons (de_blt call_lenA (den_len hK) (by rfl) T.n_len (by decide +kernel) (da_cons (de_var (pv 0)) (da_nil))) (da_nil)))) (da_nil)))) (da_nil)) rfl (len_cons (len_nil))) (dg_name (I := fun _ => True) trivial (pg_name (i := 1) nd rfl (Or.inl rfl))) (ds_cons (ds_set (i := 2) (fun te he => ps_set (i := 2) nd rfl (Or.inl rfl) he) (de_call ⟨hB.gK, hB.gf, hB.gc, hB.gn, hB.gt⟩ O_46 (hB.room.mono (by decide)) hB.gd (by rfl) T.g_46 T.F_46.kp T.b_46 hB.takes (len_cons (len_cons (len_nil))) (da_cons (de_var (pv 0)) (da_cons (de_var (pv 1)) (da_nil)))))
      (ds_one (ds_for hB.own rfl (di_rng1 (by rfl) T.n_range (da_cons (de_int) (da_nil)) rfl (len_cons (len_nil))) (dg_name (I := fun _ => True) trivial (pg_name (i := 3) nd rfl (Or.inl rfl))) (ds_one (ds_if (dt_not (dt_truth hK (de_call ⟨hB.gK, hB.gf, hB.gc, hB.gn, hB.gt⟩ O_51 (hB.room.mono (by decide)) hB.gd (by rfl) T.g_51 T.F_51.kp T.b_51 hB.takes (len_cons (len_nil)) (da_cons (de_var (pv 2)) (da_nil))))) (ds_one (ds_ret (de_bl))) (ds_nil)))))))
      (ds_cons (ds_set (i := 4) (fun te he => ps_set (i := 4) nd rfl (Or.inl rfl) he) (de_lst (da_cons (de_str) (da_cons (de_add hK (de_add hK (de_str) (de_mulS (de_str) (de_int))) (de_str)) (da_cons (de_add hK (de_add hK (de_str) (de_mulS (de_str) (de_int))) (de_str)) (da_cons (de_add hK (de_mulS (de_str) (de_int)) (de_str)) (da_nil)))))))
      (ds_cons (ds_setLc (i := 5) (own := [("word", 6)]) rfl nd rfl rfl (sw_true rfl rfl rfl (by decide +kernel)) (di_seq hK (de_var (pv 4))) (blkOk_by (N := ["script", "spot", "dice", "turn", "some", "told", "word", "line"]) (sc := defScope s_52) (own := [("word", 6)]) (by decide +kernel)) (fun _ _ _ _ _ => dg_name (I := (· ∈ [6])) (by simp) (pg_name (i := 6) nd rfl (by first | exact Or.inl rfl | exact Or.inr rfl))) (fun _ _ _ _ _ => dts_nil) (fun _ _ _ _ _ => de_lam (k := 7) ⟨hB.gK, hB.gf, hB.gc, hB.gn, hB.gt⟩ rfl (okL_49 T) T.F_49 (by rfl) T.g_49 T.b_49 sc_49 rfl (by first | exact Or.inl rfl | exact Or.inr (Or.inl rfl) | exact Or.inr (Or.inr rfl)) T.fL TB (hcd.trans T.k_52) T.t_52 T.u_52 (hB.room.mono (by decide)) hB.gd (lamS_by (by rfl)) rfl (fun _ _ _ _ _ => rfl) (fun A outer s H E f c' B hB => have hK := hB.gK; have hu := hu65 hB.room; de_call ⟨hB.gK, hB.gf, hB.gc, hB.gn, hB.gt⟩ O_44 (hB.room.mono (by decide)) hB.gd (by rfl) T.g_44 T.F_44.kp T.b_44 hB.takes (len_cons (len_nil)) (da_cons (de_var (pv 6)) (da_nil)))))
      (ds_cons (ds_set (i := 5) (fun te he => ps_set (i := 5) nd rfl (Or.inl rfl) he) (de_add hK (de_var (pv 5)) (de_lc (own := [("line", 7)]) rfl nd (di_seq hK (de_tup (da_cons (de_tup (da_cons (de_int) (da_cons (de_int) (da_cons (de_int) (da_nil))))) (da_cons (de_tup (da_cons (de_int) (da_cons (de_int) (da_cons (de_int) (da_nil))))) (da_nil))))) (blkOk_by (N := ["script", "spot", "dice", "turn", "some", "told", "word", "line"]) (sc := defScope s_52) (own := [("line", 7)]) (by decide +kernel)) (fun _ _ _ _ _ => dg_name (I := (· ∈ [7])) (by simp) (pg_name (i := 7) nd rfl (by first | exact Or.inl rfl | exact Or.inr rfl))) (fun _ _ _ _ _ => dts_nil) (fun _ _ _ _ _ => de_lam (k := 6) ⟨hB.gK, hB.gf, hB.gc, hB.gn, hB.gt⟩ rfl (okL_49 T) T.F_49 (by rfl) T.g_49 T.b_49 sc_49 rfl (by first | exact Or.inl rfl | exact Or.inr (Or.inl rfl) | exact Or.inr (Or.inr rfl)) T.fL TB (hcd.trans T.k_52) T.t_52 T.u_52 (hB.room.mono (by decide)) hB.gd (lamS_by (by rfl)) rfl (fun _ _ _ _ _ => rfl) (fun A outer s H E f c' B hB => have hK := hB.gK; have hu := hu65 hB.room; de_call ⟨hB.gK, hB.gf, hB.gc, hB.gn, hB.gt⟩ O_43 (hB.room.mono (by decide)) hB.gd (by rfl) T.g_43 T.F_43.kp T.b_43 hB.takes (len_cons (len_nil)) (da_cons (de_var (pv 7)) (da_nil)))))))
      (ds_cons (ds_expr (de_mth hK PySem.F.plainAttrs_list PySem.F.slot_list_append PySem.F.type_list_append mt_append den_append (de_var (pv 5)) (da_cons (de_lam (k := 5) ⟨hB.gK, hB.gf, hB.gc, hB.gn, hB.gt⟩ rfl (okL_49 T) T.F_49 (by rfl) T.g_49 T.b_49 sc_49 rfl (by first | exact Or.inl rfl | exact Or.inr (Or.inl rfl) | exact Or.inr (Or.inr rfl)) T.fL TB (hcd.trans T.k_52) T.t_52 T.u_52 (hB.room.mono (by decide)) hB.gd (lamS_by (sc := defScope s_52) (by decide +kernel)) rfl (fun _ _ _ _ _ => rfl) (fun A outer s H E f c' B hB => have hK := hB.gK; have hu := hu65 hB.room; de_call ⟨hB.gK, hB.gf, hB.gc, hB.gn, hB.gt⟩ O_32 (hB.room.mono (by decide)) hB.gd (by rfl) T.g_32 T.F_32.kp T.b_32 hB.takes (len_cons (len_cons (len_nil))) (da_cons (de_str) (da_cons (de_tup (da_nil)) (da_nil))))) (da_nil))))
      (ds_one (ds_ret (de_cmp (opR_eq hu) (den_eq hK) (de_var (pv 5)) (de_lst (da_cons (de_tup (da_cons (de_str) (da_nil))) (da_cons (de_str) (da_cons (de_str) (da_cons (de_tup (da_cons (de_str) (da_nil))) (da_cons (de_tup (da_cons (de_str) (da_nil))) (da_cons (de_str) (da_cons (de_str) (da_nil))))))))) (nomark _))))))))
end
end Law

namespace Law
open PySem PySem.Spec L2 DM LamX
open PyProof.Rows hiding St
abbrev si_2 : Stmt := (clsBody (topS 4)).getD 0 (.Pass ⟨0, 0, 0, 0⟩)
theorem is_2 : IniS si_2 "InvalidNumber.__init__" "value" "value" ("a number within the told bounds is expected" : Str) :=
  ⟨⟨_, _, _, _, _, _, _, _, _, _, _, rfl, fun _ _ _ _ => ⟨rfl, _, rfl⟩, fun _ _ _ _ => rfl⟩, ⟨_, rfl, rfl⟩, by decide +kernel, by decide +kernel, by decide +kernel, by decide +kernel, rfl, rfl, rfl, by decide +kernel, by decide, by decide, fun s dV kV doc pm cdv ct an cc u v e => by subst e; exact .of_eq rfl⟩
abbrev si_3 : Stmt := (clsBody (topS 5)).getD 0 (.Pass ⟨0, 0, 0, 0⟩)
theorem is_3 : IniS si_3 "TooMany.__init__" "number" "number" ("something is beyond a limit" : Str) :=
  ⟨⟨_, _, _, _, _, _, _, _, _, _, _, rfl, fun _ _ _ _ => ⟨rfl, _, rfl⟩, fun _ _ _ _ => rfl⟩, ⟨_, rfl, rfl⟩, by decide +kernel, by decide +kernel, by decide +kernel, by decide +kernel, rfl, rfl, rfl, by decide +kernel, by decide, by decide, fun s dV kV doc pm cdv ct an cc u v e => by subst e; exact .of_eq rfl⟩
abbrev si_4 : Stmt := (clsBody (topS 6)).getD 0 (.Pass ⟨0, 0, 0, 0⟩)
theorem is_4 : IniS si_4 "Refused.__init__" "reason" "reason" ("something is refused" : Str) :=
  ⟨⟨_, _, _, _, _, _, _, _, _, _, _, rfl, fun _ _ _ _ => ⟨rfl, _, rfl⟩, fun _ _ _ _ => rfl⟩, ⟨_, rfl, rfl⟩, by decide +kernel, by decide +kernel, by decide +kernel, by decide +kernel, rfl, rfl, rfl, by decide +kernel, by decide, by decide, fun s dV kV doc pm cdv ct an cc u v e => by subst e; exact .of_eq rfl⟩
set_option maxHeartbeats 4000000 in
theorem all_mk {l : PySem.W.OpenLaw} {q : Program} {loose : List Str} {XP : (Str → Option Value) → Heap → Prop} {w : World} {s₀ : Shared} {K : PySem.W.Frag} {h : Heap} {mg mb : Str → Option Value} {fa : Addr} (GG : PySem.W.Ground q loose [] XP w s₀ mg mb h) (X : K.In h) (hfa : mg "law" = some (.ref fa)) {od0 an0 : Option Addr} {sl0 : Array (Option Value)} {oc0 kV0 dc0 pm0 ct0 : Value} {f0 : Addr} {cd0 : Value} {od1 an1 : Option Addr} {sl1 : Array (Option Value)} {oc1 kV1 dc1 pm1 ct1 : Value} {f1 : Addr} {cd1 : Value} {od2 an2 : Option Addr} {sl2 : Array (Option Value)} {oc2 kV2 dc2 pm2 ct2 : Value} {f2 : Addr} {cd2 : Value} {od3 an3 : Option Addr} {sl3 : Array (Option Value)} {oc3 kV3 dc3 pm3 ct3 : Value} {f3 : Addr} {cd3 : Value} {od4 an4 : Option Addr} {sl4 : Array (Option Value)} {oc4 kV4 dc4 pm4 ct4 : Value} {f4 : Addr} {cd4 : Value} {od5 an5 : Option Addr} {sl5 : Array (Option Value)} {oc5 kV5 dc5 pm5 ct5 : Value} {f5 : Addr} {cd5 : Value} {od6 an6 : Option Addr} {sl6 : Array (Option Value)} {oc6 kV6 dc6 pm6 ct6 : Value} {f6 : Addr} {cd6 : Value} {od7 an7 : Option Addr} {sl7 : Array (Option Value)} {oc7 kV7 dc7 pm7 ct7 : Value} {f7 : Addr} {cd7 : Value} {od8 an8 : Option Addr} {sl8 : Array (Option Value)} {oc8 kV8 dc8 pm8 ct8 : Value} {f8 : Addr} {cd8 : Value} {od9 an9 : Option Addr} {sl9 : Array (Option Value)} {oc9 kV9 dc9 pm9 ct9 : Value} {f9 : Addr} {cd9 : Value} {od10 an10 : Option Addr} {sl10 : Array (Option Value)} {oc10 kV10 dc10 pm10 ct10 : Value} {f10 : Addr} {cd10 : Value} {od11 an11 : Option Addr} {sl11 : Array (Option Value)} {oc11 kV11 dc11 pm11 ct11 : Value} {f11 : Addr} {cd11 : Value} {od12 an12 : Option Addr} {sl12 : Array (Option Value)} {oc12 kV12 dc12 pm12 ct12 : Value} {f12 : Addr} {kc12 pt12 : Addr} {vk12 : Array Value} {ck12 : Value} {dk12 : Option Addr} {sk12 : Array (Option Value)} {rd12 : DefRec} {od13 an13 : Option Addr} {sl13 : Array (Option Value)} {oc13 kV13 dc13 pm13 ct13 : Value} {f13 : Addr} {cd13 : Value} {od14 an14 : Option Addr} {sl14 : Array (Option Value)} {oc14 kV14 dc14 pm14 ct14 : Value} {f14 : Addr} {cd14 : Value} {od15 an15 : Option Addr} {sl15 : Array (Option Value)} {oc15 kV15 dc15 pm15 ct15 : Value} {f15 : Addr} {cd15 : Value} {od16 an16 : Option Addr} {sl16 : Array (Option Value)} {oc16 kV16 dc16 pm16 ct16 : Value} {f16 : Addr} {cd16 : Value} {od17 an17 : Option Addr} {sl17 : Array (Option Value)} {oc17 kV17 dc17 pm17 ct17 : Value} {f17 : Addr} {cd17 : Value} {od18 an18 : Option Addr} {sl18 : Array (Option Value)} {oc18 kV18 dc18 pm18 ct18 : Value} {f18 : Addr} {cd18 : Value} {od19 an19 : Option Addr} {sl19 : Array (Option Value)} {oc19 kV19 dc19 pm19 ct19 : Value} {f19 : Addr} {cd19 : Value} {od20 an20 : Option Addr} {sl20 : Array (Option Value)} {oc20 kV20 dc20 pm20 ct20 : Value} {f20 : Addr} {cd20 : Value} {od21 an21 : Option Addr} {sl21 : Array (Option Value)} {oc21 kV21 dc21 pm21 ct21 : Value} {f21 : Addr} {cd21 : Value} {od22 an22 : Option Addr} {sl22 : Array (Option Value)} {oc22 kV22 dc22 pm22 ct22 : Value} {f22 : Addr} {cd22 : Value} {od23 an23 : Option Addr} {sl23 : Array (Option Value)} {oc23 kV23 dc23 pm23 ct23 : Value} {f23 : Addr} {cd23 : Value} {od24 an24 : Option Addr} {sl24 : Array (Option Value)} {oc24 kV24 dc24 pm24 ct24 : Value} {f24 : Addr} {cd24 : Value} {od25 an25 : Option Addr} {sl25 : Array (Option Value)} {oc25 kV25 dc25 pm25 ct25 : Value} {f25 : Addr} {cd25 : Value} {od26 an26 : Option Addr} {sl26 : Array (Option Value)} {oc26 kV26 dc26 pm26 ct26 : Value} {f26 : Addr} {cd26 : Value} {od27 an27 : Option Addr} {sl27 : Array (Option Value)} {oc27 kV27 dc27 pm27 ct27 : Value} {f27 : Addr} {cd27 : Value} {od28 an28 : Option Addr} {sl28 : Array (Option Value)} {oc28 kV28 dc28 pm28 ct28 : Value} {f28 : Addr} {cd28 : Value} {od29 an29 : Option Addr} {sl29 : Array (Option Value)} {oc29 kV29 dc29 pm29 ct29 : Value} {f29 : Addr} {cd29 : Value} {od30 an30 : Option Addr} {sl30 : Array (Option Value)} {oc30 kV30 dc30 pm30 ct30 : Value} {f30 : Addr} {cd30 : Value} {od31 an31 : Option Addr} {sl31 : Array (Option Value)} {oc31 kV31 dc31 pm31 ct31 : Value} {f31 : Addr} {cd31 : Value} {od32 an32 : Option Addr} {sl32 : Array (Option Value)} {oc32 kV32 dc32 pm32 ct32 : Value} {f32 : Addr} {cd32 : Value} {od33 an33 : Option Addr} {sl33 : Array (Option Value)} {oc33 kV33 dc33 pm33 ct33 : Value} {f33 : Addr} {cd33 : Value} {od34 an34 : Option Addr} {sl34 : Array (Option Value)} {oc34 kV34 dc34 pm34 ct34 : Value} {f34 : Addr} {cd34 : Value} {od35 an35 : Option Addr} {sl35 : Array (Option Value)} {oc35 kV35 dc35 pm35 ct35 : Value} {f35 : Addr} {cd35 : Value} {od36 an36 : Option Addr} {sl36 : Array (Option Value)} {oc36 kV36 dc36 pm36 ct36 : Value} {f36 : Addr} {cd36 : Value} {od37 an37 : Option Addr} {sl37 : Array (Option Value)} {oc37 kV37 dc37 pm37 ct37 : Value} {f37 : Addr} {cd37 : Value} {od38 an38 : Option Addr} {sl38 : Array (Option Value)} {oc38 kV38 dc38 pm38 ct38 : Value} {f38 : Addr} {cd38 : Value} {od39 an39 : Option Addr} {sl39 : Array (Option Value)} {oc39 kV39 dc39 pm39 ct39 : Value} {f39 : Addr} {cd39 : Value} {od40 an40 : Option Addr} {sl40 : Array (Option Value)} {oc40 kV40 dc40 pm40 ct40 : Value} {f40 : Addr} {cd40 : Value} {od41 an41 : Option Addr} {sl41 : Array (Option Value)} {oc41 kV41 dc41 pm41 ct41 : Value} {f41 : Addr} {cd41 : Value} {od42 an42 : Option Addr} {sl42 : Array (Option Value)} {oc42 kV42 dc42 pm42 ct42 : Value} {f42 : Addr} {cd42 : Value} {od43 an43 : Option Addr} {sl43 : Array (Option Value)} {oc43 kV43 dc43 pm43 ct43 : Value} {f43 : Addr} {cd43 : Value} {od44 an44 : Option Addr} {sl44 : Array (Option Value)} {oc44 kV44 dc44 pm44 ct44 : Value} {f44 : Addr} {cd44 : Value} {od45 an45 : Option Addr} {sl45 : Array (Option Value)} {oc45 kV45 dc45 pm45 ct45 : Value} {f45 : Addr} {cd45 : Value} {od46 an46 : Option Addr} {sl46 : Array (Option Value)} {oc46 kV46 dc46 pm46 ct46 : Value} {f46 : Addr} {cd46 : Value} {od47 an47 : Option Addr} {sl47 : Array (Option Value)} {oc47 kV47 dc47 pm47 ct47 : Value} {f47 : Addr} {cd47 : Value} {od48 an48 : Option Addr} {sl48 : Array (Option Value)} {oc48 kV48 dc48 pm48 ct48 : Value} {f48 : Addr} {cd48 : Value} {od49 an49 : Option Addr} {sl49 : Array (Option Value)} {oc49 kV49 dc49 pm49 ct49 : Value} {f49 : Addr} {cd49 : Value} {od50 an50 : Option Addr} {sl50 : Array (Option Value)} {oc50 kV50 dc50 pm50 ct50 : Value} {f50 : Addr} {kc50 pt50 : Addr} {vk50 : Array Value} {ck50 : Value} {dk50 : Option Addr} {sk50 : Array (Option Value)} {rd50 : DefRec} {od51 an51 : Option Addr} {sl51 : Array (Option Value)} {oc51 kV51 dc51 pm51 ct51 : Value} {f51 : Addr} {kc51 pt51 : Addr} {vk51 : Array Value} {ck51 : Value} {dk51 : Option Addr} {sk51 : Array (Option Value)} {rd51 : DefRec} {od52 an52 : Option Addr} {sl52 : Array (Option Value)} {oc52 kV52 dc52 pm52 ct52 : Value} {f52 : Addr} {kc52 pt52 : Addr} {vk52 : Array Value} {ck52 : Value} {dk52 : Option Addr} {sk52 : Array (Option Value)} {rd52 : DefRec}
    (a0 : PySem.W.nsIn K mainGlobals "is_whole" = some (some (.ref f0))) (l0 : K.lookup f0 = some ⟨oc0, od0, .func (PySem.W.fnOf "is_whole" "is_whole" (defArgs s_0) (defBody s_0) (defScope s_0) .none kV0 dc0 pm0 an0 cd0 ct0), sl0⟩) (c0 : PySem.W.codeIn K cd0 "is_whole" = true) (k0 : PySem.W.keepIn K (.ref f0) = true)
    (a1 : PySem.W.nsIn K mainGlobals "is_near" = some (some (.ref f1))) (l1 : K.lookup f1 = some ⟨oc1, od1, .func (PySem.W.fnOf "is_near" "is_near" (defArgs s_1) (defBody s_1) (defScope s_1) .none kV1 dc1 pm1 an1 cd1 ct1), sl1⟩) (c1 : PySem.W.codeIn K cd1 "is_near" = true) (k1 : PySem.W.keepIn K (.ref f1) = true)
    (a2 : PySem.W.nsIn K mainGlobals "is_within" = some (some (.ref f2))) (l2 : K.lookup f2 = some ⟨oc2, od2, .func (PySem.W.fnOf "is_within" "is_within" (defArgs s_2) (defBody s_2) (defScope s_2) .none kV2 dc2 pm2 an2 cd2 ct2), sl2⟩) (c2 : PySem.W.codeIn K cd2 "is_within" = true) (k2 : PySem.W.keepIn K (.ref f2) = true)
    (a3 : PySem.W.nsIn K mainGlobals "require_number" = some (some (.ref f3))) (l3 : K.lookup f3 = some ⟨oc3, od3, .func (PySem.W.fnOf "require_number" "require_number" (defArgs s_3) (defBody s_3) (defScope s_3) .none kV3 dc3 pm3 an3 cd3 ct3), sl3⟩) (c3 : PySem.W.codeIn K cd3 "require_number" = true) (k3 : PySem.W.keepIn K (.ref f3) = true)
    (a4 : PySem.W.nsIn K mainGlobals "is_line_in" = some (some (.ref f4))) (l4 : K.lookup f4 = some ⟨oc4, od4, .func (PySem.W.fnOf "is_line_in" "is_line_in" (defArgs s_4) (defBody s_4) (defScope s_4) .none kV4 dc4 pm4 an4 cd4 ct4), sl4⟩) (c4 : PySem.W.codeIn K cd4 "is_line_in" = true) (k4 : PySem.W.keepIn K (.ref f4) = true)
    (a5 : PySem.W.nsIn K mainGlobals "cycle_in" = some (some (.ref f5))) (l5 : K.lookup f5 = some ⟨oc5, od5, .func (PySem.W.fnOf "cycle_in" "cycle_in" (defArgs s_5) (defBody s_5) (defScope s_5) .none kV5 dc5 pm5 an5 cd5 ct5), sl5⟩) (c5 : PySem.W.codeIn K cd5 "cycle_in" = true) (k5 : PySem.W.keepIn K (.ref f5) = true)
    (a6 : PySem.W.nsIn K mainGlobals "is_round_in" = some (some (.ref f6))) (l6 : K.lookup f6 = some ⟨oc6, od6, .func (PySem.W.fnOf "is_round_in" "is_round_in" (defArgs s_6) (defBody s_6) (defScope s_6) .none kV6 dc6 pm6 an6 cd6 ct6), sl6⟩) (c6 : PySem.W.codeIn K cd6 "is_round_in" = true) (k6 : PySem.W.keepIn K (.ref f6) = true)
    (a7 : PySem.W.nsIn K mainGlobals "is_word_in" = some (some (.ref f7))) (l7 : K.lookup f7 = some ⟨oc7, od7, .func (PySem.W.fnOf "is_word_in" "is_word_in" (defArgs s_7) (defBody s_7) (defScope s_7) .none kV7 dc7 pm7 an7 cd7 ct7), sl7⟩) (c7 : PySem.W.codeIn K cd7 "is_word_in" = true) (k7 : PySem.W.keepIn K (.ref f7) = true)
    (a8 : PySem.W.nsIn K mainGlobals "key_of_signs" = some (some (.ref f8))) (l8 : K.lookup f8 = some ⟨oc8, od8, .func (PySem.W.fnOf "key_of_signs" "key_of_signs" (defArgs s_8) (defBody s_8) (defScope s_8) .none kV8 dc8 pm8 an8 cd8 ct8), sl8⟩) (c8 : PySem.W.codeIn K cd8 "key_of_signs" = true) (k8 : PySem.W.keepIn K (.ref f8) = true)
    (a9 : PySem.W.nsIn K mainGlobals "words_compared" = some (some (.ref f9))) (l9 : K.lookup f9 = some ⟨oc9, od9, .func (PySem.W.fnOf "words_compared" "words_compared" (defArgs s_9) (defBody s_9) (defScope s_9) .none kV9 dc9 pm9 an9 cd9 ct9), sl9⟩) (c9 : PySem.W.codeIn K cd9 "words_compared" = true) (k9 : PySem.W.keepIn K (.ref f9) = true)
    (a10 : PySem.W.nsIn K mainGlobals "shifted" = some (some (.ref f10))) (l10 : K.lookup f10 = some ⟨oc10, od10, .func (PySem.W.fnOf "shifted" "shifted" (defArgs s_10) (defBody s_10) (defScope s_10) .none kV10 dc10 pm10 an10 cd10 ct10), sl10⟩) (c10 : PySem.W.codeIn K cd10 "shifted" = true) (k10 : PySem.W.keepIn K (.ref f10) = true)
    (a11 : PySem.W.nsIn K mainGlobals "shifts_in" = some (some (.ref f11))) (l11 : K.lookup f11 = some ⟨oc11, od11, .func (PySem.W.fnOf "shifts_in" "shifts_in" (defArgs s_11) (defBody s_11) (defScope s_11) .none kV11 dc11 pm11 an11 cd11 ct11), sl11⟩) (c11 : PySem.W.codeIn K cd11 "shifts_in" = true) (k11 : PySem.W.keepIn K (.ref f11) = true)
    (a12 : PySem.W.nsIn K mainGlobals "shift_order_in" = some (some (.ref f12))) (l12 : K.lookup f12 = some ⟨oc12, od12, .func (PySem.W.fnOf "shift_order_in" "shift_order_in" (defArgs s_12) (defBody s_12) (defScope s_12) .none kV12 dc12 pm12 an12 (.ref kc12) ct12), sl12⟩) (c12 : PySem.W.codeIn K (.ref kc12) "shift_order_in" = true) (k12 : PySem.W.keepIn K (.ref f12) = true)
    (lk12 : K.lookup kc12 = some ⟨ck12, dk12, .fields vk12, sk12⟩) (vt12 : (vk12[11]? : Option Value) = some (.ref pt12)) (nt12 : K.lookup pt12 = none) (rr12 : (PyProof.Rows.recsOf q).find? (fun e => e.name == ("shift_order_in" : Str)) = some rd12)
    (a13 : PySem.W.nsIn K mainGlobals "beaten_at" = some (some (.ref f13))) (l13 : K.lookup f13 = some ⟨oc13, od13, .func (PySem.W.fnOf "beaten_at" "beaten_at" (defArgs s_13) (defBody s_13) (defScope s_13) .none kV13 dc13 pm13 an13 cd13 ct13), sl13⟩) (c13 : PySem.W.codeIn K cd13 "beaten_at" = true) (k13 : PySem.W.keepIn K (.ref f13) = true)
    (a14 : PySem.W.nsIn K mainGlobals "is_greatest_in" = some (some (.ref f14))) (l14 : K.lookup f14 = some ⟨oc14, od14, .func (PySem.W.fnOf "is_greatest_in" "is_greatest_in" (defArgs s_14) (defBody s_14) (defScope s_14) .none kV14 dc14 pm14 an14 cd14 ct14), sl14⟩) (c14 : PySem.W.codeIn K cd14 "is_greatest_in" = true) (k14 : PySem.W.keepIn K (.ref f14) = true)
    (a15 : PySem.W.nsIn K mainGlobals "greatest_answer_in" = some (some (.ref f15))) (l15 : K.lookup f15 = some ⟨oc15, od15, .func (PySem.W.fnOf "greatest_answer_in" "greatest_answer_in" (defArgs s_15) (defBody s_15) (defScope s_15) .none kV15 dc15 pm15 an15 cd15 ct15), sl15⟩) (c15 : PySem.W.codeIn K cd15 "greatest_answer_in" = true) (k15 : PySem.W.keepIn K (.ref f15) = true)
    (a16 : PySem.W.nsIn K mainGlobals "is_beaten_paper_in" = some (some (.ref f16))) (l16 : K.lookup f16 = some ⟨oc16, od16, .func (PySem.W.fnOf "is_beaten_paper_in" "is_beaten_paper_in" (defArgs s_16) (defBody s_16) (defScope s_16) .none kV16 dc16 pm16 an16 cd16 ct16), sl16⟩) (c16 : PySem.W.codeIn K cd16 "is_beaten_paper_in" = true) (k16 : PySem.W.keepIn K (.ref f16) = true)
    (a17 : PySem.W.nsIn K mainGlobals "all_words" = some (some (.ref f17))) (l17 : K.lookup f17 = some ⟨oc17, od17, .func (PySem.W.fnOf "all_words" "all_words" (defArgs s_17) (defBody s_17) (defScope s_17) .none kV17 dc17 pm17 an17 cd17 ct17), sl17⟩) (c17 : PySem.W.codeIn K cd17 "all_words" = true) (k17 : PySem.W.keepIn K (.ref f17) = true)
    (a18 : PySem.W.nsIn K mainGlobals "greatest_words_in" = some (some (.ref f18))) (l18 : K.lookup f18 = some ⟨oc18, od18, .func (PySem.W.fnOf "greatest_words_in" "greatest_words_in" (defArgs s_18) (defBody s_18) (defScope s_18) .none kV18 dc18 pm18 an18 cd18 ct18), sl18⟩) (c18 : PySem.W.codeIn K cd18 "greatest_words_in" = true) (k18 : PySem.W.keepIn K (.ref f18) = true)
    (a19 : PySem.W.nsIn K mainGlobals "moebius_in" = some (some (.ref f19))) (l19 : K.lookup f19 = some ⟨oc19, od19, .func (PySem.W.fnOf "moebius_in" "moebius_in" (defArgs s_19) (defBody s_19) (defScope s_19) .none kV19 dc19 pm19 an19 cd19 ct19), sl19⟩) (c19 : PySem.W.codeIn K cd19 "moebius_in" = true) (k19 : PySem.W.keepIn K (.ref f19) = true)
    (a20 : PySem.W.nsIn K mainGlobals "count_greatest_in" = some (some (.ref f20))) (l20 : K.lookup f20 = some ⟨oc20, od20, .func (PySem.W.fnOf "count_greatest_in" "count_greatest_in" (defArgs s_20) (defBody s_20) (defScope s_20) .none kV20 dc20 pm20 an20 cd20 ct20), sl20⟩) (c20 : PySem.W.codeIn K cd20 "count_greatest_in" = true) (k20 : PySem.W.keepIn K (.ref f20) = true)
    (a21 : PySem.W.nsIn K mainGlobals "evenness_in" = some (some (.ref f21))) (l21 : K.lookup f21 = some ⟨oc21, od21, .func (PySem.W.fnOf "evenness_in" "evenness_in" (defArgs s_21) (defBody s_21) (defScope s_21) .none kV21 dc21 pm21 an21 cd21 ct21), sl21⟩) (c21 : PySem.W.codeIn K cd21 "evenness_in" = true) (k21 : PySem.W.keepIn K (.ref f21) = true)
    (a22 : PySem.W.nsIn K mainGlobals "is_bump_in" = some (some (.ref f22))) (l22 : K.lookup f22 = some ⟨oc22, od22, .func (PySem.W.fnOf "is_bump_in" "is_bump_in" (defArgs s_22) (defBody s_22) (defScope s_22) .none kV22 dc22 pm22 an22 cd22 ct22), sl22⟩) (c22 : PySem.W.codeIn K cd22 "is_bump_in" = true) (k22 : PySem.W.keepIn K (.ref f22) = true)
    (a23 : PySem.W.nsIn K mainGlobals "top_in" = some (some (.ref f23))) (l23 : K.lookup f23 = some ⟨oc23, od23, .func (PySem.W.fnOf "top_in" "top_in" (defArgs s_23) (defBody s_23) (defScope s_23) .none kV23 dc23 pm23 an23 cd23 ct23), sl23⟩) (c23 : PySem.W.codeIn K cd23 "top_in" = true) (k23 : PySem.W.keepIn K (.ref f23) = true)
    (a24 : PySem.W.nsIn K mainGlobals "word_in" = some (some (.ref f24))) (l24 : K.lookup f24 = some ⟨oc24, od24, .func (PySem.W.fnOf "word_in" "word_in" (defArgs s_24) (defBody s_24) (defScope s_24) .none kV24 dc24 pm24 an24 cd24 ct24), sl24⟩) (c24 : PySem.W.codeIn K cd24 "word_in" = true) (k24 : PySem.W.keepIn K (.ref f24) = true)
    (a25 : PySem.W.nsIn K mainGlobals "round_in" = some (some (.ref f25))) (l25 : K.lookup f25 = some ⟨oc25, od25, .func (PySem.W.fnOf "round_in" "round_in" (defArgs s_25) (defBody s_25) (defScope s_25) .none kV25 dc25 pm25 an25 cd25 ct25), sl25⟩) (c25 : PySem.W.codeIn K cd25 "round_in" = true) (k25 : PySem.W.keepIn K (.ref f25) = true)
    (a26 : PySem.W.nsIn K mainGlobals "require_word" = some (some (.ref f26))) (l26 : K.lookup f26 = some ⟨oc26, od26, .func (PySem.W.fnOf "require_word" "require_word" (defArgs s_26) (defBody s_26) (defScope s_26) .none kV26 dc26 pm26 an26 cd26 ct26), sl26⟩) (c26 : PySem.W.codeIn K cd26 "require_word" = true) (k26 : PySem.W.keepIn K (.ref f26) = true)
    (a27 : PySem.W.nsIn K mainGlobals "require_words" = some (some (.ref f27))) (l27 : K.lookup f27 = some ⟨oc27, od27, .func (PySem.W.fnOf "require_words" "require_words" (defArgs s_27) (defBody s_27) (defScope s_27) .none kV27 dc27 pm27 an27 cd27 ct27), sl27⟩) (c27 : PySem.W.codeIn K cd27 "require_words" = true) (k27 : PySem.W.keepIn K (.ref f27) = true)
    (a28 : PySem.W.nsIn K mainGlobals "require_two_words" = some (some (.ref f28))) (l28 : K.lookup f28 = some ⟨oc28, od28, .func (PySem.W.fnOf "require_two_words" "require_two_words" (defArgs s_28) (defBody s_28) (defScope s_28) .none kV28 dc28 pm28 an28 cd28 ct28), sl28⟩) (c28 : PySem.W.codeIn K cd28 "require_two_words" = true) (k28 : PySem.W.keepIn K (.ref f28) = true)
    (a29 : PySem.W.nsIn K mainGlobals "require_bump" = some (some (.ref f29))) (l29 : K.lookup f29 = some ⟨oc29, od29, .func (PySem.W.fnOf "require_bump" "require_bump" (defArgs s_29) (defBody s_29) (defScope s_29) .none kV29 dc29 pm29 an29 cd29 ct29), sl29⟩) (c29 : PySem.W.codeIn K cd29 "require_bump" = true) (k29 : PySem.W.keepIn K (.ref f29) = true)
    (a30 : PySem.W.nsIn K mainGlobals "is_above" = some (some (.ref f30))) (l30 : K.lookup f30 = some ⟨oc30, od30, .func (PySem.W.fnOf "is_above" "is_above" (defArgs s_30) (defBody s_30) (defScope s_30) .none kV30 dc30 pm30 an30 cd30 ct30), sl30⟩) (c30 : PySem.W.codeIn K cd30 "is_above" = true) (k30 : PySem.W.keepIn K (.ref f30) = true)
    (a31 : PySem.W.nsIn K mainGlobals "compared" = some (some (.ref f31))) (l31 : K.lookup f31 = some ⟨oc31, od31, .func (PySem.W.fnOf "compared" "compared" (defArgs s_31) (defBody s_31) (defScope s_31) .none kV31 dc31 pm31 an31 cd31 ct31), sl31⟩) (c31 : PySem.W.codeIn K cd31 "compared" = true) (k31 : PySem.W.keepIn K (.ref f31) = true)
    (a32 : PySem.W.nsIn K mainGlobals "rank_of" = some (some (.ref f32))) (l32 : K.lookup f32 = some ⟨oc32, od32, .func (PySem.W.fnOf "rank_of" "rank_of" (defArgs s_32) (defBody s_32) (defScope s_32) .none kV32 dc32 pm32 an32 cd32 ct32), sl32⟩) (c32 : PySem.W.codeIn K cd32 "rank_of" = true) (k32 : PySem.W.keepIn K (.ref f32) = true)
    (a33 : PySem.W.nsIn K mainGlobals "shift_of" = some (some (.ref f33))) (l33 : K.lookup f33 = some ⟨oc33, od33, .func (PySem.W.fnOf "shift_of" "shift_of" (defArgs s_33) (defBody s_33) (defScope s_33) .none kV33 dc33 pm33 an33 cd33 ct33), sl33⟩) (c33 : PySem.W.codeIn K cd33 "shift_of" = true) (k33 : PySem.W.keepIn K (.ref f33) = true)
    (a34 : PySem.W.nsIn K mainGlobals "shifts_of" = some (some (.ref f34))) (l34 : K.lookup f34 = some ⟨oc34, od34, .func (PySem.W.fnOf "shifts_of" "shifts_of" (defArgs s_34) (defBody s_34) (defScope s_34) .none kV34 dc34 pm34 an34 cd34 ct34), sl34⟩) (c34 : PySem.W.codeIn K cd34 "shifts_of" = true) (k34 : PySem.W.keepIn K (.ref f34) = true)
    (a35 : PySem.W.nsIn K mainGlobals "shift_order" = some (some (.ref f35))) (l35 : K.lookup f35 = some ⟨oc35, od35, .func (PySem.W.fnOf "shift_order" "shift_order" (defArgs s_35) (defBody s_35) (defScope s_35) .none kV35 dc35 pm35 an35 cd35 ct35), sl35⟩) (c35 : PySem.W.codeIn K cd35 "shift_order" = true) (k35 : PySem.W.keepIn K (.ref f35) = true)
    (a36 : PySem.W.nsIn K mainGlobals "is_greatest" = some (some (.ref f36))) (l36 : K.lookup f36 = some ⟨oc36, od36, .func (PySem.W.fnOf "is_greatest" "is_greatest" (defArgs s_36) (defBody s_36) (defScope s_36) .none kV36 dc36 pm36 an36 cd36 ct36), sl36⟩) (c36 : PySem.W.codeIn K cd36 "is_greatest" = true) (k36 : PySem.W.keepIn K (.ref f36) = true)
    (a37 : PySem.W.nsIn K mainGlobals "greatest_answer" = some (some (.ref f37))) (l37 : K.lookup f37 = some ⟨oc37, od37, .func (PySem.W.fnOf "greatest_answer" "greatest_answer" (defArgs s_37) (defBody s_37) (defScope s_37) .none kV37 dc37 pm37 an37 cd37 ct37), sl37⟩) (c37 : PySem.W.codeIn K cd37 "greatest_answer" = true) (k37 : PySem.W.keepIn K (.ref f37) = true)
    (a38 : PySem.W.nsIn K mainGlobals "is_beaten_paper" = some (some (.ref f38))) (l38 : K.lookup f38 = some ⟨oc38, od38, .func (PySem.W.fnOf "is_beaten_paper" "is_beaten_paper" (defArgs s_38) (defBody s_38) (defScope s_38) .none kV38 dc38 pm38 an38 cd38 ct38), sl38⟩) (c38 : PySem.W.codeIn K cd38 "is_beaten_paper" = true) (k38 : PySem.W.keepIn K (.ref f38) = true)
    (a39 : PySem.W.nsIn K mainGlobals "greatest_shift" = some (some (.ref f39))) (l39 : K.lookup f39 = some ⟨oc39, od39, .func (PySem.W.fnOf "greatest_shift" "greatest_shift" (defArgs s_39) (defBody s_39) (defScope s_39) .none kV39 dc39 pm39 an39 cd39 ct39), sl39⟩) (c39 : PySem.W.codeIn K cd39 "greatest_shift" = true) (k39 : PySem.W.keepIn K (.ref f39) = true)
    (a40 : PySem.W.nsIn K mainGlobals "greatest_words" = some (some (.ref f40))) (l40 : K.lookup f40 = some ⟨oc40, od40, .func (PySem.W.fnOf "greatest_words" "greatest_words" (defArgs s_40) (defBody s_40) (defScope s_40) .none kV40 dc40 pm40 an40 cd40 ct40), sl40⟩) (c40 : PySem.W.codeIn K cd40 "greatest_words" = true) (k40 : PySem.W.keepIn K (.ref f40) = true)
    (a41 : PySem.W.nsIn K mainGlobals "count_greatest" = some (some (.ref f41))) (l41 : K.lookup f41 = some ⟨oc41, od41, .func (PySem.W.fnOf "count_greatest" "count_greatest" (defArgs s_41) (defBody s_41) (defScope s_41) .none kV41 dc41 pm41 an41 cd41 ct41), sl41⟩) (c41 : PySem.W.codeIn K cd41 "count_greatest" = true) (k41 : PySem.W.keepIn K (.ref f41) = true)
    (a42 : PySem.W.nsIn K mainGlobals "top_of" = some (some (.ref f42))) (l42 : K.lookup f42 = some ⟨oc42, od42, .func (PySem.W.fnOf "top_of" "top_of" (defArgs s_42) (defBody s_42) (defScope s_42) .none kV42 dc42 pm42 an42 cd42 ct42), sl42⟩) (c42 : PySem.W.codeIn K cd42 "top_of" = true) (k42 : PySem.W.keepIn K (.ref f42) = true)
    (a43 : PySem.W.nsIn K mainGlobals "word_of" = some (some (.ref f43))) (l43 : K.lookup f43 = some ⟨oc43, od43, .func (PySem.W.fnOf "word_of" "word_of" (defArgs s_43) (defBody s_43) (defScope s_43) .none kV43 dc43 pm43 an43 cd43 ct43), sl43⟩) (c43 : PySem.W.codeIn K cd43 "word_of" = true) (k43 : PySem.W.keepIn K (.ref f43) = true)
    (a44 : PySem.W.nsIn K mainGlobals "round_of" = some (some (.ref f44))) (l44 : K.lookup f44 = some ⟨oc44, od44, .func (PySem.W.fnOf "round_of" "round_of" (defArgs s_44) (defBody s_44) (defScope s_44) .none kV44 dc44 pm44 an44 cd44 ct44), sl44⟩) (c44 : PySem.W.codeIn K cd44 "round_of" = true) (k44 : PySem.W.keepIn K (.ref f44) = true)
    (a45 : PySem.W.nsIn K mainGlobals "evenness" = some (some (.ref f45))) (l45 : K.lookup f45 = some ⟨oc45, od45, .func (PySem.W.fnOf "evenness" "evenness" (defArgs s_45) (defBody s_45) (defScope s_45) .none kV45 dc45 pm45 an45 cd45 ct45), sl45⟩) (c45 : PySem.W.codeIn K cd45 "evenness" = true) (k45 : PySem.W.keepIn K (.ref f45) = true)
    (a46 : PySem.W.nsIn K mainGlobals "_law_dice" = some (some (.ref f46))) (l46 : K.lookup f46 = some ⟨oc46, od46, .func (PySem.W.fnOf "_law_dice" "_law_dice" (defArgs s_46) (defBody s_46) (defScope s_46) .none kV46 dc46 pm46 an46 cd46 ct46), sl46⟩) (c46 : PySem.W.codeIn K cd46 "_law_dice" = true) (k46 : PySem.W.keepIn K (.ref f46) = true)
    (a47 : PySem.W.nsIn K mainGlobals "_law_roll" = some (some (.ref f47))) (l47 : K.lookup f47 = some ⟨oc47, od47, .func (PySem.W.fnOf "_law_roll" "_law_roll" (defArgs s_47) (defBody s_47) (defScope s_47) .none kV47 dc47 pm47 an47 cd47 ct47), sl47⟩) (c47 : PySem.W.codeIn K cd47 "_law_roll" = true) (k47 : PySem.W.keepIn K (.ref f47) = true)
    (a48 : PySem.W.nsIn K mainGlobals "_law_pick" = some (some (.ref f48))) (l48 : K.lookup f48 = some ⟨oc48, od48, .func (PySem.W.fnOf "_law_pick" "_law_pick" (defArgs s_48) (defBody s_48) (defScope s_48) .none kV48 dc48 pm48 an48 cd48 ct48), sl48⟩) (c48 : PySem.W.codeIn K cd48 "_law_pick" = true) (k48 : PySem.W.keepIn K (.ref f48) = true)
    (a49 : PySem.W.nsIn K mainGlobals "_law_word_of_error" = some (some (.ref f49))) (l49 : K.lookup f49 = some ⟨oc49, od49, .func (PySem.W.fnOf "_law_word_of_error" "_law_word_of_error" (defArgs s_49) (defBody s_49) (defScope s_49) .none kV49 dc49 pm49 an49 cd49 ct49), sl49⟩) (c49 : PySem.W.codeIn K cd49 "_law_word_of_error" = true) (k49 : PySem.W.keepIn K (.ref f49) = true)
    (a50 : PySem.W.nsIn K mainGlobals "_law_words" = some (some (.ref f50))) (l50 : K.lookup f50 = some ⟨oc50, od50, .func (PySem.W.fnOf "_law_words" "_law_words" (defArgs s_50) (defBody s_50) (defScope s_50) .none kV50 dc50 pm50 an50 (.ref kc50) ct50), sl50⟩) (c50 : PySem.W.codeIn K (.ref kc50) "_law_words" = true) (k50 : PySem.W.keepIn K (.ref f50) = true)
    (lk50 : K.lookup kc50 = some ⟨ck50, dk50, .fields vk50, sk50⟩) (vt50 : (vk50[11]? : Option Value) = some (.ref pt50)) (nt50 : K.lookup pt50 = none) (rr50 : (PyProof.Rows.recsOf q).find? (fun e => e.name == ("_law_words" : Str)) = some rd50)
    (a51 : PySem.W.nsIn K mainGlobals "_law_right" = some (some (.ref f51))) (l51 : K.lookup f51 = some ⟨oc51, od51, .func (PySem.W.fnOf "_law_right" "_law_right" (defArgs s_51) (defBody s_51) (defScope s_51) .none kV51 dc51 pm51 an51 (.ref kc51) ct51), sl51⟩) (c51 : PySem.W.codeIn K (.ref kc51) "_law_right" = true) (k51 : PySem.W.keepIn K (.ref f51) = true)
    (lk51 : K.lookup kc51 = some ⟨ck51, dk51, .fields vk51, sk51⟩) (vt51 : (vk51[11]? : Option Value) = some (.ref pt51)) (nt51 : K.lookup pt51 = none) (rr51 : (PyProof.Rows.recsOf q).find? (fun e => e.name == ("_law_right" : Str)) = some rd51)
    (a52 : PySem.W.nsIn K mainGlobals "law" = some (some (.ref f52))) (l52 : K.lookup f52 = some ⟨oc52, od52, .func (PySem.W.fnOf "law" "law" (defArgs s_52) (defBody s_52) (defScope s_52) .none kV52 dc52 pm52 an52 (.ref kc52) ct52), sl52⟩) (c52 : PySem.W.codeIn K (.ref kc52) "law" = true) (k52 : PySem.W.keepIn K (.ref f52) = true)
    (lk52 : K.lookup kc52 = some ⟨ck52, dk52, .fields vk52, sk52⟩) (vt52 : (vk52[11]? : Option Value) = some (.ref pt52)) (nt52 : K.lookup pt52 = none) (rr52 : (PyProof.Rows.recsOf q).find? (fun e => e.name == ("law" : Str)) = some rd52)
    (ptn : [pt12, pt50, pt51, pt52].Nodup)
    {C0 : Addr} (ca0 : PySem.W.nsIn K mainGlobals "InvalidLine" = some (some (.ref C0))) (cz0 : PySem.W.keepIn K (.ref C0) = true) (cs0 : PySem.W.subIn K (.ref C0) (.type "BaseException") = some true) (cy0 : PySem.W.typeIn K (.ref C0) = some (.type "type"))
    (cq0 : PySem.W.excIn K C0 [.type "ValueError", .type "Exception", .type "BaseException", .type "object"] "ValueError.__new__" = true)
    {C1 : Addr} (ca1 : PySem.W.nsIn K mainGlobals "InvalidWord" = some (some (.ref C1))) (cz1 : PySem.W.keepIn K (.ref C1) = true) (cs1 : PySem.W.subIn K (.ref C1) (.type "BaseException") = some true) (cy1 : PySem.W.typeIn K (.ref C1) = some (.type "type"))
    (cq1 : PySem.W.excIn K C1 [.type "ValueError", .type "Exception", .type "BaseException", .type "object"] "ValueError.__new__" = true)
    {C2 : Addr} (ca2 : PySem.W.nsIn K mainGlobals "InvalidNumber" = some (some (.ref C2))) (cz2 : PySem.W.keepIn K (.ref C2) = true) (cs2 : PySem.W.subIn K (.ref C2) (.type "BaseException") = some true) (cy2 : PySem.W.typeIn K (.ref C2) = some (.type "type"))
    {fIX2 ccX2 cdaX2 : Addr} {oIX2 kIX2 dIX2 pIX2 tIX2 clX2 cmX2 : Value} {odIX2 aIX2 cldX2 cddX2 : Option Addr} {slIX2 cslX2 ccsX2 : Array (Option Value)} {vIX2 : Array Value} {fileX2 : Str} {tfX2 : Tok} {cdtX2 : ClassData} (iiX2 : PySem.W.findIn K (.ref C2) "__init__" = some (some (.ref fIX2))) (tyX2 : PySem.W.typeIn K (.ref fIX2) = some (.type "function")) (lFX2 : K.lookup fIX2 = some ⟨oIX2, odIX2, .func (PySem.W.ksFn "__init__" "InvalidNumber.__init__" (defArgs si_2) (defBody si_2) (defScope si_2) .none kIX2 dIX2 pIX2 aIX2 (.ref cdaX2) tIX2 ccX2), slIX2⟩) (cIX2 : PySem.W.codeIn K (.ref cdaX2) "InvalidNumber.__init__" = true) (lcX2 : K.lookup ccX2 = some ⟨clX2, cldX2, .cell (some (.ref C2)), cslX2⟩) (ldX2 : K.lookup cdaX2 = some ⟨cmX2, cddX2, .fields vIX2, ccsX2⟩) (hvX2 : (vIX2[2]? : Option Value) = some (.str fileX2 tfX2)) (hfX2 : ((l.prog.main.file : Str) == fileX2) = true) (tpX2 : (l.prog.main.scope.names.lookup ("super" : Str)).isSome = false) (gsX2 : PySem.W.nsIn K mainGlobals "super" = some none) (hcX2 : PySem.W.clsIn K C2 = some cdtX2) (hhX2 : cdtX2.hasDict = true) (mrX2 : PySem.W.mroIn K C2 (.ref C2) = some true) (suX2 : PySem.W.ks_superIn K C2 C2 "__init__" = some (some (.builtin "IndexError.__init__"))) (sBX2 : PySem.W.subIn K (.ref C2) (.type "IndexError") = some true) (anX2 : PySem.W.nsIn K cStatics "thirdparty.any" = some none) (saX2 : PySem.W.findIn K (.ref C2) "__setattr__" = some (some (.builtin "object.__setattr__"))) (tkX2 : PySem.W.takerIn K C2 "value" = some none) (gaX2 : PySem.W.findIn K (.ref C2) "__getattribute__" = some (some (.builtin "BaseException.__getattribute__"))) (ggX2 : PySem.W.findIn K (.ref C2) "__getattr__" = some none) (hdX2 : PySem.W.hasDictIn K C2 = true) (xnX2 : PySem.W.findIn K (.ref C2) "value" = some none) (cqX2 : PySem.W.excInitIn K C2 [.type "IndexError", .type "LookupError", .type "Exception", .type "BaseException", .type "object"] "IndexError.__new__" = true) (coX2 : PySem.W.excOver K C2 [.type "IndexError", .type "LookupError", .type "Exception", .type "BaseException", .type "object"] = true)
    {C3 : Addr} (ca3 : PySem.W.nsIn K mainGlobals "TooMany" = some (some (.ref C3))) (cz3 : PySem.W.keepIn K (.ref C3) = true) (cs3 : PySem.W.subIn K (.ref C3) (.type "BaseException") = some true) (cy3 : PySem.W.typeIn K (.ref C3) = some (.type "type"))
    {fIX3 ccX3 cdaX3 : Addr} {oIX3 kIX3 dIX3 pIX3 tIX3 clX3 cmX3 : Value} {odIX3 aIX3 cldX3 cddX3 : Option Addr} {slIX3 cslX3 ccsX3 : Array (Option Value)} {vIX3 : Array Value} {fileX3 : Str} {tfX3 : Tok} {cdtX3 : ClassData} (iiX3 : PySem.W.findIn K (.ref C3) "__init__" = some (some (.ref fIX3))) (tyX3 : PySem.W.typeIn K (.ref fIX3) = some (.type "function")) (lFX3 : K.lookup fIX3 = some ⟨oIX3, odIX3, .func (PySem.W.ksFn "__init__" "TooMany.__init__" (defArgs si_3) (defBody si_3) (defScope si_3) .none kIX3 dIX3 pIX3 aIX3 (.ref cdaX3) tIX3 ccX3), slIX3⟩) (cIX3 : PySem.W.codeIn K (.ref cdaX3) "TooMany.__init__" = true) (lcX3 : K.lookup ccX3 = some ⟨clX3, cldX3, .cell (some (.ref C3)), cslX3⟩) (ldX3 : K.lookup cdaX3 = some ⟨cmX3, cddX3, .fields vIX3, ccsX3⟩) (hvX3 : (vIX3[2]? : Option Value) = some (.str fileX3 tfX3)) (hfX3 : ((l.prog.main.file : Str) == fileX3) = true) (tpX3 : (l.prog.main.scope.names.lookup ("super" : Str)).isSome = false) (gsX3 : PySem.W.nsIn K mainGlobals "super" = some none) (hcX3 : PySem.W.clsIn K C3 = some cdtX3) (hhX3 : cdtX3.hasDict = true) (mrX3 : PySem.W.mroIn K C3 (.ref C3) = some true) (suX3 : PySem.W.ks_superIn K C3 C3 "__init__" = some (some (.builtin "OverflowError.__init__"))) (sBX3 : PySem.W.subIn K (.ref C3) (.type "OverflowError") = some true) (anX3 : PySem.W.nsIn K cStatics "thirdparty.any" = some none) (saX3 : PySem.W.findIn K (.ref C3) "__setattr__" = some (some (.builtin "object.__setattr__"))) (tkX3 : PySem.W.takerIn K C3 "number" = some none) (gaX3 : PySem.W.findIn K (.ref C3) "__getattribute__" = some (some (.builtin "BaseException.__getattribute__"))) (ggX3 : PySem.W.findIn K (.ref C3) "__getattr__" = some none) (hdX3 : PySem.W.hasDictIn K C3 = true) (xnX3 : PySem.W.findIn K (.ref C3) "number" = some none) (cqX3 : PySem.W.excInitIn K C3 [.type "OverflowError", .type "ArithmeticError", .type "Exception", .type "BaseException", .type "object"] "OverflowError.__new__" = true) (coX3 : PySem.W.excOver K C3 [.type "OverflowError", .type "ArithmeticError", .type "Exception", .type "BaseException", .type "object"] = true)
    {C4 : Addr} (ca4 : PySem.W.nsIn K mainGlobals "Refused" = some (some (.ref C4))) (cz4 : PySem.W.keepIn K (.ref C4) = true) (cs4 : PySem.W.subIn K (.ref C4) (.type "BaseException") = some true) (cy4 : PySem.W.typeIn K (.ref C4) = some (.type "type"))
    {fIX4 ccX4 cdaX4 : Addr} {oIX4 kIX4 dIX4 pIX4 tIX4 clX4 cmX4 : Value} {odIX4 aIX4 cldX4 cddX4 : Option Addr} {slIX4 cslX4 ccsX4 : Array (Option Value)} {vIX4 : Array Value} {fileX4 : Str} {tfX4 : Tok} {cdtX4 : ClassData} (iiX4 : PySem.W.findIn K (.ref C4) "__init__" = some (some (.ref fIX4))) (tyX4 : PySem.W.typeIn K (.ref fIX4) = some (.type "function")) (lFX4 : K.lookup fIX4 = some ⟨oIX4, odIX4, .func (PySem.W.ksFn "__init__" "Refused.__init__" (defArgs si_4) (defBody si_4) (defScope si_4) .none kIX4 dIX4 pIX4 aIX4 (.ref cdaX4) tIX4 ccX4), slIX4⟩) (cIX4 : PySem.W.codeIn K (.ref cdaX4) "Refused.__init__" = true) (lcX4 : K.lookup ccX4 = some ⟨clX4, cldX4, .cell (some (.ref C4)), cslX4⟩) (ldX4 : K.lookup cdaX4 = some ⟨cmX4, cddX4, .fields vIX4, ccsX4⟩) (hvX4 : (vIX4[2]? : Option Value) = some (.str fileX4 tfX4)) (hfX4 : ((l.prog.main.file : Str) == fileX4) = true) (tpX4 : (l.prog.main.scope.names.lookup ("super" : Str)).isSome = false) (gsX4 : PySem.W.nsIn K mainGlobals "super" = some none) (hcX4 : PySem.W.clsIn K C4 = some cdtX4) (hhX4 : cdtX4.hasDict = true) (mrX4 : PySem.W.mroIn K C4 (.ref C4) = some true) (suX4 : PySem.W.ks_superIn K C4 C4 "__init__" = some (some (.builtin "ArithmeticError.__init__"))) (sBX4 : PySem.W.subIn K (.ref C4) (.type "ArithmeticError") = some true) (anX4 : PySem.W.nsIn K cStatics "thirdparty.any" = some none) (saX4 : PySem.W.findIn K (.ref C4) "__setattr__" = some (some (.builtin "object.__setattr__"))) (tkX4 : PySem.W.takerIn K C4 "reason" = some none) (gaX4 : PySem.W.findIn K (.ref C4) "__getattribute__" = some (some (.builtin "BaseException.__getattribute__"))) (ggX4 : PySem.W.findIn K (.ref C4) "__getattr__" = some none) (hdX4 : PySem.W.hasDictIn K C4 = true) (xnX4 : PySem.W.findIn K (.ref C4) "reason" = some none) (cqX4 : PySem.W.excInitIn K C4 [.type "ArithmeticError", .type "Exception", .type "BaseException", .type "object"] "ArithmeticError.__new__" = true) (coX4 : PySem.W.excOver K C4 [.type "ArithmeticError", .type "Exception", .type "BaseException", .type "object"] = true)
    (mx0_1 : PySem.W.exmOne K (.ref C0) (.ref C1) = some false)
    (mx1_1 : PySem.W.exmOne K (.ref C1) (.ref C1) = some true)
    (mx2_1 : PySem.W.exmOne K (.ref C2) (.ref C1) = some false)
    (mx3_1 : PySem.W.exmOne K (.ref C3) (.ref C1) = some false)
    (mx4_1 : PySem.W.exmOne K (.ref C4) (.ref C1) = some false)
    (mx0_0 : PySem.W.exmOne K (.ref C0) (.ref C0) = some true)
    (mx1_0 : PySem.W.exmOne K (.ref C1) (.ref C0) = some false)
    (mx2_0 : PySem.W.exmOne K (.ref C2) (.ref C0) = some false)
    (mx3_0 : PySem.W.exmOne K (.ref C3) (.ref C0) = some false)
    (mx4_0 : PySem.W.exmOne K (.ref C4) (.ref C0) = some false)
    (mx0_2 : PySem.W.exmOne K (.ref C0) (.ref C2) = some false)
    (mx1_2 : PySem.W.exmOne K (.ref C1) (.ref C2) = some false)
    (mx2_2 : PySem.W.exmOne K (.ref C2) (.ref C2) = some true)
    (mx3_2 : PySem.W.exmOne K (.ref C3) (.ref C2) = some false)
    (mx4_2 : PySem.W.exmOne K (.ref C4) (.ref C2) = some false)
    (mx0_4 : PySem.W.exmOne K (.ref C0) (.ref C4) = some false)
    (mx1_4 : PySem.W.exmOne K (.ref C1) (.ref C4) = some false)
    (mx2_4 : PySem.W.exmOne K (.ref C2) (.ref C4) = some false)
    (mx3_4 : PySem.W.exmOne K (.ref C3) (.ref C4) = some false)
    (mx4_4 : PySem.W.exmOne K (.ref C4) (.ref C4) = some true)
    (mx0_3 : PySem.W.exmOne K (.ref C0) (.ref C3) = some false)
    (mx1_3 : PySem.W.exmOne K (.ref C1) (.ref C3) = some false)
    (mx2_3 : PySem.W.exmOne K (.ref C2) (.ref C3) = some false)
    (mx3_3 : PySem.W.exmOne K (.ref C3) (.ref C3) = some true)
    (mx4_3 : PySem.W.exmOne K (.ref C4) (.ref C3) = some false)
    {tk0 : Tok} (q0 : PySem.W.nsIn K mainGlobals "BEATEN" = some (some (.str ("beaten" : Str) tk0)))
    {tk1 : Tok} (q1 : PySem.W.nsIn K mainGlobals "FAR" = some (some (.int (1000000000000000000000000000000000000000000000000000000000000) tk1)))
    {tk2 : Tok} (q2 : PySem.W.nsIn K mainGlobals "GREATEST" = some (some (.str ("greatest" : Str) tk2)))
    {tk3 : Tok} (q3 : PySem.W.nsIn K mainGlobals "LEAST_BUMP" = some (some (.int (3) tk3)))
    {tk4 : Tok} (q4 : PySem.W.nsIn K mainGlobals "LEFT" = some (some (.str ("l" : Str) tk4)))
    {tk5 : Tok} (q5 : PySem.W.nsIn K mainGlobals "MOST_CORNERS" = some (some (.int (10) tk5)))
    {tk6 : Tok} (q6 : PySem.W.nsIn K mainGlobals "MOST_COUNTED" = some (some (.int (200) tk6)))
    {tk7 : Tok} (q7 : PySem.W.nsIn K mainGlobals "MOST_LISTED" = some (some (.int (14) tk7)))
    {tk8 : Tok} (q8 : PySem.W.nsIn K mainGlobals "MOST_POINTS" = some (some (.int (10) tk8)))
    {tk9 : Tok} (q9 : PySem.W.nsIn K mainGlobals "MOST_SIGNS" = some (some (.int (24) tk9)))
    {tk10 : Tok} (q10 : PySem.W.nsIn K mainGlobals "RIGHT" = some (some (.str ("r" : Str) tk10)))
    {tk11 : Tok} (q11 : PySem.W.nsIn K mainGlobals "TOP" = some (some (.str ("c" : Str) tk11)))
    {tk12 : Tok} (q12 : PySem.W.nsIn K mainGlobals "UNLIKE" = some (some (.str ("unlike" : Str) tk12)))
    {d0 : Addr} {es0 : Array DictEntry} {dn0 : Nat} (dq0 : PySem.W.nsIn K mainGlobals "PLACES" = some (some (.ref d0))) (dl0 : K.lookup d0 = some ⟨.type "dict", none, .dict es0 dn0, #[]⟩) (dk0 : PySem.W.KeysLit w.params es0.toList)
    {dt0_0 : Tok} (de0_0 : PySem.W.nsIn K d0 ("l" : Str) = some (some (.int (-1) dt0_0)))
    {dt0_1 : Tok} (de0_1 : PySem.W.nsIn K d0 ("c" : Str) = some (some (.int (0) dt0_1)))
    {dt0_2 : Tok} (de0_2 : PySem.W.nsIn K d0 ("r" : Str) = some (some (.int (1) dt0_2)))
    (z0 : PySem.W.nsIn K mainGlobals "abs" = some none)
    (z1 : PySem.W.nsIn K mainGlobals "all" = some none)
    (z2 : PySem.W.nsIn K mainGlobals "bool" = some none)
    (z3 : PySem.W.nsIn K mainGlobals "enumerate" = some none)
    (z4 : PySem.W.nsIn K mainGlobals "int" = some none)
    (z5 : PySem.W.nsIn K mainGlobals "isinstance" = some none)
    (z6 : PySem.W.nsIn K mainGlobals "len" = some none)
    (z7 : PySem.W.nsIn K mainGlobals "list" = some none)
    (z8 : PySem.W.nsIn K mainGlobals "max" = some none)
    (z9 : PySem.W.nsIn K mainGlobals "min" = some none)
    (z10 : PySem.W.nsIn K mainGlobals "range" = some none)
    (z11 : PySem.W.nsIn K mainGlobals "repr" = some none)
    (z12 : PySem.W.nsIn K mainGlobals "sorted" = some none)
    (z13 : PySem.W.nsIn K mainGlobals "str" = some none)
    (z14 : PySem.W.nsIn K mainGlobals "tuple" = some none) :
    ∃ (G : Gv) (fd : FuncData) (cs : List (Addr × Addr)), (G.K = K ∧ TabsAt K h cs ∧ ∀ p ∈ G.tt, p.1 ∈ cs.map (·.2)) ∧ (∀ (s : Shared) (v : Value), BindsTo s fd ⟨[v], []⟩ [("script", v)]) ∧ ∀ base : Heap, K.In base → base.Ns mainGlobals mg → (∀ p ∈ cs, TabB base mg p.1 p.2) → FnG l.prog w K mg base 13 fa fd ["script"] (spD G 1 m_52) := by
  have G := GG.T.g
  have hbind : ∀ (s : Shared) (v : Value), BindsTo s (PySem.W.fnOf "law" "law" (defArgs s_52) (defBody s_52) (defScope s_52) .none kV52 dc52 pm52 an52 (.ref kc52) ct52) ⟨[v], []⟩ [("script", v)] := fun s v => .of_eq rfl
  have e := hfa.symm.trans (PySem.W.mg_of X G a52)
  cases e
  have F0 := fun_mk (st := s_0) l0 c0 k0
  have F1 := fun_mk (st := s_1) l1 c1 k1
  have F2 := fun_mk (st := s_2) l2 c2 k2
  have F3 := fun_mk (st := s_3) l3 c3 k3
  have F4 := fun_mk (st := s_4) l4 c4 k4
  have F5 := fun_mk (st := s_5) l5 c5 k5
  have F6 := fun_mk (st := s_6) l6 c6 k6
  have F7 := fun_mk (st := s_7) l7 c7 k7
  have F8 := fun_mk (st := s_8) l8 c8 k8
  have F9 := fun_mk (st := s_9) l9 c9 k9
  have F10 := fun_mk (st := s_10) l10 c10 k10
  have F11 := fun_mk (st := s_11) l11 c11 k11
  have F12 := fun_mk (st := s_12) l12 c12 k12
  have F13 := fun_mk (st := s_13) l13 c13 k13
  have F14 := fun_mk (st := s_14) l14 c14 k14
  have F15 := fun_mk (st := s_15) l15 c15 k15
  have F16 := fun_mk (st := s_16) l16 c16 k16
  have F17 := fun_mk (st := s_17) l17 c17 k17
  have F18 := fun_mk (st := s_18) l18 c18 k18
  have F19 := fun_mk (st := s_19) l19 c19 k19
  have F20 := fun_mk (st := s_20) l20 c20 k20
  have F21 := fun_mk (st := s_21) l21 c21 k21
  have F22 := fun_mk (st := s_22) l22 c22 k22
  have F23 := fun_mk (st := s_23) l23 c23 k23
  have F24 := fun_mk (st := s_24) l24 c24 k24
  have F25 := fun_mk (st := s_25) l25 c25 k25
  have F26 := fun_mk (st := s_26) l26 c26 k26
  have F27 := fun_mk (st := s_27) l27 c27 k27
  have F28 := fun_mk (st := s_28) l28 c28 k28
  have F29 := fun_mk (st := s_29) l29 c29 k29
  have F30 := fun_mk (st := s_30) l30 c30 k30
  have F31 := fun_mk (st := s_31) l31 c31 k31
  have F32 := fun_mk (st := s_32) l32 c32 k32
  have F33 := fun_mk (st := s_33) l33 c33 k33
  have F34 := fun_mk (st := s_34) l34 c34 k34
  have F35 := fun_mk (st := s_35) l35 c35 k35
  have F36 := fun_mk (st := s_36) l36 c36 k36
  have F37 := fun_mk (st := s_37) l37 c37 k37
  have F38 := fun_mk (st := s_38) l38 c38 k38
  have F39 := fun_mk (st := s_39) l39 c39 k39
  have F40 := fun_mk (st := s_40) l40 c40 k40
  have F41 := fun_mk (st := s_41) l41 c41 k41
  have F42 := fun_mk (st := s_42) l42 c42 k42
  have F43 := fun_mk (st := s_43) l43 c43 k43
  have F44 := fun_mk (st := s_44) l44 c44 k44
  have F45 := fun_mk (st := s_45) l45 c45 k45
  have F46 := fun_mk (st := s_46) l46 c46 k46
  have F47 := fun_mk (st := s_47) l47 c47 k47
  have F48 := fun_mk (st := s_48) l48 c48 k48
  have F49 := fun_mk (st := s_49) l49 c49 k49
  have F50 := fun_mk (st := s_50) l50 c50 k50
  have F51 := fun_mk (st := s_51) l51 c51 k51
  have F52 := fun_mk (st := s_52) l52 c52 k52
  let fA : Nat → Addr := fun n => [f0, f1, f2, f3, f4, f5, f6, f7, f8, f9, f10, f11, f12, f13, f14, f15, f16, f17, f18, f19, f20, f21, f22, f23, f24, f25, f26, f27, f28, f29, f30, f31, f32, f33, f34, f35, f36, f37, f38, f39, f40, f41, f42, f43, f44, f45, f46, f47, f48, f49, f50, f51, fa].getD n 0
  let fD : Nat → FuncData := fun n => [PySem.W.fnOf "is_whole" "is_whole" (defArgs s_0) (defBody s_0) (defScope s_0) .none kV0 dc0 pm0 an0 cd0 ct0, PySem.W.fnOf "is_near" "is_near" (defArgs s_1) (defBody s_1) (defScope s_1) .none kV1 dc1 pm1 an1 cd1 ct1, PySem.W.fnOf "is_within" "is_within" (defArgs s_2) (defBody s_2) (defScope s_2) .none kV2 dc2 pm2 an2 cd2 ct2, PySem.W.fnOf "require_number" "require_number" (defArgs s_3) (defBody s_3) (defScope s_3) .none kV3 dc3 pm3 an3 cd3 ct3, PySem.W.fnOf "is_line_in" "is_line_in" (defArgs s_4) (defBody s_4) (defScope s_4) .none kV4 dc4 pm4 an4 cd4 ct4, PySem.W.fnOf "cycle_in" "cycle_in" (defArgs s_5) (defBody s_5) (defScope s_5) .none kV5 dc5 pm5 an5 cd5 ct5, PySem.W.fnOf "is_round_in" "is_round_in" (defArgs s_6) (defBody s_6) (defScope s_6) .none kV6 dc6 pm6 an6 cd6 ct6, PySem.W.fnOf "is_word_in" "is_word_in" (defArgs s_7) (defBody s_7) (defScope s_7) .none kV7 dc7 pm7 an7 cd7 ct7, PySem.W.fnOf "key_of_signs" "key_of_signs" (defArgs s_8) (defBody s_8) (defScope s_8) .none kV8 dc8 pm8 an8 cd8 ct8, PySem.W.fnOf "words_compared" "words_compared" (defArgs s_9) (defBody s_9) (defScope s_9) .none kV9 dc9 pm9 an9 cd9 ct9, PySem.W.fnOf "shifted" "shifted" (defArgs s_10) (defBody s_10) (defScope s_10) .none kV10 dc10 pm10 an10 cd10 ct10, PySem.W.fnOf "shifts_in" "shifts_in" (defArgs s_11) (defBody s_11) (defScope s_11) .none kV11 dc11 pm11 an11 cd11 ct11, PySem.W.fnOf "shift_order_in" "shift_order_in" (defArgs s_12) (defBody s_12) (defScope s_12) .none kV12 dc12 pm12 an12 (.ref kc12) ct12, PySem.W.fnOf "beaten_at" "beaten_at" (defArgs s_13) (defBody s_13) (defScope s_13) .none kV13 dc13 pm13 an13 cd13 ct13, PySem.W.fnOf "is_greatest_in" "is_greatest_in" (defArgs s_14) (defBody s_14) (defScope s_14) .none kV14 dc14 pm14 an14 cd14 ct14, PySem.W.fnOf "greatest_answer_in" "greatest_answer_in" (defArgs s_15) (defBody s_15) (defScope s_15) .none kV15 dc15 pm15 an15 cd15 ct15, PySem.W.fnOf "is_beaten_paper_in" "is_beaten_paper_in" (defArgs s_16) (defBody s_16) (defScope s_16) .none kV16 dc16 pm16 an16 cd16 ct16, PySem.W.fnOf "all_words" "all_words" (defArgs s_17) (defBody s_17) (defScope s_17) .none kV17 dc17 pm17 an17 cd17 ct17, PySem.W.fnOf "greatest_words_in" "greatest_words_in" (defArgs s_18) (defBody s_18) (defScope s_18) .none kV18 dc18 pm18 an18 cd18 ct18, PySem.W.fnOf "moebius_in" "moebius_in" (defArgs s_19) (defBody s_19) (defScope s_19) .none kV19 dc19 pm19 an19 cd19 ct19, PySem.W.fnOf "count_greatest_in" "count_greatest_in" (defArgs s_20) (defBody s_20) (defScope s_20) .none kV20 dc20 pm20 an20 cd20 ct20, PySem.W.fnOf "evenness_in" "evenness_in" (defArgs s_21) (defBody s_21) (defScope s_21) .none kV21 dc21 pm21 an21 cd21 ct21, PySem.W.fnOf "is_bump_in" "is_bump_in" (defArgs s_22) (defBody s_22) (defScope s_22) .none kV22 dc22 pm22 an22 cd22 ct22, PySem.W.fnOf "top_in" "top_in" (defArgs s_23) (defBody s_23) (defScope s_23) .none kV23 dc23 pm23 an23 cd23 ct23, PySem.W.fnOf "word_in" "word_in" (defArgs s_24) (defBody s_24) (defScope s_24) .none kV24 dc24 pm24 an24 cd24 ct24, PySem.W.fnOf "round_in" "round_in" (defArgs s_25) (defBody s_25) (defScope s_25) .none kV25 dc25 pm25 an25 cd25 ct25, PySem.W.fnOf "require_word" "require_word" (defArgs s_26) (defBody s_26) (defScope s_26) .none kV26 dc26 pm26 an26 cd26 ct26, PySem.W.fnOf "require_words" "require_words" (defArgs s_27) (defBody s_27) (defScope s_27) .none kV27 dc27 pm27 an27 cd27 ct27, PySem.W.fnOf "require_two_words" "require_two_words" (defArgs s_28) (defBody s_28) (defScope s_28) .none kV28 dc28 pm28 an28 cd28 ct28, PySem.W.fnOf "require_bump" "require_bump" (defArgs s_29) (defBody s_29) (defScope s_29) .none kV29 dc29 pm29 an29 cd29 ct29, PySem.W.fnOf "is_above" "is_above" (defArgs s_30) (defBody s_30) (defScope s_30) .none kV30 dc30 pm30 an30 cd30 ct30, PySem.W.fnOf "compared" "compared" (defArgs s_31) (defBody s_31) (defScope s_31) .none kV31 dc31 pm31 an31 cd31 ct31, PySem.W.fnOf "rank_of" "rank_of" (defArgs s_32) (defBody s_32) (defScope s_32) .none kV32 dc32 pm32 an32 cd32 ct32, PySem.W.fnOf "shift_of" "shift_of" (defArgs s_33) (defBody s_33) (defScope s_33) .none kV33 dc33 pm33 an33 cd33 ct33, PySem.W.fnOf "shifts_of" "shifts_of" (defArgs s_34) (defBody s_34) (defScope s_34) .none kV34 dc34 pm34 an34 cd34 ct34, PySem.W.fnOf "shift_order" "shift_order" (defArgs s_35) (defBody s_35) (defScope s_35) .none kV35 dc35 pm35 an35 cd35 ct35, PySem.W.fnOf "is_greatest" "is_greatest" (defArgs s_36) (defBody s_36) (defScope s_36) .none kV36 dc36 pm36 an36 cd36 ct36, PySem.W.fnOf "greatest_answer" "greatest_answer" (defArgs s_37) (defBody s_37) (defScope s_37) .none kV37 dc37 pm37 an37 cd37 ct37, PySem.W.fnOf "is_beaten_paper" "is_beaten_paper" (defArgs s_38) (defBody s_38) (defScope s_38) .none kV38 dc38 pm38 an38 cd38 ct38, PySem.W.fnOf "greatest_shift" "greatest_shift" (defArgs s_39) (defBody s_39) (defScope s_39) .none kV39 dc39 pm39 an39 cd39 ct39, PySem.W.fnOf "greatest_words" "greatest_words" (defArgs s_40) (defBody s_40) (defScope s_40) .none kV40 dc40 pm40 an40 cd40 ct40, PySem.W.fnOf "count_greatest" "count_greatest" (defArgs s_41) (defBody s_41) (defScope s_41) .none kV41 dc41 pm41 an41 cd41 ct41, PySem.W.fnOf "top_of" "top_of" (defArgs s_42) (defBody s_42) (defScope s_42) .none kV42 dc42 pm42 an42 cd42 ct42, PySem.W.fnOf "word_of" "word_of" (defArgs s_43) (defBody s_43) (defScope s_43) .none kV43 dc43 pm43 an43 cd43 ct43, PySem.W.fnOf "round_of" "round_of" (defArgs s_44) (defBody s_44) (defScope s_44) .none kV44 dc44 pm44 an44 cd44 ct44, PySem.W.fnOf "evenness" "evenness" (defArgs s_45) (defBody s_45) (defScope s_45) .none kV45 dc45 pm45 an45 cd45 ct45, PySem.W.fnOf "_law_dice" "_law_dice" (defArgs s_46) (defBody s_46) (defScope s_46) .none kV46 dc46 pm46 an46 cd46 ct46, PySem.W.fnOf "_law_roll" "_law_roll" (defArgs s_47) (defBody s_47) (defScope s_47) .none kV47 dc47 pm47 an47 cd47 ct47, PySem.W.fnOf "_law_pick" "_law_pick" (defArgs s_48) (defBody s_48) (defScope s_48) .none kV48 dc48 pm48 an48 cd48 ct48, PySem.W.fnOf "_law_word_of_error" "_law_word_of_error" (defArgs s_49) (defBody s_49) (defScope s_49) .none kV49 dc49 pm49 an49 cd49 ct49, PySem.W.fnOf "_law_words" "_law_words" (defArgs s_50) (defBody s_50) (defScope s_50) .none kV50 dc50 pm50 an50 (.ref kc50) ct50, PySem.W.fnOf "_law_right" "_law_right" (defArgs s_51) (defBody s_51) (defScope s_51) .none kV51 dc51 pm51 an51 (.ref kc51) ct51, PySem.W.fnOf "law" "law" (defArgs s_52) (defBody s_52) (defScope s_52) .none kV52 dc52 pm52 an52 (.ref kc52) ct52].getD n (PySem.W.fnOf "law" "law" (defArgs s_52) (defBody s_52) (defScope s_52) .none kV52 dc52 pm52 an52 (.ref kc52) ct52)
  let cA : Nat → Addr := fun n => [C0, C1, C2, C3, C4].getD n 0
  let kA : Nat → Addr := fun n => [0, 0, 0, 0, 0, 0, 0, 0, 0, 0, 0, 0, kc12, 0, 0, 0, 0, 0, 0, 0, 0, 0, 0, 0, 0, 0, 0, 0, 0, 0, 0, 0, 0, 0, 0, 0, 0, 0, 0, 0, 0, 0, 0, 0, 0, 0, 0, 0, 0, 0, kc50, kc51, kc52].getD n 0
  let pA : Nat → Addr := fun n => [0, 0, 0, 0, 0, 0, 0, 0, 0, 0, 0, 0, pt12, 0, 0, 0, 0, 0, 0, 0, 0, 0, 0, 0, 0, 0, 0, 0, 0, 0, 0, 0, 0, 0, 0, 0, 0, 0, 0, 0, 0, 0, 0, 0, 0, 0, 0, 0, 0, 0, pt50, pt51, pt52].getD n 0
  let Gz : Gv := ⟨K, fun n => [none, none, none, none, none, none, none, none, none, none, none, none, none, none, none, none, none, none, none, none, none, none, none, none, none, none, none, none, none, none, some f30, some f31, some f32, none, some f34, some f35, some f36, some f37, none, some f39, none, none, some f42, some f43, none, some f45, none, none, none, none, none, none, none].getD n none, fun _ => False, fun n => [some C0, some C1, some C2, some C3, some C4].getD n none, fun n => [("" : Str), ("" : Str), ("value" : Str), ("number" : Str), ("reason" : Str)].getD n "", [(pt12, (("shift_order_in" : Str) ++ ".<locals>.") ++ "<lambda>"), (pt50, (("_law_words" : Str) ++ ".<locals>.") ++ "<lambda>"), (pt51, (("_law_right" : Str) ++ ".<locals>.") ++ "<lambda>"), (pt52, (("law" : Str) ++ ".<locals>.") ++ "<lambda>")]⟩
  have ptd : ∀ i j : Nat, i < 4 → j < 4 → [pt12, pt50, pt51, pt52].getD i 0 = [pt12, pt50, pt51, pt52].getD j 0 → i = j := fun i j hi hj e => by
    have hi2 : i < [pt12, pt50, pt51, pt52].length := hi
    have hj2 : j < [pt12, pt50, pt51, pt52].length := hj
    rw [List.getD_eq_getElem?_getD, List.getD_eq_getElem?_getD, List.getElem?_eq_getElem hi2, List.getElem?_eq_getElem hj2] at e
    exact (List.getElem_inj ptn).mp e
  have T : Tx l.prog Gz mg fA fD w cA kA pA := ⟨(F0),
    (PySem.W.mg_of X G a0),
    (F0.binds (ps := ["value"]) fun _ _ _ _ _ _ us hl => match us, hl with | [_], _ => rfl),
    (F1),
    (PySem.W.mg_of X G a1),
    (F1.binds (ps := ["value"]) fun _ _ _ _ _ _ us hl => match us, hl with | [_], _ => rfl),
    (F2),
    (PySem.W.mg_of X G a2),
    (F2.binds (ps := ["value", "least", "most"]) fun _ _ _ _ _ _ us hl => match us, hl with | [_, _, _], _ => rfl),
    (F3),
    (PySem.W.mg_of X G a3),
    (F3.binds (ps := ["value", "least", "most"]) fun _ _ _ _ _ _ us hl => match us, hl with | [_, _, _], _ => rfl),
    (F4),
    (PySem.W.mg_of X G a4),
    (F4.binds (ps := ["value"]) fun _ _ _ _ _ _ us hl => match us, hl with | [_], _ => rfl),
    (F5),
    (PySem.W.mg_of X G a5),
    (F5.binds (ps := ["line"]) fun _ _ _ _ _ _ us hl => match us, hl with | [_], _ => rfl),
    (F6),
    (PySem.W.mg_of X G a6),
    (F6.binds (ps := ["value"]) fun _ _ _ _ _ _ us hl => match us, hl with | [_], _ => rfl),
    (F7),
    (PySem.W.mg_of X G a7),
    (F7.binds (ps := ["value"]) fun _ _ _ _ _ _ us hl => match us, hl with | [_], _ => rfl),
    (F8),
    (PySem.W.mg_of X G a8),
    (F8.binds (ps := ["signs"]) fun _ _ _ _ _ _ us hl => match us, hl with | [_], _ => rfl),
    (F9),
    (PySem.W.mg_of X G a9),
    (F9.binds (ps := ["one", "other"]) fun _ _ _ _ _ _ us hl => match us, hl with | [_, _], _ => rfl),
    (F10),
    (PySem.W.mg_of X G a10),
    (F10.binds (ps := ["word", "i"]) fun _ _ _ _ _ _ us hl => match us, hl with | [_, _], _ => rfl),
    (F11),
    (PySem.W.mg_of X G a11),
    (F11.binds (ps := ["word"]) fun _ _ _ _ _ _ us hl => match us, hl with | [_], _ => rfl),
    (F12),
    (PySem.W.mg_of X G a12),
    (F12.binds (ps := ["word"]) fun _ _ _ _ _ _ us hl => match us, hl with | [_], _ => rfl),
    (rfl),
    (by show _ ∈ [(pt12, (("shift_order_in" : Str) ++ ".<locals>.") ++ "<lambda>"), (pt50, (("_law_words" : Str) ++ ".<locals>.") ++ "<lambda>"), (pt51, (("_law_right" : Str) ++ ".<locals>.") ++ "<lambda>"), (pt52, (("law" : Str) ++ ".<locals>.") ++ "<lambda>")]; simp [pA]),
    (by
      intro p hp e
      have hp : p ∈ [(pt12, (("shift_order_in" : Str) ++ ".<locals>.") ++ "<lambda>"), (pt50, (("_law_words" : Str) ++ ".<locals>.") ++ "<lambda>"), (pt51, (("_law_right" : Str) ++ ".<locals>.") ++ "<lambda>"), (pt52, (("law" : Str) ++ ".<locals>.") ++ "<lambda>")] := hp
      have e : p.1 = pt12 := e
      simp only [List.mem_cons, List.not_mem_nil, or_false] at hp
      rcases hp with rfl | rfl | rfl | rfl
      · rfl
      · exact absurd (ptd 1 0 (by decide) (by decide) e) (by decide)
      · exact absurd (ptd 2 0 (by decide) (by decide) e) (by decide)
      · exact absurd (ptd 3 0 (by decide) (by decide) e) (by decide)),
    (F13),
    (PySem.W.mg_of X G a13),
    (F13.binds (ps := ["word"]) fun _ _ _ _ _ _ us hl => match us, hl with | [_], _ => rfl),
    (F14),
    (PySem.W.mg_of X G a14),
    (F14.binds (ps := ["word"]) fun _ _ _ _ _ _ us hl => match us, hl with | [_], _ => rfl),
    (F15),
    (PySem.W.mg_of X G a15),
    (F15.binds (ps := ["word"]) fun _ _ _ _ _ _ us hl => match us, hl with | [_], _ => rfl),
    (F16),
    (PySem.W.mg_of X G a16),
    (F16.binds (ps := ["word", "value"]) fun _ _ _ _ _ _ us hl => match us, hl with | [_, _], _ => rfl),
    (F17),
    (PySem.W.mg_of X G a17),
    (F17.binds (ps := ["n"]) fun _ _ _ _ _ _ us hl => match us, hl with | [_], _ => rfl),
    (F18),
    (PySem.W.mg_of X G a18),
    (F18.binds (ps := ["n"]) fun _ _ _ _ _ _ us hl => match us, hl with | [_], _ => rfl),
    (F19),
    (PySem.W.mg_of X G a19),
    (F19.binds (ps := ["number"]) fun _ _ _ _ _ _ us hl => match us, hl with | [_], _ => rfl),
    (F20),
    (PySem.W.mg_of X G a20),
    (F20.binds (ps := ["n"]) fun _ _ _ _ _ _ us hl => match us, hl with | [_], _ => rfl),
    (F21),
    (PySem.W.mg_of X G a21),
    (F21.binds (ps := ["word"]) fun _ _ _ _ _ _ us hl => match us, hl with | [_], _ => rfl),
    (F22),
    (PySem.W.mg_of X G a22),
    (F22.binds (ps := ["line"]) fun _ _ _ _ _ _ us hl => match us, hl with | [_], _ => rfl),
    (F23),
    (PySem.W.mg_of X G a23),
    (F23.binds (ps := ["line"]) fun _ _ _ _ _ _ us hl => match us, hl with | [_], _ => rfl),
    (F24),
    (PySem.W.mg_of X G a24),
    (F24.binds (ps := ["line"]) fun _ _ _ _ _ _ us hl => match us, hl with | [_], _ => rfl),
    (F25),
    (PySem.W.mg_of X G a25),
    (F25.binds (ps := ["word"]) fun _ _ _ _ _ _ us hl => match us, hl with | [_], _ => rfl),
    (F26),
    (PySem.W.mg_of X G a26),
    (F26.binds (ps := ["value"]) fun _ _ _ _ _ _ us hl => match us, hl with | [_], _ => rfl),
    (F27),
    (PySem.W.mg_of X G a27),
    (F27.binds (ps := ["word", "words"]) fun _ _ _ _ _ _ us hl => match us, hl with | [_, _], _ => rfl),
    (F28),
    (PySem.W.mg_of X G a28),
    (F28.binds (ps := ["word", "other"]) fun _ _ _ _ _ _ us hl => match us, hl with | [_, _], _ => rfl),
    (F29),
    (PySem.W.mg_of X G a29),
    (F29.binds (ps := ["value"]) fun _ _ _ _ _ _ us hl => match us, hl with | [_], _ => rfl),
    (F30),
    (PySem.W.mg_of X G a30),
    (F30.binds (ps := ["word", "other"]) fun _ _ _ _ _ _ us hl => match us, hl with | [_, _], _ => rfl),
    (rfl),
    (F31),
    (PySem.W.mg_of X G a31),
    (F31.binds (ps := ["word", "other"]) fun _ _ _ _ _ _ us hl => match us, hl with | [_, _], _ => rfl),
    (rfl),
    (F32),
    (PySem.W.mg_of X G a32),
    (F32.binds (ps := ["word", "words"]) fun _ _ _ _ _ _ us hl => match us, hl with | [_, _], _ => rfl),
    (rfl),
    (F33),
    (PySem.W.mg_of X G a33),
    (F33.binds (ps := ["word", "i"]) fun _ _ _ _ _ _ us hl => match us, hl with | [_, _], _ => rfl),
    (F34),
    (PySem.W.mg_of X G a34),
    (F34.binds (ps := ["word"]) fun _ _ _ _ _ _ us hl => match us, hl with | [_], _ => rfl),
    (rfl),
    (F35),
    (PySem.W.mg_of X G a35),
    (F35.binds (ps := ["word"]) fun _ _ _ _ _ _ us hl => match us, hl with | [_], _ => rfl),
    (rfl),
    (F36),
    (PySem.W.mg_of X G a36),
    (F36.binds (ps := ["word"]) fun _ _ _ _ _ _ us hl => match us, hl with | [_], _ => rfl),
    (rfl),
    (F37),
    (PySem.W.mg_of X G a37),
    (F37.binds (ps := ["word"]) fun _ _ _ _ _ _ us hl => match us, hl with | [_], _ => rfl),
    (rfl),
    (F38),
    (PySem.W.mg_of X G a38),
    (F38.binds (ps := ["word", "value"]) fun _ _ _ _ _ _ us hl => match us, hl with | [_, _], _ => rfl),
    (F39),
    (PySem.W.mg_of X G a39),
    (F39.binds (ps := ["word"]) fun _ _ _ _ _ _ us hl => match us, hl with | [_], _ => rfl),
    (rfl),
    (F40),
    (PySem.W.mg_of X G a40),
    (F40.binds (ps := ["n"]) fun _ _ _ _ _ _ us hl => match us, hl with | [_], _ => rfl),
    (F41),
    (PySem.W.mg_of X G a41),
    (F41.binds (ps := ["n"]) fun _ _ _ _ _ _ us hl => match us, hl with | [_], _ => rfl),
    (F42),
    (PySem.W.mg_of X G a42),
    (F42.binds (ps := ["bump"]) fun _ _ _ _ _ _ us hl => match us, hl with | [_], _ => rfl),
    (rfl),
    (F43),
    (PySem.W.mg_of X G a43),
    (F43.binds (ps := ["bump"]) fun _ _ _ _ _ _ us hl => match us, hl with | [_], _ => rfl),
    (rfl),
    (F44),
    (PySem.W.mg_of X G a44),
    (F44.binds (ps := ["word"]) fun _ _ _ _ _ _ us hl => match us, hl with | [_], _ => rfl),
    (F45),
    (PySem.W.mg_of X G a45),
    (F45.binds (ps := ["word"]) fun _ _ _ _ _ _ us hl => match us, hl with | [_], _ => rfl),
    (rfl),
    (F46),
    (PySem.W.mg_of X G a46),
    (F46.binds (ps := ["script", "spot"]) fun _ _ _ _ _ _ us hl => match us, hl with | [_, _], _ => rfl),
    (F47),
    (PySem.W.mg_of X G a47),
    (F47.binds (ps := ["dice", "total"]) fun _ _ _ _ _ _ us hl => match us, hl with | [_, _], _ => rfl),
    (F48),
    (PySem.W.mg_of X G a48),
    (F48.binds (ps := ["dice", "items"]) fun _ _ _ _ _ _ us hl => match us, hl with | [_, _], _ => rfl),
    (F49),
    (PySem.W.mg_of X G a49),
    (F49.binds (ps := ["call"]) fun _ _ _ _ _ _ us hl => match us, hl with | [_], _ => rfl),
    (F50),
    (PySem.W.mg_of X G a50),
    (F50.binds (ps := ["word", "other", "i"]) fun _ _ _ _ _ _ us hl => match us, hl with | [_, _, _], _ => rfl),
    (rfl),
    (by show _ ∈ [(pt12, (("shift_order_in" : Str) ++ ".<locals>.") ++ "<lambda>"), (pt50, (("_law_words" : Str) ++ ".<locals>.") ++ "<lambda>"), (pt51, (("_law_right" : Str) ++ ".<locals>.") ++ "<lambda>"), (pt52, (("law" : Str) ++ ".<locals>.") ++ "<lambda>")]; simp [pA]),
    (by
      intro p hp e
      have hp : p ∈ [(pt12, (("shift_order_in" : Str) ++ ".<locals>.") ++ "<lambda>"), (pt50, (("_law_words" : Str) ++ ".<locals>.") ++ "<lambda>"), (pt51, (("_law_right" : Str) ++ ".<locals>.") ++ "<lambda>"), (pt52, (("law" : Str) ++ ".<locals>.") ++ "<lambda>")] := hp
      have e : p.1 = pt50 := e
      simp only [List.mem_cons, List.not_mem_nil, or_false] at hp
      rcases hp with rfl | rfl | rfl | rfl
      · exact absurd (ptd 0 1 (by decide) (by decide) e) (by decide)
      · rfl
      · exact absurd (ptd 2 1 (by decide) (by decide) e) (by decide)
      · exact absurd (ptd 3 1 (by decide) (by decide) e) (by decide)),
    (F51),
    (PySem.W.mg_of X G a51),
    (F51.binds (ps := ["dice"]) fun _ _ _ _ _ _ us hl => match us, hl with | [_], _ => rfl),
    (rfl),
    (by show _ ∈ [(pt12, (("shift_order_in" : Str) ++ ".<locals>.") ++ "<lambda>"), (pt50, (("_law_words" : Str) ++ ".<locals>.") ++ "<lambda>"), (pt51, (("_law_right" : Str) ++ ".<locals>.") ++ "<lambda>"), (pt52, (("law" : Str) ++ ".<locals>.") ++ "<lambda>")]; simp [pA]),
    (by
      intro p hp e
      have hp : p ∈ [(pt12, (("shift_order_in" : Str) ++ ".<locals>.") ++ "<lambda>"), (pt50, (("_law_words" : Str) ++ ".<locals>.") ++ "<lambda>"), (pt51, (("_law_right" : Str) ++ ".<locals>.") ++ "<lambda>"), (pt52, (("law" : Str) ++ ".<locals>.") ++ "<lambda>")] := hp
      have e : p.1 = pt51 := e
      simp only [List.mem_cons, List.not_mem_nil, or_false] at hp
      rcases hp with rfl | rfl | rfl | rfl
      · exact absurd (ptd 0 2 (by decide) (by decide) e) (by decide)
      · exact absurd (ptd 1 2 (by decide) (by decide) e) (by decide)
      · rfl
      · exact absurd (ptd 3 2 (by decide) (by decide) e) (by decide)),
    (F52),
    (PySem.W.mg_of X G a52),
    (F52.binds (ps := ["script"]) fun _ _ _ _ _ _ us hl => match us, hl with | [_], _ => rfl),
    (rfl),
    (by show _ ∈ [(pt12, (("shift_order_in" : Str) ++ ".<locals>.") ++ "<lambda>"), (pt50, (("_law_words" : Str) ++ ".<locals>.") ++ "<lambda>"), (pt51, (("_law_right" : Str) ++ ".<locals>.") ++ "<lambda>"), (pt52, (("law" : Str) ++ ".<locals>.") ++ "<lambda>")]; simp [pA]),
    (by
      intro p hp e
      have hp : p ∈ [(pt12, (("shift_order_in" : Str) ++ ".<locals>.") ++ "<lambda>"), (pt50, (("_law_words" : Str) ++ ".<locals>.") ++ "<lambda>"), (pt51, (("_law_right" : Str) ++ ".<locals>.") ++ "<lambda>"), (pt52, (("law" : Str) ++ ".<locals>.") ++ "<lambda>")] := hp
      have e : p.1 = pt52 := e
      simp only [List.mem_cons, List.not_mem_nil, or_false] at hp
      rcases hp with rfl | rfl | rfl | rfl
      · exact absurd (ptd 0 3 (by decide) (by decide) e) (by decide)
      · exact absurd (ptd 1 3 (by decide) (by decide) e) (by decide)
      · exact absurd (ptd 2 3 (by decide) (by decide) e) (by decide)
      · rfl),
    (rfl),
    (rfl),
    (rfl),
    (⟨⟨_, _, _, _, F.excBase_ValueError, cq0⟩, PySem.W.mg_of X G ca0, cz0, cs0, cy0⟩),
    (fun k C b h1 h2 => match k, h1, h2 with
      | 0, h1, h2 => by
        cases h1; cases h2; exact mx0_0
      | 1, h1, h2 => by
        cases h1; cases h2; exact mx1_0
      | 2, h1, h2 => by
        cases h1; cases h2; exact mx2_0
      | 3, h1, h2 => by
        cases h1; cases h2; exact mx3_0
      | 4, h1, h2 => by
        cases h1; cases h2; exact mx4_0
      | k + 5, h1, h2 => by cases h1),
    (rfl),
    (⟨⟨_, _, _, _, F.excBase_ValueError, cq1⟩, PySem.W.mg_of X G ca1, cz1, cs1, cy1⟩),
    (fun k C b h1 h2 => match k, h1, h2 with
      | 0, h1, h2 => by
        cases h1; cases h2; exact mx0_1
      | 1, h1, h2 => by
        cases h1; cases h2; exact mx1_1
      | 2, h1, h2 => by
        cases h1; cases h2; exact mx2_1
      | 3, h1, h2 => by
        cases h1; cases h2; exact mx3_1
      | 4, h1, h2 => by
        cases h1; cases h2; exact mx4_1
      | k + 5, h1, h2 => by cases h1),
    (rfl),
    (rfl),
    (er1_mk F.excBase_IndexError PySem.W.kxs_IndexError F.store_IndexError is_2 (PySem.W.mg_of X G ca2) cz2 cs2 cy2 cqX2 coX2 iiX2 tyX2 lFX2 cIX2 lcX2 ldX2 hvX2 hfX2 tpX2 (PySem.W.mg_none_of X G gsX2) hcX2 hhX2 mrX2 suX2 sBX2 anX2 saX2 tkX2 gaX2 ggX2 hdX2 xnX2),
    (fun k C b h1 h2 => match k, h1, h2 with
      | 0, h1, h2 => by
        cases h1; cases h2; exact mx0_2
      | 1, h1, h2 => by
        cases h1; cases h2; exact mx1_2
      | 2, h1, h2 => by
        cases h1; cases h2; exact mx2_2
      | 3, h1, h2 => by
        cases h1; cases h2; exact mx3_2
      | 4, h1, h2 => by
        cases h1; cases h2; exact mx4_2
      | k + 5, h1, h2 => by cases h1),
    (rfl),
    (rfl),
    (er1_mk F.excBase_OverflowError PySem.W.kxs_OverflowError F.store_OverflowError is_3 (PySem.W.mg_of X G ca3) cz3 cs3 cy3 cqX3 coX3 iiX3 tyX3 lFX3 cIX3 lcX3 ldX3 hvX3 hfX3 tpX3 (PySem.W.mg_none_of X G gsX3) hcX3 hhX3 mrX3 suX3 sBX3 anX3 saX3 tkX3 gaX3 ggX3 hdX3 xnX3),
    (fun k C b h1 h2 => match k, h1, h2 with
      | 0, h1, h2 => by
        cases h1; cases h2; exact mx0_3
      | 1, h1, h2 => by
        cases h1; cases h2; exact mx1_3
      | 2, h1, h2 => by
        cases h1; cases h2; exact mx2_3
      | 3, h1, h2 => by
        cases h1; cases h2; exact mx3_3
      | 4, h1, h2 => by
        cases h1; cases h2; exact mx4_3
      | k + 5, h1, h2 => by cases h1),
    (rfl),
    (rfl),
    (er1_mk F.excBase_ArithmeticError PySem.W.kxs_ArithmeticError F.store_ArithmeticError is_4 (PySem.W.mg_of X G ca4) cz4 cs4 cy4 cqX4 coX4 iiX4 tyX4 lFX4 cIX4 lcX4 ldX4 hvX4 hfX4 tpX4 (PySem.W.mg_none_of X G gsX4) hcX4 hhX4 mrX4 suX4 sBX4 anX4 saX4 tkX4 gaX4 ggX4 hdX4 xnX4),
    (fun k C b h1 h2 => match k, h1, h2 with
      | 0, h1, h2 => by
        cases h1; cases h2; exact mx0_4
      | 1, h1, h2 => by
        cases h1; cases h2; exact mx1_4
      | 2, h1, h2 => by
        cases h1; cases h2; exact mx2_4
      | 3, h1, h2 => by
        cases h1; cases h2; exact mx3_4
      | 4, h1, h2 => by
        cases h1; cases h2; exact mx4_4
      | k + 5, h1, h2 => by cases h1),
    (⟨_, PySem.W.mg_of X G q0⟩),
    (⟨_, PySem.W.mg_of X G q1⟩),
    (⟨_, PySem.W.mg_of X G q2⟩),
    (⟨_, PySem.W.mg_of X G q3⟩),
    (⟨_, PySem.W.mg_of X G q4⟩),
    (⟨_, PySem.W.mg_of X G q5⟩),
    (⟨_, PySem.W.mg_of X G q6⟩),
    (⟨_, PySem.W.mg_of X G q7⟩),
    (⟨_, PySem.W.mg_of X G q8⟩),
    (⟨_, PySem.W.mg_of X G q9⟩),
    (⟨_, PySem.W.mg_of X G q10⟩),
    (⟨_, PySem.W.mg_of X G q11⟩),
    (⟨_, PySem.W.mg_of X G q12⟩),
    (⟨_, PySem.W.mg_of X G dq0, kd_of dl0 dk0 fun p hp => by
      simp only [T_PLACES, List.mem_cons, List.not_mem_nil, or_false] at hp
      rcases hp with rfl | rfl | rfl
      · exact ⟨_, de0_0⟩
      · exact ⟨_, de0_1⟩
      · exact ⟨_, de0_2⟩⟩),
    (PySem.W.mg_none_of X G z0),
    (PySem.W.mg_none_of X G z1),
    (PySem.W.mg_none_of X G z2),
    (PySem.W.mg_none_of X G z3),
    (PySem.W.mg_none_of X G z4),
    (PySem.W.mg_none_of X G z5),
    (PySem.W.mg_none_of X G z6),
    (PySem.W.mg_none_of X G z7),
    (PySem.W.mg_none_of X G z8),
    (PySem.W.mg_none_of X G z9),
    (PySem.W.mg_none_of X G z10),
    (PySem.W.mg_none_of X G z11),
    (PySem.W.mg_none_of X G z12),
    (PySem.W.mg_none_of X G z13),
    (PySem.W.mg_none_of X G z14)⟩
  have to12 := PySem.W.tab_of GG.T X rr12 (tab_ofL a12 l12 rfl lk12 vt12)
  have to50 := PySem.W.tab_of GG.T X rr50 (tab_ofL a50 l50 rfl lk50 vt50)
  have to51 := PySem.W.tab_of GG.T X rr51 (tab_ofL a51 l51 rfl lk51 vt51)
  have to52 := PySem.W.tab_of GG.T X rr52 (tab_ofL a52 l52 rfl lk52 vt52)
  exact ⟨Gz, _, [(kc12, pt12), (kc50, pt50), (kc51, pt51), (kc52, pt52)], ⟨rfl, ⟨List.forall_mem_cons.mpr ⟨to12.2, List.forall_mem_cons.mpr ⟨to50.2, List.forall_mem_cons.mpr ⟨to51.2, List.forall_mem_cons.mpr ⟨to52.2, (fun _ h => nomatch h)⟩⟩⟩⟩, List.forall_mem_cons.mpr ⟨nt12, List.forall_mem_cons.mpr ⟨nt50, List.forall_mem_cons.mpr ⟨nt51, List.forall_mem_cons.mpr ⟨nt52, (fun _ h => nomatch h)⟩⟩⟩⟩, List.forall_mem_cons.mpr ⟨to12.1, List.forall_mem_cons.mpr ⟨to50.1, List.forall_mem_cons.mpr ⟨to51.1, List.forall_mem_cons.mpr ⟨to52.1, (fun _ h => nomatch h)⟩⟩⟩⟩⟩, by
      intro p hp
      have hp : p ∈ [(pt12, (("shift_order_in" : Str) ++ ".<locals>.") ++ "<lambda>"), (pt50, (("_law_words" : Str) ++ ".<locals>.") ++ "<lambda>"), (pt51, (("_law_right" : Str) ++ ".<locals>.") ++ "<lambda>"), (pt52, (("law" : Str) ++ ".<locals>.") ++ "<lambda>")] := hp
      simp only [List.mem_cons, List.not_mem_nil, or_false] at hp
      rcases hp with rfl | rfl | rfl | rfl <;> simp⟩, hbind, fun base _ _ TBs => ok_52 T (fun j hj => by
    simp only [lamDefs, List.mem_cons, List.not_mem_nil, or_false] at hj
    rcases hj with rfl | rfl | rfl | rfl
    · exact TBs (kc12, pt12) (by simp)
    · exact TBs (kc50, pt50) (by simp)
    · exact TBs (kc51, pt51) (by simp)
    · exact TBs (kc52, pt52) (by simp))⟩
end Law

open PySem PySem.W PyProof.Rows
set_option maxRecDepth 100000 in
set_option maxHeartbeats 0 in
theorem PySem.Challenge.cw_roundsforce_k48_errors_of_words_holds : PySem.Challenge.rw_roundsforce_k48_errors_of_words.Holds := by
  w_on; o_law; k_head; (case hw => w_witness2)
  k_fill
  refine DM.walk_endT (l := PySem.Challenge.rw_roundsforce_k48_errors_of_words) (k := 13) (x := "script") Law.law_true rfl rfl ⟨rfl, by decide, by decide⟩ (fun w h Y => by first | exact PySem.W.kIn_of Y | exact PySem.W.km_in_of Y) ?FF
  case FF =>
    intro w s₀ mg mb fa h GG KX hmg
    refine' Law.all_mk GG KX hmg ?a0 ?l0 ?c0 ?k0 ?a1 ?l1 ?c1 ?k1 ?a2 ?l2 ?c2 ?k2 ?a3 ?l3 ?c3 ?k3 ?a4 ?l4 ?c4 ?k4 ?a5 ?l5 ?c5 ?k5 ?a6 ?l6 ?c6 ?k6 ?a7 ?l7 ?c7 ?k7 ?a8 ?l8 ?c8 ?k8 ?a9 ?l9 ?c9 ?k9 ?a10 ?l10 ?c10 ?k10 ?a11 ?l11 ?c11 ?k11 ?a12 ?l12 ?c12 ?k12 ?lk12 ?vt12 ?nt12 ?rr12 ?a13 ?l13 ?c13 ?k13 ?a14 ?l14 ?c14 ?k14 ?a15 ?l15 ?c15 ?k15 ?a16 ?l16 ?c16 ?k16 ?a17 ?l17 ?c17 ?k17 ?a18 ?l18 ?c18 ?k18 ?a19 ?l19 ?c19 ?k19 ?a20 ?l20 ?c20 ?k20 ?a21 ?l21 ?c21 ?k21 ?a22 ?l22 ?c22 ?k22 ?a23 ?l23 ?c23 ?k23 ?a24 ?l24 ?c24 ?k24 ?a25 ?l25 ?c25 ?k25 ?a26 ?l26 ?c26 ?k26 ?a27 ?l27 ?c27 ?k27 ?a28 ?l28 ?c28 ?k28 ?a29 ?l29 ?c29 ?k29 ?a30 ?l30 ?c30 ?k30 ?a31 ?l31 ?c31 ?k31 ?a32 ?l32 ?c32 ?k32 ?a33 ?l33 ?c33 ?k33 ?a34 ?l34 ?c34 ?k34 ?a35 ?l35 ?c35 ?k35 ?a36 ?l36 ?c36 ?k36 ?a37 ?l37 ?c37 ?k37 ?a38 ?l38 ?c38 ?k38 ?a39 ?l39 ?c39 ?k39 ?a40 ?l40 ?c40 ?k40 ?a41 ?l41 ?c41 ?k41 ?a42 ?l42 ?c42 ?k42 ?a43 ?l43 ?c43 ?k43 ?a44 ?l44 ?c44 ?k44 ?a45 ?l45 ?c45 ?k45 ?a46 ?l46 ?c46 ?k46 ?a47 ?l47 ?c47 ?k47 ?a48 ?l48 ?c48 ?k48 ?a49 ?l49 ?c49 ?k49 ?a50 ?l50 ?c50 ?k50 ?lk50 ?vt50 ?nt50 ?rr50 ?a51 ?l51 ?c51 ?k51 ?lk51 ?vt51 ?nt51 ?rr51 ?a52 ?l52 ?c52 ?k52 ?lk52 ?vt52 ?nt52 ?rr52 ?ptn ?ca0 ?cz0 ?cs0 ?cy0 ?cq0 ?ca1 ?cz1 ?cs1 ?cy1 ?cq1 ?ca2 ?cz2 ?cs2 ?cy2 ?iiX2 ?tyX2 ?lFX2 ?cIX2 ?lcX2 ?ldX2 ?hvX2 ?hfX2 ?tpX2 ?gsX2 ?hcX2 ?hhX2 ?mrX2 ?suX2 ?sBX2 ?anX2 ?saX2 ?tkX2 ?gaX2 ?ggX2 ?hdX2 ?xnX2 ?cqX2 ?coX2 ?ca3 ?cz3 ?cs3 ?cy3 ?iiX3 ?tyX3 ?lFX3 ?cIX3 ?lcX3 ?ldX3 ?hvX3 ?hfX3 ?tpX3 ?gsX3 ?hcX3 ?hhX3 ?mrX3 ?suX3 ?sBX3 ?anX3 ?saX3 ?tkX3 ?gaX3 ?ggX3 ?hdX3 ?xnX3 ?cqX3 ?coX3 ?ca4 ?cz4 ?cs4 ?cy4 ?iiX4 ?tyX4 ?lFX4 ?cIX4 ?lcX4 ?ldX4 ?hvX4 ?hfX4 ?tpX4 ?gsX4 ?hcX4 ?hhX4 ?mrX4 ?suX4 ?sBX4 ?anX4 ?saX4 ?tkX4 ?gaX4 ?ggX4 ?hdX4 ?xnX4 ?cqX4 ?coX4 ?mx0_1 ?mx1_1 ?mx2_1 ?mx3_1 ?mx4_1 ?mx0_0 ?mx1_0 ?mx2_0 ?mx3_0 ?mx4_0 ?mx0_2 ?mx1_2 ?mx2_2 ?mx3_2 ?mx4_2 ?mx0_4 ?mx1_4 ?mx2_4 ?mx3_4 ?mx4_4 ?mx0_3 ?mx1_3 ?mx2_3 ?mx3_3 ?mx4_3 ?q0 ?q1 ?q2 ?q3 ?q4 ?q5 ?q6 ?q7 ?q8 ?q9 ?q10 ?q11 ?q12 ?dq0 ?dl0 ?dk0 ?de0_0 ?de0_1 ?de0_2 ?z0 ?z1 ?z2 ?z3 ?z4 ?z5 ?z6 ?z7 ?z8 ?z9 ?z10 ?z11 ?z12 ?z13 ?z14
    (case a0 => k_is); (case l0 => k_is); (case c0 => k_is); (case k0 => k_is); (case a1 => k_is); (case l1 => k_is); (case c1 => k_is); (case k1 => k_is); (case a2 => k_is); (case l2 => k_is); (case c2 => k_is); (case k2 => k_is); (case a3 => k_is); (case l3 => k_is); (case c3 => k_is); (case k3 => k_is); (case a4 => k_is); (case l4 => k_is); (case c4 => k_is); (case k4 => k_is); (case a5 => k_is); (case l5 => k_is); (case c5 => k_is); (case k5 => k_is); (case a6 => k_is); (case l6 => k_is); (case c6 => k_is); (case k6 => k_is); (case a7 => k_is); (case l7 => k_is); (case c7 => k_is); (case k7 => k_is); (case a8 => k_is); (case l8 => k_is); (case c8 => k_is); (case k8 => k_is); (case a9 => k_is); (case l9 => k_is); (case c9 => k_is); (case k9 => k_is); (case a10 => k_is); (case l10 => k_is); (case c10 => k_is); (case k10 => k_is); (case a11 => k_is); (case l11 => k_is); (case c11 => k_is); (case k11 => k_is); (case a12 => k_is); (case l12 => k_is); (case c12 => k_is); (case k12 => k_is); (case lk12 => k_is); (case vt12 => rfl); (case nt12 => kernel_rfl); (case rr12 => rfl); (case a13 => k_is); (case l13 => k_is); (case c13 => k_is); (case k13 => k_is); (case a14 => k_is); (case l14 => k_is); (case c14 => k_is); (case k14 => k_is); (case a15 => k_is); (case l15 => k_is); (case c15 => k_is); (case k15 => k_is); (case a16 => k_is); (case l16 => k_is); (case c16 => k_is); (case k16 => k_is); (case a17 => k_is); (case l17 => k_is); (case c17 => k_is); (case k17 => k_is); (case a18 => k_is); (case l18 => k_is); (case c18 => k_is); (case k18 => k_is); (case a19 => k_is); (case l19 => k_is); (case c19 => k_is); (case k19 => k_is); (case a20 => k_is); (case l20 => k_is); (case c20 => k_is); (case k20 => k_is); (case a21 => k_is); (case l21 => k_is); (case c21 => k_is); (case k21 => k_is); (case a22 => k_is); (case l22 => k_is); (case c22 => k_is); (case k22 => k_is); (case a23 => k_is); (case l23 => k_is); (case c23 => k_is); (case k23 => k_is); (case a24 => k_is); (case l24 => k_is); (case c24 => k_is); (case k24 => k_is); (case a25 => k_is); (case l25 => k_is); (case c25 => k_is); (case k25 => k_is); (case a26 => k_is); (case l26 => k_is); (case c26 => k_is); (case k26 => k_is); (case a27 => k_is); (case l27 => k_is); (case c27 => k_is); (case k27 => k_is); (case a28 => k_is); (case l28 => k_is); (case c28 => k_is); (case k28 => k_is); (case a29 => k_is); (case l29 => k_is); (case c29 => k_is); (case k29 => k_is); (case a30 => k_is); (case l30 => k_is); (case c30 => k_is); (case k30 => k_is); (case a31 => k_is); (case l31 => k_is); (case c31 => k_is); (case k31 => k_is); (case a32 => k_is); (case l32 => k_is); (case c32 => k_is); (case k32 => k_is); (case a33 => k_is); (case l33 => k_is); (case c33 => k_is); (case k33 => k_is); (case a34 => k_is); (case l34 => k_is); (case c34 => k_is); (case k34 => k_is); (case a35 => k_is); (case l35 => k_is); (case c35 => k_is); (case k35 => k_is); (case a36 => k_is); (case l36 => k_is); (case c36 => k_is); (case k36 => k_is); (case a37 => k_is); (case l37 => k_is); (case c37 => k_is); (case k37 => k_is); (case a38 => k_is); (case l38 => k_is); (case c38 => k_is); (case k38 => k_is); (case a39 => k_is); (case l39 => k_is); (case c39 => k_is); (case k39 => k_is); (case a40 => k_is); (case l40 => k_is); (case c40 => k_is); (case k40 => k_is); (case a41 => k_is); (case l41 => k_is); (case c41 => k_is); (case k41 => k_is); (case a42 => k_is); (case l42 => k_is); (case c42 => k_is); (case k42 => k_is); (case a43 => k_is); (case l43 => k_is); (case c43 => k_is); (case k43 => k_is); (case a44 => k_is); (case l44 => k_is); (case c44 => k_is); (case k44 => k_is); (case a45 => k_is); (case l45 => k_is); (case c45 => k_is); (case k45 => k_is); (case a46 => k_is); (case l46 => k_is); (case c46 => k_is); (case k46 => k_is); (case a47 => k_is); (case l47 => k_is); (case c47 => k_is); (case k47 => k_is); (case a48 => k_is); (case l48 => k_is); (case c48 => k_is); (case k48 => k_is); (case a49 => k_is); (case l49 => k_is); (case c49 => k_is); (case k49 => k_is); (case a50 => k_is); (case l50 => k_is); (case c50 => k_is); (case k50 => k_is); (case lk50 => k_is); (case vt50 => rfl); (case nt50 => kernel_rfl); (case rr50 => rfl); (case a51 => k_is); (case l51 => k_is); (case c51 => k_is); (case k51 => k_is); (case lk51 => k_is); (case vt51 => rfl); (case nt51 => kernel_rfl); (case rr51 => rfl); (case a52 => k_is); (case l52 => k_is); (case c52 => k_is); (case k52 => k_is); (case lk52 => k_is); (case vt52 => rfl); (case nt52 => kernel_rfl); (case rr52 => rfl); (case ptn => decide); (case ca0 => k_is); (case cz0 => k_is); (case cs0 => k_is); (case cy0 => k_is); (case cq0 => kernel_rfl); (case ca1 => k_is); (case cz1 => k_is); (case cs1 => k_is); (case cy1 => k_is); (case cq1 => kernel_rfl); (case ca2 => k_is); (case cz2 => k_is); (case cs2 => k_is); (case cy2 => k_is); (case iiX2 => k_is); (case tyX2 => k_is); (case lFX2 => k_is); (case cIX2 => k_is); (case lcX2 => k_is); (case ldX2 => k_is); (case hvX2 => rfl); (case hfX2 => kernel_rfl); (case tpX2 => kernel_rfl); (case gsX2 => k_is); (case hcX2 => k_is); (case hhX2 => rfl); (case mrX2 => k_is); (case suX2 => kernel_rfl); (case sBX2 => k_is); (case anX2 => k_is); (case saX2 => k_is); (case tkX2 => k_is); (case gaX2 => k_is); (case ggX2 => k_is); (case hdX2 => k_is); (case xnX2 => k_is); (case cqX2 => kernel_rfl); (case coX2 => kernel_rfl); (case ca3 => k_is); (case cz3 => k_is); (case cs3 => k_is); (case cy3 => k_is); (case iiX3 => k_is); (case tyX3 => k_is); (case lFX3 => k_is); (case cIX3 => k_is); (case lcX3 => k_is); (case ldX3 => k_is); (case hvX3 => rfl); (case hfX3 => kernel_rfl); (case tpX3 => kernel_rfl); (case gsX3 => k_is); (case hcX3 => k_is); (case hhX3 => rfl); (case mrX3 => k_is); (case suX3 => kernel_rfl); (case sBX3 => k_is); (case anX3 => k_is); (case saX3 => k_is); (case tkX3 => k_is); (case gaX3 => k_is); (case ggX3 => k_is); (case hdX3 => k_is); (case xnX3 => k_is); (case cqX3 => kernel_rfl); (case coX3 => kernel_rfl); (case ca4 => k_is); (case cz4 => k_is); (case cs4 => k_is); (case cy4 => k_is); (case iiX4 => k_is); (case tyX4 => k_is); (case lFX4 => k_is); (case cIX4 => k_is); (case lcX4 => k_is); (case ldX4 => k_is); (case hvX4 => rfl); (case hfX4 => kernel_rfl); (case tpX4 => kernel_rfl); (case gsX4 => k_is); (case hcX4 => k_is); (case hhX4 => rfl); (case mrX4 => k_is); (case suX4 => kernel_rfl); (case sBX4 => k_is); (case anX4 => k_is); (case saX4 => k_is); (case tkX4 => k_is); (case gaX4 => k_is); (case ggX4 => k_is); (case hdX4 => k_is); (case xnX4 => k_is); (case cqX4 => kernel_rfl); (case coX4 => kernel_rfl); (case mx0_1 => kernel_rfl); (case mx1_1 => kernel_rfl); (case mx2_1 => kernel_rfl); (case mx3_1 => kernel_rfl); (case mx4_1 => kernel_rfl); (case mx0_0 => kernel_rfl); (case mx1_0 => kernel_rfl); (case mx2_0 => kernel_rfl); (case mx3_0 => kernel_rfl); (case mx4_0 => kernel_rfl); (case mx0_2 => kernel_rfl); (case mx1_2 => kernel_rfl); (case mx2_2 => kernel_rfl); (case mx3_2 => kernel_rfl); (case mx4_2 => kernel_rfl); (case mx0_4 => kernel_rfl); (case mx1_4 => kernel_rfl); (case mx2_4 => kernel_rfl); (case mx3_4 => kernel_rfl); (case mx4_4 => kernel_rfl); (case mx0_3 => kernel_rfl); (case mx1_3 => kernel_rfl); (case mx2_3 => kernel_rfl); (case mx3_3 => kernel_rfl); (case mx4_3 => kernel_rfl); (case q0 => k_is); (case q1 => k_is); (case q2 => k_is); (case q3 => k_is); (case q4 => k_is); (case q5 => k_is); (case q6 => k_is); (case q7 => k_is); (case q8 => k_is); (case q9 => k_is); (case q10 => k_is); (case q11 => k_is); (case q12 => k_is); (case dq0 => k_is); (case dl0 => k_is); (case dk0 => exact ⟨⟨_, _, rfl, rfl⟩, ⟨_, _, rfl, rfl⟩, ⟨_, _, rfl, rfl⟩, trivial⟩); (case de0_0 => k_is); (case de0_1 => k_is); (case de0_2 => k_is); (case z0 => k_is); (case z1 => k_is); (case z2 => k_is); (case z3 => k_is); (case z4 => k_is); (case z5 => k_is); (case z6 => k_is); (case z7 => k_is); (case z8 => k_is); (case z9 => k_is); (case z10 => k_is); (case z11 => k_is); (case z12 => k_is); (case z13 => k_is); (case z14 => k_is)
