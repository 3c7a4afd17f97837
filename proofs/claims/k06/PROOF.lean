import PyProof.Rows.All
import HandS.HeadHook4
import Wide.All
import OpenK.AllK
import Wide.FinOn
import HandS.ForMost
import HandS.ForExc
import HandS.CallSlots
import HandS.Defaults
import HandS.HeadHook1
import HandS.HeadHook2
import HandS.Lambda
import HandS.ExcInit
import HandS.TryMany
import KE.KTryMore
import HandS.IsInst
import HandS.TupAny
import HandS.Wide
import HandS.Deep
import HandS.WordsDict
import HandS.DictComp
import HandS.TupSets
import HandS.Iter
import HandS.Zip
import HandS.Style
import HandS.HeadWalk
import PySem.Challenge.RW_strikeloom_k06_lattices_refused
import KE.KStateDown
import HandS.HeadEnd
import HandS.Head0
import HandS.Head1
import HandS.Head2
set_option Elab.async false
set_option linter.all false
set_option maxRecDepth 100000
set_option autoImplicit false
namespace Cl
/-- the defs that make lambdas, with the lambdas' names -/
def lamTl : List (He.Defn × PySem.Str) := [(("law", none), (("law" : PySem.Str) ++ (".<locals>." : PySem.Str)) ++ ("<lambda>" : PySem.Str))]
/-- the classes that are raised or caught, each with those that catch it -/
def xTab : List (PySem.Str × List PySem.Str) := [
  ("LoomError", ["LoomError"]),
  ("Missing", ["Missing"]),
  ("BadShape", ["BadShape", "LoomError"]),
  ("BadPrice", ["BadPrice", "LoomError"]),
  ("BadRate", ["BadRate", "LoomError"]),
  ("BadStep", ["BadStep", "LoomError"]),
  ("BadPage", ["BadPage", "LoomError"]),
  ("BadName", ["BadName", "LoomError"]),
  ("Clash", ["Clash", "LoomError"]),
  ("Winning", ["Winning", "LoomError"]),
  ("Ring", ["Ring", "LoomError"]),
  ("TooGreat", ["TooGreat", "LoomError"]),
  ("InUse", ["InUse", "LoomError"]),
  ("StillAsked", ["StillAsked", "LoomError"]),
  ("NoNode", ["NoNode", "Missing"]),
  ("NoStand", ["NoStand", "Missing"]),
  ("NoNote", ["NoNote", "Missing"]),
  ("NoThing", ["NoThing", "Missing"])]
/-- their fields -/
def xFn : List PySem.Str := ["called", "date", "name", "node", "number", "row"]
/-- the exceptions that are raised, with their fields -/
def oexL : List (PySem.Str × List PySem.Str) := [("BadShape", []), ("BadRate", ["date", "node"]), ("BadPrice", ["date", "node"]), ("BadStep", ["date", "node"])]
end Cl
namespace Cl
open PySem PySem.Spec PyProof.Rows L2

/-! ## clean values, cells, heaps -/
inductive Dt where
  | non | bl (b : Bool) | int (i : Int) | str (s : Str) | tup (ds : List Dt) | ref (n : Nat) | cl (ds : List Dt) | glo (x : Str) | ty (n : String)
mutual
def Dt.beq : Dt → Dt → Bool
  | .non, .non => true
  | .bl a, .bl b => a == b
  | .int a, .int b => decide (a = b)
  | .str a, .str b => decide (a = b)
  | .tup a, .tup b => Dt.beqs a b
  | .ref a, .ref b => decide (a = b)
  | .cl a, .cl b => Dt.beqs a b
  | .glo a, .glo b => decide (a = b)
  | .ty a, .ty b => decide (a = b)
  | _, _ => false
def Dt.beqs : List Dt → List Dt → Bool
  | [], [] => true
  | a :: as, b :: bs => Dt.beq a b && Dt.beqs as bs
  | _, _ => false
end
mutual
theorem Dt.beq_eq : ∀ (a b : Dt), Dt.beq a b = true → a = b
  | .non, b, h => by cases b <;> first | rfl | (simp [Dt.beq] at h)
  | .bl a, b, h => by cases b <;> simp [Dt.beq] at h; rw [h]
  | .int a, b, h => by cases b <;> simp [Dt.beq] at h; rw [h]
  | .str a, b, h => by cases b <;> simp [Dt.beq] at h; rw [h]
  | .tup a, b, h => by
    cases b with
    | tup b => exact congrArg _ (Dt.beqs_eq a b (by simpa [Dt.beq] using h))
    | _ => simp [Dt.beq] at h
  | .ref a, b, h => by cases b <;> simp [Dt.beq] at h; rw [h]
  | .cl a, b, h => by
    cases b with
    | cl b => exact congrArg _ (Dt.beqs_eq a b (by simpa [Dt.beq] using h))
    | _ => simp [Dt.beq] at h
  | .glo a, b, h => by cases b <;> simp [Dt.beq] at h; rw [h]
  | .ty a, b, h => by cases b <;> simp [Dt.beq] at h; rw [h]
theorem Dt.beqs_eq : ∀ (a b : List Dt), Dt.beqs a b = true → a = b
  | [], [], _ => rfl
  | [], _ :: _, h => by simp [Dt.beqs] at h
  | _ :: _, [], h => by simp [Dt.beqs] at h
  | a :: as, b :: bs, h => by
    simp only [Dt.beqs, Bool.and_eq_true] at h
    rw [Dt.beq_eq a b h.1, Dt.beqs_eq as bs h.2]
end
mutual
theorem Dt.beq_refl : ∀ (a : Dt), Dt.beq a a = true
  | .non => by simp [Dt.beq]
  | .bl a => by simp [Dt.beq]
  | .int a => by simp [Dt.beq]
  | .str a => by simp [Dt.beq]
  | .tup a => by simp only [Dt.beq]; exact Dt.beqs_refl a
  | .ref a => by simp [Dt.beq]
  | .cl a => by simp only [Dt.beq]; exact Dt.beqs_refl a
  | .glo a => by simp [Dt.beq]
  | .ty a => by simp [Dt.beq]
theorem Dt.beqs_refl : ∀ (a : List Dt), Dt.beqs a a = true
  | [] => by simp [Dt.beqs]
  | a :: as => by simp only [Dt.beqs, Bool.and_eq_true]; exact ⟨Dt.beq_refl a, Dt.beqs_refl as⟩
end
instance : DecidableEq Dt := fun a b => if h : Dt.beq a b = true then .isTrue (Dt.beq_eq a b h) else .isFalse fun e => h (e ▸ Dt.beq_refl a)

inductive Ce where
  | lst (ds : List Dt)
  | dic (lk tk : Bool) (kvs : List (Dt × Dt))
  | ins (c : Str) (fs : List (Str × Dt))
  | set (ds : List Dt)
  deriving DecidableEq
abbrev CH := List Ce
/-- where an exception may come: ok, an exception of the class c with its fields, or nothing is said -/
inductive Out (α : Type) where
  | ok (a : α) (h : CH)
  | exc (c : Str) (fs : List (Str × Dt)) (h : CH)
  | bad
def Out.bind {α β : Type} (o : Out α) (f : α → CH → Out β) : Out β := match o with
  | .ok a h => f a h
  | .exc c fs h => .exc c fs h
  | .bad => .bad
abbrev Rho := List (Option Dt)
abbrev ME := Rho → CH → Out Dt
abbrev MA := Rho → CH → Out (List Dt)
abbrev MT := Rho → CH → Out Bool
inductive OS where
  | next (ρ : Rho) (h : CH)
  | ret (d : Dt) (h : CH)
  | brk (ρ : Rho) (h : CH)
  | cont (ρ : Rho) (h : CH)
  | exc (c : Str) (fs : List (Str × Dt)) (ρ : Rho) (h : CH)
  | bad
abbrev MS := Rho → CH → OS

/-! ## what they stand for -/
section
variable (K : PySem.W.Frag) (ι : List Addr) (H : Hp)
/-- a list object that stands still -/
def ROL (a : Addr) (vs : List V) : Prop := (∃ ob, H a = some (.frz ob (.lst vs))) ∨
  ∃ (o : Obj) (its : Array Value) (n : Nat), K.lookup a = some o ∧ o.cls = .type "list" ∧ o.dict = none ∧ o.data = .seq its n ∧ its.size ≤ sizeLine ∧ Vals vs its.toList
theorem ROL.sq {a : Addr} {vs : List V} (h : ROL K H a vs) : SqL K H a vs := by
  rcases h with ⟨ob, h⟩ | h
  · exact .inl (.inr ⟨ob, h⟩)
  · exact .inr h
mutual
def Den : Dt → V → Prop
  | .non, v => v = .non
  | .bl b, v => v = .bl b
  | .int i, v => v = .int i
  | .str s, v => v = .str s
  | .tup ds, v => ∃ a vs, v = .ref a ∧ SqT K H a vs ∧ Dens ds vs
  | .ref n, v => ∃ a, v = .ref a ∧ ι[n]? = some a
  | .cl ds, v => ∃ a vs, v = .ref a ∧ ROL K H a vs ∧ Dens ds vs
  | .glo x, v => v = .ref (He.ga K x)
  | .ty n, v => v = .ty n
def Dens : List Dt → List V → Prop
  | [], vs => vs = []
  | d :: ds, vs => ∃ v r, vs = v :: r ∧ Den d v ∧ Dens ds r
end
def DenF : List (Str × Dt) → List (Str × V) → Prop
  | [], vs => vs = []
  | d :: ds, vs => ∃ v r, vs = (d.1, v) :: r ∧ Den K ι H d.2 v ∧ DenF ds r
end
def dkey : Dt → Option Key
  | .int i => some (.inl i)
  | .str s => some (.inr s)
  | _ => none
def dkeys : List Dt → Option (List Key)
  | [] => some []
  | d :: ds => match dkey d, dkeys ds with
    | some k, some ks => some (k :: ks)
    | _, _ => none
def dkeyT : Dt → Option (List Key)
  | .tup ds => dkeys ds
  | _ => none
section
variable (K : PySem.W.Frag) (ι : List Addr) (H : Hp)
def KVs : List (Dt × Dt) → List (Key × V) → Prop
  | [], l => l = []
  | p :: ps, l => ∃ k v r, l = (k, v) :: r ∧ dkey p.1 = some k ∧ Den K ι H p.2 v ∧ KVs ps r
def KTs : List (Dt × Dt) → List (List Key × V) → Prop
  | [], l => l = []
  | p :: ps, l => ∃ k v r, l = (k, v) :: r ∧ dkeyT p.1 = some k ∧ Den K ι H p.2 v ∧ KTs ps r
def DenDic : Bool → List (Dt × Dt) → HO → Prop
  | false, kvs, u => ∃ l, u = .dK l ∧ KVs K ι H kvs l
  | true, kvs, u => ∃ l, u = .dT l ∧ KTs K ι H kvs l
def DenC : Ce → HO → Prop
  | .lst ds, o => ∃ vs, o = .lst vs ∧ Dens K ι H ds vs
  | .dic lk tk kvs, o => ∃ u, DenDic K ι H tk kvs u ∧ (lk = true → ∃ ob, o = .frz ob u) ∧ (lk = false → o = u)
  | .ins c fs, o => ∃ dx fs', o = .ins (He.ga K c) dx fs' ∧ DenF K ι H fs fs'
  | .set _, _ => False
/-- the tables of the defs that make lambdas -/
def lamT (K : PySem.W.Frag) : List (Addr × Str) := lamTl.map fun p => ((He.cT K p.1).2, p.2)
structure RepH (h : CH) : Prop where
  tabs : LamX.Tabs (lamT K) H
  len : ι.length = h.length
  nd : ι.Nodup
  at_ : ∀ (n : Nat) (c : Ce) (a : Addr), h[n]? = some c → ι[n]? = some a → ∃ o, H a = some o ∧ DenC K ι H c o
structure RepS (ρ : Rho) (σ : L2.St) : Prop where
  len : ρ.length = σ.length
  at_ : ∀ (i : Nat) (d : Dt), ρ[i]? = some (some d) → ∃ v, σ[i]? = some (some v) ∧ Den K ι H d v
end
/-- what never changes -/
def Stb : HO → Prop
  | .tup _ => True
  | .xd _ => True
  | .frz _ _ => True
  | .ext _ => True
  | _ => False
def isTbl : HO → Bool
  | .tbl _ => true
  | _ => false
/-- what is no cell of ours -/
def Fix (o : HO) : Prop := Stb o ∨ isTbl o = true
/-- nothing stands there, or a table -/
def NT (H : Hp) (a : Addr) : Prop := ∀ o, H a = some o → isTbl o = true
theorem NT.of {H : Hp} {a : Addr} (h : H a = none) : NT H a := fun o e => by rw [h] at e; cases e
structure Ext (ι : List Addr) (H : Hp) (ι' : List Addr) (H' : Hp) : Prop where
  pre : ∃ l, ι' = ι ++ l ∧ ∀ a ∈ l, NT H a
  stb : ∀ a o, H a = some o → Stb o → H' a = some o
  frm : ∀ a o, H a = some o → a ∉ ι → isTbl o = false → H' a = some o
  dom : ∀ a, NT H' a → NT H a

/-- less: what the standing of clean values leans on -/
structure Ext0 (ι : List Addr) (H : Hp) (ι' : List Addr) (H' : Hp) : Prop where
  pre : ∃ l, ι' = ι ++ l
  stb : ∀ a o, H a = some o → Stb o → H' a = some o
section
variable {K : PySem.W.Frag} {ι ι1 ι2 : List Addr} {H H1 H2 : Hp} {h : CH}
theorem Ext.to0 (a : Ext ι H ι1 H1) : Ext0 ι H ι1 H1 := ⟨let ⟨l, e, _⟩ := a.pre; ⟨l, e⟩, a.stb⟩
theorem Ext.refl : Ext ι H ι H := ⟨⟨[], by simp, by simp⟩, fun _ _ h _ => h, fun _ _ h _ _ => h, fun _ h => h⟩
theorem Ext.trans (a : Ext ι H ι1 H1) (b : Ext ι1 H1 ι2 H2) : Ext ι H ι2 H2 := by
  obtain ⟨l1, e1, n1⟩ := a.pre
  obtain ⟨l2, e2, n2⟩ := b.pre
  refine ⟨⟨l1 ++ l2, by rw [e2, e1, List.append_assoc], fun x hx => ?_⟩, fun x o h s => b.stb x o (a.stb x o h s) s, fun x o h n nt => ?_, fun x h => a.dom x (b.dom x h)⟩
  · rcases List.mem_append.mp hx with q | q
    · exact n1 x q
    · exact a.dom x (n2 x q)
  · refine b.frm x o (a.frm x o h n nt) (fun z => ?_) nt
    rw [e1] at z
    rcases List.mem_append.mp z with q | q
    · exact n q
    · rw [n1 x q o h] at nt; cases nt
theorem Ext0.get (a : Ext0 ι H ι1 H1) {n : Nat} {x : Addr} (h : ι[n]? = some x) : ι1[n]? = some x := by
  obtain ⟨l, e⟩ := a.pre
  rw [e, List.getElem?_append_left (List.getElem?_eq_some_iff.mp h).1]
  exact h
theorem Ext0.sqT (a : Ext0 ι H ι1 H1) {x : Addr} {vs : List V} (h : SqT K H x vs) : SqT K H1 x vs := by
  rcases h with (h | ⟨o, h⟩) | h
  · exact .inl (.inl (a.stb _ _ h trivial))
  · exact .inl (.inr ⟨o, a.stb _ _ h trivial⟩)
  · exact .inr h
theorem Ext0.rol (a : Ext0 ι H ι1 H1) {x : Addr} {vs : List V} (h : ROL K H x vs) : ROL K H1 x vs := by
  rcases h with ⟨o, h⟩ | h
  · exact .inl ⟨o, a.stb _ _ h trivial⟩
  · exact .inr h
mutual
theorem Den.mono0 (e : Ext0 ι H ι1 H1) : ∀ {d : Dt} {v : V}, Den K ι H d v → Den K ι1 H1 d v
  | .non, _, h => h
  | .bl _, _, h => h
  | .int _, _, h => h
  | .str _, _, h => h
  | .tup ds, _, h => by
    obtain ⟨a, vs, r, s, t⟩ := (show ∃ a vs, _ = V.ref a ∧ SqT K H a vs ∧ Dens K ι H ds vs from h)
    exact ⟨a, vs, r, e.sqT s, Dens.mono0 e t⟩
  | .ref n, _, h => by
    obtain ⟨a, r, s⟩ := (show ∃ a, _ = V.ref a ∧ ι[n]? = some a from h)
    exact ⟨a, r, e.get s⟩
  | .cl ds, _, h => by
    obtain ⟨a, vs, r, s, t⟩ := (show ∃ a vs, _ = V.ref a ∧ ROL K H a vs ∧ Dens K ι H ds vs from h)
    exact ⟨a, vs, r, e.rol s, Dens.mono0 e t⟩
  | .glo _, _, h => h
  | .ty _, _, h => h
theorem Dens.mono0 (e : Ext0 ι H ι1 H1) : ∀ {ds : List Dt} {vs : List V}, Dens K ι H ds vs → Dens K ι1 H1 ds vs
  | [], _, h => h
  | d :: ds, _, h => by
    obtain ⟨v, r, a, b, c⟩ := (show ∃ v r, _ = v :: r ∧ Den K ι H d v ∧ Dens K ι H ds r from h)
    exact ⟨v, r, a, Den.mono0 e b, Dens.mono0 e c⟩
end
theorem DenF.mono0 (e : Ext0 ι H ι1 H1) : ∀ {ds : List (Str × Dt)} {vs : List (Str × V)}, DenF K ι H ds vs → DenF K ι1 H1 ds vs
  | [], _, h => h
  | d :: ds, _, h => by
    obtain ⟨v, r, a, b, c⟩ := (show ∃ v r, _ = (d.1, v) :: r ∧ Den K ι H d.2 v ∧ DenF K ι H ds r from h)
    exact ⟨v, r, a, b.mono0 e, DenF.mono0 e c⟩
theorem KVs.mono0 (e : Ext0 ι H ι1 H1) : ∀ {ds : List (Dt × Dt)} {vs : List (Key × V)}, KVs K ι H ds vs → KVs K ι1 H1 ds vs
  | [], _, h => h
  | d :: ds, _, h => by
    obtain ⟨k, v, r, a, b, c, q⟩ := (show ∃ k v r, _ = (k, v) :: r ∧ dkey d.1 = some k ∧ Den K ι H d.2 v ∧ KVs K ι H ds r from h)
    exact ⟨k, v, r, a, b, c.mono0 e, KVs.mono0 e q⟩
theorem KTs.mono0 (e : Ext0 ι H ι1 H1) : ∀ {ds : List (Dt × Dt)} {vs : List (List Key × V)}, KTs K ι H ds vs → KTs K ι1 H1 ds vs
  | [], _, h => h
  | d :: ds, _, h => by
    obtain ⟨k, v, r, a, b, c, q⟩ := (show ∃ k v r, _ = (k, v) :: r ∧ dkeyT d.1 = some k ∧ Den K ι H d.2 v ∧ KTs K ι H ds r from h)
    exact ⟨k, v, r, a, b, c.mono0 e, KTs.mono0 e q⟩
theorem DenDic.mono0 (e : Ext0 ι H ι1 H1) {tk : Bool} {kvs : List (Dt × Dt)} {u : HO} (h : DenDic K ι H tk kvs u) : DenDic K ι1 H1 tk kvs u := by
  cases tk with
  | false => obtain ⟨l, a, b⟩ := h; exact ⟨l, a, b.mono0 e⟩
  | true => obtain ⟨l, a, b⟩ := h; exact ⟨l, a, b.mono0 e⟩
theorem DenC.mono0 (e : Ext0 ι H ι1 H1) {c : Ce} {o : HO} (h : DenC K ι H c o) : DenC K ι1 H1 c o := by
  cases c with
  | lst ds => obtain ⟨vs, a, b⟩ := h; exact ⟨vs, a, b.mono0 e⟩
  | dic lk tk kvs => obtain ⟨u, a, b⟩ := h; exact ⟨u, a.mono0 e, b⟩
  | ins c fs => obtain ⟨dx, fs', a, b⟩ := h; exact ⟨dx, fs', a, b.mono0 e⟩
  | set _ => exact h
theorem RepS.mono0 (e : Ext0 ι H ι1 H1) {ρ : Rho} {σ : L2.St} (r : RepS K ι H ρ σ) : RepS K ι1 H1 ρ σ := ⟨r.len, fun i d h => by
  obtain ⟨v, a, b⟩ := r.at_ i d h
  exact ⟨v, a, b.mono0 e⟩⟩
theorem Ext.get (a : Ext ι H ι1 H1) {n : Nat} {x : Addr} (h : ι[n]? = some x) : ι1[n]? = some x := a.to0.get h
theorem Ext.sqT (a : Ext ι H ι1 H1) {x : Addr} {vs : List V} (h : SqT K H x vs) : SqT K H1 x vs := a.to0.sqT h
theorem Ext.rol (a : Ext ι H ι1 H1) {x : Addr} {vs : List V} (h : ROL K H x vs) : ROL K H1 x vs := a.to0.rol h
theorem Den.mono (e : Ext ι H ι1 H1) {d : Dt} {v : V} (x : Den K ι H d v) : Den K ι1 H1 d v := x.mono0 e.to0
theorem Dens.mono (e : Ext ι H ι1 H1) {d : List Dt} {v : List V} (x : Dens K ι H d v) : Dens K ι1 H1 d v := x.mono0 e.to0
theorem DenF.mono (e : Ext ι H ι1 H1) {d : List (Str × Dt)} {v : List (Str × V)} (x : DenF K ι H d v) : DenF K ι1 H1 d v := x.mono0 e.to0
theorem DenDic.mono (e : Ext ι H ι1 H1) {tk : Bool} {kvs : List (Dt × Dt)} {u : HO} (x : DenDic K ι H tk kvs u) : DenDic K ι1 H1 tk kvs u := x.mono0 e.to0
theorem KVs.mono (e : Ext ι H ι1 H1) {ds : List (Dt × Dt)} {vs : List (Key × V)} (x : KVs K ι H ds vs) : KVs K ι1 H1 ds vs := x.mono0 e.to0
theorem KTs.mono (e : Ext ι H ι1 H1) {ds : List (Dt × Dt)} {vs : List (List Key × V)} (x : KTs K ι H ds vs) : KTs K ι1 H1 ds vs := x.mono0 e.to0
theorem DenC.mono (e : Ext ι H ι1 H1) {c : Ce} {o : HO} (x : DenC K ι H c o) : DenC K ι1 H1 c o := x.mono0 e.to0
theorem RepS.mono (e : Ext ι H ι1 H1) {ρ : Rho} {σ : L2.St} (x : RepS K ι H ρ σ) : RepS K ι1 H1 ρ σ := x.mono0 e.to0
theorem RepH.get (r : RepH K ι H h) {n : Nat} {c : Ce} (e : h[n]? = some c) : ∃ a o, ι[n]? = some a ∧ H a = some o ∧ DenC K ι H c o := by
  have hn := (List.getElem?_eq_some_iff.mp e).1
  have hl : n < ι.length := by rw [r.len]; exact hn
  obtain ⟨o, p, q⟩ := r.at_ n c ι[n] e (by simp [hl])
  exact ⟨ι[n], o, by simp [hl], p, q⟩
theorem RepH.of (r : RepH K ι H h) {n : Nat} {a : Addr} (e : ι[n]? = some a) : ∃ c o, h[n]? = some c ∧ H a = some o ∧ DenC K ι H c o := by
  have hn := (List.getElem?_eq_some_iff.mp e).1
  have hl : n < h.length := by rw [← r.len]; exact hn
  obtain ⟨o, p, q⟩ := r.at_ n h[n] a (by simp [hl]) e
  exact ⟨h[n], o, by simp [hl], p, q⟩
theorem RepH.mem (r : RepH K ι H h) {a : Addr} (m : a ∈ ι) : H a ≠ none := by
  obtain ⟨n, hn, e⟩ := List.mem_iff_getElem.mp m
  obtain ⟨c, o, _, q, _⟩ := r.of (n := n) (a := a) (by rw [← e]; simp [hn])
  rw [q]; simp
/-- something new that is not ours (a tuple, an exception's dict, an instance's dict) -/
theorem Ext.new {p : Addr} {o : HO} (hp : H p = none) : Ext ι H ι (upd H p o) :=
  ⟨⟨[], by simp, by simp⟩, fun a u e _ => by rw [upd_ne (ne_of_none e hp)]; exact e, fun a u e _ _ => by rw [upd_ne (ne_of_none e hp)]; exact e, fun a e => by
    by_cases q : a = p
    · subst q; exact .of hp
    · intro o h; exact e o (by rw [upd_ne q]; exact h)⟩
/-- what is no cell stays: the tables stay -/
theorem tabs_fix {T : List (Addr × Str)} (t : LamX.Tabs T H) (k : ∀ a o, H a = some o → Fix o → H1 a = some o) : LamX.Tabs T H1 := fun p hp => by
  obtain ⟨ps, h1, h2, h3⟩ := t p hp
  refine ⟨ps, k _ _ h1 (.inr rfl), h2, fun pos cv hc => ?_⟩
  obtain ⟨c, e1, e2⟩ := h3 pos cv hc
  exact ⟨c, e1, k _ _ e2 (.inl (by unfold LamX.CodeO; exact trivial))⟩
theorem RepH.ext (r : RepH K ι H h) (e : Ext0 ι H ι H1) (k : ∀ a ∈ ι, H1 a = H a) (f : ∀ a o, H a = some o → Fix o → H1 a = some o) : RepH K ι H1 h := ⟨tabs_fix r.tabs f, r.len, r.nd, fun n c a e1 e2 => by
  obtain ⟨o, p, q⟩ := r.at_ n c a e1 e2
  exact ⟨o, by rw [k a (List.mem_of_getElem? e2)]; exact p, q.mono0 e⟩⟩
theorem RepH.new (r : RepH K ι H h) {p : Addr} {o : HO} (hp : H p = none) : RepH K ι (upd H p o) h :=
  r.ext (Ext.new hp).to0 (fun a m => upd_ne fun z => r.mem m (z ▸ hp)) fun a u e _ => by rw [upd_ne (ne_of_none e hp)]; exact e
/-- a new cell -/
theorem Ext.alloc {p : Addr} {o : HO} (hp : H p = none) : Ext ι H (ι ++ [p]) (upd H p o) := by
  have e := Ext.new (ι := ι) (o := o) hp
  exact ⟨⟨[p], rfl, fun a m => by rw [List.mem_singleton.mp m]; exact .of hp⟩, e.stb, e.frm, e.dom⟩
theorem RepH.alloc (r : RepH K ι H h) {p : Addr} {o : HO} {c : Ce} (hp : H p = none) (d : DenC K (ι ++ [p]) (upd H p o) c o) : RepH K (ι ++ [p]) (upd H p o) (h ++ [c]) := by
  refine ⟨tabs_fix r.tabs fun a u e _ => by rw [upd_ne (ne_of_none e hp)]; exact e, by simp [r.len], ?_, fun n c' a e1 e2 => ?_⟩
  · rw [List.nodup_append]
    refine ⟨r.nd, by simp, fun a m b m' => ?_⟩
    rw [List.mem_singleton.mp m']
    exact fun z => r.mem m (z ▸ hp)
  · by_cases hn : n < h.length
    · rw [List.getElem?_append_left hn] at e1
      rw [List.getElem?_append_left (by rw [r.len]; exact hn)] at e2
      obtain ⟨u, p1, q⟩ := r.at_ n c' a e1 e2
      exact ⟨u, by rw [upd_ne (ne_of_none p1 hp)]; exact p1, q.mono (.alloc hp)⟩
    · have hn' : n = h.length := by
        have := (List.getElem?_eq_some_iff.mp e1).1
        simp at this; omega
      subst hn'
      rw [List.getElem?_append_right (Nat.le_refl _)] at e1
      rw [← r.len, List.getElem?_append_right (Nat.le_refl _)] at e2
      simp at e1 e2
      subst e1; subst e2
      exact ⟨o, upd_same, d⟩
/-- a thing that stood apart becomes ours -/
theorem RepH.adopt (r : RepH K ι H h) {p : Addr} {o : HO} {c : Ce} (hp : p ∉ ι) (ho : H p = some o) (d : DenC K (ι ++ [p]) H c o) : RepH K (ι ++ [p]) H (h ++ [c]) := by
  have e0 : Ext0 ι H (ι ++ [p]) H := ⟨⟨[p], rfl⟩, fun _ _ e _ => e⟩
  refine ⟨r.tabs, by simp [r.len], ?_, fun n c' a e1 e2 => ?_⟩
  · rw [List.nodup_append]
    refine ⟨r.nd, by simp, fun a m b m' => ?_⟩
    rw [List.mem_singleton.mp m']
    exact fun z => hp (z ▸ m)
  · by_cases hn : n < h.length
    · rw [List.getElem?_append_left hn] at e1
      rw [List.getElem?_append_left (by rw [r.len]; exact hn)] at e2
      obtain ⟨u, p1, q⟩ := r.at_ n c' a e1 e2
      exact ⟨u, p1, q.mono0 e0⟩
    · have hn' : n = h.length := by
        have := (List.getElem?_eq_some_iff.mp e1).1
        simp at this; omega
      subst hn'
      rw [List.getElem?_append_right (Nat.le_refl _)] at e1
      rw [← r.len, List.getElem?_append_right (Nat.le_refl _)] at e2
      simp at e1 e2
      subst e1; subst e2
      exact ⟨o, ho, d⟩
/-- what stands apart is written -/
theorem Ext0.apart {p : Addr} {o u : HO} (hp : H p = some u) (ns : ¬ Stb u) : Ext0 ι H ι (upd H p o) := ⟨⟨[], by simp⟩, fun a w e s => by
  have : a ≠ p := fun z => by subst z; rw [hp] at e; cases e; exact ns s
  rw [upd_ne this]; exact e⟩
theorem fix_ne {p : Addr} {o u : HO} (hu : H p = some u) (ns : ¬ Fix u) : ∀ a w, H a = some w → Fix w → upd H p o a = some w := fun a w e s => by
  have : a ≠ p := fun z => by subst z; rw [hu] at e; cases e; exact ns s
  rw [upd_ne this]; exact e
theorem RepH.apart (r : RepH K ι H h) {p : Addr} {o u : HO} (hp : p ∉ ι) (hu : H p = some u) (ns : ¬ Fix u) : RepH K ι (upd H p o) h := r.ext (.apart hu fun z => ns (.inl z)) (fun a m => upd_ne fun z => hp (z ▸ m)) (fix_ne hu ns)
/-- a cell is written -/
theorem Ext.write {n : Nat} {a : Addr} {o u : HO} (ha : ι[n]? = some a) (hu : H a = some u) (ns : ¬ Fix u) (no : isTbl o = false) : Ext ι H ι (upd H a o) := by
  refine ⟨⟨[], by simp, by simp⟩, fun b w e s => ?_, fun b w e nb _ => ?_, fun b e => ?_⟩
  · have : b ≠ a := fun z => by subst z; rw [hu] at e; cases e; exact ns (.inl s)
    rw [upd_ne this]; exact e
  · have : b ≠ a := fun z => nb (z ▸ List.mem_of_getElem? ha)
    rw [upd_ne this]; exact e
  · by_cases q : b = a
    · subst q
      have z := e o upd_same
      rw [no] at z; cases z
    · intro w h; exact e w (by rw [upd_ne q]; exact h)
theorem ix_inj : ∀ {l : List Addr} {n m : Nat} {a : Addr}, l.Nodup → l[n]? = some a → l[m]? = some a → n = m := fun {l n m a} nd e1 e2 => by
  obtain ⟨h1, q1⟩ := List.getElem?_eq_some_iff.mp e1
  obtain ⟨h2, q2⟩ := List.getElem?_eq_some_iff.mp e2
  exact (List.getElem_inj nd).mp (q1.trans q2.symm)
theorem RepH.write (r : RepH K ι H h) {n : Nat} {a : Addr} {o u : HO} {c : Ce} (ha : ι[n]? = some a) (hu : H a = some u) (ns : ¬ Fix u) (no : isTbl o = false) (d : DenC K ι (upd H a o) c o) : RepH K ι (upd H a o) (h.set n c) := by
  refine ⟨tabs_fix r.tabs (fix_ne hu ns), by simp [r.len], r.nd, fun m c' b e1 e2 => ?_⟩
  by_cases hm : n = m
  · subst hm
    rw [ha] at e2
    have e2' := Option.some.inj e2
    subst e2'
    have hl : n < h.length := by rw [← r.len]; exact (List.getElem?_eq_some_iff.mp ha).1
    rw [List.getElem?_set_self hl] at e1
    have e1' := Option.some.inj e1
    subst e1'
    exact ⟨o, upd_same, d⟩
  · rw [List.getElem?_set_ne hm] at e1
    obtain ⟨w, p, q⟩ := r.at_ m c' b e1 e2
    have nb : b ≠ a := fun z => hm (ix_inj r.nd ha (z ▸ e2))
    exact ⟨w, by rw [upd_ne nb]; exact p, q.mono (.write ha hu ns no)⟩
end

/-! ## outcomes and wishes -/
/-- R: how a clean result stands for a real one -/
abbrev Rl (α β : Type) := List Addr → Hp → α → β → Prop
section
variable (K : PySem.W.Frag) (W : WX) (σ : L2.St) (ι : List Addr) (H : Hp)
def OkX (c : Str) (fs : List (Str × Dt)) (h' : CH) (E : Value → Option Addr → Hp → Prop) : Prop :=
  ∀ ι' H' dx fs', Ext ι H ι' H' → RepH K ι' H' h' → H' dx = some (.xd fs') → DenF K ι' H' fs fs' → E (.ref (He.ga K c)) (some dx) H'
def OkG {α β : Type} (R : Rl α β) (o : Out α) (Q : β → Hp → Prop) : Prop := match o with
  | .ok a h' => ∀ ι' H' b, Ext ι H ι' H' → RepH K ι' H' h' → R ι' H' a b → Q b H'
  | .exc c fs h' => OkX K ι H c fs h' fun u d H' => W u d σ H'
  | .bad => False
end
section
variable {K : PySem.W.Frag} {W : WX} {σ : L2.St} {ι ι1 : List Addr} {H H1 : Hp} {α β γ δ : Type} {R : Rl α β} {S : Rl γ δ}
theorem OkX.ext {c : Str} {fs : List (Str × Dt)} {h' : CH} {E : Value → Option Addr → Hp → Prop} (e : Ext ι H ι1 H1) (k : OkX K ι H c fs h' E) : OkX K ι1 H1 c fs h' E := fun ι' H' dx fs' e' r x d => k ι' H' dx fs' (e.trans e') r x d
theorem OkG.ext {o : Out α} {Q : β → Hp → Prop} (e : Ext ι H ι1 H1) (k : OkG K W σ ι H R o Q) : OkG K W σ ι1 H1 R o Q := by
  cases o with
  | ok a h' => exact fun ι' H' b e' r x => k ι' H' b (e.trans e') r x
  | exc c fs h' => exact OkX.ext e (show OkX K ι H c fs h' fun u d H' => W u d σ H' from k)
  | bad => exact k
theorem OkG.mono {o : Out α} {Q Q' : β → Hp → Prop} (k : OkG K W σ ι H R o Q) (h : ∀ b H', Q b H' → Q' b H') : OkG K W σ ι H R o Q' := by
  cases o with
  | ok a h' => exact fun ι' H' b e' r x => h _ _ (k ι' H' b e' r x)
  | exc c fs h' => exact k
  | bad => exact k
/-- first o, then f of its result -/
theorem OkG.bind {o : Out α} {f : α → CH → Out γ} {Q : δ → Hp → Prop} (k : OkG K W σ ι H S (o.bind f) Q) :
    OkG K W σ ι H R o fun b H1 => ∃ ι1 a h1, Ext ι H ι1 H1 ∧ RepH K ι1 H1 h1 ∧ R ι1 H1 a b ∧ OkG K W σ ι1 H1 S (f a h1) Q := by
  cases o with
  | ok a h' => exact fun ι' H' b e' r x => ⟨ι', a, h', e', r, x, OkG.ext e' k⟩
  | exc c fs h' => exact k
  | bad => exact k
end
def Out.noX {α : Type} (o : Out α) : Out α := match o with
  | .ok a h => .ok a h
  | _ => .bad
/-- o runs at (ι2, H2), later than (ι, H); nothing is raised -/
theorem OkG.bindX {K : PySem.W.Frag} {W W' : WX} {σ σ' : L2.St} {ι ι2 : List Addr} {H H2 : Hp} {α β γ δ : Type} {R : Rl α β} {S : Rl γ δ} {o : Out α} {f : α → CH → Out γ} {Q : δ → Hp → Prop} (k : OkG K W σ ι H S (o.noX.bind f) Q) :
    OkG K W' σ' ι2 H2 R o fun b H4 => ∃ ι4 a h4, Ext ι2 H2 ι4 H4 ∧ RepH K ι4 H4 h4 ∧ R ι4 H4 a b ∧ OkG K W σ ι H S (f a h4) Q := by
  cases o with
  | ok a h' => exact fun ι' H' b e' r x => ⟨ι', a, h', e', r, x, k⟩
  | exc c fs h' => exact (show False from k).elim
  | bad => exact k
/-- a primitive's result: a value and the heap behind it, or nothing is said -/
abbrev Pr := Option (Dt × CH)
def OkP (K : PySem.W.Frag) (ι : List Addr) (H : Hp) (r : Pr) (Q : VK) : Prop := match r with
  | some (d, h') => ∀ ι' H' v, Ext ι H ι' H' → RepH K ι' H' h' → Den K ι' H' d v → Q v H'
  | none => False
def Out.pr (r : Pr) : Out Dt := match r with
  | some (d, h') => .ok d h'
  | none => .bad
theorem OkG.pr {K : PySem.W.Frag} {W : WX} {σ : L2.St} {ι : List Addr} {H : Hp} {r : Pr} {Q : VK} (k : OkG K W σ ι H (Den K) (Out.pr r) Q) : OkP K ι H r Q := by
  cases r with
  | none => exact k
  | some p => exact k
/-- a value, the heap as it stands -/
theorem OkP.here {K : PySem.W.Frag} {ι : List Addr} {H : Hp} {h : CH} {d : Dt} {v : V} {Q : VK} (k : OkP K ι H (some (d, h)) Q) (r : RepH K ι H h) (x : Den K ι H d v) : Q v H := k ι H v .refl r x
/-- a new tuple -/
theorem OkP.tup {K : PySem.W.Frag} {ι : List Addr} {H : Hp} {h : CH} {ds : List Dt} {vs : List V} {p : Addr} {Q : VK} (k : OkP K ι H (some (.tup ds, h)) Q) (r : RepH K ι H h) (x : Dens K ι H ds vs) (hp : H p = none) : Q (.ref p) (upd H p (.tup vs)) :=
  k ι _ _ (.new hp) (r.new hp) ⟨p, vs, rfl, SqT.of upd_same, x.mono (.new hp)⟩
/-- a new list -/
theorem OkP.lst {K : PySem.W.Frag} {ι : List Addr} {H : Hp} {h : CH} {ds : List Dt} {vs : List V} {p : Addr} {Q : VK} (k : OkP K ι H (some (.ref h.length, h ++ [.lst ds])) Q) (r : RepH K ι H h) (x : Dens K ι H ds vs) (hp : H p = none) : Q (.ref p) (upd H p (.lst vs)) :=
  k (ι ++ [p]) _ _ (.alloc hp) (r.alloc hp ⟨vs, rfl, x.mono (.alloc hp)⟩) ⟨p, rfl, by rw [← r.len]; simp⟩
theorem Dens.length {K : PySem.W.Frag} {ι : List Addr} {H : Hp} : ∀ {ds : List Dt} {vs : List V}, Dens K ι H ds vs → ds.length = vs.length
  | [], _, h => by
    have h : _ = [] := h
    rw [h]; rfl
  | d :: ds, _, h => by
    obtain ⟨v, r, a, b, c⟩ := (show ∃ v r, _ = v :: r ∧ Den K ι H d v ∧ Dens K ι H ds r from h)
    rw [a, List.length_cons, List.length_cons, Dens.length c]
theorem Dens.cons {K : PySem.W.Frag} {ι : List Addr} {H : Hp} {d : Dt} {v : V} {ds : List Dt} {vs : List V} (a : Den K ι H d v) (b : Dens K ι H ds vs) : Dens K ι H (d :: ds) (v :: vs) := ⟨v, vs, rfl, a, b⟩
theorem Dens.nil {K : PySem.W.Frag} {ι : List Addr} {H : Hp} : Dens K ι H [] [] := rfl
theorem Dens.uncons {K : PySem.W.Frag} {ι : List Addr} {H : Hp} {d : Dt} {ds : List Dt} {vs : List V} (a : Dens K ι H (d :: ds) vs) : ∃ v r, vs = v :: r ∧ Den K ι H d v ∧ Dens K ι H ds r := a
theorem Dens.unnil {K : PySem.W.Frag} {ι : List Addr} {H : Hp} {vs : List V} (a : Dens K ι H [] vs) : vs = [] := a
theorem Dens.app {K : PySem.W.Frag} {ι : List Addr} {H : Hp} : ∀ {ds es : List Dt} {vs ws : List V}, Dens K ι H ds vs → Dens K ι H es ws → Dens K ι H (ds ++ es) (vs ++ ws)
  | [], _, _, _, h, k => by
    have h : _ = [] := h
    rw [h]; exact k
  | d :: ds, _, _, _, h, k => by
    obtain ⟨v, r, a, b, c⟩ := (show ∃ v r, _ = v :: r ∧ Den K ι H d v ∧ Dens K ι H ds r from h)
    rw [a]
    exact ⟨v, _, rfl, b, c.app k⟩
theorem Dens.get {K : PySem.W.Frag} {ι : List Addr} {H : Hp} : ∀ {ds : List Dt} {vs : List V} {i : Nat} {d : Dt}, Dens K ι H ds vs → ds[i]? = some d → ∃ v, vs[i]? = some v ∧ Den K ι H d v
  | [], _, _, _, _, h => by simp at h
  | d :: ds, _, 0, e, h, q => by
    obtain ⟨v, r, a, b, c⟩ := (show ∃ v r, _ = v :: r ∧ Den K ι H d v ∧ Dens K ι H ds r from h)
    rw [a]
    simp at q
    subst q
    exact ⟨v, rfl, b⟩
  | d :: ds, _, i + 1, e, h, q => by
    obtain ⟨v, r, a, b, c⟩ := (show ∃ v r, _ = v :: r ∧ Den K ι H d v ∧ Dens K ι H ds r from h)
    rw [a]
    obtain ⟨w, p1, p2⟩ := c.get (i := i) (d := e) (by simpa using q)
    exact ⟨w, by simpa using p1, p2⟩
end Cl
namespace Cl
open PySem PySem.Spec PyProof.Rows L2

/-! ## readings -/
section
variable (K : PySem.W.Frag) (W : WX)
def tE (m : ME) : TE := fun σ H Q => ∃ ι ρ h, RepS K ι H ρ σ ∧ RepH K ι H h ∧ OkG K W σ ι H (Den K) (m ρ h) Q
def tAs (m : MA) : TA := fun σ H Q => ∃ ι ρ h, RepS K ι H ρ σ ∧ RepH K ι H h ∧ OkG K W σ ι H (Dens K) (m ρ h) Q
def tTs (m : MT) : TT := fun σ H Q => ∃ ι ρ h, RepS K ι H ρ σ ∧ RepH K ι H h ∧ OkG K W σ ι H (fun _ _ (a b : Bool) => a = b) (m ρ h) Q
end
theorem _root_.L2.PE.imp {X : Cx} {e : Expr} {t t' : TE} (h : PE X e t) (i : ∀ σ H Q, t' σ H Q → t σ H Q) : PE X e t' := ⟨fun pins s σ H Q I q => h.run pins s σ H Q I (i _ _ _ q)⟩
theorem _root_.L2.PT.imp {X : Cx} {e : Expr} {t t' : TT} (h : PT X e t) (i : ∀ σ H Q, t' σ H Q → t σ H Q) : PT X e t' := ⟨fun pins s σ H Q I q => h.run pins s σ H Q I (i _ _ _ q)⟩
theorem _root_.L2.PW.imp {X : Cx} {e : Expr} {t t' : TT} (h : PW X e t) (i : ∀ σ H Q, t' σ H Q → t σ H Q) : PW X e t' := ⟨fun wh pins s σ H Q I q => h.run wh pins s σ H Q I (i _ _ _ q)⟩
theorem _root_.L2.PA.imp {X : Cx} {e : List Expr} {t t' : TA} (h : PA X e t) (i : ∀ σ H Q, t' σ H Q → t σ H Q) : PA X e t' := ⟨fun pos pins s σ H Q I q => h.run pos pins s σ H Q I (i _ _ _ q)⟩
theorem _root_.L2.PK.imp {X : Cx} {e : List Keyword} {t t' : TA} (h : PK X e t) (i : ∀ σ H Q, t' σ H Q → t σ H Q) : PK X e t' := ⟨fun pos pins s σ H Q I q => h.run pos pins s σ H Q I (i _ _ _ q)⟩
def SimE (X : Cx) (m : ME) (e : Expr) : Prop := ∀ W, Takes X W → PE X e (tE X.K W m)
def SimA (X : Cx) (m : MA) (e : List Expr) : Prop := ∀ W, Takes X W → PA X e (tAs X.K W m)
def SimK (X : Cx) (m : MA) (e : List Keyword) : Prop := ∀ W, Takes X W → PK X e (tAs X.K W m)
def SimT (X : Cx) (m : MT) (e : Expr) : Prop := ∀ W, Takes X W → PT X e (tTs X.K W m)
def SimW (X : Cx) (m : MT) (e : Expr) : Prop := ∀ W, Takes X W → PW X e (tTs X.K W m)
section
variable {X : Cx} {K : PySem.W.Frag} {W : WX} {a b c e : Expr} {es : List Expr} {pos : Pos} {ma mb mc m : ME} {mt mu : MT} {as bs : MA}

/-! ## names and constants -/
def eVar (i : Nat) : ME := fun ρ h => match ρ[i]? with
  | some (some d) => .ok d h
  | _ => .bad
theorem s_var {i : Nat} (h : PE X e (tVar i)) : SimE X (eVar i) e := fun W tk => h.imp fun σ H Q q => by
  obtain ⟨ι, ρ, hh, rs, rh, ok⟩ := q
  unfold eVar at ok
  split at ok
  · rename_i d hd
    obtain ⟨v, hv, den⟩ := rs.at_ i d hd
    exact ⟨v, hv, ok ι H v .refl rh den⟩
  · exact ok.elim
def eC (d : Dt) : ME := fun _ h => .ok d h
theorem s_const {v : V} {d : Dt} (h : PE X e (tC v)) (den : ∀ ι H, Den X.K ι H d v) : SimE X (eC d) e := fun W tk => h.imp fun σ H Q q => by
  obtain ⟨ι, ρ, hh, rs, rh, ok⟩ := q
  exact ok ι H v .refl rh (den ι H)
theorem s_int {i : Int} {j : Nat} : SimE X (eC (.int i)) (.Constant (.int i) j pos) := s_const pe_int fun _ _ => rfl
theorem s_bl {i : Bool} {j : Nat} : SimE X (eC (.bl i)) (.Constant (.bool i) j pos) := s_const pe_bl fun _ _ => rfl
theorem s_non {j : Nat} : SimE X (eC .non) (.Constant .none j pos) := s_const pe_non fun _ _ => rfl
theorem s_str {i : Str} {j : Nat} : SimE X (eC (.str i)) (.Constant (.str i) j pos) := s_const pe_str fun _ _ => rfl

/-! ## two-place things -/
/-- a primitive of two values as HandS' R2 -/
def rD (K : PySem.W.Frag) (f : Dt → Dt → CH → Pr) : R2 := fun x y H Q => ∃ ι h d e, RepH K ι H h ∧ Den K ι H d x ∧ Den K ι H e y ∧ OkP K ι H (f d e h) Q
def eBin (f : Dt → Dt → CH → Pr) (ma mb : ME) : ME := fun ρ h => (ma ρ h).bind fun x h1 => (mb ρ h1).bind fun y h2 => .pr (f x y h2)
theorem eBin_imp {f : Dt → Dt → CH → Pr} {σ : L2.St} {H : Hp} {Q : VK} (q : tE K W (eBin f ma mb) σ H Q) : tOp (rD K f) (tE K W ma) (tE K W mb) σ H Q := by
  obtain ⟨ι, ρ, h, rs, rh, ok⟩ := q
  refine ⟨ι, ρ, h, rs, rh, (OkG.bind (R := Den K) ok).mono fun x H1 ⟨ι1, d, h1, e1, r1, dx, ok1⟩ => ?_⟩
  refine ⟨ι1, ρ, h1, rs.mono e1, r1, (OkG.bind (R := Den K) ok1).mono fun y H2 ⟨ι2, d2, h2, e2, r2, dy, ok2⟩ => ?_⟩
  exact ⟨ι2, h2, d, d2, r2, dx.mono e2, dy, ok2.pr⟩
theorem s_bin {op : Operator} {f : Dt → Dt → CH → Pr} (ho : OpR X (binaryOp op) (rD X.K f)) (ha : SimE X ma a) (hb : SimE X mb b) : SimE X (eBin f ma mb) (.BinOp a op b pos) := fun W tk =>
  (pe_op ho (ha W tk) (hb W tk)).imp fun _ _ _ q => eBin_imp q
theorem s_cmp {op : CmpOp} {f : Dt → Dt → CH → Pr} (ho : OpR X (compareOp op) (rD X.K f)) (ha : SimE X ma a) (hb : SimE X mb b) (hm : behindInMarks op b = false) : SimE X (eBin f ma mb) (.Compare a [op] [b] pos) := fun W tk =>
  (pe_cmpR ho (ha W tk) (hb W tk) hm).imp fun _ _ _ q => eBin_imp q
theorem s_ix {f : Dt → Dt → CH → Pr} (ho : IxR X (rD X.K f)) (ha : SimE X ma a) (hb : SimE X mb b) (hs : PlainIx b) : SimE X (eBin f ma mb) (.Subscript a b pos) := fun W tk =>
  (pe_ix ho (ha W tk) (hb W tk) hs).imp fun _ _ _ q => eBin_imp q
/-- a < b < c -/
def eChain (f g : Dt → Dt → CH → Pr) (ma mb mc : ME) : ME := fun ρ h => (ma ρ h).bind fun x h1 => (mb ρ h1).bind fun y h2 => (Out.pr (f x y h2)).bind fun z h3 => match z with
  | .bl true => (mc ρ h3).bind fun w h4 => .pr (g y w h4)
  | .bl false => .ok (.bl false) h3
  | _ => .bad
theorem eChain_imp {f g : Dt → Dt → CH → Pr} {σ : L2.St} {H : Hp} {Q : VK} (q : tE K W (eChain f g ma mb mc) σ H Q) : tChain (rD K f) (rD K g) (tE K W ma) (tE K W mb) (tE K W mc) σ H Q := by
  obtain ⟨ι, ρ, h, rs, rh, ok⟩ := q
  refine ⟨ι, ρ, h, rs, rh, (OkG.bind (R := Den K) ok).mono fun x H1 ⟨ι1, d, h1, e1, r1, dx, ok1⟩ => ?_⟩
  refine ⟨ι1, ρ, h1, rs.mono e1, r1, (OkG.bind (R := Den K) ok1).mono fun y H2 ⟨ι2, d2, h2, e2, r2, dy, ok2⟩ => ?_⟩
  refine ⟨ι2, h2, d, d2, r2, dx.mono e2, dy, ((OkG.bind (R := Den K) ok2).mono (fun z H3 ⟨ι3, d3, h3, e3, r3, dz, ok3⟩ => ?_)).pr⟩
  cases d3 with
  | bl k =>
    have dz : z = .bl k := dz
    refine ⟨k, dz, ?_⟩
    cases k with
    | false =>
      rw [if_neg Bool.false_ne_true]
      exact ok3 ι3 H3 (.bl false) .refl r3 rfl
    | true =>
      rw [if_pos rfl]
      refine ⟨ι3, ρ, h3, rs.mono ((e1.trans e2).trans e3), r3, (OkG.bind (R := Den K) ok3).mono fun w H4 ⟨ι4, d4, h4, e4, r4, dw, ok4⟩ => ?_⟩
      exact ⟨ι4, h4, d2, d4, r4, dy.mono (e3.trans e4), dw, ok4.pr⟩
  | _ => exact ok3.elim
theorem s_chain {op op' : CmpOp} {f g : Dt → Dt → CH → Pr} (ho : OpR X (compareOp op) (rD X.K f)) (ho' : OpR X (compareOp op') (rD X.K g)) (ha : SimE X ma a) (hb : SimE X mb b) (hc : SimE X mc c) (hm : lastMarks [op, op'] [b, c] = false := by with_unfolding_all rfl) :
    SimE X (eChain f g ma mb mc) (.Compare a [op, op'] [b, c] pos) := fun W tk => (pe_chain ho ho' (ha W tk) (hb W tk) (hc W tk) hm).imp fun _ _ _ q => eChain_imp q
/-- one-place -/
def rU1 (K : PySem.W.Frag) (f : Dt → CH → Pr) : V → Hp → VK → Prop := fun x H Q => ∃ ι h d, RepH K ι H h ∧ Den K ι H d x ∧ OkP K ι H (f d h) Q
def eUn (f : Dt → CH → Pr) (ma : ME) : ME := fun ρ h => (ma ρ h).bind fun x h1 => .pr (f x h1)
theorem eUn_imp {f : Dt → CH → Pr} {σ : L2.St} {H : Hp} {Q : VK} (q : tE K W (eUn f ma) σ H Q) : tUn (rU1 K f) (tE K W ma) σ H Q := by
  obtain ⟨ι, ρ, h, rs, rh, ok⟩ := q
  refine ⟨ι, ρ, h, rs, rh, (OkG.bind (R := Den K) ok).mono fun x H1 ⟨ι1, d, h1, e1, r1, dx, ok1⟩ => ?_⟩
  exact ⟨ι1, h1, d, r1, dx, ok1.pr⟩
theorem s_un {op : UnaryOp} {f : Dt → CH → Pr} (ho : UnR X (unaryOp op) (rU1 X.K f)) (ha : SimE X ma a) : SimE X (eUn f ma) (.UnaryOp op a pos) := fun W tk => (pe_un ho (ha W tk)).imp fun _ _ _ q => eUn_imp q

/-! ## tests -/
def tru : Dt → CH → Option Bool
  | .non, _ => some false
  | .bl b, _ => some b
  | .int i, _ => some (i != 0)
  | .str s, _ => if s.length ≤ sizeLine then some ((s.length : Int) != 0) else none
  | .tup ds, _ => some (!ds.isEmpty)
  | .cl ds, _ => some (!ds.isEmpty)
  | .ref n, h => match h[n]? with
    | some (.lst ds) => some (!ds.isEmpty)
    | _ => none
  | _, _ => none
def Out.opt {α : Type} (r : Option α) (h : CH) : Out α := match r with
  | some a => .ok a h
  | none => .bad
def mTru (m : ME) : MT := fun ρ h => (m ρ h).bind fun d h1 => .opt (tru d h1) h1
def asBl : Dt → Option Bool
  | .bl b => some b
  | _ => none
def mBl (m : ME) : MT := fun ρ h => (m ρ h).bind fun d h1 => .opt (asBl d) h1
theorem dens_empty {K : PySem.W.Frag} {ι : List Addr} {H : Hp} {ds : List Dt} {vs : List V} (d : Dens K ι H ds vs) : (!ds.isEmpty) = !vs.isEmpty := by
  cases ds with
  | nil => have d : vs = [] := d; rw [d]; rfl
  | cons x xs => obtain ⟨v, r, e, _⟩ := d; rw [e]; rfl
theorem tru_ok2 {K : PySem.W.Frag} {ι : List Addr} {H : Hp} {h : CH} {d : Dt} {v : V} {b : Bool} (r : RepH K ι H h) (x : Den K ι H d v) (e : tru d h = some b) : ∃ k, TruV K v H k ∧ k = b := by
  cases d with
  | non => have x : v = .non := x; subst x; cases e; exact ⟨_, rfl, rfl⟩
  | bl q => have x : v = .bl q := x; subst x; cases e; exact ⟨_, rfl, rfl⟩
  | int q => have x : v = .int q := x; subst x; cases e; exact ⟨_, rfl, rfl⟩
  | str q =>
    have x : v = .str q := x; subst x
    have e : (if q.length ≤ sizeLine then some ((q.length : Int) != 0) else none) = some b := e
    split at e
    · rename_i hl
      cases e
      exact ⟨_, ⟨hl, rfl⟩, rfl⟩
    · cases e
  | tup ds =>
    obtain ⟨a, vs, rfl, s, q⟩ := x
    cases e
    exact ⟨_, .inr (.inl ⟨vs, s, rfl⟩), (dens_empty q).symm⟩
  | cl ds =>
    obtain ⟨a, vs, rfl, s, q⟩ := x
    cases e
    exact ⟨_, .inl ⟨vs, s.sq, rfl⟩, (dens_empty q).symm⟩
  | ref n =>
    obtain ⟨a, rfl, hn⟩ := x
    obtain ⟨c, o, hc, ho, dc⟩ := r.of hn
    have e : (match h[n]? with
      | some (.lst ds) => some (!ds.isEmpty)
      | _ => none) = some b := e
    rw [hc] at e
    cases c with
    | lst ds =>
      cases e
      obtain ⟨vs, rfl, q⟩ := dc
      exact ⟨_, .inl ⟨vs, SqL.of ho, rfl⟩, (dens_empty q).symm⟩
    | _ => cases e
  | _ => cases e
theorem s_truth (ha : SimE X m a) (he : ∀ whole, isTrue a X.env whole = (do let v ← whole; standAt a.pos; holding [v] (truthy v))) : SimT X (mTru m) a := fun W tk => (pt_truth (ha W tk) he).imp fun σ H Q q => by
  obtain ⟨ι, ρ, h, rs, rh, ok⟩ := q
  refine ⟨ι, ρ, h, rs, rh, (OkG.bind (R := Den X.K) ok).mono fun x H1 ⟨ι1, d, h1, e1, r1, dx, ok1⟩ => ?_⟩
  cases ht : tru d h1 with
  | none => rw [ht] at ok1; exact ok1.elim
  | some b =>
    rw [ht] at ok1
    obtain ⟨k, t, ek⟩ := tru_ok2 r1 dx ht
    exact ⟨k, t, ok1 ι1 H1 k .refl r1 ek.symm⟩
theorem mBl_imp {σ : L2.St} {H : Hp} {Q : Bool → Hp → Prop} (q : tTs K W (mBl m) σ H Q) : tE K W m σ H fun x H1 => ∃ c, x = .bl c ∧ Q c H1 := by
  obtain ⟨ι, ρ, h, rs, rh, ok⟩ := q
  refine ⟨ι, ρ, h, rs, rh, (OkG.bind (R := Den K) ok).mono fun x H1 ⟨ι1, d, h1, e1, r1, dx, ok1⟩ => ?_⟩
  cases d with
  | bl k =>
    have dx : x = .bl k := dx
    exact ⟨k, dx, ok1 ι1 H1 k .refl r1 rfl⟩
  | _ => exact ok1.elim
/-- an expression that gives a bool, as a test -/
theorem s_val (ha : SimE X m a) (he : ∀ whole, isTrue a X.env whole = (do let v ← whole; standAt a.pos; holding [v] (truthy v))) : SimT X (mBl m) a := fun W tk => (pt_val (ha W tk) he).imp fun _ _ _ q => mBl_imp q
theorem s_cmpT {op : CmpOp} {f : Dt → Dt → CH → Pr} (ho : OpR X (compareOp op) (rD X.K f)) (ha : SimE X ma a) (hb : SimE X mb b) (hm : behindInMarks op b = false) : SimT X (mBl (eBin f ma mb)) (.Compare a [op] [b] pos) := fun W tk =>
  (pt_cmpR ho (ha W tk) (hb W tk) hm).imp fun σ H Q q => by
    obtain ⟨ι, ρ, h, rs, rh, ok⟩ := mBl_imp q
    exact eBin_imp ⟨ι, ρ, h, rs, rh, ok⟩
theorem s_chainT {op op' : CmpOp} {f g : Dt → Dt → CH → Pr} (ho : OpR X (compareOp op) (rD X.K f)) (ho' : OpR X (compareOp op') (rD X.K g)) (ha : SimE X ma a) (hb : SimE X mb b) (hc : SimE X mc c) (hm : lastMarks [op, op'] [b, c] = false := by with_unfolding_all rfl) :
    SimT X (mBl (eChain f g ma mb mc)) (.Compare a [op, op'] [b, c] pos) := fun W tk => (pt_chain ho ho' (ha W tk) (hb W tk) (hc W tk) hm).imp fun σ H Q q => by
    obtain ⟨ι, ρ, h, rs, rh, ok⟩ := mBl_imp q
    exact eChain_imp ⟨ι, ρ, h, rs, rh, ok⟩
def mNot (m : MT) : MT := fun ρ h => (m ρ h).bind fun b h1 => .ok (!b) h1
theorem s_notT (ha : SimT X mt a) : SimT X (mNot mt) (.UnaryOp .Not a pos) := fun W tk => (pt_not (ha W tk)).imp fun σ H Q q => by
  obtain ⟨ι, ρ, h, rs, rh, ok⟩ := q
  exact ⟨ι, ρ, h, rs, rh, (OkG.bind (R := fun _ _ (a b : Bool) => a = b) ok).mono fun x H1 ⟨ι1, d, h1, e1, r1, dx, ok1⟩ => ok1 ι1 H1 _ .refl r1 (by rw [dx])⟩
def mAnd (m n : MT) : MT := fun ρ h => (m ρ h).bind fun b h1 => if b = true then n ρ h1 else .ok false h1
def mOr (m n : MT) : MT := fun ρ h => (m ρ h).bind fun b h1 => if b = true then .ok true h1 else n ρ h1
theorem s_and1 (ha : SimT X mt a) : SimW X mt (.BoolOp .And [a] pos) := fun W tk => pw_and1 (ha W tk)
theorem s_or1 (ha : SimT X mt a) : SimW X mt (.BoolOp .Or [a] pos) := fun W tk => pw_or1 (ha W tk)
theorem s_andW (ha : SimT X mt a) (hb : SimW X mu (.BoolOp .And (b :: es) pos)) : SimW X (mAnd mt mu) (.BoolOp .And (a :: b :: es) pos) := fun W tk => (pw_and (ha W tk) (hb W tk)).imp fun σ H Q q => by
  obtain ⟨ι, ρ, h, rs, rh, ok⟩ := q
  refine ⟨ι, ρ, h, rs, rh, (OkG.bind (R := fun _ _ (a b : Bool) => a = b) ok).mono fun x H1 ⟨ι1, d, h1, e1, r1, dx, ok1⟩ => ?_⟩
  subst dx
  cases d with
  | true => rw [if_pos rfl] at ok1 ⊢; exact ⟨ι1, ρ, h1, rs.mono e1, r1, ok1⟩
  | false => rw [if_neg Bool.false_ne_true] at ok1 ⊢; exact ok1 ι1 H1 _ .refl r1 rfl
theorem s_orW (ha : SimT X mt a) (hb : SimW X mu (.BoolOp .Or (b :: es) pos)) : SimW X (mOr mt mu) (.BoolOp .Or (a :: b :: es) pos) := fun W tk => (pw_or (ha W tk) (hb W tk)).imp fun σ H Q q => by
  obtain ⟨ι, ρ, h, rs, rh, ok⟩ := q
  refine ⟨ι, ρ, h, rs, rh, (OkG.bind (R := fun _ _ (a b : Bool) => a = b) ok).mono fun x H1 ⟨ι1, d, h1, e1, r1, dx, ok1⟩ => ?_⟩
  subst dx
  cases d with
  | true => rw [if_pos rfl] at ok1 ⊢; exact ok1 ι1 H1 _ .refl r1 rfl
  | false => rw [if_neg Bool.false_ne_true] at ok1 ⊢; exact ⟨ι1, ρ, h1, rs.mono e1, r1, ok1⟩
theorem s_pw (h : SimW X mt a) : SimT X mt a := fun W tk => PW.pt (h W tk)
/-- and, or, not as values (all but the last a bool) -/
def eAnd (m n : ME) : ME := fun ρ h => (mBl m ρ h).bind fun b h1 => if b = true then n ρ h1 else .ok (.bl false) h1
def eOr (m n : ME) : ME := fun ρ h => (mBl m ρ h).bind fun b h1 => if b = true then .ok (.bl true) h1 else n ρ h1
theorem s_one {op : BoolOp} (ha : SimE X ma a) : SimE X ma (.BoolOp op [a] pos) := fun W tk => pe_one (ha W tk)
theorem blBind {σ : L2.St} {H : Hp} {Q : VK} {f : Bool → CH → Out Dt} {ι : List Addr} {ρ : Rho} {h : CH} (rs : RepS K ι H ρ σ) (rh : RepH K ι H h) (ok : OkG K W σ ι H (Den K) ((mBl m ρ h).bind f) Q) :
    tE K W m σ H fun x H1 => ∃ c, x = .bl c ∧ ∃ ι1 h1, Ext ι H ι1 H1 ∧ RepH K ι1 H1 h1 ∧ OkG K W σ ι1 H1 (Den K) (f c h1) Q :=
  mBl_imp (Q := fun c H1 => ∃ ι1 h1, Ext ι H ι1 H1 ∧ RepH K ι1 H1 h1 ∧ OkG K W σ ι1 H1 (Den K) (f c h1) Q) ⟨ι, ρ, h, rs, rh, (OkG.bind (R := fun _ _ (a b : Bool) => a = b) ok).mono fun x H1 ⟨ι1, d, h1, e1, r1, dx, ok1⟩ => ⟨ι1, h1, e1, r1, dx ▸ ok1⟩⟩
theorem s_andE (ha : SimE X ma a) (hb : SimE X mb (.BoolOp .And (b :: es) pos)) : SimE X (eAnd ma mb) (.BoolOp .And (a :: b :: es) pos) := fun W tk => (pe_and (ha W tk) (hb W tk)).imp fun σ H Q q => by
  obtain ⟨ι, ρ, h, rs, rh, ok⟩ := q
  obtain ⟨ι', ρ', h', rs', rh', ok'⟩ := blBind rs rh ok
  refine ⟨ι', ρ', h', rs', rh', ok'.mono fun x H1 ⟨c, ec, ι1, h1, e1, r1, ok1⟩ => ⟨c, ec, ?_⟩⟩
  cases c with
  | true => rw [if_pos rfl] at ok1 ⊢; exact ⟨ι1, ρ, h1, rs.mono e1, r1, ok1⟩
  | false => rw [if_neg Bool.false_ne_true] at ok1 ⊢; exact ok1 ι1 H1 _ .refl r1 rfl
theorem s_orE (ha : SimE X ma a) (hb : SimE X mb (.BoolOp .Or (b :: es) pos)) : SimE X (eOr ma mb) (.BoolOp .Or (a :: b :: es) pos) := fun W tk => (pe_or (ha W tk) (hb W tk)).imp fun σ H Q q => by
  obtain ⟨ι, ρ, h, rs, rh, ok⟩ := q
  obtain ⟨ι', ρ', h', rs', rh', ok'⟩ := blBind rs rh ok
  refine ⟨ι', ρ', h', rs', rh', ok'.mono fun x H1 ⟨c, ec, ι1, h1, e1, r1, ok1⟩ => ⟨c, ec, ?_⟩⟩
  cases c with
  | true => rw [if_pos rfl] at ok1 ⊢; exact ok1 ι1 H1 _ .refl r1 rfl
  | false => rw [if_neg Bool.false_ne_true] at ok1 ⊢; exact ⟨ι1, ρ, h1, rs.mono e1, r1, ok1⟩
def eNot (m : ME) : ME := fun ρ h => (mBl m ρ h).bind fun b h1 => .ok (.bl (!b)) h1
theorem s_notE (ha : SimE X ma a) : SimE X (eNot ma) (.UnaryOp .Not a pos) := fun W tk => (pe_not (ha W tk)).imp fun σ H Q q => by
  obtain ⟨ι, ρ, h, rs, rh, ok⟩ := q
  obtain ⟨ι', ρ', h', rs', rh', ok'⟩ := blBind rs rh ok
  exact ⟨ι', ρ', h', rs', rh', ok'.mono fun x H1 ⟨c, ec, ι1, h1, e1, r1, ok1⟩ => ⟨c, ec, ok1 ι1 H1 _ .refl r1 rfl⟩⟩
def eIf (t : MT) (m n : ME) : ME := fun ρ h => (t ρ h).bind fun b h1 => if b = true then m ρ h1 else n ρ h1
theorem s_if (hc : SimT X mt c) (ha : SimE X ma a) (hb : SimE X mb b) : SimE X (eIf mt ma mb) (.IfExp c a b pos) := fun W tk => (pe_ifExp (hc W tk) (ha W tk) (hb W tk)).imp fun σ H Q q => by
  obtain ⟨ι, ρ, h, rs, rh, ok⟩ := q
  refine ⟨ι, ρ, h, rs, rh, (OkG.bind (R := fun _ _ (a b : Bool) => a = b) ok).mono fun x H1 ⟨ι1, d, h1, e1, r1, dx, ok1⟩ => ?_⟩
  subst dx
  cases d with
  | true => rw [if_pos rfl] at ok1 ⊢; exact ⟨ι1, ρ, h1, rs.mono e1, r1, ok1⟩
  | false => rw [if_neg Bool.false_ne_true] at ok1 ⊢; exact ⟨ι1, ρ, h1, rs.mono e1, r1, ok1⟩

/-! ## argument lists, displays -/
def aNil : MA := fun _ h => .ok [] h
def aCons (m : ME) (r : MA) : MA := fun ρ h => (m ρ h).bind fun d h1 => (r ρ h1).bind fun ds h2 => .ok (d :: ds) h2
theorem s_nil : SimA X aNil [] := fun W tk => pa_nil.imp fun σ H Q q => by
  obtain ⟨ι, ρ, h, rs, rh, ok⟩ := q
  exact ok ι H [] .refl rh rfl
theorem aCons_imp {σ : L2.St} {H : Hp} {Q : List V → Hp → Prop} (q : tAs K W (aCons ma as) σ H Q) : tCons (tE K W ma) (tAs K W as) σ H Q := by
  obtain ⟨ι, ρ, h, rs, rh, ok⟩ := q
  refine ⟨ι, ρ, h, rs, rh, (OkG.bind (R := Den K) ok).mono fun x H1 ⟨ι1, d, h1, e1, r1, dx, ok1⟩ => ?_⟩
  refine ⟨ι1, ρ, h1, rs.mono e1, r1, (OkG.bind (R := Dens K) ok1).mono fun xs H2 ⟨ι2, ds, h2, e2, r2, dxs, ok2⟩ => ?_⟩
  exact ok2 ι2 H2 _ .refl r2 ⟨x, xs, rfl, dx.mono e2, dxs⟩
theorem s_cons (ha : SimE X ma a) (hr : SimA X as es) (hs : starEach (a :: es) X.env = (false, eval a X.env) :: starEach es X.env := by rfl) : SimA X (aCons ma as) (a :: es) := fun W tk => (pa_cons (ha W tk) (hr W tk) hs).imp fun _ _ _ q => aCons_imp q
theorem s_knil : SimK X aNil [] := fun W tk => pk_nil.imp fun σ H Q q => by
  obtain ⟨ι, ρ, h, rs, rh, ok⟩ := q
  exact ok ι H [] .refl rh rfl
theorem s_kcons {nm : Option Str} {kpos : Pos} {kws : List Keyword} (ha : SimE X ma a) (hr : SimK X as kws) : SimK X (aCons ma as) (⟨nm, a, kpos⟩ :: kws) := fun W tk => (pk_cons (ha W tk) (hr W tk)).imp fun _ _ _ q => aCons_imp q
def eTup (m : MA) : ME := fun ρ h => (m ρ h).bind fun ds h1 => if ds.length ≤ sizeLine then .ok (.tup ds) h1 else .bad
theorem s_tup {x1 : Nat} (h : SimA X as es) : SimE X (eTup as) (.Tuple es x1 pos) := fun W tk => (pe_tup (h W tk)).imp fun σ H Q q => by
  obtain ⟨ι, ρ, h, rs, rh, ok⟩ := q
  refine ⟨ι, ρ, h, rs, rh, (OkG.bind (R := Dens X.K) ok).mono fun xs H1 ⟨ι1, ds, h1, e1, r1, dx, ok1⟩ => ?_⟩
  split at ok1
  · rename_i hl
    exact ⟨by rw [← dx.length]; exact hl, fun p hp => OkP.tup (h := h1) (ds := ds) (show OkP X.K ι1 H1 (some (.tup ds, h1)) Q from ok1) r1 dx hp⟩
  · exact ok1.elim
def eLst (m : MA) : ME := fun ρ h => (m ρ h).bind fun ds h1 => if ds.length ≤ sizeLine then .ok (.ref h1.length) (h1 ++ [.lst ds]) else .bad
theorem s_lst (h : SimA X as es) : SimE X (eLst as) (.List es pos) := fun W tk => (pe_lst (h W tk)).imp fun σ H Q q => by
  obtain ⟨ι, ρ, h, rs, rh, ok⟩ := q
  refine ⟨ι, ρ, h, rs, rh, (OkG.bind (R := Dens X.K) ok).mono fun xs H1 ⟨ι1, ds, h1, e1, r1, dx, ok1⟩ => ?_⟩
  split at ok1
  · rename_i hl
    exact ⟨by rw [← dx.length]; exact hl, fun p hp => OkP.lst (h := h1) (ds := ds) (show OkP X.K ι1 H1 (some (.ref h1.length, h1 ++ [.lst ds])) Q from ok1) r1 dx hp⟩
  · exact ok1.elim

/-! ## built-in functions and methods, by values -/
def rDs (K : PySem.W.Frag) (f : List Dt → CH → Pr) : List V → Hp → VK → Prop := fun xs H Q => ∃ ι h ds, RepH K ι H h ∧ Dens K ι H ds xs ∧ OkP K ι H (f ds h) Q
def eBlt (f : List Dt → CH → Pr) (m : MA) : ME := fun ρ h => (m ρ h).bind fun ds h1 => .pr (f ds h1)
theorem eBlt_imp {f : List Dt → CH → Pr} {σ : L2.St} {H : Hp} {Q : VK} (q : tE K W (eBlt f as) σ H Q) : tCB (rDs K f) (tAs K W as) σ H Q := by
  obtain ⟨ι, ρ, h, rs, rh, ok⟩ := q
  exact ⟨ι, ρ, h, rs, rh, (OkG.bind (R := Dens K) ok).mono fun xs H1 ⟨ι1, ds, h1, e1, r1, dx, ok1⟩ => ⟨ι1, h1, ds, r1, dx, ok1.pr⟩⟩
theorem s_callB {x : Str} {id : String} {p : Pos} {f : List Dt → CH → Pr} (hc : CallR X (.builtin id) (rDs X.K f)) (hg : Gl X x) (hm : X.mg x = none) (hv : bootBuiltins x = some (.builtin id)) (ha : SimA X as (e :: es)) (hn : x ≠ "__name__" := by decide) (hdb : (x == ("__debug__" : Str)) = false := by decide)
    (he : starEach (e :: es) X.env = (false, eval e X.env) :: starEach es X.env := by rfl) (hpl : (backTo pos (starEach es X.env)).any (·.1) = false := by rfl) : SimE X (eBlt f as) (.Call (.Name x p) (e :: es) [] pos) := fun W tk =>
  (pe_callB hc hg hm hv (ha W tk) hn hdb he hpl).imp fun _ _ _ q => eBlt_imp q
theorem s_callTy {x : Str} {T : String} {p : Pos} {f : List Dt → CH → Pr} (hc : CallR X (.type T) (rDs X.K f)) (hg : Gl X x) (hm : X.mg x = none) (hv : bootBuiltins x = some (.type T)) (ha : SimA X as (e :: es)) (hn : x ≠ "__name__" := by decide) (hdb : (x == ("__debug__" : Str)) = false := by decide)
    (he : starEach (e :: es) X.env = (false, eval e X.env) :: starEach es X.env := by rfl) (hpl : (backTo pos (starEach es X.env)).any (·.1) = false := by rfl) : SimE X (eBlt f as) (.Call (.Name x p) (e :: es) [] pos) := fun W tk =>
  (pe_callTy hc hg hm hv (ha W tk) hn hdb he hpl).imp fun _ _ _ q => eBlt_imp q
/-- a method: the receiver has to be of the built-in type T -/
def isTy (T : String) : Dt → CH → Bool
  | .str _, _ => T == "str"
  | .cl _, _ => T == "list"
  | .ref n, h => match h[n]? with
    | some (.lst _) => T == "list"
    | some (.dic false _ _) => T == "dict"
    | _ => false
  | _, _ => false
def rM (K : PySem.W.Frag) (f : Dt → List Dt → CH → Pr) : V → List V → Hp → VK → Prop := fun x xs H Q => ∃ ι h d ds, RepH K ι H h ∧ Den K ι H d x ∧ Dens K ι H ds xs ∧ OkP K ι H (f d ds h) Q
def eMth (T : String) (f : Dt → List Dt → CH → Pr) (o : ME) (m : MA) : ME := fun ρ h => (o ρ h).bind fun d h1 => if isTy T d h1 = true then (m ρ h1).bind fun ds h2 => .pr (f d ds h2) else .bad
theorem isTy_ok {K : PySem.W.Frag} {ι : List Addr} {H : Hp} {h : CH} {d : Dt} {v : V} {T : String} (r : RepH K ι H h) (x : Den K ι H d v) (e : isTy T d h = true) : tyV K T v H := by
  cases d with
  | str z => have x : v = .str z := x; subst x; exact eq_of_beq e
  | cl ds =>
    obtain ⟨a, vs, rfl, s, _⟩ := x
    exact .inl ⟨eq_of_beq e, vs, s.sq⟩
  | ref n =>
    obtain ⟨a, rfl, hn⟩ := x
    obtain ⟨c, o, hc, ho, dc⟩ := r.of hn
    have e : (match h[n]? with
      | some (.lst _) => T == "list"
      | some (.dic false _ _) => T == "dict"
      | _ => false) = true := e
    rw [hc] at e
    cases c with
    | lst ds =>
      obtain ⟨vs, rfl, _⟩ := dc
      exact .inl ⟨eq_of_beq e, vs, SqL.of ho⟩
    | dic lk tk kvs =>
      cases lk with
      | true => cases e
      | false =>
        obtain ⟨u, dd, _, q⟩ := dc
        have q := q rfl
        subst q
        cases tk with
        | false => obtain ⟨l, rfl, _⟩ := dd; exact .inr (.inr (.inl ⟨eq_of_beq e, .inl ⟨l, ho⟩⟩))
        | true => obtain ⟨l, rfl, _⟩ := dd; exact .inr (.inr (.inl ⟨eq_of_beq e, .inr ⟨l, ho⟩⟩))
    | _ => cases e
  | _ => cases e
theorem eMth_imp {T : String} {f : Dt → List Dt → CH → Pr} {σ : L2.St} {H : Hp} {Q : VK} (q : tE K W (eMth T f ma as) σ H Q) : tBM K T (rM K f) (tE K W ma) (tAs K W as) σ H Q := by
  obtain ⟨ι, ρ, h, rs, rh, ok⟩ := q
  refine ⟨ι, ρ, h, rs, rh, (OkG.bind (R := Den K) ok).mono fun x H1 ⟨ι1, d, h1, e1, r1, dx, ok1⟩ => ?_⟩
  split at ok1
  · rename_i ht
    refine ⟨isTy_ok r1 dx ht, ι1, ρ, h1, rs.mono e1, r1, (OkG.bind (R := Dens K) ok1).mono fun xs H2 ⟨ι2, ds, h2, e2, r2, dxs, ok2⟩ => ?_⟩
    exact ⟨ι2, h2, d, ds, r2, dx.mono e2, dxs, ok2.pr⟩
  · exact ok1.elim
theorem eMth0_imp {T : String} {f : Dt → List Dt → CH → Pr} {σ : L2.St} {H : Hp} {Q : VK} (q : tE K W (eMth T f ma aNil) σ H Q) : tBM0 K T (rM K f) (tE K W ma) σ H Q := by
  obtain ⟨ι, ρ, h, rs, rh, ok⟩ := q
  refine ⟨ι, ρ, h, rs, rh, (OkG.bind (R := Den K) ok).mono fun x H1 ⟨ι1, d, h1, e1, r1, dx, ok1⟩ => ?_⟩
  split at ok1
  · rename_i ht
    exact ⟨isTy_ok r1 dx ht, ι1, h1, d, [], r1, dx, rfl, ok1.pr⟩
  · exact ok1.elim
theorem s_meth {o : Expr} {name : Str} {id T : String} {apos : Pos} {f : Dt → List Dt → CH → Pr} (pa : PlainAttrs T) (slot : Slot T name id) (hty : typeOf (.builtin id) = pure (.type "method_descriptor")) (hm : MtR X id (rM X.K f)) (ho : SimE X ma o) (ha : SimA X as (e :: es))
    (hbase : attributeBase o name X.env (eval o X.env) = eval o X.env := by rfl)
    (hfew : ((backTo pos (starEach (e :: es) X.env)).all (fun x => !x.1) && (backToKw pos (keywordEach [] X.env)).all (fun x => x.1.isSome)
      && decide ((e :: es).length + ([] : List Keyword).length + (if ([] : List Keyword).isEmpty then 0 else 1) < 30)) = true := by rfl)
    (hline : (apos.endLine == pos.line) = true := by rfl) (hs : starEach (e :: es) X.env = (false, eval e X.env) :: starEach es X.env := by rfl) (hplain : (backTo pos (starEach es X.env)).any (·.1) = false := by rfl) :
    SimE X (eMth T f ma as) (.Call (.Attribute o name apos) (e :: es) [] pos) := fun W tk => (pe_bm pa slot hty hm (ho W tk) (ha W tk) hbase hfew hline hs hplain).imp fun _ _ _ q => eMth_imp q
theorem s_meth0 {o : Expr} {name : Str} {id T : String} {apos : Pos} {f : Dt → List Dt → CH → Pr} (pa : PlainAttrs T) (slot : Slot T name id) (hty : typeOf (.builtin id) = pure (.type "method_descriptor")) (hm : MtR X id (rM X.K f)) (ho : SimE X ma o)
    (hbase : attributeBase o name X.env (eval o X.env) = eval o X.env := by rfl) (hline : (apos.endLine == pos.line) = true := by rfl) :
    SimE X (eMth T f ma aNil) (.Call (.Attribute o name apos) [] [] pos) := fun W tk => (pe_bm0 pa slot hty hm (ho W tk) hbase hline).imp fun _ _ _ q => eMth0_imp q

/-! ## slices -/
abbrev MO := Rho → CH → Out (Option Int)
def oNone : MO := fun _ h => .ok none h
def asInt : Dt → Option Int
  | .int i => some i
  | _ => none
def oSome (m : ME) : MO := fun ρ h => (m ρ h).bind fun d h1 => match d with
  | .int i => .ok (some i) h1
  | _ => .bad
def tOs (K : PySem.W.Frag) (W : WX) (m : MO) : TO := fun σ H Q => ∃ ι ρ h, RepS K ι H ρ σ ∧ RepH K ι H h ∧ OkG K W σ ι H (fun _ _ (a b : Option Int) => a = b) (m ρ h) Q
def SimO (X : Cx) (m : MO) (e : Option Expr) : Prop := ∀ W, Takes X W → PO X e (tOs X.K W m)
theorem _root_.L2.PO.imp {X : Cx} {e : Option Expr} {t t' : TO} (h : PO X e t) (i : ∀ σ H Q, t' σ H Q → t σ H Q) : PO X e t' := ⟨fun pins s σ H Q I q => h.run pins s σ H Q I (i _ _ _ q)⟩
theorem s_onone : SimO X oNone none := fun W tk => po_none.imp fun σ H Q q => by
  obtain ⟨ι, ρ, h, rs, rh, ok⟩ := q
  exact ok ι H none .refl rh rfl
theorem s_osome (ha : SimE X ma a) : SimO X (oSome ma) (some a) := fun W tk => (po_some (ha W tk)).imp fun σ H Q q => by
  obtain ⟨ι, ρ, h, rs, rh, ok⟩ := q
  refine ⟨ι, ρ, h, rs, rh, (OkG.bind (R := Den X.K) ok).mono fun x H1 ⟨ι1, d, h1, e1, r1, dx, ok1⟩ => ?_⟩
  cases d with
  | int i => exact ⟨i, dx, ok1 ι1 H1 _ .refl r1 rfl⟩
  | _ => exact ok1.elim
def eSl (f : Dt → Option Int → Option Int → CH → Pr) (m : ME) (lo hi : MO) : ME := fun ρ h => (m ρ h).bind fun d h1 => (lo ρ h1).bind fun l h2 => (hi ρ h2).bind fun u h3 => .pr (f d l u h3)
def rSl (K : PySem.W.Frag) (f : Dt → Option Int → Option Int → CH → Pr) : V → Option Int → Option Int → Hp → VK → Prop := fun x l u H Q => ∃ ι h d, RepH K ι H h ∧ Den K ι H d x ∧ OkP K ι H (f d l u h) Q
theorem s_slice {f : Dt → Option Int → Option Int → CH → Pr} {lo hi : Option Expr} {ml mh : MO} {p2 : Pos} (hr : SlR X (rSl X.K f)) (he : SimE X ma a) (hl : SimO X ml lo) (hu : SimO X mh hi) : SimE X (eSl f ma ml mh) (.Subscript a (.Slice lo hi none p2) pos) := fun W tk =>
  (pe_slice hr (he W tk) (hl W tk) (hu W tk)).imp fun σ H Q q => by
    obtain ⟨ι, ρ, h, rs, rh, ok⟩ := q
    refine ⟨ι, ρ, h, rs, rh, (OkG.bind (R := Den X.K) ok).mono fun x H1 ⟨ι1, d, h1, e1, r1, dx, ok1⟩ => ?_⟩
    refine ⟨ι1, ρ, h1, rs.mono e1, r1, (OkG.bind (R := fun _ _ (a b : Option Int) => a = b) ok1).mono fun l H2 ⟨ι2, l2, h2, e2, r2, el, ok2⟩ => ?_⟩
    refine ⟨ι2, ρ, h2, (rs.mono e1).mono e2, r2, (OkG.bind (R := fun _ _ (a b : Option Int) => a = b) ok2).mono fun u H3 ⟨ι3, u3, h3, e3, r3, eu, ok3⟩ => ?_⟩
    subst el; subst eu
    exact ⟨ι3, h3, d, r3, dx.mono (e2.trans e3), ok3.pr⟩

/-! ## fields -/
def eFld (c f : Str) (m : ME) : ME := fun ρ h => (m ρ h).bind fun d h1 => match d with
  | .ref n => match h1[n]? with
    | some (.ins c' fs) => if c' = c then .opt (fs.lookup f) h1 else .bad
    | _ => .bad
  | _ => .bad
theorem DenF.look {K : PySem.W.Frag} {ι : List Addr} {H : Hp} {f : Str} : ∀ {fs : List (Str × Dt)} {fs' : List (Str × V)} {d : Dt}, DenF K ι H fs fs' → fs.lookup f = some d → ∃ v, fs'.lookup f = some v ∧ Den K ι H d v
  | [], _, _, _, e => by cases e
  | p :: ps, _, d, r, e => by
    obtain ⟨v, r', a, b, c⟩ := (show ∃ v r, _ = (p.1, v) :: r ∧ Den K ι H p.2 v ∧ DenF K ι H ps r from r)
    subst a
    obtain ⟨g, x⟩ := p
    rw [List.lookup_cons] at e ⊢
    cases q : f == g with
    | true => rw [q] at e; cases e; exact ⟨v, rfl, b⟩
    | false => rw [q] at e; exact DenF.look c e
theorem DenF.look0 {K : PySem.W.Frag} {ι : List Addr} {H : Hp} {f : Str} : ∀ {fs : List (Str × Dt)} {fs' : List (Str × V)}, DenF K ι H fs fs' → fs.lookup f = none → fs'.lookup f = none
  | [], _, r, _ => by
    have r : _ = [] := r
    subst r; rfl
  | p :: ps, _, r, e => by
    obtain ⟨v, r', a, b, c⟩ := (show ∃ v r, _ = (p.1, v) :: r ∧ Den K ι H p.2 v ∧ DenF K ι H ps r from r)
    subst a
    obtain ⟨g, x⟩ := p
    rw [List.lookup_cons] at e ⊢
    cases q : f == g with
    | true => rw [q] at e; cases e
    | false => rw [q] at e; exact DenF.look0 c e
theorem s_fld {f c : Str} (he : SimE X ma a) (cl : Cls X.K (He.ga X.K c)) (na : NoAttr X.K (He.ga X.K c) f) (hb : attributeBase a f X.env (eval a X.env) = eval a X.env := by rfl) : SimE X (eFld c f ma) (.Attribute a f pos) := fun W tk => (pe_fld (he W tk) hb).imp fun σ H Q q => by
  obtain ⟨ι, ρ, h, rs, rh, ok⟩ := q
  refine ⟨ι, ρ, h, rs, rh, (OkG.bind (R := Den X.K) ok).mono fun x H1 ⟨ι1, d, h1, e1, r1, dx, ok1⟩ => ?_⟩
  cases d with
  | ref n =>
    obtain ⟨p, rfl, hn⟩ := dx
    obtain ⟨ce, o, hc, ho, dc⟩ := r1.of hn
    dsimp only at ok1
    rw [hc] at ok1
    cases ce with
    | ins c' fs =>
      dsimp only at ok1
      split at ok1
      · rename_i ec
        subst ec
        obtain ⟨dx, fs', rfl, df⟩ := dc
        cases el : fs.lookup f with
        | none => rw [el] at ok1; exact ok1.elim
        | some y =>
          rw [el] at ok1
          obtain ⟨v, hv, dv⟩ := df.look el
          exact ⟨p, _, dx, fs', v, rfl, ho, cl, na, hv, ok1 ι1 H1 v .refl r1 dv⟩
      · exact ok1.elim
    | _ => exact ok1.elim
  | _ => exact ok1.elim
end

/-! ## own defs -/
def OkF (K : PySem.W.Frag) (ι : List Addr) (H : Hp) (o : Out Dt) (Q : VK) (E : XK) : Prop := match o with
  | .ok d h' => ∀ ι' H' v, Ext ι H ι' H' → RepH K ι' H' h' → Den K ι' H' d v → Q v H'
  | .exc c fs h' => OkX K ι H c fs h' E
  | .bad => False
abbrev Fn := List Dt → CH → Out Dt
/-- n arguments or nothing is said -/
def fnN (n : Nat) (F : Fn) : Fn := fun ds h => if ds.length = n then F ds h else .bad
def FLen (n : Nat) (F : Fn) : Prop := ∀ ds h, F ds h ≠ .bad → ds.length = n
theorem fnN_len (n : Nat) (F : Fn) : FLen n (fnN n F) := fun ds h e => by
  unfold fnN at e
  split at e
  · assumption
  · exact absurd rfl e
/-- a def's promise: what it does is F -/
def spOf (K : PySem.W.Frag) (F : Fn) : Sp := fun vs H Q E => ∃ ι ds h, RepH K ι H h ∧ Dens K ι H ds vs ∧ OkF K ι H (F ds h) Q E
theorem spOf_len {K : PySem.W.Frag} {n : Nat} {F : Fn} (l : FLen n F) : ∀ vs H Q E, spOf K F vs H Q E → vs.length = n := fun vs H Q E q => by
  obtain ⟨ι, ds, h, _, d, ok⟩ := q
  rw [← d.length]
  exact l ds h fun z => by rw [z] at ok; exact ok
section
variable {X : Cx} {K : PySem.W.Frag} {W : WX} {a b c e : Expr} {es : List Expr} {pos : Pos} {ma mb mc m : ME} {mt mu : MT} {as bs : MA}
/-- the world of a walk -/
structure Gw where
  P : Program
  w : World
  K : PySem.W.Frag
  mg : Str → Option Value
  base : Heap
abbrev _root_.L2.Cx.gw (X : Cx) : Gw := ⟨X.prog, X.w, X.K, X.mg, X.base⟩
/-- the def at f keeps F -/
def DefOk (P : Program) (w : World) (K : PySem.W.Frag) (mg : Str → Option Value) (base : Heap) (k : Nat) (f : Addr) (fd : FuncData) (ps : List Str) (F : Fn) : Prop := FnOk P w K mg base (L2.CX P w) k f fd ps (spOf K F)
def eFn (F : Fn) (dfl : List Dt) (m : MA) : ME := fun ρ h => (m ρ h).bind fun ds h1 => F (ds ++ dfl) h1
theorem okF_of {σ : L2.St} {ι : List Addr} {H : Hp} {o : Out Dt} {Q : VK} (k : OkG K W σ ι H (Den K) o Q) : OkF K ι H o Q fun u d H' => W u d σ H' := by
  cases o <;> exact k
theorem of_okF {σ : L2.St} {ι : List Addr} {H : Hp} {o : Out Dt} {Q : VK} (k : OkF K ι H o Q fun u d H' => W u d σ H') : OkG K W σ ι H (Den K) o Q := by
  cases o <;> exact k
theorem OkF.ext {ι ι1 : List Addr} {H H1 : Hp} {o : Out Dt} {Q : VK} {E : XK} (e : Ext ι H ι1 H1) (k : OkF K ι H o Q E) : OkF K ι1 H1 o Q E := by
  cases o with
  | ok d h' => exact fun ι' H' v e' r x => k ι' H' v (e.trans e') r x
  | exc c fs h' => exact OkX.ext e (show OkX K ι H c fs h' E from k)
  | bad => exact k
end
end Cl
namespace Cl
open PySem PySem.Spec PyProof.Rows L2
section
variable {X : Cx} {K : PySem.W.Frag} {W : WX} {a b c e o : Expr} {es : List Expr} {pos p apos : Pos} {ma mb mc m : ME} {as bs : MA} {k : Nat} {x : Str} {dfl : List Dt} {F : Fn}

/-! ## f(e, ..) -/
theorem eFn_imp {dvs : List V} {σ : L2.St} {H : Hp} {Q : VK} (hd : ∀ ι H, Dens K ι H dfl dvs) (q : tE K W (eFn F dfl as) σ H Q) : tCallSD (spOf K F) dvs (WE W) (tAs K W as) σ H Q := by
  obtain ⟨ι, ρ, h, rs, rh, ok⟩ := q
  exact ⟨ι, ρ, h, rs, rh, (OkG.bind (R := Dens K) ok).mono fun xs H1 ⟨ι1, ds, h1, e1, r1, dx, ok1⟩ => ⟨ι1, _, h1, r1, dx.app (hd ι1 H1), okF_of ok1⟩⟩
/-- what a call of a def by its name x asks: F what it does, dfl the defaults that fill up -/
structure CallOk (g : Gw) (k : Nat) (x : Str) (dfl : List Dt) (F : Fn) : Prop where
  ex : ∃ (f : Addr) (fd : FuncData) (ps : List Str) (ds : List Value) (dvs : List V), DefOk g.P g.w g.K g.mg g.base k f fd ps F ∧ g.mg x = some (.ref f) ∧ PySem.W.keepIn g.K (.ref f) = true ∧
    Binds g.K fd ps ds ∧ Vals dvs ds ∧ ∀ ι H, Dens g.K ι H dfl dvs
theorem s_call (C : CallOk X.gw k x dfl F) (hr : Room k X.A) (hg : Gl X x) (ha : SimA X as (e :: es)) (hdb : (x == ("__debug__" : Str)) = false := by decide) (he : starEach (e :: es) X.env = (false, eval e X.env) :: starEach es X.env := by rfl) (hpl : (backTo pos (starEach es X.env)).any (·.1) = false := by rfl) :
    SimE X (eFn F dfl as) (.Call (.Name x p) (e :: es) [] pos) := fun W tk => by
  obtain ⟨f, fd, ps, ds, dvs, D, hm, hk, hb, hv, hd⟩ := C.ex
  exact (pe_callSD D hr hg hm hk hb hv (fun σ => passAt tk σ) (ha W tk) hdb he hpl).imp fun _ _ _ q => eFn_imp hd q
theorem s_call0 (C : CallOk X.gw k x dfl F) (hr : Room k X.A) (hg : Gl X x) (hdb : (x == ("__debug__" : Str)) = false := by decide) : SimE X (eFn F dfl aNil) (.Call (.Name x p) [] [] pos) := fun W tk => by
  obtain ⟨f, fd, ps, ds, dvs, D, hm, hk, hb, hv, hd⟩ := C.ex
  refine ⟨fun pins s σ H Q I q => ?_⟩
  obtain ⟨ι, ρ, h, rs, rh, ok⟩ := q
  refine wpAny_Call_Name_kw (ld_glob I hg hm ?_ hdb)
  exact PySem.W.callWith_K0 I.kIn hk (run_fnSD (us := []) (E := WE W) D hr hb hv (passAt tk σ) I .nil ⟨ι, dfl, h, rh, hd ι H, okF_of ok⟩)
/-! ## f(e, .., k = v, ..) -/
def eFnK (F : Fn) (g : List Dt → List Dt → List Dt) (m km : MA) : ME := fun ρ h => (m ρ h).bind fun ds h1 => (km ρ h1).bind fun es h2 => F (g ds es) h2
structure CallKOk (g : Gw) (k : Nat) (x : Str) (n : Nat) (ks : List Str) (gd : List Dt → List Dt → List Dt) (F : Fn) : Prop where
  ex : ∃ (f : Addr) (fd : FuncData) (ps : List Str) (gu : List Value → List Value → List Value) (gv : List V → List V → List V), DefOk g.P g.w g.K g.mg g.base k f fd ps F ∧ g.mg x = some (.ref f) ∧ PySem.W.keepIn g.K (.ref f) = true ∧
    KBn g.K fd ps n ks gu gv ∧ ∀ ι H ds es vs zs, Dens g.K ι H ds vs → Dens g.K ι H es zs → Dens g.K ι H (gd ds es) (gv vs zs)
/-- run_fnN with the wish at the caller's slots -/
theorem run_fnNS {CX : CXT} {n : Nat} {f : Addr} {fd : FuncData} {ps ks : List Str} {sp : Sp} {E : XK} {g : List Value → List Value → List Value} {gV : List V → List V → List V} {pins : List (Addr × Obj)} {σ : L2.St} {H : Hp} {s : Shared} {Q : VK} {us ws : List Value} {vs zs : List V} (D : FnOk X.prog X.w X.K X.mg X.base CX k f fd ps sp) (hr : Room k X.A) (hb : KBn X.K fd ps n ks g gV) (hx : PassesAt CX X σ E)
    (I : Inv X pins σ H s) (r : Vals vs us) (rz : Vals zs ws) (l1 : vs.length = n) (l2 : zs.length = ks.length) (h : sp (gV vs zs) H Q E) : wpAny (model X.prog X.w) X.A (call (.ref f) us (ks.zip ws)) (EP X pins σ Q) X.xe s := by
  have r2 := hb.rel r rz
  refine wpAny_call (codeAny_mono (D.run X.A X.stack s H ⟨us, ks.zip ws⟩ (g us ws) (gV vs zs) Q E hr I.env0 (hb.to s us ws I.kIn (r.length.symm.trans l1) (rz.length.symm.trans l2)) r2 h) fun r s' hq => ?_)
  cases r with
  | error e => exact hx pins H s e s' I hq
  | ok fl =>
    cases fl with
    | ret u => exact I.after hq
    | next => exact False.elim hq
    | brk => exact False.elim hq
    | cont => exact False.elim hq
theorem s_callK {n : Nat} {ks : List Str} {g : List Dt → List Dt → List Dt} {km : MA} {kws : List Keyword} (C : CallKOk X.gw k x n ks g F) (hr : Room k X.A) (hg : Gl X x) (ha : SimA X as (e :: es)) (hkw : SimK X km kws)
    (hn : ∀ ρ h ds h1, as ρ h = .ok ds h1 → ds.length = n) (hkn : ∀ ρ h ds h1, km ρ h = .ok ds h1 → ds.length = ks.length)
    (hall : (backToKw pos (keywordEach kws X.env)).all (·.1.isSome) = true := by rfl) (hks : (backToKw pos (keywordEach kws X.env)).filterMap (·.1) = ks := by rfl)
    (hdb : (x == ("__debug__" : Str)) = false := by decide) (he : starEach (e :: es) X.env = (false, eval e X.env) :: starEach es X.env := by rfl)
    (hpl : ((backTo pos (starEach (e :: es) X.env)).any (·.1) || (backToKw pos (keywordEach kws X.env)).any (·.1.isNone)) = false := by rfl) : SimE X (eFnK F g as km) (.Call (.Name x p) (e :: es) kws pos) := fun W tk => by
  obtain ⟨f, fd, ps, gu, gv, D, hm, hk, hb, hd⟩ := C.ex
  refine ⟨fun pins s σ H Q I q => ?_⟩
  obtain ⟨ι, ρ, h, rs, rh, ok⟩ := q
  refine wpAny_Call_Name_kw (ld_glob I hg hm ?_ hdb)
  cases hm1 : as ρ h with
  | ok ds h1 =>
    have l1 := hn _ _ _ _ hm1
    refine PySem.W.callWith_KW (h₀ := X.base) I.ok.mod.kin hk hall (thn ((ha W tk).run pos pins s σ H (fun xs H1 => ∃ ι1, Ext ι H ι1 H1 ∧ RepH X.K ι1 H1 h1 ∧ Dens X.K ι1 H1 ds xs) I ⟨ι, ρ, h, rs, rh, ?_⟩) fun us s1 ⟨vs, H1, I1, r, q⟩ => ?_) hpl he
    · rw [hm1]; exact fun ι' H' b e' r' d' => ⟨ι', e', r', d'⟩
    · obtain ⟨ι1, e1, r1, d1⟩ := q
      have ok1 : OkG X.K W σ ι H (Den X.K) ((km ρ h1).bind fun es h2 => F (g ds es) h2) Q := by
        have := ok
        unfold eFnK at this
        rw [hm1] at this
        exact this
      cases hm2 : km ρ h1 with
      | ok zs h2 =>
        have l2 := hkn _ _ _ _ hm2
        rw [hm2] at ok1
        refine thn ((hkw W tk).run pos pins s1 σ H1 (fun xs H2 => ∃ ι2, Ext ι1 H1 ι2 H2 ∧ RepH X.K ι2 H2 h2 ∧ Dens X.K ι2 H2 zs xs) I1 ⟨ι1, ρ, h1, rs.mono e1, r1, ?_⟩) fun ws s2 ⟨zv, H2, I2, rz, q2⟩ => ⟨I2.kIn, ?_⟩
        · rw [hm2]; exact fun ι' H' b e' r' d' => ⟨ι', e', r', d'⟩
        · obtain ⟨ι2, e2, r2, d2⟩ := q2
          rw [hks]
          exact run_fnNS (E := WE W σ) D hr hb (passAt tk σ) I2 r rz (by rw [← d1.length]; exact l1) (by rw [← d2.length]; exact l2) ⟨ι2, _, h2, r2, hd _ _ _ _ _ _ (d1.mono e2) d2, okF_of (OkG.ext (e1.trans e2) ok1)⟩
      | exc c fs h2 =>
        rw [hm2] at ok1
        refine thn ((hkw W tk).run pos pins s1 σ H1 (fun _ _ => False) I1 ⟨ι1, ρ, h1, rs.mono e1, r1, ?_⟩) fun ws s2 ⟨_, _, _, _, z⟩ => z.elim
        rw [hm2]
        exact OkX.ext e1 (show OkX X.K ι H c fs h2 fun u d H' => W u d σ H' from ok1)
      | bad => rw [hm2] at ok1; exact ok1.elim
  | exc c fs h1 =>
    refine PySem.W.callWith_KW (h₀ := X.base) I.ok.mod.kin hk hall (thn ((ha W tk).run pos pins s σ H (fun _ _ => False) I ⟨ι, ρ, h, rs, rh, ?_⟩) fun us s1 ⟨_, _, _, _, z⟩ => z.elim) hpl he
    have := ok
    unfold eFnK at this
    rw [hm1] at this ⊢
    exact this
  | bad =>
    have := ok
    unfold eFnK at this
    rw [hm1] at this
    exact this.elim

/-! ## o.m(e, ..) of an instance of the class c -/
def isIns (c m : Str) : Dt → CH → Bool
  | .ref n, h => match h[n]? with
    | some (.ins c' fs) => decide (c' = c) && (fs.lookup m).isNone
    | _ => false
  | _, _ => false
def eIM (c m : Str) (F : Fn) (dfl : List Dt) (o : ME) (as : MA) : ME := fun ρ h => (o ρ h).bind fun d h1 => if isIns c m d h1 = true then (as ρ h1).bind fun ds h2 => F (d :: (ds ++ dfl)) h2 else .bad
theorem isIns_ok {ι : List Addr} {H : Hp} {h : CH} {d : Dt} {v : V} {c m : Str} (r : RepH K ι H h) (dx : Den K ι H d v) (e : isIns c m d h = true) : ∃ a dx fs, v = .ref a ∧ H a = some (.ins (He.ga K c) dx fs) ∧ fs.lookup m = none := by
  cases d with
  | ref n =>
    obtain ⟨p, rfl, hn⟩ := dx
    obtain ⟨ce, o, hc, ho, dc⟩ := r.of hn
    have e : (match h[n]? with
      | some (.ins c' fs) => decide (c' = c) && (fs.lookup m).isNone
      | _ => false) = true := e
    rw [hc] at e
    cases ce with
    | ins c' fs =>
      obtain ⟨e1, e2⟩ := Bool.and_eq_true_iff.mp e
      have e1 := of_decide_eq_true e1
      subst e1
      obtain ⟨dx, fs', rfl, df⟩ := dc
      exact ⟨p, dx, fs', rfl, ho, df.look0 (Option.isNone_iff_eq_none.mp e2)⟩
    | _ => cases e
  | _ => cases e
/-- what a method asks: m of the class named c is the def F -/
structure MethOk (g : Gw) (k : Nat) (c m : Str) (dfl : List Dt) (F : Fn) : Prop where
  ex : ∃ (f : Addr) (fd : FuncData) (ps : List Str) (ds : List Value) (dvs : List V), Cls g.K (He.ga g.K c) ∧ Meth g.K (He.ga g.K c) m f ∧ DefOk g.P g.w g.K g.mg g.base k f fd ps F ∧ Binds g.K fd ps ds ∧ Vals dvs ds ∧ ∀ ι H, Dens g.K ι H dfl dvs
theorem s_im {c' m' : Str} {pl : Sem Bool} (C : MethOk X.gw k c' m' dfl F) (hr : Room k X.A) (ho : SimE X ma o) (ha : SimA X as (e :: es))
    (hst : starEach (e :: es) X.env = (false, eval e X.env) :: starEach es X.env := by rfl) (hpl : (backTo pos (starEach es X.env)).any (·.1) = false := by rfl)
    (ht : eval (.Call (.Attribute o m' apos) (e :: es) [] pos) X.env = (do
      let ov ← eval o X.env
      standAt apos.atName
      let (f, first) ← holding [ov] (getMethod ov m' pl)
      callWith pos f first (backTo pos (starEach (e :: es) X.env)) (backToKw pos (keywordEach [] X.env))) := by rfl) :
    SimE X (eIM c' m' F dfl ma as) (.Call (.Attribute o m' apos) (e :: es) [] pos) := fun W tk => by
  obtain ⟨f, fd, ps, ds, dvs, cl, hm, D, hb, hv, hd⟩ := C.ex
  refine ⟨fun pins s σ H Q I q => ?_⟩
  obtain ⟨ι, ρ, h, rs, rh, ok⟩ := q
  refine PySem.W.methodCall_KW (pl := pl) (thn ((ho W tk).run pins s σ H _ I ⟨ι, ρ, h, rs, rh, OkG.bind (R := Den X.K) ok⟩) fun u s1 ⟨xv, H1, I1, rx, ι1, d, h1, e1, r1, dx, ok1⟩ => ?_) ht
  split at ok1
  · rename_i hi
    obtain ⟨p, dxx, fs, rfl, ea, l⟩ := isIns_ok r1 dx hi
    obtain rfl : u = Value.ref p := rx
    refine getmeth_ok I1 ea cl hm l ?_
    refine PySem.W.callWith_K (first := [.ref p]) (h₀ := X.base) I.ok.mod.kin hm.kp (thn ((ha W tk).run pos pins s1 σ H1 _ I1 ⟨ι1, ρ, h1, rs.mono e1, r1, OkG.bind (R := Dens X.K) ok1⟩) fun us s2 ⟨vs, H2, I2, r, ι2, ds2, h2, e2, r2, dx2, ok2⟩ => ⟨I2.kIn, ?_⟩) hst hpl
    exact run_fnSD (us := .ref p :: us) (vs := .ref p :: vs) (E := WE W) D hr hb hv (passAt tk σ) I2 (.cons rfl r) ⟨ι2, _, h2, r2, Dens.cons (dx.mono e2) (dx2.app (hd ι2 H2)), okF_of ok2⟩
  · exact ok1.elim
theorem s_im0 {c' m' : Str} {pl : Sem Bool} (C : MethOk X.gw k c' m' dfl F) (hr : Room k X.A) (ho : SimE X ma o)
    (ht : eval (.Call (.Attribute o m' apos) [] [] pos) X.env = (do
      let ov ← eval o X.env
      standAt apos.atName
      let (f, first) ← holding [ov] (getMethod ov m' pl)
      callWith pos f first (backTo pos (starEach [] X.env)) (backToKw pos (keywordEach [] X.env))) := by rfl) :
    SimE X (eIM c' m' F dfl ma aNil) (.Call (.Attribute o m' apos) [] [] pos) := fun W tk => by
  obtain ⟨f, fd, ps, ds, dvs, cl, hm, D, hb, hv, hd⟩ := C.ex
  refine ⟨fun pins s σ H Q I q => ?_⟩
  obtain ⟨ι, ρ, h, rs, rh, ok⟩ := q
  refine PySem.W.methodCall_KW (pl := pl) (thn ((ho W tk).run pins s σ H _ I ⟨ι, ρ, h, rs, rh, OkG.bind (R := Den X.K) ok⟩) fun u s1 ⟨xv, H1, I1, rx, ι1, d, h1, e1, r1, dx, ok1⟩ => ?_) ht
  split at ok1
  · rename_i hi
    obtain ⟨p, dxx, fs, rfl, ea, l⟩ := isIns_ok r1 dx hi
    obtain rfl : u = Value.ref p := rx
    refine getmeth_ok I1 ea cl hm l ?_
    exact PySem.W.callWith_K0 (first := [.ref p]) I1.kIn hm.kp (run_fnSD (us := [.ref p]) (vs := [.ref p]) (E := WE W) D hr hb hv (passAt tk σ) I1 (.cons rfl .nil) ⟨ι1, _, h1, r1, Dens.cons dx (hd ι1 H1), okF_of ok1⟩)
  · exact ok1.elim

/-! ## C(e, ..): an instance of an own class -/
def Out.init (o : Out Dt) (n : Nat) : Out Dt := o.bind fun d h => match d with
  | .non => .ok (.ref n) h
  | _ => .bad
def eMk (c : Str) (F : Fn) (dfl : List Dt) (as : MA) : ME := fun ρ h => (as ρ h).bind fun ds h1 => (F (.ref h1.length :: (ds ++ dfl)) (h1 ++ [.ins c []])).init h1.length
structure MakeOk (g : Gw) (k : Nat) (x : Str) (dfl : List Dt) (F : Fn) : Prop where
  ex : ∃ (f : Addr) (fd : FuncData) (ps : List Str) (ds : List Value) (dvs : List V), Mk g.K (He.ga g.K x) f ∧ DefOk g.P g.w g.K g.mg g.base k f fd ps F ∧ g.mg x = some (.ref (He.ga g.K x)) ∧ Binds g.K fd ps ds ∧ Vals dvs ds ∧ ∀ ι H, Dens g.K ι H dfl dvs
theorem okInit {ι : List Addr} {H : Hp} {n : Nat} {o : Out Dt} {Q : VK} {E : XK} (k : OkF K ι H (o.init n) Q E) : OkF K ι H o (fun v H2 => v = .non ∧ ∃ ι2 h2, Ext ι H ι2 H2 ∧ RepH K ι2 H2 h2 ∧ ∀ w, Den K ι2 H2 (.ref n) w → Q w H2) E := by
  cases o with
  | ok d h' =>
    intro ι' H' v e' r' dx
    cases d with
    | non => exact ⟨dx, ι', h', e', r', fun w dw => k ι' H' w e' r' dw⟩
    | _ => exact (show False from k).elim
  | exc c fs h' => exact k
  | bad => exact k
theorem OkF.mono {ι : List Addr} {H : Hp} {o : Out Dt} {Q Q' : VK} {E : XK} (k : OkF K ι H o Q E) (h : ∀ v H', Q v H' → Q' v H') : OkF K ι H o Q' E := by
  cases o with
  | ok d h' => exact fun ι' H' v e' r' dx => h _ _ (k ι' H' v e' r' dx)
  | exc c fs h' => exact k
  | bad => exact k
/-- run_make with the wish at the caller's slots -/
theorem run_makeS {CX : CXT} {C f : Addr} {fd : FuncData} {ps : List Str} {sp : Sp} {E : XK} {dvs : List V} {ds : List Value} {pins : List (Addr × Obj)} {σ : L2.St} {H : Hp} {s : Shared} {Q : VK} {us : List Value} {vs : List V} (M : Mk X.K C f) (D : FnOk X.prog X.w X.K X.mg X.base CX k f fd ps sp) (hr : Room (k + 1) X.A) (hb : Binds X.K fd ps ds) (hd : Vals dvs ds)
    (hx : PassesAt CX X σ E) (I : Inv X pins σ H s) (r : Vals vs us)
    (h : ∀ x dx, H x = none → H dx = none → dx ≠ x → sp (.ref x :: (vs ++ dvs)) (upd (upd H dx (.own x)) x (.ins C dx [])) (fun v H2 => v = .non ∧ Q (.ref x) H2) E) :
    wpAny (model X.prog X.w) X.A (call (.ref C) us) (EP X pins σ Q) X.xe s := by
  have hq := h (s.heap.objs.size + 1) s.heap.objs.size (I.hok.fresh (Nat.le_succ _)) (I.hok.fresh (Nat.le_refl _)) (Nat.ne_of_lt (Nat.lt_succ_self _))
  have I2 := Inv.made (C := C) I
  have r2 : Vals (V.ref (s.heap.objs.size + 1) :: (vs ++ dvs)) (Value.ref (s.heap.objs.size + 1) :: (us ++ ds)) := .cons rfl (r.append hd)
  have hl : (Value.ref (s.heap.objs.size + 1) :: us ++ ds).length = ps.length := by
    have e := r2.length
    rw [D.len _ _ _ _ hq] at e
    exact e.symm
  refine wpAny_call (make_map (f := f) I.kIn M.makes M.init (beq_iff_eq.mp M.fn) (codeAny_mono (D.run _ X.stack _ _ ⟨Value.ref (s.heap.objs.size + 1) :: us, []⟩ (Value.ref (s.heap.objs.size + 1) :: (us ++ ds)) _ _ E (hr.make C us [])
    (I2.env0.make C us []) (hb _ (Value.ref (s.heap.objs.size + 1) :: us) I2.kIn hl) r2 hq) fun r s' hq' => ?_))
  cases r with
  | error e => exact hx pins _ _ e s' I2 hq'
  | ok fl =>
    cases fl with
    | ret u =>
      obtain ⟨v, H', I3, rv, ev, q3⟩ := I2.after hq'
      subst ev
      exact ⟨rv, ⟨V.ref (s.heap.objs.size + 1), H', I3, rfl, q3⟩⟩
    | next => exact False.elim hq'
    | brk => exact False.elim hq'
    | cont => exact False.elim hq'
theorem mk_step {ι : List Addr} {H : Hp} {h : CH} {ds : List Dt} {vs : List V} {dvs : List V} {Q : VK} {E : XK} (rh : RepH K ι H h) (dx : Dens K ι H ds vs) (hd : ∀ ι H, Dens K ι H dfl dvs)
    (ok : OkF K ι H ((F (.ref h.length :: (ds ++ dfl)) (h ++ [.ins x []])).init h.length) Q E) :
    ∀ q d, H q = none → H d = none → d ≠ q → spOf K F (.ref q :: (vs ++ dvs)) (upd (upd H d (.own q)) q (.ins (He.ga K x) d [])) (fun v H2 => v = .non ∧ Q (.ref q) H2) E := by
  intro q d hq hdn ne
  have e1 : Ext ι H ι (upd H d (.own q)) := .new hdn
  have r1 := rh.new (o := .own q) hdn
  have hq1 : upd H d (.own q) q = none := by rw [upd_ne (Ne.symm ne)]; exact hq
  have e2 : Ext ι (upd H d (.own q)) (ι ++ [q]) (upd (upd H d (.own q)) q (.ins (He.ga K x) d [])) := .alloc hq1
  have r2 : RepH K (ι ++ [q]) (upd (upd H d (.own q)) q (.ins (He.ga K x) d [])) (h ++ [.ins x []]) := r1.alloc hq1 ⟨d, [], rfl, rfl⟩
  refine ⟨ι ++ [q], _, _, r2, Dens.cons (show Den K _ _ (.ref h.length) (.ref q) from ⟨q, rfl, by rw [← rh.len]; simp⟩) ((dx.mono (e1.trans e2)).app (hd _ _)), ?_⟩
  refine (okInit (ok.ext (e1.trans e2))).mono fun v H2 ⟨ev, ι2, h2, e3, r3, hw⟩ => ⟨ev, hw _ (show Den K _ _ (.ref h.length) (.ref q) from ⟨q, rfl, e3.get (by rw [← rh.len]; simp)⟩)⟩
theorem s_mk (M : MakeOk X.gw k x dfl F) (hr : Room (k + 1) X.A) (hg : Gl X x) (ha : SimA X as (e :: es)) (hdb : (x == ("__debug__" : Str)) = false := by decide) (he : starEach (e :: es) X.env = (false, eval e X.env) :: starEach es X.env := by rfl) (hpl : (backTo pos (starEach es X.env)).any (·.1) = false := by rfl) :
    SimE X (eMk x F dfl as) (.Call (.Name x p) (e :: es) [] pos) := fun W tk => by
  obtain ⟨f, fd, ps, ds, dvs, M, D, hm, hb, hv, hd⟩ := M.ex
  refine ⟨fun pins s σ H Q I q => ?_⟩
  obtain ⟨ι, ρ, h, rs, rh, ok⟩ := q
  refine wpAny_Call_Name_kw (ld_glob I hg hm ?_ hdb)
  refine PySem.W.callWith_K (h₀ := X.base) I.ok.mod.kin M.kp (thn ((ha W tk).run pos pins s σ H _ I ⟨ι, ρ, h, rs, rh, OkG.bind (R := Dens X.K) ok⟩) fun us s1 ⟨vs, H1, I1, r, ι1, ds1, h1, e1, r1, dx1, ok1⟩ => ⟨I1.kIn, ?_⟩) he hpl
  exact run_makeS (E := WE W σ) M D hr hb hv (passAt tk σ) I1 r (mk_step r1 dx1 hd (okF_of ok1))
theorem s_mk0 (M : MakeOk X.gw k x dfl F) (hr : Room (k + 1) X.A) (hg : Gl X x) (hdb : (x == ("__debug__" : Str)) = false := by decide) : SimE X (eMk x F dfl aNil) (.Call (.Name x p) [] [] pos) := fun W tk => by
  obtain ⟨f, fd, ps, ds, dvs, M, D, hm, hb, hv, hd⟩ := M.ex
  refine ⟨fun pins s σ H Q I q => ?_⟩
  obtain ⟨ι, ρ, h, rs, rh, ok⟩ := q
  refine wpAny_Call_Name_kw (ld_glob I hg hm ?_ hdb)
  exact PySem.W.callWith_K0 I.kIn M.kp (run_makeS (us := []) (vs := []) (E := WE W σ) M D hr hb hv (passAt tk σ) I .nil (mk_step (ds := []) rh rfl hd (okF_of ok)))
end
end Cl
namespace Cl
open PySem PySem.Spec PyProof.Rows L2

/-! ## statements -/
section
variable (K : PySem.W.Frag) (W : WX) (ι : List Addr) (H : Hp)
def OkS (o : OS) (D : Ends) : Prop := match o with
  | .next ρ h' => ∀ ι' H' σ', Ext ι H ι' H' → RepH K ι' H' h' → RepS K ι' H' ρ σ' → D.nx σ' H'
  | .ret d h' => ∀ ι' H' v, Ext ι H ι' H' → RepH K ι' H' h' → Den K ι' H' d v → D.rt v H'
  | .brk ρ h' => ∀ ι' H' σ', Ext ι H ι' H' → RepH K ι' H' h' → RepS K ι' H' ρ σ' → D.bk σ' H'
  | .cont ρ h' => ∀ ι' H' σ', Ext ι H ι' H' → RepH K ι' H' h' → RepS K ι' H' ρ σ' → D.ct σ' H'
  | .exc c fs ρ h' => ∀ ι' H' σ' dx fs', Ext ι H ι' H' → RepH K ι' H' h' → RepS K ι' H' ρ σ' → H' dx = some (.xd fs') → DenF K ι' H' fs fs' → W (.ref (He.ga K c)) (some dx) σ' H'
  | .bad => False
def tS (m : MS) : TS := fun D σ H => ∃ ι ρ h, RepS K ι H ρ σ ∧ RepH K ι H h ∧ OkS K W ι H (m ρ h) D
end
theorem _root_.L2.PS.imp {X : Cx} {e : Stmt} {t t' : TS} (h : PS X e t) (i : ∀ D σ H, t' D σ H → t D σ H) : PS X e t' := ⟨fun pins s σ H D I q => h.run pins s σ H D I (i _ _ _ q)⟩
theorem _root_.L2.PSs.imp {X : Cx} {e : List Stmt} {t t' : TS} (h : PSs X e t) (i : ∀ D σ H, t' D σ H → t D σ H) : PSs X e t' := ⟨fun pins s σ H D I q => h.run pins s σ H D I (i _ _ _ q)⟩
def SimS (X : Cx) (m : MS) (st : Stmt) : Prop := ∀ W, Takes X W → PS X st (tS X.K W m)
def SimB (X : Cx) (m : MS) (st : List Stmt) : Prop := ∀ W, Takes X W → PSs X st (tS X.K W m)
section
variable {X : Cx} {K : PySem.W.Frag} {W : WX} {ι ι1 : List Addr} {H H1 : Hp} {a b c e o : Expr} {es : List Expr} {pos p apos : Pos} {ma mb mc m : ME} {mt : MT} {as bs : MA} {st : Stmt} {sts : List Stmt} {sa sb : MS}
theorem OkS.ext {o : OS} {D : Ends} (e : Ext ι H ι1 H1) (k : OkS K W ι H o D) : OkS K W ι1 H1 o D := by
  cases o with
  | next ρ h' => exact fun ι' H' σ' e' => k ι' H' σ' (e.trans e')
  | ret d h' => exact fun ι' H' σ' e' => k ι' H' σ' (e.trans e')
  | brk ρ h' => exact fun ι' H' σ' e' => k ι' H' σ' (e.trans e')
  | cont ρ h' => exact fun ι' H' σ' e' => k ι' H' σ' (e.trans e')
  | exc c fs ρ h' => exact fun ι' H' σ' dx fs' e' => k ι' H' σ' dx fs' (e.trans e')
  | bad => exact k
/-- an expression's outcome, then what follows -/
def Out.stm {α : Type} (o : Out α) (ρ : Rho) (f : α → CH → OS) : OS := match o with
  | .ok a h => f a h
  | .exc c fs h => .exc c fs ρ h
  | .bad => .bad
theorem OkS.stm {α β : Type} {R : Rl α β} {o : Out α} {ρ : Rho} {σ : L2.St} {f : α → CH → OS} {D : Ends} (rs : RepS K ι H ρ σ) (k : OkS K W ι H (o.stm ρ f) D) :
    OkG K W σ ι H R o fun b H1 => ∃ ι1 a h1, Ext ι H ι1 H1 ∧ RepH K ι1 H1 h1 ∧ R ι1 H1 a b ∧ OkS K W ι1 H1 (f a h1) D := by
  cases o with
  | ok a h' => exact fun ι' H' b e' r x => ⟨ι', a, h', e', r, x, OkS.ext e' k⟩
  | exc c fs h' => exact fun ι' H' dx fs' e' r x d => k ι' H' σ dx fs' e' r (rs.mono e') x d
  | bad => exact k
def sNext : MS := fun ρ h => .next ρ h
theorem okNext {ρ : Rho} {h : CH} {σ : L2.St} {D : Ends} (rs : RepS K ι H ρ σ) (rh : RepH K ι H h) (k : OkS K W ι H (.next ρ h) D) : D.nx σ H := k ι H σ .refl rh rs
theorem b_nil : SimB X sNext [] := fun W tk => pss_nil.imp fun D σ H ⟨ι, ρ, h, rs, rh, k⟩ => okNext rs rh k
def sSeq (a b : MS) : MS := fun ρ h => match a ρ h with
  | .next ρ1 h1 => b ρ1 h1
  | o => o
theorem b_cons (h1 : SimS X sa st) (h2 : SimB X sb sts) : SimB X (sSeq sa sb) (st :: sts) := fun W tk => (pss_cons (h1 W tk) (h2 W tk)).imp fun D σ H ⟨ι, ρ, h, rs, rh, k⟩ => by
  refine ⟨ι, ρ, h, rs, rh, ?_⟩
  unfold sSeq at k
  cases q : sa ρ h with
  | next ρ1 h1 =>
    rw [q] at k
    exact fun ι' H' σ' e r s => ⟨ι', ρ1, h1, s, r, OkS.ext e k⟩
  | _ => rw [q] at k; exact k
theorem b_one (h1 : SimS X sa st) : SimB X sa [st] := fun W tk => pss_one (h1 W tk)
theorem s_pass : SimS X sNext (.Pass pos) := fun W tk => ps_pass.imp fun D σ H ⟨ι, ρ, h, rs, rh, k⟩ => okNext rs rh k
theorem s_doc {x : Str} {j : Nat} {pos' : Pos} : SimS X sNext (.Expr (.Constant (.str x) j pos) pos') := fun W tk => ps_doc.imp fun D σ H ⟨ι, ρ, h, rs, rh, k⟩ => okNext rs rh k
def sBrk : MS := fun ρ h => .brk ρ h
def sCont : MS := fun ρ h => .cont ρ h
theorem s_brk : SimS X sBrk (.Break pos) := fun W tk => ps_break.imp fun D σ H ⟨ι, ρ, h, rs, rh, k⟩ => k ι H σ .refl rh rs
theorem s_cont : SimS X sCont (.Continue pos) := fun W tk => ps_continue.imp fun D σ H ⟨ι, ρ, h, rs, rh, k⟩ => k ι H σ .refl rh rs
def sEx (m : ME) : MS := fun ρ h => (m ρ h).stm ρ fun _ h1 => .next ρ h1
theorem s_ex (he : SimE X ma a) (hs : swapsWith a none pos.line X.env = pure false := by rfl) : SimS X (sEx ma) (.Expr a pos) := fun W tk => (ps_expr (he W tk) hs).imp fun D σ H ⟨ι, ρ, h, rs, rh, k⟩ =>
  ⟨ι, ρ, h, rs, rh, (OkS.stm (R := Den X.K) rs k).mono fun x H1 ⟨ι1, d, h1, e1, r1, dx, k1⟩ => okNext (rs.mono e1) r1 k1⟩
def sRet (m : ME) : MS := fun ρ h => (m ρ h).stm ρ fun d h1 => .ret d h1
theorem s_ret (he : SimE X ma a) : SimS X (sRet ma) (.Return (some a) pos) := fun W tk => (ps_ret (he W tk)).imp fun D σ H ⟨ι, ρ, h, rs, rh, k⟩ =>
  ⟨ι, ρ, h, rs, rh, (OkS.stm (R := Den X.K) rs k).mono fun x H1 ⟨ι1, d, h1, e1, r1, dx, k1⟩ => k1 ι1 H1 x .refl r1 dx⟩
def sRetN : MS := fun _ h => .ret .non h
theorem s_retN : SimS X sRetN (.Return none pos) := fun W tk => ps_retN.imp fun D σ H ⟨ι, ρ, h, rs, rh, k⟩ => k ι H .non .refl rh rfl
def sIf (t : MT) (a b : MS) : MS := fun ρ h => (t ρ h).stm ρ fun c h1 => if c = true then a ρ h1 else b ρ h1
theorem s_ifS {th el : List Stmt} (hc : SimT X mt c) (ha : SimB X sa th) (hb : SimB X sb el) : SimS X (sIf mt sa sb) (.If c th el pos) := fun W tk => (ps_if (hc W tk) (ha W tk) (hb W tk)).imp fun D σ H ⟨ι, ρ, h, rs, rh, k⟩ => by
  refine ⟨ι, ρ, h, rs, rh, (OkS.stm (R := fun _ _ (a b : Bool) => a = b) rs k).mono fun x H1 ⟨ι1, d, h1, e1, r1, dx, k1⟩ => ?_⟩
  subst dx
  cases d with
  | true => rw [if_pos rfl] at k1 ⊢; exact ⟨ι1, ρ, h1, rs.mono e1, r1, k1⟩
  | false => rw [if_neg Bool.false_ne_true] at k1 ⊢; exact ⟨ι1, ρ, h1, rs.mono e1, r1, k1⟩

/-! ## targets: names, tuples of them -/
inductive Pat where
  | nm (i : Nat)
  | tup (ps : List Pat)
mutual
def bindP : Pat → Dt → Option (List (Nat × Dt))
  | .nm i, d => some [(i, d)]
  | .tup ps, .tup ds => bindPs ps ds
  | _, _ => none
def bindPs : List Pat → List Dt → Option (List (Nat × Dt))
  | [], [] => some []
  | p :: ps, d :: ds => match bindP p d, bindPs ps ds with
    | some a, some b => some (a ++ b)
    | _, _ => none
  | _, _ => none
end
def setR : Rho → List (Nat × Dt) → Rho
  | ρ, [] => ρ
  | ρ, q :: l => setR (ρ.set q.1 (some q.2)) l
def setV : L2.St → List (Nat × V) → L2.St
  | σ, [] => σ
  | σ, q :: l => setV (σ.set q.1 (some q.2)) l
theorem setV_app : ∀ (a b : List (Nat × V)) (σ : L2.St), setV σ (a ++ b) = setV (setV σ a) b
  | [], _, _ => rfl
  | q :: a, b, σ => setV_app a b _
def DenI (K : PySem.W.Frag) (ι : List Addr) (H : Hp) : List (Nat × Dt) → List (Nat × V) → Prop
  | [], l => l = []
  | p :: ps, l => ∃ v r, l = (p.1, v) :: r ∧ Den K ι H p.2 v ∧ DenI K ι H ps r
theorem DenI.app : ∀ {a b : List (Nat × Dt)} {l : List (Nat × V)}, DenI K ι H (a ++ b) l → ∃ l1 l2, l = l1 ++ l2 ∧ DenI K ι H a l1 ∧ DenI K ι H b l2
  | [], _, l, h => ⟨[], l, rfl, rfl, h⟩
  | p :: a, b, _, h => by
    obtain ⟨v, r, e, d, q⟩ := (show ∃ v r, _ = (p.1, v) :: r ∧ Den K ι H p.2 v ∧ DenI K ι H (a ++ b) r from h)
    obtain ⟨l1, l2, e2, d1, d2⟩ := DenI.app (a := a) q
    exact ⟨(p.1, v) :: l1, l2, by rw [e, e2]; rfl, ⟨v, l1, rfl, d, d1⟩, d2⟩
theorem DenI.cat : ∀ {a b : List (Nat × Dt)} {l1 l2 : List (Nat × V)}, DenI K ι H a l1 → DenI K ι H b l2 → DenI K ι H (a ++ b) (l1 ++ l2)
  | [], _, _, _, h, k => by
    have h : _ = [] := h
    rw [h]; exact k
  | p :: a, b, _, _, h, k => by
    obtain ⟨v, r, e, d, q⟩ := (show ∃ v r, _ = (p.1, v) :: r ∧ Den K ι H p.2 v ∧ DenI K ι H a r from h)
    rw [e]
    exact ⟨v, _, rfl, d, q.cat k⟩
theorem RepS.set {ρ : Rho} {σ : L2.St} {i : Nat} {d : Dt} {v : V} (r : RepS K ι H ρ σ) (x : Den K ι H d v) : RepS K ι H (ρ.set i (some d)) (σ.set i (some v)) := ⟨by simp [r.len], fun j d' e => by
  by_cases hj : i = j
  · subst hj
    by_cases hl : i < ρ.length
    · rw [List.getElem?_set_self hl] at e
      cases e
      exact ⟨v, by rw [List.getElem?_set_self (by rw [← r.len]; exact hl)], x⟩
    · rw [List.getElem?_eq_none (by simpa using hl)] at e; cases e
  · rw [List.getElem?_set_ne hj] at e ⊢
    exact r.at_ j d' e⟩
theorem RepS.sets : ∀ {l : List (Nat × Dt)} {l' : List (Nat × V)} {ρ : Rho} {σ : L2.St}, RepS K ι H ρ σ → DenI K ι H l l' → RepS K ι H (setR ρ l) (setV σ l')
  | [], _, _, _, r, h => by
    have h : _ = [] := h
    rw [h]; exact r
  | p :: l, _, _, _, r, h => by
    obtain ⟨v, r', e, d, q⟩ := (show ∃ v r, _ = (p.1, v) :: r ∧ Den K ι H p.2 v ∧ DenI K ι H l r from h)
    rw [e]
    exact RepS.sets (l := l) (l' := r') (r.set d) q
/-- a pattern as a target: what it binds -/
def gPat (K : PySem.W.Frag) (pt : Pat) : TG := fun v σ H Q => ∃ ι d l, Den K ι H d v ∧ bindP pt d = some l ∧ ∀ l', DenI K ι H l l' → Q (setV σ l') H
def gPats (K : PySem.W.Frag) (ps : List Pat) : TGs := fun vs σ H Q => ∃ ι ds l, Dens K ι H ds vs ∧ bindPs ps ds = some l ∧ ∀ l', DenI K ι H l l' → Q (setV σ l') H
theorem _root_.L2.PG.imp {X : Cx} {e : Expr} {t t' : TG} (h : PG X e t) (i : ∀ v σ H Q, t' v σ H Q → t v σ H Q) : PG X e t' := ⟨fun pins s σ H v u Q I r q => h.run pins s σ H v u Q I r (i _ _ _ _ q)⟩
theorem _root_.L2.PGs.imp {X : Cx} {e : List Expr} {t t' : TGs} (h : PGs X e t) (i : ∀ v σ H Q, t' v σ H Q → t v σ H Q) : PGs X e t' := ⟨fun pins s σ H v u Q I r q => h.run pins s σ H v u Q I r (i _ _ _ _ q)⟩
abbrev SimG (X : Cx) (pt : Pat) (e : Expr) : Prop := PG X e (gPat X.K pt)
abbrev SimGs (X : Cx) (ps : List Pat) (e : List Expr) : Prop := PGs X e (gPats X.K ps)
theorem g_nm {i : Nat} (h : PG X e (gName i)) : SimG X (.nm i) e := h.imp fun v σ H Q q => by
  obtain ⟨ι, d, l, dv, hb, k⟩ := q
  have hb : some [(i, d)] = some l := hb
  cases hb
  exact k [(i, v)] ⟨v, [], rfl, dv, rfl⟩
theorem gs_nil : SimGs X [] [] := pgs_nil.imp fun v σ H Q q => by
  obtain ⟨ι, ds, l, dv, hb, k⟩ := q
  cases ds with
  | nil =>
    have hb : some [] = some l := hb
    cases hb
    exact ⟨dv, k [] rfl⟩
  | cons _ _ => cases hb
theorem gs_cons {pt : Pat} {ps : List Pat} (h1 : SimG X pt e) (h2 : SimGs X ps es) (hs : (assignEach (e :: es) X.env).map (·.2) = assign e X.env :: (assignEach es X.env).map (·.2) := by rfl) : SimGs X (pt :: ps) (e :: es) := (pgs_cons h1 h2 hs).imp fun vs σ H Q q => by
  obtain ⟨ι, ds, l, dv, hb, k⟩ := q
  cases ds with
  | nil => cases hb
  | cons d ds =>
    obtain ⟨v, r, e1, dv1, dv2⟩ := dv.uncons
    refine ⟨v, r, e1, ?_⟩
    have hb : (match bindP pt d, bindPs ps ds with
      | some a, some b => some (a ++ b)
      | _, _ => none) = some l := hb
    cases b1 : bindP pt d with
    | none => rw [b1] at hb; cases hb
    | some x =>
      cases b2 : bindPs ps ds with
      | none => rw [b1, b2] at hb; cases hb
      | some y =>
        rw [b1, b2] at hb
        cases hb
        refine ⟨ι, d, x, dv1, b1, fun l1 q1 => ⟨ι, ds, y, dv2, b2, fun l2 q2 => ?_⟩⟩
        rw [← setV_app]
        exact k _ (q1.cat q2)
theorem g_tup {ps : List Pat} {k n : Nat} (hc : X.calm = true) (h : SimGs X ps es) (hn : (assignEach es X.env).length = n := by rfl) (hp : ps.length = n := by rfl) (hst : (assignEach es X.env).findIdx? (·.1) = none := by rfl) : SimG X (.tup ps) (.Tuple es k pos) := (pg_tup hc h hn hst).imp fun v σ H Q q => by
  obtain ⟨ι, d, l, dv, hb, k⟩ := q
  cases d with
  | tup ds =>
    obtain ⟨a, vs, rfl, sq, dd⟩ := dv
    have hb : bindPs ps ds = some l := hb
    have hl : ∀ {ps : List Pat} {ds : List Dt} {l : List (Nat × Dt)}, bindPs ps ds = some l → ds.length = ps.length := by
      intro ps
      induction ps with
      | nil => intro ds l e; cases ds with
        | nil => rfl
        | cons _ _ => cases e
      | cons p ps ih => intro ds l e; cases ds with
        | nil => cases e
        | cons d ds =>
          have e : (match bindP p d, bindPs ps ds with
            | some a, some b => some (a ++ b)
            | _, _ => none) = some l := e
          cases b1 : bindP p d with
          | none => rw [b1] at e; cases e
          | some x =>
            cases b2 : bindPs ps ds with
            | none => rw [b1, b2] at e; cases e
            | some y => rw [List.length_cons, List.length_cons, ih b2]
    exact ⟨a, vs, rfl, sq, by rw [← dd.length, hl hb, hp], ι, ds, l, dd, hb, k⟩
  | _ => cases hb
def sSet (pt : Pat) (m : ME) : MS := fun ρ h => (m ρ h).stm ρ fun d h1 => match bindP pt d with
  | some l => .next (setR ρ l) h1
  | none => .bad
theorem sSet_imp {pt : Pat} {D : Ends} {σ : L2.St} (q : tS K W (sSet pt m) D σ H) : tAsg (tE K W m) (gPat K pt) D σ H := by
  obtain ⟨ι, ρ, h, rs, rh, k⟩ := q
  refine ⟨ι, ρ, h, rs, rh, (OkS.stm (R := Den K) rs k).mono fun x H1 ⟨ι1, d, h1, e1, r1, dx, k1⟩ => ?_⟩
  cases hb : bindP pt d with
  | none => rw [hb] at k1; exact k1.elim
  | some l =>
    rw [hb] at k1
    exact ⟨ι1, d, l, dx, hb, fun l' q => k1 ι1 H1 _ .refl r1 ((rs.mono e1).sets q)⟩
theorem s_asg {tg : Expr} {pt : Pat} (he : SimE X ma a) (hg : SimG X pt tg) (hs : swapsWithSole [tg] a pos.line X.env = pure false := by rfl) (hw : swappedStores [tg] a X.env = pure none := by rfl)
    (h1 : (assignEach [tg] X.env).map (·.2) = [assign tg X.env] := by rfl) : SimS X (sSet pt ma) (.Assign [tg] a pos) := fun W tk => (ps_asg (he W tk) hg hs hw h1).imp fun _ _ _ q => sSet_imp q
theorem s_set {i : Nat} {x : Str} {pos' : Pos} (hN : X.N.Nodup) (hi : X.N[i]? = some x) (hx : Loc X.env.scope x) (he : SimE X ma a) (hs : swapsWith a (some (.Name x pos')) pos.line X.env = pure false := by rfl) (hf : X.fn x = true ∨ X.env.scope.names.lookup x = some .local := by first | exact .inl rfl | exact .inr rfl | assumption) :
    SimS X (sSet (.nm i) ma) (.Assign [.Name x pos'] a pos) := fun W tk => (ps_set hN hi hx (he W tk) hs hf).imp fun D σ H q => by
  obtain ⟨ι, ρ, h, rs, rh, k⟩ := sSet_imp q
  refine ⟨ι, ρ, h, rs, rh, k.mono fun x H1 ⟨ι1, d, l, dv, hb, kk⟩ => ?_⟩
  have hb : some [(i, d)] = some l := hb
  cases hb
  exact kk [(i, x)] ⟨x, [], rfl, dv, rfl⟩
/-- a, b = x, y: plain local names -/
def sPar (i j : Nat) (m : MA) : MS := fun ρ h => (m ρ h).stm ρ fun ds h1 => match ds with
  | [d, e] => .next ((ρ.set i (some d)).set j (some e)) h1
  | _ => .bad
theorem s_par {i j : Nat} {x y : Str} {px py pt pt2 : Pos} {kt k2 : Nat} (hc : X.calm = true) (hN : X.N.Nodup) (hi : X.N[i]? = some x) (hj : X.N[j]? = some y) (hij : i ≠ j)
    (hx : X.env.scope.names.lookup x = some .local) (hy : X.env.scope.names.lookup y = some .local) (ha : SimA X as [a, b])
    (hw : swappedStores [.Tuple [.Name x px, .Name y py] kt pt] (.Tuple [a, b] k2 pt2) X.env = pure (some [x, y]))
    (hs : swapsWithSole [.Tuple [.Name x px, .Name y py] kt pt] (.Tuple [a, b] k2 pt2) pos.line X.env = pure false := by rfl) :
    SimS X (sPar i j as) (.Assign [.Tuple [.Name x px, .Name y py] kt pt] (.Tuple [a, b] k2 pt2) pos) := fun W tk => (ps_par hc hN hi hj hij hx hy (ha W tk) hw hs).imp fun D σ H ⟨ι, ρ, h, rs, rh, k⟩ => by
  refine ⟨ι, ρ, h, rs, rh, (OkS.stm (R := Dens X.K) rs k).mono fun xs H1 ⟨ι1, ds, h1, e1, r1, dx, k1⟩ => ?_⟩
  match ds, dx, k1 with
  | [d, e], dx, k1 =>
    obtain ⟨v, r, rfl, dv, dr⟩ := dx.uncons
    obtain ⟨w, r', rfl, dw, dr'⟩ := dr.uncons
    obtain rfl : r' = [] := dr'
    exact ⟨v, w, rfl, k1 ι1 H1 _ .refl r1 (((rs.mono e1).set dv).set dw)⟩
  | [], _, k1 => exact (show False from k1).elim
  | [_], _, k1 => exact (show False from k1).elim
  | _ :: _ :: _ :: _, _, k1 => exact (show False from k1).elim
/-- o[i] = e: a primitive store -/
def rSet (K : PySem.W.Frag) (f : Dt → Dt → Dt → CH → Option CH) : TSet := fun o i v H Q => ∃ ι h d e x, RepH K ι H h ∧ Den K ι H d o ∧ Den K ι H e i ∧ Den K ι H x v ∧ match f d e x h with
  | some h' => ∀ ι' H', Ext ι H ι' H' → RepH K ι' H' h' → Q H'
  | none => False
def sStore (f : Dt → Dt → Dt → CH → Option CH) (m mo mi : ME) : MS := fun ρ h => (m ρ h).stm ρ fun v h1 => (mo ρ h1).stm ρ fun d h2 => (mi ρ h2).stm ρ fun e h3 => match f d e v h3 with
  | some h4 => .next ρ h4
  | none => .bad
theorem s_store {i : Expr} {p' : Pos} {mi mo : ME} {f : Dt → Dt → Dt → CH → Option CH} (hf : PSet X (rSet X.K f)) (he : SimE X ma a) (ho : SimE X mo o) (hi : SimE X mi i) (hs : swapsWithSole [.Subscript o i p'] a pos.line X.env = pure false := by rfl) (hw : swappedStores [.Subscript o i p'] a X.env = pure none := by rfl)
    (ha : ∀ v, assign (.Subscript o i p') X.env v = (do
      let ov ← holding [v] (eval o X.env)
      let iv ← holding [v, ov] (eval i X.env)
      standAt p'
      holding [v, ov, iv] (setItem ov iv v)
      release [v, ov, iv] []) := by intro _; rfl) (h1 : (assignEach [.Subscript o i p'] X.env).map (·.2) = [assign (.Subscript o i p') X.env] := by rfl) :
    SimS X (sStore f ma mo mi) (.Assign [.Subscript o i p'] a pos) := fun W tk => (ps_asg (he W tk) (pg_sub (ho W tk) (hi W tk) hf ha) hs hw h1).imp fun D σ H ⟨ι, ρ, h, rs, rh, k⟩ => by
  refine ⟨ι, ρ, h, rs, rh, (OkS.stm (R := Den X.K) rs k).mono fun v H1 ⟨ι1, x, h1, e1, r1, dx, k1⟩ => ?_⟩
  refine ⟨ι1, ρ, h1, rs.mono e1, r1, (OkS.stm (R := Den X.K) (rs.mono e1) k1).mono fun ov H2 ⟨ι2, d, h2, e2, r2, dd, k2⟩ => ?_⟩
  refine ⟨ι2, ρ, h2, (rs.mono e1).mono e2, r2, (OkS.stm (R := Den X.K) ((rs.mono e1).mono e2) k2).mono fun iv H3 ⟨ι3, e, h3, e3, r3, de, k3⟩ => ?_⟩
  refine ⟨ι3, h3, d, e, x, r3, dd.mono e3, de, dx.mono (e2.trans e3), ?_⟩
  cases hq : f d e x h3 with
  | none => rw [hq] at k3; exact k3.elim
  | some h4 => rw [hq] at k3; exact fun ι' H' e' r' => k3 ι' H' σ e' r' (((rs.mono e1).mono e2).mono (e3.trans e'))
/-- o.f = e, o an instance -/
def putD (f : Str) (d : Dt) : List (Str × Dt) → List (Str × Dt)
  | [] => [(f, d)]
  | (g, x) :: r => if g = f then (g, d) :: r else (g, x) :: putD f d r
theorem DenF.put {f : Str} {d : Dt} {v : V} (x : Den K ι H d v) : ∀ {fs : List (Str × Dt)} {fs' : List (Str × V)}, DenF K ι H fs fs' → DenF K ι H (putD f d fs) (putF f v fs')
  | [], _, r => by
    have r : _ = [] := r
    subst r
    exact ⟨v, [], rfl, x, rfl⟩
  | (g, y) :: fs, _, r => by
    obtain ⟨w, r', e, dw, q⟩ := (show ∃ v r, _ = (g, v) :: r ∧ Den K ι H y v ∧ DenF K ι H fs r from r)
    subst e
    show DenF K ι H (if g = f then (g, d) :: fs else (g, y) :: putD f d fs) (if g = f then (g, v) :: r' else (g, w) :: putF f v r')
    by_cases h : g = f
    · rw [if_pos h, if_pos h]; exact ⟨v, r', rfl, x, q⟩
    · rw [if_neg h, if_neg h]; exact ⟨w, _, rfl, dw, DenF.put x q⟩
theorem DenF.length : ∀ {fs : List (Str × Dt)} {fs' : List (Str × V)}, DenF K ι H fs fs' → fs.length = fs'.length
  | [], _, r => by
    have r : _ = [] := r
    subst r; rfl
  | p :: fs, _, r => by
    obtain ⟨w, r', e, dw, q⟩ := (show ∃ v r, _ = (p.1, v) :: r ∧ Den K ι H p.2 v ∧ DenF K ι H fs r from r)
    rw [e, List.length_cons, List.length_cons, q.length]
def putIns (c f : Str) (d x : Dt) (h : CH) : Option CH := match d with
  | .ref n => match h[n]? with
    | some (.ins c' fs) => if c' = c ∧ fs.length < 1000 then some (h.set n (.ins c' (putD f x fs))) else none
    | _ => none
  | _ => none
def sFldS (c f : Str) (m mo : ME) : MS := fun ρ h => (m ρ h).stm ρ fun v h1 => (mo ρ h1).stm ρ fun d h2 => match putIns c f d v h2 with
  | some h3 => .next ρ h3
  | none => .bad
theorem s_fldS {f c' : Str} {pos' : Pos} {mo : ME} (ho : SimE X mo o) (he : SimE X ma a) (cl : Cls X.K (He.ga X.K c')) (na : NoAttr X.K (He.ga X.K c') f) (hs : swapsWith a (some (.Attribute o f pos')) pos.line X.env = pure false := by rfl) :
    SimS X (sFldS c' f ma mo) (.Assign [.Attribute o f pos'] a pos) := fun W tk => (ps_fld (ho W tk) (he W tk) hs).imp fun D σ H ⟨ι, ρ, h, rs, rh, k⟩ => by
  refine ⟨ι, ρ, h, rs, rh, (OkS.stm (R := Den X.K) rs k).mono fun v H1 ⟨ι1, x, h1, e1, r1, dx, k1⟩ => ?_⟩
  refine ⟨ι1, ρ, h1, rs.mono e1, r1, (OkS.stm (R := Den X.K) (rs.mono e1) k1).mono fun ov H2 ⟨ι2, d, h2, e2, r2, dd, k2⟩ => ?_⟩
  cases d with
  | ref n =>
    obtain ⟨p, rfl, hn⟩ := dd
    obtain ⟨ce, u, hc, hu, dc⟩ := r2.of hn
    unfold putIns at k2
    dsimp only at k2
    rw [hc] at k2
    cases ce with
    | ins c2 fs =>
      dsimp only at k2
      split at k2
      · rename_i h3 q
        split at q
        · rename_i qq
          cases q
          obtain ⟨rfl, hl⟩ := qq
          obtain ⟨dxx, fs', rfl, df⟩ := dc
          refine ⟨p, _, dxx, fs', rfl, hu, cl, na, by rw [← df.length]; exact hl, ?_⟩
          have ee : Ext ι2 H2 ι2 (upd H2 p (.ins (He.ga X.K c2) dxx (putF f v fs'))) := .write hn hu (fun z => z.elim id (by intro z; cases z)) rfl
          exact k2 ι2 _ σ ee (r2.write hn hu (fun z => z.elim id (by intro z; cases z)) rfl ⟨dxx, _, rfl, (DenF.put (dx.mono e2) df).mono ee⟩) (((rs.mono e1).mono e2).mono ee)
        · cases q
      · exact k2.elim
    | _ => exact k2.elim
  | _ => exact k2.elim
end
end Cl
namespace Cl
open PySem PySem.Spec PyProof.Rows L2
section
variable {X : Cx} {K : PySem.W.Frag} {W : WX} {ι ι1 : List Addr} {H H1 : Hp} {a b c e o iter tg : Expr} {es : List Expr} {pos p apos : Pos} {ma mb mc m : ME} {mt : MT} {as bs : MA} {st : Stmt} {sts body : List Stmt} {sa sb : MS}

/-! ## while: at most n turns are looked at -/
def sWh (t : MT) (b : MS) : Nat → MS
  | 0 => fun _ _ => .bad
  | n + 1 => fun ρ h => (t ρ h).stm ρ fun c h1 => if c = true then (match b ρ h1 with
    | .next ρ2 h2 => sWh t b n ρ2 h2
    | .cont ρ2 h2 => sWh t b n ρ2 h2
    | .brk ρ2 h2 => .next ρ2 h2
    | o => o) else .next ρ h1
theorem s_while {n : Nat} (hp : PassesOwn (model X.prog X.w) X.A X.env X.xe) (hc : SimT X mt c) (hb : SimB X sb body) : SimS X (sWh mt sb n) (.While c body [] pos) := fun W tk => (ps_while hp (hc W tk) (hb W tk)).imp fun D σ H ⟨ι, ρ, h, rs, rh, k⟩ => by
  refine ⟨fun m σ H => ∃ ι ρ h, RepS X.K ι H ρ σ ∧ RepH X.K ι H h ∧ OkS X.K W ι H (sWh mt sb m ρ h) D, ⟨n, ι, ρ, h, rs, rh, k⟩, ?_⟩
  rintro m σ H ⟨ι, ρ, h, rs, rh, k⟩
  cases m with
  | zero => exact k.elim
  | succ m =>
    refine ⟨ι, ρ, h, rs, rh, (OkS.stm (R := fun _ _ (a b : Bool) => a = b) rs k).mono fun x H1 ⟨ι1, d, h1, e1, r1, dx, k1⟩ => ?_⟩
    subst dx
    cases d with
    | false => rw [if_neg Bool.false_ne_true] at k1 ⊢; exact okNext (rs.mono e1) r1 k1
    | true =>
      rw [if_pos rfl] at k1 ⊢
      refine ⟨fun σ' H' => ∃ ι ρ h, RepS X.K ι H' ρ σ' ∧ RepH X.K ι H' h ∧ OkS X.K W ι H' (sWh mt sb m ρ h) D, fun σ' H' q => ⟨m, Nat.lt_succ_self m, q⟩, ι1, ρ, h1, rs.mono e1, r1, ?_⟩
      cases q : sb ρ h1 with
      | next ρ2 h2 => rw [q] at k1; exact fun ι' H' σ' e r s => ⟨ι', ρ2, h2, s, r, OkS.ext e k1⟩
      | cont ρ2 h2 => rw [q] at k1; exact fun ι' H' σ' e r s => ⟨ι', ρ2, h2, s, r, OkS.ext e k1⟩
      | brk ρ2 h2 => rw [q] at k1; exact k1
      | ret d h2 => rw [q] at k1; exact k1
      | exc c fs ρ2 h2 => rw [q] at k1; exact k1
      | bad => rw [q] at k1; exact k1

/-! ## what is walked: the items, and the cells that must stand as they are meanwhile -/
abbrev Gd := List (Nat × Ce)
def okG (gs : Gd) (h : CH) : Bool := gs.all fun g => decide (h[g.1]? = some g.2)
abbrev MI := Rho → CH → Out (List Dt × Gd)
/-- J yields just these items while the guards stand -/
def ItOk (K : PySem.W.Frag) (ι : List Addr) (H : Hp) (items : List Dt) (gs : Gd) (J : It) : Prop :=
  ∀ ι2 H2 h2, Ext ι H ι2 H2 → RepH K ι2 H2 h2 → okG gs h2 = true →
    (∀ i d, items[i]? = some d → J.go i H2 ∧ ∀ x H3, J.yld i H2 x H3 → Ext ι2 H2 ι2 H3 ∧ RepH K ι2 H3 h2 ∧ Den K ι2 H3 d x) ∧ J.stop items.length H2
def tI (K : PySem.W.Frag) (W : WX) (m : MI) : TI := fun σ H R => ∃ ι ρ h, RepS K ι H ρ σ ∧ RepH K ι H h ∧ OkG K W σ ι H (fun ι' H' (a : List Dt × Gd) (J : It) => ItOk K ι' H' a.1 a.2 J) (m ρ h) R
theorem _root_.L2.PI.imp {X : Cx} {tg iter : Expr} {t t' : TI} (h : PI X tg iter t) (i : ∀ σ H R, t' σ H R → t σ H R) : PI X tg iter t' := ⟨fun pins s σ H R I q => h.run pins s σ H R I (i _ _ _ q)⟩
def SimI (X : Cx) (m : MI) (tg iter : Expr) : Prop := ∀ W, Takes X W → PI X tg iter (tI X.K W m)

/-! ## for -/
def forL (pt : Pat) (b : MS) (gs : Gd) : List Dt → MS
  | [] => fun ρ h => if okG gs h = true then .next ρ h else .bad
  | d :: r => fun ρ h => if okG gs h = true then (match bindP pt d with
    | some l => (match b (setR ρ l) h with
      | .next ρ2 h2 => forL pt b gs r ρ2 h2
      | .cont ρ2 h2 => forL pt b gs r ρ2 h2
      | .brk ρ2 h2 => .next ρ2 h2
      | o => o)
    | none => .bad) else .bad
def sFor (pt : Pat) (it : MI) (b : MS) : MS := fun ρ h => (it ρ h).stm ρ fun x h1 => forL pt b x.2 x.1 ρ h1
theorem drop_cons {α : Type} {l : List α} {i : Nat} {d : α} (h : l[i]? = some d) : l.drop i = d :: l.drop (i + 1) := by
  obtain ⟨hi, e⟩ := List.getElem?_eq_some_iff.mp h
  rw [List.drop_eq_getElem_cons hi, e]
theorem s_for {pt : Pat} {mi : MI} (hp : PassesOwn (model X.prog X.w) X.A X.env X.xe) (hc : X.calm = true) (hi : SimI X mi tg iter) (hg : SimG X pt tg) (hb : SimB X sb body) (hs : ∀ x, foldedSetIterable iter X.env x = pure x := by intro _; rfl) :
    SimS X (sFor pt mi sb) (.For tg iter body [] pos) := fun W tk => (ps_for hp hc (hi W tk) hg (hb W tk) hs).imp fun D σ H ⟨ι, ρ, h, rs, rh, k⟩ => by
  refine ⟨ι, ρ, h, rs, rh, (OkS.stm (R := fun ι' H' (a : List Dt × Gd) (J : It) => ItOk X.K ι' H' a.1 a.2 J) rs k).mono fun J H1 ⟨ι1, x, h1, e1, r1, dJ, k1⟩ => ?_⟩
  obtain ⟨items, gs⟩ := x
  refine ⟨fun i m σ H2 => m = items.length - i ∧ i ≤ items.length ∧ ∃ ι2 ρ2 h2, Ext ι1 H1 ι2 H2 ∧ RepS X.K ι2 H2 ρ2 σ ∧ RepH X.K ι2 H2 h2 ∧ OkS X.K W ι2 H2 (forL pt sb gs (items.drop i) ρ2 h2) D,
    ⟨_, rfl, Nat.zero_le _, ι1, ρ, h1, .refl, rs.mono e1, r1, k1⟩, ?_⟩
  rintro i m σ H2 ⟨rfl, hle, ι2, ρ2, h2, e2, rs2, r2, k2⟩
  by_cases hlt : i < items.length
  · have hd : items[i]? = some items[i] := by simp [hlt]
    rw [drop_cons hd] at k2
    unfold forL at k2
    split at k2
    · rename_i hgk
      obtain ⟨i1, i2⟩ := dJ ι2 H2 h2 e2 r2 hgk
      obtain ⟨go, yl⟩ := i1 i _ hd
      cases hb : bindP pt items[i] with
      | none => rw [hb] at k2; exact k2.elim
      | some l =>
        rw [hb] at k2
        dsimp only at k2
        refine .inr ⟨go, fun σ' H' => ∃ ι2 ρ2 h2, Ext ι1 H1 ι2 H' ∧ RepS X.K ι2 H' ρ2 σ' ∧ RepH X.K ι2 H' h2 ∧ OkS X.K W ι2 H' (forL pt sb gs (items.drop (i + 1)) ρ2 h2) D, fun σ' H' q => ⟨_, by omega, rfl, hlt, q⟩, fun x H3 hy => ?_⟩
        obtain ⟨e3, r3, d3⟩ := yl x H3 hy
        refine ⟨ι2, _, l, d3, hb, fun l' hl' => ⟨ι2, setR ρ2 l, h2, (rs2.mono e3).sets hl', r3, ?_⟩⟩
        cases q : sb (setR ρ2 l) h2 with
        | next ρ4 h4 => rw [q] at k2; exact fun ι' H' σ' e r s => ⟨ι', ρ4, h4, e2.trans (e3.trans e), s, r, OkS.ext (e3.trans e) k2⟩
        | cont ρ4 h4 => rw [q] at k2; exact fun ι' H' σ' e r s => ⟨ι', ρ4, h4, e2.trans (e3.trans e), s, r, OkS.ext (e3.trans e) k2⟩
        | brk ρ4 h4 => rw [q] at k2; exact fun ι' H' σ' e r s => (OkS.ext e3 k2) ι' H' σ' e r s
        | ret d h4 => rw [q] at k2; exact (OkS.ext e3 k2)
        | exc c fs ρ4 h4 => rw [q] at k2; exact (OkS.ext e3 k2)
        | bad => rw [q] at k2; exact k2.elim
    · exact k2.elim
  · have hi : i = items.length := by omega
    subst hi
    rw [List.drop_length] at k2
    unfold forL at k2
    split at k2
    · rename_i hgk
      obtain ⟨i1, i2⟩ := dJ ι2 H2 h2 e2 r2 hgk
      exact .inl ⟨i2, okNext rs2 r2 k2⟩
    · exact k2.elim

/-! ## [elt for target in iter if ..] -/
mutual
def patIx : Pat → List Nat
  | .nm i => [i]
  | .tup ps => patIxs ps
def patIxs : List Pat → List Nat
  | [] => []
  | p :: ps => patIx p ++ patIxs ps
end
def mYes : MT := fun _ h => .ok true h
/-- the items taken through, what is made of them -/
def lcL (pt : Pat) (t : MT) (m : ME) (gs : Gd) (ρ : Rho) : List Dt → List Dt → CH → Out (List Dt)
  | [], acc => fun h => if okG gs h = true then .ok acc h else .bad
  | d :: r, acc => fun h => if okG gs h = true then (match bindP pt d with
    | some l => (t (setR ρ l) h).noX.bind fun b h1 => if b = true then (m (setR ρ l) h1).noX.bind fun y h2 => if acc.length < sizeLine then lcL pt t m gs ρ r (acc ++ [y]) h2 else .bad else lcL pt t m gs ρ r acc h1
    | none => .bad) else .bad
def wipeR (ρ : Rho) : List Nat → Rho
  | [] => ρ
  | v :: vs => (wipeR ρ vs).set v none
def lcFin : List Dt → CH → Out Dt := fun ds h => .ok (.ref h.length) (h ++ [.lst ds])
def eLc (own : List Nat) (pt : Pat) (it : MI) (t : MT) (m : ME) : ME := fun ρ h => (it ρ h).bind fun x h1 => (lcL pt t m x.2 (wipeR ρ own) x.1 [] h1).bind lcFin
theorem RepS.unset {ρ : Rho} {σ : L2.St} {i : Nat} (r : RepS K ι H ρ σ) : RepS K ι H (ρ.set i none) (σ.set i none) := ⟨by simp [r.len], fun j d' e => by
  by_cases hj : i = j
  · subst hj
    by_cases hl : i < ρ.length
    · rw [List.getElem?_set_self hl] at e; cases e
    · rw [List.getElem?_eq_none (by simpa using hl)] at e; cases e
  · rw [List.getElem?_set_ne hj] at e ⊢
    exact r.at_ j d' e⟩
theorem RepS.wipe {ρ : Rho} {σ : L2.St} : ∀ {vs : List Nat}, RepS K ι H ρ σ → RepS K ι H (wipeR ρ vs) (L2.wipe σ vs)
  | [], r => r
  | v :: vs, r => (RepS.wipe (vs := vs) r).unset
theorem wipe_set {σ : L2.St} {v : Option V} {i : Nat} : ∀ {vs : List Nat}, i ∈ vs → L2.wipe (σ.set i v) vs = L2.wipe σ vs
  | w :: vs, h => by
    unfold L2.wipe
    by_cases q : i ∈ vs
    · rw [wipe_set q]
    · have : i = w := by
        rcases List.mem_cons.mp h with z | z
        · exact z
        · exact absurd z q
      subst this
      have key : ∀ {vs : List Nat} {σ : L2.St}, i ∉ vs → L2.wipe (σ.set i v) vs = (L2.wipe σ vs).set i v := by
        intro vs
        induction vs with
        | nil => intro σ _; rfl
        | cons w vs ih =>
          intro σ h
          unfold L2.wipe
          rw [ih fun z => h (List.mem_cons_of_mem _ z), List.set_comm _ _ fun z => h (by rw [z]; exact List.mem_cons_self)]
      rw [key q, List.set_set]
theorem wipe_sets {own : List Nat} : ∀ {l : List (Nat × V)} {σ : L2.St}, (∀ q ∈ l, q.1 ∈ own) → L2.wipe (setV σ l) own = L2.wipe σ own
  | [], _, _ => rfl
  | q :: l, σ, h => by
    show L2.wipe (setV (σ.set q.1 (some q.2)) l) own = _
    rw [wipe_sets fun x hx => h x (List.mem_cons_of_mem _ hx), wipe_set (h q List.mem_cons_self)]
theorem wipe_wipe {σ : L2.St} {own : List Nat} : L2.wipe (L2.wipe σ own) own = L2.wipe σ own := by
  have key : ∀ {vs : List Nat} {σ : L2.St}, (∀ v ∈ vs, v ∈ own) → L2.wipe (L2.wipe σ vs) own = L2.wipe σ own := by
    intro vs
    induction vs with
    | nil => intro σ _; rfl
    | cons w vs ih =>
      intro σ h
      show L2.wipe ((L2.wipe σ vs).set w none) own = _
      rw [wipe_set (h w List.mem_cons_self), ih fun v hv => h v (List.mem_cons_of_mem _ hv)]
  exact key fun v h => h
mutual
theorem bindP_ix : ∀ {pt : Pat} {d : Dt} {l : List (Nat × Dt)}, bindP pt d = some l → l.map (·.1) = patIx pt
  | .nm i, d, l, h => by
    have h : some [(i, d)] = some l := h
    cases h; rfl
  | .tup ps, d, l, h => by
    cases d with
    | tup ds => exact bindPs_ix (show bindPs ps ds = some l from h)
    | _ => cases h
theorem bindPs_ix : ∀ {ps : List Pat} {ds : List Dt} {l : List (Nat × Dt)}, bindPs ps ds = some l → l.map (·.1) = patIxs ps
  | [], [], l, h => by
    have h : some [] = some l := h
    cases h; rfl
  | [], _ :: _, _, h => by cases h
  | _ :: _, [], _, h => by cases h
  | p :: ps, d :: ds, l, h => by
    have h : (match bindP p d, bindPs ps ds with
      | some a, some b => some (a ++ b)
      | _, _ => none) = some l := h
    cases b1 : bindP p d with
    | none => rw [b1] at h; cases h
    | some x =>
      cases b2 : bindPs ps ds with
      | none => rw [b1, b2] at h; cases h
      | some y =>
        rw [b1, b2] at h
        cases h
        rw [List.map_append, bindP_ix b1, bindPs_ix b2]; rfl
end
theorem DenI.ix : ∀ {l : List (Nat × Dt)} {l' : List (Nat × V)}, DenI K ι H l l' → l'.map (·.1) = l.map (·.1)
  | [], _, h => by
    have h : _ = [] := h
    rw [h]; rfl
  | p :: l, _, h => by
    obtain ⟨v, r, e, _, q⟩ := (show ∃ v r, _ = (p.1, v) :: r ∧ Den K ι H p.2 v ∧ DenI K ι H l r from h)
    rw [e, List.map_cons, List.map_cons, DenI.ix q]
abbrev W0 : WX := fun _ _ _ _ => False
theorem Ext.notMem {ι ι2 : List Addr} {H H2 : Hp} {D : Addr} {u : HO} (e : Ext ι H ι2 H2) (hD : H D = some u) (n : D ∉ ι) (nt : isTbl u = false := by rfl) : D ∉ ι2 ∧ H2 D = some u := by
  obtain ⟨l, q, fr⟩ := e.pre
  refine ⟨fun z => ?_, e.frm D u hD n nt⟩
  rw [q] at z
  rcases List.mem_append.mp z with z | z
  · exact n z
  · rw [fr D z u hD] at nt; cases nt
/-- behind a step of the list apart -/
theorem Ext.apart {ι ι2 : List Addr} {H H2 : Hp} {D : Addr} {u o : HO} (e : Ext ι H ι2 H2) (hD : H2 D = some u) (ns : ¬ Stb u) (n0 : H D = none) : Ext ι H ι2 (upd H2 D o) := by
  refine ⟨e.pre, fun a w q s => ?_, fun a w q nm nt => ?_, fun a q => ?_⟩
  · have : a ≠ D := fun z => by rw [z, n0] at q; cases q
    rw [upd_ne this]; exact e.stb a w q s
  · have : a ≠ D := fun z => by rw [z, n0] at q; cases q
    rw [upd_ne this]; exact e.frm a w q nm nt
  · by_cases z : a = D
    · rw [z]; exact .of n0
    · exact e.dom a fun o h => q o (by rw [upd_ne z]; exact h)
theorem eLc_imp {own : List Nat} {pt : Pat} {mi : MI} (hown : ∀ i ∈ patIx pt, i ∈ own) {σ : L2.St} {H : Hp} {Q : VK} (q : tE K W (eLc own pt mi mt m) σ H Q) :
    tLc (tI K W mi) (gPat K pt) (tTs K W0 mt) (tE K W0 m) own σ H Q := by
  obtain ⟨ι, ρ, h, rs, rh, ok⟩ := q
  refine ⟨ι, ρ, h, rs, rh, (OkG.bind (R := fun ι' H' (a : List Dt × Gd) (J : It) => ItOk K ι' H' a.1 a.2 J) ok).mono fun J H1 ⟨ι1, x, h1, e1, r1, dJ, k1⟩ => fun D hD => ?_⟩
  obtain ⟨items, gs⟩ := x
  have nlst : ∀ vs, ¬ Stb (.lst vs) := fun _ z => z
  have nfix : ∀ vs, ¬ Fix (.lst vs) := fun _ z => z.elim id (by intro z; cases z)
  refine ⟨fun i n H2 => n = items.length - i ∧ i ≤ items.length ∧ ∃ ι2 h2 acc accv, Ext ι1 H1 ι2 H2 ∧ H2 D = some (.lst accv) ∧ D ∉ ι2 ∧ RepH K ι2 H2 h2 ∧ Dens K ι2 H2 acc accv ∧
      OkG K W σ ι1 H1 (Den K) ((lcL pt mt m gs (wipeR ρ own) (items.drop i) acc h2).bind lcFin) Q, ⟨_, rfl, Nat.zero_le _, ι1, h1, [], [], .new hD, upd_same, fun z => r1.mem z hD, r1.new hD, rfl, k1⟩, ?_⟩
  rintro i n H2 ⟨rfl, hle, ι2, h2, acc, accv, e2, hD2, nD, r2, da, k2⟩
  by_cases hlt : i < items.length
  · have hd : items[i]? = some items[i] := by simp [hlt]
    rw [drop_cons hd] at k2
    unfold lcL at k2
    split at k2
    · rename_i hgk
      obtain ⟨i1, i2⟩ := dJ ι2 H2 h2 e2 r2 hgk
      obtain ⟨go, yl⟩ := i1 i _ hd
      cases hb : bindP pt items[i] with
      | none => rw [hb] at k2; exact k2.elim
      | some l =>
        rw [hb] at k2
        dsimp only at k2
        refine .inr ⟨go, fun H' => ∃ ι2 h2 acc accv, Ext ι1 H1 ι2 H' ∧ H' D = some (.lst accv) ∧ D ∉ ι2 ∧ RepH K ι2 H' h2 ∧ Dens K ι2 H' acc accv ∧
          OkG K W σ ι1 H1 (Den K) ((lcL pt mt m gs (wipeR ρ own) (items.drop (i + 1)) acc h2).bind lcFin) Q, fun H' q => ⟨_, by omega, rfl, hlt, q⟩, fun x H3 hy => ?_⟩
        obtain ⟨e3, r3, d3⟩ := yl x H3 hy
        refine ⟨ι2, _, l, d3, hb, fun l' hl' => ?_⟩
        have hix : ∀ q ∈ l', q.1 ∈ own := fun q hq => hown _ (by rw [← bindP_ix hb, ← DenI.ix hl']; exact List.mem_map.mpr ⟨q, hq, rfl⟩)
        refine ⟨by rw [wipe_sets hix, wipe_wipe], ?_⟩
        have rs2 : RepS K ι2 H3 (setR (wipeR ρ own) l) (setV (L2.wipe σ own) l') := (((rs.mono e1).mono e2).mono e3).wipe.sets hl'
        have bnd : ∀ {α β : Type} {o : Out α} {f : α → CH → Out β} {g : β → CH → Out Dt}, (o.bind f).bind g = o.bind fun a h => (f a h).bind g := by
          intro α β o f g; cases o <;> rfl
        rw [bnd] at k2
        have e13 := e2.trans e3
        obtain ⟨nD3, hD3⟩ := e3.notMem hD2 nD
        refine ⟨ι2, _, h2, rs2, r3, (OkG.bindX (R := fun _ _ (a b : Bool) => a = b) k2).mono fun b H4 ⟨ι4, bb, h4, e4, r4, eb, k4⟩ => ?_⟩
        subst eb
        obtain ⟨nD4, hD4⟩ := e4.notMem hD3 nD3
        cases bb with
        | false =>
          rw [if_neg Bool.false_ne_true] at k4 ⊢
          exact ⟨ι4, h4, acc, accv, e13.trans e4, hD4, nD4, r4, (da.mono e3).mono e4, k4⟩
        | true =>
          rw [if_pos rfl] at k4 ⊢
          rw [bnd] at k4
          refine ⟨ι4, _, h4, rs2.mono e4, r4, (OkG.bindX (R := Den K) k4).mono fun y H5 ⟨ι5, dy, h5, e5, r5, ddy, k5⟩ => ?_⟩
          obtain ⟨nD5, hD5⟩ := e5.notMem hD4 nD4
          split at k5
          · rename_i hsz
            have da5 : Dens K ι5 H5 acc accv := ((da.mono e3).mono e4).mono e5
            refine ⟨accv, hD5, by rw [← da.length]; exact hsz, ι5, h5, acc ++ [dy], accv ++ [y], ((e13.trans e4).trans e5).apart hD5 (nlst _) hD, upd_same, nD5, r5.apart nD5 hD5 (nfix _), ?_, k5⟩
            exact (da5.mono0 (.apart hD5 (nlst _))).app (.cons (ddy.mono0 (.apart hD5 (nlst _))) .nil)
          · exact k5.elim
    · exact k2.elim
  · have hi : i = items.length := by omega
    subst hi
    rw [List.drop_length] at k2
    unfold lcL at k2
    split at k2
    · rename_i hgk
      obtain ⟨i1, i2⟩ := dJ ι2 H2 h2 e2 r2 hgk
      refine .inl ⟨i2, ?_⟩
      have e0 : Ext0 ι2 H2 (ι2 ++ [D]) H2 := ⟨⟨[D], rfl⟩, fun _ _ e _ => e⟩
      have eE : Ext ι1 H1 (ι2 ++ [D]) H2 := by
        obtain ⟨l, q, fr⟩ := e2.pre
        refine ⟨⟨l ++ [D], by rw [q, List.append_assoc], fun a m => ?_⟩, e2.stb, e2.frm, e2.dom⟩
        rcases List.mem_append.mp m with m | m
        · exact fr a m
        · rw [List.mem_singleton.mp m]; exact .of hD
      exact k2 (ι2 ++ [D]) H2 (.ref D) eE (r2.adopt nD hD2 ⟨accv, rfl, da.mono0 e0⟩) ⟨D, rfl, by rw [← r2.len]; simp⟩
    · exact k2.elim
theorem takesW0 {X : Cx} : Takes X W0 := fun u s' ⟨a, B, sI, pins, σ, H, cls, d, e, I, nb, up, sky, na, os, ag, w⟩ => w.elim
abbrev Blk (X : Cx) (scope : Scope) (P : Cx → Prop) : Prop := ∀ (s : Shared) (H : Hp) (C : Addr) (cl : List (Str × Addr)) (fp : List Addr), P (X.blk s H scope (compEnvC scope cl C X.env) fp)
def SimTs (X : Cx) (m : MT) (ifs : List Expr) : Prop := ∀ W, Takes X W → PTs X ifs (tTs X.K W m)
theorem s_ifs0 : SimTs X mYes [] := fun W tk => ⟨fun pins s σ H Q I q => pts_nil.run pins s σ H Q I (by
  obtain ⟨ι, ρ, h, rs, rh, ok⟩ := q
  exact ok ι H true .refl rh rfl)⟩
theorem s_ifs1 (h : SimT X mt c) : SimTs X mt [c] := fun W tk => pts_one (h W tk)
theorem s_lc {elt : Expr} {ifs : List Expr} {scope : Scope} {own : List (Str × Nat)} {pt : Pat} {mi : MI} (hc : X.calm = true) (hN : X.N.Nodup) (hown : ∀ i ∈ patIx pt, i ∈ own.map (·.2)) (hi : SimI X mi tg iter) (ok : BlkOk X.N X.env.scope scope own)
    (hg : Blk X scope fun Y => SimG Y pt tg) (ht : Blk X scope fun Y => SimTs Y mt ifs) (he : Blk X scope fun Y => SimE Y m elt) (hs : ∀ x, foldedSetIterable iter X.env x = pure x := by intro _; rfl) :
    SimE X (eLc (own.map (·.2)) pt mi mt m) (.ListComp elt [⟨tg, iter, ifs, 0⟩] scope pos) := fun W tk =>
  (pe_lc hc hN (hi W tk) ok hg (fun s H C cl fp => ht s H C cl fp W0 takesW0) (fun s H C cl fp => he s H C cl fp W0 takesW0) hs).imp fun _ _ _ q => eLc_imp hown q
/-- name = [..] on one line -/
theorem s_setLc {i : Nat} {y : Str} {py : Pos} {elt : Expr} {ifs : List Expr} {scope : Scope} {own : List (Str × Nat)} {spos : Pos} {pt : Pat} {mi : MI} (hc : X.calm = true) (hN : X.N.Nodup) (hy : X.N[i]? = some y) (hyl : X.env.scope.names.lookup y = some .local)
    (hsw : swapsWith (.ListComp elt [⟨tg, iter, ifs, 0⟩] scope pos) (some (.Name y py)) spos.line X.env = pure true) (hown : ∀ i ∈ patIx pt, i ∈ own.map (·.2)) (hi : SimI X mi tg iter) (ok : BlkOk X.N X.env.scope scope own)
    (hg : Blk X scope fun Y => SimG Y pt tg) (ht : Blk X scope fun Y => SimTs Y mt ifs) (he : Blk X scope fun Y => SimE Y m elt) (hs : ∀ x, foldedSetIterable iter X.env x = pure x := by intro _; rfl) :
    SimS X (sSet (.nm i) (eLc (own.map (·.2)) pt mi mt m)) (.Assign [.Name y py] (.ListComp elt [⟨tg, iter, ifs, 0⟩] scope pos) spos) := fun W tk =>
  (ps_setLc hc hN hy hyl hsw (hi W tk) ok hg (fun s H C cl fp => ht s H C cl fp W0 takesW0) (fun s H C cl fp => he s H C cl fp W0 takesW0) hs).imp fun D σ H q => by
    obtain ⟨ι, ρ, h, rs, rh, k⟩ := sSet_imp q
    refine eLc_imp hown ⟨ι, ρ, h, rs, rh, k.mono fun x H1 ⟨ι1, d, l, dv, hb, kk⟩ => ?_⟩
    have hb : some [(i, d)] = some l := hb
    cases hb
    exact kk [(i, x)] ⟨x, [], rfl, dv, rfl⟩
end
end Cl
namespace Cl
open PySem PySem.Spec PyProof.Rows L2

/-! ## a def as a whole -/
def runB (m : MS) (n : Nat) : Fn := fun ds h => match m (ds.map some ++ List.replicate (n - ds.length) none) h with
  | .next _ h' => .ok .non h'
  | .ret d h' => .ok d h'
  | .exc c fs _ h' => .exc c fs h'
  | _ => .bad
theorem Dens.getE {K : PySem.W.Frag} {ι : List Addr} {H : Hp} {ds : List Dt} {vs : List V} (d : Dens K ι H ds vs) (n : Nat) : RepS K ι H (ds.map some ++ List.replicate (n - ds.length) none) (vs.map some ++ List.replicate (n - vs.length) none) := by
  refine ⟨by simp [d.length], fun i x e => ?_⟩
  by_cases hi : i < ds.length
  · rw [List.getElem?_append_left (by simpa using hi), List.getElem?_map] at e
    cases q : ds[i]? with
    | none => rw [q] at e; cases e
    | some y =>
      rw [q] at e
      cases e
      obtain ⟨v, hv, dv⟩ := d.get q
      exact ⟨v, by rw [List.getElem?_append_left (by simpa [← d.length] using hi), List.getElem?_map, hv]; rfl, dv⟩
  · rw [List.getElem?_append_right (by simpa using hi), List.getElem?_replicate] at e
    split at e <;> cases e
/-- the context of a def's body -/
abbrev cxg (g : Gw) (N : List Str) (qual : Str) (scope : Scope) (f : Addr) (cd : Value) (A : Around) (outer : List Env) (s : Shared) (H : Hp) (E : XK) : Cx := cxOf (L2.CX g.P g.w) g.P g.w g.K g.mg g.base N qual scope f cd A outer s H E
abbrev DefOkG (g : Gw) (k : Nat) (f : Addr) (fd : FuncData) (ps : List Str) (F : Fn) : Prop := DefOk g.P g.w g.K g.mg g.base k f fd ps F
theorem def_ok {g : Gw} {x qual : Str} {params : Arguments} {body : List Stmt} {scope : Scope} {dvs : List V} {kws : List (Str × V)} {f : Addr} {fd : FuncData} {N ps : List Str} {k n : Nat} {m : MS}
    (F : FunD g.K x qual params body scope dvs kws f fd) (S : FnScope N ps scope) (hn : N.length = n)
    (hb : ∀ (cd : Value) (A : Around) (outer : List Env) (s : Shared) (H : Hp) (E : XK), Room k (A.deeper (envOfC qual scope s.heap.objs.size f cd)) → SimB (cxg g N qual scope f cd A outer s H E) m body) :
    DefOkG g (k + 1) f fd ps (fnN ps.length (runB m n)) := by
  refine F.ok S (spOf_len (fnN_len _ _)) fun cd A outer s H vs Q E hr ⟨ι, ds, h, rh, dd, ok⟩ => ?_
  refine ⟨_, hb cd A outer s H E hr (fun cls d _ H => E cls d H) (takes_of rfl rfl rfl rfl), ?_⟩
  subst hn
  refine ⟨ι, _, h, dd.getE N.length, rh, ?_⟩
  unfold fnN at ok
  split at ok
  · unfold runB at ok
    cases q : m (ds.map some ++ List.replicate (N.length - ds.length) none) h with
    | next ρ h' => rw [q] at ok; exact fun ι' H' σ' e r s => ok ι' H' .non e r rfl
    | ret d h' => rw [q] at ok; exact fun ι' H' v e r x => ok ι' H' v e r x
    | exc c fs ρ h' => rw [q] at ok; exact fun ι' H' σ' dx fs' e r s x df => ok ι' H' dx fs' e r x df
    | brk ρ h' => rw [q] at ok; exact ok.elim
    | cont ρ h' => rw [q] at ok; exact ok.elim
    | bad => rw [q] at ok; exact ok.elim
  · exact ok.elim
theorem def_bad {g : Gw} {f : Addr} {fd : FuncData} {ps : List Str} {k : Nat} : DefOkG g k f fd ps (fun _ _ => .bad) :=
  ⟨fun vs H Q E ⟨ι, ds, h, _, _, ok⟩ => ok.elim, fun A outer s H args us vs Q E hr e0 hb r ⟨ι, ds, h, _, _, ok⟩ => ok.elim⟩
/-- a call's facts from a def without defaults -/
theorem call_of {g : Gw} {x y qual : Str} {params : Arguments} {body : List Stmt} {scope : Scope} {f : Addr} {fd : FuncData} {ps : List Str} {k : Nat} {F : Fn} (D : DefOkG g k f fd ps F) (hf : FunD g.K y qual params body scope [] [] f fd) (hm : g.mg x = some (.ref f)) (hb : Binds g.K fd ps []) : CallOk g k x [] F :=
  ⟨f, fd, ps, [], [], D, hm, hf.kp, hb, .nil, fun _ _ => rfl⟩
end Cl
namespace Cl
open PySem PySem.Spec PyProof.Rows L2

/-! ## own exceptions: __init__ -/
/-- self.called = s; self.f = a parameter, for each f of fs -/
def spX (C : Addr) (s : Str) (fs : List Str) : Sp := fun vs H Q _ => ∃ e ws, vs = .ref e :: ws ∧ ws.length = fs.length ∧ H e = some (exo e C none) ∧
  ∀ d H2, H d = none → d ≠ e → (∀ b, b ≠ e → b ≠ d → H2 b = H b) → H2 e = some (exo e C (some d)) → H2 d = some (exd d ((fs.zip ws).reverse ++ [(("called" : Str), V.str s)])) → Q .non H2
theorem spX_len {C : Addr} {s : Str} {fs : List Str} {n : Nat} (h : fs.length + 1 = n) : ∀ vs H Q E, spX C s fs vs H Q E → vs.length = n := fun vs H Q E ⟨e, ws, q, l, _⟩ => by
  rw [q, List.length_cons, l, h]
/-- what a raise of the class named c asks -/
structure XOk (g : Gw) (k : Nat) (c s : Str) (fs : List Str) : Prop where
  ex : ∃ (fI : Addr) (fd : FuncData) (ps : List Str), OexC g.K (He.ga g.K c) ∧ PySem.W.findIn g.K (.ref (He.ga g.K c)) "__init__" = some (some (.ref fI)) ∧ PySem.W.typeIn g.K (.ref fI) = some (.type "function") ∧
    FnOk g.P g.w g.K g.mg g.base (L2.CX g.P g.w) k fI fd ps (spX (He.ga g.K c) s fs) ∧ Binds g.K fd ps [] ∧ g.mg c = some (.ref (He.ga g.K c))
section
variable {g : Gw} {qual x0 : Str} {params : Arguments} {scope : Scope} {f C : Addr} {fd : FuncData} {s a0 a1 a2 f0 f1 f2 : Str} {j : Nat} {p1 p2 p3 p4 p5 p6 p7 p8 p9 q1 q2 q3 q4 : Pos}
theorem init_ok0 (F : FunD g.K x0 qual params [.Assign [.Attribute (.Name a0 p1) ("called" : Str) p2] (.Constant (.str s) j p3) p4] scope [] [] f fd) (S : FnScope [a0] [a0] scope)
    (T : OexC g.K C) (n0 : PySem.W.findIn g.K (.ref C) ("called" : Str) = some none) (l0 : scope.names.lookup a0 = some .local) (h0 : (a0 == ("__debug__" : Str)) = false := by decide) (h1 : (a0 == ("__classdict__" : Str)) = false := by decide) : FnOk g.P g.w g.K g.mg g.base (L2.CX g.P g.w) 1 f fd [a0] (spX C s []) := by
  refine F.ok S (spX_len rfl) fun cd A outer sh H vs Q E hr ⟨e, ws, ev, hl, he, k⟩ => ?_
  obtain rfl : ws = [] := List.length_eq_zero_iff.mp hl
  subst ev
  refine ⟨_, pss_one (ps_ost (pe_var (i := 0) rfl (.inl l0) h0 h1) pe_str rfl), ?_⟩
  exact ⟨_, rfl, e, C, rfl, T, n0, .inl ⟨he, fun d hd ne => k d _ hd ne (fun b h1 h2 => by rw [upd_ne h1, upd_ne h2]) upd_same (by rw [upd_ne ne, upd_same]; rfl)⟩⟩
theorem init_ok1 (F : FunD g.K x0 qual params [.Assign [.Attribute (.Name a0 p1) ("called" : Str) p2] (.Constant (.str s) j p3) p4, .Assign [.Attribute (.Name a0 q1) f1 q2] (.Name a1 q3) q4] scope [] [] f fd) (S : FnScope [a0, a1] [a0, a1] scope)
    (T : OexC g.K C) (n0 : PySem.W.findIn g.K (.ref C) ("called" : Str) = some none) (n1 : PySem.W.findIn g.K (.ref C) f1 = some none) (l0 : scope.names.lookup a0 = some .local) (l1 : scope.names.lookup a1 = some .local) (h0 : (a0 == ("__debug__" : Str)) = false := by decide) (h1 : (a0 == ("__classdict__" : Str)) = false := by decide)
    (h2 : (a1 == ("__debug__" : Str)) = false := by decide) (h3 : (a1 == ("__classdict__" : Str)) = false := by decide) : FnOk g.P g.w g.K g.mg g.base (L2.CX g.P g.w) 1 f fd [a0, a1] (spX C s [f1]) := by
  refine F.ok S (spX_len rfl) fun cd A outer sh H vs Q E hr ⟨e, ws, ev, hl, he, k⟩ => ?_
  match ws, hl with
  | [w1], _ =>
  subst ev
  refine ⟨_, pss_cons (ps_ost (pe_var (i := 0) rfl (.inl l0) h0 h1) pe_str rfl) (pss_one (ps_ost (pe_var (i := 0) rfl (.inl l0) h0 h1) (pe_var (i := 1) rfl (.inl l1) h2 h3) rfl)), ?_⟩
  refine ⟨_, rfl, e, C, rfl, T, n0, .inl ⟨he, fun d hd ne => ?_⟩⟩
  refine ⟨_, rfl, _, rfl, e, C, rfl, T, n1, .inr ⟨d, [(("called" : Str), V.str s)], upd_same, by rw [upd_ne ne, upd_same], (by decide : 1 ≤ 900), ?_⟩⟩
  exact k d _ hd ne (fun b h1 h2 => by rw [upd_ne h2, upd_ne h1, upd_ne h2]) (by rw [upd_ne (Ne.symm ne), upd_same]) (by rw [upd_same]; rfl)
theorem init_ok2 (F : FunD g.K x0 qual params [.Assign [.Attribute (.Name a0 p1) ("called" : Str) p2] (.Constant (.str s) j p3) p4, .Assign [.Attribute (.Name a0 q1) f1 q2] (.Name a1 q3) q4, .Assign [.Attribute (.Name a0 p5) f2 p6] (.Name a2 p7) p8] scope [] [] f fd) (S : FnScope [a0, a1, a2] [a0, a1, a2] scope)
    (T : OexC g.K C) (n0 : PySem.W.findIn g.K (.ref C) ("called" : Str) = some none) (n1 : PySem.W.findIn g.K (.ref C) f1 = some none) (n2 : PySem.W.findIn g.K (.ref C) f2 = some none) (l0 : scope.names.lookup a0 = some .local) (l1 : scope.names.lookup a1 = some .local) (l2 : scope.names.lookup a2 = some .local)
    (h0 : (a0 == ("__debug__" : Str)) = false := by decide) (h1 : (a0 == ("__classdict__" : Str)) = false := by decide) (h2 : (a1 == ("__debug__" : Str)) = false := by decide) (h3 : (a1 == ("__classdict__" : Str)) = false := by decide)
    (h4 : (a2 == ("__debug__" : Str)) = false := by decide) (h5 : (a2 == ("__classdict__" : Str)) = false := by decide) : FnOk g.P g.w g.K g.mg g.base (L2.CX g.P g.w) 1 f fd [a0, a1, a2] (spX C s [f1, f2]) := by
  refine F.ok S (spX_len rfl) fun cd A outer sh H vs Q E hr ⟨e, ws, ev, hl, he, k⟩ => ?_
  match ws, hl with
  | [w1, w2], _ =>
  subst ev
  refine ⟨_, pss_cons (ps_ost (pe_var (i := 0) rfl (.inl l0) h0 h1) pe_str rfl) (pss_cons (ps_ost (pe_var (i := 0) rfl (.inl l0) h0 h1) (pe_var (i := 1) rfl (.inl l1) h2 h3) rfl) (pss_one (ps_ost (pe_var (i := 0) rfl (.inl l0) h0 h1) (pe_var (i := 2) rfl (.inl l2) h4 h5) rfl))), ?_⟩
  refine ⟨_, rfl, e, C, rfl, T, n0, .inl ⟨he, fun d hd ne => ?_⟩⟩
  refine ⟨_, rfl, _, rfl, e, C, rfl, T, n1, .inr ⟨d, [(("called" : Str), V.str s)], upd_same, by rw [upd_ne ne, upd_same], (by decide : 1 ≤ 900), ?_⟩⟩
  refine ⟨_, rfl, _, rfl, e, C, rfl, T, n2, .inr ⟨d, [(f1, w1), (("called" : Str), V.str s)], by rw [upd_ne (Ne.symm ne), upd_same], upd_same, (by decide : 2 ≤ 900), ?_⟩⟩
  exact k d _ hd ne (fun b h1 h2 => by rw [upd_ne h2, upd_ne h2, upd_ne h1, upd_ne h2]) (by rw [upd_ne (Ne.symm ne), upd_ne (Ne.symm ne), upd_same]) (by rw [upd_same]; rfl)
end

/-! ## raise C(e, ..) -/
/-- pmk_oex without arguments -/
theorem pmk_oex0 {X : Cx} {CX : CXT} {x : Str} {p pos : Pos} {C fI : Addr} {k : Nat} {fd : FuncData} {ps : List Str} {sp : Sp} (T : OexC X.K C) (iC : PySem.W.findIn X.K (.ref C) "__init__" = some (some (.ref fI))) (tI : PySem.W.typeIn X.K (.ref fI) = some (.type "function"))
    (F1 : FnOk X.prog X.w X.K X.mg X.base CX k fI fd ps sp) (hr : Room (k + 1) X.A) (hb : Binds X.K fd ps []) (hx : Passes CX X (fun _ _ _ => False)) (hg : Gl X x) (hm : X.mg x = some (.ref C))
    (hdb : (x == ("__debug__" : Str)) = false := by decide) :
    PMk X (.Call (.Name x p) [] [] pos) (tMkO C sp [] (fun _ H Q => Q [] H)) := by
  intro pins s σ H Q I h
  obtain ⟨nm, q, N, bs, bm, sn, sub, ab, col, dd, k0, k1, k2, k3, k5, hC, hbm⟩ := T.cls
  refine wpAny_Call_Name_kw (ld_glob I hg hm ?_ hdb)
  refine PySem.W.callWith_K0 I.kIn T.kC ?_
  show wpAny _ _ (call (.ref C) []) _ _ _
  obtain ⟨hz, q1⟩ := h
  have I1 := I
  obtain ⟨hp, g, dr, tk, os⟩ := s
  have hsz : hp.objs.size ≤ hp.objs.size + 1 := Nat.le_succ _
  have hn : H (hp.objs.size + 1) = none := I1.hok.fresh hsz
  have hq := q1 (hp.objs.size + 1) hn
  have kk : ∀ b o, hp.get? b = some o → ((hp.push (PySem.W.kdv_tup [])).push (PySem.HandSPX.excO C hp.objs.size)).get? b = some o := fun b o e => Heap.get?_push_of_some _ (Heap.get?_push_of_some _ e)
  have hget : ((hp.push (PySem.W.kdv_tup [])).push (PySem.HandSPX.excO C hp.objs.size)).get? (hp.objs.size + 1) = some (PySem.HandSPX.excO C hp.objs.size) := by heap_get
  have I2 : Inv X pins σ (upd H (hp.objs.size + 1) (exo (hp.objs.size + 1) C none)) ⟨(hp.push (PySem.W.kdv_tup [])).push (PySem.HandSPX.excO C hp.objs.size), g, dr, tk, os⟩ :=
    I1.laid (t' := tk) (a := hp.objs.size + 1) (o := exo (hp.objs.size + 1) C none) (h' := (hp.push (PySem.W.kdv_tup [])).push (PySem.HandSPX.excO C hp.objs.size)) kk hsz (exo_ok hget)
  have r2 : Vals (V.ref (hp.objs.size + 1) :: ([] ++ [])) (Value.ref (hp.objs.size + 1) :: ([] ++ [])) := .cons rfl .nil
  have hl : (Value.ref (hp.objs.size + 1) :: [] ++ []).length = ps.length := by
    have e := r2.length
    rw [F1.len _ _ _ _ hq] at e
    exact e.symm
  have hus : ([] : List Value).length ≤ sizeLine := Nat.zero_le _
  refine wpAny_call (PySem.HandSPX.call_own F.excBase_ValueError (fun Y => PySem.HandSPX.refsVE_contains Y bm hbm) (I1.kIn _ _ hC) (PySem.W.looks_findIn I1.kIn iC) (fun self => PySem.W.bind_fn I1.kIn self tI) hus
    (codeAny_mono (F1.run _ X.stack _ _ ⟨[Value.ref (hp.objs.size + 1)], []⟩ ([Value.ref (hp.objs.size + 1)] ++ []) _ _ (fun _ _ _ => False) (hr.make C [] []) (I2.env0.make C [] []) (hb _ (Value.ref (hp.objs.size + 1) :: []) I2.kIn hl) r2 hq) fun r s' hq' => ?_))
  cases r with
  | error er => exact hx pins σ _ _ er s' I2 hq'
  | ok fl =>
    cases fl with
    | ret u =>
      obtain ⟨v, H2, os2, bare2, un2, hok2, rv, ev, d, fs, ea, ed, hd1, q2⟩ := hq'
      subst ev
      obtain ⟨h2, g2, d2, t2, os'⟩ := s'
      exact ⟨rv, mk_end (raises_own T.exC T.tyC) I1 hsz kk un2 hok2 os2 bare2 ea ed hd1 q2⟩
    | next => exact False.elim hq'
    | brk => exact False.elim hq'
    | cont => exact False.elim hq'
def xFlds (s : Str) (fs : List Str) (ds : List Dt) : List (Str × Dt) := (fs.zip ds).reverse ++ [(("called" : Str), .str s)]
def sRaise (c s : Str) (fs : List Str) (as : MA) : MS := fun ρ h => (as ρ h).stm ρ fun ds h1 => if ds.length = fs.length then .exc c (xFlds s fs ds) ρ h1 else .bad
section
variable {X : Cx} {K : PySem.W.Frag} {W : WX} {ι ι1 : List Addr} {H H1 : Hp} {e : Expr} {es : List Expr} {pos p pos2 : Pos} {as : MA}
theorem DenF.app : ∀ {ds es : List (Str × Dt)} {vs ws : List (Str × V)}, DenF K ι H ds vs → DenF K ι H es ws → DenF K ι H (ds ++ es) (vs ++ ws)
  | [], _, _, _, h, k => by
    have h : _ = [] := h
    rw [h]; exact k
  | d :: ds, _, _, _, h, k => by
    obtain ⟨v, r, a, b, c⟩ := (show ∃ v r, _ = (d.1, v) :: r ∧ Den K ι H d.2 v ∧ DenF K ι H ds r from h)
    rw [a]
    exact ⟨v, _, rfl, b, c.app k⟩
theorem denF_zip : ∀ {fs : List Str} {ds : List Dt} {vs : List V}, Dens K ι H ds vs → DenF K ι H ((fs.zip ds).reverse) ((fs.zip vs).reverse)
  | [], _, _, _ => rfl
  | f :: fs, [], _, d => by
    have d : _ = [] := d
    subst d
    exact rfl
  | f :: fs, x :: ds, _, d => by
    obtain ⟨v, r, rfl, dv, dr⟩ := d.uncons
    rw [List.zip_cons_cons, List.zip_cons_cons, List.reverse_cons, List.reverse_cons]
    exact (denF_zip dr).app ⟨v, [], rfl, dv, rfl⟩
theorem len_le {fs : List Str} {n : Nat} (h : n = fs.length) (b : (fs.length ≤ 1000) = True) : n ≤ 1000 := by rw [h]; exact of_eq_true b
/-- the exception as it is made -/
theorem raise_step {c s : Str} {fs : List Str} {ds : List Dt} {vs : List V} {σ : L2.St} {ρ : Rho} {h1 : CH} {D : Ends} (hb : fs.length ≤ 1000) (rs : RepS K ι1 H1 ρ σ) (r1 : RepH K ι1 H1 h1) (dx : Dens K ι1 H1 ds vs)
    (k : OkS K W ι1 H1 (if ds.length = fs.length then OS.exc c (xFlds s fs ds) ρ h1 else .bad) D) :
    vs.length ≤ 1000 ∧ ∀ a, H1 a = none → spX (He.ga K c) s fs (.ref a :: (vs ++ [])) (upd H1 a (exo a (He.ga K c) none))
      (fun v H2 => v = .non ∧ ∃ (d : Addr) (fs : List (Str × V)), H2 a = some (exo a (He.ga K c) (some d)) ∧ H2 d = some (exd d fs) ∧ H1 d = none ∧ W (.ref (He.ga K c)) (some d) σ (upd (del H2 a) d (.xd fs))) (fun _ _ _ => False) := by
  split at k
  · rename_i hl
    have hv : vs.length = fs.length := by rw [← dx.length]; exact hl
    refine ⟨by rw [hv]; exact hb, fun a ha => ⟨a, vs, by rw [List.append_nil], hv, upd_same, fun d H2 hd ne eq e1 e2 => ⟨rfl, d, _, e1, e2, by rw [upd_ne ne] at hd; exact hd, ?_⟩⟩⟩
    have hd' : H1 d = none := by rw [upd_ne ne] at hd; exact hd
    have eH : upd (del H2 a) d (.xd ((fs.zip vs).reverse ++ [(("called" : Str), V.str s)])) = upd H1 d (.xd ((fs.zip vs).reverse ++ [(("called" : Str), V.str s)])) := by
      funext b
      by_cases hbd : b = d
      · rw [hbd, upd_same, upd_same]
      · rw [upd_ne hbd, upd_ne hbd]
        by_cases hba : b = a
        · rw [hba, del_same, ha]
        · rw [del_ne hba, eq b hba hbd, upd_ne hba]
    rw [eH]
    have ee : Ext ι1 H1 ι1 (upd H1 d (.xd ((fs.zip vs).reverse ++ [(("called" : Str), V.str s)]))) := .new hd'
    exact k ι1 _ σ d _ ee (r1.new hd') (rs.mono ee) upd_same (((denF_zip dx).app (show DenF K ι1 H1 [(("called" : Str), Dt.str s)] [(("called" : Str), V.str s)] from ⟨_, [], rfl, rfl, rfl⟩)).mono ee)
  · exact k.elim
theorem passNo (tk : Takes X W) : Passes (L2.CX X.prog X.w) X (fun _ _ _ => False) := passes_call tk fun _ _ _ _ z => z.elim
theorem s_raise {k : Nat} {c s : Str} {fs : List Str} (hc : X.calm = true) (C : XOk X.gw k c s fs) (hr : Room (k + 1) X.A) (hg : Gl X c) (ha : SimA X as (e :: es)) (hb : fs.length ≤ 1000 := by decide)
    (hdb : (c == ("__debug__" : Str)) = false := by decide) (he : starEach (e :: es) X.env = (false, eval e X.env) :: starEach es X.env := by rfl) (hpl : (backTo pos (starEach es X.env)).any (·.1) = false := by rfl) :
    SimS X (sRaise c s fs as) (.Raise (some (.Call (.Name c p) (e :: es) [] pos)) none pos2) := fun W tk => by
  obtain ⟨fI, fd, ps, T, iC, tI, D, hbn, hm⟩ := C.ex
  refine (ps_raise hc tk (pmk_oex T iC tI D hr hbn .nil (passNo tk) hg hm (ha W tk) hdb he hpl)).imp fun D σ H ⟨ι, ρ, h, rs, rh, k⟩ => ?_
  refine ⟨ι, ρ, h, rs, rh, (OkS.stm (R := Dens X.K) rs k).mono fun vs H1 ⟨ι1, ds, h1, e1, r1, dx, k1⟩ => ?_⟩
  exact raise_step hb (rs.mono e1) r1 dx k1
theorem s_raise0 {k : Nat} {c s : Str} (hc : X.calm = true) (C : XOk X.gw k c s []) (hr : Room (k + 1) X.A) (hg : Gl X c) (hdb : (c == ("__debug__" : Str)) = false := by decide) :
    SimS X (sRaise c s [] aNil) (.Raise (some (.Call (.Name c p) [] [] pos)) none pos2) := fun W tk => by
  obtain ⟨fI, fd, ps, T, iC, tI, D, hbn, hm⟩ := C.ex
  refine (ps_raise hc tk (pmk_oex0 T iC tI D hr hbn (passNo tk) hg hm hdb)).imp fun D σ H ⟨ι, ρ, h, rs, rh, k⟩ => ?_
  exact raise_step (Nat.zero_le _) rs rh (ds := []) rfl k
end
end Cl
namespace Cl
open PySem PySem.Spec PyProof.Rows PySem.Calls L2

/-! ## a clause's test: a class, or a tuple of classes -/
theorem forIn_unit {α : Type} {M : Model} {A : Around} {E : Value → Shared → Prop} {s : Shared} {f : α → PUnit → Sem (ForInStep PUnit)} : ∀ {l : List α} {Q : PUnit → Shared → Prop}, (∀ c ∈ l, ∀ {Q : ForInStep PUnit → Shared → Prop}, Q (.yield ⟨⟩) s → wpAny M A (f c ⟨⟩) Q E s) → Q ⟨⟩ s → wpAny M A (forIn l ⟨⟩ f) Q E s
  | [], _, _, q => by rw [List.forIn_nil]; exact wpAny_pure q
  | c :: r, _, h, q => by
    rw [List.forIn_cons]
    exact wpAny_bind (h c (List.mem_cons_self ..) (forIn_unit (fun x hx => h x (List.mem_cons_of_mem _ hx)) q))
theorem forIn_find {M : Model} {K : PySem.W.Frag} {A : Around} {E : Value → Shared → Prop} {s : Shared} {cls : Value} {β : Type} {i0 : β} {iT : β} {f : Value → β → Sem (ForInStep β)} : ∀ {l : List Value} {b : Bool} {Q : β → Shared → Prop}, PySem.W.exmAny K cls l = some b →
    (∀ c ∈ l, ∀ v, PySem.W.exmOne K cls c = some v → ∀ {Q : ForInStep β → Shared → Prop}, Q (if v = true then .done iT else .yield i0) s → wpAny M A (f c i0) Q E s) → Q (if b = true then iT else i0) s → wpAny M A (forIn l i0 f) Q E s
  | [], b, _, hx, _, q => by
    have hx : some false = some b := hx
    cases hx
    rw [List.forIn_nil]; exact wpAny_pure q
  | c :: r, b, _, hx, h, q => by
    obtain ⟨b1, d1, e1, e2, rfl⟩ := PySem.W.exmAny_cons hx
    rw [List.forIn_cons]
    refine wpAny_bind (h c (List.mem_cons_self ..) b1 e1 ?_)
    cases b1 with
    | true => exact wpAny_pure q
    | false => exact forIn_find e2 (fun x hx => h x (List.mem_cons_of_mem _ hx)) q
theorem exmAny_mem {K : PySem.W.Frag} {cls : Value} : ∀ {l : List Value} {b : Bool}, PySem.W.exmAny K cls l = some b → ∀ c ∈ l, ∃ v, PySem.W.exmOne K cls c = some v
  | [], _, _, _, h => by cases h
  | c :: r, b, hx, x, h => by
    obtain ⟨b1, d1, e1, e2, _⟩ := PySem.W.exmAny_cons hx
    rcases List.mem_cons.mp h with q | q
    · exact ⟨b1, by rw [q]; exact e1⟩
    · exact exmAny_mem e2 x q
theorem exm_tupN {M : Model} {K : PySem.W.Frag} {cs : List Value} {cls : Value} {tp e : Addr} {b : Bool} {h : Heap} (X : K.In h) (LT : PySem.W.Looks M h (typeOf (.ref e)) cls) (hp : h.get? tp = some { cls := .type "tuple", data := .seq cs.toArray }) (hx : PySem.W.exmAny K cls cs = some b) :
    PySem.W.Looks M h (excMatches (.ref e) (.ref tp)) b := by
  intro A Q E s k₀ q
  obtain ⟨hh, g, d, tk, os⟩ := s
  have k : ∀ b o, h.get? b = some o → hh.get? b = some o := k₀
  have LT0 : PySem.W.Looks M h (isInstance (.ref tp) (.type "tuple")) true := ((PySem.W.Looks.ld hp).andThen .now).andThen (PySem.W.Looks.of_pure isSubtype_tuple_tuple)
  have LT := LT.keeps k
  have LT0 := LT0.keeps k
  have hp' := k _ _ hp
  unfold excMatches
  refine wpAny_bind (LT0.at ?_)
  dsimp only
  rw [if_pos rfl]
  first
    | refine wpAny_bind (wpAny_seqItems hp' rfl (wpAny_bind (wpAny_pure ?_)))
    | refine wpAny_bind (wpAny_seqItems hp' rfl ?_)
  dsimp only [Option.getD_some, Option.getD]
  refine wpAny_bind (forIn_unit (fun c hc Q q => ?_) ?_)
  · obtain ⟨v, hv⟩ := exmAny_mem hx c hc
    obtain ⟨e1, _⟩ := PySem.W.exm_cls (M := M) X hv
    refine wpAny_bind ((e1.keeps k).at ?_)
    simp only [Bool.not_true, Bool.false_eq_true, if_false]
    exact wpAny_pure q
  · refine wpAny_bind (LT.at ?_)
    refine wpAny_bind (forIn_find hx (iT := ⟨some true, ⟨⟩⟩) (fun c hc v hv Q q => ?_) ?_)
    · obtain ⟨_, S1⟩ := PySem.W.exm_cls (M := M) X hv
      refine wpAny_bind ((S1.keeps k).at ?_)
      cases v with
      | true => exact wpAny_pure q
      | false => exact wpAny_pure q
    · cases b with
      | true => exact wpAny_pure q
      | false => exact wpAny_pure q

inductive NmsOk (X : Cx) : List Expr → List Value → Prop
  | nil : NmsOk X [] []
  | cons {x : Str} {c : Value} {np : Pos} {es : List Expr} {cs : List Value} (h : Names X x c) (r : NmsOk X es cs) : NmsOk X (.Name x np :: es) (c :: cs)
inductive TsOk (X : Cx) : Expr → List Value → Prop
  | one {x : Str} {c : Value} {np : Pos} (h : Names X x c) : TsOk X (.Name x np) [c]
  | tup {es : List Expr} {cs : List Value} {k : Nat} {tp : Pos} (h : NmsOk X es cs) (hl : cs.length ≤ 1000) : TsOk X (.Tuple es k tp) cs
theorem nm_ev {Y : Cx} {pins : List (Addr × Obj)} {σ : L2.St} {H : Hp} {s : Shared} {x : Str} {c : Value} {np : Pos} {Q : Value → Shared → Prop} {E : Value → Shared → Prop} (I : Inv Y pins σ H s) (hc : Names Y x c) (q : Q c s) : wpAny (model Y.prog Y.w) Y.A (eval (.Name x np) Y.env) Q E s := by
  obtain ⟨hg, hdbg, hm | ⟨hm, hv, hnn⟩⟩ := hc
  · exact ld_glob I hg hm q hdbg
  · exact ld_blt I hg hm hv q hnn hdbg
theorem nms_ev {Y : Cx} {pins : List (Addr × Obj)} {σ : L2.St} {H : Hp} {s : Shared} {E : Value → Shared → Prop} (I : Inv Y pins σ H s) {tp : Pos} : ∀ {es : List Expr} {cs : List Value} {Q : List Value → Shared → Prop}, NmsOk Y es cs → Q cs s → wpAny (model Y.prog Y.w) Y.A (spliced (backTo tp (starEach es Y.env))) Q E s
  | _, _, _, .nil, q => wpAny_items_nil q
  | _, _, _, .cons h r, q => wpAny_items_cons (nm_ev I h (nms_ev I r q))
/-- the test of a clause -/
theorem ts_ev {Y : Cx} {pins : List (Addr × Obj)} {σ : L2.St} {H : Hp} {s : Shared} {t : Expr} {cs : List Value} {a : Addr} {cls : Value} {b : Bool} {E : Value → Shared → Prop} {Q : Bool → Shared → Prop} (I : Inv Y pins σ H s) (ht : TsOk Y t cs) (LT : PySem.W.Looks (model Y.prog Y.w) s.heap (typeOf (.ref a)) cls)
    (hx : PySem.W.exmAny Y.K cls cs = some b) (q : ∀ h', (∀ b o, s.heap.get? b = some o → h'.get? b = some o) → Q b { s with heap := h' }) :
    wpAny (model Y.prog Y.w) Y.A (eval t Y.env) (fun c s₁ => wpAny (model Y.prog Y.w) Y.A (excMatches (.ref a) c) Q E s₁) E s := by
  cases ht with
  | one h =>
    refine nm_ev I h ?_
    obtain ⟨b1, d1, e1, e2, rfl⟩ := PySem.W.exmAny_cons hx
    have e2 : some false = some d1 := e2
    cases e2
    rw [Bool.or_false] at q
    exact (PySem.W.exm_one I.kIn LT e1).here (q s.heap fun _ _ z => z)
  | tup h hl =>
    refine wpAny_Tuple (nms_ev I h ⟨Nat.le_trans hl (by rw [sizeLine_eq]; decide), ?_⟩)
    have kp : ∀ q o, s.heap.get? q = some o → (s.heap.push { cls := .type "tuple", data := .seq cs.toArray }).get? q = some o := fun _ _ z => Heap.get?_push_of_some _ z
    exact (exm_tupN (I.kIn.keeps kp) (LT.keeps kp) (Heap.get?_push_size s.heap rfl) hx).here (q _ kp)

/-! ## try: body, except ..: suites -/
abbrev HdT := List Value × Option Nat × (Addr → Value → Option Addr → TS)
def unE (i : Nat) (D : Ends) : Ends := { nx := fun σ' H' => D.nx (σ'.set i none) H', rt := D.rt, bk := fun σ' H' => D.bk (σ'.set i none) H', ct := fun σ' H' => D.ct (σ'.set i none) H' }
def runH (x : HdT) (a : Addr) (cls : Value) (d : Option Addr) (D : Ends) (σ : L2.St) (H : Hp) : Prop := match x.2.1 with
  | none => x.2.2 a cls d D σ H
  | some i => x.2.2 a cls d (unE i D) (σ.set i (some (.ref a))) H
def wHds (K : PySem.W.Frag) (Wout : WX) (D : Ends) : List HdT → WX
  | [] => Wout
  | x :: r => fun cls d σ H => ∃ b, PySem.W.exmAny K cls x.1 = some b ∧ (b = true → ∀ a, H a = none → runH x a cls d D σ H) ∧ (b = false → wHds K Wout D r cls d σ H)
inductive HdOk (X : Cx) : List ExceptHandler → List HdT → Prop
  | nil : HdOk X [] []
  | plain {t : Expr} {cs : List Value} {ts : Addr → Value → Option Addr → TS} {b₀ : Stmt} {suite : List Stmt} {pos' : Pos} {hds : List ExceptHandler} {l : List HdT} (ht : TsOk X t cs)
      (hsu : ∀ (a : Addr) (oe : Obj) (cls : Value) (d : Option Addr) (pn : List (Addr × Obj)), Zc cls d oe → (∃ vs, oe.data = .fields vs) → PSs (X.suite a ((a, oe) :: pn)) (b₀ :: suite) (ts a cls d)) (r : HdOk X hds l) :
      HdOk X (.ExceptHandler (some t) none (b₀ :: suite) pos' :: hds) ((cs, none, ts) :: l)
  | as_ {t : Expr} {n : Str} {i : Nat} {cs : List Value} {ts : Addr → Value → Option Addr → TS} {b₀ : Stmt} {suite : List Stmt} {pos' : Pos} {hds : List ExceptHandler} {l : List HdT} (ht : TsOk X t cs) (hi : X.N[i]? = some n) (hln : X.env.kindOf n = some .local)
      (hsu : ∀ (a : Addr) (oe : Obj) (cls : Value) (d : Option Addr) (pn : List (Addr × Obj)), Zc cls d oe → (∃ vs, oe.data = .fields vs) → PSs (X.suite a ((a, oe) :: pn)) (b₀ :: suite) (ts a cls d)) (r : HdOk X hds l) :
      HdOk X (.ExceptHandler (some t) (some n) (b₀ :: suite) pos' :: hds) ((cs, some i, ts) :: l)
theorem flying_keeps {B h h' : Heap} {l : List Env} {a : Addr} {Z : Obj → Prop} (f : HandSPX.FlyingZ B l a Z h) (k : ∀ b o, h.get? b = some o → h'.get? b = some o) : HandSPX.FlyingZ B l a Z h' := by
  obtain ⟨f1, f2, f3, oe, vs, T, oT, ts, he, hz, hd, h1, hn, hne, hT, hdT, h3⟩ := f
  exact ⟨fun b o q => k b o (f1 b o q), f2, f3.of_keeps fun b o q _ => ⟨o, k b o q, rfl⟩, oe, vs, T, oT, ts, k _ _ he, hz, hd, h1, hn, hne, k _ _ hT, hdT, h3⟩
theorem TsOk.suite {X : Cx} {a : Addr} {pn : List (Addr × Obj)} {t : Expr} {cs : List Value} (h : TsOk X t cs) : TsOk (X.suite a pn) t cs := by
  cases h with
  | one h => exact .one h
  | tup h hl =>
    refine .tup ?_ hl
    induction h with
    | nil => exact .nil
    | cons h _ ih => exact .cons h (ih (Nat.le_trans (Nat.le_succ _) hl))
section
variable {X : Cx} {body : List Stmt} {h₀ : ExceptHandler} {hds : List ExceptHandler} {l : List HdT} {pos : Pos} {tb : WX → TS} {Wout : WX}
theorem ps_try_g (hs : X.stack = X.env :: X.outer) (hf : X.env.frame = some X.env.locals) (hN : X.N.Nodup) (tk : Takes X Wout)
    (hb : ∀ (W : WX) (pn : List (Addr × Obj)) (xe : Value → Shared → Prop), Takes (X.tr pn xe) W → PassesOwn (model X.prog X.w) X.A X.env xe → PSs (X.tr pn xe) body (tb W))
    (hh : HdOk X (h₀ :: hds) l) : PS X (.Try body (h₀ :: hds) [] [] pos) (fun D σ H => tb (wHds X.K Wout D l) D σ H) := by
  refine ⟨fun pins s σ H D I h => ?_⟩
  have ok := I.ok
  have hfr : X.A.frames = some (X.env :: X.outer) := by rw [ok.frames, hs]
  refine wpAny_Try_except ?_
  refine wpAny_mono ((hb (wHds X.K Wout D l) (X.pn ++ pins) (fun e s₁ => wpAny (model X.prog X.w) X.A (noteFrame e X.env) (fun _ s₂ => wpAny (model X.prog X.w) X.A (setFlight e none) (fun _ s₃ =>
    wpAny (model X.prog X.w) X.A (handleBy e X.env (h₀ :: hds)) (SP X pins D) X.xe s₃) X.xe s₂) X.xe s₁) (fun u s' xx => ?_) PassesOwn.looking).run [] s σ H D (I.toTry _) h) (fun f s1 hsp => ?_) (fun e s1 he => he)
  · obtain ⟨a, B, sI, pins', σ', H', cls, d, rfl, J', nb, up, sky, na, os, ag, w⟩ := xx
    have J : Inv X pins σ' H' sI := J'.ofTry ok
    have sky' : Sky B (X.env :: X.outer) a (Zc cls d) X.env.locals s'.heap := by rw [← hs]; exact sky
    show wpAny (model X.prog X.w) X.A (noteFrame (.ref a) X.env) _ _ _
    refine Sky.land Zc.steady hfr hf sky' fun h3 fl3 up3 => ?_
    have notFr : ∀ {h : Heap} {o : Obj} {vs : Array Value}, h.FunFrames B (X.env :: X.outer) → h.get? a = some o → o.data = .fields vs → a ∉ frs (X.env :: X.outer) := fun {h o vs} ff e dd hm => by
      obtain ⟨_, o', e', hnf⟩ := ff.mem hm
      rw [e] at e'; cases e'
      exact hnf _ dd
    have go : ∀ {hds' : List ExceptHandler} {l' : List HdT}, HdOk X hds' l' → ∀ {h3 : Heap}, HandSPX.FlyingZ B (X.env :: X.outer) a (Zc cls d) h3 → s'.heap.UpToSlots h3 → wHds X.K Wout D l' cls d σ' H' →
        wpAny (model X.prog X.w) X.A (handleBy (.ref a) X.env hds') (SP X pins D) X.xe { s' with heap := h3 } := by
      intro hds' l' hk
      induction hk with
      | nil =>
        intro h3 fl3 up3 w
        refine wpAny_handleBy_nil ?_
        obtain ⟨k1, k2, k3, oe, vs, T, oT, ts', he, hz, hd, h1, hr⟩ := id fl3
        unfold PySem.passOn
        refine wpAny_bind (wpAny_field he hd h1 ?_)
        rw [if_neg (show ¬ ((Value.ref T == Value.none) = true) from by simp)]
        have fin : wpAny (model X.prog X.w) X.A (setFlight (.ref a) X.env.frame) (fun _ s4 => wpAny (model X.prog X.w) X.A (throw (.ref a) : Sem Flow) (SP X pins D) X.xe s4) X.xe { s' with heap := h3 } := by
          rw [hf]
          refine HandSPX.setFlight_upZ fl3 fun h4 hh4 up4 => wpAny_throw (tk _ _ ?_)
          exact ⟨a, B, sI, pins, σ', H', cls, d, rfl, J, nb, (up.trans up3).trans up4, .inr (.inr (by rw [hs]; exact hh4)), na, os, ag, w⟩
        first
          | exact wpAny_bind (wpAny_pure (wpAny_bind fin))
          | exact wpAny_bind fin
      | @plain t cs ts b₀ suite pos' hds2 l2 ht hsu r ih =>
        intro h3 fl3 up3 w
        obtain ⟨b, hb1, hyes, hno⟩ := w
        have J3 : Inv X pins σ' H' { s' with heap := h3 } := J.landed nb fl3.1 (up.trans up3) os ag
        obtain ⟨oe3, vs3, he3, hz3, hd3⟩ := fl3.there
        have nfr := notFr fl3.2.2.1 he3 hd3
        have nL : a ≠ X.env.locals := fun z => nfr (List.mem_filterMap.mpr ⟨X.env, List.mem_cons_self, by rw [hf, z]⟩)
        have nF : a ∉ X.fs := fun hm => by
          obtain ⟨e, he, q⟩ := List.mem_filterMap.mp hm
          exact nfr (List.mem_filterMap.mpr ⟨e, List.mem_cons_of_mem _ he, q⟩)
        have S3 := J3.suite he3 hd3 na nL nF
        refine wpAny_handleBy_cons (codeAny_handlers_test ?_) (by intro q; cases q)
        have LT : PySem.W.Looks (model X.prog X.w) h3 (typeOf (.ref a)) cls := fun A Q E s k q => wpAny_typeOf_ref (k _ _ he3) (by rw [hz3.1]; exact q)
        refine ts_ev (Y := X.suite a ((a, oe3) :: (X.pn ++ pins))) S3 ht.suite LT hb1 fun h4 k4 => ?_
        have fl4 := flying_keeps fl3 k4
        have up4 := up3.trans (Heap.UpToSlots.of_keeps k4)
        cases b with
        | true =>
          refine codeAny_handlers_suite ?_
          refine HandSPX.lands_againZ fl4 fun h5 fl5 up5 => ?_
          have J5 : Inv X pins σ' H' { s' with heap := h5 } := J.landed nb fl5.1 ((up.trans up4).trans up5) os ag
          obtain ⟨oe5, vs5, he5, hz5, hd5⟩ := fl5.there
          have S5 := J5.suite he5 hd5 na nL nF
          refine wpAny_mono ((hsu a oe5 cls d (X.pn ++ pins) hz5 ⟨_, hd5⟩).run [] _ _ H' _ S5 (hyes rfl a na)) (fun f s6 hsp => ?_) (fun _ _ z => False.elim z)
          cases f with
          | next =>
            obtain ⟨σ6, H6, S6, q6⟩ := hsp
            exact ⟨_, _, S6.unsuite ok, q6⟩
          | brk =>
            obtain ⟨σ6, H6, S6, q6⟩ := hsp
            exact ⟨_, _, S6.unsuite ok, q6⟩
          | cont =>
            obtain ⟨σ6, H6, S6, q6⟩ := hsp
            exact ⟨_, _, S6.unsuite ok, q6⟩
          | ret u =>
            obtain ⟨v6, σ6, H6, S6, r6, q6⟩ := hsp
            exact ⟨_, _, _, S6.unsuite ok, r6, q6⟩
        | false =>
          show wpAny _ X.A (handleBy (.ref a) X.env hds2) _ _ _
          exact ih fl4 up4 (hno rfl)
      | @as_ t n i cs ts b₀ suite pos' hds2 l2 ht hi hln hsu r ih =>
        intro h3 fl3 up3 w
        obtain ⟨b, hb1, hyes, hno⟩ := w
        have J3 : Inv X pins σ' H' { s' with heap := h3 } := J.landed nb fl3.1 (up.trans up3) os ag
        obtain ⟨oe3, vs3, he3, hz3, hd3⟩ := fl3.there
        have nfr := notFr fl3.2.2.1 he3 hd3
        have nL : a ≠ X.env.locals := fun z => nfr (List.mem_filterMap.mpr ⟨X.env, List.mem_cons_self, by rw [hf, z]⟩)
        have nF : a ∉ X.fs := fun hm => by
          obtain ⟨e, he, q⟩ := List.mem_filterMap.mp hm
          exact nfr (List.mem_filterMap.mpr ⟨e, List.mem_cons_of_mem _ he, q⟩)
        have hloc : Loc X.env.scope n := .inl hln
        have S3 := J3.suite he3 hd3 na nL nF
        refine wpAny_handleBy_cons (codeAny_handlers_test ?_) (by intro q; cases q)
        have LT : PySem.W.Looks (model X.prog X.w) h3 (typeOf (.ref a)) cls := fun A Q E s k q => wpAny_typeOf_ref (k _ _ he3) (by rw [hz3.1]; exact q)
        refine ts_ev (Y := X.suite a ((a, oe3) :: (X.pn ++ pins))) S3 ht.suite LT hb1 fun h4 k4 => ?_
        have fl4 := flying_keeps fl3 k4
        have up4 := up3.trans (Heap.UpToSlots.of_keeps k4)
        cases b with
        | true =>
          refine codeAny_handlers_suite_as ?_
          refine HandSPX.lands_againZ fl4 fun h5 fl5 up5 => ?_
          have J5 : Inv X pins σ' H' { s' with heap := h5 } := J.landed nb fl5.1 ((up.trans up4).trans up5) os ag
          obtain ⟨oe5, vs5, he5, hz5, hd5⟩ := fl5.there
          have S5 := J5.suite he5 hd5 na nL nF
          refine store_ok (X := X.suite a ((a, oe5) :: (X.pn ++ pins))) (v := .ref a) S5 hN hi hloc rfl (fun s5 S6 => ?_) (.inr hln)
          refine wpAny_mono ((hsu a oe5 cls d (X.pn ++ pins) hz5 ⟨_, hd5⟩).run [] s5 _ H' _ S6 (hyes rfl a na)) (fun f s6 hsp => ?_) (fun _ _ z => False.elim z)
          have end_ : ∀ {σ6 : L2.St} {H6 : Hp} {Q : Shared → Prop}, Inv (X.suite a ((a, oe5) :: (X.pn ++ pins))) [] σ6 H6 s6 → (∀ s7, Inv X pins (σ6.set i none) H6 s7 → Q s7) →
              wpAny (model X.prog X.w) X.A (do bindName X.env n .none; unbindBehindTheSuite X.env n pos') (fun _ s7 => Q s7) X.xe s6 := fun {σ6 H6 Q} S6 hq => gone_ok (S6.unsuite ok) hN hi hln hq
          cases f with
          | next =>
            obtain ⟨σ6, H6, S6, q6⟩ := hsp
            exact end_ S6 fun s7 J7 => ⟨_, _, J7, q6⟩
          | brk =>
            obtain ⟨σ6, H6, S6, q6⟩ := hsp
            exact end_ S6 fun s7 J7 => ⟨_, _, J7, q6⟩
          | cont =>
            obtain ⟨σ6, H6, S6, q6⟩ := hsp
            exact end_ S6 fun s7 J7 => ⟨_, _, J7, q6⟩
          | ret u =>
            obtain ⟨v6, σ6, H6, S6, r6, q6⟩ := hsp
            exact end_ S6 fun s7 J7 => ⟨_, _, _, J7, r6, q6⟩
        | false =>
          show wpAny _ X.A (handleBy (.ref a) X.env hds2) _ _ _
          exact ih fl4 up4 (hno rfl)
    exact go hh fl3 up3 w
  · cases f with
    | next =>
      obtain ⟨σ', H', J', q⟩ := hsp
      exact wpAny_execs_nil ⟨σ', H', J'.ofTry ok, q⟩
    | brk =>
      obtain ⟨σ', H', J', q⟩ := hsp
      exact ⟨σ', H', J'.ofTry ok, q⟩
    | cont =>
      obtain ⟨σ', H', J', q⟩ := hsp
      exact ⟨σ', H', J'.ofTry ok, q⟩
    | ret u =>
      obtain ⟨v, σ', H', J', r, q⟩ := hsp
      exact ⟨v, σ', H', J'.ofTry ok, r, q⟩
end
end Cl
namespace Cl
open PySem PySem.Spec PyProof.Rows L2

/-! ## which class catches which -/
def isSub (c c' : Str) : Bool := match xTab.lookup c with
  | some l => l.contains c'
  | none => false
def known (c : Str) : Bool := (xTab.map (·.1)).contains c
/-- a class whose instances' field f is read plainly -/
structure XF (K : PySem.W.Frag) (c f : Str) : Prop where
  ga : PySem.W.findIn K (.ref (He.ga K c)) "__getattribute__" = some (some (.builtin "BaseException.__getattribute__"))
  gg : PySem.W.findIn K (.ref (He.ga K c)) "__getattr__" = some none
  exC : PySem.W.subIn K (.ref (He.ga K c)) (.type "BaseException") = some true
  hdC : PySem.W.hasDictIn K (He.ga K c) = true
  noN : PySem.W.findIn K (.ref (He.ga K c)) f = some none
structure XTab (K : PySem.W.Frag) : Prop where
  sub : ∀ c ∈ xTab.map (·.1), ∀ c' ∈ xTab.map (·.1), PySem.W.exmOne K (.ref (He.ga K c)) (.ref (He.ga K c')) = some (isSub c c')
  fld : ∀ c ∈ xTab.map (·.1), ∀ f ∈ xFn, XF K c f
theorem known_mem {c : Str} (h : known c = true) : c ∈ xTab.map (·.1) := List.contains_iff_mem.mp h
structure HdC where
  cs : List Str
  slot : Option Nat
  sub : List (Str × Dt) → MS
def catches (c : Str) (cs : List Str) : Bool := cs.any fun c' => isSub c c'
def offS (i : Option Nat) (ρ : Rho) : Rho := match i with
  | none => ρ
  | some i => ρ.set i none
def OS.off (i : Option Nat) : OS → OS
  | .next ρ h => .next (offS i ρ) h
  | .brk ρ h => .brk (offS i ρ) h
  | .cont ρ h => .cont (offS i ρ) h
  | .ret d h => .ret d h
  | _ => .bad
def slotOk (i : Option Nat) (ρ : Rho) : Bool := match i with
  | none => true
  | some i => decide (i < ρ.length)
def tryH (c : Str) (fs : List (Str × Dt)) (ρ : Rho) (h : CH) : List HdC → OS
  | [] => .exc c fs ρ h
  | x :: r => if (known c && (x.cs.all known && slotOk x.slot ρ)) = true then if catches c x.cs = true then (x.sub fs (offS x.slot ρ) h).off x.slot else tryH c fs ρ h r else .bad
def sTry (b : MS) (hds : List HdC) : MS := fun ρ h => match b ρ h with
  | .exc c fs ρ1 h1 => tryH c fs ρ1 h1 hds
  | o => o
theorem exm_all {K : PySem.W.Frag} (xt : XTab K) {c : Str} (hc : known c = true) : ∀ {cs : List Str}, cs.all known = true → PySem.W.exmAny K (.ref (He.ga K c)) (cs.map fun x => .ref (He.ga K x)) = some (catches c cs)
  | [], _ => rfl
  | x :: cs, h => by
    obtain ⟨h1, h2⟩ := Bool.and_eq_true_iff.mp (show (known x && cs.all known) = true from h)
    show (match PySem.W.exmOne K (.ref (He.ga K c)) (.ref (He.ga K x)), PySem.W.exmAny K (.ref (He.ga K c)) (cs.map fun x => .ref (He.ga K x)) with
      | some b, some d => some (b || d)
      | _, _ => none) = some (isSub c x || catches c cs)
    rw [xt.sub c (known_mem hc) x (known_mem h1), exm_all xt hc h2]

/-! ## the suites -/
def tSX (K : PySem.W.Frag) (i : Option Nat) (a dd : Addr) (m : List (Str × Dt) → MS) : TS := fun D σ H => ∃ ι ρ h fs fs', RepS K ι H ρ σ ∧ RepH K ι H h ∧ (∀ j, i = some j → σ[j]? = some (some (V.ref a))) ∧ H dd = some (.xd fs') ∧ DenF K ι H fs fs' ∧ OkS K W0 ι H (m fs ρ h) D
def tEX (K : PySem.W.Frag) (i : Option Nat) (a dd : Addr) (m : List (Str × Dt) → ME) : TE := fun σ H Q => ∃ ι ρ h fs fs', RepS K ι H ρ σ ∧ RepH K ι H h ∧ (∀ j, i = some j → σ[j]? = some (some (V.ref a))) ∧ H dd = some (.xd fs') ∧ DenF K ι H fs fs' ∧ OkG K W0 σ ι H (Den K) (m fs ρ h) Q
def tAX (K : PySem.W.Frag) (i : Option Nat) (a dd : Addr) (m : List (Str × Dt) → MA) : TA := fun σ H Q => ∃ ι ρ h fs fs', RepS K ι H ρ σ ∧ RepH K ι H h ∧ (∀ j, i = some j → σ[j]? = some (some (V.ref a))) ∧ H dd = some (.xd fs') ∧ DenF K ι H fs fs' ∧ OkG K W0 σ ι H (Dens K) (m fs ρ h) Q
abbrev InSu (X : Cx) (P : Addr → Addr → Str → Cx → Prop) : Prop := ∀ (a : Addr) (oe : Obj) (c : Str) (dd : Addr) (pn : List (Addr × Obj)), c ∈ xTab.map (·.1) → Zc (.ref (He.ga X.K c)) (some dd) oe → (∃ vs, oe.data = .fields vs) → P a dd c (X.suite a ((a, oe) :: pn))
def SimSX (X : Cx) (i : Option Nat) (m : List (Str × Dt) → MS) (sts : List Stmt) : Prop := InSu X fun a dd _ Y => PSs Y sts (tSX X.K i a dd m)
def SimEX (X : Cx) (i : Option Nat) (m : List (Str × Dt) → ME) (e : Expr) : Prop := InSu X fun a dd _ Y => PE Y e (tEX X.K i a dd m)
def SimAX (X : Cx) (i : Option Nat) (m : List (Str × Dt) → MA) (e : List Expr) : Prop := InSu X fun a dd _ Y => PA Y e (tAX X.K i a dd m)
inductive SimH (X : Cx) : List ExceptHandler → List HdC → Prop
  | nil : SimH X [] []
  | plain {t : Expr} {cs : List Str} {m : List (Str × Dt) → MS} {b₀ : Stmt} {suite : List Stmt} {pos' : Pos} {hds : List ExceptHandler} {l : List HdC} (ht : TsOk X t (cs.map fun x => .ref (He.ga X.K x)))
      (hsu : SimSX X none m (b₀ :: suite)) (r : SimH X hds l) : SimH X (.ExceptHandler (some t) none (b₀ :: suite) pos' :: hds) (⟨cs, none, m⟩ :: l)
  | as_ {t : Expr} {n : Str} {i : Nat} {cs : List Str} {m : List (Str × Dt) → MS} {b₀ : Stmt} {suite : List Stmt} {pos' : Pos} {hds : List ExceptHandler} {l : List HdC} (ht : TsOk X t (cs.map fun x => .ref (He.ga X.K x)))
      (hi : X.N[i]? = some n) (hln : X.env.kindOf n = some .local) (hsu : SimSX X (some i) m (b₀ :: suite)) (r : SimH X hds l) : SimH X (.ExceptHandler (some t) (some n) (b₀ :: suite) pos' :: hds) (⟨cs, some i, m⟩ :: l)
/-- the reading of a suite for ps_try_g -/
def tsOf (K : PySem.W.Frag) (i : Option Nat) (m : List (Str × Dt) → MS) : Addr → Value → Option Addr → TS := fun a cls d D σ H => ∃ c dd, cls = .ref (He.ga K c) ∧ d = some dd ∧ c ∈ xTab.map (·.1) ∧ tSX K i a dd m D σ H
def hdT (K : PySem.W.Frag) (x : HdC) : HdT := (x.cs.map fun x => .ref (He.ga K x), x.slot, tsOf K x.slot x.sub)
theorem SimSX.go {X : Cx} {i : Option Nat} {m : List (Str × Dt) → MS} {sts : List Stmt} (h : SimSX X i m sts) (a : Addr) (oe : Obj) (cls : Value) (d : Option Addr) (pn : List (Addr × Obj)) (hz : Zc cls d oe) (hf : ∃ vs, oe.data = .fields vs) : PSs (X.suite a ((a, oe) :: pn)) sts (tsOf X.K i m a cls d) :=
  ⟨fun pins s σ H D I ⟨c, dd, e1, e2, kc, q⟩ => by
    subst e1; subst e2
    exact (h a oe c dd pn kc hz hf).run pins s σ H D I q⟩
theorem SimH.to {X : Cx} {hds : List ExceptHandler} {l : List HdC} (h : SimH X hds l) : HdOk X hds (l.map (hdT X.K)) := by
  induction h with
  | nil => exact .nil
  | plain ht hsu r ih => exact .plain ht hsu.go ih
  | as_ ht hi hln hsu r ih => exact .as_ ht hi hln hsu.go ih
section
variable {K : PySem.W.Frag} {ι ι1 : List Addr} {H H1 : Hp}
theorem RepS.hide {ρ : Rho} {σ : L2.St} {i : Nat} {o : Option V} (r : RepS K ι H ρ σ) : RepS K ι H (ρ.set i none) (σ.set i o) := ⟨by simp [r.len], fun j d' e => by
  by_cases hj : i = j
  · subst hj
    by_cases hl : i < ρ.length
    · rw [List.getElem?_set_self hl] at e; cases e
    · rw [List.getElem?_eq_none (by simpa using hl)] at e; cases e
  · rw [List.getElem?_set_ne hj] at e ⊢
    exact r.at_ j d' e⟩
/-- what the clauses wish of an exception -/
theorem hds_ok (xt : XTab K) {Wout : WX} {D : Ends} {c : Str} {fs : List (Str × Dt)} {ρ1 : Rho} {h1 : CH} : ∀ {l : List HdC}, OkS K Wout ι H (tryH c fs ρ1 h1 l) D → ∀ {ι' : List Addr} {H' : Hp} {σ' : L2.St} {dx : Addr} {fs' : List (Str × V)},
    Ext ι H ι' H' → RepH K ι' H' h1 → RepS K ι' H' ρ1 σ' → H' dx = some (.xd fs') → DenF K ι' H' fs fs' → wHds K Wout D (l.map (hdT K)) (.ref (He.ga K c)) (some dx) σ' H'
  | [], k, ι', H', σ', dx, fs', e, r, s, x, d => k ι' H' σ' dx fs' e r s x d
  | y :: l, k, ι', H', σ', dx, fs', e, r, s, x, d => by
    unfold tryH at k
    split at k
    · rename_i hk
      obtain ⟨k1, k2⟩ := Bool.and_eq_true_iff.mp hk
      obtain ⟨k2, k3⟩ := Bool.and_eq_true_iff.mp k2
      refine ⟨catches c y.cs, exm_all xt k1 k2, fun hb a ha => ?_, fun hb => ?_⟩
      · rw [if_pos hb] at k
        have k := OkS.ext e k
        obtain ⟨cs, sl, m⟩ := y
        cases sl with
        | none =>
          refine ⟨c, dx, rfl, rfl, known_mem k1, ι', ρ1, h1, fs, fs', s, r, (fun j z => by cases z), x, d, ?_⟩
          dsimp only [offS] at k
          show OkS K W0 ι' H' (m fs ρ1 h1) D
          cases q : m fs ρ1 h1 with
          | next ρ2 h2 => rw [q] at k; exact fun ι2 H2 σ2 e2 r2 s2 => k ι2 H2 σ2 e2 r2 s2
          | brk ρ2 h2 => rw [q] at k; exact fun ι2 H2 σ2 e2 r2 s2 => k ι2 H2 σ2 e2 r2 s2
          | cont ρ2 h2 => rw [q] at k; exact fun ι2 H2 σ2 e2 r2 s2 => k ι2 H2 σ2 e2 r2 s2
          | ret dd h2 => rw [q] at k; exact k
          | exc c2 fs2 ρ2 h2 => rw [q] at k; exact k.elim
          | bad => rw [q] at k; exact k
        | some i =>
          have hlt : i < ρ1.length := of_decide_eq_true k3
          refine ⟨c, dx, rfl, rfl, known_mem k1, ι', ρ1.set i none, h1, fs, fs', s.hide, r, (fun j z => by cases z; rw [List.getElem?_set_self (by rw [← s.len]; exact hlt)]), x, d, ?_⟩
          dsimp only [offS] at k
          show OkS K W0 ι' H' (m fs (ρ1.set i none) h1) (unE i D)
          cases q : m fs (ρ1.set i none) h1 with
          | next ρ2 h2 => rw [q] at k; exact fun ι2 H2 σ2 e2 r2 s2 => k ι2 H2 (σ2.set i none) e2 r2 (RepS.hide s2)
          | brk ρ2 h2 => rw [q] at k; exact fun ι2 H2 σ2 e2 r2 s2 => k ι2 H2 (σ2.set i none) e2 r2 (RepS.hide s2)
          | cont ρ2 h2 => rw [q] at k; exact fun ι2 H2 σ2 e2 r2 s2 => k ι2 H2 (σ2.set i none) e2 r2 (RepS.hide s2)
          | ret dd h2 => rw [q] at k; exact k
          | exc c2 fs2 ρ2 h2 => rw [q] at k; exact k.elim
          | bad => rw [q] at k; exact k
      · rw [if_neg (by rw [hb]; exact Bool.false_ne_true)] at k
        exact hds_ok xt k e r s x d
    · exact k.elim
end
section
variable {X : Cx} {body : List Stmt} {h₀ : ExceptHandler} {hds : List ExceptHandler} {l : List HdC} {pos : Pos} {sb : MS}
theorem s_try (hs : X.stack = X.env :: X.outer) (hf : X.env.frame = some X.env.locals) (hN : X.N.Nodup) (xt : XTab X.K)
    (hb : ∀ (pn : List (Addr × Obj)) (xe : Value → Shared → Prop), PassesOwn (model X.prog X.w) X.A X.env xe → SimB (X.tr pn xe) sb body) (hh : SimH X (h₀ :: hds) l) : SimS X (sTry sb l) (.Try body (h₀ :: hds) [] [] pos) := fun Wout tk =>
  (ps_try_g (tb := fun W => tS X.K W sb) hs hf hN tk (fun W pn xe tk' pw => hb pn xe pw W tk') hh.to).imp fun D σ H ⟨ι, ρ, h, rs, rh, k⟩ => by
    refine ⟨ι, ρ, h, rs, rh, ?_⟩
    unfold sTry at k
    cases q : sb ρ h with
    | exc c fs ρ1 h1 => rw [q] at k; exact fun ι' H' σ' dx fs' e r s x d => hds_ok xt k e r s x d
    | next ρ1 h1 => rw [q] at k; exact k
    | brk ρ1 h1 => rw [q] at k; exact k
    | cont ρ1 h1 => rw [q] at k; exact k
    | ret d h1 => rw [q] at k; exact k
    | bad => rw [q] at k; exact k.elim

/-! ## what a suite says -/
variable {i : Option Nat} {e : Expr} {es : List Expr} {me : List (Str × Dt) → ME} {ma : List (Str × Dt) → MA}
def eXF (f : Str) : List (Str × Dt) → ME := fun fs _ h => .opt (fs.lookup f) h
theorem x_fld {j : Nat} {n f : Str} {p1 : Pos} (xt : XTab X.K) (hf : f ∈ xFn) (hN : X.N[j]? = some n) (hv : Vis X.env.scope n) (hd : (n == ("__debug__" : Str)) = false := by decide) (hcd : (n == ("__classdict__" : Str)) = false := by decide)
    (hb : attributeBase (.Name n p1) f X.env (eval (.Name n p1) X.env) = eval (.Name n p1) X.env := by rfl) : SimEX X (some j) (eXF f) (.Attribute (.Name n p1) f pos) := fun a oe c dd pn kc hz hfv => by
  refine ⟨fun pins s σ H Q I h => ?_⟩
  obtain ⟨ι, ρ, hh, fs, fs', rs, rh, sl, ea, df, ok⟩ := h
  refine attr_of hb (thn ((pe_var (X := X.suite a ((a, oe) :: pn)) (i := j) (pos := p1) hN hv hd hcd).run pins s σ H (fun v H1 => v = .ref a ∧ H1 = H) I ⟨_, sl j rfl, rfl, rfl⟩) fun u s1 hh => ?_)
  obtain ⟨x, H1, I1, rx, ex, eH⟩ := hh
  subst ex
  subst eH
  obtain rfl : u = Value.ref a := rx
  obtain ⟨ha, _⟩ := I1.pin (a, oe) (List.mem_append_left _ List.mem_cons_self)
  obtain ⟨vs, hd⟩ := hfv
  have hx : ObjOk X.prog X.w H1 s1.heap dd (.xd fs') := I1.hok dd _ ea
  obtain ⟨mA, hns, hr⟩ := hx
  obtain ⟨od, ho, hl⟩ := lookIn_ns hns
  have T := xt.fld c kc f hf
  cases el : fs.lookup f with
  | none =>
    unfold eXF at ok
    rw [el] at ok
    exact ok.elim
  | some d =>
    obtain ⟨v, lv, dv⟩ := df.look el
    obtain ⟨u, hu, ru⟩ := RelO.some_of (v := v) (o := mA f) (by rw [← lv]; exact hr f)
    have J : PySem.W.InstAt s1.heap a oe (He.ga X.K c) (some od) := ⟨ha, hz.1, by unfold PySem.W.notCls; rw [hd] <;> rfl, by rw [hz.2]; exact ho⟩
    unfold eXF at ok
    rw [el] at ok
    exact HandSPX.exc_get I1.kIn J T.ga T.gg T.exC (PySem.W.findObj_own T.hdC T.noN rfl (by rw [hl, hu])) (handed_of ru) ⟨v, H1, I1.tok _, ru, ok ι H1 v .refl rh dv⟩
/-- what does not look at the exception -/
theorem x_lift {m : ME} (h : ∀ (a : Addr) (pn : List (Addr × Obj)), SimE (X.suite a pn) m e) : SimEX X i (fun _ => m) e := fun a oe c dd pn kc hz hfv =>
  (h a ((a, oe) :: pn) W0 takesW0).imp fun σ H Q ⟨ι, ρ, hh, fs, fs', rs, rh, sl, ea, df, ok⟩ => ⟨ι, ρ, hh, rs, rh, ok⟩
theorem x_nil : SimAX X i (fun _ => aNil) [] := fun a oe c dd pn kc hz hfv => pa_nil.imp fun σ H Q ⟨ι, ρ, hh, fs, fs', rs, rh, sl, ea, df, ok⟩ => ok ι H [] .refl rh rfl
theorem x_cons (he : SimEX X i me e) (ha : SimAX X i ma es) (hs : starEach (e :: es) X.env = (false, eval e X.env) :: starEach es X.env := by rfl) : SimAX X i (fun fs => aCons (me fs) (ma fs)) (e :: es) := fun a oe c dd pn kc hz hfv =>
  (pa_cons (X := X.suite a ((a, oe) :: pn)) (he a oe c dd pn kc hz hfv) (ha a oe c dd pn kc hz hfv) hs).imp fun σ H Q ⟨ι, ρ, h, fs, fs', rs, rh, sl, ea, df, ok⟩ => by
    refine ⟨ι, ρ, h, fs, fs', rs, rh, sl, ea, df, (OkG.bind (R := Den X.K) ok).mono fun x H1 ⟨ι1, d, h1, e1, r1, dx, ok1⟩ => ?_⟩
    refine ⟨ι1, ρ, h1, fs, fs', rs.mono e1, r1, sl, e1.stb _ _ ea trivial, df.mono e1, (OkG.bind (R := Dens X.K) ok1).mono fun xs H2 ⟨ι2, ds, h2, e2, r2, dxs, ok2⟩ => ?_⟩
    exact ok2 ι2 H2 _ .refl r2 ⟨x, xs, rfl, dx.mono e2, dxs⟩
theorem x_tup {x1 : Nat} (h : SimAX X i ma es) : SimEX X i (fun fs => eTup (ma fs)) (.Tuple es x1 pos) := fun a oe c dd pn kc hz hfv => (pe_tup (h a oe c dd pn kc hz hfv)).imp fun σ H Q ⟨ι, ρ, hh, fs, fs', rs, rh, sl, ea, df, ok⟩ => by
  refine ⟨ι, ρ, hh, fs, fs', rs, rh, sl, ea, df, (OkG.bind (R := Dens X.K) ok).mono fun xs H1 ⟨ι1, ds, h1, e1, r1, dx, ok1⟩ => ?_⟩
  split at ok1
  · rename_i hl
    exact ⟨by rw [← dx.length]; exact hl, fun p hp => OkP.tup (h := h1) (ds := ds) (show OkP X.K ι1 H1 (some (.tup ds, h1)) Q from ok1) r1 dx hp⟩
  · exact ok1.elim
theorem x_ret (h : SimEX X i me e) : SimSX X i (fun fs => sRet (me fs)) [.Return (some e) pos] := fun a oe c dd pn kc hz hfv => (pss_one (ps_ret (h a oe c dd pn kc hz hfv))).imp fun D σ H ⟨ι, ρ, hh, fs, fs', rs, rh, sl, ea, df, k⟩ =>
  ⟨ι, ρ, hh, fs, fs', rs, rh, sl, ea, df, (OkS.stm (R := Den X.K) rs k).mono fun x H1 ⟨ι1, d, h1, e1, r1, dx, k1⟩ => k1 ι1 H1 x .refl r1 dx⟩
theorem x_sts {m : MS} {sts : List Stmt} (h : ∀ (a : Addr) (pn : List (Addr × Obj)), SimB (X.suite a pn) m sts) : SimSX X i (fun _ => m) sts := fun a oe c dd pn kc hz hfv =>
  (h a ((a, oe) :: pn) W0 takesW0).imp fun D σ H ⟨ι, ρ, hh, fs, fs', rs, rh, sl, ea, df, k⟩ => ⟨ι, ρ, hh, rs, rh, k⟩
end
end Cl
namespace Cl
open PySem PySem.Spec PyProof.Rows L2

/-! ## f(lambda: body), where f says: try: return (s, its call) / except ..: .. -/
def OS.out : OS → Out Dt
  | .next _ h => .ok .non h
  | .ret d h => .ok d h
  | _ => .bad
def whyO (s : Str) (n : Nat) (l : List HdC) (o : Out Dt) : Out Dt := match o with
  | .ok d h => .ok (.tup [.str s, d]) h
  | .exc c fs h => (tryH c fs (List.replicate n none) h l).out
  | .bad => .bad
def eWhy (s : Str) (n : Nat) (l : List HdC) (m : ME) : ME := fun ρ h => whyO s n l (m ρ h)
def TTw (K : PySem.W.Frag) (s : Str) (n : Nat) (l : List HdC) : (XK → Hp → VK → Prop) → Hp → VK → Prop := fun tl H Q =>
  ∃ Ech : XK, tl Ech H (fun v H' => [V.str s, v].length ≤ sizeLine ∧ ∀ p, H' p = none → Q (.ref p) (upd H' p (.tup [.str s, v]))) ∧
    ∀ cls d H', Ech cls d H' → ∀ σ' : L2.St, σ'.length = n → wHds K W0 { nx := fun _ H'' => Q .non H'', rt := Q } (l.map (hdT K)) cls d σ' H'
theorem takes_len {X : Cx} {W : WX} (tk : Takes X W) : Takes X (fun cls d σ H => σ.length = X.N.length → W cls d σ H) := fun u s' ⟨a, B, sI, pins, σ, H, cls, d, e, I, nb, up, sky, na, os, ag, w⟩ =>
  tk u s' ⟨a, B, sI, pins, σ, H, cls, d, e, I, nb, up, sky, na, os, ag, w I.len⟩
theorem why_gives {X : Cx} {Ng : List Str} {x a q s : Str} {sg : Scope} {g : Addr} {cdg : Value} {j k : Nat} {h₀ : ExceptHandler} {hds : List ExceptHandler} {l : List HdC} {p0 p1 p2 p3 p4 p8 : Pos} (hN : Ng.Nodup) (h0 : ∀ f : Addr, (L2.start Ng [V.ref f])[0]? = some (some (V.ref f)))
    (hh : ∀ (s : Shared) (H : Hp), SimH (cxOf C8.CX0 X.prog X.w X.K X.mg X.base Ng x sg g cdg X.A X.stack s H C8.E0).nox (h₀ :: hds) l) :
    LamX.GivesTo X Ng x sg g cdg [.Try [.Return (some (.Tuple [.Constant (.str s) j p0, .Call (.Name a p1) [] [] p2] k p3)) p4] (h₀ :: hds) [] [] p8] a q (TTw X.K s Ng.length l) := by
  intro f c' s' H Q tl act hc h
  refine ⟨_, pss_one (ps_try_g (X := (cxOf C8.CX0 X.prog X.w X.K X.mg X.base Ng x sg g cdg X.A X.stack s' H C8.E0).nox) (Wout := W0) (l := l.map (hdT X.K))
      (tb := fun W D σ H => ∃ Ech : XK, (∀ cls d σ' H', Ech cls d H' → σ'.length = Ng.length → W cls d σ' H') ∧ σ[0]? = some (some (.ref f)) ∧ H c' = some (LamX.CodeO c' q) ∧ tl Ech H (fun v H' => [V.str s, v].length ≤ sizeLine ∧ ∀ p, H' p = none → D.rt (.ref p) (upd H' p (.tup [.str s, v]))))
      rfl rfl hN takesW0 (fun W pn xe tk _ => ?_) (hh s' H).to), ?_⟩
  · refine ⟨fun pins s2 σ H D I h' => ?_⟩
    obtain ⟨Ech, hW, h1, h2, h3⟩ := h'
    have hp := act (fun cls d σ H => σ.length = Ng.length → W cls d σ H) pn xe Ech p1 p2 (takes_len tk) hW
    have hq := pss_one (ps_ret (pos := p4) (pe_tup (pos := p3) (x1 := k) (pa_cons (pe_str (x := s) (j := j) (pos := p0)) (pa_cons hp pa_nil))))
    exact hq.run pins s2 σ H D I ⟨h1, h2, h3⟩
  · obtain ⟨Ech, h1, h2⟩ := h
    exact ⟨Ech, fun cls d σ' H' e l => h2 cls d H' e σ' l, h0 f, hc, h1⟩
/-- f(lambda: body) -/
structure WhyOk (g : Gw) (k : Nat) (x s : Str) (n : Nat) (l : List HdC) : Prop where
  go : ∀ (X : Cx) (q : Str), X.gw = g → ∃ (f c : Addr) (pg : Arguments) (bg : List Stmt) (sg : Scope) (dV kV doc pm cdv ct oc : Value) (an od : Option Addr) (osl : Array (Option Value)) (Ng : List Str) (a : Str), X.mg x = some (.ref f) ∧ PySem.W.keepIn X.K (.ref f) = true ∧
    X.K.lookup f = some ⟨oc, od, .func (PySem.W.fnOf x x pg bg sg dV kV doc pm an cdv ct), osl⟩ ∧ PySem.W.codeIn X.K cdv x = true ∧ L2.Binds X.K (PySem.W.fnOf x x pg bg sg dV kV doc pm an cdv ct) [a] [] ∧ FnScope Ng [a] sg ∧ Ng[0]? = some a ∧ Vis sg a ∧
    (a == ("__debug__" : Str)) = false ∧ (a == ("__classdict__" : Str)) = false ∧ Ng.length = n ∧ LamX.GivesTo X Ng x sg f cdv bg a q (TTw X.K s n l)
theorem extN_ext {ι : List Addr} {H H1 : Hp} (e : LamX.ExtN H H1) : Ext ι H ι H1 := by
  have k : ∀ a o, H a = some o → isTbl o = false → H1 a = some o := fun a o h n => e a o h fun ps z => by rw [z] at n; cases n
  refine ⟨⟨[], by simp, by simp⟩, fun a o h s => k a o h ?_, fun a o h _ n => k a o h n, fun a n o h => ?_⟩
  · cases o <;> first | rfl | exact s.elim
  · cases q : isTbl o with
    | true => rfl
    | false => exact (n o (k a o h q)).symm.trans q |>.symm ▸ rfl
theorem denC_nt {K : PySem.W.Frag} {ι : List Addr} {H : Hp} {c : Ce} {o : HO} (d : DenC K ι H c o) : isTbl o = false := by
  cases c with
  | lst ds => obtain ⟨vs, rfl, _⟩ := d; rfl
  | dic lk tk kvs =>
    obtain ⟨u, dd, h1, h2⟩ := d
    cases lk with
    | true => obtain ⟨ob, rfl⟩ := h1 rfl; rfl
    | false =>
      have := h2 rfl; subst this
      cases tk with
      | false => obtain ⟨l, rfl, _⟩ := dd; rfl
      | true => obtain ⟨l, rfl, _⟩ := dd; rfl
  | ins c fs => obtain ⟨dx, fs', rfl, _⟩ := d; rfl
  | set _ => exact d.elim
theorem RepH.tbl {K : PySem.W.Frag} {ι : List Addr} {H H1 : Hp} {h : CH} (r : RepH K ι H h) (e : LamX.ExtN H H1) (t : LamX.Tabs (lamT K) H1) : RepH K ι H1 h := ⟨t, r.len, r.nd, fun n c a e1 e2 => by
  obtain ⟨o, p, q⟩ := r.at_ n c a e1 e2
  exact ⟨o, e a o p (fun ps z => by have := denC_nt q; rw [z] at this; cases this), q.mono (extN_ext e)⟩⟩
section
variable {X : Cx} {m : ME} {k n : Nat} {x s : Str} {l : List HdC} {params : Arguments} {body : Expr} {scope : Scope} {p lpos pos : Pos}
theorem s_lam {c P : Addr} {qn : Str} (hq : X.env.qual = qn) (wk : WhyOk X.gw k x s n l) (xt : XTab X.K) (hg : Gl X x) (TB : LamX.TabB X.base X.mg c P) (hcode : X.env.code = .ref c) (hmT : (P, qn ++ "<lambda>") ∈ lamT X.K) (hu : ∀ p ∈ lamT X.K, p.1 = P → p.2 = qn ++ "<lambda>")
    (hr : Room (k + 2) X.A) (L : LamX.LamS X.env.scope scope) (hdef : defaultsOf params X.env = ([], []) := by rfl)
    (hbind : ∀ (q : Str) (cl : List (Str × Addr)) (pm cv ctv : Value), bindArgs (PySem.W.kla_fn "<lambda>" q params body scope cl pm cv ctv) ⟨[], []⟩ = pure [] := by intros; rfl)
    (hbody : ∀ (A : Around) (outer : List Env) (s : Shared) (H : Hp) (E : XK) (f c' : Addr), Room k (A.deeper (LamX.lamEnv X scope s.heap.objs.size f c')) → SimE (LamX.lamCx X A outer s H E scope f c') m body)
    (hdb : (x == ("__debug__" : Str)) = false := by decide) : SimE X (eWhy s n l m) (.Call (.Name x p) [.Lambda params body scope lpos] [] pos) := fun W tk => by
  subst hq
  obtain ⟨f, c0, pg, bg, sg, dV, kV, doc, pm, cdv, ct, oc, an, od, osl, Ng, a, hm, hk, lk, hcg, hb, Sg, hNg, hva, hd1, hd2, hn, G⟩ := wk.go X (X.env.qual ++ "<lambda>") rfl
  refine (LamX.pe_lamcall hg hm hk lk hcg hb Sg hNg hva G TB hcode hmT hu hr L hdef hbind (t := fun E => tE X.K (fun cls d _ H => E cls d H) m) (fun A outer s H E f c' hr2 => hbody A outer s H E f c' hr2 (fun cls d _ H => E cls d H) (takes_of rfl rfl rfl rfl)) hdb hd1 hd2).imp fun σ H Q ⟨ι, ρ, h, rs, rh, ok⟩ => ?_
  refine ⟨rh.tabs, fun H1 eN T1 => ?_⟩
  have e1 : Ext ι H ι H1 := extN_ext eN
  have r1 := rh.tbl eN T1
  refine ⟨fun cls d H' => ∀ σ' : L2.St, σ'.length = n → wHds X.K W0 { nx := fun _ H'' => Q .non H'', rt := Q } (l.map (hdT X.K)) cls d σ' H', ?_, fun cls d H' h σ' hl => h σ' hl⟩
  refine ⟨ι, ρ, h, rs.mono e1, r1, ?_⟩
  have ok := ok.ext e1
  unfold eWhy at ok
  cases q : m ρ h with
  | ok d h2 =>
    rw [q] at ok
    intro ι' H' v e' r' dv
    refine ⟨by rw [sizeLine_eq]; exact (by decide : 2 ≤ 16777216), fun p hp => ?_⟩
    have e2 : Ext ι' H' ι' (upd H' p (.tup [V.str s, v])) := .new hp
    exact ok ι' _ _ (e'.trans e2) (r'.new hp) ⟨p, _, rfl, SqT.of upd_same, (Dens.cons (show Den X.K ι' H' (.str s) (V.str s) from rfl) (Dens.cons dv .nil)).mono e2⟩
  | exc c fs h2 =>
    rw [q] at ok
    intro ι' H' dx fs' e' r' hx df σ' hl
    refine hds_ok (ι := ι) (H := H1) (ρ1 := List.replicate n none) xt ?_ e' r' ⟨by simp [hl], fun i d e => ?_⟩ hx df
    · unfold whyO at ok
      dsimp only at ok
      cases z : tryH c fs (List.replicate n none) h2 l with
      | next ρ3 h3 => rw [z] at ok; exact fun ι2 H2 σ2 e2 r2 s2 => ok ι2 H2 .non e2 r2 rfl
      | ret d h3 => rw [z] at ok; exact fun ι2 H2 v e2 r2 dv => ok ι2 H2 v e2 r2 dv
      | brk ρ3 h3 => rw [z] at ok; exact ok.elim
      | cont ρ3 h3 => rw [z] at ok; exact ok.elim
      | exc c2 fs2 ρ3 h3 => rw [z] at ok; exact ok.elim
      | bad => rw [z] at ok; exact ok.elim
    · rw [List.getElem?_replicate] at e
      split at e <;> cases e
  | bad => rw [q] at ok; exact ok.elim
end
end Cl
namespace Cl
open PySem PySem.Spec PyProof.Rows L2

/-! ## from wider readings to narrower ones -/
theorem _root_.L2.OpR.imp {X : Cx} {f : Value → Value → Sem Value} {r r' : R2} (h : OpR X f r) (i : ∀ x y H Q, r' x y H Q → r x y H Q) : OpR X f r' := fun pins s σ H x y v u Q I rx ry q => h pins s σ H x y v u Q I rx ry (i _ _ _ _ q)
theorem _root_.L2.UnR.imp {X : Cx} {f : Value → Sem Value} {r r' : V → Hp → VK → Prop} (h : UnR X f r) (i : ∀ x H Q, r' x H Q → r x H Q) : UnR X f r' := fun pins s σ H x v Q I rx q => h pins s σ H x v Q I rx (i _ _ _ q)
theorem _root_.L2.IxR.imp {X : Cx} {r r' : R2} (h : IxR X r) (i : ∀ x y H Q, r' x y H Q → r x y H Q) : IxR X r' := fun value slice pins s σ H x y v u Q I rx ry q hs => h value slice pins s σ H x y v u Q I rx ry (i _ _ _ _ q) hs
theorem _root_.L2.CallR.imp {X : Cx} {f : Value} {r r' : List V → Hp → VK → Prop} (h : CallR X f r) (i : ∀ x H Q, r' x H Q → r x H Q) : CallR X f r' := fun pins s σ H xs us Q I rx q => h pins s σ H xs us Q I rx (i _ _ _ q)
theorem _root_.L2.MtR.imp {X : Cx} {id : String} {r r' : V → List V → Hp → VK → Prop} (h : MtR X id r) (i : ∀ x y H Q, r' x y H Q → r x y H Q) : MtR X id r' := fun pins s σ H x xs v us Q I rx rs q => h pins s σ H x xs v us Q I rx rs (i _ _ _ _ q)
theorem _root_.L2.SlR.imp {X : Cx} {r r' : V → Option Int → Option Int → Hp → VK → Prop} (h : SlR X r) (i : ∀ x l u H Q, r' x l u H Q → r x l u H Q) : SlR X r' := fun pins s σ H x v vl vu lo hi sl Q I rx hs pl pu q => h pins s σ H x v vl vu lo hi sl Q I rx hs pl pu (i _ _ _ _ _ q)
theorem _root_.L2.PSet.imp {X : Cx} {r r' : TSet} (h : PSet X r) (i : ∀ x y z H Q, r' x y z H Q → r x y z H Q) : PSet X r' := fun pins s σ H o k v ov iv u Q I r1 r2 r3 q => h pins s σ H o k v ov iv u Q I r1 r2 r3 (i _ _ _ _ _ q)
theorem _root_.L2.PSet.or {X : Cx} {r r' : TSet} (h : PSet X r) (h' : PSet X r') : PSet X (fun x y z H Q => r x y z H Q ∨ r' x y z H Q) := fun pins s σ H o k v ov iv u Q I r1 r2 r3 q => q.elim (h pins s σ H o k v ov iv u Q I r1 r2 r3) (h' pins s σ H o k v ov iv u Q I r1 r2 r3)

/-! ## what a value holds -/
def lstAt (h : CH) (n : Nat) : Option (List Dt) := match h[n]? with
  | some (.lst ds) => some ds
  | _ => none
def asL : Dt → CH → Option (List Dt)
  | .ref n, h => lstAt h n
  | .cl ds, _ => some ds
  | _, _ => none
def asQ : Dt → CH → Option (List Dt)
  | .ref n, h => lstAt h n
  | .cl ds, _ => some ds
  | .tup ds, _ => some ds
  | _, _ => none
section
variable {X : Cx} {K : PySem.W.Frag} {ι : List Addr} {H : Hp} {h : CH}
theorem lstAt_ok (r : RepH K ι H h) {n : Nat} {ds : List Dt} {v : V} (dx : Den K ι H (.ref n) v) (e : lstAt h n = some ds) : ∃ a vs, v = .ref a ∧ ι[n]? = some a ∧ H a = some (.lst vs) ∧ Dens K ι H ds vs ∧ h[n]? = some (.lst ds) := by
  obtain ⟨a, rfl, hn⟩ := dx
  obtain ⟨c, o, hc, ho, dc⟩ := r.of hn
  unfold lstAt at e
  rw [hc] at e
  cases c with
  | lst es =>
    cases e
    obtain ⟨vs, rfl, q⟩ := dc
    exact ⟨a, vs, rfl, hn, ho, q, hc⟩
  | _ => cases e
theorem asL_ok (r : RepH K ι H h) {d : Dt} {ds : List Dt} {v : V} (dx : Den K ι H d v) (e : asL d h = some ds) : ∃ a vs, v = .ref a ∧ SqL K H a vs ∧ Dens K ι H ds vs := by
  cases d with
  | ref n =>
    obtain ⟨a, vs, e1, _, ha, q, _⟩ := lstAt_ok r dx e
    exact ⟨a, vs, e1, SqL.of ha, q⟩
  | cl es =>
    cases e
    obtain ⟨a, vs, rfl, s, q⟩ := dx
    exact ⟨a, vs, rfl, s.sq, q⟩
  | _ => cases e
theorem asQ_ok (r : RepH K ι H h) {d : Dt} {ds : List Dt} {v : V} (dx : Den K ι H d v) (e : asQ d h = some ds) : ∃ a vs, v = .ref a ∧ (SqL K H a vs ∨ SqT K H a vs) ∧ Dens K ι H ds vs := by
  cases d with
  | ref n =>
    obtain ⟨a, vs, e1, s, q⟩ := asL_ok (d := .ref n) r dx e
    exact ⟨a, vs, e1, .inl s, q⟩
  | cl es =>
    obtain ⟨a, vs, e1, s, q⟩ := asL_ok (d := .cl es) r dx e
    exact ⟨a, vs, e1, .inl s, q⟩
  | tup es =>
    cases e
    obtain ⟨a, vs, rfl, s, q⟩ := dx
    exact ⟨a, vs, rfl, .inr s, q⟩
  | _ => cases e

/-! ## ints -/
def pII (C : Int → Int → Bool) (g : Int → Int → Dt) : Dt → Dt → CH → Pr
  | .int i, .int j, h => if C i j = true then some (g i j, h) else none
  | _, _, _ => none
theorem o_ii {f : Value → Value → Sem Value} {C : Int → Int → Prop} {C' : Int → Int → Bool} {g : Int → Int → V} {g' : Int → Int → Dt} (ho : OpR X f (rI C g)) (hC : ∀ i j, C' i j = true → C i j) (hg : ∀ ι H i j, Den X.K ι H (g' i j) (g i j)) : OpR X f (rD X.K (pII C' g')) :=
  ho.imp fun x y H Q ⟨ι, h, d, e, rh, dx, dy, ok⟩ => by
    cases d with
    | int i =>
      cases e with
      | int j =>
        have dx : x = .int i := dx
        have dy : y = .int j := dy
        subst dx; subst dy
        dsimp only [pII] at ok
        split at ok
        · rename_i hc
          exact ⟨i, j, rfl, rfl, hC i j hc, OkP.here ok rh (hg ι H i j)⟩
        · exact ok.elim
      | _ => exact ok.elim
    | _ => exact ok.elim
theorem rI0_rI {X : Cx} {f : Value → Value → Sem Value} {g : Int → Int → V} (h : OpR X f (rI0 g)) : OpR X f (rI (fun _ _ => True) g) := h.imp fun x y H Q ⟨i, j, e1, e2, _, q⟩ => ⟨i, j, e1, e2, q⟩
abbrev yes2 : Int → Int → Bool := fun _ _ => true
abbrev pSub := pII yes2 fun i j => .int (i - j)
abbrev pFdiv := pII (fun _ j => decide (0 < j) && decide (j.natAbs.log2 < 9000)) fun i j => .int (i / j)
abbrev pMod := pII (fun _ j => decide (0 < j)) fun i j => .int (i % j)
abbrev pPow := pII (fun i j => decide (0 ≤ j) && (decide (j ≤ 1000000) && decide (i.natAbs < 2 ^ 64))) fun i j => .int (i ^ j.toNat)
abbrev pLt := pII yes2 fun i j => .bl (decide (i < j))
abbrev pLe := pII yes2 fun i j => .bl (decide (i ≤ j))
abbrev pGt := pII yes2 fun i j => .bl (decide (j < i))
abbrev pGe := pII yes2 fun i j => .bl (decide (j ≤ i))
theorem o_sub : OpR X (binaryOp .Sub) (rD X.K pSub) := o_ii (rI0_rI op_sub) (fun _ _ _ => trivial) (fun _ _ _ _ => rfl)
theorem o_fdiv : OpR X (binaryOp .FloorDiv) (rD X.K pFdiv) := o_ii op_fdivW (fun _ _ h => by
  obtain ⟨h1, h2⟩ := Bool.and_eq_true_iff.mp h
  exact ⟨of_decide_eq_true h1, of_decide_eq_true h2⟩) (fun _ _ _ _ => rfl)
theorem o_mod : OpR X (binaryOp .Mod) (rD X.K pMod) := o_ii op_mod (fun _ _ h => of_decide_eq_true h) (fun _ _ _ _ => rfl)
theorem o_pow : OpR X (binaryOp .Pow) (rD X.K pPow) := o_ii op_pow (fun _ _ h => by
  obtain ⟨h1, h2⟩ := Bool.and_eq_true_iff.mp h
  obtain ⟨h2, h3⟩ := Bool.and_eq_true_iff.mp h2
  exact ⟨of_decide_eq_true h1, of_decide_eq_true h2, of_decide_eq_true h3⟩) (fun _ _ _ _ => rfl)
theorem o_lt : OpR X (compareOp .Lt) (rD X.K pLt) := o_ii (rI0_rI op_lt) (fun _ _ _ => trivial) (fun _ _ _ _ => rfl)
theorem o_le : OpR X (compareOp .LtE) (rD X.K pLe) := o_ii (rI0_rI op_le) (fun _ _ _ => trivial) (fun _ _ _ _ => rfl)
theorem o_gt : OpR X (compareOp .Gt) (rD X.K pGt) := o_ii (rI0_rI op_gt) (fun _ _ _ => trivial) (fun _ _ _ _ => rfl)
theorem o_ge : OpR X (compareOp .GtE) (rD X.K pGe) := o_ii (rI0_rI op_ge) (fun _ _ _ => trivial) (fun _ _ _ _ => rfl)
def pNeg : Dt → CH → Pr
  | .int i, h => some (.int (-i), h)
  | _, _ => none
theorem u_neg : UnR X (unaryOp .USub) (rU1 X.K pNeg) := un_neg.imp fun x H Q ⟨ι, h, d, rh, dx, ok⟩ => by
  cases d with
  | int i =>
    have dx : x = .int i := dx
    exact ⟨i, dx, OkP.here ok rh rfl⟩
  | _ => exact ok.elim

/-! ## a + b, a * b -/
def pAdd : Dt → Dt → CH → Pr
  | .int i, .int j, h => some (.int (i + j), h)
  | .str a, .str b, h => if a.length + b.length ≤ sizeLine then some (.str (a ++ b), h) else none
  | .tup a, .tup b, h => if a.length + b.length ≤ sizeLine then some (.tup (a ++ b), h) else none
  | .ref n, .ref m, h => match lstAt h n, lstAt h m with
    | some xs, some ys => if xs.length + ys.length ≤ sizeLine then some (.ref h.length, h ++ [.lst (xs ++ ys)]) else none
    | _, _ => none
  | _, _, _ => none
theorem o_add : OpR X (binaryOp .Add) (rD X.K pAdd) := (op_add.or (op_add_str.or (op_cat.or op_catA))).imp fun x y H Q ⟨ι, h, d, e, rh, dx, dy, ok⟩ => by
  cases d with
  | int i =>
    cases e with
    | int j => exact .inl ⟨i, j, dx, dy, OkP.here ok rh rfl⟩
    | _ => exact ok.elim
  | str i =>
    cases e with
    | str j =>
      dsimp only [pAdd] at ok
      split at ok
      · rename_i hl; exact .inr (.inl ⟨i, j, dx, dy, hl, OkP.here ok rh rfl⟩)
      · exact ok.elim
    | _ => exact ok.elim
  | tup a =>
    cases e with
    | tup b =>
      dsimp only [pAdd] at ok
      split at ok
      · rename_i hl
        obtain ⟨p, vs, rfl, s1, d1⟩ := dx
        obtain ⟨q, ws, rfl, s2, d2⟩ := dy
        refine .inr (.inr (.inr ⟨p, q, vs, ws, rfl, rfl, s1, s2, by rw [← d1.length, ← d2.length]; exact hl, fun z => ?_, fun _ z => ?_, fun _ _ r hr => ?_⟩))
        · subst z
          have : a = [] := List.length_eq_zero_iff.mp (by rw [d1.length]; rfl)
          subst this
          exact OkP.here ok rh ⟨q, ws, rfl, s2, d2⟩
        · subst z
          have : b = [] := List.length_eq_zero_iff.mp (by rw [d2.length]; rfl)
          subst this
          rw [List.append_nil] at ok
          exact OkP.here ok rh ⟨p, vs, rfl, s1, d1⟩
        · exact OkP.tup ok rh (d1.app d2) hr
      · exact ok.elim
    | _ => exact ok.elim
  | ref n =>
    cases e with
    | ref m =>
      dsimp only [pAdd] at ok
      split at ok
      · rename_i xs ys e1 e2
        obtain ⟨p, vs, rfl, _, h1, d1, _⟩ := lstAt_ok rh dx e1
        obtain ⟨q, ws, rfl, _, h2, d2, _⟩ := lstAt_ok rh dy e2
        split at ok
        · rename_i hl
          exact .inr (.inr (.inl ⟨p, q, vs, ws, rfl, rfl, h1, h2, by rw [← d1.length, ← d2.length]; exact hl, fun r hr => OkP.lst ok rh (d1.app d2) hr⟩))
        · exact ok.elim
      · exact ok.elim
    | _ => exact ok.elim
  | _ => exact ok.elim
def repD (k : Nat) (ds : List Dt) : List Dt := (List.replicate k ds).flatten
theorem Dens.rep {ds : List Dt} {vs : List V} (d : Dens K ι H ds vs) : ∀ k, Dens K ι H (repD k ds) ((List.replicate k vs).flatten)
  | 0 => rfl
  | k + 1 => by
    show Dens K ι H ((List.replicate (k + 1) ds).flatten) ((List.replicate (k + 1) vs).flatten)
    rw [List.replicate_succ, List.replicate_succ, List.flatten_cons, List.flatten_cons]
    exact d.app (Dens.rep d k)
def pMul : Dt → Dt → CH → Pr
  | .int i, .int j, h => if i.natAbs.log2 + j.natAbs.log2 < 1000000 then some (.int (i * j), h) else none
  | .ref n, .int k, h => match lstAt h n with
    | some xs => if (decide (-(2 ^ 63) ≤ k) && (decide (k < 2 ^ 63) && decide (xs.length * k.toNat ≤ sizeLine))) = true then some (.ref h.length, h ++ [.lst (repD k.toNat xs)]) else none
    | none => none
  | _, _, _ => none
theorem o_mul : OpR X (binaryOp .Mult) (rD X.K pMul) := (op_mulW.or op_rep).imp fun x y H Q ⟨ι, h, d, e, rh, dx, dy, ok⟩ => by
  cases d with
  | int i =>
    cases e with
    | int j =>
      dsimp only [pMul] at ok
      split at ok
      · rename_i hl; exact .inl ⟨i, j, dx, dy, hl, OkP.here ok rh rfl⟩
      · exact ok.elim
    | _ => exact ok.elim
  | ref n =>
    cases e with
    | int k =>
      dsimp only [pMul] at ok
      split at ok
      · rename_i xs e1
        obtain ⟨p, vs, rfl, _, h1, d1, _⟩ := lstAt_ok rh dx e1
        split at ok
        · rename_i hl
          obtain ⟨q1, q2⟩ := Bool.and_eq_true_iff.mp hl
          obtain ⟨q2, q3⟩ := Bool.and_eq_true_iff.mp q2
          exact .inr ⟨p, k, vs, rfl, dy, h1, of_decide_eq_true q1, of_decide_eq_true q2, by rw [← d1.length]; exact of_decide_eq_true q3, fun r hr => OkP.lst ok rh (d1.rep _) hr⟩
        · exact ok.elim
      · exact ok.elim
    | _ => exact ok.elim
  | _ => exact ok.elim

/-! ## is None -/
def pIsN : Dt → Dt → CH → Pr
  | d, .non, h => some (.bl (decide (d = .non)), h)
  | _, _, _ => none
def pNotN : Dt → Dt → CH → Pr
  | d, .non, h => some (.bl (!decide (d = .non)), h)
  | _, _, _ => none
theorem den_non {d : Dt} {v : V} (dx : Den K ι H d v) : decide (v = .non) = decide (d = .non) := by
  cases d with
  | non => have dx : v = .non := dx; subst dx; rfl
  | bl b => have dx : v = .bl b := dx; subst dx; rfl
  | int b => have dx : v = .int b := dx; subst dx; rfl
  | str b => have dx : v = .str b := dx; subst dx; rfl
  | tup ds => obtain ⟨a, vs, rfl, _⟩ := dx; rfl
  | ref n => obtain ⟨a, rfl, _⟩ := dx; rfl
  | cl ds => obtain ⟨a, vs, rfl, _⟩ := dx; rfl
  | glo x => have dx : v = .ref (He.ga K x) := dx; subst dx; rfl
  | ty x => have dx : v = .ty x := dx; subst dx; rfl
theorem o_is : OpR X (compareOp .Is) (rD X.K pIsN) := op_isN.imp fun x y H Q ⟨ι, h, d, e, rh, dx, dy, ok⟩ => by
  cases e with
  | non => exact ⟨dy, by rw [den_non dx]; exact OkP.here ok rh rfl⟩
  | _ => cases d <;> exact ok.elim
theorem o_isnot : OpR X (compareOp .IsNot) (rD X.K pNotN) := op_notN.imp fun x y H Q ⟨ι, h, d, e, rh, dx, dy, ok⟩ => by
  cases e with
  | non => exact ⟨dy, by rw [den_non dx]; exact OkP.here ok rh rfl⟩
  | _ => cases d <;> exact ok.elim
end
end Cl
namespace Cl
open PySem PySem.Spec PyProof.Rows L2

/-! ## data: what == looks at -/
def seqO {α β : Type} (f : α → Option β) : List α → Option (List β)
  | [] => some []
  | a :: r => match f a, seqO f r with
    | some b, some l => some (b :: l)
    | _, _ => none
def toPy (h : CH) : Nat → Dt → Option PyData
  | _, .non => some .none
  | _, .bl b => some (.bool b)
  | _, .int i => some (.int i)
  | _, .str s => if PyData.strOk s = true then some (.str s) else none
  | n + 1, .tup ds => (seqO (toPy h n) ds).map .tuple
  | n + 1, .cl ds => (seqO (toPy h n) ds).map .list
  | n + 1, .ref k => match lstAt h k with
    | some ds => (seqO (toPy h n) ds).map .list
    | none => none
  | _, _ => none
section
variable {X : Cx} {K : PySem.W.Frag} {ι : List Addr} {H : Hp} {h : CH}
theorem seqO_dp {f : Dt → Option PyData} : ∀ {ds : List Dt} {ps : List PyData} {vs : List V}, (∀ d p v, f d = some p → Den K ι H d v → Dp K H v p) → seqO f ds = some ps → Dens K ι H ds vs → DpAll K H vs ps
  | [], _, _, _, e, d => by
    have e : some [] = some _ := e
    cases e
    obtain rfl := d.unnil
    exact .nil
  | x :: ds, _, _, hf, e, d => by
    obtain ⟨v, r, rfl, dv, dr⟩ := d.uncons
    unfold seqO at e
    split at e
    · rename_i p l e1 e2
      cases e
      exact .cons (hf _ _ _ e1 dv) (seqO_dp hf e2 dr)
    · cases e
theorem toPy_dp (r : RepH K ι H h) : ∀ {n : Nat} {d : Dt} {p : PyData} {v : V}, toPy h n d = some p → Den K ι H d v → Dp K H v p := by
  intro n
  induction n with
  | zero =>
    intro d p v e dx
    cases d with
    | non => have dx : v = .non := dx; subst dx; cases e; exact .non
    | bl b => have dx : v = .bl b := dx; subst dx; cases e; exact .bl b
    | int b => have dx : v = .int b := dx; subst dx; cases e; exact .int b
    | str b =>
      have dx : v = .str b := dx; subst dx
      have e : (if PyData.strOk b = true then some (PyData.str b) else none) = some p := e
      split at e
      · cases e; exact .str b
      · cases e
    | _ => cases e
  | succ n ih =>
    intro d p v e dx
    cases d with
    | non => have dx : v = .non := dx; subst dx; cases e; exact .non
    | bl b => have dx : v = .bl b := dx; subst dx; cases e; exact .bl b
    | int b => have dx : v = .int b := dx; subst dx; cases e; exact .int b
    | str b =>
      have dx : v = .str b := dx; subst dx
      have e : (if PyData.strOk b = true then some (PyData.str b) else none) = some p := e
      split at e
      · cases e; exact .str b
      · cases e
    | tup ds =>
      obtain ⟨a, vs, rfl, s, q⟩ := dx
      have e : (seqO (toPy h n) ds).map PyData.tuple = some p := e
      obtain ⟨ps, e1, rfl⟩ := Option.map_eq_some_iff.mp e
      exact .tup s (seqO_dp (fun d p v e d => ih e d) e1 q)
    | cl ds =>
      obtain ⟨a, vs, rfl, s, q⟩ := dx
      have e : (seqO (toPy h n) ds).map PyData.list = some p := e
      obtain ⟨ps, e1, rfl⟩ := Option.map_eq_some_iff.mp e
      exact .lst s.sq (seqO_dp (fun d p v e d => ih e d) e1 q)
    | ref k =>
      have e : (match lstAt h k with
        | some ds => (seqO (toPy h n) ds).map PyData.list
        | none => none) = some p := e
      split at e
      · rename_i ds e0
        obtain ⟨a, vs, rfl, _, ha, q, _⟩ := lstAt_ok r dx e0
        obtain ⟨ps, e1, rfl⟩ := Option.map_eq_some_iff.mp e
        exact .lst (SqL.of ha) (seqO_dp (fun d p v e d => ih e d) e1 q)
      · cases e
    | _ => cases e
theorem seqO_shape {f : Dt → Option PyData} {n : Nat} : ∀ {ds : List Dt} {ps : List PyData}, (∀ d p, f d = some p → p.canLay0 = true ∧ p.depth ≤ n) → seqO f ds = some ps → PyData.canLayAll0 ps = true ∧ PyData.depthAll ps ≤ n
  | [], _, _, e => by
    have e : some [] = some _ := e
    cases e
    simp [PyData.canLayAll0, PyData.depthAll]
  | x :: ds, _, hf, e => by
    unfold seqO at e
    split at e
    · rename_i p l e1 e2
      cases e
      obtain ⟨h1, h2⟩ := hf _ _ e1
      obtain ⟨h3, h4⟩ := seqO_shape hf e2
      simp only [PyData.canLayAll0, PyData.depthAll, h1, h3, Bool.and_self, true_and]
      omega
    · cases e
theorem toPy_shape : ∀ {n : Nat} {d : Dt} {p : PyData}, toPy h n d = some p → p.canLay0 = true ∧ p.depth ≤ n := by
  have flat : ∀ {n : Nat} {b : Str} {p : PyData}, (if PyData.strOk b = true then some (PyData.str b) else none) = some p → p.canLay0 = true ∧ p.depth ≤ n := by
    intro n b p e
    split at e
    · rename_i hs; cases e; simp [PyData.canLay0, PyData.depth, hs]
    · cases e
  intro n
  induction n with
  | zero =>
    intro d p e
    cases d with
    | non => cases e; simp [PyData.canLay0, PyData.depth]
    | bl b => cases e; simp [PyData.canLay0, PyData.depth]
    | int b => cases e; simp [PyData.canLay0, PyData.depth]
    | str b => exact flat e
    | _ => cases e
  | succ n ih =>
    intro d p e
    cases d with
    | non => cases e; simp [PyData.canLay0, PyData.depth]
    | bl b => cases e; simp [PyData.canLay0, PyData.depth]
    | int b => cases e; simp [PyData.canLay0, PyData.depth]
    | str b => exact flat e
    | tup ds =>
      have e : (seqO (toPy h n) ds).map PyData.tuple = some p := e
      obtain ⟨ps, e1, rfl⟩ := Option.map_eq_some_iff.mp e
      obtain ⟨h1, h2⟩ := seqO_shape (fun d p e => ih e) e1
      simp only [PyData.canLay0, PyData.depth, h1, true_and]; omega
    | cl ds =>
      have e : (seqO (toPy h n) ds).map PyData.list = some p := e
      obtain ⟨ps, e1, rfl⟩ := Option.map_eq_some_iff.mp e
      obtain ⟨h1, h2⟩ := seqO_shape (fun d p e => ih e) e1
      simp only [PyData.canLay0, PyData.depth, h1, true_and]; omega
    | ref k =>
      have e : (match lstAt h k with
        | some ds => (seqO (toPy h n) ds).map PyData.list
        | none => none) = some p := e
      split at e
      · obtain ⟨ps, e1, rfl⟩ := Option.map_eq_some_iff.mp e
        obtain ⟨h1, h2⟩ := seqO_shape (fun d p e => ih e) e1
        simp only [PyData.canLay0, PyData.depth, h1, true_and]; omega
      · cases e
    | _ => cases e
abbrev pyF : Nat := 10
theorem toPy_shaped {d : Dt} {p : PyData} (e : toPy h pyF d = some p) : SeqAt.shaped p = true := by
  obtain ⟨h1, h2⟩ := toPy_shape e
  unfold SeqAt.shaped
  rw [h1, decide_eq_true (Nat.le_trans h2 (by decide : 10 ≤ 64))]; rfl

/-! ## dicts by int and text keys -/
def pyKV (h : CH) : List (Dt × Dt) → Option (List (Dt × PyData))
  | [] => some []
  | (k, d) :: r => match toPy h pyF d, pyKV h r with
    | some p, some l => some ((k, p) :: l)
    | _, _ => none
def lookP : List (Dt × PyData) → Dt → Option PyData
  | [], _ => none
  | p :: r, k => if p.1 = k then some p.2 else lookP r k
def eqKV (a b : List (Dt × PyData)) : Bool := a.all fun p => match lookP b p.1 with
  | some u => PyData.eqv p.2 u
  | none => false
def dicAt (h : CH) (n : Nat) : Option (List (Dt × Dt)) := match h[n]? with
  | some (.dic false false kvs) => some kvs
  | _ => none
theorem dicAt_ok (r : RepH K ι H h) {n : Nat} {kvs : List (Dt × Dt)} {v : V} (dx : Den K ι H (.ref n) v) (e : dicAt h n = some kvs) : ∃ a l, v = .ref a ∧ ι[n]? = some a ∧ H a = some (.dK l) ∧ KVs K ι H kvs l ∧ h[n]? = some (.dic false false kvs) := by
  obtain ⟨a, rfl, hn⟩ := dx
  obtain ⟨c, o, hc, ho, dc⟩ := r.of hn
  unfold dicAt at e
  rw [hc] at e
  split at e
  · rename_i e2
    cases e
    cases e2
    obtain ⟨u, ⟨l, e3, kv⟩, _, h2⟩ := dc
    have h2 := h2 rfl
    subst h2
    subst e3
    exact ⟨a, l, rfl, hn, ho, kv, hc⟩
  · cases e
def pyD (h : CH) : Dt → Option (List (Dt × PyData))
  | .ref n => match dicAt h n with
    | some kvs => pyKV h kvs
    | none => none
  | _ => none
def eqB (d e : Dt) (h : CH) : Option Bool := match toPy h pyF d, toPy h pyF e with
  | some p, some q => some (PyData.eqv p q)
  | none, none => match pyD h d, pyD h e with
    | some a, some b => some (a.length == b.length && eqKV a b)
    | _, _ => none
  | _, _ => none
def pEq : Dt → Dt → CH → Pr := fun d e h => (eqB d e h).map fun b => (.bl b, h)
def pNe : Dt → Dt → CH → Pr := fun d e h => (eqB d e h).map fun b => (.bl (!b), h)
theorem dkey_inj {a b : Dt} {k : Key} (h1 : dkey a = some k) (h2 : dkey b = some k) : a = b := by
  cases a with
  | int i =>
    cases b with
    | int j => cases h1; cases h2; rfl
    | str s => cases h1; cases h2
    | _ => cases h2
  | str i =>
    cases b with
    | int j => cases h1; cases h2
    | str s => cases h1; cases h2; rfl
    | _ => cases h2
  | _ => cases h1
theorem KVs.uncons {p : Dt × Dt} {ps : List (Dt × Dt)} {l : List (Key × V)} (h : KVs K ι H (p :: ps) l) : ∃ k v r, l = (k, v) :: r ∧ dkey p.1 = some k ∧ Den K ι H p.2 v ∧ KVs K ι H ps r := h
theorem lookKV : ∀ {kvs : List (Dt × Dt)} {l : List (Key × V)} {pb : List (Dt × PyData)} {k : Dt} {kk : Key}, KVs K ι H kvs l → pyKV h kvs = some pb → dkey k = some kk →
    match lookP pb k with
    | some q => ∃ d v, toPy h pyF d = some q ∧ Den K ι H d v ∧ valV l kk = some v
    | none => valV l kk = none
  | [], _, _, _, _, r, e, _ => by
    have r : _ = [] := r
    subst r
    have e : some [] = some _ := e
    cases e
    rfl
  | p :: kvs, _, _, k, kk, r, e, hk => by
    obtain ⟨k1, v, r1, rfl, e1, d1, r2⟩ := r.uncons
    obtain ⟨a, b⟩ := p
    unfold pyKV at e
    split at e
    · rename_i q l e2 e3
      cases e
      show match (if a = k then some q else lookP l k) with
        | some q => ∃ d v_1, toPy h pyF d = some q ∧ Den K ι H d v_1 ∧ valV ((k1, v) :: r1) kk = some v_1
        | none => valV ((k1, v) :: r1) kk = none
      by_cases ha : a = k
      · subst ha
        have : k1 = kk := Option.some.inj (e1.symm.trans hk)
        subst this
        rw [if_pos rfl]
        exact ⟨b, v, e2, d1, valV_pos rfl⟩
      · rw [if_neg ha]
        have hne : ¬ k1 = kk := fun z => ha (dkey_inj e1 (z ▸ hk))
        rw [valV_neg hne]
        exact lookKV r2 e3 hk
    · cases e
theorem dic_hits {pins : List (Addr × Obj)} {σ : L2.St} {s : Shared} {A : Around} (I : Inv X pins σ H s) (r : RepH X.K ι H h) (hu : A.units + 64 < cLine) {kb : List (Dt × Dt)} {lb : List (Key × V)} {vb : List (Key × Value)} {pb : List (Dt × PyData)} (b1 : KVs X.K ι H kb lb) (b2 : KV lb vb) (b3 : pyKV h kb = some pb) :
    ∀ {ka : List (Dt × Dt)} {la : List (Key × V)} {va : List (Key × Value)} {pa : List (Dt × PyData)}, KVs X.K ι H ka la → KV la va → pyKV h ka = some pa → PySem.W.KeqHits A s vb va (eqKV pa pb)
  | [], _, _, _, a1, a2, a3 => by
    have a1 : _ = [] := a1
    subst a1
    have a3 : some [] = some _ := a3
    cases a3
    cases a2
    exact .nil
  | p :: ka, _, _, _, a1, a2, a3 => by
    obtain ⟨k1, v, r1, rfl, e1, d1, r2⟩ := a1.uncons
    obtain ⟨a, b⟩ := p
    unfold pyKV at a3
    split at a3
    · rename_i q l e2 e3
      cases a3
      cases a2 with
      | @cons _ y _ ys hh ht =>
        obtain ⟨y1, y2⟩ := y
        obtain ⟨h1, h2⟩ := hh
        have h1 : k1 = y1 := h1
        subst h1
        have rest := dic_hits I r hu b1 b2 b3 r2 ht e3
        have lk := lookKV (h := h) (k := a) (kk := k1) b1 b3 e1
        have rv := b2.val k1
        show PySem.W.KeqHits A s vb ((k1, y2) :: ys) ((match lookP pb a with
          | some u => PyData.eqv q u
          | none => false) && eqKV l pb)
        cases hl : lookP pb a with
        | none =>
          rw [hl] at lk
          rw [show valV lb k1 = none from lk] at rv
          cases hv : valueAt vb k1 with
          | none => exact .miss hv
          | some u => rw [hv] at rv; exact rv.elim
        | some u =>
          rw [hl] at lk
          obtain ⟨d, w, f1, f2, f3⟩ := lk
          rw [f3] at rv
          obtain ⟨uu, hv, ru⟩ := RelO.some_of rv
          obtain ⟨as, q1⟩ := Dp.reads I q v y2 (toPy_dp r e2 d1) h2
          obtain ⟨bs, q2⟩ := Dp.reads I u w uu (toPy_dp r f1 f2) ru
          have s1 := toPy_shaped e2
          have s2 := toPy_shaped f1
          exact .hit hv (SeqAt.eqAt_reads q u A s y2 uu as bs q1 q2 (SeqAt.canLay_of_shaped s1) (SeqAt.canLay_of_shaped s2) (SeqAt.room_of_shaped s1 hu)) rest
    · cases a3
theorem pyKV_len : ∀ {kvs : List (Dt × Dt)} {pb : List (Dt × PyData)}, pyKV h kvs = some pb → pb.length = kvs.length
  | [], _, e => by
    have e : some [] = some _ := e
    cases e; rfl
  | p :: kvs, _, e => by
    obtain ⟨a, b⟩ := p
    unfold pyKV at e
    split at e
    · rename_i q l e2 e3
      cases e
      rw [List.length_cons, List.length_cons, pyKV_len e3]
    · cases e
theorem KVs.length : ∀ {kvs : List (Dt × Dt)} {l : List (Key × V)}, KVs K ι H kvs l → l.length = kvs.length
  | [], _, r => by
    have r : _ = [] := r
    subst r; rfl
  | p :: kvs, _, r => by
    obtain ⟨k1, v, r1, rfl, e1, d1, r2⟩ := r.uncons
    rw [List.length_cons, List.length_cons, KVs.length r2]
theorem pyD_ok {d : Dt} {pa : List (Dt × PyData)} {v : V} (r : RepH K ι H h) (dx : Den K ι H d v) (e : pyD h d = some pa) : ∃ a l kvs, v = .ref a ∧ H a = some (.dK l) ∧ KVs K ι H kvs l ∧ pyKV h kvs = some pa := by
  cases d with
  | ref n =>
    have e : (match dicAt h n with
      | some kvs => pyKV h kvs
      | none => none) = some pa := e
    split at e
    · rename_i kvs e0
      obtain ⟨a, l, rfl, _, ha, kv, _⟩ := dicAt_ok r dx e0
      exact ⟨a, l, kvs, rfl, ha, kv, e⟩
    · cases e
  | _ => cases e
theorem o_eqD (hu : X.A.units + 65 < cLine) : OpR X (compareOp .Eq) (fun x y H Q => ∃ ι h d e b, RepH X.K ι H h ∧ Den X.K ι H d x ∧ Den X.K ι H e y ∧ eqB d e h = some b ∧ Q (.bl (b)) H) := by
  intro pins s σ H x y v u Q I rx ry hh
  obtain ⟨ι, h, d, e, b, rh, dx, dy, eb, q⟩ := hh
  unfold eqB at eb
  split at eb
  · rename_i p1 p2 e1 e2
    have eb := Option.some.inj eb
    subst eb
    exact op_eqD (Nat.lt_of_succ_lt hu) pins s σ H x y v u Q I rx ry ⟨p1, p2, toPy_dp rh e1 dx, toPy_dp rh e2 dy, toPy_shaped e1, toPy_shaped e2, q⟩
  · split at eb
    · rename_i pa pb e1 e2
      have eb := Option.some.inj eb
      obtain ⟨a, la, ka, rfl, ha, kva, pka⟩ := pyD_ok rh dx e1
      obtain ⟨c, lb, kb, rfl, hb, kvb, pkb⟩ := pyD_ok rh dy e2
      obtain rfl : v = Value.ref a := rx
      obtain rfl : u = Value.ref c := ry
      obtain ⟨_, ya, va, ra, da⟩ := (show ObjOk X.prog X.w H s.heap a (.dK la) from I.hok a _ ha)
      obtain ⟨_, yb, vb, rb, db⟩ := (show ObjOk X.prog X.w H s.heap c (.dK lb) from I.hok c _ hb)
      have hl : (va.length == vb.length) = (pa.length == pb.length) := by rw [← ra.length, ← rb.length, kva.length, kvb.length, pyKV_len pka, pyKV_len pkb]
      have hits : PySem.W.KeqHits X.A.in1 s vb va (eqKV pa pb) := dic_hits (A := X.A.in1) I rh (by show X.A.units + 1 + 64 < cLine; omega) kvb rb pkb kva ra pka
      refine PySem.W.keq_eq (knd := mixKind X.prog X.w) (r := eqKV pa pb) ya yb da db (by omega) (fun _ => hits) ?_
      rw [hl, eb]
      exact ⟨.bl (b), H, I, rfl, q⟩
    · cases eb
  · cases eb
theorem o_neD (hu : X.A.units + 65 < cLine) : OpR X (compareOp .NotEq) (fun x y H Q => ∃ ι h d e b, RepH X.K ι H h ∧ Den X.K ι H d x ∧ Den X.K ι H e y ∧ eqB d e h = some b ∧ Q (.bl (!b)) H) := by
  intro pins s σ H x y v u Q I rx ry hh
  obtain ⟨ι, h, d, e, b, rh, dx, dy, eb, q⟩ := hh
  unfold eqB at eb
  split at eb
  · rename_i p1 p2 e1 e2
    have eb := Option.some.inj eb
    subst eb
    exact op_neD (Nat.lt_of_succ_lt hu) pins s σ H x y v u Q I rx ry ⟨p1, p2, toPy_dp rh e1 dx, toPy_dp rh e2 dy, toPy_shaped e1, toPy_shaped e2, q⟩
  · split at eb
    · rename_i pa pb e1 e2
      have eb := Option.some.inj eb
      obtain ⟨a, la, ka, rfl, ha, kva, pka⟩ := pyD_ok rh dx e1
      obtain ⟨c, lb, kb, rfl, hb, kvb, pkb⟩ := pyD_ok rh dy e2
      obtain rfl : v = Value.ref a := rx
      obtain rfl : u = Value.ref c := ry
      obtain ⟨_, ya, va, ra, da⟩ := (show ObjOk X.prog X.w H s.heap a (.dK la) from I.hok a _ ha)
      obtain ⟨_, yb, vb, rb, db⟩ := (show ObjOk X.prog X.w H s.heap c (.dK lb) from I.hok c _ hb)
      have hl : (va.length == vb.length) = (pa.length == pb.length) := by rw [← ra.length, ← rb.length, kva.length, kvb.length, pyKV_len pka, pyKV_len pkb]
      have hits : PySem.W.KeqHits X.A.in1 s vb va (eqKV pa pb) := dic_hits (A := X.A.in1) I rh (by show X.A.units + 1 + 64 < cLine; omega) kvb rb pkb kva ra pka
      refine PySem.W.keq_ne (knd := mixKind X.prog X.w) (r := eqKV pa pb) ya yb da db (by omega) (fun _ => hits) ?_
      rw [hl, eb]
      exact ⟨.bl (!b), H, I, rfl, q⟩
    · cases eb
  · cases eb
theorem o_eq (hu : X.A.units + 65 < cLine) : OpR X (compareOp .Eq) (rD X.K pEq) := (o_eqD hu).imp fun x y H Q ⟨ι, h, d, e, rh, dx, dy, ok⟩ => by
  unfold pEq at ok
  cases q : eqB d e h with
  | none => rw [q] at ok; exact ok.elim
  | some b => rw [q] at ok; exact ⟨ι, h, d, e, b, rh, dx, dy, q, OkP.here ok rh rfl⟩
theorem o_ne (hu : X.A.units + 65 < cLine) : OpR X (compareOp .NotEq) (rD X.K pNe) := (o_neD hu).imp fun x y H Q ⟨ι, h, d, e, rh, dx, dy, ok⟩ => by
  unfold pNe at ok
  cases q : eqB d e h with
  | none => rw [q] at ok; exact ok.elim
  | some b => rw [q] at ok; exact ⟨ι, h, d, e, b, rh, dx, dy, q, OkP.here ok rh rfl⟩

/-! ## x in y -/
def hasKey (kvs : List (Dt × Dt)) (k : Dt) : Bool := kvs.any fun p => decide (p.1 = k)
def inB (d e : Dt) (h : CH) : Option Bool := match e with
  | .str z => match d with
    | .str x => some (!(Builtin.Str.occurrences z x 0 z.length 1).isEmpty)
    | _ => none
  | .ref n => match dicAt h n with
    | some kvs => if (dkey d).isSome = true then some (hasKey kvs d) else none
    | none => match toPy h pyF d, toPy h pyF e with
      | some p, some (.list ps) => some (ps.any fun z => PyData.eqv z p)
      | _, _ => none
  | .cl _ => match toPy h pyF d, toPy h pyF e with
      | some p, some (.list ps) => some (ps.any fun z => PyData.eqv z p)
      | _, _ => none
  | _ => none
def pIn : Dt → Dt → CH → Pr := fun d e h => (inB d e h).map fun b => (.bl b, h)
def pNotIn : Dt → Dt → CH → Pr := fun d e h => (inB d e h).map fun b => (.bl (!b), h)
theorem hasKey_ok : ∀ {kvs : List (Dt × Dt)} {l : List (Key × V)} {k : Dt} {kk : Key}, KVs K ι H kvs l → dkey k = some kk → (valV l kk).isSome = hasKey kvs k
  | [], _, _, _, r, _ => by
    have r : _ = [] := r
    subst r; rfl
  | p :: kvs, _, k, kk, r, hk => by
    obtain ⟨k1, v, r1, rfl, e1, d1, r2⟩ := r.uncons
    show _ = (decide (p.1 = k) || hasKey kvs k)
    by_cases ha : p.1 = k
    · have : k1 = kk := Option.some.inj (e1.symm.trans (ha ▸ hk))
      rw [valV_pos this, decide_eq_true ha]; rfl
    · have hne : ¬ k1 = kk := fun z => ha (dkey_inj e1 (z ▸ hk))
      rw [valV_neg hne, decide_eq_false ha, Bool.false_or]
      exact hasKey_ok r2 hk
theorem dkey_V {k : Dt} {kk : Key} {v : V} (dx : Den K ι H k v) (e : dkey k = some kk) : v = kV kk := by
  cases k with
  | int i => cases e; exact dx
  | str i => cases e; exact dx
  | _ => cases e
theorem o_inD (hu : X.A.units + 65 < cLine) : OpR X (compareOp .In) (fun x y H Q => ∃ ι h d e b, RepH X.K ι H h ∧ Den X.K ι H d x ∧ Den X.K ι H e y ∧ inB d e h = some b ∧ Q (.bl (b)) H) := by
  intro pins s σ H x y v u Q I rx ry hh
  obtain ⟨ι, h, d, e, b, rh, dx, dy, eb, q⟩ := hh
  have deep : ∀ {p : PyData} {ps : List PyData}, toPy h pyF d = some p → toPy h pyF e = some (.list ps) → (ps.any fun z => PyData.eqv z p) = b → wpAny (model X.prog X.w) X.A (compareOp .In v u) (EP X pins σ Q) X.xe s := fun {p ps} e1 e2 hb => by
    subst hb
    exact op_inD hu pins s σ H x y v u Q I rx ry ⟨p, ps, toPy_dp rh e1 dx, toPy_dp rh e2 dy, toPy_shaped e1, toPy_shaped e2, q⟩
  cases e with
  | str z =>
    cases d with
    | str z' =>
      have eb := Option.some.inj eb
      subst eb
      exact op_in_str pins s σ H x y v u Q I rx ry ⟨_, _, dx, dy, q⟩
    | _ => cases eb
  | ref n =>
    dsimp only [inB] at eb
    split at eb
    · rename_i kvs e0
      obtain ⟨a, l, rfl, _, ha, kv, _⟩ := dicAt_ok rh dy e0
      split at eb
      · rename_i hk
        have eb := Option.some.inj eb
        obtain ⟨kk, hkk⟩ := Option.isSome_iff_exists.mp hk
        have ex := dkey_V dx hkk
        subst ex
        obtain rfl : u = Value.ref a := ry
        have g : DGet H a (kV kk) (valV l kk) := DGet.k ha
        have ek := hasKey_ok kv hkk
        rw [eb] at ek
        refine d_in (by omega) I g rx fun s' I' => ?_
        rw [ek]
        exact ⟨.bl (b), H, I', rfl, q⟩
      · cases eb
    · split at eb
      · rename_i e1 e2
        exact deep e1 e2 (Option.some.inj eb)
      · cases eb
  | cl ds =>
    dsimp only [inB] at eb
    split at eb
    · rename_i e1 e2
      exact deep e1 e2 (Option.some.inj eb)
    · cases eb
  | _ => cases eb
theorem o_ninD (hu : X.A.units + 65 < cLine) : OpR X (compareOp .NotIn) (fun x y H Q => ∃ ι h d e b, RepH X.K ι H h ∧ Den X.K ι H d x ∧ Den X.K ι H e y ∧ inB d e h = some b ∧ Q (.bl (!b)) H) := by
  intro pins s σ H x y v u Q I rx ry hh
  obtain ⟨ι, h, d, e, b, rh, dx, dy, eb, q⟩ := hh
  have deep : ∀ {p : PyData} {ps : List PyData}, toPy h pyF d = some p → toPy h pyF e = some (.list ps) → (ps.any fun z => PyData.eqv z p) = b → wpAny (model X.prog X.w) X.A (compareOp .NotIn v u) (EP X pins σ Q) X.xe s := fun {p ps} e1 e2 hb => by
    subst hb
    exact op_notInD hu pins s σ H x y v u Q I rx ry ⟨p, ps, toPy_dp rh e1 dx, toPy_dp rh e2 dy, toPy_shaped e1, toPy_shaped e2, q⟩
  cases e with
  | str z =>
    cases d with
    | str z' =>
      have eb := Option.some.inj eb
      subst eb
      exact op_notIn_str pins s σ H x y v u Q I rx ry ⟨_, _, dx, dy, q⟩
    | _ => cases eb
  | ref n =>
    dsimp only [inB] at eb
    split at eb
    · rename_i kvs e0
      obtain ⟨a, l, rfl, _, ha, kv, _⟩ := dicAt_ok rh dy e0
      split at eb
      · rename_i hk
        have eb := Option.some.inj eb
        obtain ⟨kk, hkk⟩ := Option.isSome_iff_exists.mp hk
        have ex := dkey_V dx hkk
        subst ex
        obtain rfl : u = Value.ref a := ry
        have g : DGet H a (kV kk) (valV l kk) := DGet.k ha
        have ek := hasKey_ok kv hkk
        rw [eb] at ek
        refine d_notIn (by omega) I g rx fun s' I' => ?_
        rw [ek]
        exact ⟨.bl (!b), H, I', rfl, q⟩
      · cases eb
    · split at eb
      · rename_i e1 e2
        exact deep e1 e2 (Option.some.inj eb)
      · cases eb
  | cl ds =>
    dsimp only [inB] at eb
    split at eb
    · rename_i e1 e2
      exact deep e1 e2 (Option.some.inj eb)
    · cases eb
  | _ => cases eb
theorem o_in (hu : X.A.units + 65 < cLine) : OpR X (compareOp .In) (rD X.K pIn) := (o_inD hu).imp fun x y H Q ⟨ι, h, d, e, rh, dx, dy, ok⟩ => by
  unfold pIn at ok
  cases q : inB d e h with
  | none => rw [q] at ok; exact ok.elim
  | some b => rw [q] at ok; exact ⟨ι, h, d, e, b, rh, dx, dy, q, OkP.here ok rh rfl⟩
theorem o_notin (hu : X.A.units + 65 < cLine) : OpR X (compareOp .NotIn) (rD X.K pNotIn) := (o_ninD hu).imp fun x y H Q ⟨ι, h, d, e, rh, dx, dy, ok⟩ => by
  unfold pNotIn at ok
  cases q : inB d e h with
  | none => rw [q] at ok; exact ok.elim
  | some b => rw [q] at ok; exact ⟨ι, h, d, e, b, rh, dx, dy, q, OkP.here ok rh rfl⟩
end
end Cl
namespace Cl
open PySem PySem.Spec PyProof.Rows L2
section
variable {X : Cx} {K : PySem.W.Frag} {ι : List Addr} {H : Hp} {h : CH}

/-! ## a[i] -/
def lookD : List (Dt × Dt) → Dt → Option Dt
  | [], _ => none
  | p :: r, k => if p.1 = k then some p.2 else lookD r k
def pIx : Dt → Dt → CH → Pr
  | .str z, .int i, h => if z.length ≤ sizeLine then (atI z.cps.toList i).map fun c => (.str ⟨#[c]⟩, h) else none
  | .tup ds, .int i, h => (atI ds i).map fun d => (d, h)
  | .cl ds, .int i, h => (atI ds i).map fun d => (d, h)
  | .ref n, k, h => match lstAt h n with
    | some ds => match k with
      | .int i => (atI ds i).map fun d => (d, h)
      | _ => none
    | none => match dicAt h n with
      | some kvs => if (dkey k).isSome = true then (lookD kvs k).map fun d => (d, h) else none
      | none => none
  | _, _, _ => none
theorem atI_den {ds : List Dt} {vs : List V} {i : Int} {d : Dt} (dd : Dens K ι H ds vs) (e : atI ds i = some d) : ∃ v, atI vs i = some v ∧ Den K ι H d v := by
  unfold atI at e ⊢
  rw [← dd.length]
  cases q : ixN ds.length i with
  | none => rw [q] at e; cases e
  | some j => rw [q] at e; exact dd.get e
theorem lookD_ok : ∀ {kvs : List (Dt × Dt)} {l : List (Key × V)} {k d : Dt} {kk : Key}, KVs K ι H kvs l → dkey k = some kk → lookD kvs k = some d → ∃ v, valV l kk = some v ∧ Den K ι H d v
  | [], _, _, _, _, _, _, e => by cases e
  | p :: kvs, _, k, d, kk, r, hk, e => by
    obtain ⟨k1, v, r1, rfl, e1, d1, r2⟩ := r.uncons
    unfold lookD at e
    by_cases ha : p.1 = k
    · rw [if_pos ha] at e
      cases e
      exact ⟨v, valV_pos (Option.some.inj (e1.symm.trans (ha ▸ hk))), d1⟩
    · rw [if_neg ha] at e
      have hne : ¬ k1 = kk := fun z => ha (dkey_inj e1 (z ▸ hk))
      rw [valV_neg hne]
      exact lookD_ok r2 hk e
theorem ix_dic (hu : X.A.units + 65 < cLine) : IxR X (fun x y H Q => ∃ a v, x = .ref a ∧ DGet H a y (some v) ∧ Q v H) := fun value slice pins s σ H x y v u Q I rx ry ⟨a, w, ex, g, q⟩ hs => by
  subst ex
  obtain rfl : v = Value.ref a := rx
  exact tail_any (dict_typeIs I g) PySem.F.slot_dict_getitem.lookup (d_getItem (by omega) I g ry fun w' s' I' rw' => ⟨w, H, I', rw', q⟩) hs
theorem ix_or {r r' : R2} (h : IxR X r) (h' : IxR X r') : IxR X (fun x y H Q => r x y H Q ∨ r' x y H Q) := h.or h'
theorem o_ix (hu : X.A.units + 65 < cLine) : IxR X (rD X.K pIx) := (ix_list.or (ix_tup.or (ix_str.or (ix_dic hu)))).imp fun x y H Q ⟨ι, h, d, e, rh, dx, dy, ok⟩ => by
  have mp : ∀ {o : Option Dt}, OkP X.K ι H (o.map fun d => (d, h)) Q → ∃ d, o = some d ∧ OkP X.K ι H (some (d, h)) Q := fun {o} ok => by
    cases o with
    | none => exact ok.elim
    | some d => exact ⟨d, rfl, ok⟩
  cases d with
  | str z =>
    cases e with
    | int i =>
      dsimp only [pIx] at ok
      split at ok
      · rename_i hz
        cases q : atI z.cps.toList i with
        | none => rw [q] at ok; exact ok.elim
        | some c => rw [q] at ok; exact .inr (.inr (.inl ⟨z, i, c, dx, dy, hz, q, OkP.here ok rh rfl⟩))
      · exact ok.elim
    | _ => exact ok.elim
  | tup ds =>
    cases e with
    | int i =>
      obtain ⟨a, vs, rfl, s, dd⟩ := dx
      obtain ⟨d, e1, ok⟩ := mp (o := atI ds i) ok
      obtain ⟨v, e2, dv⟩ := atI_den dd e1
      exact .inr (.inl ⟨a, vs, i, v, rfl, dy, s, e2, OkP.here ok rh dv⟩)
    | _ => exact ok.elim
  | cl ds =>
    cases e with
    | int i =>
      obtain ⟨a, vs, rfl, s, dd⟩ := dx
      obtain ⟨d, e1, ok⟩ := mp (o := atI ds i) ok
      obtain ⟨v, e2, dv⟩ := atI_den dd e1
      exact .inl ⟨a, vs, i, v, rfl, dy, s.sq, e2, OkP.here ok rh dv⟩
    | _ => exact ok.elim
  | ref n =>
    dsimp only [pIx] at ok
    split at ok
    · rename_i ds e0
      obtain ⟨a, vs, rfl, _, ha, dd, _⟩ := lstAt_ok rh dx e0
      cases e with
      | int i =>
        obtain ⟨d, e1, ok⟩ := mp (o := atI ds i) ok
        obtain ⟨v, e2, dv⟩ := atI_den dd e1
        exact .inl ⟨a, vs, i, v, rfl, dy, SqL.of ha, e2, OkP.here ok rh dv⟩
      | _ => exact ok.elim
    · split at ok
      · rename_i kvs e0
        obtain ⟨a, l, rfl, _, ha, kv, _⟩ := dicAt_ok rh dx e0
        split at ok
        · rename_i hk
          obtain ⟨kk, hkk⟩ := Option.isSome_iff_exists.mp hk
          have ex := dkey_V dy hkk
          subst ex
          obtain ⟨d, e1, ok⟩ := mp ok
          obtain ⟨v, e2, dv⟩ := lookD_ok kv hkk e1
          exact .inr (.inr (.inr ⟨a, v, rfl, e2 ▸ DGet.k ha, OkP.here ok rh dv⟩))
        · exact ok.elim
      · exact ok.elim
  | _ => exact ok.elim

/-! ## a[i] = v -/
def putD2 (kvs : List (Dt × Dt)) (k v : Dt) : List (Dt × Dt) := if hasKey kvs k = true then kvs.map (fun p => if p.1 = k then (p.1, v) else p) else kvs ++ [(k, v)]
def pPut : Dt → Dt → Dt → CH → Option CH
  | .ref n, k, v, h => match lstAt h n with
    | some ds => match k with
      | .int i => (ixN ds.length i).map fun j => h.set n (.lst (ds.set j v))
      | _ => none
    | none => match dicAt h n with
      | some kvs => if (dkey k).isSome = true ∧ kvs.length < sizeLine then some (h.set n (.dic false false (putD2 kvs k v))) else none
      | none => none
  | _, _, _, _ => none
theorem Dens.set : ∀ {ds : List Dt} {vs : List V} {j : Nat} {d : Dt} {v : V}, Dens K ι H ds vs → Den K ι H d v → Dens K ι H (ds.set j d) (vs.set j v)
  | [], _, _, _, _, h, _ => by
    have h : _ = [] := h
    subst h; exact rfl
  | x :: ds, _, 0, _, _, h, k => by
    obtain ⟨w, r, rfl, _, q⟩ := h.uncons
    exact ⟨_, r, rfl, k, q⟩
  | x :: ds, _, j + 1, _, _, h, k => by
    obtain ⟨w, r, rfl, p, q⟩ := h.uncons
    exact ⟨w, _, rfl, p, q.set k⟩
theorem KVs.map {k v' : Dt} {kk : Key} {v : V} (dv : Den K ι H v' v) (hk : dkey k = some kk) : ∀ {kvs : List (Dt × Dt)} {l : List (Key × V)}, KVs K ι H kvs l → KVs K ι H (kvs.map fun p => if p.1 = k then (p.1, v') else p) (l.map fun kv => if kv.1 = kk then (kv.1, v) else kv)
  | [], _, r => by
    have r : _ = [] := r
    subst r; exact rfl
  | p :: kvs, _, r => by
    obtain ⟨k1, w, r1, rfl, e1, d1, r2⟩ := r.uncons
    obtain ⟨a, b⟩ := p
    rw [List.map_cons, List.map_cons]
    by_cases ha : a = k
    · have : k1 = kk := Option.some.inj (e1.symm.trans (ha ▸ hk))
      rw [if_pos ha, if_pos this]
      exact ⟨k1, v, _, rfl, e1, dv, r2.map dv hk⟩
    · have hne : ¬ k1 = kk := fun z => ha (dkey_inj e1 (z ▸ hk))
      rw [if_neg ha, if_neg hne]
      exact ⟨k1, w, _, rfl, e1, d1, r2.map dv hk⟩
theorem KVs.snoc {k d : Dt} {kk : Key} {v : V} (dv : Den K ι H d v) (hk : dkey k = some kk) : ∀ {kvs : List (Dt × Dt)} {l : List (Key × V)}, KVs K ι H kvs l → KVs K ι H (kvs ++ [(k, d)]) (l ++ [(kk, v)])
  | [], _, r => by
    have r : _ = [] := r
    subst r; exact ⟨kk, v, [], rfl, hk, dv, rfl⟩
  | p :: kvs, _, r => by
    obtain ⟨k1, w, r1, rfl, e1, d1, r2⟩ := r.uncons
    exact ⟨k1, w, _, rfl, e1, d1, r2.snoc dv hk⟩
theorem KVs.put {kvs : List (Dt × Dt)} {l : List (Key × V)} {k d : Dt} {kk : Key} {v : V} (r : KVs K ι H kvs l) (dv : Den K ι H d v) (hk : dkey k = some kk) : KVs K ι H (putD2 kvs k d) (putK l kk v) := by
  have e := hasKey_ok r hk
  unfold putD2 putK
  rw [valV_any, e]
  cases hasKey kvs k with
  | true => rw [if_pos rfl, if_pos rfl]; exact r.map dv hk
  | false => rw [if_neg Bool.false_ne_true, if_neg Bool.false_ne_true]; exact r.snoc dv hk
theorem set_dic (hu : X.A.units + 65 < cLine) : PSet X (fun o i v H Q => ∃ a H', o = .ref a ∧ DPut H a i v H' ∧ Q H') := fun pins s σ H o i v ov iv u Q I ro ri rv ⟨a, H', eo, g, q⟩ => by
  subst eo
  obtain rfl : ov = Value.ref a := ro
  exact d_setItem (by omega) I g ri rv fun s' I' => ⟨H', I', q⟩
theorem nfx_lst {vs : List V} : ¬ Fix (.lst vs) := fun z => z.elim id (by intro z; cases z)
theorem nfx_dK {l : List (Key × V)} : ¬ Fix (.dK l) := fun z => z.elim id (by intro z; cases z)
theorem o_put (hu : X.A.units + 65 < cLine) : PSet X (rSet X.K pPut) := (set_list.or (set_dic hu)).imp fun o i v H Q ⟨ι, h, d, e, x, rh, dd, de, dx, ok⟩ => by
  cases d with
  | ref n =>
    dsimp only [pPut] at ok
    split at ok
    · rename_i h4 eq
      split at eq
      · rename_i ds e0
        obtain ⟨a, vs, rfl, hn, ha, dd, _⟩ := lstAt_ok rh dd e0
        cases e with
        | int k =>
          obtain ⟨j, ej, rfl⟩ := Option.map_eq_some_iff.mp eq
          refine .inl ⟨a, vs, k, j, rfl, de, ha, by rw [← dd.length]; exact ej, ?_⟩
          have ee : Ext ι H ι (upd H a (.lst (vs.set j v))) := .write hn ha nfx_lst rfl
          exact ok ι _ ee (rh.write hn ha nfx_lst rfl ⟨_, rfl, (dd.set dx).mono ee⟩)
        | _ => cases eq
      · split at eq
        · rename_i kvs e0
          obtain ⟨a, l, rfl, hn, ha, kv, _⟩ := dicAt_ok rh dd e0
          split at eq
          · rename_i hk
            obtain ⟨hk, hl⟩ := hk
            have eq := Option.some.inj eq
            subst eq
            obtain ⟨kk, hkk⟩ := Option.isSome_iff_exists.mp hk
            have ex := dkey_V de hkk
            subst ex
            refine .inr ⟨a, _, rfl, DPut.k ha (by rw [kv.length]; exact hl), ?_⟩
            have ee : Ext ι H ι (upd H a (.dK (putK l kk v))) := .write hn ha nfx_dK rfl
            exact ok ι _ ee (rh.write hn ha nfx_dK rfl ⟨_, ⟨_, rfl, (kv.put dx hkk).mono ee⟩, ⟨(fun z => by cases z), fun _ => rfl⟩⟩)
          · cases eq
        · cases eq
    · exact ok.elim
  | _ => exact ok.elim

/-! ## a[lo:hi] -/
def cutD (ds : List Dt) (lo hi : Option Int) : List Dt := (ds.drop (HT.sIx ds.length 0 lo)).take (HT.sIx ds.length ds.length hi - HT.sIx ds.length 0 lo)
theorem Dens.drop : ∀ {ds : List Dt} {vs : List V} (n : Nat), Dens K ι H ds vs → Dens K ι H (ds.drop n) (vs.drop n)
  | _, _, 0, h => h
  | [], _, n + 1, h => by
    have h : _ = [] := h
    subst h; exact rfl
  | x :: ds, _, n + 1, h => by
    obtain ⟨w, r, rfl, p, q⟩ := h.uncons
    exact Dens.drop n q
theorem Dens.take : ∀ {ds : List Dt} {vs : List V} (n : Nat), Dens K ι H ds vs → Dens K ι H (ds.take n) (vs.take n)
  | _, _, 0, h => by rw [List.take_zero, List.take_zero]; exact rfl
  | [], _, n + 1, h => by
    have h : _ = [] := h
    subst h; exact rfl
  | x :: ds, _, n + 1, h => by
    obtain ⟨w, r, rfl, p, q⟩ := h.uncons
    exact ⟨w, _, rfl, p, Dens.take n q⟩
theorem Dens.cut {ds : List Dt} {vs : List V} (d : Dens K ι H ds vs) (lo hi : Option Int) : Dens K ι H (cutD ds lo hi) (cutV vs lo hi) := by
  unfold cutD cutV
  rw [d.length]
  exact Dens.take _ (Dens.drop _ d)
def pSl : Dt → Option Int → Option Int → CH → Pr
  | .tup ds, lo, hi, h => some (.tup (cutD ds lo hi), h)
  | .ref n, lo, hi, h => match lstAt h n with
    | some ds => some (.ref h.length, h ++ [.lst (cutD ds lo hi)])
    | none => none
  | .cl ds, lo, hi, h => some (.ref h.length, h ++ [.lst (cutD ds lo hi)])
  | _, _, _, _ => none
theorem cutD_whole {ds : List Dt} {lo hi : Option Int} (h : HT.sIx ds.length 0 lo = 0 ∧ HT.sIx ds.length ds.length hi = ds.length) : cutD ds lo hi = ds := by
  unfold cutD
  rw [h.1, h.2]
  simp
theorem o_sl : SlR X (rSl X.K pSl) := (sl_list.or sl_tupA).imp fun x lo hi H Q ⟨ι, h, d, rh, dx, ok⟩ => by
  cases d with
  | tup ds =>
    obtain ⟨a, vs, rfl, s, dd⟩ := dx
    refine .inr ⟨a, vs, rfl, s, fun hw => ?_, fun hw p hp => OkP.tup ok rh (dd.cut lo hi) hp⟩
    rw [← dd.length] at hw
    have ok : OkP X.K ι H (some (.tup (cutD ds lo hi), h)) Q := ok
    rw [cutD_whole hw] at ok
    exact OkP.here ok rh ⟨a, vs, rfl, s, dd⟩
  | cl ds =>
    obtain ⟨a, vs, rfl, s, dd⟩ := dx
    exact .inl ⟨a, vs, rfl, s.sq, fun p hp => OkP.lst ok rh (dd.cut lo hi) hp⟩
  | ref n =>
    dsimp only [pSl] at ok
    split at ok
    · rename_i ds e0
      obtain ⟨a, vs, rfl, _, ha, dd, _⟩ := lstAt_ok rh dx e0
      exact .inl ⟨a, vs, rfl, SqL.of ha, fun p hp => OkP.lst ok rh (dd.cut lo hi) hp⟩
    · exact ok.elim
  | _ => exact ok.elim

/-! ## len, list, abs, all, isinstance, append -/
def lenD : Dt → CH → Option Nat
  | .str z, _ => if z.length ≤ sizeLine then some z.length else none
  | .tup ds, _ => some ds.length
  | .cl ds, _ => some ds.length
  | .ref n, h => match lstAt h n with
    | some ds => some ds.length
    | none => (dicAt h n).map List.length
  | _, _ => none
def pLen : List Dt → CH → Pr
  | [d], h => (lenD d h).map fun n => (.int n, h)
  | _, _ => none
theorem dens1 {d : Dt} {vs : List V} (x : Dens K ι H [d] vs) : ∃ v, vs = [v] ∧ Den K ι H d v := by
  obtain ⟨v, r, rfl, dv, dr⟩ := x.uncons
  obtain rfl := dr.unnil
  exact ⟨v, rfl, dv⟩
theorem dens2 {d e : Dt} {vs : List V} (x : Dens K ι H [d, e] vs) : ∃ v w, vs = [v, w] ∧ Den K ι H d v ∧ Den K ι H e w := by
  obtain ⟨v, r, rfl, dv, dr⟩ := x.uncons
  obtain ⟨w, rfl, dw⟩ := dens1 dr
  exact ⟨v, w, rfl, dv, dw⟩
theorem c_len : CallR X (.builtin "len") (rDs X.K pLen) := (call_len_str.or (call_len_seq.or call_lenD)).imp fun xs H Q ⟨ι, h, ds, rh, dx, ok⟩ => by
  match ds, dx, ok with
  | [d], dx, ok =>
    obtain ⟨v, rfl, dv⟩ := dens1 dx
    cases d with
    | str z =>
      dsimp only [pLen, lenD] at ok
      split at ok
      · rename_i hz
        exact .inl ⟨z, by have : v = .str z := dv; rw [this], hz, OkP.here ok rh rfl⟩
      · exact ok.elim
    | tup es =>
      obtain ⟨a, vs, rfl, s, dd⟩ := dv
      exact .inr (.inl ⟨a, vs, rfl, .inr s, by rw [← dd.length]; exact OkP.here ok rh rfl⟩)
    | cl es =>
      obtain ⟨a, vs, rfl, s, dd⟩ := dv
      exact .inr (.inl ⟨a, vs, rfl, .inl s.sq, by rw [← dd.length]; exact OkP.here ok rh rfl⟩)
    | ref n =>
      dsimp only [pLen, lenD] at ok
      split at ok
      · rename_i es e0
        obtain ⟨a, vs, rfl, _, ha, dd, _⟩ := lstAt_ok rh dv e0
        exact .inr (.inl ⟨a, vs, rfl, .inl (SqL.of ha), by rw [← dd.length]; exact OkP.here ok rh rfl⟩)
      · cases e0 : dicAt h n with
        | none => rw [e0] at ok; exact ok.elim
        | some kvs =>
          rw [e0] at ok
          obtain ⟨a, l, rfl, _, ha, kv, _⟩ := dicAt_ok rh dv e0
          exact .inr (.inr ⟨a, l, rfl, ha, by rw [kv.length]; exact OkP.here ok rh rfl⟩)
    | _ => exact ok.elim
  | [], _, ok => exact (show False from ok).elim
  | _ :: _ :: _, _, ok => exact (show False from ok).elim
def pList : List Dt → CH → Pr
  | [d], h => (asQ d h).map fun ds => (.ref h.length, h ++ [.lst ds])
  | _, _ => none
theorem c_list : CallR X (.type "list") (rDs X.K pList) := call_list_of.imp fun xs H Q ⟨ι, h, ds, rh, dx, ok⟩ => by
  match ds, dx, ok with
  | [d], dx, ok =>
    obtain ⟨v, rfl, dv⟩ := dens1 dx
    dsimp only [pList] at ok
    cases e : asQ d h with
    | none => rw [e] at ok; exact ok.elim
    | some es =>
      rw [e] at ok
      obtain ⟨a, vs, rfl, s, dd⟩ := asQ_ok rh dv e
      exact ⟨a, vs, rfl, s, fun l hl => OkP.lst ok rh dd hl⟩
  | [], _, ok => exact (show False from ok).elim
  | _ :: _ :: _, _, ok => exact (show False from ok).elim
def pAbs : List Dt → CH → Pr
  | [.int i], h => some (.int (if i < 0 then -i else i), h)
  | _, _ => none
theorem okP_ne {r : Pr} {Q : VK} (ok : OkP K ι H r Q) : r ≠ none := fun z => by rw [z] at ok; exact ok
theorem pAbs_ne {ds : List Dt} {h : CH} (q : pAbs ds h ≠ none) : ∃ i, ds = [.int i] := by
  unfold pAbs at q
  split at q
  · exact ⟨_, rfl⟩
  · exact absurd rfl q
theorem c_abs : CallR X (.builtin "abs") (rDs X.K pAbs) := call_abs.imp fun xs H Q ⟨ι, h, ds, rh, dx, ok⟩ => by
  obtain ⟨i, rfl⟩ := pAbs_ne (okP_ne ok)
  obtain ⟨v, rfl, dv⟩ := dens1 dx
  have dv : v = .int i := dv
  subst dv
  exact ⟨i, rfl, OkP.here ok rh rfl⟩
def blsO : List Dt → Option (List Bool)
  | [] => some []
  | .bl b :: r => (blsO r).map fun l => b :: l
  | _ => none
theorem blsO_ok : ∀ {ds : List Dt} {bs : List Bool} {vs : List V}, blsO ds = some bs → Dens K ι H ds vs → vs = bs.map V.bl
  | [], _, _, e, d => by
    have e : some [] = some _ := e
    cases e
    exact d.unnil
  | x :: ds, _, _, e, d => by
    obtain ⟨v, r, rfl, dv, dr⟩ := d.uncons
    cases x with
    | bl b =>
      obtain ⟨l, e1, rfl⟩ := Option.map_eq_some_iff.mp (show (blsO ds).map (fun l => b :: l) = some _ from e)
      have dv : v = .bl b := dv
      rw [dv, blsO_ok e1 dr]; rfl
    | _ => cases e
def pAll : List Dt → CH → Pr
  | [d], h => match asL d h with
    | some ds => (blsO ds).map fun bs => (.bl (bs.all id), h)
    | none => none
  | _, _ => none
theorem c_all (hc : X.calm = true) : CallR X (.builtin "all") (rDs X.K pAll) := (cr_all hc).imp fun xs H Q ⟨ι, h, ds, rh, dx, ok⟩ => by
  match ds, dx, ok with
  | [d], dx, ok =>
    obtain ⟨v, rfl, dv⟩ := dens1 dx
    dsimp only [pAll] at ok
    cases e : asL d h with
    | none => rw [e] at ok; exact ok.elim
    | some es =>
      rw [e] at ok
      obtain ⟨a, vs, rfl, s, dd⟩ := asL_ok rh dv e
      dsimp only at ok
      cases e2 : blsO es with
      | none => rw [e2] at ok; exact ok.elim
      | some bs =>
        rw [e2] at ok
        exact ⟨a, bs, rfl, by rw [← blsO_ok e2 dd]; exact s, OkP.here ok rh rfl⟩
  | [], _, ok => exact (show False from ok).elim
  | _ :: _ :: _, _, ok => exact (show False from ok).elim
def pAny : List Dt → CH → Pr
  | [d], h => match asL d h with
    | some ds => (blsO ds).map fun bs => (.bl (bs.any id), h)
    | none => none
  | _, _ => none
/-- the type's name -/
def tyN : Dt → CH → Option String
  | .non, _ => some "NoneType"
  | .bl _, _ => some "bool"
  | .int _, _ => some "int"
  | .str _, _ => some "str"
  | .tup _, _ => some "tuple"
  | .cl _, _ => some "list"
  | .ref n, h => match h[n]? with
    | some (.lst _) => some "list"
    | some (.dic false _ _) => some "dict"
    | _ => none
  | _, _ => none
def isTyB (a b : String) : Option Bool := if (["NoneType", "bool", "int", "str", "tuple", "list", "dict"].contains a && ["bool", "int", "str", "tuple", "list", "dict"].contains b) = true then some (a == b || (a == "bool" && b == "int")) else none
theorem isTyB_ok : ∀ {a b : String} {r : Bool}, isTyB a b = some r → kitB a b = some r := by
  intro a b r h
  unfold isTyB at h
  split at h
  · rename_i hm
    obtain ⟨h1, h2⟩ := Bool.and_eq_true_iff.mp hm
    have m1 := List.contains_iff_mem.mp h1
    have m2 := List.contains_iff_mem.mp h2
    have h := Option.some.inj h
    subst h
    have key : ∀ a ∈ ["NoneType", "bool", "int", "str", "tuple", "list", "dict"], ∀ b ∈ ["bool", "int", "str", "tuple", "list", "dict"], kitB a b = some (a == b || (a == "bool" && b == "int")) := by decide +kernel
    exact key a m1 b m2
  · cases h
theorem tyN_ok (r : RepH K ι H h) {d : Dt} {v : V} {T : String} (dx : Den K ι H d v) (e : tyN d h = some T) : TyX K H v (.type T) := by
  cases d with
  | non => have dx : v = .non := dx; subst dx; cases e; exact .base .non
  | bl b => have dx : v = .bl b := dx; subst dx; cases e; exact .base (.bl b)
  | int b => have dx : v = .int b := dx; subst dx; cases e; exact .base (.int b)
  | str b => have dx : v = .str b := dx; subst dx; cases e; exact .base (.str b)
  | tup ds =>
    obtain ⟨a, vs, rfl, s, dd⟩ := dx
    cases e
    rcases s with (s | ⟨o, s⟩) | ⟨o, its, n, s, hc, _⟩
    · exact .base (.tup s)
    · exact .fTuple s
    · exact .kTuple s hc
  | cl ds =>
    obtain ⟨a, vs, rfl, s, dd⟩ := dx
    cases e
    rcases s with ⟨o, s⟩ | ⟨o, its, n, s, hc, _⟩
    · exact .base (.frz s)
    · exact .kList s hc
  | ref n =>
    obtain ⟨a, rfl, hn⟩ := dx
    obtain ⟨c, o, hc, ho, dc⟩ := r.of hn
    have e : (match h[n]? with
      | some (.lst _) => some "list"
      | some (.dic false _ _) => some "dict"
      | _ => none) = some T := e
    rw [hc] at e
    cases c with
    | lst ds =>
      cases e
      obtain ⟨vs, rfl, _⟩ := dc
      exact .base (.lst ho)
    | dic lk tk kvs =>
      cases lk with
      | true => cases e
      | false =>
        cases e
        obtain ⟨u, dd, _, q⟩ := dc
        have q := q rfl
        subst q
        cases tk with
        | false => obtain ⟨l, rfl, _⟩ := dd; exact .base (.dK ho)
        | true => obtain ⟨l, rfl, _⟩ := dd; exact .base (.dT ho)
    | _ => cases e
  | _ => cases e
def pIsi : List Dt → CH → Pr
  | [d, .ty T], h => match tyN d h with
    | some a => (isTyB a T).map fun b => (.bl b, h)
    | none => none
  | _, _ => none
theorem pIsi_ne {ds : List Dt} {h : CH} (q : pIsi ds h ≠ none) : ∃ d T, ds = [d, .ty T] := by
  unfold pIsi at q
  split at q
  · exact ⟨_, _, rfl⟩
  · exact absurd rfl q
theorem c_isi : CallR X (.builtin "isinstance") (rDs X.K pIsi) := call_isi.imp fun xs H Q ⟨ι, h, ds, rh, dx, ok⟩ => by
  obtain ⟨d, T, rfl⟩ := pIsi_ne (okP_ne ok)
  obtain ⟨v, w, rfl, dv, dw⟩ := dens2 dx
  have dw : w = .ty T := dw
  subst dw
  dsimp only [pIsi] at ok
  cases e : tyN d h with
  | none => rw [e] at ok; exact ok.elim
  | some a =>
    rw [e] at ok
    dsimp only at ok
    cases e2 : isTyB a T with
    | none => rw [e2] at ok; exact ok.elim
    | some b =>
      rw [e2] at ok
      exact ⟨v, .ty T, .type a, .type T, b, rfl, .ty T, tyN_ok rh dv e, kit_ty (isTyB_ok e2), OkP.here ok rh rfl⟩
def pApp : Dt → List Dt → CH → Pr
  | .ref n, [d], h => match lstAt h n with
    | some ds => if ds.length < sizeLine then some (.non, h.set n (.lst (ds ++ [d]))) else none
    | none => none
  | _, _, _ => none
theorem pApp_ne {d : Dt} {ds : List Dt} {h : CH} (q : pApp d ds h ≠ none) : ∃ n e, d = .ref n ∧ ds = [e] := by
  unfold pApp at q
  split at q
  · exact ⟨_, _, rfl, rfl⟩
  · exact absurd rfl q
theorem m_app : MtR X "list.append" (rM X.K pApp) := MtR.imp (X := X) mt_append fun x xs H Q ⟨ι, h, d, ds, rh, dx, dxs, ok⟩ => by
  obtain ⟨n, e, rfl, rfl⟩ := pApp_ne (okP_ne ok)
  obtain ⟨v, rfl, dv⟩ := dens1 dxs
  dsimp only [pApp] at ok
  split at ok
  · rename_i es e0
    obtain ⟨a, vs, rfl, hn, ha, dd, _⟩ := lstAt_ok rh dx e0
    split at ok
    · rename_i hl
      have ee : Ext ι H ι (upd H a (.lst (vs ++ [v]))) := .write hn ha nfx_lst rfl
      exact ⟨a, vs, v, rfl, rfl, ha, by rw [← dd.length]; exact hl, ok ι _ _ ee (rh.write hn ha nfx_lst rfl ⟨_, rfl, (dd.app (.cons dv .nil)).mono ee⟩) rfl⟩
    · exact ok.elim
  · exact ok.elim
end
end Cl
namespace Cl
open PySem PySem.Spec PyProof.Rows L2
section
variable {X : Cx} {K : PySem.W.Frag} {W : WX} {ι : List Addr} {H : Hp} {h : CH} {a b e : Expr} {m ma mb : ME} {as : MA} {pos p tpos : Pos} {tg : Expr}

/-! ## what is walked -/
def seqG : Dt → CH → Option (List Dt × Gd)
  | .tup ds, _ => some (ds, [])
  | .cl ds, _ => some (ds, [])
  | .ref n, h => match lstAt h n with
    | some ds => some (ds, [(n, .lst ds)])
    | none => none
  | _, _ => none
def mSeq (m : ME) : MI := fun ρ h => (m ρ h).bind fun d h1 => .opt (seqG d h1) h1
def iSeq (K : PySem.W.Frag) (tl : TE) : TI := fun σ H R => tl σ H fun x H1 => ∃ a, x = .ref a ∧ (((∃ xs, SqL K H1 a xs) ∧ R (Itl K a) H1) ∨ ((∃ xs, SqT K H1 a xs) ∧ R (Itt K a) H1))
theorem pi_seq {l : Expr} {tl : TE} (hl : PE X l tl) : PI X tg l (iSeq X.K tl) := by
  refine ⟨fun pins s σ H R I h => ?_⟩
  refine thn (hl.run pins s σ H _ I h) fun v s1 ⟨x, H1, I1, r1, q1⟩ => ?_
  obtain ⟨a, e, q1⟩ := q1
  subst e
  cases r1
  rcases q1 with ⟨⟨xs, hq⟩, q⟩ | ⟨⟨xs, hq⟩, q⟩
  · obtain ⟨its, rv, p, hz⟩ := I1.list hq
    refine wpAny_pyIter_list p.isList ?_
    refine ⟨s1.heap.objs.size, [s1.heap.objs.size], _, _, H1, rfl, I1.kept (t' := s1.toks) fun b o e => Heap.get?_push_of_some _ e, turn_list a _, ⟨_, Heap.get?_push_size _ rfl, rfl, rfl⟩, fun b hb => ?_, q⟩
    have e : b = s1.heap.objs.size := by simpa using hb
    subst e
    exact I1.fpOk (Nat.le_refl _) (I1.hok.fresh (Nat.le_refl _))
  · obtain ⟨its, rv, p, hz⟩ := I1.tuple hq
    refine wpAny_pyIter_tuple (show s1.heap.IsTuple a its.toArray from p) ?_
    refine ⟨s1.heap.objs.size, [s1.heap.objs.size], _, _, H1, rfl, I1.kept (t' := s1.toks) fun b o e => Heap.get?_push_of_some _ e, turn_tuple a _, ⟨_, Heap.get?_push_size _ rfl, rfl, rfl⟩, fun b hb => ?_, q⟩
    have e : b = s1.heap.objs.size := by simpa using hb
    subst e
    exact I1.fpOk (Nat.le_refl _) (I1.hok.fresh (Nat.le_refl _))
theorem okG_one {n : Nat} {c : Ce} {h : CH} (e : okG [(n, c)] h = true) : h[n]? = some c := by
  unfold okG at e
  simp only [List.all_cons, List.all_nil, Bool.and_true] at e
  exact of_decide_eq_true e
theorem okG_app {g1 g2 : Gd} {h : CH} (e : okG (g1 ++ g2) h = true) : okG g1 h = true ∧ okG g2 h = true := by
  unfold okG at e ⊢
  rw [List.all_append] at e
  exact Bool.and_eq_true_iff.mp e
/-- the items as they stand at each turn -/
def StL (K : PySem.W.Frag) (ι : List Addr) (H : Hp) (a : Addr) (ds : List Dt) (gs : Gd) : Prop := ∀ ι2 H2 h2, Ext ι H ι2 H2 → RepH K ι2 H2 h2 → okG gs h2 = true → ∃ vs, SqL K H2 a vs ∧ Dens K ι2 H2 ds vs
def StT (K : PySem.W.Frag) (ι : List Addr) (H : Hp) (a : Addr) (ds : List Dt) (gs : Gd) : Prop := ∀ ι2 H2 h2, Ext ι H ι2 H2 → RepH K ι2 H2 h2 → okG gs h2 = true → ∃ vs, SqT K H2 a vs ∧ Dens K ι2 H2 ds vs
theorem StL.here {a : Addr} {ds : List Dt} {gs : Gd} (s : StL K ι H a ds gs) (r : RepH K ι H h) (g : okG gs h = true) : ∃ vs, SqL K H a vs := (s ι H h .refl r g).imp fun _ x => x.1
theorem StT.here {a : Addr} {ds : List Dt} {gs : Gd} (s : StT K ι H a ds gs) (r : RepH K ι H h) (g : okG gs h = true) : ∃ vs, SqT K H a vs := (s ι H h .refl r g).imp fun _ x => x.1
theorem okG_lst {n : Nat} {ds : List Dt} (e : h[n]? = some (.lst ds)) : okG [(n, .lst ds)] h = true := by
  unfold okG
  simp only [List.all_cons, List.all_nil, Bool.and_true]
  exact decide_eq_true e
theorem seq_at (r : RepH K ι H h) {d : Dt} {ds : List Dt} {gs : Gd} {v : V} (dx : Den K ι H d v) (e : seqG d h = some (ds, gs)) : ∃ a, v = .ref a ∧ okG gs h = true ∧ (StL K ι H a ds gs ∨ StT K ι H a ds gs) := by
  cases d with
  | tup es =>
    cases e
    obtain ⟨a, vs, rfl, s, dd⟩ := dx
    exact ⟨a, rfl, rfl, .inr fun ι2 H2 h2 e2 r2 _ => ⟨vs, e2.sqT s, dd.mono e2⟩⟩
  | cl es =>
    cases e
    obtain ⟨a, vs, rfl, s, dd⟩ := dx
    exact ⟨a, rfl, rfl, .inl fun ι2 H2 h2 e2 r2 _ => ⟨vs, (e2.rol s).sq, dd.mono e2⟩⟩
  | ref n =>
    dsimp only [seqG] at e
    split at e
    · rename_i es e0
      cases e
      obtain ⟨a, vs, rfl, hn, ha, dd, hh⟩ := lstAt_ok r dx e0
      refine ⟨a, rfl, okG_lst hh, .inl fun ι2 H2 h2 e2 r2 g2 => ?_⟩
      have h3 := okG_one g2
      obtain ⟨o, ho, dc⟩ := r2.at_ n _ a h3 (e2.get hn)
      obtain ⟨ws, rfl, dw⟩ := dc
      exact ⟨ws, SqL.of ho, dw⟩
    · cases e
  | _ => cases e
theorem StL.it {a : Addr} {ds : List Dt} {gs : Gd} (s : StL K ι H a ds gs) : ItOk K ι H ds gs (Itl K a) := fun ι2 H2 h2 e2 r2 g2 => by
  obtain ⟨vs, sq, dd⟩ := s ι2 H2 h2 e2 r2 g2
  refine ⟨fun i d hd => ?_, ⟨vs, sq, by rw [dd.length]; exact Nat.le_refl _⟩⟩
  obtain ⟨v, hv, dv⟩ := dd.get hd
  refine ⟨⟨vs, v, sq, hv⟩, fun x H3 ⟨eh, q⟩ => ?_⟩
  subst eh
  have := (q vs sq).symm.trans hv
  cases this
  exact ⟨.refl, r2, dv⟩
theorem StT.it {a : Addr} {ds : List Dt} {gs : Gd} (s : StT K ι H a ds gs) : ItOk K ι H ds gs (Itt K a) := fun ι2 H2 h2 e2 r2 g2 => by
  obtain ⟨vs, sq, dd⟩ := s ι2 H2 h2 e2 r2 g2
  refine ⟨fun i d hd => ?_, ⟨vs, sq, by rw [dd.length]; exact Nat.le_refl _⟩⟩
  obtain ⟨v, hv, dv⟩ := dd.get hd
  refine ⟨⟨vs, v, sq, hv⟩, fun x H3 ⟨eh, q⟩ => ?_⟩
  subst eh
  have := (q vs sq).symm.trans hv
  cases this
  exact ⟨.refl, r2, dv⟩
abbrev RI (K : PySem.W.Frag) : Rl (List Dt × Gd) It := fun ι' H' a J => ItOk K ι' H' a.1 a.2 J
theorem OkG.it {σ : L2.St} {R : It → Hp → Prop} {x : List Dt × Gd} {J : It} (k : OkG K W σ ι H (RI K) (.ok x h) R) (r : RepH K ι H h) (i : ItOk K ι H x.1 x.2 J) : R J H := k ι H J .refl r i
theorem s_seq (hl : SimE X m e) : SimI X (mSeq m) tg e := fun W tk => (pi_seq (hl W tk)).imp fun σ H R ⟨ι, ρ, h, rs, rh, ok⟩ => by
  refine ⟨ι, ρ, h, rs, rh, (OkG.bind (R := Den X.K) ok).mono fun x H1 ⟨ι1, d, h1, e1, r1, dx, ok1⟩ => ?_⟩
  cases q : seqG d h1 with
  | none => rw [q] at ok1; exact ok1.elim
  | some y =>
    obtain ⟨ds, gs⟩ := y
    rw [q] at ok1
    obtain ⟨a, rfl, g, s | s⟩ := seq_at r1 dx q
    · exact ⟨a, rfl, .inl ⟨s.here r1 g, ok1.it r1 s.it⟩⟩
    · exact ⟨a, rfl, .inr ⟨s.here r1 g, ok1.it r1 s.it⟩⟩

/-! ## range -/
def rngL (lo : Int) (n : Nat) : List Dt := (List.range n).map fun i => .int (lo + (i : Nat))
theorem rngL_get {lo : Int} {n i : Nat} {d : Dt} (e : (rngL lo n)[i]? = some d) : i < n ∧ d = .int (lo + i) := by
  unfold rngL at e
  rw [List.getElem?_map] at e
  by_cases hi : i < n
  · rw [List.getElem?_range hi] at e
    cases e
    exact ⟨hi, rfl⟩
  · rw [List.getElem?_eq_none (by simpa using hi)] at e; cases e
theorem rng_it {lo : Int} {n : Nat} : ItOk K ι H (rngL lo n) [] (Itr lo n) := fun ι2 H2 h2 e2 r2 g2 => by
  refine ⟨fun i d hd => ?_, by unfold rngL; rw [List.length_map, List.length_range]; exact Nat.le_refl n⟩
  obtain ⟨hi, rfl⟩ := rngL_get hd
  refine ⟨hi, fun x H3 ⟨eh, ex⟩ => ?_⟩
  subst eh; subst ex
  exact ⟨.refl, r2, rfl⟩
def mRng1 : List Dt → Option (List Dt × Gd)
  | [.int j] => if (decide (-(2 ^ 62) ≤ j) && decide (j < 2 ^ 62)) = true then some (rngL 0 j.toNat, []) else none
  | _ => none
def mRng2 : List Dt → Option (List Dt × Gd)
  | [.int i, .int j] => if (decide (-(2 ^ 62) ≤ i) && (decide (i < 2 ^ 62) && (decide (-(2 ^ 62) ≤ j) && decide (j < 2 ^ 62)))) = true then some (rngL i (j - i).toNat, []) else none
  | _ => none
def mRange (f : List Dt → Option (List Dt × Gd)) (as : MA) : MI := fun ρ h => (as ρ h).bind fun ds h1 => .opt (f ds) h1
theorem mRng1_ne {ds : List Dt} {y : List Dt × Gd} (q : mRng1 ds = some y) : ∃ j, ds = [.int j] ∧ (-(2 ^ 62) ≤ j ∧ j < 2 ^ 62) ∧ y = (rngL 0 j.toNat, []) := by
  unfold mRng1 at q
  split at q
  · split at q
    · rename_i h
      obtain ⟨h1, h2⟩ := Bool.and_eq_true_iff.mp h
      cases q
      exact ⟨_, rfl, ⟨of_decide_eq_true h1, of_decide_eq_true h2⟩, rfl⟩
    · cases q
  · cases q
theorem mRng2_ne {ds : List Dt} {y : List Dt × Gd} (q : mRng2 ds = some y) : ∃ i j, ds = [.int i, .int j] ∧ (-(2 ^ 62) ≤ i ∧ i < 2 ^ 62 ∧ -(2 ^ 62) ≤ j ∧ j < 2 ^ 62) ∧ y = (rngL i (j - i).toNat, []) := by
  unfold mRng2 at q
  split at q
  · split at q
    · rename_i h
      obtain ⟨h1, h2⟩ := Bool.and_eq_true_iff.mp h
      obtain ⟨h2, h3⟩ := Bool.and_eq_true_iff.mp h2
      obtain ⟨h3, h4⟩ := Bool.and_eq_true_iff.mp h3
      cases q
      exact ⟨_, _, rfl, ⟨of_decide_eq_true h1, of_decide_eq_true h2, of_decide_eq_true h3, of_decide_eq_true h4⟩, rfl⟩
    · cases q
  · cases q
theorem s_rng1 (hg : Gl X "range") (hm : X.mg "range" = none) (ha : SimA X as [a]) (hs : starEach [a] X.env = [(false, eval a X.env)] := by rfl) : SimI X (mRange mRng1 as) tg (.Call (.Name "range" p) [a] [] pos) := fun W tk =>
  (pi_range1 hg hm (ha W tk) hs).imp fun σ H R ⟨ι, ρ, h, rs, rh, ok⟩ => by
    refine ⟨ι, ρ, h, rs, rh, (OkG.bind (R := Dens X.K) ok).mono fun xs H1 ⟨ι1, ds, h1, e1, r1, dx, ok1⟩ => ?_⟩
    cases q : mRng1 ds with
    | none => rw [q] at ok1; exact ok1.elim
    | some y =>
      rw [q] at ok1
      obtain ⟨j, rfl, ⟨b1, b2⟩, rfl⟩ := mRng1_ne q
      obtain ⟨v, rfl, dv⟩ := dens1 dx
      have dv : v = .int j := dv
      exact ⟨j, by rw [dv], b1, b2, ok1.it r1 rng_it⟩
theorem s_rng2 (hg : Gl X "range") (hm : X.mg "range" = none) (ha : SimA X as [a, b]) (hs : starEach [a, b] X.env = [(false, eval a X.env), (false, eval b X.env)] := by rfl) (hs2 : starEach [b] X.env = [(false, eval b X.env)] := by rfl) : SimI X (mRange mRng2 as) tg (.Call (.Name "range" p) [a, b] [] pos) := fun W tk =>
  (pi_range2 hg hm (ha W tk) hs hs2).imp fun σ H R ⟨ι, ρ, h, rs, rh, ok⟩ => by
    refine ⟨ι, ρ, h, rs, rh, (OkG.bind (R := Dens X.K) ok).mono fun xs H1 ⟨ι1, ds, h1, e1, r1, dx, ok1⟩ => ?_⟩
    cases q : mRng2 ds with
    | none => rw [q] at ok1; exact ok1.elim
    | some y =>
      rw [q] at ok1
      obtain ⟨i, j, rfl, bb, rfl⟩ := mRng2_ne q
      obtain ⟨v, w, rfl, dv, dw⟩ := dens2 dx
      have dv : v = .int i := dv
      have dw : w = .int j := dw
      exact ⟨i, j, by rw [dv, dw], bb, ok1.it r1 rng_it⟩

/-! ## enumerate, zip -/
def enumF : Nat → List Dt → List Dt
  | _, [] => []
  | k, d :: r => .tup [.int (k : Nat), d] :: enumF (k + 1) r
theorem enumF_len : ∀ {ds : List Dt} {k : Nat}, (enumF k ds).length = ds.length
  | [], _ => rfl
  | d :: ds, k => by
    show (enumF (k + 1) ds).length + 1 = ds.length + 1
    rw [enumF_len]
theorem enumF_get : ∀ {ds : List Dt} {k i : Nat} {d : Dt}, (enumF k ds)[i]? = some d → ∃ e, ds[i]? = some e ∧ d = .tup [.int ((k + i : Nat) : Int), e]
  | [], _, _, _, e => by cases e
  | x :: ds, k, 0, d, e => by
    have e : some (Dt.tup [.int (k : Nat), x]) = some d := e
    cases e
    exact ⟨x, rfl, rfl⟩
  | x :: ds, k, i + 1, d, e => by
    obtain ⟨y, h1, h2⟩ := enumF_get (ds := ds) (k := k + 1) (i := i) (d := d) e
    exact ⟨y, h1, by rw [h2]; congr 4; omega⟩
theorem StL.enum {a : Addr} {ds : List Dt} {gs : Gd} (s : StL K ι H a ds gs) : ItOk K ι H (enumF 0 ds) gs (Ite K a) := fun ι2 H2 h2 e2 r2 g2 => by
  obtain ⟨vs, sq, dd⟩ := s ι2 H2 h2 e2 r2 g2
  refine ⟨fun i d hd => ?_, ⟨vs, sq, by rw [enumF_len, dd.length]; exact Nat.le_refl _⟩⟩
  obtain ⟨y, hy, rfl⟩ := enumF_get hd
  obtain ⟨v, hv, dv⟩ := dd.get hy
  refine ⟨⟨vs, v, sq, hv⟩, fun x H3 ⟨T, z, ex, hT, eh, q⟩ => ?_⟩
  have := (q vs sq).symm.trans hv
  cases this
  subst ex; subst eh
  have ee : Ext ι2 H2 ι2 (upd H2 T (.tup [.int (i : Nat), v])) := .new hT
  refine ⟨ee, r2.new hT, T, _, rfl, SqT.of upd_same, ?_⟩
  rw [Nat.zero_add]
  exact (Dens.cons (show Den K ι2 H2 (.int (i : Nat)) (.int (i : Nat)) from rfl) (Dens.cons dv .nil)).mono ee
def lstG (d : Dt) (h : CH) : Option (List Dt × Gd) := match d with
  | .tup _ => none
  | d => seqG d h
theorem lstG_at (r : RepH K ι H h) {d : Dt} {ds : List Dt} {gs : Gd} {v : V} (dx : Den K ι H d v) (e : lstG d h = some (ds, gs)) : ∃ a, v = .ref a ∧ okG gs h = true ∧ StL K ι H a ds gs := by
  cases d with
  | tup es => cases e
  | cl es =>
    cases e
    obtain ⟨a, vs, rfl, s, dd⟩ := dx
    exact ⟨a, rfl, rfl, fun ι2 H2 h2 e2 r2 _ => ⟨vs, (e2.rol s).sq, dd.mono e2⟩⟩
  | ref n =>
    have e : seqG (.ref n) h = some (ds, gs) := e
    dsimp only [seqG] at e
    split at e
    · rename_i es e0
      cases e
      obtain ⟨a, vs, rfl, hn, ha, dd, hh⟩ := lstAt_ok r dx e0
      refine ⟨a, rfl, okG_lst hh, fun ι2 H2 h2 e2 r2 g2 => ?_⟩
      have h3 := okG_one g2
      obtain ⟨o, ho, dc⟩ := r2.at_ n _ a h3 (e2.get hn)
      obtain ⟨ws, rfl, dw⟩ := dc
      exact ⟨ws, SqL.of ho, dw⟩
    · cases e
  | _ => cases e
def mEnum1 (ds : List Dt) (h : CH) : Option (List Dt × Gd) := match ds with
  | [d] => (lstG d h).map fun x => (enumF 0 x.1, x.2)
  | _ => none
def mEnum (as : MA) : MI := fun ρ h => (as ρ h).bind fun ds h1 => .opt (mEnum1 ds h1) h1
theorem s_enum {elts : List Expr} {kk : Nat} (hg : Gl X "enumerate") (hm : X.mg "enumerate" = none) (ha : SimA X as [a]) (hs : starEach [a] X.env = [(false, eval a X.env)] := by rfl) : SimI X (mEnum as) (.Tuple elts kk tpos) (.Call (.Name "enumerate" p) [a] [] pos) := fun W tk =>
  (pi_enum hg hm (ha W tk) hs).imp fun σ H R ⟨ι, ρ, h, rs, rh, ok⟩ => by
    refine ⟨ι, ρ, h, rs, rh, (OkG.bind (R := Dens X.K) ok).mono fun xs H1 ⟨ι1, ds, h1, e1, r1, dx, ok1⟩ => ?_⟩
    match ds, dx, ok1 with
    | [d], dx, ok1 =>
      obtain ⟨v, rfl, dv⟩ := dens1 dx
      dsimp only [mEnum1] at ok1
      cases q : lstG d h1 with
      | none => rw [q] at ok1; exact ok1.elim
      | some y =>
        obtain ⟨es, gs⟩ := y
        rw [q] at ok1
        obtain ⟨b, rfl, g, s⟩ := lstG_at r1 dv q
        obtain ⟨vs, sq⟩ := s.here r1 g
        exact ⟨b, vs, rfl, sq, ok1.it r1 s.enum⟩
    | [], _, ok1 => exact (show False from ok1).elim
    | _ :: _ :: _, _, ok1 => exact (show False from ok1).elim
def zipF : List Dt → List Dt → List Dt
  | d :: r, e :: s => .tup [d, e] :: zipF r s
  | _, _ => []
theorem zipF_len : ∀ {ds es : List Dt}, ds.length ≤ (zipF ds es).length ∨ es.length ≤ (zipF ds es).length
  | [], _ => .inl (Nat.zero_le _)
  | _ :: _, [] => .inr (Nat.zero_le _)
  | d :: ds, e :: es => (zipF_len (ds := ds) (es := es)).imp Nat.succ_le_succ Nat.succ_le_succ
theorem zipF_get : ∀ {ds es : List Dt} {i : Nat} {d : Dt}, (zipF ds es)[i]? = some d → ∃ x y, ds[i]? = some x ∧ es[i]? = some y ∧ d = .tup [x, y]
  | [], _, _, _, e => by
    unfold zipF at e; cases e
  | _ :: _, [], _, _, e => by
    unfold zipF at e; cases e
  | x :: ds, y :: es, 0, d, e => by
    have e : some (Dt.tup [x, y]) = some d := e
    cases e
    exact ⟨x, y, rfl, rfl, rfl⟩
  | x :: ds, y :: es, i + 1, d, e => zipF_get (ds := ds) (es := es) (i := i) (d := d) e
theorem zip_new {ι2 : List Addr} {H2 : Hp} {h2 : CH} {T : Addr} {x y : V} {d e : Dt} (r2 : RepH K ι2 H2 h2) (hT : H2 T = none) (dx : Den K ι2 H2 d x) (dy : Den K ι2 H2 e y) : Ext ι2 H2 ι2 (upd H2 T (.tup [x, y])) ∧ RepH K ι2 (upd H2 T (.tup [x, y])) h2 ∧ Den K ι2 (upd H2 T (.tup [x, y])) (.tup [d, e]) (.ref T) := by
  have ee : Ext ι2 H2 ι2 (upd H2 T (.tup [x, y])) := .new hT
  exact ⟨ee, r2.new hT, T, _, rfl, SqT.of upd_same, (Dens.cons dx (Dens.cons dy .nil)).mono ee⟩
theorem zipL_it {a b : Addr} {ds es : List Dt} {g1 g2 : Gd} (s1 : StL K ι H a ds g1) (s2 : StL K ι H b es g2) : ItOk K ι H (zipF ds es) (g1 ++ g2) (Itz K a b) := fun ι2 H2 h2 e2 r2 gg => by
  obtain ⟨q1, q2⟩ := okG_app gg
  obtain ⟨vs, sq1, d1⟩ := s1 ι2 H2 h2 e2 r2 q1
  obtain ⟨ws, sq2, d2⟩ := s2 ι2 H2 h2 e2 r2 q2
  refine ⟨fun i d hd => ?_, ⟨vs, ws, sq1, sq2, by rw [← d1.length, ← d2.length]; exact zipF_len⟩⟩
  obtain ⟨y, z, hy, hz, rfl⟩ := zipF_get hd
  obtain ⟨v, hv, dv⟩ := d1.get hy
  obtain ⟨w, hw, dw⟩ := d2.get hz
  refine ⟨⟨vs, ws, v, w, sq1, sq2, hv, hw⟩, fun x H3 ⟨T, v', w', ex, hT, eh, f1, f2⟩ => ?_⟩
  have e1 := (f1 vs sq1).symm.trans hv
  have e2 := (f2 ws sq2).symm.trans hw
  cases e1; cases e2
  subst ex; subst eh
  exact zip_new r2 hT dv dw
theorem zipT_it {a b : Addr} {ds es : List Dt} {g1 g2 : Gd} (s1 : StT K ι H a ds g1) (s2 : StT K ι H b es g2) : ItOk K ι H (zipF ds es) (g1 ++ g2) (RZ.ItzT K a b) := fun ι2 H2 h2 e2 r2 gg => by
  obtain ⟨q1, q2⟩ := okG_app gg
  obtain ⟨vs, sq1, d1⟩ := s1 ι2 H2 h2 e2 r2 q1
  obtain ⟨ws, sq2, d2⟩ := s2 ι2 H2 h2 e2 r2 q2
  refine ⟨fun i d hd => ?_, ⟨vs, ws, sq1, sq2, by rw [← d1.length, ← d2.length]; exact zipF_len⟩⟩
  obtain ⟨y, z, hy, hz, rfl⟩ := zipF_get hd
  obtain ⟨v, hv, dv⟩ := d1.get hy
  obtain ⟨w, hw, dw⟩ := d2.get hz
  refine ⟨⟨vs, ws, v, w, sq1, sq2, hv, hw⟩, fun x H3 ⟨T, v', w', ex, hT, eh, f1, f2⟩ => ?_⟩
  have e1 := (f1 vs sq1).symm.trans hv
  have e2 := (f2 ws sq2).symm.trans hw
  cases e1; cases e2
  subst ex; subst eh
  exact zip_new r2 hT dv dw
def mZip1 (ds : List Dt) (h : CH) : Option (List Dt × Gd) := match ds with
  | [.tup xs, .tup ys] => some (zipF xs ys, [])
  | [d, e] => match lstG d h, lstG e h with
    | some x, some y => some (zipF x.1 y.1, x.2 ++ y.2)
    | _, _ => none
  | _ => none
def mZip (as : MA) : MI := fun ρ h => (as ρ h).bind fun ds h1 => .opt (mZip1 ds h1) h1
theorem mZip1_ne {ds : List Dt} {h : CH} {y : List Dt × Gd} (q : mZip1 ds h = some y) : (∃ xs ys, ds = [.tup xs, .tup ys] ∧ y = (zipF xs ys, [])) ∨ ∃ d e a b, ds = [d, e] ∧ lstG d h = some a ∧ lstG e h = some b ∧ y = (zipF a.1 b.1, a.2 ++ b.2) := by
  unfold mZip1 at q
  split at q
  · cases q; exact .inl ⟨_, _, rfl, rfl⟩
  · split at q
    · rename_i e1 e2
      cases q; exact .inr ⟨_, _, _, _, rfl, e1, e2, rfl⟩
    · cases q
  · cases q
theorem s_zip {elts : List Expr} {kk : Nat} (hg : Gl X "zip") (hm : X.mg "zip" = none) (ha : SimA X as [a, b]) (hs : starEach [a, b] X.env = (false, eval a X.env) :: starEach [b] X.env := by rfl) (hpl : (backTo pos (starEach [b] X.env)).any (·.1) = false := by rfl) : SimI X (mZip as) (.Tuple elts kk tpos) (.Call (.Name "zip" p) [a, b] [] pos) := fun W tk =>
  (RZ.pi_zipA hg hm (ha W tk) hs hpl).imp fun σ H R ⟨ι, ρ, h, rs, rh, ok⟩ => by
    refine ⟨ι, ρ, h, rs, rh, (OkG.bind (R := Dens X.K) ok).mono fun xs H1 ⟨ι1, ds, h1, e1, r1, dx, ok1⟩ => ?_⟩
    cases q : mZip1 ds h1 with
    | none => rw [q] at ok1; exact ok1.elim
    | some y =>
      rw [q] at ok1
      rcases mZip1_ne q with ⟨us, ws, rfl, rfl⟩ | ⟨d, e, u, w, rfl, q1, q2, rfl⟩
      · obtain ⟨v1, v2, rfl, d1, d2⟩ := dens2 dx
        obtain ⟨a1, rfl, g1, s1 | s1⟩ := seq_at (gs := []) r1 d1 rfl
        · obtain ⟨p1, vs, e3, sq, dd⟩ := d1
          have e3 : a1 = p1 := by cases e3; rfl
          subst e3
          obtain ⟨p2, ws2, e4, sq2, dd2⟩ := d2
          subst e4
          exact ⟨a1, p2, vs, ws2, rfl, .inr ⟨sq, sq2, ok1.it r1 (zipT_it (g1 := []) (g2 := []) (fun ι2 H2 h2 e2 r2 _ => ⟨vs, e2.sqT sq, dd.mono e2⟩) fun ι2 H2 h2 e2 r2 _ => ⟨ws2, e2.sqT sq2, dd2.mono e2⟩)⟩⟩
        · obtain ⟨p1, vs, e3, sq, dd⟩ := d1
          have e3 : a1 = p1 := by cases e3; rfl
          subst e3
          obtain ⟨p2, ws2, e4, sq2, dd2⟩ := d2
          subst e4
          exact ⟨a1, p2, vs, ws2, rfl, .inr ⟨sq, sq2, ok1.it r1 (zipT_it (g1 := []) (g2 := []) (fun ι2 H2 h2 e2 r2 _ => ⟨vs, e2.sqT sq, dd.mono e2⟩) fun ι2 H2 h2 e2 r2 _ => ⟨ws2, e2.sqT sq2, dd2.mono e2⟩)⟩⟩
      · obtain ⟨v1, v2, rfl, d1, d2⟩ := dens2 dx
        obtain ⟨us, g1⟩ := u
        obtain ⟨ws, g2⟩ := w
        obtain ⟨b1, rfl, k1, s1⟩ := lstG_at r1 d1 q1
        obtain ⟨b2, rfl, k2, s2⟩ := lstG_at r1 d2 q2
        obtain ⟨vs1, sq1⟩ := s1.here r1 k1
        obtain ⟨vs2, sq2⟩ := s2.here r1 k2
        exact ⟨b1, b2, vs1, vs2, rfl, .inl ⟨sq1, sq2, ok1.it r1 (zipL_it s1 s2)⟩⟩

/-! ## dict(pairs), len(set(tuples)) -/
def prO : List Dt → Option (List (Dt × Dt))
  | [] => some []
  | .tup [k, v] :: r => if (dkey k).isSome = true then (prO r).map fun l => (k, v) :: l else none
  | _ => none
def mergeD (acc : List (Dt × Dt)) (l : List (Dt × Dt)) : List (Dt × Dt) := l.foldl (fun a p => putD2 a p.1 p.2) acc
theorem prO_ok : ∀ {ds : List Dt} {prs : List (Dt × Dt)} {vs : List V}, prO ds = some prs → Dens K ι H ds vs → ∃ ps kvs, vs = ps.map V.ref ∧ Paired (fun p (kv : Key × V) => SqT K H p [kV kv.1, kv.2]) ps kvs ∧ KVs K ι H prs kvs
  | [], _, _, e, d => by
    have e : some [] = some _ := e
    cases e
    obtain rfl := d.unnil
    exact ⟨[], [], rfl, .nil, rfl⟩
  | x :: ds, _, _, e, d => by
    obtain ⟨v, r, rfl, dv, dr⟩ := d.uncons
    unfold prO at e
    split at e
    · rename_i heq; cases heq
    · rename_i k w r' heq
      cases heq
      split at e
      · rename_i hk
        obtain ⟨l, e1, rfl⟩ := Option.map_eq_some_iff.mp e
        obtain ⟨kk, hkk⟩ := Option.isSome_iff_exists.mp hk
        obtain ⟨ps, kvs, rfl, pp, kk2⟩ := prO_ok e1 dr
        obtain ⟨b, us, rfl, sq, dd⟩ := dv
        obtain ⟨u1, u2, rfl, f1, f2⟩ := dens2 dd
        have ek := dkey_V f1 hkk
        subst ek
        exact ⟨b :: ps, (kk, u2) :: kvs, rfl, .cons sq pp, kk, u2, kvs, rfl, hkk, f2, kk2⟩
      · cases e
    · cases e
theorem merge_ok : ∀ {prs : List (Dt × Dt)} {kvs : List (Key × V)} {acc : List (Dt × Dt)} {l : List (Key × V)}, KVs K ι H prs kvs → KVs K ι H acc l → KVs K ι H (mergeD acc prs) (mergeK l kvs)
  | [], _, _, _, r, q => by
    have r : _ = [] := r
    subst r; exact q
  | p :: prs, _, acc, l, r, q => by
    obtain ⟨k1, w, r1, rfl, e1, d1, r2⟩ := r.uncons
    exact merge_ok (acc := putD2 acc p.1 p.2) (l := putK l k1 w) r2 (q.put d1 e1)
def pDict : List Dt → CH → Pr
  | [d], h => match asL d h with
    | some ds => (prO ds).map fun l => (.ref h.length, h ++ [.dic false false (mergeD [] l)])
    | none => none
  | _, _ => none
theorem c_dict (hc : X.calm = true) : CallR X (.type "dict") (rDs X.K pDict) := (call_dictP hc).imp fun xs H Q ⟨ι, h, ds, rh, dx, ok⟩ => by
  match ds, dx, ok with
  | [d], dx, ok =>
    obtain ⟨v, rfl, dv⟩ := dens1 dx
    dsimp only [pDict] at ok
    cases e : asL d h with
    | none => rw [e] at ok; exact ok.elim
    | some es =>
      rw [e] at ok
      obtain ⟨a, vs, rfl, s, dd⟩ := asL_ok rh dv e
      dsimp only at ok
      cases e2 : prO es with
      | none => rw [e2] at ok; exact ok.elim
      | some prs =>
        rw [e2] at ok
        obtain ⟨ps, kvs, rfl, pp, kk⟩ := prO_ok e2 dd
        refine ⟨a, ps, kvs, rfl, s, pp, fun p hp => ?_⟩
        have ee : Ext ι H (ι ++ [p]) (upd H p (.dK (mergeK [] kvs))) := .alloc hp
        exact ok (ι ++ [p]) _ _ ee (rh.alloc hp ⟨_, ⟨_, rfl, (merge_ok kk (show KVs X.K ι H [] [] from rfl)).mono ee⟩, ⟨(fun z => by cases z), fun _ => rfl⟩⟩) ⟨p, rfl, by rw [← rh.len]; simp⟩
  | [], _, ok => exact (show False from ok).elim
  | _ :: _ :: _, _, ok => exact (show False from ok).elim
end
end Cl
namespace Cl
open PySem PySem.Spec PyProof.Rows L2
section
variable {X : Cx} {K : PySem.W.Frag} {W : WX} {ι : List Addr} {H : Hp} {h : CH} {a b c e : Expr} {m ma mb : ME} {as : MA} {pos p p2 q : Pos}
def sPar3 (i j l : Nat) (m : MA) : MS := fun ρ h => (m ρ h).stm ρ fun ds h1 => match ds with
  | [d, e, f] => .next (((ρ.set i (some d)).set j (some e)).set l (some f)) h1
  | _ => .bad
theorem s_par3 {i j l : Nat} {x y z : Str} {px py pz pt pt2 : Pos} {kt k2 : Nat} (hc : X.calm = true) (hN : X.N.Nodup) (hi : X.N[i]? = some x) (hj : X.N[j]? = some y) (hl : X.N[l]? = some z) (hij : i ≠ j) (hil : i ≠ l) (hjl : j ≠ l)
    (hx : X.env.scope.names.lookup x = some .local) (hy : X.env.scope.names.lookup y = some .local) (hz : X.env.scope.names.lookup z = some .local) (ha : SimA X as [a, b, c])
    (hw : swappedStores [.Tuple [.Name x px, .Name y py, .Name z pz] kt pt] (.Tuple [a, b, c] k2 pt2) X.env = pure (some [x, y, z]))
    (hs : swapsWithSole [.Tuple [.Name x px, .Name y py, .Name z pz] kt pt] (.Tuple [a, b, c] k2 pt2) pos.line X.env = pure false := by rfl) :
    SimS X (sPar3 i j l as) (.Assign [.Tuple [.Name x px, .Name y py, .Name z pz] kt pt] (.Tuple [a, b, c] k2 pt2) pos) := fun W tk => (ps_par3 hc hN hi hj hl hij hil hjl hx hy hz (ha W tk) hw hs).imp fun D σ H ⟨ι, ρ, h, rs, rh, k⟩ => by
  refine ⟨ι, ρ, h, rs, rh, (OkS.stm (R := Dens X.K) rs k).mono fun xs H1 ⟨ι1, ds, h1, e1, r1, dx, k1⟩ => ?_⟩
  match ds, dx, k1 with
  | [d, e, f], dx, k1 =>
    obtain ⟨v, r, rfl, dv, dr⟩ := dx.uncons
    obtain ⟨w, u, rfl, dw, du⟩ := dens2 dr
    exact ⟨v, w, u, rfl, k1 ι1 H1 _ .refl r1 ((((rs.mono e1).set dv).set dw).set du)⟩
  | [], _, k1 => exact (show False from k1).elim
  | [_], _, k1 => exact (show False from k1).elim
  | [_, _], _, k1 => exact (show False from k1).elim
  | _ :: _ :: _ :: _ :: _, _, k1 => exact (show False from k1).elim
/-- a built-in type by its name -/
theorem s_ty {x : Str} {T : String} (hg : Gl X x) (hm : X.mg x = none) (hv : bootBuiltins x = some (.type T)) (hn : x ≠ "__name__" := by decide) (hdb : (x == ("__debug__" : Str)) = false := by decide) : SimE X (eC (.ty T)) (.Name x p) := fun W tk =>
  ⟨fun pins s σ H Q I ⟨ι, ρ, h, rs, rh, ok⟩ => ld_blt I hg hm hv ⟨.ty T, H, I, rfl, ok ι H (.ty T) .refl rh rfl⟩ hn hdb⟩
/-- a module's constant -/
theorem s_globI {x : Str} {i : Int} {t : Tok} (hg : Gl X x) (hm : X.mg x = some (.int i t)) (hd : (x == ("__debug__" : Str)) = false := by decide) : SimE X (eC (.int i)) (.Name x p) := s_const (pe_glob hg hm (show RelV (.int i) (.int i t) from ⟨t, rfl⟩) hd) fun _ _ => rfl
theorem s_globS {x z : Str} {t : Tok} (hg : Gl X x) (hm : X.mg x = some (.str z t)) (hd : (x == ("__debug__" : Str)) = false := by decide) : SimE X (eC (.str z)) (.Name x p) := s_const (pe_glob hg hm (show RelV (.str z) (.str z t) from ⟨t, rfl⟩) hd) fun _ _ => rfl
/-- an own class, an own def by its name -/
theorem s_globR {x y : Str} (hg : Gl X x) (hm : X.mg x = some (.ref (He.ga X.K y))) (hd : (x == ("__debug__" : Str)) = false := by decide) : SimE X (eC (.glo y)) (.Name x p) := s_const (pe_glob hg hm (show RelV (.ref (He.ga X.K y)) (.ref (He.ga X.K y)) from rfl) hd) fun _ _ => rfl

/-! ## len(set(a list of tuples of ints)) -/
def intsO : List Dt → Option (List Int)
  | [] => some []
  | .int i :: r => (intsO r).map fun l => i :: l
  | _ => none
def tupsO : List Dt → Option (List (List Int))
  | [] => some []
  | .tup ds :: r => match intsO ds, tupsO r with
    | some k, some l => some (k :: l)
    | _, _ => none
  | _ => none
theorem intsO_ok : ∀ {ds : List Dt} {k : List Int} {vs : List V}, intsO ds = some k → Dens K ι H ds vs → vs = k.map V.int
  | [], _, _, e, d => by
    have e : some [] = some _ := e
    cases e
    exact d.unnil
  | x :: ds, _, _, e, d => by
    obtain ⟨v, r, rfl, dv, dr⟩ := d.uncons
    cases x with
    | int b =>
      obtain ⟨l, e1, rfl⟩ := Option.map_eq_some_iff.mp (show (intsO ds).map (fun l => b :: l) = some _ from e)
      have dv : v = .int b := dv
      rw [dv, intsO_ok e1 dr]; rfl
    | _ => cases e
theorem tupsO_ok : ∀ {ds : List Dt} {ks : List (List Int)} {vs : List V}, tupsO ds = some ks → Dens K ι H ds vs → ∃ ps : List (Addr × List Int), vs = ps.map (fun p => V.ref p.1) ∧ ks = ps.map (·.2) ∧ ∀ p ∈ ps, SqT K H p.1 (p.2.map V.int)
  | [], _, _, e, d => by
    have e : some [] = some _ := e
    cases e
    exact ⟨[], d.unnil, rfl, fun p hp => by cases hp⟩
  | x :: ds, _, _, e, d => by
    obtain ⟨v, r, rfl, dv, dr⟩ := d.uncons
    cases x with
    | tup es =>
      have e : (match intsO es, tupsO ds with
        | some k, some l => some (k :: l)
        | _, _ => none) = some _ := e
      split at e
      · rename_i k l e1 e2
        cases e
        obtain ⟨a, us, rfl, sq, dd⟩ := dv
        obtain ⟨ps, rfl, rfl, hp⟩ := tupsO_ok e2 dr
        have ek := intsO_ok e1 dd
        subst ek
        refine ⟨(a, k) :: ps, rfl, rfl, fun p hpm => ?_⟩
        rcases List.mem_cons.mp hpm with z | z
        · rw [z]; exact sq
        · exact hp p z
      · cases e
    | _ => cases e
def dedup : List (List Int) → List (List Int)
  | [] => []
  | a :: l => if a ∈ l then dedup l else a :: dedup l
theorem mem_dedup {x : List Int} : ∀ {l : List (List Int)}, x ∈ dedup l ↔ x ∈ l
  | [] => Iff.rfl
  | a :: l => by
    unfold dedup
    split
    · rename_i h
      rw [mem_dedup (l := l), List.mem_cons]
      exact ⟨.inr, fun z => z.elim (fun e => e ▸ h) id⟩
    · rw [List.mem_cons, List.mem_cons, mem_dedup (l := l)]
theorem nodup_dedup : ∀ {l : List (List Int)}, (dedup l).Nodup
  | [] => List.nodup_nil
  | a :: l => by
    unfold dedup
    split
    · exact nodup_dedup
    · rename_i h
      exact List.nodup_cons.mpr ⟨fun z => h (mem_dedup.mp z), nodup_dedup⟩
theorem dedup_len {l m : List (List Int)} (hn : l.Nodup) (h1 : ∀ x ∈ l, x ∈ m) (h2 : ∀ x ∈ m, x ∈ l) : l.length = (dedup m).length :=
  List.Perm.length_eq ((List.perm_ext_iff_of_nodup hn nodup_dedup).mpr fun x => by rw [mem_dedup]; exact ⟨h1 x, h2 x⟩)
def eLenSet (m : ME) : ME := fun ρ h => (m ρ h).bind fun d h1 => match asL d h1 with
  | some ds => match tupsO ds with
    | some ks => if ks.length < 64 then .ok (.int ((dedup ks).length : Nat)) h1 else .bad
    | none => .bad
  | none => .bad
theorem call_lenT (hu : X.A.units + 65 < cLine) : CallR X (.builtin "len") (fun xs H Q => ∃ a L, xs = [V.ref a] ∧ H a = some (SetTO X.prog X.w a L) ∧ (∀ p ∈ L, SqT X.K H p.1 (p.2.map V.int)) ∧ ((L.map (·.2)).Nodup → Q (.int L.length) H)) := by
  intro pins s σ H xs us Q I r hh
  obtain ⟨a, L, rfl, ha, hk, q⟩ := hh
  rw [Vals.ref1 r]
  have R0 : SetT0 X.prog X.w s.heap a L := (I.hok a _ ha).1
  obtain ⟨es, ep, t, R⟩ := R0.full fun p hp => I.isT (hk p hp)
  obtain ⟨o, ho, hex, hd⟩ := R.ob
  have hs := R.size
  have hf := R.few
  refine call_len_set ho hex hd R.fits (by omega) ⟨.int L.length, H, I.tok _, ⟨_, by rw [hs]⟩, q R.nd⟩
theorem s_lenset (hc : X.calm = true) (hu : X.A.units + 65 < cLine) (hg : Gl X "len") (hm : X.mg "len" = none) (hg2 : Gl X "set") (hm2 : X.mg "set" = none) (ha : SimE X m a)
    (na : starEach [a] X.env = (false, eval a X.env) :: starEach [] X.env := by rfl) (na2 : starEach [.Call (.Name "set" p2) [a] [] q] X.env = (false, eval (.Call (.Name "set" p2) [a] [] q) X.env) :: starEach [] X.env := by rfl) :
    SimE X (eLenSet m) (.Call (.Name "len" p) [.Call (.Name "set" p2) [a] [] q] [] pos) := fun W tk =>
  (pe_callB (call_lenT hu) hg hm PySem.boot_len (pa_cons (pe_callTy (cr_setOfT hc (by omega)) hg2 hm2 PyProof.Rows.boot_set (pa_cons (ha W tk) pa_nil na) (he := na)) pa_nil na2) (he := na2)).imp fun σ H Q ⟨ι, ρ, h, rs, rh, ok⟩ => by
    refine ⟨ι, ρ, h, rs, rh, (OkG.bind (R := Den X.K) ok).mono fun x H1 ⟨ι1, d, h1, e1, r1, dx, ok1⟩ => ?_⟩
    cases e : asL d h1 with
    | none => rw [e] at ok1; exact ok1.elim
    | some ds =>
      rw [e] at ok1
      dsimp only at ok1
      cases e2 : tupsO ds with
      | none => rw [e2] at ok1; exact ok1.elim
      | some ks =>
        rw [e2] at ok1
        dsimp only at ok1
        split at ok1
        · rename_i hl
          obtain ⟨b, vs, rfl, sq, dd⟩ := asL_ok r1 dx e
          obtain ⟨ps, rfl, rfl, hp⟩ := tupsO_ok e2 dd
          refine ⟨b, ps, rfl, sq, hp, by rw [List.length_map] at hl; exact hl, fun a' L ha' hL1 hL2 => ?_⟩
          refine ⟨a', L, rfl, upd_same, fun p hpm => (Ext.new (ι := ι1) ha').sqT (hp p (hL1 p hpm)), fun nd => ?_⟩
          have el : L.length = (dedup (ps.map (·.2))).length := by
            rw [← List.length_map (f := (·.2)) (as := L)]
            refine dedup_len nd (fun x hx => ?_) fun x hx => ?_
            · obtain ⟨p, hpm, rfl⟩ := List.mem_map.mp hx
              exact List.mem_map.mpr ⟨p, hL1 p hpm, rfl⟩
            · obtain ⟨p, hpm, rfl⟩ := List.mem_map.mp hx
              exact hL2 p hpm
          rw [el]
          exact ok1 ι1 _ _ (.new ha') (r1.new ha') rfl
        · exact ok1.elim
end
end Cl
namespace Cl
open PySem PySem.Spec PyProof.Rows L2
/-! ## what the top has written, as the walk takes it -/
theorem room_u {k : Nat} {A : Around} (r : Room k A) : A.units + 65 < cLine := by have := r.un; omega
def xfB (K : PySem.W.Frag) (c f : Str) : Bool := He.eqO (PySem.W.findIn K (.ref (He.ga K c)) "__getattribute__") (some (some (.builtin "BaseException.__getattribute__"))) && (He.eqO (PySem.W.findIn K (.ref (He.ga K c)) "__getattr__") (some none) &&
  (decide (PySem.W.subIn K (.ref (He.ga K c)) (.type "BaseException") = some true) && (PySem.W.hasDictIn K (He.ga K c) && He.eqO (PySem.W.findIn K (.ref (He.ga K c)) f) (some none))))
theorem xfB_ok {K : PySem.W.Frag} {c f : Str} (h : xfB K c f = true) : XF K c f := by
  obtain ⟨h1, h⟩ := He.ba h
  obtain ⟨h2, h⟩ := He.ba h
  obtain ⟨h3, h⟩ := He.ba h
  obtain ⟨h4, h5⟩ := He.ba h
  exact ⟨He.eqO_ok h1, He.eqO_ok h2, of_decide_eq_true h3, h4, He.eqO_ok h5⟩
def xTabB (K : PySem.W.Frag) : Bool := (xTab.map (·.1)).all fun c => ((xTab.map (·.1)).all fun c' => decide (PySem.W.exmOne K (.ref (He.ga K c)) (.ref (He.ga K c')) = some (isSub c c'))) && xFn.all fun f => xfB K c f
theorem xTabB_ok {K : PySem.W.Frag} (h : xTabB K = true) : XTab K := by
  unfold xTabB at h
  rw [List.all_eq_true] at h
  refine ⟨fun c hc c' hc' => ?_, fun c hc f hf => ?_⟩
  · obtain ⟨h1, _⟩ := He.ba (h c hc)
    exact of_decide_eq_true (List.all_eq_true.mp h1 c' hc')
  · obtain ⟨_, h2⟩ := He.ba (h c hc)
    exact xfB_ok (List.all_eq_true.mp h2 f hf)
/-- an exception class over ValueError whose __init__ is a def -/
def oexCls (K : PySem.W.Frag) (C : Addr) : Bool := match K.lookup C with
  | some ⟨.type "type", _, .cls cd, sl⟩ => (match cd.mro, sl.toList with
    | .ref C' :: bm, [_, _, _, _, some (.builtin n), _] => C' == C && (n == "ValueError.__new__" && (!cd.hasDel && (cd.hasDict && PySem.HandSPX.refsVE bm)))
    | _, _ => false)
  | _ => false
def oexB (K : PySem.W.Frag) (x : Str) (fs : List Str) : Bool := oexCls K (He.ga K x) && (He.eqO (PySem.W.findIn K (.ref (He.ga K x)) "__setattr__") (some (some (.builtin "object.__setattr__"))) && (He.eqO (PySem.W.findIn K (.ref (He.ga K x)) "__init__") (some (some (.ref (He.ma K (He.ga K x) "__init__")))) &&
  (decide (PySem.W.typeIn K (.ref (He.ma K (He.ga K x) "__init__")) = some (.type "function")) && (decide (PySem.W.subIn K (.ref (He.ga K x)) (.type "BaseException") = some true) && (decide (PySem.W.typeIn K (.ref (He.ga K x)) = some (.type "type")) &&
  (PySem.W.keepIn K (.ref (He.ga K x)) && (("called" : Str) :: fs).all fun f => He.eqO (PySem.W.findIn K (.ref (He.ga K x)) f) (some none)))))))
theorem oexCls_ok {K : PySem.W.Frag} {C : Addr} (q : oexCls K C = true) : ∃ nm q N bs bm sn sub ab col dd k0 k1 k2 k3 k5, K.lookup C = some (excClassObj nm q C N bs bm true sn sub ab col dd k0 k1 k2 k3 k5 "ValueError.__new__") ∧ PySem.HandSPX.refsVE bm = true := by
  unfold oexCls at q
  split at q
  · rename_i dd cd sl ho
    split at q
    · rename_i C' bm k0 k1 k2 k3 n k5 hm hs
      simp only [Bool.and_eq_true, beq_iff_eq, Bool.not_eq_true'] at q
      obtain ⟨rfl, rfl, hdel, hdd, ht⟩ := q
      obtain ⟨nm, bs, mro, ns, qn, hd, sn, sub, ab, col, del⟩ := cd
      dsimp only at hm hdel hdd
      subst hm hdel hdd
      have hsl : sl = #[k0, k1, k2, k3, some (.builtin "ValueError.__new__"), k5] := by
        obtain ⟨l⟩ := sl
        simp only at hs
        rw [hs]
      subst hsl
      exact ⟨nm, qn, ns, bs, bm, sn, sub, ab, col, dd, k0, k1, k2, k3, k5, ho, ht⟩
    · cases q
  · cases q
structure OexF (K : PySem.W.Frag) (x : Str) (fs : List Str) : Prop where
  oex : OexC K (He.ga K x)
  ini : PySem.W.findIn K (.ref (He.ga K x)) "__init__" = some (some (.ref (He.ma K (He.ga K x) "__init__")))
  ty : PySem.W.typeIn K (.ref (He.ma K (He.ga K x) "__init__")) = some (.type "function")
  fl : ∀ f ∈ ("called" : Str) :: fs, PySem.W.findIn K (.ref (He.ga K x)) f = some none
theorem oexB_ok {K : PySem.W.Frag} {x : Str} {fs : List Str} (h : oexB K x fs = true) : OexF K x fs := by
  obtain ⟨h1, h⟩ := He.ba h
  obtain ⟨h2, h⟩ := He.ba h
  obtain ⟨h3, h⟩ := He.ba h
  obtain ⟨h4, h⟩ := He.ba h
  obtain ⟨h5, h⟩ := He.ba h
  obtain ⟨h6, h⟩ := He.ba h
  obtain ⟨h7, h8⟩ := He.ba h
  exact ⟨⟨oexCls_ok h1, He.eqO_ok h2, of_decide_eq_true h5, of_decide_eq_true h6, h7⟩, He.eqO_ok h3, of_decide_eq_true h4, fun f hf => He.eqO_ok (List.all_eq_true.mp h8 f hf)⟩
/-- the exceptions that are raised, with their fields -/
def oexAll (K : PySem.W.Frag) (l : List (Str × List Str)) : Bool := l.all fun p => oexB K p.1 p.2
structure Fx (fa : List He.Fa) (fn : List He.DefD) (g : Gw) : Prop where
  ns : ∃ h, g.K.In h ∧ h.Ns mainGlobals g.mg
  c : He.SaysD fa fn g.K
  xt : XTab g.K
  ox : oexAll g.K oexL = true
  tb : ∀ p ∈ lamTl, LamX.TabB g.base g.mg (He.cT g.K p.1).1 (He.cT g.K p.1).2
section
variable {fa : List He.Fa} {fn : List He.DefD} {g : Gw}
theorem Fx.glo (T : Fx fa fn g) (i : Nat) {x : Str} (h : fa[i]? = some (.glo x) := by rfl) : g.mg x = some (.ref (He.ga g.K x)) := by
  obtain ⟨hp, X, G⟩ := T.ns
  exact He.glo_ok X G (T.c.fact i h)
theorem Fx.free (T : Fx fa fn g) (i : Nat) {x : Str} (h : fa[i]? = some (.free x) := by rfl) : g.mg x = none := by
  obtain ⟨hp, X, G⟩ := T.ns
  exact He.free_ok X G (T.c.fact i h)
theorem Fx.int (T : Fx fa fn g) (i : Nat) {x : Str} {z : Int} (h : fa[i]? = some (.int x z) := by rfl) : ∃ t, g.mg x = some (.int z t) := by
  obtain ⟨hp, X, G⟩ := T.ns
  exact He.int_ok X G (T.c.fact i h)
theorem Fx.str (T : Fx fa fn g) (i : Nat) {x z : Str} (h : fa[i]? = some (.str x z) := by rfl) : ∃ t, g.mg x = some (.str z t) := by
  obtain ⟨hp, X, G⟩ := T.ns
  exact He.str_ok X G (T.c.fact i h)
theorem Fx.cls (T : Fx fa fn g) (i : Nat) {x : Str} (h : fa[i]? = some (.cls x) := by rfl) : Cls g.K (He.ga g.K x) := He.cls_ok (T.c.fact i h)
theorem Fx.noat (T : Fx fa fn g) (i : Nat) {x f : Str} (h : fa[i]? = some (.noat x f) := by rfl) : NoAttr g.K (He.ga g.K x) f := He.noat_ok (T.c.fact i h)
theorem Fx.meth (T : Fx fa fn g) (i : Nat) {x m : Str} (h : fa[i]? = some (.meth x m) := by rfl) : Meth g.K (He.ga g.K x) m (He.ma g.K (He.ga g.K x) m) := He.meth_ok (T.c.fact i h)
theorem Fx.mkr (T : Fx fa fn g) (i : Nat) {x : Str} (h : fa[i]? = some (.mkr x) := by rfl) : Mk g.K (He.ga g.K x) (He.ma g.K (He.ga g.K x) "__init__") := He.mkr_ok (T.c.fact i h)
theorem Fx.keep (T : Fx fa fn g) (i : Nat) {x : Str} (h : fa[i]? = some (.keep x) := by rfl) : PySem.W.keepIn g.K (.ref (He.ga g.K x)) = true := He.keep_ok (T.c.fact i h)
theorem s_globI' {X : Cx} {x : Str} {i : Int} {p : Pos} (hg : Gl X x) (hm : ∃ t, X.mg x = some (.int i t)) (hd : (x == ("__debug__" : Str)) = false := by decide) : SimE X (eC (.int i)) (.Name x p) := by
  obtain ⟨t, hm⟩ := hm
  exact s_globI hg hm hd
theorem s_globS' {X : Cx} {x z : Str} {p : Pos} (hg : Gl X x) (hm : ∃ t, X.mg x = some (.str z t)) (hd : (x == ("__debug__" : Str)) = false := by decide) : SimE X (eC (.str z)) (.Name x p) := by
  obtain ⟨t, hm⟩ := hm
  exact s_globS hg hm hd
end
/-- keywords for keyword-only parameters without defaults, all of them -/
theorem kbn_all {K : PySem.W.Frag} {x qual : Str} {params : Arguments} {body : List Stmt} {scope : Scope} {f : Addr} {fd : FuncData} {ps ks : List Str} {n : Nat} (F : FunD K x qual params body scope [] [] f fd)
    (h : ∀ (kV doc pm : Value) (an : Option Addr) (cdv ct : Value) (us ws : List Value), us.length = n → ws.length = ks.length → bindArgs (PySem.W.fnOf x qual params body scope .none kV doc pm an cdv ct) ⟨us, ks.zip ws⟩ = pure (ps.zip (us ++ ws))) :
    KBn K fd ps n ks (fun us ws => us ++ ws) (fun vs zs => vs ++ zs) := by
  obtain ⟨oc, od, dV, kV, doc, pm, an, cdv, ct, osl, rfl, lk, hcd, hD, hK⟩ := F.ex
  rcases hD with ⟨_, rfl⟩ | ⟨e, _⟩
  · exact ⟨fun s us ws X l1 l2 => .of_eq (h kV doc pm an cdv ct us ws l1 l2), fun r1 r2 => r1.append r2⟩
  · exact absurd rfl e
end Cl
namespace Cl
open PySem PySem.Spec PyProof.Rows L2
section
variable {X : Cx} {K : PySem.W.Frag} {W : WX} {ι : List Addr} {H : Hp} {h : CH} {a b c e : Expr} {es : List Expr} {kws : List Keyword} {m ma mb : ME} {as : MA} {pos p p2 q : Pos}
/-! ## argument lists of a known length -/
def ofLen (n : Nat) (m : MA) : MA := fun ρ h => (m ρ h).bind fun ds h1 => if ds.length = n then .ok ds h1 else .bad
theorem ofLen_ok (n : Nat) (m : MA) : ∀ ρ h ds h1, ofLen n m ρ h = .ok ds h1 → ds.length = n := fun ρ h ds h1 e => by
  unfold ofLen at e
  cases q : m ρ h with
  | ok es h2 =>
    rw [q] at e
    have e : (if es.length = n then Out.ok es h2 else .bad) = .ok ds h1 := e
    split at e
    · cases e; assumption
    · cases e
  | exc c fs h2 => rw [q] at e; cases e
  | bad => rw [q] at e; cases e
theorem ofLen_imp {n : Nat} {σ : L2.St} {H : Hp} {Q : List V → Hp → Prop} (q : tAs K W (ofLen n as) σ H Q) : tAs K W as σ H Q := by
  obtain ⟨ι, ρ, h, rs, rh, ok⟩ := q
  refine ⟨ι, ρ, h, rs, rh, (OkG.bind (R := Dens K) ok).mono fun xs H1 ⟨ι1, ds, h1, e1, r1, dx, ok1⟩ => ?_⟩
  split at ok1
  · exact ok1 ι1 H1 xs .refl r1 dx
  · exact ok1.elim
theorem s_ofLen {n : Nat} (ha : SimA X as es) : SimA X (ofLen n as) es := fun W tk => (ha W tk).imp fun _ _ _ q => ofLen_imp q
theorem s_ofLenK {n : Nat} (ha : SimK X as kws) : SimK X (ofLen n as) kws := fun W tk => (ha W tk).imp fun _ _ _ q => ofLen_imp q

theorem OkG.bindE {ι ι1 : List Addr} {H H1 : Hp} {σ : L2.St} {α β γ δ : Type} {R : Rl α β} {S : Rl γ δ} {o : Out α} {f : α → CH → Out γ} {Q : δ → Hp → Prop} (e0 : Ext ι H ι1 H1) (k : OkG K W σ ι H S (o.bind f) Q) :
    OkG K W σ ι1 H1 R o fun b H2 => ∃ ι2 a h2, Ext ι1 H1 ι2 H2 ∧ RepH K ι2 H2 h2 ∧ R ι2 H2 a b ∧ OkG K W σ ι H S (f a h2) Q := by
  cases o with
  | ok a h' => exact fun ι' H' b e' r x => ⟨ι', a, h', e', r, x, k⟩
  | exc c fs h' => exact OkX.ext e0 (show OkX K ι H c fs h' fun u d H' => W u d σ H' from k)
  | bad => exact k
theorem Ext.push {ι ι2 : List Addr} {H H2 : Hp} {p : Addr} (e : Ext ι H ι2 H2) (hp : H p = none) : Ext ι H (ι2 ++ [p]) H2 := by
  obtain ⟨l, q, fr⟩ := e.pre
  refine ⟨⟨l ++ [p], by rw [q, List.append_assoc], fun a m => ?_⟩, e.stb, e.frm, e.dom⟩
  rcases List.mem_append.mp m with m | m
  · exact fr a m
  · rw [List.mem_singleton.mp m]; exact .of hp

/-! ## {k: v, ..} -/
def evalP : List (ME × ME) → Rho → CH → Out (List (Dt × Dt))
  | [], _, h => .ok [] h
  | x :: r, ρ, h => (x.1 ρ h).bind fun k h1 => (x.2 ρ h1).bind fun v h2 => (evalP r ρ h2).bind fun l h3 => .ok ((k, v) :: l) h3
def DenPs (K : PySem.W.Frag) (ι : List Addr) (H : Hp) : List (Dt × Dt) → List (V × V) → Prop
  | [], l => l = []
  | p :: r, l => ∃ x y s, l = (x, y) :: s ∧ Den K ι H p.1 x ∧ Den K ι H p.2 y ∧ DenPs K ι H r s
def trP (K : PySem.W.Frag) (W : WX) (ms : List (ME × ME)) : List (TE × TE) := ms.map fun x => (tE K W x.1, tE K W x.2)
theorem pairs_imp {σ : L2.St} : ∀ {ms : List (ME × ME)} {ι : List Addr} {H : Hp} {ρ : Rho} {h : CH} {Q : List (V × V) → Hp → Prop}, RepS K ι H ρ σ → RepH K ι H h → OkG K W σ ι H (DenPs K) (evalP ms ρ h) Q → tPairs (trP K W ms) σ H Q
  | [], ι, H, ρ, h, Q, rs, rh, ok => ok ι H [] .refl rh rfl
  | (a, b) :: ms, ι, H, ρ, h, Q, rs, rh, ok => by
    refine ⟨ι, ρ, h, rs, rh, (OkG.bind (R := Den K) ok).mono fun x H1 ⟨ι1, d, h1, e1, r1, dx, ok1⟩ => ?_⟩
    refine ⟨ι1, ρ, h1, rs.mono e1, r1, (OkG.bind (R := Den K) ok1).mono fun y H2 ⟨ι2, d2, h2, e2, r2, dy, ok2⟩ => ?_⟩
    refine pairs_imp ((rs.mono e1).mono e2) r2 ((OkG.bind (R := DenPs K) ok2).mono fun ps H3 ⟨ι3, l, h3, e3, r3, dl, ok3⟩ => ?_)
    exact ok3 ι3 H3 _ .refl r3 ⟨x, y, ps, rfl, dx.mono (e2.trans e3), dy.mono e3, dl⟩
def SimPs (X : Cx) (pos : Pos) (ms : List (ME × ME)) (ks : List (Option Expr)) (vs : List Expr) : Prop := ∀ W, Takes X W → PPs X pos ks vs (trP X.K W ms)
theorem d_nil : SimPs X pos [] [] [] := fun W tk => pps_nil
theorem d_cons {ms : List (ME × ME)} {ks : List (Option Expr)} {vs : List Expr} (hk : SimE X ma a) (hv : SimE X mb b) (hr : SimPs X pos ms ks vs) : SimPs X pos ((ma, mb) :: ms) (some a :: ks) (b :: vs) := fun W tk => pps_cons (hk W tk) (hv W tk) (hr W tk)
def allKey (l : List (Dt × Dt)) : Bool := l.all fun p => (dkey p.1).isSome
def eDic (ms : List (ME × ME)) : ME := fun ρ h => (evalP ms ρ h).bind fun l h1 => if (allKey l && decide (l.length ≤ 15)) = true then .ok (.ref h1.length) (h1 ++ [.dic false false (mergeD [] l)]) else .bad
theorem denPs_kv : ∀ {l : List (Dt × Dt)} {ps : List (V × V)}, allKey l = true → DenPs K ι H l ps → ∃ kvs : List (Key × V), ps = kvs.map (fun kv => (kV kv.1, kv.2)) ∧ kvs.length = l.length ∧ KVs K ι H l kvs
  | [], _, _, d => by
    have d : _ = [] := d
    subst d
    exact ⟨[], rfl, rfl, rfl⟩
  | p :: l, _, hk, d => by
    obtain ⟨x, y, s, rfl, dx, dy, dl⟩ := (show ∃ x y s, _ = (x, y) :: s ∧ Den K ι H p.1 x ∧ Den K ι H p.2 y ∧ DenPs K ι H l s from d)
    obtain ⟨h1, h2⟩ := Bool.and_eq_true_iff.mp (show ((dkey p.1).isSome && allKey l) = true from hk)
    obtain ⟨kk, hkk⟩ := Option.isSome_iff_exists.mp h1
    obtain ⟨kvs, rfl, hl, kv⟩ := denPs_kv h2 dl
    have ex := dkey_V dx hkk
    subst ex
    exact ⟨(kk, y) :: kvs, rfl, by rw [List.length_cons, List.length_cons, hl], kk, y, kvs, rfl, hkk, dy, kv⟩
theorem s_dic {ms : List (ME × ME)} {ks : List (Option Expr)} {vs : List Expr} (hp : SimPs X pos ms ks vs) (hall : ks.all (·.isSome) = true := by rfl) (hl : ks.length = vs.length := by rfl) (h0 : ks ≠ [] := by simp) (h15 : ks.length ≤ 15 := by decide) : SimE X (eDic ms) (.Dict ks vs pos) := fun W tk =>
  (pe_disp (hp W tk) hall hl h0 h15).imp fun σ H Q ⟨ι, ρ, h, rs, rh, ok⟩ => fun p hp => by
    have e0 : Ext ι H ι (upd H p (.dK [])) := .new hp
    refine pairs_imp (rs.mono e0) (rh.new hp) ((OkG.bindE (R := DenPs X.K) e0 ok).mono fun ps H2 ⟨ι2, l, h2, e2, r2, dl, ok2⟩ => ?_)
    have np : p ∉ ι := fun z => rh.mem z hp
    obtain ⟨np2, hp2⟩ := e2.notMem (u := .dK []) upd_same np
    split at ok2
    · rename_i hk
      obtain ⟨hk1, hk2⟩ := Bool.and_eq_true_iff.mp hk
      obtain ⟨kvs, rfl, hlen, kv⟩ := denPs_kv hk1 dl
      refine ⟨hp2, kvs, rfl, by rw [hlen]; exact of_decide_eq_true hk2, ?_⟩
      have a0 : Ext0 ι2 H2 (ι2 ++ [p]) (upd H2 p (.dK (mergeK [] kvs))) := ⟨⟨[p], rfl⟩, fun x w e s => by
        have : x ≠ p := fun z => by rw [z, hp2] at e; cases e; exact s
        rw [upd_ne this]; exact e⟩
      have r3 : RepH X.K ι2 (upd H2 p (.dK (mergeK [] kvs))) h2 := r2.apart np2 hp2 nfx_dK
      have r4 : RepH X.K (ι2 ++ [p]) (upd H2 p (.dK (mergeK [] kvs))) (h2 ++ [.dic false false (mergeD [] l)]) := r3.adopt np2 upd_same ⟨_, ⟨_, rfl, (merge_ok kv (show KVs X.K ι2 H2 [] [] from rfl)).mono0 a0⟩, ⟨(fun z => by cases z), fun _ => rfl⟩⟩
      have ee : Ext ι H (ι2 ++ [p]) (upd H2 p (.dK (mergeK [] kvs))) := ((e0.trans e2).apart hp2 (fun z => z) hp).push hp
      exact ok2 (ι2 ++ [p]) _ _ ee r4 ⟨p, rfl, by rw [← r2.len]; simp⟩
    · exact ok2.elim
end
/-- a def whose code object matters -/
theorem def_okC {g : Gw} {x qual : Str} {params : Arguments} {body : List Stmt} {scope : Scope} {dvs : List V} {kws : List (Str × V)} {p : He.Defn} {fd : FuncData} {N ps : List Str} {k n : Nat} {m : MS}
    (F : FunD g.K x qual params body scope dvs kws (He.fAd g.K p) fd) (S : FnScope N ps scope) (hn : N.length = n)
    (hb : ∀ (cd : Value) (A : Around) (outer : List Env) (s : Shared) (H : Hp) (E : XK), cd = .ref (He.cT g.K p).1 → Room k (A.deeper (envOfC qual scope s.heap.objs.size (He.fAd g.K p) cd)) → SimB (cxg g N qual scope (He.fAd g.K p) cd A outer s H E) m body) :
    DefOkG g (k + 1) (He.fAd g.K p) fd ps (fnN ps.length (runB m n)) := by
  obtain ⟨oc, od, dV, kV, doc, pm, an, cdv, ct, osl, rfl, lk, hcd, hD, hK⟩ := F.ex
  obtain ⟨c, hc⟩ := He.codeIn_ref hcd
  have ec : He.codeOf g.K p = c := He.codeOf_eq lk hc
  refine fn_of lk hcd S (spOf_len (fnN_len _ _)) fun A outer s H vs Q E hr ⟨ι, ds, h, rh, dd, ok⟩ => ?_
  refine ⟨_, hb cdv A outer s H E (by rw [hc, ← ec]; rfl) hr (fun cls d _ H => E cls d H) (takes_of rfl rfl rfl rfl), ?_⟩
  subst hn
  refine ⟨ι, _, h, dd.getE N.length, rh, ?_⟩
  unfold fnN at ok
  split at ok
  · unfold runB at ok
    cases q : m (ds.map some ++ List.replicate (N.length - ds.length) none) h with
    | next ρ h' => rw [q] at ok; exact fun ι' H' σ' e r s => ok ι' H' .non e r rfl
    | ret d h' => rw [q] at ok; exact fun ι' H' v e r x => ok ι' H' v e r x
    | exc c fs ρ h' => rw [q] at ok; exact fun ι' H' σ' dx fs' e r s x df => ok ι' H' dx fs' e r x df
    | brk ρ h' => rw [q] at ok; exact ok.elim
    | cont ρ h' => rw [q] at ok; exact ok.elim
    | bad => rw [q] at ok; exact ok.elim
  · exact ok.elim
end Cl
namespace Cl
open PySem PySem.Spec PyProof.Rows L2
/-! ## what a clean meaning ends in: P of the value, E of the exception -/
abbrev ExP := Str → List (Str × Dt) → CH → Prop
abbrev noE : ExP := fun _ _ _ => False
def Out.sat {α : Type} (o : Out α) (P : α → CH → Prop) (E : ExP) : Prop := match o with
  | .ok a h => P a h
  | .exc c fs h => E c fs h
  | .bad => False
def OS.sat (o : OS) (N : Rho → CH → Prop) (Rt : Dt → CH → Prop) (E : ExP) : Prop := match o with
  | .next ρ h => N ρ h
  | .ret d h => Rt d h
  | .exc c fs _ h => E c fs h
  | _ => False
section
variable {α β : Type} {P : α → CH → Prop} {Q : β → CH → Prop} {E : ExP} {o : Out α} {N : Rho → CH → Prop} {Rt : Dt → CH → Prop} {ρ : Rho} {h : CH} {ma mb mc m : ME} {as : MA} {t u : MT} {a b : MS}
theorem Out.sat.mono {P' : α → CH → Prop} {E' : ExP} (s : o.sat P E) (hp : ∀ a h, P a h → P' a h) (he : ∀ c fs h, E c fs h → E' c fs h) : o.sat P' E' := by
  cases o with
  | ok a h => exact hp _ _ s
  | exc c fs h => exact he _ _ _ s
  | bad => exact s
theorem Out.sat.to {P' : α → CH → Prop} {E' : ExP} (s : o.sat P noE) (hp : ∀ a h, P a h → P' a h) : o.sat P' E' := s.mono hp fun _ _ _ z => z.elim
theorem OS.sat.mono {o : OS} {N' : Rho → CH → Prop} {Rt' : Dt → CH → Prop} {E' : ExP} (s : o.sat N Rt E) (hn : ∀ ρ h, N ρ h → N' ρ h) (hr : ∀ d h, Rt d h → Rt' d h) (he : ∀ c fs h, E c fs h → E' c fs h) : o.sat N' Rt' E' := by
  cases o with
  | next ρ h => exact hn _ _ s
  | ret d h => exact hr _ _ s
  | exc c fs ρ h => exact he _ _ _ s
  | _ => exact s
theorem sat_ok {a : α} : (Out.ok a h).sat P E ↔ P a h := Iff.rfl
theorem sat_bad : (Out.bad : Out α).sat P E ↔ False := Iff.rfl
theorem sat_bind {f : α → CH → Out β} : (o.bind f).sat Q E ↔ o.sat (fun a h => (f a h).sat Q E) E := by cases o <;> exact Iff.rfl
theorem sat_noX : o.noX.sat P E ↔ o.sat P noE := by cases o <;> exact Iff.rfl
theorem sat_pr {P : Dt → CH → Prop} {d : Dt} {h : CH} : (Out.pr (some (d, h))).sat P E ↔ P d h := Iff.rfl
theorem sat_prN {P : Dt → CH → Prop} : (Out.pr none).sat P E ↔ False := Iff.rfl
theorem sat_opt {x : α} : (Out.opt (some x) h).sat P E ↔ P x h := Iff.rfl
theorem sat_optN : (Out.opt (none : Option α) h).sat P E ↔ False := Iff.rfl
theorem sat_if {c : Prop} [Decidable c] {x y : Out α} : (if c then x else y).sat P E ↔ if c then x.sat P E else y.sat P E := by split <;> exact Iff.rfl
theorem sat_eVar {P : Dt → CH → Prop} {i : Nat} : (eVar i ρ h).sat P E ↔ match ρ[i]? with
  | some (some d) => P d h
  | _ => False := by
  unfold eVar
  generalize ρ[i]? = o
  rcases o with _ | _ | d <;> exact Iff.rfl
theorem sat_eC {P : Dt → CH → Prop} {d : Dt} : (eC d ρ h).sat P E ↔ P d h := Iff.rfl
theorem sat_eBin {P : Dt → CH → Prop} {f : Dt → Dt → CH → Pr} : (eBin f ma mb ρ h).sat P E ↔ (ma ρ h).sat (fun x h1 => (mb ρ h1).sat (fun y h2 => (Out.pr (f x y h2)).sat P E) E) E := by
  unfold eBin; rw [sat_bind]; simp only [sat_bind]
theorem sat_eUn {P : Dt → CH → Prop} {f : Dt → CH → Pr} : (eUn f ma ρ h).sat P E ↔ (ma ρ h).sat (fun x h1 => (Out.pr (f x h1)).sat P E) E := by
  unfold eUn; rw [sat_bind]
theorem sat_mBl {P : Bool → CH → Prop} : (mBl m ρ h).sat P E ↔ (m ρ h).sat (fun d h1 => (Out.opt (asBl d) h1).sat P E) E := by
  unfold mBl; rw [sat_bind]
theorem sat_mTru {P : Bool → CH → Prop} : (mTru m ρ h).sat P E ↔ (m ρ h).sat (fun d h1 => (Out.opt (tru d h1) h1).sat P E) E := by
  unfold mTru; rw [sat_bind]
theorem sat_mNot {P : Bool → CH → Prop} : (mNot t ρ h).sat P E ↔ (t ρ h).sat (fun b h1 => P (!b) h1) E := by
  unfold mNot; rw [sat_bind]; exact Iff.rfl
theorem sat_mAnd {P : Bool → CH → Prop} : (mAnd t u ρ h).sat P E ↔ (t ρ h).sat (fun b h1 => if b = true then (u ρ h1).sat P E else P false h1) E := by
  unfold mAnd; rw [sat_bind]; simp only [sat_if, sat_ok]
theorem sat_mOr {P : Bool → CH → Prop} : (mOr t u ρ h).sat P E ↔ (t ρ h).sat (fun b h1 => if b = true then P true h1 else (u ρ h1).sat P E) E := by
  unfold mOr; rw [sat_bind]; simp only [sat_if, sat_ok]
theorem sat_eAnd {P : Dt → CH → Prop} : (eAnd ma mb ρ h).sat P E ↔ (mBl ma ρ h).sat (fun b h1 => if b = true then (mb ρ h1).sat P E else P (.bl false) h1) E := by
  unfold eAnd; rw [sat_bind]; simp only [sat_if, sat_ok]
theorem sat_eOr {P : Dt → CH → Prop} : (eOr ma mb ρ h).sat P E ↔ (mBl ma ρ h).sat (fun b h1 => if b = true then P (.bl true) h1 else (mb ρ h1).sat P E) E := by
  unfold eOr; rw [sat_bind]; simp only [sat_if, sat_ok]
theorem sat_eNot {P : Dt → CH → Prop} : (eNot m ρ h).sat P E ↔ (mBl m ρ h).sat (fun b h1 => P (.bl (!b)) h1) E := by
  unfold eNot; rw [sat_bind]; exact Iff.rfl
theorem sat_eIf {P : Dt → CH → Prop} : (eIf t ma mb ρ h).sat P E ↔ (t ρ h).sat (fun b h1 => if b = true then (ma ρ h1).sat P E else (mb ρ h1).sat P E) E := by
  unfold eIf; rw [sat_bind]; simp only [sat_if]
theorem sat_eChain {P : Dt → CH → Prop} {f g : Dt → Dt → CH → Pr} : (eChain f g ma mb mc ρ h).sat P E ↔ (ma ρ h).sat (fun x h1 => (mb ρ h1).sat (fun y h2 => (Out.pr (f x y h2)).sat (fun z h3 => match z with
    | .bl true => (mc ρ h3).sat (fun w h4 => (Out.pr (g y w h4)).sat P E) E
    | .bl false => P (.bl false) h3
    | _ => False) E) E) E := by
  unfold eChain
  rw [sat_bind]; simp only [sat_bind]
  refine Iff.of_eq (congrArg (fun z => Out.sat (ma ρ h) z E) (funext fun x => funext fun h1 => congrArg (fun z => Out.sat (mb ρ h1) z E) (funext fun y => funext fun h2 => congrArg (fun z => Out.sat (Out.pr (f x y h2)) z E) (funext fun z => funext fun h3 => ?_))))
  cases z with
  | bl k =>
    cases k with
    | true => simp only [sat_bind]
    | false => rfl
  | _ => rfl
theorem sat_aNil {P : List Dt → CH → Prop} : (aNil ρ h).sat P E ↔ P [] h := Iff.rfl
theorem sat_aCons {P : List Dt → CH → Prop} : (aCons m as ρ h).sat P E ↔ (m ρ h).sat (fun d h1 => (as ρ h1).sat (fun ds h2 => P (d :: ds) h2) E) E := by
  unfold aCons; rw [sat_bind]; simp only [sat_bind, sat_ok]
theorem sat_ofLen {P : List Dt → CH → Prop} {n : Nat} : (ofLen n as ρ h).sat P E ↔ (as ρ h).sat (fun ds h1 => if ds.length = n then P ds h1 else False) E := by
  unfold ofLen; rw [sat_bind]; simp only [sat_if, sat_ok, sat_bad]
theorem sat_eTup {P : Dt → CH → Prop} : (eTup as ρ h).sat P E ↔ (as ρ h).sat (fun ds h1 => if ds.length ≤ sizeLine then P (.tup ds) h1 else False) E := by
  unfold eTup; rw [sat_bind]; simp only [sat_if, sat_ok, sat_bad]
theorem sat_eLst {P : Dt → CH → Prop} : (eLst as ρ h).sat P E ↔ (as ρ h).sat (fun ds h1 => if ds.length ≤ sizeLine then P (.ref h1.length) (h1 ++ [.lst ds]) else False) E := by
  unfold eLst; rw [sat_bind]; simp only [sat_if, sat_ok, sat_bad]
theorem sat_eBlt {P : Dt → CH → Prop} {f : List Dt → CH → Pr} : (eBlt f as ρ h).sat P E ↔ (as ρ h).sat (fun ds h1 => (Out.pr (f ds h1)).sat P E) E := by
  unfold eBlt; rw [sat_bind]
theorem sat_eMth {P : Dt → CH → Prop} {T : String} {f : Dt → List Dt → CH → Pr} : (eMth T f m as ρ h).sat P E ↔ (m ρ h).sat (fun d h1 => if isTy T d h1 = true then (as ρ h1).sat (fun ds h2 => (Out.pr (f d ds h2)).sat P E) E else False) E := by
  unfold eMth; rw [sat_bind]; simp only [sat_if, sat_bind, sat_bad]
theorem sat_oNone {P : Option Int → CH → Prop} : (oNone ρ h).sat P E ↔ P none h := Iff.rfl
theorem sat_oSome {P : Option Int → CH → Prop} : (oSome m ρ h).sat P E ↔ (m ρ h).sat (fun d h1 => match d with
    | .int i => P (some i) h1
    | _ => False) E := by
  unfold oSome; rw [sat_bind]
  refine Iff.of_eq (congrArg (fun z => Out.sat (m ρ h) z E) (funext fun x => funext fun h1 => ?_))
  cases x <;> rfl
theorem sat_eSl {P : Dt → CH → Prop} {f : Dt → Option Int → Option Int → CH → Pr} {lo hi : MO} : (eSl f m lo hi ρ h).sat P E ↔ (m ρ h).sat (fun d h1 => (lo ρ h1).sat (fun l h2 => (hi ρ h2).sat (fun u h3 => (Out.pr (f d l u h3)).sat P E) E) E) E := by
  unfold eSl; rw [sat_bind]; simp only [sat_bind]
theorem sat_eFld {P : Dt → CH → Prop} {c f : Str} : (eFld c f m ρ h).sat P E ↔ (m ρ h).sat (fun d h1 => match d with
    | .ref n => (match h1[n]? with
      | some (.ins c' fs) => if c' = c then (Out.opt (fs.lookup f) h1).sat P E else False
      | _ => False)
    | _ => False) E := by
  unfold eFld; rw [sat_bind]
  refine Iff.of_eq (congrArg (fun z => Out.sat (m ρ h) z E) (funext fun x => funext fun h1 => ?_))
  cases x with
  | ref n =>
    dsimp only
    generalize h1[n]? = o
    rcases o with _ | c
    · rfl
    · cases c with
      | ins c' fs =>
        dsimp only
        by_cases hc : c' = c
        · rw [if_pos hc, if_pos hc]
        · rw [if_neg hc, if_neg hc]; rfl
      | _ => rfl
  | _ => rfl
theorem sat_eFn {P : Dt → CH → Prop} {F : Fn} {dfl : List Dt} : (eFn F dfl as ρ h).sat P E ↔ (as ρ h).sat (fun ds h1 => (F (ds ++ dfl) h1).sat P E) E := by
  unfold eFn; rw [sat_bind]
theorem sat_eFnK {P : Dt → CH → Prop} {F : Fn} {g : List Dt → List Dt → List Dt} {ks : MA} : (eFnK F g as ks ρ h).sat P E ↔ (as ρ h).sat (fun ds h1 => (ks ρ h1).sat (fun es h2 => (F (g ds es) h2).sat P E) E) E := by
  unfold eFnK; rw [sat_bind]; simp only [sat_bind]
theorem sat_init {P : Dt → CH → Prop} {o : Out Dt} {n : Nat} : (o.init n).sat P E ↔ o.sat (fun d h => match d with
    | .non => P (.ref n) h
    | _ => False) E := by
  unfold Out.init; rw [sat_bind]
  refine Iff.of_eq (congrArg (fun z => Out.sat o z E) (funext fun x => funext fun h1 => ?_))
  cases x <;> rfl
theorem sat_eMk {P : Dt → CH → Prop} {c : Str} {F : Fn} {dfl : List Dt} : (eMk c F dfl as ρ h).sat P E ↔ (as ρ h).sat (fun ds h1 => ((F (.ref h1.length :: (ds ++ dfl)) (h1 ++ [.ins c []])).init h1.length).sat P E) E := by
  unfold eMk; rw [sat_bind]
theorem sat_eLenSet {P : Dt → CH → Prop} : (eLenSet m ρ h).sat P E ↔ (m ρ h).sat (fun d h1 => match asL d h1 with
    | some ds => (match tupsO ds with
      | some ks => if ks.length < 64 then P (.int ((dedup ks).length : Nat)) h1 else False
      | none => False)
    | none => False) E := by
  unfold eLenSet; rw [sat_bind]
  refine Iff.of_eq (congrArg (fun z => Out.sat (m ρ h) z E) (funext fun x => funext fun h1 => ?_))
  cases asL x h1 with
  | none => rfl
  | some ds =>
    dsimp only
    cases tupsO ds with
    | none => rfl
    | some ks =>
      dsimp only
      by_cases hc : ks.length < 64
      · rw [if_pos hc, if_pos hc]; rfl
      · rw [if_neg hc, if_neg hc]; rfl
theorem sat_eDic {P : Dt → CH → Prop} {ms : List (ME × ME)} : (eDic ms ρ h).sat P E ↔ (evalP ms ρ h).sat (fun l h1 => if (allKey l && decide (l.length ≤ 15)) = true then P (.ref h1.length) (h1 ++ [.dic false false (mergeD [] l)]) else False) E := by
  unfold eDic; rw [sat_bind]; simp only [sat_if, sat_ok, sat_bad]
theorem sat_evalP0 {P : List (Dt × Dt) → CH → Prop} : (evalP [] ρ h).sat P E ↔ P [] h := Iff.rfl
theorem sat_evalP {P : List (Dt × Dt) → CH → Prop} {ms : List (ME × ME)} : (evalP ((ma, mb) :: ms) ρ h).sat P E ↔ (ma ρ h).sat (fun k h1 => (mb ρ h1).sat (fun v h2 => (evalP ms ρ h2).sat (fun l h3 => P ((k, v) :: l) h3) E) E) E := by
  show (((ma ρ h).bind fun k h1 => (mb ρ h1).bind fun v h2 => (evalP ms ρ h2).bind fun l h3 => .ok ((k, v) :: l) h3)).sat P E ↔ _
  rw [sat_bind]; simp only [sat_bind, sat_ok]

/-! ### statements -/
theorem sat_stm {f : α → CH → OS} : (o.stm ρ f).sat N Rt E ↔ o.sat (fun a h => (f a h).sat N Rt E) E := by cases o <;> exact Iff.rfl
theorem sat_sNext : (sNext ρ h).sat N Rt E ↔ N ρ h := Iff.rfl
theorem sat_sSeq : (sSeq a b ρ h).sat N Rt E ↔ (a ρ h).sat (fun ρ1 h1 => (b ρ1 h1).sat N Rt E) Rt E := by
  unfold sSeq
  cases a ρ h <;> exact Iff.rfl
theorem sat_sEx : (sEx m ρ h).sat N Rt E ↔ (m ρ h).sat (fun _ h1 => N ρ h1) E := by
  unfold sEx; rw [sat_stm]; exact Iff.rfl
theorem sat_sRet : (sRet m ρ h).sat N Rt E ↔ (m ρ h).sat (fun d h1 => Rt d h1) E := by
  unfold sRet; rw [sat_stm]; exact Iff.rfl
theorem sat_sRetN : (sRetN ρ h).sat N Rt E ↔ Rt .non h := Iff.rfl
theorem osat_if {c : Prop} [Decidable c] {x y : OS} : (if c then x else y).sat N Rt E ↔ if c then x.sat N Rt E else y.sat N Rt E := by split <;> exact Iff.rfl
theorem sat_sIf : (sIf t a b ρ h).sat N Rt E ↔ (t ρ h).sat (fun c h1 => if c = true then (a ρ h1).sat N Rt E else (b ρ h1).sat N Rt E) E := by
  unfold sIf; rw [sat_stm]; simp only [osat_if]
theorem sat_sSet {pt : Pat} : (sSet pt m ρ h).sat N Rt E ↔ (m ρ h).sat (fun d h1 => match bindP pt d with
    | some l => N (setR ρ l) h1
    | none => False) E := by
  unfold sSet; rw [sat_stm]
  refine Iff.of_eq (congrArg (fun z => Out.sat (m ρ h) z E) (funext fun x => funext fun h1 => ?_))
  cases bindP pt x <;> rfl
theorem sat_sPar {i j : Nat} : (sPar i j as ρ h).sat N Rt E ↔ (as ρ h).sat (fun ds h1 => match ds with
    | [d, e] => N ((ρ.set i (some d)).set j (some e)) h1
    | _ => False) E := by
  unfold sPar; rw [sat_stm]
  refine Iff.of_eq (congrArg (fun z => Out.sat (as ρ h) z E) (funext fun x => funext fun h1 => ?_))
  rcases x with _ | ⟨x1, _ | ⟨x2, _ | ⟨x3, x4⟩⟩⟩ <;> rfl
theorem sat_sPar3 {i j l : Nat} : (sPar3 i j l as ρ h).sat N Rt E ↔ (as ρ h).sat (fun ds h1 => match ds with
    | [d, e, f] => N (((ρ.set i (some d)).set j (some e)).set l (some f)) h1
    | _ => False) E := by
  unfold sPar3; rw [sat_stm]
  refine Iff.of_eq (congrArg (fun z => Out.sat (as ρ h) z E) (funext fun x => funext fun h1 => ?_))
  rcases x with _ | ⟨x1, _ | ⟨x2, _ | ⟨x3, _ | ⟨x4, x5⟩⟩⟩⟩ <;> rfl
theorem sat_sStore {f : Dt → Dt → Dt → CH → Option CH} : (sStore f m ma mb ρ h).sat N Rt E ↔ (m ρ h).sat (fun v h1 => (ma ρ h1).sat (fun d h2 => (mb ρ h2).sat (fun e h3 => match f d e v h3 with
    | some h4 => N ρ h4
    | none => False) E) E) E := by
  unfold sStore; rw [sat_stm]; simp only [sat_stm]
  refine Iff.of_eq (congrArg (fun z => Out.sat (m ρ h) z E) (funext fun x => funext fun h1 => congrArg (fun z => Out.sat (ma ρ h1) z E) (funext fun y => funext fun h2 => congrArg (fun z => Out.sat (mb ρ h2) z E) (funext fun z => funext fun h3 => ?_))))
  cases f y z x h3 <;> rfl
theorem sat_sFldS {c f : Str} : (sFldS c f m ma ρ h).sat N Rt E ↔ (m ρ h).sat (fun v h1 => (ma ρ h1).sat (fun d h2 => match putIns c f d v h2 with
    | some h3 => N ρ h3
    | none => False) E) E := by
  unfold sFldS; rw [sat_stm]; simp only [sat_stm]
  refine Iff.of_eq (congrArg (fun z => Out.sat (m ρ h) z E) (funext fun x => funext fun h1 => congrArg (fun z => Out.sat (ma ρ h1) z E) (funext fun y => funext fun h2 => ?_)))
  cases putIns c f y x h2 <;> rfl
theorem sat_sRaise {c s : Str} {fs : List Str} : (sRaise c s fs as ρ h).sat N Rt E ↔ (as ρ h).sat (fun ds h1 => if ds.length = fs.length then E c (xFlds s fs ds) h1 else False) E := by
  unfold sRaise; rw [sat_stm]
  refine Iff.of_eq (congrArg (fun z => Out.sat (as ρ h) z E) (funext fun x => funext fun h1 => ?_))
  split <;> rfl
theorem sat_sFor {pt : Pat} {mi : MI} : (sFor pt mi b ρ h).sat N Rt E ↔ (mi ρ h).sat (fun x h1 => (forL pt b x.2 x.1 ρ h1).sat N Rt E) E := by
  unfold sFor; rw [sat_stm]
theorem sat_mSeq {P : List Dt × Gd → CH → Prop} : (mSeq m ρ h).sat P E ↔ (m ρ h).sat (fun d h1 => (Out.opt (seqG d h1) h1).sat P E) E := by
  unfold mSeq; rw [sat_bind]
theorem sat_mRange {P : List Dt × Gd → CH → Prop} {f : List Dt → Option (List Dt × Gd)} : (mRange f as ρ h).sat P E ↔ (as ρ h).sat (fun ds h1 => (Out.opt (f ds) h1).sat P E) E := by
  unfold mRange; rw [sat_bind]
theorem sat_mEnum {P : List Dt × Gd → CH → Prop} : (mEnum as ρ h).sat P E ↔ (as ρ h).sat (fun ds h1 => (Out.opt (mEnum1 ds h1) h1).sat P E) E := by
  unfold mEnum; rw [sat_bind]
theorem sat_mZip {P : List Dt × Gd → CH → Prop} : (mZip as ρ h).sat P E ↔ (as ρ h).sat (fun ds h1 => (Out.opt (mZip1 ds h1) h1).sat P E) E := by
  unfold mZip; rw [sat_bind]
theorem sat_eLc {P : Dt → CH → Prop} {own : List Nat} {pt : Pat} {mi : MI} : (eLc own pt mi t m ρ h).sat P E ↔ (mi ρ h).sat (fun x h1 => (lcL pt t m x.2 (wipeR ρ own) x.1 [] h1).sat (fun ds h2 => P (.ref h2.length) (h2 ++ [.lst ds])) E) E := by
  unfold eLc; rw [sat_bind]; simp only [sat_bind]; exact Iff.rfl
/-- a loop by an invariant on what is still to come -/
theorem sat_forL {pt : Pat} {gs : Gd} (I : List Dt → Rho → CH → Prop) (hg : ∀ l ρ h, I l ρ h → okG gs h = true)
    (hs : ∀ d r ρ h, I (d :: r) ρ h → ∃ l, bindP pt d = some l ∧ (b (setR ρ l) h).sat (I r) Rt E) (he : ∀ ρ h, I [] ρ h → N ρ h) : ∀ (l : List Dt) (ρ : Rho) (h : CH), I l ρ h → (forL pt b gs l ρ h).sat N Rt E
  | [], ρ, h, i => by
    unfold forL
    rw [if_pos (hg _ _ _ i)]
    exact he _ _ i
  | d :: r, ρ, h, i => by
    unfold forL
    rw [if_pos (hg _ _ _ i)]
    obtain ⟨l, e, s⟩ := hs d r ρ h i
    rw [e]
    dsimp only
    cases q : b (setR ρ l) h with
    | next ρ2 h2 => rw [q] at s; exact sat_forL I hg hs he r ρ2 h2 s
    | ret d2 h2 => rw [q] at s; exact s
    | exc c fs ρ2 h2 => rw [q] at s; exact s
    | brk ρ2 h2 => rw [q] at s; exact (show False from s).elim
    | cont ρ2 h2 => rw [q] at s; exact (show False from s).elim
    | bad => rw [q] at s; exact (show False from s).elim
/-- a comprehension by an invariant: what is still to come, what is made -/
theorem sat_lcL {pt : Pat} {gs : Gd} {P : List Dt → CH → Prop} (I : List Dt → List Dt → CH → Prop) (hg : ∀ l acc h, I l acc h → okG gs h = true)
    (hs : ∀ d r acc h, I (d :: r) acc h → ∃ l, bindP pt d = some l ∧ (t (setR ρ l) h).sat (fun c h1 => if c = true then (m (setR ρ l) h1).sat (fun y h2 => acc.length < sizeLine ∧ I r (acc ++ [y]) h2) noE else I r acc h1) noE) (he : ∀ acc h, I [] acc h → P acc h) : ∀ (l acc : List Dt) (h : CH), I l acc h → (lcL pt t m gs ρ l acc h).sat P E
  | [], acc, h, i => by
    unfold lcL
    rw [if_pos (hg _ _ _ i)]
    exact he _ _ i
  | d :: r, acc, h, i => by
    unfold lcL
    rw [if_pos (hg _ _ _ i)]
    obtain ⟨l, e, s⟩ := hs d r acc h i
    rw [e]
    dsimp only
    rw [sat_bind, sat_noX]
    refine Out.sat.mono (E := noE) (E' := noE) s (fun c h1 q => ?_) (fun _ _ _ z => z)
    cases c with
    | true =>
      rw [if_pos rfl] at q ⊢
      rw [sat_bind, sat_noX]
      refine Out.sat.mono (E := noE) (E' := noE) q (fun y h2 q => ?_) (fun _ _ _ z => z)
      obtain ⟨q1, q2⟩ := q
      rw [if_pos q1]
      exact sat_lcL I hg hs he r _ h2 q2
    | false =>
      rw [if_neg Bool.false_ne_true] at q ⊢
      exact sat_lcL I hg hs he r acc h1 q
/-- a def -/
theorem sat_run {n k : Nat} {ms : MS} {ds : List Dt} {P : Dt → CH → Prop} (hl : ds.length = n) (s : (ms (ds.map some ++ List.replicate (k - ds.length) none) h).sat (fun _ h' => P .non h') P E) : (fnN n (runB ms k) ds h).sat P E := by
  unfold fnN
  rw [if_pos hl]
  unfold runB
  revert s
  cases ms (ds.map some ++ List.replicate (k - ds.length) none) h <;> exact fun s => s
theorem sat_sWh {n : Nat} (s : (t ρ h).sat (fun c h1 => if c = true then (a ρ h1).sat (fun ρ2 h2 => (sWh t a n ρ2 h2).sat N Rt E) Rt E else N ρ h1) E) : (sWh t a (n + 1) ρ h).sat N Rt E := by
  unfold sWh
  rw [sat_stm]
  refine s.mono (fun c h1 q => ?_) fun _ _ _ z => z
  cases c with
  | false => exact q
  | true =>
    rw [if_pos rfl] at q ⊢
    revert q
    cases a ρ h1 <;> first | exact fun q => q | exact fun q => (show False from q).elim
end
end Cl
namespace Cl
open PySem PySem.Spec PyProof.Rows L2
def m_law_box : MS :=
  (sRet (eLst (aCons (eBlt pList (aCons (eSl pSl (eVar 0) oNone (oSome (eC (.int (63))))) aNil)) (aCons (eC (.int (0))) (aCons (eC (.int (0))) (aCons (eBin pAdd (eC (.int (4019))) (eBin pMul (eC (.int (57))) (eBlt pLen (aCons (eSl pSl (eVar 0) oNone (oSome (eC (.int (63))))) aNil)))) aNil))))))
def F_law_box : Fn := fnN 1 (runB m_law_box 1)
def m_law_common_1 : MS :=
  (sPar 0 1 (aCons (eVar 1) (aCons (eBin pMod (eVar 0) (eVar 1)) aNil)))
def m_law_common_2 : MS :=
  (sPar 0 1 (aCons (eBlt pAbs (aCons (eVar 0) aNil)) (aCons (eBlt pAbs (aCons (eVar 1) aNil)) aNil)))
def m_law_common_3 : MS :=
  (sWh (mBl (eBin pGt (eVar 1) (eC (.int (0))))) m_law_common_1 1000000000000000000000000000000)
def m_law_common : MS :=
  (sSeq m_law_common_2
  (sSeq m_law_common_3
  (sRet (eVar 0))))
def F_law_common : Fn := fnN 2 (runB m_law_common 2)
def m_law_low_1 : MS :=
  (sSet (.nm 2) (eFn F_law_common [] (aCons (eVar 0) (aCons (eVar 1) aNil))))
def m_law_low_2 : MS :=
  (sRet (eTup (aCons (eBin pFdiv (eVar 0) (eVar 2)) (aCons (eBin pFdiv (eVar 1) (eVar 2)) aNil))))
def m_law_low : MS :=
  (sSeq m_law_low_1
  m_law_low_2)
def F_law_low : Fn := fnN 2 (runB m_law_low 3)
def m_law_take_1 : MS :=
  (sSet (.nm 3) (eBin pAdd (eBin pMul (eBin pIx (eVar 0) (eC (.int (3)))) (eC (.int (69069)))) (eBin pMul (eBin pIx (eVar 0) (eC (.int (1)))) (eC (.int (1299721))))))
def m_law_take_2 : MS :=
  (sStore pPut (eBin pMod (eBin pAdd (eVar 3) (eBin pMul (eBin pMod (eVar 2) (eC (.int (2147483587)))) (eC (.int (7))))) (eC (.int (2147482951)))) (eVar 0) (eC (.int (3))))
def m_law_take_3 : MS :=
  (sSet (.nm 2) (eBin pIx (eBin pIx (eVar 0) (eC (.int (0)))) (eBin pIx (eVar 0) (eC (.int (1))))))
def m_law_take_4 : MS :=
  (sStore pPut (eBin pAdd (eBin pIx (eVar 0) (eC (.int (1)))) (eC (.int (1)))) (eVar 0) (eC (.int (1))))
def m_law_take_5 : MS :=
  (sIf (mBl (eBin pGe (eVar 2) (eBin pPow (eC (.int (10))) (eC (.int (18)))))) (sStore pPut (eVar 2) (eVar 0) (eC (.int (2)))) (sSeq m_law_take_1
  m_law_take_2))
def m_law_take_6 : MS :=
  (sSet (.nm 4) (eBin pMod (eBin pIx (eVar 0) (eC (.int (2)))) (eVar 1)))
def m_law_take_7 : MS :=
  (sStore pPut (eBin pFdiv (eBin pIx (eVar 0) (eC (.int (2)))) (eVar 1)) (eVar 0) (eC (.int (2))))
def m_law_take_8 : MS :=
  (sIf (mAnd (mBl (eBin pEq (eBin pIx (eVar 0) (eC (.int (2)))) (eC (.int (0))))) (mBl (eBin pLt (eBin pIx (eVar 0) (eC (.int (1)))) (eBlt pLen (aCons (eBin pIx (eVar 0) (eC (.int (0)))) aNil))))) (sSeq m_law_take_3
  (sSeq m_law_take_4
  m_law_take_5)) sNext)
def m_law_take_9 : MS :=
  (sIf (mBl (eBin pGt (eBin pIx (eVar 0) (eC (.int (2)))) (eC (.int (0))))) (sSeq m_law_take_6
  (sSeq m_law_take_7
  (sRet (eVar 4)))) sNext)
def m_law_take_10 : MS :=
  (sSet (.nm 3) (eBin pAdd (eBin pAdd (eBin pMul (eBin pIx (eVar 0) (eC (.int (3)))) (eBin pIx (eVar 0) (eC (.int (3))))) (eBin pMul (eBin pIx (eVar 0) (eC (.int (3)))) (eC (.int (30269))))) (eC (.int (7919)))))
def m_law_take_11 : MS :=
  (sStore pPut (eBin pMod (eBin pAdd (eVar 3) (eBin pMul (eBin pIx (eVar 0) (eC (.int (1)))) (eC (.int (101))))) (eC (.int (2147482951)))) (eVar 0) (eC (.int (3))))
def m_law_take_12 : MS :=
  (sRet (eBin pMod (eBin pAdd (eBin pFdiv (eBin pIx (eVar 0) (eC (.int (3)))) (eC (.int (11)))) (eBin pMul (eBin pMod (eBin pIx (eVar 0) (eC (.int (3)))) (eC (.int (9973)))) (eC (.int (53))))) (eVar 1)))
def m_law_take : MS :=
  (sSeq m_law_take_8
  (sSeq m_law_take_9
  (sSeq m_law_take_10
  (sSeq m_law_take_11
  m_law_take_12))))
def F_law_take : Fn := fnN 2 (runB m_law_take 5)
def m_law_above : MS :=
  (sRet (eFn F_law_low [] (aCons (eBin pAdd (eC (.int (1))) (eFn F_law_take [] (aCons (eVar 0) (aCons (eVar 1) aNil)))) (aCons (eBin pIx (eLst (aCons (eC (.int (1))) (aCons (eC (.int (1))) (aCons (eC (.int (1))) (aCons (eC (.int (2))) (aCons (eC (.int (3))) (aCons (eBin pAdd (eC (.int (1))) (eFn F_law_take [] (aCons (eVar 0) (aCons (eC (.int (9))) aNil)))) aNil))))))) (eFn F_law_take [] (aCons (eVar 0) (aCons (eC (.int (6))) aNil)))) aNil))))
def F_law_above : Fn := fnN 2 (runB m_law_above 2)
def m_law_sum : MS :=
  (sRet (eFn F_law_low [] (aCons (eBin pAdd (eBin pMul (eBin pIx (eVar 0) (eC (.int (0)))) (eBin pIx (eVar 1) (eC (.int (1))))) (eBin pMul (eBin pIx (eVar 1) (eC (.int (0)))) (eBin pIx (eVar 0) (eC (.int (1)))))) (aCons (eBin pMul (eBin pIx (eVar 0) (eC (.int (1)))) (eBin pIx (eVar 1) (eC (.int (1))))) aNil))))
def F_law_sum : Fn := fnN 2 (runB m_law_sum 2)
def m_law_rows_between_1 : MS :=
  (sSet (.nm 7) (eFn F_law_above [] (aCons (eVar 0) (aCons (eC (.int (40))) aNil))))
def m_law_rows_between_2 : MS :=
  (sIf (mOr (mBl (eBin pEq (eVar 5) (eLst aNil))) (mOr (mBl (eBin pNotIn (eVar 7) (eVar 5))) (mBl (eBin pEq (eFn F_law_take [] (aCons (eVar 0) (aCons (eC (.int (3))) aNil))) (eC (.int (0))))))) (sEx (eMth "list" pApp (eVar 5) (aCons (eVar 7) aNil))) sNext)
def m_law_rows_between_3 : MS :=
  (sSeq m_law_rows_between_1
  m_law_rows_between_2)
def m_law_rows_between_4 : MS :=
  (sFor (.nm 6) (mRange mRng1 (aCons (eBin pAdd (eC (.int (2))) (eFn F_law_take [] (aCons (eVar 0) (aCons (eBin pSub (eVar 2) (eC (.int (1)))) aNil)))) aNil)) m_law_rows_between_3)
def m_law_rows_between_5 : MS :=
  (sIf (mBl (eBin pLt (eLenSet (eVar 5)) (eC (.int (2))))) (sSet (.nm 5) (eBin pAdd (eSl pSl (eVar 5) oNone (oSome (eC (.int (1))))) (eLst (aCons (eFn F_law_sum [] (aCons (eBin pIx (eVar 5) (eC (.int (0)))) (aCons (eTup (aCons (eBin pAdd (eC (.int (1))) (eFn F_law_take [] (aCons (eVar 0) (aCons (eC (.int (9))) aNil)))) (aCons (eC (.int (1))) aNil))) aNil))) aNil)))) sNext)
def m_law_rows_between_6 : MS :=
  (sSeq (sSet (.nm 5) (eLst aNil))
  (sSeq m_law_rows_between_4
  (sSeq m_law_rows_between_5
  (sEx (eMth "list" pApp (eVar 3) (aCons (eVar 5) aNil))))))
def m_law_rows_between_7 : MS :=
  (sSet (.nm 3) (eLst (aCons (eLst (aCons (eFn F_law_above [] (aCons (eVar 0) (aCons (eC (.int (30))) aNil))) aNil)) aNil)))
def m_law_rows_between_8 : MS :=
  (sFor (.nm 4) (mRange mRng2 (aCons (eC (.int (1))) (aCons (eVar 1) aNil))) m_law_rows_between_6)
def m_law_rows_between : MS :=
  (sSeq m_law_rows_between_7
  (sSeq m_law_rows_between_8
  (sRet (eVar 3))))
def F_law_rows_between : Fn := fnN 3 (runB m_law_rows_between 8)
def m_law_one : MS :=
  (sRet (eBin pIx (eVar 1) (eFn F_law_take [] (aCons (eVar 0) (aCons (eBlt pLen (aCons (eVar 1) aNil)) aNil)))))
def F_law_one : Fn := fnN 2 (runB m_law_one 2)
def m_law_under : MS :=
  (sRet (eBin pLt (eBin pMul (eBin pIx (eVar 0) (eC (.int (0)))) (eBin pIx (eVar 1) (eC (.int (1))))) (eBin pMul (eBin pIx (eVar 1) (eC (.int (0)))) (eBin pIx (eVar 0) (eC (.int (1)))))))
def F_law_under : Fn := fnN 2 (runB m_law_under 2)
def m_law_steps_between_1 : MS :=
  (sSet (.nm 2) (eFn F_law_take [] (aCons (eVar 0) (aCons (eBlt pLen (aCons (eVar 1) aNil)) aNil))))
def m_law_steps_between_2 : MS :=
  (sSet (.nm 3) (eFn F_law_one [] (aCons (eVar 0) (aCons (eLc [4] (.nm 4) (mRange mRng1 (aCons (eBlt pLen (aCons (eVar 1) aNil)) aNil)) (mBl (eBin pNe (eBin pIx (eVar 1) (eVar 4)) (eBin pIx (eVar 1) (eVar 2)))) (eVar 4)) aNil))))
def m_law_steps_between_3 : MS :=
  (sRet (eIf (mTru (eFn F_law_under [] (aCons (eBin pIx (eVar 1) (eVar 3)) (aCons (eBin pIx (eVar 1) (eVar 2)) aNil)))) (eTup (aCons (eVar 2) (aCons (eVar 3) aNil))) (eTup (aCons (eVar 3) (aCons (eVar 2) aNil)))))
def m_law_steps_between : MS :=
  (sSeq m_law_steps_between_1
  (sSeq m_law_steps_between_2
  m_law_steps_between_3))
def F_law_steps_between : Fn := fnN 2 (runB m_law_steps_between 5)
def m_law_product : MS :=
  (sRet (eFn F_law_low [] (aCons (eBin pMul (eBin pIx (eVar 0) (eC (.int (0)))) (eBin pIx (eVar 1) (eC (.int (0))))) (aCons (eBin pMul (eBin pIx (eVar 0) (eC (.int (1)))) (eBin pIx (eVar 1) (eC (.int (1))))) aNil))))
def F_law_product : Fn := fnN 2 (runB m_law_product 2)
def m_law_less_by : MS :=
  (sRet (eFn F_law_low [] (aCons (eBin pSub (eBin pMul (eBin pIx (eVar 0) (eC (.int (0)))) (eBin pIx (eVar 1) (eC (.int (1))))) (eBin pMul (eBin pIx (eVar 1) (eC (.int (0)))) (eBin pIx (eVar 0) (eC (.int (1)))))) (aCons (eBin pMul (eBin pIx (eVar 0) (eC (.int (1)))) (eBin pIx (eVar 1) (eC (.int (1))))) aNil))))
def F_law_less_by : Fn := fnN 2 (runB m_law_less_by 2)
def m_law_share_of_1 : MS :=
  (sIf (mBl (eBin pLt (eBin pIx (eVar 1) (eC (.int (0)))) (eC (.int (0))))) (sRet (eFn F_law_low [] (aCons (eBin pSub (eC (.int (0))) (eBin pMul (eBin pIx (eVar 0) (eC (.int (0)))) (eBin pIx (eVar 1) (eC (.int (1)))))) (aCons (eBin pSub (eC (.int (0))) (eBin pMul (eBin pIx (eVar 0) (eC (.int (1)))) (eBin pIx (eVar 1) (eC (.int (0)))))) aNil)))) sNext)
def m_law_share_of_2 : MS :=
  (sRet (eFn F_law_low [] (aCons (eBin pMul (eBin pIx (eVar 0) (eC (.int (0)))) (eBin pIx (eVar 1) (eC (.int (1))))) (aCons (eBin pMul (eBin pIx (eVar 0) (eC (.int (1)))) (eBin pIx (eVar 1) (eC (.int (0))))) aNil))))
def m_law_share_of : MS :=
  (sSeq m_law_share_of_1
  m_law_share_of_2)
def F_law_share_of : Fn := fnN 2 (runB m_law_share_of 2)
def m_law_fair_1 : MS :=
  (sSet (.tup [(.nm 8), (.nm 9)]) (eFn F_law_steps_between [] (aCons (eVar 0) (aCons (eBin pIx (eVar 3) (eBin pAdd (eVar 6) (eC (.int (1))))) aNil))))
def m_law_fair_2 : MS :=
  (sSet (.nm 10) (eBin pAdd (eC (.int (2))) (eFn F_law_take [] (aCons (eVar 0) (aCons (eC (.int (5))) aNil)))))
def m_law_fair_3 : MS :=
  (sSet (.nm 11) (eTup (aCons (eBin pAdd (eC (.int (1))) (eFn F_law_take [] (aCons (eVar 0) (aCons (eBin pSub (eVar 10) (eC (.int (1)))) aNil)))) (aCons (eVar 10) aNil))))
def m_law_fair_4 : MS :=
  (sPar 12 13 (aCons (eBin pIx (eBin pIx (eVar 3) (eBin pAdd (eVar 6) (eC (.int (1))))) (eVar 8)) (aCons (eBin pIx (eBin pIx (eVar 3) (eBin pAdd (eVar 6) (eC (.int (1))))) (eVar 9)) aNil)))
def m_law_fair_5 : MS :=
  (sSet (.nm 14) (eFn F_law_sum [] (aCons (eVar 13) (aCons (eFn F_law_product [] (aCons (eVar 11) (aCons (eFn F_law_less_by [] (aCons (eVar 12) (aCons (eVar 13) aNil))) aNil))) aNil))))
def m_law_fair_6 : MS :=
  (sEx (eMth "list" pApp (eBin pIx (eVar 4) (eVar 6)) (aCons (eFn F_law_share_of [] (aCons (eVar 14) (aCons (eVar 7) aNil))) aNil)))
def m_law_fair_7 : MS :=
  (sEx (eMth "list" pApp (eBin pIx (eVar 5) (eVar 6)) (aCons (eTup (aCons (eVar 8) (aCons (eVar 9) aNil))) aNil)))
def m_law_fair_8 : MS :=
  (sSeq m_law_fair_1
  (sSeq m_law_fair_2
  (sSeq m_law_fair_3
  (sSeq m_law_fair_4
  (sSeq m_law_fair_5
  (sSeq m_law_fair_6
  m_law_fair_7))))))
def m_law_fair_9 : MS :=
  (sFor (.nm 7) (mSeq (eBin pIx (eVar 3) (eVar 6))) m_law_fair_8)
def m_law_fair_10 : MS :=
  (sSeq (sEx (eMth "list" pApp (eVar 4) (aCons (eLst aNil) aNil)))
  (sSeq (sEx (eMth "list" pApp (eVar 5) (aCons (eLst aNil) aNil)))
  m_law_fair_9))
def m_law_fair_11 : MS :=
  (sSet (.nm 3) (eFn F_law_rows_between [] (aCons (eVar 0) (aCons (eVar 1) (aCons (eVar 2) aNil)))))
def m_law_fair_12 : MS :=
  (sFor (.nm 6) (mRange mRng1 (aCons (eBin pSub (eVar 1) (eC (.int (1)))) aNil)) m_law_fair_10)
def m_law_fair_13 : MS :=
  (sRet (eDic (((eC (.str "prices")), (eVar 3)) :: (((eC (.str "rates")), (eVar 4)) :: (((eC (.str "steps")), (eVar 5)) :: [])))))
def m_law_fair : MS :=
  (sSeq m_law_fair_11
  (sSeq (sPar 4 5 (aCons (eLst aNil) (aCons (eLst aNil) aNil)))
  (sSeq m_law_fair_12
  m_law_fair_13)))
def F_law_fair : Fn := fnN 3 (runB m_law_fair 15)
def m_law_loose_1 : MS :=
  (sIf (mBl (eBin pGt (eFn F_law_take [] (aCons (eVar 0) (aCons (eC (.int (3))) aNil))) (eC (.int (0))))) (sStore pPut (eFn F_law_above [] (aCons (eVar 0) (aCons (eC (.int (3))) aNil))) (eBin pIx (eBin pIx (eVar 3) (eC (.str "rates"))) (eVar 4)) (eVar 5)) sNext)
def m_law_loose_2 : MS :=
  (sFor (.nm 5) (mRange mRng1 (aCons (eBlt pLen (aCons (eBin pIx (eBin pIx (eVar 3) (eC (.str "rates"))) (eVar 4)) aNil)) aNil)) m_law_loose_1)
def m_law_loose_3 : MS :=
  (sSet (.nm 3) (eFn F_law_fair [] (aCons (eVar 0) (aCons (eVar 1) (aCons (eVar 2) aNil)))))
def m_law_loose_4 : MS :=
  (sFor (.nm 4) (mRange mRng1 (aCons (eBin pSub (eVar 1) (eC (.int (1)))) aNil)) m_law_loose_2)
def m_law_loose : MS :=
  (sSeq m_law_loose_3
  (sSeq m_law_loose_4
  (sRet (eVar 3))))
def F_law_loose : Fn := fnN 3 (runB m_law_loose 6)
def m_law_bent_1 : MS :=
  (sSet (.nm 4) (eBin pIx (eLst (aCons (eC (.str "prices")) (aCons (eC (.str "rates")) (aCons (eC (.str "steps")) aNil)))) (eFn F_law_take [] (aCons (eVar 0) (aCons (eC (.int (3))) aNil)))))
def m_law_bent_2 : MS :=
  (sStore pPut (eBin pIx (eLst (aCons (eSl pSl (eBin pIx (eVar 1) (eVar 4)) oNone (oSome (eUn pNeg (eC (.int (1)))))) (aCons (eBin pAdd (eBin pIx (eVar 1) (eVar 4)) (eSl pSl (eBin pIx (eVar 1) (eVar 4)) (oSome (eUn pNeg (eC (.int (1))))) oNone)) (aCons (eLst aNil) (aCons (eBin pMul (eBin pIx (eVar 1) (eVar 4)) (eC (.int (8)))) aNil))))) (eFn F_law_take [] (aCons (eVar 0) (aCons (eC (.int (4))) aNil)))) (eVar 1) (eVar 4))
def m_law_bent_3 : MS :=
  (sSet (.nm 4) (eBin pIx (eLst (aCons (eC (.str "prices")) (aCons (eC (.str "rates")) (aCons (eC (.str "steps")) aNil)))) (eFn F_law_take [] (aCons (eVar 0) (aCons (eC (.int (3))) aNil)))))
def m_law_bent_4 : MS :=
  (sIf (mBl (eBin pLt (eVar 3) (eBlt pLen (aCons (eBin pIx (eVar 1) (eVar 4)) aNil)))) (sStore pPut (eBin pIx (eLst (aCons (eSl pSl (eBin pIx (eBin pIx (eVar 1) (eVar 4)) (eVar 3)) oNone (oSome (eUn pNeg (eC (.int (1)))))) (aCons (eBin pAdd (eBin pIx (eBin pIx (eVar 1) (eVar 4)) (eVar 3)) (eSl pSl (eBin pIx (eBin pIx (eVar 1) (eVar 4)) (eVar 3)) oNone (oSome (eC (.int (1)))))) (aCons (eBin pMul (eBin pIx (eBin pIx (eVar 1) (eVar 4)) (eVar 3)) (eC (.int (9)))) aNil)))) (eFn F_law_take [] (aCons (eVar 0) (aCons (eC (.int (3))) aNil)))) (eBin pIx (eVar 1) (eVar 4)) (eVar 3)) sNext)
def m_law_bent_5 : MS :=
  (sSet (.nm 5) (eFn F_law_take [] (aCons (eVar 0) (aCons (eBlt pLen (aCons (eBin pIx (eBin pIx (eVar 1) (eVar 4)) (eVar 3)) aNil)) aNil))))
def m_law_bent_6 : MS :=
  (sStore pPut (eBin pIx (eLst (aCons (eTup (aCons (eC (.int (0))) (aCons (eC (.int (1))) aNil))) (aCons (eTup (aCons (eUn pNeg (eC (.int (3)))) (aCons (eC (.int (2))) aNil))) aNil))) (eFn F_law_take [] (aCons (eVar 0) (aCons (eC (.int (2))) aNil)))) (eBin pIx (eBin pIx (eVar 1) (eVar 4)) (eVar 3)) (eVar 5))
def m_law_bent_7 : MS :=
  (sSet (.nm 4) (eBin pIx (eLst (aCons (eC (.str "prices")) (aCons (eC (.str "rates")) aNil))) (eBin pSub (eVar 2) (eC (.int (2))))))
def m_law_bent_8 : MS :=
  (sIf (mAnd (mBl (eBin pLt (eVar 3) (eBlt pLen (aCons (eBin pIx (eVar 1) (eVar 4)) aNil)))) (mBl (eBin pNe (eBin pIx (eBin pIx (eVar 1) (eVar 4)) (eVar 3)) (eLst aNil)))) (sSeq m_law_bent_5
  m_law_bent_6) sNext)
def m_law_bent_9 : MS :=
  (sSet (.nm 5) (eFn F_law_take [] (aCons (eVar 0) (aCons (eBlt pLen (aCons (eBin pIx (eBin pIx (eVar 1) (eC (.str "steps"))) (eVar 3)) aNil)) aNil))))
def m_law_bent_10 : MS :=
  (sSet (.tup [(.nm 6), (.nm 7)]) (eBin pIx (eBin pIx (eBin pIx (eVar 1) (eC (.str "steps"))) (eVar 3)) (eVar 5)))
def m_law_bent_11 : MS :=
  (sSet (.nm 8) (eLst (aCons (eTup (aCons (eVar 7) (aCons (eVar 6) aNil))) (aCons (eTup (aCons (eVar 6) (aCons (eVar 6) aNil))) (aCons (eTup (aCons (eC (.int (9))) (aCons (eVar 7) aNil))) (aCons (eTup (aCons (eVar 6) (aCons (eUn pNeg (eC (.int (1)))) aNil))) (aCons (eTup (aCons (eBin pPow (eC (.int (10))) (eC (.int (20)))) (aCons (eVar 7) aNil))) (aCons (eTup (aCons (eVar 6) (aCons (eC (.int (8))) aNil))) aNil))))))))
def m_law_bent_12 : MS :=
  (sStore pPut (eFn F_law_one [] (aCons (eVar 0) (aCons (eVar 8) aNil))) (eBin pIx (eBin pIx (eVar 1) (eC (.str "steps"))) (eVar 3)) (eVar 5))
def m_law_bent_13 : MS :=
  (sSet (.nm 2) (eFn F_law_take [] (aCons (eVar 0) (aCons (eC (.int (7))) aNil))))
def m_law_bent_14 : MS :=
  (sSet (.nm 3) (eFn F_law_take [] (aCons (eVar 0) (aCons (eBlt pLen (aCons (eBin pIx (eVar 1) (eC (.str "prices"))) aNil)) aNil))))
def m_law_bent_15 : MS :=
  (sIf (mBl (eBin pEq (eVar 2) (eC (.int (0))))) (sSeq m_law_bent_1
  m_law_bent_2) (sIf (mBl (eBin pEq (eVar 2) (eC (.int (1))))) (sSeq m_law_bent_3
  m_law_bent_4) (sIf (mBl (eBin pLt (eVar 2) (eC (.int (4))))) (sSeq m_law_bent_7
  m_law_bent_8) (sIf (mAnd (mBl (eBin pLt (eVar 3) (eBlt pLen (aCons (eBin pIx (eVar 1) (eC (.str "steps"))) aNil)))) (mBl (eBin pNe (eBin pIx (eBin pIx (eVar 1) (eC (.str "steps"))) (eVar 3)) (eLst aNil)))) (sSeq m_law_bent_9
  (sSeq m_law_bent_10
  (sSeq m_law_bent_11
  m_law_bent_12))) sNext))))
def m_law_bent : MS :=
  (sSeq m_law_bent_13
  (sSeq m_law_bent_14
  m_law_bent_15))
def F_law_bent : Fn := fnN 2 (runB m_law_bent 9)
def m_law_copy_web : MS :=
  (sRet (eBlt pDict (aCons (eLc [1] (.nm 1) (mSeq (eLst (aCons (eC (.str "prices")) (aCons (eC (.str "rates")) (aCons (eC (.str "steps")) aNil))))) mYes (eTup (aCons (eVar 1) (aCons (eLc [2] (.nm 2) (mSeq (eBin pIx (eVar 0) (eVar 1))) mYes (eBlt pList (aCons (eVar 2) aNil))) aNil)))) aNil)))
def F_law_copy_web : Fn := fnN 1 (runB m_law_copy_web 3)
def m_law_shape_good_1 : MS :=
  (sIf (mOr (mNot (mBl (eChain pLe pLe (eC (.int (1))) (eBlt pLen (aCons (eBin pIx (eVar 1) (eVar 4)) aNil)) (eC (.int (8)))))) (mAnd (mBl (eBin pEq (eVar 4) (eC (.int (0))))) (mBl (eBin pGt (eBlt pLen (aCons (eBin pIx (eVar 1) (eVar 4)) aNil)) (eC (.int (1))))))) (sRet (eC (.bl false))) sNext)
def m_law_shape_good_2 : MS :=
  (sIf (mAnd (mBl (eBin pLt (eVar 4) (eBlt pLen (aCons (eVar 2) aNil)))) (mNot (mBl (eChain pEq pEq (eBlt pLen (aCons (eBin pIx (eVar 2) (eVar 4)) aNil)) (eBlt pLen (aCons (eBin pIx (eVar 3) (eVar 4)) aNil)) (eBlt pLen (aCons (eBin pIx (eVar 1) (eVar 4)) aNil)))))) (sRet (eC (.bl false))) sNext)
def m_law_shape_good_3 : MS :=
  (sSeq m_law_shape_good_1
  m_law_shape_good_2)
def m_law_shape_good_4 : MS :=
  (sPar3 1 2 3 (aCons (eBin pIx (eVar 0) (eC (.str "prices"))) (aCons (eBin pIx (eVar 0) (eC (.str "rates"))) (aCons (eBin pIx (eVar 0) (eC (.str "steps"))) aNil))))
def m_law_shape_good_5 : MS :=
  (sIf (mOr (mNot (mBl (eChain pLe pLe (eC (.int (1))) (eBlt pLen (aCons (eVar 1) aNil)) (eC (.int (7)))))) (mOr (mBl (eBin pNe (eBlt pLen (aCons (eVar 2) aNil)) (eBin pSub (eBlt pLen (aCons (eVar 1) aNil)) (eC (.int (1)))))) (mBl (eBin pNe (eBlt pLen (aCons (eVar 3) aNil)) (eBin pSub (eBlt pLen (aCons (eVar 1) aNil)) (eC (.int (1)))))))) (sRet (eC (.bl false))) sNext)
def m_law_shape_good_6 : MS :=
  (sFor (.nm 4) (mRange mRng1 (aCons (eBlt pLen (aCons (eVar 1) aNil)) aNil)) m_law_shape_good_3)
def m_law_shape_good : MS :=
  (sSeq m_law_shape_good_4
  (sSeq m_law_shape_good_5
  (sSeq m_law_shape_good_6
  (sRet (eC (.bl true))))))
def F_law_shape_good : Fn := fnN 1 (runB m_law_shape_good 5)
def m_law_first_bad_1 : MS :=
  (sIf (mBl (eBin pLe (eBin pIx (eBin pIx (eBin pIx (eBin pIx (eVar 0) (eVar 1)) (eVar 3)) (eVar 4)) (eC (.int (0)))) (eC (.int (0))))) (sRet (eTup (aCons (eVar 2) (aCons (eVar 3) (aCons (eVar 4) aNil))))) sNext)
def m_law_first_bad_2 : MS :=
  (sFor (.nm 4) (mRange mRng1 (aCons (eBlt pLen (aCons (eBin pIx (eBin pIx (eVar 0) (eVar 1)) (eVar 3)) aNil)) aNil)) m_law_first_bad_1)
def m_law_first_bad_3 : MS :=
  (sFor (.nm 3) (mRange mRng1 (aCons (eBlt pLen (aCons (eBin pIx (eVar 0) (eVar 1)) aNil)) aNil)) m_law_first_bad_2)
def m_law_first_bad_4 : MS :=
  (sSet (.tup [(.nm 6), (.nm 7)]) (eBin pIx (eBin pIx (eBin pIx (eVar 0) (eC (.str "steps"))) (eVar 3)) (eVar 4)))
def m_law_first_bad_5 : MS :=
  (sIf (mOr (mNot (mBl (eChain pLe pLt (eC (.int (0))) (eVar 6) (eBlt pLen (aCons (eVar 5) aNil))))) (mOr (mNot (mBl (eChain pLe pLt (eC (.int (0))) (eVar 7) (eBlt pLen (aCons (eVar 5) aNil))))) (mNot (mTru (eFn F_law_under [] (aCons (eBin pIx (eVar 5) (eVar 7)) (aCons (eBin pIx (eVar 5) (eVar 6)) aNil))))))) (sRet (eTup (aCons (eC (.str "BadStep")) (aCons (eVar 3) (aCons (eVar 4) aNil))))) sNext)
def m_law_first_bad_6 : MS :=
  (sSeq m_law_first_bad_4
  m_law_first_bad_5)
def m_law_first_bad_7 : MS :=
  (sSet (.nm 5) (eBin pIx (eBin pIx (eVar 0) (eC (.str "prices"))) (eBin pAdd (eVar 3) (eC (.int (1))))))
def m_law_first_bad_8 : MS :=
  (sFor (.nm 4) (mRange mRng1 (aCons (eBlt pLen (aCons (eBin pIx (eBin pIx (eVar 0) (eC (.str "steps"))) (eVar 3)) aNil)) aNil)) m_law_first_bad_6)
def m_law_first_bad_9 : MS :=
  (sSeq m_law_first_bad_7
  m_law_first_bad_8)
def m_law_first_bad_10 : MS :=
  (sIf (mNot (mTru (eFn F_law_shape_good [] (aCons (eVar 0) aNil)))) (sRet (eTup (aCons (eC (.str "BadShape")) aNil))) sNext)
def m_law_first_bad_11 : MS :=
  (sFor (.tup [(.nm 1), (.nm 2)]) (mSeq (eLst (aCons (eTup (aCons (eC (.str "prices")) (aCons (eC (.str "BadPrice")) aNil))) (aCons (eTup (aCons (eC (.str "rates")) (aCons (eC (.str "BadRate")) aNil))) aNil)))) m_law_first_bad_3)
def m_law_first_bad_12 : MS :=
  (sFor (.nm 3) (mRange mRng1 (aCons (eBlt pLen (aCons (eBin pIx (eVar 0) (eC (.str "steps"))) aNil)) aNil)) m_law_first_bad_9)
def m_law_first_bad : MS :=
  (sSeq m_law_first_bad_10
  (sSeq m_law_first_bad_11
  (sSeq m_law_first_bad_12
  (sRet (eC .non)))))
def F_law_first_bad : Fn := fnN 1 (runB m_law_first_bad 8)
def hds_law_why : List HdC := [
  ⟨["NoNode", "BadPrice", "BadRate", "BadStep", "Winning"], some 1, fun fs => sRet (eTup (aCons (eXF "called" fs) (aCons (eXF "date" fs) (aCons (eXF "node" fs) aNil))))⟩,
  ⟨["BadName", "Clash", "Ring", "TooGreat", "InUse", "StillAsked", "NoNote", "NoThing"], some 1, fun fs => sRet (eTup (aCons (eXF "called" fs) (aCons (eXF "name" fs) aNil)))⟩,
  ⟨["BadPage"], some 1, fun fs => sRet (eTup (aCons (eXF "called" fs) (aCons (eXF "row" fs) aNil)))⟩,
  ⟨["NoStand"], some 1, fun fs => sRet (eTup (aCons (eXF "called" fs) (aCons (eXF "number" fs) aNil)))⟩,
  ⟨["LoomError", "Missing"], some 1, fun fs => sRet (eTup (aCons (eXF "called" fs) aNil))⟩]
def m_look_shape_1 : MS :=
  (sIf (mNot (mBl (eChain pLe pLe (eC (.int (1))) (eBlt pLen (aCons (eVar 4) aNil)) (eIf (mBl (eBin pEq (eVar 3) (eC (.int (0))))) (eC (.int (1))) (eC (.int 8)))))) (sRaise "BadShape" "BadShape" [] aNil) sNext)
def m_look_shape_2 : MS :=
  (sIf (mAnd (mBl (eBin pLt (eVar 3) (eBlt pLen (aCons (eVar 1) aNil)))) (mNot (mBl (eChain pEq pEq (eBlt pLen (aCons (eBin pIx (eVar 1) (eVar 3)) aNil)) (eBlt pLen (aCons (eBin pIx (eVar 2) (eVar 3)) aNil)) (eBlt pLen (aCons (eVar 4) aNil)))))) (sRaise "BadShape" "BadShape" [] aNil) sNext)
def m_look_shape_3 : MS :=
  (sSeq m_look_shape_1
  m_look_shape_2)
def m_look_shape_4 : MS :=
  (sIf (mOr (mNot (mBl (eChain pLe pLe (eC (.int (1))) (eBlt pLen (aCons (eVar 0) aNil)) (eC (.int 7))))) (mNot (mBl (eChain pEq pEq (eBlt pLen (aCons (eVar 1) aNil)) (eBlt pLen (aCons (eVar 2) aNil)) (eBin pSub (eBlt pLen (aCons (eVar 0) aNil)) (eC (.int (1)))))))) (sRaise "BadShape" "BadShape" [] aNil) sNext)
def m_look_shape_5 : MS :=
  (sFor (.tup [(.nm 3), (.nm 4)]) (mEnum (aCons (eVar 0) aNil)) m_look_shape_3)
def m_look_shape : MS :=
  (sSeq m_look_shape_4
  m_look_shape_5)
def F_look_shape : Fn := fnN 3 (runB m_look_shape 5)
def m_look_above_1 : MS :=
  (sIf (mAnd (mBl (eBin pLe (eVar 5) (eC (.int (0))))) (mTru (eVar 1))) (sRaise "BadRate" "BadRate" ["date", "node"] (aCons (eVar 2) (aCons (eVar 4) aNil))) sNext)
def m_look_above_2 : MS :=
  (sIf (mBl (eBin pLe (eVar 5) (eC (.int (0))))) (sRaise "BadPrice" "BadPrice" ["date", "node"] (aCons (eVar 2) (aCons (eVar 4) aNil))) sNext)
def m_look_above_3 : MS :=
  (sSeq m_look_above_1
  m_look_above_2)
def m_look_above_4 : MS :=
  (sFor (.tup [(.nm 4), (.tup [(.nm 5), (.nm 6)])]) (mEnum (aCons (eVar 3) aNil)) m_look_above_3)
def m_look_above : MS :=
  (sFor (.tup [(.nm 2), (.nm 3)]) (mEnum (aCons (eVar 0) aNil)) m_look_above_4)
def F_look_above : Fn := fnN 2 (runB m_look_above 7)
def m_less : MS :=
  (sRet (eBin pLt (eBin pMul (eBin pIx (eVar 0) (eC (.int (0)))) (eBin pIx (eVar 1) (eC (.int (1))))) (eBin pMul (eBin pIx (eVar 1) (eC (.int (0)))) (eBin pIx (eVar 0) (eC (.int (1)))))))
def F_less : Fn := fnN 2 (runB m_less 2)
def m_look_steps_1 : MS :=
  (sIf (mOr (mNot (mBl (eChain pLe pLt (eC (.int (0))) (eVar 6) (eBlt pLen (aCons (eVar 4) aNil))))) (mOr (mNot (mBl (eChain pLe pLt (eC (.int (0))) (eVar 7) (eBlt pLen (aCons (eVar 4) aNil))))) (mNot (mTru (eFn F_less [] (aCons (eBin pIx (eVar 4) (eVar 7)) (aCons (eBin pIx (eVar 4) (eVar 6)) aNil))))))) (sRaise "BadStep" "BadStep" ["date", "node"] (aCons (eVar 2) (aCons (eVar 5) aNil))) sNext)
def m_look_steps_2 : MS :=
  (sSet (.nm 4) (eBin pIx (eVar 0) (eBin pAdd (eVar 2) (eC (.int (1))))))
def m_look_steps_3 : MS :=
  (sFor (.tup [(.nm 5), (.tup [(.nm 6), (.nm 7)])]) (mEnum (aCons (eVar 3) aNil)) m_look_steps_1)
def m_look_steps_4 : MS :=
  (sSeq m_look_steps_2
  m_look_steps_3)
def m_look_steps : MS :=
  (sFor (.tup [(.nm 2), (.nm 3)]) (mEnum (aCons (eVar 1) aNil)) m_look_steps_4)
def F_look_steps : Fn := fnN 2 (runB m_look_steps 8)
def m_Lattice__init_1 : MS :=
  (sEx (eFn F_look_shape [] (aCons (eVar 1) (aCons (eVar 2) (aCons (eVar 3) aNil)))))
def m_Lattice__init_2 : MS :=
  (sEx (eFnK F_look_above (fun ds es => ds ++ es) (ofLen 1 (aCons (eVar 1) aNil)) (ofLen 1 (aCons (eC (.bl false)) aNil))))
def m_Lattice__init_3 : MS :=
  (sEx (eFnK F_look_above (fun ds es => ds ++ es) (ofLen 1 (aCons (eVar 2) aNil)) (ofLen 1 (aCons (eC (.bl true)) aNil))))
def m_Lattice__init_4 : MS :=
  (sEx (eFn F_look_steps [] (aCons (eVar 1) (aCons (eVar 3) aNil))))
def m_Lattice__init_5 : MS :=
  (sFldS "Lattice" "prices" (eLc [4] (.nm 4) (mSeq (eVar 1)) mYes (eBlt pList (aCons (eVar 4) aNil))) (eVar 0))
def m_Lattice__init_6 : MS :=
  (sFldS "Lattice" "rates" (eLc [4] (.nm 4) (mSeq (eVar 2)) mYes (eBlt pList (aCons (eVar 4) aNil))) (eVar 0))
def m_Lattice__init_7 : MS :=
  (sFldS "Lattice" "steps" (eLc [4] (.nm 4) (mSeq (eVar 3)) mYes (eLc [5, 6] (.tup [(.nm 5), (.nm 6)]) (mSeq (eVar 4)) mYes (eTup (aCons (eVar 5) (aCons (eVar 6) aNil))))) (eVar 0))
def m_Lattice__init : MS :=
  (sSeq m_Lattice__init_1
  (sSeq m_Lattice__init_2
  (sSeq m_Lattice__init_3
  (sSeq m_Lattice__init_4
  (sSeq m_Lattice__init_5
  (sSeq m_Lattice__init_6
  m_Lattice__init_7))))))
def F_Lattice__init : Fn := fnN 4 (runB m_Lattice__init 7)
def m_law_web : MS :=
  (sRet (eMk "Lattice" F_Lattice__init [] (aCons (eBin pIx (eVar 0) (eC (.str "prices"))) (aCons (eBin pIx (eVar 0) (eC (.str "rates"))) (aCons (eBin pIx (eVar 0) (eC (.str "steps"))) aNil)))))
def F_law_web : Fn := fnN 1 (runB m_law_web 1)
def m_law_same (F : Fn) : MS :=
  (sSeq (sIf (mBl (eBin pIsN (eVar 1) (eC .non))) (sRet (eBin pIsN (eVar 0) (eC .non))) sNext)
  (sSeq (sIf (mOr (mTru (eBlt pIsi (aCons (eVar 1) (aCons (eC (.ty "list")) aNil)))) (mTru (eBlt pIsi (aCons (eVar 1) (aCons (eC (.ty "tuple")) aNil))))) (sSeq (sIf (mOr (mBl (eBin pNe (eBlt pIsi (aCons (eVar 0) (aCons (eC (.ty "list")) aNil))) (eBlt pIsi (aCons (eVar 1) (aCons (eC (.ty "list")) aNil))))) (mBl (eBin pNe (eBlt pIsi (aCons (eVar 0) (aCons (eC (.ty "tuple")) aNil))) (eBlt pIsi (aCons (eVar 1) (aCons (eC (.ty "tuple")) aNil)))))) (sRet (eC (.bl false))) sNext)
  (sRet (eAnd (eBin pEq (eBlt pLen (aCons (eVar 0) aNil)) (eBlt pLen (aCons (eVar 1) aNil))) (eBlt pAll (aCons (eLc [2, 3] (.tup [(.nm 2), (.nm 3)]) (mZip (aCons (eVar 0) (aCons (eVar 1) aNil))) mYes (eFn F [] (aCons (eVar 2) (aCons (eVar 3) aNil)))) aNil))))) sNext)
  (sSeq (sIf (mOr (mBl (eBin pNe (eBlt pIsi (aCons (eVar 1) (aCons (eC (.ty "bool")) aNil))) (eBlt pIsi (aCons (eVar 0) (aCons (eC (.ty "bool")) aNil))))) (mBl (eBin pNe (eBlt pIsi (aCons (eVar 1) (aCons (eC (.ty "int")) aNil))) (eBlt pIsi (aCons (eVar 0) (aCons (eC (.ty "int")) aNil)))))) (sRet (eC (.bl false))) sNext)
  (sRet (eAnd (eBin pEq (eBlt pIsi (aCons (eVar 0) (aCons (eC (.ty "str")) aNil))) (eBlt pIsi (aCons (eVar 1) (aCons (eC (.ty "str")) aNil)))) (eBin pEq (eVar 0) (eVar 1)))))))
def F_law_same : Nat → Fn
  | 0 => fun _ _ => .bad
  | n + 1 => fnN 2 (runB (m_law_same (F_law_same n)) 4)
def m_law_1 : MS :=
  (sIf (mBl (eBin pNe (eBin pIx (eVar 3) (eC (.str "prices"))) (eLst aNil))) (sEx (eFn F_law_bent [] (aCons (eVar 1) (aCons (eVar 3) aNil)))) sNext)
def m_law_2 : MS :=
  (sSet (.nm 3) (eFn F_law_loose [] (aCons (eVar 1) (aCons (eBin pAdd (eC (.int (1))) (eFn F_law_take [] (aCons (eVar 1) (aCons (eC (.int (7))) aNil)))) (aCons (eBin pAdd (eC (.int (2))) (eFn F_law_take [] (aCons (eVar 1) (aCons (eC (.int (7))) aNil)))) aNil)))))
def m_law_3 : MS :=
  (sFor (.nm 4) (mRange mRng1 (aCons (eBin pAdd (eC (.int (1))) (eFn F_law_take [] (aCons (eVar 1) (aCons (eC (.int (2))) aNil)))) aNil)) m_law_1)
def m_law_4 : MS :=
  (sSet (.nm 5) (eFn F_law_first_bad [] (aCons (eVar 3) aNil)))
def m_law_5 : MS :=
  (sSet (.nm 6) (eWhy "told" 2 hds_law_why (eFn F_law_web [] (aCons (eVar 7) aNil))))
def m_law_6 : MS :=
  (sIf (mOr (mBl (eBin pNe (eVar 7) (eVar 3))) (mOr (mAnd (mBl (eBin pNotN (eVar 5) (eC .non))) (mNot (mTru (eFn (F_law_same 8) [] (aCons (eVar 6) (aCons (eVar 5) aNil)))))) (mAnd (mBl (eBin pIsN (eVar 5) (eC .non))) (mBl (eBin pNe (eBin pIx (eVar 6) (eC (.int (0)))) (eC (.str "told"))))))) (sRet (eC (.bl false))) sNext)
def m_law_7 : MS :=
  (sSeq m_law_2
  (sSeq m_law_3
  (sSeq (sSet (.nm 7) (eFn F_law_copy_web [] (aCons (eVar 3) aNil)))
  (sSeq m_law_4
  (sSeq m_law_5
  m_law_6)))))
def m_law_8 : MS :=
  (sFor (.nm 2) (mRange mRng1 (aCons (eC (.int (5))) aNil)) m_law_7)
def m_law : MS :=
  (sSeq (sSet (.nm 1) (eFn F_law_box [] (aCons (eVar 0) aNil)))
  (sSeq m_law_8
  (sRet (eC (.bl true)))))
def F_law : Fn := fnN 1 (runB m_law 8)
end Cl
namespace Cl
open PySem PySem.Spec PyProof.Rows L2
def top (i : Nat) : Stmt := PySem.Challenge.pw_strikeloom_k06_lattices_refused.main.body.getD i (.Pass ⟨0, 0, 0, 0⟩)
def fa : List He.Fa := [
  .free "len",
  .free "list",
  .glo "_law_box",
  .free "range",
  .free "abs",
  .glo "_law_common",
  .glo "_law_low",
  .glo "_law_take",
  .glo "_law_above",
  .free "set",
  .glo "_law_sum",
  .glo "_law_rows_between",
  .glo "_law_one",
  .glo "_law_under",
  .glo "_law_steps_between",
  .glo "_law_product",
  .glo "_law_less_by",
  .glo "_law_share_of",
  .glo "_law_fair",
  .glo "_law_loose",
  .glo "_law_bent",
  .free "dict",
  .glo "_law_copy_web",
  .glo "_law_shape_good",
  .glo "_law_first_bad",
  .glo "Winning",
  .glo "BadStep",
  .glo "BadRate",
  .glo "BadPrice",
  .glo "NoNode",
  .glo "NoThing",
  .glo "NoNote",
  .glo "StillAsked",
  .glo "InUse",
  .glo "TooGreat",
  .glo "Ring",
  .glo "Clash",
  .glo "BadName",
  .glo "BadPage",
  .glo "NoStand",
  .glo "Missing",
  .glo "LoomError",
  .glo "_law_why",
  .int "MOST_DATES" (7),
  .glo "BadShape",
  .free "enumerate",
  .int "MOST_NODES" (8),
  .glo "look_shape",
  .glo "look_above",
  .glo "less",
  .glo "look_steps",
  .cls "Lattice",
  .noat "Lattice" "prices",
  .noat "Lattice" "rates",
  .noat "Lattice" "steps",
  .mkr "Lattice",
  .glo "Lattice",
  .glo "_law_web",
  .free "isinstance",
  .free "tuple",
  .free "zip",
  .free "all",
  .free "bool",
  .free "int",
  .free "str",
  .glo "_law_same",
  .glo "law"]
abbrev s_law_box : Stmt := top 30
def d_law_box : He.DefD := ⟨("_law_box", none), "_law_box", "_law_box", defArgs s_law_box, defBody s_law_box, defScope s_law_box, [], []⟩
abbrev s_law_common : Stmt := top 34
def d_law_common : He.DefD := ⟨("_law_common", none), "_law_common", "_law_common", defArgs s_law_common, defBody s_law_common, defScope s_law_common, [], []⟩
abbrev s_law_low : Stmt := top 35
def d_law_low : He.DefD := ⟨("_law_low", none), "_law_low", "_law_low", defArgs s_law_low, defBody s_law_low, defScope s_law_low, [], []⟩
abbrev s_law_take : Stmt := top 31
def d_law_take : He.DefD := ⟨("_law_take", none), "_law_take", "_law_take", defArgs s_law_take, defBody s_law_take, defScope s_law_take, [], []⟩
abbrev s_law_above : Stmt := top 41
def d_law_above : He.DefD := ⟨("_law_above", none), "_law_above", "_law_above", defArgs s_law_above, defBody s_law_above, defScope s_law_above, [], []⟩
abbrev s_law_sum : Stmt := top 36
def d_law_sum : He.DefD := ⟨("_law_sum", none), "_law_sum", "_law_sum", defArgs s_law_sum, defBody s_law_sum, defScope s_law_sum, [], []⟩
abbrev s_law_rows_between : Stmt := top 42
def d_law_rows_between : He.DefD := ⟨("_law_rows_between", none), "_law_rows_between", "_law_rows_between", defArgs s_law_rows_between, defBody s_law_rows_between, defScope s_law_rows_between, [], []⟩
abbrev s_law_one : Stmt := top 32
def d_law_one : He.DefD := ⟨("_law_one", none), "_law_one", "_law_one", defArgs s_law_one, defBody s_law_one, defScope s_law_one, [], []⟩
abbrev s_law_under : Stmt := top 40
def d_law_under : He.DefD := ⟨("_law_under", none), "_law_under", "_law_under", defArgs s_law_under, defBody s_law_under, defScope s_law_under, [], []⟩
abbrev s_law_steps_between : Stmt := top 43
def d_law_steps_between : He.DefD := ⟨("_law_steps_between", none), "_law_steps_between", "_law_steps_between", defArgs s_law_steps_between, defBody s_law_steps_between, defScope s_law_steps_between, [], []⟩
abbrev s_law_product : Stmt := top 38
def d_law_product : He.DefD := ⟨("_law_product", none), "_law_product", "_law_product", defArgs s_law_product, defBody s_law_product, defScope s_law_product, [], []⟩
abbrev s_law_less_by : Stmt := top 37
def d_law_less_by : He.DefD := ⟨("_law_less_by", none), "_law_less_by", "_law_less_by", defArgs s_law_less_by, defBody s_law_less_by, defScope s_law_less_by, [], []⟩
abbrev s_law_share_of : Stmt := top 39
def d_law_share_of : He.DefD := ⟨("_law_share_of", none), "_law_share_of", "_law_share_of", defArgs s_law_share_of, defBody s_law_share_of, defScope s_law_share_of, [], []⟩
abbrev s_law_fair : Stmt := top 44
def d_law_fair : He.DefD := ⟨("_law_fair", none), "_law_fair", "_law_fair", defArgs s_law_fair, defBody s_law_fair, defScope s_law_fair, [], []⟩
abbrev s_law_loose : Stmt := top 45
def d_law_loose : He.DefD := ⟨("_law_loose", none), "_law_loose", "_law_loose", defArgs s_law_loose, defBody s_law_loose, defScope s_law_loose, [], []⟩
abbrev s_law_bent : Stmt := top 51
def d_law_bent : He.DefD := ⟨("_law_bent", none), "_law_bent", "_law_bent", defArgs s_law_bent, defBody s_law_bent, defScope s_law_bent, [], []⟩
abbrev s_law_copy_web : Stmt := top 46
def d_law_copy_web : He.DefD := ⟨("_law_copy_web", none), "_law_copy_web", "_law_copy_web", defArgs s_law_copy_web, defBody s_law_copy_web, defScope s_law_copy_web, [], []⟩
abbrev s_law_shape_good : Stmt := top 49
def d_law_shape_good : He.DefD := ⟨("_law_shape_good", none), "_law_shape_good", "_law_shape_good", defArgs s_law_shape_good, defBody s_law_shape_good, defScope s_law_shape_good, [], []⟩
abbrev s_law_first_bad : Stmt := top 50
def d_law_first_bad : He.DefD := ⟨("_law_first_bad", none), "_law_first_bad", "_law_first_bad", defArgs s_law_first_bad, defBody s_law_first_bad, defScope s_law_first_bad, [], []⟩
abbrev s_law_why : Stmt := top 48
def d_law_why : He.DefD := ⟨("_law_why", none), "_law_why", "_law_why", defArgs s_law_why, defBody s_law_why, defScope s_law_why, [], []⟩
abbrev s_BadShape__init : Stmt := inClass (top 4) 0
def d_BadShape__init : He.DefD := ⟨("BadShape", some "__init__"), "__init__", "BadShape.__init__", defArgs s_BadShape__init, defBody s_BadShape__init, defScope s_BadShape__init, [], []⟩
abbrev s_look_shape : Stmt := top 25
def d_look_shape : He.DefD := ⟨("look_shape", none), "look_shape", "look_shape", defArgs s_look_shape, defBody s_look_shape, defScope s_look_shape, [], []⟩
abbrev s_BadRate__init : Stmt := inClass (top 6) 0
def d_BadRate__init : He.DefD := ⟨("BadRate", some "__init__"), "__init__", "BadRate.__init__", defArgs s_BadRate__init, defBody s_BadRate__init, defScope s_BadRate__init, [], []⟩
abbrev s_BadPrice__init : Stmt := inClass (top 5) 0
def d_BadPrice__init : He.DefD := ⟨("BadPrice", some "__init__"), "__init__", "BadPrice.__init__", defArgs s_BadPrice__init, defBody s_BadPrice__init, defScope s_BadPrice__init, [], []⟩
abbrev s_look_above : Stmt := top 26
def d_look_above : He.DefD := ⟨("look_above", none), "look_above", "look_above", defArgs s_look_above, defBody s_look_above, defScope s_look_above, [], []⟩
abbrev s_less : Stmt := top 21
def d_less : He.DefD := ⟨("less", none), "less", "less", defArgs s_less, defBody s_less, defScope s_less, [], []⟩
abbrev s_BadStep__init : Stmt := inClass (top 7) 0
def d_BadStep__init : He.DefD := ⟨("BadStep", some "__init__"), "__init__", "BadStep.__init__", defArgs s_BadStep__init, defBody s_BadStep__init, defScope s_BadStep__init, [], []⟩
abbrev s_look_steps : Stmt := top 27
def d_look_steps : He.DefD := ⟨("look_steps", none), "look_steps", "look_steps", defArgs s_look_steps, defBody s_look_steps, defScope s_look_steps, [], []⟩
abbrev s_Lattice__init : Stmt := inClass (top 28) 0
def d_Lattice__init : He.DefD := ⟨("Lattice", some "__init__"), "__init__", "Lattice.__init__", defArgs s_Lattice__init, defBody s_Lattice__init, defScope s_Lattice__init, [], []⟩
abbrev s_law_web : Stmt := top 47
def d_law_web : He.DefD := ⟨("_law_web", none), "_law_web", "_law_web", defArgs s_law_web, defBody s_law_web, defScope s_law_web, [], []⟩
abbrev s_law_same : Stmt := top 33
def d_law_same : He.DefD := ⟨("_law_same", none), "_law_same", "_law_same", defArgs s_law_same, defBody s_law_same, defScope s_law_same, [], []⟩
abbrev s_law : Stmt := top 52
def d_law : He.DefD := ⟨("law", none), "law", "law", defArgs s_law, defBody s_law, defScope s_law, [], []⟩
def fn : List He.DefD := [d_law_box, d_law_common, d_law_low, d_law_take, d_law_above, d_law_sum, d_law_rows_between, d_law_one, d_law_under, d_law_steps_between, d_law_product, d_law_less_by, d_law_share_of, d_law_fair, d_law_loose, d_law_bent, d_law_copy_web, d_law_shape_good, d_law_first_bad, d_law_why, d_BadShape__init, d_look_shape, d_BadRate__init, d_BadPrice__init, d_look_above, d_less, d_BadStep__init, d_look_steps, d_Lattice__init, d_law_web, d_law_same, d_law]
section
variable {g : Gw}
/-! ### _law_box -/
abbrev N_law_box : List Str := ["_law_script"]
theorem sc_law_box : FnScope N_law_box ["_law_script"] (defScope s_law_box) := ⟨rfl, rfl, rfl, by decide +kernel, rfl, by decide +kernel, by decide +kernel⟩
theorem sb_law_box (T : Fx fa fn g) {f : Addr} {cd : Value} {A : Around} {outer : List Env} {s : Shared} {H : Hp} {E : XK} (hr : Room 0 (A.deeper (envOfC "_law_box" (defScope s_law_box) s.heap.objs.size f cd))) :
    SimB (cxg g N_law_box "_law_box" (defScope s_law_box) f cd A outer s H E) m_law_box (defBody s_law_box) :=
  (b_one (s_ret (s_lst (s_cons (s_callTy (c_list) rfl (T.free 1) (by decide +kernel) (s_cons (s_slice o_sl (s_var (pe_var (i := 0) rfl (.inl rfl))) s_onone (s_osome s_int)) s_nil)) (s_cons s_int (s_cons s_int (s_cons (s_bin o_add s_int (s_bin o_mul s_int (s_callB (c_len) rfl (T.free 0) (by decide +kernel) (s_cons (s_slice o_sl (s_var (pe_var (i := 0) rfl (.inl rfl))) s_onone (s_osome s_int)) s_nil)))) s_nil)))))))
theorem ok_law_box (T : Fx fa fn g) : ∃ fd, FunD g.K "_law_box" "_law_box" (defArgs s_law_box) (defBody s_law_box) (defScope s_law_box) [] [] (He.fAd g.K d_law_box.at_) fd ∧ DefOkG g 1 (He.fAd g.K d_law_box.at_) fd ["_law_script"] F_law_box := by
  obtain ⟨fd, F⟩ := T.c.def_ 0 (d := d_law_box) rfl
  exact ⟨fd, F, def_ok F sc_law_box rfl fun cd A outer s H E hr => sb_law_box T hr⟩
theorem call_law_box (T : Fx fa fn g) : CallOk g 1 "_law_box" [] F_law_box := by
  obtain ⟨fd, F, D⟩ := ok_law_box T
  exact call_of D F (T.glo 2) (F.bindsN fun _ _ _ _ _ _ us hl => match us, hl with | [_], _ => rfl)
/-! ### _law_common -/
abbrev N_law_common : List Str := ["_law_one_here", "_law_other"]
theorem sc_law_common : FnScope N_law_common ["_law_one_here", "_law_other"] (defScope s_law_common) := ⟨rfl, rfl, rfl, by decide +kernel, rfl, by decide +kernel, by decide +kernel⟩
theorem sb_law_common (T : Fx fa fn g) {f : Addr} {cd : Value} {A : Around} {outer : List Env} {s : Shared} {H : Hp} {E : XK} (hr : Room 0 (A.deeper (envOfC "_law_common" (defScope s_law_common) s.heap.objs.size f cd))) :
    SimB (cxg g N_law_common "_law_common" (defScope s_law_common) f cd A outer s H E) m_law_common (defBody s_law_common) :=
  (b_cons (s_par (i := 0) (j := 1) rfl sc_law_common.nd rfl rfl (by decide) rfl rfl (s_cons (s_callB (c_abs) rfl (T.free 4) (by decide +kernel) (s_cons (s_var (pe_var (i := 0) rfl (.inl rfl))) s_nil)) (s_cons (s_callB (c_abs) rfl (T.free 4) (by decide +kernel) (s_cons (s_var (pe_var (i := 1) rfl (.inl rfl))) s_nil)) s_nil)) (by rfl))
  (b_cons (s_while (n := 1000000000000000000000000000000) (passes_of rfl) (s_cmpT o_gt (s_var (pe_var (i := 1) rfl (.inl rfl))) s_int (nomark _)) (b_one (s_par (i := 0) (j := 1) rfl sc_law_common.nd rfl rfl (by decide) rfl rfl (s_cons (s_var (pe_var (i := 1) rfl (.inl rfl))) (s_cons (s_bin o_mod (s_var (pe_var (i := 0) rfl (.inl rfl))) (s_var (pe_var (i := 1) rfl (.inl rfl)))) s_nil)) (by rfl))))
  (b_one (s_ret (s_var (pe_var (i := 0) rfl (.inl rfl)))))))
theorem ok_law_common (T : Fx fa fn g) : ∃ fd, FunD g.K "_law_common" "_law_common" (defArgs s_law_common) (defBody s_law_common) (defScope s_law_common) [] [] (He.fAd g.K d_law_common.at_) fd ∧ DefOkG g 1 (He.fAd g.K d_law_common.at_) fd ["_law_one_here", "_law_other"] F_law_common := by
  obtain ⟨fd, F⟩ := T.c.def_ 1 (d := d_law_common) rfl
  exact ⟨fd, F, def_ok F sc_law_common rfl fun cd A outer s H E hr => sb_law_common T hr⟩
theorem call_law_common (T : Fx fa fn g) : CallOk g 1 "_law_common" [] F_law_common := by
  obtain ⟨fd, F, D⟩ := ok_law_common T
  exact call_of D F (T.glo 5) (F.bindsN fun _ _ _ _ _ _ us hl => match us, hl with | [_, _], _ => rfl)
/-! ### _law_low -/
abbrev N_law_low : List Str := ["_law_num", "_law_den", "_law_part_of"]
theorem sc_law_low : FnScope N_law_low ["_law_num", "_law_den"] (defScope s_law_low) := ⟨rfl, rfl, rfl, by decide +kernel, rfl, by decide +kernel, by decide +kernel⟩
theorem sb_law_low (T : Fx fa fn g) {f : Addr} {cd : Value} {A : Around} {outer : List Env} {s : Shared} {H : Hp} {E : XK} (hr : Room 1 (A.deeper (envOfC "_law_low" (defScope s_law_low) s.heap.objs.size f cd))) :
    SimB (cxg g N_law_low "_law_low" (defScope s_law_low) f cd A outer s H E) m_law_low (defBody s_law_low) :=
  (b_cons (s_set (i := 2) sc_law_low.nd rfl (.inl rfl) (s_call (call_law_common T) (hr.mono (by decide)) rfl (s_cons (s_var (pe_var (i := 0) rfl (.inl rfl))) (s_cons (s_var (pe_var (i := 1) rfl (.inl rfl))) s_nil))))
  (b_one (s_ret (s_tup (s_cons (s_bin o_fdiv (s_var (pe_var (i := 0) rfl (.inl rfl))) (s_var (pe_var (i := 2) rfl (.inl rfl)))) (s_cons (s_bin o_fdiv (s_var (pe_var (i := 1) rfl (.inl rfl))) (s_var (pe_var (i := 2) rfl (.inl rfl)))) s_nil))))))
theorem ok_law_low (T : Fx fa fn g) : ∃ fd, FunD g.K "_law_low" "_law_low" (defArgs s_law_low) (defBody s_law_low) (defScope s_law_low) [] [] (He.fAd g.K d_law_low.at_) fd ∧ DefOkG g 2 (He.fAd g.K d_law_low.at_) fd ["_law_num", "_law_den"] F_law_low := by
  obtain ⟨fd, F⟩ := T.c.def_ 2 (d := d_law_low) rfl
  exact ⟨fd, F, def_ok F sc_law_low rfl fun cd A outer s H E hr => sb_law_low T hr⟩
theorem call_law_low (T : Fx fa fn g) : CallOk g 2 "_law_low" [] F_law_low := by
  obtain ⟨fd, F, D⟩ := ok_law_low T
  exact call_of D F (T.glo 6) (F.bindsN fun _ _ _ _ _ _ us hl => match us, hl with | [_, _], _ => rfl)
/-! ### _law_take -/
abbrev N_law_take : List Str := ["_law_box_here", "_law_many", "_law_cell", "_law_seed", "_law_got"]
theorem sc_law_take : FnScope N_law_take ["_law_box_here", "_law_many"] (defScope s_law_take) := ⟨rfl, rfl, rfl, by decide +kernel, rfl, by decide +kernel, by decide +kernel⟩
theorem sb_law_take (T : Fx fa fn g) {f : Addr} {cd : Value} {A : Around} {outer : List Env} {s : Shared} {H : Hp} {E : XK} (hr : Room 0 (A.deeper (envOfC "_law_take" (defScope s_law_take) s.heap.objs.size f cd))) :
    SimB (cxg g N_law_take "_law_take" (defScope s_law_take) f cd A outer s H E) m_law_take (defBody s_law_take) :=
  (b_cons (s_ifS (s_pw (s_andW (s_cmpT (o_eq (room_u hr)) (s_ix (o_ix (room_u hr)) (s_var (pe_var (i := 0) rfl (.inl rfl))) s_int (fun _ _ => rfl)) s_int (nomark _)) (s_and1 (s_cmpT o_lt (s_ix (o_ix (room_u hr)) (s_var (pe_var (i := 0) rfl (.inl rfl))) s_int (fun _ _ => rfl)) (s_callB (c_len) rfl (T.free 0) (by decide +kernel) (s_cons (s_ix (o_ix (room_u hr)) (s_var (pe_var (i := 0) rfl (.inl rfl))) s_int (fun _ _ => rfl)) s_nil)) (nomark _))))) (b_cons (s_set (i := 2) sc_law_take.nd rfl (.inl rfl) (s_ix (o_ix (room_u hr)) (s_ix (o_ix (room_u hr)) (s_var (pe_var (i := 0) rfl (.inl rfl))) s_int (fun _ _ => rfl)) (s_ix (o_ix (room_u hr)) (s_var (pe_var (i := 0) rfl (.inl rfl))) s_int (fun _ _ => rfl)) (fun _ _ => rfl)))
  (b_cons (s_store (o_put (room_u hr)) (s_bin o_add (s_ix (o_ix (room_u hr)) (s_var (pe_var (i := 0) rfl (.inl rfl))) s_int (fun _ _ => rfl)) s_int) (s_var (pe_var (i := 0) rfl (.inl rfl))) s_int)
  (b_one (s_ifS (s_cmpT o_ge (s_var (pe_var (i := 2) rfl (.inl rfl))) (s_bin o_pow s_int s_int) (nomark _)) (b_one (s_store (o_put (room_u hr)) (s_var (pe_var (i := 2) rfl (.inl rfl))) (s_var (pe_var (i := 0) rfl (.inl rfl))) s_int)) (b_cons (s_set (i := 3) sc_law_take.nd rfl (.inl rfl) (s_bin o_add (s_bin o_mul (s_ix (o_ix (room_u hr)) (s_var (pe_var (i := 0) rfl (.inl rfl))) s_int (fun _ _ => rfl)) s_int) (s_bin o_mul (s_ix (o_ix (room_u hr)) (s_var (pe_var (i := 0) rfl (.inl rfl))) s_int (fun _ _ => rfl)) s_int)))
  (b_one (s_store (o_put (room_u hr)) (s_bin o_mod (s_bin o_add (s_var (pe_var (i := 3) rfl (.inl rfl))) (s_bin o_mul (s_bin o_mod (s_var (pe_var (i := 2) rfl (.inl rfl))) s_int) s_int)) s_int) (s_var (pe_var (i := 0) rfl (.inl rfl))) s_int))))))) b_nil)
  (b_cons (s_ifS (s_cmpT o_gt (s_ix (o_ix (room_u hr)) (s_var (pe_var (i := 0) rfl (.inl rfl))) s_int (fun _ _ => rfl)) s_int (nomark _)) (b_cons (s_set (i := 4) sc_law_take.nd rfl (.inl rfl) (s_bin o_mod (s_ix (o_ix (room_u hr)) (s_var (pe_var (i := 0) rfl (.inl rfl))) s_int (fun _ _ => rfl)) (s_var (pe_var (i := 1) rfl (.inl rfl)))))
  (b_cons (s_store (o_put (room_u hr)) (s_bin o_fdiv (s_ix (o_ix (room_u hr)) (s_var (pe_var (i := 0) rfl (.inl rfl))) s_int (fun _ _ => rfl)) (s_var (pe_var (i := 1) rfl (.inl rfl)))) (s_var (pe_var (i := 0) rfl (.inl rfl))) s_int)
  (b_one (s_ret (s_var (pe_var (i := 4) rfl (.inl rfl))))))) b_nil)
  (b_cons (s_set (i := 3) sc_law_take.nd rfl (.inl rfl) (s_bin o_add (s_bin o_add (s_bin o_mul (s_ix (o_ix (room_u hr)) (s_var (pe_var (i := 0) rfl (.inl rfl))) s_int (fun _ _ => rfl)) (s_ix (o_ix (room_u hr)) (s_var (pe_var (i := 0) rfl (.inl rfl))) s_int (fun _ _ => rfl))) (s_bin o_mul (s_ix (o_ix (room_u hr)) (s_var (pe_var (i := 0) rfl (.inl rfl))) s_int (fun _ _ => rfl)) s_int)) s_int))
  (b_cons (s_store (o_put (room_u hr)) (s_bin o_mod (s_bin o_add (s_var (pe_var (i := 3) rfl (.inl rfl))) (s_bin o_mul (s_ix (o_ix (room_u hr)) (s_var (pe_var (i := 0) rfl (.inl rfl))) s_int (fun _ _ => rfl)) s_int)) s_int) (s_var (pe_var (i := 0) rfl (.inl rfl))) s_int)
  (b_one (s_ret (s_bin o_mod (s_bin o_add (s_bin o_fdiv (s_ix (o_ix (room_u hr)) (s_var (pe_var (i := 0) rfl (.inl rfl))) s_int (fun _ _ => rfl)) s_int) (s_bin o_mul (s_bin o_mod (s_ix (o_ix (room_u hr)) (s_var (pe_var (i := 0) rfl (.inl rfl))) s_int (fun _ _ => rfl)) s_int) s_int)) (s_var (pe_var (i := 1) rfl (.inl rfl))))))))))
theorem ok_law_take (T : Fx fa fn g) : ∃ fd, FunD g.K "_law_take" "_law_take" (defArgs s_law_take) (defBody s_law_take) (defScope s_law_take) [] [] (He.fAd g.K d_law_take.at_) fd ∧ DefOkG g 1 (He.fAd g.K d_law_take.at_) fd ["_law_box_here", "_law_many"] F_law_take := by
  obtain ⟨fd, F⟩ := T.c.def_ 3 (d := d_law_take) rfl
  exact ⟨fd, F, def_ok F sc_law_take rfl fun cd A outer s H E hr => sb_law_take T hr⟩
theorem call_law_take (T : Fx fa fn g) : CallOk g 1 "_law_take" [] F_law_take := by
  obtain ⟨fd, F, D⟩ := ok_law_take T
  exact call_of D F (T.glo 7) (F.bindsN fun _ _ _ _ _ _ us hl => match us, hl with | [_, _], _ => rfl)
/-! ### _law_above -/
abbrev N_law_above : List Str := ["_law_box_here", "_law_far"]
theorem sc_law_above : FnScope N_law_above ["_law_box_here", "_law_far"] (defScope s_law_above) := ⟨rfl, rfl, rfl, by decide +kernel, rfl, by decide +kernel, by decide +kernel⟩
theorem sb_law_above (T : Fx fa fn g) {f : Addr} {cd : Value} {A : Around} {outer : List Env} {s : Shared} {H : Hp} {E : XK} (hr : Room 2 (A.deeper (envOfC "_law_above" (defScope s_law_above) s.heap.objs.size f cd))) :
    SimB (cxg g N_law_above "_law_above" (defScope s_law_above) f cd A outer s H E) m_law_above (defBody s_law_above) :=
  (b_one (s_ret (s_call (call_law_low T) (hr.mono (by decide)) rfl (s_cons (s_bin o_add s_int (s_call (call_law_take T) (hr.mono (by decide)) rfl (s_cons (s_var (pe_var (i := 0) rfl (.inl rfl))) (s_cons (s_var (pe_var (i := 1) rfl (.inl rfl))) s_nil)))) (s_cons (s_ix (o_ix (room_u hr)) (s_lst (s_cons s_int (s_cons s_int (s_cons s_int (s_cons s_int (s_cons s_int (s_cons (s_bin o_add s_int (s_call (call_law_take T) (hr.mono (by decide)) rfl (s_cons (s_var (pe_var (i := 0) rfl (.inl rfl))) (s_cons s_int s_nil)))) s_nil))))))) (s_call (call_law_take T) (hr.mono (by decide)) rfl (s_cons (s_var (pe_var (i := 0) rfl (.inl rfl))) (s_cons s_int s_nil))) (fun _ _ => rfl)) s_nil)))))
theorem ok_law_above (T : Fx fa fn g) : ∃ fd, FunD g.K "_law_above" "_law_above" (defArgs s_law_above) (defBody s_law_above) (defScope s_law_above) [] [] (He.fAd g.K d_law_above.at_) fd ∧ DefOkG g 3 (He.fAd g.K d_law_above.at_) fd ["_law_box_here", "_law_far"] F_law_above := by
  obtain ⟨fd, F⟩ := T.c.def_ 4 (d := d_law_above) rfl
  exact ⟨fd, F, def_ok F sc_law_above rfl fun cd A outer s H E hr => sb_law_above T hr⟩
theorem call_law_above (T : Fx fa fn g) : CallOk g 3 "_law_above" [] F_law_above := by
  obtain ⟨fd, F, D⟩ := ok_law_above T
  exact call_of D F (T.glo 8) (F.bindsN fun _ _ _ _ _ _ us hl => match us, hl with | [_, _], _ => rfl)
/-! ### _law_sum -/
abbrev N_law_sum : List Str := ["_law_one_here", "_law_other"]
theorem sc_law_sum : FnScope N_law_sum ["_law_one_here", "_law_other"] (defScope s_law_sum) := ⟨rfl, rfl, rfl, by decide +kernel, rfl, by decide +kernel, by decide +kernel⟩
theorem sb_law_sum (T : Fx fa fn g) {f : Addr} {cd : Value} {A : Around} {outer : List Env} {s : Shared} {H : Hp} {E : XK} (hr : Room 2 (A.deeper (envOfC "_law_sum" (defScope s_law_sum) s.heap.objs.size f cd))) :
    SimB (cxg g N_law_sum "_law_sum" (defScope s_law_sum) f cd A outer s H E) m_law_sum (defBody s_law_sum) :=
  (b_one (s_ret (s_call (call_law_low T) (hr.mono (by decide)) rfl (s_cons (s_bin o_add (s_bin o_mul (s_ix (o_ix (room_u hr)) (s_var (pe_var (i := 0) rfl (.inl rfl))) s_int (fun _ _ => rfl)) (s_ix (o_ix (room_u hr)) (s_var (pe_var (i := 1) rfl (.inl rfl))) s_int (fun _ _ => rfl))) (s_bin o_mul (s_ix (o_ix (room_u hr)) (s_var (pe_var (i := 1) rfl (.inl rfl))) s_int (fun _ _ => rfl)) (s_ix (o_ix (room_u hr)) (s_var (pe_var (i := 0) rfl (.inl rfl))) s_int (fun _ _ => rfl)))) (s_cons (s_bin o_mul (s_ix (o_ix (room_u hr)) (s_var (pe_var (i := 0) rfl (.inl rfl))) s_int (fun _ _ => rfl)) (s_ix (o_ix (room_u hr)) (s_var (pe_var (i := 1) rfl (.inl rfl))) s_int (fun _ _ => rfl))) s_nil)))))
theorem ok_law_sum (T : Fx fa fn g) : ∃ fd, FunD g.K "_law_sum" "_law_sum" (defArgs s_law_sum) (defBody s_law_sum) (defScope s_law_sum) [] [] (He.fAd g.K d_law_sum.at_) fd ∧ DefOkG g 3 (He.fAd g.K d_law_sum.at_) fd ["_law_one_here", "_law_other"] F_law_sum := by
  obtain ⟨fd, F⟩ := T.c.def_ 5 (d := d_law_sum) rfl
  exact ⟨fd, F, def_ok F sc_law_sum rfl fun cd A outer s H E hr => sb_law_sum T hr⟩
theorem call_law_sum (T : Fx fa fn g) : CallOk g 3 "_law_sum" [] F_law_sum := by
  obtain ⟨fd, F, D⟩ := ok_law_sum T
  exact call_of D F (T.glo 10) (F.bindsN fun _ _ _ _ _ _ us hl => match us, hl with | [_, _], _ => rfl)
/-! ### _law_rows_between -/
abbrev N_law_rows_between : List Str := ["_law_box_here", "_law_dates", "_law_most", "_law_prices", "_law_date", "_law_row", "_law_k", "_law_price"]
theorem sc_law_rows_between : FnScope N_law_rows_between ["_law_box_here", "_law_dates", "_law_most"] (defScope s_law_rows_between) := ⟨rfl, rfl, rfl, by decide +kernel, rfl, by decide +kernel, by decide +kernel⟩
theorem sb_law_rows_between (T : Fx fa fn g) {f : Addr} {cd : Value} {A : Around} {outer : List Env} {s : Shared} {H : Hp} {E : XK} (hr : Room 3 (A.deeper (envOfC "_law_rows_between" (defScope s_law_rows_between) s.heap.objs.size f cd))) :
    SimB (cxg g N_law_rows_between "_law_rows_between" (defScope s_law_rows_between) f cd A outer s H E) m_law_rows_between (defBody s_law_rows_between) :=
  (b_cons (s_set (i := 3) sc_law_rows_between.nd rfl (.inl rfl) (s_lst (s_cons (s_lst (s_cons (s_call (call_law_above T) (hr.mono (by decide)) rfl (s_cons (s_var (pe_var (i := 0) rfl (.inl rfl))) (s_cons s_int s_nil))) s_nil)) s_nil)))
  (b_cons (s_for (passes_of rfl) rfl (s_rng2 rfl (T.free 3) (s_cons s_int (s_cons (s_var (pe_var (i := 1) rfl (.inl rfl))) s_nil))) (g_nm (pg_name (i := 4) sc_law_rows_between.nd rfl (.inl rfl))) (b_cons (s_set (i := 5) sc_law_rows_between.nd rfl (.inl rfl) (s_lst s_nil))
  (b_cons (s_for (passes_of rfl) rfl (s_rng1 rfl (T.free 3) (s_cons (s_bin o_add s_int (s_call (call_law_take T) (hr.mono (by decide)) rfl (s_cons (s_var (pe_var (i := 0) rfl (.inl rfl))) (s_cons (s_bin o_sub (s_var (pe_var (i := 2) rfl (.inl rfl))) s_int) s_nil)))) s_nil)) (g_nm (pg_name (i := 6) sc_law_rows_between.nd rfl (.inl rfl))) (b_cons (s_set (i := 7) sc_law_rows_between.nd rfl (.inl rfl) (s_call (call_law_above T) (hr.mono (by decide)) rfl (s_cons (s_var (pe_var (i := 0) rfl (.inl rfl))) (s_cons s_int s_nil))))
  (b_one (s_ifS (s_pw (s_orW (s_cmpT (o_eq (room_u hr)) (s_var (pe_var (i := 5) rfl (.inl rfl))) (s_lst s_nil) (nomark _)) (s_orW (s_cmpT (o_notin (room_u hr)) (s_var (pe_var (i := 7) rfl (.inl rfl))) (s_var (pe_var (i := 5) rfl (.inl rfl))) (by rfl)) (s_or1 (s_cmpT (o_eq (room_u hr)) (s_call (call_law_take T) (hr.mono (by decide)) rfl (s_cons (s_var (pe_var (i := 0) rfl (.inl rfl))) (s_cons s_int s_nil))) s_int (nomark _)))))) (b_one (s_ex (s_meth PySem.F.plainAttrs_list PySem.F.slot_list_append PySem.type_list_append m_app (s_var (pe_var (i := 5) rfl (.inl rfl))) (s_cons (s_var (pe_var (i := 7) rfl (.inl rfl))) s_nil)))) b_nil))))
  (b_cons (s_ifS (s_cmpT o_lt (s_lenset rfl (room_u hr) rfl (T.free 0) rfl (T.free 9) (s_var (pe_var (i := 5) rfl (.inl rfl)))) s_int (nomark _)) (b_one (s_set (i := 5) sc_law_rows_between.nd rfl (.inl rfl) (s_bin o_add (s_slice o_sl (s_var (pe_var (i := 5) rfl (.inl rfl))) s_onone (s_osome s_int)) (s_lst (s_cons (s_call (call_law_sum T) (hr.mono (by decide)) rfl (s_cons (s_ix (o_ix (room_u hr)) (s_var (pe_var (i := 5) rfl (.inl rfl))) s_int (fun _ _ => rfl)) (s_cons (s_tup (s_cons (s_bin o_add s_int (s_call (call_law_take T) (hr.mono (by decide)) rfl (s_cons (s_var (pe_var (i := 0) rfl (.inl rfl))) (s_cons s_int s_nil)))) (s_cons s_int s_nil))) s_nil))) s_nil))))) b_nil)
  (b_one (s_ex (s_meth PySem.F.plainAttrs_list PySem.F.slot_list_append PySem.type_list_append m_app (s_var (pe_var (i := 3) rfl (.inl rfl))) (s_cons (s_var (pe_var (i := 5) rfl (.inl rfl))) s_nil))))))))
  (b_one (s_ret (s_var (pe_var (i := 3) rfl (.inl rfl)))))))
theorem ok_law_rows_between (T : Fx fa fn g) : ∃ fd, FunD g.K "_law_rows_between" "_law_rows_between" (defArgs s_law_rows_between) (defBody s_law_rows_between) (defScope s_law_rows_between) [] [] (He.fAd g.K d_law_rows_between.at_) fd ∧ DefOkG g 4 (He.fAd g.K d_law_rows_between.at_) fd ["_law_box_here", "_law_dates", "_law_most"] F_law_rows_between := by
  obtain ⟨fd, F⟩ := T.c.def_ 6 (d := d_law_rows_between) rfl
  exact ⟨fd, F, def_ok F sc_law_rows_between rfl fun cd A outer s H E hr => sb_law_rows_between T hr⟩
theorem call_law_rows_between (T : Fx fa fn g) : CallOk g 4 "_law_rows_between" [] F_law_rows_between := by
  obtain ⟨fd, F, D⟩ := ok_law_rows_between T
  exact call_of D F (T.glo 11) (F.bindsN fun _ _ _ _ _ _ us hl => match us, hl with | [_, _, _], _ => rfl)
/-! ### _law_one -/
abbrev N_law_one : List Str := ["_law_box_here", "_law_some"]
theorem sc_law_one : FnScope N_law_one ["_law_box_here", "_law_some"] (defScope s_law_one) := ⟨rfl, rfl, rfl, by decide +kernel, rfl, by decide +kernel, by decide +kernel⟩
theorem sb_law_one (T : Fx fa fn g) {f : Addr} {cd : Value} {A : Around} {outer : List Env} {s : Shared} {H : Hp} {E : XK} (hr : Room 1 (A.deeper (envOfC "_law_one" (defScope s_law_one) s.heap.objs.size f cd))) :
    SimB (cxg g N_law_one "_law_one" (defScope s_law_one) f cd A outer s H E) m_law_one (defBody s_law_one) :=
  (b_one (s_ret (s_ix (o_ix (room_u hr)) (s_var (pe_var (i := 1) rfl (.inl rfl))) (s_call (call_law_take T) (hr.mono (by decide)) rfl (s_cons (s_var (pe_var (i := 0) rfl (.inl rfl))) (s_cons (s_callB (c_len) rfl (T.free 0) (by decide +kernel) (s_cons (s_var (pe_var (i := 1) rfl (.inl rfl))) s_nil)) s_nil))) (fun _ _ => rfl))))
theorem ok_law_one (T : Fx fa fn g) : ∃ fd, FunD g.K "_law_one" "_law_one" (defArgs s_law_one) (defBody s_law_one) (defScope s_law_one) [] [] (He.fAd g.K d_law_one.at_) fd ∧ DefOkG g 2 (He.fAd g.K d_law_one.at_) fd ["_law_box_here", "_law_some"] F_law_one := by
  obtain ⟨fd, F⟩ := T.c.def_ 7 (d := d_law_one) rfl
  exact ⟨fd, F, def_ok F sc_law_one rfl fun cd A outer s H E hr => sb_law_one T hr⟩
theorem call_law_one (T : Fx fa fn g) : CallOk g 2 "_law_one" [] F_law_one := by
  obtain ⟨fd, F, D⟩ := ok_law_one T
  exact call_of D F (T.glo 12) (F.bindsN fun _ _ _ _ _ _ us hl => match us, hl with | [_, _], _ => rfl)
/-! ### _law_under -/
abbrev N_law_under : List Str := ["_law_one_here", "_law_other"]
theorem sc_law_under : FnScope N_law_under ["_law_one_here", "_law_other"] (defScope s_law_under) := ⟨rfl, rfl, rfl, by decide +kernel, rfl, by decide +kernel, by decide +kernel⟩
theorem sb_law_under (T : Fx fa fn g) {f : Addr} {cd : Value} {A : Around} {outer : List Env} {s : Shared} {H : Hp} {E : XK} (hr : Room 0 (A.deeper (envOfC "_law_under" (defScope s_law_under) s.heap.objs.size f cd))) :
    SimB (cxg g N_law_under "_law_under" (defScope s_law_under) f cd A outer s H E) m_law_under (defBody s_law_under) :=
  (b_one (s_ret (s_cmp o_lt (s_bin o_mul (s_ix (o_ix (room_u hr)) (s_var (pe_var (i := 0) rfl (.inl rfl))) s_int (fun _ _ => rfl)) (s_ix (o_ix (room_u hr)) (s_var (pe_var (i := 1) rfl (.inl rfl))) s_int (fun _ _ => rfl))) (s_bin o_mul (s_ix (o_ix (room_u hr)) (s_var (pe_var (i := 1) rfl (.inl rfl))) s_int (fun _ _ => rfl)) (s_ix (o_ix (room_u hr)) (s_var (pe_var (i := 0) rfl (.inl rfl))) s_int (fun _ _ => rfl))) (nomark _))))
theorem ok_law_under (T : Fx fa fn g) : ∃ fd, FunD g.K "_law_under" "_law_under" (defArgs s_law_under) (defBody s_law_under) (defScope s_law_under) [] [] (He.fAd g.K d_law_under.at_) fd ∧ DefOkG g 1 (He.fAd g.K d_law_under.at_) fd ["_law_one_here", "_law_other"] F_law_under := by
  obtain ⟨fd, F⟩ := T.c.def_ 8 (d := d_law_under) rfl
  exact ⟨fd, F, def_ok F sc_law_under rfl fun cd A outer s H E hr => sb_law_under T hr⟩
theorem call_law_under (T : Fx fa fn g) : CallOk g 1 "_law_under" [] F_law_under := by
  obtain ⟨fd, F, D⟩ := ok_law_under T
  exact call_of D F (T.glo 13) (F.bindsN fun _ _ _ _ _ _ us hl => match us, hl with | [_, _], _ => rfl)
/-! ### _law_steps_between -/
abbrev N_law_steps_between : List Str := ["_law_box_here", "_law_row", "_law_one_here", "_law_other", "_law_k"]
theorem sc_law_steps_between : FnScope N_law_steps_between ["_law_box_here", "_law_row"] (defScope s_law_steps_between) := ⟨rfl, rfl, rfl, by decide +kernel, rfl, by decide +kernel, by decide +kernel⟩
theorem sb_law_steps_between (T : Fx fa fn g) {f : Addr} {cd : Value} {A : Around} {outer : List Env} {s : Shared} {H : Hp} {E : XK} (hr : Room 2 (A.deeper (envOfC "_law_steps_between" (defScope s_law_steps_between) s.heap.objs.size f cd))) :
    SimB (cxg g N_law_steps_between "_law_steps_between" (defScope s_law_steps_between) f cd A outer s H E) m_law_steps_between (defBody s_law_steps_between) :=
  (b_cons (s_set (i := 2) sc_law_steps_between.nd rfl (.inr rfl) (s_call (call_law_take T) (hr.mono (by decide)) rfl (s_cons (s_var (pe_var (i := 0) rfl (.inl rfl))) (s_cons (s_callB (c_len) rfl (T.free 0) (by decide +kernel) (s_cons (s_var (pe_var (i := 1) rfl (.inr (.inl rfl)))) s_nil)) s_nil))))
  (b_cons (s_set (i := 3) sc_law_steps_between.nd rfl (.inl rfl) (s_call (call_law_one T) (hr.mono (by decide)) rfl (s_cons (s_var (pe_var (i := 0) rfl (.inl rfl))) (s_cons (s_lc (own := [("_law_k", 4)]) rfl sc_law_steps_between.nd (by decide) (s_rng1 rfl (T.free 3) (s_cons (s_callB (c_len) rfl (T.free 0) (by decide +kernel) (s_cons (s_var (pe_var (i := 1) rfl (.inr (.inl rfl)))) s_nil)) s_nil)) (blkOk_by (N := N_law_steps_between) (sc := defScope s_law_steps_between) (by decide +kernel)) (fun _ _ _ _ _ => (g_nm (pg_name (i := 4) sc_law_steps_between.nd rfl (.inl rfl)))) (fun _ _ _ _ _ => (s_ifs1 (s_cmpT (o_ne (room_u hr)) (s_ix (o_ix (room_u hr)) (s_var (pe_var (i := 1) rfl (.inr (.inl rfl)))) (s_var (pe_var (i := 4) rfl (.inl rfl))) (fun _ _ => rfl)) (s_ix (o_ix (room_u hr)) (s_var (pe_var (i := 1) rfl (.inr (.inl rfl)))) (s_var (pe_var (i := 2) rfl (.inr (.inl rfl)))) (fun _ _ => rfl)) (nomark _)))) (fun _ _ _ _ _ => (s_var (pe_var (i := 4) rfl (.inl rfl))))) s_nil))))
  (b_one (s_ret (s_if (s_truth (s_call (call_law_under T) (hr.mono (by decide)) rfl (s_cons (s_ix (o_ix (room_u hr)) (s_var (pe_var (i := 1) rfl (.inr (.inl rfl)))) (s_var (pe_var (i := 3) rfl (.inl rfl))) (fun _ _ => rfl)) (s_cons (s_ix (o_ix (room_u hr)) (s_var (pe_var (i := 1) rfl (.inr (.inl rfl)))) (s_var (pe_var (i := 2) rfl (.inr (.inl rfl)))) (fun _ _ => rfl)) s_nil))) (fun _ => rfl)) (s_tup (s_cons (s_var (pe_var (i := 2) rfl (.inr (.inl rfl)))) (s_cons (s_var (pe_var (i := 3) rfl (.inl rfl))) s_nil))) (s_tup (s_cons (s_var (pe_var (i := 3) rfl (.inl rfl))) (s_cons (s_var (pe_var (i := 2) rfl (.inr (.inl rfl)))) s_nil))))))))
theorem ok_law_steps_between (T : Fx fa fn g) : ∃ fd, FunD g.K "_law_steps_between" "_law_steps_between" (defArgs s_law_steps_between) (defBody s_law_steps_between) (defScope s_law_steps_between) [] [] (He.fAd g.K d_law_steps_between.at_) fd ∧ DefOkG g 3 (He.fAd g.K d_law_steps_between.at_) fd ["_law_box_here", "_law_row"] F_law_steps_between := by
  obtain ⟨fd, F⟩ := T.c.def_ 9 (d := d_law_steps_between) rfl
  exact ⟨fd, F, def_ok F sc_law_steps_between rfl fun cd A outer s H E hr => sb_law_steps_between T hr⟩
theorem call_law_steps_between (T : Fx fa fn g) : CallOk g 3 "_law_steps_between" [] F_law_steps_between := by
  obtain ⟨fd, F, D⟩ := ok_law_steps_between T
  exact call_of D F (T.glo 14) (F.bindsN fun _ _ _ _ _ _ us hl => match us, hl with | [_, _], _ => rfl)
/-! ### _law_product -/
abbrev N_law_product : List Str := ["_law_one_here", "_law_other"]
theorem sc_law_product : FnScope N_law_product ["_law_one_here", "_law_other"] (defScope s_law_product) := ⟨rfl, rfl, rfl, by decide +kernel, rfl, by decide +kernel, by decide +kernel⟩
theorem sb_law_product (T : Fx fa fn g) {f : Addr} {cd : Value} {A : Around} {outer : List Env} {s : Shared} {H : Hp} {E : XK} (hr : Room 2 (A.deeper (envOfC "_law_product" (defScope s_law_product) s.heap.objs.size f cd))) :
    SimB (cxg g N_law_product "_law_product" (defScope s_law_product) f cd A outer s H E) m_law_product (defBody s_law_product) :=
  (b_one (s_ret (s_call (call_law_low T) (hr.mono (by decide)) rfl (s_cons (s_bin o_mul (s_ix (o_ix (room_u hr)) (s_var (pe_var (i := 0) rfl (.inl rfl))) s_int (fun _ _ => rfl)) (s_ix (o_ix (room_u hr)) (s_var (pe_var (i := 1) rfl (.inl rfl))) s_int (fun _ _ => rfl))) (s_cons (s_bin o_mul (s_ix (o_ix (room_u hr)) (s_var (pe_var (i := 0) rfl (.inl rfl))) s_int (fun _ _ => rfl)) (s_ix (o_ix (room_u hr)) (s_var (pe_var (i := 1) rfl (.inl rfl))) s_int (fun _ _ => rfl))) s_nil)))))
theorem ok_law_product (T : Fx fa fn g) : ∃ fd, FunD g.K "_law_product" "_law_product" (defArgs s_law_product) (defBody s_law_product) (defScope s_law_product) [] [] (He.fAd g.K d_law_product.at_) fd ∧ DefOkG g 3 (He.fAd g.K d_law_product.at_) fd ["_law_one_here", "_law_other"] F_law_product := by
  obtain ⟨fd, F⟩ := T.c.def_ 10 (d := d_law_product) rfl
  exact ⟨fd, F, def_ok F sc_law_product rfl fun cd A outer s H E hr => sb_law_product T hr⟩
theorem call_law_product (T : Fx fa fn g) : CallOk g 3 "_law_product" [] F_law_product := by
  obtain ⟨fd, F, D⟩ := ok_law_product T
  exact call_of D F (T.glo 15) (F.bindsN fun _ _ _ _ _ _ us hl => match us, hl with | [_, _], _ => rfl)
/-! ### _law_less_by -/
abbrev N_law_less_by : List Str := ["_law_one_here", "_law_other"]
theorem sc_law_less_by : FnScope N_law_less_by ["_law_one_here", "_law_other"] (defScope s_law_less_by) := ⟨rfl, rfl, rfl, by decide +kernel, rfl, by decide +kernel, by decide +kernel⟩
theorem sb_law_less_by (T : Fx fa fn g) {f : Addr} {cd : Value} {A : Around} {outer : List Env} {s : Shared} {H : Hp} {E : XK} (hr : Room 2 (A.deeper (envOfC "_law_less_by" (defScope s_law_less_by) s.heap.objs.size f cd))) :
    SimB (cxg g N_law_less_by "_law_less_by" (defScope s_law_less_by) f cd A outer s H E) m_law_less_by (defBody s_law_less_by) :=
  (b_one (s_ret (s_call (call_law_low T) (hr.mono (by decide)) rfl (s_cons (s_bin o_sub (s_bin o_mul (s_ix (o_ix (room_u hr)) (s_var (pe_var (i := 0) rfl (.inl rfl))) s_int (fun _ _ => rfl)) (s_ix (o_ix (room_u hr)) (s_var (pe_var (i := 1) rfl (.inl rfl))) s_int (fun _ _ => rfl))) (s_bin o_mul (s_ix (o_ix (room_u hr)) (s_var (pe_var (i := 1) rfl (.inl rfl))) s_int (fun _ _ => rfl)) (s_ix (o_ix (room_u hr)) (s_var (pe_var (i := 0) rfl (.inl rfl))) s_int (fun _ _ => rfl)))) (s_cons (s_bin o_mul (s_ix (o_ix (room_u hr)) (s_var (pe_var (i := 0) rfl (.inl rfl))) s_int (fun _ _ => rfl)) (s_ix (o_ix (room_u hr)) (s_var (pe_var (i := 1) rfl (.inl rfl))) s_int (fun _ _ => rfl))) s_nil)))))
theorem ok_law_less_by (T : Fx fa fn g) : ∃ fd, FunD g.K "_law_less_by" "_law_less_by" (defArgs s_law_less_by) (defBody s_law_less_by) (defScope s_law_less_by) [] [] (He.fAd g.K d_law_less_by.at_) fd ∧ DefOkG g 3 (He.fAd g.K d_law_less_by.at_) fd ["_law_one_here", "_law_other"] F_law_less_by := by
  obtain ⟨fd, F⟩ := T.c.def_ 11 (d := d_law_less_by) rfl
  exact ⟨fd, F, def_ok F sc_law_less_by rfl fun cd A outer s H E hr => sb_law_less_by T hr⟩
theorem call_law_less_by (T : Fx fa fn g) : CallOk g 3 "_law_less_by" [] F_law_less_by := by
  obtain ⟨fd, F, D⟩ := ok_law_less_by T
  exact call_of D F (T.glo 16) (F.bindsN fun _ _ _ _ _ _ us hl => match us, hl with | [_, _], _ => rfl)
/-! ### _law_share_of -/
abbrev N_law_share_of : List Str := ["_law_one_here", "_law_other"]
theorem sc_law_share_of : FnScope N_law_share_of ["_law_one_here", "_law_other"] (defScope s_law_share_of) := ⟨rfl, rfl, rfl, by decide +kernel, rfl, by decide +kernel, by decide +kernel⟩
theorem sb_law_share_of (T : Fx fa fn g) {f : Addr} {cd : Value} {A : Around} {outer : List Env} {s : Shared} {H : Hp} {E : XK} (hr : Room 2 (A.deeper (envOfC "_law_share_of" (defScope s_law_share_of) s.heap.objs.size f cd))) :
    SimB (cxg g N_law_share_of "_law_share_of" (defScope s_law_share_of) f cd A outer s H E) m_law_share_of (defBody s_law_share_of) :=
  (b_cons (s_ifS (s_cmpT o_lt (s_ix (o_ix (room_u hr)) (s_var (pe_var (i := 1) rfl (.inl rfl))) s_int (fun _ _ => rfl)) s_int (nomark _)) (b_one (s_ret (s_call (call_law_low T) (hr.mono (by decide)) rfl (s_cons (s_bin o_sub s_int (s_bin o_mul (s_ix (o_ix (room_u hr)) (s_var (pe_var (i := 0) rfl (.inl rfl))) s_int (fun _ _ => rfl)) (s_ix (o_ix (room_u hr)) (s_var (pe_var (i := 1) rfl (.inl rfl))) s_int (fun _ _ => rfl)))) (s_cons (s_bin o_sub s_int (s_bin o_mul (s_ix (o_ix (room_u hr)) (s_var (pe_var (i := 0) rfl (.inl rfl))) s_int (fun _ _ => rfl)) (s_ix (o_ix (room_u hr)) (s_var (pe_var (i := 1) rfl (.inl rfl))) s_int (fun _ _ => rfl)))) s_nil))))) b_nil)
  (b_one (s_ret (s_call (call_law_low T) (hr.mono (by decide)) rfl (s_cons (s_bin o_mul (s_ix (o_ix (room_u hr)) (s_var (pe_var (i := 0) rfl (.inl rfl))) s_int (fun _ _ => rfl)) (s_ix (o_ix (room_u hr)) (s_var (pe_var (i := 1) rfl (.inl rfl))) s_int (fun _ _ => rfl))) (s_cons (s_bin o_mul (s_ix (o_ix (room_u hr)) (s_var (pe_var (i := 0) rfl (.inl rfl))) s_int (fun _ _ => rfl)) (s_ix (o_ix (room_u hr)) (s_var (pe_var (i := 1) rfl (.inl rfl))) s_int (fun _ _ => rfl))) s_nil))))))
theorem ok_law_share_of (T : Fx fa fn g) : ∃ fd, FunD g.K "_law_share_of" "_law_share_of" (defArgs s_law_share_of) (defBody s_law_share_of) (defScope s_law_share_of) [] [] (He.fAd g.K d_law_share_of.at_) fd ∧ DefOkG g 3 (He.fAd g.K d_law_share_of.at_) fd ["_law_one_here", "_law_other"] F_law_share_of := by
  obtain ⟨fd, F⟩ := T.c.def_ 12 (d := d_law_share_of) rfl
  exact ⟨fd, F, def_ok F sc_law_share_of rfl fun cd A outer s H E hr => sb_law_share_of T hr⟩
theorem call_law_share_of (T : Fx fa fn g) : CallOk g 3 "_law_share_of" [] F_law_share_of := by
  obtain ⟨fd, F, D⟩ := ok_law_share_of T
  exact call_of D F (T.glo 17) (F.bindsN fun _ _ _ _ _ _ us hl => match us, hl with | [_, _], _ => rfl)
/-! ### _law_fair -/
abbrev N_law_fair : List Str := ["_law_box_here", "_law_dates", "_law_most", "_law_prices", "_law_rates", "_law_steps", "_law_date", "_law_price", "_law_up", "_law_down", "_law_whole", "_law_share", "_law_high", "_law_low_here", "_law_grown"]
theorem sc_law_fair : FnScope N_law_fair ["_law_box_here", "_law_dates", "_law_most"] (defScope s_law_fair) := ⟨rfl, rfl, rfl, by decide +kernel, rfl, by decide +kernel, by decide +kernel⟩
theorem sb_law_fair (T : Fx fa fn g) {f : Addr} {cd : Value} {A : Around} {outer : List Env} {s : Shared} {H : Hp} {E : XK} (hr : Room 4 (A.deeper (envOfC "_law_fair" (defScope s_law_fair) s.heap.objs.size f cd))) :
    SimB (cxg g N_law_fair "_law_fair" (defScope s_law_fair) f cd A outer s H E) m_law_fair (defBody s_law_fair) :=
  (b_cons (s_set (i := 3) sc_law_fair.nd rfl (.inl rfl) (s_call (call_law_rows_between T) (hr.mono (by decide)) rfl (s_cons (s_var (pe_var (i := 0) rfl (.inl rfl))) (s_cons (s_var (pe_var (i := 1) rfl (.inl rfl))) (s_cons (s_var (pe_var (i := 2) rfl (.inl rfl))) s_nil)))))
  (b_cons (s_par (i := 4) (j := 5) rfl sc_law_fair.nd rfl rfl (by decide) rfl rfl (s_cons (s_lst s_nil) (s_cons (s_lst s_nil) s_nil)) (by rfl))
  (b_cons (s_for (passes_of rfl) rfl (s_rng1 rfl (T.free 3) (s_cons (s_bin o_sub (s_var (pe_var (i := 1) rfl (.inl rfl))) s_int) s_nil)) (g_nm (pg_name (i := 6) sc_law_fair.nd rfl (.inl rfl))) (b_cons (s_ex (s_meth PySem.F.plainAttrs_list PySem.F.slot_list_append PySem.type_list_append m_app (s_var (pe_var (i := 4) rfl (.inl rfl))) (s_cons (s_lst s_nil) s_nil)))
  (b_cons (s_ex (s_meth PySem.F.plainAttrs_list PySem.F.slot_list_append PySem.type_list_append m_app (s_var (pe_var (i := 5) rfl (.inl rfl))) (s_cons (s_lst s_nil) s_nil)))
  (b_one (s_for (passes_of rfl) rfl (s_seq (s_ix (o_ix (room_u hr)) (s_var (pe_var (i := 3) rfl (.inl rfl))) (s_var (pe_var (i := 6) rfl (.inl rfl))) (fun _ _ => rfl))) (g_nm (pg_name (i := 7) sc_law_fair.nd rfl (.inl rfl))) (b_cons (s_asg (s_call (call_law_steps_between T) (hr.mono (by decide)) rfl (s_cons (s_var (pe_var (i := 0) rfl (.inl rfl))) (s_cons (s_ix (o_ix (room_u hr)) (s_var (pe_var (i := 3) rfl (.inl rfl))) (s_bin o_add (s_var (pe_var (i := 6) rfl (.inl rfl))) s_int) (fun _ _ => rfl)) s_nil))) (g_tup rfl (gs_cons (g_nm (pg_name (i := 8) sc_law_fair.nd rfl (.inl rfl))) (gs_cons (g_nm (pg_name (i := 9) sc_law_fair.nd rfl (.inl rfl))) gs_nil))))
  (b_cons (s_set (i := 10) sc_law_fair.nd rfl (.inl rfl) (s_bin o_add s_int (s_call (call_law_take T) (hr.mono (by decide)) rfl (s_cons (s_var (pe_var (i := 0) rfl (.inl rfl))) (s_cons s_int s_nil)))))
  (b_cons (s_set (i := 11) sc_law_fair.nd rfl (.inl rfl) (s_tup (s_cons (s_bin o_add s_int (s_call (call_law_take T) (hr.mono (by decide)) rfl (s_cons (s_var (pe_var (i := 0) rfl (.inl rfl))) (s_cons (s_bin o_sub (s_var (pe_var (i := 10) rfl (.inl rfl))) s_int) s_nil)))) (s_cons (s_var (pe_var (i := 10) rfl (.inl rfl))) s_nil))))
  (b_cons (s_par (i := 12) (j := 13) rfl sc_law_fair.nd rfl rfl (by decide) rfl rfl (s_cons (s_ix (o_ix (room_u hr)) (s_ix (o_ix (room_u hr)) (s_var (pe_var (i := 3) rfl (.inl rfl))) (s_bin o_add (s_var (pe_var (i := 6) rfl (.inl rfl))) s_int) (fun _ _ => rfl)) (s_var (pe_var (i := 8) rfl (.inl rfl))) (fun _ _ => rfl)) (s_cons (s_ix (o_ix (room_u hr)) (s_ix (o_ix (room_u hr)) (s_var (pe_var (i := 3) rfl (.inl rfl))) (s_bin o_add (s_var (pe_var (i := 6) rfl (.inl rfl))) s_int) (fun _ _ => rfl)) (s_var (pe_var (i := 9) rfl (.inl rfl))) (fun _ _ => rfl)) s_nil)) (by rfl))
  (b_cons (s_set (i := 14) sc_law_fair.nd rfl (.inl rfl) (s_call (call_law_sum T) (hr.mono (by decide)) rfl (s_cons (s_var (pe_var (i := 13) rfl (.inl rfl))) (s_cons (s_call (call_law_product T) (hr.mono (by decide)) rfl (s_cons (s_var (pe_var (i := 11) rfl (.inl rfl))) (s_cons (s_call (call_law_less_by T) (hr.mono (by decide)) rfl (s_cons (s_var (pe_var (i := 12) rfl (.inl rfl))) (s_cons (s_var (pe_var (i := 13) rfl (.inl rfl))) s_nil))) s_nil))) s_nil))))
  (b_cons (s_ex (s_meth PySem.F.plainAttrs_list PySem.F.slot_list_append PySem.type_list_append m_app (s_ix (o_ix (room_u hr)) (s_var (pe_var (i := 4) rfl (.inl rfl))) (s_var (pe_var (i := 6) rfl (.inl rfl))) (fun _ _ => rfl)) (s_cons (s_call (call_law_share_of T) (hr.mono (by decide)) rfl (s_cons (s_var (pe_var (i := 14) rfl (.inl rfl))) (s_cons (s_var (pe_var (i := 7) rfl (.inl rfl))) s_nil))) s_nil)))
  (b_one (s_ex (s_meth PySem.F.plainAttrs_list PySem.F.slot_list_append PySem.type_list_append m_app (s_ix (o_ix (room_u hr)) (s_var (pe_var (i := 5) rfl (.inl rfl))) (s_var (pe_var (i := 6) rfl (.inl rfl))) (fun _ _ => rfl)) (s_cons (s_tup (s_cons (s_var (pe_var (i := 8) rfl (.inl rfl))) (s_cons (s_var (pe_var (i := 9) rfl (.inl rfl))) s_nil))) s_nil)))))))))))))))
  (b_one (s_ret (s_dic (d_cons s_str (s_var (pe_var (i := 3) rfl (.inl rfl))) (d_cons s_str (s_var (pe_var (i := 4) rfl (.inl rfl))) (d_cons s_str (s_var (pe_var (i := 5) rfl (.inl rfl))) d_nil)))))))))
theorem ok_law_fair (T : Fx fa fn g) : ∃ fd, FunD g.K "_law_fair" "_law_fair" (defArgs s_law_fair) (defBody s_law_fair) (defScope s_law_fair) [] [] (He.fAd g.K d_law_fair.at_) fd ∧ DefOkG g 5 (He.fAd g.K d_law_fair.at_) fd ["_law_box_here", "_law_dates", "_law_most"] F_law_fair := by
  obtain ⟨fd, F⟩ := T.c.def_ 13 (d := d_law_fair) rfl
  exact ⟨fd, F, def_ok F sc_law_fair rfl fun cd A outer s H E hr => sb_law_fair T hr⟩
theorem call_law_fair (T : Fx fa fn g) : CallOk g 5 "_law_fair" [] F_law_fair := by
  obtain ⟨fd, F, D⟩ := ok_law_fair T
  exact call_of D F (T.glo 18) (F.bindsN fun _ _ _ _ _ _ us hl => match us, hl with | [_, _, _], _ => rfl)
/-! ### _law_loose -/
abbrev N_law_loose : List Str := ["_law_box_here", "_law_dates", "_law_most", "_law_found", "_law_date", "_law_k"]
theorem sc_law_loose : FnScope N_law_loose ["_law_box_here", "_law_dates", "_law_most"] (defScope s_law_loose) := ⟨rfl, rfl, rfl, by decide +kernel, rfl, by decide +kernel, by decide +kernel⟩
theorem sb_law_loose (T : Fx fa fn g) {f : Addr} {cd : Value} {A : Around} {outer : List Env} {s : Shared} {H : Hp} {E : XK} (hr : Room 5 (A.deeper (envOfC "_law_loose" (defScope s_law_loose) s.heap.objs.size f cd))) :
    SimB (cxg g N_law_loose "_law_loose" (defScope s_law_loose) f cd A outer s H E) m_law_loose (defBody s_law_loose) :=
  (b_cons (s_set (i := 3) sc_law_loose.nd rfl (.inl rfl) (s_call (call_law_fair T) (hr.mono (by decide)) rfl (s_cons (s_var (pe_var (i := 0) rfl (.inl rfl))) (s_cons (s_var (pe_var (i := 1) rfl (.inl rfl))) (s_cons (s_var (pe_var (i := 2) rfl (.inl rfl))) s_nil)))))
  (b_cons (s_for (passes_of rfl) rfl (s_rng1 rfl (T.free 3) (s_cons (s_bin o_sub (s_var (pe_var (i := 1) rfl (.inl rfl))) s_int) s_nil)) (g_nm (pg_name (i := 4) sc_law_loose.nd rfl (.inl rfl))) (b_one (s_for (passes_of rfl) rfl (s_rng1 rfl (T.free 3) (s_cons (s_callB (c_len) rfl (T.free 0) (by decide +kernel) (s_cons (s_ix (o_ix (room_u hr)) (s_ix (o_ix (room_u hr)) (s_var (pe_var (i := 3) rfl (.inl rfl))) s_str (fun _ _ => rfl)) (s_var (pe_var (i := 4) rfl (.inl rfl))) (fun _ _ => rfl)) s_nil)) s_nil)) (g_nm (pg_name (i := 5) sc_law_loose.nd rfl (.inl rfl))) (b_one (s_ifS (s_cmpT o_gt (s_call (call_law_take T) (hr.mono (by decide)) rfl (s_cons (s_var (pe_var (i := 0) rfl (.inl rfl))) (s_cons s_int s_nil))) s_int (nomark _)) (b_one (s_store (o_put (room_u hr)) (s_call (call_law_above T) (hr.mono (by decide)) rfl (s_cons (s_var (pe_var (i := 0) rfl (.inl rfl))) (s_cons s_int s_nil))) (s_ix (o_ix (room_u hr)) (s_ix (o_ix (room_u hr)) (s_var (pe_var (i := 3) rfl (.inl rfl))) s_str (fun _ _ => rfl)) (s_var (pe_var (i := 4) rfl (.inl rfl))) (fun _ _ => rfl)) (s_var (pe_var (i := 5) rfl (.inl rfl))))) b_nil)))))
  (b_one (s_ret (s_var (pe_var (i := 3) rfl (.inl rfl)))))))
theorem ok_law_loose (T : Fx fa fn g) : ∃ fd, FunD g.K "_law_loose" "_law_loose" (defArgs s_law_loose) (defBody s_law_loose) (defScope s_law_loose) [] [] (He.fAd g.K d_law_loose.at_) fd ∧ DefOkG g 6 (He.fAd g.K d_law_loose.at_) fd ["_law_box_here", "_law_dates", "_law_most"] F_law_loose := by
  obtain ⟨fd, F⟩ := T.c.def_ 14 (d := d_law_loose) rfl
  exact ⟨fd, F, def_ok F sc_law_loose rfl fun cd A outer s H E hr => sb_law_loose T hr⟩
theorem call_law_loose (T : Fx fa fn g) : CallOk g 6 "_law_loose" [] F_law_loose := by
  obtain ⟨fd, F, D⟩ := ok_law_loose T
  exact call_of D F (T.glo 19) (F.bindsN fun _ _ _ _ _ _ us hl => match us, hl with | [_, _, _], _ => rfl)
/-! ### _law_bent -/
abbrev N_law_bent : List Str := ["_law_box_here", "_law_web_here", "_law_kind", "_law_date", "_law_word", "_law_at", "_law_up", "_law_down", "_law_odd"]
theorem sc_law_bent : FnScope N_law_bent ["_law_box_here", "_law_web_here"] (defScope s_law_bent) := ⟨rfl, rfl, rfl, by decide +kernel, rfl, by decide +kernel, by decide +kernel⟩
theorem sb_law_bent (T : Fx fa fn g) {f : Addr} {cd : Value} {A : Around} {outer : List Env} {s : Shared} {H : Hp} {E : XK} (hr : Room 2 (A.deeper (envOfC "_law_bent" (defScope s_law_bent) s.heap.objs.size f cd))) :
    SimB (cxg g N_law_bent "_law_bent" (defScope s_law_bent) f cd A outer s H E) m_law_bent (defBody s_law_bent) :=
  (b_cons (s_set (i := 2) sc_law_bent.nd rfl (.inl rfl) (s_call (call_law_take T) (hr.mono (by decide)) rfl (s_cons (s_var (pe_var (i := 0) rfl (.inl rfl))) (s_cons s_int s_nil))))
  (b_cons (s_set (i := 3) sc_law_bent.nd rfl (.inl rfl) (s_call (call_law_take T) (hr.mono (by decide)) rfl (s_cons (s_var (pe_var (i := 0) rfl (.inl rfl))) (s_cons (s_callB (c_len) rfl (T.free 0) (by decide +kernel) (s_cons (s_ix (o_ix (room_u hr)) (s_var (pe_var (i := 1) rfl (.inl rfl))) s_str (fun _ _ => rfl)) s_nil)) s_nil))))
  (b_one (s_ifS (s_cmpT (o_eq (room_u hr)) (s_var (pe_var (i := 2) rfl (.inl rfl))) s_int (nomark _)) (b_cons (s_set (i := 4) sc_law_bent.nd rfl (.inl rfl) (s_ix (o_ix (room_u hr)) (s_lst (s_cons s_str (s_cons s_str (s_cons s_str s_nil)))) (s_call (call_law_take T) (hr.mono (by decide)) rfl (s_cons (s_var (pe_var (i := 0) rfl (.inl rfl))) (s_cons s_int s_nil))) (fun _ _ => rfl)))
  (b_one (s_store (o_put (room_u hr)) (s_ix (o_ix (room_u hr)) (s_lst (s_cons (s_slice o_sl (s_ix (o_ix (room_u hr)) (s_var (pe_var (i := 1) rfl (.inl rfl))) (s_var (pe_var (i := 4) rfl (.inl rfl))) (fun _ _ => rfl)) s_onone (s_osome (s_un u_neg s_int))) (s_cons (s_bin o_add (s_ix (o_ix (room_u hr)) (s_var (pe_var (i := 1) rfl (.inl rfl))) (s_var (pe_var (i := 4) rfl (.inl rfl))) (fun _ _ => rfl)) (s_slice o_sl (s_ix (o_ix (room_u hr)) (s_var (pe_var (i := 1) rfl (.inl rfl))) (s_var (pe_var (i := 4) rfl (.inl rfl))) (fun _ _ => rfl)) (s_osome (s_un u_neg s_int)) s_onone)) (s_cons (s_lst s_nil) (s_cons (s_bin o_mul (s_ix (o_ix (room_u hr)) (s_var (pe_var (i := 1) rfl (.inl rfl))) (s_var (pe_var (i := 4) rfl (.inl rfl))) (fun _ _ => rfl)) s_int) s_nil))))) (s_call (call_law_take T) (hr.mono (by decide)) rfl (s_cons (s_var (pe_var (i := 0) rfl (.inl rfl))) (s_cons s_int s_nil))) (fun _ _ => rfl)) (s_var (pe_var (i := 1) rfl (.inl rfl))) (s_var (pe_var (i := 4) rfl (.inl rfl)))))) (b_one (s_ifS (s_cmpT (o_eq (room_u hr)) (s_var (pe_var (i := 2) rfl (.inl rfl))) s_int (nomark _)) (b_cons (s_set (i := 4) sc_law_bent.nd rfl (.inl rfl) (s_ix (o_ix (room_u hr)) (s_lst (s_cons s_str (s_cons s_str (s_cons s_str s_nil)))) (s_call (call_law_take T) (hr.mono (by decide)) rfl (s_cons (s_var (pe_var (i := 0) rfl (.inl rfl))) (s_cons s_int s_nil))) (fun _ _ => rfl)))
  (b_one (s_ifS (s_cmpT o_lt (s_var (pe_var (i := 3) rfl (.inl rfl))) (s_callB (c_len) rfl (T.free 0) (by decide +kernel) (s_cons (s_ix (o_ix (room_u hr)) (s_var (pe_var (i := 1) rfl (.inl rfl))) (s_var (pe_var (i := 4) rfl (.inl rfl))) (fun _ _ => rfl)) s_nil)) (nomark _)) (b_one (s_store (o_put (room_u hr)) (s_ix (o_ix (room_u hr)) (s_lst (s_cons (s_slice o_sl (s_ix (o_ix (room_u hr)) (s_ix (o_ix (room_u hr)) (s_var (pe_var (i := 1) rfl (.inl rfl))) (s_var (pe_var (i := 4) rfl (.inl rfl))) (fun _ _ => rfl)) (s_var (pe_var (i := 3) rfl (.inl rfl))) (fun _ _ => rfl)) s_onone (s_osome (s_un u_neg s_int))) (s_cons (s_bin o_add (s_ix (o_ix (room_u hr)) (s_ix (o_ix (room_u hr)) (s_var (pe_var (i := 1) rfl (.inl rfl))) (s_var (pe_var (i := 4) rfl (.inl rfl))) (fun _ _ => rfl)) (s_var (pe_var (i := 3) rfl (.inl rfl))) (fun _ _ => rfl)) (s_slice o_sl (s_ix (o_ix (room_u hr)) (s_ix (o_ix (room_u hr)) (s_var (pe_var (i := 1) rfl (.inl rfl))) (s_var (pe_var (i := 4) rfl (.inl rfl))) (fun _ _ => rfl)) (s_var (pe_var (i := 3) rfl (.inl rfl))) (fun _ _ => rfl)) s_onone (s_osome s_int))) (s_cons (s_bin o_mul (s_ix (o_ix (room_u hr)) (s_ix (o_ix (room_u hr)) (s_var (pe_var (i := 1) rfl (.inl rfl))) (s_var (pe_var (i := 4) rfl (.inl rfl))) (fun _ _ => rfl)) (s_var (pe_var (i := 3) rfl (.inl rfl))) (fun _ _ => rfl)) s_int) s_nil)))) (s_call (call_law_take T) (hr.mono (by decide)) rfl (s_cons (s_var (pe_var (i := 0) rfl (.inl rfl))) (s_cons s_int s_nil))) (fun _ _ => rfl)) (s_ix (o_ix (room_u hr)) (s_var (pe_var (i := 1) rfl (.inl rfl))) (s_var (pe_var (i := 4) rfl (.inl rfl))) (fun _ _ => rfl)) (s_var (pe_var (i := 3) rfl (.inl rfl))))) b_nil))) (b_one (s_ifS (s_cmpT o_lt (s_var (pe_var (i := 2) rfl (.inl rfl))) s_int (nomark _)) (b_cons (s_set (i := 4) sc_law_bent.nd rfl (.inl rfl) (s_ix (o_ix (room_u hr)) (s_lst (s_cons s_str (s_cons s_str s_nil))) (s_bin o_sub (s_var (pe_var (i := 2) rfl (.inl rfl))) s_int) (fun _ _ => rfl)))
  (b_one (s_ifS (s_pw (s_andW (s_cmpT o_lt (s_var (pe_var (i := 3) rfl (.inl rfl))) (s_callB (c_len) rfl (T.free 0) (by decide +kernel) (s_cons (s_ix (o_ix (room_u hr)) (s_var (pe_var (i := 1) rfl (.inl rfl))) (s_var (pe_var (i := 4) rfl (.inl rfl))) (fun _ _ => rfl)) s_nil)) (nomark _)) (s_and1 (s_cmpT (o_ne (room_u hr)) (s_ix (o_ix (room_u hr)) (s_ix (o_ix (room_u hr)) (s_var (pe_var (i := 1) rfl (.inl rfl))) (s_var (pe_var (i := 4) rfl (.inl rfl))) (fun _ _ => rfl)) (s_var (pe_var (i := 3) rfl (.inl rfl))) (fun _ _ => rfl)) (s_lst s_nil) (nomark _))))) (b_cons (s_set (i := 5) sc_law_bent.nd rfl (.inl rfl) (s_call (call_law_take T) (hr.mono (by decide)) rfl (s_cons (s_var (pe_var (i := 0) rfl (.inl rfl))) (s_cons (s_callB (c_len) rfl (T.free 0) (by decide +kernel) (s_cons (s_ix (o_ix (room_u hr)) (s_ix (o_ix (room_u hr)) (s_var (pe_var (i := 1) rfl (.inl rfl))) (s_var (pe_var (i := 4) rfl (.inl rfl))) (fun _ _ => rfl)) (s_var (pe_var (i := 3) rfl (.inl rfl))) (fun _ _ => rfl)) s_nil)) s_nil))))
  (b_one (s_store (o_put (room_u hr)) (s_ix (o_ix (room_u hr)) (s_lst (s_cons (s_tup (s_cons s_int (s_cons s_int s_nil))) (s_cons (s_tup (s_cons (s_un u_neg s_int) (s_cons s_int s_nil))) s_nil))) (s_call (call_law_take T) (hr.mono (by decide)) rfl (s_cons (s_var (pe_var (i := 0) rfl (.inl rfl))) (s_cons s_int s_nil))) (fun _ _ => rfl)) (s_ix (o_ix (room_u hr)) (s_ix (o_ix (room_u hr)) (s_var (pe_var (i := 1) rfl (.inl rfl))) (s_var (pe_var (i := 4) rfl (.inl rfl))) (fun _ _ => rfl)) (s_var (pe_var (i := 3) rfl (.inl rfl))) (fun _ _ => rfl)) (s_var (pe_var (i := 5) rfl (.inl rfl)))))) b_nil))) (b_one (s_ifS (s_pw (s_andW (s_cmpT o_lt (s_var (pe_var (i := 3) rfl (.inl rfl))) (s_callB (c_len) rfl (T.free 0) (by decide +kernel) (s_cons (s_ix (o_ix (room_u hr)) (s_var (pe_var (i := 1) rfl (.inl rfl))) s_str (fun _ _ => rfl)) s_nil)) (nomark _)) (s_and1 (s_cmpT (o_ne (room_u hr)) (s_ix (o_ix (room_u hr)) (s_ix (o_ix (room_u hr)) (s_var (pe_var (i := 1) rfl (.inl rfl))) s_str (fun _ _ => rfl)) (s_var (pe_var (i := 3) rfl (.inl rfl))) (fun _ _ => rfl)) (s_lst s_nil) (nomark _))))) (b_cons (s_set (i := 5) sc_law_bent.nd rfl (.inl rfl) (s_call (call_law_take T) (hr.mono (by decide)) rfl (s_cons (s_var (pe_var (i := 0) rfl (.inl rfl))) (s_cons (s_callB (c_len) rfl (T.free 0) (by decide +kernel) (s_cons (s_ix (o_ix (room_u hr)) (s_ix (o_ix (room_u hr)) (s_var (pe_var (i := 1) rfl (.inl rfl))) s_str (fun _ _ => rfl)) (s_var (pe_var (i := 3) rfl (.inl rfl))) (fun _ _ => rfl)) s_nil)) s_nil))))
  (b_cons (s_asg (s_ix (o_ix (room_u hr)) (s_ix (o_ix (room_u hr)) (s_ix (o_ix (room_u hr)) (s_var (pe_var (i := 1) rfl (.inl rfl))) s_str (fun _ _ => rfl)) (s_var (pe_var (i := 3) rfl (.inl rfl))) (fun _ _ => rfl)) (s_var (pe_var (i := 5) rfl (.inl rfl))) (fun _ _ => rfl)) (g_tup rfl (gs_cons (g_nm (pg_name (i := 6) sc_law_bent.nd rfl (.inl rfl))) (gs_cons (g_nm (pg_name (i := 7) sc_law_bent.nd rfl (.inl rfl))) gs_nil))))
  (b_cons (s_set (i := 8) sc_law_bent.nd rfl (.inl rfl) (s_lst (s_cons (s_tup (s_cons (s_var (pe_var (i := 7) rfl (.inl rfl))) (s_cons (s_var (pe_var (i := 6) rfl (.inl rfl))) s_nil))) (s_cons (s_tup (s_cons (s_var (pe_var (i := 6) rfl (.inl rfl))) (s_cons (s_var (pe_var (i := 6) rfl (.inl rfl))) s_nil))) (s_cons (s_tup (s_cons s_int (s_cons (s_var (pe_var (i := 7) rfl (.inl rfl))) s_nil))) (s_cons (s_tup (s_cons (s_var (pe_var (i := 6) rfl (.inl rfl))) (s_cons (s_un u_neg s_int) s_nil))) (s_cons (s_tup (s_cons (s_bin o_pow s_int s_int) (s_cons (s_var (pe_var (i := 7) rfl (.inl rfl))) s_nil))) (s_cons (s_tup (s_cons (s_var (pe_var (i := 6) rfl (.inl rfl))) (s_cons s_int s_nil))) s_nil))))))))
  (b_one (s_store (o_put (room_u hr)) (s_call (call_law_one T) (hr.mono (by decide)) rfl (s_cons (s_var (pe_var (i := 0) rfl (.inl rfl))) (s_cons (s_var (pe_var (i := 8) rfl (.inl rfl))) s_nil))) (s_ix (o_ix (room_u hr)) (s_ix (o_ix (room_u hr)) (s_var (pe_var (i := 1) rfl (.inl rfl))) s_str (fun _ _ => rfl)) (s_var (pe_var (i := 3) rfl (.inl rfl))) (fun _ _ => rfl)) (s_var (pe_var (i := 5) rfl (.inl rfl)))))))) b_nil))))))))))
theorem ok_law_bent (T : Fx fa fn g) : ∃ fd, FunD g.K "_law_bent" "_law_bent" (defArgs s_law_bent) (defBody s_law_bent) (defScope s_law_bent) [] [] (He.fAd g.K d_law_bent.at_) fd ∧ DefOkG g 3 (He.fAd g.K d_law_bent.at_) fd ["_law_box_here", "_law_web_here"] F_law_bent := by
  obtain ⟨fd, F⟩ := T.c.def_ 15 (d := d_law_bent) rfl
  exact ⟨fd, F, def_ok F sc_law_bent rfl fun cd A outer s H E hr => sb_law_bent T hr⟩
theorem call_law_bent (T : Fx fa fn g) : CallOk g 3 "_law_bent" [] F_law_bent := by
  obtain ⟨fd, F, D⟩ := ok_law_bent T
  exact call_of D F (T.glo 20) (F.bindsN fun _ _ _ _ _ _ us hl => match us, hl with | [_, _], _ => rfl)
/-! ### _law_copy_web -/
abbrev N_law_copy_web : List Str := ["_law_web_here", "_law_word", "_law_row"]
theorem sc_law_copy_web : FnScope N_law_copy_web ["_law_web_here"] (defScope s_law_copy_web) := ⟨rfl, rfl, rfl, by decide +kernel, rfl, by decide +kernel, by decide +kernel⟩
theorem sb_law_copy_web (T : Fx fa fn g) {f : Addr} {cd : Value} {A : Around} {outer : List Env} {s : Shared} {H : Hp} {E : XK} (hr : Room 0 (A.deeper (envOfC "_law_copy_web" (defScope s_law_copy_web) s.heap.objs.size f cd))) :
    SimB (cxg g N_law_copy_web "_law_copy_web" (defScope s_law_copy_web) f cd A outer s H E) m_law_copy_web (defBody s_law_copy_web) :=
  (b_one (s_ret (s_callTy (c_dict rfl) rfl (T.free 21) (by decide +kernel) (s_cons (s_lc (own := [("_law_word", 1)]) rfl sc_law_copy_web.nd (by decide) (s_seq (s_lst (s_cons s_str (s_cons s_str (s_cons s_str s_nil))))) (blkOk_by (N := N_law_copy_web) (sc := defScope s_law_copy_web) (by decide +kernel)) (fun _ _ _ _ _ => (g_nm (pg_name (i := 1) sc_law_copy_web.nd rfl (.inl rfl)))) (fun _ _ _ _ _ => s_ifs0) (fun _ _ _ _ _ => (s_tup (s_cons (s_var (pe_var (i := 1) rfl (.inl rfl))) (s_cons (s_lc (own := [("_law_row", 2)]) rfl sc_law_copy_web.nd (by decide) (s_seq (s_ix (o_ix (room_u hr)) (s_var (pe_var (i := 0) rfl (.inr (.inl rfl)))) (s_var (pe_var (i := 1) rfl (.inl rfl))) (fun _ _ => rfl))) (blkOk_by (N := N_law_copy_web) (sc := { kind := .function, names := [((".0" : Str), .local), (("_law_word" : Str), .local), (("_law_web_here" : Str), .cell)], isGenerator := false, isCoroutine := false }) (by decide +kernel)) (fun _ _ _ _ _ => (g_nm (pg_name (i := 2) sc_law_copy_web.nd rfl (.inl rfl)))) (fun _ _ _ _ _ => s_ifs0) (fun _ _ _ _ _ => (s_callTy (c_list) rfl (T.free 1) (by decide +kernel) (s_cons (s_var (pe_var (i := 2) rfl (.inl rfl))) s_nil)))) s_nil))))) s_nil))))
theorem ok_law_copy_web (T : Fx fa fn g) : ∃ fd, FunD g.K "_law_copy_web" "_law_copy_web" (defArgs s_law_copy_web) (defBody s_law_copy_web) (defScope s_law_copy_web) [] [] (He.fAd g.K d_law_copy_web.at_) fd ∧ DefOkG g 1 (He.fAd g.K d_law_copy_web.at_) fd ["_law_web_here"] F_law_copy_web := by
  obtain ⟨fd, F⟩ := T.c.def_ 16 (d := d_law_copy_web) rfl
  exact ⟨fd, F, def_ok F sc_law_copy_web rfl fun cd A outer s H E hr => sb_law_copy_web T hr⟩
theorem call_law_copy_web (T : Fx fa fn g) : CallOk g 1 "_law_copy_web" [] F_law_copy_web := by
  obtain ⟨fd, F, D⟩ := ok_law_copy_web T
  exact call_of D F (T.glo 22) (F.bindsN fun _ _ _ _ _ _ us hl => match us, hl with | [_], _ => rfl)
/-! ### _law_shape_good -/
abbrev N_law_shape_good : List Str := ["_law_web_here", "_law_prices", "_law_rates", "_law_steps", "_law_date"]
theorem sc_law_shape_good : FnScope N_law_shape_good ["_law_web_here"] (defScope s_law_shape_good) := ⟨rfl, rfl, rfl, by decide +kernel, rfl, by decide +kernel, by decide +kernel⟩
theorem sb_law_shape_good (T : Fx fa fn g) {f : Addr} {cd : Value} {A : Around} {outer : List Env} {s : Shared} {H : Hp} {E : XK} (hr : Room 0 (A.deeper (envOfC "_law_shape_good" (defScope s_law_shape_good) s.heap.objs.size f cd))) :
    SimB (cxg g N_law_shape_good "_law_shape_good" (defScope s_law_shape_good) f cd A outer s H E) m_law_shape_good (defBody s_law_shape_good) :=
  (b_cons (s_par3 (i := 1) (j := 2) (l := 3) rfl sc_law_shape_good.nd rfl rfl rfl (by decide) (by decide) (by decide) rfl rfl rfl (s_cons (s_ix (o_ix (room_u hr)) (s_var (pe_var (i := 0) rfl (.inl rfl))) s_str (fun _ _ => rfl)) (s_cons (s_ix (o_ix (room_u hr)) (s_var (pe_var (i := 0) rfl (.inl rfl))) s_str (fun _ _ => rfl)) (s_cons (s_ix (o_ix (room_u hr)) (s_var (pe_var (i := 0) rfl (.inl rfl))) s_str (fun _ _ => rfl)) s_nil))) (by rfl))
  (b_cons (s_ifS (s_pw (s_orW (s_notT (s_chainT o_le o_le s_int (s_callB (c_len) rfl (T.free 0) (by decide +kernel) (s_cons (s_var (pe_var (i := 1) rfl (.inl rfl))) s_nil)) s_int)) (s_orW (s_cmpT (o_ne (room_u hr)) (s_callB (c_len) rfl (T.free 0) (by decide +kernel) (s_cons (s_var (pe_var (i := 2) rfl (.inl rfl))) s_nil)) (s_bin o_sub (s_callB (c_len) rfl (T.free 0) (by decide +kernel) (s_cons (s_var (pe_var (i := 1) rfl (.inl rfl))) s_nil)) s_int) (nomark _)) (s_or1 (s_cmpT (o_ne (room_u hr)) (s_callB (c_len) rfl (T.free 0) (by decide +kernel) (s_cons (s_var (pe_var (i := 3) rfl (.inl rfl))) s_nil)) (s_bin o_sub (s_callB (c_len) rfl (T.free 0) (by decide +kernel) (s_cons (s_var (pe_var (i := 1) rfl (.inl rfl))) s_nil)) s_int) (nomark _)))))) (b_one (s_ret s_bl)) b_nil)
  (b_cons (s_for (passes_of rfl) rfl (s_rng1 rfl (T.free 3) (s_cons (s_callB (c_len) rfl (T.free 0) (by decide +kernel) (s_cons (s_var (pe_var (i := 1) rfl (.inl rfl))) s_nil)) s_nil)) (g_nm (pg_name (i := 4) sc_law_shape_good.nd rfl (.inl rfl))) (b_cons (s_ifS (s_pw (s_orW (s_notT (s_chainT o_le o_le s_int (s_callB (c_len) rfl (T.free 0) (by decide +kernel) (s_cons (s_ix (o_ix (room_u hr)) (s_var (pe_var (i := 1) rfl (.inl rfl))) (s_var (pe_var (i := 4) rfl (.inl rfl))) (fun _ _ => rfl)) s_nil)) s_int)) (s_or1 (s_pw (s_andW (s_cmpT (o_eq (room_u hr)) (s_var (pe_var (i := 4) rfl (.inl rfl))) s_int (nomark _)) (s_and1 (s_cmpT o_gt (s_callB (c_len) rfl (T.free 0) (by decide +kernel) (s_cons (s_ix (o_ix (room_u hr)) (s_var (pe_var (i := 1) rfl (.inl rfl))) (s_var (pe_var (i := 4) rfl (.inl rfl))) (fun _ _ => rfl)) s_nil)) s_int (nomark _)))))))) (b_one (s_ret s_bl)) b_nil)
  (b_one (s_ifS (s_pw (s_andW (s_cmpT o_lt (s_var (pe_var (i := 4) rfl (.inl rfl))) (s_callB (c_len) rfl (T.free 0) (by decide +kernel) (s_cons (s_var (pe_var (i := 2) rfl (.inl rfl))) s_nil)) (nomark _)) (s_and1 (s_notT (s_chainT (o_eq (room_u hr)) (o_eq (room_u hr)) (s_callB (c_len) rfl (T.free 0) (by decide +kernel) (s_cons (s_ix (o_ix (room_u hr)) (s_var (pe_var (i := 2) rfl (.inl rfl))) (s_var (pe_var (i := 4) rfl (.inl rfl))) (fun _ _ => rfl)) s_nil)) (s_callB (c_len) rfl (T.free 0) (by decide +kernel) (s_cons (s_ix (o_ix (room_u hr)) (s_var (pe_var (i := 3) rfl (.inl rfl))) (s_var (pe_var (i := 4) rfl (.inl rfl))) (fun _ _ => rfl)) s_nil)) (s_callB (c_len) rfl (T.free 0) (by decide +kernel) (s_cons (s_ix (o_ix (room_u hr)) (s_var (pe_var (i := 1) rfl (.inl rfl))) (s_var (pe_var (i := 4) rfl (.inl rfl))) (fun _ _ => rfl)) s_nil))))))) (b_one (s_ret s_bl)) b_nil))))
  (b_one (s_ret s_bl)))))
theorem ok_law_shape_good (T : Fx fa fn g) : ∃ fd, FunD g.K "_law_shape_good" "_law_shape_good" (defArgs s_law_shape_good) (defBody s_law_shape_good) (defScope s_law_shape_good) [] [] (He.fAd g.K d_law_shape_good.at_) fd ∧ DefOkG g 1 (He.fAd g.K d_law_shape_good.at_) fd ["_law_web_here"] F_law_shape_good := by
  obtain ⟨fd, F⟩ := T.c.def_ 17 (d := d_law_shape_good) rfl
  exact ⟨fd, F, def_ok F sc_law_shape_good rfl fun cd A outer s H E hr => sb_law_shape_good T hr⟩
theorem call_law_shape_good (T : Fx fa fn g) : CallOk g 1 "_law_shape_good" [] F_law_shape_good := by
  obtain ⟨fd, F, D⟩ := ok_law_shape_good T
  exact call_of D F (T.glo 23) (F.bindsN fun _ _ _ _ _ _ us hl => match us, hl with | [_], _ => rfl)
/-! ### _law_first_bad -/
abbrev N_law_first_bad : List Str := ["_law_web_here", "_law_word", "_law_name", "_law_date", "_law_node", "_law_later", "_law_up", "_law_down"]
theorem sc_law_first_bad : FnScope N_law_first_bad ["_law_web_here"] (defScope s_law_first_bad) := ⟨rfl, rfl, rfl, by decide +kernel, rfl, by decide +kernel, by decide +kernel⟩
theorem sb_law_first_bad (T : Fx fa fn g) {f : Addr} {cd : Value} {A : Around} {outer : List Env} {s : Shared} {H : Hp} {E : XK} (hr : Room 1 (A.deeper (envOfC "_law_first_bad" (defScope s_law_first_bad) s.heap.objs.size f cd))) :
    SimB (cxg g N_law_first_bad "_law_first_bad" (defScope s_law_first_bad) f cd A outer s H E) m_law_first_bad (defBody s_law_first_bad) :=
  (b_cons (s_ifS (s_notT (s_truth (s_call (call_law_shape_good T) (hr.mono (by decide)) rfl (s_cons (s_var (pe_var (i := 0) rfl (.inl rfl))) s_nil)) (fun _ => rfl))) (b_one (s_ret (s_tup (s_cons s_str s_nil)))) b_nil)
  (b_cons (s_for (passes_of rfl) rfl (s_seq (s_lst (s_cons (s_tup (s_cons s_str (s_cons s_str s_nil))) (s_cons (s_tup (s_cons s_str (s_cons s_str s_nil))) s_nil)))) (g_tup rfl (gs_cons (g_nm (pg_name (i := 1) sc_law_first_bad.nd rfl (.inl rfl))) (gs_cons (g_nm (pg_name (i := 2) sc_law_first_bad.nd rfl (.inl rfl))) gs_nil))) (b_one (s_for (passes_of rfl) rfl (s_rng1 rfl (T.free 3) (s_cons (s_callB (c_len) rfl (T.free 0) (by decide +kernel) (s_cons (s_ix (o_ix (room_u hr)) (s_var (pe_var (i := 0) rfl (.inl rfl))) (s_var (pe_var (i := 1) rfl (.inl rfl))) (fun _ _ => rfl)) s_nil)) s_nil)) (g_nm (pg_name (i := 3) sc_law_first_bad.nd rfl (.inl rfl))) (b_one (s_for (passes_of rfl) rfl (s_rng1 rfl (T.free 3) (s_cons (s_callB (c_len) rfl (T.free 0) (by decide +kernel) (s_cons (s_ix (o_ix (room_u hr)) (s_ix (o_ix (room_u hr)) (s_var (pe_var (i := 0) rfl (.inl rfl))) (s_var (pe_var (i := 1) rfl (.inl rfl))) (fun _ _ => rfl)) (s_var (pe_var (i := 3) rfl (.inl rfl))) (fun _ _ => rfl)) s_nil)) s_nil)) (g_nm (pg_name (i := 4) sc_law_first_bad.nd rfl (.inl rfl))) (b_one (s_ifS (s_cmpT o_le (s_ix (o_ix (room_u hr)) (s_ix (o_ix (room_u hr)) (s_ix (o_ix (room_u hr)) (s_ix (o_ix (room_u hr)) (s_var (pe_var (i := 0) rfl (.inl rfl))) (s_var (pe_var (i := 1) rfl (.inl rfl))) (fun _ _ => rfl)) (s_var (pe_var (i := 3) rfl (.inl rfl))) (fun _ _ => rfl)) (s_var (pe_var (i := 4) rfl (.inl rfl))) (fun _ _ => rfl)) s_int (fun _ _ => rfl)) s_int (nomark _)) (b_one (s_ret (s_tup (s_cons (s_var (pe_var (i := 2) rfl (.inl rfl))) (s_cons (s_var (pe_var (i := 3) rfl (.inl rfl))) (s_cons (s_var (pe_var (i := 4) rfl (.inl rfl))) s_nil)))))) b_nil)))))))
  (b_cons (s_for (passes_of rfl) rfl (s_rng1 rfl (T.free 3) (s_cons (s_callB (c_len) rfl (T.free 0) (by decide +kernel) (s_cons (s_ix (o_ix (room_u hr)) (s_var (pe_var (i := 0) rfl (.inl rfl))) s_str (fun _ _ => rfl)) s_nil)) s_nil)) (g_nm (pg_name (i := 3) sc_law_first_bad.nd rfl (.inl rfl))) (b_cons (s_set (i := 5) sc_law_first_bad.nd rfl (.inl rfl) (s_ix (o_ix (room_u hr)) (s_ix (o_ix (room_u hr)) (s_var (pe_var (i := 0) rfl (.inl rfl))) s_str (fun _ _ => rfl)) (s_bin o_add (s_var (pe_var (i := 3) rfl (.inl rfl))) s_int) (fun _ _ => rfl)))
  (b_one (s_for (passes_of rfl) rfl (s_rng1 rfl (T.free 3) (s_cons (s_callB (c_len) rfl (T.free 0) (by decide +kernel) (s_cons (s_ix (o_ix (room_u hr)) (s_ix (o_ix (room_u hr)) (s_var (pe_var (i := 0) rfl (.inl rfl))) s_str (fun _ _ => rfl)) (s_var (pe_var (i := 3) rfl (.inl rfl))) (fun _ _ => rfl)) s_nil)) s_nil)) (g_nm (pg_name (i := 4) sc_law_first_bad.nd rfl (.inl rfl))) (b_cons (s_asg (s_ix (o_ix (room_u hr)) (s_ix (o_ix (room_u hr)) (s_ix (o_ix (room_u hr)) (s_var (pe_var (i := 0) rfl (.inl rfl))) s_str (fun _ _ => rfl)) (s_var (pe_var (i := 3) rfl (.inl rfl))) (fun _ _ => rfl)) (s_var (pe_var (i := 4) rfl (.inl rfl))) (fun _ _ => rfl)) (g_tup rfl (gs_cons (g_nm (pg_name (i := 6) sc_law_first_bad.nd rfl (.inl rfl))) (gs_cons (g_nm (pg_name (i := 7) sc_law_first_bad.nd rfl (.inl rfl))) gs_nil))))
  (b_one (s_ifS (s_pw (s_orW (s_notT (s_chainT o_le o_lt s_int (s_var (pe_var (i := 6) rfl (.inl rfl))) (s_callB (c_len) rfl (T.free 0) (by decide +kernel) (s_cons (s_var (pe_var (i := 5) rfl (.inl rfl))) s_nil)))) (s_orW (s_notT (s_chainT o_le o_lt s_int (s_var (pe_var (i := 7) rfl (.inl rfl))) (s_callB (c_len) rfl (T.free 0) (by decide +kernel) (s_cons (s_var (pe_var (i := 5) rfl (.inl rfl))) s_nil)))) (s_or1 (s_notT (s_truth (s_call (call_law_under T) (hr.mono (by decide)) rfl (s_cons (s_ix (o_ix (room_u hr)) (s_var (pe_var (i := 5) rfl (.inl rfl))) (s_var (pe_var (i := 7) rfl (.inl rfl))) (fun _ _ => rfl)) (s_cons (s_ix (o_ix (room_u hr)) (s_var (pe_var (i := 5) rfl (.inl rfl))) (s_var (pe_var (i := 6) rfl (.inl rfl))) (fun _ _ => rfl)) s_nil))) (fun _ => rfl))))))) (b_one (s_ret (s_tup (s_cons s_str (s_cons (s_var (pe_var (i := 3) rfl (.inl rfl))) (s_cons (s_var (pe_var (i := 4) rfl (.inl rfl))) s_nil)))))) b_nil)))))))
  (b_one (s_ret s_non)))))
theorem ok_law_first_bad (T : Fx fa fn g) : ∃ fd, FunD g.K "_law_first_bad" "_law_first_bad" (defArgs s_law_first_bad) (defBody s_law_first_bad) (defScope s_law_first_bad) [] [] (He.fAd g.K d_law_first_bad.at_) fd ∧ DefOkG g 2 (He.fAd g.K d_law_first_bad.at_) fd ["_law_web_here"] F_law_first_bad := by
  obtain ⟨fd, F⟩ := T.c.def_ 18 (d := d_law_first_bad) rfl
  exact ⟨fd, F, def_ok F sc_law_first_bad rfl fun cd A outer s H E hr => sb_law_first_bad T hr⟩
theorem call_law_first_bad (T : Fx fa fn g) : CallOk g 2 "_law_first_bad" [] F_law_first_bad := by
  obtain ⟨fd, F, D⟩ := ok_law_first_bad T
  exact call_of D F (T.glo 24) (F.bindsN fun _ _ _ _ _ _ us hl => match us, hl with | [_], _ => rfl)
/-! ### _law_why -/
abbrev N_law_why : List Str := ["_law_ask", "e"]
theorem sc_law_why : FnScope N_law_why ["_law_ask"] (defScope s_law_why) := ⟨rfl, rfl, rfl, by decide +kernel, rfl, by decide +kernel, by decide +kernel⟩
theorem why_law_why (T : Fx fa fn g) (k : Nat) : WhyOk g k "_law_why" "told" 2 hds_law_why := by
  refine ⟨fun X qn eg => ?_⟩
  subst eg
  obtain ⟨fd, F⟩ := T.c.def_ 19 (d := d_law_why) rfl
  have b := F.bindsN (ps := ["_law_ask"]) fun _ _ _ _ _ _ us hl => match us, hl with | [_], _ => rfl
  obtain ⟨oc, od, dV, kV, doc, pm, an, cdv, ct, osl, rfl, lk, hcd, _, _⟩ := F.ex
  refine ⟨_, 0, _, _, _, dV, kV, doc, pm, cdv, ct, oc, an, od, osl, ["_law_ask", "e"], "_law_ask", T.glo 42, F.kp, lk, hcd, b, sc_law_why, rfl, .inl rfl, by decide, by decide, rfl, ?_⟩
  exact why_gives sc_law_why.nd (fun _ => rfl) fun s H =>
    (.as_ (.tup (.cons ⟨rfl, (by decide), .inl (T.glo 29)⟩ (.cons ⟨rfl, (by decide), .inl (T.glo 28)⟩ (.cons ⟨rfl, (by decide), .inl (T.glo 27)⟩ (.cons ⟨rfl, (by decide), .inl (T.glo 26)⟩ (.cons ⟨rfl, (by decide), .inl (T.glo 25)⟩ .nil))))) (by rw [List.length_map]; decide)) rfl rfl (x_ret (x_tup (x_cons (x_fld T.xt (by decide) rfl (.inl rfl)) (x_cons (x_fld T.xt (by decide) rfl (.inl rfl)) (x_cons (x_fld T.xt (by decide) rfl (.inl rfl)) x_nil)))))
    (.as_ (.tup (.cons ⟨rfl, (by decide), .inl (T.glo 37)⟩ (.cons ⟨rfl, (by decide), .inl (T.glo 36)⟩ (.cons ⟨rfl, (by decide), .inl (T.glo 35)⟩ (.cons ⟨rfl, (by decide), .inl (T.glo 34)⟩ (.cons ⟨rfl, (by decide), .inl (T.glo 33)⟩ (.cons ⟨rfl, (by decide), .inl (T.glo 32)⟩ (.cons ⟨rfl, (by decide), .inl (T.glo 31)⟩ (.cons ⟨rfl, (by decide), .inl (T.glo 30)⟩ .nil)))))))) (by rw [List.length_map]; decide)) rfl rfl (x_ret (x_tup (x_cons (x_fld T.xt (by decide) rfl (.inl rfl)) (x_cons (x_fld T.xt (by decide) rfl (.inl rfl)) x_nil))))
    (.as_ (.one ⟨rfl, (by decide), .inl (T.glo 38)⟩) rfl rfl (x_ret (x_tup (x_cons (x_fld T.xt (by decide) rfl (.inl rfl)) (x_cons (x_fld T.xt (by decide) rfl (.inl rfl)) x_nil))))
    (.as_ (.one ⟨rfl, (by decide), .inl (T.glo 39)⟩) rfl rfl (x_ret (x_tup (x_cons (x_fld T.xt (by decide) rfl (.inl rfl)) (x_cons (x_fld T.xt (by decide) rfl (.inl rfl)) x_nil))))
    (.as_ (.tup (.cons ⟨rfl, (by decide), .inl (T.glo 41)⟩ (.cons ⟨rfl, (by decide), .inl (T.glo 40)⟩ .nil)) (by rw [List.length_map]; decide)) rfl rfl (x_ret (x_tup (x_cons (x_fld T.xt (by decide) rfl (.inl rfl)) x_nil)))
    .nil)))))
/-! ### BadShape__init -/
theorem sc_BadShape__init : FnScope ["self"] ["self"] (defScope s_BadShape__init) := ⟨rfl, rfl, rfl, by decide +kernel, rfl, by decide +kernel, by decide +kernel⟩
theorem xok_BadShape (T : Fx fa fn g) : XOk g 1 "BadShape" "BadShape" [] := by
  obtain ⟨fd, F⟩ := T.c.def_ 20 (d := d_BadShape__init) rfl
  have X : OexF g.K "BadShape" [] := oexB_ok (List.all_eq_true.mp T.ox ("BadShape", []) (by simp [oexL]))
  exact ⟨_, fd, ["self"], X.oex, X.ini, X.ty, init_ok0 F sc_BadShape__init X.oex (X.fl _ (by decide)) rfl, F.bindsN fun _ _ _ _ _ _ us hl => match us, hl with | [_], _ => rfl, T.glo 44⟩
/-! ### look_shape -/
abbrev N_look_shape : List Str := ["prices", "rates", "steps", "date", "row"]
theorem sc_look_shape : FnScope N_look_shape ["prices", "rates", "steps"] (defScope s_look_shape) := ⟨rfl, rfl, rfl, by decide +kernel, rfl, by decide +kernel, by decide +kernel⟩
theorem sb_look_shape (T : Fx fa fn g) {f : Addr} {cd : Value} {A : Around} {outer : List Env} {s : Shared} {H : Hp} {E : XK} (hr : Room 2 (A.deeper (envOfC "look_shape" (defScope s_look_shape) s.heap.objs.size f cd))) :
    SimB (cxg g N_look_shape "look_shape" (defScope s_look_shape) f cd A outer s H E) m_look_shape (defBody s_look_shape) :=
  (b_cons (s_ifS (s_pw (s_orW (s_notT (s_chainT o_le o_le s_int (s_callB (c_len) rfl (T.free 0) (by decide +kernel) (s_cons (s_var (pe_var (i := 0) rfl (.inl rfl))) s_nil)) (s_globI' rfl (T.int 43)))) (s_or1 (s_notT (s_chainT (o_eq (room_u hr)) (o_eq (room_u hr)) (s_callB (c_len) rfl (T.free 0) (by decide +kernel) (s_cons (s_var (pe_var (i := 1) rfl (.inl rfl))) s_nil)) (s_callB (c_len) rfl (T.free 0) (by decide +kernel) (s_cons (s_var (pe_var (i := 2) rfl (.inl rfl))) s_nil)) (s_bin o_sub (s_callB (c_len) rfl (T.free 0) (by decide +kernel) (s_cons (s_var (pe_var (i := 0) rfl (.inl rfl))) s_nil)) s_int)))))) (b_one (s_raise0 rfl (xok_BadShape T) (hr.mono (by decide)) rfl)) b_nil)
  (b_one (s_for (passes_of rfl) rfl (s_enum rfl (T.free 45) (s_cons (s_var (pe_var (i := 0) rfl (.inl rfl))) s_nil)) (g_tup rfl (gs_cons (g_nm (pg_name (i := 3) sc_look_shape.nd rfl (.inl rfl))) (gs_cons (g_nm (pg_name (i := 4) sc_look_shape.nd rfl (.inl rfl))) gs_nil))) (b_cons (s_ifS (s_notT (s_chainT o_le o_le s_int (s_callB (c_len) rfl (T.free 0) (by decide +kernel) (s_cons (s_var (pe_var (i := 4) rfl (.inl rfl))) s_nil)) (s_if (s_cmpT (o_eq (room_u hr)) (s_var (pe_var (i := 3) rfl (.inl rfl))) s_int (nomark _)) s_int (s_globI' rfl (T.int 46))))) (b_one (s_raise0 rfl (xok_BadShape T) (hr.mono (by decide)) rfl)) b_nil)
  (b_one (s_ifS (s_pw (s_andW (s_cmpT o_lt (s_var (pe_var (i := 3) rfl (.inl rfl))) (s_callB (c_len) rfl (T.free 0) (by decide +kernel) (s_cons (s_var (pe_var (i := 1) rfl (.inl rfl))) s_nil)) (nomark _)) (s_and1 (s_notT (s_chainT (o_eq (room_u hr)) (o_eq (room_u hr)) (s_callB (c_len) rfl (T.free 0) (by decide +kernel) (s_cons (s_ix (o_ix (room_u hr)) (s_var (pe_var (i := 1) rfl (.inl rfl))) (s_var (pe_var (i := 3) rfl (.inl rfl))) (fun _ _ => rfl)) s_nil)) (s_callB (c_len) rfl (T.free 0) (by decide +kernel) (s_cons (s_ix (o_ix (room_u hr)) (s_var (pe_var (i := 2) rfl (.inl rfl))) (s_var (pe_var (i := 3) rfl (.inl rfl))) (fun _ _ => rfl)) s_nil)) (s_callB (c_len) rfl (T.free 0) (by decide +kernel) (s_cons (s_var (pe_var (i := 4) rfl (.inl rfl))) s_nil))))))) (b_one (s_raise0 rfl (xok_BadShape T) (hr.mono (by decide)) rfl)) b_nil))))))
theorem ok_look_shape (T : Fx fa fn g) : ∃ fd, FunD g.K "look_shape" "look_shape" (defArgs s_look_shape) (defBody s_look_shape) (defScope s_look_shape) [] [] (He.fAd g.K d_look_shape.at_) fd ∧ DefOkG g 3 (He.fAd g.K d_look_shape.at_) fd ["prices", "rates", "steps"] F_look_shape := by
  obtain ⟨fd, F⟩ := T.c.def_ 21 (d := d_look_shape) rfl
  exact ⟨fd, F, def_ok F sc_look_shape rfl fun cd A outer s H E hr => sb_look_shape T hr⟩
theorem call_look_shape (T : Fx fa fn g) : CallOk g 3 "look_shape" [] F_look_shape := by
  obtain ⟨fd, F, D⟩ := ok_look_shape T
  exact call_of D F (T.glo 47) (F.bindsN fun _ _ _ _ _ _ us hl => match us, hl with | [_, _, _], _ => rfl)
/-! ### BadRate__init -/
theorem sc_BadRate__init : FnScope ["self", "date", "node"] ["self", "date", "node"] (defScope s_BadRate__init) := ⟨rfl, rfl, rfl, by decide +kernel, rfl, by decide +kernel, by decide +kernel⟩
theorem xok_BadRate (T : Fx fa fn g) : XOk g 1 "BadRate" "BadRate" ["date", "node"] := by
  obtain ⟨fd, F⟩ := T.c.def_ 22 (d := d_BadRate__init) rfl
  have X : OexF g.K "BadRate" ["date", "node"] := oexB_ok (List.all_eq_true.mp T.ox ("BadRate", ["date", "node"]) (by simp [oexL]))
  exact ⟨_, fd, ["self", "date", "node"], X.oex, X.ini, X.ty, init_ok2 F sc_BadRate__init X.oex (X.fl _ (by decide)) (X.fl _ (by decide)) (X.fl _ (by decide)) rfl rfl rfl, F.bindsN fun _ _ _ _ _ _ us hl => match us, hl with | [_, _, _], _ => rfl, T.glo 27⟩
/-! ### BadPrice__init -/
theorem sc_BadPrice__init : FnScope ["self", "date", "node"] ["self", "date", "node"] (defScope s_BadPrice__init) := ⟨rfl, rfl, rfl, by decide +kernel, rfl, by decide +kernel, by decide +kernel⟩
theorem xok_BadPrice (T : Fx fa fn g) : XOk g 1 "BadPrice" "BadPrice" ["date", "node"] := by
  obtain ⟨fd, F⟩ := T.c.def_ 23 (d := d_BadPrice__init) rfl
  have X : OexF g.K "BadPrice" ["date", "node"] := oexB_ok (List.all_eq_true.mp T.ox ("BadPrice", ["date", "node"]) (by simp [oexL]))
  exact ⟨_, fd, ["self", "date", "node"], X.oex, X.ini, X.ty, init_ok2 F sc_BadPrice__init X.oex (X.fl _ (by decide)) (X.fl _ (by decide)) (X.fl _ (by decide)) rfl rfl rfl, F.bindsN fun _ _ _ _ _ _ us hl => match us, hl with | [_, _, _], _ => rfl, T.glo 28⟩
/-! ### look_above -/
abbrev N_look_above : List Str := ["rows", "rated", "date", "row", "node", "over", "under"]
theorem sc_look_above : FnScope N_look_above ["rows", "rated"] (defScope s_look_above) := ⟨rfl, rfl, rfl, by decide +kernel, rfl, by decide +kernel, by decide +kernel⟩
theorem sb_look_above (T : Fx fa fn g) {f : Addr} {cd : Value} {A : Around} {outer : List Env} {s : Shared} {H : Hp} {E : XK} (hr : Room 2 (A.deeper (envOfC "look_above" (defScope s_look_above) s.heap.objs.size f cd))) :
    SimB (cxg g N_look_above "look_above" (defScope s_look_above) f cd A outer s H E) m_look_above (defBody s_look_above) :=
  (b_one (s_for (passes_of rfl) rfl (s_enum rfl (T.free 45) (s_cons (s_var (pe_var (i := 0) rfl (.inl rfl))) s_nil)) (g_tup rfl (gs_cons (g_nm (pg_name (i := 2) sc_look_above.nd rfl (.inl rfl))) (gs_cons (g_nm (pg_name (i := 3) sc_look_above.nd rfl (.inl rfl))) gs_nil))) (b_one (s_for (passes_of rfl) rfl (s_enum rfl (T.free 45) (s_cons (s_var (pe_var (i := 3) rfl (.inl rfl))) s_nil)) (g_tup rfl (gs_cons (g_nm (pg_name (i := 4) sc_look_above.nd rfl (.inl rfl))) (gs_cons (g_tup rfl (gs_cons (g_nm (pg_name (i := 5) sc_look_above.nd rfl (.inl rfl))) (gs_cons (g_nm (pg_name (i := 6) sc_look_above.nd rfl (.inl rfl))) gs_nil))) gs_nil))) (b_cons (s_ifS (s_pw (s_andW (s_cmpT o_le (s_var (pe_var (i := 5) rfl (.inl rfl))) s_int (nomark _)) (s_and1 (s_truth (s_var (pe_var (i := 1) rfl (.inl rfl))) (fun _ => rfl))))) (b_one (s_raise rfl (xok_BadRate T) (hr.mono (by decide)) rfl (s_cons (s_var (pe_var (i := 2) rfl (.inl rfl))) (s_cons (s_var (pe_var (i := 4) rfl (.inl rfl))) s_nil)))) b_nil)
  (b_one (s_ifS (s_cmpT o_le (s_var (pe_var (i := 5) rfl (.inl rfl))) s_int (nomark _)) (b_one (s_raise rfl (xok_BadPrice T) (hr.mono (by decide)) rfl (s_cons (s_var (pe_var (i := 2) rfl (.inl rfl))) (s_cons (s_var (pe_var (i := 4) rfl (.inl rfl))) s_nil)))) b_nil)))))))
theorem ok_look_above (T : Fx fa fn g) : ∃ fd, FunD g.K "look_above" "look_above" (defArgs s_look_above) (defBody s_look_above) (defScope s_look_above) [] [] (He.fAd g.K d_look_above.at_) fd ∧ DefOkG g 3 (He.fAd g.K d_look_above.at_) fd ["rows", "rated"] F_look_above := by
  obtain ⟨fd, F⟩ := T.c.def_ 24 (d := d_look_above) rfl
  exact ⟨fd, F, def_ok F sc_look_above rfl fun cd A outer s H E hr => sb_look_above T hr⟩
theorem callk_look_above (T : Fx fa fn g) : CallKOk g 3 "look_above" 1 ["rated"] (fun ds es => ds ++ es) F_look_above := by
  obtain ⟨fd, F, D⟩ := ok_look_above T
  exact ⟨_, fd, ["rows", "rated"], _, _, D, T.glo 48, F.kp, kbn_all F (fun _ _ _ _ _ _ us ws h1 h2 => match us, ws, h1, h2 with | [_], [_], _, _ => rfl), fun ι H ds es vs zs d1 d2 => d1.app d2⟩
/-! ### less -/
abbrev N_less : List Str := ["one", "other"]
theorem sc_less : FnScope N_less ["one", "other"] (defScope s_less) := ⟨rfl, rfl, rfl, by decide +kernel, rfl, by decide +kernel, by decide +kernel⟩
theorem sb_less (T : Fx fa fn g) {f : Addr} {cd : Value} {A : Around} {outer : List Env} {s : Shared} {H : Hp} {E : XK} (hr : Room 0 (A.deeper (envOfC "less" (defScope s_less) s.heap.objs.size f cd))) :
    SimB (cxg g N_less "less" (defScope s_less) f cd A outer s H E) m_less (defBody s_less) :=
  (b_one (s_ret (s_cmp o_lt (s_bin o_mul (s_ix (o_ix (room_u hr)) (s_var (pe_var (i := 0) rfl (.inl rfl))) s_int (fun _ _ => rfl)) (s_ix (o_ix (room_u hr)) (s_var (pe_var (i := 1) rfl (.inl rfl))) s_int (fun _ _ => rfl))) (s_bin o_mul (s_ix (o_ix (room_u hr)) (s_var (pe_var (i := 1) rfl (.inl rfl))) s_int (fun _ _ => rfl)) (s_ix (o_ix (room_u hr)) (s_var (pe_var (i := 0) rfl (.inl rfl))) s_int (fun _ _ => rfl))) (nomark _))))
theorem ok_less (T : Fx fa fn g) : ∃ fd, FunD g.K "less" "less" (defArgs s_less) (defBody s_less) (defScope s_less) [] [] (He.fAd g.K d_less.at_) fd ∧ DefOkG g 1 (He.fAd g.K d_less.at_) fd ["one", "other"] F_less := by
  obtain ⟨fd, F⟩ := T.c.def_ 25 (d := d_less) rfl
  exact ⟨fd, F, def_ok F sc_less rfl fun cd A outer s H E hr => sb_less T hr⟩
theorem call_less (T : Fx fa fn g) : CallOk g 1 "less" [] F_less := by
  obtain ⟨fd, F, D⟩ := ok_less T
  exact call_of D F (T.glo 49) (F.bindsN fun _ _ _ _ _ _ us hl => match us, hl with | [_, _], _ => rfl)
/-! ### BadStep__init -/
theorem sc_BadStep__init : FnScope ["self", "date", "node"] ["self", "date", "node"] (defScope s_BadStep__init) := ⟨rfl, rfl, rfl, by decide +kernel, rfl, by decide +kernel, by decide +kernel⟩
theorem xok_BadStep (T : Fx fa fn g) : XOk g 1 "BadStep" "BadStep" ["date", "node"] := by
  obtain ⟨fd, F⟩ := T.c.def_ 26 (d := d_BadStep__init) rfl
  have X : OexF g.K "BadStep" ["date", "node"] := oexB_ok (List.all_eq_true.mp T.ox ("BadStep", ["date", "node"]) (by simp [oexL]))
  exact ⟨_, fd, ["self", "date", "node"], X.oex, X.ini, X.ty, init_ok2 F sc_BadStep__init X.oex (X.fl _ (by decide)) (X.fl _ (by decide)) (X.fl _ (by decide)) rfl rfl rfl, F.bindsN fun _ _ _ _ _ _ us hl => match us, hl with | [_, _, _], _ => rfl, T.glo 26⟩
/-! ### look_steps -/
abbrev N_look_steps : List Str := ["prices", "steps", "date", "row", "later", "node", "up", "down"]
theorem sc_look_steps : FnScope N_look_steps ["prices", "steps"] (defScope s_look_steps) := ⟨rfl, rfl, rfl, by decide +kernel, rfl, by decide +kernel, by decide +kernel⟩
theorem sb_look_steps (T : Fx fa fn g) {f : Addr} {cd : Value} {A : Around} {outer : List Env} {s : Shared} {H : Hp} {E : XK} (hr : Room 2 (A.deeper (envOfC "look_steps" (defScope s_look_steps) s.heap.objs.size f cd))) :
    SimB (cxg g N_look_steps "look_steps" (defScope s_look_steps) f cd A outer s H E) m_look_steps (defBody s_look_steps) :=
  (b_one (s_for (passes_of rfl) rfl (s_enum rfl (T.free 45) (s_cons (s_var (pe_var (i := 1) rfl (.inl rfl))) s_nil)) (g_tup rfl (gs_cons (g_nm (pg_name (i := 2) sc_look_steps.nd rfl (.inl rfl))) (gs_cons (g_nm (pg_name (i := 3) sc_look_steps.nd rfl (.inl rfl))) gs_nil))) (b_cons (s_set (i := 4) sc_look_steps.nd rfl (.inl rfl) (s_ix (o_ix (room_u hr)) (s_var (pe_var (i := 0) rfl (.inl rfl))) (s_bin o_add (s_var (pe_var (i := 2) rfl (.inl rfl))) s_int) (fun _ _ => rfl)))
  (b_one (s_for (passes_of rfl) rfl (s_enum rfl (T.free 45) (s_cons (s_var (pe_var (i := 3) rfl (.inl rfl))) s_nil)) (g_tup rfl (gs_cons (g_nm (pg_name (i := 5) sc_look_steps.nd rfl (.inl rfl))) (gs_cons (g_tup rfl (gs_cons (g_nm (pg_name (i := 6) sc_look_steps.nd rfl (.inl rfl))) (gs_cons (g_nm (pg_name (i := 7) sc_look_steps.nd rfl (.inl rfl))) gs_nil))) gs_nil))) (b_one (s_ifS (s_pw (s_orW (s_notT (s_chainT o_le o_lt s_int (s_var (pe_var (i := 6) rfl (.inl rfl))) (s_callB (c_len) rfl (T.free 0) (by decide +kernel) (s_cons (s_var (pe_var (i := 4) rfl (.inl rfl))) s_nil)))) (s_orW (s_notT (s_chainT o_le o_lt s_int (s_var (pe_var (i := 7) rfl (.inl rfl))) (s_callB (c_len) rfl (T.free 0) (by decide +kernel) (s_cons (s_var (pe_var (i := 4) rfl (.inl rfl))) s_nil)))) (s_or1 (s_notT (s_truth (s_call (call_less T) (hr.mono (by decide)) rfl (s_cons (s_ix (o_ix (room_u hr)) (s_var (pe_var (i := 4) rfl (.inl rfl))) (s_var (pe_var (i := 7) rfl (.inl rfl))) (fun _ _ => rfl)) (s_cons (s_ix (o_ix (room_u hr)) (s_var (pe_var (i := 4) rfl (.inl rfl))) (s_var (pe_var (i := 6) rfl (.inl rfl))) (fun _ _ => rfl)) s_nil))) (fun _ => rfl))))))) (b_one (s_raise rfl (xok_BadStep T) (hr.mono (by decide)) rfl (s_cons (s_var (pe_var (i := 2) rfl (.inl rfl))) (s_cons (s_var (pe_var (i := 5) rfl (.inl rfl))) s_nil)))) b_nil)))))))
theorem ok_look_steps (T : Fx fa fn g) : ∃ fd, FunD g.K "look_steps" "look_steps" (defArgs s_look_steps) (defBody s_look_steps) (defScope s_look_steps) [] [] (He.fAd g.K d_look_steps.at_) fd ∧ DefOkG g 3 (He.fAd g.K d_look_steps.at_) fd ["prices", "steps"] F_look_steps := by
  obtain ⟨fd, F⟩ := T.c.def_ 27 (d := d_look_steps) rfl
  exact ⟨fd, F, def_ok F sc_look_steps rfl fun cd A outer s H E hr => sb_look_steps T hr⟩
theorem call_look_steps (T : Fx fa fn g) : CallOk g 3 "look_steps" [] F_look_steps := by
  obtain ⟨fd, F, D⟩ := ok_look_steps T
  exact call_of D F (T.glo 50) (F.bindsN fun _ _ _ _ _ _ us hl => match us, hl with | [_, _], _ => rfl)
/-! ### Lattice__init -/
abbrev N_Lattice__init : List Str := ["self", "prices", "rates", "steps", "row", "up", "down"]
theorem sc_Lattice__init : FnScope N_Lattice__init ["self", "prices", "rates", "steps"] (defScope s_Lattice__init) := ⟨rfl, rfl, rfl, by decide +kernel, rfl, by decide +kernel, by decide +kernel⟩
theorem sb_Lattice__init (T : Fx fa fn g) {f : Addr} {cd : Value} {A : Around} {outer : List Env} {s : Shared} {H : Hp} {E : XK} (hr : Room 3 (A.deeper (envOfC "Lattice.__init__" (defScope s_Lattice__init) s.heap.objs.size f cd))) :
    SimB (cxg g N_Lattice__init "Lattice.__init__" (defScope s_Lattice__init) f cd A outer s H E) m_Lattice__init (defBody s_Lattice__init) :=
  (b_cons (s_ex (s_call (call_look_shape T) (hr.mono (by decide)) rfl (s_cons (s_var (pe_var (i := 1) rfl (.inl rfl))) (s_cons (s_var (pe_var (i := 2) rfl (.inl rfl))) (s_cons (s_var (pe_var (i := 3) rfl (.inl rfl))) s_nil)))))
  (b_cons (s_ex (s_callK (callk_look_above T) (hr.mono (by decide)) rfl (s_ofLen (s_cons (s_var (pe_var (i := 1) rfl (.inl rfl))) s_nil)) (s_ofLenK (s_kcons s_bl s_knil)) (ofLen_ok _ _) (ofLen_ok _ _)))
  (b_cons (s_ex (s_callK (callk_look_above T) (hr.mono (by decide)) rfl (s_ofLen (s_cons (s_var (pe_var (i := 2) rfl (.inl rfl))) s_nil)) (s_ofLenK (s_kcons s_bl s_knil)) (ofLen_ok _ _) (ofLen_ok _ _)))
  (b_cons (s_ex (s_call (call_look_steps T) (hr.mono (by decide)) rfl (s_cons (s_var (pe_var (i := 1) rfl (.inl rfl))) (s_cons (s_var (pe_var (i := 3) rfl (.inl rfl))) s_nil))))
  (b_cons (s_fldS (s_var (pe_var (i := 0) rfl (.inl rfl))) (s_lc (own := [("row", 4)]) rfl sc_Lattice__init.nd (by decide) (s_seq (s_var (pe_var (i := 1) rfl (.inl rfl)))) (blkOk_by (N := N_Lattice__init) (sc := defScope s_Lattice__init) (by decide +kernel)) (fun _ _ _ _ _ => (g_nm (pg_name (i := 4) sc_Lattice__init.nd rfl (.inl rfl)))) (fun _ _ _ _ _ => s_ifs0) (fun _ _ _ _ _ => (s_callTy (c_list) rfl (T.free 1) (by decide +kernel) (s_cons (s_var (pe_var (i := 4) rfl (.inl rfl))) s_nil)))) (T.cls 51) (T.noat 52))
  (b_cons (s_fldS (s_var (pe_var (i := 0) rfl (.inl rfl))) (s_lc (own := [("row", 4)]) rfl sc_Lattice__init.nd (by decide) (s_seq (s_var (pe_var (i := 2) rfl (.inl rfl)))) (blkOk_by (N := N_Lattice__init) (sc := defScope s_Lattice__init) (by decide +kernel)) (fun _ _ _ _ _ => (g_nm (pg_name (i := 4) sc_Lattice__init.nd rfl (.inl rfl)))) (fun _ _ _ _ _ => s_ifs0) (fun _ _ _ _ _ => (s_callTy (c_list) rfl (T.free 1) (by decide +kernel) (s_cons (s_var (pe_var (i := 4) rfl (.inl rfl))) s_nil)))) (T.cls 51) (T.noat 53))
  (b_one (s_fldS (s_var (pe_var (i := 0) rfl (.inl rfl))) (s_lc (own := [("row", 4)]) rfl sc_Lattice__init.nd (by decide) (s_seq (s_var (pe_var (i := 3) rfl (.inl rfl)))) (blkOk_by (N := N_Lattice__init) (sc := defScope s_Lattice__init) (by decide +kernel)) (fun _ _ _ _ _ => (g_nm (pg_name (i := 4) sc_Lattice__init.nd rfl (.inl rfl)))) (fun _ _ _ _ _ => s_ifs0) (fun _ _ _ _ _ => (s_lc (own := [("up", 5), ("down", 6)]) rfl sc_Lattice__init.nd (by decide) (s_seq (s_var (pe_var (i := 4) rfl (.inl rfl)))) (blkOk_by (N := N_Lattice__init) (sc := { kind := .function, names := [((".0" : Str), .local), (("row" : Str), .local)], isGenerator := false, isCoroutine := false }) (by decide +kernel)) (fun _ _ _ _ _ => (g_tup rfl (gs_cons (g_nm (pg_name (i := 5) sc_Lattice__init.nd rfl (.inl rfl))) (gs_cons (g_nm (pg_name (i := 6) sc_Lattice__init.nd rfl (.inl rfl))) gs_nil)))) (fun _ _ _ _ _ => s_ifs0) (fun _ _ _ _ _ => (s_tup (s_cons (s_var (pe_var (i := 5) rfl (.inl rfl))) (s_cons (s_var (pe_var (i := 6) rfl (.inl rfl))) s_nil))))))) (T.cls 51) (T.noat 54)))))))))
theorem ok_Lattice__init (T : Fx fa fn g) : ∃ fd, FunD g.K "__init__" "Lattice.__init__" (defArgs s_Lattice__init) (defBody s_Lattice__init) (defScope s_Lattice__init) [] [] (He.fAd g.K d_Lattice__init.at_) fd ∧ DefOkG g 4 (He.fAd g.K d_Lattice__init.at_) fd ["self", "prices", "rates", "steps"] F_Lattice__init := by
  obtain ⟨fd, F⟩ := T.c.def_ 28 (d := d_Lattice__init) rfl
  exact ⟨fd, F, def_ok F sc_Lattice__init rfl fun cd A outer s H E hr => sb_Lattice__init T hr⟩
theorem make_Lattice__init (T : Fx fa fn g) : MakeOk g 4 "Lattice" [] F_Lattice__init := by
  obtain ⟨fd, F, D⟩ := ok_Lattice__init T
  exact ⟨_, fd, ["self", "prices", "rates", "steps"], [], [], T.mkr 55, D, T.glo 56, F.bindsN fun _ _ _ _ _ _ us hl => match us, hl with | [_, _, _, _], _ => rfl, .nil, fun _ _ => rfl⟩
/-! ### _law_web -/
abbrev N_law_web : List Str := ["_law_web_here"]
theorem sc_law_web : FnScope N_law_web ["_law_web_here"] (defScope s_law_web) := ⟨rfl, rfl, rfl, by decide +kernel, rfl, by decide +kernel, by decide +kernel⟩
theorem sb_law_web (T : Fx fa fn g) {f : Addr} {cd : Value} {A : Around} {outer : List Env} {s : Shared} {H : Hp} {E : XK} (hr : Room 5 (A.deeper (envOfC "_law_web" (defScope s_law_web) s.heap.objs.size f cd))) :
    SimB (cxg g N_law_web "_law_web" (defScope s_law_web) f cd A outer s H E) m_law_web (defBody s_law_web) :=
  (b_one (s_ret (s_mk (make_Lattice__init T) (hr.mono (by decide)) rfl (s_cons (s_ix (o_ix (room_u hr)) (s_var (pe_var (i := 0) rfl (.inl rfl))) s_str (fun _ _ => rfl)) (s_cons (s_ix (o_ix (room_u hr)) (s_var (pe_var (i := 0) rfl (.inl rfl))) s_str (fun _ _ => rfl)) (s_cons (s_ix (o_ix (room_u hr)) (s_var (pe_var (i := 0) rfl (.inl rfl))) s_str (fun _ _ => rfl)) s_nil))))))
theorem ok_law_web (T : Fx fa fn g) : ∃ fd, FunD g.K "_law_web" "_law_web" (defArgs s_law_web) (defBody s_law_web) (defScope s_law_web) [] [] (He.fAd g.K d_law_web.at_) fd ∧ DefOkG g 6 (He.fAd g.K d_law_web.at_) fd ["_law_web_here"] F_law_web := by
  obtain ⟨fd, F⟩ := T.c.def_ 29 (d := d_law_web) rfl
  exact ⟨fd, F, def_ok F sc_law_web rfl fun cd A outer s H E hr => sb_law_web T hr⟩
theorem call_law_web (T : Fx fa fn g) : CallOk g 6 "_law_web" [] F_law_web := by
  obtain ⟨fd, F, D⟩ := ok_law_web T
  exact call_of D F (T.glo 57) (F.bindsN fun _ _ _ _ _ _ us hl => match us, hl with | [_], _ => rfl)
/-! ### _law_same -/
abbrev N_law_same : List Str := ["_law_found", "_law_due", "_law_one_here", "_law_other"]
theorem sc_law_same : FnScope N_law_same ["_law_found", "_law_due"] (defScope s_law_same) := ⟨rfl, rfl, rfl, by decide +kernel, rfl, by decide +kernel, by decide +kernel⟩
theorem sb_law_same {k : Nat} {F : Fn} (T : Fx fa fn g) (C : CallOk g (0 + k) "_law_same" [] F) {f : Addr} {cd : Value} {A : Around} {outer : List Env} {s : Shared} {H : Hp} {E : XK} (hr : Room (0 + k) (A.deeper (envOfC "_law_same" (defScope s_law_same) s.heap.objs.size f cd))) :
    SimB (cxg g N_law_same "_law_same" (defScope s_law_same) f cd A outer s H E) (m_law_same F) (defBody s_law_same) :=
  (b_cons (s_ifS (s_cmpT o_is (s_var (pe_var (i := 1) rfl (.inl rfl))) s_non (nomark _)) (b_one (s_ret (s_cmp o_is (s_var (pe_var (i := 0) rfl (.inl rfl))) s_non (nomark _)))) b_nil)
  (b_cons (s_ifS (s_pw (s_orW (s_truth (s_callB (c_isi) rfl (T.free 58) (by decide +kernel) (s_cons (s_var (pe_var (i := 1) rfl (.inl rfl))) (s_cons (s_ty (T := "list") rfl (T.free 1) (by decide +kernel)) s_nil))) (fun _ => rfl)) (s_or1 (s_truth (s_callB (c_isi) rfl (T.free 58) (by decide +kernel) (s_cons (s_var (pe_var (i := 1) rfl (.inl rfl))) (s_cons (s_ty (T := "tuple") rfl (T.free 59) (by decide +kernel)) s_nil))) (fun _ => rfl))))) (b_cons (s_ifS (s_pw (s_orW (s_cmpT (o_ne (room_u hr)) (s_callB (c_isi) rfl (T.free 58) (by decide +kernel) (s_cons (s_var (pe_var (i := 0) rfl (.inl rfl))) (s_cons (s_ty (T := "list") rfl (T.free 1) (by decide +kernel)) s_nil))) (s_callB (c_isi) rfl (T.free 58) (by decide +kernel) (s_cons (s_var (pe_var (i := 1) rfl (.inl rfl))) (s_cons (s_ty (T := "list") rfl (T.free 1) (by decide +kernel)) s_nil))) (nomark _)) (s_or1 (s_cmpT (o_ne (room_u hr)) (s_callB (c_isi) rfl (T.free 58) (by decide +kernel) (s_cons (s_var (pe_var (i := 0) rfl (.inl rfl))) (s_cons (s_ty (T := "tuple") rfl (T.free 59) (by decide +kernel)) s_nil))) (s_callB (c_isi) rfl (T.free 58) (by decide +kernel) (s_cons (s_var (pe_var (i := 1) rfl (.inl rfl))) (s_cons (s_ty (T := "tuple") rfl (T.free 59) (by decide +kernel)) s_nil))) (nomark _))))) (b_one (s_ret s_bl)) b_nil)
  (b_one (s_ret (s_andE (s_cmp (o_eq (room_u hr)) (s_callB (c_len) rfl (T.free 0) (by decide +kernel) (s_cons (s_var (pe_var (i := 0) rfl (.inl rfl))) s_nil)) (s_callB (c_len) rfl (T.free 0) (by decide +kernel) (s_cons (s_var (pe_var (i := 1) rfl (.inl rfl))) s_nil)) (nomark _)) (s_one (s_callB (c_all rfl) rfl (T.free 61) (by decide +kernel) (s_cons (s_lc (own := [("_law_one_here", 2), ("_law_other", 3)]) rfl sc_law_same.nd (by decide) (s_zip rfl (T.free 60) (s_cons (s_var (pe_var (i := 0) rfl (.inl rfl))) (s_cons (s_var (pe_var (i := 1) rfl (.inl rfl))) s_nil))) (blkOk_by (N := N_law_same) (sc := defScope s_law_same) (by decide +kernel)) (fun _ _ _ _ _ => (g_tup rfl (gs_cons (g_nm (pg_name (i := 2) sc_law_same.nd rfl (.inl rfl))) (gs_cons (g_nm (pg_name (i := 3) sc_law_same.nd rfl (.inl rfl))) gs_nil)))) (fun _ _ _ _ _ => s_ifs0) (fun _ _ _ _ _ => (s_call C (hr.mono (by omega)) rfl (s_cons (s_var (pe_var (i := 2) rfl (.inl rfl))) (s_cons (s_var (pe_var (i := 3) rfl (.inl rfl))) s_nil))))) s_nil))))))) b_nil)
  (b_cons (s_ifS (s_pw (s_orW (s_cmpT (o_ne (room_u hr)) (s_callB (c_isi) rfl (T.free 58) (by decide +kernel) (s_cons (s_var (pe_var (i := 1) rfl (.inl rfl))) (s_cons (s_ty (T := "bool") rfl (T.free 62) (by decide +kernel)) s_nil))) (s_callB (c_isi) rfl (T.free 58) (by decide +kernel) (s_cons (s_var (pe_var (i := 0) rfl (.inl rfl))) (s_cons (s_ty (T := "bool") rfl (T.free 62) (by decide +kernel)) s_nil))) (nomark _)) (s_or1 (s_cmpT (o_ne (room_u hr)) (s_callB (c_isi) rfl (T.free 58) (by decide +kernel) (s_cons (s_var (pe_var (i := 1) rfl (.inl rfl))) (s_cons (s_ty (T := "int") rfl (T.free 63) (by decide +kernel)) s_nil))) (s_callB (c_isi) rfl (T.free 58) (by decide +kernel) (s_cons (s_var (pe_var (i := 0) rfl (.inl rfl))) (s_cons (s_ty (T := "int") rfl (T.free 63) (by decide +kernel)) s_nil))) (nomark _))))) (b_one (s_ret s_bl)) b_nil)
  (b_one (s_ret (s_andE (s_cmp (o_eq (room_u hr)) (s_callB (c_isi) rfl (T.free 58) (by decide +kernel) (s_cons (s_var (pe_var (i := 0) rfl (.inl rfl))) (s_cons (s_ty (T := "str") rfl (T.free 64) (by decide +kernel)) s_nil))) (s_callB (c_isi) rfl (T.free 58) (by decide +kernel) (s_cons (s_var (pe_var (i := 1) rfl (.inl rfl))) (s_cons (s_ty (T := "str") rfl (T.free 64) (by decide +kernel)) s_nil))) (nomark _)) (s_one (s_cmp (o_eq (room_u hr)) (s_var (pe_var (i := 0) rfl (.inl rfl))) (s_var (pe_var (i := 1) rfl (.inl rfl))) (nomark _)))))))))
theorem ok_law_same (T : Fx fa fn g) : ∃ fd, FunD g.K "_law_same" "_law_same" (defArgs s_law_same) (defBody s_law_same) (defScope s_law_same) [] [] (He.fAd g.K d_law_same.at_) fd ∧ ∀ n, DefOkG g (0 + n) (He.fAd g.K d_law_same.at_) fd ["_law_found", "_law_due"] (F_law_same n) := by
  obtain ⟨fd, F⟩ := T.c.def_ 30 (d := d_law_same) rfl
  have b := F.bindsN (ps := ["_law_found", "_law_due"]) fun _ _ _ _ _ _ us hl => match us, hl with | [_, _], _ => rfl
  refine ⟨fd, F, fun n => ?_⟩
  induction n with
  | zero => exact def_bad
  | succ n ih => exact def_ok F sc_law_same rfl fun cd A outer s H E hr => sb_law_same (k := n) T (call_of ih F (T.glo 65) b) hr
theorem call_law_same (T : Fx fa fn g) : CallOk g 8 "_law_same" [] (F_law_same 8) := by
  obtain ⟨fd, F, D⟩ := ok_law_same T
  exact call_of (D 8) F (T.glo 65) (F.bindsN fun _ _ _ _ _ _ us hl => match us, hl with | [_, _], _ => rfl)
/-! ### law -/
abbrev N_law : List Str := ["_law_script", "_law_box_here", "_law_turn", "_law_web_here", "_law_bend", "_law_due", "_law_told", "_law_handed"]
theorem sc_law : FnScope N_law ["_law_script"] (defScope s_law) := ⟨rfl, rfl, rfl, by decide +kernel, rfl, by decide +kernel, by decide +kernel⟩
theorem lam_law_mem : ((("law", none), (("law" : Str) ++ (".<locals>." : Str)) ++ ("<lambda>" : Str)) : He.Defn × Str) ∈ lamTl := List.Mem.head _
theorem lam_law_tb (T : Fx fa fn g) : LamX.TabB g.base g.mg (He.cT g.K ("law", none)).1 (He.cT g.K ("law", none)).2 := T.tb _ lam_law_mem
theorem lam_law_in (K : PySem.W.Frag) : ((He.cT K ("law", none)).2, (("law" : Str) ++ (".<locals>." : Str)) ++ ("<lambda>" : Str)) ∈ lamT K := List.Mem.head _
theorem lam_law_only (K : PySem.W.Frag) : ∀ p ∈ lamT K, p.1 = (He.cT K ("law", none)).2 → p.2 = (("law" : Str) ++ (".<locals>." : Str)) ++ ("<lambda>" : Str) := fun p hp _ => by
  cases hp with
  | head => rfl
  | tail _ h => cases h
theorem sb_law (T : Fx fa fn g) {f : Addr} {cd : Value} {A : Around} {outer : List Env} {s : Shared} {H : Hp} {E : XK} (hcd : cd = .ref (He.cT g.K ("law", none)).1) (hr : Room 8 (A.deeper (envOfC "law" (defScope s_law) s.heap.objs.size f cd))) :
    SimB (cxg g N_law "law" (defScope s_law) f cd A outer s H E) m_law (defBody s_law) :=
  (b_cons (s_set (i := 1) sc_law.nd rfl (.inl rfl) (s_call (call_law_box T) (hr.mono (by decide)) rfl (s_cons (s_var (pe_var (i := 0) rfl (.inl rfl))) s_nil)))
  (b_cons (s_for (passes_of rfl) rfl (s_rng1 rfl (T.free 3) (s_cons s_int s_nil)) (g_nm (pg_name (i := 2) sc_law.nd rfl (.inl rfl))) (b_cons (s_set (i := 3) sc_law.nd rfl (.inl rfl) (s_call (call_law_loose T) (hr.mono (by decide)) rfl (s_cons (s_var (pe_var (i := 1) rfl (.inl rfl))) (s_cons (s_bin o_add s_int (s_call (call_law_take T) (hr.mono (by decide)) rfl (s_cons (s_var (pe_var (i := 1) rfl (.inl rfl))) (s_cons s_int s_nil)))) (s_cons (s_bin o_add s_int (s_call (call_law_take T) (hr.mono (by decide)) rfl (s_cons (s_var (pe_var (i := 1) rfl (.inl rfl))) (s_cons s_int s_nil)))) s_nil)))))
  (b_cons (s_for (passes_of rfl) rfl (s_rng1 rfl (T.free 3) (s_cons (s_bin o_add s_int (s_call (call_law_take T) (hr.mono (by decide)) rfl (s_cons (s_var (pe_var (i := 1) rfl (.inl rfl))) (s_cons s_int s_nil)))) s_nil)) (g_nm (pg_name (i := 4) sc_law.nd rfl (.inl rfl))) (b_one (s_ifS (s_cmpT (o_ne (room_u hr)) (s_ix (o_ix (room_u hr)) (s_var (pe_var (i := 3) rfl (.inl rfl))) s_str (fun _ _ => rfl)) (s_lst s_nil) (nomark _)) (b_one (s_ex (s_call (call_law_bent T) (hr.mono (by decide)) rfl (s_cons (s_var (pe_var (i := 1) rfl (.inl rfl))) (s_cons (s_var (pe_var (i := 3) rfl (.inl rfl))) s_nil))))) b_nil)))
  (b_cons (s_set (i := 7) sc_law.nd rfl (.inr rfl) (s_call (call_law_copy_web T) (hr.mono (by decide)) rfl (s_cons (s_var (pe_var (i := 3) rfl (.inl rfl))) s_nil)))
  (b_cons (s_set (i := 5) sc_law.nd rfl (.inl rfl) (s_call (call_law_first_bad T) (hr.mono (by decide)) rfl (s_cons (s_var (pe_var (i := 3) rfl (.inl rfl))) s_nil)))
  (b_cons (s_set (i := 6) sc_law.nd rfl (.inl rfl) (s_lam (k := 6) (c := (He.cT g.K ("law", none)).1) (P := (He.cT g.K ("law", none)).2) (qn := ("law" : Str) ++ (".<locals>." : Str)) rfl (why_law_why T 6) T.xt rfl (lam_law_tb T) (by exact hcd) (lam_law_in g.K) (lam_law_only g.K) (hr.mono (by decide)) (LamX.lamS_by (sc := defScope s_law) (by decide +kernel)) (hbody := fun A outer s H E f c' hr2 => (s_call (call_law_web T) (hr2.mono (by decide)) rfl (s_cons (s_var (pe_var (i := 7) rfl (.inr (.inr rfl)))) s_nil)))))
  (b_one (s_ifS (s_pw (s_orW (s_cmpT (o_ne (room_u hr)) (s_var (pe_var (i := 7) rfl (.inr (.inl rfl)))) (s_var (pe_var (i := 3) rfl (.inl rfl))) (nomark _)) (s_orW (s_pw (s_andW (s_cmpT o_isnot (s_var (pe_var (i := 5) rfl (.inl rfl))) s_non (nomark _)) (s_and1 (s_notT (s_truth (s_call (call_law_same T) (hr.mono (by decide)) rfl (s_cons (s_var (pe_var (i := 6) rfl (.inl rfl))) (s_cons (s_var (pe_var (i := 5) rfl (.inl rfl))) s_nil))) (fun _ => rfl)))))) (s_or1 (s_pw (s_andW (s_cmpT o_is (s_var (pe_var (i := 5) rfl (.inl rfl))) s_non (nomark _)) (s_and1 (s_cmpT (o_ne (room_u hr)) (s_ix (o_ix (room_u hr)) (s_var (pe_var (i := 6) rfl (.inl rfl))) s_int (fun _ _ => rfl)) s_str (nomark _))))))))) (b_one (s_ret s_bl)) b_nil))))))))
  (b_one (s_ret s_bl))))
theorem ok_law (T : Fx fa fn g) : ∃ fd, FunD g.K "law" "law" (defArgs s_law) (defBody s_law) (defScope s_law) [] [] (He.fAd g.K d_law.at_) fd ∧ DefOkG g 9 (He.fAd g.K d_law.at_) fd ["_law_script"] F_law := by
  obtain ⟨fd, F⟩ := T.c.def_ 31 (d := d_law) rfl
  exact ⟨fd, F, def_okC (p := ("law", none)) F sc_law rfl fun cd A outer s H E hcd hr => sb_law T hcd hr⟩
end
end Cl
namespace Cl
open PySem PySem.Spec PyProof.Rows L2
/-! ## lists in a heap -/
theorem lstAt_set {h : CH} {n : Nat} {ds : List Dt} (hl : n < h.length) : lstAt (h.set n (.lst ds)) n = some ds := by
  unfold lstAt
  rw [List.getElem?_set_self hl]
theorem lstAt_set_ne {h : CH} {n m : Nat} {c : Ce} (hn : n ≠ m) : lstAt (h.set n c) m = lstAt h m := by
  unfold lstAt
  rw [List.getElem?_set_ne hn]
theorem lstAt_app {h : CH} {n : Nat} {c : CH} (hl : n < h.length) : lstAt (h ++ c) n = lstAt h n := by
  unfold lstAt
  rw [List.getElem?_append_left hl]
theorem lstAt_new {h : CH} {ds : List Dt} : lstAt (h ++ [.lst ds]) h.length = some ds := by
  unfold lstAt
  simp
theorem lstAt_lt {h : CH} {n : Nat} {ds : List Dt} (e : lstAt h n = some ds) : n < h.length := by
  unfold lstAt at e
  by_cases hl : n < h.length
  · exact hl
  · rw [List.getElem?_eq_none (by omega)] at e; cases e
theorem lstAt_get {h : CH} {n : Nat} {ds : List Dt} (e : lstAt h n = some ds) : h[n]? = some (.lst ds) := by
  unfold lstAt at e
  split at e
  · rename_i e2; cases e; exact e2
  · cases e
theorem atI_mem {α : Type} {xs : List α} {i : Int} (h0 : 0 ≤ i) (h1 : i < xs.length) : ∃ x, xs[i.toNat]? = some x ∧ atI xs i = some x := by
  have hl : i.toNat < xs.length := by omega
  refine ⟨xs[i.toNat], by simp [hl], ?_⟩
  unfold atI ixN
  rw [if_pos h0, if_pos h1]
  simp [hl]
section
variable {α : Type} {a b c d : α}
theorem at4_0 : atI [a, b, c, d] 0 = some a := rfl
theorem at4_1 : atI [a, b, c, d] 1 = some b := rfl
theorem at4_2 : atI [a, b, c, d] 2 = some c := rfl
theorem at4_3 : atI [a, b, c, d] 3 = some d := rfl
theorem at3_0 : atI [a, b, c] 0 = some a := rfl
theorem at3_1 : atI [a, b, c] 1 = some b := rfl
theorem at3_2 : atI [a, b, c] 2 = some c := rfl
theorem at2_0 : atI [a, b] 0 = some a := rfl
theorem at2_1 : atI [a, b] 1 = some b := rfl
theorem at1_0 : atI [a] 0 = some a := rfl
theorem ix4_0 : ixN 4 0 = some 0 := rfl
theorem ix4_1 : ixN 4 1 = some 1 := rfl
theorem ix4_2 : ixN 4 2 = some 2 := rfl
theorem ix4_3 : ixN 4 3 = some 3 := rfl
end
theorem pGt_int {i j : Int} {h : CH} : pGt (.int i) (.int j) h = some (.bl (decide (j < i)), h) := rfl
theorem pLt_int {i j : Int} {h : CH} : pLt (.int i) (.int j) h = some (.bl (decide (i < j)), h) := rfl
theorem pLe_int {i j : Int} {h : CH} : pLe (.int i) (.int j) h = some (.bl (decide (i ≤ j)), h) := rfl
theorem pGe_int {i j : Int} {h : CH} : pGe (.int i) (.int j) h = some (.bl (decide (j ≤ i)), h) := rfl
theorem pSub_int {i j : Int} {h : CH} : pSub (.int i) (.int j) h = some (.int (i - j), h) := rfl
theorem sz : sizeLine = 16777216 := sizeLine_eq
theorem eqB_int {i j : Int} {h : CH} : eqB (.int i) (.int j) h = some (i == j) := rfl
theorem pEq_int {i j : Int} {h : CH} : pEq (.int i) (.int j) h = some (.bl (i == j), h) := rfl
theorem pAdd_int {i j : Int} {h : CH} : pAdd (.int i) (.int j) h = some (.int (i + j), h) := rfl
theorem pIxR {n : Nat} {i : Int} {h : CH} {ds : List Dt} (e : lstAt h n = some ds) : pIx (.ref n) (.int i) h = (atI ds i).map fun d => (d, h) := by
  dsimp only [pIx]; rw [e]
theorem pIxT {i : Int} {h : CH} {ds : List Dt} : pIx (.tup ds) (.int i) h = (atI ds i).map fun d => (d, h) := rfl
theorem pLenR {n : Nat} {h : CH} {ds : List Dt} (e : lstAt h n = some ds) : pLen [.ref n] h = some (.int (ds.length : Nat), h) := by
  dsimp only [pLen, lenD]; rw [e]; rfl
theorem pPutR {n : Nat} {i : Int} {v : Dt} {h : CH} {ds : List Dt} (e : lstAt h n = some ds) : pPut (.ref n) (.int i) v h = (ixN ds.length i).map fun j => h.set n (.lst (ds.set j v)) := by
  dsimp only [pPut]; rw [e]
theorem pMul_int {i j : Int} {h : CH} (e : i.natAbs.log2 + j.natAbs.log2 < 1000000) : pMul (.int i) (.int j) h = some (.int (i * j), h) := by
  dsimp only [pMul]; rw [if_pos e]
theorem log_le {i : Int} (n : Nat) (h : i.natAbs < 2 ^ (n + 1)) : i.natAbs.log2 ≤ n := by
  by_cases hz : i.natAbs = 0
  · rw [hz]; simp
  · have := (Nat.log2_lt hz).mpr h
    omega
/-- small numbers -/
def Sm (i : Int) : Prop := i.natAbs < 2 ^ 300
theorem pMul_sm {i j : Int} {h : CH} (a : Sm i) (b : Sm j) : pMul (.int i) (.int j) h = some (.int (i * j), h) := by
  have h1 := log_le 299 a
  have h2 := log_le 299 b
  exact pMul_int (by omega)
theorem pFdiv_sm {i j : Int} {h : CH} (h0 : 0 < j) (b : Sm j) : pFdiv (.int i) (.int j) h = some (.int (i / j), h) := by
  have h2 := log_le 299 b
  show (if (decide (0 < j) && decide (j.natAbs.log2 < 9000)) = true then some (Dt.int (i / j), h) else none) = _
  rw [if_pos (by simp [h0]; omega)]
theorem pMod_sm {i j : Int} {h : CH} (h0 : 0 < j) : pMod (.int i) (.int j) h = some (.int (i % j), h) := by
  show (if decide (0 < j) = true then some (Dt.int (i % j), h) else none) = _
  rw [if_pos (by simp [h0])]
theorem sm_lit {i : Int} (n : Nat) (hn : n ≤ 300) (h : i.natAbs < 2 ^ n) : Sm i := Nat.lt_of_lt_of_le h (Nat.pow_le_pow_right (by decide) hn)
theorem sm_32 {i : Int} (h0 : -4294967296 ≤ i) (h1 : i ≤ 4294967296) : Sm i := by
  refine sm_lit 64 (by decide) ?_
  have : (2 : Nat) ^ 64 = 18446744073709551616 := by decide
  omega
/-- the box that draws: at b; its numbers at c -/
structure Box (h : CH) (b c : Nat) (zs : List Int) : Prop where
  at_ : ∃ i big seed : Int, lstAt h b = some [.ref c, .int i, .int big, .int seed] ∧ 0 ≤ i ∧ i ≤ 63 ∧ 0 ≤ big ∧ 0 ≤ seed ∧ seed < 4294967296
  nums : lstAt h c = some (zs.map .int)
  ne : b ≠ c
  few : zs.length ≤ 63
theorem Box.upd {h : CH} {b c : Nat} {zs : List Int} (B : Box h b c zs) {i big seed : Int} (h0 : 0 ≤ i) (h1 : i ≤ 63) (h2 : 0 ≤ big) (h3 : 0 ≤ seed) (h4 : seed < 4294967296) : Box (h.set b (.lst [.ref c, .int i, .int big, .int seed])) b c zs := by
  obtain ⟨⟨i', big', seed', hb, _⟩, hc, ne, few⟩ := B
  exact ⟨⟨i, big, seed, lstAt_set (lstAt_lt hb), h0, h1, h2, h3, h4⟩, by rw [lstAt_set_ne ne]; exact hc, ne, few⟩
abbrev TakeP (h : CH) (b c : Nat) (zs : List Int) (m : Int) : Dt → CH → Prop := fun d h' => ∃ t cell, d = .int t ∧ 0 ≤ t ∧ t < m ∧ h' = h.set b cell ∧ Box h' b c zs
def take2 : MS := sSeq m_law_take_9 (sSeq m_law_take_10 (sSeq m_law_take_11 m_law_take_12))
/-- the second half of a draw -/
theorem take2_spec {h : CH} {b c : Nat} {zs : List Int} {m : Int} {x y z : Option Dt} (B : Box h b c zs) (h0 : 0 < m) (hm : m < 4294967296) :
    (take2 [some (.ref b), some (.int m), x, y, z] h).sat (fun _ _ => False) (TakeP h b c zs m) noE := by
  obtain ⟨i, big, seed, hb, i0, i1, g0, s0, s1⟩ := B.at_
  have hlt := lstAt_lt hb
  have sm : Sm m := sm_32 (by omega) (by omega)
  have ss : Sm seed := sm_32 (by omega) (by omega)
  have si : Sm i := sm_32 (by omega) (by omega)
  have hlt2 : ∀ c, b < (h.set b c).length := by intro c; simpa using hlt
  have sA : Sm (30269 : Int) := sm_32 (by omega) (by omega)
  have sB : Sm (101 : Int) := sm_32 (by omega) (by omega)
  have sC : Sm (11 : Int) := sm_32 (by omega) (by omega)
  have sD : Sm (53 : Int) := sm_32 (by omega) (by omega)
  unfold take2 m_law_take_9 m_law_take_10 m_law_take_11 m_law_take_12 m_law_take_6 m_law_take_7
  simp only [sat_ok, sat_bind, sat_pr, sat_opt, sat_eC, sat_eVar, sat_eBin, sat_eUn, sat_mBl, sat_mTru, sat_mNot, sat_mAnd, sat_mOr, sat_eAnd, sat_eOr, sat_eNot, sat_eIf, sat_eChain, sat_aNil, sat_aCons, sat_ofLen, sat_eTup, sat_eLst, sat_eBlt, sat_eMth, sat_oNone, sat_oSome, sat_eSl, sat_eFn, sat_eFnK, sat_sNext, sat_sSeq, sat_sEx, sat_sRet, sat_sRetN, sat_sIf, sat_sSet, sat_sPar, sat_sPar3, sat_sStore, sat_sRaise, sat_sFor, sat_mSeq, sat_mRange, sat_mEnum, sat_mZip, sat_eLc, sat_eLenSet, sat_eDic, sat_evalP, sat_evalP0, sat_eFld, sat_sFldS, sat_eMk, sat_init, List.getElem?_cons_zero, List.getElem?_cons_succ, List.map_cons, List.map_nil, List.length_cons, List.length_nil, List.replicate, List.nil_append, List.cons_append, List.append_nil, bindP, bindPs, setR, List.set_cons_zero, List.set_cons_succ, asBl, Nat.sub_self, Nat.reduceSub, Nat.reduceAdd, pIxR hb, at4_0, at4_1, at4_2, at4_3, at3_0, at3_1, at3_2, at2_0, at2_1, at1_0, ix4_0, ix4_1, ix4_2, ix4_3, Option.map_some, pMod_sm h0, pFdiv_sm h0 sm, pPutR hb, pGt_int, decide_eq_true_eq, pMul_sm ss ss, pMul_sm ss sA, pMul_sm si sB, pAdd_int]
  split
  · rename_i hg
    exact ⟨_, _, rfl, Int.emod_nonneg _ (by omega), Int.emod_lt_of_pos _ h0, rfl, B.upd i0 i1 (Int.ediv_nonneg g0 (by omega)) s0 s1⟩
  · have hM : (0 : Int) < 2147482951 := by omega
    have e1 := Int.emod_nonneg (seed * seed + seed * 30269 + 7919 + i * 101) (b := 2147482951) (by omega)
    have e2 := Int.emod_lt_of_pos (seed * seed + seed * 30269 + 7919 + i * 101) hM
    simp only [sat_ok, sat_bind, sat_pr, sat_opt, sat_eC, sat_eVar, sat_eBin, sat_eUn, sat_mBl, sat_mTru, sat_mNot, sat_mAnd, sat_mOr, sat_eAnd, sat_eOr, sat_eNot, sat_eIf, sat_eChain, sat_aNil, sat_aCons, sat_ofLen, sat_eTup, sat_eLst, sat_eBlt, sat_eMth, sat_oNone, sat_oSome, sat_eSl, sat_eFn, sat_eFnK, sat_sNext, sat_sSeq, sat_sEx, sat_sRet, sat_sRetN, sat_sIf, sat_sSet, sat_sPar, sat_sPar3, sat_sStore, sat_sRaise, sat_sFor, sat_mSeq, sat_mRange, sat_mEnum, sat_mZip, sat_eLc, sat_eLenSet, sat_eDic, sat_evalP, sat_evalP0, sat_eFld, sat_sFldS, sat_eMk, sat_init, List.getElem?_cons_zero, List.getElem?_cons_succ, List.map_cons, List.map_nil, List.length_cons, List.length_nil, List.replicate, List.nil_append, List.cons_append, List.append_nil, bindP, bindPs, setR, List.set_cons_zero, List.set_cons_succ, asBl, Nat.sub_self, Nat.reduceSub, Nat.reduceAdd, pMod_sm hM, pPutR hb, at4_0, at4_1, at4_2, at4_3, at3_0, at3_1, at3_2, at2_0, at2_1, at1_0, ix4_0, ix4_1, ix4_2, ix4_3, Option.map_some]
    generalize (seed * seed + seed * 30269 + 7919 + i * 101) % 2147482951 = z at e1 e2
    have sz' : Sm z := sm_32 (by omega) (by omega)
    have sy : Sm (z % 9973) := by
      have f1 := Int.emod_nonneg z (b := 9973) (by omega)
      have f2 := Int.emod_lt_of_pos z (b := 9973) (by omega)
      exact sm_32 (by omega) (by omega)
    have hb2 : lstAt (h.set b (.lst [.ref c, .int i, .int big, .int z])) b = some [.ref c, .int i, .int big, .int z] := lstAt_set hlt
    simp only [sat_ok, sat_bind, sat_pr, sat_opt, sat_eC, sat_eVar, sat_eBin, sat_eUn, sat_mBl, sat_mTru, sat_mNot, sat_mAnd, sat_mOr, sat_eAnd, sat_eOr, sat_eNot, sat_eIf, sat_eChain, sat_aNil, sat_aCons, sat_ofLen, sat_eTup, sat_eLst, sat_eBlt, sat_eMth, sat_oNone, sat_oSome, sat_eSl, sat_eFn, sat_eFnK, sat_sNext, sat_sSeq, sat_sEx, sat_sRet, sat_sRetN, sat_sIf, sat_sSet, sat_sPar, sat_sPar3, sat_sStore, sat_sRaise, sat_sFor, sat_mSeq, sat_mRange, sat_mEnum, sat_mZip, sat_eLc, sat_eLenSet, sat_eDic, sat_evalP, sat_evalP0, sat_eFld, sat_sFldS, sat_eMk, sat_init, List.getElem?_cons_zero, List.getElem?_cons_succ, List.map_cons, List.map_nil, List.length_cons, List.length_nil, List.replicate, List.nil_append, List.cons_append, List.append_nil, bindP, bindPs, setR, List.set_cons_zero, List.set_cons_succ, asBl, Nat.sub_self, Nat.reduceSub, Nat.reduceAdd, pIxR hb2, at4_0, at4_1, at4_2, at4_3, at3_0, at3_1, at3_2, at2_0, at2_1, at1_0, ix4_0, ix4_1, ix4_2, ix4_3, Option.map_some, pFdiv_sm (show (0 : Int) < 11 by omega) sC, pMod_sm (show (0 : Int) < 9973 by omega), pMul_sm sy sD, pAdd_int, pMod_sm h0]
    exact ⟨_, _, rfl, Int.emod_nonneg _ (by omega), Int.emod_lt_of_pos _ h0, rfl, B.upd i0 i1 g0 e1 (by omega)⟩
theorem Box.mono {h h' : CH} {b c : Nat} {zs : List Int} (B : Box h b c zs) (e1 : lstAt h' b = lstAt h b) (e2 : lstAt h' c = lstAt h c) : Box h' b c zs := by
  obtain ⟨h1, h2, h3, h4⟩ := B
  exact ⟨by rw [e1]; exact h1, by rw [e2]; exact h2, h3, h4⟩
theorem take_spec {h : CH} {b c : Nat} {zs : List Int} {m : Int} (B : Box h b c zs) (h0 : 0 < m) (hm : m < 4294967296) :
    (F_law_take [.ref b, .int m] h).sat (TakeP h b c zs m) noE := by
  obtain ⟨i, big, seed, hb, i0, i1, g0, s0, s1⟩ := B.at_
  have hlt := lstAt_lt hb
  have hc := B.nums
  have few := B.few
  refine sat_run rfl ?_
  show ((sSeq m_law_take_8 take2) [some (.ref b), some (.int m), none, none, none] h).sat _ _ _
  have go : ∀ {x y z : Option Dt} {h' : CH} {cell : Ce}, h' = h.set b cell → Box h' b c zs → (take2 [some (.ref b), some (.int m), x, y, z] h').sat (fun _ h' => TakeP h b c zs m .non h') (TakeP h b c zs m) noE := by
    intro x y z h' cell eh B'
    refine OS.sat.mono (take2_spec B' h0 hm) (fun _ _ z => z.elim) (fun d h2 q => ?_) fun _ _ _ z => z
    obtain ⟨t, cell2, e1, t0, t1, e2, B2⟩ := q
    exact ⟨t, cell2, e1, t0, t1, by rw [e2, eh, List.set_set], B2⟩
  rw [sat_sSeq]
  unfold m_law_take_8
  rw [sat_sIf]
  simp only [sat_mAnd, sat_mBl, sat_eBin, sat_eVar, sat_eC, sat_eBlt, sat_aCons, sat_aNil, List.getElem?_cons_zero, List.getElem?_cons_succ, List.map_cons, List.map_nil, List.length_cons, List.length_nil, List.replicate, List.nil_append, List.cons_append, List.append_nil, Nat.sub_self, Nat.reduceSub, Nat.reduceAdd, List.set_cons_zero, List.set_cons_succ, sat_pr, sat_opt, asBl, pIxR hb, at4_0, at4_1, at4_2, at4_3, at3_0, at3_1, at3_2, at2_0, at2_1, at1_0, ix4_0, ix4_1, ix4_2, ix4_3, Option.map_some, pEq_int, pLenR hc, pLt_int]
  have hself : h.set b (.lst [.ref c, .int i, .int big, .int seed]) = h := by
    have := lstAt_get hb
    exact List.ext_getElem? fun k => by
      by_cases hk : b = k
      · subst hk; rw [List.getElem?_set_self hlt, this]
      · rw [List.getElem?_set_ne hk]
  by_cases hbig : big = 0
  · subst hbig
    rw [if_pos (by simp)]
    by_cases hi : i < ((zs.map Dt.int).length : Nat)
    · rw [decide_eq_true hi, if_pos rfl]
      obtain ⟨x, hx, hxi⟩ := atI_mem (xs := zs.map Dt.int) i0 hi
      obtain ⟨cell, rfl⟩ : ∃ cell, x = .int cell := by
        rw [List.getElem?_map] at hx
        cases q : zs[i.toNat]? with
        | none => rw [q] at hx; cases hx
        | some w => rw [q] at hx; cases hx; exact ⟨w, rfl⟩
      have i2 : i + 1 ≤ 63 := by rw [List.length_map] at hi; omega
      have hb1 : lstAt (h.set b (.lst [.ref c, .int (i + 1), .int 0, .int seed])) b = some [.ref c, .int (i + 1), .int 0, .int seed] := lstAt_set hlt
      have ss : Sm seed := sm_32 (by omega) (by omega)
      have si : Sm (i + 1) := sm_32 (by omega) (by omega)
      have sA : Sm (69069 : Int) := sm_32 (by omega) (by omega)
      have sB : Sm (1299721 : Int) := sm_32 (by omega) (by omega)
      have sC : Sm (7 : Int) := sm_32 (by omega) (by omega)
      have sy : Sm (cell % 2147483587) := by
        have f1 := Int.emod_nonneg cell (b := 2147483587) (by omega)
        have f2 := Int.emod_lt_of_pos cell (b := 2147483587) (by omega)
        exact sm_32 (by omega) (by omega)
      have p18 : pPow (.int 10) (.int 18) (h.set b (.lst [.ref c, .int (i + 1), .int 0, .int seed])) = some (.int 1000000000000000000, h.set b (.lst [.ref c, .int (i + 1), .int 0, .int seed])) := rfl
      unfold m_law_take_3 m_law_take_4 m_law_take_5 m_law_take_1 m_law_take_2
      simp only [sat_ok, sat_bind, sat_pr, sat_opt, sat_eC, sat_eVar, sat_eBin, sat_eUn, sat_mBl, sat_mTru, sat_mNot, sat_mAnd, sat_mOr, sat_eAnd, sat_eOr, sat_eNot, sat_eIf, sat_eChain, sat_aNil, sat_aCons, sat_ofLen, sat_eTup, sat_eLst, sat_eBlt, sat_eMth, sat_oNone, sat_oSome, sat_eSl, sat_eFn, sat_eFnK, sat_sNext, sat_sSeq, sat_sEx, sat_sRet, sat_sRetN, sat_sIf, sat_sSet, sat_sPar, sat_sPar3, sat_sStore, sat_sRaise, sat_sFor, sat_mSeq, sat_mRange, sat_mEnum, sat_mZip, sat_eLc, sat_eLenSet, sat_eDic, sat_evalP, sat_evalP0, sat_eFld, sat_sFldS, sat_eMk, sat_init, List.getElem?_cons_zero, List.getElem?_cons_succ, List.map_cons, List.map_nil, List.length_cons, List.length_nil, List.replicate, List.nil_append, List.cons_append, List.append_nil, bindP, bindPs, setR, List.set_cons_zero, List.set_cons_succ, asBl, Nat.sub_self, Nat.reduceSub, Nat.reduceAdd, pIxR hb, at4_0, at4_1, at4_2, at4_3, at3_0, at3_1, at3_2, at2_0, at2_1, at1_0, ix4_0, ix4_1, ix4_2, ix4_3, Option.map_some, pIxR hc, hxi, pAdd_int, pPutR hb, p18, pGe_int, decide_eq_true_eq]
      split
      · rename_i hge
        simp only [sat_ok, sat_bind, sat_pr, sat_opt, sat_eC, sat_eVar, sat_eBin, sat_eUn, sat_mBl, sat_mTru, sat_mNot, sat_mAnd, sat_mOr, sat_eAnd, sat_eOr, sat_eNot, sat_eIf, sat_eChain, sat_aNil, sat_aCons, sat_ofLen, sat_eTup, sat_eLst, sat_eBlt, sat_eMth, sat_oNone, sat_oSome, sat_eSl, sat_eFn, sat_eFnK, sat_sNext, sat_sSeq, sat_sEx, sat_sRet, sat_sRetN, sat_sIf, sat_sSet, sat_sPar, sat_sPar3, sat_sStore, sat_sRaise, sat_sFor, sat_mSeq, sat_mRange, sat_mEnum, sat_mZip, sat_eLc, sat_eLenSet, sat_eDic, sat_evalP, sat_evalP0, sat_eFld, sat_sFldS, sat_eMk, sat_init, List.getElem?_cons_zero, List.getElem?_cons_succ, List.map_cons, List.map_nil, List.length_cons, List.length_nil, List.replicate, List.nil_append, List.cons_append, List.append_nil, bindP, bindPs, setR, List.set_cons_zero, List.set_cons_succ, asBl, Nat.sub_self, Nat.reduceSub, Nat.reduceAdd, pPutR hb1, at4_0, at4_1, at4_2, at4_3, at3_0, at3_1, at3_2, at2_0, at2_1, at1_0, ix4_0, ix4_1, ix4_2, ix4_3, Option.map_some, List.set_set]
        exact go rfl (by have := B.upd (i := i + 1) (big := cell) (by omega) i2 (by omega) s0 s1; exact this)
      · have hM : (0 : Int) < 2147482951 := by omega
        simp only [sat_ok, sat_bind, sat_pr, sat_opt, sat_eC, sat_eVar, sat_eBin, sat_eUn, sat_mBl, sat_mTru, sat_mNot, sat_mAnd, sat_mOr, sat_eAnd, sat_eOr, sat_eNot, sat_eIf, sat_eChain, sat_aNil, sat_aCons, sat_ofLen, sat_eTup, sat_eLst, sat_eBlt, sat_eMth, sat_oNone, sat_oSome, sat_eSl, sat_eFn, sat_eFnK, sat_sNext, sat_sSeq, sat_sEx, sat_sRet, sat_sRetN, sat_sIf, sat_sSet, sat_sPar, sat_sPar3, sat_sStore, sat_sRaise, sat_sFor, sat_mSeq, sat_mRange, sat_mEnum, sat_mZip, sat_eLc, sat_eLenSet, sat_eDic, sat_evalP, sat_evalP0, sat_eFld, sat_sFldS, sat_eMk, sat_init, List.getElem?_cons_zero, List.getElem?_cons_succ, List.map_cons, List.map_nil, List.length_cons, List.length_nil, List.replicate, List.nil_append, List.cons_append, List.append_nil, bindP, bindPs, setR, List.set_cons_zero, List.set_cons_succ, asBl, Nat.sub_self, Nat.reduceSub, Nat.reduceAdd, pIxR hb1, at4_0, at4_1, at4_2, at4_3, at3_0, at3_1, at3_2, at2_0, at2_1, at1_0, ix4_0, ix4_1, ix4_2, ix4_3, Option.map_some, pMul_sm ss sA, pMul_sm si sB, pAdd_int, pMod_sm (show (0 : Int) < 2147483587 by omega), pMul_sm sy sC, pMod_sm hM, pPutR hb1, List.set_set]
        exact go rfl (B.upd (by omega) i2 (by omega) (Int.emod_nonneg _ (by omega)) (Int.lt_trans (Int.emod_lt_of_pos _ hM) (by omega)))
    · rw [decide_eq_false hi, if_neg Bool.false_ne_true]
      rw [sat_sNext]
      exact go (cell := .lst [.ref c, .int i, .int 0, .int seed]) hself.symm B
  · rw [if_neg (by simp [hbig]), if_neg Bool.false_ne_true, sat_sNext]
    exact go (cell := .lst [.ref c, .int i, .int big, .int seed]) hself.symm B

end Cl
namespace Cl
open PySem PySem.Spec PyProof.Rows L2
/-! ## numbers: the law's fractions -/
theorem sat_eq {o : Out Dt} {x : Dt} {h : CH} (s : o.sat (fun d h' => d = x ∧ h' = h) noE) : o = .ok x h := by
  cases o with
  | ok a h2 => obtain ⟨rfl, rfl⟩ := s; rfl
  | exc c fs h2 => exact (show False from s).elim
  | bad => exact (show False from s).elim
/-- below 2 ^ n in size -/
def Bd (n : Nat) (i : Int) : Prop := i.natAbs < 2 ^ n
theorem Bd.le {n m : Nat} {i : Int} (h : Bd n i) (hn : n ≤ m) : Bd m i := Nat.lt_of_lt_of_le h (Nat.pow_le_pow_right (by decide) hn)
theorem Bd.sm {n : Nat} {i : Int} (h : Bd n i) (hn : n ≤ 300 := by decide) : Sm i := h.le hn
theorem Bd.mul {n m : Nat} {i j : Int} (a : Bd n i) (b : Bd m j) : Bd (n + m) (i * j) := by
  unfold Bd at *
  rw [Int.natAbs_mul, Nat.pow_add]
  exact Nat.mul_lt_mul'' a b
theorem Bd.add {n : Nat} {i j : Int} (a : Bd n i) (b : Bd n j) : Bd (n + 1) (i + j) := by
  unfold Bd at *
  rw [Nat.pow_succ]
  have := Int.natAbs_add_le i j
  omega
theorem Bd.sub {n : Nat} {i j : Int} (a : Bd n i) (b : Bd n j) : Bd (n + 1) (i - j) := by
  unfold Bd at *
  rw [Nat.pow_succ]
  have := Int.natAbs_sub_le i j
  omega
theorem Bd.div {n : Nat} {i j : Int} (a : Bd n i) (h0 : 0 < j) : Bd n (i / j) := by
  unfold Bd at *
  have h1 := Int.natAbs_ediv_le_natAbs i j
  omega
theorem bd_10 {i : Int} (h0 : -1024 < i) (h1 : i < 1024) : Bd 10 i := by
  unfold Bd
  have : (2 : Nat) ^ 10 = 1024 := by decide
  omega
theorem common_loop {P : Rho → CH → Prop} {Rt : Dt → CH → Prop} {E : ExP} {h : CH} : ∀ (n x y : Nat), y < n → P [some (.int (Nat.gcd x y)), some (.int 0)] h →
    (sWh (mBl (eBin pGt (eVar 1) (eC (.int (0))))) m_law_common_1 n [some (.int x), some (.int y)] h).sat P Rt E
  | 0, _, _, hn, _ => absurd hn (Nat.not_lt_zero _)
  | n + 1, x, y, hn, hp => by
    refine sat_sWh ?_
    simp only [sat_ok, sat_bind, sat_pr, sat_opt, sat_eC, sat_eVar, sat_eBin, sat_eUn, sat_mBl, sat_mTru, sat_mNot, sat_mAnd, sat_mOr, sat_eAnd, sat_eOr, sat_eNot, sat_eIf, sat_eChain, sat_aNil, sat_aCons, sat_ofLen, sat_eTup, sat_eLst, sat_eBlt, sat_eMth, sat_oNone, sat_oSome, sat_eSl, sat_eFn, sat_eFnK, sat_sNext, sat_sSeq, sat_sEx, sat_sRet, sat_sRetN, sat_sIf, sat_sSet, sat_sPar, sat_sPar3, sat_sStore, sat_sRaise, sat_sFor, sat_mSeq, sat_mRange, sat_mEnum, sat_mZip, sat_eLc, sat_eLenSet, sat_eDic, sat_evalP, sat_evalP0, sat_eFld, sat_sFldS, sat_eMk, sat_init, List.getElem?_cons_zero, List.getElem?_cons_succ, List.map_cons, List.map_nil, List.length_cons, List.length_nil, List.replicate, List.nil_append, List.cons_append, List.append_nil, bindP, bindPs, setR, List.set_cons_zero, List.set_cons_succ, asBl, Nat.sub_self, Nat.reduceSub, Nat.reduceAdd, pGt_int, decide_eq_true_eq]
    by_cases hy : y = 0
    · subst hy
      rw [if_neg (by simp)]
      simpa using hp
    · have hpos : (0 : Int) < (y : Int) := by omega
      rw [if_pos hpos]
      unfold m_law_common_1
      simp only [sat_ok, sat_bind, sat_pr, sat_opt, sat_eC, sat_eVar, sat_eBin, sat_eUn, sat_mBl, sat_mTru, sat_mNot, sat_mAnd, sat_mOr, sat_eAnd, sat_eOr, sat_eNot, sat_eIf, sat_eChain, sat_aNil, sat_aCons, sat_ofLen, sat_eTup, sat_eLst, sat_eBlt, sat_eMth, sat_oNone, sat_oSome, sat_eSl, sat_eFn, sat_eFnK, sat_sNext, sat_sSeq, sat_sEx, sat_sRet, sat_sRetN, sat_sIf, sat_sSet, sat_sPar, sat_sPar3, sat_sStore, sat_sRaise, sat_sFor, sat_mSeq, sat_mRange, sat_mEnum, sat_mZip, sat_eLc, sat_eLenSet, sat_eDic, sat_evalP, sat_evalP0, sat_eFld, sat_sFldS, sat_eMk, sat_init, List.getElem?_cons_zero, List.getElem?_cons_succ, List.map_cons, List.map_nil, List.length_cons, List.length_nil, List.replicate, List.nil_append, List.cons_append, List.append_nil, bindP, bindPs, setR, List.set_cons_zero, List.set_cons_succ, asBl, Nat.sub_self, Nat.reduceSub, Nat.reduceAdd, pMod_sm hpos]
      have e : ((x : Int) % (y : Int)) = ((x % y : Nat) : Int) := by omega
      rw [e]
      refine common_loop n y (x % y) (by have := Nat.mod_lt x (by omega : y > 0); omega) ?_
      have e2 : Nat.gcd y (x % y) = Nat.gcd x y := by
        rw [Nat.gcd_comm x y]
        rw [Nat.gcd_rec y x, Nat.gcd_comm]
      rw [e2]
      exact hp
theorem abs_eq (i : Int) : (if i < 0 then -i else i) = (i.natAbs : Int) := by
  split <;> omega
theorem common_eq {a b : Int} {h : CH} (hb : b.natAbs < 1000000000000000000000000000000) : F_law_common [.int a, .int b] h = .ok (.int (Int.gcd a b : Nat)) h := by
  refine sat_eq (sat_run rfl ?_)
  unfold m_law_common m_law_common_2
  simp only [sat_ok, sat_bind, sat_pr, sat_opt, sat_eC, sat_eVar, sat_eBin, sat_eUn, sat_mBl, sat_mTru, sat_mNot, sat_mAnd, sat_mOr, sat_eAnd, sat_eOr, sat_eNot, sat_eIf, sat_eChain, sat_aNil, sat_aCons, sat_ofLen, sat_eTup, sat_eLst, sat_eBlt, sat_eMth, sat_oNone, sat_oSome, sat_eSl, sat_eFn, sat_eFnK, sat_sNext, sat_sSeq, sat_sEx, sat_sRet, sat_sRetN, sat_sIf, sat_sSet, sat_sPar, sat_sPar3, sat_sStore, sat_sRaise, sat_sFor, sat_mSeq, sat_mRange, sat_mEnum, sat_mZip, sat_eLc, sat_eLenSet, sat_eDic, sat_evalP, sat_evalP0, sat_eFld, sat_sFldS, sat_eMk, sat_init, List.getElem?_cons_zero, List.getElem?_cons_succ, List.map_cons, List.map_nil, List.length_cons, List.length_nil, List.replicate, List.nil_append, List.cons_append, List.append_nil, bindP, bindPs, setR, List.set_cons_zero, List.set_cons_succ, asBl, Nat.sub_self, Nat.reduceSub, Nat.reduceAdd, pAbs, abs_eq]
  unfold m_law_common_3
  refine common_loop _ _ _ hb ?_
  simp only [sat_ok, sat_bind, sat_pr, sat_opt, sat_eC, sat_eVar, sat_eBin, sat_eUn, sat_mBl, sat_mTru, sat_mNot, sat_mAnd, sat_mOr, sat_eAnd, sat_eOr, sat_eNot, sat_eIf, sat_eChain, sat_aNil, sat_aCons, sat_ofLen, sat_eTup, sat_eLst, sat_eBlt, sat_eMth, sat_oNone, sat_oSome, sat_eSl, sat_eFn, sat_eFnK, sat_sNext, sat_sSeq, sat_sEx, sat_sRet, sat_sRetN, sat_sIf, sat_sSet, sat_sPar, sat_sPar3, sat_sStore, sat_sRaise, sat_sFor, sat_mSeq, sat_mRange, sat_mEnum, sat_mZip, sat_eLc, sat_eLenSet, sat_eDic, sat_evalP, sat_evalP0, sat_eFld, sat_sFldS, sat_eMk, sat_init, List.getElem?_cons_zero, List.getElem?_cons_succ, List.map_cons, List.map_nil, List.length_cons, List.length_nil, List.replicate, List.nil_append, List.cons_append, List.append_nil, bindP, bindPs, setR, List.set_cons_zero, List.set_cons_succ, asBl, Nat.sub_self, Nat.reduceSub, Nat.reduceAdd]
  exact ⟨rfl, trivial⟩
abbrev Q2 := Int × Int
/-- a fraction as the law holds it -/
def am (x : Q2) : Dt := .tup [.int x.1, .int x.2]
def lowP (a b : Int) : Q2 := (a / (Int.gcd a b : Nat), b / (Int.gcd a b : Nat))
structure Am (n : Nat) (x : Q2) : Prop where
  pos : 0 < x.2
  n1 : Bd n x.1
  n2 : Bd n x.2
theorem Am.le {n m : Nat} {x : Q2} (a : Am n x) (h : n ≤ m) : Am m x := ⟨a.pos, a.n1.le h, a.n2.le h⟩
theorem gcd_pos {a b : Int} (hb : 0 < b) : (0 : Int) < (Int.gcd a b : Nat) := by
  have : 0 < Int.gcd a b := Int.gcd_pos_of_ne_zero_right a (by omega)
  omega
theorem low_am {n : Nat} {a b : Int} (hb : 0 < b) (ha : Bd n a) (hb2 : Bd n b) : Am n (lowP a b) := by
  have hg := gcd_pos (a := a) hb
  refine ⟨?_, ha.div hg, hb2.div hg⟩
  obtain ⟨k, hk⟩ := Int.gcd_dvd_right a b
  show 0 < b / (Int.gcd a b : Nat)
  have e : b / ((Int.gcd a b : Nat) : Int) = k := by
    conv => lhs; lhs; rw [hk]
    rw [Int.mul_ediv_cancel_left _ (by omega)]
  rw [e]
  by_cases h : k ≤ 0
  · have := Int.mul_nonpos_of_nonneg_of_nonpos (Int.le_of_lt hg) h
    omega
  · omega
theorem two90 : (2 : Nat) ^ 90 < 1000000000000000000000000000000 := by decide
theorem low_eq {n : Nat} {a b : Int} {h : CH} (hb : 0 < b) (ha : Bd n a) (hb2 : Bd 90 b) (hn : n ≤ 300 := by decide) : F_law_low [.int a, .int b] h = .ok (am (lowP a b)) h := by
  have hg := gcd_pos (a := a) hb
  have g2 : Bd 90 ((Int.gcd a b : Nat) : Int) := by
    have : Int.gcd a b ∣ b.natAbs := Nat.gcd_dvd_right _ _
    have := Nat.le_of_dvd (by omega) this
    unfold Bd at *
    simp only [Int.natAbs_natCast]
    omega
  refine sat_eq (sat_run rfl ?_)
  unfold m_law_low m_law_low_1 m_law_low_2
  simp only [sat_ok, sat_bind, sat_pr, sat_opt, sat_eC, sat_eVar, sat_eBin, sat_eUn, sat_mBl, sat_mTru, sat_mNot, sat_mAnd, sat_mOr, sat_eAnd, sat_eOr, sat_eNot, sat_eIf, sat_eChain, sat_aNil, sat_aCons, sat_ofLen, sat_eTup, sat_eLst, sat_eBlt, sat_eMth, sat_oNone, sat_oSome, sat_eSl, sat_eFn, sat_eFnK, sat_sNext, sat_sSeq, sat_sEx, sat_sRet, sat_sRetN, sat_sIf, sat_sSet, sat_sPar, sat_sPar3, sat_sStore, sat_sRaise, sat_sFor, sat_mSeq, sat_mRange, sat_mEnum, sat_mZip, sat_eLc, sat_eLenSet, sat_eDic, sat_evalP, sat_evalP0, sat_eFld, sat_sFldS, sat_eMk, sat_init, List.getElem?_cons_zero, List.getElem?_cons_succ, List.map_cons, List.map_nil, List.length_cons, List.length_nil, List.replicate, List.nil_append, List.cons_append, List.append_nil, bindP, bindPs, setR, List.set_cons_zero, List.set_cons_succ, asBl, Nat.sub_self, Nat.reduceSub, Nat.reduceAdd, common_eq (Nat.lt_trans hb2 two90), pFdiv_sm hg g2.sm, sz, Nat.reduceLeDiff, if_true]
  exact ⟨rfl, trivial⟩
theorem at_am0 {x : Q2} {h : CH} : pIx (am x) (.int 0) h = some (.int x.1, h) := rfl
theorem at_am1 {x : Q2} {h : CH} : pIx (am x) (.int 1) h = some (.int x.2, h) := rfl
def sumP (x y : Q2) : Q2 := lowP (x.1 * y.2 + y.1 * x.2) (x.2 * y.2)
def lessP (x y : Q2) : Q2 := lowP (x.1 * y.2 - y.1 * x.2) (x.2 * y.2)
def prodP (x y : Q2) : Q2 := lowP (x.1 * y.1) (x.2 * y.2)
def shareP (x y : Q2) : Q2 := lowP (x.1 * y.2) (x.2 * y.1)
theorem sum_am {n m : Nat} {x y : Q2} (a : Am n x) (b : Am m y) : Am (n + m + 1) (sumP x y) :=
  low_am (Int.mul_pos a.pos b.pos) ((a.n1.mul b.n2).add ((b.n1.mul a.n2).le (by omega))) ((a.n2.mul b.n2).le (by omega))
theorem less_am {n m : Nat} {x y : Q2} (a : Am n x) (b : Am m y) : Am (n + m + 1) (lessP x y) :=
  low_am (Int.mul_pos a.pos b.pos) ((a.n1.mul b.n2).sub ((b.n1.mul a.n2).le (by omega))) ((a.n2.mul b.n2).le (by omega))
theorem prod_am {n m : Nat} {x y : Q2} (a : Am n x) (b : Am m y) : Am (n + m) (prodP x y) :=
  low_am (Int.mul_pos a.pos b.pos) (a.n1.mul b.n1) (a.n2.mul b.n2)
theorem share_am {n m : Nat} {x y : Q2} (a : Am n x) (b : Am m y) (hp : 0 < y.1) : Am (n + m) (shareP x y) :=
  low_am (Int.mul_pos a.pos hp) (a.n1.mul b.n2) (a.n2.mul b.n1)
theorem Am.s1 {n : Nat} {x : Q2} (a : Am n x) (hn : n ≤ 90 := by omega) : Sm x.1 := a.n1.le (by omega)
theorem Am.s2 {n : Nat} {x : Q2} (a : Am n x) (hn : n ≤ 90 := by omega) : Sm x.2 := a.n2.le (by omega)
theorem under_eq {x y : Q2} {h : CH} (a : Sm x.1 ∧ Sm x.2) (b : Sm y.1 ∧ Sm y.2) : F_law_under [am x, am y] h = .ok (.bl (decide (x.1 * y.2 < y.1 * x.2))) h := by
  refine sat_eq (sat_run rfl ?_)
  unfold m_law_under
  simp only [sat_ok, sat_bind, sat_pr, sat_opt, sat_eC, sat_eVar, sat_eBin, sat_eUn, sat_mBl, sat_mTru, sat_mNot, sat_mAnd, sat_mOr, sat_eAnd, sat_eOr, sat_eNot, sat_eIf, sat_eChain, sat_aNil, sat_aCons, sat_ofLen, sat_eTup, sat_eLst, sat_eBlt, sat_eMth, sat_oNone, sat_oSome, sat_eSl, sat_eFn, sat_eFnK, sat_sNext, sat_sSeq, sat_sEx, sat_sRet, sat_sRetN, sat_sIf, sat_sSet, sat_sPar, sat_sPar3, sat_sStore, sat_sRaise, sat_sFor, sat_mSeq, sat_mRange, sat_mEnum, sat_mZip, sat_eLc, sat_eLenSet, sat_eDic, sat_evalP, sat_evalP0, sat_eFld, sat_sFldS, sat_eMk, sat_init, List.getElem?_cons_zero, List.getElem?_cons_succ, List.map_cons, List.map_nil, List.length_cons, List.length_nil, List.replicate, List.nil_append, List.cons_append, List.append_nil, bindP, bindPs, setR, List.set_cons_zero, List.set_cons_succ, asBl, Nat.sub_self, Nat.reduceSub, Nat.reduceAdd, at_am0, at_am1, pMul_sm a.1 b.2, pMul_sm b.1 a.2, pLt_int]
  exact ⟨trivial, trivial⟩
section
variable {n m : Nat} {x y : Q2} {h : CH} (a : Am n x) (b : Am m y) (hn : n + m ≤ 89)
include a b hn
theorem sum_eq : F_law_sum [am x, am y] h = .ok (am (sumP x y)) h := by
  refine sat_eq (sat_run rfl ?_)
  unfold m_law_sum
  have e := low_eq (h := h) (Int.mul_pos a.pos b.pos) ((a.n1.mul b.n2).add ((b.n1.mul a.n2).le (by omega))) ((a.n2.mul b.n2).le (by omega)) (by omega)
  simp only [sat_ok, sat_bind, sat_pr, sat_opt, sat_eC, sat_eVar, sat_eBin, sat_eUn, sat_mBl, sat_mTru, sat_mNot, sat_mAnd, sat_mOr, sat_eAnd, sat_eOr, sat_eNot, sat_eIf, sat_eChain, sat_aNil, sat_aCons, sat_ofLen, sat_eTup, sat_eLst, sat_eBlt, sat_eMth, sat_oNone, sat_oSome, sat_eSl, sat_eFn, sat_eFnK, sat_sNext, sat_sSeq, sat_sEx, sat_sRet, sat_sRetN, sat_sIf, sat_sSet, sat_sPar, sat_sPar3, sat_sStore, sat_sRaise, sat_sFor, sat_mSeq, sat_mRange, sat_mEnum, sat_mZip, sat_eLc, sat_eLenSet, sat_eDic, sat_evalP, sat_evalP0, sat_eFld, sat_sFldS, sat_eMk, sat_init, List.getElem?_cons_zero, List.getElem?_cons_succ, List.map_cons, List.map_nil, List.length_cons, List.length_nil, List.replicate, List.nil_append, List.cons_append, List.append_nil, bindP, bindPs, setR, List.set_cons_zero, List.set_cons_succ, asBl, Nat.sub_self, Nat.reduceSub, Nat.reduceAdd, at_am0, at_am1, pMul_sm a.s1 b.s2, pMul_sm b.s1 a.s2, pMul_sm a.s2 b.s2, pAdd_int, e]
  exact ⟨rfl, trivial⟩
theorem less_eq : F_law_less_by [am x, am y] h = .ok (am (lessP x y)) h := by
  refine sat_eq (sat_run rfl ?_)
  unfold m_law_less_by
  have e := low_eq (h := h) (Int.mul_pos a.pos b.pos) ((a.n1.mul b.n2).sub ((b.n1.mul a.n2).le (by omega))) ((a.n2.mul b.n2).le (by omega)) (by omega)
  simp only [sat_ok, sat_bind, sat_pr, sat_opt, sat_eC, sat_eVar, sat_eBin, sat_eUn, sat_mBl, sat_mTru, sat_mNot, sat_mAnd, sat_mOr, sat_eAnd, sat_eOr, sat_eNot, sat_eIf, sat_eChain, sat_aNil, sat_aCons, sat_ofLen, sat_eTup, sat_eLst, sat_eBlt, sat_eMth, sat_oNone, sat_oSome, sat_eSl, sat_eFn, sat_eFnK, sat_sNext, sat_sSeq, sat_sEx, sat_sRet, sat_sRetN, sat_sIf, sat_sSet, sat_sPar, sat_sPar3, sat_sStore, sat_sRaise, sat_sFor, sat_mSeq, sat_mRange, sat_mEnum, sat_mZip, sat_eLc, sat_eLenSet, sat_eDic, sat_evalP, sat_evalP0, sat_eFld, sat_sFldS, sat_eMk, sat_init, List.getElem?_cons_zero, List.getElem?_cons_succ, List.map_cons, List.map_nil, List.length_cons, List.length_nil, List.replicate, List.nil_append, List.cons_append, List.append_nil, bindP, bindPs, setR, List.set_cons_zero, List.set_cons_succ, asBl, Nat.sub_self, Nat.reduceSub, Nat.reduceAdd, at_am0, at_am1, pMul_sm a.s1 b.s2, pMul_sm b.s1 a.s2, pMul_sm a.s2 b.s2, pSub_int, e]
  exact ⟨rfl, trivial⟩
theorem prod_eq : F_law_product [am x, am y] h = .ok (am (prodP x y)) h := by
  refine sat_eq (sat_run rfl ?_)
  unfold m_law_product
  have e := low_eq (h := h) (Int.mul_pos a.pos b.pos) (a.n1.mul b.n1) ((a.n2.mul b.n2).le (by omega)) (by omega)
  simp only [sat_ok, sat_bind, sat_pr, sat_opt, sat_eC, sat_eVar, sat_eBin, sat_eUn, sat_mBl, sat_mTru, sat_mNot, sat_mAnd, sat_mOr, sat_eAnd, sat_eOr, sat_eNot, sat_eIf, sat_eChain, sat_aNil, sat_aCons, sat_ofLen, sat_eTup, sat_eLst, sat_eBlt, sat_eMth, sat_oNone, sat_oSome, sat_eSl, sat_eFn, sat_eFnK, sat_sNext, sat_sSeq, sat_sEx, sat_sRet, sat_sRetN, sat_sIf, sat_sSet, sat_sPar, sat_sPar3, sat_sStore, sat_sRaise, sat_sFor, sat_mSeq, sat_mRange, sat_mEnum, sat_mZip, sat_eLc, sat_eLenSet, sat_eDic, sat_evalP, sat_evalP0, sat_eFld, sat_sFldS, sat_eMk, sat_init, List.getElem?_cons_zero, List.getElem?_cons_succ, List.map_cons, List.map_nil, List.length_cons, List.length_nil, List.replicate, List.nil_append, List.cons_append, List.append_nil, bindP, bindPs, setR, List.set_cons_zero, List.set_cons_succ, asBl, Nat.sub_self, Nat.reduceSub, Nat.reduceAdd, at_am0, at_am1, pMul_sm a.s1 b.s1, pMul_sm a.s2 b.s2, e]
  exact ⟨rfl, trivial⟩
theorem share_eq (hp : 0 < y.1) : F_law_share_of [am x, am y] h = .ok (am (shareP x y)) h := by
  refine sat_eq (sat_run rfl ?_)
  unfold m_law_share_of m_law_share_of_1 m_law_share_of_2
  have e := low_eq (h := h) (Int.mul_pos a.pos hp) (a.n1.mul b.n2) ((a.n2.mul b.n1).le (by omega)) (by omega)
  have hn : ¬ y.1 < 0 := by omega
  simp only [sat_ok, sat_bind, sat_pr, sat_opt, sat_eC, sat_eVar, sat_eBin, sat_eUn, sat_mBl, sat_mTru, sat_mNot, sat_mAnd, sat_mOr, sat_eAnd, sat_eOr, sat_eNot, sat_eIf, sat_eChain, sat_aNil, sat_aCons, sat_ofLen, sat_eTup, sat_eLst, sat_eBlt, sat_eMth, sat_oNone, sat_oSome, sat_eSl, sat_eFn, sat_eFnK, sat_sNext, sat_sSeq, sat_sEx, sat_sRet, sat_sRetN, sat_sIf, sat_sSet, sat_sPar, sat_sPar3, sat_sStore, sat_sRaise, sat_sFor, sat_mSeq, sat_mRange, sat_mEnum, sat_mZip, sat_eLc, sat_eLenSet, sat_eDic, sat_evalP, sat_evalP0, sat_eFld, sat_sFldS, sat_eMk, sat_init, List.getElem?_cons_zero, List.getElem?_cons_succ, List.map_cons, List.map_nil, List.length_cons, List.length_nil, List.replicate, List.nil_append, List.cons_append, List.append_nil, bindP, bindPs, setR, List.set_cons_zero, List.set_cons_succ, asBl, Nat.sub_self, Nat.reduceSub, Nat.reduceAdd, at_am0, at_am1, pLt_int, decide_eq_true_eq, if_neg hn, pMul_sm a.s1 b.s2, pMul_sm a.s2 b.s1, e]
  exact ⟨rfl, trivial⟩
end

end Cl
namespace Cl
open PySem PySem.Spec PyProof.Rows L2
/-! ## what a draw leaves as it was -/
structure Grow (b : Nat) (h h' : CH) : Prop where
  len : h.length ≤ h'.length
  same : ∀ n, n < h.length → n ≠ b → h'[n]? = h[n]?
theorem Grow.refl {b : Nat} {h : CH} : Grow b h h := ⟨Nat.le_refl _, fun _ _ _ => rfl⟩
theorem Grow.trans {b : Nat} {h h1 h2 : CH} (x : Grow b h h1) (y : Grow b h1 h2) : Grow b h h2 := ⟨Nat.le_trans x.len y.len, fun n hn ne => (y.same n (Nat.lt_of_lt_of_le hn x.len) ne).trans (x.same n hn ne)⟩
theorem Grow.set {b : Nat} {h : CH} {c : Ce} : Grow b h (h.set b c) := ⟨by simp, fun n _ ne => List.getElem?_set_ne (Ne.symm ne)⟩
theorem Grow.app {b : Nat} {h l : CH} : Grow b h (h ++ l) := ⟨by simp, fun n hn _ => List.getElem?_append_left hn⟩
theorem Grow.at_ {b n : Nat} {h h' : CH} {ds : List Dt} (g : Grow b h h') (e : lstAt h n = some ds) (ne : n ≠ b) : lstAt h' n = some ds := by
  have := lstAt_get e
  unfold lstAt
  rw [g.same n (lstAt_lt e) ne, this]
theorem Box.app {h l : CH} {b c : Nat} {zs : List Int} (B : Box h b c zs) : Box (h ++ l) b c zs := by
  obtain ⟨i, big, seed, hb, _⟩ := B.at_
  exact B.mono (lstAt_app (lstAt_lt hb)) (lstAt_app (lstAt_lt B.nums))
theorem Box.lt {h : CH} {b c : Nat} {zs : List Int} (B : Box h b c zs) : b < h.length := by
  obtain ⟨i, big, seed, hb, _⟩ := B.at_
  exact lstAt_lt hb
/-- with a box, something grown -/
structure BG (b c : Nat) (zs : List Int) (h h' : CH) : Prop where
  g : Grow b h h'
  box : Box h' b c zs
theorem BG.trans {b c : Nat} {zs : List Int} {h h1 h2 : CH} (x : BG b c zs h h1) (y : BG b c zs h1 h2) : BG b c zs h h2 := ⟨x.g.trans y.g, y.box⟩
theorem BG.refl {b c : Nat} {zs : List Int} {h : CH} (B : Box h b c zs) : BG b c zs h h := ⟨.refl, B⟩
theorem BG.app {b c : Nat} {zs : List Int} {h h1 l : CH} (x : BG b c zs h h1) : BG b c zs h (h1 ++ l) := ⟨x.g.trans .app, x.box.app⟩
theorem draw {h : CH} {b c : Nat} {zs : List Int} {m : Int} (B : Box h b c zs) (h0 : 0 < m) (hm : m < 4294967296) : (F_law_take [.ref b, .int m] h).sat (fun d h' => ∃ t, d = .int t ∧ 0 ≤ t ∧ t < m ∧ BG b c zs h h' ∧ h'.length = h.length) noE :=
  (take_spec B h0 hm).to fun d h' ⟨t, cell, e, t0, t1, eh, B'⟩ => ⟨t, e, t0, t1, ⟨by rw [eh]; exact .set, B'⟩, by rw [eh]; simp⟩
section
variable {α : Type} {a b c d e f : α}
theorem at6 {t : Int} (h0 : 0 ≤ t) (h1 : t < 6) : atI [a, b, c, d, e, f] t = some a ∨ atI [a, b, c, d, e, f] t = some b ∨ atI [a, b, c, d, e, f] t = some c ∨ atI [a, b, c, d, e, f] t = some d ∨ atI [a, b, c, d, e, f] t = some e ∨ atI [a, b, c, d, e, f] t = some f := by
  have : t = 0 ∨ t = 1 ∨ t = 2 ∨ t = 3 ∨ t = 4 ∨ t = 5 := by omega
  rcases this with rfl | rfl | rfl | rfl | rfl | rfl
  · exact .inl rfl
  · exact .inr (.inl rfl)
  · exact .inr (.inr (.inl rfl))
  · exact .inr (.inr (.inr (.inl rfl)))
  · exact .inr (.inr (.inr (.inr (.inl rfl))))
  · exact .inr (.inr (.inr (.inr (.inr rfl))))
end
/-- a price: above nought -/
structure Pri (x : Q2) : Prop where
  am : Am 7 x
  up : 0 < x.1
theorem low_up {a b : Int} (ha : 0 < a) (hb : 0 < b) : 0 < (lowP a b).1 := by
  have hg := gcd_pos (a := a) hb
  obtain ⟨k, hk⟩ := Int.gcd_dvd_left a b
  show 0 < a / (Int.gcd a b : Nat)
  have e : a / ((Int.gcd a b : Nat) : Int) = k := by
    conv => lhs; lhs; rw [hk]
    rw [Int.mul_ediv_cancel_left _ (by omega)]
  rw [e]
  by_cases h : k ≤ 0
  · have := Int.mul_nonpos_of_nonneg_of_nonpos (Int.le_of_lt hg) h
    omega
  · omega
theorem bd7 {i : Int} (h0 : -128 < i) (h1 : i < 128) : Bd 7 i := by
  unfold Bd
  have : (2 : Nat) ^ 7 = 128 := by decide
  omega
theorem above_spec {h : CH} {b c : Nat} {zs : List Int} {m : Int} (B : Box h b c zs) (h0 : 0 < m) (hm : m ≤ 40) : (F_law_above [.ref b, .int m] h).sat (fun d h' => ∃ x, d = am x ∧ Pri x ∧ BG b c zs h h') noE := by
  refine sat_run rfl ?_
  unfold m_law_above
  simp only [sat_ok, sat_bind, sat_pr, sat_opt, sat_eC, sat_eVar, sat_eBin, sat_eUn, sat_mBl, sat_mTru, sat_mNot, sat_mAnd, sat_mOr, sat_eAnd, sat_eOr, sat_eNot, sat_eIf, sat_eChain, sat_aNil, sat_aCons, sat_ofLen, sat_eTup, sat_eLst, sat_eBlt, sat_eMth, sat_oNone, sat_oSome, sat_eSl, sat_eFn, sat_eFnK, sat_sNext, sat_sSeq, sat_sEx, sat_sRet, sat_sRetN, sat_sIf, sat_sSet, sat_sPar, sat_sPar3, sat_sStore, sat_sRaise, sat_sFor, sat_mSeq, sat_mRange, sat_mEnum, sat_mZip, sat_eLc, sat_eLenSet, sat_eDic, sat_evalP, sat_evalP0, sat_eFld, sat_sFldS, sat_eMk, sat_init, List.getElem?_cons_zero, List.getElem?_cons_succ, List.map_cons, List.map_nil, List.length_cons, List.length_nil, List.replicate, List.nil_append, List.cons_append, List.append_nil, bindP, bindPs, setR, List.set_cons_zero, List.set_cons_succ, asBl, Nat.sub_self, Nat.reduceSub, Nat.reduceAdd]
  refine (draw B h0 (by omega)).mono ?_ fun _ _ _ z => z
  rintro d h1 ⟨t, rfl, t0, t1, G1, _⟩
  simp only [sat_ok, sat_bind, sat_pr, sat_opt, sat_eC, sat_eVar, sat_eBin, sat_eUn, sat_mBl, sat_mTru, sat_mNot, sat_mAnd, sat_mOr, sat_eAnd, sat_eOr, sat_eNot, sat_eIf, sat_eChain, sat_aNil, sat_aCons, sat_ofLen, sat_eTup, sat_eLst, sat_eBlt, sat_eMth, sat_oNone, sat_oSome, sat_eSl, sat_eFn, sat_eFnK, sat_sNext, sat_sSeq, sat_sEx, sat_sRet, sat_sRetN, sat_sIf, sat_sSet, sat_sPar, sat_sPar3, sat_sStore, sat_sRaise, sat_sFor, sat_mSeq, sat_mRange, sat_mEnum, sat_mZip, sat_eLc, sat_eLenSet, sat_eDic, sat_evalP, sat_evalP0, sat_eFld, sat_sFldS, sat_eMk, sat_init, List.getElem?_cons_zero, List.getElem?_cons_succ, List.map_cons, List.map_nil, List.length_cons, List.length_nil, List.replicate, List.nil_append, List.cons_append, List.append_nil, bindP, bindPs, setR, List.set_cons_zero, List.set_cons_succ, asBl, Nat.sub_self, Nat.reduceSub, Nat.reduceAdd, pAdd_int]
  refine (draw G1.box (show (0 : Int) < 9 by omega) (by omega)).mono ?_ fun _ _ _ z => z
  rintro d h2 ⟨u, rfl, u0, u1, G2, _⟩
  simp only [sat_ok, sat_bind, sat_pr, sat_opt, sat_eC, sat_eVar, sat_eBin, sat_eUn, sat_mBl, sat_mTru, sat_mNot, sat_mAnd, sat_mOr, sat_eAnd, sat_eOr, sat_eNot, sat_eIf, sat_eChain, sat_aNil, sat_aCons, sat_ofLen, sat_eTup, sat_eLst, sat_eBlt, sat_eMth, sat_oNone, sat_oSome, sat_eSl, sat_eFn, sat_eFnK, sat_sNext, sat_sSeq, sat_sEx, sat_sRet, sat_sRetN, sat_sIf, sat_sSet, sat_sPar, sat_sPar3, sat_sStore, sat_sRaise, sat_sFor, sat_mSeq, sat_mRange, sat_mEnum, sat_mZip, sat_eLc, sat_eLenSet, sat_eDic, sat_evalP, sat_evalP0, sat_eFld, sat_sFldS, sat_eMk, sat_init, List.getElem?_cons_zero, List.getElem?_cons_succ, List.map_cons, List.map_nil, List.length_cons, List.length_nil, List.replicate, List.nil_append, List.cons_append, List.append_nil, bindP, bindPs, setR, List.set_cons_zero, List.set_cons_succ, asBl, Nat.sub_self, Nat.reduceSub, Nat.reduceAdd, pAdd_int, sz, Nat.reduceLeDiff, if_true]
  have G3 := (G1.trans G2).app (l := [.lst [.int 1, .int 1, .int 1, .int 2, .int 3, .int (1 + u)]])
  refine (draw G3.box (show (0 : Int) < 6 by omega) (by omega)).mono ?_ fun _ _ _ z => z
  rintro d h4 ⟨v, rfl, v0, v1, G4, _⟩
  have hL : lstAt h4 h2.length = some [.int 1, .int 1, .int 1, .int 2, .int 3, .int (1 + u)] := G4.g.at_ lstAt_new (by have := G2.box.lt; omega)
  have fin : ∀ w : Int, 0 < w → w < 20 → (F_law_low [.int (1 + t), .int w] h4).sat (fun d h' => ∃ x, d = am x ∧ Pri x ∧ BG b c zs h h') noE := fun w w0 w1 => by
    rw [low_eq w0 (bd7 (i := 1 + t) (by omega) (by omega)) ((bd7 (i := w) (by omega) (by omega)).le (by decide))]
    exact ⟨_, rfl, ⟨low_am w0 (bd7 (by omega) (by omega)) (bd7 (by omega) (by omega)), low_up (by omega) w0⟩, G3.trans G4⟩
  rw [pIxR hL]
  rcases at6 (a := Dt.int 1) (b := Dt.int 1) (c := Dt.int 1) (d := Dt.int 2) (e := Dt.int 3) (f := Dt.int (1 + u)) v0 v1 with e | e | e | e | e | e
  all_goals
    rw [e]
    simp only [Option.map_some, sat_ok, sat_bind, sat_pr, sat_opt, sat_eC, sat_eVar, sat_eBin, sat_eUn, sat_mBl, sat_mTru, sat_mNot, sat_mAnd, sat_mOr, sat_eAnd, sat_eOr, sat_eNot, sat_eIf, sat_eChain, sat_aNil, sat_aCons, sat_ofLen, sat_eTup, sat_eLst, sat_eBlt, sat_eMth, sat_oNone, sat_oSome, sat_eSl, sat_eFn, sat_eFnK, sat_sNext, sat_sSeq, sat_sEx, sat_sRet, sat_sRetN, sat_sIf, sat_sSet, sat_sPar, sat_sPar3, sat_sStore, sat_sRaise, sat_sFor, sat_mSeq, sat_mRange, sat_mEnum, sat_mZip, sat_eLc, sat_eLenSet, sat_eDic, sat_evalP, sat_evalP0, sat_eFld, sat_sFldS, sat_eMk, sat_init, List.getElem?_cons_zero, List.getElem?_cons_succ, List.map_cons, List.map_nil, List.length_cons, List.length_nil, List.replicate, List.nil_append, List.cons_append, List.append_nil, bindP, bindPs, setR, List.set_cons_zero, List.set_cons_succ, asBl, Nat.sub_self, Nat.reduceSub, Nat.reduceAdd]
    exact fin _ (by omega) (by omega)

end Cl
namespace Cl
open PySem PySem.Spec PyProof.Rows L2
/-! ## rows of fractions -/
/-- all but ex stays -/
structure Fr (ex : List Nat) (h h' : CH) : Prop where
  len : h.length ≤ h'.length
  same : ∀ n, n < h.length → n ∉ ex → h'[n]? = h[n]?
theorem Grow.fr {b : Nat} {h h' : CH} (g : Grow b h h') : Fr [b] h h' := ⟨g.len, fun n hn ne => g.same n hn (by simpa using ne)⟩
theorem Fr.grow {b : Nat} {h h' : CH} (g : Fr [b] h h') : Grow b h h' := ⟨g.len, fun n hn ne => g.same n hn (by simpa using ne)⟩
theorem Fr.weak {e1 e2 : List Nat} {h h' : CH} (g : Fr e1 h h') (s : ∀ n ∈ e1, n ∈ e2) : Fr e2 h h' := ⟨g.len, fun n hn ne => g.same n hn fun z => ne (s n z)⟩
theorem Fr.at_ {ex : List Nat} {n : Nat} {h h' : CH} {ds : List Dt} (g : Fr ex h h') (e : lstAt h n = some ds) (ne : n ∉ ex) : lstAt h' n = some ds := by
  have := lstAt_get e
  unfold lstAt
  rw [g.same n (lstAt_lt e) ne, this]
theorem Fr.set {ex : List Nat} {h : CH} {n : Nat} {c : Ce} (m : n ∈ ex) : Fr ex h (h.set n c) := ⟨by simp, fun k _ ne => List.getElem?_set_ne fun (z : n = k) => ne (z ▸ m)⟩
theorem Fr.app {ex : List Nat} {h l : CH} : Fr ex h (h ++ l) := ⟨by simp, fun n hn _ => List.getElem?_append_left hn⟩
theorem Fr.trans {ex : List Nat} {h h1 h2 : CH} (x : Fr ex h h1) (y : Fr ex h1 h2) : Fr ex h h2 := ⟨Nat.le_trans x.len y.len, fun n hn ne => (y.same n (Nat.lt_of_lt_of_le hn x.len) ne).trans (x.same n hn ne)⟩
/-- what is new may be written -/
theorem Grow.set_new {b n : Nat} {h h' : CH} {c : Ce} (g : Grow b h h') (hn : h.length ≤ n) : Grow b h (h'.set n c) := ⟨by simpa using g.len, fun k hk ne => by rw [List.getElem?_set_ne (by omega)]; exact g.same k hk ne⟩
theorem Box.set {h : CH} {b c n : Nat} {zs : List Int} {ce : Ce} (B : Box h b c zs) (h1 : n ≠ b) (h2 : n ≠ c) : Box (h.set n ce) b c zs := B.mono (lstAt_set_ne h1) (lstAt_set_ne h2)
theorem Box.ltc {h : CH} {b c : Nat} {zs : List Int} (B : Box h b c zs) : c < h.length := lstAt_lt B.nums
theorem BG.set_new {b c n : Nat} {zs : List Int} {h h' : CH} {ce : Ce} (x : BG b c zs h h') (hn : h.length ≤ n) (hb : b < h.length) (hc : c < h.length) : BG b c zs h (h'.set n ce) := ⟨x.g.set_new hn, x.box.set (by omega) (by omega)⟩
/-! ### a row as data -/
def pyA (x : Q2) : PyData := .tuple [.int x.1, .int x.2]
theorem toPy_am {h : CH} {n : Nat} {x : Q2} : toPy h (n + 1) (am x) = some (pyA x) := by
  unfold am pyA
  simp [toPy, seqO]
theorem seqO_row {h : CH} {n : Nat} : ∀ ps : List Q2, seqO (toPy h (n + 1)) (ps.map am) = some (ps.map pyA)
  | [] => rfl
  | x :: ps => by
    simp only [List.map_cons, seqO, toPy_am, seqO_row ps]
theorem toPy_row {h : CH} {n w : Nat} {ps : List Q2} (e : lstAt h w = some (ps.map am)) : toPy h (n + 2) (.ref w) = some (.list (ps.map pyA)) := by
  show (match lstAt h w with
    | some ds => (seqO (toPy h (n + 1)) ds).map PyData.list
    | none => none) = _
  rw [e]
  dsimp only
  rw [seqO_row]; rfl
theorem eqv_A {x y : Q2} : PyData.eqv (pyA x) (pyA y) = (x == y) := by
  obtain ⟨a, b⟩ := x
  obtain ⟨c, d⟩ := y
  simp [pyA, PyData.eqv, PyData.eqvAll]
  rfl
theorem eq_empty {h : CH} {w v : Nat} {ps : List Q2} (e : lstAt h w = some (ps.map am)) (e2 : lstAt h v = some []) : pEq (.ref w) (.ref v) h = some (.bl ps.isEmpty, h) := by
  have h1 := toPy_row (n := 8) e
  have h2 : toPy h 10 (.ref v) = some (.list []) := toPy_row (n := 8) (ps := []) e2
  unfold pEq eqB
  rw [h1, h2]
  cases ps with
  | nil => simp [PyData.eqv, PyData.eqvAll]
  | cons x ps => simp [PyData.eqv, PyData.eqvAll]
theorem notin_row {h : CH} {w : Nat} {x : Q2} {ps : List Q2} (e : lstAt h w = some (ps.map am)) : ∃ b, pNotIn (am x) (.ref w) h = some (.bl b, h) := by
  have h1 := toPy_row (n := 8) e
  have h2 : toPy h 10 (am x) = some (pyA x) := toPy_am
  have h3 : dicAt h w = none := by
    unfold dicAt
    rw [lstAt_get e]
  refine ⟨!((ps.map pyA).any fun z => PyData.eqv z (pyA x)), ?_⟩
  unfold pNotIn inB
  dsimp only
  rw [h3]
  dsimp only
  rw [h1, h2]
  rfl

/-! ### rows in a heap -/
def Rows (ex : List Nat) (h : CH) : List Nat → List (List Q2) → Prop
  | [], [] => True
  | r :: rs, ps :: T => lstAt h r = some (ps.map am) ∧ r ∉ ex ∧ Rows ex h rs T
  | _, _ => False
theorem Rows.fr {ex : List Nat} {h h' : CH} (g : Fr ex h h') : ∀ {rs : List Nat} {T : List (List Q2)}, Rows ex h rs T → Rows ex h' rs T
  | [], [], _ => trivial
  | r :: rs, ps :: T, ⟨e, n, q⟩ => ⟨g.at_ e n, n, q.fr g⟩
  | [], _ :: _, q => q.elim
  | _ :: _, [], q => q.elim
theorem Rows.len {ex : List Nat} {h : CH} : ∀ {rs : List Nat} {T : List (List Q2)}, Rows ex h rs T → rs.length = T.length
  | [], [], _ => rfl
  | r :: rs, ps :: T, ⟨_, _, q⟩ => by rw [List.length_cons, List.length_cons, q.len]
  | [], _ :: _, q => q.elim
  | _ :: _, [], q => q.elim
theorem Rows.snoc {ex : List Nat} {h : CH} {r : Nat} {ps : List Q2} (e : lstAt h r = some (ps.map am)) (n : r ∉ ex) : ∀ {rs : List Nat} {T : List (List Q2)}, Rows ex h rs T → Rows ex h (rs ++ [r]) (T ++ [ps])
  | [], [], _ => ⟨e, n, trivial⟩
  | _ :: rs, _ :: T, ⟨e1, n1, q⟩ => ⟨e1, n1, q.snoc e n⟩
  | [], _ :: _, q => q.elim
  | _ :: _, [], q => q.elim
theorem Rows.sub {e1 e2 : List Nat} {h : CH} (s : ∀ n ∈ e2, n ∈ e1) : ∀ {rs : List Nat} {T : List (List Q2)}, Rows e1 h rs T → Rows e2 h rs T
  | [], [], _ => trivial
  | r :: rs, ps :: T, ⟨e, n, q⟩ => ⟨e, fun z => n (s _ z), q.sub s⟩
  | [], _ :: _, q => q.elim
  | _ :: _, [], q => q.elim
theorem Rows.get {ex : List Nat} {h : CH} : ∀ {rs : List Nat} {T : List (List Q2)} {i : Nat} {r : Nat}, Rows ex h rs T → rs[i]? = some r → ∃ ps, T[i]? = some ps ∧ lstAt h r = some (ps.map am) ∧ r ∉ ex
  | [], _, _, _, _, e => by simp at e
  | r :: rs, [], _, _, q, _ => q.elim
  | r :: rs, ps :: T, 0, _, ⟨e, n, q⟩, h => by
    simp at h; subst h
    exact ⟨ps, rfl, e, n⟩
  | r :: rs, ps :: T, i + 1, _, ⟨e, n, q⟩, h => by
    have := q.get (i := i) (by simpa using h)
    simpa using this
/-- a row with a choice: prices, two of them unlike -/
structure GoodR (ps : List Q2) : Prop where
  pri : ∀ x ∈ ps, Am 20 x ∧ 0 < x.1
  few : ps.length ≤ 10
  two : ∀ x ∈ ps, ∃ y ∈ ps, y ≠ x
  ne : ps ≠ []
theorem cut_1 {ds : List Dt} : cutD ds none (some 1) = ds.take 1 := by
  unfold cutD
  show (ds.drop 0).take ((if (1 : Int) < 0 then ((1 : Int) + (ds.length : Int)).toNat else min (1 : Int).toNat ds.length) - 0) = ds.take 1
  rw [if_neg (by omega)]
  cases ds with
  | nil => rfl
  | cons d ds =>
    have : min (1 : Int).toNat (d :: ds).length = 1 := by simp
    simp [this]
theorem ints_am {x : Q2} : intsO [.int x.1, .int x.2] = some [x.1, x.2] := rfl
theorem tups_row : ∀ ps : List Q2, tupsO (ps.map am) = some (ps.map fun x => [x.1, x.2])
  | [] => rfl
  | x :: ps => by
    show (match intsO [.int x.1, .int x.2], tupsO (ps.map am) with
      | some k, some l => some (k :: l)
      | _, _ => none) = _
    rw [ints_am, tups_row ps]; rfl
theorem two_of {ps : List Q2} (h : 2 ≤ (dedup (ps.map fun x => [x.1, x.2])).length) : ∀ x ∈ ps, ∃ y ∈ ps, y ≠ x := by
  have nd := nodup_dedup (l := ps.map fun x : Q2 => [x.1, x.2])
  have mm : ∀ k, k ∈ dedup (ps.map fun x : Q2 => [x.1, x.2]) → ∃ y ∈ ps, k = [y.1, y.2] := fun k hk => by
    obtain ⟨y, hy, e⟩ := List.mem_map.mp (mem_dedup.mp hk)
    exact ⟨y, hy, e.symm⟩
  generalize dedup (ps.map fun x : Q2 => [x.1, x.2]) = l at h nd mm
  match l, h, nd, mm with
  | a :: b :: r, _, nd, mm =>
    intro x hx
    obtain ⟨y, hy, ey⟩ := mm a (by simp)
    obtain ⟨z, hz, ez⟩ := mm b (by simp)
    have ne : a ≠ b := fun e => (List.nodup_cons.mp nd).1 (by rw [e]; simp)
    by_cases e : y = x
    · refine ⟨z, hz, fun e2 => ne ?_⟩
      rw [ey, ez, e, e2]
    · exact ⟨y, hy, e⟩
theorem low_ne {n d k : Int} (hd : 0 < d) (hk : 0 < k) : lowP (n * 1 + k * d) (d * 1) ≠ (n, d) := by
  intro e
  have hd1 : (0 : Int) < d * 1 := by omega
  have hg := gcd_pos (a := n * 1 + k * d) hd1
  have e1 : (n * 1 + k * d) / ((Int.gcd (n * 1 + k * d) (d * 1) : Nat) : Int) = n := congrArg Prod.fst e
  have e2 : (d * 1) / ((Int.gcd (n * 1 + k * d) (d * 1) : Nat) : Int) = d := congrArg Prod.snd e
  have f1 := Int.ediv_mul_cancel (Int.gcd_dvd_left (n * 1 + k * d) (d * 1))
  have f2 := Int.ediv_mul_cancel (Int.gcd_dvd_right (n * 1 + k * d) (d * 1))
  rw [e1] at f1
  rw [e2] at f2
  generalize ((Int.gcd (n * 1 + k * d) (d * 1) : Nat) : Int) = g at f1 f2 hg
  have g1 : g = 1 := by
    have : d * g = d * 1 := f2
    exact Int.eq_of_mul_eq_mul_left (by omega) this
  subst g1
  have : 0 < k * d := Int.mul_pos hk hd
  omega

end Cl
namespace Cl
open PySem PySem.Spec PyProof.Rows L2
/-! ## loops over ranges -/
theorem rngL_zero {lo : Int} : rngL lo 0 = [] := rfl
theorem rngL_succ {lo : Int} {n : Nat} : rngL lo (n + 1) = .int lo :: rngL (lo + 1) n := by
  unfold rngL
  rw [List.range_succ_eq_map, List.map_cons, List.map_map]
  refine congr (congrArg _ (by simp)) (List.map_congr_left fun i _ => ?_)
  show Dt.int (lo + ((i + 1 : Nat) : Int)) = _
  congr 1
  omega
theorem sat_forR {N : Rho → CH → Prop} {Rt : Dt → CH → Prop} {E : ExP} {v : Nat} {b : MS} {gs : Gd} (I : Int → Rho → CH → Prop) {hi : Int} (hg : ∀ j ρ h, I j ρ h → okG gs h = true) (hs : ∀ j ρ h, j < hi → I j ρ h → (b (setR ρ [(v, .int j)]) h).sat (I (j + 1)) Rt E) (he : ∀ ρ h, I hi ρ h → N ρ h) :
    ∀ (n : Nat) (lo : Int) (ρ : Rho) (h : CH), lo + (n : Nat) = hi → I lo ρ h → (forL (.nm v) b gs (rngL lo n) ρ h).sat N Rt E
  | 0, lo, ρ, h, e, i => by
    rw [rngL_zero]
    unfold forL
    rw [if_pos (hg _ _ _ i)]
    have : lo = hi := by omega
    exact he _ _ (this ▸ i)
  | n + 1, lo, ρ, h, e, i => by
    rw [rngL_succ]
    unfold forL
    rw [if_pos (hg _ _ _ i)]
    have s := hs lo ρ h (by omega) i
    dsimp only [bindP]
    cases q : b (setR ρ [(v, .int lo)]) h with
    | next ρ2 h2 => rw [q] at s; exact sat_forR I hg hs he n (lo + 1) ρ2 h2 (by omega) s
    | ret d2 h2 => rw [q] at s; exact s
    | exc c fs ρ2 h2 => rw [q] at s; exact s
    | brk ρ2 h2 => rw [q] at s; exact (show False from s).elim
    | cont ρ2 h2 => rw [q] at s; exact (show False from s).elim
    | bad => rw [q] at s; exact (show False from s).elim
theorem mRng1_eq {i : Int} (h : 0 ≤ i) (h2 : i < 1000000) : mRng1 [.int i] = some (rngL 0 i.toNat, []) := by
  show (if (decide (-(2 ^ 62) ≤ i) && decide (i < 2 ^ 62)) = true then some (rngL 0 i.toNat, []) else none) = _
  rw [if_pos (by simp; omega)]
theorem mRng2_eq {i j : Int} (h : 0 ≤ i) (h2 : i < 1000000) (h3 : 0 ≤ j) (h4 : j < 1000000) : mRng2 [.int i, .int j] = some (rngL i (j - i).toNat, []) := by
  show (if (decide (-(2 ^ 62) ≤ i) && (decide (i < 2 ^ 62) && (decide (-(2 ^ 62) ≤ j) && decide (j < 2 ^ 62)))) = true then some (rngL i (j - i).toNat, []) else none) = _
  rw [if_pos (by simp; omega)]
theorem pAppR {n : Nat} {h : CH} {ds : List Dt} {d : Dt} (e : lstAt h n = some ds) (hl : ds.length < 16777216) : pApp (.ref n) [d] h = some (.non, h.set n (.lst (ds ++ [d]))) := by
  dsimp only [pApp]; rw [e]; dsimp only; rw [if_pos (by rw [sz]; exact hl)]
theorem isTyR {n : Nat} {h : CH} {ds : List Dt} (e : lstAt h n = some ds) : isTy "list" (.ref n) h = true := by
  dsimp only [isTy]; rw [lstAt_get e]; rfl
theorem pSlR {n : Nat} {h : CH} {ds : List Dt} {lo hi : Option Int} (e : lstAt h n = some ds) : pSl (.ref n) lo hi h = some (.ref h.length, h ++ [.lst (cutD ds lo hi)]) := by
  dsimp only [pSl]; rw [e]
theorem pAddR {n m : Nat} {h : CH} {xs ys : List Dt} (e : lstAt h n = some xs) (f : lstAt h m = some ys) (hl : xs.length + ys.length ≤ 16777216) : pAdd (.ref n) (.ref m) h = some (.ref h.length, h ++ [.lst (xs ++ ys)]) := by
  dsimp only [pAdd]; rw [e, f]; dsimp only; rw [if_pos (by rw [sz]; exact hl)]
theorem asLR {n : Nat} {h : CH} {ds : List Dt} (e : lstAt h n = some ds) : asL (.ref n) h = some ds := e
theorem okG_nil {h : CH} : okG [] h = true := rfl
/-! ## the prices: one row -/
def RowI (h : CH) (b c : Nat) (zs : List Int) (w : Nat) (R : Option Dt → Option Dt → Rho) (j : Int) (ρ : Rho) (h' : CH) : Prop := ∃ u v ps, ρ = R u v ∧ Box h' b c zs ∧ Fr [b, w] h h' ∧ lstAt h' w = some (ps.map am) ∧ (∀ x ∈ ps, Pri x) ∧ (ps.length : Int) ≤ j ∧ (0 < j → ps ≠ [])
theorem RowI.put {h h4 : CH} {b c : Nat} {zs : List Int} {w : Nat} {R : Option Dt → Option Dt → Rho} {j : Int} {u v : Option Dt} {ps : List Q2} {a : Q2} (hwb : w ≠ b) (hwc : w ≠ c) (pr : ∀ x ∈ ps, Pri x) (pa : Pri a) (len : (ps.length : Int) ≤ j) (e4 : lstAt h4 w = some (ps.map am)) (F4 : Fr [b, w] h h4) (B4 : Box h4 b c zs) : RowI h b c zs w R (j + 1) (R u v) (h4.set w (.lst (ps.map am ++ [am a]))) := by
  refine ⟨u, v, ps ++ [a], rfl, B4.set hwb hwc, F4.trans (.set (by simp)), ?_, ?_, ?_, ?_⟩
  · rw [List.map_append]; exact lstAt_set (lstAt_lt e4)
  · intro x hx
    rcases List.mem_append.mp hx with h | h
    · exact pr x h
    · rw [List.mem_singleton.mp h]; exact pa
  · rw [List.length_append]; simp; omega
  · intro _ e; simp at e
theorem row_spec {h : CH} {b c : Nat} {zs : List Int} {most : Int} {p w : Nat} {x y z u v : Option Dt} (B : Box h b c zs) (m0 : 2 ≤ most) (m1 : most ≤ 8) (hw : lstAt h w = some []) (hwb : w ≠ b) (hwc : w ≠ c) :
    (m_law_rows_between_4 [some (.ref b), x, some (.int most), y, z, some (.ref w), u, v] h).sat (fun ρ h' => ∃ u v ps, ρ = [some (.ref b), x, some (.int most), y, z, some (.ref w), u, v] ∧ Box h' b c zs ∧ Fr [b, w] h h' ∧ lstAt h' w = some (ps.map am) ∧ (∀ x ∈ ps, Pri x) ∧ ps.length ≤ 8 ∧ ps ≠ []) (fun _ _ => False) noE := by
  unfold m_law_rows_between_4
  simp only [sat_ok, sat_bind, sat_pr, sat_opt, sat_eC, sat_eVar, sat_eBin, sat_eUn, sat_mBl, sat_mTru, sat_mNot, sat_mAnd, sat_mOr, sat_eAnd, sat_eOr, sat_eNot, sat_eIf, sat_eChain, sat_aNil, sat_aCons, sat_ofLen, sat_eTup, sat_eLst, sat_eBlt, sat_eMth, sat_oNone, sat_oSome, sat_eSl, sat_eFn, sat_eFnK, sat_sNext, sat_sSeq, sat_sEx, sat_sRet, sat_sRetN, sat_sIf, sat_sSet, sat_sPar, sat_sPar3, sat_sStore, sat_sRaise, sat_sFor, sat_mSeq, sat_mRange, sat_mEnum, sat_mZip, sat_eLc, sat_eLenSet, sat_eDic, sat_evalP, sat_evalP0, sat_eFld, sat_sFldS, sat_eMk, sat_init, List.getElem?_cons_zero, List.getElem?_cons_succ, List.map_cons, List.map_nil, List.length_cons, List.length_nil, List.replicate, List.nil_append, List.cons_append, List.append_nil, bindP, bindPs, setR, List.set_cons_zero, List.set_cons_succ, asBl, Nat.sub_self, Nat.reduceSub, Nat.reduceAdd, pSub_int]
  refine (draw B (show (0 : Int) < most - 1 by omega) (by omega)).mono ?_ fun _ _ _ z => z
  rintro d h1 ⟨t, rfl, t0, t1, G1, _⟩
  simp only [sat_ok, sat_bind, sat_pr, sat_opt, sat_eC, sat_eVar, sat_eBin, sat_eUn, sat_mBl, sat_mTru, sat_mNot, sat_mAnd, sat_mOr, sat_eAnd, sat_eOr, sat_eNot, sat_eIf, sat_eChain, sat_aNil, sat_aCons, sat_ofLen, sat_eTup, sat_eLst, sat_eBlt, sat_eMth, sat_oNone, sat_oSome, sat_eSl, sat_eFn, sat_eFnK, sat_sNext, sat_sSeq, sat_sEx, sat_sRet, sat_sRetN, sat_sIf, sat_sSet, sat_sPar, sat_sPar3, sat_sStore, sat_sRaise, sat_sFor, sat_mSeq, sat_mRange, sat_mEnum, sat_mZip, sat_eLc, sat_eLenSet, sat_eDic, sat_evalP, sat_evalP0, sat_eFld, sat_sFldS, sat_eMk, sat_init, List.getElem?_cons_zero, List.getElem?_cons_succ, List.map_cons, List.map_nil, List.length_cons, List.length_nil, List.replicate, List.nil_append, List.cons_append, List.append_nil, bindP, bindPs, setR, List.set_cons_zero, List.set_cons_succ, asBl, Nat.sub_self, Nat.reduceSub, Nat.reduceAdd, pAdd_int, mRng1_eq (show 0 ≤ 2 + t by omega) (show 2 + t < 1000000 by omega)]
  have hw1 := G1.g.at_ hw hwb
  refine sat_forR (I := RowI h b c zs w fun u v => [some (.ref b), x, some (.int most), y, z, some (.ref w), u, v]) (hi := 2 + t) (fun _ _ _ _ => okG_nil) ?_ ?_ _ 0 _ _ (by omega) ?_
  · rintro j ρ h2 hj ⟨u, v, ps, rfl, B2, F2, e2, pr, len, ne⟩
    simp only [setR, List.set_cons_succ, List.set_cons_zero]
    unfold m_law_rows_between_3 m_law_rows_between_1
    simp only [sat_ok, sat_bind, sat_pr, sat_opt, sat_eC, sat_eVar, sat_eBin, sat_eUn, sat_mBl, sat_mTru, sat_mNot, sat_mAnd, sat_mOr, sat_eAnd, sat_eOr, sat_eNot, sat_eIf, sat_eChain, sat_aNil, sat_aCons, sat_ofLen, sat_eTup, sat_eLst, sat_eBlt, sat_eMth, sat_oNone, sat_oSome, sat_eSl, sat_eFn, sat_eFnK, sat_sNext, sat_sSeq, sat_sEx, sat_sRet, sat_sRetN, sat_sIf, sat_sSet, sat_sPar, sat_sPar3, sat_sStore, sat_sRaise, sat_sFor, sat_mSeq, sat_mRange, sat_mEnum, sat_mZip, sat_eLc, sat_eLenSet, sat_eDic, sat_evalP, sat_evalP0, sat_eFld, sat_sFldS, sat_eMk, sat_init, List.getElem?_cons_zero, List.getElem?_cons_succ, List.map_cons, List.map_nil, List.length_cons, List.length_nil, List.replicate, List.nil_append, List.cons_append, List.append_nil, bindP, bindPs, setR, List.set_cons_zero, List.set_cons_succ, asBl, Nat.sub_self, Nat.reduceSub, Nat.reduceAdd]
    refine (above_spec B2 (show (0 : Int) < 40 by omega) (by omega)).mono ?_ fun _ _ _ z => z
    rintro d h3 ⟨a, rfl, pa, G3⟩
    have e3 := G3.g.at_ e2 hwb
    unfold m_law_rows_between_2
    have e4 : lstAt (h3 ++ [.lst []]) w = some (ps.map am) := by rw [lstAt_app (lstAt_lt e3)]; exact e3
    have F3 : Fr [b, w] h (h3 ++ [.lst []]) := F2.trans ((G3.g.fr.weak (by simp)).trans .app)
    have B3 : Box (h3 ++ [.lst []]) b c zs := G3.box.app
    have hl : (ps.map am).length < 16777216 := by rw [List.length_map]; omega
    simp only [sat_ok, sat_bind, sat_pr, sat_opt, sat_eC, sat_eVar, sat_eBin, sat_eUn, sat_mBl, sat_mTru, sat_mNot, sat_mAnd, sat_mOr, sat_eAnd, sat_eOr, sat_eNot, sat_eIf, sat_eChain, sat_aNil, sat_aCons, sat_ofLen, sat_eTup, sat_eLst, sat_eBlt, sat_eMth, sat_oNone, sat_oSome, sat_eSl, sat_eFn, sat_eFnK, sat_sNext, sat_sSeq, sat_sEx, sat_sRet, sat_sRetN, sat_sIf, sat_sSet, sat_sPar, sat_sPar3, sat_sStore, sat_sRaise, sat_sFor, sat_mSeq, sat_mRange, sat_mEnum, sat_mZip, sat_eLc, sat_eLenSet, sat_eDic, sat_evalP, sat_evalP0, sat_eFld, sat_sFldS, sat_eMk, sat_init, List.getElem?_cons_zero, List.getElem?_cons_succ, List.map_cons, List.map_nil, List.length_cons, List.length_nil, List.replicate, List.nil_append, List.cons_append, List.append_nil, bindP, bindPs, setR, List.set_cons_zero, List.set_cons_succ, asBl, Nat.sub_self, Nat.reduceSub, Nat.reduceAdd, sz, Nat.zero_le, if_true, eq_empty e4 lstAt_new]
    cases hp : ps with
    | nil =>
      subst hp
      simp only [List.isEmpty_nil, if_true, sat_ok, sat_bind, sat_pr, sat_opt, sat_eC, sat_eVar, sat_eBin, sat_eUn, sat_mBl, sat_mTru, sat_mNot, sat_mAnd, sat_mOr, sat_eAnd, sat_eOr, sat_eNot, sat_eIf, sat_eChain, sat_aNil, sat_aCons, sat_ofLen, sat_eTup, sat_eLst, sat_eBlt, sat_eMth, sat_oNone, sat_oSome, sat_eSl, sat_eFn, sat_eFnK, sat_sNext, sat_sSeq, sat_sEx, sat_sRet, sat_sRetN, sat_sIf, sat_sSet, sat_sPar, sat_sPar3, sat_sStore, sat_sRaise, sat_sFor, sat_mSeq, sat_mRange, sat_mEnum, sat_mZip, sat_eLc, sat_eLenSet, sat_eDic, sat_evalP, sat_evalP0, sat_eFld, sat_sFldS, sat_eMk, sat_init, List.getElem?_cons_zero, List.getElem?_cons_succ, List.map_cons, List.map_nil, List.length_cons, List.length_nil, List.replicate, List.nil_append, List.cons_append, List.append_nil, bindP, bindPs, setR, List.set_cons_zero, List.set_cons_succ, asBl, Nat.sub_self, Nat.reduceSub, Nat.reduceAdd, isTyR e4, pAppR e4 hl]
      exact RowI.put (ps := []) hwb hwc pr pa len e4 F3 B3
    | cons q qs =>
      rw [← hp]
      have : ps.isEmpty = false := by rw [hp]; rfl
      have ne1 : ps ≠ [] := by rw [hp]; simp
      obtain ⟨k, hk⟩ := notin_row (x := a) e4
      simp only [this, if_false, Bool.false_eq_true, sat_ok, sat_bind, sat_pr, sat_opt, sat_eC, sat_eVar, sat_eBin, sat_eUn, sat_mBl, sat_mTru, sat_mNot, sat_mAnd, sat_mOr, sat_eAnd, sat_eOr, sat_eNot, sat_eIf, sat_eChain, sat_aNil, sat_aCons, sat_ofLen, sat_eTup, sat_eLst, sat_eBlt, sat_eMth, sat_oNone, sat_oSome, sat_eSl, sat_eFn, sat_eFnK, sat_sNext, sat_sSeq, sat_sEx, sat_sRet, sat_sRetN, sat_sIf, sat_sSet, sat_sPar, sat_sPar3, sat_sStore, sat_sRaise, sat_sFor, sat_mSeq, sat_mRange, sat_mEnum, sat_mZip, sat_eLc, sat_eLenSet, sat_eDic, sat_evalP, sat_evalP0, sat_eFld, sat_sFldS, sat_eMk, sat_init, List.getElem?_cons_zero, List.getElem?_cons_succ, List.map_cons, List.map_nil, List.length_cons, List.length_nil, List.replicate, List.nil_append, List.cons_append, List.append_nil, bindP, bindPs, setR, List.set_cons_zero, List.set_cons_succ, asBl, Nat.sub_self, Nat.reduceSub, Nat.reduceAdd, hk]
      cases k with
      | true =>
        simp only [if_true, sat_ok, sat_bind, sat_pr, sat_opt, sat_eC, sat_eVar, sat_eBin, sat_eUn, sat_mBl, sat_mTru, sat_mNot, sat_mAnd, sat_mOr, sat_eAnd, sat_eOr, sat_eNot, sat_eIf, sat_eChain, sat_aNil, sat_aCons, sat_ofLen, sat_eTup, sat_eLst, sat_eBlt, sat_eMth, sat_oNone, sat_oSome, sat_eSl, sat_eFn, sat_eFnK, sat_sNext, sat_sSeq, sat_sEx, sat_sRet, sat_sRetN, sat_sIf, sat_sSet, sat_sPar, sat_sPar3, sat_sStore, sat_sRaise, sat_sFor, sat_mSeq, sat_mRange, sat_mEnum, sat_mZip, sat_eLc, sat_eLenSet, sat_eDic, sat_evalP, sat_evalP0, sat_eFld, sat_sFldS, sat_eMk, sat_init, List.getElem?_cons_zero, List.getElem?_cons_succ, List.map_cons, List.map_nil, List.length_cons, List.length_nil, List.replicate, List.nil_append, List.cons_append, List.append_nil, bindP, bindPs, setR, List.set_cons_zero, List.set_cons_succ, asBl, Nat.sub_self, Nat.reduceSub, Nat.reduceAdd, isTyR e4, pAppR e4 hl]
        exact RowI.put hwb hwc pr pa len e4 F3 B3
      | false =>
        simp only [if_false, Bool.false_eq_true, sat_ok, sat_bind, sat_pr, sat_opt, sat_eC, sat_eVar, sat_eBin, sat_eUn, sat_mBl, sat_mTru, sat_mNot, sat_mAnd, sat_mOr, sat_eAnd, sat_eOr, sat_eNot, sat_eIf, sat_eChain, sat_aNil, sat_aCons, sat_ofLen, sat_eTup, sat_eLst, sat_eBlt, sat_eMth, sat_oNone, sat_oSome, sat_eSl, sat_eFn, sat_eFnK, sat_sNext, sat_sSeq, sat_sEx, sat_sRet, sat_sRetN, sat_sIf, sat_sSet, sat_sPar, sat_sPar3, sat_sStore, sat_sRaise, sat_sFor, sat_mSeq, sat_mRange, sat_mEnum, sat_mZip, sat_eLc, sat_eLenSet, sat_eDic, sat_evalP, sat_evalP0, sat_eFld, sat_sFldS, sat_eMk, sat_init, List.getElem?_cons_zero, List.getElem?_cons_succ, List.map_cons, List.map_nil, List.length_cons, List.length_nil, List.replicate, List.nil_append, List.cons_append, List.append_nil, bindP, bindPs, setR, List.set_cons_zero, List.set_cons_succ, asBl, Nat.sub_self, Nat.reduceSub, Nat.reduceAdd]
        refine (draw B3 (show (0 : Int) < 3 by omega) (by omega)).mono ?_ fun _ _ _ z => z
        rintro d h5 ⟨t5, rfl, _, _, G5, _⟩
        have e5 := G5.g.at_ e4 hwb
        have F5 : Fr [b, w] h h5 := F3.trans (G5.g.fr.weak (by simp))
        simp only [sat_ok, sat_bind, sat_pr, sat_opt, sat_eC, sat_eVar, sat_eBin, sat_eUn, sat_mBl, sat_mTru, sat_mNot, sat_mAnd, sat_mOr, sat_eAnd, sat_eOr, sat_eNot, sat_eIf, sat_eChain, sat_aNil, sat_aCons, sat_ofLen, sat_eTup, sat_eLst, sat_eBlt, sat_eMth, sat_oNone, sat_oSome, sat_eSl, sat_eFn, sat_eFnK, sat_sNext, sat_sSeq, sat_sEx, sat_sRet, sat_sRetN, sat_sIf, sat_sSet, sat_sPar, sat_sPar3, sat_sStore, sat_sRaise, sat_sFor, sat_mSeq, sat_mRange, sat_mEnum, sat_mZip, sat_eLc, sat_eLenSet, sat_eDic, sat_evalP, sat_evalP0, sat_eFld, sat_sFldS, sat_eMk, sat_init, List.getElem?_cons_zero, List.getElem?_cons_succ, List.map_cons, List.map_nil, List.length_cons, List.length_nil, List.replicate, List.nil_append, List.cons_append, List.append_nil, bindP, bindPs, setR, List.set_cons_zero, List.set_cons_succ, asBl, Nat.sub_self, Nat.reduceSub, Nat.reduceAdd, pEq_int]
        by_cases h5 : (t5 == 0) = true
        · rw [if_pos h5]
          simp only [sat_ok, sat_bind, sat_pr, sat_opt, sat_eC, sat_eVar, sat_eBin, sat_eUn, sat_mBl, sat_mTru, sat_mNot, sat_mAnd, sat_mOr, sat_eAnd, sat_eOr, sat_eNot, sat_eIf, sat_eChain, sat_aNil, sat_aCons, sat_ofLen, sat_eTup, sat_eLst, sat_eBlt, sat_eMth, sat_oNone, sat_oSome, sat_eSl, sat_eFn, sat_eFnK, sat_sNext, sat_sSeq, sat_sEx, sat_sRet, sat_sRetN, sat_sIf, sat_sSet, sat_sPar, sat_sPar3, sat_sStore, sat_sRaise, sat_sFor, sat_mSeq, sat_mRange, sat_mEnum, sat_mZip, sat_eLc, sat_eLenSet, sat_eDic, sat_evalP, sat_evalP0, sat_eFld, sat_sFldS, sat_eMk, sat_init, List.getElem?_cons_zero, List.getElem?_cons_succ, List.map_cons, List.map_nil, List.length_cons, List.length_nil, List.replicate, List.nil_append, List.cons_append, List.append_nil, bindP, bindPs, setR, List.set_cons_zero, List.set_cons_succ, asBl, Nat.sub_self, Nat.reduceSub, Nat.reduceAdd, isTyR e5, if_true, pAppR e5 hl]
          exact RowI.put hwb hwc pr pa len e5 F5 G5.box
        · rw [if_neg h5]
          exact ⟨_, _, ps, rfl, G5.box, F5, e5, pr, by omega, fun _ => ne1⟩
  · rintro ρ h2 ⟨u, v, ps, rfl, B2, F2, e2, pr, len, ne⟩
    exact ⟨u, v, ps, rfl, B2, F2, e2, pr, by omega, ne (by omega)⟩
  · exact ⟨_, _, [], rfl, G1.box, G1.g.fr.weak (by simp), hw1, by simp, by simp, by omega⟩

end Cl
namespace Cl
open PySem PySem.Spec PyProof.Rows L2
theorem atI0 {α : Type} {x : α} {xs : List α} : atI (x :: xs) 0 = some x := by
  unfold atI ixN
  rw [if_pos (by decide), if_pos (by simp)]
  rfl
theorem row5_spec {h : CH} {b c : Nat} {zs : List Int} {w : Nat} {x x2 y z u v : Option Dt} {ps : List Q2} (B : Box h b c zs) (e : lstAt h w = some (ps.map am)) (pr : ∀ x ∈ ps, Pri x) (len : ps.length ≤ 8) (ne : ps ≠ []) (hwb : w ≠ b) :
    (m_law_rows_between_5 [some (.ref b), x, x2, y, z, some (.ref w), u, v] h).sat (fun ρ h' => ∃ w' ps', ρ = [some (.ref b), x, x2, y, z, some (.ref w'), u, v] ∧ BG b c zs h h' ∧ lstAt h' w' = some (ps'.map am) ∧ GoodR ps' ∧ (w' = w ∨ h.length ≤ w')) (fun _ _ => False) noE := by
  unfold m_law_rows_between_5
  have hks : (ps.map fun x => [x.1, x.2]).length < 64 := by rw [List.length_map]; omega
  simp only [sat_ok, sat_bind, sat_pr, sat_opt, sat_eC, sat_eVar, sat_eBin, sat_eUn, sat_mBl, sat_mTru, sat_mNot, sat_mAnd, sat_mOr, sat_eAnd, sat_eOr, sat_eNot, sat_eIf, sat_eChain, sat_aNil, sat_aCons, sat_ofLen, sat_eTup, sat_eLst, sat_eBlt, sat_eMth, sat_oNone, sat_oSome, sat_eSl, sat_eFn, sat_eFnK, sat_sNext, sat_sSeq, sat_sEx, sat_sRet, sat_sRetN, sat_sIf, sat_sSet, sat_sPar, sat_sPar3, sat_sStore, sat_sRaise, sat_sFor, sat_mSeq, sat_mRange, sat_mEnum, sat_mZip, sat_eLc, sat_eLenSet, sat_eDic, sat_evalP, sat_evalP0, sat_eFld, sat_sFldS, sat_eMk, sat_init, List.getElem?_cons_zero, List.getElem?_cons_succ, List.map_cons, List.map_nil, List.length_cons, List.length_nil, List.replicate, List.nil_append, List.cons_append, List.append_nil, bindP, bindPs, setR, List.set_cons_zero, List.set_cons_succ, asBl, Nat.sub_self, Nat.reduceSub, Nat.reduceAdd, asLR e, tups_row, hks, if_true, pLt_int]
  cases hd : decide (((dedup (ps.map fun x => [x.1, x.2])).length : Int) < 2) with
  | false =>
    have hd := of_decide_eq_false hd
    simp only [if_false, Bool.false_eq_true, sat_ok, sat_bind, sat_pr, sat_opt, sat_eC, sat_eVar, sat_eBin, sat_eUn, sat_mBl, sat_mTru, sat_mNot, sat_mAnd, sat_mOr, sat_eAnd, sat_eOr, sat_eNot, sat_eIf, sat_eChain, sat_aNil, sat_aCons, sat_ofLen, sat_eTup, sat_eLst, sat_eBlt, sat_eMth, sat_oNone, sat_oSome, sat_eSl, sat_eFn, sat_eFnK, sat_sNext, sat_sSeq, sat_sEx, sat_sRet, sat_sRetN, sat_sIf, sat_sSet, sat_sPar, sat_sPar3, sat_sStore, sat_sRaise, sat_sFor, sat_mSeq, sat_mRange, sat_mEnum, sat_mZip, sat_eLc, sat_eLenSet, sat_eDic, sat_evalP, sat_evalP0, sat_eFld, sat_sFldS, sat_eMk, sat_init, List.getElem?_cons_zero, List.getElem?_cons_succ, List.map_cons, List.map_nil, List.length_cons, List.length_nil, List.replicate, List.nil_append, List.cons_append, List.append_nil, bindP, bindPs, setR, List.set_cons_zero, List.set_cons_succ, asBl, Nat.sub_self, Nat.reduceSub, Nat.reduceAdd]
    exact ⟨w, ps, rfl, .refl B, e, ⟨fun x hx => ⟨(pr x hx).am.le (by decide), (pr x hx).up⟩, by omega, two_of (by omega), ne⟩, .inl rfl⟩
  | true =>
    obtain ⟨a, qs, rfl⟩ : ∃ a qs, ps = a :: qs := by
      cases ps with
      | nil => exact absurd rfl ne
      | cons a qs => exact ⟨a, qs, rfl⟩
    have pa := pr a (by simp)
    rw [List.map_cons] at e
    have ez : (a :: qs).map am = am a :: qs.map am := rfl
    have e1 : lstAt (h ++ [.lst (cutD (am a :: qs.map am) none (some 1))]) w = some (am a :: qs.map am) := by rw [lstAt_app (lstAt_lt e)]; exact e
    simp only [if_true, sat_ok, sat_bind, sat_pr, sat_opt, sat_eC, sat_eVar, sat_eBin, sat_eUn, sat_mBl, sat_mTru, sat_mNot, sat_mAnd, sat_mOr, sat_eAnd, sat_eOr, sat_eNot, sat_eIf, sat_eChain, sat_aNil, sat_aCons, sat_ofLen, sat_eTup, sat_eLst, sat_eBlt, sat_eMth, sat_oNone, sat_oSome, sat_eSl, sat_eFn, sat_eFnK, sat_sNext, sat_sSeq, sat_sEx, sat_sRet, sat_sRetN, sat_sIf, sat_sSet, sat_sPar, sat_sPar3, sat_sStore, sat_sRaise, sat_sFor, sat_mSeq, sat_mRange, sat_mEnum, sat_mZip, sat_eLc, sat_eLenSet, sat_eDic, sat_evalP, sat_evalP0, sat_eFld, sat_sFldS, sat_eMk, sat_init, List.getElem?_cons_zero, List.getElem?_cons_succ, List.map_cons, List.map_nil, List.length_cons, List.length_nil, List.replicate, List.nil_append, List.cons_append, List.append_nil, bindP, bindPs, setR, List.set_cons_zero, List.set_cons_succ, asBl, Nat.sub_self, Nat.reduceSub, Nat.reduceAdd, pSlR e, pIxR e1, List.map_cons, atI0, Option.map_some]
    refine (draw (B.app (l := [.lst (cutD (am a :: qs.map am) none (some 1))])) (show (0 : Int) < 9 by omega) (by omega)).mono ?_ fun _ _ _ z => z
    rintro d h2 ⟨t, rfl, t0, t1, G2, l2⟩
    simp only [sat_ok, sat_bind, sat_pr, sat_opt, sat_eC, sat_eVar, sat_eBin, sat_eUn, sat_mBl, sat_mTru, sat_mNot, sat_mAnd, sat_mOr, sat_eAnd, sat_eOr, sat_eNot, sat_eIf, sat_eChain, sat_aNil, sat_aCons, sat_ofLen, sat_eTup, sat_eLst, sat_eBlt, sat_eMth, sat_oNone, sat_oSome, sat_eSl, sat_eFn, sat_eFnK, sat_sNext, sat_sSeq, sat_sEx, sat_sRet, sat_sRetN, sat_sIf, sat_sSet, sat_sPar, sat_sPar3, sat_sStore, sat_sRaise, sat_sFor, sat_mSeq, sat_mRange, sat_mEnum, sat_mZip, sat_eLc, sat_eLenSet, sat_eDic, sat_evalP, sat_evalP0, sat_eFld, sat_sFldS, sat_eMk, sat_init, List.getElem?_cons_zero, List.getElem?_cons_succ, List.map_cons, List.map_nil, List.length_cons, List.length_nil, List.replicate, List.nil_append, List.cons_append, List.append_nil, bindP, bindPs, setR, List.set_cons_zero, List.set_cons_succ, asBl, Nat.sub_self, Nat.reduceSub, Nat.reduceAdd, sz, Nat.reduceLeDiff, if_true, pAdd_int]
    have b1 : Bd 5 (1 + t) := by
      unfold Bd
      have : (2 : Nat) ^ 5 = 32 := by decide
      omega
    have q1 : Am 5 ((1 + t, 1) : Q2) := ⟨show (0 : Int) < 1 by decide, b1, show (1 : Int).natAbs < 2 ^ 5 by decide⟩
    have a1 := pa.am
    rw [show Dt.tup [.int (1 + t), .int 1] = am (1 + t, 1) from rfl, sum_eq a1 q1 (by decide)]
    have hA : lstAt h2 h.length = some [am a] := by
      refine G2.g.at_ ?_ (by have := B.lt; omega)
      rw [lstAt_new, cut_1]; rfl
    have hA2 : lstAt (h2 ++ [.lst [am (sumP a (1 + t, 1))]]) h.length = some [am a] := by rw [lstAt_app (lstAt_lt hA)]; exact hA
    simp only [sat_ok, sat_bind, sat_pr, sat_opt, sat_eC, sat_eVar, sat_eBin, sat_eUn, sat_mBl, sat_mTru, sat_mNot, sat_mAnd, sat_mOr, sat_eAnd, sat_eOr, sat_eNot, sat_eIf, sat_eChain, sat_aNil, sat_aCons, sat_ofLen, sat_eTup, sat_eLst, sat_eBlt, sat_eMth, sat_oNone, sat_oSome, sat_eSl, sat_eFn, sat_eFnK, sat_sNext, sat_sSeq, sat_sEx, sat_sRet, sat_sRetN, sat_sIf, sat_sSet, sat_sPar, sat_sPar3, sat_sStore, sat_sRaise, sat_sFor, sat_mSeq, sat_mRange, sat_mEnum, sat_mZip, sat_eLc, sat_eLenSet, sat_eDic, sat_evalP, sat_evalP0, sat_eFld, sat_sFldS, sat_eMk, sat_init, List.getElem?_cons_zero, List.getElem?_cons_succ, List.map_cons, List.map_nil, List.length_cons, List.length_nil, List.replicate, List.nil_append, List.cons_append, List.append_nil, bindP, bindPs, setR, List.set_cons_zero, List.set_cons_succ, asBl, Nat.sub_self, Nat.reduceSub, Nat.reduceAdd, sz, Nat.reduceLeDiff, if_true, pAddR hA2 lstAt_new (by simp)]
    refine ⟨_, [a, sumP a (1 + t, 1)], rfl, ?_, lstAt_new, ⟨?_, by simp, ?_, by simp⟩, .inr ?_⟩
    · exact ((BG.refl B).app.trans G2).app.app
    · intro x hx
      rcases List.mem_cons.mp hx with rfl | hx
      · exact ⟨a1.le (by decide), pa.up⟩
      · rw [List.mem_singleton.mp hx]
        refine ⟨(sum_am a1 q1).le (by decide), low_up ?_ ?_⟩
        · have h1 := pa.up
          have h2 := a1.pos
          have h3 : 0 < (1 + t) * a.2 := Int.mul_pos (by omega) h2
          show 0 < a.1 * 1 + (1 + t) * a.2
          omega
        · have h2 := a1.pos
          show 0 < a.2 * 1
          omega
    · have hn : sumP a (1 + t, 1) ≠ a := low_ne (n := a.1) (d := a.2) (k := 1 + t) a1.pos (by omega)
      intro x hx
      rcases List.mem_cons.mp hx with rfl | hx
      · exact ⟨_, by simp, hn⟩
      · rw [List.mem_singleton.mp hx]
        exact ⟨a, by simp, hn.symm⟩
    · have := l2; simp at this ⊢; omega
/-- the prices: a beginning, then rows with a choice -/
structure PrT (T : List (List Q2)) (n : Int) : Prop where
  len : (T.length : Int) = n
  all : ∀ i ps, T[i]? = some ps → if i = 0 then ∃ x, ps = [x] ∧ Pri x else GoodR ps
def RowsI (h : CH) (b c : Nat) (zs : List Int) (p : Nat) (R : Option Dt → Option Dt → Option Dt → Option Dt → Rho) (j : Int) (ρ : Rho) (h' : CH) : Prop := ∃ x y u v rs T, ρ = R x y u v ∧ BG b c zs h h' ∧ lstAt h' p = some (rs.map .ref) ∧ Rows [b, p] h' rs T ∧ PrT T j ∧ (∀ r ∈ rs, h.length ≤ r) ∧ 1 ≤ j
theorem rows_between_spec {h : CH} {b c : Nat} {zs : List Int} {dates most : Int} (B : Box h b c zs) (d0 : 1 ≤ dates) (d1 : dates ≤ 7) (m0 : 2 ≤ most) (m1 : most ≤ 8) :
    (F_law_rows_between [.ref b, .int dates, .int most] h).sat (fun d h' => ∃ p rs T, d = .ref p ∧ h.length ≤ p ∧ BG b c zs h h' ∧ lstAt h' p = some (rs.map .ref) ∧ Rows [b, p] h' rs T ∧ PrT T dates ∧ ∀ r ∈ rs, h.length ≤ r) noE := by
  refine sat_run rfl ?_
  unfold m_law_rows_between m_law_rows_between_7
  simp only [sat_ok, sat_bind, sat_pr, sat_opt, sat_eC, sat_eVar, sat_eBin, sat_eUn, sat_mBl, sat_mTru, sat_mNot, sat_mAnd, sat_mOr, sat_eAnd, sat_eOr, sat_eNot, sat_eIf, sat_eChain, sat_aNil, sat_aCons, sat_ofLen, sat_eTup, sat_eLst, sat_eBlt, sat_eMth, sat_oNone, sat_oSome, sat_eSl, sat_eFn, sat_eFnK, sat_sNext, sat_sSeq, sat_sEx, sat_sRet, sat_sRetN, sat_sIf, sat_sSet, sat_sPar, sat_sPar3, sat_sStore, sat_sRaise, sat_sFor, sat_mSeq, sat_mRange, sat_mEnum, sat_mZip, sat_eLc, sat_eLenSet, sat_eDic, sat_evalP, sat_evalP0, sat_eFld, sat_sFldS, sat_eMk, sat_init, List.getElem?_cons_zero, List.getElem?_cons_succ, List.map_cons, List.map_nil, List.length_cons, List.length_nil, List.replicate, List.nil_append, List.cons_append, List.append_nil, bindP, bindPs, setR, List.set_cons_zero, List.set_cons_succ, asBl, Nat.sub_self, Nat.reduceSub, Nat.reduceAdd]
  refine (above_spec B (show (0 : Int) < 30 by omega) (by omega)).mono ?_ fun _ _ _ z => z
  rintro d h1 ⟨a, rfl, pa, G1⟩
  simp only [sat_ok, sat_bind, sat_pr, sat_opt, sat_eC, sat_eVar, sat_eBin, sat_eUn, sat_mBl, sat_mTru, sat_mNot, sat_mAnd, sat_mOr, sat_eAnd, sat_eOr, sat_eNot, sat_eIf, sat_eChain, sat_aNil, sat_aCons, sat_ofLen, sat_eTup, sat_eLst, sat_eBlt, sat_eMth, sat_oNone, sat_oSome, sat_eSl, sat_eFn, sat_eFnK, sat_sNext, sat_sSeq, sat_sEx, sat_sRet, sat_sRetN, sat_sIf, sat_sSet, sat_sPar, sat_sPar3, sat_sStore, sat_sRaise, sat_sFor, sat_mSeq, sat_mRange, sat_mEnum, sat_mZip, sat_eLc, sat_eLenSet, sat_eDic, sat_evalP, sat_evalP0, sat_eFld, sat_sFldS, sat_eMk, sat_init, List.getElem?_cons_zero, List.getElem?_cons_succ, List.map_cons, List.map_nil, List.length_cons, List.length_nil, List.replicate, List.nil_append, List.cons_append, List.append_nil, bindP, bindPs, setR, List.set_cons_zero, List.set_cons_succ, asBl, Nat.sub_self, Nat.reduceSub, Nat.reduceAdd, sz, Nat.reduceLeDiff, if_true]
  have hbl := B.lt
  have hcl := B.ltc
  have hl1 := G1.g.len
  have G2 : BG b c zs h ((h1 ++ [Ce.lst [am a]]) ++ [.lst [.ref h1.length]]) := G1.app.app
  generalize hp : (h1 ++ [Ce.lst [am a]]).length = p
  have hp2 : p = h1.length + 1 := by rw [← hp]; simp
  have eP : lstAt ((h1 ++ [Ce.lst [am a]]) ++ [.lst [.ref h1.length]]) p = some [.ref h1.length] := by rw [← hp]; exact lstAt_new
  have eR : lstAt ((h1 ++ [Ce.lst [am a]]) ++ [.lst [.ref h1.length]]) h1.length = some [am a] := by rw [lstAt_app (by simp)]; exact lstAt_new
  generalize (h1 ++ [Ce.lst [am a]]) ++ [.lst [.ref h1.length]] = h2 at G2 eP eR
  unfold m_law_rows_between_8
  simp only [sat_ok, sat_bind, sat_pr, sat_opt, sat_eC, sat_eVar, sat_eBin, sat_eUn, sat_mBl, sat_mTru, sat_mNot, sat_mAnd, sat_mOr, sat_eAnd, sat_eOr, sat_eNot, sat_eIf, sat_eChain, sat_aNil, sat_aCons, sat_ofLen, sat_eTup, sat_eLst, sat_eBlt, sat_eMth, sat_oNone, sat_oSome, sat_eSl, sat_eFn, sat_eFnK, sat_sNext, sat_sSeq, sat_sEx, sat_sRet, sat_sRetN, sat_sIf, sat_sSet, sat_sPar, sat_sPar3, sat_sStore, sat_sRaise, sat_sFor, sat_mSeq, sat_mRange, sat_mEnum, sat_mZip, sat_eLc, sat_eLenSet, sat_eDic, sat_evalP, sat_evalP0, sat_eFld, sat_sFldS, sat_eMk, sat_init, List.getElem?_cons_zero, List.getElem?_cons_succ, List.map_cons, List.map_nil, List.length_cons, List.length_nil, List.replicate, List.nil_append, List.cons_append, List.append_nil, bindP, bindPs, setR, List.set_cons_zero, List.set_cons_succ, asBl, Nat.sub_self, Nat.reduceSub, Nat.reduceAdd, mRng2_eq (show (0 : Int) ≤ 1 by omega) (show (1 : Int) < 1000000 by omega) (show 0 ≤ dates by omega) (show dates < 1000000 by omega)]
  refine sat_forR (I := RowsI h b c zs p fun x y u v => [some (.ref b), some (.int dates), some (.int most), some (.ref p), x, y, u, v]) (hi := dates) (fun _ _ _ _ => okG_nil) ?_ ?_ _ 1 _ _ (by omega) ?_
  · rintro j ρ h3 hj ⟨x, y, u, v, rs, T, rfl, G3, e3, R3, P3, n3, j1⟩
    have hl3 := G3.g.len
    have hp3 := lstAt_lt e3
    simp only [setR, List.set_cons_succ, List.set_cons_zero]
    unfold m_law_rows_between_6
    simp only [sat_ok, sat_bind, sat_pr, sat_opt, sat_eC, sat_eVar, sat_eBin, sat_eUn, sat_mBl, sat_mTru, sat_mNot, sat_mAnd, sat_mOr, sat_eAnd, sat_eOr, sat_eNot, sat_eIf, sat_eChain, sat_aNil, sat_aCons, sat_ofLen, sat_eTup, sat_eLst, sat_eBlt, sat_eMth, sat_oNone, sat_oSome, sat_eSl, sat_eFn, sat_eFnK, sat_sNext, sat_sSeq, sat_sEx, sat_sRet, sat_sRetN, sat_sIf, sat_sSet, sat_sPar, sat_sPar3, sat_sStore, sat_sRaise, sat_sFor, sat_mSeq, sat_mRange, sat_mEnum, sat_mZip, sat_eLc, sat_eLenSet, sat_eDic, sat_evalP, sat_evalP0, sat_eFld, sat_sFldS, sat_eMk, sat_init, List.getElem?_cons_zero, List.getElem?_cons_succ, List.map_cons, List.map_nil, List.length_cons, List.length_nil, List.replicate, List.nil_append, List.cons_append, List.append_nil, bindP, bindPs, setR, List.set_cons_zero, List.set_cons_succ, asBl, Nat.sub_self, Nat.reduceSub, Nat.reduceAdd, sz, Nat.zero_le, if_true]
    refine (row_spec (p := p) G3.box.app m0 m1 lstAt_new (by omega) (by omega)).mono ?_ (fun _ _ z => z.elim) fun _ _ _ z => z
    rintro ρ h4 ⟨u', v', ps, rfl, B4, F4, e4, pr, len, ne⟩
    have l4 : h3.length + 1 ≤ h4.length := by have := F4.len; simpa using this
    refine (row5_spec B4 e4 pr len ne (by omega)).mono ?_ (fun _ _ z => z.elim) fun _ _ _ z => z
    rintro ρ h5 ⟨w', ps', rfl, G5, e5, g5, hw'⟩
    have nw : h3.length ≤ w' := by rcases hw' with rfl | q <;> omega
    have F35 : Grow b h3 h5 := by
      refine ⟨by have := G5.g.len; omega, fun n hn ne => ?_⟩
      rw [G5.g.same n (by omega) ne, F4.same n (by simp; omega) (by simp; omega), List.getElem?_append_left hn]
    have e6 := F35.at_ e3 (by omega)
    simp only [sat_ok, sat_bind, sat_pr, sat_opt, sat_eC, sat_eVar, sat_eBin, sat_eUn, sat_mBl, sat_mTru, sat_mNot, sat_mAnd, sat_mOr, sat_eAnd, sat_eOr, sat_eNot, sat_eIf, sat_eChain, sat_aNil, sat_aCons, sat_ofLen, sat_eTup, sat_eLst, sat_eBlt, sat_eMth, sat_oNone, sat_oSome, sat_eSl, sat_eFn, sat_eFnK, sat_sNext, sat_sSeq, sat_sEx, sat_sRet, sat_sRetN, sat_sIf, sat_sSet, sat_sPar, sat_sPar3, sat_sStore, sat_sRaise, sat_sFor, sat_mSeq, sat_mRange, sat_mEnum, sat_mZip, sat_eLc, sat_eLenSet, sat_eDic, sat_evalP, sat_evalP0, sat_eFld, sat_sFldS, sat_eMk, sat_init, List.getElem?_cons_zero, List.getElem?_cons_succ, List.map_cons, List.map_nil, List.length_cons, List.length_nil, List.replicate, List.nil_append, List.cons_append, List.append_nil, bindP, bindPs, setR, List.set_cons_zero, List.set_cons_succ, asBl, Nat.sub_self, Nat.reduceSub, Nat.reduceAdd, isTyR e6, if_true, pAppR e6 (ds := rs.map .ref) (by
      rw [List.length_map, R3.len]
      have := P3.len
      omega)]
    have BG5 : BG b c zs h h5 := ⟨G3.g.trans F35, G5.box⟩
    have R5 := (R3.fr (F35.fr.weak (e2 := [b, p]) (by simp))).snoc (r := w') e5 (by simp; omega)
    have Fp : Fr [b, p] h5 (h5.set p (.lst (rs.map .ref ++ [.ref w']))) := .set (by simp)
    refine ⟨_, _, _, _, rs ++ [w'], T ++ [ps'], rfl, BG5.set_new (by omega) hbl hcl, ?_, R5.fr Fp, ⟨?_, ?_⟩, ?_, by omega⟩
    · rw [List.map_append]; exact lstAt_set (lstAt_lt e6)
    · rw [List.length_append]; have := P3.len; simp; omega
    · intro i qs hi
      by_cases hi2 : i < T.length
      · rw [List.getElem?_append_left hi2] at hi; exact P3.all i qs hi
      · rw [List.getElem?_append_right (by omega)] at hi
        have hz : i - T.length = 0 := by
          by_cases hz : i - T.length = 0
          · exact hz
          · rw [List.getElem?_eq_none (by simp; omega)] at hi; cases hi
        rw [hz] at hi
        cases hi
        have := P3.len
        rw [if_neg (by omega)]
        exact g5
    · intro r hr
      rcases List.mem_append.mp hr with q | q
      · exact n3 r q
      · rw [List.mem_singleton.mp q]; omega
  · rintro ρ h3 ⟨x, y, u, v, rs, T, rfl, G3, e3, R3, P3, n3, _⟩
    simp only [sat_ok, sat_bind, sat_pr, sat_opt, sat_eC, sat_eVar, sat_eBin, sat_eUn, sat_mBl, sat_mTru, sat_mNot, sat_mAnd, sat_mOr, sat_eAnd, sat_eOr, sat_eNot, sat_eIf, sat_eChain, sat_aNil, sat_aCons, sat_ofLen, sat_eTup, sat_eLst, sat_eBlt, sat_eMth, sat_oNone, sat_oSome, sat_eSl, sat_eFn, sat_eFnK, sat_sNext, sat_sSeq, sat_sEx, sat_sRet, sat_sRetN, sat_sIf, sat_sSet, sat_sPar, sat_sPar3, sat_sStore, sat_sRaise, sat_sFor, sat_mSeq, sat_mRange, sat_mEnum, sat_mZip, sat_eLc, sat_eLenSet, sat_eDic, sat_evalP, sat_evalP0, sat_eFld, sat_sFldS, sat_eMk, sat_init, List.getElem?_cons_zero, List.getElem?_cons_succ, List.map_cons, List.map_nil, List.length_cons, List.length_nil, List.replicate, List.nil_append, List.cons_append, List.append_nil, bindP, bindPs, setR, List.set_cons_zero, List.set_cons_succ, asBl, Nat.sub_self, Nat.reduceSub, Nat.reduceAdd]
    exact ⟨p, rs, T, rfl, by omega, G3, e3, R3, P3, n3⟩
  · refine ⟨_, _, _, _, [h1.length], [[a]], rfl, G2, eP, ⟨eR, by simp; omega, trivial⟩, ⟨by simp, ?_⟩, by simpa using hl1, by omega⟩
    intro i ps hi
    match i, hi with
    | 0, hi => cases hi; exact ⟨a, rfl, pa⟩

end Cl
namespace Cl
open PySem PySem.Spec PyProof.Rows L2
/-! ## one of some, two steps -/
theorem one_spec {h : CH} {b c w : Nat} {zs : List Int} {ds : List Dt} (B : Box h b c zs) (e : lstAt h w = some ds) (hwb : w ≠ b) (l0 : ds ≠ []) (l1 : ds.length < 1000000) :
    (F_law_one [.ref b, .ref w] h).sat (fun d h' => d ∈ ds ∧ BG b c zs h h' ∧ h'.length = h.length) noE := by
  have l2 : 0 < ds.length := List.length_pos_iff.mpr l0
  refine sat_run rfl ?_
  unfold m_law_one
  simp only [sat_ok, sat_bind, sat_pr, sat_opt, sat_eC, sat_eVar, sat_eBin, sat_eUn, sat_mBl, sat_mTru, sat_mNot, sat_mAnd, sat_mOr, sat_eAnd, sat_eOr, sat_eNot, sat_eIf, sat_eChain, sat_aNil, sat_aCons, sat_ofLen, sat_eTup, sat_eLst, sat_eBlt, sat_eMth, sat_oNone, sat_oSome, sat_eSl, sat_eFn, sat_eFnK, sat_sNext, sat_sSeq, sat_sEx, sat_sRet, sat_sRetN, sat_sIf, sat_sSet, sat_sPar, sat_sPar3, sat_sStore, sat_sRaise, sat_sFor, sat_mSeq, sat_mRange, sat_mEnum, sat_mZip, sat_eLc, sat_eLenSet, sat_eDic, sat_evalP, sat_evalP0, sat_eFld, sat_sFldS, sat_eMk, sat_init, List.getElem?_cons_zero, List.getElem?_cons_succ, List.map_cons, List.map_nil, List.length_cons, List.length_nil, List.replicate, List.nil_append, List.cons_append, List.append_nil, bindP, bindPs, setR, List.set_cons_zero, List.set_cons_succ, asBl, Nat.sub_self, Nat.reduceSub, Nat.reduceAdd, pLenR e]
  refine (draw B (show (0 : Int) < (ds.length : Nat) by omega) (by omega)).mono ?_ fun _ _ _ z => z
  rintro d h1 ⟨t, rfl, t0, t1, G1, hl⟩
  have e1 := G1.g.at_ e hwb
  obtain ⟨x, hx, hxi⟩ := atI_mem (xs := ds) t0 t1
  simp only [sat_ok, sat_bind, sat_pr, sat_opt, sat_eC, sat_eVar, sat_eBin, sat_eUn, sat_mBl, sat_mTru, sat_mNot, sat_mAnd, sat_mOr, sat_eAnd, sat_eOr, sat_eNot, sat_eIf, sat_eChain, sat_aNil, sat_aCons, sat_ofLen, sat_eTup, sat_eLst, sat_eBlt, sat_eMth, sat_oNone, sat_oSome, sat_eSl, sat_eFn, sat_eFnK, sat_sNext, sat_sSeq, sat_sEx, sat_sRet, sat_sRetN, sat_sIf, sat_sSet, sat_sPar, sat_sPar3, sat_sStore, sat_sRaise, sat_sFor, sat_mSeq, sat_mRange, sat_mEnum, sat_mZip, sat_eLc, sat_eLenSet, sat_eDic, sat_evalP, sat_evalP0, sat_eFld, sat_sFldS, sat_eMk, sat_init, List.getElem?_cons_zero, List.getElem?_cons_succ, List.map_cons, List.map_nil, List.length_cons, List.length_nil, List.replicate, List.nil_append, List.cons_append, List.append_nil, bindP, bindPs, setR, List.set_cons_zero, List.set_cons_succ, asBl, Nat.sub_self, Nat.reduceSub, Nat.reduceAdd, pIxR e1, hxi, Option.map_some]
  exact ⟨List.mem_of_getElem? hx, G1, hl⟩
theorem sat_lcR {P : List Dt → CH → Prop} {E : ExP} {v : Nat} {t : MT} {m : ME} {ρ : Rho} (I : Int → List Dt → CH → Prop) {hi : Int} (hs : ∀ j acc h, j < hi → I j acc h → (t (setR ρ [(v, .int j)]) h).sat (fun c h1 => if c = true then (m (setR ρ [(v, .int j)]) h1).sat (fun y h2 => acc.length < sizeLine ∧ I (j + 1) (acc ++ [y]) h2) noE else I (j + 1) acc h1) noE) (he : ∀ acc h, I hi acc h → P acc h) (n : Nat) (lo : Int) (acc : List Dt) (h : CH) (e : lo + (n : Nat) = hi) (i : I lo acc h) : (lcL (.nm v) t m [] ρ (rngL lo n) acc h).sat P E := by
  refine sat_lcL (I := fun l acc h => ∃ j n, l = rngL j n ∧ j + (n : Nat) = hi ∧ I j acc h) (fun _ _ _ _ => rfl) ?_ ?_ _ _ _ ⟨lo, n, rfl, e, i⟩
  · rintro d r acc h ⟨j, n, el, en, ij⟩
    cases n with
    | zero => rw [rngL_zero] at el; cases el
    | succ n =>
      rw [rngL_succ] at el
      cases el
      refine ⟨_, rfl, (hs j acc h (by omega) ij).mono ?_ fun _ _ _ z => z⟩
      intro c h1 q
      cases c with
      | true =>
        rw [if_pos rfl] at q ⊢
        exact q.mono (fun y h2 z => ⟨z.1, j + 1, n, rfl, by omega, z.2⟩) fun _ _ _ z => z
      | false =>
        rw [if_neg Bool.false_ne_true] at q ⊢
        exact ⟨j + 1, n, rfl, by omega, q⟩
  · rintro acc h ⟨j, n, el, en, ij⟩
    cases n with
    | zero => have : j = hi := by omega
              exact he _ _ (this ▸ ij)
    | succ n => rw [rngL_succ] at el; cases el
theorem eqB_am {x y : Q2} {h : CH} : eqB (am x) (am y) h = some (x == y) := by
  have h1 : toPy h 10 (am x) = some (pyA x) := toPy_am
  have h2 : toPy h 10 (am y) = some (pyA y) := toPy_am
  unfold eqB
  rw [h1, h2]
  dsimp only
  rw [eqv_A]
theorem pNe_am {x y : Q2} {h : CH} : pNe (am x) (am y) h = some (.bl (!(x == y)), h) := by
  unfold pNe
  rw [eqB_am]; rfl
theorem at_map {ps : List Q2} {i : Int} (h0 : 0 ≤ i) (h1 : i < ps.length) : ∃ x, ps[i.toNat]? = some x ∧ atI (ps.map am) i = some (am x) := by
  obtain ⟨y, hy, e⟩ := atI_mem (xs := ps.map am) h0 (by rw [List.length_map]; exact h1)
  rw [List.getElem?_map] at hy
  cases q : ps[i.toNat]? with
  | none => rw [q] at hy; cases hy
  | some x => rw [q] at hy; cases hy; exact ⟨x, rfl, e⟩
theorem steps_between_spec {h : CH} {b c w : Nat} {zs : List Int} {ps : List Q2} (B : Box h b c zs) (e : lstAt h w = some (ps.map am)) (hwb : w ≠ b) (g : GoodR ps) :
    (F_law_steps_between [.ref b, .ref w] h).sat (fun d h' => ∃ i j : Int, d = .tup [.int i, .int j] ∧ 0 ≤ i ∧ i < ps.length ∧ 0 ≤ j ∧ j < ps.length ∧ BG b c zs h h') noE := by
  have few := g.few
  have len1 : 0 < ps.length := List.length_pos_iff.mpr g.ne
  refine sat_run rfl ?_
  unfold m_law_steps_between m_law_steps_between_1
  simp only [sat_ok, sat_bind, sat_pr, sat_opt, sat_eC, sat_eVar, sat_eBin, sat_eUn, sat_mBl, sat_mTru, sat_mNot, sat_mAnd, sat_mOr, sat_eAnd, sat_eOr, sat_eNot, sat_eIf, sat_eChain, sat_aNil, sat_aCons, sat_ofLen, sat_eTup, sat_eLst, sat_eBlt, sat_eMth, sat_oNone, sat_oSome, sat_eSl, sat_eFn, sat_eFnK, sat_sNext, sat_sSeq, sat_sEx, sat_sRet, sat_sRetN, sat_sIf, sat_sSet, sat_sPar, sat_sPar3, sat_sStore, sat_sRaise, sat_sFor, sat_mSeq, sat_mRange, sat_mEnum, sat_mZip, sat_eLc, sat_eLenSet, sat_eDic, sat_evalP, sat_evalP0, sat_eFld, sat_sFldS, sat_eMk, sat_init, List.getElem?_cons_zero, List.getElem?_cons_succ, List.map_cons, List.map_nil, List.length_cons, List.length_nil, List.replicate, List.nil_append, List.cons_append, List.append_nil, bindP, bindPs, setR, List.set_cons_zero, List.set_cons_succ, asBl, Nat.sub_self, Nat.reduceSub, Nat.reduceAdd, pLenR e]
  refine (draw B (show (0 : Int) < ((ps.map am).length : Nat) by rw [List.length_map]; omega) (by rw [List.length_map]; omega)).mono ?_ fun _ _ _ z => z
  rintro d h1 ⟨t, rfl, t0, t1, G1, hl⟩
  rw [List.length_map] at t1
  have e1 := G1.g.at_ e hwb
  obtain ⟨x, hx, hxi⟩ := at_map (ps := ps) t0 t1
  unfold m_law_steps_between_2
  simp only [sat_ok, sat_bind, sat_pr, sat_opt, sat_eC, sat_eVar, sat_eBin, sat_eUn, sat_mBl, sat_mTru, sat_mNot, sat_mAnd, sat_mOr, sat_eAnd, sat_eOr, sat_eNot, sat_eIf, sat_eChain, sat_aNil, sat_aCons, sat_ofLen, sat_eTup, sat_eLst, sat_eBlt, sat_eMth, sat_oNone, sat_oSome, sat_eSl, sat_eFn, sat_eFnK, sat_sNext, sat_sSeq, sat_sEx, sat_sRet, sat_sRetN, sat_sIf, sat_sSet, sat_sPar, sat_sPar3, sat_sStore, sat_sRaise, sat_sFor, sat_mSeq, sat_mRange, sat_mEnum, sat_mZip, sat_eLc, sat_eLenSet, sat_eDic, sat_evalP, sat_evalP0, sat_eFld, sat_sFldS, sat_eMk, sat_init, List.getElem?_cons_zero, List.getElem?_cons_succ, List.map_cons, List.map_nil, List.length_cons, List.length_nil, List.replicate, List.nil_append, List.cons_append, List.append_nil, bindP, bindPs, setR, List.set_cons_zero, List.set_cons_succ, asBl, Nat.sub_self, Nat.reduceSub, Nat.reduceAdd, pLenR e1, mRng1_eq (show (0 : Int) ≤ ((ps.map am).length : Nat) by omega) (show (((ps.map am).length : Nat) : Int) < 1000000 by rw [List.length_map]; omega), wipeR]
  refine sat_lcR (I := fun j acc h2 => h2 = h1 ∧ 0 ≤ j ∧ (acc.length : Int) ≤ j ∧ (∀ d ∈ acc, ∃ i : Int, d = .int i ∧ 0 ≤ i ∧ i < ps.length) ∧ ∀ (k : Nat) y, (k : Int) < j → ps[k]? = some y → y ≠ x → acc ≠ []) (hi := ((ps.map am).length : Nat)) ?_ ?_ _ 0 _ _ (by omega) ⟨rfl, by omega, by simp, by simp, by omega⟩
  · rintro j acc h2 hj ⟨rfl, j0, jl, ja, jn⟩
    rw [List.length_map] at hj
    obtain ⟨y, hy, hyi⟩ := at_map (ps := ps) j0 hj
    simp only [setR, List.set_cons_succ, List.set_cons_zero, sat_ok, sat_bind, sat_pr, sat_opt, sat_eC, sat_eVar, sat_eBin, sat_eUn, sat_mBl, sat_mTru, sat_mNot, sat_mAnd, sat_mOr, sat_eAnd, sat_eOr, sat_eNot, sat_eIf, sat_eChain, sat_aNil, sat_aCons, sat_ofLen, sat_eTup, sat_eLst, sat_eBlt, sat_eMth, sat_oNone, sat_oSome, sat_eSl, sat_eFn, sat_eFnK, sat_sNext, sat_sSeq, sat_sEx, sat_sRet, sat_sRetN, sat_sIf, sat_sSet, sat_sPar, sat_sPar3, sat_sStore, sat_sRaise, sat_sFor, sat_mSeq, sat_mRange, sat_mEnum, sat_mZip, sat_eLc, sat_eLenSet, sat_eDic, sat_evalP, sat_evalP0, sat_eFld, sat_sFldS, sat_eMk, sat_init, List.getElem?_cons_zero, List.getElem?_cons_succ, List.map_cons, List.map_nil, List.length_cons, List.length_nil, List.replicate, List.nil_append, List.cons_append, List.append_nil, bindP, bindPs, setR, List.set_cons_zero, List.set_cons_succ, asBl, Nat.sub_self, Nat.reduceSub, Nat.reduceAdd, pIxR e1, hxi, hyi, Option.map_some, pNe_am]
    by_cases hxy : y = x
    · subst hxy
      simp only [beq_self_eq_true, Bool.not_true, Bool.false_eq_true, if_false]
      refine ⟨trivial, by omega, by omega, ja, fun k z hk hz ne => ?_⟩
      by_cases hkj : (k : Int) < j
      · exact jn k z hkj hz ne
      · have : k = j.toNat := by omega
        rw [this, hy] at hz
        cases hz
        exact absurd rfl ne
    · have : (y == x) = false := by rw [beq_eq_false_iff_ne]; exact hxy
      simp only [this, Bool.not_false, if_true]
      refine ⟨by rw [sz]; omega, trivial, by omega, by rw [List.length_append]; simp; omega, ?_, fun _ _ _ _ _ q => by simp at q⟩
      intro d hd
      rcases List.mem_append.mp hd with q | q
      · exact ja d q
      · exact ⟨j, List.mem_singleton.mp q, j0, hj⟩
  · rintro acc h2 ⟨rfl, _, jl, ja, jn⟩
    have ne : acc ≠ [] := by
      obtain ⟨y, hy, hn⟩ := g.two x (List.mem_of_getElem? hx)
      obtain ⟨k, hk⟩ := List.getElem?_of_mem hy
      refine jn k y ?_ hk hn
      rw [List.length_map]
      have := (List.getElem?_eq_some_iff.mp hk).1
      omega
    rw [List.length_map] at jl
    have hlb : b < h2.length := G1.box.lt
    refine (one_spec G1.box.app lstAt_new (by omega) ne (by omega)).mono ?_ fun _ _ _ z => z
    rintro d h3 ⟨hd, G3, _⟩
    obtain ⟨i, rfl, i0, i1⟩ := ja d hd
    obtain ⟨y, hy, hyi⟩ := at_map (ps := ps) i0 i1
    have e3 : lstAt h3 w = some (ps.map am) := G3.g.at_ (by rw [lstAt_app (lstAt_lt e1)]; exact e1) hwb
    have ax := (g.pri x (List.mem_of_getElem? hx)).1
    have ay := (g.pri y (List.mem_of_getElem? hy)).1
    have BB := G1.trans ((BG.refl G1.box).app.trans G3)
    unfold m_law_steps_between_3
    simp only [sat_ok, sat_bind, sat_pr, sat_opt, sat_eC, sat_eVar, sat_eBin, sat_eUn, sat_mBl, sat_mTru, sat_mNot, sat_mAnd, sat_mOr, sat_eAnd, sat_eOr, sat_eNot, sat_eIf, sat_eChain, sat_aNil, sat_aCons, sat_ofLen, sat_eTup, sat_eLst, sat_eBlt, sat_eMth, sat_oNone, sat_oSome, sat_eSl, sat_eFn, sat_eFnK, sat_sNext, sat_sSeq, sat_sEx, sat_sRet, sat_sRetN, sat_sIf, sat_sSet, sat_sPar, sat_sPar3, sat_sStore, sat_sRaise, sat_sFor, sat_mSeq, sat_mRange, sat_mEnum, sat_mZip, sat_eLc, sat_eLenSet, sat_eDic, sat_evalP, sat_evalP0, sat_eFld, sat_sFldS, sat_eMk, sat_init, List.getElem?_cons_zero, List.getElem?_cons_succ, List.map_cons, List.map_nil, List.length_cons, List.length_nil, List.replicate, List.nil_append, List.cons_append, List.append_nil, bindP, bindPs, setR, List.set_cons_zero, List.set_cons_succ, asBl, Nat.sub_self, Nat.reduceSub, Nat.reduceAdd, pIxR e3, hxi, hyi, Option.map_some, under_eq ⟨ay.s1, ay.s2⟩ ⟨ax.s1, ax.s2⟩, tru, sz, Nat.reduceLeDiff, if_true]
    split
    · exact ⟨t, i, rfl, t0, t1, i0, i1, BB⟩
    · exact ⟨i, t, rfl, i0, i1, t0, t1, BB⟩

end Cl
namespace Cl
open PySem PySem.Spec PyProof.Rows L2
/-! ## a fair web -/
def Sm2 (x : Q2) : Prop := Sm x.1 ∧ Sm x.2
structure RowD (h : CH) (m : Nat) (r : Nat) (ps : List Q2) : Prop where
  at_ : lstAt h r = some (ps.map am)
  sm : ∀ x ∈ ps, Sm2 x
  few : ps.length ≤ m
/-- a row of pairs, clear of ex -/
structure RowOk (h : CH) (ex : List Nat) (m : Nat) (r : Nat) : Prop where
  out : r ∉ ex
  row : ∃ ps, RowD h m r ps
theorem RowOk.fr {h h' : CH} {ex ex2 : List Nat} {m r : Nat} (w : RowOk h ex m r) (f : Fr ex2 h h') (s : ∀ n ∈ ex2, n ∈ ex) : RowOk h' ex m r := by
  obtain ⟨o, ps, e, a, b⟩ := w
  exact ⟨o, ps, f.at_ e fun z => o (s _ z), a, b⟩
theorem RowOk.set {h : CH} {ex : List Nat} {m r w : Nat} {ps : List Q2} (o : RowOk h ex m r) (hw : w < h.length) (hp : ∀ x ∈ ps, Sm2 x) (hl : ps.length ≤ m) : RowOk (h.set w (.lst (ps.map am))) ex m r := by
  obtain ⟨o, qs, e, a, b⟩ := o
  refine ⟨o, ?_⟩
  by_cases hr : w = r
  · subst hr
    exact ⟨ps, lstAt_set hw, hp, hl⟩
  · exact ⟨qs, by rw [lstAt_set_ne hr]; exact e, a, b⟩
theorem PrT.good {T : List (List Q2)} {n : Int} (P : PrT T n) {i : Nat} {ps : List Q2} (e : T[i]? = some ps) : (∀ x ∈ ps, Am 20 x ∧ 0 < x.1) ∧ ps.length ≤ 10 ∧ ps ≠ [] := by
  have := P.all i ps e
  by_cases hi : i = 0
  · rw [if_pos hi] at this
    obtain ⟨x, rfl, px⟩ := this
    exact ⟨fun y hy => by rw [List.mem_singleton.mp hy]; exact ⟨px.am.le (by decide), px.up⟩, by simp, by simp⟩
  · rw [if_neg hi] at this
    exact ⟨this.pri, this.few, this.ne⟩
theorem atN {α : Type} {xs : List α} {x : α} {i : Int} (h0 : 0 ≤ i) (e : xs[i.toNat]? = some x) : atI xs i = some x := by
  have := (List.getElem?_eq_some_iff.mp e).1
  obtain ⟨y, hy, e2⟩ := atI_mem (xs := xs) h0 (by omega)
  rw [e] at hy; cases hy; exact e2
theorem Rows.ex {e1 e2 : List Nat} {h : CH} : ∀ {rs : List Nat} {T : List (List Q2)}, (∀ r ∈ rs, r ∉ e2) → Rows e1 h rs T → Rows e2 h rs T
  | [], [], _, _ => trivial
  | r :: rs, ps :: T, o, ⟨e, _, q⟩ => ⟨e, o r (by simp), q.ex fun r hr => o r (by simp [hr])⟩
  | [], _ :: _, _, q => q.elim
  | _ :: _, [], _, q => q.elim
/-- the inner turns: w1 takes the rates, w2 the steps -/
structure FI (h : CH) (b c : Nat) (zs : List Int) (w1 w2 : Nat) (n : Nat) (h' : CH) : Prop where
  box : Box h' b c zs
  fr : Fr [b, w1, w2] h h'
  r1 : ∃ us, RowD h' n w1 us
  r2 : ∃ us, RowD h' n w2 us
theorem fair9_spec {h : CH} {b c p q s r r2 w1 w2 : Nat} {zs : List Int} {rs qs ss : List Nat} {T : List (List Q2)} {n dates j : Int} {ps ps2 : List Q2} {x y x7 x8 x9 x10 x11 x12 x13 x14 : Option Dt}
    (B : Box h b c zs) (hp : lstAt h p = some (rs.map .ref)) (hq : lstAt h q = some (qs.map .ref)) (hs : lstAt h s = some (ss.map .ref)) (P : PrT T n) (j0 : 0 ≤ j)
    (t1 : T[j.toNat]? = some ps) (t2 : T[(j + 1).toNat]? = some ps2) (g2 : GoodR ps2) (er : rs[j.toNat]? = some r) (er2 : rs[(j + 1).toNat]? = some r2) (eq : qs[j.toNat]? = some w1) (es : ss[j.toNat]? = some w2)
    (hr : lstAt h r = some (ps.map am)) (hr2 : lstAt h r2 = some (ps2.map am)) (hw1 : lstAt h w1 = some []) (hw2 : lstAt h w2 = some [])
    (nd : ∀ k ∈ [p, q, s, r, r2], k ∉ [b, w1, w2]) (w12 : w1 ≠ w2) (w1n : w1 ≠ b ∧ w1 ≠ c) (w2n : w2 ≠ b ∧ w2 ≠ c) :
    (m_law_fair_9 [some (.ref b), x, y, some (.ref p), some (.ref q), some (.ref s), some (.int j), x7, x8, x9, x10, x11, x12, x13, x14] h).sat (fun ρ h' => (∃ x7 x8 x9 x10 x11 x12 x13 x14, ρ = [some (.ref b), x, y, some (.ref p), some (.ref q), some (.ref s), some (.int j), x7, x8, x9, x10, x11, x12, x13, x14]) ∧ FI h b c zs w1 w2 10 h') (fun _ _ => False) noE := by
  obtain ⟨gp, gl, _⟩ := P.good t1
  have np := nd p (by simp)
  have nq := nd q (by simp)
  have ns := nd s (by simp)
  have nr := nd r (by simp)
  have nr2 := nd r2 (by simp)
  have fewr : rs.length < 100 ∨ True := .inr trivial
  unfold m_law_fair_9
  have aP : ∀ {k : Int} {w : Nat} {ls : List Nat}, 0 ≤ k → ls[k.toNat]? = some w → atI (ls.map Dt.ref) k = some (.ref w) := fun h0 e => atN h0 (by rw [List.getElem?_map, e]; rfl)
  simp only [sat_ok, sat_bind, sat_pr, sat_opt, sat_eC, sat_eVar, sat_eBin, sat_eUn, sat_mBl, sat_mTru, sat_mNot, sat_mAnd, sat_mOr, sat_eAnd, sat_eOr, sat_eNot, sat_eIf, sat_eChain, sat_aNil, sat_aCons, sat_ofLen, sat_eTup, sat_eLst, sat_eBlt, sat_eMth, sat_oNone, sat_oSome, sat_eSl, sat_eFn, sat_eFnK, sat_sNext, sat_sSeq, sat_sEx, sat_sRet, sat_sRetN, sat_sIf, sat_sSet, sat_sPar, sat_sPar3, sat_sStore, sat_sRaise, sat_sFor, sat_mSeq, sat_mRange, sat_mEnum, sat_mZip, sat_eLc, sat_eLenSet, sat_eDic, sat_evalP, sat_evalP0, sat_eFld, sat_sFldS, sat_eMk, sat_init, List.getElem?_cons_zero, List.getElem?_cons_succ, List.map_cons, List.map_nil, List.length_cons, List.length_nil, List.replicate, List.nil_append, List.cons_append, List.append_nil, bindP, bindPs, setR, List.set_cons_zero, List.set_cons_succ, asBl, Nat.sub_self, Nat.reduceSub, Nat.reduceAdd, pIxR hp, aP j0 er, Option.map_some, seqG, hr]
  refine sat_forL (I := fun l ρ h' => (∃ x7 x8 x9 x10 x11 x12 x13 x14, ρ = [some (.ref b), x, y, some (.ref p), some (.ref q), some (.ref s), some (.int j), x7, x8, x9, x10, x11, x12, x13, x14]) ∧ (∃ (l2 : List Q2) (k : Nat), l = l2.map am ∧ (∀ x ∈ l2, x ∈ ps) ∧ k + l2.length ≤ 10 ∧ FI h b c zs w1 w2 k h')) ?_ ?_ ?_ _ _ _ ?_
  · rintro l ρ h' ⟨_, l2, k, rfl, _, _, F⟩
    exact okG_lst (lstAt_get (F.fr.at_ hr nr))
  · rintro d l ρ h' ⟨⟨x7, x8, x9, x10, x11, x12, x13, x14, rfl⟩, l2, k, el, hl2, kl, B2, F2, ⟨us, u1, u2, u3⟩, ⟨vs, v1, v2, v3⟩⟩
    cases l2 with
    | nil => cases el
    | cons a l2 =>
      rw [List.map_cons] at el
      obtain ⟨rfl, rfl⟩ := List.cons.inj el
      have pa := gp a (hl2 a (by simp))
      refine ⟨[(7, am a)], rfl, ?_⟩
      simp only [setR, List.set_cons_succ, List.set_cons_zero]
      unfold m_law_fair_8 m_law_fair_1
      have b1 : b ≠ w1 := fun e => w1n.1 e.symm
      simp only [List.mem_cons, List.not_mem_nil, or_false, not_or] at np nq ns nr nr2
      simp only [sat_ok, sat_bind, sat_pr, sat_opt, sat_eC, sat_eVar, sat_eBin, sat_eUn, sat_mBl, sat_mTru, sat_mNot, sat_mAnd, sat_mOr, sat_eAnd, sat_eOr, sat_eNot, sat_eIf, sat_eChain, sat_aNil, sat_aCons, sat_ofLen, sat_eTup, sat_eLst, sat_eBlt, sat_eMth, sat_oNone, sat_oSome, sat_eSl, sat_eFn, sat_eFnK, sat_sNext, sat_sSeq, sat_sEx, sat_sRet, sat_sRetN, sat_sIf, sat_sSet, sat_sPar, sat_sPar3, sat_sStore, sat_sRaise, sat_sFor, sat_mSeq, sat_mRange, sat_mEnum, sat_mZip, sat_eLc, sat_eLenSet, sat_eDic, sat_evalP, sat_evalP0, sat_eFld, sat_sFldS, sat_eMk, sat_init, List.getElem?_cons_zero, List.getElem?_cons_succ, List.map_cons, List.map_nil, List.length_cons, List.length_nil, List.replicate, List.nil_append, List.cons_append, List.append_nil, List.set_cons_zero, List.set_cons_succ, asBl, Nat.sub_self, Nat.reduceSub, Nat.reduceAdd, pIxR (F2.at_ hp (by simp [np])), pAdd_int, aP (show 0 ≤ j + 1 by omega) er2, Option.map_some]
      refine (steps_between_spec B2 (F2.at_ hr2 (by simp [nr2])) nr2.1 g2).mono ?_ fun _ _ _ z => z
      rintro d h3 ⟨i1, i2, rfl, i10, i11, i20, i21, G3⟩
      simp only [sat_ok, sat_bind, sat_pr, sat_opt, sat_eC, sat_eVar, sat_eBin, sat_eUn, sat_mBl, sat_mTru, sat_mNot, sat_mAnd, sat_mOr, sat_eAnd, sat_eOr, sat_eNot, sat_eIf, sat_eChain, sat_aNil, sat_aCons, sat_ofLen, sat_eTup, sat_eLst, sat_eBlt, sat_eMth, sat_oNone, sat_oSome, sat_eSl, sat_eFn, sat_eFnK, sat_sNext, sat_sSeq, sat_sEx, sat_sRet, sat_sRetN, sat_sIf, sat_sSet, sat_sPar, sat_sPar3, sat_sStore, sat_sRaise, sat_sFor, sat_mSeq, sat_mRange, sat_mEnum, sat_mZip, sat_eLc, sat_eLenSet, sat_eDic, sat_evalP, sat_evalP0, sat_eFld, sat_sFldS, sat_eMk, sat_init, List.getElem?_cons_zero, List.getElem?_cons_succ, List.map_cons, List.map_nil, List.length_cons, List.length_nil, List.replicate, List.nil_append, List.cons_append, List.append_nil, bindP, bindPs, setR, List.set_cons_zero, List.set_cons_succ, asBl, Nat.sub_self, Nat.reduceSub, Nat.reduceAdd]
      unfold m_law_fair_2
      simp only [sat_ok, sat_bind, sat_pr, sat_opt, sat_eC, sat_eVar, sat_eBin, sat_eUn, sat_mBl, sat_mTru, sat_mNot, sat_mAnd, sat_mOr, sat_eAnd, sat_eOr, sat_eNot, sat_eIf, sat_eChain, sat_aNil, sat_aCons, sat_ofLen, sat_eTup, sat_eLst, sat_eBlt, sat_eMth, sat_oNone, sat_oSome, sat_eSl, sat_eFn, sat_eFnK, sat_sNext, sat_sSeq, sat_sEx, sat_sRet, sat_sRetN, sat_sIf, sat_sSet, sat_sPar, sat_sPar3, sat_sStore, sat_sRaise, sat_sFor, sat_mSeq, sat_mRange, sat_mEnum, sat_mZip, sat_eLc, sat_eLenSet, sat_eDic, sat_evalP, sat_evalP0, sat_eFld, sat_sFldS, sat_eMk, sat_init, List.getElem?_cons_zero, List.getElem?_cons_succ, List.map_cons, List.map_nil, List.length_cons, List.length_nil, List.replicate, List.nil_append, List.cons_append, List.append_nil, bindP, bindPs, setR, List.set_cons_zero, List.set_cons_succ, asBl, Nat.sub_self, Nat.reduceSub, Nat.reduceAdd]
      refine (draw G3.box (show (0 : Int) < 5 by omega) (by omega)).mono ?_ fun _ _ _ z => z
      rintro d h4 ⟨t4, rfl, t40, t41, G4, _⟩
      unfold m_law_fair_3
      simp only [sat_ok, sat_bind, sat_pr, sat_opt, sat_eC, sat_eVar, sat_eBin, sat_eUn, sat_mBl, sat_mTru, sat_mNot, sat_mAnd, sat_mOr, sat_eAnd, sat_eOr, sat_eNot, sat_eIf, sat_eChain, sat_aNil, sat_aCons, sat_ofLen, sat_eTup, sat_eLst, sat_eBlt, sat_eMth, sat_oNone, sat_oSome, sat_eSl, sat_eFn, sat_eFnK, sat_sNext, sat_sSeq, sat_sEx, sat_sRet, sat_sRetN, sat_sIf, sat_sSet, sat_sPar, sat_sPar3, sat_sStore, sat_sRaise, sat_sFor, sat_mSeq, sat_mRange, sat_mEnum, sat_mZip, sat_eLc, sat_eLenSet, sat_eDic, sat_evalP, sat_evalP0, sat_eFld, sat_sFldS, sat_eMk, sat_init, List.getElem?_cons_zero, List.getElem?_cons_succ, List.map_cons, List.map_nil, List.length_cons, List.length_nil, List.replicate, List.nil_append, List.cons_append, List.append_nil, bindP, bindPs, setR, List.set_cons_zero, List.set_cons_succ, asBl, Nat.sub_self, Nat.reduceSub, Nat.reduceAdd, pAdd_int, pSub_int]
      refine (draw G4.box (show (0 : Int) < 2 + t4 - 1 by omega) (by omega)).mono ?_ fun _ _ _ z => z
      rintro d h5 ⟨t5, rfl, t50, t51, G5, _⟩
      have GG := (G3.trans G4).trans G5
      have F5 : Fr [b, w1, w2] h h5 := F2.trans (GG.g.fr.weak (by simp))
      obtain ⟨hi, ehi, ahi⟩ := at_map (ps := ps2) i10 i11
      obtain ⟨lo, elo, alo⟩ := at_map (ps := ps2) i20 i21
      unfold m_law_fair_4
      simp only [sat_ok, sat_bind, sat_pr, sat_opt, sat_eC, sat_eVar, sat_eBin, sat_eUn, sat_mBl, sat_mTru, sat_mNot, sat_mAnd, sat_mOr, sat_eAnd, sat_eOr, sat_eNot, sat_eIf, sat_eChain, sat_aNil, sat_aCons, sat_ofLen, sat_eTup, sat_eLst, sat_eBlt, sat_eMth, sat_oNone, sat_oSome, sat_eSl, sat_eFn, sat_eFnK, sat_sNext, sat_sSeq, sat_sEx, sat_sRet, sat_sRetN, sat_sIf, sat_sSet, sat_sPar, sat_sPar3, sat_sStore, sat_sRaise, sat_sFor, sat_mSeq, sat_mRange, sat_mEnum, sat_mZip, sat_eLc, sat_eLenSet, sat_eDic, sat_evalP, sat_evalP0, sat_eFld, sat_sFldS, sat_eMk, sat_init, List.getElem?_cons_zero, List.getElem?_cons_succ, List.map_cons, List.map_nil, List.length_cons, List.length_nil, List.replicate, List.nil_append, List.cons_append, List.append_nil, bindP, bindPs, setR, List.set_cons_zero, List.set_cons_succ, asBl, Nat.sub_self, Nat.reduceSub, Nat.reduceAdd, sz, Nat.reduceLeDiff, if_true, pAdd_int, pIxR (F5.at_ hp (by simp [np])), aP (show 0 ≤ j + 1 by omega) er2, Option.map_some, pIxR (F5.at_ hr2 (by simp [nr2])), ahi, alo]
      unfold m_law_fair_5
      have ahi2 := (g2.pri hi (List.mem_of_getElem? ehi)).1
      have alo2 := (g2.pri lo (List.mem_of_getElem? elo)).1
      have b5 : ∀ z : Int, 0 ≤ z → z < 32 → Bd 5 z := fun z z0 z1 => by
        unfold Bd
        have : (2 : Nat) ^ 5 = 32 := by decide
        omega
      have ash : Am 5 ((1 + t5, 2 + t4) : Q2) := ⟨show (0 : Int) < 2 + t4 by omega, b5 _ (by omega) (by omega), b5 _ (by omega) (by omega)⟩
      have a1 := less_am ahi2 alo2
      have a2 := prod_am ash a1
      have a3 := sum_am alo2 a2
      have a4 := share_am a3 pa.1 pa.2
      simp only [sat_ok, sat_bind, sat_pr, sat_opt, sat_eC, sat_eVar, sat_eBin, sat_eUn, sat_mBl, sat_mTru, sat_mNot, sat_mAnd, sat_mOr, sat_eAnd, sat_eOr, sat_eNot, sat_eIf, sat_eChain, sat_aNil, sat_aCons, sat_ofLen, sat_eTup, sat_eLst, sat_eBlt, sat_eMth, sat_oNone, sat_oSome, sat_eSl, sat_eFn, sat_eFnK, sat_sNext, sat_sSeq, sat_sEx, sat_sRet, sat_sRetN, sat_sIf, sat_sSet, sat_sPar, sat_sPar3, sat_sStore, sat_sRaise, sat_sFor, sat_mSeq, sat_mRange, sat_mEnum, sat_mZip, sat_eLc, sat_eLenSet, sat_eDic, sat_evalP, sat_evalP0, sat_eFld, sat_sFldS, sat_eMk, sat_init, List.getElem?_cons_zero, List.getElem?_cons_succ, List.map_cons, List.map_nil, List.length_cons, List.length_nil, List.replicate, List.nil_append, List.cons_append, List.append_nil, bindP, bindPs, setR, List.set_cons_zero, List.set_cons_succ, asBl, Nat.sub_self, Nat.reduceSub, Nat.reduceAdd, less_eq ahi2 alo2 (by decide), show Dt.tup [.int (1 + t5), .int (2 + t4)] = am (1 + t5, 2 + t4) from rfl, prod_eq ash a1 (by decide), sum_eq alo2 a2 (by decide)]
      unfold m_law_fair_6
      have u5 : lstAt h5 w1 = some (us.map am) := GG.g.at_ u1 w1n.1
      have v5 : lstAt h5 w2 = some (vs.map am) := GG.g.at_ v1 w2n.1
      have hk : k + 1 ≤ 10 := by rw [List.length_cons] at kl; omega
      simp only [sat_ok, sat_bind, sat_pr, sat_opt, sat_eC, sat_eVar, sat_eBin, sat_eUn, sat_mBl, sat_mTru, sat_mNot, sat_mAnd, sat_mOr, sat_eAnd, sat_eOr, sat_eNot, sat_eIf, sat_eChain, sat_aNil, sat_aCons, sat_ofLen, sat_eTup, sat_eLst, sat_eBlt, sat_eMth, sat_oNone, sat_oSome, sat_eSl, sat_eFn, sat_eFnK, sat_sNext, sat_sSeq, sat_sEx, sat_sRet, sat_sRetN, sat_sIf, sat_sSet, sat_sPar, sat_sPar3, sat_sStore, sat_sRaise, sat_sFor, sat_mSeq, sat_mRange, sat_mEnum, sat_mZip, sat_eLc, sat_eLenSet, sat_eDic, sat_evalP, sat_evalP0, sat_eFld, sat_sFldS, sat_eMk, sat_init, List.getElem?_cons_zero, List.getElem?_cons_succ, List.map_cons, List.map_nil, List.length_cons, List.length_nil, List.replicate, List.nil_append, List.cons_append, List.append_nil, bindP, bindPs, setR, List.set_cons_zero, List.set_cons_succ, asBl, Nat.sub_self, Nat.reduceSub, Nat.reduceAdd, pIxR (F5.at_ hq (by simp [nq])), aP j0 eq, Option.map_some, isTyR u5, if_true, share_eq a3 pa.1 (by decide) pa.2, pAppR u5 (show (us.map am).length < 16777216 by rw [List.length_map]; omega)]
      have w5 := lstAt_lt u5
      have F6 : Fr [b, w1, w2] h (h5.set w1 (.lst (us.map am ++ [am (shareP (sumP lo (prodP (1 + t5, 2 + t4) (lessP hi lo))) a)]))) := F5.trans (.set (by simp))
      have v6 : lstAt (h5.set w1 (.lst (us.map am ++ [am (shareP (sumP lo (prodP (1 + t5, 2 + t4) (lessP hi lo))) a)]))) w2 = some (vs.map am) := by rw [lstAt_set_ne w12]; exact v5
      have u6 : lstAt (h5.set w1 (.lst (us.map am ++ [am (shareP (sumP lo (prodP (1 + t5, 2 + t4) (lessP hi lo))) a)]))) w1 = some ((us ++ [shareP (sumP lo (prodP (1 + t5, 2 + t4) (lessP hi lo))) a]).map am) := by rw [List.map_append]; exact lstAt_set w5
      have B6 : Box (h5.set w1 (.lst (us.map am ++ [am (shareP (sumP lo (prodP (1 + t5, 2 + t4) (lessP hi lo))) a)]))) b c zs := GG.box.set w1n.1 w1n.2
      generalize h5.set w1 (.lst (us.map am ++ [am (shareP (sumP lo (prodP (1 + t5, 2 + t4) (lessP hi lo))) a)])) = h6 at F6 v6 u6 B6
      unfold m_law_fair_7
      simp only [sat_ok, sat_bind, sat_pr, sat_opt, sat_eC, sat_eVar, sat_eBin, sat_eUn, sat_mBl, sat_mTru, sat_mNot, sat_mAnd, sat_mOr, sat_eAnd, sat_eOr, sat_eNot, sat_eIf, sat_eChain, sat_aNil, sat_aCons, sat_ofLen, sat_eTup, sat_eLst, sat_eBlt, sat_eMth, sat_oNone, sat_oSome, sat_eSl, sat_eFn, sat_eFnK, sat_sNext, sat_sSeq, sat_sEx, sat_sRet, sat_sRetN, sat_sIf, sat_sSet, sat_sPar, sat_sPar3, sat_sStore, sat_sRaise, sat_sFor, sat_mSeq, sat_mRange, sat_mEnum, sat_mZip, sat_eLc, sat_eLenSet, sat_eDic, sat_evalP, sat_evalP0, sat_eFld, sat_sFldS, sat_eMk, sat_init, List.getElem?_cons_zero, List.getElem?_cons_succ, List.map_cons, List.map_nil, List.length_cons, List.length_nil, List.replicate, List.nil_append, List.cons_append, List.append_nil, bindP, bindPs, setR, List.set_cons_zero, List.set_cons_succ, asBl, Nat.sub_self, Nat.reduceSub, Nat.reduceAdd, pIxR (F6.at_ hs (by simp [ns])), aP j0 es, Option.map_some, isTyR v6, if_true, sz, Nat.reduceLeDiff, pAppR v6 (show (vs.map am).length < 16777216 by rw [List.length_map]; omega)]
      refine ⟨⟨_, _, _, _, _, _, _, _, rfl⟩, l2, k + 1, rfl, fun x hx => hl2 x (by simp [hx]), by rw [List.length_cons] at kl; omega, B6.set w2n.1 w2n.2, F6.trans (.set (by simp)), ⟨_, by rw [lstAt_set_ne w12.symm]; exact u6, ?_, by rw [List.length_append]; simp; omega⟩, ⟨vs ++ [(i1, i2)], by rw [List.map_append]; exact lstAt_set (lstAt_lt v6), ?_, by rw [List.length_append]; simp; omega⟩⟩
      · intro x hx
        rcases List.mem_append.mp hx with z | z
        · exact u2 x z
        · rw [List.mem_singleton.mp z]; exact ⟨a4.s1, a4.s2⟩
      · intro x hx
        have := g2.few
        rcases List.mem_append.mp hx with z | z
        · exact v2 x z
        · rw [List.mem_singleton.mp z]; exact ⟨sm_32 (by omega) (by omega), sm_32 (by omega) (by omega)⟩
  · rintro ρ h' ⟨e, l2, k, el, _, kl, F⟩
    refine ⟨e, F.box, F.fr, F.r1.imp fun _ z => ⟨z.at_, z.sm, by have := z.few; omega⟩, F.r2.imp fun _ z => ⟨z.at_, z.sm, by have := z.few; omega⟩⟩
  · exact ⟨⟨_, _, _, _, _, _, _, _, rfl⟩, ps, 0, rfl, fun _ z => z, by omega, B, ⟨Nat.le_refl _, fun _ _ _ => rfl⟩, ⟨[], hw1, by simp, by simp⟩, ⟨[], hw2, by simp, by simp⟩⟩

end Cl
namespace Cl
open PySem PySem.Spec PyProof.Rows L2
theorem RowOk.at {h h' : CH} {ex ex2 : List Nat} {m r : Nat} (w : RowOk h ex m r) (f : Fr ex2 h h') (s : r ∉ ex2) : RowOk h' ex m r := by
  obtain ⟨o, ps, e, a, b⟩ := w
  exact ⟨o, ps, f.at_ e s, a, b⟩
theorem RowOk.lt {h : CH} {ex : List Nat} {m r : Nat} (w : RowOk h ex m r) : r < h.length := by
  obtain ⟨o, ps, e, a, b⟩ := w
  exact lstAt_lt e
theorem RowOk.ex {h : CH} {ex ex2 : List Nat} {m r : Nat} (w : RowOk h ex m r) (s : r ∉ ex2) : RowOk h ex2 m r := ⟨s, w.row⟩
theorem RowOk.le {h : CH} {ex : List Nat} {m m2 r : Nat} (w : RowOk h ex m r) (s : m ≤ m2) : RowOk h ex m2 r := ⟨w.out, w.row.imp fun _ z => ⟨z.at_, z.sm, Nat.le_trans z.few s⟩⟩
theorem Fr.new {ex ex2 : List Nat} {h h1 h2 : CH} (x : Fr ex h h1) (y : Fr ex2 h1 h2) (s : ∀ n ∈ ex2, n ∈ ex ∨ h.length ≤ n) : Fr ex h h2 := ⟨Nat.le_trans x.len y.len, fun n hn ne => (y.same n (Nat.lt_of_lt_of_le hn x.len) (fun z => by
  rcases s n z with q | q
  · exact ne q
  · omega)).trans (x.same n hn ne)⟩
theorem Box.fr {h h' : CH} {b c : Nat} {zs : List Int} {ex : List Nat} (B : Box h b c zs) (f : Fr ex h h') (h1 : b ∉ ex) (h2 : c ∉ ex) : Box h' b c zs := by
  obtain ⟨i, big, seed, hb, _⟩ := B.at_
  refine B.mono ?_ ?_
  · rw [f.at_ hb h1, hb]
  · rw [f.at_ B.nums h2, B.nums]
theorem Rows.mem {ex : List Nat} {h : CH} : ∀ {rs : List Nat} {T : List (List Q2)} {r : Nat}, Rows ex h rs T → r ∈ rs → ∃ ps, ps ∈ T ∧ lstAt h r = some (ps.map am) ∧ r ∉ ex
  | [], _, _, _, e => by cases e
  | r :: rs, [], _, q, _ => q.elim
  | r :: rs, ps :: T, x, ⟨e, n, q⟩, h => by
    rcases List.mem_cons.mp h with rfl | h
    · exact ⟨ps, by simp, e, n⟩
    · obtain ⟨a, b, z⟩ := q.mem h
      exact ⟨a, by simp [b], z⟩
/-! ## a web: a dict of three lists of rows -/
def webD : List Nat → List (Dt × Dt)
  | [p, q, s] => [(.str "prices", .ref p), (.str "rates", .ref q), (.str "steps", .ref s)]
  | _ => []
def kw : Nat → Str
  | 0 => "prices"
  | 1 => "rates"
  | _ => "steps"
structure WebD (h : CH) (b c n : Nat) (o : List Nat) (R : List (List Nat)) (m : Nat) : Prop where
  dic : h[n]? = some (.dic false false (webD o))
  o3 : o.length = 3
  nd : (b :: c :: n :: o).Nodup
  out : ∀ (i p : Nat), o[i]? = some p → ∃ P : List Nat, R[i]? = some P ∧ lstAt h p = some (P.map .ref) ∧ P.length ≤ m ∧ ∀ r ∈ P, RowOk h (b :: c :: n :: o) m r
theorem WebD.get {h : CH} {b c n m : Nat} {o : List Nat} {R : List (List Nat)} (w : WebD h b c n o R m) {i : Nat} (hi : i < 3) : ∃ (p : Nat) (P : List Nat), o[i]? = some p ∧ R[i]? = some P ∧ pIx (.ref n) (.str (kw i)) h = some (.ref p, h) ∧ lstAt h p = some (P.map .ref) ∧ P.length ≤ m ∧ (∀ r ∈ P, RowOk h (b :: c :: n :: o) m r) ∧ p ∈ o := by
  have o3 := w.o3
  match o, o3, w with
  | [p, q, s], _, w =>
    have hl : lstAt h n = none := by unfold lstAt; rw [w.dic]
    have hd : dicAt h n = some (webD [p, q, s]) := by unfold dicAt; rw [w.dic]
    match i, hi with
    | 0, _ =>
      obtain ⟨P, e1, e2, e3, e4⟩ := w.out 0 p rfl
      exact ⟨p, P, rfl, e1, by dsimp only [pIx]; rw [hl]; dsimp only; rw [hd]; rfl, e2, e3, e4, by simp⟩
    | 1, _ =>
      obtain ⟨P, e1, e2, e3, e4⟩ := w.out 1 q rfl
      exact ⟨q, P, rfl, e1, by dsimp only [pIx]; rw [hl]; dsimp only; rw [hd]; rfl, e2, e3, e4, by simp⟩
    | 2, _ =>
      obtain ⟨P, e1, e2, e3, e4⟩ := w.out 2 s rfl
      exact ⟨s, P, rfl, e1, by dsimp only [pIx]; rw [hl]; dsimp only; rw [hd]; rfl, e2, e3, e4, by simp⟩
theorem WebD.fr {h h' : CH} {b c n m : Nat} {o : List Nat} {R : List (List Nat)} (w : WebD h b c n o R m) (f : Fr [b] h h') : WebD h' b c n o R m := by
  have nd := w.nd
  rw [List.nodup_cons, List.mem_cons, List.mem_cons] at nd
  have hb := nd.1
  simp only [not_or] at hb
  have hn : n < h.length := by
    by_cases hl : n < h.length
    · exact hl
    · have := w.dic; rw [List.getElem?_eq_none (by omega)] at this; cases this
  refine ⟨by rw [f.same n hn (by simpa using fun e => hb.2.1 e.symm)]; exact w.dic, w.o3, w.nd, fun i p e => ?_⟩
  obtain ⟨P, e1, e2, e3, e4⟩ := w.out i p e
  have hp : p ≠ b := fun z => hb.2.2 (z ▸ List.mem_of_getElem? e)
  exact ⟨P, e1, f.at_ e2 (by simpa using hp), e3, fun r hr => (e4 r hr).fr f (by simp)⟩
/-- a row written -/
theorem WebD.row {h : CH} {b c n m r : Nat} {o : List Nat} {R : List (List Nat)} {ps : List Q2} (w : WebD h b c n o R m) (hr : RowOk h (b :: c :: n :: o) m r) (hp : ∀ x ∈ ps, Sm2 x) (hl : ps.length ≤ m) : WebD (h.set r (.lst (ps.map am))) b c n o R m := by
  have nr := hr.out
  simp only [List.mem_cons, not_or] at nr
  refine ⟨by rw [List.getElem?_set_ne (by exact nr.2.2.1)]; exact w.dic, w.o3, w.nd, fun i p e => ?_⟩
  obtain ⟨P, e1, e2, e3, e4⟩ := w.out i p e
  have hp2 : r ≠ p := fun z => nr.2.2.2 (z ▸ List.mem_of_getElem? e)
  exact ⟨P, e1, by rw [lstAt_set_ne hp2]; exact e2, e3, fun r2 hr2 => (e4 r2 hr2).set hr.lt hp hl⟩
theorem WebD.le {h : CH} {b c n m m2 : Nat} {o : List Nat} {R : List (List Nat)} (w : WebD h b c n o R m) (hm : m ≤ m2) : WebD h b c n o R m2 :=
  ⟨w.dic, w.o3, w.nd, fun i p e => (w.out i p e).imp fun _ ⟨e1, e2, e3, e4⟩ => ⟨e1, e2, by omega, fun r hr => (e4 r hr).le hm⟩⟩
theorem okG_none {gs : List (Nat × Ce)} {h : CH} (e : gs = []) : okG gs h = true := by rw [e]; rfl
/-- the outer turns of fair -/
structure FO (h2 : CH) (b c : Nat) (zs : List Int) (p q s : Nat) (j : Int) (h' : CH) : Prop where
  box : Box h' b c zs
  fr : Fr [b, q, s] h2 h'
  rows : ∃ qs ss : List Nat, lstAt h' q = some (qs.map .ref) ∧ lstAt h' s = some (ss.map .ref) ∧ (qs.length : Int) = j ∧ (ss.length : Int) = j ∧ (∀ r ∈ qs, RowOk h' [b, c, p, q, s] 10 r ∧ h2.length ≤ r) ∧ ∀ r ∈ ss, RowOk h' [b, c, p, q, s] 10 r ∧ h2.length ≤ r
theorem fair_spec {h : CH} {b c : Nat} {zs : List Int} {dates most : Int} (B : Box h b c zs) (d0 : 1 ≤ dates) (d1 : dates ≤ 7) (m0 : 2 ≤ most) (m1 : most ≤ 8) :
    (F_law_fair [.ref b, .int dates, .int most] h).sat (fun d h' => ∃ (n p q s : Nat) (rs qs ss : List Nat), d = .ref n ∧ BG b c zs h h' ∧ WebD h' b c n [p, q, s] [rs, qs, ss] 10 ∧ (qs.length : Int) = dates - 1) noE := by
  refine sat_run rfl ?_
  unfold m_law_fair m_law_fair_11
  simp only [sat_ok, sat_bind, sat_pr, sat_opt, sat_eC, sat_eVar, sat_eBin, sat_eUn, sat_mBl, sat_mTru, sat_mNot, sat_mAnd, sat_mOr, sat_eAnd, sat_eOr, sat_eNot, sat_eIf, sat_eChain, sat_aNil, sat_aCons, sat_ofLen, sat_eTup, sat_eLst, sat_eBlt, sat_eMth, sat_oNone, sat_oSome, sat_eSl, sat_eFn, sat_eFnK, sat_sNext, sat_sSeq, sat_sEx, sat_sRet, sat_sRetN, sat_sIf, sat_sSet, sat_sPar, sat_sPar3, sat_sStore, sat_sRaise, sat_sFor, sat_mSeq, sat_mRange, sat_mEnum, sat_mZip, sat_eLc, sat_eLenSet, sat_eDic, sat_evalP, sat_evalP0, sat_eFld, sat_sFldS, sat_eMk, sat_init, List.getElem?_cons_zero, List.getElem?_cons_succ, List.map_cons, List.map_nil, List.length_cons, List.length_nil, List.replicate, List.nil_append, List.cons_append, List.append_nil, bindP, bindPs, setR, List.set_cons_zero, List.set_cons_succ, asBl, Nat.sub_self, Nat.reduceSub, Nat.reduceAdd]
  refine (rows_between_spec B d0 d1 m0 m1).mono ?_ fun _ _ _ z => z
  rintro d h1 ⟨p, rs, T, rfl, hp, G1, e1, R1, P1, n1⟩
  simp only [sat_ok, sat_bind, sat_pr, sat_opt, sat_eC, sat_eVar, sat_eBin, sat_eUn, sat_mBl, sat_mTru, sat_mNot, sat_mAnd, sat_mOr, sat_eAnd, sat_eOr, sat_eNot, sat_eIf, sat_eChain, sat_aNil, sat_aCons, sat_ofLen, sat_eTup, sat_eLst, sat_eBlt, sat_eMth, sat_oNone, sat_oSome, sat_eSl, sat_eFn, sat_eFnK, sat_sNext, sat_sSeq, sat_sEx, sat_sRet, sat_sRetN, sat_sIf, sat_sSet, sat_sPar, sat_sPar3, sat_sStore, sat_sRaise, sat_sFor, sat_mSeq, sat_mRange, sat_mEnum, sat_mZip, sat_eLc, sat_eLenSet, sat_eDic, sat_evalP, sat_evalP0, sat_eFld, sat_sFldS, sat_eMk, sat_init, List.getElem?_cons_zero, List.getElem?_cons_succ, List.map_cons, List.map_nil, List.length_cons, List.length_nil, List.replicate, List.nil_append, List.cons_append, List.append_nil, bindP, bindPs, setR, List.set_cons_zero, List.set_cons_succ, asBl, Nat.sub_self, Nat.reduceSub, Nat.reduceAdd, sz, Nat.zero_le, if_true]
  have hbl := B.lt
  have hcl := B.ltc
  have hl1 := G1.g.len
  have hp1 := lstAt_lt e1
  have G2 : BG b c zs h ((h1 ++ [Ce.lst []]) ++ [Ce.lst []]) := G1.app.app
  generalize hs : (h1 ++ [Ce.lst []]).length = s
  have hs2 : s = h1.length + 1 := by rw [← hs]; simp
  have eq2 : lstAt ((h1 ++ [Ce.lst []]) ++ [Ce.lst []]) h1.length = some [] := by rw [lstAt_app (by simp)]; exact lstAt_new
  have es2 : lstAt ((h1 ++ [Ce.lst []]) ++ [Ce.lst []]) s = some [] := by rw [← hs]; exact lstAt_new
  have F12 : Fr [] h1 ((h1 ++ [Ce.lst []]) ++ [Ce.lst []]) := Fr.app.trans .app
  have hl2 : ((h1 ++ [Ce.lst []]) ++ [Ce.lst []]).length = h1.length + 2 := by simp
  generalize hq : h1.length = q at eq2
  generalize (h1 ++ [Ce.lst []]) ++ [Ce.lst []] = h2 at G2 eq2 es2 F12 hl2
  have e2 : lstAt h2 p = some (rs.map .ref) := F12.at_ e1 (by simp)
  have rl1 : ∀ r ∈ rs, r < h1.length := fun r hr => by obtain ⟨_, _, e, _⟩ := R1.mem hr; exact lstAt_lt e
  have rn1 : ∀ r ∈ rs, r ∉ [b, p] := fun r hr => by obtain ⟨_, _, _, e⟩ := R1.mem hr; exact e
  have R2 : Rows [b, q, s] h2 rs T := Rows.ex (fun r hr => by
    have := rl1 r hr
    have := rn1 r hr
    simp at this ⊢
    omega) ((Rows.sub (e2 := []) (by simp) R1).fr F12)
  unfold m_law_fair_12
  simp only [sat_ok, sat_bind, sat_pr, sat_opt, sat_eC, sat_eVar, sat_eBin, sat_eUn, sat_mBl, sat_mTru, sat_mNot, sat_mAnd, sat_mOr, sat_eAnd, sat_eOr, sat_eNot, sat_eIf, sat_eChain, sat_aNil, sat_aCons, sat_ofLen, sat_eTup, sat_eLst, sat_eBlt, sat_eMth, sat_oNone, sat_oSome, sat_eSl, sat_eFn, sat_eFnK, sat_sNext, sat_sSeq, sat_sEx, sat_sRet, sat_sRetN, sat_sIf, sat_sSet, sat_sPar, sat_sPar3, sat_sStore, sat_sRaise, sat_sFor, sat_mSeq, sat_mRange, sat_mEnum, sat_mZip, sat_eLc, sat_eLenSet, sat_eDic, sat_evalP, sat_evalP0, sat_eFld, sat_sFldS, sat_eMk, sat_init, List.getElem?_cons_zero, List.getElem?_cons_succ, List.map_cons, List.map_nil, List.length_cons, List.length_nil, List.replicate, List.nil_append, List.cons_append, List.append_nil, bindP, bindPs, setR, List.set_cons_zero, List.set_cons_succ, asBl, Nat.sub_self, Nat.reduceSub, Nat.reduceAdd, pSub_int, mRng1_eq (show (0 : Int) ≤ dates - 1 by omega) (show dates - 1 < 1000000 by omega)]
  refine sat_forR (I := fun j ρ h' => (∃ x6 x7 x8 x9 x10 x11 x12 x13 x14, ρ = [some (.ref b), some (.int dates), some (.int most), some (.ref p), some (.ref q), some (.ref s), x6, x7, x8, x9, x10, x11, x12, x13, x14]) ∧ 0 ≤ j ∧ FO h2 b c zs p q s j h') (hi := dates - 1) (fun _ _ _ _ => okG_nil) ?_ ?_ _ 0 _ _ (by omega) ?_
  · rintro j ρ h3 hj ⟨⟨x6, x7, x8, x9, x10, x11, x12, x13, x14, rfl⟩, j0, B3, F3, qs, ss, eq3, es3, lq, ls, rq, rS⟩
    simp only [setR, List.set_cons_succ, List.set_cons_zero]
    unfold m_law_fair_10
    have hl3 := F3.len
    have A1 : lstAt (h3 ++ [Ce.lst []]) q = some (qs.map .ref) := by rw [lstAt_app (lstAt_lt eq3)]; exact eq3
    have A2 : lstAt (h3 ++ [Ce.lst []]) s = some (ss.map .ref) := by rw [lstAt_app (lstAt_lt es3)]; exact es3
    have A3 : lstAt (h3 ++ [Ce.lst []]) h3.length = some [] := lstAt_new
    have FA : Fr [b, q, s] h2 (h3 ++ [Ce.lst []]) := F3.trans .app
    have FA3 : Fr [] h3 (h3 ++ [Ce.lst []]) := .app
    have lA : (h3 ++ [Ce.lst []]).length = h3.length + 1 := by simp
    have BA : Box (h3 ++ [Ce.lst []]) b c zs := B3.app
    simp only [sat_ok, sat_bind, sat_pr, sat_opt, sat_eC, sat_eVar, sat_eBin, sat_eUn, sat_mBl, sat_mTru, sat_mNot, sat_mAnd, sat_mOr, sat_eAnd, sat_eOr, sat_eNot, sat_eIf, sat_eChain, sat_aNil, sat_aCons, sat_ofLen, sat_eTup, sat_eLst, sat_eBlt, sat_eMth, sat_oNone, sat_oSome, sat_eSl, sat_eFn, sat_eFnK, sat_sNext, sat_sSeq, sat_sEx, sat_sRet, sat_sRetN, sat_sIf, sat_sSet, sat_sPar, sat_sPar3, sat_sStore, sat_sRaise, sat_sFor, sat_mSeq, sat_mRange, sat_mEnum, sat_mZip, sat_eLc, sat_eLenSet, sat_eDic, sat_evalP, sat_evalP0, sat_eFld, sat_sFldS, sat_eMk, sat_init, List.getElem?_cons_zero, List.getElem?_cons_succ, List.map_cons, List.map_nil, List.length_cons, List.length_nil, List.replicate, List.nil_append, List.cons_append, List.append_nil, bindP, bindPs, setR, List.set_cons_zero, List.set_cons_succ, asBl, Nat.sub_self, Nat.reduceSub, Nat.reduceAdd, isTyR eq3, if_true, sz, Nat.zero_le, pAppR A1 (by rw [List.length_map]; omega)]
    generalize h3 ++ [Ce.lst []] = hA at A1 A2 A3 FA FA3 lA BA
    have hqs : q ≠ s := by omega
    have S1 : lstAt (hA.set q (.lst (qs.map .ref ++ [.ref h3.length]))) q = some ((qs ++ [h3.length]).map .ref) := by rw [List.map_append]; exact lstAt_set (lstAt_lt A1)
    have S2 : lstAt (hA.set q (.lst (qs.map .ref ++ [.ref h3.length]))) s = some (ss.map .ref) := by rw [lstAt_set_ne hqs]; exact A2
    have S3 : lstAt (hA.set q (.lst (qs.map .ref ++ [.ref h3.length]))) h3.length = some [] := by rw [lstAt_set_ne (by omega)]; exact A3
    have FS : Fr [b, q, s] h2 (hA.set q (.lst (qs.map .ref ++ [.ref h3.length]))) := FA.trans (.set (by simp))
    have FS3 : Fr [q, s] h3 (hA.set q (.lst (qs.map .ref ++ [.ref h3.length]))) := (FA3.weak (by simp)).trans (.set (by simp))
    have lS : (hA.set q (.lst (qs.map .ref ++ [.ref h3.length]))).length = h3.length + 1 := by simpa using lA
    have BS : Box (hA.set q (.lst (qs.map .ref ++ [.ref h3.length]))) b c zs := BA.set (by omega) (by omega)
    generalize hA.set q (.lst (qs.map .ref ++ [.ref h3.length])) = hS at S1 S2 S3 FS FS3 lS BS
    have C1 : lstAt (hS ++ [Ce.lst []]) q = some ((qs ++ [h3.length]).map .ref) := by rw [lstAt_app (lstAt_lt S1)]; exact S1
    have C2 : lstAt (hS ++ [Ce.lst []]) s = some (ss.map .ref) := by rw [lstAt_app (lstAt_lt S2)]; exact S2
    have C3 : lstAt (hS ++ [Ce.lst []]) h3.length = some [] := by rw [lstAt_app (lstAt_lt S3)]; exact S3
    have C4 : lstAt (hS ++ [Ce.lst []]) hS.length = some [] := lstAt_new
    have FC : Fr [b, q, s] h2 (hS ++ [Ce.lst []]) := FS.trans .app
    have FC3 : Fr [q, s] h3 (hS ++ [Ce.lst []]) := FS3.trans .app
    have lC : (hS ++ [Ce.lst []]).length = h3.length + 2 := by simp; omega
    have BC : Box (hS ++ [Ce.lst []]) b c zs := BS.app
    simp only [sat_ok, sat_bind, sat_pr, sat_opt, sat_eC, sat_eVar, sat_eBin, sat_eUn, sat_mBl, sat_mTru, sat_mNot, sat_mAnd, sat_mOr, sat_eAnd, sat_eOr, sat_eNot, sat_eIf, sat_eChain, sat_aNil, sat_aCons, sat_ofLen, sat_eTup, sat_eLst, sat_eBlt, sat_eMth, sat_oNone, sat_oSome, sat_eSl, sat_eFn, sat_eFnK, sat_sNext, sat_sSeq, sat_sEx, sat_sRet, sat_sRetN, sat_sIf, sat_sSet, sat_sPar, sat_sPar3, sat_sStore, sat_sRaise, sat_sFor, sat_mSeq, sat_mRange, sat_mEnum, sat_mZip, sat_eLc, sat_eLenSet, sat_eDic, sat_evalP, sat_evalP0, sat_eFld, sat_sFldS, sat_eMk, sat_init, List.getElem?_cons_zero, List.getElem?_cons_succ, List.map_cons, List.map_nil, List.length_cons, List.length_nil, List.replicate, List.nil_append, List.cons_append, List.append_nil, bindP, bindPs, setR, List.set_cons_zero, List.set_cons_succ, asBl, Nat.sub_self, Nat.reduceSub, Nat.reduceAdd, isTyR S2, if_true, sz, Nat.zero_le, pAppR C2 (by rw [List.length_map]; omega)]
    generalize hw2 : hS.length = w2 at C4
    generalize hS ++ [Ce.lst []] = hC at C1 C2 C3 C4 FC FC3 lC BC
    have D1 : lstAt (hC.set s (.lst (ss.map .ref ++ [.ref w2]))) q = some ((qs ++ [h3.length]).map .ref) := by rw [lstAt_set_ne hqs.symm]; exact C1
    have D2 : lstAt (hC.set s (.lst (ss.map .ref ++ [.ref w2]))) s = some ((ss ++ [w2]).map .ref) := by rw [List.map_append]; exact lstAt_set (lstAt_lt C2)
    have D3 : lstAt (hC.set s (.lst (ss.map .ref ++ [.ref w2]))) h3.length = some [] := by rw [lstAt_set_ne (by omega)]; exact C3
    have D4 : lstAt (hC.set s (.lst (ss.map .ref ++ [.ref w2]))) w2 = some [] := by rw [lstAt_set_ne (by omega)]; exact C4
    have FD : Fr [b, q, s] h2 (hC.set s (.lst (ss.map .ref ++ [.ref w2]))) := FC.trans (.set (by simp))
    have FD3 : Fr [q, s] h3 (hC.set s (.lst (ss.map .ref ++ [.ref w2]))) := FC3.trans (.set (by simp))
    have BD : Box (hC.set s (.lst (ss.map .ref ++ [.ref w2]))) b c zs := BC.set (by omega) (by omega)
    generalize hC.set s (.lst (ss.map .ref ++ [.ref w2])) = hD at D1 D2 D3 D4 FD FD3 BD
    have tl := P1.len
    have rl := R1.len
    obtain ⟨ps, t1⟩ : ∃ ps, T[j.toNat]? = some ps := ⟨T[j.toNat]'(by omega), List.getElem?_eq_getElem _⟩
    obtain ⟨ps2, t2⟩ : ∃ ps, T[(j + 1).toNat]? = some ps := ⟨T[(j + 1).toNat]'(by omega), List.getElem?_eq_getElem _⟩
    obtain ⟨r, er⟩ : ∃ r, rs[j.toNat]? = some r := ⟨rs[j.toNat]'(by omega), List.getElem?_eq_getElem _⟩
    obtain ⟨r2, er2⟩ : ∃ r, rs[(j + 1).toNat]? = some r := ⟨rs[(j + 1).toNat]'(by omega), List.getElem?_eq_getElem _⟩
    have RD := R2.fr FD
    obtain ⟨ps', t1', hr, _⟩ := RD.get er
    obtain ⟨ps2', t2', hr2, _⟩ := RD.get er2
    rw [t1] at t1'; cases t1'
    rw [t2] at t2'; cases t2'
    have g2 : GoodR ps2 := by
      have := P1.all _ _ t2
      rw [if_neg (by omega)] at this
      exact this
    have lr := rl1 r (List.mem_of_getElem? er)
    have lr2 := rl1 r2 (List.mem_of_getElem? er2)
    have nr := rn1 r (List.mem_of_getElem? er)
    have nr2 := rn1 r2 (List.mem_of_getElem? er2)
    simp at nr nr2
    refine (fair9_spec (n := dates) (dates := dates) BD (FD.at_ e2 (by simp; omega)) D1 D2 P1 j0 t1 t2 g2 er er2 (w1 := h3.length) (w2 := w2) ?_ ?_ hr hr2 D3 D4 ?_ (by omega) (by omega) (by omega)).mono ?_ (fun _ _ z => z.elim) fun _ _ _ z => z
    · rw [List.getElem?_append_right (by omega)]; have : j.toNat - qs.length = 0 := by omega
      rw [this]; rfl
    · rw [List.getElem?_append_right (by omega)]; have : j.toNat - ss.length = 0 := by omega
      rw [this]; rfl
    · intro k hk
      simp at hk ⊢
      omega
    · rintro ρ h6 ⟨⟨y7, y8, y9, y10, y11, y12, y13, y14, rfl⟩, B6, F6, ⟨us, u1, u2, u3⟩, ⟨vs, v1, v2, v3⟩⟩
      have mk : ∀ {r : Nat}, RowOk h3 [b, c, p, q, s] 10 r → RowOk h6 [b, c, p, q, s] 10 r := fun {r} w => by
        have w2 := w.fr FD3 (by simp)
        refine w2.at F6 ?_
        have h1 := w.out
        have h2 := w.lt
        simp at h1 ⊢
        omega
      refine ⟨⟨_, _, _, _, _, _, _, _, _, rfl⟩, by omega, B6, FD.new F6 ?_, qs ++ [h3.length], ss ++ [w2], F6.at_ D1 (by simp; omega), F6.at_ D2 (by simp; omega), by simp; omega, by simp; omega, ?_, ?_⟩
      · intro n hn
        simp at hn ⊢
        omega
      · intro r hr
        rcases List.mem_append.mp hr with z | z
        · exact ⟨mk (rq r z).1, (rq r z).2⟩
        · rw [List.mem_singleton.mp z]
          exact ⟨⟨by simp; omega, us, u1, u2, u3⟩, by omega⟩
      · intro r hr
        rcases List.mem_append.mp hr with z | z
        · exact ⟨mk (rS r z).1, (rS r z).2⟩
        · rw [List.mem_singleton.mp z]
          exact ⟨⟨by simp; omega, vs, v1, v2, v3⟩, by omega⟩
  · rintro ρ h3 ⟨⟨x6, x7, x8, x9, x10, x11, x12, x13, x14, rfl⟩, j0, B3, F3, qs, ss, eq3, es3, lq, ls, rq, rS⟩
    unfold m_law_fair_13
    have hl3 := F3.len
    simp only [sat_ok, sat_bind, sat_pr, sat_opt, sat_eC, sat_eVar, sat_eBin, sat_eUn, sat_mBl, sat_mTru, sat_mNot, sat_mAnd, sat_mOr, sat_eAnd, sat_eOr, sat_eNot, sat_eIf, sat_eChain, sat_aNil, sat_aCons, sat_ofLen, sat_eTup, sat_eLst, sat_eBlt, sat_eMth, sat_oNone, sat_oSome, sat_eSl, sat_eFn, sat_eFnK, sat_sNext, sat_sSeq, sat_sEx, sat_sRet, sat_sRetN, sat_sIf, sat_sSet, sat_sPar, sat_sPar3, sat_sStore, sat_sRaise, sat_sFor, sat_mSeq, sat_mRange, sat_mEnum, sat_mZip, sat_eLc, sat_eLenSet, sat_eDic, sat_evalP, sat_evalP0, sat_eFld, sat_sFldS, sat_eMk, sat_init, List.getElem?_cons_zero, List.getElem?_cons_succ, List.map_cons, List.map_nil, List.length_cons, List.length_nil, List.replicate, List.nil_append, List.cons_append, List.append_nil, bindP, bindPs, setR, List.set_cons_zero, List.set_cons_succ, asBl, Nat.sub_self, Nat.reduceSub, Nat.reduceAdd]
    have hk : (allKey [(Dt.str (Str.ofString "prices"), Dt.ref p), (Dt.str (Str.ofString "rates"), Dt.ref q), (Dt.str (Str.ofString "steps"), Dt.ref s)] && decide (3 ≤ 15)) = true := rfl
    refine (if_pos hk).mpr ?_
    have BGh : BG b c zs h h3 := ⟨((G2.g.fr).new F3 (by
      intro n hn
      simp at hn ⊢
      omega)).grow, B3⟩
    have re : ∀ {r : Nat}, RowOk h3 [b, c, p, q, s] 10 r → RowOk (h3 ++ [Ce.dic false false (mergeD [] [(.str "prices", .ref p), (.str "rates", .ref q), (.str "steps", .ref s)])]) [b, c, h3.length, p, q, s] 10 r := fun {r} w => by
      refine (w.ex ?_).fr .app (ex2 := []) (by simp)
      have h1 := w.out
      have h2 := w.lt
      simp at h1 ⊢
      omega
    have ap : ∀ {k : Nat} {ds : List Dt}, lstAt h3 k = some ds → lstAt (h3 ++ [Ce.dic false false (mergeD [] [(.str "prices", .ref p), (.str "rates", .ref q), (.str "steps", .ref s)])]) k = some ds := fun e => by rw [lstAt_app (lstAt_lt e)]; exact e
    have RP := R2.fr F3
    have tl := P1.len
    have rl := R1.len
    refine ⟨_, p, q, s, rs, qs, ss, rfl, BGh.app, ⟨by simp; rfl, rfl, ?_, ?_⟩, lq⟩
    · have := B.ne
      simp
      omega
    · intro i k e
      match i, e with
      | 0, e =>
        cases e
        refine ⟨rs, rfl, ap (F3.at_ e2 (by simp; omega)), by omega, fun r hr => re ?_⟩
        obtain ⟨ps, hps, er, nr⟩ := RP.mem hr
        obtain ⟨i, hi⟩ := List.getElem?_of_mem hps
        obtain ⟨g1, g2, _⟩ := P1.good hi
        have := n1 r hr
        have := rn1 r hr
        have := rl1 r hr
        refine ⟨by simp at *; omega, ps, er, fun x hx => ⟨(g1 x hx).1.s1, (g1 x hx).1.s2⟩, g2⟩
      | 1, e =>
        cases e
        exact ⟨qs, rfl, ap eq3, by omega, fun r hr => re (rq r hr).1⟩
      | 2, e =>
        cases e
        exact ⟨ss, rfl, ap es3, by omega, fun r hr => re (rS r hr).1⟩
  · exact ⟨⟨_, _, _, _, _, _, _, _, _, rfl⟩, by omega, G2.box, ⟨Nat.le_refl _, fun _ _ _ => rfl⟩, [], [], eq2, es2, by simp, by simp, by simp, by simp⟩

end Cl
namespace Cl
open PySem PySem.Spec PyProof.Rows L2
/-! ## loose rates -/
theorem ixN_nat {n : Nat} {i : Int} (h0 : 0 ≤ i) (h1 : i < n) : ixN n i = some i.toNat := by
  unfold ixN
  rw [if_pos h0, if_pos h1]
theorem set_am {ps : List Q2} {k : Nat} {x : Q2} : (ps.map am).set k (am x) = (ps.set k x).map am := (List.map_set ..).symm
theorem loose2_spec {h : CH} {b c n p q s r : Nat} {zs : List Int} {x y z : Option Dt} {rs qs ss : List Nat} {j : Int} {m : Nat} (B : Box h b c zs) (W : WebD h b c n [p, q, s] [rs, qs, ss] m) (j0 : 0 ≤ j) (er : qs[j.toNat]? = some r) (hm : m < 1000) :
    (m_law_loose_2 [some (.ref b), x, y, some (.ref n), some (.int j), z] h).sat (fun ρ h' => (∃ z, ρ = [some (.ref b), x, y, some (.ref n), some (.int j), z]) ∧ Box h' b c zs ∧ WebD h' b c n [p, q, s] [rs, qs, ss] m) (fun _ _ => False) noE := by
  unfold m_law_loose_2
  have GET : ∀ {h : CH}, WebD h b c n [p, q, s] [rs, qs, ss] m → pIx (.ref n) (.str "rates") h = some (.ref q, h) ∧ pIx (.ref q) (.int j) h = some (.ref r, h) ∧ RowOk h (b :: c :: n :: [p, q, s]) m r := fun {h} w => by
    obtain ⟨p', P, e1, e2, e3, e4, _, e5, _⟩ := w.get (i := 1) (by decide)
    cases e1; cases e2
    exact ⟨e3, by rw [pIxR e4, atN j0 (by rw [List.getElem?_map, er]; rfl)]; rfl, e5 r (List.mem_of_getElem? er)⟩
  obtain ⟨g1, g2, _, ps, e, sm, few⟩ := GET W
  simp only [sat_ok, sat_bind, sat_pr, sat_opt, sat_eC, sat_eVar, sat_eBin, sat_eUn, sat_mBl, sat_mTru, sat_mNot, sat_mAnd, sat_mOr, sat_eAnd, sat_eOr, sat_eNot, sat_eIf, sat_eChain, sat_aNil, sat_aCons, sat_ofLen, sat_eTup, sat_eLst, sat_eBlt, sat_eMth, sat_oNone, sat_oSome, sat_eSl, sat_eFn, sat_eFnK, sat_sNext, sat_sSeq, sat_sEx, sat_sRet, sat_sRetN, sat_sIf, sat_sSet, sat_sPar, sat_sPar3, sat_sStore, sat_sRaise, sat_sFor, sat_mSeq, sat_mRange, sat_mEnum, sat_mZip, sat_eLc, sat_eLenSet, sat_eDic, sat_evalP, sat_evalP0, sat_eFld, sat_sFldS, sat_eMk, sat_init, List.getElem?_cons_zero, List.getElem?_cons_succ, List.map_cons, List.map_nil, List.length_cons, List.length_nil, List.replicate, List.nil_append, List.cons_append, List.append_nil, bindP, bindPs, setR, List.set_cons_zero, List.set_cons_succ, asBl, Nat.sub_self, Nat.reduceSub, Nat.reduceAdd, g1, g2, pLenR e, mRng1_eq (show (0 : Int) ≤ ((ps.map am).length : Nat) by omega) (show (((ps.map am).length : Nat) : Int) < 1000000 by rw [List.length_map]; omega)]
  refine sat_forR (I := fun k ρ h' => (∃ z, ρ = [some (.ref b), x, y, some (.ref n), some (.int j), z]) ∧ 0 ≤ k ∧ Box h' b c zs ∧ WebD h' b c n [p, q, s] [rs, qs, ss] m ∧ ∃ qs, RowD h' m r qs ∧ qs.length = ps.length) (hi := ((ps.map am).length : Nat)) (fun _ _ _ _ => okG_nil) ?_ ?_ _ 0 _ _ (by omega) ?_
  · rintro k ρ h2 hk ⟨⟨z, rfl⟩, k0, B2, W2, us, ⟨u1, u2, u3⟩, ul⟩
    rw [List.length_map] at hk
    simp only [setR, List.set_cons_succ, List.set_cons_zero]
    unfold m_law_loose_1
    simp only [sat_ok, sat_bind, sat_pr, sat_opt, sat_eC, sat_eVar, sat_eBin, sat_eUn, sat_mBl, sat_mTru, sat_mNot, sat_mAnd, sat_mOr, sat_eAnd, sat_eOr, sat_eNot, sat_eIf, sat_eChain, sat_aNil, sat_aCons, sat_ofLen, sat_eTup, sat_eLst, sat_eBlt, sat_eMth, sat_oNone, sat_oSome, sat_eSl, sat_eFn, sat_eFnK, sat_sNext, sat_sSeq, sat_sEx, sat_sRet, sat_sRetN, sat_sIf, sat_sSet, sat_sPar, sat_sPar3, sat_sStore, sat_sRaise, sat_sFor, sat_mSeq, sat_mRange, sat_mEnum, sat_mZip, sat_eLc, sat_eLenSet, sat_eDic, sat_evalP, sat_evalP0, sat_eFld, sat_sFldS, sat_eMk, sat_init, List.getElem?_cons_zero, List.getElem?_cons_succ, List.map_cons, List.map_nil, List.length_cons, List.length_nil, List.replicate, List.nil_append, List.cons_append, List.append_nil, bindP, bindPs, setR, List.set_cons_zero, List.set_cons_succ, asBl, Nat.sub_self, Nat.reduceSub, Nat.reduceAdd]
    refine (draw B2 (show (0 : Int) < 3 by omega) (by omega)).mono ?_ fun _ _ _ z => z
    rintro d h3 ⟨t, rfl, t0, t1, G3, _⟩
    have W3 := W2.fr G3.g.fr
    have nr := (GET W3).2.2.out
    simp only [List.mem_cons, List.not_mem_nil, or_false, not_or] at nr
    have u13 := G3.g.at_ u1 nr.1
    simp only [sat_ok, sat_bind, sat_pr, sat_opt, sat_eC, sat_eVar, sat_eBin, sat_eUn, sat_mBl, sat_mTru, sat_mNot, sat_mAnd, sat_mOr, sat_eAnd, sat_eOr, sat_eNot, sat_eIf, sat_eChain, sat_aNil, sat_aCons, sat_ofLen, sat_eTup, sat_eLst, sat_eBlt, sat_eMth, sat_oNone, sat_oSome, sat_eSl, sat_eFn, sat_eFnK, sat_sNext, sat_sSeq, sat_sEx, sat_sRet, sat_sRetN, sat_sIf, sat_sSet, sat_sPar, sat_sPar3, sat_sStore, sat_sRaise, sat_sFor, sat_mSeq, sat_mRange, sat_mEnum, sat_mZip, sat_eLc, sat_eLenSet, sat_eDic, sat_evalP, sat_evalP0, sat_eFld, sat_sFldS, sat_eMk, sat_init, List.getElem?_cons_zero, List.getElem?_cons_succ, List.map_cons, List.map_nil, List.length_cons, List.length_nil, List.replicate, List.nil_append, List.cons_append, List.append_nil, bindP, bindPs, setR, List.set_cons_zero, List.set_cons_succ, asBl, Nat.sub_self, Nat.reduceSub, Nat.reduceAdd, pGt_int, decide_eq_true_eq]
    split
    · refine (above_spec G3.box (show (0 : Int) < 3 by omega) (by omega)).mono ?_ fun _ _ _ z => z
      rintro d h4 ⟨a, rfl, pa, G4⟩
      have W4 := W3.fr G4.g.fr
      have u14 := G4.g.at_ u13 nr.1
      obtain ⟨k1, k2, k3⟩ := GET W4
      have sm2 : ∀ x ∈ us.set k.toNat a, Sm2 x := fun x hx => by
        rcases List.mem_or_eq_of_mem_set hx with z | z
        · exact u2 x z
        · rw [z]; exact ⟨pa.am.s1, pa.am.s2⟩
      have l2 : (us.set k.toNat a).length ≤ m := by rw [List.length_set]; exact u3
      simp only [sat_ok, sat_bind, sat_pr, sat_opt, sat_eC, sat_eVar, sat_eBin, sat_eUn, sat_mBl, sat_mTru, sat_mNot, sat_mAnd, sat_mOr, sat_eAnd, sat_eOr, sat_eNot, sat_eIf, sat_eChain, sat_aNil, sat_aCons, sat_ofLen, sat_eTup, sat_eLst, sat_eBlt, sat_eMth, sat_oNone, sat_oSome, sat_eSl, sat_eFn, sat_eFnK, sat_sNext, sat_sSeq, sat_sEx, sat_sRet, sat_sRetN, sat_sIf, sat_sSet, sat_sPar, sat_sPar3, sat_sStore, sat_sRaise, sat_sFor, sat_mSeq, sat_mRange, sat_mEnum, sat_mZip, sat_eLc, sat_eLenSet, sat_eDic, sat_evalP, sat_evalP0, sat_eFld, sat_sFldS, sat_eMk, sat_init, List.getElem?_cons_zero, List.getElem?_cons_succ, List.map_cons, List.map_nil, List.length_cons, List.length_nil, List.replicate, List.nil_append, List.cons_append, List.append_nil, bindP, bindPs, setR, List.set_cons_zero, List.set_cons_succ, asBl, Nat.sub_self, Nat.reduceSub, Nat.reduceAdd, k1, k2, pPutR u14, ixN_nat (n := (us.map am).length) k0 (by rw [List.length_map]; omega), Option.map_some, set_am]
      exact ⟨⟨_, rfl⟩, by omega, G4.box.set nr.1 nr.2.1, W4.row k3 sm2 l2, _, ⟨lstAt_set (lstAt_lt u14), sm2, l2⟩, by rw [List.length_set]; exact ul⟩
    · exact ⟨⟨_, rfl⟩, by omega, G3.box, W3, us, ⟨u13, u2, u3⟩, ul⟩
  · rintro ρ h2 ⟨e, _, B2, W2, _⟩
    exact ⟨e, B2, W2⟩
  · exact ⟨⟨_, rfl⟩, by omega, B, W, ps, ⟨e, sm, few⟩, rfl⟩
theorem loose_spec {h : CH} {b c : Nat} {zs : List Int} {dates most : Int} (B : Box h b c zs) (d0 : 1 ≤ dates) (d1 : dates ≤ 7) (m0 : 2 ≤ most) (m1 : most ≤ 8) :
    (F_law_loose [.ref b, .int dates, .int most] h).sat (fun d h' => ∃ (n : Nat) (o : List Nat) (R : List (List Nat)), d = .ref n ∧ Box h' b c zs ∧ WebD h' b c n o R 10) noE := by
  refine sat_run rfl ?_
  unfold m_law_loose m_law_loose_3
  simp only [sat_ok, sat_bind, sat_pr, sat_opt, sat_eC, sat_eVar, sat_eBin, sat_eUn, sat_mBl, sat_mTru, sat_mNot, sat_mAnd, sat_mOr, sat_eAnd, sat_eOr, sat_eNot, sat_eIf, sat_eChain, sat_aNil, sat_aCons, sat_ofLen, sat_eTup, sat_eLst, sat_eBlt, sat_eMth, sat_oNone, sat_oSome, sat_eSl, sat_eFn, sat_eFnK, sat_sNext, sat_sSeq, sat_sEx, sat_sRet, sat_sRetN, sat_sIf, sat_sSet, sat_sPar, sat_sPar3, sat_sStore, sat_sRaise, sat_sFor, sat_mSeq, sat_mRange, sat_mEnum, sat_mZip, sat_eLc, sat_eLenSet, sat_eDic, sat_evalP, sat_evalP0, sat_eFld, sat_sFldS, sat_eMk, sat_init, List.getElem?_cons_zero, List.getElem?_cons_succ, List.map_cons, List.map_nil, List.length_cons, List.length_nil, List.replicate, List.nil_append, List.cons_append, List.append_nil, bindP, bindPs, setR, List.set_cons_zero, List.set_cons_succ, asBl, Nat.sub_self, Nat.reduceSub, Nat.reduceAdd]
  refine (fair_spec B d0 d1 m0 m1).mono ?_ fun _ _ _ z => z
  rintro d h1 ⟨n, p, q, s, rs, qs, ss, rfl, G1, W1, lq⟩
  unfold m_law_loose_4
  simp only [sat_ok, sat_bind, sat_pr, sat_opt, sat_eC, sat_eVar, sat_eBin, sat_eUn, sat_mBl, sat_mTru, sat_mNot, sat_mAnd, sat_mOr, sat_eAnd, sat_eOr, sat_eNot, sat_eIf, sat_eChain, sat_aNil, sat_aCons, sat_ofLen, sat_eTup, sat_eLst, sat_eBlt, sat_eMth, sat_oNone, sat_oSome, sat_eSl, sat_eFn, sat_eFnK, sat_sNext, sat_sSeq, sat_sEx, sat_sRet, sat_sRetN, sat_sIf, sat_sSet, sat_sPar, sat_sPar3, sat_sStore, sat_sRaise, sat_sFor, sat_mSeq, sat_mRange, sat_mEnum, sat_mZip, sat_eLc, sat_eLenSet, sat_eDic, sat_evalP, sat_evalP0, sat_eFld, sat_sFldS, sat_eMk, sat_init, List.getElem?_cons_zero, List.getElem?_cons_succ, List.map_cons, List.map_nil, List.length_cons, List.length_nil, List.replicate, List.nil_append, List.cons_append, List.append_nil, bindP, bindPs, setR, List.set_cons_zero, List.set_cons_succ, asBl, Nat.sub_self, Nat.reduceSub, Nat.reduceAdd, pSub_int, mRng1_eq (show (0 : Int) ≤ dates - 1 by omega) (show dates - 1 < 1000000 by omega)]
  refine sat_forR (I := fun j ρ h' => (∃ x y, ρ = [some (.ref b), some (.int dates), some (.int most), some (.ref n), x, y]) ∧ 0 ≤ j ∧ Box h' b c zs ∧ WebD h' b c n [p, q, s] [rs, qs, ss] 10) (hi := dates - 1) (fun _ _ _ _ => okG_nil) ?_ ?_ _ 0 _ _ (by omega) ?_
  · rintro j ρ h2 hj ⟨⟨x, y, rfl⟩, j0, B2, W2⟩
    simp only [setR, List.set_cons_succ, List.set_cons_zero]
    refine (loose2_spec B2 W2 j0 (List.getElem?_eq_getElem (by omega)) (by omega)).mono ?_ (fun _ _ z => z.elim) fun _ _ _ z => z
    rintro ρ h3 ⟨⟨z, rfl⟩, B3, W3⟩
    exact ⟨⟨_, _, rfl⟩, by omega, B3, W3⟩
  · rintro ρ h2 ⟨⟨x, y, rfl⟩, j0, B2, W2⟩
    simp only [sat_ok, sat_bind, sat_pr, sat_opt, sat_eC, sat_eVar, sat_eBin, sat_eUn, sat_mBl, sat_mTru, sat_mNot, sat_mAnd, sat_mOr, sat_eAnd, sat_eOr, sat_eNot, sat_eIf, sat_eChain, sat_aNil, sat_aCons, sat_ofLen, sat_eTup, sat_eLst, sat_eBlt, sat_eMth, sat_oNone, sat_oSome, sat_eSl, sat_eFn, sat_eFnK, sat_sNext, sat_sSeq, sat_sEx, sat_sRet, sat_sRetN, sat_sIf, sat_sSet, sat_sPar, sat_sPar3, sat_sStore, sat_sRaise, sat_sFor, sat_mSeq, sat_mRange, sat_mEnum, sat_mZip, sat_eLc, sat_eLenSet, sat_eDic, sat_evalP, sat_evalP0, sat_eFld, sat_sFldS, sat_eMk, sat_init, List.getElem?_cons_zero, List.getElem?_cons_succ, List.map_cons, List.map_nil, List.length_cons, List.length_nil, List.replicate, List.nil_append, List.cons_append, List.append_nil, bindP, bindPs, setR, List.set_cons_zero, List.set_cons_succ, asBl, Nat.sub_self, Nat.reduceSub, Nat.reduceAdd]
    exact ⟨n, _, _, rfl, B2, W2⟩
  · exact ⟨⟨_, _, rfl⟩, by omega, G1.box, W1⟩

end Cl
namespace Cl
open PySem PySem.Spec PyProof.Rows L2
/-! ## pieces of lists -/
theorem cut_map {α : Type} {f : α → Dt} {P : List α} {lo hi : Option Int} : ∃ P' : List α, cutD (P.map f) lo hi = P'.map f ∧ (∀ r ∈ P', r ∈ P) ∧ P'.length ≤ P.length := by
  unfold cutD
  refine ⟨(P.drop (HT.sIx (P.map f).length 0 lo)).take (HT.sIx (P.map f).length (P.map f).length hi - HT.sIx (P.map f).length 0 lo), ?_, ?_, ?_⟩
  · rw [List.map_take, List.map_drop]
  · exact fun r hr => List.mem_of_mem_drop (List.mem_of_mem_take hr)
  · rw [List.length_take, List.length_drop]; omega
theorem rep_map {α : Type} {f : α → Dt} {P : List α} : ∀ k : Nat, ∃ P' : List α, repD k (P.map f) = P'.map f ∧ (∀ r ∈ P', r ∈ P) ∧ P'.length = k * P.length
  | 0 => ⟨[], rfl, by simp, by simp⟩
  | k + 1 => by
    obtain ⟨Q, e1, e2, e3⟩ := rep_map (f := f) (P := P) k
    refine ⟨P ++ Q, ?_, ?_, ?_⟩
    · show (List.replicate (k + 1) (P.map f)).flatten = _
      rw [List.replicate_succ, List.flatten_cons, List.map_append, ← e1]; rfl
    · intro r hr
      rcases List.mem_append.mp hr with z | z
      · exact z
      · exact e2 r z
    · rw [List.length_append, e3, Nat.add_mul]; omega
theorem Fr.rf {ex : List Nat} {h : CH} : Fr ex h h := ⟨Nat.le_refl _, fun _ _ _ => rfl⟩
theorem Fr.ap {ex : List Nat} {h h' l : CH} (f : Fr ex h h') : Fr ex h (h' ++ l) := f.trans .app
/-- another list for a word -/
theorem WebD.put {h : CH} {b c n m M i a : Nat} {o : List Nat} {R : List (List Nat)} {P' : List Nat} (w : WebD h b c n o R m) (hi : i < 3) (hm : m ≤ M) (ha : lstAt h a = some (P'.map .ref)) (na : a ∉ b :: c :: n :: o) (nr : ∀ (i p : Nat) P, o[i]? = some p → R[i]? = some P → ∀ r ∈ P, r ≠ a) (hl : P'.length ≤ M) (hr : ∀ r ∈ P', RowOk h (b :: c :: n :: o) m r ∧ r ≠ a) :
    ∃ h', pPut (.ref n) (.str (kw i)) (.ref a) h = some h' ∧ WebD h' b c n (o.set i a) (R.set i P') M ∧ Fr [n] h h' := by
  have hln : lstAt h n = none := by unfold lstAt; rw [w.dic]
  have hdn : dicAt h n = some (webD o) := by unfold dicAt; rw [w.dic]
  have hn : n < h.length := by
    by_cases hl : n < h.length
    · exact hl
    · have := w.dic; rw [List.getElem?_eq_none (by omega)] at this; cases this
  have o3 := w.o3
  have key : ∃ kvs, pPut (.ref n) (.str (kw i)) (.ref a) h = some (h.set n (.dic false false kvs)) ∧ kvs = webD (o.set i a) := by
    match o, o3, hdn with
    | [p, q, s], _, hdn =>
      match i, hi with
      | 0, _ => exact ⟨_, by dsimp only [pPut]; rw [hln]; dsimp only; rw [hdn]; exact if_pos ⟨rfl, by rw [sz]; show 3 < 16777216; omega⟩, rfl⟩
      | 1, _ => exact ⟨_, by dsimp only [pPut]; rw [hln]; dsimp only; rw [hdn]; exact if_pos ⟨rfl, by rw [sz]; show 3 < 16777216; omega⟩, rfl⟩
      | 2, _ => exact ⟨_, by dsimp only [pPut]; rw [hln]; dsimp only; rw [hdn]; exact if_pos ⟨rfl, by rw [sz]; show 3 < 16777216; omega⟩, rfl⟩
  obtain ⟨kvs, e, rfl⟩ := key
  have F : Fr [n] h (h.set n (.dic false false (webD (o.set i a)))) := .set (by simp)
  simp only [List.mem_cons, not_or] at na
  have nd := w.nd
  have ex : ∀ {r : Nat}, RowOk h (b :: c :: n :: o) m r → r ≠ a → RowOk (h.set n (.dic false false (webD (o.set i a)))) (b :: c :: n :: o.set i a) M r := fun {r} w ne => by
    have h1 := w.out
    simp only [List.mem_cons, not_or] at h1
    refine ((w.at F (by simpa using h1.2.2.1)).ex ?_).le hm
    simp only [List.mem_cons, not_or]
    refine ⟨h1.1, h1.2.1, h1.2.2.1, fun z => ?_⟩
    rcases List.mem_or_eq_of_mem_set z with z | z
    · exact h1.2.2.2 z
    · exact ne z
  refine ⟨_, e, ⟨by rw [List.getElem?_set_self hn], by rw [List.length_set]; exact o3, ?_, ?_⟩, F⟩
  · simp only [List.nodup_cons, List.mem_cons, not_or] at nd ⊢
    have mm : ∀ {z : Nat}, z ∉ o → z ≠ a → z ∉ o.set i a := fun h1 h2 h3 => by
      rcases List.mem_or_eq_of_mem_set h3 with z | z
      · exact h1 z
      · exact h2 z
    refine ⟨⟨nd.1.1, nd.1.2.1, mm nd.1.2.2 (fun z => na.1 z.symm)⟩, ⟨nd.2.1.1, mm nd.2.1.2 fun z => na.2.1 z.symm⟩, mm nd.2.2.1 fun z => na.2.2.1 z.symm, ?_⟩
    match o, o3, nd.2.2.2, na.2.2.2 with
    | [p, q, s], _, nd, na =>
      simp at nd na
      match i, hi with
      | 0, _ => simp; omega
      | 1, _ => simp; omega
      | 2, _ => simp; omega
  · intro k z hz
    by_cases hk : i = k
    · subst hk
      have il : i < o.length := by omega
      rw [List.getElem?_set_self il] at hz
      cases hz
      obtain ⟨P, e1, _⟩ := w.out i o[i] (List.getElem?_eq_getElem il)
      refine ⟨P', List.getElem?_set_self (List.getElem?_eq_some_iff.mp e1).1, F.at_ ha (by simpa using na.2.2.1), hl, fun r hr2 => ex (hr r hr2).1 (hr r hr2).2⟩
    · rw [List.getElem?_set_ne hk] at hz
      obtain ⟨P, e1, e2, e3, e4⟩ := w.out k z hz
      refine ⟨P, by rw [List.getElem?_set_ne hk]; exact e1, F.at_ e2 ?_, by omega, fun r hr2 => ex (e4 r hr2) (nr k z P hz e1 r hr2)⟩
      have : z ∈ o := List.mem_of_getElem? hz
      simp only [List.nodup_cons, List.mem_cons, not_or] at nd
      simpa using fun e : z = n => nd.2.2.1 (e ▸ this)
/-- another row -/
theorem WebD.putRow {h : CH} {b c n m M i k p a : Nat} {o P : List Nat} {R : List (List Nat)} (w : WebD h b c n o R m) (hm : m ≤ M) (e : o[i]? = some p) (eR : R[i]? = some P) (ha : RowOk h (b :: c :: n :: o) M a) : WebD (h.set p (.lst ((P.set k a).map .ref))) b c n o (R.set i (P.set k a)) M := by
  have nd := w.nd
  have po : p ∈ o := List.mem_of_getElem? e
  have il := (List.getElem?_eq_some_iff.mp eR).1
  obtain ⟨P2, f1, f2, f3, f4⟩ := w.out i p e
  rw [eR] at f1; cases f1
  have F : Fr [p] h (h.set p (.lst ((P.set k a).map .ref))) := .set (by simp)
  have ok : ∀ {r : Nat}, RowOk h (b :: c :: n :: o) M r → RowOk (h.set p (.lst ((P.set k a).map .ref))) (b :: c :: n :: o) M r := fun w => w.fr F (by simp; exact .inr (.inr (.inr po)))
  have ndo := nd
  simp only [List.nodup_cons, List.mem_cons, not_or] at nd
  have pn : p ≠ n := fun z => nd.2.2.1 (z ▸ po)
  refine ⟨by rw [List.getElem?_set_ne pn]; exact w.dic, w.o3, ndo, fun j q hj => ?_⟩
  by_cases hq : i = j
  · subst hq
    rw [e] at hj; cases hj
    refine ⟨_, List.getElem?_set_self il, lstAt_set (lstAt_lt f2), by rw [List.length_set]; omega, fun r hr => ?_⟩
    rcases List.mem_or_eq_of_mem_set hr with z | z
    · exact ok ((f4 r z).le hm)
    · rw [z]; exact ok ha
  · obtain ⟨Q, g1, g2, g3, g4⟩ := w.out j q hj
    have qp : p ≠ q := fun z => by
      subst z
      exact hq ((List.getElem?_inj (List.getElem?_eq_some_iff.mp e).1 nd.2.2.2).mp (e.trans hj.symm))
    exact ⟨Q, by rw [List.getElem?_set_ne hq]; exact g1, by rw [lstAt_set_ne qp]; exact g2, by omega, fun r hr => ok ((g4 r hr).le hm)⟩

end Cl
namespace Cl
open PySem PySem.Spec PyProof.Rows L2
theorem pNeg1 {h : CH} : pNeg (.int 1) h = some (.int (-1), h) := rfl
theorem pMulR {n : Nat} {k : Int} {h : CH} {xs : List Dt} (e : lstAt h n = some xs) (k0 : 0 ≤ k) (k1 : k < 10) (hl : xs.length < 10000) : pMul (.ref n) (.int k) h = some (.ref h.length, h ++ [Ce.lst (repD k.toNat xs)]) := by
  dsimp only [pMul]; rw [e]; dsimp only
  rw [if_pos ?_]
  have : xs.length * k.toNat ≤ 10000 * 10 := Nat.mul_le_mul (by omega) (by omega)
  have h1 : (-(2 ^ 63) : Int) ≤ k := by omega
  have h2 : k < (2 ^ 63 : Int) := by omega
  rw [decide_eq_true h1, decide_eq_true h2, decide_eq_true (show xs.length * k.toNat ≤ sizeLine by rw [sz]; omega)]
  rfl
theorem lstUp {h l : CH} {n : Nat} {ds : List Dt} (e : lstAt h n = some ds) : lstAt (h ++ l) n = some ds := by rw [lstAt_app (lstAt_lt e)]; exact e
/-- a word drawn -/
theorem word_spec {h : CH} {b c : Nat} {zs : List Int} {x1 x2 x3 x4 x5 x6 x7 x8 : Option Dt} (B : Box h b c zs) : (m_law_bent_1 [some (.ref b), x1, x2, x3, x4, x5, x6, x7, x8] h).sat (fun ρ h' => ∃ i l, i < 3 ∧ ρ = [some (.ref b), x1, x2, x3, some (.str (kw i)), x5, x6, x7, x8] ∧ Box h' b c zs ∧ Fr [b] h h' ∧ l = h'.length) (fun _ _ => False) noE := by
  unfold m_law_bent_1
  simp only [sat_ok, sat_bind, sat_pr, sat_opt, sat_eC, sat_eVar, sat_eBin, sat_eUn, sat_mBl, sat_mTru, sat_mNot, sat_mAnd, sat_mOr, sat_eAnd, sat_eOr, sat_eNot, sat_eIf, sat_eChain, sat_aNil, sat_aCons, sat_ofLen, sat_eTup, sat_eLst, sat_eBlt, sat_eMth, sat_oNone, sat_oSome, sat_eSl, sat_eFn, sat_eFnK, sat_sNext, sat_sSeq, sat_sEx, sat_sRet, sat_sRetN, sat_sIf, sat_sSet, sat_sPar, sat_sPar3, sat_sStore, sat_sRaise, sat_sFor, sat_mSeq, sat_mRange, sat_mEnum, sat_mZip, sat_eLc, sat_eLenSet, sat_eDic, sat_evalP, sat_evalP0, sat_eFld, sat_sFldS, sat_eMk, sat_init, List.getElem?_cons_zero, List.getElem?_cons_succ, List.map_cons, List.map_nil, List.length_cons, List.length_nil, List.replicate, List.nil_append, List.cons_append, List.append_nil, bindP, bindPs, setR, List.set_cons_zero, List.set_cons_succ, asBl, Nat.sub_self, Nat.reduceSub, Nat.reduceAdd, sz, Nat.reduceLeDiff, if_true]
  have hb := B.lt
  refine (draw B.app (show (0 : Int) < 3 by omega) (by omega)).mono ?_ fun _ _ _ z => z
  rintro d h1 ⟨t, rfl, t0, t1, G1, _⟩
  have e := G1.g.at_ lstAt_new (by omega)
  have F : Fr [b] h h1 := Fr.ap .rf |>.trans G1.g.fr
  have : t = 0 ∨ t = 1 ∨ t = 2 := by omega
  rcases this with rfl | rfl | rfl
  · simp only [sat_ok, sat_bind, sat_pr, sat_opt, sat_eC, sat_eVar, sat_eBin, sat_eUn, sat_mBl, sat_mTru, sat_mNot, sat_mAnd, sat_mOr, sat_eAnd, sat_eOr, sat_eNot, sat_eIf, sat_eChain, sat_aNil, sat_aCons, sat_ofLen, sat_eTup, sat_eLst, sat_eBlt, sat_eMth, sat_oNone, sat_oSome, sat_eSl, sat_eFn, sat_eFnK, sat_sNext, sat_sSeq, sat_sEx, sat_sRet, sat_sRetN, sat_sIf, sat_sSet, sat_sPar, sat_sPar3, sat_sStore, sat_sRaise, sat_sFor, sat_mSeq, sat_mRange, sat_mEnum, sat_mZip, sat_eLc, sat_eLenSet, sat_eDic, sat_evalP, sat_evalP0, sat_eFld, sat_sFldS, sat_eMk, sat_init, List.getElem?_cons_zero, List.getElem?_cons_succ, List.map_cons, List.map_nil, List.length_cons, List.length_nil, List.replicate, List.nil_append, List.cons_append, List.append_nil, bindP, bindPs, setR, List.set_cons_zero, List.set_cons_succ, asBl, Nat.sub_self, Nat.reduceSub, Nat.reduceAdd, pIxR e, at4_0, at4_1, at4_2, at4_3, at3_0, at3_1, at3_2, at2_0, at2_1, at1_0, ix4_0, ix4_1, ix4_2, ix4_3, Option.map_some]
    exact ⟨0, _, by decide, rfl, G1.box, F, rfl⟩
  · simp only [sat_ok, sat_bind, sat_pr, sat_opt, sat_eC, sat_eVar, sat_eBin, sat_eUn, sat_mBl, sat_mTru, sat_mNot, sat_mAnd, sat_mOr, sat_eAnd, sat_eOr, sat_eNot, sat_eIf, sat_eChain, sat_aNil, sat_aCons, sat_ofLen, sat_eTup, sat_eLst, sat_eBlt, sat_eMth, sat_oNone, sat_oSome, sat_eSl, sat_eFn, sat_eFnK, sat_sNext, sat_sSeq, sat_sEx, sat_sRet, sat_sRetN, sat_sIf, sat_sSet, sat_sPar, sat_sPar3, sat_sStore, sat_sRaise, sat_sFor, sat_mSeq, sat_mRange, sat_mEnum, sat_mZip, sat_eLc, sat_eLenSet, sat_eDic, sat_evalP, sat_evalP0, sat_eFld, sat_sFldS, sat_eMk, sat_init, List.getElem?_cons_zero, List.getElem?_cons_succ, List.map_cons, List.map_nil, List.length_cons, List.length_nil, List.replicate, List.nil_append, List.cons_append, List.append_nil, bindP, bindPs, setR, List.set_cons_zero, List.set_cons_succ, asBl, Nat.sub_self, Nat.reduceSub, Nat.reduceAdd, pIxR e, at4_0, at4_1, at4_2, at4_3, at3_0, at3_1, at3_2, at2_0, at2_1, at1_0, ix4_0, ix4_1, ix4_2, ix4_3, Option.map_some]
    exact ⟨1, _, by decide, rfl, G1.box, F, rfl⟩
  · simp only [sat_ok, sat_bind, sat_pr, sat_opt, sat_eC, sat_eVar, sat_eBin, sat_eUn, sat_mBl, sat_mTru, sat_mNot, sat_mAnd, sat_mOr, sat_eAnd, sat_eOr, sat_eNot, sat_eIf, sat_eChain, sat_aNil, sat_aCons, sat_ofLen, sat_eTup, sat_eLst, sat_eBlt, sat_eMth, sat_oNone, sat_oSome, sat_eSl, sat_eFn, sat_eFnK, sat_sNext, sat_sSeq, sat_sEx, sat_sRet, sat_sRetN, sat_sIf, sat_sSet, sat_sPar, sat_sPar3, sat_sStore, sat_sRaise, sat_sFor, sat_mSeq, sat_mRange, sat_mEnum, sat_mZip, sat_eLc, sat_eLenSet, sat_eDic, sat_evalP, sat_evalP0, sat_eFld, sat_sFldS, sat_eMk, sat_init, List.getElem?_cons_zero, List.getElem?_cons_succ, List.map_cons, List.map_nil, List.length_cons, List.length_nil, List.replicate, List.nil_append, List.cons_append, List.append_nil, bindP, bindPs, setR, List.set_cons_zero, List.set_cons_succ, asBl, Nat.sub_self, Nat.reduceSub, Nat.reduceAdd, pIxR e, at4_0, at4_1, at4_2, at4_3, at3_0, at3_1, at3_2, at2_0, at2_1, at1_0, ix4_0, ix4_1, ix4_2, ix4_3, Option.map_some]
    exact ⟨2, _, by decide, rfl, G1.box, F, rfl⟩
/-- a list of a word bent -/
theorem bent2_spec {h : CH} {b c n i m : Nat} {o : List Nat} {R : List (List Nat)} {zs : List Int} {x2 x3 x5 x6 x7 x8 : Option Dt} (B : Box h b c zs) (W : WebD h b c n o R m) (hi : i < 3) (m0 : 1 ≤ m) (m1 : m ≤ 100) :
    (m_law_bent_2 [some (.ref b), some (.ref n), x2, x3, some (.str (kw i)), x5, x6, x7, x8] h).sat (fun ρ h' => Box h' b c zs ∧ ∃ o R, WebD h' b c n o R (10 * m)) (fun _ _ => False) noE := by
  obtain ⟨p, P, eo, eR, g, lp, lP, rP, po⟩ := W.get hi
  have nd := W.nd
  have hb := B.lt
  simp only [List.nodup_cons, List.mem_cons, not_or] at nd
  have pb : p ≠ b := fun z => nd.1.2.2 (z ▸ po)
  have gg : ∀ {h'}, Fr [b] h h' → pIx (.ref n) (.str (kw i)) h' = some (.ref p, h') := fun f => by
    obtain ⟨p', _, eo', _, g', _⟩ := (W.fr f).get hi
    rw [eo] at eo'; cases eo'; exact g'
  have gl : ∀ {h' : CH}, Fr [b] h h' → lstAt h' p = some (P.map .ref) := fun f => f.at_ lp (by simpa using pb)
  have gs : ∀ {h' : CH} {lo hi}, Fr [b] h h' → pSl (.ref p) lo hi h' = some (.ref h'.length, h' ++ [Ce.lst (cutD (P.map .ref) lo hi)]) := fun f => pSlR (gl f)
  have ga : ∀ {k : CH} {ys : List Dt}, Fr [b] h k → ys.length ≤ 1000 → pAdd (.ref p) (.ref k.length) (k ++ [Ce.lst ys]) = some (.ref (k ++ [Ce.lst ys]).length, (k ++ [Ce.lst ys]) ++ [Ce.lst (P.map .ref ++ ys)]) := fun f hl => pAddR (gl f.ap) lstAt_new (by rw [List.length_map]; omega)
  have gm : ∀ {h' : CH}, Fr [b] h h' → pMul (.ref p) (.int 8) h' = some (.ref h'.length, h' ++ [Ce.lst (repD 8 (P.map .ref))]) := fun f => pMulR (gl f) (by omega) (by omega) (by rw [List.length_map]; omega)
  obtain ⟨P1, c1, s1, l1⟩ := cut_map (f := Dt.ref) (P := P) (lo := none) (hi := some (-1))
  obtain ⟨P2, c2, s2, l2⟩ := cut_map (f := Dt.ref) (P := P) (lo := some (-1)) (hi := none)
  obtain ⟨P3, c3, s3, l3⟩ := rep_map (f := Dt.ref) (P := P) 8
  unfold m_law_bent_2
  have f0 : Fr [b] h h := .rf
  simp only [sat_ok, sat_bind, sat_pr, sat_opt, sat_eC, sat_eVar, sat_eBin, sat_eUn, sat_mBl, sat_mTru, sat_mNot, sat_mAnd, sat_mOr, sat_eAnd, sat_eOr, sat_eNot, sat_eIf, sat_eChain, sat_aNil, sat_aCons, sat_ofLen, sat_eTup, sat_eLst, sat_eBlt, sat_eMth, sat_oNone, sat_oSome, sat_eSl, sat_eFn, sat_eFnK, sat_sNext, sat_sSeq, sat_sEx, sat_sRet, sat_sRetN, sat_sIf, sat_sSet, sat_sPar, sat_sPar3, sat_sStore, sat_sRaise, sat_sFor, sat_mSeq, sat_mRange, sat_mEnum, sat_mZip, sat_eLc, sat_eLenSet, sat_eDic, sat_evalP, sat_evalP0, sat_eFld, sat_sFldS, sat_eMk, sat_init, List.getElem?_cons_zero, List.getElem?_cons_succ, List.map_cons, List.map_nil, List.length_cons, List.length_nil, List.replicate, List.nil_append, List.cons_append, List.append_nil, bindP, bindPs, setR, List.set_cons_zero, List.set_cons_succ, asBl, Nat.sub_self, Nat.reduceSub, Nat.reduceAdd, pNeg1, gg f0, gs f0, gg f0.ap, gs f0.ap, c1, c2]
  have f2 : Fr [b] h (h ++ [Ce.lst (P1.map .ref)]) := f0.ap
  rw [ga f2 (by rw [List.length_map]; omega)]
  simp only [sat_ok, sat_bind, sat_pr, sat_opt, sat_eC, sat_eVar, sat_eBin, sat_eUn, sat_mBl, sat_mTru, sat_mNot, sat_mAnd, sat_mOr, sat_eAnd, sat_eOr, sat_eNot, sat_eIf, sat_eChain, sat_aNil, sat_aCons, sat_ofLen, sat_eTup, sat_eLst, sat_eBlt, sat_eMth, sat_oNone, sat_oSome, sat_eSl, sat_eFn, sat_eFnK, sat_sNext, sat_sSeq, sat_sEx, sat_sRet, sat_sRetN, sat_sIf, sat_sSet, sat_sPar, sat_sPar3, sat_sStore, sat_sRaise, sat_sFor, sat_mSeq, sat_mRange, sat_mEnum, sat_mZip, sat_eLc, sat_eLenSet, sat_eDic, sat_evalP, sat_evalP0, sat_eFld, sat_sFldS, sat_eMk, sat_init, List.getElem?_cons_zero, List.getElem?_cons_succ, List.map_cons, List.map_nil, List.length_cons, List.length_nil, List.replicate, List.nil_append, List.cons_append, List.append_nil, bindP, bindPs, setR, List.set_cons_zero, List.set_cons_succ, asBl, Nat.sub_self, Nat.reduceSub, Nat.reduceAdd, sz, Nat.zero_le, if_true, Nat.reduceLeDiff, gg f2.ap.ap.ap, gm f2.ap.ap.ap, c3]
  rw [← List.map_append]
  have fz : Fr [b] h (((((h ++ [Ce.lst (P1.map .ref)]) ++ [Ce.lst (P2.map .ref)]) ++ [Ce.lst ((P ++ P2).map .ref)]) ++ [Ce.lst []]) ++ [Ce.lst (P3.map .ref)]) := f2.ap.ap.ap.ap
  have hnl : n < h.length := by
    by_cases hl : n < h.length
    · exact hl
    · have := W.dic; rw [List.getElem?_eq_none (by omega)] at this; cases this
  have hcl := B.ltc
  have hol : ∀ q ∈ o, q < h.length := fun q hq => by
    obtain ⟨k, hk⟩ := List.getElem?_of_mem hq
    obtain ⟨_, _, e, _⟩ := W.out k q hk
    exact lstAt_lt e
  have fin : ∀ {h' : CH} {a : Nat} {P' : List Nat}, Fr [b] h h' → Box h' b c zs → lstAt h' a = some (P'.map .ref) → h.length ≤ a → (∀ r ∈ P', r ∈ P) → P'.length ≤ 10 * m → ∃ h4, pPut (.ref n) (.str (kw i)) (.ref a) h' = some h4 ∧ Box h4 b c zs ∧ ∃ o R, WebD h4 b c n o R (10 * m) := fun {h' a P'} f B' e la sub len => by
    have W' := W.fr f
    obtain ⟨h4, e4, W4, F4⟩ := W'.put hi (M := 10 * m) (by omega) e (by
      simp only [List.mem_cons, not_or]
      refine ⟨by omega, by omega, by omega, fun z => ?_⟩
      have := hol a z
      omega) (fun j q Q e1 e2 r hr => by
      obtain ⟨Q', f1, _, _, f4⟩ := W.out j q e1
      rw [e2] at f1; cases f1
      have := (f4 r hr).lt
      omega) len (fun r hr => by
      have h1 := rP r (sub r hr)
      exact ⟨h1.fr f (by simp), by have := h1.lt; omega⟩)
    exact ⟨h4, e4, B'.fr F4 (by simpa using nd.1.2.1) (by simpa using nd.2.1.1), _, _, W4⟩
  have Z1 : lstAt (((((h ++ [Ce.lst (P1.map .ref)]) ++ [Ce.lst (P2.map .ref)]) ++ [Ce.lst ((P ++ P2).map .ref)]) ++ [Ce.lst []]) ++ [Ce.lst (P3.map .ref)]) h.length = some (P1.map .ref) := lstUp (lstUp (lstUp (lstUp lstAt_new)))
  have Z2 : lstAt (((((h ++ [Ce.lst (P1.map .ref)]) ++ [Ce.lst (P2.map .ref)]) ++ [Ce.lst ((P ++ P2).map .ref)]) ++ [Ce.lst []]) ++ [Ce.lst (P3.map .ref)]) ((h ++ [Ce.lst (P1.map .ref)]) ++ [Ce.lst (P2.map .ref)]).length = some ((P ++ P2).map .ref) := lstUp (lstUp lstAt_new)
  have Z3 : lstAt (((((h ++ [Ce.lst (P1.map .ref)]) ++ [Ce.lst (P2.map .ref)]) ++ [Ce.lst ((P ++ P2).map .ref)]) ++ [Ce.lst []]) ++ [Ce.lst (P3.map .ref)]) (((h ++ [Ce.lst (P1.map .ref)]) ++ [Ce.lst (P2.map .ref)]) ++ [Ce.lst ((P ++ P2).map .ref)]).length = some (List.map .ref []) := lstUp lstAt_new
  have Z4 : lstAt (((((h ++ [Ce.lst (P1.map .ref)]) ++ [Ce.lst (P2.map .ref)]) ++ [Ce.lst ((P ++ P2).map .ref)]) ++ [Ce.lst []]) ++ [Ce.lst (P3.map .ref)]) ((((h ++ [Ce.lst (P1.map .ref)]) ++ [Ce.lst (P2.map .ref)]) ++ [Ce.lst ((P ++ P2).map .ref)]) ++ [Ce.lst []]).length = some (P3.map .ref) := lstAt_new
  have BZ : Box (((((h ++ [Ce.lst (P1.map .ref)]) ++ [Ce.lst (P2.map .ref)]) ++ [Ce.lst ((P ++ P2).map .ref)]) ++ [Ce.lst []]) ++ [Ce.lst (P3.map .ref)]) b c zs := B.app.app.app.app.app
  have l2' : h.length ≤ ((h ++ [Ce.lst (P1.map .ref)]) ++ [Ce.lst (P2.map .ref)]).length := by simp
  have l3' : h.length ≤ (((h ++ [Ce.lst (P1.map .ref)]) ++ [Ce.lst (P2.map .ref)]) ++ [Ce.lst ((P ++ P2).map .ref)]).length := by simp
  have l4' : h.length ≤ ((((h ++ [Ce.lst (P1.map .ref)]) ++ [Ce.lst (P2.map .ref)]) ++ [Ce.lst ((P ++ P2).map .ref)]) ++ [Ce.lst []]).length := by simp
  generalize ((h ++ [Ce.lst (P1.map .ref)]) ++ [Ce.lst (P2.map .ref)]).length = a2 at Z2 l2' ⊢
  generalize (((h ++ [Ce.lst (P1.map .ref)]) ++ [Ce.lst (P2.map .ref)]) ++ [Ce.lst ((P ++ P2).map .ref)]).length = a3 at Z3 l3' ⊢
  generalize ((((h ++ [Ce.lst (P1.map .ref)]) ++ [Ce.lst (P2.map .ref)]) ++ [Ce.lst ((P ++ P2).map .ref)]) ++ [Ce.lst []]).length = a4 at Z4 l4' ⊢
  generalize ((((h ++ [Ce.lst (P1.map .ref)]) ++ [Ce.lst (P2.map .ref)]) ++ [Ce.lst ((P ++ P2).map .ref)]) ++ [Ce.lst []]) ++ [Ce.lst (P3.map .ref)] = Z at Z1 Z2 Z3 Z4 BZ fz ⊢
  have hZ := fz.len
  refine (draw BZ.app (show (0 : Int) < 4 by omega) (by omega)).mono ?_ fun _ _ _ z => z
  rintro d h9 ⟨t, rfl, t0, t1, G9, _⟩
  have e9 := G9.g.at_ lstAt_new (by omega)
  have f9 : Fr [b] h h9 := (fz.ap).trans G9.g.fr
  have up : ∀ {a : Nat} {ds : List Dt}, h.length ≤ a → lstAt Z a = some ds → lstAt h9 a = some ds := fun la e => G9.g.at_ (by rw [lstAt_app (lstAt_lt e)]; exact e) (by omega)
  have : t = 0 ∨ t = 1 ∨ t = 2 ∨ t = 3 := by omega
  rcases this with rfl | rfl | rfl | rfl
  · obtain ⟨h4, e4, r4⟩ := fin f9 G9.box (up (Nat.le_refl _) Z1) (Nat.le_refl _) s1 (by omega)
    simp only [sat_ok, sat_bind, sat_pr, sat_opt, sat_eC, sat_eVar, sat_eBin, sat_eUn, sat_mBl, sat_mTru, sat_mNot, sat_mAnd, sat_mOr, sat_eAnd, sat_eOr, sat_eNot, sat_eIf, sat_eChain, sat_aNil, sat_aCons, sat_ofLen, sat_eTup, sat_eLst, sat_eBlt, sat_eMth, sat_oNone, sat_oSome, sat_eSl, sat_eFn, sat_eFnK, sat_sNext, sat_sSeq, sat_sEx, sat_sRet, sat_sRetN, sat_sIf, sat_sSet, sat_sPar, sat_sPar3, sat_sStore, sat_sRaise, sat_sFor, sat_mSeq, sat_mRange, sat_mEnum, sat_mZip, sat_eLc, sat_eLenSet, sat_eDic, sat_evalP, sat_evalP0, sat_eFld, sat_sFldS, sat_eMk, sat_init, List.getElem?_cons_zero, List.getElem?_cons_succ, List.map_cons, List.map_nil, List.length_cons, List.length_nil, List.replicate, List.nil_append, List.cons_append, List.append_nil, bindP, bindPs, setR, List.set_cons_zero, List.set_cons_succ, asBl, Nat.sub_self, Nat.reduceSub, Nat.reduceAdd, pIxR e9, at4_0, at4_1, at4_2, at4_3, at3_0, at3_1, at3_2, at2_0, at2_1, at1_0, ix4_0, ix4_1, ix4_2, ix4_3, Option.map_some, e4]
    exact r4
  · obtain ⟨h4, e4, r4⟩ := fin f9 G9.box (up l2' Z2) l2' (fun r hr => by
      rcases List.mem_append.mp hr with z | z
      · exact z
      · exact s2 r z) (by rw [List.length_append]; omega)
    simp only [sat_ok, sat_bind, sat_pr, sat_opt, sat_eC, sat_eVar, sat_eBin, sat_eUn, sat_mBl, sat_mTru, sat_mNot, sat_mAnd, sat_mOr, sat_eAnd, sat_eOr, sat_eNot, sat_eIf, sat_eChain, sat_aNil, sat_aCons, sat_ofLen, sat_eTup, sat_eLst, sat_eBlt, sat_eMth, sat_oNone, sat_oSome, sat_eSl, sat_eFn, sat_eFnK, sat_sNext, sat_sSeq, sat_sEx, sat_sRet, sat_sRetN, sat_sIf, sat_sSet, sat_sPar, sat_sPar3, sat_sStore, sat_sRaise, sat_sFor, sat_mSeq, sat_mRange, sat_mEnum, sat_mZip, sat_eLc, sat_eLenSet, sat_eDic, sat_evalP, sat_evalP0, sat_eFld, sat_sFldS, sat_eMk, sat_init, List.getElem?_cons_zero, List.getElem?_cons_succ, List.map_cons, List.map_nil, List.length_cons, List.length_nil, List.replicate, List.nil_append, List.cons_append, List.append_nil, bindP, bindPs, setR, List.set_cons_zero, List.set_cons_succ, asBl, Nat.sub_self, Nat.reduceSub, Nat.reduceAdd, pIxR e9, at4_0, at4_1, at4_2, at4_3, at3_0, at3_1, at3_2, at2_0, at2_1, at1_0, ix4_0, ix4_1, ix4_2, ix4_3, Option.map_some, e4]
    exact r4
  · obtain ⟨h4, e4, r4⟩ := fin f9 G9.box (up l3' Z3) l3' (by simp) (by simp)
    simp only [sat_ok, sat_bind, sat_pr, sat_opt, sat_eC, sat_eVar, sat_eBin, sat_eUn, sat_mBl, sat_mTru, sat_mNot, sat_mAnd, sat_mOr, sat_eAnd, sat_eOr, sat_eNot, sat_eIf, sat_eChain, sat_aNil, sat_aCons, sat_ofLen, sat_eTup, sat_eLst, sat_eBlt, sat_eMth, sat_oNone, sat_oSome, sat_eSl, sat_eFn, sat_eFnK, sat_sNext, sat_sSeq, sat_sEx, sat_sRet, sat_sRetN, sat_sIf, sat_sSet, sat_sPar, sat_sPar3, sat_sStore, sat_sRaise, sat_sFor, sat_mSeq, sat_mRange, sat_mEnum, sat_mZip, sat_eLc, sat_eLenSet, sat_eDic, sat_evalP, sat_evalP0, sat_eFld, sat_sFldS, sat_eMk, sat_init, List.getElem?_cons_zero, List.getElem?_cons_succ, List.map_cons, List.map_nil, List.length_cons, List.length_nil, List.replicate, List.nil_append, List.cons_append, List.append_nil, bindP, bindPs, setR, List.set_cons_zero, List.set_cons_succ, asBl, Nat.sub_self, Nat.reduceSub, Nat.reduceAdd, pIxR e9, at4_0, at4_1, at4_2, at4_3, at3_0, at3_1, at3_2, at2_0, at2_1, at1_0, ix4_0, ix4_1, ix4_2, ix4_3, Option.map_some, e4]
    exact r4
  · obtain ⟨h4, e4, r4⟩ := fin f9 G9.box (up l4' Z4) l4' s3 (by omega)
    simp only [sat_ok, sat_bind, sat_pr, sat_opt, sat_eC, sat_eVar, sat_eBin, sat_eUn, sat_mBl, sat_mTru, sat_mNot, sat_mAnd, sat_mOr, sat_eAnd, sat_eOr, sat_eNot, sat_eIf, sat_eChain, sat_aNil, sat_aCons, sat_ofLen, sat_eTup, sat_eLst, sat_eBlt, sat_eMth, sat_oNone, sat_oSome, sat_eSl, sat_eFn, sat_eFnK, sat_sNext, sat_sSeq, sat_sEx, sat_sRet, sat_sRetN, sat_sIf, sat_sSet, sat_sPar, sat_sPar3, sat_sStore, sat_sRaise, sat_sFor, sat_mSeq, sat_mRange, sat_mEnum, sat_mZip, sat_eLc, sat_eLenSet, sat_eDic, sat_evalP, sat_evalP0, sat_eFld, sat_sFldS, sat_eMk, sat_init, List.getElem?_cons_zero, List.getElem?_cons_succ, List.map_cons, List.map_nil, List.length_cons, List.length_nil, List.replicate, List.nil_append, List.cons_append, List.append_nil, bindP, bindPs, setR, List.set_cons_zero, List.set_cons_succ, asBl, Nat.sub_self, Nat.reduceSub, Nat.reduceAdd, pIxR e9, at4_0, at4_1, at4_2, at4_3, at3_0, at3_1, at3_2, at2_0, at2_1, at1_0, ix4_0, ix4_1, ix4_2, ix4_3, Option.map_some, e4]
    exact r4

end Cl
namespace Cl
open PySem PySem.Spec PyProof.Rows L2
theorem WebD.lts {h : CH} {b c n m : Nat} {o : List Nat} {R : List (List Nat)} (W : WebD h b c n o R m) : n < h.length ∧ ∀ q ∈ o, q < h.length := by
  constructor
  · by_cases hl : n < h.length
    · exact hl
    · have := W.dic; rw [List.getElem?_eq_none (by omega)] at this; cases this
  · intro q hq
    obtain ⟨k, hk⟩ := List.getElem?_of_mem hq
    obtain ⟨_, _, e, _⟩ := W.out k q hk
    exact lstAt_lt e
theorem ne_empty {h : CH} {w v : Nat} {ps : List Q2} (e : lstAt h w = some (ps.map am)) (e2 : lstAt h v = some []) : pNe (.ref w) (.ref v) h = some (.bl (!ps.isEmpty), h) := by
  have := eq_empty e e2
  unfold pEq at this
  unfold pNe
  cases q : eqB (.ref w) (.ref v) h with
  | none => rw [q] at this; cases this
  | some k =>
    rw [q] at this
    cases this
    rfl
/-- what is found of a word's row, wherever the heap has but grown -/
structure At (h : CH) (b n p rr : Nat) (w : Str) (j : Int) (P : List Nat) (ps : List Q2) : Prop where
  w : ∀ {h'}, Fr [b] h h' → pIx (.ref n) (.str w) h' = some (.ref p, h')
  l : ∀ {h' : CH}, Fr [b] h h' → lstAt h' p = some (P.map .ref)
  r : ∀ {h'}, Fr [b] h h' → pIx (.ref p) (.int j) h' = some (.ref rr, h')
  d : ∀ {h' : CH}, Fr [b] h h' → lstAt h' rr = some (ps.map am)
theorem WebD.at_ {h : CH} {b c n m i : Nat} {o : List Nat} {R : List (List Nat)} (W : WebD h b c n o R m) (hi : i < 3) : ∃ (p : Nat) (P : List Nat), o[i]? = some p ∧ R[i]? = some P ∧ P.length ≤ m ∧ (∀ {h'}, Fr [b] h h' → pIx (.ref n) (.str (kw i)) h' = some (.ref p, h')) ∧ (∀ {h' : CH}, Fr [b] h h' → lstAt h' p = some (P.map .ref)) ∧ ∀ (j : Int) (r : Nat), 0 ≤ j → P[j.toNat]? = some r → RowOk h (b :: c :: n :: o) m r ∧ ∃ ps, At h b n p r (kw i) j P ps ∧ (∀ x ∈ ps, Sm2 x) ∧ ps.length ≤ m := by
  obtain ⟨p, P, eo, eR, g, lp, lP, rP, po⟩ := W.get hi
  have nd := W.nd
  simp only [List.nodup_cons, List.mem_cons, not_or] at nd
  have pb : p ≠ b := fun z => nd.1.2.2 (z ▸ po)
  have gg : ∀ {h'}, Fr [b] h h' → pIx (.ref n) (.str (kw i)) h' = some (.ref p, h') := fun f => by
    obtain ⟨p', _, eo', _, g', _⟩ := (W.fr f).get hi
    rw [eo] at eo'; cases eo'; exact g'
  have gl : ∀ {h' : CH}, Fr [b] h h' → lstAt h' p = some (P.map .ref) := fun f => f.at_ lp (by simpa using pb)
  refine ⟨p, P, eo, eR, lP, gg, gl, fun j r j0 er => ?_⟩
  have ok := rP r (List.mem_of_getElem? er)
  refine ⟨ok, ?_⟩
  obtain ⟨nr, ps, e, s, f⟩ := ok
  simp only [List.mem_cons, not_or] at nr
  exact ⟨ps, ⟨gg, gl, fun f => by rw [pIxR (gl f), atN j0 (by rw [List.getElem?_map, er]; rfl)]; rfl, fun f => f.at_ e (by simpa using nr.1)⟩, s, f⟩
abbrev WebR (b c n m : Nat) (zs : List Int) : Rho → CH → Prop := fun _ h' => Box h' b c zs ∧ ∃ o R, WebD h' b c n o R (10 * m)
/-- a row bent -/
theorem bent4_spec {h : CH} {b c n i m : Nat} {o : List Nat} {R : List (List Nat)} {zs : List Int} {j : Int} {x2 x5 x6 x7 x8 : Option Dt} (B : Box h b c zs) (W : WebD h b c n o R m) (hi : i < 3) (j0 : 0 ≤ j) (m0 : 1 ≤ m) (m1 : m ≤ 100) :
    (m_law_bent_4 [some (.ref b), some (.ref n), x2, some (.int j), some (.str (kw i)), x5, x6, x7, x8] h).sat (WebR b c n m zs) (fun _ _ => False) noE := by
  obtain ⟨p, P, eo, eR, lP, gg, gl, row⟩ := W.at_ hi
  have f0 : Fr [b] h h := .rf
  unfold m_law_bent_4
  simp only [sat_ok, sat_bind, sat_pr, sat_opt, sat_eC, sat_eVar, sat_eBin, sat_eUn, sat_mBl, sat_mTru, sat_mNot, sat_mAnd, sat_mOr, sat_eAnd, sat_eOr, sat_eNot, sat_eIf, sat_eChain, sat_aNil, sat_aCons, sat_ofLen, sat_eTup, sat_eLst, sat_eBlt, sat_eMth, sat_oNone, sat_oSome, sat_eSl, sat_eFn, sat_eFnK, sat_sNext, sat_sSeq, sat_sEx, sat_sRet, sat_sRetN, sat_sIf, sat_sSet, sat_sPar, sat_sPar3, sat_sStore, sat_sRaise, sat_sFor, sat_mSeq, sat_mRange, sat_mEnum, sat_mZip, sat_eLc, sat_eLenSet, sat_eDic, sat_evalP, sat_evalP0, sat_eFld, sat_sFldS, sat_eMk, sat_init, List.getElem?_cons_zero, List.getElem?_cons_succ, List.map_cons, List.map_nil, List.length_cons, List.length_nil, List.replicate, List.nil_append, List.cons_append, List.append_nil, bindP, bindPs, setR, List.set_cons_zero, List.set_cons_succ, asBl, Nat.sub_self, Nat.reduceSub, Nat.reduceAdd, gg f0, pLenR (gl f0), pLt_int, List.length_map, decide_eq_true_eq]
  by_cases hj : j < (P.length : Nat)
  · rw [if_pos hj]
    obtain ⟨rok, ps, A, sm, few⟩ := row j P[j.toNat] j0 (List.getElem?_eq_getElem (by omega))
    generalize P[j.toNat] = r at rok A
    have gs : ∀ {h' : CH} {lo hi}, Fr [b] h h' → pSl (.ref r) lo hi h' = some (.ref h'.length, h' ++ [Ce.lst (cutD (ps.map am) lo hi)]) := fun f => pSlR (A.d f)
    have ga : ∀ {k : CH} {ys : List Dt}, Fr [b] h k → ys.length ≤ 1000 → pAdd (.ref r) (.ref k.length) (k ++ [Ce.lst ys]) = some (.ref (k ++ [Ce.lst ys]).length, (k ++ [Ce.lst ys]) ++ [Ce.lst (ps.map am ++ ys)]) := fun f hl => pAddR (A.d f.ap) lstAt_new (by rw [List.length_map]; omega)
    have gm : ∀ {h' : CH}, Fr [b] h h' → pMul (.ref r) (.int 9) h' = some (.ref h'.length, h' ++ [Ce.lst (repD 9 (ps.map am))]) := fun f => pMulR (A.d f) (by omega) (by omega) (by rw [List.length_map]; omega)
    obtain ⟨P1, c1, s1, l1⟩ := cut_map (f := am) (P := ps) (lo := none) (hi := some (-1))
    obtain ⟨P2, c2, s2, l2⟩ := cut_map (f := am) (P := ps) (lo := none) (hi := some 1)
    obtain ⟨P3, c3, s3, l3⟩ := rep_map (f := am) (P := ps) 9
    simp only [sat_ok, sat_bind, sat_pr, sat_opt, sat_eC, sat_eVar, sat_eBin, sat_eUn, sat_mBl, sat_mTru, sat_mNot, sat_mAnd, sat_mOr, sat_eAnd, sat_eOr, sat_eNot, sat_eIf, sat_eChain, sat_aNil, sat_aCons, sat_ofLen, sat_eTup, sat_eLst, sat_eBlt, sat_eMth, sat_oNone, sat_oSome, sat_eSl, sat_eFn, sat_eFnK, sat_sNext, sat_sSeq, sat_sEx, sat_sRet, sat_sRetN, sat_sIf, sat_sSet, sat_sPar, sat_sPar3, sat_sStore, sat_sRaise, sat_sFor, sat_mSeq, sat_mRange, sat_mEnum, sat_mZip, sat_eLc, sat_eLenSet, sat_eDic, sat_evalP, sat_evalP0, sat_eFld, sat_sFldS, sat_eMk, sat_init, List.getElem?_cons_zero, List.getElem?_cons_succ, List.map_cons, List.map_nil, List.length_cons, List.length_nil, List.replicate, List.nil_append, List.cons_append, List.append_nil, bindP, bindPs, setR, List.set_cons_zero, List.set_cons_succ, asBl, Nat.sub_self, Nat.reduceSub, Nat.reduceAdd, pNeg1, gg f0, A.r f0, gs f0, gg f0.ap, A.r f0.ap, gs f0.ap, c1, c2]
    have f2 : Fr [b] h (h ++ [Ce.lst (P1.map am)]) := f0.ap
    rw [ga f2 (by rw [List.length_map]; omega)]
    simp only [sat_ok, sat_bind, sat_pr, sat_opt, sat_eC, sat_eVar, sat_eBin, sat_eUn, sat_mBl, sat_mTru, sat_mNot, sat_mAnd, sat_mOr, sat_eAnd, sat_eOr, sat_eNot, sat_eIf, sat_eChain, sat_aNil, sat_aCons, sat_ofLen, sat_eTup, sat_eLst, sat_eBlt, sat_eMth, sat_oNone, sat_oSome, sat_eSl, sat_eFn, sat_eFnK, sat_sNext, sat_sSeq, sat_sEx, sat_sRet, sat_sRetN, sat_sIf, sat_sSet, sat_sPar, sat_sPar3, sat_sStore, sat_sRaise, sat_sFor, sat_mSeq, sat_mRange, sat_mEnum, sat_mZip, sat_eLc, sat_eLenSet, sat_eDic, sat_evalP, sat_evalP0, sat_eFld, sat_sFldS, sat_eMk, sat_init, List.getElem?_cons_zero, List.getElem?_cons_succ, List.map_cons, List.map_nil, List.length_cons, List.length_nil, List.replicate, List.nil_append, List.cons_append, List.append_nil, bindP, bindPs, setR, List.set_cons_zero, List.set_cons_succ, asBl, Nat.sub_self, Nat.reduceSub, Nat.reduceAdd, sz, Nat.zero_le, if_true, Nat.reduceLeDiff, gg f2.ap.ap, A.r f2.ap.ap, gm f2.ap.ap, c3]
    rw [← List.map_append]
    have fz : Fr [b] h ((((h ++ [Ce.lst (P1.map am)]) ++ [Ce.lst (P2.map am)]) ++ [Ce.lst ((ps ++ P2).map am)]) ++ [Ce.lst (P3.map am)]) := f2.ap.ap.ap
    obtain ⟨hnl, hol⟩ := W.lts
    have hcl := B.ltc
    have hb := B.lt
    have nd := W.nd
    simp only [List.nodup_cons, List.mem_cons, not_or] at nd
    have po : p ∈ o := List.mem_of_getElem? eo
    have pb : p ≠ b := fun z => nd.1.2.2 (z ▸ po)
    have pc : p ≠ c := fun z => nd.2.1.2 (z ▸ po)
    have fin : ∀ {h' : CH} {a : Nat} {P' : List Q2}, Fr [b] h h' → Box h' b c zs → lstAt h' a = some (P'.map am) → h.length ≤ a → (∀ r ∈ P', r ∈ ps) → P'.length ≤ 10 * m → ∃ h4, pPut (.ref p) (.int j) (.ref a) h' = some h4 ∧ Box h4 b c zs ∧ ∃ o R, WebD h4 b c n o R (10 * m) := fun {h' a P'} f B' e la sub len => by
      have W' := W.fr f
      have := W'.putRow (M := 10 * m) (k := j.toNat) (by omega) eo eR (a := a) ⟨by
        simp only [List.mem_cons, not_or]
        refine ⟨by omega, by omega, by omega, fun z => ?_⟩
        have := hol a z
        omega, P', e, fun x hx => sm x (sub x hx), len⟩
      refine ⟨_, ?_, B'.set pb pc, _, _, this⟩
      rw [pPutR (gl f), ixN_nat j0 (by rw [List.length_map]; exact hj), List.map_set]
      rfl
    have Z1 : lstAt ((((h ++ [Ce.lst (P1.map am)]) ++ [Ce.lst (P2.map am)]) ++ [Ce.lst ((ps ++ P2).map am)]) ++ [Ce.lst (P3.map am)]) h.length = some (P1.map am) := lstUp (lstUp (lstUp lstAt_new))
    have Z2 : lstAt ((((h ++ [Ce.lst (P1.map am)]) ++ [Ce.lst (P2.map am)]) ++ [Ce.lst ((ps ++ P2).map am)]) ++ [Ce.lst (P3.map am)]) ((h ++ [Ce.lst (P1.map am)]) ++ [Ce.lst (P2.map am)]).length = some ((ps ++ P2).map am) := lstUp lstAt_new
    have Z4 : lstAt ((((h ++ [Ce.lst (P1.map am)]) ++ [Ce.lst (P2.map am)]) ++ [Ce.lst ((ps ++ P2).map am)]) ++ [Ce.lst (P3.map am)]) (((h ++ [Ce.lst (P1.map am)]) ++ [Ce.lst (P2.map am)]) ++ [Ce.lst ((ps ++ P2).map am)]).length = some (P3.map am) := lstAt_new
    have BZ : Box ((((h ++ [Ce.lst (P1.map am)]) ++ [Ce.lst (P2.map am)]) ++ [Ce.lst ((ps ++ P2).map am)]) ++ [Ce.lst (P3.map am)]) b c zs := B.app.app.app.app
    have l2' : h.length ≤ ((h ++ [Ce.lst (P1.map am)]) ++ [Ce.lst (P2.map am)]).length := by simp
    have l4' : h.length ≤ (((h ++ [Ce.lst (P1.map am)]) ++ [Ce.lst (P2.map am)]) ++ [Ce.lst ((ps ++ P2).map am)]).length := by simp
    generalize ((h ++ [Ce.lst (P1.map am)]) ++ [Ce.lst (P2.map am)]).length = a2 at Z2 l2' ⊢
    generalize (((h ++ [Ce.lst (P1.map am)]) ++ [Ce.lst (P2.map am)]) ++ [Ce.lst ((ps ++ P2).map am)]).length = a4 at Z4 l4' ⊢
    generalize (((h ++ [Ce.lst (P1.map am)]) ++ [Ce.lst (P2.map am)]) ++ [Ce.lst ((ps ++ P2).map am)]) ++ [Ce.lst (P3.map am)] = Z at Z1 Z2 Z4 BZ fz ⊢
    have hZ := fz.len
    refine (draw BZ.app (show (0 : Int) < 3 by omega) (by omega)).mono ?_ fun _ _ _ z => z
    rintro d h9 ⟨t, rfl, t0, t1, G9, _⟩
    have e9 := G9.g.at_ lstAt_new (by omega)
    have f9 : Fr [b] h h9 := (fz.ap).trans G9.g.fr
    have up : ∀ {a : Nat} {ds : List Dt}, h.length ≤ a → lstAt Z a = some ds → lstAt h9 a = some ds := fun la e => G9.g.at_ (by rw [lstAt_app (lstAt_lt e)]; exact e) (by omega)
    have : t = 0 ∨ t = 1 ∨ t = 2 := by omega
    rcases this with rfl | rfl | rfl
    · obtain ⟨h4, e4, r4⟩ := fin f9 G9.box (up (Nat.le_refl _) Z1) (Nat.le_refl _) s1 (by omega)
      simp only [sat_ok, sat_bind, sat_pr, sat_opt, sat_eC, sat_eVar, sat_eBin, sat_eUn, sat_mBl, sat_mTru, sat_mNot, sat_mAnd, sat_mOr, sat_eAnd, sat_eOr, sat_eNot, sat_eIf, sat_eChain, sat_aNil, sat_aCons, sat_ofLen, sat_eTup, sat_eLst, sat_eBlt, sat_eMth, sat_oNone, sat_oSome, sat_eSl, sat_eFn, sat_eFnK, sat_sNext, sat_sSeq, sat_sEx, sat_sRet, sat_sRetN, sat_sIf, sat_sSet, sat_sPar, sat_sPar3, sat_sStore, sat_sRaise, sat_sFor, sat_mSeq, sat_mRange, sat_mEnum, sat_mZip, sat_eLc, sat_eLenSet, sat_eDic, sat_evalP, sat_evalP0, sat_eFld, sat_sFldS, sat_eMk, sat_init, List.getElem?_cons_zero, List.getElem?_cons_succ, List.map_cons, List.map_nil, List.length_cons, List.length_nil, List.replicate, List.nil_append, List.cons_append, List.append_nil, bindP, bindPs, setR, List.set_cons_zero, List.set_cons_succ, asBl, Nat.sub_self, Nat.reduceSub, Nat.reduceAdd, pIxR e9, at4_0, at4_1, at4_2, at4_3, at3_0, at3_1, at3_2, at2_0, at2_1, at1_0, ix4_0, ix4_1, ix4_2, ix4_3, Option.map_some, gg f9, e4]
      exact r4
    · obtain ⟨h4, e4, r4⟩ := fin f9 G9.box (up l2' Z2) l2' (fun r hr => by
        rcases List.mem_append.mp hr with z | z
        · exact z
        · exact s2 r z) (by rw [List.length_append]; omega)
      simp only [sat_ok, sat_bind, sat_pr, sat_opt, sat_eC, sat_eVar, sat_eBin, sat_eUn, sat_mBl, sat_mTru, sat_mNot, sat_mAnd, sat_mOr, sat_eAnd, sat_eOr, sat_eNot, sat_eIf, sat_eChain, sat_aNil, sat_aCons, sat_ofLen, sat_eTup, sat_eLst, sat_eBlt, sat_eMth, sat_oNone, sat_oSome, sat_eSl, sat_eFn, sat_eFnK, sat_sNext, sat_sSeq, sat_sEx, sat_sRet, sat_sRetN, sat_sIf, sat_sSet, sat_sPar, sat_sPar3, sat_sStore, sat_sRaise, sat_sFor, sat_mSeq, sat_mRange, sat_mEnum, sat_mZip, sat_eLc, sat_eLenSet, sat_eDic, sat_evalP, sat_evalP0, sat_eFld, sat_sFldS, sat_eMk, sat_init, List.getElem?_cons_zero, List.getElem?_cons_succ, List.map_cons, List.map_nil, List.length_cons, List.length_nil, List.replicate, List.nil_append, List.cons_append, List.append_nil, bindP, bindPs, setR, List.set_cons_zero, List.set_cons_succ, asBl, Nat.sub_self, Nat.reduceSub, Nat.reduceAdd, pIxR e9, at4_0, at4_1, at4_2, at4_3, at3_0, at3_1, at3_2, at2_0, at2_1, at1_0, ix4_0, ix4_1, ix4_2, ix4_3, Option.map_some, gg f9, e4]
      exact r4
    · obtain ⟨h4, e4, r4⟩ := fin f9 G9.box (up l4' Z4) l4' s3 (by omega)
      simp only [sat_ok, sat_bind, sat_pr, sat_opt, sat_eC, sat_eVar, sat_eBin, sat_eUn, sat_mBl, sat_mTru, sat_mNot, sat_mAnd, sat_mOr, sat_eAnd, sat_eOr, sat_eNot, sat_eIf, sat_eChain, sat_aNil, sat_aCons, sat_ofLen, sat_eTup, sat_eLst, sat_eBlt, sat_eMth, sat_oNone, sat_oSome, sat_eSl, sat_eFn, sat_eFnK, sat_sNext, sat_sSeq, sat_sEx, sat_sRet, sat_sRetN, sat_sIf, sat_sSet, sat_sPar, sat_sPar3, sat_sStore, sat_sRaise, sat_sFor, sat_mSeq, sat_mRange, sat_mEnum, sat_mZip, sat_eLc, sat_eLenSet, sat_eDic, sat_evalP, sat_evalP0, sat_eFld, sat_sFldS, sat_eMk, sat_init, List.getElem?_cons_zero, List.getElem?_cons_succ, List.map_cons, List.map_nil, List.length_cons, List.length_nil, List.replicate, List.nil_append, List.cons_append, List.append_nil, bindP, bindPs, setR, List.set_cons_zero, List.set_cons_succ, asBl, Nat.sub_self, Nat.reduceSub, Nat.reduceAdd, pIxR e9, at4_0, at4_1, at4_2, at4_3, at3_0, at3_1, at3_2, at2_0, at2_1, at1_0, ix4_0, ix4_1, ix4_2, ix4_3, Option.map_some, gg f9, e4]
      exact r4
  · rw [if_neg hj]
    exact ⟨B, _, _, W.le (by omega)⟩

end Cl
namespace Cl
open PySem PySem.Spec PyProof.Rows L2
/-- a pair set in a row -/
theorem WebD.pair {h : CH} {b c n i m p r : Nat} {o P : List Nat} {R : List (List Nat)} {zs : List Int} {j k : Int} {ps : List Q2} {x : Q2} (B : Box h b c zs) (W : WebD h b c n o R m) (rok : RowOk h (b :: c :: n :: o) m r) (e : lstAt h r = some (ps.map am)) (sm : ∀ x ∈ ps, Sm2 x) (few : ps.length ≤ m) (k0 : 0 ≤ k) (k1 : k < ps.length) (hx : Sm2 x) :
    ∃ h4, pPut (.ref r) (.int k) (am x) h = some h4 ∧ Box h4 b c zs ∧ ∃ o R, WebD h4 b c n o R (10 * m) := by
  have nr := rok.out
  simp only [List.mem_cons, not_or] at nr
  refine ⟨h.set r (.lst ((ps.set k.toNat x).map am)), ?_, B.set nr.1 nr.2.1, _, _, (W.row rok (ps := ps.set k.toNat x) ?_ (by rw [List.length_set]; exact few)).le (by omega)⟩
  · rw [pPutR e, ixN_nat k0 (by rw [List.length_map]; exact k1), ← set_am]; rfl
  · intro y hy
    rcases List.mem_or_eq_of_mem_set hy with z | z
    · exact sm y z
    · rw [z]; exact hx
theorem bent8_spec {h : CH} {b c n i m : Nat} {o : List Nat} {R : List (List Nat)} {zs : List Int} {j : Int} {x2 x5 x6 x7 x8 : Option Dt} (B : Box h b c zs) (W : WebD h b c n o R m) (hi : i < 3) (j0 : 0 ≤ j) (m0 : 1 ≤ m) (m1 : m ≤ 100) :
    (m_law_bent_8 [some (.ref b), some (.ref n), x2, some (.int j), some (.str (kw i)), x5, x6, x7, x8] h).sat (WebR b c n m zs) (fun _ _ => False) noE := by
  obtain ⟨p, P, eo, eR, lP, gg, gl, row⟩ := W.at_ hi
  have f0 : Fr [b] h h := .rf
  have hb := B.lt
  unfold m_law_bent_8
  simp only [sat_ok, sat_bind, sat_pr, sat_opt, sat_eC, sat_eVar, sat_eBin, sat_eUn, sat_mBl, sat_mTru, sat_mNot, sat_mAnd, sat_mOr, sat_eAnd, sat_eOr, sat_eNot, sat_eIf, sat_eChain, sat_aNil, sat_aCons, sat_ofLen, sat_eTup, sat_eLst, sat_eBlt, sat_eMth, sat_oNone, sat_oSome, sat_eSl, sat_eFn, sat_eFnK, sat_sNext, sat_sSeq, sat_sEx, sat_sRet, sat_sRetN, sat_sIf, sat_sSet, sat_sPar, sat_sPar3, sat_sStore, sat_sRaise, sat_sFor, sat_mSeq, sat_mRange, sat_mEnum, sat_mZip, sat_eLc, sat_eLenSet, sat_eDic, sat_evalP, sat_evalP0, sat_eFld, sat_sFldS, sat_eMk, sat_init, List.getElem?_cons_zero, List.getElem?_cons_succ, List.map_cons, List.map_nil, List.length_cons, List.length_nil, List.replicate, List.nil_append, List.cons_append, List.append_nil, bindP, bindPs, setR, List.set_cons_zero, List.set_cons_succ, asBl, Nat.sub_self, Nat.reduceSub, Nat.reduceAdd, gg f0, pLenR (gl f0), pLt_int, List.length_map, decide_eq_true_eq]
  by_cases hj : j < (P.length : Nat)
  · rw [if_pos hj]
    obtain ⟨rok, ps, A, sm, few⟩ := row j P[j.toNat] j0 (List.getElem?_eq_getElem (by omega))
    generalize P[j.toNat] = r at rok A
    simp only [sat_ok, sat_bind, sat_pr, sat_opt, sat_eC, sat_eVar, sat_eBin, sat_eUn, sat_mBl, sat_mTru, sat_mNot, sat_mAnd, sat_mOr, sat_eAnd, sat_eOr, sat_eNot, sat_eIf, sat_eChain, sat_aNil, sat_aCons, sat_ofLen, sat_eTup, sat_eLst, sat_eBlt, sat_eMth, sat_oNone, sat_oSome, sat_eSl, sat_eFn, sat_eFnK, sat_sNext, sat_sSeq, sat_sEx, sat_sRet, sat_sRetN, sat_sIf, sat_sSet, sat_sPar, sat_sPar3, sat_sStore, sat_sRaise, sat_sFor, sat_mSeq, sat_mRange, sat_mEnum, sat_mZip, sat_eLc, sat_eLenSet, sat_eDic, sat_evalP, sat_evalP0, sat_eFld, sat_sFldS, sat_eMk, sat_init, List.getElem?_cons_zero, List.getElem?_cons_succ, List.map_cons, List.map_nil, List.length_cons, List.length_nil, List.replicate, List.nil_append, List.cons_append, List.append_nil, bindP, bindPs, setR, List.set_cons_zero, List.set_cons_succ, asBl, Nat.sub_self, Nat.reduceSub, Nat.reduceAdd, A.r f0, sz, Nat.zero_le, if_true, ne_empty (A.d f0.ap) lstAt_new]
    cases hp : ps with
    | nil =>
      simp only [List.isEmpty_nil, Bool.not_true, Bool.false_eq_true, if_false]
      exact ⟨B.app, _, _, (W.fr (f0.ap)).le (by omega)⟩
    | cons y ys =>
      rw [← hp]
      have l0 : 0 < ps.length := by rw [hp]; simp
      have : ps.isEmpty = false := by rw [hp]; rfl
      simp only [this, Bool.not_false, if_true]
      unfold m_law_bent_5
      simp only [sat_ok, sat_bind, sat_pr, sat_opt, sat_eC, sat_eVar, sat_eBin, sat_eUn, sat_mBl, sat_mTru, sat_mNot, sat_mAnd, sat_mOr, sat_eAnd, sat_eOr, sat_eNot, sat_eIf, sat_eChain, sat_aNil, sat_aCons, sat_ofLen, sat_eTup, sat_eLst, sat_eBlt, sat_eMth, sat_oNone, sat_oSome, sat_eSl, sat_eFn, sat_eFnK, sat_sNext, sat_sSeq, sat_sEx, sat_sRet, sat_sRetN, sat_sIf, sat_sSet, sat_sPar, sat_sPar3, sat_sStore, sat_sRaise, sat_sFor, sat_mSeq, sat_mRange, sat_mEnum, sat_mZip, sat_eLc, sat_eLenSet, sat_eDic, sat_evalP, sat_evalP0, sat_eFld, sat_sFldS, sat_eMk, sat_init, List.getElem?_cons_zero, List.getElem?_cons_succ, List.map_cons, List.map_nil, List.length_cons, List.length_nil, List.replicate, List.nil_append, List.cons_append, List.append_nil, bindP, bindPs, setR, List.set_cons_zero, List.set_cons_succ, asBl, Nat.sub_self, Nat.reduceSub, Nat.reduceAdd, gg f0.ap, A.r f0.ap, pLenR (A.d f0.ap), List.length_map]
      refine (draw B.app (show (0 : Int) < (ps.length : Nat) by omega) (by omega)).mono ?_ fun _ _ _ z => z
      rintro d h2 ⟨k, rfl, k0, k1, G2, _⟩
      have f2 : Fr [b] h h2 := f0.ap.trans G2.g.fr
      unfold m_law_bent_6
      simp only [sat_ok, sat_bind, sat_pr, sat_opt, sat_eC, sat_eVar, sat_eBin, sat_eUn, sat_mBl, sat_mTru, sat_mNot, sat_mAnd, sat_mOr, sat_eAnd, sat_eOr, sat_eNot, sat_eIf, sat_eChain, sat_aNil, sat_aCons, sat_ofLen, sat_eTup, sat_eLst, sat_eBlt, sat_eMth, sat_oNone, sat_oSome, sat_eSl, sat_eFn, sat_eFnK, sat_sNext, sat_sSeq, sat_sEx, sat_sRet, sat_sRetN, sat_sIf, sat_sSet, sat_sPar, sat_sPar3, sat_sStore, sat_sRaise, sat_sFor, sat_mSeq, sat_mRange, sat_mEnum, sat_mZip, sat_eLc, sat_eLenSet, sat_eDic, sat_evalP, sat_evalP0, sat_eFld, sat_sFldS, sat_eMk, sat_init, List.getElem?_cons_zero, List.getElem?_cons_succ, List.map_cons, List.map_nil, List.length_cons, List.length_nil, List.replicate, List.nil_append, List.cons_append, List.append_nil, bindP, bindPs, setR, List.set_cons_zero, List.set_cons_succ, asBl, Nat.sub_self, Nat.reduceSub, Nat.reduceAdd, sz, Nat.reduceLeDiff, if_true, show pNeg (.int 3) h2 = some (.int (-3), h2) from rfl]
      refine (draw G2.box.app (show (0 : Int) < 2 by omega) (by omega)).mono ?_ fun _ _ _ z => z
      rintro d h3 ⟨t, rfl, t0, t1, G3, _⟩
      have hl2 := f2.len
      have e3 := G3.g.at_ lstAt_new (by omega)
      have f3 : Fr [b] h h3 := f2.ap.trans G3.g.fr
      have sm0 : ∀ z : Int, -10 < z → z < 10 → Sm z := fun z _ _ => sm_32 (by omega) (by omega)
      have fin : ∀ x : Q2, Sm2 x → ∃ h4, pPut (.ref r) (.int k) (am x) h3 = some h4 ∧ Box h4 b c zs ∧ ∃ o R, WebD h4 b c n o R (10 * m) := fun x hx => WebD.pair (i := i) (j := j) (p := p) (P := P) G3.box (W.fr f3) (rok.fr f3 (by simp)) (A.d f3) sm few k0 k1 hx
      have : t = 0 ∨ t = 1 := by omega
      rcases this with rfl | rfl
      · obtain ⟨h4, e4, r4⟩ := fin (0, 1) ⟨sm0 _ (by decide) (by decide), sm0 _ (by decide) (by decide)⟩
        rw [show am (0, 1) = Dt.tup [.int 0, .int 1] from rfl] at e4
        simp only [sat_ok, sat_bind, sat_pr, sat_opt, sat_eC, sat_eVar, sat_eBin, sat_eUn, sat_mBl, sat_mTru, sat_mNot, sat_mAnd, sat_mOr, sat_eAnd, sat_eOr, sat_eNot, sat_eIf, sat_eChain, sat_aNil, sat_aCons, sat_ofLen, sat_eTup, sat_eLst, sat_eBlt, sat_eMth, sat_oNone, sat_oSome, sat_eSl, sat_eFn, sat_eFnK, sat_sNext, sat_sSeq, sat_sEx, sat_sRet, sat_sRetN, sat_sIf, sat_sSet, sat_sPar, sat_sPar3, sat_sStore, sat_sRaise, sat_sFor, sat_mSeq, sat_mRange, sat_mEnum, sat_mZip, sat_eLc, sat_eLenSet, sat_eDic, sat_evalP, sat_evalP0, sat_eFld, sat_sFldS, sat_eMk, sat_init, List.getElem?_cons_zero, List.getElem?_cons_succ, List.map_cons, List.map_nil, List.length_cons, List.length_nil, List.replicate, List.nil_append, List.cons_append, List.append_nil, bindP, bindPs, setR, List.set_cons_zero, List.set_cons_succ, asBl, Nat.sub_self, Nat.reduceSub, Nat.reduceAdd, pIxR e3, at4_0, at4_1, at4_2, at4_3, at3_0, at3_1, at3_2, at2_0, at2_1, at1_0, ix4_0, ix4_1, ix4_2, ix4_3, Option.map_some, gg f3, A.r f3, e4]
        exact r4
      · obtain ⟨h4, e4, r4⟩ := fin (-3, 2) ⟨sm0 _ (by decide) (by decide), sm0 _ (by decide) (by decide)⟩
        rw [show am (-3, 2) = Dt.tup [.int (-3), .int 2] from rfl] at e4
        simp only [sat_ok, sat_bind, sat_pr, sat_opt, sat_eC, sat_eVar, sat_eBin, sat_eUn, sat_mBl, sat_mTru, sat_mNot, sat_mAnd, sat_mOr, sat_eAnd, sat_eOr, sat_eNot, sat_eIf, sat_eChain, sat_aNil, sat_aCons, sat_ofLen, sat_eTup, sat_eLst, sat_eBlt, sat_eMth, sat_oNone, sat_oSome, sat_eSl, sat_eFn, sat_eFnK, sat_sNext, sat_sSeq, sat_sEx, sat_sRet, sat_sRetN, sat_sIf, sat_sSet, sat_sPar, sat_sPar3, sat_sStore, sat_sRaise, sat_sFor, sat_mSeq, sat_mRange, sat_mEnum, sat_mZip, sat_eLc, sat_eLenSet, sat_eDic, sat_evalP, sat_evalP0, sat_eFld, sat_sFldS, sat_eMk, sat_init, List.getElem?_cons_zero, List.getElem?_cons_succ, List.map_cons, List.map_nil, List.length_cons, List.length_nil, List.replicate, List.nil_append, List.cons_append, List.append_nil, bindP, bindPs, setR, List.set_cons_zero, List.set_cons_succ, asBl, Nat.sub_self, Nat.reduceSub, Nat.reduceAdd, pIxR e3, at4_0, at4_1, at4_2, at4_3, at3_0, at3_1, at3_2, at2_0, at2_1, at1_0, ix4_0, ix4_1, ix4_2, ix4_3, Option.map_some, gg f3, A.r f3, e4]
        exact r4
  · rw [if_neg hj]
    simp only [Bool.false_eq_true, if_false]
    exact ⟨B, _, _, W.le (by omega)⟩
def m_bentS : MS := sIf (mAnd (mBl (eBin pLt (eVar 3) (eBlt pLen (aCons (eBin pIx (eVar 1) (eC (.str "steps"))) aNil)))) (mBl (eBin pNe (eBin pIx (eBin pIx (eVar 1) (eC (.str "steps"))) (eVar 3)) (eLst aNil)))) (sSeq m_law_bent_9
  (sSeq m_law_bent_10
  (sSeq m_law_bent_11
  m_law_bent_12))) sNext
theorem bentS_spec {h : CH} {b c n m : Nat} {o : List Nat} {R : List (List Nat)} {zs : List Int} {j : Int} {x2 x4 x5 x6 x7 x8 : Option Dt} (B : Box h b c zs) (W : WebD h b c n o R m) (j0 : 0 ≤ j) (m0 : 1 ≤ m) (m1 : m ≤ 100) :
    (m_bentS [some (.ref b), some (.ref n), x2, some (.int j), x4, x5, x6, x7, x8] h).sat (WebR b c n m zs) (fun _ _ => False) noE := by
  obtain ⟨p, P, eo, eR, lP, gg, gl, row⟩ := W.at_ (i := 2) (by decide)
  have gg : ∀ {h'}, Fr [b] h h' → pIx (.ref n) (.str "steps") h' = some (.ref p, h') := gg
  have f0 : Fr [b] h h := .rf
  have hb := B.lt
  unfold m_bentS
  simp only [sat_ok, sat_bind, sat_pr, sat_opt, sat_eC, sat_eVar, sat_eBin, sat_eUn, sat_mBl, sat_mTru, sat_mNot, sat_mAnd, sat_mOr, sat_eAnd, sat_eOr, sat_eNot, sat_eIf, sat_eChain, sat_aNil, sat_aCons, sat_ofLen, sat_eTup, sat_eLst, sat_eBlt, sat_eMth, sat_oNone, sat_oSome, sat_eSl, sat_eFn, sat_eFnK, sat_sNext, sat_sSeq, sat_sEx, sat_sRet, sat_sRetN, sat_sIf, sat_sSet, sat_sPar, sat_sPar3, sat_sStore, sat_sRaise, sat_sFor, sat_mSeq, sat_mRange, sat_mEnum, sat_mZip, sat_eLc, sat_eLenSet, sat_eDic, sat_evalP, sat_evalP0, sat_eFld, sat_sFldS, sat_eMk, sat_init, List.getElem?_cons_zero, List.getElem?_cons_succ, List.map_cons, List.map_nil, List.length_cons, List.length_nil, List.replicate, List.nil_append, List.cons_append, List.append_nil, bindP, bindPs, setR, List.set_cons_zero, List.set_cons_succ, asBl, Nat.sub_self, Nat.reduceSub, Nat.reduceAdd, gg f0, pLenR (gl f0), pLt_int, List.length_map, decide_eq_true_eq]
  by_cases hj : j < (P.length : Nat)
  · rw [if_pos hj]
    obtain ⟨rok, ps, A, sm, few⟩ := row j P[j.toNat] j0 (List.getElem?_eq_getElem (by omega))
    generalize P[j.toNat] = r at rok A
    simp only [sat_ok, sat_bind, sat_pr, sat_opt, sat_eC, sat_eVar, sat_eBin, sat_eUn, sat_mBl, sat_mTru, sat_mNot, sat_mAnd, sat_mOr, sat_eAnd, sat_eOr, sat_eNot, sat_eIf, sat_eChain, sat_aNil, sat_aCons, sat_ofLen, sat_eTup, sat_eLst, sat_eBlt, sat_eMth, sat_oNone, sat_oSome, sat_eSl, sat_eFn, sat_eFnK, sat_sNext, sat_sSeq, sat_sEx, sat_sRet, sat_sRetN, sat_sIf, sat_sSet, sat_sPar, sat_sPar3, sat_sStore, sat_sRaise, sat_sFor, sat_mSeq, sat_mRange, sat_mEnum, sat_mZip, sat_eLc, sat_eLenSet, sat_eDic, sat_evalP, sat_evalP0, sat_eFld, sat_sFldS, sat_eMk, sat_init, List.getElem?_cons_zero, List.getElem?_cons_succ, List.map_cons, List.map_nil, List.length_cons, List.length_nil, List.replicate, List.nil_append, List.cons_append, List.append_nil, bindP, bindPs, setR, List.set_cons_zero, List.set_cons_succ, asBl, Nat.sub_self, Nat.reduceSub, Nat.reduceAdd, A.r f0, sz, Nat.zero_le, if_true, ne_empty (A.d f0.ap) lstAt_new]
    cases hp : ps with
    | nil =>
      simp only [List.isEmpty_nil, Bool.not_true, Bool.false_eq_true, if_false]
      exact ⟨B.app, _, _, (W.fr (f0.ap)).le (by omega)⟩
    | cons y ys =>
      rw [← hp]
      have l0 : 0 < ps.length := by rw [hp]; simp
      have : ps.isEmpty = false := by rw [hp]; rfl
      simp only [this, Bool.not_false, if_true]
      unfold m_law_bent_9
      simp only [sat_ok, sat_bind, sat_pr, sat_opt, sat_eC, sat_eVar, sat_eBin, sat_eUn, sat_mBl, sat_mTru, sat_mNot, sat_mAnd, sat_mOr, sat_eAnd, sat_eOr, sat_eNot, sat_eIf, sat_eChain, sat_aNil, sat_aCons, sat_ofLen, sat_eTup, sat_eLst, sat_eBlt, sat_eMth, sat_oNone, sat_oSome, sat_eSl, sat_eFn, sat_eFnK, sat_sNext, sat_sSeq, sat_sEx, sat_sRet, sat_sRetN, sat_sIf, sat_sSet, sat_sPar, sat_sPar3, sat_sStore, sat_sRaise, sat_sFor, sat_mSeq, sat_mRange, sat_mEnum, sat_mZip, sat_eLc, sat_eLenSet, sat_eDic, sat_evalP, sat_evalP0, sat_eFld, sat_sFldS, sat_eMk, sat_init, List.getElem?_cons_zero, List.getElem?_cons_succ, List.map_cons, List.map_nil, List.length_cons, List.length_nil, List.replicate, List.nil_append, List.cons_append, List.append_nil, bindP, bindPs, setR, List.set_cons_zero, List.set_cons_succ, asBl, Nat.sub_self, Nat.reduceSub, Nat.reduceAdd, gg f0.ap, A.r f0.ap, pLenR (A.d f0.ap), List.length_map]
      refine (draw B.app (show (0 : Int) < (ps.length : Nat) by omega) (by omega)).mono ?_ fun _ _ _ z => z
      rintro d h2 ⟨k, rfl, k0, k1, G2, _⟩
      have f2 : Fr [b] h h2 := f0.ap.trans G2.g.fr
      obtain ⟨⟨u, v⟩, hx, hxi⟩ := at_map (ps := ps) k0 k1
      have sx := sm _ (List.mem_of_getElem? hx)
      unfold m_law_bent_10
      simp only [sat_ok, sat_bind, sat_pr, sat_opt, sat_eC, sat_eVar, sat_eBin, sat_eUn, sat_mBl, sat_mTru, sat_mNot, sat_mAnd, sat_mOr, sat_eAnd, sat_eOr, sat_eNot, sat_eIf, sat_eChain, sat_aNil, sat_aCons, sat_ofLen, sat_eTup, sat_eLst, sat_eBlt, sat_eMth, sat_oNone, sat_oSome, sat_eSl, sat_eFn, sat_eFnK, sat_sNext, sat_sSeq, sat_sEx, sat_sRet, sat_sRetN, sat_sIf, sat_sSet, sat_sPar, sat_sPar3, sat_sStore, sat_sRaise, sat_sFor, sat_mSeq, sat_mRange, sat_mEnum, sat_mZip, sat_eLc, sat_eLenSet, sat_eDic, sat_evalP, sat_evalP0, sat_eFld, sat_sFldS, sat_eMk, sat_init, List.getElem?_cons_zero, List.getElem?_cons_succ, List.map_cons, List.map_nil, List.length_cons, List.length_nil, List.replicate, List.nil_append, List.cons_append, List.append_nil, List.set_cons_zero, List.set_cons_succ, asBl, Nat.sub_self, Nat.reduceSub, Nat.reduceAdd, gg f2, A.r f2, pIxR (A.d f2), hxi, Option.map_some]
      rw [show am (u, v) = Dt.tup [.int u, .int v] from rfl]
      unfold m_law_bent_11
      have p20 : ∀ h : CH, pPow (.int 10) (.int 20) h = some (.int 100000000000000000000, h) := fun _ => rfl
      simp only [sat_ok, sat_bind, sat_pr, sat_opt, sat_eC, sat_eVar, sat_eBin, sat_eUn, sat_mBl, sat_mTru, sat_mNot, sat_mAnd, sat_mOr, sat_eAnd, sat_eOr, sat_eNot, sat_eIf, sat_eChain, sat_aNil, sat_aCons, sat_ofLen, sat_eTup, sat_eLst, sat_eBlt, sat_eMth, sat_oNone, sat_oSome, sat_eSl, sat_eFn, sat_eFnK, sat_sNext, sat_sSeq, sat_sEx, sat_sRet, sat_sRetN, sat_sIf, sat_sSet, sat_sPar, sat_sPar3, sat_sStore, sat_sRaise, sat_sFor, sat_mSeq, sat_mRange, sat_mEnum, sat_mZip, sat_eLc, sat_eLenSet, sat_eDic, sat_evalP, sat_evalP0, sat_eFld, sat_sFldS, sat_eMk, sat_init, List.getElem?_cons_zero, List.getElem?_cons_succ, List.map_cons, List.map_nil, List.length_cons, List.length_nil, List.replicate, List.nil_append, List.cons_append, List.append_nil, bindP, bindPs, setR, List.set_cons_zero, List.set_cons_succ, asBl, Nat.sub_self, Nat.reduceSub, Nat.reduceAdd, sz, Nat.reduceLeDiff, if_true, pNeg1, p20]
      unfold m_law_bent_12
      simp only [sat_ok, sat_bind, sat_pr, sat_opt, sat_eC, sat_eVar, sat_eBin, sat_eUn, sat_mBl, sat_mTru, sat_mNot, sat_mAnd, sat_mOr, sat_eAnd, sat_eOr, sat_eNot, sat_eIf, sat_eChain, sat_aNil, sat_aCons, sat_ofLen, sat_eTup, sat_eLst, sat_eBlt, sat_eMth, sat_oNone, sat_oSome, sat_eSl, sat_eFn, sat_eFnK, sat_sNext, sat_sSeq, sat_sEx, sat_sRet, sat_sRetN, sat_sIf, sat_sSet, sat_sPar, sat_sPar3, sat_sStore, sat_sRaise, sat_sFor, sat_mSeq, sat_mRange, sat_mEnum, sat_mZip, sat_eLc, sat_eLenSet, sat_eDic, sat_evalP, sat_evalP0, sat_eFld, sat_sFldS, sat_eMk, sat_init, List.getElem?_cons_zero, List.getElem?_cons_succ, List.map_cons, List.map_nil, List.length_cons, List.length_nil, List.replicate, List.nil_append, List.cons_append, List.append_nil, bindP, bindPs, setR, List.set_cons_zero, List.set_cons_succ, asBl, Nat.sub_self, Nat.reduceSub, Nat.reduceAdd]
      have hl2 := f2.len
      refine (one_spec G2.box.app lstAt_new (by omega) (by simp) (by simp)).mono ?_ fun _ _ _ z => z
      rintro d h3 ⟨hd, G3, _⟩
      have f3 : Fr [b] h h3 := f2.ap.trans G3.g.fr
      have s9 : Sm 9 := sm_32 (by omega) (by omega)
      have s8 : Sm 8 := sm_32 (by omega) (by omega)
      have sn : Sm (-1) := sm_32 (by omega) (by omega)
      have sG : Sm 100000000000000000000 := sm_lit 80 (by decide) (by decide)
      have hd2 : ∃ x : Q2, d = am x ∧ Sm2 x := by
        simp only [List.mem_cons, List.not_mem_nil, or_false] at hd
        rcases hd with rfl | rfl | rfl | rfl | rfl | rfl
        · exact ⟨(v, u), rfl, sx.2, sx.1⟩
        · exact ⟨(u, u), rfl, sx.1, sx.1⟩
        · exact ⟨(9, v), rfl, s9, sx.2⟩
        · exact ⟨(u, -1), rfl, sx.1, sn⟩
        · exact ⟨(100000000000000000000, v), rfl, sG, sx.2⟩
        · exact ⟨(u, 8), rfl, sx.1, s8⟩
      obtain ⟨x, rfl, hx2⟩ := hd2
      obtain ⟨h4, e4, r4⟩ := WebD.pair (i := 2) (j := j) (p := p) (P := P) G3.box (W.fr f3) (rok.fr f3 (by simp)) (A.d f3) sm few k0 k1 hx2
      simp only [sat_ok, sat_bind, sat_pr, sat_opt, sat_eC, sat_eVar, sat_eBin, sat_eUn, sat_mBl, sat_mTru, sat_mNot, sat_mAnd, sat_mOr, sat_eAnd, sat_eOr, sat_eNot, sat_eIf, sat_eChain, sat_aNil, sat_aCons, sat_ofLen, sat_eTup, sat_eLst, sat_eBlt, sat_eMth, sat_oNone, sat_oSome, sat_eSl, sat_eFn, sat_eFnK, sat_sNext, sat_sSeq, sat_sEx, sat_sRet, sat_sRetN, sat_sIf, sat_sSet, sat_sPar, sat_sPar3, sat_sStore, sat_sRaise, sat_sFor, sat_mSeq, sat_mRange, sat_mEnum, sat_mZip, sat_eLc, sat_eLenSet, sat_eDic, sat_evalP, sat_evalP0, sat_eFld, sat_sFldS, sat_eMk, sat_init, List.getElem?_cons_zero, List.getElem?_cons_succ, List.map_cons, List.map_nil, List.length_cons, List.length_nil, List.replicate, List.nil_append, List.cons_append, List.append_nil, bindP, bindPs, setR, List.set_cons_zero, List.set_cons_succ, asBl, Nat.sub_self, Nat.reduceSub, Nat.reduceAdd, gg f3, A.r f3, e4]
      exact r4
  · rw [if_neg hj]
    simp only [Bool.false_eq_true, if_false]
    exact ⟨B, _, _, W.le (by omega)⟩
theorem bent_spec {h : CH} {b c n m : Nat} {o : List Nat} {R : List (List Nat)} {P : List Nat} {zs : List Int} (B : Box h b c zs) (W : WebD h b c n o R m) (hP : R[0]? = some P) (ne : P ≠ []) (m0 : 1 ≤ m) (m1 : m ≤ 100) :
    (F_law_bent [.ref b, .ref n] h).sat (fun _ h' => Box h' b c zs ∧ ∃ o R, WebD h' b c n o R (10 * m)) noE := by
  refine sat_run rfl ?_
  unfold m_law_bent m_law_bent_13 m_law_bent_14
  simp only [sat_ok, sat_bind, sat_pr, sat_opt, sat_eC, sat_eVar, sat_eBin, sat_eUn, sat_mBl, sat_mTru, sat_mNot, sat_mAnd, sat_mOr, sat_eAnd, sat_eOr, sat_eNot, sat_eIf, sat_eChain, sat_aNil, sat_aCons, sat_ofLen, sat_eTup, sat_eLst, sat_eBlt, sat_eMth, sat_oNone, sat_oSome, sat_eSl, sat_eFn, sat_eFnK, sat_sNext, sat_sSeq, sat_sEx, sat_sRet, sat_sRetN, sat_sIf, sat_sSet, sat_sPar, sat_sPar3, sat_sStore, sat_sRaise, sat_sFor, sat_mSeq, sat_mRange, sat_mEnum, sat_mZip, sat_eLc, sat_eLenSet, sat_eDic, sat_evalP, sat_evalP0, sat_eFld, sat_sFldS, sat_eMk, sat_init, List.getElem?_cons_zero, List.getElem?_cons_succ, List.map_cons, List.map_nil, List.length_cons, List.length_nil, List.replicate, List.nil_append, List.cons_append, List.append_nil, bindP, bindPs, setR, List.set_cons_zero, List.set_cons_succ, asBl, Nat.sub_self, Nat.reduceSub, Nat.reduceAdd]
  refine (draw B (show (0 : Int) < 7 by omega) (by omega)).mono ?_ fun _ _ _ z => z
  rintro d h1 ⟨kd, rfl, kd0, kd1, G1, _⟩
  have W1 := W.fr G1.g.fr
  obtain ⟨p, P', eo, eR, lP, gg, gl, row⟩ := W1.at_ (i := 0) (by decide)
  rw [hP] at eR; cases eR
  have gg : ∀ {h'}, Fr [b] h1 h' → pIx (.ref n) (.str "prices") h' = some (.ref p, h') := gg
  have l0 : 0 < P.length := List.length_pos_iff.mpr ne
  simp only [sat_ok, sat_bind, sat_pr, sat_opt, sat_eC, sat_eVar, sat_eBin, sat_eUn, sat_mBl, sat_mTru, sat_mNot, sat_mAnd, sat_mOr, sat_eAnd, sat_eOr, sat_eNot, sat_eIf, sat_eChain, sat_aNil, sat_aCons, sat_ofLen, sat_eTup, sat_eLst, sat_eBlt, sat_eMth, sat_oNone, sat_oSome, sat_eSl, sat_eFn, sat_eFnK, sat_sNext, sat_sSeq, sat_sEx, sat_sRet, sat_sRetN, sat_sIf, sat_sSet, sat_sPar, sat_sPar3, sat_sStore, sat_sRaise, sat_sFor, sat_mSeq, sat_mRange, sat_mEnum, sat_mZip, sat_eLc, sat_eLenSet, sat_eDic, sat_evalP, sat_evalP0, sat_eFld, sat_sFldS, sat_eMk, sat_init, List.getElem?_cons_zero, List.getElem?_cons_succ, List.map_cons, List.map_nil, List.length_cons, List.length_nil, List.replicate, List.nil_append, List.cons_append, List.append_nil, bindP, bindPs, setR, List.set_cons_zero, List.set_cons_succ, asBl, Nat.sub_self, Nat.reduceSub, Nat.reduceAdd, gg .rf, pLenR (gl .rf), List.length_map]
  refine (draw G1.box (show (0 : Int) < (P.length : Nat) by omega) (by omega)).mono ?_ fun _ _ _ z => z
  rintro d h2 ⟨j, rfl, j0, j1, G2, _⟩
  have W2 := W1.fr G2.g.fr
  show OS.sat ((sIf (mBl (eBin pEq (eVar 2) (eC (.int (0))))) (sSeq m_law_bent_1 m_law_bent_2) (sIf (mBl (eBin pEq (eVar 2) (eC (.int (1))))) (sSeq m_law_bent_1 m_law_bent_4) (sIf (mBl (eBin pLt (eVar 2) (eC (.int (4))))) (sSeq m_law_bent_7 m_law_bent_8) m_bentS))) _ _) _ _ _
  simp only [sat_ok, sat_bind, sat_pr, sat_opt, sat_eC, sat_eVar, sat_eBin, sat_eUn, sat_mBl, sat_mTru, sat_mNot, sat_mAnd, sat_mOr, sat_eAnd, sat_eOr, sat_eNot, sat_eIf, sat_eChain, sat_aNil, sat_aCons, sat_ofLen, sat_eTup, sat_eLst, sat_eBlt, sat_eMth, sat_oNone, sat_oSome, sat_eSl, sat_eFn, sat_eFnK, sat_sNext, sat_sSeq, sat_sEx, sat_sRet, sat_sRetN, sat_sIf, sat_sSet, sat_sPar, sat_sPar3, sat_sStore, sat_sRaise, sat_sFor, sat_mSeq, sat_mRange, sat_mEnum, sat_mZip, sat_eLc, sat_eLenSet, sat_eDic, sat_evalP, sat_evalP0, sat_eFld, sat_sFldS, sat_eMk, sat_init, List.getElem?_cons_zero, List.getElem?_cons_succ, List.map_cons, List.map_nil, List.length_cons, List.length_nil, List.replicate, List.nil_append, List.cons_append, List.append_nil, bindP, bindPs, setR, List.set_cons_zero, List.set_cons_succ, asBl, Nat.sub_self, Nat.reduceSub, Nat.reduceAdd, pEq_int, pLt_int]
  by_cases h0 : (kd == 0) = true
  · rw [if_pos h0]
    refine (word_spec G2.box).mono ?_ (fun _ _ z => z.elim) fun _ _ _ z => z
    rintro ρ h3 ⟨i, _, hi, rfl, B3, F3, _⟩
    exact (bent2_spec B3 (W2.fr F3) hi m0 m1).mono (fun _ _ z => z) (fun _ _ z => z.elim) fun _ _ _ z => z
  · rw [if_neg h0]
    by_cases h1 : (kd == 1) = true
    · rw [if_pos h1]
      refine (word_spec G2.box).mono ?_ (fun _ _ z => z.elim) fun _ _ _ z => z
      rintro ρ h3 ⟨i, _, hi, rfl, B3, F3, _⟩
      exact (bent4_spec B3 (W2.fr F3) hi j0 m0 m1).mono (fun _ _ z => z) (fun _ _ z => z.elim) fun _ _ _ z => z
    · rw [if_neg h1]
      by_cases h4 : kd < 4
      · rw [if_pos (decide_eq_true h4)]
        unfold m_law_bent_7
        simp only [sat_ok, sat_bind, sat_pr, sat_opt, sat_eC, sat_eVar, sat_eBin, sat_eUn, sat_mBl, sat_mTru, sat_mNot, sat_mAnd, sat_mOr, sat_eAnd, sat_eOr, sat_eNot, sat_eIf, sat_eChain, sat_aNil, sat_aCons, sat_ofLen, sat_eTup, sat_eLst, sat_eBlt, sat_eMth, sat_oNone, sat_oSome, sat_eSl, sat_eFn, sat_eFnK, sat_sNext, sat_sSeq, sat_sEx, sat_sRet, sat_sRetN, sat_sIf, sat_sSet, sat_sPar, sat_sPar3, sat_sStore, sat_sRaise, sat_sFor, sat_mSeq, sat_mRange, sat_mEnum, sat_mZip, sat_eLc, sat_eLenSet, sat_eDic, sat_evalP, sat_evalP0, sat_eFld, sat_sFldS, sat_eMk, sat_init, List.getElem?_cons_zero, List.getElem?_cons_succ, List.map_cons, List.map_nil, List.length_cons, List.length_nil, List.replicate, List.nil_append, List.cons_append, List.append_nil, bindP, bindPs, setR, List.set_cons_zero, List.set_cons_succ, asBl, Nat.sub_self, Nat.reduceSub, Nat.reduceAdd, sz, Nat.reduceLeDiff, if_true, pSub_int]
        have f4 : Fr [b] h2 (h2 ++ [Ce.lst [.str "prices", .str "rates"]]) := .app
        have : kd = 2 ∨ kd = 3 := by
          have h0' : ¬ kd = 0 := by simpa using h0
          have h1' : ¬ kd = 1 := by simpa using h1
          omega
        rcases this with rfl | rfl
        · simp only [sat_ok, sat_bind, sat_pr, sat_opt, sat_eC, sat_eVar, sat_eBin, sat_eUn, sat_mBl, sat_mTru, sat_mNot, sat_mAnd, sat_mOr, sat_eAnd, sat_eOr, sat_eNot, sat_eIf, sat_eChain, sat_aNil, sat_aCons, sat_ofLen, sat_eTup, sat_eLst, sat_eBlt, sat_eMth, sat_oNone, sat_oSome, sat_eSl, sat_eFn, sat_eFnK, sat_sNext, sat_sSeq, sat_sEx, sat_sRet, sat_sRetN, sat_sIf, sat_sSet, sat_sPar, sat_sPar3, sat_sStore, sat_sRaise, sat_sFor, sat_mSeq, sat_mRange, sat_mEnum, sat_mZip, sat_eLc, sat_eLenSet, sat_eDic, sat_evalP, sat_evalP0, sat_eFld, sat_sFldS, sat_eMk, sat_init, List.getElem?_cons_zero, List.getElem?_cons_succ, List.map_cons, List.map_nil, List.length_cons, List.length_nil, List.replicate, List.nil_append, List.cons_append, List.append_nil, bindP, bindPs, setR, List.set_cons_zero, List.set_cons_succ, asBl, Nat.sub_self, Nat.reduceSub, Nat.reduceAdd, Int.reduceSub, pIxR lstAt_new, at4_0, at4_1, at4_2, at4_3, at3_0, at3_1, at3_2, at2_0, at2_1, at1_0, ix4_0, ix4_1, ix4_2, ix4_3, Option.map_some]
          exact (bent8_spec (i := 0) G2.box.app (W2.fr f4) (by decide) j0 m0 m1).mono (fun _ _ z => z) (fun _ _ z => z.elim) fun _ _ _ z => z
        · simp only [sat_ok, sat_bind, sat_pr, sat_opt, sat_eC, sat_eVar, sat_eBin, sat_eUn, sat_mBl, sat_mTru, sat_mNot, sat_mAnd, sat_mOr, sat_eAnd, sat_eOr, sat_eNot, sat_eIf, sat_eChain, sat_aNil, sat_aCons, sat_ofLen, sat_eTup, sat_eLst, sat_eBlt, sat_eMth, sat_oNone, sat_oSome, sat_eSl, sat_eFn, sat_eFnK, sat_sNext, sat_sSeq, sat_sEx, sat_sRet, sat_sRetN, sat_sIf, sat_sSet, sat_sPar, sat_sPar3, sat_sStore, sat_sRaise, sat_sFor, sat_mSeq, sat_mRange, sat_mEnum, sat_mZip, sat_eLc, sat_eLenSet, sat_eDic, sat_evalP, sat_evalP0, sat_eFld, sat_sFldS, sat_eMk, sat_init, List.getElem?_cons_zero, List.getElem?_cons_succ, List.map_cons, List.map_nil, List.length_cons, List.length_nil, List.replicate, List.nil_append, List.cons_append, List.append_nil, bindP, bindPs, setR, List.set_cons_zero, List.set_cons_succ, asBl, Nat.sub_self, Nat.reduceSub, Nat.reduceAdd, Int.reduceSub, pIxR lstAt_new, at4_0, at4_1, at4_2, at4_3, at3_0, at3_1, at3_2, at2_0, at2_1, at1_0, ix4_0, ix4_1, ix4_2, ix4_3, Option.map_some]
          exact (bent8_spec (i := 1) G2.box.app (W2.fr f4) (by decide) j0 m0 m1).mono (fun _ _ z => z) (fun _ _ z => z.elim) fun _ _ _ z => z
      · rw [if_neg (by simpa using h4)]
        exact (bentS_spec G2.box W2 j0 m0 m1).mono (fun _ _ z => z) (fun _ _ z => z.elim) fun _ _ _ z => z

end Cl
namespace Cl
open PySem PySem.Spec PyProof.Rows L2
/-! ## the web as data -/
structure View (h : CH) (p : Nat) (L : List (List Q2)) : Prop where
  ex : ∃ P : List Nat, lstAt h p = some (P.map .ref) ∧ Rows [] h P L
  sm : ∀ row ∈ L, ∀ x ∈ row, Sm2 x
  few : L.length ≤ 1000 ∧ ∀ row ∈ L, row.length ≤ 1000
theorem View.fr {h h' : CH} {p : Nat} {L : List (List Q2)} (v : View h p L) (f : Fr [] h h') : View h' p L := by
  obtain ⟨⟨P, e, r⟩, s, k⟩ := v
  exact ⟨⟨P, f.at_ e (by simp), r.fr f⟩, s, k⟩
theorem View.len {h : CH} {p : Nat} {L : List (List Q2)} (v : View h p L) : pLen [.ref p] h = some (.int (L.length : Nat), h) := by
  obtain ⟨⟨P, e, r⟩, s, k⟩ := v
  rw [pLenR e, List.length_map, r.len]
theorem View.row {h : CH} {p : Nat} {L : List (List Q2)} (v : View h p L) {i : Int} (h0 : 0 ≤ i) {row : List Q2} (e : L[i.toNat]? = some row) : ∃ r, pIx (.ref p) (.int i) h = some (.ref r, h) ∧ lstAt h r = some (row.map am) ∧ (∀ x ∈ row, Sm2 x) ∧ row.length ≤ 1000 := by
  obtain ⟨⟨P, e1, rr⟩, s, _, k⟩ := v
  have hl := rr.len
  have hi := (List.getElem?_eq_some_iff.mp e).1
  have er : P[i.toNat]? = some P[i.toNat] := List.getElem?_eq_getElem (by omega)
  obtain ⟨row', e2, e3, _⟩ := rr.get er
  rw [e] at e2; cases e2
  refine ⟨P[i.toNat], ?_, e3, s row (List.mem_of_getElem? e), k row (List.mem_of_getElem? e)⟩
  rw [pIxR e1, atN h0 (by rw [List.getElem?_map, er]; rfl)]; rfl
structure VW (h : CH) (n p q s : Nat) (A B C : List (List Q2)) : Prop where
  dic : h[n]? = some (.dic false false (webD [p, q, s]))
  a : View h p A
  b : View h q B
  c : View h s C
theorem VW.fr {h h' : CH} {n p q s : Nat} {A B C : List (List Q2)} (v : VW h n p q s A B C) (f : Fr [] h h') : VW h' n p q s A B C := by
  refine ⟨?_, v.a.fr f, v.b.fr f, v.c.fr f⟩
  have hn : n < h.length := by
    by_cases hl : n < h.length
    · exact hl
    · have := v.dic; rw [List.getElem?_eq_none (by omega)] at this; cases this
  rw [f.same n hn (by simp)]; exact v.dic
theorem VW.gets {h : CH} {n p q s : Nat} {A B C : List (List Q2)} (v : VW h n p q s A B C) : pIx (.ref n) (.str "prices") h = some (.ref p, h) ∧ pIx (.ref n) (.str "rates") h = some (.ref q, h) ∧ pIx (.ref n) (.str "steps") h = some (.ref s, h) := by
  have hl : lstAt h n = none := by unfold lstAt; rw [v.dic]
  have hd : dicAt h n = some (webD [p, q, s]) := by unfold dicAt; rw [v.dic]
  refine ⟨?_, ?_, ?_⟩ <;> (dsimp only [pIx]; rw [hl]; dsimp only; rw [hd]; rfl)
theorem view_of {h : CH} {ex : List Nat} {p m : Nat} {P : List Nat} (e : lstAt h p = some (P.map .ref)) (hm : m ≤ 1000) (hl : P.length ≤ m) (r : ∀ r ∈ P, RowOk h ex m r) : ∃ L, View h p L := by
  have key : ∀ P : List Nat, (∀ r ∈ P, RowOk h ex m r) → ∃ L, Rows [] h P L ∧ (∀ row ∈ L, ∀ x ∈ row, Sm2 x) ∧ ∀ row ∈ L, row.length ≤ m := by
    intro P
    induction P with
    | nil => exact fun _ => ⟨[], trivial, by simp, by simp⟩
    | cons w P ih =>
      intro hr
      obtain ⟨L, h1, h2, h3⟩ := ih fun r hr2 => hr r (by simp [hr2])
      obtain ⟨_, ps, a, b, c⟩ := hr w (by simp)
      refine ⟨ps :: L, ⟨a, by simp, h1⟩, ?_, ?_⟩
      · intro row hrow
        rcases List.mem_cons.mp hrow with rfl | z
        · exact b
        · exact h2 row z
      · intro row hrow
        rcases List.mem_cons.mp hrow with rfl | z
        · exact c
        · exact h3 row z
  obtain ⟨L, h1, h2, h3⟩ := key P r
  exact ⟨L, ⟨P, e, h1⟩, h2, by rw [← h1.len]; omega, fun row hr => by have := h3 row hr; omega⟩
theorem WebD.vw {h : CH} {b c n m : Nat} {o : List Nat} {R : List (List Nat)} (W : WebD h b c n o R m) (hm : m ≤ 1000) : ∃ p q s A B C, VW h n p q s A B C := by
  have o3 := W.o3
  match o, o3, W with
  | [p, q, s], _, W =>
    obtain ⟨_, _, e1, l1, r1⟩ := W.out 0 p rfl
    obtain ⟨_, _, e2, l2, r2⟩ := W.out 1 q rfl
    obtain ⟨_, _, e3, l3, r3⟩ := W.out 2 s rfl
    obtain ⟨A, vA⟩ := view_of e1 hm l1 r1
    obtain ⟨B, vB⟩ := view_of e2 hm l2 r2
    obtain ⟨C, vC⟩ := view_of e3 hm l3 r3
    exact ⟨p, q, s, A, B, C, W.dic, vA, vB, vC⟩
/-! ## what is due -/
structure Shape (A B C : List (List Q2)) : Prop where
  a : 1 ≤ A.length ∧ A.length ≤ 7
  b : B.length = A.length - 1
  c : C.length = A.length - 1
  r : ∀ (i : Nat) row, A[i]? = some row → 1 ≤ row.length ∧ row.length ≤ (if i = 0 then 1 else 8) ∧ ∀ rb rc, B[i]? = some rb → C[i]? = some rc → rb.length = rc.length ∧ rc.length = row.length
/-- the first that is bad; none that is -/
structure First (g : Nat → Q2 → Prop) (L : List (List Q2)) (i j : Nat) : Prop where
  row : ∃ row x, L[i]? = some row ∧ row[j]? = some x ∧ g i x ∧ ∀ k y, k < j → row[k]? = some y → ¬ g i y
  ahead : ∀ k row, k < i → L[k]? = some row → ∀ x ∈ row, ¬ g k x
def NoneOf (g : Nat → Q2 → Prop) (L : List (List Q2)) : Prop := ∀ k row, L[k]? = some row → ∀ x ∈ row, ¬ g k x
theorem First.not {g : Nat → Q2 → Prop} {L : List (List Q2)} {i j : Nat} (f : First g L i j) (n : NoneOf g L) : False := by
  obtain ⟨⟨row, x, e1, e2, gx, _⟩, _⟩ := f
  exact n i row e1 x (List.mem_of_getElem? e2) gx
theorem First.uniq {g : Nat → Q2 → Prop} {L : List (List Q2)} {i j i' j' : Nat} (f : First g L i j) (f' : First g L i' j') : i = i' ∧ j = j' := by
  obtain ⟨⟨row, x, e1, e2, gx, u⟩, a⟩ := f
  obtain ⟨⟨row', x', e1', e2', gx', u'⟩, a'⟩ := f'
  have hi : i = i' := by
    rcases Nat.lt_trichotomy i i' with h | h | h
    · exact absurd gx (a' i row h e1 x (List.mem_of_getElem? e2))
    · exact h
    · exact absurd gx' (a i' row' h e1' x' (List.mem_of_getElem? e2'))
  subst hi
  rw [e1] at e1'; cases e1'
  refine ⟨rfl, ?_⟩
  rcases Nat.lt_trichotomy j j' with h | h | h
  · exact absurd gx (u' j x h e2)
  · exact h
  · exact absurd gx' (u j' x' h e2')
def gP : Nat → Q2 → Prop := fun _ x => x.1 ≤ 0
def gS (A : List (List Q2)) : Nat → Q2 → Prop := fun i x => ¬ ∃ row u d, A[i + 1]? = some row ∧ 0 ≤ x.1 ∧ 0 ≤ x.2 ∧ row[x.1.toNat]? = some u ∧ row[x.2.toNat]? = some d ∧ d.1 * u.2 < u.1 * d.2
/-- what is due: None, or a word with its place -/
inductive Due (A B C : List (List Q2)) : Dt → Prop
  | shape : ¬ Shape A B C → Due A B C (.tup [.str "BadShape"])
  | price {i j : Nat} : Shape A B C → First gP A i j → Due A B C (.tup [.str "BadPrice", .int i, .int j])
  | rate {i j : Nat} : Shape A B C → NoneOf gP A → First gP B i j → Due A B C (.tup [.str "BadRate", .int i, .int j])
  | step {i j : Nat} : Shape A B C → NoneOf gP A → NoneOf gP B → First (gS A) C i j → Due A B C (.tup [.str "BadStep", .int i, .int j])
  | good : Shape A B C → NoneOf gP A → NoneOf gP B → NoneOf (gS A) C → Due A B C .non
theorem Due.uniq {A B C : List (List Q2)} {d e : Dt} (x : Due A B C d) (y : Due A B C e) : d = e := by
  cases x with
  | shape s => cases y with
    | shape _ => rfl
    | _ => contradiction
  | price s f => cases y with
    | shape _ => contradiction
    | price _ f' => obtain ⟨rfl, rfl⟩ := f.uniq f'; rfl
    | rate _ n _ => exact (f.not n).elim
    | step _ n _ _ => exact (f.not n).elim
    | good _ n _ _ => exact (f.not n).elim
  | rate s n f => cases y with
    | shape _ => contradiction
    | price _ f' => exact (f'.not n).elim
    | rate _ _ f' => obtain ⟨rfl, rfl⟩ := f.uniq f'; rfl
    | step _ _ n' _ => exact (f.not n').elim
    | good _ _ n' _ => exact (f.not n').elim
  | step s n m f => cases y with
    | shape _ => contradiction
    | price _ f' => exact (f'.not n).elim
    | rate _ _ f' => exact (f'.not m).elim
    | step _ _ _ f' => obtain ⟨rfl, rfl⟩ := f.uniq f'; rfl
    | good _ _ _ n' => exact (f.not n').elim
  | good s n m k => cases y with
    | shape _ => contradiction
    | price _ f' => exact (f'.not n).elim
    | rate _ _ f' => exact (f'.not m).elim
    | step _ _ _ f' => exact (f'.not k).elim
    | good _ _ _ _ => rfl

end Cl
namespace Cl
open PySem PySem.Spec PyProof.Rows L2
theorem sat_eChain2 {E : ExP} {P : Dt → CH → Prop} {f g : Dt → Dt → CH → Pr} {ma mb mc : ME} {ρ : Rho} {h : CH} : (eChain f g ma mb mc ρ h).sat P E ↔ (ma ρ h).sat (fun x h1 => (mb ρ h1).sat (fun y h2 => (Out.pr (f x y h2)).sat (fun z h3 => (Out.opt (asBl z) h3).sat (fun k h3 => if k = true then (mc ρ h3).sat (fun w h4 => (Out.pr (g y w h4)).sat P E) E else P (.bl false) h3) E) E) E) E := by
  rw [sat_eChain]
  refine Iff.of_eq (congrArg (fun z => Out.sat (ma ρ h) z E) (funext fun x => funext fun h1 => congrArg (fun z => Out.sat (mb ρ h1) z E) (funext fun y => funext fun h2 => congrArg (fun z => Out.sat (Out.pr (f x y h2)) z E) (funext fun z => funext fun h3 => ?_))))
  cases z with
  | bl k => cases k <;> simp [asBl, sat_opt]
  | _ => rfl
theorem pNe_int {i j : Int} {h : CH} : pNe (.int i) (.int j) h = some (.bl (!(i == j)), h) := rfl
def RowGood (B C : List (List Q2)) (i : Nat) (row : List Q2) : Prop := 1 ≤ row.length ∧ row.length ≤ (if i = 0 then 1 else 8) ∧ ∀ rb rc, B[i]? = some rb → C[i]? = some rc → rb.length = rc.length ∧ rc.length = row.length
theorem shape_good_spec {h : CH} {n p q s : Nat} {A B C : List (List Q2)} (V : VW h n p q s A B C) : (F_law_shape_good [.ref n] h).sat (fun d h' => h' = h ∧ ∃ k, d = .bl k ∧ (k = true ↔ Shape A B C)) noE := by
  obtain ⟨ga, gb, gc⟩ := V.gets
  have la := V.a.len
  have lb := V.b.len
  have lc := V.c.len
  refine sat_run rfl ?_
  unfold m_law_shape_good m_law_shape_good_4
  simp only [sat_ok, sat_bind, sat_pr, sat_opt, sat_eC, sat_eVar, sat_eBin, sat_eUn, sat_mBl, sat_mTru, sat_mNot, sat_mAnd, sat_mOr, sat_eAnd, sat_eOr, sat_eNot, sat_eIf, sat_eChain2, sat_aNil, sat_aCons, sat_ofLen, sat_eTup, sat_eLst, sat_eBlt, sat_eMth, sat_oNone, sat_oSome, sat_eSl, sat_eFn, sat_eFnK, sat_sNext, sat_sSeq, sat_sEx, sat_sRet, sat_sRetN, sat_sIf, sat_sSet, sat_sPar, sat_sPar3, sat_sStore, sat_sRaise, sat_sFor, sat_mSeq, sat_mRange, sat_mEnum, sat_mZip, sat_eLc, sat_eLenSet, sat_eDic, sat_evalP, sat_evalP0, sat_eFld, sat_sFldS, sat_eMk, sat_init, List.getElem?_cons_zero, List.getElem?_cons_succ, List.map_cons, List.map_nil, List.length_cons, List.length_nil, List.replicate, List.nil_append, List.cons_append, List.append_nil, List.set_cons_zero, List.set_cons_succ, asBl, Nat.sub_self, Nat.reduceSub, Nat.reduceAdd, if_true, if_false, Bool.false_eq_true, Bool.not_true, Bool.not_false, decide_eq_true_eq, ga, gb, gc]
  unfold m_law_shape_good_5
  simp only [sat_ok, sat_bind, sat_pr, sat_opt, sat_eC, sat_eVar, sat_eBin, sat_eUn, sat_mBl, sat_mTru, sat_mNot, sat_mAnd, sat_mOr, sat_eAnd, sat_eOr, sat_eNot, sat_eIf, sat_eChain2, sat_aNil, sat_aCons, sat_ofLen, sat_eTup, sat_eLst, sat_eBlt, sat_eMth, sat_oNone, sat_oSome, sat_eSl, sat_eFn, sat_eFnK, sat_sNext, sat_sSeq, sat_sEx, sat_sRet, sat_sRetN, sat_sIf, sat_sSet, sat_sPar, sat_sPar3, sat_sStore, sat_sRaise, sat_sFor, sat_mSeq, sat_mRange, sat_mEnum, sat_mZip, sat_eLc, sat_eLenSet, sat_eDic, sat_evalP, sat_evalP0, sat_eFld, sat_sFldS, sat_eMk, sat_init, List.getElem?_cons_zero, List.getElem?_cons_succ, List.map_cons, List.map_nil, List.length_cons, List.length_nil, List.replicate, List.nil_append, List.cons_append, List.append_nil, List.set_cons_zero, List.set_cons_succ, asBl, Nat.sub_self, Nat.reduceSub, Nat.reduceAdd, if_true, if_false, Bool.false_eq_true, Bool.not_true, Bool.not_false, decide_eq_true_eq, la, lb, lc, pLe_int, pSub_int, pNe_int]
  by_cases hS : 1 ≤ A.length ∧ A.length ≤ 7 ∧ B.length = A.length - 1 ∧ C.length = A.length - 1
  · obtain ⟨h1, h2, h3, h4⟩ := hS
    have e3 : (((B.length : Nat) : Int) == ((A.length : Nat) : Int) - 1) = true := by rw [beq_iff_eq]; omega
    have e4 : (((C.length : Nat) : Int) == ((A.length : Nat) : Int) - 1) = true := by rw [beq_iff_eq]; omega
    rw [if_pos (show (1 : Int) ≤ ((A.length : Nat) : Int) by omega)]
    simp only [sat_ok, sat_bind, sat_pr, sat_opt, sat_eC, sat_eVar, sat_eBin, sat_eUn, sat_mBl, sat_mTru, sat_mNot, sat_mAnd, sat_mOr, sat_eAnd, sat_eOr, sat_eNot, sat_eIf, sat_eChain2, sat_aNil, sat_aCons, sat_ofLen, sat_eTup, sat_eLst, sat_eBlt, sat_eMth, sat_oNone, sat_oSome, sat_eSl, sat_eFn, sat_eFnK, sat_sNext, sat_sSeq, sat_sEx, sat_sRet, sat_sRetN, sat_sIf, sat_sSet, sat_sPar, sat_sPar3, sat_sStore, sat_sRaise, sat_sFor, sat_mSeq, sat_mRange, sat_mEnum, sat_mZip, sat_eLc, sat_eLenSet, sat_eDic, sat_evalP, sat_evalP0, sat_eFld, sat_sFldS, sat_eMk, sat_init, List.getElem?_cons_zero, List.getElem?_cons_succ, List.map_cons, List.map_nil, List.length_cons, List.length_nil, List.replicate, List.nil_append, List.cons_append, List.append_nil, List.set_cons_zero, List.set_cons_succ, asBl, Nat.sub_self, Nat.reduceSub, Nat.reduceAdd, if_true, if_false, Bool.false_eq_true, Bool.not_true, Bool.not_false, decide_eq_true_eq, decide_eq_true (show ((A.length : Nat) : Int) ≤ 7 by omega), e3, e4]
    unfold m_law_shape_good_6
    simp only [sat_ok, sat_bind, sat_pr, sat_opt, sat_eC, sat_eVar, sat_eBin, sat_eUn, sat_mBl, sat_mTru, sat_mNot, sat_mAnd, sat_mOr, sat_eAnd, sat_eOr, sat_eNot, sat_eIf, sat_eChain2, sat_aNil, sat_aCons, sat_ofLen, sat_eTup, sat_eLst, sat_eBlt, sat_eMth, sat_oNone, sat_oSome, sat_eSl, sat_eFn, sat_eFnK, sat_sNext, sat_sSeq, sat_sEx, sat_sRet, sat_sRetN, sat_sIf, sat_sSet, sat_sPar, sat_sPar3, sat_sStore, sat_sRaise, sat_sFor, sat_mSeq, sat_mRange, sat_mEnum, sat_mZip, sat_eLc, sat_eLenSet, sat_eDic, sat_evalP, sat_evalP0, sat_eFld, sat_sFldS, sat_eMk, sat_init, List.getElem?_cons_zero, List.getElem?_cons_succ, List.map_cons, List.map_nil, List.length_cons, List.length_nil, List.replicate, List.nil_append, List.cons_append, List.append_nil, List.set_cons_zero, List.set_cons_succ, asBl, Nat.sub_self, Nat.reduceSub, Nat.reduceAdd, if_true, if_false, Bool.false_eq_true, Bool.not_true, Bool.not_false, decide_eq_true_eq, la, mRng1_eq (show (0 : Int) ≤ ((A.length : Nat) : Int) by omega) (show ((A.length : Nat) : Int) < 1000000 by omega)]
    refine sat_forR (I := fun j ρ h' => h' = h ∧ 0 ≤ j ∧ (∃ x, ρ = [some (.ref n), some (.ref p), some (.ref q), some (.ref s), x]) ∧ ∀ (i : Nat) row, (i : Int) < j → A[i]? = some row → RowGood B C i row) (hi := ((A.length : Nat) : Int)) (fun _ _ _ _ => okG_nil) ?_ ?_ _ 0 _ _ (by omega) ⟨rfl, by omega, ⟨_, rfl⟩, by omega⟩
    · rintro j ρ h' hj ⟨rfl, j0, ⟨x, rfl⟩, I⟩
      have ea : A[j.toNat]? = some (A[j.toNat]'(by omega)) := List.getElem?_eq_getElem _
      generalize A[j.toNat]'(by omega) = row at ea
      obtain ⟨r, r1, r2, _, r4⟩ := V.a.row j0 ea
      simp only [setR, List.set_cons_succ, List.set_cons_zero]
      unfold m_law_shape_good_3 m_law_shape_good_1
      simp only [sat_ok, sat_bind, sat_pr, sat_opt, sat_eC, sat_eVar, sat_eBin, sat_eUn, sat_mBl, sat_mTru, sat_mNot, sat_mAnd, sat_mOr, sat_eAnd, sat_eOr, sat_eNot, sat_eIf, sat_eChain2, sat_aNil, sat_aCons, sat_ofLen, sat_eTup, sat_eLst, sat_eBlt, sat_eMth, sat_oNone, sat_oSome, sat_eSl, sat_eFn, sat_eFnK, sat_sNext, sat_sSeq, sat_sEx, sat_sRet, sat_sRetN, sat_sIf, sat_sSet, sat_sPar, sat_sPar3, sat_sStore, sat_sRaise, sat_sFor, sat_mSeq, sat_mRange, sat_mEnum, sat_mZip, sat_eLc, sat_eLenSet, sat_eDic, sat_evalP, sat_evalP0, sat_eFld, sat_sFldS, sat_eMk, sat_init, List.getElem?_cons_zero, List.getElem?_cons_succ, List.map_cons, List.map_nil, List.length_cons, List.length_nil, List.replicate, List.nil_append, List.cons_append, List.append_nil, List.set_cons_zero, List.set_cons_succ, asBl, Nat.sub_self, Nat.reduceSub, Nat.reduceAdd, if_true, if_false, Bool.false_eq_true, Bool.not_true, Bool.not_false, decide_eq_true_eq, r1, pLenR r2, pLe_int, pEq_int, pGt_int, List.length_map]
      have no : ¬ RowGood B C j.toNat row → ¬ Shape A B C := fun z S => z (S.r _ row ea)
      have jz : (j == 0) = decide (j.toNat = 0) := by
        by_cases hz : j = 0
        · subst hz; rfl
        · rw [beq_eq_false_iff_ne.mpr hz, decide_eq_false (by omega)]
      by_cases g1 : 1 ≤ row.length ∧ row.length ≤ (if j.toNat = 0 then 1 else 8)
      · have t1 : 1 ≤ ((row.length : Nat) : Int) := by omega
        have t2 : ((row.length : Nat) : Int) ≤ 8 := by have := g1.2; split at this <;> omega
        rw [if_pos t1]
        have goal2 : (m_law_shape_good_2 [some (.ref n), some (.ref p), some (.ref q), some (.ref s), some (.int j)] h').sat (fun ρ h'' => h'' = h' ∧ 0 ≤ j + 1 ∧ (∃ x, ρ = [some (.ref n), some (.ref p), some (.ref q), some (.ref s), x]) ∧ ∀ (i : Nat) row, (i : Int) < j + 1 → A[i]? = some row → RowGood B C i row) (fun d h'' => h'' = h' ∧ ∃ k, d = .bl k ∧ (k = true ↔ Shape A B C)) noE := by
          have step : RowGood B C j.toNat row → ∀ (i : Nat) row, (i : Int) < j + 1 → A[i]? = some row → RowGood B C i row := fun g i row' hi e => by
            by_cases hij : (i : Int) < j
            · exact I i row' hij e
            · have : i = j.toNat := by omega
              subst this
              rw [ea] at e; cases e; exact g
          unfold m_law_shape_good_2
          simp only [sat_ok, sat_bind, sat_pr, sat_opt, sat_eC, sat_eVar, sat_eBin, sat_eUn, sat_mBl, sat_mTru, sat_mNot, sat_mAnd, sat_mOr, sat_eAnd, sat_eOr, sat_eNot, sat_eIf, sat_eChain2, sat_aNil, sat_aCons, sat_ofLen, sat_eTup, sat_eLst, sat_eBlt, sat_eMth, sat_oNone, sat_oSome, sat_eSl, sat_eFn, sat_eFnK, sat_sNext, sat_sSeq, sat_sEx, sat_sRet, sat_sRetN, sat_sIf, sat_sSet, sat_sPar, sat_sPar3, sat_sStore, sat_sRaise, sat_sFor, sat_mSeq, sat_mRange, sat_mEnum, sat_mZip, sat_eLc, sat_eLenSet, sat_eDic, sat_evalP, sat_evalP0, sat_eFld, sat_sFldS, sat_eMk, sat_init, List.getElem?_cons_zero, List.getElem?_cons_succ, List.map_cons, List.map_nil, List.length_cons, List.length_nil, List.replicate, List.nil_append, List.cons_append, List.append_nil, List.set_cons_zero, List.set_cons_succ, asBl, Nat.sub_self, Nat.reduceSub, Nat.reduceAdd, if_true, if_false, Bool.false_eq_true, Bool.not_true, Bool.not_false, decide_eq_true_eq, lb, pLt_int]
          by_cases hb : j < ((B.length : Nat) : Int)
          · rw [if_pos hb]
            have eb : B[j.toNat]? = some (B[j.toNat]'(by omega)) := List.getElem?_eq_getElem _
            generalize B[j.toNat]'(by omega) = rb at eb
            have ec : C[j.toNat]? = some (C[j.toNat]'(by omega)) := List.getElem?_eq_getElem _
            generalize C[j.toNat]'(by omega) = rc at ec
            obtain ⟨r', b1, b2, _, b4⟩ := V.b.row j0 eb
            obtain ⟨r'', c1, c2, _, c4⟩ := V.c.row j0 ec
            simp only [sat_ok, sat_bind, sat_pr, sat_opt, sat_eC, sat_eVar, sat_eBin, sat_eUn, sat_mBl, sat_mTru, sat_mNot, sat_mAnd, sat_mOr, sat_eAnd, sat_eOr, sat_eNot, sat_eIf, sat_eChain2, sat_aNil, sat_aCons, sat_ofLen, sat_eTup, sat_eLst, sat_eBlt, sat_eMth, sat_oNone, sat_oSome, sat_eSl, sat_eFn, sat_eFnK, sat_sNext, sat_sSeq, sat_sEx, sat_sRet, sat_sRetN, sat_sIf, sat_sSet, sat_sPar, sat_sPar3, sat_sStore, sat_sRaise, sat_sFor, sat_mSeq, sat_mRange, sat_mEnum, sat_mZip, sat_eLc, sat_eLenSet, sat_eDic, sat_evalP, sat_evalP0, sat_eFld, sat_sFldS, sat_eMk, sat_init, List.getElem?_cons_zero, List.getElem?_cons_succ, List.map_cons, List.map_nil, List.length_cons, List.length_nil, List.replicate, List.nil_append, List.cons_append, List.append_nil, List.set_cons_zero, List.set_cons_succ, asBl, Nat.sub_self, Nat.reduceSub, Nat.reduceAdd, if_true, if_false, Bool.false_eq_true, Bool.not_true, Bool.not_false, decide_eq_true_eq, b1, pLenR b2, c1, pLenR c2, r1, pLenR r2, pEq_int, List.length_map]
            by_cases k1 : rb.length = rc.length
            · rw [if_pos (by rw [beq_iff_eq]; omega)]
              by_cases k2 : rc.length = row.length
              · have : (((rc.length : Nat) : Int) == ((row.length : Nat) : Int)) = true := by rw [beq_iff_eq]; omega
                simp only [this, sat_ok, sat_bind, sat_pr, sat_opt, sat_eC, sat_eVar, sat_eBin, sat_eUn, sat_mBl, sat_mTru, sat_mNot, sat_mAnd, sat_mOr, sat_eAnd, sat_eOr, sat_eNot, sat_eIf, sat_eChain2, sat_aNil, sat_aCons, sat_ofLen, sat_eTup, sat_eLst, sat_eBlt, sat_eMth, sat_oNone, sat_oSome, sat_eSl, sat_eFn, sat_eFnK, sat_sNext, sat_sSeq, sat_sEx, sat_sRet, sat_sRetN, sat_sIf, sat_sSet, sat_sPar, sat_sPar3, sat_sStore, sat_sRaise, sat_sFor, sat_mSeq, sat_mRange, sat_mEnum, sat_mZip, sat_eLc, sat_eLenSet, sat_eDic, sat_evalP, sat_evalP0, sat_eFld, sat_sFldS, sat_eMk, sat_init, List.getElem?_cons_zero, List.getElem?_cons_succ, List.map_cons, List.map_nil, List.length_cons, List.length_nil, List.replicate, List.nil_append, List.cons_append, List.append_nil, List.set_cons_zero, List.set_cons_succ, asBl, Nat.sub_self, Nat.reduceSub, Nat.reduceAdd, if_true, if_false, Bool.false_eq_true, Bool.not_true, Bool.not_false, decide_eq_true_eq]
                exact ⟨trivial, by omega, ⟨_, rfl⟩, step ⟨g1.1, g1.2, fun rb' rc' e1 e2 => by rw [eb] at e1; rw [ec] at e2; cases e1; cases e2; exact ⟨k1, k2⟩⟩⟩
              · have : (((rc.length : Nat) : Int) == ((row.length : Nat) : Int)) = false := by rw [beq_eq_false_iff_ne]; omega
                simp only [this, sat_ok, sat_bind, sat_pr, sat_opt, sat_eC, sat_eVar, sat_eBin, sat_eUn, sat_mBl, sat_mTru, sat_mNot, sat_mAnd, sat_mOr, sat_eAnd, sat_eOr, sat_eNot, sat_eIf, sat_eChain2, sat_aNil, sat_aCons, sat_ofLen, sat_eTup, sat_eLst, sat_eBlt, sat_eMth, sat_oNone, sat_oSome, sat_eSl, sat_eFn, sat_eFnK, sat_sNext, sat_sSeq, sat_sEx, sat_sRet, sat_sRetN, sat_sIf, sat_sSet, sat_sPar, sat_sPar3, sat_sStore, sat_sRaise, sat_sFor, sat_mSeq, sat_mRange, sat_mEnum, sat_mZip, sat_eLc, sat_eLenSet, sat_eDic, sat_evalP, sat_evalP0, sat_eFld, sat_sFldS, sat_eMk, sat_init, List.getElem?_cons_zero, List.getElem?_cons_succ, List.map_cons, List.map_nil, List.length_cons, List.length_nil, List.replicate, List.nil_append, List.cons_append, List.append_nil, List.set_cons_zero, List.set_cons_succ, asBl, Nat.sub_self, Nat.reduceSub, Nat.reduceAdd, if_true, if_false, Bool.false_eq_true, Bool.not_true, Bool.not_false, decide_eq_true_eq]
                exact ⟨trivial, false, rfl, by simp; exact no fun g => k2 (g.2.2 rb rc eb ec).2⟩
            · rw [if_neg (by rw [beq_iff_eq]; omega)]
              exact ⟨trivial, false, rfl, by simp; exact no fun g => k1 (g.2.2 rb rc eb ec).1⟩
          · rw [if_neg hb]
            exact ⟨trivial, by omega, ⟨_, rfl⟩, step ⟨g1.1, g1.2, fun rb' rc' e1 e2 => by
              have := (List.getElem?_eq_some_iff.mp e1).1
              omega⟩⟩
        simp only [decide_eq_true t2, sat_ok, sat_bind, sat_pr, sat_opt, sat_eC, sat_eVar, sat_eBin, sat_eUn, sat_mBl, sat_mTru, sat_mNot, sat_mAnd, sat_mOr, sat_eAnd, sat_eOr, sat_eNot, sat_eIf, sat_eChain2, sat_aNil, sat_aCons, sat_ofLen, sat_eTup, sat_eLst, sat_eBlt, sat_eMth, sat_oNone, sat_oSome, sat_eSl, sat_eFn, sat_eFnK, sat_sNext, sat_sSeq, sat_sEx, sat_sRet, sat_sRetN, sat_sIf, sat_sSet, sat_sPar, sat_sPar3, sat_sStore, sat_sRaise, sat_sFor, sat_mSeq, sat_mRange, sat_mEnum, sat_mZip, sat_eLc, sat_eLenSet, sat_eDic, sat_evalP, sat_evalP0, sat_eFld, sat_sFldS, sat_eMk, sat_init, List.getElem?_cons_zero, List.getElem?_cons_succ, List.map_cons, List.map_nil, List.length_cons, List.length_nil, List.replicate, List.nil_append, List.cons_append, List.append_nil, List.set_cons_zero, List.set_cons_succ, asBl, Nat.sub_self, Nat.reduceSub, Nat.reduceAdd, if_true, if_false, Bool.false_eq_true, Bool.not_true, Bool.not_false, decide_eq_true_eq, jz]
        by_cases hz : j.toNat = 0
        · rw [if_pos hz]
          have : ¬ (1 : Int) < ((row.length : Nat) : Int) := by have := g1.2; rw [if_pos hz] at this; omega
          rw [if_neg this]
          exact goal2
        · rw [if_neg hz]
          exact goal2
      · have bad := no fun g => g1 ⟨g.1, g.2.1⟩
        have fin : ∃ k, (Dt.bl false) = .bl k ∧ (k = true ↔ Shape A B C) := ⟨false, rfl, by simp; exact bad⟩
        by_cases t1 : 1 ≤ ((row.length : Nat) : Int)
        · rw [if_pos t1]
          by_cases t2 : ((row.length : Nat) : Int) ≤ 8
          · have hz : j.toNat = 0 := by
              by_cases hz : j.toNat = 0
              · exact hz
              · rw [if_neg hz] at g1; exact absurd ⟨by omega, by omega⟩ g1
            rw [if_pos hz] at g1
            have t3 : (1 : Int) < ((row.length : Nat) : Int) := by omega
            simp only [decide_eq_true t2, jz, decide_eq_true hz, sat_ok, sat_bind, sat_pr, sat_opt, sat_eC, sat_eVar, sat_eBin, sat_eUn, sat_mBl, sat_mTru, sat_mNot, sat_mAnd, sat_mOr, sat_eAnd, sat_eOr, sat_eNot, sat_eIf, sat_eChain2, sat_aNil, sat_aCons, sat_ofLen, sat_eTup, sat_eLst, sat_eBlt, sat_eMth, sat_oNone, sat_oSome, sat_eSl, sat_eFn, sat_eFnK, sat_sNext, sat_sSeq, sat_sEx, sat_sRet, sat_sRetN, sat_sIf, sat_sSet, sat_sPar, sat_sPar3, sat_sStore, sat_sRaise, sat_sFor, sat_mSeq, sat_mRange, sat_mEnum, sat_mZip, sat_eLc, sat_eLenSet, sat_eDic, sat_evalP, sat_evalP0, sat_eFld, sat_sFldS, sat_eMk, sat_init, List.getElem?_cons_zero, List.getElem?_cons_succ, List.map_cons, List.map_nil, List.length_cons, List.length_nil, List.replicate, List.nil_append, List.cons_append, List.append_nil, List.set_cons_zero, List.set_cons_succ, asBl, Nat.sub_self, Nat.reduceSub, Nat.reduceAdd, if_true, if_false, Bool.false_eq_true, Bool.not_true, Bool.not_false, decide_eq_true_eq]
            rw [if_pos t3]
            exact ⟨trivial, fin⟩
          · simp only [decide_eq_false t2, sat_ok, sat_bind, sat_pr, sat_opt, sat_eC, sat_eVar, sat_eBin, sat_eUn, sat_mBl, sat_mTru, sat_mNot, sat_mAnd, sat_mOr, sat_eAnd, sat_eOr, sat_eNot, sat_eIf, sat_eChain2, sat_aNil, sat_aCons, sat_ofLen, sat_eTup, sat_eLst, sat_eBlt, sat_eMth, sat_oNone, sat_oSome, sat_eSl, sat_eFn, sat_eFnK, sat_sNext, sat_sSeq, sat_sEx, sat_sRet, sat_sRetN, sat_sIf, sat_sSet, sat_sPar, sat_sPar3, sat_sStore, sat_sRaise, sat_sFor, sat_mSeq, sat_mRange, sat_mEnum, sat_mZip, sat_eLc, sat_eLenSet, sat_eDic, sat_evalP, sat_evalP0, sat_eFld, sat_sFldS, sat_eMk, sat_init, List.getElem?_cons_zero, List.getElem?_cons_succ, List.map_cons, List.map_nil, List.length_cons, List.length_nil, List.replicate, List.nil_append, List.cons_append, List.append_nil, List.set_cons_zero, List.set_cons_succ, asBl, Nat.sub_self, Nat.reduceSub, Nat.reduceAdd, if_true, if_false, Bool.false_eq_true, Bool.not_true, Bool.not_false, decide_eq_true_eq]
            exact ⟨trivial, fin⟩
        · rw [if_neg t1]
          exact ⟨trivial, fin⟩
    · rintro ρ h' ⟨rfl, _, _, I⟩
      simp only [sat_ok, sat_bind, sat_pr, sat_opt, sat_eC, sat_eVar, sat_eBin, sat_eUn, sat_mBl, sat_mTru, sat_mNot, sat_mAnd, sat_mOr, sat_eAnd, sat_eOr, sat_eNot, sat_eIf, sat_eChain2, sat_aNil, sat_aCons, sat_ofLen, sat_eTup, sat_eLst, sat_eBlt, sat_eMth, sat_oNone, sat_oSome, sat_eSl, sat_eFn, sat_eFnK, sat_sNext, sat_sSeq, sat_sEx, sat_sRet, sat_sRetN, sat_sIf, sat_sSet, sat_sPar, sat_sPar3, sat_sStore, sat_sRaise, sat_sFor, sat_mSeq, sat_mRange, sat_mEnum, sat_mZip, sat_eLc, sat_eLenSet, sat_eDic, sat_evalP, sat_evalP0, sat_eFld, sat_sFldS, sat_eMk, sat_init, List.getElem?_cons_zero, List.getElem?_cons_succ, List.map_cons, List.map_nil, List.length_cons, List.length_nil, List.replicate, List.nil_append, List.cons_append, List.append_nil, List.set_cons_zero, List.set_cons_succ, asBl, Nat.sub_self, Nat.reduceSub, Nat.reduceAdd, if_true, if_false, Bool.false_eq_true, Bool.not_true, Bool.not_false, decide_eq_true_eq]
      exact ⟨trivial, true, rfl, by simp; exact ⟨⟨h1, h2⟩, h3, h4, fun i row e => I i row (by have := (List.getElem?_eq_some_iff.mp e).1; omega) e⟩⟩
  · have fin : ∃ k, (Dt.bl false) = .bl k ∧ (k = true ↔ Shape A B C) := ⟨false, rfl, by simp; exact fun S => hS ⟨S.a.1, S.a.2, S.b, S.c⟩⟩
    by_cases t1 : (1 : Int) ≤ ((A.length : Nat) : Int)
    · rw [if_pos t1]
      by_cases t2 : ((A.length : Nat) : Int) ≤ 7
      · simp only [decide_eq_true t2, sat_ok, sat_bind, sat_pr, sat_opt, sat_eC, sat_eVar, sat_eBin, sat_eUn, sat_mBl, sat_mTru, sat_mNot, sat_mAnd, sat_mOr, sat_eAnd, sat_eOr, sat_eNot, sat_eIf, sat_eChain2, sat_aNil, sat_aCons, sat_ofLen, sat_eTup, sat_eLst, sat_eBlt, sat_eMth, sat_oNone, sat_oSome, sat_eSl, sat_eFn, sat_eFnK, sat_sNext, sat_sSeq, sat_sEx, sat_sRet, sat_sRetN, sat_sIf, sat_sSet, sat_sPar, sat_sPar3, sat_sStore, sat_sRaise, sat_sFor, sat_mSeq, sat_mRange, sat_mEnum, sat_mZip, sat_eLc, sat_eLenSet, sat_eDic, sat_evalP, sat_evalP0, sat_eFld, sat_sFldS, sat_eMk, sat_init, List.getElem?_cons_zero, List.getElem?_cons_succ, List.map_cons, List.map_nil, List.length_cons, List.length_nil, List.replicate, List.nil_append, List.cons_append, List.append_nil, List.set_cons_zero, List.set_cons_succ, asBl, Nat.sub_self, Nat.reduceSub, Nat.reduceAdd, if_true, if_false, Bool.false_eq_true, Bool.not_true, Bool.not_false, decide_eq_true_eq]
        by_cases t3 : ((B.length : Nat) : Int) = ((A.length : Nat) : Int) - 1
        · have t4 : ¬ ((C.length : Nat) : Int) = ((A.length : Nat) : Int) - 1 := by omega
          simp only [beq_iff_eq.mpr t3, beq_eq_false_iff_ne.mpr t4, sat_ok, sat_bind, sat_pr, sat_opt, sat_eC, sat_eVar, sat_eBin, sat_eUn, sat_mBl, sat_mTru, sat_mNot, sat_mAnd, sat_mOr, sat_eAnd, sat_eOr, sat_eNot, sat_eIf, sat_eChain2, sat_aNil, sat_aCons, sat_ofLen, sat_eTup, sat_eLst, sat_eBlt, sat_eMth, sat_oNone, sat_oSome, sat_eSl, sat_eFn, sat_eFnK, sat_sNext, sat_sSeq, sat_sEx, sat_sRet, sat_sRetN, sat_sIf, sat_sSet, sat_sPar, sat_sPar3, sat_sStore, sat_sRaise, sat_sFor, sat_mSeq, sat_mRange, sat_mEnum, sat_mZip, sat_eLc, sat_eLenSet, sat_eDic, sat_evalP, sat_evalP0, sat_eFld, sat_sFldS, sat_eMk, sat_init, List.getElem?_cons_zero, List.getElem?_cons_succ, List.map_cons, List.map_nil, List.length_cons, List.length_nil, List.replicate, List.nil_append, List.cons_append, List.append_nil, List.set_cons_zero, List.set_cons_succ, asBl, Nat.sub_self, Nat.reduceSub, Nat.reduceAdd, if_true, if_false, Bool.false_eq_true, Bool.not_true, Bool.not_false, decide_eq_true_eq]
          exact ⟨trivial, fin⟩
        · simp only [beq_eq_false_iff_ne.mpr t3, sat_ok, sat_bind, sat_pr, sat_opt, sat_eC, sat_eVar, sat_eBin, sat_eUn, sat_mBl, sat_mTru, sat_mNot, sat_mAnd, sat_mOr, sat_eAnd, sat_eOr, sat_eNot, sat_eIf, sat_eChain2, sat_aNil, sat_aCons, sat_ofLen, sat_eTup, sat_eLst, sat_eBlt, sat_eMth, sat_oNone, sat_oSome, sat_eSl, sat_eFn, sat_eFnK, sat_sNext, sat_sSeq, sat_sEx, sat_sRet, sat_sRetN, sat_sIf, sat_sSet, sat_sPar, sat_sPar3, sat_sStore, sat_sRaise, sat_sFor, sat_mSeq, sat_mRange, sat_mEnum, sat_mZip, sat_eLc, sat_eLenSet, sat_eDic, sat_evalP, sat_evalP0, sat_eFld, sat_sFldS, sat_eMk, sat_init, List.getElem?_cons_zero, List.getElem?_cons_succ, List.map_cons, List.map_nil, List.length_cons, List.length_nil, List.replicate, List.nil_append, List.cons_append, List.append_nil, List.set_cons_zero, List.set_cons_succ, asBl, Nat.sub_self, Nat.reduceSub, Nat.reduceAdd, if_true, if_false, Bool.false_eq_true, Bool.not_true, Bool.not_false, decide_eq_true_eq]
          exact ⟨trivial, fin⟩
      · simp only [decide_eq_false t2, sat_ok, sat_bind, sat_pr, sat_opt, sat_eC, sat_eVar, sat_eBin, sat_eUn, sat_mBl, sat_mTru, sat_mNot, sat_mAnd, sat_mOr, sat_eAnd, sat_eOr, sat_eNot, sat_eIf, sat_eChain2, sat_aNil, sat_aCons, sat_ofLen, sat_eTup, sat_eLst, sat_eBlt, sat_eMth, sat_oNone, sat_oSome, sat_eSl, sat_eFn, sat_eFnK, sat_sNext, sat_sSeq, sat_sEx, sat_sRet, sat_sRetN, sat_sIf, sat_sSet, sat_sPar, sat_sPar3, sat_sStore, sat_sRaise, sat_sFor, sat_mSeq, sat_mRange, sat_mEnum, sat_mZip, sat_eLc, sat_eLenSet, sat_eDic, sat_evalP, sat_evalP0, sat_eFld, sat_sFldS, sat_eMk, sat_init, List.getElem?_cons_zero, List.getElem?_cons_succ, List.map_cons, List.map_nil, List.length_cons, List.length_nil, List.replicate, List.nil_append, List.cons_append, List.append_nil, List.set_cons_zero, List.set_cons_succ, asBl, Nat.sub_self, Nat.reduceSub, Nat.reduceAdd, if_true, if_false, Bool.false_eq_true, Bool.not_true, Bool.not_false, decide_eq_true_eq]
        exact ⟨trivial, fin⟩
    · rw [if_neg t1]
      exact ⟨trivial, fin⟩

end Cl
namespace Cl
open PySem PySem.Spec PyProof.Rows L2
theorem First.mk2 {g : Nat → Q2 → Prop} {L : List (List Q2)} {i j : Int} {row : List Q2} {x : Q2} (i0 : 0 ≤ i) (j0 : 0 ≤ j) (e : L[i.toNat]? = some row) (e2 : row[j.toNat]? = some x) (gx : g i.toNat x) (u : ∀ (k : Nat) y, (k : Int) < j → row[k]? = some y → ¬ g i.toNat y) (a : ∀ (k : Nat) row, (k : Int) < i → L[k]? = some row → ∀ x ∈ row, ¬ g k x) : First g L i.toNat j.toNat :=
  ⟨⟨row, x, e, e2, gx, fun k y hk => u k y (by omega)⟩, fun k row hk => a k row (by omega)⟩
theorem nxt {g : Nat → Q2 → Prop} {row : List Q2} {i : Nat} {j : Int} {x : Q2} (j0 : 0 ≤ j) (e2 : row[j.toNat]? = some x) (gx : ¬ g i x) (u : ∀ (k : Nat) y, (k : Int) < j → row[k]? = some y → ¬ g i y) : ∀ (k : Nat) y, (k : Int) < j + 1 → row[k]? = some y → ¬ g i y := fun k y hk e => by
  by_cases h : (k : Int) < j
  · exact u k y h e
  · have : k = j.toNat := by omega
    subst this
    rw [e2] at e; cases e; exact gx
theorem nxtR {g : Nat → Q2 → Prop} {L : List (List Q2)} {i : Int} {row : List Q2} (i0 : 0 ≤ i) (e : L[i.toNat]? = some row) (u : ∀ (k : Nat) y, row[k]? = some y → ¬ g i.toNat y) (a : ∀ (k : Nat) row, (k : Int) < i → L[k]? = some row → ∀ x ∈ row, ¬ g k x) : ∀ (k : Nat) row, (k : Int) < i + 1 → L[k]? = some row → ∀ x ∈ row, ¬ g k x := fun k row' hk e' x hx => by
  by_cases h : (k : Int) < i
  · exact a k row' h e' x hx
  · have : k = i.toNat := by omega
    subst this
    rw [e] at e'; cases e'
    obtain ⟨m, hm⟩ := List.getElem?_of_mem hx
    exact u m x hm
theorem toI {i : Int} (h : 0 ≤ i) : ((i.toNat : Nat) : Int) = i := by omega
theorem firstM_spec {h : CH} {n p : Nat} {w nm : Str} {L : List (List Q2)} {x3 x4 x5 x6 x7 : Option Dt} (g : pIx (.ref n) (.str w) h = some (.ref p, h)) (V : View h p L) : (m_law_first_bad_3 [some (.ref n), some (.str w), some (.str nm), x3, x4, x5, x6, x7] h).sat (fun ρ h' => h' = h ∧ (∃ x3 x4, ρ = [some (.ref n), some (.str w), some (.str nm), x3, x4, x5, x6, x7]) ∧ NoneOf gP L) (fun d h' => h' = h ∧ ∃ i j : Nat, d = .tup [.str nm, .int i, .int j] ∧ First gP L i j) noE := by
  have fw := V.few.1
  unfold m_law_first_bad_3
  simp only [sat_ok, sat_bind, sat_pr, sat_opt, sat_eC, sat_eVar, sat_eBin, sat_eUn, sat_mBl, sat_mTru, sat_mNot, sat_mAnd, sat_mOr, sat_eAnd, sat_eOr, sat_eNot, sat_eIf, sat_eChain2, sat_aNil, sat_aCons, sat_ofLen, sat_eTup, sat_eLst, sat_eBlt, sat_eMth, sat_oNone, sat_oSome, sat_eSl, sat_eFn, sat_eFnK, sat_sNext, sat_sSeq, sat_sEx, sat_sRet, sat_sRetN, sat_sIf, sat_sSet, sat_sPar, sat_sPar3, sat_sStore, sat_sRaise, sat_sFor, sat_mSeq, sat_mRange, sat_mEnum, sat_mZip, sat_eLc, sat_eLenSet, sat_eDic, sat_evalP, sat_evalP0, sat_eFld, sat_sFldS, sat_eMk, sat_init, List.getElem?_cons_zero, List.getElem?_cons_succ, List.map_cons, List.map_nil, List.length_cons, List.length_nil, List.replicate, List.nil_append, List.cons_append, List.append_nil, List.set_cons_zero, List.set_cons_succ, asBl, Nat.sub_self, Nat.reduceSub, Nat.reduceAdd, if_true, if_false, Bool.false_eq_true, Bool.not_true, Bool.not_false, decide_eq_true_eq, g, V.len, mRng1_eq (show (0 : Int) ≤ ((L.length : Nat) : Int) by omega) (show ((L.length : Nat) : Int) < 1000000 by omega)]
  refine sat_forR (I := fun i ρ h' => h' = h ∧ 0 ≤ i ∧ (∃ x3 x4, ρ = [some (.ref n), some (.str w), some (.str nm), x3, x4, x5, x6, x7]) ∧ ∀ (k : Nat) row, (k : Int) < i → L[k]? = some row → ∀ x ∈ row, ¬ gP k x) (hi := ((L.length : Nat) : Int)) (fun _ _ _ _ => okG_nil) ?_ ?_ _ 0 _ _ (by omega) ⟨rfl, by omega, ⟨_, _, rfl⟩, by omega⟩
  · rintro i ρ h' hi ⟨rfl, i0, ⟨x3, x4, rfl⟩, I⟩
    have ea : L[i.toNat]? = some (L[i.toNat]'(by omega)) := List.getElem?_eq_getElem _
    generalize L[i.toNat]'(by omega) = row at ea
    obtain ⟨r, r1, r2, _, r4⟩ := V.row i0 ea
    simp only [setR, List.set_cons_succ, List.set_cons_zero]
    unfold m_law_first_bad_2
    simp only [sat_ok, sat_bind, sat_pr, sat_opt, sat_eC, sat_eVar, sat_eBin, sat_eUn, sat_mBl, sat_mTru, sat_mNot, sat_mAnd, sat_mOr, sat_eAnd, sat_eOr, sat_eNot, sat_eIf, sat_eChain2, sat_aNil, sat_aCons, sat_ofLen, sat_eTup, sat_eLst, sat_eBlt, sat_eMth, sat_oNone, sat_oSome, sat_eSl, sat_eFn, sat_eFnK, sat_sNext, sat_sSeq, sat_sEx, sat_sRet, sat_sRetN, sat_sIf, sat_sSet, sat_sPar, sat_sPar3, sat_sStore, sat_sRaise, sat_sFor, sat_mSeq, sat_mRange, sat_mEnum, sat_mZip, sat_eLc, sat_eLenSet, sat_eDic, sat_evalP, sat_evalP0, sat_eFld, sat_sFldS, sat_eMk, sat_init, List.getElem?_cons_zero, List.getElem?_cons_succ, List.map_cons, List.map_nil, List.length_cons, List.length_nil, List.replicate, List.nil_append, List.cons_append, List.append_nil, List.set_cons_zero, List.set_cons_succ, asBl, Nat.sub_self, Nat.reduceSub, Nat.reduceAdd, if_true, if_false, Bool.false_eq_true, Bool.not_true, Bool.not_false, decide_eq_true_eq, g, r1, pLenR r2, List.length_map, mRng1_eq (show (0 : Int) ≤ ((row.length : Nat) : Int) by omega) (show ((row.length : Nat) : Int) < 1000000 by omega)]
    refine sat_forR (I := fun j ρ h'' => h'' = h' ∧ 0 ≤ j ∧ (∃ x4, ρ = [some (.ref n), some (.str w), some (.str nm), some (.int i), x4, x5, x6, x7]) ∧ ∀ (k : Nat) y, (k : Int) < j → row[k]? = some y → ¬ gP i.toNat y) (hi := ((row.length : Nat) : Int)) (fun _ _ _ _ => okG_nil) ?_ ?_ _ 0 _ _ (by omega) ⟨rfl, by omega, ⟨_, rfl⟩, by omega⟩
    · rintro j ρ h'' hj ⟨rfl, j0, ⟨x4, rfl⟩, J⟩
      obtain ⟨x, hx, hxi⟩ := at_map (ps := row) j0 (by omega)
      simp only [setR, List.set_cons_succ, List.set_cons_zero]
      unfold m_law_first_bad_1
      simp only [sat_ok, sat_bind, sat_pr, sat_opt, sat_eC, sat_eVar, sat_eBin, sat_eUn, sat_mBl, sat_mTru, sat_mNot, sat_mAnd, sat_mOr, sat_eAnd, sat_eOr, sat_eNot, sat_eIf, sat_eChain2, sat_aNil, sat_aCons, sat_ofLen, sat_eTup, sat_eLst, sat_eBlt, sat_eMth, sat_oNone, sat_oSome, sat_eSl, sat_eFn, sat_eFnK, sat_sNext, sat_sSeq, sat_sEx, sat_sRet, sat_sRetN, sat_sIf, sat_sSet, sat_sPar, sat_sPar3, sat_sStore, sat_sRaise, sat_sFor, sat_mSeq, sat_mRange, sat_mEnum, sat_mZip, sat_eLc, sat_eLenSet, sat_eDic, sat_evalP, sat_evalP0, sat_eFld, sat_sFldS, sat_eMk, sat_init, List.getElem?_cons_zero, List.getElem?_cons_succ, List.map_cons, List.map_nil, List.length_cons, List.length_nil, List.replicate, List.nil_append, List.cons_append, List.append_nil, List.set_cons_zero, List.set_cons_succ, asBl, Nat.sub_self, Nat.reduceSub, Nat.reduceAdd, if_true, if_false, Bool.false_eq_true, Bool.not_true, Bool.not_false, decide_eq_true_eq, g, r1, pIxR r2, hxi, Option.map_some, at_am0, pLe_int]
      by_cases gx : x.1 ≤ 0
      · rw [if_pos gx]
        simp only [sz, Nat.reduceLeDiff, if_true]
        exact ⟨trivial, i.toNat, j.toNat, by rw [toI i0, toI j0], First.mk2 i0 j0 ea hx gx J I⟩
      · rw [if_neg gx]
        exact ⟨trivial, by omega, ⟨_, rfl⟩, nxt (g := gP) j0 hx gx J⟩
    · rintro ρ h'' ⟨rfl, _, ⟨x4, rfl⟩, J⟩
      exact ⟨rfl, by omega, ⟨_, _, rfl⟩, nxtR i0 ea (fun k y e => J k y (by have := (List.getElem?_eq_some_iff.mp e).1; omega) e) I⟩
  · rintro ρ h' ⟨rfl, _, e, I⟩
    exact ⟨rfl, e, fun k row e => I k row (by have := (List.getElem?_eq_some_iff.mp e).1; omega) e⟩
theorem bool_lem {P : Prop} [Decidable P] (h : P) : decide P = true := decide_eq_true h
theorem firstS_spec {h : CH} {n p q s : Nat} {A B C : List (List Q2)} {x1 x2 x3 x4 x5 x6 x7 : Option Dt} (V : VW h n p q s A B C) (S : Shape A B C) : (m_law_first_bad_12 [some (.ref n), x1, x2, x3, x4, x5, x6, x7] h).sat (fun ρ h' => h' = h ∧ NoneOf (gS A) C) (fun d h' => h' = h ∧ ∃ i j : Nat, d = .tup [.str "BadStep", .int i, .int j] ∧ First (gS A) C i j) noE := by
  obtain ⟨ga, gb, gc⟩ := V.gets
  have fw := V.c.few.1
  have sc := S.c
  have sa := S.a
  unfold m_law_first_bad_12
  simp only [sat_ok, sat_bind, sat_pr, sat_opt, sat_eC, sat_eVar, sat_eBin, sat_eUn, sat_mBl, sat_mTru, sat_mNot, sat_mAnd, sat_mOr, sat_eAnd, sat_eOr, sat_eNot, sat_eIf, sat_eChain2, sat_aNil, sat_aCons, sat_ofLen, sat_eTup, sat_eLst, sat_eBlt, sat_eMth, sat_oNone, sat_oSome, sat_eSl, sat_eFn, sat_eFnK, sat_sNext, sat_sSeq, sat_sEx, sat_sRet, sat_sRetN, sat_sIf, sat_sSet, sat_sPar, sat_sPar3, sat_sStore, sat_sRaise, sat_sFor, sat_mSeq, sat_mRange, sat_mEnum, sat_mZip, sat_eLc, sat_eLenSet, sat_eDic, sat_evalP, sat_evalP0, sat_eFld, sat_sFldS, sat_eMk, sat_init, List.getElem?_cons_zero, List.getElem?_cons_succ, List.map_cons, List.map_nil, List.length_cons, List.length_nil, List.replicate, List.nil_append, List.cons_append, List.append_nil, List.set_cons_zero, List.set_cons_succ, asBl, Nat.sub_self, Nat.reduceSub, Nat.reduceAdd, if_true, if_false, Bool.false_eq_true, Bool.not_true, Bool.not_false, decide_eq_true_eq, gc, V.c.len, mRng1_eq (show (0 : Int) ≤ ((C.length : Nat) : Int) by omega) (show ((C.length : Nat) : Int) < 1000000 by omega)]
  refine sat_forR (I := fun i ρ h' => h' = h ∧ 0 ≤ i ∧ (∃ x3 x4 x5 x6 x7, ρ = [some (.ref n), x1, x2, x3, x4, x5, x6, x7]) ∧ ∀ (k : Nat) row, (k : Int) < i → C[k]? = some row → ∀ x ∈ row, ¬ gS A k x) (hi := ((C.length : Nat) : Int)) (fun _ _ _ _ => okG_nil) ?_ ?_ _ 0 _ _ (by omega) ⟨rfl, by omega, ⟨_, _, _, _, _, rfl⟩, by omega⟩
  · rintro i ρ h' hi ⟨rfl, i0, ⟨x3, x4, x5, x6, x7, rfl⟩, I⟩
    have ea : C[i.toNat]? = some (C[i.toNat]'(by omega)) := List.getElem?_eq_getElem _
    generalize C[i.toNat]'(by omega) = row at ea
    obtain ⟨r, r1, r2, _, r4⟩ := V.c.row i0 ea
    have el : A[(i + 1).toNat]? = some (A[(i + 1).toNat]'(by omega)) := List.getElem?_eq_getElem _
    generalize A[(i + 1).toNat]'(by omega) = lat at el
    obtain ⟨l, l1, l2, l3, l4⟩ := V.a.row (i := i + 1) (by omega) el
    have el' : A[i.toNat + 1]? = some lat := by rw [← el]; congr 1; omega
    simp only [setR, List.set_cons_succ, List.set_cons_zero]
    unfold m_law_first_bad_9 m_law_first_bad_7
    simp only [sat_ok, sat_bind, sat_pr, sat_opt, sat_eC, sat_eVar, sat_eBin, sat_eUn, sat_mBl, sat_mTru, sat_mNot, sat_mAnd, sat_mOr, sat_eAnd, sat_eOr, sat_eNot, sat_eIf, sat_eChain, sat_aNil, sat_aCons, sat_ofLen, sat_eTup, sat_eLst, sat_eBlt, sat_eMth, sat_oNone, sat_oSome, sat_eSl, sat_eFn, sat_eFnK, sat_sNext, sat_sSeq, sat_sEx, sat_sRet, sat_sRetN, sat_sIf, sat_sSet, sat_sPar, sat_sPar3, sat_sStore, sat_sRaise, sat_sFor, sat_mSeq, sat_mRange, sat_mEnum, sat_mZip, sat_eLc, sat_eLenSet, sat_eDic, sat_evalP, sat_evalP0, sat_eFld, sat_sFldS, sat_eMk, sat_init, List.getElem?_cons_zero, List.getElem?_cons_succ, List.map_cons, List.map_nil, List.length_cons, List.length_nil, List.replicate, List.nil_append, List.cons_append, List.append_nil, bindP, bindPs, setR, List.set_cons_zero, List.set_cons_succ, asBl, Nat.sub_self, Nat.reduceSub, Nat.reduceAdd, ga, pAdd_int, l1]
    unfold m_law_first_bad_8
    simp only [sat_ok, sat_bind, sat_pr, sat_opt, sat_eC, sat_eVar, sat_eBin, sat_eUn, sat_mBl, sat_mTru, sat_mNot, sat_mAnd, sat_mOr, sat_eAnd, sat_eOr, sat_eNot, sat_eIf, sat_eChain2, sat_aNil, sat_aCons, sat_ofLen, sat_eTup, sat_eLst, sat_eBlt, sat_eMth, sat_oNone, sat_oSome, sat_eSl, sat_eFn, sat_eFnK, sat_sNext, sat_sSeq, sat_sEx, sat_sRet, sat_sRetN, sat_sIf, sat_sSet, sat_sPar, sat_sPar3, sat_sStore, sat_sRaise, sat_sFor, sat_mSeq, sat_mRange, sat_mEnum, sat_mZip, sat_eLc, sat_eLenSet, sat_eDic, sat_evalP, sat_evalP0, sat_eFld, sat_sFldS, sat_eMk, sat_init, List.getElem?_cons_zero, List.getElem?_cons_succ, List.map_cons, List.map_nil, List.length_cons, List.length_nil, List.replicate, List.nil_append, List.cons_append, List.append_nil, List.set_cons_zero, List.set_cons_succ, asBl, Nat.sub_self, Nat.reduceSub, Nat.reduceAdd, if_true, if_false, Bool.false_eq_true, Bool.not_true, Bool.not_false, decide_eq_true_eq, gc, r1, pLenR r2, List.length_map, mRng1_eq (show (0 : Int) ≤ ((row.length : Nat) : Int) by omega) (show ((row.length : Nat) : Int) < 1000000 by omega)]
    refine sat_forR (I := fun j ρ h'' => h'' = h' ∧ 0 ≤ j ∧ (∃ x4 x6 x7, ρ = [some (.ref n), x1, x2, some (.int i), x4, some (.ref l), x6, x7]) ∧ ∀ (k : Nat) y, (k : Int) < j → row[k]? = some y → ¬ gS A i.toNat y) (hi := ((row.length : Nat) : Int)) (fun _ _ _ _ => okG_nil) ?_ ?_ _ 0 _ _ (by omega) ⟨rfl, by omega, ⟨_, _, _, rfl⟩, by omega⟩
    · rintro j ρ h'' hj ⟨rfl, j0, ⟨x4, x6, x7, rfl⟩, J⟩
      obtain ⟨⟨u, v⟩, hx, hxi⟩ := at_map (ps := row) j0 (by omega)
      simp only [setR, List.set_cons_succ, List.set_cons_zero]
      unfold m_law_first_bad_6 m_law_first_bad_4
      simp only [sat_ok, sat_bind, sat_pr, sat_opt, sat_eC, sat_eVar, sat_eBin, sat_eUn, sat_mBl, sat_mTru, sat_mNot, sat_mAnd, sat_mOr, sat_eAnd, sat_eOr, sat_eNot, sat_eIf, sat_eChain, sat_aNil, sat_aCons, sat_ofLen, sat_eTup, sat_eLst, sat_eBlt, sat_eMth, sat_oNone, sat_oSome, sat_eSl, sat_eFn, sat_eFnK, sat_sNext, sat_sSeq, sat_sEx, sat_sRet, sat_sRetN, sat_sIf, sat_sSet, sat_sPar, sat_sPar3, sat_sStore, sat_sRaise, sat_sFor, sat_mSeq, sat_mRange, sat_mEnum, sat_mZip, sat_eLc, sat_eLenSet, sat_eDic, sat_evalP, sat_evalP0, sat_eFld, sat_sFldS, sat_eMk, sat_init, List.getElem?_cons_zero, List.getElem?_cons_succ, List.map_cons, List.map_nil, List.length_cons, List.length_nil, List.replicate, List.nil_append, List.cons_append, List.append_nil, List.set_cons_zero, List.set_cons_succ, asBl, Nat.sub_self, Nat.reduceSub, Nat.reduceAdd, gc, r1, pIxR r2, hxi, Option.map_some]
      rw [show am (u, v) = Dt.tup [.int u, .int v] from rfl]
      simp only [bindP, bindPs, setR, List.set_cons_succ, List.set_cons_zero, List.nil_append, List.cons_append]
      unfold m_law_first_bad_5
      simp only [sat_ok, sat_bind, sat_pr, sat_opt, sat_eC, sat_eVar, sat_eBin, sat_eUn, sat_mBl, sat_mTru, sat_mNot, sat_mAnd, sat_mOr, sat_eAnd, sat_eOr, sat_eNot, sat_eIf, sat_eChain2, sat_aNil, sat_aCons, sat_ofLen, sat_eTup, sat_eLst, sat_eBlt, sat_eMth, sat_oNone, sat_oSome, sat_eSl, sat_eFn, sat_eFnK, sat_sNext, sat_sSeq, sat_sEx, sat_sRet, sat_sRetN, sat_sIf, sat_sSet, sat_sPar, sat_sPar3, sat_sStore, sat_sRaise, sat_sFor, sat_mSeq, sat_mRange, sat_mEnum, sat_mZip, sat_eLc, sat_eLenSet, sat_eDic, sat_evalP, sat_evalP0, sat_eFld, sat_sFldS, sat_eMk, sat_init, List.getElem?_cons_zero, List.getElem?_cons_succ, List.map_cons, List.map_nil, List.length_cons, List.length_nil, List.replicate, List.nil_append, List.cons_append, List.append_nil, List.set_cons_zero, List.set_cons_succ, asBl, Nat.sub_self, Nat.reduceSub, Nat.reduceAdd, if_true, if_false, Bool.false_eq_true, Bool.not_true, Bool.not_false, decide_eq_true_eq, pLenR l2, List.length_map, pLe_int, pLt_int]
      have bad : gS A i.toNat (u, v) → (Dt.tup [.str "BadStep", .int i, .int j] = .tup [.str "BadStep", .int i, .int j]) ∧ h'' = h'' ∧ ∃ a b : Nat, Dt.tup [.str "BadStep", .int i, .int j] = .tup [.str "BadStep", .int a, .int b] ∧ First (gS A) C a b := fun g => ⟨rfl, rfl, i.toNat, j.toNat, by rw [toI i0, toI j0], First.mk2 i0 j0 ea hx g J I⟩
      have nb : ∀ {P : Prop}, (gS A i.toNat (u, v) → False) → (0 ≤ u → u < (lat.length : Nat) → 0 ≤ v → v < (lat.length : Nat) → P) → P := fun ng k => by
        have : ∃ row a b, A[i.toNat + 1]? = some row ∧ 0 ≤ u ∧ 0 ≤ v ∧ row[u.toNat]? = some a ∧ row[v.toNat]? = some b ∧ b.1 * a.2 < a.1 * b.2 := Classical.byContradiction ng
        obtain ⟨row', a, b, e1, u0, v0, e2, e3, _⟩ := this
        rw [el'] at e1; cases e1
        have := (List.getElem?_eq_some_iff.mp e2).1
        have := (List.getElem?_eq_some_iff.mp e3).1
        exact k u0 (by omega) v0 (by omega)
      have fin : gS A i.toNat (u, v) → True ∧ ∃ a b : Nat, Dt.tup [.str "BadStep", .int i, .int j] = .tup [.str "BadStep", .int a, .int b] ∧ First (gS A) C a b := fun g => ⟨trivial, (bad g).2.2⟩
      by_cases hu0 : 0 ≤ u
      · rw [if_pos hu0]
        by_cases hu1 : u < (lat.length : Nat)
        · simp only [decide_eq_true hu1, sat_ok, sat_bind, sat_pr, sat_opt, sat_eC, sat_eVar, sat_eBin, sat_eUn, sat_mBl, sat_mTru, sat_mNot, sat_mAnd, sat_mOr, sat_eAnd, sat_eOr, sat_eNot, sat_eIf, sat_eChain2, sat_aNil, sat_aCons, sat_ofLen, sat_eTup, sat_eLst, sat_eBlt, sat_eMth, sat_oNone, sat_oSome, sat_eSl, sat_eFn, sat_eFnK, sat_sNext, sat_sSeq, sat_sEx, sat_sRet, sat_sRetN, sat_sIf, sat_sSet, sat_sPar, sat_sPar3, sat_sStore, sat_sRaise, sat_sFor, sat_mSeq, sat_mRange, sat_mEnum, sat_mZip, sat_eLc, sat_eLenSet, sat_eDic, sat_evalP, sat_evalP0, sat_eFld, sat_sFldS, sat_eMk, sat_init, List.getElem?_cons_zero, List.getElem?_cons_succ, List.map_cons, List.map_nil, List.length_cons, List.length_nil, List.replicate, List.nil_append, List.cons_append, List.append_nil, List.set_cons_zero, List.set_cons_succ, asBl, Nat.sub_self, Nat.reduceSub, Nat.reduceAdd, if_true, if_false, Bool.false_eq_true, Bool.not_true, Bool.not_false, decide_eq_true_eq]
          by_cases hv0 : 0 ≤ v
          · rw [if_pos hv0]
            by_cases hv1 : v < (lat.length : Nat)
            · simp only [decide_eq_true hv1, sat_ok, sat_bind, sat_pr, sat_opt, sat_eC, sat_eVar, sat_eBin, sat_eUn, sat_mBl, sat_mTru, sat_mNot, sat_mAnd, sat_mOr, sat_eAnd, sat_eOr, sat_eNot, sat_eIf, sat_eChain2, sat_aNil, sat_aCons, sat_ofLen, sat_eTup, sat_eLst, sat_eBlt, sat_eMth, sat_oNone, sat_oSome, sat_eSl, sat_eFn, sat_eFnK, sat_sNext, sat_sSeq, sat_sEx, sat_sRet, sat_sRetN, sat_sIf, sat_sSet, sat_sPar, sat_sPar3, sat_sStore, sat_sRaise, sat_sFor, sat_mSeq, sat_mRange, sat_mEnum, sat_mZip, sat_eLc, sat_eLenSet, sat_eDic, sat_evalP, sat_evalP0, sat_eFld, sat_sFldS, sat_eMk, sat_init, List.getElem?_cons_zero, List.getElem?_cons_succ, List.map_cons, List.map_nil, List.length_cons, List.length_nil, List.replicate, List.nil_append, List.cons_append, List.append_nil, List.set_cons_zero, List.set_cons_succ, asBl, Nat.sub_self, Nat.reduceSub, Nat.reduceAdd, if_true, if_false, Bool.false_eq_true, Bool.not_true, Bool.not_false, decide_eq_true_eq]
              obtain ⟨hi', ehi, ahi⟩ := at_map (ps := lat) hu0 hu1
              obtain ⟨lo, elo, alo⟩ := at_map (ps := lat) hv0 hv1
              simp only [pIxR l2, ahi, alo, Option.map_some, sat_ok, sat_bind, sat_pr, sat_opt, sat_eC, sat_eVar, sat_eBin, sat_eUn, sat_mBl, sat_mTru, sat_mNot, sat_mAnd, sat_mOr, sat_eAnd, sat_eOr, sat_eNot, sat_eIf, sat_eChain2, sat_aNil, sat_aCons, sat_ofLen, sat_eTup, sat_eLst, sat_eBlt, sat_eMth, sat_oNone, sat_oSome, sat_eSl, sat_eFn, sat_eFnK, sat_sNext, sat_sSeq, sat_sEx, sat_sRet, sat_sRetN, sat_sIf, sat_sSet, sat_sPar, sat_sPar3, sat_sStore, sat_sRaise, sat_sFor, sat_mSeq, sat_mRange, sat_mEnum, sat_mZip, sat_eLc, sat_eLenSet, sat_eDic, sat_evalP, sat_evalP0, sat_eFld, sat_sFldS, sat_eMk, sat_init, List.getElem?_cons_zero, List.getElem?_cons_succ, List.map_cons, List.map_nil, List.length_cons, List.length_nil, List.replicate, List.nil_append, List.cons_append, List.append_nil, List.set_cons_zero, List.set_cons_succ, asBl, Nat.sub_self, Nat.reduceSub, Nat.reduceAdd, if_true, if_false, Bool.false_eq_true, Bool.not_true, Bool.not_false, decide_eq_true_eq, under_eq (l3 lo (List.mem_of_getElem? elo)) (l3 hi' (List.mem_of_getElem? ehi)), tru]
              by_cases hg : lo.1 * hi'.2 < hi'.1 * lo.2
              · simp only [decide_eq_true hg, sat_ok, sat_bind, sat_pr, sat_opt, sat_eC, sat_eVar, sat_eBin, sat_eUn, sat_mBl, sat_mTru, sat_mNot, sat_mAnd, sat_mOr, sat_eAnd, sat_eOr, sat_eNot, sat_eIf, sat_eChain2, sat_aNil, sat_aCons, sat_ofLen, sat_eTup, sat_eLst, sat_eBlt, sat_eMth, sat_oNone, sat_oSome, sat_eSl, sat_eFn, sat_eFnK, sat_sNext, sat_sSeq, sat_sEx, sat_sRet, sat_sRetN, sat_sIf, sat_sSet, sat_sPar, sat_sPar3, sat_sStore, sat_sRaise, sat_sFor, sat_mSeq, sat_mRange, sat_mEnum, sat_mZip, sat_eLc, sat_eLenSet, sat_eDic, sat_evalP, sat_evalP0, sat_eFld, sat_sFldS, sat_eMk, sat_init, List.getElem?_cons_zero, List.getElem?_cons_succ, List.map_cons, List.map_nil, List.length_cons, List.length_nil, List.replicate, List.nil_append, List.cons_append, List.append_nil, List.set_cons_zero, List.set_cons_succ, asBl, Nat.sub_self, Nat.reduceSub, Nat.reduceAdd, if_true, if_false, Bool.false_eq_true, Bool.not_true, Bool.not_false, decide_eq_true_eq]
                exact ⟨trivial, by omega, ⟨_, _, _, rfl⟩, nxt (g := gS A) j0 hx (fun g => g ⟨lat, hi', lo, el', hu0, hv0, ehi, elo, hg⟩) J⟩
              · simp only [decide_eq_false hg, sat_ok, sat_bind, sat_pr, sat_opt, sat_eC, sat_eVar, sat_eBin, sat_eUn, sat_mBl, sat_mTru, sat_mNot, sat_mAnd, sat_mOr, sat_eAnd, sat_eOr, sat_eNot, sat_eIf, sat_eChain2, sat_aNil, sat_aCons, sat_ofLen, sat_eTup, sat_eLst, sat_eBlt, sat_eMth, sat_oNone, sat_oSome, sat_eSl, sat_eFn, sat_eFnK, sat_sNext, sat_sSeq, sat_sEx, sat_sRet, sat_sRetN, sat_sIf, sat_sSet, sat_sPar, sat_sPar3, sat_sStore, sat_sRaise, sat_sFor, sat_mSeq, sat_mRange, sat_mEnum, sat_mZip, sat_eLc, sat_eLenSet, sat_eDic, sat_evalP, sat_evalP0, sat_eFld, sat_sFldS, sat_eMk, sat_init, List.getElem?_cons_zero, List.getElem?_cons_succ, List.map_cons, List.map_nil, List.length_cons, List.length_nil, List.replicate, List.nil_append, List.cons_append, List.append_nil, List.set_cons_zero, List.set_cons_succ, asBl, Nat.sub_self, Nat.reduceSub, Nat.reduceAdd, if_true, if_false, Bool.false_eq_true, Bool.not_true, Bool.not_false, decide_eq_true_eq, sz, Nat.reduceLeDiff]
                refine fin fun ⟨row', a, b, e1, _, _, e2, e3, e4⟩ => hg ?_
                rw [el'] at e1; cases e1
                rw [ehi] at e2; rw [elo] at e3; cases e2; cases e3; exact e4
            · simp only [decide_eq_false hv1, sat_ok, sat_bind, sat_pr, sat_opt, sat_eC, sat_eVar, sat_eBin, sat_eUn, sat_mBl, sat_mTru, sat_mNot, sat_mAnd, sat_mOr, sat_eAnd, sat_eOr, sat_eNot, sat_eIf, sat_eChain2, sat_aNil, sat_aCons, sat_ofLen, sat_eTup, sat_eLst, sat_eBlt, sat_eMth, sat_oNone, sat_oSome, sat_eSl, sat_eFn, sat_eFnK, sat_sNext, sat_sSeq, sat_sEx, sat_sRet, sat_sRetN, sat_sIf, sat_sSet, sat_sPar, sat_sPar3, sat_sStore, sat_sRaise, sat_sFor, sat_mSeq, sat_mRange, sat_mEnum, sat_mZip, sat_eLc, sat_eLenSet, sat_eDic, sat_evalP, sat_evalP0, sat_eFld, sat_sFldS, sat_eMk, sat_init, List.getElem?_cons_zero, List.getElem?_cons_succ, List.map_cons, List.map_nil, List.length_cons, List.length_nil, List.replicate, List.nil_append, List.cons_append, List.append_nil, List.set_cons_zero, List.set_cons_succ, asBl, Nat.sub_self, Nat.reduceSub, Nat.reduceAdd, if_true, if_false, Bool.false_eq_true, Bool.not_true, Bool.not_false, decide_eq_true_eq, sz, Nat.reduceLeDiff]
              refine fin fun ⟨row', a, b, e1, _, _, e2, e3, e4⟩ => hv1 ?_
              rw [el'] at e1; cases e1
              have := (List.getElem?_eq_some_iff.mp e3).1
              show v < _
              have h2 : v.toNat < lat.length := this
              omega
          · rw [if_neg hv0]
            simp only [sz, Nat.reduceLeDiff, if_true]
            exact fin fun ⟨row', a, b, e1, _, v0, e2, e3, e4⟩ => hv0 v0
        · simp only [decide_eq_false hu1, sat_ok, sat_bind, sat_pr, sat_opt, sat_eC, sat_eVar, sat_eBin, sat_eUn, sat_mBl, sat_mTru, sat_mNot, sat_mAnd, sat_mOr, sat_eAnd, sat_eOr, sat_eNot, sat_eIf, sat_eChain2, sat_aNil, sat_aCons, sat_ofLen, sat_eTup, sat_eLst, sat_eBlt, sat_eMth, sat_oNone, sat_oSome, sat_eSl, sat_eFn, sat_eFnK, sat_sNext, sat_sSeq, sat_sEx, sat_sRet, sat_sRetN, sat_sIf, sat_sSet, sat_sPar, sat_sPar3, sat_sStore, sat_sRaise, sat_sFor, sat_mSeq, sat_mRange, sat_mEnum, sat_mZip, sat_eLc, sat_eLenSet, sat_eDic, sat_evalP, sat_evalP0, sat_eFld, sat_sFldS, sat_eMk, sat_init, List.getElem?_cons_zero, List.getElem?_cons_succ, List.map_cons, List.map_nil, List.length_cons, List.length_nil, List.replicate, List.nil_append, List.cons_append, List.append_nil, List.set_cons_zero, List.set_cons_succ, asBl, Nat.sub_self, Nat.reduceSub, Nat.reduceAdd, if_true, if_false, Bool.false_eq_true, Bool.not_true, Bool.not_false, decide_eq_true_eq, sz, Nat.reduceLeDiff]
          refine fin fun ⟨row', a, b, e1, _, _, e2, e3, e4⟩ => hu1 ?_
          rw [el'] at e1; cases e1
          have h2 : u.toNat < lat.length := (List.getElem?_eq_some_iff.mp e2).1
          omega
      · rw [if_neg hu0]
        simp only [sz, Nat.reduceLeDiff, if_true]
        exact fin fun ⟨row', a, b, e1, u0, v0, e2, e3, e4⟩ => hu0 u0
    · rintro ρ h'' ⟨rfl, _, ⟨x4, x6, x7, rfl⟩, J⟩
      exact ⟨rfl, by omega, ⟨_, _, _, _, _, rfl⟩, nxtR i0 ea (fun k y e => J k y (by have := (List.getElem?_eq_some_iff.mp e).1; omega) e) I⟩
  · rintro ρ h' ⟨rfl, _, e, I⟩
    exact ⟨rfl, fun k row e => I k row (by have := (List.getElem?_eq_some_iff.mp e).1; omega) e⟩
theorem first_bad_spec {h : CH} {n p q s : Nat} {A B C : List (List Q2)} (V : VW h n p q s A B C) : (F_law_first_bad [.ref n] h).sat (fun d h' => Fr [] h h' ∧ Due A B C d) noE := by
  refine sat_run rfl ?_
  unfold m_law_first_bad m_law_first_bad_10
  simp only [sat_ok, sat_bind, sat_pr, sat_opt, sat_eC, sat_eVar, sat_eBin, sat_eUn, sat_mBl, sat_mTru, sat_mNot, sat_mAnd, sat_mOr, sat_eAnd, sat_eOr, sat_eNot, sat_eIf, sat_eChain2, sat_aNil, sat_aCons, sat_ofLen, sat_eTup, sat_eLst, sat_eBlt, sat_eMth, sat_oNone, sat_oSome, sat_eSl, sat_eFn, sat_eFnK, sat_sNext, sat_sSeq, sat_sEx, sat_sRet, sat_sRetN, sat_sIf, sat_sSet, sat_sPar, sat_sPar3, sat_sStore, sat_sRaise, sat_sFor, sat_mSeq, sat_mRange, sat_mEnum, sat_mZip, sat_eLc, sat_eLenSet, sat_eDic, sat_evalP, sat_evalP0, sat_eFld, sat_sFldS, sat_eMk, sat_init, List.getElem?_cons_zero, List.getElem?_cons_succ, List.map_cons, List.map_nil, List.length_cons, List.length_nil, List.replicate, List.nil_append, List.cons_append, List.append_nil, List.set_cons_zero, List.set_cons_succ, asBl, Nat.sub_self, Nat.reduceSub, Nat.reduceAdd, if_true, if_false, Bool.false_eq_true, Bool.not_true, Bool.not_false, decide_eq_true_eq]
  refine (shape_good_spec V).mono ?_ fun _ _ _ z => z
  rintro d h' ⟨rfl, k, rfl, hk⟩
  simp only [sat_ok, sat_bind, sat_pr, sat_opt, sat_eC, sat_eVar, sat_eBin, sat_eUn, sat_mBl, sat_mTru, sat_mNot, sat_mAnd, sat_mOr, sat_eAnd, sat_eOr, sat_eNot, sat_eIf, sat_eChain2, sat_aNil, sat_aCons, sat_ofLen, sat_eTup, sat_eLst, sat_eBlt, sat_eMth, sat_oNone, sat_oSome, sat_eSl, sat_eFn, sat_eFnK, sat_sNext, sat_sSeq, sat_sEx, sat_sRet, sat_sRetN, sat_sIf, sat_sSet, sat_sPar, sat_sPar3, sat_sStore, sat_sRaise, sat_sFor, sat_mSeq, sat_mRange, sat_mEnum, sat_mZip, sat_eLc, sat_eLenSet, sat_eDic, sat_evalP, sat_evalP0, sat_eFld, sat_sFldS, sat_eMk, sat_init, List.getElem?_cons_zero, List.getElem?_cons_succ, List.map_cons, List.map_nil, List.length_cons, List.length_nil, List.replicate, List.nil_append, List.cons_append, List.append_nil, List.set_cons_zero, List.set_cons_succ, asBl, Nat.sub_self, Nat.reduceSub, Nat.reduceAdd, if_true, if_false, Bool.false_eq_true, Bool.not_true, Bool.not_false, decide_eq_true_eq, tru]
  cases k with
  | false =>
    simp only [sat_ok, sat_bind, sat_pr, sat_opt, sat_eC, sat_eVar, sat_eBin, sat_eUn, sat_mBl, sat_mTru, sat_mNot, sat_mAnd, sat_mOr, sat_eAnd, sat_eOr, sat_eNot, sat_eIf, sat_eChain2, sat_aNil, sat_aCons, sat_ofLen, sat_eTup, sat_eLst, sat_eBlt, sat_eMth, sat_oNone, sat_oSome, sat_eSl, sat_eFn, sat_eFnK, sat_sNext, sat_sSeq, sat_sEx, sat_sRet, sat_sRetN, sat_sIf, sat_sSet, sat_sPar, sat_sPar3, sat_sStore, sat_sRaise, sat_sFor, sat_mSeq, sat_mRange, sat_mEnum, sat_mZip, sat_eLc, sat_eLenSet, sat_eDic, sat_evalP, sat_evalP0, sat_eFld, sat_sFldS, sat_eMk, sat_init, List.getElem?_cons_zero, List.getElem?_cons_succ, List.map_cons, List.map_nil, List.length_cons, List.length_nil, List.replicate, List.nil_append, List.cons_append, List.append_nil, List.set_cons_zero, List.set_cons_succ, asBl, Nat.sub_self, Nat.reduceSub, Nat.reduceAdd, if_true, if_false, Bool.false_eq_true, Bool.not_true, Bool.not_false, decide_eq_true_eq, sz, Nat.reduceLeDiff]
    exact ⟨.rf, .shape fun S => by have := hk.mpr S; cases this⟩
  | true =>
    have S := hk.mp rfl
    have f1 : Fr [] h' (h' ++ [Ce.lst [.tup [.str "prices", .str "BadPrice"], .tup [.str "rates", .str "BadRate"]]]) := .app
    have V1 := V.fr f1
    obtain ⟨ga, gb, gc⟩ := V1.gets
    unfold m_law_first_bad_11
    simp only [sat_ok, sat_bind, sat_pr, sat_opt, sat_eC, sat_eVar, sat_eBin, sat_eUn, sat_mBl, sat_mTru, sat_mNot, sat_mAnd, sat_mOr, sat_eAnd, sat_eOr, sat_eNot, sat_eIf, sat_eChain2, sat_aNil, sat_aCons, sat_ofLen, sat_eTup, sat_eLst, sat_eBlt, sat_eMth, sat_oNone, sat_oSome, sat_eSl, sat_eFn, sat_eFnK, sat_sNext, sat_sSeq, sat_sEx, sat_sRet, sat_sRetN, sat_sIf, sat_sSet, sat_sPar, sat_sPar3, sat_sStore, sat_sRaise, sat_sFor, sat_mSeq, sat_mRange, sat_mEnum, sat_mZip, sat_eLc, sat_eLenSet, sat_eDic, sat_evalP, sat_evalP0, sat_eFld, sat_sFldS, sat_eMk, sat_init, List.getElem?_cons_zero, List.getElem?_cons_succ, List.map_cons, List.map_nil, List.length_cons, List.length_nil, List.replicate, List.nil_append, List.cons_append, List.append_nil, List.set_cons_zero, List.set_cons_succ, asBl, Nat.sub_self, Nat.reduceSub, Nat.reduceAdd, if_true, if_false, Bool.false_eq_true, Bool.not_true, Bool.not_false, decide_eq_true_eq, sz, Nat.reduceLeDiff, seqG, lstAt_new]
    refine sat_forL (I := fun l ρ h2 => h2 = h' ++ [Ce.lst [.tup [.str "prices", .str "BadPrice"], .tup [.str "rates", .str "BadRate"]]] ∧ (∃ x1 x2 x3 x4, ρ = [some (.ref n), x1, x2, x3, x4, none, none, none]) ∧ (l = [.tup [.str "prices", .str "BadPrice"], .tup [.str "rates", .str "BadRate"]] ∨ l = [.tup [.str "rates", .str "BadRate"]] ∧ NoneOf gP A ∨ l = [] ∧ NoneOf gP A ∧ NoneOf gP B)) ?_ ?_ ?_ _ _ _ ⟨rfl, ⟨_, _, _, _, rfl⟩, .inl rfl⟩
    · rintro l ρ h2 ⟨rfl, _⟩
      exact okG_lst (lstAt_get lstAt_new)
    · rintro d r ρ h2 ⟨rfl, ⟨x1, x2, x3, x4, rfl⟩, e | ⟨e, nA⟩ | ⟨e, _⟩⟩
      · obtain ⟨rfl, rfl⟩ := List.cons.inj e
        refine ⟨_, rfl, ?_⟩
        refine (firstM_spec (x5 := none) (x6 := none) (x7 := none) ga V1.a).mono ?_ ?_ fun _ _ _ z => z
        · rintro ρ h3 ⟨rfl, ⟨x3, x4, rfl⟩, nA⟩
          exact ⟨rfl, ⟨_, _, _, _, rfl⟩, .inr (.inl ⟨rfl, nA⟩)⟩
        · rintro d h3 ⟨rfl, i, j, rfl, F⟩
          exact ⟨f1, .price S F⟩
      · obtain ⟨rfl, rfl⟩ := List.cons.inj e
        refine ⟨_, rfl, ?_⟩
        refine (firstM_spec (x5 := none) (x6 := none) (x7 := none) gb V1.b).mono ?_ ?_ fun _ _ _ z => z
        · rintro ρ h3 ⟨rfl, ⟨x3, x4, rfl⟩, nB⟩
          exact ⟨rfl, ⟨_, _, _, _, rfl⟩, .inr (.inr ⟨rfl, nA, nB⟩)⟩
        · rintro d h3 ⟨rfl, i, j, rfl, F⟩
          exact ⟨f1, .rate S nA F⟩
      · cases e
    · rintro ρ h2 ⟨rfl, ⟨x1, x2, x3, x4, rfl⟩, e | ⟨e, _⟩ | ⟨_, nA, nB⟩⟩
      · cases e
      · cases e
      · refine (firstS_spec V1 S).mono ?_ ?_ fun _ _ _ z => z
        · rintro ρ h3 ⟨rfl, nC⟩
          exact ⟨f1, .good S nA nB nC⟩
        · rintro d h3 ⟨rfl, i, j, rfl, F⟩
          exact ⟨f1, .step S nA nB F⟩

end Cl
namespace Cl
open PySem PySem.Spec PyProof.Rows L2
theorem sat_forE {N : Rho → CH → Prop} {Rt : Dt → CH → Prop} {E : ExP} {pt : Pat} {b : MS} {gs : Gd} (I : Int → Rho → CH → Prop) (ds : List Dt) (hg : ∀ j ρ h, I j ρ h → okG gs h = true)
    (hs : ∀ (j : Int) d ρ h, 0 ≤ j → ds[j.toNat]? = some d → I j ρ h → ∃ l, bindP pt (.tup [.int j, d]) = some l ∧ (b (setR ρ l) h).sat (I (j + 1)) Rt E) (he : ∀ ρ h, I (ds.length : Nat) ρ h → N ρ h) (ρ : Rho) (h : CH) (i : I 0 ρ h) : (forL pt b gs (enumF 0 ds) ρ h).sat N Rt E := by
  refine sat_forL (I := fun l ρ h => ∃ k : Nat, l = enumF k (ds.drop k) ∧ k ≤ ds.length ∧ I (k : Nat) ρ h) (fun l ρ h ⟨k, _, _, z⟩ => hg _ _ _ z) ?_ ?_ _ _ _ ⟨0, by rw [List.drop_zero], by omega, i⟩
  · rintro d r ρ h ⟨k, e, hk, z⟩
    cases q : ds.drop k with
    | nil => rw [q] at e; cases e
    | cons x xs =>
      rw [q] at e
      have e : d :: r = .tup [.int (k : Nat), x] :: enumF (k + 1) xs := e
      obtain ⟨rfl, rfl⟩ := List.cons.inj e
      have hx : ds[k]? = some x := by
        have := congrArg (fun l => l[0]?) q
        simpa using this
      have hk2 := (List.getElem?_eq_some_iff.mp hx).1
      have hx2 : xs = ds.drop (k + 1) := by
        have := congrArg List.tail q
        simpa using this.symm
      obtain ⟨l, e1, e2⟩ := hs (k : Nat) x ρ h (by omega) (by simpa using hx) z
      refine ⟨l, e1, e2.mono (fun ρ2 h2 z2 => ⟨k + 1, by rw [hx2], by omega, ?_⟩) (fun _ _ z => z) fun _ _ _ z => z⟩
      have : ((k + 1 : Nat) : Int) = (k : Nat) + 1 := by omega
      rw [this]; exact z2
  · rintro ρ h ⟨k, e, hk, z⟩
    cases q : ds.drop k with
    | nil =>
      have : ds.length ≤ k := by
        have := congrArg List.length q
        simp at this
        omega
      have : k = ds.length := by omega
      subst this
      exact he _ _ z
    | cons x xs => rw [q] at e; cases e
theorem mEnum_lst {n : Nat} {h : CH} {ds : List Dt} (e : lstAt h n = some ds) : mEnum1 [.ref n] h = some (enumF 0 ds, [(n, .lst ds)]) := by
  show (match lstAt h n with
    | some ds => some (ds, [(n, Ce.lst ds)])
    | none => none).map (fun x : List Dt × Gd => (enumF 0 x.1, x.2)) = _
  rw [e]; rfl
theorem View.en {h : CH} {p : Nat} {L : List (List Q2)} (v : View h p L) : ∃ P : List Nat, lstAt h p = some (P.map .ref) ∧ P.length = L.length ∧ ∀ (j : Int) d, 0 ≤ j → (P.map Dt.ref)[j.toNat]? = some d → ∃ r row, d = .ref r ∧ L[j.toNat]? = some row ∧ lstAt h r = some (row.map am) ∧ (∀ x ∈ row, Sm2 x) ∧ row.length ≤ 1000 := by
  obtain ⟨⟨P, e1, rr⟩, s, _, k⟩ := v
  refine ⟨P, e1, rr.len, fun j d j0 e => ?_⟩
  rw [List.getElem?_map] at e
  cases q : P[j.toNat]? with
  | none => rw [q] at e; cases e
  | some r =>
    rw [q] at e; cases e
    obtain ⟨row, e2, e3, _⟩ := rr.get q
    exact ⟨r, row, rfl, e2, e3, s row (List.mem_of_getElem? e2), k row (List.mem_of_getElem? e2)⟩
theorem look_shape_spec {h : CH} {n p q s : Nat} {A B C : List (List Q2)} (V : VW h n p q s A B C) : (F_look_shape [.ref p, .ref q, .ref s] h).sat (fun d h' => h' = h ∧ Shape A B C) (fun c fs h' => h' = h ∧ c = "BadShape" ∧ fs = xFlds "BadShape" [] [] ∧ ¬ Shape A B C) := by
  have la := V.a.len
  have lb := V.b.len
  have lc := V.c.len
  refine sat_run rfl ?_
  unfold m_look_shape m_look_shape_4
  simp only [sat_ok, sat_bind, sat_pr, sat_opt, sat_eC, sat_eVar, sat_eBin, sat_eUn, sat_mBl, sat_mTru, sat_mNot, sat_mAnd, sat_mOr, sat_eAnd, sat_eOr, sat_eNot, sat_eIf, sat_eChain2, sat_aNil, sat_aCons, sat_ofLen, sat_eTup, sat_eLst, sat_eBlt, sat_eMth, sat_oNone, sat_oSome, sat_eSl, sat_eFn, sat_eFnK, sat_sNext, sat_sSeq, sat_sEx, sat_sRet, sat_sRetN, sat_sIf, sat_sSet, sat_sPar, sat_sPar3, sat_sStore, sat_sRaise, sat_sFor, sat_mSeq, sat_mRange, sat_mEnum, sat_mZip, sat_eLc, sat_eLenSet, sat_eDic, sat_evalP, sat_evalP0, sat_eFld, sat_sFldS, sat_eMk, sat_init, List.getElem?_cons_zero, List.getElem?_cons_succ, List.map_cons, List.map_nil, List.length_cons, List.length_nil, List.replicate, List.nil_append, List.cons_append, List.append_nil, List.set_cons_zero, List.set_cons_succ, asBl, Nat.sub_self, Nat.reduceSub, Nat.reduceAdd, if_true, if_false, Bool.false_eq_true, Bool.not_true, Bool.not_false, decide_eq_true_eq, la, lb, lc, pLe_int, pSub_int, pEq_int]
  by_cases hS : 1 ≤ A.length ∧ A.length ≤ 7 ∧ B.length = A.length - 1 ∧ C.length = A.length - 1
  · obtain ⟨h1, h2, h3, h4⟩ := hS
    have e3 : (((B.length : Nat) : Int) == ((C.length : Nat) : Int)) = true := by rw [beq_iff_eq]; omega
    have e4 : (((C.length : Nat) : Int) == ((A.length : Nat) : Int) - 1) = true := by rw [beq_iff_eq]; omega
    rw [if_pos (show (1 : Int) ≤ ((A.length : Nat) : Int) by omega)]
    simp only [sat_ok, sat_bind, sat_pr, sat_opt, sat_eC, sat_eVar, sat_eBin, sat_eUn, sat_mBl, sat_mTru, sat_mNot, sat_mAnd, sat_mOr, sat_eAnd, sat_eOr, sat_eNot, sat_eIf, sat_eChain2, sat_aNil, sat_aCons, sat_ofLen, sat_eTup, sat_eLst, sat_eBlt, sat_eMth, sat_oNone, sat_oSome, sat_eSl, sat_eFn, sat_eFnK, sat_sNext, sat_sSeq, sat_sEx, sat_sRet, sat_sRetN, sat_sIf, sat_sSet, sat_sPar, sat_sPar3, sat_sStore, sat_sRaise, sat_sFor, sat_mSeq, sat_mRange, sat_mEnum, sat_mZip, sat_eLc, sat_eLenSet, sat_eDic, sat_evalP, sat_evalP0, sat_eFld, sat_sFldS, sat_eMk, sat_init, List.getElem?_cons_zero, List.getElem?_cons_succ, List.map_cons, List.map_nil, List.length_cons, List.length_nil, List.replicate, List.nil_append, List.cons_append, List.append_nil, List.set_cons_zero, List.set_cons_succ, asBl, Nat.sub_self, Nat.reduceSub, Nat.reduceAdd, if_true, if_false, Bool.false_eq_true, Bool.not_true, Bool.not_false, decide_eq_true_eq, decide_eq_true (show ((A.length : Nat) : Int) ≤ 7 by omega), e3, e4]
    unfold m_look_shape_5
    obtain ⟨P, e, eP, en⟩ := V.a.en
    simp only [sat_ok, sat_bind, sat_pr, sat_opt, sat_eC, sat_eVar, sat_eBin, sat_eUn, sat_mBl, sat_mTru, sat_mNot, sat_mAnd, sat_mOr, sat_eAnd, sat_eOr, sat_eNot, sat_eIf, sat_eChain2, sat_aNil, sat_aCons, sat_ofLen, sat_eTup, sat_eLst, sat_eBlt, sat_eMth, sat_oNone, sat_oSome, sat_eSl, sat_eFn, sat_eFnK, sat_sNext, sat_sSeq, sat_sEx, sat_sRet, sat_sRetN, sat_sIf, sat_sSet, sat_sPar, sat_sPar3, sat_sStore, sat_sRaise, sat_sFor, sat_mSeq, sat_mRange, sat_mEnum, sat_mZip, sat_eLc, sat_eLenSet, sat_eDic, sat_evalP, sat_evalP0, sat_eFld, sat_sFldS, sat_eMk, sat_init, List.getElem?_cons_zero, List.getElem?_cons_succ, List.map_cons, List.map_nil, List.length_cons, List.length_nil, List.replicate, List.nil_append, List.cons_append, List.append_nil, List.set_cons_zero, List.set_cons_succ, asBl, Nat.sub_self, Nat.reduceSub, Nat.reduceAdd, if_true, if_false, Bool.false_eq_true, Bool.not_true, Bool.not_false, decide_eq_true_eq, mEnum_lst e]
    refine sat_forE (I := fun j ρ h' => h' = h ∧ 0 ≤ j ∧ (∃ x y, ρ = [some (.ref p), some (.ref q), some (.ref s), x, y]) ∧ ∀ (i : Nat) row, (i : Int) < j → A[i]? = some row → RowGood B C i row) _ ?_ ?_ ?_ _ _ ⟨rfl, by omega, ⟨_, _, rfl⟩, by omega⟩
    · rintro j ρ h' ⟨rfl, _⟩
      exact okG_lst (lstAt_get e)
    · rintro j d ρ h' j0 hd ⟨rfl, _, ⟨x, y, rfl⟩, I⟩
      obtain ⟨r, row, rfl, ea, r2, _, r4⟩ := en j d j0 hd
      refine ⟨_, rfl, ?_⟩
      simp only [setR, List.set_cons_succ, List.set_cons_zero, List.nil_append, List.cons_append]
      unfold m_look_shape_3 m_look_shape_1
      have no : ¬ RowGood B C j.toNat row → ¬ Shape A B C := fun z S => z (S.r _ row ea)
      have jz : (j == 0) = decide (j.toNat = 0) := by
        by_cases hz : j = 0
        · subst hz; rfl
        · rw [beq_eq_false_iff_ne.mpr hz, decide_eq_false (by omega)]
      simp only [sat_ok, sat_bind, sat_pr, sat_opt, sat_eC, sat_eVar, sat_eBin, sat_eUn, sat_mBl, sat_mTru, sat_mNot, sat_mAnd, sat_mOr, sat_eAnd, sat_eOr, sat_eNot, sat_eIf, sat_eChain2, sat_aNil, sat_aCons, sat_ofLen, sat_eTup, sat_eLst, sat_eBlt, sat_eMth, sat_oNone, sat_oSome, sat_eSl, sat_eFn, sat_eFnK, sat_sNext, sat_sSeq, sat_sEx, sat_sRet, sat_sRetN, sat_sIf, sat_sSet, sat_sPar, sat_sPar3, sat_sStore, sat_sRaise, sat_sFor, sat_mSeq, sat_mRange, sat_mEnum, sat_mZip, sat_eLc, sat_eLenSet, sat_eDic, sat_evalP, sat_evalP0, sat_eFld, sat_sFldS, sat_eMk, sat_init, List.getElem?_cons_zero, List.getElem?_cons_succ, List.map_cons, List.map_nil, List.length_cons, List.length_nil, List.replicate, List.nil_append, List.cons_append, List.append_nil, List.set_cons_zero, List.set_cons_succ, asBl, Nat.sub_self, Nat.reduceSub, Nat.reduceAdd, if_true, if_false, Bool.false_eq_true, Bool.not_true, Bool.not_false, decide_eq_true_eq, pLenR r2, pLe_int, pEq_int, List.length_map, jz]
      have goal2 : (1 ≤ row.length ∧ row.length ≤ (if j.toNat = 0 then 1 else 8)) → (m_look_shape_2 [some (.ref p), some (.ref q), some (.ref s), some (.int j), some (.ref r)] h').sat (fun ρ h'' => h'' = h' ∧ 0 ≤ j + 1 ∧ (∃ x y, ρ = [some (.ref p), some (.ref q), some (.ref s), x, y]) ∧ ∀ (i : Nat) row, (i : Int) < j + 1 → A[i]? = some row → RowGood B C i row) (fun _ h'' => h'' = h' ∧ Shape A B C) (fun c fs h'' => h'' = h' ∧ c = "BadShape" ∧ fs = xFlds "BadShape" [] [] ∧ ¬ Shape A B C) := fun g1 => by
        have step : RowGood B C j.toNat row → ∀ (i : Nat) row, (i : Int) < j + 1 → A[i]? = some row → RowGood B C i row := fun g i row' hi e => by
          by_cases hij : (i : Int) < j
          · exact I i row' hij e
          · have : i = j.toNat := by omega
            subst this
            rw [ea] at e; cases e; exact g
        unfold m_look_shape_2
        simp only [sat_ok, sat_bind, sat_pr, sat_opt, sat_eC, sat_eVar, sat_eBin, sat_eUn, sat_mBl, sat_mTru, sat_mNot, sat_mAnd, sat_mOr, sat_eAnd, sat_eOr, sat_eNot, sat_eIf, sat_eChain2, sat_aNil, sat_aCons, sat_ofLen, sat_eTup, sat_eLst, sat_eBlt, sat_eMth, sat_oNone, sat_oSome, sat_eSl, sat_eFn, sat_eFnK, sat_sNext, sat_sSeq, sat_sEx, sat_sRet, sat_sRetN, sat_sIf, sat_sSet, sat_sPar, sat_sPar3, sat_sStore, sat_sRaise, sat_sFor, sat_mSeq, sat_mRange, sat_mEnum, sat_mZip, sat_eLc, sat_eLenSet, sat_eDic, sat_evalP, sat_evalP0, sat_eFld, sat_sFldS, sat_eMk, sat_init, List.getElem?_cons_zero, List.getElem?_cons_succ, List.map_cons, List.map_nil, List.length_cons, List.length_nil, List.replicate, List.nil_append, List.cons_append, List.append_nil, List.set_cons_zero, List.set_cons_succ, asBl, Nat.sub_self, Nat.reduceSub, Nat.reduceAdd, if_true, if_false, Bool.false_eq_true, Bool.not_true, Bool.not_false, decide_eq_true_eq, lb, pLt_int]
        by_cases hb : j < ((B.length : Nat) : Int)
        · rw [if_pos hb]
          have eb : B[j.toNat]? = some (B[j.toNat]'(by omega)) := List.getElem?_eq_getElem _
          generalize B[j.toNat]'(by omega) = rb at eb
          have ec : C[j.toNat]? = some (C[j.toNat]'(by omega)) := List.getElem?_eq_getElem _
          generalize C[j.toNat]'(by omega) = rc at ec
          obtain ⟨r', b1, b2, _, b4⟩ := V.b.row j0 eb
          obtain ⟨r'', c1, c2, _, c4⟩ := V.c.row j0 ec
          simp only [sat_ok, sat_bind, sat_pr, sat_opt, sat_eC, sat_eVar, sat_eBin, sat_eUn, sat_mBl, sat_mTru, sat_mNot, sat_mAnd, sat_mOr, sat_eAnd, sat_eOr, sat_eNot, sat_eIf, sat_eChain2, sat_aNil, sat_aCons, sat_ofLen, sat_eTup, sat_eLst, sat_eBlt, sat_eMth, sat_oNone, sat_oSome, sat_eSl, sat_eFn, sat_eFnK, sat_sNext, sat_sSeq, sat_sEx, sat_sRet, sat_sRetN, sat_sIf, sat_sSet, sat_sPar, sat_sPar3, sat_sStore, sat_sRaise, sat_sFor, sat_mSeq, sat_mRange, sat_mEnum, sat_mZip, sat_eLc, sat_eLenSet, sat_eDic, sat_evalP, sat_evalP0, sat_eFld, sat_sFldS, sat_eMk, sat_init, List.getElem?_cons_zero, List.getElem?_cons_succ, List.map_cons, List.map_nil, List.length_cons, List.length_nil, List.replicate, List.nil_append, List.cons_append, List.append_nil, List.set_cons_zero, List.set_cons_succ, asBl, Nat.sub_self, Nat.reduceSub, Nat.reduceAdd, if_true, if_false, Bool.false_eq_true, Bool.not_true, Bool.not_false, decide_eq_true_eq, b1, pLenR b2, c1, pLenR c2, pLenR r2, pEq_int, List.length_map]
          by_cases k1 : rb.length = rc.length
          · rw [if_pos (by rw [beq_iff_eq]; omega)]
            by_cases k2 : rc.length = row.length
            · have : (((rc.length : Nat) : Int) == ((row.length : Nat) : Int)) = true := by rw [beq_iff_eq]; omega
              simp only [this, sat_ok, sat_bind, sat_pr, sat_opt, sat_eC, sat_eVar, sat_eBin, sat_eUn, sat_mBl, sat_mTru, sat_mNot, sat_mAnd, sat_mOr, sat_eAnd, sat_eOr, sat_eNot, sat_eIf, sat_eChain2, sat_aNil, sat_aCons, sat_ofLen, sat_eTup, sat_eLst, sat_eBlt, sat_eMth, sat_oNone, sat_oSome, sat_eSl, sat_eFn, sat_eFnK, sat_sNext, sat_sSeq, sat_sEx, sat_sRet, sat_sRetN, sat_sIf, sat_sSet, sat_sPar, sat_sPar3, sat_sStore, sat_sRaise, sat_sFor, sat_mSeq, sat_mRange, sat_mEnum, sat_mZip, sat_eLc, sat_eLenSet, sat_eDic, sat_evalP, sat_evalP0, sat_eFld, sat_sFldS, sat_eMk, sat_init, List.getElem?_cons_zero, List.getElem?_cons_succ, List.map_cons, List.map_nil, List.length_cons, List.length_nil, List.replicate, List.nil_append, List.cons_append, List.append_nil, List.set_cons_zero, List.set_cons_succ, asBl, Nat.sub_self, Nat.reduceSub, Nat.reduceAdd, if_true, if_false, Bool.false_eq_true, Bool.not_true, Bool.not_false, decide_eq_true_eq]
              exact ⟨trivial, by omega, ⟨_, _, rfl⟩, step ⟨g1.1, g1.2, fun rb' rc' e1 e2 => by rw [eb] at e1; rw [ec] at e2; cases e1; cases e2; exact ⟨k1, k2⟩⟩⟩
            · have : (((rc.length : Nat) : Int) == ((row.length : Nat) : Int)) = false := by rw [beq_eq_false_iff_ne]; omega
              simp only [this, sat_ok, sat_bind, sat_pr, sat_opt, sat_eC, sat_eVar, sat_eBin, sat_eUn, sat_mBl, sat_mTru, sat_mNot, sat_mAnd, sat_mOr, sat_eAnd, sat_eOr, sat_eNot, sat_eIf, sat_eChain2, sat_aNil, sat_aCons, sat_ofLen, sat_eTup, sat_eLst, sat_eBlt, sat_eMth, sat_oNone, sat_oSome, sat_eSl, sat_eFn, sat_eFnK, sat_sNext, sat_sSeq, sat_sEx, sat_sRet, sat_sRetN, sat_sIf, sat_sSet, sat_sPar, sat_sPar3, sat_sStore, sat_sRaise, sat_sFor, sat_mSeq, sat_mRange, sat_mEnum, sat_mZip, sat_eLc, sat_eLenSet, sat_eDic, sat_evalP, sat_evalP0, sat_eFld, sat_sFldS, sat_eMk, sat_init, List.getElem?_cons_zero, List.getElem?_cons_succ, List.map_cons, List.map_nil, List.length_cons, List.length_nil, List.replicate, List.nil_append, List.cons_append, List.append_nil, List.set_cons_zero, List.set_cons_succ, asBl, Nat.sub_self, Nat.reduceSub, Nat.reduceAdd, if_true, if_false, Bool.false_eq_true, Bool.not_true, Bool.not_false, decide_eq_true_eq]
              exact ⟨trivial, trivial, trivial, no fun g => k2 (g.2.2 rb rc eb ec).2⟩
          · rw [if_neg (by rw [beq_iff_eq]; omega)]
            exact ⟨trivial, trivial, trivial, no fun g => k1 (g.2.2 rb rc eb ec).1⟩
        · rw [if_neg hb]
          exact ⟨trivial, by omega, ⟨_, _, rfl⟩, step ⟨g1.1, g1.2, fun rb' rc' e1 e2 => by
            have := (List.getElem?_eq_some_iff.mp e1).1
            omega⟩⟩
      by_cases t1 : 1 ≤ ((row.length : Nat) : Int)
      · rw [if_pos t1]
        by_cases hz : j.toNat = 0
        · rw [if_pos hz]
          by_cases t2 : ((row.length : Nat) : Int) ≤ 1
          · simp only [decide_eq_true t2, sat_ok, sat_bind, sat_pr, sat_opt, sat_eC, sat_eVar, sat_eBin, sat_eUn, sat_mBl, sat_mTru, sat_mNot, sat_mAnd, sat_mOr, sat_eAnd, sat_eOr, sat_eNot, sat_eIf, sat_eChain2, sat_aNil, sat_aCons, sat_ofLen, sat_eTup, sat_eLst, sat_eBlt, sat_eMth, sat_oNone, sat_oSome, sat_eSl, sat_eFn, sat_eFnK, sat_sNext, sat_sSeq, sat_sEx, sat_sRet, sat_sRetN, sat_sIf, sat_sSet, sat_sPar, sat_sPar3, sat_sStore, sat_sRaise, sat_sFor, sat_mSeq, sat_mRange, sat_mEnum, sat_mZip, sat_eLc, sat_eLenSet, sat_eDic, sat_evalP, sat_evalP0, sat_eFld, sat_sFldS, sat_eMk, sat_init, List.getElem?_cons_zero, List.getElem?_cons_succ, List.map_cons, List.map_nil, List.length_cons, List.length_nil, List.replicate, List.nil_append, List.cons_append, List.append_nil, List.set_cons_zero, List.set_cons_succ, asBl, Nat.sub_self, Nat.reduceSub, Nat.reduceAdd, if_true, if_false, Bool.false_eq_true, Bool.not_true, Bool.not_false, decide_eq_true_eq]
            exact goal2 ⟨by omega, by rw [if_pos hz]; omega⟩
          · simp only [decide_eq_false t2, sat_ok, sat_bind, sat_pr, sat_opt, sat_eC, sat_eVar, sat_eBin, sat_eUn, sat_mBl, sat_mTru, sat_mNot, sat_mAnd, sat_mOr, sat_eAnd, sat_eOr, sat_eNot, sat_eIf, sat_eChain2, sat_aNil, sat_aCons, sat_ofLen, sat_eTup, sat_eLst, sat_eBlt, sat_eMth, sat_oNone, sat_oSome, sat_eSl, sat_eFn, sat_eFnK, sat_sNext, sat_sSeq, sat_sEx, sat_sRet, sat_sRetN, sat_sIf, sat_sSet, sat_sPar, sat_sPar3, sat_sStore, sat_sRaise, sat_sFor, sat_mSeq, sat_mRange, sat_mEnum, sat_mZip, sat_eLc, sat_eLenSet, sat_eDic, sat_evalP, sat_evalP0, sat_eFld, sat_sFldS, sat_eMk, sat_init, List.getElem?_cons_zero, List.getElem?_cons_succ, List.map_cons, List.map_nil, List.length_cons, List.length_nil, List.replicate, List.nil_append, List.cons_append, List.append_nil, List.set_cons_zero, List.set_cons_succ, asBl, Nat.sub_self, Nat.reduceSub, Nat.reduceAdd, if_true, if_false, Bool.false_eq_true, Bool.not_true, Bool.not_false, decide_eq_true_eq]
            exact ⟨trivial, trivial, trivial, no fun g => t2 (by have := g.2.1; rw [if_pos hz] at this; omega)⟩
        · rw [if_neg hz]
          by_cases t2 : ((row.length : Nat) : Int) ≤ 8
          · simp only [decide_eq_true t2, sat_ok, sat_bind, sat_pr, sat_opt, sat_eC, sat_eVar, sat_eBin, sat_eUn, sat_mBl, sat_mTru, sat_mNot, sat_mAnd, sat_mOr, sat_eAnd, sat_eOr, sat_eNot, sat_eIf, sat_eChain2, sat_aNil, sat_aCons, sat_ofLen, sat_eTup, sat_eLst, sat_eBlt, sat_eMth, sat_oNone, sat_oSome, sat_eSl, sat_eFn, sat_eFnK, sat_sNext, sat_sSeq, sat_sEx, sat_sRet, sat_sRetN, sat_sIf, sat_sSet, sat_sPar, sat_sPar3, sat_sStore, sat_sRaise, sat_sFor, sat_mSeq, sat_mRange, sat_mEnum, sat_mZip, sat_eLc, sat_eLenSet, sat_eDic, sat_evalP, sat_evalP0, sat_eFld, sat_sFldS, sat_eMk, sat_init, List.getElem?_cons_zero, List.getElem?_cons_succ, List.map_cons, List.map_nil, List.length_cons, List.length_nil, List.replicate, List.nil_append, List.cons_append, List.append_nil, List.set_cons_zero, List.set_cons_succ, asBl, Nat.sub_self, Nat.reduceSub, Nat.reduceAdd, if_true, if_false, Bool.false_eq_true, Bool.not_true, Bool.not_false, decide_eq_true_eq]
            exact goal2 ⟨by omega, by rw [if_neg hz]; omega⟩
          · simp only [decide_eq_false t2, sat_ok, sat_bind, sat_pr, sat_opt, sat_eC, sat_eVar, sat_eBin, sat_eUn, sat_mBl, sat_mTru, sat_mNot, sat_mAnd, sat_mOr, sat_eAnd, sat_eOr, sat_eNot, sat_eIf, sat_eChain2, sat_aNil, sat_aCons, sat_ofLen, sat_eTup, sat_eLst, sat_eBlt, sat_eMth, sat_oNone, sat_oSome, sat_eSl, sat_eFn, sat_eFnK, sat_sNext, sat_sSeq, sat_sEx, sat_sRet, sat_sRetN, sat_sIf, sat_sSet, sat_sPar, sat_sPar3, sat_sStore, sat_sRaise, sat_sFor, sat_mSeq, sat_mRange, sat_mEnum, sat_mZip, sat_eLc, sat_eLenSet, sat_eDic, sat_evalP, sat_evalP0, sat_eFld, sat_sFldS, sat_eMk, sat_init, List.getElem?_cons_zero, List.getElem?_cons_succ, List.map_cons, List.map_nil, List.length_cons, List.length_nil, List.replicate, List.nil_append, List.cons_append, List.append_nil, List.set_cons_zero, List.set_cons_succ, asBl, Nat.sub_self, Nat.reduceSub, Nat.reduceAdd, if_true, if_false, Bool.false_eq_true, Bool.not_true, Bool.not_false, decide_eq_true_eq]
            exact ⟨trivial, trivial, trivial, no fun g => t2 (by have := g.2.1; rw [if_neg hz] at this; omega)⟩
      · rw [if_neg t1]
        exact ⟨trivial, trivial, trivial, no fun g => t1 (by have := g.1; omega)⟩
    · rintro ρ h' ⟨rfl, _, _, I⟩
      exact ⟨rfl, ⟨h1, h2⟩, h3, h4, fun i row e => I i row (by have := (List.getElem?_eq_some_iff.mp e).1; simp; omega) e⟩
  · have fin : ¬ Shape A B C := fun S => hS ⟨S.a.1, S.a.2, S.b, S.c⟩
    by_cases t1 : (1 : Int) ≤ ((A.length : Nat) : Int)
    · rw [if_pos t1]
      by_cases t2 : ((A.length : Nat) : Int) ≤ 7
      · simp only [decide_eq_true t2, sat_ok, sat_bind, sat_pr, sat_opt, sat_eC, sat_eVar, sat_eBin, sat_eUn, sat_mBl, sat_mTru, sat_mNot, sat_mAnd, sat_mOr, sat_eAnd, sat_eOr, sat_eNot, sat_eIf, sat_eChain2, sat_aNil, sat_aCons, sat_ofLen, sat_eTup, sat_eLst, sat_eBlt, sat_eMth, sat_oNone, sat_oSome, sat_eSl, sat_eFn, sat_eFnK, sat_sNext, sat_sSeq, sat_sEx, sat_sRet, sat_sRetN, sat_sIf, sat_sSet, sat_sPar, sat_sPar3, sat_sStore, sat_sRaise, sat_sFor, sat_mSeq, sat_mRange, sat_mEnum, sat_mZip, sat_eLc, sat_eLenSet, sat_eDic, sat_evalP, sat_evalP0, sat_eFld, sat_sFldS, sat_eMk, sat_init, List.getElem?_cons_zero, List.getElem?_cons_succ, List.map_cons, List.map_nil, List.length_cons, List.length_nil, List.replicate, List.nil_append, List.cons_append, List.append_nil, List.set_cons_zero, List.set_cons_succ, asBl, Nat.sub_self, Nat.reduceSub, Nat.reduceAdd, if_true, if_false, Bool.false_eq_true, Bool.not_true, Bool.not_false, decide_eq_true_eq]
        by_cases t3 : ((B.length : Nat) : Int) = ((C.length : Nat) : Int)
        · have t4 : ¬ ((C.length : Nat) : Int) = ((A.length : Nat) : Int) - 1 := by omega
          simp only [beq_iff_eq.mpr t3, beq_eq_false_iff_ne.mpr t4, sat_ok, sat_bind, sat_pr, sat_opt, sat_eC, sat_eVar, sat_eBin, sat_eUn, sat_mBl, sat_mTru, sat_mNot, sat_mAnd, sat_mOr, sat_eAnd, sat_eOr, sat_eNot, sat_eIf, sat_eChain2, sat_aNil, sat_aCons, sat_ofLen, sat_eTup, sat_eLst, sat_eBlt, sat_eMth, sat_oNone, sat_oSome, sat_eSl, sat_eFn, sat_eFnK, sat_sNext, sat_sSeq, sat_sEx, sat_sRet, sat_sRetN, sat_sIf, sat_sSet, sat_sPar, sat_sPar3, sat_sStore, sat_sRaise, sat_sFor, sat_mSeq, sat_mRange, sat_mEnum, sat_mZip, sat_eLc, sat_eLenSet, sat_eDic, sat_evalP, sat_evalP0, sat_eFld, sat_sFldS, sat_eMk, sat_init, List.getElem?_cons_zero, List.getElem?_cons_succ, List.map_cons, List.map_nil, List.length_cons, List.length_nil, List.replicate, List.nil_append, List.cons_append, List.append_nil, List.set_cons_zero, List.set_cons_succ, asBl, Nat.sub_self, Nat.reduceSub, Nat.reduceAdd, if_true, if_false, Bool.false_eq_true, Bool.not_true, Bool.not_false, decide_eq_true_eq]
          exact ⟨trivial, trivial, trivial, fin⟩
        · simp only [beq_eq_false_iff_ne.mpr t3, sat_ok, sat_bind, sat_pr, sat_opt, sat_eC, sat_eVar, sat_eBin, sat_eUn, sat_mBl, sat_mTru, sat_mNot, sat_mAnd, sat_mOr, sat_eAnd, sat_eOr, sat_eNot, sat_eIf, sat_eChain2, sat_aNil, sat_aCons, sat_ofLen, sat_eTup, sat_eLst, sat_eBlt, sat_eMth, sat_oNone, sat_oSome, sat_eSl, sat_eFn, sat_eFnK, sat_sNext, sat_sSeq, sat_sEx, sat_sRet, sat_sRetN, sat_sIf, sat_sSet, sat_sPar, sat_sPar3, sat_sStore, sat_sRaise, sat_sFor, sat_mSeq, sat_mRange, sat_mEnum, sat_mZip, sat_eLc, sat_eLenSet, sat_eDic, sat_evalP, sat_evalP0, sat_eFld, sat_sFldS, sat_eMk, sat_init, List.getElem?_cons_zero, List.getElem?_cons_succ, List.map_cons, List.map_nil, List.length_cons, List.length_nil, List.replicate, List.nil_append, List.cons_append, List.append_nil, List.set_cons_zero, List.set_cons_succ, asBl, Nat.sub_self, Nat.reduceSub, Nat.reduceAdd, if_true, if_false, Bool.false_eq_true, Bool.not_true, Bool.not_false, decide_eq_true_eq]
          exact ⟨trivial, trivial, trivial, fin⟩
      · simp only [decide_eq_false t2, sat_ok, sat_bind, sat_pr, sat_opt, sat_eC, sat_eVar, sat_eBin, sat_eUn, sat_mBl, sat_mTru, sat_mNot, sat_mAnd, sat_mOr, sat_eAnd, sat_eOr, sat_eNot, sat_eIf, sat_eChain2, sat_aNil, sat_aCons, sat_ofLen, sat_eTup, sat_eLst, sat_eBlt, sat_eMth, sat_oNone, sat_oSome, sat_eSl, sat_eFn, sat_eFnK, sat_sNext, sat_sSeq, sat_sEx, sat_sRet, sat_sRetN, sat_sIf, sat_sSet, sat_sPar, sat_sPar3, sat_sStore, sat_sRaise, sat_sFor, sat_mSeq, sat_mRange, sat_mEnum, sat_mZip, sat_eLc, sat_eLenSet, sat_eDic, sat_evalP, sat_evalP0, sat_eFld, sat_sFldS, sat_eMk, sat_init, List.getElem?_cons_zero, List.getElem?_cons_succ, List.map_cons, List.map_nil, List.length_cons, List.length_nil, List.replicate, List.nil_append, List.cons_append, List.append_nil, List.set_cons_zero, List.set_cons_succ, asBl, Nat.sub_self, Nat.reduceSub, Nat.reduceAdd, if_true, if_false, Bool.false_eq_true, Bool.not_true, Bool.not_false, decide_eq_true_eq]
        exact ⟨trivial, trivial, trivial, fin⟩
    · rw [if_neg t1]
      exact ⟨trivial, trivial, trivial, fin⟩

end Cl
namespace Cl
open PySem PySem.Spec PyProof.Rows L2
theorem look_above_spec {h : CH} {p : Nat} {L : List (List Q2)} {f : Bool} (V : View h p L) : (F_look_above [.ref p, .bl f] h).sat (fun d h' => h' = h ∧ NoneOf gP L) (fun c fs h' => h' = h ∧ ∃ i j : Nat, c = (if f = true then ("BadRate" : Str) else "BadPrice") ∧ fs = xFlds (if f = true then "BadRate" else "BadPrice") ["date", "node"] [.int i, .int j] ∧ First gP L i j) := by
  refine sat_run rfl ?_
  unfold m_look_above
  obtain ⟨P, e, eP, en⟩ := V.en
  simp only [sat_ok, sat_bind, sat_pr, sat_opt, sat_eC, sat_eVar, sat_eBin, sat_eUn, sat_mBl, sat_mTru, sat_mNot, sat_mAnd, sat_mOr, sat_eAnd, sat_eOr, sat_eNot, sat_eIf, sat_eChain2, sat_aNil, sat_aCons, sat_ofLen, sat_eTup, sat_eLst, sat_eBlt, sat_eMth, sat_oNone, sat_oSome, sat_eSl, sat_eFn, sat_eFnK, sat_sNext, sat_sSeq, sat_sEx, sat_sRet, sat_sRetN, sat_sIf, sat_sSet, sat_sPar, sat_sPar3, sat_sStore, sat_sRaise, sat_sFor, sat_mSeq, sat_mRange, sat_mEnum, sat_mZip, sat_eLc, sat_eLenSet, sat_eDic, sat_evalP, sat_evalP0, sat_eFld, sat_sFldS, sat_eMk, sat_init, List.getElem?_cons_zero, List.getElem?_cons_succ, List.map_cons, List.map_nil, List.length_cons, List.length_nil, List.replicate, List.nil_append, List.cons_append, List.append_nil, List.set_cons_zero, List.set_cons_succ, asBl, Nat.sub_self, Nat.reduceSub, Nat.reduceAdd, if_true, if_false, Bool.false_eq_true, Bool.not_true, Bool.not_false, decide_eq_true_eq, mEnum_lst e]
  refine sat_forE (I := fun i ρ h' => h' = h ∧ 0 ≤ i ∧ (∃ x2 x3 x4 x5 x6, ρ = [some (.ref p), some (.bl f), x2, x3, x4, x5, x6]) ∧ ∀ (k : Nat) row, (k : Int) < i → L[k]? = some row → ∀ x ∈ row, ¬ gP k x) _ ?_ ?_ ?_ _ _ ⟨rfl, by omega, ⟨_, _, _, _, _, rfl⟩, by omega⟩
  · rintro j ρ h' ⟨rfl, _⟩
    exact okG_lst (lstAt_get e)
  · rintro i d ρ h' i0 hd ⟨rfl, _, ⟨x2, x3, x4, x5, x6, rfl⟩, I⟩
    obtain ⟨r, row, rfl, ea, r2, _, r4⟩ := en i d i0 hd
    refine ⟨_, rfl, ?_⟩
    simp only [setR, List.set_cons_succ, List.set_cons_zero, List.nil_append, List.cons_append]
    unfold m_look_above_4
    simp only [sat_ok, sat_bind, sat_pr, sat_opt, sat_eC, sat_eVar, sat_eBin, sat_eUn, sat_mBl, sat_mTru, sat_mNot, sat_mAnd, sat_mOr, sat_eAnd, sat_eOr, sat_eNot, sat_eIf, sat_eChain2, sat_aNil, sat_aCons, sat_ofLen, sat_eTup, sat_eLst, sat_eBlt, sat_eMth, sat_oNone, sat_oSome, sat_eSl, sat_eFn, sat_eFnK, sat_sNext, sat_sSeq, sat_sEx, sat_sRet, sat_sRetN, sat_sIf, sat_sSet, sat_sPar, sat_sPar3, sat_sStore, sat_sRaise, sat_sFor, sat_mSeq, sat_mRange, sat_mEnum, sat_mZip, sat_eLc, sat_eLenSet, sat_eDic, sat_evalP, sat_evalP0, sat_eFld, sat_sFldS, sat_eMk, sat_init, List.getElem?_cons_zero, List.getElem?_cons_succ, List.map_cons, List.map_nil, List.length_cons, List.length_nil, List.replicate, List.nil_append, List.cons_append, List.append_nil, List.set_cons_zero, List.set_cons_succ, asBl, Nat.sub_self, Nat.reduceSub, Nat.reduceAdd, if_true, if_false, Bool.false_eq_true, Bool.not_true, Bool.not_false, decide_eq_true_eq, mEnum_lst r2]
    refine sat_forE (I := fun j ρ h'' => h'' = h' ∧ 0 ≤ j ∧ (∃ x4 x5 x6, ρ = [some (.ref p), some (.bl f), some (.int i), some (.ref r), x4, x5, x6]) ∧ ∀ (k : Nat) y, (k : Int) < j → row[k]? = some y → ¬ gP i.toNat y) _ ?_ ?_ ?_ _ _ ⟨rfl, by omega, ⟨_, _, _, rfl⟩, by omega⟩
    · rintro j ρ h'' ⟨rfl, _⟩
      exact okG_lst (lstAt_get r2)
    · rintro j d ρ h'' j0 hd ⟨rfl, _, ⟨x4, x5, x6, rfl⟩, J⟩
      rw [List.getElem?_map] at hd
      cases q : row[j.toNat]? with
      | none => rw [q] at hd; cases hd
      | some x =>
        rw [q] at hd
        have hd : some (am x) = some d := hd
        cases hd
        refine ⟨_, rfl, ?_⟩
        simp only [setR, List.set_cons_succ, List.set_cons_zero, List.nil_append, List.cons_append]
        unfold m_look_above_3 m_look_above_1 m_look_above_2
        simp only [sat_ok, sat_bind, sat_pr, sat_opt, sat_eC, sat_eVar, sat_eBin, sat_eUn, sat_mBl, sat_mTru, sat_mNot, sat_mAnd, sat_mOr, sat_eAnd, sat_eOr, sat_eNot, sat_eIf, sat_eChain2, sat_aNil, sat_aCons, sat_ofLen, sat_eTup, sat_eLst, sat_eBlt, sat_eMth, sat_oNone, sat_oSome, sat_eSl, sat_eFn, sat_eFnK, sat_sNext, sat_sSeq, sat_sEx, sat_sRet, sat_sRetN, sat_sIf, sat_sSet, sat_sPar, sat_sPar3, sat_sStore, sat_sRaise, sat_sFor, sat_mSeq, sat_mRange, sat_mEnum, sat_mZip, sat_eLc, sat_eLenSet, sat_eDic, sat_evalP, sat_evalP0, sat_eFld, sat_sFldS, sat_eMk, sat_init, List.getElem?_cons_zero, List.getElem?_cons_succ, List.map_cons, List.map_nil, List.length_cons, List.length_nil, List.replicate, List.nil_append, List.cons_append, List.append_nil, List.set_cons_zero, List.set_cons_succ, asBl, Nat.sub_self, Nat.reduceSub, Nat.reduceAdd, if_true, if_false, Bool.false_eq_true, Bool.not_true, Bool.not_false, decide_eq_true_eq, pLe_int, tru]
        by_cases gx : x.1 ≤ 0
        · rw [if_pos gx]
          cases f with
          | true =>
            simp only [sat_ok, sat_bind, sat_pr, sat_opt, sat_eC, sat_eVar, sat_eBin, sat_eUn, sat_mBl, sat_mTru, sat_mNot, sat_mAnd, sat_mOr, sat_eAnd, sat_eOr, sat_eNot, sat_eIf, sat_eChain2, sat_aNil, sat_aCons, sat_ofLen, sat_eTup, sat_eLst, sat_eBlt, sat_eMth, sat_oNone, sat_oSome, sat_eSl, sat_eFn, sat_eFnK, sat_sNext, sat_sSeq, sat_sEx, sat_sRet, sat_sRetN, sat_sIf, sat_sSet, sat_sPar, sat_sPar3, sat_sStore, sat_sRaise, sat_sFor, sat_mSeq, sat_mRange, sat_mEnum, sat_mZip, sat_eLc, sat_eLenSet, sat_eDic, sat_evalP, sat_evalP0, sat_eFld, sat_sFldS, sat_eMk, sat_init, List.getElem?_cons_zero, List.getElem?_cons_succ, List.map_cons, List.map_nil, List.length_cons, List.length_nil, List.replicate, List.nil_append, List.cons_append, List.append_nil, List.set_cons_zero, List.set_cons_succ, asBl, Nat.sub_self, Nat.reduceSub, Nat.reduceAdd, if_true, if_false, Bool.false_eq_true, Bool.not_true, Bool.not_false, decide_eq_true_eq]
            exact ⟨trivial, i.toNat, j.toNat, trivial, by rw [toI i0, toI j0], First.mk2 i0 j0 ea q gx J I⟩
          | false =>
            simp only [sat_ok, sat_bind, sat_pr, sat_opt, sat_eC, sat_eVar, sat_eBin, sat_eUn, sat_mBl, sat_mTru, sat_mNot, sat_mAnd, sat_mOr, sat_eAnd, sat_eOr, sat_eNot, sat_eIf, sat_eChain2, sat_aNil, sat_aCons, sat_ofLen, sat_eTup, sat_eLst, sat_eBlt, sat_eMth, sat_oNone, sat_oSome, sat_eSl, sat_eFn, sat_eFnK, sat_sNext, sat_sSeq, sat_sEx, sat_sRet, sat_sRetN, sat_sIf, sat_sSet, sat_sPar, sat_sPar3, sat_sStore, sat_sRaise, sat_sFor, sat_mSeq, sat_mRange, sat_mEnum, sat_mZip, sat_eLc, sat_eLenSet, sat_eDic, sat_evalP, sat_evalP0, sat_eFld, sat_sFldS, sat_eMk, sat_init, List.getElem?_cons_zero, List.getElem?_cons_succ, List.map_cons, List.map_nil, List.length_cons, List.length_nil, List.replicate, List.nil_append, List.cons_append, List.append_nil, List.set_cons_zero, List.set_cons_succ, asBl, Nat.sub_self, Nat.reduceSub, Nat.reduceAdd, if_true, if_false, Bool.false_eq_true, Bool.not_true, Bool.not_false, decide_eq_true_eq]
            rw [if_pos gx]
            exact ⟨trivial, i.toNat, j.toNat, trivial, by rw [toI i0, toI j0], First.mk2 i0 j0 ea q gx J I⟩
        · rw [if_neg gx, if_neg gx]
          exact ⟨trivial, by omega, ⟨_, _, _, rfl⟩, nxt (g := gP) j0 q gx J⟩
    · rintro ρ h'' ⟨rfl, _, ⟨x4, x5, x6, rfl⟩, J⟩
      exact ⟨rfl, by omega, ⟨_, _, _, _, _, rfl⟩, nxtR i0 ea (fun k y e => J k y (by have := (List.getElem?_eq_some_iff.mp e).1; simp; omega) e) I⟩
  · rintro ρ h' ⟨rfl, _, e, I⟩
    exact ⟨rfl, fun k row e => I k row (by have := (List.getElem?_eq_some_iff.mp e).1; simp; omega) e⟩
theorem less_b {x y : Q2} {h : CH} (a : Sm x.1 ∧ Sm x.2) (b : Sm y.1 ∧ Sm y.2) : F_less [am x, am y] h = .ok (.bl (decide (x.1 * y.2 < y.1 * x.2))) h := by
  refine sat_eq (sat_run rfl ?_)
  unfold m_less
  simp only [sat_ok, sat_bind, sat_pr, sat_opt, sat_eC, sat_eVar, sat_eBin, sat_eUn, sat_mBl, sat_mTru, sat_mNot, sat_mAnd, sat_mOr, sat_eAnd, sat_eOr, sat_eNot, sat_eIf, sat_eChain, sat_aNil, sat_aCons, sat_ofLen, sat_eTup, sat_eLst, sat_eBlt, sat_eMth, sat_oNone, sat_oSome, sat_eSl, sat_eFn, sat_eFnK, sat_sNext, sat_sSeq, sat_sEx, sat_sRet, sat_sRetN, sat_sIf, sat_sSet, sat_sPar, sat_sPar3, sat_sStore, sat_sRaise, sat_sFor, sat_mSeq, sat_mRange, sat_mEnum, sat_mZip, sat_eLc, sat_eLenSet, sat_eDic, sat_evalP, sat_evalP0, sat_eFld, sat_sFldS, sat_eMk, sat_init, List.getElem?_cons_zero, List.getElem?_cons_succ, List.map_cons, List.map_nil, List.length_cons, List.length_nil, List.replicate, List.nil_append, List.cons_append, List.append_nil, bindP, bindPs, setR, List.set_cons_zero, List.set_cons_succ, asBl, Nat.sub_self, Nat.reduceSub, Nat.reduceAdd, at_am0, at_am1, pMul_sm a.1 b.2, pMul_sm b.1 a.2, pLt_int]
  exact ⟨trivial, trivial⟩
theorem look_steps_spec {h : CH} {n p q s : Nat} {A B C : List (List Q2)} (V : VW h n p q s A B C) (S : Shape A B C) : (F_look_steps [.ref p, .ref s] h).sat (fun d h' => h' = h ∧ NoneOf (gS A) C) (fun c fs h' => h' = h ∧ ∃ i j : Nat, c = ("BadStep" : Str) ∧ fs = xFlds "BadStep" ["date", "node"] [.int i, .int j] ∧ First (gS A) C i j) := by
  have sc := S.c
  have sa := S.a
  refine sat_run rfl ?_
  unfold m_look_steps
  obtain ⟨P, e, eP, en⟩ := V.c.en
  simp only [sat_ok, sat_bind, sat_pr, sat_opt, sat_eC, sat_eVar, sat_eBin, sat_eUn, sat_mBl, sat_mTru, sat_mNot, sat_mAnd, sat_mOr, sat_eAnd, sat_eOr, sat_eNot, sat_eIf, sat_eChain2, sat_aNil, sat_aCons, sat_ofLen, sat_eTup, sat_eLst, sat_eBlt, sat_eMth, sat_oNone, sat_oSome, sat_eSl, sat_eFn, sat_eFnK, sat_sNext, sat_sSeq, sat_sEx, sat_sRet, sat_sRetN, sat_sIf, sat_sSet, sat_sPar, sat_sPar3, sat_sStore, sat_sRaise, sat_sFor, sat_mSeq, sat_mRange, sat_mEnum, sat_mZip, sat_eLc, sat_eLenSet, sat_eDic, sat_evalP, sat_evalP0, sat_eFld, sat_sFldS, sat_eMk, sat_init, List.getElem?_cons_zero, List.getElem?_cons_succ, List.map_cons, List.map_nil, List.length_cons, List.length_nil, List.replicate, List.nil_append, List.cons_append, List.append_nil, List.set_cons_zero, List.set_cons_succ, asBl, Nat.sub_self, Nat.reduceSub, Nat.reduceAdd, if_true, if_false, Bool.false_eq_true, Bool.not_true, Bool.not_false, decide_eq_true_eq, mEnum_lst e]
  refine sat_forE (I := fun i ρ h' => h' = h ∧ 0 ≤ i ∧ (∃ x2 x3 x4 x5 x6 x7, ρ = [some (.ref p), some (.ref s), x2, x3, x4, x5, x6, x7]) ∧ ∀ (k : Nat) row, (k : Int) < i → C[k]? = some row → ∀ x ∈ row, ¬ gS A k x) _ ?_ ?_ ?_ _ _ ⟨rfl, by omega, ⟨_, _, _, _, _, _, rfl⟩, by omega⟩
  · rintro j ρ h' ⟨rfl, _⟩
    exact okG_lst (lstAt_get e)
  · rintro i d ρ h' i0 hd ⟨rfl, _, ⟨x2, x3, x4, x5, x6, x7, rfl⟩, I⟩
    obtain ⟨r, row, rfl, ea, r2, _, r4⟩ := en i d i0 hd
    have hi := (List.getElem?_eq_some_iff.mp ea).1
    have el : A[(i + 1).toNat]? = some (A[(i + 1).toNat]'(by omega)) := List.getElem?_eq_getElem _
    generalize A[(i + 1).toNat]'(by omega) = lat at el
    obtain ⟨l, l1, l2, l3, l4⟩ := V.a.row (i := i + 1) (by omega) el
    have el' : A[i.toNat + 1]? = some lat := by rw [← el]; congr 1; omega
    refine ⟨_, rfl, ?_⟩
    simp only [setR, List.set_cons_succ, List.set_cons_zero, List.nil_append, List.cons_append]
    unfold m_look_steps_4 m_look_steps_2
    simp only [sat_ok, sat_bind, sat_pr, sat_opt, sat_eC, sat_eVar, sat_eBin, sat_eUn, sat_mBl, sat_mTru, sat_mNot, sat_mAnd, sat_mOr, sat_eAnd, sat_eOr, sat_eNot, sat_eIf, sat_eChain, sat_aNil, sat_aCons, sat_ofLen, sat_eTup, sat_eLst, sat_eBlt, sat_eMth, sat_oNone, sat_oSome, sat_eSl, sat_eFn, sat_eFnK, sat_sNext, sat_sSeq, sat_sEx, sat_sRet, sat_sRetN, sat_sIf, sat_sSet, sat_sPar, sat_sPar3, sat_sStore, sat_sRaise, sat_sFor, sat_mSeq, sat_mRange, sat_mEnum, sat_mZip, sat_eLc, sat_eLenSet, sat_eDic, sat_evalP, sat_evalP0, sat_eFld, sat_sFldS, sat_eMk, sat_init, List.getElem?_cons_zero, List.getElem?_cons_succ, List.map_cons, List.map_nil, List.length_cons, List.length_nil, List.replicate, List.nil_append, List.cons_append, List.append_nil, bindP, bindPs, setR, List.set_cons_zero, List.set_cons_succ, asBl, Nat.sub_self, Nat.reduceSub, Nat.reduceAdd, pAdd_int, l1]
    unfold m_look_steps_3
    simp only [sat_ok, sat_bind, sat_pr, sat_opt, sat_eC, sat_eVar, sat_eBin, sat_eUn, sat_mBl, sat_mTru, sat_mNot, sat_mAnd, sat_mOr, sat_eAnd, sat_eOr, sat_eNot, sat_eIf, sat_eChain2, sat_aNil, sat_aCons, sat_ofLen, sat_eTup, sat_eLst, sat_eBlt, sat_eMth, sat_oNone, sat_oSome, sat_eSl, sat_eFn, sat_eFnK, sat_sNext, sat_sSeq, sat_sEx, sat_sRet, sat_sRetN, sat_sIf, sat_sSet, sat_sPar, sat_sPar3, sat_sStore, sat_sRaise, sat_sFor, sat_mSeq, sat_mRange, sat_mEnum, sat_mZip, sat_eLc, sat_eLenSet, sat_eDic, sat_evalP, sat_evalP0, sat_eFld, sat_sFldS, sat_eMk, sat_init, List.getElem?_cons_zero, List.getElem?_cons_succ, List.map_cons, List.map_nil, List.length_cons, List.length_nil, List.replicate, List.nil_append, List.cons_append, List.append_nil, List.set_cons_zero, List.set_cons_succ, asBl, Nat.sub_self, Nat.reduceSub, Nat.reduceAdd, if_true, if_false, Bool.false_eq_true, Bool.not_true, Bool.not_false, decide_eq_true_eq, mEnum_lst r2]
    refine sat_forE (I := fun j ρ h'' => h'' = h' ∧ 0 ≤ j ∧ (∃ x5 x6 x7, ρ = [some (.ref p), some (.ref s), some (.int i), some (.ref r), some (.ref l), x5, x6, x7]) ∧ ∀ (k : Nat) y, (k : Int) < j → row[k]? = some y → ¬ gS A i.toNat y) _ ?_ ?_ ?_ _ _ ⟨rfl, by omega, ⟨_, _, _, rfl⟩, by omega⟩
    · rintro j ρ h'' ⟨rfl, _⟩
      exact okG_lst (lstAt_get r2)
    · rintro j d ρ h'' j0 hd ⟨rfl, _, ⟨x5, x6, x7, rfl⟩, J⟩
      rw [List.getElem?_map] at hd
      cases hx : row[j.toNat]? with
      | none => rw [hx] at hd; cases hd
      | some x =>
        rw [hx] at hd
        have hd : some (am x) = some d := hd
        cases hd
        obtain ⟨u, v⟩ := x
        refine ⟨_, rfl, ?_⟩
        simp only [setR, List.set_cons_succ, List.set_cons_zero, List.nil_append, List.cons_append]
        unfold m_look_steps_1
        simp only [sat_ok, sat_bind, sat_pr, sat_opt, sat_eC, sat_eVar, sat_eBin, sat_eUn, sat_mBl, sat_mTru, sat_mNot, sat_mAnd, sat_mOr, sat_eAnd, sat_eOr, sat_eNot, sat_eIf, sat_eChain2, sat_aNil, sat_aCons, sat_ofLen, sat_eTup, sat_eLst, sat_eBlt, sat_eMth, sat_oNone, sat_oSome, sat_eSl, sat_eFn, sat_eFnK, sat_sNext, sat_sSeq, sat_sEx, sat_sRet, sat_sRetN, sat_sIf, sat_sSet, sat_sPar, sat_sPar3, sat_sStore, sat_sRaise, sat_sFor, sat_mSeq, sat_mRange, sat_mEnum, sat_mZip, sat_eLc, sat_eLenSet, sat_eDic, sat_evalP, sat_evalP0, sat_eFld, sat_sFldS, sat_eMk, sat_init, List.getElem?_cons_zero, List.getElem?_cons_succ, List.map_cons, List.map_nil, List.length_cons, List.length_nil, List.replicate, List.nil_append, List.cons_append, List.append_nil, List.set_cons_zero, List.set_cons_succ, asBl, Nat.sub_self, Nat.reduceSub, Nat.reduceAdd, if_true, if_false, Bool.false_eq_true, Bool.not_true, Bool.not_false, decide_eq_true_eq, pLenR l2, List.length_map, pLe_int, pLt_int]
        have fin : gS A i.toNat (u, v) → True ∧ ∃ a b : Nat, True ∧ xFlds "BadStep" ["date", "node"] [.int i, .int j] = xFlds "BadStep" ["date", "node"] [.int a, .int b] ∧ First (gS A) C a b := fun g => ⟨trivial, i.toNat, j.toNat, trivial, by rw [toI i0, toI j0], First.mk2 i0 j0 ea hx g J I⟩
        by_cases hu0 : 0 ≤ u
        · rw [if_pos hu0]
          by_cases hu1 : u < (lat.length : Nat)
          · simp only [decide_eq_true hu1, sat_ok, sat_bind, sat_pr, sat_opt, sat_eC, sat_eVar, sat_eBin, sat_eUn, sat_mBl, sat_mTru, sat_mNot, sat_mAnd, sat_mOr, sat_eAnd, sat_eOr, sat_eNot, sat_eIf, sat_eChain2, sat_aNil, sat_aCons, sat_ofLen, sat_eTup, sat_eLst, sat_eBlt, sat_eMth, sat_oNone, sat_oSome, sat_eSl, sat_eFn, sat_eFnK, sat_sNext, sat_sSeq, sat_sEx, sat_sRet, sat_sRetN, sat_sIf, sat_sSet, sat_sPar, sat_sPar3, sat_sStore, sat_sRaise, sat_sFor, sat_mSeq, sat_mRange, sat_mEnum, sat_mZip, sat_eLc, sat_eLenSet, sat_eDic, sat_evalP, sat_evalP0, sat_eFld, sat_sFldS, sat_eMk, sat_init, List.getElem?_cons_zero, List.getElem?_cons_succ, List.map_cons, List.map_nil, List.length_cons, List.length_nil, List.replicate, List.nil_append, List.cons_append, List.append_nil, List.set_cons_zero, List.set_cons_succ, asBl, Nat.sub_self, Nat.reduceSub, Nat.reduceAdd, if_true, if_false, Bool.false_eq_true, Bool.not_true, Bool.not_false, decide_eq_true_eq]
            by_cases hv0 : 0 ≤ v
            · rw [if_pos hv0]
              by_cases hv1 : v < (lat.length : Nat)
              · simp only [decide_eq_true hv1, sat_ok, sat_bind, sat_pr, sat_opt, sat_eC, sat_eVar, sat_eBin, sat_eUn, sat_mBl, sat_mTru, sat_mNot, sat_mAnd, sat_mOr, sat_eAnd, sat_eOr, sat_eNot, sat_eIf, sat_eChain2, sat_aNil, sat_aCons, sat_ofLen, sat_eTup, sat_eLst, sat_eBlt, sat_eMth, sat_oNone, sat_oSome, sat_eSl, sat_eFn, sat_eFnK, sat_sNext, sat_sSeq, sat_sEx, sat_sRet, sat_sRetN, sat_sIf, sat_sSet, sat_sPar, sat_sPar3, sat_sStore, sat_sRaise, sat_sFor, sat_mSeq, sat_mRange, sat_mEnum, sat_mZip, sat_eLc, sat_eLenSet, sat_eDic, sat_evalP, sat_evalP0, sat_eFld, sat_sFldS, sat_eMk, sat_init, List.getElem?_cons_zero, List.getElem?_cons_succ, List.map_cons, List.map_nil, List.length_cons, List.length_nil, List.replicate, List.nil_append, List.cons_append, List.append_nil, List.set_cons_zero, List.set_cons_succ, asBl, Nat.sub_self, Nat.reduceSub, Nat.reduceAdd, if_true, if_false, Bool.false_eq_true, Bool.not_true, Bool.not_false, decide_eq_true_eq]
                obtain ⟨hi', ehi, ahi⟩ := at_map (ps := lat) hu0 hu1
                obtain ⟨lo, elo, alo⟩ := at_map (ps := lat) hv0 hv1
                simp only [pIxR l2, ahi, alo, Option.map_some, sat_ok, sat_bind, sat_pr, sat_opt, sat_eC, sat_eVar, sat_eBin, sat_eUn, sat_mBl, sat_mTru, sat_mNot, sat_mAnd, sat_mOr, sat_eAnd, sat_eOr, sat_eNot, sat_eIf, sat_eChain2, sat_aNil, sat_aCons, sat_ofLen, sat_eTup, sat_eLst, sat_eBlt, sat_eMth, sat_oNone, sat_oSome, sat_eSl, sat_eFn, sat_eFnK, sat_sNext, sat_sSeq, sat_sEx, sat_sRet, sat_sRetN, sat_sIf, sat_sSet, sat_sPar, sat_sPar3, sat_sStore, sat_sRaise, sat_sFor, sat_mSeq, sat_mRange, sat_mEnum, sat_mZip, sat_eLc, sat_eLenSet, sat_eDic, sat_evalP, sat_evalP0, sat_eFld, sat_sFldS, sat_eMk, sat_init, List.getElem?_cons_zero, List.getElem?_cons_succ, List.map_cons, List.map_nil, List.length_cons, List.length_nil, List.replicate, List.nil_append, List.cons_append, List.append_nil, List.set_cons_zero, List.set_cons_succ, asBl, Nat.sub_self, Nat.reduceSub, Nat.reduceAdd, if_true, if_false, Bool.false_eq_true, Bool.not_true, Bool.not_false, decide_eq_true_eq, less_b (l3 lo (List.mem_of_getElem? elo)) (l3 hi' (List.mem_of_getElem? ehi)), tru]
                by_cases hg : lo.1 * hi'.2 < hi'.1 * lo.2
                · simp only [decide_eq_true hg, sat_ok, sat_bind, sat_pr, sat_opt, sat_eC, sat_eVar, sat_eBin, sat_eUn, sat_mBl, sat_mTru, sat_mNot, sat_mAnd, sat_mOr, sat_eAnd, sat_eOr, sat_eNot, sat_eIf, sat_eChain2, sat_aNil, sat_aCons, sat_ofLen, sat_eTup, sat_eLst, sat_eBlt, sat_eMth, sat_oNone, sat_oSome, sat_eSl, sat_eFn, sat_eFnK, sat_sNext, sat_sSeq, sat_sEx, sat_sRet, sat_sRetN, sat_sIf, sat_sSet, sat_sPar, sat_sPar3, sat_sStore, sat_sRaise, sat_sFor, sat_mSeq, sat_mRange, sat_mEnum, sat_mZip, sat_eLc, sat_eLenSet, sat_eDic, sat_evalP, sat_evalP0, sat_eFld, sat_sFldS, sat_eMk, sat_init, List.getElem?_cons_zero, List.getElem?_cons_succ, List.map_cons, List.map_nil, List.length_cons, List.length_nil, List.replicate, List.nil_append, List.cons_append, List.append_nil, List.set_cons_zero, List.set_cons_succ, asBl, Nat.sub_self, Nat.reduceSub, Nat.reduceAdd, if_true, if_false, Bool.false_eq_true, Bool.not_true, Bool.not_false, decide_eq_true_eq]
                  exact ⟨trivial, by omega, ⟨_, _, _, rfl⟩, nxt (g := gS A) j0 hx (fun g => g ⟨lat, hi', lo, el', hu0, hv0, ehi, elo, hg⟩) J⟩
                · simp only [decide_eq_false hg, sat_ok, sat_bind, sat_pr, sat_opt, sat_eC, sat_eVar, sat_eBin, sat_eUn, sat_mBl, sat_mTru, sat_mNot, sat_mAnd, sat_mOr, sat_eAnd, sat_eOr, sat_eNot, sat_eIf, sat_eChain2, sat_aNil, sat_aCons, sat_ofLen, sat_eTup, sat_eLst, sat_eBlt, sat_eMth, sat_oNone, sat_oSome, sat_eSl, sat_eFn, sat_eFnK, sat_sNext, sat_sSeq, sat_sEx, sat_sRet, sat_sRetN, sat_sIf, sat_sSet, sat_sPar, sat_sPar3, sat_sStore, sat_sRaise, sat_sFor, sat_mSeq, sat_mRange, sat_mEnum, sat_mZip, sat_eLc, sat_eLenSet, sat_eDic, sat_evalP, sat_evalP0, sat_eFld, sat_sFldS, sat_eMk, sat_init, List.getElem?_cons_zero, List.getElem?_cons_succ, List.map_cons, List.map_nil, List.length_cons, List.length_nil, List.replicate, List.nil_append, List.cons_append, List.append_nil, List.set_cons_zero, List.set_cons_succ, asBl, Nat.sub_self, Nat.reduceSub, Nat.reduceAdd, if_true, if_false, Bool.false_eq_true, Bool.not_true, Bool.not_false, decide_eq_true_eq]
                  refine fin fun ⟨row', a, b, e1, _, _, e2, e3, e4⟩ => hg ?_
                  rw [el'] at e1; cases e1
                  rw [ehi] at e2; rw [elo] at e3; cases e2; cases e3; exact e4
              · simp only [decide_eq_false hv1, sat_ok, sat_bind, sat_pr, sat_opt, sat_eC, sat_eVar, sat_eBin, sat_eUn, sat_mBl, sat_mTru, sat_mNot, sat_mAnd, sat_mOr, sat_eAnd, sat_eOr, sat_eNot, sat_eIf, sat_eChain2, sat_aNil, sat_aCons, sat_ofLen, sat_eTup, sat_eLst, sat_eBlt, sat_eMth, sat_oNone, sat_oSome, sat_eSl, sat_eFn, sat_eFnK, sat_sNext, sat_sSeq, sat_sEx, sat_sRet, sat_sRetN, sat_sIf, sat_sSet, sat_sPar, sat_sPar3, sat_sStore, sat_sRaise, sat_sFor, sat_mSeq, sat_mRange, sat_mEnum, sat_mZip, sat_eLc, sat_eLenSet, sat_eDic, sat_evalP, sat_evalP0, sat_eFld, sat_sFldS, sat_eMk, sat_init, List.getElem?_cons_zero, List.getElem?_cons_succ, List.map_cons, List.map_nil, List.length_cons, List.length_nil, List.replicate, List.nil_append, List.cons_append, List.append_nil, List.set_cons_zero, List.set_cons_succ, asBl, Nat.sub_self, Nat.reduceSub, Nat.reduceAdd, if_true, if_false, Bool.false_eq_true, Bool.not_true, Bool.not_false, decide_eq_true_eq]
                refine fin fun ⟨row', a, b, e1, _, _, e2, e3, e4⟩ => hv1 ?_
                rw [el'] at e1; cases e1
                have h2 : v.toNat < lat.length := (List.getElem?_eq_some_iff.mp e3).1
                omega
            · rw [if_neg hv0]
              exact fin fun ⟨row', a, b, e1, _, v0, e2, e3, e4⟩ => hv0 v0
          · simp only [decide_eq_false hu1, sat_ok, sat_bind, sat_pr, sat_opt, sat_eC, sat_eVar, sat_eBin, sat_eUn, sat_mBl, sat_mTru, sat_mNot, sat_mAnd, sat_mOr, sat_eAnd, sat_eOr, sat_eNot, sat_eIf, sat_eChain2, sat_aNil, sat_aCons, sat_ofLen, sat_eTup, sat_eLst, sat_eBlt, sat_eMth, sat_oNone, sat_oSome, sat_eSl, sat_eFn, sat_eFnK, sat_sNext, sat_sSeq, sat_sEx, sat_sRet, sat_sRetN, sat_sIf, sat_sSet, sat_sPar, sat_sPar3, sat_sStore, sat_sRaise, sat_sFor, sat_mSeq, sat_mRange, sat_mEnum, sat_mZip, sat_eLc, sat_eLenSet, sat_eDic, sat_evalP, sat_evalP0, sat_eFld, sat_sFldS, sat_eMk, sat_init, List.getElem?_cons_zero, List.getElem?_cons_succ, List.map_cons, List.map_nil, List.length_cons, List.length_nil, List.replicate, List.nil_append, List.cons_append, List.append_nil, List.set_cons_zero, List.set_cons_succ, asBl, Nat.sub_self, Nat.reduceSub, Nat.reduceAdd, if_true, if_false, Bool.false_eq_true, Bool.not_true, Bool.not_false, decide_eq_true_eq]
            refine fin fun ⟨row', a, b, e1, _, _, e2, e3, e4⟩ => hu1 ?_
            rw [el'] at e1; cases e1
            have h2 : u.toNat < lat.length := (List.getElem?_eq_some_iff.mp e2).1
            omega
        · rw [if_neg hu0]
          exact fin fun ⟨row', a, b, e1, u0, v0, e2, e3, e4⟩ => hu0 u0
    · rintro ρ h'' ⟨rfl, _, ⟨x5, x6, x7, rfl⟩, J⟩
      exact ⟨rfl, by omega, ⟨_, _, _, _, _, _, rfl⟩, nxtR i0 ea (fun k y e => J k y (by have := (List.getElem?_eq_some_iff.mp e).1; simp; omega) e) I⟩
  · rintro ρ h' ⟨rfl, _, e, I⟩
    exact ⟨rfl, fun k row e => I k row (by have := (List.getElem?_eq_some_iff.mp e).1; simp; omega) e⟩

end Cl
namespace Cl
open PySem PySem.Spec PyProof.Rows L2
theorem sat_mYes {P : Bool → CH → Prop} {E : ExP} {ρ : Rho} {h : CH} : (mYes ρ h).sat P E ↔ P true h := Iff.rfl
theorem sat_whyO {s : Str} {n : Nat} {l : List HdC} {o : Out Dt} {P : Dt → CH → Prop} {E : ExP} (x : o.sat (fun d h => P (.tup [.str s, d]) h) (fun c fs h => (tryH c fs (List.replicate n none) h l).out.sat P E)) : (whyO s n l o).sat P E := by
  cases o with
  | ok d h => exact x
  | exc c fs h => exact x
  | bad => exact x.elim
theorem pListR {r : Nat} {h : CH} {ds : List Dt} (e : lstAt h r = some ds) : pList [.ref r] h = some (.ref h.length, h ++ [.lst ds]) := by
  show (lstAt h r).map _ = _
  rw [e]; rfl
/-- a comprehension that copies each row -/
theorem copy_spec {h : CH} {p : Nat} {L : List (List Q2)} {v : Nat} {ρ : Rho} {x : Nat} {E : ExP} {P : Dt → CH → Prop} (V : View h p L) (hx : ρ[x]? = some (some (.ref p))) (hv : v < ρ.length) (fin : ∀ (d : Nat) h', Fr [] h h' → View h' d L → h.length ≤ d → P (.ref d) h') :
    (eLc [v] (.nm v) (mSeq (eVar x)) mYes (eBlt pList (aCons (eVar v) aNil)) ρ h).sat P E := by
  obtain ⟨Pl, e, rr⟩ := V.ex
  have hlen := rr.len
  have few := V.few.1
  simp only [sat_eLc, sat_mSeq, sat_eVar, hx, sat_opt, seqG, e]
  refine sat_lcL (I := fun l acc h' => Fr [] h h' ∧ ∃ (k : Nat) (acc' : List Nat), l = (Pl.drop k).map .ref ∧ acc = acc'.map .ref ∧ k ≤ Pl.length ∧ Rows [] h' acc' (L.take k) ∧ ∀ r ∈ acc', h.length ≤ r) ?_ ?_ ?_ _ _ _ ⟨.rf, 0, [], by rw [List.drop_zero], rfl, by omega, by rw [List.take_zero]; trivial, by simp⟩
  · rintro l acc h' ⟨F, _⟩
    exact okG_lst (lstAt_get (F.at_ e (by simp)))
  · rintro d r acc h' ⟨F, k, acc', el, rfl, hk, RR, nn⟩
    cases q : Pl.drop k with
    | nil => rw [q] at el; cases el
    | cons w ws =>
      rw [q, List.map_cons] at el
      obtain ⟨rfl, rfl⟩ := List.cons.inj el
      have hx2 : Pl[k]? = some w := by
        have := congrArg (fun l => l[0]?) q
        simpa using this
      have hws : ws = Pl.drop (k + 1) := by
        have := congrArg List.tail q
        simpa using this.symm
      have hk2 := (List.getElem?_eq_some_iff.mp hx2).1
      obtain ⟨row, e2, e3, _⟩ := rr.get hx2
      have al := RR.len
      rw [List.length_take] at al
      refine ⟨_, rfl, ?_⟩
      have hv2 : (setR (wipeR ρ [v]) [(v, .ref w)])[v]? = some (some (.ref w)) := by
        show ((ρ.set v none).set v (some (.ref w)))[v]? = _
        rw [List.getElem?_set_self (by simpa using hv)]
      simp only [sat_mYes, if_true, sat_eBlt, sat_aCons, sat_eVar, hv2, sat_aNil, sat_pr, pListR (F.at_ e3 (by simp))]
      refine ⟨by rw [List.length_map, sz]; omega, F.ap, k + 1, acc' ++ [h'.length], by rw [hws], by rw [List.map_append]; rfl, by omega, ?_, ?_⟩
      · have : L.take (k + 1) = L.take k ++ [row] := by
          rw [List.take_add_one, e2]; rfl
        rw [this]
        exact (RR.fr (.app : Fr [] h' _)).snoc lstAt_new (by simp)
      · intro r hr
        have := F.len
        rcases List.mem_append.mp hr with z | z
        · exact nn r z
        · rw [List.mem_singleton.mp z]; omega
  · rintro acc h' ⟨F, k, acc', el, rfl, hk, RR, nn⟩
    have hk2 : k = Pl.length := by
      cases q : Pl.drop k with
      | nil =>
        have := congrArg List.length q
        simp at this
        omega
      | cons w ws => rw [q] at el; cases el
    subst hk2
    rw [hlen, List.take_length] at RR
    exact fin h'.length _ F.ap ⟨⟨acc', lstAt_new, RR.fr (.app : Fr [] h' _)⟩, V.sm, V.few⟩ F.len
/-- what a lattice's making ends in -/
def XDue (A B C : List (List Q2)) (c : Str) (fs : List (Str × Dt)) : Prop := (c = "BadShape" ∧ fs = xFlds "BadShape" [] [] ∧ Due A B C (.tup [.str "BadShape"])) ∨ ∃ (s : Str) (i j : Nat), (s = "BadPrice" ∨ s = "BadRate" ∨ s = "BadStep") ∧ c = s ∧ fs = xFlds s ["date", "node"] [.int i, .int j] ∧ Due A B C (.tup [.str s, .int i, .int j])
theorem xdue_told {A B C : List (List Q2)} {c : Str} {fs : List (Str × Dt)} {h : CH} (x : XDue A B C c fs) : (tryH c fs (List.replicate 2 none) h hds_law_why).out.sat (fun d h' => h' = h ∧ Due A B C d ∧ ((d = .tup [.str "BadShape"]) ∨ ∃ (s : Str) (i j : Nat), (s = "BadPrice" ∨ s = "BadRate" ∨ s = "BadStep") ∧ d = .tup [.str s, .int i, .int j])) noE := by
  rcases x with ⟨rfl, rfl, D⟩ | ⟨s, i, j, hs, rfl, rfl, D⟩
  · have e : (tryH "BadShape" (xFlds "BadShape" [] []) (List.replicate 2 none) h hds_law_why).out = .ok (.tup [.str "BadShape"]) h := rfl
    rw [e]
    exact ⟨rfl, D, .inl rfl⟩
  · rcases hs with rfl | rfl | rfl
    · have e : (tryH "BadPrice" (xFlds "BadPrice" ["date", "node"] [.int i, .int j]) (List.replicate 2 none) h hds_law_why).out = .ok (.tup [.str "BadPrice", .int i, .int j]) h := rfl
      rw [e]
      exact ⟨rfl, D, .inr ⟨_, i, j, .inl rfl, rfl⟩⟩
    · have e : (tryH "BadRate" (xFlds "BadRate" ["date", "node"] [.int i, .int j]) (List.replicate 2 none) h hds_law_why).out = .ok (.tup [.str "BadRate", .int i, .int j]) h := rfl
      rw [e]
      exact ⟨rfl, D, .inr ⟨_, i, j, .inr (.inl rfl), rfl⟩⟩
    · have e : (tryH "BadStep" (xFlds "BadStep" ["date", "node"] [.int i, .int j]) (List.replicate 2 none) h hds_law_why).out = .ok (.tup [.str "BadStep", .int i, .int j]) h := rfl
      rw [e]
      exact ⟨rfl, D, .inr ⟨_, i, j, .inr (.inr rfl), rfl⟩⟩

end Cl
namespace Cl
open PySem PySem.Spec PyProof.Rows L2
theorem View.mem {h : CH} {p : Nat} {L : List (List Q2)} (v : View h p L) : ∃ P : List Nat, lstAt h p = some (P.map .ref) ∧ P.length ≤ 1000 ∧ ∀ r ∈ P, ∃ row : List Q2, lstAt h r = some (row.map am) ∧ row.length ≤ 1000 := by
  have fl := v.few.2
  obtain ⟨⟨P, e, rr⟩, s, k, _⟩ := v
  refine ⟨P, e, by rw [rr.len]; exact k, fun r hr => ?_⟩
  obtain ⟨row, hm, e2, _⟩ := rr.mem hr
  exact ⟨row, e2, fl row hm⟩
theorem pairs_spec {h : CH} {r : Nat} {row : List Q2} {ρ : Rho} {E : ExP} {P : Dt → CH → Prop} (e : lstAt h r = some (row.map am)) (fw : row.length ≤ 1000) (hx : ρ[4]? = some (some (.ref r))) (hl : ρ.length = 7) (fin : ∀ (d : Nat) h', Fr [] h h' → P (.ref d) h') :
    (eLc [5, 6] (.tup [(.nm 5), (.nm 6)]) (mSeq (eVar 4)) mYes (eTup (aCons (eVar 5) (aCons (eVar 6) aNil))) ρ h).sat P E := by
  simp only [sat_eLc, sat_mSeq, sat_eVar, hx, sat_opt, seqG, e]
  refine sat_lcL (I := fun l acc h' => Fr [] h h' ∧ (∃ l2 : List Q2, l = l2.map am) ∧ acc.length + l.length ≤ 1000) ?_ ?_ ?_ _ _ _ ⟨.rf, ⟨_, rfl⟩, by simp; exact fw⟩
  · rintro l acc h' ⟨F, _⟩
    exact okG_lst (lstAt_get (F.at_ e (by simp)))
  · rintro d l acc h' ⟨F, ⟨l2, el⟩, hn⟩
    cases l2 with
    | nil => cases el
    | cons x l2 =>
      rw [List.map_cons] at el
      obtain ⟨rfl, rfl⟩ := List.cons.inj el
      refine ⟨[(5, .int x.1), (6, .int x.2)], rfl, ?_⟩
      have a5 : (setR (wipeR ρ [5, 6]) [(5, .int x.1), (6, .int x.2)])[5]? = some (some (.int x.1)) := by
        simp [setR, wipeR, hl]
      have a6 : (setR (wipeR ρ [5, 6]) [(5, .int x.1), (6, .int x.2)])[6]? = some (some (.int x.2)) := by
        simp [setR, wipeR, hl]
      simp only [sat_mYes, if_true, sat_eTup, sat_aCons, sat_eVar, a5, a6, sat_aNil, sz, List.length_cons, List.length_nil, Nat.reduceAdd, Nat.reduceLeDiff]
      rw [List.length_cons] at hn
      exact ⟨by omega, F, ⟨_, rfl⟩, by rw [List.length_append]; simp at hn ⊢; omega⟩
  · rintro acc h' ⟨F, _⟩
    exact fin _ _ F.ap
theorem stepsC_spec {h : CH} {p : Nat} {L : List (List Q2)} {ρ : Rho} {E : ExP} {P : Dt → CH → Prop} (V : View h p L) (hx : ρ[3]? = some (some (.ref p))) (hl : ρ.length = 7) (fin : ∀ (d : Nat) h', Fr [] h h' → P (.ref d) h') :
    (eLc [4] (.nm 4) (mSeq (eVar 3)) mYes (eLc [5, 6] (.tup [(.nm 5), (.nm 6)]) (mSeq (eVar 4)) mYes (eTup (aCons (eVar 5) (aCons (eVar 6) aNil)))) ρ h).sat P E := by
  obtain ⟨Pl, e, few, mm⟩ := V.mem
  rw [sat_eLc]
  simp only [sat_mSeq, sat_eVar, hx, sat_opt, seqG, e]
  refine sat_lcL (I := fun l acc h' => Fr [] h h' ∧ (∃ l2 : List Nat, l = l2.map .ref ∧ ∀ r ∈ l2, r ∈ Pl) ∧ acc.length + l.length ≤ 1000) ?_ ?_ ?_ _ _ _ ⟨.rf, ⟨_, rfl, fun _ z => z⟩, by simp; exact few⟩
  · rintro l acc h' ⟨F, _⟩
    exact okG_lst (lstAt_get (F.at_ e (by simp)))
  · rintro d l acc h' ⟨F, ⟨l2, el, hm⟩, hn⟩
    cases l2 with
    | nil => cases el
    | cons r l2 =>
      rw [List.map_cons] at el
      obtain ⟨rfl, rfl⟩ := List.cons.inj el
      obtain ⟨row, e2, e3⟩ := mm r (hm r (by simp))
      refine ⟨[(4, .ref r)], rfl, ?_⟩
      simp only [sat_mYes, if_true]
      refine pairs_spec (F.at_ e2 (by simp)) e3 (by simp [setR, wipeR, hl]) (by simp [setR, wipeR, hl]) fun d h2 F2 => ?_
      rw [List.length_cons] at hn
      exact ⟨by rw [sz]; omega, F.trans F2, ⟨_, rfl, fun r hr => hm r (by simp [hr])⟩, by rw [List.length_append]; simp at hn ⊢; omega⟩
  · rintro acc h' ⟨F, _⟩
    exact fin _ _ F.ap
theorem put_ins {h : CH} {n : Nat} {fs : List (Str × Dt)} {f : Str} {v : Dt} (e : h[n]? = some (.ins "Lattice" fs)) (hl : fs.length < 1000) : putIns "Lattice" f (.ref n) v h = some (h.set n (.ins "Lattice" (putD f v fs))) := by
  unfold putIns
  dsimp only
  rw [e]
  exact if_pos ⟨rfl, hl⟩
theorem init_spec {h0 : CH} {n p q s : Nat} {A B C : List (List Q2)} (V0 : VW h0 n p q s A B C) : (F_Lattice__init [.ref h0.length, .ref p, .ref q, .ref s] (h0 ++ [.ins "Lattice" []])).sat (fun d h' => d = .non ∧ Fr [] h0 h' ∧ Due A B C .non) (fun c fs h' => Fr [] h0 h' ∧ XDue A B C c fs) := by
  have F1 : Fr [] h0 (h0 ++ [Ce.ins "Lattice" []]) := .app
  have V := V0.fr F1
  have ein : (h0 ++ [Ce.ins "Lattice" []])[h0.length]? = some (.ins "Lattice" []) := by simp
  have hlt : h0.length < (h0 ++ [Ce.ins "Lattice" []]).length := by simp
  generalize h0 ++ [Ce.ins "Lattice" []] = h at F1 V ein hlt ⊢
  refine sat_run rfl ?_
  unfold m_Lattice__init m_Lattice__init_1
  simp only [sat_ok, sat_bind, sat_pr, sat_opt, sat_eC, sat_eVar, sat_eBin, sat_eUn, sat_mBl, sat_mTru, sat_mNot, sat_mAnd, sat_mOr, sat_eAnd, sat_eOr, sat_eNot, sat_eIf, sat_eChain, sat_aNil, sat_aCons, sat_ofLen, sat_eTup, sat_eLst, sat_eBlt, sat_eMth, sat_oNone, sat_oSome, sat_eSl, sat_eFn, sat_eFnK, sat_sNext, sat_sSeq, sat_sEx, sat_sRet, sat_sRetN, sat_sIf, sat_sSet, sat_sPar, sat_sPar3, sat_sStore, sat_sRaise, sat_sFor, sat_mSeq, sat_mRange, sat_mEnum, sat_mZip, sat_eLc, sat_eLenSet, sat_eDic, sat_evalP, sat_evalP0, sat_eFld, sat_sFldS, sat_eMk, sat_init, List.getElem?_cons_zero, List.getElem?_cons_succ, List.map_cons, List.map_nil, List.length_cons, List.length_nil, List.replicate, List.nil_append, List.cons_append, List.append_nil, List.set_cons_zero, List.set_cons_succ, asBl, Nat.sub_self, Nat.reduceSub, Nat.reduceAdd]
  refine (look_shape_spec V).mono ?_ fun c fs h' ⟨e, e1, e2, x⟩ => ⟨by rw [e]; exact F1, .inl ⟨e1, e2, .shape x⟩⟩
  rintro d h' ⟨rfl, S⟩
  unfold m_Lattice__init_2
  simp only [sat_ok, sat_bind, sat_pr, sat_opt, sat_eC, sat_eVar, sat_eBin, sat_eUn, sat_mBl, sat_mTru, sat_mNot, sat_mAnd, sat_mOr, sat_eAnd, sat_eOr, sat_eNot, sat_eIf, sat_eChain, sat_aNil, sat_aCons, sat_ofLen, sat_eTup, sat_eLst, sat_eBlt, sat_eMth, sat_oNone, sat_oSome, sat_eSl, sat_eFn, sat_eFnK, sat_sNext, sat_sSeq, sat_sEx, sat_sRet, sat_sRetN, sat_sIf, sat_sSet, sat_sPar, sat_sPar3, sat_sStore, sat_sRaise, sat_sFor, sat_mSeq, sat_mRange, sat_mEnum, sat_mZip, sat_eLc, sat_eLenSet, sat_eDic, sat_evalP, sat_evalP0, sat_eFld, sat_sFldS, sat_eMk, sat_init, List.getElem?_cons_zero, List.getElem?_cons_succ, List.map_cons, List.map_nil, List.length_cons, List.length_nil, List.replicate, List.nil_append, List.cons_append, List.append_nil, List.set_cons_zero, List.set_cons_succ, asBl, Nat.sub_self, Nat.reduceSub, Nat.reduceAdd, if_true]
  refine (look_above_spec (f := false) V.a).mono ?_ fun c fs h' ⟨e, i, j, e1, e2, x⟩ => ⟨by rw [e]; exact F1, .inr ⟨"BadPrice", i, j, .inl rfl, e1, e2, .price S x⟩⟩
  rintro d h' ⟨rfl, nA⟩
  unfold m_Lattice__init_3
  simp only [sat_ok, sat_bind, sat_pr, sat_opt, sat_eC, sat_eVar, sat_eBin, sat_eUn, sat_mBl, sat_mTru, sat_mNot, sat_mAnd, sat_mOr, sat_eAnd, sat_eOr, sat_eNot, sat_eIf, sat_eChain, sat_aNil, sat_aCons, sat_ofLen, sat_eTup, sat_eLst, sat_eBlt, sat_eMth, sat_oNone, sat_oSome, sat_eSl, sat_eFn, sat_eFnK, sat_sNext, sat_sSeq, sat_sEx, sat_sRet, sat_sRetN, sat_sIf, sat_sSet, sat_sPar, sat_sPar3, sat_sStore, sat_sRaise, sat_sFor, sat_mSeq, sat_mRange, sat_mEnum, sat_mZip, sat_eLc, sat_eLenSet, sat_eDic, sat_evalP, sat_evalP0, sat_eFld, sat_sFldS, sat_eMk, sat_init, List.getElem?_cons_zero, List.getElem?_cons_succ, List.map_cons, List.map_nil, List.length_cons, List.length_nil, List.replicate, List.nil_append, List.cons_append, List.append_nil, List.set_cons_zero, List.set_cons_succ, asBl, Nat.sub_self, Nat.reduceSub, Nat.reduceAdd, if_true]
  refine (look_above_spec (f := true) V.b).mono ?_ fun c fs h' ⟨e, i, j, e1, e2, x⟩ => ⟨by rw [e]; exact F1, .inr ⟨"BadRate", i, j, .inr (.inl rfl), e1, e2, .rate S nA x⟩⟩
  rintro d h' ⟨rfl, nB⟩
  unfold m_Lattice__init_4
  simp only [sat_ok, sat_bind, sat_pr, sat_opt, sat_eC, sat_eVar, sat_eBin, sat_eUn, sat_mBl, sat_mTru, sat_mNot, sat_mAnd, sat_mOr, sat_eAnd, sat_eOr, sat_eNot, sat_eIf, sat_eChain, sat_aNil, sat_aCons, sat_ofLen, sat_eTup, sat_eLst, sat_eBlt, sat_eMth, sat_oNone, sat_oSome, sat_eSl, sat_eFn, sat_eFnK, sat_sNext, sat_sSeq, sat_sEx, sat_sRet, sat_sRetN, sat_sIf, sat_sSet, sat_sPar, sat_sPar3, sat_sStore, sat_sRaise, sat_sFor, sat_mSeq, sat_mRange, sat_mEnum, sat_mZip, sat_eLc, sat_eLenSet, sat_eDic, sat_evalP, sat_evalP0, sat_eFld, sat_sFldS, sat_eMk, sat_init, List.getElem?_cons_zero, List.getElem?_cons_succ, List.map_cons, List.map_nil, List.length_cons, List.length_nil, List.replicate, List.nil_append, List.cons_append, List.append_nil, List.set_cons_zero, List.set_cons_succ, asBl, Nat.sub_self, Nat.reduceSub, Nat.reduceAdd]
  refine (look_steps_spec V S).mono ?_ fun c fs h' ⟨e, i, j, e1, e2, x⟩ => ⟨by rw [e]; exact F1, .inr ⟨"BadStep", i, j, .inr (.inr rfl), e1, e2, .step S nA nB x⟩⟩
  rintro d h' ⟨rfl, nC⟩
  have D : Due A B C .non := .good S nA nB nC
  unfold m_Lattice__init_5
  rw [sat_sFldS]
  refine copy_spec V.a (x := 1) (v := 4) rfl (by simp) fun d1 h2 F2 _ _ => ?_
  have ein2 : h2[h0.length]? = some (.ins "Lattice" []) := by rw [F2.same _ hlt (by simp)]; exact ein
  simp only [sat_ok, sat_bind, sat_pr, sat_opt, sat_eC, sat_eVar, sat_eBin, sat_eUn, sat_mBl, sat_mTru, sat_mNot, sat_mAnd, sat_mOr, sat_eAnd, sat_eOr, sat_eNot, sat_eIf, sat_eChain, sat_aNil, sat_aCons, sat_ofLen, sat_eTup, sat_eLst, sat_eBlt, sat_eMth, sat_oNone, sat_oSome, sat_eSl, sat_eFn, sat_eFnK, sat_sNext, sat_sSeq, sat_sEx, sat_sRet, sat_sRetN, sat_sIf, sat_sSet, sat_sPar, sat_sPar3, sat_sStore, sat_sRaise, sat_sFor, sat_mSeq, sat_mRange, sat_mEnum, sat_mZip, sat_eLc, sat_eLenSet, sat_eDic, sat_evalP, sat_evalP0, sat_eFld, sat_sFldS, sat_eMk, sat_init, List.getElem?_cons_zero, List.getElem?_cons_succ, List.map_cons, List.map_nil, List.length_cons, List.length_nil, List.replicate, List.nil_append, List.cons_append, List.append_nil, List.set_cons_zero, List.set_cons_succ, asBl, Nat.sub_self, Nat.reduceSub, Nat.reduceAdd, put_ins ein2 (show ([] : List (Str × Dt)).length < 1000 by decide)]
  have hl2 : h0.length < h2.length := Nat.lt_of_lt_of_le hlt F2.len
  have G2 : Fr [] h0 (h2.set h0.length (.ins "Lattice" (putD "prices" (.ref d1) []))) := (F1.trans F2).new (ex2 := [h0.length]) (.set (by simp)) (by simp)
  have ein3 : (h2.set h0.length (.ins "Lattice" (putD "prices" (.ref d1) [])))[h0.length]? = some (.ins "Lattice" (putD "prices" (.ref d1) [])) := List.getElem?_set_self hl2
  have hl3 : h0.length < (h2.set h0.length (.ins "Lattice" (putD "prices" (.ref d1) []))).length := by simpa using hl2
  generalize h2.set h0.length (.ins "Lattice" (putD "prices" (.ref d1) [])) = h3 at G2 ein3 hl3 ⊢
  unfold m_Lattice__init_6
  rw [sat_sFldS]
  refine copy_spec (V0.fr G2).b (x := 2) (v := 4) rfl (by simp) fun d2 h4 F4 _ _ => ?_
  have ein4 : h4[h0.length]? = some (.ins "Lattice" (putD "prices" (.ref d1) [])) := by rw [F4.same _ hl3 (by simp)]; exact ein3
  simp only [sat_ok, sat_bind, sat_pr, sat_opt, sat_eC, sat_eVar, sat_eBin, sat_eUn, sat_mBl, sat_mTru, sat_mNot, sat_mAnd, sat_mOr, sat_eAnd, sat_eOr, sat_eNot, sat_eIf, sat_eChain, sat_aNil, sat_aCons, sat_ofLen, sat_eTup, sat_eLst, sat_eBlt, sat_eMth, sat_oNone, sat_oSome, sat_eSl, sat_eFn, sat_eFnK, sat_sNext, sat_sSeq, sat_sEx, sat_sRet, sat_sRetN, sat_sIf, sat_sSet, sat_sPar, sat_sPar3, sat_sStore, sat_sRaise, sat_sFor, sat_mSeq, sat_mRange, sat_mEnum, sat_mZip, sat_eLc, sat_eLenSet, sat_eDic, sat_evalP, sat_evalP0, sat_eFld, sat_sFldS, sat_eMk, sat_init, List.getElem?_cons_zero, List.getElem?_cons_succ, List.map_cons, List.map_nil, List.length_cons, List.length_nil, List.replicate, List.nil_append, List.cons_append, List.append_nil, List.set_cons_zero, List.set_cons_succ, asBl, Nat.sub_self, Nat.reduceSub, Nat.reduceAdd, put_ins ein4 (show (putD "prices" (.ref d1) []).length < 1000 from (show 1 < 1000 by omega))]
  have hl4 : h0.length < h4.length := Nat.lt_of_lt_of_le hl3 F4.len
  have G4 : Fr [] h0 (h4.set h0.length (.ins "Lattice" (putD "rates" (.ref d2) (putD "prices" (.ref d1) [])))) := (G2.trans F4).new (ex2 := [h0.length]) (.set (by simp)) (by simp)
  have ein5 : (h4.set h0.length (.ins "Lattice" (putD "rates" (.ref d2) (putD "prices" (.ref d1) []))))[h0.length]? = some (.ins "Lattice" (putD "rates" (.ref d2) (putD "prices" (.ref d1) []))) := List.getElem?_set_self hl4
  have hl5 : h0.length < (h4.set h0.length (.ins "Lattice" (putD "rates" (.ref d2) (putD "prices" (.ref d1) [])))).length := by simpa using hl4
  generalize h4.set h0.length (.ins "Lattice" (putD "rates" (.ref d2) (putD "prices" (.ref d1) []))) = h5 at G4 ein5 hl5 ⊢
  unfold m_Lattice__init_7
  rw [sat_sFldS]
  refine stepsC_spec (V0.fr G4).c rfl rfl fun d3 h6 F6 => ?_
  have ein6 : h6[h0.length]? = some (.ins "Lattice" (putD "rates" (.ref d2) (putD "prices" (.ref d1) []))) := by rw [F6.same _ hl5 (by simp)]; exact ein5
  simp only [sat_ok, sat_bind, sat_pr, sat_opt, sat_eC, sat_eVar, sat_eBin, sat_eUn, sat_mBl, sat_mTru, sat_mNot, sat_mAnd, sat_mOr, sat_eAnd, sat_eOr, sat_eNot, sat_eIf, sat_eChain, sat_aNil, sat_aCons, sat_ofLen, sat_eTup, sat_eLst, sat_eBlt, sat_eMth, sat_oNone, sat_oSome, sat_eSl, sat_eFn, sat_eFnK, sat_sNext, sat_sSeq, sat_sEx, sat_sRet, sat_sRetN, sat_sIf, sat_sSet, sat_sPar, sat_sPar3, sat_sStore, sat_sRaise, sat_sFor, sat_mSeq, sat_mRange, sat_mEnum, sat_mZip, sat_eLc, sat_eLenSet, sat_eDic, sat_evalP, sat_evalP0, sat_eFld, sat_sFldS, sat_eMk, sat_init, List.getElem?_cons_zero, List.getElem?_cons_succ, List.map_cons, List.map_nil, List.length_cons, List.length_nil, List.replicate, List.nil_append, List.cons_append, List.append_nil, List.set_cons_zero, List.set_cons_succ, asBl, Nat.sub_self, Nat.reduceSub, Nat.reduceAdd, put_ins ein6 (show (putD "rates" (.ref d2) (putD "prices" (.ref d1) [])).length < 1000 from (show 2 < 1000 by omega))]
  exact ⟨trivial, (G4.trans F6).new (ex2 := [h0.length]) (.set (by simp)) (by simp), D⟩
/-- what the law is told -/
def Told (A B C : List (List Q2)) (d : Dt) : Prop := (∃ x, d = .tup [.str "told", x] ∧ Due A B C .non) ∨ (Due A B C d ∧ ((d = .tup [.str "BadShape"]) ∨ ∃ (s : Str) (i j : Nat), (s = "BadPrice" ∨ s = "BadRate" ∨ s = "BadStep") ∧ d = .tup [.str s, .int i, .int j]))
theorem why_spec {h : CH} {n p q s : Nat} {A B C : List (List Q2)} (V : VW h n p q s A B C) : (whyO "told" 2 hds_law_why (F_law_web [.ref n] h)).sat (fun d h' => Fr [] h h' ∧ Told A B C d) noE := by
  obtain ⟨ga, gb, gc⟩ := V.gets
  refine sat_whyO (sat_run rfl ?_)
  unfold m_law_web
  simp only [sat_ok, sat_bind, sat_pr, sat_opt, sat_eC, sat_eVar, sat_eBin, sat_eUn, sat_mBl, sat_mTru, sat_mNot, sat_mAnd, sat_mOr, sat_eAnd, sat_eOr, sat_eNot, sat_eIf, sat_eChain, sat_aNil, sat_aCons, sat_ofLen, sat_eTup, sat_eLst, sat_eBlt, sat_eMth, sat_oNone, sat_oSome, sat_eSl, sat_eFn, sat_eFnK, sat_sNext, sat_sSeq, sat_sEx, sat_sRet, sat_sRetN, sat_sIf, sat_sSet, sat_sPar, sat_sPar3, sat_sStore, sat_sRaise, sat_sFor, sat_mSeq, sat_mRange, sat_mEnum, sat_mZip, sat_eLc, sat_eLenSet, sat_eDic, sat_evalP, sat_evalP0, sat_eFld, sat_sFldS, sat_eMk, sat_init, List.getElem?_cons_zero, List.getElem?_cons_succ, List.map_cons, List.map_nil, List.length_cons, List.length_nil, List.replicate, List.nil_append, List.cons_append, List.append_nil, List.set_cons_zero, List.set_cons_succ, asBl, Nat.sub_self, Nat.reduceSub, Nat.reduceAdd, ga, gb, gc]
  refine (init_spec V).mono ?_ ?_
  · rintro d h' ⟨rfl, F, D⟩
    exact ⟨F, .inl ⟨_, rfl, D⟩⟩
  · rintro c fs h' ⟨F, X⟩
    exact (xdue_told X).mono (fun d h2 ⟨e, D, z⟩ => ⟨by rw [e]; exact F, .inr ⟨D, z⟩⟩) fun _ _ _ z => z

end Cl
namespace Cl
open PySem PySem.Spec PyProof.Rows L2
/-- the same, from any source -/
theorem copy_spec2 {h : CH} {p : Nat} {L : List (List Q2)} {v : Nat} {ρ : Rho} {me : ME} {E : ExP} {P : Dt → CH → Prop} (V : View h p L) (hx : me (wipeR ρ []) h = .ok (.ref p) h) (hv : v < ρ.length) (fin : ∀ (d : Nat) h', Fr [] h h' → View h' d L → h.length ≤ d → P (.ref d) h') :
    (eLc [v] (.nm v) (mSeq me) mYes (eBlt pList (aCons (eVar v) aNil)) ρ h).sat P E := by
  obtain ⟨Pl, e, rr⟩ := V.ex
  have hlen := rr.len
  have few := V.few.1
  have hx : me ρ h = .ok (.ref p) h := hx
  simp only [sat_eLc, sat_mSeq, hx, sat_ok, sat_opt, seqG, e]
  refine sat_lcL (I := fun l acc h' => Fr [] h h' ∧ ∃ (k : Nat) (acc' : List Nat), l = (Pl.drop k).map .ref ∧ acc = acc'.map .ref ∧ k ≤ Pl.length ∧ Rows [] h' acc' (L.take k) ∧ ∀ r ∈ acc', h.length ≤ r) ?_ ?_ ?_ _ _ _ ⟨.rf, 0, [], by rw [List.drop_zero], rfl, by omega, by rw [List.take_zero]; trivial, by simp⟩
  · rintro l acc h' ⟨F, _⟩
    exact okG_lst (lstAt_get (F.at_ e (by simp)))
  · rintro d r acc h' ⟨F, k, acc', el, rfl, hk, RR, nn⟩
    cases q : Pl.drop k with
    | nil => rw [q] at el; cases el
    | cons w ws =>
      rw [q, List.map_cons] at el
      obtain ⟨rfl, rfl⟩ := List.cons.inj el
      have hx2 : Pl[k]? = some w := by
        have := congrArg (fun l => l[0]?) q
        simpa using this
      have hws : ws = Pl.drop (k + 1) := by
        have := congrArg List.tail q
        simpa using this.symm
      have hk2 := (List.getElem?_eq_some_iff.mp hx2).1
      obtain ⟨row, e2, e3, _⟩ := rr.get hx2
      have al := RR.len
      rw [List.length_take] at al
      refine ⟨_, rfl, ?_⟩
      have hv2 : (setR (wipeR ρ [v]) [(v, .ref w)])[v]? = some (some (.ref w)) := by
        show ((ρ.set v none).set v (some (.ref w)))[v]? = _
        rw [List.getElem?_set_self (by simpa using hv)]
      simp only [sat_mYes, if_true, sat_eBlt, sat_aCons, sat_eVar, hv2, sat_aNil, sat_pr, pListR (F.at_ e3 (by simp))]
      refine ⟨by rw [List.length_map, sz]; omega, F.ap, k + 1, acc' ++ [h'.length], by rw [hws], by rw [List.map_append]; rfl, by omega, ?_, ?_⟩
      · have : L.take (k + 1) = L.take k ++ [row] := by
          rw [List.take_add_one, e2]; rfl
        rw [this]
        exact (RR.fr (.app : Fr [] h' _)).snoc lstAt_new (by simp)
      · intro r hr
        have := F.len
        rcases List.mem_append.mp hr with z | z
        · exact nn r z
        · rw [List.mem_singleton.mp z]; omega
  · rintro acc h' ⟨F, k, acc', el, rfl, hk, RR, nn⟩
    have hk2 : k = Pl.length := by
      cases q : Pl.drop k with
      | nil =>
        have := congrArg List.length q
        simp at this
        omega
      | cons w ws => rw [q] at el; cases el
    subst hk2
    rw [hlen, List.take_length] at RR
    exact fin h'.length _ F.ap ⟨⟨acc', lstAt_new, RR.fr (.app : Fr [] h' _)⟩, V.sm, V.few⟩ F.len
/-! ## the same -/
theorem same_int {k : Nat} {i : Int} {h : CH} : F_law_same (k + 1) [.int i, .int i] h = .ok (.bl true) h := by
  refine sat_eq (sat_run rfl ?_)
  unfold m_law_same
  have e1 : pIsN (.int i) .non h = some (.bl false, h) := rfl
  have e2 : pIsi [.int i, .ty "list"] h = some (.bl false, h) := rfl
  have e3 : pIsi [.int i, .ty "tuple"] h = some (.bl false, h) := rfl
  have e4 : pIsi [.int i, .ty "bool"] h = some (.bl false, h) := rfl
  have e5 : pIsi [.int i, .ty "int"] h = some (.bl true, h) := rfl
  have e6 : pIsi [.int i, .ty "str"] h = some (.bl false, h) := rfl
  have e7 : pNe (.bl false) (.bl false) h = some (.bl false, h) := rfl
  have e8 : pNe (.bl true) (.bl true) h = some (.bl false, h) := rfl
  have e9 : pEq (.bl false) (.bl false) h = some (.bl true, h) := rfl
  have e10 : pEq (.int i) (.int i) h = some (.bl true, h) := by rw [pEq_int, beq_self_eq_true]
  simp only [sat_ok, sat_bind, sat_pr, sat_opt, sat_eC, sat_eVar, sat_eBin, sat_eUn, sat_mBl, sat_mTru, sat_mNot, sat_mAnd, sat_mOr, sat_eAnd, sat_eOr, sat_eNot, sat_eIf, sat_eChain2, sat_aNil, sat_aCons, sat_ofLen, sat_eTup, sat_eLst, sat_eBlt, sat_eMth, sat_oNone, sat_oSome, sat_eSl, sat_eFn, sat_eFnK, sat_sNext, sat_sSeq, sat_sEx, sat_sRet, sat_sRetN, sat_sIf, sat_sSet, sat_sPar, sat_sPar3, sat_sStore, sat_sRaise, sat_sFor, sat_mSeq, sat_mRange, sat_mEnum, sat_mZip, sat_eLc, sat_eLenSet, sat_eDic, sat_evalP, sat_evalP0, sat_eFld, sat_sFldS, sat_eMk, sat_init, List.getElem?_cons_zero, List.getElem?_cons_succ, List.map_cons, List.map_nil, List.length_cons, List.length_nil, List.replicate, List.nil_append, List.cons_append, List.append_nil, List.set_cons_zero, List.set_cons_succ, asBl, Nat.sub_self, Nat.reduceSub, Nat.reduceAdd, if_true, if_false, Bool.false_eq_true, Bool.not_true, Bool.not_false, decide_eq_true_eq, e1, e2, e3, e4, e5, e6, e7, e8, e9, e10, tru]
  exact ⟨trivial, trivial⟩
theorem same_str {k : Nat} {s : Str} {h : CH} (hs : s = "BadShape" ∨ s = "BadPrice" ∨ s = "BadRate" ∨ s = "BadStep") : F_law_same (k + 1) [.str s, .str s] h = .ok (.bl true) h := by
  refine sat_eq (sat_run rfl ?_)
  unfold m_law_same
  have e1 : pIsN (.str s) .non h = some (.bl false, h) := rfl
  have e2 : pIsi [.str s, .ty "list"] h = some (.bl false, h) := rfl
  have e3 : pIsi [.str s, .ty "tuple"] h = some (.bl false, h) := rfl
  have e4 : pIsi [.str s, .ty "bool"] h = some (.bl false, h) := rfl
  have e5 : pIsi [.str s, .ty "int"] h = some (.bl false, h) := rfl
  have e6 : pIsi [.str s, .ty "str"] h = some (.bl true, h) := rfl
  have e7 : pNe (.bl false) (.bl false) h = some (.bl false, h) := rfl
  have e9 : pEq (.bl true) (.bl true) h = some (.bl true, h) := rfl
  have e10 : pEq (.str s) (.str s) h = some (.bl true, h) := by
    have hp : toPy h 10 (.str s) = some (.str s) := by
      have hk : PyData.strOk s = true := by rcases hs with rfl | rfl | rfl | rfl <;> decide +kernel
      show (if PyData.strOk s = true then some (PyData.str s) else none) = _
      rw [if_pos hk]
    unfold pEq eqB
    rw [hp]
    simp [PyData.eqv]
  simp only [sat_ok, sat_bind, sat_pr, sat_opt, sat_eC, sat_eVar, sat_eBin, sat_eUn, sat_mBl, sat_mTru, sat_mNot, sat_mAnd, sat_mOr, sat_eAnd, sat_eOr, sat_eNot, sat_eIf, sat_eChain2, sat_aNil, sat_aCons, sat_ofLen, sat_eTup, sat_eLst, sat_eBlt, sat_eMth, sat_oNone, sat_oSome, sat_eSl, sat_eFn, sat_eFnK, sat_sNext, sat_sSeq, sat_sEx, sat_sRet, sat_sRetN, sat_sIf, sat_sSet, sat_sPar, sat_sPar3, sat_sStore, sat_sRaise, sat_sFor, sat_mSeq, sat_mRange, sat_mEnum, sat_mZip, sat_eLc, sat_eLenSet, sat_eDic, sat_evalP, sat_evalP0, sat_eFld, sat_sFldS, sat_eMk, sat_init, List.getElem?_cons_zero, List.getElem?_cons_succ, List.map_cons, List.map_nil, List.length_cons, List.length_nil, List.replicate, List.nil_append, List.cons_append, List.append_nil, List.set_cons_zero, List.set_cons_succ, asBl, Nat.sub_self, Nat.reduceSub, Nat.reduceAdd, if_true, if_false, Bool.false_eq_true, Bool.not_true, Bool.not_false, decide_eq_true_eq, e1, e2, e3, e4, e5, e6, e7, e9, e10, tru]
  exact ⟨trivial, trivial⟩
theorem same_tup {k : Nat} {xs : List Dt} {h : CH} (hl : xs.length ≤ 3) (hx : ∀ x ∈ xs, ∀ h, F_law_same (k + 1) [x, x] h = .ok (.bl true) h) : (F_law_same (k + 2) [.tup xs, .tup xs] h).sat (fun d h' => d = .bl true ∧ Fr [] h h') noE := by
  refine sat_run rfl ?_
  unfold m_law_same
  have e1 : pIsN (.tup xs) .non h = some (.bl false, h) := rfl
  have e2 : pIsi [.tup xs, .ty "list"] h = some (.bl false, h) := rfl
  have e3 : pIsi [.tup xs, .ty "tuple"] h = some (.bl true, h) := rfl
  have e7 : pNe (.bl false) (.bl false) h = some (.bl false, h) := rfl
  have e8 : pNe (.bl true) (.bl true) h = some (.bl false, h) := rfl
  have e9 : pLen [.tup xs] h = some (.int (xs.length : Nat), h) := rfl
  have e10 : pEq (.int (xs.length : Nat)) (.int (xs.length : Nat)) h = some (.bl true, h) := by rw [pEq_int, beq_self_eq_true]
  have e11 : mZip1 [.tup xs, .tup xs] h = some (zipF xs xs, []) := rfl
  simp only [sat_ok, sat_bind, sat_pr, sat_opt, sat_eC, sat_eVar, sat_eBin, sat_eUn, sat_mBl, sat_mTru, sat_mNot, sat_mAnd, sat_mOr, sat_eAnd, sat_eOr, sat_eNot, sat_eIf, sat_eChain2, sat_aNil, sat_aCons, sat_ofLen, sat_eTup, sat_eLst, sat_eBlt, sat_eMth, sat_oNone, sat_oSome, sat_eSl, sat_eFn, sat_eFnK, sat_sNext, sat_sSeq, sat_sEx, sat_sRet, sat_sRetN, sat_sIf, sat_sSet, sat_sPar, sat_sPar3, sat_sStore, sat_sRaise, sat_sFor, sat_mSeq, sat_mRange, sat_mEnum, sat_mZip, sat_eLc, sat_eLenSet, sat_eDic, sat_evalP, sat_evalP0, sat_eFld, sat_sFldS, sat_eMk, sat_init, List.getElem?_cons_zero, List.getElem?_cons_succ, List.map_cons, List.map_nil, List.length_cons, List.length_nil, List.replicate, List.nil_append, List.cons_append, List.append_nil, List.set_cons_zero, List.set_cons_succ, asBl, Nat.sub_self, Nat.reduceSub, Nat.reduceAdd, if_true, if_false, Bool.false_eq_true, Bool.not_true, Bool.not_false, decide_eq_true_eq, e1, e2, e3, e7, e8, e9, e10, e11, tru]
  refine sat_lcL (I := fun l acc h' => h' = h ∧ ∃ ys, l = zipF ys ys ∧ (∀ y ∈ ys, y ∈ xs) ∧ acc = List.replicate acc.length (.bl true) ∧ acc.length + ys.length ≤ 3) ?_ ?_ ?_ _ _ _ ⟨rfl, xs, rfl, fun _ z => z, rfl, by simpa using hl⟩
  · exact fun _ _ _ _ => rfl
  · rintro d r acc h' ⟨rfl, ys, el, hm, ea, hn⟩
    cases ys with
    | nil => cases el
    | cons y ys =>
      have el : d :: r = .tup [y, y] :: zipF ys ys := el
      obtain ⟨rfl, rfl⟩ := List.cons.inj el
      refine ⟨[(2, y), (3, y)], rfl, ?_⟩
      rw [List.length_cons] at hn
      simp only [sat_mYes, if_true, wipeR, setR, sat_ok, sat_bind, sat_pr, sat_opt, sat_eC, sat_eVar, sat_eBin, sat_eUn, sat_mBl, sat_mTru, sat_mNot, sat_mAnd, sat_mOr, sat_eAnd, sat_eOr, sat_eNot, sat_eIf, sat_eChain, sat_aNil, sat_aCons, sat_ofLen, sat_eTup, sat_eLst, sat_eBlt, sat_eMth, sat_oNone, sat_oSome, sat_eSl, sat_eFn, sat_eFnK, sat_sNext, sat_sSeq, sat_sEx, sat_sRet, sat_sRetN, sat_sIf, sat_sSet, sat_sPar, sat_sPar3, sat_sStore, sat_sRaise, sat_sFor, sat_mSeq, sat_mRange, sat_mEnum, sat_mZip, sat_eLc, sat_eLenSet, sat_eDic, sat_evalP, sat_evalP0, sat_eFld, sat_sFldS, sat_eMk, sat_init, List.getElem?_cons_zero, List.getElem?_cons_succ, List.map_cons, List.map_nil, List.length_cons, List.length_nil, List.replicate, List.nil_append, List.cons_append, List.append_nil, bindP, bindPs, setR, List.set_cons_zero, List.set_cons_succ, asBl, Nat.sub_self, Nat.reduceSub, Nat.reduceAdd, hx y (hm y (by simp))]
      refine ⟨by rw [sz]; omega, trivial, ys, rfl, fun z hz => hm z (by simp [hz]), ?_, by rw [List.length_append]; simp; omega⟩
      rw [List.length_append, List.length_singleton, List.replicate_succ', ← ea]
  · rintro acc h' ⟨rfl, ys, el, _, ea, hn⟩
    generalize acc.length = m at ea hn
    have hm : m = 0 ∨ m = 1 ∨ m = 2 ∨ m = 3 := by omega
    rcases hm with rfl | rfl | rfl | rfl
    all_goals
      subst ea
      simp only [pAll, asQ, asL, lstAt_new]
      exact ⟨rfl, .app⟩

end Cl
namespace Cl
open PySem PySem.Spec PyProof.Rows L2
/-! ## the copy that is handed -/
theorem View.toPy {h : CH} {p : Nat} {L : List (List Q2)} (v : View h p L) : toPy h 10 (.ref p) = some (.list (L.map fun row => .list (row.map pyA))) := by
  obtain ⟨⟨P, e, rr⟩, _, _⟩ := v
  show (match lstAt h p with
    | some ds => (seqO (Cl.toPy h 9) ds).map PyData.list
    | none => none) = _
  rw [e]
  dsimp only
  have key : ∀ (P : List Nat) (L : List (List Q2)), Rows [] h P L → seqO (Cl.toPy h 9) (P.map .ref) = some (L.map fun row => .list (row.map pyA)) := by
    intro P
    induction P with
    | nil =>
      intro L r
      cases L with
      | nil => rfl
      | cons _ _ => exact r.elim
    | cons w P ih =>
      intro L r
      cases L with
      | nil => exact r.elim
      | cons row L =>
        obtain ⟨e1, _, r2⟩ := r
        simp only [List.map_cons, seqO, toPy_row (n := 7) e1, ih L r2]
  rw [key P L rr]; rfl
theorem eqvA_refl : ∀ row : List Q2, PyData.eqvAll (row.map pyA) (row.map pyA) = true
  | [] => by simp [PyData.eqvAll]
  | x :: row => by
    simp only [List.map_cons, PyData.eqvAll, eqv_A, beq_self_eq_true, eqvA_refl row, Bool.and_self]
theorem eqvL_refl : ∀ L : List (List Q2), PyData.eqvAll (L.map fun row => .list (row.map pyA)) (L.map fun row => .list (row.map pyA)) = true
  | [] => by simp [PyData.eqvAll]
  | x :: L => by
    simp only [List.map_cons, PyData.eqvAll, PyData.eqv, eqvA_refl, eqvL_refl L, Bool.and_self]
theorem VW.kv {h : CH} {n p q s : Nat} {A B C : List (List Q2)} (V : VW h n p q s A B C) : Cl.toPy h 10 (.ref n) = none ∧ pyD h (.ref n) = some [(.str "prices", .list (A.map fun row => .list (row.map pyA))), (.str "rates", .list (B.map fun row => .list (row.map pyA))), (.str "steps", .list (C.map fun row => .list (row.map pyA)))] := by
  have hl : lstAt h n = none := by unfold lstAt; rw [V.dic]
  have hd : dicAt h n = some (webD [p, q, s]) := by unfold dicAt; rw [V.dic]
  constructor
  · show (match lstAt h n with
      | some ds => (seqO (Cl.toPy h 9) ds).map PyData.list
      | none => none) = _
    rw [hl]
  · show (match dicAt h n with
      | some kvs => pyKV h kvs
      | none => none) = _
    rw [hd]
    show (match Cl.toPy h 10 (.ref p), (match Cl.toPy h 10 (.ref q), (match Cl.toPy h 10 (.ref s), (some [] : Option (List (Dt × PyData))) with
      | some p, some l => some ((Dt.str "steps", p) :: l)
      | _, _ => none) with
      | some p, some l => some ((Dt.str "rates", p) :: l)
      | _, _ => none) with
      | some p, some l => some ((Dt.str "prices", p) :: l)
      | _, _ => none) = _
    rw [V.a.toPy, V.b.toPy, V.c.toPy]
theorem ne_web {h : CH} {n p q s n' p' q' s' : Nat} {A B C : List (List Q2)} (V : VW h n p q s A B C) (V' : VW h n' p' q' s' A B C) : pNe (.ref n') (.ref n) h = some (.bl false, h) := by
  obtain ⟨a1, a2⟩ := V.kv
  obtain ⟨b1, b2⟩ := V'.kv
  unfold pNe eqB
  rw [show pyF = 10 from rfl, a1, b1, a2, b2]
  have n1 : ¬ (Dt.str "prices" = Dt.str "rates") := by intro e; injection e with e; exact absurd e (by decide)
  have n2 : ¬ (Dt.str "prices" = Dt.str "steps") := by intro e; injection e with e; exact absurd e (by decide)
  have n3 : ¬ (Dt.str "rates" = Dt.str "steps") := by intro e; injection e with e; exact absurd e (by decide)
  simp [eqKV, lookP, PyData.eqv, eqvL_refl, n1, n2, n3]
theorem copy_web_spec {h : CH} {n p q s : Nat} {A B C : List (List Q2)} (V : VW h n p q s A B C) : (F_law_copy_web [.ref n] h).sat (fun d h' => Fr [] h h' ∧ ∃ n' p' q' s', d = .ref n' ∧ VW h' n' p' q' s' A B C) noE := by
  refine sat_run rfl ?_
  unfold m_law_copy_web
  simp only [sat_sRet, sat_eBlt, sat_aCons, sat_aNil]
  rw [sat_eLc]
  simp only [sat_ok, sat_bind, sat_pr, sat_opt, sat_eC, sat_eVar, sat_eBin, sat_eUn, sat_mBl, sat_mTru, sat_mNot, sat_mAnd, sat_mOr, sat_eAnd, sat_eOr, sat_eNot, sat_eIf, sat_eChain, sat_aNil, sat_aCons, sat_ofLen, sat_eTup, sat_eLst, sat_eBlt, sat_eMth, sat_oNone, sat_oSome, sat_eSl, sat_eFn, sat_eFnK, sat_sNext, sat_sSeq, sat_sEx, sat_sRet, sat_sRetN, sat_sIf, sat_sSet, sat_sPar, sat_sPar3, sat_sStore, sat_sRaise, sat_sFor, sat_mSeq, sat_mRange, sat_mEnum, sat_mZip, sat_eLc, sat_eLenSet, sat_eDic, sat_evalP, sat_evalP0, sat_eFld, sat_sFldS, sat_eMk, sat_init, List.getElem?_cons_zero, List.getElem?_cons_succ, List.map_cons, List.map_nil, List.length_cons, List.length_nil, List.replicate, List.nil_append, List.cons_append, List.append_nil, List.set_cons_zero, List.set_cons_succ, asBl, Nat.sub_self, Nat.reduceSub, Nat.reduceAdd, sz, Nat.reduceLeDiff, if_true, seqG, lstAt_new]
  have F1 : Fr [] h (h ++ [Ce.lst [.str "prices", .str "rates", .str "steps"]]) := .app
  have g1 : lstAt (h ++ [Ce.lst [.str "prices", .str "rates", .str "steps"]]) h.length = some [.str "prices", .str "rates", .str "steps"] := lstAt_new
  generalize h ++ [Ce.lst [.str "prices", .str "rates", .str "steps"]] = h1 at F1 g1 ⊢
  have V1 := V.fr F1
  refine sat_lcL (I := fun l acc h' => Fr [] h1 h' ∧ ((l = [.str "prices", .str "rates", .str "steps"] ∧ acc = []) ∨ (∃ p', l = [.str "rates", .str "steps"] ∧ acc = [.tup [.str "prices", .ref p']] ∧ View h' p' A) ∨ (∃ p' q', l = [.str "steps"] ∧ acc = [.tup [.str "prices", .ref p'], .tup [.str "rates", .ref q']] ∧ View h' p' A ∧ View h' q' B) ∨ (∃ p' q' s', l = [] ∧ acc = [.tup [.str "prices", .ref p'], .tup [.str "rates", .ref q'], .tup [.str "steps", .ref s']] ∧ View h' p' A ∧ View h' q' B ∧ View h' s' C))) ?_ ?_ ?_ _ _ _ ⟨.rf, .inl ⟨rfl, rfl⟩⟩
  · rintro l acc h' ⟨F, _⟩
    exact okG_lst (lstAt_get (F.at_ g1 (by simp)))
  · rintro d r acc h' ⟨F, ⟨el, rfl⟩ | ⟨p', el, rfl, vA⟩ | ⟨p', q', el, rfl, vA, vB⟩ | ⟨_, _, _, el, _⟩⟩
    · obtain ⟨rfl, rfl⟩ := List.cons.inj el
      have V2 := V1.fr F
      refine ⟨_, rfl, ?_⟩
      simp only [sat_mYes, if_true, wipeR, setR, List.set_cons_zero, List.set_cons_succ, sat_eTup, sat_aCons, sat_aNil, sat_eVar, List.getElem?_cons_succ, List.getElem?_cons_zero]
      refine copy_spec2 (me := eBin pIx (eVar 0) (eVar 1)) V2.a ?_ (by simp) fun d h2 F2 v2 _ => ?_
      · show (Out.pr (pIx (.ref n) (.str "prices") h')) = _
        rw [V2.gets.1]; rfl
      · simp only [sz, List.length_cons, List.length_nil, Nat.reduceAdd, Nat.reduceLeDiff, if_true]
        exact ⟨by simp, F.trans F2, .inr (.inl ⟨_, trivial, rfl, v2⟩)⟩
    · obtain ⟨rfl, rfl⟩ := List.cons.inj el
      have V2 := V1.fr F
      refine ⟨_, rfl, ?_⟩
      simp only [sat_mYes, if_true, wipeR, setR, List.set_cons_zero, List.set_cons_succ, sat_eTup, sat_aCons, sat_aNil, sat_eVar, List.getElem?_cons_succ, List.getElem?_cons_zero]
      refine copy_spec2 (me := eBin pIx (eVar 0) (eVar 1)) V2.b ?_ (by simp) fun d h2 F2 v2 _ => ?_
      · show (Out.pr (pIx (.ref n) (.str "rates") h')) = _
        rw [V2.gets.2.1]; rfl
      · simp only [sz, List.length_cons, List.length_nil, Nat.reduceAdd, Nat.reduceLeDiff, if_true]
        exact ⟨by simp, F.trans F2, .inr (.inr (.inl ⟨_, _, trivial, rfl, vA.fr F2, v2⟩))⟩
    · obtain ⟨rfl, rfl⟩ := List.cons.inj el
      have V2 := V1.fr F
      refine ⟨_, rfl, ?_⟩
      simp only [sat_mYes, if_true, wipeR, setR, List.set_cons_zero, List.set_cons_succ, sat_eTup, sat_aCons, sat_aNil, sat_eVar, List.getElem?_cons_succ, List.getElem?_cons_zero]
      refine copy_spec2 (me := eBin pIx (eVar 0) (eVar 1)) V2.c ?_ (by simp) fun d h2 F2 v2 _ => ?_
      · show (Out.pr (pIx (.ref n) (.str "steps") h')) = _
        rw [V2.gets.2.2]; rfl
      · simp only [sz, List.length_cons, List.length_nil, Nat.reduceAdd, Nat.reduceLeDiff, if_true]
        exact ⟨by simp, F.trans F2, .inr (.inr (.inr ⟨_, _, _, trivial, rfl, vA.fr F2, vB.fr F2, v2⟩))⟩
    · cases el
  · rintro acc h' ⟨F, ⟨el, _⟩ | ⟨_, el, _⟩ | ⟨_, _, el, _⟩ | ⟨p', q', s', _, rfl, vA, vB, vC⟩⟩
    · cases el
    · cases el
    · cases el
    · have hd : pDict [.ref h'.length] (h' ++ [Ce.lst [.tup [.str "prices", .ref p'], .tup [.str "rates", .ref q'], .tup [.str "steps", .ref s']]]) = some (.ref (h' ++ [Ce.lst [.tup [.str "prices", .ref p'], .tup [.str "rates", .ref q'], .tup [.str "steps", .ref s']]]).length, (h' ++ [Ce.lst [.tup [.str "prices", .ref p'], .tup [.str "rates", .ref q'], .tup [.str "steps", .ref s']]]) ++ [.dic false false (webD [p', q', s'])]) := by
        dsimp only [pDict, asL]
        rw [lstAt_new]; rfl
      rw [hd]
      have Fz : Fr [] h' ((h' ++ [Ce.lst [.tup [.str "prices", .ref p'], .tup [.str "rates", .ref q'], .tup [.str "steps", .ref s']]]) ++ [.dic false false (webD [p', q', s'])]) := .ap .app
      exact ⟨(F1.trans F).trans Fz, _, p', q', s', rfl, ⟨by simp, vA.fr Fz, vB.fr Fz, vC.fr Fz⟩⟩

end Cl
namespace Cl
open PySem PySem.Spec PyProof.Rows L2
/-! ## the law -/
theorem box_spec {h : CH} {d : Dt} {ns : List Int} (hl : ns.length ≤ 63) (hs : ∀ h', Fr [] h h' → pSl d none (some 63) h' = some (.ref h'.length, h' ++ [.lst (ns.map .int)])) : (F_law_box [d] h).sat (fun e h' => ∃ b c, e = .ref b ∧ Box h' b c ns) noE := by
  refine sat_run rfl ?_
  unfold m_law_box
  have f0 : Fr [] h h := .rf
  simp only [sat_ok, sat_bind, sat_pr, sat_opt, sat_eC, sat_eVar, sat_eBin, sat_eUn, sat_mBl, sat_mTru, sat_mNot, sat_mAnd, sat_mOr, sat_eAnd, sat_eOr, sat_eNot, sat_eIf, sat_eChain, sat_aNil, sat_aCons, sat_ofLen, sat_eTup, sat_eLst, sat_eBlt, sat_eMth, sat_oNone, sat_oSome, sat_eSl, sat_eFn, sat_eFnK, sat_sNext, sat_sSeq, sat_sEx, sat_sRet, sat_sRetN, sat_sIf, sat_sSet, sat_sPar, sat_sPar3, sat_sStore, sat_sRaise, sat_sFor, sat_mSeq, sat_mRange, sat_mEnum, sat_mZip, sat_eLc, sat_eLenSet, sat_eDic, sat_evalP, sat_evalP0, sat_eFld, sat_sFldS, sat_eMk, sat_init, List.getElem?_cons_zero, List.getElem?_cons_succ, List.map_cons, List.map_nil, List.length_cons, List.length_nil, List.replicate, List.nil_append, List.cons_append, List.append_nil, List.set_cons_zero, List.set_cons_succ, asBl, Nat.sub_self, Nat.reduceSub, Nat.reduceAdd, hs h f0, pListR lstAt_new]
  have f2 : Fr [] h ((h ++ [Ce.lst (ns.map .int)]) ++ [.lst (ns.map .int)]) := f0.ap.ap
  have s57 : Sm 57 := sm_32 (by omega) (by omega)
  have sl : Sm ((ns.map Dt.int).length : Nat) := by rw [List.length_map]; exact sm_32 (by omega) (by omega)
  simp only [sat_ok, sat_bind, sat_pr, sat_opt, sat_eC, sat_eVar, sat_eBin, sat_eUn, sat_mBl, sat_mTru, sat_mNot, sat_mAnd, sat_mOr, sat_eAnd, sat_eOr, sat_eNot, sat_eIf, sat_eChain, sat_aNil, sat_aCons, sat_ofLen, sat_eTup, sat_eLst, sat_eBlt, sat_eMth, sat_oNone, sat_oSome, sat_eSl, sat_eFn, sat_eFnK, sat_sNext, sat_sSeq, sat_sEx, sat_sRet, sat_sRetN, sat_sIf, sat_sSet, sat_sPar, sat_sPar3, sat_sStore, sat_sRaise, sat_sFor, sat_mSeq, sat_mRange, sat_mEnum, sat_mZip, sat_eLc, sat_eLenSet, sat_eDic, sat_evalP, sat_evalP0, sat_eFld, sat_sFldS, sat_eMk, sat_init, List.getElem?_cons_zero, List.getElem?_cons_succ, List.map_cons, List.map_nil, List.length_cons, List.length_nil, List.replicate, List.nil_append, List.cons_append, List.append_nil, List.set_cons_zero, List.set_cons_succ, asBl, Nat.sub_self, Nat.reduceSub, Nat.reduceAdd, hs _ f2, pLenR lstAt_new, pMul_sm s57 sl, pAdd_int, sz, Nat.reduceLeDiff, if_true]
  have e1 : lstAt ((h ++ [Ce.lst (ns.map .int)]) ++ [Ce.lst (ns.map .int)]) (h ++ [Ce.lst (ns.map .int)]).length = some (ns.map .int) := lstAt_new
  refine ⟨_, (h ++ [Ce.lst (ns.map .int)]).length, rfl, ⟨⟨0, 0, _, lstAt_new, by omega, by omega, by omega, ?_, ?_⟩, lstUp (lstUp e1), ?_, hl⟩⟩
  · rw [List.length_map]; omega
  · rw [List.length_map]; omega
  · simp
theorem turn_spec {h : CH} {b c : Nat} {zs : List Int} {x0 x2 x3 x4 x5 x6 x7 : Option Dt} (B : Box h b c zs) : (m_law_7 [x0, some (.ref b), x2, x3, x4, x5, x6, x7] h).sat (fun ρ h' => Box h' b c zs ∧ ∃ x3 x4 x5 x6 x7, ρ = [x0, some (.ref b), x2, x3, x4, x5, x6, x7]) (fun _ _ => False) noE := by
  unfold m_law_7 m_law_2
  simp only [sat_ok, sat_bind, sat_pr, sat_opt, sat_eC, sat_eVar, sat_eBin, sat_eUn, sat_mBl, sat_mTru, sat_mNot, sat_mAnd, sat_mOr, sat_eAnd, sat_eOr, sat_eNot, sat_eIf, sat_eChain, sat_aNil, sat_aCons, sat_ofLen, sat_eTup, sat_eLst, sat_eBlt, sat_eMth, sat_oNone, sat_oSome, sat_eSl, sat_eFn, sat_eFnK, sat_sNext, sat_sSeq, sat_sEx, sat_sRet, sat_sRetN, sat_sIf, sat_sSet, sat_sPar, sat_sPar3, sat_sStore, sat_sRaise, sat_sFor, sat_mSeq, sat_mRange, sat_mEnum, sat_mZip, sat_eLc, sat_eLenSet, sat_eDic, sat_evalP, sat_evalP0, sat_eFld, sat_sFldS, sat_eMk, sat_init, List.getElem?_cons_zero, List.getElem?_cons_succ, List.map_cons, List.map_nil, List.length_cons, List.length_nil, List.replicate, List.nil_append, List.cons_append, List.append_nil, bindP, bindPs, setR, List.set_cons_zero, List.set_cons_succ, asBl, Nat.sub_self, Nat.reduceSub, Nat.reduceAdd]
  refine (draw B (show (0 : Int) < 7 by omega) (by omega)).mono ?_ fun _ _ _ z => z
  rintro d h1 ⟨t1, rfl, t10, t11, G1, _⟩
  simp only [sat_ok, sat_bind, sat_pr, sat_opt, sat_eC, sat_eVar, sat_eBin, sat_eUn, sat_mBl, sat_mTru, sat_mNot, sat_mAnd, sat_mOr, sat_eAnd, sat_eOr, sat_eNot, sat_eIf, sat_eChain, sat_aNil, sat_aCons, sat_ofLen, sat_eTup, sat_eLst, sat_eBlt, sat_eMth, sat_oNone, sat_oSome, sat_eSl, sat_eFn, sat_eFnK, sat_sNext, sat_sSeq, sat_sEx, sat_sRet, sat_sRetN, sat_sIf, sat_sSet, sat_sPar, sat_sPar3, sat_sStore, sat_sRaise, sat_sFor, sat_mSeq, sat_mRange, sat_mEnum, sat_mZip, sat_eLc, sat_eLenSet, sat_eDic, sat_evalP, sat_evalP0, sat_eFld, sat_sFldS, sat_eMk, sat_init, List.getElem?_cons_zero, List.getElem?_cons_succ, List.map_cons, List.map_nil, List.length_cons, List.length_nil, List.replicate, List.nil_append, List.cons_append, List.append_nil, bindP, bindPs, setR, List.set_cons_zero, List.set_cons_succ, asBl, Nat.sub_self, Nat.reduceSub, Nat.reduceAdd, pAdd_int]
  refine (draw G1.box (show (0 : Int) < 7 by omega) (by omega)).mono ?_ fun _ _ _ z => z
  rintro d h2 ⟨t2, rfl, t20, t21, G2, _⟩
  simp only [sat_ok, sat_bind, sat_pr, sat_opt, sat_eC, sat_eVar, sat_eBin, sat_eUn, sat_mBl, sat_mTru, sat_mNot, sat_mAnd, sat_mOr, sat_eAnd, sat_eOr, sat_eNot, sat_eIf, sat_eChain, sat_aNil, sat_aCons, sat_ofLen, sat_eTup, sat_eLst, sat_eBlt, sat_eMth, sat_oNone, sat_oSome, sat_eSl, sat_eFn, sat_eFnK, sat_sNext, sat_sSeq, sat_sEx, sat_sRet, sat_sRetN, sat_sIf, sat_sSet, sat_sPar, sat_sPar3, sat_sStore, sat_sRaise, sat_sFor, sat_mSeq, sat_mRange, sat_mEnum, sat_mZip, sat_eLc, sat_eLenSet, sat_eDic, sat_evalP, sat_evalP0, sat_eFld, sat_sFldS, sat_eMk, sat_init, List.getElem?_cons_zero, List.getElem?_cons_succ, List.map_cons, List.map_nil, List.length_cons, List.length_nil, List.replicate, List.nil_append, List.cons_append, List.append_nil, bindP, bindPs, setR, List.set_cons_zero, List.set_cons_succ, asBl, Nat.sub_self, Nat.reduceSub, Nat.reduceAdd, pAdd_int]
  refine (loose_spec G2.box (show (1 : Int) ≤ 1 + t1 by omega) (by omega) (show (2 : Int) ≤ 2 + t2 by omega) (by omega)).mono ?_ fun _ _ _ z => z
  rintro d h3 ⟨n, o, R, rfl, B3, W3⟩
  unfold m_law_3
  simp only [sat_ok, sat_bind, sat_pr, sat_opt, sat_eC, sat_eVar, sat_eBin, sat_eUn, sat_mBl, sat_mTru, sat_mNot, sat_mAnd, sat_mOr, sat_eAnd, sat_eOr, sat_eNot, sat_eIf, sat_eChain, sat_aNil, sat_aCons, sat_ofLen, sat_eTup, sat_eLst, sat_eBlt, sat_eMth, sat_oNone, sat_oSome, sat_eSl, sat_eFn, sat_eFnK, sat_sNext, sat_sSeq, sat_sEx, sat_sRet, sat_sRetN, sat_sIf, sat_sSet, sat_sPar, sat_sPar3, sat_sStore, sat_sRaise, sat_sFor, sat_mSeq, sat_mRange, sat_mEnum, sat_mZip, sat_eLc, sat_eLenSet, sat_eDic, sat_evalP, sat_evalP0, sat_eFld, sat_sFldS, sat_eMk, sat_init, List.getElem?_cons_zero, List.getElem?_cons_succ, List.map_cons, List.map_nil, List.length_cons, List.length_nil, List.replicate, List.nil_append, List.cons_append, List.append_nil, bindP, bindPs, setR, List.set_cons_zero, List.set_cons_succ, asBl, Nat.sub_self, Nat.reduceSub, Nat.reduceAdd]
  refine (draw B3 (show (0 : Int) < 2 by omega) (by omega)).mono ?_ fun _ _ _ z => z
  rintro d h4 ⟨t4, rfl, t40, t41, G4, _⟩
  simp only [sat_ok, sat_bind, sat_pr, sat_opt, sat_eC, sat_eVar, sat_eBin, sat_eUn, sat_mBl, sat_mTru, sat_mNot, sat_mAnd, sat_mOr, sat_eAnd, sat_eOr, sat_eNot, sat_eIf, sat_eChain, sat_aNil, sat_aCons, sat_ofLen, sat_eTup, sat_eLst, sat_eBlt, sat_eMth, sat_oNone, sat_oSome, sat_eSl, sat_eFn, sat_eFnK, sat_sNext, sat_sSeq, sat_sEx, sat_sRet, sat_sRetN, sat_sIf, sat_sSet, sat_sPar, sat_sPar3, sat_sStore, sat_sRaise, sat_sFor, sat_mSeq, sat_mRange, sat_mEnum, sat_mZip, sat_eLc, sat_eLenSet, sat_eDic, sat_evalP, sat_evalP0, sat_eFld, sat_sFldS, sat_eMk, sat_init, List.getElem?_cons_zero, List.getElem?_cons_succ, List.map_cons, List.map_nil, List.length_cons, List.length_nil, List.replicate, List.nil_append, List.cons_append, List.append_nil, bindP, bindPs, setR, List.set_cons_zero, List.set_cons_succ, asBl, Nat.sub_self, Nat.reduceSub, Nat.reduceAdd, pAdd_int, mRng1_eq (show (0 : Int) ≤ 1 + t4 by omega) (show 1 + t4 < 1000000 by omega)]
  refine sat_forR (I := fun j ρ h' => 0 ≤ j ∧ (∃ x4, ρ = [x0, some (.ref b), x2, some (.ref n), x4, x5, x6, x7]) ∧ Box h' b c zs ∧ ∃ o R, WebD h' b c n o R (if j ≤ 0 then 10 else if j ≤ 1 then 100 else 1000)) (hi := 1 + t4) (fun _ _ _ _ => okG_nil) ?_ ?_ _ 0 _ _ (by omega) ⟨by omega, ⟨_, rfl⟩, G4.box, _, _, W3.fr G4.g.fr⟩
  · rintro j ρ h5 hj ⟨j0, ⟨x4, rfl⟩, B5, o, R, W5⟩
    simp only [setR, List.set_cons_succ, List.set_cons_zero]
    have hm : (if j ≤ 0 then 10 else if j ≤ 1 then 100 else 1000) ≤ 100 ∧ 1 ≤ (if j ≤ 0 then 10 else if j ≤ 1 then 100 else 1000) ∧ 10 * (if j ≤ 0 then 10 else if j ≤ 1 then 100 else 1000) ≤ (if j + 1 ≤ 0 then 10 else if j + 1 ≤ 1 then 100 else 1000) := by
      have : j = 0 ∨ j = 1 := by omega
      rcases this with rfl | rfl <;> decide
    generalize (if j ≤ 0 then 10 else if j ≤ 1 then 100 else 1000) = m at W5 hm
    obtain ⟨p, q, s, A, BB, C, V⟩ := W5.vw (by omega)
    obtain ⟨p', P, eo, eR, lP, gg, gl, row⟩ := W5.at_ (i := 0) (by decide)
    have gg : ∀ {h'}, Fr [b] h5 h' → pIx (.ref n) (.str "prices") h' = some (.ref p', h') := gg
    have hp : p' = p := by
      have h1 := gg (.rf)
      rw [V.gets.1] at h1
      injection h1 with h1
      injection h1 with h1
      injection h1 with h1
      exact h1.symm
    subst hp
    have fE : Fr [] h5 (h5 ++ [Ce.lst []]) := .app
    have fB : Fr [b] h5 (h5 ++ [Ce.lst []]) := .app
    have nE : pNe (.ref p') (.ref h5.length) (h5 ++ [Ce.lst []]) = some (.bl (!A.isEmpty), h5 ++ [Ce.lst []]) := by
      have h1 := (V.fr fE).a.toPy
      have h2 : toPy (h5 ++ [Ce.lst []]) 10 (.ref h5.length) = some (.list []) := toPy_row (n := 8) (ps := []) lstAt_new
      unfold pNe eqB
      rw [show pyF = 10 from rfl, h1, h2]
      cases A with
      | nil => simp [PyData.eqv, PyData.eqvAll]
      | cons x A => simp [PyData.eqv, PyData.eqvAll]
    unfold m_law_1
    simp only [sat_ok, sat_bind, sat_pr, sat_opt, sat_eC, sat_eVar, sat_eBin, sat_eUn, sat_mBl, sat_mTru, sat_mNot, sat_mAnd, sat_mOr, sat_eAnd, sat_eOr, sat_eNot, sat_eIf, sat_eChain2, sat_aNil, sat_aCons, sat_ofLen, sat_eTup, sat_eLst, sat_eBlt, sat_eMth, sat_oNone, sat_oSome, sat_eSl, sat_eFn, sat_eFnK, sat_sNext, sat_sSeq, sat_sEx, sat_sRet, sat_sRetN, sat_sIf, sat_sSet, sat_sPar, sat_sPar3, sat_sStore, sat_sRaise, sat_sFor, sat_mSeq, sat_mRange, sat_mEnum, sat_mZip, sat_eLc, sat_eLenSet, sat_eDic, sat_evalP, sat_evalP0, sat_eFld, sat_sFldS, sat_eMk, sat_init, List.getElem?_cons_zero, List.getElem?_cons_succ, List.map_cons, List.map_nil, List.length_cons, List.length_nil, List.replicate, List.nil_append, List.cons_append, List.append_nil, List.set_cons_zero, List.set_cons_succ, asBl, Nat.sub_self, Nat.reduceSub, Nat.reduceAdd, if_true, if_false, Bool.false_eq_true, Bool.not_true, Bool.not_false, decide_eq_true_eq, V.gets.1, sz, Nat.zero_le, nE]
    cases hA : A.isEmpty with
    | true =>
      simp only [sat_ok, sat_bind, sat_pr, sat_opt, sat_eC, sat_eVar, sat_eBin, sat_eUn, sat_mBl, sat_mTru, sat_mNot, sat_mAnd, sat_mOr, sat_eAnd, sat_eOr, sat_eNot, sat_eIf, sat_eChain2, sat_aNil, sat_aCons, sat_ofLen, sat_eTup, sat_eLst, sat_eBlt, sat_eMth, sat_oNone, sat_oSome, sat_eSl, sat_eFn, sat_eFnK, sat_sNext, sat_sSeq, sat_sEx, sat_sRet, sat_sRetN, sat_sIf, sat_sSet, sat_sPar, sat_sPar3, sat_sStore, sat_sRaise, sat_sFor, sat_mSeq, sat_mRange, sat_mEnum, sat_mZip, sat_eLc, sat_eLenSet, sat_eDic, sat_evalP, sat_evalP0, sat_eFld, sat_sFldS, sat_eMk, sat_init, List.getElem?_cons_zero, List.getElem?_cons_succ, List.map_cons, List.map_nil, List.length_cons, List.length_nil, List.replicate, List.nil_append, List.cons_append, List.append_nil, List.set_cons_zero, List.set_cons_succ, asBl, Nat.sub_self, Nat.reduceSub, Nat.reduceAdd, if_true, if_false, Bool.false_eq_true, Bool.not_true, Bool.not_false, decide_eq_true_eq]
      exact ⟨by omega, ⟨_, rfl⟩, B5.app, _, _, (W5.fr fB).le (by omega)⟩
    | false =>
      simp only [sat_ok, sat_bind, sat_pr, sat_opt, sat_eC, sat_eVar, sat_eBin, sat_eUn, sat_mBl, sat_mTru, sat_mNot, sat_mAnd, sat_mOr, sat_eAnd, sat_eOr, sat_eNot, sat_eIf, sat_eChain2, sat_aNil, sat_aCons, sat_ofLen, sat_eTup, sat_eLst, sat_eBlt, sat_eMth, sat_oNone, sat_oSome, sat_eSl, sat_eFn, sat_eFnK, sat_sNext, sat_sSeq, sat_sEx, sat_sRet, sat_sRetN, sat_sIf, sat_sSet, sat_sPar, sat_sPar3, sat_sStore, sat_sRaise, sat_sFor, sat_mSeq, sat_mRange, sat_mEnum, sat_mZip, sat_eLc, sat_eLenSet, sat_eDic, sat_evalP, sat_evalP0, sat_eFld, sat_sFldS, sat_eMk, sat_init, List.getElem?_cons_zero, List.getElem?_cons_succ, List.map_cons, List.map_nil, List.length_cons, List.length_nil, List.replicate, List.nil_append, List.cons_append, List.append_nil, List.set_cons_zero, List.set_cons_succ, asBl, Nat.sub_self, Nat.reduceSub, Nat.reduceAdd, if_true, if_false, Bool.false_eq_true, Bool.not_true, Bool.not_false, decide_eq_true_eq]
      have ne : P ≠ [] := by
        intro e
        subst e
        obtain ⟨P2, e2, r2⟩ := V.a.ex
        have e1 := gl (.rf)
        rw [e2] at e1
        injection e1 with e1
        have := congrArg List.length e1
        simp at this
        subst this
        cases A with
        | nil => simp at hA
        | cons _ _ => exact r2.elim
      refine (bent_spec B5.app (W5.fr fB) eR ne (by omega) (by omega)).mono ?_ fun _ _ _ z => z
      rintro d h6 ⟨B6, o6, R6, W6⟩
      exact ⟨by omega, ⟨_, rfl⟩, B6, _, _, W6.le hm.2.2⟩
  · rintro ρ h5 ⟨j0, ⟨x4, rfl⟩, B5, o, R, W5⟩
    have hm : (if 1 + t4 ≤ 0 then 10 else if 1 + t4 ≤ 1 then 100 else 1000) ≤ 1000 := by split <;> (try split) <;> omega
    obtain ⟨p, q, s, A, BB, C, V⟩ := W5.vw hm
    have bo : b ∉ ([] : List Nat) := by simp
    have co : c ∉ ([] : List Nat) := by simp
    simp only [sat_ok, sat_bind, sat_pr, sat_opt, sat_eC, sat_eVar, sat_eBin, sat_eUn, sat_mBl, sat_mTru, sat_mNot, sat_mAnd, sat_mOr, sat_eAnd, sat_eOr, sat_eNot, sat_eIf, sat_eChain, sat_aNil, sat_aCons, sat_ofLen, sat_eTup, sat_eLst, sat_eBlt, sat_eMth, sat_oNone, sat_oSome, sat_eSl, sat_eFn, sat_eFnK, sat_sNext, sat_sSeq, sat_sEx, sat_sRet, sat_sRetN, sat_sIf, sat_sSet, sat_sPar, sat_sPar3, sat_sStore, sat_sRaise, sat_sFor, sat_mSeq, sat_mRange, sat_mEnum, sat_mZip, sat_eLc, sat_eLenSet, sat_eDic, sat_evalP, sat_evalP0, sat_eFld, sat_sFldS, sat_eMk, sat_init, List.getElem?_cons_zero, List.getElem?_cons_succ, List.map_cons, List.map_nil, List.length_cons, List.length_nil, List.replicate, List.nil_append, List.cons_append, List.append_nil, bindP, bindPs, setR, List.set_cons_zero, List.set_cons_succ, asBl, Nat.sub_self, Nat.reduceSub, Nat.reduceAdd]
    refine (copy_web_spec V).mono ?_ fun _ _ _ z => z
    rintro d h6 ⟨F6, n', p', q', s', rfl, V'⟩
    unfold m_law_4
    simp only [sat_ok, sat_bind, sat_pr, sat_opt, sat_eC, sat_eVar, sat_eBin, sat_eUn, sat_mBl, sat_mTru, sat_mNot, sat_mAnd, sat_mOr, sat_eAnd, sat_eOr, sat_eNot, sat_eIf, sat_eChain, sat_aNil, sat_aCons, sat_ofLen, sat_eTup, sat_eLst, sat_eBlt, sat_eMth, sat_oNone, sat_oSome, sat_eSl, sat_eFn, sat_eFnK, sat_sNext, sat_sSeq, sat_sEx, sat_sRet, sat_sRetN, sat_sIf, sat_sSet, sat_sPar, sat_sPar3, sat_sStore, sat_sRaise, sat_sFor, sat_mSeq, sat_mRange, sat_mEnum, sat_mZip, sat_eLc, sat_eLenSet, sat_eDic, sat_evalP, sat_evalP0, sat_eFld, sat_sFldS, sat_eMk, sat_init, List.getElem?_cons_zero, List.getElem?_cons_succ, List.map_cons, List.map_nil, List.length_cons, List.length_nil, List.replicate, List.nil_append, List.cons_append, List.append_nil, bindP, bindPs, setR, List.set_cons_zero, List.set_cons_succ, asBl, Nat.sub_self, Nat.reduceSub, Nat.reduceAdd]
    refine (first_bad_spec (V.fr F6)).mono ?_ fun _ _ _ z => z
    rintro due h7 ⟨F7, D⟩
    unfold m_law_5
    rw [sat_sSet]
    refine (show Out.sat (whyO "told" 2 hds_law_why (F_law_web [.ref n'] h7)) _ _ from ?_)
    refine (why_spec (V'.fr F7)).mono ?_ fun _ _ _ z => z
    rintro told h8 ⟨F8, T⟩
    have V8 := ((V.fr F6).fr F7).fr F8
    have V8' := (V'.fr F7).fr F8
    have B8 : Box h8 b c zs := ((B5.fr F6 bo co).fr F7 bo co).fr F8 bo co
    unfold m_law_6
    simp only [sat_ok, sat_bind, sat_pr, sat_opt, sat_eC, sat_eVar, sat_eBin, sat_eUn, sat_mBl, sat_mTru, sat_mNot, sat_mAnd, sat_mOr, sat_eAnd, sat_eOr, sat_eNot, sat_eIf, sat_eChain2, sat_aNil, sat_aCons, sat_ofLen, sat_eTup, sat_eLst, sat_eBlt, sat_eMth, sat_oNone, sat_oSome, sat_eSl, sat_eFn, sat_eFnK, sat_sNext, sat_sSeq, sat_sEx, sat_sRet, sat_sRetN, sat_sIf, sat_sSet, sat_sPar, sat_sPar3, sat_sStore, sat_sRaise, sat_sFor, sat_mSeq, sat_mRange, sat_mEnum, sat_mZip, sat_eLc, sat_eLenSet, sat_eDic, sat_evalP, sat_evalP0, sat_eFld, sat_sFldS, sat_eMk, sat_init, List.getElem?_cons_zero, List.getElem?_cons_succ, List.map_cons, List.map_nil, List.length_cons, List.length_nil, List.replicate, List.nil_append, List.cons_append, List.append_nil, List.set_cons_zero, List.set_cons_succ, asBl, Nat.sub_self, Nat.reduceSub, Nat.reduceAdd, if_true, if_false, Bool.false_eq_true, Bool.not_true, Bool.not_false, decide_eq_true_eq, bindP, setR, List.set_cons_zero, List.set_cons_succ, ne_web V8 V8']
    rcases T with ⟨x, rfl, D2⟩ | ⟨D2, T⟩
    · have := D.uniq D2
      subst this
      have e1 : pNotN .non .non h8 = some (.bl false, h8) := rfl
      have e2 : pIsN .non .non h8 = some (.bl true, h8) := rfl
      have e3 : pIx (.tup [.str "told", x]) (.int 0) h8 = some (.str "told", h8) := rfl
      have e4 : pNe (.str "told") (.str "told") h8 = some (.bl false, h8) := by
        have hk : PyData.strOk "told" = true := by decide +kernel
        have hp : toPy h8 10 (.str "told") = some (.str "told") := by
          show (if PyData.strOk "told" = true then some (PyData.str "told") else none) = _
          rw [if_pos hk]
        unfold pNe eqB
        rw [show pyF = 10 from rfl, hp]
        simp [PyData.eqv]
      simp only [sat_ok, sat_bind, sat_pr, sat_opt, sat_eC, sat_eVar, sat_eBin, sat_eUn, sat_mBl, sat_mTru, sat_mNot, sat_mAnd, sat_mOr, sat_eAnd, sat_eOr, sat_eNot, sat_eIf, sat_eChain2, sat_aNil, sat_aCons, sat_ofLen, sat_eTup, sat_eLst, sat_eBlt, sat_eMth, sat_oNone, sat_oSome, sat_eSl, sat_eFn, sat_eFnK, sat_sNext, sat_sSeq, sat_sEx, sat_sRet, sat_sRetN, sat_sIf, sat_sSet, sat_sPar, sat_sPar3, sat_sStore, sat_sRaise, sat_sFor, sat_mSeq, sat_mRange, sat_mEnum, sat_mZip, sat_eLc, sat_eLenSet, sat_eDic, sat_evalP, sat_evalP0, sat_eFld, sat_sFldS, sat_eMk, sat_init, List.getElem?_cons_zero, List.getElem?_cons_succ, List.map_cons, List.map_nil, List.length_cons, List.length_nil, List.replicate, List.nil_append, List.cons_append, List.append_nil, List.set_cons_zero, List.set_cons_succ, asBl, Nat.sub_self, Nat.reduceSub, Nat.reduceAdd, if_true, if_false, Bool.false_eq_true, Bool.not_true, Bool.not_false, decide_eq_true_eq, e1, e2, e3, e4]
      exact ⟨B8, _, _, _, _, _, rfl⟩
    · have := D.uniq D2
      subst this
      have nn : pNotN due .non h8 = some (.bl true, h8) ∧ ∀ h, pIsN due .non h = some (.bl false, h) := by
        rcases T with rfl | ⟨s, i, j, _, rfl⟩ <;> exact ⟨rfl, fun _ => rfl⟩
      have same : (F_law_same 8 [due, due] h8).sat (fun d h' => d = .bl true ∧ Fr [] h8 h') noE := by
        rcases T with rfl | ⟨s, i, j, hs, rfl⟩
        · exact same_tup (k := 6) (by simp) fun x hx h => by rw [List.mem_singleton.mp hx]; exact same_str (.inl rfl)
        · refine same_tup (k := 6) (by simp) fun x hx h => ?_
          simp only [List.mem_cons, List.not_mem_nil, or_false] at hx
          rcases hx with rfl | rfl | rfl
          · exact same_str (by rcases hs with h | h | h <;> simp [h])
          · exact same_int
          · exact same_int
      simp only [sat_ok, sat_bind, sat_pr, sat_opt, sat_eC, sat_eVar, sat_eBin, sat_eUn, sat_mBl, sat_mTru, sat_mNot, sat_mAnd, sat_mOr, sat_eAnd, sat_eOr, sat_eNot, sat_eIf, sat_eChain2, sat_aNil, sat_aCons, sat_ofLen, sat_eTup, sat_eLst, sat_eBlt, sat_eMth, sat_oNone, sat_oSome, sat_eSl, sat_eFn, sat_eFnK, sat_sNext, sat_sSeq, sat_sEx, sat_sRet, sat_sRetN, sat_sIf, sat_sSet, sat_sPar, sat_sPar3, sat_sStore, sat_sRaise, sat_sFor, sat_mSeq, sat_mRange, sat_mEnum, sat_mZip, sat_eLc, sat_eLenSet, sat_eDic, sat_evalP, sat_evalP0, sat_eFld, sat_sFldS, sat_eMk, sat_init, List.getElem?_cons_zero, List.getElem?_cons_succ, List.map_cons, List.map_nil, List.length_cons, List.length_nil, List.replicate, List.nil_append, List.cons_append, List.append_nil, List.set_cons_zero, List.set_cons_succ, asBl, Nat.sub_self, Nat.reduceSub, Nat.reduceAdd, if_true, if_false, Bool.false_eq_true, Bool.not_true, Bool.not_false, decide_eq_true_eq, nn.1]
      refine same.mono ?_ fun _ _ _ z => z
      rintro d h9 ⟨rfl, F9⟩
      simp only [sat_ok, sat_bind, sat_pr, sat_opt, sat_eC, sat_eVar, sat_eBin, sat_eUn, sat_mBl, sat_mTru, sat_mNot, sat_mAnd, sat_mOr, sat_eAnd, sat_eOr, sat_eNot, sat_eIf, sat_eChain2, sat_aNil, sat_aCons, sat_ofLen, sat_eTup, sat_eLst, sat_eBlt, sat_eMth, sat_oNone, sat_oSome, sat_eSl, sat_eFn, sat_eFnK, sat_sNext, sat_sSeq, sat_sEx, sat_sRet, sat_sRetN, sat_sIf, sat_sSet, sat_sPar, sat_sPar3, sat_sStore, sat_sRaise, sat_sFor, sat_mSeq, sat_mRange, sat_mEnum, sat_mZip, sat_eLc, sat_eLenSet, sat_eDic, sat_evalP, sat_evalP0, sat_eFld, sat_sFldS, sat_eMk, sat_init, List.getElem?_cons_zero, List.getElem?_cons_succ, List.map_cons, List.map_nil, List.length_cons, List.length_nil, List.replicate, List.nil_append, List.cons_append, List.append_nil, List.set_cons_zero, List.set_cons_succ, asBl, Nat.sub_self, Nat.reduceSub, Nat.reduceAdd, if_true, if_false, Bool.false_eq_true, Bool.not_true, Bool.not_false, decide_eq_true_eq, tru, nn.2]
      exact ⟨B8.fr F9 bo co, _, _, _, _, _, rfl⟩
theorem law_spec {h : CH} {d : Dt} {ns : List Int} (hl : ns.length ≤ 63) (hs : ∀ h', Fr [] h h' → pSl d none (some 63) h' = some (.ref h'.length, h' ++ [.lst (ns.map .int)])) : (F_law [d] h).sat (fun e _ => e = .bl true) noE := by
  refine sat_run rfl ?_
  unfold m_law
  simp only [sat_ok, sat_bind, sat_pr, sat_opt, sat_eC, sat_eVar, sat_eBin, sat_eUn, sat_mBl, sat_mTru, sat_mNot, sat_mAnd, sat_mOr, sat_eAnd, sat_eOr, sat_eNot, sat_eIf, sat_eChain, sat_aNil, sat_aCons, sat_ofLen, sat_eTup, sat_eLst, sat_eBlt, sat_eMth, sat_oNone, sat_oSome, sat_eSl, sat_eFn, sat_eFnK, sat_sNext, sat_sSeq, sat_sEx, sat_sRet, sat_sRetN, sat_sIf, sat_sSet, sat_sPar, sat_sPar3, sat_sStore, sat_sRaise, sat_sFor, sat_mSeq, sat_mRange, sat_mEnum, sat_mZip, sat_eLc, sat_eLenSet, sat_eDic, sat_evalP, sat_evalP0, sat_eFld, sat_sFldS, sat_eMk, sat_init, List.getElem?_cons_zero, List.getElem?_cons_succ, List.map_cons, List.map_nil, List.length_cons, List.length_nil, List.replicate, List.nil_append, List.cons_append, List.append_nil, bindP, bindPs, setR, List.set_cons_zero, List.set_cons_succ, asBl, Nat.sub_self, Nat.reduceSub, Nat.reduceAdd]
  refine (box_spec hl hs).mono ?_ fun _ _ _ z => z
  rintro e h1 ⟨b, c, rfl, B⟩
  unfold m_law_8
  simp only [sat_ok, sat_bind, sat_pr, sat_opt, sat_eC, sat_eVar, sat_eBin, sat_eUn, sat_mBl, sat_mTru, sat_mNot, sat_mAnd, sat_mOr, sat_eAnd, sat_eOr, sat_eNot, sat_eIf, sat_eChain, sat_aNil, sat_aCons, sat_ofLen, sat_eTup, sat_eLst, sat_eBlt, sat_eMth, sat_oNone, sat_oSome, sat_eSl, sat_eFn, sat_eFnK, sat_sNext, sat_sSeq, sat_sEx, sat_sRet, sat_sRetN, sat_sIf, sat_sSet, sat_sPar, sat_sPar3, sat_sStore, sat_sRaise, sat_sFor, sat_mSeq, sat_mRange, sat_mEnum, sat_mZip, sat_eLc, sat_eLenSet, sat_eDic, sat_evalP, sat_evalP0, sat_eFld, sat_sFldS, sat_eMk, sat_init, List.getElem?_cons_zero, List.getElem?_cons_succ, List.map_cons, List.map_nil, List.length_cons, List.length_nil, List.replicate, List.nil_append, List.cons_append, List.append_nil, bindP, bindPs, setR, List.set_cons_zero, List.set_cons_succ, asBl, Nat.sub_self, Nat.reduceSub, Nat.reduceAdd, mRng1_eq (show (0 : Int) ≤ 5 by omega) (show (5 : Int) < 1000000 by omega)]
  refine sat_forR (I := fun j ρ h' => Box h' b c ns ∧ ∃ x2 x3 x4 x5 x6 x7, ρ = [some d, some (.ref b), x2, x3, x4, x5, x6, x7]) (hi := 5) (fun _ _ _ _ => okG_nil) ?_ ?_ _ 0 _ _ (by omega) ⟨B, _, _, _, _, _, _, rfl⟩
  · rintro j ρ h2 hj ⟨B2, x2, x3, x4, x5, x6, x7, rfl⟩
    simp only [setR, List.set_cons_succ, List.set_cons_zero]
    refine (turn_spec B2).mono ?_ (fun _ _ z => z.elim) fun _ _ _ z => z
    rintro ρ h3 ⟨B3, y3, y4, y5, y6, y7, rfl⟩
    exact ⟨B3, _, _, _, _, _, _, rfl⟩
  · rintro ρ h2 ⟨B2, x2, x3, x4, x5, x6, x7, rfl⟩
    simp only [sat_ok, sat_bind, sat_pr, sat_opt, sat_eC, sat_eVar, sat_eBin, sat_eUn, sat_mBl, sat_mTru, sat_mNot, sat_mAnd, sat_mOr, sat_eAnd, sat_eOr, sat_eNot, sat_eIf, sat_eChain, sat_aNil, sat_aCons, sat_ofLen, sat_eTup, sat_eLst, sat_eBlt, sat_eMth, sat_oNone, sat_oSome, sat_eSl, sat_eFn, sat_eFnK, sat_sNext, sat_sSeq, sat_sEx, sat_sRet, sat_sRetN, sat_sIf, sat_sSet, sat_sPar, sat_sPar3, sat_sStore, sat_sRaise, sat_sFor, sat_mSeq, sat_mRange, sat_mEnum, sat_mZip, sat_eLc, sat_eLenSet, sat_eDic, sat_evalP, sat_evalP0, sat_eFld, sat_sFldS, sat_eMk, sat_init, List.getElem?_cons_zero, List.getElem?_cons_succ, List.map_cons, List.map_nil, List.length_cons, List.length_nil, List.replicate, List.nil_append, List.cons_append, List.append_nil, bindP, bindPs, setR, List.set_cons_zero, List.set_cons_succ, asBl, Nat.sub_self, Nat.reduceSub, Nat.reduceAdd]
theorem cut63 {ds : List Dt} (hl : ds.length ≤ 63) : cutD ds none (some 63) = ds := by
  exact cutD_whole ⟨rfl, (HT.sIx_nat ds.length ds.length 63).trans (Nat.min_eq_right hl)⟩
theorem sat_ex {o : Out Dt} (s : o.sat (fun e _ => e = .bl true) noE) : ∃ h', o = .ok (.bl true) h' := by
  cases o with
  | ok d h => exact ⟨h, by rw [show d = .bl true from s]⟩
  | exc c fs h => exact (show False from s).elim
  | bad => exact (show False from s).elim
theorem law_true1 (ns : List Int) (hl : ns.length ≤ 63) (hb : ∀ z ∈ ns, Builtin.Int.intBits z ≤ 1048576) : ∃ h', F_law [.cl (ns.map .int)] [] = .ok (.bl true) h' :=
  sat_ex (law_spec hl fun h' _ => by
    dsimp only [pSl]
    rw [cut63 (by rw [List.length_map]; exact hl)])
theorem law_true2 (ns : List Int) (hl : ns.length ≤ 63) (hb : ∀ z ∈ ns, Builtin.Int.intBits z ≤ 1048576) : ∃ h', F_law [.ref 0] [.lst (ns.map .int)] = .ok (.bl true) h' :=
  sat_ex (law_spec hl fun h' F => by
    rw [pSlR (F.at_ (show lstAt [.lst (ns.map .int)] 0 = some (ns.map .int) from rfl) (by simp)), cut63 (by rw [List.length_map]; exact hl)])

end Cl
set_option maxHeartbeats 0
namespace Cl
open PySem PySem.Spec PyProof.Rows L2
/-! ## the head: what the top has written -/
def tf : List He.Defn := lamTl.map (·.1)
def exB (K : PySem.W.Frag) : Bool := xTabB K && oexAll K oexL
abbrev R : PySem.W.OpenRow := PySem.W.OpenLaw.row PySem.Challenge.rw_strikeloom_k06_lattices_refused
abbrev hk : PySem.W.Hook := He.hookX 6 fa fn [] tf exB
def ob (s : PySem.W.SharedT) : He.AlX := He.obsX 6 fa fn [] tf exB (HandSHeadRun.getT s)
theorem ob_eq (s : PySem.W.SharedT) : ob s = hk.obs s.abs := He.obsX_eq (HandSHeadRun.getT_eq s)
def nms : List PySem.Str := ("_wall" : PySem.Str) :: ("LoomError" : PySem.Str) :: ("Missing" : PySem.Str) :: ("BadShape" : PySem.Str) :: ("BadPrice" : PySem.Str) :: ("BadRate" : PySem.Str) :: ("BadStep" : PySem.Str) :: ("BadPage" : PySem.Str) :: ("BadName" : PySem.Str) :: ("Clash" : PySem.Str) :: ("Winning" : PySem.Str) :: ("Ring" : PySem.Str) :: ("TooGreat" : PySem.Str) :: ("InUse" : PySem.Str) :: ("StillAsked" : PySem.Str) :: ("NoNode" : PySem.Str) :: ("NoStand" : PySem.Str) :: ("NoNote" : PySem.Str) :: ("NoThing" : PySem.Str) :: ("less" : PySem.Str) :: ("MOST_DATES" : PySem.Str) :: ("MOST_NODES" : PySem.Str) :: ("look_shape" : PySem.Str) :: ("look_above" : PySem.Str) :: ("look_steps" : PySem.Str) :: ("Lattice" : PySem.Str) :: ("_law_box" : PySem.Str) :: ("_law_take" : PySem.Str) :: ("_law_one" : PySem.Str) :: ("_law_same" : PySem.Str) :: ("_law_common" : PySem.Str) :: ("_law_low" : PySem.Str) :: ("_law_sum" : PySem.Str) :: ("_law_less_by" : PySem.Str) :: ("_law_product" : PySem.Str) :: ("_law_share_of" : PySem.Str) :: ("_law_under" : PySem.Str) :: ("_law_above" : PySem.Str) :: ("_law_rows_between" : PySem.Str) :: ("_law_steps_between" : PySem.Str) :: ("_law_fair" : PySem.Str) :: ("_law_loose" : PySem.Str) :: ("_law_copy_web" : PySem.Str) :: ("_law_web" : PySem.Str) :: ("_law_why" : PySem.Str) :: ("_law_shape_good" : PySem.Str) :: ("_law_first_bad" : PySem.Str) :: ("_law_bent" : PySem.Str) :: []
theorem run (w : World) : HandSHeadRun.RunEq R (PySem.W.view R.prog [52]) hk ob 20000 nms w := by
  intro os
  kernel_rfl
theorem law_sp {K : PySem.W.Frag} {H : Hp} {a : Addr} {ns : List Int} (hl : ns.length ≤ 63) (hb : ∀ z ∈ ns, Builtin.Int.intBits z ≤ 1048576) (hT : ∀ p ∈ tf.map (He.cT K), H p.2 = some (.tbl #[])) (hS : SqL K H a (ns.map V.int)) :
    spOf K F_law [.ref a] H (fun v _ => v = .bl true) fun _ _ _ => False := by
  have dn : ∀ ι : List Addr, ∀ ns : List Int, Dens K ι H (ns.map Dt.int) (ns.map V.int) := by
    intro ι ns
    induction ns with
    | nil => rfl
    | cons n ns ih => exact ⟨_, _, rfl, rfl, ih⟩
  have tb : LamX.Tabs (lamT K) H := fun p hp => by
    obtain ⟨q, hq, rfl⟩ := List.mem_map.mp hp
    exact LamX.TabS.nil (hT (He.cT K q.1) (List.mem_map.mpr ⟨q.1, List.mem_map.mpr ⟨q, hq, rfl⟩, rfl⟩))
  have fin : ∀ {ι : List Addr} {o : Out Dt}, (∃ h', o = .ok (.bl true) h') → OkF K ι H o (fun v _ => v = .bl true) fun _ _ _ => False := by
    rintro ι o ⟨h', rfl⟩
    exact fun ι' H' v e r d => d
  rcases hS with (h | ⟨o, h⟩) | h
  · refine ⟨[a], [.ref 0], [.lst (ns.map .int)], ⟨tb, rfl, by simp, fun n c b e1 e2 => ?_⟩, ⟨_, _, rfl, ⟨a, rfl, rfl⟩, rfl⟩, fin (law_true2 ns hl hb)⟩
    cases n with
    | zero =>
      cases e1
      cases e2
      exact ⟨_, h, _, rfl, dn _ ns⟩
    | succ n => cases e1
  · exact ⟨[], [.cl (ns.map .int)], [], ⟨tb, rfl, List.nodup_nil, fun n c b e1 e2 => by cases e1⟩, ⟨_, _, rfl, ⟨a, _, rfl, .inl ⟨o, h⟩, dn [] ns⟩, rfl⟩, fin (law_true1 ns hl hb)⟩
  · exact ⟨[], [.cl (ns.map .int)], [], ⟨tb, rfl, List.nodup_nil, fun n c b e1 e2 => by cases e1⟩, ⟨_, _, rfl, ⟨a, _, rfl, .inr h, dn [] ns⟩, rfl⟩, fin (law_true1 ns hl hb)⟩
theorem law_at {w : World} {K : PySem.W.Frag} {h : Heap} {mg : Str → Option Value} {f : Addr} (X : K.In h) (G : h.Ns mainGlobals mg) (hfa : mg ("law" : Str) = some (.ref f)) (c : He.SaysX fa fn [] tf exB w h K) :
    LamX.LawAtS PySem.Challenge.rw_strikeloom_k06_lattices_refused w K (L2.CX (PySem.Challenge.rw_strikeloom_k06_lattices_refused).prog w) 9 63 "_law_script" mg f h := by
  obtain ⟨fd, F⟩ := c.t.d.def_ 31 (d := d_law) rfl
  obtain ⟨h1, h2⟩ := He.ba c.more
  have e := hfa.symm.trans (He.glo_ok X G (c.t.d.fact 66 (f := .glo "law") rfl))
  cases e
  refine ⟨fd, tf.map (He.cT K), spOf K F_law, fun p hp => ?_, fun p hp => ?_, fun p hp => ?_, fun s u => F.bindsA (ps := ["_law_script"]) (fun _ _ _ _ _ _ us hl => match us, hl with | [_], _ => rfl) s [u] rfl, fun H a ns hl hb hT hS => law_sp hl hb hT hS, fun base KB GB hTB => ?_⟩
  · obtain ⟨q, hq, rfl⟩ := List.mem_map.mp hp
    exact c.empty q hq
  · obtain ⟨q, hq, rfl⟩ := List.mem_map.mp hp
    exact c.out q hq
  · obtain ⟨q, hq, rfl⟩ := List.mem_map.mp hp
    exact PySem.W.codeHd_of_K X (c.hd q hq)
  · have T : Fx fa fn ⟨(PySem.Challenge.rw_strikeloom_k06_lattices_refused).prog, w, K, mg, base⟩ := ⟨⟨base, KB, GB⟩, c.t.d, xTabB_ok h1, h2, fun p hp => hTB _ (List.mem_map.mpr ⟨p.1, List.mem_map.mpr ⟨p, hp, rfl⟩, rfl⟩)⟩
    obtain ⟨fd2, F2, D⟩ := ok_law T
    obtain ⟨oc, od, dV, kV, doc, pm, an, cdv, ct, osl, rfl, lk, _⟩ := F.ex
    obtain ⟨oc2, od2, dV2, kV2, doc2, pm2, an2, cdv2, ct2, osl2, rfl, lk2, _⟩ := F2.ex
    have z := lk.symm.trans lk2
    have z2 := Data.func.inj (congrArg Obj.data (Option.some.inj z))
    rw [z2]
    exact D
end Cl
open PySem PySem.W PySem.Calls PyProof.Rows
theorem PySem.Challenge.cw_strikeloom_k06_lattices_refused_holds : PySem.Challenge.rw_strikeloom_k06_lattices_refused.Holds := by
  w_on; o_law
  refine HandSHeadRun.head_any (r := OpenLaw.row PySem.Challenge.rw_strikeloom_k06_lattices_refused) (q := view (OpenLaw.row PySem.Challenge.rw_strikeloom_k06_lattices_refused).prog [52]) (H := Cl.hk) (ob := Cl.ob) (M := 20000) (loose := Cl.nms) (d := HandSHeadRun.topDef (OpenLaw.row PySem.Challenge.rw_strikeloom_k06_lattices_refused).prog 52) (kwd := []) Cl.ob_eq
    (by kernel_rfl) (fun s => by kernel_rfl) Cl.run (by kernel_rfl) (by kernel_rfl) (by kernel_rfl) (by rfl) (by first | assumption | decide +kernel) (by decide +kernel) ⟨rfl, rfl, rfl, rfl, rfl, by decide +kernel⟩ ?hw ?hc
  case hw => w_witness2
  case hc =>
    refine LamX.walk_ofTsE (l := PySem.Challenge.rw_strikeloom_k06_lattices_refused) (n := 63) (k := 9) (x := "_law_script") (CX := fun w => L2.CX (PySem.Challenge.rw_strikeloom_k06_lattices_refused).prog w) rfl (by decide) (by kernel_rfl) ⟨rfl, by decide, by decide⟩ ?F (fun w H s e s' z => by
      obtain ⟨_, _, _, _, _, _, _, _, _, _, _, _, q⟩ := z
      exact q)
    intro w mg fa h Y G hmg0
    obtain ⟨K, KX, c⟩ := Y
    have hmg : mg ("law" : PySem.Str) = some (.ref fa) := by
      have e : (HandSHeadRun.topDef (OpenLaw.row PySem.Challenge.rw_strikeloom_k06_lattices_refused).prog 52).name = ("law" : PySem.Str) := by kernel_rfl
      rw [← e]
      exact hmg0
    exact ⟨K, KX, Cl.law_at KX G hmg c⟩
