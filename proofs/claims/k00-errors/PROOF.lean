import PyProof.Rows.All
import Wide.All
import OpenK.AllK
import Wide.FinOn
import HandS.ForMost
import HandS.Exc
import HandS.Flow
import HandS.Star
import HandS.IsInst
import HandS.Lambda
import HandS.Defaults
import HandS.MakeKw
import HandS.ExcInit
import KE.KExcSuper
import HandS.ExcIs
import HandS.ExcField
import KE.KExcIs
import HandS.RaiseMore
import HandS.FStr
import HandS.Iter
import HandS.Deep
import HandS.Style
import KE.KFmtOwn
import HandS.Wide
import HandS.Words
import HandS.EndTab
import HandS.Head0
import HandS.Head1
import HandS.Head2
import HandS.HeadEnd
import HandS.HeadHook1
import HandS.HeadHook2
import HandS.HeadHook3
import HandS.HeadHook4
import PyProof.SeqInW
import PyProof.MeetsIn
import HandS.Steps
import HandS.Text
import HandS.ExcValue
import PyProof.StrBlock2
import KE.KStateDown
import PySem.Challenge.RW_layerpost_k00_errors_and_kinds_of_values
set_option Elab.async false
set_option linter.all false
set_option maxRecDepth 100000
/-! DL: Python values as pure trees, over the hand layer. -/
namespace DL
open PySem PySem.Spec PyProof.Rows L2
/-- a value as a whole -/
inductive D where
  | non | bl (b : Bool) | int (i : Int) | str (x : Str)
  | tup (xs : List D) | lst (xs : List D)
  | ins (c : Nat) (fs : List (Str × D))
  | exn (c : Nat) (fs : List (Str × D))
  | dct (kvs : List (Key × D))
  | cls (c : Nat) | ty (n : String) | pen | adr (a : Addr)
  deriving Inhabited
/-- an exception: its class, its fields -/
structure Xc where
  c : Nat
  fs : List (Str × D)
/-- what a piece of code does: an end, an exception, nothing that is known, or a draw -/
inductive T (α : Type) where
  | ok (a : α) | exc (e : Xc) | stuck | draw (n : Int) (k : Int → T α)
namespace T
def bind {α β : Type} : T α → (α → T β) → T β
  | .ok a, f => f a
  | .exc e, _ => .exc e
  | .stuck, _ => .stuck
  | .draw n k, f => .draw n fun d => bind (k d) f
def map {α β : Type} (f : α → β) (t : T α) : T β := t.bind fun a => .ok (f a)
/-- all ends; the Nat counts the draws -/
def All {α : Type} : T α → Nat → (Nat → α → Prop) → (Nat → Xc → Prop) → Prop
  | .ok a, j, P, _ => P j a
  | .exc e, j, _, E => E j e
  | .stuck, _, _, _ => False
  | .draw n k, j, P, E => j < 1000000 ∧ 0 < n ∧ n < 2 ^ 1000 ∧ ∀ d, 0 ≤ d → d < n → (k d).All (j + 1) P E
theorem All.imp {α : Type} {P P' : Nat → α → Prop} {E E' : Nat → Xc → Prop} : ∀ {t : T α} {j : Nat}, t.All j P E → (∀ j' a, P j' a → P' j' a) → (∀ j' e, E j' e → E' j' e) → t.All j P' E'
  | .ok _, _, h, p, _ => p _ _ h
  | .exc _, _, h, _, e => e _ _ h
  | .stuck, _, h, _, _ => h
  | .draw _ _, _, ⟨h1, h2, h3, h⟩, p, e => ⟨h1, h2, h3, fun d a b => (h d a b).imp p e⟩
theorem All.bind {α β : Type} {f : α → T β} {P : Nat → β → Prop} {E : Nat → Xc → Prop} : ∀ {t : T α} {j : Nat}, (t.bind f).All j P E → t.All j (fun j' a => (f a).All j' P E) E
  | .ok _, _, h => h
  | .exc _, _, h => h
  | .stuck, _, h => h
  | .draw _ _, _, ⟨h1, h2, h3, h⟩ => ⟨h1, h2, h3, fun d a b => All.bind (h d a b)⟩
theorem All.of_bind {α β : Type} {f : α → T β} {P : Nat → β → Prop} {E : Nat → Xc → Prop} : ∀ {t : T α} {j : Nat}, t.All j (fun j' a => (f a).All j' P E) E → (t.bind f).All j P E
  | .ok _, _, h => h
  | .exc _, _, h => h
  | .stuck, _, h => h
  | .draw _ _, _, ⟨h1, h2, h3, h⟩ => ⟨h1, h2, h3, fun d a b => All.of_bind (h d a b)⟩
theorem bind_assoc {α β γ : Type} (f : α → T β) (g : β → T γ) : ∀ t : T α, (t.bind f).bind g = t.bind fun a => (f a).bind g
  | .ok _ => rfl
  | .exc _ => rfl
  | .stuck => rfl
  | .draw n k => congrArg (T.draw n) (funext fun d => bind_assoc f g (k d))
theorem bind_ok {α : Type} : ∀ t : T α, t.bind T.ok = t
  | .ok _ => rfl
  | .exc _ => rfl
  | .stuck => rfl
  | .draw n k => congrArg (T.draw n) (funext fun d => bind_ok (k d))
end T
/-- a result: a value, or a list of the frame's own that is looked at -/
inductive RV where
  | val (d : D) | brw (ds : List D) | bob (n : Nat) (gs : List (Str × D))
def RV.d : RV → D
  | .val d => d
  | .brw ds => .lst ds
  | .bob n gs => .ins n gs
/-- a slot: nothing, a value, a list of one's own, an object of one's own -/
inductive SV where
  | no | val (d : D) | own (ds : List D) | obj (n : Nat) (gs : List (Str × D))
def SV.isOwn : SV → Bool
  | .own _ => true
  | .obj _ _ => true
  | _ => false
abbrev Gm := List SV
/-- the classes' addresses; the pen's address, its list's, the script's numbers and how many bits they have at most -/
structure Ct where
  cA : Nat → Addr
  pa : Addr
  sa : Addr
  ns : List Int
  bl : Nat
  tb : List (Addr × Str) := []
  hp : Bool := true
/-- the pen stands, at most j draws were made -/
def PenAt (c : Ct) (H : Hp) (j : Nat) : Prop := (∃ vs, H c.pa = some (.lst vs)) ∧ (∃ vs, H c.sa = some (.lst vs)) ∧ (c.hp = true → ∃ k r : Int, H c.pa = some (.lst [.ref c.sa, .int k, .int r]) ∧ H c.sa = some (.lst (c.ns.map V.int)) ∧ c.pa ≠ c.sa ∧ 0 ≤ k ∧ k ≤ j ∧ 0 ≤ r ∧ r.natAbs < 2 ^ c.bl)
theorem PenAt.keep {c : Ct} {H H' : Hp} {j : Nat} (h : PenAt c H j) (k : ∀ b vs, (b = c.pa ∨ b = c.sa) → H b = some (.lst vs) → H' b = some (.lst vs)) : PenAt c H' j := by
  obtain ⟨⟨v1, h1⟩, ⟨v2, h2⟩, h3⟩ := h
  refine ⟨⟨v1, k _ _ (.inl rfl) h1⟩, ⟨v2, k _ _ (.inr rfl) h2⟩, fun hp => ?_⟩
  obtain ⟨kk, r, p1, p2, p3⟩ := h3 hp
  exact ⟨kk, r, k _ _ (.inl rfl) p1, k _ _ (.inr rfl) p2, p3⟩
/-- at a: an exception of the class at C that is kept, its dict d -/
def exv (a C : Addr) (d : Option Addr) : HO := .ext fun h => ∃ (oe : Obj) (vs : Array Value), h.get? a = some oe ∧ Zc (.ref C) d oe ∧ oe.data = .fields vs
mutual
/-- the value v stands for d, over the part F of the heap that never changes -/
inductive Dat (c : Ct) (K : PySem.W.Frag) (F : Hp) : V → D → Prop
  | non : Dat c K F .non .non
  | bl (b : Bool) : Dat c K F (.bl b) (.bl b)
  | int (i : Int) : Dat c K F (.int i) (.int i)
  | str (x : Str) : Dat c K F (.str x) (.str x)
  | tup {a : Addr} {vs : List V} {ds : List D} : SqT K F a vs → Dats c K F vs ds → Dat c K F (.ref a) (.tup ds)
  | lst {a : Addr} {vs : List V} {ds : List D} : F a = some (.lst vs) → Dats c K F vs ds → Dat c K F (.ref a) (.lst ds)
  | ins {a dx : Addr} {n : Nat} {fs : List (Str × V)} {gs : List (Str × D)} : F a = some (.ins (c.cA n) dx fs) → DatF c K F fs gs → Dat c K F (.ref a) (.ins n gs)
  | exn {a d : Addr} {n : Nat} {fs : List (Str × V)} {gs : List (Str × D)} : F a = some (exv a (c.cA n) (some d)) → F d = some (.xd fs) → DatF c K F fs gs → Dat c K F (.ref a) (.exn n gs)
  | exn0 {a : Addr} {n : Nat} : F a = some (exv a (c.cA n) none) → Dat c K F (.ref a) (.exn n [])
  | dct {a : Addr} {kvs : List (Key × V)} {ds : List (Key × D)} : F a = some (.dK kvs) → DatK c K F kvs ds → Dat c K F (.ref a) (.dct ds)
  | cls (n : Nat) : Dat c K F (.ref (c.cA n)) (.cls n)
  | ty (n : String) : Dat c K F (.ty n) (.ty n)
  | pen : Dat c K F (.ref c.pa) .pen
  | adr (a : Addr) : Dat c K F (.ref a) (.adr a)
inductive Dats (c : Ct) (K : PySem.W.Frag) (F : Hp) : List V → List D → Prop
  | nil : Dats c K F [] []
  | cons {v : V} {d : D} {vs : List V} {ds : List D} : Dat c K F v d → Dats c K F vs ds → Dats c K F (v :: vs) (d :: ds)
inductive DatF (c : Ct) (K : PySem.W.Frag) (F : Hp) : List (Str × V) → List (Str × D) → Prop
  | nil : DatF c K F [] []
  | cons {f : Str} {v : V} {d : D} {fs : List (Str × V)} {gs : List (Str × D)} : Dat c K F v d → DatF c K F fs gs → DatF c K F ((f, v) :: fs) ((f, d) :: gs)
inductive DatK (c : Ct) (K : PySem.W.Frag) (F : Hp) : List (Key × V) → List (Key × D) → Prop
  | nil : DatK c K F [] []
  | cons {f : Key} {v : V} {d : D} {fs : List (Key × V)} {gs : List (Key × D)} : Dat c K F v d → DatK c K F fs gs → DatK c K F ((f, v) :: fs) ((f, d) :: gs)
end
section
variable {c : Ct} {K : PySem.W.Frag} {F F' : Hp}
theorem SqT.mono {a : Addr} {vs : List V} (h : SqT K F a vs) (m : ∀ b o, F b = some o → F' b = some o) : SqT K F' a vs := by
  rcases h with (h | ⟨o, h⟩) | h
  · exact .inl (.inl (m _ _ h))
  · exact .inl (.inr ⟨o, m _ _ h⟩)
  · exact .inr h
theorem SqL.mono {a : Addr} {vs : List V} (h : SqL K F a vs) (m : ∀ b o, F b = some o → F' b = some o) : SqL K F' a vs := Same.seq (H := F) (H' := F') m h
mutual
theorem Dat.mono (m : ∀ b o, F b = some o → F' b = some o) : ∀ {v : V} {d : D}, Dat c K F v d → Dat c K F' v d
  | _, _, .non => .non
  | _, _, .bl b => .bl b
  | _, _, .int i => .int i
  | _, _, .str x => .str x
  | _, _, .tup h r => .tup (SqT.mono h m) (Dats.mono m r)
  | _, _, .lst h r => .lst (m _ _ h) (Dats.mono m r)
  | _, _, .ins h r => .ins (m _ _ h) (DatF.mono m r)
  | _, _, .exn h h2 r => .exn (m _ _ h) (m _ _ h2) (DatF.mono m r)
  | _, _, .exn0 h => .exn0 (m _ _ h)
  | _, _, .dct h r => .dct (m _ _ h) (DatK.mono m r)
  | _, _, .cls n => .cls n
  | _, _, .ty n => .ty n
  | _, _, .pen => .pen
  | _, _, .adr a => .adr a
theorem Dats.mono (m : ∀ b o, F b = some o → F' b = some o) : ∀ {vs : List V} {ds : List D}, Dats c K F vs ds → Dats c K F' vs ds
  | _, _, .nil => .nil
  | _, _, .cons h r => .cons (Dat.mono m h) (Dats.mono m r)
theorem DatF.mono (m : ∀ b o, F b = some o → F' b = some o) : ∀ {fs : List (Str × V)} {gs : List (Str × D)}, DatF c K F fs gs → DatF c K F' fs gs
  | _, _, .nil => .nil
  | _, _, .cons h r => .cons (Dat.mono m h) (DatF.mono m r)
theorem DatK.mono (m : ∀ b o, F b = some o → F' b = some o) : ∀ {fs : List (Key × V)} {gs : List (Key × D)}, DatK c K F fs gs → DatK c K F' fs gs
  | _, _, .nil => .nil
  | _, _, .cons h r => .cons (Dat.mono m h) (DatK.mono m r)
end
theorem Dats.length : ∀ {vs : List V} {ds : List D}, Dats c K F vs ds → vs.length = ds.length
  | _, _, .nil => rfl
  | _, _, .cons _ r => congrArg Nat.succ (Dats.length r)
theorem Dats.append : ∀ {vs ws : List V} {ds es : List D}, Dats c K F vs ds → Dats c K F ws es → Dats c K F (vs ++ ws) (ds ++ es)
  | _, _, _, _, .nil, s => s
  | _, _, _, _, .cons h r, s => .cons h (Dats.append r s)
theorem Dats.get : ∀ {vs : List V} {ds : List D} {i : Nat} {d : D}, Dats c K F vs ds → ds[i]? = some d → ∃ v, vs[i]? = some v ∧ Dat c K F v d
  | _, _, 0, _, .cons h _, e => by simp at e; subst e; exact ⟨_, rfl, h⟩
  | _, _, i + 1, d, .cons _ r, e => by
    obtain ⟨v, h1, h2⟩ := Dats.get (i := i) (d := d) r (by simpa using e)
    exact ⟨v, by simpa using h1, h2⟩
theorem Dats.getV : ∀ {vs : List V} {ds : List D} {i : Nat} {v : V}, Dats c K F vs ds → vs[i]? = some v → ∃ d, ds[i]? = some d ∧ Dat c K F v d
  | _, _, 0, _, .cons h _, e => by simp at e; subst e; exact ⟨_, rfl, h⟩
  | _, _, i + 1, v, .cons _ r, e => by
    obtain ⟨d, h1, h2⟩ := Dats.getV (i := i) (v := v) r (by simpa using e)
    exact ⟨d, by simpa using h1, h2⟩
theorem Dats.take : ∀ {vs : List V} {ds : List D} (n : Nat), Dats c K F vs ds → Dats c K F (vs.take n) (ds.take n)
  | _, _, 0, _ => .nil
  | _, _, _ + 1, .nil => .nil
  | _, _, n + 1, .cons h r => .cons h (Dats.take n r)
theorem Dats.drop : ∀ {vs : List V} {ds : List D} (n : Nat), Dats c K F vs ds → Dats c K F (vs.drop n) (ds.drop n)
  | _, _, 0, r => r
  | _, _, _ + 1, .nil => .nil
  | _, _, n + 1, .cons _ r => Dats.drop n r
theorem Dats.reverse : ∀ {vs : List V} {ds : List D}, Dats c K F vs ds → Dats c K F vs.reverse ds.reverse
  | _, _, .nil => .nil
  | _, _, .cons h r => by
    rw [List.reverse_cons, List.reverse_cons]
    exact (Dats.reverse r).append (.cons h .nil)
theorem DatF.look {f : Str} {d : D} : ∀ {fs : List (Str × V)} {gs : List (Str × D)}, DatF c K F fs gs → gs.lookup f = some d → ∃ v, fs.lookup f = some v ∧ Dat c K F v d
  | _, _, .nil, e => by cases e
  | _, _, .cons (f := g) h r, e => by
    simp only [List.lookup_cons] at e ⊢
    cases q : (f == g) with
    | true =>
      rw [q] at e
      cases e
      exact ⟨_, rfl, h⟩
    | false =>
      rw [q] at e
      exact DatF.look r e
theorem DatF.look_none {f : Str} : ∀ {fs : List (Str × V)} {gs : List (Str × D)}, DatF c K F fs gs → gs.lookup f = none → fs.lookup f = none
  | _, _, .nil, _ => rfl
  | _, _, .cons (f := g) h r, e => by
    simp only [List.lookup_cons] at e ⊢
    cases q : (f == g) with
    | true => rw [q] at e; cases e
    | false =>
      rw [q] at e
      exact DatF.look_none r e
end
/-- the tables; no other one is there -/
structure TabA (T : List (Addr × Str)) (H : Hp) : Prop where
  tab : LamX.Tabs T H
  all : ∀ a ps, H a = some (.tbl ps) → ∃ q, (a, q) ∈ T
/-- the part F stands in H; the pen stands, j draws at most were made -/
structure Good (c : Ct) (F H : Hp) (j : Nat) : Prop where
  sub : ∀ a o, F a = some o → H a = some o
  pa : c.hp = true → F c.pa = none
  pen : PenAt c H j
  tab : TabA c.tb H
  nt : ∀ a ps, F a ≠ some (.tbl ps)
/-- no table -/
def NT (o : HO) : Prop := ∀ ps, o ≠ .tbl ps
theorem NT.lst {vs : List V} : NT (.lst vs) := fun _ z => by cases z
theorem NT.tup {vs : List V} : NT (.tup vs) := fun _ z => by cases z
theorem NT.ins {C d : Addr} {fs : List (Str × V)} : NT (.ins C d fs) := fun _ z => by cases z
theorem NT.xd {fs : List (Str × V)} : NT (.xd fs) := fun _ z => by cases z
theorem NT.dK {fs : List (Key × V)} : NT (.dK fs) := fun _ z => by cases z
theorem NT.own {a : Addr} : NT (.own a) := fun _ z => by cases z
theorem NT.ext {p : Heap → Prop} : NT (.ext p) := fun _ z => by cases z
theorem NT.exv {a C : Addr} {d : Option Addr} : NT (exv a C d) := fun _ z => by unfold DL.exv at z; cases z
/-- the tables stay where all but lists and instances stays -/
theorem tbl_upd {H : Hp} {a b : Addr} {o : HO} {ps : Array Value} (ho : NT o) (h : upd H a o b = some (.tbl ps)) : H b = some (.tbl ps) := by
  by_cases e : b = a
  · rw [e, upd_same] at h; cases h; exact absurd rfl (ho _)
  · rw [upd_ne e] at h; exact h
theorem tabs_keep {T : List (Addr × Str)} {H H' : Hp} (t : TabA T H) (k : ∀ b o, (∀ vs, o ≠ .lst vs) → (∀ C d fs, o ≠ .ins C d fs) → H b = some o → H' b = some o) (k2 : ∀ b ps, H' b = some (.tbl ps) → H b = some (.tbl ps)) : TabA T H' := ⟨fun p hp => by
  obtain ⟨ps, h1, h2, h3⟩ := t.tab p hp
  refine ⟨ps, k _ _ (fun _ z => by cases z) (fun _ _ _ z => by cases z) h1, h2, fun pos cv hc => ?_⟩
  obtain ⟨c, e1, e2⟩ := h3 pos cv hc
  exact ⟨c, e1, k _ _ (fun _ z => by unfold LamX.CodeO at z; cases z) (fun _ _ _ z => by unfold LamX.CodeO at z; cases z) e2⟩, fun a ps h => t.all a ps (k2 a ps h)⟩
theorem nt_upd {F : Hp} {a : Addr} {o : HO} (h : ∀ a ps, F a ≠ some (.tbl ps)) (ho : NT o) : ∀ b ps, upd F a o b ≠ some (.tbl ps) := fun b ps z => by
  by_cases e : b = a
  · rw [e, upd_same] at z; cases z; exact ho _ rfl
  · rw [upd_ne e] at z; exact h b ps z
/-- nothing was changed but the pen; F grew by new objects alone -/
structure Ext (c : Ct) (F H F' H' : Hp) : Prop where
  up : ∀ a o, F a = some o → F' a = some o
  keep : ∀ a o, a ≠ c.pa → NT o → H a = some o → H' a = some o
  there : ∀ a, H a ≠ none → H' a ≠ none
  new : ∀ a, F' a ≠ none → F a ≠ none ∨ H a = none
/-- the exception's dict -/
def XdOk (c : Ct) (K : PySem.W.Frag) (H0 F H : Hp) (d : Addr) (e : Xc) : Prop := ∃ fs, H d = some (.xd fs) ∧ DatF c K F fs e.fs ∧ H0 d = none ∧ F d = none
/-- a result -/
def RDat (c : Ct) (K : PySem.W.Frag) (F H : Hp) (v : V) : RV → Prop
  | .val d => Dat c K F v d
  | .brw ds => ∃ a vs, v = .ref a ∧ a ≠ c.pa ∧ H a = some (.lst vs) ∧ Dats c K F vs ds
  | .bob n gs => ∃ a dx fs, v = .ref a ∧ a ≠ c.pa ∧ H a = some (.ins (c.cA n) dx fs) ∧ DatF c K F fs gs
/-- the address a is one's own -/
def OwnAt (σ : L2.St) (γ : Gm) (a : Addr) : Prop := ∃ (i : Nat) (o : SV), γ[i]? = some o ∧ o.isOwn = true ∧ σ[i]? = some (some (.ref a))
structure EnvOk (c : Ct) (K : PySem.W.Frag) (F H : Hp) (σ : L2.St) (γ : Gm) : Prop where
  len : σ.length = γ.length
  val : ∀ (i : Nat) d, γ[i]? = some (.val d) → ∃ v, σ[i]? = some (some v) ∧ Dat c K F v d
  own : ∀ (i : Nat) ds, γ[i]? = some (.own ds) → ∃ a vs, σ[i]? = some (some (.ref a)) ∧ a ≠ c.pa ∧ a ≠ c.sa ∧ F a = none ∧ H a = some (.lst vs) ∧ Dats c K F vs ds
  obj : ∀ (i : Nat) n gs, γ[i]? = some (.obj n gs) → ∃ a dx fs, σ[i]? = some (some (.ref a)) ∧ a ≠ c.pa ∧ a ≠ c.sa ∧ F a = none ∧ H a = some (.ins (c.cA n) dx fs) ∧ DatF c K F fs gs
  ne : ∀ (i j : Nat) o u a, γ[i]? = some o → o.isOwn = true → γ[j]? = some u → u.isOwn = true → σ[i]? = some (some (.ref a)) → σ[j]? = some (some (.ref a)) → i = j
section
variable {c : Ct} {K : PySem.W.Frag} {F F' F2 H H' H2 : Hp} {j : Nat} {σ : L2.St} {γ : Gm}
theorem Ext.refl : Ext c F H F H := ⟨fun _ _ h => h, fun _ _ _ _ h => h, fun _ h => h, fun _ h => .inl h⟩
theorem Ext.trans (a : Ext c F H F' H') (b : Ext c F' H' F2 H2) : Ext c F H F2 H2 := by
  refine ⟨fun x o h => b.up x o (a.up x o h), fun x o n t h => b.keep x o n t (a.keep x o n t h), fun x h => b.there x (a.there x h), fun x h => ?_⟩
  rcases b.new x h with h1 | h1
  · exact a.new x h1
  · right
    cases q : H x with
    | none => rfl
    | some o => exact absurd h1 (a.there x (by rw [q]; simp))
theorem RDat.ext {v : V} {x : RV} (h : RDat c K F H v x) (e : Ext c F H F' H') : RDat c K F' H' v x := by
  cases x with
  | val d => exact Dat.mono e.up h
  | brw ds =>
    obtain ⟨a, vs, rfl, n, ha, hd⟩ := h
    exact ⟨a, vs, rfl, n, e.keep a _ n .lst ha, hd.mono e.up⟩
  | bob m gs =>
    obtain ⟨a, dx, fs, rfl, n, ha, hd⟩ := h
    exact ⟨a, dx, fs, rfl, n, e.keep a _ n .ins ha, hd.mono e.up⟩
theorem EnvOk.ext (h : EnvOk c K F H σ γ) (e : Ext c F H F' H') : EnvOk c K F' H' σ γ := by
  have nf : ∀ a o, F a = none → H a = some o → F' a = none := fun a o h4 h5 => by
    cases z : F' a with
    | none => rfl
    | some o =>
      rcases e.new a (by rw [z]; simp) with y | y
      · exact absurd h4 y
      · rw [y] at h5; cases h5
  refine ⟨h.len, fun i d q => ?_, fun i ds q => ?_, fun i n gs q => ?_, h.ne⟩
  · obtain ⟨v, h1, h2⟩ := h.val i d q
    exact ⟨v, h1, h2.mono e.up⟩
  · obtain ⟨a, vs, h1, h2, h3, h4, h5, h6⟩ := h.own i ds q
    exact ⟨a, vs, h1, h2, h3, nf a _ h4 h5, e.keep a _ h2 .lst h5, h6.mono e.up⟩
  · obtain ⟨a, dx, fs, h1, h2, h3, h4, h5, h6⟩ := h.obj i n gs q
    exact ⟨a, dx, fs, h1, h2, h3, nf a _ h4 h5, e.keep a _ h2 .ins h5, h6.mono e.up⟩
/-- a new object, taken into the part that never changes -/
theorem Good.lay {p : Addr} {o : HO} (g : Good c F H j) (hp : H p = none) (ho : NT o := by first | exact .lst | exact .tup | exact .ins | exact .xd | exact .dK | exact .exv) : Good c (upd F p o) (upd H p o) j ∧ Ext c F H (upd F p o) (upd H p o) := by
  obtain ⟨g1, g2, gp, gt, gn⟩ := g
  have n1 : c.pa ≠ p := ne_of_none gp.1.choose_spec hp
  refine ⟨⟨fun a u h => ?_, fun h => by rw [upd_ne n1]; exact g2 h, gp.keep fun b vs _ h => by rw [upd_ne (ne_of_none h hp)]; exact h, tabs_keep gt (fun b o _ _ h => by rw [upd_ne (ne_of_none h hp)]; exact h) (fun _ _ h => tbl_upd ho h), nt_upd gn ho⟩, fun a u h => ?_, fun a u _ _ h => ?_, fun a h => ?_, fun a h => ?_⟩
  · by_cases e : a = p
    · subst e; rw [upd_same] at h ⊢; exact h
    · rw [upd_ne e] at h ⊢; exact g1 a u h
  · have e : a ≠ p := fun e => by subst e; have := g1 _ _ h; rw [hp] at this; cases this
    rw [upd_ne e]; exact h
  · rw [upd_ne (ne_of_none h hp)]; exact h
  · have e : a ≠ p := fun e => h (by rw [e]; exact hp)
    rw [upd_ne e]; exact h
  · by_cases e : a = p
    · right; rw [e]; exact hp
    · rw [upd_ne e] at h; exact .inl h
/-- a new object that is not taken in -/
theorem Good.layOut {p : Addr} {o : HO} (g : Good c F H j) (hp : H p = none) (ho : NT o := by first | exact .lst | exact .tup | exact .ins | exact .xd | exact .dK | exact .exv) : Good c F (upd H p o) j ∧ Ext c F H F (upd H p o) := by
  obtain ⟨g1, g2, gp, gt, gn⟩ := g
  have n1 : c.pa ≠ p := ne_of_none gp.1.choose_spec hp
  refine ⟨⟨fun a u h => ?_, g2, gp.keep fun b vs _ h => by rw [upd_ne (ne_of_none h hp)]; exact h, tabs_keep gt (fun b o _ _ h => by rw [upd_ne (ne_of_none h hp)]; exact h) (fun _ _ h => tbl_upd ho h), gn⟩, fun a u h => h, fun a u _ _ h => ?_, fun a h => ?_, fun a h => .inl h⟩
  · have e : a ≠ p := fun e => by subst e; have := g1 _ _ h; rw [hp] at this; cases this
    rw [upd_ne e]; exact g1 a u h
  · rw [upd_ne (ne_of_none h hp)]; exact h
  · have e : a ≠ p := fun e => h (by rw [e]; exact hp)
    rw [upd_ne e]; exact h
theorem Good.upj {j' : Nat} (g : Good c F H j) (h : j ≤ j') : Good c F H j' := by
  obtain ⟨g1, g2, ⟨q1, q2, q3⟩, gt, gn⟩ := g
  refine ⟨g1, g2, ⟨q1, q2, fun hp => ?_⟩, gt, gn⟩
  obtain ⟨k, r, p1, p2, p3, p4, p5, p6⟩ := q3 hp
  exact ⟨k, r, p1, p2, p3, p4, by omega, p6⟩
end
/-! ### the judgements -/
/-- what is wanted behind an expression -/
def pE (c : Ct) (K : PySem.W.Frag) (F H : Hp) (Q : VK) : Nat → RV → Prop := fun j x => ∀ F' H' v, Ext c F H F' H' → Good c F' H' j → RDat c K F' H' v x → Q v H'
def pX (c : Ct) (K : PySem.W.Frag) (W : WX) (F H : Hp) (σ : L2.St) : Nat → Xc → Prop := fun j e => ∀ F' H' d, Ext c F H F' H' → Good c F' H' j → XdOk c K H F' H' d e → W (.ref (c.cA e.c)) (some d) σ H'
def tE (c : Ct) (K : PySem.W.Frag) (W : WX) (m : Gm → T RV) : TE := fun σ H Q => ∃ F γ j, Good c F H j ∧ EnvOk c K F H σ γ ∧ (m γ).All j (pE c K F H Q) (pX c K W F H σ)
/-- a test -/
def pT (c : Ct) (F H : Hp) (Q : Bool → Hp → Prop) : Nat → Bool → Prop := fun j b => ∀ F' H', Ext c F H F' H' → Good c F' H' j → Q b H'
def tT (c : Ct) (K : PySem.W.Frag) (W : WX) (m : Gm → T Bool) : TT := fun σ H Q => ∃ F γ j, Good c F H j ∧ EnvOk c K F H σ γ ∧ (m γ).All j (pT c F H Q) (pX c K W F H σ)
/-- arguments -/
def pA (c : Ct) (K : PySem.W.Frag) (F H : Hp) (Q : List V → Hp → Prop) : Nat → List D → Prop := fun j x => ∀ F' H' vs, Ext c F H F' H' → Good c F' H' j → Dats c K F' vs x → Q vs H'
def tA (c : Ct) (K : PySem.W.Frag) (W : WX) (m : Gm → T (List D)) : TA := fun σ H Q => ∃ F γ j, Good c F H j ∧ EnvOk c K F H σ γ ∧ (m γ).All j (pA c K F H Q) (pX c K W F H σ)
structure DE (X : Cx) (c : Ct) (W : WX) (e : Expr) (m : Gm → T RV) : Prop where
  pe : PE X e (tE c X.K W m)
structure DT (X : Cx) (c : Ct) (W : WX) (e : Expr) (m : Gm → T Bool) : Prop where
  pt : PT X e (tT c X.K W m)
structure DA (X : Cx) (c : Ct) (W : WX) (es : List Expr) (m : Gm → T (List D)) : Prop where
  pa : PA X es (tA c X.K W m)
section
variable {X : Cx} {c : Ct} {K : PySem.W.Frag} {W : WX} {F F' H H' : Hp} {σ : L2.St} {j : Nat}
theorem pE.ext {Q : VK} {x : RV} (h : pE c K F H Q j x) (e : Ext c F H F' H') : pE c K F' H' Q j x := fun F2 H2 v e2 g r => h F2 H2 v (e.trans e2) g r
theorem Ext.none {a : Addr} (e : Ext c F H F' H') (h : H' a = none) : H a = none := by
  cases q : H a with
  | none => rfl
  | some o => exact absurd h (e.there a (by rw [q]; simp))
theorem XdOk.low {d : Addr} {x : Xc} {F2 H2 : Hp} (h : XdOk c K H' F2 H2 d x) (e : Ext c F H F' H') : XdOk c K H F2 H2 d x := by
  obtain ⟨fs, h1, h2, h3, h4⟩ := h
  exact ⟨fs, h1, h2, e.none h3, h4⟩
theorem pX.ext {x : Xc} (h : pX c K W F H σ j x) (e : Ext c F H F' H') : pX c K W F' H' σ j x := fun F2 H2 d e2 g r => h F2 H2 d (e.trans e2) g (r.low e)
/-- an expression's reading is weakened -/
theorem _root_.L2.PE.imp {e : Expr} {t t' : TE} (h : PE X e t) (i : ∀ σ H Q, t' σ H Q → t σ H Q) : PE X e t' := ⟨fun pins s σ H Q I q => h.run pins s σ H Q I (i σ H Q q)⟩
theorem _root_.L2.PT.imp {e : Expr} {t t' : TT} (h : PT X e t) (i : ∀ σ H Q, t' σ H Q → t σ H Q) : PT X e t' := ⟨fun pins s σ H Q I q => h.run pins s σ H Q I (i σ H Q q)⟩
theorem _root_.L2.PA.imp {es : List Expr} {t t' : TA} (h : PA X es t) (i : ∀ σ H Q, t' σ H Q → t σ H Q) : PA X es t' := ⟨fun pos pins s σ H Q I q => h.run pos pins s σ H Q I (i σ H Q q)⟩
theorem _root_.L2.PS.imp {st : Stmt} {t t' : TS} (h : PS X st t) (i : ∀ D σ H, t' D σ H → t D σ H) : PS X st t' := ⟨fun pins s σ H D I q => h.run pins s σ H D I (i D σ H q)⟩
theorem _root_.L2.PSs.imp {st : List Stmt} {t t' : TS} (h : PSs X st t) (i : ∀ D σ H, t' D σ H → t D σ H) : PSs X st t' := ⟨fun pins s σ H D I q => h.run pins s σ H D I (i D σ H q)⟩
/-- the first part of a sequence: what comes behind it knows the parts' state -/
theorem tE.seq {α : Type} {m : Gm → T RV} {γ : Gm} {f : RV → T α} {P : Nat → α → Prop} {Q : VK} (g : Good c F H j) (en : EnvOk c K F H σ γ) (h : ((m γ).bind f).All j P (pX c K W F H σ))
    (k : ∀ j' x F' H' v, Ext c F H F' H' → Good c F' H' j' → EnvOk c K F' H' σ γ → RDat c K F' H' v x → (f x).All j' P (pX c K W F H σ) → Q v H') : tE c K W m σ H Q :=
  ⟨F, γ, j, g, en, (T.All.bind h).imp (fun j' x hx F' H' v e g' r => k j' x F' H' v e g' (en.ext e) r hx) fun _ _ z => z⟩
theorem tA.seq {α : Type} {m : Gm → T (List D)} {γ : Gm} {f : List D → T α} {P : Nat → α → Prop} {Q : List V → Hp → Prop} (g : Good c F H j) (en : EnvOk c K F H σ γ) (h : ((m γ).bind f).All j P (pX c K W F H σ))
    (k : ∀ j' x F' H' vs, Ext c F H F' H' → Good c F' H' j' → EnvOk c K F' H' σ γ → Dats c K F' vs x → (f x).All j' P (pX c K W F H σ) → Q vs H') : tA c K W m σ H Q :=
  ⟨F, γ, j, g, en, (T.All.bind h).imp (fun j' x hx F' H' v e g' r => k j' x F' H' v e g' (en.ext e) r hx) fun _ _ z => z⟩
theorem tT.seq {α : Type} {m : Gm → T Bool} {γ : Gm} {f : Bool → T α} {P : Nat → α → Prop} {Q : Bool → Hp → Prop} (g : Good c F H j) (en : EnvOk c K F H σ γ) (h : ((m γ).bind f).All j P (pX c K W F H σ))
    (k : ∀ j' x F' H', Ext c F H F' H' → Good c F' H' j' → EnvOk c K F' H' σ γ → (f x).All j' P (pX c K W F H σ) → Q x H') : tT c K W m σ H Q :=
  ⟨F, γ, j, g, en, (T.All.bind h).imp (fun j' x hx F' H' e g' => k j' x F' H' e g' (en.ext e) hx) fun _ _ z => z⟩
end
end DL
namespace DL
open PySem PySem.Spec L2
open PyProof.Rows
section
variable {X : Cx} {c : Ct} {W : WX} {a b : Expr} {ma mb : Gm → T RV} {pos : Pos}
/-! ### names and constants -/
def mVar (i : Nat) : Gm → T RV := fun γ => match γ[i]? with
  | some (.val d) => .ok (.val d)
  | some (.own ds) => .ok (.brw ds)
  | some (.obj n gs) => .ok (.bob n gs)
  | _ => .stuck
def mC (d : D) : Gm → T RV := fun _ => .ok (.val d)
theorem de_var (i : Nat) {x : Str} (hN : X.N[i]? = some x := by rfl) (hv : Vis X.env.scope x := by first | exact Or.inl rfl | exact Or.inr (Or.inl rfl) | exact Or.inr (Or.inr rfl)) (hd : (x == ("__debug__" : Str)) = false := by decide)
    (hcd : (x == ("__classdict__" : Str)) = false := by decide) : DE X c W (.Name x pos) (mVar i) := by
  refine ⟨(pe_var hN hv hd hcd).imp fun σ H Q ⟨F, γ, j, g, en, h⟩ => ?_⟩
  unfold mVar at h
  split at h
  · rename_i d e
    obtain ⟨v, h1, h2⟩ := en.val i d e
    exact ⟨v, h1, h F H v .refl g h2⟩
  · rename_i ds e
    obtain ⟨a, vs, h1, h2, h3, h4, h5, h6⟩ := en.own i ds e
    exact ⟨_, h1, h F H _ .refl g ⟨a, vs, rfl, h2, h5, h6⟩⟩
  · rename_i n gs e
    obtain ⟨a, dx, fs, h1, h2, h3, h4, h5, h6⟩ := en.obj i n gs e
    exact ⟨_, h1, h F H _ .refl g ⟨a, dx, fs, rfl, h2, h5, h6⟩⟩
  · exact h.elim
/-- a value that stands everywhere -/
theorem de_c {e : Expr} {v : V} {d : D} (h : PE X e (tC v)) (hd : ∀ F, Dat c X.K F v d) : DE X c W e (mC d) :=
  ⟨h.imp fun σ H Q ⟨F, γ, j, g, en, k⟩ => k F H v .refl g (hd F)⟩
theorem de_int {i : Int} {k : Nat} : DE X c W (.Constant (.int i) k pos) (mC (.int i)) := de_c pe_int fun _ => .int i
theorem de_bl {i : Bool} {k : Nat} : DE X c W (.Constant (.bool i) k pos) (mC (.bl i)) := de_c pe_bl fun _ => .bl i
theorem de_non {k : Nat} : DE X c W (.Constant .none k pos) (mC .non) := de_c pe_non fun _ => .non
theorem de_str {x : Str} {k : Nat} : DE X c W (.Constant (.str x) k pos) (mC (.str x)) := de_c pe_str fun _ => .str x
/-- a module's name -/
theorem de_glob {x : Str} {v : V} {u : Value} {d : D} (hg : Gl X x) (hm : X.mg x = some u) (r : RelV v u) (hd : ∀ F, Dat c X.K F v d) (hdb : (x == ("__debug__" : Str)) = false := by decide) : DE X c W (.Name x pos) (mC d) :=
  de_c (pe_glob hg hm r hdb) hd
/-- a built-in class as a value -/
theorem de_ty {x : Str} {n : String} (hg : Gl X x) (hm : X.mg x = none) (hv : bootBuiltins x = some (.type n)) (hn : x ≠ "__name__" := by decide) (hd : (x == ("__debug__" : Str)) = false := by decide) : DE X c W (.Name x pos) (mC (.ty n)) :=
  de_c (pe_bltn (v := .ty n) hg hm hv rfl hn hd) fun _ => .ty n
/-! ### two values -/
def mBin (g : RV → RV → T RV) (ma mb : Gm → T RV) : Gm → T RV := fun γ => (ma γ).bind fun x => (mb γ).bind fun y => g x y
/-- an operation on two values -/
def OpD (X : Cx) (c : Ct) (W : WX) (f : Value → Value → Sem Value) (g : RV → RV → T RV) : Prop :=
  ∀ (pins : List (Addr × Obj)) (s : Shared) (σ : L2.St) (H : Hp) (x y : V) (v u : Value) (Q : VK) (F : Hp) (j : Nat) (dx dy : RV), Inv X pins σ H s → RelV x v → RelV y u → Good c F H j → RDat c X.K F H x dx → RDat c X.K F H y dy →
    (g dx dy).All j (pE c X.K F H Q) (pX c X.K W F H σ) → wpAny (model X.prog X.w) X.A (f v u) (EP X pins σ Q) X.xe s
theorem two {K : PySem.W.Frag} {α : Type} {g : RV → RV → T α} {P : Nat → α → Prop} {σ : L2.St} {F H : Hp} {γ : Gm} {j : Nat} {R : V → V → Hp → Prop} (gd : Good c F H j) (en : EnvOk c K F H σ γ)
    (h : ((ma γ).bind fun x => (mb γ).bind fun y => g x y).All j P (pX c K W F H σ))
    (k : ∀ j' dx dy F' H' x y, Ext c F H F' H' → Good c F' H' j' → EnvOk c K F' H' σ γ → RDat c K F' H' x dx → RDat c K F' H' y dy → (g dx dy).All j' P (pX c K W F' H' σ) → R x y H') :
    tE c K W ma σ H fun x H1 => tE c K W mb σ H1 fun y H2 => R x y H2 := by
  refine tE.seq gd en h fun j1 dx F1 H1 x e1 g1 en1 r1 h1 => ?_
  refine tE.seq (f := g dx) g1 en1 (h1.imp (fun _ _ z => z) fun _ _ z => z.ext e1) fun j2 dy F2 H2 y e2 g2 en2 r2 h2 => ?_
  exact k j2 dx dy F2 H2 x y (e1.trans e2) g2 en2 (r1.ext e2) r2 (h2.imp (fun _ _ z => z) fun _ _ z => z.ext e2)
theorem de_bin {op : Operator} {g : RV → RV → T RV} (ho : OpD X c W (binaryOp op) g) (ha : DE X c W a ma) (hb : DE X c W b mb) : DE X c W (.BinOp a op b pos) (mBin g ma mb) := by
  refine ⟨⟨fun pins s σ H Q I ⟨F, γ, j, gd, en, h⟩ => ?_⟩⟩
  refine wpAny_BinOp (binT ha.pe hb.pe I (R := fun x y H2 => ∃ F j dx dy, Good c F H2 j ∧ RDat c X.K F H2 x dx ∧ RDat c X.K F H2 y dy ∧ (g dx dy).All j (pE c X.K F H2 Q) (pX c X.K W F H2 σ))
    (two gd en h fun j' dx dy F' H' x y e g' en' r1 r2 q => ⟨F', j', dx, dy, g', r1, r2, q.imp (fun _ _ z => z.ext e) fun _ _ z => z⟩) fun v u s2 x y H2 I2 rx ry ⟨F2, j2, dx, dy, g2, r1, r2, q⟩ => ?_)
  exact ho pins s2 σ H2 x y v u Q F2 j2 dx dy I2 rx ry g2 r1 r2 q
/-- a comparison as a value -/
theorem de_cmp {op : CmpOp} {g : RV → RV → T RV} (ho : OpD X c W (compareOp op) g) (ha : DE X c W a ma) (hb : DE X c W b mb) (hm : behindInMarks op b = false := by first | exact nomark _ | rfl) : DE X c W (.Compare a [op] [b] pos) (mBin g ma mb) := by
  refine ⟨⟨fun pins s σ H Q I ⟨F, γ, j, gd, en, h⟩ => ?_⟩⟩
  refine wpAny_Compare1 (binT ha.pe hb.pe I (R := fun x y H2 => ∃ F j dx dy, Good c F H2 j ∧ RDat c X.K F H2 x dx ∧ RDat c X.K F H2 y dy ∧ (g dx dy).All j (pE c X.K F H2 Q) (pX c X.K W F H2 σ))
    (two gd en h fun j' dx dy F' H' x y e g' en' r1 r2 q => ⟨F', j', dx, dy, g', r1, r2, q.imp (fun _ _ z => z.ext e) fun _ _ z => z⟩) fun v u s2 x y H2 I2 rx ry ⟨F2, j2, dx, dy, g2, r1, r2, q⟩ => ?_) hm
  exact ho pins s2 σ H2 x y v u Q F2 j2 dx dy I2 rx ry g2 r1 r2 q
/-- an operation by the hand layer's rule -/
theorem opD_of {f : Value → Value → Sem Value} {g : RV → RV → T RV} {r : R2} (ho : OpR X f r) (h : ∀ (σ : L2.St) (H : Hp) (x y : V) (Q : VK) (F : Hp) (j : Nat) (dx dy : RV), Good c F H j → RDat c X.K F H x dx → RDat c X.K F H y dy →
    (g dx dy).All j (pE c X.K F H Q) (pX c X.K W F H σ) → r x y H Q) : OpD X c W f g := fun pins s σ H x y v u Q F j dx dy I rx ry gd r1 r2 q => ho pins s σ H x y v u Q I rx ry (h σ H x y Q F j dx dy gd r1 r2 q)
/-! ### views -/
theorem RDat.int {F H : Hp} {v : V} {x : RV} {i : Int} (h : RDat c X.K F H v x) (e : x.d = .int i) : v = .int i := by
  cases x with
  | brw ds => cases e
  | bob n gs => cases e
  | val d => cases e; cases h; rfl
theorem RDat.str {F H : Hp} {v : V} {x : RV} {i : Str} (h : RDat c X.K F H v x) (e : x.d = .str i) : v = .str i := by
  cases x with
  | brw ds => cases e
  | bob n gs => cases e
  | val d => cases e; cases h; rfl
theorem RDat.bl {F H : Hp} {v : V} {x : RV} {i : Bool} (h : RDat c X.K F H v x) (e : x.d = .bl i) : v = .bl i := by
  cases x with
  | brw ds => cases e
  | bob n gs => cases e
  | val d => cases e; cases h; rfl
theorem RDat.non {F H : Hp} {v : V} {x : RV} (h : RDat c X.K F H v x) (e : x.d = .non) : v = .non := by
  cases x with
  | brw ds => cases e
  | bob n gs => cases e
  | val d => cases e; cases h; rfl
theorem RDat.lst {F H : Hp} {v : V} {x : RV} {ds : List D} (h : RDat c X.K F H v x) (g : ∀ a o, F a = some o → H a = some o) (e : x.d = .lst ds) : ∃ a vs, v = .ref a ∧ H a = some (.lst vs) ∧ Dats c X.K F vs ds := by
  cases x with
  | brw es =>
    obtain ⟨a, vs, e1, _, h1, h2⟩ := h
    cases e
    exact ⟨a, vs, e1, h1, h2⟩
  | bob n gs => cases e
  | val d =>
    cases e
    cases h with
    | lst h1 h2 => exact ⟨_, _, rfl, g _ _ h1, h2⟩
theorem RDat.tup {F H : Hp} {v : V} {x : RV} {ds : List D} (h : RDat c X.K F H v x) (g : ∀ a o, F a = some o → H a = some o) (e : x.d = .tup ds) : ∃ a vs, v = .ref a ∧ SqT X.K H a vs ∧ SqT X.K F a vs ∧ Dats c X.K F vs ds := by
  cases x with
  | brw es => cases e
  | bob n gs => cases e
  | val d =>
    cases e
    cases h with
    | tup h1 h2 => exact ⟨_, _, rfl, SqT.mono h1 g, h1, h2⟩
end
end DL
namespace DL
open PySem PySem.Spec L2
open PyProof.Rows
section
variable {X : Cx} {c : Ct} {W : WX}
abbrev okV (d : D) : T RV := .ok (.val d)
theorem line_of {n : Nat} (h : n ≤ 1000000) : n ≤ sizeLine := by rw [sizeLine_eq]; omega
theorem line_lt {n : Nat} (h : n < 1000000) : n < sizeLine := by rw [sizeLine_eq]; omega
/-- an end with a value that is no object -/
theorem pE.val {K : PySem.W.Frag} {F H : Hp} {Q : VK} {j : Nat} {v : V} {d : D} (h : pE c K F H Q j (.val d)) (g : Good c F H j) (r : Dat c K F v d) : Q v H := h F H v .refl g r
/-- an end with a new list -/
theorem pE.lst {K : PySem.W.Frag} {F H : Hp} {Q : VK} {j : Nat} {ds : List D} {vs : List V} (h : pE c K F H Q j (.val (.lst ds))) (g : Good c F H j) (r : Dats c K F vs ds) : ∀ p, H p = none → Q (.ref p) (upd H p (.lst vs)) := fun p hp => by
  obtain ⟨g1, e1⟩ := g.lay (o := .lst vs) hp
  exact h _ _ _ e1 g1 (show Dat c K _ _ _ from .lst upd_same (r.mono e1.up))
theorem pE.tup {K : PySem.W.Frag} {F H : Hp} {Q : VK} {j : Nat} {ds : List D} {vs : List V} (h : pE c K F H Q j (.val (.tup ds))) (g : Good c F H j) (r : Dats c K F vs ds) : ∀ p, H p = none → Q (.ref p) (upd H p (.tup vs)) := fun p hp => by
  obtain ⟨g1, e1⟩ := g.lay (o := .tup vs) hp
  exact h _ _ _ e1 g1 (show Dat c K _ _ _ from .tup (SqT.of upd_same) (r.mono e1.up))
/-! ### arithmetic -/
def gAdd (x y : RV) : T RV := match x.d, y.d with
  | .int i, .int j => okV (.int (i + j))
  | .str a, .str b => if a.length + b.length ≤ 1000000 then okV (.str (a ++ b)) else .stuck
  | .lst xs, .lst ys => if xs.length + ys.length ≤ 1000000 then okV (.lst (xs ++ ys)) else .stuck
  | .tup (x :: xs), .tup (y :: ys) => if (x :: xs).length + (y :: ys).length ≤ 1000000 then okV (.tup (x :: xs ++ y :: ys)) else .stuck
  | _, _ => .stuck
theorem o_add : OpD X c W (binaryOp .Add) gAdd := by
  refine opD_of (op_add.or (op_add_str.or (op_cat.or op_catT))) fun σ H x y Q F j dx dy gd r1 r2 q => ?_
  unfold gAdd at q
  split at q
  · rename_i i k e1 e2
    exact .inl ⟨i, k, r1.int e1, r2.int e2, q.val gd (.int _)⟩
  · rename_i i k e1 e2
    split at q
    · rename_i hl
      exact .inr (.inl ⟨i, k, r1.str e1, r2.str e2, line_of hl, q.val gd (.str _)⟩)
    · exact q.elim
  · rename_i xs ys e1 e2
    split at q
    · rename_i hl
      obtain ⟨a, vs, rfl, h1, h2⟩ := r1.lst gd.sub e1
      obtain ⟨b, us, rfl, h3, h4⟩ := r2.lst gd.sub e2
      exact .inr (.inr (.inl ⟨a, b, vs, us, rfl, rfl, h1, h3, line_of (by rw [h2.length, h4.length]; exact hl), q.lst gd (h2.append h4)⟩))
    · exact q.elim
  · rename_i z xs w ys e1 e2
    split at q
    · rename_i hl
      obtain ⟨a, vs, rfl, h1, _, h2⟩ := r1.tup gd.sub e1
      obtain ⟨b, us, rfl, h3, _, h4⟩ := r2.tup gd.sub e2
      refine .inr (.inr (.inr ⟨a, b, vs, us, rfl, rfl, h1, h3, ?_, line_of (by rw [h2.length, h4.length]; exact hl), ?_⟩))
      · cases h2; simp
      · have hn : us ≠ [] := by cases h4; simp
        first
          | exact ⟨fun z => absurd z hn, fun _ => q.tup gd (h2.append h4)⟩
          | exact fun _ => q.tup gd (h2.append h4)
          | (split <;> first | exact absurd ‹_› hn | exact q.tup gd (h2.append h4))
    · exact q.elim
  · exact q.elim
def gSub (x y : RV) : T RV := match x.d, y.d with
  | .int i, .int j => okV (.int (i - j))
  | _, _ => .stuck
theorem o_sub : OpD X c W (binaryOp .Sub) gSub := by
  refine opD_of op_sub fun σ H x y Q F j dx dy gd r1 r2 q => ?_
  unfold gSub at q
  split at q
  · rename_i i k e1 e2
    exact ⟨i, k, r1.int e1, r2.int e2, q.val gd (.int _)⟩
  · exact q.elim
/-- one factor below 2 ^ 64 -/
def mulOk (i j : Int) : Bool := decide (i.natAbs < 2 ^ 64) || decide (j.natAbs < 2 ^ 64)
theorem mulOk_c {i j : Int} (h : mulOk i j = true) : CMul i j := by
  unfold mulOk at h
  rcases Bool.or_eq_true_iff.mp h with h | h
  · left; have := of_decide_eq_true h; omega
  · right; have := of_decide_eq_true h; omega
def gMul (x y : RV) : T RV := match x.d, y.d with
  | .int i, .int j => if mulOk i j then okV (.int (i * j)) else .stuck
  | .lst xs, .int k => if decide (k.natAbs ≤ 1000000) && decide (xs.length * k.toNat ≤ 1000000) then okV (.lst (List.replicate k.toNat xs).flatten) else .stuck
  | _, _ => .stuck
theorem Dats.flat {F : Hp} {K : PySem.W.Frag} {vs : List V} {ds : List D} (h : Dats c K F vs ds) : ∀ n : Nat, Dats c K F (List.replicate n vs).flatten (List.replicate n ds).flatten
  | 0 => .nil
  | n + 1 => by
    rw [List.replicate_succ, List.replicate_succ, List.flatten_cons, List.flatten_cons]
    exact h.append (Dats.flat h n)
theorem o_mul : OpD X c W (binaryOp .Mult) gMul := by
  refine opD_of (op_mul.or op_rep) fun σ H x y Q F j dx dy gd r1 r2 q => ?_
  unfold gMul at q
  split at q
  · rename_i i k e1 e2
    split at q
    · rename_i hc
      exact .inl ⟨i, k, r1.int e1, r2.int e2, mulOk_c hc, q.val gd (.int _)⟩
    · exact q.elim
  · rename_i xs k e1 e2
    split at q
    · rename_i hl
      obtain ⟨h1, h2⟩ := Bool.and_eq_true_iff.mp hl
      have h1 := of_decide_eq_true h1
      have h2 := of_decide_eq_true h2
      obtain ⟨a, vs, rfl, h3, h4⟩ := r1.lst gd.sub e1
      exact .inr ⟨a, k, vs, rfl, r2.int e2, h3, by omega, by omega, line_of (by rw [h4.length]; exact h2), q.lst gd (h4.flat _)⟩
    · exact q.elim
  · exact q.elim
def gMod (x y : RV) : T RV := match x.d, y.d with
  | .int i, .int j => if 0 < j then okV (.int (i % j)) else .stuck
  | _, _ => .stuck
theorem o_mod : OpD X c W (binaryOp .Mod) gMod := by
  refine opD_of op_mod fun σ H x y Q F j dx dy gd r1 r2 q => ?_
  unfold gMod at q
  split at q
  · rename_i i k e1 e2
    split at q
    · rename_i hc
      exact ⟨i, k, r1.int e1, r2.int e2, hc, q.val gd (.int _)⟩
    · exact q.elim
  · exact q.elim
def gDiv (x y : RV) : T RV := match x.d, y.d with
  | .int i, .int j => if 0 < j ∧ j < 1073741824 then okV (.int (i / j)) else .stuck
  | _, _ => .stuck
theorem o_div : OpD X c W (binaryOp .FloorDiv) gDiv := by
  refine opD_of op_fdiv fun σ H x y Q F j dx dy gd r1 r2 q => ?_
  unfold gDiv at q
  split at q
  · rename_i i k e1 e2
    split at q
    · rename_i hc
      exact ⟨i, k, r1.int e1, r2.int e2, hc, q.val gd (.int _)⟩
    · exact q.elim
  · exact q.elim
def gPow (x y : RV) : T RV := match x.d, y.d with
  | .int i, .int j => if 0 ≤ j ∧ j ≤ 1000000 ∧ i.natAbs < 2 ^ 64 then okV (.int (i ^ j.toNat)) else .stuck
  | _, _ => .stuck
theorem o_pow : OpD X c W (binaryOp .Pow) gPow := by
  refine opD_of op_pow fun σ H x y Q F j dx dy gd r1 r2 q => ?_
  unfold gPow at q
  split at q
  · rename_i i k e1 e2
    split at q
    · rename_i hc
      exact ⟨i, k, r1.int e1, r2.int e2, hc, q.val gd (.int _)⟩
    · exact q.elim
  · exact q.elim
def gShl (x y : RV) : T RV := match x.d, y.d with
  | .int i, .int j => if 0 ≤ j ∧ j ≤ 1000000 ∧ i.natAbs < 2 ^ 64 then okV (.int (i * 2 ^ j.toNat)) else .stuck
  | _, _ => .stuck
theorem o_shl : OpD X c W (binaryOp .LShift) gShl := by
  refine opD_of op_shl fun σ H x y Q F j dx dy gd r1 r2 q => ?_
  unfold gShl at q
  split at q
  · rename_i i k e1 e2
    split at q
    · rename_i hc
      exact ⟨i, k, r1.int e1, r2.int e2, hc, q.val gd (.int _)⟩
    · exact q.elim
  · exact q.elim
def gShr (x y : RV) : T RV := match x.d, y.d with
  | .int i, .int j => if 0 ≤ j then okV (.int (i / 2 ^ j.toNat)) else .stuck
  | _, _ => .stuck
theorem o_shr : OpD X c W (binaryOp .RShift) gShr := by
  refine opD_of op_shr fun σ H x y Q F j dx dy gd r1 r2 q => ?_
  unfold gShr at q
  split at q
  · rename_i i k e1 e2
    split at q
    · rename_i hc
      exact ⟨i, k, r1.int e1, r2.int e2, hc, q.val gd (.int _)⟩
    · exact q.elim
  · exact q.elim
def gAnd (x y : RV) : T RV := match x.d, y.d with
  | .int i, .int j => okV (.int (Builtin.bitAnd i j))
  | _, _ => .stuck
theorem o_and : OpD X c W (binaryOp .BitAnd) gAnd := by
  refine opD_of op_and fun σ H x y Q F j dx dy gd r1 r2 q => ?_
  unfold gAnd at q
  split at q
  · rename_i i k e1 e2
    exact ⟨i, k, r1.int e1, r2.int e2, q.val gd (.int _)⟩
  · exact q.elim
def gOr (x y : RV) : T RV := match x.d, y.d with
  | .int i, .int j => okV (.int (Builtin.bitOr i j))
  | _, _ => .stuck
theorem o_or : OpD X c W (binaryOp .BitOr) gOr := by
  refine opD_of op_or fun σ H x y Q F j dx dy gd r1 r2 q => ?_
  unfold gOr at q
  split at q
  · rename_i i k e1 e2
    exact ⟨i, k, r1.int e1, r2.int e2, q.val gd (.int _)⟩
  · exact q.elim
def gXor (x y : RV) : T RV := match x.d, y.d with
  | .int i, .int j => okV (.int (Builtin.bitXor i j))
  | _, _ => .stuck
theorem o_xor : OpD X c W (binaryOp .BitXor) gXor := by
  refine opD_of op_xor fun σ H x y Q F j dx dy gd r1 r2 q => ?_
  unfold gXor at q
  split at q
  · rename_i i k e1 e2
    exact ⟨i, k, r1.int e1, r2.int e2, q.val gd (.int _)⟩
  · exact q.elim
/-! ### comparisons -/
def gLt (x y : RV) : T RV := match x.d, y.d with
  | .int i, .int j => okV (.bl (decide (i < j)))
  | .str a, .str b => okV (.bl (decide (a.cps.toList < b.cps.toList)))
  | _, _ => .stuck
theorem o_lt : OpD X c W (compareOp .Lt) gLt := by
  refine opD_of (op_lt.or op_lt_str) fun σ H x y Q F j dx dy gd r1 r2 q => ?_
  unfold gLt at q
  split at q
  · rename_i i k e1 e2
    exact .inl ⟨i, k, r1.int e1, r2.int e2, q.val gd (.bl _)⟩
  · rename_i i k e1 e2
    exact .inr ⟨i, k, r1.str e1, r2.str e2, q.val gd (.bl _)⟩
  · exact q.elim
def gLe (x y : RV) : T RV := match x.d, y.d with
  | .int i, .int j => okV (.bl (decide (i ≤ j)))
  | _, _ => .stuck
theorem o_le : OpD X c W (compareOp .LtE) gLe := by
  refine opD_of op_le fun σ H x y Q F j dx dy gd r1 r2 q => ?_
  unfold gLe at q
  split at q
  · rename_i i k e1 e2
    exact ⟨i, k, r1.int e1, r2.int e2, q.val gd (.bl _)⟩
  · exact q.elim
def gGt (x y : RV) : T RV := match x.d, y.d with
  | .int i, .int j => okV (.bl (decide (j < i)))
  | _, _ => .stuck
theorem o_gt : OpD X c W (compareOp .Gt) gGt := by
  refine opD_of op_gt fun σ H x y Q F j dx dy gd r1 r2 q => ?_
  unfold gGt at q
  split at q
  · rename_i i k e1 e2
    exact ⟨i, k, r1.int e1, r2.int e2, q.val gd (.bl _)⟩
  · exact q.elim
def gGe (x y : RV) : T RV := match x.d, y.d with
  | .int i, .int j => okV (.bl (decide (j ≤ i)))
  | _, _ => .stuck
theorem o_ge : OpD X c W (compareOp .GtE) gGe := by
  refine opD_of op_ge fun σ H x y Q F j dx dy gd r1 r2 q => ?_
  unfold gGe at q
  split at q
  · rename_i i k e1 e2
    exact ⟨i, k, r1.int e1, r2.int e2, q.val gd (.bl _)⟩
  · exact q.elim
def D.isNon : D → Bool
  | .non => true
  | _ => false
theorem Dat.non_iff {K : PySem.W.Frag} {F : Hp} {v : V} {d : D} (h : Dat c K F v d) : decide (v = V.non) = d.isNon := by
  cases h <;> first | rfl | (simp [D.isNon])
theorem RDat.non_iff {K : PySem.W.Frag} {F H : Hp} {v : V} {x : RV} (h : RDat c K F H v x) : decide (v = V.non) = x.d.isNon := by
  cases x with
  | val d => exact Dat.non_iff h
  | brw ds =>
    obtain ⟨a, vs, rfl, _⟩ := h
    simp [RV.d, D.isNon]
  | bob n gs =>
    obtain ⟨a, dx, fs, rfl, _⟩ := h
    simp [RV.d, D.isNon]
def gIs (x y : RV) : T RV := match y.d with
  | .non => okV (.bl x.d.isNon)
  | _ => .stuck
theorem o_is : OpD X c W (compareOp .Is) gIs := by
  refine opD_of op_isN fun σ H x y Q F j dx dy gd r1 r2 q => ?_
  unfold gIs at q
  split at q
  · rename_i e
    exact ⟨r2.non e, by rw [r1.non_iff]; exact q.val gd (.bl _)⟩
  · exact q.elim
def gIsNot (x y : RV) : T RV := match y.d with
  | .non => okV (.bl (!x.d.isNon))
  | _ => .stuck
theorem o_isnot : OpD X c W (compareOp .IsNot) gIsNot := by
  refine opD_of op_notN fun σ H x y Q F j dx dy gd r1 r2 q => ?_
  unfold gIsNot at q
  split at q
  · rename_i e
    exact ⟨r2.non e, by rw [r1.non_iff]; exact q.val gd (.bl _)⟩
  · exact q.elim
/-! ### equality of data -/
mutual
def D.py : D → Option PyData
  | .non => some .none
  | .bl b => some (.bool b)
  | .int i => some (.int i)
  | .str x => some (.str x)
  | .tup xs => (D.pys xs).map .tuple
  | .lst xs => (D.pys xs).map .list
  | _ => none
def D.pys : List D → Option (List PyData)
  | [] => some []
  | x :: xs => match D.py x, D.pys xs with
    | some p, some ps => some (p :: ps)
    | _, _ => none
end
mutual
theorem Dat.dp {K : PySem.W.Frag} {F H : Hp} (g : ∀ a o, F a = some o → H a = some o) : ∀ {v : V} {d : D} {p : PyData}, Dat c K F v d → d.py = some p → Dp K H v p
  | _, _, _, .non, e => by cases e; exact .non
  | _, _, _, .bl b, e => by cases e; exact .bl b
  | _, _, _, .int i, e => by cases e; exact .int i
  | _, _, _, .str x, e => by cases e; exact .str x
  | _, .tup ds, _, .tup h r, e => by
    simp only [D.py, Option.map_eq_some_iff] at e
    obtain ⟨ps, e1, rfl⟩ := e
    exact .tup (SqT.mono h g) (Dats.dp g r e1)
  | _, .lst ds, _, .lst h r, e => by
    simp only [D.py, Option.map_eq_some_iff] at e
    obtain ⟨ps, e1, rfl⟩ := e
    exact .lst (SqL.of (g _ _ h)) (Dats.dp g r e1)
  | _, _, _, .ins h r, e => by simp [D.py] at e
  | _, _, _, .exn _ _ r, e => by simp [D.py] at e
  | _, _, _, .exn0 _, e => by simp [D.py] at e
  | _, _, _, .dct _ _, e => by simp [D.py] at e
  | _, _, _, .cls n, e => by simp [D.py] at e
  | _, _, _, .ty n, e => by simp [D.py] at e
  | _, _, _, .pen, e => by simp [D.py] at e
  | _, _, _, .adr _, e => by simp [D.py] at e
theorem Dats.dp {K : PySem.W.Frag} {F H : Hp} (g : ∀ a o, F a = some o → H a = some o) : ∀ {vs : List V} {ds : List D} {ps : List PyData}, Dats c K F vs ds → D.pys ds = some ps → DpAll K H vs ps
  | _, _, _, .nil, e => by cases e; exact .nil
  | _, _, _, .cons h r, e => by
    unfold D.pys at e
    split at e
    · rename_i p ps e1 e2
      cases e
      exact .cons (Dat.dp g h e1) (Dats.dp g r e2)
    · cases e
end
theorem RDat.dp {K : PySem.W.Frag} {F H : Hp} {v : V} {x : RV} {p : PyData} (g : ∀ a o, F a = some o → H a = some o) (h : RDat c K F H v x) (e : x.d.py = some p) : Dp K H v p := by
  cases x with
  | val d => exact Dat.dp g h e
  | brw ds =>
    obtain ⟨a, vs, rfl, _, h1, h2⟩ := h
    simp only [RV.d, D.py, Option.map_eq_some_iff] at e
    obtain ⟨ps, e1, rfl⟩ := e
    exact .lst (SqL.of h1) (Dats.dp g h2 e1)
  | bob n gs => simp [RV.d, D.py] at e
/-- == of data; other things are not looked at -/
def eqDat (x y : D) : Option Bool := match x.py, y.py with
  | some p, some q => if SeqAt.shaped p && SeqAt.shaped q then some (PyData.eqv p q) else none
  | _, _ => none
def gEqD (x y : RV) : T RV := match eqDat x.d y.d with
  | some b => okV (.bl b)
  | none => .stuck
def gNeD (x y : RV) : T RV := match eqDat x.d y.d with
  | some b => okV (.bl (!b))
  | none => .stuck
theorem eqDat_ok {x y : D} {b : Bool} (h : eqDat x y = some b) : ∃ p q, x.py = some p ∧ y.py = some q ∧ SeqAt.shaped p = true ∧ SeqAt.shaped q = true ∧ b = PyData.eqv p q := by
  unfold eqDat at h
  split at h
  · rename_i p q e1 e2
    split at h
    · rename_i hs
      obtain ⟨h1, h2⟩ := Bool.and_eq_true_iff.mp hs
      exact ⟨p, q, e1, e2, h1, h2, (Option.some.inj h).symm⟩
    · cases h
  · cases h
theorem o_eq (hu : X.A.units + 64 < cLine) : OpD X c W (compareOp .Eq) gEqD := by
  refine opD_of (op_eqD hu) fun σ H x y Q F j dx dy gd r1 r2 q => ?_
  unfold gEqD at q
  split at q
  · rename_i b e
    obtain ⟨p, p', e1, e2, h1, h2, rfl⟩ := eqDat_ok e
    exact ⟨p, p', r1.dp gd.sub e1, r2.dp gd.sub e2, h1, h2, q.val gd (.bl _)⟩
  · exact q.elim
theorem o_ne (hu : X.A.units + 64 < cLine) : OpD X c W (compareOp .NotEq) gNeD := by
  refine opD_of (op_neD hu) fun σ H x y Q F j dx dy gd r1 r2 q => ?_
  unfold gNeD at q
  split at q
  · rename_i b e
    obtain ⟨p, p', e1, e2, h1, h2, rfl⟩ := eqDat_ok e
    exact ⟨p, p', r1.dp gd.sub e1, r2.dp gd.sub e2, h1, h2, q.val gd (.bl _)⟩
  · exact q.elim
end
end DL
namespace DL
open PySem PySem.Spec L2
open PyProof.Rows
section
variable {X : Cx} {c : Ct} {W : WX} {a b e : Expr} {ma mb mc : Gm → T RV} {ta tb : Gm → T Bool} {pos : Pos} {rest : List Expr}
/-! ### tests -/
structure DW (X : Cx) (c : Ct) (W : WX) (e : Expr) (m : Gm → T Bool) : Prop where
  pw : PW X e (tT c X.K W m)
theorem dt_of (h : DW X c W e ta) : DT X c W e ta := ⟨h.pw.pt⟩
/-- a value that is True or False -/
def asB (x : RV) : T Bool := match x.d with
  | .bl k => .ok k
  | _ => .stuck
def mB (m : Gm → T RV) : Gm → T Bool := fun γ => (m γ).bind asB
theorem RDat.asB {F H : Hp} {v : V} {x : RV} {P : Nat → Bool → Prop} {E : Nat → Xc → Prop} {j : Nat} (r : RDat c X.K F H v x) (h : (asB x).All j P E) : ∃ k, v = .bl k ∧ P j k := by
  unfold DL.asB at h
  split at h
  · rename_i k e
    exact ⟨k, r.bl e, h⟩
  · exact h.elim
/-- a test by its value -/
theorem dt_val (h : DE X c W e ma) (he : ∀ whole, isTrue e X.env whole = (do let v ← whole; standAt e.pos; holding [v] (truthy v)) := by intro _; rfl) : DT X c W e (mB ma) := by
  refine ⟨(pt_val h.pe he).imp fun σ H Q ⟨F, γ, j, g, en, k⟩ => ?_⟩
  refine tE.seq g en k fun j' x F' H' v e' g' en' r h' => ?_
  obtain ⟨k, e1, q⟩ := r.asB h'
  exact ⟨k, e1, q F' H' e' g'⟩
/-- the truth of any data -/
def D.tru : D → Option Bool
  | .non => some false
  | .bl b => some b
  | .int i => some (i != 0)
  | .str x => if x.length ≤ 1000000 then some ((x.length : Int) != 0) else none
  | .lst xs => some (!xs.isEmpty)
  | .tup xs => some (!xs.isEmpty)
  | _ => none
def asTru (x : RV) : T Bool := match x.d.tru with
  | some b => .ok b
  | none => .stuck
theorem Dats.isEmpty {K : PySem.W.Frag} {F : Hp} {vs : List V} {ds : List D} (h : Dats c K F vs ds) : (!vs.isEmpty) = (!ds.isEmpty) := by cases h <;> rfl
def mTru (m : Gm → T RV) : Gm → T Bool := fun γ => (m γ).bind asTru
theorem RDat.tru {F H : Hp} {v : V} {x : RV} {k : Bool} (g : ∀ a o, F a = some o → H a = some o) (r : RDat c X.K F H v x) (h : x.d.tru = some k) : TruV X.K v H k := by
  cases x with
  | brw ds =>
    obtain ⟨a, vs, rfl, _, h1, h2⟩ := r
    cases h
    exact .inl ⟨vs, SqL.of h1, h2.isEmpty.symm⟩
  | bob n gs => cases h
  | val d =>
    cases r with
    | non => cases h; rfl
    | bl => cases h; rfl
    | int => cases h; rfl
    | str x =>
      simp only [RV.d, D.tru] at h
      split at h
      · rename_i hl
        cases h
        exact ⟨line_of hl, rfl⟩
      · cases h
    | lst h1 h2 =>
      cases h
      exact .inl ⟨_, SqL.of (g _ _ h1), h2.isEmpty.symm⟩
    | tup h1 h2 =>
      cases h
      exact .inr (.inl ⟨_, SqT.mono h1 g, h2.isEmpty.symm⟩)
    | ins => cases h
    | exn => cases h
    | exn0 => cases h
    | dct => cases h
    | cls => cases h
    | ty => cases h
    | pen => cases h
    | adr => cases h
theorem dt_tru (h : DE X c W e ma) (he : ∀ whole, isTrue e X.env whole = (do let v ← whole; standAt e.pos; holding [v] (truthy v)) := by intro _; rfl) : DT X c W e (mTru ma) := by
  refine ⟨(pt_truth h.pe he).imp fun σ H Q ⟨F, γ, j, g, en, k⟩ => ?_⟩
  refine tE.seq g en k fun j' x F' H' v e' g' en' r h' => ?_
  unfold asTru at h'
  split at h'
  · rename_i b eb
    exact ⟨b, r.tru g'.sub eb, h' F' H' e' g'⟩
  · exact h'.elim
/-- a comparison as a test -/
theorem dt_cmp {op : CmpOp} {g : RV → RV → T RV} (ho : OpD X c W (compareOp op) g) (ha : DE X c W a ma) (hb : DE X c W b mb) (hm : behindInMarks op b = false := by first | exact nomark _ | rfl) : DT X c W (.Compare a [op] [b] pos) (mB (mBin g ma mb)) := by
  refine ⟨⟨fun pins s σ H Q I ⟨F, γ, j, gd, en, h⟩ => ?_⟩⟩
  have h : ((ma γ).bind fun x => (mb γ).bind fun y => (g x y).bind asB).All j (pT c F H Q) (pX c X.K W F H σ) := by
    unfold mB mBin at h
    rw [T.bind_assoc] at h
    have e : (fun a => T.bind ((mb γ).bind fun y => g a y) asB) = fun x => (mb γ).bind fun y => (g x y).bind asB := funext fun x => T.bind_assoc _ _ _
    rw [e] at h
    exact h
  refine wpAny_isTrue_Compare1 (binT ha.pe hb.pe I (R := fun x y H2 => ∃ F j dx dy, Good c F H2 j ∧ RDat c X.K F H2 x dx ∧ RDat c X.K F H2 y dy ∧ ((g dx dy).bind asB).All j (pT c F H2 Q) (pX c X.K W F H2 σ))
    (two gd en h fun j' dx dy F' H' x y e g' en' r1 r2 q => ⟨F', j', dx, dy, g', r1, r2, q.imp (fun _ _ z F2 H2 e2 g2 => z F2 H2 (e.trans e2) g2) fun _ _ z => z⟩) fun v u s2 x y H2 I2 rx ry ⟨F2, j2, dx, dy, g2, r1, r2, q⟩ => ?_) hm
  refine thn (ho pins s2 σ H2 x y v u (fun z H3 => ∃ k, z = .bl k ∧ Q k H3) F2 j2 dx dy I2 rx ry g2 r1 r2 ((T.All.bind q).imp (fun j3 z hz F3 H3 v3 e3 g3 r3 => ?_) fun _ _ z => z)) fun cv s3 ⟨z, H3, I3, r3, k, ez, q3⟩ => ?_
  · obtain ⟨k, e1, q'⟩ := r3.asB hz
    exact ⟨k, e1, q' F3 H3 e3 g3⟩
  · subst ez
    cases r3
    exact wpAny_truthy_bool ⟨H3, I3, q3⟩
def tAndM (ta tb : Gm → T Bool) : Gm → T Bool := fun γ => (ta γ).bind fun k => if k = true then tb γ else .ok false
def tOrM (ta tb : Gm → T Bool) : Gm → T Bool := fun γ => (ta γ).bind fun k => if k = true then .ok true else tb γ
def tNotM (ta : Gm → T Bool) : Gm → T Bool := fun γ => (ta γ).bind fun k => .ok (!k)
theorem pT.ext {F F' H H' : Hp} {Q : Bool → Hp → Prop} {j : Nat} {x : Bool} (h : pT c F H Q j x) (e : Ext c F H F' H') : pT c F' H' Q j x := fun F2 H2 e2 g => h F2 H2 (e.trans e2) g
theorem dw_and1 (ha : DT X c W a ta) : DW X c W (.BoolOp .And [a] pos) ta := ⟨pw_and1 ha.pt⟩
theorem dw_or1 (ha : DT X c W a ta) : DW X c W (.BoolOp .Or [a] pos) ta := ⟨pw_or1 ha.pt⟩
theorem _root_.L2.PW.imp {t t' : TT} (h : PW X e t) (i : ∀ σ H Q, t' σ H Q → t σ H Q) : PW X e t' := ⟨fun w pins s σ H Q I q => h.run w pins s σ H Q I (i σ H Q q)⟩
theorem dw_and (ha : DT X c W a ta) (hb : DW X c W (.BoolOp .And (b :: rest) pos) tb) : DW X c W (.BoolOp .And (a :: b :: rest) pos) (tAndM ta tb) := by
  refine ⟨(pw_and ha.pt hb.pw).imp fun σ H Q ⟨F, γ, j, g, en, h⟩ => ?_⟩
  refine tT.seq g en h fun j' k F' H' e' g' en' h' => ?_
  cases k with
  | false => exact iteF (h' F' H' e' g')
  | true => exact iteT ⟨F', γ, j', g', en', T.All.imp h' (fun _ _ z => z.ext e') fun _ _ z => z.ext e'⟩
theorem dw_or (ha : DT X c W a ta) (hb : DW X c W (.BoolOp .Or (b :: rest) pos) tb) : DW X c W (.BoolOp .Or (a :: b :: rest) pos) (tOrM ta tb) := by
  refine ⟨(pw_or ha.pt hb.pw).imp fun σ H Q ⟨F, γ, j, g, en, h⟩ => ?_⟩
  refine tT.seq g en h fun j' k F' H' e' g' en' h' => ?_
  cases k with
  | true => exact iteT (h' F' H' e' g')
  | false => exact iteF ⟨F', γ, j', g', en', T.All.imp h' (fun _ _ z => z.ext e') fun _ _ z => z.ext e'⟩
theorem dt_and (ha : DT X c W a ta) (hb : DW X c W (.BoolOp .And (b :: rest) pos) tb) : DT X c W (.BoolOp .And (a :: b :: rest) pos) (tAndM ta tb) := dt_of (dw_and ha hb)
theorem dt_or (ha : DT X c W a ta) (hb : DW X c W (.BoolOp .Or (b :: rest) pos) tb) : DT X c W (.BoolOp .Or (a :: b :: rest) pos) (tOrM ta tb) := dt_of (dw_or ha hb)
theorem dt_not (ha : DT X c W a ta) : DT X c W (.UnaryOp .Not a pos) (tNotM ta) := by
  refine ⟨(pt_not ha.pt).imp fun σ H Q ⟨F, γ, j, g, en, h⟩ => ?_⟩
  exact tT.seq g en h fun j' k F' H' e' g' en' h' => h' F' H' e' g'
/-! ### and, or, not, if as values -/
def mAndV (ma mb : Gm → T RV) : Gm → T RV := fun γ => (ma γ).bind fun x => (asB x).bind fun k => if k = true then mb γ else okV (.bl false)
def mOrV (ma mb : Gm → T RV) : Gm → T RV := fun γ => (ma γ).bind fun x => (asB x).bind fun k => if k = true then okV (.bl true) else mb γ
def mNotV (ma : Gm → T RV) : Gm → T RV := fun γ => (ma γ).bind fun x => (asB x).bind fun k => okV (.bl (!k))
theorem de_one {op} (h : DE X c W a ma) : DE X c W (.BoolOp op [a] pos) ma := ⟨pe_one h.pe⟩
theorem de_and (ha : DE X c W a ma) (hb : DE X c W (.BoolOp .And (b :: rest) pos) mb) : DE X c W (.BoolOp .And (a :: b :: rest) pos) (mAndV ma mb) := by
  refine ⟨(pe_and ha.pe hb.pe).imp fun σ H Q ⟨F, γ, j, g, en, h⟩ => ?_⟩
  refine tE.seq g en h fun j' x F' H' v e' g' en' r h' => ?_
  obtain ⟨k, e1, q⟩ := r.asB (T.All.bind h')
  refine ⟨k, e1, ?_⟩
  cases k with
  | true => exact iteT ⟨F', γ, j', g', en', T.All.imp q (fun _ _ z => z.ext e') fun _ _ z => z.ext e'⟩
  | false => exact iteF (q F' H' _ e' g' (show Dat c X.K F' _ _ from .bl false))
theorem de_or (ha : DE X c W a ma) (hb : DE X c W (.BoolOp .Or (b :: rest) pos) mb) : DE X c W (.BoolOp .Or (a :: b :: rest) pos) (mOrV ma mb) := by
  refine ⟨(pe_or ha.pe hb.pe).imp fun σ H Q ⟨F, γ, j, g, en, h⟩ => ?_⟩
  refine tE.seq g en h fun j' x F' H' v e' g' en' r h' => ?_
  obtain ⟨k, e1, q⟩ := r.asB (T.All.bind h')
  refine ⟨k, e1, ?_⟩
  cases k with
  | false => exact iteF ⟨F', γ, j', g', en', T.All.imp q (fun _ _ z => z.ext e') fun _ _ z => z.ext e'⟩
  | true => exact iteT (q F' H' _ e' g' (show Dat c X.K F' _ _ from .bl true))
theorem de_not (ha : DE X c W a ma) : DE X c W (.UnaryOp .Not a pos) (mNotV ma) := by
  refine ⟨(pe_not ha.pe).imp fun σ H Q ⟨F, γ, j, g, en, h⟩ => ?_⟩
  refine tE.seq g en h fun j' x F' H' v e' g' en' r h' => ?_
  obtain ⟨k, e1, q⟩ := r.asB (T.All.bind h')
  exact ⟨k, e1, q F' H' _ e' g' (show Dat c X.K F' _ _ from .bl _)⟩
def mIf (tc : Gm → T Bool) (ma mb : Gm → T RV) : Gm → T RV := fun γ => (tc γ).bind fun k => if k = true then ma γ else mb γ
theorem de_if {t : Expr} (ht : DT X c W t ta) (ha : DE X c W a ma) (hb : DE X c W b mb) : DE X c W (.IfExp t a b pos) (mIf ta ma mb) := by
  refine ⟨(pe_ifExp ht.pt ha.pe hb.pe).imp fun σ H Q ⟨F, γ, j, g, en, h⟩ => ?_⟩
  refine tT.seq g en h fun j' k F' H' e' g' en' h' => ?_
  cases k with
  | true => exact iteT ⟨F', γ, j', g', en', T.All.imp h' (fun _ _ z => z.ext e') fun _ _ z => z.ext e'⟩
  | false => exact iteF ⟨F', γ, j', g', en', T.All.imp h' (fun _ _ z => z.ext e') fun _ _ z => z.ext e'⟩
def gNeg (x : RV) : T RV := match x.d with
  | .int i => okV (.int (-i))
  | _ => .stuck
def mUn (g : RV → T RV) (ma : Gm → T RV) : Gm → T RV := fun γ => (ma γ).bind g
theorem de_neg (ha : DE X c W a ma) : DE X c W (.UnaryOp .USub a pos) (mUn gNeg ma) := by
  refine ⟨(pe_un un_neg ha.pe).imp fun σ H Q ⟨F, γ, j, g, en, h⟩ => ?_⟩
  refine tE.seq g en h fun j' x F' H' v e' g' en' r h' => ?_
  unfold gNeg at h'
  split at h'
  · rename_i i ei
    exact ⟨i, r.int ei, h' F' H' _ e' g' (show Dat c X.K F' _ _ from .int _)⟩
  · exact h'.elim
/-- a op1 b op2 d -/
def mChain (g g' : RV → RV → T RV) (ma mb mc : Gm → T RV) : Gm → T RV := fun γ => (ma γ).bind fun x => (mb γ).bind fun y => (g x y).bind fun z => (asB z).bind fun k => if k = true then (mc γ).bind fun w => g' y w else okV (.bl false)
theorem de_chain {d : Expr} {op op' : CmpOp} {g g' : RV → RV → T RV} (ho : OpD X c W (compareOp op) g) (ho' : OpD X c W (compareOp op') g') (ha : DE X c W a ma) (hb : DE X c W b mb) (hc : DE X c W d mc)
    (hm : lastMarks [op, op'] [b, d] = false := by with_unfolding_all rfl) : DE X c W (.Compare a [op, op'] [b, d] pos) (mChain g g' ma mb mc) := by
  refine ⟨⟨fun pins s σ H Q I ⟨F, γ, j, gd, en, h⟩ => ?_⟩⟩
  have hh := tE.seq (Q := fun x H1 => ∃ F1 j1 dx, Ext c F H F1 H1 ∧ Good c F1 H1 j1 ∧ EnvOk c X.K F1 H1 σ γ ∧ RDat c X.K F1 H1 x dx ∧ ((mb γ).bind fun y => (g dx y).bind fun z => (asB z).bind fun k => if k = true then (mc γ).bind fun w => g' y w else okV (.bl false)).All j1 (pE c X.K F H Q) (pX c X.K W F H σ)) gd en h
    fun j1 dx F1 H1 x e1 g1 en1 r1 h1 => ⟨F1, j1, dx, e1, g1, en1, r1, h1⟩
  refine Compare_chain (thn (ha.pe.run pins s σ H _ I hh) fun v s1 ⟨x, H1, I1, r1, F1, j1, dx, e1, g1, en1, rd1, h1⟩ => ?_) hm
  have hh1 := tE.seq (Q := fun y H2 => ∃ F2 j2 dy, Ext c F1 H1 F2 H2 ∧ Good c F2 H2 j2 ∧ EnvOk c X.K F2 H2 σ γ ∧ RDat c X.K F2 H2 y dy ∧ ((g dx dy).bind fun z => (asB z).bind fun k => if k = true then (mc γ).bind fun w => g' dy w else okV (.bl false)).All j2 (pE c X.K F H Q) (pX c X.K W F1 H1 σ)) g1 en1 (h1.imp (fun _ _ z => z) fun _ _ z => z.ext e1)
    fun j2 dy F2 H2 y e2 g2 en2 r2 h2 => ⟨F2, j2, dy, e2, g2, en2, r2, h2⟩
  refine chain_link (thn (hb.pe.run pins s1 σ H1 _ I1 hh1) fun u s2 ⟨y, H2, I2, r2, F2, j2, dy, e2, g2, en2, rd2, h2⟩ => ?_)
  refine thn (ho pins s2 σ H2 x y v u (fun z H3 => ∃ F3 j3 k, z = .bl k ∧ Ext c F2 H2 F3 H3 ∧ Good c F3 H3 j3 ∧ EnvOk c X.K F3 H3 σ γ ∧ RDat c X.K F3 H3 y dy ∧ (if k = true then (mc γ).bind fun w => g' dy w else okV (.bl false)).All j3 (pE c X.K F H Q) (pX c X.K W F2 H2 σ)) F2 j2 dx dy I2 r1 r2 g2 (rd1.ext e2) rd2
    ((T.All.bind h2).imp (fun j3 z hz F3 H3 v3 e3 g3 r3 => ?_) fun _ _ z => z.ext e2)) fun dv s3 ⟨z, H3, I3, r3, F3, j3, k, ez, e3, g3, en3, rd3, h3⟩ => ?_
  · obtain ⟨k, e1, q⟩ := r3.asB (T.All.bind hz)
    exact ⟨F3, j3, k, e1, e3, g3, en2.ext e3, rd2.ext e3, q.imp (fun _ _ z => z) fun _ _ z => z.ext e2⟩
  · subst ez
    cases r3
    refine wpAny_truthy_bool ?_
    cases k with
    | false => exact ite_ff ⟨.bl false, H3, I3, rfl, h3 F3 H3 _ (e1.trans (e2.trans e3)) g3 (show Dat c X.K F3 _ _ from .bl false)⟩
    | true =>
      have hh3 := tE.seq (Q := fun w H4 => ∃ F4 j4 dw, Ext c F3 H3 F4 H4 ∧ Good c F4 H4 j4 ∧ RDat c X.K F4 H4 w dw ∧ (g' dy dw).All j4 (pE c X.K F H Q) (pX c X.K W F3 H3 σ)) g3 en3 (T.All.imp h3 (fun _ _ z => z) fun _ _ z => z.ext e3)
        fun j4 dw F4 H4 w e4 g4 en4 r4 h4 => ⟨F4, j4, dw, e4, g4, r4, h4⟩
      refine ite_tt (chain_last (thn (hc.pe.run pins s3 σ H3 _ I3 hh3) fun w' s4 ⟨z', H4, I4, r4, F4, j4, dw, e4, g4, rd4, h4⟩ => ?_))
      exact ho' pins s4 σ H4 y z' u w' Q F4 j4 dy dw I4 r2 r4 g4 (rd3.ext e4) rd4 (h4.imp (fun _ _ z => z.ext (e1.trans (e2.trans (e3.trans e4)))) fun _ _ z => z.ext e4)
end
end DL
namespace DL
open PySem PySem.Spec L2
open PyProof.Rows
section
variable {X : Cx} {c : Ct} {W : WX} {a b e : Expr} {es : List Expr} {ma mb mc m : Gm → T RV} {ms : Gm → T (List D)} {pos : Pos} {rest : List Expr}
/-! ### arguments: values that may be kept -/
def asD (x : RV) : T D := match x with
  | .val d => .ok d
  | _ => .stuck
theorem RDat.asD {F H : Hp} {v : V} {x : RV} {P : Nat → D → Prop} {E : Nat → Xc → Prop} {j : Nat} (r : RDat c X.K F H v x) (h : (asD x).All j P E) : ∃ d, x = .val d ∧ Dat c X.K F v d ∧ P j d := by
  cases x with
  | val d => exact ⟨d, rfl, r, h⟩
  | brw ds => exact False.elim h
  | bob n gs => exact False.elim h
def aNil : Gm → T (List D) := fun _ => .ok []
def aCons (m : Gm → T RV) (ms : Gm → T (List D)) : Gm → T (List D) := fun γ => (m γ).bind fun x => (asD x).bind fun d => (ms γ).bind fun ds => .ok (d :: ds)
theorem pA.ext {K : PySem.W.Frag} {F F' H H' : Hp} {Q : List V → Hp → Prop} {j : Nat} {x : List D} (h : pA c K F H Q j x) (e : Ext c F H F' H') : pA c K F' H' Q j x := fun F2 H2 vs e2 g r => h F2 H2 vs (e.trans e2) g r
theorem da_nil : DA X c W [] aNil := ⟨pa_nil.imp fun σ H Q ⟨F, γ, j, g, en, h⟩ => h F H [] .refl g .nil⟩
theorem da_cons (ha : DE X c W e m) (hr : DA X c W es ms) (hs : starEach (e :: es) X.env = (false, eval e X.env) :: starEach es X.env := by rfl) : DA X c W (e :: es) (aCons m ms) := by
  refine ⟨(pa_cons ha.pe hr.pa hs).imp fun σ H Q ⟨F, γ, j, g, en, h⟩ => ?_⟩
  refine tE.seq g en h fun j1 x F1 H1 v e1 g1 en1 r1 h1 => ?_
  obtain ⟨d, rfl, hd, h2⟩ := r1.asD (T.All.bind h1)
  refine tA.seq g1 en1 (T.All.imp h2 (fun _ _ z => z) fun _ _ z => z.ext e1) fun j2 ds F2 H2 vs e2 g2 en2 r2 h3 => ?_
  exact h3 F2 H2 _ (e1.trans e2) g2 (.cons (hd.mono e2.up) r2)
/-- *e -/
def seqOf (x : RV) : T (List D) := match x.d with
  | .lst ds => .ok ds
  | .tup ds => .ok ds
  | _ => .stuck
theorem RDat.seq {F H : Hp} {v : V} {x : RV} {P : Nat → List D → Prop} {E : Nat → Xc → Prop} {j : Nat} (g : ∀ a o, F a = some o → H a = some o) (r : RDat c X.K F H v x) (h : (seqOf x).All j P E) : ∃ a vs ds, v = .ref a ∧ (SqT X.K H a vs ∨ SqL X.K H a vs) ∧ Dats c X.K F vs ds ∧ P j ds := by
  unfold seqOf at h
  split at h
  · rename_i ds e
    obtain ⟨a, vs, rfl, h1, h2⟩ := r.lst g e
    exact ⟨a, vs, ds, rfl, .inr (SqL.of h1), h2, h⟩
  · rename_i ds e
    obtain ⟨a, vs, rfl, h1, _, h2⟩ := r.tup g e
    exact ⟨a, vs, ds, rfl, .inl h1, h2, h⟩
  · exact h.elim
def aStar (m : Gm → T RV) (ms : Gm → T (List D)) : Gm → T (List D) := fun γ => (m γ).bind fun x => (seqOf x).bind fun d => (ms γ).bind fun ds => .ok (d ++ ds)
theorem da_star {p : Pos} (ha : DE X c W e m) (hr : DA X c W es ms) (hs : starEach (.Starred e p :: es) X.env = (true, eval e X.env) :: starEach es X.env := by rfl) : DA X c W (.Starred e p :: es) (aStar m ms) := by
  refine ⟨(StX.pa_star ha.pe hr.pa hs).imp fun σ H Q ⟨F, γ, j, g, en, h⟩ => ?_⟩
  refine tE.seq g en h fun j1 x F1 H1 v e1 g1 en1 r1 h1 => ?_
  obtain ⟨a, vs, ds, rfl, hq, hd, h2⟩ := r1.seq g1.sub (T.All.bind h1)
  refine ⟨a, vs, rfl, hq, ?_⟩
  refine tA.seq g1 en1 (T.All.imp h2 (fun _ _ z => z) fun _ _ z => z.ext e1) fun j2 es F2 H2 ws e2 g2 en2 r2 h3 => ?_
  exact h3 F2 H2 _ (e1.trans e2) g2 ((hd.mono e2.up).append r2)
/-! ### displays -/
def mLst (ms : Gm → T (List D)) : Gm → T RV := fun γ => (ms γ).bind fun ds => if ds.length ≤ 1000000 then okV (.lst ds) else .stuck
def mTup (ms : Gm → T (List D)) : Gm → T RV := fun γ => (ms γ).bind fun ds => if ds.length ≤ 1000000 then okV (.tup ds) else .stuck
theorem de_lst (h : DA X c W es ms) : DE X c W (.List es pos) (mLst ms) := by
  refine ⟨(pe_lst h.pa).imp fun σ H Q ⟨F, γ, j, g, en, h⟩ => ?_⟩
  refine tA.seq g en h fun j1 ds F1 H1 vs e1 g1 en1 r1 h1 => ?_
  split at h1
  · rename_i hl
    exact ⟨line_of (by rw [r1.length]; exact hl), (pE.ext h1 e1).lst g1 r1⟩
  · exact h1.elim
theorem de_tup {k} (h : DA X c W es ms) : DE X c W (.Tuple es k pos) (mTup ms) := by
  refine ⟨(pe_tup h.pa).imp fun σ H Q ⟨F, γ, j, g, en, h⟩ => ?_⟩
  refine tA.seq g en h fun j1 ds F1 H1 vs e1 g1 en1 r1 h1 => ?_
  split at h1
  · rename_i hl
    exact ⟨line_of (by rw [r1.length]; exact hl), (pE.ext h1 e1).tup g1 r1⟩
  · exact h1.elim
/-! ### fields -/
def D.fld (cs : List Nat) (f : Str) : D → Option D
  | .ins n gs => if cs.contains n then gs.lookup f else none
  | _ => none
def gFld (cs : List Nat) (f : Str) (x : RV) : T RV := match x.d.fld cs f with
  | some d => okV d
  | none => .stuck
/-- the classes cs have the plain field f -/
def FldOk (K : PySem.W.Frag) (c : Ct) (cs : List Nat) (f : Str) : Prop := ∀ n ∈ cs, Cls K (c.cA n) ∧ NoAttr K (c.cA n) f
theorem fld_ok {F H : Hp} {v : V} {x : RV} {cs : List Nat} {f : Str} {d : D} (g : ∀ a o, F a = some o → H a = some o) (r : RDat c X.K F H v x) (h : x.d.fld cs f = some d) : ∃ n a dx fs, n ∈ cs ∧ v = .ref a ∧ H a = some (.ins (c.cA n) dx fs) ∧ ∃ w, fs.lookup f = some w ∧ Dat c X.K F w d := by
  cases x with
  | brw ds => cases h
  | bob n gs =>
    obtain ⟨a, dx, fs, rfl, _, h1, h2⟩ := r
    simp only [RV.d, D.fld] at h
    split at h
    · rename_i hc
      obtain ⟨w, h3, h4⟩ := h2.look h
      exact ⟨_, _, _, _, List.contains_iff_mem.mp hc, rfl, h1, w, h3, h4⟩
    · cases h
  | val d' =>
    cases r with
    | ins h1 h2 =>
      simp only [RV.d, D.fld] at h
      split at h
      · rename_i hc
        obtain ⟨w, h3, h4⟩ := h2.look h
        exact ⟨_, _, _, _, List.contains_iff_mem.mp hc, rfl, g _ _ h1, w, h3, h4⟩
      · cases h
    | _ => cases h
theorem de_fld {f : Str} {cs : List Nat} (hf : FldOk X.K c cs f) (ha : DE X c W e m) (hb : attributeBase e f X.env (eval e X.env) = eval e X.env := by rfl) : DE X c W (.Attribute e f pos) (mUn (gFld cs f) m) := by
  refine ⟨(pe_fld ha.pe hb).imp fun σ H Q ⟨F, γ, j, g, en, h⟩ => ?_⟩
  refine tE.seq g en h fun j1 x F1 H1 v e1 g1 en1 r1 h1 => ?_
  unfold gFld at h1
  split at h1
  · rename_i d ed
    obtain ⟨n, a, dx, fs, hn, rfl, h2, w, h3, h4⟩ := fld_ok g1.sub r1 ed
    exact ⟨a, _, dx, fs, w, rfl, h2, (hf n hn).1, (hf n hn).2, h3, h1 F1 H1 w e1 g1 h4⟩
  · exact h1.elim
/-! ### subscripts -/
def gIx (x y : RV) : T RV := match x.d, y.d with
  | .lst ds, .int i => (match atI ds i with | some d => okV d | none => .stuck)
  | .tup ds, .int i => (match atI ds i with | some d => okV d | none => .stuck)
  | .str z, .int i => if z.length ≤ 1000000 then (match atI z.cps.toList i with | some ch => okV (.str ⟨#[ch]⟩) | none => .stuck) else .stuck
  | _, _ => .stuck
theorem Dats.atI {K : PySem.W.Frag} {F : Hp} {vs : List V} {ds : List D} {i : Int} {d : D} (h : Dats c K F vs ds) (e : L2.atI ds i = some d) : ∃ v, L2.atI vs i = some v ∧ Dat c K F v d := by
  unfold L2.atI at e ⊢
  rw [← h.length] at e
  cases q : ixN vs.length i with
  | none => rw [q] at e; cases e
  | some k =>
    rw [q] at e
    exact h.get (i := k) e
theorem de_ix (ha : DE X c W a ma) (hb : DE X c W b mb) (hs : PlainIx b := by exact fun _ _ => rfl) : DE X c W (.Subscript a b pos) (mBin gIx ma mb) := by
  refine ⟨(pe_ix ix_seq ha.pe hb.pe hs).imp fun σ H Q ⟨F, γ, j, g, en, h⟩ => ?_⟩
  refine two g en h fun j' dx dy F' H' x y e g' en' r1 r2 q => ?_
  unfold gIx at q
  split at q
  · rename_i ds i e1 e2
    split at q
    · rename_i d ed
      obtain ⟨p, vs, rfl, h1, h2⟩ := r1.lst g'.sub e1
      obtain ⟨v, h3, h4⟩ := h2.atI ed
      exact .inl ⟨p, vs, i, v, rfl, r2.int e2, SqL.of h1, h3, q F' H' v e g' h4⟩
    · exact q.elim
  · rename_i ds i e1 e2
    split at q
    · rename_i d ed
      obtain ⟨p, vs, rfl, h1, _, h2⟩ := r1.tup g'.sub e1
      obtain ⟨v, h3, h4⟩ := h2.atI ed
      exact .inr (.inl ⟨p, vs, i, v, rfl, r2.int e2, h1, h3, q F' H' v e g' h4⟩)
    · exact q.elim
  · rename_i z i e1 e2
    split at q
    · rename_i hl
      split at q
      · rename_i ch ed
        exact .inr (.inr ⟨z, i, ch, r1.str e1, r2.int e2, line_of hl, ed, q F' H' _ e g' (show Dat c X.K F' _ _ from .str _)⟩)
      · exact q.elim
    · exact q.elim
  · exact q.elim
end
end DL
namespace DL
open PySem PySem.Spec L2
open PyProof.Rows
/-- how a statement ends -/
inductive Fl where
  | nx (γ : Gm) | rt (d : D) | bk (γ : Gm) | ct (γ : Gm)
/-- the object that is being made -/
def ObjAt (σ : L2.St) (γ : Gm) (a : Addr) : Prop := ∃ (i n : Nat) (gs : List (Str × D)), γ[i]? = some (.obj n gs) ∧ σ[i]? = some (some (.ref a))
/-- a frame's state: it was entered at F0, H0; ob is the object that is being made -/
structure SOk (c : Ct) (K : PySem.W.Frag) (ob : Addr) (F0 H0 : Hp) (σ : L2.St) (H : Hp) (γ : Gm) (F : Hp) (j : Nat) : Prop where
  gd : Good c F H j
  ext : Ext c F0 H0 F H
  env : EnvOk c K F H σ γ
  own : ∀ a, OwnAt σ γ a → H0 a = none
  obj : ∀ a, ObjAt σ γ a → a = ob
def pS (c : Ct) (K : PySem.W.Frag) (ob : Addr) (F0 H0 : Hp) (D : Ends) : Nat → Fl → Prop
  | j, .nx γ => ∀ σ F H, SOk c K ob F0 H0 σ H γ F j → D.nx σ H
  | j, .bk γ => ∀ σ F H, SOk c K ob F0 H0 σ H γ F j → D.bk σ H
  | j, .ct γ => ∀ σ F H, SOk c K ob F0 H0 σ H γ F j → D.ct σ H
  | j, .rt d => ∀ F H v, Ext c F0 H0 F H → Good c F H j → Dat c K F v d → D.rt v H
def pSX (c : Ct) (K : PySem.W.Frag) (W : WX) (F0 H0 : Hp) : Nat → Xc → Prop := fun j e => ∀ F H d σ, Ext c F0 H0 F H → Good c F H j → XdOk c K H0 F H d e → W (.ref (c.cA e.c)) (some d) σ H
def tS (c : Ct) (K : PySem.W.Frag) (W : WX) (m : Gm → T Fl) : TS := fun D σ H => ∃ ob F0 H0 F γ j, SOk c K ob F0 H0 σ H γ F j ∧ (m γ).All j (pS c K ob F0 H0 D) (pSX c K W F0 H0)
structure DS (X : Cx) (c : Ct) (W : WX) (st : Stmt) (m : Gm → T Fl) : Prop where
  ps : PS X st (tS c X.K W m)
structure DSs (X : Cx) (c : Ct) (W : WX) (st : List Stmt) (m : Gm → T Fl) : Prop where
  ps : PSs X st (tS c X.K W m)
section
variable {X : Cx} {c : Ct} {W : WX} {K : PySem.W.Frag} {ob : Addr} {F0 H0 F F' H H' : Hp} {σ : L2.St} {γ : Gm} {j : Nat} {st : Stmt} {sts rest : List Stmt} {e : Expr} {pos : Pos} {m1 m2 : Gm → T Fl} {m : Gm → T RV} {tc : Gm → T Bool}
theorem SOk.step {j' : Nat} (s : SOk c K ob F0 H0 σ H γ F j) (e : Ext c F H F' H') (g : Good c F' H' j') : SOk c K ob F0 H0 σ H' γ F' j' := ⟨g, s.ext.trans e, s.env.ext e, s.own, s.obj⟩
theorem pSX.px {x : Xc} (h : pSX c K W F0 H0 j x) (s : Ext c F0 H0 F H) : pX c K W F H σ j x := fun F' H' d e g q => h F' H' d σ (s.trans e) g (q.low s)
/-- an expression within a statement -/
theorem SOk.seq {α : Type} {f : RV → T α} {P : Nat → α → Prop} {Q : VK} (s : SOk c K ob F0 H0 σ H γ F j) (h : ((m γ).bind f).All j P (pSX c K W F0 H0))
    (k : ∀ j' x F' H' v, SOk c K ob F0 H0 σ H' γ F' j' → Ext c F H F' H' → RDat c K F' H' v x → (f x).All j' P (pSX c K W F0 H0) → Q v H') : tE c K W m σ H Q :=
  ⟨F, γ, j, s.gd, s.env, (T.All.bind h).imp (fun j' x hx F' H' v e g r => k j' x F' H' v (s.step e g) e r hx) fun _ _ z => z.px s.ext⟩
theorem SOk.seqT {α : Type} {f : Bool → T α} {P : Nat → α → Prop} {Q : Bool → Hp → Prop} (s : SOk c K ob F0 H0 σ H γ F j) (h : ((tc γ).bind f).All j P (pSX c K W F0 H0))
    (k : ∀ j' x F' H', SOk c K ob F0 H0 σ H' γ F' j' → (f x).All j' P (pSX c K W F0 H0) → Q x H') : tT c K W tc σ H Q :=
  ⟨F, γ, j, s.gd, s.env, (T.All.bind h).imp (fun j' x hx F' H' e g => k j' x F' H' (s.step e g) hx) fun _ _ z => z.px s.ext⟩
/-! ### blocks -/
def mNx : Gm → T Fl := fun γ => .ok (.nx γ)
def mSeq (m1 m2 : Gm → T Fl) : Gm → T Fl := fun γ => (m1 γ).bind fun fl => match fl with
  | .nx γ' => m2 γ'
  | fl => .ok fl
theorem dss_nil : DSs X c W [] mNx := ⟨pss_nil.imp fun D σ H ⟨ob, F0, H0, F, γ, j, s, h⟩ => h σ F H s⟩
theorem dss_cons (h1 : DS X c W st m1) (h2 : DSs X c W rest m2) : DSs X c W (st :: rest) (mSeq m1 m2) := by
  refine ⟨(pss_cons h1.ps h2.ps).imp fun D σ H ⟨ob, F0, H0, F, γ, j, s, h⟩ => ⟨ob, F0, H0, F, γ, j, s, (T.All.bind h).imp (fun j' fl hf => ?_) fun _ _ z => z⟩⟩
  cases fl with
  | nx γ' => exact fun σ1 F1 H1 s1 => ⟨ob, F0, H0, F1, γ', j', s1, hf⟩
  | bk γ' => exact hf
  | ct γ' => exact hf
  | rt d => exact hf
theorem dss_one (h1 : DS X c W st m1) : DSs X c W [st] m1 := ⟨pss_one h1.ps⟩
theorem ds_pass : DS X c W (.Pass pos) mNx := ⟨ps_pass.imp fun D σ H ⟨ob, F0, H0, F, γ, j, s, h⟩ => h σ F H s⟩
def mBk : Gm → T Fl := fun γ => .ok (.bk γ)
def mCt : Gm → T Fl := fun γ => .ok (.ct γ)
theorem ds_break : DS X c W (.Break pos) mBk := ⟨ps_break.imp fun D σ H ⟨ob, F0, H0, F, γ, j, s, h⟩ => h σ F H s⟩
theorem ds_continue : DS X c W (.Continue pos) mCt := ⟨ps_continue.imp fun D σ H ⟨ob, F0, H0, F, γ, j, s, h⟩ => h σ F H s⟩
/-- code that is never come to -/
def mNo : Gm → T Fl := fun _ => .stuck
theorem ds_no : DS X c W st mNo := ⟨ps_never.imp fun D σ H ⟨ob, F0, H0, F, γ, j, s, h⟩ => h⟩
def mDrop (m : Gm → T RV) : Gm → T Fl := fun γ => (m γ).bind fun _ => .ok (.nx γ)
theorem ds_expr (he : DE X c W e m) (hs : swapsWith e none pos.line X.env = pure false := by rfl) : DS X c W (.Expr e pos) (mDrop m) :=
  ⟨(ps_expr he.pe hs).imp fun D σ H ⟨ob, F0, H0, F, γ, j, s, h⟩ => s.seq h fun j' x F' H' v s' _ r h' => h' σ F' H' s'⟩
def mRet (m : Gm → T RV) : Gm → T Fl := fun γ => (m γ).bind fun x => (asD x).bind fun d => .ok (.rt d)
theorem ds_ret (he : DE X c W e m) : DS X c W (.Return (some e) pos) (mRet m) := by
  refine ⟨(ps_ret he.pe).imp fun D σ H ⟨ob, F0, H0, F, γ, j, s, h⟩ => s.seq h fun j' x F' H' v s' _ r h' => ?_⟩
  obtain ⟨d, rfl, hd, h2⟩ := r.asD (T.All.bind h')
  exact h2 F' H' v s'.ext s'.gd hd
def mRetN : Gm → T Fl := fun _ => .ok (.rt .non)
theorem ds_retN : DS X c W (.Return none pos) mRetN := ⟨ps_retN.imp fun D σ H ⟨ob, F0, H0, F, γ, j, s, h⟩ => h F H .non s.ext s.gd .non⟩
def mIfS (tc : Gm → T Bool) (m1 m2 : Gm → T Fl) : Gm → T Fl := fun γ => (tc γ).bind fun k => if k = true then m1 γ else m2 γ
theorem ds_if {t : Expr} {a b : List Stmt} (ht : DT X c W t tc) (ha : DSs X c W a m1) (hb : DSs X c W b m2) : DS X c W (.If t a b pos) (mIfS tc m1 m2) := by
  refine ⟨(ps_if ht.pt ha.ps hb.ps).imp fun D σ H ⟨ob, F0, H0, F, γ, j, s, h⟩ => s.seqT h fun j' k F' H' s' h' => ?_⟩
  cases k with
  | true => exact iteT ⟨ob, F0, H0, F', γ, j', s', h'⟩
  | false => exact iteF ⟨ob, F0, H0, F', γ, j', s', h'⟩
/-! ### slots -/
theorem get_set {α : Type} {l : List α} {i k : Nat} {x y : α} (h : (l.set i x)[k]? = some y) : (k = i ∧ y = x ∧ i < l.length) ∨ (k ≠ i ∧ l[k]? = some y) := by
  by_cases e : k = i
  · subst e
    by_cases hl : k < l.length
    · rw [List.getElem?_set_self hl] at h
      exact .inl ⟨rfl, (Option.some.inj h).symm, hl⟩
    · rw [List.getElem?_eq_none (by simpa using hl)] at h
      cases h
  · rw [List.getElem?_set_ne (Ne.symm e)] at h
    exact .inr ⟨e, h⟩
theorem set_ne {α : Type} {l : List α} {i k : Nat} {x y : α} (n : k ≠ i) (h : l[k]? = some y) : (l.set i x)[k]? = some y := by rw [List.getElem?_set_ne (Ne.symm n)]; exact h
/-- a slot gets a value -/
theorem EnvOk.setVal {i : Nat} {v : V} {d : D} (h : EnvOk c K F H σ γ) (r : Dat c K F v d) : EnvOk c K F H (σ.set i (some v)) (γ.set i (.val d)) := by
  refine ⟨by simp [h.len], fun k d' q => ?_, fun k ds q => ?_, fun k n gs q => ?_, fun a b o u x q1 o1 q2 o2 z1 z2 => ?_⟩
  · rcases get_set q with ⟨rfl, e, hl⟩ | ⟨n, q⟩
    · cases e
      exact ⟨v, by rw [List.getElem?_set_self (by rw [h.len]; exact hl)], r⟩
    · obtain ⟨w, h1, h2⟩ := h.val k d' q
      exact ⟨w, set_ne n h1, h2⟩
  · rcases get_set q with ⟨rfl, e, hl⟩ | ⟨n, q⟩
    · cases e
    · obtain ⟨a, vs, h1, h2⟩ := h.own k ds q
      exact ⟨a, vs, set_ne n h1, h2⟩
  · rcases get_set q with ⟨rfl, e, hl⟩ | ⟨n', q⟩
    · cases e
    · obtain ⟨a, dx, fs, h1, h2⟩ := h.obj k n gs q
      exact ⟨a, dx, fs, set_ne n' h1, h2⟩
  · rcases get_set q1 with ⟨rfl, e, hl⟩ | ⟨n1, q1⟩
    · rw [e] at o1; cases o1
    · rcases get_set q2 with ⟨rfl, e, hl⟩ | ⟨n2, q2⟩
      · rw [e] at o2; cases o2
      · rw [List.getElem?_set_ne (Ne.symm n1)] at z1
        rw [List.getElem?_set_ne (Ne.symm n2)] at z2
        exact h.ne a b o u x q1 o1 q2 o2 z1 z2
theorem OwnAt.setVal {i : Nat} {v : V} {d : D} {a : Addr} (h : OwnAt (σ.set i (some v)) (γ.set i (.val d)) a) : OwnAt σ γ a := by
  obtain ⟨k, o, q, ho, z⟩ := h
  rcases get_set q with ⟨rfl, e, hl⟩ | ⟨n, q⟩
  · rw [e] at ho; cases ho
  · rw [List.getElem?_set_ne (Ne.symm n)] at z
    exact ⟨k, o, q, ho, z⟩
theorem ObjAt.setVal {i : Nat} {v : V} {d : D} {a : Addr} (h : ObjAt (σ.set i (some v)) (γ.set i (.val d)) a) : ObjAt σ γ a := by
  obtain ⟨k, n, gs, q, z⟩ := h
  rcases get_set q with ⟨rfl, e, hl⟩ | ⟨n', q⟩
  · cases e
  · rw [List.getElem?_set_ne (Ne.symm n')] at z
    exact ⟨k, n, gs, q, z⟩
theorem ObjAt.setOwn {i : Nat} {v : V} {ds : List D} {a : Addr} (h : ObjAt (σ.set i (some v)) (γ.set i (.own ds)) a) : ObjAt σ γ a := by
  obtain ⟨k, n, gs, q, z⟩ := h
  rcases get_set q with ⟨rfl, e, hl⟩ | ⟨n', q⟩
  · cases e
  · rw [List.getElem?_set_ne (Ne.symm n')] at z
    exact ⟨k, n, gs, q, z⟩
theorem SOk.setVal {i : Nat} {v : V} {d : D} (s : SOk c K ob F0 H0 σ H γ F j) (r : Dat c K F v d) : SOk c K ob F0 H0 (σ.set i (some v)) H (γ.set i (.val d)) F j := ⟨s.gd, s.ext, s.env.setVal r, fun a h => s.own a h.setVal, fun a h => s.obj a h.setVal⟩
def mSet (i : Nat) (m : Gm → T RV) : Gm → T Fl := fun γ => (m γ).bind fun x => (asD x).bind fun d => .ok (.nx (γ.set i (.val d)))
theorem ds_set (i : Nat) {x : Str} {pos' : Pos} (hN : X.N.Nodup) (he : DE X c W e m) (hi : X.N[i]? = some x := by rfl) (hx : Loc X.env.scope x := by first | exact Or.inl rfl | exact Or.inr rfl) (hs : swapsWith e (some (.Name x pos')) pos.line X.env = pure false := by rfl)
    (hf : X.fn x = true ∨ X.env.scope.names.lookup x = some .local := by first | exact .inl rfl | exact .inr rfl) : DS X c W (.Assign [.Name x pos'] e pos) (mSet i m) := by
  refine ⟨(ps_set hN hi hx he.pe hs hf).imp fun D σ H ⟨ob, F0, H0, F, γ, j, s, h⟩ => s.seq h fun j' y F' H' v s' _ r h' => ?_⟩
  obtain ⟨d, rfl, hd, h2⟩ := r.asD (T.All.bind h')
  exact h2 _ F' H' (s'.setVal hd)
/-! ### a list of one's own -/
/-- e gives a new list that nobody else has -/
def tF (c : Ct) (K : PySem.W.Frag) (W : WX) (m : Gm → T (List D)) : TE := fun σ H Q => ∃ F γ j, Good c F H j ∧ EnvOk c K F H σ γ ∧ (m γ).All j
  (fun j' ds => ∀ F' H' a vs, Ext c F H F' H' → Good c F' H' j' → H a = none → F' a = none → H' a = some (.lst vs) → Dats c K F' vs ds → Q (.ref a) H') (pX c K W F H σ)
structure DF (X : Cx) (c : Ct) (W : WX) (e : Expr) (m : Gm → T (List D)) : Prop where
  pe : PE X e (tF c X.K W m)
theorem Good.fresh {p : Addr} {o : HO} (g : Good c F H j) (hp : H p = none) : F p = none := by
  cases q : F p with
  | none => rfl
  | some u => rw [g.sub _ _ q] at hp; cases hp
theorem EnvOk.setOwn {i : Nat} {a : Addr} {vs : List V} {ds : List D} (h : EnvOk c K F H σ γ) (n1 : a ≠ c.pa) (n2 : a ≠ c.sa) (hF : F a = none) (ha : H a = some (.lst vs)) (r : Dats c K F vs ds) (hn : ¬ OwnAt σ γ a) : EnvOk c K F H (σ.set i (some (.ref a))) (γ.set i (.own ds)) := by
  refine ⟨by simp [h.len], fun k d' q => ?_, fun k ds q => ?_, fun k n gs q => ?_, fun x y o u b q1 o1 q2 o2 z1 z2 => ?_⟩
  · rcases get_set q with ⟨rfl, e, hl⟩ | ⟨n, q⟩
    · cases e
    · obtain ⟨w, h1, h2⟩ := h.val k d' q
      exact ⟨w, set_ne n h1, h2⟩
  · rcases get_set q with ⟨rfl, e, hl⟩ | ⟨n, q⟩
    · cases e
      exact ⟨a, vs, by rw [List.getElem?_set_self (by rw [h.len]; exact hl)], n1, n2, hF, ha, r⟩
    · obtain ⟨a, vs, h1, h2⟩ := h.own k ds q
      exact ⟨a, vs, set_ne n h1, h2⟩
  · rcases get_set q with ⟨rfl, e, hl⟩ | ⟨n', q⟩
    · cases e
    · obtain ⟨a, dx, fs, h1, h2⟩ := h.obj k n gs q
      exact ⟨a, dx, fs, set_ne n' h1, h2⟩
  · rcases get_set q1 with ⟨rfl, e, hl⟩ | ⟨m1, q1⟩
    · rcases get_set q2 with ⟨rfl, e2, _⟩ | ⟨m2, q2⟩
      · rfl
      · rw [List.getElem?_set_ne (Ne.symm m2)] at z2
        rw [List.getElem?_set_self (by rw [h.len]; exact hl)] at z1
        cases z1
        exact absurd ⟨y, u, q2, o2, z2⟩ hn
    · rcases get_set q2 with ⟨e0, e, hl⟩ | ⟨m2, q2⟩
      · subst e0
        rw [List.getElem?_set_ne (Ne.symm m1)] at z1
        rw [List.getElem?_set_self (by rw [h.len]; exact hl)] at z2
        cases z2
        exact absurd ⟨x, o, by assumption, o1, z1⟩ hn
      · rw [List.getElem?_set_ne (Ne.symm m1)] at z1
        rw [List.getElem?_set_ne (Ne.symm m2)] at z2
        exact h.ne x y o u b q1 o1 q2 o2 z1 z2
theorem EnvOk.there (h : EnvOk c K F H σ γ) {a : Addr} (o : OwnAt σ γ a) : H a ≠ none ∧ F a = none ∧ a ≠ c.pa ∧ a ≠ c.sa := by
  obtain ⟨i, o, q, ho, z⟩ := o
  cases o with
  | no => cases ho
  | val d => cases ho
  | own ds =>
    obtain ⟨b, vs, h1, h2, h3, h4, h5, h6⟩ := h.own i ds q
    rw [h1] at z; cases z
    exact ⟨by rw [h5]; simp, h4, h2, h3⟩
  | obj n gs =>
    obtain ⟨b, dx, fs, h1, h2, h3, h4, h5, h6⟩ := h.obj i n gs q
    rw [h1] at z; cases z
    exact ⟨by rw [h5]; simp, h4, h2, h3⟩
theorem EnvOk.notab (h : EnvOk c K F H σ γ) {a : Addr} {u : HO} (o : OwnAt σ γ a) (e : H a = some u) (n1 : ∀ vs, u ≠ .lst vs) (n2 : ∀ C d fs, u ≠ .ins C d fs) : False := by
  obtain ⟨i, o, q, ho, z⟩ := o
  cases o with
  | no => cases ho
  | val d => cases ho
  | own ds =>
    obtain ⟨b, vs, h1, h2, h3, h4, h5, h6⟩ := h.own i ds q
    rw [h1] at z; cases z
    rw [h5] at e; cases e; exact n1 _ rfl
  | obj n gs =>
    obtain ⟨b, dx, fs, h1, h2, h3, h4, h5, h6⟩ := h.obj i n gs q
    rw [h1] at z; cases z
    rw [h5] at e; cases e; exact n2 _ _ _ rfl
theorem Good.nePen (g : Good c F H j) {a : Addr} (h : H a = none) : a ≠ c.pa ∧ a ≠ c.sa := by
  obtain ⟨_, _, ⟨⟨_, p1⟩, ⟨_, p2⟩, _⟩, _, _⟩ := g
  exact ⟨fun e => (by rw [e, p1] at h; cases h), fun e => (by rw [e, p2] at h; cases h)⟩
theorem SOk.setOwn {i : Nat} {a : Addr} {vs : List V} {ds : List D} (s : SOk c K ob F0 H0 σ H γ F j) (s' : SOk c K ob F0 H0 σ H' γ F' j) (e : Ext c F H F' H') (h0 : H a = none) (hF : F' a = none) (ha : H' a = some (.lst vs)) (r : Dats c K F' vs ds) :
    SOk c K ob F0 H0 (σ.set i (some (.ref a))) H' (γ.set i (.own ds)) F' j := by
  have np := s.gd.nePen h0
  have no : ¬ OwnAt σ γ a := fun o => (s.env.there o).1 h0
  refine ⟨s'.gd, s'.ext, s'.env.setOwn np.1 np.2 hF ha r no, fun b h => ?_, fun b h => s.obj b h.setOwn⟩
  obtain ⟨k, o, q, ho, z⟩ := h
  rcases get_set q with ⟨rfl, e, hl⟩ | ⟨n, q⟩
  · rw [List.getElem?_set_self (by rw [s.env.len]; exact hl)] at z
    cases z
    cases y : H0 a with
    | none => rfl
    | some u => exact absurd h0 (s.ext.there a (by rw [y]; simp))
  · rw [List.getElem?_set_ne (Ne.symm n)] at z
    exact s.own b ⟨k, o, q, ho, z⟩
end
end DL
namespace DL
open PySem PySem.Spec L2
open PyProof.Rows
section
variable {X : Cx} {c : Ct} {W : WX} {K : PySem.W.Frag} {ob : Addr} {F0 H0 F F' H H' : Hp} {σ : L2.St} {γ : Gm} {j : Nat} {st : Stmt} {sts rest : List Stmt} {e : Expr} {es : List Expr} {pos : Pos} {m1 m2 : Gm → T Fl} {m : Gm → T RV} {tc : Gm → T Bool} {ms : Gm → T (List D)}
theorem tF.seq {α : Type} {f : List D → T α} {P : Nat → α → Prop} {Q : VK} (s : SOk c K ob F0 H0 σ H γ F j) (h : ((ms γ).bind f).All j P (pSX c K W F0 H0))
    (k : ∀ j' ds F' H' a vs, SOk c K ob F0 H0 σ H' γ F' j' → Ext c F H F' H' → H a = none → F' a = none → H' a = some (.lst vs) → Dats c K F' vs ds → (f ds).All j' P (pSX c K W F0 H0) → Q (.ref a) H') : tF c K W ms σ H Q :=
  ⟨F, γ, j, s.gd, s.env, (T.All.bind h).imp (fun j' x hx F' H' a vs e g h0 hF ha r => k j' x F' H' a vs (s.step e g) e h0 hF ha r hx) fun _ _ z => z.px s.ext⟩
def mSetOwn (i : Nat) (ms : Gm → T (List D)) : Gm → T Fl := fun γ => (ms γ).bind fun ds => .ok (.nx (γ.set i (.own ds)))
theorem SOk.upj {j' : Nat} (s : SOk c K ob F0 H0 σ H γ F j) (h : j ≤ j') : SOk c K ob F0 H0 σ H γ F j' := ⟨s.gd.upj h, s.ext, s.env, s.own, s.obj⟩
theorem SOk.setOwn' {i j' : Nat} {a : Addr} {vs : List V} {ds : List D} (s : SOk c K ob F0 H0 σ H γ F j) (s' : SOk c K ob F0 H0 σ H' γ F' j') (h0 : H a = none) (hF : F' a = none) (ha : H' a = some (.lst vs)) (r : Dats c K F' vs ds) :
    SOk c K ob F0 H0 (σ.set i (some (.ref a))) H' (γ.set i (.own ds)) F' j' := by
  have np := s.gd.nePen h0
  have no : ¬ OwnAt σ γ a := fun o => (s.env.there o).1 h0
  refine ⟨s'.gd, s'.ext, s'.env.setOwn np.1 np.2 hF ha r no, fun b h => ?_, fun b h => s.obj b h.setOwn⟩
  obtain ⟨k, o, q, ho, z⟩ := h
  rcases get_set q with ⟨rfl, e, hl⟩ | ⟨n, q⟩
  · rw [List.getElem?_set_self (by rw [s.env.len]; exact hl)] at z
    cases z
    cases y : H0 a with
    | none => rfl
    | some u => exact absurd h0 (s.ext.there a (by rw [y]; simp))
  · rw [List.getElem?_set_ne (Ne.symm n)] at z
    exact s.own b ⟨k, o, q, ho, z⟩
theorem ds_setOwn (i : Nat) {x : Str} {pos' : Pos} (hN : X.N.Nodup) (he : DF X c W e ms) (hi : X.N[i]? = some x := by rfl) (hx : Loc X.env.scope x := by first | exact Or.inl rfl | exact Or.inr rfl) (hs : swapsWith e (some (.Name x pos')) pos.line X.env = pure false := by rfl)
    (hf : X.fn x = true ∨ X.env.scope.names.lookup x = some .local := by first | exact .inl rfl | exact .inr rfl) : DS X c W (.Assign [.Name x pos'] e pos) (mSetOwn i ms) := by
  refine ⟨(ps_set hN hi hx he.pe hs hf).imp fun D σ H ⟨ob, F0, H0, F, γ, j, s, h⟩ => tF.seq s h fun j' ds F' H' a vs s' _ h0 hF ha r h' => ?_⟩
  exact h' _ F' H' (s.setOwn' s' h0 hF ha r)
/-- [..], as a new list of one's own -/
def fLst (ms : Gm → T (List D)) : Gm → T (List D) := fun γ => (ms γ).bind fun ds => if ds.length ≤ 1000000 then .ok ds else .stuck
theorem df_lst (h : DA X c W es ms) : DF X c W (.List es pos) (fLst ms) := by
  refine ⟨(pe_lst h.pa).imp fun σ H Q ⟨F, γ, j, g, en, h⟩ => ?_⟩
  refine tA.seq g en h fun j1 ds F1 H1 vs e1 g1 en1 r1 h1 => ?_
  split at h1
  · rename_i hl
    refine ⟨line_of (by rw [r1.length]; exact hl), fun p hp => ?_⟩
    obtain ⟨g2, e2⟩ := g1.layOut (o := .lst vs) hp
    refine h1 F1 _ p vs (e1.trans e2) g2 ?_ (g1.fresh (o := .lst vs) hp) upd_same r1
    cases y : H p with
    | none => rfl
    | some u => exact absurd hp (e1.there p (by rw [y]; simp))
  · exact h1.elim
/-- what changes at one's own address leaves the rest -/
theorem EnvOk.write {i : Nat} {a : Addr} {vs : List V} {ds es : List D} (h : EnvOk c K F H σ γ) (hi : γ[i]? = some (.own es)) (ha : σ[i]? = some (some (.ref a))) (r : Dats c K F vs ds) : EnvOk c K F (upd H a (.lst vs)) σ (γ.set i (.own ds)) := by
  have oa : OwnAt σ γ a := ⟨i, _, hi, rfl, ha⟩
  have hl : i < γ.length := (List.getElem?_eq_some_iff.mp hi).1
  have hF := (h.there oa).2.1
  refine ⟨by simp [h.len], fun k d' q => ?_, fun k ds q => ?_, fun k n gs q => ?_, fun x y o u b q1 o1 q2 o2 z1 z2 => ?_⟩
  · rcases get_set q with ⟨rfl, e, hl⟩ | ⟨n, q⟩
    · cases e
    · exact h.val k d' q
  · rcases get_set q with ⟨rfl, e, hl⟩ | ⟨n, q⟩
    · cases e
      have t := h.there oa
      exact ⟨a, vs, ha, t.2.2.1, t.2.2.2, hF, upd_same, r⟩
    · obtain ⟨b, us, h1, h2, h3, h4, h5, h6⟩ := h.own k ds q
      have nb : b ≠ a := fun z => n (h.ne k i _ _ b q rfl hi rfl h1 (z ▸ ha))
      exact ⟨b, us, h1, h2, h3, h4, by rw [upd_ne nb]; exact h5, h6⟩
  · rcases get_set q with ⟨rfl, e, hl⟩ | ⟨n', q⟩
    · cases e
    · obtain ⟨b, dx, fs, h1, h2, h3, h4, h5, h6⟩ := h.obj k n gs q
      have nb : b ≠ a := fun z => n' (h.ne k i _ _ b q rfl hi rfl h1 (z ▸ ha))
      exact ⟨b, dx, fs, h1, h2, h3, h4, by rw [upd_ne nb]; exact h5, h6⟩
  · have back : ∀ {x : Nat} {o : SV}, (γ.set i (.own ds))[x]? = some o → o.isOwn = true → ∃ o', γ[x]? = some o' ∧ o'.isOwn = true := fun {x o} q ho => by
      rcases get_set q with ⟨rfl, e, hl⟩ | ⟨n, q⟩
      · exact ⟨_, hi, rfl⟩
      · exact ⟨o, q, ho⟩
    obtain ⟨o', q1', o1'⟩ := back q1 o1
    obtain ⟨u', q2', o2'⟩ := back q2 o2
    exact h.ne x y o' u' b q1' o1' q2' o2' z1 z2
theorem SOk.write {i : Nat} {a : Addr} {vs : List V} {ds es : List D} (s : SOk c K ob F0 H0 σ H γ F j) (hi : γ[i]? = some (.own es)) (ha : σ[i]? = some (some (.ref a))) (r : Dats c K F vs ds) : SOk c K ob F0 H0 σ (upd H a (.lst vs)) (γ.set i (.own ds)) F j := by
  have oa : OwnAt σ γ a := ⟨i, _, hi, rfl, ha⟩
  obtain ⟨t1, t2, t3, t4⟩ := s.env.there oa
  have h0 := s.own a oa
  refine ⟨⟨fun b o h => ?_, s.gd.pa, ?_, tabs_keep s.gd.tab (fun b o n1 n2 h => by rw [upd_ne (fun z => by rw [z] at h; exact s.env.notab oa h n1 n2)]; exact h) (fun _ _ h => tbl_upd .lst h), s.gd.nt⟩, ⟨s.ext.up, fun b o n nt h => ?_, fun b h => ?_, s.ext.new⟩, s.env.write hi ha r, fun b h => ?_, fun b h => ?_⟩
  · have nb : b ≠ a := fun z => by rw [z, t2] at h; cases h
    rw [upd_ne nb]; exact s.gd.sub b o h
  · exact s.gd.pen.keep fun b vs hb z => by rw [upd_ne (fun y => by rcases hb with h | h <;> rw [h] at y <;> first | exact t3 y.symm | exact t4 y.symm)]; exact z
  · have nb : b ≠ a := fun z => by rw [z, h0] at h; cases h
    rw [upd_ne nb]; exact s.ext.keep b o n nt h
  · by_cases z : b = a
    · rw [z, upd_same]; simp
    · rw [upd_ne z]; exact s.ext.there b h
  · refine s.own b ?_
    obtain ⟨k, o, q, ho, z⟩ := h
    rcases get_set q with ⟨rfl, e, hl⟩ | ⟨n, q⟩
    · exact ⟨_, _, hi, rfl, z⟩
    · exact ⟨k, o, q, ho, z⟩
  · refine s.obj b ?_
    obtain ⟨k, n, gs, q, z⟩ := h
    rcases get_set q with ⟨rfl, e, hl⟩ | ⟨n', q⟩
    · cases e
    · exact ⟨k, n, gs, q, z⟩
/-- x.append(e), x one's own list in slot i -/
def mApp (i : Nat) (m : Gm → T RV) : Gm → T Fl := fun γ => match γ[i]? with
  | some (.own ds) => (m γ).bind fun x => (asD x).bind fun d => if ds.length < 1000000 then .ok (.nx (γ.set i (.own (ds ++ [d])))) else .stuck
  | _ => .stuck
theorem ds_app (i : Nat) {x : Str} {p apos cpos : Pos} (he : DE X c W e m) (hN : X.N[i]? = some x := by rfl) (hv : Vis X.env.scope x := by first | exact Or.inl rfl | exact Or.inr (Or.inl rfl) | exact Or.inr (Or.inr rfl)) (hd : (x == ("__debug__" : Str)) = false := by decide)
    (hcd : (x == ("__classdict__" : Str)) = false := by decide) (hbase : attributeBase (.Name x p) "append" X.env (eval (.Name x p) X.env) = eval (.Name x p) X.env := by rfl)
    (hfew : ((backTo cpos (starEach [e] X.env)).all (fun x => !x.1) && (backToKw cpos (keywordEach [] X.env)).all (fun x => x.1.isSome)
      && decide (([e] : List Expr).length + ([] : List Keyword).length + (if ([] : List Keyword).isEmpty then 0 else 1) < 30)) = true := by rfl)
    (hline : (apos.endLine == cpos.line) = true := by rfl) (hs : starEach [e] X.env = [(false, eval e X.env)] := by rfl) (hsw : swapsWith (.Call (.Attribute (.Name x p) "append" apos) [e] [] cpos) none pos.line X.env = pure false := by rfl) :
    DS X c W (.Expr (.Call (.Attribute (.Name x p) "append" apos) [e] [] cpos) pos) (mApp i m) := by
  refine ⟨(ps_expr (pe_bm PySem.F.plainAttrs_list PySem.F.slot_list_append PySem.F.type_list_append mt_append (pe_var hN hv hd hcd) (pa_cons he.pe pa_nil hs) hbase hfew hline hs rfl) hsw).imp fun D σ H ⟨ob, F0, H0, F, γ, j, s, h⟩ => ?_⟩
  unfold mApp at h
  split at h
  · rename_i ds q
    obtain ⟨a, vs, h1, h2, h3, h4, h5, h6⟩ := s.env.own i ds q
    refine ⟨_, h1, .inl ⟨rfl, vs, SqL.of h5⟩, ?_⟩
    refine s.seq h fun j' y F' H' v s' ex r h' => ?_
    obtain ⟨d, rfl, hd', hh⟩ := r.asD (T.All.bind h')
    split at hh
    · rename_i hl
      obtain ⟨b, us, g1, g2, g3, g4, g5, g6⟩ := s'.env.own i ds q
      rw [h1] at g1; cases g1
      refine ⟨a, us, v, rfl, rfl, g5, line_lt (by rw [g6.length]; exact hl), ?_⟩
      exact hh σ F' _ (s'.write q h1 (g6.append (.cons hd' .nil)))
    · exact hh.elim
  · exact h.elim
/-! ### a list of one's own is shared from now on -/
def frzS (i : Nat) (γ : Gm) : Gm := match γ[i]? with
  | some (.own ds) => γ.set i (.val (.lst ds))
  | _ => γ
theorem SOk.frz (i : Nat) (s : SOk c K ob F0 H0 σ H γ F j) : ∃ F', SOk c K ob F0 H0 σ H (frzS i γ) F' j := by
  unfold frzS
  split
  · rename_i ds q
    obtain ⟨a, vs, h1, h2, h3, h4, h5, h6⟩ := s.env.own i ds q
    have oa : OwnAt σ γ a := ⟨i, _, q, rfl, h1⟩
    have h0 := s.own a oa
    have up : ∀ b o, F b = some o → upd F a (.lst vs) b = some o := fun b o h => by rw [upd_ne (fun z => by rw [z, h4] at h; cases h)]; exact h
    have hset : σ.set i (some (.ref a)) = σ := by
      apply List.ext_getElem?
      intro k
      by_cases e : k = i
      · subst e
        rw [List.getElem?_set_self ((List.getElem?_eq_some_iff.mp h1).1), h1]
      · rw [List.getElem?_set_ne (Ne.symm e)]
    have ebase : EnvOk c K (upd F a (.lst vs)) H σ (γ.set i (.val (.lst ds))) := by
      have hl : i < γ.length := (List.getElem?_eq_some_iff.mp q).1
      have nfor : ∀ {k : Nat} {o : SV} {b : Addr}, k ≠ i → γ[k]? = some o → o.isOwn = true → σ[k]? = some (some (.ref b)) → b ≠ a := fun {k o b} n q1 o1 z1 z => n (s.env.ne k i _ _ b q1 o1 q rfl z1 (z ▸ h1))
      refine ⟨by simp [s.env.len], fun k d' q' => ?_, fun k es q' => ?_, fun k n gs q' => ?_, fun x y o u b q1 o1 q2 o2 z1 z2 => ?_⟩
      · rcases get_set q' with ⟨rfl, e, hl⟩ | ⟨n, q'⟩
        · cases e
          exact ⟨_, h1, .lst upd_same (h6.mono up)⟩
        · obtain ⟨w, g1, g2⟩ := s.env.val k d' q'
          exact ⟨w, g1, g2.mono up⟩
      · rcases get_set q' with ⟨rfl, e, hl⟩ | ⟨n, q'⟩
        · cases e
        · obtain ⟨b, us, g1, g2, g3, g4, g5, g6⟩ := s.env.own k es q'
          exact ⟨b, us, g1, g2, g3, by rw [upd_ne (nfor n q' rfl g1)]; exact g4, g5, g6.mono up⟩
      · rcases get_set q' with ⟨rfl, e, hl⟩ | ⟨n', q'⟩
        · cases e
        · obtain ⟨b, dx, fs, g1, g2, g3, g4, g5, g6⟩ := s.env.obj k n gs q'
          exact ⟨b, dx, fs, g1, g2, g3, by rw [upd_ne (nfor n' q' rfl g1)]; exact g4, g5, g6.mono up⟩
      · rcases get_set q1 with ⟨_, e, _⟩ | ⟨_, q1⟩
        · rw [e] at o1; cases o1
        · rcases get_set q2 with ⟨_, e, _⟩ | ⟨_, q2⟩
          · rw [e] at o2; cases o2
          · exact s.env.ne x y o u b q1 o1 q2 o2 z1 z2
    refine ⟨upd F a (.lst vs), ⟨fun b o h => ?_, ?_, s.gd.pen, s.gd.tab, nt_upd s.gd.nt .lst⟩, ⟨fun b o h => up b o (s.ext.up b o h), s.ext.keep, s.ext.there, fun b h => ?_⟩, ebase, fun b h => ?_, fun b h => ?_⟩
    · by_cases z : b = a
      · rw [z, upd_same] at h; cases h; rw [z]; exact h5
      · rw [upd_ne z] at h; exact s.gd.sub b o h
    · intro hp; rw [upd_ne (Ne.symm h2)]; exact s.gd.pa hp
    · by_cases z : b = a
      · right; rw [z]; exact h0
      · rw [upd_ne z] at h; exact s.ext.new b h
    · refine s.own b ?_
      rw [← hset] at h
      exact h.setVal
    · refine s.obj b ?_
      rw [← hset] at h
      exact h.setVal
  · exact ⟨F, s⟩
theorem dss_frz (i : Nat) (h : DSs X c W sts m1) : DSs X c W sts (fun γ => m1 (frzS i γ)) :=
  ⟨h.ps.imp fun D σ H ⟨ob, F0, H0, F, γ, j, s, q⟩ => let ⟨F', s'⟩ := s.frz i; ⟨ob, F0, H0, F', _, j, s', q⟩⟩
theorem ds_frz (i : Nat) (h : DS X c W st m1) : DS X c W st (fun γ => m1 (frzS i γ)) :=
  ⟨h.ps.imp fun D σ H ⟨ob, F0, H0, F, γ, j, s, q⟩ => let ⟨F', s'⟩ := s.frz i; ⟨ob, F0, H0, F', _, j, s', q⟩⟩
end
end DL
namespace DL
open PySem PySem.Spec L2
open PyProof.Rows
/-! ### self.f = e within an __init__ -/
def putD (f : Str) (v : D) : List (Str × D) → List (Str × D)
  | [] => [(f, v)]
  | (g, x) :: r => if g = f then (g, v) :: r else (g, x) :: putD f v r
section
variable {X : Cx} {c : Ct} {W : WX} {K : PySem.W.Frag} {ob : Addr} {F0 H0 F F' H H' : Hp} {σ : L2.St} {γ : Gm} {j : Nat} {st : Stmt} {sts rest : List Stmt} {e : Expr} {es : List Expr} {pos : Pos} {m1 m2 : Gm → T Fl} {m : Gm → T RV} {tc : Gm → T Bool} {ms : Gm → T (List D)}
theorem DatF.put {f : Str} {v : V} {d : D} (r : Dat c K F v d) : ∀ {fs : List (Str × V)} {gs : List (Str × D)}, DatF c K F fs gs → DatF c K F (putF f v fs) (putD f d gs)
  | _, _, .nil => .cons r .nil
  | _, _, .cons (f := g) h t => by
    unfold putF putD
    by_cases q : g = f
    · rw [if_pos q, if_pos q]; exact .cons r t
    · rw [if_neg q, if_neg q]; exact .cons h (DatF.put r t)
theorem DatF.length : ∀ {fs : List (Str × V)} {gs : List (Str × D)}, DatF c K F fs gs → fs.length = gs.length
  | _, _, .nil => rfl
  | _, _, .cons _ t => congrArg Nat.succ (DatF.length t)
theorem EnvOk.writeO {i n : Nat} {a dx : Addr} {fs : List (Str × V)} {gs hs : List (Str × D)} (h : EnvOk c K F H σ γ) (hi : γ[i]? = some (.obj n hs)) (ha : σ[i]? = some (some (.ref a))) (r : DatF c K F fs gs) : EnvOk c K F (upd H a (.ins (c.cA n) dx fs)) σ (γ.set i (.obj n gs)) := by
  have oa : OwnAt σ γ a := ⟨i, _, hi, rfl, ha⟩
  have hF := (h.there oa).2.1
  refine ⟨by simp [h.len], fun k d' q => ?_, fun k ds q => ?_, fun k n' gs' q => ?_, fun x y o u b q1 o1 q2 o2 z1 z2 => ?_⟩
  · rcases get_set q with ⟨rfl, e, hl⟩ | ⟨n, q⟩
    · cases e
    · exact h.val k d' q
  · rcases get_set q with ⟨rfl, e, hl⟩ | ⟨n, q⟩
    · cases e
    · obtain ⟨b, us, h1, h2, h3, h4, h5, h6⟩ := h.own k ds q
      have nb : b ≠ a := fun z => n (h.ne k i _ _ b q rfl hi rfl h1 (z ▸ ha))
      exact ⟨b, us, h1, h2, h3, h4, by rw [upd_ne nb]; exact h5, h6⟩
  · rcases get_set q with ⟨rfl, e, hl⟩ | ⟨n', q⟩
    · cases e
      have t := h.there oa
      exact ⟨a, dx, fs, ha, t.2.2.1, t.2.2.2, hF, upd_same, r⟩
    · obtain ⟨b, dy, fs, h1, h2, h3, h4, h5, h6⟩ := h.obj k _ _ q
      have nb : b ≠ a := fun z => n' (h.ne k i _ _ b q rfl hi rfl h1 (z ▸ ha))
      exact ⟨b, dy, fs, h1, h2, h3, h4, by rw [upd_ne nb]; exact h5, h6⟩
  · have back : ∀ {x : Nat} {o : SV}, (γ.set i (.obj n gs))[x]? = some o → o.isOwn = true → ∃ o', γ[x]? = some o' ∧ o'.isOwn = true := fun {x o} q ho => by
      rcases get_set q with ⟨rfl, e, hl⟩ | ⟨n, q⟩
      · exact ⟨_, hi, rfl⟩
      · exact ⟨o, q, ho⟩
    obtain ⟨o', q1', o1'⟩ := back q1 o1
    obtain ⟨u', q2', o2'⟩ := back q2 o2
    exact h.ne x y o' u' b q1' o1' q2' o2' z1 z2
theorem SOk.writeO {i n : Nat} {a dx : Addr} {fs : List (Str × V)} {gs hs : List (Str × D)} (s : SOk c K ob F0 H0 σ H γ F j) (hi : γ[i]? = some (.obj n hs)) (ha : σ[i]? = some (some (.ref a))) (r : DatF c K F fs gs) : SOk c K ob F0 H0 σ (upd H a (.ins (c.cA n) dx fs)) (γ.set i (.obj n gs)) F j := by
  have oa : OwnAt σ γ a := ⟨i, _, hi, rfl, ha⟩
  obtain ⟨t1, t2, t3, t4⟩ := s.env.there oa
  have h0 := s.own a oa
  refine ⟨⟨fun b o h => ?_, s.gd.pa, ?_, tabs_keep s.gd.tab (fun b o n1 n2 h => by rw [upd_ne (fun z => by rw [z] at h; exact s.env.notab oa h n1 n2)]; exact h) (fun _ _ h => tbl_upd .ins h), s.gd.nt⟩, ⟨s.ext.up, fun b o n nt h => ?_, fun b h => ?_, s.ext.new⟩, s.env.writeO hi ha r, fun b h => ?_, fun b h => ?_⟩
  · have nb : b ≠ a := fun z => by rw [z, t2] at h; cases h
    rw [upd_ne nb]; exact s.gd.sub b o h
  · exact s.gd.pen.keep fun b vs hb z => by rw [upd_ne (fun y => by rcases hb with h | h <;> rw [h] at y <;> first | exact t3 y.symm | exact t4 y.symm)]; exact z
  · have nb : b ≠ a := fun z => by rw [z, h0] at h; cases h
    rw [upd_ne nb]; exact s.ext.keep b o n nt h
  · by_cases z : b = a
    · rw [z, upd_same]; simp
    · rw [upd_ne z]; exact s.ext.there b h
  · refine s.own b ?_
    obtain ⟨k, o, q, ho, z⟩ := h
    rcases get_set q with ⟨rfl, e, hl⟩ | ⟨n, q⟩
    · exact ⟨_, _, hi, rfl, z⟩
    · exact ⟨k, o, q, ho, z⟩
  · refine s.obj b ?_
    obtain ⟨k, n', gs', q, z⟩ := h
    rcases get_set q with ⟨rfl, e, hl⟩ | ⟨n', q⟩
    · exact ⟨_, _, _, hi, z⟩
    · exact ⟨k, _, _, q, z⟩
def mFldS (i : Nat) (cs : List Nat) (f : Str) (m : Gm → T RV) : Gm → T Fl := fun γ => match γ[i]? with
  | some (.obj n gs) => if cs.contains n && decide (gs.length < 100) then (m γ).bind fun x => (asD x).bind fun d => .ok (.nx (γ.set i (.obj n (putD f d gs)))) else .stuck
  | _ => .stuck
theorem ds_fld (i : Nat) {x f : Str} {p p' : Pos} {cs : List Nat} (hf : FldOk X.K c cs f) (he : DE X c W e m) (hN : X.N[i]? = some x := by rfl) (hv : Vis X.env.scope x := by first | exact Or.inl rfl | exact Or.inr (Or.inl rfl) | exact Or.inr (Or.inr rfl)) (hd : (x == ("__debug__" : Str)) = false := by decide)
    (hcd : (x == ("__classdict__" : Str)) = false := by decide) (hs : swapsWith e (some (.Attribute (.Name x p) f p')) pos.line X.env = pure false := by rfl) : DS X c W (.Assign [.Attribute (.Name x p) f p'] e pos) (mFldS i cs f m) := by
  refine ⟨(ps_fld (pe_var hN hv hd hcd) he.pe hs).imp fun D σ H ⟨ob, F0, H0, F, γ, j, s, h⟩ => ?_⟩
  unfold mFldS at h
  split at h
  · rename_i n gs q
    split at h
    · rename_i hc
      obtain ⟨c1, c2⟩ := Bool.and_eq_true_iff.mp hc
      have c1 := List.contains_iff_mem.mp c1
      have c2 := of_decide_eq_true c2
      refine s.seq h fun j' y F' H' v s' ex r h' => ?_
      obtain ⟨d, rfl, hd', hh⟩ := r.asD (T.All.bind h')
      obtain ⟨a, dx, fs, h1, h2, h3, h4, h5, h6⟩ := s'.env.obj i n gs q
      refine ⟨_, h1, a, _, dx, fs, rfl, h5, (hf n c1).1, (hf n c1).2, by rw [h6.length]; omega, ?_⟩
      exact hh σ F' _ (s'.writeO q h1 (h6.put hd'))
    · exact h.elim
  · exact h.elim
/-! ### targets -/
/-- the slots but ts stay -/
def Agree (ts : List Nat) (σ σ' : L2.St) : Prop := σ'.length = σ.length ∧ ∀ k, k ∉ ts → σ'[k]? = σ[k]?
theorem Agree.refl {ts : List Nat} : Agree ts σ σ := ⟨rfl, fun _ _ => rfl⟩
theorem Agree.trans {ts us : List Nat} {σ1 σ2 : L2.St} (a : Agree ts σ σ1) (b : Agree us σ1 σ2) : Agree (ts ++ us) σ σ2 := ⟨b.1.trans a.1, fun k h => (b.2 k fun z => h (List.mem_append_right _ z)).trans (a.2 k fun z => h (List.mem_append_left _ z))⟩
def tG (c : Ct) (K : PySem.W.Frag) (ts : List Nat) (m : D → Gm → Option Gm) : TG := fun v σ H Q => ∃ F γ d γ', EnvOk c K F H σ γ ∧ (∀ a o, F a = some o → H a = some o) ∧ Dat c K F v d ∧ m d γ = some γ' ∧ ∀ σ', EnvOk c K F H σ' γ' → (∀ a, OwnAt σ' γ' a → OwnAt σ γ a) → (∀ a, ObjAt σ' γ' a → ObjAt σ γ a) → Agree ts σ σ' → Q σ' H
structure DG (X : Cx) (c : Ct) (tg : Expr) (ts : List Nat) (m : D → Gm → Option Gm) : Prop where
  pg : PG X tg (tG c X.K ts m)
theorem _root_.L2.PG.imp {tg : Expr} {t t' : TG} (h : PG X tg t) (i : ∀ v σ H Q, t' v σ H Q → t v σ H Q) : PG X tg t' := ⟨fun pins s σ H v u Q I r q => h.run pins s σ H v u Q I r (i v σ H Q q)⟩
def gmName (i : Nat) : D → Gm → Option Gm := fun d γ => some (γ.set i (.val d))
theorem dg_name (i : Nat) {x : Str} (hN : X.N.Nodup) (hi : X.N[i]? = some x := by rfl) (hx : Loc X.env.scope x := by first | exact Or.inl rfl | exact Or.inr rfl) (hf : X.fn x = true ∨ X.env.scope.names.lookup x = some .local := by first | exact .inl rfl | exact .inr rfl) : DG X c (.Name x pos) [i] (gmName i) :=
  ⟨(pg_name hN hi hx hf).imp fun v σ H Q ⟨F, γ, d, γ', en, g, r, e, h⟩ => h _ (by cases e; exact en.setVal r) (fun a o => by cases e; exact o.setVal) (fun a o => by cases e; exact o.setVal) ⟨by simp, fun k hk => by rw [List.getElem?_set_ne (fun z => hk (by simp [z]))]⟩⟩
/-- several names -/
def tGs (c : Ct) (K : PySem.W.Frag) (ts : List Nat) (m : List D → Gm → Option Gm) : TGs := fun vs σ H Q => ∃ F γ ds γ', EnvOk c K F H σ γ ∧ (∀ a o, F a = some o → H a = some o) ∧ Dats c K F vs ds ∧ m ds γ = some γ' ∧ ∀ σ', EnvOk c K F H σ' γ' → (∀ a, OwnAt σ' γ' a → OwnAt σ γ a) → (∀ a, ObjAt σ' γ' a → ObjAt σ γ a) → Agree ts σ σ' → Q σ' H
structure DGs (X : Cx) (c : Ct) (tgs : List Expr) (ts : List Nat) (m : List D → Gm → Option Gm) : Prop where
  pg : PGs X tgs (tGs c X.K ts m)
theorem _root_.L2.PGs.imp {ts : List Expr} {t t' : TGs} (h : PGs X ts t) (i : ∀ v σ H Q, t' v σ H Q → t v σ H Q) : PGs X ts t' := ⟨fun pins s σ H v u Q I r q => h.run pins s σ H v u Q I r (i v σ H Q q)⟩
def gmNil : List D → Gm → Option Gm := fun ds γ => match ds with
  | [] => some γ
  | _ => none
def gmCons (m : D → Gm → Option Gm) (ms : List D → Gm → Option Gm) : List D → Gm → Option Gm := fun ds γ => match ds with
  | d :: ds => (m d γ).bind fun γ' => ms ds γ'
  | _ => none
theorem dgs_nil : DGs X c [] [] gmNil := by
  refine ⟨pgs_nil.imp fun vs σ H Q ⟨F, γ, ds, γ', en, g, r, e, h⟩ => ?_⟩
  cases r with
  | nil => cases e; exact ⟨rfl, h σ en (fun _ o => o) (fun _ o => o) .refl⟩
  | cons _ _ => cases e
theorem dgs_cons {t : Expr} {tgs : List Expr} {ts us : List Nat} {gm : D → Gm → Option Gm} {gms : List D → Gm → Option Gm} (h1 : DG X c t ts gm) (h2 : DGs X c tgs us gms) (hs : (assignEach (t :: tgs) X.env).map (·.2) = assign t X.env :: (assignEach tgs X.env).map (·.2) := by rfl) : DGs X c (t :: tgs) (ts ++ us) (gmCons gm gms) := by
  refine ⟨(pgs_cons h1.pg h2.pg hs).imp fun vs σ H Q ⟨F, γ, ds, γ', en, g, r, e, h⟩ => ?_⟩
  cases r with
  | nil => cases e
  | cons hd hr =>
    obtain ⟨γ1, e1, e2⟩ := Option.bind_eq_some_iff.mp e
    exact ⟨_, _, rfl, F, γ, _, γ1, en, g, hd, e1, fun σ1 en1 o1 b1 a1 => ⟨F, γ1, _, γ', en1, g, hr, e2, fun σ2 en2 o2 b2 a2 => h σ2 en2 (fun a o => o1 a (o2 a o)) (fun a o => b1 a (b2 a o)) (a1.trans a2)⟩⟩
/-- (a, b, ..) = a tuple -/
def gmTup (n : Nat) (ms : List D → Gm → Option Gm) : D → Gm → Option Gm := fun d γ => match d with
  | .tup ds => if ds.length = n then ms ds γ else none
  | _ => none
theorem dg_tup {tgs : List Expr} {ts : List Nat} {k : Nat} {n : Nat} {gms : List D → Gm → Option Gm} (hc : X.calm = true) (h : DGs X c tgs ts gms) (hn : (assignEach tgs X.env).length = n := by rfl) (hst : (assignEach tgs X.env).findIdx? (·.1) = none := by rfl) : DG X c (.Tuple tgs k pos) ts (gmTup n gms) := by
  refine ⟨(pg_tup hc h.pg hn hst).imp fun v σ H Q ⟨F, γ, d, γ', en, g, r, e, q⟩ => ?_⟩
  cases r with
  | tup hq hr =>
    unfold gmTup at e
    dsimp only at e
    split at e
    · rename_i hl
      exact ⟨_, _, rfl, SqT.mono hq g, by rw [hr.length]; exact hl, F, γ, _, γ', en, g, hr, e, q⟩
    · cases e
  | _ => cases e
/-- target = e -/
def mAsg (gm : D → Gm → Option Gm) (m : Gm → T RV) : Gm → T Fl := fun γ => (m γ).bind fun x => (asD x).bind fun d => match gm d γ with
  | some γ' => .ok (.nx γ')
  | none => .stuck
theorem ds_asg {tg : Expr} {ts : List Nat} {gm : D → Gm → Option Gm} (he : DE X c W e m) (hg : DG X c tg ts gm) (hs : swapsWithSole [tg] e pos.line X.env = pure false := by rfl) (hw : swappedStores [tg] e X.env = pure none := by rfl)
    (h1 : (assignEach [tg] X.env).map (·.2) = [assign tg X.env] := by rfl) : DS X c W (.Assign [tg] e pos) (mAsg gm m) := by
  refine ⟨(ps_asg he.pe hg.pg hs hw h1).imp fun D σ H ⟨ob, F0, H0, F, γ, j, s, h⟩ => s.seq h fun j' y F' H' v s' _ r h' => ?_⟩
  obtain ⟨d, rfl, hd, h2⟩ := r.asD (T.All.bind h')
  split at h2
  · rename_i γ' eg
    exact ⟨F', γ, d, γ', s'.env, s'.gd.sub, hd, eg, fun σ' en' ow ob' _ => h2 σ' F' H' ⟨s'.gd, s'.ext, en', fun a o => s'.own a (ow a o), fun a o => s'.obj a (ob' a o)⟩⟩
  · exact h2.elim
/-! ### what is walked -/
structure ItD (c : Ct) (K : PySem.W.Frag) (F : Hp) (J : It) (ds : List D) : Prop where
  go : ∀ (i : Nat) (F' H' : Hp), (∀ a o, F a = some o → F' a = some o) → (∀ a o, F' a = some o → H' a = some o) → i < ds.length → J.go i H'
  stop : ∀ (F' H' : Hp), (∀ a o, F a = some o → F' a = some o) → (∀ a o, F' a = some o → H' a = some o) → J.stop ds.length H'
  yld : ∀ (i : Nat) (F' H' : Hp) (x : V) (H2 : Hp) (j : Nat), (∀ a o, F a = some o → F' a = some o) → Good c F' H' j → J.yld i H' x H2 → ∃ F2, Ext c F' H' F2 H2 ∧ Good c F2 H2 j ∧ ∀ d, ds[i]? = some d → Dat c K F2 x d
def tI (c : Ct) (K : PySem.W.Frag) (W : WX) (m : Gm → T (List D)) : TI := fun σ H R => ∃ F γ j, Good c F H j ∧ EnvOk c K F H σ γ ∧ (m γ).All j (fun j' ds => ∀ F' H' J, Ext c F H F' H' → Good c F' H' j' → ItD c K F' J ds → R J H') (pX c K W F H σ)
structure DI (X : Cx) (c : Ct) (W : WX) (tg iter : Expr) (m : Gm → T (List D)) : Prop where
  pi : PI X tg iter (tI c X.K W m)
theorem _root_.L2.PI.imp {tg iter : Expr} {t t' : TI} (h : PI X tg iter t) (i : ∀ σ H R, t' σ H R → t σ H R) : PI X tg iter t' := ⟨fun pins s σ H R I q => h.run pins s σ H R I (i σ H R q)⟩
def asLst (x : RV) : T (List D) := match x with
  | .val (.lst ds) => .ok ds
  | _ => .stuck
def asTup (x : RV) : T (List D) := match x with
  | .val (.tup ds) => .ok ds
  | _ => .stuck
def iLst (m : Gm → T RV) : Gm → T (List D) := fun γ => (m γ).bind asLst
def iTupM (m : Gm → T RV) : Gm → T (List D) := fun γ => (m γ).bind asTup
theorem di_lst {tg : Expr} (he : DE X c W e m) : DI X c W tg e (iLst m) := by
  refine ⟨(pi_list he.pe).imp fun σ H R ⟨F, γ, j, g, en, h⟩ => tE.seq g en h fun j1 x F1 H1 v e1 g1 en1 r1 h1 => ?_⟩
  unfold asLst at h1
  split at h1
  · rename_i ds
    cases r1 with
    | lst hq hr =>
      refine ⟨_, rfl, ⟨_, SqL.of (g1.sub _ _ hq)⟩, h1 F1 H1 _ e1 g1 ⟨fun i F' H' up sub hi => ?_, fun F' H' up sub => ?_, fun i F' H' x H2 j up g y => ?_⟩⟩
      · have hl : i < ds.length := hi
        rw [← hr.length] at hl
        exact ⟨_, _, SqL.of (sub _ _ (up _ _ hq)), List.getElem?_eq_getElem hl⟩
      · exact ⟨_, SqL.of (sub _ _ (up _ _ hq)), by rw [hr.length]; exact Nat.le_refl _⟩
      · obtain ⟨e, y⟩ := y
        subst e
        refine ⟨F', .refl, g, fun d hd => ?_⟩
        obtain ⟨w, h3, h4⟩ := hr.get hd
        have := y _ (SqL.of (g.sub _ _ (up _ _ hq)))
        rw [h3] at this
        cases this
        exact h4.mono up
  · exact h1.elim
theorem di_tup {tg : Expr} (he : DE X c W e m) : DI X c W tg e (iTupM m) := by
  refine ⟨(pi_tup he.pe).imp fun σ H R ⟨F, γ, j, g, en, h⟩ => tE.seq g en h fun j1 x F1 H1 v e1 g1 en1 r1 h1 => ?_⟩
  unfold asTup at h1
  split at h1
  · rename_i ds
    cases r1 with
    | tup hq hr =>
      refine ⟨_, rfl, ⟨_, SqT.mono hq g1.sub⟩, h1 F1 H1 _ e1 g1 ⟨fun i F' H' up sub hi => ?_, fun F' H' up sub => ?_, fun i F' H' x H2 j up g y => ?_⟩⟩
      · have hl : i < ds.length := hi
        rw [← hr.length] at hl
        exact ⟨_, _, SqT.mono (SqT.mono hq up) sub, List.getElem?_eq_getElem hl⟩
      · exact ⟨_, SqT.mono (SqT.mono hq up) sub, by rw [hr.length]; exact Nat.le_refl _⟩
      · obtain ⟨e, y⟩ := y
        subst e
        refine ⟨F', .refl, g, fun d hd => ?_⟩
        obtain ⟨w, h3, h4⟩ := hr.get hd
        have := y _ (SqT.mono (SqT.mono hq up) g.sub)
        rw [h3] at this
        cases this
        exact h4.mono up
  · exact h1.elim
/-! ### for -/
def forD (gm : D → Gm → Option Gm) (mb : Gm → T Fl) : List D → Gm → T Fl
  | [], γ => .ok (.nx γ)
  | d :: ds, γ => match gm d γ with
    | none => .stuck
    | some γ1 => (mb γ1).bind fun fl => match fl with
      | .nx γ2 => forD gm mb ds γ2
      | .ct γ2 => forD gm mb ds γ2
      | .bk γ2 => .ok (.nx γ2)
      | .rt d => .ok (.rt d)
def mFor (mi : Gm → T (List D)) (gm : D → Gm → Option Gm) (mb : Gm → T Fl) : Gm → T Fl := fun γ => (mi γ).bind fun ds => forD gm mb ds γ
theorem tI.seq {α : Type} {f : List D → T α} {P : Nat → α → Prop} {R : It → Hp → Prop} (s : SOk c K ob F0 H0 σ H γ F j) (h : ((ms γ).bind f).All j P (pSX c K W F0 H0))
    (k : ∀ j' ds F' H' J, SOk c K ob F0 H0 σ H' γ F' j' → ItD c K F' J ds → (f ds).All j' P (pSX c K W F0 H0) → R J H') : tI c K W ms σ H R :=
  ⟨F, γ, j, s.gd, s.env, (T.All.bind h).imp (fun j' x hx F' H' J e g r => k j' x F' H' J (s.step e g) r hx) fun _ _ z => z.px s.ext⟩
/-- the floor is raised -/
theorem SOk.raise (s : SOk c K ob F0 H0 σ H γ F j) : SOk c K ob F H0 σ H γ F j := ⟨s.gd, ⟨fun _ _ h => h, s.ext.keep, s.ext.there, fun _ h => .inl h⟩, s.env, s.own, s.obj⟩
def Fls (F0 F1 H0 : Hp) : Prop := (∀ a o, F0 a = some o → F1 a = some o) ∧ ∀ a, F1 a ≠ none → F0 a ≠ none ∨ H0 a = none
theorem Ext.lower {F1 : Hp} (f : Fls F0 F1 H0) (e : Ext c F1 H0 F H) : Ext c F0 H0 F H := ⟨fun a o h => e.up a o (f.1 a o h), e.keep, e.there, fun a h => (e.new a h).elim (fun z => f.2 a z) .inr⟩
theorem SOk.fls (s : SOk c K ob F0 H0 σ H γ F j) : Fls F0 F H0 := ⟨s.ext.up, s.ext.new⟩
theorem SOk.lower {F1 : Hp} (f : Fls F0 F1 H0) (s : SOk c K ob F1 H0 σ H γ F j) : SOk c K ob F0 H0 σ H γ F j := ⟨s.gd, s.ext.lower f, s.env, s.own, s.obj⟩
theorem pS.raise {F1 : Hp} {D : Ends} {fl : Fl} (f : Fls F0 F1 H0) (h : pS c K ob F0 H0 D j fl) : pS c K ob F1 H0 D j fl := by
  cases fl with
  | nx γ' => exact fun σ F H s => h σ F H (s.lower f)
  | bk γ' => exact fun σ F H s => h σ F H (s.lower f)
  | ct γ' => exact fun σ F H s => h σ F H (s.lower f)
  | rt d => exact fun F H v e g r => h F H v (e.lower f) g r
theorem pSX.raise {F1 : Hp} {x : Xc} (f : Fls F0 F1 H0) (h : pSX c K W F0 H0 j x) : pSX c K W F1 H0 j x := fun F H d σ e g q => h F H d σ (e.lower f) g q
theorem ds_for {tg iter : Expr} {body : List Stmt} {ts : List Nat} {gm : D → Gm → Option Gm} {mb : Gm → T Fl} (hp : PassesOwn (model X.prog X.w) X.A X.env X.xe) (hc : X.calm = true) (hi : DI X c W tg iter ms) (hg : DG X c tg ts gm) (hb : DSs X c W body mb)
    (hs : ∀ x, foldedSetIterable iter X.env x = pure x := by intro _; rfl) : DS X c W (.For tg iter body [] pos) (mFor ms gm mb) := by
  refine ⟨(ps_for hp hc hi.pi hg.pg hb.ps hs).imp fun D σ H ⟨ob, F0, H0, F, γ, j, s, h⟩ => ?_⟩
  refine tI.seq s h fun j1 ds F1 H1 J s1 it h1 => ?_
  have fl := s1.fls
  have h1 := h1.imp (fun _ _ z => pS.raise fl z) fun _ _ z => pSX.raise fl z
  have s1 := s1.raise
  refine ⟨fun i n σ H => n = ds.length - i ∧ i ≤ ds.length ∧ ∃ F γ j, SOk c X.K ob F1 H0 σ H γ F j ∧ (forD gm mb (ds.drop i) γ).All j (pS c X.K ob F1 H0 D) (pSX c X.K W F1 H0),
    ⟨ds.length, by simp, Nat.zero_le _, F1, γ, j1, s1, by simpa using h1⟩, ?_⟩
  rintro i n σ2 H2 ⟨rfl, hle, F2, γ2, j2, s2, h2⟩
  by_cases hlt : i < ds.length
  · obtain ⟨d, hd⟩ : ∃ d, ds[i]? = some d := ⟨_, List.getElem?_eq_getElem hlt⟩
    have hdr : ds.drop i = d :: ds.drop (i + 1) := by
      rw [List.drop_eq_getElem_cons hlt]
      have := List.getElem?_eq_getElem hlt
      rw [hd] at this
      cases this
      rfl
    rw [hdr] at h2
    unfold forD at h2
    split at h2
    · exact h2.elim
    · rename_i γ3 eg
      refine .inr ⟨it.go i F2 H2 s2.ext.up s2.gd.sub hlt, fun σ' H' => ∃ F γ j, SOk c X.K ob F1 H0 σ' H' γ F j ∧ (forD gm mb (ds.drop (i + 1)) γ).All j (pS c X.K ob F1 H0 D) (pSX c X.K W F1 H0), fun σ' H' q => ⟨ds.length - (i + 1), by omega, rfl, hlt, q⟩, fun x H3 y => ?_⟩
      obtain ⟨F3, e3, g3, hx⟩ := it.yld i F2 H2 x H3 j2 s2.ext.up s2.gd y
      have s3 := s2.step e3 g3
      refine ⟨F3, γ2, d, γ3, s3.env, s3.gd.sub, hx d hd, eg, fun σ4 en4 ow4 ob4 _ => ?_⟩
      refine ⟨ob, F1, H0, F3, γ3, j2, ⟨s3.gd, s3.ext, en4, fun a o => s3.own a (ow4 a o), fun a o => s3.obj a (ob4 a o)⟩, (T.All.bind h2).imp (fun j5 fl hf => ?_) fun _ _ z => z⟩
      cases fl with
      | nx γ5 => exact fun σ5 F5 H5 s5 => ⟨F5, γ5, j5, s5, hf⟩
      | ct γ5 => exact fun σ5 F5 H5 s5 => ⟨F5, γ5, j5, s5, hf⟩
      | bk γ5 => exact hf
      | rt d => exact hf
  · have e : i = ds.length := by omega
    subst e
    rw [List.drop_length] at h2
    exact .inl ⟨it.stop F2 H2 s2.ext.up s2.gd.sub, h2 σ2 F2 H2 s2⟩
/-! ### while -/
def whileD (tc : Gm → T Bool) (mb : Gm → T Fl) : Nat → Gm → T Fl
  | 0, _ => .stuck
  | n + 1, γ => (tc γ).bind fun k => if k = true then (mb γ).bind fun fl => (match fl with
      | .nx γ2 => whileD tc mb n γ2
      | .ct γ2 => whileD tc mb n γ2
      | .bk γ2 => .ok (.nx γ2)
      | .rt d => .ok (.rt d)) else .ok (.nx γ)
def mWhile (n : Nat) (tc : Gm → T Bool) (mb : Gm → T Fl) : Gm → T Fl := whileD tc mb n
theorem ds_while (n : Nat) {t : Expr} {body : List Stmt} {mb : Gm → T Fl} (hp : PassesOwn (model X.prog X.w) X.A X.env X.xe) (ht : DT X c W t tc) (hb : DSs X c W body mb) : DS X c W (.While t body [] pos) (mWhile n tc mb) := by
  refine ⟨(ps_while hp ht.pt hb.ps).imp fun D σ H ⟨ob, F0, H0, F, γ, j, s, h⟩ => ?_⟩
  refine ⟨fun n σ H => ∃ F γ j, SOk c X.K ob F0 H0 σ H γ F j ∧ (whileD tc mb n γ).All j (pS c X.K ob F0 H0 D) (pSX c X.K W F0 H0), ⟨n, F, γ, j, s, h⟩, ?_⟩
  rintro n2 σ2 H2 ⟨F2, γ2, j2, s2, h2⟩
  cases n2 with
  | zero => exact h2.elim
  | succ n3 =>
    unfold whileD at h2
    refine s2.seqT h2 fun j3 k F3 H3 s3 h3 => ?_
    cases k with
    | false => exact iteF (h3 σ2 F3 H3 s3)
    | true =>
      refine iteT ⟨fun σ' H' => ∃ F γ j, SOk c X.K ob F0 H0 σ' H' γ F j ∧ (whileD tc mb n3 γ).All j (pS c X.K ob F0 H0 D) (pSX c X.K W F0 H0), fun σ' H' q => ⟨n3, Nat.lt_succ_self _, q⟩, ob, F0, H0, F3, γ2, j3, s3, ?_⟩
      have h3 : ((mb γ2).bind fun fl => (match fl with
        | .nx γ2 => whileD tc mb n3 γ2
        | .ct γ2 => whileD tc mb n3 γ2
        | .bk γ2 => .ok (.nx γ2)
        | .rt d => .ok (.rt d) : T Fl)).All j3 (pS c X.K ob F0 H0 D) (pSX c X.K W F0 H0) := h3
      refine (T.All.bind h3).imp (fun j5 fl hf => ?_) fun _ _ z => z
      cases fl with
      | nx γ5 => exact fun σ5 F5 H5 s5 => ⟨F5, γ5, j5, s5, hf⟩
      | ct γ5 => exact fun σ5 F5 H5 s5 => ⟨F5, γ5, j5, s5, hf⟩
      | bk γ5 => exact hf
      | rt d => exact hf
end
end DL
namespace DL
open PySem PySem.Spec L2
open PyProof.Rows
/-- nothing is raised -/
def T.calm {α : Type} : T α → T α
  | .ok a => .ok a
  | .exc _ => .stuck
  | .stuck => .stuck
  | .draw n k => .draw n fun d => (k d).calm
theorem T.All.uncalm {α : Type} {P : Nat → α → Prop} {E E' : Nat → Xc → Prop} : ∀ {t : T α} {j : Nat}, t.calm.All j P E → t.All j P E'
  | .ok _, _, h => h
  | .exc _, _, h => h.elim
  | .stuck, _, h => h
  | .draw _ _, _, ⟨h1, h2, h3, h⟩ => ⟨h1, h2, h3, fun d a b => T.All.uncalm (h d a b)⟩
abbrev W0 : WX := fun _ _ _ _ => False
/-- [te for gm in ds if tt] -/
def lcD (gm : D → Gm → Option Gm) (tt : Gm → T Bool) (te : Gm → T RV) (γ : Gm) : List D → List D → T (List D)
  | [], acc => .ok acc
  | d :: ds, acc => match gm d γ with
    | none => .stuck
    | some γ1 => (tt γ1).bind fun b => if b = true then (te γ1).bind fun x => (asD x).bind fun y => if acc.length < 1000000 then lcD gm tt te γ ds (acc ++ [y]) else .stuck else lcD gm tt te γ ds acc
def wipeG (γ : Gm) : List Nat → Gm
  | [] => γ
  | v :: vs => (wipeG γ vs).set v .no
def fLc (mi : Gm → T (List D)) (gm : D → Gm → Option Gm) (tt : Gm → T Bool) (te : Gm → T RV) (vs : List Nat) : Gm → T (List D) := fun γ => (mi γ).bind fun ds => (lcD gm tt te (wipeG γ vs) ds []).calm
def mLc (mi : Gm → T (List D)) (gm : D → Gm → Option Gm) (tt : Gm → T Bool) (te : Gm → T RV) (vs : List Nat) : Gm → T RV := fun γ => (fLc mi gm tt te vs γ).bind fun ds => okV (.lst ds)
section
variable {X : Cx} {c : Ct} {W : WX} {K : PySem.W.Frag} {ob : Addr} {F0 H0 F F' H H' : Hp} {σ : L2.St} {γ : Gm} {j : Nat} {st : Stmt} {sts rest : List Stmt} {e : Expr} {es : List Expr} {pos : Pos} {m1 m2 : Gm → T Fl} {m te : Gm → T RV} {tt : Gm → T Bool} {mi : Gm → T (List D)} {gm : D → Gm → Option Gm}
theorem set_no {i : Nat} (h : EnvOk c K F H σ γ) : EnvOk c K F H (σ.set i none) (γ.set i .no) := by
  have hne : ∀ {k : Nat} {o : SV}, (γ.set i .no)[k]? = some o → o ≠ .no → k ≠ i ∧ γ[k]? = some o := fun {k o} q n => by
    rcases get_set q with ⟨rfl, e, hl⟩ | ⟨n', q⟩
    · exact absurd e n
    · exact ⟨n', q⟩
  have hs : ∀ {k : Nat} {v : V}, k ≠ i → σ[k]? = some (some v) → (σ.set i none)[k]? = some (some v) := fun n h => set_ne n h
  refine ⟨by simp [h.len], fun k d q => ?_, fun k ds q => ?_, fun k n gs q => ?_, fun x y o u b q1 o1 q2 o2 z1 z2 => ?_⟩
  · obtain ⟨n, q⟩ := hne q (by simp)
    obtain ⟨v, h1, h2⟩ := h.val k d q
    exact ⟨v, hs n h1, h2⟩
  · obtain ⟨n, q⟩ := hne q (by simp)
    obtain ⟨a, vs, h1, h2⟩ := h.own k ds q
    exact ⟨a, vs, hs n h1, h2⟩
  · obtain ⟨n', q⟩ := hne q (by simp)
    obtain ⟨a, dx, fs, h1, h2⟩ := h.obj k n gs q
    exact ⟨a, dx, fs, hs n' h1, h2⟩
  · obtain ⟨n1, q1⟩ := hne q1 (by rintro rfl; cases o1)
    obtain ⟨n2, q2⟩ := hne q2 (by rintro rfl; cases o2)
    rw [List.getElem?_set_ne (Ne.symm n1)] at z1
    rw [List.getElem?_set_ne (Ne.symm n2)] at z2
    exact h.ne x y o u b q1 o1 q2 o2 z1 z2
theorem EnvOk.wipe (h : EnvOk c K F H σ γ) : ∀ vs : List Nat, EnvOk c K F H (L2.wipe σ vs) (wipeG γ vs)
  | [] => h
  | v :: vs => set_no (EnvOk.wipe h vs)
theorem wipe_agree {σ' : L2.St} : ∀ {vs : List Nat}, Agree vs σ σ' → L2.wipe σ' vs = L2.wipe σ vs := fun {vs} a => by
  apply List.ext_getElem?
  intro k
  have key : ∀ (τ : L2.St) (us : List Nat), (L2.wipe τ us)[k]? = if k ∈ us then (if k < τ.length then some none else none) else τ[k]? := fun τ us => by
    induction us with
    | nil => simp [L2.wipe]
    | cons u us ih =>
      unfold L2.wipe
      by_cases e : u = k
      · subst e
        by_cases hl : u < τ.length
        · rw [List.getElem?_set_self (by rw [wipe_length]; exact hl)]; simp [hl]
        · rw [List.getElem?_eq_none (by simp [wipe_length]; omega)]; simp [hl]
      · rw [List.getElem?_set_ne e, ih]
        simp only [List.mem_cons, (Ne.symm e : ¬ k = u), false_or]
  rw [key, key, a.1]
  split
  · rfl
  · rename_i hk; exact a.2 k hk
/-- several tests -/
structure DTs (X : Cx) (c : Ct) (W : WX) (es : List Expr) (m : Gm → T Bool) : Prop where
  pt : PTs X es (tT c X.K W m)
def tYesM : Gm → T Bool := fun _ => .ok true
theorem _root_.L2.PTs.imp {t t' : TT} (h : PTs X es t) (i : ∀ σ H Q, t' σ H Q → t σ H Q) : PTs X es t' := ⟨fun pins s σ H Q I q => h.run pins s σ H Q I (i σ H Q q)⟩
theorem dts_nil : DTs X c W [] tYesM := ⟨pts_nil.imp fun σ H Q ⟨F, γ, j, g, en, h⟩ => h F H .refl g⟩
theorem dts_one {t : Expr} (h : DT X c W t tt) : DTs X c W [t] tt := ⟨pts_one h.pt⟩
theorem lc_run {ts : List Nat} {Q : VK} {K : PySem.W.Frag} (g : Good c F H j) (en : EnvOk c K F H σ γ)
    (h : (fLc mi gm tt te ts γ).All j (fun j' ds => ∀ F' H' a vs, Ext c F H F' H' → Good c F' H' j' → H a = none → F' a = none → H' a = some (.lst vs) → Dats c K F' vs ds → Q (.ref a) H') (pX c K W F H σ)) :
    tLc (tI c K W mi) (tG c K ts gm) (tT c K W0 tt) (tE c K W0 te) ts σ H Q := by
  refine ⟨F, γ, j, g, en, (T.All.bind h).imp (fun j1 ds h1 F1 H1 J e1 g1 it A hA => ?_) fun _ _ z => z⟩
  have h1 := T.All.uncalm (E' := fun _ _ => False) h1
  have en1 := (en.ext e1).wipe ts
  have nA := g1.nePen hA
  have hA0 : H A = none := by
    cases y : H A with
    | none => rfl
    | some u => exact absurd hA (e1.there A (by rw [y]; simp))
  refine ⟨fun i n H2 => n = ds.length - i ∧ i ≤ ds.length ∧ ∃ F2 j2 vs acc, Good c F2 H2 j2 ∧ Ext c F1 H1 F2 H2 ∧ F2 A = none ∧ H2 A = some (.lst vs) ∧ Dats c K F2 vs acc ∧ (lcD gm tt te (wipeG γ ts) (ds.drop i) acc).All j2 (fun j' ds => ∀ F' H' a vs, Ext c F H F' H' → Good c F' H' j' → H a = none → F' a = none → H' a = some (.lst vs) → Dats c K F' vs ds → Q (.ref a) H') (fun _ _ => False), ?_, ?_⟩
  · obtain ⟨g2, e2⟩ := g1.layOut (o := .lst []) hA
    exact ⟨ds.length, by simp, Nat.zero_le _, F1, j1, [], [], g2, e2, g1.fresh (o := .lst []) hA, upd_same, .nil, by simpa using h1⟩
  rintro i n H2 ⟨rfl, hle, F2, j2, vs, acc, g2, e2, hF2, hA2, r2, h2⟩
  by_cases hlt : i < ds.length
  · obtain ⟨d, hd⟩ : ∃ d, ds[i]? = some d := ⟨_, List.getElem?_eq_getElem hlt⟩
    have hdr : ds.drop i = d :: ds.drop (i + 1) := by
      rw [List.drop_eq_getElem_cons hlt]
      have := List.getElem?_eq_getElem hlt
      rw [hd] at this
      cases this
      rfl
    rw [hdr] at h2
    unfold lcD at h2
    split at h2
    · exact h2.elim
    · rename_i γ3 eg
      refine .inr ⟨it.go i F2 H2 e2.up g2.sub hlt, fun H2 => ∃ F2 j2 vs acc, Good c F2 H2 j2 ∧ Ext c F1 H1 F2 H2 ∧ F2 A = none ∧ H2 A = some (.lst vs) ∧ Dats c K F2 vs acc ∧ (lcD gm tt te (wipeG γ ts) (ds.drop (i + 1)) acc).All j2 (fun j' ds => ∀ F' H' a vs, Ext c F H F' H' → Good c F' H' j' → H a = none → F' a = none → H' a = some (.lst vs) → Dats c K F' vs ds → Q (.ref a) H') (fun _ _ => False),
        fun H' q => ⟨ds.length - (i + 1), by omega, rfl, hlt, q⟩, fun x H3 y => ?_⟩
      obtain ⟨F3, e3, g3, hx⟩ := it.yld i F2 H2 x H3 j2 e2.up g2 y
      have e13 := e2.trans e3
      have keepA : ∀ {F H F' H' : Hp} {vs : List V}, Ext c F H F' H' → F A = none → H A = some (.lst vs) → F' A = none ∧ H' A = some (.lst vs) := fun {F H F' H' vs} e hF hH => by
        refine ⟨?_, e.keep A _ nA.1 .lst hH⟩
        cases z : F' A with
        | none => rfl
        | some o =>
          rcases e.new A (by rw [z]; simp) with y | y
          · exact absurd hF y
          · rw [y] at hH; cases hH
      obtain ⟨hF3, hA3⟩ := keepA e3 hF2 hA2
      refine ⟨F3, wipeG γ ts, d, γ3, en1.ext e13, g3.sub, hx d hd, eg, fun σ4 en4 ow4 _ ag4 => ⟨(wipe_agree ag4).trans ?_, ?_⟩⟩
      · have : Agree ts σ (L2.wipe σ ts) := ⟨wipe_length σ ts, fun k hk => by
          have key : ∀ us : List Nat, k ∉ us → (L2.wipe σ us)[k]? = σ[k]? := fun us => by
            induction us with
            | nil => intro _; rfl
            | cons u us ih =>
              intro hk
              simp only [List.mem_cons, not_or] at hk
              unfold L2.wipe
              rw [List.getElem?_set_ne (Ne.symm hk.1)]
              exact ih hk.2
          exact key ts hk⟩
        exact wipe_agree this
      refine ⟨F3, γ3, j2, g3, en4, (T.All.bind h2).imp (fun j5 b hb F5 H5 e5 g5 => ?_) fun _ _ z => z.elim⟩
      obtain ⟨hF5, hA5⟩ := keepA e5 hF3 hA3
      cases b with
      | false => exact iteF ⟨F5, j5, vs, acc, g5, e13.trans e5, hF5, hA5, r2.mono (fun b o h => e5.up b o (e3.up b o h)), hb⟩
      | true =>
        refine iteT ⟨F5, γ3, j5, g5, en4.ext e5, (T.All.bind hb).imp (fun j6 z hz F6 H6 v6 e6 g6 r6 => ?_) fun _ _ z => z.elim⟩
        obtain ⟨hF6, hA6⟩ := keepA e6 hF5 hA5
        cases z with
        | brw _ => exact hz.elim
        | bob _ _ => exact hz.elim
        | val y6 =>
          have hz : (if acc.length < 1000000 then lcD gm tt te (wipeG γ ts) (ds.drop (i + 1)) (acc ++ [y6]) else .stuck).All j6 _ (fun _ _ => False) := hz
          split at hz
          · rename_i hl
            have r6' : Dats c K F6 vs acc := r2.mono (fun b o h => e6.up b o (e5.up b o (e3.up b o h)))
            refine ⟨vs, hA6, line_lt (by rw [r6'.length]; exact hl), F6, j6, vs ++ [v6], acc ++ [y6], ?_, ?_, hF6, upd_same, r6'.append (.cons r6 .nil), hz⟩
            · obtain ⟨q1, q2, gp, gt, gn⟩ := g6
              refine ⟨fun b o h => ?_, q2, gp.keep fun b vs hb z => by rw [upd_ne (fun y => by rcases hb with h | h <;> rw [h] at y <;> first | exact nA.1 y.symm | exact nA.2 y.symm)]; exact z, tabs_keep gt (fun b o n1 _ h => by rw [upd_ne (fun z => by rw [z, hA6] at h; cases h; exact n1 _ rfl)]; exact h) (fun _ _ h => tbl_upd .lst h), gn⟩
              rw [upd_ne (fun z => by rw [z, hF6] at h; cases h)]
              exact q1 b o h
            · have e16 := e13.trans (e5.trans e6)
              refine ⟨e16.up, fun b o n nt h => ?_, fun b h => ?_, e16.new⟩
              · rw [upd_ne (fun z => by rw [z, hA] at h; cases h)]
                exact e16.keep b o n nt h
              · by_cases z : b = A
                · rw [z, upd_same]; simp
                · rw [upd_ne z]; exact e16.there b h
          · exact hz.elim
  · have e : i = ds.length := by omega
    subst e
    rw [List.drop_length] at h2
    exact .inl ⟨it.stop F2 H2 e2.up g2.sub, h2 F2 H2 A vs (e1.trans e2) g2 hA0 hF2 hA2 r2⟩
/-- the list is shared at once -/
theorem pF_of {K : PySem.W.Frag} {Q : VK} {ds : List D} {j0 : Nat} (g0 : Good c F H j0) (h : pE c K F H Q j (.val (.lst ds))) : ∀ F' H' a vs, Ext c F H F' H' → Good c F' H' j → H a = none → F' a = none → H' a = some (.lst vs) → Dats c K F' vs ds → Q (.ref a) H' := by
  intro F' H' a vs e g h0 hF ha r
  have np := g0.nePen h0
  have up : ∀ b o, F' b = some o → upd F' a (.lst vs) b = some o := fun b o h => by rw [upd_ne (fun z => by rw [z, hF] at h; cases h)]; exact h
  refine h (upd F' a (.lst vs)) H' _ ⟨fun b o q => up b o (e.up b o q), e.keep, e.there, fun b q => ?_⟩ ⟨fun b o q => ?_, fun hp => by rw [upd_ne (Ne.symm np.1)]; exact g.pa hp, g.pen, g.tab, nt_upd g.nt .lst⟩ (show Dat c K _ _ _ from .lst upd_same (r.mono up))
  · by_cases z : b = a
    · right; rw [z]; exact h0
    · rw [upd_ne z] at q; exact e.new b q
  · by_cases z : b = a
    · rw [z, upd_same] at q; cases q; rw [z]; exact ha
    · rw [upd_ne z] at q; exact g.sub b o q
theorem de_lc {elt tg iter : Expr} {ifs : List Expr} {scope : Scope} {own : List (Str × Nat)} (hc : X.calm = true) (hN : X.N.Nodup) (hi : DI X c W tg iter mi) (ok : blkC X.N X.env.scope scope own = true)
    (hg : ∀ (s : Shared) (H : Hp) (C : Addr) (cl : List (Str × Addr)) (fp : List Addr), DG (X.blk s H scope (compEnvC scope cl C X.env) fp) c tg (own.map (·.2)) gm) (ht : ∀ (s : Shared) (H : Hp) (C : Addr) (cl : List (Str × Addr)) (fp : List Addr), DTs (X.blk s H scope (compEnvC scope cl C X.env) fp) c W0 ifs tt)
    (he : ∀ (s : Shared) (H : Hp) (C : Addr) (cl : List (Str × Addr)) (fp : List Addr), DE (X.blk s H scope (compEnvC scope cl C X.env) fp) c W0 elt te) (hs : ∀ x, foldedSetIterable iter X.env x = pure x := by intro _; rfl) :
    DE X c W (.ListComp elt [⟨tg, iter, ifs, 0⟩] scope pos) (mLc mi gm tt te (own.map (·.2))) := by
  refine ⟨(pe_lc (wi := tI c X.K W mi) (g := tG c X.K (own.map (·.2)) gm) (tt := tT c X.K W0 tt) (te := tE c X.K W0 te) hc hN hi.pi (blkOk_by ok) (fun s H C cl fp => (hg s H C cl fp).pg) (fun s H C cl fp => (ht s H C cl fp).pt) (fun s H C cl fp => (he s H C cl fp).pe) hs).imp fun σ H Q ⟨F, γ, j, g, en, h⟩ => ?_⟩
  exact lc_run g en ((T.All.bind h).imp (fun j' ds q => pF_of g q) fun _ _ z => z)
theorem df_lc {elt tg iter : Expr} {ifs : List Expr} {scope : Scope} {own : List (Str × Nat)} (hc : X.calm = true) (hN : X.N.Nodup) (hi : DI X c W tg iter mi) (ok : blkC X.N X.env.scope scope own = true)
    (hg : ∀ (s : Shared) (H : Hp) (C : Addr) (cl : List (Str × Addr)) (fp : List Addr), DG (X.blk s H scope (compEnvC scope cl C X.env) fp) c tg (own.map (·.2)) gm) (ht : ∀ (s : Shared) (H : Hp) (C : Addr) (cl : List (Str × Addr)) (fp : List Addr), DTs (X.blk s H scope (compEnvC scope cl C X.env) fp) c W0 ifs tt)
    (he : ∀ (s : Shared) (H : Hp) (C : Addr) (cl : List (Str × Addr)) (fp : List Addr), DE (X.blk s H scope (compEnvC scope cl C X.env) fp) c W0 elt te) (hs : ∀ x, foldedSetIterable iter X.env x = pure x := by intro _; rfl) :
    DF X c W (.ListComp elt [⟨tg, iter, ifs, 0⟩] scope pos) (fLc mi gm tt te (own.map (·.2))) :=
  ⟨(pe_lc (wi := tI c X.K W mi) (g := tG c X.K (own.map (·.2)) gm) (tt := tT c X.K W0 tt) (te := tE c X.K W0 te) hc hN hi.pi (blkOk_by ok) (fun s H C cl fp => (hg s H C cl fp).pg) (fun s H C cl fp => (ht s H C cl fp).pt) (fun s H C cl fp => (he s H C cl fp).pe) hs).imp fun σ H Q ⟨F, γ, j, g, en, h⟩ => lc_run g en h⟩
/-- y = [..], y keeps a value -/
theorem ds_setLc (i : Nat) {y : Str} {py spos : Pos} {elt tg iter : Expr} {ifs : List Expr} {scope : Scope} {own : List (Str × Nat)} (hc : X.calm = true) (hN : X.N.Nodup) (hi : DI X c W tg iter mi) (ok : blkC X.N X.env.scope scope own = true)
    (hg : ∀ (s : Shared) (H : Hp) (C : Addr) (cl : List (Str × Addr)) (fp : List Addr), DG (X.blk s H scope (compEnvC scope cl C X.env) fp) c tg (own.map (·.2)) gm) (ht : ∀ (s : Shared) (H : Hp) (C : Addr) (cl : List (Str × Addr)) (fp : List Addr), DTs (X.blk s H scope (compEnvC scope cl C X.env) fp) c W0 ifs tt)
    (he : ∀ (s : Shared) (H : Hp) (C : Addr) (cl : List (Str × Addr)) (fp : List Addr), DE (X.blk s H scope (compEnvC scope cl C X.env) fp) c W0 elt te)
    (hsw : swapsWith (.ListComp elt [⟨tg, iter, ifs, 0⟩] scope pos) (some (.Name y py)) spos.line X.env = pure true)
    (hy : X.N[i]? = some y := by rfl) (hyl : X.env.scope.names.lookup y = some .local := by rfl) (hs : ∀ x, foldedSetIterable iter X.env x = pure x := by intro _; rfl) :
    DS X c W (.Assign [.Name y py] (.ListComp elt [⟨tg, iter, ifs, 0⟩] scope pos) spos) (mSet i (mLc mi gm tt te (own.map (·.2)))) := by
  refine ⟨(ps_setLc (wi := tI c X.K W mi) (g := tG c X.K (own.map (·.2)) gm) (tt := tT c X.K W0 tt) (te := tE c X.K W0 te) hc hN hy hyl hsw hi.pi (blkOk_by ok) (fun s H C cl fp => (hg s H C cl fp).pg) (fun s H C cl fp => (ht s H C cl fp).pt) (fun s H C cl fp => (he s H C cl fp).pe) hs).imp fun D σ H ⟨ob, F0, H0, F, γ, j, s, h⟩ => ?_⟩
  have h : ((fLc mi gm tt te (own.map (·.2)) γ).bind fun ds => (.ok (.nx (γ.set i (.val (.lst ds)))) : T Fl)).All j (pS c X.K ob F0 H0 D) (pSX c X.K W F0 H0) := by
    unfold mSet mLc at h
    rw [T.bind_assoc] at h
    exact h
  refine lc_run s.gd s.env ((T.All.bind h).imp (fun j' ds q => pF_of (Q := fun x H1 => gName i x σ H1 D.nx) s.gd fun F' H' v e g r => ?_) fun _ _ z => z.px s.ext)
  exact q _ F' H' ((s.step e g).setVal r)
/-- y = [..], y is to be changed -/
theorem ds_setLcOwn (i : Nat) {y : Str} {py spos : Pos} {elt tg iter : Expr} {ifs : List Expr} {scope : Scope} {own : List (Str × Nat)} (hc : X.calm = true) (hN : X.N.Nodup) (hi : DI X c W tg iter mi) (ok : blkC X.N X.env.scope scope own = true)
    (hg : ∀ (s : Shared) (H : Hp) (C : Addr) (cl : List (Str × Addr)) (fp : List Addr), DG (X.blk s H scope (compEnvC scope cl C X.env) fp) c tg (own.map (·.2)) gm) (ht : ∀ (s : Shared) (H : Hp) (C : Addr) (cl : List (Str × Addr)) (fp : List Addr), DTs (X.blk s H scope (compEnvC scope cl C X.env) fp) c W0 ifs tt)
    (he : ∀ (s : Shared) (H : Hp) (C : Addr) (cl : List (Str × Addr)) (fp : List Addr), DE (X.blk s H scope (compEnvC scope cl C X.env) fp) c W0 elt te)
    (hsw : swapsWith (.ListComp elt [⟨tg, iter, ifs, 0⟩] scope pos) (some (.Name y py)) spos.line X.env = pure true)
    (hy : X.N[i]? = some y := by rfl) (hyl : X.env.scope.names.lookup y = some .local := by rfl) (hs : ∀ x, foldedSetIterable iter X.env x = pure x := by intro _; rfl) :
    DS X c W (.Assign [.Name y py] (.ListComp elt [⟨tg, iter, ifs, 0⟩] scope pos) spos) (mSetOwn i (fLc mi gm tt te (own.map (·.2)))) := by
  refine ⟨(ps_setLc (wi := tI c X.K W mi) (g := tG c X.K (own.map (·.2)) gm) (tt := tT c X.K W0 tt) (te := tE c X.K W0 te) hc hN hy hyl hsw hi.pi (blkOk_by ok) (fun s H C cl fp => (hg s H C cl fp).pg) (fun s H C cl fp => (ht s H C cl fp).pt) (fun s H C cl fp => (he s H C cl fp).pe) hs).imp fun D σ H ⟨ob, F0, H0, F, γ, j, s, h⟩ => ?_⟩
  exact lc_run s.gd s.env ((T.All.bind h).imp (fun j' ds q F' H' a vs e g h0 hF ha r => q _ F' H' (s.setOwn' (s.step e g) h0 hF ha r)) fun _ _ z => z.px s.ext)
end
end DL
namespace DL
open PySem PySem.Spec L2
open PyProof.Rows
/-! ### room, with no repr under way -/
structure Room (k : Nat) (A : Around) : Prop extends L2.Room k A where
  gd : A.guards = some []
theorem Room.mono {j k : Nat} {A : Around} (r : Room k A) (h : j ≤ k) : Room j A := ⟨r.toRoom.mono h, r.gd⟩
theorem Room.deeper {k : Nat} {A : Around} (r : Room (k + 1) A) (env : Env) : Room k (A.deeper env) := ⟨r.toRoom.deeper env, r.gd⟩
theorem Room.in1 {k : Nat} {A : Around} (r : Room (k + 1) A) : Room k A.in1 := ⟨r.toRoom.in1, r.gd⟩
theorem make_guards {A : Around} {C : Addr} {us : List Value} {kw : List (Str × Value)} : (A.under (.builtin "type.__call__" ⟨.ref C :: us, kw⟩)).guards = A.guards := by
  have e : Code.guards (.builtin "type.__call__" ⟨.ref C :: us, kw⟩) = [] := by first | rfl | simp [Code.guards, Code.isGuard, guardIds]
  unfold Around.under
  rw [e]
  cases A.guards <;> rfl
theorem Room.make {k : Nat} {A : Around} (r : Room (k + 1) A) (C : Addr) (us : List Value) (kw : List (Str × Value)) : Room k (A.under (.builtin "type.__call__" ⟨.ref C :: us, kw⟩)) := ⟨r.toRoom.make C us kw, by rw [make_guards]; exact r.gd⟩
/-- a def's promise where no repr is under way -/
structure FnOk (P : Program) (w : World) (K : PySem.W.Frag) (mg : Str → Option Value) (base : Heap) (CX : CXT) (k : Nat) (f : Addr) (fd : FuncData) (ps : List Str) (sp : Sp) : Prop where
  len : ∀ vs H Q E, sp vs H Q E → vs.length = ps.length
  run : ∀ (A : Around) (outer : List Env) (s : Shared) (H : Hp) (args : Args) (us : List Value) (vs : List V) (Q : VK) (E : XK), Room k A → Env0 P w K mg base A outer s H → BindsTo s fd args (ps.zip us) → Vals vs us → sp vs H Q E →
    codeAny (model P w) A (.call (.ref f) args) (CR CX outer P w H s Q E) s
theorem FnOk.mono {P : Program} {w : World} {K : PySem.W.Frag} {mg : Str → Option Value} {base : Heap} {CX : CXT} {j k : Nat} {f : Addr} {fd : FuncData} {ps : List Str} {sp : Sp} (F : FnOk P w K mg base CX j f fd ps sp) (h : j ≤ k) :
    FnOk P w K mg base CX k f fd ps sp := ⟨F.len, fun A outer s H args us vs Q E hr => F.run A outer s H args us vs Q E (hr.mono h)⟩
/-- the rule for a def; cd: its code -/
theorem fun_ok {CX : CXT} {P : Program} {w : World} {K : PySem.W.Frag} {mg : Str → Option Value} {base : Heap} {x qual : Str} {params : Arguments} {body : List Stmt} {scope : Scope} {dvs : List V} {kws : List (Str × V)} {f : Addr} {fd : FuncData} {N ps : List Str} {k : Nat} {sp : Sp} (F : FunD K x qual params body scope dvs kws f fd) (S : FnScope N ps scope) (len : ∀ vs H Q E, sp vs H Q E → vs.length = ps.length)
    (hbody : ∀ (cdv : Value) (A : Around) (outer : List Env) (s : Shared) (H : Hp) (vs : List V) (Q : VK) (E : XK), fd.code = cdv → Room k (A.deeper (envOfC qual scope s.heap.objs.size f cdv)) → sp vs H Q E →
      ∃ t, PSs (cxOf CX P w K mg base N qual scope f cdv A outer s H E) body t ∧ t { nx := fun _ H' => Q .non H', rt := Q } (L2.start N vs) H) : FnOk P w K mg base CX (k + 1) f fd ps sp := by
  obtain ⟨oc, od, dV, kV, doc, pm, an, cdv, ct, osl, rfl, lk, hcd, _, _⟩ := F.ex
  exact ⟨len, fun A outer s H args us vs Q E hr e0 hb r hsp => LamX.run_ofS (k := k) lk hcd S hr.toRoom e0 hb r (len _ _ _ _ hsp) fun _ => hbody cdv A outer s H vs Q E rfl (hr.deeper _) hsp⟩
/-! ### what a def promises -/
def spD (c : Ct) (K : PySem.W.Frag) (m : List D → T D) : Sp := fun vs H Q E => ∃ F ds j, Good c F H j ∧ Dats c K F vs ds ∧ (m ds).All j
  (fun j' d => ∀ F' H' v, Ext c F H F' H' → Good c F' H' j' → Dat c K F' v d → Q v H')
  (fun j' e => ∀ F' H' d, Ext c F H F' H' → Good c F' H' j' → XdOk c K H F' H' d e → E (.ref (c.cA e.c)) (some d) H')
/-- a def's body, from its arguments -/
def runB (n N : Nat) (mb : Gm → T Fl) : List D → T D := fun ds => if ds.length = n then (mb (ds.map SV.val ++ List.replicate (N - n) SV.no)).bind fun fl => (match fl with
  | .nx _ => .ok .non
  | .rt d => .ok d
  | _ => .stuck) else .stuck
theorem runB_len {n N : Nat} {mb : Gm → T Fl} {ds : List D} {j : Nat} {P : Nat → D → Prop} {E : Nat → Xc → Prop} (h : (runB n N mb ds).All j P E) : ds.length = n := by
  unfold runB at h
  split at h
  · assumption
  · exact h.elim
section
variable {c : Ct} {K : PySem.W.Frag} {F H : Hp} {j : Nat}
theorem start_get {ds : List D} {r : Nat} {i : Nat} {o : SV} (h : (ds.map SV.val ++ List.replicate r SV.no)[i]? = some o) : (∃ d, o = .val d ∧ ds[i]? = some d) ∨ o = .no := by
  by_cases hl : i < ds.length
  · rw [List.getElem?_append_left (by simpa using hl), List.getElem?_map] at h
    cases q : ds[i]? with
    | none => rw [q] at h; cases h
    | some d => rw [q] at h; cases h; exact .inl ⟨d, rfl, rfl⟩
  · rw [List.getElem?_append_right (by simpa using hl)] at h
    have := List.mem_of_getElem? h
    exact .inr (List.eq_of_mem_replicate this)
theorem env_start {N : List Str} {vs : List V} {ds : List D} (hl : ds.length ≤ N.length) (r : Dats c K F vs ds) : EnvOk c K F H (start N vs) (ds.map SV.val ++ List.replicate (N.length - ds.length) SV.no) := by
  refine ⟨?_, fun i d q => ?_, fun i es q => ?_, fun i n gs q => ?_, fun x y o u b q1 o1 _ _ _ _ => ?_⟩
  · unfold L2.start
    simp [r.length]
  · rcases start_get q with ⟨d', e, q⟩ | e
    · cases e
      obtain ⟨v, h1, h2⟩ := r.get q
      have hi : i < vs.length := (List.getElem?_eq_some_iff.mp h1).1
      refine ⟨v, ?_, h2⟩
      unfold L2.start
      rw [List.getElem?_append_left (by simpa using hi), List.getElem?_map, h1]
      rfl
    · cases e
  · rcases start_get q with ⟨d', e, q⟩ | e <;> cases e
  · rcases start_get q with ⟨d', e, q⟩ | e <;> cases e
  · rcases start_get q1 with ⟨d', e, q⟩ | e <;> (rw [e] at o1; cases o1)
theorem own_start {N : List Str} {vs : List V} {ds : List D} {r : Nat} {a : Addr} : ¬ OwnAt (start N vs) (ds.map SV.val ++ List.replicate r SV.no) a := by
  rintro ⟨i, o, q, ho, _⟩
  rcases start_get q with ⟨d', e, q⟩ | e <;> (rw [e] at ho; cases ho)
theorem obj_start {N : List Str} {vs : List V} {ds : List D} {r : Nat} {a : Addr} : ¬ ObjAt (L2.start N vs) (ds.map SV.val ++ List.replicate r SV.no) a := by
  rintro ⟨i, n, gs, q, _⟩
  rcases start_get q with ⟨d', e, q⟩ | e <;> cases e
end
section
variable {P : Program} {w : World} {K : PySem.W.Frag} {mg : Str → Option Value} {base : Heap} {c : Ct}
/-- THE RULE for a def -/
theorem fnD {x qual : Str} {params : Arguments} {body : List Stmt} {scope : Scope} {dvs : List V} {kws : List (Str × V)} {f : Addr} {fd : FuncData} {N ps : List Str} {k : Nat} {mb : Gm → T Fl} (F : FunD K x qual params body scope dvs kws f fd) (S : FnScope N ps scope) (hl : ps.length ≤ N.length)
    (hb : ∀ (cdv : Value) (A : Around) (outer : List Env) (s : Shared) (H : Hp) (E : XK), fd.code = cdv → Room k (A.deeper (envOfC qual scope s.heap.objs.size f cdv)) →
      DSs (cxOf (CX P w) P w K mg base N qual scope f cdv A outer s H E) c (fun cls d _ H => E cls d H) body mb) :
    FnOk P w K mg base (CX P w) (k + 1) f fd ps (spD c K (runB ps.length N.length mb)) := by
  refine fun_ok F S (fun vs H Q E ⟨F, ds, j, g, r, h⟩ => by rw [r.length]; exact runB_len h) fun cdv A outer s H vs Q E hcd hr ⟨F, ds, j, g, r, h⟩ => ⟨_, (hb cdv A outer s H E hcd hr).ps, ?_⟩
  have hn := runB_len h
  unfold runB at h
  rw [if_pos hn] at h
  refine ⟨0, F, H, F, _, j, ⟨g, .refl, by rw [← hn]; exact env_start (by rw [hn]; exact hl) r, fun a o => absurd o own_start, fun a o => absurd o obj_start⟩, (T.All.bind h).imp (fun j' fl hf => ?_) fun j' e he F' H' d σ ex g' q => he F' H' d ex g' q⟩
  cases fl with
  | nx γ => exact fun σ F' H' s' => hf F' H' .non s'.ext s'.gd .non
  | rt d => exact fun F' H' v e g' r => hf F' H' v e g' r
  | bk γ => exact hf.elim
  | ct γ => exact hf.elim
/-- a promise of a call: us and the keywords ks with the values ws -/
def FnA (P : Program) (w : World) (K : PySem.W.Frag) (mg : Str → Option Value) (base : Heap) (k : Nat) (f : Addr) (ks : List Str) (sp : Sp) : Prop :=
  ∀ (A : Around) (outer : List Env) (s : Shared) (H : Hp) (us ws : List Value) (vs : List V) (Q : VK) (E : XK), Room k A → Env0 P w K mg base A outer s H → Vals vs (us ++ ws) → ws.length = ks.length → sp vs H Q E →
    codeAny (model P w) A (.call (.ref f) ⟨us, ks.zip ws⟩) (CR (CX P w) outer P w H s Q E) s
theorem FnA.mono {j k : Nat} {f : Addr} {ks : List Str} {sp : Sp} (F : FnA P w K mg base j f ks sp) (h : j ≤ k) : FnA P w K mg base k f ks sp := fun A outer s H us ws vs Q E hr => F A outer s H us ws vs Q E (hr.mono h)
theorem spD.imp {m m' : List D → T D} {vs : List V} {H : Hp} {Q : VK} {E : XK} (h : spD c K m' vs H Q E) (i : ∀ ds, m' ds ≠ .stuck → m ds = m' ds) : spD c K m vs H Q E := by
  obtain ⟨F, ds, j, g, r, q⟩ := h
  exact ⟨F, ds, j, g, r, by rw [i ds fun z => by rw [z] at q; exact q]; exact q⟩
/-- called with positional values; the defaults fill up -/
def posM (n : Nat) (m : List D → T D) (dds : List D) : List D → T D := fun ds => if ds.length = n then m (ds ++ dds) else .stuck
theorem FnA.pos {k : Nat} {f : Addr} {fd : FuncData} {ps : List Str} {ds : List Value} {dvs : List V} {dds : List D} {m : List D → T D} (n : Nat) (F : FnOk P w K mg base (CX P w) k f fd ps (spD c K m)) (hb : Binds K fd ps ds) (hd : Vals dvs ds) (hdd : ∀ F, Dats c K F dvs dds) :
    FnA P w K mg base k f [] (spD c K (posM n m dds)) := by
  intro A outer s H us ws vs Q E hr e0 r hl ⟨F', es, j, g, rd, h⟩
  cases ws with
  | cons _ _ => cases hl
  | nil =>
    rw [List.append_nil] at r
    unfold posM at h
    split at h
    · have hsp : spD c K m (vs ++ dvs) H Q E := ⟨F', es ++ dds, j, g, rd.append (hdd F'), h⟩
      have r2 := r.append hd
      refine F.run A outer s H ⟨us, []⟩ (us ++ ds) (vs ++ dvs) Q E hr e0 (hb s us (e0.mod.kin.keeps fun b o e => (e0.bs b o e).1) ?_) r2 hsp
      rw [← r2.length]
      exact F.len _ _ _ _ hsp
    · exact h.elim
/-- called with keywords: gD puts the values in order -/
def kwM (n l : Nat) (m : List D → T D) (gD : List D → List D → List D) : List D → T D := fun ds => if ds.length = n + l then m (gD (ds.take n) (ds.drop n)) else .stuck
theorem Vals.unappend : ∀ {us ws : List Value} {vs : List V}, Vals vs (us ++ ws) → Vals (vs.take us.length) us ∧ Vals (vs.drop us.length) ws
  | [], _, _, h => ⟨.nil, h⟩
  | _ :: _, _, _, .cons r t => ⟨.cons r (Vals.unappend t).1, (Vals.unappend t).2⟩
theorem FnA.kw {k : Nat} {f : Addr} {fd : FuncData} {ps ks : List Str} {m : List D → T D} {g : List Value → List Value → List Value} {gV : List V → List V → List V} {gD : List D → List D → List D} (n : Nat) (F : FnOk P w K mg base (CX P w) k f fd ps (spD c K m)) (hb : KBn K fd ps n ks g gV)
    (hg : ∀ {F : Hp} {vs zs : List V} {ds es : List D}, Dats c K F vs ds → Dats c K F zs es → Dats c K F (gV vs zs) (gD ds es)) : FnA P w K mg base k f ks (spD c K (kwM n ks.length m gD)) := by
  intro A outer s H us ws vs Q E hr e0 r hl ⟨F', ds, j, gd, rd, h⟩
  unfold kwM at h
  split at h
  · rename_i hn
    have e1 : us.length = n := by
      have := r.length
      rw [rd.length, hn, List.length_append] at this
      omega
    obtain ⟨r1, r2⟩ := Vals.unappend r
    rw [e1] at r1 r2
    have r3 := hb.rel r1 r2
    have kin := e0.mod.kin.keeps fun b o e => (e0.bs b o e).1
    exact F.run A outer s H ⟨us, ks.zip ws⟩ (g us ws) (gV (vs.take n) (vs.drop n)) Q E hr e0 (hb.to s us ws kin e1 hl) r3 ⟨F', _, j, gd, hg (rd.take n) (rd.drop n), h⟩
  · exact h.elim
end
theorem tA.seqE {c : Ct} {K : PySem.W.Frag} {W : WX} {F H : Hp} {σ : L2.St} {j : Nat} {E : Nat → Xc → Prop} {α : Type} {m : Gm → T (List D)} {γ : Gm} {f : List D → T α} {P : Nat → α → Prop} {Q : List V → Hp → Prop} (hE : ∀ j e, E j e → pX c K W F H σ j e) (g : Good c F H j) (en : EnvOk c K F H σ γ) (h : ((m γ).bind f).All j P E)
    (k : ∀ j' x F' H' vs, Ext c F H F' H' → Good c F' H' j' → EnvOk c K F' H' σ γ → Dats c K F' vs x → (f x).All j' P E → Q vs H') : tA c K W m σ H Q :=
  ⟨F, γ, j, g, en, (T.All.bind h).imp (fun j' x hx F' H' v e g' r => k j' x F' H' v e g' (en.ext e) r hx) hE⟩
/-! ### the arguments of a call -/
structure DC (X : Cx) (c : Ct) (W : WX) (args : List Expr) (kws : List Keyword) (ks : List Str) (m : Gm → T (List D)) : Prop where
  run : ∀ (pos : Pos) (f : Value) (first : List Value) (pins : List (Addr × Obj)) (s : Shared) (σ : L2.St) (H : Hp) (γ : Gm) (F : Hp) (j : Nat) (g : List D → T RV) (P : Nat → RV → Prop) (R : Value → Shared → Prop), PySem.W.keepIn X.K f = true → Inv X pins σ H s → Good c F H j → EnvOk c X.K F H σ γ →
    ((m γ).bind g).All j P (pX c X.K W F H σ) →
    (∀ j' ds F' H' s1 us ws vs, Inv X pins σ H' s1 → Ext c F H F' H' → Good c F' H' j' → EnvOk c X.K F' H' σ γ → Vals vs (us ++ ws) → ws.length = ks.length → Dats c X.K F' vs ds → (g ds).All j' P (pX c X.K W F H σ) →
      wpAny (model X.prog X.w) X.A (call f (first ++ us) (ks.zip ws)) R X.xe s1) →
    wpAny (model X.prog X.w) X.A (callWith pos f first (backTo pos (starEach args X.env)) (backToKw pos (keywordEach kws X.env))) R X.xe s
section
variable {X : Cx} {c : Ct} {W : WX} {e : Expr} {es : List Expr} {kws : List Keyword} {ms mk : Gm → T (List D)} {m : Gm → T RV} {pos : Pos}
theorem dc_nil : DC X c W [] [] [] aNil := ⟨fun pos f first pins s σ H γ F j g P R hk I gd en h k => PySem.W.callWith_K0 I.kIn hk (by
  have := k j [] F H s [] [] [] I .refl gd en .nil rfl .nil h
  simpa using this)⟩
theorem dc_pos (ha : DA X c W (e :: es) ms) (he : starEach (e :: es) X.env = (false, eval e X.env) :: starEach es X.env := by rfl) (hpl : ∀ pos, (backTo pos (starEach es X.env)).any (·.1) = false := by intro _; rfl) : DC X c W (e :: es) [] [] ms :=
  ⟨fun pos f first pins s σ H γ F j g P R hk I gd en h k => PySem.W.callWith_K (h₀ := X.base) I.ok.mod.kin hk (thn (ha.pa.run pos pins s σ H (fun vs H1 => ∃ F' j' ds, Ext c F H F' H1 ∧ Good c F' H1 j' ∧ EnvOk c X.K F' H1 σ γ ∧ Dats c X.K F' vs ds ∧ (g ds).All j' P (pX c X.K W F H σ)) I
    (tA.seq gd en h fun j' ds F' H' vs e' g' en' r h' => ⟨F', j', ds, e', g', en', r, h'⟩)) fun us s1 ⟨vs, H1, I1, r, F', j', ds, e', g', en', rd, h'⟩ => ⟨I1.kIn, k j' ds F' H1 s1 us [] vs I1 e' g' en' (by rw [List.append_nil]; exact r) rfl rd h'⟩) he (hpl pos)⟩
theorem dc_star2 (ha : DA X c W (e :: es) ms) (he : starEach (e :: es) X.env = (false, eval e X.env) :: starEach es X.env := by rfl) (hpl : ∀ pos, (backTo pos (starEach es X.env)).any (·.1) = true := by intro _; rfl) : DC X c W (e :: es) [] [] ms :=
  ⟨fun pos f first pins s σ H γ F j g P R hk I gd en h k => PySem.W.callWith_S2 (h₀ := X.base) I.ok.mod.kin hk (thn (ha.pa.run pos pins s σ H (fun vs H1 => ∃ F' j' ds, Ext c F H F' H1 ∧ Good c F' H1 j' ∧ EnvOk c X.K F' H1 σ γ ∧ Dats c X.K F' vs ds ∧ (g ds).All j' P (pX c X.K W F H σ)) I
    (tA.seq gd en h fun j' ds F' H' vs e' g' en' r h' => ⟨F', j', ds, e', g', en', r, h'⟩)) fun us s1 ⟨vs, H1, I1, r, F', j', ds, e', g', en', rd, h'⟩ => ⟨I1.kIn, k j' ds F' H1 s1 us [] vs I1 e' g' en' (by rw [List.append_nil]; exact r) rfl rd h'⟩) he (hpl pos)⟩
def aStar1 (m : Gm → T RV) : Gm → T (List D) := fun γ => (m γ).bind seqOf
theorem dc_star1 {p : Pos} (ha : DE X c W e m) (hst : starEach [.Starred e p] X.env = [(true, eval e X.env)] := by rfl) : DC X c W [.Starred e p] [] [] (aStar1 m) := by
  refine ⟨fun pos f first pins s σ H γ F j g P R hk I gd en h k => ?_⟩
  have h : ((m γ).bind fun x => (seqOf x).bind g).All j P (pX c X.K W F H σ) := by
    unfold aStar1 at h
    rw [T.bind_assoc] at h
    exact h
  refine PySem.W.callWith_S (h₀ := X.base) I.ok.mod.kin hk (thn (ha.pe.run pins s σ H (fun v H1 => ∃ F' j' ds a vs, v = .ref a ∧ (SqT X.K H1 a vs ∨ SqL X.K H1 a vs) ∧ Ext c F H F' H1 ∧ Good c F' H1 j' ∧ EnvOk c X.K F' H1 σ γ ∧ Dats c X.K F' vs ds ∧ (g ds).All j' P (pX c X.K W F H σ)) I
    (tE.seq gd en h fun j' x F' H' v e' g' en' r h' => ?_)) fun v s1 ⟨y, H1, I1, ry, F', j', ds, a, vs, ey, hq, e', g', en', rd, h'⟩ => ?_) hst
  · obtain ⟨a, vs, ds, e1, hq, hd, h2⟩ := r.seq g'.sub (T.All.bind h')
    exact ⟨F', j', ds, a, vs, e1, hq, e', g', en', hd, h2⟩
  · subst ey
    obtain rfl : v = Value.ref a := ry
    exact StX.star_any I1 hq fun us s2 I2 rv => ⟨I2.kIn, k j' ds F' H1 s2 us [] vs I2 e' g' en' (by rw [List.append_nil]; exact rv) rfl rd h'⟩
/-- keywords -/
structure DK (X : Cx) (c : Ct) (W : WX) (kws : List Keyword) (m : Gm → T (List D)) : Prop where
  pk : PK X kws (tA c X.K W m)
theorem _root_.L2.PK.imp {t t' : TA} (h : PK X kws t) (i : ∀ σ H Q, t' σ H Q → t σ H Q) : PK X kws t' := ⟨fun pos pins s σ H Q I q => h.run pos pins s σ H Q I (i σ H Q q)⟩
theorem dk_nil : DK X c W [] aNil := ⟨pk_nil.imp fun σ H Q ⟨F, γ, j, g, en, h⟩ => h F H [] .refl g .nil⟩
theorem dk_cons {nm : Option Str} {kpos : Pos} (ha : DE X c W e m) (hr : DK X c W kws ms) : DK X c W (⟨nm, e, kpos⟩ :: kws) (aCons m ms) := by
  refine ⟨(pk_cons ha.pe hr.pk).imp fun σ H Q ⟨F, γ, j, g, en, h⟩ => ?_⟩
  refine tE.seq g en h fun j1 x F1 H1 v e1 g1 en1 r1 h1 => ?_
  obtain ⟨d, rfl, hd, h2⟩ := r1.asD (T.All.bind h1)
  refine tA.seq g1 en1 (T.All.imp h2 (fun _ _ z => z) fun _ _ z => z.ext e1) fun j2 ds F2 H2 vs e2 g2 en2 r2 h3 => ?_
  exact h3 F2 H2 _ (e1.trans e2) g2 (.cons (hd.mono e2.up) r2)
def aApp (n : Nat) (ms mk : Gm → T (List D)) : Gm → T (List D) := fun γ => (ms γ).bind fun ds => (mk γ).bind fun es => if es.length = n then .ok (ds ++ es) else .stuck
def aKw (n : Nat) (mk : Gm → T (List D)) : Gm → T (List D) := fun γ => (mk γ).bind fun es => if es.length = n then .ok es else .stuck
theorem dc_kw {ks : List Str} (ha : DA X c W (e :: es) ms) (hkw : DK X c W kws mk) (hks : ∀ pos, (backToKw pos (keywordEach kws X.env)).filterMap (·.1) = ks := by intro _; rfl) (hall : ∀ pos, (backToKw pos (keywordEach kws X.env)).all (·.1.isSome) = true := by intro _; rfl)
    (he : starEach (e :: es) X.env = (false, eval e X.env) :: starEach es X.env := by rfl)
    (hpl : ∀ pos, ((backTo pos (starEach (e :: es) X.env)).any (·.1) || (backToKw pos (keywordEach kws X.env)).any (·.1.isNone)) = false := by intro _; rfl) : DC X c W (e :: es) kws ks (aApp ks.length ms mk) := by
  refine ⟨fun pos f first pins s σ H γ F j g P R hk I gd en h k => ?_⟩
  have h : ((ms γ).bind fun ds => (mk γ).bind fun es => if es.length = ks.length then g (ds ++ es) else .stuck).All j P (pX c X.K W F H σ) := by
    unfold aApp at h
    rw [T.bind_assoc] at h
    have e : (fun a => T.bind ((mk γ).bind fun es => if es.length = ks.length then T.ok (a ++ es) else .stuck) g) = fun ds => (mk γ).bind fun es => if es.length = ks.length then g (ds ++ es) else .stuck := funext fun x => by
      rw [T.bind_assoc]
      congr 1
      funext y
      split <;> rfl
    rw [e] at h
    exact h
  refine PySem.W.callWith_KW (h₀ := X.base) I.ok.mod.kin hk (hall pos) (thn (ha.pa.run pos pins s σ H (fun vs H1 => ∃ F' j' ds, Ext c F H F' H1 ∧ Good c F' H1 j' ∧ EnvOk c X.K F' H1 σ γ ∧ Dats c X.K F' vs ds ∧ ((mk γ).bind fun es => if es.length = ks.length then g (ds ++ es) else .stuck).All j' P (pX c X.K W F H σ)) I
    (tA.seq gd en h fun j' ds F' H' vs e' g' en' r h' => ⟨F', j', ds, e', g', en', r, h'⟩)) fun us s1 ⟨vs, H1, I1, r, F', j', ds, e', g', en', rd, h'⟩ => ?_) (hpl pos) he
  refine thn (hkw.pk.run pos pins s1 σ H1 (fun zs H2 => ∃ F2 j2 es, Ext c F' H1 F2 H2 ∧ Good c F2 H2 j2 ∧ EnvOk c X.K F2 H2 σ γ ∧ Dats c X.K F2 zs es ∧ es.length = ks.length ∧ (g (ds ++ es)).All j2 P (pX c X.K W F H σ)) I1
    (tA.seqE (f := fun es => if es.length = ks.length then g (ds ++ es) else .stuck) (fun _ _ z => z.ext e') g' en' h' fun j2 es F2 H2 zs e2 g2 en2 r2 h2 => ?_)) fun ws s2 ⟨zs, H2, I2, rz, F2, j2, es, e2, g2, en2, r2, hl, h2⟩ => ⟨I2.kIn, ?_⟩
  · split at h2
    · rename_i hl
      exact ⟨F2, j2, es, e2, g2, en2, r2, hl, h2⟩
    · exact h2.elim
  · rw [hks]
    exact k j2 _ F2 H2 s2 us ws (vs ++ zs) I2 (e'.trans e2) g2 en2 (r.append rz) (by rw [← rz.length, r2.length]; exact hl) ((rd.mono e2.up).append r2) h2
theorem dc_kw0 {ks : List Str} (hkw : DK X c W kws mk) (hks : ∀ pos, (backToKw pos (keywordEach kws X.env)).filterMap (·.1) = ks := by intro _; rfl) (hall : ∀ pos, (backToKw pos (keywordEach kws X.env)).all (·.1.isSome) = true := by intro _; rfl)
    (hpl : ∀ pos, ((backTo pos (starEach [] X.env)).any (·.1) || (backToKw pos (keywordEach kws X.env)).any (·.1.isNone)) = false := by intro _; rfl) : DC X c W [] kws ks (aKw ks.length mk) := by
  refine ⟨fun pos f first pins s σ H γ F j g P R hk I gd en h k => ?_⟩
  have h : ((mk γ).bind fun es => if es.length = ks.length then g es else .stuck).All j P (pX c X.K W F H σ) := by
    unfold aKw at h
    rw [T.bind_assoc] at h
    have e : (fun a : List D => T.bind (if a.length = ks.length then T.ok a else .stuck) g) = fun es => if es.length = ks.length then g es else .stuck := funext fun x => by split <;> rfl
    rw [e] at h
    exact h
  refine PySem.W.callWith_KW0 (h₀ := X.base) I.ok.mod.kin hk (hall pos) (thn (hkw.pk.run pos pins s σ H (fun zs H2 => ∃ F2 j2 es, Ext c F H F2 H2 ∧ Good c F2 H2 j2 ∧ EnvOk c X.K F2 H2 σ γ ∧ Dats c X.K F2 zs es ∧ es.length = ks.length ∧ (g es).All j2 P (pX c X.K W F H σ)) I
    (tA.seq gd en h fun j2 es F2 H2 zs e2 g2 en2 r2 h2 => ?_)) fun ws s2 ⟨zs, H2, I2, rz, F2, j2, es, e2, g2, en2, r2, hl, h2⟩ => ⟨I2.kIn, ?_⟩) (hpl pos)
  · split at h2
    · rename_i hl
      exact ⟨F2, j2, es, e2, g2, en2, r2, hl, h2⟩
    · exact h2.elim
  · rw [hks]
    exact k j2 _ F2 H2 s2 [] ws zs I2 e2 g2 en2 rz (by rw [← rz.length, r2.length]; exact hl) r2 h2
end
end DL
namespace DL
open PySem PySem.Spec L2
open PyProof.Rows
section
variable {X : Cx} {c : Ct} {W : WX} {e o : Expr} {args es : List Expr} {kws : List Keyword} {ks : List Str} {ms : Gm → T (List D)} {m mo : Gm → T RV} {pos p apos : Pos} {mf : List D → T D} {x : Str} {f : Addr} {k : Nat}
/-- the callee runs -/
theorem run_A {pins : List (Addr × Obj)} {σ : L2.St} {H : Hp} {s : Shared} {Q : VK} {us ws : List Value} {vs : List V} {sp : Sp} (F : FnA X.prog X.w X.K X.mg X.base k f ks sp) (hr : Room k X.A) (tk : Takes X W) (I : Inv X pins σ H s) (r : Vals vs (us ++ ws)) (hl : ws.length = ks.length) (h : sp vs H Q (fun cls d H' => W cls d σ H')) :
    wpAny (model X.prog X.w) X.A (call (.ref f) us (ks.zip ws)) (EP X pins σ Q) X.xe s := by
  refine wpAny_call (codeAny_mono (F X.A X.stack s H us ws vs Q _ hr I.env0 r hl h) fun r s' hq => ?_)
  cases r with
  | error e => exact tk e s' (XE.of_call I (fun _ _ _ z => z) hq)
  | ok fl =>
    cases fl with
    | ret u => exact I.after hq
    | next => exact False.elim hq
    | brk => exact False.elim hq
    | cont => exact False.elim hq
def mCall (mf : List D → T D) (ms : Gm → T (List D)) : Gm → T RV := fun γ => (ms γ).bind fun ds => (mf ds).bind fun d => okV d
/-- what the promise asks, out of what is wanted -/
theorem spD_of {F0 H0 F H : Hp} {j : Nat} {σ : L2.St} {Q : VK} {vs : List V} {ds : List D} (ex : Ext c F0 H0 F H) (g : Good c F H j) (r : Dats c X.K F vs ds) (h : ((mf ds).bind fun d => okV d).All j (pE c X.K F0 H0 Q) (pX c X.K W F0 H0 σ)) :
    spD c X.K mf vs H Q (fun cls d H' => W cls d σ H') :=
  ⟨F, ds, j, g, r, (T.All.bind h).imp (fun j' d q F' H' v e g' rd => q F' H' v (ex.trans e) g' rd) fun j' x q F' H' d e g' qd => q F' H' d (ex.trans e) g' (qd.low ex)⟩
/-- x(..), x a def of the module -/
theorem de_call (F : FnA X.prog X.w X.K X.mg X.base k f ks (spD c X.K mf)) (hr : Room k X.A) (tk : Takes X W) (hm : X.mg x = some (.ref f)) (hk : PySem.W.keepIn X.K (.ref f) = true) (ha : DC X c W args kws ks ms) (hg : Gl X x := by rfl) (hdb : (x == ("__debug__" : Str)) = false := by decide) :
    DE X c W (.Call (.Name x p) args kws pos) (mCall mf ms) := by
  refine ⟨⟨fun pins s σ H Q I ⟨F0, γ, j, gd, en, h⟩ => ?_⟩⟩
  refine wpAny_Call_Name_kw (ld_glob I hg hm ?_ hdb)
  exact ha.run pos (.ref f) [] pins s σ H γ F0 j _ _ _ hk I gd en h fun j' ds F' H' s1 us ws vs I1 e' g' en' r hl rd h' => run_A F hr tk I1 r hl (spD_of e' g' rd h')
/-! ### methods: a table by the class -/
def methM (tbl : List (Nat × (List D → T D))) (ds : List D) : T D := match ds with
  | .ins n gs :: _ => (match tbl.lookup n with | some mf => mf ds | none => .stuck)
  | _ => .stuck
def recv (nm : Str) (tbl : List (Nat × (List D → T D))) (d : D) : T Unit := match d with
  | .ins n gs => (match gs.lookup nm, tbl.lookup n with
    | none, some _ => T.ok ()
    | _, _ => T.stuck)
  | _ => T.stuck
def mMeth (nm : Str) (tbl : List (Nat × (List D → T D))) (mo : Gm → T RV) (ms : Gm → T (List D)) : Gm → T RV := fun γ => (mo γ).bind fun x => (asD x).bind fun d => (recv nm tbl d).bind fun _ => (ms γ).bind fun ds => (methM tbl (d :: ds)).bind fun d => okV d
/-- the method m of the classes in the table -/
def MethOk (X : Cx) (c : Ct) (k : Nat) (m : Str) (ks : List Str) (tbl : List (Nat × (List D → T D))) : Prop :=
  ∀ p ∈ tbl, Cls X.K (c.cA p.1) ∧ ∃ f, Meth X.K (c.cA p.1) m f ∧ FnA X.prog X.w X.K X.mg X.base k f ks (spD c X.K p.2)
theorem lookup_mem {α : Type} {n : Nat} {y : α} : ∀ {l : List (Nat × α)}, l.lookup n = some y → (n, y) ∈ l
  | [], h => by cases h
  | (a, b) :: l, h => by
    simp only [List.lookup_cons] at h
    split at h
    · rename_i e
      have := eq_of_beq e
      subst this
      cases h
      exact .head _
    · exact .tail _ (lookup_mem h)
theorem de_meth {nm : Str} {pl : Sem Bool} {tbl : List (Nat × (List D → T D))} (M : MethOk X c k nm ks tbl) (hr : Room k X.A) (tk : Takes X W) (ho : DE X c W o mo) (ha : DC X c W args kws ks ms)
    (ht : eval (.Call (.Attribute o nm apos) args kws pos) X.env = (do
      let ov ← eval o X.env
      standAt apos.atName
      let (f, first) ← holding [ov] (getMethod ov nm pl)
      callWith pos f first (backTo pos (starEach args X.env)) (backToKw pos (keywordEach kws X.env))) := by rfl) :
    DE X c W (.Call (.Attribute o nm apos) args kws pos) (mMeth nm tbl mo ms) := by
  refine ⟨⟨fun pins s σ H Q I ⟨F0, γ, j, gd, en, h⟩ => ?_⟩⟩
  refine PySem.W.methodCall_KW (pl := pl) (thn (ho.pe.run pins s σ H (fun v H1 => ∃ F1 j1 n gs a dx fs, Ext c F0 H F1 H1 ∧ Good c F1 H1 j1 ∧ EnvOk c X.K F1 H1 σ γ ∧ v = .ref a ∧ F1 a = some (.ins (c.cA n) dx fs) ∧ DatF c X.K F1 fs gs ∧ gs.lookup nm = none ∧ (∃ mf, tbl.lookup n = some mf) ∧
      ((ms γ).bind fun ds => (methM tbl (.ins n gs :: ds)).bind fun d => okV d).All j1 (pE c X.K F0 H Q) (pX c X.K W F0 H σ)) I
    (tE.seq gd en h fun j1 x F1 H1 v e1 g1 en1 r1 h1 => ?_)) fun u s1 ⟨v, H1, I1, rv, F1, j1, n, gs, a, dx, fs, e1, g1, en1, ev, ha1, hd1, hl1, ⟨mf, hmf⟩, h1⟩ => ?_) ht
  · obtain ⟨d, rfl, hd, h2⟩ := r1.asD (T.All.bind h1)
    have h2 := T.All.bind h2
    unfold recv at h2
    cases hd with
    | @ins a dx n fs gs q1 q2 =>
      dsimp only at h2
      cases q3 : gs.lookup nm with
      | some _ => rw [q3] at h2; exact h2.elim
      | none =>
        rw [q3] at h2
        cases q4 : tbl.lookup n with
        | none => rw [q4] at h2; exact h2.elim
        | some mf =>
          rw [q4] at h2
          exact ⟨F1, j1, n, gs, a, dx, fs, e1, g1, en1, rfl, q1, q2, q3, ⟨mf, q4⟩, h2⟩
    | _ => exact h2.elim
  · subst ev
    obtain rfl : u = Value.ref a := rv
    obtain ⟨hc, f, hf, FA⟩ := M _ (lookup_mem hmf)
    refine getmeth_ok I1 (g1.sub _ _ ha1) hc hf (hd1.look_none hl1) ?_
    refine ha.run pos (.ref f) [.ref a] pins s1 σ H1 γ F1 j1 (fun ds => (methM tbl (.ins n gs :: ds)).bind fun d => okV d) (pE c X.K F0 H Q) _ hf.kp I1 g1 en1 (T.All.imp h1 (fun _ _ z => z) fun _ _ z => z.ext e1) fun j' ds F' H' s2 us ws vs I2 e' g' en' r hl rd h' => ?_
    have rd2 : Dats c X.K F' (.ref a :: vs) (.ins n gs :: ds) := .cons (.ins (e'.up _ _ ha1) (hd1.mono e'.up)) rd
    have h' : ((mf (.ins n gs :: ds)).bind fun d => okV d).All j' (pE c X.K F0 H Q) (pX c X.K W F1 H1 σ) := by
      have h'' := h'
      unfold methM at h''
      dsimp only at h''
      rw [hmf] at h''
      exact h''
    refine run_A (us := .ref a :: us) (vs := .ref a :: vs) FA hr tk I2 (.cons rfl r) hl ?_
    exact ⟨F', _, j', g', rd2, (T.All.bind h').imp (fun j2 d q F2 H2 v e2 g2 rd => q F2 H2 v (e1.trans (e'.trans e2)) g2 rd) fun j2 x q F2 H2 d e2 g2 qd => q F2 H2 d (e'.trans e2) g2 (qd.low e')⟩
end
end DL
namespace DL
open PySem PySem.Spec L2
open PyProof.Rows
/-! ### __init__: an object of one's own is filled -/
def spI (c : Ct) (K : PySem.W.Frag) (n : Nat) (m : List D → T (List (Str × D))) : Sp := fun vs H Q E => ∃ F H1 ds j a dx ws, vs = .ref a :: ws ∧ Good c F H1 j ∧ H1 a = none ∧ H1 dx = none ∧ dx ≠ a ∧ H = upd (upd H1 dx (.own a)) a (.ins (c.cA n) dx []) ∧ Dats c K F ws ds ∧ (m ds).All j
  (fun j' gs => ∀ F' H' dx' fs, Ext c F H1 F' H' → Good c F' H' j' → F' a = none → H' a = some (.ins (c.cA n) dx' fs) → DatF c K F' fs gs → Q .non H')
  (fun j' e => ∀ F' H' d, Ext c F H1 F' H' → Good c F' H' j' → XdOk c K H1 F' H' d e → E (.ref (c.cA e.c)) (some d) H')
def initB (n N cl : Nat) (mb : Gm → T Fl) : List D → T (List (Str × D)) := fun ds => if ds.length = n then (mb (SV.obj cl [] :: (ds.map SV.val ++ List.replicate (N - n) SV.no))).bind fun fl => (match fl with
  | .nx γ => (match (γ[0]? : Option SV) with
    | some (SV.obj k gs) => if k = cl then T.ok gs else T.stuck
    | _ => T.stuck)
  | _ => T.stuck) else T.stuck
theorem initB_len {n N cl : Nat} {mb : Gm → T Fl} {ds : List D} {j : Nat} {P : Nat → List (Str × D) → Prop} {E : Nat → Xc → Prop} (h : (initB n N cl mb ds).All j P E) : ds.length = n := by
  unfold initB at h
  split at h
  · assumption
  · exact h.elim
section
variable {P : Program} {w : World} {K : PySem.W.Frag} {mg : Str → Option Value} {base : Heap} {c : Ct}
theorem start_cons {N : List Str} {x : Str} {v : V} {vs : List V} : L2.start (x :: N) (v :: vs) = some v :: L2.start N vs := by
  unfold L2.start
  simp
theorem fnI {x qual self : Str} {params : Arguments} {body : List Stmt} {scope : Scope} {dvs : List V} {kws : List (Str × V)} {f : Addr} {fd : FuncData} {N ps : List Str} {k cl : Nat} {mb : Gm → T Fl} (F : FunD K x qual params body scope dvs kws f fd) (S : FnScope (self :: N) (self :: ps) scope) (hl : ps.length ≤ N.length)
    (hb : ∀ (cdv : Value) (A : Around) (outer : List Env) (s : Shared) (H : Hp) (E : XK), fd.code = cdv → Room k (A.deeper (envOfC qual scope s.heap.objs.size f cdv)) →
      DSs (cxOf (CX P w) P w K mg base (self :: N) qual scope f cdv A outer s H E) c (fun cls d _ H => E cls d H) body mb) :
    FnOk P w K mg base (CX P w) (k + 1) f fd (self :: ps) (spI c K cl (initB ps.length N.length cl mb)) := by
  refine fun_ok F S (fun vs H Q E ⟨F, H1, ds, j, a, dx, ws, ev, g, _, _, _, _, r, h⟩ => by rw [ev, List.length_cons, List.length_cons, r.length, initB_len h]) fun cdv A outer s H vs Q E hcd hr ⟨F, H1, ds, j, a, dx, ws, ev, g, ha, hdx, nad, eH, r, h⟩ => ⟨_, (hb cdv A outer s H E hcd hr).ps, ?_⟩
  subst ev eH
  have hn := initB_len h
  unfold initB at h
  rw [if_pos hn] at h
  have np := g.nePen ha
  have npd := g.nePen hdx
  have fa : F a = none := g.fresh (o := .lst []) ha
  have fdx : F dx = none := g.fresh (o := .lst []) hdx
  have keep : ∀ b o, H1 b = some o → upd (upd H1 dx (.own a)) a (.ins (c.cA cl) dx []) b = some o := fun b o q => by
    rw [upd_ne (ne_of_none q ha), upd_ne (ne_of_none q hdx)]
    exact q
  have g2 : Good c F (upd (upd H1 dx (.own a)) a (.ins (c.cA cl) dx [])) j := by
    obtain ⟨g1, gp, gq, gt, gn⟩ := g
    exact ⟨fun b o q => keep b o (g1 b o q), gp, gq.keep fun b vs _ z => keep b _ z, tabs_keep gt (fun b o _ _ h => keep b o h) (fun _ _ h => tbl_upd .own (tbl_upd .ins h)), gn⟩
  have e2 : Ext c F H1 F (upd (upd H1 dx (.own a)) a (.ins (c.cA cl) dx [])) := ⟨fun _ _ q => q, fun b o _ _ q => keep b o q, fun b q => by
    cases y : H1 b with
    | none => exact absurd y q
    | some o => rw [keep b o y]; simp, fun _ q => .inl q⟩
  have en0 := env_start (H := upd (upd H1 dx (.own a)) a (.ins (c.cA cl) dx [])) (N := N) (by rw [hn]; exact hl) r
  have env : EnvOk c K F (upd (upd H1 dx (.own a)) a (.ins (c.cA cl) dx [])) (L2.start (self :: N) (.ref a :: ws)) (SV.obj cl [] :: (ds.map SV.val ++ List.replicate (N.length - ds.length) SV.no)) := by
    rw [start_cons]
    refine ⟨by simp [en0.len], fun i d q => ?_, fun i es q => ?_, fun i n gs q => ?_, fun x y o u b q1 o1 q2 o2 z1 z2 => ?_⟩
    · cases i with
      | zero => cases q
      | succ i => exact en0.val i d (by simpa using q)
    · cases i with
      | zero => cases q
      | succ i => exact en0.own i es (by simpa using q)
    · cases i with
      | zero => cases q; exact ⟨a, dx, [], rfl, np.1, np.2, fa, upd_same, .nil⟩
      | succ i => exact en0.obj i n gs (by simpa using q)
    · have zero : ∀ {x : Nat} {o : SV}, (SV.obj cl [] :: (ds.map SV.val ++ List.replicate (N.length - ds.length) SV.no))[x]? = some o → o.isOwn = true → x = 0 := fun {x o} q ho => by
        cases x with
        | zero => rfl
        | succ x =>
          rcases start_get (by simpa using q) with ⟨d', e, _⟩ | e <;> (rw [e] at ho; cases ho)
      rw [zero q1 o1, zero q2 o2]
  refine ⟨a, F, H1, F, _, j, ⟨g2, e2, by rw [← hn]; exact env, fun b o => ?_, fun b o => ?_⟩, (T.All.bind h).imp (fun j' fl hf => ?_) fun j' e he F' H' d σ ex g' q => he F' H' d ex g' q⟩
  · obtain ⟨i, o, q, ho, z⟩ := o
    rw [start_cons] at z
    cases i with
    | zero => cases z; exact ha
    | succ i =>
      rcases start_get (by simpa using q) with ⟨d', e, _⟩ | e <;> (rw [e] at ho; cases ho)
  · obtain ⟨i, n, gs, q, z⟩ := o
    rw [start_cons] at z
    cases i with
    | zero => cases z; rfl
    | succ i =>
      rcases start_get (by simpa using q) with ⟨d', e, _⟩ | e <;> cases e
  · cases fl with
    | nx γ =>
      intro σ F' H' s'
      dsimp only at hf
      split at hf
      · rename_i kk gs q
        split at hf
        · rename_i ek
          subst ek
          obtain ⟨a', dx', fs, h1, h2, h3, h4, h5, h6⟩ := s'.env.obj 0 kk gs q
          have ea := s'.obj a' ⟨0, kk, gs, q, h1⟩
          subst ea
          exact hf F' H' dx' fs s'.ext s'.gd h4 h5 h6
        · exact hf.elim
      · exact hf.elim
    | rt d => exact hf.elim
    | bk γ => exact hf.elim
    | ct γ => exact hf.elim
end
end DL
namespace DL
open PySem PySem.Spec L2
open PyProof.Rows
section
variable {P : Program} {w : World} {K : PySem.W.Frag} {mg : Str → Option Value} {base : Heap} {c : Ct}
/-- an __init__ called with positional values -/
def posI (n : Nat) (m : List D → T (List (Str × D))) (dds : List D) : List D → T (List (Str × D)) := fun ds => if ds.length = n then m (ds ++ dds) else .stuck
theorem FnA.posI {k cl : Nat} {f : Addr} {fd : FuncData} {ps : List Str} {ds : List Value} {dvs : List V} {dds : List D} {m : List D → T (List (Str × D))} (n : Nat) (F : FnOk P w K mg base (CX P w) k f fd ps (spI c K cl m)) (hb : Binds K fd ps ds) (hd : Vals dvs ds) (hdd : ∀ F, Dats c K F dvs dds) :
    FnA P w K mg base k f [] (spI c K cl (posI n m dds)) := by
  intro A outer s H us ws0 vs Q E hr e0 r hl ⟨F', H1, es, j, a, dx, ws, ev, g, h1, h2, h3, h4, rd, h⟩
  cases ws0 with
  | cons _ _ => cases hl
  | nil =>
    rw [List.append_nil] at r
    unfold DL.posI at h
    split at h
    · have hsp : spI c K cl m (vs ++ dvs) H Q E := ⟨F', H1, es ++ dds, j, a, dx, ws ++ dvs, by rw [ev]; rfl, g, h1, h2, h3, h4, rd.append (hdd F'), h⟩
      have r2 := r.append hd
      refine F.run A outer s H ⟨us, []⟩ (us ++ ds) (vs ++ dvs) Q E hr e0 (hb s us (e0.mod.kin.keeps fun b o e => (e0.bs b o e).1) ?_) r2 hsp
      rw [← r2.length]
      exact F.len _ _ _ _ hsp
    · exact h.elim
def kwI (n l : Nat) (m : List D → T (List (Str × D))) (gD : List D → List D → List D) : List D → T (List (Str × D)) := fun ds => if ds.length = n + l then m (gD (ds.take n) (ds.drop n)) else .stuck
theorem FnA.kwI {k cl : Nat} {f : Addr} {fd : FuncData} {ps ks : List Str} {m : List D → T (List (Str × D))} {g : List Value → List Value → List Value} {gV hV : List V → List V → List V} {gD : List D → List D → List D} (n : Nat) (F : FnOk P w K mg base (CX P w) k f fd ps (spI c K cl m)) (hb : KBn K fd ps (n + 1) ks g gV)
    (hgv : ∀ x vs zs, gV (x :: vs) zs = x :: hV vs zs) (hg : ∀ {F : Hp} {vs zs : List V} {ds es : List D}, Dats c K F vs ds → Dats c K F zs es → Dats c K F (hV vs zs) (gD ds es)) : FnA P w K mg base k f ks (spI c K cl (kwI n ks.length m gD)) := by
  intro A outer s H us ws vs Q E hr e0 r hl ⟨F', H1, ds, j, a, dx, xs, ev, gd, h1, h2, h3, h4, rd, h⟩
  unfold DL.kwI at h
  split at h
  · rename_i hn
    subst ev
    have e1 : us.length = n + 1 := by
      have := r.length
      rw [List.length_cons, rd.length, hn, List.length_append] at this
      omega
    obtain ⟨r1, r2⟩ := Vals.unappend r
    rw [e1] at r1 r2
    have r3 := hb.rel r1 r2
    have kin := e0.mod.kin.keeps fun b o e => (e0.bs b o e).1
    refine F.run A outer s H ⟨us, ks.zip ws⟩ (g us ws) _ Q E hr e0 (hb.to s us ws kin e1 hl) r3 ⟨F', H1, _, j, a, dx, hV (xs.take n) (xs.drop n), ?_, gd, h1, h2, h3, h4, hg (rd.take n) (rd.drop n), h⟩
    rw [List.take_succ_cons, List.drop_succ_cons, hgv]
  · exact h.elim
end
section
variable {X : Cx} {c : Ct} {W : WX} {e o : Expr} {args es : List Expr} {kws : List Keyword} {ks : List Str} {ms : Gm → T (List D)} {m mo : Gm → T RV} {pos p apos : Pos} {x : Str} {f C : Addr} {k cl : Nat} {mi : List D → T (List (Str × D))}
theorem run_mkA {pins : List (Addr × Obj)} {σ : L2.St} {H : Hp} {s : Shared} {Q : VK} {us ws : List Value} {vs : List V} {sp : Sp} (M : Mk X.K C f) (F : FnA X.prog X.w X.K X.mg X.base k f ks sp) (hr : Room (k + 1) X.A) (tk : Takes X W) (I : Inv X pins σ H s) (r : Vals vs (us ++ ws)) (hl : ws.length = ks.length)
    (h : ∀ x dx, H x = none → H dx = none → dx ≠ x → sp (.ref x :: vs) (upd (upd H dx (.own x)) x (.ins C dx [])) (fun v H2 => v = .non ∧ Q (.ref x) H2) (fun cls d H' => W cls d σ H')) :
    wpAny (model X.prog X.w) X.A (call (.ref C) us (ks.zip ws)) (EP X pins σ Q) X.xe s := by
  have hq := h (s.heap.objs.size + 1) s.heap.objs.size (I.hok.fresh (Nat.le_succ _)) (I.hok.fresh (Nat.le_refl _)) (Nat.ne_of_lt (Nat.lt_succ_self _))
  have I2 := Inv.made (C := C) I
  have r2 : Vals (V.ref (s.heap.objs.size + 1) :: vs) ((Value.ref (s.heap.objs.size + 1) :: us) ++ ws) := .cons rfl r
  refine wpAny_call (make_map (f := f) I.kIn M.makes M.init (beq_iff_eq.mp M.fn) (codeAny_mono (F _ X.stack _ _ (Value.ref (s.heap.objs.size + 1) :: us) ws _ _ _ (hr.make C us (ks.zip ws)) (I2.env0.make C us (ks.zip ws)) r2 hl hq) fun r s' hq' => ?_))
  cases r with
  | error e => exact tk e s' (XE.of_call I2 (fun _ _ _ z => z) hq')
  | ok fl =>
    cases fl with
    | ret u =>
      obtain ⟨v, H', I3, rv, ev, q3⟩ := I2.after hq'
      subst ev
      exact ⟨rv, ⟨V.ref (s.heap.objs.size + 1), H', I3, rfl, q3⟩⟩
    | next => exact False.elim hq'
    | brk => exact False.elim hq'
    | cont => exact False.elim hq'
def mMake (cl : Nat) (mi : List D → T (List (Str × D))) (ms : Gm → T (List D)) : Gm → T RV := fun γ => (ms γ).bind fun ds => (mi ds).bind fun gs => okV (.ins cl gs)
/-- C(..) -/
theorem de_make (M : Mk X.K (c.cA cl) f) (F : FnA X.prog X.w X.K X.mg X.base k f ks (spI c X.K cl mi)) (hr : Room (k + 1) X.A) (tk : Takes X W) (hm : X.mg x = some (.ref (c.cA cl))) (ha : DC X c W args kws ks ms) (hg : Gl X x := by rfl) (hdb : (x == ("__debug__" : Str)) = false := by decide) :
    DE X c W (.Call (.Name x p) args kws pos) (mMake cl mi ms) := by
  refine ⟨⟨fun pins s σ H Q I ⟨F0, γ, j, gd, en, h⟩ => ?_⟩⟩
  refine wpAny_Call_Name_kw (ld_glob I hg hm ?_ hdb)
  refine ha.run pos (.ref (c.cA cl)) [] pins s σ H γ F0 j _ _ _ M.kp I gd en h fun j' ds F' H' s1 us ws vs I1 e' g' en' r hl rd h' => ?_
  refine run_mkA M F hr tk I1 r hl fun a dx ha hdx nda => ?_
  refine ⟨F', H', ds, j', a, dx, vs, rfl, g', ha, hdx, nda, rfl, rd, (T.All.bind h').imp (fun j2 gs q F2 H2 dx2 fs e2 g2 hF hH hd => ⟨rfl, ?_⟩) fun j2 x q F2 H2 d e2 g2 qd => q F2 H2 d (e'.trans e2) g2 (qd.low e')⟩
  have np := g'.nePen ha
  have up : ∀ b o, F2 b = some o → upd F2 a (.ins (c.cA cl) dx2 fs) b = some o := fun b o h => by rw [upd_ne (fun z => by rw [z, hF] at h; cases h)]; exact h
  have e2' := e'.trans e2
  refine q (upd F2 a (.ins (c.cA cl) dx2 fs)) H2 _ ⟨fun b o z => up b o (e2'.up b o z), e2'.keep, e2'.there, fun b z => ?_⟩ ⟨fun b o z => ?_, fun hp => by rw [upd_ne (Ne.symm np.1)]; exact g2.pa hp, g2.pen, g2.tab, nt_upd g2.nt .ins⟩ (show Dat c X.K _ _ _ from .ins upd_same (hd.mono up))
  · by_cases y : b = a
    · right
      rw [y]
      cases w : H a with
      | none => rfl
      | some u => exact absurd ha (e'.there a (by rw [w]; simp))
    · rw [upd_ne y] at z; exact e2'.new b z
  · by_cases y : b = a
    · rw [y, upd_same] at z; cases z; rw [y]; exact hH
    · rw [upd_ne y] at z; exact g2.sub b o z
/-! ### built-ins of one argument -/
/-- a built-in's rule by values, as a function -/
def Bi (X : Cx) (c : Ct) (W : WX) (r : List V → Hp → VK → Prop) (g : RV → T RV) : Prop := ∀ (σ : L2.St) (H : Hp) (v : V) (Q : VK) (F : Hp) (j : Nat) (d : RV), Good c F H j → RDat c X.K F H v d → (g d).All j (pE c X.K F H Q) (pX c X.K W F H σ) → r [v] H Q
theorem de_b1 {id : String} {r : List V → Hp → VK → Prop} {g : RV → T RV} (hc : CallR X (.builtin id) r) (hr : Bi X c W r g) (hm : X.mg x = none) (hv : bootBuiltins x = some (.builtin id)) (ha : DE X c W e m) (hg : Gl X x := by rfl) (hs : starEach [e] X.env = [(false, eval e X.env)] := by rfl) (hn : x ≠ "__name__" := by decide)
    (hdb : (x == ("__debug__" : Str)) = false := by decide) : DE X c W (.Call (.Name x p) [e] [] pos) (mUn g m) := by
  refine ⟨(pe_callB hc hg hm hv (pa_cons ha.pe pa_nil hs) hn hdb hs rfl).imp fun σ H Q ⟨F, γ, j, gd, en, h⟩ => tE.seq gd en h fun j1 y F1 H1 v e1 g1 en1 r1 h1 => ?_⟩
  exact hr σ H1 v Q F1 j1 y g1 r1 (h1.imp (fun _ _ z => z.ext e1) fun _ _ z => z.ext e1)
theorem de_t1 {id : String} {r : List V → Hp → VK → Prop} {g : RV → T RV} (hc : CallR X (.type id) r) (hr : Bi X c W r g) (hm : X.mg x = none) (hv : bootBuiltins x = some (.type id)) (ha : DE X c W e m) (hg : Gl X x := by rfl) (hs : starEach [e] X.env = [(false, eval e X.env)] := by rfl) (hn : x ≠ "__name__" := by decide)
    (hdb : (x == ("__debug__" : Str)) = false := by decide) : DE X c W (.Call (.Name x p) [e] [] pos) (mUn g m) := by
  refine ⟨(pe_callTy hc hg hm hv (pa_cons ha.pe pa_nil hs) hn hdb hs rfl).imp fun σ H Q ⟨F, γ, j, gd, en, h⟩ => tE.seq gd en h fun j1 y F1 H1 v e1 g1 en1 r1 h1 => ?_⟩
  exact hr σ H1 v Q F1 j1 y g1 r1 (h1.imp (fun _ _ z => z.ext e1) fun _ _ z => z.ext e1)
def gLen (x : RV) : T RV := match x.d with
  | .lst ds => okV (.int ds.length)
  | .tup ds => okV (.int ds.length)
  | .str z => if z.length ≤ 1000000 then okV (.int z.length) else .stuck
  | _ => .stuck
theorem b_len : CallR X (.builtin "len") (fun xs H Q => (∃ p ys, xs = [.ref p] ∧ (SqL X.K H p ys ∨ SqT X.K H p ys) ∧ Q (.int ys.length) H) ∨ ∃ z, xs = [.str z] ∧ z.length ≤ sizeLine ∧ Q (.int z.length) H) := by
  intro pins s σ H xs us Q I r h
  rcases h with h | h
  · exact call_len_seq pins s σ H xs us Q I r h
  · exact call_len_str pins s σ H xs us Q I r h
theorem bi_len : Bi X c W (fun xs H Q => (∃ p ys, xs = [.ref p] ∧ (SqL X.K H p ys ∨ SqT X.K H p ys) ∧ Q (.int ys.length) H) ∨ ∃ z, xs = [.str z] ∧ z.length ≤ sizeLine ∧ Q (.int z.length) H) gLen := by
  intro σ H v Q F j d gd r h
  unfold gLen at h
  split at h
  · rename_i ds e
    obtain ⟨a, vs, rfl, h1, h2⟩ := r.lst gd.sub e
    exact .inl ⟨a, vs, rfl, .inl (SqL.of h1), by rw [h2.length]; exact h.val gd (.int _)⟩
  · rename_i ds e
    obtain ⟨a, vs, rfl, h1, _, h2⟩ := r.tup gd.sub e
    exact .inl ⟨a, vs, rfl, .inr h1, by rw [h2.length]; exact h.val gd (.int _)⟩
  · rename_i z e
    split at h
    · rename_i hl
      exact .inr ⟨z, by rw [r.str e], line_of hl, h.val gd (.int _)⟩
    · exact h.elim
  · exact h.elim
def gAbs (x : RV) : T RV := match x.d with
  | .int i => okV (.int (if i < 0 then -i else i))
  | _ => .stuck
theorem bi_abs : Bi X c W (fun xs H Q => ∃ i, xs = [.int i] ∧ Q (.int (if i < 0 then -i else i)) H) gAbs := by
  intro σ H v Q F j d gd r h
  unfold gAbs at h
  split at h
  · rename_i i e
    exact ⟨i, by rw [r.int e], h.val gd (.int _)⟩
  · exact h.elim
def gInt (x : RV) : T RV := match x.d with
  | .int i => okV (.int i)
  | .bl k => okV (.int (if k then 1 else 0))
  | _ => .stuck
theorem bi_int : Bi X c W (fun xs H Q => (∃ i, xs = [.int i] ∧ Q (.int i) H) ∨ ∃ k, xs = [.bl k] ∧ Q (.int (if k then 1 else 0)) H) gInt := by
  intro σ H v Q F j d gd r h
  unfold gInt at h
  split at h
  · rename_i i e
    exact .inl ⟨i, by rw [r.int e], h.val gd (.int _)⟩
  · rename_i i e
    exact .inr ⟨i, by rw [r.bl e], h.val gd (.int _)⟩
  · exact h.elim
def gList (x : RV) : T RV := match x.d with
  | .lst ds => okV (.lst ds)
  | .tup ds => okV (.lst ds)
  | _ => .stuck
theorem bi_list : Bi X c W (fun xs H Q => ∃ p ys, xs = [.ref p] ∧ (SqL X.K H p ys ∨ SqT X.K H p ys) ∧ ∀ l, H l = none → Q (.ref l) (upd H l (.lst ys))) gList := by
  intro σ H v Q F j d gd r h
  unfold gList at h
  split at h
  · rename_i ds e
    obtain ⟨a, vs, rfl, h1, h2⟩ := r.lst gd.sub e
    exact ⟨a, vs, rfl, .inl (SqL.of h1), h.lst gd h2⟩
  · rename_i ds e
    obtain ⟨a, vs, rfl, h1, _, h2⟩ := r.tup gd.sub e
    exact ⟨a, vs, rfl, .inr h1, h.lst gd h2⟩
  · exact h.elim
def gTuple (x : RV) : T RV := match x.d with
  | .lst ds => okV (.tup ds)
  | .tup ds => okV (.tup ds)
  | _ => .stuck
theorem bi_tuple : Bi X c W (fun xs H Q => ∃ p ys, xs = [.ref p] ∧ ((SqL X.K H p ys ∧ ∀ l, H l = none → Q (.ref l) (upd H l (.tup ys))) ∨ (SqT X.K H p ys ∧ Q (.ref p) H))) gTuple := by
  intro σ H v Q F j d gd r h
  unfold gTuple at h
  split at h
  · rename_i ds e
    obtain ⟨a, vs, rfl, h1, h2⟩ := r.lst gd.sub e
    exact ⟨a, vs, rfl, .inl ⟨SqL.of h1, h.tup gd h2⟩⟩
  · rename_i ds e
    obtain ⟨a, vs, rfl, h1, h3, h2⟩ := r.tup gd.sub e
    exact ⟨a, vs, rfl, .inr ⟨h1, h.val gd (.tup h3 h2)⟩⟩
  · exact h.elim
/-! ### lists of ints, of bools, of texts -/
def D.ints : List D → Option (List Int)
  | [] => some []
  | .int i :: ds => (D.ints ds).map (i :: ·)
  | _ :: _ => none
def D.bls : List D → Option (List Bool)
  | [] => some []
  | .bl i :: ds => (D.bls ds).map (i :: ·)
  | _ :: _ => none
def D.strs : List D → Option (List Str)
  | [] => some []
  | .str i :: ds => (D.strs ds).map (i :: ·)
  | _ :: _ => none
theorem Dats.ints {K : PySem.W.Frag} {F : Hp} : ∀ {vs : List V} {ds : List D} {ns : List Int}, Dats c K F vs ds → D.ints ds = some ns → vs = ns.map V.int
  | _, _, _, .nil, e => by cases e; rfl
  | _, .int i :: ds, _, .cons h r, e => by
    simp only [D.ints, Option.map_eq_some_iff] at e
    obtain ⟨ns, e1, rfl⟩ := e
    cases h
    rw [Dats.ints r e1]; rfl
theorem Dats.bls {K : PySem.W.Frag} {F : Hp} : ∀ {vs : List V} {ds : List D} {ns : List Bool}, Dats c K F vs ds → D.bls ds = some ns → vs = ns.map V.bl
  | _, _, _, .nil, e => by cases e; rfl
  | _, .bl i :: ds, _, .cons h r, e => by
    simp only [D.bls, Option.map_eq_some_iff] at e
    obtain ⟨ns, e1, rfl⟩ := e
    cases h
    rw [Dats.bls r e1]; rfl
theorem Dats.strs {K : PySem.W.Frag} {F : Hp} : ∀ {vs : List V} {ds : List D} {ns : List Str}, Dats c K F vs ds → D.strs ds = some ns → vs = ns.map V.str
  | _, _, _, .nil, e => by cases e; rfl
  | _, .str i :: ds, _, .cons h r, e => by
    simp only [D.strs, Option.map_eq_some_iff] at e
    obtain ⟨ns, e1, rfl⟩ := e
    cases h
    rw [Dats.strs r e1]; rfl
theorem dats_ints {K : PySem.W.Frag} {F : Hp} : ∀ ns : List Int, Dats c K F (ns.map V.int) (ns.map D.int)
  | [] => .nil
  | i :: ns => .cons (.int i) (dats_ints ns)
theorem dats_strs {K : PySem.W.Frag} {F : Hp} : ∀ ns : List Str, Dats c K F (ns.map V.str) (ns.map D.str)
  | [] => .nil
  | i :: ns => .cons (.str i) (dats_strs ns)
def lstD : D → Option (List D)
  | .lst ds => some ds
  | _ => none
def gSum (x : RV) : T RV := match (lstD x.d).bind D.ints with
  | some ns => okV (.int ns.sum)
  | none => .stuck
theorem lst_view {F H : Hp} {v : V} {x : RV} {α : Type} {f : List D → Option α} {y : α} (g : ∀ a o, F a = some o → H a = some o) (r : RDat c X.K F H v x) (h : (lstD x.d).bind f = some y) : ∃ a vs ds, v = .ref a ∧ H a = some (.lst vs) ∧ Dats c X.K F vs ds ∧ f ds = some y := by
  obtain ⟨ds, e1, e2⟩ := Option.bind_eq_some_iff.mp h
  have : x.d = .lst ds := by
    revert e1
    generalize x.d = d
    intro e1
    cases d <;> cases e1
    rfl
  obtain ⟨a, vs, h1, h2, h3⟩ := r.lst g this
  exact ⟨a, vs, ds, h1, h2, h3, e2⟩
theorem bi_sum : Bi X c W (rSum X.K) gSum := by
  intro σ H v Q F j d gd r h
  unfold gSum at h
  split at h
  · rename_i ns e
    obtain ⟨a, vs, ds, rfl, h1, h2, h3⟩ := lst_view gd.sub r e
    exact ⟨a, ns, rfl, by rw [← h2.ints h3]; exact SqL.of h1, h.val gd (.int _)⟩
  · exact h.elim
def gAny (x : RV) : T RV := match (lstD x.d).bind D.bls with
  | some ns => okV (.bl (ns.any id))
  | none => .stuck
theorem bi_any : Bi X c W (rAny X.K) gAny := by
  intro σ H v Q F j d gd r h
  unfold gAny at h
  split at h
  · rename_i ns e
    obtain ⟨a, vs, ds, rfl, h1, h2, h3⟩ := lst_view gd.sub r e
    exact ⟨a, ns, rfl, by rw [← h2.bls h3]; exact SqL.of h1, h.val gd (.bl _)⟩
  · exact h.elim
def gAll (x : RV) : T RV := match (lstD x.d).bind D.bls with
  | some ns => okV (.bl (ns.all id))
  | none => .stuck
theorem bi_all : Bi X c W (rAll X.K) gAll := by
  intro σ H v Q F j d gd r h
  unfold gAll at h
  split at h
  · rename_i ns e
    obtain ⟨a, vs, ds, rfl, h1, h2, h3⟩ := lst_view gd.sub r e
    exact ⟨a, ns, rfl, by rw [← h2.bls h3]; exact SqL.of h1, h.val gd (.bl _)⟩
  · exact h.elim
end
end DL
/-! DX0: an own exception over ValueError whose __init__ says super().__init__(..) and sets fields. -/
namespace DL
open PySem PySem.Spec L2
open PyProof.Rows
/-- the context of such an __init__ -/
def cxS (CX : CXT) (P : Program) (w : World) (K : PySem.W.Frag) (mg : Str → Option Value) (base : Heap) (N : List Str) (qual : Str) (scope : Scope) (f : Addr) (cd : Value) (cc : Addr) (A : Around) (outer : List Env) (s : Shared) (H : Hp) (E : XK) : Cx where
  prog := P
  w := w
  K := K
  mg := mg
  base := base
  A := A.deeper (PySem.W.ksEnv qual scope s.heap.objs.size f cd cc)
  N := N
  s_0 := s
  H_0 := H
  env := PySem.W.ksEnv qual scope s.heap.objs.size f cd cc
  outer := outer
  stack := PySem.W.ksEnv qual scope s.heap.objs.size f cd cc :: outer
  ex := []
  calm := true
  fn := fun _ => false
  pn := []
  xe := fun e s' => wpAny (model P w) (A.deeper (PySem.W.ksEnv qual scope s.heap.objs.size f cd cc)) (leaving (PySem.W.ksEnv qual scope s.heap.objs.size f cd cc) e) (fun _ s'' => CX outer H s E e s'') (fun e' s'' => CX outer H s E e' s'') s'
/-- names of such a def -/
structure SupScope (N : List Str) (sc : Scope) : Prop where
  kind : sc.kind = .function
  co : sc.isCoroutine = false
  gen : sc.isGenerator = false
  nd : N.Nodup
  par : ∀ x ∈ N, sc.names.lookup x = some .local
  nocell : ∀ y ∈ sc.names, y.2 ≠ .cell
  free : ∀ y, sc.names.lookup y = some .free → y = "__class__"
  cls : sc.names.lookup ("__class__" : Str) = some .free
  sup : sc.names.lookup ("super" : Str) = some .globalImplicit
/-- what the written part says of the class C and its __init__ at f -/
structure XInit (P : Program) (K : PySem.W.Frag) (C f : Addr) (qual : Str) (params : Arguments) (body : List Stmt) (scope : Scope) (fd : FuncData) (cda cc : Addr) : Prop where
  lk : ∃ oc od osl name dV kV doc pm an ct, fd = PySem.W.ksFn name qual params body scope dV kV doc pm an (.ref cda) ct cc ∧ K.lookup f = some ⟨oc, od, .func fd, osl⟩
  code : PySem.W.codeIn K (.ref cda) qual = true
  file : ∃ ccl cdd vs ccs file tf, K.lookup cda = some ⟨ccl, cdd, .fields vs, ccs⟩ ∧ vs[2]? = some (.str file tf) ∧ ((P.main.file : Str) == file) = true
  cell : ∃ cl cld csl, K.lookup cc = some ⟨cl, cld, .cell (some (.ref C)), csl⟩
  mro : PySem.W.mroIn K C (.ref C) = some true
  any : PySem.W.nsIn K cStatics "thirdparty.any" = some none
  sup : PySem.W.ks_superIn K C C "__init__" = some (some (.builtin "ValueError.__init__"))
  ve : PySem.W.subIn K (.ref C) (.type "ValueError") = some true
  oex : OexC K C
  top : (P.main.scope.names.lookup ("super" : Str)).isSome = false
section
variable {P : Program} {w : World} {K : PySem.W.Frag} {mg : Str → Option Value} {base : Heap}
theorem lookup_rev {ps : List Str} {us : List Value} (nd : ps.Nodup) {i : Nat} {x : Str} {u : Value} (h1 : ps[i]? = some x) (h2 : us[i]? = some u) : (ps.zip us).reverse.lookup x = some u := by
  induction ps generalizing us i with
  | nil => simp at h1
  | cons p ps ih =>
    cases us with
    | nil => simp at h2
    | cons v us =>
      rw [List.zip_cons_cons, List.reverse_cons]
      have app : ∀ (l : List (Str × Value)) (q : Str × Value) (y : Str), (l ++ [q]).lookup y = (match l.lookup y with | some z => some z | none => if y == q.1 then some q.2 else none) := by
        intro l q y
        induction l with
        | nil => obtain ⟨a, b⟩ := q; simp [List.lookup]; split <;> simp_all
        | cons r l ih =>
          obtain ⟨a, b⟩ := r
          simp only [List.cons_append, List.lookup_cons]
          split
          · rfl
          · exact ih
      rw [app]
      cases i with
      | zero =>
        simp at h1 h2
        subst h1 h2
        have : (ps.zip us).reverse.lookup p = none := by
          cases q : (ps.zip us).reverse.lookup p with
          | none => rfl
          | some z =>
            have := PySem.mem_of_lookup q
            rw [List.mem_reverse] at this
            exact absurd (List.of_mem_zip this).1 (List.nodup_cons.mp nd).1
        rw [this]
        simp
      | succ i =>
        rw [ih (List.nodup_cons.mp nd).2 (by simpa using h1) (by simpa using h2)]
theorem inv_sup {CX : CXT} {N : List Str} {qual : Str} {scope : Scope} {f cc C : Addr} {cd : Value} {A : Around} {outer : List Env} {s : Shared} {h₀ : Heap} {tk : Nat} {H : Hp} {E : XK} {us : List Value} {vs : List V}
    (S : SupScope N scope) (hd : A.handled = none) (e0 : Env0 P w K mg base A outer s H) (hl : vs.length = N.length) (r : Vals vs us) (hc : ∃ cl cld csl, K.lookup cc = some ⟨cl, cld, .cell (some (.ref C)), csl⟩)
    (hns : h₀.Ns s.heap.objs.size (fun x => (N.zip us).reverse.lookup x)) (hk : ∀ b o, s.heap.get? b = some o → h₀.get? b = some o) :
    Inv (cxS CX P w K mg base N qual scope f cd cc A outer s H E) [] (vs.map some) H { s with heap := h₀, toks := tk } := by
  obtain ⟨cl, cld, csl, hcc⟩ := hc
  have hb := e0.bs _ _ (e0.mod.kin _ _ hcc)
  have one : ∀ {x : Str} {c : Addr}, ([(("__class__" : Str), cc)] : List (Str × Addr)).lookup x = some c → x = "__class__" ∧ c = cc := fun {x c} h => by
    simp only [List.lookup_cons, List.lookup_nil] at h
    split at h
    · rename_i e
      exact ⟨eq_of_beq e, (Option.some.inj h).symm⟩
    · cases h
  have noA : ∀ b : Addr, b ∉ (cxS CX P w K mg base N qual scope f cd cc A outer s H E).ex := fun b z => absurd (show b ∈ ([] : List Addr) from z) (by simp)
  refine ⟨⟨e0.mod, S.kind, rfl, rfl, Nat.le_refl _, fun y z c h1 h2 => ?_, fun y hy => ?_, fun y c h _ => (Bool.false_ne_true h).elim, fun _ => hd, Around.frames_deeper e0.frames, .inr ⟨rfl, rfl⟩, fun b z => absurd z (noA b), e0.bs, e0.bsz, fun b _ _ => noA b, fun b z => absurd z (noA b), e0.funs, e0.frf⟩,
    rfl, e0.bare, Un.kept hk, ⟨_, hns, fun i y v h1 h2 h3 => ?_⟩, fun y c h => ?_, e0.hok.fresh (Nat.le_refl _), fun y c h => ?_, fun p hp => absurd (show p ∈ ([] : List (Addr × Obj)) from hp) (by simp), e0.hok.kept hk, ?_⟩
  · rw [(one h1).1, (one h2).1]
  · have hy : scope.names.lookup y = some .cell ∨ scope.names.lookup y = some .free := hy
    rcases hy with hy | hy
    · exact absurd rfl (S.nocell _ (PySem.mem_of_lookup hy))
    · rw [S.free y hy]
      exact ⟨cc, by simp [List.lookup, cxS]⟩
  · have ha : vs[i]? = some v := by
      rw [List.getElem?_map] at h2
      cases e : vs[i]? with
      | none => rw [e] at h2; cases h2
      | some a => rw [e] at h2; cases h2; rfl
    obtain ⟨u, hu, rv⟩ := r.get ha
    have h1 : N[i]? = some y := h1
    exact ⟨u, rv, .inl ⟨S.par y (List.mem_of_getElem? h1), lookup_rev S.nd h1 hu⟩⟩
  · obtain ⟨_, rfl⟩ := one h
    exact ⟨_, _, hk _ _ hb.1, rfl⟩
  · obtain ⟨_, rfl⟩ := one h
    exact hb.2
  · show (vs.map some).length = N.length
    rw [List.length_map, hl]
/-- super().__init__(..) as a statement -/
theorem sup_stmt {CX : CXT} {N : List Str} {qual : Str} {params : Arguments} {body : List Stmt} {scope : Scope} {f cc C cda a : Addr} {fd : FuncData} {A : Around} {outer : List Env} {s s1 : Shared} {H H1 : Hp} {E : XK} {σ : L2.St} {self : Str} {ar : Arg} {e : Expr} {es : List Expr} {rest : List Stmt} {ta : TA} {p0 p1 p2 p3 p4 : Pos} {Q : Flow → Shared → Prop} {Z : Value → Shared → Prop}
    (T : XInit P K C f qual params body scope fd cda cc) (S : SupScope N scope) (hp : (params.posonlyargs ++ params.args).head? = some ar) (har : ar.arg = self) (hN : N[0]? = some self) (hσ : σ[0]? = some (some (.ref a))) (hm : mg ("super" : Str) = none)
    (ha : PA (cxS CX P w K mg base N qual scope f (.ref cda) cc A outer s H E) (e :: es) ta)
    (I : Inv (cxS CX P w K mg base N qual scope f (.ref cda) cc A outer s H E) [] σ H1 s1) (hx : H1 a = some (exo a C none))
    (hta : ta σ H1 fun vs H2 => vs.length ≤ 1000 ∧ H2 = H1)
    (hxe : ∀ u s', (cxS CX P w K mg base N qual scope f (.ref cda) cc A outer s H E).xe u s' → Z u s')
    (hk : ∀ s2, Inv (cxS CX P w K mg base N qual scope f (.ref cda) cc A outer s H E) [] σ H1 s2 → wpAny (model P w) (A.deeper (PySem.W.ksEnv qual scope s.heap.objs.size f (.ref cda) cc)) (execs rest (PySem.W.ksEnv qual scope s.heap.objs.size f (.ref cda) cc)) Q Z s2)
    (he : starEach (e :: es) (PySem.W.ksEnv qual scope s.heap.objs.size f (.ref cda) cc) = (false, eval e (PySem.W.ksEnv qual scope s.heap.objs.size f (.ref cda) cc)) :: starEach es (PySem.W.ksEnv qual scope s.heap.objs.size f (.ref cda) cc))
    (hpl : (backTo p3 (starEach es (PySem.W.ksEnv qual scope s.heap.objs.size f (.ref cda) cc))).any (·.1) = false)
    (hs : swapsWith (.Call (.Attribute (.Call (.Name "super" p0) [] [] p1) "__init__" p2) (e :: es) [] p3) none p4.line (PySem.W.ksEnv qual scope s.heap.objs.size f (.ref cda) cc) = pure false)
    {pl : Sem Bool} (hc : eval (.Call (.Attribute (.Call (.Name "super" p0) [] [] p1) "__init__" p2) (e :: es) [] p3) (PySem.W.ksEnv qual scope s.heap.objs.size f (.ref cda) cc) = (do
      let ov ← attributeBase (.Call (.Name "super" p0) [] [] p1) "__init__" (PySem.W.ksEnv qual scope s.heap.objs.size f (.ref cda) cc) (eval (.Call (.Name "super" p0) [] [] p1) (PySem.W.ksEnv qual scope s.heap.objs.size f (.ref cda) cc))
      standAt p2.atName
      let (g, first) ← holding [ov] (getMethod ov "__init__" pl)
      callWith p3 g first (backTo p3 (starEach (e :: es) (PySem.W.ksEnv qual scope s.heap.objs.size f (.ref cda) cc))) [])) :
    _root_.PySem.wpAt (model P w) (A.deeper (PySem.W.ksEnv qual scope s.heap.objs.size f (.ref cda) cc)) (.func body (PySem.W.ksEnv qual scope s.heap.objs.size f (.ref cda) cc))
      (execs (.Expr (.Call (.Attribute (.Call (.Name "super" p0) [] [] p1) "__init__" p2) (e :: es) [] p3) p4 :: rest) (PySem.W.ksEnv qual scope s.heap.objs.size f (.ref cda) cc)) Q Z s1 := by
  obtain ⟨oc, od, osl, name, dV, kV, doc, pm, an, ct, rfl, lk⟩ := T.lk
  obtain ⟨ccl, cdd, vsc, ccs, file, tf, hcode, hvs, hfile⟩ := T.file
  obtain ⟨cl, cld, csl, hcell⟩ := T.cell
  obtain ⟨nm, q, Nn, bs, bm, sn, sub, ab, col, dd, k0, k1, k2, k3, k5, hC, hbm⟩ := T.oex.cls
  have hcl : PySem.W.clsIn K C = some { name := nm, bases := bs, mro := .ref C :: bm, ns := Nn, qualname := q, hasDict := true, slotNames := sn, subclasses := sub, abstract := ab, collection := col, hasDel := false } := by unfold PySem.W.clsIn; rw [hC] <;> rfl
  have KX := I.kIn
  obtain ⟨m, hns, hlook⟩ := I.loc
  have hself : m self = some (.ref a) := by
    obtain ⟨u, ru, hl⟩ := hlook 0 self _ hN hσ (.inl (S.par self (List.mem_of_getElem? hN)))
    obtain rfl : u = Value.ref a := ru
    rcases hl with ⟨_, z⟩ | ⟨z, _⟩
    · exact z
    · have q : scope.names.lookup self = some .local := S.par self (List.mem_of_getElem? hN)
      have z : scope.names.lookup self = some .cell ∨ scope.names.lookup self = some .free := z
      rw [q] at z
      rcases z with z | z <;> cases z
  refine ks_wpAt_execs_cons (ks_wpAt_Expr_any (ks_wpAt_MethodCall (pl := pl) ?_ hc) (by unfold interactive; simp [S.kind]) hs)
  refine ks_wpAt_super_base (env := PySem.W.ksEnv qual scope s.heap.objs.size f (.ref cda) cc) S.sup S.cls (by decide) rfl (KX _ _ lk) rfl hp rfl (KX _ _ hcode) rfl hvs hfile T.top ?_
  obtain ⟨mb, hb1, hb2⟩ := I.mod.blt
  refine PySem.W.ks_loadName_global S.kind S.sup (Calls.loadGlobal_builtin (env := PySem.W.ksEnv qual scope s.heap.objs.size f (.ref cda) cc) (I.mod.glob.keeps I.bk) hm (hb1.keeps I.bk) ((hb2 _ (by decide)).trans PyProof.Rows.Boot.«super») ⟨rfl, ?_⟩)
  refine wpAny_loadName_free S.kind S.cls rfl ⟨_, KX _ _ hcell, rfl⟩ ?_
  rw [har]
  refine wpAny_loadName_local S.kind (S.par self (List.mem_of_getElem? hN)) hns hself ?_
  obtain ⟨t1, ho⟩ := exo_at I.hok hx
  obtain ⟨hp1, g1, d1, tk1, os1⟩ := s1
  have hCo := KX _ _ hC
  refine ks_wpAny_isType_cls hCo rfl ⟨rfl, ?_⟩
  refine ks_wpAny_call_super hCo rfl ho rfl (fun c z => by cases z) (PySem.W.looks_mroIn KX T.mro) fun h' hso hk1 => ?_
  have I2 : Inv (cxS CX P w K mg base N qual scope f (.ref cda) cc A outer s H E) [] σ H1 ⟨h', g1, d1, tk1, os1⟩ := I.kept (t' := tk1) hk1
  have KX2 := I2.kIn
  have ho2 := hk1 _ _ ho
  have hI : PySem.W.InstAt h' a { cls := .ref C, dict := none, data := .fields #[.ref t1, .none, .none, .none, .bool false, .none] } C none := ⟨ho2, rfl, rfl, trivial⟩
  have hm2 : PySem.W.alongIn K "__init__" (((Value.ref C :: bm).dropWhile (· != .ref C)).drop 1) = some (some (.builtin "ValueError.__init__")) := by
    have z := T.sup
    unfold PySem.W.ks_superIn at z
    rw [hcl] at z
    exact z
  refine PySem.W.kxs_getMethod PySem.W.kxs_ValueError hso (PySem.W.looks_opaque KX2 T.any) (l₀ := .ref C :: bm) (fun A Q E s k q => wpAny_bind ((PySem.W.looks_clsIn KX2 hcl) A _ E s k (wpAny_pure q))) rfl KX2 hm2 (hI.type.andThen (PySem.W.looks_subIn KX2 T.ve)) (PySem.W.ks_ne KX2 hI hcl) (by decide) ?_
  have hz : H1 h'.objs.size = none := I2.hok.fresh (Nat.le_refl _)
  have I3 : Inv (cxS CX P w K mg base N qual scope f (.ref cda) cc A outer s H E) [] σ H1 ⟨h'.push (PySem.W.kxs_mw "ValueError.__init__" a), g1, d1, tk1 + 1, os1⟩ := I2.kept (t' := tk1 + 1) fun b o z => Heap.get?_push_of_some _ z
  have hu : (h'.push (PySem.W.kxs_mw "ValueError.__init__" a)).get? h'.objs.size = some (PySem.W.kxs_mw "ValueError.__init__" a) := Heap.get?_push_size _ rfl
  have I4 : Inv (cxS CX P w K mg base N qual scope f (.ref cda) cc A outer s H E) [(h'.objs.size, PySem.W.kxs_mw "ValueError.__init__" a)] σ H1 ⟨h'.push (PySem.W.kxs_mw "ValueError.__init__" a), g1, d1, tk1 + 1, os1⟩ := I3.pins_of fun p hp => by
    obtain rfl : p = (h'.objs.size, PySem.W.kxs_mw "ValueError.__init__" a) := by simpa using hp
    exact ⟨hu, hz, Nat.ne_of_gt I2.lt, I2.nofs (Nat.le_refl _), fun v z => by cases z⟩
  show wpAny _ _ (callWith p3 (.ref h'.objs.size) [] (backTo p3 (starEach (e :: es) (PySem.W.ksEnv qual scope s.heap.objs.size f (.ref cda) cc))) []) _ _ _
  rw [he]
  refine PySem.W.kxs_callWith (i := "ValueError.__init__") (x := a) (by show (false || (backTo p3 (starEach es _)).any (·.1)) = false; rw [hpl]; rfl) ?_
  refine Calls.evalArgs_plain ?_
  have run := ha.run p3 _ _ σ H1 _ I4 hta
  have he' : starEach (e :: es) (cxS CX P w K mg base N qual scope f (.ref cda) cc A outer s H E).env = (false, eval e (PySem.W.ksEnv qual scope s.heap.objs.size f (.ref cda) cc)) :: starEach es (PySem.W.ksEnv qual scope s.heap.objs.size f (.ref cda) cc) := he
  rw [he'] at run
  refine wpAny_mono run (fun us s5 hq => ?_) hxe
  obtain ⟨vs, H5, I5, rv, hl5, e5⟩ := hq
  subst e5
  have pin := I5.pin (h'.objs.size, PySem.W.kxs_mw "ValueError.__init__" a) (by show _ ∈ [] ++ _; simp)
  refine ⟨pin.1, ?_⟩
  obtain ⟨t5, ho5⟩ := exo_at I5.hok hx
  have KX5 := I5.kIn
  have hus : us.length ≤ sizeLine := by rw [← rv.length, sizeLine_eq]; omega
  obtain ⟨hp5, g5, d5, tk5, os5⟩ := s5
  show wpAny _ _ (call (.ref h'.objs.size) us) _ _ _
  refine wpAny_call (codeAny_of_tree ?_)
  show wpAny _ _ (callAny (.ref h'.objs.size) ⟨us, []⟩) _ _ _
  simp only [callAny]
  refine wpAny_bind (wpAny_load pin.1 ?_)
  simp only [PySem.W.kxs_mw, show (Value.type "method-wrapper" == Value.type "method" || Value.type "method-wrapper" == Value.type "builtin_function_or_method" || Value.type "method-wrapper" == Value.type "method-wrapper") = true by decide, if_true]
  refine PySem.W.KFB.if_so (by decide) ?_
  refine wpAny_bind (PySem.W.check_bound_init F.excBase_ValueError.toExcCallFacts (KX5 _ _ hC) ho5 rfl ?_)
  refine wpAny_bind (wpAny_pure (wpAny_pure ?_))
  refine ⟨plainId_quiet F.excBase_ValueError.init.plain _, codeAny_builtin F.excBase_ValueError.initEntry ?_⟩
  refine PySem.W.exc_init_tree (cls := .ref C) (t0 := t5) (dv := none) (c2 := .none) (c3 := .none) (b4 := .bool false) ho5 hus fun h6 k6 e6 _ => ?_
  have J := I5.write (t' := tk5) (x := a) (e := a) (o := exo a C none) (by rw [hx]; exact True.intro) (.inl rfl) k6 ⟨_, e6⟩ (exo_ok e6)
  have eu : upd H5 a (exo a C none) = H5 := by
    funext b
    by_cases hb : b = a
    · rw [hb, upd_same, hx]
    · rw [upd_ne hb]
  rw [eu] at J
  exact PySem.wpAt_of_wpAny (hk _ (J.pins_of fun p hp => absurd hp (by simp)))
end
end DL
namespace DL
open PySem PySem.Spec L2
open PyProof.Rows
/-- the promise of an exception's __init__ -/
def spO (C : Addr) (fsn : List Str) : Sp := fun vs H Q _ => ∃ (a : Addr) (ws : List V), vs = .ref a :: ws ∧ ws.length = fsn.length ∧ H a = some (exo a C none) ∧
  ∀ (dx : Addr) (H' : Hp), H dx = none → dx ≠ a → (∀ b, b ≠ a → b ≠ dx → H' b = H b) → H' a = some (exo a C (some dx)) → H' dx = some (exd dx (fsn.zip ws).reverse) → Q .non H'
section
variable {P : Program} {w : World} {K : PySem.W.Frag} {mg : Str → Option Value} {base : Heap}
/-- the shape of the statement -/
abbrev supS (args : List Expr) (p0 p1 p2 p3 p4 : Pos) : Stmt := .Expr (.Call (.Attribute (.Call (.Name "super" p0) [] [] p1) "__init__" p2) args [] p3) p4
structure SupSyn (env : Env) (e : Expr) (es : List Expr) (p0 p1 p2 p3 p4 : Pos) (pl : Sem Bool) : Prop where
  he : starEach (e :: es) env = (false, eval e env) :: starEach es env
  hpl : (backTo p3 (starEach es env)).any (·.1) = false
  hs : swapsWith (.Call (.Attribute (.Call (.Name "super" p0) [] [] p1) "__init__" p2) (e :: es) [] p3) none p4.line env = pure false
  hc : eval (.Call (.Attribute (.Call (.Name "super" p0) [] [] p1) "__init__" p2) (e :: es) [] p3) env = (do
      let ov ← attributeBase (.Call (.Name "super" p0) [] [] p1) "__init__" env (eval (.Call (.Name "super" p0) [] [] p1) env)
      standAt p2.atName
      let (g, first) ← holding [ov] (getMethod ov "__init__" pl)
      callWith p3 g first (backTo p3 (starEach (e :: es) env)) [])
/-- the def's entry, the super statement, the rest -/
theorem fn_sup {CX : CXT} {k : Nat} {N : List Str} {qual : Str} {params : Arguments} {rest : List Stmt} {scope : Scope} {f cc C cda : Addr} {fd : FuncData} {self : Str} {ar : Arg} {e : Expr} {es : List Expr} {p0 p1 p2 p3 p4 : Pos} {pl : Sem Bool} {fsn : List Str}
    (T : XInit P K C f qual params (supS (e :: es) p0 p1 p2 p3 p4 :: rest) scope fd cda cc) (S : SupScope N scope) (hp : (params.posonlyargs ++ params.args).head? = some ar) (har : ar.arg = self) (hN : N[0]? = some self) (hlen : N.length = fsn.length + 1) (hm : mg ("super" : Str) = none)
    (Y : ∀ L, SupSyn (PySem.W.ksEnv qual scope L f (.ref cda) cc) e es p0 p1 p2 p3 p4 pl)
    (ha : ∀ (A : Around) (outer : List Env) (s : Shared) (H : Hp) (E : XK), ∃ ta, PA (cxS CX P w K mg base N qual scope f (.ref cda) cc A outer s H E) (e :: es) ta ∧ ∀ (σ : L2.St) (H1 : Hp), (∀ (i : Nat) (x : Str), N[i]? = some x → ∃ v, σ[i]? = some (some v)) → ta σ H1 fun vs H2 => vs.length ≤ 1000 ∧ H2 = H1)
    (hrest : ∀ (A : Around) (outer : List Env) (s : Shared) (H : Hp) (E : XK), ∃ t, PSs (cxS CX P w K mg base N qual scope f (.ref cda) cc A outer s H E) rest t ∧ ∀ (a : Addr) (ws : List V) (Q : VK), ws.length = fsn.length → H a = some (exo a C none) →
      (∀ (dx : Addr) (H' : Hp), H dx = none → dx ≠ a → (∀ b, b ≠ a → b ≠ dx → H' b = H b) → H' a = some (exo a C (some dx)) → H' dx = some (exd dx (fsn.zip ws).reverse) → Q .non H') → t { nx := fun _ H' => Q .non H', rt := Q } ((.ref a :: ws).map some) H) :
    L2.FnOk P w K mg base CX (k + 1) f fd N (spO C fsn) := by
  refine ⟨fun vs H Q E ⟨a, ws, ev, hl, _⟩ => by rw [ev, List.length_cons, hl, hlen], fun A outer s H args us vs Q E hr e0 hb r hsp => ?_⟩
  obtain ⟨a, ws, ev, hl, hx, hq⟩ := hsp
  subst ev
  obtain ⟨oc, od, osl, name, dV, kV, doc, pm, an, ct, efd, lk⟩ := T.lk
  have KX : K.In s.heap := e0.mod.kin.keeps fun b o e => (e0.bs b o e).1
  have lim : s.heap.NoLimit := e0.mod.nolimit.keeps fun b o e => (e0.bs b o e).1
  have hlv : (V.ref a :: ws).length = N.length := by rw [List.length_cons, hl, hlen]
  have T' := T
  subst efd
  refine ks_codeAny_call_defAt (fd := PySem.W.ksFn name qual params (supS (e :: es) p0 p1 p2 p3 p4 :: rest) scope dV kV doc pm an (.ref cda) ct cc) hr.depth (KX _ _ lk) rfl lim (PySem.W.codeRec_of KX T.code) rfl hb S.nocell (fun y hy => S.par _ (List.of_mem_zip hy).1) (fun h₀ hns hk => ?_) S.co S.gen S.kind
  have I := inv_sup (CX := CX) (qual := qual) (f := f) (cd := .ref cda) (E := E) (tk := s.toks + (N.zip us).length) S hr.hd e0 hlv r T.cell hns hk
  obtain ⟨ta, pa, hta⟩ := ha A outer s H E
  obtain ⟨t, ps, ht⟩ := hrest A outer s H E
  have Yl := Y s.heap.objs.size
  refine sup_stmt (σ := (V.ref a :: ws).map some) T' S hp har hN rfl hm pa I hx (hta _ _ fun i x hi => ?_) (fun u s' z => z) (fun s2 I2 => ?_) Yl.he Yl.hpl Yl.hs Yl.hc
  · have : i < (V.ref a :: ws).length := by rw [hlv]; exact (List.getElem?_eq_some_iff.mp hi).1
    exact ⟨_, by rw [List.getElem?_map, List.getElem?_eq_getElem this]; rfl⟩
  · refine wpAny_mono (ps.run [] s2 _ H _ I2 (ht a ws Q hl hx hq)) (fun fl s' hs => ?_) fun e s' hs => hs
    have fin : ∀ {σ' : L2.St} {H' : Hp} {v : V} {u : Value}, Inv (cxS CX P w K mg base N qual scope f (.ref cda) cc A outer s H E) [] σ' H' s' → RelV v u → Q v H' → CE outer P w H s Q u s' :=
      fun {σ' H' v u} J rv q => ⟨v, H', J.os, J.bare, J.base, J.hok, rv, q⟩
    cases fl with
    | ret u =>
      obtain ⟨v, σ', H', J, rv, q⟩ := hs
      exact fin J rv q
    | next =>
      obtain ⟨σ', H', J, q⟩ := hs
      exact fin (v := V.non) (u := Value.none) J rfl q
    | brk =>
      obtain ⟨_, _, _, q⟩ := hs
      exact False.elim q
    | cont =>
      obtain ⟨_, _, _, q⟩ := hs
      exact False.elim q
theorem tv {σ : L2.St} {H : Hp} {Q : VK} {i : Nat} {v : V} (h : σ[i]? = some (some v)) (q : Q v H) : tVar i σ H Q := ⟨v, h, q⟩
/-- def __init__(self, x): super().__init__(x); self.f = x -/
theorem fn_x1 {CX : CXT} {k : Nat} {x y fl : Str} {qual : Str} {params : Arguments} {scope : Scope} {f cc C cda : Addr} {fd : FuncData} {ar : Arg} {p0 p1 p2 p3 p4 q1 q2 q3 q4 q5 : Pos} {pl : Sem Bool}
    (T : XInit P K C f qual params [supS [.Name y q1] p0 p1 p2 p3 p4, .Assign [.Attribute (.Name x q2) fl q3] (.Name y q4) q5] scope fd cda cc) (S : SupScope [x, y] scope) (hp : (params.posonlyargs ++ params.args).head? = some ar) (har : ar.arg = x) (hm : mg ("super" : Str) = none)
    (Y : ∀ L, SupSyn (PySem.W.ksEnv qual scope L f (.ref cda) cc) (.Name y q1) [] p0 p1 p2 p3 p4 pl) (hno : PySem.W.findIn K (.ref C) fl = some none)
    (hs : ∀ L, swapsWith (.Name y q4) (some (.Attribute (.Name x q2) fl q3)) q5.line (PySem.W.ksEnv qual scope L f (.ref cda) cc) = pure false) (hx1 : (x == ("__debug__" : Str)) = false) (hx2 : (x == ("__classdict__" : Str)) = false) (hy1 : (y == ("__debug__" : Str)) = false) (hy2 : (y == ("__classdict__" : Str)) = false) :
    L2.FnOk P w K mg base CX (k + 1) f fd [x, y] (spO C [fl]) := by
  have vx : Vis scope x := .inl (S.par x (by simp))
  have vy : Vis scope y := .inl (S.par y (by simp))
  refine fn_sup T S hp har rfl rfl hm Y (fun A outer s H E => ⟨_, pa_cons (pe_var (i := 1) rfl vy hy1 hy2) pa_nil (by exact (Y s.heap.objs.size).he), fun σ H1 hv => ?_⟩) fun A outer s H E => ⟨_, pss_one (ps_ost (pe_var (i := 0) rfl vx hx1 hx2) (pe_var (i := 1) rfl vy hy1 hy2) (by exact hs s.heap.objs.size)), fun a ws Q hl hx hq => ?_⟩
  · obtain ⟨v, hv⟩ := hv 1 y rfl
    exact ⟨v, hv, by show [v].length ≤ 1000; simp, rfl⟩
  · match ws, hl with
    | [u], _ =>
      refine ⟨u, rfl, .ref a, rfl, a, C, rfl, T.oex, hno, .inl ⟨hx, fun dx hd ne => hq dx _ hd ne (fun b h1 h2 => by rw [upd_ne h1, upd_ne h2]) upd_same ?_⟩⟩
      rw [upd_ne ne, upd_same]
      rfl
/-- def __init__(self, x, y): super().__init__(x, y); self.f = x; self.g = y -/
theorem fn_x2 {CX : CXT} {k : Nat} {x y z fl gl : Str} {qual : Str} {params : Arguments} {scope : Scope} {f cc C cda : Addr} {fd : FuncData} {ar : Arg} {p0 p1 p2 p3 p4 q0 q1 q2 q3 q4 q5 r2 r3 r4 r5 : Pos} {pl : Sem Bool}
    (T : XInit P K C f qual params [supS [.Name y q0, .Name z q1] p0 p1 p2 p3 p4, .Assign [.Attribute (.Name x q2) fl q3] (.Name y q4) q5, .Assign [.Attribute (.Name x r2) gl r3] (.Name z r4) r5] scope fd cda cc) (S : SupScope [x, y, z] scope) (hp : (params.posonlyargs ++ params.args).head? = some ar) (har : ar.arg = x) (hm : mg ("super" : Str) = none)
    (Y : ∀ L, SupSyn (PySem.W.ksEnv qual scope L f (.ref cda) cc) (.Name y q0) [.Name z q1] p0 p1 p2 p3 p4 pl) (he2 : ∀ env, starEach [.Name z q1] env = (false, eval (.Name z q1) env) :: starEach [] env) (hno : PySem.W.findIn K (.ref C) fl = some none) (hno2 : PySem.W.findIn K (.ref C) gl = some none)
    (hs : ∀ L, swapsWith (.Name y q4) (some (.Attribute (.Name x q2) fl q3)) q5.line (PySem.W.ksEnv qual scope L f (.ref cda) cc) = pure false) (hs2 : ∀ L, swapsWith (.Name z r4) (some (.Attribute (.Name x r2) gl r3)) r5.line (PySem.W.ksEnv qual scope L f (.ref cda) cc) = pure false) (hx1 : (x == ("__debug__" : Str)) = false) (hx2 : (x == ("__classdict__" : Str)) = false) (hy1 : (y == ("__debug__" : Str)) = false) (hy2 : (y == ("__classdict__" : Str)) = false)
    (hz1 : (z == ("__debug__" : Str)) = false) (hz2 : (z == ("__classdict__" : Str)) = false) :
    L2.FnOk P w K mg base CX (k + 1) f fd [x, y, z] (spO C [fl, gl]) := by
  have vx : Vis scope x := .inl (S.par x (by simp))
  have vy : Vis scope y := .inl (S.par y (by simp))
  have vz : Vis scope z := .inl (S.par z (by simp))
  refine fn_sup T S hp har rfl rfl hm Y (fun A outer s H E => ⟨_, pa_cons (pe_var (i := 1) rfl vy hy1 hy2) (pa_cons (pe_var (i := 2) rfl vz hz1 hz2) pa_nil (he2 _)) (by exact (Y s.heap.objs.size).he), fun σ H1 hv => ?_⟩)
    fun A outer s H E => ⟨_, pss_cons (ps_ost (pe_var (i := 0) rfl vx hx1 hx2) (pe_var (i := 1) rfl vy hy1 hy2) (by exact hs s.heap.objs.size)) (pss_one (ps_ost (pe_var (i := 0) rfl vx hx1 hx2) (pe_var (i := 2) rfl vz hz1 hz2) (by exact hs2 s.heap.objs.size))), fun a ws Q hl hx hq => ?_⟩
  · obtain ⟨v, hv1⟩ := hv 1 y rfl
    obtain ⟨u, hu⟩ := hv 2 z rfl
    exact ⟨v, hv1, u, hu, by show [v, u].length ≤ 1000; simp, rfl⟩
  · match ws, hl with
    | [u, v], _ =>
      refine ⟨u, rfl, .ref a, rfl, a, C, rfl, T.oex, hno, .inl ⟨hx, fun dx hd ne => ?_⟩⟩
      refine ⟨v, rfl, .ref a, rfl, a, C, rfl, T.oex, hno2, .inr ⟨dx, _, upd_same, (by rw [upd_ne ne, upd_same]), by simp, ?_⟩⟩
      refine hq dx _ hd ne (fun b h1 h2 => by rw [upd_ne h2, upd_ne h1, upd_ne h2]) ?_ ?_
      · rw [upd_ne (Ne.symm ne), upd_same]
      · rw [upd_same]
        rfl
end
end DL
namespace DL
open PySem PySem.Spec L2
open PyProof.Rows
section
variable {X : Cx} {c : Ct} {W : WX} {K : PySem.W.Frag} {e : Expr} {es : List Expr} {ms : Gm → T (List D)} {pos p pos' : Pos} {F H : Hp}
theorem DatF.zip_rev {fsn : List Str} : ∀ {vs : List V} {ds : List D}, Dats c K F vs ds → DatF c K F (fsn.zip vs).reverse (fsn.zip ds).reverse := by
  have app : ∀ {a b : List (Str × V)} {x y : List (Str × D)}, DatF c K F a x → DatF c K F b y → DatF c K F (a ++ b) (x ++ y) := by
    intro a b x y h
    induction a generalizing x with
    | nil => cases h; exact fun z => z
    | cons p a ih => cases h with | cons h1 h2 => exact fun z => .cons h1 (ih h2 z)
  induction fsn with
  | nil => intro vs ds _; simp; exact .nil
  | cons f fs ih =>
    intro vs ds h
    cases h with
    | nil => simp; exact .nil
    | cons h1 h2 =>
      rw [List.zip_cons_cons, List.zip_cons_cons, List.reverse_cons, List.reverse_cons]
      exact app (ih h2) (.cons h1 .nil)
/-! ### raise C(..) -/
def mRaise (cl : Nat) (fsn : List Str) (ms : Gm → T (List D)) : Gm → T Fl := fun γ => (ms γ).bind fun ds => if ds.length = fsn.length ∧ ds.length ≤ 1000 then .exc ⟨cl, (fsn.zip ds).reverse⟩ else .stuck
/-- the facts of an own exception class -/
structure XCls (P : Program) (w : World) (K : PySem.W.Frag) (mg : Str → Option Value) (base : Heap) (C : Addr) (fsn : List Str) (k : Nat) : Prop where
  oex : OexC K C
  fn : ∃ fI fd ps, PySem.W.findIn K (.ref C) "__init__" = some (some (.ref fI)) ∧ PySem.W.typeIn K (.ref fI) = some (.type "function") ∧ L2.FnOk P w K mg base (CX P w) k fI fd ps (spO C fsn) ∧ Binds K fd ps []
theorem ds_raise {x : Str} {cl k : Nat} {fsn : List Str} (XT : XCls X.prog X.w X.K X.mg X.base (c.cA cl) fsn k) (hr : Room (k + 1) X.A) (hc : X.calm = true) (tk : Takes X W) (hm : X.mg x = some (.ref (c.cA cl))) (ha : DA X c W (e :: es) ms) (hg : Gl X x := by rfl)
    (hdb : (x == ("__debug__" : Str)) = false := by decide) (he : starEach (e :: es) X.env = (false, eval e X.env) :: starEach es X.env := by rfl) (hpl : (backTo pos (starEach es X.env)).any (·.1) = false := by rfl) :
    DS X c W (.Raise (some (.Call (.Name x p) (e :: es) [] pos)) none pos') (mRaise cl fsn ms) := by
  obtain ⟨fI, fd, ps, iC, tI, F1, hb⟩ := XT.fn
  have mk := pmk_oex (CX := CX X.prog X.w) (p := p) XT.oex iC tI F1 hr.toRoom hb .nil (fun pins σ H s e s' I h => tk e s' (XE.of_call I (fun _ _ _ z => z.elim) h)) hg hm ha.pa hdb he hpl
  refine ⟨(ps_raise hc tk mk).imp fun D σ H ⟨ob, F0, H0, F, γ, j, s, h⟩ => ?_⟩
  refine ⟨F, γ, j, s.gd, s.env, (T.All.bind h).imp (fun j1 ds h1 F1 H1 vs e1 g1 r1 => ?_) fun _ _ z => z.px s.ext⟩
  split at h1
  · rename_i hl
    refine ⟨by rw [r1.length]; exact hl.2, fun a ha1 => ⟨a, vs, by rw [List.append_nil], by rw [r1.length]; exact hl.1, upd_same, fun dx H' hd ne hk hx hdx => ⟨rfl, dx, _, hx, hdx, ?_, ?_⟩⟩⟩
    · rw [upd_ne ne] at hd; exact hd
    · rw [upd_ne ne] at hd
      have hk' : ∀ b o, H1 b = some o → upd (del H' a) dx (.xd (fsn.zip vs).reverse) b = some o := fun b o q => by
        have n1 : b ≠ a := ne_of_none q ha1
        have n2 : b ≠ dx := ne_of_none q hd
        rw [upd_ne n2, del_ne n1, hk b n1 n2, upd_ne n1]
        exact q
      have e2 : Ext c F1 H1 F1 (upd (del H' a) dx (.xd (fsn.zip vs).reverse)) := ⟨fun _ _ q => q, fun b o _ _ q => hk' b o q, fun b q => by
        cases y : H1 b with
        | none => exact absurd y q
        | some o => rw [hk' b o y]; simp, fun _ q => .inl q⟩
      have g2 : Good c F1 (upd (del H' a) dx (.xd (fsn.zip vs).reverse)) j1 := by
        obtain ⟨g1, gp, gq, gt, gn⟩ := g1
        refine ⟨fun b o q => hk' b o (g1 b o q), gp, gq.keep fun b vs _ z => hk' b _ z, tabs_keep gt (fun b o _ _ h => hk' b o h) (fun b ps h => ?_), gn⟩
        have h := tbl_upd .xd h
        by_cases z : b = a
        · rw [z, del_same] at h; cases h
        · rw [del_ne z] at h
          by_cases z2 : b = dx
          · rw [z2, hdx] at h; exact absurd h (fun y => by unfold exd at y; cases y)
          · rw [hk b z z2, upd_ne z] at h; exact h
      exact h1 F1 _ dx σ (s.ext.trans (e1.trans e2)) g2 ⟨_, upd_same, DatF.zip_rev r1, (s.ext.trans e1).none hd, g1.fresh (o := .lst []) hd⟩
  · exact h1.elim
end
end DL
namespace DL
open PySem PySem.Spec L2
open PyProof.Rows
theorem exv_ok {P : Program} {w : World} {H : Hp} {h : Heap} {a C : Addr} {d : Option Addr} {oe : Obj} {vs : Array Value} (e : h.get? a = some oe) (z : Zc (.ref C) d oe) (hd : oe.data = .fields vs) : ObjOk P w H h a (exv a C d) :=
  ⟨⟨oe, vs, e, z, hd⟩, ⟨oe, e⟩, fun h1 h2 y k => by
    obtain ⟨oe, vs, e, z, hd⟩ := y
    exact ⟨oe, vs, k _ e, z, hd⟩⟩
theorem exv_at {P : Program} {w : World} {H : Hp} {h : Heap} {a C : Addr} {d : Option Addr} (hok : HOk P w H h) (he : H a = some (exv a C d)) : ∃ (oe : Obj) (vs : Array Value), h.get? a = some oe ∧ Zc (.ref C) d oe ∧ oe.data = .fields vs := by
  have x : ObjOk P w H h a (.ext fun h => ∃ (oe : Obj) (vs : Array Value), h.get? a = some oe ∧ Zc (.ref C) d oe ∧ oe.data = .fields vs) := hok a _ he
  exact x.1
section
variable {X : Cx} {pins : List (Addr × Obj)} {σ : L2.St} {H : Hp} {s : Shared}
/-- an object that came behind the entry is tracked -/
theorem inv_track {a : Addr} {o : HO} {oe : Obj} {vs : Array Value} (I : Inv X pins σ H s) (ho : s.heap.get? a = some oe) (hd : oe.data = .fields vs) (hn : H a = none) (h0 : X.s_0.heap.get? a = none) (hL : a ≠ X.env.locals) (hp : ∀ p ∈ X.pn ++ pins, p.1 ≠ a) (new : ObjOk X.prog X.w (upd H a o) s.heap a o) : Inv X pins σ (upd H a o) s := by
  have hc : ∀ x c, X.env.cells.lookup x = some c → c ≠ a := fun x c e z => by
    obtain ⟨v, o', e', d'⟩ := I.cell x c e
    rw [z, ho] at e'
    cases e'
    rw [hd] at d'
    cases d'
  refine ⟨I.ok, I.os, I.bare, ⟨I.base.keep, I.base.slot, fun b o' e n hx => ?_, I.base.there, fun b xs e => ?_, fun b o' u e => ?_, fun b ps e => ?_⟩, I.loc, I.cell, ?_, fun x c e => ?_, fun p h => ?_, fun b u e => ?_, I.len⟩
  · rw [upd_ne (fun z => by rw [z, h0] at e; cases e)]
    exact I.base.free b o' e n hx
  · have q := I.base.tups b xs e
    rw [upd_ne (ne_of_none q hn)]; exact q
  · have q := I.base.frzs b o' u e
    rw [upd_ne (ne_of_none q hn)]; exact q
  · obtain ⟨m, q⟩ := I.base.tbls b ps e
    exact ⟨m, by rw [upd_ne (ne_of_none q hn)]; exact q⟩
  · rw [upd_ne (Ne.symm hL)]; exact I.free
  · rw [upd_ne (hc x c e)]; exact I.freeC x c e
  · obtain ⟨e, n, r⟩ := I.pin p h
    exact ⟨e, by rw [upd_ne (hp p h)]; exact n, r⟩
  · by_cases hb : b = a
    · subst hb
      rw [upd_same] at e
      cases e
      exact new
    · rw [upd_ne hb] at e
      exact (I.hok b u e).stay (fun _ _ _ q => q) (fun c q => by rw [upd_ne (ne_of_none q hn)]; exact q) fun c xs q => by rw [upd_ne (ne_of_none q hn)]; exact q
end
/-- what 'except x as n: y = n' wishes of an exception: it is kept -/
def wKeep (K : PySem.W.Frag) (c : Value) (i k n : Nat) (Wout : WX) (D : Ends) : WX := fun cls d σ H =>
  ∃ b, PySem.W.exmOne K cls c = some b ∧ (b = true → σ.length = n → ∀ a, H a = none → ∃ C, cls = .ref C ∧ D.nx (((σ.set i (some (.ref a))).set k (some (.ref a))).set i none) (upd H a (exv a C d))) ∧ (b = false → Wout cls d σ H)
section
variable {X : Cx} {x n y : Str} {c : Value} {i k : Nat} {body : List Stmt} {np pos pos' q1 q2 q3 : Pos} {tb : WX → TS} {Wout : WX}
theorem ps_try_keep (hs : X.stack = X.env :: X.outer) (hf : X.env.frame = some X.env.locals) (hex : X.ex = []) (hN : X.N.Nodup) (hi : X.N[i]? = some n) (hln : X.env.kindOf n = some .local) (hk : X.N[k]? = some y) (hly : X.env.kindOf y = some .local) (hc : Names X x c) (tk : Takes X Wout)
    (hb : ∀ (W : WX) (pn : List (Addr × Obj)) (xe : Value → Shared → Prop), Takes (X.tr pn xe) W → PassesOwn (model X.prog X.w) X.A X.env xe → PSs (X.tr pn xe) body (tb W))
    (hsw : swapsWith (.Name n q2) (some (.Name y q1)) q3.line X.env = pure false) (hn1 : (n == ("__debug__" : Str)) = false) (hn2 : (n == ("__classdict__" : Str)) = false) :
    PS X (.Try body [.ExceptHandler (some (.Name x np)) (some n) [.Assign [.Name y q1] (.Name n q2) q3] pos'] [] [] pos) (fun D σ H => tb (wKeep X.K c i k X.N.length Wout D) D σ H) := by
  refine ⟨fun pins s σ H D I h => ?_⟩
  have ok := I.ok
  have hfr : X.A.frames = some (X.env :: X.outer) := by rw [ok.frames, hs]
  have hloc : Loc X.env.scope n := .inl hln
  refine wpAny_Try_except ?_
  refine wpAny_mono ((hb (wKeep X.K c i k X.N.length Wout D) (X.pn ++ pins) (fun e s₁ => wpAny (model X.prog X.w) X.A (noteFrame e X.env) (fun _ s₂ => wpAny (model X.prog X.w) X.A (setFlight e none) (fun _ s₃ =>
    wpAny (model X.prog X.w) X.A (handleBy e X.env [.ExceptHandler (some (.Name x np)) (some n) [.Assign [.Name y q1] (.Name n q2) q3] pos']) (SP X pins D) X.xe s₃) X.xe s₂) X.xe s₁) (fun u s' xx => ?_) PassesOwn.looking).run [] s σ H D (I.toTry _) h) (fun f s1 hsp => ?_) (fun e s1 he => he)
  · obtain ⟨a, B, sI, pins', σ', H', cls, d, rfl, J', nb, up, sky, na, os, ag, b, hb1, hyes, hno⟩ := xx
    have J : Inv X pins σ' H' sI := J'.ofTry ok
    have sky' : Sky B (X.env :: X.outer) a (Zc cls d) X.env.locals s'.heap := by rw [← hs]; exact sky
    show wpAny (model X.prog X.w) X.A (noteFrame (.ref a) X.env) _ _ _
    refine Sky.land Zc.steady hfr hf sky' fun h3 fl3 up3 => ?_
    have J3 : Inv X pins σ' H' { s' with heap := h3 } := J.landed nb fl3.1 (up.trans up3) os ag
    obtain ⟨oe3, vs3, he3, hz3, hd3⟩ := fl3.there
    have notFr : ∀ {h : Heap} {o : Obj} {vs : Array Value}, h.FunFrames B (X.env :: X.outer) → h.get? a = some o → o.data = .fields vs → a ∉ frs (X.env :: X.outer) := fun {h o vs} ff e dd hm => by
      obtain ⟨_, o', e', hnf⟩ := ff.mem hm
      rw [e] at e'; cases e'
      exact hnf _ dd
    have nfr := notFr fl3.2.2.1 he3 hd3
    have nL : a ≠ X.env.locals := fun z => nfr (List.mem_filterMap.mpr ⟨X.env, List.mem_cons_self, by rw [hf, z]⟩)
    have nF : a ∉ X.fs := fun hm => by
      obtain ⟨e, he, q⟩ := List.mem_filterMap.mp hm
      exact nfr (List.mem_filterMap.mpr ⟨e, List.mem_cons_of_mem _ he, q⟩)
    -- the exception is new since the state without it
    have newI : sI.heap.get? a = none := by
      cases q : sI.heap.get? a with
      | none => rfl
      | some o =>
        have z := nb a o q (by rw [hs]; exact nfr)
        rw [fl3.2.1] at z
        cases z
    have new0 : X.s_0.heap.get? a = none := by
      cases q : X.s_0.heap.get? a with
      | none => rfl
      | some o =>
        obtain ⟨o', z⟩ := J.base.there a o q (by rw [hex]; simp)
        rw [newI] at z
        cases z
    have nP : ∀ p ∈ X.pn ++ pins, p.1 ≠ a := fun p hp z => by
      have q := (J.pin p hp).1
      rw [z, newI] at q
      cases q
    have S3 := J3.suite he3 hd3 na nL nF
    refine wpAny_handleBy_cons (codeAny_handlers_test ?_) (by intro q; cases q)
    have LT : PySem.W.Looks (model X.prog X.w) h3 (typeOf (.ref a)) cls := fun A Q E s k q => wpAny_typeOf_ref (k _ _ he3) (by rw [hz3.1]; exact q)
    have LM := PySem.W.exm_one (M := model X.prog X.w) (J3.kIn) LT hb1
    have test : ∀ {Q : Value → Shared → Prop} {E : Value → Shared → Prop}, Q c { s' with heap := h3 } → wpAny (model X.prog X.w) (X.A.mark (some (.ref a))) (eval (.Name x np) X.env) Q E { s' with heap := h3 } := fun {Q E} q => by
      obtain ⟨hg, hdbg, hm | ⟨hm, hv, hnn⟩⟩ := hc
      · exact ld_glob (X := X.suite a ((a, oe3) :: (X.pn ++ pins))) S3 hg hm q hdbg
      · exact ld_blt (X := X.suite a ((a, oe3) :: (X.pn ++ pins))) S3 hg hm hv q hnn hdbg
    refine test (LM.here ?_)
    cases b with
    | true =>
      refine codeAny_handlers_suite_as ?_
      refine HandSPX.lands_againZ fl3 fun h4 fl4 up4 => ?_
      have J4 : Inv X pins σ' H' { s' with heap := h4 } := J.landed nb fl4.1 ((up.trans up3).trans up4) os ag
      obtain ⟨oe4, vs4, he4, hz4, hd4⟩ := fl4.there
      have S4 := J4.suite he4 hd4 na nL nF
      obtain ⟨C, hcls, hnx⟩ := hyes rfl J.len a na
      refine store_ok (X := X.suite a ((a, oe4) :: (X.pn ++ pins))) (v := .ref a) S4 hN hi hloc rfl (fun s5 S5 => ?_) (.inr hln)
      have hil : i < σ'.length := by rw [J.len]; exact (List.getElem?_eq_some_iff.mp hi).1
      have one : PSs (X.suite a ((a, oe4) :: (X.pn ++ pins))) [.Assign [.Name y q1] (.Name n q2) q3] _ := pss_one (ps_set (i := k) hN hk (.inl hly) (pe_var (i := i) hi (.inl hln) hn1 hn2) (by exact hsw) (.inr hly))
      refine wpAny_mono (one.run [] s5 _ H' { nx := fun τ H6 => τ = (σ'.set i (some (.ref a))).set k (some (.ref a)) ∧ H6 = H', rt := fun _ _ => False } S5 ⟨.ref a, by rw [List.getElem?_set_self hil], rfl, rfl⟩) (fun f s6 hsp => ?_) (fun _ _ z => False.elim z)
      cases f with
      | next =>
        obtain ⟨σ6, H6, S6, e1, e2⟩ := hsp
        subst e1 e2
        have pinA := S6.pin (a, oe4) (by show _ ∈ ((a, oe4) :: (X.pn ++ pins)) ++ []; simp)
        have P6 : Inv X ((a, oe4) :: pins) ((σ'.set i (some (.ref a))).set k (some (.ref a))) H6 s6 := (S6.unsuite ok).pins_of fun p hp => by
          rcases List.mem_cons.mp hp with rfl | hp
          · exact ⟨pinA.1, na, nL, nF, fun v z => by have z' : oe4.data = .cell v := z; rw [hd4] at z'; cases z'⟩
          · exact (S6.unsuite ok).pin p (List.mem_append_right _ hp)
        refine gone_ok P6 hN hi hln fun s7 J7 => ?_
        have p7 := J7.pin (a, oe4) (by simp)
        have J8 : Inv X pins (((σ'.set i (some (.ref a))).set k (some (.ref a))).set i none) H6 s7 := J7.pins_of fun p hp => J7.pin p (by simp [hp])
        subst hcls
        exact ⟨_, _, inv_track J8 p7.1 hd4 na new0 nL nP (exv_ok p7.1 hz4 hd4), hnx⟩
      | brk =>
        obtain ⟨_, _, _, q⟩ := hsp
        exact q.elim
      | cont =>
        obtain ⟨_, _, _, q⟩ := hsp
        exact q.elim
      | ret u =>
        obtain ⟨_, _, _, _, _, q⟩ := hsp
        exact q.elim
    | false =>
      show wpAny _ X.A (handleBy (.ref a) X.env []) _ _ _
      refine wpAny_handleBy_nil ?_
      obtain ⟨k1, k2, k3, oe, vs, T, oT, ts', he, hz, hd, h1, hr⟩ := id fl3
      unfold PySem.passOn
      refine wpAny_bind (wpAny_field he hd h1 ?_)
      rw [if_neg (show ¬ ((Value.ref T == Value.none) = true) from by simp)]
      have fin : wpAny (model X.prog X.w) X.A (setFlight (.ref a) X.env.frame) (fun _ s4 => wpAny (model X.prog X.w) X.A (throw (.ref a) : Sem Flow) (SP X pins D) X.xe s4) X.xe { s' with heap := h3 } := by
        rw [hf]
        refine HandSPX.setFlight_upZ fl3 fun h4 hh4 up4 => wpAny_throw (tk _ _ ?_)
        exact ⟨a, B, sI, pins, σ', H', cls, d, rfl, J, nb, (up.trans up3).trans up4, .inr (.inr (by rw [hs]; exact hh4)), na, os, ag, hno rfl⟩
      first
        | exact wpAny_bind (wpAny_pure (wpAny_bind fin))
        | exact wpAny_bind fin
  · cases f with
    | next =>
      obtain ⟨σ', H', J', q⟩ := hsp
      exact wpAny_execs_nil ⟨σ', H', J'.ofTry ok, q⟩
    | brk =>
      obtain ⟨σ', H', J', q⟩ := hsp
      exact ⟨σ', H', J'.ofTry ok, q⟩
    | cont =>
      obtain ⟨σ', H', J', q⟩ := hsp
      exact ⟨σ', H', J'.ofTry ok, q⟩
    | ret u =>
      obtain ⟨v, σ', H', J', r, q⟩ := hsp
      exact ⟨v, σ', H', J'.ofTry ok, r, q⟩
end
/-! ### try: body / except x as n: y = n -/
section
variable {X : Cx} {x n y : Str} {c : Ct} {W : WX} {i k N cc : Nat} {body : List Stmt} {np pos pos' q1 q2 q3 : Pos} {mb : Gm → T Fl} {sub : Nat → Option Bool}
/-- an exception of the class e.c: caught (its class is below), let go, not known -/
def tryT (sub : Nat → Option Bool) (k N : Nat) : T Fl → T Fl
  | .ok a => .ok a
  | .exc e => match sub e.c with
    | some true => .ok (.nx ((List.replicate N SV.no).set k (.val (.exn e.c e.fs))))
    | some false => .exc e
    | none => .stuck
  | .stuck => .stuck
  | .draw m f => .draw m fun d => tryT sub k N (f d)
def mTry (sub : Nat → Option Bool) (k N : Nat) (mb : Gm → T Fl) : Gm → T Fl := fun γ => tryT sub k N (mb γ)
theorem tryT_all {P : Nat → Fl → Prop} {E : Nat → Xc → Prop} : ∀ {t : T Fl} {j : Nat}, (tryT sub k N t).All j P E → t.All j P (fun j' e => (sub e.c = some true ∧ P j' (.nx ((List.replicate N SV.no).set k (.val (.exn e.c e.fs))))) ∨ (sub e.c = some false ∧ E j' e))
  | .ok _, _, h => h
  | .exc e, _, h => by
    unfold tryT at h
    split at h
    · rename_i q; exact .inl ⟨q, h⟩
    · rename_i q; exact .inr ⟨q, h⟩
    · exact h.elim
  | .stuck, _, h => h
  | .draw _ _, _, ⟨h1, h2, h3, h⟩ => ⟨h1, h2, h3, fun d a b => tryT_all (h d a b)⟩
theorem env_caught {K : PySem.W.Frag} {F H : Hp} {σ : L2.St} {a : Addr} {d : D} (hl : σ.length = N) (hki : k ≠ i) (hk : k < N) (r : Dat c K F (.ref a) d) :
    EnvOk c K F H (((σ.set i (some (.ref a))).set k (some (.ref a))).set i none) ((List.replicate N SV.no).set k (.val d)) := by
  have key : ∀ {m : Nat} {o : SV}, ((List.replicate N SV.no).set k (.val d))[m]? = some o → (m = k ∧ o = .val d) ∨ o = .no := fun {m o} q => by
    rcases get_set q with ⟨e1, e2, _⟩ | ⟨_, q⟩
    · exact .inl ⟨e1, e2⟩
    · exact .inr (List.eq_of_mem_replicate (List.mem_of_getElem? q))
  refine ⟨by simp [hl], fun m d' q => ?_, fun m ds q => ?_, fun m n gs q => ?_, fun x y o u b q1 o1 _ _ _ _ => ?_⟩
  · rcases key q with ⟨e1, e2⟩ | e
    · cases e2
      subst e1
      exact ⟨.ref a, by rw [List.getElem?_set_ne (Ne.symm hki), List.getElem?_set_self (by simp [hl, hk])], r⟩
    · cases e
  · rcases key q with ⟨_, e⟩ | e <;> cases e
  · rcases key q with ⟨_, e⟩ | e <;> cases e
  · rcases key q1 with ⟨_, e⟩ | e <;> (rw [e] at o1; cases o1)
theorem own_caught {σ : L2.St} {a : Addr} {d : D} : ¬ OwnAt σ ((List.replicate N SV.no).set k (.val d)) a := by
  rintro ⟨m, o, q, ho, _⟩
  rcases get_set q with ⟨_, e, _⟩ | ⟨_, q⟩
  · rw [e] at ho; cases ho
  · rw [List.eq_of_mem_replicate (List.mem_of_getElem? q)] at ho; cases ho
theorem obj_caught {σ : L2.St} {a : Addr} {d : D} : ¬ ObjAt σ ((List.replicate N SV.no).set k (.val d)) a := by
  rintro ⟨m, n, gs, q, _⟩
  rcases get_set q with ⟨_, e, _⟩ | ⟨_, q⟩
  · cases e
  · cases (List.eq_of_mem_replicate (List.mem_of_getElem? q))
theorem ds_try (i k : Nat) (hs : X.stack = X.env :: X.outer) (hf : X.env.frame = some X.env.locals) (hex : X.ex = []) (hN : X.N.Nodup) (tk : Takes X W) (hm : X.mg x = some (.ref (c.cA cc))) (hsub : ∀ n b, sub n = some b → PySem.W.exmOne X.K (.ref (c.cA n)) (.ref (c.cA cc)) = some b)
    (hb : ∀ (W' : WX) (pn : List (Addr × Obj)) (xe : Value → Shared → Prop), Takes (X.tr pn xe) W' → PassesOwn (model X.prog X.w) X.A X.env xe → DSs (X.tr pn xe) c W' body mb)
    (hi : X.N[i]? = some n := by rfl) (hln : X.env.kindOf n = some .local := by rfl) (hk : X.N[k]? = some y := by rfl) (hly : X.env.kindOf y = some .local := by rfl) (hki : k ≠ i := by decide) (hnl : X.N.length = N := by rfl) (hg : Gl X x := by rfl)
    (hsw : swapsWith (.Name n q2) (some (.Name y q1)) q3.line X.env = pure false := by rfl) (hn1 : (n == ("__debug__" : Str)) = false := by decide) (hn2 : (n == ("__classdict__" : Str)) = false := by decide) (hx1 : (x == ("__debug__" : Str)) = false := by decide) :
    DS X c W (.Try body [.ExceptHandler (some (.Name x np)) (some n) [.Assign [.Name y q1] (.Name n q2) q3] pos'] [] [] pos) (mTry sub k N mb) := by
  refine ⟨(ps_try_keep (tb := fun W' => tS c X.K W' mb) hs hf hex hN hi hln hk hly ⟨hg, hx1, .inl hm⟩ tk (fun W' pn xe t p => (hb W' pn xe t p).ps) hsw hn1 hn2).imp fun D σ H ⟨ob, F0, H0, F, γ, j, s, h⟩ => ?_⟩
  refine ⟨ob, F0, H0, F, γ, j, s, (tryT_all h).imp (fun _ _ z => z) fun j1 e he F1 H1 d τ ex g1 ⟨fs, q1, q2, q3, q4⟩ => ?_⟩
  rcases he with ⟨hst, hp⟩ | ⟨hsf, hp⟩
  · refine ⟨true, hsub _ _ hst, fun _ hlen a ha => ⟨_, rfl, ?_⟩, fun z => by cases z⟩
    have hlen : τ.length = N := by rw [hlen, hnl]
    have na : a ≠ d := fun z => by rw [z, q1] at ha; cases ha
    have npa := g1.nePen ha
    have npd : d ≠ c.pa ∧ d ≠ c.sa := by
      obtain ⟨_, _, ⟨⟨_, p1⟩, ⟨_, p2⟩, _⟩, _, _⟩ := g1
      exact ⟨fun z => (by rw [z, p1] at q1; cases q1), fun z => (by rw [z, p2] at q1; cases q1)⟩
    have fa : F1 a = none := g1.fresh (o := .lst []) ha
    let F2 : Hp := upd (upd F1 d (.xd fs)) a (exv a (c.cA e.c) (some d))
    have up : ∀ b o, F1 b = some o → F2 b = some o := fun b o z => by
      show upd (upd F1 d (.xd fs)) a _ b = some o
      rw [upd_ne (fun y => by rw [y, fa] at z; cases z), upd_ne (fun y => by rw [y, q4] at z; cases z)]
      exact z
    have hupk : ∀ b o, H1 b = some o → upd H1 a (exv a (c.cA e.c) (some d)) b = some o := fun b o z => by rw [upd_ne (ne_of_none z ha)]; exact z
    have sub2 : ∀ b o, F2 b = some o → upd H1 a (exv a (c.cA e.c) (some d)) b = some o := fun b o z => by
      by_cases y : b = a
      · rw [y] at z ⊢
        have z : upd (upd F1 d (.xd fs)) a (exv a (c.cA e.c) (some d)) a = some o := z
        rw [upd_same] at z ⊢
        exact z
      · have z : upd (upd F1 d (.xd fs)) a (exv a (c.cA e.c) (some d)) b = some o := z
        rw [upd_ne y] at z
        by_cases y2 : b = d
        · rw [y2, upd_same] at z
          cases z
          rw [y2]
          exact hupk d _ q1
        · rw [upd_ne y2] at z
          exact hupk b o (g1.sub b o z)
    have hdat : Dat c X.K F2 (.ref a) (.exn e.c e.fs) := .exn (d := d) upd_same (by show upd (upd F1 d (.xd fs)) a _ d = _; rw [upd_ne (Ne.symm na), upd_same]) (q2.mono up)
    refine hp _ F2 _ ⟨⟨sub2, ?_, ?_, tabs_keep g1.tab (fun b o _ _ z => hupk b o z) (fun _ _ h => tbl_upd .exv h), nt_upd (nt_upd g1.nt .xd) .exv⟩, ⟨fun b o z => up b o (ex.up b o z), fun b o nb nt z => hupk b o (ex.keep b o nb nt z), fun b z => ?_, fun b z => ?_⟩, ?_, fun b o => absurd o own_caught, fun b o => absurd o obj_caught⟩
    · intro hp
      show upd (upd F1 d (.xd fs)) a _ c.pa = none
      rw [upd_ne (Ne.symm npa.1), upd_ne (Ne.symm npd.1)]
      exact g1.pa hp
    · exact g1.pen.keep fun b vs _ z => hupk b _ z
    · cases y : H1 b with
      | none => exact absurd y (ex.there b z)
      | some o => rw [hupk b o y]; simp
    · by_cases y : b = a
      · right
        rw [y]
        exact ex.none ha
      · by_cases y2 : b = d
        · right
          rw [y2]
          exact q3
        · have z : upd (upd F1 d (.xd fs)) a (exv a (c.cA e.c) (some d)) b ≠ none := z
          rw [upd_ne y, upd_ne y2] at z
          exact ex.new b z
    · exact env_caught hlen hki (by rw [← hnl]; exact (List.getElem?_eq_some_iff.mp hk).1) hdat
  · exact ⟨false, hsub _ _ hsf, (fun z => by cases z), fun _ => hp F1 H1 d τ ex g1 ⟨fs, q1, q2, q3, q4⟩⟩
end
end DL
/-! DX4: a def that calls the lambda it got, within try / except .. as; a lambda handed to it. -/
namespace DL
open PySem PySem.Spec L2
open PyProof.Rows
section
variable {X : Cx} {pins : List (Addr × Obj)} {σ : L2.St} {H HZ : Hp} {s s1 : Shared}
/-- a(), in the def that got the lambda; the wish knows the slots -/
theorem pe_ask {CXg : CXT} {Eg : XK} {Ng : List Str} {qg : Str} {sg : Scope} {g f c' : Addr} {cdg pm ctv : Value} {params : Arguments} {body : Expr} {scope : Scope} {k i : Nat} {a : Str} {pn : List (Addr × Obj)} {xe : Value → Shared → Prop} {W : WX} {tb : XK → TE} {p1 p2 : Pos}
    (I : Inv X pins σ H s) (L : LamX.LamS X.env.scope scope) (hf : s.heap.get? f = some (PySem.W.kla_obj "<lambda>" (X.env.qual ++ "<lambda>") params body scope (cloFrom X.env.cells scope.names []) pm c' ctv)) (hfn : H f = none) (hfr : f ∉ frs X.stack)
    (hbind : bindArgs (PySem.W.kla_fn "<lambda>" (X.env.qual ++ "<lambda>") params body scope (cloFrom X.env.cells scope.names []) pm (.ref c') ctv) ⟨[], []⟩ = pure [])
    (tk : Takes ((cxOf CXg X.prog X.w X.K X.mg X.base Ng qg sg g cdg X.A X.stack s H Eg).tr pn xe) W) (hr : Room (k + 1) (X.A.deeper (envOfC qg sg s.heap.objs.size g cdg)))
    (hbody : ∀ (A : Around) (outer : List Env) (s : Shared) (H : Hp) (E : XK), Room k (A.deeper (LamX.lamEnv X scope s.heap.objs.size f c')) → PE (LamX.lamCx X A outer s H E scope f c') body (tb E))
    (hN : Ng[i]? = some a) (hv : Vis sg a) (hd : (a == ("__debug__" : Str)) = false) (hcd : (a == ("__classdict__" : Str)) = false) :
    PE ((cxOf CXg X.prog X.w X.K X.mg X.base Ng qg sg g cdg X.A X.stack s H Eg).tr pn xe) (.Call (.Name a p1) [] [] p2)
      (fun σZ HZ Q => σZ[i]? = some (some (.ref f)) ∧ HZ c' = some (LamX.CodeO c' (X.env.qual ++ "<lambda>")) ∧ tb (fun cls d H' => W cls d σZ H') σ HZ Q) := by
  refine ⟨fun pinsZ sZ σZ HZ Q IZ h => ?_⟩
  obtain ⟨hs, hc, ht⟩ := h
  refine wpAny_Call_Name_kw (thn ((pe_var (pos := p1) (i := i) hN hv hd hcd).run pinsZ sZ σZ HZ (fun v H1 => v = .ref f ∧ H1 = HZ) IZ ⟨.ref f, hs, rfl, rfl⟩) fun u s1 ⟨v, H1, I1, r1, q1⟩ => ?_)
  obtain ⟨ev, eH⟩ := q1
  subst ev
  rw [eH] at I1
  obtain rfl : u = Value.ref f := r1
  have of1 : s1.heap.get? f = some (PySem.W.kla_obj "<lambda>" (X.env.qual ++ "<lambda>") params body scope (cloFrom X.env.cells scope.names []) pm c' ctv) := I1.base.keep f _ hf hfn hfr (fun z => nomatch (show f ∈ ([] : List Addr) from z))
  refine PySem.W.callWith_F0 ⟨_, _, _, _, of1⟩ ?_
  have un : Un (frs X.stack) [] H HZ s.heap s1.heap := I1.base
  have hco : ObjOk X.prog X.w HZ s1.heap c' (.ext fun h => ∃ (oc : Obj) (vs : Array Value) (t : Tok), h.get? c' = some oc ∧ oc.data = .fields vs ∧ vs[1]? = some (.str (X.env.qual ++ "<lambda>") t)) := I1.hok c' _ hc
  obtain ⟨⟨oc, vs, t, hoc, hdc, hvc⟩, _, _⟩ := hco
  have rc : codeAny (model X.prog X.w) (X.A.deeper (envOfC qg sg s.heap.objs.size g cdg)) (.call (.ref f) ⟨[], []⟩) (CR (L2.CX X.prog X.w) (envOfC qg sg s.heap.objs.size g cdg :: X.stack) X.prog X.w HZ s1 Q (fun cls d H' => W cls d σZ H')) s1 := by
    refine PySem.W.kla_callFunE hr.toRoom.depth of1 rfl L.co L.gen rfl ⟨c', oc, vs, t, rfl, hoc, hdc, hvc⟩ ?_
    rw [hbind]
    refine wpAny_pure (wpAny_newFunctionEnv (fun y hy => (L.own y hy).2) (fun y hy => absurd hy (by simp)) (fun h₁ hns hsb => ⟨I1.nolimit.fresh _ hsb, ?_⟩) L.kind)
    show codeAny _ _ (.expr body (LamX.lamEnv X scope s1.heap.objs.size f c')) _ _
    have kp : ∀ b o, s1.heap.get? b = some o → h₁.get? b = some o := fun b o e => hsb.extBut b o (Nat.ne_of_lt (Heap.lt_size e)) (Heap.get?_push_of_some _ e)
    have J : Inv (LamX.lamCx X (X.A.deeper (envOfC qg sg s.heap.objs.size g cdg)) (envOfC qg sg s.heap.objs.size g cdg :: X.stack) s1 HZ (fun cls d H' => W cls d σZ H') scope f c') [] σ HZ { s1 with heap := h₁, toks := s1.toks + ([] : List (Str × Value)).length } :=
      LamX.lam_start2 I L I1.env0 hr.hd un hns kp
    refine PySem.W.kla_codeExpr (wpAny_mono ((hbody _ _ s1 HZ _ (hr.deeper _)).run [] _ _ HZ Q J ht) (fun v s' hq => ?_) fun e s' hq => hq)
    obtain ⟨w', H', J', rv, q⟩ := hq
    exact ⟨w', H', J'.os, J'.bare, J'.base, J'.hok, rv, q⟩
  refine wpAny_call (codeAny_mono rc fun r s' hq => ?_)
  cases r with
  | error e => exact tk e s' (XE.of_call I1 (fun _ _ _ z => z) hq)
  | ok fl =>
    cases fl with
    | ret u => exact I1.after hq
    | next => exact False.elim hq
    | brk => exact False.elim hq
    | cont => exact False.elim hq
end
/-! ### trees -/
def T.bindX {α β : Type} : T α → (α → T β) → (Xc → T β) → T β
  | .ok a, f, _ => f a
  | .exc e, _, g => g e
  | .stuck, _, _ => .stuck
  | .draw n k, f, g => .draw n fun d => bindX (k d) f g
theorem T.All.bindX {α β : Type} {f : α → T β} {g : Xc → T β} {P : Nat → β → Prop} {E : Nat → Xc → Prop} : ∀ {t : T α} {j : Nat}, (t.bindX f g).All j P E → t.All j (fun j' a => (f a).All j' P E) (fun j' e => (g e).All j' P E)
  | .ok _, _, h => h
  | .exc _, _, h => h
  | .stuck, _, h => h
  | .draw _ _, _, ⟨h1, h2, h3, h⟩ => ⟨h1, h2, h3, fun d a b => All.bindX (h d a b)⟩
section
variable {c : Ct} {K : PySem.W.Frag} {ob : Addr} {F0 H0 F H F1 H1 : Hp} {σ : L2.St} {γ : Gm} {j : Nat}
/-- a slot is forgotten -/
theorem EnvOk.forget {i : Nat} (h : EnvOk c K F H σ γ) : EnvOk c K F H σ (γ.set i .no) := by
  have key : ∀ {k : Nat} {o : SV}, (γ.set i .no)[k]? = some o → o ≠ .no → γ[k]? = some o := fun {k o} q n => by
    rcases get_set q with ⟨_, e, _⟩ | ⟨_, q⟩
    · exact absurd e n
    · exact q
  refine ⟨by simp [h.len], fun k d q => h.val k d (key q (by simp)), fun k ds q => h.own k ds (key q (by simp)), fun k n gs q => h.obj k n gs (key q (by simp)), fun x y o u b q1 o1 q2 o2 z1 z2 => ?_⟩
  exact h.ne x y o u b (key q1 (by rintro rfl; cases o1)) o1 (key q2 (by rintro rfl; cases o2)) o2 z1 z2
theorem SOk.forget {i : Nat} (s : SOk c K ob F0 H0 σ H γ F j) : SOk c K ob F0 H0 σ H (γ.set i .no) F j := by
  refine ⟨s.gd, s.ext, s.env.forget, fun a h => s.own a ?_, fun a h => s.obj a ?_⟩
  · obtain ⟨k, o, q, ho, z⟩ := h
    rcases get_set q with ⟨_, e, _⟩ | ⟨_, q⟩
    · rw [e] at ho; cases ho
    · exact ⟨k, o, q, ho, z⟩
  · obtain ⟨k, n, gs, q, z⟩ := h
    rcases get_set q with ⟨_, e, _⟩ | ⟨_, q⟩
    · cases e
    · exact ⟨k, n, gs, q, z⟩
theorem SOk.setNo {i : Nat} (s : SOk c K ob F0 H0 σ H γ F j) : SOk c K ob F0 H0 (σ.set i none) H (γ.set i .no) F j := by
  refine ⟨s.gd, s.ext, set_no s.env, fun a h => s.own a ?_, fun a h => s.obj a ?_⟩
  · obtain ⟨k, o, q, ho, z⟩ := h
    rcases get_set q with ⟨_, e, _⟩ | ⟨n, q⟩
    · rw [e] at ho; cases ho
    · rw [List.getElem?_set_ne (Ne.symm n)] at z
      exact ⟨k, o, q, ho, z⟩
  · obtain ⟨k, n, gs, q, z⟩ := h
    rcases get_set q with ⟨_, e, _⟩ | ⟨n', q⟩
    · cases e
    · rw [List.getElem?_set_ne (Ne.symm n')] at z
      exact ⟨k, n, gs, q, z⟩
/-- an exception that was caught is kept -/
theorem caught_heap {a d : Addr} {fs : List (Str × V)} {e : Xc} (g1 : Good c F1 H1 j) (q1 : H1 d = some (.xd fs)) (q2 : DatF c K F1 fs e.fs) (q4 : F1 d = none) (ha : H1 a = none) :
    ∃ F2, Good c F2 (upd H1 a (exv a (c.cA e.c) (some d))) j ∧ (∀ F0 H0, H0 d = none → Ext c F0 H0 F1 H1 → Ext c F0 H0 F2 (upd H1 a (exv a (c.cA e.c) (some d)))) ∧ Dat c K F2 (.ref a) (.exn e.c e.fs) := by
  have na : a ≠ d := fun z => by rw [z, q1] at ha; cases ha
  have npa := g1.nePen ha
  have npd : d ≠ c.pa ∧ d ≠ c.sa := by
    obtain ⟨_, _, ⟨⟨_, p1⟩, ⟨_, p2⟩, _⟩, _, _⟩ := g1
    exact ⟨fun z => (by rw [z, p1] at q1; cases q1), fun z => (by rw [z, p2] at q1; cases q1)⟩
  have fa : F1 a = none := g1.fresh (o := .lst []) ha
  have up : ∀ b o, F1 b = some o → upd (upd F1 d (.xd fs)) a (exv a (c.cA e.c) (some d)) b = some o := fun b o z => by
    rw [upd_ne (fun y => by rw [y, fa] at z; cases z), upd_ne (fun y => by rw [y, q4] at z; cases z)]
    exact z
  have hupk : ∀ b o, H1 b = some o → upd H1 a (exv a (c.cA e.c) (some d)) b = some o := fun b o z => by rw [upd_ne (ne_of_none z ha)]; exact z
  refine ⟨upd (upd F1 d (.xd fs)) a (exv a (c.cA e.c) (some d)), ⟨fun b o z => ?_, ?_, ?_, tabs_keep g1.tab (fun b o _ _ z => hupk b o z) (fun _ _ h => tbl_upd .exv h), nt_upd (nt_upd g1.nt .xd) .exv⟩, fun F0 H0 hd ex => ⟨fun b o z => up b o (ex.up b o z), fun b o nb nt z => hupk b o (ex.keep b o nb nt z), fun b z => ?_, fun b z => ?_⟩, .exn (d := d) upd_same (by rw [upd_ne (Ne.symm na), upd_same]) (q2.mono up)⟩
  · by_cases y : b = a
    · rw [y] at z ⊢
      rw [upd_same] at z ⊢
      exact z
    · rw [upd_ne y] at z
      by_cases y2 : b = d
      · rw [y2, upd_same] at z
        cases z
        rw [y2]
        exact hupk d _ q1
      · rw [upd_ne y2] at z
        exact hupk b o (g1.sub b o z)
  · intro hp
    rw [upd_ne (Ne.symm npa.1), upd_ne (Ne.symm npd.1)]
    exact g1.pa hp
  · exact g1.pen.keep fun b vs _ z => hupk b _ z
  · cases y : H1 b with
    | none => exact absurd y (ex.there b z)
    | some o => rw [hupk b o y]; simp
  · by_cases y : b = a
    · right
      rw [y]
      exact ex.none ha
    · by_cases y2 : b = d
      · right
        rw [y2]
        exact hd
      · rw [upd_ne y, upd_ne y2] at z
        exact ex.new b z
end
end DL
namespace DL
open PySem PySem.Spec L2
open PyProof.Rows
/-- a statement around the call of what was got -/
structure AskS (Z : Cx) (ask : Expr) (S : List Stmt) (post : Ends → L2.St → VK) : Prop where
  ps : ∀ ta, PE Z ask ta → PSs Z S (fun D σ H => ta σ H (post D σ))
def postR1 : Ends → L2.St → VK := fun D _ v H => ∀ p, H p = none → D.rt (.ref p) (upd H p (.lst [v]))
def postR0 : Ends → L2.St → VK := fun D _ v H => D.rt v H
def postS (i : Nat) : Ends → L2.St → VK := fun D σ v H => D.nx (σ.set i (some v)) H
def postD : Ends → L2.St → VK := fun D σ v H => D.nx σ H
section
variable {Z : Cx} {ask : Expr} {p p' : Pos}
theorem ask_R1 (hs : starEach [ask] Z.env = (false, eval ask Z.env) :: starEach [] Z.env := by rfl) : AskS Z ask [.Return (some (.List [ask] p)) p'] postR1 :=
  ⟨fun ta h => (pss_one (ps_ret (pe_lst (pa_cons h pa_nil hs)))).imp fun D σ H q => by
    have : (tLst (tCons ta tNil)) σ H D.rt := by
      show ta σ H fun x H1 => ([x] : List V).length ≤ sizeLine ∧ ∀ p, H1 p = none → D.rt (.ref p) (upd H1 p (.lst [x]))
      have e : (fun (x : V) (H1 : Hp) => ([x] : List V).length ≤ sizeLine ∧ ∀ p, H1 p = none → D.rt (.ref p) (upd H1 p (.lst [x]))) = postR1 D σ := by
        funext x H1
        exact propext ⟨fun z => z.2, fun z => ⟨by rw [sizeLine_eq]; simp, z⟩⟩
      rw [e]
      exact q
    exact this⟩
theorem ask_R0 : AskS Z ask [.Return (some ask) p'] postR0 := ⟨fun ta h => (pss_one (ps_ret h)).imp fun D σ H q => q⟩
theorem ask_S (i : Nat) {y : Str} (hN : Z.N.Nodup) (hi : Z.N[i]? = some y := by rfl) (hx : Loc Z.env.scope y := by first | exact Or.inl rfl | exact Or.inr rfl) (hs : swapsWith ask (some (.Name y p)) p'.line Z.env = pure false := by rfl)
    (hf : Z.fn y = true ∨ Z.env.scope.names.lookup y = some .local := by first | exact .inl rfl | exact .inr rfl) : AskS Z ask [.Assign [.Name y p] ask p'] (postS i) := ⟨fun ta h => (pss_one (ps_set hN hi hx h hs hf)).imp fun D σ H q => q⟩
theorem ask_D (hs : swapsWith ask none p'.line Z.env = pure false := by rfl) : AskS Z ask [.Expr ask p'] postD := ⟨fun ta h => (pss_one (ps_expr h hs)).imp fun D σ H q => q⟩
end
section
variable {c : Ct} {K : PySem.W.Frag} {ob : Addr} {F0 H0 F H : Hp} {σ : L2.St} {γ : Gm} {j : Nat} {E : Ends} {v : V} {d : D}
theorem post_R1 (s : SOk c K ob F0 H0 σ H γ F j) (r : Dat c K F v d) (h : pS c K ob F0 H0 E j (.rt (.lst [d]))) : postR1 E σ v H := fun p hp => by
  obtain ⟨g2, e2⟩ := s.gd.lay (o := .lst [v]) hp
  exact h _ _ _ (s.ext.trans e2) g2 (.lst upd_same (.cons (r.mono e2.up) .nil))
theorem post_R0 (s : SOk c K ob F0 H0 σ H γ F j) (r : Dat c K F v d) (h : pS c K ob F0 H0 E j (.rt d)) : postR0 E σ v H := h _ _ _ s.ext s.gd r
theorem post_S {i : Nat} (s : SOk c K ob F0 H0 σ H γ F j) (r : Dat c K F v d) (h : pS c K ob F0 H0 E j (.nx (γ.set i (.val d)))) : postS i E σ v H := h _ _ _ (s.setVal r)
theorem post_D (s : SOk c K ob F0 H0 σ H γ F j) (r : Dat c K F v d) (h : pS c K ob F0 H0 E j (.nx γ)) : postD E σ v H := h _ _ _ s
end
def restD (mrest : Gm → T Fl) (γ : Gm) : T D := (mrest γ).bind fun fl => (match fl with
  | .nx _ => .ok .non
  | .rt d => .ok d
  | _ => .stuck)
def endF (mrest : Gm → T Fl) : Fl → T D
  | .rt d => .ok d
  | .nx γ => restD mrest γ
  | _ => .stuck
/-- what the def makes of what it got -/
def heardT (sub : Nat → Option Bool) (i k : Nat) (γp : Gm) (ok : D → Gm → Fl) (mrest : Gm → T Fl) (t : T D) : T D :=
  t.bindX (fun d => endF mrest (ok d (SV.no :: γp))) fun e => match sub e.c with
    | some true => restD mrest ((((SV.no :: γp).set i (.val (.exn e.c e.fs))).set k (.val (.exn e.c e.fs))).set i .no)
    | _ => .stuck
def mHeard (h : T D → T D) (mb : Gm → T RV) : Gm → T RV := fun γ => (h ((mb γ).bind asD)).bind fun d => okV d
/-- the facts of the def x that gets a lambda -/
structure Hears (P : Program) (w : World) (K : PySem.W.Frag) (mg : Str → Option Value) (base : Heap) (c : Ct) (x a : Str) (g : Addr) (k : Nat) (h : T D → T D) : Prop where
  run : ∀ (X : Cx) (W : WX), X.prog = P → X.w = w → X.K = K → X.mg = mg → X.base = base → Takes X W → ∀ (pins : List (Addr × Obj)) (σ : L2.St) (H : Hp) (s : Shared) (f c' : Addr) (params : Arguments) (body : Expr) (scope : Scope) (pm ctv : Value) (F : Hp) (γ : Gm) (j : Nat) (mb : Gm → T RV) (Q : VK),
    Inv X pins σ H s → LamX.LamS X.env.scope scope → s.heap.get? f = some (PySem.W.kla_obj "<lambda>" (X.env.qual ++ "<lambda>") params body scope (cloFrom X.env.cells scope.names []) pm c' ctv) → H f = none → f ∉ frs X.stack → H c' = some (LamX.CodeO c' (X.env.qual ++ "<lambda>")) →
    (∀ (q : Str) (cl : List (Str × Addr)) (pm cv ctv : Value), bindArgs (PySem.W.kla_fn "<lambda>" q params body scope cl pm cv ctv) ⟨[], []⟩ = pure []) →
    Room (k + 2) X.A → (∀ (A : Around) (outer : List Env) (s : Shared) (H : Hp) (E : XK), Room k (A.deeper (LamX.lamEnv X scope s.heap.objs.size f c')) → DE (LamX.lamCx X A outer s H E scope f c') c (fun cls d _ H => E cls d H) body mb) →
    Good c F H j → EnvOk c K F H σ γ → ((h ((mb γ).bind asD)).bind fun d => okV d).All j (pE c K F H Q) (pX c K W F H σ) →
    wpAny (model P w) X.A (call (.ref g) [.ref f]) (EP X pins σ Q) X.xe s
section
variable {P : Program} {w : World} {K : PySem.W.Frag} {mg : Str → Option Value} {base : Heap} {c : Ct}
theorem hears_of {x a n y ex : Str} {g : Addr} {k i kk cc : Nat} {pg : Arguments} {pre : Stmt} {S rest : List Stmt} {sg : Scope} {fd : FuncData} {Ng : List Str} {np q1 q2 q3 pos' tpos p1 p2 : Pos} {mpre mrest : Gm → T Fl} {γp : Gm} {ok : D → Gm → Fl} {sub : Nat → Option Bool} {post : Ends → L2.St → VK}
    (Fg : FunD K x x pg (pre :: .Try S [.ExceptHandler (some (.Name ex np)) (some n) [.Assign [.Name y q1] (.Name n q2) q3] pos'] [] [] tpos :: rest) sg [] [] g fd) (hb : Binds K fd [a] []) (Sg : FnScope Ng [a] sg) (hm : mg ex = some (.ref (c.cA cc)))
    (hsub : ∀ n b, sub n = some b → PySem.W.exmOne K (.ref (c.cA n)) (.ref (c.cA cc)) = some b)
    (hpre : ∀ (cdv : Value) (A : Around) (outer : List Env) (s : Shared) (H : Hp) (E : XK), Room (k + 1) (A.deeper (envOfC x sg s.heap.objs.size g cdv)) → DS (cxOf (CX P w) P w K mg base Ng x sg g cdv A outer s H E) c (fun cls d _ H => E cls d H) pre mpre)
    (hrest : ∀ (cdv : Value) (A : Around) (outer : List Env) (s : Shared) (H : Hp) (E : XK), Room (k + 1) (A.deeper (envOfC x sg s.heap.objs.size g cdv)) → DSs (cxOf (CX P w) P w K mg base Ng x sg g cdv A outer s H E) c (fun cls d _ H => E cls d H) rest mrest)
    (hask : ∀ (cdv : Value) (A : Around) (outer : List Env) (s : Shared) (H : Hp) (E : XK) (pn : List (Addr × Obj)) (xe : Value → Shared → Prop), AskS ((cxOf (CX P w) P w K mg base Ng x sg g cdv A outer s H E).tr pn xe) (.Call (.Name a p1) [] [] p2) S post)
    (hpost : ∀ {c : Ct} {K : PySem.W.Frag} {ob : Addr} {F0 H0 F H : Hp} {σ : L2.St} {γ : Gm} {j : Nat} {E : Ends} {v : V} {d : D}, SOk c K ob F0 H0 σ H γ F j → Dat c K F v d → pS c K ob F0 H0 E j (ok d γ) → post E σ v H)
    (hmp : ∀ f, mpre (.val (.adr f) :: List.replicate (Ng.length - 1) .no) = .ok (.nx (.val (.adr f) :: γp)))
    (hsw : ∀ (cdv : Value) (L : Addr), swapsWith (.Name n q2) (some (.Name y q1)) q3.line (envOfC x sg L g cdv) = pure false)
    (h0 : Ng[0]? = some a := by rfl) (hi : Ng[i]? = some n := by rfl) (hln : sg.names.lookup n = some .local := by rfl) (hk : Ng[kk]? = some y := by rfl) (hly : sg.names.lookup y = some .local := by rfl) (hge : sg.names.lookup ex = some .globalImplicit := by rfl) (hva : sg.names.lookup a = some .local := by rfl)
    (hn1 : (n == ("__debug__" : Str)) = false := by decide) (hn2 : (n == ("__classdict__" : Str)) = false := by decide) (ha1 : (a == ("__debug__" : Str)) = false := by decide) (ha2 : (a == ("__classdict__" : Str)) = false := by decide) (hx1 : (ex == ("__debug__" : Str)) = false := by decide) :
    Hears P w K mg base c x a g k (heardT sub i kk γp ok mrest) := by
  refine ⟨fun X W eP ew eK em eb tk pins σ H s f c' params body scope pm ctv F γ j mb Q I L hf hfn hfr hco hbind hr hbody gd en h => ?_⟩
  subst eP ew eK em eb
  obtain ⟨oc, od, dV, kV, doc, pmg, an, cdv, ct, osl, rfl, lk, hcd, _, _⟩ := Fg.ex
  have rc : codeAny (model X.prog X.w) X.A (.call (.ref g) ⟨[.ref f], []⟩) (CR (L2.CX X.prog X.w) X.stack X.prog X.w H s Q (fun cls d H' => W cls d σ H')) s := by
    refine LamX.run_ofS (N := Ng) (ps := [a]) (us := [.ref f]) (vs := [.ref f]) lk hcd Sg hr.toRoom I.env0 (hb s [.ref f] I.kIn rfl) (.cons rfl .nil) rfl fun hr0 => ?_
    have hr' : Room (k + 1) (X.A.deeper (envOfC x sg s.heap.objs.size g cdv)) := ⟨hr0, hr.gd⟩
    have hgl : Gl (cxOf (CX X.prog X.w) X.prog X.w X.K X.mg X.base Ng x sg g cdv X.A X.stack s H (fun cls d H' => W cls d σ H')) ex := hge
    refine ⟨_, pss_cons (hpre cdv X.A X.stack s H (fun cls d H' => W cls d σ H') hr').ps (pss_cons (ps_try_keep (X := cxOf (CX X.prog X.w) X.prog X.w X.K X.mg X.base Ng x sg g cdv X.A X.stack s H (fun cls d H' => W cls d σ H')) (Wout := fun cls d _ H' => W cls d σ H')
        (tb := fun W' D σ' H' => σ'[0]? = some (some (.ref f)) ∧ H' c' = some (LamX.CodeO c' (X.env.qual ++ "<lambda>")) ∧ tE c X.K (fun cls d _ H2 => W' cls d σ' H2) mb σ H' (post D σ'))
        rfl rfl rfl Sg.nd hi hln hk hly ⟨hgl, hx1, .inl hm⟩ (takes_of rfl rfl rfl rfl)
        (fun W' pn xe tk' _ => (hask cdv X.A X.stack s H (fun cls d H' => W cls d σ H') pn xe).ps _ (pe_ask (i := 0) (tb := fun E => tE c X.K (fun cls d _ H => E cls d H) mb) I L hf hfn hfr (hbind _ _ _ _ _) tk' hr' (fun A outer s H E hr2 => (hbody A outer s H E hr2).pe) h0 (.inl hva) ha1 ha2)) (hsw cdv s.heap.objs.size) hn1 hn2)
      (hrest cdv X.A X.stack s H (fun cls d H' => W cls d σ H') hr').ps), ?_⟩
    have hN1 : (1 : Nat) ≤ Ng.length := (List.getElem?_eq_some_iff.mp h0).1
    refine ⟨0, F, H, F, _, j, ⟨gd, .refl, env_start (N := Ng) (ds := [.adr f]) hN1 (.cons (.adr f) .nil), fun b o => absurd o own_start, fun b o => absurd o obj_start⟩, ?_⟩
    have hmp' : mpre ([D.adr f].map SV.val ++ List.replicate (Ng.length - [D.adr f].length) SV.no) = .ok (.nx (.val (.adr f) :: γp)) := hmp f
    rw [hmp']
    intro σ1 F1 H1 s1
    obtain ⟨v0, hv0, hd0⟩ := s1.env.val 0 (.adr f) rfl
    obtain rfl : v0 = .ref f := by cases hd0; rfl
    have s2 : SOk c X.K 0 F H σ1 H1 (SV.no :: γp) F1 j := s1.forget (i := 0)
    -- what comes behind
    have behind : ∀ {j' : Nat} {γ' : Gm} {σ' : L2.St} {F' H' : Hp}, SOk c X.K 0 F H σ' H' γ' F' j' → (restD mrest γ').All j' (fun j'' d => (okV d).All j'' (pE c X.K F H Q) (pX c X.K W F H σ)) (pX c X.K W F H σ) →
        tS c X.K (fun cls d _ H => W cls d σ H) mrest { nx := fun _ H' => Q .non H', rt := Q } σ' H' := fun {j' γ' σ' F' H'} s' q => by
      refine ⟨0, F, H, F', γ', j', s', (T.All.bind q).imp (fun j2 fl hfl => ?_) fun j2 e he F2 H2 d τ e2 g2 qd => he F2 H2 d e2 g2 qd⟩
      cases fl with
      | nx γ2 => exact fun σ2 F2 H2 s2 => hfl F2 H2 .non s2.ext s2.gd Dat.non
      | rt d => exact fun F2 H2 v e2 g2 r2 => hfl F2 H2 v e2 g2 r2
      | bk γ2 => exact hfl.elim
      | ct γ2 => exact hfl.elim
    refine ⟨hv0, s1.ext.keep c' _ (fun z => ?_) (fun _ z => by unfold LamX.CodeO at z; cases z) hco, F1, γ, j, s1.gd, en.ext s1.ext, (T.All.bind (T.All.bindX (T.All.bind h))).imp (fun j' v' hx F2 H2 v e2 g2 r2 => ?_) fun j' e he F2 H2 d e2 g2 qd => ?_⟩
    · obtain ⟨_, _, ⟨⟨_, p1⟩, _⟩, _, _⟩ := gd
      rw [z, p1] at hco
      unfold LamX.CodeO at hco
      cases hco
    · obtain ⟨d, rfl, hd, h2⟩ := r2.asD hx
      refine hpost (s2.step e2 g2) hd ?_
      revert h2
      cases ok d (SV.no :: γp) with
      | rt d' => exact fun h2 F3 H3 v3 e3 g3 r3 => h2 F3 H3 v3 e3 g3 r3
      | nx γ3 => exact fun h2 σ3 F3 H3 s3 => behind s3 h2
      | bk γ3 => exact fun h2 => h2.elim
      | ct γ3 => exact fun h2 => h2.elim
    · obtain ⟨fs, qa, qb, qc, qd⟩ := qd
      split at he
      · rename_i hst
        refine ⟨true, hsub _ _ hst, fun _ hlen a2 ha2 => ⟨_, rfl, ?_⟩, fun z => by cases z⟩
        obtain ⟨F3, g3, ex3, hd3⟩ := caught_heap g2 qa qb qd ha2
        exact behind ((((s2.step (ex3 F1 H1 qc e2) g3).setVal (i := i) hd3).setVal (i := kk) hd3).setNo (i := i)) he
      · exact he.elim
  refine wpAny_call (codeAny_mono rc fun r s2 hq => ?_)
  cases r with
  | error e => exact tk e s2 (XE.of_call I (fun _ _ _ z => z) hq)
  | ok fl =>
    cases fl with
    | ret u => exact I.after hq
    | next => exact False.elim hq
    | brk => exact False.elim hq
    | cont => exact False.elim hq
end
section
variable {X : Cx} {pins : List (Addr × Obj)} {σ : L2.St} {H : Hp} {s : Shared}
/-- a lambda is made: what was tracked stays tracked, no table is new -/
theorem lam_make3 {T : List (Addr × Str)} {c P : Addr} {params : Arguments} {body : Expr} {scope : Scope} {pos : Pos} {E : Value → Shared → Prop} {Q : Value → Shared → Prop} (I : Inv X pins σ H s) (TB : LamX.TabB X.base X.mg c P) (hcode : X.env.code = .ref c)
    (hm : (P, X.env.qual ++ "<lambda>") ∈ T) (hu : ∀ p ∈ T, p.1 = P → p.2 = X.env.qual ++ "<lambda>") (hT : TabA T H) (hdef : defaultsOf params X.env = ([], [])) (hfree : ∀ y ∈ scope.names, y.2 = .free → ∃ c, X.env.cells.lookup y.1 = some c)
    (h : ∀ (f c' : Addr) (pm ctv : Value) (H1 : Hp) (s' : Shared), Inv X pins σ H1 s' → LamX.ExtN H H1 → TabA T H1 → (∀ b, H b ≠ none → H1 b ≠ none) →
      s'.heap.get? f = some (PySem.W.kla_obj "<lambda>" (X.env.qual ++ "<lambda>") params body scope (cloFrom X.env.cells scope.names []) pm c' ctv) → H1 f = none → f ∉ frs X.stack → H1 c' = some (LamX.CodeO c' (X.env.qual ++ "<lambda>")) → Q (.ref f) s') :
    wpAny (model X.prog X.w) X.A (eval (.Lambda params body scope pos) X.env) Q E s := by
  obtain ⟨ps, hP, ht, ha⟩ := hT.tab _ hm
  refine PySem.W.kla_eval hdef ?_
  have bP : s.heap.BuiltinsAt X.mg P := TB.bm.keeps I.bk
  have hP' : s.heap.get? P = some { cls := .none, data := .fields ps } := I.hok P _ hP
  have nofr : ∀ f, s.heap.objs.size ≤ f → f ∉ frs X.stack := fun f hf z => by
    rcases List.mem_cons.mp (I.stkSub _ z) with e | e
    · have h1 := I.lt
      rw [← e] at h1
      exact Nat.lt_irrefl _ (Nat.lt_of_lt_of_le h1 hf)
    · exact I.nofs hf e
  cases hc : codeAmong pos ps.toList with
  | some cv =>
    obtain ⟨c', e, hco⟩ := ha pos cv hc
    subst e
    refine PySem.W.kla_makeFunctionHit (mg := X.mg) (c := c) (P := P) (ps := ps) (closure_ok hfree) I.ok.glob (I.mod.glob.keeps I.bk) hcode (TB.code.keeps I.bk) hP' ht hc bP fun ctv h' tk hx hsz => ?_
    have I1 : Inv X pins σ H { s with heap := h'.push (PySem.W.kla_obj "<lambda>" (X.env.qual ++ "<lambda>") params body scope (cloFrom X.env.cells scope.names []) ((X.mg "__name__").getD .none) c' ctv), toks := tk } := I.kept fun b o e => Heap.get?_push_of_some _ (hx b o e)
    exact h h'.objs.size c' ((X.mg "__name__").getD .none) ctv H _ I1 (LamX.ExtN.refl H) hT (fun _ z => z) (Heap.get?_push_size _ rfl) (I.hok.fresh hsz) (nofr _ hsz) hco
  | none =>
    refine PySem.W.kla_makeFunction (mg := X.mg) (c := c) (P := P) (ps := ps) (closure_ok hfree) I.ok.glob (I.mod.glob.keeps I.bk) hcode (TB.code.keeps I.bk) hP' ht hc TB.gP bP fun c' ctv h' tk hx hge hlt hrec htb => ?_
    obtain ⟨c2, oc, vs, t, e2, hoc, hd, hv⟩ := hrec
    cases e2
    have hsz : s.heap.objs.size ≤ h'.objs.size := Nat.le_trans hge (Nat.le_of_lt hlt)
    have nC : H c' = none := I.hok.fresh hge
    have I1 := LamX.inv_table (t' := tk) (more := #[rawInt pos.line, rawInt pos.col, .ref c']) (h' := h'.push (PySem.W.kla_obj "<lambda>" (X.env.qual ++ "<lambda>") params body scope (cloFrom X.env.cells scope.names []) ((X.mg "__name__").getD .none) c' ctv)) I hP
      (fun b o hb e => Heap.get?_push_of_some _ (hx b o hb e)) (Heap.get?_push_of_some _ htb) hge ⟨oc, vs, t, Heap.get?_push_of_some _ hoc, hd, hv⟩
    have hE : LamX.ExtN H (upd (upd H P (.tbl (ps ++ #[rawInt pos.line, rawInt pos.col, .ref c']))) c' (LamX.CodeO c' (X.env.qual ++ "<lambda>"))) := fun b o e n => by
      rw [upd_ne (ne_of_none e nC), upd_ne (fun z => n ps (Option.some.inj (e.symm.trans (by rw [z]; exact hP))))]
      exact e
    have eL : (ps ++ #[rawInt pos.line, rawInt pos.col, .ref c']).toList = ps.toList ++ [rawInt pos.line, rawInt pos.col, .ref c'] := by simp
    refine h h'.objs.size c' ((X.mg "__name__").getD .none) ctv _ _ I1 hE ⟨fun p hp => ?_, fun b qs e => ?_⟩ (fun b hb => ?_) (Heap.get?_push_size _ rfl) ?_ (nofr _ hsz) upd_same
    · by_cases hb : p.1 = P
      · rw [hu p hp hb, hb]
        refine ⟨_, by rw [upd_ne (ne_of_none hP nC), upd_same], by rw [eL]; exact PySem.TriplesOk_snoc _ _ _ _ ht, fun p' cv hcv => ?_⟩
        rw [eL] at hcv
        rcases LamX.among_app _ ht hcv with z | z
        · obtain ⟨c0, e1, e2⟩ := ha p' cv z
          exact ⟨c0, e1, hE _ _ e2 LamX.codeO_ne⟩
        · exact ⟨c', z, upd_same⟩
      · obtain ⟨ps', a1, a2, a3⟩ := hT.tab p hp
        refine ⟨ps', by rw [upd_ne (ne_of_none a1 nC), upd_ne hb]; exact a1, a2, fun p' cv hcv => ?_⟩
        obtain ⟨c0, e1, e2⟩ := a3 p' cv hcv
        exact ⟨c0, e1, hE _ _ e2 LamX.codeO_ne⟩
    · have e := tbl_upd (fun ps => LamX.codeO_ne ps) e
      by_cases hb : b = P
      · rw [hb]; exact ⟨_, hm⟩
      · rw [upd_ne hb] at e; exact hT.all b qs e
    · by_cases e1 : b = c'
      · rw [e1, upd_same]; simp
      · rw [upd_ne e1]
        by_cases e2 : b = P
        · rw [e2, upd_same]; simp
        · rw [upd_ne e2]; exact hb
    · have n1 : h'.objs.size ≠ c' := Nat.ne_of_gt hlt
      have n2 : h'.objs.size ≠ P := Nat.ne_of_gt (Nat.lt_of_lt_of_le (Heap.lt_size hP') hsz)
      rw [upd_ne n1, upd_ne n2]
      exact I.hok.fresh hsz
end
section
variable {X : Cx} {c : Ct} {W : WX}
/-- x(lambda: e) -/
theorem de_lam {x a : Str} {g cx PX : Addr} {k : Nat} {h : T D → T D} {params : Arguments} {body : Expr} {scope : Scope} {mb : Gm → T RV} {p lpos pos : Pos} (R : Hears X.prog X.w X.K X.mg X.base c x a g k h) (hr : Room (k + 2) X.A) (tk : Takes X W) (hm : X.mg x = some (.ref g)) (hk : PySem.W.keepIn X.K (.ref g) = true)
    (TB : LamX.TabB X.base X.mg cx PX) (hcode : X.env.code = .ref cx) (hmT : (PX, X.env.qual ++ "<lambda>") ∈ c.tb) (hu : ∀ p ∈ c.tb, p.1 = PX → p.2 = X.env.qual ++ "<lambda>") (L : LamX.LamS X.env.scope scope)
    (hbody : ∀ (A : Around) (outer : List Env) (s : Shared) (H : Hp) (E : XK) (f c' : Addr), Room k (A.deeper (LamX.lamEnv X scope s.heap.objs.size f c')) → DE (LamX.lamCx X A outer s H E scope f c') c (fun cls d _ H => E cls d H) body mb)
    (hg : Gl X x := by rfl) (hdef : defaultsOf params X.env = ([], []) := by rfl) (hbind : ∀ (q : Str) (cl : List (Str × Addr)) (pm cv ctv : Value), bindArgs (PySem.W.kla_fn "<lambda>" q params body scope cl pm cv ctv) ⟨[], []⟩ = pure [] := by intros; rfl) (hdb : (x == ("__debug__" : Str)) = false := by decide) :
    DE X c W (.Call (.Name x p) [.Lambda params body scope lpos] [] pos) (mHeard h mb) := by
  refine ⟨⟨fun pins s σ H Q I ⟨F, γ, j, gd, en, hq⟩ => ?_⟩⟩
  refine wpAny_Call_Name_kw (ld_glob I hg hm ?_ hdb)
  refine PySem.W.callWith_K (h₀ := X.base) I.ok.mod.kin hk ?_ (by rfl) (by rfl)
  show wpAny _ _ (spliced ((false, eval (.Lambda params body scope lpos) X.env) :: backTo pos (starEach [] X.env))) _ _ s
  refine Calls.spliced_cons (lam_make3 I TB hcode hmT hu gd.tab hdef (L.has I.ok) fun f c' pm' ctv H1 s' I1 eN T1 there hf hfn hfr hco => ?_)
  refine Calls.spliced_nil ⟨I1.kIn, ?_⟩
  have ext : Ext c F H F H1 := ⟨fun _ _ z => z, fun b o _ nt z => eN b o z nt, there, fun _ z => .inl z⟩
  have gd1 : Good c F H1 j := by
    obtain ⟨g1, g2, gq, gt, gn⟩ := gd
    exact ⟨fun b o z => eN b o (g1 b o z) fun ps e => gn b ps (by rw [z, e]), g2, gq.keep fun b vs _ z => eN _ _ z NT.lst, T1, gn⟩
  exact R.run X W rfl rfl rfl rfl rfl tk pins σ H1 s' f c' params body scope pm' ctv F γ j mb Q I1 L hf hfn hfr hco hbind hr (fun A outer s H E hr2 => hbody A outer s H E f c' hr2) gd1 (en.ext ext) (hq.imp (fun _ _ z => z.ext ext) fun _ _ z => z.ext ext)
end
end DL
/-! DY0: isinstance; fields of exceptions that are kept. -/
namespace DL
open PySem PySem.Spec L2
open PyProof.Rows
/-- what a plain own class says -/
structure OwnC (K : PySem.W.Frag) (C : Addr) : Prop where
  cl : Cls K C
  ha : PySem.W.findIn K (.ref C) "__class__" = some (some (.builtin "object.__class__"))
  hn : PySem.W.specialIn K (.builtin "object.__class__") "__get__" = some (some (.builtin "getset_descriptor.__get__"))
  ht : PySem.W.takesIn K (.builtin "object.__class__") = some true
  hm : PySem.W.mroIn K C (.type "object") = some true
/-- the tables of isinstance -/
structure IsT where
  own : Nat → Bool
  exc : Nat → Bool
  tb : Nat → Nat → Option Bool
  ts : Nat → String → Option Bool
  cl : Nat → Bool
def tyN : D → Option String
  | .non => some "NoneType"
  | .bl _ => some "bool"
  | .int _ => some "int"
  | .str _ => some "str"
  | .tup _ => some "tuple"
  | .lst _ => some "list"
  | .dct _ => some "dict"
  | _ => none
def tyNames : List String := ["NoneType", "bool", "int", "str", "tuple", "list", "dict"]
/-- between built-in types -/
def isiB (a b : String) : Option Bool := if tyNames.contains a && tyNames.contains b then some (a == b || (a == "bool" && b == "int")) else none
theorem isiB_kit : ∀ a ∈ tyNames, ∀ b ∈ tyNames, kitB a b = some (a == b || (a == "bool" && b == "int")) := by decide +kernel
theorem isiB_ok {K : PySem.W.Frag} {a b : String} {r : Bool} (h : isiB a b = some r) : PySem.W.kitOne K (.type a) (.type b) = some r := by
  unfold isiB at h
  split at h
  · rename_i q
    obtain ⟨q1, q2⟩ := Bool.and_eq_true_iff.mp q
    cases h
    exact kit_ty (isiB_kit a (by simpa using q1) b (by simpa using q2))
  · cases h
def isi1 (I : IsT) (x : D) (c : D) : Option Bool := match c with
  | .ty s => (match x with
    | .ins n _ => if I.own n then I.ts n s else none
    | .exn n _ => if I.exc n then I.ts n s else none
    | x => (tyN x).bind fun t => isiB t s)
  | .cls m => (match x with
    | .ins n _ => if I.own n then I.tb n m else none
    | .exn n _ => if I.exc n then I.tb n m else none
    | x => (tyN x).bind fun t => if I.cl m then some false else none)
  | _ => none
structure IsF (K : PySem.W.Frag) (c : Ct) (I : IsT) : Prop where
  own : ∀ n, I.own n = true → OwnC K (c.cA n)
  exc : ∀ n, I.exc n = true → ExcC K (c.cA n)
  tb : ∀ n m b, I.tb n m = some b → PySem.W.kitOne K (.ref (c.cA n)) (.ref (c.cA m)) = some b
  ts : ∀ n s b, I.ts n s = some b → PySem.W.kitOne K (.ref (c.cA n)) (.type s) = some b
  cl : ∀ m, I.cl m = true → ∀ t ∈ tyNames, PySem.W.kitOne K (.type t) (.ref (c.cA m)) = some false
section
variable {X : Cx} {c : Ct} {W : WX} {F H : Hp} {pins : List (Addr × Obj)} {σ : L2.St} {s : Shared} {T : IsT} {j : Nat}
theorem exc_isome {K : PySem.W.Frag} {D : Addr} (h : ExcC K D) : (PySem.W.clsIn K D).isSome = true := by
  obtain ⟨cd, hc, _⟩ := PySem.W.any_some h.hd
  rw [hc]; rfl
/-- the type of the value -/
inductive TyV (c : Ct) : D → Value → Prop
  | b {d : D} {t : String} : tyN d = some t → TyV c d (.type t)
  | i (n : Nat) (gs : List (Str × D)) : TyV c (.ins n gs) (.ref (c.cA n))
  | e (n : Nat) (gs : List (Str × D)) : TyV c (.exn n gs) (.ref (c.cA n))
def dOk (T : IsT) : D → Bool
  | .ins n _ => T.own n
  | .exn n _ => T.exc n
  | x => (tyN x).isSome
theorem tyX_seq {K : PySem.W.Frag} {a : Addr} {vs : List V} (h : SqT K H a vs) : TyX K H (.ref a) (.type "tuple") := by
  rcases h with (h | ⟨o, h⟩) | ⟨o, its, n, h, h1, _⟩
  · exact .base (.tup h)
  · exact .fTuple h
  · exact .kTuple h h1
/-- the library's word for the value -/
theorem kit_D {v : V} {x : RV} {u : Value} (IF : IsF X.K c T) (I : Inv X pins σ H s) (g : ∀ a o, F a = some o → H a = some o) (r : RDat c X.K F H v x) (rv : RelV v u) (hd : dOk T x.d = true) :
    ∃ t, TyV c x.d t ∧ ∃ P : Heap → Prop, PySem.W.KitX X.K u t P ∧ P s.heap ∧ u ≠ .builtin "__main__.__loader__#opaque" := by
  have one : ∀ {t : Value}, TyV c x.d t → TyX X.K H v t → ∃ t, TyV c x.d t ∧ ∃ P : Heap → Prop, PySem.W.KitX X.K u t P ∧ P s.heap ∧ u ≠ .builtin "__main__.__loader__#opaque" := fun {t} h1 h2 => ⟨t, h1, kit_of I rv h2⟩
  cases x with
  | brw ds =>
    obtain ⟨a, vs, rfl, _, h1, h2⟩ := r
    exact one (.b rfl) (.base (.lst h1))
  | bob n gs =>
    obtain ⟨a, dx, fs, rfl, _, h1, h2⟩ := r
    have oc := IF.own n hd
    exact one (.i n gs) (.base (.ins h1 oc.cl oc.ha oc.hn oc.ht oc.hm))
  | val d =>
    cases r with
    | non => exact one (.b rfl) (.base .non)
    | bl b => exact one (.b rfl) (.base (.bl b))
    | int i => exact one (.b rfl) (.base (.int i))
    | str z => exact one (.b rfl) (.base (.str z))
    | tup h1 h2 => exact one (.b rfl) (tyX_seq (SqT.mono h1 g))
    | lst h1 h2 => exact one (.b rfl) (.base (.lst (g _ _ h1)))
    | dct h1 h2 => exact one (.b rfl) (.base (.dK (g _ _ h1)))
    | @ins a dx n fs gs h1 h2 =>
      have oc := IF.own n hd
      exact one (.i n gs) (.base (.ins (g _ _ h1) oc.cl oc.ha oc.hn oc.ht oc.hm))
    | @exn a d n fs gs h1 h2 h3 =>
      have ec := IF.exc n hd
      obtain ⟨oe, vs, e1, e2, e3⟩ := exv_at I.hok (g _ _ h1)
      obtain rfl : u = Value.ref a := rv
      have hx : ObjOk X.prog X.w H s.heap d (.xd fs) := I.hok d _ (g _ _ h2)
      obtain ⟨mA, hns, hr⟩ := hx
      obtain ⟨od, ho, hl⟩ := lookIn_ns hns
      have J : PySem.W.InstAt s.heap a oe (c.cA n) (some od) := ⟨e1, e2.1, by unfold PySem.W.notCls; rw [e3], by rw [e2.2]; exact ho⟩
      exact ⟨_, .e n gs, _, PySem.W.kitx_exc (od := some od) (ox := oe) (exc_isome ec) ec.hg ec.hk ec.hs ec.ha ec.hn ec.ht ec.hm, J, fun z => nomatch z⟩
    | @exn0 a n h1 =>
      have ec := IF.exc n hd
      obtain ⟨oe, vs, e1, e2, e3⟩ := exv_at I.hok (g _ _ h1)
      obtain rfl : u = Value.ref a := rv
      have J : PySem.W.InstAt s.heap a oe (c.cA n) none := ⟨e1, e2.1, by unfold PySem.W.notCls; rw [e3], by rw [e2.2]; trivial⟩
      exact ⟨_, .e n [], _, PySem.W.kitx_exc (od := none) (ox := oe) (exc_isome ec) ec.hg ec.hk ec.hs ec.ha ec.hn ec.ht ec.hm, J, fun z => nomatch z⟩
    | cls n => cases hd
    | ty n => cases hd
    | pen => cases hd
    | adr a => cases hd
/-- a class as a value -/
def clsD : D → Bool
  | .ty _ => true
  | .cls _ => true
  | _ => false
theorem isi1_ok {d ce : D} {t cv : Value} {b : Bool} {K : PySem.W.Frag} (IF : IsF K c T) (ty : TyV c d t) (h : isi1 T d ce = some b) (hc : (∃ s, ce = .ty s ∧ cv = .type s) ∨ ∃ m, ce = .cls m ∧ cv = .ref (c.cA m)) : PySem.W.kitOne K t cv = some b := by
  rcases hc with ⟨s, rfl, rfl⟩ | ⟨m, rfl, rfl⟩
  · cases ty with
    | b e =>
      rename_i t
      have h : (tyN d).bind (fun t => isiB t s) = some b := by cases d <;> first | exact h | cases e
      rw [e] at h
      exact isiB_ok h
    | i n gs =>
      have h : (if T.own n then T.ts n s else none) = some b := h
      split at h
      · exact IF.ts n s b h
      · cases h
    | e n gs =>
      have h : (if T.exc n then T.ts n s else none) = some b := h
      split at h
      · exact IF.ts n s b h
      · cases h
  · cases ty with
    | b e =>
      rename_i t
      have h : (tyN d).bind (fun t => if T.cl m then some false else none) = some b := by cases d <;> first | exact h | cases e
      rw [e] at h
      have h : (if T.cl m then some false else none) = some b := h
      split at h
      · rename_i hm
        cases h
        refine IF.cl m hm t ?_
        cases d <;> cases e <;> decide
      · cases h
    | i n gs =>
      have h : (if T.own n then T.tb n m else none) = some b := h
      split at h
      · exact IF.tb n m b h
      · cases h
    | e n gs =>
      have h : (if T.exc n then T.tb n m else none) = some b := h
      split at h
      · exact IF.tb n m b h
      · cases h
theorem isi1_dOk {d ce : D} {b : Bool} (h : isi1 T d ce = some b) : dOk T d = true := by
  unfold isi1 at h
  cases ce with
  | ty s => cases d <;> first | rfl | (simp only at h; split at h <;> first | assumption | cases h) | cases h
  | cls m => cases d <;> first | rfl | (simp only at h; split at h <;> first | assumption | cases h) | cases h
  | _ => cases h
def gIsi (T : IsT) (x : RV) (y : RV) : DL.T RV := match isi1 T x.d y.d with
  | some b => okV (.bl b)
  | none => .stuck
def mIsi (T : IsT) (m mc : Gm → DL.T RV) : Gm → DL.T RV := fun γ => (m γ).bind fun x => (mc γ).bind fun y => gIsi T x y
theorem de_isi {e ce : Expr} {m mc : Gm → DL.T RV} {p pos : Pos} (IF : IsF X.K c T) (hm : X.mg "isinstance" = none) (he : DE X c W e m) (hce : DE X c W ce mc) (hg : Gl X "isinstance" := by rfl) (hs : starEach [e, ce] X.env = (false, eval e X.env) :: starEach [ce] X.env := by rfl) (hs2 : starEach [ce] X.env = (false, eval ce X.env) :: starEach [] X.env := by rfl)
    (hpl : (backTo pos (starEach [ce] X.env)).any (·.1) = false := by rfl) :
    DE X c W (.Call (.Name "isinstance" p) [e, ce] [] pos) (mIsi T m mc) := by
  refine ⟨⟨fun pins s σ H Q I ⟨F, γ, j, gd, en, h⟩ => ?_⟩⟩
  refine wpAny_Call_Name_kw (ld_blt I hg hm PyProof.Rows.Boot.«isinstance» ?_)
  refine PyProof.Rows.callWith_builtin1 (thn ((pa_cons he.pe (pa_cons hce.pe pa_nil hs2) hs).run pos pins s σ H (fun vs H2 => ∃ x y, vs = [x, y] ∧ ∃ F j dx dy, Good c F H2 j ∧ RDat c X.K F H2 x dx ∧ RDat c X.K F H2 y dy ∧ (gIsi T dx dy).All j (pE c X.K F H2 Q) (pX c X.K W F H2 σ)) I
    (two (R := fun x y H2 => ∃ x' y', [x, y] = [x', y'] ∧ ∃ F j dx dy, Good c F H2 j ∧ RDat c X.K F H2 x' dx ∧ RDat c X.K F H2 y' dy ∧ (gIsi T dx dy).All j (pE c X.K F H2 Q) (pX c X.K W F H2 σ)) gd en h fun j' dx dy F' H' x y e g' en' r1 r2 q => ⟨x, y, rfl, F', j', dx, dy, g', r1, r2, q.imp (fun _ _ z => z.ext e) fun _ _ z => z⟩)) fun us s1 ⟨vs, H1, I1, rv, x, y, ev, F1, j1, dx, dy, g1, r1, r2, q⟩ => ?_) hs hpl
  subst ev
  cases rv with
  | @cons _ u _ us' ru rr =>
  cases rr with
  | @cons _ u2 _ us'' ru2 rr2 =>
  cases rr2
  unfold gIsi at q
  split at q
  · rename_i b hb
    obtain ⟨t, ty, P, Z, p, hx⟩ := kit_D IF I1 g1.sub r1 ru (isi1_dOk hb)
    have hc : (∃ s, dy.d = .ty s ∧ u2 = .type s) ∨ ∃ m, dy.d = .cls m ∧ u2 = .ref (c.cA m) := by
      cases dy with
      | brw ds => cases hb
      | bob n gs => cases hb
      | val d =>
        cases r2 with
        | cls n => exact .inr ⟨n, rfl, ru2⟩
        | ty n => exact .inl ⟨n, rfl, ru2⟩
        | _ => cases hb
    exact PySem.W.kia_one Z I1.kIn p (isi1_ok IF ty hb hc) hx fun tk => ⟨.bl b, H1, I1.tok tk, rfl, pE.val q g1 (.bl _)⟩
  · exact q.elim
end
end DL
/-! DY1: == and != by an own __eq__; fields of exceptions. -/
namespace DL
open PySem PySem.Spec L2
open PyProof.Rows
/-! ### != by an own __eq__, over the written part -/
section
open PySem.W
variable {prog : Program} {w : World} {A : Around} {E : Value → Shared → Prop} {s : Shared} {K : Frag} {x C f : Addr} {ox : Obj} {od : Option Obj} {b tb : Value}
theorem objNe_own {Q : Fin → Shared → Prop} (X : K.In s.heap) (I : InstAt s.heap x ox C od) (hs : findIn K (.ref C) "__eq__" = some (some (.ref f))) (hf : isFn K (.ref f) = true) (hu : A.units < cLine)
    (hcall : wpAny (model prog w) A (call (.ref f) [.ref x, b]) (fun v s' => ∃ r, v = .bool r ∧ Q (.done (.ret (.bool (!r)))) s') E s) : wpAny (model prog w) A (Builtin.«object.__ne__» ⟨[.ref x, b], []⟩) Q E s := by
  unfold Builtin.«object.__ne__»
  repeat (first
    | with_reducible refine wpAny_cRoomFor hu ?_
    | (refine wpAny_bind (m := callSpecialIfBound? (.ref x) (Str.ofString "__eq__") [b])
        (ifBound_K X I hs hf (wpAny_mono hcall (fun r s' hr => by
          obtain ⟨r, rfl, hq⟩ := hr
          repeat (first | exact hq | exact wpAny_pure hq | exact wpAny_truthy_bool hq | (refine wpAny_bind (m := truthy (.bool _)) (wpAny_truthy_bool ?_)) | wp_step)) fun _ _ e => e)))
    | wp_step)
theorem ifBound_ne {args : List Value} {Q : Option Value → Shared → Prop} {M : Model} (X : K.In s.heap) (I : InstAt s.heap x ox C od) (hs : findIn K (.ref C) "__ne__" = some (some (.builtin "object.__ne__")))
    (h : wpAny M A (call (.builtin "object.__ne__") (.ref x :: args)) (fun v => Q (some v)) E s) : wpAny M A (callSpecialIfBound? (.ref x) "__ne__" args) Q E s := by
  simp only [callSpecialIfBound?, bindSpecialIfBound?]
  refine wpAny_holding (wpAny_bind (wpAny_bind (wpAny_bind (I.type.here ((looks_findIn X hs).here ?_)))))
  refine wpAny_bind (wpAny_askSetting (wpAny_ite ?_))
  have fin : wpAny M A (call (.builtin "object.__ne__") ([.ref x] ++ args) >>= fun v => pure (some v)) Q E s := wpAny_bind (wpAny_mono h (fun v s' h' => wpAny_pure h') fun _ _ h' => h')
  split
  · exact wpAny_bind (wpAny_of_eq (F.cmp_object.ne.bind _) (wpAny_pure (by exact fin)))
  · exact wpAny_tryCatch (wpAny_bind (wpAny_of_eq (F.cmp_object.ne.bind _) (wpAny_pure (by exact fin))))
theorem ne_own {Q : Value → Shared → Prop} (hu : A.units + 1 < cLine) (X : K.In s.heap) (I : InstAt s.heap x ox C od) (hb : Looks (model prog w) s.heap (typeOf b) tb) (hn : notFirst K C tb = true)
    (hs : findIn K (.ref C) "__eq__" = some (some (.ref f))) (hf : isFn K (.ref f) = true) (hne : findIn K (.ref C) "__ne__" = some (some (.builtin "object.__ne__"))) (hm : mroIn K C (.type "object") = some true)
    (h : wpAny (model prog w) A.in1 (call (.ref f) [.ref x, b]) (fun v s' => ∃ r, v = .bool r ∧ Q (.bool (!r)) s') E s) : wpAny (model prog w) A (richCompare .NotEq (.ref x) b) Q E s := by
  have one : wpAny (model prog w) A (tryCompare (.ref x) (cmpInfo .NotEq).2.1 b) (fun r s' => ∃ v, r = some v ∧ Q v s') E s := by
    unfold tryCompare
    refine wpAny_bind (ifBound_ne X I hne (wpAny_call (codeAny_call_builtin F.cmp_object.ne.plain F.cmpEntry_ne (check_slot F.cmpKind_ne F.cmpSplit_ne (I.type.andThen (looks_mroIn X hm)) (F.cmpArgs_ne _ _) ?_))))
    refine objNe_own (A := A.in1) X I hs hf hu (wpAny_mono h (fun v s' hv => ?_) fun _ _ e => e)
    obtain ⟨r, rfl, hq⟩ := hv
    exact ⟨r, rfl, wpAny_pure ⟨_, rfl, hq⟩⟩
  unfold richCompare
  simp only [oneThing_ref]
  refine wpAny_holding (wpAny_bind (wpAny_cRoomFor (Nat.lt_of_succ_lt hu) ?_))
  refine wpAny_bind (I.type.here (wpAny_bind (hb.here ?_)))
  split
  · rename_i q
    have e : subIn K tb (.ref C) = some false := by
      rcases Bool.or_eq_true_iff.mp hn with e | e
      · rw [beq_iff_eq.mp e] at q; simp at q
      · exact beq_iff_eq.mp e
    refine wpAny_bind ((looks_subIn X e).here ?_)
    simp only [Bool.false_eq_true, if_false]
    refine wpAny_bind (wpAny_mono one (fun r s' z => ?_) fun _ _ e => e)
    obtain ⟨v, rfl, hq⟩ := z
    exact wpAny_pure hq
  · refine wpAny_bind (wpAny_pure ?_)
    simp only [Bool.false_eq_true, if_false]
    refine wpAny_bind (wpAny_mono one (fun r s' z => ?_) fun _ _ e => e)
    obtain ⟨v, rfl, hq⟩ := z
    exact wpAny_pure hq
end
end DL
namespace DL
open PySem PySem.Spec L2
open PyProof.Rows
section
variable {X : Cx} {c : Ct} {W : WX} {IT : IsT} {k : Nat} {tbl : List (Nat × (List D → T D))}
theorem nf_kit {K : PySem.W.Frag} {C : Addr} {t : Value} (h : PySem.W.kitOne K t (.ref C) = some false) : PySem.W.notFirst K C t = true := by
  unfold PySem.W.kitOne at h
  split at h
  · cases h
  · have h : (if ((PySem.W.clsIn K C).isSome && PySem.W.typeIn K (.ref C) == some (.type "type")) = true then PySem.W.subIn K t (.ref C) else none) = some false := h
    split at h
    · unfold PySem.W.notFirst
      rw [h]
      simp
    · cases h
/-- whether y may stand behind an instance of the class n -/
def behB (IT : IsT) (n : Nat) (y : D) : Bool := dOk IT y && ((match y with | .ins m _ => m == n | _ => false) || isi1 IT y (.cls n) == some false)
theorem beh_ok {K : PySem.W.Frag} {y : D} {n : Nat} {t : Value} (IF : IsF K c IT) (ty : TyV c y t) (h : behB IT n y = true) : PySem.W.notFirst K (c.cA n) t = true := by
  obtain ⟨_, h⟩ := Bool.and_eq_true_iff.mp h
  rcases Bool.or_eq_true_iff.mp h with h | h
  · cases ty with
    | i m gs =>
      have e : m = n := eq_of_beq h
      rw [e]
      unfold PySem.W.notFirst
      simp
    | e m gs => cases h
    | b e => cases y <;> first | cases h | cases e
  · exact nf_kit (isi1_ok IF ty (eq_of_beq h) (.inr ⟨n, rfl, rfl⟩))
def ownEq (IT : IsT) (tbl : List (Nat × (List D → T D))) (n : Nat) (gs : List (Str × D)) (y : D) : T Bool := match tbl.lookup n with
  | some mf => if behB IT n y then (mf [.ins n gs, y]).bind fun d => (match d with
    | .bl b => .ok b
    | _ => .stuck) else .stuck
  | none => .stuck
/-- x == y -/
def gEqO (IT : IsT) (tbl : List (Nat × (List D → T D))) (x y : RV) : T RV := match x, y with
  | .val (.ins n gs), .val d => (ownEq IT tbl n gs d).bind fun b => okV (.bl b)
  | x, y => gEqD x y
def gNeO (IT : IsT) (tbl : List (Nat × (List D → T D))) (x y : RV) : T RV := match x, y with
  | .val (.ins n gs), .val d => (ownEq IT tbl n gs d).bind fun b => okV (.bl (!b))
  | x, y => gNeD x y
/-- the own __eq__ is asked, at X.A or one deeper -/
theorem run_eq {pins : List (Addr × Obj)} {σ : L2.St} {H F : Hp} {s : Shared} {A : Around} {a dx : Addr} {n j : Nat} {fs : List (Str × V)} {gs : List (Str × D)} {y : V} {u : Value} {d : D} {f : Addr} {mf : List D → T D} {Q : Bool → Hp → Prop}
    (FA : FnA X.prog X.w X.K X.mg X.base k f [] (spD c X.K mf)) (hr : Room k A) (hA : A.frames = X.A.frames) (tk : Takes X W) (I : Inv X pins σ H s) (g : Good c F H j) (ha : F a = some (.ins (c.cA n) dx fs)) (hd : DatF c X.K F fs gs) (ry : RelV y u) (r : Dat c X.K F y d)
    (h : ((mf [.ins n gs, d]).bind fun d => (match d with | .bl b => T.ok b | _ => .stuck)).All j (fun j' b => ∀ F' H', Ext c F H F' H' → Good c F' H' j' → Q b H') (pX c X.K W F H σ)) :
    wpAny (model X.prog X.w) A (call (.ref f) [.ref a, u]) (fun v s' => ∃ b, v = .bool b ∧ ∃ H', Inv X pins σ H' s' ∧ Q b H') X.xe s := by
  have e0 : Env0 X.prog X.w X.K X.mg X.base A X.stack s H := by
    have e := I.env0
    exact ⟨by rw [hA]; exact e.frames, e.mod, e.bs, e.bsz, e.funs, e.frf, e.hok, e.bare⟩
  refine wpAny_call (codeAny_mono (FA A X.stack s H [.ref a, u] [] [.ref a, y] (fun v H' => ∃ b, v = .bl b ∧ Q b H') (fun cls d H' => W cls d σ H') hr e0 (by rw [List.append_nil]; exact .cons rfl (.cons ry .nil)) rfl
    ⟨F, _, j, g, .cons (.ins ha hd) (.cons r .nil), (T.All.bind h).imp (fun j' d' q F' H' v e2 g2 rd => ?_) fun j' x q F' H' d e2 g2 qd => q F' H' d e2 g2 qd⟩) fun r s' hq => ?_)
  · cases rd with
    | bl b => exact ⟨b, rfl, q F' H' e2 g2⟩
    | _ => exact q.elim
  · cases r with
    | error e => exact tk e s' (XE.of_call I (fun _ _ _ z => z) hq)
    | ok fl =>
      cases fl with
      | ret w' =>
        obtain ⟨v, H', I', rv, b, ev, q⟩ := I.after hq
        subst ev
        exact ⟨b, rv, H', I', q⟩
      | next => exact False.elim hq
      | brk => exact False.elim hq
      | cont => exact False.elim hq
theorem ownEq_all {n : Nat} {gs : List (Str × D)} {d : D} {j : Nat} {P : Nat → Bool → Prop} {E : Nat → Xc → Prop} (h : (ownEq IT tbl n gs d).All j P E) : ∃ mf, tbl.lookup n = some mf ∧ behB IT n d = true ∧ ((mf [.ins n gs, d]).bind fun d => (match d with | .bl b => T.ok b | _ => .stuck)).All j P E := by
  unfold ownEq at h
  split at h
  · rename_i mf e
    split at h
    · rename_i hb
      exact ⟨mf, e, hb, h⟩
    · exact h.elim
  · exact h.elim
theorem o_eqO (IF : IsF X.K c IT) (M : MethOk X c k "__eq__" [] tbl) (hr : Room k X.A) (tk : Takes X W) : OpD X c W (compareOp .Eq) (gEqO IT tbl) := by
  intro pins s σ H x y v u Q F j dx dy I rx ry gd r1 r2 q
  unfold gEqO at q
  split at q
  · rename_i n gs d
    obtain ⟨mf, hl, hb, q⟩ := ownEq_all (T.All.bind q)
    cases r1 with
    | @ins a dxa _ fs _ h1 h2 =>
      obtain rfl : v = Value.ref a := rx
      obtain ⟨hc, f, hf, FA⟩ := M _ (lookup_mem hl)
      obtain ⟨mA, O, _⟩ := ins_get I.hok (gd.sub _ _ h1)
      obtain ⟨od, J, _⟩ := O.look
      obtain ⟨t, ty, P, Z, p, _⟩ := kit_D IF I gd.sub r2 ry (Bool.and_eq_true_iff.mp hb).1
      obtain ⟨m, hF⟩ := I.fr
      show wpAny _ _ (richCompare .Eq (.ref a) u) _ _ _
      refine PySem.W.cmp_K (op := .Eq) (tb := t) hr.units0 hF I.ok.mod.kin J (Z.ty _ _ I.kIn p) (beh_ok IF ty hb) hf.at_ hf.fn ?_
      refine wpAny_mono (run_eq FA hr rfl tk I gd h1 h2 ry r2 (Q := fun b H' => Q (.bl b) H') (q.imp (fun j' b z F' H' e g' => z F' H' (.bl b) e g' (show Dat _ _ _ _ _ from .bl b)) fun _ _ z => z)) (fun v s' hv => ?_) fun _ _ z => z
      obtain ⟨b, rfl, H', I', q'⟩ := hv
      exact ⟨.bl b, H', I', rfl, q'⟩
  · exact o_eq hr.units pins s σ H x y v u Q F j dx dy I rx ry gd r1 r2 q
/-- != of the classes in the table is object's -/
def NeOk (X : Cx) (c : Ct) (tbl : List (Nat × (List D → T D))) : Prop := ∀ p ∈ tbl, PySem.W.findIn X.K (.ref (c.cA p.1)) "__ne__" = some (some (.builtin "object.__ne__")) ∧ PySem.W.mroIn X.K (c.cA p.1) (.type "object") = some true
theorem o_neO (IF : IsF X.K c IT) (M : MethOk X c k "__eq__" [] tbl) (N : NeOk X c tbl) (hr : Room (k + 1) X.A) (tk : Takes X W) : OpD X c W (compareOp .NotEq) (gNeO IT tbl) := by
  intro pins s σ H x y v u Q F j dx dy I rx ry gd r1 r2 q
  unfold gNeO at q
  split at q
  · rename_i n gs d
    obtain ⟨mf, hl, hb, q⟩ := ownEq_all (T.All.bind q)
    cases r1 with
    | @ins a dxa _ fs _ h1 h2 =>
      obtain rfl : v = Value.ref a := rx
      obtain ⟨hc, f, hf, FA⟩ := M _ (lookup_mem hl)
      obtain ⟨hne, hmo⟩ := N _ (lookup_mem hl)
      obtain ⟨mA, O, _⟩ := ins_get I.hok (gd.sub _ _ h1)
      obtain ⟨od, J, _⟩ := O.look
      obtain ⟨t, ty, P, Z, p, _⟩ := kit_D IF I gd.sub r2 ry (Bool.and_eq_true_iff.mp hb).1
      have hun := hr.un
      show wpAny _ _ (richCompare .NotEq (.ref a) u) _ _ _
      refine ne_own (tb := t) (by omega) I.kIn J (Z.ty _ _ I.kIn p) (beh_ok IF ty hb) hf.at_ hf.fn hne hmo ?_
      refine wpAny_mono (run_eq FA hr.in1 rfl tk I gd h1 h2 ry r2 (Q := fun b H' => Q (.bl (!b)) H') (q.imp (fun j' b z F' H' e g' => z F' H' (.bl (!b)) e g' (show Dat _ _ _ _ _ from .bl (!b))) fun _ _ z => z)) (fun v s' hv => ?_) fun _ _ z => z
      obtain ⟨b, rfl, H', I', q'⟩ := hv
      exact ⟨b, rfl, .bl (!b), H', I', rfl, q'⟩
  · exact o_ne hr.units pins s σ H x y v u Q F j dx dy I rx ry gd r1 r2 q
/-! ### e.f, an exception's field -/
def XFld (K : PySem.W.Frag) (c : Ct) (cs : List Nat) (f : Str) : Prop := ∀ n ∈ cs, XfC K (c.cA n) ∧ PySem.W.findIn K (.ref (c.cA n)) f = some none
def gXf (cs : List Nat) (f : Str) (x : RV) : T RV := match x with
  | .val (.exn n gs) => if cs.contains n then (match gs.lookup f with
    | some d => okV d
    | none => .stuck) else .stuck
  | _ => .stuck
theorem de_xf {e : Expr} {m : Gm → T RV} {pos : Pos} {f : Str} {cs : List Nat} (hf : XFld X.K c cs f) (ha : DE X c W e m) (hb : attributeBase e f X.env (eval e X.env) = eval e X.env := by rfl) : DE X c W (.Attribute e f pos) (mUn (gXf cs f) m) := by
  refine ⟨⟨fun pins s σ H Q I ⟨F, γ, j, g, en, h⟩ => ?_⟩⟩
  refine attr_of hb (thn (ha.pe.run pins s σ H (fun v H1 => ∃ F1 j1 x, Ext c F H F1 H1 ∧ Good c F1 H1 j1 ∧ RDat c X.K F1 H1 v x ∧ (gXf cs f x).All j1 (pE c X.K F H Q) (pX c X.K W F H σ)) I (tE.seq g en h fun j1 x F1 H1 v e1 g1 en1 r1 h1 => ⟨F1, j1, x, e1, g1, r1, h1⟩)) fun u s1 ⟨v, H1, I1, rv, F1, j1, x, e1, g1, r1, h1⟩ => ?_)
  unfold gXf at h1
  split at h1
  · rename_i n gs
    split at h1
    · rename_i hc
      split at h1
      · rename_i d hl
        obtain ⟨T, hno⟩ := hf n (List.contains_iff_mem.mp hc)
        cases r1 with
        | @exn a dd _ fs _ q1 q2 q3 =>
          obtain rfl : u = Value.ref a := rv
          obtain ⟨oe, vs, e2, e3, e4⟩ := exv_at I1.hok (g1.sub _ _ q1)
          have hx : ObjOk X.prog X.w H1 s1.heap dd (.xd fs) := I1.hok dd _ (g1.sub _ _ q2)
          obtain ⟨mA, hns, hr⟩ := hx
          obtain ⟨od, ho, hl2⟩ := lookIn_ns hns
          obtain ⟨w', l1, l2⟩ := q3.look hl
          obtain ⟨u, hu, ru⟩ := RelO.some_of (v := w') (o := mA f) (by rw [← l1]; exact hr f)
          have J : PySem.W.InstAt s1.heap a oe (c.cA n) (some od) := ⟨e2, e3.1, by unfold PySem.W.notCls; rw [e4], by rw [e3.2]; exact ho⟩
          exact HandSPX.exc_get I1.kIn J T.ga T.gg T.exC (PySem.W.findObj_own T.hdC hno rfl (by rw [hl2, hu])) (handed_of ru) ⟨w', H1, I1.tok _, ru, h1 F1 H1 w' e1 g1 l2⟩
        | exn0 _ => cases hl
      · exact h1.elim
    · exact h1.elim
  · exact h1.elim
end
end DL
namespace DL
open PySem PySem.Spec L2
open PyProof.Rows
section
variable {X : Cx} {c : Ct} {W : WX} {e : Expr} {m : Gm → T RV} {pos p : Pos} {k : Nat}
/-! ### repr of data -/
def D.shows (d : D) : Option Str := match d.py with
  | some q => if q.showable && (!q.hasDict && (decide (q.shown.length ≤ 1000000) && decide (q.depth ≤ 60))) then some q.shown else none
  | none => none
def gRepr (x : RV) : T RV := match x.d.shows with
  | some z => okV (.str z)
  | none => .stuck
theorem shows_ok {d : D} {z : Str} (h : d.shows = some z) : ∃ q, d.py = some q ∧ q.showable = true ∧ q.hasDict = false ∧ q.shown.length ≤ sizeLine ∧ q.depth ≤ 60 ∧ z = q.shown := by
  unfold D.shows at h
  split at h
  · rename_i q e
    split at h
    · rename_i hq
      cases h
      obtain ⟨h1, hq⟩ := Bool.and_eq_true_iff.mp hq
      obtain ⟨h2, hq⟩ := Bool.and_eq_true_iff.mp hq
      obtain ⟨h3, h4⟩ := Bool.and_eq_true_iff.mp hq
      exact ⟨q, e, h1, by simpa using h2, line_of (of_decide_eq_true h3), of_decide_eq_true h4, rfl⟩
    · cases h
  · cases h
theorem call_reprD (hr : Room k X.A) : CallR X (.builtin "repr") (fun xs H Q => ∃ v q, xs = [v] ∧ Dp X.K H v q ∧ q.showable = true ∧ q.hasDict = false ∧ q.shown.length ≤ sizeLine ∧ q.depth ≤ 60 ∧ Q (.str q.shown) H) := by
  intro pins s σ H xs us Q I r ⟨v, q, ev, hd, h1, h2, h3, h4, hq⟩
  subst ev
  obtain ⟨u, eu, ru⟩ := vals1 r
  subst eu
  have hun := hr.toRoom.un
  cases hd with
  | non => cases ru; exact PySem.P.repr_of_none ⟨.str _, H, I.tok _, ⟨_, rfl⟩, hq⟩
  | bl b => cases ru; exact PySem.P.repr_of_bool ⟨.str _, H, I.tok _, ⟨_, rfl⟩, hq⟩
  | int i => obtain ⟨t, rfl⟩ := ru; exact PySem.P.repr_of_int (by simpa [PyData.showable] using h1) ⟨.str _, H, I.tok _, ⟨_, rfl⟩, hq⟩
  | str x => obtain ⟨t, rfl⟩ := ru; exact PySem.P.repr_of_str ⟨.str _, H, I.tok _, ⟨_, rfl⟩, hq⟩ h3
  | @tup a xs ds ha hl =>
    obtain ⟨as, rd⟩ := Dp.reads I (.tuple ds) (.ref a) u (.tup ha hl) ru
    obtain rfl : u = Value.ref a := ru
    exact PySem.repr_of_reads' rd h1 (fun z => by rw [h2] at z; cases z) hr.gd (by omega) (fun _ _ z => z) (fun h' u tk hk => ⟨.str _, H, I.kept (t' := tk) hk, ⟨_, rfl⟩, hq⟩) h3
  | @lst a xs ds ha hl =>
    obtain ⟨as, rd⟩ := Dp.reads I (.list ds) (.ref a) u (.lst ha hl) ru
    obtain rfl : u = Value.ref a := ru
    exact PySem.repr_of_reads' rd h1 (fun z => by rw [h2] at z; cases z) hr.gd (by omega) (fun _ _ z => z) (fun h' u tk hk => ⟨.str _, H, I.kept (t' := tk) hk, ⟨_, rfl⟩, hq⟩) h3
theorem bi_repr : Bi X c W (fun xs H Q => ∃ v q, xs = [v] ∧ Dp X.K H v q ∧ q.showable = true ∧ q.hasDict = false ∧ q.shown.length ≤ sizeLine ∧ q.depth ≤ 60 ∧ Q (.str q.shown) H) gRepr := by
  intro σ H v Q F j d gd r h
  unfold gRepr at h
  split at h
  · rename_i z e
    obtain ⟨q, e1, e2, e3, e4, e5, rfl⟩ := shows_ok e
    exact ⟨v, q, rfl, r.dp gd.sub e1, e2, e3, e4, e5, h.val gd (.str _)⟩
  · exact h.elim
end
end DL
namespace DL
open PySem PySem.Spec L2
open PyProof.Rows
section
variable {X : Cx} {c : Ct} {W : WX} {e : Expr} {es : List Expr} {m : Gm → T RV} {pos p : Pos} {k : Nat} {tbl : List (Nat × (List D → T D))}
/-- a def is run at any place of the frame -/
theorem run_own {pins : List (Addr × Obj)} {σ : L2.St} {H F : Hp} {s : Shared} {A : Around} {j : Nat} {us : List Value} {vs : List V} {ds : List D} {f : Addr} {mf : List D → T D} {P : Nat → D → Prop}
    (FA : FnA X.prog X.w X.K X.mg X.base k f [] (spD c X.K mf)) (hr : Room k A) (hA : A.frames = X.A.frames) (tk : Takes X W) (I : Inv X pins σ H s) (g : Good c F H j) (rv : Vals vs us) (r : Dats c X.K F vs ds)
    (h : (mf ds).All j P (pX c X.K W F H σ)) :
    wpAny (model X.prog X.w) A (call (.ref f) us) (fun w s' => ∃ v H' F' j' d, RelV v w ∧ Inv X pins σ H' s' ∧ Ext c F H F' H' ∧ Good c F' H' j' ∧ Dat c X.K F' v d ∧ P j' d) X.xe s := by
  have e0 : Env0 X.prog X.w X.K X.mg X.base A X.stack s H := by
    have e := I.env0
    exact ⟨by rw [hA]; exact e.frames, e.mod, e.bs, e.bsz, e.funs, e.frf, e.hok, e.bare⟩
  refine wpAny_call (codeAny_mono (FA A X.stack s H us [] vs (fun v H' => ∃ F' j' d, Ext c F H F' H' ∧ Good c F' H' j' ∧ Dat c X.K F' v d ∧ P j' d) (fun cls d H' => W cls d σ H') hr e0 (by rw [List.append_nil]; exact rv) rfl
    ⟨F, _, j, g, r, h.imp (fun j' d' q F' H' v e2 g2 rd => ⟨F', j', d', e2, g2, rd, q⟩) fun j' x q F' H' d e2 g2 qd => q F' H' d e2 g2 qd⟩) fun r s' hq => ?_)
  cases r with
  | error e => exact tk e s' (XE.of_call I (fun _ _ _ z => z) hq)
  | ok fl =>
    cases fl with
    | ret w' =>
      obtain ⟨v, H', I', rv, F', j', d, q⟩ := I.after hq
      exact ⟨v, H', F', j', d, rv, I', q⟩
    | next => exact False.elim hq
    | brk => exact False.elim hq
    | cont => exact False.elim hq
/-! ### str(..) -/
def strA : D → Option Str
  | .int i => if i.natAbs.log2 < 1920 then some (toString i) else none
  | .str z => some z
  | .bl b => some (if b then "True" else "False")
  | .non => some "None"
  | _ => none
def ownStr (tbl : List (Nat × (List D → T D))) (n : Nat) (gs : List (Str × D)) : T RV := match tbl.lookup n with
  | some mf => (mf [.ins n gs]).bind fun d => (match d with
    | .str z => okV (.str z)
    | _ => .stuck)
  | none => .stuck
def gStr (tbl : List (Nat × (List D → T D))) (x : RV) : T RV := match x with
  | .val (.ins n gs) => ownStr tbl n gs
  | x => (match strA x.d with
    | some z => okV (.str z)
    | none => .stuck)
theorem de_str1 {x : Str} (M : MethOk X c k "__str__" [] tbl) (hr : Room (k + 2) X.A) (tk : Takes X W) (hm : X.mg "str" = none) (he : DE X c W e m) (hg : Gl X "str" := by rfl) (hs : starEach [e] X.env = (false, eval e X.env) :: starEach [] X.env := by rfl) : DE X c W (.Call (.Name "str" p) [e] [] pos) (mUn (gStr tbl) m) := by
  refine ⟨⟨fun pins s σ H Q I ⟨F, γ, j, gd, en, h⟩ => ?_⟩⟩
  refine wpAny_Call_Name_kw (ld_blt I hg hm PyProof.Rows.Boot.«str» ?_)
  refine PyProof.Rows.callWith_type1 (thn ((pa_cons he.pe pa_nil hs).run pos pins s σ H (fun vs H1 => ∃ v F1 j1 x, vs = [v] ∧ Ext c F H F1 H1 ∧ Good c F1 H1 j1 ∧ RDat c X.K F1 H1 v x ∧ (gStr tbl x).All j1 (pE c X.K F H Q) (pX c X.K W F H σ)) I (tE.seq gd en h fun j1 x F1 H1 v e1 g1 en1 r1 h1 => ⟨v, F1, j1, x, rfl, e1, g1, r1, h1⟩)) fun us s1 ⟨vs, H1, I1, rv, v, F1, j1, x, ev, e1, g1, r1, h1⟩ => ?_) hs rfl
  subst ev
  obtain ⟨u, rfl, ru⟩ := vals1 rv
  have h1 := h1.imp (fun _ _ z => pE.ext z e1) fun _ _ z => pX.ext z e1
  unfold gStr at h1
  split at h1
  · rename_i n gs
    unfold ownStr at h1
    split at h1
    · rename_i mf hl
      cases r1 with
      | @ins a dx _ fs _ q1 q2 =>
        obtain rfl : u = Value.ref a := ru
        obtain ⟨hc, f, hf, FA⟩ := M _ (lookup_mem hl)
        obtain ⟨mA, O, _⟩ := ins_get I1.hok (g1.sub _ _ q1)
        obtain ⟨od, J, _⟩ := O.look
        have hun := hr.toRoom.un
        refine PySem.W.kso_call (by show X.A.units + 1 + 1 < cLine; omega) I1.kIn J hf.at_ hf.fn ?_
        refine wpAny_mono (run_own (vs := [.ref a]) FA hr.in1.in1 rfl tk I1 g1 (.cons rfl .nil) (.cons (.ins q1 q2) .nil) (T.All.bind h1)) (fun w s' hw => ?_) fun _ _ z => z
        obtain ⟨v', H', F', j', d, rv', I', e', g', rd, q⟩ := hw
        cases rd with
        | str z =>
          obtain ⟨t, rfl⟩ := rv'
          exact ⟨.str z, H', I', ⟨t, rfl⟩, q F' H' (.str z) e' g' (show Dat _ _ _ _ _ from .str z)⟩
        | _ => exact q.elim
    · exact h1.elim
  · split at h1
    · rename_i z ez
      have fin : ∀ {u' : Value} {s' : Shared}, Inv X pins σ H1 s' → RelV (.str z) u' → EP X pins σ Q u' s' := fun {u' s'} I' ru' => ⟨.str z, H1, I', ru', h1 F1 H1 (.str z) .refl g1 (show Dat _ _ _ _ _ from .str z)⟩
      cases x with
      | brw ds => cases ez
      | bob n gs => cases ez
      | val d =>
        cases r1 with
        | int i =>
          obtain ⟨t, rfl⟩ := ru
          simp only [RV.d, strA] at ez
          split at ez
          · rename_i hz
            cases ez
            exact PySem.P.str_of_int hz (fin (I1.tok _) ⟨_, rfl⟩)
          · cases ez
        | str y => obtain ⟨t, rfl⟩ := ru; cases ez; exact PySem.P.str_of_str (fin I1 ⟨_, rfl⟩)
        | bl b => cases ru; cases ez; exact PySem.P.str_of_bool (fin (I1.tok _) ⟨_, rfl⟩)
        | non => cases ru; cases ez; exact PySem.P.str_of_none (fin (I1.tok _) ⟨_, rfl⟩)
        | _ => cases ez
    · exact h1.elim
/-! ### f-strings -/
def fmtA : D → Option Str
  | .int i => if i.natAbs.log2 < 1920 then some (toString i) else none
  | .str z => if z.length ≤ 1000000 then some z else none
  | _ => none
def gFmt (x : RV) : T RV := match fmtA x.d with
  | some z => okV (.str z)
  | none => .stuck
theorem de_fmt (he : DE X c W e m) : DE X c W (.FormattedValue e (-1) none pos) (mUn gFmt m) := by
  refine ⟨(pe_fmt he.pe).imp fun σ H Q ⟨F, γ, j, gd, en, h⟩ => tE.seq gd en h fun j1 x F1 H1 v e1 g1 en1 r1 h1 => ?_⟩
  unfold gFmt at h1
  split at h1
  · rename_i z ez
    have q := h1 F1 H1 (.str z) e1 g1 (show Dat _ _ _ _ _ from .str z)
    have hx : (∃ i, x.d = .int i ∧ i.natAbs.log2 < 1920 ∧ z = toString i) ∨ (x.d = .str z ∧ z.length ≤ 1000000) := by
      unfold fmtA at ez
      split at ez
      · rename_i i ed
        split at ez
        · rename_i hz; cases ez; exact .inl ⟨i, ed, hz, rfl⟩
        · cases ez
      · rename_i y ed
        split at ez
        · rename_i hz; cases ez; exact .inr ⟨ed, hz⟩
        · cases ez
      · cases ez
    rcases hx with ⟨i, ed, hz, rfl⟩ | ⟨ed, hz⟩
    · exact .inr ⟨i, r1.int ed, hz, q⟩
    · exact .inl ⟨z, r1.str ed, line_of hz, q⟩
  · exact h1.elim
/-- the parts -/
inductive DJ (X : Cx) (c : Ct) (W : WX) : List Expr → List (Gm → T RV) → Prop
  | nil : DJ X c W [] []
  | cons {e : Expr} {es : List Expr} {m : Gm → T RV} {ms : List (Gm → T RV)} : DE X c W e m → DJ X c W es ms → DJ X c W (e :: es) (m :: ms)
def fJoin : List (Gm → T RV) → Str → Gm → T RV
  | [], acc, _ => okV (.str acc)
  | m :: ms, acc, γ => (m γ).bind fun x => match x.d with
    | .str y => if (acc ++ y).length ≤ 1000000 then fJoin ms (acc ++ y) γ else .stuck
    | _ => .stuck
theorem DJ.pj {ms : List (Gm → T RV)} (h : DJ X c W es ms) : ∃ ts, PJ X es ts ∧ ∀ (acc : Str) (σ : L2.St) (H F : Hp) (γ : Gm) (j : Nat) (Q : VK), Good c F H j → EnvOk c X.K F H σ γ → (fJoin ms acc γ).All j (pE c X.K F H Q) (pX c X.K W F H σ) → tJs ts acc σ H fun out H1 => Q (.str out) H1 := by
  induction h with
  | nil => exact ⟨[], .nil, fun acc σ H F γ j Q g en h => h F H (.str acc) .refl g (show Dat _ _ _ _ _ from .str acc)⟩
  | @cons e es m ms he r ih =>
    obtain ⟨ts, h1, h2⟩ := ih
    refine ⟨_ :: ts, .cons he.pe h1, fun acc σ H F γ j Q g en h => ?_⟩
    refine tE.seq g en h fun j1 x F1 H1 v e1 g1 en1 r1 h3 => ?_
    split at h3
    · rename_i y ey
      split at h3
      · rename_i hl
        exact ⟨y, r1.str ey, line_of hl, h2 (acc ++ y) σ H1 F1 γ j1 Q g1 en1 (h3.imp (fun _ _ z => pE.ext z e1) fun _ _ z => pX.ext z e1)⟩
      · exact h3.elim
    · exact h3.elim
theorem de_joined {v1 v2 : Expr} {rest : List Expr} {ms : List (Gm → T RV)} (h : DJ X c W (v1 :: v2 :: rest) ms) : DE X c W (.JoinedStr (v1 :: v2 :: rest) pos) (fJoin ms Str.empty) := by
  obtain ⟨ts, h1, h2⟩ := h.pj
  exact ⟨(pe_joined h1).imp fun σ H Q ⟨F, γ, j, gd, en, h⟩ => h2 Str.empty σ H F γ j Q gd en h⟩
theorem de_joined1 (h : DE X c W e m) : DE X c W (.JoinedStr [e] pos) m := ⟨pe_joined1 h.pe⟩
/-! ### in, of flat items -/
def flatD : D → Bool
  | .non => true
  | .bl _ => true
  | .int _ => true
  | .str _ => true
  | _ => false
def vOf : D → V
  | .bl b => .bl b
  | .int i => .int i
  | .str z => .str z
  | _ => .non
theorem vOf_ok {K : PySem.W.Frag} {F : Hp} {v : V} {d : D} (r : Dat c K F v d) (h : flatD d = true) : v = vOf d ∧ flatV v = true := by
  cases r <;> first | exact ⟨rfl, rfl⟩ | cases h
theorem vOf_all {K : PySem.W.Frag} {F : Hp} : ∀ {vs : List V} {ds : List D}, Dats c K F vs ds → ds.all flatD = true → vs = ds.map vOf ∧ vs.all flatV = true
  | _, _, .nil, _ => ⟨rfl, rfl⟩
  | _, _, .cons h r, q => by
    obtain ⟨q1, q2⟩ := Bool.and_eq_true_iff.mp (show (flatD _ && List.all _ flatD) = true from q)
    obtain ⟨e1, f1⟩ := vOf_ok h q1
    obtain ⟨e2, f2⟩ := vOf_all r q2
    exact ⟨by rw [e1, e2]; rfl, by rw [List.all_cons, f1, f2]; rfl⟩
def inA (x : D) (y : D) : Option Bool := if flatD x then (match y with
  | .lst ds => if ds.all flatD then some (inV (vOf x) (ds.map vOf)) else none
  | .tup ds => if ds.all flatD then some (inV (vOf x) (ds.map vOf)) else none
  | _ => none) else none
theorem in_ok {F H : Hp} {x y : V} {dx dy : RV} {b : Bool} (g : ∀ a o, F a = some o → H a = some o) (r1 : RDat c X.K F H x dx) (r2 : RDat c X.K F H y dy) (h : inA dx.d dy.d = some b) : ∃ p xs, y = .ref p ∧ (SqL X.K H p xs ∨ SqT X.K H p xs) ∧ flatV x = true ∧ xs.all flatV = true ∧ b = inV x xs := by
  unfold inA at h
  split at h
  · rename_i fx
    have hx : x = vOf dx.d ∧ flatV x = true := by
      cases dx with
      | val d => exact vOf_ok r1 fx
      | brw ds => cases fx
      | bob n gs => cases fx
    split at h
    · rename_i ds ed
      split at h
      · rename_i fd
        cases h
        obtain ⟨a, vs, rfl, h1, h2⟩ := r2.lst g ed
        obtain ⟨e2, f2⟩ := vOf_all h2 fd
        exact ⟨a, vs, rfl, .inl (SqL.of h1), hx.2, f2, by rw [e2, ← hx.1]⟩
      · cases h
    · rename_i ds ed
      split at h
      · rename_i fd
        cases h
        obtain ⟨a, vs, rfl, h1, _, h2⟩ := r2.tup g ed
        obtain ⟨e2, f2⟩ := vOf_all h2 fd
        exact ⟨a, vs, rfl, .inr h1, hx.2, f2, by rw [e2, ← hx.1]⟩
      · cases h
    · cases h
  · cases h
def gIn (x y : RV) : T RV := match inA x.d y.d with
  | some b => okV (.bl b)
  | none => .stuck
def gNotIn (x y : RV) : T RV := match inA x.d y.d with
  | some b => okV (.bl (!b))
  | none => .stuck
theorem o_in : OpD X c W (compareOp .In) gIn := by
  refine opD_of op_in_seq fun σ H x y Q F j dx dy gd r1 r2 q => ?_
  unfold gIn at q
  split at q
  · rename_i b e
    obtain ⟨p, xs, rfl, h1, h2, h3, rfl⟩ := in_ok gd.sub r1 r2 e
    exact ⟨p, xs, rfl, h1, h2, h3, q.val gd (.bl _)⟩
  · exact q.elim
theorem o_notin : OpD X c W (compareOp .NotIn) gNotIn := by
  refine opD_of op_notIn_seq fun σ H x y Q F j dx dy gd r1 r2 q => ?_
  unfold gNotIn at q
  split at q
  · rename_i b e
    obtain ⟨p, xs, rfl, h1, h2, h3, rfl⟩ := in_ok gd.sub r1 r2 e
    exact ⟨p, xs, rfl, h1, h2, h3, q.val gd (.bl _)⟩
  · exact q.elim
/-! ### range, enumerate -/
def rngD (lo : Int) (n : Nat) : List D := (List.range n).map fun (i : Nat) => .int (lo + (i : Int))
theorem itd_rng {K : PySem.W.Frag} {F : Hp} {lo : Int} {n : Nat} : ItD c K F (Itr lo n) (rngD lo n) := by
  refine ⟨fun i F' H' _ _ hi => (show i < n from by simpa [rngD] using hi), fun F' H' _ _ => by simp [rngD, Itr], fun i F' H' x H2 j _ g y => ?_⟩
  obtain ⟨rfl, rfl⟩ := y
  refine ⟨F', .refl, g, fun d hd => ?_⟩
  unfold rngD at hd
  rw [List.getElem?_map] at hd
  cases q : (List.range n)[i]? with
  | none => rw [q] at hd; cases hd
  | some k =>
    rw [q] at hd
    cases hd
    have := (List.getElem?_eq_some_iff.mp q)
    obtain ⟨h1, h2⟩ := this
    simp at h2
    rw [h2]
    exact .int _
def iRng1 (m : Gm → T RV) : Gm → T (List D) := fun γ => (m γ).bind fun x => match x.d with
  | .int n => if -(2 ^ 62) ≤ n ∧ n < 2 ^ 62 then .ok (rngD 0 n.toNat) else .stuck
  | _ => .stuck
theorem di_rng1 {tg : Expr} (hm : X.mg "range" = none) (he : DE X c W e m) (hg : Gl X "range" := by rfl) (hs : starEach [e] X.env = [(false, eval e X.env)] := by rfl) : DI X c W tg (.Call (.Name "range" p) [e] [] pos) (iRng1 m) := by
  refine ⟨(pi_range1 hg hm (pa_cons he.pe pa_nil hs) hs).imp fun σ H R ⟨F, γ, j, gd, en, h⟩ => tE.seq gd en h fun j1 x F1 H1 v e1 g1 en1 r1 h1 => ?_⟩
  split at h1
  · rename_i n ed
    split at h1
    · rename_i hn
      exact ⟨n, by rw [r1.int ed], hn.1, hn.2, h1 F1 H1 _ e1 g1 itd_rng⟩
    · exact h1.elim
  · exact h1.elim
def iRng2 (ma mb : Gm → T RV) : Gm → T (List D) := fun γ => (ma γ).bind fun x => (mb γ).bind fun y => match x.d, y.d with
  | .int a, .int b => if (-(2 ^ 62) ≤ a ∧ a < 2 ^ 62) ∧ -(2 ^ 62) ≤ b ∧ b < 2 ^ 62 then .ok (rngD a (b - a).toNat) else .stuck
  | _, _ => .stuck
theorem di_rng2 {tg a b : Expr} {ma mb : Gm → T RV} (hm : X.mg "range" = none) (ha : DE X c W a ma) (hb : DE X c W b mb) (hg : Gl X "range" := by rfl) (hs : starEach [a, b] X.env = [(false, eval a X.env), (false, eval b X.env)] := by rfl) (hs2 : starEach [b] X.env = [(false, eval b X.env)] := by rfl) :
    DI X c W tg (.Call (.Name "range" p) [a, b] [] pos) (iRng2 ma mb) := by
  refine ⟨(pi_range2 hg hm (pa_cons ha.pe (pa_cons hb.pe pa_nil hs2) (by rw [hs, hs2])) hs hs2).imp fun σ H R ⟨F, γ, j, gd, en, h⟩ => ?_⟩
  refine two gd en h fun j' dx dy F' H' x y e' g' en' r1 r2 q => ?_
  split at q
  · rename_i i k e1 e2
    split at q
    · rename_i hn
      exact ⟨i, k, by rw [r1.int e1, r2.int e2], ⟨hn.1.1, hn.1.2, hn.2.1, hn.2.2⟩, q F' H' _ e' g' itd_rng⟩
    · exact q.elim
  · exact q.elim
/-! ### {} -/
def mDct0 : Gm → T RV := fun _ => okV (.dct [])
theorem de_dct0 : DE X c W (.Dict [] [] pos) mDct0 := by
  refine ⟨pe_dnewK.imp fun σ H Q ⟨F, γ, j, gd, en, h⟩ => fun p hp => ?_⟩
  obtain ⟨g2, e2⟩ := gd.lay (o := .dK []) hp
  exact h _ _ _ e2 g2 (show Dat _ _ _ _ _ from .dct upd_same .nil)
/-! ### a, b = x, y -/
def mPar2 (i k : Nat) (ms : Gm → T (List D)) : Gm → T Fl := fun γ => (ms γ).bind fun ds => match ds with
  | [a, b] => .ok (.nx ((γ.set i (.val a)).set k (.val b)))
  | _ => .stuck
theorem ds_par2 (i j : Nat) {x y : Str} {a b : Expr} {ms : Gm → T (List D)} {px py pt : Pos} {kt k2 pt2} (hc : X.calm = true) (hN : X.N.Nodup) (ha : DA X c W [a, b] ms) (hi : X.N[i]? = some x := by rfl) (hj : X.N[j]? = some y := by rfl) (hij : i ≠ j := by decide)
    (hx : X.env.scope.names.lookup x = some .local := by rfl) (hy : X.env.scope.names.lookup y = some .local := by rfl)
    (hw : swappedStores [.Tuple [.Name x px, .Name y py] kt pt] (.Tuple [a, b] k2 pt2) X.env = pure (some [x, y]) := by rfl)
    (hs : swapsWithSole [.Tuple [.Name x px, .Name y py] kt pt] (.Tuple [a, b] k2 pt2) pos.line X.env = pure false := by rfl) : DS X c W (.Assign [.Tuple [.Name x px, .Name y py] kt pt] (.Tuple [a, b] k2 pt2) pos) (mPar2 i j ms) := by
  refine ⟨(ps_par hc hN hi hj hij hx hy ha.pa hw hs).imp fun D σ H ⟨ob, F0, H0, F, γ, j0, s, h⟩ => ?_⟩
  refine ⟨F, γ, j0, s.gd, s.env, (T.All.bind h).imp (fun j1 ds h1 F1 H1 vs e1 g1 r1 => ?_) fun _ _ z => z.px s.ext⟩
  split at h1
  · rename_i d1 d2
    cases r1 with
    | cons q1 r1 =>
      cases r1 with
      | cons q2 r1 =>
        cases r1
        exact ⟨_, _, rfl, h1 _ F1 H1 (((s.step e1 g1).setVal q1).setVal q2)⟩
  · exact h1.elim
def mPar3 (i k l : Nat) (ms : Gm → T (List D)) : Gm → T Fl := fun γ => (ms γ).bind fun ds => match ds with
  | [a, b, c] => .ok (.nx (((γ.set i (.val a)).set k (.val b)).set l (.val c)))
  | _ => .stuck
theorem ds_par3 (i j l : Nat) {x y z : Str} {a b cc : Expr} {ms : Gm → T (List D)} {px py pz pt : Pos} {kt k2 pt2} (hc : X.calm = true) (hN : X.N.Nodup) (ha : DA X c W [a, b, cc] ms) (hi : X.N[i]? = some x := by rfl) (hj : X.N[j]? = some y := by rfl) (hl : X.N[l]? = some z := by rfl) (hij : i ≠ j := by decide) (hil : i ≠ l := by decide) (hjl : j ≠ l := by decide)
    (hx : X.env.scope.names.lookup x = some .local := by rfl) (hy : X.env.scope.names.lookup y = some .local := by rfl) (hz : X.env.scope.names.lookup z = some .local := by rfl)
    (hw : swappedStores [.Tuple [.Name x px, .Name y py, .Name z pz] kt pt] (.Tuple [a, b, cc] k2 pt2) X.env = pure (some [x, y, z]) := by rfl)
    (hs : swapsWithSole [.Tuple [.Name x px, .Name y py, .Name z pz] kt pt] (.Tuple [a, b, cc] k2 pt2) pos.line X.env = pure false := by rfl) : DS X c W (.Assign [.Tuple [.Name x px, .Name y py, .Name z pz] kt pt] (.Tuple [a, b, cc] k2 pt2) pos) (mPar3 i j l ms) := by
  refine ⟨(ps_par3 hc hN hi hj hl hij hil hjl hx hy hz ha.pa hw hs).imp fun D σ H ⟨ob, F0, H0, F, γ, j0, s, h⟩ => ?_⟩
  refine ⟨F, γ, j0, s.gd, s.env, (T.All.bind h).imp (fun j1 ds h1 F1 H1 vs e1 g1 r1 => ?_) fun _ _ z => z.px s.ext⟩
  split at h1
  · rename_i d1 d2 d3
    cases r1 with
    | cons q1 r1 =>
      cases r1 with
      | cons q2 r1 =>
        cases r1 with
        | cons q3 r1 =>
          cases r1
          exact ⟨_, _, _, rfl, h1 _ F1 H1 ((((s.step e1 g1).setVal q1).setVal q2).setVal q3)⟩
  · exact h1.elim
end
end DL
namespace DL
open PySem PySem.Spec L2
open PyProof.Rows
section
variable {X : Cx} {c : Ct} {W : WX} {e : Expr} {m mi : Gm → T RV} {pos p p' : Pos}
/-! ### x[i] = e, x one's own list -/
def setAt (ds : List D) (i : Int) (d : D) : Option (List D) := match ixN ds.length i with
  | some k => some (ds.set k d)
  | none => none
def mIxS (k : Nat) (mi m : Gm → T RV) : Gm → T Fl := fun γ => match γ[k]? with
  | some (.own ds) => (m γ).bind fun x => (asD x).bind fun d => (mi γ).bind fun y => (match y.d with
    | .int i => (match setAt ds i d with
      | some es => .ok (.nx (γ.set k (.own es)))
      | none => .stuck)
    | _ => .stuck)
  | _ => .stuck
theorem Dats.set {K : PySem.W.Frag} {F : Hp} {v : V} {d : D} (r : Dat c K F v d) : ∀ {vs : List V} {ds : List D} (k : Nat), Dats c K F vs ds → Dats c K F (vs.set k v) (ds.set k d)
  | _, _, _, .nil => .nil
  | _, _, 0, .cons _ t => .cons r t
  | _, _, k + 1, .cons h t => .cons h (Dats.set r k t)
theorem ds_ixS (k : Nat) {x : Str} {ie : Expr} (he : DE X c W e m) (hie : DE X c W ie mi) (hN : X.N[k]? = some x := by rfl) (hv : Vis X.env.scope x := by first | exact Or.inl rfl | exact Or.inr (Or.inl rfl) | exact Or.inr (Or.inr rfl)) (hd : (x == ("__debug__" : Str)) = false := by decide) (hcd : (x == ("__classdict__" : Str)) = false := by decide)
    (ha : ∀ v, assign (.Subscript (.Name x p) ie p') X.env v = (do
      let ov ← holding [v] (eval (.Name x p) X.env)
      let iv ← holding [v, ov] (eval ie X.env)
      standAt p'
      holding [v, ov, iv] (setItem ov iv v)
      release [v, ov, iv] []) := by intro _; rfl)
    (hs : swapsWithSole [.Subscript (.Name x p) ie p'] e pos.line X.env = pure false := by rfl) (hw : swappedStores [.Subscript (.Name x p) ie p'] e X.env = pure none := by rfl) (h1 : (assignEach [.Subscript (.Name x p) ie p'] X.env).map (·.2) = [assign (.Subscript (.Name x p) ie p') X.env] := by rfl) :
    DS X c W (.Assign [.Subscript (.Name x p) ie p'] e pos) (mIxS k mi m) := by
  refine ⟨(ps_asg he.pe (pg_sub (pe_var hN hv hd hcd) hie.pe set_list ha) hs hw h1).imp fun D σ H ⟨ob, F0, H0, F, γ, j, s, h⟩ => ?_⟩
  unfold mIxS at h
  split at h
  · rename_i ds hk
    refine s.seq h fun j1 x F1 H1 v s1 e1 r1 h1 => ?_
    obtain ⟨d, rfl, hd, h2⟩ := r1.asD (T.All.bind h1)
    obtain ⟨a, vs, q1, q2, q3, q4, q5, q6⟩ := s1.env.own k ds hk
    refine ⟨.ref a, q1, ?_⟩
    refine s1.seq h2 fun j2 y F2 H2 w s2 e2 r2 h3 => ?_
    split at h3
    · rename_i i ei
      unfold setAt at h3
      split at h3
      · rename_i es he'
        split at he'
        · rename_i n hn
          cases he'
          have q5' := e2.keep a _ q2 .lst q5
          have q6' := q6.mono e2.up
          refine ⟨a, vs, i, n, rfl, r2.int ei, q5', by rw [q6'.length]; exact hn, ?_⟩
          exact h3 σ F2 _ (s2.write hk q1 (Dats.set (hd.mono e2.up) n q6'))
        · cases he'
      · exact h3.elim
    · exact h3.elim
  · exact h.elim
/-! ### // of wide numbers -/
def gDivW (x y : RV) : T RV := match x.d, y.d with
  | .int i, .int j => if 0 < j ∧ j.natAbs < 2 ^ 1000 then okV (.int (i / j)) else .stuck
  | _, _ => .stuck
theorem o_divW : OpD X c W (binaryOp .FloorDiv) gDivW := by
  refine opD_of op_fdivW fun σ H x y Q F j dx dy gd r1 r2 q => ?_
  unfold gDivW at q
  split at q
  · rename_i i k e1 e2
    split at q
    · rename_i hk
      exact ⟨i, k, r1.int e1, r2.int e2, wide_div hk.1 hk.2 (by omega) (by omega), q.val gd (.int _)⟩
    · exact q.elim
  · exact q.elim
end
end DL
/-! DP0: the pen: what _law_draw does. -/
namespace DL
open PySem PySem.Spec L2
open PyProof.Rows
/-! ### readings -/
abbrev rIntC : List V → Hp → VK → Prop := fun xs H Q => (∃ i, xs = [.int i] ∧ Q (.int i) H) ∨ ∃ k, xs = [.bl k] ∧ Q (.int (if k then 1 else 0)) H
abbrev rAbsC : List V → Hp → VK → Prop := fun xs H Q => ∃ i, xs = [.int i] ∧ Q (.int (if i < 0 then -i else i)) H
abbrev rLenC (K : PySem.W.Frag) : List V → Hp → VK → Prop := fun xs H Q => (∃ p ys, xs = [.ref p] ∧ (SqL K H p ys ∨ SqT K H p ys) ∧ Q (.int ys.length) H) ∨ ∃ z, xs = [.str z] ∧ z.length ≤ sizeLine ∧ Q (.int z.length) H
abbrev cI (i : Int) : TE := tC (.int i)
abbrev tpx (K : PySem.W.Frag) (j : Int) : TE := tOp (rIx K) (tVar 0) (cI j)
abbrev tin (t : TE) : TE := tCB rIntC (tCons t tNil)
abbrev tab (t : TE) : TE := tCB rAbsC (tCons t tNil)
abbrev tmod (a b : TE) : TE := tOp (rI (fun _ j => 0 < j) fun i j => .int (i % j)) a b
abbrev tdvW (a b : TE) : TE := tOp (rI CDivW fun i j => .int (i / j)) a b
abbrev tad (a b : TE) : TE := tOp (rI0 fun i j => .int (i + j)) a b
abbrev tsb (a b : TE) : TE := tOp (rI0 fun i j => .int (i - j)) a b
abbrev tml (a b : TE) : TE := tOp (rI CMul fun i j => .int (i * j)) a b
abbrev tpw (a b : TE) : TE := tOp (rI CPow fun i j => .int (i ^ j.toNat)) a b
abbrev tpset (j : Int) (t : TE) : TS := tAsg t (L2.gSub (tVar 0) (cI j) rSetL)
abbrev tlen0 (K : PySem.W.Frag) : TE := tCB (rLenC K) (tCons (tpx K 0) tNil)
abbrev dA (K : PySem.W.Frag) : TS := tSeq (tAsg (tmod (tin (tpx K 2)) (tVar 1)) (gName 2)) (tSeq (tpset 2 (tdvW (tin (tpx K 2)) (tVar 1))) (tRet (tVar 2)))
abbrev dB (K : PySem.W.Frag) : TS := tSeq (tAsg (tad (tml (cI 2) (tsb (tab (tVar 4)) (tpw (cI 10) (cI 18)))) (tin (tOp (rI0 fun i j => .bl (decide (i < j))) (tVar 4) (cI 0)))) (gName 5)) (tSeq (tpset 2 (tdvW (tin (tVar 5)) (tVar 1))) (tRet (tmod (tin (tVar 5)) (tVar 1))))
abbrev tDraw (K : PySem.W.Frag) (a1 a2 a3 a4 a5 a6 a7 p1 p2 p3 : Int) : TS :=
  tSeq (tIfS (tTest (tOp (rI0 fun i j => .bl (decide (j < i))) (tpx K 2) (cI 0))) (dA K) tNext) (tSeq (tAsg (tpx K 1) (gName 3)) (tSeq (tpset 1 (tad (tVar 3) (cI 1))) (tSeq (tAsg (tad (tml (cI a1) (tVar 3)) (cI a2)) (gName 4))
    (tSeq (tIfS (tTest (tOp (rNeD K) (tpx K 0) (tLst tNil))) (tAsg (tOp (rIx K) (tpx K 0) (tmod (tin (tVar 3)) (tlen0 K))) (gName 4)) tNext)
    (tSeq (tIfS (tAnd (tTest (tOp (rI0 fun i j => .bl (decide (i < j))) (tVar 3) (tlen0 K))) (tTest (tOp (rI0 fun i j => .bl (decide (j ≤ i))) (tab (tVar 4)) (tpw (cI 10) (cI 18))))) (dB K) tNext)
    (tSeq (tAsg (tmod (tin (tpw (tad (tad (tmod (tin (tVar 4)) (cI p1)) (tml (cI a3) (tVar 3))) (cI a4)) (cI 5))) (cI p2)) (gName 6))
    (tSeq (tAsg (tmod (tin (tpw (tad (tad (tml (tVar 6) (tad (tml (cI 2) (tVar 3)) (cI a5))) (tml (tml (cI a6) (tVar 3)) (tVar 3))) (cI a7)) (cI 3))) (cI p3)) (gName 6))
    (tRet (tmod (tin (tdvW (tVar 6) (cI 32))) (tVar 1))))))))))
/-! ### values of readings -/
/-- t gives v, and changes nothing -/
def Ev (t : TE) (σ : L2.St) (H : Hp) (v : V) : Prop := ∀ Q : VK, Q v H → t σ H Q
section
variable {σ : L2.St} {H : Hp} {a b : TE} {i j : Int} {K : PySem.W.Frag}
theorem ev_c (i : Int) : Ev (cI i) σ H (.int i) := fun Q q => q
theorem ev_v (k : Nat) {v : V} (h : σ[k]? = some (some v)) : Ev (tVar k) σ H v := fun Q q => ⟨v, h, q⟩
theorem ev_add (ha : Ev a σ H (.int i)) (hb : Ev b σ H (.int j)) : Ev (tad a b) σ H (.int (i + j)) := fun Q q => ha _ (hb _ ⟨i, j, rfl, rfl, q⟩)
theorem ev_sub (ha : Ev a σ H (.int i)) (hb : Ev b σ H (.int j)) : Ev (tsb a b) σ H (.int (i - j)) := fun Q q => ha _ (hb _ ⟨i, j, rfl, rfl, q⟩)
theorem ev_mul (h : CMul i j) (ha : Ev a σ H (.int i)) (hb : Ev b σ H (.int j)) : Ev (tml a b) σ H (.int (i * j)) := fun Q q => ha _ (hb _ ⟨i, j, rfl, rfl, h, q⟩)
theorem ev_mod (h : 0 < j) (ha : Ev a σ H (.int i)) (hb : Ev b σ H (.int j)) : Ev (tmod a b) σ H (.int (i % j)) := fun Q q => ha _ (hb _ ⟨i, j, rfl, rfl, h, q⟩)
theorem ev_div (h : CDivW i j) (ha : Ev a σ H (.int i)) (hb : Ev b σ H (.int j)) : Ev (tdvW a b) σ H (.int (i / j)) := fun Q q => ha _ (hb _ ⟨i, j, rfl, rfl, h, q⟩)
theorem ev_pow (h : CPow i j) (ha : Ev a σ H (.int i)) (hb : Ev b σ H (.int j)) : Ev (tpw a b) σ H (.int (i ^ j.toNat)) := fun Q q => ha _ (hb _ ⟨i, j, rfl, rfl, h, q⟩)
theorem ev_in (ha : Ev a σ H (.int i)) : Ev (tin a) σ H (.int i) := fun Q q => ha _ (.inl ⟨i, rfl, q⟩)
theorem ev_inB {k : Bool} (ha : Ev a σ H (.bl k)) : Ev (tin a) σ H (.int (if k then 1 else 0)) := fun Q q => ha _ (.inr ⟨k, rfl, q⟩)
theorem ev_abs (ha : Ev a σ H (.int i)) : Ev (tab a) σ H (.int (if i < 0 then -i else i)) := fun Q q => ha _ ⟨i, rfl, q⟩
theorem ev_lt (ha : Ev a σ H (.int i)) (hb : Ev b σ H (.int j)) : Ev (tOp (rI0 fun i j => .bl (decide (i < j))) a b) σ H (.bl (decide (i < j))) := fun Q q => ha _ (hb _ ⟨i, j, rfl, rfl, q⟩)
theorem ev_gt (ha : Ev a σ H (.int i)) (hb : Ev b σ H (.int j)) : Ev (tOp (rI0 fun i j => .bl (decide (j < i))) a b) σ H (.bl (decide (j < i))) := fun Q q => ha _ (hb _ ⟨i, j, rfl, rfl, q⟩)
theorem ev_ge (ha : Ev a σ H (.int i)) (hb : Ev b σ H (.int j)) : Ev (tOp (rI0 fun i j => .bl (decide (j ≤ i))) a b) σ H (.bl (decide (j ≤ i))) := fun Q q => ha _ (hb _ ⟨i, j, rfl, rfl, q⟩)
theorem ev_ix {p : Addr} {xs : List V} {v : V} (ha : Ev a σ H (.ref p)) (hb : Ev b σ H (.int i)) (hp : H p = some (.lst xs)) (hv : atI xs i = some v) : Ev (tOp (rIx K) a b) σ H v := fun Q q => ha _ (hb _ (.inl ⟨p, xs, i, v, rfl, rfl, SqL.of hp, hv, q⟩))
theorem ev_len {p : Addr} {xs : List V} (ha : Ev a σ H (.ref p)) (hp : H p = some (.lst xs)) : Ev (tCB (rLenC K) (tCons a tNil)) σ H (.int xs.length) := fun Q q => ha _ (.inl ⟨p, xs, rfl, .inl (SqL.of hp), q⟩)
theorem ev_if {t u : TS} {D : Ends} {k : Bool} (h : Ev a σ H (.bl k)) (q : if k = true then t D σ H else u D σ H) : tIfS (tTest a) t u D σ H := h _ ⟨k, rfl, q⟩
end
end DL
namespace DL
open PySem PySem.Spec L2
open PyProof.Rows
theorem shaped_ints (ns : List Int) : SeqAt.shaped (.list (ns.map PyData.int)) = true := by
  have h1 : ∀ l : List Int, PyData.canLayAll0 (l.map PyData.int) = true := by
    intro l
    induction l with
    | nil => rfl
    | cons x l ih => simp [PyData.canLayAll0, PyData.canLay0, ih]
  have h2 : ∀ l : List Int, PyData.depthAll (l.map PyData.int) = 0 := by
    intro l
    induction l with
    | nil => rfl
    | cons x l ih => simp [PyData.depthAll, PyData.depth, ih]
  unfold SeqAt.shaped
  rw [Bool.and_eq_true]
  refine ⟨?_, ?_⟩
  · simp only [PyData.canLay0]
    exact h1 ns
  · rw [decide_eq_true_eq]
    simp only [PyData.depth]
    rw [h2]
    omega
theorem dpAll_ints {K : PySem.W.Frag} {H : Hp} : ∀ ns : List Int, DpAll K H (ns.map V.int) (ns.map PyData.int)
  | [] => .nil
  | i :: ns => .cons (.int i) (dpAll_ints ns)
theorem atI_nat {α : Type} {l : List α} {k : Nat} {x : α} (h : l[k]? = some x) : atI l (k : Int) = some x := by
  have hk : k < l.length := (List.getElem?_eq_some_iff.mp h).1
  unfold atI ixN
  rw [if_pos (by omega), if_pos (by omega)]
  simpa using h
theorem emod_r {i n : Int} (h : 0 < n) : 0 ≤ i % n ∧ i % n < n := ⟨Int.emod_nonneg i (by omega), Int.emod_lt_of_pos i h⟩
/-- the parts of the heap that are not the pen's -/
structure DrK (pa sa : Addr) (H H' : Hp) : Prop where
  keep : ∀ b o, b ≠ pa → H b = some o → H' b = some o
  new : ∀ b, H b = none → H' b = none ∨ ∃ vs, H' b = some (.lst vs)
theorem DrK.refl {pa sa : Addr} {H : Hp} : DrK pa sa H H := ⟨fun _ _ _ h => h, fun _ h => .inl h⟩
theorem DrK.pen {pa sa : Addr} {H H' : Hp} {vs ws : List V} (d : DrK pa sa H H') (h : H pa = some (.lst ws)) : DrK pa sa H (upd H' pa (.lst vs)) :=
  ⟨fun b o n q => by rw [upd_ne n]; exact d.keep b o n q, fun b q => by
    by_cases e : b = pa
    · rw [e] at q; rw [h] at q; cases q
    · rw [upd_ne e]; exact d.new b q⟩
theorem DrK.lay {pa sa p : Addr} {H H' : Hp} {vs : List V} (d : DrK pa sa H H') (h : H' p = none) : DrK pa sa H (upd H' p (.lst vs)) :=
  ⟨fun b o n q => by
    have := d.keep b o n q
    rw [upd_ne (ne_of_none this h)]; exact this, fun b q => by
    by_cases e : b = p
    · rw [e, upd_same]; exact .inr ⟨_, rfl⟩
    · rw [upd_ne e]; exact d.new b q⟩
theorem draw_run {K : PySem.W.Frag} {pa sa : Addr} {ns : List Int} {H : Hp} {k r n : Int} {j bl : Nat} {Q : VK} {a1 a2 a3 a4 a5 a6 a7 p1 p2 p3 : Int}
    (hA : 0 ≤ a1 ∧ a1 < 2 ^ 20 ∧ 0 ≤ a3 ∧ a3 < 2 ^ 20 ∧ 0 ≤ a4 ∧ a4 < 2 ^ 20 ∧ 0 ≤ a5 ∧ a5 < 2 ^ 20 ∧ 0 ≤ a6 ∧ a6 < 2 ^ 20 ∧ 0 ≤ a7 ∧ a7 < 2 ^ 20 ∧ 0 < p1 ∧ p1 < 2 ^ 31 ∧ 0 < p2 ∧ p2 < 2 ^ 31 ∧ 0 < p3 ∧ p3 < 2 ^ 31)
    (hpa : H pa = some (.lst [.ref sa, .int k, .int r])) (hsa : H sa = some (.lst (ns.map V.int))) (ne : pa ≠ sa) (hk0 : 0 ≤ k) (hkj : k ≤ j) (hj : j < 1000000) (hr0 : 0 ≤ r) (hrb : r.natAbs < 2 ^ bl) (hn0 : 0 < n) (hnb : n.natAbs < 2 ^ 1000)
    (hns : ∀ z ∈ ns, 2 * z.natAbs + 2 < 2 ^ bl)
    (hQ : ∀ d H' k' r', 0 ≤ d → d < n → H' pa = some (.lst [.ref sa, .int k', .int r']) → 0 ≤ k' → k' ≤ ((j + 1 : Nat) : Int) → 0 ≤ r' → r'.natAbs < 2 ^ bl → DrK pa sa H H' → Q (.int d) H') :
    tDraw K a1 a2 a3 a4 a5 a6 a7 p1 p2 p3 { nx := fun _ H' => Q .non H', rt := Q } [some (.ref pa), some (.int n), none, none, none, none, none] H := by
  obtain ⟨b1, b2, b3, b4, b5, b6, b7, b8, b9, b10, b11, b12, b13, b14, b15, b16, b17, b18⟩ := hA
  have dW : ∀ i, CDivW i n := fun i => wide_div hn0 hnb (by omega) (by omega)
  have divb : ∀ g : Int, 0 ≤ g → g.natAbs < 2 ^ bl → 0 ≤ g / n ∧ (g / n).natAbs < 2 ^ bl := fun g h0 h1 => by
    have e1 : 0 ≤ g / n := Int.ediv_nonneg h0 (by omega)
    have e2 : g / n ≤ g := Int.ediv_le_self n h0
    exact ⟨e1, by omega⟩
  refine ev_if (ev_gt (ev_ix (i := 2) (ev_v 0 rfl) (ev_c 2) hpa rfl) (ev_c 0)) ?_
  by_cases hr : (0 : Int) < r
  · rw [if_pos (decide_eq_true hr)]
    refine ev_mod hn0 (ev_in (ev_ix (i := 2) (ev_v 0 rfl) (ev_c 2) hpa rfl)) (ev_v 1 rfl) _ ?_
    refine ev_div (dW r) (ev_in (ev_ix (i := 2) (ev_v 0 rfl) (ev_c 2) hpa rfl)) (ev_v 1 rfl) _ ?_
    refine ⟨.ref pa, rfl, pa, _, 2, 2, rfl, rfl, hpa, rfl, ?_⟩
    obtain ⟨d1, d2⟩ := divb r hr0 hrb
    refine ⟨_, rfl, hQ _ _ k (r / n) (emod_r hn0).1 (emod_r hn0).2 upd_same hk0 (by omega) d1 d2 (DrK.refl.pen hpa)⟩
  · rw [if_neg (by rw [decide_eq_true_eq]; exact hr)]
    refine ev_ix (i := 1) (ev_v 0 rfl) (ev_c 1) hpa rfl _ ?_
    refine ev_add (ev_v 3 rfl) (ev_c 1) _ ?_
    refine ⟨.ref pa, rfl, pa, _, 1, 1, rfl, rfl, hpa, rfl, ?_⟩
    have hpa2 : upd H pa (.lst ([V.ref sa, .int k, .int r].set 1 (.int (k + 1)))) pa = some (.lst [.ref sa, .int (k + 1), .int r]) := upd_same
    have hsa2 : upd H pa (.lst ([V.ref sa, .int k, .int r].set 1 (.int (k + 1)))) sa = some (.lst (ns.map V.int)) := by rw [upd_ne (Ne.symm ne)]; exact hsa
    have dr2 : DrK pa sa H (upd H pa (.lst ([V.ref sa, .int k, .int r].set 1 (.int (k + 1))))) := DrK.refl.pen hpa
    revert hpa2 hsa2 dr2
    generalize upd H pa (.lst ([V.ref sa, .int k, .int r].set 1 (.int (k + 1)))) = H2
    intro hpa2 hsa2 dr2
    refine ev_add (ev_mul (.inl ⟨by omega, by omega⟩) (ev_c a1) (ev_v 3 rfl)) (ev_c a2) _ ?_
    -- pen[0] != []
    refine ev_ix (i := 0) (ev_v 0 rfl) (ev_c 0) hpa2 rfl _ ?_
    refine ⟨by decide, fun p hp => ?_⟩
    have npa : p ≠ pa := fun z => by rw [z, hpa2] at hp; cases hp
    have nsa : p ≠ sa := fun z => by rw [z, hsa2] at hp; cases hp
    have hpa3 : upd H2 p (.lst []) pa = some (.lst [.ref sa, .int (k + 1), .int r]) := by rw [upd_ne (Ne.symm npa)]; exact hpa2
    have hsa3 : upd H2 p (.lst []) sa = some (.lst (ns.map V.int)) := by rw [upd_ne (Ne.symm nsa)]; exact hsa2
    have hp3 : upd H2 p (.lst []) p = some (.lst []) := upd_same
    have dr3 : DrK pa sa H (upd H2 p (.lst [])) := dr2.lay hp
    revert hpa3 hsa3 dr3 hp3
    generalize upd H2 p (.lst []) = H3
    intro hpa3 hsa3 hp3 dr3
    refine ⟨.list (ns.map PyData.int), .list [], .lst (SqL.of hsa3) (dpAll_ints ns), .lst (SqL.of hp3) .nil, shaped_ints ns, shaped_ints [], _, rfl, ?_⟩
    -- behind the cell
    have tail : ∀ cell : Int, (ns = [] ∨ cell ∈ ns) → (tSeq (tIfS (tAnd (tTest (tOp (rI0 fun i j => .bl (decide (i < j))) (tVar 3) (tlen0 K))) (tTest (tOp (rI0 fun i j => .bl (decide (j ≤ i))) (tab (tVar 4)) (tpw (cI 10) (cI 18))))) (dB K) tNext)
        (tSeq (tAsg (tmod (tin (tpw (tad (tad (tmod (tin (tVar 4)) (cI p1)) (tml (cI a3) (tVar 3))) (cI a4)) (cI 5))) (cI p2)) (gName 6))
        (tSeq (tAsg (tmod (tin (tpw (tad (tad (tml (tVar 6) (tad (tml (cI 2) (tVar 3)) (cI a5))) (tml (tml (cI a6) (tVar 3)) (tVar 3))) (cI a7)) (cI 3))) (cI p3)) (gName 6))
        (tRet (tmod (tin (tdvW (tVar 6) (cI 32))) (tVar 1)))))) { nx := fun _ H' => Q .non H', rt := Q } [some (.ref pa), some (.int n), none, some (.int k), some (.int cell), none, none] H3 := by
      intro cell hcell
      have rest : (tSeq (tAsg (tmod (tin (tpw (tad (tad (tmod (tin (tVar 4)) (cI p1)) (tml (cI a3) (tVar 3))) (cI a4)) (cI 5))) (cI p2)) (gName 6))
        (tSeq (tAsg (tmod (tin (tpw (tad (tad (tml (tVar 6) (tad (tml (cI 2) (tVar 3)) (cI a5))) (tml (tml (cI a6) (tVar 3)) (tVar 3))) (cI a7)) (cI 3))) (cI p3)) (gName 6))
        (tRet (tmod (tin (tdvW (tVar 6) (cI 32))) (tVar 1))))) { nx := fun _ H' => Q .non H', rt := Q } [some (.ref pa), some (.int n), none, some (.int k), some (.int cell), none, none] H3 := by
        have hk6 : k ≤ 1000000 := by omega
        have m1 := emod_r (i := cell) b13
        have q3 : a3 * k ≤ 2 ^ 20 * 1000000 := Int.mul_le_mul (by omega) hk6 hk0 (by omega)
        have q3' : 0 ≤ a3 * k := Int.mul_nonneg b3 hk0
        refine ev_mod b15 (ev_in (ev_pow ⟨by omega, by omega, by omega⟩ (ev_add (ev_add (ev_mod b13 (ev_in (ev_v 4 rfl)) (ev_c p1)) (ev_mul (.inl ⟨by omega, by omega⟩) (ev_c a3) (ev_v 3 rfl))) (ev_c a4)) (ev_c 5))) (ev_c p2) _ ?_
        generalize hM : (cell % p1 + a3 * k + a4) ^ (5 : Int).toNat % p2 = M
        have mM : 0 ≤ M ∧ M < p2 := by rw [← hM]; exact emod_r b15
        have x1 : M * (2 * k + a5) ≤ 2 ^ 31 * (2 ^ 22) := Int.mul_le_mul (by omega) (by omega) (by omega) (by omega)
        have x0 : 0 ≤ M * (2 * k + a5) := Int.mul_nonneg mM.1 (by omega)
        have y1 : a6 * k ≤ 2 ^ 20 * 1000000 := Int.mul_le_mul (by omega) hk6 hk0 (by omega)
        have y0 : 0 ≤ a6 * k := Int.mul_nonneg b9 hk0
        have z1 : a6 * k * k ≤ 2 ^ 20 * 1000000 * 1000000 := Int.mul_le_mul y1 hk6 hk0 (by omega)
        have z0 : 0 ≤ a6 * k * k := Int.mul_nonneg y0 hk0
        refine ev_mod b17 (ev_in (ev_pow ⟨by omega, by omega, by omega⟩ (ev_add (ev_add (ev_mul (.inl ⟨by omega, by omega⟩) (ev_v 6 rfl) (ev_add (ev_mul (.inl ⟨by omega, by omega⟩) (ev_c 2) (ev_v 3 rfl)) (ev_c a5))) (ev_mul (.inl ⟨by omega, by omega⟩) (ev_mul (.inl ⟨by omega, by omega⟩) (ev_c a6) (ev_v 3 rfl)) (ev_v 3 rfl))) (ev_c a7)) (ev_c 3))) (ev_c p3) _ ?_
        refine ev_mod hn0 (ev_in (ev_div (wide_div (b := 6) (by omega) (by decide) (by omega) (by omega)) (ev_v 6 rfl) (ev_c 32))) (ev_v 1 rfl) _ ?_
        exact hQ _ _ (k + 1) r (emod_r hn0).1 (emod_r hn0).2 hpa3 (by omega) (by omega) hr0 hrb dr3
      refine ev_lt (ev_v 3 rfl) (ev_len (ev_ix (i := 0) (ev_v 0 rfl) (ev_c 0) hpa3 rfl) hsa3) _ ⟨_, rfl, ?_⟩
      by_cases hl : k < ((ns.map V.int).length : Int)
      · rw [decide_eq_true hl]
        refine iteT ?_
        refine ev_ge (ev_abs (ev_v 4 rfl)) (ev_pow ⟨by omega, by omega, by decide⟩ (ev_c 10) (ev_c 18)) _ ⟨_, rfl, ?_⟩
        by_cases hg : (10 : Int) ^ (18 : Int).toNat ≤ (if cell < 0 then -cell else cell)
        · rw [decide_eq_true hg]
          refine iteT ?_
          have hc : 2 * cell.natAbs + 2 < 2 ^ bl := by
            rcases hcell with e | e
            · rw [e] at hl; simp at hl; omega
            · exact hns cell e
          have e18 : (10 : Int) ^ (18 : Int).toNat = 1000000000000000000 := by decide
          have hg' : (1000000000000000000 : Int) ≤ (if cell < 0 then -cell else cell) := by rw [← e18]; exact hg
          refine ev_add (ev_mul (.inl ⟨by omega, by omega⟩) (ev_c 2) (ev_sub (ev_abs (ev_v 4 rfl)) (ev_pow ⟨by omega, by omega, by decide⟩ (ev_c 10) (ev_c 18)))) (ev_inB (ev_lt (ev_v 4 rfl) (ev_c 0))) _ ?_
          generalize hG : (2 * ((if cell < 0 then -cell else cell) - 10 ^ (18 : Int).toNat) + (if (decide (cell < 0)) = true then 1 else 0) : Int) = G
          have g0 : 0 ≤ G ∧ G.natAbs < 2 ^ bl := by
            rw [e18] at hG
            by_cases hneg : cell < 0
            · simp only [hneg, decide_true, if_true] at hG hg'
              omega
            · simp only [hneg, decide_false, if_false, Bool.false_eq_true] at hG hg'
              omega
          refine ev_div (dW G) (ev_in (ev_v 5 rfl)) (ev_v 1 rfl) _ ?_
          refine ⟨.ref pa, rfl, pa, _, 2, 2, rfl, rfl, hpa3, rfl, ?_⟩
          obtain ⟨d1, d2⟩ := divb G g0.1 g0.2
          refine ev_mod hn0 (ev_in (ev_v 5 rfl)) (ev_v 1 rfl) _ ?_
          exact hQ _ _ (k + 1) (G / n) (emod_r hn0).1 (emod_r hn0).2 upd_same (by omega) (by omega) d1 d2 ⟨fun b o nb q => by rw [upd_ne nb]; exact dr3.keep b o nb q, fun b q => by
            by_cases e : b = pa
            · rw [e, hpa] at q; cases q
            · rw [upd_ne e]; exact dr3.new b q⟩
        · rw [decide_eq_false hg]
          refine iteF ?_
          exact rest
      · rw [decide_eq_false hl]
        refine iteF ?_
        exact rest
    cases hnil : ns with
    | nil =>
      have : (!PyData.eqv (.list (([] : List Int).map PyData.int)) (.list [])) = false := by decide
      rw [this]
      exact tail _ (.inl hnil)
    | cons z zs =>
      have : (!PyData.eqv (.list ((z :: zs).map PyData.int)) (.list [])) = true := by simp [PyData.eqv, PyData.eqvAll]
      rw [this]
      refine iteT ?_
      have hlen : (0 : Int) < ((ns.map V.int).length : Int) := by rw [hnil]; simp
      have m0 := emod_r (i := k) hlen
      have hget : ∃ v, ns[(k % ((ns.map V.int).length : Int)).toNat]? = some v := by
        have : (k % ((ns.map V.int).length : Int)).toNat < ns.length := by
          have := m0.2
          rw [List.length_map] at this ⊢
          have := m0.1
          rw [List.length_map] at this
          omega
        exact ⟨_, List.getElem?_eq_getElem this⟩
      obtain ⟨v, hv⟩ := hget
      refine ev_ix (xs := ns.map V.int) (v := .int v) (i := k % ((ns.map V.int).length : Int)) (ev_ix (i := 0) (ev_v 0 rfl) (ev_c 0) hpa3 rfl) (ev_mod hlen (ev_in (ev_v 3 rfl)) (ev_len (ev_ix (i := 0) (ev_v 0 rfl) (ev_c 0) hpa3 rfl) hsa3)) hsa3 ?_ _ ?_
      · have e : (k % ((ns.map V.int).length : Int)) = (((k % ((ns.map V.int).length : Int)).toNat : Nat) : Int) := by have := m0.1; omega
        rw [e]
        refine atI_nat ?_
        rw [List.getElem?_map, hv]
        rfl
      · exact tail v (.inr (List.mem_of_getElem? hv))
end DL
namespace DL
open PySem PySem.Spec L2
open PyProof.Rows
def drawM : List D → T D := fun ds => match ds with
  | [.pen, .int n] => .draw n fun d => .ok (.int d)
  | _ => .stuck
section
variable {P : Program} {w : World} {K : PySem.W.Frag} {mg : Str → Option Value} {base : Heap} {c : Ct}
theorem fn_draw {x : Str} {params : Arguments} {body : List Stmt} {scope : Scope} {f : Addr} {fd : FuncData} {N : List Str} {pa pb : Str} {k : Nat} {a1 a2 a3 a4 a5 a6 a7 p1 p2 p3 : Int}
    (F : FunD K x x params body scope [] [] f fd) (S : FnScope N [pa, pb] scope) (hN : N.length = 7) (hc : c.hp = true) (hns : ∀ z ∈ c.ns, 2 * z.natAbs + 2 < 2 ^ c.bl)
    (hA : 0 ≤ a1 ∧ a1 < 2 ^ 20 ∧ 0 ≤ a3 ∧ a3 < 2 ^ 20 ∧ 0 ≤ a4 ∧ a4 < 2 ^ 20 ∧ 0 ≤ a5 ∧ a5 < 2 ^ 20 ∧ 0 ≤ a6 ∧ a6 < 2 ^ 20 ∧ 0 ≤ a7 ∧ a7 < 2 ^ 20 ∧ 0 < p1 ∧ p1 < 2 ^ 31 ∧ 0 < p2 ∧ p2 < 2 ^ 31 ∧ 0 < p3 ∧ p3 < 2 ^ 31)
    (hb : ∀ (cdv : Value) (A : Around) (outer : List Env) (s : Shared) (H : Hp) (E : XK), Room k (A.deeper (envOfC x scope s.heap.objs.size f cdv)) → PSs (cxOf (CX P w) P w K mg base N x scope f cdv A outer s H E) body (tDraw K a1 a2 a3 a4 a5 a6 a7 p1 p2 p3)) :
    FnOk P w K mg base (CX P w) (k + 1) f fd [pa, pb] (spD c K drawM) := by
  have view : ∀ {ds : List D} {j : Nat} {R : Nat → D → Prop} {E : Nat → Xc → Prop}, (drawM ds).All j R E → ∃ n, ds = [.pen, .int n] := fun {ds j R E} h => by
    unfold drawM at h
    split at h
    · exact ⟨_, rfl⟩
    · exact h.elim
  refine fun_ok F S (fun vs H Q E ⟨F, ds, j, g, r, h⟩ => ?_) fun cdv A outer s H vs Q E _ hr ⟨F, ds, j, g, r, h⟩ => ⟨_, hb cdv A outer s H E hr, ?_⟩
  · obtain ⟨n, rfl⟩ := view h
    rw [r.length]
    rfl
  · obtain ⟨n, rfl⟩ := view h
    obtain ⟨hj, hn0, hn1, h⟩ := h
    cases r with
    | cons r1 r =>
      cases r with
      | cons r2 r =>
        cases r
        cases r1
        cases r2
        obtain ⟨k0, r0, q1, q2, q3, q4, q5, q6, q7⟩ := g.pen.2.2 hc
        have st : L2.start N [V.ref c.pa, V.int n] = [some (.ref c.pa), some (.int n), none, none, none, none, none] := by
          unfold L2.start
          rw [hN]
          rfl
        rw [st]
        refine draw_run (bl := c.bl) hA q1 q2 q3 q4 q5 hj q6 q7 hn0 (by omega) hns fun d H' k' r' d0 d1 hp' k0' k1' r0' r1' dr => ?_
        have hkeep : ∀ b o, b ≠ c.pa → H b = some o → H' b = some o := dr.keep
        refine h d d0 d1 F H' (.int d) ⟨fun _ _ z => z, fun b o nb _ z => hkeep b o nb z, fun b z => ?_, fun _ z => .inl z⟩ ⟨fun b o z => ?_, g.pa, ⟨⟨_, hp'⟩, ⟨_, hkeep _ _ (Ne.symm q3) q2⟩, fun _ => ⟨k', r', hp', hkeep _ _ (Ne.symm q3) q2, q3, k0', k1', r0', r1'⟩⟩, ?_, g.nt⟩ (.int d)
        · by_cases e : b = c.pa
          · rw [e, hp']; simp
          · cases y : H b with
            | none => exact absurd y z
            | some o => rw [hkeep b o e y]; simp
        · exact hkeep b o (fun e => by rw [e, g.pa hc] at z; cases z) (g.sub b o z)
        · refine tabs_keep g.tab (fun b o n1 _ z => hkeep b o (fun e => by rw [e, q1] at z; cases z; exact n1 _ rfl) z) fun b ps z => ?_
          by_cases e : b = c.pa
          · rw [e, hp'] at z; cases z
          · cases y : H b with
            | none =>
              rcases dr.new b y with y2 | ⟨vs, y2⟩
              · rw [y2] at z; cases z
              · rw [y2] at z; cases z
            | some o => rw [hkeep b o e y] at z; exact z
end
end DL
namespace DL
open PySem PySem.Spec L2
open PyProof.Rows
section
variable {K : PySem.W.Frag} {x qual : Str} {params : Arguments} {body : List Stmt} {scope : Scope} {kws : List (Str × V)} {f : Addr} {fd : FuncData} {ps : List Str}
def NeC (K : PySem.W.Frag) (C : Addr) : Prop := PySem.W.findIn K (.ref C) "__ne__" = some (some (.builtin "object.__ne__")) ∧ PySem.W.mroIn K C (.type "object") = some true
/-- the statements of a class -/
def cBody (s : Stmt) : List Stmt := match s with
  | .ClassDef (body := b) .. => b
  | _ => []
/-- keywords, no defaults -/
theorem kbN (F : FunD K x qual params body scope [] kws f fd) (n : Nat) (ks : List Str) (g : {α : Type} → List α → List α → List α)
    (hrel : ∀ {vs zs : List V} {us ws : List Value}, Vals vs us → Vals zs ws → Vals (g vs zs) (g us ws))
    (h : ∀ (kV doc pm : Value) (an : Option Addr) (cdv ct : Value) (us ws : List Value), us.length = n → ws.length = ks.length →
      bindArgs (PySem.W.fnOf x qual params body scope .none kV doc pm an cdv ct) ⟨us, ks.zip ws⟩ = pure (ps.zip (g us ws))) :
    KBn K fd ps n ks (fun us ws => g us ws) (fun vs zs => g vs zs) := by
  obtain ⟨oc, od, dV, kV, doc, pm, an, cdv, ct, osl, rfl, lk, hcd, hD, hK⟩ := F.ex
  rcases hD with ⟨_, rfl⟩ | ⟨e, _⟩
  · exact ⟨fun s us ws X l1 l2 => .of_eq (h kV doc pm an cdv ct us ws l1 l2), fun r1 r2 => hrel r1 r2⟩
  · exact absurd rfl e
end
section
variable {X : Cx} {c : Ct} {W : WX} {pos : Pos}
theorem de_con {x : Str} {d : D} (h : ∃ v u, X.mg x = some u ∧ RelV v u ∧ ∀ F, Dat c X.K F v d) (hg : Gl X x := by rfl) (hdb : (x == ("__debug__" : Str)) = false := by decide) : DE X c W (.Name x pos) (mC d) := by
  obtain ⟨v, u, h1, h2, h3⟩ := h
  exact de_glob hg h1 h2 h3 hdb
end
end DL
set_option maxHeartbeats 2000000
/-! DN0: the end of a law row for defs that promise only where no repr is under way (DL.FnOk). Turned from the kit's worked end with tables. -/
namespace DL
open PySem PySem.Spec PyProof.Rows L2 LamX
/-- the heap at the law's call: the tables, and the script (if K does not hold it) -/
def hp0 (K : PySem.W.Frag) (a : Addr) (u : HO) (ts : List Addr) : Hp := fun b => if b ∈ ts then some (.tbl #[]) else if b = a ∧ (K.lookup a).isNone = true then some u else none
theorem hp0_t {K : PySem.W.Frag} {a b : Addr} {u : HO} {ts : List Addr} (h : b ∈ ts) : hp0 K a u ts b = some (.tbl #[]) := if_pos h
theorem hp0_some {K : PySem.W.Frag} {a b : Addr} {u v : HO} {ts : List Addr} (h : hp0 K a u ts b = some v) : (b ∈ ts ∧ v = .tbl #[]) ∨ (b ∉ ts ∧ b = a ∧ K.lookup a = none ∧ v = u) := by
  unfold hp0 at h
  split at h
  · rename_i q; cases h; exact .inl ⟨q, rfl⟩
  · rename_i q
    split at h
    · rename_i z
      cases h
      refine .inr ⟨q, z.1, ?_, rfl⟩
      have := z.2
      cases y : K.lookup a with
      | none => rfl
      | some o => rw [y] at this; cases this
    · cases h
theorem law_callD {P : Program} {w : World} {K : PySem.W.Frag} {mg mb : Str → Option Value} {CX : CXT} {k : Nat} {fa a : Addr} {cs : List (Addr × Addr)} {fd : FuncData} {x : Str} {sp : Sp} {s₁ : Shared} {vs : List Value} {ns : List Int}
    (KX : K.In s₁.heap) (hns : s₁.heap.Ns mainGlobals mg) (hb : s₁.heap.Ns builtinsNs mb) (hbb : ∀ x : Str, x ≠ "__name__" → mb x = bootBuiltins x) (hlim : s₁.heap.NoLimit) (hg : s₁.gens = #[])
    (hT : ∀ p ∈ cs, s₁.heap.get? p.2 = some { cls := .none, data := .fields #[] }) (nT : ∀ p ∈ cs, K.lookup p.2 = none) (C : ∀ p ∈ cs, PySem.W.CodeHd s₁.heap p.1 p.2)
    (hbm : ∃ (bm : Addr) (ob : Obj), mg "__builtins__" = some (.ref bm) ∧ bm ≠ builtinsNs ∧ s₁.heap.get? bm = some ob ∧ ob.cls = .type "module" ∧ ob.dict = some builtinsNs ∧ ob.data = .plain)
    (ha : s₁.heap.get? a = some { cls := .type "list", data := .seq vs.toArray }) (hi : IntsAre vs ns) (hl : ns.length ≤ sizeLine) (hr : Room k callerA)
    (F : ∀ base : Heap, K.In base → base.Ns mainGlobals mg → (∀ p ∈ cs, TabB base mg p.1 p.2) → DL.FnOk P w K mg base CX k fa fd [x] sp) (hbind : ∀ (s : Shared) (u : Value), BindsTo s fd ⟨[u], []⟩ [(x, u)])
    (hsp : ∀ H : Hp, (∀ p ∈ cs, H p.2 = some (.tbl #[])) → (∀ b ps, H b = some (.tbl ps) → ∃ p ∈ cs, p.2 = b) → SqL K H a (ns.map V.int) → sp [.ref a] H (fun v _ => v = .bl true) fun _ _ _ => False)
    (hCX : ∀ H e s', CX [] H s₁ (fun _ _ _ => False) e s' → False) :
    codeAny (model P w) callerA (.call (.ref fa) ⟨[.ref a], []⟩) (fun r s' => r = .ok (.ret (.bool true)) ∧ OldK s₁.heap s'.heap ∧ s'.os = s₁.os ∧ AllBare s'.gens) s₁ := by
  have rv := vals_ints hi
  have lenV := hi.length
  have tabs : ∀ b ∈ cs.map (·.2), ∃ p ∈ cs, p.2 = b := fun b h => by simpa using h
  have isT : ∀ b ∈ cs.map (·.2), s₁.heap.get? b = some { cls := .none, data := .fields #[] } := fun b h => by
    obtain ⟨p, hp, rfl⟩ := tabs b h
    exact hT p hp
  have memT : ∀ p ∈ cs, p.2 ∈ cs.map (·.2) := fun p hp => List.mem_map.mpr ⟨p, hp, rfl⟩
  have aT : a ∉ cs.map (·.2) := fun z => by
    have q := (isT a z).symm.trans ha
    have q := congrArg Obj.data (Option.some.inj q)
    cases q
  let u0 : HO := .frz { cls := .type "list", data := .seq vs.toArray } (.lst (ns.map V.int))
  let H : Hp := hp0 K a u0 (cs.map (·.2))
  have hH : ∀ p ∈ cs, H p.2 = some (.tbl #[]) := fun p hp => hp0_t (memT p hp)
  have hA : ∀ b ps, H b = some (.tbl ps) → ∃ p ∈ cs, p.2 = b := fun b ps z => by
    rcases hp0_some z with ⟨h1, _⟩ | ⟨_, _, _, e⟩
    · exact tabs b h1
    · exact absurd e (by intro q; cases (show HO.tbl ps = HO.frz _ _ from q))
  have hok : HOk P w H s₁.heap := fun b u z => by
    rcases hp0_some z with ⟨h1, rfl⟩ | ⟨_, rfl, _, rfl⟩
    · exact isT b h1
    · exact ⟨ha, by rw [List.length_map]; exact hl, vs, _, rv, ha⟩
  have hS : SqL K H a (ns.map V.int) := by
    cases hk : K.lookup a with
    | some o =>
      have e := KX a o hk
      rw [ha] at e
      cases e
      exact .inr ⟨_, vs.toArray, _, hk, rfl, rfl, rfl, by rw [List.size_toArray, lenV]; exact hl, by simpa using rv⟩
    | none => exact .inl (.inr ⟨{ cls := .type "list", data := .seq vs.toArray }, by
        show hp0 K a u0 (cs.map (·.2)) a = some u0
        unfold hp0
        rw [if_neg aT, if_pos ⟨rfl, by rw [hk]; rfl⟩]⟩)
  -- what is no list and no table is in the base
  have base_of : ∀ {b : Addr} {o : Obj}, s₁.heap.get? b = some o → H b = none → (hidT s₁.heap H).get? b = some o := fun e n => hidT_get e n
  have noD : ∀ {b : Addr} {o : Obj}, s₁.heap.get? b = some o → (∀ vs n, o.data ≠ .seq vs n) → o.data ≠ .fields #[] → H b = none := fun {b o} e h1 h2 => by
    cases q : H b with
    | none => rfl
    | some u =>
      rcases hp0_some q with ⟨h, _⟩ | ⟨_, rfl, _, _⟩
      · rw [isT b h] at e; cases e; exact absurd rfl h2
      · rw [ha] at e; cases e; exact absurd rfl (h1 _ _)
  have nsK : ∀ {b : Addr} {m : Str → Option Value}, s₁.heap.Ns b m → (hidT s₁.heap H).Ns b m := fun {b m} ⟨o, es, ep, e, d, r⟩ =>
    ⟨o, es, ep, base_of e (noD e (fun vs n z => by rw [d] at z; cases z) fun z => by rw [d] at z; cases z), d, r⟩
  have hKb : K.In (hidT s₁.heap H) := fun b o e => base_of (KX b o e) (by
    cases q : H b with
    | none => rfl
    | some u =>
      rcases hp0_some q with ⟨h, _⟩ | ⟨_, rfl, h, _⟩
      · obtain ⟨p, hp, rfl⟩ := tabs b h
        rw [nT p hp] at e; cases e
      · rw [h] at e; cases e)
  have hM : L2.Mod K mg (hidT s₁.heap H) := ⟨hKb, nsK hns, ⟨mb, nsK hb, hbb⟩, let ⟨mc, h1, h2⟩ := hlim; ⟨mc, nsK h1, h2⟩⟩
  have TB : ∀ p ∈ cs, TabB (hidT s₁.heap H) mg p.1 p.2 := fun p hp => by
    have hTp := hT p hp
    refine ⟨?_, ?_, fun z => ?_⟩
    · obtain ⟨o, us, file, tf, flags, tg, inF, text, tt, e1, r1, r2, r3, rest⟩ := C p hp
      exact ⟨o, us, file, tf, flags, tg, inF, text, tt, base_of e1 (noD e1 (fun vs n z => by rw [r2] at z; cases z) fun z => by rw [r2] at z; cases z; simp at r3), r1, r2, r3, rest⟩
    · obtain ⟨bm, ob, b1, b2, b3, b4, b5, b6⟩ := hbm
      refine ⟨bm, ob, b1, b2, fun q => ?_, fun q => ?_, base_of b3 (noD b3 (fun vs n z => by rw [b6] at z; cases z) fun z => by rw [b6] at z; cases z), b4, b5, b6⟩
      · obtain ⟨o, es, ep, e, hd, _⟩ := hns
        rw [q, e] at b3
        cases b3
        rw [hd] at b6
        cases b6
      · rw [q, hTp] at b3
        cases b3
        cases b6
    · obtain ⟨o, es, ep, e, hd, _⟩ := hns
      rw [z, hTp] at e
      cases e
      cases hd
  have e0 : Env0 P w K mg (hidT s₁.heap H) callerA [] s₁ H := ⟨rfl, hM, fun b o e => of_hidT e, Nat.le_of_eq (hidT_size _ _), trivial, fun b hb => absurd (show b ∈ ([] : List Addr) from hb) (by simp), hok, .of_eq hg⟩
  refine codeAny_mono ((F _ hKb (nsK hns) TB).run callerA [] s₁ H ⟨[.ref a], []⟩ [.ref a] [.ref a] _ _ hr e0 (hbind s₁ (.ref a)) (.cons rfl .nil) (hsp H hH hA hS)) fun r s' h => ?_
  cases r with
  | error e => exact (hCX H e s' h).elim
  | ok fl =>
    cases fl with
    | next => exact False.elim h
    | brk => exact False.elim h
    | cont => exact False.elim h
    | ret u =>
      obtain ⟨v, H', os, bare, un, hok', r', q⟩ := h
      obtain rfl : v = .bl true := q
      obtain rfl : u = Value.bool true := r'
      have key : ∀ b o, b ∉ cs.map (·.2) → s₁.heap.get? b = some o → s'.heap.get? b = some o := fun b o nb e => by
        cases q : H b with
        | none => exact un.keep b o e q (by intro z; exact absurd (show b ∈ ([] : List Addr) from z) (by simp)) (by simp)
        | some u =>
          rcases hp0_some q with ⟨z, _⟩ | ⟨_, _, _, rfl⟩
          · exact absurd z nb
          · obtain ⟨e1, _⟩ := hok b _ q
            obtain ⟨e2, _⟩ := hok' b _ (un.frzs b _ _ q)
            rw [e] at e1; cases e1
            exact e2
      have grown : ∀ p ∈ cs, ∃ more : Array Value, s'.heap.get? p.2 = some { cls := .none, data := .fields more } := fun p hp => by
        obtain ⟨more, z⟩ := un.tbls p.2 #[] (hH p hp)
        exact ⟨_, hok' p.2 _ z⟩
      refine ⟨rfl, ⟨fun b o e => ?_, fun b o e => ?_⟩, os, bare⟩
      · by_cases hb : b ∈ cs.map (·.2)
        · obtain ⟨p, hp, rfl⟩ := tabs b hb
          obtain ⟨more, hm⟩ := grown p hp
          rw [hT p hp] at e
          cases e
          exact .inr (.inl ⟨((C p hp).tab (hT p hp)).isCodeTable, rfl, #[], more, rfl, by rw [Array.empty_append]; exact hm⟩)
        · exact .inl (key b o hb e)
      · by_cases hb : b ∈ cs.map (·.2)
        · obtain ⟨p, hp, rfl⟩ := tabs b hb
          obtain ⟨more, hm⟩ := grown p hp
          exact ⟨_, hm⟩
        · exact ⟨o, key b o hb e⟩
/-- what is known of the law's promise at the head's heap h -/
def LawAtD (l : PySem.W.OpenLaw) (w : World) (K : PySem.W.Frag) (CX : CXT) (k n : Nat) (x : Str) (mg : Str → Option Value) (fa : Addr) (h : Heap) : Prop :=
  ∃ (fd : FuncData) (cs : List (Addr × Addr)), (∀ p ∈ cs, h.get? p.2 = some { cls := .none, data := .fields #[] }) ∧ (∀ p ∈ cs, K.lookup p.2 = none) ∧ (∀ p ∈ cs, PySem.W.CodeHd h p.1 p.2) ∧ (∀ (s : Shared) (u : Value), BindsTo s fd ⟨[u], []⟩ [(x, u)]) ∧
    ∀ ns : List Int, ns.length ≤ n → (∀ z ∈ ns, Builtin.Int.intBits z ≤ 1048576) → ∃ sp : Sp, (∀ (H : Hp) (a : Addr), (∀ p ∈ cs, H p.2 = some (.tbl #[])) → (∀ b ps, H b = some (.tbl ps) → ∃ p ∈ cs, p.2 = b) → SqL K H a (ns.map V.int) → sp [.ref a] H (fun v _ => v = .bl true) fun _ _ _ => False) ∧
      ∀ base : Heap, K.In base → base.Ns mainGlobals mg → (∀ p ∈ cs, TabB base mg p.1 p.2) → DL.FnOk l.prog w K mg base CX k fa fd [x] sp
theorem walk_ofD {l : PySem.W.OpenLaw} {n k : Nat} {q : Program} {loose : List Str} {XP : (Str → Option Value) → Heap → Prop} {YP : World → Heap → Prop} {d : DefRec} {CX : World → CXT} {x : Str}
    (hn : l.most = some n) (hn2 : n ≤ sizeLine) (hdf : d.params.defaults = []) (hr : Room k callerA)
    (F : ∀ (w : World) (mg : Str → Option Value) (fa : Addr) (h : Heap), YP w h → h.Ns mainGlobals mg → mg d.name = some (.ref fa) → ∃ K : PySem.W.Frag, K.In h ∧ LawAtD l w K (CX w) k n x mg fa h)
    (hCX : ∀ (w : World) (H : Hp) (s : Shared) (e : Value) (s' : Shared), CX w [] H s (fun _ _ _ => False) e s' → False) :
    PySem.W.WalkO q loose XP YP l.row.toRowW d [] (fun f vs => PySem.call f vs) := by
  refine Att.attach_callB hn hdf fun w s₀ s₁ mg mb fa o pm cd doc a vs ns G Y ho hd hcd hmg hobj hints hlen hbits hg => ?_
  obtain ⟨K, KX, fd, cs, hT, nT, C, hb, hF⟩ := F w mg fa _ Y G.T.g hmg
  obtain ⟨sp, hsp, hF⟩ := hF ns hlen hbits
  exact law_callD KX G.T.g G.T.b G.T.builtins G.T.nolimit hg hT nT C G.T.bmain hobj hints (Nat.le_trans hlen hn2) hr hF hb (fun H hH hA hS => hsp H a hH hA hS) fun H e s' => hCX w H s₁ e s'
end DL
set_option maxHeartbeats 2000000
/-! DH0: what a head tells of the data layer's classes: Bool checks over the written part. -/
namespace DL
open PySem PySem.Spec PyProof.Rows L2 He
def oexB (K : PySem.W.Frag) (C : Addr) : Bool := (match K.lookup C with
  | some ⟨.type t, _, .cls ⟨_, _, .ref D :: bm, _, _, true, _, _, _, _, false⟩, sl⟩ => decide (t = "type") && (decide (D = C) && (PySem.HandSPX.refsVE bm && (match sl.toList with
    | [_, _, _, _, some (.builtin n), _] => decide (n = "ValueError.__new__")
    | _ => false)))
  | _ => false) && (eqO (PySem.W.findIn K (.ref C) "__setattr__") (some (some (.builtin "object.__setattr__"))) && (decide (PySem.W.subIn K (.ref C) (.type "BaseException") = some true) && (decide (PySem.W.typeIn K (.ref C) = some (.type "type")) && PySem.W.keepIn K (.ref C))))
theorem oexB_ok {K : PySem.W.Frag} {C : Addr} (h : oexB K C = true) : OexC K C := by
  obtain ⟨h1, h⟩ := ba h
  obtain ⟨h2, h⟩ := ba h
  obtain ⟨h3, h⟩ := ba h
  obtain ⟨h4, h5⟩ := ba h
  refine ⟨?_, eqO_ok h2, of_decide_eq_true h3, of_decide_eq_true h4, h5⟩
  split at h1
  · rename_i t dd nm bs D bm N q sn sub ab col sl hk
    obtain ⟨e1, g1⟩ := ba h1
    obtain ⟨e2, g2⟩ := ba g1
    obtain ⟨e3, g3⟩ := ba g2
    have e1 := of_decide_eq_true e1
    have e2 := of_decide_eq_true e2
    clear h1 g1 g2
    subst e1 e2
    split at g3
    · rename_i k0 k1 k2 k3 n k5 hs
      have e4 := of_decide_eq_true g3
      subst e4
      refine ⟨nm, q, N, bs, bm, sn, sub, ab, col, dd, k0, k1, k2, k3, k5, ?_, e3⟩
      have es : sl = #[k0, k1, k2, k3, some (.builtin "ValueError.__new__"), k5] := by
        apply Array.ext'
        exact hs
      rw [hk, es]
    · cases g3
  · cases h1
/-- an exception class with an own __init__: the class, the qualified name, parameters, body, scope -/
structure XDef where
  cls : Str
  qual : Str
  params : Arguments
  body : List Stmt
  scope : Scope
abbrev FnZ : Type := Option (Str × Arguments × FuncBody × Scope × Addr × Addr)
def fnZ (K : PySem.W.Frag) (C : Str) : FnZ := match K.lookup (fAd K (C, some "__init__")) with
  | some ⟨_, _, .func fd, _⟩ => some (fd.qualname, fd.params, fd.body, fd.scope, fd.globals, fd.builtins)
  | _ => none
def XDef.val (d : XDef) : FnZ := some (d.qual, d.params, .stmts d.body, d.scope, mainGlobals, builtinsNs)
def fileB (file : Str) (K : PySem.W.Frag) (cd : Value) : Bool := match cd with
  | .ref cda => (match K.lookup cda with
    | some ⟨_, _, .fields vs, _⟩ => (match (vs[2]? : Option Value) with
      | some (.str f _) => file == f
      | _ => false)
    | _ => false)
  | _ => false
def xcB (file : Str) (K : PySem.W.Frag) (C : Str) (qual : Str) : Bool := (match K.lookup (fAd K (C, some "__init__")) with
  | some ⟨_, _, .func fd, _⟩ => (match fd.closure with
    | [(nm, cc)] => decide (nm = "__class__") && (match K.lookup cc with
      | some ⟨_, _, .cell (some (.ref D)), _⟩ => decide (D = ga K C)
      | _ => false)
    | _ => false) && (PySem.W.codeIn K fd.code qual && (fileB file K fd.code && decide (fd.defaults = .none)))
  | _ => false) && (decide (PySem.W.mroIn K (ga K C) (.ref (ga K C)) = some true) && (eqO (PySem.W.nsIn K cStatics "thirdparty.any") (some none) && (eqO (PySem.W.ks_superIn K (ga K C) (ga K C) "__init__") (some (some (.builtin "ValueError.__init__"))) &&
    (decide (PySem.W.subIn K (.ref (ga K C)) (.type "ValueError") = some true) && (oexB K (ga K C) && (eqO (PySem.W.findIn K (.ref (ga K C)) "__init__") (some (some (.ref (fAd K (C, some "__init__"))))) && decide (PySem.W.typeIn K (.ref (fAd K (C, some "__init__"))) = some (.type "function"))))))))
theorem xcB_ok {P : Program} {K : PySem.W.Frag} {d : XDef} (htop : (P.main.scope.names.lookup ("super" : Str)).isSome = false) (e : fnZ K d.cls = d.val) (h : xcB P.main.file K d.cls d.qual = true) :
    ∃ fd cda cc, XInit P K (ga K d.cls) (fAd K (d.cls, some "__init__")) d.qual d.params d.body d.scope fd cda cc ∧ (∃ name kV doc pm an ct, fd = PySem.W.ksFn name d.qual d.params d.body d.scope .none kV doc pm an (.ref cda) ct cc) ∧ PySem.W.findIn K (.ref (ga K d.cls)) "__init__" = some (some (.ref (fAd K (d.cls, some "__init__")))) ∧ PySem.W.typeIn K (.ref (fAd K (d.cls, some "__init__"))) = some (.type "function") := by
  obtain ⟨h1, h⟩ := ba h
  obtain ⟨h2, h⟩ := ba h
  obtain ⟨h3, h⟩ := ba h
  obtain ⟨h4, h⟩ := ba h
  obtain ⟨h5, h⟩ := ba h
  obtain ⟨h6, h⟩ := ba h
  obtain ⟨h7, h8⟩ := ba h
  unfold fnZ at e
  split at h1
  · rename_i oc od fd osl hk
    rw [hk] at e
    obtain ⟨n1, n2, n3, n4, n5, n6, n7, n8, n9, n10, n11, n12, n13, n14, n15⟩ := fd
    have e2 : (some (n2, n3, n4, n5, n6, n15) : FnZ) = some (d.qual, d.params, .stmts d.body, d.scope, mainGlobals, builtinsNs) := e
    simp only [Option.some.injEq, Prod.mk.injEq] at e2
    obtain ⟨rfl, rfl, rfl, rfl, rfl, rfl⟩ := e2
    obtain ⟨k1, g1⟩ := ba h1
    obtain ⟨k2, g2⟩ := ba g1
    obtain ⟨k3, k4⟩ := ba g2
    have k4 : n8 = .none := of_decide_eq_true k4
    clear h1 g1 g2
    subst k4
    unfold fileB at k3
    dsimp only at k1 k2 k3
    cases n13 <;> try (exact absurd k3 Bool.false_ne_true)
    · rename_i cda
      dsimp only at k3
      split at k3
      · rename_i ccl cdd vs ccs hcd
        split at k3
        · rename_i f tf hf
          split at k1
          · rename_i nm cc
            obtain ⟨k5, k6⟩ := ba k1
            have k5 := of_decide_eq_true k5
            subst k5
            split at k6
            · rename_i cl cld D csl hcc
              have k6 := of_decide_eq_true k6
              subst k6
              exact ⟨_, cda, cc, ⟨⟨oc, od, osl, n1, _, n9, n10, n11, n12, n14, rfl, hk⟩, k2, ⟨ccl, cdd, vs, ccs, f, tf, hcd, hf, k3⟩, ⟨cl, cld, csl, hcc⟩, of_decide_eq_true h2, eqO_ok h3, eqO_ok h4, of_decide_eq_true h5, oexB_ok h6, htop⟩, ⟨n1, n9, n10, n11, n12, n14, rfl⟩, eqO_ok h7, of_decide_eq_true h8⟩
            · cases k6
          · cases k1
        · cases k3
      · cases k3
  · cases h1
/-! ### constants -/
def conB (K : PySem.W.Frag) : Nat → D → Value → Bool
  | 0, _, _ => false
  | n + 1, d, u => (match d with
    | .non => (match u with | .none => true | _ => false)
    | .bl b => (match u with | .bool c => b == c | _ => false)
    | .int i => (match u with | .int j _ => decide (i = j) | _ => false)
    | .str x => (match u with | .str y _ => decide (x = y) | _ => false)
    | .tup ds => (match u with
      | .ref a => (match K.lookup a with
        | some ⟨.type c, _, .seq its _, _⟩ => decide (c = "tuple") && (decide (its.size ≤ sizeLine) && (decide (its.toList.length = ds.length) && (its.toList.zip ds).all fun q => conB K n q.2 q.1))
        | _ => false)
      | _ => false)
    | _ => false)
theorem conB_ok {K : PySem.W.Frag} : ∀ (n : Nat) (d : D) (u : Value), conB K n d u = true → ∃ v, RelV v u ∧ ∀ (c : Ct) (F : Hp), Dat c K F v d
  | 0, _, _, h => by cases h
  | n + 1, d, u, h => by
    unfold conB at h
    split at h
    · split at h
      · exact ⟨.non, rfl, fun _ _ => .non⟩
      · cases h
    · split at h
      · rename_i b _ c
        have e : b = c := eq_of_beq h
        subst e
        exact ⟨.bl b, rfl, fun _ _ => .bl _⟩
      · cases h
    · split at h
      · rename_i i _ j t
        have e : i = j := of_decide_eq_true h
        subst e
        exact ⟨.int i, ⟨t, rfl⟩, fun _ _ => .int _⟩
      · cases h
    · split at h
      · rename_i i _ j t
        have e : i = j := of_decide_eq_true h
        subst e
        exact ⟨.str i, ⟨t, rfl⟩, fun _ _ => .str _⟩
      · cases h
    · rename_i ds
      split at h
      · rename_i a
        split at h
        · rename_i c od its ep sl hk
          obtain ⟨h1, g1⟩ := ba h
          obtain ⟨h2, g2⟩ := ba g1
          obtain ⟨h3, g3⟩ := ba g2
          have h1 := of_decide_eq_true h1
          have h2 := of_decide_eq_true h2
          have h3 := of_decide_eq_true h3
          clear h g1 g2
          subst h1
          have key : ∀ (us : List Value) (ds : List D), us.length = ds.length → ((us.zip ds).all fun q => conB K n q.2 q.1) = true → ∃ vs, Vals vs us ∧ ∀ (c : Ct) (F : Hp), Dats c K F vs ds := by
            intro us
            induction us with
            | nil =>
              intro ds hl _
              cases ds with
              | nil => exact ⟨[], .nil, fun _ _ => .nil⟩
              | cons _ _ => cases hl
            | cons u us ih =>
              intro ds hl ha
              cases ds with
              | nil => cases hl
              | cons d ds =>
                rw [List.zip_cons_cons, List.all_cons] at ha
                obtain ⟨a1, a2⟩ := ba ha
                obtain ⟨v, r, hv⟩ := conB_ok n d u a1
                obtain ⟨vs, rs, hvs⟩ := ih ds (by simpa using hl) a2
                exact ⟨v :: vs, .cons r rs, fun c F => .cons (hv c F) (hvs c F)⟩
          obtain ⟨vs, rs, hvs⟩ := key _ _ h3 g3
          exact ⟨.ref a, rfl, fun c F => .tup (.inr ⟨_, its, ep, hk, rfl, rfl, h2, rs⟩) (hvs c F)⟩
        · cases h
      · cases h
    · cases h
/-! ### isinstance -/
/-- own classes, exceptions, how many classes; of each class the classes, the built-in types above it -/
def mkIsT (own exc : List Nat) (n : Nat) (up : Nat → List Nat) (ut : Nat → List String) (tys : List String) : IsT :=
  ⟨fun i => own.contains i, fun i => exc.contains i, fun i m => if i < n ∧ m < n then some ((up i).contains m) else none, fun i s => if i < n ∧ tys.contains s = true then some ((ut i).contains s) else none, fun m => decide (m < n)⟩
def excB (K : PySem.W.Frag) (D : Addr) : Bool := eqO (PySem.W.findIn K (.ref D) "__getattribute__") (some (some (.builtin "BaseException.__getattribute__"))) && (eqO (PySem.W.findIn K (.ref D) "__getattr__") (some none) && (decide (PySem.W.subIn K (.ref D) (.type "BaseException") = some true) && (PySem.W.hasDictIn K D &&
  (eqO (PySem.W.findIn K (.ref D) "__class__") (some (some (.builtin "object.__class__"))) && (eqO (PySem.W.specialIn K (.builtin "object.__class__") "__get__") (some (some (.builtin "getset_descriptor.__get__"))) && (decide (PySem.W.takesIn K (.builtin "object.__class__") = some true) && decide (PySem.W.mroIn K D (.type "object") = some true)))))))
theorem excB_ok {K : PySem.W.Frag} {D : Addr} (h : excB K D = true) : ExcC K D := by
  obtain ⟨h1, h⟩ := ba h
  obtain ⟨h2, h⟩ := ba h
  obtain ⟨h3, h⟩ := ba h
  obtain ⟨h4, h⟩ := ba h
  obtain ⟨h5, h⟩ := ba h
  obtain ⟨h6, h⟩ := ba h
  obtain ⟨h7, h8⟩ := ba h
  exact ⟨eqO_ok h1, eqO_ok h2, of_decide_eq_true h3, h4, eqO_ok h5, eqO_ok h6, of_decide_eq_true h7, of_decide_eq_true h8⟩
def ownB (K : PySem.W.Frag) (x : Str) : Bool := (Fa.cls x).ok K && (eqO (PySem.W.findIn K (.ref (ga K x)) "__class__") (some (some (.builtin "object.__class__"))) && (eqO (PySem.W.specialIn K (.builtin "object.__class__") "__get__") (some (some (.builtin "getset_descriptor.__get__"))) && (decide (PySem.W.takesIn K (.builtin "object.__class__") = some true) && decide (PySem.W.mroIn K (ga K x) (.type "object") = some true))))
theorem ownB_ok {K : PySem.W.Frag} {x : Str} (h : ownB K x = true) : OwnC K (ga K x) := by
  obtain ⟨h1, h⟩ := ba h
  obtain ⟨h2, h⟩ := ba h
  obtain ⟨h3, h⟩ := ba h
  obtain ⟨h4, h5⟩ := ba h
  exact ⟨cls_ok h1, eqO_ok h2, eqO_ok h3, of_decide_eq_true h4, of_decide_eq_true h5⟩
def cN (cn : List Str) (n : Nat) : Str := cn.getD n Str.empty
def isfB (K : PySem.W.Frag) (cn : List Str) (own exc : List Nat) (n : Nat) (up : Nat → List Nat) (ut : Nat → List String) (tys : List String) : Bool :=
  own.all (fun i => ownB K (cN cn i)) && (exc.all (fun i => excB K (ga K (cN cn i))) && ((List.range n).all fun i => ((List.range n).all fun m => decide (PySem.W.kitOne K (.ref (ga K (cN cn i))) (.ref (ga K (cN cn m))) = some ((up i).contains m))) &&
    (tys.all (fun s => decide (PySem.W.kitOne K (.ref (ga K (cN cn i))) (.type s) = some ((ut i).contains s))) && tyNames.all fun t => decide (PySem.W.kitOne K (.type t) (.ref (ga K (cN cn i))) = some false))))
theorem isfB_ok {K : PySem.W.Frag} {c : Ct} {cn : List Str} {own exc : List Nat} {n : Nat} {up : Nat → List Nat} {ut : Nat → List String} {tys : List String} (hc : ∀ i, c.cA i = ga K (cN cn i)) (h : isfB K cn own exc n up ut tys = true) : IsF K c (mkIsT own exc n up ut tys) := by
  obtain ⟨h1, h⟩ := ba h
  obtain ⟨h2, h3⟩ := ba h
  have h1 := List.all_eq_true.mp h1
  have h2 := List.all_eq_true.mp h2
  have h3 := List.all_eq_true.mp h3
  have key : ∀ i, i < n → ((List.range n).all fun m => decide (PySem.W.kitOne K (.ref (ga K (cN cn i))) (.ref (ga K (cN cn m))) = some ((up i).contains m))) = true ∧
    (tys.all (fun s => decide (PySem.W.kitOne K (.ref (ga K (cN cn i))) (.type s) = some ((ut i).contains s)))) = true ∧ (tyNames.all fun t => decide (PySem.W.kitOne K (.type t) (.ref (ga K (cN cn i))) = some false)) = true := fun i hi => by
    obtain ⟨a, b⟩ := ba (h3 i (List.mem_range.mpr hi))
    exact ⟨a, ba b⟩
  refine ⟨fun i hi => by rw [hc]; exact ownB_ok (h1 i (by simpa [mkIsT] using hi)), fun i hi => by rw [hc]; exact excB_ok (h2 i (by simpa [mkIsT] using hi)), fun i m b e => ?_, fun i s b e => ?_, fun m e t ht => ?_⟩
  · unfold mkIsT at e
    dsimp only at e
    split at e
    · rename_i q
      cases e
      rw [hc, hc]
      exact of_decide_eq_true (List.all_eq_true.mp (key i q.1).1 m (List.mem_range.mpr q.2))
    · cases e
  · unfold mkIsT at e
    dsimp only at e
    split at e
    · rename_i q
      cases e
      rw [hc]
      exact of_decide_eq_true (List.all_eq_true.mp (key i q.1).2.1 s (by simpa using q.2))
    · cases e
  · have e : m < n := of_decide_eq_true e
    rw [hc]
    exact of_decide_eq_true (List.all_eq_true.mp (key m e).2.2 t ht)
end DL
set_option maxHeartbeats 2000000
/-! DH1: the Hook of the data layer's heads. -/
namespace DL
open PySem PySem.Spec PyProof.Rows L2 He
inductive Fb where
  | con (x : Str) (d : D)
  | fld (cn : List Str) (cs : List Nat) (f : Str)
  | xfl (cn : List Str) (cs : List Nat) (f : Str)
  | nec (x : Str)
  | xcl (x qual : Str)
  | oex (x : Str)
  | isf (cn : List Str) (own exc : List Nat) (n : Nat) (up : Nat → List Nat) (ut : Nat → List String) (tys : List String)
  | exm (cn : List Str) (exc : List Nat) (up : Nat → List Nat) (m : Nat)
  | tbs (ps : List Defn)
  | keepf (p : Defn)
  | sm
def distB : List Addr → Bool
  | [] => true
  | a :: r => r.all (fun b => !(a == b)) && distB r
def Fb.ok (file : Str) (K : PySem.W.Frag) : Fb → Bool
  | .con x d => (match PySem.W.nsIn K mainGlobals x with
    | some (some u) => conB K 8 d u
    | _ => false)
  | .fld cn cs f => cs.all fun n => (Fa.cls (cN cn n)).ok K && (Fa.noat (cN cn n) f).ok K
  | .xfl cn cs f => cs.all fun n => xfB K (ga K (cN cn n)) && eqO (PySem.W.findIn K (.ref (ga K (cN cn n))) f) (some none)
  | .nec x => eqO (PySem.W.findIn K (.ref (ga K x)) "__ne__") (some (some (.builtin "object.__ne__"))) && decide (PySem.W.mroIn K (ga K x) (.type "object") = some true)
  | .xcl x qual => xcB file K x qual
  | .oex x => oexB K (ga K x)
  | .isf cn own exc n up ut tys => isfB K cn own exc n up ut tys
  | .exm cn exc up m => exc.all fun i => decide (PySem.W.exmOne K (.ref (ga K (cN cn i))) (.ref (ga K (cN cn m))) = some ((up i).contains m))
  | .tbs ps => distB (ps.map fun p => (cT K p).2)
  | .keepf p => PySem.W.keepIn K (.ref (fAd K p))
  | .sm => (match K.lookup sysModules with
    | some ⟨_, _, .dict _ _, _⟩ => true
    | _ => false)
def mkSub (exc : List Nat) (up : Nat → List Nat) (m : Nat) : Nat → Option Bool := fun i => if exc.contains i = true then some ((up i).contains m) else none
section
variable {K : PySem.W.Frag} {h : Heap} {mg : Str → Option Value} {file : Str} {c : Ct} {cn : List Str}
theorem con_ok (X : K.In h) (G : h.Ns mainGlobals mg) {x : Str} {d : D} (e : (Fb.con x d).ok file K = true) : ∃ v u, mg x = some u ∧ RelV v u ∧ ∀ F, Dat c K F v d := by
  unfold Fb.ok at e
  dsimp only at e
  cases q : PySem.W.nsIn K mainGlobals x with
  | none => rw [q] at e; cases e
  | some o =>
    cases o with
    | none => rw [q] at e; cases e
    | some u =>
      rw [q] at e
      obtain ⟨v, r, hd⟩ := conB_ok _ _ _ e
      exact ⟨v, u, PySem.W.mg_of X G q, r, hd c⟩
theorem fld_okH (hc : ∀ i, c.cA i = ga K (cN cn i)) {cs : List Nat} {f : Str} (e : (Fb.fld cn cs f).ok file K = true) : FldOk K c cs f := fun n hn => by
  obtain ⟨h1, h2⟩ := ba (List.all_eq_true.mp e n hn)
  rw [hc]
  exact ⟨cls_ok h1, noat_ok h2⟩
theorem xfl_okH (hc : ∀ i, c.cA i = ga K (cN cn i)) {cs : List Nat} {f : Str} (e : (Fb.xfl cn cs f).ok file K = true) : XFld K c cs f := fun n hn => by
  obtain ⟨h1, h2⟩ := ba (List.all_eq_true.mp e n hn)
  rw [hc]
  exact ⟨xfB_ok h1, eqO_ok h2⟩
theorem nec_okH {x : Str} (e : (Fb.nec x).ok file K = true) : NeC K (ga K x) := by
  obtain ⟨h1, h2⟩ := ba e
  exact ⟨eqO_ok h1, of_decide_eq_true h2⟩
theorem exm_okH (hc : ∀ i, c.cA i = ga K (cN cn i)) {exc : List Nat} {up : Nat → List Nat} {m : Nat} (e : (Fb.exm cn exc up m).ok file K = true) : ∀ n b, mkSub exc up m n = some b → PySem.W.exmOne K (.ref (c.cA n)) (.ref (c.cA m)) = some b := fun n b q => by
  unfold mkSub at q
  split at q
  · rename_i z
    cases q
    rw [hc, hc]
    exact of_decide_eq_true (List.all_eq_true.mp e n (by simpa using z))
  · cases q
theorem distB_ok : ∀ {l : List Addr}, distB l = true → ∀ (i j : Nat) a, l[i]? = some a → l[j]? = some a → i = j
  | [], _, i, j, a, h, _ => by simp at h
  | b :: r, h, i, j, a, h1, h2 => by
    obtain ⟨q1, q2⟩ := ba h
    have nm : ∀ k, r[k]? = some b → False := fun k z => by
      have := List.all_eq_true.mp q1 b (List.mem_of_getElem? z)
      simp at this
    cases i with
    | zero =>
      cases j with
      | zero => rfl
      | succ j =>
        simp at h1 h2
        subst h1
        exact (nm j h2).elim
    | succ i =>
      cases j with
      | zero =>
        simp at h1 h2
        subst h2
        exact (nm i h1).elim
      | succ j =>
        rw [distB_ok q2 i j a (by simpa using h1) (by simpa using h2)]
/-- the tables of the defs that make lambdas: code object and table; the table and the lambda's name -/
def tbOf (K : PySem.W.Frag) (ps : List (Defn × Str)) : List (Addr × Str) := ps.map fun p => ((cT K p.1).2, p.2)
theorem tbs_okH {ps : List (Defn × Str)} (e : (Fb.tbs (ps.map (·.1))).ok file K = true) {i : Nat} {p : Defn × Str} (hi : ps[i]? = some p) : ((cT K p.1).2, p.2) ∈ tbOf K ps ∧ ∀ q ∈ tbOf K ps, q.1 = (cT K p.1).2 → q.2 = p.2 := by
  refine ⟨List.mem_map.mpr ⟨p, List.mem_of_getElem? hi, rfl⟩, fun q hq e1 => ?_⟩
  obtain ⟨p', hp', rfl⟩ := List.mem_map.mp hq
  obtain ⟨j, hj, ej⟩ := List.mem_iff_getElem.mp hp'
  have hj' : ps[j]? = some p' := by rw [List.getElem?_eq_getElem hj, ej]
  have e : distB ((ps.map (·.1)).map fun p => (cT K p).2) = true := e
  have := distB_ok e i j (cT K p.1).2 (by simp [hi]) (by simp [hj']; exact e1)
  subst this
  rw [hi] at hj'
  cases hj'
  rfl
end
/-! ### the Hook -/
structure Hd where
  n : Nat
  file : Str
  fa : List Fa
  fb : List Fb
  fn : List DefD
  xs : List XDef
  tf : List Defn
abbrev AlZ : Type := Bool × List FnW × List FnZ
def chkZ (d : Hd) (g : Addr → Option Obj) (K : PySem.W.Frag) : AlZ := ((d.fa.all fun f => f.ok K) && ((d.fb.all fun f => f.ok d.file K) && ((d.fn.all fun f => f.ok K) && tabsB g d.tf K)), d.fn.map (fun f => fnW K f.at_), d.xs.map fun x => fnZ K x.cls)
def valZ (d : Hd) : AlZ := (true, d.fn.map DefD.val, d.xs.map XDef.val)
def frZ (g : Addr → Option Obj) (n : Nat) : PySem.W.Frag := frT g (sysModules :: cStatics :: He.asD g n)
def obsZ (d : Hd) (g : Addr → Option Obj) : AlZ := chkZ d g (frZ g d.n)
structure SaysZ (d : Hd) (h : Heap) (K : PySem.W.Frag) : Prop where
  fa : ∀ f ∈ d.fa, f.ok K = true
  fb : ∀ f ∈ d.fb, f.ok d.file K = true
  fn : ∀ f ∈ d.fn, ∃ fd, FunD K f.name f.qual f.params f.body f.scope (f.dvs K) (f.kws K) (fAd K f.at_) fd
  xs : ∀ x ∈ d.xs, fnZ K x.cls = x.val
  hd : ∀ p ∈ d.tf, PySem.W.codeHdIn K (cT K p).1 (cT K p).2 = true
  out : ∀ p ∈ d.tf, K.lookup (cT K p).2 = none
  empty : ∀ p ∈ d.tf, h.get? (cT K p).2 = some { cls := .none, data := .fields #[] }
theorem map_at {α β : Type} {f g : α → β} : ∀ {l : List α}, l.map f = l.map g → ∀ a ∈ l, f a = g a
  | [], _, a, h => by cases h
  | b :: r, e, a, h => by
    rw [List.map_cons, List.map_cons] at e
    injection e with e1 e2
    cases h with
    | head => exact e1
    | tail _ h => exact map_at e2 a h
theorem saysZ_of {d : Hd} {h : Heap} (e : obsZ d h.get? = valZ d) : SaysZ d h (frZ h.get? d.n) := by
  have e1 : ((d.fa.all fun f => f.ok (frZ h.get? d.n)) && ((d.fb.all fun f => f.ok d.file (frZ h.get? d.n)) && ((d.fn.all fun f => f.ok (frZ h.get? d.n)) && tabsB h.get? d.tf (frZ h.get? d.n)))) = true := congrArg (fun z : AlZ => z.1) e
  have e2 : d.fn.map (fun f => fnW (frZ h.get? d.n) f.at_) = d.fn.map DefD.val := congrArg (fun z : AlZ => z.2.1) e
  have e3 : d.xs.map (fun x => fnZ (frZ h.get? d.n) x.cls) = d.xs.map XDef.val := congrArg (fun z : AlZ => z.2.2) e
  obtain ⟨h1, h2⟩ := ba e1
  obtain ⟨h3, h4⟩ := ba h2
  obtain ⟨h5, h6⟩ := ba h4
  have key : ∀ p ∈ d.tf, PySem.W.codeHdIn (frZ h.get? d.n) (cT (frZ h.get? d.n) p).1 (cT (frZ h.get? d.n) p).2 = true ∧ ∃ o, h.get? (cT (frZ h.get? d.n) p).2 = some o ∧ emptyTab o = true := fun p hp => by
    obtain ⟨h3, h4⟩ := ba (List.all_eq_true.mp h6 p hp)
    refine ⟨h3, ?_⟩
    cases q : h.get? (cT (frZ h.get? d.n) p).2 with
    | none =>
      rw [q] at h4
      cases h4
    | some o =>
      rw [q] at h4
      exact ⟨o, rfl, h4⟩
  exact ⟨List.all_eq_true.mp h1, List.all_eq_true.mp h3, fun f hf => DefD.funD (map_at e2 f hf) (List.all_eq_true.mp h5 f hf), fun x hx => map_at e3 x hx, fun p hp => (key p hp).1, fun p hp => by
    obtain ⟨_, o, q, z⟩ := key p hp
    exact frT_none q z, fun p hp => by
    obtain ⟨_, o, q, z⟩ := key p hp
    rw [q, emptyTab_eq z]⟩
def hookZ (d : Hd) : PySem.W.Hook where
  α := AlZ
  obs := fun s => obsZ d s.heap.get?
  val := fun _ => valZ d
  says := fun _ h => ∃ K : PySem.W.Frag, K.In h ∧ SaysZ d h K
  of := fun _ _ e => ⟨_, frT_in, saysZ_of e⟩
  keeps := fun _ _ _ ⟨K, hK, c⟩ k => ⟨K, PySem.W.Frag.In.keeps hK k, ⟨c.fa, c.fb, c.fn, c.xs, c.hd, c.out, fun p hp => k _ _ (c.empty p hp)⟩⟩
theorem obsZ_eq {d : Hd} {g : Addr → Option Obj} {s : Shared} (h : ∀ a, g a = s.heap.get? a) : obsZ d g = (hookZ d).obs s := by
  have e : g = s.heap.get? := funext h
  rw [e] <;> rfl
section
variable {d : Hd} {h : Heap} {K : PySem.W.Frag}
theorem SaysZ.a (c : SaysZ d h K) (i : Nat) {f : Fa} (e : d.fa[i]? = some f := by rfl) : f.ok K = true := c.fa f (List.mem_of_getElem? e)
theorem SaysZ.b (c : SaysZ d h K) (i : Nat) {f : Fb} (e : d.fb[i]? = some f := by rfl) : f.ok d.file K = true := c.fb f (List.mem_of_getElem? e)
theorem SaysZ.f (c : SaysZ d h K) (i : Nat) {f : DefD} (e : d.fn[i]? = some f := by rfl) : ∃ fd, FunD K f.name f.qual f.params f.body f.scope (f.dvs K) (f.kws K) (fAd K f.at_) fd := c.fn f (List.mem_of_getElem? e)
theorem SaysZ.x (c : SaysZ d h K) (i : Nat) {x : XDef} (e : d.xs[i]? = some x := by rfl) : fnZ K x.cls = x.val := c.xs x (List.mem_of_getElem? e)
end
/-! ### exception classes -/
section
variable {P : Program} {w : World} {K : PySem.W.Frag} {mg : Str → Option Value} {base : Heap}
theorem xcls1 {d : XDef} {x y fl : Str} {ar : Arg} {p0 p1 p2 p3 p4 q1 q2 q3 q4 q5 : Pos} {pl : Sem Bool} (htop : (P.main.scope.names.lookup ("super" : Str)).isSome = false) (e : fnZ K d.cls = d.val) (h : xcB P.main.file K d.cls d.qual = true)
    (hb : d.body = [supS [.Name y q1] p0 p1 p2 p3 p4, .Assign [.Attribute (.Name x q2) fl q3] (.Name y q4) q5]) (S : SupScope [x, y] d.scope) (hp : (d.params.posonlyargs ++ d.params.args).head? = some ar) (har : ar.arg = x) (hm : mg ("super" : Str) = none)
    (Y : ∀ f cda cc L, SupSyn (PySem.W.ksEnv d.qual d.scope L f (.ref cda) cc) (.Name y q1) [] p0 p1 p2 p3 p4 pl) (hno : PySem.W.findIn K (.ref (ga K d.cls)) fl = some none)
    (hs : ∀ f cda cc L, swapsWith (.Name y q4) (some (.Attribute (.Name x q2) fl q3)) q5.line (PySem.W.ksEnv d.qual d.scope L f (.ref cda) cc) = pure false) (hx1 : (x == ("__debug__" : Str)) = false) (hx2 : (x == ("__classdict__" : Str)) = false) (hy1 : (y == ("__debug__" : Str)) = false) (hy2 : (y == ("__classdict__" : Str)) = false)
    (hbd : ∀ (name : Str) (kV doc pm : Value) (an : Option Addr) (cda cc : Addr) (ct : Value) (us : List Value), us.length = 2 → bindArgs (PySem.W.ksFn name d.qual d.params d.body d.scope .none kV doc pm an (.ref cda) ct cc) ⟨us, []⟩ = pure ([x, y].zip us)) :
    XCls P w K mg base (ga K d.cls) [fl] 1 := by
  obtain ⟨fd, cda, cc, T, ⟨name, kV, doc, pm, an, ct, hfd⟩, e1, e2⟩ := xcB_ok htop e h
  refine ⟨T.oex, _, fd, [x, y], e1, e2, ?_, .all fun us hl => by rw [hfd]; exact hbd name kV doc pm an cda cc ct us hl⟩
  rw [hb] at T
  exact fn_x1 T S hp har hm (Y _ cda cc) hno (hs _ cda cc) hx1 hx2 hy1 hy2
theorem xcls2 {d : XDef} {x y z fl gl : Str} {ar : Arg} {p0 p1 p2 p3 p4 q0 q1 q2 q3 q4 q5 r2 r3 r4 r5 : Pos} {pl : Sem Bool} (htop : (P.main.scope.names.lookup ("super" : Str)).isSome = false) (e : fnZ K d.cls = d.val) (h : xcB P.main.file K d.cls d.qual = true)
    (hb : d.body = [supS [.Name y q0, .Name z q1] p0 p1 p2 p3 p4, .Assign [.Attribute (.Name x q2) fl q3] (.Name y q4) q5, .Assign [.Attribute (.Name x r2) gl r3] (.Name z r4) r5]) (S : SupScope [x, y, z] d.scope) (hp : (d.params.posonlyargs ++ d.params.args).head? = some ar) (har : ar.arg = x) (hm : mg ("super" : Str) = none)
    (Y : ∀ f cda cc L, SupSyn (PySem.W.ksEnv d.qual d.scope L f (.ref cda) cc) (.Name y q0) [.Name z q1] p0 p1 p2 p3 p4 pl) (he2 : ∀ env, starEach [.Name z q1] env = (false, eval (.Name z q1) env) :: starEach [] env) (hno : PySem.W.findIn K (.ref (ga K d.cls)) fl = some none) (hno2 : PySem.W.findIn K (.ref (ga K d.cls)) gl = some none)
    (hs : ∀ f cda cc L, swapsWith (.Name y q4) (some (.Attribute (.Name x q2) fl q3)) q5.line (PySem.W.ksEnv d.qual d.scope L f (.ref cda) cc) = pure false) (hs2 : ∀ f cda cc L, swapsWith (.Name z r4) (some (.Attribute (.Name x r2) gl r3)) r5.line (PySem.W.ksEnv d.qual d.scope L f (.ref cda) cc) = pure false)
    (hx1 : (x == ("__debug__" : Str)) = false) (hx2 : (x == ("__classdict__" : Str)) = false) (hy1 : (y == ("__debug__" : Str)) = false) (hy2 : (y == ("__classdict__" : Str)) = false) (hz1 : (z == ("__debug__" : Str)) = false) (hz2 : (z == ("__classdict__" : Str)) = false)
    (hbd : ∀ (name : Str) (kV doc pm : Value) (an : Option Addr) (cda cc : Addr) (ct : Value) (us : List Value), us.length = 3 → bindArgs (PySem.W.ksFn name d.qual d.params d.body d.scope .none kV doc pm an (.ref cda) ct cc) ⟨us, []⟩ = pure ([x, y, z].zip us)) :
    XCls P w K mg base (ga K d.cls) [fl, gl] 1 := by
  obtain ⟨fd, cda, cc, T, ⟨name, kV, doc, pm, an, ct, hfd⟩, e1, e2⟩ := xcB_ok htop e h
  refine ⟨T.oex, _, fd, [x, y, z], e1, e2, ?_, .all fun us hl => by rw [hfd]; exact hbd name kV doc pm an cda cc ct us hl⟩
  rw [hb] at T
  exact fn_x2 T S hp har hm (Y _ cda cc) he2 hno hno2 (hs _ cda cc) (hs2 _ cda cc) hx1 hx2 hy1 hy2 hz1 hz2
end
end DL
set_option maxHeartbeats 2000000
/-! DN1: the pen's def; the law's def. -/
namespace DL
open PySem PySem.Spec PyProof.Rows L2
/-- what _law_pen promises -/
def spPen (K : PySem.W.Frag) : Sp := fun vs H Q _ => ∃ (a : Addr) (ns : List Int), vs = [.ref a] ∧ SqL K H a (ns.map V.int) ∧ ∀ H' p q, (∀ b o, H b = some o → H' b = some o) → H p = none → H q = none → p ≠ q → H' p = some (.lst [.ref q, .int 0, .int 0]) → H' q = some (.lst ((ns.take 63).map V.int)) →
  (∀ b ps, H' b = some (.tbl ps) → H b = some (.tbl ps)) → Q (.ref p) H'
abbrev rListO (K : PySem.W.Frag) : List V → Hp → VK → Prop := fun xs H Q => ∃ p ys, xs = [.ref p] ∧ (SqL K H p ys ∨ SqT K H p ys) ∧ ∀ l, H l = none → Q (.ref l) (upd H l (.lst ys))
abbrev tPen (K : PySem.W.Frag) : TS := tRet (tLst (tCons (tCB (rListO K) (tCons (tSl (rSlL K) (tVar 0) tNoPart (tPart (cI 63))) tNil)) (tCons (cI 0) (tCons (cI 0) tNil))))
theorem cut63 (xs : List V) : cutV xs none (some 63) = xs.take 63 := by
  unfold cutV
  have e0 : HT.sIx xs.length 0 none = 0 := rfl
  rw [e0, List.drop_zero, Nat.sub_zero]
  have e : HT.sIx xs.length xs.length (some 63) = min 63 xs.length := by
    unfold HT.sIx
    first | rfl | (simp; omega) | (split <;> omega)
  rw [e]
  by_cases h : xs.length ≤ 63
  · rw [Nat.min_eq_right h, List.take_of_length_le (Nat.le_refl _), List.take_of_length_le h]
  · rw [Nat.min_eq_left (by omega)]
theorem fn_pen {P : Program} {w : World} {K : PySem.W.Frag} {mg : Str → Option Value} {base : Heap} {x qual : Str} {params : Arguments} {body : List Stmt} {scope : Scope} {f : Addr} {fd : FuncData} {N : List Str} {pa : Str} (F : FunD K x qual params body scope [] [] f fd) (S : FnScope N [pa] scope) (hN : N.length = 1)
    (hb : ∀ (cdv : Value) (A : Around) (outer : List Env) (s : Shared) (H : Hp) (E : XK), PSs (cxOf CX0 P w K mg base N qual scope f cdv A outer s H E) body (tPen K)) : L2.FnOk P w K mg base CX0 1 f fd [pa] (spPen K) := by
  refine F.ok S (fun vs H Q E h => ?_) (fun cdv A outer s H vs Q E hr h => ⟨_, hb cdv A outer s H E, ?_⟩)
  · obtain ⟨a, ns, rfl, _⟩ := h
    rfl
  · obtain ⟨a, ns, rfl, hS, hQ⟩ := h
    have st : L2.start N [V.ref a] = [some (.ref a)] := by
      unfold L2.start
      rw [hN]
      rfl
    rw [st]
    refine ⟨.ref a, rfl, 63, rfl, a, _, rfl, hS, fun p hp => ⟨p, _, rfl, .inl (SqL.of upd_same), fun l hl => ⟨(by show 3 ≤ sizeLine; decide), fun r hr => ?_⟩⟩⟩
    have npl : p ≠ l := fun z => by rw [← z, upd_same] at hl; cases hl
    have hl0 : H l = none := by rw [upd_ne (Ne.symm npl)] at hl; exact hl
    have nlr : l ≠ r := fun z => by rw [← z, upd_same] at hr; cases hr
    have hr1 : upd H p (.lst (cutV (ns.map V.int) none (some 63))) r = none := by rw [upd_ne (Ne.symm nlr)] at hr; exact hr
    have npr : p ≠ r := fun z => by rw [← z, upd_same] at hr1; cases hr1
    have hr0 : H r = none := by rw [upd_ne (Ne.symm npr)] at hr1; exact hr1
    refine hQ _ r l (fun b o q => ?_) hr0 hl0 (Ne.symm nlr) upd_same ?_ fun b ps q => ?_
    · rw [upd_ne (ne_of_none q hr0), upd_ne (ne_of_none q hl0), upd_ne (ne_of_none q hp)]; exact q
    · rw [upd_ne nlr, upd_same, cut63, List.map_take]
    · exact tbl_upd .lst (tbl_upd .lst (tbl_upd .lst q))
/-- the rest of the law's body: over any context that is right -/
theorem pss_ex {X : Cx} {W : WX} {rest : List Stmt} {m : Gm → T Fl} {Ok : Ct → Prop} (h : ∀ c, Ok c → DSs X c W rest m) : PSs X rest (fun D σ H => ∃ c, Ok c ∧ tS c X.K W m D σ H) := ⟨fun pins s σ H D I ⟨c, ok, q⟩ => (h c ok).ps.run pins s σ H D I q⟩
def spLaw (K : PySem.W.Frag) (ns : List Int) (cs : List (Addr × Addr)) : Sp := fun vs H Q _ => ∃ a, vs = [.ref a] ∧ (∀ p ∈ cs, H p.2 = some (.tbl #[])) ∧ (∀ b ps, H b = some (.tbl ps) → ∃ p ∈ cs, p.2 = b) ∧ SqL K H a (ns.map V.int) ∧ ∀ H', Q (.bl true) H'
theorem fn_law {P : Program} {w : World} {K : PySem.W.Frag} {mg : Str → Option Value} {base : Heap} {x qual : Str} {params : Arguments} {s0 : Stmt} {rest : List Stmt} {scope : Scope} {f : Addr} {fd : FuncData} {N : List Str} {ps : Str} {k : Nat} {cA : Nat → Addr} {ns : List Int} {bl : Nat} {tb : List (Addr × Str)} {cs : List (Addr × Addr)} {mb : Gm → T Fl}
    (F : FunD K x qual params (s0 :: rest) scope [] [] f fd) (S : FnScope N [ps] scope) (hN : 2 ≤ N.length) (hns : ns.length ≤ 63) (htb : tb.map (·.1) = cs.map (·.2))
    (hpen : ∀ (cdv : Value) (A : Around) (outer : List Env) (s : Shared) (H : Hp) (E : XK), fd.code = cdv → Room k (A.deeper (envOfC qual scope s.heap.objs.size f cdv)) → PS (cxOf (CX P w) P w K mg base N qual scope f cdv A outer s H E) s0 (tAsg (tCall (spPen K) [] (fun _ _ _ => False) (tCons (tVar 0) tNil)) (gName 1)))
    (hrest : ∀ (pa sa : Addr) (cdv : Value) (A : Around) (outer : List Env) (s : Shared) (H : Hp) (E : XK), fd.code = cdv → Room k (A.deeper (envOfC qual scope s.heap.objs.size f cdv)) →
      DSs (cxOf (CX P w) P w K mg base N qual scope f cdv A outer s H E) ⟨cA, pa, sa, ns, bl, tb, true⟩ (fun cls d _ H => E cls d H) rest mb)
    (hall : (mb (.no :: .val .pen :: List.replicate (N.length - 2) .no)).All 0 (fun _ fl => ∃ b, fl = .rt (.bl b) ∧ b = true) (fun _ _ => False)) :
    DL.FnOk P w K mg base (CX P w) (k + 1) f fd [ps] (spLaw K ns cs) := by
  refine fun_ok F S (fun vs H Q E h => ?_) fun cdv A outer s H vs Q E hcd hr h => ⟨_, pss_cons (hpen cdv A outer s H E hcd hr) (pss_ex (Ok := fun c => ∃ pa sa, c = ⟨cA, pa, sa, ns, bl, tb, true⟩) fun c ⟨pa, sa, hc⟩ => by subst hc; exact hrest pa sa cdv A outer s H E hcd hr), ?_⟩
  · obtain ⟨a, rfl, _⟩ := h
    rfl
  · obtain ⟨a, rfl, hT, hA, hS, hQ⟩ := h
    have st : L2.start N [V.ref a] = some (.ref a) :: none :: List.replicate (N.length - 2) none := by
      unfold L2.start
      show some (V.ref a) :: List.replicate (N.length - 1) none = _
      have : N.length - 1 = (N.length - 2) + 1 := by omega
      rw [this, List.replicate_succ]
    rw [st]
    refine ⟨.ref a, rfl, a, ns, rfl, hS, fun H' p q hk hp hq npq hp' hq' htb' => ?_⟩
    show ∃ c, (∃ pa sa, c = (⟨cA, pa, sa, ns, bl, tb, true⟩ : Ct)) ∧ tS c K _ mb _ ((some (V.ref a) :: none :: List.replicate (N.length - 2) none).set 1 (some (.ref p))) H'
    refine ⟨_, ⟨p, q, rfl⟩, 0, fun _ => none, H', fun _ => none, (.no :: .val .pen :: List.replicate (N.length - 2) .no), 0, ?_, T.All.imp hall ?_ fun _ _ z => z.elim⟩
    · have emp : (∀ a : Addr, ¬ OwnAt ((some (V.ref a) :: none :: List.replicate (N.length - 2) none).set 1 (some (.ref p))) (.no :: .val .pen :: List.replicate (N.length - 2) .no) a) := by
        rintro b ⟨i, o, h1, h2, _⟩
        match i with
        | 0 => simp at h1; subst h1; cases h2
        | 1 => simp at h1; subst h1; cases h2
        | i + 2 =>
          have := List.mem_of_getElem? (show (List.replicate (N.length - 2) SV.no)[i]? = some o by simpa using h1)
          rw [List.eq_of_mem_replicate this] at h2
          cases h2
      have low : ∀ (i : Nat) (o : SV), (SV.no :: .val .pen :: List.replicate (N.length - 2) .no)[i]? = some o → o = .no ∨ (i = 1 ∧ o = .val .pen) := fun i o h1 => by
        match i with
        | 0 => simp at h1; exact .inl h1.symm
        | 1 => simp at h1; exact .inr ⟨rfl, h1.symm⟩
        | i + 2 =>
          have := List.mem_of_getElem? (show (List.replicate (N.length - 2) SV.no)[i]? = some o by simpa using h1)
          exact .inl (List.eq_of_mem_replicate this)
      refine ⟨⟨fun _ _ z => (by cases z), fun _ => rfl, ⟨⟨_, hp'⟩, ⟨_, hq'⟩, fun _ => ⟨0, 0, hp', ?_, npq, by omega, by omega, by omega, ?_⟩⟩, ⟨fun pr hpr => ?_, fun b us z => ?_⟩, fun _ _ z => (by cases z)⟩, .refl, ⟨?_, fun i d q1 => ?_, fun i ds q1 => ?_, fun i n gs q1 => ?_, fun i j o u b q1 o1 _ _ _ _ => ?_⟩, fun b ob => ?_, fun b ob => ?_⟩
      · rw [hq', List.take_of_length_le hns]
      · show (0 : Int).natAbs < 2 ^ bl
        exact Nat.two_pow_pos bl
      · have : pr.1 ∈ cs.map (·.2) := by rw [← htb]; exact List.mem_map.mpr ⟨pr, hpr, rfl⟩
        obtain ⟨p', hp2, e⟩ := List.mem_map.mp this
        refine ⟨#[], hk _ _ (by rw [← e]; exact hT p' hp2), ?_, ?_⟩
        · first | trivial | (intro; simp) | exact List.Forall.nil | simp [TriplesOk]
        · intro pos cv hc
          first | cases hc | (simp [codeAmong] at hc)
      · obtain ⟨p', hp2, e⟩ := hA b us (htb' b us z)
        have : b ∈ tb.map (·.1) := by rw [htb]; exact List.mem_map.mpr ⟨p', hp2, e⟩
        obtain ⟨pr, hpr, e2⟩ := List.mem_map.mp this
        exact ⟨pr.2, by rw [← e2]; exact hpr⟩
      · simp
      · rcases low i _ q1 with e | ⟨rfl, e⟩
        · cases e
        · cases e
          exact ⟨.ref p, by simp, .pen⟩
      · rcases low i _ q1 with e | ⟨_, e⟩ <;> cases e
      · rcases low i _ q1 with e | ⟨_, e⟩ <;> cases e
      · rcases low i _ q1 with e | ⟨_, e⟩ <;> (rw [e] at o1; cases o1)
      · obtain ⟨i, o, h1, h2, _⟩ := ob
        rcases low i _ h1 with e | ⟨_, e⟩ <;> (rw [e] at h2; cases h2)
      · obtain ⟨i, n, gs, h1, _⟩ := ob
        rcases low i _ h1 with e | ⟨_, e⟩ <;> cases e
    · rintro j' fl ⟨b, rfl, rfl⟩ F2 H2 v _ _ hv
      cases hv
      exact hQ H2
end DL
set_option maxHeartbeats 2000000
namespace DL
open PySem PySem.Spec PyProof.Rows L2
theorem maker_ok {K : PySem.W.Frag} {x qual : Str} {params : Arguments} {body : List Stmt} {scope : Scope} {dvs : List V} {kws : List (Str × V)} {p : Str × Option Str} {fd : FuncData} (F : FunD K x qual params body scope dvs kws (He.fAd K p) fd) : fd.code = .ref (He.cT K p).1 := by
  obtain ⟨oc, od, dV, kV, doc, pm, an, cdv, ct, osl, rfl, lk, hcd, _, _⟩ := F.ex
  obtain ⟨c, rfl⟩ := He.codeIn_ref hcd
  exact congrArg Value.ref (He.codeOf_eq lk rfl).symm
theorem bits_ok {z : Int} {B : Nat} (h : Builtin.Int.intBits z ≤ B) : 2 * z.natAbs + 2 < 2 ^ (B + 4) := by
  have h1 : z.natAbs < 2 ^ B := by
    by_cases hz : z = 0
    · rw [hz]; exact Nat.two_pow_pos _
    · have h0 : z.natAbs ≠ 0 := by omega
      have hb : Nat.log2 z.natAbs < B := by
        unfold Builtin.Int.intBits at h
        have : (z == 0) = false := by simpa using hz
        rw [this] at h
        exact h
      exact (Nat.log2_lt h0).mp hb
  have e : (2 : Nat) ^ (B + 4) = 2 ^ B * 16 := Nat.pow_add 2 B 4
  rw [e]
  have : 0 < 2 ^ B := Nat.two_pow_pos _
  generalize 2 ^ B = M at *
  omega
theorem bits_ex {ns : List Int} {B : Nat} (h : ∀ z ∈ ns, Builtin.Int.intBits z ≤ B) : ∃ bl, ∀ z ∈ ns, 2 * z.natAbs + 2 < 2 ^ bl := ⟨_, fun z hz => bits_ok (h z hz)⟩
theorem supS_free {l : List (Str × NameKind)} (h : (l.all fun q => !(q.2 == .free) || q.1 == "__class__") = true) {y : Str} (e : l.lookup y = some .free) : y = "__class__" := by
  have := List.all_eq_true.mp h _ (PySem.mem_of_lookup e)
  simpa using this
end DL
/-! DY5: x in a list whose items have an own __eq__. -/
namespace DL
open PySem PySem.Spec L2
open PyProof.Rows
section
open MeetsSeq MeetsSeq2 SeqRoads2
open AutoSeq1 (wpAny_loadPart')
variable {prog : Program} {w : World}
/-- the turns of the search -/
structure InRun (prog : Program) (w : World) (l : Addr) (items : Array Value) (x : Value) (A : Around) (R : Result → Shared → Prop) (Sg : Nat → Shared → Prop) : Prop where
  at_ : ∀ i s, Sg i s → ∃ n dd sl, s.heap.get? l = some { cls := .type "list", dict := dd, data := .seq items n, slots := sl }
  fin : ∀ s, Sg items.size s → R (.ok (.ret (.bool false))) s
  step : ∀ i y s, items[i]? = some y → Sg i s → wpAny (model prog w) A.in1 (eqBool y x) (fun b s' => if b = true then R (.ok (.ret (.bool true))) s' else Sg (i + 1) s') (fun e s' => R (.error e) s') s
theorem contains_loopO (l : Addr) (items : Array Value) (x : Value) (k : Nat) :
    ∀ i : Nat, items.size - i = k → i ≤ items.size → MeetsIn prog w (Builtin.«list.__contains__.loop» ⟨[.ref l, x, rawInt i], []⟩) (fun A R s => ∃ Sg, InRun prog w l items x A R Sg ∧ Sg i s) := by
  induction k with
  | zero =>
    intro i hk hle A R s ⟨Sg, run, h⟩
    obtain ⟨n, dd, sl, hl⟩ := run.at_ _ _ h
    obtain ⟨hp, g, d, tk, os⟩ := s
    wp_walk using wpAny_loadPart' hl
    have hi : items[((i : Nat) : Int).toNat]? = none := by simp; omega
    rw [hi]
    wp_walk
    have e : i = items.size := by omega
    rw [e] at h
    exact run.fin _ h
  | succ k ih =>
    intro i hk hle A R s ⟨Sg, run, h⟩
    obtain ⟨n, dd, sl, hl⟩ := run.at_ _ _ h
    obtain ⟨hp, g, d, tk, os⟩ := s
    wp_walk using wpAny_loadPart' hl
    have hlt : i < items.size := by omega
    have hi : items[((i : Nat) : Int).toNat]? = some items[i] := by simp [hlt]
    rw [hi]
    refine wpAny_bind (wpAny_mono (run.step i items[i] _ (by simp [hlt]) h) (fun b s' hb => ?_) fun _ _ z => z)
    cases b with
    | true =>
      have hb : R (.ok (.ret (.bool true))) s' := hb
      wp_walk
      exact hb
    | false =>
      have hb : Sg (i + 1) s' := hb
      have hc : ((i : Int) + 1) = ((i + 1 : Nat) : Int) := by push_cast; rfl
      wp_walk
      rw [hc]
      exact ⟨plainId_quiet plain_contains_loop _, codeAny_builtin entry_contains_loop (by
        rw [Around.under_plainId plain_contains_loop _]
        exact ih (i + 1) (by omega) (by omega) A R _ ⟨Sg, run, hb⟩)⟩
theorem list_containsO (l : Addr) (items : Array Value) (x : Value) :
    MeetsIn prog w (Builtin.«list.__contains__» ⟨[.ref l, x], []⟩) (fun A R s => ∃ Sg, InRun prog w l items x A R Sg ∧ Sg 0 s) := by
  intro A R s ⟨Sg, run, h⟩
  obtain ⟨n, dd, sl, hl⟩ := run.at_ _ _ h
  obtain ⟨hp, g, d, tk, os⟩ := s
  wp_walk using wpAny_loadPart' hl
  exact ⟨plainId_quiet plain_contains_loop _, codeAny_builtin entry_contains_loop (by
    rw [Around.under_plainId plain_contains_loop _]
    exact contains_loopO l items x _ 0 rfl (Nat.zero_le _) A R _ ⟨Sg, run, h⟩)⟩
theorem in_own {A : Around} {E : Value → Shared → Prop} {s : Shared} {l : Addr} {items : Array Value} {x : Value} {Q : Value → Shared → Prop} (hl : s.heap.IsList l items) (Sg : Nat → Shared → Prop)
    (run : InRun prog w l items x A (wants (fun v s' => ∃ b, v = .bool b ∧ Q (.bool b) s') E) Sg) (h : Sg 0 s) : wpAny (model prog w) A (compareOp .In x (.ref l)) Q E s := by
  obtain ⟨⟨cls, dd, data, sl⟩, ho, hc, n, hd⟩ := id hl
  simp only at hc hd
  subst hc hd
  show wpAny _ A (do return .bool (← contains (.ref l) x)) Q E s
  have hT : s.TypeIs (.ref l) "list" := ⟨_, ho, rfl⟩
  refine wpAny_bind (wpAny_contains_slot hT F.slot_list_contains (wpAny_mono (call_meetsIn F.slot_list_contains hT F.entry_list_contains (F.args_list_contains_2 _ _) (list_containsO l items x) ⟨Sg, run, h⟩) (fun v s' hv => ?_) fun _ _ e => e))
  obtain ⟨b, rfl, hq⟩ := hv
  exact wpAny_truthy_bool (wpAny_pure hq)
end
end DL
namespace DL
open PySem PySem.Spec L2
open PyProof.Rows
/-- two values that cannot be one object -/
def flatNe : D → D → Bool
  | .int i, .int j => decide (i ≠ j)
  | .bl i, .bl j => decide (i ≠ j)
  | .str i, .str j => decide (i ≠ j)
  | _, _ => false
def D.apart (d x : D) : Bool := match d, x with
  | _, .non => true
  | _, .bl _ => true
  | _, .int _ => true
  | _, .str _ => true
  | .ins _ gs, .ins _ hs => gs.any fun p => (match gs.lookup p.1, hs.lookup p.1 with
    | some u, some v => flatNe u v
    | _, _ => false)
  | _, _ => false
theorem flatNe_ok {c : Ct} {K : PySem.W.Frag} {F : Hp} {v : V} {d e : D} (h : flatNe d e = true) (h1 : Dat c K F v d) (h2 : Dat c K F v e) : False := by
  unfold flatNe at h
  split at h
  · cases h1; cases h2; simp at h
  · cases h1; cases h2; simp at h
  · cases h1; cases h2; simp at h
  · cases h
theorem apart_ok {c : Ct} {K : PySem.W.Frag} {F : Hp} {a : Addr} {n : Nat} {gs : List (Str × D)} {x : V} {u : Value} {e : D} (h1 : Dat c K F (.ref a) (.ins n gs)) (h2 : Dat c K F x e) (r : RelV x u) (h : D.apart (.ins n gs) e = true) : u ≠ .ref a := by
  intro z
  subst z
  unfold D.apart at h
  split at h
  · cases h2; cases r
  · cases h2; cases r
  · cases h2; obtain ⟨t, r⟩ := r; cases r
  · cases h2; obtain ⟨t, r⟩ := r; cases r
  · rename_i m gs' m' hs e1
    cases e1
    cases h2 with
    | @ins b dx2 _ fs2 _ q1 q2 =>
      have e : a = b := by cases r; rfl
      subst e
      cases h1 with
      | ins p1 p2 =>
        rw [p1] at q1
        have q1 := Option.some.inj q1
        injection q1 with z1 z2 z3
        subst z3
        obtain ⟨p, _, hp⟩ := List.any_eq_true.mp h
        split at hp
        · rename_i u v h3 h4
          obtain ⟨w1, k1, k2⟩ := p2.look h3
          obtain ⟨w2, k3, k4⟩ := q2.look h4
          rw [k1] at k3
          cases k3
          exact flatNe_ok hp k2 k4
        · cases hp
  · cases h
def insAll : List D → Bool
  | [] => true
  | .ins _ _ :: ds => insAll ds
  | _ => false
def eqI (IT : IsT) (tbl : List (Nat × (List D → T D))) (d x : D) : T Bool := match d with
  | .ins n gs => if D.apart (.ins n gs) x = true then ownEq IT tbl n gs x else (match ownEq IT tbl n gs x with
    | .ok true => .ok true
    | _ => .stuck)
  | _ => .stuck
def inM (IT : IsT) (tbl : List (Nat × (List D → T D))) (x : D) : List D → T Bool
  | [] => .ok false
  | d :: ds => (eqI IT tbl d x).bind fun b => if b = true then .ok true else inM IT tbl x ds
def gInO (IT : IsT) (tbl : List (Nat × (List D → T D))) (x y : RV) : T RV := match x, y.d with
  | .val x, .lst ds => if insAll ds = true then (inM IT tbl x ds).bind fun b => okV (.bl b) else gIn (.val x) y
  | x, _ => gIn x y
theorem refs_of {c : Ct} {K : PySem.W.Frag} {F : Hp} : ∀ {vs : List V} {ds : List D}, Dats c K F vs ds → insAll ds = true → ∃ as : List Addr, vs = as.map V.ref
  | _, _, .nil, _ => ⟨[], rfl⟩
  | _, _, .cons (d := d) h r, e => by
    cases h with
    | @ins a _ _ _ _ _ _ =>
      obtain ⟨as, rfl⟩ := refs_of r e
      exact ⟨a :: as, rfl⟩
    | _ => cases e
theorem vals_refs : ∀ {as : List Addr} {us : List Value}, Vals (as.map V.ref) us → us = as.map Value.ref
  | [], _, .nil => rfl
  | a :: as, _, .cons r t => by
    have e : _ = Value.ref a := r
    rw [vals_refs t, e]
    rfl
section
variable {X : Cx} {c : Ct} {W : WX} {IT : IsT} {k : Nat} {tbl : List (Nat × (List D → T D))}
/-- y == x in a search, y an item of a class with an own __eq__ -/
theorem eq_item (IF : IsF X.K c IT) (M : MethOk X c k "__eq__" [] tbl) (hr : Room (k + 1) X.A) (tk : Takes X W) {pins : List (Addr × Obj)} {s : Shared} {σ : L2.St} {H F : Hp} {j : Nat} {a : Addr} {d e : D} {x : V} {u : Value} {Q : Bool → Hp → Prop} (I : Inv X pins σ H s) (gd : Good c F H j) (r1 : Dat c X.K F (.ref a) d) (rx : RelV x u) (r2 : Dat c X.K F x e)
    (h : (eqI IT tbl d e).All j (fun j' b => ∀ F' H', Ext c F H F' H' → Good c F' H' j' → Q b H') (pX c X.K W F H σ)) :
    wpAny (model X.prog X.w) X.A.in1 (eqBool (.ref a) u) (fun b s' => ∃ H', Inv X pins σ H' s' ∧ Q b H') X.xe s := by
  cases d with
  | ins n gs =>
    have go : u ≠ .ref a → (ownEq IT tbl n gs e).All j (fun j' b => ∀ F' H', Ext c F H F' H' → Good c F' H' j' → Q b H') (pX c X.K W F H σ) → wpAny (model X.prog X.w) X.A.in1 (eqBool (.ref a) u) (fun b s' => ∃ H', Inv X pins σ H' s' ∧ Q b H') X.xe s := by
      intro ne q
      obtain ⟨mf, hl, hb, q⟩ := ownEq_all q
      cases r1 with
      | @ins _ dxa _ fs _ h1 h2 =>
        obtain ⟨hc, f, hf, FA⟩ := M _ (lookup_mem hl)
        obtain ⟨mA, O, _⟩ := ins_get I.hok (gd.sub _ _ h1)
        obtain ⟨od, J, _⟩ := O.look
        obtain ⟨t, ty, P, Z, p, _⟩ := kit_D IF I gd.sub (show RDat c X.K F H x (.val e) from r2) rx (Bool.and_eq_true_iff.mp hb).1
        obtain ⟨m, hF⟩ := I.fr
        unfold eqBool
        refine wpAny_holding ?_
        show wpAny _ _ (if (Value.ref a == u) = true then _ else _) _ _ s
        have nb : ¬ (Value.ref a == u) = true := fun z => ne (eq_of_beq z).symm
        rw [if_neg nb]
        have cmp : wpAny (model X.prog X.w) X.A.in1 (richCompare .Eq (.ref a) u) (fun v s' => ∃ b, v = .bool b ∧ ∃ H', Inv X pins σ H' s' ∧ Q b H') X.xe s := by
          refine PySem.W.cmp_K (op := .Eq) (tb := t) hr.in1.units0 hF I.ok.mod.kin J (Z.ty _ _ I.kIn p) (beh_ok IF ty hb) hf.at_ hf.fn ?_
          refine wpAny_mono (run_eq FA hr.in1 rfl tk I gd h1 h2 rx r2 (Q := Q) q) (fun v s' hv => ?_) fun _ _ z => z
          obtain ⟨b, rfl, H', I', q'⟩ := hv
          exact ⟨b, rfl, H', I', q'⟩
        refine wpAny_bind (wpAny_mono cmp (fun v s' hv => ?_) fun _ _ z => z)
        obtain ⟨b, rfl, hq⟩ := hv
        exact wpAny_truthy_bool hq
    unfold eqI at h
    dsimp only at h
    split at h
    · rename_i hap
      exact go (apart_ok r1 r2 rx hap) h
    · split at h
      · rename_i e1
        by_cases hu : u = .ref a
        · subst hu
          unfold eqBool
          refine wpAny_holding ?_
          show wpAny _ _ (if (Value.ref a == Value.ref a) = true then _ else _) _ _ s
          rw [if_pos (by simp)]
          exact wpAny_bind (wpAny_rule (wpAny_pure ⟨H, I, h F H .refl gd⟩))
        · exact go hu (by rw [e1]; exact h)
      · exact h.elim
  | _ => exact h.elim
theorem o_inO (IF : IsF X.K c IT) (M : MethOk X c k "__eq__" [] tbl) (hr : Room (k + 1) X.A) (tk : Takes X W) : OpD X c W (compareOp .In) (gInO IT tbl) := by
  intro pins s σ H x y v u Q F j dx dy I rx ry gd r1 r2 q
  unfold gInO at q
  split at q
  · rename_i e ds hy
    split at q
    · rename_i hi
      have key : ∃ a vs, y = .ref a ∧ (∀ F' H' j', Ext c F H F' H' → Good c F' H' j' → H' a = some (.lst vs)) ∧ Dats c X.K F vs ds := by
        cases dy with
        | val d =>
          have hy : d = .lst ds := hy
          subst hy
          cases r2 with
          | lst h1 h2 =>
            exact ⟨_, _, rfl, fun F' H' j' ex g' => g'.sub _ _ (ex.up _ _ h1), h2⟩
        | brw es =>
          have hy : D.lst es = .lst ds := hy
          cases hy
          obtain ⟨a, vs, h1, h2, h3, h4⟩ := r2
          exact ⟨a, vs, h1, fun F' H' j' ex g' => ex.keep _ _ h2 .lst h3, h4⟩
        | bob m hs => cases hy
      obtain ⟨a, vs, rfl, hst, hD⟩ := key
      obtain ⟨as, rfl⟩ := refs_of hD hi
      obtain ⟨its, rv, pl, _⟩ := I.list (SqL.of (hst F H j .refl gd))
      obtain rfl := vals_refs rv
      obtain rfl : u = Value.ref a := ry
      refine in_own pl.isList (fun i s' => ∃ F' H' j', Inv X pins σ H' s' ∧ Ext c F H F' H' ∧ Good c F' H' j' ∧ (inM IT tbl e (ds.drop i)).All j' (fun j2 b => (okV (.bl b)).All j2 (pE c X.K F H Q) (pX c X.K W F H σ)) (pX c X.K W F H σ)) ⟨fun i s' hs => ?_, fun s' hs => ?_, fun i y' s' hy' hs => ?_⟩ ⟨F, H, j, I, .refl, gd, T.All.bind q⟩
      · obtain ⟨F', H', j', I', ex, g', h'⟩ := hs
        obtain ⟨its', rv', pl', _⟩ := I'.list (SqL.of (hst F' H' j' ex g'))
        obtain rfl := vals_refs rv'
        obtain ⟨⟨cls, dd, data, sl⟩, ho, hc, m, hd⟩ := pl'.isList
        simp only at hc hd
        subst hc hd
        exact ⟨m, dd, sl, ho⟩
      · obtain ⟨F', H', j', I', ex, g', h'⟩ := hs
        have hl : (as.map Value.ref).toArray.size = ds.length := by
          rw [← hD.length]; simp
        rw [hl, List.drop_length] at h'
        exact ⟨false, rfl, .bl false, H', I', rfl, h' F' H' _ ex g' (show Dat _ _ _ _ _ from .bl false)⟩
      · obtain ⟨F', H', j', I', ex, g', h'⟩ := hs
        have hlt : i < as.length := by
          have := (Array.getElem?_eq_some_iff.mp hy').1
          simpa using this
        have hdl : i < ds.length := by rw [← hD.length]; simpa using hlt
        have ey : y' = .ref as[i] := by
          have : (as.map Value.ref).toArray[i]? = some (Value.ref as[i]) := by simp [hlt]
          rw [this] at hy'
          cases hy'
          rfl
        subst ey
        obtain ⟨d, hd, rd⟩ := hD.getV (i := i) (v := .ref as[i]) (by simp [hlt])
        have hdr : ds.drop i = d :: ds.drop (i + 1) := by
          rw [List.drop_eq_getElem_cons hdl]
          have := List.getElem?_eq_getElem hdl
          rw [hd] at this
          rw [Option.some.inj this]
        rw [hdr] at h'
        unfold inM at h'
        have r1' : Dat c X.K F x e := r1
        refine wpAny_mono (eq_item IF M hr tk (Q := fun b H2 => ∃ F2 j2, Ext c F H F2 H2 ∧ Good c F2 H2 j2 ∧ (if b = true then T.ok true else inM IT tbl e (ds.drop (i + 1))).All j2 (fun j2 b => (okV (.bl b)).All j2 (pE c X.K F H Q) (pX c X.K W F H σ)) (pX c X.K W F H σ)) I' g' (rd.mono ex.up) rx (r1'.mono ex.up) ((T.All.bind h').imp (fun j2 b hb F2 H2 e2 g2 => ⟨F2, j2, ex.trans e2, g2, hb⟩) fun _ _ z => z.ext ex)) (fun b s2 hb => ?_) fun _ _ z => z
        obtain ⟨H2, I2, F2, j2, e2, g2, hb⟩ := hb
        cases b with
        | true =>
          exact ⟨true, rfl, .bl true, H2, I2, rfl, hb F2 H2 _ e2 g2 (show Dat _ _ _ _ _ from .bl true)⟩
        | false => exact ⟨F2, H2, j2, I2, e2, g2, hb⟩
    · exact o_in pins s σ H _ _ v u Q F j _ _ I rx ry gd r1 r2 q
  · exact o_in pins s σ H _ _ v u Q F j _ _ I rx ry gd r1 r2 q
end
end DL
/-! DQ0: slots that are forgotten; trees that are looked through by the kernel. -/
namespace DL
open PySem PySem.Spec L2
open PyProof.Rows
def cleanG (is : List Nat) (γ : Gm) : Gm := is.foldl (fun γ i => γ.set i .no) γ
def mCl (is : List Nat) (mb : Gm → T Fl) : Gm → T Fl := fun γ => mb (cleanG is γ)
theorem set_noAt {γ : Gm} {i k : Nat} {o : SV} (h : (γ.set i .no)[k]? = some o) (n : o ≠ .no) : γ[k]? = some o := by
  rw [List.getElem?_set] at h
  split at h
  · split at h
    · cases h; exact absurd rfl n
    · cases h
  · exact h
theorem cleanG_at {is : List Nat} : ∀ {γ : Gm} {k : Nat} {o : SV}, (cleanG is γ)[k]? = some o → o ≠ .no → γ[k]? = some o := by
  induction is with
  | nil => intro γ k o h _; exact h
  | cons i is ih => intro γ k o h n; exact set_noAt (ih (γ := γ.set i .no) h n) n
theorem cleanG_len {is : List Nat} : ∀ {γ : Gm}, (cleanG is γ).length = γ.length := by
  induction is with
  | nil => intro γ; rfl
  | cons i is ih => intro γ; exact (ih (γ := γ.set i .no)).trans (by simp)
section
variable {X : Cx} {c : Ct} {W : WX} {K : PySem.W.Frag} {ob : Addr} {F0 H0 F H : Hp} {σ : L2.St} {γ : Gm} {j : Nat} {is : List Nat}
theorem EnvOk.clean (h : EnvOk c K F H σ γ) : EnvOk c K F H σ (cleanG is γ) := by
  have own_ne : ∀ o : SV, o.isOwn = true → o ≠ .no := fun o h z => by rw [z] at h; cases h
  exact ⟨by rw [cleanG_len]; exact h.len, fun i d q => h.val i d (cleanG_at q (by simp)), fun i d q => h.own i d (cleanG_at q (by simp)), fun i n d q => h.obj i n d (cleanG_at q (by simp)),
    fun i j o u a q1 o1 q2 o2 => h.ne i j o u a (cleanG_at q1 (own_ne _ o1)) o1 (cleanG_at q2 (own_ne _ o2)) o2⟩
theorem SOk.clean (s : SOk c K ob F0 H0 σ H γ F j) : SOk c K ob F0 H0 σ H (cleanG is γ) F j := by
  have own_ne : ∀ o : SV, o.isOwn = true → o ≠ .no := fun o h z => by rw [z] at h; cases h
  refine ⟨s.gd, s.ext, s.env.clean, fun a ⟨i, o, h1, h2, h3⟩ => s.own a ⟨i, o, cleanG_at h1 (own_ne _ h2), h2, h3⟩, fun a ⟨i, n, gs, h1, h2⟩ => s.obj a ⟨i, n, gs, cleanG_at h1 (by simp), h2⟩⟩
theorem dss_cl (is : List Nat) {body : List Stmt} {mb : Gm → T Fl} (h : DSs X c W body mb) : DSs X c W body (mCl is mb) := ⟨h.ps.imp fun D σ H ⟨ob, F0, H0, F, γ, j, s, q⟩ => ⟨ob, F0, H0, F, cleanG is γ, j, s.clean, q⟩⟩
end
/-! ### looking through a tree -/
def allN : Nat → (Nat → Bool) → Bool
  | 0, _ => true
  | n + 1, p => p n && allN n p
theorem allN_ok : ∀ {n : Nat} {p : Nat → Bool}, allN n p = true → ∀ i, i < n → p i = true
  | 0, _, _, i, h => absurd h (Nat.not_lt_zero i)
  | n + 1, p, h, i, hi => by
    obtain ⟨h1, h2⟩ := Bool.and_eq_true_iff.mp h
    by_cases e : i = n
    · rw [e]; exact h1
    · exact allN_ok h2 i (by omega)
/-- all ends are right, at most m draws -/
def T.chk {α : Type} : T α → Nat → (α → Bool) → Bool
  | .ok a, _, p => p a
  | .exc _, _, _ => false
  | .stuck, _, _ => false
  | .draw _ _, 0, _ => false
  | .draw n k, m + 1, p => match n with
    | .ofNat n => Nat.blt 0 n && (Nat.ble n 100000 && allN n fun i => (k (Int.ofNat i)).chk m p)
    | _ => false
theorem pow_big : (100000 : Int) < 2 ^ 1000 := by
  have : (100000 : Int) < 2 ^ 20 := by decide
  have h2 : (2 : Int) ^ 1000 = 2 ^ 20 * 2 ^ 980 := by rw [← Int.pow_add]
  have h3 : (1 : Int) ≤ 2 ^ 980 := (by have : (0 : Int) < 2 ^ 980 := Int.pow_pos (by decide); omega)
  rw [h2]
  calc (100000 : Int) < 2 ^ 20 := this
    _ = 2 ^ 20 * 1 := (Int.mul_one _).symm
    _ ≤ 2 ^ 20 * 2 ^ 980 := Int.mul_le_mul_of_nonneg_left h3 (by decide)
theorem T.chk_ok {α : Type} {p : α → Bool} {E : Nat → Xc → Prop} : ∀ {t : T α} {m j : Nat}, t.chk m p = true → j + m ≤ 1000000 → t.All j (fun j' a => j' ≤ j + m ∧ p a = true) E
  | .ok a, m, j, h, _ => ⟨by omega, h⟩
  | .exc _, _, _, h, _ => nomatch h
  | .stuck, _, _, h, _ => nomatch h
  | .draw _ _, 0, _, h, _ => nomatch h
  | .draw n k, m + 1, j, h, hj => by
    unfold T.chk at h
    cases n with
    | negSucc n => cases h
    | ofNat n =>
      obtain ⟨h1, h2⟩ := Bool.and_eq_true_iff.mp h
      obtain ⟨h2, h3⟩ := Bool.and_eq_true_iff.mp h2
      have h1 : 0 < n := Nat.le_of_ble_eq_true h1
      have h2 : n ≤ 100000 := Nat.le_of_ble_eq_true h2
      refine ⟨by omega, by simp; omega, Int.lt_of_le_of_lt (by simp; omega) pow_big, fun d d0 d1 => ?_⟩
      obtain ⟨i, rfl⟩ := Int.eq_ofNat_of_zero_le d0
      have hi : i < n := by simpa using d1
      have := T.chk_ok (E := E) (j := j + 1) (allN_ok h3 i hi) (by omega)
      exact this.imp (fun j' a ⟨q1, q2⟩ => ⟨by omega, q2⟩) fun _ _ z => z
/-- one after another -/
theorem All.seq {α β : Type} {t : T α} {f : α → T β} {j m1 m2 : Nat} {p : α → Prop} {P : Nat → β → Prop} {E : Nat → Xc → Prop} (h : t.All j (fun j' a => j' ≤ j + m1 ∧ p a) E) (k : ∀ j' a, j' ≤ j + m1 → p a → (f a).All j' P E) : (t.bind f).All j P E :=
  T.All.of_bind (h.imp (fun j' a ⟨q1, q2⟩ => k j' a q1 q2) fun _ _ z => z)
/-- a for loop by what holds between two turns -/
theorem for_all {gm : D → Gm → Option Gm} {mb : Gm → T Fl} {I : Gm → Prop} {m : Nat} {E : Nat → Xc → Prop} : ∀ {ds : List D} {γ : Gm} {j : Nat}, I γ → j + m * ds.length ≤ 1000000 →
    (∀ γ d j, d ∈ ds → I γ → j + m ≤ 1000000 → ∃ γ1, gm d γ = some γ1 ∧ (mb γ1).All j (fun j' fl => j' ≤ j + m ∧ ∃ γ2, (fl = .nx γ2 ∨ fl = .ct γ2) ∧ I γ2) E) →
    (forD gm mb ds γ).All j (fun j' fl => j' ≤ j + m * ds.length ∧ ∃ γ2, fl = .nx γ2 ∧ I γ2) E
  | [], γ, j, h, _, _ => ⟨by simp, γ, rfl, h⟩
  | d :: ds, γ, j, h, hj, st => by
    have hl : m * (d :: ds).length = m + m * ds.length := by rw [List.length_cons, Nat.mul_add, Nat.mul_one, Nat.add_comm]
    rw [hl] at hj ⊢
    obtain ⟨γ1, e, q⟩ := st γ d j (.head _) h (by omega)
    unfold forD
    rw [e]
    refine T.All.of_bind (q.imp (fun j' fl ⟨q1, γ2, q2, q3⟩ => ?_) fun _ _ z => z)
    have go := for_all (j := j') (E := E) q3 (by omega) fun γ d j hd => st γ d j (.tail _ hd)
    rcases q2 with rfl | rfl
    · exact go.imp (fun j2 fl ⟨q4, q5⟩ => ⟨by omega, q5⟩) fun _ _ z => z
    · exact go.imp (fun j2 fl ⟨q4, q5⟩ => ⟨by omega, q5⟩) fun _ _ z => z
/-! ### equality of values, as a Bool -/
mutual
def D.eqb : D → D → Bool
  | .non, .non => true
  | .bl a, .bl b => a == b
  | .int a, .int b => decide (a = b)
  | .str a, .str b => decide (a = b)
  | .tup a, .tup b => D.eqbs a b
  | .lst a, .lst b => D.eqbs a b
  | .ins n a, .ins m b => n == m && D.eqbf a b
  | .cls n, .cls m => n == m
  | .pen, .pen => true
  | _, _ => false
def D.eqbs : List D → List D → Bool
  | [], [] => true
  | a :: as, b :: bs => D.eqb a b && D.eqbs as bs
  | _, _ => false
def D.eqbf : List (Str × D) → List (Str × D) → Bool
  | [], [] => true
  | (f, a) :: as, (g, b) :: bs => decide (f = g) && (D.eqb a b && D.eqbf as bs)
  | _, _ => false
end
mutual
theorem D.eqb_ok : ∀ {a b : D}, D.eqb a b = true → a = b
  | .non, .non, _ => rfl
  | .bl a, .bl b, h => congrArg D.bl (eq_of_beq h)
  | .int a, .int b, h => congrArg D.int (of_decide_eq_true h)
  | .str a, .str b, h => congrArg D.str (of_decide_eq_true h)
  | .tup a, .tup b, h => congrArg D.tup (D.eqbs_ok h)
  | .lst a, .lst b, h => congrArg D.lst (D.eqbs_ok h)
  | .ins n a, .ins m b, h => by
    unfold D.eqb at h
    obtain ⟨h1, h2⟩ := Bool.and_eq_true_iff.mp h
    rw [eq_of_beq h1, D.eqbf_ok h2]
  | .cls n, .cls m, h => congrArg D.cls (eq_of_beq h)
  | .pen, .pen, _ => rfl
theorem D.eqbs_ok : ∀ {a b : List D}, D.eqbs a b = true → a = b
  | [], [], _ => rfl
  | a :: as, b :: bs, h => by
    unfold D.eqbs at h
    obtain ⟨h1, h2⟩ := Bool.and_eq_true_iff.mp h
    rw [D.eqb_ok h1, D.eqbs_ok h2]
theorem D.eqbf_ok : ∀ {a b : List (Str × D)}, D.eqbf a b = true → a = b
  | [], [], _ => rfl
  | (f, a) :: as, (g, b) :: bs, h => by
    unfold D.eqbf at h
    obtain ⟨h1, h2⟩ := Bool.and_eq_true_iff.mp h
    obtain ⟨h2, h3⟩ := Bool.and_eq_true_iff.mp h2
    rw [of_decide_eq_true h1, D.eqb_ok h2, D.eqbf_ok h3]
end
def SV.eqb : SV → SV → Bool
  | .no, .no => true
  | .val a, .val b => a.eqb b
  | .own a, .own b => D.eqbs a b
  | _, _ => false
theorem SV.eqb_ok : ∀ {a b : SV}, SV.eqb a b = true → a = b
  | .no, .no, _ => rfl
  | .val a, .val b, h => congrArg SV.val (D.eqb_ok h)
  | .own a, .own b, h => congrArg SV.own (D.eqbs_ok h)
def gmEq : Gm → Gm → Bool
  | [], [] => true
  | a :: as, b :: bs => a.eqb b && gmEq as bs
  | _, _ => false
theorem gmEq_ok : ∀ {a b : Gm}, gmEq a b = true → a = b
  | [], [], _ => rfl
  | a :: as, b :: bs, h => by
    obtain ⟨h1, h2⟩ := Bool.and_eq_true_iff.mp h
    rw [SV.eqb_ok h1, gmEq_ok h2]
end DL
/-! DQ1: what a statement, a test, a call does, at all draws: in structures, so that nothing is unfolded by the way. -/
namespace DL
open PySem PySem.Spec L2
open PyProof.Rows
theorem seq_ok {m1 m2 : Gm → T Fl} {γ γ' : Gm} (h : m1 γ = .ok (.nx γ')) : mSeq m1 m2 γ = m2 γ' := by
  unfold mSeq
  rw [h]
  rfl
structure NxAll (m : Gm → T Fl) (γ : Gm) (j k : Nat) (p : Gm → Prop) (E : Nat → Xc → Prop) : Prop where
  h : (m γ).All j (fun j' fl => j' ≤ j + k ∧ ∃ γ', fl = .nx γ' ∧ p γ') E
structure FlAll (t : T Fl) (j : Nat) (P : Nat → Fl → Prop) (E : Nat → Xc → Prop) : Prop where
  h : t.All j P E
theorem seq_all {m1 m2 : Gm → T Fl} {γ : Gm} {j k : Nat} {p : Gm → Prop} {P : Nat → Fl → Prop} {E : Nat → Xc → Prop} (h : NxAll m1 γ j k p E) (q : ∀ j' γ', j' ≤ j + k → p γ' → FlAll (m2 γ') j' P E) : FlAll (mSeq m1 m2 γ) j P E := by
  refine ⟨?_⟩
  unfold mSeq
  refine T.All.of_bind (h.h.imp (fun j' fl ⟨h1, γ', h2, h3⟩ => ?_) fun _ _ z => z)
  subst h2
  exact (q j' γ' h1 h3).h
/-- a call -/
structure CAll (mf : List D → T D) (ds : List D) (j k : Nat) (p : D → Prop) (E : Nat → Xc → Prop) : Prop where
  h : (mf ds).All j (fun j' d => j' ≤ j + k ∧ p d) E
theorem clean_set {i : Nat} {is : List Nat} {γ : Gm} {x : SV} : cleanG (i :: is) (γ.set i x) = cleanG (i :: is) γ := by
  unfold cleanG
  rw [List.foldl_cons, List.foldl_cons, List.set_set]
theorem seq_assoc {m1 m2 m3 : Gm → T Fl} {γ : Gm} : mSeq m1 (mSeq m2 m3) γ = mSeq (mSeq m1 m2) m3 γ := by
  unfold mSeq
  rw [T.bind_assoc]
  congr 1
  funext fl
  cases fl <;> rfl
theorem nx_chk {m : Gm → T Fl} {γ : Gm} {j k : Nat} {q : Fl → Bool} {p : Gm → Prop} {E : Nat → Xc → Prop} (h : (m γ).chk k q = true) (hj : j + k ≤ 1000000) (hp : ∀ fl, q fl = true → ∃ γ', fl = .nx γ' ∧ p γ') : NxAll m γ j k p E :=
  ⟨(T.chk_ok h hj).imp (fun j' fl ⟨q1, q2⟩ => ⟨q1, hp fl q2⟩) fun _ _ z => z⟩
structure BAll (m : Gm → T Bool) (γ : Gm) (j k : Nat) (v : Bool) (E : Nat → Xc → Prop) : Prop where
  h : (m γ).All j (fun j' b => j' ≤ j + k ∧ b = v) E
theorem b_call {mf : List D → T D} {ms : Gm → T (List D)} {γ : Gm} {ds : List D} {j k : Nat} {v : Bool} {E : Nat → Xc → Prop} (e : ms γ = .ok ds) (h : CAll mf ds j k (fun d => d = .bl v) E) : BAll (mTru (mCall mf ms)) γ j k v E := by
  refine ⟨?_⟩
  unfold mTru mCall
  rw [e]
  refine T.All.of_bind ?_
  show T.All (T.bind (mf ds) _) _ _ _
  refine T.All.of_bind (h.h.imp (fun j' d ⟨q1, q2⟩ => ?_) fun _ _ z => z)
  subst q2
  exact ⟨q1, rfl⟩
theorem b_not {m : Gm → T Bool} {γ : Gm} {j k : Nat} {v : Bool} {E : Nat → Xc → Prop} (h : BAll m γ j k v E) : BAll (tNotM m) γ j k (!v) E := by
  refine ⟨?_⟩
  unfold tNotM
  refine T.All.of_bind (h.h.imp (fun j' d ⟨q1, q2⟩ => ?_) fun _ _ z => z)
  subst q2
  exact ⟨q1, rfl⟩
theorem b_orF {m1 m2 : Gm → T Bool} {γ : Gm} {j k1 k2 : Nat} {v : Bool} {E : Nat → Xc → Prop} (h1 : BAll m1 γ j k1 false E) (h2 : ∀ j', j' ≤ j + k1 → BAll m2 γ j' k2 v E) : BAll (tOrM m1 m2) γ j (k1 + k2) v E := by
  refine ⟨?_⟩
  unfold tOrM
  refine T.All.of_bind (h1.h.imp (fun j' d ⟨q1, q2⟩ => ?_) fun _ _ z => z)
  subst q2
  exact (h2 j' q1).h.imp (fun j2 b ⟨q3, q4⟩ => ⟨by omega, q4⟩) fun _ _ z => z
theorem if_F {t : Gm → T Bool} {a b : Gm → T Fl} {γ : Gm} {j k : Nat} {P : Nat → Fl → Prop} {E : Nat → Xc → Prop} (h : BAll t γ j k false E) (q : ∀ j', j' ≤ j + k → (b γ).All j' P E) : FlAll (mIfS t a b γ) j P E := by
  refine ⟨?_⟩
  unfold mIfS
  refine T.All.of_bind (h.h.imp (fun j' d ⟨q1, q2⟩ => ?_) fun _ _ z => z)
  subst q2
  exact q j' q1
end DL
/-! DZ1: walks over lists, tuples, texts alike; in / not in by the kind. -/
namespace DL
open PySem PySem.Spec L2
open PyProof.Rows
section
variable {X : Cx} {c : Ct} {W : WX} {e : Expr} {m : Gm → T RV} {tg : Expr}
def iAnyR (K : PySem.W.Frag) (tl : TE) : TI := fun σ H R => tl σ H fun x H1 => (∃ a, x = .ref a ∧ (∃ xs, SqL K H1 a xs) ∧ R (Itl K a) H1) ∨ (∃ a, x = .ref a ∧ (∃ xs, SqT K H1 a xs) ∧ R (Itt K a) H1) ∨ ∃ z, x = .str z ∧ R (Its z) H1
theorem pi_any {l : Expr} {tl : TE} (hl : PE X l tl) : PI X tg l (iAnyR X.K tl) := by
  refine ⟨fun pins s σ H R I h => ?_⟩
  refine thn (hl.run pins s σ H _ I h) fun v s1 ⟨x, H1, I1, r1, q1⟩ => ?_
  rcases q1 with ⟨a, e, ⟨xs, hq⟩, q⟩ | ⟨a, e, ⟨xs, hq⟩, q⟩ | ⟨z, e, q⟩
  · subst e
    cases r1
    obtain ⟨its, rv, p, hz⟩ := I1.list hq
    exact wpAny_pyIter_list p.isList (pi_one (tk := s1.toks) I1 _ (turn_list a _) ⟨_, Heap.get?_push_size _ rfl, rfl, rfl⟩ q)
  · subst e
    cases r1
    obtain ⟨its, rv, p, hz⟩ := I1.tuple hq
    exact wpAny_pyIter_tuple (show s1.heap.IsTuple a its.toArray from p) (pi_one (tk := s1.toks) I1 _ (turn_tuple a _) ⟨_, Heap.get?_push_size _ rfl, rfl, rfl⟩ q)
  · subst e
    obtain ⟨t, rfl⟩ := r1
    cases ha : z.cps.all (· < 128)
    · exact wpAny_pyIter_wide ha (pi_one (tk := s1.toks) I1 _ (turn_str _ z t "str_iterator" (.inr rfl)) ⟨_, Heap.get?_push_size _ rfl, rfl, rfl⟩ q)
    · exact wpAny_pyIter_ascii ha (pi_one (tk := s1.toks) I1 _ (turn_str _ z t "str_ascii_iterator" (.inl rfl)) ⟨_, Heap.get?_push_size _ rfl, rfl, rfl⟩ q)
def strDs (z : Str) : List D := z.cps.toList.map fun ch => .str ⟨#[ch]⟩
def asIt (x : RV) : T (List D) := match x with
  | .val (.lst ds) => .ok ds
  | .val (.tup ds) => .ok ds
  | .val (.str z) => .ok (strDs z)
  | _ => .stuck
def iAny (m : Gm → T RV) : Gm → T (List D) := fun γ => (m γ).bind asIt
theorem di_any (he : DE X c W e m) : DI X c W tg e (iAny m) := by
  refine ⟨(pi_any he.pe).imp fun σ H R ⟨F, γ, j, g, en, h⟩ => tE.seq g en h fun j1 x F1 H1 v e1 g1 en1 r1 h1 => ?_⟩
  unfold asIt at h1
  split at h1
  · rename_i ds
    cases r1 with
    | lst hq hr =>
      refine .inl ⟨_, rfl, ⟨_, SqL.of (g1.sub _ _ hq)⟩, h1 F1 H1 _ e1 g1 ⟨fun i F' H' up sub hi => ?_, fun F' H' up sub => ?_, fun i F' H' x H2 j up g y => ?_⟩⟩
      · have hl : i < ds.length := hi
        rw [← hr.length] at hl
        exact ⟨_, _, SqL.of (sub _ _ (up _ _ hq)), List.getElem?_eq_getElem hl⟩
      · exact ⟨_, SqL.of (sub _ _ (up _ _ hq)), by rw [hr.length]; exact Nat.le_refl _⟩
      · obtain ⟨e, y⟩ := y
        subst e
        refine ⟨F', .refl, g, fun d hd => ?_⟩
        obtain ⟨w, h3, h4⟩ := hr.get hd
        have := y _ (SqL.of (g.sub _ _ (up _ _ hq)))
        rw [h3] at this
        cases this
        exact h4.mono up
  · rename_i ds
    cases r1 with
    | tup hq hr =>
      refine .inr (.inl ⟨_, rfl, ⟨_, SqT.mono hq g1.sub⟩, h1 F1 H1 _ e1 g1 ⟨fun i F' H' up sub hi => ?_, fun F' H' up sub => ?_, fun i F' H' x H2 j up g y => ?_⟩⟩)
      · have hl : i < ds.length := hi
        rw [← hr.length] at hl
        exact ⟨_, _, SqT.mono (SqT.mono hq up) sub, List.getElem?_eq_getElem hl⟩
      · exact ⟨_, SqT.mono (SqT.mono hq up) sub, by rw [hr.length]; exact Nat.le_refl _⟩
      · obtain ⟨e, y⟩ := y
        subst e
        refine ⟨F', .refl, g, fun d hd => ?_⟩
        obtain ⟨w, h3, h4⟩ := hr.get hd
        have := y _ (SqT.mono (SqT.mono hq up) g.sub)
        rw [h3] at this
        cases this
        exact h4.mono up
  · rename_i z
    cases r1 with
    | str _ =>
      refine .inr (.inr ⟨z, rfl, h1 F1 H1 _ e1 g1 ⟨fun i F' H' up sub hi => ?_, fun F' H' up sub => ?_, fun i F' H' x H2 j up g y => ?_⟩⟩)
      · simpa [strDs, Its] using hi
      · simp [strDs, Its]
      · obtain ⟨e, ch, y1, y2⟩ := y
        subst e y2
        refine ⟨F', .refl, g, fun d hd => ?_⟩
        unfold strDs at hd
        rw [List.getElem?_map, ← Array.getElem?_toList] at *
        rw [y1] at hd
        cases hd
        exact .str _
  · exact h1.elim
/-! ### in -/
/-- i in j, of texts; one sign by the list of signs -/
def inStr (i j : Str) : Bool := match i.cps.toList with
  | [ch] => decide (ch ∈ j.cps.toList)
  | _ => !(Builtin.Str.occurrences j i 0 j.length 1).isEmpty
theorem one_sign {i : Str} {ch : Nat} (h : i.cps.toList = [ch]) : i = ⟨#[ch]⟩ := by
  obtain ⟨a⟩ := i
  congr 1
  apply Array.ext'
  exact h
def gInA (IT : IsT) (tbl : List (Nat × (List D → T D))) (x y : RV) : T RV := match x, y with
  | .val (.str i), .val (.str j) => okV (.bl (inStr i j))
  | x, y => gInO IT tbl x y
def gInP (x y : RV) : T RV := match x, y with
  | .val (.str i), .val (.str j) => okV (.bl (inStr i j))
  | x, y => gIn x y
def gNotInP (x y : RV) : T RV := match x, y with
  | .val (.str i), .val (.str j) => okV (.bl (!inStr i j))
  | x, y => gNotIn x y
theorem in_str {pins : List (Addr × Obj)} {s : Shared} {σ : L2.St} {H : Hp} {i j : Str} {v u : Value} {Q : VK} (I : Inv X pins σ H s) (rx : RelV (.str i) v) (ry : RelV (.str j) u) (q : Q (.bl (inStr i j)) H) : wpAny (model X.prog X.w) X.A (compareOp .In v u) (EP X pins σ Q) X.xe s := by
  unfold inStr at q
  split at q
  · rename_i ch e
    rw [one_sign e] at rx
    exact op_inS pins s σ H _ _ v u Q I rx ry ⟨ch, j, rfl, rfl, q⟩
  · exact op_in_str pins s σ H _ _ v u Q I rx ry ⟨i, j, rfl, rfl, q⟩
theorem notin_str {pins : List (Addr × Obj)} {s : Shared} {σ : L2.St} {H : Hp} {i j : Str} {v u : Value} {Q : VK} (I : Inv X pins σ H s) (rx : RelV (.str i) v) (ry : RelV (.str j) u) (q : Q (.bl (!inStr i j)) H) : wpAny (model X.prog X.w) X.A (compareOp .NotIn v u) (EP X pins σ Q) X.xe s := by
  unfold inStr at q
  split at q
  · rename_i ch e
    rw [one_sign e] at rx
    exact op_notIn_sign pins s σ H _ _ v u Q I rx ry ⟨ch, j, rfl, rfl, q⟩
  · exact op_notIn_str pins s σ H _ _ v u Q I rx ry ⟨i, j, rfl, rfl, q⟩
theorem o_inP : OpD X c W (compareOp .In) gInP := by
  intro pins s σ H x y v u Q F j dx dy I rx ry gd r1 r2 q
  unfold gInP at q
  split at q
  · rename_i i k
    cases r1; cases r2
    exact in_str I rx ry (q.val gd (.bl _))
  · exact o_in pins s σ H _ _ v u Q F j _ _ I rx ry gd r1 r2 q
theorem o_notinP : OpD X c W (compareOp .NotIn) gNotInP := by
  intro pins s σ H x y v u Q F j dx dy I rx ry gd r1 r2 q
  unfold gNotInP at q
  split at q
  · rename_i i k
    cases r1; cases r2
    exact notin_str I rx ry (q.val gd (.bl _))
  · exact o_notin pins s σ H _ _ v u Q F j _ _ I rx ry gd r1 r2 q
theorem o_inA {IT : IsT} {k : Nat} {tbl : List (Nat × (List D → T D))} (IF : IsF X.K c IT) (M : MethOk X c k "__eq__" [] tbl) (hr : Room (k + 1) X.A) (tk : Takes X W) : OpD X c W (compareOp .In) (gInA IT tbl) := by
  intro pins s σ H x y v u Q F j dx dy I rx ry gd r1 r2 q
  unfold gInA at q
  split at q
  · rename_i i k
    cases r1; cases r2
    exact in_str I rx ry (q.val gd (.bl _))
  · exact o_inO IF M hr tk pins s σ H _ _ v u Q F j _ _ I rx ry gd r1 r2 q
end
end DL
set_option maxHeartbeats 2000000
/-! DX6: an exception of an own class made as a value, with keywords too. -/
namespace PySem.HandSPX
open PyProof PySem.Calls
section
variable {M : Model} {A : Around} {E : Value → Shared → Prop} {h : Heap} {g : Array GenState} {d : Drawn} {t : Nat} {os : OsState}
variable {nm q : Str} {C N : Addr} {bs bm bmB : List Value} {hdct : Bool} {sn : List Str} {sub : List Value} {ab : Bool} {col : Option Bool} {dd : Option Addr} {k0 k1 k2 k3 k5 : Option Value} {B newId initId : String}
theorem check_newK (F : ExcBaseFacts B newId initId bmB) (hT : ∀ X : String, bm.contains (.type X) = bmB.contains (.type X)) {rest : List Value} {kw : List (Str × Value)} {Q : Unit → Shared → Prop}
    (hC : h.get? C = some (excClassObj nm q C N bs bm hdct sn sub ab col dd k0 k1 k2 k3 k5 newId)) (hq : Q () ⟨h, g, d, t, os⟩) : wpAny M A (checkBuiltinCall newId ⟨.ref C :: rest, kw⟩) Q E ⟨h, g, d, t, os⟩ := by
  have hcont : (Value.ref C :: bm).contains (.type B) = true := by rw [List.contains_cons, hT, F.hasB, Bool.or_true]
  have hstar := F.noStar
  simp only [checkBuiltinCall, F.newKind, F.newSplit, F.newRow]
  repeat (first | refine wpAny_loadPart_at hC ?_ | (refine wpAny_isSubtype_exc hC ?_; rw [hcont]) | refine wpAny_staticBase_exc hC ?_ | refine wpAny_madeBy_exc hC ?_ | simp only [bne_self_eq_false, Bool.false_eq_true, if_false] | wp_step)
  exact hq
end
section
variable {prog : Program} {w : World} {A : Around} {E : Value → Shared → Prop} {R : Result → Shared → Prop} {h : Heap} {g : Array GenState} {d : Drawn} {t : Nat} {os : OsState}
variable {nm q : Str} {C N : Addr} {bs bm bmB : List Value} {hdct : Bool} {sn : List Str} {sub : List Value} {ab : Bool} {col : Option Bool} {dd : Option Addr} {k0 k1 k2 k3 k5 : Option Value} {B newId initId : String}
theorem new_ownK (F : ExcBaseFacts B newId initId bmB) (hT : ∀ X : String, bm.contains (.type X) = bmB.contains (.type X)) {rest : List Value} {kw : List (Str × Value)}
    (hC : h.get? C = some (excClassObj nm q C N bs bm hdct sn sub ab col dd k0 k1 k2 k3 k5 newId))
    (hq : R (.ok (.ret (.ref (h.objs.size + 1)))) ⟨(h.push { cls := .type "tuple", data := .seq rest.toArray }).push (excO C h.objs.size), g, d, t, os⟩) (hrest : rest.length ≤ sizeLine) :
    codeAny (model prog w) A (.builtin newId ⟨.ref C :: rest, kw⟩) R ⟨h, g, d, t, os⟩ := by
  have hends := F.ends
  have hcB : (Value.ref C :: bm).contains (.type B) = true := by rw [List.contains_cons, hT, F.hasB, Bool.or_true]
  have hcA : (Value.ref C :: bm).contains (.type "AttributeError") = false := by rw [List.contains_cons, hT, F.noAttr]; rfl
  have hcN : (Value.ref C :: bm).contains (.type "NameError") = false := by rw [List.contains_cons, hT, F.noName]; rfl
  refine codeAny_builtinAt F.entry ?_
  unfold Builtin.«BaseException.__new__»
  refine wpAt_bind ?_
  show wpAt _ _ _ (stack >>= _) _ _ _
  refine wpAt_bind (wpAt_stack fun p below => wpAt_of_wpAny ?_)
  wp_walk
  refine wpAt_of_wpAny ?_
  rw [F.owner]
  repeat (first | with_reducible refine wpAny_madeHere_exc F.canon hC ?_ | with_reducible refine wpAny_loadPart_at hC ?_ | (with_reducible refine wpAny_isSubtype_exc hC ?_; first | rw [hcB] | rw [hcA] | rw [hcN]) | wp_step)
  show R _ _
  rw [Heap.size_push]
  exact hq
theorem type_call_ownK (F : ExcBaseFacts B newId initId bmB) (hT : ∀ X : String, bm.contains (.type X) = bmB.contains (.type X)) {rest : List Value} {kw : List (Str × Value)} {fI : Addr} {Q : Fin → Shared → Prop}
    (hC : h.get? C = some (excClassObj nm q C N bs bm hdct sn sub ab col dd k0 k1 k2 k3 k5 newId))
    (hi : W.Looks (model prog w) h (typeLookup (.ref C) "__init__") (some (.ref fI))) (hb : ∀ self, W.Looks (model prog w) h (bindSpecial (.ref fI) self) (.ref fI, [self])) (hrest : rest.length ≤ sizeLine)
    (hq : codeAny (model prog w) A (.call (.ref fI) ⟨.ref (h.objs.size + 1) :: rest, kw⟩)
      (fun r s' => match r with | .ok (.ret v) => v = .none ∧ Q (.done (.ret (.ref (h.objs.size + 1)))) s' | .ok _ => False | .error e => E e s')
      ⟨(h.push (W.kdv_tup rest)).push (excO C h.objs.size), g, d, t, os⟩) :
    wpAny (model prog w) A (Builtin.«type.__call__» ⟨.ref C :: rest, kw⟩) Q E ⟨h, g, d, t, os⟩ := by
  repeat (first | with_reducible refine wpAny_loadPart_at hC ?_ | with_reducible refine wpAny_madeBy_exc hC ?_ | wp_step)
  refine codeAny_call_builtin_code (Code.quiet_builtin _ F.quiet) (check_newK F hT hC ?_)
  refine new_ownK F hT hC ?_ hrest
  show wpAny _ _ _ _ _ _
  have k : ∀ b o, h.get? b = some o → ((h.push (W.kdv_tup rest)).push (excO C h.objs.size)).get? b = some o := fun b o e => Heap.get?_push_of_some _ (Heap.get?_push_of_some _ e)
  have hC₁ := k _ _ hC
  have hget : ((h.push (W.kdv_tup rest)).push (excO C h.objs.size)).get? (h.objs.size + 1) = some (excO C h.objs.size) := by heap_get
  have hcC : (Value.ref C :: bm).contains (.ref C) = true := by simp
  have i1 := hi.keeps k
  have b1 := (hb (.ref (h.objs.size + 1))).keeps k
  unfold isInstance
  repeat (first | with_reducible refine wpAny_loadPart_at hget ?_ | (with_reducible refine wpAny_isSubtype_exc hC₁ ?_; rw [hcC]) | wp_step)
  show wpAny _ _ (typeLookup (.ref C) _) _ _ _
  refine i1.at ?_
  refine wpAny_holding (wpAny_bind (b1.at ?_))
  refine wpAny_bind (wpAny_call (codeAny_mono hq fun r s' z => ?_))
  rcases r with e | (v | _ | _ | _) <;> first | exact z | exact z.elim | skip
  obtain ⟨rfl, z⟩ := z
  first
    | exact wpAny_pure (wpAny_pure z)
    | (wp_walk; exact z)
theorem call_ownK (F : ExcBaseFacts B newId initId bmB) (hT : ∀ X : String, bm.contains (.type X) = bmB.contains (.type X)) {rest : List Value} {kw : List (Str × Value)} {fI : Addr}
    (hC : h.get? C = some (excClassObj nm q C N bs bm hdct sn sub ab col dd k0 k1 k2 k3 k5 newId))
    (hi : W.Looks (model prog w) h (typeLookup (.ref C) "__init__") (some (.ref fI))) (hb : ∀ self, W.Looks (model prog w) h (bindSpecial (.ref fI) self) (.ref fI, [self])) (hrest : rest.length ≤ sizeLine)
    (hq : codeAny (model prog w) (A.under (.builtin "type.__call__" ⟨.ref C :: rest, kw⟩)) (.call (.ref fI) ⟨.ref (h.objs.size + 1) :: rest, kw⟩) (W.InitBack (h.objs.size + 1) R)
      ⟨(h.push (W.kdv_tup rest)).push (excO C h.objs.size), g, d, t, os⟩) :
    codeAny (model prog w) A (.call (.ref C) ⟨rest, kw⟩) R ⟨h, g, d, t, os⟩ := by
  have f1 := tc_lookup
  have f2 := tc_bind (.ref C)
  have hTy : (⟨h, g, d, t, os⟩ : Shared).TypeIs (.ref C) "type" := ⟨_, hC, rfl⟩
  refine codeAny_of_tree ?_
  show wpAny _ _ (callAny (.ref C) _) _ _ _
  repeat (any_goals (first | assumption | with_reducible refine wpAny_loadPart_at hC ?_ | wp_step))
  refine ⟨rfl, ?_⟩
  refine codeAny_call_builtin_at (Code.quiet_builtin _ (by decide +kernel)) entry_typeCall (wpAny_check_type_call_sub hC (type_call_ownK F hT hC hi hb hrest ?_))
  refine codeAny_mono hq fun r s' z => ?_
  rcases r with e | (v | _ | _ | _) <;> exact z
end
end PySem.HandSPX
set_option maxHeartbeats 2000000
namespace DL
open PySem PySem.Spec PyProof.Rows L2
/-- how the arguments of the call come to the __init__'s parameters: n by place, then the keywords ks -/
structure XArg (K : PySem.W.Frag) (fd : FuncData) (ps : List Str) (n : Nat) (ks : List Str) (gD : {α : Type} → List α → List α → List α) : Prop where
  to : ∀ (s : Shared) (u : Value) (us ws : List Value), K.In s.heap → us.length = n → ws.length = ks.length → BindsTo s fd ⟨u :: us, ks.zip ws⟩ (ps.zip (u :: gD us ws))
  relV : ∀ {vs zs : List V} {us ws : List Value}, Vals vs us → Vals zs ws → Vals (gD vs zs) (gD us ws)
  relD : ∀ {c : Ct} {F : Hp} {vs zs : List V} {ds es : List D}, Dats c K F vs ds → Dats c K F zs es → Dats c K F (gD vs zs) (gD ds es)
structure XClsK (P : Program) (w : World) (K : PySem.W.Frag) (mg : Str → Option Value) (base : Heap) (C : Addr) (fsn : List Str) (k n : Nat) (ks : List Str) (gD : {α : Type} → List α → List α → List α) : Prop where
  oex : OexC K C
  fn : ∃ fI fd ps, PySem.W.findIn K (.ref C) "__init__" = some (some (.ref fI)) ∧ PySem.W.typeIn K (.ref fI) = some (.type "function") ∧ L2.FnOk P w K mg base (CX P w) k fI fd ps (spO C fsn) ∧ XArg K fd ps n ks gD
theorem DatF.zip {c : Ct} {K : PySem.W.Frag} {F : Hp} : ∀ {fs : List Str} {vs : List V} {ds : List D}, Dats c K F vs ds → DatF c K F (fs.zip vs) (fs.zip ds)
  | [], _, _, _ => .nil
  | _ :: _, _, _, .nil => .nil
  | _ :: _, _, _, .cons h r => .cons h (DatF.zip r)
theorem DatF.app {c : Ct} {K : PySem.W.Frag} {F : Hp} : ∀ {fs fs' : List (Str × V)} {gs gs' : List (Str × D)}, DatF c K F fs gs → DatF c K F fs' gs' → DatF c K F (fs ++ fs') (gs ++ gs')
  | _, _, _, _, .nil, s => s
  | _, _, _, _, .cons h r, s => .cons h (DatF.app r s)
theorem DatF.rev {c : Ct} {K : PySem.W.Frag} {F : Hp} : ∀ {fs : List (Str × V)} {gs : List (Str × D)}, DatF c K F fs gs → DatF c K F fs.reverse gs.reverse
  | _, _, .nil => .nil
  | _, _, .cons h r => by
    rw [List.reverse_cons, List.reverse_cons]
    exact DatF.app (DatF.rev r) (.cons h .nil)
def mMkx (cl : Nat) (fsn : List Str) (n l : Nat) (gD : List D → List D → List D) (ms : Gm → T (List D)) : Gm → T RV := fun γ => (ms γ).bind fun ds =>
  if ds.length = n + l ∧ (gD (ds.take n) (ds.drop n)).length = fsn.length ∧ ds.length ≤ 1000 then okV (.exn cl (fsn.zip (gD (ds.take n) (ds.drop n))).reverse) else .stuck
section
variable {X : Cx} {c : Ct} {W : WX} {args : List Expr} {kws : List Keyword} {ks : List Str} {ms : Gm → T (List D)} {pos p : Pos} {x : Str} {k : Nat}
theorem de_mkx {cl n : Nat} {fsn : List Str} {gD : {α : Type} → List α → List α → List α} (XT : XClsK X.prog X.w X.K X.mg X.base (c.cA cl) fsn k n ks gD) (hr : Room (k + 1) X.A) (tk : Takes X W) (hm : X.mg x = some (.ref (c.cA cl))) (ha : DC X c W args kws ks ms) (hg : Gl X x := by rfl)
    (hdb : (x == ("__debug__" : Str)) = false := by decide) : DE X c W (.Call (.Name x p) args kws pos) (mMkx cl fsn n ks.length gD ms) := by
  obtain ⟨fI, fd, ps, iC, tI, F1, hb⟩ := XT.fn
  refine ⟨⟨fun pins s σ H Q I ⟨F0, γ, j, gd, en, h⟩ => ?_⟩⟩
  obtain ⟨nm, q, N, bs, bm, sn, sub, ab, col, dd, k0, k1, k2, k3, k5, hC, hbm⟩ := XT.oex.cls
  refine wpAny_Call_Name_kw (ld_glob I hg hm ?_ hdb)
  refine ha.run pos (.ref (c.cA cl)) [] pins s σ H γ F0 j _ _ _ XT.oex.kC I gd en h fun j' ds F' H1 s1 us ws vs I1 e' g' en' r hl rd h' => ?_
  split at h'
  · rename_i hq
    obtain ⟨q1, q2, q3⟩ := hq
    have hul : us.length = n := by
      have := r.length
      rw [rd.length, q1, List.length_append] at this
      omega
    obtain ⟨r1, r2⟩ := Vals.unappend r
    rw [hul] at r1 r2
    show wpAny _ _ (call (.ref (c.cA cl)) us (ks.zip ws)) _ _ _
    obtain ⟨hp, g, dr, tk0, os⟩ := s1
    have hsz : hp.objs.size ≤ hp.objs.size + 1 := Nat.le_succ _
    have hn : H1 (hp.objs.size + 1) = none := I1.hok.fresh hsz
    have kk : ∀ b o, hp.get? b = some o → ((hp.push (PySem.W.kdv_tup us)).push (PySem.HandSPX.excO (c.cA cl) hp.objs.size)).get? b = some o := fun b o e => Heap.get?_push_of_some _ (Heap.get?_push_of_some _ e)
    have hget : ((hp.push (PySem.W.kdv_tup us)).push (PySem.HandSPX.excO (c.cA cl) hp.objs.size)).get? (hp.objs.size + 1) = some (PySem.HandSPX.excO (c.cA cl) hp.objs.size) := by heap_get
    have I2 : Inv X pins σ (upd H1 (hp.objs.size + 1) (exo (hp.objs.size + 1) (c.cA cl) none)) ⟨(hp.push (PySem.W.kdv_tup us)).push (PySem.HandSPX.excO (c.cA cl) hp.objs.size), g, dr, tk0, os⟩ :=
      I1.laid (t' := tk0) (a := hp.objs.size + 1) (o := exo (hp.objs.size + 1) (c.cA cl) none) (h' := (hp.push (PySem.W.kdv_tup us)).push (PySem.HandSPX.excO (c.cA cl) hp.objs.size)) kk hsz (exo_ok hget)
    have rV := hb.relV r1 r2
    have rD := hb.relD (c := c) (F := F') (rd.take n) (rd.drop n)
    have hlen : (gD (vs.take n) (vs.drop n)).length = fsn.length := by rw [rD.length]; exact q2
    have r3 : Vals (V.ref (hp.objs.size + 1) :: gD (vs.take n) (vs.drop n)) (Value.ref (hp.objs.size + 1) :: gD us ws) := .cons rfl rV
    have hus : us.length ≤ sizeLine := by
      rw [hul, sizeLine_eq]
      omega
    have hsp : spO (c.cA cl) fsn (V.ref (hp.objs.size + 1) :: gD (vs.take n) (vs.drop n)) (upd H1 (hp.objs.size + 1) (exo (hp.objs.size + 1) (c.cA cl) none))
        (fun v H2 => v = .non ∧ ∃ (d : Addr), H2 (hp.objs.size + 1) = some (exo (hp.objs.size + 1) (c.cA cl) (some d)) ∧ H2 d = some (exd d (fsn.zip (gD (vs.take n) (vs.drop n))).reverse) ∧ H1 d = none ∧ d ≠ hp.objs.size + 1 ∧ ∀ b, b ≠ hp.objs.size + 1 → b ≠ d → H2 b = H1 b) (fun _ _ _ => False) :=
      ⟨_, _, rfl, hlen, upd_same, fun dx H' hdn hne hsame ha' hd' => ⟨rfl, dx, ha', hd', by rw [upd_ne hne] at hdn; exact hdn, hne, fun b nb nd => by rw [hsame b nb nd, upd_ne nb]⟩⟩
    refine wpAny_call (PySem.HandSPX.call_ownK F.excBase_ValueError (fun Y => PySem.HandSPX.refsVE_contains Y bm hbm) (I1.kIn _ _ hC) (PySem.W.looks_findIn I1.kIn iC) (fun self => PySem.W.bind_fn I1.kIn self tI) hus
      (codeAny_mono (F1.run _ X.stack _ _ ⟨Value.ref (hp.objs.size + 1) :: us, ks.zip ws⟩ (Value.ref (hp.objs.size + 1) :: gD us ws) _ _ (fun _ _ _ => False) (hr.toRoom.make (c.cA cl) us (ks.zip ws)) (I2.env0.make (c.cA cl) us (ks.zip ws)) (hb.to _ _ us ws I2.kIn hul hl) r3 hsp) fun r s' hq' => ?_))
    cases r with
    | error er => exact tk er s' (XE.of_call I2 (fun _ _ _ z => z.elim) hq')
    | ok fl =>
      cases fl with
      | ret u =>
        obtain ⟨v, H2, os2, bare2, un2, hok2, rv, ev, d, ea, ed, hd1, hne, hsame⟩ := hq'
        subst ev
        obtain ⟨h2, g2, d2, t2, os'⟩ := s'
        obtain ⟨t0, G, J, kG, ge, hoe, na⟩ := mk_end0 (d2 := d2) (t2 := t2) I1 hsz kk un2 hok2 os2 bare2 ea ed hd1
        have eH : upd (del H2 (hp.objs.size + 1)) d (.xd (fsn.zip (gD (vs.take n) (vs.drop n))).reverse) = upd H1 d (.xd (fsn.zip (gD (vs.take n) (vs.drop n))).reverse) := by
          funext b
          by_cases hbd : b = d
          · rw [hbd, upd_same, upd_same]
          · rw [upd_ne hbd, upd_ne hbd]
            by_cases hba : b = hp.objs.size + 1
            · rw [hba, hn]; exact del_same
            · rw [del_ne hba]; exact hsame b hba hbd
        rw [eH] at J na
        have I3 := J.laidN (t' := t2) (o := exv (hp.objs.size + 1) (c.cA cl) (some d)) kG ge na (exv_ok hoe ⟨rfl, rfl⟩ rfl)
        have gA := g'.lay (o := .xd (fsn.zip (gD (vs.take n) (vs.drop n))).reverse) hd1
        have gB := gA.1.lay (o := exv (hp.objs.size + 1) (c.cA cl) (some d)) na
        have exA := gA.2.trans gB.2
        have hFd : upd (upd F' d (.xd (fsn.zip (gD (vs.take n) (vs.drop n))).reverse)) (hp.objs.size + 1) (exv (hp.objs.size + 1) (c.cA cl) (some d)) d = some (.xd (fsn.zip (gD (vs.take n) (vs.drop n))).reverse) := by rw [upd_ne hne, upd_same]
        refine ⟨rv, V.ref (hp.objs.size + 1), _, I3, rfl, h' _ _ _ (e'.trans exA) gB.1 (show Dat _ _ _ _ _ from .exn (d := d) upd_same hFd ?_)⟩
        exact (DatF.zip (rD.mono exA.up)).rev
      | next => exact False.elim hq'
      | brk => exact False.elim hq'
      | cont => exact False.elim hq'
  · exact h'.elim
end
end DL
set_option maxHeartbeats 2000000
namespace DL
open PySem PySem.Spec PyProof.Rows L2 He
section
variable {P : Program} {w : World} {K : PySem.W.Frag} {mg : Str → Option Value} {base : Heap}
/-- an exception class with its __init__ -/
structure XFn (P : Program) (w : World) (K : PySem.W.Frag) (mg : Str → Option Value) (base : Heap) (C : Addr) (d : XDef) (ps fsn : List Str) : Prop where
  oex : OexC K C
  fn : ∃ fI fd, PySem.W.findIn K (.ref C) "__init__" = some (some (.ref fI)) ∧ PySem.W.typeIn K (.ref fI) = some (.type "function") ∧ L2.FnOk P w K mg base (CX P w) 1 fI fd ps (spO C fsn) ∧
    ∃ (name : Str) (kV doc pm : Value) (an : Option Addr) (cda cc : Addr) (ct : Value), fd = PySem.W.ksFn name d.qual d.params d.body d.scope .none kV doc pm an (.ref cda) ct cc
theorem XFn.cls {C : Addr} {d : XDef} {ps fsn : List Str} (X : XFn P w K mg base C d ps fsn)
    (hbd : ∀ (name : Str) (kV doc pm : Value) (an : Option Addr) (cda cc : Addr) (ct : Value) (us : List Value), us.length = ps.length → bindArgs (PySem.W.ksFn name d.qual d.params d.body d.scope .none kV doc pm an (.ref cda) ct cc) ⟨us, []⟩ = pure (ps.zip us)) : XCls P w K mg base C fsn 1 := by
  obtain ⟨fI, fd, e1, e2, F, name, kV, doc, pm, an, cda, cc, ct, hfd⟩ := X.fn
  exact ⟨X.oex, fI, fd, ps, e1, e2, F, .all fun us hl => by rw [hfd]; exact hbd name kV doc pm an cda cc ct us hl⟩
theorem XFn.clsK {C : Addr} {d : XDef} {ps fsn : List Str} (X : XFn P w K mg base C d ps fsn) (n : Nat) (ks : List Str) (gD : {α : Type} → List α → List α → List α)
    (hbd : ∀ (name : Str) (kV doc pm : Value) (an : Option Addr) (cda cc : Addr) (ct u : Value) (us ws : List Value), us.length = n → ws.length = ks.length → bindArgs (PySem.W.ksFn name d.qual d.params d.body d.scope .none kV doc pm an (.ref cda) ct cc) ⟨u :: us, ks.zip ws⟩ = pure (ps.zip (u :: gD us ws)))
    (relV : ∀ {vs zs : List V} {us ws : List Value}, Vals vs us → Vals zs ws → Vals (gD vs zs) (gD us ws)) (relD : ∀ {c : Ct} {F : Hp} {vs zs : List V} {ds es : List D}, Dats c K F vs ds → Dats c K F zs es → Dats c K F (gD vs zs) (gD ds es)) : XClsK P w K mg base C fsn 1 n ks gD := by
  obtain ⟨fI, fd, e1, e2, F, name, kV, doc, pm, an, cda, cc, ct, hfd⟩ := X.fn
  exact ⟨X.oex, fI, fd, ps, e1, e2, F, ⟨fun s u us ws _ h1 h2 => .of_eq (by rw [hfd]; exact hbd name kV doc pm an cda cc ct u us ws h1 h2), relV, relD⟩⟩
theorem xfn1 {d : XDef} {x y fl : Str} {ar : Arg} {p0 p1 p2 p3 p4 q1 q2 q3 q4 q5 : Pos} {pl : Sem Bool} (htop : (P.main.scope.names.lookup ("super" : Str)).isSome = false) (e : fnZ K d.cls = d.val) (h : xcB P.main.file K d.cls d.qual = true)
    (hb : d.body = [supS [.Name y q1] p0 p1 p2 p3 p4, .Assign [.Attribute (.Name x q2) fl q3] (.Name y q4) q5]) (S : SupScope [x, y] d.scope) (hp : (d.params.posonlyargs ++ d.params.args).head? = some ar) (har : ar.arg = x) (hm : mg ("super" : Str) = none)
    (Y : ∀ f cda cc L, SupSyn (PySem.W.ksEnv d.qual d.scope L f (.ref cda) cc) (.Name y q1) [] p0 p1 p2 p3 p4 pl) (hno : PySem.W.findIn K (.ref (ga K d.cls)) fl = some none)
    (hs : ∀ f cda cc L, swapsWith (.Name y q4) (some (.Attribute (.Name x q2) fl q3)) q5.line (PySem.W.ksEnv d.qual d.scope L f (.ref cda) cc) = pure false) (hx1 : (x == ("__debug__" : Str)) = false) (hx2 : (x == ("__classdict__" : Str)) = false) (hy1 : (y == ("__debug__" : Str)) = false) (hy2 : (y == ("__classdict__" : Str)) = false) :
    XFn P w K mg base (ga K d.cls) d [x, y] [fl] := by
  obtain ⟨fd, cda, cc, T, ⟨name, kV, doc, pm, an, ct, hfd⟩, e1, e2⟩ := xcB_ok htop e h
  refine ⟨T.oex, _, fd, e1, e2, ?_, name, kV, doc, pm, an, cda, cc, ct, hfd⟩
  rw [hb] at T
  exact fn_x1 T S hp har hm (Y _ cda cc) hno (hs _ cda cc) hx1 hx2 hy1 hy2
theorem xfn2 {d : XDef} {x y z fl gl : Str} {ar : Arg} {p0 p1 p2 p3 p4 q0 q1 q2 q3 q4 q5 r2 r3 r4 r5 : Pos} {pl : Sem Bool} (htop : (P.main.scope.names.lookup ("super" : Str)).isSome = false) (e : fnZ K d.cls = d.val) (h : xcB P.main.file K d.cls d.qual = true)
    (hb : d.body = [supS [.Name y q0, .Name z q1] p0 p1 p2 p3 p4, .Assign [.Attribute (.Name x q2) fl q3] (.Name y q4) q5, .Assign [.Attribute (.Name x r2) gl r3] (.Name z r4) r5]) (S : SupScope [x, y, z] d.scope) (hp : (d.params.posonlyargs ++ d.params.args).head? = some ar) (har : ar.arg = x) (hm : mg ("super" : Str) = none)
    (Y : ∀ f cda cc L, SupSyn (PySem.W.ksEnv d.qual d.scope L f (.ref cda) cc) (.Name y q0) [.Name z q1] p0 p1 p2 p3 p4 pl) (he2 : ∀ env, starEach [.Name z q1] env = (false, eval (.Name z q1) env) :: starEach [] env) (hno : PySem.W.findIn K (.ref (ga K d.cls)) fl = some none) (hno2 : PySem.W.findIn K (.ref (ga K d.cls)) gl = some none)
    (hs : ∀ f cda cc L, swapsWith (.Name y q4) (some (.Attribute (.Name x q2) fl q3)) q5.line (PySem.W.ksEnv d.qual d.scope L f (.ref cda) cc) = pure false) (hs2 : ∀ f cda cc L, swapsWith (.Name z r4) (some (.Attribute (.Name x r2) gl r3)) r5.line (PySem.W.ksEnv d.qual d.scope L f (.ref cda) cc) = pure false)
    (hx1 : (x == ("__debug__" : Str)) = false) (hx2 : (x == ("__classdict__" : Str)) = false) (hy1 : (y == ("__debug__" : Str)) = false) (hy2 : (y == ("__classdict__" : Str)) = false) (hz1 : (z == ("__debug__" : Str)) = false) (hz2 : (z == ("__classdict__" : Str)) = false) :
    XFn P w K mg base (ga K d.cls) d [x, y, z] [fl, gl] := by
  obtain ⟨fd, cda, cc, T, ⟨name, kV, doc, pm, an, ct, hfd⟩, e1, e2⟩ := xcB_ok htop e h
  refine ⟨T.oex, _, fd, e1, e2, ?_, name, kV, doc, pm, an, cda, cc, ct, hfd⟩
  rw [hb] at T
  exact fn_x2 T S hp har hm (Y _ cda cc) he2 hno hno2 (hs _ cda cc) (hs2 _ cda cc) hx1 hx2 hy1 hy2 hz1 hz2
end
def mExn0 (cl : Nat) : Gm → T RV := fun _ => okV (.exn cl [])
section
variable {X : Cx} {c : Ct} {W : WX} {pos p : Pos} {x : Str}
theorem de_exn0 {cl : Nat} (q : PySem.W.excIn X.K (c.cA cl) He.veBase "ValueError.__new__" = true) (kC : PySem.W.keepIn X.K (.ref (c.cA cl)) = true) (gC : X.mg x = some (.ref (c.cA cl))) (hg : Gl X x := by rfl) (hdb : (x == ("__debug__" : Str)) = false := by decide) :
    DE X c W (.Call (.Name x p) [] [] pos) (mExn0 cl) := by
  refine ⟨⟨fun pins s σ H Q I ⟨F0, γ, j, gd, en, h⟩ => ?_⟩⟩
  refine wpAny_Call_Name_kw (ld_glob I hg gC ?_ hdb)
  refine PySem.W.callWith_K0 I.kIn kC ?_
  obtain ⟨bm, N, nm, qn, bs, hdct, sn, sub, ab, col, dd, k0, k1, k2, k3, k5, mN, hC, hN, hni, T⟩ := exc_obj I.kIn q
  show wpAny _ _ (call (.ref (c.cA cl)) []) _ _ _
  refine wpAny_call_exc_subT PySem.F.excBase_ValueError T hC hN hni (fun h' a hm => ?_) (by show 0 ≤ sizeLine; omega)
  have hn : H a = none := I.hok.gone hm.new
  obtain ⟨t, ht, _, _⟩ := hm.there
  have gB := gd.lay (o := exv a (c.cA cl) none) hn
  exact ⟨.ref a, _, I.laidN hm.keeps hm.new hn (exv_ok ht ⟨rfl, rfl⟩ rfl), rfl, h _ _ _ gB.2 gB.1 (show Dat _ _ _ _ _ from .exn0 upd_same)⟩
/-! ### fields of exceptions and of instances alike -/
def gFldA (cs xs : List Nat) (f : Str) (x : RV) : T RV := match x with
  | .val (.exn n gs) => gXf xs f (.val (.exn n gs))
  | x => gFld cs f x
end
end DL
/-! DY7: dicts written out; repr of data with dicts. -/
namespace DL
open PySem PySem.Spec L2
open PyProof.Rows
def keyD : Key → PyData
  | .inl i => .int i
  | .inr x => .str x
mutual
def D.pyR : D → Option PyData
  | .non => some .none
  | .bl b => some (.bool b)
  | .int i => some (.int i)
  | .str x => some (.str x)
  | .tup xs => (D.pyRs xs).map .tuple
  | .lst xs => (D.pyRs xs).map .list
  | .dct kvs => (D.pyRk kvs).map .dict
  | _ => none
def D.pyRs : List D → Option (List PyData)
  | [] => some []
  | x :: xs => match D.pyR x, D.pyRs xs with
    | some p, some ps => some (p :: ps)
    | _, _ => none
def D.pyRk : List (Key × D) → Option (List (PyData × PyData))
  | [] => some []
  | (k, x) :: xs => match D.pyR x, D.pyRk xs with
    | some p, some ps => some ((keyD k, p) :: ps)
    | _, _ => none
end
/-- sys.modules is a dict of the written part -/
def SmOk (K : PySem.W.Frag) : Prop := ∃ o es n, K.lookup sysModules = some o ∧ o.data = .dict es n
theorem sm_okH {K : PySem.W.Frag} {file : Str} (e : (Fb.sm).ok file K = true) : SmOk K := by
  unfold Fb.ok at e
  dsimp only at e
  split at e
  · rename_i q
    exact ⟨_, _, _, q, rfl⟩
  · cases e
section
variable {X : Cx} {c : Ct} {W : WX} {F H : Hp} {pins : List (Addr × Obj)} {σ : L2.St} {s : Shared}
theorem key_reads {h : Heap} {k : Key} {v : Value} (e : keyIs k v = true) : Reads h v (keyD k) [] := by
  rcases keyIs_shape e with ⟨i, t, rfl, rfl⟩ | ⟨x, t, rfl, rfl⟩
  · exact .int i t
  · exact .str x t
theorem ne_sm (I : Inv X pins σ H s) (hsm : SmOk X.K) {a : Addr} {o : Obj} {vs : Array Value} {n : Nat} (e : s.heap.get? a = some o) (d : o.data = .seq vs n) : a ≠ sysModules := fun z => by
  obtain ⟨o', es, m, h1, h2⟩ := hsm
  have := I.kIn _ _ h1
  rw [← z, e] at this
  cases this
  rw [d] at h2
  cases h2
mutual
theorem Dat.readsR (I : Inv X pins σ H s) (sub : ∀ a o, F a = some o → H a = some o) (hsm : SmOk X.K) : ∀ {v : V} {d : D} {q : PyData} {u : Value}, Dat c X.K F v d → d.pyR = some q → RelV v u → ∃ as, Reads s.heap u q as ∧ sysModules ∉ as
  | _, _, _, _, .non, e, r => by cases e; cases r; exact ⟨[], .none, by simp⟩
  | _, _, _, _, .bl b, e, r => by cases e; cases r; exact ⟨[], .bool b, by simp⟩
  | _, _, _, _, .int i, e, r => by cases e; obtain ⟨t, rfl⟩ := r; exact ⟨[], .int i t, by simp⟩
  | _, _, _, _, .str x, e, r => by cases e; obtain ⟨t, rfl⟩ := r; exact ⟨[], .str x t, by simp⟩
  | _, .tup ds, _, _, .tup h r, e, ru => by
    simp only [D.pyR, Option.map_eq_some_iff] at e
    obtain ⟨ps, e1, rfl⟩ := e
    cases ru
    obtain ⟨its, rv, ⟨o, ho, hc, n, hd⟩, _⟩ := I.tuple (SqT.mono h sub)
    obtain ⟨as, h1, h2⟩ := Dats.readsR I sub hsm r e1 rv
    exact ⟨as, .tuple ho hc hd (by simpa using h1), h2⟩
  | _, .lst ds, _, _, .lst h r, e, ru => by
    simp only [D.pyR, Option.map_eq_some_iff] at e
    obtain ⟨ps, e1, rfl⟩ := e
    cases ru
    obtain ⟨its, rv, ⟨o, n, ho, hc, hd, hdt⟩, _⟩ := I.list (SqL.of (sub _ _ h))
    obtain ⟨as, h1, h2⟩ := Dats.readsR I sub hsm r e1 rv
    refine ⟨_ :: as, .list ho hc hdt (by simpa using h1), fun z => ?_⟩
    rcases List.mem_cons.mp z with z | z
    · exact ne_sm I hsm ho hdt z.symm
    · exact h2 z
  | _, _, _, _, .ins h r, e, _ => by simp [D.pyR] at e
  | _, _, _, _, .exn h h2 r, e, _ => by simp [D.pyR] at e
  | _, _, _, _, .exn0 h, e, _ => by simp [D.pyR] at e
  | _, .dct kvs, _, _, .dct h r, e, ru => by
    simp only [D.pyR, Option.map_eq_some_iff] at e
    obtain ⟨ps, e1, rfl⟩ := e
    cases ru
    have hx : ObjOk X.prog X.w H s.heap _ (.dK _) := I.hok _ _ (sub _ _ h)
    obtain ⟨_, hne, vs, kv, o, es, ep, ho, hex, hdt, hko, hp, hnd⟩ := hx
    obtain ⟨as, bs, h1, h2, h3, h4⟩ := DatK.readsR I sub hsm r e1 kv hp
    refine ⟨_ :: as ++ bs, .dict ho hex.1 hdt h1 h2, fun z => ?_⟩
    rcases List.mem_append.mp z with z | z
    · rcases List.mem_cons.mp z with z | z
      · rw [← z] at hne; simp at hne
      · exact h3 z
    · exact h4 z
  | _, _, _, _, .cls n, e, _ => by simp [D.pyR] at e
  | _, _, _, _, .ty n, e, _ => by simp [D.pyR] at e
  | _, _, _, _, .pen, e, _ => by simp [D.pyR] at e
  | _, _, _, _, .adr a, e, _ => by simp [D.pyR] at e
theorem Dats.readsR (I : Inv X pins σ H s) (sub : ∀ a o, F a = some o → H a = some o) (hsm : SmOk X.K) : ∀ {vs : List V} {ds : List D} {qs : List PyData} {us : List Value}, Dats c X.K F vs ds → D.pyRs ds = some qs → Vals vs us → ∃ as, ReadsAll s.heap us qs as ∧ sysModules ∉ as
  | _, _, _, _, .nil, e, r => by
    simp only [D.pyRs] at e
    cases e; cases r
    exact ⟨[], .nil, by simp⟩
  | _, _, _, _, .cons h t, e, r => by
    simp only [D.pyRs] at e
    split at e
    · rename_i p ps e1 e2
      cases e
      cases r with
      | cons r1 r2 =>
        obtain ⟨as, h1, h2⟩ := Dat.readsR I sub hsm h e1 r1
        obtain ⟨bs, h3, h4⟩ := Dats.readsR I sub hsm t e2 r2
        exact ⟨as ++ bs, .cons h1 h3, fun z => (List.mem_append.mp z).elim h2 h4⟩
    · cases e
theorem DatK.readsR (I : Inv X pins σ H s) (sub : ∀ a o, F a = some o → H a = some o) (hsm : SmOk X.K) : ∀ {kvs : List (Key × V)} {ds : List (Key × D)} {qs : List (PyData × PyData)} {vs : List (Key × Value)} {es : List DictEntry}, DatK c X.K F kvs ds → D.pyRk ds = some qs → KV kvs vs → Pairs (mixKind X.prog X.w) es vs →
    ∃ as bs, ReadsAll s.heap (es.map (·.key)) (qs.map (·.1)) as ∧ ReadsAll s.heap (es.map (·.val)) (qs.map (·.2)) bs ∧ sysModules ∉ as ∧ sysModules ∉ bs
  | _, _, _, _, _, .nil, e, r, p => by
    simp only [D.pyRk] at e
    cases e; cases r; cases p
    exact ⟨[], [], .nil, .nil, by simp, by simp⟩
  | _, _, _, _, _, .cons (f := k) h t, e, r, p => by
    simp only [D.pyRk] at e
    split at e
    · rename_i q qs e1 e2
      cases e
      cases r with
      | cons r1 r2 =>
        cases p with
        | cons p1 p2 p3 =>
          obtain ⟨ek, rv⟩ := r1
          obtain ⟨as, h1, h2⟩ := Dat.readsR I sub hsm h e1 rv
          obtain ⟨bs, cs, h3, h4, h5, h6⟩ := DatK.readsR I sub hsm t e2 r2 p3
          have ek : k = _ := ek
          rw [← ek] at p1
          have hk := key_reads (h := s.heap) (show keyIs k _ = true from p1)
          rw [← p2] at h1
          exact ⟨[] ++ bs, as ++ cs, .cons hk h3, .cons h1 h4, by simpa using h5, fun z => (List.mem_append.mp z).elim h2 h6⟩
    · cases e
end
/-- repr of data, dicts among them -/
def D.showsR (d : D) : Option Str := match d.pyR with
  | some q => if q.showable && (decide (q.shown.length ≤ 1000000) && decide (q.depth ≤ 60)) then some q.shown else none
  | none => none
def gReprR (x : RV) : T RV := match x with
  | .val d => (match d.showsR with
    | some z => okV (.str z)
    | none => .stuck)
  | x => gRepr x
def rReprR (c : Ct) (K : PySem.W.Frag) : List V → Hp → VK → Prop := fun xs H Q => (∃ v F d q, xs = [v] ∧ (∀ a o, F a = some o → H a = some o) ∧ Dat c K F v d ∧ d.pyR = some q ∧ q.showable = true ∧ q.shown.length ≤ sizeLine ∧ q.depth ≤ 60 ∧ Q (.str q.shown) H) ∨
  ∃ v q, xs = [v] ∧ Dp K H v q ∧ q.showable = true ∧ q.hasDict = false ∧ q.shown.length ≤ sizeLine ∧ q.depth ≤ 60 ∧ Q (.str q.shown) H
theorem call_reprR {k : Nat} (hsm : SmOk X.K) (hr : Room k X.A) : CallR X (.builtin "repr") (rReprR c X.K) := by
  intro pins s σ H xs us Q I r h
  rcases h with ⟨v, F, d, q, ev, sub, hd, e, h1, h3, h4, hq⟩ | h
  · subst ev
    obtain ⟨u, eu, ru⟩ := vals1 r
    subst eu
    have hun := hr.toRoom.un
    obtain ⟨as, rd, nsm⟩ := Dat.readsR I sub hsm hd e ru
    cases hd with
    | non => cases e; cases ru; exact PySem.P.repr_of_none ⟨.str _, H, I.tok _, ⟨_, rfl⟩, hq⟩
    | bl b => cases e; cases ru; exact PySem.P.repr_of_bool ⟨.str _, H, I.tok _, ⟨_, rfl⟩, hq⟩
    | int i => cases e; obtain ⟨t, rfl⟩ := ru; exact PySem.P.repr_of_int (by simpa [PyData.showable] using h1) ⟨.str _, H, I.tok _, ⟨_, rfl⟩, hq⟩
    | str x => cases e; obtain ⟨t, rfl⟩ := ru; exact PySem.P.repr_of_str ⟨.str _, H, I.tok _, ⟨_, rfl⟩, hq⟩ h3
    | tup _ _ => cases ru; exact PySem.repr_of_reads' rd h1 (fun _ => nsm) hr.gd (by omega) (fun _ _ z => z) (fun h' u tk hk => ⟨.str _, H, I.kept (t' := tk) hk, ⟨_, rfl⟩, hq⟩) h3
    | lst _ _ => cases ru; exact PySem.repr_of_reads' rd h1 (fun _ => nsm) hr.gd (by omega) (fun _ _ z => z) (fun h' u tk hk => ⟨.str _, H, I.kept (t' := tk) hk, ⟨_, rfl⟩, hq⟩) h3
    | dct _ _ => cases ru; exact PySem.repr_of_reads' rd h1 (fun _ => nsm) hr.gd (by omega) (fun _ _ z => z) (fun h' u tk hk => ⟨.str _, H, I.kept (t' := tk) hk, ⟨_, rfl⟩, hq⟩) h3
    | _ => simp [D.pyR] at e
  · exact call_reprD hr pins s σ H xs us Q I r h
theorem bi_reprR : Bi X c W (rReprR c X.K) gReprR := by
  intro σ H v Q F j d gd r h
  unfold gReprR at h
  split at h
  · rename_i d
    split at h
    · rename_i z e
      unfold D.showsR at e
      split at e
      · rename_i q eq
        split at e
        · rename_i hq
          cases e
          obtain ⟨h1, hq⟩ := Bool.and_eq_true_iff.mp hq
          obtain ⟨h3, h4⟩ := Bool.and_eq_true_iff.mp hq
          exact .inl ⟨v, F, d, q, rfl, gd.sub, r, eq, h1, line_of (of_decide_eq_true h3), of_decide_eq_true h4, h.val gd (.str _)⟩
        · cases e
      · cases e
    · exact h.elim
  · exact .inr (bi_repr σ H v Q F j _ gd r h)
/-! ### {k: v}, k and v written -/
def mDct1 (k : Key) (d : D) : Gm → T RV := fun _ => okV (.dct [(k, d)])
theorem upd2 {H : Hp} {p : Addr} {a b : HO} : upd (upd H p a) p b = upd H p b := by
  funext x
  by_cases e : x = p
  · rw [e, upd_same, upd_same]
  · rw [upd_ne e, upd_ne e, upd_ne e]
theorem de_dct1 {ke ve : Expr} {pos : Pos} {k : Key} {vv : V} {vd : D} (hk : PE X ke (tC (kV k))) (hv : PE X ve (tC vv)) (hd : ∀ F, Dat c X.K F vv vd) : DE X c W (.Dict [some ke] [ve] pos) (mDct1 k vd) := by
  refine ⟨(pe_disp (pps_cons hk hv pps_nil) rfl rfl (by simp) (by simp)).imp fun σ H Q ⟨F, γ, j, g, en, h⟩ => ?_⟩
  intro p hp
  refine ⟨upd_same, [(k, vv)], rfl, by simp, ?_⟩
  rw [upd2]
  have e : mergeK [] [(k, vv)] = [(k, vv)] := by
    unfold mergeK putK
    rfl
  rw [e]
  obtain ⟨g2, e2⟩ := g.lay (o := .dK [(k, vv)]) hp
  exact h _ _ _ e2 g2 (show Dat _ _ _ _ _ from .dct upd_same (.cons (hd _) .nil))
end
end DL
namespace DL
open PySem PySem.Spec L2
open PyProof.Rows
section
variable {X : Cx} {c : Ct} {W : WX}
def gIsA (x y : RV) : T RV := match x, y with
  | .val (.bl a), .val (.bl b) => okV (.bl (decide (a = b)))
  | x, y => gIs x y
def gIsNotA (x y : RV) : T RV := match x, y with
  | .val (.bl a), .val (.bl b) => okV (.bl (!decide (a = b)))
  | x, y => gIsNot x y
theorem o_isA : OpD X c W (compareOp .Is) gIsA := by
  intro pins s σ H x y v u Q F j dx dy I rx ry gd r1 r2 q
  unfold gIsA at q
  split at q
  · rename_i a b
    cases r1; cases r2
    exact op_isBl pins s σ H _ _ v u Q I rx ry ⟨a, b, rfl, rfl, q.val gd (.bl _)⟩
  · exact o_is pins s σ H _ _ v u Q F j _ _ I rx ry gd r1 r2 q
theorem o_isnotA : OpD X c W (compareOp .IsNot) gIsNotA := by
  intro pins s σ H x y v u Q F j dx dy I rx ry gd r1 r2 q
  unfold gIsNotA at q
  split at q
  · rename_i a b
    cases r1; cases r2
    exact op_notBl pins s σ H _ _ v u Q I rx ry ⟨a, b, rfl, rfl, q.val gd (.bl _)⟩
  · exact o_isnot pins s σ H _ _ v u Q F j _ _ I rx ry gd r1 r2 q
def gMulS (x y : RV) : T RV := match x, y with
  | .val (.str z), .val (.int n) => if decide (1 ≤ n) && (decide (n ≤ 1000) && decide (z.length ≤ 1000)) then okV (.str (Txt.mul z n)) else .stuck
  | x, y => gMul x y
theorem o_mulS : OpD X c W (binaryOp .Mult) gMulS := by
  intro pins s σ H x y v u Q F j dx dy I rx ry gd r1 r2 q
  unfold gMulS at q
  split at q
  · rename_i z n
    split at q
    · rename_i hc
      obtain ⟨h1, hc⟩ := Bool.and_eq_true_iff.mp hc
      obtain ⟨h2, h3⟩ := Bool.and_eq_true_iff.mp hc
      have h1 := of_decide_eq_true h1
      have h2 := of_decide_eq_true h2
      have h3 := of_decide_eq_true h3
      cases r1; cases r2
      obtain ⟨t, rfl⟩ := rx
      obtain ⟨t2, rfl⟩ := ry
      refine SB.mul ⟨?_, fun _ _ => ?_, fun _ _ => ?_⟩ fun t' k => ⟨.str _, H, I.tok _, ⟨t', rfl⟩, q.val gd (.str _)⟩
      · have a1 : ¬ n < -(2 ^ 63 : Int) := by omega
        have a2 : ¬ n ≥ 2 ^ 63 := by omega
        rw [decide_eq_false a1, decide_eq_false a2]; rfl
      · have hz : (z.length : Int) ≤ 1000 := by omega
        have : (1000 : Int) ≤ (2 ^ 63 - 1) / n := by
          apply Int.le_ediv_of_mul_le (by omega)
          have : 1000 * n ≤ 1000 * 1000 := by omega
          omega
        omega
      · have hm : z.length * n.toNat ≤ 1000 * 1000 := Nat.mul_le_mul h3 (by omega)
        unfold Builtin.Str.tooLong
        have := line_of (n := z.length * n.toNat) (by omega)
        simp
        omega
    · exact q.elim
  · exact o_mul pins s σ H _ _ v u Q F j _ _ I rx ry gd r1 r2 q
end
section
variable {X : Cx} {c : Ct} {W : WX} {a b : Expr} {ma mb mc : Gm → T RV} {pos : Pos}
def mChainT (g g' : RV → RV → T RV) (ma mb mc : Gm → T RV) : Gm → T Bool := fun γ => (ma γ).bind fun x => (mb γ).bind fun y => (g x y).bind fun z => (asB z).bind fun k => if k = true then (mc γ).bind fun w => (g' y w).bind asB else .ok false
theorem dt_chain {d : Expr} {op op' : CmpOp} {g g' : RV → RV → T RV} (ho : OpD X c W (compareOp op) g) (ho' : OpD X c W (compareOp op') g') (ha : DE X c W a ma) (hb : DE X c W b mb) (hc : DE X c W d mc)
    (hm : lastMarks [op, op'] [b, d] = false := by with_unfolding_all rfl) : DT X c W (.Compare a [op, op'] [b, d] pos) (mChainT g g' ma mb mc) := by
  refine ⟨⟨fun pins s σ H Q I ⟨F, γ, j, gd, en, h⟩ => ?_⟩⟩
  have hh := tE.seq (Q := fun x H1 => ∃ F1 j1 dx, Ext c F H F1 H1 ∧ Good c F1 H1 j1 ∧ EnvOk c X.K F1 H1 σ γ ∧ RDat c X.K F1 H1 x dx ∧ ((mb γ).bind fun y => (g dx y).bind fun z => (asB z).bind fun k => if k = true then (mc γ).bind fun w => (g' y w).bind asB else .ok false).All j1 (pT c F H Q) (pX c X.K W F H σ)) gd en h
    fun j1 dx F1 H1 x e1 g1 en1 r1 h1 => ⟨F1, j1, dx, e1, g1, en1, r1, h1⟩
  refine isTrue_chain (thn (ha.pe.run pins s σ H _ I hh) fun v s1 ⟨x, H1, I1, r1, F1, j1, dx, e1, g1, en1, rd1, h1⟩ => ?_) hm
  have hh1 := tE.seq (Q := fun y H2 => ∃ F2 j2 dy, Ext c F1 H1 F2 H2 ∧ Good c F2 H2 j2 ∧ EnvOk c X.K F2 H2 σ γ ∧ RDat c X.K F2 H2 y dy ∧ ((g dx dy).bind fun z => (asB z).bind fun k => if k = true then (mc γ).bind fun w => (g' dy w).bind asB else .ok false).All j2 (pT c F H Q) (pX c X.K W F1 H1 σ)) g1 en1 (h1.imp (fun _ _ z => z) fun _ _ z => z.ext e1)
    fun j2 dy F2 H2 y e2 g2 en2 r2 h2 => ⟨F2, j2, dy, e2, g2, en2, r2, h2⟩
  refine test_link (thn (hb.pe.run pins s1 σ H1 _ I1 hh1) fun u s2 ⟨y, H2, I2, r2, F2, j2, dy, e2, g2, en2, rd2, h2⟩ => ?_)
  refine thn (ho pins s2 σ H2 x y v u (fun z H3 => ∃ F3 j3 k, z = .bl k ∧ Ext c F2 H2 F3 H3 ∧ Good c F3 H3 j3 ∧ EnvOk c X.K F3 H3 σ γ ∧ RDat c X.K F3 H3 y dy ∧ (if k = true then (mc γ).bind fun w => (g' dy w).bind asB else .ok false).All j3 (pT c F H Q) (pX c X.K W F2 H2 σ)) F2 j2 dx dy I2 r1 r2 g2 (rd1.ext e2) rd2
    ((T.All.bind h2).imp (fun j3 z hz F3 H3 v3 e3 g3 r3 => ?_) fun _ _ z => z.ext e2)) fun dv s3 ⟨z, H3, I3, r3, F3, j3, k, ez, e3, g3, en3, rd3, h3⟩ => ?_
  · obtain ⟨k, e1, q⟩ := r3.asB (T.All.bind hz)
    exact ⟨F3, j3, k, e1, e3, g3, en2.ext e3, rd2.ext e3, q.imp (fun _ _ z => z) fun _ _ z => z.ext e2⟩
  · subst ez
    cases r3
    refine wpAny_truthy_bool ?_
    cases k with
    | false => exact ite_ff ⟨H3, I3, h3 F3 H3 (e1.trans (e2.trans e3)) g3⟩
    | true =>
      have hh3 := tE.seq (Q := fun w H4 => ∃ F4 j4 dw, Ext c F3 H3 F4 H4 ∧ Good c F4 H4 j4 ∧ RDat c X.K F4 H4 w dw ∧ ((g' dy dw).bind asB).All j4 (pT c F H Q) (pX c X.K W F3 H3 σ)) g3 en3 (show ((mc γ).bind fun w => (g' dy w).bind asB).All j3 (pT c F H Q) (pX c X.K W F3 H3 σ) from T.All.imp h3 (fun _ _ z => z) fun _ _ z => z.ext e3)
        fun j4 dw F4 H4 w e4 g4 en4 r4 h4 => ⟨F4, j4, dw, e4, g4, r4, h4⟩
      refine ite_tt (test_last (thn (hc.pe.run pins s3 σ H3 _ I3 hh3) fun w' s4 ⟨z', H4, I4, r4, F4, j4, dw, e4, g4, rd4, h4⟩ => ?_))
      refine thn (ho' pins s4 σ H4 y z' u w' (fun z H5 => ∃ k, z = .bl k ∧ Q k H5) F4 j4 dy dw I4 r2 r4 g4 (rd3.ext e4) rd4 ((T.All.bind h4).imp (fun j5 z hz F5 H5 v5 e5 g5 r5 => ?_) fun _ _ z => z.ext e4)) fun d' s5 ⟨z2, H5, I5, r5, k2, ek, q5⟩ => ?_
      · obtain ⟨k, e1', q⟩ := r5.asB hz
        exact ⟨k, e1', q F5 H5 (e1.trans (e2.trans (e3.trans (e4.trans e5)))) g5⟩
      · subst ek
        cases r5
        exact wpAny_truthy_bool ⟨H5, I5, q5⟩
end
end DL
set_option maxHeartbeats 0
namespace K00
open PySem PySem.Spec PyProof.Rows L2 DL
abbrev PG : Program := PySem.Challenge.pw_layerpost_k00_errors_and_kinds_of_values
def top (i : Nat) : Stmt := PG.main.body.getD i (.Pass ⟨0, 0, 0, 0⟩)
abbrev s_is_integer : Stmt := top 3
abbrev s_is_within : Stmt := top 4
abbrev s_is_name : Stmt := top 5
abbrev s_is_signs : Stmt := top 6
abbrev s_is_letter : Stmt := top 7
abbrev s__law_pick : Stmt := top 41
abbrev s__law_parts : Stmt := top 42
abbrev s__law_others : Stmt := top 43
abbrev s__law_classes : Stmt := top 44
abbrev s__law_is_error : Stmt := top 45
abbrev s__law_errors_right : Stmt := top 46
abbrev s__law_kinds_right : Stmt := top 47
abbrev s_law : Stmt := top 48
abbrev s__law_pen : Stmt := top 39
abbrev s_BadFrameu__initu_ : Stmt := (cBody (top 12)).getD 0 (.Pass ⟨0, 0, 0, 0⟩)
def xd_BadFrameu__initu_ : XDef := ⟨"BadFrame", "BadFrame.__init__", defArgs s_BadFrameu__initu_, defBody s_BadFrameu__initu_, defScope s_BadFrameu__initu_⟩
abbrev s_BadGrowthu__initu_ : Stmt := (cBody (top 10)).getD 0 (.Pass ⟨0, 0, 0, 0⟩)
def xd_BadGrowthu__initu_ : XDef := ⟨"BadGrowth", "BadGrowth.__init__", defArgs s_BadGrowthu__initu_, defBody s_BadGrowthu__initu_, defScope s_BadGrowthu__initu_⟩
abbrev s_BadPlanu__initu_ : Stmt := (cBody (top 14)).getD 0 (.Pass ⟨0, 0, 0, 0⟩)
def xd_BadPlanu__initu_ : XDef := ⟨"BadPlan", "BadPlan.__init__", defArgs s_BadPlanu__initu_, defBody s_BadPlanu__initu_, defScope s_BadPlanu__initu_⟩
abbrev s_BadCellu__initu_ : Stmt := (cBody (top 13)).getD 0 (.Pass ⟨0, 0, 0, 0⟩)
def xd_BadCellu__initu_ : XDef := ⟨"BadCell", "BadCell.__init__", defArgs s_BadCellu__initu_, defBody s_BadCellu__initu_, defScope s_BadCellu__initu_⟩
abbrev s_BadRoundu__initu_ : Stmt := (cBody (top 17)).getD 0 (.Pass ⟨0, 0, 0, 0⟩)
def xd_BadRoundu__initu_ : XDef := ⟨"BadRound", "BadRound.__init__", defArgs s_BadRoundu__initu_, defBody s_BadRoundu__initu_, defScope s_BadRoundu__initu_⟩
abbrev s_BadRuleu__initu_ : Stmt := (cBody (top 15)).getD 0 (.Pass ⟨0, 0, 0, 0⟩)
def xd_BadRuleu__initu_ : XDef := ⟨"BadRule", "BadRule.__init__", defArgs s_BadRuleu__initu_, defBody s_BadRuleu__initu_, defScope s_BadRuleu__initu_⟩
abbrev s_BadTableu__initu_ : Stmt := (cBody (top 19)).getD 0 (.Pass ⟨0, 0, 0, 0⟩)
def xd_BadTableu__initu_ : XDef := ⟨"BadTable", "BadTable.__init__", defArgs s_BadTableu__initu_, defBody s_BadTableu__initu_, defScope s_BadTableu__initu_⟩
abbrev s_BadNetu__initu_ : Stmt := (cBody (top 18)).getD 0 (.Pass ⟨0, 0, 0, 0⟩)
def xd_BadNetu__initu_ : XDef := ⟨"BadNet", "BadNet.__init__", defArgs s_BadNetu__initu_, defBody s_BadNetu__initu_, defScope s_BadNetu__initu_⟩
abbrev s_BadStacku__initu_ : Stmt := (cBody (top 21)).getD 0 (.Pass ⟨0, 0, 0, 0⟩)
def xd_BadStacku__initu_ : XDef := ⟨"BadStack", "BadStack.__init__", defArgs s_BadStacku__initu_, defBody s_BadStacku__initu_, defScope s_BadStacku__initu_⟩
abbrev s_BadPairu__initu_ : Stmt := (cBody (top 20)).getD 0 (.Pass ⟨0, 0, 0, 0⟩)
def xd_BadPairu__initu_ : XDef := ⟨"BadPair", "BadPair.__init__", defArgs s_BadPairu__initu_, defBody s_BadPairu__initu_, defScope s_BadPairu__initu_⟩
abbrev s_BadPlayu__initu_ : Stmt := (cBody (top 23)).getD 0 (.Pass ⟨0, 0, 0, 0⟩)
def xd_BadPlayu__initu_ : XDef := ⟨"BadPlay", "BadPlay.__init__", defArgs s_BadPlayu__initu_, defBody s_BadPlayu__initu_, defScope s_BadPlayu__initu_⟩
abbrev s_BadRunu__initu_ : Stmt := (cBody (top 22)).getD 0 (.Pass ⟨0, 0, 0, 0⟩)
def xd_BadRunu__initu_ : XDef := ⟨"BadRun", "BadRun.__init__", defArgs s_BadRunu__initu_, defBody s_BadRunu__initu_, defScope s_BadRunu__initu_⟩
abbrev s_Clashingu__initu_ : Stmt := (cBody (top 35)).getD 0 (.Pass ⟨0, 0, 0, 0⟩)
def xd_Clashingu__initu_ : XDef := ⟨"Clashing", "Clashing.__init__", defArgs s_Clashingu__initu_, defBody s_Clashingu__initu_, defScope s_Clashingu__initu_⟩
abbrev s_BadLossesu__initu_ : Stmt := (cBody (top 16)).getD 0 (.Pass ⟨0, 0, 0, 0⟩)
def xd_BadLossesu__initu_ : XDef := ⟨"BadLosses", "BadLosses.__init__", defArgs s_BadLossesu__initu_, defBody s_BadLossesu__initu_, defScope s_BadLossesu__initu_⟩
abbrev s_BadLetteru__initu_ : Stmt := (cBody (top 11)).getD 0 (.Pass ⟨0, 0, 0, 0⟩)
def xd_BadLetteru__initu_ : XDef := ⟨"BadLetter", "BadLetter.__init__", defArgs s_BadLetteru__initu_, defBody s_BadLetteru__initu_, defScope s_BadLetteru__initu_⟩
abbrev s_BadNameu__initu_ : Stmt := (cBody (top 27)).getD 0 (.Pass ⟨0, 0, 0, 0⟩)
def xd_BadNameu__initu_ : XDef := ⟨"BadName", "BadName.__init__", defArgs s_BadNameu__initu_, defBody s_BadNameu__initu_, defScope s_BadNameu__initu_⟩
abbrev s_BadNumberu__initu_ : Stmt := (cBody (top 24)).getD 0 (.Pass ⟨0, 0, 0, 0⟩)
def xd_BadNumberu__initu_ : XDef := ⟨"BadNumber", "BadNumber.__init__", defArgs s_BadNumberu__initu_, defBody s_BadNumberu__initu_, defScope s_BadNumberu__initu_⟩
abbrev s_NoNameu__initu_ : Stmt := (cBody (top 28)).getD 0 (.Pass ⟨0, 0, 0, 0⟩)
def xd_NoNameu__initu_ : XDef := ⟨"NoName", "NoName.__init__", defArgs s_NoNameu__initu_, defBody s_NoNameu__initu_, defScope s_NoNameu__initu_⟩
abbrev s_BadCommandu__initu_ : Stmt := (cBody (top 26)).getD 0 (.Pass ⟨0, 0, 0, 0⟩)
def xd_BadCommandu__initu_ : XDef := ⟨"BadCommand", "BadCommand.__init__", defArgs s_BadCommandu__initu_, defBody s_BadCommandu__initu_, defScope s_BadCommandu__initu_⟩
abbrev s_NoHouseu__initu_ : Stmt := (cBody (top 30)).getD 0 (.Pass ⟨0, 0, 0, 0⟩)
def xd_NoHouseu__initu_ : XDef := ⟨"NoHouse", "NoHouse.__init__", defArgs s_NoHouseu__initu_, defBody s_NoHouseu__initu_, defScope s_NoHouseu__initu_⟩
abbrev s_NoFlowu__initu_ : Stmt := (cBody (top 29)).getD 0 (.Pass ⟨0, 0, 0, 0⟩)
def xd_NoFlowu__initu_ : XDef := ⟨"NoFlow", "NoFlow.__init__", defArgs s_NoFlowu__initu_, defBody s_NoFlowu__initu_, defScope s_NoFlowu__initu_⟩
abbrev s_NoLaneu__initu_ : Stmt := (cBody (top 32)).getD 0 (.Pass ⟨0, 0, 0, 0⟩)
def xd_NoLaneu__initu_ : XDef := ⟨"NoLane", "NoLane.__init__", defArgs s_NoLaneu__initu_, defBody s_NoLaneu__initu_, defScope s_NoLaneu__initu_⟩
abbrev s_NoLinku__initu_ : Stmt := (cBody (top 31)).getD 0 (.Pass ⟨0, 0, 0, 0⟩)
def xd_NoLinku__initu_ : XDef := ⟨"NoLink", "NoLink.__init__", defArgs s_NoLinku__initu_, defBody s_NoLinku__initu_, defScope s_NoLinku__initu_⟩
abbrev s_NoPhaseu__initu_ : Stmt := (cBody (top 34)).getD 0 (.Pass ⟨0, 0, 0, 0⟩)
def xd_NoPhaseu__initu_ : XDef := ⟨"NoPhase", "NoPhase.__init__", defArgs s_NoPhaseu__initu_, defBody s_NoPhaseu__initu_, defScope s_NoPhaseu__initu_⟩
abbrev s_NoLineu__initu_ : Stmt := (cBody (top 33)).getD 0 (.Pass ⟨0, 0, 0, 0⟩)
def xd_NoLineu__initu_ : XDef := ⟨"NoLine", "NoLine.__init__", defArgs s_NoLineu__initu_, defBody s_NoLineu__initu_, defScope s_NoLineu__initu_⟩
abbrev s_BadTextu__initu_ : Stmt := (cBody (top 25)).getD 0 (.Pass ⟨0, 0, 0, 0⟩)
def xd_BadTextu__initu_ : XDef := ⟨"BadText", "BadText.__init__", defArgs s_BadTextu__initu_, defBody s_BadTextu__initu_, defScope s_BadTextu__initu_⟩
abbrev s_TooManyu__initu_ : Stmt := (cBody (top 37)).getD 0 (.Pass ⟨0, 0, 0, 0⟩)
def xd_TooManyu__initu_ : XDef := ⟨"TooMany", "TooMany.__init__", defArgs s_TooManyu__initu_, defBody s_TooManyu__initu_, defScope s_TooManyu__initu_⟩
abbrev s_draw : Stmt := top 40
abbrev N_draw : List Str := ["_law_pen_here", "_law_many", "_law_digit", "_law_at", "_law_cell", "_law_great", "_law_mixed"]
theorem sc_draw : FnScope N_draw ["_law_pen_here", "_law_many"] (defScope s_draw) := ⟨rfl, rfl, rfl, by decide +kernel, rfl, by decide +kernel, by decide +kernel⟩
def cnL : List Str := ["PostError", "BadGrowth", "BadLetter", "BadFrame", "BadCell", "BadPlan", "BadRule", "BadLosses", "BadRound", "BadNet", "BadTable", "BadPair", "BadStack", "BadRun", "BadPlay", "BadNumber", "BadText", "BadCommand", "BadName", "NoName", "NoFlow", "NoHouse", "NoLink", "NoLane", "NoLine", "NoPhase", "Clashing", "Nothing", "TooMany"]
def ownL : List Nat := []
def excL : List Nat := [0, 1, 2, 3, 4, 5, 6, 7, 8, 9, 10, 11, 12, 13, 14, 15, 16, 17, 18, 19, 20, 21, 22, 23, 24, 25, 26, 27, 28]
def upL : Nat → List Nat := fun i => ([[0], [0, 1], [0, 2], [0, 3], [0, 4], [0, 5], [0, 6], [0, 7], [0, 8], [0, 9], [0, 10], [0, 11], [0, 12], [0, 13], [0, 14], [0, 15], [0, 16], [0, 17], [0, 18], [0, 19], [0, 20], [0, 21], [0, 22], [0, 23], [0, 24], [0, 25], [0, 26], [0, 27], [0, 28]] : List (List Nat)).getD i []
def utL : Nat → List String := fun i => ([["ValueError"], ["ValueError"], ["ValueError"], ["ValueError"], ["ValueError"], ["ValueError"], ["ValueError"], ["ValueError"], ["ValueError"], ["ValueError"], ["ValueError"], ["ValueError"], ["ValueError"], ["ValueError"], ["ValueError"], ["ValueError"], ["ValueError"], ["ValueError"], ["ValueError"], ["ValueError"], ["ValueError"], ["ValueError"], ["ValueError"], ["ValueError"], ["ValueError"], ["ValueError"], ["ValueError"], ["ValueError"], ["ValueError"]] : List (List String)).getD i []
def tyL : List String := ["int", "bool", "str", "list", "tuple", "dict", "ValueError"]
def isT : IsT := mkIsT ownL excL 29 upL utL tyL
structure Fc (P : Program) (w : World) (K : PySem.W.Frag) (mg : Str → Option Value) (base : Heap) (c : Ct) : Prop where
  b_int : mg "int" = none
  b_isinstance : mg "isinstance" = none
  b_bool : mg "bool" = none
  g_is_integer : mg "is_integer" = some (.ref (He.fAd K ("is_integer", none)))
  k_is_integer : PySem.W.keepIn K (.ref (He.fAd K ("is_integer", none))) = true
  b_str : mg "str" = none
  b_len : mg "len" = none
  c_LETTERS : ∃ v u, mg "LETTERS" = some u ∧ RelV v u ∧ ∀ F, Dat c K F v (.str "abcdefghijklmnopqrstuvwxyz")
  b_all : mg "all" = none
  g_is_signs : mg "is_signs" = some (.ref (He.fAd K ("is_signs", none)))
  k_is_signs : PySem.W.keepIn K (.ref (He.fAd K ("is_signs", none))) = true
  c_MOST_SIGNS : ∃ v u, mg "MOST_SIGNS" = some u ∧ RelV v u ∧ ∀ F, Dat c K F v (.int 200)
  g__law_draw : mg "_law_draw" = some (.ref (He.fAd K ("_law_draw", none)))
  k__law_draw : PySem.W.keepIn K (.ref (He.fAd K ("_law_draw", none))) = true
  g_BadFrame : mg "BadFrame" = some (.ref (c.cA 3))
  x_BadFrame : XFn P w K mg base (c.cA 3) xd_BadFrameu__initu_ ["self", "part"] ["part"]
  xf_part : XFld K c [1, 3, 4, 5, 6, 8, 9, 10, 11, 12, 13, 14, 26] "part"
  g_BadGrowth : mg "BadGrowth" = some (.ref (c.cA 1))
  x_BadGrowth : XFn P w K mg base (c.cA 1) xd_BadGrowthu__initu_ ["self", "part"] ["part"]
  g_BadPlan : mg "BadPlan" = some (.ref (c.cA 5))
  x_BadPlan : XFn P w K mg base (c.cA 5) xd_BadPlanu__initu_ ["self", "part"] ["part"]
  g_BadCell : mg "BadCell" = some (.ref (c.cA 4))
  x_BadCell : XFn P w K mg base (c.cA 4) xd_BadCellu__initu_ ["self", "part"] ["part"]
  g_BadRound : mg "BadRound" = some (.ref (c.cA 8))
  x_BadRound : XFn P w K mg base (c.cA 8) xd_BadRoundu__initu_ ["self", "part"] ["part"]
  g_BadRule : mg "BadRule" = some (.ref (c.cA 6))
  x_BadRule : XFn P w K mg base (c.cA 6) xd_BadRuleu__initu_ ["self", "part"] ["part"]
  g_BadTable : mg "BadTable" = some (.ref (c.cA 10))
  x_BadTable : XFn P w K mg base (c.cA 10) xd_BadTableu__initu_ ["self", "part"] ["part"]
  g_BadNet : mg "BadNet" = some (.ref (c.cA 9))
  x_BadNet : XFn P w K mg base (c.cA 9) xd_BadNetu__initu_ ["self", "part"] ["part"]
  g_BadStack : mg "BadStack" = some (.ref (c.cA 12))
  x_BadStack : XFn P w K mg base (c.cA 12) xd_BadStacku__initu_ ["self", "part"] ["part"]
  g_BadPair : mg "BadPair" = some (.ref (c.cA 11))
  x_BadPair : XFn P w K mg base (c.cA 11) xd_BadPairu__initu_ ["self", "part"] ["part"]
  g_BadPlay : mg "BadPlay" = some (.ref (c.cA 14))
  x_BadPlay : XFn P w K mg base (c.cA 14) xd_BadPlayu__initu_ ["self", "part"] ["part"]
  g_BadRun : mg "BadRun" = some (.ref (c.cA 13))
  x_BadRun : XFn P w K mg base (c.cA 13) xd_BadRunu__initu_ ["self", "part"] ["part"]
  g_Clashing : mg "Clashing" = some (.ref (c.cA 26))
  x_Clashing : XFn P w K mg base (c.cA 26) xd_Clashingu__initu_ ["self", "part"] ["part"]
  g_BadLosses : mg "BadLosses" = some (.ref (c.cA 7))
  x_BadLosses : XFn P w K mg base (c.cA 7) xd_BadLossesu__initu_ ["self", "value"] ["value"]
  xf_value : XFld K c [2, 7, 15, 18] "value"
  g_BadLetter : mg "BadLetter" = some (.ref (c.cA 2))
  x_BadLetter : XFn P w K mg base (c.cA 2) xd_BadLetteru__initu_ ["self", "value"] ["value"]
  g_BadName : mg "BadName" = some (.ref (c.cA 18))
  x_BadName : XFn P w K mg base (c.cA 18) xd_BadNameu__initu_ ["self", "value"] ["value"]
  g_BadNumber : mg "BadNumber" = some (.ref (c.cA 15))
  x_BadNumber : XFn P w K mg base (c.cA 15) xd_BadNumberu__initu_ ["self", "value"] ["value"]
  g_NoName : mg "NoName" = some (.ref (c.cA 19))
  x_NoName : XFn P w K mg base (c.cA 19) xd_NoNameu__initu_ ["self", "name"] ["name"]
  xf_name : XFld K c [19, 20, 21, 22] "name"
  g_BadCommand : mg "BadCommand" = some (.ref (c.cA 17))
  x_BadCommand : XFn P w K mg base (c.cA 17) xd_BadCommandu__initu_ ["self", "word"] ["word"]
  xf_word : XFld K c [16, 17] "word"
  g_NoHouse : mg "NoHouse" = some (.ref (c.cA 21))
  x_NoHouse : XFn P w K mg base (c.cA 21) xd_NoHouseu__initu_ ["self", "name"] ["name"]
  g_NoFlow : mg "NoFlow" = some (.ref (c.cA 20))
  x_NoFlow : XFn P w K mg base (c.cA 20) xd_NoFlowu__initu_ ["self", "name"] ["name"]
  g_NoLane : mg "NoLane" = some (.ref (c.cA 23))
  x_NoLane : XFn P w K mg base (c.cA 23) xd_NoLaneu__initu_ ["self", "key"] ["key"]
  xf_key : XFld K c [23, 24] "key"
  g_NoLink : mg "NoLink" = some (.ref (c.cA 22))
  x_NoLink : XFn P w K mg base (c.cA 22) xd_NoLinku__initu_ ["self", "name"] ["name"]
  g_NoPhase : mg "NoPhase" = some (.ref (c.cA 25))
  x_NoPhase : XFn P w K mg base (c.cA 25) xd_NoPhaseu__initu_ ["self", "at"] ["at"]
  xf_at : XFld K c [25] "at"
  g_NoLine : mg "NoLine" = some (.ref (c.cA 24))
  x_NoLine : XFn P w K mg base (c.cA 24) xd_NoLineu__initu_ ["self", "key"] ["key"]
  g_BadText : mg "BadText" = some (.ref (c.cA 16))
  x_BadText : XFn P w K mg base (c.cA 16) xd_BadTextu__initu_ ["self", "line", "word"] ["line", "word"]
  g_TooMany : mg "TooMany" = some (.ref (c.cA 28))
  x_TooMany : XFn P w K mg base (c.cA 28) xd_TooManyu__initu_ ["self", "what", "most"] ["what", "most"]
  xf_most : XFld K c [28] "most"
  g_Nothing : mg "Nothing" = some (.ref (c.cA 27))
  b_range : mg "range" = none
  g_PostError : mg "PostError" = some (.ref (c.cA 0))
  b_ValueError : mg "ValueError" = none
  g__law_pick : mg "_law_pick" = some (.ref (He.fAd K ("_law_pick", none)))
  k__law_pick : PySem.W.keepIn K (.ref (He.fAd K ("_law_pick", none))) = true
  g__law_parts : mg "_law_parts" = some (.ref (He.fAd K ("_law_parts", none)))
  k__law_parts : PySem.W.keepIn K (.ref (He.fAd K ("_law_parts", none))) = true
  g__law_others : mg "_law_others" = some (.ref (He.fAd K ("_law_others", none)))
  k__law_others : PySem.W.keepIn K (.ref (He.fAd K ("_law_others", none))) = true
  g__law_classes : mg "_law_classes" = some (.ref (He.fAd K ("_law_classes", none)))
  k__law_classes : PySem.W.keepIn K (.ref (He.fAd K ("_law_classes", none))) = true
  g__law_is_error : mg "_law_is_error" = some (.ref (He.fAd K ("_law_is_error", none)))
  k__law_is_error : PySem.W.keepIn K (.ref (He.fAd K ("_law_is_error", none))) = true
  sm : SmOk K
  b_repr : mg "repr" = none
  xf_what : XFld K c [28] "what"
  xf_line : XFld K c [16] "line"
  xe_Nothing : PySem.W.excIn K (c.cA 27) He.veBase "ValueError.__new__" = true ∧ PySem.W.keepIn K (.ref (c.cA 27)) = true
  g_is_within : mg "is_within" = some (.ref (He.fAd K ("is_within", none)))
  k_is_within : PySem.W.keepIn K (.ref (He.fAd K ("is_within", none))) = true
  g_is_name : mg "is_name" = some (.ref (He.fAd K ("is_name", none)))
  k_is_name : PySem.W.keepIn K (.ref (He.fAd K ("is_name", none))) = true
  g_is_letter : mg "is_letter" = some (.ref (He.fAd K ("is_letter", none)))
  k_is_letter : PySem.W.keepIn K (.ref (He.fAd K ("is_letter", none))) = true
  g__law_errors_right : mg "_law_errors_right" = some (.ref (He.fAd K ("_law_errors_right", none)))
  k__law_errors_right : PySem.W.keepIn K (.ref (He.fAd K ("_law_errors_right", none))) = true
  g__law_kinds_right : mg "_law_kinds_right" = some (.ref (He.fAd K ("_law_kinds_right", none)))
  k__law_kinds_right : PySem.W.keepIn K (.ref (He.fAd K ("_law_kinds_right", none))) = true
  d_is_integer : ∃ fd, (FunD K "is_integer" "is_integer" (defArgs s_is_integer) (defBody s_is_integer) (defScope s_is_integer) [] [] (He.fAd K ("is_integer", none)) fd)
  d_is_within : ∃ fd, (FunD K "is_within" "is_within" (defArgs s_is_within) (defBody s_is_within) (defScope s_is_within) [] [] (He.fAd K ("is_within", none)) fd)
  d_is_name : ∃ fd, (FunD K "is_name" "is_name" (defArgs s_is_name) (defBody s_is_name) (defScope s_is_name) [] [] (He.fAd K ("is_name", none)) fd)
  d_is_signs : ∃ fd, (FunD K "is_signs" "is_signs" (defArgs s_is_signs) (defBody s_is_signs) (defScope s_is_signs) [] [] (He.fAd K ("is_signs", none)) fd)
  d_is_letter : ∃ fd, (FunD K "is_letter" "is_letter" (defArgs s_is_letter) (defBody s_is_letter) (defScope s_is_letter) [] [] (He.fAd K ("is_letter", none)) fd)
  d__law_pick : ∃ fd, (FunD K "_law_pick" "_law_pick" (defArgs s__law_pick) (defBody s__law_pick) (defScope s__law_pick) [] [] (He.fAd K ("_law_pick", none)) fd)
  d__law_parts : ∃ fd, (FunD K "_law_parts" "_law_parts" (defArgs s__law_parts) (defBody s__law_parts) (defScope s__law_parts) [] [] (He.fAd K ("_law_parts", none)) fd)
  d__law_others : ∃ fd, (FunD K "_law_others" "_law_others" (defArgs s__law_others) (defBody s__law_others) (defScope s__law_others) [] [] (He.fAd K ("_law_others", none)) fd)
  d__law_classes : ∃ fd, (FunD K "_law_classes" "_law_classes" (defArgs s__law_classes) (defBody s__law_classes) (defScope s__law_classes) [] [] (He.fAd K ("_law_classes", none)) fd)
  d__law_is_error : ∃ fd, (FunD K "_law_is_error" "_law_is_error" (defArgs s__law_is_error) (defBody s__law_is_error) (defScope s__law_is_error) [] [] (He.fAd K ("_law_is_error", none)) fd)
  d__law_errors_right : ∃ fd, (FunD K "_law_errors_right" "_law_errors_right" (defArgs s__law_errors_right) (defBody s__law_errors_right) (defScope s__law_errors_right) [] [] (He.fAd K ("_law_errors_right", none)) fd)
  d__law_kinds_right : ∃ fd, (FunD K "_law_kinds_right" "_law_kinds_right" (defArgs s__law_kinds_right) (defBody s__law_kinds_right) (defScope s__law_kinds_right) [] [] (He.fAd K ("_law_kinds_right", none)) fd)
  isF : IsF K c isT
  b_abs : mg "abs" = none
  d_draw : ∃ fd, FunD K "_law_draw" "_law_draw" (defArgs s_draw) (defBody s_draw) (defScope s_draw) [] [] (He.fAd K ("_law_draw", none)) fd
  hp : c.hp = true
  hns : ∀ z ∈ c.ns, 2 * z.natAbs + 2 < 2 ^ c.bl
section
variable {P : Program} {w : World} {K : PySem.W.Frag} {mg : Str → Option Value} {base : Heap} {c : Ct}
theorem body_draw {f : Addr} (gi : mg "int" = none) (gl : mg "len" = none) (ga : mg "abs" = none) (cdv : Value) (A : Around) (outer : List Env) (s : Shared) (H : Hp) (E : XK) (hr : DL.Room 0 (A.deeper (envOfC "_law_draw" (defScope s_draw) s.heap.objs.size f cdv))) :
    PSs (cxOf (CX P w) P w K mg base N_draw "_law_draw" (defScope s_draw) f cdv A outer s H E) (defBody s_draw) (tDraw K 65000 3500 75000 3500 351 45000 13 2147483563 2147483629 2147483587) := by
  have px : ∀ {i : Int} {k1 : Nat} {p1 p2 p3 : Pos}, PE (cxOf (CX P w) P w K mg base N_draw "_law_draw" (defScope s_draw) f cdv A outer s H E) (.Subscript (.Name "_law_pen_here" p1) (.Constant (.int i) k1 p2) p3) (tpx K i) := pe_ix ix_seq (pv 0) pe_int (fun _ _ => rfl)
  have pin : ∀ {e : Expr} {t : TE} {p1 p2 : Pos}, PE (cxOf (CX P w) P w K mg base N_draw "_law_draw" (defScope s_draw) f cdv A outer s H E) e t → starEach [e] (cxOf (CX P w) P w K mg base N_draw "_law_draw" (defScope s_draw) f cdv A outer s H E).env = (false, eval e (cxOf (CX P w) P w K mg base N_draw "_law_draw" (defScope s_draw) f cdv A outer s H E).env) :: starEach [] (cxOf (CX P w) P w K mg base N_draw "_law_draw" (defScope s_draw) f cdv A outer s H E).env → PE (cxOf (CX P w) P w K mg base N_draw "_law_draw" (defScope s_draw) f cdv A outer s H E) (.Call (.Name "int" p1) [e] [] p2) (tin t) :=
    fun h he => pe_callTy call_int1 rfl gi PyProof.Rows.Boot.«int» (pa_cons h pa_nil he) (by decide) (by decide) he rfl
  have pab : ∀ {e : Expr} {t : TE} {p1 p2 : Pos}, PE (cxOf (CX P w) P w K mg base N_draw "_law_draw" (defScope s_draw) f cdv A outer s H E) e t → starEach [e] (cxOf (CX P w) P w K mg base N_draw "_law_draw" (defScope s_draw) f cdv A outer s H E).env = (false, eval e (cxOf (CX P w) P w K mg base N_draw "_law_draw" (defScope s_draw) f cdv A outer s H E).env) :: starEach [] (cxOf (CX P w) P w K mg base N_draw "_law_draw" (defScope s_draw) f cdv A outer s H E).env → PE (cxOf (CX P w) P w K mg base N_draw "_law_draw" (defScope s_draw) f cdv A outer s H E) (.Call (.Name "abs" p1) [e] [] p2) (DL.tab t) :=
    fun h he => pe_callB call_abs rfl ga PyProof.Rows.Boot.«abs» (pa_cons h pa_nil he) (by decide) (by decide) he rfl
  have pl : ∀ {k1 : Nat} {p1 p2 p3 p4 p5 : Pos}, PE (cxOf (CX P w) P w K mg base N_draw "_law_draw" (defScope s_draw) f cdv A outer s H E) (.Call (.Name "len" p4) [.Subscript (.Name "_law_pen_here" p1) (.Constant (.int 0) k1 p2) p3] [] p5) (tlen0 K) := pe_callB b_len rfl gl PyProof.Rows.Boot.«len» (pa_cons px pa_nil)
  exact pss_cons (ps_if (pt_cmpR op_gt px pe_int (nomark _)) (pss_cons (ps_asg (pe_op op_mod (pin px rfl) (pv 1)) (pg_name sc_draw.nd rfl (Or.inl rfl))) (pss_cons (ps_asg (pe_op op_fdivW (pin px rfl) (pv 1)) (pg_sub (pv 0) pe_int set_list)) (pss_one (ps_ret (pv 2))))) pss_nil)
    (pss_cons (ps_asg px (pg_name sc_draw.nd rfl (Or.inl rfl)))
    (pss_cons (ps_asg (pe_op op_add (pv 3) pe_int) (pg_sub (pv 0) pe_int set_list))
    (pss_cons (ps_asg (pe_op op_add (pe_op op_mul pe_int (pv 3)) pe_int) (pg_name sc_draw.nd rfl (Or.inl rfl)))
    (pss_cons (ps_if (pt_cmpR (op_neD hr.toRoom.units) px (pe_lst pa_nil) (nomark _)) (pss_one (ps_asg (pe_ix ix_seq px (pe_op op_mod (pin (pv 3) rfl) pl) (fun _ _ => rfl)) (pg_name sc_draw.nd rfl (Or.inl rfl)))) pss_nil)
    (pss_cons (ps_if (PW.pt (pw_and (pt_cmpR op_lt (pv 3) pl (nomark _)) (pw_and1 (pt_cmpR op_ge (pab (pv 4) rfl) (pe_op op_pow pe_int pe_int) (nomark _))))) (pss_cons (ps_asg (pe_op op_add (pe_op op_mul pe_int (pe_op op_sub (pab (pv 4) rfl) (pe_op op_pow pe_int pe_int))) (pin (pe_cmpR op_lt (pv 4) pe_int (nomark _)) rfl)) (pg_name sc_draw.nd rfl (Or.inl rfl))) (pss_cons (ps_asg (pe_op op_fdivW (pin (pv 5) rfl) (pv 1)) (pg_sub (pv 0) pe_int set_list)) (pss_one (ps_ret (pe_op op_mod (pin (pv 5) rfl) (pv 1)))))) pss_nil)
    (pss_cons (ps_asg (pe_op op_mod (pin (pe_op op_pow (pe_op op_add (pe_op op_add (pe_op op_mod (pin (pv 4) rfl) pe_int) (pe_op op_mul pe_int (pv 3))) pe_int) pe_int) rfl) pe_int) (pg_name sc_draw.nd rfl (Or.inl rfl)))
    (pss_cons (ps_asg (pe_op op_mod (pin (pe_op op_pow (pe_op op_add (pe_op op_add (pe_op op_mul (pv 6) (pe_op op_add (pe_op op_mul pe_int (pv 3)) pe_int)) (pe_op op_mul (pe_op op_mul pe_int (pv 3)) (pv 3))) pe_int) pe_int) rfl) pe_int) (pg_name sc_draw.nd rfl (Or.inl rfl)))
    (pss_one (ps_ret (pe_op op_mod (pin (pe_op op_fdivW (pv 6) pe_int) rfl) (pv 1)))))))))))
def ma__law_draw_2 := posM 2 drawM []
theorem a__law_draw_2 (H : Fc P w K mg base c) : FnA P w K mg base 1 (He.fAd K ("_law_draw", none)) [] (spD c K ma__law_draw_2) := by
  obtain ⟨fd, F⟩ := H.d_draw
  exact FnA.pos 2 (fn_draw F sc_draw rfl H.hp H.hns (by decide) fun cdv A outer s H0 E hr => body_draw H.b_int H.b_len H.b_abs cdv A outer s H0 E hr) (F.bindsN fun _ _ _ _ _ _ us hl => match us, hl with | [_, _], _ => rfl) .nil (fun _ => .nil)
theorem xc_BadFrame (H : Fc P w K mg base c) : XCls P w K mg base (c.cA 3) ["part"] 1 := H.x_BadFrame.cls (fun _ _ _ _ _ _ _ _ us hl => match us, hl with | [_, _], _ => rfl)
theorem xc_BadGrowth (H : Fc P w K mg base c) : XCls P w K mg base (c.cA 1) ["part"] 1 := H.x_BadGrowth.cls (fun _ _ _ _ _ _ _ _ us hl => match us, hl with | [_, _], _ => rfl)
theorem xc_BadPlan (H : Fc P w K mg base c) : XCls P w K mg base (c.cA 5) ["part"] 1 := H.x_BadPlan.cls (fun _ _ _ _ _ _ _ _ us hl => match us, hl with | [_, _], _ => rfl)
theorem xc_BadCell (H : Fc P w K mg base c) : XCls P w K mg base (c.cA 4) ["part"] 1 := H.x_BadCell.cls (fun _ _ _ _ _ _ _ _ us hl => match us, hl with | [_, _], _ => rfl)
theorem xc_BadRound (H : Fc P w K mg base c) : XCls P w K mg base (c.cA 8) ["part"] 1 := H.x_BadRound.cls (fun _ _ _ _ _ _ _ _ us hl => match us, hl with | [_, _], _ => rfl)
theorem xc_BadRule (H : Fc P w K mg base c) : XCls P w K mg base (c.cA 6) ["part"] 1 := H.x_BadRule.cls (fun _ _ _ _ _ _ _ _ us hl => match us, hl with | [_, _], _ => rfl)
theorem xc_BadTable (H : Fc P w K mg base c) : XCls P w K mg base (c.cA 10) ["part"] 1 := H.x_BadTable.cls (fun _ _ _ _ _ _ _ _ us hl => match us, hl with | [_, _], _ => rfl)
theorem xc_BadNet (H : Fc P w K mg base c) : XCls P w K mg base (c.cA 9) ["part"] 1 := H.x_BadNet.cls (fun _ _ _ _ _ _ _ _ us hl => match us, hl with | [_, _], _ => rfl)
theorem xc_BadStack (H : Fc P w K mg base c) : XCls P w K mg base (c.cA 12) ["part"] 1 := H.x_BadStack.cls (fun _ _ _ _ _ _ _ _ us hl => match us, hl with | [_, _], _ => rfl)
theorem xc_BadPair (H : Fc P w K mg base c) : XCls P w K mg base (c.cA 11) ["part"] 1 := H.x_BadPair.cls (fun _ _ _ _ _ _ _ _ us hl => match us, hl with | [_, _], _ => rfl)
theorem xc_BadPlay (H : Fc P w K mg base c) : XCls P w K mg base (c.cA 14) ["part"] 1 := H.x_BadPlay.cls (fun _ _ _ _ _ _ _ _ us hl => match us, hl with | [_, _], _ => rfl)
theorem xc_BadRun (H : Fc P w K mg base c) : XCls P w K mg base (c.cA 13) ["part"] 1 := H.x_BadRun.cls (fun _ _ _ _ _ _ _ _ us hl => match us, hl with | [_, _], _ => rfl)
theorem xc_Clashing (H : Fc P w K mg base c) : XCls P w K mg base (c.cA 26) ["part"] 1 := H.x_Clashing.cls (fun _ _ _ _ _ _ _ _ us hl => match us, hl with | [_, _], _ => rfl)
theorem xc_BadLosses (H : Fc P w K mg base c) : XCls P w K mg base (c.cA 7) ["value"] 1 := H.x_BadLosses.cls (fun _ _ _ _ _ _ _ _ us hl => match us, hl with | [_, _], _ => rfl)
theorem xc_BadLetter (H : Fc P w K mg base c) : XCls P w K mg base (c.cA 2) ["value"] 1 := H.x_BadLetter.cls (fun _ _ _ _ _ _ _ _ us hl => match us, hl with | [_, _], _ => rfl)
theorem xc_BadName (H : Fc P w K mg base c) : XCls P w K mg base (c.cA 18) ["value"] 1 := H.x_BadName.cls (fun _ _ _ _ _ _ _ _ us hl => match us, hl with | [_, _], _ => rfl)
theorem xc_BadNumber (H : Fc P w K mg base c) : XCls P w K mg base (c.cA 15) ["value"] 1 := H.x_BadNumber.cls (fun _ _ _ _ _ _ _ _ us hl => match us, hl with | [_, _], _ => rfl)
theorem xc_NoName (H : Fc P w K mg base c) : XCls P w K mg base (c.cA 19) ["name"] 1 := H.x_NoName.cls (fun _ _ _ _ _ _ _ _ us hl => match us, hl with | [_, _], _ => rfl)
theorem xc_BadCommand (H : Fc P w K mg base c) : XCls P w K mg base (c.cA 17) ["word"] 1 := H.x_BadCommand.cls (fun _ _ _ _ _ _ _ _ us hl => match us, hl with | [_, _], _ => rfl)
theorem xc_NoHouse (H : Fc P w K mg base c) : XCls P w K mg base (c.cA 21) ["name"] 1 := H.x_NoHouse.cls (fun _ _ _ _ _ _ _ _ us hl => match us, hl with | [_, _], _ => rfl)
theorem xc_NoFlow (H : Fc P w K mg base c) : XCls P w K mg base (c.cA 20) ["name"] 1 := H.x_NoFlow.cls (fun _ _ _ _ _ _ _ _ us hl => match us, hl with | [_, _], _ => rfl)
theorem xc_NoLane (H : Fc P w K mg base c) : XCls P w K mg base (c.cA 23) ["key"] 1 := H.x_NoLane.cls (fun _ _ _ _ _ _ _ _ us hl => match us, hl with | [_, _], _ => rfl)
theorem xc_NoLink (H : Fc P w K mg base c) : XCls P w K mg base (c.cA 22) ["name"] 1 := H.x_NoLink.cls (fun _ _ _ _ _ _ _ _ us hl => match us, hl with | [_, _], _ => rfl)
theorem xc_NoPhase (H : Fc P w K mg base c) : XCls P w K mg base (c.cA 25) ["at"] 1 := H.x_NoPhase.cls (fun _ _ _ _ _ _ _ _ us hl => match us, hl with | [_, _], _ => rfl)
theorem xc_NoLine (H : Fc P w K mg base c) : XCls P w K mg base (c.cA 24) ["key"] 1 := H.x_NoLine.cls (fun _ _ _ _ _ _ _ _ us hl => match us, hl with | [_, _], _ => rfl)
theorem xc_BadText (H : Fc P w K mg base c) : XCls P w K mg base (c.cA 16) ["line", "word"] 1 := H.x_BadText.cls (fun _ _ _ _ _ _ _ _ us hl => match us, hl with | [_, _, _], _ => rfl)
theorem xc_TooMany (H : Fc P w K mg base c) : XCls P w K mg base (c.cA 28) ["what", "most"] 1 := H.x_TooMany.cls (fun _ _ _ _ _ _ _ _ us hl => match us, hl with | [_, _, _], _ => rfl)
def gx_xk_BadFrame_0_part {α : Type} (us ws : List α) : List α := (ws.drop 0).take 1
theorem xk_BadFrame_0_part (H : Fc P w K mg base c) : XClsK P w K mg base (c.cA 3) ["part"] 1 0 ["part"] gx_xk_BadFrame_0_part := H.x_BadFrame.clsK 0 ["part"] gx_xk_BadFrame_0_part (fun _ _ _ _ _ _ _ _ u us ws h1 h2 => match us, h1, ws, h2 with | [], _, [_], _ => rfl) (fun r1 r2 => (r2.drop 0).take 1) (fun r1 r2 => (r2.drop 0).take 1)
def gx_xk_BadFrame_1 {α : Type} (us ws : List α) : List α := us
theorem xk_BadFrame_1 (H : Fc P w K mg base c) : XClsK P w K mg base (c.cA 3) ["part"] 1 1 [] gx_xk_BadFrame_1 := H.x_BadFrame.clsK 1 [] gx_xk_BadFrame_1 (fun _ _ _ _ _ _ _ _ u us ws h1 h2 => match us, h1, ws, h2 with | [_], _, [], _ => rfl) (fun r1 r2 => r1) (fun r1 r2 => r1)
def gx_xk_BadGrowth_0_part {α : Type} (us ws : List α) : List α := (ws.drop 0).take 1
theorem xk_BadGrowth_0_part (H : Fc P w K mg base c) : XClsK P w K mg base (c.cA 1) ["part"] 1 0 ["part"] gx_xk_BadGrowth_0_part := H.x_BadGrowth.clsK 0 ["part"] gx_xk_BadGrowth_0_part (fun _ _ _ _ _ _ _ _ u us ws h1 h2 => match us, h1, ws, h2 with | [], _, [_], _ => rfl) (fun r1 r2 => (r2.drop 0).take 1) (fun r1 r2 => (r2.drop 0).take 1)
def gx_xk_BadGrowth_1 {α : Type} (us ws : List α) : List α := us
theorem xk_BadGrowth_1 (H : Fc P w K mg base c) : XClsK P w K mg base (c.cA 1) ["part"] 1 1 [] gx_xk_BadGrowth_1 := H.x_BadGrowth.clsK 1 [] gx_xk_BadGrowth_1 (fun _ _ _ _ _ _ _ _ u us ws h1 h2 => match us, h1, ws, h2 with | [_], _, [], _ => rfl) (fun r1 r2 => r1) (fun r1 r2 => r1)
def gx_xk_BadPlan_0_part {α : Type} (us ws : List α) : List α := (ws.drop 0).take 1
theorem xk_BadPlan_0_part (H : Fc P w K mg base c) : XClsK P w K mg base (c.cA 5) ["part"] 1 0 ["part"] gx_xk_BadPlan_0_part := H.x_BadPlan.clsK 0 ["part"] gx_xk_BadPlan_0_part (fun _ _ _ _ _ _ _ _ u us ws h1 h2 => match us, h1, ws, h2 with | [], _, [_], _ => rfl) (fun r1 r2 => (r2.drop 0).take 1) (fun r1 r2 => (r2.drop 0).take 1)
def gx_xk_BadPlan_1 {α : Type} (us ws : List α) : List α := us
theorem xk_BadPlan_1 (H : Fc P w K mg base c) : XClsK P w K mg base (c.cA 5) ["part"] 1 1 [] gx_xk_BadPlan_1 := H.x_BadPlan.clsK 1 [] gx_xk_BadPlan_1 (fun _ _ _ _ _ _ _ _ u us ws h1 h2 => match us, h1, ws, h2 with | [_], _, [], _ => rfl) (fun r1 r2 => r1) (fun r1 r2 => r1)
def gx_xk_BadCell_0_part {α : Type} (us ws : List α) : List α := (ws.drop 0).take 1
theorem xk_BadCell_0_part (H : Fc P w K mg base c) : XClsK P w K mg base (c.cA 4) ["part"] 1 0 ["part"] gx_xk_BadCell_0_part := H.x_BadCell.clsK 0 ["part"] gx_xk_BadCell_0_part (fun _ _ _ _ _ _ _ _ u us ws h1 h2 => match us, h1, ws, h2 with | [], _, [_], _ => rfl) (fun r1 r2 => (r2.drop 0).take 1) (fun r1 r2 => (r2.drop 0).take 1)
def gx_xk_BadCell_1 {α : Type} (us ws : List α) : List α := us
theorem xk_BadCell_1 (H : Fc P w K mg base c) : XClsK P w K mg base (c.cA 4) ["part"] 1 1 [] gx_xk_BadCell_1 := H.x_BadCell.clsK 1 [] gx_xk_BadCell_1 (fun _ _ _ _ _ _ _ _ u us ws h1 h2 => match us, h1, ws, h2 with | [_], _, [], _ => rfl) (fun r1 r2 => r1) (fun r1 r2 => r1)
def gx_xk_BadRound_0_part {α : Type} (us ws : List α) : List α := (ws.drop 0).take 1
theorem xk_BadRound_0_part (H : Fc P w K mg base c) : XClsK P w K mg base (c.cA 8) ["part"] 1 0 ["part"] gx_xk_BadRound_0_part := H.x_BadRound.clsK 0 ["part"] gx_xk_BadRound_0_part (fun _ _ _ _ _ _ _ _ u us ws h1 h2 => match us, h1, ws, h2 with | [], _, [_], _ => rfl) (fun r1 r2 => (r2.drop 0).take 1) (fun r1 r2 => (r2.drop 0).take 1)
def gx_xk_BadRound_1 {α : Type} (us ws : List α) : List α := us
theorem xk_BadRound_1 (H : Fc P w K mg base c) : XClsK P w K mg base (c.cA 8) ["part"] 1 1 [] gx_xk_BadRound_1 := H.x_BadRound.clsK 1 [] gx_xk_BadRound_1 (fun _ _ _ _ _ _ _ _ u us ws h1 h2 => match us, h1, ws, h2 with | [_], _, [], _ => rfl) (fun r1 r2 => r1) (fun r1 r2 => r1)
def gx_xk_BadRule_0_part {α : Type} (us ws : List α) : List α := (ws.drop 0).take 1
theorem xk_BadRule_0_part (H : Fc P w K mg base c) : XClsK P w K mg base (c.cA 6) ["part"] 1 0 ["part"] gx_xk_BadRule_0_part := H.x_BadRule.clsK 0 ["part"] gx_xk_BadRule_0_part (fun _ _ _ _ _ _ _ _ u us ws h1 h2 => match us, h1, ws, h2 with | [], _, [_], _ => rfl) (fun r1 r2 => (r2.drop 0).take 1) (fun r1 r2 => (r2.drop 0).take 1)
def gx_xk_BadRule_1 {α : Type} (us ws : List α) : List α := us
theorem xk_BadRule_1 (H : Fc P w K mg base c) : XClsK P w K mg base (c.cA 6) ["part"] 1 1 [] gx_xk_BadRule_1 := H.x_BadRule.clsK 1 [] gx_xk_BadRule_1 (fun _ _ _ _ _ _ _ _ u us ws h1 h2 => match us, h1, ws, h2 with | [_], _, [], _ => rfl) (fun r1 r2 => r1) (fun r1 r2 => r1)
def gx_xk_BadTable_0_part {α : Type} (us ws : List α) : List α := (ws.drop 0).take 1
theorem xk_BadTable_0_part (H : Fc P w K mg base c) : XClsK P w K mg base (c.cA 10) ["part"] 1 0 ["part"] gx_xk_BadTable_0_part := H.x_BadTable.clsK 0 ["part"] gx_xk_BadTable_0_part (fun _ _ _ _ _ _ _ _ u us ws h1 h2 => match us, h1, ws, h2 with | [], _, [_], _ => rfl) (fun r1 r2 => (r2.drop 0).take 1) (fun r1 r2 => (r2.drop 0).take 1)
def gx_xk_BadTable_1 {α : Type} (us ws : List α) : List α := us
theorem xk_BadTable_1 (H : Fc P w K mg base c) : XClsK P w K mg base (c.cA 10) ["part"] 1 1 [] gx_xk_BadTable_1 := H.x_BadTable.clsK 1 [] gx_xk_BadTable_1 (fun _ _ _ _ _ _ _ _ u us ws h1 h2 => match us, h1, ws, h2 with | [_], _, [], _ => rfl) (fun r1 r2 => r1) (fun r1 r2 => r1)
def gx_xk_BadNet_0_part {α : Type} (us ws : List α) : List α := (ws.drop 0).take 1
theorem xk_BadNet_0_part (H : Fc P w K mg base c) : XClsK P w K mg base (c.cA 9) ["part"] 1 0 ["part"] gx_xk_BadNet_0_part := H.x_BadNet.clsK 0 ["part"] gx_xk_BadNet_0_part (fun _ _ _ _ _ _ _ _ u us ws h1 h2 => match us, h1, ws, h2 with | [], _, [_], _ => rfl) (fun r1 r2 => (r2.drop 0).take 1) (fun r1 r2 => (r2.drop 0).take 1)
def gx_xk_BadNet_1 {α : Type} (us ws : List α) : List α := us
theorem xk_BadNet_1 (H : Fc P w K mg base c) : XClsK P w K mg base (c.cA 9) ["part"] 1 1 [] gx_xk_BadNet_1 := H.x_BadNet.clsK 1 [] gx_xk_BadNet_1 (fun _ _ _ _ _ _ _ _ u us ws h1 h2 => match us, h1, ws, h2 with | [_], _, [], _ => rfl) (fun r1 r2 => r1) (fun r1 r2 => r1)
def gx_xk_BadStack_0_part {α : Type} (us ws : List α) : List α := (ws.drop 0).take 1
theorem xk_BadStack_0_part (H : Fc P w K mg base c) : XClsK P w K mg base (c.cA 12) ["part"] 1 0 ["part"] gx_xk_BadStack_0_part := H.x_BadStack.clsK 0 ["part"] gx_xk_BadStack_0_part (fun _ _ _ _ _ _ _ _ u us ws h1 h2 => match us, h1, ws, h2 with | [], _, [_], _ => rfl) (fun r1 r2 => (r2.drop 0).take 1) (fun r1 r2 => (r2.drop 0).take 1)
def gx_xk_BadStack_1 {α : Type} (us ws : List α) : List α := us
theorem xk_BadStack_1 (H : Fc P w K mg base c) : XClsK P w K mg base (c.cA 12) ["part"] 1 1 [] gx_xk_BadStack_1 := H.x_BadStack.clsK 1 [] gx_xk_BadStack_1 (fun _ _ _ _ _ _ _ _ u us ws h1 h2 => match us, h1, ws, h2 with | [_], _, [], _ => rfl) (fun r1 r2 => r1) (fun r1 r2 => r1)
def gx_xk_BadPair_0_part {α : Type} (us ws : List α) : List α := (ws.drop 0).take 1
theorem xk_BadPair_0_part (H : Fc P w K mg base c) : XClsK P w K mg base (c.cA 11) ["part"] 1 0 ["part"] gx_xk_BadPair_0_part := H.x_BadPair.clsK 0 ["part"] gx_xk_BadPair_0_part (fun _ _ _ _ _ _ _ _ u us ws h1 h2 => match us, h1, ws, h2 with | [], _, [_], _ => rfl) (fun r1 r2 => (r2.drop 0).take 1) (fun r1 r2 => (r2.drop 0).take 1)
def gx_xk_BadPair_1 {α : Type} (us ws : List α) : List α := us
theorem xk_BadPair_1 (H : Fc P w K mg base c) : XClsK P w K mg base (c.cA 11) ["part"] 1 1 [] gx_xk_BadPair_1 := H.x_BadPair.clsK 1 [] gx_xk_BadPair_1 (fun _ _ _ _ _ _ _ _ u us ws h1 h2 => match us, h1, ws, h2 with | [_], _, [], _ => rfl) (fun r1 r2 => r1) (fun r1 r2 => r1)
def gx_xk_BadPlay_0_part {α : Type} (us ws : List α) : List α := (ws.drop 0).take 1
theorem xk_BadPlay_0_part (H : Fc P w K mg base c) : XClsK P w K mg base (c.cA 14) ["part"] 1 0 ["part"] gx_xk_BadPlay_0_part := H.x_BadPlay.clsK 0 ["part"] gx_xk_BadPlay_0_part (fun _ _ _ _ _ _ _ _ u us ws h1 h2 => match us, h1, ws, h2 with | [], _, [_], _ => rfl) (fun r1 r2 => (r2.drop 0).take 1) (fun r1 r2 => (r2.drop 0).take 1)
def gx_xk_BadPlay_1 {α : Type} (us ws : List α) : List α := us
theorem xk_BadPlay_1 (H : Fc P w K mg base c) : XClsK P w K mg base (c.cA 14) ["part"] 1 1 [] gx_xk_BadPlay_1 := H.x_BadPlay.clsK 1 [] gx_xk_BadPlay_1 (fun _ _ _ _ _ _ _ _ u us ws h1 h2 => match us, h1, ws, h2 with | [_], _, [], _ => rfl) (fun r1 r2 => r1) (fun r1 r2 => r1)
def gx_xk_BadRun_0_part {α : Type} (us ws : List α) : List α := (ws.drop 0).take 1
theorem xk_BadRun_0_part (H : Fc P w K mg base c) : XClsK P w K mg base (c.cA 13) ["part"] 1 0 ["part"] gx_xk_BadRun_0_part := H.x_BadRun.clsK 0 ["part"] gx_xk_BadRun_0_part (fun _ _ _ _ _ _ _ _ u us ws h1 h2 => match us, h1, ws, h2 with | [], _, [_], _ => rfl) (fun r1 r2 => (r2.drop 0).take 1) (fun r1 r2 => (r2.drop 0).take 1)
def gx_xk_BadRun_1 {α : Type} (us ws : List α) : List α := us
theorem xk_BadRun_1 (H : Fc P w K mg base c) : XClsK P w K mg base (c.cA 13) ["part"] 1 1 [] gx_xk_BadRun_1 := H.x_BadRun.clsK 1 [] gx_xk_BadRun_1 (fun _ _ _ _ _ _ _ _ u us ws h1 h2 => match us, h1, ws, h2 with | [_], _, [], _ => rfl) (fun r1 r2 => r1) (fun r1 r2 => r1)
def gx_xk_Clashing_0_part {α : Type} (us ws : List α) : List α := (ws.drop 0).take 1
theorem xk_Clashing_0_part (H : Fc P w K mg base c) : XClsK P w K mg base (c.cA 26) ["part"] 1 0 ["part"] gx_xk_Clashing_0_part := H.x_Clashing.clsK 0 ["part"] gx_xk_Clashing_0_part (fun _ _ _ _ _ _ _ _ u us ws h1 h2 => match us, h1, ws, h2 with | [], _, [_], _ => rfl) (fun r1 r2 => (r2.drop 0).take 1) (fun r1 r2 => (r2.drop 0).take 1)
def gx_xk_Clashing_1 {α : Type} (us ws : List α) : List α := us
theorem xk_Clashing_1 (H : Fc P w K mg base c) : XClsK P w K mg base (c.cA 26) ["part"] 1 1 [] gx_xk_Clashing_1 := H.x_Clashing.clsK 1 [] gx_xk_Clashing_1 (fun _ _ _ _ _ _ _ _ u us ws h1 h2 => match us, h1, ws, h2 with | [_], _, [], _ => rfl) (fun r1 r2 => r1) (fun r1 r2 => r1)
def gx_xk_BadLosses_0_value {α : Type} (us ws : List α) : List α := (ws.drop 0).take 1
theorem xk_BadLosses_0_value (H : Fc P w K mg base c) : XClsK P w K mg base (c.cA 7) ["value"] 1 0 ["value"] gx_xk_BadLosses_0_value := H.x_BadLosses.clsK 0 ["value"] gx_xk_BadLosses_0_value (fun _ _ _ _ _ _ _ _ u us ws h1 h2 => match us, h1, ws, h2 with | [], _, [_], _ => rfl) (fun r1 r2 => (r2.drop 0).take 1) (fun r1 r2 => (r2.drop 0).take 1)
def gx_xk_BadLosses_1 {α : Type} (us ws : List α) : List α := us
theorem xk_BadLosses_1 (H : Fc P w K mg base c) : XClsK P w K mg base (c.cA 7) ["value"] 1 1 [] gx_xk_BadLosses_1 := H.x_BadLosses.clsK 1 [] gx_xk_BadLosses_1 (fun _ _ _ _ _ _ _ _ u us ws h1 h2 => match us, h1, ws, h2 with | [_], _, [], _ => rfl) (fun r1 r2 => r1) (fun r1 r2 => r1)
def gx_xk_BadLetter_0_value {α : Type} (us ws : List α) : List α := (ws.drop 0).take 1
theorem xk_BadLetter_0_value (H : Fc P w K mg base c) : XClsK P w K mg base (c.cA 2) ["value"] 1 0 ["value"] gx_xk_BadLetter_0_value := H.x_BadLetter.clsK 0 ["value"] gx_xk_BadLetter_0_value (fun _ _ _ _ _ _ _ _ u us ws h1 h2 => match us, h1, ws, h2 with | [], _, [_], _ => rfl) (fun r1 r2 => (r2.drop 0).take 1) (fun r1 r2 => (r2.drop 0).take 1)
def gx_xk_BadLetter_1 {α : Type} (us ws : List α) : List α := us
theorem xk_BadLetter_1 (H : Fc P w K mg base c) : XClsK P w K mg base (c.cA 2) ["value"] 1 1 [] gx_xk_BadLetter_1 := H.x_BadLetter.clsK 1 [] gx_xk_BadLetter_1 (fun _ _ _ _ _ _ _ _ u us ws h1 h2 => match us, h1, ws, h2 with | [_], _, [], _ => rfl) (fun r1 r2 => r1) (fun r1 r2 => r1)
def gx_xk_BadName_0_value {α : Type} (us ws : List α) : List α := (ws.drop 0).take 1
theorem xk_BadName_0_value (H : Fc P w K mg base c) : XClsK P w K mg base (c.cA 18) ["value"] 1 0 ["value"] gx_xk_BadName_0_value := H.x_BadName.clsK 0 ["value"] gx_xk_BadName_0_value (fun _ _ _ _ _ _ _ _ u us ws h1 h2 => match us, h1, ws, h2 with | [], _, [_], _ => rfl) (fun r1 r2 => (r2.drop 0).take 1) (fun r1 r2 => (r2.drop 0).take 1)
def gx_xk_BadName_1 {α : Type} (us ws : List α) : List α := us
theorem xk_BadName_1 (H : Fc P w K mg base c) : XClsK P w K mg base (c.cA 18) ["value"] 1 1 [] gx_xk_BadName_1 := H.x_BadName.clsK 1 [] gx_xk_BadName_1 (fun _ _ _ _ _ _ _ _ u us ws h1 h2 => match us, h1, ws, h2 with | [_], _, [], _ => rfl) (fun r1 r2 => r1) (fun r1 r2 => r1)
def gx_xk_BadNumber_0_value {α : Type} (us ws : List α) : List α := (ws.drop 0).take 1
theorem xk_BadNumber_0_value (H : Fc P w K mg base c) : XClsK P w K mg base (c.cA 15) ["value"] 1 0 ["value"] gx_xk_BadNumber_0_value := H.x_BadNumber.clsK 0 ["value"] gx_xk_BadNumber_0_value (fun _ _ _ _ _ _ _ _ u us ws h1 h2 => match us, h1, ws, h2 with | [], _, [_], _ => rfl) (fun r1 r2 => (r2.drop 0).take 1) (fun r1 r2 => (r2.drop 0).take 1)
def gx_xk_BadNumber_1 {α : Type} (us ws : List α) : List α := us
theorem xk_BadNumber_1 (H : Fc P w K mg base c) : XClsK P w K mg base (c.cA 15) ["value"] 1 1 [] gx_xk_BadNumber_1 := H.x_BadNumber.clsK 1 [] gx_xk_BadNumber_1 (fun _ _ _ _ _ _ _ _ u us ws h1 h2 => match us, h1, ws, h2 with | [_], _, [], _ => rfl) (fun r1 r2 => r1) (fun r1 r2 => r1)
def gx_xk_NoName_0_name {α : Type} (us ws : List α) : List α := (ws.drop 0).take 1
theorem xk_NoName_0_name (H : Fc P w K mg base c) : XClsK P w K mg base (c.cA 19) ["name"] 1 0 ["name"] gx_xk_NoName_0_name := H.x_NoName.clsK 0 ["name"] gx_xk_NoName_0_name (fun _ _ _ _ _ _ _ _ u us ws h1 h2 => match us, h1, ws, h2 with | [], _, [_], _ => rfl) (fun r1 r2 => (r2.drop 0).take 1) (fun r1 r2 => (r2.drop 0).take 1)
def gx_xk_NoName_1 {α : Type} (us ws : List α) : List α := us
theorem xk_NoName_1 (H : Fc P w K mg base c) : XClsK P w K mg base (c.cA 19) ["name"] 1 1 [] gx_xk_NoName_1 := H.x_NoName.clsK 1 [] gx_xk_NoName_1 (fun _ _ _ _ _ _ _ _ u us ws h1 h2 => match us, h1, ws, h2 with | [_], _, [], _ => rfl) (fun r1 r2 => r1) (fun r1 r2 => r1)
def gx_xk_BadCommand_0_word {α : Type} (us ws : List α) : List α := (ws.drop 0).take 1
theorem xk_BadCommand_0_word (H : Fc P w K mg base c) : XClsK P w K mg base (c.cA 17) ["word"] 1 0 ["word"] gx_xk_BadCommand_0_word := H.x_BadCommand.clsK 0 ["word"] gx_xk_BadCommand_0_word (fun _ _ _ _ _ _ _ _ u us ws h1 h2 => match us, h1, ws, h2 with | [], _, [_], _ => rfl) (fun r1 r2 => (r2.drop 0).take 1) (fun r1 r2 => (r2.drop 0).take 1)
def gx_xk_BadCommand_1 {α : Type} (us ws : List α) : List α := us
theorem xk_BadCommand_1 (H : Fc P w K mg base c) : XClsK P w K mg base (c.cA 17) ["word"] 1 1 [] gx_xk_BadCommand_1 := H.x_BadCommand.clsK 1 [] gx_xk_BadCommand_1 (fun _ _ _ _ _ _ _ _ u us ws h1 h2 => match us, h1, ws, h2 with | [_], _, [], _ => rfl) (fun r1 r2 => r1) (fun r1 r2 => r1)
def gx_xk_NoHouse_0_name {α : Type} (us ws : List α) : List α := (ws.drop 0).take 1
theorem xk_NoHouse_0_name (H : Fc P w K mg base c) : XClsK P w K mg base (c.cA 21) ["name"] 1 0 ["name"] gx_xk_NoHouse_0_name := H.x_NoHouse.clsK 0 ["name"] gx_xk_NoHouse_0_name (fun _ _ _ _ _ _ _ _ u us ws h1 h2 => match us, h1, ws, h2 with | [], _, [_], _ => rfl) (fun r1 r2 => (r2.drop 0).take 1) (fun r1 r2 => (r2.drop 0).take 1)
def gx_xk_NoHouse_1 {α : Type} (us ws : List α) : List α := us
theorem xk_NoHouse_1 (H : Fc P w K mg base c) : XClsK P w K mg base (c.cA 21) ["name"] 1 1 [] gx_xk_NoHouse_1 := H.x_NoHouse.clsK 1 [] gx_xk_NoHouse_1 (fun _ _ _ _ _ _ _ _ u us ws h1 h2 => match us, h1, ws, h2 with | [_], _, [], _ => rfl) (fun r1 r2 => r1) (fun r1 r2 => r1)
def gx_xk_NoFlow_0_name {α : Type} (us ws : List α) : List α := (ws.drop 0).take 1
theorem xk_NoFlow_0_name (H : Fc P w K mg base c) : XClsK P w K mg base (c.cA 20) ["name"] 1 0 ["name"] gx_xk_NoFlow_0_name := H.x_NoFlow.clsK 0 ["name"] gx_xk_NoFlow_0_name (fun _ _ _ _ _ _ _ _ u us ws h1 h2 => match us, h1, ws, h2 with | [], _, [_], _ => rfl) (fun r1 r2 => (r2.drop 0).take 1) (fun r1 r2 => (r2.drop 0).take 1)
def gx_xk_NoFlow_1 {α : Type} (us ws : List α) : List α := us
theorem xk_NoFlow_1 (H : Fc P w K mg base c) : XClsK P w K mg base (c.cA 20) ["name"] 1 1 [] gx_xk_NoFlow_1 := H.x_NoFlow.clsK 1 [] gx_xk_NoFlow_1 (fun _ _ _ _ _ _ _ _ u us ws h1 h2 => match us, h1, ws, h2 with | [_], _, [], _ => rfl) (fun r1 r2 => r1) (fun r1 r2 => r1)
def gx_xk_NoLane_0_key {α : Type} (us ws : List α) : List α := (ws.drop 0).take 1
theorem xk_NoLane_0_key (H : Fc P w K mg base c) : XClsK P w K mg base (c.cA 23) ["key"] 1 0 ["key"] gx_xk_NoLane_0_key := H.x_NoLane.clsK 0 ["key"] gx_xk_NoLane_0_key (fun _ _ _ _ _ _ _ _ u us ws h1 h2 => match us, h1, ws, h2 with | [], _, [_], _ => rfl) (fun r1 r2 => (r2.drop 0).take 1) (fun r1 r2 => (r2.drop 0).take 1)
def gx_xk_NoLane_1 {α : Type} (us ws : List α) : List α := us
theorem xk_NoLane_1 (H : Fc P w K mg base c) : XClsK P w K mg base (c.cA 23) ["key"] 1 1 [] gx_xk_NoLane_1 := H.x_NoLane.clsK 1 [] gx_xk_NoLane_1 (fun _ _ _ _ _ _ _ _ u us ws h1 h2 => match us, h1, ws, h2 with | [_], _, [], _ => rfl) (fun r1 r2 => r1) (fun r1 r2 => r1)
def gx_xk_NoLink_0_name {α : Type} (us ws : List α) : List α := (ws.drop 0).take 1
theorem xk_NoLink_0_name (H : Fc P w K mg base c) : XClsK P w K mg base (c.cA 22) ["name"] 1 0 ["name"] gx_xk_NoLink_0_name := H.x_NoLink.clsK 0 ["name"] gx_xk_NoLink_0_name (fun _ _ _ _ _ _ _ _ u us ws h1 h2 => match us, h1, ws, h2 with | [], _, [_], _ => rfl) (fun r1 r2 => (r2.drop 0).take 1) (fun r1 r2 => (r2.drop 0).take 1)
def gx_xk_NoLink_1 {α : Type} (us ws : List α) : List α := us
theorem xk_NoLink_1 (H : Fc P w K mg base c) : XClsK P w K mg base (c.cA 22) ["name"] 1 1 [] gx_xk_NoLink_1 := H.x_NoLink.clsK 1 [] gx_xk_NoLink_1 (fun _ _ _ _ _ _ _ _ u us ws h1 h2 => match us, h1, ws, h2 with | [_], _, [], _ => rfl) (fun r1 r2 => r1) (fun r1 r2 => r1)
def gx_xk_NoPhase_0_at {α : Type} (us ws : List α) : List α := (ws.drop 0).take 1
theorem xk_NoPhase_0_at (H : Fc P w K mg base c) : XClsK P w K mg base (c.cA 25) ["at"] 1 0 ["at"] gx_xk_NoPhase_0_at := H.x_NoPhase.clsK 0 ["at"] gx_xk_NoPhase_0_at (fun _ _ _ _ _ _ _ _ u us ws h1 h2 => match us, h1, ws, h2 with | [], _, [_], _ => rfl) (fun r1 r2 => (r2.drop 0).take 1) (fun r1 r2 => (r2.drop 0).take 1)
def gx_xk_NoPhase_1 {α : Type} (us ws : List α) : List α := us
theorem xk_NoPhase_1 (H : Fc P w K mg base c) : XClsK P w K mg base (c.cA 25) ["at"] 1 1 [] gx_xk_NoPhase_1 := H.x_NoPhase.clsK 1 [] gx_xk_NoPhase_1 (fun _ _ _ _ _ _ _ _ u us ws h1 h2 => match us, h1, ws, h2 with | [_], _, [], _ => rfl) (fun r1 r2 => r1) (fun r1 r2 => r1)
def gx_xk_NoLine_0_key {α : Type} (us ws : List α) : List α := (ws.drop 0).take 1
theorem xk_NoLine_0_key (H : Fc P w K mg base c) : XClsK P w K mg base (c.cA 24) ["key"] 1 0 ["key"] gx_xk_NoLine_0_key := H.x_NoLine.clsK 0 ["key"] gx_xk_NoLine_0_key (fun _ _ _ _ _ _ _ _ u us ws h1 h2 => match us, h1, ws, h2 with | [], _, [_], _ => rfl) (fun r1 r2 => (r2.drop 0).take 1) (fun r1 r2 => (r2.drop 0).take 1)
def gx_xk_NoLine_1 {α : Type} (us ws : List α) : List α := us
theorem xk_NoLine_1 (H : Fc P w K mg base c) : XClsK P w K mg base (c.cA 24) ["key"] 1 1 [] gx_xk_NoLine_1 := H.x_NoLine.clsK 1 [] gx_xk_NoLine_1 (fun _ _ _ _ _ _ _ _ u us ws h1 h2 => match us, h1, ws, h2 with | [_], _, [], _ => rfl) (fun r1 r2 => r1) (fun r1 r2 => r1)
def gx_xk_BadText_0_word_line {α : Type} (us ws : List α) : List α := (ws.drop 1).take 1 ++ (ws.drop 0).take 1
theorem xk_BadText_0_word_line (H : Fc P w K mg base c) : XClsK P w K mg base (c.cA 16) ["line", "word"] 1 0 ["word", "line"] gx_xk_BadText_0_word_line := H.x_BadText.clsK 0 ["word", "line"] gx_xk_BadText_0_word_line (fun _ _ _ _ _ _ _ _ u us ws h1 h2 => match us, h1, ws, h2 with | [], _, [_, _], _ => rfl) (fun r1 r2 => ((r2.drop 1).take 1).append ((r2.drop 0).take 1)) (fun r1 r2 => ((r2.drop 1).take 1).append ((r2.drop 0).take 1))
def gx_xk_BadText_2 {α : Type} (us ws : List α) : List α := us
theorem xk_BadText_2 (H : Fc P w K mg base c) : XClsK P w K mg base (c.cA 16) ["line", "word"] 1 2 [] gx_xk_BadText_2 := H.x_BadText.clsK 2 [] gx_xk_BadText_2 (fun _ _ _ _ _ _ _ _ u us ws h1 h2 => match us, h1, ws, h2 with | [_, _], _, [], _ => rfl) (fun r1 r2 => r1) (fun r1 r2 => r1)
def gx_xk_TooMany_0_most_what {α : Type} (us ws : List α) : List α := (ws.drop 1).take 1 ++ (ws.drop 0).take 1
theorem xk_TooMany_0_most_what (H : Fc P w K mg base c) : XClsK P w K mg base (c.cA 28) ["what", "most"] 1 0 ["most", "what"] gx_xk_TooMany_0_most_what := H.x_TooMany.clsK 0 ["most", "what"] gx_xk_TooMany_0_most_what (fun _ _ _ _ _ _ _ _ u us ws h1 h2 => match us, h1, ws, h2 with | [], _, [_, _], _ => rfl) (fun r1 r2 => ((r2.drop 1).take 1).append ((r2.drop 0).take 1)) (fun r1 r2 => ((r2.drop 1).take 1).append ((r2.drop 0).take 1))
def gx_xk_TooMany_2 {α : Type} (us ws : List α) : List α := us
theorem xk_TooMany_2 (H : Fc P w K mg base c) : XClsK P w K mg base (c.cA 28) ["what", "most"] 1 2 [] gx_xk_TooMany_2 := H.x_TooMany.clsK 2 [] gx_xk_TooMany_2 (fun _ _ _ _ _ _ _ _ u us ws h1 h2 => match us, h1, ws, h2 with | [_, _], _, [], _ => rfl) (fun r1 r2 => r1) (fun r1 r2 => r1)
theorem sc_is_integer : FnScope ["value"] ["value"] (defScope s_is_integer) := ⟨rfl, rfl, rfl, by decide +kernel, rfl, by decide +kernel, by decide +kernel⟩
def m_is_integer : Gm → T Fl := mRet (mAndV (mIsi isT (mVar 0) (mC (.ty "int"))) (mNotV (mIsi isT (mVar 0) (mC (.ty "bool")))))
def r_is_integer : List D → T D := runB 1 1 m_is_integer
theorem ok_is_integer (H : Fc P w K mg base c) {fd : FuncData} (F : FunD K "is_integer" "is_integer" (defArgs s_is_integer) (defBody s_is_integer) (defScope s_is_integer) [] [] (He.fAd K ("is_integer", none)) fd) : DL.FnOk P w K mg base (CX P w) 1 (He.fAd K ("is_integer", none)) fd ["value"] (spD c K r_is_integer) :=
  fnD F sc_is_integer (by decide) fun cdv A outer s H0 E hcd hr => dss_one (ds_ret (de_and (de_isi H.isF H.b_isinstance (de_var 0) (de_ty rfl H.b_int PyProof.Rows.Boot.«int»)) (de_one (de_not (de_isi H.isF H.b_isinstance (de_var 0) (de_ty rfl H.b_bool PyProof.Rows.Boot.«bool»))))))
def ma_is_integer_1 := posM 1 r_is_integer []
theorem a_is_integer_1 (H : Fc P w K mg base c) : FnA P w K mg base 1 (He.fAd K ("is_integer", none)) [] (spD c K ma_is_integer_1) := by
  obtain ⟨fd, F⟩ := H.d_is_integer
  exact FnA.pos 1 (ok_is_integer H F) (F.bindsN fun _ _ _ _ _ _ us hl => match us, hl with | [_], _ => rfl) .nil (fun _ => .nil)
def ma_is_integer_0_value := kwM 0 1 r_is_integer (fun us ws => (ws.drop 0).take 1)
theorem a_is_integer_0_value (H : Fc P w K mg base c) : FnA P w K mg base 1 (He.fAd K ("is_integer", none)) ["value"] (spD c K ma_is_integer_0_value) := by
  obtain ⟨fd, F⟩ := H.d_is_integer
  have b := kbN F (ps := ["value"]) 0 ["value"] (fun us ws => (ws.drop 0).take 1) (fun r1 r3 => (r3.drop 0).take 1) (fun kV doc pm an cdv ct us ws h1 h3 => match us, h1, ws, h3 with | [], _, [_], _ => rfl)
  exact FnA.kw 0 (ok_is_integer H F) b (fun {F0 vs zs ds es} rd re => by
    have dd : Dats c K F0 ([] : List V) ([] : List D) := .nil
    exact (re.drop 0).take 1)
theorem sc_is_within : FnScope ["value", "least", "most"] ["value", "least", "most"] (defScope s_is_within) := ⟨rfl, rfl, rfl, by decide +kernel, rfl, by decide +kernel, by decide +kernel⟩
def m_is_within : Gm → T Fl := mRet (mAndV (mCall ma_is_integer_1 (aCons (mVar 0) (aNil))) (mChain gLe gLe (mVar 1) (mVar 0) (mVar 2)))
def r_is_within : List D → T D := runB 3 3 m_is_within
theorem ok_is_within (H : Fc P w K mg base c) {fd : FuncData} (F : FunD K "is_within" "is_within" (defArgs s_is_within) (defBody s_is_within) (defScope s_is_within) [] [] (He.fAd K ("is_within", none)) fd) : DL.FnOk P w K mg base (CX P w) 2 (He.fAd K ("is_within", none)) fd ["value", "least", "most"] (spD c K r_is_within) :=
  fnD F sc_is_within (by decide) fun cdv A outer s H0 E hcd hr => dss_one (ds_ret (de_and (de_call (a_is_integer_1 H) (hr.mono (by decide)) (takes_of rfl rfl rfl rfl) H.g_is_integer H.k_is_integer (dc_pos (da_cons (de_var 0) (da_nil)))) (de_one (de_chain o_le o_le (de_var 1) (de_var 0) (de_var 2)))))
def ma_is_within_3 := posM 3 r_is_within []
theorem a_is_within_3 (H : Fc P w K mg base c) : FnA P w K mg base 2 (He.fAd K ("is_within", none)) [] (spD c K ma_is_within_3) := by
  obtain ⟨fd, F⟩ := H.d_is_within
  exact FnA.pos 3 (ok_is_within H F) (F.bindsN fun _ _ _ _ _ _ us hl => match us, hl with | [_, _, _], _ => rfl) .nil (fun _ => .nil)
def ma_is_within_0_most_least_value := kwM 0 3 r_is_within (fun us ws => (ws.drop 2).take 1 ++ ((ws.drop 1).take 1 ++ ((ws.drop 0).take 1)))
theorem a_is_within_0_most_least_value (H : Fc P w K mg base c) : FnA P w K mg base 2 (He.fAd K ("is_within", none)) ["most", "least", "value"] (spD c K ma_is_within_0_most_least_value) := by
  obtain ⟨fd, F⟩ := H.d_is_within
  have b := kbN F (ps := ["value", "least", "most"]) 0 ["most", "least", "value"] (fun us ws => (ws.drop 2).take 1 ++ ((ws.drop 1).take 1 ++ ((ws.drop 0).take 1))) (fun r1 r3 => ((r3.drop 2).take 1).append (((r3.drop 1).take 1).append ((r3.drop 0).take 1))) (fun kV doc pm an cdv ct us ws h1 h3 => match us, h1, ws, h3 with | [], _, [_, _, _], _ => rfl)
  exact FnA.kw 0 (ok_is_within H F) b (fun {F0 vs zs ds es} rd re => by
    have dd : Dats c K F0 ([] : List V) ([] : List D) := .nil
    exact ((re.drop 2).take 1).append (((re.drop 1).take 1).append ((re.drop 0).take 1)))
theorem sc_is_name : FnScope ["value", "letter"] ["value"] (defScope s_is_name) := ⟨rfl, rfl, rfl, by decide +kernel, rfl, by decide +kernel, by decide +kernel⟩
def m_is_name : Gm → T Fl := mSeq (mIfS (tOrM (tNotM (mTru (mIsi isT (mVar 0) (mC (.ty "str"))))) (tNotM (mChainT gLe gLe (mC (.int 1)) (mUn gLen (mVar 0)) (mC (.int 8))))) (mRet (mC (.bl false))) (mNx)) (mRet (mUn gAll (mLc (iAny (mVar 0)) (gmName 1) (tYesM) (mBin gInP (mVar 1) (mC (.str "abcdefghijklmnopqrstuvwxyz"))) [1])))
def r_is_name : List D → T D := runB 1 2 m_is_name
theorem ok_is_name (H : Fc P w K mg base c) {fd : FuncData} (F : FunD K "is_name" "is_name" (defArgs s_is_name) (defBody s_is_name) (defScope s_is_name) [] [] (He.fAd K ("is_name", none)) fd) : DL.FnOk P w K mg base (CX P w) 1 (He.fAd K ("is_name", none)) fd ["value"] (spD c K r_is_name) :=
  fnD F sc_is_name (by decide) fun cdv A outer s H0 E hcd hr => dss_cons (ds_if (dt_or (dt_not (dt_tru (de_isi H.isF H.b_isinstance (de_var 0) (de_ty rfl H.b_str PyProof.Rows.Boot.«str»)))) (dw_or1 (dt_not (dt_chain o_le o_le (de_int) (de_b1 b_len bi_len H.b_len PyProof.Rows.Boot.«len» (de_var 0)) (de_int))))) (dss_one (ds_ret (de_bl))) (dss_nil)) (dss_one (ds_ret (de_b1 (cr_all rfl) bi_all H.b_all PyProof.Rows.Boot.«all» (de_lc (own := [("letter", 1)]) rfl sc_is_name.nd (di_any (de_var 0)) rfl (fun _ _ _ _ _ => dg_name 1 sc_is_name.nd) (fun _ _ _ _ _ => dts_nil) (fun _ _ _ _ _ => de_cmp o_inP (de_var 1) (de_con H.c_LETTERS))))))
def ma_is_name_1 := posM 1 r_is_name []
theorem a_is_name_1 (H : Fc P w K mg base c) : FnA P w K mg base 1 (He.fAd K ("is_name", none)) [] (spD c K ma_is_name_1) := by
  obtain ⟨fd, F⟩ := H.d_is_name
  exact FnA.pos 1 (ok_is_name H F) (F.bindsN fun _ _ _ _ _ _ us hl => match us, hl with | [_], _ => rfl) .nil (fun _ => .nil)
def ma_is_name_0_value := kwM 0 1 r_is_name (fun us ws => (ws.drop 0).take 1)
theorem a_is_name_0_value (H : Fc P w K mg base c) : FnA P w K mg base 1 (He.fAd K ("is_name", none)) ["value"] (spD c K ma_is_name_0_value) := by
  obtain ⟨fd, F⟩ := H.d_is_name
  have b := kbN F (ps := ["value"]) 0 ["value"] (fun us ws => (ws.drop 0).take 1) (fun r1 r3 => (r3.drop 0).take 1) (fun kV doc pm an cdv ct us ws h1 h3 => match us, h1, ws, h3 with | [], _, [_], _ => rfl)
  exact FnA.kw 0 (ok_is_name H F) b (fun {F0 vs zs ds es} rd re => by
    have dd : Dats c K F0 ([] : List V) ([] : List D) := .nil
    exact (re.drop 0).take 1)
theorem sc_is_signs : FnScope ["value", "sign"] ["value"] (defScope s_is_signs) := ⟨rfl, rfl, rfl, by decide +kernel, rfl, by decide +kernel, by decide +kernel⟩
def m_is_signs : Gm → T Fl := mRet (mAndV (mIsi isT (mVar 0) (mC (.ty "str"))) (mUn gAll (mLc (iAny (mVar 0)) (gmName 1) (tYesM) (mBin gInP (mVar 1) (mC (.str "01"))) [1])))
def r_is_signs : List D → T D := runB 1 2 m_is_signs
theorem ok_is_signs (H : Fc P w K mg base c) {fd : FuncData} (F : FunD K "is_signs" "is_signs" (defArgs s_is_signs) (defBody s_is_signs) (defScope s_is_signs) [] [] (He.fAd K ("is_signs", none)) fd) : DL.FnOk P w K mg base (CX P w) 1 (He.fAd K ("is_signs", none)) fd ["value"] (spD c K r_is_signs) :=
  fnD F sc_is_signs (by decide) fun cdv A outer s H0 E hcd hr => dss_one (ds_ret (de_and (de_isi H.isF H.b_isinstance (de_var 0) (de_ty rfl H.b_str PyProof.Rows.Boot.«str»)) (de_one (de_b1 (cr_all rfl) bi_all H.b_all PyProof.Rows.Boot.«all» (de_lc (own := [("sign", 1)]) rfl sc_is_signs.nd (di_any (de_var 0)) rfl (fun _ _ _ _ _ => dg_name 1 sc_is_signs.nd) (fun _ _ _ _ _ => dts_nil) (fun _ _ _ _ _ => de_cmp o_inP (de_var 1) (de_str)))))))
def ma_is_signs_1 := posM 1 r_is_signs []
theorem a_is_signs_1 (H : Fc P w K mg base c) : FnA P w K mg base 1 (He.fAd K ("is_signs", none)) [] (spD c K ma_is_signs_1) := by
  obtain ⟨fd, F⟩ := H.d_is_signs
  exact FnA.pos 1 (ok_is_signs H F) (F.bindsN fun _ _ _ _ _ _ us hl => match us, hl with | [_], _ => rfl) .nil (fun _ => .nil)
def ma_is_signs_0_value := kwM 0 1 r_is_signs (fun us ws => (ws.drop 0).take 1)
theorem a_is_signs_0_value (H : Fc P w K mg base c) : FnA P w K mg base 1 (He.fAd K ("is_signs", none)) ["value"] (spD c K ma_is_signs_0_value) := by
  obtain ⟨fd, F⟩ := H.d_is_signs
  have b := kbN F (ps := ["value"]) 0 ["value"] (fun us ws => (ws.drop 0).take 1) (fun r1 r3 => (r3.drop 0).take 1) (fun kV doc pm an cdv ct us ws h1 h3 => match us, h1, ws, h3 with | [], _, [_], _ => rfl)
  exact FnA.kw 0 (ok_is_signs H F) b (fun {F0 vs zs ds es} rd re => by
    have dd : Dats c K F0 ([] : List V) ([] : List D) := .nil
    exact (re.drop 0).take 1)
theorem sc_is_letter : FnScope ["value"] ["value"] (defScope s_is_letter) := ⟨rfl, rfl, rfl, by decide +kernel, rfl, by decide +kernel, by decide +kernel⟩
def m_is_letter : Gm → T Fl := mRet (mAndV (mCall ma_is_signs_1 (aCons (mVar 0) (aNil))) (mBin gLe (mUn gLen (mVar 0)) (mC (.int 200))))
def r_is_letter : List D → T D := runB 1 1 m_is_letter
theorem ok_is_letter (H : Fc P w K mg base c) {fd : FuncData} (F : FunD K "is_letter" "is_letter" (defArgs s_is_letter) (defBody s_is_letter) (defScope s_is_letter) [] [] (He.fAd K ("is_letter", none)) fd) : DL.FnOk P w K mg base (CX P w) 2 (He.fAd K ("is_letter", none)) fd ["value"] (spD c K r_is_letter) :=
  fnD F sc_is_letter (by decide) fun cdv A outer s H0 E hcd hr => dss_one (ds_ret (de_and (de_call (a_is_signs_1 H) (hr.mono (by decide)) (takes_of rfl rfl rfl rfl) H.g_is_signs H.k_is_signs (dc_pos (da_cons (de_var 0) (da_nil)))) (de_one (de_cmp o_le (de_b1 b_len bi_len H.b_len PyProof.Rows.Boot.«len» (de_var 0)) (de_con H.c_MOST_SIGNS)))))
def ma_is_letter_1 := posM 1 r_is_letter []
theorem a_is_letter_1 (H : Fc P w K mg base c) : FnA P w K mg base 2 (He.fAd K ("is_letter", none)) [] (spD c K ma_is_letter_1) := by
  obtain ⟨fd, F⟩ := H.d_is_letter
  exact FnA.pos 1 (ok_is_letter H F) (F.bindsN fun _ _ _ _ _ _ us hl => match us, hl with | [_], _ => rfl) .nil (fun _ => .nil)
def ma_is_letter_0_value := kwM 0 1 r_is_letter (fun us ws => (ws.drop 0).take 1)
theorem a_is_letter_0_value (H : Fc P w K mg base c) : FnA P w K mg base 2 (He.fAd K ("is_letter", none)) ["value"] (spD c K ma_is_letter_0_value) := by
  obtain ⟨fd, F⟩ := H.d_is_letter
  have b := kbN F (ps := ["value"]) 0 ["value"] (fun us ws => (ws.drop 0).take 1) (fun r1 r3 => (r3.drop 0).take 1) (fun kV doc pm an cdv ct us ws h1 h3 => match us, h1, ws, h3 with | [], _, [_], _ => rfl)
  exact FnA.kw 0 (ok_is_letter H F) b (fun {F0 vs zs ds es} rd re => by
    have dd : Dats c K F0 ([] : List V) ([] : List D) := .nil
    exact (re.drop 0).take 1)
theorem sc__law_pick : FnScope ["_law_pen_here", "_law_some"] ["_law_pen_here", "_law_some"] (defScope s__law_pick) := ⟨rfl, rfl, rfl, by decide +kernel, rfl, by decide +kernel, by decide +kernel⟩
def m__law_pick : Gm → T Fl := mRet (mBin gIx (mVar 1) (mCall ma__law_draw_2 (aCons (mVar 0) (aCons (mUn gLen (mVar 1)) (aNil)))))
def r__law_pick : List D → T D := runB 2 2 m__law_pick
theorem ok__law_pick (H : Fc P w K mg base c) {fd : FuncData} (F : FunD K "_law_pick" "_law_pick" (defArgs s__law_pick) (defBody s__law_pick) (defScope s__law_pick) [] [] (He.fAd K ("_law_pick", none)) fd) : DL.FnOk P w K mg base (CX P w) 2 (He.fAd K ("_law_pick", none)) fd ["_law_pen_here", "_law_some"] (spD c K r__law_pick) :=
  fnD F sc__law_pick (by decide) fun cdv A outer s H0 E hcd hr => dss_one (ds_ret (de_ix (de_var 1) (de_call (a__law_draw_2 H) (hr.mono (by decide)) (takes_of rfl rfl rfl rfl) H.g__law_draw H.k__law_draw (dc_pos (da_cons (de_var 0) (da_cons (de_b1 b_len bi_len H.b_len PyProof.Rows.Boot.«len» (de_var 1)) (da_nil)))))))
def ma__law_pick_2 := posM 2 r__law_pick []
theorem a__law_pick_2 (H : Fc P w K mg base c) : FnA P w K mg base 2 (He.fAd K ("_law_pick", none)) [] (spD c K ma__law_pick_2) := by
  obtain ⟨fd, F⟩ := H.d__law_pick
  exact FnA.pos 2 (ok__law_pick H F) (F.bindsN fun _ _ _ _ _ _ us hl => match us, hl with | [_, _], _ => rfl) .nil (fun _ => .nil)
theorem sc__law_parts : FnScope ["_law_value", "_law_found"] ["_law_value"] (defScope s__law_parts) := ⟨rfl, rfl, rfl, by decide +kernel, rfl, by decide +kernel, by decide +kernel⟩
def st__law_parts_1 : Gm → T Fl := mSet 1 (mLst (aCons (mTup (aCons (mMkx 1 ["part"] 1 0 (gx_xk_BadGrowth_1) (aCons (mVar 0) (aNil))) (aCons (mUn (gXf [1, 3, 4, 5, 6, 8, 9, 10, 11, 12, 13, 14, 26] "part") (mMkx 1 ["part"] 0 1 (gx_xk_BadGrowth_0_part) (aKw 1 (aCons (mVar 0) (aNil))))) (aNil)))) (aCons (mTup (aCons (mMkx 3 ["part"] 1 0 (gx_xk_BadFrame_1) (aCons (mVar 0) (aNil))) (aCons (mUn (gXf [1, 3, 4, 5, 6, 8, 9, 10, 11, 12, 13, 14, 26] "part") (mMkx 3 ["part"] 0 1 (gx_xk_BadFrame_0_part) (aKw 1 (aCons (mVar 0) (aNil))))) (aNil)))) (aNil))))
def st__law_parts_2 : Gm → T Fl := mSet 1 (mBin gAdd (mVar 1) (mLst (aCons (mTup (aCons (mMkx 4 ["part"] 1 0 (gx_xk_BadCell_1) (aCons (mVar 0) (aNil))) (aCons (mUn (gXf [1, 3, 4, 5, 6, 8, 9, 10, 11, 12, 13, 14, 26] "part") (mMkx 4 ["part"] 0 1 (gx_xk_BadCell_0_part) (aKw 1 (aCons (mVar 0) (aNil))))) (aNil)))) (aCons (mTup (aCons (mMkx 5 ["part"] 1 0 (gx_xk_BadPlan_1) (aCons (mVar 0) (aNil))) (aCons (mUn (gXf [1, 3, 4, 5, 6, 8, 9, 10, 11, 12, 13, 14, 26] "part") (mMkx 5 ["part"] 0 1 (gx_xk_BadPlan_0_part) (aKw 1 (aCons (mVar 0) (aNil))))) (aNil)))) (aNil)))))
def st__law_parts_3 : Gm → T Fl := mSet 1 (mBin gAdd (mVar 1) (mLst (aCons (mTup (aCons (mMkx 6 ["part"] 1 0 (gx_xk_BadRule_1) (aCons (mVar 0) (aNil))) (aCons (mUn (gXf [1, 3, 4, 5, 6, 8, 9, 10, 11, 12, 13, 14, 26] "part") (mMkx 6 ["part"] 0 1 (gx_xk_BadRule_0_part) (aKw 1 (aCons (mVar 0) (aNil))))) (aNil)))) (aCons (mTup (aCons (mMkx 8 ["part"] 1 0 (gx_xk_BadRound_1) (aCons (mVar 0) (aNil))) (aCons (mUn (gXf [1, 3, 4, 5, 6, 8, 9, 10, 11, 12, 13, 14, 26] "part") (mMkx 8 ["part"] 0 1 (gx_xk_BadRound_0_part) (aKw 1 (aCons (mVar 0) (aNil))))) (aNil)))) (aNil)))))
def st__law_parts_4 : Gm → T Fl := mSet 1 (mBin gAdd (mVar 1) (mLst (aCons (mTup (aCons (mMkx 9 ["part"] 1 0 (gx_xk_BadNet_1) (aCons (mVar 0) (aNil))) (aCons (mUn (gXf [1, 3, 4, 5, 6, 8, 9, 10, 11, 12, 13, 14, 26] "part") (mMkx 9 ["part"] 0 1 (gx_xk_BadNet_0_part) (aKw 1 (aCons (mVar 0) (aNil))))) (aNil)))) (aCons (mTup (aCons (mMkx 10 ["part"] 1 0 (gx_xk_BadTable_1) (aCons (mVar 0) (aNil))) (aCons (mUn (gXf [1, 3, 4, 5, 6, 8, 9, 10, 11, 12, 13, 14, 26] "part") (mMkx 10 ["part"] 0 1 (gx_xk_BadTable_0_part) (aKw 1 (aCons (mVar 0) (aNil))))) (aNil)))) (aNil)))))
def st__law_parts_5 : Gm → T Fl := mSet 1 (mBin gAdd (mVar 1) (mLst (aCons (mTup (aCons (mMkx 11 ["part"] 1 0 (gx_xk_BadPair_1) (aCons (mVar 0) (aNil))) (aCons (mUn (gXf [1, 3, 4, 5, 6, 8, 9, 10, 11, 12, 13, 14, 26] "part") (mMkx 11 ["part"] 0 1 (gx_xk_BadPair_0_part) (aKw 1 (aCons (mVar 0) (aNil))))) (aNil)))) (aCons (mTup (aCons (mMkx 12 ["part"] 1 0 (gx_xk_BadStack_1) (aCons (mVar 0) (aNil))) (aCons (mUn (gXf [1, 3, 4, 5, 6, 8, 9, 10, 11, 12, 13, 14, 26] "part") (mMkx 12 ["part"] 0 1 (gx_xk_BadStack_0_part) (aKw 1 (aCons (mVar 0) (aNil))))) (aNil)))) (aNil)))))
def st__law_parts_6 : Gm → T Fl := mSet 1 (mBin gAdd (mVar 1) (mLst (aCons (mTup (aCons (mMkx 13 ["part"] 1 0 (gx_xk_BadRun_1) (aCons (mVar 0) (aNil))) (aCons (mUn (gXf [1, 3, 4, 5, 6, 8, 9, 10, 11, 12, 13, 14, 26] "part") (mMkx 13 ["part"] 0 1 (gx_xk_BadRun_0_part) (aKw 1 (aCons (mVar 0) (aNil))))) (aNil)))) (aCons (mTup (aCons (mMkx 14 ["part"] 1 0 (gx_xk_BadPlay_1) (aCons (mVar 0) (aNil))) (aCons (mUn (gXf [1, 3, 4, 5, 6, 8, 9, 10, 11, 12, 13, 14, 26] "part") (mMkx 14 ["part"] 0 1 (gx_xk_BadPlay_0_part) (aKw 1 (aCons (mVar 0) (aNil))))) (aNil)))) (aNil)))))
def st__law_parts_7 : Gm → T Fl := mRet (mBin gAdd (mVar 1) (mLst (aCons (mTup (aCons (mMkx 26 ["part"] 1 0 (gx_xk_Clashing_1) (aCons (mVar 0) (aNil))) (aCons (mUn (gXf [1, 3, 4, 5, 6, 8, 9, 10, 11, 12, 13, 14, 26] "part") (mMkx 26 ["part"] 0 1 (gx_xk_Clashing_0_part) (aKw 1 (aCons (mVar 0) (aNil))))) (aNil)))) (aNil))))
def m__law_parts : Gm → T Fl := mSeq st__law_parts_1 (mSeq st__law_parts_2 (mSeq st__law_parts_3 (mSeq st__law_parts_4 (mSeq st__law_parts_5 (mSeq st__law_parts_6 (st__law_parts_7))))))
def r__law_parts : List D → T D := runB 1 2 m__law_parts
theorem ok__law_parts (H : Fc P w K mg base c) {fd : FuncData} (F : FunD K "_law_parts" "_law_parts" (defArgs s__law_parts) (defBody s__law_parts) (defScope s__law_parts) [] [] (He.fAd K ("_law_parts", none)) fd) : DL.FnOk P w K mg base (CX P w) 3 (He.fAd K ("_law_parts", none)) fd ["_law_value"] (spD c K r__law_parts) :=
  fnD F sc__law_parts (by decide) fun cdv A outer s H0 E hcd hr => dss_cons (ds_set 1 sc__law_parts.nd (de_lst (da_cons (de_tup (da_cons (de_mkx (xk_BadGrowth_1 H) (hr.mono (by decide)) (takes_of rfl rfl rfl rfl) H.g_BadGrowth (dc_pos (da_cons (de_var 0) (da_nil)))) (da_cons (de_xf H.xf_part (de_mkx (xk_BadGrowth_0_part H) (hr.mono (by decide)) (takes_of rfl rfl rfl rfl) H.g_BadGrowth (dc_kw0 (dk_cons (de_var 0) (dk_nil))))) (da_nil)))) (da_cons (de_tup (da_cons (de_mkx (xk_BadFrame_1 H) (hr.mono (by decide)) (takes_of rfl rfl rfl rfl) H.g_BadFrame (dc_pos (da_cons (de_var 0) (da_nil)))) (da_cons (de_xf H.xf_part (de_mkx (xk_BadFrame_0_part H) (hr.mono (by decide)) (takes_of rfl rfl rfl rfl) H.g_BadFrame (dc_kw0 (dk_cons (de_var 0) (dk_nil))))) (da_nil)))) (da_nil))))) (dss_cons (ds_set 1 sc__law_parts.nd (de_bin o_add (de_var 1) (de_lst (da_cons (de_tup (da_cons (de_mkx (xk_BadCell_1 H) (hr.mono (by decide)) (takes_of rfl rfl rfl rfl) H.g_BadCell (dc_pos (da_cons (de_var 0) (da_nil)))) (da_cons (de_xf H.xf_part (de_mkx (xk_BadCell_0_part H) (hr.mono (by decide)) (takes_of rfl rfl rfl rfl) H.g_BadCell (dc_kw0 (dk_cons (de_var 0) (dk_nil))))) (da_nil)))) (da_cons (de_tup (da_cons (de_mkx (xk_BadPlan_1 H) (hr.mono (by decide)) (takes_of rfl rfl rfl rfl) H.g_BadPlan (dc_pos (da_cons (de_var 0) (da_nil)))) (da_cons (de_xf H.xf_part (de_mkx (xk_BadPlan_0_part H) (hr.mono (by decide)) (takes_of rfl rfl rfl rfl) H.g_BadPlan (dc_kw0 (dk_cons (de_var 0) (dk_nil))))) (da_nil)))) (da_nil)))))) (dss_cons (ds_set 1 sc__law_parts.nd (de_bin o_add (de_var 1) (de_lst (da_cons (de_tup (da_cons (de_mkx (xk_BadRule_1 H) (hr.mono (by decide)) (takes_of rfl rfl rfl rfl) H.g_BadRule (dc_pos (da_cons (de_var 0) (da_nil)))) (da_cons (de_xf H.xf_part (de_mkx (xk_BadRule_0_part H) (hr.mono (by decide)) (takes_of rfl rfl rfl rfl) H.g_BadRule (dc_kw0 (dk_cons (de_var 0) (dk_nil))))) (da_nil)))) (da_cons (de_tup (da_cons (de_mkx (xk_BadRound_1 H) (hr.mono (by decide)) (takes_of rfl rfl rfl rfl) H.g_BadRound (dc_pos (da_cons (de_var 0) (da_nil)))) (da_cons (de_xf H.xf_part (de_mkx (xk_BadRound_0_part H) (hr.mono (by decide)) (takes_of rfl rfl rfl rfl) H.g_BadRound (dc_kw0 (dk_cons (de_var 0) (dk_nil))))) (da_nil)))) (da_nil)))))) (dss_cons (ds_set 1 sc__law_parts.nd (de_bin o_add (de_var 1) (de_lst (da_cons (de_tup (da_cons (de_mkx (xk_BadNet_1 H) (hr.mono (by decide)) (takes_of rfl rfl rfl rfl) H.g_BadNet (dc_pos (da_cons (de_var 0) (da_nil)))) (da_cons (de_xf H.xf_part (de_mkx (xk_BadNet_0_part H) (hr.mono (by decide)) (takes_of rfl rfl rfl rfl) H.g_BadNet (dc_kw0 (dk_cons (de_var 0) (dk_nil))))) (da_nil)))) (da_cons (de_tup (da_cons (de_mkx (xk_BadTable_1 H) (hr.mono (by decide)) (takes_of rfl rfl rfl rfl) H.g_BadTable (dc_pos (da_cons (de_var 0) (da_nil)))) (da_cons (de_xf H.xf_part (de_mkx (xk_BadTable_0_part H) (hr.mono (by decide)) (takes_of rfl rfl rfl rfl) H.g_BadTable (dc_kw0 (dk_cons (de_var 0) (dk_nil))))) (da_nil)))) (da_nil)))))) (dss_cons (ds_set 1 sc__law_parts.nd (de_bin o_add (de_var 1) (de_lst (da_cons (de_tup (da_cons (de_mkx (xk_BadPair_1 H) (hr.mono (by decide)) (takes_of rfl rfl rfl rfl) H.g_BadPair (dc_pos (da_cons (de_var 0) (da_nil)))) (da_cons (de_xf H.xf_part (de_mkx (xk_BadPair_0_part H) (hr.mono (by decide)) (takes_of rfl rfl rfl rfl) H.g_BadPair (dc_kw0 (dk_cons (de_var 0) (dk_nil))))) (da_nil)))) (da_cons (de_tup (da_cons (de_mkx (xk_BadStack_1 H) (hr.mono (by decide)) (takes_of rfl rfl rfl rfl) H.g_BadStack (dc_pos (da_cons (de_var 0) (da_nil)))) (da_cons (de_xf H.xf_part (de_mkx (xk_BadStack_0_part H) (hr.mono (by decide)) (takes_of rfl rfl rfl rfl) H.g_BadStack (dc_kw0 (dk_cons (de_var 0) (dk_nil))))) (da_nil)))) (da_nil)))))) (dss_cons (ds_set 1 sc__law_parts.nd (de_bin o_add (de_var 1) (de_lst (da_cons (de_tup (da_cons (de_mkx (xk_BadRun_1 H) (hr.mono (by decide)) (takes_of rfl rfl rfl rfl) H.g_BadRun (dc_pos (da_cons (de_var 0) (da_nil)))) (da_cons (de_xf H.xf_part (de_mkx (xk_BadRun_0_part H) (hr.mono (by decide)) (takes_of rfl rfl rfl rfl) H.g_BadRun (dc_kw0 (dk_cons (de_var 0) (dk_nil))))) (da_nil)))) (da_cons (de_tup (da_cons (de_mkx (xk_BadPlay_1 H) (hr.mono (by decide)) (takes_of rfl rfl rfl rfl) H.g_BadPlay (dc_pos (da_cons (de_var 0) (da_nil)))) (da_cons (de_xf H.xf_part (de_mkx (xk_BadPlay_0_part H) (hr.mono (by decide)) (takes_of rfl rfl rfl rfl) H.g_BadPlay (dc_kw0 (dk_cons (de_var 0) (dk_nil))))) (da_nil)))) (da_nil)))))) (dss_one (ds_ret (de_bin o_add (de_var 1) (de_lst (da_cons (de_tup (da_cons (de_mkx (xk_Clashing_1 H) (hr.mono (by decide)) (takes_of rfl rfl rfl rfl) H.g_Clashing (dc_pos (da_cons (de_var 0) (da_nil)))) (da_cons (de_xf H.xf_part (de_mkx (xk_Clashing_0_part H) (hr.mono (by decide)) (takes_of rfl rfl rfl rfl) H.g_Clashing (dc_kw0 (dk_cons (de_var 0) (dk_nil))))) (da_nil)))) (da_nil)))))))))))
def ma__law_parts_1 := posM 1 r__law_parts []
theorem a__law_parts_1 (H : Fc P w K mg base c) : FnA P w K mg base 3 (He.fAd K ("_law_parts", none)) [] (spD c K ma__law_parts_1) := by
  obtain ⟨fd, F⟩ := H.d__law_parts
  exact FnA.pos 1 (ok__law_parts H F) (F.bindsN fun _ _ _ _ _ _ us hl => match us, hl with | [_], _ => rfl) .nil (fun _ => .nil)
theorem sc__law_others : FnScope ["_law_value", "_law_more", "_law_found"] ["_law_value", "_law_more"] (defScope s__law_others) := ⟨rfl, rfl, rfl, by decide +kernel, rfl, by decide +kernel, by decide +kernel⟩
def st__law_others_1 : Gm → T Fl := mSet 2 (mLst (aCons (mTup (aCons (mMkx 2 ["value"] 1 0 (gx_xk_BadLetter_1) (aCons (mVar 0) (aNil))) (aCons (mUn (gXf [2, 7, 15, 18] "value") (mMkx 2 ["value"] 0 1 (gx_xk_BadLetter_0_value) (aKw 1 (aCons (mVar 0) (aNil))))) (aNil)))) (aCons (mTup (aCons (mMkx 7 ["value"] 1 0 (gx_xk_BadLosses_1) (aCons (mVar 0) (aNil))) (aCons (mUn (gXf [2, 7, 15, 18] "value") (mMkx 7 ["value"] 0 1 (gx_xk_BadLosses_0_value) (aKw 1 (aCons (mVar 0) (aNil))))) (aNil)))) (aNil))))
def st__law_others_2 : Gm → T Fl := mSet 2 (mBin gAdd (mVar 2) (mLst (aCons (mTup (aCons (mMkx 15 ["value"] 1 0 (gx_xk_BadNumber_1) (aCons (mVar 0) (aNil))) (aCons (mUn (gXf [2, 7, 15, 18] "value") (mMkx 15 ["value"] 0 1 (gx_xk_BadNumber_0_value) (aKw 1 (aCons (mVar 0) (aNil))))) (aNil)))) (aCons (mTup (aCons (mMkx 18 ["value"] 1 0 (gx_xk_BadName_1) (aCons (mVar 0) (aNil))) (aCons (mUn (gXf [2, 7, 15, 18] "value") (mMkx 18 ["value"] 0 1 (gx_xk_BadName_0_value) (aKw 1 (aCons (mVar 0) (aNil))))) (aNil)))) (aNil)))))
def st__law_others_3 : Gm → T Fl := mSet 2 (mBin gAdd (mVar 2) (mLst (aCons (mTup (aCons (mMkx 17 ["word"] 1 0 (gx_xk_BadCommand_1) (aCons (mVar 0) (aNil))) (aCons (mUn (gXf [16, 17] "word") (mMkx 17 ["word"] 0 1 (gx_xk_BadCommand_0_word) (aKw 1 (aCons (mVar 0) (aNil))))) (aNil)))) (aCons (mTup (aCons (mMkx 19 ["name"] 1 0 (gx_xk_NoName_1) (aCons (mVar 0) (aNil))) (aCons (mUn (gXf [19, 20, 21, 22] "name") (mMkx 19 ["name"] 0 1 (gx_xk_NoName_0_name) (aKw 1 (aCons (mVar 0) (aNil))))) (aNil)))) (aNil)))))
def st__law_others_4 : Gm → T Fl := mSet 2 (mBin gAdd (mVar 2) (mLst (aCons (mTup (aCons (mMkx 20 ["name"] 1 0 (gx_xk_NoFlow_1) (aCons (mVar 0) (aNil))) (aCons (mUn (gXf [19, 20, 21, 22] "name") (mMkx 20 ["name"] 0 1 (gx_xk_NoFlow_0_name) (aKw 1 (aCons (mVar 0) (aNil))))) (aNil)))) (aCons (mTup (aCons (mMkx 21 ["name"] 1 0 (gx_xk_NoHouse_1) (aCons (mVar 0) (aNil))) (aCons (mUn (gXf [19, 20, 21, 22] "name") (mMkx 21 ["name"] 0 1 (gx_xk_NoHouse_0_name) (aKw 1 (aCons (mVar 0) (aNil))))) (aNil)))) (aNil)))))
def st__law_others_5 : Gm → T Fl := mSet 2 (mBin gAdd (mVar 2) (mLst (aCons (mTup (aCons (mMkx 22 ["name"] 1 0 (gx_xk_NoLink_1) (aCons (mVar 0) (aNil))) (aCons (mUn (gXf [19, 20, 21, 22] "name") (mMkx 22 ["name"] 0 1 (gx_xk_NoLink_0_name) (aKw 1 (aCons (mVar 0) (aNil))))) (aNil)))) (aCons (mTup (aCons (mMkx 23 ["key"] 1 0 (gx_xk_NoLane_1) (aCons (mVar 0) (aNil))) (aCons (mUn (gXf [23, 24] "key") (mMkx 23 ["key"] 0 1 (gx_xk_NoLane_0_key) (aKw 1 (aCons (mVar 0) (aNil))))) (aNil)))) (aNil)))))
def st__law_others_6 : Gm → T Fl := mSet 2 (mBin gAdd (mVar 2) (mLst (aCons (mTup (aCons (mMkx 24 ["key"] 1 0 (gx_xk_NoLine_1) (aCons (mVar 0) (aNil))) (aCons (mUn (gXf [23, 24] "key") (mMkx 24 ["key"] 0 1 (gx_xk_NoLine_0_key) (aKw 1 (aCons (mVar 0) (aNil))))) (aNil)))) (aCons (mTup (aCons (mMkx 25 ["at"] 1 0 (gx_xk_NoPhase_1) (aCons (mVar 0) (aNil))) (aCons (mUn (gXf [25] "at") (mMkx 25 ["at"] 0 1 (gx_xk_NoPhase_0_at) (aKw 1 (aCons (mVar 0) (aNil))))) (aNil)))) (aNil)))))
def st__law_others_7 : Gm → T Fl := mSet 2 (mBin gAdd (mVar 2) (mLst (aCons (mTup (aCons (mMkx 16 ["line", "word"] 2 0 (gx_xk_BadText_2) (aCons (mVar 1) (aCons (mVar 0) (aNil)))) (aCons (mUn (gXf [16, 17] "word") (mMkx 16 ["line", "word"] 0 2 (gx_xk_BadText_0_word_line) (aKw 2 (aCons (mVar 0) (aCons (mVar 1) (aNil)))))) (aNil)))) (aNil))))
def st__law_others_8 : Gm → T Fl := mRet (mBin gAdd (mVar 2) (mLst (aCons (mTup (aCons (mMkx 28 ["what", "most"] 2 0 (gx_xk_TooMany_2) (aCons (mVar 1) (aCons (mVar 0) (aNil)))) (aCons (mUn (gXf [28] "most") (mMkx 28 ["what", "most"] 0 2 (gx_xk_TooMany_0_most_what) (aKw 2 (aCons (mVar 0) (aCons (mVar 1) (aNil)))))) (aNil)))) (aNil))))
def m__law_others : Gm → T Fl := mSeq st__law_others_1 (mSeq st__law_others_2 (mSeq st__law_others_3 (mSeq st__law_others_4 (mSeq st__law_others_5 (mSeq st__law_others_6 (mSeq st__law_others_7 (st__law_others_8)))))))
def r__law_others : List D → T D := runB 2 3 m__law_others
theorem ok__law_others (H : Fc P w K mg base c) {fd : FuncData} (F : FunD K "_law_others" "_law_others" (defArgs s__law_others) (defBody s__law_others) (defScope s__law_others) [] [] (He.fAd K ("_law_others", none)) fd) : DL.FnOk P w K mg base (CX P w) 3 (He.fAd K ("_law_others", none)) fd ["_law_value", "_law_more"] (spD c K r__law_others) :=
  fnD F sc__law_others (by decide) fun cdv A outer s H0 E hcd hr => dss_cons (ds_set 2 sc__law_others.nd (de_lst (da_cons (de_tup (da_cons (de_mkx (xk_BadLetter_1 H) (hr.mono (by decide)) (takes_of rfl rfl rfl rfl) H.g_BadLetter (dc_pos (da_cons (de_var 0) (da_nil)))) (da_cons (de_xf H.xf_value (de_mkx (xk_BadLetter_0_value H) (hr.mono (by decide)) (takes_of rfl rfl rfl rfl) H.g_BadLetter (dc_kw0 (dk_cons (de_var 0) (dk_nil))))) (da_nil)))) (da_cons (de_tup (da_cons (de_mkx (xk_BadLosses_1 H) (hr.mono (by decide)) (takes_of rfl rfl rfl rfl) H.g_BadLosses (dc_pos (da_cons (de_var 0) (da_nil)))) (da_cons (de_xf H.xf_value (de_mkx (xk_BadLosses_0_value H) (hr.mono (by decide)) (takes_of rfl rfl rfl rfl) H.g_BadLosses (dc_kw0 (dk_cons (de_var 0) (dk_nil))))) (da_nil)))) (da_nil))))) (dss_cons (ds_set 2 sc__law_others.nd (de_bin o_add (de_var 2) (de_lst (da_cons (de_tup (da_cons (de_mkx (xk_BadNumber_1 H) (hr.mono (by decide)) (takes_of rfl rfl rfl rfl) H.g_BadNumber (dc_pos (da_cons (de_var 0) (da_nil)))) (da_cons (de_xf H.xf_value (de_mkx (xk_BadNumber_0_value H) (hr.mono (by decide)) (takes_of rfl rfl rfl rfl) H.g_BadNumber (dc_kw0 (dk_cons (de_var 0) (dk_nil))))) (da_nil)))) (da_cons (de_tup (da_cons (de_mkx (xk_BadName_1 H) (hr.mono (by decide)) (takes_of rfl rfl rfl rfl) H.g_BadName (dc_pos (da_cons (de_var 0) (da_nil)))) (da_cons (de_xf H.xf_value (de_mkx (xk_BadName_0_value H) (hr.mono (by decide)) (takes_of rfl rfl rfl rfl) H.g_BadName (dc_kw0 (dk_cons (de_var 0) (dk_nil))))) (da_nil)))) (da_nil)))))) (dss_cons (ds_set 2 sc__law_others.nd (de_bin o_add (de_var 2) (de_lst (da_cons (de_tup (da_cons (de_mkx (xk_BadCommand_1 H) (hr.mono (by decide)) (takes_of rfl rfl rfl rfl) H.g_BadCommand (dc_pos (da_cons (de_var 0) (da_nil)))) (da_cons (de_xf H.xf_word (de_mkx (xk_BadCommand_0_word H) (hr.mono (by decide)) (takes_of rfl rfl rfl rfl) H.g_BadCommand (dc_kw0 (dk_cons (de_var 0) (dk_nil))))) (da_nil)))) (da_cons (de_tup (da_cons (de_mkx (xk_NoName_1 H) (hr.mono (by decide)) (takes_of rfl rfl rfl rfl) H.g_NoName (dc_pos (da_cons (de_var 0) (da_nil)))) (da_cons (de_xf H.xf_name (de_mkx (xk_NoName_0_name H) (hr.mono (by decide)) (takes_of rfl rfl rfl rfl) H.g_NoName (dc_kw0 (dk_cons (de_var 0) (dk_nil))))) (da_nil)))) (da_nil)))))) (dss_cons (ds_set 2 sc__law_others.nd (de_bin o_add (de_var 2) (de_lst (da_cons (de_tup (da_cons (de_mkx (xk_NoFlow_1 H) (hr.mono (by decide)) (takes_of rfl rfl rfl rfl) H.g_NoFlow (dc_pos (da_cons (de_var 0) (da_nil)))) (da_cons (de_xf H.xf_name (de_mkx (xk_NoFlow_0_name H) (hr.mono (by decide)) (takes_of rfl rfl rfl rfl) H.g_NoFlow (dc_kw0 (dk_cons (de_var 0) (dk_nil))))) (da_nil)))) (da_cons (de_tup (da_cons (de_mkx (xk_NoHouse_1 H) (hr.mono (by decide)) (takes_of rfl rfl rfl rfl) H.g_NoHouse (dc_pos (da_cons (de_var 0) (da_nil)))) (da_cons (de_xf H.xf_name (de_mkx (xk_NoHouse_0_name H) (hr.mono (by decide)) (takes_of rfl rfl rfl rfl) H.g_NoHouse (dc_kw0 (dk_cons (de_var 0) (dk_nil))))) (da_nil)))) (da_nil)))))) (dss_cons (ds_set 2 sc__law_others.nd (de_bin o_add (de_var 2) (de_lst (da_cons (de_tup (da_cons (de_mkx (xk_NoLink_1 H) (hr.mono (by decide)) (takes_of rfl rfl rfl rfl) H.g_NoLink (dc_pos (da_cons (de_var 0) (da_nil)))) (da_cons (de_xf H.xf_name (de_mkx (xk_NoLink_0_name H) (hr.mono (by decide)) (takes_of rfl rfl rfl rfl) H.g_NoLink (dc_kw0 (dk_cons (de_var 0) (dk_nil))))) (da_nil)))) (da_cons (de_tup (da_cons (de_mkx (xk_NoLane_1 H) (hr.mono (by decide)) (takes_of rfl rfl rfl rfl) H.g_NoLane (dc_pos (da_cons (de_var 0) (da_nil)))) (da_cons (de_xf H.xf_key (de_mkx (xk_NoLane_0_key H) (hr.mono (by decide)) (takes_of rfl rfl rfl rfl) H.g_NoLane (dc_kw0 (dk_cons (de_var 0) (dk_nil))))) (da_nil)))) (da_nil)))))) (dss_cons (ds_set 2 sc__law_others.nd (de_bin o_add (de_var 2) (de_lst (da_cons (de_tup (da_cons (de_mkx (xk_NoLine_1 H) (hr.mono (by decide)) (takes_of rfl rfl rfl rfl) H.g_NoLine (dc_pos (da_cons (de_var 0) (da_nil)))) (da_cons (de_xf H.xf_key (de_mkx (xk_NoLine_0_key H) (hr.mono (by decide)) (takes_of rfl rfl rfl rfl) H.g_NoLine (dc_kw0 (dk_cons (de_var 0) (dk_nil))))) (da_nil)))) (da_cons (de_tup (da_cons (de_mkx (xk_NoPhase_1 H) (hr.mono (by decide)) (takes_of rfl rfl rfl rfl) H.g_NoPhase (dc_pos (da_cons (de_var 0) (da_nil)))) (da_cons (de_xf H.xf_at (de_mkx (xk_NoPhase_0_at H) (hr.mono (by decide)) (takes_of rfl rfl rfl rfl) H.g_NoPhase (dc_kw0 (dk_cons (de_var 0) (dk_nil))))) (da_nil)))) (da_nil)))))) (dss_cons (ds_set 2 sc__law_others.nd (de_bin o_add (de_var 2) (de_lst (da_cons (de_tup (da_cons (de_mkx (xk_BadText_2 H) (hr.mono (by decide)) (takes_of rfl rfl rfl rfl) H.g_BadText (dc_pos (da_cons (de_var 1) (da_cons (de_var 0) (da_nil))))) (da_cons (de_xf H.xf_word (de_mkx (xk_BadText_0_word_line H) (hr.mono (by decide)) (takes_of rfl rfl rfl rfl) H.g_BadText (dc_kw0 (dk_cons (de_var 0) (dk_cons (de_var 1) (dk_nil)))))) (da_nil)))) (da_nil))))) (dss_one (ds_ret (de_bin o_add (de_var 2) (de_lst (da_cons (de_tup (da_cons (de_mkx (xk_TooMany_2 H) (hr.mono (by decide)) (takes_of rfl rfl rfl rfl) H.g_TooMany (dc_pos (da_cons (de_var 1) (da_cons (de_var 0) (da_nil))))) (da_cons (de_xf H.xf_most (de_mkx (xk_TooMany_0_most_what H) (hr.mono (by decide)) (takes_of rfl rfl rfl rfl) H.g_TooMany (dc_kw0 (dk_cons (de_var 0) (dk_cons (de_var 1) (dk_nil)))))) (da_nil)))) (da_nil))))))))))))
def ma__law_others_2 := posM 2 r__law_others []
theorem a__law_others_2 (H : Fc P w K mg base c) : FnA P w K mg base 3 (He.fAd K ("_law_others", none)) [] (spD c K ma__law_others_2) := by
  obtain ⟨fd, F⟩ := H.d__law_others
  exact FnA.pos 2 (ok__law_others H F) (F.bindsN fun _ _ _ _ _ _ us hl => match us, hl with | [_, _], _ => rfl) .nil (fun _ => .nil)
theorem sc__law_classes : FnScope ["_law_error", "_law_told", "_law_at"] ["_law_error"] (defScope s__law_classes) := ⟨rfl, rfl, rfl, by decide +kernel, rfl, by decide +kernel, by decide +kernel⟩
def st__law_classes_1 : Gm → T Fl := mSet 1 (mLst (aCons (mIsi isT (mVar 0) (mC (.cls 1))) (aCons (mIsi isT (mVar 0) (mC (.cls 3))) (aCons (mIsi isT (mVar 0) (mC (.cls 4))) (aCons (mIsi isT (mVar 0) (mC (.cls 5))) (aNil))))))
def st__law_classes_2 : Gm → T Fl := mSet 1 (mBin gAdd (mVar 1) (mLst (aCons (mIsi isT (mVar 0) (mC (.cls 6))) (aCons (mIsi isT (mVar 0) (mC (.cls 8))) (aCons (mIsi isT (mVar 0) (mC (.cls 9))) (aNil))))))
def st__law_classes_3 : Gm → T Fl := mSet 1 (mBin gAdd (mVar 1) (mLst (aCons (mIsi isT (mVar 0) (mC (.cls 10))) (aCons (mIsi isT (mVar 0) (mC (.cls 11))) (aCons (mIsi isT (mVar 0) (mC (.cls 12))) (aNil))))))
def st__law_classes_4 : Gm → T Fl := mSet 1 (mBin gAdd (mVar 1) (mLst (aCons (mIsi isT (mVar 0) (mC (.cls 13))) (aCons (mIsi isT (mVar 0) (mC (.cls 14))) (aCons (mIsi isT (mVar 0) (mC (.cls 26))) (aNil))))))
def st__law_classes_5 : Gm → T Fl := mSet 1 (mBin gAdd (mVar 1) (mLst (aCons (mIsi isT (mVar 0) (mC (.cls 2))) (aCons (mIsi isT (mVar 0) (mC (.cls 7))) (aCons (mIsi isT (mVar 0) (mC (.cls 15))) (aNil))))))
def st__law_classes_6 : Gm → T Fl := mSet 1 (mBin gAdd (mVar 1) (mLst (aCons (mIsi isT (mVar 0) (mC (.cls 18))) (aCons (mIsi isT (mVar 0) (mC (.cls 17))) (aCons (mIsi isT (mVar 0) (mC (.cls 19))) (aNil))))))
def st__law_classes_7 : Gm → T Fl := mSet 1 (mBin gAdd (mVar 1) (mLst (aCons (mIsi isT (mVar 0) (mC (.cls 20))) (aCons (mIsi isT (mVar 0) (mC (.cls 21))) (aCons (mIsi isT (mVar 0) (mC (.cls 22))) (aNil))))))
def st__law_classes_8 : Gm → T Fl := mSet 1 (mBin gAdd (mVar 1) (mLst (aCons (mIsi isT (mVar 0) (mC (.cls 23))) (aCons (mIsi isT (mVar 0) (mC (.cls 24))) (aCons (mIsi isT (mVar 0) (mC (.cls 25))) (aNil))))))
def st__law_classes_9 : Gm → T Fl := mSet 1 (mBin gAdd (mVar 1) (mLst (aCons (mIsi isT (mVar 0) (mC (.cls 16))) (aCons (mIsi isT (mVar 0) (mC (.cls 28))) (aCons (mIsi isT (mVar 0) (mC (.cls 27))) (aNil))))))
def st__law_classes_10 : Gm → T Fl := mRet (mLc (DL.iRng1 (mUn gLen (mVar 1))) (gmName 2) (mTru (mBin gIx (mVar 1) (mVar 2))) (mVar 2) [2])
def m__law_classes : Gm → T Fl := mSeq st__law_classes_1 (mSeq st__law_classes_2 (mSeq st__law_classes_3 (mSeq st__law_classes_4 (mSeq st__law_classes_5 (mSeq st__law_classes_6 (mSeq st__law_classes_7 (mSeq st__law_classes_8 (mSeq st__law_classes_9 (mCl [0] (st__law_classes_10))))))))))
def r__law_classes : List D → T D := runB 1 3 m__law_classes
theorem ok__law_classes (H : Fc P w K mg base c) {fd : FuncData} (F : FunD K "_law_classes" "_law_classes" (defArgs s__law_classes) (defBody s__law_classes) (defScope s__law_classes) [] [] (He.fAd K ("_law_classes", none)) fd) : DL.FnOk P w K mg base (CX P w) 1 (He.fAd K ("_law_classes", none)) fd ["_law_error"] (spD c K r__law_classes) :=
  fnD F sc__law_classes (by decide) fun cdv A outer s H0 E hcd hr => dss_cons (ds_set 1 sc__law_classes.nd (de_lst (da_cons (de_isi H.isF H.b_isinstance (de_var 0) (de_glob (v := .ref (c.cA 1)) rfl H.g_BadGrowth rfl (fun _ => .cls 1))) (da_cons (de_isi H.isF H.b_isinstance (de_var 0) (de_glob (v := .ref (c.cA 3)) rfl H.g_BadFrame rfl (fun _ => .cls 3))) (da_cons (de_isi H.isF H.b_isinstance (de_var 0) (de_glob (v := .ref (c.cA 4)) rfl H.g_BadCell rfl (fun _ => .cls 4))) (da_cons (de_isi H.isF H.b_isinstance (de_var 0) (de_glob (v := .ref (c.cA 5)) rfl H.g_BadPlan rfl (fun _ => .cls 5))) (da_nil))))))) (dss_cons (ds_set 1 sc__law_classes.nd (de_bin o_add (de_var 1) (de_lst (da_cons (de_isi H.isF H.b_isinstance (de_var 0) (de_glob (v := .ref (c.cA 6)) rfl H.g_BadRule rfl (fun _ => .cls 6))) (da_cons (de_isi H.isF H.b_isinstance (de_var 0) (de_glob (v := .ref (c.cA 8)) rfl H.g_BadRound rfl (fun _ => .cls 8))) (da_cons (de_isi H.isF H.b_isinstance (de_var 0) (de_glob (v := .ref (c.cA 9)) rfl H.g_BadNet rfl (fun _ => .cls 9))) (da_nil))))))) (dss_cons (ds_set 1 sc__law_classes.nd (de_bin o_add (de_var 1) (de_lst (da_cons (de_isi H.isF H.b_isinstance (de_var 0) (de_glob (v := .ref (c.cA 10)) rfl H.g_BadTable rfl (fun _ => .cls 10))) (da_cons (de_isi H.isF H.b_isinstance (de_var 0) (de_glob (v := .ref (c.cA 11)) rfl H.g_BadPair rfl (fun _ => .cls 11))) (da_cons (de_isi H.isF H.b_isinstance (de_var 0) (de_glob (v := .ref (c.cA 12)) rfl H.g_BadStack rfl (fun _ => .cls 12))) (da_nil))))))) (dss_cons (ds_set 1 sc__law_classes.nd (de_bin o_add (de_var 1) (de_lst (da_cons (de_isi H.isF H.b_isinstance (de_var 0) (de_glob (v := .ref (c.cA 13)) rfl H.g_BadRun rfl (fun _ => .cls 13))) (da_cons (de_isi H.isF H.b_isinstance (de_var 0) (de_glob (v := .ref (c.cA 14)) rfl H.g_BadPlay rfl (fun _ => .cls 14))) (da_cons (de_isi H.isF H.b_isinstance (de_var 0) (de_glob (v := .ref (c.cA 26)) rfl H.g_Clashing rfl (fun _ => .cls 26))) (da_nil))))))) (dss_cons (ds_set 1 sc__law_classes.nd (de_bin o_add (de_var 1) (de_lst (da_cons (de_isi H.isF H.b_isinstance (de_var 0) (de_glob (v := .ref (c.cA 2)) rfl H.g_BadLetter rfl (fun _ => .cls 2))) (da_cons (de_isi H.isF H.b_isinstance (de_var 0) (de_glob (v := .ref (c.cA 7)) rfl H.g_BadLosses rfl (fun _ => .cls 7))) (da_cons (de_isi H.isF H.b_isinstance (de_var 0) (de_glob (v := .ref (c.cA 15)) rfl H.g_BadNumber rfl (fun _ => .cls 15))) (da_nil))))))) (dss_cons (ds_set 1 sc__law_classes.nd (de_bin o_add (de_var 1) (de_lst (da_cons (de_isi H.isF H.b_isinstance (de_var 0) (de_glob (v := .ref (c.cA 18)) rfl H.g_BadName rfl (fun _ => .cls 18))) (da_cons (de_isi H.isF H.b_isinstance (de_var 0) (de_glob (v := .ref (c.cA 17)) rfl H.g_BadCommand rfl (fun _ => .cls 17))) (da_cons (de_isi H.isF H.b_isinstance (de_var 0) (de_glob (v := .ref (c.cA 19)) rfl H.g_NoName rfl (fun _ => .cls 19))) (da_nil))))))) (dss_cons (ds_set 1 sc__law_classes.nd (de_bin o_add (de_var 1) (de_lst (da_cons (de_isi H.isF H.b_isinstance (de_var 0) (de_glob (v := .ref (c.cA 20)) rfl H.g_NoFlow rfl (fun _ => .cls 20))) (da_cons (de_isi H.isF H.b_isinstance (de_var 0) (de_glob (v := .ref (c.cA 21)) rfl H.g_NoHouse rfl (fun _ => .cls 21))) (da_cons (de_isi H.isF H.b_isinstance (de_var 0) (de_glob (v := .ref (c.cA 22)) rfl H.g_NoLink rfl (fun _ => .cls 22))) (da_nil))))))) (dss_cons (ds_set 1 sc__law_classes.nd (de_bin o_add (de_var 1) (de_lst (da_cons (de_isi H.isF H.b_isinstance (de_var 0) (de_glob (v := .ref (c.cA 23)) rfl H.g_NoLane rfl (fun _ => .cls 23))) (da_cons (de_isi H.isF H.b_isinstance (de_var 0) (de_glob (v := .ref (c.cA 24)) rfl H.g_NoLine rfl (fun _ => .cls 24))) (da_cons (de_isi H.isF H.b_isinstance (de_var 0) (de_glob (v := .ref (c.cA 25)) rfl H.g_NoPhase rfl (fun _ => .cls 25))) (da_nil))))))) (dss_cons (ds_set 1 sc__law_classes.nd (de_bin o_add (de_var 1) (de_lst (da_cons (de_isi H.isF H.b_isinstance (de_var 0) (de_glob (v := .ref (c.cA 16)) rfl H.g_BadText rfl (fun _ => .cls 16))) (da_cons (de_isi H.isF H.b_isinstance (de_var 0) (de_glob (v := .ref (c.cA 28)) rfl H.g_TooMany rfl (fun _ => .cls 28))) (da_cons (de_isi H.isF H.b_isinstance (de_var 0) (de_glob (v := .ref (c.cA 27)) rfl H.g_Nothing rfl (fun _ => .cls 27))) (da_nil))))))) (dss_cl [0] (dss_one (ds_ret (de_lc (own := [("_law_at", 2)]) rfl sc__law_classes.nd (di_rng1 H.b_range (de_b1 b_len bi_len H.b_len PyProof.Rows.Boot.«len» (de_var 1))) rfl (fun _ _ _ _ _ => dg_name 2 sc__law_classes.nd) (fun _ _ _ _ _ => dts_one (dt_tru (de_ix (de_var 1) (de_var 2)))) (fun _ _ _ _ _ => de_var 2)))))))))))))
def ma__law_classes_1 := posM 1 r__law_classes []
theorem a__law_classes_1 (H : Fc P w K mg base c) : FnA P w K mg base 1 (He.fAd K ("_law_classes", none)) [] (spD c K ma__law_classes_1) := by
  obtain ⟨fd, F⟩ := H.d__law_classes
  exact FnA.pos 1 (ok__law_classes H F) (F.bindsN fun _ _ _ _ _ _ us hl => match us, hl with | [_], _ => rfl) .nil (fun _ => .nil)
theorem sc__law_is_error : FnScope ["_law_error"] ["_law_error"] (defScope s__law_is_error) := ⟨rfl, rfl, rfl, by decide +kernel, rfl, by decide +kernel, by decide +kernel⟩
def m__law_is_error : Gm → T Fl := mRet (mAndV (mIsi isT (mVar 0) (mC (.cls 0))) (mIsi isT (mVar 0) (mC (.ty "ValueError"))))
def r__law_is_error : List D → T D := runB 1 1 m__law_is_error
theorem ok__law_is_error (H : Fc P w K mg base c) {fd : FuncData} (F : FunD K "_law_is_error" "_law_is_error" (defArgs s__law_is_error) (defBody s__law_is_error) (defScope s__law_is_error) [] [] (He.fAd K ("_law_is_error", none)) fd) : DL.FnOk P w K mg base (CX P w) 1 (He.fAd K ("_law_is_error", none)) fd ["_law_error"] (spD c K r__law_is_error) :=
  fnD F sc__law_is_error (by decide) fun cdv A outer s H0 E hcd hr => dss_one (ds_ret (de_and (de_isi H.isF H.b_isinstance (de_var 0) (de_glob (v := .ref (c.cA 0)) rfl H.g_PostError rfl (fun _ => .cls 0))) (de_one (de_isi H.isF H.b_isinstance (de_var 0) (de_ty rfl H.b_ValueError PyProof.Rows.Boot.«ValueError»)))))
def ma__law_is_error_1 := posM 1 r__law_is_error []
theorem a__law_is_error_1 (H : Fc P w K mg base c) : FnA P w K mg base 1 (He.fAd K ("_law_is_error", none)) [] (spD c K ma__law_is_error_1) := by
  obtain ⟨fd, F⟩ := H.d__law_is_error
  exact FnA.pos 1 (ok__law_is_error H F) (F.bindsN fun _ _ _ _ _ _ us hl => match us, hl with | [_], _ => rfl) .nil (fun _ => .nil)
theorem sc__law_errors_right : FnScope ["_law_pen_here", "_law_value", "_law_more", "_law_made", "_law_at", "_law_error", "_law_told", "_law_both"] ["_law_pen_here"] (defScope s__law_errors_right) := ⟨rfl, rfl, rfl, by decide +kernel, rfl, by decide +kernel, by decide +kernel⟩
def b__law_errors_right_1 : Gm → T Fl := mSeq (mAsg (gmTup 2 (gmCons (gmName 5) (gmCons (gmName 6) (gmNil)))) (mBin gIx (mVar 3) (mVar 4))) (mIfS (tOrM (mB (mBin gNeD (mCall ma__law_classes_1 (aCons (mVar 5) (aNil))) (mLst (aCons (mVar 4) (aNil))))) (tOrM (tNotM (mTru (mCall ma__law_is_error_1 (aCons (mVar 5) (aNil))))) (mB (mBin gNeD (mUn gReprR (mVar 6)) (mUn gReprR (mVar 1)))))) (mRet (mC (.bl false))) (mNx))
def st__law_errors_right_1 : Gm → T Fl := mSet 1 (mCall ma__law_pick_2 (aCons (mVar 0) (aCons (mLst (aCons (mC .non) (aCons (mC (.int 0)) (aCons (mC (.bl true)) (aCons (mC (.str "part")) (aCons (mTup (aCons (mC (.int 1)) (aNil))) (aCons (mLst (aCons (mC (.int 2)) (aNil))) (aCons (mDct1 (.inr "a") (.int 1)) (aCons (mBin gPow (mC (.int 10)) (mC (.int 39))) (aNil)))))))))) (aNil))))
def st__law_errors_right_2 : Gm → T Fl := mSet 2 (mCall ma__law_pick_2 (aCons (mVar 0) (aCons (mLst (aCons (mC (.str "line")) (aCons (mC (.int 7)) (aCons (mC .non) (aCons (mTup (aCons (mC (.int 0)) (aCons (mC (.int 0)) (aNil)))) (aNil)))))) (aNil))))
def st__law_errors_right_3 : Gm → T Fl := mSet 3 (mBin gAdd (mCall ma__law_parts_1 (aCons (mVar 1) (aNil))) (mCall ma__law_others_2 (aCons (mVar 1) (aCons (mVar 2) (aNil)))))
def st__law_errors_right_4 : Gm → T Fl := mFor (DL.iRng1 (mUn gLen (mVar 3))) (gmName 4) (mCl [5, 6] (b__law_errors_right_1))
def st__law_errors_right_5 : Gm → T Fl := mSet 7 (mLst (aCons (mMkx 16 ["line", "word"] 2 0 (gx_xk_BadText_2) (aCons (mVar 2) (aCons (mVar 1) (aNil)))) (aCons (mMkx 28 ["what", "most"] 2 0 (gx_xk_TooMany_2) (aCons (mVar 2) (aCons (mVar 1) (aNil)))) (aNil))))
def st__law_errors_right_6 : Gm → T Fl := mIfS (mB (mBin gNeD (mUn gReprR (mLst (aCons (mUn (gXf [16] "line") (mBin gIx (mVar 7) (mC (.int 0)))) (aCons (mUn (gXf [16, 17] "word") (mBin gIx (mVar 7) (mC (.int 0)))) (aCons (mUn (gXf [28] "what") (mBin gIx (mVar 7) (mC (.int 1)))) (aCons (mUn (gXf [28] "most") (mBin gIx (mVar 7) (mC (.int 1)))) (aNil))))))) (mUn gReprR (mLst (aCons (mVar 2) (aCons (mVar 1) (aCons (mVar 2) (aCons (mVar 1) (aNil))))))))) (mRet (mC (.bl false))) (mNx)
def st__law_errors_right_7 : Gm → T Fl := mRet (mAndV (mBin gEqD (mCall ma__law_classes_1 (aCons (mExn0 27) (aNil))) (mLst (aCons (mC (.int 27)) (aNil)))) (mCall ma__law_is_error_1 (aCons (mExn0 27) (aNil))))
def m__law_errors_right : Gm → T Fl := mSeq st__law_errors_right_1 (mSeq st__law_errors_right_2 (mCl [0] (mSeq st__law_errors_right_3 (mSeq st__law_errors_right_4 (mCl [3, 4, 5, 6] (mSeq st__law_errors_right_5 (mSeq st__law_errors_right_6 (mCl [1, 2, 7] (st__law_errors_right_7)))))))))
def r__law_errors_right : List D → T D := runB 1 8 m__law_errors_right
theorem ok__law_errors_right (H : Fc P w K mg base c) {fd : FuncData} (F : FunD K "_law_errors_right" "_law_errors_right" (defArgs s__law_errors_right) (defBody s__law_errors_right) (defScope s__law_errors_right) [] [] (He.fAd K ("_law_errors_right", none)) fd) : DL.FnOk P w K mg base (CX P w) 4 (He.fAd K ("_law_errors_right", none)) fd ["_law_pen_here"] (spD c K r__law_errors_right) :=
  fnD F sc__law_errors_right (by decide) fun cdv A outer s H0 E hcd hr => dss_cons (ds_set 1 sc__law_errors_right.nd (de_call (a__law_pick_2 H) (hr.mono (by decide)) (takes_of rfl rfl rfl rfl) H.g__law_pick H.k__law_pick (dc_pos (da_cons (de_var 0) (da_cons (de_lst (da_cons (de_non) (da_cons (de_int) (da_cons (de_bl) (da_cons (de_str) (da_cons (de_tup (da_cons (de_int) (da_nil))) (da_cons (de_lst (da_cons (de_int) (da_nil))) (da_cons (de_dct1 (k := (.inr "a")) pe_str pe_int (fun _ => (.int _))) (da_cons (de_bin o_pow (de_int) (de_int)) (da_nil)))))))))) (da_nil)))))) (dss_cons (ds_set 2 sc__law_errors_right.nd (de_call (a__law_pick_2 H) (hr.mono (by decide)) (takes_of rfl rfl rfl rfl) H.g__law_pick H.k__law_pick (dc_pos (da_cons (de_var 0) (da_cons (de_lst (da_cons (de_str) (da_cons (de_int) (da_cons (de_non) (da_cons (de_tup (da_cons (de_int) (da_cons (de_int) (da_nil)))) (da_nil)))))) (da_nil)))))) (dss_cl [0] (dss_cons (ds_set 3 sc__law_errors_right.nd (de_bin o_add (de_call (a__law_parts_1 H) (hr.mono (by decide)) (takes_of rfl rfl rfl rfl) H.g__law_parts H.k__law_parts (dc_pos (da_cons (de_var 1) (da_nil)))) (de_call (a__law_others_2 H) (hr.mono (by decide)) (takes_of rfl rfl rfl rfl) H.g__law_others H.k__law_others (dc_pos (da_cons (de_var 1) (da_cons (de_var 2) (da_nil))))))) (dss_cons (ds_for (passes_of rfl) rfl (di_rng1 H.b_range (de_b1 b_len bi_len H.b_len PyProof.Rows.Boot.«len» (de_var 3))) (dg_name 4 sc__law_errors_right.nd) (dss_cl [5, 6] (dss_cons (ds_asg (de_ix (de_var 3) (de_var 4)) (dg_tup rfl (dgs_cons (dg_name 5 sc__law_errors_right.nd) (dgs_cons (dg_name 6 sc__law_errors_right.nd) (dgs_nil))))) (dss_one (ds_if (dt_or (dt_cmp (o_ne hr.toRoom.units) (de_call (a__law_classes_1 H) (hr.mono (by decide)) (takes_of rfl rfl rfl rfl) H.g__law_classes H.k__law_classes (dc_pos (da_cons (de_var 5) (da_nil)))) (de_lst (da_cons (de_var 4) (da_nil)))) (dw_or (dt_not (dt_tru (de_call (a__law_is_error_1 H) (hr.mono (by decide)) (takes_of rfl rfl rfl rfl) H.g__law_is_error H.k__law_is_error (dc_pos (da_cons (de_var 5) (da_nil)))))) (dw_or1 (dt_cmp (o_ne hr.toRoom.units) (de_b1 (call_reprR H.sm (hr.mono (Nat.zero_le _))) bi_reprR H.b_repr PyProof.Rows.Boot.«repr» (de_var 6)) (de_b1 (call_reprR H.sm (hr.mono (Nat.zero_le _))) bi_reprR H.b_repr PyProof.Rows.Boot.«repr» (de_var 1)))))) (dss_one (ds_ret (de_bl))) (dss_nil)))))) (dss_cl [3, 4, 5, 6] (dss_cons (ds_set 7 sc__law_errors_right.nd (de_lst (da_cons (de_mkx (xk_BadText_2 H) (hr.mono (by decide)) (takes_of rfl rfl rfl rfl) H.g_BadText (dc_pos (da_cons (de_var 2) (da_cons (de_var 1) (da_nil))))) (da_cons (de_mkx (xk_TooMany_2 H) (hr.mono (by decide)) (takes_of rfl rfl rfl rfl) H.g_TooMany (dc_pos (da_cons (de_var 2) (da_cons (de_var 1) (da_nil))))) (da_nil))))) (dss_cons (ds_if (dt_cmp (o_ne hr.toRoom.units) (de_b1 (call_reprR H.sm (hr.mono (Nat.zero_le _))) bi_reprR H.b_repr PyProof.Rows.Boot.«repr» (de_lst (da_cons (de_xf H.xf_line (de_ix (de_var 7) (de_int))) (da_cons (de_xf H.xf_word (de_ix (de_var 7) (de_int))) (da_cons (de_xf H.xf_what (de_ix (de_var 7) (de_int))) (da_cons (de_xf H.xf_most (de_ix (de_var 7) (de_int))) (da_nil))))))) (de_b1 (call_reprR H.sm (hr.mono (Nat.zero_le _))) bi_reprR H.b_repr PyProof.Rows.Boot.«repr» (de_lst (da_cons (de_var 2) (da_cons (de_var 1) (da_cons (de_var 2) (da_cons (de_var 1) (da_nil)))))))) (dss_one (ds_ret (de_bl))) (dss_nil)) (dss_cl [1, 2, 7] (dss_one (ds_ret (de_and (de_cmp (o_eq hr.toRoom.units) (de_call (a__law_classes_1 H) (hr.mono (by decide)) (takes_of rfl rfl rfl rfl) H.g__law_classes H.k__law_classes (dc_pos (da_cons (de_exn0 H.xe_Nothing.1 H.xe_Nothing.2 H.g_Nothing) (da_nil)))) (de_lst (da_cons (de_int) (da_nil)))) (de_one (de_call (a__law_is_error_1 H) (hr.mono (by decide)) (takes_of rfl rfl rfl rfl) H.g__law_is_error H.k__law_is_error (dc_pos (da_cons (de_exn0 H.xe_Nothing.1 H.xe_Nothing.2 H.g_Nothing) (da_nil))))))))))))))))
def ma__law_errors_right_1 := posM 1 r__law_errors_right []
theorem a__law_errors_right_1 (H : Fc P w K mg base c) : FnA P w K mg base 4 (He.fAd K ("_law_errors_right", none)) [] (spD c K ma__law_errors_right_1) := by
  obtain ⟨fd, F⟩ := H.d__law_errors_right
  exact FnA.pos 1 (ok__law_errors_right H F) (F.bindsN fun _ _ _ _ _ _ us hl => match us, hl with | [_], _ => rfl) .nil (fun _ => .nil)
theorem sc__law_kinds_right : FnScope ["_law_pen_here", "_law_number", "_law_odd", "_law_word", "_law_is_right", "_law_sign", "_law_signs"] ["_law_pen_here"] (defScope s__law_kinds_right) := ⟨rfl, rfl, rfl, by decide +kernel, rfl, by decide +kernel, by decide +kernel⟩
def st__law_kinds_right_1 : Gm → T Fl := mSet 1 (mCall ma__law_pick_2 (aCons (mVar 0) (aCons (mLst (aCons (mUn gNeg (mC (.int 1))) (aCons (mC (.int 0)) (aCons (mC (.int 1)) (aCons (mC (.int 24)) (aCons (mCall ma__law_draw_2 (aCons (mVar 0) (aCons (mC (.int 70)) (aNil)))) (aCons (mBin gPow (mC (.int 10)) (mC (.int 39))) (aCons (mUn gNeg (mBin gPow (mC (.int 10)) (mC (.int 39)))) (aNil))))))))) (aNil))))
def st__law_kinds_right_2 : Gm → T Fl := mIfS (mB (mBin gNeD (mLst (aCons (mCall ma_is_integer_1 (aCons (mVar 1) (aNil))) (aCons (mCall ma_is_within_3 (aCons (mVar 1) (aCons (mC (.int 0)) (aCons (mC (.int 24)) (aNil))))) (aNil)))) (mLst (aCons (mC (.bl true)) (aCons (mChain gLe gLe (mC (.int 0)) (mVar 1) (mC (.int 24))) (aNil)))))) (mRet (mC (.bl false))) (mNx)
def st__law_kinds_right_3 : Gm → T Fl := mSet 2 (mCall ma__law_pick_2 (aCons (mVar 0) (aCons (mLst (aCons (mC .non) (aCons (mC (.bl true)) (aCons (mC (.bl false)) (aCons (mC (.str "0")) (aCons (mC (.str "")) (aCons (mTup (aCons (mC (.int 0)) (aNil))) (aCons (mLst (aCons (mC (.int 1)) (aNil))) (aCons (mDct0) (aCons (mDct1 (.inl 0) (.int 1)) (aNil))))))))))) (aNil))))
def st__law_kinds_right_4 : Gm → T Fl := mIfS (mB (mBin gNeD (mLst (aCons (mCall ma_is_integer_0_value (aKw 1 (aCons (mVar 2) (aNil)))) (aCons (mCall ma_is_within_0_most_least_value (aKw 3 (aCons (mC (.int 9)) (aCons (mC (.int 0)) (aCons (mVar 2) (aNil)))))) (aNil)))) (mBin gMulS (mLst (aCons (mC (.bl false)) (aNil))) (mC (.int 2))))) (mRet (mC (.bl false))) (mNx)
def st__law_kinds_right_5 : Gm → T Fl := mSet 3 (mCall ma__law_pick_2 (aCons (mVar 0) (aCons (mLst (aCons (mC (.str "a")) (aCons (mC (.str "z")) (aCons (mC (.str "abcdefgh")) (aCons (mC (.str "abcdefghi")) (aCons (mC (.str "")) (aCons (mC (.str "A")) (aCons (mC (.str "a1")) (aCons (mC (.str "a b")) (aCons (mC (.str "-")) (aCons (mC (.str "first")) (aNil)))))))))))) (aNil))))
def st__law_kinds_right_6 : Gm → T Fl := mSet 4 (mAndV (mChain gLe gLe (mC (.int 1)) (mUn gLen (mVar 3)) (mC (.int 8))) (mBin gEqD (mLc (iAny (mVar 3)) (gmName 5) (mB (mBin gNotInP (mVar 5) (mC (.str "abcdefghijklmnopqrstuvwxyz")))) (mVar 5) [5]) (mLst (aNil))))
def st__law_kinds_right_7 : Gm → T Fl := mIfS (tOrM (mB (mBin gNeD (mCall ma_is_name_1 (aCons (mVar 3) (aNil))) (mVar 4))) (mB (mBin gIsNotA (mCall ma_is_name_0_value (aKw 1 (aCons (mCall ma__law_pick_2 (aCons (mVar 0) (aCons (mLst (aCons (mC .non) (aCons (mC (.int 0)) (aCons (mC (.bl true)) (aCons (mLst (aCons (mC (.str "a")) (aNil))) (aCons (mTup (aCons (mC (.str "a")) (aNil))) (aCons (mDct0) (aNil)))))))) (aNil)))) (aNil)))) (mC (.bl false))))) (mRet (mC (.bl false))) (mNx)
def st__law_kinds_right_8 : Gm → T Fl := mSet 6 (mCall ma__law_pick_2 (aCons (mVar 0) (aCons (mLst (aCons (mC (.str "")) (aCons (mC (.str "0")) (aCons (mC (.str "01")) (aCons (mBin gMulS (mC (.str "1")) (mC (.int 200))) (aCons (mBin gMulS (mC (.str "0")) (mC (.int 201))) (aCons (mC (.str "2")) (aCons (mC (.str "0 1")) (aCons (mC (.str "-1")) (aCons (mC (.str "10a")) (aCons (mC (.str "01\n")) (aNil)))))))))))) (aNil))))
def st__law_kinds_right_9 : Gm → T Fl := mSet 4 (mBin gEqD (mLc (iAny (mVar 6)) (gmName 5) (mB (mBin gNotInP (mVar 5) (mC (.str "01")))) (mVar 5) [5]) (mLst (aNil)))
def st__law_kinds_right_10 : Gm → T Fl := mIfS (tOrM (mB (mBin gNeD (mCall ma_is_signs_0_value (aKw 1 (aCons (mVar 6) (aNil)))) (mVar 4))) (mB (mBin gNeD (mCall ma_is_letter_1 (aCons (mVar 6) (aNil))) (mAndV (mVar 4) (mBin gLe (mUn gLen (mVar 6)) (mC (.int 200))))))) (mRet (mC (.bl false))) (mNx)
def st__law_kinds_right_11 : Gm → T Fl := mSet 2 (mCall ma__law_pick_2 (aCons (mVar 0) (aCons (mLst (aCons (mC .non) (aCons (mC (.int 0)) (aCons (mC (.int 1)) (aCons (mC (.bl true)) (aCons (mLst (aCons (mC (.str "0")) (aNil))) (aCons (mTup (aCons (mC (.str "0")) (aCons (mC (.str "1")) (aNil)))) (aCons (mDct0) (aNil))))))))) (aNil))))
def st__law_kinds_right_12 : Gm → T Fl := mRet (mBin gEqD (mLst (aCons (mCall ma_is_signs_1 (aCons (mVar 2) (aNil))) (aCons (mCall ma_is_letter_0_value (aKw 1 (aCons (mVar 2) (aNil)))) (aNil)))) (mLst (aCons (mC (.bl false)) (aCons (mC (.bl false)) (aNil)))))
def m__law_kinds_right : Gm → T Fl := mSeq st__law_kinds_right_1 (mSeq st__law_kinds_right_2 (mCl [1] (mSeq st__law_kinds_right_3 (mSeq st__law_kinds_right_4 (mCl [2] (mSeq st__law_kinds_right_5 (mSeq st__law_kinds_right_6 (mSeq st__law_kinds_right_7 (mCl [3, 4] (mSeq st__law_kinds_right_8 (mSeq st__law_kinds_right_9 (mCl [5] (mSeq st__law_kinds_right_10 (mCl [4, 6] (mSeq st__law_kinds_right_11 (mCl [0] (st__law_kinds_right_12)))))))))))))))))
def r__law_kinds_right : List D → T D := runB 1 7 m__law_kinds_right
theorem ok__law_kinds_right (H : Fc P w K mg base c) {fd : FuncData} (F : FunD K "_law_kinds_right" "_law_kinds_right" (defArgs s__law_kinds_right) (defBody s__law_kinds_right) (defScope s__law_kinds_right) [] [] (He.fAd K ("_law_kinds_right", none)) fd) : DL.FnOk P w K mg base (CX P w) 3 (He.fAd K ("_law_kinds_right", none)) fd ["_law_pen_here"] (spD c K r__law_kinds_right) :=
  fnD F sc__law_kinds_right (by decide) fun cdv A outer s H0 E hcd hr => dss_cons (ds_set 1 sc__law_kinds_right.nd (de_call (a__law_pick_2 H) (hr.mono (by decide)) (takes_of rfl rfl rfl rfl) H.g__law_pick H.k__law_pick (dc_pos (da_cons (de_var 0) (da_cons (de_lst (da_cons (de_neg (de_int)) (da_cons (de_int) (da_cons (de_int) (da_cons (de_int) (da_cons (de_call (a__law_draw_2 H) (hr.mono (by decide)) (takes_of rfl rfl rfl rfl) H.g__law_draw H.k__law_draw (dc_pos (da_cons (de_var 0) (da_cons (de_int) (da_nil))))) (da_cons (de_bin o_pow (de_int) (de_int)) (da_cons (de_neg (de_bin o_pow (de_int) (de_int))) (da_nil))))))))) (da_nil)))))) (dss_cons (ds_if (dt_cmp (o_ne hr.toRoom.units) (de_lst (da_cons (de_call (a_is_integer_1 H) (hr.mono (by decide)) (takes_of rfl rfl rfl rfl) H.g_is_integer H.k_is_integer (dc_pos (da_cons (de_var 1) (da_nil)))) (da_cons (de_call (a_is_within_3 H) (hr.mono (by decide)) (takes_of rfl rfl rfl rfl) H.g_is_within H.k_is_within (dc_pos (da_cons (de_var 1) (da_cons (de_int) (da_cons (de_int) (da_nil)))))) (da_nil)))) (de_lst (da_cons (de_bl) (da_cons (de_chain o_le o_le (de_int) (de_var 1) (de_int)) (da_nil))))) (dss_one (ds_ret (de_bl))) (dss_nil)) (dss_cl [1] (dss_cons (ds_set 2 sc__law_kinds_right.nd (de_call (a__law_pick_2 H) (hr.mono (by decide)) (takes_of rfl rfl rfl rfl) H.g__law_pick H.k__law_pick (dc_pos (da_cons (de_var 0) (da_cons (de_lst (da_cons (de_non) (da_cons (de_bl) (da_cons (de_bl) (da_cons (de_str) (da_cons (de_str) (da_cons (de_tup (da_cons (de_int) (da_nil))) (da_cons (de_lst (da_cons (de_int) (da_nil))) (da_cons (de_dct0) (da_cons (de_dct1 (k := (.inl 0)) pe_int pe_int (fun _ => (.int _))) (da_nil))))))))))) (da_nil)))))) (dss_cons (ds_if (dt_cmp (o_ne hr.toRoom.units) (de_lst (da_cons (de_call (a_is_integer_0_value H) (hr.mono (by decide)) (takes_of rfl rfl rfl rfl) H.g_is_integer H.k_is_integer (dc_kw0 (dk_cons (de_var 2) (dk_nil)))) (da_cons (de_call (a_is_within_0_most_least_value H) (hr.mono (by decide)) (takes_of rfl rfl rfl rfl) H.g_is_within H.k_is_within (dc_kw0 (dk_cons (de_int) (dk_cons (de_int) (dk_cons (de_var 2) (dk_nil)))))) (da_nil)))) (de_bin o_mulS (de_lst (da_cons (de_bl) (da_nil))) (de_int))) (dss_one (ds_ret (de_bl))) (dss_nil)) (dss_cl [2] (dss_cons (ds_set 3 sc__law_kinds_right.nd (de_call (a__law_pick_2 H) (hr.mono (by decide)) (takes_of rfl rfl rfl rfl) H.g__law_pick H.k__law_pick (dc_pos (da_cons (de_var 0) (da_cons (de_lst (da_cons (de_str) (da_cons (de_str) (da_cons (de_str) (da_cons (de_str) (da_cons (de_str) (da_cons (de_str) (da_cons (de_str) (da_cons (de_str) (da_cons (de_str) (da_cons (de_str) (da_nil)))))))))))) (da_nil)))))) (dss_cons (ds_set 4 sc__law_kinds_right.nd (de_and (de_chain o_le o_le (de_int) (de_b1 b_len bi_len H.b_len PyProof.Rows.Boot.«len» (de_var 3)) (de_int)) (de_one (de_cmp (o_eq hr.toRoom.units) (de_lc (own := [("_law_sign", 5)]) rfl sc__law_kinds_right.nd (di_any (de_var 3)) rfl (fun _ _ _ _ _ => dg_name 5 sc__law_kinds_right.nd) (fun _ _ _ _ _ => dts_one (dt_cmp o_notinP (de_var 5) (de_str))) (fun _ _ _ _ _ => de_var 5)) (de_lst (da_nil)))))) (dss_cons (ds_if (dt_or (dt_cmp (o_ne hr.toRoom.units) (de_call (a_is_name_1 H) (hr.mono (by decide)) (takes_of rfl rfl rfl rfl) H.g_is_name H.k_is_name (dc_pos (da_cons (de_var 3) (da_nil)))) (de_var 4)) (dw_or1 (dt_cmp o_isnotA (de_call (a_is_name_0_value H) (hr.mono (by decide)) (takes_of rfl rfl rfl rfl) H.g_is_name H.k_is_name (dc_kw0 (dk_cons (de_call (a__law_pick_2 H) (hr.mono (by decide)) (takes_of rfl rfl rfl rfl) H.g__law_pick H.k__law_pick (dc_pos (da_cons (de_var 0) (da_cons (de_lst (da_cons (de_non) (da_cons (de_int) (da_cons (de_bl) (da_cons (de_lst (da_cons (de_str) (da_nil))) (da_cons (de_tup (da_cons (de_str) (da_nil))) (da_cons (de_dct0) (da_nil)))))))) (da_nil))))) (dk_nil)))) (de_bl)))) (dss_one (ds_ret (de_bl))) (dss_nil)) (dss_cl [3, 4] (dss_cons (ds_set 6 sc__law_kinds_right.nd (de_call (a__law_pick_2 H) (hr.mono (by decide)) (takes_of rfl rfl rfl rfl) H.g__law_pick H.k__law_pick (dc_pos (da_cons (de_var 0) (da_cons (de_lst (da_cons (de_str) (da_cons (de_str) (da_cons (de_str) (da_cons (de_bin o_mulS (de_str) (de_int)) (da_cons (de_bin o_mulS (de_str) (de_int)) (da_cons (de_str) (da_cons (de_str) (da_cons (de_str) (da_cons (de_str) (da_cons (de_str) (da_nil)))))))))))) (da_nil)))))) (dss_cons (ds_set 4 sc__law_kinds_right.nd (de_cmp (o_eq hr.toRoom.units) (de_lc (own := [("_law_sign", 5)]) rfl sc__law_kinds_right.nd (di_any (de_var 6)) rfl (fun _ _ _ _ _ => dg_name 5 sc__law_kinds_right.nd) (fun _ _ _ _ _ => dts_one (dt_cmp o_notinP (de_var 5) (de_str))) (fun _ _ _ _ _ => de_var 5)) (de_lst (da_nil)))) (dss_cl [5] (dss_cons (ds_if (dt_or (dt_cmp (o_ne hr.toRoom.units) (de_call (a_is_signs_0_value H) (hr.mono (by decide)) (takes_of rfl rfl rfl rfl) H.g_is_signs H.k_is_signs (dc_kw0 (dk_cons (de_var 6) (dk_nil)))) (de_var 4)) (dw_or1 (dt_cmp (o_ne hr.toRoom.units) (de_call (a_is_letter_1 H) (hr.mono (by decide)) (takes_of rfl rfl rfl rfl) H.g_is_letter H.k_is_letter (dc_pos (da_cons (de_var 6) (da_nil)))) (de_and (de_var 4) (de_one (de_cmp o_le (de_b1 b_len bi_len H.b_len PyProof.Rows.Boot.«len» (de_var 6)) (de_int))))))) (dss_one (ds_ret (de_bl))) (dss_nil)) (dss_cl [4, 6] (dss_cons (ds_set 2 sc__law_kinds_right.nd (de_call (a__law_pick_2 H) (hr.mono (by decide)) (takes_of rfl rfl rfl rfl) H.g__law_pick H.k__law_pick (dc_pos (da_cons (de_var 0) (da_cons (de_lst (da_cons (de_non) (da_cons (de_int) (da_cons (de_int) (da_cons (de_bl) (da_cons (de_lst (da_cons (de_str) (da_nil))) (da_cons (de_tup (da_cons (de_str) (da_cons (de_str) (da_nil)))) (da_cons (de_dct0) (da_nil))))))))) (da_nil)))))) (dss_cl [0] (dss_one (ds_ret (de_cmp (o_eq hr.toRoom.units) (de_lst (da_cons (de_call (a_is_signs_1 H) (hr.mono (by decide)) (takes_of rfl rfl rfl rfl) H.g_is_signs H.k_is_signs (dc_pos (da_cons (de_var 2) (da_nil)))) (da_cons (de_call (a_is_letter_0_value H) (hr.mono (by decide)) (takes_of rfl rfl rfl rfl) H.g_is_letter H.k_is_letter (dc_kw0 (dk_cons (de_var 2) (dk_nil)))) (da_nil)))) (de_lst (da_cons (de_bl) (da_cons (de_bl) (da_nil)))))))))))))))))))))))
def ma__law_kinds_right_1 := posM 1 r__law_kinds_right []
theorem a__law_kinds_right_1 (H : Fc P w K mg base c) : FnA P w K mg base 3 (He.fAd K ("_law_kinds_right", none)) [] (spD c K ma__law_kinds_right_1) := by
  obtain ⟨fd, F⟩ := H.d__law_kinds_right
  exact FnA.pos 1 (ok__law_kinds_right H F) (F.bindsN fun _ _ _ _ _ _ us hl => match us, hl with | [_], _ => rfl) .nil (fun _ => .nil)
theorem sc_law : FnScope ["_law_script", "_law_pen_here", "_law_turn"] ["_law_script"] (defScope s_law) := ⟨rfl, rfl, rfl, by decide +kernel, rfl, by decide +kernel, by decide +kernel⟩
theorem sc__law_pen : FnScope ["_law_script"] ["_law_script"] (defScope s__law_pen) := ⟨rfl, rfl, rfl, by decide +kernel, rfl, by decide +kernel, by decide +kernel⟩
def b_law_1 : Gm → T Fl := mIfS (tOrM (tNotM (mTru (mCall ma__law_errors_right_1 (aCons (mVar 1) (aNil))))) (tNotM (mTru (mCall ma__law_kinds_right_1 (aCons (mVar 1) (aNil)))))) (mRet (mC (.bl false))) (mNx)
def st_law_1 : Gm → T Fl := mFor (DL.iRng1 (mC (.int 6))) (gmName 2) (mCl [2] (b_law_1))
def st_law_2 : Gm → T Fl := mRet (mC (.bl true))
def m_law : Gm → T Fl := mSeq st_law_1 (mCl [0, 1, 2] (st_law_2))
theorem body_law (H : Fc P w K mg base c) {f : Addr} (cdv : Value) (A : Around) (outer : List Env) (s : Shared) (H0 : Hp) (E : XK) {fdc : Value} (hcd : fdc = cdv) (hr : DL.Room 4 (A.deeper (envOfC "law" (defScope s_law) s.heap.objs.size f cdv))) :
    DSs (cxOf (CX P w) P w K mg base ["_law_script", "_law_pen_here", "_law_turn"] "law" (defScope s_law) f cdv A outer s H0 E) c (fun cls d _ H => E cls d H) ((defBody s_law).drop 1) m_law :=
  dss_cons (ds_for (passes_of rfl) rfl (di_rng1 H.b_range (de_int)) (dg_name 2 sc_law.nd) (dss_cl [2] (dss_one (ds_if (dt_or (dt_not (dt_tru (de_call (a__law_errors_right_1 H) (hr.mono (by decide)) (takes_of rfl rfl rfl rfl) H.g__law_errors_right H.k__law_errors_right (dc_pos (da_cons (de_var 1) (da_nil)))))) (dw_or1 (dt_not (dt_tru (de_call (a__law_kinds_right_1 H) (hr.mono (by decide)) (takes_of rfl rfl rfl rfl) H.g__law_kinds_right H.k__law_kinds_right (dc_pos (da_cons (de_var 1) (da_nil)))))))) (dss_one (ds_ret (de_bl))) (dss_nil))))) (dss_cl [0, 1, 2] (dss_one (ds_ret (de_bl))))
end
/-! ### the head -/
theorem xs_BadFrameu__initu_ : SupScope ["self", "part"] (defScope s_BadFrameu__initu_) := ⟨rfl, rfl, rfl, by decide +kernel, by decide +kernel, by decide +kernel, fun y h => supS_free (by decide +kernel) h, by decide +kernel, by decide +kernel⟩
theorem xs_BadGrowthu__initu_ : SupScope ["self", "part"] (defScope s_BadGrowthu__initu_) := ⟨rfl, rfl, rfl, by decide +kernel, by decide +kernel, by decide +kernel, fun y h => supS_free (by decide +kernel) h, by decide +kernel, by decide +kernel⟩
theorem xs_BadPlanu__initu_ : SupScope ["self", "part"] (defScope s_BadPlanu__initu_) := ⟨rfl, rfl, rfl, by decide +kernel, by decide +kernel, by decide +kernel, fun y h => supS_free (by decide +kernel) h, by decide +kernel, by decide +kernel⟩
theorem xs_BadCellu__initu_ : SupScope ["self", "part"] (defScope s_BadCellu__initu_) := ⟨rfl, rfl, rfl, by decide +kernel, by decide +kernel, by decide +kernel, fun y h => supS_free (by decide +kernel) h, by decide +kernel, by decide +kernel⟩
theorem xs_BadRoundu__initu_ : SupScope ["self", "part"] (defScope s_BadRoundu__initu_) := ⟨rfl, rfl, rfl, by decide +kernel, by decide +kernel, by decide +kernel, fun y h => supS_free (by decide +kernel) h, by decide +kernel, by decide +kernel⟩
theorem xs_BadRuleu__initu_ : SupScope ["self", "part"] (defScope s_BadRuleu__initu_) := ⟨rfl, rfl, rfl, by decide +kernel, by decide +kernel, by decide +kernel, fun y h => supS_free (by decide +kernel) h, by decide +kernel, by decide +kernel⟩
theorem xs_BadTableu__initu_ : SupScope ["self", "part"] (defScope s_BadTableu__initu_) := ⟨rfl, rfl, rfl, by decide +kernel, by decide +kernel, by decide +kernel, fun y h => supS_free (by decide +kernel) h, by decide +kernel, by decide +kernel⟩
theorem xs_BadNetu__initu_ : SupScope ["self", "part"] (defScope s_BadNetu__initu_) := ⟨rfl, rfl, rfl, by decide +kernel, by decide +kernel, by decide +kernel, fun y h => supS_free (by decide +kernel) h, by decide +kernel, by decide +kernel⟩
theorem xs_BadStacku__initu_ : SupScope ["self", "part"] (defScope s_BadStacku__initu_) := ⟨rfl, rfl, rfl, by decide +kernel, by decide +kernel, by decide +kernel, fun y h => supS_free (by decide +kernel) h, by decide +kernel, by decide +kernel⟩
theorem xs_BadPairu__initu_ : SupScope ["self", "part"] (defScope s_BadPairu__initu_) := ⟨rfl, rfl, rfl, by decide +kernel, by decide +kernel, by decide +kernel, fun y h => supS_free (by decide +kernel) h, by decide +kernel, by decide +kernel⟩
theorem xs_BadPlayu__initu_ : SupScope ["self", "part"] (defScope s_BadPlayu__initu_) := ⟨rfl, rfl, rfl, by decide +kernel, by decide +kernel, by decide +kernel, fun y h => supS_free (by decide +kernel) h, by decide +kernel, by decide +kernel⟩
theorem xs_BadRunu__initu_ : SupScope ["self", "part"] (defScope s_BadRunu__initu_) := ⟨rfl, rfl, rfl, by decide +kernel, by decide +kernel, by decide +kernel, fun y h => supS_free (by decide +kernel) h, by decide +kernel, by decide +kernel⟩
theorem xs_Clashingu__initu_ : SupScope ["self", "part"] (defScope s_Clashingu__initu_) := ⟨rfl, rfl, rfl, by decide +kernel, by decide +kernel, by decide +kernel, fun y h => supS_free (by decide +kernel) h, by decide +kernel, by decide +kernel⟩
theorem xs_BadLossesu__initu_ : SupScope ["self", "value"] (defScope s_BadLossesu__initu_) := ⟨rfl, rfl, rfl, by decide +kernel, by decide +kernel, by decide +kernel, fun y h => supS_free (by decide +kernel) h, by decide +kernel, by decide +kernel⟩
theorem xs_BadLetteru__initu_ : SupScope ["self", "value"] (defScope s_BadLetteru__initu_) := ⟨rfl, rfl, rfl, by decide +kernel, by decide +kernel, by decide +kernel, fun y h => supS_free (by decide +kernel) h, by decide +kernel, by decide +kernel⟩
theorem xs_BadNameu__initu_ : SupScope ["self", "value"] (defScope s_BadNameu__initu_) := ⟨rfl, rfl, rfl, by decide +kernel, by decide +kernel, by decide +kernel, fun y h => supS_free (by decide +kernel) h, by decide +kernel, by decide +kernel⟩
theorem xs_BadNumberu__initu_ : SupScope ["self", "value"] (defScope s_BadNumberu__initu_) := ⟨rfl, rfl, rfl, by decide +kernel, by decide +kernel, by decide +kernel, fun y h => supS_free (by decide +kernel) h, by decide +kernel, by decide +kernel⟩
theorem xs_NoNameu__initu_ : SupScope ["self", "name"] (defScope s_NoNameu__initu_) := ⟨rfl, rfl, rfl, by decide +kernel, by decide +kernel, by decide +kernel, fun y h => supS_free (by decide +kernel) h, by decide +kernel, by decide +kernel⟩
theorem xs_BadCommandu__initu_ : SupScope ["self", "word"] (defScope s_BadCommandu__initu_) := ⟨rfl, rfl, rfl, by decide +kernel, by decide +kernel, by decide +kernel, fun y h => supS_free (by decide +kernel) h, by decide +kernel, by decide +kernel⟩
theorem xs_NoHouseu__initu_ : SupScope ["self", "name"] (defScope s_NoHouseu__initu_) := ⟨rfl, rfl, rfl, by decide +kernel, by decide +kernel, by decide +kernel, fun y h => supS_free (by decide +kernel) h, by decide +kernel, by decide +kernel⟩
theorem xs_NoFlowu__initu_ : SupScope ["self", "name"] (defScope s_NoFlowu__initu_) := ⟨rfl, rfl, rfl, by decide +kernel, by decide +kernel, by decide +kernel, fun y h => supS_free (by decide +kernel) h, by decide +kernel, by decide +kernel⟩
theorem xs_NoLaneu__initu_ : SupScope ["self", "key"] (defScope s_NoLaneu__initu_) := ⟨rfl, rfl, rfl, by decide +kernel, by decide +kernel, by decide +kernel, fun y h => supS_free (by decide +kernel) h, by decide +kernel, by decide +kernel⟩
theorem xs_NoLinku__initu_ : SupScope ["self", "name"] (defScope s_NoLinku__initu_) := ⟨rfl, rfl, rfl, by decide +kernel, by decide +kernel, by decide +kernel, fun y h => supS_free (by decide +kernel) h, by decide +kernel, by decide +kernel⟩
theorem xs_NoPhaseu__initu_ : SupScope ["self", "at"] (defScope s_NoPhaseu__initu_) := ⟨rfl, rfl, rfl, by decide +kernel, by decide +kernel, by decide +kernel, fun y h => supS_free (by decide +kernel) h, by decide +kernel, by decide +kernel⟩
theorem xs_NoLineu__initu_ : SupScope ["self", "key"] (defScope s_NoLineu__initu_) := ⟨rfl, rfl, rfl, by decide +kernel, by decide +kernel, by decide +kernel, fun y h => supS_free (by decide +kernel) h, by decide +kernel, by decide +kernel⟩
theorem xs_BadTextu__initu_ : SupScope ["self", "line", "word"] (defScope s_BadTextu__initu_) := ⟨rfl, rfl, rfl, by decide +kernel, by decide +kernel, by decide +kernel, fun y h => supS_free (by decide +kernel) h, by decide +kernel, by decide +kernel⟩
theorem xs_TooManyu__initu_ : SupScope ["self", "what", "most"] (defScope s_TooManyu__initu_) := ⟨rfl, rfl, rfl, by decide +kernel, by decide +kernel, by decide +kernel, fun y h => supS_free (by decide +kernel) h, by decide +kernel, by decide +kernel⟩
def tfL : List (He.Defn × Str) := []
def faL0 : List He.Fa := [.free "int",
  .free "isinstance",
  .free "bool",
  .glo "is_integer",
  .keep "is_integer",
  .free "str",
  .free "len",
  .free "all",
  .glo "is_signs",
  .keep "is_signs",
  .glo "_law_draw",
  .keep "_law_draw",
  .glo "BadFrame",
  .noat "BadFrame" "part",
  .free "super",
  .glo "BadGrowth",
  .noat "BadGrowth" "part",
  .glo "BadPlan",
  .noat "BadPlan" "part",
  .glo "BadCell",
  .noat "BadCell" "part",
  .glo "BadRound",
  .noat "BadRound" "part",
  .glo "BadRule",
  .noat "BadRule" "part",
  .glo "BadTable",
  .noat "BadTable" "part",
  .glo "BadNet",
  .noat "BadNet" "part",
  .glo "BadStack"]
def faL1 : List He.Fa := [.noat "BadStack" "part",
  .glo "BadPair",
  .noat "BadPair" "part",
  .glo "BadPlay",
  .noat "BadPlay" "part",
  .glo "BadRun",
  .noat "BadRun" "part",
  .glo "Clashing",
  .noat "Clashing" "part",
  .glo "BadLosses",
  .noat "BadLosses" "value",
  .glo "BadLetter",
  .noat "BadLetter" "value",
  .glo "BadName",
  .noat "BadName" "value",
  .glo "BadNumber",
  .noat "BadNumber" "value",
  .glo "NoName",
  .noat "NoName" "name",
  .glo "BadCommand",
  .noat "BadCommand" "word",
  .glo "NoHouse",
  .noat "NoHouse" "name",
  .glo "NoFlow",
  .noat "NoFlow" "name",
  .glo "NoLane",
  .noat "NoLane" "key",
  .glo "NoLink",
  .noat "NoLink" "name",
  .glo "NoPhase"]
def faL2 : List He.Fa := [.noat "NoPhase" "at",
  .glo "NoLine",
  .noat "NoLine" "key",
  .glo "BadText",
  .noat "BadText" "line",
  .noat "BadText" "word",
  .glo "TooMany",
  .noat "TooMany" "what",
  .noat "TooMany" "most",
  .glo "Nothing",
  .free "range",
  .glo "PostError",
  .free "ValueError",
  .glo "_law_pick",
  .keep "_law_pick",
  .glo "_law_parts",
  .keep "_law_parts",
  .glo "_law_others",
  .keep "_law_others",
  .glo "_law_classes",
  .keep "_law_classes",
  .glo "_law_is_error",
  .keep "_law_is_error",
  .free "repr",
  .exc "Nothing",
  .glo "is_within",
  .keep "is_within",
  .glo "is_name",
  .keep "is_name",
  .glo "is_letter"]
def faL3 : List He.Fa := [.keep "is_letter",
  .glo "_law_errors_right",
  .keep "_law_errors_right",
  .glo "_law_kinds_right",
  .keep "_law_kinds_right",
  .free "abs",
  .glo "law",
  .glo "_law_pen",
  .keep "_law_pen",
  .free "list"]
def faL : List He.Fa := faL0 ++ (faL1 ++ (faL2 ++ (faL3)))
def fbL0 : List Fb := [.con "LETTERS" (.str "abcdefghijklmnopqrstuvwxyz"),
  .con "MOST_SIGNS" (.int 200),
  .xcl "BadFrame" "BadFrame.__init__",
  .xfl cnL [1, 3, 4, 5, 6, 8, 9, 10, 11, 12, 13, 14, 26] "part",
  .xcl "BadGrowth" "BadGrowth.__init__",
  .xcl "BadPlan" "BadPlan.__init__",
  .xcl "BadCell" "BadCell.__init__",
  .xcl "BadRound" "BadRound.__init__",
  .xcl "BadRule" "BadRule.__init__",
  .xcl "BadTable" "BadTable.__init__",
  .xcl "BadNet" "BadNet.__init__",
  .xcl "BadStack" "BadStack.__init__",
  .xcl "BadPair" "BadPair.__init__",
  .xcl "BadPlay" "BadPlay.__init__",
  .xcl "BadRun" "BadRun.__init__",
  .xcl "Clashing" "Clashing.__init__",
  .xcl "BadLosses" "BadLosses.__init__",
  .xfl cnL [2, 7, 15, 18] "value",
  .xcl "BadLetter" "BadLetter.__init__",
  .xcl "BadName" "BadName.__init__",
  .xcl "BadNumber" "BadNumber.__init__",
  .xcl "NoName" "NoName.__init__",
  .xfl cnL [19, 20, 21, 22] "name",
  .xcl "BadCommand" "BadCommand.__init__",
  .xfl cnL [16, 17] "word",
  .xcl "NoHouse" "NoHouse.__init__",
  .xcl "NoFlow" "NoFlow.__init__",
  .xcl "NoLane" "NoLane.__init__",
  .xfl cnL [23, 24] "key",
  .xcl "NoLink" "NoLink.__init__"]
def fbL1 : List Fb := [.xcl "NoPhase" "NoPhase.__init__",
  .xfl cnL [25] "at",
  .xcl "NoLine" "NoLine.__init__",
  .xcl "BadText" "BadText.__init__",
  .xcl "TooMany" "TooMany.__init__",
  .xfl cnL [28] "most",
  .sm,
  .xfl cnL [28] "what",
  .xfl cnL [16] "line",
  .isf cnL ownL excL 29 upL utL tyL]
def fbL : List Fb := fbL0 ++ (fbL1)
def fnL0 : List He.DefD := [⟨("is_integer", none), "is_integer", "is_integer", defArgs s_is_integer, defBody s_is_integer, defScope s_is_integer, [], []⟩,
  ⟨("is_within", none), "is_within", "is_within", defArgs s_is_within, defBody s_is_within, defScope s_is_within, [], []⟩,
  ⟨("is_name", none), "is_name", "is_name", defArgs s_is_name, defBody s_is_name, defScope s_is_name, [], []⟩,
  ⟨("is_signs", none), "is_signs", "is_signs", defArgs s_is_signs, defBody s_is_signs, defScope s_is_signs, [], []⟩,
  ⟨("is_letter", none), "is_letter", "is_letter", defArgs s_is_letter, defBody s_is_letter, defScope s_is_letter, [], []⟩,
  ⟨("_law_pick", none), "_law_pick", "_law_pick", defArgs s__law_pick, defBody s__law_pick, defScope s__law_pick, [], []⟩,
  ⟨("_law_parts", none), "_law_parts", "_law_parts", defArgs s__law_parts, defBody s__law_parts, defScope s__law_parts, [], []⟩,
  ⟨("_law_others", none), "_law_others", "_law_others", defArgs s__law_others, defBody s__law_others, defScope s__law_others, [], []⟩,
  ⟨("_law_classes", none), "_law_classes", "_law_classes", defArgs s__law_classes, defBody s__law_classes, defScope s__law_classes, [], []⟩,
  ⟨("_law_is_error", none), "_law_is_error", "_law_is_error", defArgs s__law_is_error, defBody s__law_is_error, defScope s__law_is_error, [], []⟩,
  ⟨("_law_errors_right", none), "_law_errors_right", "_law_errors_right", defArgs s__law_errors_right, defBody s__law_errors_right, defScope s__law_errors_right, [], []⟩,
  ⟨("_law_kinds_right", none), "_law_kinds_right", "_law_kinds_right", defArgs s__law_kinds_right, defBody s__law_kinds_right, defScope s__law_kinds_right, [], []⟩,
  ⟨("_law_draw", none), "_law_draw", "_law_draw", defArgs s_draw, defBody s_draw, defScope s_draw, [], []⟩,
  ⟨("law", none), "law", "law", defArgs s_law, defBody s_law, defScope s_law, [], []⟩,
  ⟨("_law_pen", none), "_law_pen", "_law_pen", defArgs s__law_pen, defBody s__law_pen, defScope s__law_pen, [], []⟩]
def fnL : List He.DefD := fnL0
def xsL0 : List XDef := [xd_BadFrameu__initu_,
  xd_BadGrowthu__initu_,
  xd_BadPlanu__initu_,
  xd_BadCellu__initu_,
  xd_BadRoundu__initu_,
  xd_BadRuleu__initu_,
  xd_BadTableu__initu_,
  xd_BadNetu__initu_,
  xd_BadStacku__initu_,
  xd_BadPairu__initu_,
  xd_BadPlayu__initu_,
  xd_BadRunu__initu_,
  xd_Clashingu__initu_,
  xd_BadLossesu__initu_,
  xd_BadLetteru__initu_,
  xd_BadNameu__initu_,
  xd_BadNumberu__initu_,
  xd_NoNameu__initu_,
  xd_BadCommandu__initu_,
  xd_NoHouseu__initu_,
  xd_NoFlowu__initu_,
  xd_NoLaneu__initu_,
  xd_NoLinku__initu_,
  xd_NoPhaseu__initu_,
  xd_NoLineu__initu_,
  xd_BadTextu__initu_,
  xd_TooManyu__initu_]
def xsL : List XDef := xsL0
def hdD : Hd := { n := 4, file := PG.main.file, fa := faL, fb := fbL, fn := fnL, xs := xsL, tf := tfL.map (·.1) }
abbrev ctOf (K : PySem.W.Frag) (ns : List Int) (bl : Nat) (pa sa : Addr) : Ct := ⟨fun i => He.ga K (cN cnL i), pa, sa, ns, bl, tbOf K tfL, true⟩
theorem fc_of {w : World} {K : PySem.W.Frag} {mg : Str → Option Value} {h base : Heap} {ns : List Int} {bl : Nat} {pa sa : Addr} (X : K.In h) (G : h.Ns mainGlobals mg) (S : SaysZ hdD h K) (TB : ∀ p ∈ (tfL.map (·.1)).map (He.cT K), LamX.TabB base mg p.1 p.2) (hn : ∀ z ∈ ns, 2 * z.natAbs + 2 < 2 ^ bl) : Fc PG w K mg base (ctOf K ns bl pa sa) where
    b_int := He.free_ok X G (S.a 0 (f := .free "int"))
    b_isinstance := He.free_ok X G (S.a 1 (f := .free "isinstance"))
    b_bool := He.free_ok X G (S.a 2 (f := .free "bool"))
    g_is_integer := He.glo_ok X G (S.a 3 (f := .glo "is_integer"))
    k_is_integer := He.keep_ok (S.a 4 (f := .keep "is_integer"))
    b_str := He.free_ok X G (S.a 5 (f := .free "str"))
    b_len := He.free_ok X G (S.a 6 (f := .free "len"))
    c_LETTERS := con_ok X G (S.b 0 (f := .con "LETTERS" (.str "abcdefghijklmnopqrstuvwxyz")))
    b_all := He.free_ok X G (S.a 7 (f := .free "all"))
    g_is_signs := He.glo_ok X G (S.a 8 (f := .glo "is_signs"))
    k_is_signs := He.keep_ok (S.a 9 (f := .keep "is_signs"))
    c_MOST_SIGNS := con_ok X G (S.b 1 (f := .con "MOST_SIGNS" (.int 200)))
    g__law_draw := He.glo_ok X G (S.a 10 (f := .glo "_law_draw"))
    k__law_draw := He.keep_ok (S.a 11 (f := .keep "_law_draw"))
    g_BadFrame := He.glo_ok X G (S.a 12 (f := .glo "BadFrame"))
    x_BadFrame := xfn1 (d := xd_BadFrameu__initu_) (by decide +kernel) (S.x 0) (S.b 2 (f := .xcl "BadFrame" "BadFrame.__init__")) rfl xs_BadFrameu__initu_ rfl rfl (He.free_ok X G (S.a 14 (f := .free "super"))) (fun _ _ _ _ => ⟨rfl, rfl, rfl, rfl⟩) (He.noat_ok (S.a 13 (f := .noat "BadFrame" "part"))) (fun _ _ _ _ => rfl) (by decide) (by decide) (by decide) (by decide)
    xf_part := xfl_okH (fun _ => rfl) (S.b 3 (f := .xfl cnL [1, 3, 4, 5, 6, 8, 9, 10, 11, 12, 13, 14, 26] "part"))
    g_BadGrowth := He.glo_ok X G (S.a 15 (f := .glo "BadGrowth"))
    x_BadGrowth := xfn1 (d := xd_BadGrowthu__initu_) (by decide +kernel) (S.x 1) (S.b 4 (f := .xcl "BadGrowth" "BadGrowth.__init__")) rfl xs_BadGrowthu__initu_ rfl rfl (He.free_ok X G (S.a 14 (f := .free "super"))) (fun _ _ _ _ => ⟨rfl, rfl, rfl, rfl⟩) (He.noat_ok (S.a 16 (f := .noat "BadGrowth" "part"))) (fun _ _ _ _ => rfl) (by decide) (by decide) (by decide) (by decide)
    g_BadPlan := He.glo_ok X G (S.a 17 (f := .glo "BadPlan"))
    x_BadPlan := xfn1 (d := xd_BadPlanu__initu_) (by decide +kernel) (S.x 2) (S.b 5 (f := .xcl "BadPlan" "BadPlan.__init__")) rfl xs_BadPlanu__initu_ rfl rfl (He.free_ok X G (S.a 14 (f := .free "super"))) (fun _ _ _ _ => ⟨rfl, rfl, rfl, rfl⟩) (He.noat_ok (S.a 18 (f := .noat "BadPlan" "part"))) (fun _ _ _ _ => rfl) (by decide) (by decide) (by decide) (by decide)
    g_BadCell := He.glo_ok X G (S.a 19 (f := .glo "BadCell"))
    x_BadCell := xfn1 (d := xd_BadCellu__initu_) (by decide +kernel) (S.x 3) (S.b 6 (f := .xcl "BadCell" "BadCell.__init__")) rfl xs_BadCellu__initu_ rfl rfl (He.free_ok X G (S.a 14 (f := .free "super"))) (fun _ _ _ _ => ⟨rfl, rfl, rfl, rfl⟩) (He.noat_ok (S.a 20 (f := .noat "BadCell" "part"))) (fun _ _ _ _ => rfl) (by decide) (by decide) (by decide) (by decide)
    g_BadRound := He.glo_ok X G (S.a 21 (f := .glo "BadRound"))
    x_BadRound := xfn1 (d := xd_BadRoundu__initu_) (by decide +kernel) (S.x 4) (S.b 7 (f := .xcl "BadRound" "BadRound.__init__")) rfl xs_BadRoundu__initu_ rfl rfl (He.free_ok X G (S.a 14 (f := .free "super"))) (fun _ _ _ _ => ⟨rfl, rfl, rfl, rfl⟩) (He.noat_ok (S.a 22 (f := .noat "BadRound" "part"))) (fun _ _ _ _ => rfl) (by decide) (by decide) (by decide) (by decide)
    g_BadRule := He.glo_ok X G (S.a 23 (f := .glo "BadRule"))
    x_BadRule := xfn1 (d := xd_BadRuleu__initu_) (by decide +kernel) (S.x 5) (S.b 8 (f := .xcl "BadRule" "BadRule.__init__")) rfl xs_BadRuleu__initu_ rfl rfl (He.free_ok X G (S.a 14 (f := .free "super"))) (fun _ _ _ _ => ⟨rfl, rfl, rfl, rfl⟩) (He.noat_ok (S.a 24 (f := .noat "BadRule" "part"))) (fun _ _ _ _ => rfl) (by decide) (by decide) (by decide) (by decide)
    g_BadTable := He.glo_ok X G (S.a 25 (f := .glo "BadTable"))
    x_BadTable := xfn1 (d := xd_BadTableu__initu_) (by decide +kernel) (S.x 6) (S.b 9 (f := .xcl "BadTable" "BadTable.__init__")) rfl xs_BadTableu__initu_ rfl rfl (He.free_ok X G (S.a 14 (f := .free "super"))) (fun _ _ _ _ => ⟨rfl, rfl, rfl, rfl⟩) (He.noat_ok (S.a 26 (f := .noat "BadTable" "part"))) (fun _ _ _ _ => rfl) (by decide) (by decide) (by decide) (by decide)
    g_BadNet := He.glo_ok X G (S.a 27 (f := .glo "BadNet"))
    x_BadNet := xfn1 (d := xd_BadNetu__initu_) (by decide +kernel) (S.x 7) (S.b 10 (f := .xcl "BadNet" "BadNet.__init__")) rfl xs_BadNetu__initu_ rfl rfl (He.free_ok X G (S.a 14 (f := .free "super"))) (fun _ _ _ _ => ⟨rfl, rfl, rfl, rfl⟩) (He.noat_ok (S.a 28 (f := .noat "BadNet" "part"))) (fun _ _ _ _ => rfl) (by decide) (by decide) (by decide) (by decide)
    g_BadStack := He.glo_ok X G (S.a 29 (f := .glo "BadStack"))
    x_BadStack := xfn1 (d := xd_BadStacku__initu_) (by decide +kernel) (S.x 8) (S.b 11 (f := .xcl "BadStack" "BadStack.__init__")) rfl xs_BadStacku__initu_ rfl rfl (He.free_ok X G (S.a 14 (f := .free "super"))) (fun _ _ _ _ => ⟨rfl, rfl, rfl, rfl⟩) (He.noat_ok (S.a 30 (f := .noat "BadStack" "part"))) (fun _ _ _ _ => rfl) (by decide) (by decide) (by decide) (by decide)
    g_BadPair := He.glo_ok X G (S.a 31 (f := .glo "BadPair"))
    x_BadPair := xfn1 (d := xd_BadPairu__initu_) (by decide +kernel) (S.x 9) (S.b 12 (f := .xcl "BadPair" "BadPair.__init__")) rfl xs_BadPairu__initu_ rfl rfl (He.free_ok X G (S.a 14 (f := .free "super"))) (fun _ _ _ _ => ⟨rfl, rfl, rfl, rfl⟩) (He.noat_ok (S.a 32 (f := .noat "BadPair" "part"))) (fun _ _ _ _ => rfl) (by decide) (by decide) (by decide) (by decide)
    g_BadPlay := He.glo_ok X G (S.a 33 (f := .glo "BadPlay"))
    x_BadPlay := xfn1 (d := xd_BadPlayu__initu_) (by decide +kernel) (S.x 10) (S.b 13 (f := .xcl "BadPlay" "BadPlay.__init__")) rfl xs_BadPlayu__initu_ rfl rfl (He.free_ok X G (S.a 14 (f := .free "super"))) (fun _ _ _ _ => ⟨rfl, rfl, rfl, rfl⟩) (He.noat_ok (S.a 34 (f := .noat "BadPlay" "part"))) (fun _ _ _ _ => rfl) (by decide) (by decide) (by decide) (by decide)
    g_BadRun := He.glo_ok X G (S.a 35 (f := .glo "BadRun"))
    x_BadRun := xfn1 (d := xd_BadRunu__initu_) (by decide +kernel) (S.x 11) (S.b 14 (f := .xcl "BadRun" "BadRun.__init__")) rfl xs_BadRunu__initu_ rfl rfl (He.free_ok X G (S.a 14 (f := .free "super"))) (fun _ _ _ _ => ⟨rfl, rfl, rfl, rfl⟩) (He.noat_ok (S.a 36 (f := .noat "BadRun" "part"))) (fun _ _ _ _ => rfl) (by decide) (by decide) (by decide) (by decide)
    g_Clashing := He.glo_ok X G (S.a 37 (f := .glo "Clashing"))
    x_Clashing := xfn1 (d := xd_Clashingu__initu_) (by decide +kernel) (S.x 12) (S.b 15 (f := .xcl "Clashing" "Clashing.__init__")) rfl xs_Clashingu__initu_ rfl rfl (He.free_ok X G (S.a 14 (f := .free "super"))) (fun _ _ _ _ => ⟨rfl, rfl, rfl, rfl⟩) (He.noat_ok (S.a 38 (f := .noat "Clashing" "part"))) (fun _ _ _ _ => rfl) (by decide) (by decide) (by decide) (by decide)
    g_BadLosses := He.glo_ok X G (S.a 39 (f := .glo "BadLosses"))
    x_BadLosses := xfn1 (d := xd_BadLossesu__initu_) (by decide +kernel) (S.x 13) (S.b 16 (f := .xcl "BadLosses" "BadLosses.__init__")) rfl xs_BadLossesu__initu_ rfl rfl (He.free_ok X G (S.a 14 (f := .free "super"))) (fun _ _ _ _ => ⟨rfl, rfl, rfl, rfl⟩) (He.noat_ok (S.a 40 (f := .noat "BadLosses" "value"))) (fun _ _ _ _ => rfl) (by decide) (by decide) (by decide) (by decide)
    xf_value := xfl_okH (fun _ => rfl) (S.b 17 (f := .xfl cnL [2, 7, 15, 18] "value"))
    g_BadLetter := He.glo_ok X G (S.a 41 (f := .glo "BadLetter"))
    x_BadLetter := xfn1 (d := xd_BadLetteru__initu_) (by decide +kernel) (S.x 14) (S.b 18 (f := .xcl "BadLetter" "BadLetter.__init__")) rfl xs_BadLetteru__initu_ rfl rfl (He.free_ok X G (S.a 14 (f := .free "super"))) (fun _ _ _ _ => ⟨rfl, rfl, rfl, rfl⟩) (He.noat_ok (S.a 42 (f := .noat "BadLetter" "value"))) (fun _ _ _ _ => rfl) (by decide) (by decide) (by decide) (by decide)
    g_BadName := He.glo_ok X G (S.a 43 (f := .glo "BadName"))
    x_BadName := xfn1 (d := xd_BadNameu__initu_) (by decide +kernel) (S.x 15) (S.b 19 (f := .xcl "BadName" "BadName.__init__")) rfl xs_BadNameu__initu_ rfl rfl (He.free_ok X G (S.a 14 (f := .free "super"))) (fun _ _ _ _ => ⟨rfl, rfl, rfl, rfl⟩) (He.noat_ok (S.a 44 (f := .noat "BadName" "value"))) (fun _ _ _ _ => rfl) (by decide) (by decide) (by decide) (by decide)
    g_BadNumber := He.glo_ok X G (S.a 45 (f := .glo "BadNumber"))
    x_BadNumber := xfn1 (d := xd_BadNumberu__initu_) (by decide +kernel) (S.x 16) (S.b 20 (f := .xcl "BadNumber" "BadNumber.__init__")) rfl xs_BadNumberu__initu_ rfl rfl (He.free_ok X G (S.a 14 (f := .free "super"))) (fun _ _ _ _ => ⟨rfl, rfl, rfl, rfl⟩) (He.noat_ok (S.a 46 (f := .noat "BadNumber" "value"))) (fun _ _ _ _ => rfl) (by decide) (by decide) (by decide) (by decide)
    g_NoName := He.glo_ok X G (S.a 47 (f := .glo "NoName"))
    x_NoName := xfn1 (d := xd_NoNameu__initu_) (by decide +kernel) (S.x 17) (S.b 21 (f := .xcl "NoName" "NoName.__init__")) rfl xs_NoNameu__initu_ rfl rfl (He.free_ok X G (S.a 14 (f := .free "super"))) (fun _ _ _ _ => ⟨rfl, rfl, rfl, rfl⟩) (He.noat_ok (S.a 48 (f := .noat "NoName" "name"))) (fun _ _ _ _ => rfl) (by decide) (by decide) (by decide) (by decide)
    xf_name := xfl_okH (fun _ => rfl) (S.b 22 (f := .xfl cnL [19, 20, 21, 22] "name"))
    g_BadCommand := He.glo_ok X G (S.a 49 (f := .glo "BadCommand"))
    x_BadCommand := xfn1 (d := xd_BadCommandu__initu_) (by decide +kernel) (S.x 18) (S.b 23 (f := .xcl "BadCommand" "BadCommand.__init__")) rfl xs_BadCommandu__initu_ rfl rfl (He.free_ok X G (S.a 14 (f := .free "super"))) (fun _ _ _ _ => ⟨rfl, rfl, rfl, rfl⟩) (He.noat_ok (S.a 50 (f := .noat "BadCommand" "word"))) (fun _ _ _ _ => rfl) (by decide) (by decide) (by decide) (by decide)
    xf_word := xfl_okH (fun _ => rfl) (S.b 24 (f := .xfl cnL [16, 17] "word"))
    g_NoHouse := He.glo_ok X G (S.a 51 (f := .glo "NoHouse"))
    x_NoHouse := xfn1 (d := xd_NoHouseu__initu_) (by decide +kernel) (S.x 19) (S.b 25 (f := .xcl "NoHouse" "NoHouse.__init__")) rfl xs_NoHouseu__initu_ rfl rfl (He.free_ok X G (S.a 14 (f := .free "super"))) (fun _ _ _ _ => ⟨rfl, rfl, rfl, rfl⟩) (He.noat_ok (S.a 52 (f := .noat "NoHouse" "name"))) (fun _ _ _ _ => rfl) (by decide) (by decide) (by decide) (by decide)
    g_NoFlow := He.glo_ok X G (S.a 53 (f := .glo "NoFlow"))
    x_NoFlow := xfn1 (d := xd_NoFlowu__initu_) (by decide +kernel) (S.x 20) (S.b 26 (f := .xcl "NoFlow" "NoFlow.__init__")) rfl xs_NoFlowu__initu_ rfl rfl (He.free_ok X G (S.a 14 (f := .free "super"))) (fun _ _ _ _ => ⟨rfl, rfl, rfl, rfl⟩) (He.noat_ok (S.a 54 (f := .noat "NoFlow" "name"))) (fun _ _ _ _ => rfl) (by decide) (by decide) (by decide) (by decide)
    g_NoLane := He.glo_ok X G (S.a 55 (f := .glo "NoLane"))
    x_NoLane := xfn1 (d := xd_NoLaneu__initu_) (by decide +kernel) (S.x 21) (S.b 27 (f := .xcl "NoLane" "NoLane.__init__")) rfl xs_NoLaneu__initu_ rfl rfl (He.free_ok X G (S.a 14 (f := .free "super"))) (fun _ _ _ _ => ⟨rfl, rfl, rfl, rfl⟩) (He.noat_ok (S.a 56 (f := .noat "NoLane" "key"))) (fun _ _ _ _ => rfl) (by decide) (by decide) (by decide) (by decide)
    xf_key := xfl_okH (fun _ => rfl) (S.b 28 (f := .xfl cnL [23, 24] "key"))
    g_NoLink := He.glo_ok X G (S.a 57 (f := .glo "NoLink"))
    x_NoLink := xfn1 (d := xd_NoLinku__initu_) (by decide +kernel) (S.x 22) (S.b 29 (f := .xcl "NoLink" "NoLink.__init__")) rfl xs_NoLinku__initu_ rfl rfl (He.free_ok X G (S.a 14 (f := .free "super"))) (fun _ _ _ _ => ⟨rfl, rfl, rfl, rfl⟩) (He.noat_ok (S.a 58 (f := .noat "NoLink" "name"))) (fun _ _ _ _ => rfl) (by decide) (by decide) (by decide) (by decide)
    g_NoPhase := He.glo_ok X G (S.a 59 (f := .glo "NoPhase"))
    x_NoPhase := xfn1 (d := xd_NoPhaseu__initu_) (by decide +kernel) (S.x 23) (S.b 30 (f := .xcl "NoPhase" "NoPhase.__init__")) rfl xs_NoPhaseu__initu_ rfl rfl (He.free_ok X G (S.a 14 (f := .free "super"))) (fun _ _ _ _ => ⟨rfl, rfl, rfl, rfl⟩) (He.noat_ok (S.a 60 (f := .noat "NoPhase" "at"))) (fun _ _ _ _ => rfl) (by decide) (by decide) (by decide) (by decide)
    xf_at := xfl_okH (fun _ => rfl) (S.b 31 (f := .xfl cnL [25] "at"))
    g_NoLine := He.glo_ok X G (S.a 61 (f := .glo "NoLine"))
    x_NoLine := xfn1 (d := xd_NoLineu__initu_) (by decide +kernel) (S.x 24) (S.b 32 (f := .xcl "NoLine" "NoLine.__init__")) rfl xs_NoLineu__initu_ rfl rfl (He.free_ok X G (S.a 14 (f := .free "super"))) (fun _ _ _ _ => ⟨rfl, rfl, rfl, rfl⟩) (He.noat_ok (S.a 62 (f := .noat "NoLine" "key"))) (fun _ _ _ _ => rfl) (by decide) (by decide) (by decide) (by decide)
    g_BadText := He.glo_ok X G (S.a 63 (f := .glo "BadText"))
    x_BadText := xfn2 (d := xd_BadTextu__initu_) (by decide +kernel) (S.x 25) (S.b 33 (f := .xcl "BadText" "BadText.__init__")) rfl xs_BadTextu__initu_ rfl rfl (He.free_ok X G (S.a 14 (f := .free "super"))) (fun _ _ _ _ => ⟨rfl, rfl, rfl, rfl⟩) (fun _ => rfl) (He.noat_ok (S.a 64 (f := .noat "BadText" "line"))) (He.noat_ok (S.a 65 (f := .noat "BadText" "word"))) (fun _ _ _ _ => rfl) (fun _ _ _ _ => rfl) (by decide) (by decide) (by decide) (by decide) (by decide) (by decide)
    g_TooMany := He.glo_ok X G (S.a 66 (f := .glo "TooMany"))
    x_TooMany := xfn2 (d := xd_TooManyu__initu_) (by decide +kernel) (S.x 26) (S.b 34 (f := .xcl "TooMany" "TooMany.__init__")) rfl xs_TooManyu__initu_ rfl rfl (He.free_ok X G (S.a 14 (f := .free "super"))) (fun _ _ _ _ => ⟨rfl, rfl, rfl, rfl⟩) (fun _ => rfl) (He.noat_ok (S.a 67 (f := .noat "TooMany" "what"))) (He.noat_ok (S.a 68 (f := .noat "TooMany" "most"))) (fun _ _ _ _ => rfl) (fun _ _ _ _ => rfl) (by decide) (by decide) (by decide) (by decide) (by decide) (by decide)
    xf_most := xfl_okH (fun _ => rfl) (S.b 35 (f := .xfl cnL [28] "most"))
    g_Nothing := He.glo_ok X G (S.a 69 (f := .glo "Nothing"))
    b_range := He.free_ok X G (S.a 70 (f := .free "range"))
    g_PostError := He.glo_ok X G (S.a 71 (f := .glo "PostError"))
    b_ValueError := He.free_ok X G (S.a 72 (f := .free "ValueError"))
    g__law_pick := He.glo_ok X G (S.a 73 (f := .glo "_law_pick"))
    k__law_pick := He.keep_ok (S.a 74 (f := .keep "_law_pick"))
    g__law_parts := He.glo_ok X G (S.a 75 (f := .glo "_law_parts"))
    k__law_parts := He.keep_ok (S.a 76 (f := .keep "_law_parts"))
    g__law_others := He.glo_ok X G (S.a 77 (f := .glo "_law_others"))
    k__law_others := He.keep_ok (S.a 78 (f := .keep "_law_others"))
    g__law_classes := He.glo_ok X G (S.a 79 (f := .glo "_law_classes"))
    k__law_classes := He.keep_ok (S.a 80 (f := .keep "_law_classes"))
    g__law_is_error := He.glo_ok X G (S.a 81 (f := .glo "_law_is_error"))
    k__law_is_error := He.keep_ok (S.a 82 (f := .keep "_law_is_error"))
    sm := sm_okH (S.b 36 (f := .sm))
    b_repr := He.free_ok X G (S.a 83 (f := .free "repr"))
    xf_what := xfl_okH (fun _ => rfl) (S.b 37 (f := .xfl cnL [28] "what"))
    xf_line := xfl_okH (fun _ => rfl) (S.b 38 (f := .xfl cnL [16] "line"))
    xe_Nothing := ⟨(He.exc_ok (S.a 84 (f := .exc "Nothing"))).1, (He.exc_ok (S.a 84 (f := .exc "Nothing"))).2.1⟩
    g_is_within := He.glo_ok X G (S.a 85 (f := .glo "is_within"))
    k_is_within := He.keep_ok (S.a 86 (f := .keep "is_within"))
    g_is_name := He.glo_ok X G (S.a 87 (f := .glo "is_name"))
    k_is_name := He.keep_ok (S.a 88 (f := .keep "is_name"))
    g_is_letter := He.glo_ok X G (S.a 89 (f := .glo "is_letter"))
    k_is_letter := He.keep_ok (S.a 90 (f := .keep "is_letter"))
    g__law_errors_right := He.glo_ok X G (S.a 91 (f := .glo "_law_errors_right"))
    k__law_errors_right := He.keep_ok (S.a 92 (f := .keep "_law_errors_right"))
    g__law_kinds_right := He.glo_ok X G (S.a 93 (f := .glo "_law_kinds_right"))
    k__law_kinds_right := He.keep_ok (S.a 94 (f := .keep "_law_kinds_right"))
    d_is_integer := (S.f 0)
    d_is_within := (S.f 1)
    d_is_name := (S.f 2)
    d_is_signs := (S.f 3)
    d_is_letter := (S.f 4)
    d__law_pick := (S.f 5)
    d__law_parts := (S.f 6)
    d__law_others := (S.f 7)
    d__law_classes := (S.f 8)
    d__law_is_error := (S.f 9)
    d__law_errors_right := (S.f 10)
    d__law_kinds_right := (S.f 11)
    isF := isfB_ok (fun _ => rfl) (S.b 39 (f := .isf cnL ownL excL 29 upL utL tyL))
    b_abs := He.free_ok X G (S.a 95 (f := .free "abs"))
    d_draw := (S.f 12)
    hp := rfl
    hns := hn
theorem law_at {w : World} {K : PySem.W.Frag} {mg : Str → Option Value} {h : Heap} {fa : Addr} (X : K.In h) (G : h.Ns mainGlobals mg) (S : SaysZ hdD h K) (hfa : mg ("law" : Str) = some (.ref fa)) (hall : (m_law [.no, .val .pen, .no]).All 0 (fun _ fl => ∃ b, fl = .rt (.bl b) ∧ b = true) (fun _ _ => False)) :
    LawAtD PySem.Challenge.rw_layerpost_k00_errors_and_kinds_of_values w K (CX PG w) 5 63 "_law_script" mg fa h := by
  obtain ⟨fd, F⟩ := (S.f 13)
  obtain ⟨fdp, FP⟩ := (S.f 14)
  have e := hfa.symm.trans (He.glo_ok X G (S.a 96 (f := .glo "law")))
  cases e
  refine ⟨fd, (tfL.map (·.1)).map (He.cT K), fun p hp => ?_, fun p hp => ?_, fun p hp => ?_, fun s v => FunD.bindsA (ps := ["_law_script"]) F (fun _ _ _ _ _ _ us hl => match us, hl with | [_], _ => rfl) s [v] rfl, fun ns hl hbits => ⟨spLaw K ns ((tfL.map (·.1)).map (He.cT K)), fun H a hT hA hS => ⟨a, rfl, hT, hA, hS, fun _ => rfl⟩, fun base hK hN TB => ?_⟩⟩
  · obtain ⟨d, hd, rfl⟩ := List.mem_map.mp hp; exact S.empty d hd
  · obtain ⟨d, hd, rfl⟩ := List.mem_map.mp hp; exact S.out d hd
  · obtain ⟨d, hd, rfl⟩ := List.mem_map.mp hp; exact PySem.W.codeHd_of_K X (S.hd d hd)
  obtain ⟨bl, hn⟩ := bits_ex hbits
  have GP : L2.FnOk PG w K mg base CX0 1 (He.fAd K ("_law_pen", none)) fdp ["_law_script"] (spPen K) := fn_pen FP sc__law_pen rfl fun cdv A outer s H E => pss_one (ps_ret (pe_lst (pa_cons (pe_callTy call_list_of rfl (He.free_ok X G (S.a 99 (f := .free "list"))) PyProof.Rows.Boot.«list» (pa_cons (pe_slice sl_list (pv 0) po_none (po_some pe_int)) pa_nil)) (pa_cons pe_int (pa_cons pe_int pa_nil)))))
  have bP : Binds K fdp ["_law_script"] [] := FP.bindsN fun _ _ _ _ _ _ us hl => match us, hl with | [_], _ => rfl
  exact fn_law F sc_law (by decide) hl (by simp [tbOf]) (fun cdv A outer s H E hcd hr => ps_set (i := 1) sc_law.nd rfl (Or.inl rfl) (pe_call GP (hr.toRoom.mono (by decide)) rfl (He.glo_ok X G (S.a 97 (f := .glo "_law_pen"))) (He.keep_ok (S.a 98 (f := .keep "_law_pen"))) bP .nil pass0 (pa_cons (pv 0) pa_nil))) (fun pa sa cdv A outer s H0 E hcd hr => body_law (fc_of X G S TB hn) cdv A outer s H0 E hcd hr) hall
end K00
set_option maxHeartbeats 400000
namespace K00
open PySem PySem.Spec PyProof.Rows L2 DL
def isT1 (d : D) : Bool := match d with
  | .bl b => b
  | _ => false
theorem isT1_ok {d : D} (h : isT1 d = true) : d = .bl true := by
  unfold isT1 at h
  split at h
  · rw [h]
  · cases h
def nxB (r : Gm → Bool) (fl : Fl) : Bool := match fl with
  | .nx γ => r γ
  | _ => false
def rtT (fl : Fl) : Bool := match fl with
  | .rt d => isT1 d
  | _ => false
theorem rtT_ok {fl : Fl} (h : rtT fl = true) : fl = .rt (.bl true) := by
  unfold rtT at h
  split at h
  · rw [isT1_ok h]
  · cases h
theorem nx_chkB {m : Gm → T Fl} {γ : Gm} {j k : Nat} {r : Gm → Bool} {E : Nat → Xc → Prop} (h : (m γ).chk k (nxB r) = true) (hj : j + k ≤ 1000000) : NxAll m γ j k (fun γ' => r γ' = true) E :=
  nx_chk h hj fun fl q => by
    unfold nxB at q
    split at q
    · exact ⟨_, rfl, q⟩
    · cases q
theorem fl_chk {m : Gm → T Fl} {γ : Gm} {j k : Nat} {q : Fl → Bool} {P : Nat → Fl → Prop} {E : Nat → Xc → Prop} (h : (m γ).chk k q = true) (hj : j + k ≤ 1000000) (hp : ∀ j' fl, j' ≤ j + k → q fl = true → P j' fl) : FlAll (m γ) j P E :=
  ⟨(T.chk_ok h hj).imp (fun j' fl ⟨q1, q2⟩ => hp j' fl q1 q2) fun _ _ z => z⟩
/-! ### the errors -/
theorem err_chk : (ma__law_errors_right_1 [.pen]).chk 2 isT1 = true := by decide +kernel
theorem err_all {j : Nat} {E : Nat → Xc → Prop} (hj : j + 2 ≤ 1000000) : CAll ma__law_errors_right_1 [.pen] j 2 (fun d => d = .bl true) E :=
  ⟨(T.chk_ok err_chk hj).imp (fun j' d ⟨q1, q2⟩ => ⟨q1, isT1_ok q2⟩) fun _ _ z => z⟩
/-! ### the kinds -/
def g0 : Gm := [.val .pen, .no, .no, .no, .no, .no, .no]
def back (is : List Nat) (γ : Gm) : Bool := gmEq (cleanG is γ) g0
theorem kA : (mSeq st__law_kinds_right_1 st__law_kinds_right_2 g0).chk 2 (nxB (back [1])) = true := by decide +kernel
theorem kB : (mSeq st__law_kinds_right_3 st__law_kinds_right_4 g0).chk 1 (nxB (back [2])) = true := by decide +kernel
theorem kC : (mSeq (mSeq st__law_kinds_right_5 st__law_kinds_right_6) st__law_kinds_right_7 g0).chk 2 (nxB (back [3, 4])) = true := by decide +kernel
def rD (γ : Gm) : Bool := (st__law_kinds_right_10 (cleanG [5] γ)).chk 0 (nxB (back [4, 6]))
theorem kD : (mSeq st__law_kinds_right_8 st__law_kinds_right_9 g0).chk 1 (nxB rD) = true := by decide +kernel
def rE (γ : Gm) : Bool := (st__law_kinds_right_12 (cleanG [0] γ)).chk 0 rtT
theorem kE : (st__law_kinds_right_11 g0).chk 1 (nxB rE) = true := by decide +kernel
theorem cl_back {is : List Nat} {m : Gm → T Fl} {γ : Gm} {j : Nat} {P : Nat → Fl → Prop} {E : Nat → Xc → Prop} (h : back is γ = true) (q : FlAll (m g0) j P E) : FlAll (mCl is m γ) j P E := by
  unfold mCl
  rw [gmEq_ok h]
  exact q
theorem cl_go {is : List Nat} {m : Gm → T Fl} {γ : Gm} {j : Nat} {P : Nat → Fl → Prop} {E : Nat → Xc → Prop} (q : FlAll (m (cleanG is γ)) j P E) : FlAll (mCl is m γ) j P E := q
theorem kinds_all {j : Nat} {E : Nat → Xc → Prop} (hj : j + 7 ≤ 1000000) : CAll ma__law_kinds_right_1 [.pen] j 7 (fun d => d = .bl true) E := by
  refine ⟨?_⟩
  have e0 : ma__law_kinds_right_1 [.pen] = (m__law_kinds_right g0).bind fun fl => (match fl with
    | .nx _ => .ok .non
    | .rt d => .ok d
    | _ => .stuck) := by kernel_rfl
  rw [e0]
  refine T.All.of_bind ?_
  refine T.All.imp (P := fun j' fl => j' ≤ j + 7 ∧ fl = .rt (.bl true)) ?_ (fun j' fl ⟨q1, q2⟩ => by subst q2; exact ⟨q1, rfl⟩) fun _ _ z => z
  refine FlAll.h ?_
  unfold m__law_kinds_right
  rw [seq_assoc]
  refine seq_all (nx_chkB kA (by omega)) fun j1 γ1 h1 q1 => cl_back q1 ?_
  rw [seq_assoc]
  refine seq_all (nx_chkB kB (by omega)) fun j2 γ2 h2 q2 => cl_back q2 ?_
  rw [seq_assoc, seq_assoc]
  refine seq_all (nx_chkB kC (by omega)) fun j3 γ3 h3 q3 => cl_back q3 ?_
  rw [seq_assoc]
  refine seq_all (nx_chkB kD (by omega)) fun j4 γ4 h4 q4 => ?_
  refine cl_go ?_
  refine seq_all (nx_chkB (k := 0) q4 (by omega)) fun j5 γ5 h5 q5 => cl_back q5 ?_
  refine seq_all (nx_chkB kE (by omega)) fun j6 γ6 h6 q6 => ?_
  refine cl_go ?_
  exact fl_chk q6 (by omega) fun j7 fl h7 q7 => ⟨by omega, rtT_ok q7⟩
/-! ### the law -/
def gL : Gm := [.no, .val .pen, .no]
def lawT : Gm → T Bool := tOrM (tNotM (mTru (mCall ma__law_errors_right_1 (aCons (mVar 1) (aNil))))) (tNotM (mTru (mCall ma__law_kinds_right_1 (aCons (mVar 1) (aNil)))))
theorem args_eq : aCons (mVar 1) aNil gL = .ok [.pen] := by kernel_rfl
theorem t1 {j1 : Nat} {E : Nat → Xc → Prop} (hj : j1 + 2 ≤ 1000000) : BAll (mTru (mCall ma__law_errors_right_1 (aCons (mVar 1) aNil))) gL j1 2 true E := b_call args_eq (err_all hj)
theorem t2 {j1 : Nat} {E : Nat → Xc → Prop} (hj : j1 + 7 ≤ 1000000) : BAll (mTru (mCall ma__law_kinds_right_1 (aCons (mVar 1) aNil))) gL j1 7 true E := b_call args_eq (kinds_all hj)
theorem law_test {j1 : Nat} {E : Nat → Xc → Prop} (hj : j1 + 9 ≤ 1000000) : BAll lawT gL j1 (2 + 7) false E :=
  b_orF (b_not (v := true) (t1 (by omega))) fun j2 h2 => b_not (v := true) (t2 (by omega))
theorem b_law_eq : b_law_1 = mIfS lawT (mRet (mC (.bl false))) mNx := rfl
theorem law_turn {j : Nat} {E : Nat → Xc → Prop} (hj : j + 9 ≤ 1000000) : (b_law_1 gL).All j (fun j' fl => j' ≤ j + 9 ∧ ∃ γ2, (fl = .nx γ2 ∨ fl = .ct γ2) ∧ cleanG [2] γ2 = gL) E := by
  rw [b_law_eq]
  refine FlAll.h (if_F (k := 2 + 7) (law_test hj) fun j' hj' => ?_)
  exact ⟨by omega, _, .inl rfl, rfl⟩
theorem hall : (m_law [.no, .val .pen, .no]).All 0 (fun _ fl => ∃ b, fl = .rt (.bl b) ∧ b = true) (fun _ _ => False) := by
  have e : st_law_1 gL = forD (gmName 2) (mCl [2] b_law_1) (rngD 0 6) gL := by kernel_rfl
  have hl : (rngD 0 6).length = 6 := by decide
  unfold m_law
  refine FlAll.h (seq_all (γ := gL) (m1 := st_law_1) (k := 54) (p := fun γ => cleanG [2] γ = gL) ⟨?_⟩ fun j1 γ1 h1 hI => ⟨?_⟩)
  · rw [e]
    refine T.All.imp (for_all (m := 9) (I := fun γ => cleanG [2] γ = gL) rfl (by rw [hl]; omega) fun γ d j hd hI hj => ⟨γ.set 2 (.val d), rfl, ?_⟩) (fun j' fl ⟨q1, γ2, q2, q3⟩ => ⟨by rw [hl] at q1; omega, γ2, q2, q3⟩) fun _ _ z => z
    have e2 : mCl [2] b_law_1 (γ.set 2 (.val d)) = b_law_1 gL := by
      unfold mCl
      rw [← hI]
      exact congrArg _ clean_set
    rw [e2]
    exact law_turn hj
  · have e3 : mCl [0, 1, 2] st_law_2 γ1 = .ok (.rt (.bl true)) := by kernel_rfl
    rw [e3]
    exact ⟨true, rfl, rfl⟩
end K00
set_option maxHeartbeats 0
namespace K00
open PySem PySem.Spec PyProof.Rows L2 DL
abbrev RR : PySem.W.OpenRow := PySem.W.OpenLaw.row PySem.Challenge.rw_layerpost_k00_errors_and_kinds_of_values
def ob (s : PySem.W.SharedT) : AlZ := obsZ hdD (HandSHeadRun.getT s)
theorem ob_eq (s : PySem.W.SharedT) : ob s = (hookZ hdD).obs s.abs := obsZ_eq (HandSHeadRun.getT_eq s)
def names0 : List PySem.Str := ["LETTERS", "MOST_SIGNS", "is_integer", "is_within", "is_name", "is_signs", "is_letter", "PostError", "BadGrowth", "BadLetter", "BadFrame", "BadCell", "BadPlan", "BadRule", "BadLosses", "BadRound", "BadNet", "BadTable", "BadPair", "BadStack", "BadRun", "BadPlay", "BadNumber", "BadText", "BadCommand", "BadName", "NoName", "NoFlow", "NoHouse", "NoLink"]
def names1 : List PySem.Str := ["NoLane", "NoLine", "NoPhase", "Clashing", "Nothing", "TooMany", "_law_pen", "_law_draw", "_law_pick", "_law_parts", "_law_others", "_law_classes", "_law_is_error", "_law_errors_right", "_law_kinds_right"]
def names : List PySem.Str := names0 ++ names1
theorem run (w : World) : HandSHeadRun.RunEq RR (PySem.W.view RR.prog [48]) (hookZ hdD) ob 20000 names w := by
  intro os
  kernel_rfl
end K00
set_option maxHeartbeats 0
open PySem PySem.W PySem.Calls PyProof.Rows
theorem PySem.Challenge.cw_layerpost_k00_errors_and_kinds_of_values_holds : PySem.Challenge.rw_layerpost_k00_errors_and_kinds_of_values.Holds := by
  w_on; o_law
  refine HandSHeadRun.head_any (r := K00.RR) (q := view K00.RR.prog [48]) (H := DL.hookZ K00.hdD) (ob := K00.ob) (M := 20000) (loose := K00.names) (d := HandSHeadRun.topDef K00.RR.prog 48) (kwd := []) K00.ob_eq
    (by kernel_rfl) (fun s => by kernel_rfl) K00.run (by kernel_rfl) (by kernel_rfl) (by kernel_rfl) (by rfl) (by first | assumption | decide +kernel) (by decide +kernel) ⟨rfl, rfl, rfl, rfl, rfl, by decide +kernel⟩ ?hw ?hc
  case hw => w_witness2
  case hc =>
    refine DL.walk_ofD (l := PySem.Challenge.rw_layerpost_k00_errors_and_kinds_of_values) (n := 63) (k := 5) (x := "_law_script") (CX := L2.CX K00.PG) rfl (by decide) (by kernel_rfl) ⟨⟨rfl, by decide, by decide⟩, rfl⟩ ?F ?g
    case F =>
      intro w mg fa h Y G hmg0
      obtain ⟨K, KX, c⟩ := Y
      have hmg : mg ("law" : PySem.Str) = some (.ref fa) := by
        have e : (HandSHeadRun.topDef K00.RR.prog 48).name = ("law" : PySem.Str) := by kernel_rfl
        rw [← e]
        exact hmg0
      exact ⟨K, KX, K00.law_at KX G c hmg K00.hall⟩
    case g =>
      intro w H s e s' h
      exact (by simpa [L2.CX] using h)
