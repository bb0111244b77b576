import PyProof.Rows.All
import Wide.All
import OpenK.AllK
import Wide.FinOn
import HandS.ForMost
import HandS.Exc
import HandS.Flow
import HandS.Star
import HandS.IsInst
import HandS.Lambda
import KE.DataEq
import HandS.Defaults
import HandS.MakeKw
import HandS.ExcInit
import KE.KExcSuper
import HandS.ExcIs
import HandS.ExcField
import KE.KExcIs
import HandS.RaiseMore
import HandS.FStr
import HandS.Iter
import HandS.Deep
import HandS.Style
import KE.KFmtOwn
import HandS.Wide
import HandS.Words
import HandS.EndTab
import HandS.Head0
import HandS.Head1
import HandS.Head2
import HandS.HeadEnd
import HandS.HeadHook1
import HandS.HeadHook2
import HandS.HeadHook3
import HandS.HeadHook4
import PyProof.SeqInW
import PyProof.MeetsIn
import HandS.Steps
import HandS.Text
import HandS.ExcValue
import PyProof.StrBlock2
import HandS.TupAny
import HandS.Zip
import HandS.ClsMeth
import KE.KCallOwn
import KE.KAssignIn
import KE.KTupSum
import KE.GoesMore
import KE.KOpsOwn
import HandS.Property
import HandS.Conv
import PyProof.LongRange
import HandS.ListItems
import KE.KDictZip
import HandS.SortInts
import KE.KRevSl
import PyProof.FactsAll.list_3
import PyProof.FactsAll.list_0
import KE.KIntText
import HandS.Strs
import HandS.TupSets
import PyProof.Rows.SortShellAny
import HandS.IterVal
import HandS.OwnIter
import HandS.Dict
import HandS.DictComp
import KE.KDictSum
import KE.DatumOrd
import HandS.SortKw
import KE.KStar
import PyProof.Rows.StrIntSpec
import PyProof.FString3
import KE.KStateDown
import PySem.Challenge.RW_layerpost_k19_rows_known_slot_by_slot
set_option Elab.async false
set_option linter.all false
set_option maxRecDepth 100000
/-! DL: Python values as pure trees, over the hand layer. -/
namespace DL
open PySem PySem.Spec PyProof.Rows L2
/-- a value as a whole -/
inductive D where
  | non | bl (b : Bool) | int (i : Int) | str (x : Str)
  | tup (xs : List D) | lst (xs : List D)
  | ins (c : Nat) (fs : List (Str × D))
  | exn (c : Nat) (fs : List (Str × D))
  | dct (kvs : List (Key × D)) | dtt (kvs : List (List Key × D))
  | cls (c : Nat) | ty (n : String) | pen | adr (a : Addr)
  deriving Inhabited
/-- an exception: its class, its fields -/
structure Xc where
  c : Nat
  fs : List (Str × D)
/-- what a piece of code does: an end, an exception, nothing that is known, or a draw -/
inductive T (α : Type) where
  | ok (a : α) | exc (e : Xc) | stuck | draw (n : Int) (k : Int → T α)
namespace T
def bind {α β : Type} : T α → (α → T β) → T β
  | .ok a, f => f a
  | .exc e, _ => .exc e
  | .stuck, _ => .stuck
  | .draw n k, f => .draw n fun d => bind (k d) f
def map {α β : Type} (f : α → β) (t : T α) : T β := t.bind fun a => .ok (f a)
/-- all ends; the Nat counts the draws -/
def All {α : Type} : T α → Nat → (Nat → α → Prop) → (Nat → Xc → Prop) → Prop
  | .ok a, j, P, _ => P j a
  | .exc e, j, _, E => E j e
  | .stuck, _, _, _ => False
  | .draw n k, j, P, E => j < 1000000 ∧ 0 < n ∧ n < 2 ^ 1000 ∧ ∀ d, 0 ≤ d → d < n → (k d).All (j + 1) P E
theorem All.imp {α : Type} {P P' : Nat → α → Prop} {E E' : Nat → Xc → Prop} : ∀ {t : T α} {j : Nat}, t.All j P E → (∀ j' a, P j' a → P' j' a) → (∀ j' e, E j' e → E' j' e) → t.All j P' E'
  | .ok _, _, h, p, _ => p _ _ h
  | .exc _, _, h, _, e => e _ _ h
  | .stuck, _, h, _, _ => h
  | .draw _ _, _, ⟨h1, h2, h3, h⟩, p, e => ⟨h1, h2, h3, fun d a b => (h d a b).imp p e⟩
theorem All.bind {α β : Type} {f : α → T β} {P : Nat → β → Prop} {E : Nat → Xc → Prop} : ∀ {t : T α} {j : Nat}, (t.bind f).All j P E → t.All j (fun j' a => (f a).All j' P E) E
  | .ok _, _, h => h
  | .exc _, _, h => h
  | .stuck, _, h => h
  | .draw _ _, _, ⟨h1, h2, h3, h⟩ => ⟨h1, h2, h3, fun d a b => All.bind (h d a b)⟩
theorem All.of_bind {α β : Type} {f : α → T β} {P : Nat → β → Prop} {E : Nat → Xc → Prop} : ∀ {t : T α} {j : Nat}, t.All j (fun j' a => (f a).All j' P E) E → (t.bind f).All j P E
  | .ok _, _, h => h
  | .exc _, _, h => h
  | .stuck, _, h => h
  | .draw _ _, _, ⟨h1, h2, h3, h⟩ => ⟨h1, h2, h3, fun d a b => All.of_bind (h d a b)⟩
theorem bind_assoc {α β γ : Type} (f : α → T β) (g : β → T γ) : ∀ t : T α, (t.bind f).bind g = t.bind fun a => (f a).bind g
  | .ok _ => rfl
  | .exc _ => rfl
  | .stuck => rfl
  | .draw n k => congrArg (T.draw n) (funext fun d => bind_assoc f g (k d))
end T
/-- a dict: its keys ints and texts, or tuples of these -/
inductive Dk where
  | k (kvs : List (Key × D)) | t (kvs : List (List Key × D))
def Dk.d : Dk → D
  | .k kvs => .dct kvs
  | .t kvs => .dtt kvs
/-- a result: a value, or a list of the frame's own that is looked at -/
inductive RV where
  | val (d : D) | brw (ds : List D) | bob (n : Nat) (gs : List (Str × D)) | bdc (z : Dk)
def RV.d : RV → D
  | .val d => d
  | .brw ds => .lst ds
  | .bob n gs => .ins n gs
  | .bdc z => z.d
/-- a slot: nothing, a value, a list of one's own, an object of one's own -/
inductive SV where
  | no | val (d : D) | own (ds : List D) | obj (n : Nat) (gs : List (Str × D)) | dic (z : Dk)
def SV.isOwn : SV → Bool
  | .own _ => true
  | .obj _ _ => true
  | .dic _ => true
  | _ => false
abbrev Gm := List SV
/-- the classes' addresses; the pen's address, its list's, the script's numbers and how many bits they have at most -/
structure Ct where
  cA : Nat → Addr
  pa : Addr
  sa : Addr
  ns : List Int
  bl : Nat
  tb : List (Addr × Str) := []
  hp : Bool := true
/-- the pen stands, at most j draws were made -/
def PenAt (c : Ct) (H : Hp) (j : Nat) : Prop := (∃ vs, H c.pa = some (.lst vs)) ∧ (∃ vs, H c.sa = some (.lst vs)) ∧ (c.hp = true → ∃ k r : Int, H c.pa = some (.lst [.ref c.sa, .int k, .int r]) ∧ H c.sa = some (.lst (c.ns.map V.int)) ∧ c.pa ≠ c.sa ∧ 0 ≤ k ∧ k ≤ j ∧ 0 ≤ r ∧ r.natAbs < 2 ^ c.bl)
theorem PenAt.keep {c : Ct} {H H' : Hp} {j : Nat} (h : PenAt c H j) (k : ∀ b vs, (b = c.pa ∨ b = c.sa) → H b = some (.lst vs) → H' b = some (.lst vs)) : PenAt c H' j := by
  obtain ⟨⟨v1, h1⟩, ⟨v2, h2⟩, h3⟩ := h
  refine ⟨⟨v1, k _ _ (.inl rfl) h1⟩, ⟨v2, k _ _ (.inr rfl) h2⟩, fun hp => ?_⟩
  obtain ⟨kk, r, p1, p2, p3⟩ := h3 hp
  exact ⟨kk, r, k _ _ (.inl rfl) p1, k _ _ (.inr rfl) p2, p3⟩
/-- at a: an exception of the class at C that is kept, its dict d -/
def exv (a C : Addr) (d : Option Addr) : HO := .ext fun h => ∃ (oe : Obj) (vs : Array Value), h.get? a = some oe ∧ Zc (.ref C) d oe ∧ oe.data = .fields vs
mutual
/-- the value v stands for d, over the part F of the heap that never changes -/
inductive Dat (c : Ct) (K : PySem.W.Frag) (F : Hp) : V → D → Prop
  | non : Dat c K F .non .non
  | bl (b : Bool) : Dat c K F (.bl b) (.bl b)
  | int (i : Int) : Dat c K F (.int i) (.int i)
  | str (x : Str) : Dat c K F (.str x) (.str x)
  | tup {a : Addr} {vs : List V} {ds : List D} : SqT K F a vs → Dats c K F vs ds → Dat c K F (.ref a) (.tup ds)
  | lst {a : Addr} {vs : List V} {ds : List D} : F a = some (.lst vs) → Dats c K F vs ds → Dat c K F (.ref a) (.lst ds)
  | ins {a dx : Addr} {n : Nat} {fs : List (Str × V)} {gs : List (Str × D)} : F a = some (.ins (c.cA n) dx fs) → DatF c K F fs gs → Dat c K F (.ref a) (.ins n gs)
  | exn {a d : Addr} {n : Nat} {fs : List (Str × V)} {gs : List (Str × D)} : F a = some (exv a (c.cA n) (some d)) → F d = some (.xd fs) → DatF c K F fs gs → Dat c K F (.ref a) (.exn n gs)
  | exn0 {a : Addr} {n : Nat} : F a = some (exv a (c.cA n) none) → Dat c K F (.ref a) (.exn n [])
  | dct {a : Addr} {o : Obj} {kvs : List (Key × V)} {ds : List (Key × D)} : F a = some (.frz o (.dK kvs)) → DatK c K F kvs ds → Dat c K F (.ref a) (.dct ds)
  | dtt {a : Addr} {o : Obj} {kvs : List (List Key × V)} {ds : List (List Key × D)} : F a = some (.frz o (.dT kvs)) → DatT c K F kvs ds → Dat c K F (.ref a) (.dtt ds)
  | cls (n : Nat) : Dat c K F (.ref (c.cA n)) (.cls n)
  | ty (n : String) : Dat c K F (.ty n) (.ty n)
  | pen : Dat c K F (.ref c.pa) .pen
  | adr (a : Addr) : Dat c K F (.ref a) (.adr a)
inductive Dats (c : Ct) (K : PySem.W.Frag) (F : Hp) : List V → List D → Prop
  | nil : Dats c K F [] []
  | cons {v : V} {d : D} {vs : List V} {ds : List D} : Dat c K F v d → Dats c K F vs ds → Dats c K F (v :: vs) (d :: ds)
inductive DatF (c : Ct) (K : PySem.W.Frag) (F : Hp) : List (Str × V) → List (Str × D) → Prop
  | nil : DatF c K F [] []
  | cons {f : Str} {v : V} {d : D} {fs : List (Str × V)} {gs : List (Str × D)} : Dat c K F v d → DatF c K F fs gs → DatF c K F ((f, v) :: fs) ((f, d) :: gs)
inductive DatK (c : Ct) (K : PySem.W.Frag) (F : Hp) : List (Key × V) → List (Key × D) → Prop
  | nil : DatK c K F [] []
  | cons {f : Key} {v : V} {d : D} {fs : List (Key × V)} {gs : List (Key × D)} : Dat c K F v d → DatK c K F fs gs → DatK c K F ((f, v) :: fs) ((f, d) :: gs)
inductive DatT (c : Ct) (K : PySem.W.Frag) (F : Hp) : List (List Key × V) → List (List Key × D) → Prop
  | nil : DatT c K F [] []
  | cons {f : List Key} {v : V} {d : D} {fs : List (List Key × V)} {gs : List (List Key × D)} : Dat c K F v d → DatT c K F fs gs → DatT c K F ((f, v) :: fs) ((f, d) :: gs)
end
/-- the object u is the dict z -/
inductive DkAt (c : Ct) (K : PySem.W.Frag) (F : Hp) : HO → Dk → Prop
  | k {vs : List (Key × V)} {kvs : List (Key × D)} : DatK c K F vs kvs → DkAt c K F (.dK vs) (.k kvs)
  | t {vs : List (List Key × V)} {kvs : List (List Key × D)} : DatT c K F vs kvs → DkAt c K F (.dT vs) (.t kvs)
section
variable {c : Ct} {K : PySem.W.Frag} {F F' : Hp}
theorem SqT.mono {a : Addr} {vs : List V} (h : SqT K F a vs) (m : ∀ b o, F b = some o → F' b = some o) : SqT K F' a vs := by
  rcases h with (h | ⟨o, h⟩) | h
  · exact .inl (.inl (m _ _ h))
  · exact .inl (.inr ⟨o, m _ _ h⟩)
  · exact .inr h
theorem SqL.mono {a : Addr} {vs : List V} (h : SqL K F a vs) (m : ∀ b o, F b = some o → F' b = some o) : SqL K F' a vs := Same.seq (H := F) (H' := F') m h
mutual
theorem Dat.mono (m : ∀ b o, F b = some o → F' b = some o) : ∀ {v : V} {d : D}, Dat c K F v d → Dat c K F' v d
  | _, _, .non => .non
  | _, _, .bl b => .bl b
  | _, _, .int i => .int i
  | _, _, .str x => .str x
  | _, _, .tup h r => .tup (SqT.mono h m) (Dats.mono m r)
  | _, _, .lst h r => .lst (m _ _ h) (Dats.mono m r)
  | _, _, .ins h r => .ins (m _ _ h) (DatF.mono m r)
  | _, _, .exn h h2 r => .exn (m _ _ h) (m _ _ h2) (DatF.mono m r)
  | _, _, .exn0 h => .exn0 (m _ _ h)
  | _, _, .dct h r => .dct (m _ _ h) (DatK.mono m r)
  | _, _, .dtt h r => .dtt (m _ _ h) (DatT.mono m r)
  | _, _, .cls n => .cls n
  | _, _, .ty n => .ty n
  | _, _, .pen => .pen
  | _, _, .adr a => .adr a
theorem Dats.mono (m : ∀ b o, F b = some o → F' b = some o) : ∀ {vs : List V} {ds : List D}, Dats c K F vs ds → Dats c K F' vs ds
  | _, _, .nil => .nil
  | _, _, .cons h r => .cons (Dat.mono m h) (Dats.mono m r)
theorem DatF.mono (m : ∀ b o, F b = some o → F' b = some o) : ∀ {fs : List (Str × V)} {gs : List (Str × D)}, DatF c K F fs gs → DatF c K F' fs gs
  | _, _, .nil => .nil
  | _, _, .cons h r => .cons (Dat.mono m h) (DatF.mono m r)
theorem DatK.mono (m : ∀ b o, F b = some o → F' b = some o) : ∀ {fs : List (Key × V)} {gs : List (Key × D)}, DatK c K F fs gs → DatK c K F' fs gs
  | _, _, .nil => .nil
  | _, _, .cons h r => .cons (Dat.mono m h) (DatK.mono m r)
theorem DatT.mono (m : ∀ b o, F b = some o → F' b = some o) : ∀ {fs : List (List Key × V)} {gs : List (List Key × D)}, DatT c K F fs gs → DatT c K F' fs gs
  | _, _, .nil => .nil
  | _, _, .cons h r => .cons (Dat.mono m h) (DatT.mono m r)
end
theorem DkAt.mono (m : ∀ b o, F b = some o → F' b = some o) {u : HO} {z : Dk} : DkAt c K F u z → DkAt c K F' u z
  | .k h => .k (h.mono m)
  | .t h => .t (h.mono m)
theorem Dats.length : ∀ {vs : List V} {ds : List D}, Dats c K F vs ds → vs.length = ds.length
  | _, _, .nil => rfl
  | _, _, .cons _ r => congrArg Nat.succ (Dats.length r)
theorem Dats.append : ∀ {vs ws : List V} {ds es : List D}, Dats c K F vs ds → Dats c K F ws es → Dats c K F (vs ++ ws) (ds ++ es)
  | _, _, _, _, .nil, s => s
  | _, _, _, _, .cons h r, s => .cons h (Dats.append r s)
theorem Dats.get : ∀ {vs : List V} {ds : List D} {i : Nat} {d : D}, Dats c K F vs ds → ds[i]? = some d → ∃ v, vs[i]? = some v ∧ Dat c K F v d
  | _, _, 0, _, .cons h _, e => by simp at e; subst e; exact ⟨_, rfl, h⟩
  | _, _, i + 1, d, .cons _ r, e => by
    obtain ⟨v, h1, h2⟩ := Dats.get (i := i) (d := d) r (by simpa using e)
    exact ⟨v, by simpa using h1, h2⟩
theorem Dats.take : ∀ {vs : List V} {ds : List D} (n : Nat), Dats c K F vs ds → Dats c K F (vs.take n) (ds.take n)
  | _, _, 0, _ => .nil
  | _, _, _ + 1, .nil => .nil
  | _, _, n + 1, .cons h r => .cons h (Dats.take n r)
theorem Dats.drop : ∀ {vs : List V} {ds : List D} (n : Nat), Dats c K F vs ds → Dats c K F (vs.drop n) (ds.drop n)
  | _, _, 0, r => r
  | _, _, _ + 1, .nil => .nil
  | _, _, n + 1, .cons _ r => Dats.drop n r
theorem Dats.reverse : ∀ {vs : List V} {ds : List D}, Dats c K F vs ds → Dats c K F vs.reverse ds.reverse
  | _, _, .nil => .nil
  | _, _, .cons h r => by
    rw [List.reverse_cons, List.reverse_cons]
    exact (Dats.reverse r).append (.cons h .nil)
theorem DatF.look {f : Str} {d : D} : ∀ {fs : List (Str × V)} {gs : List (Str × D)}, DatF c K F fs gs → gs.lookup f = some d → ∃ v, fs.lookup f = some v ∧ Dat c K F v d
  | _, _, .nil, e => by cases e
  | _, _, .cons (f := g) h r, e => by
    simp only [List.lookup_cons] at e ⊢
    cases q : (f == g) with
    | true =>
      rw [q] at e
      cases e
      exact ⟨_, rfl, h⟩
    | false =>
      rw [q] at e
      exact DatF.look r e
end
/-- the tables; no other one is there -/
structure TabA (T : List (Addr × Str)) (H : Hp) : Prop where
  tab : LamX.Tabs T H
  all : ∀ a ps, H a = some (.tbl ps) → ∃ q, (a, q) ∈ T
/-- the part F stands in H; the pen stands, j draws at most were made -/
structure Good (c : Ct) (F H : Hp) (j : Nat) : Prop where
  sub : ∀ a o, F a = some o → H a = some o
  pa : c.hp = true → F c.pa = none
  pen : PenAt c H j
  tab : TabA c.tb H
  nt : ∀ a ps, F a ≠ some (.tbl ps)
/-- no table -/
def NT (o : HO) : Prop := ∀ ps, o ≠ .tbl ps
theorem NT.lst {vs : List V} : NT (.lst vs) := fun _ z => by cases z
theorem NT.tup {vs : List V} : NT (.tup vs) := fun _ z => by cases z
theorem NT.ins {C d : Addr} {fs : List (Str × V)} : NT (.ins C d fs) := fun _ z => by cases z
theorem NT.xd {fs : List (Str × V)} : NT (.xd fs) := fun _ z => by cases z
theorem NT.dK {fs : List (Key × V)} : NT (.dK fs) := fun _ z => by cases z
theorem NT.frz {o : Obj} {u : HO} : NT (.frz o u) := fun _ z => by cases z
theorem NT.dT {kvs : List (List Key × V)} : NT (.dT kvs) := fun _ z => by cases z
theorem DkAt.nt {c : Ct} {K : PySem.W.Frag} {F : Hp} {u : HO} {z : Dk} (h : DkAt c K F u z) : NT u := by
  cases h
  · exact .dK
  · exact .dT
/-- things that may be changed -/
def Muo (u : HO) : Prop := (∃ vs, u = .lst vs) ∨ (∃ C d fs, u = .ins C d fs) ∨ (∃ kvs, u = .dK kvs) ∨ ∃ kvs, u = .dT kvs
theorem DkAt.muo {c : Ct} {K : PySem.W.Frag} {F : Hp} {u : HO} {z : Dk} (h : DkAt c K F u z) : Muo u := by
  cases h
  · exact .inr (.inr (.inl ⟨_, rfl⟩))
  · exact .inr (.inr (.inr ⟨_, rfl⟩))
theorem NT.own {a : Addr} : NT (.own a) := fun _ z => by cases z
theorem NT.ext {p : Heap → Prop} : NT (.ext p) := fun _ z => by cases z
theorem NT.exv {a C : Addr} {d : Option Addr} : NT (exv a C d) := fun _ z => by unfold DL.exv at z; cases z
/-- the tables stay where all but lists and instances stays -/
theorem tbl_upd {H : Hp} {a b : Addr} {o : HO} {ps : Array Value} (ho : NT o) (h : upd H a o b = some (.tbl ps)) : H b = some (.tbl ps) := by
  by_cases e : b = a
  · rw [e, upd_same] at h; cases h; exact absurd rfl (ho _)
  · rw [upd_ne e] at h; exact h
theorem tabs_keep {T : List (Addr × Str)} {H H' : Hp} (t : TabA T H) (k : ∀ b o, ¬ Muo o → H b = some o → H' b = some o) (k2 : ∀ b ps, H' b = some (.tbl ps) → H b = some (.tbl ps)) : TabA T H' := ⟨fun p hp => by
  obtain ⟨ps, h1, h2, h3⟩ := t.tab p hp
  refine ⟨ps, k _ _ (fun z => by rcases z with ⟨_, z⟩ | ⟨_, _, _, z⟩ | ⟨_, z⟩ | ⟨_, z⟩ <;> cases z) h1, h2, fun pos cv hc => ?_⟩
  obtain ⟨c, e1, e2⟩ := h3 pos cv hc
  exact ⟨c, e1, k _ _ (fun z => by unfold LamX.CodeO at z; rcases z with ⟨_, z⟩ | ⟨_, _, _, z⟩ | ⟨_, z⟩ | ⟨_, z⟩ <;> cases z) e2⟩, fun a ps h => t.all a ps (k2 a ps h)⟩
theorem nt_upd {F : Hp} {a : Addr} {o : HO} (h : ∀ a ps, F a ≠ some (.tbl ps)) (ho : NT o) : ∀ b ps, upd F a o b ≠ some (.tbl ps) := fun b ps z => by
  by_cases e : b = a
  · rw [e, upd_same] at z; cases z; exact ho _ rfl
  · rw [upd_ne e] at z; exact h b ps z
/-- nothing was changed but the pen; F grew by new objects alone -/
structure Ext (c : Ct) (F H F' H' : Hp) : Prop where
  up : ∀ a o, F a = some o → F' a = some o
  keep : ∀ a o, a ≠ c.pa → NT o → H a = some o → H' a = some o
  there : ∀ a, H a ≠ none → H' a ≠ none
  new : ∀ a, F' a ≠ none → F a ≠ none ∨ H a = none
/-- the exception's dict -/
def XdOk (c : Ct) (K : PySem.W.Frag) (H0 F H : Hp) (d : Addr) (e : Xc) : Prop := ∃ fs, H d = some (.xd fs) ∧ DatF c K F fs e.fs ∧ H0 d = none ∧ F d = none
/-- a result -/
def RDat (c : Ct) (K : PySem.W.Frag) (F H : Hp) (v : V) : RV → Prop
  | .val d => Dat c K F v d
  | .brw ds => ∃ a vs, v = .ref a ∧ a ≠ c.pa ∧ H a = some (.lst vs) ∧ Dats c K F vs ds
  | .bob n gs => ∃ a dx fs, v = .ref a ∧ a ≠ c.pa ∧ H a = some (.ins (c.cA n) dx fs) ∧ DatF c K F fs gs
  | .bdc z => ∃ a u, v = .ref a ∧ a ≠ c.pa ∧ H a = some u ∧ DkAt c K F u z
/-- the address a is one's own -/
def OwnAt (σ : L2.St) (γ : Gm) (a : Addr) : Prop := ∃ (i : Nat) (o : SV), γ[i]? = some o ∧ o.isOwn = true ∧ σ[i]? = some (some (.ref a))
structure EnvOk (c : Ct) (K : PySem.W.Frag) (F H : Hp) (σ : L2.St) (γ : Gm) : Prop where
  len : σ.length = γ.length
  val : ∀ (i : Nat) d, γ[i]? = some (.val d) → ∃ v, σ[i]? = some (some v) ∧ Dat c K F v d
  own : ∀ (i : Nat) ds, γ[i]? = some (.own ds) → ∃ a vs, σ[i]? = some (some (.ref a)) ∧ a ≠ c.pa ∧ a ≠ c.sa ∧ F a = none ∧ H a = some (.lst vs) ∧ Dats c K F vs ds
  obj : ∀ (i : Nat) n gs, γ[i]? = some (.obj n gs) → ∃ a dx fs, σ[i]? = some (some (.ref a)) ∧ a ≠ c.pa ∧ a ≠ c.sa ∧ F a = none ∧ H a = some (.ins (c.cA n) dx fs) ∧ DatF c K F fs gs
  dic : ∀ (i : Nat) z, γ[i]? = some (.dic z) → ∃ a u, σ[i]? = some (some (.ref a)) ∧ a ≠ c.pa ∧ a ≠ c.sa ∧ F a = none ∧ H a = some u ∧ DkAt c K F u z
  ne : ∀ (i j : Nat) o u a, γ[i]? = some o → o.isOwn = true → γ[j]? = some u → u.isOwn = true → σ[i]? = some (some (.ref a)) → σ[j]? = some (some (.ref a)) → i = j
section
variable {c : Ct} {K : PySem.W.Frag} {F F' F2 H H' H2 : Hp} {j : Nat} {σ : L2.St} {γ : Gm}
theorem Ext.refl : Ext c F H F H := ⟨fun _ _ h => h, fun _ _ _ _ h => h, fun _ h => h, fun _ h => .inl h⟩
theorem Ext.trans (a : Ext c F H F' H') (b : Ext c F' H' F2 H2) : Ext c F H F2 H2 := by
  refine ⟨fun x o h => b.up x o (a.up x o h), fun x o n t h => b.keep x o n t (a.keep x o n t h), fun x h => b.there x (a.there x h), fun x h => ?_⟩
  rcases b.new x h with h1 | h1
  · exact a.new x h1
  · right
    cases q : H x with
    | none => rfl
    | some o => exact absurd h1 (a.there x (by rw [q]; simp))
theorem RDat.ext {v : V} {x : RV} (h : RDat c K F H v x) (e : Ext c F H F' H') : RDat c K F' H' v x := by
  cases x with
  | val d => exact Dat.mono e.up h
  | brw ds =>
    obtain ⟨a, vs, rfl, n, ha, hd⟩ := h
    exact ⟨a, vs, rfl, n, e.keep a _ n .lst ha, hd.mono e.up⟩
  | bob m gs =>
    obtain ⟨a, dx, fs, rfl, n, ha, hd⟩ := h
    exact ⟨a, dx, fs, rfl, n, e.keep a _ n .ins ha, hd.mono e.up⟩
  | bdc z =>
    obtain ⟨a, u, rfl, n, ha, hd⟩ := h
    exact ⟨a, u, rfl, n, e.keep a _ n hd.nt ha, hd.mono e.up⟩
theorem EnvOk.ext (h : EnvOk c K F H σ γ) (e : Ext c F H F' H') : EnvOk c K F' H' σ γ := by
  have nf : ∀ a o, F a = none → H a = some o → F' a = none := fun a o h4 h5 => by
    cases z : F' a with
    | none => rfl
    | some o =>
      rcases e.new a (by rw [z]; simp) with y | y
      · exact absurd h4 y
      · rw [y] at h5; cases h5
  refine ⟨h.len, fun i d q => ?_, fun i ds q => ?_, fun i n gs q => ?_, fun i z q => ?_, h.ne⟩
  · obtain ⟨v, h1, h2⟩ := h.val i d q
    exact ⟨v, h1, h2.mono e.up⟩
  · obtain ⟨a, vs, h1, h2, h3, h4, h5, h6⟩ := h.own i ds q
    exact ⟨a, vs, h1, h2, h3, nf a _ h4 h5, e.keep a _ h2 .lst h5, h6.mono e.up⟩
  · obtain ⟨a, dx, fs, h1, h2, h3, h4, h5, h6⟩ := h.obj i n gs q
    exact ⟨a, dx, fs, h1, h2, h3, nf a _ h4 h5, e.keep a _ h2 .ins h5, h6.mono e.up⟩
  · obtain ⟨a, u, h1, h2, h3, h4, h5, h6⟩ := h.dic i z q
    exact ⟨a, u, h1, h2, h3, nf a _ h4 h5, e.keep a _ h2 h6.nt h5, h6.mono e.up⟩
/-- a new object, taken into the part that never changes -/
theorem Good.lay {p : Addr} {o : HO} (g : Good c F H j) (hp : H p = none) (ho : NT o := by first | exact .lst | exact .tup | exact .ins | exact .xd | exact .dK | exact .dT | exact .frz | exact .exv) : Good c (upd F p o) (upd H p o) j ∧ Ext c F H (upd F p o) (upd H p o) := by
  obtain ⟨g1, g2, gp, gt, gn⟩ := g
  have n1 : c.pa ≠ p := ne_of_none gp.1.choose_spec hp
  refine ⟨⟨fun a u h => ?_, fun h => by rw [upd_ne n1]; exact g2 h, gp.keep fun b vs _ h => by rw [upd_ne (ne_of_none h hp)]; exact h, tabs_keep gt (fun b o _ h => by rw [upd_ne (ne_of_none h hp)]; exact h) (fun _ _ h => tbl_upd ho h), nt_upd gn ho⟩, fun a u h => ?_, fun a u _ _ h => ?_, fun a h => ?_, fun a h => ?_⟩
  · by_cases e : a = p
    · subst e; rw [upd_same] at h ⊢; exact h
    · rw [upd_ne e] at h ⊢; exact g1 a u h
  · have e : a ≠ p := fun e => by subst e; have := g1 _ _ h; rw [hp] at this; cases this
    rw [upd_ne e]; exact h
  · rw [upd_ne (ne_of_none h hp)]; exact h
  · have e : a ≠ p := fun e => h (by rw [e]; exact hp)
    rw [upd_ne e]; exact h
  · by_cases e : a = p
    · right; rw [e]; exact hp
    · rw [upd_ne e] at h; exact .inl h
/-- a new object that is not taken in -/
theorem Good.layOut {p : Addr} {o : HO} (g : Good c F H j) (hp : H p = none) (ho : NT o := by first | exact .lst | exact .tup | exact .ins | exact .xd | exact .dK | exact .dT | exact .frz | exact .exv) : Good c F (upd H p o) j ∧ Ext c F H F (upd H p o) := by
  obtain ⟨g1, g2, gp, gt, gn⟩ := g
  have n1 : c.pa ≠ p := ne_of_none gp.1.choose_spec hp
  refine ⟨⟨fun a u h => ?_, g2, gp.keep fun b vs _ h => by rw [upd_ne (ne_of_none h hp)]; exact h, tabs_keep gt (fun b o _ h => by rw [upd_ne (ne_of_none h hp)]; exact h) (fun _ _ h => tbl_upd ho h), gn⟩, fun a u h => h, fun a u _ _ h => ?_, fun a h => ?_, fun a h => .inl h⟩
  · have e : a ≠ p := fun e => by subst e; have := g1 _ _ h; rw [hp] at this; cases this
    rw [upd_ne e]; exact g1 a u h
  · rw [upd_ne (ne_of_none h hp)]; exact h
  · have e : a ≠ p := fun e => h (by rw [e]; exact hp)
    rw [upd_ne e]; exact h
end
/-! ### the judgements -/
/-- what is wanted behind an expression -/
def pE (c : Ct) (K : PySem.W.Frag) (F H : Hp) (Q : VK) : Nat → RV → Prop := fun j x => ∀ F' H' v, Ext c F H F' H' → Good c F' H' j → RDat c K F' H' v x → Q v H'
def pX (c : Ct) (K : PySem.W.Frag) (W : WX) (F H : Hp) (σ : L2.St) : Nat → Xc → Prop := fun j e => ∀ F' H' d, Ext c F H F' H' → Good c F' H' j → XdOk c K H F' H' d e → W (.ref (c.cA e.c)) (some d) σ H'
def tE (c : Ct) (K : PySem.W.Frag) (W : WX) (m : Gm → T RV) : TE := fun σ H Q => ∃ F γ j, Good c F H j ∧ EnvOk c K F H σ γ ∧ (m γ).All j (pE c K F H Q) (pX c K W F H σ)
/-- a test -/
def pT (c : Ct) (F H : Hp) (Q : Bool → Hp → Prop) : Nat → Bool → Prop := fun j b => ∀ F' H', Ext c F H F' H' → Good c F' H' j → Q b H'
def tT (c : Ct) (K : PySem.W.Frag) (W : WX) (m : Gm → T Bool) : TT := fun σ H Q => ∃ F γ j, Good c F H j ∧ EnvOk c K F H σ γ ∧ (m γ).All j (pT c F H Q) (pX c K W F H σ)
/-- arguments -/
def pA (c : Ct) (K : PySem.W.Frag) (F H : Hp) (Q : List V → Hp → Prop) : Nat → List D → Prop := fun j x => ∀ F' H' vs, Ext c F H F' H' → Good c F' H' j → Dats c K F' vs x → Q vs H'
def tA (c : Ct) (K : PySem.W.Frag) (W : WX) (m : Gm → T (List D)) : TA := fun σ H Q => ∃ F γ j, Good c F H j ∧ EnvOk c K F H σ γ ∧ (m γ).All j (pA c K F H Q) (pX c K W F H σ)
structure DE (X : Cx) (c : Ct) (W : WX) (e : Expr) (m : Gm → T RV) : Prop where
  pe : PE X e (tE c X.K W m)
structure DT (X : Cx) (c : Ct) (W : WX) (e : Expr) (m : Gm → T Bool) : Prop where
  pt : PT X e (tT c X.K W m)
structure DA (X : Cx) (c : Ct) (W : WX) (es : List Expr) (m : Gm → T (List D)) : Prop where
  pa : PA X es (tA c X.K W m)
section
variable {X : Cx} {c : Ct} {K : PySem.W.Frag} {W : WX} {F F' H H' : Hp} {σ : L2.St} {j : Nat}
theorem pE.ext {Q : VK} {x : RV} (h : pE c K F H Q j x) (e : Ext c F H F' H') : pE c K F' H' Q j x := fun F2 H2 v e2 g r => h F2 H2 v (e.trans e2) g r
theorem Ext.none {a : Addr} (e : Ext c F H F' H') (h : H' a = none) : H a = none := by
  cases q : H a with
  | none => rfl
  | some o => exact absurd h (e.there a (by rw [q]; simp))
theorem XdOk.low {d : Addr} {x : Xc} {F2 H2 : Hp} (h : XdOk c K H' F2 H2 d x) (e : Ext c F H F' H') : XdOk c K H F2 H2 d x := by
  obtain ⟨fs, h1, h2, h3, h4⟩ := h
  exact ⟨fs, h1, h2, e.none h3, h4⟩
theorem pX.ext {x : Xc} (h : pX c K W F H σ j x) (e : Ext c F H F' H') : pX c K W F' H' σ j x := fun F2 H2 d e2 g r => h F2 H2 d (e.trans e2) g (r.low e)
/-- an expression's reading is weakened -/
theorem _root_.L2.PE.imp {e : Expr} {t t' : TE} (h : PE X e t) (i : ∀ σ H Q, t' σ H Q → t σ H Q) : PE X e t' := ⟨fun pins s σ H Q I q => h.run pins s σ H Q I (i σ H Q q)⟩
theorem _root_.L2.PT.imp {e : Expr} {t t' : TT} (h : PT X e t) (i : ∀ σ H Q, t' σ H Q → t σ H Q) : PT X e t' := ⟨fun pins s σ H Q I q => h.run pins s σ H Q I (i σ H Q q)⟩
theorem _root_.L2.PA.imp {es : List Expr} {t t' : TA} (h : PA X es t) (i : ∀ σ H Q, t' σ H Q → t σ H Q) : PA X es t' := ⟨fun pos pins s σ H Q I q => h.run pos pins s σ H Q I (i σ H Q q)⟩
theorem _root_.L2.PS.imp {st : Stmt} {t t' : TS} (h : PS X st t) (i : ∀ D σ H, t' D σ H → t D σ H) : PS X st t' := ⟨fun pins s σ H D I q => h.run pins s σ H D I (i D σ H q)⟩
theorem _root_.L2.PSs.imp {st : List Stmt} {t t' : TS} (h : PSs X st t) (i : ∀ D σ H, t' D σ H → t D σ H) : PSs X st t' := ⟨fun pins s σ H D I q => h.run pins s σ H D I (i D σ H q)⟩
/-- the first part of a sequence: what comes behind it knows the parts' state -/
theorem tE.seq {α : Type} {m : Gm → T RV} {γ : Gm} {f : RV → T α} {P : Nat → α → Prop} {Q : VK} (g : Good c F H j) (en : EnvOk c K F H σ γ) (h : ((m γ).bind f).All j P (pX c K W F H σ))
    (k : ∀ j' x F' H' v, Ext c F H F' H' → Good c F' H' j' → EnvOk c K F' H' σ γ → RDat c K F' H' v x → (f x).All j' P (pX c K W F H σ) → Q v H') : tE c K W m σ H Q :=
  ⟨F, γ, j, g, en, (T.All.bind h).imp (fun j' x hx F' H' v e g' r => k j' x F' H' v e g' (en.ext e) r hx) fun _ _ z => z⟩
theorem tA.seq {α : Type} {m : Gm → T (List D)} {γ : Gm} {f : List D → T α} {P : Nat → α → Prop} {Q : List V → Hp → Prop} (g : Good c F H j) (en : EnvOk c K F H σ γ) (h : ((m γ).bind f).All j P (pX c K W F H σ))
    (k : ∀ j' x F' H' vs, Ext c F H F' H' → Good c F' H' j' → EnvOk c K F' H' σ γ → Dats c K F' vs x → (f x).All j' P (pX c K W F H σ) → Q vs H') : tA c K W m σ H Q :=
  ⟨F, γ, j, g, en, (T.All.bind h).imp (fun j' x hx F' H' v e g' r => k j' x F' H' v e g' (en.ext e) r hx) fun _ _ z => z⟩
theorem tT.seq {α : Type} {m : Gm → T Bool} {γ : Gm} {f : Bool → T α} {P : Nat → α → Prop} {Q : Bool → Hp → Prop} (g : Good c F H j) (en : EnvOk c K F H σ γ) (h : ((m γ).bind f).All j P (pX c K W F H σ))
    (k : ∀ j' x F' H', Ext c F H F' H' → Good c F' H' j' → EnvOk c K F' H' σ γ → (f x).All j' P (pX c K W F H σ) → Q x H') : tT c K W m σ H Q :=
  ⟨F, γ, j, g, en, (T.All.bind h).imp (fun j' x hx F' H' e g' => k j' x F' H' e g' (en.ext e) hx) fun _ _ z => z⟩
end
end DL
namespace DL
open PySem PySem.Spec L2
open PyProof.Rows
section
variable {X : Cx} {c : Ct} {W : WX} {a b : Expr} {ma mb : Gm → T RV} {pos : Pos}
/-! ### names and constants -/
def mVar (i : Nat) : Gm → T RV := fun γ => match γ[i]? with
  | some (.val d) => .ok (.val d)
  | some (.own ds) => .ok (.brw ds)
  | some (.obj n gs) => .ok (.bob n gs)
  | some (.dic z) => .ok (.bdc z)
  | _ => .stuck
def mC (d : D) : Gm → T RV := fun _ => .ok (.val d)
theorem de_var (i : Nat) {x : Str} (hN : X.N[i]? = some x := by rfl) (hv : Vis X.env.scope x := by first | exact Or.inl rfl | exact Or.inr (Or.inl rfl) | exact Or.inr (Or.inr rfl)) (hd : (x == ("__debug__" : Str)) = false := by decide)
    (hcd : (x == ("__classdict__" : Str)) = false := by decide) : DE X c W (.Name x pos) (mVar i) := by
  refine ⟨(pe_var hN hv hd hcd).imp fun σ H Q ⟨F, γ, j, g, en, h⟩ => ?_⟩
  unfold mVar at h
  split at h
  · rename_i d e
    obtain ⟨v, h1, h2⟩ := en.val i d e
    exact ⟨v, h1, h F H v .refl g h2⟩
  · rename_i ds e
    obtain ⟨a, vs, h1, h2, h3, h4, h5, h6⟩ := en.own i ds e
    exact ⟨_, h1, h F H _ .refl g ⟨a, vs, rfl, h2, h5, h6⟩⟩
  · rename_i n gs e
    obtain ⟨a, dx, fs, h1, h2, h3, h4, h5, h6⟩ := en.obj i n gs e
    exact ⟨_, h1, h F H _ .refl g ⟨a, dx, fs, rfl, h2, h5, h6⟩⟩
  · rename_i z e
    obtain ⟨a, u, h1, h2, h3, h4, h5, h6⟩ := en.dic i z e
    exact ⟨_, h1, h F H _ .refl g ⟨a, u, rfl, h2, h5, h6⟩⟩
  · exact h.elim
/-- a value that stands everywhere -/
theorem de_c {e : Expr} {v : V} {d : D} (h : PE X e (tC v)) (hd : ∀ F, Dat c X.K F v d) : DE X c W e (mC d) :=
  ⟨h.imp fun σ H Q ⟨F, γ, j, g, en, k⟩ => k F H v .refl g (hd F)⟩
theorem de_int {i : Int} {k : Nat} : DE X c W (.Constant (.int i) k pos) (mC (.int i)) := de_c pe_int fun _ => .int i
theorem de_bl {i : Bool} {k : Nat} : DE X c W (.Constant (.bool i) k pos) (mC (.bl i)) := de_c pe_bl fun _ => .bl i
theorem de_non {k : Nat} : DE X c W (.Constant .none k pos) (mC .non) := de_c pe_non fun _ => .non
theorem de_str {x : Str} {k : Nat} : DE X c W (.Constant (.str x) k pos) (mC (.str x)) := de_c pe_str fun _ => .str x
/-- a module's name -/
theorem de_glob {x : Str} {v : V} {u : Value} {d : D} (hg : Gl X x) (hm : X.mg x = some u) (r : RelV v u) (hd : ∀ F, Dat c X.K F v d) (hdb : (x == ("__debug__" : Str)) = false := by decide) : DE X c W (.Name x pos) (mC d) :=
  de_c (pe_glob hg hm r hdb) hd
/-- a built-in class as a value -/
theorem de_ty {x : Str} {n : String} (hg : Gl X x) (hm : X.mg x = none) (hv : bootBuiltins x = some (.type n)) (hn : x ≠ "__name__" := by decide) (hd : (x == ("__debug__" : Str)) = false := by decide) : DE X c W (.Name x pos) (mC (.ty n)) :=
  de_c (pe_bltn (v := .ty n) hg hm hv rfl hn hd) fun _ => .ty n
/-! ### two values -/
def mBin (g : RV → RV → T RV) (ma mb : Gm → T RV) : Gm → T RV := fun γ => (ma γ).bind fun x => (mb γ).bind fun y => g x y
/-- an operation on two values -/
def OpD (X : Cx) (c : Ct) (W : WX) (f : Value → Value → Sem Value) (g : RV → RV → T RV) : Prop :=
  ∀ (pins : List (Addr × Obj)) (s : Shared) (σ : L2.St) (H : Hp) (x y : V) (v u : Value) (Q : VK) (F : Hp) (j : Nat) (dx dy : RV), Inv X pins σ H s → RelV x v → RelV y u → Good c F H j → RDat c X.K F H x dx → RDat c X.K F H y dy →
    (g dx dy).All j (pE c X.K F H Q) (pX c X.K W F H σ) → wpAny (model X.prog X.w) X.A (f v u) (EP X pins σ Q) X.xe s
theorem two {K : PySem.W.Frag} {α : Type} {g : RV → RV → T α} {P : Nat → α → Prop} {σ : L2.St} {F H : Hp} {γ : Gm} {j : Nat} {R : V → V → Hp → Prop} (gd : Good c F H j) (en : EnvOk c K F H σ γ)
    (h : ((ma γ).bind fun x => (mb γ).bind fun y => g x y).All j P (pX c K W F H σ))
    (k : ∀ j' dx dy F' H' x y, Ext c F H F' H' → Good c F' H' j' → EnvOk c K F' H' σ γ → RDat c K F' H' x dx → RDat c K F' H' y dy → (g dx dy).All j' P (pX c K W F' H' σ) → R x y H') :
    tE c K W ma σ H fun x H1 => tE c K W mb σ H1 fun y H2 => R x y H2 := by
  refine tE.seq gd en h fun j1 dx F1 H1 x e1 g1 en1 r1 h1 => ?_
  refine tE.seq (f := g dx) g1 en1 (h1.imp (fun _ _ z => z) fun _ _ z => z.ext e1) fun j2 dy F2 H2 y e2 g2 en2 r2 h2 => ?_
  exact k j2 dx dy F2 H2 x y (e1.trans e2) g2 en2 (r1.ext e2) r2 (h2.imp (fun _ _ z => z) fun _ _ z => z.ext e2)
theorem de_bin {op : Operator} {g : RV → RV → T RV} (ho : OpD X c W (binaryOp op) g) (ha : DE X c W a ma) (hb : DE X c W b mb) : DE X c W (.BinOp a op b pos) (mBin g ma mb) := by
  refine ⟨⟨fun pins s σ H Q I ⟨F, γ, j, gd, en, h⟩ => ?_⟩⟩
  refine wpAny_BinOp (binT ha.pe hb.pe I (R := fun x y H2 => ∃ F j dx dy, Good c F H2 j ∧ RDat c X.K F H2 x dx ∧ RDat c X.K F H2 y dy ∧ (g dx dy).All j (pE c X.K F H2 Q) (pX c X.K W F H2 σ))
    (two gd en h fun j' dx dy F' H' x y e g' en' r1 r2 q => ⟨F', j', dx, dy, g', r1, r2, q.imp (fun _ _ z => z.ext e) fun _ _ z => z⟩) fun v u s2 x y H2 I2 rx ry ⟨F2, j2, dx, dy, g2, r1, r2, q⟩ => ?_)
  exact ho pins s2 σ H2 x y v u Q F2 j2 dx dy I2 rx ry g2 r1 r2 q
/-- a comparison as a value -/
theorem de_cmp {op : CmpOp} {g : RV → RV → T RV} (ho : OpD X c W (compareOp op) g) (ha : DE X c W a ma) (hb : DE X c W b mb) (hm : behindInMarks op b = false := by first | exact nomark _ | rfl) : DE X c W (.Compare a [op] [b] pos) (mBin g ma mb) := by
  refine ⟨⟨fun pins s σ H Q I ⟨F, γ, j, gd, en, h⟩ => ?_⟩⟩
  refine wpAny_Compare1 (binT ha.pe hb.pe I (R := fun x y H2 => ∃ F j dx dy, Good c F H2 j ∧ RDat c X.K F H2 x dx ∧ RDat c X.K F H2 y dy ∧ (g dx dy).All j (pE c X.K F H2 Q) (pX c X.K W F H2 σ))
    (two gd en h fun j' dx dy F' H' x y e g' en' r1 r2 q => ⟨F', j', dx, dy, g', r1, r2, q.imp (fun _ _ z => z.ext e) fun _ _ z => z⟩) fun v u s2 x y H2 I2 rx ry ⟨F2, j2, dx, dy, g2, r1, r2, q⟩ => ?_) hm
  exact ho pins s2 σ H2 x y v u Q F2 j2 dx dy I2 rx ry g2 r1 r2 q
/-- an operation by the hand layer's rule -/
theorem opD_of {f : Value → Value → Sem Value} {g : RV → RV → T RV} {r : R2} (ho : OpR X f r) (h : ∀ (σ : L2.St) (H : Hp) (x y : V) (Q : VK) (F : Hp) (j : Nat) (dx dy : RV), Good c F H j → RDat c X.K F H x dx → RDat c X.K F H y dy →
    (g dx dy).All j (pE c X.K F H Q) (pX c X.K W F H σ) → r x y H Q) : OpD X c W f g := fun pins s σ H x y v u Q F j dx dy I rx ry gd r1 r2 q => ho pins s σ H x y v u Q I rx ry (h σ H x y Q F j dx dy gd r1 r2 q)
/-! ### views -/
theorem RDat.int {F H : Hp} {v : V} {x : RV} {i : Int} (h : RDat c X.K F H v x) (e : x.d = .int i) : v = .int i := by
  cases x with
  | brw ds => cases e
  | bob n gs => cases e
  | bdc z => cases z <;> cases e
  | val d => cases e; cases h; rfl
theorem RDat.str {F H : Hp} {v : V} {x : RV} {i : Str} (h : RDat c X.K F H v x) (e : x.d = .str i) : v = .str i := by
  cases x with
  | brw ds => cases e
  | bob n gs => cases e
  | bdc z => cases z <;> cases e
  | val d => cases e; cases h; rfl
theorem RDat.bl {F H : Hp} {v : V} {x : RV} {i : Bool} (h : RDat c X.K F H v x) (e : x.d = .bl i) : v = .bl i := by
  cases x with
  | brw ds => cases e
  | bob n gs => cases e
  | bdc z => cases z <;> cases e
  | val d => cases e; cases h; rfl
theorem RDat.non {F H : Hp} {v : V} {x : RV} (h : RDat c X.K F H v x) (e : x.d = .non) : v = .non := by
  cases x with
  | brw ds => cases e
  | bob n gs => cases e
  | bdc z => cases z <;> cases e
  | val d => cases e; cases h; rfl
theorem RDat.lst {F H : Hp} {v : V} {x : RV} {ds : List D} (h : RDat c X.K F H v x) (g : ∀ a o, F a = some o → H a = some o) (e : x.d = .lst ds) : ∃ a vs, v = .ref a ∧ H a = some (.lst vs) ∧ Dats c X.K F vs ds := by
  cases x with
  | brw es =>
    obtain ⟨a, vs, e1, _, h1, h2⟩ := h
    cases e
    exact ⟨a, vs, e1, h1, h2⟩
  | bob n gs => cases e
  | bdc z => cases z <;> cases e
  | val d =>
    cases e
    cases h with
    | lst h1 h2 => exact ⟨_, _, rfl, g _ _ h1, h2⟩
theorem RDat.tup {F H : Hp} {v : V} {x : RV} {ds : List D} (h : RDat c X.K F H v x) (g : ∀ a o, F a = some o → H a = some o) (e : x.d = .tup ds) : ∃ a vs, v = .ref a ∧ SqT X.K H a vs ∧ SqT X.K F a vs ∧ Dats c X.K F vs ds := by
  cases x with
  | brw es => cases e
  | bob n gs => cases e
  | bdc z => cases z <;> cases e
  | val d =>
    cases e
    cases h with
    | tup h1 h2 => exact ⟨_, _, rfl, SqT.mono h1 g, h1, h2⟩
end
end DL
namespace DL
open PySem PySem.Spec L2
open PyProof.Rows
section
variable {X : Cx} {c : Ct} {W : WX}
abbrev okV (d : D) : T RV := .ok (.val d)
theorem line_of {n : Nat} (h : n ≤ 1000000) : n ≤ sizeLine := by rw [sizeLine_eq]; omega
theorem line_lt {n : Nat} (h : n < 1000000) : n < sizeLine := by rw [sizeLine_eq]; omega
/-- an end with a value that is no object -/
theorem pE.val {K : PySem.W.Frag} {F H : Hp} {Q : VK} {j : Nat} {v : V} {d : D} (h : pE c K F H Q j (.val d)) (g : Good c F H j) (r : Dat c K F v d) : Q v H := h F H v .refl g r
/-- an end with a new list -/
theorem pE.lst {K : PySem.W.Frag} {F H : Hp} {Q : VK} {j : Nat} {ds : List D} {vs : List V} (h : pE c K F H Q j (.val (.lst ds))) (g : Good c F H j) (r : Dats c K F vs ds) : ∀ p, H p = none → Q (.ref p) (upd H p (.lst vs)) := fun p hp => by
  obtain ⟨g1, e1⟩ := g.lay (o := .lst vs) hp
  exact h _ _ _ e1 g1 (show Dat c K _ _ _ from .lst upd_same (r.mono e1.up))
theorem pE.tup {K : PySem.W.Frag} {F H : Hp} {Q : VK} {j : Nat} {ds : List D} {vs : List V} (h : pE c K F H Q j (.val (.tup ds))) (g : Good c F H j) (r : Dats c K F vs ds) : ∀ p, H p = none → Q (.ref p) (upd H p (.tup vs)) := fun p hp => by
  obtain ⟨g1, e1⟩ := g.lay (o := .tup vs) hp
  exact h _ _ _ e1 g1 (show Dat c K _ _ _ from .tup (SqT.of upd_same) (r.mono e1.up))
/-! ### arithmetic -/
def gAdd (x y : RV) : T RV := match x.d, y.d with
  | .int i, .int j => okV (.int (i + j))
  | .str a, .str b => if a.length + b.length ≤ 1000000 then okV (.str (a ++ b)) else .stuck
  | .lst xs, .lst ys => if xs.length + ys.length ≤ 1000000 then okV (.lst (xs ++ ys)) else .stuck
  | .tup (x :: xs), .tup (y :: ys) => if (x :: xs).length + (y :: ys).length ≤ 1000000 then okV (.tup (x :: xs ++ y :: ys)) else .stuck
  | _, _ => .stuck
theorem o_add : OpD X c W (binaryOp .Add) gAdd := by
  refine opD_of (op_add.or (op_add_str.or (op_cat.or op_catT))) fun σ H x y Q F j dx dy gd r1 r2 q => ?_
  unfold gAdd at q
  split at q
  · rename_i i k e1 e2
    exact .inl ⟨i, k, r1.int e1, r2.int e2, q.val gd (.int _)⟩
  · rename_i i k e1 e2
    split at q
    · rename_i hl
      exact .inr (.inl ⟨i, k, r1.str e1, r2.str e2, line_of hl, q.val gd (.str _)⟩)
    · exact q.elim
  · rename_i xs ys e1 e2
    split at q
    · rename_i hl
      obtain ⟨a, vs, rfl, h1, h2⟩ := r1.lst gd.sub e1
      obtain ⟨b, us, rfl, h3, h4⟩ := r2.lst gd.sub e2
      exact .inr (.inr (.inl ⟨a, b, vs, us, rfl, rfl, h1, h3, line_of (by rw [h2.length, h4.length]; exact hl), q.lst gd (h2.append h4)⟩))
    · exact q.elim
  · rename_i z xs w ys e1 e2
    split at q
    · rename_i hl
      obtain ⟨a, vs, rfl, h1, _, h2⟩ := r1.tup gd.sub e1
      obtain ⟨b, us, rfl, h3, _, h4⟩ := r2.tup gd.sub e2
      refine .inr (.inr (.inr ⟨a, b, vs, us, rfl, rfl, h1, h3, ?_, line_of (by rw [h2.length, h4.length]; exact hl), ?_⟩))
      · cases h2; simp
      · have hn : us ≠ [] := by cases h4; simp
        first
          | exact ⟨fun z => absurd z hn, fun _ => q.tup gd (h2.append h4)⟩
          | exact fun _ => q.tup gd (h2.append h4)
          | (split <;> first | exact absurd ‹_› hn | exact q.tup gd (h2.append h4))
    · exact q.elim
  · exact q.elim
def gSub (x y : RV) : T RV := match x.d, y.d with
  | .int i, .int j => okV (.int (i - j))
  | _, _ => .stuck
theorem o_sub : OpD X c W (binaryOp .Sub) gSub := by
  refine opD_of op_sub fun σ H x y Q F j dx dy gd r1 r2 q => ?_
  unfold gSub at q
  split at q
  · rename_i i k e1 e2
    exact ⟨i, k, r1.int e1, r2.int e2, q.val gd (.int _)⟩
  · exact q.elim
/-- one factor below 2 ^ 64 -/
def mulOk (i j : Int) : Bool := decide (i.natAbs < 2 ^ 64) || decide (j.natAbs < 2 ^ 64)
theorem mulOk_c {i j : Int} (h : mulOk i j = true) : CMul i j := by
  unfold mulOk at h
  rcases Bool.or_eq_true_iff.mp h with h | h
  · left; have := of_decide_eq_true h; omega
  · right; have := of_decide_eq_true h; omega
def gMul (x y : RV) : T RV := match x.d, y.d with
  | .int i, .int j => if mulOk i j then okV (.int (i * j)) else .stuck
  | .lst xs, .int k => if decide (k.natAbs ≤ 1000000) && decide (xs.length * k.toNat ≤ 1000000) then okV (.lst (List.replicate k.toNat xs).flatten) else .stuck
  | _, _ => .stuck
theorem Dats.flat {F : Hp} {K : PySem.W.Frag} {vs : List V} {ds : List D} (h : Dats c K F vs ds) : ∀ n : Nat, Dats c K F (List.replicate n vs).flatten (List.replicate n ds).flatten
  | 0 => .nil
  | n + 1 => by
    rw [List.replicate_succ, List.replicate_succ, List.flatten_cons, List.flatten_cons]
    exact h.append (Dats.flat h n)
theorem o_mul : OpD X c W (binaryOp .Mult) gMul := by
  refine opD_of (op_mul.or op_rep) fun σ H x y Q F j dx dy gd r1 r2 q => ?_
  unfold gMul at q
  split at q
  · rename_i i k e1 e2
    split at q
    · rename_i hc
      exact .inl ⟨i, k, r1.int e1, r2.int e2, mulOk_c hc, q.val gd (.int _)⟩
    · exact q.elim
  · rename_i xs k e1 e2
    split at q
    · rename_i hl
      obtain ⟨h1, h2⟩ := Bool.and_eq_true_iff.mp hl
      have h1 := of_decide_eq_true h1
      have h2 := of_decide_eq_true h2
      obtain ⟨a, vs, rfl, h3, h4⟩ := r1.lst gd.sub e1
      exact .inr ⟨a, k, vs, rfl, r2.int e2, h3, by omega, by omega, line_of (by rw [h4.length]; exact h2), q.lst gd (h4.flat _)⟩
    · exact q.elim
  · exact q.elim
def gMod (x y : RV) : T RV := match x.d, y.d with
  | .int i, .int j => if 0 < j then okV (.int (i % j)) else .stuck
  | _, _ => .stuck
theorem o_mod : OpD X c W (binaryOp .Mod) gMod := by
  refine opD_of op_mod fun σ H x y Q F j dx dy gd r1 r2 q => ?_
  unfold gMod at q
  split at q
  · rename_i i k e1 e2
    split at q
    · rename_i hc
      exact ⟨i, k, r1.int e1, r2.int e2, hc, q.val gd (.int _)⟩
    · exact q.elim
  · exact q.elim
def gPow (x y : RV) : T RV := match x.d, y.d with
  | .int i, .int j => if 0 ≤ j ∧ j ≤ 1000000 ∧ i.natAbs < 2 ^ 64 then okV (.int (i ^ j.toNat)) else .stuck
  | _, _ => .stuck
theorem o_pow : OpD X c W (binaryOp .Pow) gPow := by
  refine opD_of op_pow fun σ H x y Q F j dx dy gd r1 r2 q => ?_
  unfold gPow at q
  split at q
  · rename_i i k e1 e2
    split at q
    · rename_i hc
      exact ⟨i, k, r1.int e1, r2.int e2, hc, q.val gd (.int _)⟩
    · exact q.elim
  · exact q.elim
def gShl (x y : RV) : T RV := match x.d, y.d with
  | .int i, .int j => if 0 ≤ j ∧ j ≤ 1000000 ∧ i.natAbs < 2 ^ 64 then okV (.int (i * 2 ^ j.toNat)) else .stuck
  | _, _ => .stuck
theorem o_shl : OpD X c W (binaryOp .LShift) gShl := by
  refine opD_of op_shl fun σ H x y Q F j dx dy gd r1 r2 q => ?_
  unfold gShl at q
  split at q
  · rename_i i k e1 e2
    split at q
    · rename_i hc
      exact ⟨i, k, r1.int e1, r2.int e2, hc, q.val gd (.int _)⟩
    · exact q.elim
  · exact q.elim
def gShr (x y : RV) : T RV := match x.d, y.d with
  | .int i, .int j => if 0 ≤ j then okV (.int (i / 2 ^ j.toNat)) else .stuck
  | _, _ => .stuck
theorem o_shr : OpD X c W (binaryOp .RShift) gShr := by
  refine opD_of op_shr fun σ H x y Q F j dx dy gd r1 r2 q => ?_
  unfold gShr at q
  split at q
  · rename_i i k e1 e2
    split at q
    · rename_i hc
      exact ⟨i, k, r1.int e1, r2.int e2, hc, q.val gd (.int _)⟩
    · exact q.elim
  · exact q.elim
def gAnd (x y : RV) : T RV := match x.d, y.d with
  | .int i, .int j => okV (.int (Builtin.bitAnd i j))
  | _, _ => .stuck
theorem o_and : OpD X c W (binaryOp .BitAnd) gAnd := by
  refine opD_of op_and fun σ H x y Q F j dx dy gd r1 r2 q => ?_
  unfold gAnd at q
  split at q
  · rename_i i k e1 e2
    exact ⟨i, k, r1.int e1, r2.int e2, q.val gd (.int _)⟩
  · exact q.elim
def gOr (x y : RV) : T RV := match x.d, y.d with
  | .int i, .int j => okV (.int (Builtin.bitOr i j))
  | _, _ => .stuck
theorem o_or : OpD X c W (binaryOp .BitOr) gOr := by
  refine opD_of op_or fun σ H x y Q F j dx dy gd r1 r2 q => ?_
  unfold gOr at q
  split at q
  · rename_i i k e1 e2
    exact ⟨i, k, r1.int e1, r2.int e2, q.val gd (.int _)⟩
  · exact q.elim
def gXor (x y : RV) : T RV := match x.d, y.d with
  | .int i, .int j => okV (.int (Builtin.bitXor i j))
  | _, _ => .stuck
theorem o_xor : OpD X c W (binaryOp .BitXor) gXor := by
  refine opD_of op_xor fun σ H x y Q F j dx dy gd r1 r2 q => ?_
  unfold gXor at q
  split at q
  · rename_i i k e1 e2
    exact ⟨i, k, r1.int e1, r2.int e2, q.val gd (.int _)⟩
  · exact q.elim
/-! ### comparisons -/
def gLt (x y : RV) : T RV := match x.d, y.d with
  | .int i, .int j => okV (.bl (decide (i < j)))
  | .str a, .str b => okV (.bl (decide (a.cps.toList < b.cps.toList)))
  | _, _ => .stuck
theorem o_lt : OpD X c W (compareOp .Lt) gLt := by
  refine opD_of (op_lt.or op_lt_str) fun σ H x y Q F j dx dy gd r1 r2 q => ?_
  unfold gLt at q
  split at q
  · rename_i i k e1 e2
    exact .inl ⟨i, k, r1.int e1, r2.int e2, q.val gd (.bl _)⟩
  · rename_i i k e1 e2
    exact .inr ⟨i, k, r1.str e1, r2.str e2, q.val gd (.bl _)⟩
  · exact q.elim
def gLe (x y : RV) : T RV := match x.d, y.d with
  | .int i, .int j => okV (.bl (decide (i ≤ j)))
  | _, _ => .stuck
theorem o_le : OpD X c W (compareOp .LtE) gLe := by
  refine opD_of op_le fun σ H x y Q F j dx dy gd r1 r2 q => ?_
  unfold gLe at q
  split at q
  · rename_i i k e1 e2
    exact ⟨i, k, r1.int e1, r2.int e2, q.val gd (.bl _)⟩
  · exact q.elim
def gGt (x y : RV) : T RV := match x.d, y.d with
  | .int i, .int j => okV (.bl (decide (j < i)))
  | _, _ => .stuck
theorem o_gt : OpD X c W (compareOp .Gt) gGt := by
  refine opD_of op_gt fun σ H x y Q F j dx dy gd r1 r2 q => ?_
  unfold gGt at q
  split at q
  · rename_i i k e1 e2
    exact ⟨i, k, r1.int e1, r2.int e2, q.val gd (.bl _)⟩
  · exact q.elim
def gGe (x y : RV) : T RV := match x.d, y.d with
  | .int i, .int j => okV (.bl (decide (j ≤ i)))
  | _, _ => .stuck
def D.isNon : D → Bool
  | .non => true
  | _ => false
theorem Dat.non_iff {K : PySem.W.Frag} {F : Hp} {v : V} {d : D} (h : Dat c K F v d) : decide (v = V.non) = d.isNon := by
  cases h <;> first | rfl | (simp [D.isNon])
theorem RDat.non_iff {K : PySem.W.Frag} {F H : Hp} {v : V} {x : RV} (h : RDat c K F H v x) : decide (v = V.non) = x.d.isNon := by
  cases x with
  | val d => exact Dat.non_iff h
  | brw ds =>
    obtain ⟨a, vs, rfl, _⟩ := h
    simp [RV.d, D.isNon]
  | bob n gs =>
    obtain ⟨a, dx, fs, rfl, _⟩ := h
    simp [RV.d, D.isNon]
  | bdc z =>
    obtain ⟨a, u, rfl, _⟩ := h
    cases z <;> simp [RV.d, Dk.d, D.isNon]
def gIs (x y : RV) : T RV := match y.d with
  | .non => okV (.bl x.d.isNon)
  | _ => .stuck
theorem o_is : OpD X c W (compareOp .Is) gIs := by
  refine opD_of op_isN fun σ H x y Q F j dx dy gd r1 r2 q => ?_
  unfold gIs at q
  split at q
  · rename_i e
    exact ⟨r2.non e, by rw [r1.non_iff]; exact q.val gd (.bl _)⟩
  · exact q.elim
def gIsNot (x y : RV) : T RV := match y.d with
  | .non => okV (.bl (!x.d.isNon))
  | _ => .stuck
theorem o_isnot : OpD X c W (compareOp .IsNot) gIsNot := by
  refine opD_of op_notN fun σ H x y Q F j dx dy gd r1 r2 q => ?_
  unfold gIsNot at q
  split at q
  · rename_i e
    exact ⟨r2.non e, by rw [r1.non_iff]; exact q.val gd (.bl _)⟩
  · exact q.elim
/-! ### equality of data -/
mutual
def D.py : D → Option PyData
  | .non => some .none
  | .bl b => some (.bool b)
  | .int i => some (.int i)
  | .str x => some (.str x)
  | .tup xs => (D.pys xs).map .tuple
  | .lst xs => (D.pys xs).map .list
  | _ => none
def D.pys : List D → Option (List PyData)
  | [] => some []
  | x :: xs => match D.py x, D.pys xs with
    | some p, some ps => some (p :: ps)
    | _, _ => none
end
mutual
theorem Dat.dp {K : PySem.W.Frag} {F H : Hp} (g : ∀ a o, F a = some o → H a = some o) : ∀ {v : V} {d : D} {p : PyData}, Dat c K F v d → d.py = some p → Dp K H v p
  | _, _, _, .non, e => by cases e; exact .non
  | _, _, _, .bl b, e => by cases e; exact .bl b
  | _, _, _, .int i, e => by cases e; exact .int i
  | _, _, _, .str x, e => by cases e; exact .str x
  | _, .tup ds, _, .tup h r, e => by
    simp only [D.py, Option.map_eq_some_iff] at e
    obtain ⟨ps, e1, rfl⟩ := e
    exact .tup (SqT.mono h g) (Dats.dp g r e1)
  | _, .lst ds, _, .lst h r, e => by
    simp only [D.py, Option.map_eq_some_iff] at e
    obtain ⟨ps, e1, rfl⟩ := e
    exact .lst (SqL.of (g _ _ h)) (Dats.dp g r e1)
  | _, _, _, .ins h r, e => by simp [D.py] at e
  | _, _, _, .exn _ _ r, e => by simp [D.py] at e
  | _, _, _, .exn0 _, e => by simp [D.py] at e
  | _, _, _, .dct _ _, e => by simp [D.py] at e
  | _, _, _, .dtt _ _, e => by simp [D.py] at e
  | _, _, _, .cls n, e => by simp [D.py] at e
  | _, _, _, .ty n, e => by simp [D.py] at e
  | _, _, _, .pen, e => by simp [D.py] at e
  | _, _, _, .adr _, e => by simp [D.py] at e
theorem Dats.dp {K : PySem.W.Frag} {F H : Hp} (g : ∀ a o, F a = some o → H a = some o) : ∀ {vs : List V} {ds : List D} {ps : List PyData}, Dats c K F vs ds → D.pys ds = some ps → DpAll K H vs ps
  | _, _, _, .nil, e => by cases e; exact .nil
  | _, _, _, .cons h r, e => by
    unfold D.pys at e
    split at e
    · rename_i p ps e1 e2
      cases e
      exact .cons (Dat.dp g h e1) (Dats.dp g r e2)
    · cases e
end
theorem RDat.dp {K : PySem.W.Frag} {F H : Hp} {v : V} {x : RV} {p : PyData} (g : ∀ a o, F a = some o → H a = some o) (h : RDat c K F H v x) (e : x.d.py = some p) : Dp K H v p := by
  cases x with
  | val d => exact Dat.dp g h e
  | brw ds =>
    obtain ⟨a, vs, rfl, _, h1, h2⟩ := h
    simp only [RV.d, D.py, Option.map_eq_some_iff] at e
    obtain ⟨ps, e1, rfl⟩ := e
    exact .lst (SqL.of h1) (Dats.dp g h2 e1)
  | bob n gs => simp [RV.d, D.py] at e
  | bdc z => cases z <;> simp [RV.d, Dk.d, D.py] at e
mutual
theorem D.py_plain : ∀ {d : D} {p : PyData}, d.py = some p → p.plain = true
  | .non, _, e => by cases e; rfl
  | .bl _, _, e => by cases e; rfl
  | .int _, _, e => by cases e; rfl
  | .str _, _, e => by cases e; rfl
  | .tup xs, p, e => by
    unfold D.py at e
    obtain ⟨ps, e1, rfl⟩ := Option.map_eq_some_iff.mp e
    unfold PyData.plain
    exact D.pys_plain e1
  | .lst xs, p, e => by
    unfold D.py at e
    obtain ⟨ps, e1, rfl⟩ := Option.map_eq_some_iff.mp e
    unfold PyData.plain
    exact D.pys_plain e1
theorem D.pys_plain : ∀ {ds : List D} {ps : List PyData}, D.pys ds = some ps → PyData.plainAll ps = true
  | [], _, e => by cases e; rfl
  | x :: xs, ps, e => by
    unfold D.pys at e
    split at e
    · rename_i p qs e1 e2
      cases e
      unfold PyData.plainAll
      rw [D.py_plain e1, D.pys_plain e2]
      rfl
    · cases e
end
/-- == of data; other things are not looked at -/
def eqDat (x y : D) : Option Bool := match x.py, y.py with
  | some p, some q => if decide (p.depth ≤ 64) && decide (q.depth ≤ 64) then some (PyData.eqv p q) else none
  | _, _ => none
def gEqD (x y : RV) : T RV := match eqDat x.d y.d with
  | some b => okV (.bl b)
  | none => .stuck
def gNeD (x y : RV) : T RV := match eqDat x.d y.d with
  | some b => okV (.bl (!b))
  | none => .stuck
theorem eqDat_ok {x y : D} {b : Bool} (h : eqDat x y = some b) : ∃ p q, x.py = some p ∧ y.py = some q ∧ p.depth ≤ 64 ∧ q.depth ≤ 64 ∧ b = PyData.eqv p q := by
  unfold eqDat at h
  split at h
  · rename_i p q e1 e2
    split at h
    · rename_i hs
      obtain ⟨h1, h2⟩ := Bool.and_eq_true_iff.mp hs
      exact ⟨p, q, e1, e2, of_decide_eq_true h1, of_decide_eq_true h2, (Option.some.inj h).symm⟩
    · cases h
  · cases h
def rEqP (K : PySem.W.Frag) : R2 := fun x y H Q => ∃ d e, Dp K H x d ∧ Dp K H y e ∧ d.plain = true ∧ e.plain = true ∧ d.depth ≤ 64 ∧ e.depth ≤ 64 ∧ Q (.bl (PyData.eqv d e)) H
def rNeP (K : PySem.W.Frag) : R2 := fun x y H Q => ∃ d e, Dp K H x d ∧ Dp K H y e ∧ d.plain = true ∧ e.plain = true ∧ d.depth ≤ 64 ∧ e.depth ≤ 64 ∧ Q (.bl (!PyData.eqv d e)) H
theorem op_eqP (hu : X.A.units + 64 < cLine) : OpR X (compareOp .Eq) (rEqP X.K) := by
  intro pins s σ H x y v u Q I rx ry h
  obtain ⟨d, e, hd, he, pd, pe, sd, se, q⟩ := h
  obtain ⟨as, r1⟩ := Dp.reads I d x v hd rx
  obtain ⟨bs, r2⟩ := Dp.reads I e y u he ry
  exact SeqAt.eq_plain r1 r2 pd pe (by omega) ⟨.bl _, H, I, rfl, q⟩
theorem op_neP (hu : X.A.units + 64 < cLine) : OpR X (compareOp .NotEq) (rNeP X.K) := by
  intro pins s σ H x y v u Q I rx ry h
  obtain ⟨d, e, hd, he, pd, pe, sd, se, q⟩ := h
  obtain ⟨as, r1⟩ := Dp.reads I d x v hd rx
  obtain ⟨bs, r2⟩ := Dp.reads I e y u he ry
  exact SeqAt.ne_plain r1 r2 pd pe (by omega) ⟨.bl _, H, I, rfl, q⟩
theorem o_eq (hu : X.A.units + 64 < cLine) : OpD X c W (compareOp .Eq) gEqD := by
  refine opD_of (op_eqP hu) fun σ H x y Q F j dx dy gd r1 r2 q => ?_
  unfold gEqD at q
  split at q
  · rename_i b e
    obtain ⟨p, p', e1, e2, h1, h2, rfl⟩ := eqDat_ok e
    exact ⟨p, p', r1.dp gd.sub e1, r2.dp gd.sub e2, D.py_plain e1, D.py_plain e2, h1, h2, q.val gd (.bl _)⟩
  · exact q.elim
theorem o_ne (hu : X.A.units + 64 < cLine) : OpD X c W (compareOp .NotEq) gNeD := by
  refine opD_of (op_neP hu) fun σ H x y Q F j dx dy gd r1 r2 q => ?_
  unfold gNeD at q
  split at q
  · rename_i b e
    obtain ⟨p, p', e1, e2, h1, h2, rfl⟩ := eqDat_ok e
    exact ⟨p, p', r1.dp gd.sub e1, r2.dp gd.sub e2, D.py_plain e1, D.py_plain e2, h1, h2, q.val gd (.bl _)⟩
  · exact q.elim
end
end DL
namespace DL
open PySem PySem.Spec L2
open PyProof.Rows
section
variable {X : Cx} {c : Ct} {W : WX} {a b e : Expr} {ma mb mc : Gm → T RV} {ta tb : Gm → T Bool} {pos : Pos} {rest : List Expr}
/-! ### tests -/
structure DW (X : Cx) (c : Ct) (W : WX) (e : Expr) (m : Gm → T Bool) : Prop where
  pw : PW X e (tT c X.K W m)
theorem dt_of (h : DW X c W e ta) : DT X c W e ta := ⟨h.pw.pt⟩
/-- a value that is True or False -/
def asB (x : RV) : T Bool := match x.d with
  | .bl k => .ok k
  | _ => .stuck
def mB (m : Gm → T RV) : Gm → T Bool := fun γ => (m γ).bind asB
theorem RDat.asB {F H : Hp} {v : V} {x : RV} {P : Nat → Bool → Prop} {E : Nat → Xc → Prop} {j : Nat} (r : RDat c X.K F H v x) (h : (asB x).All j P E) : ∃ k, v = .bl k ∧ P j k := by
  unfold DL.asB at h
  split at h
  · rename_i k e
    exact ⟨k, r.bl e, h⟩
  · exact h.elim
/-- the truth of any data -/
def D.tru : D → Option Bool
  | .non => some false
  | .bl b => some b
  | .int i => some (i != 0)
  | .str x => if x.length ≤ 1000000 then some ((x.length : Int) != 0) else none
  | .lst xs => some (!xs.isEmpty)
  | .tup xs => some (!xs.isEmpty)
  | _ => none
def asTru (x : RV) : T Bool := match x.d.tru with
  | some b => .ok b
  | none => .stuck
theorem Dats.isEmpty {K : PySem.W.Frag} {F : Hp} {vs : List V} {ds : List D} (h : Dats c K F vs ds) : (!vs.isEmpty) = (!ds.isEmpty) := by cases h <;> rfl
theorem DatK.isEmpty {K : PySem.W.Frag} {F : Hp} {vs : List (Key × V)} {ds : List (Key × D)} (h : DatK c K F vs ds) : (!vs.isEmpty) = (!ds.isEmpty) := by cases h <;> rfl
def mTru (m : Gm → T RV) : Gm → T Bool := fun γ => (m γ).bind asTru
theorem RDat.tru {F H : Hp} {v : V} {x : RV} {k : Bool} (g : ∀ a o, F a = some o → H a = some o) (r : RDat c X.K F H v x) (h : x.d.tru = some k) : TruV X.K v H k := by
  cases x with
  | brw ds =>
    obtain ⟨a, vs, rfl, _, h1, h2⟩ := r
    cases h
    exact .inl ⟨vs, SqL.of h1, h2.isEmpty.symm⟩
  | bob n gs => cases h
  | bdc z =>
    obtain ⟨a, u, rfl, _, h1, h2⟩ := r
    cases z <;> cases h
  | val d =>
    cases r with
    | non => cases h; rfl
    | bl => cases h; rfl
    | int => cases h; rfl
    | str x =>
      simp only [RV.d, D.tru] at h
      split at h
      · rename_i hl
        cases h
        exact ⟨line_of hl, rfl⟩
      · cases h
    | lst h1 h2 =>
      cases h
      exact .inl ⟨_, SqL.of (g _ _ h1), h2.isEmpty.symm⟩
    | tup h1 h2 =>
      cases h
      exact .inr (.inl ⟨_, SqT.mono h1 g, h2.isEmpty.symm⟩)
    | ins => cases h
    | exn => cases h
    | exn0 => cases h
    | dct => cases h
    | dtt => cases h
    | cls => cases h
    | ty => cases h
    | pen => cases h
    | adr => cases h
theorem dt_tru (h : DE X c W e ma) (he : ∀ whole, isTrue e X.env whole = (do let v ← whole; standAt e.pos; holding [v] (truthy v)) := by intro _; rfl) : DT X c W e (mTru ma) := by
  refine ⟨(pt_truth h.pe he).imp fun σ H Q ⟨F, γ, j, g, en, k⟩ => ?_⟩
  refine tE.seq g en k fun j' x F' H' v e' g' en' r h' => ?_
  unfold asTru at h'
  split at h'
  · rename_i b eb
    exact ⟨b, r.tru g'.sub eb, h' F' H' e' g'⟩
  · exact h'.elim
/-- a comparison as a test -/
theorem dt_cmp {op : CmpOp} {g : RV → RV → T RV} (ho : OpD X c W (compareOp op) g) (ha : DE X c W a ma) (hb : DE X c W b mb) (hm : behindInMarks op b = false := by first | exact nomark _ | rfl) : DT X c W (.Compare a [op] [b] pos) (mB (mBin g ma mb)) := by
  refine ⟨⟨fun pins s σ H Q I ⟨F, γ, j, gd, en, h⟩ => ?_⟩⟩
  have h : ((ma γ).bind fun x => (mb γ).bind fun y => (g x y).bind asB).All j (pT c F H Q) (pX c X.K W F H σ) := by
    unfold mB mBin at h
    rw [T.bind_assoc] at h
    have e : (fun a => T.bind ((mb γ).bind fun y => g a y) asB) = fun x => (mb γ).bind fun y => (g x y).bind asB := funext fun x => T.bind_assoc _ _ _
    rw [e] at h
    exact h
  refine wpAny_isTrue_Compare1 (binT ha.pe hb.pe I (R := fun x y H2 => ∃ F j dx dy, Good c F H2 j ∧ RDat c X.K F H2 x dx ∧ RDat c X.K F H2 y dy ∧ ((g dx dy).bind asB).All j (pT c F H2 Q) (pX c X.K W F H2 σ))
    (two gd en h fun j' dx dy F' H' x y e g' en' r1 r2 q => ⟨F', j', dx, dy, g', r1, r2, q.imp (fun _ _ z F2 H2 e2 g2 => z F2 H2 (e.trans e2) g2) fun _ _ z => z⟩) fun v u s2 x y H2 I2 rx ry ⟨F2, j2, dx, dy, g2, r1, r2, q⟩ => ?_) hm
  refine thn (ho pins s2 σ H2 x y v u (fun z H3 => ∃ k, z = .bl k ∧ Q k H3) F2 j2 dx dy I2 rx ry g2 r1 r2 ((T.All.bind q).imp (fun j3 z hz F3 H3 v3 e3 g3 r3 => ?_) fun _ _ z => z)) fun cv s3 ⟨z, H3, I3, r3, k, ez, q3⟩ => ?_
  · obtain ⟨k, e1, q'⟩ := r3.asB hz
    exact ⟨k, e1, q' F3 H3 e3 g3⟩
  · subst ez
    cases r3
    exact wpAny_truthy_bool ⟨H3, I3, q3⟩
def tAndM (ta tb : Gm → T Bool) : Gm → T Bool := fun γ => (ta γ).bind fun k => if k = true then tb γ else .ok false
def tOrM (ta tb : Gm → T Bool) : Gm → T Bool := fun γ => (ta γ).bind fun k => if k = true then .ok true else tb γ
def tNotM (ta : Gm → T Bool) : Gm → T Bool := fun γ => (ta γ).bind fun k => .ok (!k)
theorem pT.ext {F F' H H' : Hp} {Q : Bool → Hp → Prop} {j : Nat} {x : Bool} (h : pT c F H Q j x) (e : Ext c F H F' H') : pT c F' H' Q j x := fun F2 H2 e2 g => h F2 H2 (e.trans e2) g
theorem dw_and1 (ha : DT X c W a ta) : DW X c W (.BoolOp .And [a] pos) ta := ⟨pw_and1 ha.pt⟩
theorem dw_or1 (ha : DT X c W a ta) : DW X c W (.BoolOp .Or [a] pos) ta := ⟨pw_or1 ha.pt⟩
theorem _root_.L2.PW.imp {t t' : TT} (h : PW X e t) (i : ∀ σ H Q, t' σ H Q → t σ H Q) : PW X e t' := ⟨fun w pins s σ H Q I q => h.run w pins s σ H Q I (i σ H Q q)⟩
theorem dw_and (ha : DT X c W a ta) (hb : DW X c W (.BoolOp .And (b :: rest) pos) tb) : DW X c W (.BoolOp .And (a :: b :: rest) pos) (tAndM ta tb) := by
  refine ⟨(pw_and ha.pt hb.pw).imp fun σ H Q ⟨F, γ, j, g, en, h⟩ => ?_⟩
  refine tT.seq g en h fun j' k F' H' e' g' en' h' => ?_
  cases k with
  | false => exact iteF (h' F' H' e' g')
  | true => exact iteT ⟨F', γ, j', g', en', T.All.imp h' (fun _ _ z => z.ext e') fun _ _ z => z.ext e'⟩
theorem dw_or (ha : DT X c W a ta) (hb : DW X c W (.BoolOp .Or (b :: rest) pos) tb) : DW X c W (.BoolOp .Or (a :: b :: rest) pos) (tOrM ta tb) := by
  refine ⟨(pw_or ha.pt hb.pw).imp fun σ H Q ⟨F, γ, j, g, en, h⟩ => ?_⟩
  refine tT.seq g en h fun j' k F' H' e' g' en' h' => ?_
  cases k with
  | true => exact iteT (h' F' H' e' g')
  | false => exact iteF ⟨F', γ, j', g', en', T.All.imp h' (fun _ _ z => z.ext e') fun _ _ z => z.ext e'⟩
theorem dt_and (ha : DT X c W a ta) (hb : DW X c W (.BoolOp .And (b :: rest) pos) tb) : DT X c W (.BoolOp .And (a :: b :: rest) pos) (tAndM ta tb) := dt_of (dw_and ha hb)
theorem dt_or (ha : DT X c W a ta) (hb : DW X c W (.BoolOp .Or (b :: rest) pos) tb) : DT X c W (.BoolOp .Or (a :: b :: rest) pos) (tOrM ta tb) := dt_of (dw_or ha hb)
theorem dt_not (ha : DT X c W a ta) : DT X c W (.UnaryOp .Not a pos) (tNotM ta) := by
  refine ⟨(pt_not ha.pt).imp fun σ H Q ⟨F, γ, j, g, en, h⟩ => ?_⟩
  exact tT.seq g en h fun j' k F' H' e' g' en' h' => h' F' H' e' g'
/-! ### and, or, not, if as values -/
def mAndV (ma mb : Gm → T RV) : Gm → T RV := fun γ => (ma γ).bind fun x => (asB x).bind fun k => if k = true then mb γ else okV (.bl false)
def mOrV (ma mb : Gm → T RV) : Gm → T RV := fun γ => (ma γ).bind fun x => (asB x).bind fun k => if k = true then okV (.bl true) else mb γ
def mNotV (ma : Gm → T RV) : Gm → T RV := fun γ => (ma γ).bind fun x => (asB x).bind fun k => okV (.bl (!k))
theorem de_one {op} (h : DE X c W a ma) : DE X c W (.BoolOp op [a] pos) ma := ⟨pe_one h.pe⟩
theorem de_and (ha : DE X c W a ma) (hb : DE X c W (.BoolOp .And (b :: rest) pos) mb) : DE X c W (.BoolOp .And (a :: b :: rest) pos) (mAndV ma mb) := by
  refine ⟨(pe_and ha.pe hb.pe).imp fun σ H Q ⟨F, γ, j, g, en, h⟩ => ?_⟩
  refine tE.seq g en h fun j' x F' H' v e' g' en' r h' => ?_
  obtain ⟨k, e1, q⟩ := r.asB (T.All.bind h')
  refine ⟨k, e1, ?_⟩
  cases k with
  | true => exact iteT ⟨F', γ, j', g', en', T.All.imp q (fun _ _ z => z.ext e') fun _ _ z => z.ext e'⟩
  | false => exact iteF (q F' H' _ e' g' (show Dat c X.K F' _ _ from .bl false))
theorem de_not (ha : DE X c W a ma) : DE X c W (.UnaryOp .Not a pos) (mNotV ma) := by
  refine ⟨(pe_not ha.pe).imp fun σ H Q ⟨F, γ, j, g, en, h⟩ => ?_⟩
  refine tE.seq g en h fun j' x F' H' v e' g' en' r h' => ?_
  obtain ⟨k, e1, q⟩ := r.asB (T.All.bind h')
  exact ⟨k, e1, q F' H' _ e' g' (show Dat c X.K F' _ _ from .bl _)⟩
def mIf (tc : Gm → T Bool) (ma mb : Gm → T RV) : Gm → T RV := fun γ => (tc γ).bind fun k => if k = true then ma γ else mb γ
theorem de_if {t : Expr} (ht : DT X c W t ta) (ha : DE X c W a ma) (hb : DE X c W b mb) : DE X c W (.IfExp t a b pos) (mIf ta ma mb) := by
  refine ⟨(pe_ifExp ht.pt ha.pe hb.pe).imp fun σ H Q ⟨F, γ, j, g, en, h⟩ => ?_⟩
  refine tT.seq g en h fun j' k F' H' e' g' en' h' => ?_
  cases k with
  | true => exact iteT ⟨F', γ, j', g', en', T.All.imp h' (fun _ _ z => z.ext e') fun _ _ z => z.ext e'⟩
  | false => exact iteF ⟨F', γ, j', g', en', T.All.imp h' (fun _ _ z => z.ext e') fun _ _ z => z.ext e'⟩
def gNeg (x : RV) : T RV := match x.d with
  | .int i => okV (.int (-i))
  | _ => .stuck
def mUn (g : RV → T RV) (ma : Gm → T RV) : Gm → T RV := fun γ => (ma γ).bind g
/-- a op1 b op2 d -/
def mChain (g g' : RV → RV → T RV) (ma mb mc : Gm → T RV) : Gm → T RV := fun γ => (ma γ).bind fun x => (mb γ).bind fun y => (g x y).bind fun z => (asB z).bind fun k => if k = true then (mc γ).bind fun w => g' y w else okV (.bl false)
theorem de_chain {d : Expr} {op op' : CmpOp} {g g' : RV → RV → T RV} (ho : OpD X c W (compareOp op) g) (ho' : OpD X c W (compareOp op') g') (ha : DE X c W a ma) (hb : DE X c W b mb) (hc : DE X c W d mc)
    (hm : lastMarks [op, op'] [b, d] = false := by with_unfolding_all rfl) : DE X c W (.Compare a [op, op'] [b, d] pos) (mChain g g' ma mb mc) := by
  refine ⟨⟨fun pins s σ H Q I ⟨F, γ, j, gd, en, h⟩ => ?_⟩⟩
  have hh := tE.seq (Q := fun x H1 => ∃ F1 j1 dx, Ext c F H F1 H1 ∧ Good c F1 H1 j1 ∧ EnvOk c X.K F1 H1 σ γ ∧ RDat c X.K F1 H1 x dx ∧ ((mb γ).bind fun y => (g dx y).bind fun z => (asB z).bind fun k => if k = true then (mc γ).bind fun w => g' y w else okV (.bl false)).All j1 (pE c X.K F H Q) (pX c X.K W F H σ)) gd en h
    fun j1 dx F1 H1 x e1 g1 en1 r1 h1 => ⟨F1, j1, dx, e1, g1, en1, r1, h1⟩
  refine Compare_chain (thn (ha.pe.run pins s σ H _ I hh) fun v s1 ⟨x, H1, I1, r1, F1, j1, dx, e1, g1, en1, rd1, h1⟩ => ?_) hm
  have hh1 := tE.seq (Q := fun y H2 => ∃ F2 j2 dy, Ext c F1 H1 F2 H2 ∧ Good c F2 H2 j2 ∧ EnvOk c X.K F2 H2 σ γ ∧ RDat c X.K F2 H2 y dy ∧ ((g dx dy).bind fun z => (asB z).bind fun k => if k = true then (mc γ).bind fun w => g' dy w else okV (.bl false)).All j2 (pE c X.K F H Q) (pX c X.K W F1 H1 σ)) g1 en1 (h1.imp (fun _ _ z => z) fun _ _ z => z.ext e1)
    fun j2 dy F2 H2 y e2 g2 en2 r2 h2 => ⟨F2, j2, dy, e2, g2, en2, r2, h2⟩
  refine chain_link (thn (hb.pe.run pins s1 σ H1 _ I1 hh1) fun u s2 ⟨y, H2, I2, r2, F2, j2, dy, e2, g2, en2, rd2, h2⟩ => ?_)
  refine thn (ho pins s2 σ H2 x y v u (fun z H3 => ∃ F3 j3 k, z = .bl k ∧ Ext c F2 H2 F3 H3 ∧ Good c F3 H3 j3 ∧ EnvOk c X.K F3 H3 σ γ ∧ RDat c X.K F3 H3 y dy ∧ (if k = true then (mc γ).bind fun w => g' dy w else okV (.bl false)).All j3 (pE c X.K F H Q) (pX c X.K W F2 H2 σ)) F2 j2 dx dy I2 r1 r2 g2 (rd1.ext e2) rd2
    ((T.All.bind h2).imp (fun j3 z hz F3 H3 v3 e3 g3 r3 => ?_) fun _ _ z => z.ext e2)) fun dv s3 ⟨z, H3, I3, r3, F3, j3, k, ez, e3, g3, en3, rd3, h3⟩ => ?_
  · obtain ⟨k, e1, q⟩ := r3.asB (T.All.bind hz)
    exact ⟨F3, j3, k, e1, e3, g3, en2.ext e3, rd2.ext e3, q.imp (fun _ _ z => z) fun _ _ z => z.ext e2⟩
  · subst ez
    cases r3
    refine wpAny_truthy_bool ?_
    cases k with
    | false => exact ite_ff ⟨.bl false, H3, I3, rfl, h3 F3 H3 _ (e1.trans (e2.trans e3)) g3 (show Dat c X.K F3 _ _ from .bl false)⟩
    | true =>
      have hh3 := tE.seq (Q := fun w H4 => ∃ F4 j4 dw, Ext c F3 H3 F4 H4 ∧ Good c F4 H4 j4 ∧ RDat c X.K F4 H4 w dw ∧ (g' dy dw).All j4 (pE c X.K F H Q) (pX c X.K W F3 H3 σ)) g3 en3 (T.All.imp h3 (fun _ _ z => z) fun _ _ z => z.ext e3)
        fun j4 dw F4 H4 w e4 g4 en4 r4 h4 => ⟨F4, j4, dw, e4, g4, r4, h4⟩
      refine ite_tt (chain_last (thn (hc.pe.run pins s3 σ H3 _ I3 hh3) fun w' s4 ⟨z', H4, I4, r4, F4, j4, dw, e4, g4, rd4, h4⟩ => ?_))
      exact ho' pins s4 σ H4 y z' u w' Q F4 j4 dy dw I4 r2 r4 g4 (rd3.ext e4) rd4 (h4.imp (fun _ _ z => z.ext (e1.trans (e2.trans (e3.trans e4)))) fun _ _ z => z.ext e4)
end
end DL
namespace DL
open PySem PySem.Spec L2
open PyProof.Rows
section
variable {X : Cx} {c : Ct} {W : WX} {a b e : Expr} {es : List Expr} {ma mb mc m : Gm → T RV} {ms : Gm → T (List D)} {pos : Pos} {rest : List Expr}
/-! ### arguments: values that may be kept -/
def asD (x : RV) : T D := match x with
  | .val d => .ok d
  | _ => .stuck
theorem RDat.asD {F H : Hp} {v : V} {x : RV} {P : Nat → D → Prop} {E : Nat → Xc → Prop} {j : Nat} (r : RDat c X.K F H v x) (h : (asD x).All j P E) : ∃ d, x = .val d ∧ Dat c X.K F v d ∧ P j d := by
  cases x with
  | val d => exact ⟨d, rfl, r, h⟩
  | brw ds => exact False.elim h
  | bob n gs => exact False.elim h
  | bdc z => exact False.elim h
def aNil : Gm → T (List D) := fun _ => .ok []
def aCons (m : Gm → T RV) (ms : Gm → T (List D)) : Gm → T (List D) := fun γ => (m γ).bind fun x => (asD x).bind fun d => (ms γ).bind fun ds => .ok (d :: ds)
theorem pA.ext {K : PySem.W.Frag} {F F' H H' : Hp} {Q : List V → Hp → Prop} {j : Nat} {x : List D} (h : pA c K F H Q j x) (e : Ext c F H F' H') : pA c K F' H' Q j x := fun F2 H2 vs e2 g r => h F2 H2 vs (e.trans e2) g r
theorem da_nil : DA X c W [] aNil := ⟨pa_nil.imp fun σ H Q ⟨F, γ, j, g, en, h⟩ => h F H [] .refl g .nil⟩
theorem da_cons (ha : DE X c W e m) (hr : DA X c W es ms) (hs : starEach (e :: es) X.env = (false, eval e X.env) :: starEach es X.env := by rfl) : DA X c W (e :: es) (aCons m ms) := by
  refine ⟨(pa_cons ha.pe hr.pa hs).imp fun σ H Q ⟨F, γ, j, g, en, h⟩ => ?_⟩
  refine tE.seq g en h fun j1 x F1 H1 v e1 g1 en1 r1 h1 => ?_
  obtain ⟨d, rfl, hd, h2⟩ := r1.asD (T.All.bind h1)
  refine tA.seq g1 en1 (T.All.imp h2 (fun _ _ z => z) fun _ _ z => z.ext e1) fun j2 ds F2 H2 vs e2 g2 en2 r2 h3 => ?_
  exact h3 F2 H2 _ (e1.trans e2) g2 (.cons (hd.mono e2.up) r2)
/-- *e -/
def seqOf (x : RV) : T (List D) := match x.d with
  | .lst ds => .ok ds
  | .tup ds => .ok ds
  | _ => .stuck
theorem RDat.seq {F H : Hp} {v : V} {x : RV} {P : Nat → List D → Prop} {E : Nat → Xc → Prop} {j : Nat} (g : ∀ a o, F a = some o → H a = some o) (r : RDat c X.K F H v x) (h : (seqOf x).All j P E) : ∃ a vs ds, v = .ref a ∧ (SqT X.K H a vs ∨ SqL X.K H a vs) ∧ Dats c X.K F vs ds ∧ P j ds := by
  unfold seqOf at h
  split at h
  · rename_i ds e
    obtain ⟨a, vs, rfl, h1, h2⟩ := r.lst g e
    exact ⟨a, vs, ds, rfl, .inr (SqL.of h1), h2, h⟩
  · rename_i ds e
    obtain ⟨a, vs, rfl, h1, _, h2⟩ := r.tup g e
    exact ⟨a, vs, ds, rfl, .inl h1, h2, h⟩
  · exact h.elim
def aStar (m : Gm → T RV) (ms : Gm → T (List D)) : Gm → T (List D) := fun γ => (m γ).bind fun x => (seqOf x).bind fun d => (ms γ).bind fun ds => .ok (d ++ ds)
theorem da_star {p : Pos} (ha : DE X c W e m) (hr : DA X c W es ms) (hs : starEach (.Starred e p :: es) X.env = (true, eval e X.env) :: starEach es X.env := by rfl) : DA X c W (.Starred e p :: es) (aStar m ms) := by
  refine ⟨(StX.pa_star ha.pe hr.pa hs).imp fun σ H Q ⟨F, γ, j, g, en, h⟩ => ?_⟩
  refine tE.seq g en h fun j1 x F1 H1 v e1 g1 en1 r1 h1 => ?_
  obtain ⟨a, vs, ds, rfl, hq, hd, h2⟩ := r1.seq g1.sub (T.All.bind h1)
  refine ⟨a, vs, rfl, hq, ?_⟩
  refine tA.seq g1 en1 (T.All.imp h2 (fun _ _ z => z) fun _ _ z => z.ext e1) fun j2 es F2 H2 ws e2 g2 en2 r2 h3 => ?_
  exact h3 F2 H2 _ (e1.trans e2) g2 ((hd.mono e2.up).append r2)
/-! ### displays -/
def mLst (ms : Gm → T (List D)) : Gm → T RV := fun γ => (ms γ).bind fun ds => if ds.length ≤ 1000000 then okV (.lst ds) else .stuck
def mTup (ms : Gm → T (List D)) : Gm → T RV := fun γ => (ms γ).bind fun ds => if ds.length ≤ 1000000 then okV (.tup ds) else .stuck
theorem de_lst (h : DA X c W es ms) : DE X c W (.List es pos) (mLst ms) := by
  refine ⟨(pe_lst h.pa).imp fun σ H Q ⟨F, γ, j, g, en, h⟩ => ?_⟩
  refine tA.seq g en h fun j1 ds F1 H1 vs e1 g1 en1 r1 h1 => ?_
  split at h1
  · rename_i hl
    exact ⟨line_of (by rw [r1.length]; exact hl), (pE.ext h1 e1).lst g1 r1⟩
  · exact h1.elim
theorem de_tup {k} (h : DA X c W es ms) : DE X c W (.Tuple es k pos) (mTup ms) := by
  refine ⟨(pe_tup h.pa).imp fun σ H Q ⟨F, γ, j, g, en, h⟩ => ?_⟩
  refine tA.seq g en h fun j1 ds F1 H1 vs e1 g1 en1 r1 h1 => ?_
  split at h1
  · rename_i hl
    exact ⟨line_of (by rw [r1.length]; exact hl), (pE.ext h1 e1).tup g1 r1⟩
  · exact h1.elim
/-! ### fields -/
def D.fld (cs : List Nat) (f : Str) : D → Option D
  | .ins n gs => if cs.contains n then gs.lookup f else none
  | _ => none
def gFld (cs : List Nat) (f : Str) (x : RV) : T RV := match x.d.fld cs f with
  | some d => okV d
  | none => .stuck
/-- the classes cs have the plain field f -/
def FldOk (K : PySem.W.Frag) (c : Ct) (cs : List Nat) (f : Str) : Prop := ∀ n ∈ cs, Cls K (c.cA n) ∧ NoAttr K (c.cA n) f
theorem fld_ok {F H : Hp} {v : V} {x : RV} {cs : List Nat} {f : Str} {d : D} (g : ∀ a o, F a = some o → H a = some o) (r : RDat c X.K F H v x) (h : x.d.fld cs f = some d) : ∃ n a dx fs, n ∈ cs ∧ v = .ref a ∧ H a = some (.ins (c.cA n) dx fs) ∧ ∃ w, fs.lookup f = some w ∧ Dat c X.K F w d := by
  cases x with
  | brw ds => cases h
  | bdc z => cases z <;> cases h
  | bob n gs =>
    obtain ⟨a, dx, fs, rfl, _, h1, h2⟩ := r
    simp only [RV.d, D.fld] at h
    split at h
    · rename_i hc
      obtain ⟨w, h3, h4⟩ := h2.look h
      exact ⟨_, _, _, _, List.contains_iff_mem.mp hc, rfl, h1, w, h3, h4⟩
    · cases h
  | val d' =>
    cases r with
    | ins h1 h2 =>
      simp only [RV.d, D.fld] at h
      split at h
      · rename_i hc
        obtain ⟨w, h3, h4⟩ := h2.look h
        exact ⟨_, _, _, _, List.contains_iff_mem.mp hc, rfl, g _ _ h1, w, h3, h4⟩
      · cases h
    | _ => cases h
theorem de_fld {f : Str} {cs : List Nat} (hf : FldOk X.K c cs f) (ha : DE X c W e m) (hb : attributeBase e f X.env (eval e X.env) = eval e X.env := by rfl) : DE X c W (.Attribute e f pos) (mUn (gFld cs f) m) := by
  refine ⟨(pe_fld ha.pe hb).imp fun σ H Q ⟨F, γ, j, g, en, h⟩ => ?_⟩
  refine tE.seq g en h fun j1 x F1 H1 v e1 g1 en1 r1 h1 => ?_
  unfold gFld at h1
  split at h1
  · rename_i d ed
    obtain ⟨n, a, dx, fs, hn, rfl, h2, w, h3, h4⟩ := fld_ok g1.sub r1 ed
    exact ⟨a, _, dx, fs, w, rfl, h2, (hf n hn).1, (hf n hn).2, h3, h1 F1 H1 w e1 g1 h4⟩
  · exact h1.elim
/-! ### subscripts -/
def gIx (x y : RV) : T RV := match x.d, y.d with
  | .lst ds, .int i => (match atI ds i with | some d => okV d | none => .stuck)
  | .tup ds, .int i => (match atI ds i with | some d => okV d | none => .stuck)
  | .str z, .int i => if z.length ≤ 1000000 then (match atI z.cps.toList i with | some ch => okV (.str ⟨#[ch]⟩) | none => .stuck) else .stuck
  | _, _ => .stuck
theorem Dats.atI {K : PySem.W.Frag} {F : Hp} {vs : List V} {ds : List D} {i : Int} {d : D} (h : Dats c K F vs ds) (e : L2.atI ds i = some d) : ∃ v, L2.atI vs i = some v ∧ Dat c K F v d := by
  unfold L2.atI at e ⊢
  rw [← h.length] at e
  cases q : ixN vs.length i with
  | none => rw [q] at e; cases e
  | some k =>
    rw [q] at e
    exact h.get (i := k) e
theorem de_ix (ha : DE X c W a ma) (hb : DE X c W b mb) (hs : PlainIx b := by exact fun _ _ => rfl) : DE X c W (.Subscript a b pos) (mBin gIx ma mb) := by
  refine ⟨(pe_ix ix_seq ha.pe hb.pe hs).imp fun σ H Q ⟨F, γ, j, g, en, h⟩ => ?_⟩
  refine two g en h fun j' dx dy F' H' x y e g' en' r1 r2 q => ?_
  unfold gIx at q
  split at q
  · rename_i ds i e1 e2
    split at q
    · rename_i d ed
      obtain ⟨p, vs, rfl, h1, h2⟩ := r1.lst g'.sub e1
      obtain ⟨v, h3, h4⟩ := h2.atI ed
      exact .inl ⟨p, vs, i, v, rfl, r2.int e2, SqL.of h1, h3, q F' H' v e g' h4⟩
    · exact q.elim
  · rename_i ds i e1 e2
    split at q
    · rename_i d ed
      obtain ⟨p, vs, rfl, h1, _, h2⟩ := r1.tup g'.sub e1
      obtain ⟨v, h3, h4⟩ := h2.atI ed
      exact .inr (.inl ⟨p, vs, i, v, rfl, r2.int e2, h1, h3, q F' H' v e g' h4⟩)
    · exact q.elim
  · rename_i z i e1 e2
    split at q
    · rename_i hl
      split at q
      · rename_i ch ed
        exact .inr (.inr ⟨z, i, ch, r1.str e1, r2.int e2, line_of hl, ed, q F' H' _ e g' (show Dat c X.K F' _ _ from .str _)⟩)
      · exact q.elim
    · exact q.elim
  · exact q.elim
end
end DL
namespace DL
open PySem PySem.Spec L2
open PyProof.Rows
/-- how a statement ends -/
inductive Fl where
  | nx (γ : Gm) | rt (d : D) | bk (γ : Gm) | ct (γ : Gm)
/-- the object that is being made -/
def ObjAt (σ : L2.St) (γ : Gm) (a : Addr) : Prop := ∃ (i n : Nat) (gs : List (Str × D)), γ[i]? = some (.obj n gs) ∧ σ[i]? = some (some (.ref a))
/-- a frame's state: it was entered at F0, H0; ob is the object that is being made -/
structure SOk (c : Ct) (K : PySem.W.Frag) (ob : Addr) (F0 H0 : Hp) (σ : L2.St) (H : Hp) (γ : Gm) (F : Hp) (j : Nat) : Prop where
  gd : Good c F H j
  ext : Ext c F0 H0 F H
  env : EnvOk c K F H σ γ
  own : ∀ a, OwnAt σ γ a → H0 a = none
  obj : ∀ a, ObjAt σ γ a → a = ob
def pS (c : Ct) (K : PySem.W.Frag) (ob : Addr) (F0 H0 : Hp) (D : Ends) : Nat → Fl → Prop
  | j, .nx γ => ∀ σ F H, SOk c K ob F0 H0 σ H γ F j → D.nx σ H
  | j, .bk γ => ∀ σ F H, SOk c K ob F0 H0 σ H γ F j → D.bk σ H
  | j, .ct γ => ∀ σ F H, SOk c K ob F0 H0 σ H γ F j → D.ct σ H
  | j, .rt d => ∀ F H v, Ext c F0 H0 F H → Good c F H j → Dat c K F v d → D.rt v H
def pSX (c : Ct) (K : PySem.W.Frag) (W : WX) (F0 H0 : Hp) : Nat → Xc → Prop := fun j e => ∀ F H d σ, Ext c F0 H0 F H → Good c F H j → XdOk c K H0 F H d e → W (.ref (c.cA e.c)) (some d) σ H
def tS (c : Ct) (K : PySem.W.Frag) (W : WX) (m : Gm → T Fl) : TS := fun D σ H => ∃ ob F0 H0 F γ j, SOk c K ob F0 H0 σ H γ F j ∧ (m γ).All j (pS c K ob F0 H0 D) (pSX c K W F0 H0)
structure DS (X : Cx) (c : Ct) (W : WX) (st : Stmt) (m : Gm → T Fl) : Prop where
  ps : PS X st (tS c X.K W m)
structure DSs (X : Cx) (c : Ct) (W : WX) (st : List Stmt) (m : Gm → T Fl) : Prop where
  ps : PSs X st (tS c X.K W m)
section
variable {X : Cx} {c : Ct} {W : WX} {K : PySem.W.Frag} {ob : Addr} {F0 H0 F F' H H' : Hp} {σ : L2.St} {γ : Gm} {j : Nat} {st : Stmt} {sts rest : List Stmt} {e : Expr} {pos : Pos} {m1 m2 : Gm → T Fl} {m : Gm → T RV} {tc : Gm → T Bool}
theorem SOk.step {j' : Nat} (s : SOk c K ob F0 H0 σ H γ F j) (e : Ext c F H F' H') (g : Good c F' H' j') : SOk c K ob F0 H0 σ H' γ F' j' := ⟨g, s.ext.trans e, s.env.ext e, s.own, s.obj⟩
theorem pSX.px {x : Xc} (h : pSX c K W F0 H0 j x) (s : Ext c F0 H0 F H) : pX c K W F H σ j x := fun F' H' d e g q => h F' H' d σ (s.trans e) g (q.low s)
/-- an expression within a statement -/
theorem SOk.seq {α : Type} {f : RV → T α} {P : Nat → α → Prop} {Q : VK} (s : SOk c K ob F0 H0 σ H γ F j) (h : ((m γ).bind f).All j P (pSX c K W F0 H0))
    (k : ∀ j' x F' H' v, SOk c K ob F0 H0 σ H' γ F' j' → Ext c F H F' H' → RDat c K F' H' v x → (f x).All j' P (pSX c K W F0 H0) → Q v H') : tE c K W m σ H Q :=
  ⟨F, γ, j, s.gd, s.env, (T.All.bind h).imp (fun j' x hx F' H' v e g r => k j' x F' H' v (s.step e g) e r hx) fun _ _ z => z.px s.ext⟩
theorem SOk.seqT {α : Type} {f : Bool → T α} {P : Nat → α → Prop} {Q : Bool → Hp → Prop} (s : SOk c K ob F0 H0 σ H γ F j) (h : ((tc γ).bind f).All j P (pSX c K W F0 H0))
    (k : ∀ j' x F' H', SOk c K ob F0 H0 σ H' γ F' j' → (f x).All j' P (pSX c K W F0 H0) → Q x H') : tT c K W tc σ H Q :=
  ⟨F, γ, j, s.gd, s.env, (T.All.bind h).imp (fun j' x hx F' H' e g => k j' x F' H' (s.step e g) hx) fun _ _ z => z.px s.ext⟩
/-! ### blocks -/
def mNx : Gm → T Fl := fun γ => .ok (.nx γ)
def mSeq (m1 m2 : Gm → T Fl) : Gm → T Fl := fun γ => (m1 γ).bind fun fl => match fl with
  | .nx γ' => m2 γ'
  | fl => .ok fl
theorem dss_nil : DSs X c W [] mNx := ⟨pss_nil.imp fun D σ H ⟨ob, F0, H0, F, γ, j, s, h⟩ => h σ F H s⟩
theorem dss_cons (h1 : DS X c W st m1) (h2 : DSs X c W rest m2) : DSs X c W (st :: rest) (mSeq m1 m2) := by
  refine ⟨(pss_cons h1.ps h2.ps).imp fun D σ H ⟨ob, F0, H0, F, γ, j, s, h⟩ => ⟨ob, F0, H0, F, γ, j, s, (T.All.bind h).imp (fun j' fl hf => ?_) fun _ _ z => z⟩⟩
  cases fl with
  | nx γ' => exact fun σ1 F1 H1 s1 => ⟨ob, F0, H0, F1, γ', j', s1, hf⟩
  | bk γ' => exact hf
  | ct γ' => exact hf
  | rt d => exact hf
theorem dss_one (h1 : DS X c W st m1) : DSs X c W [st] m1 := ⟨pss_one h1.ps⟩
def mCt : Gm → T Fl := fun γ => .ok (.ct γ)
theorem ds_continue : DS X c W (.Continue pos) mCt := ⟨ps_continue.imp fun D σ H ⟨ob, F0, H0, F, γ, j, s, h⟩ => h σ F H s⟩
def mDrop (m : Gm → T RV) : Gm → T Fl := fun γ => (m γ).bind fun _ => .ok (.nx γ)
theorem ds_expr (he : DE X c W e m) (hs : swapsWith e none pos.line X.env = pure false := by rfl) : DS X c W (.Expr e pos) (mDrop m) :=
  ⟨(ps_expr he.pe hs).imp fun D σ H ⟨ob, F0, H0, F, γ, j, s, h⟩ => s.seq h fun j' x F' H' v s' _ r h' => h' σ F' H' s'⟩
def mRet (m : Gm → T RV) : Gm → T Fl := fun γ => (m γ).bind fun x => (asD x).bind fun d => .ok (.rt d)
theorem ds_ret (he : DE X c W e m) : DS X c W (.Return (some e) pos) (mRet m) := by
  refine ⟨(ps_ret he.pe).imp fun D σ H ⟨ob, F0, H0, F, γ, j, s, h⟩ => s.seq h fun j' x F' H' v s' _ r h' => ?_⟩
  obtain ⟨d, rfl, hd, h2⟩ := r.asD (T.All.bind h')
  exact h2 F' H' v s'.ext s'.gd hd
def mRetN : Gm → T Fl := fun _ => .ok (.rt .non)
def mIfS (tc : Gm → T Bool) (m1 m2 : Gm → T Fl) : Gm → T Fl := fun γ => (tc γ).bind fun k => if k = true then m1 γ else m2 γ
theorem ds_if {t : Expr} {a b : List Stmt} (ht : DT X c W t tc) (ha : DSs X c W a m1) (hb : DSs X c W b m2) : DS X c W (.If t a b pos) (mIfS tc m1 m2) := by
  refine ⟨(ps_if ht.pt ha.ps hb.ps).imp fun D σ H ⟨ob, F0, H0, F, γ, j, s, h⟩ => s.seqT h fun j' k F' H' s' h' => ?_⟩
  cases k with
  | true => exact iteT ⟨ob, F0, H0, F', γ, j', s', h'⟩
  | false => exact iteF ⟨ob, F0, H0, F', γ, j', s', h'⟩
/-! ### slots -/
theorem get_set {α : Type} {l : List α} {i k : Nat} {x y : α} (h : (l.set i x)[k]? = some y) : (k = i ∧ y = x ∧ i < l.length) ∨ (k ≠ i ∧ l[k]? = some y) := by
  by_cases e : k = i
  · subst e
    by_cases hl : k < l.length
    · rw [List.getElem?_set_self hl] at h
      exact .inl ⟨rfl, (Option.some.inj h).symm, hl⟩
    · rw [List.getElem?_eq_none (by simpa using hl)] at h
      cases h
  · rw [List.getElem?_set_ne (Ne.symm e)] at h
    exact .inr ⟨e, h⟩
theorem set_ne {α : Type} {l : List α} {i k : Nat} {x y : α} (n : k ≠ i) (h : l[k]? = some y) : (l.set i x)[k]? = some y := by rw [List.getElem?_set_ne (Ne.symm n)]; exact h
/-- a slot gets a value -/
theorem EnvOk.setVal {i : Nat} {v : V} {d : D} (h : EnvOk c K F H σ γ) (r : Dat c K F v d) : EnvOk c K F H (σ.set i (some v)) (γ.set i (.val d)) := by
  refine ⟨by simp [h.len], fun k d' q => ?_, fun k ds q => ?_, fun k n gs q => ?_, fun k dz q => ?_, fun a b o u x q1 o1 q2 o2 z1 z2 => ?_⟩
  · rcases get_set q with ⟨rfl, e, hl⟩ | ⟨n, q⟩
    · cases e
      exact ⟨v, by rw [List.getElem?_set_self (by rw [h.len]; exact hl)], r⟩
    · obtain ⟨w, h1, h2⟩ := h.val k d' q
      exact ⟨w, set_ne n h1, h2⟩
  · rcases get_set q with ⟨rfl, e, hl⟩ | ⟨n, q⟩
    · cases e
    · obtain ⟨a, vs, h1, h2⟩ := h.own k ds q
      exact ⟨a, vs, set_ne n h1, h2⟩
  · rcases get_set q with ⟨rfl, e, hl⟩ | ⟨n', q⟩
    · cases e
    · obtain ⟨a, dx, fs, h1, h2⟩ := h.obj k n gs q
      exact ⟨a, dx, fs, set_ne n' h1, h2⟩
  · rcases get_set q with ⟨rfl, e, hl⟩ | ⟨n', q⟩
    · cases e
    · obtain ⟨a, u, h1, h2⟩ := h.dic k dz q
      exact ⟨a, u, set_ne n' h1, h2⟩
  · rcases get_set q1 with ⟨rfl, e, hl⟩ | ⟨n1, q1⟩
    · rw [e] at o1; cases o1
    · rcases get_set q2 with ⟨rfl, e, hl⟩ | ⟨n2, q2⟩
      · rw [e] at o2; cases o2
      · rw [List.getElem?_set_ne (Ne.symm n1)] at z1
        rw [List.getElem?_set_ne (Ne.symm n2)] at z2
        exact h.ne a b o u x q1 o1 q2 o2 z1 z2
theorem OwnAt.setVal {i : Nat} {v : V} {d : D} {a : Addr} (h : OwnAt (σ.set i (some v)) (γ.set i (.val d)) a) : OwnAt σ γ a := by
  obtain ⟨k, o, q, ho, z⟩ := h
  rcases get_set q with ⟨rfl, e, hl⟩ | ⟨n, q⟩
  · rw [e] at ho; cases ho
  · rw [List.getElem?_set_ne (Ne.symm n)] at z
    exact ⟨k, o, q, ho, z⟩
theorem ObjAt.setVal {i : Nat} {v : V} {d : D} {a : Addr} (h : ObjAt (σ.set i (some v)) (γ.set i (.val d)) a) : ObjAt σ γ a := by
  obtain ⟨k, n, gs, q, z⟩ := h
  rcases get_set q with ⟨rfl, e, hl⟩ | ⟨n', q⟩
  · cases e
  · rw [List.getElem?_set_ne (Ne.symm n')] at z
    exact ⟨k, n, gs, q, z⟩
theorem ObjAt.setOwn {i : Nat} {v : V} {ds : List D} {a : Addr} (h : ObjAt (σ.set i (some v)) (γ.set i (.own ds)) a) : ObjAt σ γ a := by
  obtain ⟨k, n, gs, q, z⟩ := h
  rcases get_set q with ⟨rfl, e, hl⟩ | ⟨n', q⟩
  · cases e
  · rw [List.getElem?_set_ne (Ne.symm n')] at z
    exact ⟨k, n, gs, q, z⟩
theorem SOk.setVal {i : Nat} {v : V} {d : D} (s : SOk c K ob F0 H0 σ H γ F j) (r : Dat c K F v d) : SOk c K ob F0 H0 (σ.set i (some v)) H (γ.set i (.val d)) F j := ⟨s.gd, s.ext, s.env.setVal r, fun a h => s.own a h.setVal, fun a h => s.obj a h.setVal⟩
def mSet (i : Nat) (m : Gm → T RV) : Gm → T Fl := fun γ => (m γ).bind fun x => (asD x).bind fun d => .ok (.nx (γ.set i (.val d)))
theorem ds_set (i : Nat) {x : Str} {pos' : Pos} (hN : X.N.Nodup) (he : DE X c W e m) (hi : X.N[i]? = some x := by rfl) (hx : Loc X.env.scope x := by first | exact Or.inl rfl | exact Or.inr rfl) (hs : swapsWith e (some (.Name x pos')) pos.line X.env = pure false := by rfl)
    (hf : X.fn x = true ∨ X.env.scope.names.lookup x = some .local := by first | exact .inl rfl | exact .inr rfl) : DS X c W (.Assign [.Name x pos'] e pos) (mSet i m) := by
  refine ⟨(ps_set hN hi hx he.pe hs hf).imp fun D σ H ⟨ob, F0, H0, F, γ, j, s, h⟩ => s.seq h fun j' y F' H' v s' _ r h' => ?_⟩
  obtain ⟨d, rfl, hd, h2⟩ := r.asD (T.All.bind h')
  exact h2 _ F' H' (s'.setVal hd)
/-! ### a list of one's own -/
/-- e gives a new list that nobody else has -/
def tF (c : Ct) (K : PySem.W.Frag) (W : WX) (m : Gm → T (List D)) : TE := fun σ H Q => ∃ F γ j, Good c F H j ∧ EnvOk c K F H σ γ ∧ (m γ).All j
  (fun j' ds => ∀ F' H' a vs, Ext c F H F' H' → Good c F' H' j' → H a = none → F' a = none → H' a = some (.lst vs) → Dats c K F' vs ds → Q (.ref a) H') (pX c K W F H σ)
structure DF (X : Cx) (c : Ct) (W : WX) (e : Expr) (m : Gm → T (List D)) : Prop where
  pe : PE X e (tF c X.K W m)
theorem Good.fresh {p : Addr} {o : HO} (g : Good c F H j) (hp : H p = none) : F p = none := by
  cases q : F p with
  | none => rfl
  | some u => rw [g.sub _ _ q] at hp; cases hp
theorem EnvOk.setOwn {i : Nat} {a : Addr} {vs : List V} {ds : List D} (h : EnvOk c K F H σ γ) (n1 : a ≠ c.pa) (n2 : a ≠ c.sa) (hF : F a = none) (ha : H a = some (.lst vs)) (r : Dats c K F vs ds) (hn : ¬ OwnAt σ γ a) : EnvOk c K F H (σ.set i (some (.ref a))) (γ.set i (.own ds)) := by
  refine ⟨by simp [h.len], fun k d' q => ?_, fun k ds q => ?_, fun k n gs q => ?_, fun k dz q => ?_, fun x y o u b q1 o1 q2 o2 z1 z2 => ?_⟩
  · rcases get_set q with ⟨rfl, e, hl⟩ | ⟨n, q⟩
    · cases e
    · obtain ⟨w, h1, h2⟩ := h.val k d' q
      exact ⟨w, set_ne n h1, h2⟩
  · rcases get_set q with ⟨rfl, e, hl⟩ | ⟨n, q⟩
    · cases e
      exact ⟨a, vs, by rw [List.getElem?_set_self (by rw [h.len]; exact hl)], n1, n2, hF, ha, r⟩
    · obtain ⟨a, vs, h1, h2⟩ := h.own k ds q
      exact ⟨a, vs, set_ne n h1, h2⟩
  · rcases get_set q with ⟨rfl, e, hl⟩ | ⟨n', q⟩
    · cases e
    · obtain ⟨a, dx, fs, h1, h2⟩ := h.obj k n gs q
      exact ⟨a, dx, fs, set_ne n' h1, h2⟩
  · rcases get_set q with ⟨rfl, e, hl⟩ | ⟨n', q⟩
    · cases e
    · obtain ⟨a, u, h1, h2⟩ := h.dic k dz q
      exact ⟨a, u, set_ne n' h1, h2⟩
  · rcases get_set q1 with ⟨rfl, e, hl⟩ | ⟨m1, q1⟩
    · rcases get_set q2 with ⟨rfl, e2, _⟩ | ⟨m2, q2⟩
      · rfl
      · rw [List.getElem?_set_ne (Ne.symm m2)] at z2
        rw [List.getElem?_set_self (by rw [h.len]; exact hl)] at z1
        cases z1
        exact absurd ⟨y, u, q2, o2, z2⟩ hn
    · rcases get_set q2 with ⟨e0, e, hl⟩ | ⟨m2, q2⟩
      · subst e0
        rw [List.getElem?_set_ne (Ne.symm m1)] at z1
        rw [List.getElem?_set_self (by rw [h.len]; exact hl)] at z2
        cases z2
        exact absurd ⟨x, o, by assumption, o1, z1⟩ hn
      · rw [List.getElem?_set_ne (Ne.symm m1)] at z1
        rw [List.getElem?_set_ne (Ne.symm m2)] at z2
        exact h.ne x y o u b q1 o1 q2 o2 z1 z2
theorem EnvOk.there (h : EnvOk c K F H σ γ) {a : Addr} (o : OwnAt σ γ a) : H a ≠ none ∧ F a = none ∧ a ≠ c.pa ∧ a ≠ c.sa := by
  obtain ⟨i, o, q, ho, z⟩ := o
  cases o with
  | no => cases ho
  | val d => cases ho
  | own ds =>
    obtain ⟨b, vs, h1, h2, h3, h4, h5, h6⟩ := h.own i ds q
    rw [h1] at z; cases z
    exact ⟨by rw [h5]; simp, h4, h2, h3⟩
  | obj n gs =>
    obtain ⟨b, dx, fs, h1, h2, h3, h4, h5, h6⟩ := h.obj i n gs q
    rw [h1] at z; cases z
    exact ⟨by rw [h5]; simp, h4, h2, h3⟩
  | dic dz =>
    obtain ⟨b, u, h1, h2, h3, h4, h5, h6⟩ := h.dic i dz q
    rw [h1] at z; cases z
    exact ⟨by rw [h5]; simp, h4, h2, h3⟩
theorem EnvOk.notab (h : EnvOk c K F H σ γ) {a : Addr} {u : HO} (o : OwnAt σ γ a) (e : H a = some u) (n1 : ¬ Muo u) : False := by
  obtain ⟨i, o, q, ho, z⟩ := o
  cases o with
  | no => cases ho
  | val d => cases ho
  | own ds =>
    obtain ⟨b, vs, h1, h2, h3, h4, h5, h6⟩ := h.own i ds q
    rw [h1] at z; cases z
    rw [h5] at e; cases e; exact n1 (.inl ⟨_, rfl⟩)
  | obj n gs =>
    obtain ⟨b, dx, fs, h1, h2, h3, h4, h5, h6⟩ := h.obj i n gs q
    rw [h1] at z; cases z
    rw [h5] at e; cases e; exact n1 (.inr (.inl ⟨_, _, _, rfl⟩))
  | dic dz =>
    obtain ⟨b, v, h1, h2, h3, h4, h5, h6⟩ := h.dic i dz q
    rw [h1] at z; cases z
    rw [h5] at e; cases e; exact n1 h6.muo
theorem Good.nePen (g : Good c F H j) {a : Addr} (h : H a = none) : a ≠ c.pa ∧ a ≠ c.sa := by
  obtain ⟨_, _, ⟨⟨_, p1⟩, ⟨_, p2⟩, _⟩, _, _⟩ := g
  exact ⟨fun e => (by rw [e, p1] at h; cases h), fun e => (by rw [e, p2] at h; cases h)⟩
theorem SOk.setOwn {i : Nat} {a : Addr} {vs : List V} {ds : List D} (s : SOk c K ob F0 H0 σ H γ F j) (s' : SOk c K ob F0 H0 σ H' γ F' j) (e : Ext c F H F' H') (h0 : H a = none) (hF : F' a = none) (ha : H' a = some (.lst vs)) (r : Dats c K F' vs ds) :
    SOk c K ob F0 H0 (σ.set i (some (.ref a))) H' (γ.set i (.own ds)) F' j := by
  have np := s.gd.nePen h0
  have no : ¬ OwnAt σ γ a := fun o => (s.env.there o).1 h0
  refine ⟨s'.gd, s'.ext, s'.env.setOwn np.1 np.2 hF ha r no, fun b h => ?_, fun b h => s.obj b h.setOwn⟩
  obtain ⟨k, o, q, ho, z⟩ := h
  rcases get_set q with ⟨rfl, e, hl⟩ | ⟨n, q⟩
  · rw [List.getElem?_set_self (by rw [s.env.len]; exact hl)] at z
    cases z
    cases y : H0 a with
    | none => rfl
    | some u => exact absurd h0 (s.ext.there a (by rw [y]; simp))
  · rw [List.getElem?_set_ne (Ne.symm n)] at z
    exact s.own b ⟨k, o, q, ho, z⟩
end
end DL
namespace DL
open PySem PySem.Spec L2
open PyProof.Rows
section
variable {X : Cx} {c : Ct} {W : WX} {K : PySem.W.Frag} {ob : Addr} {F0 H0 F F' H H' : Hp} {σ : L2.St} {γ : Gm} {j : Nat} {st : Stmt} {sts rest : List Stmt} {e : Expr} {es : List Expr} {pos : Pos} {m1 m2 : Gm → T Fl} {m : Gm → T RV} {tc : Gm → T Bool} {ms : Gm → T (List D)}
theorem tF.seq {α : Type} {f : List D → T α} {P : Nat → α → Prop} {Q : VK} (s : SOk c K ob F0 H0 σ H γ F j) (h : ((ms γ).bind f).All j P (pSX c K W F0 H0))
    (k : ∀ j' ds F' H' a vs, SOk c K ob F0 H0 σ H' γ F' j' → Ext c F H F' H' → H a = none → F' a = none → H' a = some (.lst vs) → Dats c K F' vs ds → (f ds).All j' P (pSX c K W F0 H0) → Q (.ref a) H') : tF c K W ms σ H Q :=
  ⟨F, γ, j, s.gd, s.env, (T.All.bind h).imp (fun j' x hx F' H' a vs e g h0 hF ha r => k j' x F' H' a vs (s.step e g) e h0 hF ha r hx) fun _ _ z => z.px s.ext⟩
def mSetOwn (i : Nat) (ms : Gm → T (List D)) : Gm → T Fl := fun γ => (ms γ).bind fun ds => .ok (.nx (γ.set i (.own ds)))
theorem SOk.setOwn' {i j' : Nat} {a : Addr} {vs : List V} {ds : List D} (s : SOk c K ob F0 H0 σ H γ F j) (s' : SOk c K ob F0 H0 σ H' γ F' j') (h0 : H a = none) (hF : F' a = none) (ha : H' a = some (.lst vs)) (r : Dats c K F' vs ds) :
    SOk c K ob F0 H0 (σ.set i (some (.ref a))) H' (γ.set i (.own ds)) F' j' := by
  have np := s.gd.nePen h0
  have no : ¬ OwnAt σ γ a := fun o => (s.env.there o).1 h0
  refine ⟨s'.gd, s'.ext, s'.env.setOwn np.1 np.2 hF ha r no, fun b h => ?_, fun b h => s.obj b h.setOwn⟩
  obtain ⟨k, o, q, ho, z⟩ := h
  rcases get_set q with ⟨rfl, e, hl⟩ | ⟨n, q⟩
  · rw [List.getElem?_set_self (by rw [s.env.len]; exact hl)] at z
    cases z
    cases y : H0 a with
    | none => rfl
    | some u => exact absurd h0 (s.ext.there a (by rw [y]; simp))
  · rw [List.getElem?_set_ne (Ne.symm n)] at z
    exact s.own b ⟨k, o, q, ho, z⟩
theorem ds_setOwn (i : Nat) {x : Str} {pos' : Pos} (hN : X.N.Nodup) (he : DF X c W e ms) (hi : X.N[i]? = some x := by rfl) (hx : Loc X.env.scope x := by first | exact Or.inl rfl | exact Or.inr rfl) (hs : swapsWith e (some (.Name x pos')) pos.line X.env = pure false := by rfl)
    (hf : X.fn x = true ∨ X.env.scope.names.lookup x = some .local := by first | exact .inl rfl | exact .inr rfl) : DS X c W (.Assign [.Name x pos'] e pos) (mSetOwn i ms) := by
  refine ⟨(ps_set hN hi hx he.pe hs hf).imp fun D σ H ⟨ob, F0, H0, F, γ, j, s, h⟩ => tF.seq s h fun j' ds F' H' a vs s' _ h0 hF ha r h' => ?_⟩
  exact h' _ F' H' (s.setOwn' s' h0 hF ha r)
/-- [..], as a new list of one's own -/
def fLst (ms : Gm → T (List D)) : Gm → T (List D) := fun γ => (ms γ).bind fun ds => if ds.length ≤ 1000000 then .ok ds else .stuck
theorem df_lst (h : DA X c W es ms) : DF X c W (.List es pos) (fLst ms) := by
  refine ⟨(pe_lst h.pa).imp fun σ H Q ⟨F, γ, j, g, en, h⟩ => ?_⟩
  refine tA.seq g en h fun j1 ds F1 H1 vs e1 g1 en1 r1 h1 => ?_
  split at h1
  · rename_i hl
    refine ⟨line_of (by rw [r1.length]; exact hl), fun p hp => ?_⟩
    obtain ⟨g2, e2⟩ := g1.layOut (o := .lst vs) hp
    refine h1 F1 _ p vs (e1.trans e2) g2 ?_ (g1.fresh (o := .lst vs) hp) upd_same r1
    cases y : H p with
    | none => rfl
    | some u => exact absurd hp (e1.there p (by rw [y]; simp))
  · exact h1.elim
/-- what changes at one's own address leaves the rest -/
theorem EnvOk.write {i : Nat} {a : Addr} {vs : List V} {ds es : List D} (h : EnvOk c K F H σ γ) (hi : γ[i]? = some (.own es)) (ha : σ[i]? = some (some (.ref a))) (r : Dats c K F vs ds) : EnvOk c K F (upd H a (.lst vs)) σ (γ.set i (.own ds)) := by
  have oa : OwnAt σ γ a := ⟨i, _, hi, rfl, ha⟩
  have hl : i < γ.length := (List.getElem?_eq_some_iff.mp hi).1
  have hF := (h.there oa).2.1
  refine ⟨by simp [h.len], fun k d' q => ?_, fun k ds q => ?_, fun k n gs q => ?_, fun k dz q => ?_, fun x y o u b q1 o1 q2 o2 z1 z2 => ?_⟩
  · rcases get_set q with ⟨rfl, e, hl⟩ | ⟨n, q⟩
    · cases e
    · exact h.val k d' q
  · rcases get_set q with ⟨rfl, e, hl⟩ | ⟨n, q⟩
    · cases e
      have t := h.there oa
      exact ⟨a, vs, ha, t.2.2.1, t.2.2.2, hF, upd_same, r⟩
    · obtain ⟨b, us, h1, h2, h3, h4, h5, h6⟩ := h.own k ds q
      have nb : b ≠ a := fun z => n (h.ne k i _ _ b q rfl hi rfl h1 (z ▸ ha))
      exact ⟨b, us, h1, h2, h3, h4, by rw [upd_ne nb]; exact h5, h6⟩
  · rcases get_set q with ⟨rfl, e, hl⟩ | ⟨n', q⟩
    · cases e
    · obtain ⟨b, dx, fs, h1, h2, h3, h4, h5, h6⟩ := h.obj k n gs q
      have nb : b ≠ a := fun z => n' (h.ne k i _ _ b q rfl hi rfl h1 (z ▸ ha))
      exact ⟨b, dx, fs, h1, h2, h3, h4, by rw [upd_ne nb]; exact h5, h6⟩
  · rcases get_set q with ⟨rfl, e, hl⟩ | ⟨n', q⟩
    · cases e
    · obtain ⟨b, u, h1, h2, h3, h4, h5, h6⟩ := h.dic k dz q
      have nb : b ≠ a := fun z => n' (h.ne k i _ _ b q rfl hi rfl h1 (z ▸ ha))
      exact ⟨b, u, h1, h2, h3, h4, by rw [upd_ne nb]; exact h5, h6⟩
  · have back : ∀ {x : Nat} {o : SV}, (γ.set i (.own ds))[x]? = some o → o.isOwn = true → ∃ o', γ[x]? = some o' ∧ o'.isOwn = true := fun {x o} q ho => by
      rcases get_set q with ⟨rfl, e, hl⟩ | ⟨n, q⟩
      · exact ⟨_, hi, rfl⟩
      · exact ⟨o, q, ho⟩
    obtain ⟨o', q1', o1'⟩ := back q1 o1
    obtain ⟨u', q2', o2'⟩ := back q2 o2
    exact h.ne x y o' u' b q1' o1' q2' o2' z1 z2
theorem SOk.write {i : Nat} {a : Addr} {vs : List V} {ds es : List D} (s : SOk c K ob F0 H0 σ H γ F j) (hi : γ[i]? = some (.own es)) (ha : σ[i]? = some (some (.ref a))) (r : Dats c K F vs ds) : SOk c K ob F0 H0 σ (upd H a (.lst vs)) (γ.set i (.own ds)) F j := by
  have oa : OwnAt σ γ a := ⟨i, _, hi, rfl, ha⟩
  obtain ⟨t1, t2, t3, t4⟩ := s.env.there oa
  have h0 := s.own a oa
  refine ⟨⟨fun b o h => ?_, s.gd.pa, ?_, tabs_keep s.gd.tab (fun b o n1 h => by rw [upd_ne (fun z => by rw [z] at h; exact s.env.notab oa h n1)]; exact h) (fun _ _ h => tbl_upd .lst h), s.gd.nt⟩, ⟨s.ext.up, fun b o n nt h => ?_, fun b h => ?_, s.ext.new⟩, s.env.write hi ha r, fun b h => ?_, fun b h => ?_⟩
  · have nb : b ≠ a := fun z => by rw [z, t2] at h; cases h
    rw [upd_ne nb]; exact s.gd.sub b o h
  · exact s.gd.pen.keep fun b vs hb z => by rw [upd_ne (fun y => by rcases hb with h | h <;> rw [h] at y <;> first | exact t3 y.symm | exact t4 y.symm)]; exact z
  · have nb : b ≠ a := fun z => by rw [z, h0] at h; cases h
    rw [upd_ne nb]; exact s.ext.keep b o n nt h
  · by_cases z : b = a
    · rw [z, upd_same]; simp
    · rw [upd_ne z]; exact s.ext.there b h
  · refine s.own b ?_
    obtain ⟨k, o, q, ho, z⟩ := h
    rcases get_set q with ⟨rfl, e, hl⟩ | ⟨n, q⟩
    · exact ⟨_, _, hi, rfl, z⟩
    · exact ⟨k, o, q, ho, z⟩
  · refine s.obj b ?_
    obtain ⟨k, n, gs, q, z⟩ := h
    rcases get_set q with ⟨rfl, e, hl⟩ | ⟨n', q⟩
    · cases e
    · exact ⟨k, n, gs, q, z⟩
/-- x.append(e), x one's own list in slot i -/
def mApp (i : Nat) (m : Gm → T RV) : Gm → T Fl := fun γ => match γ[i]? with
  | some (.own ds) => (m γ).bind fun x => (asD x).bind fun d => if ds.length < 1000000 then .ok (.nx (γ.set i (.own (ds ++ [d])))) else .stuck
  | _ => .stuck
theorem ds_app (i : Nat) {x : Str} {p apos cpos : Pos} (he : DE X c W e m) (hN : X.N[i]? = some x := by rfl) (hv : Vis X.env.scope x := by first | exact Or.inl rfl | exact Or.inr (Or.inl rfl) | exact Or.inr (Or.inr rfl)) (hd : (x == ("__debug__" : Str)) = false := by decide)
    (hcd : (x == ("__classdict__" : Str)) = false := by decide) (hbase : attributeBase (.Name x p) "append" X.env (eval (.Name x p) X.env) = eval (.Name x p) X.env := by rfl)
    (hfew : ((backTo cpos (starEach [e] X.env)).all (fun x => !x.1) && (backToKw cpos (keywordEach [] X.env)).all (fun x => x.1.isSome)
      && decide (([e] : List Expr).length + ([] : List Keyword).length + (if ([] : List Keyword).isEmpty then 0 else 1) < 30)) = true := by rfl)
    (hline : (apos.endLine == cpos.line) = true := by rfl) (hs : starEach [e] X.env = [(false, eval e X.env)] := by rfl) (hsw : swapsWith (.Call (.Attribute (.Name x p) "append" apos) [e] [] cpos) none pos.line X.env = pure false := by rfl) :
    DS X c W (.Expr (.Call (.Attribute (.Name x p) "append" apos) [e] [] cpos) pos) (mApp i m) := by
  refine ⟨(ps_expr (pe_bm PySem.F.plainAttrs_list PySem.F.slot_list_append PySem.F.type_list_append mt_append (pe_var hN hv hd hcd) (pa_cons he.pe pa_nil hs) hbase hfew hline hs rfl) hsw).imp fun D σ H ⟨ob, F0, H0, F, γ, j, s, h⟩ => ?_⟩
  unfold mApp at h
  split at h
  · rename_i ds q
    obtain ⟨a, vs, h1, h2, h3, h4, h5, h6⟩ := s.env.own i ds q
    refine ⟨_, h1, .inl ⟨rfl, vs, SqL.of h5⟩, ?_⟩
    refine s.seq h fun j' y F' H' v s' ex r h' => ?_
    obtain ⟨d, rfl, hd', hh⟩ := r.asD (T.All.bind h')
    split at hh
    · rename_i hl
      obtain ⟨b, us, g1, g2, g3, g4, g5, g6⟩ := s'.env.own i ds q
      rw [h1] at g1; cases g1
      refine ⟨a, us, v, rfl, rfl, g5, line_lt (by rw [g6.length]; exact hl), ?_⟩
      exact hh σ F' _ (s'.write q h1 (g6.append (.cons hd' .nil)))
    · exact hh.elim
  · exact h.elim
/-! ### a list of one's own is shared from now on -/
def frzS (i : Nat) (γ : Gm) : Gm := match γ[i]? with
  | some (.own ds) => γ.set i (.val (.lst ds))
  | _ => γ
theorem SOk.frz (i : Nat) (s : SOk c K ob F0 H0 σ H γ F j) : ∃ F', SOk c K ob F0 H0 σ H (frzS i γ) F' j := by
  unfold frzS
  split
  · rename_i ds q
    obtain ⟨a, vs, h1, h2, h3, h4, h5, h6⟩ := s.env.own i ds q
    have oa : OwnAt σ γ a := ⟨i, _, q, rfl, h1⟩
    have h0 := s.own a oa
    have up : ∀ b o, F b = some o → upd F a (.lst vs) b = some o := fun b o h => by rw [upd_ne (fun z => by rw [z, h4] at h; cases h)]; exact h
    have hset : σ.set i (some (.ref a)) = σ := by
      apply List.ext_getElem?
      intro k
      by_cases e : k = i
      · subst e
        rw [List.getElem?_set_self ((List.getElem?_eq_some_iff.mp h1).1), h1]
      · rw [List.getElem?_set_ne (Ne.symm e)]
    have ebase : EnvOk c K (upd F a (.lst vs)) H σ (γ.set i (.val (.lst ds))) := by
      have hl : i < γ.length := (List.getElem?_eq_some_iff.mp q).1
      have nfor : ∀ {k : Nat} {o : SV} {b : Addr}, k ≠ i → γ[k]? = some o → o.isOwn = true → σ[k]? = some (some (.ref b)) → b ≠ a := fun {k o b} n q1 o1 z1 z => n (s.env.ne k i _ _ b q1 o1 q rfl z1 (z ▸ h1))
      refine ⟨by simp [s.env.len], fun k d' q' => ?_, fun k es q' => ?_, fun k n gs q' => ?_, fun k dz q' => ?_, fun x y o u b q1 o1 q2 o2 z1 z2 => ?_⟩
      · rcases get_set q' with ⟨rfl, e, hl⟩ | ⟨n, q'⟩
        · cases e
          exact ⟨_, h1, .lst upd_same (h6.mono up)⟩
        · obtain ⟨w, g1, g2⟩ := s.env.val k d' q'
          exact ⟨w, g1, g2.mono up⟩
      · rcases get_set q' with ⟨rfl, e, hl⟩ | ⟨n, q'⟩
        · cases e
        · obtain ⟨b, us, g1, g2, g3, g4, g5, g6⟩ := s.env.own k es q'
          exact ⟨b, us, g1, g2, g3, by rw [upd_ne (nfor n q' rfl g1)]; exact g4, g5, g6.mono up⟩
      · rcases get_set q' with ⟨rfl, e, hl⟩ | ⟨n', q'⟩
        · cases e
        · obtain ⟨b, dx, fs, g1, g2, g3, g4, g5, g6⟩ := s.env.obj k n gs q'
          exact ⟨b, dx, fs, g1, g2, g3, by rw [upd_ne (nfor n' q' rfl g1)]; exact g4, g5, g6.mono up⟩
      · rcases get_set q' with ⟨rfl, e, hl⟩ | ⟨n', q'⟩
        · cases e
        · obtain ⟨b, u, g1, g2, g3, g4, g5, g6⟩ := s.env.dic k dz q'
          exact ⟨b, u, g1, g2, g3, by rw [upd_ne (nfor n' q' rfl g1)]; exact g4, g5, g6.mono up⟩
      · rcases get_set q1 with ⟨_, e, _⟩ | ⟨_, q1⟩
        · rw [e] at o1; cases o1
        · rcases get_set q2 with ⟨_, e, _⟩ | ⟨_, q2⟩
          · rw [e] at o2; cases o2
          · exact s.env.ne x y o u b q1 o1 q2 o2 z1 z2
    refine ⟨upd F a (.lst vs), ⟨fun b o h => ?_, ?_, s.gd.pen, s.gd.tab, nt_upd s.gd.nt .lst⟩, ⟨fun b o h => up b o (s.ext.up b o h), s.ext.keep, s.ext.there, fun b h => ?_⟩, ebase, fun b h => ?_, fun b h => ?_⟩
    · by_cases z : b = a
      · rw [z, upd_same] at h; cases h; rw [z]; exact h5
      · rw [upd_ne z] at h; exact s.gd.sub b o h
    · intro hp; rw [upd_ne (Ne.symm h2)]; exact s.gd.pa hp
    · by_cases z : b = a
      · right; rw [z]; exact h0
      · rw [upd_ne z] at h; exact s.ext.new b h
    · refine s.own b ?_
      rw [← hset] at h
      exact h.setVal
    · refine s.obj b ?_
      rw [← hset] at h
      exact h.setVal
  · exact ⟨F, s⟩
theorem ds_frz (i : Nat) (h : DS X c W st m1) : DS X c W st (fun γ => m1 (frzS i γ)) :=
  ⟨h.ps.imp fun D σ H ⟨ob, F0, H0, F, γ, j, s, q⟩ => let ⟨F', s'⟩ := s.frz i; ⟨ob, F0, H0, F', _, j, s', q⟩⟩
end
end DL
namespace DL
open PySem PySem.Spec L2
open PyProof.Rows
/-! ### self.f = e within an __init__ -/
def putD (f : Str) (v : D) : List (Str × D) → List (Str × D)
  | [] => [(f, v)]
  | (g, x) :: r => if g = f then (g, v) :: r else (g, x) :: putD f v r
section
variable {X : Cx} {c : Ct} {W : WX} {K : PySem.W.Frag} {ob : Addr} {F0 H0 F F' H H' : Hp} {σ : L2.St} {γ : Gm} {j : Nat} {st : Stmt} {sts rest : List Stmt} {e : Expr} {es : List Expr} {pos : Pos} {m1 m2 : Gm → T Fl} {m : Gm → T RV} {tc : Gm → T Bool} {ms : Gm → T (List D)}
theorem DatF.put {f : Str} {v : V} {d : D} (r : Dat c K F v d) : ∀ {fs : List (Str × V)} {gs : List (Str × D)}, DatF c K F fs gs → DatF c K F (putF f v fs) (putD f d gs)
  | _, _, .nil => .cons r .nil
  | _, _, .cons (f := g) h t => by
    unfold putF putD
    by_cases q : g = f
    · rw [if_pos q, if_pos q]; exact .cons r t
    · rw [if_neg q, if_neg q]; exact .cons h (DatF.put r t)
theorem DatF.length : ∀ {fs : List (Str × V)} {gs : List (Str × D)}, DatF c K F fs gs → fs.length = gs.length
  | _, _, .nil => rfl
  | _, _, .cons _ t => congrArg Nat.succ (DatF.length t)
theorem EnvOk.writeO {i n : Nat} {a dx : Addr} {fs : List (Str × V)} {gs hs : List (Str × D)} (h : EnvOk c K F H σ γ) (hi : γ[i]? = some (.obj n hs)) (ha : σ[i]? = some (some (.ref a))) (r : DatF c K F fs gs) : EnvOk c K F (upd H a (.ins (c.cA n) dx fs)) σ (γ.set i (.obj n gs)) := by
  have oa : OwnAt σ γ a := ⟨i, _, hi, rfl, ha⟩
  have hF := (h.there oa).2.1
  refine ⟨by simp [h.len], fun k d' q => ?_, fun k ds q => ?_, fun k n' gs' q => ?_, fun k dz q => ?_, fun x y o u b q1 o1 q2 o2 z1 z2 => ?_⟩
  · rcases get_set q with ⟨rfl, e, hl⟩ | ⟨n, q⟩
    · cases e
    · exact h.val k d' q
  · rcases get_set q with ⟨rfl, e, hl⟩ | ⟨n, q⟩
    · cases e
    · obtain ⟨b, us, h1, h2, h3, h4, h5, h6⟩ := h.own k ds q
      have nb : b ≠ a := fun z => n (h.ne k i _ _ b q rfl hi rfl h1 (z ▸ ha))
      exact ⟨b, us, h1, h2, h3, h4, by rw [upd_ne nb]; exact h5, h6⟩
  · rcases get_set q with ⟨rfl, e, hl⟩ | ⟨n', q⟩
    · cases e
      have t := h.there oa
      exact ⟨a, dx, fs, ha, t.2.2.1, t.2.2.2, hF, upd_same, r⟩
    · obtain ⟨b, dy, fs, h1, h2, h3, h4, h5, h6⟩ := h.obj k _ _ q
      have nb : b ≠ a := fun z => n' (h.ne k i _ _ b q rfl hi rfl h1 (z ▸ ha))
      exact ⟨b, dy, fs, h1, h2, h3, h4, by rw [upd_ne nb]; exact h5, h6⟩
  · rcases get_set q with ⟨rfl, e, hl⟩ | ⟨n', q⟩
    · cases e
    · obtain ⟨b, u, h1, h2, h3, h4, h5, h6⟩ := h.dic k dz q
      have nb : b ≠ a := fun z => n' (h.ne k i _ _ b q rfl hi rfl h1 (z ▸ ha))
      exact ⟨b, u, h1, h2, h3, h4, by rw [upd_ne nb]; exact h5, h6⟩
  · have back : ∀ {x : Nat} {o : SV}, (γ.set i (.obj n gs))[x]? = some o → o.isOwn = true → ∃ o', γ[x]? = some o' ∧ o'.isOwn = true := fun {x o} q ho => by
      rcases get_set q with ⟨rfl, e, hl⟩ | ⟨n, q⟩
      · exact ⟨_, hi, rfl⟩
      · exact ⟨o, q, ho⟩
    obtain ⟨o', q1', o1'⟩ := back q1 o1
    obtain ⟨u', q2', o2'⟩ := back q2 o2
    exact h.ne x y o' u' b q1' o1' q2' o2' z1 z2
theorem SOk.writeO {i n : Nat} {a dx : Addr} {fs : List (Str × V)} {gs hs : List (Str × D)} (s : SOk c K ob F0 H0 σ H γ F j) (hi : γ[i]? = some (.obj n hs)) (ha : σ[i]? = some (some (.ref a))) (r : DatF c K F fs gs) : SOk c K ob F0 H0 σ (upd H a (.ins (c.cA n) dx fs)) (γ.set i (.obj n gs)) F j := by
  have oa : OwnAt σ γ a := ⟨i, _, hi, rfl, ha⟩
  obtain ⟨t1, t2, t3, t4⟩ := s.env.there oa
  have h0 := s.own a oa
  refine ⟨⟨fun b o h => ?_, s.gd.pa, ?_, tabs_keep s.gd.tab (fun b o n1 h => by rw [upd_ne (fun z => by rw [z] at h; exact s.env.notab oa h n1)]; exact h) (fun _ _ h => tbl_upd .ins h), s.gd.nt⟩, ⟨s.ext.up, fun b o n nt h => ?_, fun b h => ?_, s.ext.new⟩, s.env.writeO hi ha r, fun b h => ?_, fun b h => ?_⟩
  · have nb : b ≠ a := fun z => by rw [z, t2] at h; cases h
    rw [upd_ne nb]; exact s.gd.sub b o h
  · exact s.gd.pen.keep fun b vs hb z => by rw [upd_ne (fun y => by rcases hb with h | h <;> rw [h] at y <;> first | exact t3 y.symm | exact t4 y.symm)]; exact z
  · have nb : b ≠ a := fun z => by rw [z, h0] at h; cases h
    rw [upd_ne nb]; exact s.ext.keep b o n nt h
  · by_cases z : b = a
    · rw [z, upd_same]; simp
    · rw [upd_ne z]; exact s.ext.there b h
  · refine s.own b ?_
    obtain ⟨k, o, q, ho, z⟩ := h
    rcases get_set q with ⟨rfl, e, hl⟩ | ⟨n, q⟩
    · exact ⟨_, _, hi, rfl, z⟩
    · exact ⟨k, o, q, ho, z⟩
  · refine s.obj b ?_
    obtain ⟨k, n', gs', q, z⟩ := h
    rcases get_set q with ⟨rfl, e, hl⟩ | ⟨n', q⟩
    · exact ⟨_, _, _, hi, z⟩
    · exact ⟨k, _, _, q, z⟩
def mFldS (i : Nat) (cs : List Nat) (f : Str) (m : Gm → T RV) : Gm → T Fl := fun γ => match γ[i]? with
  | some (.obj n gs) => if cs.contains n && decide (gs.length < 100) then (m γ).bind fun x => (asD x).bind fun d => .ok (.nx (γ.set i (.obj n (putD f d gs)))) else .stuck
  | _ => .stuck
theorem ds_fld (i : Nat) {x f : Str} {p p' : Pos} {cs : List Nat} (hf : FldOk X.K c cs f) (he : DE X c W e m) (hN : X.N[i]? = some x := by rfl) (hv : Vis X.env.scope x := by first | exact Or.inl rfl | exact Or.inr (Or.inl rfl) | exact Or.inr (Or.inr rfl)) (hd : (x == ("__debug__" : Str)) = false := by decide)
    (hcd : (x == ("__classdict__" : Str)) = false := by decide) (hs : swapsWith e (some (.Attribute (.Name x p) f p')) pos.line X.env = pure false := by rfl) : DS X c W (.Assign [.Attribute (.Name x p) f p'] e pos) (mFldS i cs f m) := by
  refine ⟨(ps_fld (pe_var hN hv hd hcd) he.pe hs).imp fun D σ H ⟨ob, F0, H0, F, γ, j, s, h⟩ => ?_⟩
  unfold mFldS at h
  split at h
  · rename_i n gs q
    split at h
    · rename_i hc
      obtain ⟨c1, c2⟩ := Bool.and_eq_true_iff.mp hc
      have c1 := List.contains_iff_mem.mp c1
      have c2 := of_decide_eq_true c2
      refine s.seq h fun j' y F' H' v s' ex r h' => ?_
      obtain ⟨d, rfl, hd', hh⟩ := r.asD (T.All.bind h')
      obtain ⟨a, dx, fs, h1, h2, h3, h4, h5, h6⟩ := s'.env.obj i n gs q
      refine ⟨_, h1, a, _, dx, fs, rfl, h5, (hf n c1).1, (hf n c1).2, by rw [h6.length]; omega, ?_⟩
      exact hh σ F' _ (s'.writeO q h1 (h6.put hd'))
    · exact h.elim
  · exact h.elim
/-! ### targets -/
/-- the slots but ts stay -/
def Agree (ts : List Nat) (σ σ' : L2.St) : Prop := σ'.length = σ.length ∧ ∀ k, k ∉ ts → σ'[k]? = σ[k]?
theorem Agree.refl {ts : List Nat} : Agree ts σ σ := ⟨rfl, fun _ _ => rfl⟩
theorem Agree.trans {ts us : List Nat} {σ1 σ2 : L2.St} (a : Agree ts σ σ1) (b : Agree us σ1 σ2) : Agree (ts ++ us) σ σ2 := ⟨b.1.trans a.1, fun k h => (b.2 k fun z => h (List.mem_append_right _ z)).trans (a.2 k fun z => h (List.mem_append_left _ z))⟩
def tG (c : Ct) (K : PySem.W.Frag) (ts : List Nat) (m : D → Gm → Option Gm) : TG := fun v σ H Q => ∃ F γ d γ', EnvOk c K F H σ γ ∧ (∀ a o, F a = some o → H a = some o) ∧ Dat c K F v d ∧ m d γ = some γ' ∧ ∀ σ', EnvOk c K F H σ' γ' → (∀ a, OwnAt σ' γ' a → OwnAt σ γ a) → (∀ a, ObjAt σ' γ' a → ObjAt σ γ a) → Agree ts σ σ' → Q σ' H
structure DG (X : Cx) (c : Ct) (tg : Expr) (ts : List Nat) (m : D → Gm → Option Gm) : Prop where
  pg : PG X tg (tG c X.K ts m)
theorem _root_.L2.PG.imp {tg : Expr} {t t' : TG} (h : PG X tg t) (i : ∀ v σ H Q, t' v σ H Q → t v σ H Q) : PG X tg t' := ⟨fun pins s σ H v u Q I r q => h.run pins s σ H v u Q I r (i v σ H Q q)⟩
def gmName (i : Nat) : D → Gm → Option Gm := fun d γ => some (γ.set i (.val d))
theorem dg_name (i : Nat) {x : Str} (hN : X.N.Nodup) (hi : X.N[i]? = some x := by rfl) (hx : Loc X.env.scope x := by first | exact Or.inl rfl | exact Or.inr rfl) (hf : X.fn x = true ∨ X.env.scope.names.lookup x = some .local := by first | exact .inl rfl | exact .inr rfl) : DG X c (.Name x pos) [i] (gmName i) :=
  ⟨(pg_name hN hi hx hf).imp fun v σ H Q ⟨F, γ, d, γ', en, g, r, e, h⟩ => h _ (by cases e; exact en.setVal r) (fun a o => by cases e; exact o.setVal) (fun a o => by cases e; exact o.setVal) ⟨by simp, fun k hk => by rw [List.getElem?_set_ne (fun z => hk (by simp [z]))]⟩⟩
/-- several names -/
def tGs (c : Ct) (K : PySem.W.Frag) (ts : List Nat) (m : List D → Gm → Option Gm) : TGs := fun vs σ H Q => ∃ F γ ds γ', EnvOk c K F H σ γ ∧ (∀ a o, F a = some o → H a = some o) ∧ Dats c K F vs ds ∧ m ds γ = some γ' ∧ ∀ σ', EnvOk c K F H σ' γ' → (∀ a, OwnAt σ' γ' a → OwnAt σ γ a) → (∀ a, ObjAt σ' γ' a → ObjAt σ γ a) → Agree ts σ σ' → Q σ' H
structure DGs (X : Cx) (c : Ct) (tgs : List Expr) (ts : List Nat) (m : List D → Gm → Option Gm) : Prop where
  pg : PGs X tgs (tGs c X.K ts m)
theorem _root_.L2.PGs.imp {ts : List Expr} {t t' : TGs} (h : PGs X ts t) (i : ∀ v σ H Q, t' v σ H Q → t v σ H Q) : PGs X ts t' := ⟨fun pins s σ H v u Q I r q => h.run pins s σ H v u Q I r (i v σ H Q q)⟩
def gmNil : List D → Gm → Option Gm := fun ds γ => match ds with
  | [] => some γ
  | _ => none
def gmCons (m : D → Gm → Option Gm) (ms : List D → Gm → Option Gm) : List D → Gm → Option Gm := fun ds γ => match ds with
  | d :: ds => (m d γ).bind fun γ' => ms ds γ'
  | _ => none
theorem dgs_nil : DGs X c [] [] gmNil := by
  refine ⟨pgs_nil.imp fun vs σ H Q ⟨F, γ, ds, γ', en, g, r, e, h⟩ => ?_⟩
  cases r with
  | nil => cases e; exact ⟨rfl, h σ en (fun _ o => o) (fun _ o => o) .refl⟩
  | cons _ _ => cases e
theorem dgs_cons {t : Expr} {tgs : List Expr} {ts us : List Nat} {gm : D → Gm → Option Gm} {gms : List D → Gm → Option Gm} (h1 : DG X c t ts gm) (h2 : DGs X c tgs us gms) (hs : (assignEach (t :: tgs) X.env).map (·.2) = assign t X.env :: (assignEach tgs X.env).map (·.2) := by rfl) : DGs X c (t :: tgs) (ts ++ us) (gmCons gm gms) := by
  refine ⟨(pgs_cons h1.pg h2.pg hs).imp fun vs σ H Q ⟨F, γ, ds, γ', en, g, r, e, h⟩ => ?_⟩
  cases r with
  | nil => cases e
  | cons hd hr =>
    obtain ⟨γ1, e1, e2⟩ := Option.bind_eq_some_iff.mp e
    exact ⟨_, _, rfl, F, γ, _, γ1, en, g, hd, e1, fun σ1 en1 o1 b1 a1 => ⟨F, γ1, _, γ', en1, g, hr, e2, fun σ2 en2 o2 b2 a2 => h σ2 en2 (fun a o => o1 a (o2 a o)) (fun a o => b1 a (b2 a o)) (a1.trans a2)⟩⟩
/-- (a, b, ..) = a tuple -/
def gmTup (n : Nat) (ms : List D → Gm → Option Gm) : D → Gm → Option Gm := fun d γ => match d with
  | .tup ds => if ds.length = n then ms ds γ else none
  | _ => none
theorem dg_tup {tgs : List Expr} {ts : List Nat} {k : Nat} {n : Nat} {gms : List D → Gm → Option Gm} (hc : X.calm = true) (h : DGs X c tgs ts gms) (hn : (assignEach tgs X.env).length = n := by rfl) (hst : (assignEach tgs X.env).findIdx? (·.1) = none := by rfl) : DG X c (.Tuple tgs k pos) ts (gmTup n gms) := by
  refine ⟨(pg_tup hc h.pg hn hst).imp fun v σ H Q ⟨F, γ, d, γ', en, g, r, e, q⟩ => ?_⟩
  cases r with
  | tup hq hr =>
    unfold gmTup at e
    dsimp only at e
    split at e
    · rename_i hl
      exact ⟨_, _, rfl, SqT.mono hq g, by rw [hr.length]; exact hl, F, γ, _, γ', en, g, hr, e, q⟩
    · cases e
  | _ => cases e
/-- target = e -/
def mAsg (gm : D → Gm → Option Gm) (m : Gm → T RV) : Gm → T Fl := fun γ => (m γ).bind fun x => (asD x).bind fun d => match gm d γ with
  | some γ' => .ok (.nx γ')
  | none => .stuck
theorem ds_asg {tg : Expr} {ts : List Nat} {gm : D → Gm → Option Gm} (he : DE X c W e m) (hg : DG X c tg ts gm) (hs : swapsWithSole [tg] e pos.line X.env = pure false := by rfl) (hw : swappedStores [tg] e X.env = pure none := by rfl)
    (h1 : (assignEach [tg] X.env).map (·.2) = [assign tg X.env] := by rfl) : DS X c W (.Assign [tg] e pos) (mAsg gm m) := by
  refine ⟨(ps_asg he.pe hg.pg hs hw h1).imp fun D σ H ⟨ob, F0, H0, F, γ, j, s, h⟩ => s.seq h fun j' y F' H' v s' _ r h' => ?_⟩
  obtain ⟨d, rfl, hd, h2⟩ := r.asD (T.All.bind h')
  split at h2
  · rename_i γ' eg
    exact ⟨F', γ, d, γ', s'.env, s'.gd.sub, hd, eg, fun σ' en' ow ob' _ => h2 σ' F' H' ⟨s'.gd, s'.ext, en', fun a o => s'.own a (ow a o), fun a o => s'.obj a (ob' a o)⟩⟩
  · exact h2.elim
/-! ### what is walked -/
structure ItD (c : Ct) (K : PySem.W.Frag) (F : Hp) (J : It) (ds : List D) : Prop where
  go : ∀ (i : Nat) (F' H' : Hp), (∀ a o, F a = some o → F' a = some o) → (∀ a o, F' a = some o → H' a = some o) → i < ds.length → J.go i H'
  stop : ∀ (F' H' : Hp), (∀ a o, F a = some o → F' a = some o) → (∀ a o, F' a = some o → H' a = some o) → J.stop ds.length H'
  yld : ∀ (i : Nat) (F' H' : Hp) (x : V) (H2 : Hp) (j : Nat), (∀ a o, F a = some o → F' a = some o) → Good c F' H' j → J.yld i H' x H2 → ∃ F2, Ext c F' H' F2 H2 ∧ Good c F2 H2 j ∧ ∀ d, ds[i]? = some d → Dat c K F2 x d
def tI (c : Ct) (K : PySem.W.Frag) (W : WX) (m : Gm → T (List D)) : TI := fun σ H R => ∃ F γ j, Good c F H j ∧ EnvOk c K F H σ γ ∧ (m γ).All j (fun j' ds => ∀ F' H' J, Ext c F H F' H' → Good c F' H' j' → ItD c K F' J ds → R J H') (pX c K W F H σ)
structure DI (X : Cx) (c : Ct) (W : WX) (tg iter : Expr) (m : Gm → T (List D)) : Prop where
  pi : PI X tg iter (tI c X.K W m)
theorem _root_.L2.PI.imp {tg iter : Expr} {t t' : TI} (h : PI X tg iter t) (i : ∀ σ H R, t' σ H R → t σ H R) : PI X tg iter t' := ⟨fun pins s σ H R I q => h.run pins s σ H R I (i σ H R q)⟩
/-! ### for -/
def forD (gm : D → Gm → Option Gm) (mb : Gm → T Fl) : List D → Gm → T Fl
  | [], γ => .ok (.nx γ)
  | d :: ds, γ => match gm d γ with
    | none => .stuck
    | some γ1 => (mb γ1).bind fun fl => match fl with
      | .nx γ2 => forD gm mb ds γ2
      | .ct γ2 => forD gm mb ds γ2
      | .bk γ2 => .ok (.nx γ2)
      | .rt d => .ok (.rt d)
def mFor (mi : Gm → T (List D)) (gm : D → Gm → Option Gm) (mb : Gm → T Fl) : Gm → T Fl := fun γ => (mi γ).bind fun ds => forD gm mb ds γ
theorem tI.seq {α : Type} {f : List D → T α} {P : Nat → α → Prop} {R : It → Hp → Prop} (s : SOk c K ob F0 H0 σ H γ F j) (h : ((ms γ).bind f).All j P (pSX c K W F0 H0))
    (k : ∀ j' ds F' H' J, SOk c K ob F0 H0 σ H' γ F' j' → ItD c K F' J ds → (f ds).All j' P (pSX c K W F0 H0) → R J H') : tI c K W ms σ H R :=
  ⟨F, γ, j, s.gd, s.env, (T.All.bind h).imp (fun j' x hx F' H' J e g r => k j' x F' H' J (s.step e g) r hx) fun _ _ z => z.px s.ext⟩
/-- the floor is raised -/
theorem SOk.raise (s : SOk c K ob F0 H0 σ H γ F j) : SOk c K ob F H0 σ H γ F j := ⟨s.gd, ⟨fun _ _ h => h, s.ext.keep, s.ext.there, fun _ h => .inl h⟩, s.env, s.own, s.obj⟩
def Fls (F0 F1 H0 : Hp) : Prop := (∀ a o, F0 a = some o → F1 a = some o) ∧ ∀ a, F1 a ≠ none → F0 a ≠ none ∨ H0 a = none
theorem Ext.lower {F1 : Hp} (f : Fls F0 F1 H0) (e : Ext c F1 H0 F H) : Ext c F0 H0 F H := ⟨fun a o h => e.up a o (f.1 a o h), e.keep, e.there, fun a h => (e.new a h).elim (fun z => f.2 a z) .inr⟩
theorem SOk.fls (s : SOk c K ob F0 H0 σ H γ F j) : Fls F0 F H0 := ⟨s.ext.up, s.ext.new⟩
theorem SOk.lower {F1 : Hp} (f : Fls F0 F1 H0) (s : SOk c K ob F1 H0 σ H γ F j) : SOk c K ob F0 H0 σ H γ F j := ⟨s.gd, s.ext.lower f, s.env, s.own, s.obj⟩
theorem pS.raise {F1 : Hp} {D : Ends} {fl : Fl} (f : Fls F0 F1 H0) (h : pS c K ob F0 H0 D j fl) : pS c K ob F1 H0 D j fl := by
  cases fl with
  | nx γ' => exact fun σ F H s => h σ F H (s.lower f)
  | bk γ' => exact fun σ F H s => h σ F H (s.lower f)
  | ct γ' => exact fun σ F H s => h σ F H (s.lower f)
  | rt d => exact fun F H v e g r => h F H v (e.lower f) g r
theorem pSX.raise {F1 : Hp} {x : Xc} (f : Fls F0 F1 H0) (h : pSX c K W F0 H0 j x) : pSX c K W F1 H0 j x := fun F H d σ e g q => h F H d σ (e.lower f) g q
theorem ds_for {tg iter : Expr} {body : List Stmt} {ts : List Nat} {gm : D → Gm → Option Gm} {mb : Gm → T Fl} (hp : PassesOwn (model X.prog X.w) X.A X.env X.xe) (hc : X.calm = true) (hi : DI X c W tg iter ms) (hg : DG X c tg ts gm) (hb : DSs X c W body mb)
    (hs : ∀ x, foldedSetIterable iter X.env x = pure x := by intro _; rfl) : DS X c W (.For tg iter body [] pos) (mFor ms gm mb) := by
  refine ⟨(ps_for hp hc hi.pi hg.pg hb.ps hs).imp fun D σ H ⟨ob, F0, H0, F, γ, j, s, h⟩ => ?_⟩
  refine tI.seq s h fun j1 ds F1 H1 J s1 it h1 => ?_
  have fl := s1.fls
  have h1 := h1.imp (fun _ _ z => pS.raise fl z) fun _ _ z => pSX.raise fl z
  have s1 := s1.raise
  refine ⟨fun i n σ H => n = ds.length - i ∧ i ≤ ds.length ∧ ∃ F γ j, SOk c X.K ob F1 H0 σ H γ F j ∧ (forD gm mb (ds.drop i) γ).All j (pS c X.K ob F1 H0 D) (pSX c X.K W F1 H0),
    ⟨ds.length, by simp, Nat.zero_le _, F1, γ, j1, s1, by simpa using h1⟩, ?_⟩
  rintro i n σ2 H2 ⟨rfl, hle, F2, γ2, j2, s2, h2⟩
  by_cases hlt : i < ds.length
  · obtain ⟨d, hd⟩ : ∃ d, ds[i]? = some d := ⟨_, List.getElem?_eq_getElem hlt⟩
    have hdr : ds.drop i = d :: ds.drop (i + 1) := by
      rw [List.drop_eq_getElem_cons hlt]
      have := List.getElem?_eq_getElem hlt
      rw [hd] at this
      cases this
      rfl
    rw [hdr] at h2
    unfold forD at h2
    split at h2
    · exact h2.elim
    · rename_i γ3 eg
      refine .inr ⟨it.go i F2 H2 s2.ext.up s2.gd.sub hlt, fun σ' H' => ∃ F γ j, SOk c X.K ob F1 H0 σ' H' γ F j ∧ (forD gm mb (ds.drop (i + 1)) γ).All j (pS c X.K ob F1 H0 D) (pSX c X.K W F1 H0), fun σ' H' q => ⟨ds.length - (i + 1), by omega, rfl, hlt, q⟩, fun x H3 y => ?_⟩
      obtain ⟨F3, e3, g3, hx⟩ := it.yld i F2 H2 x H3 j2 s2.ext.up s2.gd y
      have s3 := s2.step e3 g3
      refine ⟨F3, γ2, d, γ3, s3.env, s3.gd.sub, hx d hd, eg, fun σ4 en4 ow4 ob4 _ => ?_⟩
      refine ⟨ob, F1, H0, F3, γ3, j2, ⟨s3.gd, s3.ext, en4, fun a o => s3.own a (ow4 a o), fun a o => s3.obj a (ob4 a o)⟩, (T.All.bind h2).imp (fun j5 fl hf => ?_) fun _ _ z => z⟩
      cases fl with
      | nx γ5 => exact fun σ5 F5 H5 s5 => ⟨F5, γ5, j5, s5, hf⟩
      | ct γ5 => exact fun σ5 F5 H5 s5 => ⟨F5, γ5, j5, s5, hf⟩
      | bk γ5 => exact hf
      | rt d => exact hf
  · have e : i = ds.length := by omega
    subst e
    rw [List.drop_length] at h2
    exact .inl ⟨it.stop F2 H2 s2.ext.up s2.gd.sub, h2 σ2 F2 H2 s2⟩
/-! ### while -/
def whileD (tc : Gm → T Bool) (mb : Gm → T Fl) : Nat → Gm → T Fl
  | 0, _ => .stuck
  | n + 1, γ => (tc γ).bind fun k => if k = true then (mb γ).bind fun fl => (match fl with
      | .nx γ2 => whileD tc mb n γ2
      | .ct γ2 => whileD tc mb n γ2
      | .bk γ2 => .ok (.nx γ2)
      | .rt d => .ok (.rt d)) else .ok (.nx γ)
def mWhile (n : Nat) (tc : Gm → T Bool) (mb : Gm → T Fl) : Gm → T Fl := whileD tc mb n
theorem ds_while (n : Nat) {t : Expr} {body : List Stmt} {mb : Gm → T Fl} (hp : PassesOwn (model X.prog X.w) X.A X.env X.xe) (ht : DT X c W t tc) (hb : DSs X c W body mb) : DS X c W (.While t body [] pos) (mWhile n tc mb) := by
  refine ⟨(ps_while hp ht.pt hb.ps).imp fun D σ H ⟨ob, F0, H0, F, γ, j, s, h⟩ => ?_⟩
  refine ⟨fun n σ H => ∃ F γ j, SOk c X.K ob F0 H0 σ H γ F j ∧ (whileD tc mb n γ).All j (pS c X.K ob F0 H0 D) (pSX c X.K W F0 H0), ⟨n, F, γ, j, s, h⟩, ?_⟩
  rintro n2 σ2 H2 ⟨F2, γ2, j2, s2, h2⟩
  cases n2 with
  | zero => exact h2.elim
  | succ n3 =>
    unfold whileD at h2
    refine s2.seqT h2 fun j3 k F3 H3 s3 h3 => ?_
    cases k with
    | false => exact iteF (h3 σ2 F3 H3 s3)
    | true =>
      refine iteT ⟨fun σ' H' => ∃ F γ j, SOk c X.K ob F0 H0 σ' H' γ F j ∧ (whileD tc mb n3 γ).All j (pS c X.K ob F0 H0 D) (pSX c X.K W F0 H0), fun σ' H' q => ⟨n3, Nat.lt_succ_self _, q⟩, ob, F0, H0, F3, γ2, j3, s3, ?_⟩
      have h3 : ((mb γ2).bind fun fl => (match fl with
        | .nx γ2 => whileD tc mb n3 γ2
        | .ct γ2 => whileD tc mb n3 γ2
        | .bk γ2 => .ok (.nx γ2)
        | .rt d => .ok (.rt d) : T Fl)).All j3 (pS c X.K ob F0 H0 D) (pSX c X.K W F0 H0) := h3
      refine (T.All.bind h3).imp (fun j5 fl hf => ?_) fun _ _ z => z
      cases fl with
      | nx γ5 => exact fun σ5 F5 H5 s5 => ⟨F5, γ5, j5, s5, hf⟩
      | ct γ5 => exact fun σ5 F5 H5 s5 => ⟨F5, γ5, j5, s5, hf⟩
      | bk γ5 => exact hf
      | rt d => exact hf
end
end DL
namespace DL
open PySem PySem.Spec L2
open PyProof.Rows
/-- nothing is raised -/
def T.calm {α : Type} : T α → T α
  | .ok a => .ok a
  | .exc _ => .stuck
  | .stuck => .stuck
  | .draw n k => .draw n fun d => (k d).calm
theorem T.All.uncalm {α : Type} {P : Nat → α → Prop} {E E' : Nat → Xc → Prop} : ∀ {t : T α} {j : Nat}, t.calm.All j P E → t.All j P E'
  | .ok _, _, h => h
  | .exc _, _, h => h.elim
  | .stuck, _, h => h
  | .draw _ _, _, ⟨h1, h2, h3, h⟩ => ⟨h1, h2, h3, fun d a b => T.All.uncalm (h d a b)⟩
abbrev W0 : WX := fun _ _ _ _ => False
/-- [te for gm in ds if tt] -/
def lcD (gm : D → Gm → Option Gm) (tt : Gm → T Bool) (te : Gm → T RV) (γ : Gm) : List D → List D → T (List D)
  | [], acc => .ok acc
  | d :: ds, acc => match gm d γ with
    | none => .stuck
    | some γ1 => (tt γ1).bind fun b => if b = true then (te γ1).bind fun x => (asD x).bind fun y => if acc.length < 1000000 then lcD gm tt te γ ds (acc ++ [y]) else .stuck else lcD gm tt te γ ds acc
def wipeG (γ : Gm) : List Nat → Gm
  | [] => γ
  | v :: vs => (wipeG γ vs).set v .no
def fLc (mi : Gm → T (List D)) (gm : D → Gm → Option Gm) (tt : Gm → T Bool) (te : Gm → T RV) (vs : List Nat) : Gm → T (List D) := fun γ => (mi γ).bind fun ds => (lcD gm tt te (wipeG γ vs) ds []).calm
def mLc (mi : Gm → T (List D)) (gm : D → Gm → Option Gm) (tt : Gm → T Bool) (te : Gm → T RV) (vs : List Nat) : Gm → T RV := fun γ => (fLc mi gm tt te vs γ).bind fun ds => okV (.lst ds)
section
variable {X : Cx} {c : Ct} {W : WX} {K : PySem.W.Frag} {ob : Addr} {F0 H0 F F' H H' : Hp} {σ : L2.St} {γ : Gm} {j : Nat} {st : Stmt} {sts rest : List Stmt} {e : Expr} {es : List Expr} {pos : Pos} {m1 m2 : Gm → T Fl} {m te : Gm → T RV} {tt : Gm → T Bool} {mi : Gm → T (List D)} {gm : D → Gm → Option Gm}
theorem set_no {i : Nat} (h : EnvOk c K F H σ γ) : EnvOk c K F H (σ.set i none) (γ.set i .no) := by
  have hne : ∀ {k : Nat} {o : SV}, (γ.set i .no)[k]? = some o → o ≠ .no → k ≠ i ∧ γ[k]? = some o := fun {k o} q n => by
    rcases get_set q with ⟨rfl, e, hl⟩ | ⟨n', q⟩
    · exact absurd e n
    · exact ⟨n', q⟩
  have hs : ∀ {k : Nat} {v : V}, k ≠ i → σ[k]? = some (some v) → (σ.set i none)[k]? = some (some v) := fun n h => set_ne n h
  refine ⟨by simp [h.len], fun k d q => ?_, fun k ds q => ?_, fun k n gs q => ?_, fun k dz q => ?_, fun x y o u b q1 o1 q2 o2 z1 z2 => ?_⟩
  · obtain ⟨n, q⟩ := hne q (by simp)
    obtain ⟨v, h1, h2⟩ := h.val k d q
    exact ⟨v, hs n h1, h2⟩
  · obtain ⟨n, q⟩ := hne q (by simp)
    obtain ⟨a, vs, h1, h2⟩ := h.own k ds q
    exact ⟨a, vs, hs n h1, h2⟩
  · obtain ⟨n', q⟩ := hne q (by simp)
    obtain ⟨a, dx, fs, h1, h2⟩ := h.obj k n gs q
    exact ⟨a, dx, fs, hs n' h1, h2⟩
  · obtain ⟨n', q⟩ := hne q (by simp)
    obtain ⟨a, u, h1, h2⟩ := h.dic k dz q
    exact ⟨a, u, hs n' h1, h2⟩
  · obtain ⟨n1, q1⟩ := hne q1 (by rintro rfl; cases o1)
    obtain ⟨n2, q2⟩ := hne q2 (by rintro rfl; cases o2)
    rw [List.getElem?_set_ne (Ne.symm n1)] at z1
    rw [List.getElem?_set_ne (Ne.symm n2)] at z2
    exact h.ne x y o u b q1 o1 q2 o2 z1 z2
theorem EnvOk.wipe (h : EnvOk c K F H σ γ) : ∀ vs : List Nat, EnvOk c K F H (L2.wipe σ vs) (wipeG γ vs)
  | [] => h
  | v :: vs => set_no (EnvOk.wipe h vs)
theorem wipe_agree {σ' : L2.St} : ∀ {vs : List Nat}, Agree vs σ σ' → L2.wipe σ' vs = L2.wipe σ vs := fun {vs} a => by
  apply List.ext_getElem?
  intro k
  have key : ∀ (τ : L2.St) (us : List Nat), (L2.wipe τ us)[k]? = if k ∈ us then (if k < τ.length then some none else none) else τ[k]? := fun τ us => by
    induction us with
    | nil => simp [L2.wipe]
    | cons u us ih =>
      unfold L2.wipe
      by_cases e : u = k
      · subst e
        by_cases hl : u < τ.length
        · rw [List.getElem?_set_self (by rw [wipe_length]; exact hl)]; simp [hl]
        · rw [List.getElem?_eq_none (by simp [wipe_length]; omega)]; simp [hl]
      · rw [List.getElem?_set_ne e, ih]
        simp only [List.mem_cons, (Ne.symm e : ¬ k = u), false_or]
  rw [key, key, a.1]
  split
  · rfl
  · rename_i hk; exact a.2 k hk
/-- several tests -/
structure DTs (X : Cx) (c : Ct) (W : WX) (es : List Expr) (m : Gm → T Bool) : Prop where
  pt : PTs X es (tT c X.K W m)
def tYesM : Gm → T Bool := fun _ => .ok true
theorem _root_.L2.PTs.imp {t t' : TT} (h : PTs X es t) (i : ∀ σ H Q, t' σ H Q → t σ H Q) : PTs X es t' := ⟨fun pins s σ H Q I q => h.run pins s σ H Q I (i σ H Q q)⟩
theorem dts_nil : DTs X c W [] tYesM := ⟨pts_nil.imp fun σ H Q ⟨F, γ, j, g, en, h⟩ => h F H .refl g⟩
theorem dts_one {t : Expr} (h : DT X c W t tt) : DTs X c W [t] tt := ⟨pts_one h.pt⟩
theorem lc_run {ts : List Nat} {Q : VK} {K : PySem.W.Frag} (g : Good c F H j) (en : EnvOk c K F H σ γ)
    (h : (fLc mi gm tt te ts γ).All j (fun j' ds => ∀ F' H' a vs, Ext c F H F' H' → Good c F' H' j' → H a = none → F' a = none → H' a = some (.lst vs) → Dats c K F' vs ds → Q (.ref a) H') (pX c K W F H σ)) :
    tLc (tI c K W mi) (tG c K ts gm) (tT c K W0 tt) (tE c K W0 te) ts σ H Q := by
  refine ⟨F, γ, j, g, en, (T.All.bind h).imp (fun j1 ds h1 F1 H1 J e1 g1 it A hA => ?_) fun _ _ z => z⟩
  have h1 := T.All.uncalm (E' := fun _ _ => False) h1
  have en1 := (en.ext e1).wipe ts
  have nA := g1.nePen hA
  have hA0 : H A = none := by
    cases y : H A with
    | none => rfl
    | some u => exact absurd hA (e1.there A (by rw [y]; simp))
  refine ⟨fun i n H2 => n = ds.length - i ∧ i ≤ ds.length ∧ ∃ F2 j2 vs acc, Good c F2 H2 j2 ∧ Ext c F1 H1 F2 H2 ∧ F2 A = none ∧ H2 A = some (.lst vs) ∧ Dats c K F2 vs acc ∧ (lcD gm tt te (wipeG γ ts) (ds.drop i) acc).All j2 (fun j' ds => ∀ F' H' a vs, Ext c F H F' H' → Good c F' H' j' → H a = none → F' a = none → H' a = some (.lst vs) → Dats c K F' vs ds → Q (.ref a) H') (fun _ _ => False), ?_, ?_⟩
  · obtain ⟨g2, e2⟩ := g1.layOut (o := .lst []) hA
    exact ⟨ds.length, by simp, Nat.zero_le _, F1, j1, [], [], g2, e2, g1.fresh (o := .lst []) hA, upd_same, .nil, by simpa using h1⟩
  rintro i n H2 ⟨rfl, hle, F2, j2, vs, acc, g2, e2, hF2, hA2, r2, h2⟩
  by_cases hlt : i < ds.length
  · obtain ⟨d, hd⟩ : ∃ d, ds[i]? = some d := ⟨_, List.getElem?_eq_getElem hlt⟩
    have hdr : ds.drop i = d :: ds.drop (i + 1) := by
      rw [List.drop_eq_getElem_cons hlt]
      have := List.getElem?_eq_getElem hlt
      rw [hd] at this
      cases this
      rfl
    rw [hdr] at h2
    unfold lcD at h2
    split at h2
    · exact h2.elim
    · rename_i γ3 eg
      refine .inr ⟨it.go i F2 H2 e2.up g2.sub hlt, fun H2 => ∃ F2 j2 vs acc, Good c F2 H2 j2 ∧ Ext c F1 H1 F2 H2 ∧ F2 A = none ∧ H2 A = some (.lst vs) ∧ Dats c K F2 vs acc ∧ (lcD gm tt te (wipeG γ ts) (ds.drop (i + 1)) acc).All j2 (fun j' ds => ∀ F' H' a vs, Ext c F H F' H' → Good c F' H' j' → H a = none → F' a = none → H' a = some (.lst vs) → Dats c K F' vs ds → Q (.ref a) H') (fun _ _ => False),
        fun H' q => ⟨ds.length - (i + 1), by omega, rfl, hlt, q⟩, fun x H3 y => ?_⟩
      obtain ⟨F3, e3, g3, hx⟩ := it.yld i F2 H2 x H3 j2 e2.up g2 y
      have e13 := e2.trans e3
      have keepA : ∀ {F H F' H' : Hp} {vs : List V}, Ext c F H F' H' → F A = none → H A = some (.lst vs) → F' A = none ∧ H' A = some (.lst vs) := fun {F H F' H' vs} e hF hH => by
        refine ⟨?_, e.keep A _ nA.1 .lst hH⟩
        cases z : F' A with
        | none => rfl
        | some o =>
          rcases e.new A (by rw [z]; simp) with y | y
          · exact absurd hF y
          · rw [y] at hH; cases hH
      obtain ⟨hF3, hA3⟩ := keepA e3 hF2 hA2
      refine ⟨F3, wipeG γ ts, d, γ3, en1.ext e13, g3.sub, hx d hd, eg, fun σ4 en4 ow4 _ ag4 => ⟨(wipe_agree ag4).trans ?_, ?_⟩⟩
      · have : Agree ts σ (L2.wipe σ ts) := ⟨wipe_length σ ts, fun k hk => by
          have key : ∀ us : List Nat, k ∉ us → (L2.wipe σ us)[k]? = σ[k]? := fun us => by
            induction us with
            | nil => intro _; rfl
            | cons u us ih =>
              intro hk
              simp only [List.mem_cons, not_or] at hk
              unfold L2.wipe
              rw [List.getElem?_set_ne (Ne.symm hk.1)]
              exact ih hk.2
          exact key ts hk⟩
        exact wipe_agree this
      refine ⟨F3, γ3, j2, g3, en4, (T.All.bind h2).imp (fun j5 b hb F5 H5 e5 g5 => ?_) fun _ _ z => z.elim⟩
      obtain ⟨hF5, hA5⟩ := keepA e5 hF3 hA3
      cases b with
      | false => exact iteF ⟨F5, j5, vs, acc, g5, e13.trans e5, hF5, hA5, r2.mono (fun b o h => e5.up b o (e3.up b o h)), hb⟩
      | true =>
        refine iteT ⟨F5, γ3, j5, g5, en4.ext e5, (T.All.bind hb).imp (fun j6 z hz F6 H6 v6 e6 g6 r6 => ?_) fun _ _ z => z.elim⟩
        obtain ⟨hF6, hA6⟩ := keepA e6 hF5 hA5
        cases z with
        | brw _ => exact hz.elim
        | bob _ _ => exact hz.elim
        | bdc _ => exact hz.elim
        | val y6 =>
          have hz : (if acc.length < 1000000 then lcD gm tt te (wipeG γ ts) (ds.drop (i + 1)) (acc ++ [y6]) else .stuck).All j6 _ (fun _ _ => False) := hz
          split at hz
          · rename_i hl
            have r6' : Dats c K F6 vs acc := r2.mono (fun b o h => e6.up b o (e5.up b o (e3.up b o h)))
            refine ⟨vs, hA6, line_lt (by rw [r6'.length]; exact hl), F6, j6, vs ++ [v6], acc ++ [y6], ?_, ?_, hF6, upd_same, r6'.append (.cons r6 .nil), hz⟩
            · obtain ⟨q1, q2, gp, gt, gn⟩ := g6
              refine ⟨fun b o h => ?_, q2, gp.keep fun b vs hb z => by rw [upd_ne (fun y => by rcases hb with h | h <;> rw [h] at y <;> first | exact nA.1 y.symm | exact nA.2 y.symm)]; exact z, tabs_keep gt (fun b o n1 h => by rw [upd_ne (fun z => by rw [z, hA6] at h; cases h; exact n1 (.inl ⟨_, rfl⟩))]; exact h) (fun _ _ h => tbl_upd .lst h), gn⟩
              rw [upd_ne (fun z => by rw [z, hF6] at h; cases h)]
              exact q1 b o h
            · have e16 := e13.trans (e5.trans e6)
              refine ⟨e16.up, fun b o n nt h => ?_, fun b h => ?_, e16.new⟩
              · rw [upd_ne (fun z => by rw [z, hA] at h; cases h)]
                exact e16.keep b o n nt h
              · by_cases z : b = A
                · rw [z, upd_same]; simp
                · rw [upd_ne z]; exact e16.there b h
          · exact hz.elim
  · have e : i = ds.length := by omega
    subst e
    rw [List.drop_length] at h2
    exact .inl ⟨it.stop F2 H2 e2.up g2.sub, h2 F2 H2 A vs (e1.trans e2) g2 hA0 hF2 hA2 r2⟩
/-- the list is shared at once -/
theorem pF_of {K : PySem.W.Frag} {Q : VK} {ds : List D} {j0 : Nat} (g0 : Good c F H j0) (h : pE c K F H Q j (.val (.lst ds))) : ∀ F' H' a vs, Ext c F H F' H' → Good c F' H' j → H a = none → F' a = none → H' a = some (.lst vs) → Dats c K F' vs ds → Q (.ref a) H' := by
  intro F' H' a vs e g h0 hF ha r
  have np := g0.nePen h0
  have up : ∀ b o, F' b = some o → upd F' a (.lst vs) b = some o := fun b o h => by rw [upd_ne (fun z => by rw [z, hF] at h; cases h)]; exact h
  refine h (upd F' a (.lst vs)) H' _ ⟨fun b o q => up b o (e.up b o q), e.keep, e.there, fun b q => ?_⟩ ⟨fun b o q => ?_, fun hp => by rw [upd_ne (Ne.symm np.1)]; exact g.pa hp, g.pen, g.tab, nt_upd g.nt .lst⟩ (show Dat c K _ _ _ from .lst upd_same (r.mono up))
  · by_cases z : b = a
    · right; rw [z]; exact h0
    · rw [upd_ne z] at q; exact e.new b q
  · by_cases z : b = a
    · rw [z, upd_same] at q; cases q; rw [z]; exact ha
    · rw [upd_ne z] at q; exact g.sub b o q
theorem de_lc {elt tg iter : Expr} {ifs : List Expr} {scope : Scope} {own : List (Str × Nat)} (hc : X.calm = true) (hN : X.N.Nodup) (hi : DI X c W tg iter mi) (ok : blkC X.N X.env.scope scope own = true)
    (hg : ∀ (s : Shared) (H : Hp) (C : Addr) (cl : List (Str × Addr)) (fp : List Addr), DG (X.blk s H scope (compEnvC scope cl C X.env) fp) c tg (own.map (·.2)) gm) (ht : ∀ (s : Shared) (H : Hp) (C : Addr) (cl : List (Str × Addr)) (fp : List Addr), DTs (X.blk s H scope (compEnvC scope cl C X.env) fp) c W0 ifs tt)
    (he : ∀ (s : Shared) (H : Hp) (C : Addr) (cl : List (Str × Addr)) (fp : List Addr), DE (X.blk s H scope (compEnvC scope cl C X.env) fp) c W0 elt te) (hs : ∀ x, foldedSetIterable iter X.env x = pure x := by intro _; rfl) :
    DE X c W (.ListComp elt [⟨tg, iter, ifs, 0⟩] scope pos) (mLc mi gm tt te (own.map (·.2))) := by
  refine ⟨(pe_lc (wi := tI c X.K W mi) (g := tG c X.K (own.map (·.2)) gm) (tt := tT c X.K W0 tt) (te := tE c X.K W0 te) hc hN hi.pi (blkOk_by ok) (fun s H C cl fp => (hg s H C cl fp).pg) (fun s H C cl fp => (ht s H C cl fp).pt) (fun s H C cl fp => (he s H C cl fp).pe) hs).imp fun σ H Q ⟨F, γ, j, g, en, h⟩ => ?_⟩
  exact lc_run g en ((T.All.bind h).imp (fun j' ds q => pF_of g q) fun _ _ z => z)
theorem df_lc {elt tg iter : Expr} {ifs : List Expr} {scope : Scope} {own : List (Str × Nat)} (hc : X.calm = true) (hN : X.N.Nodup) (hi : DI X c W tg iter mi) (ok : blkC X.N X.env.scope scope own = true)
    (hg : ∀ (s : Shared) (H : Hp) (C : Addr) (cl : List (Str × Addr)) (fp : List Addr), DG (X.blk s H scope (compEnvC scope cl C X.env) fp) c tg (own.map (·.2)) gm) (ht : ∀ (s : Shared) (H : Hp) (C : Addr) (cl : List (Str × Addr)) (fp : List Addr), DTs (X.blk s H scope (compEnvC scope cl C X.env) fp) c W0 ifs tt)
    (he : ∀ (s : Shared) (H : Hp) (C : Addr) (cl : List (Str × Addr)) (fp : List Addr), DE (X.blk s H scope (compEnvC scope cl C X.env) fp) c W0 elt te) (hs : ∀ x, foldedSetIterable iter X.env x = pure x := by intro _; rfl) :
    DF X c W (.ListComp elt [⟨tg, iter, ifs, 0⟩] scope pos) (fLc mi gm tt te (own.map (·.2))) :=
  ⟨(pe_lc (wi := tI c X.K W mi) (g := tG c X.K (own.map (·.2)) gm) (tt := tT c X.K W0 tt) (te := tE c X.K W0 te) hc hN hi.pi (blkOk_by ok) (fun s H C cl fp => (hg s H C cl fp).pg) (fun s H C cl fp => (ht s H C cl fp).pt) (fun s H C cl fp => (he s H C cl fp).pe) hs).imp fun σ H Q ⟨F, γ, j, g, en, h⟩ => lc_run g en h⟩
/-- y = [..], y keeps a value -/
theorem ds_setLc (i : Nat) {y : Str} {py spos : Pos} {elt tg iter : Expr} {ifs : List Expr} {scope : Scope} {own : List (Str × Nat)} (hc : X.calm = true) (hN : X.N.Nodup) (hi : DI X c W tg iter mi) (ok : blkC X.N X.env.scope scope own = true)
    (hg : ∀ (s : Shared) (H : Hp) (C : Addr) (cl : List (Str × Addr)) (fp : List Addr), DG (X.blk s H scope (compEnvC scope cl C X.env) fp) c tg (own.map (·.2)) gm) (ht : ∀ (s : Shared) (H : Hp) (C : Addr) (cl : List (Str × Addr)) (fp : List Addr), DTs (X.blk s H scope (compEnvC scope cl C X.env) fp) c W0 ifs tt)
    (he : ∀ (s : Shared) (H : Hp) (C : Addr) (cl : List (Str × Addr)) (fp : List Addr), DE (X.blk s H scope (compEnvC scope cl C X.env) fp) c W0 elt te)
    (hsw : swapsWith (.ListComp elt [⟨tg, iter, ifs, 0⟩] scope pos) (some (.Name y py)) spos.line X.env = pure true)
    (hy : X.N[i]? = some y := by rfl) (hyl : X.env.scope.names.lookup y = some .local := by rfl) (hs : ∀ x, foldedSetIterable iter X.env x = pure x := by intro _; rfl) :
    DS X c W (.Assign [.Name y py] (.ListComp elt [⟨tg, iter, ifs, 0⟩] scope pos) spos) (mSet i (mLc mi gm tt te (own.map (·.2)))) := by
  refine ⟨(ps_setLc (wi := tI c X.K W mi) (g := tG c X.K (own.map (·.2)) gm) (tt := tT c X.K W0 tt) (te := tE c X.K W0 te) hc hN hy hyl hsw hi.pi (blkOk_by ok) (fun s H C cl fp => (hg s H C cl fp).pg) (fun s H C cl fp => (ht s H C cl fp).pt) (fun s H C cl fp => (he s H C cl fp).pe) hs).imp fun D σ H ⟨ob, F0, H0, F, γ, j, s, h⟩ => ?_⟩
  have h : ((fLc mi gm tt te (own.map (·.2)) γ).bind fun ds => (.ok (.nx (γ.set i (.val (.lst ds)))) : T Fl)).All j (pS c X.K ob F0 H0 D) (pSX c X.K W F0 H0) := by
    unfold mSet mLc at h
    rw [T.bind_assoc] at h
    exact h
  refine lc_run s.gd s.env ((T.All.bind h).imp (fun j' ds q => pF_of (Q := fun x H1 => gName i x σ H1 D.nx) s.gd fun F' H' v e g r => ?_) fun _ _ z => z.px s.ext)
  exact q _ F' H' ((s.step e g).setVal r)
end
end DL
namespace DL
open PySem PySem.Spec L2
open PyProof.Rows
/-! ### room, with no repr under way -/
structure Room (k : Nat) (A : Around) : Prop extends L2.Room k A where
  gd : A.guards = some []
theorem Room.mono {j k : Nat} {A : Around} (r : Room k A) (h : j ≤ k) : Room j A := ⟨r.toRoom.mono h, r.gd⟩
theorem Room.deeper {k : Nat} {A : Around} (r : Room (k + 1) A) (env : Env) : Room k (A.deeper env) := ⟨r.toRoom.deeper env, r.gd⟩
theorem Room.in1 {k : Nat} {A : Around} (r : Room (k + 1) A) : Room k A.in1 := ⟨r.toRoom.in1, r.gd⟩
theorem make_guards {A : Around} {C : Addr} {us : List Value} {kw : List (Str × Value)} : (A.under (.builtin "type.__call__" ⟨.ref C :: us, kw⟩)).guards = A.guards := by
  have e : Code.guards (.builtin "type.__call__" ⟨.ref C :: us, kw⟩) = [] := by first | rfl | simp [Code.guards, Code.isGuard, guardIds]
  unfold Around.under
  rw [e]
  cases A.guards <;> rfl
theorem Room.make {k : Nat} {A : Around} (r : Room (k + 1) A) (C : Addr) (us : List Value) (kw : List (Str × Value)) : Room k (A.under (.builtin "type.__call__" ⟨.ref C :: us, kw⟩)) := ⟨r.toRoom.make C us kw, by rw [make_guards]; exact r.gd⟩
/-- a def's promise where no repr is under way -/
structure FnOk (P : Program) (w : World) (K : PySem.W.Frag) (mg : Str → Option Value) (base : Heap) (CX : CXT) (k : Nat) (f : Addr) (fd : FuncData) (ps : List Str) (sp : Sp) : Prop where
  len : ∀ vs H Q E, sp vs H Q E → vs.length = ps.length
  run : ∀ (A : Around) (outer : List Env) (s : Shared) (H : Hp) (args : Args) (us : List Value) (vs : List V) (Q : VK) (E : XK), Room k A → Env0 P w K mg base A outer s H → BindsTo s fd args (ps.zip us) → Vals vs us → sp vs H Q E →
    codeAny (model P w) A (.call (.ref f) args) (CR CX outer P w H s Q E) s
theorem FnOk.mono {P : Program} {w : World} {K : PySem.W.Frag} {mg : Str → Option Value} {base : Heap} {CX : CXT} {j k : Nat} {f : Addr} {fd : FuncData} {ps : List Str} {sp : Sp} (F : FnOk P w K mg base CX j f fd ps sp) (h : j ≤ k) :
    FnOk P w K mg base CX k f fd ps sp := ⟨F.len, fun A outer s H args us vs Q E hr => F.run A outer s H args us vs Q E (hr.mono h)⟩
/-- the rule for a def; cd: its code -/
theorem fun_ok {CX : CXT} {P : Program} {w : World} {K : PySem.W.Frag} {mg : Str → Option Value} {base : Heap} {x qual : Str} {params : Arguments} {body : List Stmt} {scope : Scope} {dvs : List V} {kws : List (Str × V)} {f : Addr} {fd : FuncData} {N ps : List Str} {k : Nat} {sp : Sp} (F : FunD K x qual params body scope dvs kws f fd) (S : FnScope N ps scope) (len : ∀ vs H Q E, sp vs H Q E → vs.length = ps.length)
    (hbody : ∀ (cdv : Value) (A : Around) (outer : List Env) (s : Shared) (H : Hp) (vs : List V) (Q : VK) (E : XK), fd.code = cdv → Room k (A.deeper (envOfC qual scope s.heap.objs.size f cdv)) → sp vs H Q E →
      ∃ t, PSs (cxOf CX P w K mg base N qual scope f cdv A outer s H E) body t ∧ t { nx := fun _ H' => Q .non H', rt := Q } (L2.start N vs) H) : FnOk P w K mg base CX (k + 1) f fd ps sp := by
  obtain ⟨oc, od, dV, kV, doc, pm, an, cdv, ct, osl, rfl, lk, hcd, _, _⟩ := F.ex
  exact ⟨len, fun A outer s H args us vs Q E hr e0 hb r hsp => LamX.run_ofS (k := k) lk hcd S hr.toRoom e0 hb r (len _ _ _ _ hsp) fun _ => hbody cdv A outer s H vs Q E rfl (hr.deeper _) hsp⟩
/-! ### what a def promises -/
def spD (c : Ct) (K : PySem.W.Frag) (m : List D → T D) : Sp := fun vs H Q E => ∃ F ds j, Good c F H j ∧ Dats c K F vs ds ∧ (m ds).All j
  (fun j' d => ∀ F' H' v, Ext c F H F' H' → Good c F' H' j' → Dat c K F' v d → Q v H')
  (fun j' e => ∀ F' H' d, Ext c F H F' H' → Good c F' H' j' → XdOk c K H F' H' d e → E (.ref (c.cA e.c)) (some d) H')
/-- a def's body, from its arguments -/
def runB (n N : Nat) (mb : Gm → T Fl) : List D → T D := fun ds => if ds.length = n then (mb (ds.map SV.val ++ List.replicate (N - n) SV.no)).bind fun fl => (match fl with
  | .nx _ => .ok .non
  | .rt d => .ok d
  | _ => .stuck) else .stuck
theorem runB_len {n N : Nat} {mb : Gm → T Fl} {ds : List D} {j : Nat} {P : Nat → D → Prop} {E : Nat → Xc → Prop} (h : (runB n N mb ds).All j P E) : ds.length = n := by
  unfold runB at h
  split at h
  · assumption
  · exact h.elim
section
variable {c : Ct} {K : PySem.W.Frag} {F H : Hp} {j : Nat}
theorem start_get {ds : List D} {r : Nat} {i : Nat} {o : SV} (h : (ds.map SV.val ++ List.replicate r SV.no)[i]? = some o) : (∃ d, o = .val d ∧ ds[i]? = some d) ∨ o = .no := by
  by_cases hl : i < ds.length
  · rw [List.getElem?_append_left (by simpa using hl), List.getElem?_map] at h
    cases q : ds[i]? with
    | none => rw [q] at h; cases h
    | some d => rw [q] at h; cases h; exact .inl ⟨d, rfl, rfl⟩
  · rw [List.getElem?_append_right (by simpa using hl)] at h
    have := List.mem_of_getElem? h
    exact .inr (List.eq_of_mem_replicate this)
theorem env_start {N : List Str} {vs : List V} {ds : List D} (hl : ds.length ≤ N.length) (r : Dats c K F vs ds) : EnvOk c K F H (start N vs) (ds.map SV.val ++ List.replicate (N.length - ds.length) SV.no) := by
  refine ⟨?_, fun i d q => ?_, fun i es q => ?_, fun i n gs q => ?_, fun i dz q => ?_, fun x y o u b q1 o1 _ _ _ _ => ?_⟩
  · unfold L2.start
    simp [r.length]
  · rcases start_get q with ⟨d', e, q⟩ | e
    · cases e
      obtain ⟨v, h1, h2⟩ := r.get q
      have hi : i < vs.length := (List.getElem?_eq_some_iff.mp h1).1
      refine ⟨v, ?_, h2⟩
      unfold L2.start
      rw [List.getElem?_append_left (by simpa using hi), List.getElem?_map, h1]
      rfl
    · cases e
  · rcases start_get q with ⟨d', e, q⟩ | e <;> cases e
  · rcases start_get q with ⟨d', e, q⟩ | e <;> cases e
  · rcases start_get q with ⟨d', e, q⟩ | e <;> cases e
  · rcases start_get q1 with ⟨d', e, q⟩ | e <;> (rw [e] at o1; cases o1)
theorem own_start {N : List Str} {vs : List V} {ds : List D} {r : Nat} {a : Addr} : ¬ OwnAt (start N vs) (ds.map SV.val ++ List.replicate r SV.no) a := by
  rintro ⟨i, o, q, ho, _⟩
  rcases start_get q with ⟨d', e, q⟩ | e <;> (rw [e] at ho; cases ho)
theorem obj_start {N : List Str} {vs : List V} {ds : List D} {r : Nat} {a : Addr} : ¬ ObjAt (L2.start N vs) (ds.map SV.val ++ List.replicate r SV.no) a := by
  rintro ⟨i, n, gs, q, _⟩
  rcases start_get q with ⟨d', e, q⟩ | e <;> cases e
end
section
variable {P : Program} {w : World} {K : PySem.W.Frag} {mg : Str → Option Value} {base : Heap} {c : Ct}
/-- THE RULE for a def -/
theorem fnD {x qual : Str} {params : Arguments} {body : List Stmt} {scope : Scope} {dvs : List V} {kws : List (Str × V)} {f : Addr} {fd : FuncData} {N ps : List Str} {k : Nat} {mb : Gm → T Fl} (F : FunD K x qual params body scope dvs kws f fd) (S : FnScope N ps scope) (hl : ps.length ≤ N.length)
    (hb : ∀ (cdv : Value) (A : Around) (outer : List Env) (s : Shared) (H : Hp) (E : XK), fd.code = cdv → Room k (A.deeper (envOfC qual scope s.heap.objs.size f cdv)) →
      DSs (cxOf (CX P w) P w K mg base N qual scope f cdv A outer s H E) c (fun cls d _ H => E cls d H) body mb) :
    FnOk P w K mg base (CX P w) (k + 1) f fd ps (spD c K (runB ps.length N.length mb)) := by
  refine fun_ok F S (fun vs H Q E ⟨F, ds, j, g, r, h⟩ => by rw [r.length]; exact runB_len h) fun cdv A outer s H vs Q E hcd hr ⟨F, ds, j, g, r, h⟩ => ⟨_, (hb cdv A outer s H E hcd hr).ps, ?_⟩
  have hn := runB_len h
  unfold runB at h
  rw [if_pos hn] at h
  refine ⟨0, F, H, F, _, j, ⟨g, .refl, by rw [← hn]; exact env_start (by rw [hn]; exact hl) r, fun a o => absurd o own_start, fun a o => absurd o obj_start⟩, (T.All.bind h).imp (fun j' fl hf => ?_) fun j' e he F' H' d σ ex g' q => he F' H' d ex g' q⟩
  cases fl with
  | nx γ => exact fun σ F' H' s' => hf F' H' .non s'.ext s'.gd .non
  | rt d => exact fun F' H' v e g' r => hf F' H' v e g' r
  | bk γ => exact hf.elim
  | ct γ => exact hf.elim
/-- a promise of a call: us and the keywords ks with the values ws -/
def FnA (P : Program) (w : World) (K : PySem.W.Frag) (mg : Str → Option Value) (base : Heap) (k : Nat) (f : Addr) (ks : List Str) (sp : Sp) : Prop :=
  ∀ (A : Around) (outer : List Env) (s : Shared) (H : Hp) (us ws : List Value) (vs : List V) (Q : VK) (E : XK), Room k A → Env0 P w K mg base A outer s H → Vals vs (us ++ ws) → ws.length = ks.length → sp vs H Q E →
    codeAny (model P w) A (.call (.ref f) ⟨us, ks.zip ws⟩) (CR (CX P w) outer P w H s Q E) s
theorem FnA.mono {j k : Nat} {f : Addr} {ks : List Str} {sp : Sp} (F : FnA P w K mg base j f ks sp) (h : j ≤ k) : FnA P w K mg base k f ks sp := fun A outer s H us ws vs Q E hr => F A outer s H us ws vs Q E (hr.mono h)
theorem spD.imp {m m' : List D → T D} {vs : List V} {H : Hp} {Q : VK} {E : XK} (h : spD c K m' vs H Q E) (i : ∀ ds, m' ds ≠ .stuck → m ds = m' ds) : spD c K m vs H Q E := by
  obtain ⟨F, ds, j, g, r, q⟩ := h
  exact ⟨F, ds, j, g, r, by rw [i ds fun z => by rw [z] at q; exact q]; exact q⟩
/-- called with positional values; the defaults fill up -/
def posM (n : Nat) (m : List D → T D) (dds : List D) : List D → T D := fun ds => if ds.length = n then m (ds ++ dds) else .stuck
theorem FnA.pos {k : Nat} {f : Addr} {fd : FuncData} {ps : List Str} {ds : List Value} {dvs : List V} {dds : List D} {m : List D → T D} (n : Nat) (F : FnOk P w K mg base (CX P w) k f fd ps (spD c K m)) (hb : Binds K fd ps ds) (hd : Vals dvs ds) (hdd : ∀ F, Dats c K F dvs dds) :
    FnA P w K mg base k f [] (spD c K (posM n m dds)) := by
  intro A outer s H us ws vs Q E hr e0 r hl ⟨F', es, j, g, rd, h⟩
  cases ws with
  | cons _ _ => cases hl
  | nil =>
    rw [List.append_nil] at r
    unfold posM at h
    split at h
    · have hsp : spD c K m (vs ++ dvs) H Q E := ⟨F', es ++ dds, j, g, rd.append (hdd F'), h⟩
      have r2 := r.append hd
      refine F.run A outer s H ⟨us, []⟩ (us ++ ds) (vs ++ dvs) Q E hr e0 (hb s us (e0.mod.kin.keeps fun b o e => (e0.bs b o e).1) ?_) r2 hsp
      rw [← r2.length]
      exact F.len _ _ _ _ hsp
    · exact h.elim
/-- called with keywords: gD puts the values in order -/
def kwM (n l : Nat) (m : List D → T D) (gD : List D → List D → List D) : List D → T D := fun ds => if ds.length = n + l then m (gD (ds.take n) (ds.drop n)) else .stuck
theorem Vals.unappend : ∀ {us ws : List Value} {vs : List V}, Vals vs (us ++ ws) → Vals (vs.take us.length) us ∧ Vals (vs.drop us.length) ws
  | [], _, _, h => ⟨.nil, h⟩
  | _ :: _, _, _, .cons r t => ⟨.cons r (Vals.unappend t).1, (Vals.unappend t).2⟩
theorem FnA.kw {k : Nat} {f : Addr} {fd : FuncData} {ps ks : List Str} {m : List D → T D} {g : List Value → List Value → List Value} {gV : List V → List V → List V} {gD : List D → List D → List D} (n : Nat) (F : FnOk P w K mg base (CX P w) k f fd ps (spD c K m)) (hb : KBn K fd ps n ks g gV)
    (hg : ∀ {F : Hp} {vs zs : List V} {ds es : List D}, Dats c K F vs ds → Dats c K F zs es → Dats c K F (gV vs zs) (gD ds es)) : FnA P w K mg base k f ks (spD c K (kwM n ks.length m gD)) := by
  intro A outer s H us ws vs Q E hr e0 r hl ⟨F', ds, j, gd, rd, h⟩
  unfold kwM at h
  split at h
  · rename_i hn
    have e1 : us.length = n := by
      have := r.length
      rw [rd.length, hn, List.length_append] at this
      omega
    obtain ⟨r1, r2⟩ := Vals.unappend r
    rw [e1] at r1 r2
    have r3 := hb.rel r1 r2
    have kin := e0.mod.kin.keeps fun b o e => (e0.bs b o e).1
    exact F.run A outer s H ⟨us, ks.zip ws⟩ (g us ws) (gV (vs.take n) (vs.drop n)) Q E hr e0 (hb.to s us ws kin e1 hl) r3 ⟨F', _, j, gd, hg (rd.take n) (rd.drop n), h⟩
  · exact h.elim
end
theorem tA.seqE {c : Ct} {K : PySem.W.Frag} {W : WX} {F H : Hp} {σ : L2.St} {j : Nat} {E : Nat → Xc → Prop} {α : Type} {m : Gm → T (List D)} {γ : Gm} {f : List D → T α} {P : Nat → α → Prop} {Q : List V → Hp → Prop} (hE : ∀ j e, E j e → pX c K W F H σ j e) (g : Good c F H j) (en : EnvOk c K F H σ γ) (h : ((m γ).bind f).All j P E)
    (k : ∀ j' x F' H' vs, Ext c F H F' H' → Good c F' H' j' → EnvOk c K F' H' σ γ → Dats c K F' vs x → (f x).All j' P E → Q vs H') : tA c K W m σ H Q :=
  ⟨F, γ, j, g, en, (T.All.bind h).imp (fun j' x hx F' H' v e g' r => k j' x F' H' v e g' (en.ext e) r hx) hE⟩
/-! ### the arguments of a call -/
structure DC (X : Cx) (c : Ct) (W : WX) (args : List Expr) (kws : List Keyword) (ks : List Str) (m : Gm → T (List D)) : Prop where
  run : ∀ (pos : Pos) (f : Value) (first : List Value) (pins : List (Addr × Obj)) (s : Shared) (σ : L2.St) (H : Hp) (γ : Gm) (F : Hp) (j : Nat) (g : List D → T RV) (P : Nat → RV → Prop) (R : Value → Shared → Prop), PySem.W.keepIn X.K f = true → Inv X pins σ H s → Good c F H j → EnvOk c X.K F H σ γ →
    ((m γ).bind g).All j P (pX c X.K W F H σ) →
    (∀ j' ds F' H' s1 us ws vs, Inv X pins σ H' s1 → Ext c F H F' H' → Good c F' H' j' → EnvOk c X.K F' H' σ γ → Vals vs (us ++ ws) → ws.length = ks.length → Dats c X.K F' vs ds → (g ds).All j' P (pX c X.K W F H σ) →
      wpAny (model X.prog X.w) X.A (call f (first ++ us) (ks.zip ws)) R X.xe s1) →
    wpAny (model X.prog X.w) X.A (callWith pos f first (backTo pos (starEach args X.env)) (backToKw pos (keywordEach kws X.env))) R X.xe s
section
variable {X : Cx} {c : Ct} {W : WX} {e : Expr} {es : List Expr} {kws : List Keyword} {ms mk : Gm → T (List D)} {m : Gm → T RV} {pos : Pos}
theorem dc_nil : DC X c W [] [] [] aNil := ⟨fun pos f first pins s σ H γ F j g P R hk I gd en h k => PySem.W.callWith_K0 I.kIn hk (by
  have := k j [] F H s [] [] [] I .refl gd en .nil rfl .nil h
  simpa using this)⟩
theorem dc_pos (ha : DA X c W (e :: es) ms) (he : starEach (e :: es) X.env = (false, eval e X.env) :: starEach es X.env := by rfl) (hpl : ∀ pos, (backTo pos (starEach es X.env)).any (·.1) = false := by intro _; rfl) : DC X c W (e :: es) [] [] ms :=
  ⟨fun pos f first pins s σ H γ F j g P R hk I gd en h k => PySem.W.callWith_K (h₀ := X.base) I.ok.mod.kin hk (thn (ha.pa.run pos pins s σ H (fun vs H1 => ∃ F' j' ds, Ext c F H F' H1 ∧ Good c F' H1 j' ∧ EnvOk c X.K F' H1 σ γ ∧ Dats c X.K F' vs ds ∧ (g ds).All j' P (pX c X.K W F H σ)) I
    (tA.seq gd en h fun j' ds F' H' vs e' g' en' r h' => ⟨F', j', ds, e', g', en', r, h'⟩)) fun us s1 ⟨vs, H1, I1, r, F', j', ds, e', g', en', rd, h'⟩ => ⟨I1.kIn, k j' ds F' H1 s1 us [] vs I1 e' g' en' (by rw [List.append_nil]; exact r) rfl rd h'⟩) he (hpl pos)⟩
def aStar1 (m : Gm → T RV) : Gm → T (List D) := fun γ => (m γ).bind seqOf
theorem dc_star1 {p : Pos} (ha : DE X c W e m) (hst : starEach [.Starred e p] X.env = [(true, eval e X.env)] := by rfl) : DC X c W [.Starred e p] [] [] (aStar1 m) := by
  refine ⟨fun pos f first pins s σ H γ F j g P R hk I gd en h k => ?_⟩
  have h : ((m γ).bind fun x => (seqOf x).bind g).All j P (pX c X.K W F H σ) := by
    unfold aStar1 at h
    rw [T.bind_assoc] at h
    exact h
  refine PySem.W.callWith_S (h₀ := X.base) I.ok.mod.kin hk (thn (ha.pe.run pins s σ H (fun v H1 => ∃ F' j' ds a vs, v = .ref a ∧ (SqT X.K H1 a vs ∨ SqL X.K H1 a vs) ∧ Ext c F H F' H1 ∧ Good c F' H1 j' ∧ EnvOk c X.K F' H1 σ γ ∧ Dats c X.K F' vs ds ∧ (g ds).All j' P (pX c X.K W F H σ)) I
    (tE.seq gd en h fun j' x F' H' v e' g' en' r h' => ?_)) fun v s1 ⟨y, H1, I1, ry, F', j', ds, a, vs, ey, hq, e', g', en', rd, h'⟩ => ?_) hst
  · obtain ⟨a, vs, ds, e1, hq, hd, h2⟩ := r.seq g'.sub (T.All.bind h')
    exact ⟨F', j', ds, a, vs, e1, hq, e', g', en', hd, h2⟩
  · subst ey
    obtain rfl : v = Value.ref a := ry
    exact StX.star_any I1 hq fun us s2 I2 rv => ⟨I2.kIn, k j' ds F' H1 s2 us [] vs I2 e' g' en' (by rw [List.append_nil]; exact rv) rfl rd h'⟩
/-- keywords -/
structure DK (X : Cx) (c : Ct) (W : WX) (kws : List Keyword) (m : Gm → T (List D)) : Prop where
  pk : PK X kws (tA c X.K W m)
theorem _root_.L2.PK.imp {t t' : TA} (h : PK X kws t) (i : ∀ σ H Q, t' σ H Q → t σ H Q) : PK X kws t' := ⟨fun pos pins s σ H Q I q => h.run pos pins s σ H Q I (i σ H Q q)⟩
theorem dk_nil : DK X c W [] aNil := ⟨pk_nil.imp fun σ H Q ⟨F, γ, j, g, en, h⟩ => h F H [] .refl g .nil⟩
theorem dk_cons {nm : Option Str} {kpos : Pos} (ha : DE X c W e m) (hr : DK X c W kws ms) : DK X c W (⟨nm, e, kpos⟩ :: kws) (aCons m ms) := by
  refine ⟨(pk_cons ha.pe hr.pk).imp fun σ H Q ⟨F, γ, j, g, en, h⟩ => ?_⟩
  refine tE.seq g en h fun j1 x F1 H1 v e1 g1 en1 r1 h1 => ?_
  obtain ⟨d, rfl, hd, h2⟩ := r1.asD (T.All.bind h1)
  refine tA.seq g1 en1 (T.All.imp h2 (fun _ _ z => z) fun _ _ z => z.ext e1) fun j2 ds F2 H2 vs e2 g2 en2 r2 h3 => ?_
  exact h3 F2 H2 _ (e1.trans e2) g2 (.cons (hd.mono e2.up) r2)
def aApp (n : Nat) (ms mk : Gm → T (List D)) : Gm → T (List D) := fun γ => (ms γ).bind fun ds => (mk γ).bind fun es => if es.length = n then .ok (ds ++ es) else .stuck
def aKw (n : Nat) (mk : Gm → T (List D)) : Gm → T (List D) := fun γ => (mk γ).bind fun es => if es.length = n then .ok es else .stuck
theorem dc_kw {ks : List Str} (ha : DA X c W (e :: es) ms) (hkw : DK X c W kws mk) (hks : ∀ pos, (backToKw pos (keywordEach kws X.env)).filterMap (·.1) = ks := by intro _; rfl) (hall : ∀ pos, (backToKw pos (keywordEach kws X.env)).all (·.1.isSome) = true := by intro _; rfl)
    (he : starEach (e :: es) X.env = (false, eval e X.env) :: starEach es X.env := by rfl)
    (hpl : ∀ pos, ((backTo pos (starEach (e :: es) X.env)).any (·.1) || (backToKw pos (keywordEach kws X.env)).any (·.1.isNone)) = false := by intro _; rfl) : DC X c W (e :: es) kws ks (aApp ks.length ms mk) := by
  refine ⟨fun pos f first pins s σ H γ F j g P R hk I gd en h k => ?_⟩
  have h : ((ms γ).bind fun ds => (mk γ).bind fun es => if es.length = ks.length then g (ds ++ es) else .stuck).All j P (pX c X.K W F H σ) := by
    unfold aApp at h
    rw [T.bind_assoc] at h
    have e : (fun a => T.bind ((mk γ).bind fun es => if es.length = ks.length then T.ok (a ++ es) else .stuck) g) = fun ds => (mk γ).bind fun es => if es.length = ks.length then g (ds ++ es) else .stuck := funext fun x => by
      rw [T.bind_assoc]
      congr 1
      funext y
      split <;> rfl
    rw [e] at h
    exact h
  refine PySem.W.callWith_KW (h₀ := X.base) I.ok.mod.kin hk (hall pos) (thn (ha.pa.run pos pins s σ H (fun vs H1 => ∃ F' j' ds, Ext c F H F' H1 ∧ Good c F' H1 j' ∧ EnvOk c X.K F' H1 σ γ ∧ Dats c X.K F' vs ds ∧ ((mk γ).bind fun es => if es.length = ks.length then g (ds ++ es) else .stuck).All j' P (pX c X.K W F H σ)) I
    (tA.seq gd en h fun j' ds F' H' vs e' g' en' r h' => ⟨F', j', ds, e', g', en', r, h'⟩)) fun us s1 ⟨vs, H1, I1, r, F', j', ds, e', g', en', rd, h'⟩ => ?_) (hpl pos) he
  refine thn (hkw.pk.run pos pins s1 σ H1 (fun zs H2 => ∃ F2 j2 es, Ext c F' H1 F2 H2 ∧ Good c F2 H2 j2 ∧ EnvOk c X.K F2 H2 σ γ ∧ Dats c X.K F2 zs es ∧ es.length = ks.length ∧ (g (ds ++ es)).All j2 P (pX c X.K W F H σ)) I1
    (tA.seqE (f := fun es => if es.length = ks.length then g (ds ++ es) else .stuck) (fun _ _ z => z.ext e') g' en' h' fun j2 es F2 H2 zs e2 g2 en2 r2 h2 => ?_)) fun ws s2 ⟨zs, H2, I2, rz, F2, j2, es, e2, g2, en2, r2, hl, h2⟩ => ⟨I2.kIn, ?_⟩
  · split at h2
    · rename_i hl
      exact ⟨F2, j2, es, e2, g2, en2, r2, hl, h2⟩
    · exact h2.elim
  · rw [hks]
    exact k j2 _ F2 H2 s2 us ws (vs ++ zs) I2 (e'.trans e2) g2 en2 (r.append rz) (by rw [← rz.length, r2.length]; exact hl) ((rd.mono e2.up).append r2) h2
theorem dc_kw0 {ks : List Str} (hkw : DK X c W kws mk) (hks : ∀ pos, (backToKw pos (keywordEach kws X.env)).filterMap (·.1) = ks := by intro _; rfl) (hall : ∀ pos, (backToKw pos (keywordEach kws X.env)).all (·.1.isSome) = true := by intro _; rfl)
    (hpl : ∀ pos, ((backTo pos (starEach [] X.env)).any (·.1) || (backToKw pos (keywordEach kws X.env)).any (·.1.isNone)) = false := by intro _; rfl) : DC X c W [] kws ks (aKw ks.length mk) := by
  refine ⟨fun pos f first pins s σ H γ F j g P R hk I gd en h k => ?_⟩
  have h : ((mk γ).bind fun es => if es.length = ks.length then g es else .stuck).All j P (pX c X.K W F H σ) := by
    unfold aKw at h
    rw [T.bind_assoc] at h
    have e : (fun a : List D => T.bind (if a.length = ks.length then T.ok a else .stuck) g) = fun es => if es.length = ks.length then g es else .stuck := funext fun x => by split <;> rfl
    rw [e] at h
    exact h
  refine PySem.W.callWith_KW0 (h₀ := X.base) I.ok.mod.kin hk (hall pos) (thn (hkw.pk.run pos pins s σ H (fun zs H2 => ∃ F2 j2 es, Ext c F H F2 H2 ∧ Good c F2 H2 j2 ∧ EnvOk c X.K F2 H2 σ γ ∧ Dats c X.K F2 zs es ∧ es.length = ks.length ∧ (g es).All j2 P (pX c X.K W F H σ)) I
    (tA.seq gd en h fun j2 es F2 H2 zs e2 g2 en2 r2 h2 => ?_)) fun ws s2 ⟨zs, H2, I2, rz, F2, j2, es, e2, g2, en2, r2, hl, h2⟩ => ⟨I2.kIn, ?_⟩) (hpl pos)
  · split at h2
    · rename_i hl
      exact ⟨F2, j2, es, e2, g2, en2, r2, hl, h2⟩
    · exact h2.elim
  · rw [hks]
    exact k j2 _ F2 H2 s2 [] ws zs I2 e2 g2 en2 rz (by rw [← rz.length, r2.length]; exact hl) r2 h2
end
end DL
namespace DL
open PySem PySem.Spec L2
open PyProof.Rows
section
variable {X : Cx} {c : Ct} {W : WX} {e o : Expr} {args es : List Expr} {kws : List Keyword} {ks : List Str} {ms : Gm → T (List D)} {m mo : Gm → T RV} {pos p apos : Pos} {mf : List D → T D} {x : Str} {f : Addr} {k : Nat}
/-- the callee runs -/
theorem run_A {pins : List (Addr × Obj)} {σ : L2.St} {H : Hp} {s : Shared} {Q : VK} {us ws : List Value} {vs : List V} {sp : Sp} (F : FnA X.prog X.w X.K X.mg X.base k f ks sp) (hr : Room k X.A) (tk : Takes X W) (I : Inv X pins σ H s) (r : Vals vs (us ++ ws)) (hl : ws.length = ks.length) (h : sp vs H Q (fun cls d H' => W cls d σ H')) :
    wpAny (model X.prog X.w) X.A (call (.ref f) us (ks.zip ws)) (EP X pins σ Q) X.xe s := by
  refine wpAny_call (codeAny_mono (F X.A X.stack s H us ws vs Q _ hr I.env0 r hl h) fun r s' hq => ?_)
  cases r with
  | error e => exact tk e s' (XE.of_call I (fun _ _ _ z => z) hq)
  | ok fl =>
    cases fl with
    | ret u => exact I.after hq
    | next => exact False.elim hq
    | brk => exact False.elim hq
    | cont => exact False.elim hq
def mCall (mf : List D → T D) (ms : Gm → T (List D)) : Gm → T RV := fun γ => (ms γ).bind fun ds => (mf ds).bind fun d => okV d
/-- what the promise asks, out of what is wanted -/
theorem spD_of {F0 H0 F H : Hp} {j : Nat} {σ : L2.St} {Q : VK} {vs : List V} {ds : List D} (ex : Ext c F0 H0 F H) (g : Good c F H j) (r : Dats c X.K F vs ds) (h : ((mf ds).bind fun d => okV d).All j (pE c X.K F0 H0 Q) (pX c X.K W F0 H0 σ)) :
    spD c X.K mf vs H Q (fun cls d H' => W cls d σ H') :=
  ⟨F, ds, j, g, r, (T.All.bind h).imp (fun j' d q F' H' v e g' rd => q F' H' v (ex.trans e) g' rd) fun j' x q F' H' d e g' qd => q F' H' d (ex.trans e) g' (qd.low ex)⟩
/-- x(..), x a def of the module -/
theorem de_call (F : FnA X.prog X.w X.K X.mg X.base k f ks (spD c X.K mf)) (hr : Room k X.A) (tk : Takes X W) (hm : X.mg x = some (.ref f)) (hk : PySem.W.keepIn X.K (.ref f) = true) (ha : DC X c W args kws ks ms) (hg : Gl X x := by rfl) (hdb : (x == ("__debug__" : Str)) = false := by decide) :
    DE X c W (.Call (.Name x p) args kws pos) (mCall mf ms) := by
  refine ⟨⟨fun pins s σ H Q I ⟨F0, γ, j, gd, en, h⟩ => ?_⟩⟩
  refine wpAny_Call_Name_kw (ld_glob I hg hm ?_ hdb)
  exact ha.run pos (.ref f) [] pins s σ H γ F0 j _ _ _ hk I gd en h fun j' ds F' H' s1 us ws vs I1 e' g' en' r hl rd h' => run_A F hr tk I1 r hl (spD_of e' g' rd h')
/-! ### methods: a table by the class -/
def methM (tbl : List (Nat × (List D → T D))) (ds : List D) : T D := match ds with
  | .ins n gs :: _ => (match tbl.lookup n with | some mf => mf ds | none => .stuck)
  | _ => .stuck
def recv (nm : Str) (tbl : List (Nat × (List D → T D))) (d : D) : T Unit := match d with
  | .ins n gs => (match gs.lookup nm, tbl.lookup n with
    | none, some _ => T.ok ()
    | _, _ => T.stuck)
  | _ => T.stuck
def mMeth (nm : Str) (tbl : List (Nat × (List D → T D))) (mo : Gm → T RV) (ms : Gm → T (List D)) : Gm → T RV := fun γ => (mo γ).bind fun x => (asD x).bind fun d => (recv nm tbl d).bind fun _ => (ms γ).bind fun ds => (methM tbl (d :: ds)).bind fun d => okV d
/-- the method m of the classes in the table -/
def MethOk (X : Cx) (c : Ct) (k : Nat) (m : Str) (ks : List Str) (tbl : List (Nat × (List D → T D))) : Prop :=
  ∀ p ∈ tbl, Cls X.K (c.cA p.1) ∧ ∃ f, Meth X.K (c.cA p.1) m f ∧ FnA X.prog X.w X.K X.mg X.base k f ks (spD c X.K p.2)
theorem lookup_mem {α : Type} {n : Nat} {y : α} : ∀ {l : List (Nat × α)}, l.lookup n = some y → (n, y) ∈ l
  | [], h => by cases h
  | (a, b) :: l, h => by
    simp only [List.lookup_cons] at h
    split at h
    · rename_i e
      have := eq_of_beq e
      subst this
      cases h
      exact .head _
    · exact .tail _ (lookup_mem h)
end
end DL
namespace DL
open PySem PySem.Spec L2
open PyProof.Rows
/-! ### __init__: an object of one's own is filled -/
def spI (c : Ct) (K : PySem.W.Frag) (n : Nat) (m : List D → T (List (Str × D))) : Sp := fun vs H Q E => ∃ F H1 ds j a dx ws, vs = .ref a :: ws ∧ Good c F H1 j ∧ H1 a = none ∧ H1 dx = none ∧ dx ≠ a ∧ H = upd (upd H1 dx (.own a)) a (.ins (c.cA n) dx []) ∧ Dats c K F ws ds ∧ (m ds).All j
  (fun j' gs => ∀ F' H' dx' fs, Ext c F H1 F' H' → Good c F' H' j' → F' a = none → H' a = some (.ins (c.cA n) dx' fs) → DatF c K F' fs gs → Q .non H')
  (fun j' e => ∀ F' H' d, Ext c F H1 F' H' → Good c F' H' j' → XdOk c K H1 F' H' d e → E (.ref (c.cA e.c)) (some d) H')
def initB (n N cl : Nat) (mb : Gm → T Fl) : List D → T (List (Str × D)) := fun ds => if ds.length = n then (mb (SV.obj cl [] :: (ds.map SV.val ++ List.replicate (N - n) SV.no))).bind fun fl => (match fl with
  | .nx γ => (match (γ[0]? : Option SV) with
    | some (SV.obj k gs) => if k = cl then T.ok gs else T.stuck
    | _ => T.stuck)
  | _ => T.stuck) else T.stuck
theorem initB_len {n N cl : Nat} {mb : Gm → T Fl} {ds : List D} {j : Nat} {P : Nat → List (Str × D) → Prop} {E : Nat → Xc → Prop} (h : (initB n N cl mb ds).All j P E) : ds.length = n := by
  unfold initB at h
  split at h
  · assumption
  · exact h.elim
section
variable {P : Program} {w : World} {K : PySem.W.Frag} {mg : Str → Option Value} {base : Heap} {c : Ct}
theorem start_cons {N : List Str} {x : Str} {v : V} {vs : List V} : L2.start (x :: N) (v :: vs) = some v :: L2.start N vs := by
  unfold L2.start
  simp
end
end DL
namespace DL
open PySem PySem.Spec L2
open PyProof.Rows
section
variable {P : Program} {w : World} {K : PySem.W.Frag} {mg : Str → Option Value} {base : Heap} {c : Ct}
/-- an __init__ called with positional values -/
def posI (n : Nat) (m : List D → T (List (Str × D))) (dds : List D) : List D → T (List (Str × D)) := fun ds => if ds.length = n then m (ds ++ dds) else .stuck
def kwI (n l : Nat) (m : List D → T (List (Str × D))) (gD : List D → List D → List D) : List D → T (List (Str × D)) := fun ds => if ds.length = n + l then m (gD (ds.take n) (ds.drop n)) else .stuck
end
section
variable {X : Cx} {c : Ct} {W : WX} {e o : Expr} {args es : List Expr} {kws : List Keyword} {ks : List Str} {ms : Gm → T (List D)} {m mo : Gm → T RV} {pos p apos : Pos} {x : Str} {f C : Addr} {k cl : Nat} {mi : List D → T (List (Str × D))}
theorem run_mkA {pins : List (Addr × Obj)} {σ : L2.St} {H : Hp} {s : Shared} {Q : VK} {us ws : List Value} {vs : List V} {sp : Sp} (M : Mk X.K C f) (F : FnA X.prog X.w X.K X.mg X.base k f ks sp) (hr : Room (k + 1) X.A) (tk : Takes X W) (I : Inv X pins σ H s) (r : Vals vs (us ++ ws)) (hl : ws.length = ks.length)
    (h : ∀ x dx, H x = none → H dx = none → dx ≠ x → sp (.ref x :: vs) (upd (upd H dx (.own x)) x (.ins C dx [])) (fun v H2 => v = .non ∧ Q (.ref x) H2) (fun cls d H' => W cls d σ H')) :
    wpAny (model X.prog X.w) X.A (call (.ref C) us (ks.zip ws)) (EP X pins σ Q) X.xe s := by
  have hq := h (s.heap.objs.size + 1) s.heap.objs.size (I.hok.fresh (Nat.le_succ _)) (I.hok.fresh (Nat.le_refl _)) (Nat.ne_of_lt (Nat.lt_succ_self _))
  have I2 := Inv.made (C := C) I
  have r2 : Vals (V.ref (s.heap.objs.size + 1) :: vs) ((Value.ref (s.heap.objs.size + 1) :: us) ++ ws) := .cons rfl r
  refine wpAny_call (make_map (f := f) I.kIn M.makes M.init (beq_iff_eq.mp M.fn) (codeAny_mono (F _ X.stack _ _ (Value.ref (s.heap.objs.size + 1) :: us) ws _ _ _ (hr.make C us (ks.zip ws)) (I2.env0.make C us (ks.zip ws)) r2 hl hq) fun r s' hq' => ?_))
  cases r with
  | error e => exact tk e s' (XE.of_call I2 (fun _ _ _ z => z) hq')
  | ok fl =>
    cases fl with
    | ret u =>
      obtain ⟨v, H', I3, rv, ev, q3⟩ := I2.after hq'
      subst ev
      exact ⟨rv, ⟨V.ref (s.heap.objs.size + 1), H', I3, rfl, q3⟩⟩
    | next => exact False.elim hq'
    | brk => exact False.elim hq'
    | cont => exact False.elim hq'
def mMake (cl : Nat) (mi : List D → T (List (Str × D))) (ms : Gm → T (List D)) : Gm → T RV := fun γ => (ms γ).bind fun ds => (mi ds).bind fun gs => okV (.ins cl gs)
/-- C(..) -/
theorem de_make (M : Mk X.K (c.cA cl) f) (F : FnA X.prog X.w X.K X.mg X.base k f ks (spI c X.K cl mi)) (hr : Room (k + 1) X.A) (tk : Takes X W) (hm : X.mg x = some (.ref (c.cA cl))) (ha : DC X c W args kws ks ms) (hg : Gl X x := by rfl) (hdb : (x == ("__debug__" : Str)) = false := by decide) :
    DE X c W (.Call (.Name x p) args kws pos) (mMake cl mi ms) := by
  refine ⟨⟨fun pins s σ H Q I ⟨F0, γ, j, gd, en, h⟩ => ?_⟩⟩
  refine wpAny_Call_Name_kw (ld_glob I hg hm ?_ hdb)
  refine ha.run pos (.ref (c.cA cl)) [] pins s σ H γ F0 j _ _ _ M.kp I gd en h fun j' ds F' H' s1 us ws vs I1 e' g' en' r hl rd h' => ?_
  refine run_mkA M F hr tk I1 r hl fun a dx ha hdx nda => ?_
  refine ⟨F', H', ds, j', a, dx, vs, rfl, g', ha, hdx, nda, rfl, rd, (T.All.bind h').imp (fun j2 gs q F2 H2 dx2 fs e2 g2 hF hH hd => ⟨rfl, ?_⟩) fun j2 x q F2 H2 d e2 g2 qd => q F2 H2 d (e'.trans e2) g2 (qd.low e')⟩
  have np := g'.nePen ha
  have up : ∀ b o, F2 b = some o → upd F2 a (.ins (c.cA cl) dx2 fs) b = some o := fun b o h => by rw [upd_ne (fun z => by rw [z, hF] at h; cases h)]; exact h
  have e2' := e'.trans e2
  refine q (upd F2 a (.ins (c.cA cl) dx2 fs)) H2 _ ⟨fun b o z => up b o (e2'.up b o z), e2'.keep, e2'.there, fun b z => ?_⟩ ⟨fun b o z => ?_, fun hp => by rw [upd_ne (Ne.symm np.1)]; exact g2.pa hp, g2.pen, g2.tab, nt_upd g2.nt .ins⟩ (show Dat c X.K _ _ _ from .ins upd_same (hd.mono up))
  · by_cases y : b = a
    · right
      rw [y]
      cases w : H a with
      | none => rfl
      | some u => exact absurd ha (e'.there a (by rw [w]; simp))
    · rw [upd_ne y] at z; exact e2'.new b z
  · by_cases y : b = a
    · rw [y, upd_same] at z; cases z; rw [y]; exact hH
    · rw [upd_ne y] at z; exact g2.sub b o z
/-! ### built-ins of one argument -/
/-- a built-in's rule by values, as a function -/
def Bi (X : Cx) (c : Ct) (W : WX) (r : List V → Hp → VK → Prop) (g : RV → T RV) : Prop := ∀ (σ : L2.St) (H : Hp) (v : V) (Q : VK) (F : Hp) (j : Nat) (d : RV), Good c F H j → RDat c X.K F H v d → (g d).All j (pE c X.K F H Q) (pX c X.K W F H σ) → r [v] H Q
theorem de_b1 {id : String} {r : List V → Hp → VK → Prop} {g : RV → T RV} (hc : CallR X (.builtin id) r) (hr : Bi X c W r g) (hm : X.mg x = none) (hv : bootBuiltins x = some (.builtin id)) (ha : DE X c W e m) (hg : Gl X x := by rfl) (hs : starEach [e] X.env = [(false, eval e X.env)] := by rfl) (hn : x ≠ "__name__" := by decide)
    (hdb : (x == ("__debug__" : Str)) = false := by decide) : DE X c W (.Call (.Name x p) [e] [] pos) (mUn g m) := by
  refine ⟨(pe_callB hc hg hm hv (pa_cons ha.pe pa_nil hs) hn hdb hs rfl).imp fun σ H Q ⟨F, γ, j, gd, en, h⟩ => tE.seq gd en h fun j1 y F1 H1 v e1 g1 en1 r1 h1 => ?_⟩
  exact hr σ H1 v Q F1 j1 y g1 r1 (h1.imp (fun _ _ z => z.ext e1) fun _ _ z => z.ext e1)
theorem de_t1 {id : String} {r : List V → Hp → VK → Prop} {g : RV → T RV} (hc : CallR X (.type id) r) (hr : Bi X c W r g) (hm : X.mg x = none) (hv : bootBuiltins x = some (.type id)) (ha : DE X c W e m) (hg : Gl X x := by rfl) (hs : starEach [e] X.env = [(false, eval e X.env)] := by rfl) (hn : x ≠ "__name__" := by decide)
    (hdb : (x == ("__debug__" : Str)) = false := by decide) : DE X c W (.Call (.Name x p) [e] [] pos) (mUn g m) := by
  refine ⟨(pe_callTy hc hg hm hv (pa_cons ha.pe pa_nil hs) hn hdb hs rfl).imp fun σ H Q ⟨F, γ, j, gd, en, h⟩ => tE.seq gd en h fun j1 y F1 H1 v e1 g1 en1 r1 h1 => ?_⟩
  exact hr σ H1 v Q F1 j1 y g1 r1 (h1.imp (fun _ _ z => z.ext e1) fun _ _ z => z.ext e1)
def gLen (x : RV) : T RV := match x.d with
  | .lst ds => okV (.int ds.length)
  | .tup ds => okV (.int ds.length)
  | .str z => if z.length ≤ 1000000 then okV (.int z.length) else .stuck
  | _ => .stuck
theorem b_len : CallR X (.builtin "len") (fun xs H Q => (∃ p ys, xs = [.ref p] ∧ (SqL X.K H p ys ∨ SqT X.K H p ys) ∧ Q (.int ys.length) H) ∨ ∃ z, xs = [.str z] ∧ z.length ≤ sizeLine ∧ Q (.int z.length) H) := by
  intro pins s σ H xs us Q I r h
  rcases h with h | h
  · exact call_len_seq pins s σ H xs us Q I r h
  · exact call_len_str pins s σ H xs us Q I r h
theorem bi_len : Bi X c W (fun xs H Q => (∃ p ys, xs = [.ref p] ∧ (SqL X.K H p ys ∨ SqT X.K H p ys) ∧ Q (.int ys.length) H) ∨ ∃ z, xs = [.str z] ∧ z.length ≤ sizeLine ∧ Q (.int z.length) H) gLen := by
  intro σ H v Q F j d gd r h
  unfold gLen at h
  split at h
  · rename_i ds e
    obtain ⟨a, vs, rfl, h1, h2⟩ := r.lst gd.sub e
    exact .inl ⟨a, vs, rfl, .inl (SqL.of h1), by rw [h2.length]; exact h.val gd (.int _)⟩
  · rename_i ds e
    obtain ⟨a, vs, rfl, h1, _, h2⟩ := r.tup gd.sub e
    exact .inl ⟨a, vs, rfl, .inr h1, by rw [h2.length]; exact h.val gd (.int _)⟩
  · rename_i z e
    split at h
    · rename_i hl
      exact .inr ⟨z, by rw [r.str e], line_of hl, h.val gd (.int _)⟩
    · exact h.elim
  · exact h.elim
def gInt (x : RV) : T RV := match x.d with
  | .int i => okV (.int i)
  | .bl k => okV (.int (if k then 1 else 0))
  | _ => .stuck
theorem bi_int : Bi X c W (fun xs H Q => (∃ i, xs = [.int i] ∧ Q (.int i) H) ∨ ∃ k, xs = [.bl k] ∧ Q (.int (if k then 1 else 0)) H) gInt := by
  intro σ H v Q F j d gd r h
  unfold gInt at h
  split at h
  · rename_i i e
    exact .inl ⟨i, by rw [r.int e], h.val gd (.int _)⟩
  · rename_i i e
    exact .inr ⟨i, by rw [r.bl e], h.val gd (.int _)⟩
  · exact h.elim
def gList (x : RV) : T RV := match x.d with
  | .lst ds => okV (.lst ds)
  | .tup ds => okV (.lst ds)
  | _ => .stuck
def gTuple (x : RV) : T RV := match x.d with
  | .lst ds => okV (.tup ds)
  | .tup ds => okV (.tup ds)
  | _ => .stuck
theorem bi_tuple : Bi X c W (fun xs H Q => ∃ p ys, xs = [.ref p] ∧ ((SqL X.K H p ys ∧ ∀ l, H l = none → Q (.ref l) (upd H l (.tup ys))) ∨ (SqT X.K H p ys ∧ Q (.ref p) H))) gTuple := by
  intro σ H v Q F j d gd r h
  unfold gTuple at h
  split at h
  · rename_i ds e
    obtain ⟨a, vs, rfl, h1, h2⟩ := r.lst gd.sub e
    exact ⟨a, vs, rfl, .inl ⟨SqL.of h1, h.tup gd h2⟩⟩
  · rename_i ds e
    obtain ⟨a, vs, rfl, h1, h3, h2⟩ := r.tup gd.sub e
    exact ⟨a, vs, rfl, .inr ⟨h1, h.val gd (.tup h3 h2)⟩⟩
  · exact h.elim
/-! ### lists of ints, of bools, of texts -/
def D.ints : List D → Option (List Int)
  | [] => some []
  | .int i :: ds => (D.ints ds).map (i :: ·)
  | _ :: _ => none
def D.bls : List D → Option (List Bool)
  | [] => some []
  | .bl i :: ds => (D.bls ds).map (i :: ·)
  | _ :: _ => none
def D.strs : List D → Option (List Str)
  | [] => some []
  | .str i :: ds => (D.strs ds).map (i :: ·)
  | _ :: _ => none
theorem Dats.ints {K : PySem.W.Frag} {F : Hp} : ∀ {vs : List V} {ds : List D} {ns : List Int}, Dats c K F vs ds → D.ints ds = some ns → vs = ns.map V.int
  | _, _, _, .nil, e => by cases e; rfl
  | _, .int i :: ds, _, .cons h r, e => by
    simp only [D.ints, Option.map_eq_some_iff] at e
    obtain ⟨ns, e1, rfl⟩ := e
    cases h
    rw [Dats.ints r e1]; rfl
theorem Dats.bls {K : PySem.W.Frag} {F : Hp} : ∀ {vs : List V} {ds : List D} {ns : List Bool}, Dats c K F vs ds → D.bls ds = some ns → vs = ns.map V.bl
  | _, _, _, .nil, e => by cases e; rfl
  | _, .bl i :: ds, _, .cons h r, e => by
    simp only [D.bls, Option.map_eq_some_iff] at e
    obtain ⟨ns, e1, rfl⟩ := e
    cases h
    rw [Dats.bls r e1]; rfl
theorem Dats.strs {K : PySem.W.Frag} {F : Hp} : ∀ {vs : List V} {ds : List D} {ns : List Str}, Dats c K F vs ds → D.strs ds = some ns → vs = ns.map V.str
  | _, _, _, .nil, e => by cases e; rfl
  | _, .str i :: ds, _, .cons h r, e => by
    simp only [D.strs, Option.map_eq_some_iff] at e
    obtain ⟨ns, e1, rfl⟩ := e
    cases h
    rw [Dats.strs r e1]; rfl
def lstD : D → Option (List D)
  | .lst ds => some ds
  | _ => none
theorem lst_view {F H : Hp} {v : V} {x : RV} {α : Type} {f : List D → Option α} {y : α} (g : ∀ a o, F a = some o → H a = some o) (r : RDat c X.K F H v x) (h : (lstD x.d).bind f = some y) : ∃ a vs ds, v = .ref a ∧ H a = some (.lst vs) ∧ Dats c X.K F vs ds ∧ f ds = some y := by
  obtain ⟨ds, e1, e2⟩ := Option.bind_eq_some_iff.mp h
  have : x.d = .lst ds := by
    revert e1
    generalize x.d = d
    intro e1
    cases d <;> cases e1
    rfl
  obtain ⟨a, vs, h1, h2, h3⟩ := r.lst g this
  exact ⟨a, vs, ds, h1, h2, h3, e2⟩
def gAny (x : RV) : T RV := match (lstD x.d).bind D.bls with
  | some ns => okV (.bl (ns.any id))
  | none => .stuck
theorem bi_any : Bi X c W (rAny X.K) gAny := by
  intro σ H v Q F j d gd r h
  unfold gAny at h
  split at h
  · rename_i ns e
    obtain ⟨a, vs, ds, rfl, h1, h2, h3⟩ := lst_view gd.sub r e
    exact ⟨a, ns, rfl, by rw [← h2.bls h3]; exact SqL.of h1, h.val gd (.bl _)⟩
  · exact h.elim
def gAll (x : RV) : T RV := match (lstD x.d).bind D.bls with
  | some ns => okV (.bl (ns.all id))
  | none => .stuck
theorem bi_all : Bi X c W (rAll X.K) gAll := by
  intro σ H v Q F j d gd r h
  unfold gAll at h
  split at h
  · rename_i ns e
    obtain ⟨a, vs, ds, rfl, h1, h2, h3⟩ := lst_view gd.sub r e
    exact ⟨a, ns, rfl, by rw [← h2.bls h3]; exact SqL.of h1, h.val gd (.bl _)⟩
  · exact h.elim
end
end DL
/-! DX0: an own exception over ValueError whose __init__ says super().__init__(..) and sets fields. -/
namespace DL
open PySem PySem.Spec L2
open PyProof.Rows
/-- the context of such an __init__ -/
def cxS (CX : CXT) (P : Program) (w : World) (K : PySem.W.Frag) (mg : Str → Option Value) (base : Heap) (N : List Str) (qual : Str) (scope : Scope) (f : Addr) (cd : Value) (cc : Addr) (A : Around) (outer : List Env) (s : Shared) (H : Hp) (E : XK) : Cx where
  prog := P
  w := w
  K := K
  mg := mg
  base := base
  A := A.deeper (PySem.W.ksEnv qual scope s.heap.objs.size f cd cc)
  N := N
  s_0 := s
  H_0 := H
  env := PySem.W.ksEnv qual scope s.heap.objs.size f cd cc
  outer := outer
  stack := PySem.W.ksEnv qual scope s.heap.objs.size f cd cc :: outer
  ex := []
  calm := true
  fn := fun _ => false
  pn := []
  xe := fun e s' => wpAny (model P w) (A.deeper (PySem.W.ksEnv qual scope s.heap.objs.size f cd cc)) (leaving (PySem.W.ksEnv qual scope s.heap.objs.size f cd cc) e) (fun _ s'' => CX outer H s E e s'') (fun e' s'' => CX outer H s E e' s'') s'
/-- names of such a def -/
structure SupScope (N : List Str) (sc : Scope) : Prop where
  kind : sc.kind = .function
  co : sc.isCoroutine = false
  gen : sc.isGenerator = false
  nd : N.Nodup
  par : ∀ x ∈ N, sc.names.lookup x = some .local
  nocell : ∀ y ∈ sc.names, y.2 ≠ .cell
  free : ∀ y, sc.names.lookup y = some .free → y = "__class__"
  cls : sc.names.lookup ("__class__" : Str) = some .free
  sup : sc.names.lookup ("super" : Str) = some .globalImplicit
/-- what the written part says of the class C and its __init__ at f -/
structure XInit (P : Program) (K : PySem.W.Frag) (C f : Addr) (qual : Str) (params : Arguments) (body : List Stmt) (scope : Scope) (fd : FuncData) (cda cc : Addr) : Prop where
  lk : ∃ oc od osl name dV kV doc pm an ct, fd = PySem.W.ksFn name qual params body scope dV kV doc pm an (.ref cda) ct cc ∧ K.lookup f = some ⟨oc, od, .func fd, osl⟩
  code : PySem.W.codeIn K (.ref cda) qual = true
  file : ∃ ccl cdd vs ccs file tf, K.lookup cda = some ⟨ccl, cdd, .fields vs, ccs⟩ ∧ vs[2]? = some (.str file tf) ∧ ((P.main.file : Str) == file) = true
  cell : ∃ cl cld csl, K.lookup cc = some ⟨cl, cld, .cell (some (.ref C)), csl⟩
  mro : PySem.W.mroIn K C (.ref C) = some true
  any : PySem.W.nsIn K cStatics "thirdparty.any" = some none
  sup : PySem.W.ks_superIn K C C "__init__" = some (some (.builtin "ValueError.__init__"))
  ve : PySem.W.subIn K (.ref C) (.type "ValueError") = some true
  oex : OexC K C
  top : (P.main.scope.names.lookup ("super" : Str)).isSome = false
section
variable {P : Program} {w : World} {K : PySem.W.Frag} {mg : Str → Option Value} {base : Heap}
theorem lookup_rev {ps : List Str} {us : List Value} (nd : ps.Nodup) {i : Nat} {x : Str} {u : Value} (h1 : ps[i]? = some x) (h2 : us[i]? = some u) : (ps.zip us).reverse.lookup x = some u := by
  induction ps generalizing us i with
  | nil => simp at h1
  | cons p ps ih =>
    cases us with
    | nil => simp at h2
    | cons v us =>
      rw [List.zip_cons_cons, List.reverse_cons]
      have app : ∀ (l : List (Str × Value)) (q : Str × Value) (y : Str), (l ++ [q]).lookup y = (match l.lookup y with | some z => some z | none => if y == q.1 then some q.2 else none) := by
        intro l q y
        induction l with
        | nil => obtain ⟨a, b⟩ := q; simp [List.lookup]; split <;> simp_all
        | cons r l ih =>
          obtain ⟨a, b⟩ := r
          simp only [List.cons_append, List.lookup_cons]
          split
          · rfl
          · exact ih
      rw [app]
      cases i with
      | zero =>
        simp at h1 h2
        subst h1 h2
        have : (ps.zip us).reverse.lookup p = none := by
          cases q : (ps.zip us).reverse.lookup p with
          | none => rfl
          | some z =>
            have := PySem.mem_of_lookup q
            rw [List.mem_reverse] at this
            exact absurd (List.of_mem_zip this).1 (List.nodup_cons.mp nd).1
        rw [this]
        simp
      | succ i =>
        rw [ih (List.nodup_cons.mp nd).2 (by simpa using h1) (by simpa using h2)]
theorem inv_sup {CX : CXT} {N : List Str} {qual : Str} {scope : Scope} {f cc C : Addr} {cd : Value} {A : Around} {outer : List Env} {s : Shared} {h₀ : Heap} {tk : Nat} {H : Hp} {E : XK} {us : List Value} {vs : List V}
    (S : SupScope N scope) (hd : A.handled = none) (e0 : Env0 P w K mg base A outer s H) (hl : vs.length = N.length) (r : Vals vs us) (hc : ∃ cl cld csl, K.lookup cc = some ⟨cl, cld, .cell (some (.ref C)), csl⟩)
    (hns : h₀.Ns s.heap.objs.size (fun x => (N.zip us).reverse.lookup x)) (hk : ∀ b o, s.heap.get? b = some o → h₀.get? b = some o) :
    Inv (cxS CX P w K mg base N qual scope f cd cc A outer s H E) [] (vs.map some) H { s with heap := h₀, toks := tk } := by
  obtain ⟨cl, cld, csl, hcc⟩ := hc
  have hb := e0.bs _ _ (e0.mod.kin _ _ hcc)
  have one : ∀ {x : Str} {c : Addr}, ([(("__class__" : Str), cc)] : List (Str × Addr)).lookup x = some c → x = "__class__" ∧ c = cc := fun {x c} h => by
    simp only [List.lookup_cons, List.lookup_nil] at h
    split at h
    · rename_i e
      exact ⟨eq_of_beq e, (Option.some.inj h).symm⟩
    · cases h
  have noA : ∀ b : Addr, b ∉ (cxS CX P w K mg base N qual scope f cd cc A outer s H E).ex := fun b z => absurd (show b ∈ ([] : List Addr) from z) (by simp)
  refine ⟨⟨e0.mod, S.kind, rfl, rfl, Nat.le_refl _, fun y z c h1 h2 => ?_, fun y hy => ?_, fun y c h _ => (Bool.false_ne_true h).elim, fun _ => hd, Around.frames_deeper e0.frames, .inr ⟨rfl, rfl⟩, fun b z => absurd z (noA b), e0.bs, e0.bsz, fun b _ _ => noA b, fun b z => absurd z (noA b), e0.funs, e0.frf⟩,
    rfl, e0.bare, Un.kept hk, ⟨_, hns, fun i y v h1 h2 h3 => ?_⟩, fun y c h => ?_, e0.hok.fresh (Nat.le_refl _), fun y c h => ?_, fun p hp => absurd (show p ∈ ([] : List (Addr × Obj)) from hp) (by simp), e0.hok.kept hk, ?_⟩
  · rw [(one h1).1, (one h2).1]
  · have hy : scope.names.lookup y = some .cell ∨ scope.names.lookup y = some .free := hy
    rcases hy with hy | hy
    · exact absurd rfl (S.nocell _ (PySem.mem_of_lookup hy))
    · rw [S.free y hy]
      exact ⟨cc, by simp [List.lookup, cxS]⟩
  · have ha : vs[i]? = some v := by
      rw [List.getElem?_map] at h2
      cases e : vs[i]? with
      | none => rw [e] at h2; cases h2
      | some a => rw [e] at h2; cases h2; rfl
    obtain ⟨u, hu, rv⟩ := r.get ha
    have h1 : N[i]? = some y := h1
    exact ⟨u, rv, .inl ⟨S.par y (List.mem_of_getElem? h1), lookup_rev S.nd h1 hu⟩⟩
  · obtain ⟨_, rfl⟩ := one h
    exact ⟨_, _, hk _ _ hb.1, rfl⟩
  · obtain ⟨_, rfl⟩ := one h
    exact hb.2
  · show (vs.map some).length = N.length
    rw [List.length_map, hl]
/-- super().__init__(..) as a statement -/
theorem sup_stmt {CX : CXT} {N : List Str} {qual : Str} {params : Arguments} {body : List Stmt} {scope : Scope} {f cc C cda a : Addr} {fd : FuncData} {A : Around} {outer : List Env} {s s1 : Shared} {H H1 : Hp} {E : XK} {σ : L2.St} {self : Str} {ar : Arg} {e : Expr} {es : List Expr} {rest : List Stmt} {ta : TA} {p0 p1 p2 p3 p4 : Pos} {Q : Flow → Shared → Prop} {Z : Value → Shared → Prop}
    (T : XInit P K C f qual params body scope fd cda cc) (S : SupScope N scope) (hp : (params.posonlyargs ++ params.args).head? = some ar) (har : ar.arg = self) (hN : N[0]? = some self) (hσ : σ[0]? = some (some (.ref a))) (hm : mg ("super" : Str) = none)
    (ha : PA (cxS CX P w K mg base N qual scope f (.ref cda) cc A outer s H E) (e :: es) ta)
    (I : Inv (cxS CX P w K mg base N qual scope f (.ref cda) cc A outer s H E) [] σ H1 s1) (hx : H1 a = some (exo a C none))
    (hta : ta σ H1 fun vs H2 => vs.length ≤ 1000 ∧ H2 = H1)
    (hxe : ∀ u s', (cxS CX P w K mg base N qual scope f (.ref cda) cc A outer s H E).xe u s' → Z u s')
    (hk : ∀ s2, Inv (cxS CX P w K mg base N qual scope f (.ref cda) cc A outer s H E) [] σ H1 s2 → wpAny (model P w) (A.deeper (PySem.W.ksEnv qual scope s.heap.objs.size f (.ref cda) cc)) (execs rest (PySem.W.ksEnv qual scope s.heap.objs.size f (.ref cda) cc)) Q Z s2)
    (he : starEach (e :: es) (PySem.W.ksEnv qual scope s.heap.objs.size f (.ref cda) cc) = (false, eval e (PySem.W.ksEnv qual scope s.heap.objs.size f (.ref cda) cc)) :: starEach es (PySem.W.ksEnv qual scope s.heap.objs.size f (.ref cda) cc))
    (hpl : (backTo p3 (starEach es (PySem.W.ksEnv qual scope s.heap.objs.size f (.ref cda) cc))).any (·.1) = false)
    (hs : swapsWith (.Call (.Attribute (.Call (.Name "super" p0) [] [] p1) "__init__" p2) (e :: es) [] p3) none p4.line (PySem.W.ksEnv qual scope s.heap.objs.size f (.ref cda) cc) = pure false)
    {pl : Sem Bool} (hc : eval (.Call (.Attribute (.Call (.Name "super" p0) [] [] p1) "__init__" p2) (e :: es) [] p3) (PySem.W.ksEnv qual scope s.heap.objs.size f (.ref cda) cc) = (do
      let ov ← attributeBase (.Call (.Name "super" p0) [] [] p1) "__init__" (PySem.W.ksEnv qual scope s.heap.objs.size f (.ref cda) cc) (eval (.Call (.Name "super" p0) [] [] p1) (PySem.W.ksEnv qual scope s.heap.objs.size f (.ref cda) cc))
      standAt p2.atName
      let (g, first) ← holding [ov] (getMethod ov "__init__" pl)
      callWith p3 g first (backTo p3 (starEach (e :: es) (PySem.W.ksEnv qual scope s.heap.objs.size f (.ref cda) cc))) [])) :
    _root_.PySem.wpAt (model P w) (A.deeper (PySem.W.ksEnv qual scope s.heap.objs.size f (.ref cda) cc)) (.func body (PySem.W.ksEnv qual scope s.heap.objs.size f (.ref cda) cc))
      (execs (.Expr (.Call (.Attribute (.Call (.Name "super" p0) [] [] p1) "__init__" p2) (e :: es) [] p3) p4 :: rest) (PySem.W.ksEnv qual scope s.heap.objs.size f (.ref cda) cc)) Q Z s1 := by
  obtain ⟨oc, od, osl, name, dV, kV, doc, pm, an, ct, rfl, lk⟩ := T.lk
  obtain ⟨ccl, cdd, vsc, ccs, file, tf, hcode, hvs, hfile⟩ := T.file
  obtain ⟨cl, cld, csl, hcell⟩ := T.cell
  obtain ⟨nm, q, Nn, bs, bm, sn, sub, ab, col, dd, k0, k1, k2, k3, k5, hC, hbm⟩ := T.oex.cls
  have hcl : PySem.W.clsIn K C = some { name := nm, bases := bs, mro := .ref C :: bm, ns := Nn, qualname := q, hasDict := true, slotNames := sn, subclasses := sub, abstract := ab, collection := col, hasDel := false } := by unfold PySem.W.clsIn; rw [hC] <;> rfl
  have KX := I.kIn
  obtain ⟨m, hns, hlook⟩ := I.loc
  have hself : m self = some (.ref a) := by
    obtain ⟨u, ru, hl⟩ := hlook 0 self _ hN hσ (.inl (S.par self (List.mem_of_getElem? hN)))
    obtain rfl : u = Value.ref a := ru
    rcases hl with ⟨_, z⟩ | ⟨z, _⟩
    · exact z
    · have q : scope.names.lookup self = some .local := S.par self (List.mem_of_getElem? hN)
      have z : scope.names.lookup self = some .cell ∨ scope.names.lookup self = some .free := z
      rw [q] at z
      rcases z with z | z <;> cases z
  refine ks_wpAt_execs_cons (ks_wpAt_Expr_any (ks_wpAt_MethodCall (pl := pl) ?_ hc) (by unfold interactive; simp [S.kind]) hs)
  refine ks_wpAt_super_base (env := PySem.W.ksEnv qual scope s.heap.objs.size f (.ref cda) cc) S.sup S.cls (by decide) rfl (KX _ _ lk) rfl hp rfl (KX _ _ hcode) rfl hvs hfile T.top ?_
  obtain ⟨mb, hb1, hb2⟩ := I.mod.blt
  refine PySem.W.ks_loadName_global S.kind S.sup (Calls.loadGlobal_builtin (env := PySem.W.ksEnv qual scope s.heap.objs.size f (.ref cda) cc) (I.mod.glob.keeps I.bk) hm (hb1.keeps I.bk) ((hb2 _ (by decide)).trans PyProof.Rows.Boot.«super») ⟨rfl, ?_⟩)
  refine wpAny_loadName_free S.kind S.cls rfl ⟨_, KX _ _ hcell, rfl⟩ ?_
  rw [har]
  refine wpAny_loadName_local S.kind (S.par self (List.mem_of_getElem? hN)) hns hself ?_
  obtain ⟨t1, ho⟩ := exo_at I.hok hx
  obtain ⟨hp1, g1, d1, tk1, os1⟩ := s1
  have hCo := KX _ _ hC
  refine ks_wpAny_isType_cls hCo rfl ⟨rfl, ?_⟩
  refine ks_wpAny_call_super hCo rfl ho rfl (fun c z => by cases z) (PySem.W.looks_mroIn KX T.mro) fun h' hso hk1 => ?_
  have I2 : Inv (cxS CX P w K mg base N qual scope f (.ref cda) cc A outer s H E) [] σ H1 ⟨h', g1, d1, tk1, os1⟩ := I.kept (t' := tk1) hk1
  have KX2 := I2.kIn
  have ho2 := hk1 _ _ ho
  have hI : PySem.W.InstAt h' a { cls := .ref C, dict := none, data := .fields #[.ref t1, .none, .none, .none, .bool false, .none] } C none := ⟨ho2, rfl, rfl, trivial⟩
  have hm2 : PySem.W.alongIn K "__init__" (((Value.ref C :: bm).dropWhile (· != .ref C)).drop 1) = some (some (.builtin "ValueError.__init__")) := by
    have z := T.sup
    unfold PySem.W.ks_superIn at z
    rw [hcl] at z
    exact z
  refine PySem.W.kxs_getMethod PySem.W.kxs_ValueError hso (PySem.W.looks_opaque KX2 T.any) (l₀ := .ref C :: bm) (fun A Q E s k q => wpAny_bind ((PySem.W.looks_clsIn KX2 hcl) A _ E s k (wpAny_pure q))) rfl KX2 hm2 (hI.type.andThen (PySem.W.looks_subIn KX2 T.ve)) (PySem.W.ks_ne KX2 hI hcl) (by decide) ?_
  have hz : H1 h'.objs.size = none := I2.hok.fresh (Nat.le_refl _)
  have I3 : Inv (cxS CX P w K mg base N qual scope f (.ref cda) cc A outer s H E) [] σ H1 ⟨h'.push (PySem.W.kxs_mw "ValueError.__init__" a), g1, d1, tk1 + 1, os1⟩ := I2.kept (t' := tk1 + 1) fun b o z => Heap.get?_push_of_some _ z
  have hu : (h'.push (PySem.W.kxs_mw "ValueError.__init__" a)).get? h'.objs.size = some (PySem.W.kxs_mw "ValueError.__init__" a) := Heap.get?_push_size _ rfl
  have I4 : Inv (cxS CX P w K mg base N qual scope f (.ref cda) cc A outer s H E) [(h'.objs.size, PySem.W.kxs_mw "ValueError.__init__" a)] σ H1 ⟨h'.push (PySem.W.kxs_mw "ValueError.__init__" a), g1, d1, tk1 + 1, os1⟩ := I3.pins_of fun p hp => by
    obtain rfl : p = (h'.objs.size, PySem.W.kxs_mw "ValueError.__init__" a) := by simpa using hp
    exact ⟨hu, hz, Nat.ne_of_gt I2.lt, I2.nofs (Nat.le_refl _), fun v z => by cases z⟩
  show wpAny _ _ (callWith p3 (.ref h'.objs.size) [] (backTo p3 (starEach (e :: es) (PySem.W.ksEnv qual scope s.heap.objs.size f (.ref cda) cc))) []) _ _ _
  rw [he]
  refine PySem.W.kxs_callWith (i := "ValueError.__init__") (x := a) (by show (false || (backTo p3 (starEach es _)).any (·.1)) = false; rw [hpl]; rfl) ?_
  refine Calls.evalArgs_plain ?_
  have run := ha.run p3 _ _ σ H1 _ I4 hta
  have he' : starEach (e :: es) (cxS CX P w K mg base N qual scope f (.ref cda) cc A outer s H E).env = (false, eval e (PySem.W.ksEnv qual scope s.heap.objs.size f (.ref cda) cc)) :: starEach es (PySem.W.ksEnv qual scope s.heap.objs.size f (.ref cda) cc) := he
  rw [he'] at run
  refine wpAny_mono run (fun us s5 hq => ?_) hxe
  obtain ⟨vs, H5, I5, rv, hl5, e5⟩ := hq
  subst e5
  have pin := I5.pin (h'.objs.size, PySem.W.kxs_mw "ValueError.__init__" a) (by show _ ∈ [] ++ _; simp)
  refine ⟨pin.1, ?_⟩
  obtain ⟨t5, ho5⟩ := exo_at I5.hok hx
  have KX5 := I5.kIn
  have hus : us.length ≤ sizeLine := by rw [← rv.length, sizeLine_eq]; omega
  obtain ⟨hp5, g5, d5, tk5, os5⟩ := s5
  show wpAny _ _ (call (.ref h'.objs.size) us) _ _ _
  refine wpAny_call (codeAny_of_tree ?_)
  show wpAny _ _ (callAny (.ref h'.objs.size) ⟨us, []⟩) _ _ _
  simp only [callAny]
  refine wpAny_bind (wpAny_load pin.1 ?_)
  simp only [PySem.W.kxs_mw, show (Value.type "method-wrapper" == Value.type "method" || Value.type "method-wrapper" == Value.type "builtin_function_or_method" || Value.type "method-wrapper" == Value.type "method-wrapper") = true by decide, if_true]
  refine PySem.W.KFB.if_so (by decide) ?_
  refine wpAny_bind (PySem.W.check_bound_init F.excBase_ValueError.toExcCallFacts (KX5 _ _ hC) ho5 rfl ?_)
  refine wpAny_bind (wpAny_pure (wpAny_pure ?_))
  refine ⟨plainId_quiet F.excBase_ValueError.init.plain _, codeAny_builtin F.excBase_ValueError.initEntry ?_⟩
  refine PySem.W.exc_init_tree (cls := .ref C) (t0 := t5) (dv := none) (c2 := .none) (c3 := .none) (b4 := .bool false) ho5 hus fun h6 k6 e6 _ => ?_
  have J := I5.write (t' := tk5) (x := a) (e := a) (o := exo a C none) (by rw [hx]; exact True.intro) (.inl rfl) k6 ⟨_, e6⟩ (exo_ok e6)
  have eu : upd H5 a (exo a C none) = H5 := by
    funext b
    by_cases hb : b = a
    · rw [hb, upd_same, hx]
    · rw [upd_ne hb]
  rw [eu] at J
  exact PySem.wpAt_of_wpAny (hk _ (J.pins_of fun p hp => absurd hp (by simp)))
end
end DL
namespace DL
open PySem PySem.Spec L2
open PyProof.Rows
/-- the promise of an exception's __init__ -/
def spO (C : Addr) (fsn : List Str) : Sp := fun vs H Q _ => ∃ (a : Addr) (ws : List V), vs = .ref a :: ws ∧ ws.length = fsn.length ∧ H a = some (exo a C none) ∧
  ∀ (dx : Addr) (H' : Hp), H dx = none → dx ≠ a → (∀ b, b ≠ a → b ≠ dx → H' b = H b) → H' a = some (exo a C (some dx)) → H' dx = some (exd dx (fsn.zip ws).reverse) → Q .non H'
section
variable {P : Program} {w : World} {K : PySem.W.Frag} {mg : Str → Option Value} {base : Heap}
/-- the shape of the statement -/
abbrev supS (args : List Expr) (p0 p1 p2 p3 p4 : Pos) : Stmt := .Expr (.Call (.Attribute (.Call (.Name "super" p0) [] [] p1) "__init__" p2) args [] p3) p4
structure SupSyn (env : Env) (e : Expr) (es : List Expr) (p0 p1 p2 p3 p4 : Pos) (pl : Sem Bool) : Prop where
  he : starEach (e :: es) env = (false, eval e env) :: starEach es env
  hpl : (backTo p3 (starEach es env)).any (·.1) = false
  hs : swapsWith (.Call (.Attribute (.Call (.Name "super" p0) [] [] p1) "__init__" p2) (e :: es) [] p3) none p4.line env = pure false
  hc : eval (.Call (.Attribute (.Call (.Name "super" p0) [] [] p1) "__init__" p2) (e :: es) [] p3) env = (do
      let ov ← attributeBase (.Call (.Name "super" p0) [] [] p1) "__init__" env (eval (.Call (.Name "super" p0) [] [] p1) env)
      standAt p2.atName
      let (g, first) ← holding [ov] (getMethod ov "__init__" pl)
      callWith p3 g first (backTo p3 (starEach (e :: es) env)) [])
/-- the def's entry, the super statement, the rest -/
theorem fn_sup {CX : CXT} {k : Nat} {N : List Str} {qual : Str} {params : Arguments} {rest : List Stmt} {scope : Scope} {f cc C cda : Addr} {fd : FuncData} {self : Str} {ar : Arg} {e : Expr} {es : List Expr} {p0 p1 p2 p3 p4 : Pos} {pl : Sem Bool} {fsn : List Str}
    (T : XInit P K C f qual params (supS (e :: es) p0 p1 p2 p3 p4 :: rest) scope fd cda cc) (S : SupScope N scope) (hp : (params.posonlyargs ++ params.args).head? = some ar) (har : ar.arg = self) (hN : N[0]? = some self) (hlen : N.length = fsn.length + 1) (hm : mg ("super" : Str) = none)
    (Y : ∀ L, SupSyn (PySem.W.ksEnv qual scope L f (.ref cda) cc) e es p0 p1 p2 p3 p4 pl)
    (ha : ∀ (A : Around) (outer : List Env) (s : Shared) (H : Hp) (E : XK), ∃ ta, PA (cxS CX P w K mg base N qual scope f (.ref cda) cc A outer s H E) (e :: es) ta ∧ ∀ (σ : L2.St) (H1 : Hp), (∀ (i : Nat) (x : Str), N[i]? = some x → ∃ v, σ[i]? = some (some v)) → ta σ H1 fun vs H2 => vs.length ≤ 1000 ∧ H2 = H1)
    (hrest : ∀ (A : Around) (outer : List Env) (s : Shared) (H : Hp) (E : XK), ∃ t, PSs (cxS CX P w K mg base N qual scope f (.ref cda) cc A outer s H E) rest t ∧ ∀ (a : Addr) (ws : List V) (Q : VK), ws.length = fsn.length → H a = some (exo a C none) →
      (∀ (dx : Addr) (H' : Hp), H dx = none → dx ≠ a → (∀ b, b ≠ a → b ≠ dx → H' b = H b) → H' a = some (exo a C (some dx)) → H' dx = some (exd dx (fsn.zip ws).reverse) → Q .non H') → t { nx := fun _ H' => Q .non H', rt := Q } ((.ref a :: ws).map some) H) :
    L2.FnOk P w K mg base CX (k + 1) f fd N (spO C fsn) := by
  refine ⟨fun vs H Q E ⟨a, ws, ev, hl, _⟩ => by rw [ev, List.length_cons, hl, hlen], fun A outer s H args us vs Q E hr e0 hb r hsp => ?_⟩
  obtain ⟨a, ws, ev, hl, hx, hq⟩ := hsp
  subst ev
  obtain ⟨oc, od, osl, name, dV, kV, doc, pm, an, ct, efd, lk⟩ := T.lk
  have KX : K.In s.heap := e0.mod.kin.keeps fun b o e => (e0.bs b o e).1
  have lim : s.heap.NoLimit := e0.mod.nolimit.keeps fun b o e => (e0.bs b o e).1
  have hlv : (V.ref a :: ws).length = N.length := by rw [List.length_cons, hl, hlen]
  have T' := T
  subst efd
  refine ks_codeAny_call_defAt (fd := PySem.W.ksFn name qual params (supS (e :: es) p0 p1 p2 p3 p4 :: rest) scope dV kV doc pm an (.ref cda) ct cc) hr.depth (KX _ _ lk) rfl lim (PySem.W.codeRec_of KX T.code) rfl hb S.nocell (fun y hy => S.par _ (List.of_mem_zip hy).1) (fun h₀ hns hk => ?_) S.co S.gen S.kind
  have I := inv_sup (CX := CX) (qual := qual) (f := f) (cd := .ref cda) (E := E) (tk := s.toks + (N.zip us).length) S hr.hd e0 hlv r T.cell hns hk
  obtain ⟨ta, pa, hta⟩ := ha A outer s H E
  obtain ⟨t, ps, ht⟩ := hrest A outer s H E
  have Yl := Y s.heap.objs.size
  refine sup_stmt (σ := (V.ref a :: ws).map some) T' S hp har hN rfl hm pa I hx (hta _ _ fun i x hi => ?_) (fun u s' z => z) (fun s2 I2 => ?_) Yl.he Yl.hpl Yl.hs Yl.hc
  · have : i < (V.ref a :: ws).length := by rw [hlv]; exact (List.getElem?_eq_some_iff.mp hi).1
    exact ⟨_, by rw [List.getElem?_map, List.getElem?_eq_getElem this]; rfl⟩
  · refine wpAny_mono (ps.run [] s2 _ H _ I2 (ht a ws Q hl hx hq)) (fun fl s' hs => ?_) fun e s' hs => hs
    have fin : ∀ {σ' : L2.St} {H' : Hp} {v : V} {u : Value}, Inv (cxS CX P w K mg base N qual scope f (.ref cda) cc A outer s H E) [] σ' H' s' → RelV v u → Q v H' → CE outer P w H s Q u s' :=
      fun {σ' H' v u} J rv q => ⟨v, H', J.os, J.bare, J.base, J.hok, rv, q⟩
    cases fl with
    | ret u =>
      obtain ⟨v, σ', H', J, rv, q⟩ := hs
      exact fin J rv q
    | next =>
      obtain ⟨σ', H', J, q⟩ := hs
      exact fin (v := V.non) (u := Value.none) J rfl q
    | brk =>
      obtain ⟨_, _, _, q⟩ := hs
      exact False.elim q
    | cont =>
      obtain ⟨_, _, _, q⟩ := hs
      exact False.elim q
theorem tv {σ : L2.St} {H : Hp} {Q : VK} {i : Nat} {v : V} (h : σ[i]? = some (some v)) (q : Q v H) : tVar i σ H Q := ⟨v, h, q⟩
/-- def __init__(self, x): super().__init__(x); self.f = x -/
theorem fn_x1 {CX : CXT} {k : Nat} {x y fl : Str} {qual : Str} {params : Arguments} {scope : Scope} {f cc C cda : Addr} {fd : FuncData} {ar : Arg} {p0 p1 p2 p3 p4 q1 q2 q3 q4 q5 : Pos} {pl : Sem Bool}
    (T : XInit P K C f qual params [supS [.Name y q1] p0 p1 p2 p3 p4, .Assign [.Attribute (.Name x q2) fl q3] (.Name y q4) q5] scope fd cda cc) (S : SupScope [x, y] scope) (hp : (params.posonlyargs ++ params.args).head? = some ar) (har : ar.arg = x) (hm : mg ("super" : Str) = none)
    (Y : ∀ L, SupSyn (PySem.W.ksEnv qual scope L f (.ref cda) cc) (.Name y q1) [] p0 p1 p2 p3 p4 pl) (hno : PySem.W.findIn K (.ref C) fl = some none)
    (hs : ∀ L, swapsWith (.Name y q4) (some (.Attribute (.Name x q2) fl q3)) q5.line (PySem.W.ksEnv qual scope L f (.ref cda) cc) = pure false) (hx1 : (x == ("__debug__" : Str)) = false) (hx2 : (x == ("__classdict__" : Str)) = false) (hy1 : (y == ("__debug__" : Str)) = false) (hy2 : (y == ("__classdict__" : Str)) = false) :
    L2.FnOk P w K mg base CX (k + 1) f fd [x, y] (spO C [fl]) := by
  have vx : Vis scope x := .inl (S.par x (by simp))
  have vy : Vis scope y := .inl (S.par y (by simp))
  refine fn_sup T S hp har rfl rfl hm Y (fun A outer s H E => ⟨_, pa_cons (pe_var (i := 1) rfl vy hy1 hy2) pa_nil (by exact (Y s.heap.objs.size).he), fun σ H1 hv => ?_⟩) fun A outer s H E => ⟨_, pss_one (ps_ost (pe_var (i := 0) rfl vx hx1 hx2) (pe_var (i := 1) rfl vy hy1 hy2) (by exact hs s.heap.objs.size)), fun a ws Q hl hx hq => ?_⟩
  · obtain ⟨v, hv⟩ := hv 1 y rfl
    exact ⟨v, hv, by show [v].length ≤ 1000; simp, rfl⟩
  · match ws, hl with
    | [u], _ =>
      refine ⟨u, rfl, .ref a, rfl, a, C, rfl, T.oex, hno, .inl ⟨hx, fun dx hd ne => hq dx _ hd ne (fun b h1 h2 => by rw [upd_ne h1, upd_ne h2]) upd_same ?_⟩⟩
      rw [upd_ne ne, upd_same]
      rfl
end
end DL
namespace DL
open PySem PySem.Spec L2
open PyProof.Rows
section
variable {X : Cx} {c : Ct} {W : WX} {K : PySem.W.Frag} {e : Expr} {es : List Expr} {ms : Gm → T (List D)} {pos p pos' : Pos} {F H : Hp}
theorem DatF.zip_rev {fsn : List Str} : ∀ {vs : List V} {ds : List D}, Dats c K F vs ds → DatF c K F (fsn.zip vs).reverse (fsn.zip ds).reverse := by
  have app : ∀ {a b : List (Str × V)} {x y : List (Str × D)}, DatF c K F a x → DatF c K F b y → DatF c K F (a ++ b) (x ++ y) := by
    intro a b x y h
    induction a generalizing x with
    | nil => cases h; exact fun z => z
    | cons p a ih => cases h with | cons h1 h2 => exact fun z => .cons h1 (ih h2 z)
  induction fsn with
  | nil => intro vs ds _; simp; exact .nil
  | cons f fs ih =>
    intro vs ds h
    cases h with
    | nil => simp; exact .nil
    | cons h1 h2 =>
      rw [List.zip_cons_cons, List.zip_cons_cons, List.reverse_cons, List.reverse_cons]
      exact app (ih h2) (.cons h1 .nil)
/-! ### raise C(..) -/
def mRaise (cl : Nat) (fsn : List Str) (ms : Gm → T (List D)) : Gm → T Fl := fun γ => (ms γ).bind fun ds => if ds.length = fsn.length ∧ ds.length ≤ 1000 then .exc ⟨cl, (fsn.zip ds).reverse⟩ else .stuck
/-- the facts of an own exception class -/
structure XCls (P : Program) (w : World) (K : PySem.W.Frag) (mg : Str → Option Value) (base : Heap) (C : Addr) (fsn : List Str) (k : Nat) : Prop where
  oex : OexC K C
  fn : ∃ fI fd ps, PySem.W.findIn K (.ref C) "__init__" = some (some (.ref fI)) ∧ PySem.W.typeIn K (.ref fI) = some (.type "function") ∧ L2.FnOk P w K mg base (CX P w) k fI fd ps (spO C fsn) ∧ Binds K fd ps []
theorem ds_raise {x : Str} {cl k : Nat} {fsn : List Str} (XT : XCls X.prog X.w X.K X.mg X.base (c.cA cl) fsn k) (hr : Room (k + 1) X.A) (hc : X.calm = true) (tk : Takes X W) (hm : X.mg x = some (.ref (c.cA cl))) (ha : DA X c W (e :: es) ms) (hg : Gl X x := by rfl)
    (hdb : (x == ("__debug__" : Str)) = false := by decide) (he : starEach (e :: es) X.env = (false, eval e X.env) :: starEach es X.env := by rfl) (hpl : (backTo pos (starEach es X.env)).any (·.1) = false := by rfl) :
    DS X c W (.Raise (some (.Call (.Name x p) (e :: es) [] pos)) none pos') (mRaise cl fsn ms) := by
  obtain ⟨fI, fd, ps, iC, tI, F1, hb⟩ := XT.fn
  have mk := pmk_oex (CX := CX X.prog X.w) (p := p) XT.oex iC tI F1 hr.toRoom hb .nil (fun pins σ H s e s' I h => tk e s' (XE.of_call I (fun _ _ _ z => z.elim) h)) hg hm ha.pa hdb he hpl
  refine ⟨(ps_raise hc tk mk).imp fun D σ H ⟨ob, F0, H0, F, γ, j, s, h⟩ => ?_⟩
  refine ⟨F, γ, j, s.gd, s.env, (T.All.bind h).imp (fun j1 ds h1 F1 H1 vs e1 g1 r1 => ?_) fun _ _ z => z.px s.ext⟩
  split at h1
  · rename_i hl
    refine ⟨by rw [r1.length]; exact hl.2, fun a ha1 => ⟨a, vs, by rw [List.append_nil], by rw [r1.length]; exact hl.1, upd_same, fun dx H' hd ne hk hx hdx => ⟨rfl, dx, _, hx, hdx, ?_, ?_⟩⟩⟩
    · rw [upd_ne ne] at hd; exact hd
    · rw [upd_ne ne] at hd
      have hk' : ∀ b o, H1 b = some o → upd (del H' a) dx (.xd (fsn.zip vs).reverse) b = some o := fun b o q => by
        have n1 : b ≠ a := ne_of_none q ha1
        have n2 : b ≠ dx := ne_of_none q hd
        rw [upd_ne n2, del_ne n1, hk b n1 n2, upd_ne n1]
        exact q
      have e2 : Ext c F1 H1 F1 (upd (del H' a) dx (.xd (fsn.zip vs).reverse)) := ⟨fun _ _ q => q, fun b o _ _ q => hk' b o q, fun b q => by
        cases y : H1 b with
        | none => exact absurd y q
        | some o => rw [hk' b o y]; simp, fun _ q => .inl q⟩
      have g2 : Good c F1 (upd (del H' a) dx (.xd (fsn.zip vs).reverse)) j1 := by
        obtain ⟨g1, gp, gq, gt, gn⟩ := g1
        refine ⟨fun b o q => hk' b o (g1 b o q), gp, gq.keep fun b vs _ z => hk' b _ z, tabs_keep gt (fun b o _ h => hk' b o h) (fun b ps h => ?_), gn⟩
        have h := tbl_upd .xd h
        by_cases z : b = a
        · rw [z, del_same] at h; cases h
        · rw [del_ne z] at h
          by_cases z2 : b = dx
          · rw [z2, hdx] at h; exact absurd h (fun y => by unfold exd at y; cases y)
          · rw [hk b z z2, upd_ne z] at h; exact h
      exact h1 F1 _ dx σ (s.ext.trans (e1.trans e2)) g2 ⟨_, upd_same, DatF.zip_rev r1, (s.ext.trans e1).none hd, g1.fresh (o := .lst []) hd⟩
  · exact h1.elim
end
end DL
namespace DL
open PySem PySem.Spec L2
open PyProof.Rows
theorem exv_at {P : Program} {w : World} {H : Hp} {h : Heap} {a C : Addr} {d : Option Addr} (hok : HOk P w H h) (he : H a = some (exv a C d)) : ∃ (oe : Obj) (vs : Array Value), h.get? a = some oe ∧ Zc (.ref C) d oe ∧ oe.data = .fields vs := by
  have x : ObjOk P w H h a (.ext fun h => ∃ (oe : Obj) (vs : Array Value), h.get? a = some oe ∧ Zc (.ref C) d oe ∧ oe.data = .fields vs) := hok a _ he
  exact x.1
/-! ### try: body / except x as n: y = n -/
end DL
/-! DX4: a def that calls the lambda it got, within try / except .. as; a lambda handed to it. -/
namespace DL
open PySem PySem.Spec L2
open PyProof.Rows
/-! ### trees -/
end DL
namespace DL
open PySem PySem.Spec L2
open PyProof.Rows
end DL
/-! DY0: isinstance; fields of exceptions that are kept. -/
namespace DL
open PySem PySem.Spec L2
open PyProof.Rows
/-- what a plain own class says -/
structure OwnC (K : PySem.W.Frag) (C : Addr) : Prop where
  cl : Cls K C
  ha : PySem.W.findIn K (.ref C) "__class__" = some (some (.builtin "object.__class__"))
  hn : PySem.W.specialIn K (.builtin "object.__class__") "__get__" = some (some (.builtin "getset_descriptor.__get__"))
  ht : PySem.W.takesIn K (.builtin "object.__class__") = some true
  hm : PySem.W.mroIn K C (.type "object") = some true
/-- the tables of isinstance -/
structure IsT where
  own : Nat → Bool
  exc : Nat → Bool
  tb : Nat → Nat → Option Bool
  ts : Nat → String → Option Bool
  cl : Nat → Bool
def tyN : D → Option String
  | .non => some "NoneType"
  | .bl _ => some "bool"
  | .int _ => some "int"
  | .str _ => some "str"
  | .tup _ => some "tuple"
  | .lst _ => some "list"
  | .dct _ => some "dict"
  | _ => none
def tyNames : List String := ["NoneType", "bool", "int", "str", "tuple", "list", "dict"]
/-- between built-in types -/
def isiB (a b : String) : Option Bool := if tyNames.contains a && tyNames.contains b then some (a == b || (a == "bool" && b == "int")) else none
theorem isiB_kit : ∀ a ∈ tyNames, ∀ b ∈ tyNames, kitB a b = some (a == b || (a == "bool" && b == "int")) := by decide +kernel
theorem isiB_ok {K : PySem.W.Frag} {a b : String} {r : Bool} (h : isiB a b = some r) : PySem.W.kitOne K (.type a) (.type b) = some r := by
  unfold isiB at h
  split at h
  · rename_i q
    obtain ⟨q1, q2⟩ := Bool.and_eq_true_iff.mp q
    cases h
    exact kit_ty (isiB_kit a (by simpa using q1) b (by simpa using q2))
  · cases h
def isi1 (I : IsT) (x : D) (c : D) : Option Bool := match c with
  | .ty s => (match x with
    | .ins n _ => if I.own n then I.ts n s else none
    | .exn n _ => if I.exc n then I.ts n s else none
    | x => (tyN x).bind fun t => isiB t s)
  | .cls m => (match x with
    | .ins n _ => if I.own n then I.tb n m else none
    | .exn n _ => if I.exc n then I.tb n m else none
    | x => (tyN x).bind fun t => if I.cl m then some false else none)
  | _ => none
structure IsF (K : PySem.W.Frag) (c : Ct) (I : IsT) : Prop where
  own : ∀ n, I.own n = true → OwnC K (c.cA n)
  exc : ∀ n, I.exc n = true → ExcC K (c.cA n)
  tb : ∀ n m b, I.tb n m = some b → PySem.W.kitOne K (.ref (c.cA n)) (.ref (c.cA m)) = some b
  ts : ∀ n s b, I.ts n s = some b → PySem.W.kitOne K (.ref (c.cA n)) (.type s) = some b
  cl : ∀ m, I.cl m = true → ∀ t ∈ tyNames, PySem.W.kitOne K (.type t) (.ref (c.cA m)) = some false
section
variable {X : Cx} {c : Ct} {W : WX} {F H : Hp} {pins : List (Addr × Obj)} {σ : L2.St} {s : Shared} {T : IsT} {j : Nat}
theorem exc_isome {K : PySem.W.Frag} {D : Addr} (h : ExcC K D) : (PySem.W.clsIn K D).isSome = true := by
  obtain ⟨cd, hc, _⟩ := PySem.W.any_some h.hd
  rw [hc]; rfl
/-- the type of the value -/
inductive TyV (c : Ct) : D → Value → Prop
  | b {d : D} {t : String} : tyN d = some t → TyV c d (.type t)
  | i (n : Nat) (gs : List (Str × D)) : TyV c (.ins n gs) (.ref (c.cA n))
  | e (n : Nat) (gs : List (Str × D)) : TyV c (.exn n gs) (.ref (c.cA n))
def dOk (T : IsT) : D → Bool
  | .ins n _ => T.own n
  | .exn n _ => T.exc n
  | x => (tyN x).isSome
theorem tyX_seq {K : PySem.W.Frag} {a : Addr} {vs : List V} (h : SqT K H a vs) : TyX K H (.ref a) (.type "tuple") := by
  rcases h with (h | ⟨o, h⟩) | ⟨o, its, n, h, h1, _⟩
  · exact .base (.tup h)
  · exact .fTuple h
  · exact .kTuple h h1
/-- the library's word for the value -/
theorem kit_D {v : V} {x : RV} {u : Value} (IF : IsF X.K c T) (I : Inv X pins σ H s) (g : ∀ a o, F a = some o → H a = some o) (r : RDat c X.K F H v x) (rv : RelV v u) (hd : dOk T x.d = true) :
    ∃ t, TyV c x.d t ∧ ∃ P : Heap → Prop, PySem.W.KitX X.K u t P ∧ P s.heap ∧ u ≠ .builtin "__main__.__loader__#opaque" := by
  have one : ∀ {t : Value}, TyV c x.d t → TyX X.K H v t → ∃ t, TyV c x.d t ∧ ∃ P : Heap → Prop, PySem.W.KitX X.K u t P ∧ P s.heap ∧ u ≠ .builtin "__main__.__loader__#opaque" := fun {t} h1 h2 => ⟨t, h1, kit_of I rv h2⟩
  cases x with
  | brw ds =>
    obtain ⟨a, vs, rfl, _, h1, h2⟩ := r
    exact one (.b rfl) (.base (.lst h1))
  | bob n gs =>
    obtain ⟨a, dx, fs, rfl, _, h1, h2⟩ := r
    have oc := IF.own n hd
    exact one (.i n gs) (.base (.ins h1 oc.cl oc.ha oc.hn oc.ht oc.hm))
  | bdc z =>
    obtain ⟨a, u, rfl, _, h1, h2⟩ := r
    cases h2 with
    | k h2 => exact one (.b rfl) (.base (.dK h1))
    | t h2 => cases hd
  | val d =>
    cases r with
    | non => exact one (.b rfl) (.base .non)
    | bl b => exact one (.b rfl) (.base (.bl b))
    | int i => exact one (.b rfl) (.base (.int i))
    | str z => exact one (.b rfl) (.base (.str z))
    | tup h1 h2 => exact one (.b rfl) (tyX_seq (SqT.mono h1 g))
    | lst h1 h2 => exact one (.b rfl) (.base (.lst (g _ _ h1)))
    | dct h1 h2 => exact one (.b rfl) (.fDict (g _ _ h1))
    | dtt h1 h2 => cases hd
    | @ins a dx n fs gs h1 h2 =>
      have oc := IF.own n hd
      exact one (.i n gs) (.base (.ins (g _ _ h1) oc.cl oc.ha oc.hn oc.ht oc.hm))
    | @exn a d n fs gs h1 h2 h3 =>
      have ec := IF.exc n hd
      obtain ⟨oe, vs, e1, e2, e3⟩ := exv_at I.hok (g _ _ h1)
      obtain rfl : u = Value.ref a := rv
      have hx : ObjOk X.prog X.w H s.heap d (.xd fs) := I.hok d _ (g _ _ h2)
      obtain ⟨mA, hns, hr⟩ := hx
      obtain ⟨od, ho, hl⟩ := lookIn_ns hns
      have J : PySem.W.InstAt s.heap a oe (c.cA n) (some od) := ⟨e1, e2.1, by unfold PySem.W.notCls; rw [e3], by rw [e2.2]; exact ho⟩
      exact ⟨_, .e n gs, _, PySem.W.kitx_exc (od := some od) (ox := oe) (exc_isome ec) ec.hg ec.hk ec.hs ec.ha ec.hn ec.ht ec.hm, J, fun z => nomatch z⟩
    | @exn0 a n h1 =>
      have ec := IF.exc n hd
      obtain ⟨oe, vs, e1, e2, e3⟩ := exv_at I.hok (g _ _ h1)
      obtain rfl : u = Value.ref a := rv
      have J : PySem.W.InstAt s.heap a oe (c.cA n) none := ⟨e1, e2.1, by unfold PySem.W.notCls; rw [e3], by rw [e2.2]; trivial⟩
      exact ⟨_, .e n [], _, PySem.W.kitx_exc (od := none) (ox := oe) (exc_isome ec) ec.hg ec.hk ec.hs ec.ha ec.hn ec.ht ec.hm, J, fun z => nomatch z⟩
    | cls n => cases hd
    | ty n => cases hd
    | pen => cases hd
    | adr a => cases hd
theorem isi1_ok {d ce : D} {t cv : Value} {b : Bool} {K : PySem.W.Frag} (IF : IsF K c T) (ty : TyV c d t) (h : isi1 T d ce = some b) (hc : (∃ s, ce = .ty s ∧ cv = .type s) ∨ ∃ m, ce = .cls m ∧ cv = .ref (c.cA m)) : PySem.W.kitOne K t cv = some b := by
  rcases hc with ⟨s, rfl, rfl⟩ | ⟨m, rfl, rfl⟩
  · cases ty with
    | b e =>
      rename_i t
      have h : (tyN d).bind (fun t => isiB t s) = some b := by cases d <;> first | exact h | cases e
      rw [e] at h
      exact isiB_ok h
    | i n gs =>
      have h : (if T.own n then T.ts n s else none) = some b := h
      split at h
      · exact IF.ts n s b h
      · cases h
    | e n gs =>
      have h : (if T.exc n then T.ts n s else none) = some b := h
      split at h
      · exact IF.ts n s b h
      · cases h
  · cases ty with
    | b e =>
      rename_i t
      have h : (tyN d).bind (fun t => if T.cl m then some false else none) = some b := by cases d <;> first | exact h | cases e
      rw [e] at h
      have h : (if T.cl m then some false else none) = some b := h
      split at h
      · rename_i hm
        cases h
        refine IF.cl m hm t ?_
        cases d <;> cases e <;> decide
      · cases h
    | i n gs =>
      have h : (if T.own n then T.tb n m else none) = some b := h
      split at h
      · exact IF.tb n m b h
      · cases h
    | e n gs =>
      have h : (if T.exc n then T.tb n m else none) = some b := h
      split at h
      · exact IF.tb n m b h
      · cases h
theorem isi1_dOk {d ce : D} {b : Bool} (h : isi1 T d ce = some b) : dOk T d = true := by
  unfold isi1 at h
  cases ce with
  | ty s => cases d <;> first | rfl | (simp only at h; split at h <;> first | assumption | cases h) | cases h
  | cls m => cases d <;> first | rfl | (simp only at h; split at h <;> first | assumption | cases h) | cases h
  | _ => cases h
def gIsi (T : IsT) (x : RV) (y : RV) : DL.T RV := match isi1 T x.d y.d with
  | some b => okV (.bl b)
  | none => .stuck
def mIsi (T : IsT) (m mc : Gm → DL.T RV) : Gm → DL.T RV := fun γ => (m γ).bind fun x => (mc γ).bind fun y => gIsi T x y
theorem de_isi {e ce : Expr} {m mc : Gm → DL.T RV} {p pos : Pos} (IF : IsF X.K c T) (hm : X.mg "isinstance" = none) (he : DE X c W e m) (hce : DE X c W ce mc) (hg : Gl X "isinstance" := by rfl) (hs : starEach [e, ce] X.env = (false, eval e X.env) :: starEach [ce] X.env := by rfl) (hs2 : starEach [ce] X.env = (false, eval ce X.env) :: starEach [] X.env := by rfl)
    (hpl : (backTo pos (starEach [ce] X.env)).any (·.1) = false := by rfl) :
    DE X c W (.Call (.Name "isinstance" p) [e, ce] [] pos) (mIsi T m mc) := by
  refine ⟨⟨fun pins s σ H Q I ⟨F, γ, j, gd, en, h⟩ => ?_⟩⟩
  refine wpAny_Call_Name_kw (ld_blt I hg hm PyProof.Rows.Boot.«isinstance» ?_)
  refine PyProof.Rows.callWith_builtin1 (thn ((pa_cons he.pe (pa_cons hce.pe pa_nil hs2) hs).run pos pins s σ H (fun vs H2 => ∃ x y, vs = [x, y] ∧ ∃ F j dx dy, Good c F H2 j ∧ RDat c X.K F H2 x dx ∧ RDat c X.K F H2 y dy ∧ (gIsi T dx dy).All j (pE c X.K F H2 Q) (pX c X.K W F H2 σ)) I
    (two (R := fun x y H2 => ∃ x' y', [x, y] = [x', y'] ∧ ∃ F j dx dy, Good c F H2 j ∧ RDat c X.K F H2 x' dx ∧ RDat c X.K F H2 y' dy ∧ (gIsi T dx dy).All j (pE c X.K F H2 Q) (pX c X.K W F H2 σ)) gd en h fun j' dx dy F' H' x y e g' en' r1 r2 q => ⟨x, y, rfl, F', j', dx, dy, g', r1, r2, q.imp (fun _ _ z => z.ext e) fun _ _ z => z⟩)) fun us s1 ⟨vs, H1, I1, rv, x, y, ev, F1, j1, dx, dy, g1, r1, r2, q⟩ => ?_) hs hpl
  subst ev
  cases rv with
  | @cons _ u _ us' ru rr =>
  cases rr with
  | @cons _ u2 _ us'' ru2 rr2 =>
  cases rr2
  unfold gIsi at q
  split at q
  · rename_i b hb
    obtain ⟨t, ty, P, Z, p, hx⟩ := kit_D IF I1 g1.sub r1 ru (isi1_dOk hb)
    have hc : (∃ s, dy.d = .ty s ∧ u2 = .type s) ∨ ∃ m, dy.d = .cls m ∧ u2 = .ref (c.cA m) := by
      cases dy with
      | brw ds => cases hb
      | bob n gs => cases hb
      | bdc z => cases z <;> cases hb
      | val d =>
        cases r2 with
        | cls n => exact .inr ⟨n, rfl, ru2⟩
        | ty n => exact .inl ⟨n, rfl, ru2⟩
        | _ => cases hb
    exact PySem.W.kia_one Z I1.kIn p (isi1_ok IF ty hb hc) hx fun tk => ⟨.bl b, H1, I1.tok tk, rfl, pE.val q g1 (.bl _)⟩
  · exact q.elim
end
end DL
/-! DY1: == and != by an own __eq__; fields of exceptions. -/
namespace DL
open PySem PySem.Spec L2
open PyProof.Rows
/-! ### != by an own __eq__, over the written part -/
section
open PySem.W
variable {prog : Program} {w : World} {A : Around} {E : Value → Shared → Prop} {s : Shared} {K : Frag} {x C f : Addr} {ox : Obj} {od : Option Obj} {b tb : Value}
theorem objNe_own {Q : Fin → Shared → Prop} (X : K.In s.heap) (I : InstAt s.heap x ox C od) (hs : findIn K (.ref C) "__eq__" = some (some (.ref f))) (hf : isFn K (.ref f) = true) (hu : A.units < cLine)
    (hcall : wpAny (model prog w) A (call (.ref f) [.ref x, b]) (fun v s' => ∃ r, v = .bool r ∧ Q (.done (.ret (.bool (!r)))) s') E s) : wpAny (model prog w) A (Builtin.«object.__ne__» ⟨[.ref x, b], []⟩) Q E s := by
  unfold Builtin.«object.__ne__»
  repeat (first
    | with_reducible refine wpAny_cRoomFor hu ?_
    | (refine wpAny_bind (m := callSpecialIfBound? (.ref x) (Str.ofString "__eq__") [b])
        (ifBound_K X I hs hf (wpAny_mono hcall (fun r s' hr => by
          obtain ⟨r, rfl, hq⟩ := hr
          repeat (first | exact hq | exact wpAny_pure hq | exact wpAny_truthy_bool hq | (refine wpAny_bind (m := truthy (.bool _)) (wpAny_truthy_bool ?_)) | wp_step)) fun _ _ e => e)))
    | wp_step)
theorem ifBound_ne {args : List Value} {Q : Option Value → Shared → Prop} {M : Model} (X : K.In s.heap) (I : InstAt s.heap x ox C od) (hs : findIn K (.ref C) "__ne__" = some (some (.builtin "object.__ne__")))
    (h : wpAny M A (call (.builtin "object.__ne__") (.ref x :: args)) (fun v => Q (some v)) E s) : wpAny M A (callSpecialIfBound? (.ref x) "__ne__" args) Q E s := by
  simp only [callSpecialIfBound?, bindSpecialIfBound?]
  refine wpAny_holding (wpAny_bind (wpAny_bind (wpAny_bind (I.type.here ((looks_findIn X hs).here ?_)))))
  refine wpAny_bind (wpAny_askSetting (wpAny_ite ?_))
  have fin : wpAny M A (call (.builtin "object.__ne__") ([.ref x] ++ args) >>= fun v => pure (some v)) Q E s := wpAny_bind (wpAny_mono h (fun v s' h' => wpAny_pure h') fun _ _ h' => h')
  split
  · exact wpAny_bind (wpAny_of_eq (F.cmp_object.ne.bind _) (wpAny_pure (by exact fin)))
  · exact wpAny_tryCatch (wpAny_bind (wpAny_of_eq (F.cmp_object.ne.bind _) (wpAny_pure (by exact fin))))
theorem ne_own {Q : Value → Shared → Prop} (hu : A.units + 1 < cLine) (X : K.In s.heap) (I : InstAt s.heap x ox C od) (hb : Looks (model prog w) s.heap (typeOf b) tb) (hn : notFirst K C tb = true)
    (hs : findIn K (.ref C) "__eq__" = some (some (.ref f))) (hf : isFn K (.ref f) = true) (hne : findIn K (.ref C) "__ne__" = some (some (.builtin "object.__ne__"))) (hm : mroIn K C (.type "object") = some true)
    (h : wpAny (model prog w) A.in1 (call (.ref f) [.ref x, b]) (fun v s' => ∃ r, v = .bool r ∧ Q (.bool (!r)) s') E s) : wpAny (model prog w) A (richCompare .NotEq (.ref x) b) Q E s := by
  have one : wpAny (model prog w) A (tryCompare (.ref x) (cmpInfo .NotEq).2.1 b) (fun r s' => ∃ v, r = some v ∧ Q v s') E s := by
    unfold tryCompare
    refine wpAny_bind (ifBound_ne X I hne (wpAny_call (codeAny_call_builtin F.cmp_object.ne.plain F.cmpEntry_ne (check_slot F.cmpKind_ne F.cmpSplit_ne (I.type.andThen (looks_mroIn X hm)) (F.cmpArgs_ne _ _) ?_))))
    refine objNe_own (A := A.in1) X I hs hf hu (wpAny_mono h (fun v s' hv => ?_) fun _ _ e => e)
    obtain ⟨r, rfl, hq⟩ := hv
    exact ⟨r, rfl, wpAny_pure ⟨_, rfl, hq⟩⟩
  unfold richCompare
  simp only [oneThing_ref]
  refine wpAny_holding (wpAny_bind (wpAny_cRoomFor (Nat.lt_of_succ_lt hu) ?_))
  refine wpAny_bind (I.type.here (wpAny_bind (hb.here ?_)))
  split
  · rename_i q
    have e : subIn K tb (.ref C) = some false := by
      rcases Bool.or_eq_true_iff.mp hn with e | e
      · rw [beq_iff_eq.mp e] at q; simp at q
      · exact beq_iff_eq.mp e
    refine wpAny_bind ((looks_subIn X e).here ?_)
    simp only [Bool.false_eq_true, if_false]
    refine wpAny_bind (wpAny_mono one (fun r s' z => ?_) fun _ _ e => e)
    obtain ⟨v, rfl, hq⟩ := z
    exact wpAny_pure hq
  · refine wpAny_bind (wpAny_pure ?_)
    simp only [Bool.false_eq_true, if_false]
    refine wpAny_bind (wpAny_mono one (fun r s' z => ?_) fun _ _ e => e)
    obtain ⟨v, rfl, hq⟩ := z
    exact wpAny_pure hq
end
end DL
namespace DL
open PySem PySem.Spec L2
open PyProof.Rows
section
variable {X : Cx} {c : Ct} {W : WX} {IT : IsT} {k : Nat} {tbl : List (Nat × (List D → T D))}
theorem nf_kit {K : PySem.W.Frag} {C : Addr} {t : Value} (h : PySem.W.kitOne K t (.ref C) = some false) : PySem.W.notFirst K C t = true := by
  unfold PySem.W.kitOne at h
  split at h
  · cases h
  · have h : (if ((PySem.W.clsIn K C).isSome && PySem.W.typeIn K (.ref C) == some (.type "type")) = true then PySem.W.subIn K t (.ref C) else none) = some false := h
    split at h
    · unfold PySem.W.notFirst
      rw [h]
      simp
    · cases h
/-- whether y may stand behind an instance of the class n -/
def behB (IT : IsT) (n : Nat) (y : D) : Bool := dOk IT y && ((match y with | .ins m _ => m == n | _ => false) || isi1 IT y (.cls n) == some false)
theorem beh_ok {K : PySem.W.Frag} {y : D} {n : Nat} {t : Value} (IF : IsF K c IT) (ty : TyV c y t) (h : behB IT n y = true) : PySem.W.notFirst K (c.cA n) t = true := by
  obtain ⟨_, h⟩ := Bool.and_eq_true_iff.mp h
  rcases Bool.or_eq_true_iff.mp h with h | h
  · cases ty with
    | i m gs =>
      have e : m = n := eq_of_beq h
      rw [e]
      unfold PySem.W.notFirst
      simp
    | e m gs => cases h
    | b e => cases y <;> first | cases h | cases e
  · exact nf_kit (isi1_ok IF ty (eq_of_beq h) (.inr ⟨n, rfl, rfl⟩))
def ownEq (IT : IsT) (tbl : List (Nat × (List D → T D))) (n : Nat) (gs : List (Str × D)) (y : D) : T Bool := match tbl.lookup n with
  | some mf => if behB IT n y then (mf [.ins n gs, y]).bind fun d => (match d with
    | .bl b => .ok b
    | _ => .stuck) else .stuck
  | none => .stuck
/-- x == y -/
def gEqO (IT : IsT) (tbl : List (Nat × (List D → T D))) (x y : RV) : T RV := match x, y with
  | .val (.ins n gs), .val d => (ownEq IT tbl n gs d).bind fun b => okV (.bl b)
  | x, y => gEqD x y
def gNeO (IT : IsT) (tbl : List (Nat × (List D → T D))) (x y : RV) : T RV := match x, y with
  | .val (.ins n gs), .val d => (ownEq IT tbl n gs d).bind fun b => okV (.bl (!b))
  | x, y => gNeD x y
/-- the own __eq__ is asked, at X.A or one deeper -/
theorem run_eq {pins : List (Addr × Obj)} {σ : L2.St} {H F : Hp} {s : Shared} {A : Around} {a dx : Addr} {n j : Nat} {fs : List (Str × V)} {gs : List (Str × D)} {y : V} {u : Value} {d : D} {f : Addr} {mf : List D → T D} {Q : Bool → Hp → Prop}
    (FA : FnA X.prog X.w X.K X.mg X.base k f [] (spD c X.K mf)) (hr : Room k A) (hA : A.frames = X.A.frames) (tk : Takes X W) (I : Inv X pins σ H s) (g : Good c F H j) (ha : F a = some (.ins (c.cA n) dx fs)) (hd : DatF c X.K F fs gs) (ry : RelV y u) (r : Dat c X.K F y d)
    (h : ((mf [.ins n gs, d]).bind fun d => (match d with | .bl b => T.ok b | _ => .stuck)).All j (fun j' b => ∀ F' H', Ext c F H F' H' → Good c F' H' j' → Q b H') (pX c X.K W F H σ)) :
    wpAny (model X.prog X.w) A (call (.ref f) [.ref a, u]) (fun v s' => ∃ b, v = .bool b ∧ ∃ H', Inv X pins σ H' s' ∧ Q b H') X.xe s := by
  have e0 : Env0 X.prog X.w X.K X.mg X.base A X.stack s H := by
    have e := I.env0
    exact ⟨by rw [hA]; exact e.frames, e.mod, e.bs, e.bsz, e.funs, e.frf, e.hok, e.bare⟩
  refine wpAny_call (codeAny_mono (FA A X.stack s H [.ref a, u] [] [.ref a, y] (fun v H' => ∃ b, v = .bl b ∧ Q b H') (fun cls d H' => W cls d σ H') hr e0 (by rw [List.append_nil]; exact .cons rfl (.cons ry .nil)) rfl
    ⟨F, _, j, g, .cons (.ins ha hd) (.cons r .nil), (T.All.bind h).imp (fun j' d' q F' H' v e2 g2 rd => ?_) fun j' x q F' H' d e2 g2 qd => q F' H' d e2 g2 qd⟩) fun r s' hq => ?_)
  · cases rd with
    | bl b => exact ⟨b, rfl, q F' H' e2 g2⟩
    | _ => exact q.elim
  · cases r with
    | error e => exact tk e s' (XE.of_call I (fun _ _ _ z => z) hq)
    | ok fl =>
      cases fl with
      | ret w' =>
        obtain ⟨v, H', I', rv, b, ev, q⟩ := I.after hq
        subst ev
        exact ⟨b, rv, H', I', q⟩
      | next => exact False.elim hq
      | brk => exact False.elim hq
      | cont => exact False.elim hq
theorem ownEq_all {n : Nat} {gs : List (Str × D)} {d : D} {j : Nat} {P : Nat → Bool → Prop} {E : Nat → Xc → Prop} (h : (ownEq IT tbl n gs d).All j P E) : ∃ mf, tbl.lookup n = some mf ∧ behB IT n d = true ∧ ((mf [.ins n gs, d]).bind fun d => (match d with | .bl b => T.ok b | _ => .stuck)).All j P E := by
  unfold ownEq at h
  split at h
  · rename_i mf e
    split at h
    · rename_i hb
      exact ⟨mf, e, hb, h⟩
    · exact h.elim
  · exact h.elim
theorem o_eqO (IF : IsF X.K c IT) (M : MethOk X c k "__eq__" [] tbl) (hr : Room k X.A) (tk : Takes X W) : OpD X c W (compareOp .Eq) (gEqO IT tbl) := by
  intro pins s σ H x y v u Q F j dx dy I rx ry gd r1 r2 q
  unfold gEqO at q
  split at q
  · rename_i n gs d
    obtain ⟨mf, hl, hb, q⟩ := ownEq_all (T.All.bind q)
    cases r1 with
    | @ins a dxa _ fs _ h1 h2 =>
      obtain rfl : v = Value.ref a := rx
      obtain ⟨hc, f, hf, FA⟩ := M _ (lookup_mem hl)
      obtain ⟨mA, O, _⟩ := ins_get I.hok (gd.sub _ _ h1)
      obtain ⟨od, J, _⟩ := O.look
      obtain ⟨t, ty, P, Z, p, _⟩ := kit_D IF I gd.sub r2 ry (Bool.and_eq_true_iff.mp hb).1
      obtain ⟨m, hF⟩ := I.fr
      show wpAny _ _ (richCompare .Eq (.ref a) u) _ _ _
      refine PySem.W.cmp_K (op := .Eq) (tb := t) hr.units0 hF I.ok.mod.kin J (Z.ty _ _ I.kIn p) (beh_ok IF ty hb) hf.at_ hf.fn ?_
      refine wpAny_mono (run_eq FA hr rfl tk I gd h1 h2 ry r2 (Q := fun b H' => Q (.bl b) H') (q.imp (fun j' b z F' H' e g' => z F' H' (.bl b) e g' (show Dat _ _ _ _ _ from .bl b)) fun _ _ z => z)) (fun v s' hv => ?_) fun _ _ z => z
      obtain ⟨b, rfl, H', I', q'⟩ := hv
      exact ⟨.bl b, H', I', rfl, q'⟩
  · exact o_eq hr.units pins s σ H x y v u Q F j dx dy I rx ry gd r1 r2 q
/-- != of the classes in the table is object's -/
def NeOk (X : Cx) (c : Ct) (tbl : List (Nat × (List D → T D))) : Prop := ∀ p ∈ tbl, PySem.W.findIn X.K (.ref (c.cA p.1)) "__ne__" = some (some (.builtin "object.__ne__")) ∧ PySem.W.mroIn X.K (c.cA p.1) (.type "object") = some true
theorem o_neO (IF : IsF X.K c IT) (M : MethOk X c k "__eq__" [] tbl) (N : NeOk X c tbl) (hr : Room (k + 1) X.A) (tk : Takes X W) : OpD X c W (compareOp .NotEq) (gNeO IT tbl) := by
  intro pins s σ H x y v u Q F j dx dy I rx ry gd r1 r2 q
  unfold gNeO at q
  split at q
  · rename_i n gs d
    obtain ⟨mf, hl, hb, q⟩ := ownEq_all (T.All.bind q)
    cases r1 with
    | @ins a dxa _ fs _ h1 h2 =>
      obtain rfl : v = Value.ref a := rx
      obtain ⟨hc, f, hf, FA⟩ := M _ (lookup_mem hl)
      obtain ⟨hne, hmo⟩ := N _ (lookup_mem hl)
      obtain ⟨mA, O, _⟩ := ins_get I.hok (gd.sub _ _ h1)
      obtain ⟨od, J, _⟩ := O.look
      obtain ⟨t, ty, P, Z, p, _⟩ := kit_D IF I gd.sub r2 ry (Bool.and_eq_true_iff.mp hb).1
      have hun := hr.un
      show wpAny _ _ (richCompare .NotEq (.ref a) u) _ _ _
      refine ne_own (tb := t) (by omega) I.kIn J (Z.ty _ _ I.kIn p) (beh_ok IF ty hb) hf.at_ hf.fn hne hmo ?_
      refine wpAny_mono (run_eq FA hr.in1 rfl tk I gd h1 h2 ry r2 (Q := fun b H' => Q (.bl (!b)) H') (q.imp (fun j' b z F' H' e g' => z F' H' (.bl (!b)) e g' (show Dat _ _ _ _ _ from .bl (!b))) fun _ _ z => z)) (fun v s' hv => ?_) fun _ _ z => z
      obtain ⟨b, rfl, H', I', q'⟩ := hv
      exact ⟨b, rfl, .bl (!b), H', I', rfl, q'⟩
  · exact o_ne hr.units pins s σ H x y v u Q F j dx dy I rx ry gd r1 r2 q
/-! ### e.f, an exception's field -/
end
end DL
namespace DL
open PySem PySem.Spec L2
open PyProof.Rows
section
variable {X : Cx} {c : Ct} {W : WX} {e : Expr} {m : Gm → T RV} {pos p : Pos} {k : Nat}
/-! ### repr of data -/
def D.shows (d : D) : Option Str := match d.py with
  | some q => if q.showable && (!q.hasDict && (decide (q.shown.length ≤ 1000000) && decide (q.depth ≤ 60))) then some q.shown else none
  | none => none
def gRepr (x : RV) : T RV := match x.d.shows with
  | some z => okV (.str z)
  | none => .stuck
theorem shows_ok {d : D} {z : Str} (h : d.shows = some z) : ∃ q, d.py = some q ∧ q.showable = true ∧ q.hasDict = false ∧ q.shown.length ≤ sizeLine ∧ q.depth ≤ 60 ∧ z = q.shown := by
  unfold D.shows at h
  split at h
  · rename_i q e
    split at h
    · rename_i hq
      cases h
      obtain ⟨h1, hq⟩ := Bool.and_eq_true_iff.mp hq
      obtain ⟨h2, hq⟩ := Bool.and_eq_true_iff.mp hq
      obtain ⟨h3, h4⟩ := Bool.and_eq_true_iff.mp hq
      exact ⟨q, e, h1, by simpa using h2, line_of (of_decide_eq_true h3), of_decide_eq_true h4, rfl⟩
    · cases h
  · cases h
theorem call_reprD (hr : Room k X.A) : CallR X (.builtin "repr") (fun xs H Q => ∃ v q, xs = [v] ∧ Dp X.K H v q ∧ q.showable = true ∧ q.hasDict = false ∧ q.shown.length ≤ sizeLine ∧ q.depth ≤ 60 ∧ Q (.str q.shown) H) := by
  intro pins s σ H xs us Q I r ⟨v, q, ev, hd, h1, h2, h3, h4, hq⟩
  subst ev
  obtain ⟨u, eu, ru⟩ := vals1 r
  subst eu
  have hun := hr.toRoom.un
  cases hd with
  | non => cases ru; exact PySem.P.repr_of_none ⟨.str _, H, I.tok _, ⟨_, rfl⟩, hq⟩
  | bl b => cases ru; exact PySem.P.repr_of_bool ⟨.str _, H, I.tok _, ⟨_, rfl⟩, hq⟩
  | int i => obtain ⟨t, rfl⟩ := ru; exact PySem.P.repr_of_int (by simpa [PyData.showable] using h1) ⟨.str _, H, I.tok _, ⟨_, rfl⟩, hq⟩
  | str x => obtain ⟨t, rfl⟩ := ru; exact PySem.P.repr_of_str ⟨.str _, H, I.tok _, ⟨_, rfl⟩, hq⟩ h3
  | @tup a xs ds ha hl =>
    obtain ⟨as, rd⟩ := Dp.reads I (.tuple ds) (.ref a) u (.tup ha hl) ru
    obtain rfl : u = Value.ref a := ru
    exact PySem.repr_of_reads' rd h1 (fun z => by rw [h2] at z; cases z) hr.gd (by omega) (fun _ _ z => z) (fun h' u tk hk => ⟨.str _, H, I.kept (t' := tk) hk, ⟨_, rfl⟩, hq⟩) h3
  | @lst a xs ds ha hl =>
    obtain ⟨as, rd⟩ := Dp.reads I (.list ds) (.ref a) u (.lst ha hl) ru
    obtain rfl : u = Value.ref a := ru
    exact PySem.repr_of_reads' rd h1 (fun z => by rw [h2] at z; cases z) hr.gd (by omega) (fun _ _ z => z) (fun h' u tk hk => ⟨.str _, H, I.kept (t' := tk) hk, ⟨_, rfl⟩, hq⟩) h3
theorem bi_repr : Bi X c W (fun xs H Q => ∃ v q, xs = [v] ∧ Dp X.K H v q ∧ q.showable = true ∧ q.hasDict = false ∧ q.shown.length ≤ sizeLine ∧ q.depth ≤ 60 ∧ Q (.str q.shown) H) gRepr := by
  intro σ H v Q F j d gd r h
  unfold gRepr at h
  split at h
  · rename_i z e
    obtain ⟨q, e1, e2, e3, e4, e5, rfl⟩ := shows_ok e
    exact ⟨v, q, rfl, r.dp gd.sub e1, e2, e3, e4, e5, h.val gd (.str _)⟩
  · exact h.elim
end
end DL
namespace DL
open PySem PySem.Spec L2
open PyProof.Rows
section
variable {X : Cx} {c : Ct} {W : WX} {e : Expr} {es : List Expr} {m : Gm → T RV} {pos p : Pos} {k : Nat} {tbl : List (Nat × (List D → T D))}
/-- a def is run at any place of the frame -/
theorem run_own {pins : List (Addr × Obj)} {σ : L2.St} {H F : Hp} {s : Shared} {A : Around} {j : Nat} {us : List Value} {vs : List V} {ds : List D} {f : Addr} {mf : List D → T D} {P : Nat → D → Prop}
    (FA : FnA X.prog X.w X.K X.mg X.base k f [] (spD c X.K mf)) (hr : Room k A) (hA : A.frames = X.A.frames) (tk : Takes X W) (I : Inv X pins σ H s) (g : Good c F H j) (rv : Vals vs us) (r : Dats c X.K F vs ds)
    (h : (mf ds).All j P (pX c X.K W F H σ)) :
    wpAny (model X.prog X.w) A (call (.ref f) us) (fun w s' => ∃ v H' F' j' d, RelV v w ∧ Inv X pins σ H' s' ∧ Ext c F H F' H' ∧ Good c F' H' j' ∧ Dat c X.K F' v d ∧ P j' d) X.xe s := by
  have e0 : Env0 X.prog X.w X.K X.mg X.base A X.stack s H := by
    have e := I.env0
    exact ⟨by rw [hA]; exact e.frames, e.mod, e.bs, e.bsz, e.funs, e.frf, e.hok, e.bare⟩
  refine wpAny_call (codeAny_mono (FA A X.stack s H us [] vs (fun v H' => ∃ F' j' d, Ext c F H F' H' ∧ Good c F' H' j' ∧ Dat c X.K F' v d ∧ P j' d) (fun cls d H' => W cls d σ H') hr e0 (by rw [List.append_nil]; exact rv) rfl
    ⟨F, _, j, g, r, h.imp (fun j' d' q F' H' v e2 g2 rd => ⟨F', j', d', e2, g2, rd, q⟩) fun j' x q F' H' d e2 g2 qd => q F' H' d e2 g2 qd⟩) fun r s' hq => ?_)
  cases r with
  | error e => exact tk e s' (XE.of_call I (fun _ _ _ z => z) hq)
  | ok fl =>
    cases fl with
    | ret w' =>
      obtain ⟨v, H', I', rv, F', j', d, q⟩ := I.after hq
      exact ⟨v, H', F', j', d, rv, I', q⟩
    | next => exact False.elim hq
    | brk => exact False.elim hq
    | cont => exact False.elim hq
/-! ### str(..) -/
def strA : D → Option Str
  | .int i => if i.natAbs.log2 < 1920 then some (toString i) else none
  | .str z => some z
  | .bl b => some (if b then "True" else "False")
  | .non => some "None"
  | _ => none
def ownStr (tbl : List (Nat × (List D → T D))) (n : Nat) (gs : List (Str × D)) : T RV := match tbl.lookup n with
  | some mf => (mf [.ins n gs]).bind fun d => (match d with
    | .str z => okV (.str z)
    | _ => .stuck)
  | none => .stuck
def gStr (tbl : List (Nat × (List D → T D))) (x : RV) : T RV := match x with
  | .val (.ins n gs) => ownStr tbl n gs
  | x => (match strA x.d with
    | some z => okV (.str z)
    | none => .stuck)
theorem de_str1 {x : Str} (M : MethOk X c k "__str__" [] tbl) (hr : Room (k + 2) X.A) (tk : Takes X W) (hm : X.mg "str" = none) (he : DE X c W e m) (hg : Gl X "str" := by rfl) (hs : starEach [e] X.env = (false, eval e X.env) :: starEach [] X.env := by rfl) : DE X c W (.Call (.Name "str" p) [e] [] pos) (mUn (gStr tbl) m) := by
  refine ⟨⟨fun pins s σ H Q I ⟨F, γ, j, gd, en, h⟩ => ?_⟩⟩
  refine wpAny_Call_Name_kw (ld_blt I hg hm PyProof.Rows.Boot.«str» ?_)
  refine PyProof.Rows.callWith_type1 (thn ((pa_cons he.pe pa_nil hs).run pos pins s σ H (fun vs H1 => ∃ v F1 j1 x, vs = [v] ∧ Ext c F H F1 H1 ∧ Good c F1 H1 j1 ∧ RDat c X.K F1 H1 v x ∧ (gStr tbl x).All j1 (pE c X.K F H Q) (pX c X.K W F H σ)) I (tE.seq gd en h fun j1 x F1 H1 v e1 g1 en1 r1 h1 => ⟨v, F1, j1, x, rfl, e1, g1, r1, h1⟩)) fun us s1 ⟨vs, H1, I1, rv, v, F1, j1, x, ev, e1, g1, r1, h1⟩ => ?_) hs rfl
  subst ev
  obtain ⟨u, rfl, ru⟩ := vals1 rv
  have h1 := h1.imp (fun _ _ z => pE.ext z e1) fun _ _ z => pX.ext z e1
  unfold gStr at h1
  split at h1
  · rename_i n gs
    unfold ownStr at h1
    split at h1
    · rename_i mf hl
      cases r1 with
      | @ins a dx _ fs _ q1 q2 =>
        obtain rfl : u = Value.ref a := ru
        obtain ⟨hc, f, hf, FA⟩ := M _ (lookup_mem hl)
        obtain ⟨mA, O, _⟩ := ins_get I1.hok (g1.sub _ _ q1)
        obtain ⟨od, J, _⟩ := O.look
        have hun := hr.toRoom.un
        refine PySem.W.kso_call (by show X.A.units + 1 + 1 < cLine; omega) I1.kIn J hf.at_ hf.fn ?_
        refine wpAny_mono (run_own (vs := [.ref a]) FA hr.in1.in1 rfl tk I1 g1 (.cons rfl .nil) (.cons (.ins q1 q2) .nil) (T.All.bind h1)) (fun w s' hw => ?_) fun _ _ z => z
        obtain ⟨v', H', F', j', d, rv', I', e', g', rd, q⟩ := hw
        cases rd with
        | str z =>
          obtain ⟨t, rfl⟩ := rv'
          exact ⟨.str z, H', I', ⟨t, rfl⟩, q F' H' (.str z) e' g' (show Dat _ _ _ _ _ from .str z)⟩
        | _ => exact q.elim
    · exact h1.elim
  · split at h1
    · rename_i z ez
      have fin : ∀ {u' : Value} {s' : Shared}, Inv X pins σ H1 s' → RelV (.str z) u' → EP X pins σ Q u' s' := fun {u' s'} I' ru' => ⟨.str z, H1, I', ru', h1 F1 H1 (.str z) .refl g1 (show Dat _ _ _ _ _ from .str z)⟩
      cases x with
      | brw ds => cases ez
      | bob n gs => cases ez
      | bdc z => cases z <;> cases ez
      | val d =>
        cases r1 with
        | int i =>
          obtain ⟨t, rfl⟩ := ru
          simp only [RV.d, strA] at ez
          split at ez
          · rename_i hz
            cases ez
            exact PySem.P.str_of_int hz (fin (I1.tok _) ⟨_, rfl⟩)
          · cases ez
        | str y => obtain ⟨t, rfl⟩ := ru; cases ez; exact PySem.P.str_of_str (fin I1 ⟨_, rfl⟩)
        | bl b => cases ru; cases ez; exact PySem.P.str_of_bool (fin (I1.tok _) ⟨_, rfl⟩)
        | non => cases ru; cases ez; exact PySem.P.str_of_none (fin (I1.tok _) ⟨_, rfl⟩)
        | _ => cases ez
    · exact h1.elim
/-! ### f-strings -/
def fmtA : D → Option Str
  | .int i => if i.natAbs.log2 < 1920 then some (toString i) else none
  | .str z => if z.length ≤ 1000000 then some z else none
  | _ => none
def gFmt (x : RV) : T RV := match fmtA x.d with
  | some z => okV (.str z)
  | none => .stuck
theorem de_fmt (he : DE X c W e m) : DE X c W (.FormattedValue e (-1) none pos) (mUn gFmt m) := by
  refine ⟨(pe_fmt he.pe).imp fun σ H Q ⟨F, γ, j, gd, en, h⟩ => tE.seq gd en h fun j1 x F1 H1 v e1 g1 en1 r1 h1 => ?_⟩
  unfold gFmt at h1
  split at h1
  · rename_i z ez
    have q := h1 F1 H1 (.str z) e1 g1 (show Dat _ _ _ _ _ from .str z)
    have hx : (∃ i, x.d = .int i ∧ i.natAbs.log2 < 1920 ∧ z = toString i) ∨ (x.d = .str z ∧ z.length ≤ 1000000) := by
      unfold fmtA at ez
      split at ez
      · rename_i i ed
        split at ez
        · rename_i hz; cases ez; exact .inl ⟨i, ed, hz, rfl⟩
        · cases ez
      · rename_i y ed
        split at ez
        · rename_i hz; cases ez; exact .inr ⟨ed, hz⟩
        · cases ez
      · cases ez
    rcases hx with ⟨i, ed, hz, rfl⟩ | ⟨ed, hz⟩
    · exact .inr ⟨i, r1.int ed, hz, q⟩
    · exact .inl ⟨z, r1.str ed, line_of hz, q⟩
  · exact h1.elim
theorem de_joined1 (h : DE X c W e m) : DE X c W (.JoinedStr [e] pos) m := ⟨pe_joined1 h.pe⟩
/-! ### in, of flat items -/
def flatD : D → Bool
  | .non => true
  | .bl _ => true
  | .int _ => true
  | .str _ => true
  | _ => false
def vOf : D → V
  | .bl b => .bl b
  | .int i => .int i
  | .str z => .str z
  | _ => .non
theorem vOf_ok {K : PySem.W.Frag} {F : Hp} {v : V} {d : D} (r : Dat c K F v d) (h : flatD d = true) : v = vOf d ∧ flatV v = true := by
  cases r <;> first | exact ⟨rfl, rfl⟩ | cases h
theorem vOf_all {K : PySem.W.Frag} {F : Hp} : ∀ {vs : List V} {ds : List D}, Dats c K F vs ds → ds.all flatD = true → vs = ds.map vOf ∧ vs.all flatV = true
  | _, _, .nil, _ => ⟨rfl, rfl⟩
  | _, _, .cons h r, q => by
    obtain ⟨q1, q2⟩ := Bool.and_eq_true_iff.mp (show (flatD _ && List.all _ flatD) = true from q)
    obtain ⟨e1, f1⟩ := vOf_ok h q1
    obtain ⟨e2, f2⟩ := vOf_all r q2
    exact ⟨by rw [e1, e2]; rfl, by rw [List.all_cons, f1, f2]; rfl⟩
def inA (x : D) (y : D) : Option Bool := if flatD x then (match y with
  | .lst ds => if ds.all flatD then some (inV (vOf x) (ds.map vOf)) else none
  | .tup ds => if ds.all flatD then some (inV (vOf x) (ds.map vOf)) else none
  | _ => none) else none
theorem in_ok {F H : Hp} {x y : V} {dx dy : RV} {b : Bool} (g : ∀ a o, F a = some o → H a = some o) (r1 : RDat c X.K F H x dx) (r2 : RDat c X.K F H y dy) (h : inA dx.d dy.d = some b) : ∃ p xs, y = .ref p ∧ (SqL X.K H p xs ∨ SqT X.K H p xs) ∧ flatV x = true ∧ xs.all flatV = true ∧ b = inV x xs := by
  unfold inA at h
  split at h
  · rename_i fx
    have hx : x = vOf dx.d ∧ flatV x = true := by
      cases dx with
      | val d => exact vOf_ok r1 fx
      | brw ds => cases fx
      | bob n gs => cases fx
      | bdc z => cases z <;> cases fx
    split at h
    · rename_i ds ed
      split at h
      · rename_i fd
        cases h
        obtain ⟨a, vs, rfl, h1, h2⟩ := r2.lst g ed
        obtain ⟨e2, f2⟩ := vOf_all h2 fd
        exact ⟨a, vs, rfl, .inl (SqL.of h1), hx.2, f2, by rw [e2, ← hx.1]⟩
      · cases h
    · rename_i ds ed
      split at h
      · rename_i fd
        cases h
        obtain ⟨a, vs, rfl, h1, _, h2⟩ := r2.tup g ed
        obtain ⟨e2, f2⟩ := vOf_all h2 fd
        exact ⟨a, vs, rfl, .inr h1, hx.2, f2, by rw [e2, ← hx.1]⟩
      · cases h
    · cases h
  · cases h
def gIn (x y : RV) : T RV := match inA x.d y.d with
  | some b => okV (.bl b)
  | none => .stuck
theorem o_in : OpD X c W (compareOp .In) gIn := by
  refine opD_of op_in_seq fun σ H x y Q F j dx dy gd r1 r2 q => ?_
  unfold gIn at q
  split at q
  · rename_i b e
    obtain ⟨p, xs, rfl, h1, h2, h3, rfl⟩ := in_ok gd.sub r1 r2 e
    exact ⟨p, xs, rfl, h1, h2, h3, q.val gd (.bl _)⟩
  · exact q.elim
/-! ### range, enumerate -/
def rngD (lo : Int) (n : Nat) : List D := (List.range n).map fun (i : Nat) => .int (lo + (i : Int))
theorem itd_rng {K : PySem.W.Frag} {F : Hp} {lo : Int} {n : Nat} : ItD c K F (Itr lo n) (rngD lo n) := by
  refine ⟨fun i F' H' _ _ hi => (show i < n from by simpa [rngD] using hi), fun F' H' _ _ => by simp [rngD, Itr], fun i F' H' x H2 j _ g y => ?_⟩
  obtain ⟨rfl, rfl⟩ := y
  refine ⟨F', .refl, g, fun d hd => ?_⟩
  unfold rngD at hd
  rw [List.getElem?_map] at hd
  cases q : (List.range n)[i]? with
  | none => rw [q] at hd; cases hd
  | some k =>
    rw [q] at hd
    cases hd
    have := (List.getElem?_eq_some_iff.mp q)
    obtain ⟨h1, h2⟩ := this
    simp at h2
    rw [h2]
    exact .int _
def iRng1 (m : Gm → T RV) : Gm → T (List D) := fun γ => (m γ).bind fun x => match x.d with
  | .int n => if -(2 ^ 62) ≤ n ∧ n < 2 ^ 62 then .ok (rngD 0 n.toNat) else .stuck
  | _ => .stuck
theorem di_rng1 {tg : Expr} (hm : X.mg "range" = none) (he : DE X c W e m) (hg : Gl X "range" := by rfl) (hs : starEach [e] X.env = [(false, eval e X.env)] := by rfl) : DI X c W tg (.Call (.Name "range" p) [e] [] pos) (iRng1 m) := by
  refine ⟨(pi_range1 hg hm (pa_cons he.pe pa_nil hs) hs).imp fun σ H R ⟨F, γ, j, gd, en, h⟩ => tE.seq gd en h fun j1 x F1 H1 v e1 g1 en1 r1 h1 => ?_⟩
  split at h1
  · rename_i n ed
    split at h1
    · rename_i hn
      exact ⟨n, by rw [r1.int ed], hn.1, hn.2, h1 F1 H1 _ e1 g1 itd_rng⟩
    · exact h1.elim
  · exact h1.elim
def iRng2 (ma mb : Gm → T RV) : Gm → T (List D) := fun γ => (ma γ).bind fun x => (mb γ).bind fun y => match x.d, y.d with
  | .int a, .int b => if (-(2 ^ 62) ≤ a ∧ a < 2 ^ 62) ∧ -(2 ^ 62) ≤ b ∧ b < 2 ^ 62 then .ok (rngD a (b - a).toNat) else .stuck
  | _, _ => .stuck
/-! ### {} -/
/-- what comes back is locked: it never changes from now on -/
theorem pe_lockR {X : Cx} {e : Expr} {t : TE} (h : PE X e t) : PE X e (fun σ H Q => t σ H fun v H' => ∃ d u, H' d = some u ∧ Mut (some u) ∧ ∀ od, Q v (upd H' d (.frz od u))) := by
  refine ⟨fun pins s σ H Q I q => ?_⟩
  refine thn (h.run pins s σ H _ I q) fun u s1 ⟨v, H1, I1, rv, d, ob, hd, mu, q1⟩ => ?_
  obtain ⟨od, I2⟩ := I1.lock hd mu
  exact ⟨v, _, I2, rv, q1 od⟩
/-! ### a, b = x, y -/
def mPar2 (i k : Nat) (ms : Gm → T (List D)) : Gm → T Fl := fun γ => (ms γ).bind fun ds => match ds with
  | [a, b] => .ok (.nx ((γ.set i (.val a)).set k (.val b)))
  | _ => .stuck
theorem ds_par2 (i j : Nat) {x y : Str} {a b : Expr} {ms : Gm → T (List D)} {px py pt : Pos} {kt k2 pt2} (hc : X.calm = true) (hN : X.N.Nodup) (ha : DA X c W [a, b] ms) (hi : X.N[i]? = some x := by rfl) (hj : X.N[j]? = some y := by rfl) (hij : i ≠ j := by decide)
    (hx : X.env.scope.names.lookup x = some .local := by rfl) (hy : X.env.scope.names.lookup y = some .local := by rfl)
    (hw : swappedStores [.Tuple [.Name x px, .Name y py] kt pt] (.Tuple [a, b] k2 pt2) X.env = pure (some [x, y]) := by rfl)
    (hs : swapsWithSole [.Tuple [.Name x px, .Name y py] kt pt] (.Tuple [a, b] k2 pt2) pos.line X.env = pure false := by rfl) : DS X c W (.Assign [.Tuple [.Name x px, .Name y py] kt pt] (.Tuple [a, b] k2 pt2) pos) (mPar2 i j ms) := by
  refine ⟨(ps_par hc hN hi hj hij hx hy ha.pa hw hs).imp fun D σ H ⟨ob, F0, H0, F, γ, j0, s, h⟩ => ?_⟩
  refine ⟨F, γ, j0, s.gd, s.env, (T.All.bind h).imp (fun j1 ds h1 F1 H1 vs e1 g1 r1 => ?_) fun _ _ z => z.px s.ext⟩
  split at h1
  · rename_i d1 d2
    cases r1 with
    | cons q1 r1 =>
      cases r1 with
      | cons q2 r1 =>
        cases r1
        exact ⟨_, _, rfl, h1 _ F1 H1 (((s.step e1 g1).setVal q1).setVal q2)⟩
  · exact h1.elim
def mPar3 (i k l : Nat) (ms : Gm → T (List D)) : Gm → T Fl := fun γ => (ms γ).bind fun ds => match ds with
  | [a, b, c] => .ok (.nx (((γ.set i (.val a)).set k (.val b)).set l (.val c)))
  | _ => .stuck
end
end DL
namespace DL
open PySem PySem.Spec L2
open PyProof.Rows
section
variable {X : Cx} {c : Ct} {W : WX} {e : Expr} {m mi : Gm → T RV} {pos p p' : Pos}
/-! ### x[i] = e, x one's own list -/
def setAt (ds : List D) (i : Int) (d : D) : Option (List D) := match ixN ds.length i with
  | some k => some (ds.set k d)
  | none => none
def mIxS (k : Nat) (mi m : Gm → T RV) : Gm → T Fl := fun γ => match γ[k]? with
  | some (.own ds) => (m γ).bind fun x => (asD x).bind fun d => (mi γ).bind fun y => (match y.d with
    | .int i => (match setAt ds i d with
      | some es => .ok (.nx (γ.set k (.own es)))
      | none => .stuck)
    | _ => .stuck)
  | _ => .stuck
theorem Dats.set {K : PySem.W.Frag} {F : Hp} {v : V} {d : D} (r : Dat c K F v d) : ∀ {vs : List V} {ds : List D} (k : Nat), Dats c K F vs ds → Dats c K F (vs.set k v) (ds.set k d)
  | _, _, _, .nil => .nil
  | _, _, 0, .cons _ t => .cons r t
  | _, _, k + 1, .cons h t => .cons h (Dats.set r k t)
theorem ds_ixS (k : Nat) {x : Str} {ie : Expr} (he : DE X c W e m) (hie : DE X c W ie mi) (hN : X.N[k]? = some x := by rfl) (hv : Vis X.env.scope x := by first | exact Or.inl rfl | exact Or.inr (Or.inl rfl) | exact Or.inr (Or.inr rfl)) (hd : (x == ("__debug__" : Str)) = false := by decide) (hcd : (x == ("__classdict__" : Str)) = false := by decide)
    (ha : ∀ v, assign (.Subscript (.Name x p) ie p') X.env v = (do
      let ov ← holding [v] (eval (.Name x p) X.env)
      let iv ← holding [v, ov] (eval ie X.env)
      standAt p'
      holding [v, ov, iv] (setItem ov iv v)
      release [v, ov, iv] []) := by intro _; rfl)
    (hs : swapsWithSole [.Subscript (.Name x p) ie p'] e pos.line X.env = pure false := by rfl) (hw : swappedStores [.Subscript (.Name x p) ie p'] e X.env = pure none := by rfl) (h1 : (assignEach [.Subscript (.Name x p) ie p'] X.env).map (·.2) = [assign (.Subscript (.Name x p) ie p') X.env] := by rfl) :
    DS X c W (.Assign [.Subscript (.Name x p) ie p'] e pos) (mIxS k mi m) := by
  refine ⟨(ps_asg he.pe (pg_sub (pe_var hN hv hd hcd) hie.pe set_list ha) hs hw h1).imp fun D σ H ⟨ob, F0, H0, F, γ, j, s, h⟩ => ?_⟩
  unfold mIxS at h
  split at h
  · rename_i ds hk
    refine s.seq h fun j1 x F1 H1 v s1 e1 r1 h1 => ?_
    obtain ⟨d, rfl, hd, h2⟩ := r1.asD (T.All.bind h1)
    obtain ⟨a, vs, q1, q2, q3, q4, q5, q6⟩ := s1.env.own k ds hk
    refine ⟨.ref a, q1, ?_⟩
    refine s1.seq h2 fun j2 y F2 H2 w s2 e2 r2 h3 => ?_
    split at h3
    · rename_i i ei
      unfold setAt at h3
      split at h3
      · rename_i es he'
        split at he'
        · rename_i n hn
          cases he'
          have q5' := e2.keep a _ q2 .lst q5
          have q6' := q6.mono e2.up
          refine ⟨a, vs, i, n, rfl, r2.int ei, q5', by rw [q6'.length]; exact hn, ?_⟩
          exact h3 σ F2 _ (s2.write hk q1 (Dats.set (hd.mono e2.up) n q6'))
        · cases he'
      · exact h3.elim
    · exact h3.elim
  · exact h.elim
/-! ### // of wide numbers -/
def gDivW (x y : RV) : T RV := match x.d, y.d with
  | .int i, .int j => if 0 < j ∧ j.natAbs < 2 ^ 1000 then okV (.int (i / j)) else .stuck
  | _, _ => .stuck
end
end DL
/-! DP0: the pen: what _law_draw does. -/
namespace DL
open PySem PySem.Spec L2
open PyProof.Rows
/-! ### readings -/
abbrev rIntC : List V → Hp → VK → Prop := fun xs H Q => (∃ i, xs = [.int i] ∧ Q (.int i) H) ∨ ∃ k, xs = [.bl k] ∧ Q (.int (if k then 1 else 0)) H
abbrev rAbsC : List V → Hp → VK → Prop := fun xs H Q => ∃ i, xs = [.int i] ∧ Q (.int (if i < 0 then -i else i)) H
abbrev rLenC (K : PySem.W.Frag) : List V → Hp → VK → Prop := fun xs H Q => (∃ p ys, xs = [.ref p] ∧ (SqL K H p ys ∨ SqT K H p ys) ∧ Q (.int ys.length) H) ∨ ∃ z, xs = [.str z] ∧ z.length ≤ sizeLine ∧ Q (.int z.length) H
abbrev cI (i : Int) : TE := tC (.int i)
abbrev tpx (K : PySem.W.Frag) (j : Int) : TE := tOp (rIx K) (tVar 0) (cI j)
abbrev tin (t : TE) : TE := tCB rIntC (tCons t tNil)
abbrev tab (t : TE) : TE := tCB rAbsC (tCons t tNil)
abbrev tmod (a b : TE) : TE := tOp (rI (fun _ j => 0 < j) fun i j => .int (i % j)) a b
abbrev tdvW (a b : TE) : TE := tOp (rI CDivW fun i j => .int (i / j)) a b
abbrev tad (a b : TE) : TE := tOp (rI0 fun i j => .int (i + j)) a b
abbrev tsb (a b : TE) : TE := tOp (rI0 fun i j => .int (i - j)) a b
abbrev tml (a b : TE) : TE := tOp (rI CMul fun i j => .int (i * j)) a b
abbrev tpw (a b : TE) : TE := tOp (rI CPow fun i j => .int (i ^ j.toNat)) a b
abbrev tpset (j : Int) (t : TE) : TS := tAsg t (L2.gSub (tVar 0) (cI j) rSetL)
abbrev tlen0 (K : PySem.W.Frag) : TE := tCB (rLenC K) (tCons (tpx K 0) tNil)
abbrev dA (K : PySem.W.Frag) : TS := tSeq (tAsg (tmod (tin (tpx K 2)) (tVar 1)) (gName 2)) (tSeq (tpset 2 (tdvW (tin (tpx K 2)) (tVar 1))) (tRet (tVar 2)))
abbrev dB (K : PySem.W.Frag) : TS := tSeq (tAsg (tad (tml (cI 2) (tsb (tab (tVar 4)) (tpw (cI 10) (cI 18)))) (tin (tOp (rI0 fun i j => .bl (decide (i < j))) (tVar 4) (cI 0)))) (gName 5)) (tSeq (tpset 2 (tdvW (tin (tVar 5)) (tVar 1))) (tRet (tmod (tin (tVar 5)) (tVar 1))))
abbrev tDraw (K : PySem.W.Frag) (a1 a2 a3 a4 a5 a6 a7 p1 p2 p3 : Int) : TS :=
  tSeq (tIfS (tTest (tOp (rI0 fun i j => .bl (decide (j < i))) (tpx K 2) (cI 0))) (dA K) tNext) (tSeq (tAsg (tpx K 1) (gName 3)) (tSeq (tpset 1 (tad (tVar 3) (cI 1))) (tSeq (tAsg (tad (tml (cI a1) (tVar 3)) (cI a2)) (gName 4))
    (tSeq (tIfS (tTest (tOp (rNeD K) (tpx K 0) (tLst tNil))) (tAsg (tOp (rIx K) (tpx K 0) (tmod (tin (tVar 3)) (tlen0 K))) (gName 4)) tNext)
    (tSeq (tIfS (tAnd (tTest (tOp (rI0 fun i j => .bl (decide (i < j))) (tVar 3) (tlen0 K))) (tTest (tOp (rI0 fun i j => .bl (decide (j ≤ i))) (tab (tVar 4)) (tpw (cI 10) (cI 18))))) (dB K) tNext)
    (tSeq (tAsg (tmod (tin (tpw (tad (tad (tmod (tin (tVar 4)) (cI p1)) (tml (cI a3) (tVar 3))) (cI a4)) (cI 5))) (cI p2)) (gName 6))
    (tSeq (tAsg (tmod (tin (tpw (tad (tad (tml (tVar 6) (tad (tml (cI 2) (tVar 3)) (cI a5))) (tml (tml (cI a6) (tVar 3)) (tVar 3))) (cI a7)) (cI 3))) (cI p3)) (gName 6))
    (tRet (tmod (tin (tdvW (tVar 6) (cI 32))) (tVar 1))))))))))
/-! ### values of readings -/
/-- t gives v, and changes nothing -/
def Ev (t : TE) (σ : L2.St) (H : Hp) (v : V) : Prop := ∀ Q : VK, Q v H → t σ H Q
section
variable {σ : L2.St} {H : Hp} {a b : TE} {i j : Int} {K : PySem.W.Frag}
theorem ev_c (i : Int) : Ev (cI i) σ H (.int i) := fun Q q => q
theorem ev_v (k : Nat) {v : V} (h : σ[k]? = some (some v)) : Ev (tVar k) σ H v := fun Q q => ⟨v, h, q⟩
theorem ev_add (ha : Ev a σ H (.int i)) (hb : Ev b σ H (.int j)) : Ev (tad a b) σ H (.int (i + j)) := fun Q q => ha _ (hb _ ⟨i, j, rfl, rfl, q⟩)
theorem ev_sub (ha : Ev a σ H (.int i)) (hb : Ev b σ H (.int j)) : Ev (tsb a b) σ H (.int (i - j)) := fun Q q => ha _ (hb _ ⟨i, j, rfl, rfl, q⟩)
theorem ev_mul (h : CMul i j) (ha : Ev a σ H (.int i)) (hb : Ev b σ H (.int j)) : Ev (tml a b) σ H (.int (i * j)) := fun Q q => ha _ (hb _ ⟨i, j, rfl, rfl, h, q⟩)
theorem ev_mod (h : 0 < j) (ha : Ev a σ H (.int i)) (hb : Ev b σ H (.int j)) : Ev (tmod a b) σ H (.int (i % j)) := fun Q q => ha _ (hb _ ⟨i, j, rfl, rfl, h, q⟩)
theorem ev_div (h : CDivW i j) (ha : Ev a σ H (.int i)) (hb : Ev b σ H (.int j)) : Ev (tdvW a b) σ H (.int (i / j)) := fun Q q => ha _ (hb _ ⟨i, j, rfl, rfl, h, q⟩)
theorem ev_pow (h : CPow i j) (ha : Ev a σ H (.int i)) (hb : Ev b σ H (.int j)) : Ev (tpw a b) σ H (.int (i ^ j.toNat)) := fun Q q => ha _ (hb _ ⟨i, j, rfl, rfl, h, q⟩)
theorem ev_in (ha : Ev a σ H (.int i)) : Ev (tin a) σ H (.int i) := fun Q q => ha _ (.inl ⟨i, rfl, q⟩)
theorem ev_inB {k : Bool} (ha : Ev a σ H (.bl k)) : Ev (tin a) σ H (.int (if k then 1 else 0)) := fun Q q => ha _ (.inr ⟨k, rfl, q⟩)
theorem ev_abs (ha : Ev a σ H (.int i)) : Ev (tab a) σ H (.int (if i < 0 then -i else i)) := fun Q q => ha _ ⟨i, rfl, q⟩
theorem ev_lt (ha : Ev a σ H (.int i)) (hb : Ev b σ H (.int j)) : Ev (tOp (rI0 fun i j => .bl (decide (i < j))) a b) σ H (.bl (decide (i < j))) := fun Q q => ha _ (hb _ ⟨i, j, rfl, rfl, q⟩)
theorem ev_gt (ha : Ev a σ H (.int i)) (hb : Ev b σ H (.int j)) : Ev (tOp (rI0 fun i j => .bl (decide (j < i))) a b) σ H (.bl (decide (j < i))) := fun Q q => ha _ (hb _ ⟨i, j, rfl, rfl, q⟩)
theorem ev_ge (ha : Ev a σ H (.int i)) (hb : Ev b σ H (.int j)) : Ev (tOp (rI0 fun i j => .bl (decide (j ≤ i))) a b) σ H (.bl (decide (j ≤ i))) := fun Q q => ha _ (hb _ ⟨i, j, rfl, rfl, q⟩)
theorem ev_ix {p : Addr} {xs : List V} {v : V} (ha : Ev a σ H (.ref p)) (hb : Ev b σ H (.int i)) (hp : H p = some (.lst xs)) (hv : atI xs i = some v) : Ev (tOp (rIx K) a b) σ H v := fun Q q => ha _ (hb _ (.inl ⟨p, xs, i, v, rfl, rfl, SqL.of hp, hv, q⟩))
theorem ev_len {p : Addr} {xs : List V} (ha : Ev a σ H (.ref p)) (hp : H p = some (.lst xs)) : Ev (tCB (rLenC K) (tCons a tNil)) σ H (.int xs.length) := fun Q q => ha _ (.inl ⟨p, xs, rfl, .inl (SqL.of hp), q⟩)
theorem ev_if {t u : TS} {D : Ends} {k : Bool} (h : Ev a σ H (.bl k)) (q : if k = true then t D σ H else u D σ H) : tIfS (tTest a) t u D σ H := h _ ⟨k, rfl, q⟩
end
end DL
namespace DL
open PySem PySem.Spec L2
open PyProof.Rows
theorem shaped_ints (ns : List Int) : SeqAt.shaped (.list (ns.map PyData.int)) = true := by
  have h1 : ∀ l : List Int, PyData.canLayAll0 (l.map PyData.int) = true := by
    intro l
    induction l with
    | nil => rfl
    | cons x l ih => simp [PyData.canLayAll0, PyData.canLay0, ih]
  have h2 : ∀ l : List Int, PyData.depthAll (l.map PyData.int) = 0 := by
    intro l
    induction l with
    | nil => rfl
    | cons x l ih => simp [PyData.depthAll, PyData.depth, ih]
  unfold SeqAt.shaped
  rw [Bool.and_eq_true]
  refine ⟨?_, ?_⟩
  · simp only [PyData.canLay0]
    exact h1 ns
  · rw [decide_eq_true_eq]
    simp only [PyData.depth]
    rw [h2]
    omega
theorem dpAll_ints {K : PySem.W.Frag} {H : Hp} : ∀ ns : List Int, DpAll K H (ns.map V.int) (ns.map PyData.int)
  | [] => .nil
  | i :: ns => .cons (.int i) (dpAll_ints ns)
theorem atI_nat {α : Type} {l : List α} {k : Nat} {x : α} (h : l[k]? = some x) : atI l (k : Int) = some x := by
  have hk : k < l.length := (List.getElem?_eq_some_iff.mp h).1
  unfold atI ixN
  rw [if_pos (by omega), if_pos (by omega)]
  simpa using h
theorem emod_r {i n : Int} (h : 0 < n) : 0 ≤ i % n ∧ i % n < n := ⟨Int.emod_nonneg i (by omega), Int.emod_lt_of_pos i h⟩
/-- the parts of the heap that are not the pen's -/
structure DrK (pa sa : Addr) (H H' : Hp) : Prop where
  keep : ∀ b o, b ≠ pa → H b = some o → H' b = some o
  new : ∀ b, H b = none → H' b = none ∨ ∃ vs, H' b = some (.lst vs)
theorem DrK.refl {pa sa : Addr} {H : Hp} : DrK pa sa H H := ⟨fun _ _ _ h => h, fun _ h => .inl h⟩
theorem DrK.pen {pa sa : Addr} {H H' : Hp} {vs ws : List V} (d : DrK pa sa H H') (h : H pa = some (.lst ws)) : DrK pa sa H (upd H' pa (.lst vs)) :=
  ⟨fun b o n q => by rw [upd_ne n]; exact d.keep b o n q, fun b q => by
    by_cases e : b = pa
    · rw [e] at q; rw [h] at q; cases q
    · rw [upd_ne e]; exact d.new b q⟩
theorem DrK.lay {pa sa p : Addr} {H H' : Hp} {vs : List V} (d : DrK pa sa H H') (h : H' p = none) : DrK pa sa H (upd H' p (.lst vs)) :=
  ⟨fun b o n q => by
    have := d.keep b o n q
    rw [upd_ne (ne_of_none this h)]; exact this, fun b q => by
    by_cases e : b = p
    · rw [e, upd_same]; exact .inr ⟨_, rfl⟩
    · rw [upd_ne e]; exact d.new b q⟩
theorem draw_run {K : PySem.W.Frag} {pa sa : Addr} {ns : List Int} {H : Hp} {k r n : Int} {j bl : Nat} {Q : VK} {a1 a2 a3 a4 a5 a6 a7 p1 p2 p3 : Int}
    (hA : 0 ≤ a1 ∧ a1 < 2 ^ 20 ∧ 0 ≤ a3 ∧ a3 < 2 ^ 20 ∧ 0 ≤ a4 ∧ a4 < 2 ^ 20 ∧ 0 ≤ a5 ∧ a5 < 2 ^ 20 ∧ 0 ≤ a6 ∧ a6 < 2 ^ 20 ∧ 0 ≤ a7 ∧ a7 < 2 ^ 20 ∧ 0 < p1 ∧ p1 < 2 ^ 31 ∧ 0 < p2 ∧ p2 < 2 ^ 31 ∧ 0 < p3 ∧ p3 < 2 ^ 31)
    (hpa : H pa = some (.lst [.ref sa, .int k, .int r])) (hsa : H sa = some (.lst (ns.map V.int))) (ne : pa ≠ sa) (hk0 : 0 ≤ k) (hkj : k ≤ j) (hj : j < 1000000) (hr0 : 0 ≤ r) (hrb : r.natAbs < 2 ^ bl) (hn0 : 0 < n) (hnb : n.natAbs < 2 ^ 1000)
    (hns : ∀ z ∈ ns, 2 * z.natAbs + 2 < 2 ^ bl)
    (hQ : ∀ d H' k' r', 0 ≤ d → d < n → H' pa = some (.lst [.ref sa, .int k', .int r']) → 0 ≤ k' → k' ≤ ((j + 1 : Nat) : Int) → 0 ≤ r' → r'.natAbs < 2 ^ bl → DrK pa sa H H' → Q (.int d) H') :
    tDraw K a1 a2 a3 a4 a5 a6 a7 p1 p2 p3 { nx := fun _ H' => Q .non H', rt := Q } [some (.ref pa), some (.int n), none, none, none, none, none] H := by
  obtain ⟨b1, b2, b3, b4, b5, b6, b7, b8, b9, b10, b11, b12, b13, b14, b15, b16, b17, b18⟩ := hA
  have dW : ∀ i, CDivW i n := fun i => wide_div hn0 hnb (by omega) (by omega)
  have divb : ∀ g : Int, 0 ≤ g → g.natAbs < 2 ^ bl → 0 ≤ g / n ∧ (g / n).natAbs < 2 ^ bl := fun g h0 h1 => by
    have e1 : 0 ≤ g / n := Int.ediv_nonneg h0 (by omega)
    have e2 : g / n ≤ g := Int.ediv_le_self n h0
    exact ⟨e1, by omega⟩
  refine ev_if (ev_gt (ev_ix (i := 2) (ev_v 0 rfl) (ev_c 2) hpa rfl) (ev_c 0)) ?_
  by_cases hr : (0 : Int) < r
  · rw [if_pos (decide_eq_true hr)]
    refine ev_mod hn0 (ev_in (ev_ix (i := 2) (ev_v 0 rfl) (ev_c 2) hpa rfl)) (ev_v 1 rfl) _ ?_
    refine ev_div (dW r) (ev_in (ev_ix (i := 2) (ev_v 0 rfl) (ev_c 2) hpa rfl)) (ev_v 1 rfl) _ ?_
    refine ⟨.ref pa, rfl, pa, _, 2, 2, rfl, rfl, hpa, rfl, ?_⟩
    obtain ⟨d1, d2⟩ := divb r hr0 hrb
    refine ⟨_, rfl, hQ _ _ k (r / n) (emod_r hn0).1 (emod_r hn0).2 upd_same hk0 (by omega) d1 d2 (DrK.refl.pen hpa)⟩
  · rw [if_neg (by rw [decide_eq_true_eq]; exact hr)]
    refine ev_ix (i := 1) (ev_v 0 rfl) (ev_c 1) hpa rfl _ ?_
    refine ev_add (ev_v 3 rfl) (ev_c 1) _ ?_
    refine ⟨.ref pa, rfl, pa, _, 1, 1, rfl, rfl, hpa, rfl, ?_⟩
    have hpa2 : upd H pa (.lst ([V.ref sa, .int k, .int r].set 1 (.int (k + 1)))) pa = some (.lst [.ref sa, .int (k + 1), .int r]) := upd_same
    have hsa2 : upd H pa (.lst ([V.ref sa, .int k, .int r].set 1 (.int (k + 1)))) sa = some (.lst (ns.map V.int)) := by rw [upd_ne (Ne.symm ne)]; exact hsa
    have dr2 : DrK pa sa H (upd H pa (.lst ([V.ref sa, .int k, .int r].set 1 (.int (k + 1))))) := DrK.refl.pen hpa
    revert hpa2 hsa2 dr2
    generalize upd H pa (.lst ([V.ref sa, .int k, .int r].set 1 (.int (k + 1)))) = H2
    intro hpa2 hsa2 dr2
    refine ev_add (ev_mul (.inl ⟨by omega, by omega⟩) (ev_c a1) (ev_v 3 rfl)) (ev_c a2) _ ?_
    -- pen[0] != []
    refine ev_ix (i := 0) (ev_v 0 rfl) (ev_c 0) hpa2 rfl _ ?_
    refine ⟨by decide, fun p hp => ?_⟩
    have npa : p ≠ pa := fun z => by rw [z, hpa2] at hp; cases hp
    have nsa : p ≠ sa := fun z => by rw [z, hsa2] at hp; cases hp
    have hpa3 : upd H2 p (.lst []) pa = some (.lst [.ref sa, .int (k + 1), .int r]) := by rw [upd_ne (Ne.symm npa)]; exact hpa2
    have hsa3 : upd H2 p (.lst []) sa = some (.lst (ns.map V.int)) := by rw [upd_ne (Ne.symm nsa)]; exact hsa2
    have hp3 : upd H2 p (.lst []) p = some (.lst []) := upd_same
    have dr3 : DrK pa sa H (upd H2 p (.lst [])) := dr2.lay hp
    revert hpa3 hsa3 dr3 hp3
    generalize upd H2 p (.lst []) = H3
    intro hpa3 hsa3 hp3 dr3
    refine ⟨.list (ns.map PyData.int), .list [], .lst (SqL.of hsa3) (dpAll_ints ns), .lst (SqL.of hp3) .nil, shaped_ints ns, shaped_ints [], _, rfl, ?_⟩
    -- behind the cell
    have tail : ∀ cell : Int, (ns = [] ∨ cell ∈ ns) → (tSeq (tIfS (tAnd (tTest (tOp (rI0 fun i j => .bl (decide (i < j))) (tVar 3) (tlen0 K))) (tTest (tOp (rI0 fun i j => .bl (decide (j ≤ i))) (tab (tVar 4)) (tpw (cI 10) (cI 18))))) (dB K) tNext)
        (tSeq (tAsg (tmod (tin (tpw (tad (tad (tmod (tin (tVar 4)) (cI p1)) (tml (cI a3) (tVar 3))) (cI a4)) (cI 5))) (cI p2)) (gName 6))
        (tSeq (tAsg (tmod (tin (tpw (tad (tad (tml (tVar 6) (tad (tml (cI 2) (tVar 3)) (cI a5))) (tml (tml (cI a6) (tVar 3)) (tVar 3))) (cI a7)) (cI 3))) (cI p3)) (gName 6))
        (tRet (tmod (tin (tdvW (tVar 6) (cI 32))) (tVar 1)))))) { nx := fun _ H' => Q .non H', rt := Q } [some (.ref pa), some (.int n), none, some (.int k), some (.int cell), none, none] H3 := by
      intro cell hcell
      have rest : (tSeq (tAsg (tmod (tin (tpw (tad (tad (tmod (tin (tVar 4)) (cI p1)) (tml (cI a3) (tVar 3))) (cI a4)) (cI 5))) (cI p2)) (gName 6))
        (tSeq (tAsg (tmod (tin (tpw (tad (tad (tml (tVar 6) (tad (tml (cI 2) (tVar 3)) (cI a5))) (tml (tml (cI a6) (tVar 3)) (tVar 3))) (cI a7)) (cI 3))) (cI p3)) (gName 6))
        (tRet (tmod (tin (tdvW (tVar 6) (cI 32))) (tVar 1))))) { nx := fun _ H' => Q .non H', rt := Q } [some (.ref pa), some (.int n), none, some (.int k), some (.int cell), none, none] H3 := by
        have hk6 : k ≤ 1000000 := by omega
        have m1 := emod_r (i := cell) b13
        have q3 : a3 * k ≤ 2 ^ 20 * 1000000 := Int.mul_le_mul (by omega) hk6 hk0 (by omega)
        have q3' : 0 ≤ a3 * k := Int.mul_nonneg b3 hk0
        refine ev_mod b15 (ev_in (ev_pow ⟨by omega, by omega, by omega⟩ (ev_add (ev_add (ev_mod b13 (ev_in (ev_v 4 rfl)) (ev_c p1)) (ev_mul (.inl ⟨by omega, by omega⟩) (ev_c a3) (ev_v 3 rfl))) (ev_c a4)) (ev_c 5))) (ev_c p2) _ ?_
        generalize hM : (cell % p1 + a3 * k + a4) ^ (5 : Int).toNat % p2 = M
        have mM : 0 ≤ M ∧ M < p2 := by rw [← hM]; exact emod_r b15
        have x1 : M * (2 * k + a5) ≤ 2 ^ 31 * (2 ^ 22) := Int.mul_le_mul (by omega) (by omega) (by omega) (by omega)
        have x0 : 0 ≤ M * (2 * k + a5) := Int.mul_nonneg mM.1 (by omega)
        have y1 : a6 * k ≤ 2 ^ 20 * 1000000 := Int.mul_le_mul (by omega) hk6 hk0 (by omega)
        have y0 : 0 ≤ a6 * k := Int.mul_nonneg b9 hk0
        have z1 : a6 * k * k ≤ 2 ^ 20 * 1000000 * 1000000 := Int.mul_le_mul y1 hk6 hk0 (by omega)
        have z0 : 0 ≤ a6 * k * k := Int.mul_nonneg y0 hk0
        refine ev_mod b17 (ev_in (ev_pow ⟨by omega, by omega, by omega⟩ (ev_add (ev_add (ev_mul (.inl ⟨by omega, by omega⟩) (ev_v 6 rfl) (ev_add (ev_mul (.inl ⟨by omega, by omega⟩) (ev_c 2) (ev_v 3 rfl)) (ev_c a5))) (ev_mul (.inl ⟨by omega, by omega⟩) (ev_mul (.inl ⟨by omega, by omega⟩) (ev_c a6) (ev_v 3 rfl)) (ev_v 3 rfl))) (ev_c a7)) (ev_c 3))) (ev_c p3) _ ?_
        refine ev_mod hn0 (ev_in (ev_div (wide_div (b := 6) (by omega) (by decide) (by omega) (by omega)) (ev_v 6 rfl) (ev_c 32))) (ev_v 1 rfl) _ ?_
        exact hQ _ _ (k + 1) r (emod_r hn0).1 (emod_r hn0).2 hpa3 (by omega) (by omega) hr0 hrb dr3
      refine ev_lt (ev_v 3 rfl) (ev_len (ev_ix (i := 0) (ev_v 0 rfl) (ev_c 0) hpa3 rfl) hsa3) _ ⟨_, rfl, ?_⟩
      by_cases hl : k < ((ns.map V.int).length : Int)
      · rw [decide_eq_true hl]
        refine iteT ?_
        refine ev_ge (ev_abs (ev_v 4 rfl)) (ev_pow ⟨by omega, by omega, by decide⟩ (ev_c 10) (ev_c 18)) _ ⟨_, rfl, ?_⟩
        by_cases hg : (10 : Int) ^ (18 : Int).toNat ≤ (if cell < 0 then -cell else cell)
        · rw [decide_eq_true hg]
          refine iteT ?_
          have hc : 2 * cell.natAbs + 2 < 2 ^ bl := by
            rcases hcell with e | e
            · rw [e] at hl; simp at hl; omega
            · exact hns cell e
          have e18 : (10 : Int) ^ (18 : Int).toNat = 1000000000000000000 := by decide
          have hg' : (1000000000000000000 : Int) ≤ (if cell < 0 then -cell else cell) := by rw [← e18]; exact hg
          refine ev_add (ev_mul (.inl ⟨by omega, by omega⟩) (ev_c 2) (ev_sub (ev_abs (ev_v 4 rfl)) (ev_pow ⟨by omega, by omega, by decide⟩ (ev_c 10) (ev_c 18)))) (ev_inB (ev_lt (ev_v 4 rfl) (ev_c 0))) _ ?_
          generalize hG : (2 * ((if cell < 0 then -cell else cell) - 10 ^ (18 : Int).toNat) + (if (decide (cell < 0)) = true then 1 else 0) : Int) = G
          have g0 : 0 ≤ G ∧ G.natAbs < 2 ^ bl := by
            rw [e18] at hG
            by_cases hneg : cell < 0
            · simp only [hneg, decide_true, if_true] at hG hg'
              omega
            · simp only [hneg, decide_false, if_false, Bool.false_eq_true] at hG hg'
              omega
          refine ev_div (dW G) (ev_in (ev_v 5 rfl)) (ev_v 1 rfl) _ ?_
          refine ⟨.ref pa, rfl, pa, _, 2, 2, rfl, rfl, hpa3, rfl, ?_⟩
          obtain ⟨d1, d2⟩ := divb G g0.1 g0.2
          refine ev_mod hn0 (ev_in (ev_v 5 rfl)) (ev_v 1 rfl) _ ?_
          exact hQ _ _ (k + 1) (G / n) (emod_r hn0).1 (emod_r hn0).2 upd_same (by omega) (by omega) d1 d2 ⟨fun b o nb q => by rw [upd_ne nb]; exact dr3.keep b o nb q, fun b q => by
            by_cases e : b = pa
            · rw [e, hpa] at q; cases q
            · rw [upd_ne e]; exact dr3.new b q⟩
        · rw [decide_eq_false hg]
          refine iteF ?_
          exact rest
      · rw [decide_eq_false hl]
        refine iteF ?_
        exact rest
    cases hnil : ns with
    | nil =>
      have : (!PyData.eqv (.list (([] : List Int).map PyData.int)) (.list [])) = false := by decide
      rw [this]
      exact tail _ (.inl hnil)
    | cons z zs =>
      have : (!PyData.eqv (.list ((z :: zs).map PyData.int)) (.list [])) = true := by simp [PyData.eqv, PyData.eqvAll]
      rw [this]
      refine iteT ?_
      have hlen : (0 : Int) < ((ns.map V.int).length : Int) := by rw [hnil]; simp
      have m0 := emod_r (i := k) hlen
      have hget : ∃ v, ns[(k % ((ns.map V.int).length : Int)).toNat]? = some v := by
        have : (k % ((ns.map V.int).length : Int)).toNat < ns.length := by
          have := m0.2
          rw [List.length_map] at this ⊢
          have := m0.1
          rw [List.length_map] at this
          omega
        exact ⟨_, List.getElem?_eq_getElem this⟩
      obtain ⟨v, hv⟩ := hget
      refine ev_ix (xs := ns.map V.int) (v := .int v) (i := k % ((ns.map V.int).length : Int)) (ev_ix (i := 0) (ev_v 0 rfl) (ev_c 0) hpa3 rfl) (ev_mod hlen (ev_in (ev_v 3 rfl)) (ev_len (ev_ix (i := 0) (ev_v 0 rfl) (ev_c 0) hpa3 rfl) hsa3)) hsa3 ?_ _ ?_
      · have e : (k % ((ns.map V.int).length : Int)) = (((k % ((ns.map V.int).length : Int)).toNat : Nat) : Int) := by have := m0.1; omega
        rw [e]
        refine atI_nat ?_
        rw [List.getElem?_map, hv]
        rfl
      · exact tail v (.inr (List.mem_of_getElem? hv))
end DL
namespace DL
open PySem PySem.Spec L2
open PyProof.Rows
def drawM : List D → T D := fun ds => match ds with
  | [.pen, .int n] => .draw n fun d => .ok (.int d)
  | _ => .stuck
section
variable {P : Program} {w : World} {K : PySem.W.Frag} {mg : Str → Option Value} {base : Heap} {c : Ct}
theorem fn_draw {x : Str} {params : Arguments} {body : List Stmt} {scope : Scope} {f : Addr} {fd : FuncData} {N : List Str} {pa pb : Str} {k : Nat} {a1 a2 a3 a4 a5 a6 a7 p1 p2 p3 : Int}
    (F : FunD K x x params body scope [] [] f fd) (S : FnScope N [pa, pb] scope) (hN : N.length = 7) (hc : c.hp = true) (hns : ∀ z ∈ c.ns, 2 * z.natAbs + 2 < 2 ^ c.bl)
    (hA : 0 ≤ a1 ∧ a1 < 2 ^ 20 ∧ 0 ≤ a3 ∧ a3 < 2 ^ 20 ∧ 0 ≤ a4 ∧ a4 < 2 ^ 20 ∧ 0 ≤ a5 ∧ a5 < 2 ^ 20 ∧ 0 ≤ a6 ∧ a6 < 2 ^ 20 ∧ 0 ≤ a7 ∧ a7 < 2 ^ 20 ∧ 0 < p1 ∧ p1 < 2 ^ 31 ∧ 0 < p2 ∧ p2 < 2 ^ 31 ∧ 0 < p3 ∧ p3 < 2 ^ 31)
    (hb : ∀ (cdv : Value) (A : Around) (outer : List Env) (s : Shared) (H : Hp) (E : XK), Room k (A.deeper (envOfC x scope s.heap.objs.size f cdv)) → PSs (cxOf (CX P w) P w K mg base N x scope f cdv A outer s H E) body (tDraw K a1 a2 a3 a4 a5 a6 a7 p1 p2 p3)) :
    FnOk P w K mg base (CX P w) (k + 1) f fd [pa, pb] (spD c K drawM) := by
  have view : ∀ {ds : List D} {j : Nat} {R : Nat → D → Prop} {E : Nat → Xc → Prop}, (drawM ds).All j R E → ∃ n, ds = [.pen, .int n] := fun {ds j R E} h => by
    unfold drawM at h
    split at h
    · exact ⟨_, rfl⟩
    · exact h.elim
  refine fun_ok F S (fun vs H Q E ⟨F, ds, j, g, r, h⟩ => ?_) fun cdv A outer s H vs Q E _ hr ⟨F, ds, j, g, r, h⟩ => ⟨_, hb cdv A outer s H E hr, ?_⟩
  · obtain ⟨n, rfl⟩ := view h
    rw [r.length]
    rfl
  · obtain ⟨n, rfl⟩ := view h
    obtain ⟨hj, hn0, hn1, h⟩ := h
    cases r with
    | cons r1 r =>
      cases r with
      | cons r2 r =>
        cases r
        cases r1
        cases r2
        obtain ⟨k0, r0, q1, q2, q3, q4, q5, q6, q7⟩ := g.pen.2.2 hc
        have st : L2.start N [V.ref c.pa, V.int n] = [some (.ref c.pa), some (.int n), none, none, none, none, none] := by
          unfold L2.start
          rw [hN]
          rfl
        rw [st]
        refine draw_run (bl := c.bl) hA q1 q2 q3 q4 q5 hj q6 q7 hn0 (by omega) hns fun d H' k' r' d0 d1 hp' k0' k1' r0' r1' dr => ?_
        have hkeep : ∀ b o, b ≠ c.pa → H b = some o → H' b = some o := dr.keep
        refine h d d0 d1 F H' (.int d) ⟨fun _ _ z => z, fun b o nb _ z => hkeep b o nb z, fun b z => ?_, fun _ z => .inl z⟩ ⟨fun b o z => ?_, g.pa, ⟨⟨_, hp'⟩, ⟨_, hkeep _ _ (Ne.symm q3) q2⟩, fun _ => ⟨k', r', hp', hkeep _ _ (Ne.symm q3) q2, q3, k0', k1', r0', r1'⟩⟩, ?_, g.nt⟩ (.int d)
        · by_cases e : b = c.pa
          · rw [e, hp']; simp
          · cases y : H b with
            | none => exact absurd y z
            | some o => rw [hkeep b o e y]; simp
        · exact hkeep b o (fun e => by rw [e, g.pa hc] at z; cases z) (g.sub b o z)
        · refine tabs_keep g.tab (fun b o n1 z => hkeep b o (fun e => by rw [e, q1] at z; cases z; exact n1 (.inl ⟨_, rfl⟩)) z) fun b ps z => ?_
          by_cases e : b = c.pa
          · rw [e, hp'] at z; cases z
          · cases y : H b with
            | none =>
              rcases dr.new b y with y2 | ⟨vs, y2⟩
              · rw [y2] at z; cases z
              · rw [y2] at z; cases z
            | some o => rw [hkeep b o e y] at z; exact z
end
end DL
namespace DL
open PySem PySem.Spec L2
open PyProof.Rows
section
variable {K : PySem.W.Frag} {x qual : Str} {params : Arguments} {body : List Stmt} {scope : Scope} {kws : List (Str × V)} {f : Addr} {fd : FuncData} {ps : List Str}
def NeC (K : PySem.W.Frag) (C : Addr) : Prop := PySem.W.findIn K (.ref C) "__ne__" = some (some (.builtin "object.__ne__")) ∧ PySem.W.mroIn K C (.type "object") = some true
/-- the statements of a class -/
def cBody (s : Stmt) : List Stmt := match s with
  | .ClassDef (body := b) .. => b
  | _ => []
/-- keywords, no defaults -/
theorem kbN (F : FunD K x qual params body scope [] kws f fd) (n : Nat) (ks : List Str) (g : {α : Type} → List α → List α → List α)
    (hrel : ∀ {vs zs : List V} {us ws : List Value}, Vals vs us → Vals zs ws → Vals (g vs zs) (g us ws))
    (h : ∀ (kV doc pm : Value) (an : Option Addr) (cdv ct : Value) (us ws : List Value), us.length = n → ws.length = ks.length →
      bindArgs (PySem.W.fnOf x qual params body scope .none kV doc pm an cdv ct) ⟨us, ks.zip ws⟩ = pure (ps.zip (g us ws))) :
    KBn K fd ps n ks (fun us ws => g us ws) (fun vs zs => g vs zs) := by
  obtain ⟨oc, od, dV, kV, doc, pm, an, cdv, ct, osl, rfl, lk, hcd, hD, hK⟩ := F.ex
  rcases hD with ⟨_, rfl⟩ | ⟨e, _⟩
  · exact ⟨fun s us ws X l1 l2 => .of_eq (h kV doc pm an cdv ct us ws l1 l2), fun r1 r2 => hrel r1 r2⟩
  · exact absurd rfl e
end
section
variable {X : Cx} {c : Ct} {W : WX} {pos : Pos}
theorem de_con {x : Str} {d : D} (h : ∃ v u, X.mg x = some u ∧ RelV v u ∧ ∀ F, Dat c X.K F v d) (hg : Gl X x := by rfl) (hdb : (x == ("__debug__" : Str)) = false := by decide) : DE X c W (.Name x pos) (mC d) := by
  obtain ⟨v, u, h1, h2, h3⟩ := h
  exact de_glob hg h1 h2 h3 hdb
end
end DL
set_option maxHeartbeats 2000000
/-! DN0: the end of a law row for defs that promise only where no repr is under way (DL.FnOk). Turned from the kit's worked end with tables. -/
namespace DL
open PySem PySem.Spec PyProof.Rows L2 LamX
/-- the heap at the law's call: the tables, and the script (if K does not hold it) -/
def hp0 (K : PySem.W.Frag) (a : Addr) (u : HO) (ts : List Addr) : Hp := fun b => if b ∈ ts then some (.tbl #[]) else if b = a ∧ (K.lookup a).isNone = true then some u else none
theorem hp0_t {K : PySem.W.Frag} {a b : Addr} {u : HO} {ts : List Addr} (h : b ∈ ts) : hp0 K a u ts b = some (.tbl #[]) := if_pos h
theorem hp0_some {K : PySem.W.Frag} {a b : Addr} {u v : HO} {ts : List Addr} (h : hp0 K a u ts b = some v) : (b ∈ ts ∧ v = .tbl #[]) ∨ (b ∉ ts ∧ b = a ∧ K.lookup a = none ∧ v = u) := by
  unfold hp0 at h
  split at h
  · rename_i q; cases h; exact .inl ⟨q, rfl⟩
  · rename_i q
    split at h
    · rename_i z
      cases h
      refine .inr ⟨q, z.1, ?_, rfl⟩
      have := z.2
      cases y : K.lookup a with
      | none => rfl
      | some o => rw [y] at this; cases this
    · cases h
theorem law_callD {P : Program} {w : World} {K : PySem.W.Frag} {mg mb : Str → Option Value} {CX : CXT} {k : Nat} {fa a : Addr} {cs : List (Addr × Addr)} {fd : FuncData} {x : Str} {sp : Sp} {s₁ : Shared} {vs : List Value} {ns : List Int}
    (KX : K.In s₁.heap) (hns : s₁.heap.Ns mainGlobals mg) (hb : s₁.heap.Ns builtinsNs mb) (hbb : ∀ x : Str, x ≠ "__name__" → mb x = bootBuiltins x) (hlim : s₁.heap.NoLimit) (hg : s₁.gens = #[])
    (hT : ∀ p ∈ cs, s₁.heap.get? p.2 = some { cls := .none, data := .fields #[] }) (nT : ∀ p ∈ cs, K.lookup p.2 = none) (C : ∀ p ∈ cs, PySem.W.CodeHd s₁.heap p.1 p.2)
    (hbm : ∃ (bm : Addr) (ob : Obj), mg "__builtins__" = some (.ref bm) ∧ bm ≠ builtinsNs ∧ s₁.heap.get? bm = some ob ∧ ob.cls = .type "module" ∧ ob.dict = some builtinsNs ∧ ob.data = .plain)
    (ha : s₁.heap.get? a = some { cls := .type "list", data := .seq vs.toArray }) (hi : IntsAre vs ns) (hl : ns.length ≤ sizeLine) (hr : Room k callerA)
    (F : ∀ base : Heap, K.In base → base.Ns mainGlobals mg → (∀ p ∈ cs, TabB base mg p.1 p.2) → DL.FnOk P w K mg base CX k fa fd [x] sp) (hbind : ∀ (s : Shared) (u : Value), BindsTo s fd ⟨[u], []⟩ [(x, u)])
    (hsp : ∀ H : Hp, (∀ p ∈ cs, H p.2 = some (.tbl #[])) → (∀ b ps, H b = some (.tbl ps) → ∃ p ∈ cs, p.2 = b) → SqL K H a (ns.map V.int) → sp [.ref a] H (fun v _ => v = .bl true) fun _ _ _ => False)
    (hCX : ∀ H e s', CX [] H s₁ (fun _ _ _ => False) e s' → False) :
    codeAny (model P w) callerA (.call (.ref fa) ⟨[.ref a], []⟩) (fun r s' => r = .ok (.ret (.bool true)) ∧ OldK s₁.heap s'.heap ∧ s'.os = s₁.os ∧ AllBare s'.gens) s₁ := by
  have rv := vals_ints hi
  have lenV := hi.length
  have tabs : ∀ b ∈ cs.map (·.2), ∃ p ∈ cs, p.2 = b := fun b h => by simpa using h
  have isT : ∀ b ∈ cs.map (·.2), s₁.heap.get? b = some { cls := .none, data := .fields #[] } := fun b h => by
    obtain ⟨p, hp, rfl⟩ := tabs b h
    exact hT p hp
  have memT : ∀ p ∈ cs, p.2 ∈ cs.map (·.2) := fun p hp => List.mem_map.mpr ⟨p, hp, rfl⟩
  have aT : a ∉ cs.map (·.2) := fun z => by
    have q := (isT a z).symm.trans ha
    have q := congrArg Obj.data (Option.some.inj q)
    cases q
  let u0 : HO := .frz { cls := .type "list", data := .seq vs.toArray } (.lst (ns.map V.int))
  let H : Hp := hp0 K a u0 (cs.map (·.2))
  have hH : ∀ p ∈ cs, H p.2 = some (.tbl #[]) := fun p hp => hp0_t (memT p hp)
  have hA : ∀ b ps, H b = some (.tbl ps) → ∃ p ∈ cs, p.2 = b := fun b ps z => by
    rcases hp0_some z with ⟨h1, _⟩ | ⟨_, _, _, e⟩
    · exact tabs b h1
    · exact absurd e (by intro q; cases (show HO.tbl ps = HO.frz _ _ from q))
  have hok : HOk P w H s₁.heap := fun b u z => by
    rcases hp0_some z with ⟨h1, rfl⟩ | ⟨_, rfl, _, rfl⟩
    · exact isT b h1
    · exact ⟨ha, by rw [List.length_map]; exact hl, vs, _, rv, ha⟩
  have hS : SqL K H a (ns.map V.int) := by
    cases hk : K.lookup a with
    | some o =>
      have e := KX a o hk
      rw [ha] at e
      cases e
      exact .inr ⟨_, vs.toArray, _, hk, rfl, rfl, rfl, by rw [List.size_toArray, lenV]; exact hl, by simpa using rv⟩
    | none => exact .inl (.inr ⟨{ cls := .type "list", data := .seq vs.toArray }, by
        show hp0 K a u0 (cs.map (·.2)) a = some u0
        unfold hp0
        rw [if_neg aT, if_pos ⟨rfl, by rw [hk]; rfl⟩]⟩)
  -- what is no list and no table is in the base
  have base_of : ∀ {b : Addr} {o : Obj}, s₁.heap.get? b = some o → H b = none → (hidT s₁.heap H).get? b = some o := fun e n => hidT_get e n
  have noD : ∀ {b : Addr} {o : Obj}, s₁.heap.get? b = some o → (∀ vs n, o.data ≠ .seq vs n) → o.data ≠ .fields #[] → H b = none := fun {b o} e h1 h2 => by
    cases q : H b with
    | none => rfl
    | some u =>
      rcases hp0_some q with ⟨h, _⟩ | ⟨_, rfl, _, _⟩
      · rw [isT b h] at e; cases e; exact absurd rfl h2
      · rw [ha] at e; cases e; exact absurd rfl (h1 _ _)
  have nsK : ∀ {b : Addr} {m : Str → Option Value}, s₁.heap.Ns b m → (hidT s₁.heap H).Ns b m := fun {b m} ⟨o, es, ep, e, d, r⟩ =>
    ⟨o, es, ep, base_of e (noD e (fun vs n z => by rw [d] at z; cases z) fun z => by rw [d] at z; cases z), d, r⟩
  have hKb : K.In (hidT s₁.heap H) := fun b o e => base_of (KX b o e) (by
    cases q : H b with
    | none => rfl
    | some u =>
      rcases hp0_some q with ⟨h, _⟩ | ⟨_, rfl, h, _⟩
      · obtain ⟨p, hp, rfl⟩ := tabs b h
        rw [nT p hp] at e; cases e
      · rw [h] at e; cases e)
  have hM : L2.Mod K mg (hidT s₁.heap H) := ⟨hKb, nsK hns, ⟨mb, nsK hb, hbb⟩, let ⟨mc, h1, h2⟩ := hlim; ⟨mc, nsK h1, h2⟩⟩
  have TB : ∀ p ∈ cs, TabB (hidT s₁.heap H) mg p.1 p.2 := fun p hp => by
    have hTp := hT p hp
    refine ⟨?_, ?_, fun z => ?_⟩
    · obtain ⟨o, us, file, tf, flags, tg, inF, text, tt, e1, r1, r2, r3, rest⟩ := C p hp
      exact ⟨o, us, file, tf, flags, tg, inF, text, tt, base_of e1 (noD e1 (fun vs n z => by rw [r2] at z; cases z) fun z => by rw [r2] at z; cases z; simp at r3), r1, r2, r3, rest⟩
    · obtain ⟨bm, ob, b1, b2, b3, b4, b5, b6⟩ := hbm
      refine ⟨bm, ob, b1, b2, fun q => ?_, fun q => ?_, base_of b3 (noD b3 (fun vs n z => by rw [b6] at z; cases z) fun z => by rw [b6] at z; cases z), b4, b5, b6⟩
      · obtain ⟨o, es, ep, e, hd, _⟩ := hns
        rw [q, e] at b3
        cases b3
        rw [hd] at b6
        cases b6
      · rw [q, hTp] at b3
        cases b3
        cases b6
    · obtain ⟨o, es, ep, e, hd, _⟩ := hns
      rw [z, hTp] at e
      cases e
      cases hd
  have e0 : Env0 P w K mg (hidT s₁.heap H) callerA [] s₁ H := ⟨rfl, hM, fun b o e => of_hidT e, Nat.le_of_eq (hidT_size _ _), trivial, fun b hb => absurd (show b ∈ ([] : List Addr) from hb) (by simp), hok, .of_eq hg⟩
  refine codeAny_mono ((F _ hKb (nsK hns) TB).run callerA [] s₁ H ⟨[.ref a], []⟩ [.ref a] [.ref a] _ _ hr e0 (hbind s₁ (.ref a)) (.cons rfl .nil) (hsp H hH hA hS)) fun r s' h => ?_
  cases r with
  | error e => exact (hCX H e s' h).elim
  | ok fl =>
    cases fl with
    | next => exact False.elim h
    | brk => exact False.elim h
    | cont => exact False.elim h
    | ret u =>
      obtain ⟨v, H', os, bare, un, hok', r', q⟩ := h
      obtain rfl : v = .bl true := q
      obtain rfl : u = Value.bool true := r'
      have key : ∀ b o, b ∉ cs.map (·.2) → s₁.heap.get? b = some o → s'.heap.get? b = some o := fun b o nb e => by
        cases q : H b with
        | none => exact un.keep b o e q (by intro z; exact absurd (show b ∈ ([] : List Addr) from z) (by simp)) (by simp)
        | some u =>
          rcases hp0_some q with ⟨z, _⟩ | ⟨_, _, _, rfl⟩
          · exact absurd z nb
          · obtain ⟨e1, _⟩ := hok b _ q
            obtain ⟨e2, _⟩ := hok' b _ (un.frzs b _ _ q)
            rw [e] at e1; cases e1
            exact e2
      have grown : ∀ p ∈ cs, ∃ more : Array Value, s'.heap.get? p.2 = some { cls := .none, data := .fields more } := fun p hp => by
        obtain ⟨more, z⟩ := un.tbls p.2 #[] (hH p hp)
        exact ⟨_, hok' p.2 _ z⟩
      refine ⟨rfl, ⟨fun b o e => ?_, fun b o e => ?_⟩, os, bare⟩
      · by_cases hb : b ∈ cs.map (·.2)
        · obtain ⟨p, hp, rfl⟩ := tabs b hb
          obtain ⟨more, hm⟩ := grown p hp
          rw [hT p hp] at e
          cases e
          exact .inr (.inl ⟨((C p hp).tab (hT p hp)).isCodeTable, rfl, #[], more, rfl, by rw [Array.empty_append]; exact hm⟩)
        · exact .inl (key b o hb e)
      · by_cases hb : b ∈ cs.map (·.2)
        · obtain ⟨p, hp, rfl⟩ := tabs b hb
          obtain ⟨more, hm⟩ := grown p hp
          exact ⟨_, hm⟩
        · exact ⟨o, key b o hb e⟩
/-- what is known of the law's promise at the head's heap h -/
def LawAtD (l : PySem.W.OpenLaw) (w : World) (K : PySem.W.Frag) (CX : CXT) (k n : Nat) (x : Str) (mg : Str → Option Value) (fa : Addr) (h : Heap) : Prop :=
  ∃ (fd : FuncData) (cs : List (Addr × Addr)), (∀ p ∈ cs, h.get? p.2 = some { cls := .none, data := .fields #[] }) ∧ (∀ p ∈ cs, K.lookup p.2 = none) ∧ (∀ p ∈ cs, PySem.W.CodeHd h p.1 p.2) ∧ (∀ (s : Shared) (u : Value), BindsTo s fd ⟨[u], []⟩ [(x, u)]) ∧
    ∀ ns : List Int, ns.length ≤ n → (∀ z ∈ ns, Builtin.Int.intBits z ≤ 1048576) → ∃ sp : Sp, (∀ (H : Hp) (a : Addr), (∀ p ∈ cs, H p.2 = some (.tbl #[])) → (∀ b ps, H b = some (.tbl ps) → ∃ p ∈ cs, p.2 = b) → SqL K H a (ns.map V.int) → sp [.ref a] H (fun v _ => v = .bl true) fun _ _ _ => False) ∧
      ∀ base : Heap, K.In base → base.Ns mainGlobals mg → (∀ p ∈ cs, TabB base mg p.1 p.2) → DL.FnOk l.prog w K mg base CX k fa fd [x] sp
theorem walk_ofD {l : PySem.W.OpenLaw} {n k : Nat} {q : Program} {loose : List Str} {XP : (Str → Option Value) → Heap → Prop} {YP : World → Heap → Prop} {d : DefRec} {CX : World → CXT} {x : Str}
    (hn : l.most = some n) (hn2 : n ≤ sizeLine) (hdf : d.params.defaults = []) (hr : Room k callerA)
    (F : ∀ (w : World) (mg : Str → Option Value) (fa : Addr) (h : Heap), YP w h → h.Ns mainGlobals mg → mg d.name = some (.ref fa) → ∃ K : PySem.W.Frag, K.In h ∧ LawAtD l w K (CX w) k n x mg fa h)
    (hCX : ∀ (w : World) (H : Hp) (s : Shared) (e : Value) (s' : Shared), CX w [] H s (fun _ _ _ => False) e s' → False) :
    PySem.W.WalkO q loose XP YP l.row.toRowW d [] (fun f vs => PySem.call f vs) := by
  refine Att.attach_callB hn hdf fun w s₀ s₁ mg mb fa o pm cd doc a vs ns G Y ho hd hcd hmg hobj hints hlen hbits hg => ?_
  obtain ⟨K, KX, fd, cs, hT, nT, C, hb, hF⟩ := F w mg fa _ Y G.T.g hmg
  obtain ⟨sp, hsp, hF⟩ := hF ns hlen hbits
  exact law_callD KX G.T.g G.T.b G.T.builtins G.T.nolimit hg hT nT C G.T.bmain hobj hints (Nat.le_trans hlen hn2) hr hF hb (fun H hH hA hS => hsp H a hH hA hS) fun H e s' => hCX w H s₁ e s'
end DL
set_option maxHeartbeats 2000000
/-! DH0: what a head tells of the data layer's classes: Bool checks over the written part. -/
namespace DL
open PySem PySem.Spec PyProof.Rows L2 He
def oexB (K : PySem.W.Frag) (C : Addr) : Bool := (match K.lookup C with
  | some ⟨.type t, _, .cls ⟨_, _, .ref D :: bm, _, _, true, _, _, _, _, false⟩, sl⟩ => decide (t = "type") && (decide (D = C) && (PySem.HandSPX.refsVE bm && (match sl.toList with
    | [_, _, _, _, some (.builtin n), _] => decide (n = "ValueError.__new__")
    | _ => false)))
  | _ => false) && (eqO (PySem.W.findIn K (.ref C) "__setattr__") (some (some (.builtin "object.__setattr__"))) && (decide (PySem.W.subIn K (.ref C) (.type "BaseException") = some true) && (decide (PySem.W.typeIn K (.ref C) = some (.type "type")) && PySem.W.keepIn K (.ref C))))
theorem oexB_ok {K : PySem.W.Frag} {C : Addr} (h : oexB K C = true) : OexC K C := by
  obtain ⟨h1, h⟩ := ba h
  obtain ⟨h2, h⟩ := ba h
  obtain ⟨h3, h⟩ := ba h
  obtain ⟨h4, h5⟩ := ba h
  refine ⟨?_, eqO_ok h2, of_decide_eq_true h3, of_decide_eq_true h4, h5⟩
  split at h1
  · rename_i t dd nm bs D bm N q sn sub ab col sl hk
    obtain ⟨e1, g1⟩ := ba h1
    obtain ⟨e2, g2⟩ := ba g1
    obtain ⟨e3, g3⟩ := ba g2
    have e1 := of_decide_eq_true e1
    have e2 := of_decide_eq_true e2
    clear h1 g1 g2
    subst e1 e2
    split at g3
    · rename_i k0 k1 k2 k3 n k5 hs
      have e4 := of_decide_eq_true g3
      subst e4
      refine ⟨nm, q, N, bs, bm, sn, sub, ab, col, dd, k0, k1, k2, k3, k5, ?_, e3⟩
      have es : sl = #[k0, k1, k2, k3, some (.builtin "ValueError.__new__"), k5] := by
        apply Array.ext'
        exact hs
      rw [hk, es]
    · cases g3
  · cases h1
/-- an exception class with an own __init__: the class, the qualified name, parameters, body, scope -/
structure XDef where
  cls : Str
  qual : Str
  params : Arguments
  body : List Stmt
  scope : Scope
abbrev FnZ : Type := Option (Str × Arguments × FuncBody × Scope × Addr × Addr)
def fnZ (K : PySem.W.Frag) (C : Str) : FnZ := match K.lookup (fAd K (C, some "__init__")) with
  | some ⟨_, _, .func fd, _⟩ => some (fd.qualname, fd.params, fd.body, fd.scope, fd.globals, fd.builtins)
  | _ => none
def XDef.val (d : XDef) : FnZ := some (d.qual, d.params, .stmts d.body, d.scope, mainGlobals, builtinsNs)
def fileB (file : Str) (K : PySem.W.Frag) (cd : Value) : Bool := match cd with
  | .ref cda => (match K.lookup cda with
    | some ⟨_, _, .fields vs, _⟩ => (match (vs[2]? : Option Value) with
      | some (.str f _) => file == f
      | _ => false)
    | _ => false)
  | _ => false
def xcB (file : Str) (K : PySem.W.Frag) (C : Str) (qual : Str) : Bool := (match K.lookup (fAd K (C, some "__init__")) with
  | some ⟨_, _, .func fd, _⟩ => (match fd.closure with
    | [(nm, cc)] => decide (nm = "__class__") && (match K.lookup cc with
      | some ⟨_, _, .cell (some (.ref D)), _⟩ => decide (D = ga K C)
      | _ => false)
    | _ => false) && (PySem.W.codeIn K fd.code qual && (fileB file K fd.code && decide (fd.defaults = .none)))
  | _ => false) && (decide (PySem.W.mroIn K (ga K C) (.ref (ga K C)) = some true) && (eqO (PySem.W.nsIn K cStatics "thirdparty.any") (some none) && (eqO (PySem.W.ks_superIn K (ga K C) (ga K C) "__init__") (some (some (.builtin "ValueError.__init__"))) &&
    (decide (PySem.W.subIn K (.ref (ga K C)) (.type "ValueError") = some true) && (oexB K (ga K C) && (eqO (PySem.W.findIn K (.ref (ga K C)) "__init__") (some (some (.ref (fAd K (C, some "__init__"))))) && decide (PySem.W.typeIn K (.ref (fAd K (C, some "__init__"))) = some (.type "function"))))))))
theorem xcB_ok {P : Program} {K : PySem.W.Frag} {d : XDef} (htop : (P.main.scope.names.lookup ("super" : Str)).isSome = false) (e : fnZ K d.cls = d.val) (h : xcB P.main.file K d.cls d.qual = true) :
    ∃ fd cda cc, XInit P K (ga K d.cls) (fAd K (d.cls, some "__init__")) d.qual d.params d.body d.scope fd cda cc ∧ (∃ name kV doc pm an ct, fd = PySem.W.ksFn name d.qual d.params d.body d.scope .none kV doc pm an (.ref cda) ct cc) ∧ PySem.W.findIn K (.ref (ga K d.cls)) "__init__" = some (some (.ref (fAd K (d.cls, some "__init__")))) ∧ PySem.W.typeIn K (.ref (fAd K (d.cls, some "__init__"))) = some (.type "function") := by
  obtain ⟨h1, h⟩ := ba h
  obtain ⟨h2, h⟩ := ba h
  obtain ⟨h3, h⟩ := ba h
  obtain ⟨h4, h⟩ := ba h
  obtain ⟨h5, h⟩ := ba h
  obtain ⟨h6, h⟩ := ba h
  obtain ⟨h7, h8⟩ := ba h
  unfold fnZ at e
  split at h1
  · rename_i oc od fd osl hk
    rw [hk] at e
    obtain ⟨n1, n2, n3, n4, n5, n6, n7, n8, n9, n10, n11, n12, n13, n14, n15⟩ := fd
    have e2 : (some (n2, n3, n4, n5, n6, n15) : FnZ) = some (d.qual, d.params, .stmts d.body, d.scope, mainGlobals, builtinsNs) := e
    simp only [Option.some.injEq, Prod.mk.injEq] at e2
    obtain ⟨rfl, rfl, rfl, rfl, rfl, rfl⟩ := e2
    obtain ⟨k1, g1⟩ := ba h1
    obtain ⟨k2, g2⟩ := ba g1
    obtain ⟨k3, k4⟩ := ba g2
    have k4 : n8 = .none := of_decide_eq_true k4
    clear h1 g1 g2
    subst k4
    unfold fileB at k3
    dsimp only at k1 k2 k3
    cases n13 <;> try (exact absurd k3 Bool.false_ne_true)
    · rename_i cda
      dsimp only at k3
      split at k3
      · rename_i ccl cdd vs ccs hcd
        split at k3
        · rename_i f tf hf
          split at k1
          · rename_i nm cc
            obtain ⟨k5, k6⟩ := ba k1
            have k5 := of_decide_eq_true k5
            subst k5
            split at k6
            · rename_i cl cld D csl hcc
              have k6 := of_decide_eq_true k6
              subst k6
              exact ⟨_, cda, cc, ⟨⟨oc, od, osl, n1, _, n9, n10, n11, n12, n14, rfl, hk⟩, k2, ⟨ccl, cdd, vs, ccs, f, tf, hcd, hf, k3⟩, ⟨cl, cld, csl, hcc⟩, of_decide_eq_true h2, eqO_ok h3, eqO_ok h4, of_decide_eq_true h5, oexB_ok h6, htop⟩, ⟨n1, n9, n10, n11, n12, n14, rfl⟩, eqO_ok h7, of_decide_eq_true h8⟩
            · cases k6
          · cases k1
        · cases k3
      · cases k3
  · cases h1
/-! ### constants -/
def conB (K : PySem.W.Frag) : Nat → D → Value → Bool
  | 0, _, _ => false
  | n + 1, d, u => (match d with
    | .non => (match u with | .none => true | _ => false)
    | .bl b => (match u with | .bool c => b == c | _ => false)
    | .int i => (match u with | .int j _ => decide (i = j) | _ => false)
    | .str x => (match u with | .str y _ => decide (x = y) | _ => false)
    | .tup ds => (match u with
      | .ref a => (match K.lookup a with
        | some ⟨.type c, _, .seq its _, _⟩ => decide (c = "tuple") && (decide (its.size ≤ sizeLine) && (decide (its.toList.length = ds.length) && (its.toList.zip ds).all fun q => conB K n q.2 q.1))
        | _ => false)
      | _ => false)
    | _ => false)
theorem conB_ok {K : PySem.W.Frag} : ∀ (n : Nat) (d : D) (u : Value), conB K n d u = true → ∃ v, RelV v u ∧ ∀ (c : Ct) (F : Hp), Dat c K F v d
  | 0, _, _, h => by cases h
  | n + 1, d, u, h => by
    unfold conB at h
    split at h
    · split at h
      · exact ⟨.non, rfl, fun _ _ => .non⟩
      · cases h
    · split at h
      · rename_i b _ c
        have e : b = c := eq_of_beq h
        subst e
        exact ⟨.bl b, rfl, fun _ _ => .bl _⟩
      · cases h
    · split at h
      · rename_i i _ j t
        have e : i = j := of_decide_eq_true h
        subst e
        exact ⟨.int i, ⟨t, rfl⟩, fun _ _ => .int _⟩
      · cases h
    · split at h
      · rename_i i _ j t
        have e : i = j := of_decide_eq_true h
        subst e
        exact ⟨.str i, ⟨t, rfl⟩, fun _ _ => .str _⟩
      · cases h
    · rename_i ds
      split at h
      · rename_i a
        split at h
        · rename_i c od its ep sl hk
          obtain ⟨h1, g1⟩ := ba h
          obtain ⟨h2, g2⟩ := ba g1
          obtain ⟨h3, g3⟩ := ba g2
          have h1 := of_decide_eq_true h1
          have h2 := of_decide_eq_true h2
          have h3 := of_decide_eq_true h3
          clear h g1 g2
          subst h1
          have key : ∀ (us : List Value) (ds : List D), us.length = ds.length → ((us.zip ds).all fun q => conB K n q.2 q.1) = true → ∃ vs, Vals vs us ∧ ∀ (c : Ct) (F : Hp), Dats c K F vs ds := by
            intro us
            induction us with
            | nil =>
              intro ds hl _
              cases ds with
              | nil => exact ⟨[], .nil, fun _ _ => .nil⟩
              | cons _ _ => cases hl
            | cons u us ih =>
              intro ds hl ha
              cases ds with
              | nil => cases hl
              | cons d ds =>
                rw [List.zip_cons_cons, List.all_cons] at ha
                obtain ⟨a1, a2⟩ := ba ha
                obtain ⟨v, r, hv⟩ := conB_ok n d u a1
                obtain ⟨vs, rs, hvs⟩ := ih ds (by simpa using hl) a2
                exact ⟨v :: vs, .cons r rs, fun c F => .cons (hv c F) (hvs c F)⟩
          obtain ⟨vs, rs, hvs⟩ := key _ _ h3 g3
          exact ⟨.ref a, rfl, fun c F => .tup (.inr ⟨_, its, ep, hk, rfl, rfl, h2, rs⟩) (hvs c F)⟩
        · cases h
      · cases h
    · cases h
/-! ### isinstance -/
/-- own classes, exceptions, how many classes; of each class the classes, the built-in types above it -/
def mkIsT (own exc : List Nat) (n : Nat) (up : Nat → List Nat) (ut : Nat → List String) (tys : List String) : IsT :=
  ⟨fun i => own.contains i, fun i => exc.contains i, fun i m => if i < n ∧ m < n then some ((up i).contains m) else none, fun i s => if i < n ∧ tys.contains s = true then some ((ut i).contains s) else none, fun m => decide (m < n)⟩
def excB (K : PySem.W.Frag) (D : Addr) : Bool := eqO (PySem.W.findIn K (.ref D) "__getattribute__") (some (some (.builtin "BaseException.__getattribute__"))) && (eqO (PySem.W.findIn K (.ref D) "__getattr__") (some none) && (decide (PySem.W.subIn K (.ref D) (.type "BaseException") = some true) && (PySem.W.hasDictIn K D &&
  (eqO (PySem.W.findIn K (.ref D) "__class__") (some (some (.builtin "object.__class__"))) && (eqO (PySem.W.specialIn K (.builtin "object.__class__") "__get__") (some (some (.builtin "getset_descriptor.__get__"))) && (decide (PySem.W.takesIn K (.builtin "object.__class__") = some true) && decide (PySem.W.mroIn K D (.type "object") = some true)))))))
theorem excB_ok {K : PySem.W.Frag} {D : Addr} (h : excB K D = true) : ExcC K D := by
  obtain ⟨h1, h⟩ := ba h
  obtain ⟨h2, h⟩ := ba h
  obtain ⟨h3, h⟩ := ba h
  obtain ⟨h4, h⟩ := ba h
  obtain ⟨h5, h⟩ := ba h
  obtain ⟨h6, h⟩ := ba h
  obtain ⟨h7, h8⟩ := ba h
  exact ⟨eqO_ok h1, eqO_ok h2, of_decide_eq_true h3, h4, eqO_ok h5, eqO_ok h6, of_decide_eq_true h7, of_decide_eq_true h8⟩
def ownB (K : PySem.W.Frag) (x : Str) : Bool := (Fa.cls x).ok K && (eqO (PySem.W.findIn K (.ref (ga K x)) "__class__") (some (some (.builtin "object.__class__"))) && (eqO (PySem.W.specialIn K (.builtin "object.__class__") "__get__") (some (some (.builtin "getset_descriptor.__get__"))) && (decide (PySem.W.takesIn K (.builtin "object.__class__") = some true) && decide (PySem.W.mroIn K (ga K x) (.type "object") = some true))))
theorem ownB_ok {K : PySem.W.Frag} {x : Str} (h : ownB K x = true) : OwnC K (ga K x) := by
  obtain ⟨h1, h⟩ := ba h
  obtain ⟨h2, h⟩ := ba h
  obtain ⟨h3, h⟩ := ba h
  obtain ⟨h4, h5⟩ := ba h
  exact ⟨cls_ok h1, eqO_ok h2, eqO_ok h3, of_decide_eq_true h4, of_decide_eq_true h5⟩
def cN (cn : List Str) (n : Nat) : Str := cn.getD n Str.empty
def isfB (K : PySem.W.Frag) (cn : List Str) (own exc : List Nat) (n : Nat) (up : Nat → List Nat) (ut : Nat → List String) (tys : List String) : Bool :=
  own.all (fun i => ownB K (cN cn i)) && (exc.all (fun i => excB K (ga K (cN cn i))) && ((List.range n).all fun i => ((List.range n).all fun m => decide (PySem.W.kitOne K (.ref (ga K (cN cn i))) (.ref (ga K (cN cn m))) = some ((up i).contains m))) &&
    (tys.all (fun s => decide (PySem.W.kitOne K (.ref (ga K (cN cn i))) (.type s) = some ((ut i).contains s))) && tyNames.all fun t => decide (PySem.W.kitOne K (.type t) (.ref (ga K (cN cn i))) = some false))))
theorem isfB_ok {K : PySem.W.Frag} {c : Ct} {cn : List Str} {own exc : List Nat} {n : Nat} {up : Nat → List Nat} {ut : Nat → List String} {tys : List String} (hc : ∀ i, c.cA i = ga K (cN cn i)) (h : isfB K cn own exc n up ut tys = true) : IsF K c (mkIsT own exc n up ut tys) := by
  obtain ⟨h1, h⟩ := ba h
  obtain ⟨h2, h3⟩ := ba h
  have h1 := List.all_eq_true.mp h1
  have h2 := List.all_eq_true.mp h2
  have h3 := List.all_eq_true.mp h3
  have key : ∀ i, i < n → ((List.range n).all fun m => decide (PySem.W.kitOne K (.ref (ga K (cN cn i))) (.ref (ga K (cN cn m))) = some ((up i).contains m))) = true ∧
    (tys.all (fun s => decide (PySem.W.kitOne K (.ref (ga K (cN cn i))) (.type s) = some ((ut i).contains s)))) = true ∧ (tyNames.all fun t => decide (PySem.W.kitOne K (.type t) (.ref (ga K (cN cn i))) = some false)) = true := fun i hi => by
    obtain ⟨a, b⟩ := ba (h3 i (List.mem_range.mpr hi))
    exact ⟨a, ba b⟩
  refine ⟨fun i hi => by rw [hc]; exact ownB_ok (h1 i (by simpa [mkIsT] using hi)), fun i hi => by rw [hc]; exact excB_ok (h2 i (by simpa [mkIsT] using hi)), fun i m b e => ?_, fun i s b e => ?_, fun m e t ht => ?_⟩
  · unfold mkIsT at e
    dsimp only at e
    split at e
    · rename_i q
      cases e
      rw [hc, hc]
      exact of_decide_eq_true (List.all_eq_true.mp (key i q.1).1 m (List.mem_range.mpr q.2))
    · cases e
  · unfold mkIsT at e
    dsimp only at e
    split at e
    · rename_i q
      cases e
      rw [hc]
      exact of_decide_eq_true (List.all_eq_true.mp (key i q.1).2.1 s (by simpa using q.2))
    · cases e
  · have e : m < n := of_decide_eq_true e
    rw [hc]
    exact of_decide_eq_true (List.all_eq_true.mp (key m e).2.2 t ht)
end DL
set_option maxHeartbeats 2000000
/-! DH1: the Hook of the data layer's heads. -/
namespace DL
open PySem PySem.Spec PyProof.Rows L2 He
/-- the def inside the static (class) method m of the class C -/
def smA (K : PySem.W.Frag) (ty : String) (C m : Str) : Addr := match PySem.W.findIn K (.ref (ga K C)) m with
  | some (some (.ref p)) => (match PySem.W.recIn K p ty with
    | some (.ref g :: _) => g
    | _ => 0)
  | _ => 0
inductive Fb where
  | con (x : Str) (d : D)
  | fld (cn : List Str) (cs : List Nat) (f : Str)
  | xfl (cn : List Str) (cs : List Nat) (f : Str)
  | nec (x : Str)
  | xcl (x qual : Str)
  | oex (x : Str)
  | isf (cn : List Str) (own exc : List Nat) (n : Nat) (up : Nat → List Nat) (ut : Nat → List String) (tys : List String)
  | exm (cn : List Str) (exc : List Nat) (up : Nat → List Nat) (m : Nat)
  | tbs (ps : List Defn)
  | keepf (p : Defn)
  | sm
  | smet (C m : Str)
  | fnin (p : Defn)
  | cval (C f : Str) (d : D)
  | dfl (p : Defn) (i : Nat) (d : D)
  | any (p : PySem.W.Frag → Bool)
def distB : List Addr → Bool
  | [] => true
  | a :: r => r.all (fun b => !(a == b)) && distB r
def Fb.ok (file : Str) (K : PySem.W.Frag) : Fb → Bool
  | .con x d => (match PySem.W.nsIn K mainGlobals x with
    | some (some u) => conB K 8 d u
    | _ => false)
  | .fld cn cs f => cs.all fun n => (Fa.cls (cN cn n)).ok K && (Fa.noat (cN cn n) f).ok K
  | .xfl cn cs f => cs.all fun n => xfB K (ga K (cN cn n)) && eqO (PySem.W.findIn K (.ref (ga K (cN cn n))) f) (some none)
  | .nec x => eqO (PySem.W.findIn K (.ref (ga K x)) "__ne__") (some (some (.builtin "object.__ne__"))) && decide (PySem.W.mroIn K (ga K x) (.type "object") = some true)
  | .xcl x qual => xcB file K x qual
  | .oex x => oexB K (ga K x)
  | .isf cn own exc n up ut tys => isfB K cn own exc n up ut tys
  | .exm cn exc up m => exc.all fun i => decide (PySem.W.exmOne K (.ref (ga K (cN cn i))) (.ref (ga K (cN cn m))) = some ((up i).contains m))
  | .tbs ps => distB (ps.map fun p => (cT K p).2)
  | .keepf p => PySem.W.keepIn K (.ref (fAd K p))
  | .smet C m => PySem.W.readsIn K (ga K C) (.type "type") && (eqO (PySem.W.specialIn K (.ref (ga K C)) "__getattribute__") (some (some (.builtin "type.__getattribute__"))) && (PySem.W.keepIn K (.ref (smA K "staticmethod" C m)) && (match PySem.W.findCls K (.ref (ga K C)) (.type "type") m with
    | some (.get (.builtin b) (.ref p) .none (.ref D)) => decide (b = "staticmethod.__get__") && (decide (D = ga K C) && (match PySem.W.recIn K p "staticmethod" with
      | some (.ref g :: _) => decide (g = smA K "staticmethod" C m)
      | _ => false))
    | _ => false)))
  | .fnin p => PySem.W.fnIn K (fAd K p)
  | .any p => p K
  | .dfl p i d => conB K 8 d (.ref (dflAt p i K))
  | .cval C f d => PySem.W.readsIn K (ga K C) (.type "type") && (eqO (PySem.W.specialIn K (.ref (ga K C)) "__getattribute__") (some (some (.builtin "type.__getattribute__"))) && (match PySem.W.findCls K (.ref (ga K C)) (.type "type") f with
    | some (.val u) => conB K 8 d u
    | _ => false))
  | .sm => (match K.lookup sysModules with
    | some ⟨_, _, .dict _ _, _⟩ => true
    | _ => false)
section
variable {K : PySem.W.Frag} {h : Heap} {mg : Str → Option Value} {file : Str} {c : Ct} {cn : List Str}
theorem con_ok (X : K.In h) (G : h.Ns mainGlobals mg) {x : Str} {d : D} (e : (Fb.con x d).ok file K = true) : ∃ v u, mg x = some u ∧ RelV v u ∧ ∀ F, Dat c K F v d := by
  unfold Fb.ok at e
  dsimp only at e
  cases q : PySem.W.nsIn K mainGlobals x with
  | none => rw [q] at e; cases e
  | some o =>
    cases o with
    | none => rw [q] at e; cases e
    | some u =>
      rw [q] at e
      obtain ⟨v, r, hd⟩ := conB_ok _ _ _ e
      exact ⟨v, u, PySem.W.mg_of X G q, r, hd c⟩
theorem fld_okH (hc : ∀ i, c.cA i = ga K (cN cn i)) {cs : List Nat} {f : Str} (e : (Fb.fld cn cs f).ok file K = true) : FldOk K c cs f := fun n hn => by
  obtain ⟨h1, h2⟩ := ba (List.all_eq_true.mp e n hn)
  rw [hc]
  exact ⟨cls_ok h1, noat_ok h2⟩
theorem nec_okH {x : Str} (e : (Fb.nec x).ok file K = true) : NeC K (ga K x) := by
  obtain ⟨h1, h2⟩ := ba e
  exact ⟨eqO_ok h1, of_decide_eq_true h2⟩
/-- the tables of the defs that make lambdas: code object and table; the table and the lambda's name -/
def tbOf (K : PySem.W.Frag) (ps : List (Defn × Str)) : List (Addr × Str) := ps.map fun p => ((cT K p.1).2, p.2)
end
/-! ### the Hook -/
/-- such a def: the record's type, the class, the name, the qualified name, parameters, body, scope, defaults -/
structure DefZ where
  ty : String
  cls : Str
  name : Str
  qual : Str
  params : Arguments
  body : List Stmt
  scope : Scope
  dfl : List Dv := []
def DefZ.at_ (K : PySem.W.Frag) (d : DefZ) : Addr := smA K d.ty d.cls d.name
def fnWz (K : PySem.W.Frag) (d : DefZ) : FnW := match K.lookup (d.at_ K) with
  | some ⟨_, _, .func fd, _⟩ => some (fd.name, fd.qualname, fd.params, fd.body, fd.scope, fd.globals, fd.closure, fd.builtins)
  | _ => none
def DefZ.val (d : DefZ) : FnW := some (d.name, d.qual, d.params, .stmts d.body, d.scope, mainGlobals, [], builtinsNs)
def DefZ.dvs (K : PySem.W.Frag) (d : DefZ) : List V := d.dfl.map (Dv.v K)
def DefZ.ok (K : PySem.W.Frag) (d : DefZ) : Bool := PySem.W.keepIn K (.ref (d.at_ K)) && (match K.lookup (d.at_ K) with
  | some ⟨_, _, .func fd, _⟩ => PySem.W.codeIn K fd.code d.qual && dflB K fd.defaults (d.dvs K)
  | _ => false)
theorem DefZ.funD {K : PySem.W.Frag} {d : DefZ} (e : fnWz K d = d.val) (c : d.ok K = true) : ∃ fd, FunD K d.name d.qual d.params d.body d.scope (d.dvs K) [] (d.at_ K) fd := by
  obtain ⟨kp, c2⟩ := ba c
  unfold fnWz at e
  cases q : K.lookup (d.at_ K) with
  | none => rw [q] at c2; cases c2
  | some o =>
    obtain ⟨oc, od, dt, osl⟩ := o
    rw [q] at c2 e
    cases dt with
    | func fd =>
      obtain ⟨n1, n2, n3, n4, n5, n6, n7, n8, n9, n10, n11, n12, n13, n14, n15⟩ := fd
      have e2 : (some (n1, n2, n3, n4, n5, n6, n7, n15) : FnW) = some (d.name, d.qual, d.params, .stmts d.body, d.scope, mainGlobals, [], builtinsNs) := e
      simp only [Option.some.injEq, Prod.mk.injEq] at e2
      obtain ⟨h1, h2, h3, h4, h5, h6, h7, h8⟩ := e2
      subst h1 h2 h3 h4 h5 h6 h7 h8
      have c3 : (PySem.W.codeIn K n13 d.qual && dflB K n8 (d.dvs K)) = true := c2
      obtain ⟨k1, k2⟩ := ba c3
      exact ⟨_, ⟨oc, od, n8, n9, n10, n11, n12, n13, n14, osl, rfl, q, k1, dflB_ok k2, .inl rfl⟩, kp⟩
    | _ => cases c2
structure Hd where
  n : Nat
  file : Str
  fa : List Fa
  fb : List Fb
  fn : List DefD
  xs : List XDef
  tf : List Defn
  fz : List DefZ := []
  as : List Addr := []
abbrev AlZ : Type := Bool × List FnW × List FnZ × List FnW
def chkZ (d : Hd) (g : Addr → Option Obj) (K : PySem.W.Frag) : AlZ := ((d.fa.all fun f => f.ok K) && ((d.fb.all fun f => f.ok d.file K) && ((d.fn.all fun f => f.ok K) && ((d.fz.all fun f => f.ok K) && tabsB g d.tf K))), d.fn.map (fun f => fnW K f.at_), d.xs.map (fun x => fnZ K x.cls), d.fz.map fun f => fnWz K f)
def valZ (d : Hd) : AlZ := (true, d.fn.map DefD.val, d.xs.map XDef.val, d.fz.map DefZ.val)
def frZ (g : Addr → Option Obj) (d : Hd) : PySem.W.Frag := frT g (sysModules :: cStatics :: (match d.as with | [] => He.asD g d.n | a :: as => a :: as))
def obsZ (d : Hd) (g : Addr → Option Obj) : AlZ := chkZ d g (frZ g d)
structure SaysZ (d : Hd) (h : Heap) (K : PySem.W.Frag) : Prop where
  fa : ∀ f ∈ d.fa, f.ok K = true
  fb : ∀ f ∈ d.fb, f.ok d.file K = true
  fn : ∀ f ∈ d.fn, ∃ fd, FunD K f.name f.qual f.params f.body f.scope (f.dvs K) (f.kws K) (fAd K f.at_) fd
  xs : ∀ x ∈ d.xs, fnZ K x.cls = x.val
  fz : ∀ f ∈ d.fz, ∃ fd, FunD K f.name f.qual f.params f.body f.scope (f.dvs K) [] (f.at_ K) fd
  hd : ∀ p ∈ d.tf, PySem.W.codeHdIn K (cT K p).1 (cT K p).2 = true
  out : ∀ p ∈ d.tf, K.lookup (cT K p).2 = none
  empty : ∀ p ∈ d.tf, h.get? (cT K p).2 = some { cls := .none, data := .fields #[] }
theorem map_at {α β : Type} {f g : α → β} : ∀ {l : List α}, l.map f = l.map g → ∀ a ∈ l, f a = g a
  | [], _, a, h => by cases h
  | b :: r, e, a, h => by
    rw [List.map_cons, List.map_cons] at e
    injection e with e1 e2
    cases h with
    | head => exact e1
    | tail _ h => exact map_at e2 a h
theorem saysZ_of {d : Hd} {h : Heap} (e : obsZ d h.get? = valZ d) : SaysZ d h (frZ h.get? d) := by
  have e1 : ((d.fa.all fun f => f.ok (frZ h.get? d)) && ((d.fb.all fun f => f.ok d.file (frZ h.get? d)) && ((d.fn.all fun f => f.ok (frZ h.get? d)) && ((d.fz.all fun f => f.ok (frZ h.get? d)) && tabsB h.get? d.tf (frZ h.get? d))))) = true := congrArg (fun z : AlZ => z.1) e
  have e2 : d.fn.map (fun f => fnW (frZ h.get? d) f.at_) = d.fn.map DefD.val := congrArg (fun z : AlZ => z.2.1) e
  have e3 : d.xs.map (fun x => fnZ (frZ h.get? d) x.cls) = d.xs.map XDef.val := congrArg (fun z : AlZ => z.2.2.1) e
  have e4 : d.fz.map (fun f => fnWz (frZ h.get? d) f) = d.fz.map DefZ.val := congrArg (fun z : AlZ => z.2.2.2) e
  obtain ⟨h1, h2⟩ := ba e1
  obtain ⟨h3, h4⟩ := ba h2
  obtain ⟨h5, h7⟩ := ba h4
  obtain ⟨h8, h6⟩ := ba h7
  have key : ∀ p ∈ d.tf, PySem.W.codeHdIn (frZ h.get? d) (cT (frZ h.get? d) p).1 (cT (frZ h.get? d) p).2 = true ∧ ∃ o, h.get? (cT (frZ h.get? d) p).2 = some o ∧ emptyTab o = true := fun p hp => by
    obtain ⟨h3, h4⟩ := ba (List.all_eq_true.mp h6 p hp)
    refine ⟨h3, ?_⟩
    cases q : h.get? (cT (frZ h.get? d) p).2 with
    | none =>
      rw [q] at h4
      cases h4
    | some o =>
      rw [q] at h4
      exact ⟨o, rfl, h4⟩
  exact ⟨List.all_eq_true.mp h1, List.all_eq_true.mp h3, fun f hf => DefD.funD (map_at e2 f hf) (List.all_eq_true.mp h5 f hf), fun x hx => map_at e3 x hx, fun f hf => DefZ.funD (map_at e4 f hf) (List.all_eq_true.mp h8 f hf), fun p hp => (key p hp).1, fun p hp => by
    obtain ⟨_, o, q, z⟩ := key p hp
    exact frT_none q z, fun p hp => by
    obtain ⟨_, o, q, z⟩ := key p hp
    rw [q, emptyTab_eq z]⟩
def hookZ (d : Hd) : PySem.W.Hook where
  α := AlZ
  obs := fun s => obsZ d s.heap.get?
  val := fun _ => valZ d
  says := fun _ h => ∃ K : PySem.W.Frag, K.In h ∧ SaysZ d h K
  of := fun _ _ e => ⟨_, frT_in, saysZ_of e⟩
  keeps := fun _ _ _ ⟨K, hK, c⟩ k => ⟨K, PySem.W.Frag.In.keeps hK k, ⟨c.fa, c.fb, c.fn, c.xs, c.fz, c.hd, c.out, fun p hp => k _ _ (c.empty p hp)⟩⟩
theorem obsZ_eq {d : Hd} {g : Addr → Option Obj} {s : Shared} (h : ∀ a, g a = s.heap.get? a) : obsZ d g = (hookZ d).obs s := by
  have e : g = s.heap.get? := funext h
  rw [e] <;> rfl
section
variable {d : Hd} {h : Heap} {K : PySem.W.Frag}
theorem SaysZ.a (c : SaysZ d h K) (i : Nat) {f : Fa} (e : d.fa[i]? = some f := by rfl) : f.ok K = true := c.fa f (List.mem_of_getElem? e)
theorem SaysZ.b (c : SaysZ d h K) (i : Nat) {f : Fb} (e : d.fb[i]? = some f := by rfl) : f.ok d.file K = true := c.fb f (List.mem_of_getElem? e)
theorem SaysZ.f (c : SaysZ d h K) (i : Nat) {f : DefD} (e : d.fn[i]? = some f := by rfl) : ∃ fd, FunD K f.name f.qual f.params f.body f.scope (f.dvs K) (f.kws K) (fAd K f.at_) fd := c.fn f (List.mem_of_getElem? e)
theorem SaysZ.z (c : SaysZ d h K) (i : Nat) {f : DefZ} (e : d.fz[i]? = some f := by rfl) : ∃ fd, FunD K f.name f.qual f.params f.body f.scope (f.dvs K) [] (f.at_ K) fd := c.fz f (List.mem_of_getElem? e)
theorem SaysZ.x (c : SaysZ d h K) (i : Nat) {x : XDef} (e : d.xs[i]? = some x := by rfl) : fnZ K x.cls = x.val := c.xs x (List.mem_of_getElem? e)
end
/-! ### exception classes -/
end DL
set_option maxHeartbeats 2000000
/-! DN1: the pen's def; the law's def. -/
namespace DL
open PySem PySem.Spec PyProof.Rows L2
/-- what _law_pen promises -/
def spPen (K : PySem.W.Frag) : Sp := fun vs H Q _ => ∃ (a : Addr) (ns : List Int), vs = [.ref a] ∧ SqL K H a (ns.map V.int) ∧ ∀ H' p q, (∀ b o, H b = some o → H' b = some o) → H p = none → H q = none → p ≠ q → H' p = some (.lst [.ref q, .int 0, .int 0]) → H' q = some (.lst ((ns.take 63).map V.int)) →
  (∀ b ps, H' b = some (.tbl ps) → H b = some (.tbl ps)) → Q (.ref p) H'
abbrev rListO (K : PySem.W.Frag) : List V → Hp → VK → Prop := fun xs H Q => ∃ p ys, xs = [.ref p] ∧ (SqL K H p ys ∨ SqT K H p ys) ∧ ∀ l, H l = none → Q (.ref l) (upd H l (.lst ys))
abbrev tPen (K : PySem.W.Frag) : TS := tRet (tLst (tCons (tCB (rListO K) (tCons (tSl (rSlL K) (tVar 0) tNoPart (tPart (cI 63))) tNil)) (tCons (cI 0) (tCons (cI 0) tNil))))
theorem cut63 (xs : List V) : cutV xs none (some 63) = xs.take 63 := by
  unfold cutV
  have e0 : HT.sIx xs.length 0 none = 0 := rfl
  rw [e0, List.drop_zero, Nat.sub_zero]
  have e : HT.sIx xs.length xs.length (some 63) = min 63 xs.length := by
    unfold HT.sIx
    first | rfl | (simp; omega) | (split <;> omega)
  rw [e]
  by_cases h : xs.length ≤ 63
  · rw [Nat.min_eq_right h, List.take_of_length_le (Nat.le_refl _), List.take_of_length_le h]
  · rw [Nat.min_eq_left (by omega)]
theorem fn_pen {P : Program} {w : World} {K : PySem.W.Frag} {mg : Str → Option Value} {base : Heap} {x qual : Str} {params : Arguments} {body : List Stmt} {scope : Scope} {f : Addr} {fd : FuncData} {N : List Str} {pa : Str} (F : FunD K x qual params body scope [] [] f fd) (S : FnScope N [pa] scope) (hN : N.length = 1)
    (hb : ∀ (cdv : Value) (A : Around) (outer : List Env) (s : Shared) (H : Hp) (E : XK), PSs (cxOf CX0 P w K mg base N qual scope f cdv A outer s H E) body (tPen K)) : L2.FnOk P w K mg base CX0 1 f fd [pa] (spPen K) := by
  refine F.ok S (fun vs H Q E h => ?_) (fun cdv A outer s H vs Q E hr h => ⟨_, hb cdv A outer s H E, ?_⟩)
  · obtain ⟨a, ns, rfl, _⟩ := h
    rfl
  · obtain ⟨a, ns, rfl, hS, hQ⟩ := h
    have st : L2.start N [V.ref a] = [some (.ref a)] := by
      unfold L2.start
      rw [hN]
      rfl
    rw [st]
    refine ⟨.ref a, rfl, 63, rfl, a, _, rfl, hS, fun p hp => ⟨p, _, rfl, .inl (SqL.of upd_same), fun l hl => ⟨(by show 3 ≤ sizeLine; decide), fun r hr => ?_⟩⟩⟩
    have npl : p ≠ l := fun z => by rw [← z, upd_same] at hl; cases hl
    have hl0 : H l = none := by rw [upd_ne (Ne.symm npl)] at hl; exact hl
    have nlr : l ≠ r := fun z => by rw [← z, upd_same] at hr; cases hr
    have hr1 : upd H p (.lst (cutV (ns.map V.int) none (some 63))) r = none := by rw [upd_ne (Ne.symm nlr)] at hr; exact hr
    have npr : p ≠ r := fun z => by rw [← z, upd_same] at hr1; cases hr1
    have hr0 : H r = none := by rw [upd_ne (Ne.symm npr)] at hr1; exact hr1
    refine hQ _ r l (fun b o q => ?_) hr0 hl0 (Ne.symm nlr) upd_same ?_ fun b ps q => ?_
    · rw [upd_ne (ne_of_none q hr0), upd_ne (ne_of_none q hl0), upd_ne (ne_of_none q hp)]; exact q
    · rw [upd_ne nlr, upd_same, cut63, List.map_take]
    · exact tbl_upd .lst (tbl_upd .lst (tbl_upd .lst q))
/-- the rest of the law's body: over any context that is right -/
theorem pss_ex {X : Cx} {W : WX} {rest : List Stmt} {m : Gm → T Fl} {Ok : Ct → Prop} (h : ∀ c, Ok c → DSs X c W rest m) : PSs X rest (fun D σ H => ∃ c, Ok c ∧ tS c X.K W m D σ H) := ⟨fun pins s σ H D I ⟨c, ok, q⟩ => (h c ok).ps.run pins s σ H D I q⟩
def spLaw (K : PySem.W.Frag) (ns : List Int) (cs : List (Addr × Addr)) : Sp := fun vs H Q _ => ∃ a, vs = [.ref a] ∧ (∀ p ∈ cs, H p.2 = some (.tbl #[])) ∧ (∀ b ps, H b = some (.tbl ps) → ∃ p ∈ cs, p.2 = b) ∧ SqL K H a (ns.map V.int) ∧ ∀ H', Q (.bl true) H'
theorem fn_law {P : Program} {w : World} {K : PySem.W.Frag} {mg : Str → Option Value} {base : Heap} {x qual : Str} {params : Arguments} {s0 : Stmt} {rest : List Stmt} {scope : Scope} {f : Addr} {fd : FuncData} {N : List Str} {ps : Str} {k : Nat} {cA : Nat → Addr} {ns : List Int} {bl : Nat} {tb : List (Addr × Str)} {cs : List (Addr × Addr)} {mb : Gm → T Fl}
    (F : FunD K x qual params (s0 :: rest) scope [] [] f fd) (S : FnScope N [ps] scope) (hN : 2 ≤ N.length) (hns : ns.length ≤ 63) (htb : tb.map (·.1) = cs.map (·.2))
    (hpen : ∀ (cdv : Value) (A : Around) (outer : List Env) (s : Shared) (H : Hp) (E : XK), fd.code = cdv → Room k (A.deeper (envOfC qual scope s.heap.objs.size f cdv)) → PS (cxOf (CX P w) P w K mg base N qual scope f cdv A outer s H E) s0 (tAsg (tCall (spPen K) [] (fun _ _ _ => False) (tCons (tVar 0) tNil)) (gName 1)))
    (hrest : ∀ (pa sa : Addr) (cdv : Value) (A : Around) (outer : List Env) (s : Shared) (H : Hp) (E : XK), fd.code = cdv → Room k (A.deeper (envOfC qual scope s.heap.objs.size f cdv)) →
      DSs (cxOf (CX P w) P w K mg base N qual scope f cdv A outer s H E) ⟨cA, pa, sa, ns, bl, tb, true⟩ (fun cls d _ H => E cls d H) rest mb)
    (hall : (mb (.no :: .val .pen :: List.replicate (N.length - 2) .no)).All 0 (fun _ fl => ∃ b, fl = .rt (.bl b) ∧ b = true) (fun _ _ => False)) :
    DL.FnOk P w K mg base (CX P w) (k + 1) f fd [ps] (spLaw K ns cs) := by
  refine fun_ok F S (fun vs H Q E h => ?_) fun cdv A outer s H vs Q E hcd hr h => ⟨_, pss_cons (hpen cdv A outer s H E hcd hr) (pss_ex (Ok := fun c => ∃ pa sa, c = ⟨cA, pa, sa, ns, bl, tb, true⟩) fun c ⟨pa, sa, hc⟩ => by subst hc; exact hrest pa sa cdv A outer s H E hcd hr), ?_⟩
  · obtain ⟨a, rfl, _⟩ := h
    rfl
  · obtain ⟨a, rfl, hT, hA, hS, hQ⟩ := h
    have st : L2.start N [V.ref a] = some (.ref a) :: none :: List.replicate (N.length - 2) none := by
      unfold L2.start
      show some (V.ref a) :: List.replicate (N.length - 1) none = _
      have : N.length - 1 = (N.length - 2) + 1 := by omega
      rw [this, List.replicate_succ]
    rw [st]
    refine ⟨.ref a, rfl, a, ns, rfl, hS, fun H' p q hk hp hq npq hp' hq' htb' => ?_⟩
    show ∃ c, (∃ pa sa, c = (⟨cA, pa, sa, ns, bl, tb, true⟩ : Ct)) ∧ tS c K _ mb _ ((some (V.ref a) :: none :: List.replicate (N.length - 2) none).set 1 (some (.ref p))) H'
    refine ⟨_, ⟨p, q, rfl⟩, 0, fun _ => none, H', fun _ => none, (.no :: .val .pen :: List.replicate (N.length - 2) .no), 0, ?_, T.All.imp hall ?_ fun _ _ z => z.elim⟩
    · have emp : (∀ a : Addr, ¬ OwnAt ((some (V.ref a) :: none :: List.replicate (N.length - 2) none).set 1 (some (.ref p))) (.no :: .val .pen :: List.replicate (N.length - 2) .no) a) := by
        rintro b ⟨i, o, h1, h2, _⟩
        match i with
        | 0 => simp at h1; subst h1; cases h2
        | 1 => simp at h1; subst h1; cases h2
        | i + 2 =>
          have := List.mem_of_getElem? (show (List.replicate (N.length - 2) SV.no)[i]? = some o by simpa using h1)
          rw [List.eq_of_mem_replicate this] at h2
          cases h2
      have low : ∀ (i : Nat) (o : SV), (SV.no :: .val .pen :: List.replicate (N.length - 2) .no)[i]? = some o → o = .no ∨ (i = 1 ∧ o = .val .pen) := fun i o h1 => by
        match i with
        | 0 => simp at h1; exact .inl h1.symm
        | 1 => simp at h1; exact .inr ⟨rfl, h1.symm⟩
        | i + 2 =>
          have := List.mem_of_getElem? (show (List.replicate (N.length - 2) SV.no)[i]? = some o by simpa using h1)
          exact .inl (List.eq_of_mem_replicate this)
      refine ⟨⟨fun _ _ z => (by cases z), fun _ => rfl, ⟨⟨_, hp'⟩, ⟨_, hq'⟩, fun _ => ⟨0, 0, hp', ?_, npq, by omega, by omega, by omega, ?_⟩⟩, ⟨fun pr hpr => ?_, fun b us z => ?_⟩, fun _ _ z => (by cases z)⟩, .refl, ⟨?_, fun i d q1 => ?_, fun i ds q1 => ?_, fun i n gs q1 => ?_, fun i dz q1 => ?_, fun i j o u b q1 o1 _ _ _ _ => ?_⟩, fun b ob => ?_, fun b ob => ?_⟩
      · rw [hq', List.take_of_length_le hns]
      · show (0 : Int).natAbs < 2 ^ bl
        exact Nat.two_pow_pos bl
      · have : pr.1 ∈ cs.map (·.2) := by rw [← htb]; exact List.mem_map.mpr ⟨pr, hpr, rfl⟩
        obtain ⟨p', hp2, e⟩ := List.mem_map.mp this
        refine ⟨#[], hk _ _ (by rw [← e]; exact hT p' hp2), ?_, ?_⟩
        · first | trivial | (intro; simp) | exact List.Forall.nil | simp [TriplesOk]
        · intro pos cv hc
          first | cases hc | (simp [codeAmong] at hc)
      · obtain ⟨p', hp2, e⟩ := hA b us (htb' b us z)
        have : b ∈ tb.map (·.1) := by rw [htb]; exact List.mem_map.mpr ⟨p', hp2, e⟩
        obtain ⟨pr, hpr, e2⟩ := List.mem_map.mp this
        exact ⟨pr.2, by rw [← e2]; exact hpr⟩
      · simp
      · rcases low i _ q1 with e | ⟨rfl, e⟩
        · cases e
        · cases e
          exact ⟨.ref p, by simp, .pen⟩
      · rcases low i _ q1 with e | ⟨_, e⟩ <;> cases e
      · rcases low i _ q1 with e | ⟨_, e⟩ <;> cases e
      · rcases low i _ q1 with e | ⟨_, e⟩ <;> cases e
      · rcases low i _ q1 with e | ⟨_, e⟩ <;> (rw [e] at o1; cases o1)
      · obtain ⟨i, o, h1, h2, _⟩ := ob
        rcases low i _ h1 with e | ⟨_, e⟩ <;> (rw [e] at h2; cases h2)
      · obtain ⟨i, n, gs, h1, _⟩ := ob
        rcases low i _ h1 with e | ⟨_, e⟩ <;> cases e
    · rintro j' fl ⟨b, rfl, rfl⟩ F2 H2 v _ _ hv
      cases hv
      exact hQ H2
end DL
set_option maxHeartbeats 2000000
namespace DL
open PySem PySem.Spec PyProof.Rows L2
theorem bits_ok {z : Int} {B : Nat} (h : Builtin.Int.intBits z ≤ B) : 2 * z.natAbs + 2 < 2 ^ (B + 4) := by
  have h1 : z.natAbs < 2 ^ B := by
    by_cases hz : z = 0
    · rw [hz]; exact Nat.two_pow_pos _
    · have h0 : z.natAbs ≠ 0 := by omega
      have hb : Nat.log2 z.natAbs < B := by
        unfold Builtin.Int.intBits at h
        have : (z == 0) = false := by simpa using hz
        rw [this] at h
        exact h
      exact (Nat.log2_lt h0).mp hb
  have e : (2 : Nat) ^ (B + 4) = 2 ^ B * 16 := Nat.pow_add 2 B 4
  rw [e]
  have : 0 < 2 ^ B := Nat.two_pow_pos _
  generalize 2 ^ B = M at *
  omega
theorem bits_ex {ns : List Int} {B : Nat} (h : ∀ z ∈ ns, Builtin.Int.intBits z ≤ B) : ∃ bl, ∀ z ∈ ns, 2 * z.natAbs + 2 < 2 ^ bl := ⟨_, fun z hz => bits_ok (h z hz)⟩
theorem supS_free {l : List (Str × NameKind)} (h : (l.all fun q => !(q.2 == .free) || q.1 == "__class__") = true) {y : Str} (e : l.lookup y = some .free) : y = "__class__" := by
  have := List.all_eq_true.mp h _ (PySem.mem_of_lookup e)
  simpa using this
end DL
/-! DY5: x in a list whose items have an own __eq__. -/
namespace DL
open PySem PySem.Spec L2
open PyProof.Rows
end DL
namespace DL
open PySem PySem.Spec L2
open PyProof.Rows
end DL
/-! DQ0: slots that are forgotten; trees that are looked through by the kernel. -/
namespace DL
open PySem PySem.Spec L2
open PyProof.Rows
def cleanG (is : List Nat) (γ : Gm) : Gm := is.foldl (fun γ i => γ.set i .no) γ
def mCl (is : List Nat) (mb : Gm → T Fl) : Gm → T Fl := fun γ => mb (cleanG is γ)
theorem set_noAt {γ : Gm} {i k : Nat} {o : SV} (h : (γ.set i .no)[k]? = some o) (n : o ≠ .no) : γ[k]? = some o := by
  rw [List.getElem?_set] at h
  split at h
  · split at h
    · cases h; exact absurd rfl n
    · cases h
  · exact h
theorem cleanG_at {is : List Nat} : ∀ {γ : Gm} {k : Nat} {o : SV}, (cleanG is γ)[k]? = some o → o ≠ .no → γ[k]? = some o := by
  induction is with
  | nil => intro γ k o h _; exact h
  | cons i is ih => intro γ k o h n; exact set_noAt (ih (γ := γ.set i .no) h n) n
theorem cleanG_len {is : List Nat} : ∀ {γ : Gm}, (cleanG is γ).length = γ.length := by
  induction is with
  | nil => intro γ; rfl
  | cons i is ih => intro γ; exact (ih (γ := γ.set i .no)).trans (by simp)
section
variable {X : Cx} {c : Ct} {W : WX} {K : PySem.W.Frag} {ob : Addr} {F0 H0 F H : Hp} {σ : L2.St} {γ : Gm} {j : Nat} {is : List Nat}
theorem EnvOk.clean (h : EnvOk c K F H σ γ) : EnvOk c K F H σ (cleanG is γ) := by
  have own_ne : ∀ o : SV, o.isOwn = true → o ≠ .no := fun o h z => by rw [z] at h; cases h
  exact ⟨by rw [cleanG_len]; exact h.len, fun i d q => h.val i d (cleanG_at q (by simp)), fun i d q => h.own i d (cleanG_at q (by simp)), fun i n d q => h.obj i n d (cleanG_at q (by simp)), fun i z q => h.dic i z (cleanG_at q (by simp)),
    fun i j o u a q1 o1 q2 o2 => h.ne i j o u a (cleanG_at q1 (own_ne _ o1)) o1 (cleanG_at q2 (own_ne _ o2)) o2⟩
theorem SOk.clean (s : SOk c K ob F0 H0 σ H γ F j) : SOk c K ob F0 H0 σ H (cleanG is γ) F j := by
  have own_ne : ∀ o : SV, o.isOwn = true → o ≠ .no := fun o h z => by rw [z] at h; cases h
  refine ⟨s.gd, s.ext, s.env.clean, fun a ⟨i, o, h1, h2, h3⟩ => s.own a ⟨i, o, cleanG_at h1 (own_ne _ h2), h2, h3⟩, fun a ⟨i, n, gs, h1, h2⟩ => s.obj a ⟨i, n, gs, cleanG_at h1 (by simp), h2⟩⟩
theorem dss_cl (is : List Nat) {body : List Stmt} {mb : Gm → T Fl} (h : DSs X c W body mb) : DSs X c W body (mCl is mb) := ⟨h.ps.imp fun D σ H ⟨ob, F0, H0, F, γ, j, s, q⟩ => ⟨ob, F0, H0, F, cleanG is γ, j, s.clean, q⟩⟩
end
/-! ### looking through a tree -/
/-- one after another -/
theorem All.seq {α β : Type} {t : T α} {f : α → T β} {j m1 m2 : Nat} {p : α → Prop} {P : Nat → β → Prop} {E : Nat → Xc → Prop} (h : t.All j (fun j' a => j' ≤ j + m1 ∧ p a) E) (k : ∀ j' a, j' ≤ j + m1 → p a → (f a).All j' P E) : (t.bind f).All j P E :=
  T.All.of_bind (h.imp (fun j' a ⟨q1, q2⟩ => k j' a q1 q2) fun _ _ z => z)
/-! ### equality of values, as a Bool -/
mutual
def D.eqb : D → D → Bool
  | .non, .non => true
  | .bl a, .bl b => a == b
  | .int a, .int b => decide (a = b)
  | .str a, .str b => decide (a = b)
  | .tup a, .tup b => D.eqbs a b
  | .lst a, .lst b => D.eqbs a b
  | .ins n a, .ins m b => n == m && D.eqbf a b
  | .cls n, .cls m => n == m
  | .pen, .pen => true
  | _, _ => false
def D.eqbs : List D → List D → Bool
  | [], [] => true
  | a :: as, b :: bs => D.eqb a b && D.eqbs as bs
  | _, _ => false
def D.eqbf : List (Str × D) → List (Str × D) → Bool
  | [], [] => true
  | (f, a) :: as, (g, b) :: bs => decide (f = g) && (D.eqb a b && D.eqbf as bs)
  | _, _ => false
end
mutual
theorem D.eqb_ok : ∀ {a b : D}, D.eqb a b = true → a = b
  | .non, .non, _ => rfl
  | .bl a, .bl b, h => congrArg D.bl (eq_of_beq h)
  | .int a, .int b, h => congrArg D.int (of_decide_eq_true h)
  | .str a, .str b, h => congrArg D.str (of_decide_eq_true h)
  | .tup a, .tup b, h => congrArg D.tup (D.eqbs_ok h)
  | .lst a, .lst b, h => congrArg D.lst (D.eqbs_ok h)
  | .ins n a, .ins m b, h => by
    unfold D.eqb at h
    obtain ⟨h1, h2⟩ := Bool.and_eq_true_iff.mp h
    rw [eq_of_beq h1, D.eqbf_ok h2]
  | .cls n, .cls m, h => congrArg D.cls (eq_of_beq h)
  | .pen, .pen, _ => rfl
theorem D.eqbs_ok : ∀ {a b : List D}, D.eqbs a b = true → a = b
  | [], [], _ => rfl
  | a :: as, b :: bs, h => by
    unfold D.eqbs at h
    obtain ⟨h1, h2⟩ := Bool.and_eq_true_iff.mp h
    rw [D.eqb_ok h1, D.eqbs_ok h2]
theorem D.eqbf_ok : ∀ {a b : List (Str × D)}, D.eqbf a b = true → a = b
  | [], [], _ => rfl
  | (f, a) :: as, (g, b) :: bs, h => by
    unfold D.eqbf at h
    obtain ⟨h1, h2⟩ := Bool.and_eq_true_iff.mp h
    obtain ⟨h2, h3⟩ := Bool.and_eq_true_iff.mp h2
    rw [of_decide_eq_true h1, D.eqb_ok h2, D.eqbf_ok h3]
end
def SV.eqb : SV → SV → Bool
  | .no, .no => true
  | .val a, .val b => a.eqb b
  | .own a, .own b => D.eqbs a b
  | _, _ => false
theorem SV.eqb_ok : ∀ {a b : SV}, SV.eqb a b = true → a = b
  | .no, .no, _ => rfl
  | .val a, .val b, h => congrArg SV.val (D.eqb_ok h)
  | .own a, .own b, h => congrArg SV.own (D.eqbs_ok h)
end DL
/-! DQ1: what a statement, a test, a call does, at all draws: in structures, so that nothing is unfolded by the way. -/
namespace DL
open PySem PySem.Spec L2
open PyProof.Rows
end DL
/-! DZ1: walks over lists, tuples, texts alike; in / not in by the kind. -/
namespace DL
open PySem PySem.Spec L2
open PyProof.Rows
section
variable {X : Cx} {c : Ct} {W : WX} {e : Expr} {m : Gm → T RV} {tg : Expr}
def iAnyR (K : PySem.W.Frag) (tl : TE) : TI := fun σ H R => tl σ H fun x H1 => (∃ a, x = .ref a ∧ (∃ xs, SqL K H1 a xs) ∧ R (Itl K a) H1) ∨ (∃ a, x = .ref a ∧ (∃ xs, SqT K H1 a xs) ∧ R (Itt K a) H1) ∨ ∃ z, x = .str z ∧ R (Its z) H1
theorem pi_any {l : Expr} {tl : TE} (hl : PE X l tl) : PI X tg l (iAnyR X.K tl) := by
  refine ⟨fun pins s σ H R I h => ?_⟩
  refine thn (hl.run pins s σ H _ I h) fun v s1 ⟨x, H1, I1, r1, q1⟩ => ?_
  rcases q1 with ⟨a, e, ⟨xs, hq⟩, q⟩ | ⟨a, e, ⟨xs, hq⟩, q⟩ | ⟨z, e, q⟩
  · subst e
    cases r1
    obtain ⟨its, rv, p, hz⟩ := I1.list hq
    exact wpAny_pyIter_list p.isList (pi_one (tk := s1.toks) I1 _ (turn_list a _) ⟨_, Heap.get?_push_size _ rfl, rfl, rfl⟩ q)
  · subst e
    cases r1
    obtain ⟨its, rv, p, hz⟩ := I1.tuple hq
    exact wpAny_pyIter_tuple (show s1.heap.IsTuple a its.toArray from p) (pi_one (tk := s1.toks) I1 _ (turn_tuple a _) ⟨_, Heap.get?_push_size _ rfl, rfl, rfl⟩ q)
  · subst e
    obtain ⟨t, rfl⟩ := r1
    cases ha : z.cps.all (· < 128)
    · exact wpAny_pyIter_wide ha (pi_one (tk := s1.toks) I1 _ (turn_str _ z t "str_iterator" (.inr rfl)) ⟨_, Heap.get?_push_size _ rfl, rfl, rfl⟩ q)
    · exact wpAny_pyIter_ascii ha (pi_one (tk := s1.toks) I1 _ (turn_str _ z t "str_ascii_iterator" (.inl rfl)) ⟨_, Heap.get?_push_size _ rfl, rfl, rfl⟩ q)
def strDs (z : Str) : List D := z.cps.toList.map fun ch => .str ⟨#[ch]⟩
def asIt (x : RV) : T (List D) := match x with
  | .val (.lst ds) => .ok ds
  | .val (.tup ds) => .ok ds
  | .val (.str z) => .ok (strDs z)
  | _ => .stuck
def iAny (m : Gm → T RV) : Gm → T (List D) := fun γ => (m γ).bind asIt
theorem di_any (he : DE X c W e m) : DI X c W tg e (iAny m) := by
  refine ⟨(pi_any he.pe).imp fun σ H R ⟨F, γ, j, g, en, h⟩ => tE.seq g en h fun j1 x F1 H1 v e1 g1 en1 r1 h1 => ?_⟩
  unfold asIt at h1
  split at h1
  · rename_i ds
    cases r1 with
    | lst hq hr =>
      refine .inl ⟨_, rfl, ⟨_, SqL.of (g1.sub _ _ hq)⟩, h1 F1 H1 _ e1 g1 ⟨fun i F' H' up sub hi => ?_, fun F' H' up sub => ?_, fun i F' H' x H2 j up g y => ?_⟩⟩
      · have hl : i < ds.length := hi
        rw [← hr.length] at hl
        exact ⟨_, _, SqL.of (sub _ _ (up _ _ hq)), List.getElem?_eq_getElem hl⟩
      · exact ⟨_, SqL.of (sub _ _ (up _ _ hq)), by rw [hr.length]; exact Nat.le_refl _⟩
      · obtain ⟨e, y⟩ := y
        subst e
        refine ⟨F', .refl, g, fun d hd => ?_⟩
        obtain ⟨w, h3, h4⟩ := hr.get hd
        have := y _ (SqL.of (g.sub _ _ (up _ _ hq)))
        rw [h3] at this
        cases this
        exact h4.mono up
  · rename_i ds
    cases r1 with
    | tup hq hr =>
      refine .inr (.inl ⟨_, rfl, ⟨_, SqT.mono hq g1.sub⟩, h1 F1 H1 _ e1 g1 ⟨fun i F' H' up sub hi => ?_, fun F' H' up sub => ?_, fun i F' H' x H2 j up g y => ?_⟩⟩)
      · have hl : i < ds.length := hi
        rw [← hr.length] at hl
        exact ⟨_, _, SqT.mono (SqT.mono hq up) sub, List.getElem?_eq_getElem hl⟩
      · exact ⟨_, SqT.mono (SqT.mono hq up) sub, by rw [hr.length]; exact Nat.le_refl _⟩
      · obtain ⟨e, y⟩ := y
        subst e
        refine ⟨F', .refl, g, fun d hd => ?_⟩
        obtain ⟨w, h3, h4⟩ := hr.get hd
        have := y _ (SqT.mono (SqT.mono hq up) g.sub)
        rw [h3] at this
        cases this
        exact h4.mono up
  · rename_i z
    cases r1 with
    | str _ =>
      refine .inr (.inr ⟨z, rfl, h1 F1 H1 _ e1 g1 ⟨fun i F' H' up sub hi => ?_, fun F' H' up sub => ?_, fun i F' H' x H2 j up g y => ?_⟩⟩)
      · simpa [strDs, Its] using hi
      · simp [strDs, Its]
      · obtain ⟨e, ch, y1, y2⟩ := y
        subst e y2
        refine ⟨F', .refl, g, fun d hd => ?_⟩
        unfold strDs at hd
        rw [List.getElem?_map, ← Array.getElem?_toList] at *
        rw [y1] at hd
        cases hd
        exact .str _
  · exact h1.elim
/-! ### in -/
/-- i in j, of texts; one sign by the list of signs -/
def inStr (i j : Str) : Bool := match i.cps.toList with
  | [ch] => decide (ch ∈ j.cps.toList)
  | _ => !(Builtin.Str.occurrences j i 0 j.length 1).isEmpty
theorem one_sign {i : Str} {ch : Nat} (h : i.cps.toList = [ch]) : i = ⟨#[ch]⟩ := by
  obtain ⟨a⟩ := i
  congr 1
  apply Array.ext'
  exact h
def gInP (x y : RV) : T RV := match x, y with
  | .val (.str i), .val (.str j) => okV (.bl (inStr i j))
  | x, y => gIn x y
theorem in_str {pins : List (Addr × Obj)} {s : Shared} {σ : L2.St} {H : Hp} {i j : Str} {v u : Value} {Q : VK} (I : Inv X pins σ H s) (rx : RelV (.str i) v) (ry : RelV (.str j) u) (q : Q (.bl (inStr i j)) H) : wpAny (model X.prog X.w) X.A (compareOp .In v u) (EP X pins σ Q) X.xe s := by
  unfold inStr at q
  split at q
  · rename_i ch e
    rw [one_sign e] at rx
    exact op_inS pins s σ H _ _ v u Q I rx ry ⟨ch, j, rfl, rfl, q⟩
  · exact op_in_str pins s σ H _ _ v u Q I rx ry ⟨i, j, rfl, rfl, q⟩
theorem o_inP : OpD X c W (compareOp .In) gInP := by
  intro pins s σ H x y v u Q F j dx dy I rx ry gd r1 r2 q
  unfold gInP at q
  split at q
  · rename_i i k
    cases r1; cases r2
    exact in_str I rx ry (q.val gd (.bl _))
  · exact o_in pins s σ H _ _ v u Q F j _ _ I rx ry gd r1 r2 q
end
end DL
set_option maxHeartbeats 2000000
/-! DX6: an exception of an own class made as a value, with keywords too. -/
namespace PySem.HandSPX
open PyProof PySem.Calls
end PySem.HandSPX
set_option maxHeartbeats 2000000
namespace DL
open PySem PySem.Spec PyProof.Rows L2
theorem DatF.zip {c : Ct} {K : PySem.W.Frag} {F : Hp} : ∀ {fs : List Str} {vs : List V} {ds : List D}, Dats c K F vs ds → DatF c K F (fs.zip vs) (fs.zip ds)
  | [], _, _, _ => .nil
  | _ :: _, _, _, .nil => .nil
  | _ :: _, _, _, .cons h r => .cons h (DatF.zip r)
theorem DatF.app {c : Ct} {K : PySem.W.Frag} {F : Hp} : ∀ {fs fs' : List (Str × V)} {gs gs' : List (Str × D)}, DatF c K F fs gs → DatF c K F fs' gs' → DatF c K F (fs ++ fs') (gs ++ gs')
  | _, _, _, _, .nil, s => s
  | _, _, _, _, .cons h r, s => .cons h (DatF.app r s)
end DL
set_option maxHeartbeats 2000000
namespace DL
open PySem PySem.Spec PyProof.Rows L2 He
section
variable {P : Program} {w : World} {K : PySem.W.Frag} {mg : Str → Option Value} {base : Heap}
/-- an exception class with its __init__ -/
structure XFn (P : Program) (w : World) (K : PySem.W.Frag) (mg : Str → Option Value) (base : Heap) (C : Addr) (d : XDef) (ps fsn : List Str) : Prop where
  oex : OexC K C
  fn : ∃ fI fd, PySem.W.findIn K (.ref C) "__init__" = some (some (.ref fI)) ∧ PySem.W.typeIn K (.ref fI) = some (.type "function") ∧ L2.FnOk P w K mg base (CX P w) 1 fI fd ps (spO C fsn) ∧
    ∃ (name : Str) (kV doc pm : Value) (an : Option Addr) (cda cc : Addr) (ct : Value), fd = PySem.W.ksFn name d.qual d.params d.body d.scope .none kV doc pm an (.ref cda) ct cc
theorem XFn.cls {C : Addr} {d : XDef} {ps fsn : List Str} (X : XFn P w K mg base C d ps fsn)
    (hbd : ∀ (name : Str) (kV doc pm : Value) (an : Option Addr) (cda cc : Addr) (ct : Value) (us : List Value), us.length = ps.length → bindArgs (PySem.W.ksFn name d.qual d.params d.body d.scope .none kV doc pm an (.ref cda) ct cc) ⟨us, []⟩ = pure (ps.zip us)) : XCls P w K mg base C fsn 1 := by
  obtain ⟨fI, fd, e1, e2, F, name, kV, doc, pm, an, cda, cc, ct, hfd⟩ := X.fn
  exact ⟨X.oex, fI, fd, ps, e1, e2, F, .all fun us hl => by rw [hfd]; exact hbd name kV doc pm an cda cc ct us hl⟩
theorem xfn1 {d : XDef} {x y fl : Str} {ar : Arg} {p0 p1 p2 p3 p4 q1 q2 q3 q4 q5 : Pos} {pl : Sem Bool} (htop : (P.main.scope.names.lookup ("super" : Str)).isSome = false) (e : fnZ K d.cls = d.val) (h : xcB P.main.file K d.cls d.qual = true)
    (hb : d.body = [supS [.Name y q1] p0 p1 p2 p3 p4, .Assign [.Attribute (.Name x q2) fl q3] (.Name y q4) q5]) (S : SupScope [x, y] d.scope) (hp : (d.params.posonlyargs ++ d.params.args).head? = some ar) (har : ar.arg = x) (hm : mg ("super" : Str) = none)
    (Y : ∀ f cda cc L, SupSyn (PySem.W.ksEnv d.qual d.scope L f (.ref cda) cc) (.Name y q1) [] p0 p1 p2 p3 p4 pl) (hno : PySem.W.findIn K (.ref (ga K d.cls)) fl = some none)
    (hs : ∀ f cda cc L, swapsWith (.Name y q4) (some (.Attribute (.Name x q2) fl q3)) q5.line (PySem.W.ksEnv d.qual d.scope L f (.ref cda) cc) = pure false) (hx1 : (x == ("__debug__" : Str)) = false) (hx2 : (x == ("__classdict__" : Str)) = false) (hy1 : (y == ("__debug__" : Str)) = false) (hy2 : (y == ("__classdict__" : Str)) = false) :
    XFn P w K mg base (ga K d.cls) d [x, y] [fl] := by
  obtain ⟨fd, cda, cc, T, ⟨name, kV, doc, pm, an, ct, hfd⟩, e1, e2⟩ := xcB_ok htop e h
  refine ⟨T.oex, _, fd, e1, e2, ?_, name, kV, doc, pm, an, cda, cc, ct, hfd⟩
  rw [hb] at T
  exact fn_x1 T S hp har hm (Y _ cda cc) hno (hs _ cda cc) hx1 hx2 hy1 hy2
end
end DL
/-! DY7: dicts written out; repr of data with dicts. -/
namespace DL
open PySem PySem.Spec L2
open PyProof.Rows
def keyD : Key → PyData
  | .inl i => .int i
  | .inr x => .str x
mutual
def D.pyR : D → Option PyData
  | .non => some .none
  | .bl b => some (.bool b)
  | .int i => some (.int i)
  | .str x => some (.str x)
  | .tup xs => (D.pyRs xs).map .tuple
  | .lst xs => (D.pyRs xs).map .list
  | .dct kvs => (D.pyRk kvs).map .dict
  | _ => none
def D.pyRs : List D → Option (List PyData)
  | [] => some []
  | x :: xs => match D.pyR x, D.pyRs xs with
    | some p, some ps => some (p :: ps)
    | _, _ => none
def D.pyRk : List (Key × D) → Option (List (PyData × PyData))
  | [] => some []
  | (k, x) :: xs => match D.pyR x, D.pyRk xs with
    | some p, some ps => some ((keyD k, p) :: ps)
    | _, _ => none
end
/-- sys.modules is a dict of the written part -/
def SmOk (K : PySem.W.Frag) : Prop := ∃ o es n, K.lookup sysModules = some o ∧ o.data = .dict es n
theorem sm_okH {K : PySem.W.Frag} {file : Str} (e : (Fb.sm).ok file K = true) : SmOk K := by
  unfold Fb.ok at e
  dsimp only at e
  split at e
  · rename_i q
    exact ⟨_, _, _, q, rfl⟩
  · cases e
section
variable {X : Cx} {c : Ct} {W : WX} {F H : Hp} {pins : List (Addr × Obj)} {σ : L2.St} {s : Shared}
theorem key_reads {h : Heap} {k : Key} {v : Value} (e : keyIs k v = true) : Reads h v (keyD k) [] := by
  rcases keyIs_shape e with ⟨i, t, rfl, rfl⟩ | ⟨x, t, rfl, rfl⟩
  · exact .int i t
  · exact .str x t
theorem ne_sm (I : Inv X pins σ H s) (hsm : SmOk X.K) {a : Addr} {o : Obj} {vs : Array Value} {n : Nat} (e : s.heap.get? a = some o) (d : o.data = .seq vs n) : a ≠ sysModules := fun z => by
  obtain ⟨o', es, m, h1, h2⟩ := hsm
  have := I.kIn _ _ h1
  rw [← z, e] at this
  cases this
  rw [d] at h2
  cases h2
mutual
theorem Dat.readsR (I : Inv X pins σ H s) (sub : ∀ a o, F a = some o → H a = some o) (hsm : SmOk X.K) : ∀ {v : V} {d : D} {q : PyData} {u : Value}, Dat c X.K F v d → d.pyR = some q → RelV v u → ∃ as, Reads s.heap u q as ∧ sysModules ∉ as
  | _, _, _, _, .non, e, r => by cases e; cases r; exact ⟨[], .none, by simp⟩
  | _, _, _, _, .bl b, e, r => by cases e; cases r; exact ⟨[], .bool b, by simp⟩
  | _, _, _, _, .int i, e, r => by cases e; obtain ⟨t, rfl⟩ := r; exact ⟨[], .int i t, by simp⟩
  | _, _, _, _, .str x, e, r => by cases e; obtain ⟨t, rfl⟩ := r; exact ⟨[], .str x t, by simp⟩
  | _, .tup ds, _, _, .tup h r, e, ru => by
    simp only [D.pyR, Option.map_eq_some_iff] at e
    obtain ⟨ps, e1, rfl⟩ := e
    cases ru
    obtain ⟨its, rv, ⟨o, ho, hc, n, hd⟩, _⟩ := I.tuple (SqT.mono h sub)
    obtain ⟨as, h1, h2⟩ := Dats.readsR I sub hsm r e1 rv
    exact ⟨as, .tuple ho hc hd (by simpa using h1), h2⟩
  | _, .lst ds, _, _, .lst h r, e, ru => by
    simp only [D.pyR, Option.map_eq_some_iff] at e
    obtain ⟨ps, e1, rfl⟩ := e
    cases ru
    obtain ⟨its, rv, ⟨o, n, ho, hc, hd, hdt⟩, _⟩ := I.list (SqL.of (sub _ _ h))
    obtain ⟨as, h1, h2⟩ := Dats.readsR I sub hsm r e1 rv
    refine ⟨_ :: as, .list ho hc hdt (by simpa using h1), fun z => ?_⟩
    rcases List.mem_cons.mp z with z | z
    · exact ne_sm I hsm ho hdt z.symm
    · exact h2 z
  | _, _, _, _, .ins h r, e, _ => by simp [D.pyR] at e
  | _, _, _, _, .exn h h2 r, e, _ => by simp [D.pyR] at e
  | _, _, _, _, .exn0 h, e, _ => by simp [D.pyR] at e
  | _, .dct kvs, _, _, .dct h r, e, ru => by
    simp only [D.pyR, Option.map_eq_some_iff] at e
    obtain ⟨ps, e1, rfl⟩ := e
    cases ru
    have hx : ObjOk X.prog X.w H s.heap _ (.dK _) := Rd.ok (.inr ⟨_, sub _ _ h⟩) I.hok
    obtain ⟨_, hne, vs, kv, o, es, ep, ho, hex, hdt, hko, hp, hnd⟩ := hx
    obtain ⟨as, bs, h1, h2, h3, h4⟩ := DatK.readsR I sub hsm r e1 kv hp
    refine ⟨_ :: as ++ bs, .dict ho hex.1 hdt h1 h2, fun z => ?_⟩
    rcases List.mem_append.mp z with z | z
    · rcases List.mem_cons.mp z with z | z
      · rw [← z] at hne; simp at hne
      · exact h3 z
    · exact h4 z
  | _, _, _, _, .dtt _ _, e, _ => by simp [D.pyR] at e
  | _, _, _, _, .cls n, e, _ => by simp [D.pyR] at e
  | _, _, _, _, .ty n, e, _ => by simp [D.pyR] at e
  | _, _, _, _, .pen, e, _ => by simp [D.pyR] at e
  | _, _, _, _, .adr a, e, _ => by simp [D.pyR] at e
theorem Dats.readsR (I : Inv X pins σ H s) (sub : ∀ a o, F a = some o → H a = some o) (hsm : SmOk X.K) : ∀ {vs : List V} {ds : List D} {qs : List PyData} {us : List Value}, Dats c X.K F vs ds → D.pyRs ds = some qs → Vals vs us → ∃ as, ReadsAll s.heap us qs as ∧ sysModules ∉ as
  | _, _, _, _, .nil, e, r => by
    simp only [D.pyRs] at e
    cases e; cases r
    exact ⟨[], .nil, by simp⟩
  | _, _, _, _, .cons h t, e, r => by
    simp only [D.pyRs] at e
    split at e
    · rename_i p ps e1 e2
      cases e
      cases r with
      | cons r1 r2 =>
        obtain ⟨as, h1, h2⟩ := Dat.readsR I sub hsm h e1 r1
        obtain ⟨bs, h3, h4⟩ := Dats.readsR I sub hsm t e2 r2
        exact ⟨as ++ bs, .cons h1 h3, fun z => (List.mem_append.mp z).elim h2 h4⟩
    · cases e
theorem DatK.readsR (I : Inv X pins σ H s) (sub : ∀ a o, F a = some o → H a = some o) (hsm : SmOk X.K) : ∀ {kvs : List (Key × V)} {ds : List (Key × D)} {qs : List (PyData × PyData)} {vs : List (Key × Value)} {es : List DictEntry}, DatK c X.K F kvs ds → D.pyRk ds = some qs → KV kvs vs → Pairs (mixKind X.prog X.w) es vs →
    ∃ as bs, ReadsAll s.heap (es.map (·.key)) (qs.map (·.1)) as ∧ ReadsAll s.heap (es.map (·.val)) (qs.map (·.2)) bs ∧ sysModules ∉ as ∧ sysModules ∉ bs
  | _, _, _, _, _, .nil, e, r, p => by
    simp only [D.pyRk] at e
    cases e; cases r; cases p
    exact ⟨[], [], .nil, .nil, by simp, by simp⟩
  | _, _, _, _, _, .cons (f := k) h t, e, r, p => by
    simp only [D.pyRk] at e
    split at e
    · rename_i q qs e1 e2
      cases e
      cases r with
      | cons r1 r2 =>
        cases p with
        | cons p1 p2 p3 =>
          obtain ⟨ek, rv⟩ := r1
          obtain ⟨as, h1, h2⟩ := Dat.readsR I sub hsm h e1 rv
          obtain ⟨bs, cs, h3, h4, h5, h6⟩ := DatK.readsR I sub hsm t e2 r2 p3
          have ek : k = _ := ek
          rw [← ek] at p1
          have hk := key_reads (h := s.heap) (show keyIs k _ = true from p1)
          rw [← p2] at h1
          exact ⟨[] ++ bs, as ++ cs, .cons hk h3, .cons h1 h4, by simpa using h5, fun z => (List.mem_append.mp z).elim h2 h6⟩
    · cases e
end
/-- repr of data, dicts among them -/
def D.showsR (d : D) : Option Str := match d.pyR with
  | some q => if q.showable && (decide (q.shown.length ≤ 1000000) && decide (q.depth ≤ 60)) then some q.shown else none
  | none => none
def gReprR (x : RV) : T RV := match x with
  | .val d => (match d.showsR with
    | some z => okV (.str z)
    | none => .stuck)
  | x => gRepr x
def rReprR (c : Ct) (K : PySem.W.Frag) : List V → Hp → VK → Prop := fun xs H Q => (∃ v F d q, xs = [v] ∧ (∀ a o, F a = some o → H a = some o) ∧ Dat c K F v d ∧ d.pyR = some q ∧ q.showable = true ∧ q.shown.length ≤ sizeLine ∧ q.depth ≤ 60 ∧ Q (.str q.shown) H) ∨
  ∃ v q, xs = [v] ∧ Dp K H v q ∧ q.showable = true ∧ q.hasDict = false ∧ q.shown.length ≤ sizeLine ∧ q.depth ≤ 60 ∧ Q (.str q.shown) H
theorem call_reprR {k : Nat} (hsm : SmOk X.K) (hr : Room k X.A) : CallR X (.builtin "repr") (rReprR c X.K) := by
  intro pins s σ H xs us Q I r h
  rcases h with ⟨v, F, d, q, ev, sub, hd, e, h1, h3, h4, hq⟩ | h
  · subst ev
    obtain ⟨u, eu, ru⟩ := vals1 r
    subst eu
    have hun := hr.toRoom.un
    obtain ⟨as, rd, nsm⟩ := Dat.readsR I sub hsm hd e ru
    cases hd with
    | non => cases e; cases ru; exact PySem.P.repr_of_none ⟨.str _, H, I.tok _, ⟨_, rfl⟩, hq⟩
    | bl b => cases e; cases ru; exact PySem.P.repr_of_bool ⟨.str _, H, I.tok _, ⟨_, rfl⟩, hq⟩
    | int i => cases e; obtain ⟨t, rfl⟩ := ru; exact PySem.P.repr_of_int (by simpa [PyData.showable] using h1) ⟨.str _, H, I.tok _, ⟨_, rfl⟩, hq⟩
    | str x => cases e; obtain ⟨t, rfl⟩ := ru; exact PySem.P.repr_of_str ⟨.str _, H, I.tok _, ⟨_, rfl⟩, hq⟩ h3
    | tup _ _ => cases ru; exact PySem.repr_of_reads' rd h1 (fun _ => nsm) hr.gd (by omega) (fun _ _ z => z) (fun h' u tk hk => ⟨.str _, H, I.kept (t' := tk) hk, ⟨_, rfl⟩, hq⟩) h3
    | lst _ _ => cases ru; exact PySem.repr_of_reads' rd h1 (fun _ => nsm) hr.gd (by omega) (fun _ _ z => z) (fun h' u tk hk => ⟨.str _, H, I.kept (t' := tk) hk, ⟨_, rfl⟩, hq⟩) h3
    | dct _ _ => cases ru; exact PySem.repr_of_reads' rd h1 (fun _ => nsm) hr.gd (by omega) (fun _ _ z => z) (fun h' u tk hk => ⟨.str _, H, I.kept (t' := tk) hk, ⟨_, rfl⟩, hq⟩) h3
    | _ => simp [D.pyR] at e
  · exact call_reprD hr pins s σ H xs us Q I r h
theorem bi_reprR : Bi X c W (rReprR c X.K) gReprR := by
  intro σ H v Q F j d gd r h
  unfold gReprR at h
  split at h
  · rename_i d
    split at h
    · rename_i z e
      unfold D.showsR at e
      split at e
      · rename_i q eq
        split at e
        · rename_i hq
          cases e
          obtain ⟨h1, hq⟩ := Bool.and_eq_true_iff.mp hq
          obtain ⟨h3, h4⟩ := Bool.and_eq_true_iff.mp hq
          exact .inl ⟨v, F, d, q, rfl, gd.sub, r, eq, h1, line_of (of_decide_eq_true h3), of_decide_eq_true h4, h.val gd (.str _)⟩
        · cases e
      · cases e
    · exact h.elim
  · exact .inr (bi_repr σ H v Q F j _ gd r h)
/-! ### {k: v}, k and v written -/
end
end DL
namespace DL
open PySem PySem.Spec L2
open PyProof.Rows
section
variable {X : Cx} {c : Ct} {W : WX}
def gIsA (x y : RV) : T RV := match x, y with
  | .val (.bl a), .val (.bl b) => okV (.bl (decide (a = b)))
  | x, y => gIs x y
def gIsNotA (x y : RV) : T RV := match x, y with
  | .val (.bl a), .val (.bl b) => okV (.bl (!decide (a = b)))
  | x, y => gIsNot x y
theorem o_isA : OpD X c W (compareOp .Is) gIsA := by
  intro pins s σ H x y v u Q F j dx dy I rx ry gd r1 r2 q
  unfold gIsA at q
  split at q
  · rename_i a b
    cases r1; cases r2
    exact op_isBl pins s σ H _ _ v u Q I rx ry ⟨a, b, rfl, rfl, q.val gd (.bl _)⟩
  · exact o_is pins s σ H _ _ v u Q F j _ _ I rx ry gd r1 r2 q
theorem o_isnotA : OpD X c W (compareOp .IsNot) gIsNotA := by
  intro pins s σ H x y v u Q F j dx dy I rx ry gd r1 r2 q
  unfold gIsNotA at q
  split at q
  · rename_i a b
    cases r1; cases r2
    exact op_notBl pins s σ H _ _ v u Q I rx ry ⟨a, b, rfl, rfl, q.val gd (.bl _)⟩
  · exact o_isnot pins s σ H _ _ v u Q F j _ _ I rx ry gd r1 r2 q
def gMulS (x y : RV) : T RV := match x, y with
  | .val (.str z), .val (.int n) => if decide (1 ≤ n) && (decide (n ≤ 1000) && decide (z.length ≤ 1000)) then okV (.str (Txt.mul z n)) else .stuck
  | x, y => gMul x y
theorem o_mulS : OpD X c W (binaryOp .Mult) gMulS := by
  intro pins s σ H x y v u Q F j dx dy I rx ry gd r1 r2 q
  unfold gMulS at q
  split at q
  · rename_i z n
    split at q
    · rename_i hc
      obtain ⟨h1, hc⟩ := Bool.and_eq_true_iff.mp hc
      obtain ⟨h2, h3⟩ := Bool.and_eq_true_iff.mp hc
      have h1 := of_decide_eq_true h1
      have h2 := of_decide_eq_true h2
      have h3 := of_decide_eq_true h3
      cases r1; cases r2
      obtain ⟨t, rfl⟩ := rx
      obtain ⟨t2, rfl⟩ := ry
      refine SB.mul ⟨?_, fun _ _ => ?_, fun _ _ => ?_⟩ fun t' k => ⟨.str _, H, I.tok _, ⟨t', rfl⟩, q.val gd (.str _)⟩
      · have a1 : ¬ n < -(2 ^ 63 : Int) := by omega
        have a2 : ¬ n ≥ 2 ^ 63 := by omega
        rw [decide_eq_false a1, decide_eq_false a2]; rfl
      · have hz : (z.length : Int) ≤ 1000 := by omega
        have : (1000 : Int) ≤ (2 ^ 63 - 1) / n := by
          apply Int.le_ediv_of_mul_le (by omega)
          have : 1000 * n ≤ 1000 * 1000 := by omega
          omega
        omega
      · have hm : z.length * n.toNat ≤ 1000 * 1000 := Nat.mul_le_mul h3 (by omega)
        unfold Builtin.Str.tooLong
        have := line_of (n := z.length * n.toNat) (by omega)
        simp
        omega
    · exact q.elim
  · exact o_mul pins s σ H _ _ v u Q F j _ _ I rx ry gd r1 r2 q
end
section
variable {X : Cx} {c : Ct} {W : WX} {a b : Expr} {ma mb mc : Gm → T RV} {pos : Pos}
def mChainT (g g' : RV → RV → T RV) (ma mb mc : Gm → T RV) : Gm → T Bool := fun γ => (ma γ).bind fun x => (mb γ).bind fun y => (g x y).bind fun z => (asB z).bind fun k => if k = true then (mc γ).bind fun w => (g' y w).bind asB else .ok false
theorem dt_chain {d : Expr} {op op' : CmpOp} {g g' : RV → RV → T RV} (ho : OpD X c W (compareOp op) g) (ho' : OpD X c W (compareOp op') g') (ha : DE X c W a ma) (hb : DE X c W b mb) (hc : DE X c W d mc)
    (hm : lastMarks [op, op'] [b, d] = false := by with_unfolding_all rfl) : DT X c W (.Compare a [op, op'] [b, d] pos) (mChainT g g' ma mb mc) := by
  refine ⟨⟨fun pins s σ H Q I ⟨F, γ, j, gd, en, h⟩ => ?_⟩⟩
  have hh := tE.seq (Q := fun x H1 => ∃ F1 j1 dx, Ext c F H F1 H1 ∧ Good c F1 H1 j1 ∧ EnvOk c X.K F1 H1 σ γ ∧ RDat c X.K F1 H1 x dx ∧ ((mb γ).bind fun y => (g dx y).bind fun z => (asB z).bind fun k => if k = true then (mc γ).bind fun w => (g' y w).bind asB else .ok false).All j1 (pT c F H Q) (pX c X.K W F H σ)) gd en h
    fun j1 dx F1 H1 x e1 g1 en1 r1 h1 => ⟨F1, j1, dx, e1, g1, en1, r1, h1⟩
  refine isTrue_chain (thn (ha.pe.run pins s σ H _ I hh) fun v s1 ⟨x, H1, I1, r1, F1, j1, dx, e1, g1, en1, rd1, h1⟩ => ?_) hm
  have hh1 := tE.seq (Q := fun y H2 => ∃ F2 j2 dy, Ext c F1 H1 F2 H2 ∧ Good c F2 H2 j2 ∧ EnvOk c X.K F2 H2 σ γ ∧ RDat c X.K F2 H2 y dy ∧ ((g dx dy).bind fun z => (asB z).bind fun k => if k = true then (mc γ).bind fun w => (g' dy w).bind asB else .ok false).All j2 (pT c F H Q) (pX c X.K W F1 H1 σ)) g1 en1 (h1.imp (fun _ _ z => z) fun _ _ z => z.ext e1)
    fun j2 dy F2 H2 y e2 g2 en2 r2 h2 => ⟨F2, j2, dy, e2, g2, en2, r2, h2⟩
  refine test_link (thn (hb.pe.run pins s1 σ H1 _ I1 hh1) fun u s2 ⟨y, H2, I2, r2, F2, j2, dy, e2, g2, en2, rd2, h2⟩ => ?_)
  refine thn (ho pins s2 σ H2 x y v u (fun z H3 => ∃ F3 j3 k, z = .bl k ∧ Ext c F2 H2 F3 H3 ∧ Good c F3 H3 j3 ∧ EnvOk c X.K F3 H3 σ γ ∧ RDat c X.K F3 H3 y dy ∧ (if k = true then (mc γ).bind fun w => (g' dy w).bind asB else .ok false).All j3 (pT c F H Q) (pX c X.K W F2 H2 σ)) F2 j2 dx dy I2 r1 r2 g2 (rd1.ext e2) rd2
    ((T.All.bind h2).imp (fun j3 z hz F3 H3 v3 e3 g3 r3 => ?_) fun _ _ z => z.ext e2)) fun dv s3 ⟨z, H3, I3, r3, F3, j3, k, ez, e3, g3, en3, rd3, h3⟩ => ?_
  · obtain ⟨k, e1, q⟩ := r3.asB (T.All.bind hz)
    exact ⟨F3, j3, k, e1, e3, g3, en2.ext e3, rd2.ext e3, q.imp (fun _ _ z => z) fun _ _ z => z.ext e2⟩
  · subst ez
    cases r3
    refine wpAny_truthy_bool ?_
    cases k with
    | false => exact ite_ff ⟨H3, I3, h3 F3 H3 (e1.trans (e2.trans e3)) g3⟩
    | true =>
      have hh3 := tE.seq (Q := fun w H4 => ∃ F4 j4 dw, Ext c F3 H3 F4 H4 ∧ Good c F4 H4 j4 ∧ RDat c X.K F4 H4 w dw ∧ ((g' dy dw).bind asB).All j4 (pT c F H Q) (pX c X.K W F3 H3 σ)) g3 en3 (show ((mc γ).bind fun w => (g' dy w).bind asB).All j3 (pT c F H Q) (pX c X.K W F3 H3 σ) from T.All.imp h3 (fun _ _ z => z) fun _ _ z => z.ext e3)
        fun j4 dw F4 H4 w e4 g4 en4 r4 h4 => ⟨F4, j4, dw, e4, g4, r4, h4⟩
      refine ite_tt (test_last (thn (hc.pe.run pins s3 σ H3 _ I3 hh3) fun w' s4 ⟨z', H4, I4, r4, F4, j4, dw, e4, g4, rd4, h4⟩ => ?_))
      refine thn (ho' pins s4 σ H4 y z' u w' (fun z H5 => ∃ k, z = .bl k ∧ Q k H5) F4 j4 dy dw I4 r2 r4 g4 (rd3.ext e4) rd4 ((T.All.bind h4).imp (fun j5 z hz F5 H5 v5 e5 g5 r5 => ?_) fun _ _ z => z.ext e4)) fun d' s5 ⟨z2, H5, I5, r5, k2, ek, q5⟩ => ?_
      · obtain ⟨k, e1', q⟩ := r5.asB hz
        exact ⟨k, e1', q F5 H5 (e1.trans (e2.trans (e3.trans (e4.trans e5)))) g5⟩
      · subst ek
        cases r5
        exact wpAny_truthy_bool ⟨H5, I5, q5⟩
end
end DL
/-! DZ3: slices; x op= e; walks over zip and enumerate; max, min of two. -/
namespace DL
open PySem PySem.Spec L2
open PyProof.Rows
section
variable {X : Cx} {c : Ct} {W : WX} {K : PySem.W.Frag} {e : Expr} {m : Gm → T RV} {pos p2 : Pos}
/-! ### parts of a slice -/
def tO (c : Ct) (K : PySem.W.Frag) (W : WX) (mp : Gm → T (Option Int)) : TO := fun σ H Q => ∃ F γ j, Good c F H j ∧ EnvOk c K F H σ γ ∧ (mp γ).All j (fun j' o => ∀ F' H', Ext c F H F' H' → Good c F' H' j' → Q o H') (pX c K W F H σ)
structure DO (X : Cx) (c : Ct) (W : WX) (e : Option Expr) (mp : Gm → T (Option Int)) : Prop where
  po : PO X e (tO c X.K W mp)
theorem _root_.L2.PO.imp {e : Option Expr} {t t' : TO} (h : PO X e t) (i : ∀ σ H Q, t' σ H Q → t σ H Q) : PO X e t' := ⟨fun pins s σ H Q I q => h.run pins s σ H Q I (i σ H Q q)⟩
def pNo : Gm → T (Option Int) := fun _ => .ok none
def pInt (m : Gm → T RV) : Gm → T (Option Int) := fun γ => (m γ).bind fun x => match x with
  | .val (.int i) => .ok (some i)
  | _ => .stuck
theorem do_no : DO X c W none pNo := ⟨po_none.imp fun σ H Q ⟨F, γ, j, g, en, h⟩ => h F H .refl g⟩
theorem do_int (he : DE X c W e m) : DO X c W (some e) (pInt m) := by
  refine ⟨(po_some he.pe).imp fun σ H Q ⟨F, γ, j, g, en, h⟩ => tE.seq g en h fun j1 x F1 H1 v e1 g1 en1 r1 h1 => ?_⟩
  split at h1
  · rename_i i
    cases r1
    exact ⟨i, rfl, h1 F1 H1 e1 g1⟩
  · exact h1.elim
theorem tO.seq {α : Type} {F H : Hp} {σ : L2.St} {j : Nat} {mp : Gm → T (Option Int)} {γ : Gm} {f : Option Int → T α} {P : Nat → α → Prop} {Q : Option Int → Hp → Prop} (g : Good c F H j) (en : EnvOk c K F H σ γ) (h : ((mp γ).bind f).All j P (pX c K W F H σ))
    (k : ∀ j' x F' H', Ext c F H F' H' → Good c F' H' j' → EnvOk c K F' H' σ γ → (f x).All j' P (pX c K W F H σ) → Q x H') : tO c K W mp σ H Q :=
  ⟨F, γ, j, g, en, (T.All.bind h).imp (fun j' x hx F' H' e g' => k j' x F' H' e g' (en.ext e) hx) fun _ _ z => z⟩
/-! ### slices -/
def cutD (xs : List D) (lo hi : Option Int) : List D := (xs.drop (HT.sIx xs.length 0 lo)).take (HT.sIx xs.length xs.length hi - HT.sIx xs.length 0 lo)
theorem Dats.cut {F : Hp} {vs : List V} {ds : List D} (h : Dats c K F vs ds) (lo hi : Option Int) : Dats c K F (cutV vs lo hi) (cutD ds lo hi) := by
  unfold cutV cutD
  rw [h.length]
  exact (h.drop _).take _
def gSl (x : RV) (lo hi : Option Int) : T RV := match x.d with
  | .lst ds => okV (.lst (cutD ds lo hi))
  | .tup ds => okV (.tup (cutD ds lo hi))
  | .str z => if z.length ≤ 1000000 then okV (.str (cutS z lo hi)) else .stuck
  | _ => .stuck
def mSl (m : Gm → T RV) (ml mh : Gm → T (Option Int)) : Gm → T RV := fun γ => (m γ).bind fun x => (ml γ).bind fun lo => (mh γ).bind fun hi => gSl x lo hi
theorem de_sl {lo hi : Option Expr} {ml mh : Gm → T (Option Int)} (he : DE X c W e m) (hl : DO X c W lo ml) (hh : DO X c W hi mh) : DE X c W (.Subscript e (.Slice lo hi none p2) pos) (mSl m ml mh) := by
  refine ⟨(pe_slice ((sl_list.or sl_tupA).or sl_str) he.pe hl.po hh.po).imp fun σ H Q ⟨F, γ, j, g, en, h⟩ => ?_⟩
  refine tE.seq g en h fun j1 x F1 H1 v e1 g1 en1 r1 h1 => ?_
  refine tO.seq g1 en1 (h1.imp (fun _ _ z => z) fun _ _ z => z.ext e1) fun j2 lo F2 H2 e2 g2 en2 h2 => ?_
  refine tO.seq g2 en2 (h2.imp (fun _ _ z => z) fun _ _ z => z.ext e2) fun j3 hi F3 H3 e3 g3 en3 h3 => ?_
  have r3 := (r1.ext e2).ext e3
  have ex := e1.trans (e2.trans e3)
  unfold gSl at h3
  split at h3
  · rename_i ds ed
    obtain ⟨a, vs, rfl, q1, q2⟩ := r3.lst g3.sub ed
    refine .inl (.inl ⟨a, vs, rfl, SqL.of q1, fun p hp => ?_⟩)
    obtain ⟨g4, e4⟩ := g3.lay (o := .lst (cutV vs lo hi)) hp
    exact h3 _ _ _ (ex.trans e4) g4 (show Dat _ _ _ _ _ from .lst upd_same ((q2.cut lo hi).mono e4.up))
  · rename_i ds ed
    obtain ⟨a, vs, rfl, q1, q0, q2⟩ := r3.tup g3.sub ed
    refine .inl (.inr ⟨a, vs, rfl, q1, fun hw => ?_, fun _ p hp => ?_⟩)
    · have hc : cutD ds lo hi = ds := by
        unfold cutD
        rw [q2.length] at hw
        rw [hw.1, hw.2, List.drop_zero, Nat.sub_zero, List.take_length]
      rw [hc] at h3
      exact h3 F3 H3 _ ex g3 (show Dat _ _ _ _ _ from by
        cases x with
        | val d =>
          have ed : d = .tup ds := ed
          subst ed
          exact r3
        | brw ds => cases ed
        | bob _ _ => cases ed
        | bdc z => cases z <;> cases ed)
    · obtain ⟨g4, e4⟩ := g3.lay (o := .tup (cutV vs lo hi)) hp
      exact h3 _ _ _ (ex.trans e4) g4 (show Dat _ _ _ _ _ from .tup (.inl (.inl upd_same)) ((q2.cut lo hi).mono e4.up))
  · rename_i z ed
    split at h3
    · rename_i hz
      cases x with
      | val d =>
        have ed : d = .str z := ed
        subst ed
        cases r3
        exact .inr ⟨z, rfl, line_of hz, h3 F3 H3 _ ex g3 (show Dat _ _ _ _ _ from .str _)⟩
      | brw ds => cases ed
      | bob _ _ => cases ed
      | bdc z => cases z <;> cases ed
    · exact h3.elim
  · exact h3.elim
/-! ### x += e, x -= e, of ints -/
def mAug (i : Nat) (f : Int → Int → Int) (m : Gm → T RV) : Gm → T Fl := fun γ => match γ[i]? with
  | some (.val (.int a)) => (m γ).bind fun x => (match x with
    | .val (.int b) => .ok (.nx (γ.set i (.val (.int (f a b)))))
    | _ => .stuck)
  | _ => .stuck
/-! ### zip of two lists, of two tuples -/
def zipD (xs ys : List D) : List D := (xs.zip ys).map fun p => .tup [p.1, p.2]
theorem zipD_get {xs ys : List D} {i : Nat} {d : D} (h : (zipD xs ys)[i]? = some d) : ∃ x y, xs[i]? = some x ∧ ys[i]? = some y ∧ d = .tup [x, y] := by
  unfold zipD at h
  rw [List.getElem?_map] at h
  cases q : (xs.zip ys)[i]? with
  | none => rw [q] at h; cases h
  | some p =>
    rw [q] at h
    cases h
    rw [List.getElem?_zip_eq_some] at q
    exact ⟨p.1, p.2, q.1, q.2, rfl⟩
theorem zipD_len {xs ys : List D} : (zipD xs ys).length = min xs.length ys.length := by
  unfold zipD
  rw [List.length_map, List.length_zip]
def iZip2 (m1 m2 : Gm → T RV) : Gm → T (List D) := fun γ => (aCons m1 (aCons m2 aNil) γ).bind fun ds => match ds with
  | [.lst xs, .lst ys] => .ok (zipD xs ys)
  | [.tup xs, .tup ys] => .ok (zipD xs ys)
  | _ => .stuck
theorem di_zip {e2 : Expr} {m2 : Gm → T RV} {elts : List Expr} {kk : Nat} {p tpos : Pos} (hm : X.mg "zip" = none) (h1 : DE X c W e m) (h2 : DE X c W e2 m2) (hg : Gl X "zip" := by rfl)
    (hs : starEach [e, e2] X.env = (false, eval e X.env) :: starEach [e2] X.env := by rfl) (hs2 : starEach [e2] X.env = (false, eval e2 X.env) :: starEach [] X.env := by rfl) (hpl : (backTo pos (starEach [e2] X.env)).any (·.1) = false := by rfl) :
    DI X c W (.Tuple elts kk tpos) (.Call (.Name "zip" p) [e, e2] [] pos) (iZip2 m m2) := by
  refine ⟨(RZ.pi_zipA hg hm (da_cons h1 (da_cons h2 da_nil hs2) hs).pa hs hpl).imp fun σ H R ⟨F, γ, j, g, en, h⟩ => tA.seq g en h fun j1 ds F1 H1 vs e1 g1 en1 r1 h1 => ?_⟩
  split at h1
  · rename_i xs ys
    cases r1 with
    | cons ra r1 =>
      cases r1 with
      | cons rb r1 =>
        cases r1
        cases ra with
        | @lst a vs1 _ qa da =>
          cases rb with
          | @lst b vs2 _ qb db =>
            refine ⟨a, b, vs1, vs2, rfl, .inl ⟨SqL.of (g1.sub _ _ qa), SqL.of (g1.sub _ _ qb), h1 F1 H1 _ e1 g1 ⟨fun i F' H' up sub hi => ?_, fun F' H' up sub => ?_, fun i F' H' x H2 j up g y => ?_⟩⟩⟩
            · rw [zipD_len] at hi
              have l1 : i < vs1.length := by rw [da.length]; omega
              have l2 : i < vs2.length := by rw [db.length]; omega
              exact ⟨_, _, _, _, SqL.of (sub _ _ (up _ _ qa)), SqL.of (sub _ _ (up _ _ qb)), List.getElem?_eq_getElem l1, List.getElem?_eq_getElem l2⟩
            · refine ⟨_, _, SqL.of (sub _ _ (up _ _ qa)), SqL.of (sub _ _ (up _ _ qb)), ?_⟩
              rw [zipD_len, da.length, db.length]
              omega
            · obtain ⟨Tt, u, w, rfl, hT, rfl, y1, y2⟩ := y
              obtain ⟨g2, e2'⟩ := g.lay (o := .tup [u, w]) hT
              refine ⟨_, e2', g2, fun d hd => ?_⟩
              obtain ⟨dx, dy, k1, k2, rfl⟩ := zipD_get hd
              obtain ⟨v1, k3, k4⟩ := da.get k1
              obtain ⟨v2, k5, k6⟩ := db.get k2
              have z1 := y1 _ (SqL.of (g.sub _ _ (up _ _ qa)))
              have z2 := y2 _ (SqL.of (g.sub _ _ (up _ _ qb)))
              rw [k3] at z1
              rw [k5] at z2
              cases z1
              cases z2
              exact .tup (.inl (.inl upd_same)) (.cons ((k4.mono up).mono e2'.up) (.cons ((k6.mono up).mono e2'.up) .nil))
  · rename_i xs ys
    cases r1 with
    | cons ra r1 =>
      cases r1 with
      | cons rb r1 =>
        cases r1
        cases ra with
        | @tup a vs1 _ qa da =>
          cases rb with
          | @tup b vs2 _ qb db =>
            refine ⟨a, b, vs1, vs2, rfl, .inr ⟨SqT.mono qa g1.sub, SqT.mono qb g1.sub, h1 F1 H1 _ e1 g1 ⟨fun i F' H' up sub hi => ?_, fun F' H' up sub => ?_, fun i F' H' x H2 j up g y => ?_⟩⟩⟩
            · rw [zipD_len] at hi
              have l1 : i < vs1.length := by rw [da.length]; omega
              have l2 : i < vs2.length := by rw [db.length]; omega
              exact ⟨_, _, _, _, SqT.mono (SqT.mono qa up) sub, SqT.mono (SqT.mono qb up) sub, List.getElem?_eq_getElem l1, List.getElem?_eq_getElem l2⟩
            · refine ⟨_, _, SqT.mono (SqT.mono qa up) sub, SqT.mono (SqT.mono qb up) sub, ?_⟩
              rw [zipD_len, da.length, db.length]
              omega
            · obtain ⟨Tt, u, w, rfl, hT, rfl, y1, y2⟩ := y
              obtain ⟨g2, e2'⟩ := g.lay (o := .tup [u, w]) hT
              refine ⟨_, e2', g2, fun d hd => ?_⟩
              obtain ⟨dx, dy, k1, k2, rfl⟩ := zipD_get hd
              obtain ⟨v1, k3, k4⟩ := da.get k1
              obtain ⟨v2, k5, k6⟩ := db.get k2
              have z1 := y1 _ (SqT.mono (SqT.mono qa up) g.sub)
              have z2 := y2 _ (SqT.mono (SqT.mono qb up) g.sub)
              rw [k3] at z1
              rw [k5] at z2
              cases z1
              cases z2
              exact .tup (.inl (.inl upd_same)) (.cons ((k4.mono up).mono e2'.up) (.cons ((k6.mono up).mono e2'.up) .nil))
  · exact h1.elim
/-! ### max(a, b), min(a, b) -/
end
end DL
/-! DX9: static methods, called on the class. -/
namespace DL
open PySem PySem.Spec L2
open PyProof.Rows
end DL
/-! DY8: an instance is called (own __call__). -/
namespace PySem.W
open PySem PySem.Spec PySem.Calls PyProof.Rows
end PySem.W
namespace DL
open PySem PySem.Spec L2
open PyProof.Rows
def MethOkC (X : Cx) (c : Ct) (k : Nat) (m : Str) (tbl : List (Nat × (List D → T D))) : Prop :=
  ∀ p ∈ tbl, Cls X.K (c.cA p.1) ∧ ∃ f, Meth X.K (c.cA p.1) m f ∧ PySem.W.fnIn X.K f = true ∧ FnA X.prog X.w X.K X.mg X.base k f [] (spD c X.K p.2)
def recvI (tbl : List (Nat × (List D → T D))) (d : D) : T Unit := match d with
  | .ins n _ => (match tbl.lookup n with
    | some _ => T.ok ()
    | none => T.stuck)
  | _ => T.stuck
def mCallI (tbl : List (Nat × (List D → T D))) (mo : Gm → T RV) (ms : Gm → T (List D)) : Gm → T RV := fun γ => (mo γ).bind fun x => (asD x).bind fun d => (recvI tbl d).bind fun _ => (ms γ).bind fun ds => (methM tbl (d :: ds)).bind fun d => okV d
end DL
/-! DY9: self.f, self.g = e. -/
namespace DL
open PySem PySem.Spec L2
open PyProof.Rows
section
variable {X : Cx} {c : Ct} {W : WX} {o e : Expr} {m : Gm → T RV} {pos : Pos}
def mFld2 (i : Nat) (cs : List Nat) (f g : Str) (m : Gm → T RV) : Gm → T Fl := fun γ => match γ[i]? with
  | some (.obj n gs) => if cs.contains n && decide (gs.length < 100) then (m γ).bind fun x => (asD x).bind fun d => (match d with
    | .tup [d1, d2] => .ok (.nx (γ.set i (.obj n (putD g d2 (putD f d1 gs)))))
    | _ => .stuck) else .stuck
  | _ => .stuck
end
end DL
/-! DV0: a, b = x, y where some of the right side are new lists of one's own. -/
namespace DL
open PySem PySem.Spec L2
open PyProof.Rows
inductive MV where
  | val (d : D) | own (ds : List D) | dic (z : Dk)
def MV.sv : MV → SV
  | .val d => .val d
  | .own ds => .own ds
  | .dic z => .dic z
def MV.isOwn : MV → Bool
  | .own _ => true
  | .dic _ => true
  | _ => false
def RM (c : Ct) (K : PySem.W.Frag) (H0 F H : Hp) (v : V) : MV → Prop
  | .val d => Dat c K F v d
  | .own ds => ∃ a vs, v = .ref a ∧ H0 a = none ∧ F a = none ∧ H a = some (.lst vs) ∧ Dats c K F vs ds ∧ a ≠ c.pa ∧ a ≠ c.sa
  | .dic z => ∃ a u, v = .ref a ∧ H0 a = none ∧ F a = none ∧ H a = some u ∧ DkAt c K F u z ∧ a ≠ c.pa ∧ a ≠ c.sa
/-- the values, one by one; those that are new lists are apart from the later ones -/
inductive RMs (c : Ct) (K : PySem.W.Frag) (H0 F H : Hp) : List V → List MV → Prop
  | nil : RMs c K H0 F H [] []
  | cons {v : V} {m : MV} {vs : List V} {ms : List MV} : RM c K H0 F H v m → RMs c K H0 F H vs ms → (∀ (i : Nat) (w : V) (n : MV), m.isOwn = true → vs[i]? = some w → ms[i]? = some n → n.isOwn = true → w ≠ v) → RMs c K H0 F H (v :: vs) (m :: ms)
section
variable {X : Cx} {c : Ct} {W : WX} {K : PySem.W.Frag} {F F' H H' H0 H1 F0 : Hp} {σ : L2.St} {γ : Gm} {j : Nat} {e : Expr} {es : List Expr} {pos : Pos} {m : Gm → T RV} {mf : Gm → T (List D)} {mm : Gm → T (List MV)}
theorem RM.ext {v : V} {n : MV} (h : RM c K H0 F H v n) (e : Ext c F H F' H') : RM c K H0 F' H' v n := by
  cases n with
  | val d => exact Dat.mono e.up h
  | own ds =>
    obtain ⟨a, vs, h1, h2, h3, h4, h5, np, ns⟩ := h
    refine ⟨a, vs, h1, h2, ?_, e.keep a _ np .lst h4, h5.mono e.up, np, ns⟩
    cases z : F' a with
    | none => rfl
    | some o =>
      rcases e.new a (by rw [z]; simp) with y | y
      · exact absurd h3 y
      · rw [y] at h4; cases h4
  | dic z =>
    obtain ⟨a, u, h1, h2, h3, h4, h5, np, ns⟩ := h
    refine ⟨a, u, h1, h2, ?_, e.keep a _ np h5.nt h4, h5.mono e.up, np, ns⟩
    cases z : F' a with
    | none => rfl
    | some o =>
      rcases e.new a (by rw [z]; simp) with y | y
      · exact absurd h3 y
      · rw [y] at h4; cases h4
def pM (c : Ct) (K : PySem.W.Frag) (F H : Hp) (Q : List V → Hp → Prop) : Nat → List MV → Prop := fun j x => ∀ F' H' vs, Ext c F H F' H' → Good c F' H' j → RMs c K H F' H' vs x → Q vs H'
def tM (c : Ct) (K : PySem.W.Frag) (W : WX) (m : Gm → T (List MV)) : TA := fun σ H Q => ∃ F γ j, Good c F H j ∧ EnvOk c K F H σ γ ∧ (m γ).All j (pM c K F H Q) (pX c K W F H σ)
structure DM (X : Cx) (c : Ct) (W : WX) (es : List Expr) (m : Gm → T (List MV)) : Prop where
  pa : PA X es (tM c X.K W m)
theorem RM.low {v : V} {n : MV} (h : RM c K H1 F' H' v n) (e : Ext c F H F0 H1) : RM c K H F' H' v n := by
  cases n with
  | val d => exact h
  | own ds =>
    obtain ⟨a, vs, h1, h2, h3⟩ := h
    exact ⟨a, vs, h1, e.none h2, h3⟩
  | dic z =>
    obtain ⟨a, u, h1, h2, h3⟩ := h
    exact ⟨a, u, h1, e.none h2, h3⟩
theorem RMs.low {vs : List V} {ns : List MV} (h : RMs c K H1 F' H' vs ns) (e : Ext c F H F0 H1) : RMs c K H F' H' vs ns := by
  induction h with
  | nil => exact .nil
  | cons a _ d ih => exact .cons (a.low e) ih d
theorem RMs.fresh {vs : List V} {ns : List MV} (h : RMs c K H1 F' H' vs ns) : ∀ (i : Nat) (w : V) (n : MV), vs[i]? = some w → ns[i]? = some n → n.isOwn = true → ∃ a, w = .ref a ∧ H1 a = none := by
  induction h with
  | nil => intro i w n h1; simp at h1
  | cons a _ d ih =>
    intro i w n h1 h2 h3
    cases i with
    | zero =>
      simp at h1 h2
      subst h1 h2
      rename_i m _ _ _
      cases m with
      | val _ => cases h3
      | own ds =>
        obtain ⟨b, us, q1, q2, _⟩ := a
        exact ⟨b, q1, q2⟩
      | dic z =>
        obtain ⟨b, us, q1, q2, _⟩ := a
        exact ⟨b, q1, q2⟩
    | succ i => exact ih i w n (by simpa using h1) (by simpa using h2) h3
def aMNil : Gm → T (List MV) := fun _ => .ok []
def aMVal (m : Gm → T RV) (ms : Gm → T (List MV)) : Gm → T (List MV) := fun γ => (m γ).bind fun x => (asD x).bind fun d => (ms γ).bind fun ds => .ok (.val d :: ds)
def aMOwn (mf : Gm → T (List D)) (ms : Gm → T (List MV)) : Gm → T (List MV) := fun γ => (mf γ).bind fun d => (ms γ).bind fun ds => .ok (.own d :: ds)
theorem dm_nil : DM X c W [] aMNil := ⟨pa_nil.imp fun σ H Q ⟨F, γ, j, g, en, h⟩ => h F H [] .refl g .nil⟩
theorem tM.seq {α : Type} {f : List MV → T α} {P : Nat → α → Prop} {Q : List V → Hp → Prop} {E : Nat → Xc → Prop} (hE : ∀ j e, E j e → pX c K W F H σ j e) (g : Good c F H j) (en : EnvOk c K F H σ γ) (h : ((mm γ).bind f).All j P E)
    (k : ∀ j' x F' H' vs, Ext c F H F' H' → Good c F' H' j' → EnvOk c K F' H' σ γ → RMs c K H F' H' vs x → (f x).All j' P E → Q vs H') : tM c K W mm σ H Q :=
  ⟨F, γ, j, g, en, (T.All.bind h).imp (fun j' x hx F' H' v e g' r => k j' x F' H' v e g' (en.ext e) r hx) hE⟩
theorem dm_val (ha : DE X c W e m) (hr : DM X c W es mm) (hs : starEach (e :: es) X.env = (false, eval e X.env) :: starEach es X.env := by rfl) : DM X c W (e :: es) (aMVal m mm) := by
  refine ⟨(pa_cons ha.pe hr.pa hs).imp fun σ H Q ⟨F, γ, j, g, en, h⟩ => ?_⟩
  refine tE.seq g en h fun j1 x F1 H1 v e1 g1 en1 r1 h1 => ?_
  obtain ⟨d, rfl, hd, h2⟩ := r1.asD (T.All.bind h1)
  refine tM.seq (fun _ _ z => z.ext e1) g1 en1 h2 fun j2 ds F2 H2 vs e2 g2 en2 r2 h3 => ?_
  exact h3 F2 H2 _ (e1.trans e2) g2 (.cons (show RM _ _ _ _ _ _ (.val d) from hd.mono e2.up) (r2.low e1) fun _ _ _ z => nomatch z)
theorem dm_own (ha : DF X c W e mf) (hr : DM X c W es mm) (hs : starEach (e :: es) X.env = (false, eval e X.env) :: starEach es X.env := by rfl) : DM X c W (e :: es) (aMOwn mf mm) := by
  refine ⟨(pa_cons ha.pe hr.pa hs).imp fun σ H Q ⟨F, γ, j, g, en, h⟩ => ?_⟩
  refine ⟨F, γ, j, g, en, (T.All.bind h).imp (fun j1 d h1 F1 H1 a us e1 g1 ha0 hF hl hd => ?_) fun _ _ z => z⟩
  have np := g.nePen ha0
  refine tM.seq (fun _ _ z => z.ext e1) g1 (en.ext e1) h1 fun j2 ds F2 H2 vs e2 g2 en2 r2 h3 => ?_
  have rm : RM c X.K H F1 H1 (.ref a) (.own d) := ⟨a, us, rfl, ha0, hF, hl, hd, np.1, np.2⟩
  refine h3 F2 H2 _ (e1.trans e2) g2 (.cons (rm.ext e2) (r2.low e1) fun i w n _ q1 q2 q3 z => ?_)
  obtain ⟨b, hb, hn⟩ := r2.fresh i w n q1 q2 q3
  rw [hb] at z
  cases z
  rw [hn] at hl
  cases hl
theorem EnvOk.setDic {i : Nat} {a : Addr} {u : HO} {z : Dk} (h : EnvOk c K F H σ γ) (n1 : a ≠ c.pa) (n2 : a ≠ c.sa) (hF : F a = none) (ha : H a = some u) (r : DkAt c K F u z) (hn : ¬ OwnAt σ γ a) : EnvOk c K F H (σ.set i (some (.ref a))) (γ.set i (.dic z)) := by
  refine ⟨by simp [h.len], fun k d' q => ?_, fun k ds q => ?_, fun k n gs q => ?_, fun k dz q => ?_, fun x y o u b q1 o1 q2 o2 z1 z2 => ?_⟩
  · rcases get_set q with ⟨rfl, e, hl⟩ | ⟨n, q⟩
    · cases e
    · obtain ⟨w, h1, h2⟩ := h.val k d' q
      exact ⟨w, set_ne n h1, h2⟩
  · rcases get_set q with ⟨rfl, e, hl⟩ | ⟨n, q⟩
    · cases e
    · obtain ⟨a, vs, h1, h2⟩ := h.own k ds q
      exact ⟨a, vs, set_ne n h1, h2⟩
  · rcases get_set q with ⟨rfl, e, hl⟩ | ⟨n', q⟩
    · cases e
    · obtain ⟨a, dx, fs, h1, h2⟩ := h.obj k n gs q
      exact ⟨a, dx, fs, set_ne n' h1, h2⟩
  · rcases get_set q with ⟨rfl, e, hl⟩ | ⟨n', q⟩
    · cases e
      exact ⟨a, u, by rw [List.getElem?_set_self (by rw [h.len]; exact hl)], n1, n2, hF, ha, r⟩
    · obtain ⟨a, u, h1, h2⟩ := h.dic k dz q
      exact ⟨a, u, set_ne n' h1, h2⟩
  · rcases get_set q1 with ⟨rfl, e, hl⟩ | ⟨m1, q1⟩
    · rcases get_set q2 with ⟨rfl, e2, _⟩ | ⟨m2, q2⟩
      · rfl
      · rw [List.getElem?_set_ne (Ne.symm m2)] at z2
        rw [List.getElem?_set_self (by rw [h.len]; exact hl)] at z1
        cases z1
        exact absurd ⟨y, u, q2, o2, z2⟩ hn
    · rcases get_set q2 with ⟨e0, e, hl⟩ | ⟨m2, q2⟩
      · subst e0
        rw [List.getElem?_set_ne (Ne.symm m1)] at z1
        rw [List.getElem?_set_self (by rw [h.len]; exact hl)] at z2
        cases z2
        exact absurd ⟨x, o, by assumption, o1, z1⟩ hn
      · rw [List.getElem?_set_ne (Ne.symm m1)] at z1
        rw [List.getElem?_set_ne (Ne.symm m2)] at z2
        exact h.ne x y o u b q1 o1 q2 o2 z1 z2
theorem ObjAt.setDic {i : Nat} {v : V} {z : Dk} {a : Addr} (h : ObjAt (σ.set i (some v)) (γ.set i (.dic z)) a) : ObjAt σ γ a := by
  obtain ⟨k, n, gs, q, z⟩ := h
  rcases get_set q with ⟨rfl, e, hl⟩ | ⟨n', q⟩
  · cases e
  · rw [List.getElem?_set_ne (Ne.symm n')] at z
    exact ⟨k, n, gs, q, z⟩
end
end DL
namespace DL
open PySem PySem.Spec L2
open PyProof.Rows
section
variable {X : Cx} {c : Ct} {W : WX} {K : PySem.W.Frag} {ob : Addr} {F0 H0 F F' H H' Hs : Hp} {σ : L2.St} {γ : Gm} {j : Nat} {pos : Pos} {mm : Gm → T (List MV)}
/-- what may be stored -/
structure Fit (c : Ct) (K : PySem.W.Frag) (H0 F H : Hp) (σ : L2.St) (γ : Gm) (v : V) (n : MV) : Prop where
  rm : RM c K H0 F H v n
  no : n.isOwn = true → ∀ a, v = .ref a → ¬ OwnAt σ γ a
theorem SOk.setM {i : Nat} {v : V} {n : MV} (s : SOk c K ob F0 H0 σ H γ F j) (r : Fit c K H0 F H σ γ v n) : SOk c K ob F0 H0 (σ.set i (some v)) H (γ.set i n.sv) F j := by
  cases n with
  | val d => exact s.setVal r.rm
  | own ds =>
    obtain ⟨a, vs, rfl, h0, hF, ha, hd, np, ns⟩ := r.rm
    have no := r.no rfl a rfl
    refine ⟨s.gd, s.ext, s.env.setOwn np ns hF ha hd no, fun b h => ?_, fun b h => s.obj b h.setOwn⟩
    obtain ⟨k, o, q, ho, z⟩ := h
    rcases get_set q with ⟨rfl, e, hl⟩ | ⟨n, q⟩
    · rw [List.getElem?_set_self (by rw [s.env.len]; exact hl)] at z
      cases z
      exact h0
    · rw [List.getElem?_set_ne (Ne.symm n)] at z
      exact s.own b ⟨k, o, q, ho, z⟩
  | dic z =>
    obtain ⟨a, u, rfl, h0, hF, ha, hd, np, ns⟩ := r.rm
    have no := r.no rfl a rfl
    refine ⟨s.gd, s.ext, s.env.setDic np ns hF ha hd no, fun b h => ?_, fun b h => s.obj b h.setDic⟩
    obtain ⟨k, o, q, ho, z⟩ := h
    rcases get_set q with ⟨rfl, e, hl⟩ | ⟨n, q⟩
    · rw [List.getElem?_set_self (by rw [s.env.len]; exact hl)] at z
      cases z
      exact h0
    · rw [List.getElem?_set_ne (Ne.symm n)] at z
      exact s.own b ⟨k, o, q, ho, z⟩
/-- behind a store the later ones still fit -/
theorem Fit.after {i : Nat} {v w : V} {n m : MV} (hl : σ.length = γ.length) (f : Fit c K H0 F H σ γ w m) (d : n.isOwn = true → m.isOwn = true → w ≠ v) : Fit c K H0 F H (σ.set i (some v)) (γ.set i n.sv) w m := by
  refine ⟨f.rm, fun hm a e => ?_⟩
  rintro ⟨k, o, q, ho, z⟩
  rcases get_set q with ⟨rfl, e2, hl2⟩ | ⟨nk, q⟩
  · rw [List.getElem?_set_self (by rw [hl]; exact hl2)] at z
    cases z
    subst e2
    cases n with
    | val _ => cases ho
    | own _ => exact d rfl hm e
    | dic _ => exact d rfl hm e
  · rw [List.getElem?_set_ne (Ne.symm nk)] at z
    exact f.no hm a e ⟨k, o, q, ho, z⟩
theorem RM.fit {v : V} {n : MV} (s : SOk c K ob F0 H0 σ Hs γ F j) (r : RM c K Hs F' H' v n) : Fit c K H0 F' H' σ γ v n := by
  refine ⟨?_, fun hn a e o => ?_⟩
  · cases n with
    | val d => exact r
    | own ds =>
      obtain ⟨a, vs, h1, h2, h3⟩ := r
      refine ⟨a, vs, h1, ?_, h3⟩
      cases y : H0 a with
      | none => rfl
      | some u => exact absurd h2 (s.ext.there a (by rw [y]; simp))
    | dic z =>
      obtain ⟨a, vs, h1, h2, h3⟩ := r
      refine ⟨a, vs, h1, ?_, h3⟩
      cases y : H0 a with
      | none => rfl
      | some u => exact absurd h2 (s.ext.there a (by rw [y]; simp))
  · cases n with
    | val d => cases hn
    | own ds =>
      obtain ⟨b, vs, h1, h2, h3⟩ := r
      rw [e] at h1
      cases h1
      exact (s.env.there o).1 h2
    | dic z =>
      obtain ⟨b, vs, h1, h2, h3⟩ := r
      rw [e] at h1
      cases h1
      exact (s.env.there o).1 h2
def mParM2 (i k : Nat) (mm : Gm → T (List MV)) : Gm → T Fl := fun γ => (mm γ).bind fun ds => match ds with
  | [a, b] => .ok (.nx ((γ.set i a.sv).set k b.sv))
  | _ => .stuck
theorem store2 {F1 H1 : Hp} {i k j1 : Nat} {vs : List V} {a b : MV} (s : SOk c K ob F0 H0 σ H γ F j) (e1 : Ext c F H F1 H1) (g1 : Good c F1 H1 j1) (r : RMs c K H F1 H1 vs [a, b]) : ∃ v w, vs = [v, w] ∧ SOk c K ob F0 H0 ((σ.set i (some v)).set k (some w)) H1 ((γ.set i a.sv).set k b.sv) F1 j1 := by
  cases r with
  | cons q1 r d1 =>
    cases r with
    | cons q2 r d2 =>
      cases r
      have s1 := s.step e1 g1
      have f1 := RM.fit s q1
      have f2 := RM.fit s q2
      refine ⟨_, _, rfl, (s1.setM f1).setM (f2.after s1.env.len fun h1 h2 => d1 0 _ _ h1 rfl rfl h2)⟩
theorem ds_parM2 (i j : Nat) {x y : Str} {a b : Expr} {px py pt : Pos} {kt k2 pt2} (hc : X.calm = true) (hN : X.N.Nodup) (ha : DM X c W [a, b] mm) (hi : X.N[i]? = some x := by rfl) (hj : X.N[j]? = some y := by rfl) (hij : i ≠ j := by decide)
    (hx : X.env.scope.names.lookup x = some .local := by rfl) (hy : X.env.scope.names.lookup y = some .local := by rfl)
    (hw : swappedStores [.Tuple [.Name x px, .Name y py] kt pt] (.Tuple [a, b] k2 pt2) X.env = pure (some [x, y]) := by rfl)
    (hs : swapsWithSole [.Tuple [.Name x px, .Name y py] kt pt] (.Tuple [a, b] k2 pt2) pos.line X.env = pure false := by rfl) : DS X c W (.Assign [.Tuple [.Name x px, .Name y py] kt pt] (.Tuple [a, b] k2 pt2) pos) (mParM2 i j mm) := by
  refine ⟨(ps_par hc hN hi hj hij hx hy ha.pa hw hs).imp fun D σ H ⟨ob, F0, H0, F, γ, j0, s, h⟩ => ?_⟩
  refine ⟨F, γ, j0, s.gd, s.env, (T.All.bind h).imp (fun j1 ds h1 F1 H1 vs e1 g1 r1 => ?_) fun _ _ z => z.px s.ext⟩
  split at h1
  · obtain ⟨v, w, rfl, s2⟩ := store2 (i := i) (k := j) s e1 g1 r1
    exact ⟨v, w, rfl, h1 _ F1 H1 s2⟩
  · exact h1.elim
/-- list(e), as a new list of one's own -/
def fList (m : Gm → T RV) : Gm → T (List D) := fun γ => (m γ).bind fun x => match x.d with
  | .lst ds => .ok ds
  | .tup ds => .ok ds
  | _ => .stuck
end
end DL
/-! DU0: what is never come to needs no rule. -/
namespace DL
open PySem PySem.Spec L2
open PyProof.Rows
end DL
/-! DU1: defs with a star parameter. -/
namespace DL
open PySem PySem.Spec L2
open PyProof.Rows
/-- what is left over is a tuple -/
def starM {α : Type} (n : Nat) (r : List D → T α) : List D → T α := fun ds => if n ≤ ds.length ∧ ds.length ≤ 1000000 then r (ds.take n ++ [.tup (ds.drop n)]) else .stuck
theorem le_line {n : Nat} (h : n ≤ 1000000) : n ≤ sizeLine := by rw [sizeLine_eq]; omega
section
variable {P : Program} {w : World} {K : PySem.W.Frag} {mg : Str → Option Value} {base : Heap} {c : Ct}
theorem fnStar {x qual pv : Str} {params : Arguments} {body : List Stmt} {scope : Scope} {kws : List (Str × V)} {f : Addr} {fd : FuncData} {N ps : List Str} {k : Nat} {mb : Gm → T Fl} (F : FunD K x qual params body scope [] kws f fd) (S : FnScope N (ps ++ [pv]) scope) (hl : ps.length + 1 ≤ N.length)
    (hbind : ∀ (kV doc pm : Value) (an : Option Addr) (cdv ct : Value) (us rest : List Value), us.length = ps.length → bindArgs (PySem.W.fnOf x qual params body scope .none kV doc pm an cdv ct) ⟨us ++ rest, []⟩ = (newTuple rest >>= fun t => pure (ps.zip us ++ [(pv, t)])))
    (hb : ∀ (cdv : Value) (A : Around) (outer : List Env) (s : Shared) (H : Hp) (E : XK), fd.code = cdv → Room k (A.deeper (envOfC qual scope s.heap.objs.size f cdv)) →
      DSs (cxOf (CX P w) P w K mg base N qual scope f cdv A outer s H E) c (fun cls d _ H => E cls d H) body mb) :
    FnA P w K mg base (k + 1) f [] (spD c K (starM ps.length (runB (ps.length + 1) N.length mb))) := by
  obtain ⟨oc, od, dV, kV, doc, pm, an, cdv, ct, osl, rfl, lk, hcd, hD, hK⟩ := F.ex
  rcases hD with ⟨_, rfl⟩ | ⟨e, _⟩
  rotate_left
  · exact absurd rfl e
  intro A outer s H us ws0 vs Q E hr e0 r hl0 ⟨F', es, j, g, rd, h⟩
  cases ws0 with
  | cons _ _ => cases hl0
  | nil =>
    rw [List.append_nil] at r
    unfold starM at h
    split at h
    rotate_left
    · exact h.elim
    rename_i hn
    have hn1 : ps.length ≤ vs.length := by rw [rd.length]; exact hn.1
    have ev : vs = vs.take ps.length ++ vs.drop ps.length := (List.take_append_drop _ _).symm
    have hlt : (vs.take ps.length).length = ps.length := by rw [List.length_take]; omega
    rw [ev] at r
    obtain ⟨u1, u2, eu, r1, r2⟩ := StX.vals_split r
    subst eu
    have hn0 : H s.heap.objs.size = Option.none := e0.hok.fresh (Nat.le_refl _)
    have hl1 : u1.length = ps.length := by rw [← r1.length]; exact hlt
    have hz : (vs.drop ps.length).length ≤ sizeLine := le_line (by rw [List.length_drop, rd.length]; omega)
    have hl2 : u2.length ≤ sizeLine := by rw [← r2.length]; exact hz
    refine StX.run_bnd (CX := CX P w) lk hcd S hr.toRoom e0 (G := fun xs H2 => ∃ p, H p = Option.none ∧ xs = vs.take ps.length ++ [V.ref p] ∧ H2 = upd H p (.tup (vs.drop ps.length))) (fun A' Ex Q' hh => ?_) fun s2 H2 xs ⟨p, hp, ex, eH⟩ hr' => ⟨_, (hb cdv A outer s2 H2 E rfl (hr.deeper _)).ps, ?_⟩
    · show wpAny (model P w) A' (bindArgs (PySem.W.fnOf x qual params body scope .none kV doc pm an cdv ct) ⟨u1 ++ u2, []⟩) Q' Ex s
      rw [hbind kV doc pm an cdv ct u1 u2 hl1]
      refine wpAny_bind (wpAny_newTuple (wpAny_pure ?_) hl2)
      have new : ObjOk P w (upd H s.heap.objs.size (.tup (vs.drop ps.length))) (s.heap.push ({ cls := .type "tuple", data := .seq u2.toArray } : Obj)) s.heap.objs.size (.tup (vs.drop ps.length)) := ⟨hz, u2, r2, ⟨_, Heap.get?_push_size _ rfl, rfl, _, rfl⟩⟩
      have un := StX.un_laid (fs := frs outer) (s := s) (o := ({ cls := .type "tuple", data := .seq u2.toArray } : Obj)) (u := .tup (vs.drop ps.length)) hn0
      have z := hh _ _ (vs.take ps.length ++ [V.ref s.heap.objs.size]) (u1 ++ [Value.ref s.heap.objs.size]) (StX.env0_laid e0 new) un rfl (fun e s' => StX.cxUp outer s H _ _ E e s' un (fun b o q => Heap.get?_push_of_some _ q) rfl) (r1.append (.cons rfl .nil))
        (by rw [List.length_append, List.length_append, hlt] <;> rfl) ⟨_, hn0, rfl, rfl⟩
      rw [List.zip_append hl1.symm] at z
      exact z
    · subst ex eH
      obtain ⟨g2, e2⟩ := g.lay (o := .tup (vs.drop ps.length)) hp
      have rd2 : Dats c K (upd F' p (.tup (vs.drop ps.length))) (vs.take ps.length ++ [V.ref p]) (es.take ps.length ++ [.tup (es.drop ps.length)]) :=
        ((rd.take _).mono e2.up).append (.cons (.tup (.inl (.inl upd_same)) ((rd.drop _).mono e2.up)) .nil)
      have hn2 := runB_len h
      unfold runB at h
      rw [if_pos hn2] at h
      refine ⟨0, upd F' p (.tup (vs.drop ps.length)), upd H p (.tup (vs.drop ps.length)), upd F' p (.tup (vs.drop ps.length)), _, j, ⟨g2, .refl, by rw [← hn2]; exact env_start (by rw [hn2]; exact hl) rd2, fun a o => absurd o own_start, fun a o => absurd o obj_start⟩, (T.All.bind h).imp (fun j' fl hf => ?_) fun j' e he F3 H3 d σ ex g' q => he F3 H3 d (e2.trans ex) g' (q.low e2)⟩
      cases fl with
      | nx γ => exact fun σ F3 H3 s' => hf F3 H3 .non (e2.trans s'.ext) s'.gd .non
      | rt d => exact fun F3 H3 v e g' r => hf F3 H3 v (e2.trans e) g' r
      | bk γ => exact hf.elim
      | ct γ => exact hf.elim
end
section
variable {P : Program} {w : World} {K : PySem.W.Frag} {mg : Str → Option Value} {base : Heap} {c : Ct}
/-- an __init__'s body, from its promise -/
theorem initBody {X : Cx} {self : Str} {N : List Str} {cl n : Nat} {mb : Gm → T Fl} {vs : List V} {H : Hp} {Q : VK} {E : XK} (hl : n ≤ N.length) (hK : X.K = K) (hsp : spI c K cl (initB n N.length cl mb) vs H Q E) :
    tS c X.K (fun cls d _ H => E cls d H) mb { nx := fun _ H' => Q .non H', rt := Q } (L2.start (self :: N) vs) H := by
  subst hK
  obtain ⟨F, H1, ds, j, a, dx, ws, ev, g, ha, hdx, nad, eH, r, h⟩ := hsp
  subst ev eH
  have hn := initB_len h
  unfold initB at h
  rw [if_pos hn] at h
  have np := g.nePen ha
  have npd := g.nePen hdx
  have fa : F a = none := g.fresh (o := .lst []) ha
  have fdx : F dx = none := g.fresh (o := .lst []) hdx
  have keep : ∀ b o, H1 b = some o → upd (upd H1 dx (.own a)) a (.ins (c.cA cl) dx []) b = some o := fun b o q => by
    rw [upd_ne (ne_of_none q ha), upd_ne (ne_of_none q hdx)]
    exact q
  have g2 : Good c F (upd (upd H1 dx (.own a)) a (.ins (c.cA cl) dx [])) j := by
    obtain ⟨g1, gp, gq, gt, gn⟩ := g
    exact ⟨fun b o q => keep b o (g1 b o q), gp, gq.keep fun b vs _ z => keep b _ z, tabs_keep gt (fun b o _ h => keep b o h) (fun _ _ h => tbl_upd .own (tbl_upd .ins h)), gn⟩
  have e2 : Ext c F H1 F (upd (upd H1 dx (.own a)) a (.ins (c.cA cl) dx [])) := ⟨fun _ _ q => q, fun b o _ _ q => keep b o q, fun b q => by
    cases y : H1 b with
    | none => exact absurd y q
    | some o => rw [keep b o y]; simp, fun _ q => .inl q⟩
  have en0 := env_start (H := upd (upd H1 dx (.own a)) a (.ins (c.cA cl) dx [])) (N := N) (by rw [hn]; exact hl) r
  have env : EnvOk c X.K F (upd (upd H1 dx (.own a)) a (.ins (c.cA cl) dx [])) (L2.start (self :: N) (.ref a :: ws)) (SV.obj cl [] :: (ds.map SV.val ++ List.replicate (N.length - ds.length) SV.no)) := by
    rw [start_cons]
    refine ⟨by simp [en0.len], fun i d q => ?_, fun i es q => ?_, fun i n gs q => ?_, fun i dz q => ?_, fun x y o u b q1 o1 q2 o2 z1 z2 => ?_⟩
    · cases i with
      | zero => cases q
      | succ i => exact en0.val i d (by simpa using q)
    · cases i with
      | zero => cases q
      | succ i => exact en0.own i es (by simpa using q)
    · cases i with
      | zero => cases q; exact ⟨a, dx, [], rfl, np.1, np.2, fa, upd_same, .nil⟩
      | succ i => exact en0.obj i n gs (by simpa using q)
    · cases i with
      | zero => cases q
      | succ i => exact en0.dic i dz (by simpa using q)
    · have zero : ∀ {x : Nat} {o : SV}, (SV.obj cl [] :: (ds.map SV.val ++ List.replicate (N.length - ds.length) SV.no))[x]? = some o → o.isOwn = true → x = 0 := fun {x o} q ho => by
        cases x with
        | zero => rfl
        | succ x =>
          rcases start_get (by simpa using q) with ⟨d', e, _⟩ | e <;> (rw [e] at ho; cases ho)
      rw [zero q1 o1, zero q2 o2]
  refine ⟨a, F, H1, F, _, j, ⟨g2, e2, by rw [← hn]; exact env, fun b o => ?_, fun b o => ?_⟩, (T.All.bind h).imp (fun j' fl hf => ?_) fun j' e he F' H' d σ ex g' q => he F' H' d ex g' q⟩
  · obtain ⟨i, o, q, ho, z⟩ := o
    rw [start_cons] at z
    cases i with
    | zero => cases z; exact ha
    | succ i =>
      rcases start_get (by simpa using q) with ⟨d', e, _⟩ | e <;> (rw [e] at ho; cases ho)
  · obtain ⟨i, n, gs, q, z⟩ := o
    rw [start_cons] at z
    cases i with
    | zero => cases z; rfl
    | succ i =>
      rcases start_get (by simpa using q) with ⟨d', e, _⟩ | e <;> cases e
  · cases fl with
    | nx γ =>
      intro σ F' H' s'
      dsimp only at hf
      split at hf
      · rename_i kk gs q
        split at hf
        · rename_i ek
          subst ek
          obtain ⟨a', dx', fs, h1, h2, h3, h4, h5, h6⟩ := s'.env.obj 0 kk gs q
          have ea := s'.obj a' ⟨0, kk, gs, q, h1⟩
          subst ea
          exact hf F' H' dx' fs s'.ext s'.gd h4 h5 h6
        · exact hf.elim
      · exact hf.elim
    | rt d => exact hf.elim
    | bk γ => exact hf.elim
    | ct γ => exact hf.elim
theorem fnStarI {x qual self pv : Str} {params : Arguments} {body : List Stmt} {scope : Scope} {kws : List (Str × V)} {f : Addr} {fd : FuncData} {N ps : List Str} {k cl : Nat} {mb : Gm → T Fl} (F : FunD K x qual params body scope [] kws f fd) (S : FnScope (self :: N) (self :: ps ++ [pv]) scope) (hl : ps.length + 1 ≤ N.length)
    (hbind : ∀ (kV doc pm : Value) (an : Option Addr) (cdv ct : Value) (us rest : List Value), us.length = (self :: ps).length → bindArgs (PySem.W.fnOf x qual params body scope .none kV doc pm an cdv ct) ⟨us ++ rest, []⟩ = (newTuple rest >>= fun t => pure ((self :: ps).zip us ++ [(pv, t)])))
    (hb : ∀ (cdv : Value) (A : Around) (outer : List Env) (s : Shared) (H : Hp) (E : XK), fd.code = cdv → Room k (A.deeper (envOfC qual scope s.heap.objs.size f cdv)) →
      DSs (cxOf (CX P w) P w K mg base (self :: N) qual scope f cdv A outer s H E) c (fun cls d _ H => E cls d H) body mb) :
    FnA P w K mg base (k + 1) f [] (spI c K cl (starM ps.length (initB (ps.length + 1) N.length cl mb))) := by
  obtain ⟨oc, od, dV, kV, doc, pm, an, cdv, ct, osl, rfl, lk, hcd, hD, hK⟩ := F.ex
  rcases hD with ⟨_, rfl⟩ | ⟨e, _⟩
  rotate_left
  · exact absurd rfl e
  intro A outer s H us ws0 vs Q E hr e0 r hl0 ⟨F', H1, es, j, a, dx, ws, ev, g, ha, hdx, nad, eH, rd, h⟩
  cases ws0 with
  | cons _ _ => cases hl0
  | nil =>
    rw [List.append_nil] at r
    unfold starM at h
    split at h
    rotate_left
    · exact h.elim
    rename_i hn
    have hn1 : ps.length ≤ ws.length := by rw [rd.length]; exact hn.1
    have ev2 : vs = (.ref a :: ws.take ps.length) ++ ws.drop ps.length := by rw [ev, List.cons_append, List.take_append_drop]
    have hlt : (V.ref a :: ws.take ps.length).length = (self :: ps).length := by rw [List.length_cons, List.length_take, List.length_cons]; omega
    rw [ev2] at r
    obtain ⟨u1, u2, eu, r1, r2⟩ := StX.vals_split r
    subst eu
    have hn0 : H s.heap.objs.size = Option.none := e0.hok.fresh (Nat.le_refl _)
    have hl1 : u1.length = (self :: ps).length := by rw [← r1.length]; exact hlt
    have hz : (ws.drop ps.length).length ≤ sizeLine := le_line (by rw [List.length_drop, rd.length]; omega)
    have hl2 : u2.length ≤ sizeLine := by rw [← r2.length]; exact hz
    refine StX.run_bnd (CX := CX P w) lk hcd S hr.toRoom e0 (G := fun xs H2 => ∃ p, H p = Option.none ∧ xs = (.ref a :: ws.take ps.length) ++ [V.ref p] ∧ H2 = upd H p (.tup (ws.drop ps.length))) (fun A' Ex Q' hh => ?_) fun s2 H2 xs ⟨p, hp, ex, eH2⟩ hr' => ⟨_, (hb cdv A outer s2 H2 E rfl (hr.deeper _)).ps, ?_⟩
    · show wpAny (model P w) A' (bindArgs (PySem.W.fnOf x qual params body scope .none kV doc pm an cdv ct) ⟨u1 ++ u2, []⟩) Q' Ex s
      rw [hbind kV doc pm an cdv ct u1 u2 hl1]
      refine wpAny_bind (wpAny_newTuple (wpAny_pure ?_) hl2)
      have new : ObjOk P w (upd H s.heap.objs.size (.tup (ws.drop ps.length))) (s.heap.push ({ cls := .type "tuple", data := .seq u2.toArray } : Obj)) s.heap.objs.size (.tup (ws.drop ps.length)) := ⟨hz, u2, r2, ⟨_, Heap.get?_push_size _ rfl, rfl, _, rfl⟩⟩
      have un := StX.un_laid (fs := frs outer) (s := s) (o := ({ cls := .type "tuple", data := .seq u2.toArray } : Obj)) (u := .tup (ws.drop ps.length)) hn0
      have z := hh _ _ ((.ref a :: ws.take ps.length) ++ [V.ref s.heap.objs.size]) (u1 ++ [Value.ref s.heap.objs.size]) (StX.env0_laid e0 new) un rfl (fun e s' => StX.cxUp outer s H _ _ E e s' un (fun b o q => Heap.get?_push_of_some _ q) rfl) (r1.append (.cons rfl .nil))
        (by rw [List.length_append, List.length_append, hlt] <;> rfl) ⟨_, hn0, rfl, rfl⟩
      rw [List.zip_append hl1.symm] at z
      exact z
    · subst ex eH2
      have pa : p ≠ a := fun z => by rw [eH, z, upd_same] at hp; cases hp
      have pd : p ≠ dx := fun z => by rw [eH, z, upd_ne nad, upd_same] at hp; cases hp
      have hp1 : H1 p = none := by rw [eH, upd_ne pa, upd_ne pd] at hp; exact hp
      obtain ⟨g2, e2⟩ := g.lay (o := .tup (ws.drop ps.length)) hp1
      have eH3 : upd H p (.tup (ws.drop ps.length)) = upd (upd (upd H1 p (.tup (ws.drop ps.length))) dx (.own a)) a (.ins (c.cA cl) dx []) := by
        rw [eH]
        funext b
        by_cases b1 : b = p
        · rw [b1, upd_same, upd_ne pa, upd_ne pd, upd_same]
        · rw [upd_ne b1]
          by_cases b2 : b = a
          · rw [b2, upd_same, upd_same]
          · rw [upd_ne b2, upd_ne b2]
            by_cases b3 : b = dx
            · rw [b3, upd_same, upd_same]
            · rw [upd_ne b3, upd_ne b3, upd_ne b1]
      have rd2 : Dats c K (upd F' p (.tup (ws.drop ps.length))) (ws.take ps.length ++ [V.ref p]) (es.take ps.length ++ [.tup (es.drop ps.length)]) :=
        ((rd.take _).mono e2.up).append (.cons (.tup (.inl (.inl upd_same)) ((rd.drop _).mono e2.up)) .nil)
      refine initBody (self := self) (N := N) (n := ps.length + 1) hl rfl ⟨upd F' p (.tup (ws.drop ps.length)), upd H1 p (.tup (ws.drop ps.length)), _, j, a, dx, ws.take ps.length ++ [V.ref p], rfl, g2, by rw [upd_ne (Ne.symm pa)]; exact ha, by rw [upd_ne (Ne.symm pd)]; exact hdx, nad, eH3, rd2, h.imp (fun j' gs q F3 H3 dx' fs e3 g3 => q F3 H3 dx' fs (e2.trans e3) g3) fun j' e q F3 H3 d e3 g3 y => q F3 H3 d (e2.trans e3) g3 (y.low e2)⟩
end
end DL
/-! DU2: a list of one's own is lent to what is called. -/
namespace DL
open PySem PySem.Spec L2
open PyProof.Rows
mutual
def D.noLst : D → Bool
  | .tup xs => D.noLsts xs
  | .lst _ => false
  | .ins _ fs => D.noLstF fs
  | .exn _ fs => D.noLstF fs
  | .dct kvs => D.noLstK kvs
  | .dtt _ => false
  | .adr _ => false
  | _ => true
def D.noLsts : List D → Bool
  | [] => true
  | d :: ds => d.noLst && D.noLsts ds
def D.noLstF : List (Str × D) → Bool
  | [] => true
  | (_, d) :: ds => d.noLst && D.noLstF ds
def D.noLstK : List (Key × D) → Bool
  | [] => true
  | (_, d) :: ds => d.noLst && D.noLstK ds
end
/-- what comes back holds no list -/
def lendT : T RV → T RV
  | .ok (.val d) => if d.noLst = true then .ok (.val d) else .stuck
  | .ok _ => .stuck
  | .exc e => if D.noLstF e.fs = true then .exc e else .stuck
  | .stuck => .stuck
  | .draw n k => .draw n fun d => lendT (k d)
/-- evaluated with the list in slot i as a value -/
def mLend (i : Nat) (m : Gm → T RV) : Gm → T RV := fun γ => match γ[i]? with
  | some (.own ds) => lendT (m (γ.set i (.val (.lst ds))))
  | _ => m γ
end DL
/-! DU3: isinstance with a tuple of classes. -/
namespace DL
open PySem PySem.Spec L2
open PyProof.Rows
section
variable {X : Cx} {c : Ct} {W : WX} {F H : Hp} {pins : List (Addr × Obj)} {σ : L2.St} {s : Shared} {T : IsT} {j : Nat}
def isiAny (T : IsT) (x : D) : List D → Option Bool
  | [] => some false
  | k :: ks => match isi1 T x k with
    | some true => some true
    | some false => isiAny T x ks
    | none => none
theorem tup_at {a : Addr} {vs : List V} (I : Inv X pins σ H s) (h : SqT X.K H a vs) : ∃ dd its n sl, s.heap.get? a = some ⟨.type "tuple", dd, .seq (its : List Value).toArray n, sl⟩ ∧ Vals vs its := by
  rcases h with (h | ⟨o, h⟩) | ⟨o, its, n, h, h1, h2, h3, h4⟩
  · obtain ⟨_, its, rv, o, h1, h2, n, h3⟩ := (show ObjOk X.prog X.w H s.heap a (.tup vs) from I.hok a _ h)
    obtain ⟨oc, od, dt, sl⟩ := o
    simp only at h2 h3
    subst h2 h3
    exact ⟨_, its, n, _, h1, rv⟩
  · obtain ⟨_, _, its, rv, o, h1, h2, n, h3⟩ := (show ObjOk X.prog X.w H s.heap a (.frz o (.tup vs)) from I.hok a _ h)
    obtain ⟨oc, od, dt, sl⟩ := o
    simp only at h2 h3
    subst h2 h3
    exact ⟨_, its, n, _, h1, rv⟩
  · obtain ⟨oc, od, dt, sl⟩ := o
    simp only at h1 h2
    subst h1 h2
    exact ⟨_, its.toList, n, _, by simpa using I.kIn a _ h, h4⟩
def gIsiT (T : IsT) (x : RV) (y : RV) : DL.T RV := match y.d with
  | .tup (k :: ks) => (match isiAny T x.d (k :: ks) with
    | some b => okV (.bl b)
    | none => .stuck)
  | _ => .stuck
def mIsiT (T : IsT) (m mc : Gm → DL.T RV) : Gm → DL.T RV := fun γ => (m γ).bind fun x => (mc γ).bind fun y => gIsiT T x y
end
end DL
/-! DU4: sum, max, min, sorted of ints. -/
namespace DL
open PySem PySem.Spec L2
open PyProof.Rows PyProof.V
section
variable {X : Cx} {c : Ct} {W : WX} {F H : Hp} {pins : List (Addr × Obj)} {σ : L2.St} {s : Shared} {j : Nat}
def rSumT (K : PySem.W.Frag) : List V → Hp → VK → Prop := fun vs H Q => ∃ (a : Addr) (ns : List Int), vs = [V.ref a] ∧ SqT K H a (ns.map V.int) ∧ Q (.int ns.sum) H
theorem sqT_is {a : Addr} {vs : List V} (I : Inv X pins σ H s) (h : SqT X.K H a vs) : ∃ its : List Value, Vals vs its ∧ s.heap.IsTuple a its.toArray := by
  obtain ⟨dd, its, n, sl, h1, h2⟩ := tup_at I h
  exact ⟨its, h2, _, h1, rfl, n, rfl⟩
theorem cr_sumT (hc : X.calm = true) : CallR X (.builtin "sum") (rSumT X.K) := by
  intro pins s σ H vs us Q I r h
  obtain ⟨a, ns, rfl, hs, q⟩ := h
  obtain ⟨its, rv, hl⟩ := sqT_is I hs
  rw [Vals.ref1 r]
  have hi := rv.ints
  obtain ⟨xs, e⟩ := hi.allInts.items
  have hn : numsOf (intItems xs).toList = ns := by rw [← e]; exact hi.numsOf
  rw [nums_intItems] at hn
  rw [e] at hl
  refine PySem.W.ktm_sumG (I.ok.hd hc) hl fun h' tk t' hk => ?_
  have : preSum (numAt xs) xs.size = ns.sum := by rw [preSum_eq, List.take_of_length_le (by simp), hn]
  rw [this]
  exact ⟨.int _, H, I.kept hk, ⟨_, rfl⟩, q⟩
theorem cr_sumA (hc : X.calm = true) : CallR X (.builtin "sum") (fun vs H Q => rSum X.K vs H Q ∨ rSumT X.K vs H Q) := by
  intro pins s σ H vs us Q I r h
  rcases h with h | h
  · exact cr_sum hc pins s σ H vs us Q I r h
  · exact cr_sumT hc pins s σ H vs us Q I r h
def gSumA (x : RV) : T RV := match x.d with
  | .lst ds => (match D.ints ds with
    | some ns => okV (.int ns.sum)
    | none => .stuck)
  | .tup ds => (match D.ints ds with
    | some ns => okV (.int ns.sum)
    | none => .stuck)
  | _ => .stuck
theorem bi_sumA : Bi X c W (fun vs H Q => rSum X.K vs H Q ∨ rSumT X.K vs H Q) gSumA := by
  intro σ H v Q F j d gd r h
  unfold gSumA at h
  split at h
  · rename_i ds e
    split at h
    · rename_i ns h3
      obtain ⟨a, vs, rfl, h1, h2⟩ := r.lst gd.sub e
      exact .inl ⟨a, ns, rfl, by rw [← h2.ints h3]; exact SqL.of h1, h.val gd (.int _)⟩
    · exact h.elim
  · rename_i ds e
    split at h
    · rename_i ns h3
      obtain ⟨a, vs, rfl, h1, _, h2⟩ := r.tup gd.sub e
      exact .inr ⟨a, ns, rfl, by rw [← h2.ints h3]; exact h1, h.val gd (.int _)⟩
    · exact h.elim
  · exact h.elim
/-! ### max, min of a list -/
def maxI : Int → List Int → Int
  | m, [] => m
  | m, a :: as => maxI (if m < a then a else m) as
def minI : Int → List Int → Int
  | m, [] => m
  | m, a :: as => minI (if a < m then a else m) as
def gMaxL (x : RV) : T RV := match (lstD x.d).bind D.ints with
  | some (n :: ns) => okV (.int (maxI n ns))
  | _ => .stuck
def gMinL (x : RV) : T RV := match (lstD x.d).bind D.ints with
  | some (n :: ns) => okV (.int (minI n ns))
  | _ => .stuck
/-! ### products of wide numbers -/
def gMulA (x y : RV) : T RV := match x, y with
  | .val (.int i), .val (.int j) => if decide (i.natAbs < 2 ^ 3000) && decide (j.natAbs < 2 ^ 3000) then okV (.int (i * j)) else .stuck
  | x, y => gMulS x y
theorem o_mulA : OpD X c W (binaryOp .Mult) gMulA := by
  intro pins s σ H x y v u Q F j dx dy I rx ry gd r1 r2 q
  unfold gMulA at q
  split at q
  · rename_i i k
    split at q
    · rename_i hc
      obtain ⟨h1, h2⟩ := Bool.and_eq_true_iff.mp hc
      have h1 := of_decide_eq_true h1
      have h2 := of_decide_eq_true h2
      cases r1; cases r2
      exact op_mulW pins s σ H _ _ v u Q I rx ry ⟨i, k, rfl, rfl, wide_mul h1 h2 (by decide) (by decide) (by decide), q.val gd (.int _)⟩
    · exact q.elim
  · exact o_mulS pins s σ H x y v u Q F j _ _ I rx ry gd r1 r2 q
end
end DL
/-! DW0: enumerate of a list or a tuple; sep.join, text.split. -/
namespace DL
open PySem PySem.Spec L2
open PyProof.Rows
open AutoSeq1 (wpAny_loadPart')
/-! ### enumerate(tuple) -/
theorem new_enumT (tp : Addr) (vals : Array Value) (k : Nat) (od : Option Addr) (os : Array (Option Value)) :
    Meets (Builtin.«enumerate.__new__» ⟨[.type "enumerate", .ref tp], []⟩) (fun _ R s => s.heap.get? tp = some ⟨.type "tuple", od, .seq vals k, os⟩ ∧
      R (.ok (.ret (.ref (s.heap.push ⟨.type "tuple_iterator", none, .fields #[.ref tp, .int 0 0], #[]⟩).objs.size)))
        { s with heap := (s.heap.push ⟨.type "tuple_iterator", none, .fields #[.ref tp, .int 0 0], #[]⟩).push ⟨.type "enumerate", none, .fields #[.none, .bool false, .ref s.heap.objs.size, rawInt 0, .none, .none], #[]⟩ }) :=
  .of_wp fun prog w A R s hyp => by
    obtain ⟨hq, gq, dq, tq, oq⟩ := s
    obtain ⟨look, fin⟩ := hyp
    have hsb := sub_enumerate
    have tt : Heap.IsTuple (Shared.heap ⟨hq, gq, dq, tq, oq⟩) tp vals := ⟨_, look, rfl, k, rfl⟩
    wp_walk using wpAny_loadPart' look
    refine wpAny_stack_any fun st => wpAny_pure ?_
    split
    · rename_i cc _ _ _ _ _
      cases (cc == Value.type "enumerate") <;> (wp_walk using wpAny_loadPart' look, wpAny_pyIter_tuple tt; exact ⟨_, rfl, fin⟩)
    · wp_walk using wpAny_loadPart' look, wpAny_pyIter_tuple tt
      exact ⟨_, rfl, fin⟩
section
variable {prog : Program} {w : World} {A : Around} {E : Value → Shared → Prop} {s : Shared}
theorem call_enumT {tp : Addr} {vals : Array Value} {Q : Value → Shared → Prop} (hT : s.heap.IsTuple tp vals)
    (fin : ∀ h', IsEnum h' (s.heap.objs.size + 1) s.heap.objs.size 0 .none → h'.IsTupleIter s.heap.objs.size tp 0 → h'.objs.size = s.heap.objs.size + 2 → (∀ b o, s.heap.get? b = some o → h'.get? b = some o) → Q (.ref (s.heap.objs.size + 1)) { s with heap := h' }) :
    wpAny (model prog w) A (call (.type "enumerate") [.ref tp]) Q E s := by
  obtain ⟨⟨cc, od, dt, os⟩, look, hc, k, hd⟩ := hT
  obtain rfl : cc = .type "tuple" := hc
  obtain rfl : dt = .seq vals k := hd
  refine callType_new F.called_enumerate (by decide) (F.typeCall_enumerate_1 _) (F.newCall_enumerate_1 _) (fun ob => F.args_object_init_2 ob _) F.entry_enumerate_new (new_enumT tp vals k od os) ⟨look, ?_⟩
  have sz : (s.heap.push ⟨.type "tuple_iterator", none, .fields #[.ref tp, .int 0 0], #[]⟩).objs.size = s.heap.objs.size + 1 := Heap.size_push ..
  show _ ∧ _
  rw [sz]
  have en : IsEnum ((s.heap.push ⟨.type "tuple_iterator", none, .fields #[.ref tp, .int 0 0], #[]⟩).push ⟨.type "enumerate", none, .fields #[.none, .bool false, .ref s.heap.objs.size, rawInt 0, .none, .none], #[]⟩) (s.heap.objs.size + 1) s.heap.objs.size 0 .none := by
    have z := Heap.get?_push_size (s.heap.push ⟨.type "tuple_iterator", none, .fields #[.ref tp, .int 0 0], #[]⟩) (o := ⟨.type "enumerate", none, .fields #[.none, .bool false, .ref s.heap.objs.size, rawInt 0, .none, .none], #[]⟩) rfl
    rw [sz] at z
    exact z
  refine ⟨⟨_, en, rfl⟩, fin _ en ⟨_, Heap.get?_push_of_some _ (Heap.get?_push_size _ rfl), rfl, rfl⟩ (by rw [Heap.size_push, sz]) fun b o y => Heap.get?_push_of_some _ (Heap.get?_push_of_some _ y)⟩
end
theorem enT_end {prog : Program} {w : World} {A : Around} {E : Value → Shared → Prop} {s : Shared} {e it a : Addr} {i : Nat} {k : Int} {old : Value} {vals : Array Value} {Q : Option Value → Shared → Prop} (hh : A.handled = none) (he : IsEnum s.heap e it k old) (hit : s.heap.IsTupleIter it a i) (p : s.heap.IsTuple a vals) (hx : vals[i]? = none)
    (fin : ∀ h2, Heap.ExtBut it s.heap h2 → Q none { s with heap := h2 }) : wpAny (model prog w) A (pyNext (.ref e)) Q E s := by
  have ty : s.TypeIs (.ref e) "enumerate" := ⟨_, he, rfl⟩
  unfold pyNext
  refine wpAny_bind (wpAny_attempt (wpAny_callSpecial?_slot (name := Str.ofString "__next__") ty F.slot_enumerate_next (wpAny_call_entry F.slot_enumerate_next ty F.entry_enumerate_next ?_ (F.args_enumerate_next_1 _))))
  show wpAny _ _ (field (.ref e) 2 >>= _) _ _ _
  refine wpAny_bind (wpAny_field he rfl (x := .ref it) rfl (wpAny_bind (wpAny_nextOf_tuple_end (A := A.in1) hh hit p hx fun h2 z hz ⟨o, ho, hc⟩ => ?_)))
  exact wpAny_bind (wpAny_isInstance (T := "StopIteration") (b := true) ⟨o, ho, hc⟩ isSubtype_stop (wpAny_pure (fin _ hz)))
/-- the tuple at a, each item in a new pair with its number -/
def ItEnT (K : PySem.W.Frag) (a : Addr) : It :=
  ⟨fun i H => ∃ (us : List V) (u : V), SqT K H a us ∧ us[i]? = some u, fun i H v H' => ∃ pr u, v = .ref pr ∧ H pr = none ∧ H' = upd H pr (.tup [.int (i : Nat), u]) ∧ ∀ us, SqT K H a us → us[i]? = some u, fun i H => ∃ us : List V, SqT K H a us ∧ us.length ≤ i⟩
theorem turn_enT {P : Program} {w : World} {K : PySem.W.Frag} {elts : List Expr} {kk : Nat} {tpos : Pos} (a e it : Addr) :
    Turn P w K (.Tuple elts kk tpos) (ItEnT K a) [e, it] e (fun i h => (∃ old, IsEnum h e it ((i : Nat) : Int) old) ∧ h.IsTupleIter it a i ∧ e ≠ it ∧ a ≠ it ∧ e ≠ a) where
  mem := List.mem_cons_self ..
  obj := fun i h st b hb => by
    obtain ⟨⟨old, he⟩, ⟨o, ho, hc, hd⟩, _⟩ := st
    rcases (show b = e ∨ b = it by simpa using hb) with z | z
    · subst z; exact ⟨_, he, fun v q => nomatch q⟩
    · subst z; exact ⟨o, ho, fun v q => by rw [hd] at q; cases q⟩
  keep := fun i h h' st k => by
    obtain ⟨⟨old, he⟩, hi, n1, n2⟩ := st
    exact ⟨⟨old, k e (List.mem_cons_self ..) _ he⟩, hi.at fun o q => k it (by simp) o q, n1, n2⟩
  item := by
    intro X hP hw hK hc i pins s σ H E I hf st hg
    subst hP hw hK
    obtain ⟨⟨old, he⟩, hit, n1, n2, n3⟩ := st
    obtain ⟨us, u, hq, hu⟩ := hg
    obtain ⟨its, rv, p, hz⟩ := I.tuple hq
    obtain ⟨w0, hw0, rw0⟩ := rv.get hu
    have le : e < s.heap.objs.size := Heap.lt_size he
    have li : it < s.heap.objs.size := by obtain ⟨_, q, _⟩ := hit; exact Heap.lt_size q
    have D := Draws.tuple (prog := X.prog) (w := X.w) (A := X.A.in1) (show X.A.in1.handled = none from I.ok.hd hc) it a n2 its.toArray
    have il : i < its.toArray.size := by
      have := (List.getElem?_eq_some_iff.mp hw0).1
      simpa using this
    refine wpAny_pyNext_enum_itemD D he ⟨hit, p⟩ il n1 (by simp [n1, n3]) fun x h' tk hx ho hst hT hsz hk => ?_
    have ex : x = w0 := by
      have h1 : its[i]? = some x := by simpa using hx
      rw [hw0] at h1
      exact (Option.some.inj h1).symm
    subst ex
    refine ⟨_, rfl, wpAny_letOwnedTupleGo_enum (s := { s with heap := h', toks := tk + 1 }) ho fun h2 he2 sb => ?_⟩
    have hT2 : h2.get? s.heap.objs.size = some ⟨.type "tuple", none, .seq #[.int i tk, x] 0, #[]⟩ := (sb.2 _ (Nat.ne_of_gt le)).trans hT
    have new : ObjOk X.prog X.w (upd H s.heap.objs.size (.tup [.int (i : Nat), u])) h2 s.heap.objs.size (.tup [.int (i : Nat), u]) :=
      ⟨by show 2 ≤ sizeLine; decide, [.int i tk, x], .cons ⟨_, rfl⟩ (.cons rw0 .nil), ⟨_, hT2, rfl, _, rfl⟩⟩
    have I1 : Inv X pins σ (upd H s.heap.objs.size (.tup [.int (i : Nat), u])) { s with heap := h2, toks := tk + 1 } :=
      I.turnedNew (ch := [e, it]) (fun b ob hb q => (sb.2 b (fun z => hb (by simp [z]))).trans (hk b ob (fun z => hb (by simp [z])) (fun z => hb (by simp [z])) q)) hf (Nat.le_refl _) new
    refine ⟨.ref s.heap.objs.size, _, I1, rfl, ⟨_, u, rfl, I.hok.fresh (Nat.le_refl _), rfl, fun ys hy => by rw [I.tuple_inj hy hq]; exact hu⟩, ⟨⟨x, ?_⟩, hst.1.at fun o q => (sb.2 it (Ne.symm n1)).trans q, n1, n2, n3⟩, fun b hb => ?_⟩
    · rw [show ((i + 1 : Nat) : Int) = (i : Int) + 1 by omega]
      exact he2
    · have lb : b < s.heap.objs.size := by
        rcases (show b = e ∨ b = it by simpa using hb) with z | z
        · rw [z]; exact le
        · rw [z]; exact li
      rw [upd_ne (Nat.ne_of_lt lb)]
      exact (hf b hb).1
  done := by
    intro X hP hw hK hc i pins s σ H E I hf st hg
    subst hP hw hK
    obtain ⟨⟨old, he⟩, hit, n1, n2, n3⟩ := st
    obtain ⟨us, hq, hl⟩ := hg
    obtain ⟨its, rv, p, hz⟩ := I.tuple hq
    obtain ⟨f0, f1, f2, f3, f4, f5⟩ := hf it (by simp)
    have ln := rv.length
    exact enT_end (I.ok.hd hc) he hit p (by simp; omega) fun h2 hb => ⟨rfl, I.turned (t' := s.toks) (fun b o nb q => hb b o nb q) f0 f1 f3 f4 f5⟩
  self := fun A i s Q E st h => by obtain ⟨⟨_, he⟩, _⟩ := st; exact wpAny_pyIter_enum he h
/-- enumerate(a list | a tuple) -/
def iEnA (K : PySem.W.Frag) (ta : TA) : TI := fun σ H R => ta σ H fun vs H1 => ∃ a us, vs = [.ref a] ∧ ((SqL K H1 a us ∧ R (Ite K a) H1) ∨ (SqT K H1 a us ∧ R (ItEnT K a) H1))
theorem pi_enA {X : Cx} {e : Expr} {ta : TA} {p pos tpos : Pos} {elts : List Expr} {kk : Nat} (hg : Gl X "enumerate") (hm : X.mg "enumerate" = none) (ha : PA X [e] ta) (hs : starEach [e] X.env = [(false, eval e X.env)] := by rfl) :
    PI X (.Tuple elts kk tpos) (.Call (.Name "enumerate" p) [e] [] pos) (iEnA X.K ta) := by
  refine ⟨fun pins s σ H R I h => Call_ (ld_blt I hg hm boot_enumerate (PyProof.Rows.callWith_type1 (thn (ha.run pos pins s σ H _ I h) fun us s1 ⟨vs, H1, I1, r1, a, xs, ex, q1⟩ => ?_) hs rfl))⟩
  subst ex
  cases r1 with
  | cons r rr =>
    cases rr
    cases r
    have fp2 : ∀ b ∈ [s1.heap.objs.size + 1, s1.heap.objs.size], FpOk X pins H1 b := fun b hb => by
      have hl : s1.heap.objs.size ≤ b := by
        rcases (show b = s1.heap.objs.size + 1 ∨ b = s1.heap.objs.size by simpa using hb) with z | z
        · omega
        · omega
      exact I1.fpOk hl (I1.hok.fresh hl)
    rcases q1 with ⟨hq, q⟩ | ⟨hq, q⟩
    · obtain ⟨its, rv, p', hz⟩ := I1.list hq
      refine call_enumerate_list p'.isList fun h' he hit hsz hk => wpAny_pyIter_enum he ?_
      exact ⟨_, [s1.heap.objs.size + 1, s1.heap.objs.size], _, _, H1, rfl, I1.kept (t' := s1.toks) hk, turn_enum a (s1.heap.objs.size + 1) s1.heap.objs.size, ⟨⟨.none, he⟩, hit, Nat.succ_ne_self _⟩, fp2, q⟩
    · obtain ⟨its, rv, p', hz⟩ := I1.tuple hq
      have la : a < s1.heap.objs.size := by obtain ⟨_, z, _⟩ := p'; exact Heap.lt_size z
      refine call_enumT p' fun h' he hit hsz hk => wpAny_pyIter_enum he ?_
      exact ⟨_, [s1.heap.objs.size + 1, s1.heap.objs.size], _, _, H1, rfl, I1.kept (t' := s1.toks) hk, turn_enT a (s1.heap.objs.size + 1) s1.heap.objs.size, ⟨⟨.none, he⟩, hit, Nat.succ_ne_self _, Nat.ne_of_lt la, Nat.ne_of_gt (Nat.lt_succ_of_lt la)⟩, fp2, q⟩
def enumD (xs : List D) : List D := xs.mapIdx fun i d => .tup [.int i, d]
theorem enumD_len {xs : List D} : (enumD xs).length = xs.length := by unfold enumD; simp
theorem enumD_get {xs : List D} {i : Nat} {d : D} (h : (enumD xs)[i]? = some d) : ∃ x, xs[i]? = some x ∧ d = .tup [.int i, x] := by
  unfold enumD at h
  rw [List.getElem?_mapIdx] at h
  obtain ⟨x, h1, rfl⟩ := Option.map_eq_some_iff.mp h
  exact ⟨x, h1, rfl⟩
def enumK : List D → T (List D)
  | [.lst xs] => .ok (enumD xs)
  | [.tup xs] => .ok (enumD xs)
  | _ => .stuck
def iEnum (m : Gm → T RV) : Gm → T (List D) := fun γ => (aCons m aNil γ).bind enumK
section
variable {X : Cx} {c : Ct} {W : WX} {e : Expr} {m : Gm → T RV} {pos : Pos}
theorem di_enum {elts : List Expr} {kk : Nat} {p tpos : Pos} (hm : X.mg "enumerate" = none) (h1 : DE X c W e m) (hg : Gl X "enumerate" := by rfl) (hs : starEach [e] X.env = [(false, eval e X.env)] := by rfl) :
    DI X c W (.Tuple elts kk tpos) (.Call (.Name "enumerate" p) [e] [] pos) (iEnum m) := by
  refine ⟨(pi_enA hg hm (da_cons h1 da_nil hs).pa hs).imp fun σ H R ⟨F, γ, j, g, en, h⟩ => tA.seq g en h fun j1 ds F1 H1 vs e1 g1 en1 r1 h1 => ?_⟩
  unfold enumK at h1
  split at h1
  · rename_i xs
    cases r1 with
    | cons ra r1 =>
      cases r1
      cases ra with
      | @lst a vs1 _ qa da =>
        refine ⟨a, vs1, rfl, .inl ⟨SqL.of (g1.sub _ _ qa), h1 F1 H1 _ e1 g1 ⟨fun i F' H' up sub hi => ?_, fun F' H' up sub => ?_, fun i F' H' x H2 j up g y => ?_⟩⟩⟩
        · rw [enumD_len] at hi
          have l1 : i < vs1.length := by rw [da.length]; omega
          exact ⟨_, _, SqL.of (sub _ _ (up _ _ qa)), List.getElem?_eq_getElem l1⟩
        · refine ⟨_, SqL.of (sub _ _ (up _ _ qa)), ?_⟩
          rw [enumD_len, da.length]
          omega
        · obtain ⟨pr, u, rfl, hT, rfl, y1⟩ := y
          obtain ⟨g2, e2'⟩ := g.lay (o := .tup [.int i, u]) hT
          refine ⟨_, e2', g2, fun d hd => ?_⟩
          obtain ⟨dx, k1, rfl⟩ := enumD_get hd
          obtain ⟨v1, k3, k4⟩ := da.get k1
          have z1 := y1 _ (SqL.of (g.sub _ _ (up _ _ qa)))
          rw [k3] at z1
          cases z1
          exact .tup (.inl (.inl upd_same)) (.cons (.int _) (.cons ((k4.mono up).mono e2'.up) .nil))
  · rename_i xs
    cases r1 with
    | cons ra r1 =>
      cases r1
      cases ra with
      | @tup a vs1 _ qa da =>
        refine ⟨a, vs1, rfl, .inr ⟨SqT.mono qa g1.sub, h1 F1 H1 _ e1 g1 ⟨fun i F' H' up sub hi => ?_, fun F' H' up sub => ?_, fun i F' H' x H2 j up g y => ?_⟩⟩⟩
        · rw [enumD_len] at hi
          have l1 : i < vs1.length := by rw [da.length]; omega
          exact ⟨_, _, SqT.mono (SqT.mono qa up) sub, List.getElem?_eq_getElem l1⟩
        · refine ⟨_, SqT.mono (SqT.mono qa up) sub, ?_⟩
          rw [enumD_len, da.length]
          omega
        · obtain ⟨pr, u, rfl, hT, rfl, y1⟩ := y
          obtain ⟨g2, e2'⟩ := g.lay (o := .tup [.int i, u]) hT
          refine ⟨_, e2', g2, fun d hd => ?_⟩
          obtain ⟨dx, k1, rfl⟩ := enumD_get hd
          obtain ⟨v1, k3, k4⟩ := da.get k1
          have z1 := y1 _ (SqT.mono (SqT.mono qa up) g.sub)
          rw [k3] at z1
          cases z1
          exact .tup (.inl (.inl upd_same)) (.cons (.int _) (.cons ((k4.mono up).mono e2'.up) .nil))
  · exact h1.elim
end
end DL
/-! DW1: operators of own classes: + - * | & .., in place too; a number times an instance. -/
namespace DL
open PySem PySem.Spec L2 PySem.W PySem.Calls
open PyProof.Rows
open AutoSeq1 (wpAny_loadPart')
end DL
/-! DW2: own operators as mirrors. -/
namespace DL
open PySem PySem.Spec L2
open PyProof.Rows
/-- what stands at the right: the same class, or a plain value -/
def binR (n : Nat) : D → Bool
  | .ins m _ => m == n
  | d => (tyN d).isSome
/-- what stands at the left of a reflected product -/
def binL (d : D) : Bool := (tyN d).isSome
/-- x op y: the classes in tbl have the operator, those in rtb the reflected one (of numbers at the left) -/
def gBinO (tbl rtb : List (Nat × (List D → T D))) (g0 : RV → RV → T RV) (x y : RV) : T RV := match x, y with
  | .val (.ins n gs), .val d => (match tbl.lookup n with
    | some mf => if binR n d = true then (mf [.ins n gs, d]).bind okV else .stuck
    | none => .stuck)
  | .val d, .val (.ins n gs) => (match rtb.lookup n with
    | some mf => if binL d = true then (mf [.ins n gs, d]).bind okV else .stuck
    | none => .stuck)
  | x, y => g0 x y
section
variable {X : Cx} {c : Ct} {W : WX} {k : Nat}
/-! ### x op= e, of instances -/
def augO (i : Nat) (γ : Gm) (tbl : List (Nat × (List D → T D))) (d : D) (y : D) : T Fl := match d with
  | .ins n gs => (match tbl.lookup n with
    | some mf => if binR n y = true then (mf [.ins n gs, y]).bind fun z => .ok (.nx (γ.set i (.val z))) else .stuck
    | none => .stuck)
  | _ => .stuck
def mAugO (i : Nat) (tbl : List (Nat × (List D → T D))) (m : Gm → T RV) (m0 : Gm → T Fl) : Gm → T Fl := fun γ => match γ[i]? with
  | some (.val (.ins n gs)) => (m γ).bind fun x => (asD x).bind fun y => augO i γ tbl (.ins n gs) y
  | _ => m0 γ
end
end DL
/-! DW3: the head's facts of operators and properties; properties read; sep.join, text.split, list(range(..)), list(zip(..)). -/
namespace DL
open PySem PySem.Spec L2
open PyProof.Rows
/-! ### sep.join(texts), text.split(sep) -/
def asStr (x : RV) : T Str := match x with
  | .val (.str a) => .ok a
  | _ => .stuck
def gJoin (a : Str) (y : RV) : T RV := match y.d with
  | .lst ds => (match D.strs ds with
    | some ys => if (ys.map (·.length)).sum + ys.length * a.length ≤ 1000000 then okV (.str (Txt.join a ys)) else .stuck
    | none => .stuck)
  | .tup ds => (match D.strs ds with
    | some ys => if (ys.map (·.length)).sum + ys.length * a.length ≤ 1000000 then okV (.str (Txt.join a ys)) else .stuck
    | none => .stuck)
  | _ => .stuck
def mJoin (mo m : Gm → T RV) : Gm → T RV := fun γ => (mo γ).bind fun x => (asStr x).bind fun a => (m γ).bind fun y => gJoin a y
def gSplit (a : Str) (y : RV) : T RV := match y with
  | .val (.str b) => if (b.length == 0) = false ∧ a.length ≤ 100000 then okV (.lst ((Txt.split a b).map D.str)) else .stuck
  | _ => .stuck
def mSplit (mo m : Gm → T RV) : Gm → T RV := fun γ => (mo γ).bind fun x => (asStr x).bind fun a => (m γ).bind fun y => gSplit a y
section
variable {X : Cx} {c : Ct} {W : WX} {o e : Expr} {mo m : Gm → T RV} {apos pos : Pos}
theorem de_join (ho : DE X c W o mo) (he : DE X c W e m) (hs : starEach [e] X.env = [(false, eval e X.env)] := by rfl) (hbase : attributeBase o "join" X.env (eval o X.env) = eval o X.env := by rfl) (hline : (apos.endLine == pos.line) = true := by rfl) :
    DE X c W (.Call (.Attribute o "join" apos) [e] [] pos) (mJoin mo m) := by
  refine ⟨(pe_join ho.pe he.pe hs hbase hline).imp fun σ H Q ⟨F, γ, j, gd, en, h⟩ => ?_⟩
  refine tE.seq gd en h fun j1 x F1 H1 v e1 g1 en1 r1 h1 => ?_
  unfold asStr at h1
  split at h1
  · rename_i a
    cases r1
    refine ⟨⟨a, rfl⟩, tE.seq g1 en1 (h1.imp (fun _ _ z => z) fun _ _ z => z.ext e1) fun j2 y F2 H2 v2 e2 g2 en2 r2 h2 => ?_⟩
    unfold gJoin at h2
    split at h2
    · rename_i ds ed
      obtain ⟨p, vs, rfl, q1, q2⟩ := r2.lst g2.sub ed
      split at h2
      · rename_i ys hy
        split at h2
        · rename_i hz
          have ev := q2.strs hy
          subst ev
          exact ⟨a, p, ys, rfl, rfl, .inl (SqL.of q1), by omega, h2 F2 H2 _ (e1.trans e2) g2 (show Dat _ _ _ _ _ from .str _)⟩
        · exact h2.elim
      · exact h2.elim
    · rename_i ds ed
      obtain ⟨p, vs, rfl, q1, q0, q2⟩ := r2.tup g2.sub ed
      split at h2
      · rename_i ys hy
        split at h2
        · rename_i hz
          have ev := q2.strs hy
          subst ev
          exact ⟨a, p, ys, rfl, rfl, .inr q1, by omega, h2 F2 H2 _ (e1.trans e2) g2 (show Dat _ _ _ _ _ from .str _)⟩
        · exact h2.elim
      · exact h2.elim
    · exact h2.elim
  · exact h1.elim
end
end DL
/-! DW4: list(range(..)), properties. -/
namespace DL
open PySem PySem.Spec L2
open PyProof.Rows
theorem MethOk.mono {X : Cx} {c : Ct} {j k : Nat} {m : Str} {ks : List Str} {tbl : List (Nat × (List D → T D))} (h : MethOk X c j m ks tbl) (le : j ≤ k) : MethOk X c k m ks tbl := fun p hp => by
  obtain ⟨h1, f, h2, h3⟩ := h p hp
  exact ⟨h1, f, h2, h3.mono le⟩
/-! ### list(range(..)) -/
def rgK (x : RV) : T RV := match x with
  | .val (.int n) => if -1000000 ≤ n ∧ n ≤ 1000000 then okV (.lst (rngD 0 n.toNat)) else .stuck
  | _ => .stuck
def rgK2 (x y : RV) : T RV := match x, y with
  | .val (.int a), .val (.int b) => if -1000000 ≤ a ∧ a ≤ 1000000 ∧ -1000000 ≤ b ∧ b ≤ 1000000 then okV (.lst (rngD a (b - a).toNat)) else .stuck
  | _, _ => .stuck
theorem dats_rg {c : Ct} {K : PySem.W.Frag} {F : Hp} {a b : Int} : Dats c K F (rgV a b) (rngD a (b - a).toNat) := by
  unfold rgV rngD
  generalize List.range (b - a).toNat = l
  induction l with
  | nil => exact .nil
  | cons x l ih => exact .cons (.int _) ih
section
variable {X : Cx} {c : Ct} {W : WX} {e e2 : Expr} {m m2 : Gm → T RV} {p pos p2 pos2 : Pos} {k : Nat}
/-! ### properties -/
def mProp (tbl : List (Nat × (List D → T D))) (m : Gm → T RV) : Gm → T RV := fun γ => (m γ).bind fun x => (asD x).bind fun d => (methM tbl [d]).calm.bind okV
end
def isRecB (g : Addr) : Option (List Value) → Bool
  | some (.ref h :: _) => decide (h = g)
  | _ => false
end DL
/-! DW5: range(a, b) with bounds of any size. -/
namespace DL
open PySem PySem.Spec L2
open PyProof.Rows
section
variable {X : Cx} {c : Ct} {W : WX} {tg : Expr}
def iRngL (ma mb : Gm → T RV) : Gm → T (List D) := fun γ => (ma γ).bind fun x => (mb γ).bind fun y => match x.d, y.d with
  | .int a, .int b => .ok (rngD a (b - a).toNat)
  | _, _ => .stuck
end
end DL
/-! DW6: list(zip(x, y)) of two lists. -/
namespace DL
open PySem PySem.Spec L2
open PyProof.Rows
end DL
/-! DW7: list(zip(x, y)): the data level. -/
namespace DL
open PySem PySem.Spec L2
open PyProof.Rows
end DL
/-! DW8: list(zip(x, y)) as an expression. -/
namespace DL
open PySem PySem.Spec L2
open PyProof.Rows
section
variable {X : Cx} {c : Ct} {W : WX} {e e2 : Expr} {m m2 : Gm → T RV} {p pos p2 pos2 : Pos}
def zipLK : List D → T RV
  | [.lst xs, .lst ys] => if xs.length ≤ 1000000 then okV (.lst (zipD xs ys)) else .stuck
  | _ => .stuck
def mLzip (m1 m2 : Gm → T RV) : Gm → T RV := fun γ => (aCons m1 (aCons m2 aNil) γ).bind zipLK
end
end DL
/-! DR0: class methods, called on the class; cls(..). -/
namespace DL
open PySem PySem.Spec L2
open PyProof.Rows
/-- C.m is a classmethod: its def at g -/
structure CMetD (K : PySem.W.Frag) (C : Addr) (m : Str) (g : Addr) : Prop where
  rd : ClX.CRead K C (.type "type")
  met : ∃ p, ClX.CMet K C (.type "type") m p g
def cmetB (C m : Str) (K : PySem.W.Frag) : Bool := PySem.W.readsIn K (He.ga K C) (.type "type") && (He.eqO (PySem.W.specialIn K (.ref (He.ga K C)) "__getattribute__") (some (some (.builtin "type.__getattribute__"))) && (PySem.W.fnIn K (smA K "classmethod" C m) && (match PySem.W.findCls K (.ref (He.ga K C)) (.type "type") m with
  | some (.get b (.ref p) .none (.ref D)) => decide (b = .builtin "classmethod.__get__") && (decide (D = He.ga K C) && isRecB (smA K "classmethod" C m) (PySem.W.recIn K p "classmethod"))
  | _ => false)))
theorem cmet_okH {K : PySem.W.Frag} {file C m : Str} (e : (Fb.any (cmetB C m)).ok file K = true) : CMetD K (He.ga K C) m (smA K "classmethod" C m) := by
  have e : cmetB C m K = true := e
  unfold cmetB at e
  obtain ⟨h1, e⟩ := He.ba e
  obtain ⟨h2, e⟩ := He.ba e
  obtain ⟨h3, e⟩ := He.ba e
  refine ⟨⟨h1, He.eqO_ok h2⟩, ?_⟩
  split at e
  · rename_i b p D hq
    obtain ⟨k1, k2⟩ := He.ba e
    obtain ⟨k3, k4⟩ := He.ba k2
    have k1 := of_decide_eq_true k1
    have k3 := of_decide_eq_true k3
    rw [k1, k3] at hq
    refine ⟨p, hq, ?_, h3⟩
    unfold isRecB at k4
    split at k4
    · rename_i g rest hr
      have k4 := of_decide_eq_true k4
      rw [k4] at hr
      exact ⟨rest, hr⟩
    · cases k4
  · cases e
section
variable {X : Cx} {c : Ct} {W : WX} {e : Expr} {es : List Expr} {kws : List Keyword} {ks : List Str} {ms : Gm → T (List D)} {args : List Expr} {pos p apos : Pos} {mf : List D → T D} {mi : List D → T (List (Str × D))} {x : Str} {C f g : Addr} {k n i : Nat}
theorem run_cmA {pins : List (Addr × Obj)} {σ : L2.St} {H : Hp} {s : Shared} {q : Addr} {sp : Sp} {Q : VK} {us : List Value} {vs : List V} (F : FnA X.prog X.w X.K X.mg X.base k g [] sp) (hr : Room k X.A) (tk : Takes X W) (I : Inv X ((q, PySem.W.methodObj (.ref g) (.ref C)) :: pins) σ H s)
    (r : Vals vs us) (h : sp (.ref C :: vs) H Q (fun cls d H' => W cls d σ H')) : wpAny (model X.prog X.w) X.A (call (.ref q) us) (EP X pins σ Q) X.xe s := by
  have z : wpAny (model X.prog X.w) X.A (call (.ref q) us) (EP X ((q, PySem.W.methodObj (.ref g) (.ref C)) :: pins) σ Q) X.xe s := by
    refine wpAny_call (PySem.W.method_call (ClX.pin_at I) (codeAny_mono (F X.A X.stack s H (.ref C :: us) [] (.ref C :: vs) Q _ hr I.env0 (by rw [List.append_nil]; exact .cons rfl r) rfl h) fun r s' hq => ?_))
    cases r with
    | error e => exact tk e s' (XE.of_call I (fun _ _ _ z => z) hq)
    | ok fl =>
      cases fl with
      | ret u => exact I.after hq
      | next => exact False.elim hq
      | brk => exact False.elim hq
      | cont => exact False.elim hq
  exact thn z fun _ _ y => ClX.unpinE y
/-- C.m(e, ..), m a classmethod -/
theorem de_cmeth {nm : Str} {pl : Sem Bool} (S : CMetD X.K (c.cA n) nm f) (F : FnA X.prog X.w X.K X.mg X.base k f [] (spD c X.K mf)) (hr : Room k X.A) (tk : Takes X W) (hm : X.mg x = some (.ref (c.cA n))) (ha : DA X c W (e :: es) ms) (hg : Gl X x := by rfl) (hdb : (x == ("__debug__" : Str)) = false := by decide)
    (hst : starEach (e :: es) X.env = (false, eval e X.env) :: starEach es X.env := by rfl) (hpl : (backTo pos (starEach es X.env)).any (·.1) = false := by rfl)
    (ht : eval (.Call (.Attribute (.Name x p) nm apos) (e :: es) [] pos) X.env = (do
      let ov ← eval (.Name x p) X.env
      standAt apos.atName
      let (f, first) ← holding [ov] (getMethod ov nm pl)
      callWith pos f first (backTo pos (starEach (e :: es) X.env)) (backToKw pos (keywordEach [] X.env))) := by rfl) :
    DE X c W (.Call (.Attribute (.Name x p) nm apos) (e :: es) [] pos) (mCall mf (aCons (mC (.cls n)) ms)) := by
  refine ⟨⟨fun pins s σ H Q I ⟨F0, γ, j, gd, en, h⟩ => ?_⟩⟩
  have h : ((ms γ).bind fun ds => (mf (.cls n :: ds)).bind fun d => okV d).All j (pE c X.K F0 H Q) (pX c X.K W F0 H σ) := by
    have e1 : mCall mf (aCons (mC (.cls n)) ms) γ = (ms γ).bind fun ds => (mf (.cls n :: ds)).bind fun d => okV d := by
      show (((ms γ).bind fun ds => T.ok (D.cls n :: ds))).bind _ = _
      rw [T.bind_assoc]
      rfl
    rw [e1] at h
    exact h
  obtain ⟨pr, cm⟩ := S.met
  refine PySem.W.methodCall_KW (pl := pl) (thn ((pe_glob (v := .ref (c.cA n)) hg hm rfl hdb).run pins s σ H (fun v H1 => v = .ref (c.cA n) ∧ H1 = H) I ⟨rfl, rfl⟩) fun u s1 ⟨v, H1, I1, rv, ev, eH⟩ => ?_) ht
  subst ev eH
  obtain rfl : u = Value.ref (c.cA n) := rv
  refine ClX.getmethcm_ok I1 S.rd cm fun s2 I2 => ?_
  refine ClX.callwith_cm I2 (ClX.base_none I1 (Nat.le_refl _)) cm.fi (thn (ha.pa.run pos _ s2 σ H1 (fun vs H2 => ∃ F2 j2 ds, Ext c F0 H1 F2 H2 ∧ Good c F2 H2 j2 ∧ Dats c X.K F2 vs ds ∧ ((mf (.cls n :: ds)).bind fun d => okV d).All j2 (pE c X.K F0 H1 Q) (pX c X.K W F0 H1 σ)) I2
    (tA.seq gd en h fun j2 ds F2 H2 vs e2 g2 en2 r2 h2 => ⟨F2, j2, ds, e2, g2, r2, h2⟩)) fun us s3 ⟨vs, H2, I3, rv, F2, j2, ds, e2, g2, rd, h2⟩ => ⟨⟨ClX.pin_at I3, I3.kIn⟩, ?_⟩) hst hpl
  exact run_cmA F hr tk I3 rv (spD_of e2 g2 (.cons (.cls n) rd) h2)
/-- cls(..), cls the class that stands in slot i -/
def mMakeV (i n : Nat) (mi : List D → T (List (Str × D))) (ms : Gm → T (List D)) : Gm → T RV := fun γ => match γ[i]? with
  | some (.val (.cls m)) => if m = n then mMake n mi ms γ else .stuck
  | _ => .stuck
theorem de_makeV (i : Nat) (M : Mk X.K (c.cA n) f) (F : FnA X.prog X.w X.K X.mg X.base k f ks (spI c X.K n mi)) (hr : Room (k + 1) X.A) (tk : Takes X W) (ha : DC X c W args kws ks ms) (hN : X.N[i]? = some x := by rfl)
    (hv : Vis X.env.scope x := by first | exact Or.inl rfl | exact Or.inr (Or.inl rfl) | exact Or.inr (Or.inr rfl)) (hd : (x == ("__debug__" : Str)) = false := by decide) (hcd : (x == ("__classdict__" : Str)) = false := by decide) :
    DE X c W (.Call (.Name x p) args kws pos) (mMakeV i n mi ms) := by
  refine ⟨⟨fun pins s σ H Q I ⟨F0, γ, j, gd, en, h⟩ => ?_⟩⟩
  unfold mMakeV at h
  split at h
  · rename_i m em
    split at h
    · rename_i emn
      subst emn
      obtain ⟨v, h1, h2⟩ := en.val i _ em
      refine wpAny_Call_Name_kw (thn ((pe_var hN hv hd hcd).run pins s σ H (fun v H1 => v = .ref (c.cA m) ∧ H1 = H) I ⟨v, h1, by cases h2; rfl, rfl⟩) fun u s1 ⟨v, H1, I1, rv, ev, eH⟩ => ?_)
      subst ev eH
      obtain rfl : u = Value.ref (c.cA m) := rv
      refine ha.run pos (.ref (c.cA m)) [] pins s1 σ H1 γ F0 j _ _ _ M.kp I1 gd en h fun j' ds F' H' s1 us ws vs I1 e' g' en' r hl rd h' => ?_
      refine run_mkA M F hr tk I1 r hl fun a dx ha hdx nda => ?_
      refine ⟨F', H', ds, j', a, dx, vs, rfl, g', ha, hdx, nda, rfl, rd, (T.All.bind h').imp (fun j2 gs q F2 H2 dx2 fs e2 g2 hF hH hd => ⟨rfl, ?_⟩) fun j2 x q F2 H2 d e2 g2 qd => q F2 H2 d (e'.trans e2) g2 (qd.low e')⟩
      have np := g'.nePen ha
      have up : ∀ b o, F2 b = some o → upd F2 a (.ins (c.cA m) dx2 fs) b = some o := fun b o h => by rw [upd_ne (fun z => by rw [z, hF] at h; cases h)]; exact h
      have e2' := e'.trans e2
      refine q (upd F2 a (.ins (c.cA m) dx2 fs)) H2 _ ⟨fun b o z => up b o (e2'.up b o z), e2'.keep, e2'.there, fun b z => ?_⟩ ⟨fun b o z => ?_, fun hp => by rw [upd_ne (Ne.symm np.1)]; exact g2.pa hp, g2.pen, g2.tab, nt_upd g2.nt .ins⟩ (show Dat c X.K _ _ _ from .ins upd_same (hd.mono up))
      · by_cases y : b = a
        · right
          rw [y]
          cases w : H1 a with
          | none => rfl
          | some u => exact absurd ha (e'.there a (by rw [w]; simp))
        · rw [upd_ne y] at z; exact e2'.new b z
      · by_cases y : b = a
        · rw [y, upd_same] at z; cases z; rw [y]; exact hH
        · rw [upd_ne y] at z; exact g2.sub b o z
    · exact h.elim
  · exact h.elim
end
end DL
/-! DR1: len, in, [] of instances by their own methods; divmod. -/
namespace DL
open PySem PySem.Spec L2
open PyProof.Rows
section
variable {X : Cx} {c : Ct} {W : WX} {a b e e2 : Expr} {es : List Expr} {m ma mb m2 : Gm → T RV} {pos p : Pos} {k : Nat} {tbl : List (Nat × (List D → T D))} {x : Str}
/-! ### len -/
def lenE : D → T RV
  | .int i => if 0 ≤ i ∧ i < 1000000000000 then okV (.int i) else .stuck
  | _ => .stuck
def ownLen (tbl : List (Nat × (List D → T D))) (n : Nat) (gs : List (Str × D)) : T RV := match tbl.lookup n with
  | some mf => (mf [.ins n gs]).bind lenE
  | none => .stuck
def gLenO (tbl : List (Nat × (List D → T D))) (x : RV) : T RV := match x with
  | .val (.ins n gs) => ownLen tbl n gs
  | x => gLen x
theorem de_lenO (M : MethOk X c k "__len__" [] tbl) (hr : Room (k + 1) X.A) (tk : Takes X W) (hm : X.mg "len" = none) (he : DE X c W e m) (hg : Gl X "len" := by rfl) (hs : starEach [e] X.env = (false, eval e X.env) :: starEach [] X.env := by rfl) (hpl : (backTo pos (starEach [] X.env)).any (·.1) = false := by rfl) : DE X c W (.Call (.Name "len" p) [e] [] pos) (mUn (gLenO tbl) m) := by
  refine ⟨⟨fun pins s σ H Q I ⟨F, γ, j, gd, en, h⟩ => ?_⟩⟩
  refine wpAny_Call_Name_kw (ld_blt I hg hm PyProof.Rows.Boot.«len» ?_)
  refine PyProof.Rows.callWith_builtin1 (thn ((pa_cons he.pe pa_nil hs).run pos pins s σ H (fun vs H1 => ∃ v F1 j1 x, vs = [v] ∧ Ext c F H F1 H1 ∧ Good c F1 H1 j1 ∧ RDat c X.K F1 H1 v x ∧ (gLenO tbl x).All j1 (pE c X.K F H Q) (pX c X.K W F H σ)) I (tE.seq gd en h fun j1 x F1 H1 v e1 g1 en1 r1 h1 => ⟨v, F1, j1, x, rfl, e1, g1, r1, h1⟩)) fun us s1 ⟨vs, H1, I1, rv, v, F1, j1, x, ev, e1, g1, r1, h1⟩ => ?_) hs hpl
  subst ev
  have h1 := h1.imp (fun _ _ z => pE.ext z e1) fun _ _ z => pX.ext z e1
  unfold gLenO at h1
  split at h1
  · rename_i n gs
    obtain ⟨u, rfl, ru⟩ := vals1 rv
    unfold ownLen at h1
    split at h1
    · rename_i mf hl
      cases r1 with
      | @ins a dx _ fs _ q1 q2 =>
        obtain rfl : u = Value.ref a := ru
        obtain ⟨hc, f, hf, FA⟩ := M _ (lookup_mem hl)
        obtain ⟨mA, O, _⟩ := ins_get I1.hok (g1.sub _ _ q1)
        obtain ⟨od, J, _⟩ := O.look
        obtain ⟨mm, FR⟩ := I1.fr
        refine PySem.W.len_K FR I1.mod.kin J hf.at_ hf.fn ?_
        refine wpAny_mono (run_own (vs := [.ref a]) FA hr.in1 rfl tk I1 g1 (.cons rfl .nil) (.cons (.ins q1 q2) .nil) (T.All.bind h1)) (fun w s' hw => ?_) fun _ _ z => z
        obtain ⟨v', H', F', j', d, rv', I', e', g', rd, q⟩ := hw
        cases rd with
        | int i =>
          obtain ⟨t, rfl⟩ := rv'
          unfold lenE at q
          dsimp only at q
          split at q
          · rename_i hi
            refine ⟨⟨hi.1, by omega⟩, ?_⟩
            exact ⟨.int i, H', I'.tok _, ⟨_, rfl⟩, q F' H' (.int i) e' g' (show Dat _ _ _ _ _ from .int i)⟩
          · exact q.elim
        | _ => exact q.elim
    · exact h1.elim
  · exact b_len pins s1 σ H1 [v] us Q I1 rv (bi_len σ H1 v Q F1 j1 x g1 r1 h1)
/-! ### in, not in -/
def inE (neg : Bool) : D → T RV
  | .bl t => okV (.bl (t != neg))
  | _ => .stuck
/-- v in x: the classes in tbl have their own __contains__ -/
def gInC (neg : Bool) (tbl : List (Nat × (List D → T D))) (g0 : RV → RV → T RV) (y x : RV) : T RV := match y, x with
  | .val d, .val (.ins n gs) => (match tbl.lookup n with
    | some mf => (mf [.ins n gs, d]).bind (inE neg)
    | none => .stuck)
  | y, x => g0 y x
/-! ### divmod -/
def gDvm (x y : RV) : T RV := match x, y with
  | .val (.int i), .val (.int j) => if 0 < j ∧ j < 1073741824 then okV (.tup [.int (i / j), .int (i % j)]) else .stuck
  | _, _ => .stuck
end
end DL
/-! DR2: three names stored at once, own lists among them. -/
namespace DL
open PySem PySem.Spec L2
open PyProof.Rows
section
variable {X : Cx} {c : Ct} {W : WX} {K : PySem.W.Frag} {ob : Addr} {F0 H0 F F' H H' Hs : Hp} {σ : L2.St} {γ : Gm} {j : Nat} {pos : Pos} {mm : Gm → T (List MV)}
def mParM3 (i k l : Nat) (mm : Gm → T (List MV)) : Gm → T Fl := fun γ => (mm γ).bind fun ds => match ds with
  | [a, b, d] => .ok (.nx (((γ.set i a.sv).set k b.sv).set l d.sv))
  | _ => .stuck
theorem store3 {F1 H1 : Hp} {i k l j1 : Nat} {vs : List V} {a b d : MV} (s : SOk c K ob F0 H0 σ H γ F j) (e1 : Ext c F H F1 H1) (g1 : Good c F1 H1 j1) (r : RMs c K H F1 H1 vs [a, b, d]) :
    ∃ v w z, vs = [v, w, z] ∧ SOk c K ob F0 H0 (((σ.set i (some v)).set k (some w)).set l (some z)) H1 (((γ.set i a.sv).set k b.sv).set l d.sv) F1 j1 := by
  cases r with
  | cons q1 r d1 =>
    cases r with
    | cons q2 r d2 =>
      cases r with
      | cons q3 r d3 =>
        cases r
        have s1 := s.step e1 g1
        have f1 := RM.fit s q1
        have f2 := RM.fit s q2
        have f3 := RM.fit s q3
        have t1 := s1.setM (i := i) f1
        have f2' := f2.after (i := i) s1.env.len fun h1 h2 => d1 0 _ _ h1 rfl rfl h2
        have f3' := f3.after (i := i) s1.env.len fun h1 h2 => d1 1 _ _ h1 rfl rfl h2
        exact ⟨_, _, _, rfl, (t1.setM f2').setM (f3'.after t1.env.len fun h1 h2 => d2 0 _ _ h1 rfl rfl h2)⟩
theorem ds_parM3 (i j l : Nat) {x y z : Str} {a b cc : Expr} {px py pz pt : Pos} {kt k2 pt2} (hc : X.calm = true) (hN : X.N.Nodup) (ha : DM X c W [a, b, cc] mm) (hi : X.N[i]? = some x := by rfl) (hj : X.N[j]? = some y := by rfl) (hl : X.N[l]? = some z := by rfl) (hij : i ≠ j := by decide) (hil : i ≠ l := by decide) (hjl : j ≠ l := by decide)
    (hx : X.env.scope.names.lookup x = some .local := by rfl) (hy : X.env.scope.names.lookup y = some .local := by rfl) (hz : X.env.scope.names.lookup z = some .local := by rfl)
    (hw : swappedStores [.Tuple [.Name x px, .Name y py, .Name z pz] kt pt] (.Tuple [a, b, cc] k2 pt2) X.env = pure (some [x, y, z]) := by rfl)
    (hs : swapsWithSole [.Tuple [.Name x px, .Name y py, .Name z pz] kt pt] (.Tuple [a, b, cc] k2 pt2) pos.line X.env = pure false := by rfl) : DS X c W (.Assign [.Tuple [.Name x px, .Name y py, .Name z pz] kt pt] (.Tuple [a, b, cc] k2 pt2) pos) (mParM3 i j l mm) := by
  refine ⟨(ps_par3 hc hN hi hj hl hij hil hjl hx hy hz ha.pa hw hs).imp fun D σ H ⟨ob, F0, H0, F, γ, j0, s, h⟩ => ?_⟩
  refine ⟨F, γ, j0, s.gd, s.env, (T.All.bind h).imp (fun j1 ds h1 F1 H1 vs e1 g1 r1 => ?_) fun _ _ z => z.px s.ext⟩
  split at h1
  · obtain ⟨v, w, z, rfl, s2⟩ := store3 (i := i) (k := j) (l := l) s e1 g1 r1
    exact ⟨v, w, z, rfl, h1 _ F1 H1 s2⟩
  · exact h1.elim
end
end DL
set_option maxHeartbeats 1000000
/-! DR3: zip of two sequences of unlike kinds (kinds of iterators as records). -/
namespace DL
open PySem
open PySem.Sem (wp)
end DL
set_option maxHeartbeats 1000000
/-! DR4: zip(t, l) of a tuple and a list, in loops. -/
namespace DL
open PySem PySem.Spec PyProof.Rows L2
/-- zip(t, l): t a tuple, l a list -/
def zipMK : List D → T (List D)
  | [.tup xs, .lst ys] => .ok (zipD xs ys)
  | _ => .stuck
def iZipTL (m1 m2 : Gm → T RV) : Gm → T (List D) := fun γ => (aCons m1 (aCons m2 aNil) γ).bind zipMK
end DL
/-! DR5: calls whose first argument is starred, with others behind it; comprehensions of two clauses. -/
namespace DL
open PySem PySem.Spec L2 PySem.Calls
open PyProof.Rows
end DL
/-! DR6: comprehensions of two clauses. -/
namespace DL
open PySem PySem.Spec L2
open PyProof.Rows
/-- [te for gm in ds if tt for gm1 in mi1 if tt1] -/
def lcD2 (gm : D → Gm → Option Gm) (tt : Gm → T Bool) (mi1 : Gm → T (List D)) (gm1 : D → Gm → Option Gm) (tt1 : Gm → T Bool) (te : Gm → T RV) (vs1 : List Nat) (γ : Gm) : List D → List D → T (List D)
  | [], acc => .ok acc
  | d :: ds, acc => match gm d γ with
    | none => .stuck
    | some γ1 => (tt γ1).bind fun b => if b = true then (mi1 γ1).bind fun es => (lcD gm1 tt1 te (wipeG γ1 vs1) es acc).bind fun acc2 => lcD2 gm tt mi1 gm1 tt1 te vs1 γ ds acc2 else lcD2 gm tt mi1 gm1 tt1 te vs1 γ ds acc
def fLc2 (mi : Gm → T (List D)) (gm : D → Gm → Option Gm) (tt : Gm → T Bool) (mi1 : Gm → T (List D)) (gm1 : D → Gm → Option Gm) (tt1 : Gm → T Bool) (te : Gm → T RV) (vs vs1 : List Nat) : Gm → T (List D) := fun γ => (mi γ).bind fun ds => (lcD2 gm tt mi1 gm1 tt1 te vs1 (wipeG γ vs) ds []).calm
def mLc2 (mi : Gm → T (List D)) (gm : D → Gm → Option Gm) (tt : Gm → T Bool) (mi1 : Gm → T (List D)) (gm1 : D → Gm → Option Gm) (tt1 : Gm → T Bool) (te : Gm → T RV) (vs vs1 : List Nat) : Gm → T RV := fun γ => (fLc2 mi gm tt mi1 gm1 tt1 te vs vs1 γ).bind fun ds => okV (.lst ds)
section
variable {X : Cx} {c : Ct} {W : WX} {K : PySem.W.Frag} {ob : Addr} {F0 H0 F F' H H' : Hp} {σ : L2.St} {γ : Gm} {j : Nat} {pos : Pos} {te : Gm → T RV} {tt tt1 : Gm → T Bool} {mi mi1 : Gm → T (List D)} {gm gm1 : D → Gm → Option Gm}
theorem drop_at {ds : List D} {i : Nat} {d : D} (hlt : i < ds.length) (hd : ds[i]? = some d) : ds.drop i = d :: ds.drop (i + 1) := by
  rw [List.drop_eq_getElem_cons hlt]
  have := List.getElem?_eq_getElem hlt
  rw [hd] at this
  cases this
  rfl
theorem agree_wipe (σ : L2.St) (ts : List Nat) : Agree ts σ (L2.wipe σ ts) := ⟨wipe_length σ ts, fun k hk => by
  have key : ∀ us : List Nat, k ∉ us → (L2.wipe σ us)[k]? = σ[k]? := fun us => by
    induction us with
    | nil => intro _; rfl
    | cons u us ih =>
      intro hk
      simp only [List.mem_cons, not_or] at hk
      unfold L2.wipe
      rw [List.getElem?_set_ne (Ne.symm hk.1)]
      exact ih hk.2
  exact key ts hk⟩
/-- what holds between two steps: the list at A has what was gathered -/
structure LcS (c : Ct) (K : PySem.W.Frag) (F1 H1 : Hp) (A : Addr) (H2 : Hp) (F2 : Hp) (j2 : Nat) (vs : List V) (acc : List D) : Prop where
  g : Good c F2 H2 j2
  e : Ext c F1 H1 F2 H2
  nF : F2 A = none
  at_ : H2 A = some (.lst vs)
  d : Dats c K F2 vs acc
theorem LcS.keep {F1 H1 F2 H2 F3 H3 : Hp} {A : Addr} {j2 j3 : Nat} {vs : List V} {acc : List D} (nA : A ≠ c.pa ∧ A ≠ c.sa) (s : LcS c K F1 H1 A H2 F2 j2 vs acc) (e : Ext c F2 H2 F3 H3) (g : Good c F3 H3 j3) : LcS c K F1 H1 A H3 F3 j3 vs acc := by
  refine ⟨g, s.e.trans e, ?_, e.keep A _ nA.1 .lst s.at_, s.d.mono e.up⟩
  cases z : F3 A with
  | none => rfl
  | some o =>
    rcases e.new A (by rw [z]; simp) with y | y
    · exact absurd s.nF y
    · have := s.at_; rw [y] at this; cases this
theorem LcS.add {F1 H1 F2 H2 : Hp} {A : Addr} {j2 : Nat} {vs : List V} {acc : List D} {v : V} {d : D} (nA : A ≠ c.pa ∧ A ≠ c.sa) (hA : H1 A = none) (s : LcS c K F1 H1 A H2 F2 j2 vs acc) (r : Dat c K F2 v d) : LcS c K F1 H1 A (upd H2 A (.lst (vs ++ [v]))) F2 j2 (vs ++ [v]) (acc ++ [d]) := by
  have hA2 := s.at_
  have hF := s.nF
  refine ⟨?_, ?_, hF, upd_same, s.d.append (.cons r .nil)⟩
  · obtain ⟨q1, q2, gp, gt, gn⟩ := s.g
    refine ⟨fun b o h => ?_, q2, gp.keep fun b vs hb z => by rw [upd_ne (fun y => by rcases hb with h | h <;> rw [h] at y <;> first | exact nA.1 y.symm | exact nA.2 y.symm)]; exact z, tabs_keep gt (fun b o n1 h => by rw [upd_ne (fun z => by rw [z, hA2] at h; cases h; exact n1 (.inl ⟨_, rfl⟩))]; exact h) (fun _ _ h => tbl_upd .lst h), gn⟩
    rw [upd_ne (fun z => by rw [z, hF] at h; cases h)]
    exact q1 b o h
  · refine ⟨s.e.up, fun b o n nt h => ?_, fun b h => ?_, s.e.new⟩
    · rw [upd_ne (fun z => by rw [z, hA] at h; cases h)]
      exact s.e.keep b o n nt h
    · by_cases z : b = A
      · rw [z, upd_same]; simp
      · rw [upd_ne z]; exact s.e.there b h
/-- an extension that may change the list at A -/
structure ExA (c : Ct) (A : Addr) (F H F' H' : Hp) : Prop where
  up : ∀ a o, F a = some o → F' a = some o
  keep : ∀ a o, a ≠ A → a ≠ c.pa → NT o → H a = some o → H' a = some o
  new : ∀ a, a ≠ A → F' a ≠ none → F a ≠ none ∨ H a = none
  there : ∀ a, H a ≠ none → H' a ≠ none
theorem ExA.refl {A : Addr} : ExA c A F H F H := ⟨fun _ _ h => h, fun _ _ _ _ _ h => h, fun _ _ h => .inl h, fun _ h => h⟩
theorem ExA.trans {A : Addr} {F2 H2 : Hp} (a : ExA c A F H F' H') (b : Ext c F' H' F2 H2) : ExA c A F H F2 H2 := by
  refine ⟨fun x o h => b.up x o (a.up x o h), fun x o q n t h => b.keep x o n t (a.keep x o q n t h), fun x q h => ?_, fun x h => b.there x (a.there x h)⟩
  rcases b.new x h with h1 | h1
  · exact a.new x q h1
  · right
    cases y : H x with
    | none => rfl
    | some o => exact absurd h1 (a.there x (by rw [y]; simp))
theorem EnvOk.exA {A : Addr} (h : EnvOk c K F H σ γ) (e : ExA c A F H F' H') (no : ∀ a, OwnAt σ γ a → a ≠ A) : EnvOk c K F' H' σ γ := by
  have nf : ∀ a o, a ≠ A → F a = none → H a = some o → F' a = none := fun a o q h4 h5 => by
    cases z : F' a with
    | none => rfl
    | some o =>
      rcases e.new a q (by rw [z]; simp) with y | y
      · exact absurd h4 y
      · rw [y] at h5; cases h5
  refine ⟨h.len, fun i d q => ?_, fun i ds q => ?_, fun i n gs q => ?_, fun i z q => ?_, h.ne⟩
  · obtain ⟨v, h1, h2⟩ := h.val i d q
    exact ⟨v, h1, h2.mono e.up⟩
  · obtain ⟨a, vs, h1, h2, h3, h4, h5, h6⟩ := h.own i ds q
    have nA := no a ⟨i, _, q, rfl, h1⟩
    exact ⟨a, vs, h1, h2, h3, nf a _ nA h4 h5, e.keep a _ nA h2 .lst h5, h6.mono e.up⟩
  · obtain ⟨a, dx, fs, h1, h2, h3, h4, h5, h6⟩ := h.obj i n gs q
    have nA := no a ⟨i, _, q, rfl, h1⟩
    exact ⟨a, dx, fs, h1, h2, h3, nf a _ nA h4 h5, e.keep a _ nA h2 .ins h5, h6.mono e.up⟩
  · obtain ⟨a, u, h1, h2, h3, h4, h5, h6⟩ := h.dic i z q
    have nA := no a ⟨i, _, q, rfl, h1⟩
    exact ⟨a, u, h1, h2, h3, nf a _ nA h4 h5, e.keep a _ nA h2 h6.nt h5, h6.mono e.up⟩
theorem own_wipe {a : Addr} : ∀ {us : List Nat}, OwnAt (L2.wipe σ us) (wipeG γ us) a → OwnAt σ γ a
  | [], h => h
  | u :: us, ⟨i, o, q, ho, z⟩ => by
    unfold wipeG at q
    unfold L2.wipe at z
    rcases get_set q with ⟨rfl, e, _⟩ | ⟨n, q⟩
    · subst e; cases ho
    · rw [List.getElem?_set_ne (Ne.symm n)] at z
      exact own_wipe (us := us) ⟨i, o, q, ho, z⟩
theorem own_there {a : Addr} (en : EnvOk c K F H σ γ) (h : OwnAt σ γ a) : H a ≠ none := by
  obtain ⟨i, o, q, ho, z⟩ := h
  cases o with
  | own ds =>
    obtain ⟨b, vs, h1, _, _, _, h5, _⟩ := en.own i ds q
    rw [z] at h1
    cases h1
    rw [h5]; simp
  | obj n gs =>
    obtain ⟨b, dx, fs, h1, _, _, _, h5, _⟩ := en.obj i n gs q
    rw [z] at h1
    cases h1
    rw [h5]; simp
  | dic dz =>
    obtain ⟨b, u, h1, _, _, _, h5, _⟩ := en.dic i dz q
    rw [z] at h1
    cases h1
    rw [h5]; simp
  | _ => cases ho
theorem lc2_run {ts ts1 : List Nat} {Q : VK} {K : PySem.W.Frag} (g : Good c F H j) (en : EnvOk c K F H σ γ)
    (h : (fLc2 mi gm tt mi1 gm1 tt1 te ts ts1 γ).All j (fun j' ds => ∀ F' H' a vs, Ext c F H F' H' → Good c F' H' j' → H a = none → F' a = none → H' a = some (.lst vs) → Dats c K F' vs ds → Q (.ref a) H') (pX c K W F H σ)) :
    tLc2 (tI c K W mi) (tG c K ts gm) (tT c K W0 tt) (tI c K W0 mi1) (tG c K ts1 gm1) (tT c K W0 tt1) (tE c K W0 te) ts ts1 σ H Q := by
  refine ⟨F, γ, j, g, en, (T.All.bind h).imp (fun j1 ds h1 F1 H1 J e1 g1 it A hA => ?_) fun _ _ z => z⟩
  have h1 := T.All.uncalm (E' := fun _ _ => False) h1
  have en1 := (en.ext e1).wipe ts
  have nA := g1.nePen hA
  have hA0 : H A = none := by
    cases y : H A with
    | none => rfl
    | some u => exact absurd hA (e1.there A (by rw [y]; simp))
  refine ⟨fun i n H2 => n = ds.length - i ∧ i ≤ ds.length ∧ ∃ F2 j2 vs acc, LcS c K F1 H1 A H2 F2 j2 vs acc ∧ (lcD2 gm tt mi1 gm1 tt1 te ts1 (wipeG γ ts) (ds.drop i) acc).All j2 (fun j' ds => ∀ F' H' a vs, Ext c F H F' H' → Good c F' H' j' → H a = none → F' a = none → H' a = some (.lst vs) → Dats c K F' vs ds → Q (.ref a) H') (fun _ _ => False), ?_, ?_⟩
  · obtain ⟨g2, e2⟩ := g1.layOut (o := .lst []) hA
    exact ⟨ds.length, by simp, Nat.zero_le _, F1, j1, [], [], ⟨g2, e2, g1.fresh (o := .lst []) hA, upd_same, .nil⟩, by simpa using h1⟩
  rintro i n H2 ⟨rfl, hle, F2, j2, vs, acc, s2, h2⟩
  by_cases hlt : i < ds.length
  · obtain ⟨d, hd⟩ : ∃ d, ds[i]? = some d := ⟨_, List.getElem?_eq_getElem hlt⟩
    rw [drop_at hlt hd] at h2
    unfold lcD2 at h2
    split at h2
    · exact h2.elim
    · rename_i γ3 eg
      refine .inr ⟨it.go i F2 H2 s2.e.up s2.g.sub hlt, fun H2 => ∃ F2 j2 vs acc, LcS c K F1 H1 A H2 F2 j2 vs acc ∧ (lcD2 gm tt mi1 gm1 tt1 te ts1 (wipeG γ ts) (ds.drop (i + 1)) acc).All j2 (fun j' ds => ∀ F' H' a vs, Ext c F H F' H' → Good c F' H' j' → H a = none → F' a = none → H' a = some (.lst vs) → Dats c K F' vs ds → Q (.ref a) H') (fun _ _ => False),
        fun H' q => ⟨ds.length - (i + 1), by omega, rfl, hlt, q⟩, fun x H3 y => ?_⟩
      obtain ⟨F3, e3, g3, hx⟩ := it.yld i F2 H2 x H3 j2 s2.e.up s2.g y
      have s3 := s2.keep nA e3 g3
      refine ⟨F3, wipeG γ ts, d, γ3, en1.ext s3.e, g3.sub, hx d hd, eg, fun σ4 en4 ow4 _ ag4 => ⟨(wipe_agree ag4).trans (wipe_agree (agree_wipe σ ts)), ?_⟩⟩
      refine ⟨F3, γ3, j2, g3, en4, (T.All.bind h2).imp (fun j5 b hb F5 H5 e5 g5 => ?_) fun _ _ z => z.elim⟩
      have s5 := s3.keep nA e5 g5
      cases b with
      | false => exact iteF ⟨F5, j5, vs, acc, s5, hb⟩
      | true =>
        refine iteT ⟨F5, γ3, j5, g5, en4.ext e5, (T.All.bind hb).imp (fun j6 es hz F6 H6 J1 e6 g6 it1 => ?_) fun _ _ z => z.elim⟩
        have s6 := s5.keep nA e6 g6
        have en6 := ((en4.ext e5).ext e6).wipe ts1
        have no6 : ∀ a, OwnAt (L2.wipe σ4 ts1) (wipeG γ3 ts1) a → a ≠ A := fun a oa e => own_there en1 (ow4 a (own_wipe oa)) (e ▸ hA)
        have hz := T.All.bind hz
        refine ⟨fun jj k H7 => k = es.length - jj ∧ jj ≤ es.length ∧ ∃ F7 j7 vs acc, LcS c K F1 H1 A H7 F7 j7 vs acc ∧ ExA c A F6 H6 F7 H7 ∧ (lcD gm1 tt1 te (wipeG γ3 ts1) (es.drop jj) acc).All j7 (fun j' acc2 => (lcD2 gm tt mi1 gm1 tt1 te ts1 (wipeG γ ts) (ds.drop (i + 1)) acc2).All j' (fun j' ds => ∀ F' H' a vs, Ext c F H F' H' → Good c F' H' j' → H a = none → F' a = none → H' a = some (.lst vs) → Dats c K F' vs ds → Q (.ref a) H') (fun _ _ => False)) (fun _ _ => False), ?_, ?_⟩
        · exact ⟨es.length, by simp, Nat.zero_le _, F6, j6, vs, acc, s6, .refl, by simpa using hz⟩
        rintro jj k H7 ⟨rfl, hle7, F7, j7, vs7, acc7, s7, ex7, h7⟩
        by_cases hlt7 : jj < es.length
        · obtain ⟨d7, hd7⟩ : ∃ d, es[jj]? = some d := ⟨_, List.getElem?_eq_getElem hlt7⟩
          rw [drop_at hlt7 hd7] at h7
          unfold lcD at h7
          split at h7
          · exact h7.elim
          · rename_i γ8 eg8
            refine .inr ⟨it1.go jj F7 H7 ex7.up s7.g.sub hlt7, fun H7 => ∃ F7 j7 vs acc, LcS c K F1 H1 A H7 F7 j7 vs acc ∧ ExA c A F6 H6 F7 H7 ∧ (lcD gm1 tt1 te (wipeG γ3 ts1) (es.drop (jj + 1)) acc).All j7 (fun j' acc2 => (lcD2 gm tt mi1 gm1 tt1 te ts1 (wipeG γ ts) (ds.drop (i + 1)) acc2).All j' (fun j' ds => ∀ F' H' a vs, Ext c F H F' H' → Good c F' H' j' → H a = none → F' a = none → H' a = some (.lst vs) → Dats c K F' vs ds → Q (.ref a) H') (fun _ _ => False)) (fun _ _ => False),
              fun H' q => ⟨es.length - (jj + 1), by omega, rfl, hlt7, q⟩, fun x8 H8 y8 => ?_⟩
            obtain ⟨F8, e8, g8, hx8⟩ := it1.yld jj F7 H7 x8 H8 j7 ex7.up s7.g y8
            have s8 := s7.keep nA e8 g8
            have ex8 := ex7.trans e8
            refine ⟨F8, wipeG γ3 ts1, d7, γ8, en6.exA ex8 no6, g8.sub, hx8 d7 hd7, eg8, fun σ9 en9 ow9 _ ag9 => ⟨(wipe_agree ag9).trans (wipe_agree (agree_wipe σ4 ts1)), ?_⟩⟩
            refine ⟨F8, γ8, j7, g8, en9, (T.All.bind h7).imp (fun j10 b hb F10 H10 e10 g10 => ?_) fun _ _ z => z.elim⟩
            have s10 := s8.keep nA e10 g10
            cases b with
            | false => exact iteF ⟨F10, j10, vs7, acc7, s10, ex8.trans e10, hb⟩
            | true =>
              refine iteT ⟨F10, γ8, j10, g10, en9.ext e10, (T.All.bind hb).imp (fun j11 z hz F11 H11 v11 e11 g11 r11 => ?_) fun _ _ z => z.elim⟩
              have s11 := s10.keep nA e11 g11
              cases z with
              | brw _ => exact hz.elim
              | bob _ _ => exact hz.elim
              | bdc _ => exact hz.elim
              | val y11 =>
                have hz : (if acc7.length < 1000000 then lcD gm1 tt1 te (wipeG γ3 ts1) (es.drop (jj + 1)) (acc7 ++ [y11]) else .stuck).All j11 _ (fun _ _ => False) := hz
                split at hz
                · rename_i hl
                  have s12 := s11.add nA hA r11
                  have ex11 := (ex8.trans e10).trans e11
                  refine ⟨vs7, s11.at_, line_lt (by rw [s11.d.length]; exact hl), F11, j11, vs7 ++ [v11], acc7 ++ [y11], s12, ⟨ex11.up, fun b o q n nt h => by rw [upd_ne q]; exact ex11.keep b o q n nt h, ex11.new, fun b h => ?_⟩, hz⟩
                  by_cases q : b = A
                  · rw [q, upd_same]; simp
                  · rw [upd_ne q]; exact ex11.there b h
                · exact hz.elim
        · have e : jj = es.length := by omega
          subst e
          rw [List.drop_length] at h7
          exact .inl ⟨it1.stop F7 H7 ex7.up s7.g.sub, F7, j7, vs7, acc7, s7, h7⟩
  · have e : i = ds.length := by omega
    subst e
    rw [List.drop_length] at h2
    exact .inl ⟨it.stop F2 H2 s2.e.up s2.g.sub, h2 F2 H2 A vs (e1.trans s2.e) s2.g hA0 s2.nF s2.at_ s2.d⟩
end
end DL
/-! DR7: comprehensions of two clauses, as values and stored. -/
namespace DL
open PySem PySem.Spec L2
open PyProof.Rows
section
variable {X : Cx} {c : Ct} {W : WX} {σ : L2.St} {γ : Gm} {j : Nat} {pos : Pos} {te : Gm → T RV} {tt tt1 : Gm → T Bool} {mi mi1 : Gm → T (List D)} {gm gm1 : D → Gm → Option Gm}
theorem dg_sub {tg : Expr} {ts ts' : List Nat} (h : DG X c tg ts gm) (hs : ∀ i ∈ ts, i ∈ ts') : DG X c tg ts' gm :=
  ⟨h.pg.imp fun v σ H Q ⟨F, γ, d, γ', en, g, r, e, k⟩ => ⟨F, γ, d, γ', en, g, r, e, fun σ' en' o1 o2 ag => k σ' en' o1 o2 ⟨ag.1, fun i hi => ag.2 i fun z => hi (hs i z)⟩⟩⟩
theorem de_lc2 {elt tg iter tg1 iter1 : Expr} {ifs ifs1 : List Expr} {scope : Scope} {own : List (Str × Nat)} {vs1 : List Nat} (hc : X.calm = true) (hN : X.N.Nodup) (hi : DI X c W tg iter mi) (ok : blkC X.N X.env.scope scope own = true) (hv : ∀ i ∈ vs1, i ∈ own.map (·.2))
    (hg : ∀ (s : Shared) (H : Hp) (C : Addr) (cl : List (Str × Addr)) (fp : List Addr), DG (X.blk s H scope (compEnvC scope cl C X.env) fp) c tg (own.map (·.2)) gm) (ht : ∀ (s : Shared) (H : Hp) (C : Addr) (cl : List (Str × Addr)) (fp : List Addr), DTs (X.blk s H scope (compEnvC scope cl C X.env) fp) c W0 ifs tt)
    (hi1 : ∀ (s : Shared) (H : Hp) (C : Addr) (cl : List (Str × Addr)) (fp : List Addr), DI (X.blk s H scope (compEnvC scope cl C X.env) fp) c W0 tg1 iter1 mi1)
    (hg1 : ∀ (s : Shared) (H : Hp) (C : Addr) (cl : List (Str × Addr)) (fp : List Addr), DG (X.blk s H scope (compEnvC scope cl C X.env) fp) c tg1 vs1 gm1) (ht1 : ∀ (s : Shared) (H : Hp) (C : Addr) (cl : List (Str × Addr)) (fp : List Addr), DTs (X.blk s H scope (compEnvC scope cl C X.env) fp) c W0 ifs1 tt1)
    (he : ∀ (s : Shared) (H : Hp) (C : Addr) (cl : List (Str × Addr)) (fp : List Addr), DE (X.blk s H scope (compEnvC scope cl C X.env) fp) c W0 elt te) (hs : ∀ x, foldedSetIterable iter X.env x = pure x := by intro _; rfl) (hs1 : ∀ env x, foldedSetIterable iter1 env x = pure x := by intro _ _; rfl) :
    DE X c W (.ListComp elt [⟨tg, iter, ifs, 0⟩, ⟨tg1, iter1, ifs1, 0⟩] scope pos) (mLc2 mi gm tt mi1 gm1 tt1 te (own.map (·.2)) vs1) := by
  refine ⟨(pe_lc2 (wi := tI c X.K W mi) (g := tG c X.K (own.map (·.2)) gm) (tt := tT c X.K W0 tt) (wi1 := tI c X.K W0 mi1) (g1 := tG c X.K vs1 gm1) (tt1 := tT c X.K W0 tt1) (te := tE c X.K W0 te) hc hN hi.pi (blkOk_by ok) hv (fun s H C cl fp => (hg s H C cl fp).pg) (fun s H C cl fp => (ht s H C cl fp).pt) (fun s H C cl fp => (hi1 s H C cl fp).pi) (fun s H C cl fp => (hg1 s H C cl fp).pg) (fun s H C cl fp => (ht1 s H C cl fp).pt) (fun s H C cl fp => (he s H C cl fp).pe) hs hs1).imp fun σ H Q ⟨F, γ, j, g, en, h⟩ => ?_⟩
  exact lc2_run g en ((T.All.bind h).imp (fun j' ds q => pF_of g q) fun _ _ z => z)
end
end DL
/-! DR8: a tuple and an empty one. -/
namespace DL
open PySem PySem.Spec L2
open PyProof.Rows
end DL
/-! DR9: a tuple in a list or a tuple of data. -/
namespace DL
open PySem PySem.Spec L2
open PyProof.Rows
end DL
/-! DR10: sorted of a list of ints. -/
namespace DL
open PySem PySem.Spec L2
open PyProof.Rows
def insI (a : Int) : List Int → List Int
  | [] => [a]
  | b :: bs => if a ≤ b then a :: b :: bs else b :: insI a bs
def isort : List Int → List Int
  | [] => []
  | a :: as => insI a (isort as)
theorem insI_perm (a : Int) : ∀ bs : List Int, (insI a bs).Perm (a :: bs)
  | [] => .refl _
  | b :: bs => by
    unfold insI
    split
    · exact .refl _
    · exact ((insI_perm a bs).cons b).trans (.swap a b bs)
theorem isort_perm : ∀ as : List Int, (isort as).Perm as
  | [] => .refl _
  | a :: as => (insI_perm a (isort as)).trans ((isort_perm as).cons a)
theorem insI_sorted (a : Int) : ∀ {bs : List Int}, bs.Pairwise (· ≤ ·) → (insI a bs).Pairwise (· ≤ ·)
  | [], _ => by simp [insI]
  | b :: bs, h => by
    obtain ⟨h1, h2⟩ := List.pairwise_cons.mp h
    unfold insI
    split
    · rename_i hab
      refine List.pairwise_cons.mpr ⟨fun x hx => ?_, h⟩
      rcases List.mem_cons.mp hx with rfl | hx
      · exact hab
      · exact Int.le_trans hab (h1 x hx)
    · rename_i hab
      refine List.pairwise_cons.mpr ⟨fun x hx => ?_, insI_sorted a h2⟩
      rcases List.mem_cons.mp ((insI_perm a bs).mem_iff.mp hx) with rfl | hx
      · omega
      · exact h1 x hx
theorem isort_sorted : ∀ as : List Int, (isort as).Pairwise (· ≤ ·)
  | [] => .nil
  | a :: as => insI_sorted a (isort_sorted as)
theorem sorted_one : ∀ {as bs : List Int}, as.Pairwise (· ≤ ·) → bs.Pairwise (· ≤ ·) → as.Perm bs → as = bs
  | [], bs, _, _, p => (List.Perm.nil_eq p)
  | a :: as, [], _, _, p => absurd p.length_eq (by simp)
  | a :: as, b :: bs, h1, h2, p => by
    obtain ⟨x1, y1⟩ := List.pairwise_cons.mp h1
    obtain ⟨x2, y2⟩ := List.pairwise_cons.mp h2
    have ha : a ∈ b :: bs := p.mem_iff.mp (.head _)
    have hb : b ∈ a :: as := p.mem_iff.mpr (.head _)
    have e : a = b := by
      rcases List.mem_cons.mp ha with e | ha
      · exact e
      · rcases List.mem_cons.mp hb with e | hb
        · exact e.symm
        · exact Int.le_antisymm (x1 b hb) (x2 a ha)
    subst e
    rw [sorted_one y1 y2 (List.Perm.cons_inv p)]
section
variable {X : Cx} {c : Ct} {W : WX}
theorem dats_intsM {K : PySem.W.Frag} {F : Hp} : ∀ ns : List Int, Dats c K F (ns.map V.int) (ns.map D.int)
  | [] => .nil
  | n :: ns => .cons (.int n) (dats_intsM ns)
end
end DL
/-! DR11: int of a text. -/
namespace DL
open PySem PySem.Spec L2
open PyProof.Rows
end DL
/-! DR12: class methods by keywords; xs[::-1]; xs.index(y). -/
namespace DL
open PySem PySem.Spec L2
open PyProof.Rows
section
variable {X : Cx} {c : Ct} {W : WX} {e : Expr} {es : List Expr} {kws : List Keyword} {ks : List Str} {ms mk : Gm → T (List D)} {pos p p2 apos : Pos} {mf : List D → T D} {x : Str} {C f g : Addr} {k n i : Nat}
theorem run_cmK {pins : List (Addr × Obj)} {σ : L2.St} {H : Hp} {s : Shared} {q : Addr} {sp : Sp} {Q : VK} {ws : List Value} {vs : List V} (F : FnA X.prog X.w X.K X.mg X.base k g ks sp) (hr : Room k X.A) (tk : Takes X W) (I : Inv X ((q, PySem.W.methodObj (.ref g) (.ref C)) :: pins) σ H s)
    (r : Vals vs ws) (hl : ws.length = ks.length) (h : sp (.ref C :: vs) H Q (fun cls d H' => W cls d σ H')) : wpAny (model X.prog X.w) X.A (call (.ref q) [] (ks.zip ws)) (EP X pins σ Q) X.xe s := by
  have z : wpAny (model X.prog X.w) X.A (call (.ref q) [] (ks.zip ws)) (EP X ((q, PySem.W.methodObj (.ref g) (.ref C)) :: pins) σ Q) X.xe s := by
    refine wpAny_call (PySem.W.method_call (ClX.pin_at I) (codeAny_mono (F X.A X.stack s H [.ref C] ws (.ref C :: vs) Q _ hr I.env0 (.cons rfl r) hl h) fun r s' hq => ?_))
    cases r with
    | error e => exact tk e s' (XE.of_call I (fun _ _ _ z => z) hq)
    | ok fl =>
      cases fl with
      | ret u => exact I.after hq
      | next => exact False.elim hq
      | brk => exact False.elim hq
      | cont => exact False.elim hq
  exact thn z fun _ _ y => ClX.unpinE y
/-- C.m(k=e, ..), m a classmethod -/
theorem de_cmethK {nm : Str} {pl : Sem Bool} (S : CMetD X.K (c.cA n) nm f) (F : FnA X.prog X.w X.K X.mg X.base k f ks (spD c X.K mf)) (hr : Room k X.A) (tk : Takes X W) (hm : X.mg x = some (.ref (c.cA n))) (hkw : DK X c W kws mk) (hg : Gl X x := by rfl) (hdb : (x == ("__debug__" : Str)) = false := by decide)
    (hks : (backToKw pos (keywordEach kws X.env)).filterMap (·.1) = ks := by rfl) (hall : (backToKw pos (keywordEach kws X.env)).all (·.1.isSome) = true := by rfl)
    (hpl : ((backTo pos (starEach [] X.env)).any (·.1) || (backToKw pos (keywordEach kws X.env)).any (·.1.isNone)) = false := by rfl)
    (ht : eval (.Call (.Attribute (.Name x p) nm apos) [] kws pos) X.env = (do
      let ov ← eval (.Name x p) X.env
      standAt apos.atName
      let (f, first) ← holding [ov] (getMethod ov nm pl)
      callWith pos f first (backTo pos (starEach [] X.env)) (backToKw pos (keywordEach kws X.env))) := by rfl) :
    DE X c W (.Call (.Attribute (.Name x p) nm apos) [] kws pos) (mCall mf (aCons (mC (.cls n)) (aKw ks.length mk))) := by
  refine ⟨⟨fun pins s σ H Q I ⟨F0, γ, j, gd, en, h⟩ => ?_⟩⟩
  have h : ((mk γ).bind fun ds => if ds.length = ks.length then (mf (.cls n :: ds)).bind fun d => okV d else .stuck).All j (pE c X.K F0 H Q) (pX c X.K W F0 H σ) := by
    have e1 : mCall mf (aCons (mC (.cls n)) (aKw ks.length mk)) γ = (mk γ).bind fun ds => if ds.length = ks.length then (mf (.cls n :: ds)).bind fun d => okV d else .stuck := by
      show ((((mk γ).bind fun es => if es.length = ks.length then .ok es else .stuck).bind fun ds => T.ok (D.cls n :: ds))).bind _ = _
      rw [T.bind_assoc, T.bind_assoc]
      congr 1
      funext ds
      split <;> rfl
    rw [e1] at h
    exact h
  obtain ⟨pr, cm⟩ := S.met
  refine PySem.W.methodCall_KW (pl := pl) (thn ((pe_glob (v := .ref (c.cA n)) hg hm rfl hdb).run pins s σ H (fun v H1 => v = .ref (c.cA n) ∧ H1 = H) I ⟨rfl, rfl⟩) fun u s1 ⟨v, H1, I1, rv, ev, eH⟩ => ?_) ht
  subst ev eH
  obtain rfl : u = Value.ref (c.cA n) := rv
  refine ClX.getmethcm_ok I1 S.rd cm fun s2 I2 => ?_
  refine PySem.W.callWith_of (P := PySem.W.MethP X.K _ f (.ref (c.cA n))) hpl (PySem.W.keeps_M cm.fi) (evalArgs_kw2_nil hall (thn (hkw.pk.run pos _ s2 σ H1 (fun vs H2 => ∃ F2 j2 ds, Ext c F0 H1 F2 H2 ∧ Good c F2 H2 j2 ∧ Dats c X.K F2 vs ds ∧ ds.length = ks.length ∧ ((mf (.cls n :: ds)).bind fun d => okV d).All j2 (pE c X.K F0 H1 Q) (pX c X.K W F0 H1 σ)) I2
    (tA.seq gd en h fun j2 ds F2 H2 vs e2 g2 en2 r2 h2 => ?_)) fun us s3 ⟨vs, H2, I3, rv, F2, j2, ds, e2, g2, rd, hl, h2⟩ => ⟨⟨ClX.pin_at I3, I3.kIn⟩, ?_⟩))
  · split at h2
    · rename_i hl
      exact ⟨F2, j2, ds, e2, g2, r2, hl, h2⟩
    · exact h2.elim
  · rw [hks]
    exact run_cmK F hr tk I3 rv (by rw [← rv.length, rd.length]; exact hl) (spD_of e2 g2 (.cons (.cls n) rd) h2)
end
/-! ### xs[::-1] -/
end DL
/-! DQ2: mirrors worked out by simp, at values that are letters. -/
namespace DL
open PySem PySem.Spec L2
theorem ok_bind {α β : Type} (a : α) (f : α → T β) : (T.ok a).bind f = f a := (rfl)
theorem exc_bind {α β : Type} (e : Xc) (f : α → T β) : (T.exc e : T α).bind f = .exc e := (rfl)
theorem okV_eq (d : D) : okV d = .ok (.val d) := (rfl)
theorem asD_val (d : D) : asD (.val d) = .ok d := (rfl)
/-! #### slots -/
def varT : Option SV → T RV
  | some (.val d) => .ok (.val d)
  | some (.own ds) => .ok (.brw ds)
  | some (.obj n gs) => .ok (.bob n gs)
  | some (.dic z) => .ok (.bdc z)
  | _ => .stuck
theorem varT_val (d : D) : varT (some (.val d)) = .ok (.val d) := (rfl)
theorem varT_own (d : List D) : varT (some (.own d)) = .ok (.brw d) := (rfl)
theorem varT_obj (n : Nat) (gs : List (Str × D)) : varT (some (.obj n gs)) = .ok (.bob n gs) := (rfl)
section
variable {γ : Gm} {m m1 m2 : Gm → T RV} {s1 s2 : Gm → T Fl} {t1 t2 : Gm → T Bool} {ms mk : Gm → T (List D)} {i j k : Nat} {g g' : RV → RV → T RV} {u : RV → T RV}
theorem mVar_ap : mVar i γ = varT γ[i]? := (rfl)
theorem mC_ap {d : D} : mC d γ = .ok (.val d) := (rfl)
theorem mBin_ap : mBin g m1 m2 γ = (m1 γ).bind fun x => (m2 γ).bind fun y => g x y := (rfl)
theorem mUn_ap : mUn u m γ = (m γ).bind u := (rfl)
theorem mCall_ap {mf : List D → T D} : mCall mf ms γ = (ms γ).bind fun ds => (mf ds).bind okV := (rfl)
theorem mMake_ap {c : Nat} {mi : List D → T (List (Str × D))} : mMake c mi ms γ = (ms γ).bind fun ds => (mi ds).bind fun gs => .ok (.val (.ins c gs)) := (rfl)
theorem mMeth_ap {nm : Str} {tb : List (Nat × (List D → T D))} : mMeth nm tb m ms γ = (m γ).bind fun x => (asD x).bind fun d => (recv nm tb d).bind fun _ => (ms γ).bind fun ds => (methM tb (d :: ds)).bind okV := (rfl)
theorem mCallI_ap {tb : List (Nat × (List D → T D))} : mCallI tb m ms γ = (m γ).bind fun x => (asD x).bind fun d => (recvI tb d).bind fun _ => (ms γ).bind fun ds => (methM tb (d :: ds)).bind okV := (rfl)
theorem mB_ap : mB m γ = (m γ).bind asB := (rfl)
theorem asB_bl {b : Bool} : asB (.val (.bl b)) = .ok b := (rfl)
theorem mTru_ap : mTru m γ = (m γ).bind asTru := (rfl)
theorem asTru_bl {b : Bool} : asTru (.val (.bl b)) = .ok b := (rfl)
theorem tAndM_ap : tAndM t1 t2 γ = (t1 γ).bind fun k => if k = true then t2 γ else .ok false := (rfl)
theorem tOrM_ap : tOrM t1 t2 γ = (t1 γ).bind fun k => if k = true then .ok true else t2 γ := (rfl)
theorem tNotM_ap : tNotM t1 γ = (t1 γ).bind fun k => .ok (!k) := (rfl)
theorem mAndV_ap : mAndV m1 m2 γ = (m1 γ).bind fun x => (asB x).bind fun k => if k = true then m2 γ else .ok (.val (.bl false)) := (rfl)
theorem mOrV_ap : mOrV m1 m2 γ = (m1 γ).bind fun x => (asB x).bind fun k => if k = true then .ok (.val (.bl true)) else m2 γ := (rfl)
theorem mNotV_ap : mNotV m1 γ = (m1 γ).bind fun x => (asB x).bind fun k => .ok (.val (.bl (!k))) := (rfl)
theorem mIf_ap : mIf t1 m1 m2 γ = (t1 γ).bind fun k => if k = true then m1 γ else m2 γ := (rfl)
theorem mChain_ap {m3 : Gm → T RV} : mChain g g' m1 m2 m3 γ = (m1 γ).bind fun x => (m2 γ).bind fun y => (g x y).bind fun z => (asB z).bind fun k => if k = true then (m3 γ).bind fun w => g' y w else .ok (.val (.bl false)) := (rfl)
theorem mChainT_ap {m3 : Gm → T RV} : mChainT g g' m1 m2 m3 γ = (m1 γ).bind fun x => (m2 γ).bind fun y => (g x y).bind fun z => (asB z).bind fun k => if k = true then (m3 γ).bind fun w => (g' y w).bind asB else .ok false := by
  first | rfl | (unfold mChainT; rfl)
theorem aNil_ap : aNil γ = .ok [] := (rfl)
theorem aCons_ap : aCons m ms γ = (m γ).bind fun x => (asD x).bind fun d => (ms γ).bind fun ds => .ok (d :: ds) := (rfl)
theorem aStar_ap : aStar m ms γ = (m γ).bind fun x => (seqOf x).bind fun d => (ms γ).bind fun ds => .ok (d ++ ds) := (rfl)
theorem seqOf_lst {ds : List D} : seqOf (.val (.lst ds)) = .ok ds := (rfl)
theorem seqOf_tup {ds : List D} : seqOf (.val (.tup ds)) = .ok ds := (rfl)
theorem seqOf_brw {ds : List D} : seqOf (.brw ds) = .ok ds := (rfl)
theorem aApp_ap {n : Nat} : aApp n ms mk γ = (ms γ).bind fun ds => (mk γ).bind fun es => if es.length = n then .ok (ds ++ es) else .stuck := (rfl)
theorem aKw_ap {n : Nat} : aKw n mk γ = (mk γ).bind fun es => if es.length = n then .ok es else .stuck := (rfl)
theorem mLst_ap : mLst ms γ = (ms γ).bind fun ds => if ds.length ≤ 1000000 then .ok (.val (.lst ds)) else .stuck := (rfl)
theorem mTup_ap : mTup ms γ = (ms γ).bind fun ds => if ds.length ≤ 1000000 then .ok (.val (.tup ds)) else .stuck := (rfl)
/-! #### statements -/
def seqK (m2 : Gm → T Fl) : Fl → T Fl
  | .nx γ => m2 γ
  | .rt d => .ok (.rt d)
  | .bk γ => .ok (.bk γ)
  | .ct γ => .ok (.ct γ)
theorem mSeq_ap : mSeq s1 s2 γ = (s1 γ).bind (seqK s2) := by
  unfold mSeq
  congr 1
  funext fl
  cases fl <;> rfl
theorem seqK_nx {γ' : Gm} : seqK s2 (.nx γ') = s2 γ' := (rfl)
theorem seqK_rt {d : D} : seqK s2 (.rt d) = .ok (.rt d) := (rfl)
theorem seqK_bk {γ' : Gm} : seqK s2 (.bk γ') = .ok (.bk γ') := (rfl)
theorem seqK_ct {γ' : Gm} : seqK s2 (.ct γ') = .ok (.ct γ') := (rfl)
theorem mNx_ap : mNx γ = .ok (.nx γ) := (rfl)
theorem mRet_ap : mRet m γ = (m γ).bind fun x => (asD x).bind fun d => .ok (.rt d) := (rfl)
theorem mRetN_ap : mRetN γ = .ok (.rt .non) := (rfl)
theorem mDrop_ap : mDrop m γ = (m γ).bind fun _ => .ok (.nx γ) := (rfl)
theorem mIfS_ap : mIfS t1 s1 s2 γ = (t1 γ).bind fun k => if k = true then s1 γ else s2 γ := (rfl)
theorem mSet_ap : mSet i m γ = (m γ).bind fun x => (asD x).bind fun d => .ok (.nx (γ.set i (.val d))) := (rfl)
theorem mSetOwn_ap : mSetOwn i ms γ = (ms γ).bind fun ds => .ok (.nx (γ.set i (.own ds))) := (rfl)
theorem fLst_ap : fLst ms γ = (ms γ).bind fun ds => if ds.length ≤ 1000000 then .ok ds else .stuck := (rfl)
theorem fList_ap : fList m γ = (m γ).bind seqOf := (rfl)
def appT (i : Nat) (γ : Gm) (m : Gm → T RV) : Option SV → T Fl
  | some (.own ds) => (m γ).bind fun x => (asD x).bind fun d => if ds.length < 1000000 then .ok (.nx (γ.set i (.own (ds ++ [d])))) else .stuck
  | _ => .stuck
theorem mApp_ap : mApp i m γ = appT i γ m γ[i]? := (rfl)
theorem appT_own {ds : List D} : appT i γ m (some (.own ds)) = (m γ).bind fun x => (asD x).bind fun d => if ds.length < 1000000 then .ok (.nx (γ.set i (.own (ds ++ [d])))) else .stuck := (rfl)
def augT (i : Nat) (γ : Gm) (f : Int → Int → Int) (m : Gm → T RV) : Option SV → T Fl
  | some (.val (.int a)) => (m γ).bind fun x => (match x with
    | .val (.int b) => .ok (.nx (γ.set i (.val (.int (f a b)))))
    | _ => .stuck)
  | _ => .stuck
theorem mAug_ap {f : Int → Int → Int} : mAug i f m γ = augT i γ f m γ[i]? := (rfl)
def augK (i : Nat) (γ : Gm) (f : Int → Int → Int) (a : Int) : RV → T Fl
  | .val (.int b) => .ok (.nx (γ.set i (.val (.int (f a b)))))
  | _ => .stuck
theorem augT_int {f : Int → Int → Int} {a : Int} : augT i γ f m (some (.val (.int a))) = (m γ).bind (augK i γ f a) := (rfl)
theorem augK_int {f : Int → Int → Int} {a b : Int} : augK i γ f a (.val (.int b)) = .ok (.nx (γ.set i (.val (.int (f a b))))) := (rfl)
def asgT (γ : Gm) : Option Gm → T Fl
  | some γ' => .ok (.nx γ')
  | none => .stuck
theorem mAsg_ap {gm : D → Gm → Option Gm} : mAsg gm m γ = (m γ).bind fun x => (asD x).bind fun d => asgT γ (gm d γ) := by
  unfold mAsg asgT
  rfl
theorem asgT_some {γ' : Gm} : asgT γ (some γ') = .ok (.nx γ') := (rfl)
theorem gmName_ap {d : D} : gmName i d γ = some (γ.set i (.val d)) := (rfl)
def par2 (i k : Nat) (γ : Gm) : List D → T Fl
  | [a, b] => .ok (.nx ((γ.set i (.val a)).set k (.val b)))
  | _ => .stuck
theorem mPar2_ap : mPar2 i k ms γ = (ms γ).bind (par2 i k γ) := (rfl)
theorem par2_ok {a b : D} : par2 i k γ [a, b] = .ok (.nx ((γ.set i (.val a)).set k (.val b))) := (rfl)
theorem mCl_ap {is : List Nat} : mCl is s1 γ = s1 (cleanG is γ) := (rfl)
theorem mFor_ap {mi : Gm → T (List D)} {gm : D → Gm → Option Gm} {mb : Gm → T Fl} : mFor mi gm mb γ = (mi γ).bind fun ds => forD gm mb ds γ := (rfl)
theorem mWhile_ap {n : Nat} {tc : Gm → T Bool} {mb : Gm → T Fl} : mWhile n tc mb γ = whileD tc mb n γ := (rfl)
theorem mLc_ap {mi : Gm → T (List D)} {gm : D → Gm → Option Gm} {tt : Gm → T Bool} {te : Gm → T RV} {vs : List Nat} : mLc mi gm tt te vs γ = (mi γ).bind fun ds => (lcD gm tt te (wipeG γ vs) ds []).calm.bind fun ds => .ok (.val (.lst ds)) := by
  unfold mLc fLc
  rw [T.bind_assoc]
theorem fLc_ap {mi : Gm → T (List D)} {gm : D → Gm → Option Gm} {tt : Gm → T Bool} {te : Gm → T RV} {vs : List Nat} : fLc mi gm tt te vs γ = (mi γ).bind fun ds => (lcD gm tt te (wipeG γ vs) ds []).calm := (rfl)
theorem calm_ok {α : Type} {a : α} : (T.ok a).calm = .ok a := (rfl)
theorem mSl_ap {ml mh : Gm → T (Option Int)} : mSl m ml mh γ = (m γ).bind fun x => (ml γ).bind fun lo => (mh γ).bind fun hi => gSl x lo hi := (rfl)
theorem pNo_ap : pNo γ = .ok none := (rfl)
def pIntK : RV → T (Option Int)
  | .val (.int i) => .ok (some i)
  | _ => .stuck
theorem pInt_ap : pInt m γ = (m γ).bind pIntK := (rfl)
theorem pIntK_int {i : Int} : pIntK (.val (.int i)) = .ok (some i) := (rfl)
theorem iAny_ap : iAny m γ = (m γ).bind asIt := (rfl)
theorem asIt_lst {ds : List D} : asIt (.val (.lst ds)) = .ok ds := (rfl)
theorem asIt_tup {ds : List D} : asIt (.val (.tup ds)) = .ok ds := (rfl)
end
/-! #### operations -/
section
variable {a b : Int} {x y : Str} {as bs : List D}
theorem gAdd_int : gAdd (.val (.int a)) (.val (.int b)) = .ok (.val (.int (a + b))) := (rfl)
theorem gSub_int : gSub (.val (.int a)) (.val (.int b)) = .ok (.val (.int (a - b))) := (rfl)
theorem gMod_int (h : 0 < b) : gMod (.val (.int a)) (.val (.int b)) = .ok (.val (.int (a % b))) := by unfold gMod; simp only [RV.d]; rw [if_pos h, okV_eq]
theorem gDivW_int (h : 0 < b) (h2 : b.natAbs < 2 ^ 1000) : gDivW (.val (.int a)) (.val (.int b)) = .ok (.val (.int (a / b))) := by unfold gDivW; simp only [RV.d]; rw [if_pos ⟨h, h2⟩, okV_eq]
theorem gMulA_int (h : a.natAbs < 2 ^ 3000) (h2 : b.natAbs < 2 ^ 3000) : gMulA (.val (.int a)) (.val (.int b)) = .ok (.val (.int (a * b))) := by
  unfold gMulA
  simp only
  rw [if_pos (by rw [decide_eq_true h, decide_eq_true h2]; rfl), okV_eq]
theorem gLt_int : gLt (.val (.int a)) (.val (.int b)) = .ok (.val (.bl (decide (a < b)))) := (rfl)
theorem gLe_int : gLe (.val (.int a)) (.val (.int b)) = .ok (.val (.bl (decide (a ≤ b)))) := (rfl)
theorem gGt_int : gGt (.val (.int a)) (.val (.int b)) = .ok (.val (.bl (decide (a > b)))) := (rfl)
theorem gGe_int : gGe (.val (.int a)) (.val (.int b)) = .ok (.val (.bl (decide (a ≥ b)))) := (rfl)
theorem gNeg_int : gNeg (.val (.int a)) = .ok (.val (.int (-a))) := (rfl)
theorem gInt_int : gInt (.val (.int a)) = .ok (.val (.int a)) := (rfl)
theorem gLen_lst : gLen (.val (.lst as)) = .ok (.val (.int as.length)) := (rfl)
theorem gLen_tup : gLen (.val (.tup as)) = .ok (.val (.int as.length)) := (rfl)
theorem gLen_brw : gLen (.brw as) = .ok (.val (.int as.length)) := (rfl)
theorem gList_lst : gList (.val (.lst as)) = .ok (.val (.lst as)) := (rfl)
theorem gList_tup : gList (.val (.tup as)) = .ok (.val (.lst as)) := (rfl)
theorem gTuple_lst : gTuple (.val (.lst as)) = .ok (.val (.tup as)) := (rfl)
theorem gTuple_tup : gTuple (.val (.tup as)) = .ok (.val (.tup as)) := (rfl)
theorem gSl_lst {lo hi : Option Int} : gSl (.val (.lst as)) lo hi = .ok (.val (.lst (cutD as lo hi))) := (rfl)
theorem gSl_tup {lo hi : Option Int} : gSl (.val (.tup as)) lo hi = .ok (.val (.tup (cutD as lo hi))) := (rfl)
end
/-! #### lists of ints -/
theorem ints_iL : ∀ ns : List Int, D.ints ((List.map DL.D.int (ns))) = some ns
  | [] => rfl
  | n :: ns => by
    show (D.ints ((List.map DL.D.int (ns)))).map (n :: ·) = _
    rw [ints_iL ns]
    rfl
theorem pys_iL : ∀ ns : List Int, D.pys ((List.map DL.D.int (ns))) = some (ns.map PyData.int)
  | [] => rfl
  | n :: ns => by
    rw [List.map_cons]
    unfold D.pys
    rw [pys_iL ns]
    rfl
theorem depth_ints : ∀ ns : List Int, PyData.depthAll (ns.map PyData.int) = 0
  | [] => rfl
  | n :: ns => by
    rw [List.map_cons]
    unfold PyData.depthAll
    rw [depth_ints ns]
    rfl
theorem eqv_ints : ∀ a b : List Int, PyData.eqvAll (a.map PyData.int) (b.map PyData.int) = decide (a = b)
  | [], [] => rfl
  | [], _ :: _ => rfl
  | _ :: _, [] => rfl
  | a :: as, b :: bs => by
    rw [List.map_cons, List.map_cons]
    unfold PyData.eqvAll
    rw [eqv_ints as bs]
    show ((a == b) && decide (as = bs)) = _
    by_cases h1 : a = b
    · by_cases h2 : as = bs <;> simp [h1, h2]
    · simp [h1]
theorem dep_lst (ns : List Int) : PyData.depth (.list (ns.map PyData.int)) ≤ 64 := by unfold PyData.depth; rw [depth_ints]; omega
theorem dep_tup (ns : List Int) : PyData.depth (.tuple (ns.map PyData.int)) ≤ 64 := by unfold PyData.depth; rw [depth_ints]; omega
theorem eqDat_int (a b : Int) : eqDat (.int a) (.int b) = some (decide (a = b)) := by
  show some (a == b) = _
  by_cases h : a = b <;> simp [h]
theorem eqDat_lst (a b : List Int) : eqDat (.lst ((List.map DL.D.int (a)))) (.lst ((List.map DL.D.int (b)))) = some (decide (a = b)) := by
  unfold eqDat
  simp only [D.py, pys_iL, Option.map_some]
  rw [decide_eq_true (dep_lst a), decide_eq_true (dep_lst b)]
  show some (PyData.eqvAll _ _) = _
  rw [eqv_ints]
theorem eqDat_tup (a b : List Int) : eqDat (.tup ((List.map DL.D.int (a)))) (.tup ((List.map DL.D.int (b)))) = some (decide (a = b)) := by
  unfold eqDat
  simp only [D.py, pys_iL, Option.map_some]
  rw [decide_eq_true (dep_tup a), decide_eq_true (dep_tup b)]
  show some (PyData.eqvAll _ _) = _
  rw [eqv_ints]
theorem gEqD_int (a b : Int) : gEqD (.val (.int a)) (.val (.int b)) = .ok (.val (.bl (decide (a = b)))) := by unfold gEqD; simp only [RV.d]; rw [eqDat_int]
theorem gEqD_lst (a b : List Int) : gEqD (.val (.lst ((List.map DL.D.int (a))))) (.val (.lst ((List.map DL.D.int (b))))) = .ok (.val (.bl (decide (a = b)))) := by unfold gEqD; simp only [RV.d]; rw [eqDat_lst]
theorem gEqD_tup (a b : List Int) : gEqD (.val (.tup ((List.map DL.D.int (a))))) (.val (.tup ((List.map DL.D.int (b))))) = .ok (.val (.bl (decide (a = b)))) := by unfold gEqD; simp only [RV.d]; rw [eqDat_tup]
theorem gNeD_int (a b : Int) : gNeD (.val (.int a)) (.val (.int b)) = .ok (.val (.bl (!decide (a = b)))) := by unfold gNeD; simp only [RV.d]; rw [eqDat_int]
theorem gSumA_lst (ns : List Int) : gSumA (.val (.lst ((List.map DL.D.int (ns))))) = .ok (.val (.int ns.sum)) := by unfold gSumA; simp only [RV.d]; rw [ints_iL]
theorem gSumA_tup (ns : List Int) : gSumA (.val (.tup ((List.map DL.D.int (ns))))) = .ok (.val (.int ns.sum)) := by unfold gSumA; simp only [RV.d]; rw [ints_iL]
theorem gMaxL_lst (n : Int) (ns : List Int) : gMaxL (.val (.lst (List.map DL.D.int (n :: ns)))) = .ok (.val (.int (maxI n ns))) := by unfold gMaxL; simp only [RV.d, lstD, Option.bind_some]; rw [ints_iL]
theorem gMinL_lst (n : Int) (ns : List Int) : gMinL (.val (.lst (List.map DL.D.int (n :: ns)))) = .ok (.val (.int (minI n ns))) := by unfold gMinL; simp only [RV.d, lstD, Option.bind_some]; rw [ints_iL]
/-! #### loops -/
theorem lc_all {gm : D → Gm → Option Gm} {tt : Gm → T Bool} {te : Gm → T RV} {γ : Gm} {p : D → Bool} {f : D → D} : ∀ {ds acc : List D}, (∀ d ∈ ds, ∃ γ1, gm d γ = some γ1 ∧ tt γ1 = .ok (p d) ∧ (p d = true → te γ1 = .ok (.val (f d)))) → ds.length + acc.length ≤ 1000000 →
    lcD gm tt te γ ds acc = .ok (acc ++ (ds.filter p).map f)
  | [], acc, _, _ => by simp [lcD]
  | d :: ds, acc, h, hl => by
    obtain ⟨γ1, h1, h2, h3⟩ := h d (.head _)
    rw [List.length_cons] at hl
    unfold lcD
    rw [h1]
    show (tt γ1).bind _ = _
    rw [h2, ok_bind]
    cases q : p d with
    | false =>
      rw [if_neg (by simp), lc_all (fun d hd => h d (.tail _ hd)) (by omega), List.filter_cons_of_neg (by simp [q])]
    | true =>
      rw [if_pos rfl, h3 q, ok_bind, asD_val, ok_bind, if_pos (by omega), lc_all (fun d hd => h d (.tail _ hd)) (by rw [List.length_append, List.length_singleton]; omega), List.filter_cons_of_pos (by simp [q]), List.map_cons, List.append_assoc]
      rfl
theorem lc_map {gm : D → Gm → Option Gm} {te : Gm → T RV} {γ : Gm} {f : D → D} {ds : List D} (h : ∀ d ∈ ds, ∃ γ1, gm d γ = some γ1 ∧ te γ1 = .ok (.val (f d))) (hl : ds.length ≤ 1000000) :
    lcD gm tYesM te γ ds [] = .ok (ds.map f) := by
  rw [lc_all (p := fun _ => true) (f := f) (fun d hd => ?_) (by simpa using hl)]
  · rw [List.filter_eq_self.mpr (fun _ _ => rfl)]
    rfl
  · obtain ⟨γ1, h1, h2⟩ := h d hd
    exact ⟨γ1, h1, rfl, fun _ => h2⟩
end DL
/-! GM0: growths as told values and gains that come again; the normal form is one. -/
namespace GM
/-- the item at i -/
def at_ (g : List Int) (i : Nat) : Int := g.getD i 0
/-- the gain at a step -/
def cyc (g : List Int) (k : Nat) : Int := at_ g (k % g.length)
/-- the value at a number, step by step from the last told one -/
def up (g : List Int) : Nat → Int
  | 0 => 0
  | k + 1 => up g k + cyc g k
def gv (t g : List Int) (n : Nat) : Int := if n < t.length then at_ t n else at_ t (t.length - 1) + up g (n + 1 - t.length)
theorem at_lt {g : List Int} {i : Nat} (h : i < g.length) : g[i]? = some (at_ g i) := by
  unfold at_
  rw [List.getD_eq_getElem?_getD, List.getElem?_eq_getElem h]
  rfl
/-! ### the closed form -/
/-! ### steps -/
/-! ### one told value less -/
/-! ### gains told more than once -/
/-- m is a period of a row -/
def per (m : Nat) (g : List Int) : Prop := ∀ i, i < g.length → at_ g i = at_ g (i % m)
def prim (g : List Int) : Prop := ∀ m, 0 < m → m ∣ g.length → per m g → m = g.length
/-! ### the normal form is one -/
structure Normal (t g : List Int) : Prop where
  t0 : t ≠ []
  g0 : g ≠ []
  pr : prim g
  st : t.length = 1 ∨ at_ t (t.length - 1) - at_ t (t.length - 2) ≠ at_ g (g.length - 1)
def perS (m : Nat) (s : Nat → Int) : Prop := ∀ k, s (k + m) = s k
theorem perS_mul {m : Nat} {s : Nat → Int} (h : perS m s) : ∀ c k, s (k + c * m) = s k
  | 0, k => by simp
  | c + 1, k => by
    have e : k + (c + 1) * m = (k + c * m) + m := by rw [Nat.add_mul]; omega
    rw [e, h, perS_mul h c k]
theorem perS_mod {m : Nat} {s : Nat → Int} (h : perS m s) (k : Nat) : s k = s (k % m) := by
  have h3 := Nat.mod_add_div k m
  have h4 := perS_mul h (k / m) (k % m)
  rw [← h4]
  congr 1
  rw [Nat.mul_comm] at h3
  omega
end GM
/-! GM1: rows that come again, turned rows. -/
namespace GM
/-! ### turned rows -/
end GM
/-! GM2: the normal form of a function; functions whose differences come again. -/
namespace GM
/-- a function that a normal form tells -/
def HasNF (f : Nat → Int) : Prop := ∃ p : List Int × List Int, Normal p.1 p.2 ∧ ∀ n, gv p.1 p.2 n = f n
open Classical in
noncomputable def nf (f : Nat → Int) : List Int × List Int := if h : HasNF f then choose h else ([], [])
/-! ### functions whose differences come again -/
structure Per (f : Nat → Int) (b m : Nat) : Prop where
  b0 : 0 < b
  m0 : 0 < m
  h : ∀ n, b - 1 ≤ n → f (n + 1 + m) - f (n + m) = f (n + 1) - f n
theorem Per.mono {f : Nat → Int} {b m b' : Nat} (h : Per f b m) (hb : b ≤ b') : Per f b' m := ⟨by have := h.b0; omega, h.m0, fun n hn => h.h n (by omega)⟩
theorem Per.add {f g : Nat → Int} {b m : Nat} (h : Per f b m) (k : Per g b m) : Per (fun n => f n + g n) b m := ⟨h.b0, h.m0, fun n hn => by have := h.h n hn; have := k.h n hn; omega⟩
/-- the told values and the gains of a function -/
def tl (f : Nat → Int) (b : Nat) : List Int := (List.range b).map f
def gl (f : Nat → Int) (b m : Nat) : List Int := (List.range m).map fun k => f (b + k) - f (b + k - 1)
theorem Per.mod {f : Nat → Int} {b m : Nat} (h : Per f b m) (n : Nat) (hn : b - 1 ≤ n) : f (n + 1) - f n = f (b + (n - (b - 1)) % m) - f (b + (n - (b - 1)) % m - 1) := by
  have hb := h.b0
  have hs : perS m (fun k => f (b + k) - f (b + k - 1)) := fun k => by
    have := h.h (b + k - 1) (by omega)
    have e1 : b + k - 1 + 1 = b + k := by omega
    have e2 : b + (k + m) = b + k + m := by omega
    have e3 : b + (k + m) - 1 = b + k - 1 + m := by omega
    show f (b + (k + m)) - f (b + (k + m) - 1) = _
    rw [e1] at this
    rw [e3, e2]
    exact this
  have := perS_mod hs (n - (b - 1))
  have e1 : b + (n - (b - 1)) = n + 1 := by omega
  have e2 : b + (n - (b - 1)) - 1 = n := by omega
  rw [e2, e1] at this
  exact this
end GM
/-! GM3: first numbers at which a growth is above; rates; rising growths. -/
namespace GM
theorem Per.sub {f g : Nat → Int} {b m : Nat} (h : Per f b m) (k : Per g b m) : Per (fun n => f n - g n) b m := ⟨h.b0, h.m0, fun n hn => by have := h.h n hn; have := k.h n hn; omega⟩
/-- what a round adds -/
def trn (f : Nat → Int) (b m : Nat) : Int := f (b - 1 + m) - f (b - 1)
theorem Per.step {f : Nat → Int} {b m : Nat} (h : Per f b m) : ∀ k : Nat, f (b - 1 + k + m) - f (b - 1 + k) = trn f b m
  | 0 => rfl
  | k + 1 => by
    have a := h.h (b - 1 + k) (by omega)
    have c := Per.step h k
    have e : b - 1 + (k + 1) + m = b - 1 + k + 1 + m := by omega
    have e2 : b - 1 + (k + 1) = b - 1 + k + 1 := by omega
    rw [e, e2]
    omega
theorem Per.split {b m n : Nat} (hm : 0 < m) (hn : b ≤ n) : ∃ i c, i < m ∧ n = b + i + m * c :=
  ⟨(n - b) % m, (n - b) / m, Nat.mod_lt _ hm, by have := Nat.mod_add_div (n - b) m; omega⟩
/-! rates -/
/-! rising -/
end GM
/-! GM4: where two growths have crossed for the last time; the greater and the lesser of two growths. -/
namespace GM
/-- the last number in the row of n at which F is below nought -/
def rowB (F : Nat → Int) (T : Int) (m n : Nat) : Int := n + m * ((-F n - 1) / T)
/-- what last_behind has found in the rows b - 1 .. b - 1 + i - 1 -/
structure Beh (F : Nat → Int) (T : Int) (b m i : Nat) (x : Int) : Prop where
  up : ∀ j, j < i → F (b - 1 + j) < 0 → rowB F T m (b - 1 + j) ≤ x
  one : x = -1 ∨ ∃ j, j < i ∧ F (b - 1 + j) < 0 ∧ x = rowB F T m (b - 1 + j)
theorem Beh.zero {F : Nat → Int} {T : Int} {b m : Nat} : Beh F T b m 0 (-1) := ⟨fun j hj => absurd hj (Nat.not_lt_zero _), .inl rfl⟩
theorem Beh.step {F : Nat → Int} {T : Int} {b m i : Nat} {x y : Int} (h : Beh F T b m i x) (hn : F (b - 1 + i) < 0) (hy : y = if rowB F T m (b - 1 + i) > x then rowB F T m (b - 1 + i) else x) : Beh F T b m (i + 1) y := by
  by_cases z : rowB F T m (b - 1 + i) > x
  · rw [if_pos z] at hy
    refine ⟨fun j hj hf => ?_, .inr ⟨i, by omega, hn, hy⟩⟩
    by_cases e : j < i
    · have := h.up j e hf; omega
    · obtain rfl : j = i := by omega
      omega
  · rw [if_neg z] at hy
    subst hy
    refine ⟨fun j hj hf => ?_, ?_⟩
    · by_cases e : j < i
      · exact h.up j e hf
      · obtain rfl : j = i := by omega
        omega
    · rcases h.one with e | ⟨j, hj, hf, e⟩
      · exact .inl e
      · exact .inr ⟨j, by omega, hf, e⟩
/-- the greater and the lesser of two -/
def mx (f h : Nat → Int) (n : Nat) : Int := if h n > f n then h n else f n
end GM
/-! GM5: a growth at the values of another one. -/
namespace GM
/-- the last number in the row of n at which h is below N (last_below) -/
def rowL (h : Nat → Int) (T N : Int) (b m n : Nat) : Int := n + m * (if (b : Int) ≤ n then (N - 1 - h n) / T else 0)
structure Lst (h : Nat → Int) (T N : Int) (b m i : Nat) (x : Int) : Prop where
  up : ∀ j, j < i → h j < N → rowL h T N b m j ≤ x
  lo : -1 ≤ x
  hi : x ≤ b + m + m * N
  mx : x = -1 ∨ ∃ j, j < i ∧ h j < N ∧ x = rowL h T N b m j
theorem Lst.zero {h : Nat → Int} {T N : Int} {b m : Nat} (hN : 0 ≤ N) : Lst h T N b m 0 (-1) := ⟨fun j hj => absurd hj (Nat.not_lt_zero _), by omega, by have : 0 ≤ (m : Int) * N := Int.mul_nonneg (by omega) hN; omega, .inl rfl⟩
theorem rowL_le {h : Nat → Int} {T N : Int} {b m i : Nat} (hT : 0 < T) (h0 : 0 ≤ h i) (hi : i < b + m) (hn : h i < N) : rowL h T N b m i ≤ b + m + m * N ∧ -1 ≤ rowL h T N b m i := by
  unfold rowL
  have q1 : 0 ≤ (N - 1 - h i) / T := Int.ediv_nonneg (by omega) (by omega)
  have q2 : (N - 1 - h i) / T ≤ N - 1 - h i := Int.ediv_le_self _ (by omega)
  split
  · have a : (m : Int) * ((N - 1 - h i) / T) ≤ m * N := Int.mul_le_mul_of_nonneg_left (by omega) (by omega)
    have c : 0 ≤ (m : Int) * ((N - 1 - h i) / T) := Int.mul_nonneg (by omega) q1
    omega
  · have a : 0 ≤ (m : Int) * N := Int.mul_nonneg (by omega) (by omega)
    omega
theorem Lst.step {h : Nat → Int} {T N : Int} {b m i : Nat} {x y : Int} (l : Lst h T N b m i x) (hT : 0 < T) (h0 : 0 ≤ h i) (hi : i < b + m) (hn : h i < N) (hy : y = if rowL h T N b m i > x then rowL h T N b m i else x) : Lst h T N b m (i + 1) y := by
  have r := rowL_le hT h0 hi hn
  have l2 := l.lo
  have l3 := l.hi
  have ge : x ≤ y ∧ rowL h T N b m i ≤ y := by rw [hy]; split <;> omega
  refine ⟨fun j hj hf => ?_, by omega, by rw [hy]; split <;> omega, by
    rw [hy]
    split
    · exact .inr ⟨i, by omega, hn, rfl⟩
    · exact l.mx.imp id fun ⟨j, a, b, c⟩ => ⟨j, by omega, b, c⟩⟩
  by_cases e : j < i
  · have := l.up j e hf; omega
  · obtain rfl : j = i := by omega
    omega
end GM
/-! GR0: places of a flow's slots in a round, told on for ever; waits. -/
namespace GM
/-- the own places in a round of L slots -/
structure Rg (p : List Nat) (L : Nat) : Prop where
  ne : p ≠ []
  lt : ∀ x ∈ p, x < L
  up : p.Pairwise (· < ·)
def atN (p : List Nat) (i : Nat) : Nat := p.getD i 0
theorem atN_lt {p : List Nat} {i : Nat} (h : i < p.length) : atN p i = p[i] := by unfold atN; simp [h]
/-- the place of the j-th own slot -/
def pl (p : List Nat) (L j : Nat) : Nat := atN p (j % p.length) + L * (j / p.length)
section
variable {p : List Nat} {L : Nat}
theorem Rg.k0 (h : Rg p L) : 0 < p.length := List.length_pos_iff.mpr h.ne
theorem Rg.at_lt (h : Rg p L) {i : Nat} (hi : i < p.length) : atN p i < L := by rw [atN_lt hi]; exact h.lt _ (List.getElem_mem _)
theorem Rg.at_up (h : Rg p L) {i j : Nat} (hj : j < p.length) (hij : i < j) : atN p i < atN p j := by
  rw [atN_lt hj, atN_lt (by omega)]
  exact List.pairwise_iff_getElem.mp h.up i j (by omega) hj hij
theorem Rg.pl_add (h : Rg p L) (j q : Nat) : pl p L (j + p.length * q) = pl p L j + L * q := by
  have := h.k0
  unfold pl
  rw [Nat.add_mul_mod_self_left, Nat.add_mul_div_left _ _ this, Nat.mul_add]
  omega
theorem Rg.pl_lo (h : Rg p L) {j : Nat} (hj : j < p.length) : pl p L j = atN p j := by
  unfold pl
  rw [Nat.mod_eq_of_lt hj, Nat.div_eq_of_lt hj]
  omega
theorem Rg.pl_step (h : Rg p L) (j : Nat) : pl p L j < pl p L (j + 1) := by
  have k0 := h.k0
  have e : j = j % p.length + p.length * (j / p.length) := by rw [Nat.add_comm]; exact (Nat.div_add_mod j p.length).symm
  have m := Nat.mod_lt j k0
  generalize j % p.length = r at *
  generalize j / p.length = q at *
  subst e
  rw [h.pl_add, show r + p.length * q + 1 = (r + 1) + p.length * q by omega, h.pl_add, h.pl_lo m]
  by_cases c : r + 1 < p.length
  · rw [h.pl_lo c]
    have := h.at_up c (show r < r + 1 by omega)
    omega
  · have e2 : r + 1 = 0 + p.length * 1 := by omega
    rw [e2, h.pl_add, h.pl_lo k0]
    have := h.at_lt m
    omega
theorem Rg.pl_mono (h : Rg p L) (i : Nat) : ∀ d, pl p L i ≤ pl p L (i + d)
  | 0 => Nat.le_refl _
  | d + 1 => Nat.le_trans (Rg.pl_mono h i d) (Nat.le_of_lt (by rw [show i + (d + 1) = i + d + 1 by omega]; exact h.pl_step _))
theorem Rg.pl_lt (h : Rg p L) {i j : Nat} (hij : i < j) : pl p L i < pl p L j := by
  have a := h.pl_step i
  have b := h.pl_mono (i + 1) (j - (i + 1))
  rw [show i + 1 + (j - (i + 1)) = j by omega] at b
  omega
/-- j own slots lie ahead of t -/
structure Nx (p : List Nat) (L t j : Nat) : Prop where
  lo : ∀ i, i < j → pl p L i < t
  hi : t ≤ pl p L j
theorem Nx.own {t j : Nat} (h : Rg p L) (n : Nx p L t j) (o : ∃ i, t = pl p L i) : t = pl p L j ∧ Nx p L (t + 1) (j + 1) := by
  obtain ⟨i, e⟩ := o
  have ij : i = j := by
    rcases Nat.lt_trichotomy i j with z | z | z
    · have := n.lo i z; omega
    · exact z
    · have := h.pl_lt z; have := n.hi; omega
  subst ij
  refine ⟨e, fun i2 hi2 => ?_, by have := h.pl_step i; omega⟩
  by_cases z : i2 = i
  · subst z; omega
  · have := n.lo i2 (by omega); omega
/-- how many own places lie ahead of s within the round -/
def ahead (p : List Nat) (s : Nat) : Nat := (p.filter (· < s)).length
theorem fil_take {s : Nat} : ∀ {p : List Nat}, p.Pairwise (· < ·) → p.filter (· < s) = p.take (p.filter (· < s)).length ∧ p.filter (s ≤ ·) = p.drop (p.filter (· < s)).length
  | [], _ => ⟨rfl, rfl⟩
  | a :: p, h => by
    have h1 := (List.pairwise_cons.mp h).1
    obtain ⟨i1, i2⟩ := fil_take (s := s) (List.pairwise_cons.mp h).2
    by_cases z : a < s
    · rw [List.filter_cons_of_pos (by simpa using z), List.filter_cons_of_neg (by simp; omega), List.length_cons, List.take_succ_cons, List.drop_succ_cons]
      exact ⟨by rw [← i1], i2⟩
    · have e1 : p.filter (· < s) = [] := List.filter_eq_nil_iff.mpr fun b hb => by have := h1 b hb; simp; omega
      have e2 : p.filter (s ≤ ·) = p := List.filter_eq_self.mpr fun b hb => by have := h1 b hb; simp; omega
      rw [List.filter_cons_of_neg (by simpa using z), List.filter_cons_of_pos (by simp; omega), e1, e2]
      exact ⟨rfl, rfl⟩
theorem ahead_le {s : Nat} : ahead p s ≤ p.length := List.length_filter_le _ _
theorem Rg.nx (h : Rg p L) {s : Nat} (hs : s < L) : Nx p L s (ahead p s) := by
  obtain ⟨e1, e2⟩ := fil_take (s := s) h.up
  have k0 := h.k0
  have al : ahead p s ≤ p.length := ahead_le
  have lo : ∀ i, i < ahead p s → atN p i < s := fun i hi => by
    rw [atN_lt (by omega)]
    have : p[i]'(by omega) ∈ p.filter (· < s) := by
      rw [e1]
      refine List.mem_iff_getElem.mpr ⟨i, by rw [List.length_take]; unfold ahead at hi al; omega, ?_⟩
      rw [List.getElem_take]
    simpa using (List.mem_filter.mp this).2
  refine ⟨fun i hi => ?_, ?_⟩
  · rw [h.pl_lo (by omega)]; exact lo i hi
  · by_cases z : ahead p s < p.length
    · rw [h.pl_lo z, atN_lt z]
      have : p[ahead p s] ∈ p.filter (s ≤ ·) := by
        rw [e2]
        refine List.mem_iff_getElem.mpr ⟨0, by rw [List.length_drop]; unfold ahead at z; omega, ?_⟩
        rw [List.getElem_drop]
        rfl
      simpa using (List.mem_filter.mp this).2
    · have e : ahead p s = 0 + p.length * 1 := by omega
      rw [e, h.pl_add]
      omega
/-! a walk's wait and the gaps -/
end
end GM
/-! GR1: the greatest waits as a growth. -/
namespace GM
end GM
/-! GR2: the own slots from a place on. -/
namespace GM
end GM
/-! GR3: rounds turned, told twice, with more own slots. -/
namespace GM
end GM
/-! GR4: own slots counted; the first number whose wait is above so many ticks. -/
namespace GM
end GM
/-! GQ: lists of ints in mirrors. -/
namespace DL
open PySem PySem.Spec L2 GM
theorem bls_map {α : Type} (p : α → Bool) : ∀ l : List α, D.bls (l.map fun x => D.bl (p x)) = some (l.map p)
  | [] => rfl
  | n :: ns => by
    rw [List.map_cons, List.map_cons]
    unfold D.bls
    rw [bls_map p ns]
    rfl
end DL
/-! DQ3: more of mirrors by simp; Al: ends at all draws. -/
namespace DL
open PySem PySem.Spec L2
/-! ### more steps -/
section
variable {γ : Gm} {m m1 m2 mc : Gm → T RV} {s1 s2 : Gm → T Fl} {ms : Gm → T (List D)} {mm : Gm → T (List MV)} {mf : Gm → T (List D)} {i j k l : Nat} {Y : IsT}
theorem mIsi_ap : mIsi Y m mc γ = (m γ).bind fun x => (mc γ).bind fun y => gIsi Y x y := (rfl)
theorem mIsiT_ap : mIsiT Y m mc γ = (m γ).bind fun x => (mc γ).bind fun y => gIsiT Y x y := (rfl)
def frzK (i : Nat) (γ : Gm) : Option SV → Gm
  | some (.own ds) => γ.set i (.val (.lst ds))
  | _ => γ
theorem frzS_ap : frzS i γ = frzK i γ γ[i]? := (rfl)
theorem frzK_own {ds : List D} : frzK i γ (some (.own ds)) = γ.set i (.val (.lst ds)) := (rfl)
theorem frzK_val {d : D} : frzK i γ (some (.val d)) = γ := (rfl)
theorem frzK_no : frzK i γ (some .no) = γ := (rfl)
def lendK (i : Nat) (m : Gm → T RV) (γ : Gm) : Option SV → T RV
  | some (.own ds) => lendT (m (γ.set i (.val (.lst ds))))
  | _ => m γ
theorem mLend_ap : mLend i m γ = lendK i m γ γ[i]? := (rfl)
theorem lendK_own {ds : List D} : lendK i m γ (some (.own ds)) = lendT (m (γ.set i (.val (.lst ds)))) := (rfl)
theorem lendK_val {d : D} : lendK i m γ (some (.val d)) = m γ := (rfl)
theorem lendT_ok {d : D} (h : d.noLst = true) : lendT (.ok (.val d)) = .ok (.val d) := by unfold lendT; rw [if_pos h]
def parM2 (i k : Nat) (γ : Gm) : List MV → T Fl
  | [a, b] => .ok (.nx ((γ.set i a.sv).set k b.sv))
  | _ => .stuck
theorem mParM2_ap : mParM2 i k mm γ = (mm γ).bind (parM2 i k γ) := (rfl)
theorem parM2_ok {a b : MV} : parM2 i k γ [a, b] = .ok (.nx ((γ.set i a.sv).set k b.sv)) := (rfl)
theorem sv_val {d : D} : MV.sv (.val d) = .val d := (rfl)
theorem sv_own {d : List D} : MV.sv (.own d) = .own d := (rfl)
theorem aMNil_ap : aMNil γ = .ok [] := (rfl)
theorem aMVal_ap : aMVal m mm γ = (m γ).bind fun x => (asD x).bind fun d => (mm γ).bind fun ds => .ok (.val d :: ds) := (rfl)
theorem aMOwn_ap : aMOwn mf mm γ = (mf γ).bind fun d => (mm γ).bind fun ds => .ok (.own d :: ds) := (rfl)
def par3 (i k l : Nat) (γ : Gm) : List D → T Fl
  | [a, b, c] => .ok (.nx (((γ.set i (.val a)).set k (.val b)).set l (.val c)))
  | _ => .stuck
theorem mPar3_ap : mPar3 i k l ms γ = (ms γ).bind (par3 i k l γ) := (rfl)
theorem par3_ok {a b c : D} : par3 i k l γ [a, b, c] = .ok (.nx (((γ.set i (.val a)).set k (.val b)).set l (.val c))) := (rfl)
theorem gmNil_ap : gmNil [] γ = some γ := (rfl)
theorem gmCons_ap {m : D → Gm → Option Gm} {ms : List D → Gm → Option Gm} {d : D} {ds : List D} : gmCons m ms (d :: ds) γ = (m d γ).bind fun γ' => ms ds γ' := (rfl)
theorem gmTup_ap {n : Nat} {ms : List D → Gm → Option Gm} {ds : List D} : gmTup n ms (.tup ds) γ = if ds.length = n then ms ds γ else none := (rfl)
def fld2K (i : Nat) (cs : List Nat) (f g : Str) (m : Gm → T RV) (γ : Gm) : Option SV → T Fl
  | some (.obj n gs) => if cs.contains n && decide (gs.length < 100) then (m γ).bind fun x => (asD x).bind fun d => (match d with
    | .tup [d1, d2] => .ok (.nx (γ.set i (.obj n (putD g d2 (putD f d1 gs)))))
    | _ => .stuck) else .stuck
  | _ => .stuck
theorem mFld2_ap {cs : List Nat} {f g : Str} : mFld2 i cs f g m γ = fld2K i cs f g m γ γ[i]? := (rfl)
theorem cleanG_nil : cleanG [] γ = γ := (rfl)
theorem cleanG_cons {is : List Nat} : cleanG (i :: is) γ = cleanG is (γ.set i .no) := (rfl)
theorem wipeG_nil : wipeG γ [] = γ := (rfl)
theorem wipeG_cons {is : List Nat} : wipeG γ (i :: is) = (wipeG γ is).set i .no := (rfl)
def forK (gm : D → Gm → Option Gm) (mb : Gm → T Fl) (ds : List D) : Fl → T Fl
  | .nx γ2 => forD gm mb ds γ2
  | .ct γ2 => forD gm mb ds γ2
  | .bk γ2 => .ok (.nx γ2)
  | .rt d => .ok (.rt d)
theorem forD_cons {gm : D → Gm → Option Gm} {mb : Gm → T Fl} {d : D} {ds : List D} {γ1 : Gm} (h : gm d γ = some γ1) : forD gm mb (d :: ds) γ = (mb γ1).bind (forK gm mb ds) := by
  unfold forD
  rw [h]
  show (mb γ1).bind _ = _
  first | rfl | (congr 1; done) | (congr 1; funext fl; cases fl <;> rfl)
theorem forK_nx {gm : D → Gm → Option Gm} {mb : Gm → T Fl} {ds : List D} : forK gm mb ds (.nx γ) = forD gm mb ds γ := (rfl)
theorem forK_ct {gm : D → Gm → Option Gm} {mb : Gm → T Fl} {ds : List D} : forK gm mb ds (.ct γ) = forD gm mb ds γ := (rfl)
theorem forK_rt {gm : D → Gm → Option Gm} {mb : Gm → T Fl} {ds : List D} {d : D} : forK gm mb ds (.rt d) = .ok (.rt d) := (rfl)
theorem forK_bk {gm : D → Gm → Option Gm} {mb : Gm → T Fl} {ds : List D} : forK gm mb ds (.bk γ) = .ok (.nx γ) := (rfl)
/-- the end of a body -/
def endK : Fl → T D
  | .nx _ => .ok .non
  | .rt d => .ok d
  | _ => .stuck
theorem endK_nx : endK (.nx γ) = .ok .non := (rfl)
theorem endK_rt {d : D} : endK (.rt d) = .ok d := (rfl)
theorem runB_ap {n N : Nat} {mb : Gm → T Fl} {ds : List D} (h : ds.length = n) : runB n N mb ds = (mb (ds.map SV.val ++ List.replicate (N - n) SV.no)).bind endK := by
  unfold runB
  rw [if_pos h]
  congr 1
def endI (cl : Nat) : Fl → T (List (Str × D))
  | .nx γ => (match (γ[0]? : Option SV) with
    | some (SV.obj k gs) => if k = cl then T.ok gs else T.stuck
    | _ => T.stuck)
  | _ => T.stuck
theorem endI_nx {cl : Nat} {gs : List (Str × D)} {γ' : Gm} : endI cl (.nx (.obj cl gs :: γ')) = .ok gs := by
  show (if cl = cl then T.ok gs else T.stuck) = _
  rw [if_pos rfl]
theorem initB_ap {n N cl : Nat} {mb : Gm → T Fl} {ds : List D} (h : ds.length = n) : initB n N cl mb ds = (mb (SV.obj cl [] :: (ds.map SV.val ++ List.replicate (N - n) SV.no))).bind (endI cl) := by
  unfold initB
  rw [if_pos h]
  congr 1
theorem posM_ap {n : Nat} {r : List D → T D} {dds ds : List D} (h : ds.length = n) : posM n r dds ds = r (ds ++ dds) := by unfold posM; rw [if_pos h]
theorem posI_ap {n : Nat} {r : List D → T (List (Str × D))} {dds ds : List D} (h : ds.length = n) : posI n r dds ds = r (ds ++ dds) := by unfold posI; rw [if_pos h]
theorem kwM_ap {n l : Nat} {r : List D → T D} {gD : List D → List D → List D} {ds : List D} (h : ds.length = n + l) : kwM n l r gD ds = r (gD (ds.take n) (ds.drop n)) := by unfold kwM; rw [if_pos h]
theorem kwI_ap {n l : Nat} {r : List D → T (List (Str × D))} {gD : List D → List D → List D} {ds : List D} (h : ds.length = n + l) : kwI n l r gD ds = r (gD (ds.take n) (ds.drop n)) := by unfold kwI; rw [if_pos h]
theorem drawM_ap {n : Int} : drawM [.pen, .int n] = .draw n fun d => .ok (.int d) := (rfl)
theorem aStar1_ap : aStar1 m γ = (m γ).bind seqOf := (rfl)
end
def zip2K : List D → T (List D)
  | [.lst xs, .lst ys] => .ok (zipD xs ys)
  | [.tup xs, .tup ys] => .ok (zipD xs ys)
  | _ => .stuck
theorem iZip2_ap {γ : Gm} {m1 m2 : Gm → T RV} : iZip2 m1 m2 γ = (m1 γ).bind fun x => (asD x).bind fun d => (m2 γ).bind fun y => (asD y).bind fun e => zip2K [d, e] := by
  show ((aCons m1 (aCons m2 aNil) γ).bind zip2K) = _
  simp only [aCons_ap, aNil_ap, T.bind_assoc, ok_bind]
theorem zip2K_lst {a b : List D} : zip2K [.lst a, .lst b] = .ok (zipD a b) := (rfl)
theorem zip2K_tup {a b : List D} : zip2K [.tup a, .tup b] = .ok (zipD a b) := (rfl)
def rng1K : RV → T (List D) := fun x => match x.d with
  | .int n => if -(2 ^ 62) ≤ n ∧ n < 2 ^ 62 then .ok (rngD 0 n.toNat) else .stuck
  | _ => .stuck
theorem iRng1_bd {γ : Gm} {m1 : Gm → T RV} : DL.iRng1 m1 γ = (m1 γ).bind rng1K := (rfl)
theorem rng1K_int {n : Int} (h : n < 1000000000000) (h0 : -1000000000000 < n) : rng1K (.val (.int n)) = .ok (rngD 0 n.toNat) := by
  unfold rng1K
  simp only [RV.d]
  rw [if_pos ⟨by omega, by omega⟩]
def rng2K (x y : RV) : T (List D) := match x.d, y.d with
  | .int a, .int b => if (-(2 ^ 62) ≤ a ∧ a < 2 ^ 62) ∧ -(2 ^ 62) ≤ b ∧ b < 2 ^ 62 then .ok (rngD a (b - a).toNat) else .stuck
  | _, _ => .stuck
theorem iRng2_bd {γ : Gm} {m1 m2 : Gm → T RV} : DL.iRng2 m1 m2 γ = (m1 γ).bind fun x => (m2 γ).bind fun y => rng2K x y := (rfl)
theorem rng2K_int {a b : Int} (h : a < 1000000000000) (h0 : -1000000000000 < a) (h2 : b < 1000000000000) (h3 : -1000000000000 < b) : rng2K (.val (.int a)) (.val (.int b)) = .ok (rngD a (b - a).toNat) := by
  unfold rng2K
  simp only [RV.d]
  rw [if_pos ⟨⟨by omega, by omega⟩, by omega, by omega⟩]
def rngLK (x y : RV) : T (List D) := match x.d, y.d with
  | .int a, .int b => .ok (rngD a (b - a).toNat)
  | _, _ => .stuck
theorem iRngL_bd {γ : Gm} {m1 m2 : Gm → T RV} : DL.iRngL m1 m2 γ = (m1 γ).bind fun x => (m2 γ).bind fun y => rngLK x y := (rfl)
theorem rngLK_int {a b : Int} : rngLK (.val (.int a)) (.val (.int b)) = .ok (rngD a (b - a).toNat) := (rfl)
theorem mLzip_ap {γ : Gm} {m1 m2 : Gm → T RV} : mLzip m1 m2 γ = (aCons m1 (aCons m2 aNil) γ).bind zipLK := (rfl)
theorem zipLK_lst {a b : List D} (h : a.length ≤ 1000000) : zipLK [.lst a, .lst b] = .ok (.val (.lst (zipD a b))) := by
  unfold zipLK
  simp only
  rw [if_pos h, okV_eq]
theorem gPow_int {a b : Int} (h0 : 0 ≤ b) (h1 : b ≤ 1000000) (h2 : -1000000 ≤ a) (h3 : a ≤ 1000000) : gPow (.val (.int a)) (.val (.int b)) = .ok (.val (.int (a ^ b.toNat))) := by
  unfold gPow
  simp only [RV.d]
  rw [if_pos ⟨h0, h1, by omega⟩, okV_eq]
/-! ### sequences that are lists or tuples -/
def sqD : Bool → List D → D
  | true, xs => .tup xs
  | false, xs => .lst xs
theorem gLen_sq {b : Bool} {xs : List D} : gLen (.val (sqD b xs)) = .ok (.val (.int xs.length)) := by cases b <;> rfl
theorem gList_sq {b : Bool} {xs : List D} : gList (.val (sqD b xs)) = .ok (.val (.lst xs)) := by cases b <;> rfl
theorem gTuple_sq {b : Bool} {xs : List D} : gTuple (.val (sqD b xs)) = .ok (.val (.tup xs)) := by cases b <;> rfl
theorem gSl_sq {b : Bool} {xs : List D} {lo hi : Option Int} : gSl (.val (sqD b xs)) lo hi = .ok (.val (sqD b (cutD xs lo hi))) := by cases b <;> rfl
theorem asIt_sq {b : Bool} {xs : List D} : asIt (.val (sqD b xs)) = .ok xs := by cases b <;> rfl
theorem seqOf_sq {b : Bool} {xs : List D} : seqOf (.val (sqD b xs)) = .ok xs := by cases b <;> rfl
/-! ### Al -/
/-- at most m draws; no exception; all ends are so -/
structure Al {α : Type} (t : T α) (m : Nat) (P : α → Prop) : Prop where
  h : ∀ j, j + m ≤ 1000000 → t.All j (fun j' a => j' ≤ j + m ∧ P a) (fun _ _ => False)
section
variable {α β : Type} {t : T α} {f : α → T β} {m m' m1 m2 : Nat} {P P' : α → Prop} {Q : β → Prop}
theorem Al.ok {a : α} (h : P a) : Al (.ok a) m P := ⟨fun j hj => ⟨by omega, h⟩⟩
theorem Al.of_eq {a : α} (e : t = .ok a) (h : P a) : Al t m P := by rw [e]; exact .ok h
theorem Al.imp (a : Al t m P) (h : ∀ x, P x → P' x) : Al t m P' := ⟨fun j hj => (a.h j hj).imp (fun j' x q => ⟨q.1, h x q.2⟩) fun _ _ z => z⟩
theorem Al.mono (a : Al t m P) (h : m ≤ m') : Al t m' P := ⟨fun j hj => (a.h j (by omega)).imp (fun j' x q => ⟨by omega, q.2⟩) fun _ _ z => z⟩
theorem Al.bindw (m1 m2 : Nat) (hm : m1 + m2 ≤ m) (a : Al t m1 P) (h : ∀ x, P x → Al (f x) m2 Q) : Al (t.bind f) m Q := ⟨fun j hj => by
  refine T.All.of_bind ((a.h j (by omega)).imp (fun j' x q => ?_) fun _ _ z => z)
  exact ((h x q.2).h j' (by omega)).imp (fun j2 y q2 => ⟨by omega, q2.2⟩) fun _ _ z => z⟩
theorem Al.bind (a : Al t m1 P) (h : ∀ x, P x → Al (f x) m2 Q) : Al (t.bind f) (m1 + m2) Q := .bindw m1 m2 (Nat.le_refl _) a h
theorem pow_big' : (1000000000000 : Int) < 2 ^ 1000 := by
  have h2 : (2 : Int) ^ 1000 = 2 ^ 60 * 2 ^ 940 := by rw [← Int.pow_add]
  have h3 : (1 : Int) ≤ 2 ^ 940 := (by have : (0 : Int) < 2 ^ 940 := Int.pow_pos (by decide); omega)
  rw [h2]
  calc (1000000000000 : Int) < 2 ^ 60 := by decide
    _ = 2 ^ 60 * 1 := (Int.mul_one _).symm
    _ ≤ 2 ^ 60 * 2 ^ 940 := Int.mul_le_mul_of_nonneg_left h3 (by decide)
theorem Al.draw {n : Int} {k : Int → T α} (h0 : 0 < n) (h1 : n ≤ 1000000000000) (h : ∀ d, 0 ≤ d → d < n → Al (k d) m P) : Al (.draw n k) (m + 1) P := ⟨fun j hj => ⟨by omega, h0, Int.lt_of_le_of_lt h1 pow_big', fun d d0 d1 => ((h d d0 d1).h (j + 1) (by omega)).imp (fun j' a q => ⟨by omega, q.2⟩) fun _ _ z => z⟩⟩
theorem calm_all {j : Nat} {P : Nat → α → Prop} : ∀ {t : T α} {j : Nat}, t.All j P (fun _ _ => False) → t.calm.All j P (fun _ _ => False)
  | .ok _, _, h => h
  | .exc _, _, h => h.elim
  | .stuck, _, h => h
  | .draw _ _, _, ⟨h1, h2, h3, h⟩ => ⟨h1, h2, h3, fun d a b => calm_all (j := j) (h d a b)⟩
theorem Al.calm (a : Al t m P) : Al t.calm m P := ⟨fun j hj => calm_all (j := j) (a.h j hj)⟩
end
/-- a for loop by what holds between two turns; k counts the turns -/
theorem for_al {gm : D → Gm → Option Gm} {mb : Gm → T Fl} (I : Gm → Prop) (m : Nat) : ∀ {ds : List D} {γ : Gm}, I γ →
    (∀ d ∈ ds, ∀ γ, I γ → ∃ γ1, gm d γ = some γ1 ∧ Al (mb γ1) m (fun fl => ∃ γ2, (fl = .nx γ2 ∨ fl = .ct γ2) ∧ I γ2)) →
    Al (forD gm mb ds γ) (m * ds.length) (fun fl => ∃ γ2, fl = .nx γ2 ∧ I γ2)
  | [], γ, h, _ => .ok ⟨γ, rfl, h⟩
  | d :: ds, γ, h, st => by
    obtain ⟨γ1, e, q⟩ := st d (.head _) γ h
    rw [forD_cons e]
    refine .bindw m (m * ds.length) (by rw [List.length_cons, Nat.mul_add]; omega) q fun fl ⟨γ2, q2, q3⟩ => ?_
    have go := for_al I m (γ := γ2) q3 fun d hd => st d (.tail _ hd)
    rcases q2 with rfl | rfl
    · rw [forK_nx]; exact go
    · rw [forK_ct]; exact go
/-- a comprehension without tests, with draws -/
theorem lc_al {gm : D → Gm → Option Gm} {te : Gm → T RV} {γ : Gm} (R : D → Prop) (m : Nat) : ∀ {ds acc : List D}, (∀ d ∈ ds, ∃ γ1, gm d γ = some γ1 ∧ Al (te γ1) m (fun x => ∃ y, x = .val y ∧ R y)) → ds.length + acc.length ≤ 1000000 →
    Al (lcD gm tYesM te γ ds acc) (m * ds.length) (fun out => ∃ ys, out = acc ++ ys ∧ ys.length = ds.length ∧ ∀ y ∈ ys, R y)
  | [], acc, _, _ => .ok ⟨[], by simp, rfl, by simp⟩
  | d :: ds, acc, h, hl => by
    obtain ⟨γ1, e, q⟩ := h d (.head _)
    rw [List.length_cons] at hl
    unfold lcD
    rw [e]
    show Al ((te γ1).bind _) _ _
    refine .bindw m (m * ds.length) (by rw [List.length_cons, Nat.mul_add]; omega) q fun x ⟨y, hx, hy⟩ => ?_
    subst hx
    rw [asD_val, ok_bind, if_pos (by omega)]
    refine (lc_al R m (acc := acc ++ [y]) (fun d hd => h d (.tail _ hd)) (by rw [List.length_append, List.length_singleton]; omega)).imp fun out ⟨ys, h1, h2, h3⟩ => ?_
    exact ⟨y :: ys, by rw [h1, List.append_assoc]; rfl, by simp [h2], fun z hz => by
      rcases List.mem_cons.mp hz with rfl | hz
      · exact hy
      · exact h3 z hz⟩
/-! ### numbers that are not too big -/
structure Big (a : Int) : Prop where
  h : a.natAbs < 2 ^ 3000
structure Med (a : Int) : Prop where
  h : a.natAbs < 2 ^ 1000
theorem p70 : (10 : Nat) ^ 200 < 2 ^ 1000 := by
  have h : (10 : Nat) ^ 200 < 16 ^ 200 := Nat.pow_lt_pow_left (by omega) (by omega)
  have e : (16 : Nat) ^ 200 = 2 ^ (4 * 200) := by rw [Nat.pow_mul]
  rw [e] at h
  exact Nat.lt_of_lt_of_le h (Nat.pow_le_pow_right (by omega) (by omega))
theorem Med.le {a : Int} (h : a.natAbs ≤ 10 ^ 200) : Med a := ⟨Nat.lt_of_le_of_lt h p70⟩
theorem Med.small {a : Int} (h0 : -1000000000000000000000000 ≤ a) (h : a ≤ 1000000000000000000000000) : Med a := .le (Nat.le_trans (show a.natAbs ≤ 1000000000000000000000000 by omega) (show 10 ^ 24 ≤ 10 ^ 200 from Nat.pow_le_pow_right (by omega) (by omega)))
theorem Med.big {a : Int} (h : Med a) : Big a := ⟨Nat.lt_of_lt_of_le h.h (Nat.pow_le_pow_right (by omega) (by omega))⟩
theorem Big.small {a : Int} (h0 : -1000000000000000000000000 ≤ a) (h : a ≤ 1000000000000000000000000) : Big a := (Med.small h0 h).big
theorem gMulA_Big {a b : Int} (h : Big a) (h2 : Big b) : gMulA (.val (.int a)) (.val (.int b)) = .ok (.val (.int (a * b))) := gMulA_int h.h h2.h
theorem gDivW_Med {a b : Int} (h : 0 < b) (h2 : Med b) : gDivW (.val (.int a)) (.val (.int b)) = .ok (.val (.int (a / b))) := gDivW_int h h2.h
theorem gBinO_ii {tbl rtb : List (Nat × (List D → T D))} {g0 : RV → RV → T RV} {a b : Int} : gBinO tbl rtb g0 (.val (.int a)) (.val (.int b)) = g0 (.val (.int a)) (.val (.int b)) := (rfl)
theorem gBinO_ib {tbl rtb : List (Nat × (List D → T D))} {g0 : RV → RV → T RV} {a : Int} {b : Bool} : gBinO tbl rtb g0 (.val (.int a)) (.val (.bl b)) = g0 (.val (.int a)) (.val (.bl b)) := (rfl)
theorem gBinO_lst {tbl rtb : List (Nat × (List D → T D))} {g0 : RV → RV → T RV} {a : List D} {b : List D} : gBinO tbl rtb g0 (.val (.lst a)) (.val (.lst b)) = g0 (.val (.lst a)) (.val (.lst b)) := (rfl)
theorem gBinO_tup {tbl rtb : List (Nat × (List D → T D))} {g0 : RV → RV → T RV} {a : List D} {b : List D} : gBinO tbl rtb g0 (.val (.tup a)) (.val (.tup b)) = g0 (.val (.tup a)) (.val (.tup b)) := (rfl)
theorem gBinO_str {tbl rtb : List (Nat × (List D → T D))} {g0 : RV → RV → T RV} {a : Str} {b : Str} : gBinO tbl rtb g0 (.val (.str a)) (.val (.str b)) = g0 (.val (.str a)) (.val (.str b)) := (rfl)
theorem gBinO_li {tbl rtb : List (Nat × (List D → T D))} {g0 : RV → RV → T RV} {a : List D} {b : Int} : gBinO tbl rtb g0 (.val (.lst a)) (.val (.int b)) = g0 (.val (.lst a)) (.val (.int b)) := (rfl)
theorem gBinO_ti {tbl rtb : List (Nat × (List D → T D))} {g0 : RV → RV → T RV} {a : List D} {b : Int} : gBinO tbl rtb g0 (.val (.tup a)) (.val (.int b)) = g0 (.val (.tup a)) (.val (.int b)) := (rfl)
theorem gBinO_si {tbl rtb : List (Nat × (List D → T D))} {g0 : RV → RV → T RV} {a : Str} {b : Int} : gBinO tbl rtb g0 (.val (.str a)) (.val (.int b)) = g0 (.val (.str a)) (.val (.int b)) := (rfl)
theorem gBinO_il {tbl rtb : List (Nat × (List D → T D))} {g0 : RV → RV → T RV} {a : Int} {b : List D} : gBinO tbl rtb g0 (.val (.int a)) (.val (.lst b)) = g0 (.val (.int a)) (.val (.lst b)) := (rfl)
theorem gBinO_is {tbl rtb : List (Nat × (List D → T D))} {g0 : RV → RV → T RV} {a : Int} {b : Str} : gBinO tbl rtb g0 (.val (.int a)) (.val (.str b)) = g0 (.val (.int a)) (.val (.str b)) := (rfl)
theorem gBinO_bi {tbl rtb : List (Nat × (List D → T D))} {g0 : RV → RV → T RV} {a : Bool} {b : Int} : gBinO tbl rtb g0 (.val (.bl a)) (.val (.int b)) = g0 (.val (.bl a)) (.val (.int b)) := (rfl)
theorem gBinO_bb {tbl rtb : List (Nat × (List D → T D))} {g0 : RV → RV → T RV} {a : Bool} {b : Bool} : gBinO tbl rtb g0 (.val (.bl a)) (.val (.bl b)) = g0 (.val (.bl a)) (.val (.bl b)) := (rfl)
theorem rgK_int {n : Int} (h : -1000000 ≤ n) (h1 : n ≤ 1000000) : rgK (.val (.int n)) = .ok (.val (.lst (rngD 0 n.toNat))) := by
  unfold rgK
  simp only
  rw [if_pos ⟨h, h1⟩, okV_eq]
theorem rgK2_int {a b : Int} (h : -1000000 ≤ a) (h1 : a ≤ 1000000) (h2 : -1000000 ≤ b) (h3 : b ≤ 1000000) : rgK2 (.val (.int a)) (.val (.int b)) = .ok (.val (.lst (rngD a (b - a).toNat))) := by
  unfold rgK2
  simp only
  rw [if_pos ⟨h, h1, h2, h3⟩, okV_eq]
theorem mProp_ap {tbl : List (Nat × (List D → T D))} {m : Gm → T RV} {γ : Gm} : mProp tbl m γ = (m γ).bind fun x => (asD x).bind fun d => (methM tbl [d]).calm.bind okV := (rfl)
theorem mJoin_ap {mo m : Gm → T RV} {γ : Gm} : mJoin mo m γ = (mo γ).bind fun x => (asStr x).bind fun a => (m γ).bind fun y => gJoin a y := (rfl)
theorem mSplit_ap {mo m : Gm → T RV} {γ : Gm} : mSplit mo m γ = (mo γ).bind fun x => (asStr x).bind fun a => (m γ).bind fun y => gSplit a y := (rfl)
theorem asStr_str {a : Str} : asStr (.val (.str a)) = .ok a := (rfl)
theorem iEnum_ap {m : Gm → T RV} {γ : Gm} : DL.iEnum m γ = (m γ).bind fun x => (asD x).bind fun d => enumK [d] := by
  show (aCons m aNil γ).bind enumK = _
  simp only [aCons_ap, aNil_ap, T.bind_assoc, ok_bind]
theorem enumK_lst {a : List D} : enumK [.lst a] = .ok (enumD a) := (rfl)
theorem enumK_tup {a : List D} : enumK [.tup a] = .ok (enumD a) := (rfl)
theorem enumK_sq {b : Bool} {a : List D} : enumK [sqD b a] = .ok (enumD a) := by cases b <;> rfl
def augOK (i : Nat) (tbl : List (Nat × (List D → T D))) (m : Gm → T RV) (m0 : Gm → T Fl) (γ : Gm) : Option SV → T Fl
  | some (.val (.ins n gs)) => (m γ).bind fun x => (asD x).bind fun y => augO i γ tbl (.ins n gs) y
  | _ => m0 γ
theorem mAugO_ap {i : Nat} {tbl : List (Nat × (List D → T D))} {m : Gm → T RV} {m0 : Gm → T Fl} {γ : Gm} : mAugO i tbl m m0 γ = augOK i tbl m m0 γ γ[i]? := (rfl)
theorem augOK_int {i : Nat} {a : Int} {tbl : List (Nat × (List D → T D))} {m : Gm → T RV} {m0 : Gm → T Fl} {γ : Gm} : augOK i tbl m m0 γ (some (.val (.int a))) = m0 γ := (rfl)
theorem gLenO_lst {tb : List (Nat × (List D → T D))} {a : List D} : gLenO tb (.val (.lst a)) = gLen (.val (.lst a)) := (rfl)
theorem gLenO_tup {tb : List (Nat × (List D → T D))} {a : List D} : gLenO tb (.val (.tup a)) = gLen (.val (.tup a)) := (rfl)
theorem gLenO_brw {tb : List (Nat × (List D → T D))} {a : List D} : gLenO tb (.brw a) = gLen (.brw a) := (rfl)
theorem gInC_lst {neg : Bool} {tb : List (Nat × (List D → T D))} {g0 : RV → RV → T RV} {y : RV} {a : List D} : gInC neg tb g0 y (.val (.lst a)) = g0 y (.val (.lst a)) := by cases y <;> rfl
theorem gInC_tup {neg : Bool} {tb : List (Nat × (List D → T D))} {g0 : RV → RV → T RV} {y : RV} {a : List D} : gInC neg tb g0 y (.val (.tup a)) = g0 y (.val (.tup a)) := by cases y <;> rfl
theorem gInC_str {neg : Bool} {tb : List (Nat × (List D → T D))} {g0 : RV → RV → T RV} {y : RV} {a : Str} : gInC neg tb g0 y (.val (.str a)) = g0 y (.val (.str a)) := by cases y <;> rfl
theorem inE_bl {neg b : Bool} : inE neg (.bl b) = .ok (.val (.bl (b != neg))) := (rfl)
theorem gDvm_int {i j : Int} (h0 : 0 < j) (h1 : j < 1073741824) : gDvm (.val (.int i)) (.val (.int j)) = .ok (.val (.tup [.int (i / j), .int (i % j)])) := by
  unfold gDvm
  simp only
  rw [if_pos ⟨h0, h1⟩, okV_eq]
def parM3 (i k l : Nat) (γ : Gm) : List MV → T Fl
  | [a, b, d] => .ok (.nx (((γ.set i a.sv).set k b.sv).set l d.sv))
  | _ => .stuck
theorem mParM3_ap {i k l : Nat} {mm : Gm → T (List MV)} {γ : Gm} : mParM3 i k l mm γ = (mm γ).bind (parM3 i k l γ) := (rfl)
theorem parM3_ok {i k l : Nat} {γ : Gm} {a b d : MV} : parM3 i k l γ [a, b, d] = .ok (.nx (((γ.set i a.sv).set k b.sv).set l d.sv)) := (rfl)
def makeV (n : Nat) (mi : List D → T (List (Str × D))) (ms : Gm → T (List D)) (γ : Gm) : Option SV → T RV
  | some (.val (.cls m)) => if m = n then mMake n mi ms γ else .stuck
  | _ => .stuck
theorem mMakeV_ap {i n : Nat} {mi : List D → T (List (Str × D))} {ms : Gm → T (List D)} {γ : Gm} : mMakeV i n mi ms γ = makeV n mi ms γ γ[i]? := (rfl)
theorem makeV_ok {n : Nat} {mi : List D → T (List (Str × D))} {ms : Gm → T (List D)} {γ : Gm} : makeV n mi ms γ (some (.val (.cls n))) = mMake n mi ms γ := by
  show (if n = n then _ else _) = _
  rw [if_pos rfl]
theorem iZipTL_ap {γ : Gm} {m1 m2 : Gm → T RV} : iZipTL m1 m2 γ = (m1 γ).bind fun x => (asD x).bind fun d => (m2 γ).bind fun y => (asD y).bind fun e => zipMK [d, e] := by
  show ((aCons m1 (aCons m2 aNil) γ).bind zipMK) = _
  simp only [aCons_ap, aNil_ap, T.bind_assoc, ok_bind]
theorem zipMK_ok {a b : List D} : zipMK [.tup a, .lst b] = .ok (zipD a b) := (rfl)
/-! ### the tactic -/
end DL
/-! DQ4: numbers that are not too big; sequences of ints; what is missing in me. -/
namespace DL
open PySem PySem.Spec L2 GM
theorem forD_name {i : Nat} {mb : Gm → T Fl} {d : D} {ds : List D} {γ : Gm} : forD (gmName i) mb (d :: ds) γ = (mb (γ.set i (.val d))).bind (forK (gmName i) mb ds) := forD_cons rfl
theorem forD_t2 {i j : Nat} {mb : Gm → T Fl} {a b : D} {ds : List D} {γ : Gm} : forD (gmTup 2 (gmCons (gmName i) (gmCons (gmName j) gmNil))) mb (.tup [a, b] :: ds) γ = (mb ((γ.set i (.val a)).set j (.val b))).bind (forK (gmTup 2 (gmCons (gmName i) (gmCons (gmName j) gmNil))) mb ds) := forD_cons rfl
theorem starM_ap {α : Type} {n : Nat} {r : List D → T α} {ds : List D} (h : n ≤ ds.length) (h2 : ds.length ≤ 1000000) : starM n r ds = r (ds.take n ++ [.tup (ds.drop n)]) := by unfold starM; rw [if_pos ⟨h, h2⟩]
theorem lcD_name {i : Nat} {te : Gm → T RV} {γ : Gm} {d : D} {ds acc : List D} : lcD (gmName i) tYesM te γ (d :: ds) acc = (te (γ.set i (.val d))).bind fun x => (asD x).bind fun y => if acc.length < 1000000 then lcD (gmName i) tYesM te γ ds (acc ++ [y]) else .stuck := (rfl)
theorem ix_l0 {a : D} {as : List D} : gIx (.val (.lst (a :: as))) (.val (.int 0)) = .ok (.val a) := by
  have e1 : atI (a :: as) 0 = some a := by
    unfold atI ixN
    rw [if_pos (by omega), if_pos (by rw [List.length_cons]; omega)]
    rfl
  unfold gIx
  simp only [RV.d, e1, okV_eq]
theorem ix_l1 {a b : D} {as : List D} : gIx (.val (.lst (a :: b :: as))) (.val (.int 1)) = .ok (.val b) := by
  have e1 : atI (a :: b :: as) 1 = some b := by
    unfold atI ixN
    rw [if_pos (by omega), if_pos (by rw [List.length_cons, List.length_cons]; omega)]
    rfl
  unfold gIx
  simp only [RV.d, e1, okV_eq]
theorem ix_l2 {a b c : D} {as : List D} : gIx (.val (.lst (a :: b :: c :: as))) (.val (.int 2)) = .ok (.val c) := by
  have e1 : atI (a :: b :: c :: as) 2 = some c := by
    unfold atI ixN
    rw [if_pos (by omega), if_pos (by rw [List.length_cons, List.length_cons, List.length_cons]; omega)]
    rfl
  unfold gIx
  simp only [RV.d, e1, okV_eq]
end DL
/-! DQ5: equality of data, repr of ints in tuples. -/
namespace DL
open PySem PySem.Spec L2 GM
/-- as Python compares -/
def D.eqv (a b : D) : Bool := match a.py, b.py with
  | some p, some q => PyData.eqv p q
  | _, _ => false
section
variable {Y : IsT} {tb : List (Nat × (List D → T D))} {y : RV}
theorem gEqO_int {a : Int} : gEqO Y tb (.val (.int a)) y = gEqD (.val (.int a)) y := (rfl)
theorem gEqO_str {a : Str} : gEqO Y tb (.val (.str a)) y = gEqD (.val (.str a)) y := (rfl)
theorem gEqO_lst {a : List D} : gEqO Y tb (.val (.lst a)) y = gEqD (.val (.lst a)) y := (rfl)
theorem gNeO_int {a : Int} : gNeO Y tb (.val (.int a)) y = gNeD (.val (.int a)) y := (rfl)
theorem gNeO_str {a : Str} : gNeO Y tb (.val (.str a)) y = gNeD (.val (.str a)) y := (rfl)
end
theorem gEqD_nil {a : List Int} : gEqD (.val (.lst (List.map DL.D.int (a)))) (.val (.lst [])) = .ok (.val (.bl (decide (a = [])))) := gEqD_lst a []
/-- a for loop, its turns counted -/
theorem for_alN {gm : D → Gm → Option Gm} {mb : Gm → T Fl} (I : Nat → Gm → Prop) (m : Nat) : ∀ {ds : List D} {γ : Gm} (i : Nat), I i γ →
    (∀ k d γ, ds[k]? = some d → I (i + k) γ → ∃ γ1, gm d γ = some γ1 ∧ Al (mb γ1) m (fun fl => ∃ γ2, (fl = .nx γ2 ∨ fl = .ct γ2) ∧ I (i + k + 1) γ2)) →
    Al (forD gm mb ds γ) (m * ds.length) (fun fl => ∃ γ2, fl = .nx γ2 ∧ I (i + ds.length) γ2)
  | [], γ, i, h, _ => .ok ⟨γ, rfl, h⟩
  | d :: ds, γ, i, h, st => by
    obtain ⟨γ1, e, q⟩ := st 0 d γ rfl h
    rw [forD_cons e]
    refine .bindw m (m * ds.length) (by rw [List.length_cons, Nat.mul_add]; omega) q fun fl ⟨γ2, q2, q3⟩ => ?_
    have go := for_alN I m (ds := ds) (γ := γ2) (i + 1) q3 fun k d γ hd hI => by
      have e : i + 1 + k = i + (k + 1) := by omega
      rw [e] at hI ⊢
      exact st (k + 1) d γ (by simpa using hd) hI
    have go2 := go.imp (P' := fun fl => ∃ γ2, fl = .nx γ2 ∧ I (i + (d :: ds).length) γ2) fun fl ⟨γ3, h1, h2⟩ => ⟨γ3, h1, by
      have e : i + (d :: ds).length = i + 1 + ds.length := by rw [List.length_cons]; omega
      rw [e]; exact h2⟩
    rcases q2 with rfl | rfl
    · rw [forK_nx]; exact go2
    · rw [forK_ct]; exact go2
theorem rngD_len {lo : Int} {n : Nat} : (rngD lo n).length = n := by unfold rngD; simp
theorem gIx_at {ds : List D} {k : Nat} (h : k < ds.length) : gIx (.val (.lst ds)) (.val (.int (k : Int))) = .ok (.val ds[k]) := by
  have e1 : atI ds (k : Int) = some ds[k] := by
    unfold atI ixN
    rw [if_pos (by omega), if_pos (by omega), Option.bind_some, Int.toNat_natCast, List.getElem?_eq_getElem (by omega)]
  unfold gIx
  simp only [RV.d, e1, okV_eq]
theorem ix0_tup {a : D} {as : List D} : gIx (.val (.tup (a :: as))) (.val (.int 0)) = .ok (.val a) := by
  have e1 : atI (a :: as) 0 = some a := by
    unfold atI ixN
    rw [if_pos (by omega), if_pos (by rw [List.length_cons]; omega)]
    rfl
  unfold gIx
  simp only [RV.d, e1, okV_eq]
theorem ix1_tup {a b : D} {as : List D} : gIx (.val (.tup (a :: b :: as))) (.val (.int 1)) = .ok (.val b) := by
  have e1 : atI (a :: b :: as) 1 = some b := by
    unfold atI ixN
    rw [if_pos (by omega), if_pos (by rw [List.length_cons, List.length_cons]; omega)]
    rfl
  unfold gIx
  simp only [RV.d, e1, okV_eq]
end DL
/-! DQ6: repr of ints in tuples and lists. -/
namespace DL
open PySem PySem.Spec L2 GM
def SmI (i : Int) : Prop := 0 ≤ i ∧ i < 10000000000000000000000000000000000000000000000000000000000000000000000
theorem shownI_len {i : Int} (h : SmI i) : (PyData.shown (.int i)).length ≤ 70 := by
  obtain ⟨n, rfl⟩ := Int.eq_ofNat_of_zero_le h.1
  have h2 := h.2
  show (Str.ofString (toString ((n : Nat) : Int))).cps.size ≤ 70
  exact PyProof.Rows.toString_length_le (by omega) (by omega) (by omega)
theorem log_sm {i : Int} (h : SmI i) : i.natAbs.log2 < 1920 := by
  obtain ⟨h0, h1⟩ := h
  by_cases z : i.natAbs = 0
  · rw [z]; decide
  · rw [Nat.log2_lt z]
    exact Nat.lt_of_lt_of_le (show i.natAbs < 2 ^ 240 by omega) (Nat.pow_le_pow_right (by omega) (by omega))
theorem len_app (a b : Str) : (a ++ b).length = a.length + b.length := by
  show (a.cps ++ b.cps).size = _
  exact Array.size_append
/-! x[i] = e on an own list -/
def ixsE (k : Nat) (γ : Gm) (ds : List D) (d : D) (y : RV) : T Fl := match y.d with
  | .int i => (match setAt ds i d with
    | some es => .ok (.nx (γ.set k (.own es)))
    | none => .stuck)
  | _ => .stuck
def ixsK (k : Nat) (mi m : Gm → T RV) (γ : Gm) : Option SV → T Fl
  | some (.own ds) => (m γ).bind fun x => (asD x).bind fun d => (mi γ).bind fun y => ixsE k γ ds d y
  | _ => .stuck
theorem mIxS_ap {k : Nat} {mi m : Gm → T RV} {γ : Gm} : mIxS k mi m γ = ixsK k mi m γ γ[k]? := (rfl)
theorem ixsK_own {k : Nat} {mi m : Gm → T RV} {γ : Gm} {ds : List D} : ixsK k mi m γ (some (.own ds)) = (m γ).bind fun x => (asD x).bind fun d => (mi γ).bind fun y => ixsE k γ ds d y := (rfl)
theorem ixsE_at {k : Nat} {γ : Gm} {ds : List D} {d : D} {i : Int} (h0 : 0 ≤ i) (h1 : i < ds.length) : ixsE k γ ds d (.val (.int i)) = .ok (.nx (γ.set k (.own (ds.set i.toNat d)))) := by
  unfold ixsE
  simp only [RV.d]
  have e : setAt ds i d = some (ds.set i.toNat d) := by
    unfold setAt ixN
    rw [if_pos h0, if_pos h1]
  rw [e]
theorem gNeD_str {a b : Str} : gNeD (.val (.str a)) (.val (.str b)) = .ok (.val (.bl (!decide (a = b)))) := (rfl)
end DL
/-! GT0: the texts of numbers. -/
namespace DL
open PySem PySem.Spec L2 PySem.NumText PyProof.Rows
/-- the text of a number -/
def nt (n : Nat) : Str := Str.ofString (toString (n : Int))
end DL
/-! DP3: the second shape of _law_draw (written by mkdp3.py out of DP0 - DP2). -/
namespace DL
open PySem PySem.Spec L2
open PyProof.Rows
end DL
/-! DS0: sorted(set(xs)), len(set(xs)), xs a list of ints or of texts: what the set of a list is, for any kind of keys. -/
namespace DL
open PySem PySem.Spec L2
open PyProof.Rows
/-! ### one of each -/
section
variable {K : Type} [DecidableEq K]
/-! ### sorted, by any total order -/
def gins (le : K → K → Bool) (a : K) : List K → List K
  | [] => [a]
  | b :: bs => if le a b = true then a :: b :: bs else b :: gins le a bs
def gsort (le : K → K → Bool) : List K → List K
  | [] => []
  | a :: as => gins le a (gsort le as)
/-- a total order -/
structure TotO (le : K → K → Bool) : Prop where
  tot : ∀ a b, le a b = true ∨ le b a = true
  tr : ∀ a b c, le a b = true → le b c = true → le a c = true
  anti : ∀ a b, le a b = true → le b a = true → a = b
variable {le : K → K → Bool}
theorem gins_perm (a : K) : ∀ bs : List K, (gins le a bs).Perm (a :: bs)
  | [] => .refl _
  | b :: bs => by
    unfold gins
    split
    · exact .refl _
    · exact ((gins_perm a bs).cons b).trans (.swap a b bs)
theorem gsort_perm : ∀ as : List K, (gsort le as).Perm as
  | [] => .refl _
  | a :: as => (gins_perm a (gsort le as)).trans ((gsort_perm as).cons a)
theorem gins_sorted (O : TotO le) (a : K) : ∀ {bs : List K}, bs.Pairwise (fun x y => le x y = true) → (gins le a bs).Pairwise (fun x y => le x y = true)
  | [], _ => by simp [gins]
  | b :: bs, h => by
    obtain ⟨h1, h2⟩ := List.pairwise_cons.mp h
    unfold gins
    split
    · rename_i hab
      refine List.pairwise_cons.mpr ⟨fun x hx => ?_, h⟩
      rcases List.mem_cons.mp hx with rfl | hx
      · exact hab
      · exact O.tr _ _ _ hab (h1 x hx)
    · rename_i hab
      refine List.pairwise_cons.mpr ⟨fun x hx => ?_, gins_sorted O a h2⟩
      rcases List.mem_cons.mp ((gins_perm a bs).mem_iff.mp hx) with rfl | hx
      · exact (O.tot b x).resolve_right hab
      · exact h1 x hx
theorem gsort_sorted (O : TotO le) : ∀ as : List K, (gsort le as).Pairwise (fun x y => le x y = true)
  | [] => .nil
  | a :: as => gins_sorted O a (gsort_sorted O as)
theorem gsorted_one (O : TotO le) : ∀ {as bs : List K}, as.Pairwise (fun x y => le x y = true) → bs.Pairwise (fun x y => le x y = true) → as.Perm bs → as = bs
  | [], bs, _, _, p => (List.Perm.nil_eq p)
  | a :: as, [], _, _, p => absurd p.length_eq (by simp)
  | a :: as, b :: bs, h1, h2, p => by
    obtain ⟨x1, y1⟩ := List.pairwise_cons.mp h1
    obtain ⟨x2, y2⟩ := List.pairwise_cons.mp h2
    have ha : a ∈ b :: bs := p.mem_iff.mp (.head _)
    have hb : b ∈ a :: as := p.mem_iff.mpr (.head _)
    have e : a = b := by
      rcases List.mem_cons.mp ha with e | ha
      · exact e
      · rcases List.mem_cons.mp hb with e | hb
        · exact e.symm
        · exact O.anti _ _ (x1 b hb) (x2 a ha)
    subst e
    rw [gsorted_one O y1 y2 (List.Perm.cons_inv p)]
end
/-! ### the kind of the keys -/
structure SK (P : Program) (w : World) (K : Type) [DecidableEq K] [BEq K] [LawfulBEq K] where
  knd : PySem.KeyKind P w K
  mkv : K → Tok → Value
  key : Value → K
  toV : K → V
  le : K → K → Bool
  ord : TotO le
  is : ∀ k t, knd.is k (mkv k t) = true
  sc : ∀ k t, (mkv k t).scannable = true
  iff : ∀ k k0 t, knd.is k (mkv k0 t) = true ↔ k0 = k
  kmk : ∀ k t, key (mkv k t) = k
  rel : ∀ k t, RelV (toV k) (mkv k t)
  ler : ∀ k v, RelV (toV k) v → ∃ t, v = mkv k t
  sort : ∀ {A : Around} {E : Value → Shared → Prop} {s : Shared} {a : Addr} {vs : List Value} {n : Nat} {R : PySem.Fin → Shared → Prop}, s.heap.get? a = some (seqObj "list" vs.toArray n) →
    (∀ v ∈ vs, ∃ k t, v = mkv k t) → vs.length ≤ sizeLine →
    (∀ out : Array Value, (∀ v ∈ out.toList, ∃ k t, v = mkv k t) → (out.toList.map key).Perm (vs.map key) → (out.toList.map key).Pairwise (fun a b => le a b = true) → R (.done (.ret .none)) { s with heap := sortedHeap s.heap a vs out }) →
    wpAny (model P w) A (Builtin.«list.sort» ⟨[.ref a], []⟩) R E s
def leS (a b : Str) : Bool := !ltCps b.cps.toList a.cps.toList
theorem leS_iff {a b : Str} : leS a b = true ↔ ¬ b.cps.toList < a.cps.toList := by
  unfold leS
  rw [ltCps_eq]
  simp
theorem ordS : TotO leS where
  tot a b := by
    rw [leS_iff, leS_iff]
    by_cases h : b.cps.toList < a.cps.toList
    · exact .inr (List.lt_asymm h)
    · exact .inl h
  tr a b c h1 h2 := by
    rw [leS_iff] at h1 h2 ⊢
    exact List.le_trans (l₁ := a.cps.toList) (l₂ := b.cps.toList) (l₃ := c.cps.toList) h1 h2
  anti a b h1 h2 := by
    rw [leS_iff] at h1 h2
    have e := List.le_antisymm (as := a.cps.toList) (bs := b.cps.toList) h1 h2
    obtain ⟨x⟩ := a
    obtain ⟨y⟩ := b
    have e' : x = y := Array.toList_inj.mp e
    rw [e']
theorem rising_pw : ∀ (p : Str) (l : List Str), risingS p l = true → (p :: l).Pairwise (fun a b => leS a b = true)
  | p, [], _ => List.pairwise_singleton _ _
  | p, x :: r, h => by
    have h' : (!ltCps x.cps.toList p.cps.toList && risingS x r) = true := h
    rw [Bool.and_eq_true] at h'
    have ih := rising_pw x r h'.2
    refine List.pairwise_cons.mpr ⟨fun y hy => ?_, ih⟩
    rcases List.mem_cons.mp hy with e | hy
    · rw [e]; exact h'.1
    · exact ordS.tr _ _ _ h'.1 ((List.pairwise_cons.mp ih).1 y hy)
theorem sortedS_pw : ∀ l : List Str, sortedS l = true → l.Pairwise (fun a b => leS a b = true)
  | [], _ => .nil
  | x :: r, h => rising_pw x r h
end DL
/-! DS1: the set of a list, at the heap: making, adding, sorting. -/
namespace DL
open PySem PySem.Spec L2
open PyProof.Rows
section
variable {P : Program} {w : World} {K : Type} [DecidableEq K] [BEq K] [LawfulBEq K] (Z : SK P w K)
def GoodK (e : Int × Value) : Prop := ∃ k tk, e.2 = Z.mkv k tk ∧ e.1 = Z.knd.hash k
abbrev kyK (e : Int × Value) : K := Z.key e.2
/-- the set of keys at a: S its members, n their number; its table rises and can be walked -/
def SetK (h : Heap) (a : Addr) (S : K → Bool) (n : Nat) : Prop :=
  ∃ o es ep t, h.get? a = some o ∧ o.ExactSet ∧ o.data = .set es ep t ∧ (∀ e ∈ es.toList, GoodK Z e) ∧ (es.toList.map (kyK Z)).Nodup ∧ (∀ k, S k = true ↔ k ∈ es.toList.map (kyK Z)) ∧
    es.size < scanBound ∧ t.fits es.size = true ∧ es.size = n ∧ Ris t.place.toList ∧ (w.params.followText "set-order" = true ∨ t.led = true)
variable {Z} {h h' : Heap} {a : Addr} {S : K → Bool} {n : Nat}
theorem SetK.at (R : SetK Z h a S n) (k : ∀ o, h.get? a = some o → h'.get? a = some o) : SetK Z h' a S n := by
  obtain ⟨o, es, ep, t, ho, r⟩ := R
  exact ⟨o, es, ep, t, k o ho, r⟩
end
end DL
/-! DS2: set(xs) of a list, sorted of such a set. -/
namespace DL
open PySem PySem.Spec L2
open PyProof.Rows
end DL
/-! DS3: sorted(set(e)), len(set(e)) as rules. -/
namespace DL
open PySem PySem.Spec L2
open PyProof.Rows
/-! ### as mirrors -/
section
variable {X : Cx} {c : Ct} {W : WX} {e : Expr} {m : Gm → T RV} {p p2 pos pos2 : Pos}
theorem dats_strsM {K : PySem.W.Frag} {F : Hp} : ∀ ns : List Str, Dats c K F (ns.map V.str) (ns.map D.str)
  | [] => .nil
  | n :: ns => .cons (.str n) (dats_strsM ns)
end
end DL
/-! DS4: any(..) of a list of ints. -/
namespace DL
open PySem PySem.Spec L2
open PyProof.Rows
end DL
/-! DS5: a walk over an instance whose __iter__ says `return iter(self.f)`, f a tuple. -/
namespace DL
open PySem PySem.Spec L2
open PyProof.Rows
/-- at it an iterator over the tuple at t, the next place is i -/
def ItOT (t it : Addr) (i : Nat) : HO := .ext fun h => h.IsTupleIter it t i
/-- what such an __iter__ does -/
def FnIt (P : Program) (w : World) (K : PySem.W.Frag) (mg : Str → Option Value) (base : Heap) (k : Nat) (fi : Addr) (fld : Str) : Prop :=
  ∀ (A : Around) (outer : List Env) (s : Shared) (H : Hp) (a C dx : Addr) (fs : List (Str × V)) (t : Addr) (xs : List V) (Q : VK) (E : XK), Room k A → Env0 P w K mg base A outer s H →
    H a = some (.ins C dx fs) → Cls K C → NoAttr K C fld → fs.lookup fld = some (.ref t) → SqT K H t xs → (∀ it, s.heap.objs.size ≤ it → H it = none → Q (.ref it) (upd H it (ItOT t it 0))) →
    codeAny (model P w) A (.call (.ref fi) ⟨[.ref a], []⟩) (CR (CX P w) outer P w H s Q E) s
section
variable {P : Program} {w : World} {K : PySem.W.Frag} {mg : Str → Option Value} {base : Heap}
theorem FnIt.mono {j k : Nat} {fi : Addr} {fld : Str} (F : FnIt P w K mg base j fi fld) (h : j ≤ k) : FnIt P w K mg base k fi fld := fun A outer s H a C dx fs t xs Q E hr => F A outer s H a C dx fs t xs Q E (hr.mono h)
end
/-! ### the walk -/
end DL
/-! DS6: sorted of a list of ints or of fewer than 64 texts. -/
namespace DL
open PySem PySem.Spec L2
open PyProof.Rows
section
variable {X : Cx} {c : Ct} {W : WX}
theorem cr_sortA : CallR X (.builtin "sorted") (fun vs H Q => rSortedI X.K vs H Q ∨ rSortedS X.K vs H Q) := by
  intro pins s σ H vs us Q I r h
  rcases h with h | h
  · exact cr_sortedI pins s σ H vs us Q I r h
  · exact cr_sortedS pins s σ H vs us Q I r h
def gSortA (x : RV) : T RV := match (lstD x.d).bind D.ints with
  | some ns => okV (.lst ((isort ns).map D.int))
  | none => match (lstD x.d).bind D.strs with
    | some xs => if xs.length < 64 then okV (.lst ((gsort leS xs).map D.str)) else .stuck
    | none => .stuck
theorem bi_sortA : Bi X c W (fun vs H Q => rSortedI X.K vs H Q ∨ rSortedS X.K vs H Q) gSortA := by
  intro σ H v Q F j d gd r h
  unfold gSortA at h
  split at h
  · rename_i ns e
    obtain ⟨a, vs, ds, rfl, h1, h2, h3⟩ := lst_view gd.sub r e
    refine .inl ⟨a, ns, rfl, by rw [← h2.ints h3]; exact SqL.of h1, fun ns' p hp hs hn => ?_⟩
    rw [sorted_one hs (isort_sorted ns) (hp.trans (isort_perm ns).symm)]
    exact h.lst gd (dats_intsM _) p hn
  · split at h
    · rename_i xs e
      split at h
      · rename_i hz
        obtain ⟨a, vs, ds, rfl, h1, h2, h3⟩ := lst_view gd.sub r e
        refine .inr ⟨a, xs, rfl, by rw [← h2.strs h3]; exact SqL.of h1, hz, fun ys p hp hs hn => ?_⟩
        rw [gsorted_one ordS (sortedS_pw ys hs) (gsort_sorted ordS xs) (hp.trans (gsort_perm xs).symm)]
        exact h.lst gd (dats_strsM _) p hn
      · exact h.elim
    · exact h.elim
end
end DL
/-! DS7: the truth of an instance by its own __len__. -/
namespace DL
open PySem PySem.Spec L2
open PyProof.Rows
end DL
/-! DS8: o[i] of an instance by its own __getitem__. -/
namespace DL
open PySem PySem.Spec L2
open PyProof.Rows
section
variable {X : Cx} {c : Ct} {W : WX} {a b : Expr} {ma mb : Gm → T RV} {k : Nat} {pos : Pos} {tbl : List (Nat × (List D → T D))}
def gIxO (tbl : List (Nat × (List D → T D))) (x y : RV) : T RV := match x with
  | .val (.ins n gs) => (match tbl.lookup n with
    | some mf => (match y with
      | .val d => (mf [.ins n gs, d]).bind okV
      | _ => .stuck)
    | none => .stuck)
  | x => gIx x y
theorem ix_rel {F H F' H' : Hp} {j : Nat} {dx dy : RV} {x y : V} {Q : VK} {E : Nat → Xc → Prop} (e : Ext c F H F' H') (g' : Good c F' H' j) (r1 : RDat c X.K F' H' x dx) (r2 : RDat c X.K F' H' y dy) (q : (gIx dx dy).All j (pE c X.K F H Q) E) : rIx X.K x y H' Q := by
  unfold gIx at q
  split at q
  · rename_i ds i e1 e2
    split at q
    · rename_i d ed
      obtain ⟨p, vs, rfl, h1, h2⟩ := r1.lst g'.sub e1
      obtain ⟨v, h3, h4⟩ := h2.atI ed
      exact .inl ⟨p, vs, i, v, rfl, r2.int e2, SqL.of h1, h3, q F' H' v e g' h4⟩
    · exact q.elim
  · rename_i ds i e1 e2
    split at q
    · rename_i d ed
      obtain ⟨p, vs, rfl, h1, _, h2⟩ := r1.tup g'.sub e1
      obtain ⟨v, h3, h4⟩ := h2.atI ed
      exact .inr (.inl ⟨p, vs, i, v, rfl, r2.int e2, h1, h3, q F' H' v e g' h4⟩)
    · exact q.elim
  · rename_i z i e1 e2
    split at q
    · rename_i hl
      split at q
      · rename_i ch ed
        exact .inr (.inr ⟨z, i, ch, r1.str e1, r2.int e2, line_of hl, ed, q F' H' _ e g' (show Dat c X.K F' _ _ from .str _)⟩)
      · exact q.elim
    · exact q.elim
  · exact q.elim
theorem de_ixO (M : MethOkC X c k "__getitem__" tbl) (hr : Room (k + 1) X.A) (tk : Takes X W) (ha : DE X c W a ma) (hb : DE X c W b mb) (hs : PlainIx b := by exact fun _ _ => rfl)
    (hsl : ∀ x i, subscripted b true (.ref x) i = runValue (.builtin "lifetime.subscript" ⟨[.ref x, i], []⟩) := by intro _ _; with_unfolding_all rfl) : DE X c W (.Subscript a b pos) (mBin (gIxO tbl) ma mb) := by
  refine ⟨⟨fun pins s σ H Q I ⟨F, γ, j, gd, en, h⟩ => ?_⟩⟩
  refine Subscript_ (binT ha.pe hb.pe I (R := fun x y H2 => ∃ F1 j1 dx dy, Ext c F H F1 H2 ∧ Good c F1 H2 j1 ∧ RDat c X.K F1 H2 x dx ∧ RDat c X.K F1 H2 y dy ∧ (gIxO tbl dx dy).All j1 (pE c X.K F H Q) (pX c X.K W F1 H2 σ))
    (two gd en h fun j' dx dy F' H' x y e g' en' r1 r2 q => ⟨F', j', dx, dy, e, g', r1, r2, q⟩) fun v u s2 x y H2 I2 rx ry ⟨F1, j1, dx, dy, e1, g1, r1, r2, q⟩ => ?_)
  unfold gIxO at q
  split at q
  · rename_i n gs
    split at q
    · rename_i mf hl
      split at q
      · rename_i d
        cases r1 with
        | @ins a dx _ fs _ q1 q2 =>
          obtain rfl : v = Value.ref a := rx
          obtain ⟨hc, f, hf, hfi, FA⟩ := M _ (lookup_mem hl)
          obtain ⟨mA, O, _⟩ := ins_get I2.hok (g1.sub _ _ q1)
          obtain ⟨od, J, _⟩ := O.look
          obtain ⟨mm, FR⟩ := I2.fr
          refine PySem.W.sub_K FR I2.mod.kin J hf.at_ hfi hf.fn ?_ (hsl _ _)
          refine wpAny_mono (run_own (vs := [.ref a, y]) FA hr.in1 rfl tk I2 g1 (.cons rfl (.cons ry .nil)) (.cons (.ins q1 q2) (.cons r2 .nil)) (T.All.bind q)) (fun w s' hw => ?_) fun _ _ z => z
          obtain ⟨v', H', F', j', d', rv', I', e', g', rd, q'⟩ := hw
          exact ⟨v', H', I', rv', q' F' H' v' (e1.trans e') g' rd⟩
      · exact q.elim
    · exact q.elim
  · exact ix_seq a b pins s2 σ H2 x y v u Q I2 rx ry (ix_rel e1 g1 r1 r2 q) (hs _ _)
end
end DL
/-! DS9: x in xs, plain data of any depth, xs a list. -/
namespace DL
open PySem PySem.Spec L2
open PyProof.Rows
def rInD (K : PySem.W.Frag) (f : Bool → Bool) : R2 := fun x y H Q => ∃ d es, Dp K H x d ∧ Dp K H y (.list es) ∧ d.plain = true ∧ PyData.plainAll es = true ∧ d.depth ≤ 60 ∧ Q (.bl (f (es.any fun y => PyData.eqv y d))) H
section
variable {X : Cx} {c : Ct} {W : WX}
theorem op_inDD (hu : X.A.units + 64 < cLine) : OpR X (compareOp .In) (rInD X.K fun b => b) := by
  intro pins s σ H x y v u Q I rx ry h
  obtain ⟨d, es, hd, he, pd, pe, hz, q⟩ := h
  obtain ⟨as, r1⟩ := Dp.reads I d x v hd rx
  obtain ⟨bs, r2⟩ := Dp.reads I (.list es) y u he ry
  refine SeqAt.in_list_data r2 r1 pe pd (by have := Nat.min_le_right (PyData.depthAll es) d.depth; omega) ⟨.bl _, H, I, rfl, q⟩
theorem op_notInDD (hu : X.A.units + 64 < cLine) : OpR X (compareOp .NotIn) (rInD X.K fun b => !b) := by
  intro pins s σ H x y v u Q I rx ry h
  obtain ⟨d, es, hd, he, pd, pe, hz, q⟩ := h
  obtain ⟨as, r1⟩ := Dp.reads I d x v hd rx
  obtain ⟨bs, r2⟩ := Dp.reads I (.list es) y u he ry
  refine SeqAt.notIn_list_data r2 r1 pe pd (by have := Nat.min_le_right (PyData.depthAll es) d.depth; omega) ⟨.bl _, H, I, rfl, q⟩
def inDat (x y : D) : Option Bool := match x.py, y.py with
  | some p, some (.list es) => if decide (p.depth ≤ 60) then some (es.any fun y => PyData.eqv y p) else none
  | _, _ => none
def gInDD (neg : Bool) (x y : RV) : T RV := match inDat x.d y.d with
  | some b => okV (.bl (b != neg))
  | none => .stuck
theorem inDat_ok {x y : D} {b : Bool} (h : inDat x y = some b) : ∃ p es, x.py = some p ∧ y.py = some (.list es) ∧ p.depth ≤ 60 ∧ b = es.any fun y => PyData.eqv y p := by
  unfold inDat at h
  split at h
  · rename_i p es e1 e2
    split at h
    · rename_i hs
      cases h
      exact ⟨p, es, e1, e2, of_decide_eq_true hs, rfl⟩
    · cases h
  · cases h
end
end DL
/-! DS10: walks over a list of one's own: y = [.. for x in own], for x in own: if t: z = e. -/
namespace DL
open PySem PySem.Spec L2
open PyProof.Rows
end DL
/-! DS11: for x in own: if t: z = e, over a list of one's own that stays as it is. -/
namespace DL
open PySem PySem.Spec L2
open PyProof.Rows
end DL
/-! GV0: sets of vectors (numbers whose bits count) that hold with any two their exclusive or. -/
namespace GV
/-- what some vectors make -/
def Sp : List Nat → Nat → Prop
  | [], x => x = 0
  | v :: vs, x => Sp vs x ∨ Sp vs (x ^^^ v)
structure Sub (P : Nat → Prop) : Prop where
  zero : P 0
  xor : ∀ x y, P x → P y → P (x ^^^ y)
theorem xor_xor (a b : Nat) : a ^^^ b ^^^ b = a := by rw [Nat.xor_assoc, Nat.xor_self, Nat.xor_zero]
theorem xor_sw (x y v : Nat) : (x ^^^ v) ^^^ (y ^^^ v) = x ^^^ y := by
  rw [Nat.xor_assoc, Nat.xor_comm y v, ← Nat.xor_assoc v v y, Nat.xor_self, Nat.zero_xor]
theorem xor_sl (x y v : Nat) : (x ^^^ v) ^^^ y = (x ^^^ y) ^^^ v := by rw [Nat.xor_assoc, Nat.xor_comm v y, ← Nat.xor_assoc]
theorem xor_sr (x y v : Nat) : x ^^^ (y ^^^ v) = (x ^^^ y) ^^^ v := by rw [Nat.xor_assoc]
theorem sp_sub : ∀ vs : List Nat, Sub (Sp vs)
  | [] => ⟨rfl, fun x y hx hy => by
    have hx : x = 0 := hx
    have hy : y = 0 := hy
    rw [hx, hy]; rfl⟩
  | v :: vs => by
    have ih := sp_sub vs
    refine ⟨.inl ih.zero, fun x y hx hy => ?_⟩
    rcases hx with hx | hx <;> rcases hy with hy | hy
    · exact .inl (ih.xor _ _ hx hy)
    · exact .inr (by rw [← xor_sr]; exact ih.xor _ _ hx hy)
    · exact .inr (by rw [← xor_sl]; exact ih.xor _ _ hx hy)
    · exact .inl (by rw [← xor_sw x y v]; exact ih.xor _ _ hx hy)
theorem sp_mem : ∀ {vs : List Nat} {v : Nat}, v ∈ vs → Sp vs v
  | w :: vs, v, h => by
    rcases List.mem_cons.mp h with rfl | h
    · exact .inr (by rw [Nat.xor_self]; exact (sp_sub vs).zero)
    · exact .inl (sp_mem h)
theorem sp_le {P : Nat → Prop} (hP : Sub P) : ∀ {vs : List Nat}, (∀ v ∈ vs, P v) → ∀ {x : Nat}, Sp vs x → P x
  | [], _, x, h => by
    have h : x = 0 := h
    rw [h]; exact hP.zero
  | v :: vs, hv, x, h => by
    rcases h with h | h
    · exact sp_le hP (fun w hw => hv w (.tail _ hw)) h
    · have := hP.xor _ _ (sp_le hP (fun w hw => hv w (.tail _ hw)) h) (hv v (.head _))
      rwa [xor_xor] at this
theorem sp_eq {vs ws : List Nat} (h1 : ∀ v ∈ vs, Sp ws v) (h2 : ∀ v ∈ ws, Sp vs v) (x : Nat) : Sp vs x ↔ Sp ws x := ⟨sp_le (sp_sub ws) h1, sp_le (sp_sub vs) h2⟩
/-! bounds -/
/-! bases -/
/-- no vector has the other one's top bit -/
def R (a b : Nat) : Prop := a.testBit b.log2 = false ∧ b.testBit a.log2 = false
theorem R.symm {a b : Nat} (h : R a b) : R b a := ⟨h.2, h.1⟩
structure Red (bs : List Nat) : Prop where
  nz : ∀ b ∈ bs, b ≠ 0
  pw : bs.Pairwise R
theorem Red.nil : Red [] := ⟨by simp, .nil⟩
theorem top_set {a : Nat} (h : a ≠ 0) : a.testBit a.log2 = true := Nat.testBit_log2 h
theorem R.ne {a b : Nat} (h : R a b) (ha : a ≠ 0) : a.log2 ≠ b.log2 := fun e => by
  have := h.1
  rw [← e, top_set ha] at this
  cases this
theorem log_lt {a k : Nat} (h : a ≠ 0) (hk : a.log2 < k) : a < 2 ^ k := (Nat.log2_lt h).mp hk
theorem lt_log {a k : Nat} (h : a ≠ 0) (hk : a < 2 ^ k) : a.log2 < k := (Nat.log2_lt h).mpr hk
theorem log2_of {a k : Nat} (h1 : a.testBit k = true) (h2 : a < 2 ^ (k + 1)) : a.log2 = k := by
  have h0 : a ≠ 0 := fun z => by rw [z] at h1; simp at h1
  have h3 := lt_log h0 h2
  have h4 := Nat.ge_two_pow_of_testBit h1
  have := Nat.log2_lt h0 (k := k)
  omega
theorem lt_pow_log {a : Nat} : a < 2 ^ (a.log2 + 1) := by
  by_cases h : a = 0
  · rw [h]; simp
  · exact log_lt h (by omega)
/-- the top bit of an exclusive or with a lower one -/
theorem log2_xor {a y : Nat} (h : a ≠ 0) (hy : y < 2 ^ a.log2) : (a ^^^ y).log2 = a.log2 := by
  refine log2_of ?_ ?_
  · rw [Nat.testBit_xor, top_set h, Nat.testBit_lt_two_pow hy]
    rfl
  · exact Nat.xor_lt_two_pow lt_pow_log (Nat.lt_of_lt_of_le hy (Nat.pow_le_pow_right (by omega) (by omega)))
theorem log_mono {a b : Nat} (h : a ≤ b) (ha : a ≠ 0) : a.log2 ≤ b.log2 := by
  have := lt_log ha (Nat.lt_of_le_of_lt h (lt_pow_log (a := b)))
  omega
/-! one more vector -/
/-- a vector without the top bits of some others, one behind the other -/
def strip (v : Nat) : List Nat → Nat
  | [] => v
  | b :: bs => strip (if v.testBit b.log2 then v ^^^ b else v) bs
theorem strip_bit {k : Nat} : ∀ {bs : List Nat} {v : Nat}, v.testBit k = false → (∀ b ∈ bs, b.testBit k = false) → (strip v bs).testBit k = false
  | [], v, h, _ => h
  | b :: bs, v, h, hb => by
    unfold strip
    refine strip_bit ?_ fun c hc => hb c (.tail _ hc)
    split
    · rw [Nat.testBit_xor, h, hb b (.head _)]; rfl
    · exact h
theorem strip_no : ∀ {bs : List Nat} {v : Nat}, Red bs → ∀ b ∈ bs, (strip v bs).testBit b.log2 = false
  | [], v, _, b, h => by cases h
  | c :: bs, v, hr, b, h => by
    obtain ⟨p1, p2⟩ := List.pairwise_cons.mp hr.pw
    have hr2 : Red bs := ⟨fun b hb => hr.nz b (.tail _ hb), p2⟩
    unfold strip
    rcases List.mem_cons.mp h with rfl | h
    · refine strip_bit ?_ fun d hd => (p1 d hd).2
      split
      · rename_i q
        rw [Nat.testBit_xor, q, top_set (hr.nz b (.head _))]; rfl
      · rename_i q
        exact Bool.eq_false_iff.mpr q
    · exact strip_no hr2 b h
theorem strip_sp : ∀ {bs cs : List Nat} {v : Nat}, (∀ b ∈ bs, b ∈ cs) → Sp cs (strip v bs ^^^ v)
  | [], cs, v, _ => by
    show Sp cs (v ^^^ v)
    rw [Nat.xor_self]; exact (sp_sub cs).zero
  | b :: bs, cs, v, h => by
    have ih : ∀ w, Sp cs (strip w bs ^^^ w) := fun w => strip_sp fun c hc => h c (.tail _ hc)
    unfold strip
    split
    · have := (sp_sub cs).xor _ _ (ih (v ^^^ b)) (sp_mem (h b (.head _)))
      rwa [xor_sr, xor_xor] at this
    · exact ih v
theorem strip_lt {k : Nat} : ∀ {bs : List Nat} {v : Nat}, v < 2 ^ k → (∀ b ∈ bs, b < 2 ^ k) → strip v bs < 2 ^ k
  | [], v, h, _ => h
  | b :: bs, v, h, hb => by
    unfold strip
    refine strip_lt ?_ fun c hc => hb c (.tail _ hc)
    split
    · exact Nat.xor_lt_two_pow h (hb b (.head _))
    · exact h
/-- a basis with one more -/
def put (bs : List Nat) (v : Nat) : List Nat := let u := strip v bs; if u = 0 then bs else bs.map (fun b => if b.testBit u.log2 then b ^^^ u else b) ++ [u]
theorem put_red {bs : List Nat} {v : Nat} (hr : Red bs) : Red (put bs v) := by
  unfold put
  simp only
  split
  · exact hr
  · rename_i z
    have no := strip_no (v := v) hr
    generalize hu : strip v bs = u at *
    have lg : ∀ b ∈ bs, (if b.testBit u.log2 then b ^^^ u else b).log2 = b.log2 := fun b hb => by
      split
      · rename_i q
        refine log2_xor (hr.nz b hb) ?_
        have ne : u.log2 ≠ b.log2 := fun e => by have := no b hb; rw [← e, top_set z] at this; cases this
        have le : u.log2 ≤ b.log2 := by
          have := Nat.ge_two_pow_of_testBit q
          have := log_mono (a := 2 ^ u.log2) this (by have := Nat.pow_pos (n := u.log2) (show 0 < 2 by omega); omega)
          rwa [Nat.log2_two_pow] at this
        exact log_lt z (by omega)
      · rfl
    have cl : ∀ b ∈ bs, (if b.testBit u.log2 then b ^^^ u else b).testBit u.log2 = false := fun b hb => by
      split
      · rename_i q
        rw [Nat.testBit_xor, q, top_set z]; rfl
      · rename_i q
        exact Bool.eq_false_iff.mpr q
    have nb : ∀ b ∈ bs, ∀ c ∈ bs, c.testBit b.log2 = false → (if c.testBit u.log2 then c ^^^ u else c).testBit b.log2 = false := fun b hb c hc h => by
      split
      · rw [Nat.testBit_xor, h, no b hb]; rfl
      · exact h
    refine ⟨fun b hb => ?_, ?_⟩
    · rcases List.mem_append.mp hb with hb | hb
      · obtain ⟨c, hc, rfl⟩ := List.mem_map.mp hb
        intro e
        have t : (if c.testBit u.log2 then c ^^^ u else c).testBit c.log2 = true := by
          split
          · rw [Nat.testBit_xor, top_set (hr.nz c hc), no c hc]; rfl
          · exact top_set (hr.nz c hc)
        rw [e] at t
        simp at t
      · rw [List.mem_singleton.mp hb]; exact z
    · rw [List.pairwise_append]
      refine ⟨?_, by simp, fun a ha b hb => ?_⟩
      · rw [List.pairwise_map]
        refine hr.pw.imp_of_mem fun {a b} ha hb h => ?_
        exact ⟨by rw [lg b hb]; exact nb b hb a ha h.1, by rw [lg a ha]; exact nb a ha b hb h.2⟩
      · obtain ⟨c, hc, rfl⟩ := List.mem_map.mp ha
        rw [List.mem_singleton.mp hb]
        exact ⟨cl c hc, by rw [lg c hc]; exact no c hc⟩
theorem put_sp {bs : List Nat} {v : Nat} (x : Nat) : Sp (put bs v) x ↔ Sp (v :: bs) x := by
  have s0 := strip_sp (bs := bs) (cs := bs) (v := v) fun _ h => h
  unfold put
  simp only
  generalize strip v bs = u at *
  split
  · rename_i z
    rw [z, Nat.zero_xor] at s0
    exact sp_eq (vs := bs) (ws := v :: bs) (fun w hw => (Or.inl (sp_mem hw) : Sp bs w ∨ Sp bs (w ^^^ v))) (fun w hw => by
      rcases List.mem_cons.mp hw with rfl | hw
      · exact s0
      · exact sp_mem hw) x
  · have su : Sp (v :: bs) u := .inr s0
    have uin : u ∈ bs.map (fun b => if b.testBit u.log2 then b ^^^ u else b) ++ [u] := List.mem_append.mpr (.inr (.head _))
    have bin : ∀ b ∈ bs, Sp (bs.map (fun b => if b.testBit u.log2 then b ^^^ u else b) ++ [u]) b := fun b hb => by
      have m : (if b.testBit u.log2 then b ^^^ u else b) ∈ bs.map (fun b => if b.testBit u.log2 then b ^^^ u else b) ++ [u] := List.mem_append.mpr (.inl (List.mem_map.mpr ⟨b, hb, rfl⟩))
      split at m
      · have := (sp_sub _).xor _ _ (sp_mem m) (sp_mem uin)
        rwa [xor_xor] at this
      · exact sp_mem m
    refine sp_eq (fun w hw => ?_) (fun w hw => ?_) x
    · rcases List.mem_append.mp hw with hw | hw
      · obtain ⟨b, hb, rfl⟩ := List.mem_map.mp hw
        have sb : Sp (v :: bs) b := .inl (sp_mem hb)
        split
        · exact (sp_sub _).xor _ _ sb su
        · exact sb
      · rw [List.mem_singleton.mp hw]; exact su
    · rcases List.mem_cons.mp hw with rfl | hw
      · have h1 : Sp (bs.map (fun b => if b.testBit u.log2 then b ^^^ u else b) ++ [u]) (u ^^^ w) := sp_le (sp_sub _) bin s0
        have := (sp_sub _).xor _ _ (sp_mem uin) h1
        rwa [← Nat.xor_assoc, Nat.xor_self, Nat.zero_xor] at this
      · exact bin w hw
theorem put_lt {k : Nat} {bs : List Nat} {v : Nat} (hv : v < 2 ^ k) (hb : ∀ b ∈ bs, b < 2 ^ k) : ∀ b ∈ put bs v, b < 2 ^ k := fun b h => by
  have lu := strip_lt hv hb
  unfold put at h
  simp only at h
  generalize strip v bs = u at *
  split at h
  · exact hb b h
  · rcases List.mem_append.mp h with h | h
    · obtain ⟨c, hc, rfl⟩ := List.mem_map.mp h
      split
      · exact Nat.xor_lt_two_pow (hb c hc) lu
      · exact hb c hc
    · rw [List.mem_singleton.mp h]; exact lu
/-! maps that keep exclusive ors -/
structure Lin (f : Nat → Nat) : Prop where
  xor : ∀ x y, f (x ^^^ y) = f x ^^^ f y
theorem Lin.zero {f : Nat → Nat} (h : Lin f) : f 0 = 0 := by
  have := h.xor 0 0
  rw [Nat.xor_self] at this
  rw [this]
  have : f 0 ^^^ f 0 = 0 := Nat.xor_self _
  exact this
/-- tests that go through exclusive ors -/
structure LinB (p : Nat → Bool) : Prop where
  xor : ∀ x y, p (x ^^^ y) = (p x != p y)
theorem LinB.zero {p : Nat → Bool} (h : LinB p) : p 0 = false := by
  have := h.xor 0 0
  rw [Nat.xor_self] at this
  cases q : p 0 with
  | false => rfl
  | true => rw [q] at this; exact absurd this (by decide)
def Ev (p : Nat → Bool) (vs : List Nat) : Option Nat → List Nat → Prop
  | none, acc => (∀ a ∈ acc, p a = false) ∧ ∀ x, Sp acc x ↔ Sp vs x
  | some f, acc => p f = true ∧ (∀ a ∈ acc, p a = false) ∧ ∀ x, Sp (f :: acc) x ↔ Sp vs x
theorem put_len {bs : List Nat} {v : Nat} : (put bs v).length ≤ bs.length + 1 := by
  unfold put
  simp only
  split
  · omega
  · simp
/-! all of them in a list -/
end GV
/-! DD0: dicts whose keys are ints and texts: [], in, not in, get, len; a dict of one's own: {}, d[k] = v, shared from now on. -/
namespace DL
open PySem PySem.Spec L2
open PyProof.Rows
def keyOf : D → Option Key
  | .int i => some (.inl i)
  | .str s => some (.inr s)
  | _ => none
def keyDt : Key → D
  | .inl i => .int i
  | .inr s => .str s
def getK (kvs : List (Key × D)) (k : Key) : Option D := (kvs.find? fun kv => decide (kv.1 = k)).map (·.2)
def putKD (kvs : List (Key × D)) (k : Key) (d : D) : List (Key × D) := if (kvs.any fun kv => decide (kv.1 = k)) = true then kvs.map (fun kv => if kv.1 = k then (kv.1, d) else kv) else kvs ++ [(k, d)]
section
variable {c : Ct} {K : PySem.W.Frag} {F F' H : Hp} {j : Nat}
theorem Dat.key {v : V} {d : D} {k : Key} (r : Dat c K F v d) (h : keyOf d = some k) : v = kV k := by
  cases r <;> first | (cases h; done) | (cases h; rfl)
theorem RDat.key {v : V} {x : RV} {k : Key} (r : RDat c K F H v x) (h : keyOf x.d = some k) : v = kV k := by
  cases x with
  | val d => exact Dat.key r h
  | brw ds => cases h
  | bob n gs => cases h
  | bdc z => cases z <;> cases h
theorem datK_key {k : Key} : Dat c K F (kV k) (keyDt k) := by
  cases k with
  | inl i => exact .int i
  | inr s => exact .str s
theorem DatK.get {k : Key} : ∀ {vs : List (Key × V)} {kvs : List (Key × D)}, DatK c K F vs kvs → (∀ d, getK kvs k = some d → ∃ v, valV vs k = some v ∧ Dat c K F v d) ∧ (getK kvs k = none → valV vs k = none)
  | _, _, .nil => ⟨fun d h => (by cases h), fun _ => rfl⟩
  | _, _, .cons (f := f) (fs := fs) (gs := gs) h r => by
    by_cases e : f = k
    · refine ⟨fun d q => ?_, fun q => ?_⟩
      · unfold getK at q
        rw [List.find?_cons_of_pos (by simp [e])] at q
        cases q
        exact ⟨_, valV_pos e, h⟩
      · unfold getK at q
        rw [List.find?_cons_of_pos (by simp [e])] at q
        cases q
    · have g1 : ∀ d : D, getK ((f, d) :: gs) k = getK gs k := fun d => by unfold getK; rw [List.find?_cons_of_neg (by simp [e])]
      refine ⟨fun d q => ?_, fun q => ?_⟩
      · rw [g1] at q
        rw [valV_neg (p := (f, _)) e]
        exact (DatK.get r).1 d q
      · rw [g1] at q
        rw [valV_neg (p := (f, _)) e]
        exact (DatK.get r).2 q
theorem DatK.isSome {k : Key} {vs : List (Key × V)} {kvs : List (Key × D)} (h : DatK c K F vs kvs) : (valV vs k).isSome = (getK kvs k).isSome := by
  cases q : getK kvs k with
  | none => rw [h.get.2 q]; rfl
  | some d =>
    obtain ⟨v, e, _⟩ := h.get.1 d q
    rw [e]; rfl
theorem DatK.length : ∀ {vs : List (Key × V)} {kvs : List (Key × D)}, DatK c K F vs kvs → vs.length = kvs.length
  | _, _, .nil => rfl
  | _, _, .cons _ r => congrArg Nat.succ (DatK.length r)
theorem DatK.append : ∀ {vs ws : List (Key × V)} {kvs ls : List (Key × D)}, DatK c K F vs kvs → DatK c K F ws ls → DatK c K F (vs ++ ws) (kvs ++ ls)
  | _, _, _, _, .nil, s => s
  | _, _, _, _, .cons h r, s => .cons h (DatK.append r s)
theorem DatK.any {k : Key} : ∀ {vs : List (Key × V)} {kvs : List (Key × D)}, DatK c K F vs kvs → (vs.any fun kv => decide (kv.1 = k)) = (kvs.any fun kv => decide (kv.1 = k))
  | _, _, .nil => rfl
  | _, _, .cons _ r => by rw [List.any_cons, List.any_cons, DatK.any r]
theorem DatK.repl {k : Key} {v : V} {d : D} (hd : Dat c K F v d) : ∀ {vs : List (Key × V)} {kvs : List (Key × D)}, DatK c K F vs kvs → DatK c K F (vs.map fun kv => if kv.1 = k then (kv.1, v) else kv) (kvs.map fun kv => if kv.1 = k then (kv.1, d) else kv)
  | _, _, .nil => .nil
  | _, _, .cons (f := f) h r => by
    rw [List.map_cons, List.map_cons]
    by_cases e : f = k
    · rw [if_pos e, if_pos e]
      exact .cons hd (DatK.repl hd r)
    · rw [if_neg e, if_neg e]
      exact .cons h (DatK.repl hd r)
theorem DatK.put {k : Key} {v : V} {d : D} {vs : List (Key × V)} {kvs : List (Key × D)} (h : DatK c K F vs kvs) (hd : Dat c K F v d) : DatK c K F (putK vs k v) (putKD kvs k d) := by
  unfold putK putKD
  rw [h.any]
  split
  · exact DatK.repl hd h
  · exact h.append (.cons hd .nil)
/-- a dict that is read -/
theorem RDat.dk {v : V} {x : RV} {kvs : List (Key × D)} (g : ∀ a o, F a = some o → H a = some o) (r : RDat c K F H v x) (e : x.d = .dct kvs) : ∃ a vs, v = .ref a ∧ Rd H a (.dK vs) ∧ DatK c K F vs kvs := by
  cases x with
  | val d =>
    cases e
    cases r with
    | dct h1 h2 => exact ⟨_, _, rfl, .inr ⟨_, g _ _ h1⟩, h2⟩
  | brw ds => cases e
  | bob n gs => cases e
  | bdc z =>
    obtain ⟨a, u, rfl, _, h1, h2⟩ := r
    cases h2 with
    | k h2 => cases e; exact ⟨a, _, rfl, .inl h1, h2⟩
    | t h2 => cases e
end
section
variable {X : Cx} {c : Ct} {W : WX} {a b e : Expr} {ma mb m : Gm → T RV} {pos : Pos}
/-! ### [] -/
theorem ix_dictU (hu : X.A.units + 1 < cLine) : IxR X (fun x y H Q => ∃ a v, x = .ref a ∧ DGet H a y (some v) ∧ Q v H) := by
  intro value slice pins s σ H x y v u Q I rx ry h hs
  obtain ⟨p, w, rfl, g, q⟩ := h
  obtain rfl : v = Value.ref p := rx
  have hT := dict_typeIs I g
  unfold subscriptTail
  refine wpAny_bind ?_
  rw [getitemInPython_of_ne hT.not_modules]
  refine wpAny_bind (wpAny_specialOf hT PySem.F.slot_dict_getitem.lookup ?_)
  have fin : wpAny (model X.prog X.w) X.A (subscripted slice false (.ref p) u) (fun r s₃ => wpAny (model X.prog X.w) X.A (letTemporaryGo value (.ref p) r >>= fun _ => pure r) (EP X pins σ Q) X.xe s₃) X.xe s := by
    rw [hs]
    exact wpAny_operating (wpAny_mono (d_getItem hu I g ry fun w' s3 I3 rw' => (⟨w, H, I3, rw', q⟩ : EP X pins σ Q w' s3)) (fun r s₃ h₃ => wpAny_bind (wpAny_letTemporaryGo (wpAny_pure h₃))) fun _ _ x => x)
  first
    | exact wpAny_pure (wpAny_bind fin)
    | exact wpAny_bind (wpAny_pure (wpAny_bind fin))
    | exact wpAny_bind fin
def getKT (kvs : List (Key × D)) : Option Key → T RV
  | some k => (match getK kvs k with
    | some d => okV d
    | none => .stuck)
  | none => .stuck
def gIxD (x y : RV) : T RV := match x.d with
  | .dct kvs => getKT kvs (keyOf y.d)
  | _ => gIx x y
theorem de_ixD (hu : X.A.units + 64 < cLine) (ha : DE X c W a ma) (hb : DE X c W b mb) (hs : PlainIx b := by exact fun _ _ => rfl) : DE X c W (.Subscript a b pos) (mBin gIxD ma mb) := by
  refine ⟨(pe_ix (ix_seq.or (ix_dictU (by omega))) ha.pe hb.pe hs).imp fun σ H Q ⟨F, γ, j, g, en, h⟩ => ?_⟩
  refine two g en h fun j' dx dy F' H' x y e g' en' r1 r2 q => ?_
  unfold gIxD at q
  split at q
  · rename_i kvs ed
    obtain ⟨p, vs, rfl, hr, hd⟩ := r1.dk g'.sub ed
    cases ek : keyOf dy.d with
    | none => rw [ek] at q; exact q.elim
    | some k =>
      rw [ek] at q
      have ey := r2.key ek
      unfold getKT at q
      simp only at q
      cases eg : getK kvs k with
      | none => rw [eg] at q; exact q.elim
      | some d =>
        rw [eg] at q
        obtain ⟨v, e1, e2⟩ := hd.get.1 d eg
        exact .inr ⟨p, v, rfl, .inl ⟨vs, k, hr, ey, e1.symm⟩, q F' H' v e g' e2⟩
  · exact .inl (ix_rel e g' r1 r2 q)
/-! ### in -/
end
end DL
/-! DD1: a dict of one's own: {}, d[k] = v, shared from now on; len; walks over dicts that are shared. -/
namespace DL
open PySem PySem.Spec L2
open PyProof.Rows
/-! ### a slot gets a new dict -/
def tFd (c : Ct) (K : PySem.W.Frag) (W : WX) (m : Gm → T Dk) : TE := fun σ H Q => ∃ F γ j, Good c F H j ∧ EnvOk c K F H σ γ ∧ (m γ).All j
  (fun j' z => ∀ F' H' a u, Ext c F H F' H' → Good c F' H' j' → H a = none → F' a = none → H' a = some u → DkAt c K F' u z → Q (.ref a) H') (pX c K W F H σ)
section
variable {X : Cx} {c : Ct} {W : WX} {K : PySem.W.Frag} {ob : Addr} {F0 H0 F F' H H' : Hp} {σ : L2.St} {γ : Gm} {j : Nat} {st : Stmt} {e k v : Expr} {pos : Pos} {m mk mv : Gm → T RV} {mz : Gm → T Dk} {m1 : Gm → T Fl}
theorem SOk.setDic {i : Nat} {a : Addr} {u : HO} {z : Dk} {j' : Nat} (s : SOk c K ob F0 H0 σ H γ F j) (s' : SOk c K ob F0 H0 σ H' γ F' j') (h0 : H a = none) (hF : F' a = none) (ha : H' a = some u) (r : DkAt c K F' u z) :
    SOk c K ob F0 H0 (σ.set i (some (.ref a))) H' (γ.set i (.dic z)) F' j' := by
  have np := s.gd.nePen h0
  have no : ¬ OwnAt σ γ a := fun o => (s.env.there o).1 h0
  refine ⟨s'.gd, s'.ext, s'.env.setDic np.1 np.2 hF ha r no, fun b h => ?_, fun b h => s.obj b h.setDic⟩
  obtain ⟨k, o, q, ho, z⟩ := h
  rcases get_set q with ⟨rfl, e, hl⟩ | ⟨n, q⟩
  · rw [List.getElem?_set_self (by rw [s.env.len]; exact hl)] at z
    cases z
    cases y : H0 a with
    | none => rfl
    | some u => exact absurd h0 (s.ext.there a (by rw [y]; simp))
  · rw [List.getElem?_set_ne (Ne.symm n)] at z
    exact s.own b ⟨k, o, q, ho, z⟩
theorem tFd.seq {α : Type} {f : Dk → T α} {P : Nat → α → Prop} {Q : VK} (s : SOk c K ob F0 H0 σ H γ F j) (h : ((mz γ).bind f).All j P (pSX c K W F0 H0))
    (k : ∀ j' x F' H' a u, SOk c K ob F0 H0 σ H' γ F' j' → H a = none → F' a = none → H' a = some u → DkAt c K F' u x → (f x).All j' P (pSX c K W F0 H0) → Q (.ref a) H') : tFd c K W mz σ H Q :=
  ⟨F, γ, j, s.gd, s.env, (T.All.bind h).imp (fun j' x hx F' H' a u e g h0 hF ha r => k j' x F' H' a u (s.step e g) h0 hF ha r hx) fun _ _ z => z.px s.ext⟩
/-! ### {} -/
/-! ### d[k] = v -/
/-! ### shared from now on -/
theorem DkAt.mut {u : HO} {z : Dk} (r : DkAt c K F u z) : Mut (some u) := by cases r <;> exact True.intro
theorem DkAt.dat {u : HO} {z : Dk} {a : Addr} {od : Obj} (r : DkAt c K F u z) (h : F a = some (.frz od u)) : Dat c K F (.ref a) z.d := by
  cases r with
  | k r => exact .dct h r
  | t r => exact .dtt h r
/-! ### len -/
/-! ### walks over dicts that are shared -/
def asKeys (x : RV) : T (List D) := match x with
  | .val (.dct kvs) => .ok (kvs.map fun p => keyDt p.1)
  | _ => .stuck
def iKeysM (m : Gm → T RV) : Gm → T (List D) := fun γ => (m γ).bind asKeys
theorem DatK.at : ∀ {vs : List (Key × V)} {kvs : List (Key × D)} {i : Nat} {p : Key × D}, DatK c K F vs kvs → kvs[i]? = some p → ∃ w, vs[i]? = some (p.1, w) ∧ Dat c K F w p.2
  | _, _, 0, _, .cons h _, e => by simp at e; subst e; exact ⟨_, rfl, h⟩
  | _, _, i + 1, p, .cons _ r, e => by
    obtain ⟨v, h1, h2⟩ := DatK.at (i := i) (p := p) r (by simpa using e)
    exact ⟨v, by simpa using h1, h2⟩
theorem di_keys {tg : Expr} (he : DE X c W e m) : DI X c W tg e (iKeysM m) := by
  refine ⟨(pi_keys he.pe).imp fun σ H R ⟨F, γ, j, g, en, h⟩ => tE.seq g en h fun j1 x F1 H1 v e1 g1 en1 r1 h1 => ?_⟩
  unfold asKeys at h1
  split at h1
  · rename_i kvs
    cases r1 with
    | @dct a od vs _ hq hr =>
      refine ⟨a, od, rfl, .inl ⟨vs, g1.sub _ _ hq, h1 F1 H1 _ e1 g1 ⟨fun i F' H' up sub hi => ?_, fun F' H' up sub => ?_, fun i F' H' x H2 j up g y => ?_⟩⟩⟩
      · rw [List.length_map, ← hr.length] at hi
        exact ⟨sub _ _ (up _ _ hq), hi⟩
      · exact ⟨sub _ _ (up _ _ hq), by rw [List.length_map, hr.length]; exact Nat.le_refl _⟩
      · obtain ⟨e, k, w, hk, ex⟩ := y
        subst e ex
        refine ⟨F', .refl, g, fun d hd => ?_⟩
        rw [List.getElem?_map] at hd
        cases q : kvs[i]? with
        | none => rw [q] at hd; cases hd
        | some p =>
          rw [q] at hd
          cases hd
          obtain ⟨w', h3, h4⟩ := hr.at q
          rw [hk] at h3
          cases h3
          exact datK_key
  · exact h1.elim
end
end DL
/-! DD2: dict comprehensions of one clause (keys ints and texts); displays {k: v, ..}. -/
namespace DL
open PySem PySem.Spec L2
open PyProof.Rows
def dcPut (acc : List (Key × D)) (d : D) : Option Key → T (List (Key × D))
  | some k => if acc.length < 1000000 then .ok (putKD acc k d) else .stuck
  | none => .stuck
def dcD (gm : D → Gm → Option Gm) (tt : Gm → T Bool) (tk te : Gm → T RV) (γ : Gm) : List D → List (Key × D) → T (List (Key × D))
  | [], acc => .ok acc
  | d :: ds, acc => match gm d γ with
    | none => .stuck
    | some γ1 => (tt γ1).bind fun b => if b = true then (tk γ1).bind fun y => (te γ1).bind fun z => (asD z).bind fun v => (dcPut acc v (keyOf y.d)).bind fun acc2 => dcD gm tt tk te γ ds acc2
      else dcD gm tt tk te γ ds acc
def fDc (mi : Gm → T (List D)) (gm : D → Gm → Option Gm) (tt : Gm → T Bool) (tk te : Gm → T RV) (vs : List Nat) : Gm → T Dk := fun γ => (mi γ).bind fun ds => ((dcD gm tt tk te (wipeG γ vs) ds []).calm.bind fun kvs => .ok (.k kvs))
def mDc (mi : Gm → T (List D)) (gm : D → Gm → Option Gm) (tt : Gm → T Bool) (tk te : Gm → T RV) (vs : List Nat) : Gm → T RV := fun γ => (fDc mi gm tt tk te vs γ).bind fun z => okV z.d
section
variable {X : Cx} {c : Ct} {W : WX} {K : PySem.W.Frag} {ob : Addr} {F0 H0 F F' H H' : Hp} {σ : L2.St} {γ : Gm} {j : Nat} {e : Expr} {pos : Pos} {m tk te : Gm → T RV} {tt : Gm → T Bool} {mi : Gm → T (List D)} {gm : D → Gm → Option Gm}
theorem dc_run {ts : List Nat} {Q : VK} {K : PySem.W.Frag} (g : Good c F H j) (en : EnvOk c K F H σ γ)
    (h : (fDc mi gm tt tk te ts γ).All j (fun j' z => ∀ F' H' a u, Ext c F H F' H' → Good c F' H' j' → H a = none → F' a = none → H' a = some u → DkAt c K F' u z → Q (.ref a) H') (pX c K W F H σ)) :
    tDc (tI c K W mi) (tG c K ts gm) (tT c K W0 tt) (tE c K W0 tk) (tE c K W0 te) ts σ H Q := by
  refine ⟨F, γ, j, g, en, (T.All.bind h).imp (fun j1 ds h1 F1 H1 J e1 g1 it A hA => ?_) fun _ _ z => z⟩
  have h1 := T.All.uncalm (E' := fun _ _ => False) (T.All.bind h1)
  have en1 := (en.ext e1).wipe ts
  have nA := g1.nePen hA
  have hA0 : H A = none := by
    cases y : H A with
    | none => rfl
    | some u => exact absurd hA (e1.there A (by rw [y]; simp))
  let P : Nat → List (Key × D) → Prop := fun j' kvs => ((T.ok (Dk.k kvs)) : T Dk).All j' (fun j' z => ∀ F' H' a u, Ext c F H F' H' → Good c F' H' j' → H a = none → F' a = none → H' a = some u → DkAt c K F' u z → Q (.ref a) H') (pX c K W F H σ)
  refine ⟨fun i n H2 => n = ds.length - i ∧ i ≤ ds.length ∧ ∃ F2 j2 vs acc, Good c F2 H2 j2 ∧ Ext c F1 H1 F2 H2 ∧ F2 A = none ∧ H2 A = some (.dK vs) ∧ DatK c K F2 vs acc ∧ (dcD gm tt tk te (wipeG γ ts) (ds.drop i) acc).All j2 P (fun _ _ => False), ?_, ?_⟩
  · obtain ⟨g2, e2⟩ := g1.layOut (o := .dK []) hA
    exact ⟨ds.length, by simp, Nat.zero_le _, F1, j1, [], [], g2, e2, g1.fresh (o := .dK []) hA, upd_same, .nil, by simpa using h1⟩
  rintro i n H2 ⟨rfl, hle, F2, j2, vs, acc, g2, e2, hF2, hA2, r2, h2⟩
  by_cases hlt : i < ds.length
  · obtain ⟨d, hd⟩ : ∃ d, ds[i]? = some d := ⟨_, List.getElem?_eq_getElem hlt⟩
    have hdr : ds.drop i = d :: ds.drop (i + 1) := by
      rw [List.drop_eq_getElem_cons hlt]
      have := List.getElem?_eq_getElem hlt
      rw [hd] at this
      cases this
      rfl
    rw [hdr] at h2
    unfold dcD at h2
    split at h2
    · exact h2.elim
    · rename_i γ3 eg
      refine .inr ⟨it.go i F2 H2 e2.up g2.sub hlt, fun H2 => ∃ F2 j2 vs acc, Good c F2 H2 j2 ∧ Ext c F1 H1 F2 H2 ∧ F2 A = none ∧ H2 A = some (.dK vs) ∧ DatK c K F2 vs acc ∧ (dcD gm tt tk te (wipeG γ ts) (ds.drop (i + 1)) acc).All j2 P (fun _ _ => False),
        fun H' q => ⟨ds.length - (i + 1), by omega, rfl, hlt, q⟩, fun x H3 y => ?_⟩
      obtain ⟨F3, e3, g3, hx⟩ := it.yld i F2 H2 x H3 j2 e2.up g2 y
      have e13 := e2.trans e3
      have keepA : ∀ {F H F' H' : Hp} {vs : List (Key × V)}, Ext c F H F' H' → F A = none → H A = some (.dK vs) → F' A = none ∧ H' A = some (.dK vs) := fun {F H F' H' vs} e hF hH => by
        refine ⟨?_, e.keep A _ nA.1 .dK hH⟩
        cases z : F' A with
        | none => rfl
        | some o =>
          rcases e.new A (by rw [z]; simp) with y | y
          · exact absurd hF y
          · rw [y] at hH; cases hH
      obtain ⟨hF3, hA3⟩ := keepA e3 hF2 hA2
      refine ⟨F3, wipeG γ ts, d, γ3, en1.ext e13, g3.sub, hx d hd, eg, fun σ4 en4 ow4 _ ag4 => ⟨(wipe_agree ag4).trans ?_, ?_⟩⟩
      · have : Agree ts σ (L2.wipe σ ts) := ⟨wipe_length σ ts, fun k hk => by
          have key : ∀ us : List Nat, k ∉ us → (L2.wipe σ us)[k]? = σ[k]? := fun us => by
            induction us with
            | nil => intro _; rfl
            | cons u us ih =>
              intro hk
              simp only [List.mem_cons, not_or] at hk
              unfold L2.wipe
              rw [List.getElem?_set_ne (Ne.symm hk.1)]
              exact ih hk.2
          exact key ts hk⟩
        exact wipe_agree this
      refine ⟨F3, γ3, j2, g3, en4, (T.All.bind h2).imp (fun j5 b hb F5 H5 e5 g5 => ?_) fun _ _ z => z.elim⟩
      obtain ⟨hF5, hA5⟩ := keepA e5 hF3 hA3
      cases b with
      | false => exact iteF ⟨F5, j5, vs, acc, g5, e13.trans e5, hF5, hA5, r2.mono (fun b o h => e5.up b o (e3.up b o h)), hb⟩
      | true =>
        refine iteT ⟨F5, γ3, j5, g5, en4.ext e5, (T.All.bind hb).imp (fun j6 y hy F6 H6 v6 e6 g6 r6 => ?_) fun _ _ z => z.elim⟩
        obtain ⟨hF6, hA6⟩ := keepA e6 hF5 hA5
        refine ⟨F6, γ3, j6, g6, (en4.ext e5).ext e6, (T.All.bind hy).imp (fun j7 z hz F7 H7 v7 e7 g7 r7 => ?_) fun _ _ z => z.elim⟩
        obtain ⟨hF7, hA7⟩ := keepA e7 hF6 hA6
        cases z with
        | brw _ => exact hz.elim
        | bob _ _ => exact hz.elim
        | bdc _ => exact hz.elim
        | val y7 =>
          cases ek : keyOf y.d with
          | none => rw [ek] at hz; exact hz.elim
          | some k =>
            rw [ek] at hz
            have ey := (r6.ext e7).key ek
            unfold dcPut at hz
            simp only at hz
            split at hz
            · rename_i hl
              have hz : (dcD gm tt tk te (wipeG γ ts) (ds.drop (i + 1)) (putKD acc k y7)).All j7 P (fun _ _ => False) := hz
              have r7' : DatK c K F7 vs acc := r2.mono (fun b o h => e7.up b o (e6.up b o (e5.up b o (e3.up b o h))))
              refine ⟨vs, k, ey, hA7, line_lt (by rw [r7'.length]; exact hl), F7, j7, putK vs k v7, putKD acc k y7, ?_, ?_, hF7, upd_same, r7'.put r7, hz⟩
              · obtain ⟨q1, q2, gp, gt, gn⟩ := g7
                refine ⟨fun b o h => ?_, q2, gp.keep fun b vs hb z => by rw [upd_ne (fun y => by rcases hb with h | h <;> rw [h] at y <;> first | exact nA.1 y.symm | exact nA.2 y.symm)]; exact z, tabs_keep gt (fun b o n1 h => by rw [upd_ne (fun z => by rw [z, hA7] at h; cases h; exact n1 (.inr (.inr (.inl ⟨_, rfl⟩))))]; exact h) (fun _ _ h => tbl_upd .dK h), gn⟩
                rw [upd_ne (fun z => by rw [z, hF7] at h; cases h)]
                exact q1 b o h
              · have e17 := e13.trans (e5.trans (e6.trans e7))
                refine ⟨e17.up, fun b o n nt h => ?_, fun b h => ?_, e17.new⟩
                · rw [upd_ne (fun z => by rw [z, hA] at h; cases h)]
                  exact e17.keep b o n nt h
                · by_cases z : b = A
                  · rw [z, upd_same]; simp
                  · rw [upd_ne z]; exact e17.there b h
            · exact hz.elim
  · have e : i = ds.length := by omega
    subst e
    rw [List.drop_length] at h2
    have h2 : P j2 acc := h2
    exact .inl ⟨it.stop F2 H2 e2.up g2.sub, h2 F2 H2 A _ (e1.trans e2) g2 hA0 hF2 hA2 (.k r2)⟩
/-- the dict is shared at once, locked -/
theorem pFd_of {K : PySem.W.Frag} {Q : VK} {z : Dk} {j0 : Nat} (g0 : Good c F H j0) (h : pE c K F H Q j (.val z.d)) : ∀ F' H' a u, Ext c F H F' H' → Good c F' H' j → H a = none → F' a = none → H' a = some u → DkAt c K F' u z → ∃ d u, H' d = some u ∧ Mut (some u) ∧ ∀ od, Q (.ref a) (upd H' d (.frz od u)) := by
  intro F' H' a u e g h0 hF ha r
  refine ⟨a, u, ha, r.mut, fun od => ?_⟩
  have np := g0.nePen h0
  have up : ∀ b o, F' b = some o → upd F' a (.frz od u) b = some o := fun b o h => by rw [upd_ne (fun z => by rw [z, hF] at h; cases h)]; exact h
  refine h (upd F' a (.frz od u)) _ _ ⟨fun b o q => up b o (e.up b o q), fun b o n nt q => ?_, fun b q => ?_, fun b q => ?_⟩ ⟨fun b o q => ?_, fun hp => by rw [upd_ne (Ne.symm np.1)]; exact g.pa hp, g.pen.keep fun b vs hb z => ?_, tabs_keep g.tab (fun b o n1 h => ?_) (fun _ _ h => tbl_upd .frz h), nt_upd g.nt .frz⟩ ((r.mono up).dat upd_same)
  · rw [upd_ne (fun z => by rw [z, h0] at q; cases q)]
    exact e.keep b o n nt q
  · by_cases z : b = a
    · rw [z, upd_same]; simp
    · rw [upd_ne z]; exact e.there b q
  · by_cases z : b = a
    · right; rw [z]; exact h0
    · rw [upd_ne z] at q; exact e.new b q
  · by_cases z : b = a
    · rw [z, upd_same] at q ⊢; exact q
    · rw [upd_ne z] at q ⊢; exact g.sub b o q
  · rw [upd_ne (fun y => by rcases hb with h | h <;> rw [h] at y <;> first | exact np.1 y.symm | exact np.2 y.symm)]
    exact z
  · rw [upd_ne (fun z => by rw [z, ha] at h; cases h; exact n1 r.muo)]
    exact h
theorem de_dc {kx vx tg iter : Expr} {ifs : List Expr} {scope : Scope} {own : List (Str × Nat)} (hc : X.calm = true) (hN : X.N.Nodup) (hi : DI X c W tg iter mi) (ok : blkC X.N X.env.scope scope own = true)
    (hg : ∀ (s : Shared) (H : Hp) (C : Addr) (cl : List (Str × Addr)) (fp : List Addr), DG (X.blk s H scope (compEnvC scope cl C X.env) fp) c tg (own.map (·.2)) gm) (ht : ∀ (s : Shared) (H : Hp) (C : Addr) (cl : List (Str × Addr)) (fp : List Addr), DTs (X.blk s H scope (compEnvC scope cl C X.env) fp) c W0 ifs tt)
    (hk : ∀ (s : Shared) (H : Hp) (C : Addr) (cl : List (Str × Addr)) (fp : List Addr), DE (X.blk s H scope (compEnvC scope cl C X.env) fp) c W0 kx tk) (he : ∀ (s : Shared) (H : Hp) (C : Addr) (cl : List (Str × Addr)) (fp : List Addr), DE (X.blk s H scope (compEnvC scope cl C X.env) fp) c W0 vx te)
    (hs : ∀ x, foldedSetIterable iter X.env x = pure x := by intro _; rfl) :
    DE X c W (.DictComp kx vx [⟨tg, iter, ifs, 0⟩] scope pos) (mDc mi gm tt tk te (own.map (·.2))) := by
  refine ⟨(pe_lockR (pe_dc (wi := tI c X.K W mi) (g := tG c X.K (own.map (·.2)) gm) (tt := tT c X.K W0 tt) (tk := tE c X.K W0 tk) (tv := tE c X.K W0 te) hc hN hi.pi (blkOk_by ok) (fun s H C cl fp => (hg s H C cl fp).pg) (fun s H C cl fp => (ht s H C cl fp).pt) (fun s H C cl fp => (hk s H C cl fp).pe) (fun s H C cl fp => (he s H C cl fp).pe) hs)).imp fun σ H Q ⟨F, γ, j, g, en, h⟩ => ?_⟩
  exact dc_run g en ((T.All.bind h).imp (fun j' z q => pFd_of g q) fun _ _ z => z)
/-! ### displays -/
end
end DL
/-! DD3: x = {k: v for ..}, x a local name (the store swaps with the comprehension); x, y = a, {..}; star of a dict. -/
namespace DL
open PySem PySem.Spec L2
open PyProof.Rows
end DL
/-! DD4: the star of a dict in a display or a call. -/
namespace DL
open PySem PySem.Spec L2
open PyProof.Rows
end DL
/-! DD5: dict comprehensions of two clauses. One theorem serves the loop of any clause of any comprehension (clause_loop). -/
namespace DL
open PySem PySem.Spec L2
open PyProof.Rows
/-! ### two clauses of a dict comprehension -/
end DL
/-! DD6: dict comprehensions of two clauses, over data. -/
namespace DL
open PySem PySem.Spec L2
open PyProof.Rows
abbrev KD := List (Key × D)
section
variable {X : Cx} {c : Ct} {W : WX} {K : PySem.W.Frag} {F0 H0 F1 H1 F H F' H' : Hp} {σ σ0 : L2.St} {γ γ0 : Gm} {j : Nat} {pos : Pos} {tk te : Gm → T RV} {tt tt1 : Gm → T Bool} {mi mi1 : Gm → T (List D)} {gm gm1 : D → Gm → Option Gm} {A : Addr}
/-- what holds between two steps: the dict at A has what was gathered -/
structure DcS (c : Ct) (K : PySem.W.Frag) (F1 H1 : Hp) (A : Addr) (H2 : Hp) (F2 : Hp) (j2 : Nat) (acc : KD) : Prop where
  g : Good c F2 H2 j2
  e : Ext c F1 H1 F2 H2
  nF : F2 A = none
  at_ : ∃ vs, H2 A = some (.dK vs) ∧ DatK c K F2 vs acc
theorem DcS.keep {F2 H2 F3 H3 : Hp} {j2 j3 : Nat} {acc : KD} (nA : A ≠ c.pa ∧ A ≠ c.sa) (s : DcS c K F1 H1 A H2 F2 j2 acc) (e : Ext c F2 H2 F3 H3) (g : Good c F3 H3 j3) : DcS c K F1 H1 A H3 F3 j3 acc := by
  obtain ⟨vs, hA, r⟩ := s.at_
  refine ⟨g, s.e.trans e, ?_, vs, e.keep A _ nA.1 .dK hA, r.mono e.up⟩
  cases z : F3 A with
  | none => rfl
  | some o =>
    cases e.new A (by rw [z]; simp) with
    | inl y => exact absurd s.nF y
    | inr y => rw [y] at hA; cases hA
theorem DcS.put {F2 H2 : Hp} {j2 : Nat} {vs : List (Key × V)} {acc : KD} {k : Key} {v : V} {d : D} (nA : A ≠ c.pa ∧ A ≠ c.sa) (hA1 : H1 A = none) (s : DcS c K F1 H1 A H2 F2 j2 acc) (hA : H2 A = some (.dK vs)) (rv : DatK c K F2 vs acc) (r : Dat c K F2 v d) :
    DcS c K F1 H1 A (upd H2 A (.dK (putK vs k v))) F2 j2 (putKD acc k d) := by
  have hF := s.nF
  refine ⟨?_, ?_, hF, putK vs k v, upd_same, rv.put r⟩
  · obtain ⟨q1, q2, gp, gt, gn⟩ := s.g
    refine ⟨fun b o h => ?_, q2, gp.keep fun b vs hb z => by rw [upd_ne (fun y => by rcases hb with h | h <;> rw [h] at y <;> first | exact nA.1 y.symm | exact nA.2 y.symm)]; exact z, tabs_keep gt (fun b o n1 h => by rw [upd_ne (fun z => by rw [z, hA] at h; cases h; exact n1 (.inr (.inr (.inl ⟨_, rfl⟩))))]; exact h) (fun _ _ h => tbl_upd .dK h), gn⟩
    rw [upd_ne (fun z => by rw [z, hF] at h; cases h)]
    exact q1 b o h
  · refine ⟨s.e.up, fun b o n nt h => ?_, fun b h => ?_, s.e.new⟩
    · rw [upd_ne (fun z => by rw [z, hA1] at h; cases h)]
      exact s.e.keep b o n nt h
    · by_cases z : b = A
      · rw [z, upd_same]; simp
      · rw [upd_ne z]; exact s.e.there b h
end
end DL
/-! DD7: texts compared by <=; x, y = a, {}; an __init__ with *args called by keywords. -/
namespace DL
open PySem PySem.Spec L2
open PyProof.Rows
end DL
/-! DQ7: dicts with keys that are texts, in mirrors: comprehensions, [], sorted, stars. -/
namespace DL
open PySem PySem.Spec L2 GM
/-! ### comprehensions -/
/-! ### sorted texts -/
theorem strs_mapD : ∀ l : List Str, D.strs (l.map D.str) = some l
  | [] => rfl
  | x :: l => by
    show (D.strs (l.map D.str)).map (x :: ·) = _
    rw [strs_mapD l]
    rfl
/-! ### slices, sums, walks backwards -/
theorem gAdd_lD {a b : List D} (h : a.length + b.length ≤ 1000000) : gAdd (.val (.lst a)) (.val (.lst b)) = .ok (.val (.lst (a ++ b))) := by
  unfold gAdd
  simp only [RV.d]
  rw [if_pos h, okV_eq]
theorem whileD_end {tc : Gm → T Bool} {mb : Gm → T Fl} {n : Nat} {γ : Gm} (h : tc γ = .ok false) : whileD tc mb (n + 1) γ = .ok (.nx γ) := by
  show ((tc γ).bind fun k => _) = _
  rw [h, ok_bind, if_neg (by simp)]
theorem whileD_nx {tc : Gm → T Bool} {mb : Gm → T Fl} {n : Nat} {γ γ' : Gm} (h : tc γ = .ok true) (h2 : mb γ = .ok (.nx γ')) : whileD tc mb (n + 1) γ = whileD tc mb n γ' := by
  show ((tc γ).bind fun k => _) = _
  rw [h, ok_bind, if_pos rfl, h2, ok_bind]
def fldSD (i : Nat) (cs : List Nat) (f : Str) (m : Gm → T RV) (γ : Gm) : Option SV → T Fl
  | some (.obj n gs) => if cs.contains n && decide (gs.length < 100) then (m γ).bind fun x => (asD x).bind fun d => .ok (.nx (γ.set i (.obj n (putD f d gs)))) else .stuck
  | _ => .stuck
theorem mFldD_ap {i : Nat} {cs : List Nat} {f : Str} {m : Gm → T RV} {γ : Gm} : mFldS i cs f m γ = fldSD i cs f m γ γ[i]? := by
  unfold mFldS fldSD
  rfl
theorem fldSD_obj {i n : Nat} {cs : List Nat} {f : Str} {m : Gm → T RV} {γ : Gm} {gs gs' : List (Str × D)} {d : D} (h : (cs.contains n && decide (gs.length < 100)) = true) (e : m γ = .ok (.val d)) (p : putD f d gs = gs') : fldSD i cs f m γ (some (.obj n gs)) = .ok (.nx (γ.set i (.obj n gs'))) := by
  unfold fldSD
  simp only
  rw [if_pos h, e, ok_bind, asD_val, ok_bind, p]
/-- a for loop whose turns are told -/
theorem for_detD {gm : D → Gm → Option Gm} {mb : Gm → T Fl} (I : Nat → Gm → Prop) : ∀ {ds : List D} {γ : Gm} (i : Nat), I i γ →
    (∀ k d γ, ds[k]? = some d → I (i + k) γ → ∃ γ1 γ2, gm d γ = some γ1 ∧ mb γ1 = .ok (.nx γ2) ∧ I (i + k + 1) γ2) → ∃ γ2, forD gm mb ds γ = .ok (.nx γ2) ∧ I (i + ds.length) γ2
  | [], γ, i, h, _ => ⟨γ, rfl, h⟩
  | d :: ds, γ, i, h, st => by
    obtain ⟨γ1, γ2, e1, e2, e3⟩ := st 0 d γ rfl h
    obtain ⟨γ3, e4, e5⟩ := for_detD I (ds := ds) (γ := γ2) (i + 1) e3 fun k d γ hk hI => by
      have e : i + 1 + k = i + (k + 1) := by omega
      rw [e] at hI ⊢
      exact st (k + 1) d γ (by simpa using hk) hI
    refine ⟨γ3, ?_, ?_⟩
    · rw [forD_cons e1, e2, ok_bind, forK_nx]
      exact e4
    · have e : i + (d :: ds).length = i + 1 + ds.length := by rw [List.length_cons]; omega
      rw [e]; exact e5
end DL
/-! DD8: s.endswith(t), s.find(t); max(xs, default=d). -/
namespace DL
open PySem PySem.Spec L2
open PyProof.Rows
end DL
/-! DU5: def __init__(self, *rest, k=default): called with values (the default fills up), with values and k=.. -/
namespace DL
open PySem PySem.Spec L2
open PyProof.Rows
/-- values, then m keyword values: the keyword values stand ahead of the tuple -/
def starQ {α : Type} (m : Nat) (r : List D → T α) : List D → T α := fun ds => if m ≤ ds.length ∧ ds.length ≤ 1000000 then r (ds.drop (ds.length - m) ++ [.tup (ds.take (ds.length - m))]) else .stuck
/-- values alone -/
def starQ0 {α : Type} (dfl : List D) (r : List D → T α) : List D → T α := fun ds => if ds.length ≤ 1000000 then r (dfl ++ [.tup ds]) else .stuck
section
variable {P : Program} {w : World} {K : PySem.W.Frag} {mg : Str → Option Value} {base : Heap} {c : Ct}
/-- the common part: kv are the keyword-only values, rest the other ones -/
theorem star_core {x qual self pv : Str} {params : Arguments} {body : List Stmt} {scope : Scope} {f : Addr} {N ks : List Str} {k cl : Nat} {mb : Gm → T Fl} {oc kV doc pm cdv ct : Value} {od an : Option Addr} {osl : Array (Option Value)}
    (S : FnScope (self :: N) (self :: ks ++ [pv]) scope) (hl : ks.length + 1 ≤ N.length)
    (lk : K.lookup f = some ⟨oc, od, .func (PySem.W.fnOf x qual params body scope .none kV doc pm an cdv ct), osl⟩) (hcd : PySem.W.codeIn K cdv qual = true)
    (hb : ∀ (cdv' : Value) (A : Around) (outer : List Env) (s : Shared) (H : Hp) (E : XK), cdv = cdv' → Room k (A.deeper (envOfC qual scope s.heap.objs.size f cdv')) →
      DSs (cxOf (CX P w) P w K mg base (self :: N) qual scope f cdv' A outer s H E) c (fun cls d _ H => E cls d H) body mb)
    {A : Around} {outer : List Env} {s : Shared} {H H1 F' : Hp} {Q : VK} {E : XK} {a dx : Addr} {args : Args} {u : Value} {kv : List V} {ku : List Value} {ws : List V} {wu : List Value} {kd wd : List D} {j : Nat}
    (hr : Room (k + 1) A) (e0 : Env0 P w K mg base A outer s H)
    (hbind : ∀ (A' : Around) (Q' : List (Str × Value) → Shared → Prop) (Ex : Value → Shared → Prop), wpAny (model P w) A' (newTuple wu >>= fun t => pure ((self :: ks).zip (u :: ku) ++ [(pv, t)])) Q' Ex s → wpAny (model P w) A' (bindArgs (PySem.W.fnOf x qual params body scope .none kV doc pm an cdv ct) args) Q' Ex s)
    (ru : RelV (.ref a) u) (rk : Vals kv ku) (rw' : Vals ws wu) (lk2 : kv.length = ks.length) (lw : ws.length ≤ 1000000)
    (g : Good c F' H1 j) (ha : H1 a = none) (hdx : H1 dx = none) (nad : dx ≠ a) (eH : H = upd (upd H1 dx (.own a)) a (.ins (c.cA cl) dx []))
    (rd1 : Dats c K F' kv kd) (rd2 : Dats c K F' ws wd)
    (h : (initB (ks.length + 1) N.length cl mb (kd ++ [.tup wd])).All j
      (fun j' gs => ∀ F3 H3 dx' fs, Ext c F' H1 F3 H3 → Good c F3 H3 j' → F3 a = none → H3 a = some (.ins (c.cA cl) dx' fs) → DatF c K F3 fs gs → Q .non H3)
      (fun j' e => ∀ F3 H3 d, Ext c F' H1 F3 H3 → Good c F3 H3 j' → XdOk c K H1 F3 H3 d e → E (.ref (c.cA e.c)) (some d) H3)) :
    codeAny (model P w) A (.call (.ref f) args) (CR (CX P w) outer P w H s Q E) s := by
  have hn0 : H s.heap.objs.size = Option.none := e0.hok.fresh (Nat.le_refl _)
  have hz : ws.length ≤ sizeLine := le_line lw
  have hl2 : wu.length ≤ sizeLine := by rw [← rw'.length]; exact hz
  have r1 : Vals (.ref a :: kv) (u :: ku) := .cons ru rk
  have hl1 : (u :: ku).length = (self :: ks).length := by rw [List.length_cons, List.length_cons, ← rk.length, lk2]
  refine StX.run_bnd (CX := CX P w) lk hcd S hr.toRoom e0 (G := fun xs H2 => ∃ p, H p = Option.none ∧ xs = (.ref a :: kv) ++ [V.ref p] ∧ H2 = upd H p (.tup ws)) (fun A' Ex Q' hh => ?_) fun s2 H2 xs ⟨p, hp, ex, eH2⟩ hr' => ⟨_, (hb cdv A outer s2 H2 E rfl (hr.deeper _)).ps, ?_⟩
  · show wpAny (model P w) A' (bindArgs (PySem.W.fnOf x qual params body scope .none kV doc pm an cdv ct) args) Q' Ex s
    refine hbind A' Q' Ex ?_
    refine wpAny_bind (wpAny_newTuple (wpAny_pure ?_) hl2)
    have new : ObjOk P w (upd H s.heap.objs.size (.tup ws)) (s.heap.push ({ cls := .type "tuple", data := .seq wu.toArray } : Obj)) s.heap.objs.size (.tup ws) := ⟨hz, wu, rw', ⟨_, Heap.get?_push_size _ rfl, rfl, _, rfl⟩⟩
    have un := StX.un_laid (fs := frs outer) (s := s) (o := ({ cls := .type "tuple", data := .seq wu.toArray } : Obj)) (u := .tup ws) hn0
    have z := hh _ _ ((.ref a :: kv) ++ [V.ref s.heap.objs.size]) ((u :: ku) ++ [Value.ref s.heap.objs.size]) (StX.env0_laid e0 new) un rfl (fun e s' => StX.cxUp outer s H _ _ E e s' un (fun b o q => Heap.get?_push_of_some _ q) rfl) (r1.append (.cons rfl .nil))
      (by rw [List.length_append, List.length_append, List.length_cons, List.length_cons, lk2] <;> rfl) ⟨_, hn0, rfl, rfl⟩
    have e1 : ((self :: ks) ++ [pv]).zip ((u :: ku) ++ [Value.ref s.heap.objs.size]) = (self :: ks).zip (u :: ku) ++ [(pv, Value.ref s.heap.objs.size)] := by rw [List.zip_append hl1.symm] <;> rfl
    rw [e1] at z
    exact z
  · subst ex eH2
    have pa : p ≠ a := fun z => by rw [eH, z, upd_same] at hp; cases hp
    have pd : p ≠ dx := fun z => by rw [eH, z, upd_ne nad, upd_same] at hp; cases hp
    have hp1 : H1 p = none := by rw [eH, upd_ne pa, upd_ne pd] at hp; exact hp
    obtain ⟨g2, e2⟩ := g.lay (o := .tup ws) hp1
    have eH3 : upd H p (.tup ws) = upd (upd (upd H1 p (.tup ws)) dx (.own a)) a (.ins (c.cA cl) dx []) := by
      rw [eH]
      funext b
      by_cases b1 : b = p
      · rw [b1, upd_same, upd_ne pa, upd_ne pd, upd_same]
      · rw [upd_ne b1]
        by_cases b2 : b = a
        · rw [b2, upd_same, upd_same]
        · rw [upd_ne b2, upd_ne b2]
          by_cases b3 : b = dx
          · rw [b3, upd_same, upd_same]
          · rw [upd_ne b3, upd_ne b3, upd_ne b1]
    have rd3 : Dats c K (upd F' p (.tup ws)) (kv ++ [V.ref p]) (kd ++ [.tup wd]) := (rd1.mono e2.up).append (.cons (.tup (.inl (.inl upd_same)) (rd2.mono e2.up)) .nil)
    refine initBody (self := self) (N := N) (n := ks.length + 1) hl rfl ⟨upd F' p (.tup ws), upd H1 p (.tup ws), _, j, a, dx, kv ++ [V.ref p], rfl, g2, by rw [upd_ne (Ne.symm pa)]; exact ha, by rw [upd_ne (Ne.symm pd)]; exact hdx, nad, eH3, rd3, h.imp (fun j' gs q F3 H3 dx' fs e3 g3 => q F3 H3 dx' fs (e2.trans e3) g3) fun j' e q F3 H3 d e3 g3 y => q F3 H3 d (e2.trans e3) g3 (y.low e2)⟩
/-- C(e, .., k=v): values and all keyword-only ones -/
theorem fnStarQ {x qual self pv : Str} {params : Arguments} {body : List Stmt} {scope : Scope} {kws : List (Str × V)} {f : Addr} {fd : FuncData} {N ks : List Str} {k cl : Nat} {mb : Gm → T Fl} (F : FunD K x qual params body scope [] kws f fd) (S : FnScope (self :: N) (self :: ks ++ [pv]) scope) (hl : ks.length + 1 ≤ N.length)
    (told : ∀ (kV doc pm : Value) (an : Option Addr) (cdv ct u : Value) (rest kw : List Value), kw.length = ks.length → bindArgs (PySem.W.fnOf x qual params body scope .none kV doc pm an cdv ct) ⟨u :: rest, ks.zip kw⟩ = (newTuple rest >>= fun t => pure ((self :: ks).zip (u :: kw) ++ [(pv, t)])))
    (hb : ∀ (cdv : Value) (A : Around) (outer : List Env) (s : Shared) (H : Hp) (E : XK), fd.code = cdv → Room k (A.deeper (envOfC qual scope s.heap.objs.size f cdv)) →
      DSs (cxOf (CX P w) P w K mg base (self :: N) qual scope f cdv A outer s H E) c (fun cls d _ H => E cls d H) body mb) :
    FnA P w K mg base (k + 1) f ks (spI c K cl (starQ ks.length (initB (ks.length + 1) N.length cl mb))) := by
  obtain ⟨oc, od, dV, kV, doc, pm, an, cdv, ct, osl, rfl, lk, hcd, hD, hK⟩ := F.ex
  rcases hD with ⟨_, rfl⟩ | ⟨e, _⟩
  rotate_left
  · exact absurd rfl e
  intro A outer s H us ws0 vs Q E hr e0 r hl0 ⟨F', H1, es, j, a, dx, ws, ev, g, ha, hdx, nad, eH, rd, h⟩
  unfold starQ at h
  split at h
  rotate_left
  · exact h.elim
  rename_i hn
  have lr := r.length
  rw [List.length_append, hl0, ev, List.length_cons] at lr
  have le : ws.length = es.length := rd.length
  cases us with
  | nil => rw [List.length_nil] at lr; exact absurd hn.1 (by omega)
  | cons u us =>
    rw [List.length_cons] at lr
    have ev2 : ws = ws.take (es.length - ks.length) ++ ws.drop (es.length - ks.length) := (List.take_append_drop _ _).symm
    rw [ev] at r
    cases r with
    | cons ru r =>
      rw [ev2] at r
      obtain ⟨u1, u2, eu, r1, r2⟩ := StX.vals_split r
      have l1 : u1.length = us.length := by rw [← r1.length, List.length_take]; omega
      obtain ⟨h1, h2⟩ := List.append_inj eu (by rw [l1])
      subst h1 h2
      exact star_core S hl lk hcd (fun cdv' A outer s H E e hr => hb cdv' A outer s H E e hr) hr e0 (fun A' Q' Ex q => by rw [told kV doc pm an cdv ct u us ws0 hl0]; exact q) ru r2 r1 (by rw [List.length_drop, le]; omega) (by rw [List.length_take]; omega) g ha hdx nad eH (rd.drop _) (rd.take _) h
/-- C(e, ..): the keyword-only ones lack -/
theorem fnStarQ0 {x qual self pv kn : Str} {params : Arguments} {body : List Stmt} {scope : Scope} {dv : V} {dd : D} {f : Addr} {fd : FuncData} {N : List Str} {k cl : Nat} {mb : Gm → T Fl} (F : FunD K x qual params body scope [] [(kn, dv)] f fd) (S : FnScope (self :: N) (self :: [kn] ++ [pv]) scope) (hl : 2 ≤ N.length)
    (rdv : ∀ F0, Dat c K F0 dv dd)
    (told : ∀ (D : Addr) (doc pm : Value) (an : Option Addr) (cdv ct u kw : Value) (rest : List Value), ∃ (β γ δ : Type) (k1 : Option Value → Sem β) (k2 : β → Sem γ) (k3 : γ → Sem (List (Str × Value))) (b : β), bindArgs (PySem.W.fnOf x qual params body scope .none (.ref D) doc pm an cdv ct) ⟨u :: rest, []⟩ = ((nsGet D kn >>= k1) >>= k2) >>= k3 ∧ k1 (some kw) = pure b ∧ (k2 b >>= k3) = (newTuple rest >>= fun t => pure ([self, kn].zip [u, kw] ++ [(pv, t)])))
    (hb : ∀ (cdv : Value) (A : Around) (outer : List Env) (s : Shared) (H : Hp) (E : XK), fd.code = cdv → Room k (A.deeper (envOfC qual scope s.heap.objs.size f cdv)) →
      DSs (cxOf (CX P w) P w K mg base (self :: N) qual scope f cdv A outer s H E) c (fun cls d _ H => E cls d H) body mb) :
    FnA P w K mg base (k + 1) f [] (spI c K cl (starQ0 [dd] (initB 2 N.length cl mb))) := by
  obtain ⟨oc, od, dV, kV, doc, pm, an, cdv, ct, osl, rfl, lk, hcd, hD, hK⟩ := F.ex
  rcases hD with ⟨_, rfl⟩ | ⟨e, _⟩
  rotate_left
  · exact absurd rfl e
  rcases hK with e | ⟨D, rfl, hq⟩
  · exact absurd e (by simp)
  obtain ⟨ks, hlk, rk, hks⟩ := kwd_vals hq
  match ks, hlk, rk, hks with
  | [kw], _, rk, hks =>
  intro A outer s H us ws0 vs Q E hr e0 r hl0 ⟨F', H1, es, j, a, dx, ws, ev, g, ha, hdx, nad, eH, rd, h⟩
  cases ws0 with
  | cons _ _ => cases hl0
  | nil =>
    rw [List.append_nil] at r
    unfold starQ0 at h
    split at h
    rotate_left
    · exact h.elim
    rename_i hn
    rw [ev] at r
    cases r with
    | cons ru r =>
      rename_i u us
      obtain ⟨β, γ, δ, k1, k2, k3, b, t1, t2, t3⟩ := told D doc pm an cdv ct u kw us
      have kin : K.In s.heap := e0.mod.kin.keeps fun b o e => (e0.bs b o e).1
      have lk1 : PySem.W.nsIn K D kn = some (some kw) := hks (kn, kw) (by simp)
      exact star_core (ks := [kn]) (kv := [dv]) (kd := [dd]) S hl lk hcd (fun cdv' A outer s H E e hr => hb cdv' A outer s H E e hr) hr e0 (fun A' Q' Ex q => by
        show wpAny _ _ (bindArgs _ ⟨u :: us, []⟩) _ _ _
        rw [t1, bind_assoc, bind_assoc]
        refine wpAny_bind ((PySem.W.looks_nsIn kin lk1).here ?_)
        show wpAny _ _ (k1 (some kw) >>= _) _ _ _
        rw [t2, pure_bind, t3]
        exact q) ru rk r rfl (by rw [rd.length]; exact hn) g ha hdx nad eH (.cons (rdv F') .nil) rd h
end
end DL
/-! DR13: f(*xs, k=v). -/
namespace DL
open PySem PySem.Spec L2 PySem.Calls
open PyProof.Rows
end DL
/-! DR14: tuple(range(..)). -/
namespace DL
open PySem PySem.Spec L2
open PyProof.Rows
def rgKT2 (x y : RV) : T RV := match x, y with
  | .val (.int a), .val (.int b) => if -1000000 ≤ a ∧ a ≤ 1000000 ∧ -1000000 ≤ b ∧ b ≤ 1000000 then okV (.tup (rngD a (b - a).toNat)) else .stuck
  | _, _ => .stuck
section
variable {X : Cx} {c : Ct} {W : WX} {e e2 : Expr} {m m2 : Gm → T RV} {p pos p2 pos2 : Pos} {k : Nat}
theorem de_trg2 (hc : X.calm = true) (hl : X.mg "tuple" = none) (hr : X.mg "range" = none) (he : DE X c W e m) (he2 : DE X c W e2 m2) (gl : Gl X "tuple" := by rfl) (gr : Gl X "range" := by rfl) (na : starEach [e, e2] X.env = (false, eval e X.env) :: starEach [e2] X.env := by rfl) (na2 : starEach [e2] X.env = (false, eval e2 X.env) :: starEach [] X.env := by rfl) (hpl : (backTo pos2 (starEach [e2] X.env)).any (·.1) = false := by rfl)
    (nb : starEach [.Call (.Name "range" p2) [e, e2] [] pos2] X.env = (false, eval (.Call (.Name "range" p2) [e, e2] [] pos2) X.env) :: starEach [] X.env := by rfl) : DE X c W (.Call (.Name "tuple" p) [.Call (.Name "range" p2) [e, e2] [] pos2] [] pos) (mBin rgKT2 m m2) := by
  refine ⟨(pe_tupRg hc gl hl (prg_2 gr hr he.pe he2.pe na na2 hpl) nb).imp fun σ H Q ⟨F, γ, j, gd, en, h⟩ => ?_⟩
  refine two gd en h fun j1 dx dy F1 H1 x y e1 g1 en1 r1 r2 h1 => ?_
  unfold rgKT2 at h1
  split at h1
  · rename_i a b
    cases r1
    cases r2
    split at h1
    · rename_i hn
      refine ⟨a, b, rfl, rfl, ⟨by omega, by omega, by omega, by omega, by omega⟩, fun q hq => ?_⟩
      obtain ⟨g2, e2⟩ := g1.lay (o := .tup (rgV a b)) hq
      exact h1 _ _ _ (e1.trans e2) g2 (show Dat _ _ _ _ _ from .tup (.inl (.inl upd_same)) dats_rg)
    · exact h1.elim
  · exact h1.elim
end
end DL
/-! DR15: f"{n:b}" of a number not below nought; x in a list or a tuple, plain data of any depth. -/
namespace DL
open PySem PySem.Spec L2
open PyProof.Rows
open Builtin Float
/-- the binary digits -/
def binT (n : Nat) : Str := ⟨((Nat.toDigits 2 n).map Char.toNat).toArray⟩
theorem binT_len (n : Nat) : (binT n).length = (Nat.toDigits 2 n).length := by
  show (((Nat.toDigits 2 n).map Char.toNat).toArray).size = _
  simp
theorem binT_le {n : Nat} (h : n.log2 < 1920) : (binT n).length ≤ 1920 := by
  rw [binT_len, Nat.length_toDigits_le_iff (by omega) (by omega)]
  by_cases z : n = 0
  · subst z; exact Nat.pow_pos (by decide)
  · exact (Nat.log2_lt z).mp h
def specB : Str := Str.ofString "b"
def fB : FormatSpec := { fill := 32, align := 62, type := some 98 }
theorem fB_ok : parseFormatSpec specB.cps.toList "int" 62 = .ok fB := rfl
def digB (a : Int) : List Nat := List.map (fun c => (if ((98 : Nat) == 88) = true then c.toUpper else c).toNat) (Nat.toDigits 2 a.natAbs)
theorem textB (a : Nat) : intField' fB (decide ((a : Int) < 0)) (if fB.alt = true then [48, 98] else []) (digB a) [] (if ((2 : Nat) == 10) = true then 3 else 4) = binT a := by
  have hneg : decide ((a : Int) < 0) = false := decide_eq_false (by omega)
  have hds : digB a = (Nat.toDigits 2 a).map Char.toNat := rfl
  have hne : digB a ≠ [] := by
    have := @Nat.length_toDigits_pos 2 a
    rw [hds]
    intro z
    rw [List.map_eq_nil_iff] at z
    rw [z] at this
    simp at this
  rw [hneg]
  unfold binT
  rw [← hds]
  revert hne
  generalize digB a = ds
  intro hne
  cases ds with
  | nil => exact absurd rfl hne
  | cons d ds =>
    unfold intField' fB
    simp only [List.isEmpty_cons, Bool.false_eq_true, if_false, List.length_nil, List.length_cons]
    have h1 : ((-1 : Int) - ((0 : Nat) + (0 : Nat) + (0 : Nat) : Int) - ((ds.length + 1 : Nat) : Int)).toNat = 0 := by omega
    simp
    omega
section
variable {prog : Program} {w : World} {A : Around} {E : Value → Shared → Prop} {s : Shared}
set_option maxHeartbeats 4000000 in
theorem formatField_int_b {a : Nat} {t : Tok} {Q : Value → Shared → Prop} (hl : a.log2 < 1920) (h : Q (.str (binT a) (s.toks + 1)) { s with toks := s.toks + 1 + 1 }) :
    wpAny (model prog w) A (formatField (.int a t) specB) Q E s := by
  have hlen : (binT a).length ≤ sizeLine := Nat.le_trans (binT_le hl) (by rw [sizeLine_eq]; decide)
  show wpAny _ _ (holding [.int a t] (pyFormat (.int a t) specB)) Q E s
  refine wpAny_holding ?_
  unfold pyFormat
  refine wpAny_bind (wpAny_mkStr ?_ (by decide))
  refine wpAny_bind (m := callSpecial? (.int a t) (Str.ofString "__format__") [.str specB s.toks]) (wpAny_callSpecial?_slot (name := Str.ofString "__format__") (typeIs_int _ a t) slot_int_format ?_)
  refine wpAny_call (codeAny_call_builtin slot_int_format.plain entry_int_format (slot_int_format.check _ _ _ _ _ _ _ _ (typeIs_int _ a t) (args_int_format _ _) ?_))
  have hne : (specB.length == 0) = false := by decide
  have hasc : ((specB.cps.toList.drop 1).any (· ≥ 128) || (specB.cps.getD 0 0 ≥ 128 && !([60, 62, 61, 94] : List Nat).contains (specB.cps.getD 1 0))) = false := by decide
  have hp := fB_ok
  have hty : fB.type.getD (if specB.cps.back? == some 0 then 0 else 100) = 98 := rfl
  unfold Builtin.«int.__format__»
  simp only [selfAndOne, noKeywords, Int.intOfSelf, asInt?, asStr?, List.isEmpty_nil, if_true, pure_bind, bind_pure, bind_assoc, hne, hasc, Bool.false_eq_true, if_false,
    show (Value.str specB s.toks == Value.none) = false from rfl]
  refine wpAny_bind (wpAny_typeNameOf (T := "str") (typeIs_str _ _ _) (by decide) fun _ => ?_)
  first | refine wpAny_bind (wpAny_typeNameOfCut_int ?_) | refine wpAny_bind (wpAny_typeNameOf_int ?_)
  simp only [hp, hty]
  rw [if_pos (by decide)]
  show wpAny _ _ (retStr (intField' fB (decide ((a : Int) < 0)) (if fB.alt = true then [48, 98] else []) (digB a) [] (if ((2 : Nat) == 10) = true then 3 else 4))) _ _ _
  rw [textB]
  unfold retStr
  refine wpAny_bind (wpAny_mkStr (wpAny_pure ?_) hlen)
  dsimp only
  exact wpAny_bind (wpAny_isInstance (typeIs_str _ _ _) isSubtype_str_str (wpAny_pure h))
end
end DL
/-! DR16: f"{n:b}"; x in a list or a tuple, plain data of any depth. -/
namespace DL
open PySem PySem.Spec L2
open PyProof.Rows
def tFmtB (te ts : TE) : TE := fun σ H Q => te σ H fun x H1 => ∃ n : Nat, x = .int n ∧ n.log2 < 1920 ∧ ts σ H1 fun y H2 => y = .str specB ∧ Q (.str (binT n)) H2
def gFmtB (x : RV) : T RV := match x.d with
  | .int i => if 0 ≤ i ∧ i.natAbs.log2 < 1920 then okV (.str (binT i.natAbs)) else .stuck
  | _ => .stuck
def rInT (K : PySem.W.Frag) (f : Bool → Bool) : R2 := fun x y H Q => ∃ d es, Dp K H x d ∧ Dp K H y (.tuple es) ∧ d.plain = true ∧ PyData.plainAll es = true ∧ d.depth ≤ 60 ∧ Q (.bl (f (es.any fun y => PyData.eqv y d))) H
section
variable {X : Cx} {c : Ct} {W : WX} {e spec : Expr} {m : Gm → T RV} {pos : Pos}
theorem pe_fmtB {te ts : TE} (he : PE X e te) (hs : PE X spec ts) : PE X (.FormattedValue e (-1) (some spec) pos) (tFmtB te ts) := by
  refine ⟨fun pins s σ H Q I h => ?_⟩
  refine wpAny_FormattedValue_spec (thn (he.run pins s σ H _ I h) fun v s1 hv => ?_)
  obtain ⟨x, H1, I1, r1, n, rfl, hl, q⟩ := hv
  refine thn (hs.run pins s1 σ H1 _ I1 q) fun v2 s2 hv2 => ?_
  obtain ⟨y, H2, I2, r2, rfl, q⟩ := hv2
  obtain ⟨t, rfl⟩ := r1
  obtain ⟨t2, rfl⟩ := r2
  exact ⟨specB, t2, rfl, formatField_int_b hl ⟨.str (binT n), H2, I2.tok _, ⟨_, rfl⟩, q⟩⟩
theorem de_fmtB (he : DE X c W e m) (hs : DE X c W spec (mC (.str "b"))) : DE X c W (.FormattedValue e (-1) (some spec) pos) (mUn gFmtB m) := by
  refine ⟨(pe_fmtB he.pe hs.pe).imp fun σ H Q ⟨F, γ, j, gd, en, h⟩ => tE.seq gd en h fun j1 x F1 H1 v e1 g1 en1 r1 h1 => ?_⟩
  unfold gFmtB at h1
  split at h1
  · rename_i i ed
    split at h1
    · rename_i hz
      obtain ⟨n, rfl⟩ := Int.eq_ofNat_of_zero_le hz.1
      refine ⟨n, r1.int ed, hz.2, F1, γ, j1, g1, en1, ?_⟩
      refine fun F2 H2 v2 e2 g2 r2 => ?_
      cases r2
      exact ⟨rfl, h1 F2 H2 _ (e1.trans e2) g2 (show Dat _ _ _ _ _ from .str _)⟩
    · exact h1.elim
  · exact h1.elim
theorem op_inTT (hu : X.A.units + 64 < cLine) : OpR X (compareOp .In) (rInT X.K fun b => b) := by
  intro pins s σ H x y v u Q I rx ry h
  obtain ⟨d, es, hd, he, pd, pe, hz, q⟩ := h
  obtain ⟨as, r1⟩ := Dp.reads I d x v hd rx
  obtain ⟨bs, r2⟩ := Dp.reads I (.tuple es) y u he ry
  refine SeqAt.in_tuple_data r2 r1 pe pd (by have := Nat.min_le_right (PyData.depthAll es) d.depth; omega) ⟨.bl _, H, I, rfl, q⟩
theorem op_notInTT (hu : X.A.units + 64 < cLine) : OpR X (compareOp .NotIn) (rInT X.K fun b => !b) := by
  intro pins s σ H x y v u Q I rx ry h
  obtain ⟨d, es, hd, he, pd, pe, hz, q⟩ := h
  obtain ⟨as, r1⟩ := Dp.reads I d x v hd rx
  obtain ⟨bs, r2⟩ := Dp.reads I (.tuple es) y u he ry
  refine SeqAt.notIn_tuple_data r2 r1 pe pd (by have := Nat.min_le_right (PyData.depthAll es) d.depth; omega) ⟨.bl _, H, I, rfl, q⟩
def inDatT (x y : D) : Option Bool := match x.py, y.py with
  | some p, some (.tuple es) => if decide (p.depth ≤ 60) then some (es.any fun y => PyData.eqv y p) else none
  | _, _ => none
/-- a list or a tuple -/
def gInDT (neg : Bool) (x y : RV) : T RV := match inDatT x.d y.d with
  | some b => okV (.bl (b != neg))
  | none => gInDD neg x y
theorem inDatT_ok {x y : D} {b : Bool} (h : inDatT x y = some b) : ∃ p es, x.py = some p ∧ y.py = some (.tuple es) ∧ p.depth ≤ 60 ∧ b = es.any fun y => PyData.eqv y p := by
  unfold inDatT at h
  split at h
  · rename_i p es e1 e2
    split at h
    · rename_i hs
      cases h
      exact ⟨p, es, e1, e2, of_decide_eq_true hs, rfl⟩
    · cases h
  · cases h
/-- the union of two rules -/
def rOr2 (a b : R2) : R2 := fun x y H Q => a x y H Q ∨ b x y H Q
theorem op_or2 {o : Value → Value → Sem Value} {a b : R2} (ha : OpR X o a) (hb : OpR X o b) : OpR X o (rOr2 a b) := fun pins s σ H x y v u Q I rx ry h => h.elim (fun z => ha pins s σ H x y v u Q I rx ry z) fun z => hb pins s σ H x y v u Q I rx ry z
theorem o_inDT (hu : X.A.units + 64 < cLine) : OpD X c W (compareOp .In) (gInDT false) := by
  refine opD_of (op_or2 (op_inTT hu) (op_inDD hu)) fun σ H x y Q F j dx dy gd r1 r2 q => ?_
  unfold gInDT at q
  split at q
  · rename_i b e
    obtain ⟨p, es, e1, e2, h1, rfl⟩ := inDatT_ok e
    have hp := D.py_plain e2
    refine .inl ⟨p, es, r1.dp gd.sub e1, r2.dp gd.sub e2, D.py_plain e1, by simpa only [PyData.plain] using hp, h1, ?_⟩
    have q' := q.val gd (.bl _)
    rw [Bool.bne_false] at q'
    exact q'
  · unfold gInDD at q
    split at q
    · rename_i b e
      obtain ⟨p, es, e1, e2, h1, rfl⟩ := inDat_ok e
      have hp := D.py_plain e2
      refine .inr ⟨p, es, r1.dp gd.sub e1, r2.dp gd.sub e2, D.py_plain e1, by simpa only [PyData.plain] using hp, h1, ?_⟩
      have q' := q.val gd (.bl _)
      rw [Bool.bne_false] at q'
      exact q'
    · exact q.elim
theorem o_notinDT (hu : X.A.units + 64 < cLine) : OpD X c W (compareOp .NotIn) (gInDT true) := by
  refine opD_of (op_or2 (op_notInTT hu) (op_notInDD hu)) fun σ H x y Q F j dx dy gd r1 r2 q => ?_
  unfold gInDT at q
  split at q
  · rename_i b e
    obtain ⟨p, es, e1, e2, h1, rfl⟩ := inDatT_ok e
    have hp := D.py_plain e2
    refine .inl ⟨p, es, r1.dp gd.sub e1, r2.dp gd.sub e2, D.py_plain e1, by simpa only [PyData.plain] using hp, h1, ?_⟩
    have q' := q.val gd (.bl _)
    rw [Bool.bne_true] at q'
    exact q'
  · unfold gInDD at q
    split at q
    · rename_i b e
      obtain ⟨p, es, e1, e2, h1, rfl⟩ := inDat_ok e
      have hp := D.py_plain e2
      refine .inr ⟨p, es, r1.dp gd.sub e1, r2.dp gd.sub e2, D.py_plain e1, by simpa only [PyData.plain] using hp, h1, ?_⟩
      have q' := q.val gd (.bl _)
      rw [Bool.bne_true] at q'
      exact q'
    · exact q.elim
end
end DL
/-! DR17: y = xs.pop(), y = xs.pop(0), xs.extend(e), xs a list of one's own. -/
namespace DL
open PySem PySem.Spec L2
open PyProof.Rows
end DL
/-! DW9: enumerate of a list, a tuple or a text. -/
namespace DL
open PySem PySem.Spec L2
open PyProof.Rows
/-- the signs of z, each in a new pair with its number -/
def ItEnS (z : Str) : It :=
  ⟨fun i _ => i < z.cps.size, fun i H v H' => ∃ pr ch, v = .ref pr ∧ H pr = none ∧ z.cps[i]? = some ch ∧ H' = upd H pr (.tup [.int (i : Nat), .str ⟨#[ch]⟩]), fun i _ => z.cps.size ≤ i⟩
theorem turn_enS {P : Program} {w : World} {K : PySem.W.Frag} {elts : List Expr} {kk : Nat} {tpos : Pos} (z : Str) (t : Tok) (e it : Addr) :
    Turn P w K (.Tuple elts kk tpos) (ItEnS z) [e, it] e (fun i h => (∃ old, IsEnum h e it ((i : Nat) : Int) old) ∧ h.IsStrIter it (strIterType z) z t i ∧ e ≠ it) where
  mem := List.mem_cons_self ..
  obj := fun i h st b hb => by
    obtain ⟨⟨old, he⟩, ⟨o, ho, hc, hd⟩, _⟩ := st
    rcases (show b = e ∨ b = it by simpa using hb) with z | z
    · subst z; exact ⟨_, he, fun v q => nomatch q⟩
    · subst z; exact ⟨o, ho, fun v q => by rw [hd] at q; cases q⟩
  keep := fun i h h' st k => by
    obtain ⟨⟨old, he⟩, ⟨o, ho, hc, hd⟩, n1⟩ := st
    exact ⟨⟨old, k e (List.mem_cons_self ..) _ he⟩, ⟨o, k it (by simp) o ho, hc, hd⟩, n1⟩
  item := by
    intro X hP hw hK hc i pins s σ H E I hf st hg
    subst hP hw hK
    obtain ⟨⟨old, he⟩, hit, n1⟩ := st
    have le : e < s.heap.objs.size := Heap.lt_size he
    have li : it < s.heap.objs.size := by obtain ⟨_, q, _⟩ := hit; exact Heap.lt_size q
    have D := Draws.text (prog := X.prog) (w := X.w) (A := X.A.in1) (show X.A.in1.handled = none from I.ok.hd hc) it z t
    refine wpAny_pyNext_enum_itemD D he hit hg n1 (by simp [n1]) fun x h' tk hx ho hst hT hsz hk => ?_
    obtain ⟨ch, u, hx, rfl⟩ := hx
    refine ⟨_, rfl, wpAny_letOwnedTupleGo_enum (s := { s with heap := h', toks := tk + 1 }) ho fun h2 he2 sb => ?_⟩
    have hT2 : h2.get? s.heap.objs.size = some ⟨.type "tuple", none, .seq #[.int i tk, .str ⟨#[ch]⟩ u] 0, #[]⟩ := (sb.2 _ (Nat.ne_of_gt le)).trans hT
    have new : ObjOk X.prog X.w (upd H s.heap.objs.size (.tup [.int (i : Nat), .str ⟨#[ch]⟩])) h2 s.heap.objs.size (.tup [.int (i : Nat), .str ⟨#[ch]⟩]) :=
      ⟨by show 2 ≤ sizeLine; decide, [.int i tk, .str ⟨#[ch]⟩ u], .cons ⟨_, rfl⟩ (.cons ⟨u, rfl⟩ .nil), ⟨_, hT2, rfl, _, rfl⟩⟩
    have I1 : Inv X pins σ (upd H s.heap.objs.size (.tup [.int (i : Nat), .str ⟨#[ch]⟩])) { s with heap := h2, toks := tk + 1 } :=
      I.turnedNew (ch := [e, it]) (fun b ob hb q => (sb.2 b (fun z => hb (by simp [z]))).trans (hk b ob (fun z => hb (by simp [z])) (fun z => hb (by simp [z])) q)) hf (Nat.le_refl _) new
    refine ⟨.ref s.heap.objs.size, _, I1, rfl, ⟨_, ch, rfl, I.hok.fresh (Nat.le_refl _), hx, rfl⟩, ⟨⟨.str ⟨#[ch]⟩ u, ?_⟩, ?_, n1⟩, fun b hb => ?_⟩
    · rw [show ((i + 1 : Nat) : Int) = (i : Int) + 1 by omega]
      exact he2
    · obtain ⟨o, ho', hc', hd'⟩ := hst
      exact ⟨o, (sb.2 it (Ne.symm n1)).trans ho', hc', hd'⟩
    · have lb : b < s.heap.objs.size := by
        rcases (show b = e ∨ b = it by simpa using hb) with z | z
        · rw [z]; exact le
        · rw [z]; exact li
      rw [upd_ne (Nat.ne_of_lt lb)]
      exact (hf b hb).1
  done := by
    intro X hP hw hK hc i pins s σ H E I hf st hg
    subst hP hw hK
    obtain ⟨⟨old, he⟩, hit, n1⟩ := st
    obtain ⟨f0, f1, f2, f3, f4, f5⟩ := hf it (by simp)
    have D := Draws.text (prog := X.prog) (w := X.w) (A := X.A.in1) (show X.A.in1.handled = none from I.ok.hd hc) it z t
    have hi : z.cps[i]? = none := Array.getElem?_eq_none hg
    have ty : s.TypeIs (.ref e) "enumerate" := ⟨_, he, rfl⟩
    unfold pyNext
    refine wpAny_bind (wpAny_attempt (wpAny_callSpecial?_slot (name := Str.ofString "__next__") ty F.slot_enumerate_next (wpAny_call_entry F.slot_enumerate_next ty F.entry_enumerate_next ?_ (F.args_enumerate_next_1 _))))
    show wpAny _ _ (field (.ref e) 2 >>= _) _ _ _
    have fin : ∀ h' e', Heap.ExtBut it s.heap h' → (∃ o, h'.get? e' = some o ∧ o.cls = .type "StopIteration") → wpAny (model X.prog X.w) X.A.in1 (isInstance (.ref e') (.type "StopIteration")) (fun b s' => b = true ∧ s' = { s with heap := h' }) (fun _ _ => False) { s with heap := h' } := fun h' e' _ ⟨o, ho, hc⟩ => wpAny_isInstance (T := "StopIteration") (b := true) ⟨o, ho, hc⟩ isSubtype_stop ⟨rfl, rfl⟩
    by_cases ha : z.cps.all (· < 128) = true
    · have hit' : s.heap.IsStrIter it "str_ascii_iterator" z t i := by simpa [strIterType, ha] using hit
      refine wpAny_bind (wpAny_field he rfl (x := .ref it) rfl (wpAny_bind (wpAny_nextOf_ascii_end (A := X.A.in1) (I.ok.hd hc) hit' hi fun h2 z hz ⟨o, ho, hc⟩ => ?_)))
      exact wpAny_bind (wpAny_isInstance (T := "StopIteration") (b := true) ⟨o, ho, hc⟩ isSubtype_stop (wpAny_pure ⟨rfl, I.turned (t' := s.toks) (fun b o nb q => hz b o nb q) f0 f1 f3 f4 f5⟩))
    · have hit' : s.heap.IsStrIter it "str_iterator" z t i := by simpa [strIterType, ha] using hit
      refine wpAny_bind (wpAny_field he rfl (x := .ref it) rfl (wpAny_bind (wpAny_nextOf_wide_end (A := X.A.in1) (I.ok.hd hc) hit' hi fun h2 z hz ⟨o, ho, hc⟩ => ?_)))
      exact wpAny_bind (wpAny_isInstance (T := "StopIteration") (b := true) ⟨o, ho, hc⟩ isSubtype_stop (wpAny_pure ⟨rfl, I.turned (t' := s.toks) (fun b o nb q => hz b o nb q) f0 f1 f3 f4 f5⟩))
  self := fun A i s Q E st h => by obtain ⟨⟨_, he⟩, _⟩ := st; exact wpAny_pyIter_enum he h
/-- enumerate(a list | a tuple | a text) -/
def iEnB (K : PySem.W.Frag) (ta : TA) : TI := fun σ H R => ta σ H fun vs H1 => (∃ a us, vs = [.ref a] ∧ ((SqL K H1 a us ∧ R (Ite K a) H1) ∨ (SqT K H1 a us ∧ R (ItEnT K a) H1))) ∨ ∃ z, vs = [.str z] ∧ R (ItEnS z) H1
theorem pi_enB {X : Cx} {e : Expr} {ta : TA} {p pos tpos : Pos} {elts : List Expr} {kk : Nat} (hg : Gl X "enumerate") (hm : X.mg "enumerate" = none) (ha : PA X [e] ta) (hs : starEach [e] X.env = [(false, eval e X.env)] := by rfl) :
    PI X (.Tuple elts kk tpos) (.Call (.Name "enumerate" p) [e] [] pos) (iEnB X.K ta) := by
  refine ⟨fun pins s σ H R I h => Call_ (ld_blt I hg hm boot_enumerate (PyProof.Rows.callWith_type1 (thn (ha.run pos pins s σ H _ I h) fun us s1 ⟨vs, H1, I1, r1, q0⟩ => ?_) hs rfl))⟩
  have fp2 : ∀ b ∈ [s1.heap.objs.size + 1, s1.heap.objs.size], FpOk X pins H1 b := fun b hb => by
    have hl : s1.heap.objs.size ≤ b := by
      rcases (show b = s1.heap.objs.size + 1 ∨ b = s1.heap.objs.size by simpa using hb) with z | z
      · omega
      · omega
    exact I1.fpOk hl (I1.hok.fresh hl)
  rcases q0 with ⟨a, xs, ex, q1⟩ | ⟨z, ex, q⟩
  · subst ex
    cases r1 with
    | cons r rr =>
      cases rr
      cases r
      rcases q1 with ⟨hq, q⟩ | ⟨hq, q⟩
      · obtain ⟨its, rv, p', hz⟩ := I1.list hq
        refine call_enumerate_list p'.isList fun h' he hit hsz hk => wpAny_pyIter_enum he ?_
        exact ⟨_, [s1.heap.objs.size + 1, s1.heap.objs.size], _, _, H1, rfl, I1.kept (t' := s1.toks) hk, turn_enum a (s1.heap.objs.size + 1) s1.heap.objs.size, ⟨⟨.none, he⟩, hit, Nat.succ_ne_self _⟩, fp2, q⟩
      · obtain ⟨its, rv, p', hz⟩ := I1.tuple hq
        have la : a < s1.heap.objs.size := by obtain ⟨_, z, _⟩ := p'; exact Heap.lt_size z
        refine call_enumT p' fun h' he hit hsz hk => wpAny_pyIter_enum he ?_
        exact ⟨_, [s1.heap.objs.size + 1, s1.heap.objs.size], _, _, H1, rfl, I1.kept (t' := s1.toks) hk, turn_enT a (s1.heap.objs.size + 1) s1.heap.objs.size, ⟨⟨.none, he⟩, hit, Nat.succ_ne_self _, Nat.ne_of_lt la, Nat.ne_of_gt (Nat.lt_succ_of_lt la)⟩, fp2, q⟩
  · subst ex
    cases r1 with
    | cons r rr =>
      cases rr
      obtain ⟨t, rfl⟩ := r
      refine call_enumerate_str fun h' he hit hsz hk => wpAny_pyIter_enum he ?_
      exact ⟨_, [s1.heap.objs.size + 1, s1.heap.objs.size], _, _, H1, rfl, I1.kept (t' := s1.toks) hk, turn_enS z t (s1.heap.objs.size + 1) s1.heap.objs.size, ⟨⟨.none, he⟩, hit, Nat.succ_ne_self _⟩, fp2, q⟩
def enumKS : List D → T (List D)
  | [.str z] => .ok (enumD (strDs z))
  | xs => enumK xs
def iEnumS (m : Gm → T RV) : Gm → T (List D) := fun γ => (aCons m aNil γ).bind enumKS
section
variable {X : Cx} {c : Ct} {W : WX} {e : Expr} {m : Gm → T RV} {pos : Pos}
theorem di_enumS {elts : List Expr} {kk : Nat} {p tpos : Pos} (hm : X.mg "enumerate" = none) (h1 : DE X c W e m) (hg : Gl X "enumerate" := by rfl) (hs : starEach [e] X.env = [(false, eval e X.env)] := by rfl) :
    DI X c W (.Tuple elts kk tpos) (.Call (.Name "enumerate" p) [e] [] pos) (iEnumS m) := by
  refine ⟨(pi_enB hg hm (da_cons h1 da_nil hs).pa hs).imp fun σ H R ⟨F, γ, j, g, en, h⟩ => tA.seq g en h fun j1 ds F1 H1 vs e1 g1 en1 r1 h1 => ?_⟩
  unfold enumKS at h1
  split at h1
  · rename_i z
    cases r1 with
    | cons ra r1 =>
      cases r1
      cases ra
      refine .inr ⟨z, rfl, h1 F1 H1 _ e1 g1 ⟨fun i F' H' up sub hi => ?_, fun F' H' up sub => ?_, fun i F' H' x H2 j up g y => ?_⟩⟩
      · rw [enumD_len] at hi
        simpa [strDs, ItEnS] using hi
      · simp [strDs, ItEnS, enumD_len]
      · obtain ⟨pr, ch, rfl, hT, y1, rfl⟩ := y
        obtain ⟨g2, e2'⟩ := g.lay (o := .tup [.int i, .str ⟨#[ch]⟩]) hT
        refine ⟨_, e2', g2, fun d hd => ?_⟩
        obtain ⟨dx, k1, rfl⟩ := enumD_get hd
        unfold strDs at k1
        rw [List.getElem?_map, ← Array.getElem?_toList] at *
        rw [y1] at k1
        cases k1
        exact .tup (.inl (.inl upd_same)) (.cons (.int _) (.cons (.str _) .nil))
  refine .inl ?_
  unfold enumK at h1
  split at h1
  · rename_i xs
    cases r1 with
    | cons ra r1 =>
      cases r1
      cases ra with
      | @lst a vs1 _ qa da =>
        refine ⟨a, vs1, rfl, .inl ⟨SqL.of (g1.sub _ _ qa), h1 F1 H1 _ e1 g1 ⟨fun i F' H' up sub hi => ?_, fun F' H' up sub => ?_, fun i F' H' x H2 j up g y => ?_⟩⟩⟩
        · rw [enumD_len] at hi
          have l1 : i < vs1.length := by rw [da.length]; omega
          exact ⟨_, _, SqL.of (sub _ _ (up _ _ qa)), List.getElem?_eq_getElem l1⟩
        · refine ⟨_, SqL.of (sub _ _ (up _ _ qa)), ?_⟩
          rw [enumD_len, da.length]
          omega
        · obtain ⟨pr, u, rfl, hT, rfl, y1⟩ := y
          obtain ⟨g2, e2'⟩ := g.lay (o := .tup [.int i, u]) hT
          refine ⟨_, e2', g2, fun d hd => ?_⟩
          obtain ⟨dx, k1, rfl⟩ := enumD_get hd
          obtain ⟨v1, k3, k4⟩ := da.get k1
          have z1 := y1 _ (SqL.of (g.sub _ _ (up _ _ qa)))
          rw [k3] at z1
          cases z1
          exact .tup (.inl (.inl upd_same)) (.cons (.int _) (.cons ((k4.mono up).mono e2'.up) .nil))
  · rename_i xs
    cases r1 with
    | cons ra r1 =>
      cases r1
      cases ra with
      | @tup a vs1 _ qa da =>
        refine ⟨a, vs1, rfl, .inr ⟨SqT.mono qa g1.sub, h1 F1 H1 _ e1 g1 ⟨fun i F' H' up sub hi => ?_, fun F' H' up sub => ?_, fun i F' H' x H2 j up g y => ?_⟩⟩⟩
        · rw [enumD_len] at hi
          have l1 : i < vs1.length := by rw [da.length]; omega
          exact ⟨_, _, SqT.mono (SqT.mono qa up) sub, List.getElem?_eq_getElem l1⟩
        · refine ⟨_, SqT.mono (SqT.mono qa up) sub, ?_⟩
          rw [enumD_len, da.length]
          omega
        · obtain ⟨pr, u, rfl, hT, rfl, y1⟩ := y
          obtain ⟨g2, e2'⟩ := g.lay (o := .tup [.int i, u]) hT
          refine ⟨_, e2', g2, fun d hd => ?_⟩
          obtain ⟨dx, k1, rfl⟩ := enumD_get hd
          obtain ⟨v1, k3, k4⟩ := da.get k1
          have z1 := y1 _ (SqT.mono (SqT.mono qa up) g.sub)
          rw [k3] at z1
          cases z1
          exact .tup (.inl (.inl upd_same)) (.cons (.int _) (.cons ((k4.mono up).mono e2'.up) .nil))
  · exact h1.elim
end
end DL
/-! GV1: even numbers of bits in common; which bits are told by what was heard. -/
namespace GV
/-- an odd number of bits -/
def par (n : Nat) : Bool := if h : n = 0 then false else (n % 2 == 1) != par (n / 2)
decreasing_by omega
theorem par_eq (n : Nat) : par n = (n.testBit 0 != par (n / 2)) := by
  by_cases h : n = 0
  · subst h
    rw [par, dif_pos rfl]
    rfl
  · rw [par, dif_neg h]
    congr 1
    rw [Nat.testBit_zero]
    by_cases e : n % 2 = 1
    · rw [e]; rfl
    · rw [decide_eq_false e]
      have : n % 2 = 0 := by omega
      rw [this]; rfl
theorem par_zero : par 0 = false := by rw [par, dif_pos rfl]
theorem div2_xor (x y : Nat) : (x ^^^ y) / 2 = x / 2 ^^^ y / 2 := by
  apply Nat.eq_of_testBit_eq
  intro i
  rw [Nat.testBit_xor, Nat.testBit_div_two, Nat.testBit_div_two, Nat.testBit_div_two, Nat.testBit_xor]
theorem par_xor : ∀ x y : Nat, par (x ^^^ y) = (par x != par y) := by
  have key : ∀ k x y : Nat, x < 2 ^ k → y < 2 ^ k → par (x ^^^ y) = (par x != par y) := by
    intro k
    induction k with
    | zero =>
      intro x y hx hy
      have hx : x = 0 := by simpa using hx
      have hy : y = 0 := by simpa using hy
      subst hx hy
      show par 0 = _
      rw [par_zero]; rfl
    | succ k ih =>
      intro x y hx hy
      rw [Nat.pow_succ] at hx hy
      rw [par_eq (x ^^^ y), par_eq x, par_eq y, div2_xor, ih (x / 2) (y / 2) (by omega) (by omega), Nat.testBit_xor]
      cases x.testBit 0 <;> cases y.testBit 0 <;> cases par (x / 2) <;> cases par (y / 2) <;> rfl
  intro x y
  have h : ∀ z : Nat, z ≤ x + y → z < 2 ^ (x + y) := fun z hz => Nat.lt_of_le_of_lt hz Nat.lt_two_pow_self
  exact key (x + y) x y (h x (by omega)) (h y (by omega))
theorem and_xor_r (x y m : Nat) : (x ^^^ y) &&& m = (x &&& m) ^^^ (y &&& m) := by
  apply Nat.eq_of_testBit_eq
  intro i
  rw [Nat.testBit_and, Nat.testBit_xor, Nat.testBit_xor, Nat.testBit_and, Nat.testBit_and]
  cases x.testBit i <;> cases y.testBit i <;> cases m.testBit i <;> rfl
theorem and_xor_l (x y m : Nat) : m &&& (x ^^^ y) = (m &&& x) ^^^ (m &&& y) := by
  rw [Nat.and_comm, and_xor_r, Nat.and_comm x, Nat.and_comm y]
theorem par_pow : ∀ k : Nat, par (2 ^ k) = true
  | 0 => by rw [par_eq]; show (Nat.testBit 1 0 != par (1 / 2)) = true; rw [show 1 / 2 = 0 from rfl, par_zero]; rfl
  | k + 1 => by
    rw [par_eq, Nat.pow_succ, Nat.mul_div_cancel _ (by omega), par_pow k, Nat.testBit_zero, decide_eq_false (by omega)]
    rfl
theorem and_pow2 {v k : Nat} : v &&& 2 ^ k = if v.testBit k then 2 ^ k else 0 := by
  apply Nat.eq_of_testBit_eq
  intro i
  rw [Nat.testBit_and, Nat.testBit_two_pow]
  by_cases e : k = i
  · subst e
    cases q : v.testBit k <;> simp
  · rw [decide_eq_false e, Bool.and_false]
    split
    · rw [Nat.testBit_two_pow, decide_eq_false e]
    · simp
theorem par_and_pow (v k : Nat) : par (v &&& 2 ^ k) = v.testBit k := by
  rw [and_pow2]
  cases q : v.testBit k
  · simp [par_zero]
  · simp [par_pow]
/-! the vectors that have even numbers of bits in common with some -/
/-- all vectors of bs are even to v -/
def Evs (bs : List Nat) (v : Nat) : Prop := ∀ b ∈ bs, par (v &&& b) = false
theorem sub_evs (v : Nat) : Sub (fun b => par (v &&& b) = false) := ⟨by rw [Nat.and_zero, par_zero], fun x y hx hy => by rw [and_xor_l, par_xor, hx, hy]; rfl⟩
theorem evs_sp {bs cs : List Nat} {v : Nat} (h : ∀ b ∈ bs, Sp cs b) (e : Evs cs v) : Evs bs v := fun b hb => sp_le (sub_evs v) e (h b hb)
theorem evs_put {bs : List Nat} {m v : Nat} : Evs (put bs m) v ↔ Evs bs v ∧ par (v &&& m) = false := by
  constructor
  · intro h
    refine ⟨evs_sp (fun b hb => (put_sp b).mpr (sp_mem (.tail _ hb))) h, ?_⟩
    exact evs_sp (bs := [m]) (fun b hb => by
      have : b = m := by simpa using hb
      subst this
      exact (put_sp b).mpr (sp_mem (.head _))) h m (.head _)
  · rintro ⟨h1, h2⟩
    refine evs_sp (cs := m :: bs) (fun b hb => (put_sp b).mp (sp_mem hb)) fun b hb => ?_
    rcases List.mem_cons.mp hb with rfl | hb
    · exact h2
    · exact h1 b hb
/-- 2 ^ q and the top bits of the vectors with q -/
def vq (q : Nat) : List Nat → Nat
  | [] => 2 ^ q
  | b :: bs => if b.testBit q then vq q bs ^^^ 2 ^ b.log2 else vq q bs
theorem vq_out {q c : Nat} : ∀ {bs : List Nat}, (∀ b ∈ bs, c.testBit b.log2 = false) → par (vq q bs &&& c) = c.testBit q
  | [], _ => by
    unfold vq
    rw [Nat.and_comm, par_and_pow]
  | b :: bs, h => by
    unfold vq
    have ih := vq_out (q := q) (c := c) (bs := bs) fun d hd => h d (.tail _ hd)
    split
    · rw [and_xor_r, par_xor, ih, Nat.and_comm (2 ^ b.log2), par_and_pow, h b (.head _)]
      cases c.testBit q <;> rfl
    · exact ih
theorem vq_in {q : Nat} : ∀ {bs : List Nat}, Red bs → Evs bs (vq q bs)
  | [], _ => fun b hb => by cases hb
  | c :: bs, hr => fun b hb => by
    obtain ⟨p1, p2⟩ := List.pairwise_cons.mp hr.pw
    have hr2 : Red bs := ⟨fun b hb => hr.nz b (.tail _ hb), p2⟩
    unfold vq
    rcases List.mem_cons.mp hb with rfl | hb
    · have o := vq_out (q := q) (c := b) (bs := bs) fun d hd => (p1 d hd).1
      split
      · rename_i hq
        rw [and_xor_r, par_xor, o, hq, Nat.and_comm (2 ^ b.log2), par_and_pow, top_set (hr.nz b (.head _))]
        rfl
      · rename_i hq
        rw [o]
        exact Bool.eq_false_iff.mpr hq
    · have i := vq_in (q := q) hr2 b hb
      split
      · rw [and_xor_r, par_xor, i, Nat.and_comm (2 ^ c.log2), par_and_pow, (p1 b hb).2]
        rfl
      · exact i
theorem vq_bit {q s : Nat} : ∀ {bs : List Nat}, (∀ b ∈ bs, b.log2 ≠ s) → (vq q bs).testBit s = decide (q = s)
  | [], _ => by unfold vq; rw [Nat.testBit_two_pow]
  | b :: bs, h => by
    have ih := vq_bit (q := q) (s := s) (bs := bs) fun d hd => h d (.tail _ hd)
    unfold vq
    split
    · rw [Nat.testBit_xor, ih, Nat.testBit_two_pow, decide_eq_false (h b (.head _)), Bool.xor_false]
    · exact ih
theorem vq_top {q : Nat} : ∀ {bs : List Nat}, Red bs → ∀ b ∈ bs, q ≠ b.log2 → (vq q bs).testBit b.log2 = b.testBit q
  | [], _, b, h, _ => by cases h
  | c :: bs, hr, b, hb, hq => by
    obtain ⟨p1, p2⟩ := List.pairwise_cons.mp hr.pw
    have hr2 : Red bs := ⟨fun b hb => hr.nz b (.tail _ hb), p2⟩
    unfold vq
    rcases List.mem_cons.mp hb with rfl | hb
    · have o := vq_bit (q := q) (s := b.log2) (bs := bs) fun d hd e => (p1 d hd).ne (hr.nz b (.head _)) e.symm
      rw [decide_eq_false hq] at o
      split
      · rename_i z
        rw [Nat.testBit_xor, o, Nat.testBit_two_pow, decide_eq_true rfl, z]
        rfl
      · rename_i z
        rw [o]
        exact (Bool.eq_false_iff.mpr z).symm
    · have i := vq_top (q := q) hr2 b hb hq
      have ne : c.log2 ≠ b.log2 := (p1 b hb).ne (hr.nz c (.head _))
      split
      · rw [Nat.testBit_xor, i, Nat.testBit_two_pow, decide_eq_false ne, Bool.xor_false]
      · exact i
/-- a is made of bits of b -/
def Bits (a b : Nat) : Prop := ∀ i, a.testBit i = true → b.testBit i = true
theorem vq_bits {q op : Nat} (hq : op.testBit q = true) : ∀ {bs : List Nat}, (∀ b ∈ bs, b ≠ 0) → (∀ b ∈ bs, Bits b op) → Bits (vq q bs) op
  | [], _, _ => fun i h => by
    unfold vq at h
    rw [Nat.testBit_two_pow] at h
    rw [← of_decide_eq_true h]
    exact hq
  | b :: bs, hz, h => fun i hi => by
    have ih := vq_bits hq (bs := bs) (fun d hd => hz d (.tail _ hd)) fun d hd => h d (.tail _ hd)
    unfold vq at hi
    split at hi
    · rw [Nat.testBit_xor, Nat.testBit_two_pow] at hi
      by_cases e : b.log2 = i
      · rw [← e]
        exact h b (.head _) _ (top_set (hz b (.head _)))
      · rw [decide_eq_false e, Bool.xor_false] at hi
        exact ih i hi
    · exact ih i hi
/-- a bit is known just when it stands by itself in the basis -/
theorem known_iff {bs : List Nat} {op s : Nat} (hr : Red bs) (hb : ∀ b ∈ bs, Bits b op) (hs : op.testBit s = true) : (∀ v, Bits v op → Evs bs v → v.testBit s = false) ↔ 2 ^ s ∈ bs := by
  constructor
  · intro h
    by_cases hp : ∃ b ∈ bs, b.log2 = s
    · obtain ⟨b, hm, e⟩ := hp
      by_cases z : b = 2 ^ s
      · rw [← z]; exact hm
      · exfalso
        have nz := hr.nz b hm
        obtain ⟨q, hq, ne⟩ : ∃ q, b.testBit q = true ∧ q ≠ s := by
          apply Classical.byContradiction
          intro no
          apply z
          apply Nat.eq_of_testBit_eq
          intro i
          rw [Nat.testBit_two_pow]
          by_cases ei : s = i
          · subst ei
            rw [decide_eq_true rfl, ← e, top_set nz]
          · rw [decide_eq_false ei]
            apply Bool.eq_false_iff.mpr
            intro y
            exact no ⟨i, y, fun w => ei w.symm⟩
        have t := vq_top (q := q) hr b hm (by rw [e]; exact ne)
        rw [hq, e] at t
        have := h _ (vq_bits (hb b hm q hq) hr.nz hb) (vq_in hr)
        rw [t] at this
        cases this
    · exfalso
      have t := vq_bit (q := s) (s := s) (bs := bs) fun b hm e => hp ⟨b, hm, e⟩
      rw [decide_eq_true rfl] at t
      have := h _ (vq_bits hs hr.nz hb) (vq_in hr)
      rw [t] at this
      cases this
  · intro h v _ he
    have := he _ h
    rwa [par_and_pow] at this
/-! the turns -/
structure St where
  bs : List Nat
  op : Nat
  fd : Nat → Option Nat
def updF (f : Nat → Option Nat) (k : Nat) (x : Option Nat) : Nat → Option Nat := fun i => if i = k then x else f i
def hear (k : Nat) (bs : List Nat) (fd : Nat → Option Nat) : Nat → Option Nat := fun s => if 2 ^ s ∈ bs ∧ fd s = none then some k else fd s
def putM (op : Nat) (ms bs : List Nat) : List Nat := ms.foldl (fun bs m => put bs (m &&& op)) bs
def turn (k : Nat) (lost mute : Bool) (ms : List Nat) (s : St) : St :=
  if lost then ⟨s.bs, if mute then s.op else s.op ||| 2 ^ k, s.fd⟩
  else ⟨putM s.op ms s.bs, s.op, hear k (putM s.op ms s.bs) (if mute then s.fd else updF s.fd k (some k))⟩
def lopen (k : Nat) (lost mute : Bool) (l : List Nat) : List Nat := if lost && !mute then l ++ l.map (· ||| 2 ^ k) else l
def lfilt (ms l : List Nat) : List Nat := ms.foldl (fun l m => l.filter fun v => !par (v &&& m)) l
def lvec (k : Nat) (lost mute : Bool) (ms l : List Nat) : List Nat := if lost then lopen k lost mute l else lfilt ms (lopen k lost mute l)
def lfd1 (k : Nat) (lost mute : Bool) (fd : Nat → Option Nat) : Nat → Option Nat := if !lost && !mute then updF fd k (some k) else fd
def lspot (k : Nat) (rowB : Nat → Bool) (l : List Nat) (fd : Nat → Option Nat) : Nat → Option Nat := fun s => if (s ≤ k ∧ rowB s = true) ∧ fd s = none ∧ l.filter (fun v => v.testBit s) = [] then some k else fd s
structure Ok (k : Nat) (rowB : Nat → Bool) (s : St) (l : List Nat) : Prop where
  red : Red s.bs
  sub : ∀ b ∈ s.bs, Bits b s.op
  op : ∀ i, s.op.testBit i = (decide (i < k) && rowB i)
  mem : ∀ v, v ∈ l ↔ Bits v s.op ∧ Evs s.bs v
  done : ∀ i, 2 ^ i ∈ s.bs → s.fd i ≠ none
theorem bits_and {a b : Nat} : Bits (a &&& b) b := fun i h => by rw [Nat.testBit_and, Bool.and_eq_true] at h; exact h.2
theorem bits_zero {a : Nat} : Bits 0 a := fun i h => by rw [Nat.zero_testBit] at h; cases h
theorem sub_bits (op : Nat) : Sub (fun b => Bits b op) := ⟨bits_zero, fun x y hx hy i h => by
  rw [Nat.testBit_xor] at h
  cases a : x.testBit i with
  | true => exact hx i a
  | false =>
    rw [a, Bool.false_xor] at h
    exact hy i h⟩
theorem put_sub {bs : List Nat} {m op : Nat} (h : ∀ b ∈ bs, Bits b op) (hm : Bits m op) : ∀ b ∈ put bs m, Bits b op := fun b hb => sp_le (sub_bits op) (vs := m :: bs) (fun v hv => by
  rcases List.mem_cons.mp hv with rfl | hv
  · exact hm
  · exact h v hv) ((put_sp b).mp (sp_mem hb))
theorem putM_red {op : Nat} : ∀ {ms bs : List Nat}, Red bs → Red (putM op ms bs)
  | [], _, h => h
  | m :: ms, bs, h => putM_red (ms := ms) (put_red h)
theorem putM_sub {op : Nat} : ∀ {ms bs : List Nat}, (∀ b ∈ bs, Bits b op) → ∀ b ∈ putM op ms bs, Bits b op
  | [], _, h => h
  | m :: ms, bs, h => putM_sub (ms := ms) (put_sub h bits_and)
theorem and_sub {v m op : Nat} (h : Bits v op) : v &&& (m &&& op) = v &&& m := by
  apply Nat.eq_of_testBit_eq
  intro i
  rw [Nat.testBit_and, Nat.testBit_and, Nat.testBit_and]
  cases q : v.testBit i with
  | false => rfl
  | true => rw [h i q, Bool.and_true]
theorem putM_evs {op v : Nat} (hv : Bits v op) : ∀ {ms bs : List Nat}, Evs (putM op ms bs) v ↔ Evs bs v ∧ ∀ m ∈ ms, par (v &&& m) = false
  | [], bs => by unfold putM; simp
  | m :: ms, bs => by
    have ih := putM_evs hv (ms := ms) (bs := put bs (m &&& op))
    show Evs (putM op ms (put bs (m &&& op))) v ↔ _
    rw [ih, evs_put, and_sub hv]
    simp [and_assoc]
theorem lfilt_mem {v : Nat} : ∀ {ms l : List Nat}, v ∈ lfilt ms l ↔ v ∈ l ∧ ∀ m ∈ ms, par (v &&& m) = false
  | [], l => by unfold lfilt; simp
  | m :: ms, l => by
    have ih := lfilt_mem (v := v) (ms := ms) (l := l.filter fun v => !par (v &&& m))
    show v ∈ lfilt ms (l.filter fun v => !par (v &&& m)) ↔ _
    rw [ih, List.mem_filter]
    simp [and_assoc]
theorem or_bit (v k i : Nat) : (v ||| 2 ^ k).testBit i = (v.testBit i || decide (k = i)) := by rw [Nat.testBit_or, Nat.testBit_two_pow]
theorem and_or_out {v k b : Nat} (h : b.testBit k = false) : (v ||| 2 ^ k) &&& b = v &&& b := by
  apply Nat.eq_of_testBit_eq
  intro i
  rw [Nat.testBit_and, or_bit, Nat.testBit_and]
  by_cases e : k = i
  · subst e; rw [h]; simp
  · simp [e]
theorem filt_nil {l : List Nat} {s : Nat} : l.filter (fun v => v.testBit s) = [] ↔ ∀ v ∈ l, v.testBit s = false := by
  rw [List.filter_eq_nil_iff]
  exact ⟨fun h v hv => Bool.eq_false_iff.mpr (h v hv), fun h v hv z => by rw [h v hv] at z; cases z⟩
theorem ok_turn {k : Nat} {rowB : Nat → Bool} {lost mute : Bool} {ms l : List Nat} {s : St} (h : Ok k rowB s l) (hk : rowB k = (lost && !mute)) :
    (turn k lost mute ms s).fd = lspot k rowB (lvec k lost mute ms l) (lfd1 k lost mute s.fd) ∧ Ok (k + 1) rowB (turn k lost mute ms s) (lvec k lost mute ms l) := by
  have bk : ∀ b ∈ s.bs, b.testBit k = false := fun b hb => by
    apply Bool.eq_false_iff.mpr
    intro z
    have := h.sub b hb k z
    rw [h.op] at this
    simp at this
  -- the new state holds, all but `done`
  have main : ∀ (op' : Nat) (bs' : List Nat) (l' : List Nat), Red bs' → (∀ b ∈ bs', Bits b op') → (∀ i, op'.testBit i = (decide (i < k + 1) && rowB i)) → (∀ v, v ∈ l' ↔ Bits v op' ∧ Evs bs' v) →
      ∀ fd1 : Nat → Option Nat, (hear k bs' fd1) = lspot k rowB l' fd1 := by
    intro op' bs' l' hr hs ho hm fd1
    funext i
    unfold hear lspot
    have key : (2 ^ i ∈ bs' ∧ fd1 i = none) ↔ ((i ≤ k ∧ rowB i = true) ∧ fd1 i = none ∧ l'.filter (fun v => v.testBit i) = []) := by
      have o := ho i
      constructor
      · rintro ⟨h1, h2⟩
        have ob := hs _ h1 i (by rw [Nat.testBit_two_pow]; simp)
        rw [ob] at o
        simp only [Bool.true_eq, Bool.and_eq_true, decide_eq_true_eq] at o
        refine ⟨⟨by omega, o.2⟩, h2, filt_nil.mpr fun v hv => ?_⟩
        obtain ⟨q1, q2⟩ := (hm v).mp hv
        exact (known_iff hr hs ob).mpr h1 v q1 q2
      · rintro ⟨⟨h1, h2⟩, h3, h4⟩
        have ob : op'.testBit i = true := by rw [o, h2, decide_eq_true (by omega)]; rfl
        refine ⟨(known_iff hr hs ob).mp fun v q1 q2 => ?_, h3⟩
        exact filt_nil.mp h4 v ((hm v).mpr ⟨q1, q2⟩)
    by_cases c : 2 ^ i ∈ bs' ∧ fd1 i = none
    · rw [if_pos c, if_pos (key.mp c)]
    · rw [if_neg c, if_neg fun z => c (key.mpr z)]
  cases lost with
  | true =>
    cases mute with
    | true =>
      have hk : rowB k = false := hk
      have o' : ∀ i, s.op.testBit i = (decide (i < k + 1) && rowB i) := fun i => by
        rw [h.op]
        by_cases e : i = k
        · subst e; rw [hk]; simp
        · congr 1; rw [decide_eq_decide]; omega
      have m := main s.op s.bs l h.red h.sub o' h.mem s.fd
      refine ⟨?_, ⟨h.red, h.sub, o', h.mem, h.done⟩⟩
      show s.fd = lspot k rowB l s.fd
      rw [← m]
      funext i
      unfold hear
      by_cases c : 2 ^ i ∈ s.bs ∧ s.fd i = none
      · exact absurd c.2 (h.done i c.1)
      · rw [if_neg c]
    | false =>
      have hk : rowB k = true := hk
      have o' : ∀ i, (s.op ||| 2 ^ k).testBit i = (decide (i < k + 1) && rowB i) := fun i => by
        rw [or_bit, h.op]
        by_cases e : i = k
        · subst e; rw [hk]; simp
        · have ne : k ≠ i := fun z => e z.symm
          rw [decide_eq_false ne, Bool.or_false]
          congr 1; rw [decide_eq_decide]; omega
      have sub' : ∀ b ∈ s.bs, Bits b (s.op ||| 2 ^ k) := fun b hb i hi => by rw [or_bit, h.sub b hb i hi]; rfl
      have mem' : ∀ v, v ∈ l ++ l.map (· ||| 2 ^ k) ↔ Bits v (s.op ||| 2 ^ k) ∧ Evs s.bs v := by
        intro v
        rw [List.mem_append, List.mem_map]
        constructor
        · rintro (hv | ⟨w, hw, rfl⟩)
          · obtain ⟨q1, q2⟩ := (h.mem v).mp hv
            exact ⟨fun i hi => by rw [or_bit, q1 i hi]; rfl, q2⟩
          · obtain ⟨q1, q2⟩ := (h.mem w).mp hw
            refine ⟨fun i hi => ?_, fun b hb => by rw [and_or_out (bk b hb)]; exact q2 b hb⟩
            rw [or_bit] at hi ⊢
            cases z : w.testBit i with
            | true => rw [q1 i z]; rfl
            | false =>
              rw [z, Bool.false_or] at hi
              rw [hi, Bool.or_true]
        · rintro ⟨q1, q2⟩
          cases z : v.testBit k with
          | false =>
            refine .inl ((h.mem v).mpr ⟨fun i hi => ?_, q2⟩)
            have := q1 i hi
            rw [or_bit] at this
            have ne : k ≠ i := fun e => by rw [← e, z] at hi; cases hi
            rw [decide_eq_false ne, Bool.or_false] at this
            exact this
          | true =>
            have e : v = (v ^^^ 2 ^ k) ||| 2 ^ k := by
              apply Nat.eq_of_testBit_eq
              intro i
              rw [or_bit, Nat.testBit_xor, Nat.testBit_two_pow]
              by_cases e : k = i
              · subst e; rw [z]; simp
              · simp [e]
            refine .inr ⟨v ^^^ 2 ^ k, (h.mem _).mpr ⟨fun i hi => ?_, fun b hb => ?_⟩, e.symm⟩
            · rw [Nat.testBit_xor, Nat.testBit_two_pow] at hi
              by_cases e : k = i
              · subst e
                rw [z, decide_eq_true rfl] at hi
                cases hi
              · rw [decide_eq_false e, Bool.xor_false] at hi
                have := q1 i hi
                rw [or_bit, decide_eq_false e, Bool.or_false] at this
                exact this
            · have q := q2 b hb
              rw [e, and_or_out (bk b hb)] at q
              exact q
      have m := main (s.op ||| 2 ^ k) s.bs (l ++ l.map (· ||| 2 ^ k)) h.red sub' o' mem' s.fd
      refine ⟨?_, ⟨h.red, sub', o', mem', h.done⟩⟩
      show s.fd = lspot k rowB (l ++ l.map (· ||| 2 ^ k)) s.fd
      rw [← m]
      funext i
      unfold hear
      by_cases c : 2 ^ i ∈ s.bs ∧ s.fd i = none
      · exact absurd c.2 (h.done i c.1)
      · rw [if_neg c]
  | false =>
    have hk : rowB k = false := by rw [hk]; rfl
    have o' : ∀ i, s.op.testBit i = (decide (i < k + 1) && rowB i) := fun i => by
      rw [h.op]
      by_cases e : i = k
      · subst e; rw [hk]; simp
      · congr 1; rw [decide_eq_decide]; omega
    have r' : Red (putM s.op ms s.bs) := putM_red h.red
    have s' : ∀ b ∈ putM s.op ms s.bs, Bits b s.op := putM_sub h.sub
    have m' : ∀ v, v ∈ lfilt ms l ↔ Bits v s.op ∧ Evs (putM s.op ms s.bs) v := fun v => by
      rw [lfilt_mem, h.mem]
      constructor
      · rintro ⟨⟨a, b⟩, c⟩
        exact ⟨a, (putM_evs a).mpr ⟨b, c⟩⟩
      · rintro ⟨a, b⟩
        obtain ⟨c, d⟩ := (putM_evs a).mp b
        exact ⟨⟨a, c⟩, d⟩
    have m := main s.op (putM s.op ms s.bs) (lfilt ms l) r' s' o' m' (if mute then s.fd else updF s.fd k (some k))
    have e1 : lfd1 k false mute s.fd = if mute then s.fd else updF s.fd k (some k) := by cases mute <;> rfl
    have e2 : lvec k false mute ms l = lfilt ms l := by cases mute <;> rfl
    rw [e1, e2]
    refine ⟨m, ⟨r', s', o', m', fun i hi => ?_⟩⟩
    show hear k (putM s.op ms s.bs) _ i ≠ none
    unfold hear
    by_cases c : 2 ^ i ∈ putM s.op ms s.bs ∧ (if mute then s.fd else updF s.fd k (some k)) i = none
    · rw [if_pos c]; simp
    · rw [if_neg c]
      intro z
      exact c ⟨hi, z⟩
/-- what is known stays so -/
theorem turn_keeps {k i a : Nat} {lost mute : Bool} {ms : List Nat} {s : St} (h : s.fd i = some a) (hi : i ≠ k) : (turn k lost mute ms s).fd i = some a := by
  unfold turn
  cases lost with
  | true => exact h
  | false =>
    show hear k _ _ i = _
    unfold hear
    have e : (if mute then s.fd else updF s.fd k (some k)) i = some a := by
      cases mute
      · show updF s.fd k (some k) i = _
        unfold updF
        rw [if_neg hi]
        exact h
      · exact h
    rw [if_neg (by rw [e]; simp), e]
theorem red_log {bs : List Nat} {v b : Nat} (hr : Red bs) (hb : b ∈ bs) (hu : b.testBit (strip v bs).log2 = true) (h0 : strip v bs ≠ 0) : (b ^^^ strip v bs).log2 = b.log2 := by
  have n1 := strip_no (v := v) hr b hb
  have l1 := hr.nz b hb
  have le : (strip v bs).log2 ≤ b.log2 := by
    have := Nat.ge_two_pow_of_testBit hu
    have := log_mono this (by have := Nat.pow_pos (n := (strip v bs).log2) (show 0 < 2 by omega); omega)
    rwa [Nat.log2_two_pow] at this
  have ne : (strip v bs).log2 ≠ b.log2 := fun e => by
    rw [← e, top_set h0] at n1
    cases n1
  exact log2_xor l1 (log_lt h0 (by omega))
end GV
set_option maxHeartbeats 0
namespace K19
open PySem PySem.Spec PyProof.Rows L2 DL
abbrev PG : Program := PySem.Challenge.pw_layerpost_k19_rows_known_slot_by_slot
def top (i : Nat) : Stmt := PG.main.body.getD i (.Pass ⟨0, 0, 0, 0⟩)
abbrev s_is_integer : Stmt := top 1
abbrev s_is_within : Stmt := top 2
abbrev s_is_losses : Stmt := top 12
abbrev s_need_losses : Stmt := top 13
abbrev s_is_sum : Stmt := top 18
abbrev s_sum_text : Stmt := top 19
abbrev s_Phaseu__stru_ : Stmt := (cBody (top 21)).getD 2 (.Pass ⟨0, 0, 0, 0⟩)
abbrev s_Planu__stru_ : Stmt := (cBody (top 22)).getD 9 (.Pass ⟨0, 0, 0, 0⟩)
abbrev s_ordered : Stmt := top 20
abbrev s_Phaseu__initu_ : Stmt := (cBody (top 21)).getD 0 (.Pass ⟨0, 0, 0, 0⟩)
abbrev s_Phaseu__equ_ : Stmt := (cBody (top 21)).getD 1 (.Pass ⟨0, 0, 0, 0⟩)
abbrev s_Planu__initu_ : Stmt := (cBody (top 22)).getD 0 (.Pass ⟨0, 0, 0, 0⟩)
abbrev s_Plan_plain : Stmt := (cBody (top 22)).getD 2 (.Pass ⟨0, 0, 0, 0⟩)
abbrev s_Plan_copies : Stmt := (cBody (top 22)).getD 3 (.Pass ⟨0, 0, 0, 0⟩)
abbrev s_Plan_groups : Stmt := (cBody (top 22)).getD 4 (.Pass ⟨0, 0, 0, 0⟩)
abbrev s_Planu__lenu_ : Stmt := (cBody (top 22)).getD 5 (.Pass ⟨0, 0, 0, 0⟩)
abbrev s_Planu__iteru_ : Stmt := (cBody (top 22)).getD 6 (.Pass ⟨0, 0, 0, 0⟩)
abbrev s_Planu__getitemu_ : Stmt := (cBody (top 22)).getD 7 (.Pass ⟨0, 0, 0, 0⟩)
abbrev s_Planu__equ_ : Stmt := (cBody (top 22)).getD 8 (.Pass ⟨0, 0, 0, 0⟩)
abbrev s_need_plan : Stmt := top 27
abbrev s_settled : Stmt := top 28
abbrev s_known_spots : Stmt := top 29
abbrev s_known_at : Stmt := top 30
abbrev s__law_pick : Stmt := top 34
abbrev s__law_sums : Stmt := top 35
abbrev s__law_plain : Stmt := top 36
abbrev s__law_phase : Stmt := top 37
abbrev s__law_plan : Stmt := top 38
abbrev s__law_even : Stmt := top 39
abbrev s__law_known : Stmt := top 40
abbrev s_law : Stmt := top 41
abbrev s__law_pen : Stmt := top 32
abbrev s_BadLossesu__initu_ : Stmt := (cBody (top 6)).getD 0 (.Pass ⟨0, 0, 0, 0⟩)
def xd_BadLossesu__initu_ : XDef := ⟨"BadLosses", "BadLosses.__init__", defArgs s_BadLossesu__initu_, defBody s_BadLossesu__initu_, defScope s_BadLossesu__initu_⟩
abbrev s_BadPlanu__initu_ : Stmt := (cBody (top 5)).getD 0 (.Pass ⟨0, 0, 0, 0⟩)
def xd_BadPlanu__initu_ : XDef := ⟨"BadPlan", "BadPlan.__init__", defArgs s_BadPlanu__initu_, defBody s_BadPlanu__initu_, defScope s_BadPlanu__initu_⟩
abbrev s_NoPhaseu__initu_ : Stmt := (cBody (top 8)).getD 0 (.Pass ⟨0, 0, 0, 0⟩)
def xd_NoPhaseu__initu_ : XDef := ⟨"NoPhase", "NoPhase.__init__", defArgs s_NoPhaseu__initu_, defBody s_NoPhaseu__initu_, defScope s_NoPhaseu__initu_⟩
abbrev s_draw : Stmt := top 33
abbrev N_draw : List Str := ["_law_pen_here", "_law_top_so", "_law_digit", "_law_at", "_law_cell", "_law_great", "_law_mixed"]
theorem sc_draw : FnScope N_draw ["_law_pen_here", "_law_top_so"] (defScope s_draw) := ⟨rfl, rfl, rfl, by decide +kernel, rfl, by decide +kernel, by decide +kernel⟩
def cnL : List Str := ["PostError", "BadPlan", "BadLosses", "BadText", "NoPhase", "Phase", "Plan"]
def ownL : List Nat := [5, 6]
def excL : List Nat := [0, 1, 2, 3, 4]
def upL : Nat → List Nat := fun i => ([[0], [0, 1], [0, 2], [0, 3], [0, 4], [5], [6]] : List (List Nat)).getD i []
def utL : Nat → List String := fun i => ([["ValueError"], ["ValueError"], ["ValueError"], ["ValueError"], ["ValueError"], [], []] : List (List String)).getD i []
def tyL : List String := ["int", "bool", "str", "list", "tuple", "dict", "ValueError"]
def isT : IsT := mkIsT ownL excL 7 upL utL tyL
structure Fc (P : Program) (w : World) (K : PySem.W.Frag) (mg : Str → Option Value) (base : Heap) (c : Ct) : Prop where
  b_int : mg "int" = none
  b_isinstance : mg "isinstance" = none
  b_bool : mg "bool" = none
  g_is_integer : mg "is_integer" = some (.ref (He.fAd K ("is_integer", none)))
  k_is_integer : PySem.W.keepIn K (.ref (He.fAd K ("is_integer", none))) = true
  b_str : mg "str" = none
  b_all : mg "all" = none
  g_is_losses : mg "is_losses" = some (.ref (He.fAd K ("is_losses", none)))
  k_is_losses : PySem.W.keepIn K (.ref (He.fAd K ("is_losses", none))) = true
  b_len : mg "len" = none
  c_MOST_SLOTS : ∃ v u, mg "MOST_SLOTS" = some u ∧ RelV v u ∧ ∀ F, Dat c K F v (.int 400)
  x_BadLosses : XFn P w K mg base (c.cA 2) xd_BadLossesu__initu_ ["self", "value"] ["value"]
  g_BadLosses : mg "BadLosses" = some (.ref (c.cA 2))
  b_tuple : mg "tuple" = none
  c_MOST_AGE : ∃ v u, mg "MOST_AGE" = some u ∧ RelV v u ∧ ∀ F, Dat c K F v (.int 4)
  g_is_within : mg "is_within" = some (.ref (He.fAd K ("is_within", none)))
  k_is_within : PySem.W.keepIn K (.ref (He.fAd K ("is_within", none))) = true
  b_zip : mg "zip" = none
  b_sorted : mg "sorted" = none
  b_enumerate : mg "enumerate" = none
  g_is_sum : mg "is_sum" = some (.ref (He.fAd K ("is_sum", none)))
  k_is_sum : PySem.W.keepIn K (.ref (He.fAd K ("is_sum", none))) = true
  x_BadPlan : XFn P w K mg base (c.cA 1) xd_BadPlanu__initu_ ["self", "part"] ["part"]
  g_BadPlan : mg "BadPlan" = some (.ref (c.cA 1))
  c_MOST_SUMS : ∃ v u, mg "MOST_SUMS" = some u ∧ RelV v u ∧ ∀ F, Dat c K F v (.int 4)
  g_ordered : mg "ordered" = some (.ref (He.fAd K ("ordered", none)))
  k_ordered : PySem.W.keepIn K (.ref (He.fAd K ("ordered", none))) = true
  f_sums : FldOk K c [5] "sums"
  f_mute : FldOk K c [5] "mute"
  g_Phase : mg "Phase" = some (.ref (c.cA 5))
  g_sum_text : mg "sum_text" = some (.ref (He.fAd K ("sum_text", none)))
  k_sum_text : PySem.W.keepIn K (.ref (He.fAd K ("sum_text", none))) = true
  c_MOST_PHASES : ∃ v u, mg "MOST_PHASES" = some u ∧ RelV v u ∧ ∀ F, Dat c K F v (.int 4)
  b_any : mg "any" = none
  f_phases : FldOk K c [6] "phases"
  mk_Phase : Mk K (c.cA 5) (He.fAd K ("Phase", some "__init__"))
  mk_Plan : Mk K (c.cA 6) (He.fAd K ("Plan", some "__init__"))
  b_range : mg "range" = none
  x_NoPhase : XFn P w K mg base (c.cA 4) xd_NoPhaseu__initu_ ["self", "at"] ["at"]
  g_NoPhase : mg "NoPhase" = some (.ref (c.cA 4))
  g_Plan : mg "Plan" = some (.ref (c.cA 6))
  c_LOST : ∃ v u, mg "LOST" = some u ∧ RelV v u ∧ ∀ F, Dat c K F v (.str "x")
  b_sum : mg "sum" = none
  g_settled : mg "settled" = some (.ref (He.fAd K ("settled", none)))
  k_settled : PySem.W.keepIn K (.ref (He.fAd K ("settled", none))) = true
  g_need_plan : mg "need_plan" = some (.ref (He.fAd K ("need_plan", none)))
  k_need_plan : PySem.W.keepIn K (.ref (He.fAd K ("need_plan", none))) = true
  g_need_losses : mg "need_losses" = some (.ref (He.fAd K ("need_losses", none)))
  k_need_losses : PySem.W.keepIn K (.ref (He.fAd K ("need_losses", none))) = true
  g_known_spots : mg "known_spots" = some (.ref (He.fAd K ("known_spots", none)))
  k_known_spots : PySem.W.keepIn K (.ref (He.fAd K ("known_spots", none))) = true
  g__law_draw : mg "_law_draw" = some (.ref (He.fAd K ("_law_draw", none)))
  k__law_draw : PySem.W.keepIn K (.ref (He.fAd K ("_law_draw", none))) = true
  g__law_pick : mg "_law_pick" = some (.ref (He.fAd K ("_law_pick", none)))
  k__law_pick : PySem.W.keepIn K (.ref (He.fAd K ("_law_pick", none))) = true
  g__law_sums : mg "_law_sums" = some (.ref (He.fAd K ("_law_sums", none)))
  k__law_sums : PySem.W.keepIn K (.ref (He.fAd K ("_law_sums", none))) = true
  g__law_phase : mg "_law_phase" = some (.ref (He.fAd K ("_law_phase", none)))
  k__law_phase : PySem.W.keepIn K (.ref (He.fAd K ("_law_phase", none))) = true
  g__law_even : mg "_law_even" = some (.ref (He.fAd K ("_law_even", none)))
  k__law_even : PySem.W.keepIn K (.ref (He.fAd K ("_law_even", none))) = true
  g__law_plain : mg "_law_plain" = some (.ref (He.fAd K ("_law_plain", none)))
  k__law_plain : PySem.W.keepIn K (.ref (He.fAd K ("_law_plain", none))) = true
  g__law_plan : mg "_law_plan" = some (.ref (He.fAd K ("_law_plan", none)))
  k__law_plan : PySem.W.keepIn K (.ref (He.fAd K ("_law_plan", none))) = true
  g__law_known : mg "_law_known" = some (.ref (He.fAd K ("_law_known", none)))
  k__law_known : PySem.W.keepIn K (.ref (He.fAd K ("_law_known", none))) = true
  g_known_at : mg "known_at" = some (.ref (He.fAd K ("known_at", none)))
  k_known_at : PySem.W.keepIn K (.ref (He.fAd K ("known_at", none))) = true
  sm : SmOk K
  b_repr : mg "repr" = none
  cm_Plan_copies : CMetD K (c.cA 6) "copies" (smA K "classmethod" "Plan" "copies")
  cm_Plan_groups : CMetD K (c.cA 6) "groups" (smA K "classmethod" "Plan" "groups")
  cm_Plan_plain : CMetD K (c.cA 6) "plain" (smA K "classmethod" "Plan" "plain")
  d_is_integer : ∃ fd, (FunD K "is_integer" "is_integer" (defArgs s_is_integer) (defBody s_is_integer) (defScope s_is_integer) [] [] (He.fAd K ("is_integer", none)) fd)
  d_is_within : ∃ fd, (FunD K "is_within" "is_within" (defArgs s_is_within) (defBody s_is_within) (defScope s_is_within) [] [] (He.fAd K ("is_within", none)) fd)
  d_is_losses : ∃ fd, (FunD K "is_losses" "is_losses" (defArgs s_is_losses) (defBody s_is_losses) (defScope s_is_losses) [] [] (He.fAd K ("is_losses", none)) fd)
  d_need_losses : ∃ fd, (FunD K "need_losses" "need_losses" (defArgs s_need_losses) (defBody s_need_losses) (defScope s_need_losses) [] [] (He.fAd K ("need_losses", none)) fd)
  d_is_sum : ∃ fd, (FunD K "is_sum" "is_sum" (defArgs s_is_sum) (defBody s_is_sum) (defScope s_is_sum) [] [] (He.fAd K ("is_sum", none)) fd)
  d_sum_text : ∃ fd, (FunD K "sum_text" "sum_text" (defArgs s_sum_text) (defBody s_sum_text) (defScope s_sum_text) [] [] (He.fAd K ("sum_text", none)) fd)
  d_Phaseu__stru_ : ∃ fd, (FunD K "__str__" "Phase.__str__" (defArgs s_Phaseu__stru_) (defBody s_Phaseu__stru_) (defScope s_Phaseu__stru_) [] [] (He.fAd K ("Phase", some "__str__")) fd)
  d_Planu__stru_ : ∃ fd, (FunD K "__str__" "Plan.__str__" (defArgs s_Planu__stru_) (defBody s_Planu__stru_) (defScope s_Planu__stru_) [] [] (He.fAd K ("Plan", some "__str__")) fd)
  cl_Plan : Cls K (c.cA 6)
  me_Plan_str : Meth K (c.cA 6) "__str__" (He.fAd K ("Plan", some "__str__"))
  cl_Phase : Cls K (c.cA 5)
  me_Phase_str : Meth K (c.cA 5) "__str__" (He.fAd K ("Phase", some "__str__"))
  d_ordered : ∃ fd, (FunD K "ordered" "ordered" (defArgs s_ordered) (defBody s_ordered) (defScope s_ordered) [] [] (He.fAd K ("ordered", none)) fd)
  d_Phaseu__initu_ : ∃ fd, (FunD K "__init__" "Phase.__init__" (defArgs s_Phaseu__initu_) (defBody s_Phaseu__initu_) (defScope s_Phaseu__initu_) [] [("mute", (.bl false))] (He.fAd K ("Phase", some "__init__")) fd)
  d_Phaseu__equ_ : ∃ fd, (FunD K "__eq__" "Phase.__eq__" (defArgs s_Phaseu__equ_) (defBody s_Phaseu__equ_) (defScope s_Phaseu__equ_) [] [] (He.fAd K ("Phase", some "__eq__")) fd)
  d_Planu__initu_ : ∃ fd, (FunD K "__init__" "Plan.__init__" (defArgs s_Planu__initu_) (defBody s_Planu__initu_) (defScope s_Planu__initu_) [] [] (He.fAd K ("Plan", some "__init__")) fd)
  d_Plan_plain : ∃ fd, (FunD K "plain" "Plan.plain" (defArgs s_Plan_plain) (defBody s_Plan_plain) (defScope s_Plan_plain) [] [] (smA K "classmethod" "Plan" "plain") fd)
  d_Plan_copies : ∃ fd, (FunD K "copies" "Plan.copies" (defArgs s_Plan_copies) (defBody s_Plan_copies) (defScope s_Plan_copies) [] [] (smA K "classmethod" "Plan" "copies") fd)
  d_Plan_groups : ∃ fd, (FunD K "groups" "Plan.groups" (defArgs s_Plan_groups) (defBody s_Plan_groups) (defScope s_Plan_groups) [] [] (smA K "classmethod" "Plan" "groups") fd)
  d_Planu__lenu_ : ∃ fd, (FunD K "__len__" "Plan.__len__" (defArgs s_Planu__lenu_) (defBody s_Planu__lenu_) (defScope s_Planu__lenu_) [] [] (He.fAd K ("Plan", some "__len__")) fd)
  me_Plan_len : Meth K (c.cA 6) "__len__" (He.fAd K ("Plan", some "__len__"))
  d_Planu__iteru_ : ∃ fd, (FunD K "__iter__" "Plan.__iter__" (defArgs s_Planu__iteru_) (defBody s_Planu__iteru_) (defScope s_Planu__iteru_) [] [] (He.fAd K ("Plan", some "__iter__")) fd)
  d_Planu__getitemu_ : ∃ fd, (FunD K "__getitem__" "Plan.__getitem__" (defArgs s_Planu__getitemu_) (defBody s_Planu__getitemu_) (defScope s_Planu__getitemu_) [] [] (He.fAd K ("Plan", some "__getitem__")) fd)
  me_Plan_getitem : Meth K (c.cA 6) "__getitem__" (He.fAd K ("Plan", some "__getitem__"))
  fi_Plan_getitem : PySem.W.fnIn K (He.fAd K ("Plan", some "__getitem__")) = true
  d_Planu__equ_ : ∃ fd, (FunD K "__eq__" "Plan.__eq__" (defArgs s_Planu__equ_) (defBody s_Planu__equ_) (defScope s_Planu__equ_) [] [] (He.fAd K ("Plan", some "__eq__")) fd)
  me_Plan_eq : Meth K (c.cA 6) "__eq__" (He.fAd K ("Plan", some "__eq__"))
  me_Phase_eq : Meth K (c.cA 5) "__eq__" (He.fAd K ("Phase", some "__eq__"))
  ne_Plan : NeC K (c.cA 6)
  ne_Phase : NeC K (c.cA 5)
  d_need_plan : ∃ fd, (FunD K "need_plan" "need_plan" (defArgs s_need_plan) (defBody s_need_plan) (defScope s_need_plan) [] [] (He.fAd K ("need_plan", none)) fd)
  d_settled : ∃ fd, (FunD K "settled" "settled" (defArgs s_settled) (defBody s_settled) (defScope s_settled) [] [] (He.fAd K ("settled", none)) fd)
  d_known_spots : ∃ fd, (FunD K "known_spots" "known_spots" (defArgs s_known_spots) (defBody s_known_spots) (defScope s_known_spots) [] [] (He.fAd K ("known_spots", none)) fd)
  d_known_at : ∃ fd, (FunD K "known_at" "known_at" (defArgs s_known_at) (defBody s_known_at) (defScope s_known_at) [] [] (He.fAd K ("known_at", none)) fd)
  d__law_pick : ∃ fd, (FunD K "_law_pick" "_law_pick" (defArgs s__law_pick) (defBody s__law_pick) (defScope s__law_pick) [] [] (He.fAd K ("_law_pick", none)) fd)
  d__law_sums : ∃ fd, (FunD K "_law_sums" "_law_sums" (defArgs s__law_sums) (defBody s__law_sums) (defScope s__law_sums) [] [] (He.fAd K ("_law_sums", none)) fd)
  d__law_plain : ∃ fd, (FunD K "_law_plain" "_law_plain" (defArgs s__law_plain) (defBody s__law_plain) (defScope s__law_plain) [] [] (He.fAd K ("_law_plain", none)) fd)
  d__law_phase : ∃ fd, (FunD K "_law_phase" "_law_phase" (defArgs s__law_phase) (defBody s__law_phase) (defScope s__law_phase) [] [] (He.fAd K ("_law_phase", none)) fd)
  d__law_plan : ∃ fd, (FunD K "_law_plan" "_law_plan" (defArgs s__law_plan) (defBody s__law_plan) (defScope s__law_plan) [] [] (He.fAd K ("_law_plan", none)) fd)
  d__law_even : ∃ fd, (FunD K "_law_even" "_law_even" (defArgs s__law_even) (defBody s__law_even) (defScope s__law_even) [] [] (He.fAd K ("_law_even", none)) fd)
  d__law_known : ∃ fd, (FunD K "_law_known" "_law_known" (defArgs s__law_known) (defBody s__law_known) (defScope s__law_known) [] [] (He.fAd K ("_law_known", none)) fd)
  isF : IsF K c isT
  b_abs : mg "abs" = none
  d_draw : ∃ fd, FunD K "_law_draw" "_law_draw" (defArgs s_draw) (defBody s_draw) (defScope s_draw) [] [] (He.fAd K ("_law_draw", none)) fd
  hp : c.hp = true
  hns : ∀ z ∈ c.ns, 2 * z.natAbs + 2 < 2 ^ c.bl
section
variable {P : Program} {w : World} {K : PySem.W.Frag} {mg : Str → Option Value} {base : Heap} {c : Ct}
theorem body_draw {f : Addr} (gi : mg "int" = none) (gl : mg "len" = none) (ga : mg "abs" = none) (cdv : Value) (A : Around) (outer : List Env) (s : Shared) (H : Hp) (E : XK) (hr : DL.Room 0 (A.deeper (envOfC "_law_draw" (defScope s_draw) s.heap.objs.size f cdv))) :
    PSs (cxOf (CX P w) P w K mg base N_draw "_law_draw" (defScope s_draw) f cdv A outer s H E) (defBody s_draw) (tDraw K 53834 4342 53811 4353 155 40468 3542 2147483497 2147483629 2147483579) := by
  have px : ∀ {i : Int} {k1 : Nat} {p1 p2 p3 : Pos}, PE (cxOf (CX P w) P w K mg base N_draw "_law_draw" (defScope s_draw) f cdv A outer s H E) (.Subscript (.Name "_law_pen_here" p1) (.Constant (.int i) k1 p2) p3) (tpx K i) := pe_ix ix_seq (pv 0) pe_int (fun _ _ => rfl)
  have pin : ∀ {e : Expr} {t : TE} {p1 p2 : Pos}, PE (cxOf (CX P w) P w K mg base N_draw "_law_draw" (defScope s_draw) f cdv A outer s H E) e t → starEach [e] (cxOf (CX P w) P w K mg base N_draw "_law_draw" (defScope s_draw) f cdv A outer s H E).env = (false, eval e (cxOf (CX P w) P w K mg base N_draw "_law_draw" (defScope s_draw) f cdv A outer s H E).env) :: starEach [] (cxOf (CX P w) P w K mg base N_draw "_law_draw" (defScope s_draw) f cdv A outer s H E).env → PE (cxOf (CX P w) P w K mg base N_draw "_law_draw" (defScope s_draw) f cdv A outer s H E) (.Call (.Name "int" p1) [e] [] p2) (tin t) :=
    fun h he => pe_callTy call_int1 rfl gi PyProof.Rows.Boot.«int» (pa_cons h pa_nil he) (by decide) (by decide) he rfl
  have pab : ∀ {e : Expr} {t : TE} {p1 p2 : Pos}, PE (cxOf (CX P w) P w K mg base N_draw "_law_draw" (defScope s_draw) f cdv A outer s H E) e t → starEach [e] (cxOf (CX P w) P w K mg base N_draw "_law_draw" (defScope s_draw) f cdv A outer s H E).env = (false, eval e (cxOf (CX P w) P w K mg base N_draw "_law_draw" (defScope s_draw) f cdv A outer s H E).env) :: starEach [] (cxOf (CX P w) P w K mg base N_draw "_law_draw" (defScope s_draw) f cdv A outer s H E).env → PE (cxOf (CX P w) P w K mg base N_draw "_law_draw" (defScope s_draw) f cdv A outer s H E) (.Call (.Name "abs" p1) [e] [] p2) (DL.tab t) :=
    fun h he => pe_callB call_abs rfl ga PyProof.Rows.Boot.«abs» (pa_cons h pa_nil he) (by decide) (by decide) he rfl
  have pl : ∀ {k1 : Nat} {p1 p2 p3 p4 p5 : Pos}, PE (cxOf (CX P w) P w K mg base N_draw "_law_draw" (defScope s_draw) f cdv A outer s H E) (.Call (.Name "len" p4) [.Subscript (.Name "_law_pen_here" p1) (.Constant (.int 0) k1 p2) p3] [] p5) (tlen0 K) := pe_callB b_len rfl gl PyProof.Rows.Boot.«len» (pa_cons px pa_nil)
  exact pss_cons (ps_if (pt_cmpR op_gt px pe_int (nomark _)) (pss_cons (ps_asg (pe_op op_mod (pin px rfl) (pv 1)) (pg_name sc_draw.nd rfl (Or.inl rfl))) (pss_cons (ps_asg (pe_op op_fdivW (pin px rfl) (pv 1)) (pg_sub (pv 0) pe_int set_list)) (pss_one (ps_ret (pv 2))))) pss_nil)
    (pss_cons (ps_asg px (pg_name sc_draw.nd rfl (Or.inl rfl)))
    (pss_cons (ps_asg (pe_op op_add (pv 3) pe_int) (pg_sub (pv 0) pe_int set_list))
    (pss_cons (ps_asg (pe_op op_add (pe_op op_mul pe_int (pv 3)) pe_int) (pg_name sc_draw.nd rfl (Or.inl rfl)))
    (pss_cons (ps_if (pt_cmpR (op_neD hr.toRoom.units) px (pe_lst pa_nil) (nomark _)) (pss_one (ps_asg (pe_ix ix_seq px (pe_op op_mod (pin (pv 3) rfl) pl) (fun _ _ => rfl)) (pg_name sc_draw.nd rfl (Or.inl rfl)))) pss_nil)
    (pss_cons (ps_if (PW.pt (pw_and (pt_cmpR op_lt (pv 3) pl (nomark _)) (pw_and1 (pt_cmpR op_ge (pab (pv 4) rfl) (pe_op op_pow pe_int pe_int) (nomark _))))) (pss_cons (ps_asg (pe_op op_add (pe_op op_mul pe_int (pe_op op_sub (pab (pv 4) rfl) (pe_op op_pow pe_int pe_int))) (pin (pe_cmpR op_lt (pv 4) pe_int (nomark _)) rfl)) (pg_name sc_draw.nd rfl (Or.inl rfl))) (pss_cons (ps_asg (pe_op op_fdivW (pin (pv 5) rfl) (pv 1)) (pg_sub (pv 0) pe_int set_list)) (pss_one (ps_ret (pe_op op_mod (pin (pv 5) rfl) (pv 1)))))) pss_nil)
    (pss_cons (ps_asg (pe_op op_mod (pin (pe_op op_pow (pe_op op_add (pe_op op_add (pe_op op_mod (pin (pv 4) rfl) pe_int) (pe_op op_mul pe_int (pv 3))) pe_int) pe_int) rfl) pe_int) (pg_name sc_draw.nd rfl (Or.inl rfl)))
    (pss_cons (ps_asg (pe_op op_mod (pin (pe_op op_pow (pe_op op_add (pe_op op_add (pe_op op_mul (pv 6) (pe_op op_add (pe_op op_mul pe_int (pv 3)) pe_int)) (pe_op op_mul (pe_op op_mul pe_int (pv 3)) (pv 3))) pe_int) pe_int) rfl) pe_int) (pg_name sc_draw.nd rfl (Or.inl rfl)))
    (pss_one (ps_ret (pe_op op_mod (pin (pe_op op_fdivW (pv 6) pe_int) rfl) (pv 1)))))))))))
@[irreducible] def ma__law_draw_2 := posM 2 drawM []
theorem a__law_draw_2 (H : Fc P w K mg base c) : FnA P w K mg base 1 (He.fAd K ("_law_draw", none)) [] (spD c K ma__law_draw_2) := by
  unfold ma__law_draw_2
  obtain ⟨fd, F⟩ := H.d_draw
  exact FnA.pos 2 (fn_draw F sc_draw rfl H.hp H.hns (by decide) fun cdv A outer s H0 E hr => body_draw H.b_int H.b_len H.b_abs cdv A outer s H0 E hr) (F.bindsN fun _ _ _ _ _ _ us hl => match us, hl with | [_, _], _ => rfl) .nil (fun _ => .nil)
theorem xc_BadLosses (H : Fc P w K mg base c) : XCls P w K mg base (c.cA 2) ["value"] 1 := H.x_BadLosses.cls (fun _ _ _ _ _ _ _ _ us hl => match us, hl with | [_, _], _ => rfl)
theorem xc_BadPlan (H : Fc P w K mg base c) : XCls P w K mg base (c.cA 1) ["part"] 1 := H.x_BadPlan.cls (fun _ _ _ _ _ _ _ _ us hl => match us, hl with | [_, _], _ => rfl)
theorem xc_NoPhase (H : Fc P w K mg base c) : XCls P w K mg base (c.cA 4) ["at"] 1 := H.x_NoPhase.cls (fun _ _ _ _ _ _ _ _ us hl => match us, hl with | [_, _], _ => rfl)
theorem sc_is_integer : FnScope ["value"] ["value"] (defScope s_is_integer) := ⟨rfl, rfl, rfl, by decide +kernel, rfl, by decide +kernel, by decide +kernel⟩
def m_is_integer : Gm → T Fl := mRet (mAndV (mIsi isT (mVar 0) (mC (.ty "int"))) (mNotV (mIsi isT (mVar 0) (mC (.ty "bool")))))
def r_is_integer : List D → T D := runB 1 1 m_is_integer
theorem ok_is_integer (H : Fc P w K mg base c) {fd : FuncData} (F : FunD K "is_integer" "is_integer" (defArgs s_is_integer) (defBody s_is_integer) (defScope s_is_integer) [] [] (He.fAd K ("is_integer", none)) fd) : DL.FnOk P w K mg base (CX P w) 1 (He.fAd K ("is_integer", none)) fd ["value"] (spD c K r_is_integer) :=
  fnD (N := ["value"]) (ps := ["value"]) (mb := m_is_integer) F sc_is_integer (by decide) fun cdv A outer s H0 E hcd hr => dss_one (ds_ret (de_and (de_isi H.isF H.b_isinstance (de_var 0) (de_ty rfl H.b_int PyProof.Rows.Boot.«int»)) (de_one (de_not (de_isi H.isF H.b_isinstance (de_var 0) (de_ty rfl H.b_bool PyProof.Rows.Boot.«bool»))))))
@[irreducible] def ma_is_integer_1 := posM 1 r_is_integer []
theorem a_is_integer_1 (H : Fc P w K mg base c) : FnA P w K mg base 1 (He.fAd K ("is_integer", none)) [] (spD c K ma_is_integer_1) := by
  unfold ma_is_integer_1
  obtain ⟨fd, F⟩ := H.d_is_integer
  exact FnA.pos 1 (ok_is_integer H F) (F.bindsN fun _ _ _ _ _ _ us hl => match us, hl with | [_], _ => rfl) .nil (fun _ => .nil)
theorem sc_is_within : FnScope ["value", "least", "most"] ["value", "least", "most"] (defScope s_is_within) := ⟨rfl, rfl, rfl, by decide +kernel, rfl, by decide +kernel, by decide +kernel⟩
def m_is_within : Gm → T Fl := mRet (mAndV (mCall ma_is_integer_1 (aCons (mVar 0) (aNil))) (mChain gLe gLe (mVar 1) (mVar 0) (mVar 2)))
def r_is_within : List D → T D := runB 3 3 m_is_within
theorem ok_is_within (H : Fc P w K mg base c) {fd : FuncData} (F : FunD K "is_within" "is_within" (defArgs s_is_within) (defBody s_is_within) (defScope s_is_within) [] [] (He.fAd K ("is_within", none)) fd) : DL.FnOk P w K mg base (CX P w) 2 (He.fAd K ("is_within", none)) fd ["value", "least", "most"] (spD c K r_is_within) :=
  fnD (N := ["value", "least", "most"]) (ps := ["value", "least", "most"]) (mb := m_is_within) F sc_is_within (by decide) fun cdv A outer s H0 E hcd hr => dss_one (ds_ret (de_and (de_call (a_is_integer_1 H) (hr.mono (by decide)) (takes_of rfl rfl rfl rfl) H.g_is_integer H.k_is_integer (dc_pos (da_cons (de_var 0) (da_nil)))) (de_one (de_chain o_le o_le (de_var 1) (de_var 0) (de_var 2)))))
@[irreducible] def ma_is_within_3 := posM 3 r_is_within []
theorem a_is_within_3 (H : Fc P w K mg base c) : FnA P w K mg base 2 (He.fAd K ("is_within", none)) [] (spD c K ma_is_within_3) := by
  unfold ma_is_within_3
  obtain ⟨fd, F⟩ := H.d_is_within
  exact FnA.pos 3 (ok_is_within H F) (F.bindsN fun _ _ _ _ _ _ us hl => match us, hl with | [_, _, _], _ => rfl) .nil (fun _ => .nil)
theorem sc_is_losses : FnScope ["value", "slot"] ["value"] (defScope s_is_losses) := ⟨rfl, rfl, rfl, by decide +kernel, rfl, by decide +kernel, by decide +kernel⟩
def m_is_losses : Gm → T Fl := mRet (mAndV (mIsi isT (mVar 0) (mC (.ty "str"))) (mUn gAll (mLc (iAny (mVar 0)) (gmName 1) (tYesM) (mBin gInP (mVar 1) (mC (.str ".x"))) [1])))
def r_is_losses : List D → T D := runB 1 2 m_is_losses
theorem ok_is_losses (H : Fc P w K mg base c) {fd : FuncData} (F : FunD K "is_losses" "is_losses" (defArgs s_is_losses) (defBody s_is_losses) (defScope s_is_losses) [] [] (He.fAd K ("is_losses", none)) fd) : DL.FnOk P w K mg base (CX P w) 1 (He.fAd K ("is_losses", none)) fd ["value"] (spD c K r_is_losses) :=
  fnD (N := ["value", "slot"]) (ps := ["value"]) (mb := m_is_losses) F sc_is_losses (by decide) fun cdv A outer s H0 E hcd hr => dss_one (ds_ret (de_and (de_isi H.isF H.b_isinstance (de_var 0) (de_ty rfl H.b_str PyProof.Rows.Boot.«str»)) (de_one (de_b1 (cr_all rfl) bi_all H.b_all PyProof.Rows.Boot.«all» (de_lc (own := [("slot", 1)]) rfl sc_is_losses.nd (di_any (de_var 0)) rfl (fun _ _ _ _ _ => dg_name 1 sc_is_losses.nd) (fun _ _ _ _ _ => dts_nil) (fun _ _ _ _ _ => de_cmp o_inP (de_var 1) (de_str)))))))
@[irreducible] def ma_is_losses_1 := posM 1 r_is_losses []
theorem a_is_losses_1 (H : Fc P w K mg base c) : FnA P w K mg base 1 (He.fAd K ("is_losses", none)) [] (spD c K ma_is_losses_1) := by
  unfold ma_is_losses_1
  obtain ⟨fd, F⟩ := H.d_is_losses
  exact FnA.pos 1 (ok_is_losses H F) (F.bindsN fun _ _ _ _ _ _ us hl => match us, hl with | [_], _ => rfl) .nil (fun _ => .nil)
theorem sc_need_losses : FnScope ["value"] ["value"] (defScope s_need_losses) := ⟨rfl, rfl, rfl, by decide +kernel, rfl, by decide +kernel, by decide +kernel⟩
def m_need_losses : Gm → T Fl := mIfS (tOrM (tNotM (mTru (mCall ma_is_losses_1 (aCons (mVar 0) (aNil))))) (mB (mBin gGt (mUn gLen (mVar 0)) (mC (.int 400))))) (mRaise 2 ["value"] (aCons (mVar 0) (aNil))) (mNx)
def r_need_losses : List D → T D := runB 1 1 m_need_losses
theorem ok_need_losses (H : Fc P w K mg base c) {fd : FuncData} (F : FunD K "need_losses" "need_losses" (defArgs s_need_losses) (defBody s_need_losses) (defScope s_need_losses) [] [] (He.fAd K ("need_losses", none)) fd) : DL.FnOk P w K mg base (CX P w) 3 (He.fAd K ("need_losses", none)) fd ["value"] (spD c K r_need_losses) :=
  fnD (N := ["value"]) (ps := ["value"]) (mb := m_need_losses) F sc_need_losses (by decide) fun cdv A outer s H0 E hcd hr => dss_one (ds_if (dt_or (dt_not (dt_tru (de_call (a_is_losses_1 H) (hr.mono (by decide)) (takes_of rfl rfl rfl rfl) H.g_is_losses H.k_is_losses (dc_pos (da_cons (de_var 0) (da_nil)))))) (dw_or1 (dt_cmp o_gt (de_b1 b_len bi_len H.b_len PyProof.Rows.Boot.«len» (de_var 0)) (de_con H.c_MOST_SLOTS)))) (dss_one (ds_raise (xc_BadLosses H) (hr.mono (by decide)) rfl (takes_of rfl rfl rfl rfl) H.g_BadLosses (da_cons (de_var 0) (da_nil)))) (dss_nil))
@[irreducible] def ma_need_losses_1 := posM 1 r_need_losses []
theorem a_need_losses_1 (H : Fc P w K mg base c) : FnA P w K mg base 3 (He.fAd K ("need_losses", none)) [] (spD c K ma_need_losses_1) := by
  unfold ma_need_losses_1
  obtain ⟨fd, F⟩ := H.d_need_losses
  exact FnA.pos 1 (ok_need_losses H F) (F.bindsN fun _ _ _ _ _ _ us hl => match us, hl with | [_], _ => rfl) .nil (fun _ => .nil)
theorem sc_is_sum : FnScope ["value", "age", "one", "other"] ["value"] (defScope s_is_sum) := ⟨rfl, rfl, rfl, by decide +kernel, rfl, by decide +kernel, by decide +kernel⟩
def m_is_sum : Gm → T Fl := mSeq (mIfS (tOrM (tNotM (mTru (mIsi isT (mVar 0) (mC (.ty "tuple"))))) (tOrM (mB (mBin gEqD (mUn gLen (mVar 0)) (mC (.int 0)))) (tNotM (mTru (mUn gAll (mLc (iAny (mVar 0)) (gmName 1) (tYesM) (mCall ma_is_within_3 (aCons (mVar 1) (aCons (mC (.int 1)) (aCons (mC (.int 4)) (aNil))))) [1])))))) (mRet (mC (.bl false))) (mNx)) (mRet (mUn gAll (mLc (iZip2 (mVar 0) (mSl (mVar 0) (pInt (mC (.int 1))) (pNo))) (gmTup 2 (gmCons (gmName 2) (gmCons (gmName 3) (gmNil)))) (tYesM) (mBin gLt (mVar 2) (mVar 3)) [2, 3])))
def r_is_sum : List D → T D := runB 1 4 m_is_sum
theorem ok_is_sum (H : Fc P w K mg base c) {fd : FuncData} (F : FunD K "is_sum" "is_sum" (defArgs s_is_sum) (defBody s_is_sum) (defScope s_is_sum) [] [] (He.fAd K ("is_sum", none)) fd) : DL.FnOk P w K mg base (CX P w) 3 (He.fAd K ("is_sum", none)) fd ["value"] (spD c K r_is_sum) :=
  fnD (N := ["value", "age", "one", "other"]) (ps := ["value"]) (mb := m_is_sum) F sc_is_sum (by decide) fun cdv A outer s H0 E hcd hr => dss_cons (ds_if (dt_or (dt_not (dt_tru (de_isi H.isF H.b_isinstance (de_var 0) (de_ty rfl H.b_tuple PyProof.Rows.Boot.«tuple»)))) (dw_or (dt_cmp (o_eq hr.toRoom.units) (de_b1 b_len bi_len H.b_len PyProof.Rows.Boot.«len» (de_var 0)) (de_int)) (dw_or1 (dt_not (dt_tru (de_b1 (cr_all rfl) bi_all H.b_all PyProof.Rows.Boot.«all» (de_lc (own := [("age", 1)]) rfl sc_is_sum.nd (di_any (de_var 0)) rfl (fun _ _ _ _ _ => dg_name 1 sc_is_sum.nd) (fun _ _ _ _ _ => dts_nil) (fun _ _ _ _ _ => de_call (a_is_within_3 H) (hr.mono (by decide)) LamX.takes0 H.g_is_within H.k_is_within (dc_pos (da_cons (de_var 1) (da_cons (de_int) (da_cons (de_con H.c_MOST_AGE) (da_nil))))))))))))) (dss_one (ds_ret (de_bl))) (dss_nil)) (dss_one (ds_ret (de_b1 (cr_all rfl) bi_all H.b_all PyProof.Rows.Boot.«all» (de_lc (own := [("one", 2), ("other", 3)]) rfl sc_is_sum.nd (di_zip H.b_zip (de_var 0) (de_sl (de_var 0) (do_int (de_int)) (do_no))) rfl (fun _ _ _ _ _ => dg_tup rfl (dgs_cons (dg_name 2 sc_is_sum.nd) (dgs_cons (dg_name 3 sc_is_sum.nd) (dgs_nil)))) (fun _ _ _ _ _ => dts_nil) (fun _ _ _ _ _ => de_cmp o_lt (de_var 2) (de_var 3))))))
@[irreducible] def ma_is_sum_1 := posM 1 r_is_sum []
theorem a_is_sum_1 (H : Fc P w K mg base c) : FnA P w K mg base 3 (He.fAd K ("is_sum", none)) [] (spD c K ma_is_sum_1) := by
  unfold ma_is_sum_1
  obtain ⟨fd, F⟩ := H.d_is_sum
  exact FnA.pos 1 (ok_is_sum H F) (F.bindsN fun _ _ _ _ _ _ us hl => match us, hl with | [_], _ => rfl) .nil (fun _ => .nil)
theorem sc_sum_text : FnScope ["ages", "age"] ["ages"] (defScope s_sum_text) := ⟨rfl, rfl, rfl, by decide +kernel, rfl, by decide +kernel, by decide +kernel⟩
def m_sum_text : Gm → T Fl := mRet (mJoin (mC (.str "+")) (mLc (iAny (mVar 0)) (gmName 1) (tYesM) (mUn gFmt (mVar 1)) [1]))
def r_sum_text : List D → T D := runB 1 2 m_sum_text
theorem ok_sum_text (H : Fc P w K mg base c) {fd : FuncData} (F : FunD K "sum_text" "sum_text" (defArgs s_sum_text) (defBody s_sum_text) (defScope s_sum_text) [] [] (He.fAd K ("sum_text", none)) fd) : DL.FnOk P w K mg base (CX P w) 1 (He.fAd K ("sum_text", none)) fd ["ages"] (spD c K r_sum_text) :=
  fnD (N := ["ages", "age"]) (ps := ["ages"]) (mb := m_sum_text) F sc_sum_text (by decide) fun cdv A outer s H0 E hcd hr => dss_one (ds_ret (de_join (de_str) (de_lc (own := [("age", 1)]) rfl sc_sum_text.nd (di_any (de_var 0)) rfl (fun _ _ _ _ _ => dg_name 1 sc_sum_text.nd) (fun _ _ _ _ _ => dts_nil) (fun _ _ _ _ _ => de_joined1 (de_fmt (de_var 1))))))
@[irreducible] def ma_sum_text_1 := posM 1 r_sum_text []
theorem a_sum_text_1 (H : Fc P w K mg base c) : FnA P w K mg base 1 (He.fAd K ("sum_text", none)) [] (spD c K ma_sum_text_1) := by
  unfold ma_sum_text_1
  obtain ⟨fd, F⟩ := H.d_sum_text
  exact FnA.pos 1 (ok_sum_text H F) (F.bindsN fun _ _ _ _ _ _ us hl => match us, hl with | [_], _ => rfl) .nil (fun _ => .nil)
theorem sc_Phaseu__stru_ : FnScope ["self", "ages"] ["self"] (defScope s_Phaseu__stru_) := ⟨rfl, rfl, rfl, by decide +kernel, rfl, by decide +kernel, by decide +kernel⟩
def m_Phaseu__stru_ : Gm → T Fl := mRet (mJoin (mC (.str " ")) (mLst (aCons (mIf (mTru (mUn (gFld [5] "mute") (mVar 0))) (mC (.str "mute")) (mC (.str "row"))) (aStar (mLc (iAny (mUn (gFld [5] "sums") (mVar 0))) (gmName 1) (tYesM) (mCall ma_sum_text_1 (aCons (mVar 1) (aNil))) [1]) (aNil)))))
def r_Phaseu__stru_ : List D → T D := runB 1 2 m_Phaseu__stru_
theorem ok_Phaseu__stru_ (H : Fc P w K mg base c) {fd : FuncData} (F : FunD K "__str__" "Phase.__str__" (defArgs s_Phaseu__stru_) (defBody s_Phaseu__stru_) (defScope s_Phaseu__stru_) [] [] (He.fAd K ("Phase", some "__str__")) fd) : DL.FnOk P w K mg base (CX P w) 2 (He.fAd K ("Phase", some "__str__")) fd ["self"] (spD c K r_Phaseu__stru_) :=
  fnD (N := ["self", "ages"]) (ps := ["self"]) (mb := m_Phaseu__stru_) F sc_Phaseu__stru_ (by decide) fun cdv A outer s H0 E hcd hr => dss_one (ds_ret (de_join (de_str) (de_lst (da_cons (de_if (dt_tru (de_fld H.f_mute (de_var 0))) (de_str) (de_str)) (da_star (de_lc (own := [("ages", 1)]) rfl sc_Phaseu__stru_.nd (di_any (de_fld H.f_sums (de_var 0))) rfl (fun _ _ _ _ _ => dg_name 1 sc_Phaseu__stru_.nd) (fun _ _ _ _ _ => dts_nil) (fun _ _ _ _ _ => de_call (a_sum_text_1 H) (hr.mono (by decide)) LamX.takes0 H.g_sum_text H.k_sum_text (dc_pos (da_cons (de_var 1) (da_nil))))) (da_nil))))))
@[irreducible] def ma_Phaseu__stru__1 := posM 1 r_Phaseu__stru_ []
theorem a_Phaseu__stru__1 (H : Fc P w K mg base c) : FnA P w K mg base 2 (He.fAd K ("Phase", some "__str__")) [] (spD c K ma_Phaseu__stru__1) := by
  unfold ma_Phaseu__stru__1
  obtain ⟨fd, F⟩ := H.d_Phaseu__stru_
  exact FnA.pos 1 (ok_Phaseu__stru_ H F) (F.bindsN fun _ _ _ _ _ _ us hl => match us, hl with | [_], _ => rfl) .nil (fun _ => .nil)
theorem sc_Planu__stru_ : FnScope ["self", "phase"] ["self"] (defScope s_Planu__stru_) := ⟨rfl, rfl, rfl, by decide +kernel, rfl, by decide +kernel, by decide +kernel⟩
def m_Planu__stru_ : Gm → T Fl := mRet (mJoin (mC (.str " / ")) (mLc (iAny (mUn (gFld [6] "phases") (mVar 0))) (gmName 1) (tYesM) (mUn gFmt (mVar 1)) [1]))
def r_Planu__stru_ : List D → T D := runB 1 2 m_Planu__stru_
theorem ok_Planu__stru_ (H : Fc P w K mg base c) {fd : FuncData} (F : FunD K "__str__" "Plan.__str__" (defArgs s_Planu__stru_) (defBody s_Planu__stru_) (defScope s_Planu__stru_) [] [] (He.fAd K ("Plan", some "__str__")) fd) : DL.FnOk P w K mg base (CX P w) 1 (He.fAd K ("Plan", some "__str__")) fd ["self"] (spD c K r_Planu__stru_) :=
  fnD (N := ["self", "phase"]) (ps := ["self"]) (mb := m_Planu__stru_) F sc_Planu__stru_ (by decide) fun cdv A outer s H0 E hcd hr => dss_one (ds_ret (de_join (de_str) (de_lc (own := [("phase", 1)]) rfl sc_Planu__stru_.nd (di_any (de_fld H.f_phases (de_var 0))) rfl (fun _ _ _ _ _ => dg_name 1 sc_Planu__stru_.nd) (fun _ _ _ _ _ => dts_nil) (fun _ _ _ _ _ => de_joined1 (de_fmt (de_var 1))))))
@[irreducible] def ma_Planu__stru__1 := posM 1 r_Planu__stru_ []
theorem a_Planu__stru__1 (H : Fc P w K mg base c) : FnA P w K mg base 1 (He.fAd K ("Plan", some "__str__")) [] (spD c K ma_Planu__stru__1) := by
  unfold ma_Planu__stru__1
  obtain ⟨fd, F⟩ := H.d_Planu__stru_
  exact FnA.pos 1 (ok_Planu__stru_ H F) (F.bindsN fun _ _ _ _ _ _ us hl => match us, hl with | [_], _ => rfl) .nil (fun _ => .nil)
def strT : List (Nat × (List D → T D)) := [(5, ma_Phaseu__stru__1), (6, ma_Planu__stru__1)]
theorem mStr {X : Cx} (H : Fc X.prog X.w X.K X.mg X.base c) : MethOk X c 2 "__str__" [] strT := List.forall_mem_cons.mpr ⟨⟨H.cl_Phase, _, H.me_Phase_str, (a_Phaseu__stru__1 H).mono (by decide)⟩, List.forall_mem_cons.mpr ⟨⟨H.cl_Plan, _, H.me_Plan_str, (a_Planu__stru__1 H).mono (by decide)⟩, fun _ h => nomatch h⟩⟩
theorem sc_ordered : FnScope ["sums", "found", "age", "ages", "text", "key"] ["sums"] (defScope s_ordered) := ⟨rfl, rfl, rfl, by decide +kernel, rfl, by decide +kernel, by decide +kernel⟩
def m_ordered : Gm → T Fl := mSeq (mSet 1 (mDc (iAny (mVar 0)) (gmName 3) (tYesM) (mJoin (mC (.str " ")) (mLc (iAny (mVar 3)) (gmName 2) (tYesM) (mUn gFmt (mVar 2)) [2])) (mVar 3) [3])) (mRet (mUn gTuple (mLc (iAny (mUn gSortA (mLc (iKeysM (mVar 1)) (gmName 5) (tYesM) (mUn (gStr strT) (mVar 5)) [5]))) (gmName 4) (tYesM) (mBin gIxD (mVar 1) (mVar 4)) [4])))
def r_ordered : List D → T D := runB 1 6 m_ordered
theorem ok_ordered (H : Fc P w K mg base c) {fd : FuncData} (F : FunD K "ordered" "ordered" (defArgs s_ordered) (defBody s_ordered) (defScope s_ordered) [] [] (He.fAd K ("ordered", none)) fd) : DL.FnOk P w K mg base (CX P w) 5 (He.fAd K ("ordered", none)) fd ["sums"] (spD c K r_ordered) :=
  fnD (N := ["sums", "found", "age", "ages", "text", "key"]) (ps := ["sums"]) (mb := m_ordered) F sc_ordered (by decide) fun cdv A outer s H0 E hcd hr => dss_cons (ds_set 1 sc_ordered.nd (de_dc (own := [("ages", 3)]) rfl sc_ordered.nd (di_any (de_var 0)) rfl (fun _ _ _ _ _ => dg_name 3 sc_ordered.nd) (fun _ _ _ _ _ => dts_nil) (fun _ _ _ _ _ => de_join (de_str) (de_lc (own := [("age", 2)]) rfl sc_ordered.nd (di_any (de_var 3)) rfl (fun _ _ _ _ _ => dg_name 2 sc_ordered.nd) (fun _ _ _ _ _ => dts_nil) (fun _ _ _ _ _ => de_joined1 (de_fmt (de_var 2))))) (fun _ _ _ _ _ => de_var 3))) (dss_one (ds_ret (de_t1 call_tuple_of bi_tuple H.b_tuple PyProof.Rows.Boot.«tuple» (de_lc (own := [("text", 4)]) rfl sc_ordered.nd (di_any (de_b1 cr_sortA bi_sortA H.b_sorted PyProof.Rows.Boot.«sorted» (de_lc (own := [("key", 5)]) rfl sc_ordered.nd (di_keys (de_var 1)) rfl (fun _ _ _ _ _ => dg_name 5 sc_ordered.nd) (fun _ _ _ _ _ => dts_nil) (fun _ _ _ _ _ => de_str1 (x := "") (mStr H) (hr.mono (by decide)) LamX.takes0 H.b_str (de_var 5))))) rfl (fun _ _ _ _ _ => dg_name 4 sc_ordered.nd) (fun _ _ _ _ _ => dts_nil) (fun _ _ _ _ _ => de_ixD hr.toRoom.units (de_var 1) (de_var 4))))))
@[irreducible] def ma_ordered_1 := posM 1 r_ordered []
theorem a_ordered_1 (H : Fc P w K mg base c) : FnA P w K mg base 5 (He.fAd K ("ordered", none)) [] (spD c K ma_ordered_1) := by
  unfold ma_ordered_1
  obtain ⟨fd, F⟩ := H.d_ordered
  exact FnA.pos 1 (ok_ordered H F) (F.bindsN fun _ _ _ _ _ _ us hl => match us, hl with | [_], _ => rfl) .nil (fun _ => .nil)
theorem sc_Phaseu__initu_ : FnScope ["self", "mute", "sums", "at", "ages"] ["self", "mute", "sums"] (defScope s_Phaseu__initu_) := ⟨rfl, rfl, rfl, by decide +kernel, rfl, by decide +kernel, by decide +kernel⟩
def b_Phaseu__initu__1 : Gm → T Fl := mIfS (tOrM (tNotM (mTru (mCall ma_is_sum_1 (aCons (mVar 4) (aNil))))) (mB (mBin (gInDT false) (mVar 4) (mSl (mVar 2) (pNo) (pInt (mVar 3)))))) (mRaise 1 ["part"] (aCons (mVar 3) (aNil))) (mNx)
def m_Phaseu__initu_ : Gm → T Fl := mSeq (mFor (DL.iEnum (mVar 2)) (gmTup 2 (gmCons (gmName 3) (gmCons (gmName 4) (gmNil)))) (b_Phaseu__initu__1)) (mSeq (mIfS (mB (mBin gGt (mUn gLen (mVar 2)) (mC (.int 4)))) (mRaise 1 ["part"] (aCons (mC (.str "sums")) (aNil))) (mNx)) (mSeq (mIfS (tNotM (mTru (mIsi isT (mVar 1) (mC (.ty "bool"))))) (mRaise 1 ["part"] (aCons (mC (.str "mute")) (aNil))) (mNx)) (mSeq (mFldS 0 [5] "sums" (mCall ma_ordered_1 (aCons (mVar 2) (aNil)))) (mFldS 0 [5] "mute" (mVar 1)))))
def r_Phaseu__initu_ : List D → T (List (Str × D)) := initB 2 4 5 m_Phaseu__initu_
@[irreducible] def ma_Phaseu__initu__starQ := starQ 1 r_Phaseu__initu_
theorem a_Phaseu__initu__starQ (H : Fc P w K mg base c) : FnA P w K mg base 6 (He.fAd K ("Phase", some "__init__")) ["mute"] (spI c K 5 ma_Phaseu__initu__starQ) := by
  unfold ma_Phaseu__initu__starQ
  obtain ⟨fd, F⟩ := H.d_Phaseu__initu_
  exact fnStarQ (N := ["mute", "sums", "at", "ages"]) (ks := ["mute"]) (mb := m_Phaseu__initu_) F sc_Phaseu__initu_ (by decide) (fun _ _ _ _ _ _ u rest kw hl => match kw, hl with | [_], _ => (match rest with | [] => rfl | _ :: _ => rfl)) fun cdv A outer s H0 E hcd hr => dss_cons (ds_for (passes_of rfl) rfl (di_enum H.b_enumerate (de_var 2)) (dg_tup rfl (dgs_cons (dg_name 3 sc_Phaseu__initu_.nd) (dgs_cons (dg_name 4 sc_Phaseu__initu_.nd) (dgs_nil)))) (dss_one (ds_if (dt_or (dt_not (dt_tru (de_call (a_is_sum_1 H) (hr.mono (by decide)) (takes_of rfl rfl rfl rfl) H.g_is_sum H.k_is_sum (dc_pos (da_cons (de_var 4) (da_nil)))))) (dw_or1 (dt_cmp (o_inDT hr.toRoom.units) (de_var 4) (de_sl (de_var 2) (do_no) (do_int (de_var 3)))))) (dss_one (ds_raise (xc_BadPlan H) (hr.mono (by decide)) rfl (takes_of rfl rfl rfl rfl) H.g_BadPlan (da_cons (de_var 3) (da_nil)))) (dss_nil)))) (dss_cons (ds_if (dt_cmp o_gt (de_b1 b_len bi_len H.b_len PyProof.Rows.Boot.«len» (de_var 2)) (de_con H.c_MOST_SUMS)) (dss_one (ds_raise (xc_BadPlan H) (hr.mono (by decide)) rfl (takes_of rfl rfl rfl rfl) H.g_BadPlan (da_cons (de_str) (da_nil)))) (dss_nil)) (dss_cons (ds_if (dt_not (dt_tru (de_isi H.isF H.b_isinstance (de_var 1) (de_ty rfl H.b_bool PyProof.Rows.Boot.«bool»)))) (dss_one (ds_raise (xc_BadPlan H) (hr.mono (by decide)) rfl (takes_of rfl rfl rfl rfl) H.g_BadPlan (da_cons (de_str) (da_nil)))) (dss_nil)) (dss_cons (ds_fld 0 H.f_sums (de_call (a_ordered_1 H) (hr.mono (by decide)) (takes_of rfl rfl rfl rfl) H.g_ordered H.k_ordered (dc_pos (da_cons (de_var 2) (da_nil))))) (dss_one (ds_fld 0 H.f_mute (de_var 1))))))
@[irreducible] def ma_Phaseu__initu__starQ0 := starQ0 [(.bl false)] r_Phaseu__initu_
theorem a_Phaseu__initu__starQ0 (H : Fc P w K mg base c) : FnA P w K mg base 6 (He.fAd K ("Phase", some "__init__")) [] (spI c K 5 ma_Phaseu__initu__starQ0) := by
  unfold ma_Phaseu__initu__starQ0
  obtain ⟨fd, F⟩ := H.d_Phaseu__initu_
  exact fnStarQ0 (N := ["mute", "sums", "at", "ages"]) (kn := "mute") (mb := m_Phaseu__initu_) F sc_Phaseu__initu_ (by decide) (fun F0 => (.bl _)) (fun _ _ _ _ _ _ _ _ rest => match rest with | [] => ⟨_, _, Unit, _, _, _, _, rfl, rfl, rfl⟩ | _ :: _ => ⟨_, _, Unit, _, _, _, _, rfl, rfl, rfl⟩) fun cdv A outer s H0 E hcd hr => dss_cons (ds_for (passes_of rfl) rfl (di_enum H.b_enumerate (de_var 2)) (dg_tup rfl (dgs_cons (dg_name 3 sc_Phaseu__initu_.nd) (dgs_cons (dg_name 4 sc_Phaseu__initu_.nd) (dgs_nil)))) (dss_one (ds_if (dt_or (dt_not (dt_tru (de_call (a_is_sum_1 H) (hr.mono (by decide)) (takes_of rfl rfl rfl rfl) H.g_is_sum H.k_is_sum (dc_pos (da_cons (de_var 4) (da_nil)))))) (dw_or1 (dt_cmp (o_inDT hr.toRoom.units) (de_var 4) (de_sl (de_var 2) (do_no) (do_int (de_var 3)))))) (dss_one (ds_raise (xc_BadPlan H) (hr.mono (by decide)) rfl (takes_of rfl rfl rfl rfl) H.g_BadPlan (da_cons (de_var 3) (da_nil)))) (dss_nil)))) (dss_cons (ds_if (dt_cmp o_gt (de_b1 b_len bi_len H.b_len PyProof.Rows.Boot.«len» (de_var 2)) (de_con H.c_MOST_SUMS)) (dss_one (ds_raise (xc_BadPlan H) (hr.mono (by decide)) rfl (takes_of rfl rfl rfl rfl) H.g_BadPlan (da_cons (de_str) (da_nil)))) (dss_nil)) (dss_cons (ds_if (dt_not (dt_tru (de_isi H.isF H.b_isinstance (de_var 1) (de_ty rfl H.b_bool PyProof.Rows.Boot.«bool»)))) (dss_one (ds_raise (xc_BadPlan H) (hr.mono (by decide)) rfl (takes_of rfl rfl rfl rfl) H.g_BadPlan (da_cons (de_str) (da_nil)))) (dss_nil)) (dss_cons (ds_fld 0 H.f_sums (de_call (a_ordered_1 H) (hr.mono (by decide)) (takes_of rfl rfl rfl rfl) H.g_ordered H.k_ordered (dc_pos (da_cons (de_var 2) (da_nil))))) (dss_one (ds_fld 0 H.f_mute (de_var 1))))))
theorem sc_Phaseu__equ_ : FnScope ["self", "other"] ["self", "other"] (defScope s_Phaseu__equ_) := ⟨rfl, rfl, rfl, by decide +kernel, rfl, by decide +kernel, by decide +kernel⟩
def m_Phaseu__equ_ : Gm → T Fl := mRet (mAndV (mIsi isT (mVar 1) (mC (.cls 5))) (mAndV (mBin gEqD (mUn (gFld [5] "sums") (mVar 0)) (mUn (gFld [5] "sums") (mVar 1))) (mBin gEqD (mUn (gFld [5] "mute") (mVar 0)) (mUn (gFld [5] "mute") (mVar 1)))))
def r_Phaseu__equ_ : List D → T D := runB 2 2 m_Phaseu__equ_
theorem ok_Phaseu__equ_ (H : Fc P w K mg base c) {fd : FuncData} (F : FunD K "__eq__" "Phase.__eq__" (defArgs s_Phaseu__equ_) (defBody s_Phaseu__equ_) (defScope s_Phaseu__equ_) [] [] (He.fAd K ("Phase", some "__eq__")) fd) : DL.FnOk P w K mg base (CX P w) 1 (He.fAd K ("Phase", some "__eq__")) fd ["self", "other"] (spD c K r_Phaseu__equ_) :=
  fnD (N := ["self", "other"]) (ps := ["self", "other"]) (mb := m_Phaseu__equ_) F sc_Phaseu__equ_ (by decide) fun cdv A outer s H0 E hcd hr => dss_one (ds_ret (de_and (de_isi H.isF H.b_isinstance (de_var 1) (de_glob (v := .ref (c.cA 5)) rfl H.g_Phase rfl (fun _ => .cls 5))) (de_and (de_cmp (o_eq hr.toRoom.units) (de_fld H.f_sums (de_var 0)) (de_fld H.f_sums (de_var 1))) (de_one (de_cmp (o_eq hr.toRoom.units) (de_fld H.f_mute (de_var 0)) (de_fld H.f_mute (de_var 1)))))))
@[irreducible] def ma_Phaseu__equ__2 := posM 2 r_Phaseu__equ_ []
theorem a_Phaseu__equ__2 (H : Fc P w K mg base c) : FnA P w K mg base 1 (He.fAd K ("Phase", some "__eq__")) [] (spD c K ma_Phaseu__equ__2) := by
  unfold ma_Phaseu__equ__2
  obtain ⟨fd, F⟩ := H.d_Phaseu__equ_
  exact FnA.pos 2 (ok_Phaseu__equ_ H F) (F.bindsN fun _ _ _ _ _ _ us hl => match us, hl with | [_, _], _ => rfl) .nil (fun _ => .nil)
theorem sc_Planu__initu_ : FnScope ["self", "phases", "at", "phase", "ages", "age"] ["self", "phases"] (defScope s_Planu__initu_) := ⟨rfl, rfl, rfl, by decide +kernel, rfl, by decide +kernel, by decide +kernel⟩
def b_Planu__initu__1 : Gm → T Fl := mIfS (tNotM (mTru (mIsi isT (mVar 3) (mC (.cls 5))))) (mRaise 1 ["part"] (aCons (mVar 2) (aNil))) (mNx)
def b_Planu__initu__2 : Gm → T Fl := mIfS (mTru (mUn gAny (mLc2 (iAny (mUn (gFld [5] "sums") (mVar 3))) (gmName 4) (tYesM) (iAny (mVar 4)) (gmName 5) (tYesM) (mUn (gFld [5] "mute") (mBin gIx (mVar 1) (mBin gMod (mUn gInt (mBin gSub (mVar 2) (mVar 5))) (mUn gLen (mVar 1))))) [4, 5] [5]))) (mRaise 1 ["part"] (aCons (mVar 2) (aNil))) (mNx)
def m_Planu__initu_ : Gm → T Fl := mSeq (mFor (DL.iEnum (mVar 1)) (gmTup 2 (gmCons (gmName 2) (gmCons (gmName 3) (gmNil)))) (b_Planu__initu__1)) (mSeq (mIfS (tNotM (mChainT gLe gLe (mC (.int 1)) (mUn gLen (mVar 1)) (mC (.int 4)))) (mRaise 1 ["part"] (aCons (mC (.str "phases")) (aNil))) (mNx)) (mSeq (mIfS (mTru (mUn gAll (mLc (iAny (mVar 1)) (gmName 3) (tYesM) (mUn (gFld [5] "mute") (mVar 3)) [3]))) (mRaise 1 ["part"] (aCons (mC (.str "mute")) (aNil))) (mNx)) (mSeq (mFor (DL.iEnum (mVar 1)) (gmTup 2 (gmCons (gmName 2) (gmCons (gmName 3) (gmNil)))) (b_Planu__initu__2)) (mFldS 0 [6] "phases" (mUn gTuple (mVar 1))))))
def r_Planu__initu_ : List D → T (List (Str × D)) := initB 1 5 6 m_Planu__initu_
@[irreducible] def ma_Planu__initu__star := starM 0 r_Planu__initu_
theorem a_Planu__initu__star (H : Fc P w K mg base c) : FnA P w K mg base 3 (He.fAd K ("Plan", some "__init__")) [] (spI c K 6 ma_Planu__initu__star) := by
  unfold ma_Planu__initu__star
  obtain ⟨fd, F⟩ := H.d_Planu__initu_
  exact fnStarI (ps := []) F sc_Planu__initu_ (by decide) (fun _ _ _ _ _ _ us rest hl => match us, hl with | [_], _ => (match rest with | [] => rfl | _ :: _ => rfl)) fun cdv A outer s H0 E hcd hr => dss_cons (ds_for (passes_of rfl) rfl (di_enum H.b_enumerate (de_var 1)) (dg_tup rfl (dgs_cons (dg_name 2 sc_Planu__initu_.nd) (dgs_cons (dg_name 3 sc_Planu__initu_.nd) (dgs_nil)))) (dss_one (ds_if (dt_not (dt_tru (de_isi H.isF H.b_isinstance (de_var 3) (de_glob (v := .ref (c.cA 5)) rfl H.g_Phase rfl (fun _ => .cls 5))))) (dss_one (ds_raise (xc_BadPlan H) (hr.mono (by decide)) rfl (takes_of rfl rfl rfl rfl) H.g_BadPlan (da_cons (de_var 2) (da_nil)))) (dss_nil)))) (dss_cons (ds_if (dt_not (dt_chain o_le o_le (de_int) (de_b1 b_len bi_len H.b_len PyProof.Rows.Boot.«len» (de_var 1)) (de_con H.c_MOST_PHASES))) (dss_one (ds_raise (xc_BadPlan H) (hr.mono (by decide)) rfl (takes_of rfl rfl rfl rfl) H.g_BadPlan (da_cons (de_str) (da_nil)))) (dss_nil)) (dss_cons (ds_if (dt_tru (de_b1 (cr_all rfl) bi_all H.b_all PyProof.Rows.Boot.«all» (de_lc (own := [("phase", 3)]) rfl sc_Planu__initu_.nd (di_any (de_var 1)) rfl (fun _ _ _ _ _ => dg_name 3 sc_Planu__initu_.nd) (fun _ _ _ _ _ => dts_nil) (fun _ _ _ _ _ => de_fld H.f_mute (de_var 3))))) (dss_one (ds_raise (xc_BadPlan H) (hr.mono (by decide)) rfl (takes_of rfl rfl rfl rfl) H.g_BadPlan (da_cons (de_str) (da_nil)))) (dss_nil)) (dss_cons (ds_for (passes_of rfl) rfl (di_enum H.b_enumerate (de_var 1)) (dg_tup rfl (dgs_cons (dg_name 2 sc_Planu__initu_.nd) (dgs_cons (dg_name 3 sc_Planu__initu_.nd) (dgs_nil)))) (dss_one (ds_if (dt_tru (de_b1 (cr_any rfl) bi_any H.b_any PyProof.Rows.Boot.«any» (de_lc2 (own := [("ages", 4), ("age", 5)]) (vs1 := [5]) rfl sc_Planu__initu_.nd (di_any (de_fld H.f_sums (de_var 3))) rfl (by decide) (fun _ _ _ _ _ => dg_sub (dg_name 4 sc_Planu__initu_.nd) (by decide)) (fun _ _ _ _ _ => dts_nil) (fun _ _ _ _ _ => di_any (de_var 4)) (fun _ _ _ _ _ => dg_name 5 sc_Planu__initu_.nd) (fun _ _ _ _ _ => dts_nil) (fun _ _ _ _ _ => de_fld H.f_mute (de_ix (de_var 1) (de_bin o_mod (de_t1 call_int1 bi_int H.b_int PyProof.Rows.Boot.«int» (de_bin o_sub (de_var 2) (de_var 5))) (de_b1 b_len bi_len H.b_len PyProof.Rows.Boot.«len» (de_var 1)))))))) (dss_one (ds_raise (xc_BadPlan H) (hr.mono (by decide)) rfl (takes_of rfl rfl rfl rfl) H.g_BadPlan (da_cons (de_var 2) (da_nil)))) (dss_nil)))) (dss_one (ds_fld 0 H.f_phases (de_t1 call_tuple_of bi_tuple H.b_tuple PyProof.Rows.Boot.«tuple» (de_var 1)))))))
theorem sc_Plan_plain : FnScope ["cls"] ["cls"] (defScope s_Plan_plain) := ⟨rfl, rfl, rfl, by decide +kernel, rfl, by decide +kernel, by decide +kernel⟩
def m_Plan_plain : Gm → T Fl := mRet (mMakeV 0 6 ma_Planu__initu__star (aCons (mMake 5 ma_Phaseu__initu__starQ0 (aNil)) (aNil)))
def r_Plan_plain : List D → T D := runB 1 1 m_Plan_plain
theorem ok_Plan_plain (H : Fc P w K mg base c) {fd : FuncData} (F : FunD K "plain" "Plan.plain" (defArgs s_Plan_plain) (defBody s_Plan_plain) (defScope s_Plan_plain) [] [] (smA K "classmethod" "Plan" "plain") fd) : DL.FnOk P w K mg base (CX P w) 8 (smA K "classmethod" "Plan" "plain") fd ["cls"] (spD c K r_Plan_plain) :=
  fnD (N := ["cls"]) (ps := ["cls"]) (mb := m_Plan_plain) F sc_Plan_plain (by decide) fun cdv A outer s H0 E hcd hr => dss_one (ds_ret (de_makeV 0 H.mk_Plan (a_Planu__initu__star H) (hr.mono (by decide)) (takes_of rfl rfl rfl rfl) (dc_pos (da_cons (de_make H.mk_Phase (a_Phaseu__initu__starQ0 H) (hr.mono (by decide)) (takes_of rfl rfl rfl rfl) H.g_Phase (dc_nil)) (da_nil)))))
@[irreducible] def ma_Plan_plain_1 := posM 1 r_Plan_plain []
theorem a_Plan_plain_1 (H : Fc P w K mg base c) : FnA P w K mg base 8 (smA K "classmethod" "Plan" "plain") [] (spD c K ma_Plan_plain_1) := by
  unfold ma_Plan_plain_1
  obtain ⟨fd, F⟩ := H.d_Plan_plain
  exact FnA.pos 1 (ok_Plan_plain H F) (F.bindsN fun _ _ _ _ _ _ us hl => match us, hl with | [_], _ => rfl) .nil (fun _ => .nil)
theorem sc_Plan_copies : FnScope ["cls", "ages", "sums", "age"] ["cls", "ages"] (defScope s_Plan_copies) := ⟨rfl, rfl, rfl, by decide +kernel, rfl, by decide +kernel, by decide +kernel⟩
def m_Plan_copies : Gm → T Fl := mSeq (mSet 2 (mLc (iAny (mVar 1)) (gmName 3) (tYesM) (mTup (aCons (mVar 3) (aNil))) [3])) (mRet (mMakeV 0 6 ma_Planu__initu__star (aCons (mMake 5 ma_Phaseu__initu__starQ0 (aStar1 (mVar 2))) (aNil))))
def r_Plan_copies : List D → T D := runB 2 4 m_Plan_copies
@[irreducible] def ma_Plan_copies_star := starM 1 r_Plan_copies
theorem a_Plan_copies_star (H : Fc P w K mg base c) : FnA P w K mg base 8 (smA K "classmethod" "Plan" "copies") [] (spD c K ma_Plan_copies_star) := by
  unfold ma_Plan_copies_star
  obtain ⟨fd, F⟩ := H.d_Plan_copies
  exact fnStar (ps := ["cls"]) F sc_Plan_copies (by decide) (fun _ _ _ _ _ _ us rest hl => match us, hl with | [_], _ => (match rest with | [] => rfl | _ :: _ => rfl)) fun cdv A outer s H0 E hcd hr => dss_cons (ds_setLc 2 (own := [("age", 3)]) rfl sc_Plan_copies.nd (di_any (de_var 1)) rfl (fun _ _ _ _ _ => dg_name 3 sc_Plan_copies.nd) (fun _ _ _ _ _ => dts_nil) (fun _ _ _ _ _ => de_tup (da_cons (de_var 3) (da_nil))) rfl) (dss_one (ds_ret (de_makeV 0 H.mk_Plan (a_Planu__initu__star H) (hr.mono (by decide)) (takes_of rfl rfl rfl rfl) (dc_pos (da_cons (de_make H.mk_Phase (a_Phaseu__initu__starQ0 H) (hr.mono (by decide)) (takes_of rfl rfl rfl rfl) H.g_Phase (dc_star1 (de_var 2))) (da_nil))))))
theorem sc_Plan_groups : FnScope ["cls", "size", "phases", "row"] ["cls", "size"] (defScope s_Plan_groups) := ⟨rfl, rfl, rfl, by decide +kernel, rfl, by decide +kernel, by decide +kernel⟩
def m_Plan_groups : Gm → T Fl := mSeq (mIfS (tNotM (mTru (mCall ma_is_within_3 (aCons (mVar 1) (aCons (mC (.int 1)) (aCons (mBin gSub (mC (.int 4)) (mC (.int 1))) (aNil))))))) (mRaise 1 ["part"] (aCons (mC (.str "size")) (aNil))) (mNx)) (mSeq (mSet 2 (mLst (aStar (mLc (DL.iRng1 (mVar 1)) (gmName 3) (tYesM) (mMake 5 ma_Phaseu__initu__starQ0 (aNil)) [3]) (aCons (mMake 5 ma_Phaseu__initu__starQ (aApp 1 (aCons (mBin rgKT2 (mC (.int 1)) (mBin gAdd (mVar 1) (mC (.int 1)))) (aNil)) (aCons (mC (.bl true)) (aNil)))) (aNil))))) (mRet (mMakeV 0 6 ma_Planu__initu__star (aStar1 (mVar 2)))))
def r_Plan_groups : List D → T D := runB 2 4 m_Plan_groups
theorem ok_Plan_groups (H : Fc P w K mg base c) {fd : FuncData} (F : FunD K "groups" "Plan.groups" (defArgs s_Plan_groups) (defBody s_Plan_groups) (defScope s_Plan_groups) [] [] (smA K "classmethod" "Plan" "groups") fd) : DL.FnOk P w K mg base (CX P w) 8 (smA K "classmethod" "Plan" "groups") fd ["cls", "size"] (spD c K r_Plan_groups) :=
  fnD (N := ["cls", "size", "phases", "row"]) (ps := ["cls", "size"]) (mb := m_Plan_groups) F sc_Plan_groups (by decide) fun cdv A outer s H0 E hcd hr => dss_cons (ds_if (dt_not (dt_tru (de_call (a_is_within_3 H) (hr.mono (by decide)) (takes_of rfl rfl rfl rfl) H.g_is_within H.k_is_within (dc_pos (da_cons (de_var 1) (da_cons (de_int) (da_cons (de_bin o_sub (de_con H.c_MOST_PHASES) (de_int)) (da_nil)))))))) (dss_one (ds_raise (xc_BadPlan H) (hr.mono (by decide)) rfl (takes_of rfl rfl rfl rfl) H.g_BadPlan (da_cons (de_str) (da_nil)))) (dss_nil)) (dss_cons (ds_set 2 sc_Plan_groups.nd (de_lst (da_star (de_lc (own := [("row", 3)]) rfl sc_Plan_groups.nd (di_rng1 H.b_range (de_var 1)) rfl (fun _ _ _ _ _ => dg_name 3 sc_Plan_groups.nd) (fun _ _ _ _ _ => dts_nil) (fun _ _ _ _ _ => de_make H.mk_Phase (a_Phaseu__initu__starQ0 H) (hr.mono (by decide)) LamX.takes0 H.g_Phase (dc_nil))) (da_cons (de_make H.mk_Phase (a_Phaseu__initu__starQ H) (hr.mono (by decide)) (takes_of rfl rfl rfl rfl) H.g_Phase (dc_kw (da_cons (de_trg2 rfl H.b_tuple H.b_range (de_int) (de_bin o_add (de_var 1) (de_int))) (da_nil)) (dk_cons (de_bl) (dk_nil)))) (da_nil))))) (dss_one (ds_ret (de_makeV 0 H.mk_Plan (a_Planu__initu__star H) (hr.mono (by decide)) (takes_of rfl rfl rfl rfl) (dc_star1 (de_var 2))))))
@[irreducible] def ma_Plan_groups_2 := posM 2 r_Plan_groups []
theorem a_Plan_groups_2 (H : Fc P w K mg base c) : FnA P w K mg base 8 (smA K "classmethod" "Plan" "groups") [] (spD c K ma_Plan_groups_2) := by
  unfold ma_Plan_groups_2
  obtain ⟨fd, F⟩ := H.d_Plan_groups
  exact FnA.pos 2 (ok_Plan_groups H F) (F.bindsN fun _ _ _ _ _ _ us hl => match us, hl with | [_, _], _ => rfl) .nil (fun _ => .nil)
theorem sc_Planu__lenu_ : FnScope ["self"] ["self"] (defScope s_Planu__lenu_) := ⟨rfl, rfl, rfl, by decide +kernel, rfl, by decide +kernel, by decide +kernel⟩
def m_Planu__lenu_ : Gm → T Fl := mRet (mUn gLen (mUn (gFld [6] "phases") (mVar 0)))
def r_Planu__lenu_ : List D → T D := runB 1 1 m_Planu__lenu_
theorem ok_Planu__lenu_ (H : Fc P w K mg base c) {fd : FuncData} (F : FunD K "__len__" "Plan.__len__" (defArgs s_Planu__lenu_) (defBody s_Planu__lenu_) (defScope s_Planu__lenu_) [] [] (He.fAd K ("Plan", some "__len__")) fd) : DL.FnOk P w K mg base (CX P w) 1 (He.fAd K ("Plan", some "__len__")) fd ["self"] (spD c K r_Planu__lenu_) :=
  fnD (N := ["self"]) (ps := ["self"]) (mb := m_Planu__lenu_) F sc_Planu__lenu_ (by decide) fun cdv A outer s H0 E hcd hr => dss_one (ds_ret (de_b1 b_len bi_len H.b_len PyProof.Rows.Boot.«len» (de_fld H.f_phases (de_var 0))))
@[irreducible] def ma_Planu__lenu__1 := posM 1 r_Planu__lenu_ []
theorem a_Planu__lenu__1 (H : Fc P w K mg base c) : FnA P w K mg base 1 (He.fAd K ("Plan", some "__len__")) [] (spD c K ma_Planu__lenu__1) := by
  unfold ma_Planu__lenu__1
  obtain ⟨fd, F⟩ := H.d_Planu__lenu_
  exact FnA.pos 1 (ok_Planu__lenu_ H F) (F.bindsN fun _ _ _ _ _ _ us hl => match us, hl with | [_], _ => rfl) .nil (fun _ => .nil)
def T_len : List (Nat × (List D → T D)) := [(6, ma_Planu__lenu__1)]
theorem hT_len {X : Cx} (H : Fc X.prog X.w X.K X.mg X.base c) : MethOk X c 1 "__len__" [] T_len := List.forall_mem_cons.mpr ⟨⟨H.cl_Plan, _, H.me_Plan_len, (a_Planu__lenu__1 H).mono (by decide)⟩, fun _ h => nomatch h⟩
theorem sc_Planu__getitemu_ : FnScope ["self", "n"] ["self", "n"] (defScope s_Planu__getitemu_) := ⟨rfl, rfl, rfl, by decide +kernel, rfl, by decide +kernel, by decide +kernel⟩
def m_Planu__getitemu_ : Gm → T Fl := mSeq (mIfS (tNotM (mTru (mCall ma_is_within_3 (aCons (mVar 1) (aCons (mC (.int 0)) (aCons (mBin gPow (mC (.int 10)) (mC (.int 40))) (aNil))))))) (mRaise 4 ["at"] (aCons (mVar 1) (aNil))) (mNx)) (mRet (mBin gIx (mUn (gFld [6] "phases") (mVar 0)) (mBin gMod (mUn gInt (mVar 1)) (mUn gLen (mUn (gFld [6] "phases") (mVar 0))))))
def r_Planu__getitemu_ : List D → T D := runB 2 2 m_Planu__getitemu_
theorem ok_Planu__getitemu_ (H : Fc P w K mg base c) {fd : FuncData} (F : FunD K "__getitem__" "Plan.__getitem__" (defArgs s_Planu__getitemu_) (defBody s_Planu__getitemu_) (defScope s_Planu__getitemu_) [] [] (He.fAd K ("Plan", some "__getitem__")) fd) : DL.FnOk P w K mg base (CX P w) 3 (He.fAd K ("Plan", some "__getitem__")) fd ["self", "n"] (spD c K r_Planu__getitemu_) :=
  fnD (N := ["self", "n"]) (ps := ["self", "n"]) (mb := m_Planu__getitemu_) F sc_Planu__getitemu_ (by decide) fun cdv A outer s H0 E hcd hr => dss_cons (ds_if (dt_not (dt_tru (de_call (a_is_within_3 H) (hr.mono (by decide)) (takes_of rfl rfl rfl rfl) H.g_is_within H.k_is_within (dc_pos (da_cons (de_var 1) (da_cons (de_int) (da_cons (de_bin o_pow (de_int) (de_int)) (da_nil)))))))) (dss_one (ds_raise (xc_NoPhase H) (hr.mono (by decide)) rfl (takes_of rfl rfl rfl rfl) H.g_NoPhase (da_cons (de_var 1) (da_nil)))) (dss_nil)) (dss_one (ds_ret (de_ix (de_fld H.f_phases (de_var 0)) (de_bin o_mod (de_t1 call_int1 bi_int H.b_int PyProof.Rows.Boot.«int» (de_var 1)) (de_b1 b_len bi_len H.b_len PyProof.Rows.Boot.«len» (de_fld H.f_phases (de_var 0)))))))
@[irreducible] def ma_Planu__getitemu__2 := posM 2 r_Planu__getitemu_ []
theorem a_Planu__getitemu__2 (H : Fc P w K mg base c) : FnA P w K mg base 3 (He.fAd K ("Plan", some "__getitem__")) [] (spD c K ma_Planu__getitemu__2) := by
  unfold ma_Planu__getitemu__2
  obtain ⟨fd, F⟩ := H.d_Planu__getitemu_
  exact FnA.pos 2 (ok_Planu__getitemu_ H F) (F.bindsN fun _ _ _ _ _ _ us hl => match us, hl with | [_, _], _ => rfl) .nil (fun _ => .nil)
def T_getitem : List (Nat × (List D → T D)) := [(6, ma_Planu__getitemu__2)]
theorem hT_getitem {X : Cx} (H : Fc X.prog X.w X.K X.mg X.base c) : MethOkC X c 3 "__getitem__" T_getitem := List.forall_mem_cons.mpr ⟨⟨H.cl_Plan, _, H.me_Plan_getitem, H.fi_Plan_getitem, (a_Planu__getitemu__2 H).mono (by decide)⟩, fun _ h => nomatch h⟩
theorem sc_Planu__equ_ : FnScope ["self", "other"] ["self", "other"] (defScope s_Planu__equ_) := ⟨rfl, rfl, rfl, by decide +kernel, rfl, by decide +kernel, by decide +kernel⟩
def m_Planu__equ_ : Gm → T Fl := mRet (mAndV (mIsi isT (mVar 1) (mC (.cls 6))) (mBin gEqD (mUn (gFld [6] "phases") (mVar 0)) (mUn (gFld [6] "phases") (mVar 1))))
def r_Planu__equ_ : List D → T D := runB 2 2 m_Planu__equ_
theorem ok_Planu__equ_ (H : Fc P w K mg base c) {fd : FuncData} (F : FunD K "__eq__" "Plan.__eq__" (defArgs s_Planu__equ_) (defBody s_Planu__equ_) (defScope s_Planu__equ_) [] [] (He.fAd K ("Plan", some "__eq__")) fd) : DL.FnOk P w K mg base (CX P w) 1 (He.fAd K ("Plan", some "__eq__")) fd ["self", "other"] (spD c K r_Planu__equ_) :=
  fnD (N := ["self", "other"]) (ps := ["self", "other"]) (mb := m_Planu__equ_) F sc_Planu__equ_ (by decide) fun cdv A outer s H0 E hcd hr => dss_one (ds_ret (de_and (de_isi H.isF H.b_isinstance (de_var 1) (de_glob (v := .ref (c.cA 6)) rfl H.g_Plan rfl (fun _ => .cls 6))) (de_one (de_cmp (o_eq hr.toRoom.units) (de_fld H.f_phases (de_var 0)) (de_fld H.f_phases (de_var 1))))))
@[irreducible] def ma_Planu__equ__2 := posM 2 r_Planu__equ_ []
theorem a_Planu__equ__2 (H : Fc P w K mg base c) : FnA P w K mg base 1 (He.fAd K ("Plan", some "__eq__")) [] (spD c K ma_Planu__equ__2) := by
  unfold ma_Planu__equ__2
  obtain ⟨fd, F⟩ := H.d_Planu__equ_
  exact FnA.pos 2 (ok_Planu__equ_ H F) (F.bindsN fun _ _ _ _ _ _ us hl => match us, hl with | [_, _], _ => rfl) .nil (fun _ => .nil)
def eqT : List (Nat × (List D → T D)) := [(5, ma_Phaseu__equ__2), (6, ma_Planu__equ__2)]
theorem mEq {X : Cx} (H : Fc X.prog X.w X.K X.mg X.base c) : MethOk X c 1 "__eq__" [] eqT := List.forall_mem_cons.mpr ⟨⟨H.cl_Phase, _, H.me_Phase_eq, (a_Phaseu__equ__2 H).mono (by decide)⟩, List.forall_mem_cons.mpr ⟨⟨H.cl_Plan, _, H.me_Plan_eq, (a_Planu__equ__2 H).mono (by decide)⟩, fun _ h => nomatch h⟩⟩
theorem nEq {X : Cx} (H : Fc X.prog X.w X.K X.mg X.base c) : NeOk X c eqT := List.forall_mem_cons.mpr ⟨H.ne_Phase, List.forall_mem_cons.mpr ⟨H.ne_Plan, fun _ h => nomatch h⟩⟩
theorem sc_need_plan : FnScope ["value"] ["value"] (defScope s_need_plan) := ⟨rfl, rfl, rfl, by decide +kernel, rfl, by decide +kernel, by decide +kernel⟩
def m_need_plan : Gm → T Fl := mIfS (tNotM (mTru (mIsi isT (mVar 0) (mC (.cls 6))))) (mRaise 1 ["part"] (aCons (mC (.str "plan")) (aNil))) (mNx)
def r_need_plan : List D → T D := runB 1 1 m_need_plan
theorem ok_need_plan (H : Fc P w K mg base c) {fd : FuncData} (F : FunD K "need_plan" "need_plan" (defArgs s_need_plan) (defBody s_need_plan) (defScope s_need_plan) [] [] (He.fAd K ("need_plan", none)) fd) : DL.FnOk P w K mg base (CX P w) 3 (He.fAd K ("need_plan", none)) fd ["value"] (spD c K r_need_plan) :=
  fnD (N := ["value"]) (ps := ["value"]) (mb := m_need_plan) F sc_need_plan (by decide) fun cdv A outer s H0 E hcd hr => dss_one (ds_if (dt_not (dt_tru (de_isi H.isF H.b_isinstance (de_var 0) (de_glob (v := .ref (c.cA 6)) rfl H.g_Plan rfl (fun _ => .cls 6))))) (dss_one (ds_raise (xc_BadPlan H) (hr.mono (by decide)) rfl (takes_of rfl rfl rfl rfl) H.g_BadPlan (da_cons (de_str) (da_nil)))) (dss_nil))
@[irreducible] def ma_need_plan_1 := posM 1 r_need_plan []
theorem a_need_plan_1 (H : Fc P w K mg base c) : FnA P w K mg base 3 (He.fAd K ("need_plan", none)) [] (spD c K ma_need_plan_1) := by
  unfold ma_need_plan_1
  obtain ⟨fd, F⟩ := H.d_need_plan
  exact FnA.pos 1 (ok_need_plan H F) (F.bindsN fun _ _ _ _ _ _ us hl => match us, hl with | [_], _ => rfl) .nil (fun _ => .nil)
theorem sc_settled : FnScope ["rows", "fresh", "row", "top", "low", "one"] ["rows", "fresh"] (defScope s_settled) := ⟨rfl, rfl, rfl, by decide +kernel, rfl, by decide +kernel, by decide +kernel⟩
def b_settled_1 : Gm → T Fl := mIfS (mTru (mBin gAnd (mVar 1) (mBin gIx (mVar 2) (mC (.int 0))))) (mSet 1 (mBin gXor (mVar 1) (mBin gIx (mVar 2) (mC (.int 1))))) (mNx)
def m_settled : Gm → T Fl := mSeq (mFor (iAny (mVar 0)) (gmName 2) (b_settled_1)) (mSeq (mIfS (mB (mBin gEqD (mVar 1) (mC (.int 0)))) (mRet (mVar 0)) (mNx)) (mSeq (mSet 3 (mBin gShl (mC (.int 1)) (mBin gSub (mUn gLen (mUn gFmtB (mVar 1))) (mC (.int 1))))) (mRet (mLst (aStar (mLc (iAny (mVar 0)) (gmTup 2 (gmCons (gmName 4) (gmCons (gmName 5) (gmNil)))) (tYesM) (mTup (aCons (mVar 4) (aCons (mIf (mTru (mBin gAnd (mVar 5) (mVar 3))) (mBin gXor (mVar 5) (mVar 1)) (mVar 5)) (aNil)))) [4, 5]) (aCons (mTup (aCons (mVar 3) (aCons (mVar 1) (aNil)))) (aNil)))))))
def r_settled : List D → T D := runB 2 6 m_settled
theorem ok_settled (H : Fc P w K mg base c) {fd : FuncData} (F : FunD K "settled" "settled" (defArgs s_settled) (defBody s_settled) (defScope s_settled) [] [] (He.fAd K ("settled", none)) fd) : DL.FnOk P w K mg base (CX P w) 1 (He.fAd K ("settled", none)) fd ["rows", "fresh"] (spD c K r_settled) :=
  fnD (N := ["rows", "fresh", "row", "top", "low", "one"]) (ps := ["rows", "fresh"]) (mb := m_settled) F sc_settled (by decide) fun cdv A outer s H0 E hcd hr => dss_cons (ds_for (passes_of rfl) rfl (di_any (de_var 0)) (dg_name 2 sc_settled.nd) (dss_one (ds_if (dt_tru (de_bin o_and (de_var 1) (de_ix (de_var 2) (de_int)))) (dss_one (ds_set 1 sc_settled.nd (de_bin o_xor (de_var 1) (de_ix (de_var 2) (de_int))))) (dss_nil)))) (dss_cons (ds_if (dt_cmp (o_eq hr.toRoom.units) (de_var 1) (de_int)) (dss_one (ds_ret (de_var 0))) (dss_nil)) (dss_cons (ds_set 3 sc_settled.nd (de_bin o_shl (de_int) (de_bin o_sub (de_b1 b_len bi_len H.b_len PyProof.Rows.Boot.«len» (de_joined1 (de_fmtB (de_var 1) (de_joined1 (de_str))))) (de_int)))) (dss_one (ds_ret (de_lst (da_star (de_lc (own := [("low", 4), ("one", 5)]) rfl sc_settled.nd (di_any (de_var 0)) rfl (fun _ _ _ _ _ => dg_tup rfl (dgs_cons (dg_name 4 sc_settled.nd) (dgs_cons (dg_name 5 sc_settled.nd) (dgs_nil)))) (fun _ _ _ _ _ => dts_nil) (fun _ _ _ _ _ => de_tup (da_cons (de_var 4) (da_cons (de_if (dt_tru (de_bin o_and (de_var 5) (de_var 3))) (de_bin o_xor (de_var 5) (de_var 1)) (de_var 5)) (da_nil))))) (da_cons (de_tup (da_cons (de_var 3) (da_cons (de_var 1) (da_nil)))) (da_nil))))))))
@[irreducible] def ma_settled_2 := posM 2 r_settled []
theorem a_settled_2 (H : Fc P w K mg base c) : FnA P w K mg base 1 (He.fAd K ("settled", none)) [] (spD c K ma_settled_2) := by
  unfold ma_settled_2
  obtain ⟨fd, F⟩ := H.d_settled
  exact FnA.pos 2 (ok_settled H F) (F.bindsN fun _ _ _ _ _ _ us hl => match us, hl with | [_, _], _ => rfl) .nil (fun _ => .nil)
theorem sc_known_spots : FnScope ["plan", "begin", "losses", "found", "rows", "open_bits", "slot", "at", "sign", "phase", "ages", "age", "low", "row", "spot"] ["plan", "begin", "losses"] (defScope s_known_spots) := ⟨rfl, rfl, rfl, by decide +kernel, rfl, by decide +kernel, by decide +kernel⟩
def b_known_spots_1 : Gm → T Fl := mSet 4 (mCall ma_settled_2 (aCons (mVar 4) (aCons (mBin gAnd (mUn gSumA (mLc (iAny (mVar 10)) (gmName 11) (mB (mBin gLe (mVar 11) (mVar 7))) (mBin gShl (mC (.int 1)) (mBin gSub (mVar 7) (mVar 11))) [11])) (mVar 5)) (aNil))))
def b_known_spots_2 : Gm → T Fl := mSeq (mSet 14 (mBin gSub (mUn gLen (mUn gFmtB (mVar 12))) (mC (.int 1)))) (mIfS (tAndM (mB (mBin gEqD (mVar 13) (mVar 12))) (mB (mBin gIsA (mBin gIx (mVar 3) (mVar 14)) (mC .non)))) (mIxS 3 (mVar 14) (mVar 7)) (mNx))
def b_known_spots_3 : Gm → T Fl := mSeq (mSet 9 (mBin (gIxO T_getitem) (mVar 0) (mBin gAdd (mVar 1) (mVar 7)))) (mSeq (mIfS (mB (mBin gEqD (mVar 8) (mC (.str "x")))) (mSeq (mSet 5 (mBin gOr (mVar 5) (mIf (mTru (mUn (gFld [5] "mute") (mVar 9))) (mC (.int 0)) (mBin gShl (mC (.int 1)) (mVar 7))))) (mCt)) (mNx)) (mSeq (mIfS (tNotM (mTru (mUn (gFld [5] "mute") (mVar 9)))) (mIxS 3 (mVar 7) (mVar 7)) (mNx)) (mSeq (mFor (iAny (mUn (gFld [5] "sums") (mVar 9))) (gmName 10) (b_known_spots_1)) (mFor (iAny (mVar 4)) (gmTup 2 (gmCons (gmName 12) (gmCons (gmName 13) (gmNil)))) (mCl [14] (b_known_spots_2))))))
def m_known_spots : Gm → T Fl := mSeq (mParM3 3 4 5 (aMOwn (fLc (iAny (mVar 2)) (gmName 6) (tYesM) (mC .non) [6]) (aMVal (mLst (aNil)) (aMVal (mC (.int 0)) (aMNil))))) (mSeq (mFor (DL.iEnumS (mVar 2)) (gmTup 2 (gmCons (gmName 7) (gmCons (gmName 8) (gmNil)))) (mCl [9, 10, 12, 13, 14] (b_known_spots_3))) ((fun γ => (mRet (mUn gTuple (mVar 3))) (frzS 3 γ))))
def r_known_spots : List D → T D := runB 3 15 m_known_spots
theorem ok_known_spots (H : Fc P w K mg base c) {fd : FuncData} (F : FunD K "known_spots" "known_spots" (defArgs s_known_spots) (defBody s_known_spots) (defScope s_known_spots) [] [] (He.fAd K ("known_spots", none)) fd) : DL.FnOk P w K mg base (CX P w) 5 (He.fAd K ("known_spots", none)) fd ["plan", "begin", "losses"] (spD c K r_known_spots) :=
  fnD (N := ["plan", "begin", "losses", "found", "rows", "open_bits", "slot", "at", "sign", "phase", "ages", "age", "low", "row", "spot"]) (ps := ["plan", "begin", "losses"]) (mb := m_known_spots) F sc_known_spots (by decide) fun cdv A outer s H0 E hcd hr => dss_cons (ds_parM3 3 4 5 rfl sc_known_spots.nd (dm_own (df_lc (own := [("slot", 6)]) rfl sc_known_spots.nd (di_any (de_var 2)) rfl (fun _ _ _ _ _ => dg_name 6 sc_known_spots.nd) (fun _ _ _ _ _ => dts_nil) (fun _ _ _ _ _ => de_non)) (dm_val (de_lst (da_nil)) (dm_val (de_int) (dm_nil))))) (dss_cons (ds_for (passes_of rfl) rfl (di_enumS H.b_enumerate (de_var 2)) (dg_tup rfl (dgs_cons (dg_name 7 sc_known_spots.nd) (dgs_cons (dg_name 8 sc_known_spots.nd) (dgs_nil)))) (dss_cl [9, 10, 12, 13, 14] (dss_cons (ds_set 9 sc_known_spots.nd (de_ixO (hT_getitem H) (hr.mono (by decide)) (takes_of rfl rfl rfl rfl) (de_var 0) (de_bin o_add (de_var 1) (de_var 7)))) (dss_cons (ds_if (dt_cmp (o_eq hr.toRoom.units) (de_var 8) (de_con H.c_LOST)) (dss_cons (ds_set 5 sc_known_spots.nd (de_bin o_or (de_var 5) (de_if (dt_tru (de_fld H.f_mute (de_var 9))) (de_int) (de_bin o_shl (de_int) (de_var 7))))) (dss_one (ds_continue))) (dss_nil)) (dss_cons (ds_if (dt_not (dt_tru (de_fld H.f_mute (de_var 9)))) (dss_one (ds_ixS 3 (de_var 7) (de_var 7))) (dss_nil)) (dss_cons (ds_for (passes_of rfl) rfl (di_any (de_fld H.f_sums (de_var 9))) (dg_name 10 sc_known_spots.nd) (dss_one (ds_set 4 sc_known_spots.nd (de_call (a_settled_2 H) (hr.mono (by decide)) (takes_of rfl rfl rfl rfl) H.g_settled H.k_settled (dc_pos (da_cons (de_var 4) (da_cons (de_bin o_and (de_b1 (cr_sumA rfl) bi_sumA H.b_sum PyProof.Rows.Boot.«sum» (de_lc (own := [("age", 11)]) rfl sc_known_spots.nd (di_any (de_var 10)) rfl (fun _ _ _ _ _ => dg_name 11 sc_known_spots.nd) (fun _ _ _ _ _ => dts_one (dt_cmp o_le (de_var 11) (de_var 7))) (fun _ _ _ _ _ => de_bin o_shl (de_int) (de_bin o_sub (de_var 7) (de_var 11))))) (de_var 5)) (da_nil)))))))) (dss_one (ds_for (passes_of rfl) rfl (di_any (de_var 4)) (dg_tup rfl (dgs_cons (dg_name 12 sc_known_spots.nd) (dgs_cons (dg_name 13 sc_known_spots.nd) (dgs_nil)))) (dss_cl [14] (dss_cons (ds_set 14 sc_known_spots.nd (de_bin o_sub (de_b1 b_len bi_len H.b_len PyProof.Rows.Boot.«len» (de_joined1 (de_fmtB (de_var 12) (de_joined1 (de_str))))) (de_int))) (dss_one (ds_if (dt_and (dt_cmp (o_eq hr.toRoom.units) (de_var 13) (de_var 12)) (dw_and1 (dt_cmp o_isA (de_ix (de_var 3) (de_var 14)) (de_non)))) (dss_one (ds_ixS 3 (de_var 7) (de_var 14))) (dss_nil))))))))))))) (dss_one (ds_frz 3 (ds_ret (de_t1 call_tuple_of bi_tuple H.b_tuple PyProof.Rows.Boot.«tuple» (de_var 3))))))
@[irreducible] def ma_known_spots_3 := posM 3 r_known_spots []
theorem a_known_spots_3 (H : Fc P w K mg base c) : FnA P w K mg base 5 (He.fAd K ("known_spots", none)) [] (spD c K ma_known_spots_3) := by
  unfold ma_known_spots_3
  obtain ⟨fd, F⟩ := H.d_known_spots
  exact FnA.pos 3 (ok_known_spots H F) (F.bindsN fun _ _ _ _ _ _ us hl => match us, hl with | [_, _, _], _ => rfl) .nil (fun _ => .nil)
theorem sc_known_at : FnScope ["plan", "begin", "losses"] ["plan", "begin", "losses"] (defScope s_known_at) := ⟨rfl, rfl, rfl, by decide +kernel, rfl, by decide +kernel, by decide +kernel⟩
def m_known_at : Gm → T Fl := mSeq (mDrop (mCall ma_need_plan_1 (aCons (mVar 0) (aNil)))) (mSeq (mIfS (tNotM (mTru (mCall ma_is_within_3 (aCons (mVar 1) (aCons (mC (.int 0)) (aCons (mBin gSub (mUn (gLenO T_len) (mVar 0)) (mC (.int 1))) (aNil))))))) (mRaise 4 ["at"] (aCons (mVar 1) (aNil))) (mNx)) (mSeq (mDrop (mCall ma_need_losses_1 (aCons (mVar 2) (aNil)))) (mRet (mCall ma_known_spots_3 (aCons (mVar 0) (aCons (mVar 1) (aCons (mVar 2) (aNil))))))))
def r_known_at : List D → T D := runB 3 3 m_known_at
theorem ok_known_at (H : Fc P w K mg base c) {fd : FuncData} (F : FunD K "known_at" "known_at" (defArgs s_known_at) (defBody s_known_at) (defScope s_known_at) [] [] (He.fAd K ("known_at", none)) fd) : DL.FnOk P w K mg base (CX P w) 6 (He.fAd K ("known_at", none)) fd ["plan", "begin", "losses"] (spD c K r_known_at) :=
  fnD (N := ["plan", "begin", "losses"]) (ps := ["plan", "begin", "losses"]) (mb := m_known_at) F sc_known_at (by decide) fun cdv A outer s H0 E hcd hr => dss_cons (ds_expr (de_call (a_need_plan_1 H) (hr.mono (by decide)) (takes_of rfl rfl rfl rfl) H.g_need_plan H.k_need_plan (dc_pos (da_cons (de_var 0) (da_nil))))) (dss_cons (ds_if (dt_not (dt_tru (de_call (a_is_within_3 H) (hr.mono (by decide)) (takes_of rfl rfl rfl rfl) H.g_is_within H.k_is_within (dc_pos (da_cons (de_var 1) (da_cons (de_int) (da_cons (de_bin o_sub (de_lenO (hT_len H) (hr.mono (by decide)) (takes_of rfl rfl rfl rfl) H.b_len (de_var 0)) (de_int)) (da_nil)))))))) (dss_one (ds_raise (xc_NoPhase H) (hr.mono (by decide)) rfl (takes_of rfl rfl rfl rfl) H.g_NoPhase (da_cons (de_var 1) (da_nil)))) (dss_nil)) (dss_cons (ds_expr (de_call (a_need_losses_1 H) (hr.mono (by decide)) (takes_of rfl rfl rfl rfl) H.g_need_losses H.k_need_losses (dc_pos (da_cons (de_var 2) (da_nil))))) (dss_one (ds_ret (de_call (a_known_spots_3 H) (hr.mono (by decide)) (takes_of rfl rfl rfl rfl) H.g_known_spots H.k_known_spots (dc_pos (da_cons (de_var 0) (da_cons (de_var 1) (da_cons (de_var 2) (da_nil))))))))))
@[irreducible] def ma_known_at_3 := posM 3 r_known_at []
theorem a_known_at_3 (H : Fc P w K mg base c) : FnA P w K mg base 6 (He.fAd K ("known_at", none)) [] (spD c K ma_known_at_3) := by
  unfold ma_known_at_3
  obtain ⟨fd, F⟩ := H.d_known_at
  exact FnA.pos 3 (ok_known_at H F) (F.bindsN fun _ _ _ _ _ _ us hl => match us, hl with | [_, _, _], _ => rfl) .nil (fun _ => .nil)
@[irreducible] def ma_known_at_0_plan_losses_begin := kwM 0 3 r_known_at (fun us ws => (ws.drop 0).take 1 ++ ((ws.drop 2).take 1 ++ ((ws.drop 1).take 1)))
theorem a_known_at_0_plan_losses_begin (H : Fc P w K mg base c) : FnA P w K mg base 6 (He.fAd K ("known_at", none)) ["plan", "losses", "begin"] (spD c K ma_known_at_0_plan_losses_begin) := by
  unfold ma_known_at_0_plan_losses_begin
  obtain ⟨fd, F⟩ := H.d_known_at
  have b := kbN F (ps := ["plan", "begin", "losses"]) 0 ["plan", "losses", "begin"] (fun us ws => (ws.drop 0).take 1 ++ ((ws.drop 2).take 1 ++ ((ws.drop 1).take 1))) (fun r1 r3 => ((r3.drop 0).take 1).append (((r3.drop 2).take 1).append ((r3.drop 1).take 1))) (fun kV doc pm an cdv ct us ws h1 h3 => match us, h1, ws, h3 with | [], _, [_, _, _], _ => rfl)
  exact FnA.kw 0 (ok_known_at H F) b (fun {F0 vs zs ds es} rd re => by
    have dd : Dats c K F0 ([] : List V) ([] : List D) := .nil
    exact ((re.drop 0).take 1).append (((re.drop 2).take 1).append ((re.drop 1).take 1)))
theorem sc__law_pick : FnScope ["_law_pen_here", "_law_some"] ["_law_pen_here", "_law_some"] (defScope s__law_pick) := ⟨rfl, rfl, rfl, by decide +kernel, rfl, by decide +kernel, by decide +kernel⟩
def m__law_pick : Gm → T Fl := mRet (mBin gIx (mVar 1) (mCall ma__law_draw_2 (aCons (mVar 0) (aCons (mUn (gLenO T_len) (mVar 1)) (aNil)))))
def r__law_pick : List D → T D := runB 2 2 m__law_pick
theorem ok__law_pick (H : Fc P w K mg base c) {fd : FuncData} (F : FunD K "_law_pick" "_law_pick" (defArgs s__law_pick) (defBody s__law_pick) (defScope s__law_pick) [] [] (He.fAd K ("_law_pick", none)) fd) : DL.FnOk P w K mg base (CX P w) 3 (He.fAd K ("_law_pick", none)) fd ["_law_pen_here", "_law_some"] (spD c K r__law_pick) :=
  fnD (N := ["_law_pen_here", "_law_some"]) (ps := ["_law_pen_here", "_law_some"]) (mb := m__law_pick) F sc__law_pick (by decide) fun cdv A outer s H0 E hcd hr => dss_one (ds_ret (de_ix (de_var 1) (de_call (a__law_draw_2 H) (hr.mono (by decide)) (takes_of rfl rfl rfl rfl) H.g__law_draw H.k__law_draw (dc_pos (da_cons (de_var 0) (da_cons (de_lenO (hT_len H) (hr.mono (by decide)) (takes_of rfl rfl rfl rfl) H.b_len (de_var 1)) (da_nil)))))))
@[irreducible] def ma__law_pick_2 := posM 2 r__law_pick []
theorem a__law_pick_2 (H : Fc P w K mg base c) : FnA P w K mg base 3 (He.fAd K ("_law_pick", none)) [] (spD c K ma__law_pick_2) := by
  unfold ma__law_pick_2
  obtain ⟨fd, F⟩ := H.d__law_pick
  exact FnA.pos 2 (ok__law_pick H F) (F.bindsN fun _ _ _ _ _ _ us hl => match us, hl with | [_, _], _ => rfl) .nil (fun _ => .nil)
theorem sc__law_sums : FnScope ["_law_pen_here", "_law_found", "_law_some", "_law_turn", "_law_one"] ["_law_pen_here"] (defScope s__law_sums) := ⟨rfl, rfl, rfl, by decide +kernel, rfl, by decide +kernel, by decide +kernel⟩
def b__law_sums_1 : Gm → T Fl := mSeq (mSet 4 (mCall ma__law_pick_2 (aCons (mVar 0) (aCons (mVar 2) (aNil))))) (mIfS (mB (mBin (gInDT true) (mVar 4) (mVar 1))) (mApp 1 (mVar 4)) (mNx))
def st__law_sums_1 : Gm → T Fl := mParM2 1 2 (aMOwn (fLst (aNil)) (aMVal (mLst (aCons (mTup (aCons (mC (.int 1)) (aNil))) (aCons (mTup (aCons (mC (.int 2)) (aNil))) (aCons (mTup (aCons (mC (.int 1)) (aCons (mC (.int 2)) (aNil)))) (aCons (mTup (aCons (mC (.int 3)) (aNil))) (aCons (mTup (aCons (mC (.int 2)) (aCons (mC (.int 3)) (aNil)))) (aCons (mTup (aCons (mC (.int 4)) (aNil))) (aCons (mTup (aCons (mC (.int 1)) (aCons (mC (.int 4)) (aNil)))) (aCons (mTup (aCons (mC (.int 1)) (aCons (mC (.int 2)) (aCons (mC (.int 3)) (aNil))))) (aNil)))))))))) (aMNil)))
def st__law_sums_2 : Gm → T Fl := mFor (DL.iRng1 (mCall ma__law_draw_2 (aCons (mVar 0) (aCons (mC (.int 3)) (aNil))))) (gmName 3) (mCl [3, 4] (b__law_sums_1))
def st__law_sums_3 : Gm → T Fl := (fun γ => (mRet (mVar 1)) (frzS 1 γ))
def m__law_sums : Gm → T Fl := mSeq st__law_sums_1 (mSeq st__law_sums_2 (mCl [0, 2, 3, 4] (st__law_sums_3)))
def r__law_sums : List D → T D := runB 1 5 m__law_sums
theorem ok__law_sums (H : Fc P w K mg base c) {fd : FuncData} (F : FunD K "_law_sums" "_law_sums" (defArgs s__law_sums) (defBody s__law_sums) (defScope s__law_sums) [] [] (He.fAd K ("_law_sums", none)) fd) : DL.FnOk P w K mg base (CX P w) 4 (He.fAd K ("_law_sums", none)) fd ["_law_pen_here"] (spD c K r__law_sums) :=
  fnD (N := ["_law_pen_here", "_law_found", "_law_some", "_law_turn", "_law_one"]) (ps := ["_law_pen_here"]) (mb := m__law_sums) F sc__law_sums (by decide) fun cdv A outer s H0 E hcd hr => dss_cons (ds_parM2 1 2 rfl sc__law_sums.nd (dm_own (df_lst (da_nil)) (dm_val (de_lst (da_cons (de_tup (da_cons (de_int) (da_nil))) (da_cons (de_tup (da_cons (de_int) (da_nil))) (da_cons (de_tup (da_cons (de_int) (da_cons (de_int) (da_nil)))) (da_cons (de_tup (da_cons (de_int) (da_nil))) (da_cons (de_tup (da_cons (de_int) (da_cons (de_int) (da_nil)))) (da_cons (de_tup (da_cons (de_int) (da_nil))) (da_cons (de_tup (da_cons (de_int) (da_cons (de_int) (da_nil)))) (da_cons (de_tup (da_cons (de_int) (da_cons (de_int) (da_cons (de_int) (da_nil))))) (da_nil)))))))))) (dm_nil)))) (dss_cons (ds_for (passes_of rfl) rfl (di_rng1 H.b_range (de_call (a__law_draw_2 H) (hr.mono (by decide)) (takes_of rfl rfl rfl rfl) H.g__law_draw H.k__law_draw (dc_pos (da_cons (de_var 0) (da_cons (de_int) (da_nil)))))) (dg_name 3 sc__law_sums.nd) (dss_cl [3, 4] (dss_cons (ds_set 4 sc__law_sums.nd (de_call (a__law_pick_2 H) (hr.mono (by decide)) (takes_of rfl rfl rfl rfl) H.g__law_pick H.k__law_pick (dc_pos (da_cons (de_var 0) (da_cons (de_var 2) (da_nil)))))) (dss_one (ds_if (dt_cmp (o_notinDT hr.toRoom.units) (de_var 4) (de_var 1)) (dss_one (ds_app 1 (de_var 4))) (dss_nil)))))) (dss_cl [0, 2, 3, 4] (dss_one (ds_frz 1 (ds_ret (de_var 1))))))
@[irreducible] def ma__law_sums_1 := posM 1 r__law_sums []
theorem a__law_sums_1 (H : Fc P w K mg base c) : FnA P w K mg base 4 (He.fAd K ("_law_sums", none)) [] (spD c K ma__law_sums_1) := by
  unfold ma__law_sums_1
  obtain ⟨fd, F⟩ := H.d__law_sums
  exact FnA.pos 1 (ok__law_sums H F) (F.bindsN fun _ _ _ _ _ _ us hl => match us, hl with | [_], _ => rfl) .nil (fun _ => .nil)
theorem sc__law_plain : FnScope ["_law_pen_here", "_law_many", "_law_mutes", "_law_at", "_law_found", "_law_sums_so", "_law_ages", "_law_age"] ["_law_pen_here"] (defScope s__law_plain) := ⟨rfl, rfl, rfl, by decide +kernel, rfl, by decide +kernel, by decide +kernel⟩
def b__law_plain_1 : Gm → T Fl := mIfS (mB (mBin (gEqO isT eqT) (mLc (iAny (mVar 6)) (gmName 7) (mTru (mBin gIx (mVar 2) (mBin gMod (mUn gInt (mBin gSub (mVar 3) (mVar 7))) (mVar 1)))) (mVar 7) [7]) (mLst (aNil)))) (mApp 5 (mVar 6)) (mNx)
def b__law_plain_2 : Gm → T Fl := mSeq (mSetOwn 5 (fLst (aNil))) (mSeq (mFor (iAny (mCall ma__law_sums_1 (aCons (mVar 0) (aNil)))) (gmName 6) (b__law_plain_1)) ((fun γ => (mApp 4 (mTup (aCons (mBin gIx (mVar 2) (mVar 3)) (aCons (mVar 5) (aNil))))) (frzS 5 γ))))
def st__law_plain_1 : Gm → T Fl := mSet 1 (mBin gAdd (mC (.int 1)) (mCall ma__law_draw_2 (aCons (mVar 0) (aCons (mC (.int 3)) (aNil)))))
def st__law_plain_2 : Gm → T Fl := mSet 2 (mLc (DL.iRng1 (mVar 1)) (gmName 3) (tYesM) (mAndV (mBin gGt (mVar 3) (mC (.int 0))) (mBin (gEqO isT eqT) (mCall ma__law_draw_2 (aCons (mVar 0) (aCons (mC (.int 3)) (aNil)))) (mC (.int 0)))) [3])
def st__law_plain_3 : Gm → T Fl := mSetOwn 4 (fLst (aNil))
def st__law_plain_4 : Gm → T Fl := mFor (DL.iRng1 (mVar 1)) (gmName 3) (mCl [5, 6] (b__law_plain_2))
def st__law_plain_5 : Gm → T Fl := (fun γ => (mRet (mVar 4)) (frzS 4 γ))
def m__law_plain : Gm → T Fl := mSeq st__law_plain_1 (mSeq st__law_plain_2 (mCl [3] (mSeq st__law_plain_3 (mSeq st__law_plain_4 (mCl [0, 1, 2, 3, 6, 7] (st__law_plain_5))))))
def r__law_plain : List D → T D := runB 1 8 m__law_plain
theorem ok__law_plain (H : Fc P w K mg base c) {fd : FuncData} (F : FunD K "_law_plain" "_law_plain" (defArgs s__law_plain) (defBody s__law_plain) (defScope s__law_plain) [] [] (He.fAd K ("_law_plain", none)) fd) : DL.FnOk P w K mg base (CX P w) 5 (He.fAd K ("_law_plain", none)) fd ["_law_pen_here"] (spD c K r__law_plain) :=
  fnD (N := ["_law_pen_here", "_law_many", "_law_mutes", "_law_at", "_law_found", "_law_sums_so", "_law_ages", "_law_age"]) (ps := ["_law_pen_here"]) (mb := m__law_plain) F sc__law_plain (by decide) fun cdv A outer s H0 E hcd hr => dss_cons (ds_set 1 sc__law_plain.nd (de_bin o_add (de_int) (de_call (a__law_draw_2 H) (hr.mono (by decide)) (takes_of rfl rfl rfl rfl) H.g__law_draw H.k__law_draw (dc_pos (da_cons (de_var 0) (da_cons (de_int) (da_nil))))))) (dss_cons (ds_set 2 sc__law_plain.nd (de_lc (own := [("_law_at", 3)]) rfl sc__law_plain.nd (di_rng1 H.b_range (de_var 1)) rfl (fun _ _ _ _ _ => dg_name 3 sc__law_plain.nd) (fun _ _ _ _ _ => dts_nil) (fun _ _ _ _ _ => de_and (de_cmp o_gt (de_var 3) (de_int)) (de_one (de_cmp (o_eqO H.isF (mEq H) (hr.mono (by decide)) LamX.takes0) (de_call (a__law_draw_2 H) (hr.mono (by decide)) LamX.takes0 H.g__law_draw H.k__law_draw (dc_pos (da_cons (de_var 0) (da_cons (de_int) (da_nil))))) (de_int)))))) (dss_cl [3] (dss_cons (ds_setOwn 4 sc__law_plain.nd (df_lst (da_nil))) (dss_cons (ds_for (passes_of rfl) rfl (di_rng1 H.b_range (de_var 1)) (dg_name 3 sc__law_plain.nd) (dss_cl [5, 6] (dss_cons (ds_setOwn 5 sc__law_plain.nd (df_lst (da_nil))) (dss_cons (ds_for (passes_of rfl) rfl (di_any (de_call (a__law_sums_1 H) (hr.mono (by decide)) (takes_of rfl rfl rfl rfl) H.g__law_sums H.k__law_sums (dc_pos (da_cons (de_var 0) (da_nil))))) (dg_name 6 sc__law_plain.nd) (dss_one (ds_if (dt_cmp (o_eqO H.isF (mEq H) (hr.mono (by decide)) (takes_of rfl rfl rfl rfl)) (de_lc (own := [("_law_age", 7)]) rfl sc__law_plain.nd (di_any (de_var 6)) rfl (fun _ _ _ _ _ => dg_name 7 sc__law_plain.nd) (fun _ _ _ _ _ => dts_one (dt_tru (de_ix (de_var 2) (de_bin o_mod (de_t1 call_int1 bi_int H.b_int PyProof.Rows.Boot.«int» (de_bin o_sub (de_var 3) (de_var 7))) (de_var 1))))) (fun _ _ _ _ _ => de_var 7)) (de_lst (da_nil))) (dss_one (ds_app 5 (de_var 6))) (dss_nil)))) (dss_one (ds_frz 5 (ds_app 4 (de_tup (da_cons (de_ix (de_var 2) (de_var 3)) (da_cons (de_var 5) (da_nil))))))))))) (dss_cl [0, 1, 2, 3, 6, 7] (dss_one (ds_frz 4 (ds_ret (de_var 4)))))))))
@[irreducible] def ma__law_plain_1 := posM 1 r__law_plain []
theorem a__law_plain_1 (H : Fc P w K mg base c) : FnA P w K mg base 5 (He.fAd K ("_law_plain", none)) [] (spD c K ma__law_plain_1) := by
  unfold ma__law_plain_1
  obtain ⟨fd, F⟩ := H.d__law_plain
  exact FnA.pos 1 (ok__law_plain H F) (F.bindsN fun _ _ _ _ _ _ us hl => match us, hl with | [_], _ => rfl) .nil (fun _ => .nil)
theorem sc__law_phase : FnScope ["_law_row"] ["_law_row"] (defScope s__law_phase) := ⟨rfl, rfl, rfl, by decide +kernel, rfl, by decide +kernel, by decide +kernel⟩
def st__law_phase_1 : Gm → T Fl := mIfS (mB (mBin (gEqO isT eqT) (mUn (gLenO T_len) (mBin gIx (mVar 0) (mC (.int 1)))) (mC (.int 0)))) (mRet (mMake 5 ma_Phaseu__initu__starQ (aKw 1 (aCons (mBin gIx (mVar 0) (mC (.int 0))) (aNil))))) (mNx)
def st__law_phase_2 : Gm → T Fl := mRet (mIf (mB (mBin (gEqO isT eqT) (mUn (gLenO T_len) (mBin gIx (mVar 0) (mC (.int 1)))) (mC (.int 1)))) (mMake 5 ma_Phaseu__initu__starQ (aApp 1 (aCons (mBin gIx (mBin gIx (mVar 0) (mC (.int 1))) (mC (.int 0))) (aNil)) (aCons (mBin gIx (mVar 0) (mC (.int 0))) (aNil)))) (mMake 5 ma_Phaseu__initu__starQ (aApp 1 (aCons (mBin gIx (mBin gIx (mVar 0) (mC (.int 1))) (mC (.int 0))) (aCons (mBin gIx (mBin gIx (mVar 0) (mC (.int 1))) (mC (.int 1))) (aNil))) (aCons (mBin gIx (mVar 0) (mC (.int 0))) (aNil)))))
def m__law_phase : Gm → T Fl := mSeq st__law_phase_1 (st__law_phase_2)
def r__law_phase : List D → T D := runB 1 1 m__law_phase
theorem ok__law_phase (H : Fc P w K mg base c) {fd : FuncData} (F : FunD K "_law_phase" "_law_phase" (defArgs s__law_phase) (defBody s__law_phase) (defScope s__law_phase) [] [] (He.fAd K ("_law_phase", none)) fd) : DL.FnOk P w K mg base (CX P w) 8 (He.fAd K ("_law_phase", none)) fd ["_law_row"] (spD c K r__law_phase) :=
  fnD (N := ["_law_row"]) (ps := ["_law_row"]) (mb := m__law_phase) F sc__law_phase (by decide) fun cdv A outer s H0 E hcd hr => dss_cons (ds_if (dt_cmp (o_eqO H.isF (mEq H) (hr.mono (by decide)) (takes_of rfl rfl rfl rfl)) (de_lenO (hT_len H) (hr.mono (by decide)) (takes_of rfl rfl rfl rfl) H.b_len (de_ix (de_var 0) (de_int))) (de_int)) (dss_one (ds_ret (de_make H.mk_Phase (a_Phaseu__initu__starQ H) (hr.mono (by decide)) (takes_of rfl rfl rfl rfl) H.g_Phase (dc_kw0 (dk_cons (de_ix (de_var 0) (de_int)) (dk_nil)))))) (dss_nil)) (dss_one (ds_ret (de_if (dt_cmp (o_eqO H.isF (mEq H) (hr.mono (by decide)) (takes_of rfl rfl rfl rfl)) (de_lenO (hT_len H) (hr.mono (by decide)) (takes_of rfl rfl rfl rfl) H.b_len (de_ix (de_var 0) (de_int))) (de_int)) (de_make H.mk_Phase (a_Phaseu__initu__starQ H) (hr.mono (by decide)) (takes_of rfl rfl rfl rfl) H.g_Phase (dc_kw (da_cons (de_ix (de_ix (de_var 0) (de_int)) (de_int)) (da_nil)) (dk_cons (de_ix (de_var 0) (de_int)) (dk_nil)))) (de_make H.mk_Phase (a_Phaseu__initu__starQ H) (hr.mono (by decide)) (takes_of rfl rfl rfl rfl) H.g_Phase (dc_kw (da_cons (de_ix (de_ix (de_var 0) (de_int)) (de_int)) (da_cons (de_ix (de_ix (de_var 0) (de_int)) (de_int)) (da_nil))) (dk_cons (de_ix (de_var 0) (de_int)) (dk_nil)))))))
@[irreducible] def ma__law_phase_1 := posM 1 r__law_phase []
theorem a__law_phase_1 (H : Fc P w K mg base c) : FnA P w K mg base 8 (He.fAd K ("_law_phase", none)) [] (spD c K ma__law_phase_1) := by
  unfold ma__law_phase_1
  obtain ⟨fd, F⟩ := H.d__law_phase
  exact FnA.pos 1 (ok__law_phase H F) (F.bindsN fun _ _ _ _ _ _ us hl => match us, hl with | [_], _ => rfl) .nil (fun _ => .nil)
theorem sc__law_plan : FnScope ["_law_plain_here", "_law_some", "_law_row"] ["_law_plain_here"] (defScope s__law_plan) := ⟨rfl, rfl, rfl, by decide +kernel, rfl, by decide +kernel, by decide +kernel⟩
def st__law_plan_1 : Gm → T Fl := mSet 1 (mLc (iAny (mVar 0)) (gmName 2) (tYesM) (mCall ma__law_phase_1 (aCons (mVar 2) (aNil))) [2])
def st__law_plan_2 : Gm → T Fl := mIfS (mB (mBin (gEqO isT eqT) (mUn (gLenO T_len) (mVar 1)) (mC (.int 1)))) (mRet (mMake 6 ma_Planu__initu__star (aCons (mBin gIx (mVar 1) (mC (.int 0))) (aNil)))) (mNx)
def st__law_plan_3 : Gm → T Fl := mRet (mIf (mB (mBin (gEqO isT eqT) (mUn (gLenO T_len) (mVar 1)) (mC (.int 2)))) (mMake 6 ma_Planu__initu__star (aCons (mBin gIx (mVar 1) (mC (.int 0))) (aCons (mBin gIx (mVar 1) (mC (.int 1))) (aNil)))) (mMake 6 ma_Planu__initu__star (aCons (mBin gIx (mVar 1) (mC (.int 0))) (aCons (mBin gIx (mVar 1) (mC (.int 1))) (aCons (mBin gIx (mVar 1) (mC (.int 2))) (aNil))))))
def m__law_plan : Gm → T Fl := mSeq st__law_plan_1 (mCl [0, 2] (mSeq st__law_plan_2 (st__law_plan_3)))
def r__law_plan : List D → T D := runB 1 3 m__law_plan
theorem ok__law_plan (H : Fc P w K mg base c) {fd : FuncData} (F : FunD K "_law_plan" "_law_plan" (defArgs s__law_plan) (defBody s__law_plan) (defScope s__law_plan) [] [] (He.fAd K ("_law_plan", none)) fd) : DL.FnOk P w K mg base (CX P w) 9 (He.fAd K ("_law_plan", none)) fd ["_law_plain_here"] (spD c K r__law_plan) :=
  fnD (N := ["_law_plain_here", "_law_some", "_law_row"]) (ps := ["_law_plain_here"]) (mb := m__law_plan) F sc__law_plan (by decide) fun cdv A outer s H0 E hcd hr => dss_cons (ds_setLc 1 (own := [("_law_row", 2)]) rfl sc__law_plan.nd (di_any (de_var 0)) rfl (fun _ _ _ _ _ => dg_name 2 sc__law_plan.nd) (fun _ _ _ _ _ => dts_nil) (fun _ _ _ _ _ => de_call (a__law_phase_1 H) (hr.mono (by decide)) LamX.takes0 H.g__law_phase H.k__law_phase (dc_pos (da_cons (de_var 2) (da_nil)))) rfl) (dss_cl [0, 2] (dss_cons (ds_if (dt_cmp (o_eqO H.isF (mEq H) (hr.mono (by decide)) (takes_of rfl rfl rfl rfl)) (de_lenO (hT_len H) (hr.mono (by decide)) (takes_of rfl rfl rfl rfl) H.b_len (de_var 1)) (de_int)) (dss_one (ds_ret (de_make H.mk_Plan (a_Planu__initu__star H) (hr.mono (by decide)) (takes_of rfl rfl rfl rfl) H.g_Plan (dc_pos (da_cons (de_ix (de_var 1) (de_int)) (da_nil)))))) (dss_nil)) (dss_one (ds_ret (de_if (dt_cmp (o_eqO H.isF (mEq H) (hr.mono (by decide)) (takes_of rfl rfl rfl rfl)) (de_lenO (hT_len H) (hr.mono (by decide)) (takes_of rfl rfl rfl rfl) H.b_len (de_var 1)) (de_int)) (de_make H.mk_Plan (a_Planu__initu__star H) (hr.mono (by decide)) (takes_of rfl rfl rfl rfl) H.g_Plan (dc_pos (da_cons (de_ix (de_var 1) (de_int)) (da_cons (de_ix (de_var 1) (de_int)) (da_nil))))) (de_make H.mk_Plan (a_Planu__initu__star H) (hr.mono (by decide)) (takes_of rfl rfl rfl rfl) H.g_Plan (dc_pos (da_cons (de_ix (de_var 1) (de_int)) (da_cons (de_ix (de_var 1) (de_int)) (da_cons (de_ix (de_var 1) (de_int)) (da_nil)))))))))))
@[irreducible] def ma__law_plan_1 := posM 1 r__law_plan []
theorem a__law_plan_1 (H : Fc P w K mg base c) : FnA P w K mg base 9 (He.fAd K ("_law_plan", none)) [] (spD c K ma__law_plan_1) := by
  unfold ma__law_plan_1
  obtain ⟨fd, F⟩ := H.d__law_plan
  exact FnA.pos 1 (ok__law_plan H F) (F.bindsN fun _ _ _ _ _ _ us hl => match us, hl with | [_], _ => rfl) .nil (fun _ => .nil)
theorem sc__law_even : FnScope ["_law_vector", "_law_mask", "_law_found", "_law_left"] ["_law_vector", "_law_mask"] (defScope s__law_even) := ⟨rfl, rfl, rfl, by decide +kernel, rfl, by decide +kernel, by decide +kernel⟩
def b__law_even_1 : Gm → T Fl := mPar2 2 3 (aCons (mBin (gNeO isT eqT) (mVar 2) (mBin (gEqO isT eqT) (mBin gAnd (mVar 3) (mC (.int 1))) (mC (.int 1)))) (aCons (mBin gShr (mVar 3) (mC (.int 1))) (aNil)))
def t__law_even_1 : Gm → T Bool := mB (mBin gGt (mVar 3) (mC (.int 0)))
def st__law_even_1 : Gm → T Fl := mPar2 2 3 (aCons (mC (.bl true)) (aCons (mBin gAnd (mVar 0) (mVar 1)) (aNil)))
def st__law_even_2 : Gm → T Fl := mWhile 1000000 t__law_even_1 b__law_even_1
def st__law_even_3 : Gm → T Fl := mRet (mVar 2)
def m__law_even : Gm → T Fl := mSeq st__law_even_1 (mCl [0, 1] (mSeq st__law_even_2 (mCl [3] (st__law_even_3))))
def r__law_even : List D → T D := runB 2 4 m__law_even
theorem ok__law_even (H : Fc P w K mg base c) {fd : FuncData} (F : FunD K "_law_even" "_law_even" (defArgs s__law_even) (defBody s__law_even) (defScope s__law_even) [] [] (He.fAd K ("_law_even", none)) fd) : DL.FnOk P w K mg base (CX P w) 3 (He.fAd K ("_law_even", none)) fd ["_law_vector", "_law_mask"] (spD c K r__law_even) :=
  fnD (N := ["_law_vector", "_law_mask", "_law_found", "_law_left"]) (ps := ["_law_vector", "_law_mask"]) (mb := m__law_even) F sc__law_even (by decide) fun cdv A outer s H0 E hcd hr => dss_cons (ds_par2 2 3 rfl sc__law_even.nd (da_cons (de_bl) (da_cons (de_bin o_and (de_var 0) (de_var 1)) (da_nil)))) (dss_cl [0, 1] (dss_cons (ds_while 1000000 (passes_of rfl) (dt_cmp o_gt (de_var 3) (de_int)) (dss_one (ds_par2 2 3 rfl sc__law_even.nd (da_cons (de_cmp (o_neO H.isF (mEq H) (nEq H) (hr.mono (by decide)) (takes_of rfl rfl rfl rfl)) (de_var 2) (de_cmp (o_eqO H.isF (mEq H) (hr.mono (by decide)) (takes_of rfl rfl rfl rfl)) (de_bin o_and (de_var 3) (de_int)) (de_int))) (da_cons (de_bin o_shr (de_var 3) (de_int)) (da_nil)))))) (dss_cl [3] (dss_one (ds_ret (de_var 2))))))
@[irreducible] def ma__law_even_2 := posM 2 r__law_even []
theorem a__law_even_2 (H : Fc P w K mg base c) : FnA P w K mg base 3 (He.fAd K ("_law_even", none)) [] (spD c K ma__law_even_2) := by
  unfold ma__law_even_2
  obtain ⟨fd, F⟩ := H.d__law_even
  exact FnA.pos 2 (ok__law_even H F) (F.bindsN fun _ _ _ _ _ _ us hl => match us, hl with | [_, _], _ => rfl) .nil (fun _ => .nil)
theorem sc__law_known : FnScope ["_law_plain_here", "_law_first", "_law_losses_so", "_law_some", "_law_found", "_law_slot", "_law_at", "_law_mute_so", "_law_sums_so", "_law_vector", "_law_ages", "_law_mask", "_law_age", "_law_spot", "_law_is_row"] ["_law_plain_here", "_law_first", "_law_losses_so"] (defScope s__law_known) := ⟨rfl, rfl, rfl, by decide +kernel, rfl, by decide +kernel, by decide +kernel⟩
def b__law_known_1 : Gm → T Fl := mSeq (mSet 11 (mUn gSumA (mLc (iAny (mVar 10)) (gmName 12) (mB (mBin gLe (mVar 12) (mVar 6))) (mBin gShl (mC (.int 1)) (mBin gSub (mVar 6) (mVar 12))) [12]))) (mSet 3 (mLc (iAny (mVar 3)) (gmName 9) (mTru (mCall ma__law_even_2 (aCons (mVar 9) (aCons (mVar 11) (aNil))))) (mVar 9) [9]))
def b__law_known_2 : Gm → T Fl := mSeq (mSet 14 (mAndV (mBin (gEqO isT eqT) (mBin gIx (mVar 2) (mVar 13)) (mC (.str "x"))) (mNotV (mBin gIx (mBin gIx (mVar 0) (mBin gMod (mUn gInt (mBin gAdd (mVar 1) (mVar 13))) (mUn (gLenO T_len) (mVar 0)))) (mC (.int 0)))))) (mIfS (tAndM (mTru (mVar 14)) (tAndM (mB (mBin gIsA (mBin gIx (mVar 4) (mVar 13)) (mC .non))) (mB (mBin (gEqO isT eqT) (mLc (iAny (mVar 3)) (gmName 9) (mB (mBin (gEqO isT eqT) (mBin gAnd (mBin gShr (mVar 9) (mVar 13)) (mC (.int 1))) (mC (.int 1)))) (mVar 9) [9]) (mLst (aNil)))))) (mIxS 4 (mVar 13) (mVar 6)) (mNx))
def b__law_known_3 : Gm → T Fl := mSeq (mAsg (gmTup 2 (gmCons (gmName 7) (gmCons (gmName 8) (gmNil)))) (mBin gIx (mVar 0) (mBin gMod (mUn gInt (mBin gAdd (mVar 1) (mVar 6))) (mUn (gLenO T_len) (mVar 0))))) (mSeq (mIfS (tAndM (mB (mBin (gEqO isT eqT) (mVar 5) (mC (.str "x")))) (tNotM (mTru (mVar 7)))) (mSet 3 (mBin gAdd (mVar 3) (mLc (iAny (mVar 3)) (gmName 9) (tYesM) (mBin gOr (mVar 9) (mBin gShl (mC (.int 1)) (mVar 6))) [9]))) (mNx)) (mSeq (mIfS (tAndM (mB (mBin (gEqO isT eqT) (mVar 5) (mC (.str ".")))) (tNotM (mTru (mVar 7)))) (mIxS 4 (mVar 6) (mVar 6)) (mNx)) (mSeq (mIfS (mB (mBin (gEqO isT eqT) (mVar 5) (mC (.str ".")))) (mFor (iAny (mVar 8)) (gmName 10) (mCl [11] (b__law_known_1))) (mNx)) (mFor (DL.iRng1 (mBin gAdd (mVar 6) (mC (.int 1)))) (gmName 13) (mCl [14] (b__law_known_2))))))
def st__law_known_1 : Gm → T Fl := mParM2 3 4 (aMVal (mLst (aCons (mC (.int 0)) (aNil))) (aMOwn (fLc (iAny (mVar 2)) (gmName 5) (tYesM) (mC .non) [5]) (aMNil)))
def st__law_known_2 : Gm → T Fl := mFor (DL.iEnumS (mVar 2)) (gmTup 2 (gmCons (gmName 6) (gmCons (gmName 5) (gmNil)))) (mCl [7, 8, 10, 11, 13, 14] (b__law_known_3))
def st__law_known_3 : Gm → T Fl := (fun γ => (mRet (mUn gTuple (mVar 4))) (frzS 4 γ))
def m__law_known : Gm → T Fl := mSeq st__law_known_1 (mCl [5] (mSeq st__law_known_2 (mCl [0, 1, 2, 3, 5, 6, 7, 8, 9, 10, 11, 12, 13, 14] (st__law_known_3))))
def r__law_known : List D → T D := runB 3 15 m__law_known
theorem ok__law_known (H : Fc P w K mg base c) {fd : FuncData} (F : FunD K "_law_known" "_law_known" (defArgs s__law_known) (defBody s__law_known) (defScope s__law_known) [] [] (He.fAd K ("_law_known", none)) fd) : DL.FnOk P w K mg base (CX P w) 4 (He.fAd K ("_law_known", none)) fd ["_law_plain_here", "_law_first", "_law_losses_so"] (spD c K r__law_known) :=
  fnD (N := ["_law_plain_here", "_law_first", "_law_losses_so", "_law_some", "_law_found", "_law_slot", "_law_at", "_law_mute_so", "_law_sums_so", "_law_vector", "_law_ages", "_law_mask", "_law_age", "_law_spot", "_law_is_row"]) (ps := ["_law_plain_here", "_law_first", "_law_losses_so"]) (mb := m__law_known) F sc__law_known (by decide) fun cdv A outer s H0 E hcd hr => dss_cons (ds_parM2 3 4 rfl sc__law_known.nd (dm_val (de_lst (da_cons (de_int) (da_nil))) (dm_own (df_lc (own := [("_law_slot", 5)]) rfl sc__law_known.nd (di_any (de_var 2)) rfl (fun _ _ _ _ _ => dg_name 5 sc__law_known.nd) (fun _ _ _ _ _ => dts_nil) (fun _ _ _ _ _ => de_non)) (dm_nil)))) (dss_cl [5] (dss_cons (ds_for (passes_of rfl) rfl (di_enumS H.b_enumerate (de_var 2)) (dg_tup rfl (dgs_cons (dg_name 6 sc__law_known.nd) (dgs_cons (dg_name 5 sc__law_known.nd) (dgs_nil)))) (dss_cl [7, 8, 10, 11, 13, 14] (dss_cons (ds_asg (de_ix (de_var 0) (de_bin o_mod (de_t1 call_int1 bi_int H.b_int PyProof.Rows.Boot.«int» (de_bin o_add (de_var 1) (de_var 6))) (de_lenO (hT_len H) (hr.mono (by decide)) (takes_of rfl rfl rfl rfl) H.b_len (de_var 0)))) (dg_tup rfl (dgs_cons (dg_name 7 sc__law_known.nd) (dgs_cons (dg_name 8 sc__law_known.nd) (dgs_nil))))) (dss_cons (ds_if (dt_and (dt_cmp (o_eqO H.isF (mEq H) (hr.mono (by decide)) (takes_of rfl rfl rfl rfl)) (de_var 5) (de_str)) (dw_and1 (dt_not (dt_tru (de_var 7))))) (dss_one (ds_set 3 sc__law_known.nd (de_bin o_add (de_var 3) (de_lc (own := [("_law_vector", 9)]) rfl sc__law_known.nd (di_any (de_var 3)) rfl (fun _ _ _ _ _ => dg_name 9 sc__law_known.nd) (fun _ _ _ _ _ => dts_nil) (fun _ _ _ _ _ => de_bin o_or (de_var 9) (de_bin o_shl (de_int) (de_var 6))))))) (dss_nil)) (dss_cons (ds_if (dt_and (dt_cmp (o_eqO H.isF (mEq H) (hr.mono (by decide)) (takes_of rfl rfl rfl rfl)) (de_var 5) (de_str)) (dw_and1 (dt_not (dt_tru (de_var 7))))) (dss_one (ds_ixS 4 (de_var 6) (de_var 6))) (dss_nil)) (dss_cons (ds_if (dt_cmp (o_eqO H.isF (mEq H) (hr.mono (by decide)) (takes_of rfl rfl rfl rfl)) (de_var 5) (de_str)) (dss_one (ds_for (passes_of rfl) rfl (di_any (de_var 8)) (dg_name 10 sc__law_known.nd) (dss_cl [11] (dss_cons (ds_set 11 sc__law_known.nd (de_b1 (cr_sumA rfl) bi_sumA H.b_sum PyProof.Rows.Boot.«sum» (de_lc (own := [("_law_age", 12)]) rfl sc__law_known.nd (di_any (de_var 10)) rfl (fun _ _ _ _ _ => dg_name 12 sc__law_known.nd) (fun _ _ _ _ _ => dts_one (dt_cmp o_le (de_var 12) (de_var 6))) (fun _ _ _ _ _ => de_bin o_shl (de_int) (de_bin o_sub (de_var 6) (de_var 12)))))) (dss_one (ds_setLc 3 (own := [("_law_vector", 9)]) rfl sc__law_known.nd (di_any (de_var 3)) rfl (fun _ _ _ _ _ => dg_name 9 sc__law_known.nd) (fun _ _ _ _ _ => dts_one (dt_tru (de_call (a__law_even_2 H) (hr.mono (by decide)) LamX.takes0 H.g__law_even H.k__law_even (dc_pos (da_cons (de_var 9) (da_cons (de_var 11) (da_nil))))))) (fun _ _ _ _ _ => de_var 9) rfl)))))) (dss_nil)) (dss_one (ds_for (passes_of rfl) rfl (di_rng1 H.b_range (de_bin o_add (de_var 6) (de_int))) (dg_name 13 sc__law_known.nd) (dss_cl [14] (dss_cons (ds_set 14 sc__law_known.nd (de_and (de_cmp (o_eqO H.isF (mEq H) (hr.mono (by decide)) (takes_of rfl rfl rfl rfl)) (de_ix (de_var 2) (de_var 13)) (de_str)) (de_one (de_not (de_ix (de_ix (de_var 0) (de_bin o_mod (de_t1 call_int1 bi_int H.b_int PyProof.Rows.Boot.«int» (de_bin o_add (de_var 1) (de_var 13))) (de_lenO (hT_len H) (hr.mono (by decide)) (takes_of rfl rfl rfl rfl) H.b_len (de_var 0)))) (de_int)))))) (dss_one (ds_if (dt_and (dt_tru (de_var 14)) (dw_and (dt_cmp o_isA (de_ix (de_var 4) (de_var 13)) (de_non)) (dw_and1 (dt_cmp (o_eqO H.isF (mEq H) (hr.mono (by decide)) (takes_of rfl rfl rfl rfl)) (de_lc (own := [("_law_vector", 9)]) rfl sc__law_known.nd (di_any (de_var 3)) rfl (fun _ _ _ _ _ => dg_name 9 sc__law_known.nd) (fun _ _ _ _ _ => dts_one (dt_cmp (o_eqO H.isF (mEq H) (hr.mono (by decide)) LamX.takes0) (de_bin o_and (de_bin o_shr (de_var 9) (de_var 13)) (de_int)) (de_int))) (fun _ _ _ _ _ => de_var 9)) (de_lst (da_nil)))))) (dss_one (ds_ixS 4 (de_var 6) (de_var 13))) (dss_nil))))))))))))) (dss_cl [0, 1, 2, 3, 5, 6, 7, 8, 9, 10, 11, 12, 13, 14] (dss_one (ds_frz 4 (ds_ret (de_t1 call_tuple_of bi_tuple H.b_tuple PyProof.Rows.Boot.«tuple» (de_var 4))))))))
@[irreducible] def ma__law_known_3 := posM 3 r__law_known []
theorem a__law_known_3 (H : Fc P w K mg base c) : FnA P w K mg base 4 (He.fAd K ("_law_known", none)) [] (spD c K ma__law_known_3) := by
  unfold ma__law_known_3
  obtain ⟨fd, F⟩ := H.d__law_known
  exact FnA.pos 3 (ok__law_known H F) (F.bindsN fun _ _ _ _ _ _ us hl => match us, hl with | [_, _, _], _ => rfl) .nil (fun _ => .nil)
theorem sc_law : FnScope ["_law_script", "_law_pen_here", "_law_lap", "_law_plain_here", "_law_made", "_law_first", "_law_again", "_law_losses_so", "_law_slot", "_law_due", "_law_more", "_law_at", "_law_one"] ["_law_script"] (defScope s_law) := ⟨rfl, rfl, rfl, by decide +kernel, rfl, by decide +kernel, by decide +kernel⟩
theorem sc__law_pen : FnScope ["_law_script"] ["_law_script"] (defScope s__law_pen) := ⟨rfl, rfl, rfl, by decide +kernel, rfl, by decide +kernel, by decide +kernel⟩
def b_law_1 : Gm → T Fl := mSeq (mSet 7 (mJoin (mC (.str "")) (mLc (DL.iRng1 (mCall ma__law_draw_2 (aCons (mVar 1) (aCons (mC (.int 11)) (aNil))))) (gmName 8) (tYesM) (mCall ma__law_pick_2 (aCons (mVar 1) (aCons (mLst (aCons (mC (.str ".")) (aCons (mC (.str ".")) (aCons (mC (.str "x")) (aNil))))) (aNil)))) [8]))) (mSeq (mSet 9 (mCall ma__law_known_3 (aCons (mVar 3) (aCons (mVar 5) (aCons (mVar 7) (aNil)))))) (mSeq (mIfS (mB (mBin (gNeO isT eqT) (mUn gReprR (mCall ma_known_at_3 (aCons (mVar 4) (aCons (mVar 5) (aCons (mVar 7) (aNil)))))) (mUn gReprR (mVar 9)))) (mRet (mC (.bl false))) (mNx)) (mSeq (mSet 10 (mCall ma_known_at_3 (aCons (mVar 4) (aCons (mVar 5) (aCons (mBin gAdd (mVar 7) (mC (.str "."))) (aNil)))))) (mIfS (mB (mBin (gNeO isT eqT) (mLc (DL.iEnum (mVar 9)) (gmTup 2 (gmCons (gmName 11) (gmCons (gmName 12) (gmNil)))) (tAndM (mB (mBin gIsNotA (mVar 12) (mC .non))) (mB (mBin (gNeO isT eqT) (mBin gIx (mVar 10) (mVar 11)) (mVar 12)))) (mVar 11) [11, 12]) (mLst (aNil)))) (mRet (mC (.bl false))) (mNx)))))
def b_law_2 : Gm → T Fl := mSeq (mSet 3 (mCall ma__law_plain_1 (aCons (mVar 1) (aNil)))) (mSeq (mPar2 4 5 (aCons (mCall ma__law_plan_1 (aCons (mVar 3) (aNil))) (aCons (mCall ma__law_draw_2 (aCons (mVar 1) (aCons (mUn (gLenO T_len) (mVar 3)) (aNil)))) (aNil)))) (mFor (DL.iRng1 (mC (.int 4))) (gmName 6) (mCl [6, 7, 8, 9, 10] (b_law_1))))
def st_law_1 : Gm → T Fl := mFor (DL.iRng1 (mC (.int 6))) (gmName 2) (mCl [2, 3, 4, 5, 6, 7, 8, 9, 10] (b_law_2))
def st_law_2 : Gm → T Fl := mIfS (mB (mBin (gNeO isT eqT) (mBin gIx (mCall ma_known_at_3 (aCons (mCall ma_Plan_copies_star (aCons (mC (.cls 6)) (aCons (mC (.int 1)) (aNil)))) (aCons (mC (.int 0)) (aCons (mBin gAdd (mC (.str "x")) (mBin gMulA (mC (.str ".")) (mC (.int 399)))) (aNil))))) (mC (.int 399))) (mC (.int 399)))) (mRet (mC (.bl false))) (mNx)
def st_law_3 : Gm → T Fl := mIfS (tOrM (mB (mBin (gNeO isT eqT) (mCall ma_known_at_3 (aCons (mCall ma_Plan_copies_star (aCons (mC (.cls 6)) (aCons (mC (.int 1)) (aNil)))) (aCons (mC (.int 0)) (aCons (mC (.str ".x..x")) (aNil))))) (mTup (aCons (mC (.int 0)) (aCons (mC (.int 2)) (aCons (mC (.int 2)) (aCons (mC (.int 3)) (aCons (mC .non) (aNil))))))))) (mB (mBin (gNeO isT eqT) (mCall ma_known_at_3 (aCons (mCall ma_Plan_groups_2 (aCons (mC (.cls 6)) (aCons (mC (.int 2)) (aNil)))) (aCons (mC (.int 0)) (aCons (mC (.str "xx...x")) (aNil))))) (mTup (aCons (mC .non) (aCons (mC .non) (aCons (mC .non) (aCons (mC (.int 3)) (aCons (mC (.int 4)) (aCons (mC .non) (aNil))))))))))) (mRet (mC (.bl false))) (mNx)
def st_law_4 : Gm → T Fl := mRet (mAndV (mBin (gEqO isT eqT) (mCall ma_known_at_0_plan_losses_begin (aKw 3 (aCons (mCall ma_Plan_groups_2 (aCons (mC (.cls 6)) (aCons (mC (.int 2)) (aNil)))) (aCons (mC (.str "..")) (aCons (mC (.int 2)) (aNil)))))) (mTup (aCons (mC .non) (aCons (mC (.int 1)) (aNil))))) (mBin (gEqO isT eqT) (mCall ma_known_at_3 (aCons (mCall ma_Plan_plain_1 (aCons (mC (.cls 6)) (aKw 0 (aNil)))) (aCons (mC (.int 0)) (aCons (mC (.str "")) (aNil))))) (mTup (aNil))))
def m_law : Gm → T Fl := mSeq st_law_1 (mCl [0, 1, 2, 3, 4, 5, 6, 7, 8, 9, 10, 11, 12] (mSeq st_law_2 (mSeq st_law_3 (st_law_4))))
theorem body_law (H : Fc P w K mg base c) {f : Addr} (cdv : Value) (A : Around) (outer : List Env) (s : Shared) (H0 : Hp) (E : XK) {fdc : Value} (hcd : fdc = cdv) (hr : DL.Room 9 (A.deeper (envOfC "law" (defScope s_law) s.heap.objs.size f cdv))) :
    DSs (cxOf (CX P w) P w K mg base ["_law_script", "_law_pen_here", "_law_lap", "_law_plain_here", "_law_made", "_law_first", "_law_again", "_law_losses_so", "_law_slot", "_law_due", "_law_more", "_law_at", "_law_one"] "law" (defScope s_law) f cdv A outer s H0 E) c (fun cls d _ H => E cls d H) ((defBody s_law).drop 1) m_law :=
  dss_cons (ds_for (passes_of rfl) rfl (di_rng1 H.b_range (de_int)) (dg_name 2 sc_law.nd) (dss_cl [2, 3, 4, 5, 6, 7, 8, 9, 10] (dss_cons (ds_set 3 sc_law.nd (de_call (a__law_plain_1 H) (hr.mono (by decide)) (takes_of rfl rfl rfl rfl) H.g__law_plain H.k__law_plain (dc_pos (da_cons (de_var 1) (da_nil))))) (dss_cons (ds_par2 4 5 rfl sc_law.nd (da_cons (de_call (a__law_plan_1 H) (hr.mono (by decide)) (takes_of rfl rfl rfl rfl) H.g__law_plan H.k__law_plan (dc_pos (da_cons (de_var 3) (da_nil)))) (da_cons (de_call (a__law_draw_2 H) (hr.mono (by decide)) (takes_of rfl rfl rfl rfl) H.g__law_draw H.k__law_draw (dc_pos (da_cons (de_var 1) (da_cons (de_lenO (hT_len H) (hr.mono (by decide)) (takes_of rfl rfl rfl rfl) H.b_len (de_var 3)) (da_nil))))) (da_nil)))) (dss_one (ds_for (passes_of rfl) rfl (di_rng1 H.b_range (de_int)) (dg_name 6 sc_law.nd) (dss_cl [6, 7, 8, 9, 10] (dss_cons (ds_set 7 sc_law.nd (de_join (de_str) (de_lc (own := [("_law_slot", 8)]) rfl sc_law.nd (di_rng1 H.b_range (de_call (a__law_draw_2 H) (hr.mono (by decide)) (takes_of rfl rfl rfl rfl) H.g__law_draw H.k__law_draw (dc_pos (da_cons (de_var 1) (da_cons (de_int) (da_nil)))))) rfl (fun _ _ _ _ _ => dg_name 8 sc_law.nd) (fun _ _ _ _ _ => dts_nil) (fun _ _ _ _ _ => de_call (a__law_pick_2 H) (hr.mono (by decide)) LamX.takes0 H.g__law_pick H.k__law_pick (dc_pos (da_cons (de_var 1) (da_cons (de_lst (da_cons (de_str) (da_cons (de_str) (da_cons (de_str) (da_nil))))) (da_nil)))))))) (dss_cons (ds_set 9 sc_law.nd (de_call (a__law_known_3 H) (hr.mono (by decide)) (takes_of rfl rfl rfl rfl) H.g__law_known H.k__law_known (dc_pos (da_cons (de_var 3) (da_cons (de_var 5) (da_cons (de_var 7) (da_nil))))))) (dss_cons (ds_if (dt_cmp (o_neO H.isF (mEq H) (nEq H) (hr.mono (by decide)) (takes_of rfl rfl rfl rfl)) (de_b1 (call_reprR H.sm (hr.mono (Nat.zero_le _))) bi_reprR H.b_repr PyProof.Rows.Boot.«repr» (de_call (a_known_at_3 H) (hr.mono (by decide)) (takes_of rfl rfl rfl rfl) H.g_known_at H.k_known_at (dc_pos (da_cons (de_var 4) (da_cons (de_var 5) (da_cons (de_var 7) (da_nil))))))) (de_b1 (call_reprR H.sm (hr.mono (Nat.zero_le _))) bi_reprR H.b_repr PyProof.Rows.Boot.«repr» (de_var 9))) (dss_one (ds_ret (de_bl))) (dss_nil)) (dss_cons (ds_set 10 sc_law.nd (de_call (a_known_at_3 H) (hr.mono (by decide)) (takes_of rfl rfl rfl rfl) H.g_known_at H.k_known_at (dc_pos (da_cons (de_var 4) (da_cons (de_var 5) (da_cons (de_bin o_add (de_var 7) (de_str)) (da_nil))))))) (dss_one (ds_if (dt_cmp (o_neO H.isF (mEq H) (nEq H) (hr.mono (by decide)) (takes_of rfl rfl rfl rfl)) (de_lc (own := [("_law_at", 11), ("_law_one", 12)]) rfl sc_law.nd (di_enum H.b_enumerate (de_var 9)) rfl (fun _ _ _ _ _ => dg_tup rfl (dgs_cons (dg_name 11 sc_law.nd) (dgs_cons (dg_name 12 sc_law.nd) (dgs_nil)))) (fun _ _ _ _ _ => dts_one (dt_and (dt_cmp o_isnotA (de_var 12) (de_non)) (dw_and1 (dt_cmp (o_neO H.isF (mEq H) (nEq H) (hr.mono (by decide)) LamX.takes0) (de_ix (de_var 10) (de_var 11)) (de_var 12))))) (fun _ _ _ _ _ => de_var 11)) (de_lst (da_nil))) (dss_one (ds_ret (de_bl))) (dss_nil)))))))))))))) (dss_cl [0, 1, 2, 3, 4, 5, 6, 7, 8, 9, 10, 11, 12] (dss_cons (ds_if (dt_cmp (o_neO H.isF (mEq H) (nEq H) (hr.mono (by decide)) (takes_of rfl rfl rfl rfl)) (de_ix (de_call (a_known_at_3 H) (hr.mono (by decide)) (takes_of rfl rfl rfl rfl) H.g_known_at H.k_known_at (dc_pos (da_cons (de_cmeth H.cm_Plan_copies (a_Plan_copies_star H) (hr.mono (by decide)) (takes_of rfl rfl rfl rfl) H.g_Plan (da_cons (de_int) (da_nil))) (da_cons (de_int) (da_cons (de_bin o_add (de_str) (de_bin o_mulA (de_str) (de_int))) (da_nil)))))) (de_int)) (de_int)) (dss_one (ds_ret (de_bl))) (dss_nil)) (dss_cons (ds_if (dt_or (dt_cmp (o_neO H.isF (mEq H) (nEq H) (hr.mono (by decide)) (takes_of rfl rfl rfl rfl)) (de_call (a_known_at_3 H) (hr.mono (by decide)) (takes_of rfl rfl rfl rfl) H.g_known_at H.k_known_at (dc_pos (da_cons (de_cmeth H.cm_Plan_copies (a_Plan_copies_star H) (hr.mono (by decide)) (takes_of rfl rfl rfl rfl) H.g_Plan (da_cons (de_int) (da_nil))) (da_cons (de_int) (da_cons (de_str) (da_nil)))))) (de_tup (da_cons (de_int) (da_cons (de_int) (da_cons (de_int) (da_cons (de_int) (da_cons (de_non) (da_nil)))))))) (dw_or1 (dt_cmp (o_neO H.isF (mEq H) (nEq H) (hr.mono (by decide)) (takes_of rfl rfl rfl rfl)) (de_call (a_known_at_3 H) (hr.mono (by decide)) (takes_of rfl rfl rfl rfl) H.g_known_at H.k_known_at (dc_pos (da_cons (de_cmeth H.cm_Plan_groups (a_Plan_groups_2 H) (hr.mono (by decide)) (takes_of rfl rfl rfl rfl) H.g_Plan (da_cons (de_int) (da_nil))) (da_cons (de_int) (da_cons (de_str) (da_nil)))))) (de_tup (da_cons (de_non) (da_cons (de_non) (da_cons (de_non) (da_cons (de_int) (da_cons (de_int) (da_cons (de_non) (da_nil))))))))))) (dss_one (ds_ret (de_bl))) (dss_nil)) (dss_one (ds_ret (de_and (de_cmp (o_eqO H.isF (mEq H) (hr.mono (by decide)) (takes_of rfl rfl rfl rfl)) (de_call (a_known_at_0_plan_losses_begin H) (hr.mono (by decide)) (takes_of rfl rfl rfl rfl) H.g_known_at H.k_known_at (dc_kw0 (dk_cons (de_cmeth H.cm_Plan_groups (a_Plan_groups_2 H) (hr.mono (by decide)) (takes_of rfl rfl rfl rfl) H.g_Plan (da_cons (de_int) (da_nil))) (dk_cons (de_str) (dk_cons (de_int) (dk_nil)))))) (de_tup (da_cons (de_non) (da_cons (de_int) (da_nil))))) (de_one (de_cmp (o_eqO H.isF (mEq H) (hr.mono (by decide)) (takes_of rfl rfl rfl rfl)) (de_call (a_known_at_3 H) (hr.mono (by decide)) (takes_of rfl rfl rfl rfl) H.g_known_at H.k_known_at (dc_pos (da_cons (de_cmethK H.cm_Plan_plain (a_Plan_plain_1 H) (hr.mono (by decide)) (takes_of rfl rfl rfl rfl) H.g_Plan (dk_nil)) (da_cons (de_int) (da_cons (de_str) (da_nil)))))) (de_tup (da_nil))))))))))
end
/-! ### the head -/
theorem xs_BadLossesu__initu_ : SupScope ["self", "value"] (defScope s_BadLossesu__initu_) := ⟨rfl, rfl, rfl, by decide +kernel, by decide +kernel, by decide +kernel, fun y h => supS_free (by decide +kernel) h, by decide +kernel, by decide +kernel⟩
theorem xs_BadPlanu__initu_ : SupScope ["self", "part"] (defScope s_BadPlanu__initu_) := ⟨rfl, rfl, rfl, by decide +kernel, by decide +kernel, by decide +kernel, fun y h => supS_free (by decide +kernel) h, by decide +kernel, by decide +kernel⟩
theorem xs_NoPhaseu__initu_ : SupScope ["self", "at"] (defScope s_NoPhaseu__initu_) := ⟨rfl, rfl, rfl, by decide +kernel, by decide +kernel, by decide +kernel, fun y h => supS_free (by decide +kernel) h, by decide +kernel, by decide +kernel⟩
def tfL : List (He.Defn × Str) := []
def faL0 : List He.Fa := [.free "int",
  .free "isinstance",
  .free "bool",
  .glo "is_integer",
  .keep "is_integer",
  .free "str",
  .free "all",
  .glo "is_losses",
  .keep "is_losses",
  .free "len",
  .noat "BadLosses" "value",
  .free "super",
  .glo "BadLosses",
  .free "tuple",
  .glo "is_within",
  .keep "is_within",
  .free "zip",
  .free "sorted",
  .free "enumerate",
  .glo "is_sum",
  .keep "is_sum",
  .noat "BadPlan" "part",
  .glo "BadPlan",
  .glo "ordered",
  .keep "ordered",
  .glo "Phase",
  .glo "sum_text",
  .keep "sum_text",
  .free "any",
  .mkr "Phase"]
def faL1 : List He.Fa := [.mkr "Plan",
  .free "range",
  .noat "NoPhase" "at",
  .glo "NoPhase",
  .glo "Plan",
  .free "sum",
  .glo "settled",
  .keep "settled",
  .glo "need_plan",
  .keep "need_plan",
  .glo "need_losses",
  .keep "need_losses",
  .glo "known_spots",
  .keep "known_spots",
  .glo "_law_draw",
  .keep "_law_draw",
  .glo "_law_pick",
  .keep "_law_pick",
  .glo "_law_sums",
  .keep "_law_sums",
  .glo "_law_phase",
  .keep "_law_phase",
  .glo "_law_even",
  .keep "_law_even",
  .glo "_law_plain",
  .keep "_law_plain",
  .glo "_law_plan",
  .keep "_law_plan",
  .glo "_law_known",
  .keep "_law_known"]
def faL2 : List He.Fa := [.glo "known_at",
  .keep "known_at",
  .free "repr",
  .cls "Plan",
  .meth "Plan" "__str__",
  .cls "Phase",
  .meth "Phase" "__str__",
  .meth "Plan" "__len__",
  .meth "Plan" "__getitem__",
  .meth "Plan" "__eq__",
  .meth "Phase" "__eq__",
  .free "abs",
  .glo "law",
  .glo "_law_pen",
  .keep "_law_pen",
  .free "list"]
def faL : List He.Fa := faL0 ++ (faL1 ++ (faL2))
def fbL0 : List Fb := [.con "MOST_SLOTS" (.int 400),
  .xcl "BadLosses" "BadLosses.__init__",
  .con "MOST_AGE" (.int 4),
  .xcl "BadPlan" "BadPlan.__init__",
  .con "MOST_SUMS" (.int 4),
  .fld cnL [5] "sums",
  .fld cnL [5] "mute",
  .con "MOST_PHASES" (.int 4),
  .fld cnL [6] "phases",
  .xcl "NoPhase" "NoPhase.__init__",
  .con "LOST" (.str "x"),
  .sm,
  .any (cmetB "Plan" "copies"),
  .any (cmetB "Plan" "groups"),
  .any (cmetB "Plan" "plain"),
  .fnin ("Plan", some "__getitem__"),
  .nec "Plan",
  .nec "Phase",
  .isf cnL ownL excL 7 upL utL tyL]
def fbL : List Fb := fbL0
def fnL0 : List He.DefD := [⟨("is_integer", none), "is_integer", "is_integer", defArgs s_is_integer, defBody s_is_integer, defScope s_is_integer, [], []⟩,
  ⟨("is_within", none), "is_within", "is_within", defArgs s_is_within, defBody s_is_within, defScope s_is_within, [], []⟩,
  ⟨("is_losses", none), "is_losses", "is_losses", defArgs s_is_losses, defBody s_is_losses, defScope s_is_losses, [], []⟩,
  ⟨("need_losses", none), "need_losses", "need_losses", defArgs s_need_losses, defBody s_need_losses, defScope s_need_losses, [], []⟩,
  ⟨("is_sum", none), "is_sum", "is_sum", defArgs s_is_sum, defBody s_is_sum, defScope s_is_sum, [], []⟩,
  ⟨("sum_text", none), "sum_text", "sum_text", defArgs s_sum_text, defBody s_sum_text, defScope s_sum_text, [], []⟩,
  ⟨("Phase", some "__str__"), "__str__", "Phase.__str__", defArgs s_Phaseu__stru_, defBody s_Phaseu__stru_, defScope s_Phaseu__stru_, [], []⟩,
  ⟨("Plan", some "__str__"), "__str__", "Plan.__str__", defArgs s_Planu__stru_, defBody s_Planu__stru_, defScope s_Planu__stru_, [], []⟩,
  ⟨("ordered", none), "ordered", "ordered", defArgs s_ordered, defBody s_ordered, defScope s_ordered, [], []⟩,
  ⟨("Phase", some "__init__"), "__init__", "Phase.__init__", defArgs s_Phaseu__initu_, defBody s_Phaseu__initu_, defScope s_Phaseu__initu_, [], [("mute", (.bl false))]⟩,
  ⟨("Phase", some "__eq__"), "__eq__", "Phase.__eq__", defArgs s_Phaseu__equ_, defBody s_Phaseu__equ_, defScope s_Phaseu__equ_, [], []⟩,
  ⟨("Plan", some "__init__"), "__init__", "Plan.__init__", defArgs s_Planu__initu_, defBody s_Planu__initu_, defScope s_Planu__initu_, [], []⟩,
  ⟨("Plan", some "__len__"), "__len__", "Plan.__len__", defArgs s_Planu__lenu_, defBody s_Planu__lenu_, defScope s_Planu__lenu_, [], []⟩,
  ⟨("Plan", some "__iter__"), "__iter__", "Plan.__iter__", defArgs s_Planu__iteru_, defBody s_Planu__iteru_, defScope s_Planu__iteru_, [], []⟩,
  ⟨("Plan", some "__getitem__"), "__getitem__", "Plan.__getitem__", defArgs s_Planu__getitemu_, defBody s_Planu__getitemu_, defScope s_Planu__getitemu_, [], []⟩,
  ⟨("Plan", some "__eq__"), "__eq__", "Plan.__eq__", defArgs s_Planu__equ_, defBody s_Planu__equ_, defScope s_Planu__equ_, [], []⟩,
  ⟨("need_plan", none), "need_plan", "need_plan", defArgs s_need_plan, defBody s_need_plan, defScope s_need_plan, [], []⟩,
  ⟨("settled", none), "settled", "settled", defArgs s_settled, defBody s_settled, defScope s_settled, [], []⟩,
  ⟨("known_spots", none), "known_spots", "known_spots", defArgs s_known_spots, defBody s_known_spots, defScope s_known_spots, [], []⟩,
  ⟨("known_at", none), "known_at", "known_at", defArgs s_known_at, defBody s_known_at, defScope s_known_at, [], []⟩,
  ⟨("_law_pick", none), "_law_pick", "_law_pick", defArgs s__law_pick, defBody s__law_pick, defScope s__law_pick, [], []⟩,
  ⟨("_law_sums", none), "_law_sums", "_law_sums", defArgs s__law_sums, defBody s__law_sums, defScope s__law_sums, [], []⟩,
  ⟨("_law_plain", none), "_law_plain", "_law_plain", defArgs s__law_plain, defBody s__law_plain, defScope s__law_plain, [], []⟩,
  ⟨("_law_phase", none), "_law_phase", "_law_phase", defArgs s__law_phase, defBody s__law_phase, defScope s__law_phase, [], []⟩,
  ⟨("_law_plan", none), "_law_plan", "_law_plan", defArgs s__law_plan, defBody s__law_plan, defScope s__law_plan, [], []⟩,
  ⟨("_law_even", none), "_law_even", "_law_even", defArgs s__law_even, defBody s__law_even, defScope s__law_even, [], []⟩,
  ⟨("_law_known", none), "_law_known", "_law_known", defArgs s__law_known, defBody s__law_known, defScope s__law_known, [], []⟩,
  ⟨("_law_draw", none), "_law_draw", "_law_draw", defArgs s_draw, defBody s_draw, defScope s_draw, [], []⟩,
  ⟨("law", none), "law", "law", defArgs s_law, defBody s_law, defScope s_law, [], []⟩,
  ⟨("_law_pen", none), "_law_pen", "_law_pen", defArgs s__law_pen, defBody s__law_pen, defScope s__law_pen, [], []⟩]
def fnL : List He.DefD := fnL0
def xsL0 : List XDef := [xd_BadLossesu__initu_,
  xd_BadPlanu__initu_,
  xd_NoPhaseu__initu_]
def xsL : List XDef := xsL0
def fzL0 : List DefZ := [⟨"classmethod", "Plan", "plain", "Plan.plain", defArgs s_Plan_plain, defBody s_Plan_plain, defScope s_Plan_plain, []⟩,
  ⟨"classmethod", "Plan", "copies", "Plan.copies", defArgs s_Plan_copies, defBody s_Plan_copies, defScope s_Plan_copies, []⟩,
  ⟨"classmethod", "Plan", "groups", "Plan.groups", defArgs s_Plan_groups, defBody s_Plan_groups, defScope s_Plan_groups, []⟩]
def fzL : List DefZ := fzL0
def asL0 : List Addr := [3,
  6,
  4,
  21,
  28,
  38,
  60,
  81,
  102,
  123,
  130,
  137,
  142,
  147,
  152,
  182,
  270,
  279,
  286,
  293,
  300,
  305,
  310,
  317,
  324,
  331,
  338,
  345,
  350,
  357]
def asL1 : List Addr := [362,
  369,
  374,
  379,
  0,
  20,
  27,
  37,
  59,
  80,
  101,
  122,
  129,
  136,
  141,
  146,
  151,
  181,
  269,
  278,
  285,
  292,
  299,
  304,
  309,
  316,
  323,
  330,
  337,
  344]
def asL2 : List Addr := [349,
  356,
  361,
  368,
  373,
  378,
  15,
  16,
  17,
  18,
  19,
  22,
  23,
  24,
  25,
  26,
  36,
  39,
  57,
  58,
  78,
  79,
  99,
  100,
  120,
  121,
  126,
  127,
  128,
  131]
def asL3 : List Addr := [132,
  133,
  134,
  135,
  138,
  139,
  140,
  143,
  144,
  145,
  148,
  149,
  150,
  167,
  174,
  179,
  180,
  183,
  184,
  198,
  207,
  217,
  225,
  233,
  241,
  248,
  255,
  262,
  267,
  268]
def asL4 : List Addr := [271,
  272,
  275,
  276,
  277,
  280,
  281,
  282,
  283,
  284,
  287,
  288,
  289,
  290,
  291,
  294,
  295,
  296,
  297,
  298,
  301,
  302,
  303,
  306,
  307,
  308,
  311,
  312,
  313,
  314]
def asL5 : List Addr := [315,
  318,
  319,
  320,
  321,
  322,
  325,
  326,
  327,
  328,
  329,
  332,
  333,
  334,
  335,
  336,
  339,
  340,
  341,
  342,
  343,
  346,
  347,
  348,
  351,
  352,
  353,
  354,
  355,
  358]
def asL6 : List Addr := [359,
  360,
  363,
  364,
  365,
  366,
  367,
  370,
  371,
  372,
  375,
  376,
  377,
  56,
  45,
  77,
  66,
  98,
  87,
  119,
  108,
  166,
  160,
  173,
  178,
  197,
  205,
  206,
  215,
  216]
def asL7 : List Addr := [223,
  224,
  231,
  232,
  240,
  247,
  254,
  261,
  266,
  51,
  52,
  53,
  54,
  55,
  72,
  73,
  74,
  75,
  76,
  93,
  94,
  95,
  96,
  97,
  114,
  115,
  116,
  117,
  118,
  161]
def asL8 : List Addr := [162,
  163,
  164,
  165,
  168,
  169,
  170,
  171,
  172,
  175,
  176,
  177,
  194,
  195,
  196,
  204,
  208,
  214,
  218,
  222,
  226,
  230,
  234,
  235,
  236,
  237,
  238,
  239,
  242,
  243]
def asL9 : List Addr := [244,
  245,
  246,
  249,
  250,
  251,
  252,
  253,
  256,
  257,
  258,
  259,
  260,
  263,
  264,
  265]
def asL : List Addr := asL0 ++ (asL1 ++ (asL2 ++ (asL3 ++ (asL4 ++ (asL5 ++ (asL6 ++ (asL7 ++ (asL8 ++ (asL9)))))))))
def hdD : Hd := { n := 5, file := PG.main.file, fa := faL, fb := fbL, fn := fnL, xs := xsL, tf := tfL.map (·.1), fz := fzL, as := asL }
abbrev ctOf (K : PySem.W.Frag) (ns : List Int) (bl : Nat) (pa sa : Addr) : Ct := ⟨fun i => He.ga K (cN cnL i), pa, sa, ns, bl, tbOf K tfL, true⟩
theorem fc_of {w : World} {K : PySem.W.Frag} {mg : Str → Option Value} {h base : Heap} {ns : List Int} {bl : Nat} {pa sa : Addr} (X : K.In h) (G : h.Ns mainGlobals mg) (S : SaysZ hdD h K) (TB : ∀ p ∈ (tfL.map (·.1)).map (He.cT K), LamX.TabB base mg p.1 p.2) (hn : ∀ z ∈ ns, 2 * z.natAbs + 2 < 2 ^ bl) : Fc PG w K mg base (ctOf K ns bl pa sa) where
    b_int := He.free_ok X G (S.a 0 (f := .free "int"))
    b_isinstance := He.free_ok X G (S.a 1 (f := .free "isinstance"))
    b_bool := He.free_ok X G (S.a 2 (f := .free "bool"))
    g_is_integer := He.glo_ok X G (S.a 3 (f := .glo "is_integer"))
    k_is_integer := He.keep_ok (S.a 4 (f := .keep "is_integer"))
    b_str := He.free_ok X G (S.a 5 (f := .free "str"))
    b_all := He.free_ok X G (S.a 6 (f := .free "all"))
    g_is_losses := He.glo_ok X G (S.a 7 (f := .glo "is_losses"))
    k_is_losses := He.keep_ok (S.a 8 (f := .keep "is_losses"))
    b_len := He.free_ok X G (S.a 9 (f := .free "len"))
    c_MOST_SLOTS := con_ok X G (S.b 0 (f := .con "MOST_SLOTS" (.int 400)))
    x_BadLosses := xfn1 (d := xd_BadLossesu__initu_) (by decide +kernel) (S.x 0) (S.b 1 (f := .xcl "BadLosses" "BadLosses.__init__")) rfl xs_BadLossesu__initu_ rfl rfl (He.free_ok X G (S.a 11 (f := .free "super"))) (fun _ _ _ _ => ⟨rfl, rfl, rfl, rfl⟩) (He.noat_ok (S.a 10 (f := .noat "BadLosses" "value"))) (fun _ _ _ _ => rfl) (by decide) (by decide) (by decide) (by decide)
    g_BadLosses := He.glo_ok X G (S.a 12 (f := .glo "BadLosses"))
    b_tuple := He.free_ok X G (S.a 13 (f := .free "tuple"))
    c_MOST_AGE := con_ok X G (S.b 2 (f := .con "MOST_AGE" (.int 4)))
    g_is_within := He.glo_ok X G (S.a 14 (f := .glo "is_within"))
    k_is_within := He.keep_ok (S.a 15 (f := .keep "is_within"))
    b_zip := He.free_ok X G (S.a 16 (f := .free "zip"))
    b_sorted := He.free_ok X G (S.a 17 (f := .free "sorted"))
    b_enumerate := He.free_ok X G (S.a 18 (f := .free "enumerate"))
    g_is_sum := He.glo_ok X G (S.a 19 (f := .glo "is_sum"))
    k_is_sum := He.keep_ok (S.a 20 (f := .keep "is_sum"))
    x_BadPlan := xfn1 (d := xd_BadPlanu__initu_) (by decide +kernel) (S.x 1) (S.b 3 (f := .xcl "BadPlan" "BadPlan.__init__")) rfl xs_BadPlanu__initu_ rfl rfl (He.free_ok X G (S.a 11 (f := .free "super"))) (fun _ _ _ _ => ⟨rfl, rfl, rfl, rfl⟩) (He.noat_ok (S.a 21 (f := .noat "BadPlan" "part"))) (fun _ _ _ _ => rfl) (by decide) (by decide) (by decide) (by decide)
    g_BadPlan := He.glo_ok X G (S.a 22 (f := .glo "BadPlan"))
    c_MOST_SUMS := con_ok X G (S.b 4 (f := .con "MOST_SUMS" (.int 4)))
    g_ordered := He.glo_ok X G (S.a 23 (f := .glo "ordered"))
    k_ordered := He.keep_ok (S.a 24 (f := .keep "ordered"))
    f_sums := fld_okH (fun _ => rfl) (S.b 5 (f := .fld cnL [5] "sums"))
    f_mute := fld_okH (fun _ => rfl) (S.b 6 (f := .fld cnL [5] "mute"))
    g_Phase := He.glo_ok X G (S.a 25 (f := .glo "Phase"))
    g_sum_text := He.glo_ok X G (S.a 26 (f := .glo "sum_text"))
    k_sum_text := He.keep_ok (S.a 27 (f := .keep "sum_text"))
    c_MOST_PHASES := con_ok X G (S.b 7 (f := .con "MOST_PHASES" (.int 4)))
    b_any := He.free_ok X G (S.a 28 (f := .free "any"))
    f_phases := fld_okH (fun _ => rfl) (S.b 8 (f := .fld cnL [6] "phases"))
    mk_Phase := He.mkr_ok (S.a 29 (f := .mkr "Phase"))
    mk_Plan := He.mkr_ok (S.a 30 (f := .mkr "Plan"))
    b_range := He.free_ok X G (S.a 31 (f := .free "range"))
    x_NoPhase := xfn1 (d := xd_NoPhaseu__initu_) (by decide +kernel) (S.x 2) (S.b 9 (f := .xcl "NoPhase" "NoPhase.__init__")) rfl xs_NoPhaseu__initu_ rfl rfl (He.free_ok X G (S.a 11 (f := .free "super"))) (fun _ _ _ _ => ⟨rfl, rfl, rfl, rfl⟩) (He.noat_ok (S.a 32 (f := .noat "NoPhase" "at"))) (fun _ _ _ _ => rfl) (by decide) (by decide) (by decide) (by decide)
    g_NoPhase := He.glo_ok X G (S.a 33 (f := .glo "NoPhase"))
    g_Plan := He.glo_ok X G (S.a 34 (f := .glo "Plan"))
    c_LOST := con_ok X G (S.b 10 (f := .con "LOST" (.str "x")))
    b_sum := He.free_ok X G (S.a 35 (f := .free "sum"))
    g_settled := He.glo_ok X G (S.a 36 (f := .glo "settled"))
    k_settled := He.keep_ok (S.a 37 (f := .keep "settled"))
    g_need_plan := He.glo_ok X G (S.a 38 (f := .glo "need_plan"))
    k_need_plan := He.keep_ok (S.a 39 (f := .keep "need_plan"))
    g_need_losses := He.glo_ok X G (S.a 40 (f := .glo "need_losses"))
    k_need_losses := He.keep_ok (S.a 41 (f := .keep "need_losses"))
    g_known_spots := He.glo_ok X G (S.a 42 (f := .glo "known_spots"))
    k_known_spots := He.keep_ok (S.a 43 (f := .keep "known_spots"))
    g__law_draw := He.glo_ok X G (S.a 44 (f := .glo "_law_draw"))
    k__law_draw := He.keep_ok (S.a 45 (f := .keep "_law_draw"))
    g__law_pick := He.glo_ok X G (S.a 46 (f := .glo "_law_pick"))
    k__law_pick := He.keep_ok (S.a 47 (f := .keep "_law_pick"))
    g__law_sums := He.glo_ok X G (S.a 48 (f := .glo "_law_sums"))
    k__law_sums := He.keep_ok (S.a 49 (f := .keep "_law_sums"))
    g__law_phase := He.glo_ok X G (S.a 50 (f := .glo "_law_phase"))
    k__law_phase := He.keep_ok (S.a 51 (f := .keep "_law_phase"))
    g__law_even := He.glo_ok X G (S.a 52 (f := .glo "_law_even"))
    k__law_even := He.keep_ok (S.a 53 (f := .keep "_law_even"))
    g__law_plain := He.glo_ok X G (S.a 54 (f := .glo "_law_plain"))
    k__law_plain := He.keep_ok (S.a 55 (f := .keep "_law_plain"))
    g__law_plan := He.glo_ok X G (S.a 56 (f := .glo "_law_plan"))
    k__law_plan := He.keep_ok (S.a 57 (f := .keep "_law_plan"))
    g__law_known := He.glo_ok X G (S.a 58 (f := .glo "_law_known"))
    k__law_known := He.keep_ok (S.a 59 (f := .keep "_law_known"))
    g_known_at := He.glo_ok X G (S.a 60 (f := .glo "known_at"))
    k_known_at := He.keep_ok (S.a 61 (f := .keep "known_at"))
    sm := sm_okH (S.b 11 (f := .sm))
    b_repr := He.free_ok X G (S.a 62 (f := .free "repr"))
    cm_Plan_copies := cmet_okH (S.b 12 (f := .any (cmetB "Plan" "copies")))
    cm_Plan_groups := cmet_okH (S.b 13 (f := .any (cmetB "Plan" "groups")))
    cm_Plan_plain := cmet_okH (S.b 14 (f := .any (cmetB "Plan" "plain")))
    d_is_integer := (S.f 0)
    d_is_within := (S.f 1)
    d_is_losses := (S.f 2)
    d_need_losses := (S.f 3)
    d_is_sum := (S.f 4)
    d_sum_text := (S.f 5)
    d_Phaseu__stru_ := (S.f 6)
    d_Planu__stru_ := (S.f 7)
    cl_Plan := He.cls_ok (S.a 63 (f := .cls "Plan"))
    me_Plan_str := He.meth_ok (S.a 64 (f := .meth "Plan" "__str__"))
    cl_Phase := He.cls_ok (S.a 65 (f := .cls "Phase"))
    me_Phase_str := He.meth_ok (S.a 66 (f := .meth "Phase" "__str__"))
    d_ordered := (S.f 8)
    d_Phaseu__initu_ := (S.f 9)
    d_Phaseu__equ_ := (S.f 10)
    d_Planu__initu_ := (S.f 11)
    d_Plan_plain := (S.z 0)
    d_Plan_copies := (S.z 1)
    d_Plan_groups := (S.z 2)
    d_Planu__lenu_ := (S.f 12)
    me_Plan_len := He.meth_ok (S.a 67 (f := .meth "Plan" "__len__"))
    d_Planu__iteru_ := (S.f 13)
    d_Planu__getitemu_ := (S.f 14)
    me_Plan_getitem := He.meth_ok (S.a 68 (f := .meth "Plan" "__getitem__"))
    fi_Plan_getitem := ((S.b 15 (f := .fnin ("Plan", some "__getitem__"))) : _)
    d_Planu__equ_ := (S.f 15)
    me_Plan_eq := He.meth_ok (S.a 69 (f := .meth "Plan" "__eq__"))
    me_Phase_eq := He.meth_ok (S.a 70 (f := .meth "Phase" "__eq__"))
    ne_Plan := nec_okH (S.b 16 (f := .nec "Plan"))
    ne_Phase := nec_okH (S.b 17 (f := .nec "Phase"))
    d_need_plan := (S.f 16)
    d_settled := (S.f 17)
    d_known_spots := (S.f 18)
    d_known_at := (S.f 19)
    d__law_pick := (S.f 20)
    d__law_sums := (S.f 21)
    d__law_plain := (S.f 22)
    d__law_phase := (S.f 23)
    d__law_plan := (S.f 24)
    d__law_even := (S.f 25)
    d__law_known := (S.f 26)
    isF := isfB_ok (fun _ => rfl) (S.b 18 (f := .isf cnL ownL excL 7 upL utL tyL))
    b_abs := He.free_ok X G (S.a 71 (f := .free "abs"))
    d_draw := (S.f 27)
    hp := rfl
    hns := hn
theorem law_at {w : World} {K : PySem.W.Frag} {mg : Str → Option Value} {h : Heap} {fa : Addr} (X : K.In h) (G : h.Ns mainGlobals mg) (S : SaysZ hdD h K) (hfa : mg ("law" : Str) = some (.ref fa)) (hall : (m_law [.no, .val .pen, .no, .no, .no, .no, .no, .no, .no, .no, .no, .no, .no]).All 0 (fun _ fl => ∃ b, fl = .rt (.bl b) ∧ b = true) (fun _ _ => False)) :
    LawAtD PySem.Challenge.rw_layerpost_k19_rows_known_slot_by_slot w K (CX PG w) 10 63 "_law_script" mg fa h := by
  obtain ⟨fd, F⟩ := (S.f 28)
  obtain ⟨fdp, FP⟩ := (S.f 29)
  have e := hfa.symm.trans (He.glo_ok X G (S.a 72 (f := .glo "law")))
  cases e
  refine ⟨fd, (tfL.map (·.1)).map (He.cT K), fun p hp => ?_, fun p hp => ?_, fun p hp => ?_, fun s v => FunD.bindsA (ps := ["_law_script"]) F (fun _ _ _ _ _ _ us hl => match us, hl with | [_], _ => rfl) s [v] rfl, fun ns hl hbits => ⟨spLaw K ns ((tfL.map (·.1)).map (He.cT K)), fun H a hT hA hS => ⟨a, rfl, hT, hA, hS, fun _ => rfl⟩, fun base hK hN TB => ?_⟩⟩
  · obtain ⟨d, hd, rfl⟩ := List.mem_map.mp hp; exact S.empty d hd
  · obtain ⟨d, hd, rfl⟩ := List.mem_map.mp hp; exact S.out d hd
  · obtain ⟨d, hd, rfl⟩ := List.mem_map.mp hp; exact PySem.W.codeHd_of_K X (S.hd d hd)
  obtain ⟨bl, hn⟩ := bits_ex hbits
  have GP : L2.FnOk PG w K mg base CX0 1 (He.fAd K ("_law_pen", none)) fdp ["_law_script"] (spPen K) := fn_pen FP sc__law_pen rfl fun cdv A outer s H E => pss_one (ps_ret (pe_lst (pa_cons (pe_callTy call_list_of rfl (He.free_ok X G (S.a 75 (f := .free "list"))) PyProof.Rows.Boot.«list» (pa_cons (pe_slice sl_list (pv 0) po_none (po_some pe_int)) pa_nil)) (pa_cons pe_int (pa_cons pe_int pa_nil)))))
  have bP : Binds K fdp ["_law_script"] [] := FP.bindsN fun _ _ _ _ _ _ us hl => match us, hl with | [_], _ => rfl
  exact fn_law F sc_law (by decide) hl (by simp [tbOf]) (fun cdv A outer s H E hcd hr => ps_set (i := 1) sc_law.nd rfl (by first | exact Or.inl rfl | exact Or.inr rfl) (pe_call GP (hr.toRoom.mono (by decide)) rfl (He.glo_ok X G (S.a 73 (f := .glo "_law_pen"))) (He.keep_ok (S.a 74 (f := .keep "_law_pen"))) bP .nil pass0 (pa_cons (pv 0) pa_nil))) (fun pa sa cdv A outer s H0 E hcd hr => body_law (fc_of X G S TB hn) cdv A outer s H0 E hcd hr) hall
abbrev RR : PySem.W.OpenRow := PySem.W.OpenLaw.row PySem.Challenge.rw_layerpost_k19_rows_known_slot_by_slot
def ob (s : PySem.W.SharedT) : AlZ := obsZ hdD (HandSHeadRun.getT s)
theorem ob_eq (s : PySem.W.SharedT) : ob s = (hookZ hdD).obs s.abs := obsZ_eq (HandSHeadRun.getT_eq s)
def names0 : List PySem.Str := ["is_integer", "is_within", "PostError", "BadPlan", "BadLosses", "BadText", "NoPhase", "MOST_SLOTS", "LOST", "is_losses", "need_losses", "MOST_AGE", "MOST_SUMS", "MOST_PHASES", "is_sum", "sum_text", "ordered", "Phase", "Plan", "sum_in", "phase_in", "phases_in", "need_plan", "settled", "known_spots", "known_at", "_law_pen", "_law_draw", "_law_pick", "_law_sums"]
def names1 : List PySem.Str := ["_law_plain", "_law_phase", "_law_plan", "_law_even", "_law_known"]
def names : List PySem.Str := names0 ++ names1
theorem run (w : World) : HandSHeadRun.RunEq RR (PySem.W.view RR.prog [41]) (hookZ hdD) ob 20000 names w := by
  intro os
  kernel_rfl
end K19
set_option maxHeartbeats 0
namespace K19
open PySem PySem.Spec L2 DL GM GV
local macro_rules | `(tactic| simp_arith [$ls,*]) => `(tactic| simp (disch := first | assumption | omega | exact Med.small (by omega) (by omega) | exact Big.small (by omega) (by omega) | exact Med.big (by assumption) | (simp only [List.length_cons, List.length_nil, List.length_map, Nat.zero_add, Nat.reduceAdd] <;> omega)) only [T.bind_assoc, ok_bind, exc_bind, okV_eq, asD_val, varT_val, varT_own, varT_obj, mVar_ap, mC_ap, mBin_ap, mUn_ap, mCall_ap, mMake_ap, mMeth_ap, mCallI_ap, mB_ap, asB_bl, mTru_ap, asTru_bl, tAndM_ap, tOrM_ap, tNotM_ap, mAndV_ap, mOrV_ap, mNotV_ap, mIf_ap, mChain_ap, mChainT_ap, aNil_ap, aCons_ap, aStar_ap, seqOf_lst, seqOf_tup, seqOf_brw, aApp_ap, aKw_ap, mLst_ap, mTup_ap, mSeq_ap, seqK_nx, seqK_rt, seqK_bk, seqK_ct, mNx_ap, mRet_ap, mRetN_ap, mDrop_ap, mIfS_ap, mSet_ap, mSetOwn_ap, fLst_ap, fList_ap, mApp_ap, appT_own, mAug_ap, augT_int, augK_int, mAsg_ap, asgT_some, gmName_ap, mPar2_ap, par2_ok, mCl_ap, mFor_ap, mWhile_ap, mLc_ap, fLc_ap, calm_ok, mSl_ap, pNo_ap, pInt_ap, pIntK_int, iAny_ap, asIt_lst, asIt_tup, gAdd_int, gSub_int, gLt_int, gLe_int, gGt_int, gGe_int, gNeg_int, gInt_int, gLen_lst, gLen_tup, gLen_brw, gList_lst, gList_tup, gTuple_lst, gTuple_tup, gSl_lst, gSl_tup, gEqD_int, gEqD_lst, gEqD_tup, gNeD_int, gSumA_lst, gSumA_tup, gMaxL_lst, gMinL_lst,
  gMod_int, gDivW_Med, gMulA_Big, gPow_int, mIsi_ap, mIsiT_ap, frzS_ap, frzK_own, frzK_val, frzK_no, mLend_ap, lendK_own, lendK_val, lendT_ok, mParM2_ap, parM2_ok, sv_val, sv_own, aMNil_ap, aMVal_ap, aMOwn_ap, mPar3_ap, par3_ok, gmNil_ap, gmCons_ap, gmTup_ap, mFld2_ap, cleanG_nil, cleanG_cons, wipeG_nil, wipeG_cons, endK_nx, endK_rt, endI_nx, runB_ap, initB_ap, posM_ap, posI_ap, kwM_ap, kwI_ap, drawM_ap, aStar1_ap, iZip2_ap, zip2K_lst, zip2K_tup, iRng1_bd, rng1K_int, iRng2_bd, rng2K_int, iRngL_bd, rngLK_int, mLzip_ap, zipLK_lst, gLen_sq, gList_sq, gTuple_sq, gSl_sq, asIt_sq, seqOf_sq, forK_nx, forK_ct, forK_rt, forK_bk, gBinO_ii, gBinO_ib, gBinO_lst, gBinO_tup, gBinO_str, gBinO_li, gBinO_ti, gBinO_si, gBinO_il, gBinO_is, gBinO_bi, gBinO_bb, rgK_int, rgK2_int, mProp_ap, mJoin_ap, mSplit_ap, asStr_str, iEnum_ap, enumK_lst, enumK_tup, enumK_sq, mAugO_ap, augOK_int, gLenO_lst, gLenO_tup, gLenO_brw, gInC_lst, gInC_tup, gInC_str, inE_bl, gDvm_int, mParM3_ap, parM3_ok, mMakeV_ap, makeV_ok, iZipTL_ap, zipMK_ok,
  Option.bind_some, List.getElem?_cons_zero, List.getElem?_cons_succ, List.set_cons_zero, List.set_cons_succ, List.map_cons, List.map_nil, List.cons_append, List.nil_append, List.append_nil, List.length_cons, List.length_nil, List.length_replicate, List.replicate_zero, List.replicate_succ, List.take_succ_cons, List.take_zero, List.drop_succ_cons, List.drop_zero, decide_eq_true_eq, if_true, if_false, Bool.not_true, Bool.not_false, Bool.false_eq_true, reduceCtorEq, List.length_map, Nat.sub_self, Nat.reduceSub, Nat.reduceAdd, Nat.reduceEqDiff, Nat.zero_add, Nat.reduceLeDiff, decide_true, decide_false, decide_eq_true, decide_eq_false, if_pos, if_neg, $ls,*])
/-! bits; the law's parity; the package's settled -/
theorem and_n {a b : Nat} : gAnd (.val (.int a)) (.val (.int b)) = .ok (.val (.int ((a &&& b : Nat) : Int))) := by
  unfold gAnd
  simp only [RV.d]
  rw [PyProof.Rows.bitAnd_pp (by omega) (by omega), Int.toNat_natCast, Int.toNat_natCast, okV_eq]
theorem xor_n {a b : Nat} : gXor (.val (.int a)) (.val (.int b)) = .ok (.val (.int ((a ^^^ b : Nat) : Int))) := by
  unfold gXor
  simp only [RV.d]
  rw [Bits.bitXor_pp (by omega) (by omega), Int.toNat_natCast, Int.toNat_natCast, okV_eq]
theorem or_n {a b : Nat} : gOr (.val (.int a)) (.val (.int b)) = .ok (.val (.int ((a ||| b : Nat) : Int))) := by
  unfold gOr
  simp only [RV.d]
  rw [Bits.bitOr_pp (by omega) (by omega), Int.toNat_natCast, Int.toNat_natCast, okV_eq]
theorem shr_n {a k : Nat} : gShr (.val (.int a)) (.val (.int k)) = .ok (.val (.int ((a / 2 ^ k : Nat) : Int))) := by
  unfold gShr
  simp only [RV.d]
  rw [if_pos (by omega), Int.toNat_natCast, okV_eq, Int.natCast_ediv, Int.natCast_pow]
  rfl
theorem shl_one {k : Nat} (hk : k ≤ 1000) : gShl (.val (.int 1)) (.val (.int k)) = .ok (.val (.int ((2 ^ k : Nat) : Int))) := by
  unfold gShl
  simp only [RV.d]
  rw [if_pos ⟨by omega, by omega, by decide⟩, Int.toNat_natCast, okV_eq, Int.one_mul, Int.natCast_pow]
  rfl
theorem tru_n {n : Nat} : asTru (.val (.int (n : Int))) = .ok (n != 0) := by
  unfold asTru
  simp only [RV.d, D.tru]
  congr 1
  by_cases h : n = 0
  · rw [h]; rfl
  · have : ((n : Int) != 0) = true := by simp; exact h
    rw [this]
    simp [h]
theorem and_pow_ne {v k : Nat} : (v &&& 2 ^ k != 0) = v.testBit k := by
  rw [and_pow2]
  cases q : v.testBit k with
  | true =>
    have : 2 ^ k ≠ 0 := by have := Nat.pow_pos (n := k) (show 0 < 2 by omega); omega
    simp [this]
  | false => simp
theorem fmtB_n {n : Nat} (h : n.log2 < 1920) : gFmtB (.val (.int n)) = .ok (.val (.str (binT n))) := by
  unfold gFmtB
  simp only [RV.d]
  rw [if_pos ⟨by omega, by rw [Int.natAbs_natCast]; exact h⟩, Int.natAbs_natCast, okV_eq]
theorem binT_log {n : Nat} (h : n ≠ 0) : (binT n).length = n.log2 + 1 := by
  rw [binT_len]
  have h1 := (Nat.length_toDigits_le_iff (b := 2) (n := n) (k := n.log2 + 1) (by omega) (by omega)).mpr lt_pow_log
  by_cases z : n.log2 = 0
  · have := @Nat.length_toDigits_pos 2 n
    omega
  · have h2 : ¬ (Nat.toDigits 2 n).length ≤ n.log2 := fun h3 => by
      have := (Nat.length_toDigits_le_iff (b := 2) (n := n) (k := n.log2) (by omega) (by omega)).mp h3
      have := lt_log h this
      omega
    omega
theorem len_s {s : Str} (h : s.length ≤ 1000000) : gLen (.val (.str s)) = .ok (.val (.int (s.length : Nat))) := by
  unfold gLen
  simp only [RV.d]
  rw [if_pos h, okV_eq]
/-! the law's parity -/
theorem eq_one {n : Nat} : gEqO isT eqT (.val (.int ((n &&& 1 : Nat) : Int))) (.val (.int 1)) = .ok (.val (.bl (n.testBit 0))) := by
  rw [gEqO_int, gEqD_int]
  congr 3
  rw [Nat.testBit_zero, Nat.and_one_is_mod, decide_eq_decide]
  omega
theorem one_n : (1 : Int) = ((1 : Nat) : Int) := rfl
theorem neO_bb {a b : Bool} : gNeO isT eqT (.val (.bl a)) (.val (.bl b)) = .ok (.val (.bl (a != b))) := by cases a <;> cases b <;> rfl
theorem even_loop {v m : SV} : ∀ {k n x : Nat} {f : Bool}, x < 2 ^ k → k < n → whileD t__law_even_1 b__law_even_1 n [v, m, .val (.bl f), .val (.int (x : Int))] = .ok (.nx [v, m, .val (.bl (f != par x)), .val (.int 0)])
  | 0, n + 1, x, f, hx, hn => by
    have hx : x = 0 := by simpa using hx
    subst hx
    rw [whileD_end (by unfold t__law_even_1; simp_arith []), par_zero]
    cases f <;> rfl
  | k + 1, n + 1, x, f, hx, hn => by
    by_cases z : x = 0
    · subst z
      rw [whileD_end (by unfold t__law_even_1; simp_arith []), par_zero]
      cases f <;> rfl
    · have hx' : x / 2 < 2 ^ k := by rw [Nat.pow_succ] at hx; omega
      have ih := even_loop (v := v) (m := m) (k := k) (n := n) (x := x / 2) (f := f != x.testBit 0) hx' (by omega)
      have a1 := and_n (a := x) (b := 1)
      have e1 := eq_one (n := x)
      have s1 := shr_n (a := x) (k := 1)
      have g1 : decide ((x : Int) > 0) = true := decide_eq_true (by omega)
      rw [whileD_nx (γ' := [v, m, .val (.bl (f != x.testBit 0)), .val (.int ((x / 2 : Nat) : Int))]), ih, par_eq x]
      · cases f <;> cases x.testBit 0 <;> cases par (x / 2) <;> rfl
      · unfold t__law_even_1
        simp_arith []
      · unfold b__law_even_1
        rw [one_n] at *
        simp_arith [a1, e1, s1, neO_bb]
theorem even_r {v m k : Nat} (h : v < 2 ^ k) (hk : k < 1000000) : ma__law_even_2 [.int (v : Int), .int (m : Int)] = .ok (.bl (!par (v &&& m))) := by
  have a1 := and_n (a := v) (b := m)
  have l := even_loop (v := .no) (m := .no) (k := k) (n := 1000000) (x := v &&& m) (f := true) (Nat.lt_of_le_of_lt Nat.and_le_left h) hk
  unfold ma__law_even_2 r__law_even m__law_even st__law_even_1 st__law_even_2 st__law_even_3
  simp_arith [a1, l]
  cases par (v &&& m) <;> rfl
/-! settled -/
def rowD (b : Nat) : D := .tup [.int ((2 ^ b.log2 : Nat) : Int), .int (b : Int)]
def rowsD (bs : List Nat) : D := .lst (bs.map rowD)
theorem strip_turn {x : SV} {b v : Nat} {t l o : SV} : b_settled_1 [x, .val (.int (v : Int)), .val (rowD b), t, l, o] = .ok (.nx [x, .val (.int ((if v.testBit b.log2 then v ^^^ b else v : Nat) : Int)), .val (rowD b), t, l, o]) := by
  have i0 : gIx (.val (rowD b)) (.val (.int 0)) = .ok (.val (.int ((2 ^ b.log2 : Nat) : Int))) := ix0_tup
  have i1 : gIx (.val (rowD b)) (.val (.int 1)) = .ok (.val (.int (b : Int))) := ix1_tup
  have a1 := and_n (a := v) (b := 2 ^ b.log2)
  have t1 := tru_n (n := v &&& 2 ^ b.log2)
  rw [and_pow_ne] at t1
  have x1 := xor_n (a := v) (b := b)
  unfold b_settled_1
  cases q : v.testBit b.log2 with
  | true =>
    rw [q] at t1
    simp_arith [i0, i1, a1, t1, x1]
  | false =>
    rw [q] at t1
    simp_arith [i0, i1, a1, t1, x1]
theorem strip_loop {x t l o : SV} : ∀ {bs : List Nat} {v : Nat} {y : SV}, ∃ z, forD (gmName 2) b_settled_1 (bs.map rowD) [x, .val (.int (v : Int)), y, t, l, o] = .ok (.nx [x, .val (.int ((strip v bs : Nat) : Int)), z, t, l, o])
  | [], v, y => ⟨y, rfl⟩
  | b :: bs, v, y => by
    have e := strip_turn (x := x) (b := b) (v := v) (t := t) (l := l) (o := o)
    obtain ⟨z, ih⟩ := strip_loop (x := x) (t := t) (l := l) (o := o) (bs := bs) (v := if v.testBit b.log2 then v ^^^ b else v) (y := .val (rowD b))
    refine ⟨z, ?_⟩
    rw [List.map_cons, forD_name]
    show (b_settled_1 [x, .val (.int (v : Int)), .val (rowD b), t, l, o]).bind _ = _
    rw [e, ok_bind, forK_nx, ih]
    rfl
theorem eq_zero {n : Nat} : gEqD (.val (.int (n : Int))) (.val (.int 0)) = .ok (.val (.bl (decide (n = 0)))) := by
  rw [gEqD_int]
  congr 3
  rw [decide_eq_decide]
  omega
theorem put_eq {bs : List Nat} {m : Nat} : put bs m = if strip m bs = 0 then bs else bs.map (fun b => if b.testBit (strip m bs).log2 then b ^^^ strip m bs else b) ++ [strip m bs] := rfl
def liftD (u : Nat) : D → D
  | .tup [.int a, .int b] => .tup [.int a, .int ((if b.toNat.testBit u.log2 then b.toNat ^^^ u else b.toNat : Nat) : Int)]
  | d => d
theorem settled_r {bs : List Nat} {m : Nat} (hr : Red bs) (hb : ∀ b ∈ bs, b < 2 ^ 1000) (hm : m < 2 ^ 1000) (hl : bs.length ≤ 100000) : ma_settled_2 [rowsD bs, .int (m : Int)] = .ok (rowsD (put bs m)) := by
  obtain ⟨z, sl⟩ := strip_loop (x := .val (rowsD bs)) (t := .no) (l := .no) (o := .no) (bs := bs) (v := m) (y := .no)
  have ez := eq_zero (n := strip m bs)
  have lu : strip m bs < 2 ^ 1000 := strip_lt hm hb
  have rl : ∀ b ∈ bs, b.testBit (GV.strip m bs).log2 = true → GV.strip m bs ≠ 0 → (b ^^^ GV.strip m bs).log2 = b.log2 := fun b hb => red_log hr hb
  unfold ma_settled_2 r_settled m_settled
  unfold rowsD at *
  rw [put_eq]
  generalize strip m bs = u at *
  by_cases c : u = 0
  · rw [if_pos c]
    rw [decide_eq_true c] at ez
    simp_arith [sl, ez]
  · rw [if_neg c]
    rw [decide_eq_false c] at ez
    have l1 : u.log2 < 1000 := lt_log c lu
    have f1 := fmtB_n (n := u) (by omega)
    have b1 := binT_log c
    have g1 := len_s (s := binT u) (by omega)
    rw [b1] at g1
    have s1 : ((u.log2 + 1 : Nat) : Int) - 1 = (u.log2 : Nat) := by omega
    have sh := shl_one (k := u.log2) (by omega)
    have lc : ∀ x2, lcD (gmTup 2 (gmCons (gmName 4) (gmCons (gmName 5) gmNil))) tYesM (mTup (aCons (mVar 4) (aCons (mIf (mTru (mBin gAnd (mVar 5) (mVar 3))) (mBin gXor (mVar 5) (mVar 1)) (mVar 5)) aNil)))
        [.val (.lst (bs.map rowD)), .val (.int (u : Int)), x2, .val (.int ((2 ^ u.log2 : Nat) : Int)), .no, .no] (bs.map rowD) [] = .ok ((bs.map fun b => if b.testBit u.log2 then b ^^^ u else b).map rowD) := fun x2 => by
      rw [lc_map (f := liftD u) (fun d hd => ?_) (by simp; omega)]
      · congr 1
        rw [List.map_map, List.map_map]
        refine List.map_congr_left fun b hb => ?_
        show liftD u (rowD b) = rowD _
        unfold liftD rowD
        simp only [Int.toNat_natCast]
        cases q : b.testBit u.log2 with
        | true =>
          simp only [if_true]
          rw [rl b hb q c]
        | false => simp
      · obtain ⟨b, hb, rfl⟩ := List.mem_map.mp hd
        have a1 := and_n (a := b) (b := 2 ^ u.log2)
        have t1 := tru_n (n := b &&& 2 ^ u.log2)
        rw [and_pow_ne] at t1
        have x1 := xor_n (a := b) (b := u)
        refine ⟨_, rfl, ?_⟩
        show _ = DL.T.ok (RV.val (.tup [.int ((2 ^ b.log2 : Nat) : Int), .int ((if (b : Int).toNat.testBit u.log2 then (b : Int).toNat ^^^ u else (b : Int).toNat : Nat) : Int)]))
        rw [Int.toNat_natCast]
        cases q : b.testBit u.log2 with
        | true =>
          rw [q] at t1
          simp_arith [a1, t1, x1]
        | false =>
          rw [q] at t1
          simp_arith [a1, t1, x1]
    rw [List.map_append]
    have ll : (List.map rowD (List.map (fun b => if b.testBit u.log2 then b ^^^ u else b) bs)).length + 1 ≤ 1000000 := by simp; omega
    simp_arith [sl, ez, f1, g1, s1, sh, lc]
    rw [if_pos (by simpa using ll)]
    rfl
/-! the sums heard -/
def mask (k : Nat) (ages : List Nat) : Nat := ((ages.filter fun a => decide (a ≤ k)).map fun a => 2 ^ (k - a)).sum
def agesD (ages : List Nat) : D := .tup (ages.map fun a : Nat => .int (a : Int))
theorem sum_cast (l : List Nat) : (l.map fun n : Nat => (n : Int)).sum = ((l.sum : Nat) : Int) := by
  induction l with
  | nil => rfl
  | cons a l ih => rw [List.map_cons, List.sum_cons, List.sum_cons, ih]; omega
def mlist (k : Nat) (ages : List Nat) : List Int := ((ages.filter fun a => decide (a ≤ k)).map fun a => 2 ^ (k - a)).map fun n : Nat => (n : Int)
theorem mlist_sum {k : Nat} {ages : List Nat} : (mlist k ages).sum = ((mask k ages : Nat) : Int) := sum_cast _
theorem masks_lc {γ : Gm} {i j k : Nat} {ages : List Nat} (hk : k ≤ 1000) (hl : ages.length ≤ 1000) (hi : i < γ.length) (hj : ∀ d, (γ.set i (SV.val d))[j]? = some (.val (.int (k : Int)))) :
    lcD (gmName i) (mB (mBin gLe (mVar i) (mVar j))) (mBin gShl (mC (.int 1)) (mBin gSub (mVar j) (mVar i))) γ (ages.map fun a : Nat => D.int (a : Int)) [] = .ok (List.map DL.D.int (mlist k ages)) := by
  rw [lc_all (p := fun d => match d with | .int a => decide (a ≤ (k : Int)) | _ => false) (f := fun d => match d with | .int a => .int ((2 ^ (k - a.toNat) : Nat) : Int) | d => d) (fun d hd => ?_) (by simp; omega)]
  · have e : (List.filter (fun d : D => match d with | .int a => decide (a ≤ (k : Int)) | _ => false) (ages.map fun a : Nat => D.int (a : Int))).map (fun d => match d with | .int a => D.int ((2 ^ (k - a.toNat) : Nat) : Int) | d => d) = (List.map DL.D.int (mlist k ages)) := by
      unfold mlist
      rw [List.filter_map, List.map_map, List.map_map, List.map_map]
      have f : ((fun d : D => match d with | .int a => decide (a ≤ (k : Int)) | _ => false) ∘ fun a : Nat => D.int (a : Int)) = fun a : Nat => decide (a ≤ k) := by
        funext a
        show decide ((a : Int) ≤ (k : Int)) = decide (a ≤ k)
        rw [decide_eq_decide]
        omega
      rw [f]
      refine List.map_congr_left fun a _ => ?_
      show D.int ((2 ^ (k - (a : Int).toNat) : Nat) : Int) = D.int ((2 ^ (k - a) : Nat) : Int)
      rw [Int.toNat_natCast]
    rw [List.nil_append, e]
  · obtain ⟨a, ha, rfl⟩ := List.mem_map.mp hd
    have hi' : (γ.set i (SV.val (.int (a : Int))))[i]? = some (.val (.int (a : Int))) := by rw [List.getElem?_set_self hi]
    have hj' := hj (.int (a : Int))
    refine ⟨_, rfl, ?_, fun q => ?_⟩
    · simp_arith [hi', hj']
    · have q : decide ((a : Int) ≤ (k : Int)) = true := q
      have q := of_decide_eq_true q
      have e : (k : Int) - (a : Int) = ((k - a : Nat) : Int) := by omega
      have s := shl_one (k := k - a) (by omega)
      simp_arith [hi', hj', e, s]
      rw [Int.toNat_natCast]
/-! known_spots -/
theorem for_detC {gm : D → Gm → Option Gm} {mb : Gm → DL.T Fl} (I : Nat → Gm → Prop) : ∀ {ds : List D} {γ : Gm} (i : Nat), I i γ →
    (∀ k d γ, ds[k]? = some d → I (i + k) γ → ∃ γ1 γ2, gm d γ = some γ1 ∧ (mb γ1 = .ok (.nx γ2) ∨ mb γ1 = .ok (.ct γ2)) ∧ I (i + k + 1) γ2) → ∃ γ2, forD gm mb ds γ = .ok (.nx γ2) ∧ I (i + ds.length) γ2
  | [], γ, i, h, _ => ⟨γ, rfl, h⟩
  | d :: ds, γ, i, h, st => by
    obtain ⟨γ1, γ2, e1, e2, e3⟩ := st 0 d γ rfl h
    obtain ⟨γ3, e4, e5⟩ := for_detC I (ds := ds) (γ := γ2) (i + 1) e3 fun k d γ hk hI => by
      have e : i + 1 + k = i + (k + 1) := by omega
      rw [e] at hI ⊢
      exact st (k + 1) d γ (by simpa using hk) hI
    refine ⟨γ3, ?_, ?_⟩
    · rw [forD_cons e1]
      rcases e2 with e2 | e2
      · rw [e2, ok_bind, forK_nx]
        exact e4
      · rw [e2, ok_bind, forK_ct]
        exact e4
    · have e : i + (d :: ds).length = i + 1 + ds.length := by rw [List.length_cons]; omega
      rw [e]; exact e5
abbrev Ph := Bool × List (List Nat)
def phD (p : Ph) : D := .ins 5 [("sums", .tup (p.2.map agesD)), ("mute", .bl p.1)]
def planD (ps : List Ph) : D := .ins 6 [("phases", .tup (ps.map phD))]
def optD : Option Nat → D
  | none => .non
  | some a => .int (a : Int)
def fdL (L : Nat) (f : Nat → Option Nat) : List D := (List.range L).map fun i => optD (f i)
theorem fdL_len {L : Nat} {f : Nat → Option Nat} : (fdL L f).length = L := by unfold fdL; simp
theorem fdL_get {L : Nat} {f : Nat → Option Nat} {i : Nat} (h : i < L) : (fdL L f)[i]'(by rw [fdL_len]; exact h) = optD (f i) := by unfold fdL; simp
theorem fdL_set {L : Nat} {f : Nat → Option Nat} {i a : Nat} : (fdL L f).set i (.int (a : Int)) = fdL L (updF f i (some a)) := by
  apply List.ext_getElem?
  intro k
  rw [List.getElem?_set]
  unfold fdL
  rw [List.length_map, List.length_range, List.getElem?_map, List.getElem?_map]
  by_cases e : i = k
  · subst e
    rw [if_pos rfl]
    by_cases h : i < L
    · rw [if_pos h, List.getElem?_range h]
      unfold updF
      simp [optD]
    · rw [if_neg h, List.getElem?_eq_none (by simp; omega)]
      rfl
  · rw [if_neg e]
    by_cases h : k < L
    · rw [List.getElem?_range h]
      unfold updF
      have ne : ¬ k = i := fun z => e z.symm
      simp [ne]
    · rw [List.getElem?_eq_none (by simp; omega)]
      rfl
theorem fld_mute {p : Ph} : gFld [5] "mute" (.val (phD p)) = .ok (.val (.bl p.1)) := rfl
theorem fld_sums {p : Ph} : gFld [5] "sums" (.val (phD p)) = .ok (.val (.tup (p.2.map agesD))) := rfl
theorem fld_phases {ps : List Ph} : gFld [6] "phases" (.val (planD ps)) = .ok (.val (.tup (ps.map phD))) := rfl
theorem isi_int {i : Int} : gIsi isT (.val (.int i)) (.val (.ty "int")) = .ok (.val (.bl true)) := rfl
theorem isi_intb {i : Int} : gIsi isT (.val (.int i)) (.val (.ty "bool")) = .ok (.val (.bl false)) := rfl
theorem is_integer_i {i : Int} : ma_is_integer_1 [.int i] = .ok (.bl true) := by
  unfold ma_is_integer_1 r_is_integer m_is_integer
  simp_arith [isi_int, isi_intb]
theorem is_within_i {i a b : Int} : ma_is_within_3 [.int i, .int a, .int b] = .ok (.bl (decide (a ≤ i ∧ i ≤ b))) := by
  unfold ma_is_within_3 r_is_within m_is_within
  by_cases h : a ≤ i
  · simp_arith [is_integer_i]
    simp [h]
  · simp_arith [is_integer_i]
theorem lenE_n {n : Nat} (h : n ≤ 1000) : lenE (.int (n : Int)) = .ok (.val (.int (n : Int))) := by
  unfold lenE
  simp only
  rw [if_pos ⟨by omega, by omega⟩, okV_eq]
theorem len_plan {ps : List Ph} (hl : ps.length ≤ 1000) : gLenO T_len (.val (planD ps)) = .ok (.val (.int (ps.length : Nat))) := by
  have f := fld_phases (ps := ps)
  show ownLen T_len 6 _ = _
  unfold ownLen
  have e : T_len.lookup 6 = some ma_Planu__lenu__1 := rfl
  rw [e]
  have q : ma_Planu__lenu__1 [planD ps] = .ok (.int (ps.length : Nat)) := by
    unfold ma_Planu__lenu__1 r_Planu__lenu_ m_Planu__lenu_
    simp_arith [f]
  show ((ma_Planu__lenu__1 [planD ps]).bind lenE) = _
  rw [q, ok_bind, lenE_n hl]
theorem ix_tupAt {ds : List D} {k : Nat} (h : k < ds.length) : gIx (.val (.tup ds)) (.val (.int (k : Int))) = .ok (.val ds[k]) := by
  have e1 : atI ds k = some ds[k] := by
    unfold atI ixN
    rw [if_pos (by omega), if_pos (by omega), Int.toNat_natCast]
    exact List.getElem?_eq_getElem h
  unfold gIx
  simp only [RV.d, e1, okV_eq]
theorem ix_brw {ds : List D} {y : RV} : gIx (.brw ds) y = gIx (.val (.lst ds)) y := rfl
theorem mod_n {a b : Nat} (h : 0 < b) (hb : b ≤ 1000) : gMod (.val (.int (a : Int))) (.val (.int (b : Int))) = .ok (.val (.int ((a % b : Nat) : Int))) := by
  rw [gMod_int (by omega)]
  rfl
def mod_at (ps : List Ph) (h : ps ≠ []) (n : Nat) : Ph := ps[n % ps.length]'(Nat.mod_lt _ (List.length_pos_iff.mpr h))
theorem getitem_r {ps : List Ph} {n : Nat} (h : ps ≠ []) (hl : ps.length ≤ 1000) (hn : n ≤ 100000) : gIxO T_getitem (.val (planD ps)) (.val (.int (n : Int))) = .ok (.val (phD (mod_at ps h n))) := by
  have f := fld_phases (ps := ps)
  have l := List.length_pos_iff.mpr h
  have w := is_within_i (i := (n : Int)) (a := 0) (b := 10 ^ 40)
  rw [decide_eq_true ⟨by omega, Int.le_trans (show (n : Int) ≤ 100000 by omega) (by decide)⟩] at w
  have m := mod_n (a := n) (b := ps.length) l hl
  have i := ix_tupAt (ds := ps.map phD) (k := n % ps.length) (by rw [List.length_map]; exact Nat.mod_lt _ l)
  rw [List.getElem_map] at i
  show (ma_Planu__getitemu__2 [planD ps, .int (n : Int)]).bind okV = _
  unfold ma_Planu__getitemu__2 r_Planu__getitemu_ m_Planu__getitemu_
  have p : ((10 : Int) ^ (40 : Int).toNat) = 10 ^ 40 := rfl
  simp_arith [f, w, m, i, p]
  rfl
/-! the turns of known_spots -/
/-- one row looked at -/
def hear1 (k : Nat) (b : Nat) (f : Nat → Option Nat) : Nat → Option Nat := if b = 2 ^ b.log2 ∧ f b.log2 = none then updF f b.log2 (some k) else f
theorem log_pow {s : Nat} : (2 ^ s).log2 = s := Nat.log2_two_pow
theorem hear_cons {k b : Nat} {bs : List Nat} {f : Nat → Option Nat} : hear k bs (hear1 k b f) = hear k (b :: bs) f := by
  funext s
  unfold hear hear1
  by_cases c : b = 2 ^ b.log2 ∧ f b.log2 = none
  · rw [if_pos c]
    unfold updF
    by_cases e : s = b.log2
    · subst e
      rw [if_pos rfl, if_neg (by simp), if_pos ⟨by rw [← c.1]; exact .head _, c.2⟩]
    · rw [if_neg e]
      have q : (2 ^ s ∈ b :: bs) ↔ 2 ^ s ∈ bs := by
        rw [List.mem_cons]
        constructor
        · rintro (z | z)
          · exact absurd (by rw [← z, log_pow]) e
          · exact z
        · exact .inr
      simp only [q]
  · rw [if_neg c]
    by_cases e : 2 ^ s = b
    · have l : b.log2 = s := by rw [← e, log_pow]
      have n : ¬ f s = none := fun z => c ⟨by rw [l, e], by rw [l]; exact z⟩
      rw [if_neg fun z => n z.2, if_neg fun z => n z.2]
    · have q : (2 ^ s ∈ b :: bs) ↔ 2 ^ s ∈ bs := by
        rw [List.mem_cons]
        exact ⟨fun z => z.elim (fun y => absurd y e) id, .inr⟩
      simp only [q]
theorem hear_nil {k : Nat} {f : Nat → Option Nat} : hear k [] f = f := by
  funext s
  unfold hear
  rw [if_neg (by simp)]
theorem is_non {o : Option Nat} : gIsA (.val (optD o)) (.val .non) = .ok (.val (.bl (decide (o = none)))) := by cases o <;> rfl
section
variable {P B S O x6 x8 x9 x10 x11 R : SV} {L k : Nat} {f : Nat → Option Nat}
theorem row_turn {b : Nat} {y : SV} (h0 : b ≠ 0) (hl : b.log2 < L) (hL : L ≤ 1000) :
    b_known_spots_2 [P, B, S, .own (fdL L f), R, O, x6, .val (.int (k : Int)), x8, x9, x10, x11, .val (.int ((2 ^ b.log2 : Nat) : Int)), .val (.int (b : Int)), y] =
      .ok (.nx [P, B, S, .own (fdL L (hear1 k b f)), R, O, x6, .val (.int (k : Int)), x8, x9, x10, x11, .val (.int ((2 ^ b.log2 : Nat) : Int)), .val (.int (b : Int)), .val (.int (b.log2 : Nat))]) := by
  have p0 : 2 ^ b.log2 ≠ 0 := by have := Nat.pow_pos (n := b.log2) (show 0 < 2 by omega); omega
  have f1 := fmtB_n (n := 2 ^ b.log2) (by rw [log_pow]; omega)
  have b1 := binT_log p0
  rw [log_pow] at b1
  have g1 := len_s (s := binT (2 ^ b.log2)) (by omega)
  rw [b1] at g1
  have s1 : ((b.log2 + 1 : Nat) : Int) - 1 = (b.log2 : Nat) := by omega
  have i1 := gIx_at (ds := fdL L f) (k := b.log2) (by rw [fdL_len]; exact hl)
  rw [fdL_get hl] at i1
  have n1 := is_non (o := f b.log2)
  have e1 : gEqD (.val (.int (b : Int))) (.val (.int ((2 ^ b.log2 : Nat) : Int))) = .ok (.val (.bl (decide (b = 2 ^ b.log2)))) := by
    rw [gEqD_int]
    congr 3
    rw [decide_eq_decide]
    omega
  have st := ixsE_at (k := 3) (γ := [P, B, S, .own (fdL L f), R, O, x6, .val (.int (k : Int)), x8, x9, x10, x11, .val (.int ((2 ^ b.log2 : Nat) : Int)), .val (.int (b : Int)), .val (.int (b.log2 : Nat))]) (ds := fdL L f) (d := .int (k : Int)) (i := (b.log2 : Nat)) (by omega) (by rw [fdL_len]; omega)
  rw [Int.toNat_natCast, fdL_set] at st
  unfold b_known_spots_2 hear1
  by_cases c1 : b = 2 ^ b.log2
  · by_cases c2 : f b.log2 = none
    · rw [decide_eq_true c1] at e1
      rw [decide_eq_true c2] at n1
      rw [if_pos ⟨c1, c2⟩]
      generalize ((2 ^ b.log2 : Nat) : Int) = Z at *
      generalize fdL L (updF f b.log2 (some k)) = Y at *
      simp_arith [f1, g1, s1, e1, ix_brw, i1, n1, mIxS_ap, ixsK_own, st]
      try rfl
    · rw [decide_eq_true c1] at e1
      rw [decide_eq_false c2] at n1
      rw [if_neg fun z => c2 z.2]
      generalize ((2 ^ b.log2 : Nat) : Int) = Z at *
      simp_arith [f1, g1, s1, e1, ix_brw, i1, n1]
      try rfl
  · rw [decide_eq_false c1] at e1
    rw [if_neg fun z => c1 z.1]
    generalize ((2 ^ b.log2 : Nat) : Int) = Z at *
    simp_arith [f1, g1, s1, e1]
    try rfl
theorem rows_loop (hL : L ≤ 1000) : ∀ {bs : List Nat} {f : Nat → Option Nat} {y12 y13 y14 : SV}, (∀ b ∈ bs, b ≠ 0) → (∀ b ∈ bs, b.log2 < L) → ∃ z12 z13 z14,
    forD (gmTup 2 (gmCons (gmName 12) (gmCons (gmName 13) gmNil))) (mCl [14] b_known_spots_2) (bs.map rowD) [P, B, S, .own (fdL L f), R, O, x6, .val (.int (k : Int)), x8, x9, x10, x11, y12, y13, y14] =
      .ok (.nx [P, B, S, .own (fdL L (hear k bs f)), R, O, x6, .val (.int (k : Int)), x8, x9, x10, x11, z12, z13, z14])
  | [], f, y12, y13, y14, _, _ => ⟨y12, y13, y14, by rw [hear_nil]; rfl⟩
  | b :: bs, f, y12, y13, y14, h0, hl => by
    have e := row_turn (P := P) (B := B) (S := S) (O := O) (x6 := x6) (x8 := x8) (x9 := x9) (x10 := x10) (x11 := x11) (R := R) (k := k) (f := f) (y := .no) (h0 b (.head _)) (hl b (.head _)) hL
    obtain ⟨z12, z13, z14, ih⟩ := rows_loop hL (bs := bs) (f := hear1 k b f) (y12 := .val (.int ((2 ^ b.log2 : Nat) : Int))) (y13 := .val (.int (b : Int))) (y14 := .val (.int (b.log2 : Nat))) (fun c hc => h0 c (.tail _ hc)) fun c hc => hl c (.tail _ hc)
    refine ⟨z12, z13, z14, ?_⟩
    rw [List.map_cons, hear_cons] at *
    show forD _ _ (.tup [.int ((2 ^ b.log2 : Nat) : Int), .int (b : Int)] :: bs.map rowD) _ = _
    rw [forD_t2]
    show (b_known_spots_2 [P, B, S, .own (fdL L f), R, O, x6, .val (.int (k : Int)), x8, x9, x10, x11, .val (.int ((2 ^ b.log2 : Nat) : Int)), .val (.int (b : Int)), .no]).bind _ = _
    rw [e, ok_bind, forK_nx, ih]
/-- a basis that is held in bounds -/
structure Bas (n : Nat) (bs : List Nat) : Prop where
  red : Red bs
  lt : ∀ b ∈ bs, b < 2 ^ 1000
  le : bs.length ≤ n
theorem Bas.put {n m : Nat} {bs : List Nat} (h : Bas n bs) (hm : m < 2 ^ 1000) : Bas (n + 1) (put bs m) := ⟨put_red h.red, put_lt hm h.lt, by have := put_len (bs := bs) (v := m); have := h.le; omega⟩
theorem sums_turn {op n : Nat} {bs ages : List Nat} {F x12 x13 x14 y11 : SV} (hb : Bas n bs) (hn : n ≤ 90000) (ho : op < 2 ^ 1000) (hk : k ≤ 1000) (ha : ages.length ≤ 1000) :
    b_known_spots_1 [P, B, S, F, .val (rowsD bs), .val (.int (op : Int)), x6, .val (.int (k : Int)), x8, x9, .val (agesD ages), y11, x12, x13, x14] =
      .ok (.nx [P, B, S, F, .val (rowsD (put bs (mask k ages &&& op))), .val (.int (op : Int)), x6, .val (.int (k : Int)), x8, x9, .val (agesD ages), y11, x12, x13, x14]) := by
  have lc := masks_lc (γ := [P, B, S, F, .val (rowsD bs), .val (.int (op : Int)), x6, .val (.int (k : Int)), x8, x9, .val (agesD ages), .no, x12, x13, x14]) (i := 11) (j := 7) (k := k) (ages := ages) hk ha (by simp) fun d => rfl
  have a1 := and_n (a := mask k ages) (b := op)
  have hle := hb.le
  have s1 := settled_r (m := mask k ages &&& op) hb.red hb.lt (Nat.lt_of_le_of_lt Nat.and_le_right ho) (by omega)
  have it : asIt (.val (agesD ages)) = .ok (ages.map fun a : Nat => D.int (a : Int)) := rfl
  unfold b_known_spots_1
  simp_arith [it, lc, mlist_sum, a1, s1]
end
/-! known_spots, whole; known_at -/
def sgT (b : Bool) : Str := ⟨#[if b then 120 else 46]⟩
def lossT (ls : List Bool) : Str := ⟨(ls.map fun b => if b then 120 else 46).toArray⟩
theorem lossT_len {ls : List Bool} : (lossT ls).length = ls.length := by
  show ((ls.map fun b => if b then 120 else 46).toArray).size = _
  simp
theorem strDs_loss {ls : List Bool} : strDs (lossT ls) = ls.map fun b => .str (sgT b) := by
  unfold strDs lossT
  simp only [List.map_map]
  rfl
section
variable {P B S x6 x8 x9 x11 : SV} {L k : Nat}
theorem sums_loop {op : Nat} {F x12 x13 x14 : SV} (ho : op < 2 ^ 1000) (hk : k ≤ 1000) : ∀ {sums : List (List Nat)} {bs : List Nat} {n : Nat} {y10 y11 : SV}, Bas n bs → n + sums.length ≤ 90000 → (∀ s ∈ sums, s.length ≤ 1000) → ∃ z10,
    forD (gmName 10) b_known_spots_1 (sums.map agesD) [P, B, S, F, .val (rowsD bs), .val (.int (op : Int)), x6, .val (.int (k : Int)), x8, x9, y10, y11, x12, x13, x14] =
      .ok (.nx [P, B, S, F, .val (rowsD (putM op (sums.map (mask k)) bs)), .val (.int (op : Int)), x6, .val (.int (k : Int)), x8, x9, z10, y11, x12, x13, x14])
  | [], bs, n, y10, y11, _, _, _ => ⟨y10, rfl⟩
  | a :: sums, bs, n, y10, y11, hb, hn, ha => by
    rw [List.length_cons] at hn
    have e := sums_turn (P := P) (B := B) (S := S) (x6 := x6) (x8 := x8) (x9 := x9) (F := F) (x12 := x12) (x13 := x13) (x14 := x14) (y11 := y11) (k := k) hb (by omega) ho hk (ha a (.head _))
    obtain ⟨z, ih⟩ := sums_loop ho hk (F := F) (x12 := x12) (x13 := x13) (x14 := x14) (sums := sums) (y10 := .val (agesD a)) (y11 := y11) (hb.put (Nat.lt_of_le_of_lt Nat.and_le_right ho : mask k a &&& op < 2 ^ 1000)) (by omega) fun s hs => ha s (.tail _ hs)
    refine ⟨z, ?_⟩
    rw [List.map_cons, forD_name]
    show (b_known_spots_1 [P, B, S, F, .val (rowsD bs), .val (.int (op : Int)), x6, .val (.int (k : Int)), x8, x9, .val (agesD a), y11, x12, x13, x14]).bind _ = _
    rw [e, ok_bind, forK_nx, ih]
    rfl
theorem putM_bas {op : Nat} (ho : op < 2 ^ 1000) : ∀ {ms bs : List Nat} {n : Nat}, Bas n bs → Bas (n + ms.length) (putM op ms bs)
  | [], _, _, h => h
  | m :: ms, bs, n, h => by
    have := putM_bas ho (ms := ms) (h.put (Nat.lt_of_le_of_lt Nat.and_le_right ho : m &&& op < 2 ^ 1000))
    rw [List.length_cons, show n + (ms.length + 1) = n + 1 + ms.length by omega]
    exact this
structure Pk (k n : Nat) (s : GV.St) : Prop where
  bas : Bas n s.bs
  sub : ∀ b ∈ s.bs, Bits b s.op
  op : s.op < 2 ^ k
theorem bit_lt {a i k : Nat} (h : a < 2 ^ k) (hi : a.testBit i = true) : i < k := by
  apply Classical.byContradiction
  intro n
  rw [Nat.testBit_lt_two_pow (Nat.lt_of_lt_of_le h (Nat.pow_le_pow_right (by omega) (by omega)))] at hi
  cases hi
theorem pow_le1000 {k : Nat} (h : k ≤ 1000) : 2 ^ k ≤ 2 ^ 1000 := Nat.pow_le_pow_right (by omega) h
theorem Pk.turn {n : Nat} {s : GV.St} {lost mute : Bool} {ms : List Nat} (h : Pk k n s) (hk : k < 1000) : Pk (k + 1) (n + ms.length) (turn k lost mute ms s) := by
  have up : s.op < 2 ^ (k + 1) := Nat.lt_of_lt_of_le h.op (Nat.pow_le_pow_right (by omega) (by omega))
  have b' : Bas (n + ms.length) s.bs := ⟨h.bas.red, h.bas.lt, by have := h.bas.le; omega⟩
  cases lost with
  | true =>
    cases mute with
    | true => exact ⟨b', h.sub, up⟩
    | false => exact ⟨b', fun b hb i hi => by
        show (s.op ||| 2 ^ k).testBit i = true
        rw [or_bit, h.sub b hb i hi]; rfl, Nat.or_lt_two_pow up (Nat.pow_lt_pow_right (by omega) (by omega))⟩
  | false => exact ⟨putM_bas (Nat.lt_of_lt_of_le h.op (pow_le1000 (by omega))) h.bas, putM_sub h.sub, up⟩
theorem eq_sg {b : Bool} : gEqD (.val (.str (sgT b))) (.val (.str "x")) = .ok (.val (.bl b)) := by cases b <;> kernel_rfl
theorem spots_turn {ps : List Ph} {begin n : Nat} {s : GV.St} {lost : Bool} (hp : ps ≠ []) (hl : ps.length ≤ 1000) (hb : begin ≤ 1000) (hk : k < L) (hL : L ≤ 999) (h : Pk k n s) (hn : n + (mod_at ps hp (begin + k)).2.length ≤ 90000) (ha : ∀ a ∈ (mod_at ps hp (begin + k)).2, a.length ≤ 1000) :
    ∃ γ, (b_known_spots_3 [.val (planD ps), .val (.int (begin : Int)), S, .own (fdL L s.fd), .val (rowsD s.bs), .val (.int (s.op : Int)), x6, .val (.int (k : Int)), .val (.str (sgT lost)), .no, .no, x11, .no, .no, .no] = .ok (.nx γ) ∨
      b_known_spots_3 [.val (planD ps), .val (.int (begin : Int)), S, .own (fdL L s.fd), .val (rowsD s.bs), .val (.int (s.op : Int)), x6, .val (.int (k : Int)), .val (.str (sgT lost)), .no, .no, x11, .no, .no, .no] = .ok (.ct γ)) ∧
      ∃ t y9 y10 y12 y13 y14, t = turn k lost (mod_at ps hp (begin + k)).1 ((mod_at ps hp (begin + k)).2.map (mask k)) s ∧ γ = [.val (planD ps), .val (.int (begin : Int)), S, .own (fdL L t.fd), .val (rowsD t.bs), .val (.int (t.op : Int)), x6, .val (.int (k : Int)), .val (.str (sgT lost)), y9, y10, x11, y12, y13, y14] := by
  have g := getitem_r (ps := ps) (n := begin + k) hp hl (by omega)
  have c1 : (begin : Int) + (k : Int) = ((begin + k : Nat) : Int) := by omega
  generalize mod_at ps hp (begin + k) = p at *
  have f1 := fld_mute (p := p)
  have f2 := fld_sums (p := p)
  have q := eq_sg (b := lost)
  have ho : s.op < 2 ^ 1000 := Nat.lt_of_lt_of_le h.op (pow_le1000 (by omega))
  unfold b_known_spots_3
  cases lost with
  | true =>
    have sh := shl_one (k := k) (by omega)
    have o0 := or_n (a := s.op) (b := 0)
    have o1 := or_n (a := s.op) (b := 2 ^ k)
    rw [Nat.or_zero] at o0
    have z0 : ((0 : Nat) : Int) = 0 := rfl
    rw [z0] at o0
    refine ⟨_, .inr ?_, _, .val (phD p), .no, .no, .no, .no, rfl, rfl⟩
    unfold turn
    cases m : p.1 with
    | true =>
      rw [m] at f1
      generalize phD p = X at *
      generalize planD ps = Y at *
      simp_arith [c1, g, q, f1, o0]
      rfl
    | false =>
      rw [m] at f1
      generalize phD p = X at *
      generalize planD ps = Y at *
      simp_arith [c1, g, q, f1, sh, o1]
      rfl
  | false =>
    have b2 := putM_bas (ms := p.2.map (mask k)) ho h.bas
    have s2 : ∀ b ∈ putM s.op (p.2.map (mask k)) s.bs, Bits b s.op := putM_sub h.sub
    obtain ⟨z10, l1⟩ := sums_loop (P := .val (planD ps)) (B := .val (.int (begin : Int))) (S := S) (F := .own (fdL L (if p.1 then s.fd else updF s.fd k (some k)))) (x6 := x6) (x8 := .val (.str (sgT false))) (x9 := .val (phD p)) (x12 := .no) (x13 := .no) (x14 := .no) (y10 := .no) (y11 := x11) (k := k) (sums := p.2) ho (by omega) h.bas hn ha
    obtain ⟨z12, z13, z14, l2⟩ := rows_loop (P := .val (planD ps)) (B := .val (.int (begin : Int))) (S := S) (R := .val (rowsD (putM s.op (p.2.map (mask k)) s.bs))) (O := .val (.int (s.op : Int))) (x6 := x6) (x8 := .val (.str (sgT false))) (x9 := .val (phD p)) (x10 := z10) (x11 := x11) (L := L) (k := k) (by omega) (bs := putM s.op (p.2.map (mask k)) s.bs) (f := if p.1 then s.fd else updF s.fd k (some k)) (y12 := .no) (y13 := .no) (y14 := .no) b2.red.nz fun b hb => by
        have := bit_lt h.op (s2 b hb _ (top_set (b2.red.nz b hb)))
        omega
    have st := ixsE_at (k := 3) (γ := [.val (planD ps), .val (.int (begin : Int)), S, .own (fdL L s.fd), .val (rowsD s.bs), .val (.int (s.op : Int)), x6, .val (.int (k : Int)), .val (.str (sgT false)), .val (phD p), .no, x11, .no, .no, .no]) (ds := fdL L s.fd) (d := .int (k : Int)) (i := (k : Nat)) (by omega) (by rw [fdL_len]; omega)
    rw [Int.toNat_natCast, fdL_set] at st
    have it : asIt (.val (rowsD (putM s.op (p.2.map (mask k)) s.bs))) = .ok ((putM s.op (p.2.map (mask k)) s.bs).map rowD) := rfl
    refine ⟨_, .inl ?_, _, .val (phD p), z10, z12, z13, z14, rfl, rfl⟩
    unfold turn
    cases m : p.1 with
    | true =>
      rw [m] at f1 l1 l2
      rw [if_pos rfl] at l1 l2
      generalize phD p = X at *
      generalize planD ps = Y at *
      simp_arith [c1, g, q, f1, f2, l1, it, l2]
    | false =>
      rw [m] at f1 l1 l2
      rw [if_neg (by simp)] at l1 l2
      generalize phD p = X at *
      generalize planD ps = Y at *
      simp_arith [c1, g, q, f1, f2, mIxS_ap, ixsK_own, st, l1, it, l2]
end
/-! known_spots and known_at -/
def runN (ph : Nat → Ph) (ls : List Bool) : Nat → GV.St
  | 0 => ⟨[], 0, fun _ => none⟩
  | k + 1 => turn k (ls.getD k false) (ph k).1 ((ph k).2.map (mask k)) (runN ph ls k)
structure PlanOk (ps : List Ph) : Prop where
  ne : ps ≠ []
  le : ps.length ≤ 3
  sums : ∀ p ∈ ps, p.2.length ≤ 4 ∧ ∀ a ∈ p.2, a.length ≤ 4
theorem mod_mem {ps : List Ph} {h : ps ≠ []} {n : Nat} : mod_at ps h n ∈ ps := List.getElem_mem _
theorem run_pk {ps : List Ph} (o : PlanOk ps) {b : Nat} {ls : List Bool} : ∀ {k : Nat}, k ≤ 999 → Pk k (4 * k) (runN (fun k => mod_at ps o.ne (b + k)) ls k)
  | 0, _ => ⟨⟨.nil, by simp [runN], by simp [runN]⟩, by simp [runN], by simp [runN]⟩
  | k + 1, hk => by
    have ih := run_pk o (b := b) (ls := ls) (k := k) (by omega)
    have t := ih.turn (lost := ls.getD k false) (mute := (mod_at ps o.ne (b + k)).1) (ms := (mod_at ps o.ne (b + k)).2.map (mask k)) (by omega)
    have l := (o.sums _ (mod_mem (h := o.ne) (n := b + k))).1
    exact ⟨⟨t.bas.red, t.bas.lt, by have := t.bas.le; rw [List.length_map] at this; exact Nat.le_trans this (by omega)⟩, t.sub, t.op⟩
theorem iEnumS_ap {m : Gm → DL.T RV} {γ : Gm} : DL.iEnumS m γ = (m γ).bind fun x => (asD x).bind fun d => enumKS [d] := by
  unfold DL.iEnumS
  simp_arith []
theorem enumKS_str {z : Str} : enumKS [.str z] = .ok (enumD (strDs z)) := rfl
theorem asIt_s {s : Str} : asIt (.val (.str s)) = .ok (strDs s) := rfl
theorem none_fdL {L : Nat} {ds : List D} (h : ds.length = L) : ds.map (fun _ => D.non) = fdL L fun _ => none := by
  unfold fdL
  apply List.ext_getElem?
  intro i
  rw [List.getElem?_map, List.getElem?_map]
  by_cases c : i < L
  · rw [List.getElem?_range c, List.getElem?_eq_getElem (by omega)]
    rfl
  · rw [List.getElem?_eq_none (by omega), List.getElem?_eq_none (by simp; omega)]
    rfl
theorem sign_at {ls : List Bool} {k : Nat} {x : D} (h : (strDs (lossT ls))[k]? = some x) : x = .str (sgT (ls.getD k false)) ∧ k < ls.length := by
  rw [strDs_loss, List.getElem?_map] at h
  obtain ⟨b, h1, rfl⟩ := Option.map_eq_some_iff.mp h
  obtain ⟨h2, h3⟩ := List.getElem?_eq_some_iff.mp h1
  refine ⟨?_, h2⟩
  rw [List.getD_eq_getElem?_getD, h1]
  rfl
def dueL (ps : List Ph) (o : PlanOk ps) (b : Nat) (ls : List Bool) : List D := fdL ls.length (runN (fun k => mod_at ps o.ne (b + k)) ls ls.length).fd
theorem spots_r {ps : List Ph} (o : PlanOk ps) {b : Nat} {ls : List Bool} (hb : b ≤ 10) (hl : ls.length ≤ 400) : ma_known_spots_3 [planD ps, .int (b : Int), .str (lossT ls)] = .ok (.tup (dueL ps o b ls)) := by
  have as := asIt_s (s := lossT ls)
  have lc : ∀ γ : Gm, lcD (gmName 6) tYesM (mC .non) γ (strDs (lossT ls)) [] = .ok (fdL ls.length fun _ => none) := fun γ => by
    rw [lc_map (gm := gmName 6) (te := mC .non) (f := fun _ => .non) (fun d _ => ⟨_, rfl, rfl⟩) (by rw [strDs_loss]; simp; omega), none_fdL rfl, strDs_loss, List.length_map]
  have le := o.le
  obtain ⟨γ2, e, x6, y7, y8, y9, y10, x11, y12, y13, y14, rfl⟩ := for_detC (gm := gmTup 2 (gmCons (gmName 7) (gmCons (gmName 8) gmNil))) (mb := mCl [9, 10, 12, 13, 14] b_known_spots_3)
    (fun N γ => ∃ x6 y7 y8 y9 y10 x11 y12 y13 y14, γ = [.val (planD ps), .val (.int (b : Int)), .val (.str (lossT ls)), .own (fdL ls.length (runN (fun k => mod_at ps o.ne (b + k)) ls N).fd), .val (rowsD (runN (fun k => mod_at ps o.ne (b + k)) ls N).bs), .val (.int ((runN (fun k => mod_at ps o.ne (b + k)) ls N).op : Int)), x6, y7, y8, y9, y10, x11, y12, y13, y14])
    (ds := enumD (strDs (lossT ls))) (γ := [.val (planD ps), .val (.int (b : Int)), .val (.str (lossT ls)), .own (fdL ls.length fun _ => none), .val (.lst []), .val (.int 0), .no, .no, .no, .no, .no, .no, .no, .no, .no]) 0 ⟨_, _, _, _, _, _, _, _, _, rfl⟩ (by
      rintro k d γ hd ⟨x6, y7, y8, y9, y10, x11, y12, y13, y14, rfl⟩
      obtain ⟨x, hx, rfl⟩ := enumD_get hd
      obtain ⟨rfl, hk⟩ := sign_at hx
      rw [Nat.zero_add]
      have pk := run_pk o (b := b) (ls := ls) (k := k) (by omega)
      have sm := o.sums _ (mod_mem (h := o.ne) (n := b + k))
      obtain ⟨γ', t, s, z9, z10, z12, z13, z14, hs, rfl⟩ := spots_turn (S := .val (.str (lossT ls))) (x6 := x6) (x11 := x11) (L := ls.length) (lost := ls.getD k false) o.ne (by omega) (by omega : b ≤ 1000) hk (by omega) pk (by omega) fun a ha => by have := sm.2 a ha; omega
      subst hs
      exact ⟨_, _, rfl, t, _, _, _, _, _, _, _, _, _, rfl⟩)
  have en := enumKS_str (z := lossT ls)
  rw [enumD_len, strDs_loss, List.length_map, Nat.zero_add] at e
  rw [← strDs_loss] at e
  unfold ma_known_spots_3 r_known_spots m_known_spots
  unfold dueL
  generalize planD ps = Y at *
  simp_arith [as, lc, iEnumS_ap, en, e]
/-! known_at -/
theorem in_x (b : Bool) : gInP (.val (.str (sgT b))) (.val (.str ".x")) = .ok (.val (.bl true)) := by cases b <;> kernel_rfl
theorem bls_map : ∀ l : List Bool, D.bls (l.map D.bl) = some l
  | [] => rfl
  | x :: l => by
    show (D.bls (l.map D.bl)).map (x :: ·) = _
    rw [bls_map l]
    rfl
theorem all_bls (l : List Bool) : gAll (.val (.lst (l.map D.bl))) = .ok (.val (.bl (l.all id))) := by
  show (match D.bls (l.map D.bl) with | some ns => okV (.bl (ns.all id)) | none => .stuck) = _
  rw [bls_map]
theorem isi_str {s : Str} : gIsi isT (.val (.str s)) (.val (.ty "str")) = .ok (.val (.bl true)) := rfl
theorem isi_plan {ps : List Ph} : gIsi isT (.val (planD ps)) (.val (.cls 6)) = .ok (.val (.bl true)) := rfl
theorem is_losses_r {ls : List Bool} (hl : ls.length ≤ 400) : ma_is_losses_1 [.str (lossT ls)] = .ok (.bl true) := by
  have is := isi_str (s := lossT ls)
  have as := asIt_s (s := lossT ls)
  have lc : ∀ a, lcD (gmName 1) tYesM (mBin gInP (mVar 1) (mC (.str ".x"))) [a, .no] (strDs (lossT ls)) [] = .ok ((ls.map fun _ => true).map D.bl) := fun a => by
    rw [lc_map (f := fun _ => .bl true) (fun d hd => ?_) (by rw [strDs_loss]; simp; omega), strDs_loss]
    · simp
    · rw [strDs_loss] at hd
      obtain ⟨b, hb, rfl⟩ := List.mem_map.mp hd
      have e := in_x b
      refine ⟨_, rfl, ?_⟩
      simp_arith [e]
  have al := all_bls (ls.map fun _ => true)
  have t : (ls.map fun _ => true).all id = true := by simp
  rw [t] at al
  unfold ma_is_losses_1 r_is_losses m_is_losses
  simp_arith [is, as, lc, al]
theorem need_losses_r {ls : List Bool} (hl : ls.length ≤ 400) : ma_need_losses_1 [.str (lossT ls)] = .ok .non := by
  have il := is_losses_r hl
  have gl := len_s (s := lossT ls) (by rw [lossT_len]; omega)
  rw [lossT_len] at gl
  have g : decide (((ls.length : Nat) : Int) > 400) = false := decide_eq_false (by omega)
  unfold ma_need_losses_1 r_need_losses m_need_losses
  simp_arith [il, gl, g]
theorem need_plan_r {ps : List Ph} : ma_need_plan_1 [planD ps] = .ok .non := by
  have i := isi_plan (ps := ps)
  unfold ma_need_plan_1 r_need_plan m_need_plan
  simp_arith [i]
theorem known_r {ps : List Ph} (o : PlanOk ps) {b : Nat} {ls : List Bool} (hb : b < ps.length) (hl : ls.length ≤ 400) : ma_known_at_3 [planD ps, .int (b : Int), .str (lossT ls)] = .ok (.tup (dueL ps o b ls)) := by
  have le := o.le
  have sp := spots_r o (b := b) (by omega) hl
  have np := need_plan_r (ps := ps)
  have nl := need_losses_r hl
  have lp := len_plan (ps := ps) (by omega)
  have w := is_within_i (i := (b : Int)) (a := 0) (b := (ps.length : Int) - 1)
  rw [decide_eq_true ⟨by omega, by omega⟩] at w
  unfold ma_known_at_3 r_known_at m_known_at
  simp_arith [np, lp, w, nl, sp]
/-! the law's own look: its turns -/
def intL (p : List Nat) : List Int := p.map fun i : Nat => (i : Int)
def vecD (l : List Nat) : D := .lst (List.map DL.D.int (intL l))
theorem mem_intL {l : List Nat} {d : D} (h : d ∈ (List.map DL.D.int (intL l))) : ∃ n : Nat, n ∈ l ∧ d = .int (n : Int) := by
  obtain ⟨i, hi, rfl⟩ := List.mem_map.mp h
  obtain ⟨n, hn, rfl⟩ := List.mem_map.mp hi
  exact ⟨n, hn, rfl⟩
theorem lc_filt {γ : Gm} {i : Nat} {tt : Gm → DL.T Bool} {l : List Nat} {p : Nat → Bool} (hi : i < γ.length) (hl : l.length ≤ 100000) (h : ∀ v ∈ l, tt (γ.set i (.val (.int (v : Int)))) = .ok (p v)) :
    lcD (gmName i) tt (mVar i) γ (List.map DL.D.int (intL l)) [] = .ok (List.map DL.D.int (intL (l.filter p))) := by
  rw [lc_all (p := fun d => match d with | .int a => p a.toNat | _ => false) (f := fun d => d) (fun d hd => ?_) (by simp [intL]; omega)]
  · rw [List.nil_append]
    congr 1
    unfold intL
    rw [List.map_map, List.map_map, List.filter_map, List.map_map]
    have f : ((fun d : D => match d with | .int a => p a.toNat | _ => false) ∘ (D.int ∘ fun i : Nat => (i : Int))) = p := by
      funext v
      show p (v : Int).toNat = p v
      rw [Int.toNat_natCast]
    rw [f]
    rfl
  · obtain ⟨v, hv, rfl⟩ := mem_intL hd
    have hi' : (γ.set i (SV.val (.int (v : Int))))[i]? = some (.val (.int (v : Int))) := by rw [List.getElem?_set_self hi]
    refine ⟨_, rfl, ?_, fun _ => ?_⟩
    · show tt _ = .ok (p (v : Int).toNat)
      rw [Int.toNat_natCast]
      exact h v hv
    · simp_arith [hi']
theorem neg_sg {b : Bool} : gEqO isT eqT (.val (.str (sgT b))) (.val (.str ".")) = .ok (.val (.bl (!b))) := by cases b <;> kernel_rfl
theorem eqO_sg {b : Bool} : gEqO isT eqT (.val (.str (sgT b))) (.val (.str "x")) = .ok (.val (.bl b)) := by rw [gEqO_str, eq_sg]
section
variable {A0 A1 A2 x4 x5 x7 x8 x9 x10 x11 x12 x13 x14 : SV} {k : Nat}
theorem filt_turn {l ages : List Nat} (hl : l.length ≤ 100000) (hv : ∀ v ∈ l, v < 2 ^ 1000) (hk : k ≤ 1000) (ha : ages.length ≤ 1000) :
    b__law_known_1 [A0, A1, A2, .val (vecD l), x4, x5, .val (.int (k : Int)), x7, x8, x9, .val (agesD ages), x11, x12, x13, x14] =
      .ok (.nx [A0, A1, A2, .val (vecD (l.filter fun v => !par (v &&& mask k ages))), x4, x5, .val (.int (k : Int)), x7, x8, x9, .val (agesD ages), .val (.int (mask k ages : Nat)), x12, x13, x14]) := by
  have lc := masks_lc (γ := [A0, A1, A2, .val (vecD l), x4, x5, .val (.int (k : Int)), x7, x8, x9, .val (agesD ages), x11, .no, x13, x14]) (i := 12) (j := 6) (k := k) (ages := ages) hk ha (by simp) fun d => rfl
  have lf := lc_filt (γ := [A0, A1, A2, .val (vecD l), x4, x5, .val (.int (k : Int)), x7, x8, .no, .val (agesD ages), .val (.int (mask k ages : Nat)), x12, x13, x14]) (i := 9) (tt := mTru (mCall ma__law_even_2 (aCons (mVar 9) (aCons (mVar 11) aNil)))) (l := l) (p := fun v => !par (v &&& mask k ages)) (by simp) hl fun v hv' => by
    have e := even_r (v := v) (m := mask k ages) (hv v hv') (by omega)
    simp_arith [e]
  have it : asIt (.val (agesD ages)) = .ok (ages.map fun a : Nat => D.int (a : Int)) := rfl
  have it2 : asIt (.val (vecD l)) = .ok (List.map DL.D.int (intL l)) := rfl
  unfold b__law_known_1
  unfold vecD at *
  simp_arith [it, lc, mlist_sum, it2, lf]
theorem lfilt_cons {m : Nat} {ms l : List Nat} : lfilt (m :: ms) l = lfilt ms (l.filter fun v => !par (v &&& m)) := rfl
theorem filt_loop (hk : k ≤ 1000) : ∀ {sums : List (List Nat)} {l : List Nat} {x10 x11 : SV}, l.length ≤ 100000 → (∀ v ∈ l, v < 2 ^ 1000) → (∀ s ∈ sums, s.length ≤ 1000) → ∃ y10 y11,
    forD (gmName 10) (mCl [11] b__law_known_1) (sums.map agesD) [A0, A1, A2, .val (vecD l), x4, x5, .val (.int (k : Int)), x7, x8, x9, x10, x11, x12, x13, x14] =
      .ok (.nx [A0, A1, A2, .val (vecD (lfilt (sums.map (mask k)) l)), x4, x5, .val (.int (k : Int)), x7, x8, x9, y10, y11, x12, x13, x14])
  | [], l, x10, x11, _, _, _ => ⟨x10, x11, rfl⟩
  | a :: sums, l, x10, x11, hl, hv, ha => by
    have e := filt_turn (A0 := A0) (A1 := A1) (A2 := A2) (x4 := x4) (x5 := x5) (x7 := x7) (x8 := x8) (x9 := x9) (x11 := .no) (x12 := x12) (x13 := x13) (x14 := x14) hl hv hk (ha a (.head _))
    obtain ⟨y10, y11, ih⟩ := filt_loop hk (sums := sums) (l := l.filter fun v => !par (v &&& mask k a)) (x10 := .val (agesD a)) (x11 := .val (.int (mask k a : Nat))) (Nat.le_trans (List.length_filter_le _ _) hl) (fun v hv' => hv v (List.mem_filter.mp hv').1) fun s hs => ha s (.tail _ hs)
    refine ⟨y10, y11, ?_⟩
    rw [List.map_cons, List.map_cons, lfilt_cons, forD_name]
    show (b__law_known_1 [A0, A1, A2, .val (vecD l), x4, x5, .val (.int (k : Int)), x7, x8, x9, .val (agesD a), .no, x12, x13, x14]).bind _ = _
    rw [e, ok_bind, forK_nx, ih]
end
/-! one spot -/
def rowPD (p : Ph) : D := .tup [.bl p.1, .lst (p.2.map agesD)]
def plainD (ps : List Ph) : D := .lst (ps.map rowPD)
theorem ix_loss {ls : List Bool} {i : Nat} (h : i < ls.length) (hl : ls.length ≤ 1000) : gIx (.val (.str (lossT ls))) (.val (.int (i : Int))) = .ok (.val (.str (sgT (ls.getD i false)))) := by
  have e1 : atI (lossT ls).cps.toList (i : Int) = some (if ls.getD i false then 120 else 46) := by
    have l : (lossT ls).cps.toList = ls.map fun b => if b then 120 else 46 := rfl
    rw [l]
    unfold atI ixN
    rw [if_pos (by omega), if_pos (by rw [List.length_map]; omega), Int.toNat_natCast]
    show (ls.map fun b => if b then 120 else 46)[i]? = _
    rw [List.getElem?_map, List.getElem?_eq_getElem h, List.getD_eq_getElem?_getD, List.getElem?_eq_getElem h]
    rfl
  unfold gIx
  simp only [RV.d, e1, okV_eq]
  rw [if_pos (by rw [lossT_len]; omega)]
  rfl
theorem ix_plain {ps : List Ph} (hp : ps ≠ []) {n : Nat} : gIx (.val (plainD ps)) (.val (.int ((n % ps.length : Nat) : Int))) = .ok (.val (rowPD (mod_at ps hp n))) := by
  have h := Nat.mod_lt n (List.length_pos_iff.mpr hp)
  have e := gIx_at (ds := ps.map rowPD) (k := n % ps.length) (by rw [List.length_map]; exact h)
  rw [List.getElem_map] at e
  exact e
theorem len_plain {ps : List Ph} : gLenO T_len (.val (plainD ps)) = .ok (.val (.int (ps.length : Nat))) := by
  unfold plainD
  rw [gLenO_lst, gLen_lst, List.length_map]
def spot1 (k i : Nat) (row : Bool) (l : List Nat) (f : Nat → Option Nat) : Nat → Option Nat := if row = true ∧ f i = none ∧ l.filter (fun v => v.testBit i) = [] then updF f i (some k) else f
theorem bit_shift {v i : Nat} : (v / 2 ^ i).testBit 0 = v.testBit i := by rw [Nat.testBit_div_two_pow]; congr 1; omega
theorem empty_n {l : List Nat} : gEqO isT eqT (.val (vecD l)) (.val (.lst [])) = .ok (.val (.bl (decide (l = [])))) := by
  unfold vecD
  rw [gEqO_lst, gEqD_nil]
  congr 3
  rw [decide_eq_decide]
  cases l <;> simp [intL]
section
variable {x5 x7 x8 x9 x10 x11 x12 x14 : SV} {k : Nat}
theorem spot_turn {ps : List Ph} {b i L : Nat} {ls : List Bool} {l : List Nat} {f : Nat → Option Nat} (hp : ps ≠ []) (hps : ps.length ≤ 1000) (hi : i < ls.length) (hL : ls.length ≤ 900) (hl : l.length ≤ 100000) :
    ∃ y14, b__law_known_2 [.val (plainD ps), .val (.int (b : Int)), .val (.str (lossT ls)), .val (vecD l), .own (fdL ls.length f), x5, .val (.int (k : Int)), x7, x8, x9, x10, x11, x12, .val (.int (i : Int)), x14] =
      .ok (.nx [.val (plainD ps), .val (.int (b : Int)), .val (.str (lossT ls)), .val (vecD l), .own (fdL ls.length (spot1 k i (ls.getD i false && !(mod_at ps hp (b + i)).1) l f)), x5, .val (.int (k : Int)), x7, x8, x9, x10, x11, x12, .val (.int (i : Int)), y14]) := by
  have il := ix_loss hi (by omega)
  have es := eqO_sg (b := ls.getD i false)
  have c1 : (b : Int) + (i : Int) = ((b + i : Nat) : Int) := by omega
  have lp := len_plain (ps := ps)
  have mm := mod_n (a := b + i) (b := ps.length) (List.length_pos_iff.mpr hp) hps
  have ip := ix_plain hp (n := b + i)
  generalize mod_at ps hp (b + i) = p at *
  have i0 : gIx (.val (rowPD p)) (.val (.int 0)) = .ok (.val (.bl p.1)) := ix0_tup
  have i1 := gIx_at (ds := fdL ls.length f) (k := i) (by rw [fdL_len]; exact hi)
  rw [fdL_get hi] at i1
  have n1 := is_non (o := f i)
  have st : ∀ y14, ixsE 4 [.val (plainD ps), .val (.int (b : Int)), .val (.str (lossT ls)), .val (vecD l), .own (fdL ls.length f), x5, .val (.int (k : Int)), x7, x8, x9, x10, x11, x12, .val (.int (i : Int)), y14] (fdL ls.length f) (.int (k : Int)) (.val (.int (i : Nat))) = .ok (.nx [.val (plainD ps), .val (.int (b : Int)), .val (.str (lossT ls)), .val (vecD l), .own (fdL ls.length (updF f i (some k))), x5, .val (.int (k : Int)), x7, x8, x9, x10, x11, x12, .val (.int (i : Int)), y14]) := fun y14 => by
    rw [ixsE_at (by omega) (by rw [fdL_len]; omega), Int.toNat_natCast, fdL_set]
    rfl
  have lf : ∀ y14, lcD (gmName 9) (mB (mBin (gEqO isT eqT) (mBin gAnd (mBin gShr (mVar 9) (mVar 13)) (mC (.int 1))) (mC (.int 1)))) (mVar 9) [.val (plainD ps), .val (.int (b : Int)), .val (.str (lossT ls)), .val (vecD l), .own (fdL ls.length f), x5, .val (.int (k : Int)), x7, x8, .no, x10, x11, x12, .val (.int (i : Int)), y14] (List.map DL.D.int (intL l)) [] = .ok (List.map DL.D.int (intL (l.filter fun v => v.testBit i))) := fun y14 => by
    refine lc_filt (by simp) hl fun v hv => ?_
    have s1 := shr_n (a := v) (k := i)
    have a1 := and_n (a := v / 2 ^ i) (b := 1)
    have e1 := eq_one (n := v / 2 ^ i)
    rw [bit_shift] at e1
    rw [one_n] at *
    simp_arith [s1, a1, e1]
  have it2 : asIt (.val (vecD l)) = .ok (List.map DL.D.int (intL l)) := rfl
  have em := empty_n (l := l.filter fun v => v.testBit i)
  unfold vecD at em
  unfold b__law_known_2 spot1
  cases r : ls.getD i false with
  | false =>
    rw [r] at es il
    refine ⟨.val (.bl false), ?_⟩
    rw [if_neg (by simp)]
    generalize plainD ps = Y at *
    generalize vecD l = Z at *
    simp_arith [il, es]
  | true =>
    rw [r] at es il
    cases m : p.1 with
    | true =>
      rw [m] at i0
      refine ⟨.val (.bl false), ?_⟩
      rw [if_neg (by simp)]
      generalize plainD ps = Y at *
      generalize vecD l = Z at *
      simp_arith [il, es, c1, lp, mm, ip, i0]
    | false =>
      rw [m] at i0
      refine ⟨.val (.bl true), ?_⟩
      have st := st (.val (.bl true))
      have lf := lf (.val (.bl true))
      by_cases c2 : f i = none
      · rw [decide_eq_true c2] at n1
        by_cases c3 : l.filter (fun v => v.testBit i) = []
        · rw [decide_eq_true c3] at em
          rw [if_pos ⟨rfl, c2, c3⟩]
          generalize plainD ps = Y at *
          generalize vecD l = Z at *
          generalize fdL ls.length (updF f i (some k)) = W at *
          simp_arith [il, es, c1, lp, mm, ip, i0, ix_brw, i1, n1, it2, lf, em, mIxS_ap, ixsK_own, st]
          try rfl
        · rw [decide_eq_false c3] at em
          rw [if_neg fun z => c3 z.2.2]
          generalize plainD ps = Y at *
          generalize vecD l = Z at *
          simp_arith [il, es, c1, lp, mm, ip, i0, ix_brw, i1, n1, it2, lf, em]
          try rfl
      · rw [decide_eq_false c2] at n1
        rw [if_neg fun z => c2 z.2.1]
        generalize plainD ps = Y at *
        generalize vecD l = Z at *
        simp_arith [il, es, c1, lp, mm, ip, i0, ix_brw, i1, n1]
        try rfl
end
/-! the law's own look, whole -/
def rowOf (ph : Nat → Ph) (ls : List Bool) (i : Nat) : Bool := ls.getD i false && !(ph i).1
/-- the spots below N looked at -/
def lsp (N k : Nat) (row : Nat → Bool) (l : List Nat) (f : Nat → Option Nat) : Nat → Option Nat := fun s => if (s < N ∧ row s = true) ∧ f s = none ∧ l.filter (fun v => v.testBit s) = [] then some k else f s
theorem lsp_succ {N k : Nat} {row : Nat → Bool} {l : List Nat} {f : Nat → Option Nat} : spot1 k N (row N) l (lsp N k row l f) = lsp (N + 1) k row l f := by
  funext s
  unfold spot1 lsp
  have e : (if (N < N ∧ row N = true) ∧ f N = none ∧ l.filter (fun v => v.testBit N) = [] then some k else f N) = f N := if_neg fun z => absurd z.1.1 (Nat.lt_irrefl N)
  simp only [e]
  by_cases c : row N = true ∧ f N = none ∧ l.filter (fun v => v.testBit N) = []
  · rw [if_pos c]
    unfold updF
    by_cases es : s = N
    · subst es
      rw [if_pos rfl, if_pos ⟨⟨by omega, c.1⟩, c.2⟩]
    · rw [if_neg es]
      have q : (s < N) ↔ s < N + 1 := by omega
      simp only [q]
  · rw [if_neg c]
    by_cases es : s = N
    · subst es
      rw [if_neg fun z => absurd z.1.1 (Nat.lt_irrefl s), if_neg fun z => c ⟨z.1.2, z.2⟩]
    · have q : (s < N) ↔ s < N + 1 := by omega
      simp only [q]
theorem lsp_end {k : Nat} {row : Nat → Bool} {l : List Nat} {f : Nat → Option Nat} : lsp (k + 1) k row l f = lspot k row l f := by
  funext s
  unfold lsp lspot
  have q : (s < k + 1) ↔ s ≤ k := by omega
  simp only [q]
theorem lsp_zero {k : Nat} {row : Nat → Bool} {l : List Nat} {f : Nat → Option Nat} : lsp 0 k row l f = f := by
  funext s
  unfold lsp
  rw [if_neg fun z => absurd z.1.1 (Nat.not_lt_zero s)]
theorem rng_get {n k : Nat} {d : D} (h : (rngD 0 n)[k]? = some d) : d = .int (k : Int) ∧ k < n := by
  unfold rngD at h
  rw [List.getElem?_map] at h
  obtain ⟨j, h1, rfl⟩ := Option.map_eq_some_iff.mp h
  obtain ⟨h2, h3⟩ := List.getElem?_eq_some_iff.mp h1
  rw [List.length_range] at h2
  rw [List.getElem_range] at h3
  subst h3
  exact ⟨by show D.int (0 + (k : Int)) = _; rw [Int.zero_add], h2⟩
section
variable {x5 x7 x8 x9 x10 x11 x12 : SV} {k : Nat}
theorem spot_loop {ps : List Ph} {b : Nat} {ls : List Bool} {l : List Nat} {f : Nat → Option Nat} {x13 x14 : SV} (hp : ps ≠ []) (hps : ps.length ≤ 1000) (hk : k < ls.length) (hL : ls.length ≤ 900) (hl : l.length ≤ 100000) :
    ∃ y13 y14, forD (gmName 13) (mCl [14] b__law_known_2) (rngD 0 (k + 1)) [.val (plainD ps), .val (.int (b : Int)), .val (.str (lossT ls)), .val (vecD l), .own (fdL ls.length f), x5, .val (.int (k : Int)), x7, x8, x9, x10, x11, x12, x13, x14] =
      .ok (.nx [.val (plainD ps), .val (.int (b : Int)), .val (.str (lossT ls)), .val (vecD l), .own (fdL ls.length (lspot k (rowOf (fun i => mod_at ps hp (b + i)) ls) l f)), x5, .val (.int (k : Int)), x7, x8, x9, x10, x11, x12, y13, y14]) := by
  obtain ⟨γ2, e, y13, y14, rfl⟩ := for_detD (gm := gmName 13) (mb := mCl [14] b__law_known_2) (fun N γ => ∃ y13 y14, γ = [.val (plainD ps), .val (.int (b : Int)), .val (.str (lossT ls)), .val (vecD l), .own (fdL ls.length (lsp N k (rowOf (fun i => mod_at ps hp (b + i)) ls) l f)), x5, .val (.int (k : Int)), x7, x8, x9, x10, x11, x12, y13, y14])
    (ds := rngD 0 (k + 1)) (γ := [.val (plainD ps), .val (.int (b : Int)), .val (.str (lossT ls)), .val (vecD l), .own (fdL ls.length f), x5, .val (.int (k : Int)), x7, x8, x9, x10, x11, x12, x13, x14]) 0 ⟨_, _, by rw [lsp_zero]⟩ (by
      rintro i d γ hd ⟨y13, y14, rfl⟩
      obtain ⟨rfl, hi⟩ := rng_get hd
      rw [Nat.zero_add]
      obtain ⟨z, e⟩ := spot_turn (x5 := x5) (x7 := x7) (x8 := x8) (x9 := x9) (x10 := x10) (x11 := x11) (x12 := x12) (x14 := .no) (k := k) (b := b) (i := i) (L := 0) (ls := ls) (l := l) (f := lsp i k (rowOf (fun i => mod_at ps hp (b + i)) ls) l f) hp hps (by omega) hL hl
      refine ⟨_, _, rfl, e, .val (.int (i : Int)), z, ?_⟩
      have q : (ls.getD i false && !(mod_at ps hp (b + i)).1) = rowOf (fun i => mod_at ps hp (b + i)) ls i := rfl
      rw [q, lsp_succ])
  rw [rngD_len, Nat.zero_add, lsp_end] at e
  exact ⟨y13, y14, e⟩
/-- one turn -/
theorem lopen_len {k : Nat} {a b : Bool} {l : List Nat} : (lopen k a b l).length ≤ 2 * l.length := by
  unfold lopen
  split
  · rw [List.length_append, List.length_map]; omega
  · omega
theorem lfilt_len : ∀ {ms l : List Nat}, (lfilt ms l).length ≤ l.length
  | [], l => Nat.le_refl _
  | m :: ms, l => by
    rw [lfilt_cons]
    exact Nat.le_trans lfilt_len (List.length_filter_le _ _)
theorem lvec_len {k : Nat} {a b : Bool} {ms l : List Nat} : (lvec k a b ms l).length ≤ 2 * l.length := by
  unfold lvec
  split
  · exact lopen_len
  · exact Nat.le_trans lfilt_len lopen_len
theorem lc_or {γ : Gm} {l : List Nat} (hγ : 9 < γ.length) (hl : l.length ≤ 100000) (hk : k ≤ 1000) (h6 : ∀ d, (γ.set 9 (SV.val d))[6]? = some (.val (.int (k : Int)))) :
    lcD (gmName 9) tYesM (mBin gOr (mVar 9) (mBin gShl (mC (.int 1)) (mVar 6))) γ (List.map DL.D.int (intL l)) [] = .ok (List.map DL.D.int (intL (l.map (· ||| 2 ^ k)))) := by
  rw [lc_map (f := fun d => match d with | .int a => .int ((a.toNat ||| 2 ^ k : Nat) : Int) | d => d) (fun d hd => ?_) (by simp [intL]; omega)]
  · congr 1
    unfold intL
    rw [List.map_map, List.map_map, List.map_map, List.map_map]
    refine List.map_congr_left fun v _ => ?_
    show D.int (((v : Int).toNat ||| 2 ^ k : Nat) : Int) = D.int ((v ||| 2 ^ k : Nat) : Int)
    rw [Int.toNat_natCast]
  · obtain ⟨v, hv, rfl⟩ := mem_intL hd
    have h9 : (γ.set 9 (SV.val (.int (v : Int))))[9]? = some (.val (.int (v : Int))) := by rw [List.getElem?_set_self hγ]
    have h6 := h6 (.int (v : Int))
    have s1 := shl_one (k := k) hk
    have o1 := or_n (a := v) (b := 2 ^ k)
    refine ⟨_, rfl, ?_⟩
    show _ = DL.T.ok (RV.val (.int (((v : Int).toNat ||| 2 ^ k : Nat) : Int)))
    rw [Int.toNat_natCast]
    simp_arith [h9, h6, s1, o1]
theorem vec_app {a b : List Nat} : (List.map DL.D.int (intL a)) ++ (List.map DL.D.int (intL b)) = (List.map DL.D.int (intL (a ++ b))) := by unfold intL; simp
theorem look_turn {ps : List Ph} {b : Nat} {ls : List Bool} {l : List Nat} {f : Nat → Option Nat} (o : PlanOk ps) (hk : k < ls.length) (hL : ls.length ≤ 900) (hl : l.length ≤ 50000) (hv : ∀ v ∈ l, v < 2 ^ 1000) :
    ∃ y7 y8 y10 y11 y13 y14, b__law_known_3 [.val (plainD ps), .val (.int (b : Int)), .val (.str (lossT ls)), .val (vecD l), .own (fdL ls.length f), .val (.str (sgT (ls.getD k false))), .val (.int (k : Int)), .no, .no, x9, .no, .no, x12, .no, .no] =
      .ok (.nx [.val (plainD ps), .val (.int (b : Int)), .val (.str (lossT ls)), .val (vecD (lvec k (ls.getD k false) (mod_at ps o.ne (b + k)).1 ((mod_at ps o.ne (b + k)).2.map (mask k)) l)),
        .own (fdL ls.length (lspot k (rowOf (fun i => mod_at ps o.ne (b + i)) ls) (lvec k (ls.getD k false) (mod_at ps o.ne (b + k)).1 ((mod_at ps o.ne (b + k)).2.map (mask k)) l) (lfd1 k (ls.getD k false) (mod_at ps o.ne (b + k)).1 f))),
        .val (.str (sgT (ls.getD k false))), .val (.int (k : Int)), y7, y8, x9, y10, y11, x12, y13, y14]) := by
  have hp := o.ne
  have hps : ps.length ≤ 1000 := by have := o.le; omega
  have sm := o.sums _ (mod_mem (h := o.ne) (n := b + k))
  have ex := eqO_sg (b := ls.getD k false)
  have en := neg_sg (b := ls.getD k false)
  have c1 : (b : Int) + (k : Int) = ((b + k : Nat) : Int) := by omega
  have c2 : (k : Int) + 1 = ((k + 1 : Nat) : Int) := by omega
  have lp := len_plain (ps := ps)
  have mm := mod_n (a := b + k) (b := ps.length) (List.length_pos_iff.mpr hp) hps
  have ip := ix_plain hp (n := b + k)
  have rg := rng1K_int (n := ((k + 1 : Nat) : Int)) (by omega) (by omega)
  rw [Int.toNat_natCast] at rg
  have ll := lvec_len (k := k) (a := ls.getD k false) (b := (mod_at ps o.ne (b + k)).1) (ms := (mod_at ps o.ne (b + k)).2.map (mask k)) (l := l)
  have sl := fun x5 x7 x8 x10 x11 f => spot_loop (x5 := x5) (x7 := x7) (x8 := x8) (x9 := x9) (x10 := x10) (x11 := x11) (x12 := x12) (x13 := .no) (x14 := .no) (k := k) (ps := ps) (b := b) (ls := ls) (l := lvec k (ls.getD k false) (mod_at ps o.ne (b + k)).1 ((mod_at ps o.ne (b + k)).2.map (mask k)) l) (f := f) hp hps hk hL (by omega)
  have st : ∀ x5 x7 x8, ixsE 4 [.val (plainD ps), .val (.int (b : Int)), .val (.str (lossT ls)), .val (vecD l), .own (fdL ls.length f), x5, .val (.int (k : Int)), x7, x8, x9, .no, .no, x12, .no, .no] (fdL ls.length f) (.int (k : Int)) (.val (.int (k : Nat))) = .ok (.nx [.val (plainD ps), .val (.int (b : Int)), .val (.str (lossT ls)), .val (vecD l), .own (fdL ls.length (updF f k (some k))), x5, .val (.int (k : Int)), x7, x8, x9, .no, .no, x12, .no, .no]) := fun x5 x7 x8 => by
    rw [ixsE_at (by omega) (by rw [fdL_len]; omega), Int.toNat_natCast, fdL_set]
    rfl
  have it2 : asIt (.val (vecD l)) = .ok (List.map DL.D.int (intL l)) := rfl
  generalize rowOf (fun i => mod_at ps o.ne (b + i)) ls = row at *
  generalize mod_at ps o.ne (b + k) = p at *
  obtain ⟨m, sums⟩ := p
  have as : gmTup 2 (gmCons (gmName 7) (gmCons (gmName 8) gmNil)) (rowPD (m, sums)) [.val (plainD ps), .val (.int (b : Int)), .val (.str (lossT ls)), .val (vecD l), .own (fdL ls.length f), .val (.str (sgT (ls.getD k false))), .val (.int (k : Int)), .no, .no, x9, .no, .no, x12, .no, .no] = some [.val (plainD ps), .val (.int (b : Int)), .val (.str (lossT ls)), .val (vecD l), .own (fdL ls.length f), .val (.str (sgT (ls.getD k false))), .val (.int (k : Int)), .val (.bl m), .val (.lst (sums.map agesD)), x9, .no, .no, x12, .no, .no] := rfl
  unfold b__law_known_3
  cases z : ls.getD k false with
  | true =>
    rw [z] at ex en ll sl as
    cases m with
    | true =>
      have lv : lvec k true true (sums.map (mask k)) l = l := rfl
      have lf : lfd1 k true true f = f := rfl
      rw [lv] at sl
      obtain ⟨y13, y14, sl⟩ := sl (.val (.str (sgT true))) (.val (.bl true)) (.val (.lst (sums.map agesD))) .no .no f
      refine ⟨.val (.bl true), .val (.lst (sums.map agesD)), .no, .no, y13, y14, ?_⟩
      show _ = DL.T.ok (Fl.nx [_, _, _, .val (vecD l), .own (fdL ls.length (lspot k row l f)), _, _, _, _, _, _, _, _, _, _])
      generalize plainD ps = Y at *
      generalize vecD l = Z at *
      generalize rowPD (true, sums) = R at *
      simp_arith [c1, lp, mm, ip, as, ex, en, c2, iRng1_bd, rg, sl]
      try rfl
    | false =>
      have lv : lvec k true false (sums.map (mask k)) l = l ++ l.map (· ||| 2 ^ k) := rfl
      rw [lv] at sl ll
      obtain ⟨y13, y14, sl⟩ := sl (.val (.str (sgT true))) (.val (.bl false)) (.val (.lst (sums.map agesD))) .no .no f
      have lo := lc_or (k := k) (γ := [.val (plainD ps), .val (.int (b : Int)), .val (.str (lossT ls)), .val (vecD l), .own (fdL ls.length f), .val (.str (sgT true)), .val (.int (k : Int)), .val (.bl false), .val (.lst (sums.map agesD)), .no, .no, .no, x12, .no, .no]) (l := l) (by simp) (by omega) (by omega) fun d => rfl
      have ga : gAdd (.val (vecD l)) (.val (.lst (List.map DL.D.int (intL (l.map (· ||| 2 ^ k)))))) = .ok (.val (vecD (l ++ l.map (· ||| 2 ^ k)))) := by
        unfold vecD
        rw [gAdd_lD (by simp [intL]; omega), vec_app]
      refine ⟨.val (.bl false), .val (.lst (sums.map agesD)), .no, .no, y13, y14, ?_⟩
      show _ = DL.T.ok (Fl.nx [_, _, _, .val (vecD (l ++ l.map (· ||| 2 ^ k))), .own (fdL ls.length (lspot k row (l ++ l.map (· ||| 2 ^ k)) f)), _, _, _, _, _, _, _, _, _, _])
      generalize plainD ps = Y at *
      generalize vecD l = Z at *
      generalize vecD (l ++ l.map (· ||| 2 ^ k)) = Z2 at *
      generalize rowPD (false, sums) = R at *
      simp_arith [c1, lp, mm, ip, as, ex, en, c2, it2, lo, ga, iRng1_bd, rg, sl]
      try rfl
  | false =>
    rw [z] at ex en ll sl as
    have lv : lvec k false m (sums.map (mask k)) l = lfilt (sums.map (mask k)) l := by cases m <;> rfl
    rw [lv] at sl ll
    rw [lv]
    obtain ⟨y10, y11, fl⟩ := filt_loop (k := k) (A0 := .val (plainD ps)) (A1 := .val (.int (b : Int))) (A2 := .val (.str (lossT ls))) (x4 := .own (fdL ls.length (lfd1 k false m f))) (x5 := .val (.str (sgT false))) (x7 := .val (.bl m)) (x8 := .val (.lst (sums.map agesD))) (x9 := x9) (x12 := x12) (x13 := .no) (x14 := .no) (by omega) (sums := sums) (l := l) (x10 := .no) (x11 := .no) (by omega) hv fun s hs => by have := sm.2 s hs; omega
    obtain ⟨y13, y14, sl⟩ := sl (.val (.str (sgT false))) (.val (.bl m)) (.val (.lst (sums.map agesD))) y10 y11 (lfd1 k false m f)
    refine ⟨.val (.bl m), .val (.lst (sums.map agesD)), y10, y11, y13, y14, ?_⟩
    cases m with
    | true =>
      have lf : lfd1 k false true f = f := rfl
      rw [lf] at fl sl ⊢
      generalize plainD ps = Y at *
      generalize vecD l = Z at *
      generalize vecD (lfilt (sums.map (mask k)) l) = Z2 at *
      generalize rowPD (true, sums) = R at *
      simp_arith [c1, lp, mm, ip, as, ex, en, c2, fl, iRng1_bd, rg, sl]
      try rfl
    | false =>
      have lf : lfd1 k false false f = updF f k (some k) := rfl
      rw [lf] at fl sl ⊢
      generalize plainD ps = Y at *
      generalize vecD l = Z at *
      generalize vecD (lfilt (sums.map (mask k)) l) = Z2 at *
      generalize rowPD (false, sums) = R at *
      simp_arith [c1, lp, mm, ip, as, ex, en, c2, mIxS_ap, ixsK_own, st, fl, iRng1_bd, rg, sl]
      try rfl
end
/-! both looks tell the same -/
def lrun (ph : Nat → Ph) (ls : List Bool) : Nat → List Nat × (Nat → Option Nat)
  | 0 => ([0], fun _ => none)
  | k + 1 => (lvec k (ls.getD k false) (ph k).1 ((ph k).2.map (mask k)) (lrun ph ls k).1,
      lspot k (rowOf ph ls) (lvec k (ls.getD k false) (ph k).1 ((ph k).2.map (mask k)) (lrun ph ls k).1) (lfd1 k (ls.getD k false) (ph k).1 (lrun ph ls k).2))
theorem lfilt_eq : ∀ {ms l : List Nat}, lfilt ms l = l.filter fun v => ms.all fun m => !par (v &&& m)
  | [], l => by
    show l = _
    exact (List.filter_eq_self.mpr fun _ _ => rfl).symm
  | m :: ms, l => by
    rw [lfilt_cons, lfilt_eq, List.filter_filter]
    congr 1
    funext v
    rw [List.all_cons, Bool.and_comm]
theorem lfilt_perm {ms ns l : List Nat} (h : ∀ m, m ∈ ms ↔ m ∈ ns) : lfilt ms l = lfilt ns l := by
  rw [lfilt_eq, lfilt_eq]
  congr 1
  funext v
  rw [Bool.eq_iff_iff, List.all_eq_true, List.all_eq_true]
  exact ⟨fun z m hm => z m ((h m).mpr hm), fun z m hm => z m ((h m).mp hm)⟩
theorem lvec_perm {k : Nat} {a b : Bool} {ms ns l : List Nat} (h : ∀ m, m ∈ ms ↔ m ∈ ns) : lvec k a b ms l = lvec k a b ns l := by
  unfold lvec
  rw [lfilt_perm h]
theorem both {php phq : Nat → Ph} {ls : List Bool} (hm : ∀ k, (php k).1 = (phq k).1) (hs : ∀ k a, a ∈ (php k).2 ↔ a ∈ (phq k).2) : ∀ k, Ok k (rowOf php ls) (runN phq ls k) (lrun php ls k).1 ∧ (runN phq ls k).fd = (lrun php ls k).2
  | 0 => by
    refine ⟨⟨Red.nil, fun b (hb : b ∈ []) => (nomatch hb), fun i => ?_, fun v => ?_, fun i (hi : 2 ^ i ∈ []) => (nomatch hi)⟩, rfl⟩
    · show Nat.testBit 0 i = _
      rw [Nat.zero_testBit, decide_eq_false (Nat.not_lt_zero i)]
      rfl
    · show v ∈ [0] ↔ Bits v 0 ∧ Evs [] v
      rw [List.mem_singleton]
      constructor
      · rintro rfl
        exact ⟨bits_zero, fun b hb => by cases hb⟩
      · rintro ⟨h, _⟩
        apply Nat.eq_of_testBit_eq
        intro i
        rw [Nat.zero_testBit]
        apply Bool.eq_false_iff.mpr
        intro z
        have := h i z
        rw [Nat.zero_testBit] at this
        cases this
  | k + 1 => by
    obtain ⟨o, e⟩ := both (ls := ls) hm hs k
    have p : lvec k (ls.getD k false) (php k).1 ((php k).2.map (mask k)) (lrun php ls k).1 = lvec k (ls.getD k false) (phq k).1 ((phq k).2.map (mask k)) (lrun php ls k).1 := by
      rw [hm k]
      refine lvec_perm fun m => ?_
      rw [List.mem_map, List.mem_map]
      exact ⟨fun ⟨a, h, e⟩ => ⟨a, (hs k a).mp h, e⟩, fun ⟨a, h, e⟩ => ⟨a, (hs k a).mpr h, e⟩⟩
    obtain ⟨e2, o2⟩ := ok_turn (lost := ls.getD k false) (mute := (phq k).1) (ms := (phq k).2.map (mask k)) o (by unfold rowOf; rw [hm k])
    rw [← p] at e2 o2
    refine ⟨o2, ?_⟩
    show (turn k (ls.getD k false) (phq k).1 ((phq k).2.map (mask k)) (runN phq ls k)).fd = _
    rw [e2, e]
    show lspot k (rowOf php ls) _ (lfd1 k (ls.getD k false) (phq k).1 _) = lspot k (rowOf php ls) _ (lfd1 k (ls.getD k false) (php k).1 _)
    rw [hm k]
theorem lrun_len {ph : Nat → Ph} {ls : List Bool} : ∀ k, (lrun ph ls k).1.length ≤ 2 ^ k
  | 0 => Nat.le_refl _
  | k + 1 => by
    have := lrun_len (ph := ph) (ls := ls) k
    have l := lvec_len (k := k) (a := ls.getD k false) (b := (ph k).1) (ms := (ph k).2.map (mask k)) (l := (lrun ph ls k).1)
    rw [Nat.pow_succ]
    exact Nat.le_trans l (by omega)
theorem bits_lt {v op k : Nat} (h : Bits v op) (ho : op < 2 ^ k) : v < 2 ^ k := by
  apply Nat.lt_pow_two_of_testBit
  intro i hi
  apply Bool.eq_false_iff.mpr
  intro z
  have := bit_lt ho (h i z)
  omega
theorem look_r {ps : List Ph} (o : PlanOk ps) {b : Nat} {ls : List Bool} (hl : ls.length ≤ 10) : ma__law_known_3 [plainD ps, .int (b : Int), .str (lossT ls)] = .ok (.tup (fdL ls.length (lrun (fun i => mod_at ps o.ne (b + i)) ls ls.length).2)) := by
  have as := asIt_s (s := lossT ls)
  have lc : ∀ γ : Gm, lcD (gmName 5) tYesM (mC .non) γ (strDs (lossT ls)) [] = .ok (fdL ls.length fun _ => none) := fun γ => by
    rw [lc_map (gm := gmName 5) (te := mC .non) (f := fun _ => .non) (fun d _ => ⟨_, rfl, rfl⟩) (by rw [strDs_loss]; simp; omega), none_fdL rfl, strDs_loss, List.length_map]
  obtain ⟨γ2, e, x5, x6, y7, y8, x9, y10, y11, x12, y13, y14, rfl⟩ := for_detD (gm := gmTup 2 (gmCons (gmName 6) (gmCons (gmName 5) gmNil))) (mb := mCl [7, 8, 10, 11, 13, 14] b__law_known_3)
    (fun N γ => ∃ x5 x6 y7 y8 x9 y10 y11 x12 y13 y14, γ = [.val (plainD ps), .val (.int (b : Int)), .val (.str (lossT ls)), .val (vecD (lrun (fun i => mod_at ps o.ne (b + i)) ls N).1), .own (fdL ls.length (lrun (fun i => mod_at ps o.ne (b + i)) ls N).2), x5, x6, y7, y8, x9, y10, y11, x12, y13, y14])
    (ds := enumD (strDs (lossT ls))) (γ := [.val (plainD ps), .val (.int (b : Int)), .val (.str (lossT ls)), .val (.lst [.int 0]), .own (fdL ls.length fun _ => none), .no, .no, .no, .no, .no, .no, .no, .no, .no, .no]) 0 ⟨_, _, _, _, _, _, _, _, _, _, rfl⟩ (by
      rintro k d γ hd ⟨x5, x6, y7, y8, x9, y10, y11, x12, y13, y14, rfl⟩
      obtain ⟨x, hx, rfl⟩ := enumD_get hd
      obtain ⟨rfl, hk⟩ := sign_at hx
      rw [Nat.zero_add]
      have ll := lrun_len (ph := fun i => mod_at ps o.ne (b + i)) (ls := ls) k
      have p10 : 2 ^ k ≤ 2 ^ 10 := Nat.pow_le_pow_right (by omega) (by omega)
      have pk := run_pk o (b := b) (ls := ls) (k := k) (by omega)
      obtain ⟨ok, _⟩ := both (php := fun i => mod_at ps o.ne (b + i)) (phq := fun i => mod_at ps o.ne (b + i)) (ls := ls) (fun _ => rfl) (fun _ _ => Iff.rfl) k
      obtain ⟨z7, z8, z10, z11, z13, z14, e⟩ := look_turn (x9 := x9) (x12 := x12) (k := k) (b := b) (ls := ls) (l := (lrun (fun i => mod_at ps o.ne (b + i)) ls k).1) (f := (lrun (fun i => mod_at ps o.ne (b + i)) ls k).2) o hk (by omega) (by omega) fun v hv => Nat.lt_of_lt_of_le (bits_lt ((ok.mem v).mp hv).1 pk.op) (pow_le1000 (by omega))
      exact ⟨_, _, rfl, e, _, _, _, _, _, _, _, _, _, _, rfl⟩)
  have en := enumKS_str (z := lossT ls)
  rw [enumD_len, strDs_loss, List.length_map, Nat.zero_add] at e
  rw [← strDs_loss] at e
  unfold ma__law_known_3 r__law_known m__law_known st__law_known_1 st__law_known_2 st__law_known_3
  generalize plainD ps = Y at *
  simp_arith [as, lc, iEnumS_ap, en, e]
/-! what is known behind one slot more -/
theorem fdL_eq {L : Nat} {f g : Nat → Option Nat} (h : f = g) : fdL L f = fdL L g := by rw [h]
/-- the package's phases stand for the drawn rows -/
structure Like (ps qs : List Ph) : Prop where
  len : ps.length = qs.length
  at_ : ∀ (i : Nat) (h1 : i < ps.length) (h2 : i < qs.length), ps[i].1 = qs[i].1 ∧ ∀ a, a ∈ ps[i].2 ↔ a ∈ qs[i].2
theorem Like.mod {ps qs : List Ph} (h : Like ps qs) {hp : ps ≠ []} {hq : qs ≠ []} (n : Nat) : (mod_at ps hp n).1 = (mod_at qs hq n).1 ∧ ∀ a, a ∈ (mod_at ps hp n).2 ↔ a ∈ (mod_at qs hq n).2 := by
  unfold mod_at
  have l := h.len
  have h1 := Nat.mod_lt n (List.length_pos_iff.mpr hp)
  have := h.at_ (n % ps.length) h1 (by omega)
  simp only [← l]
  exact this
theorem due_eq {ps qs : List Ph} (h : Like ps qs) (o : PlanOk ps) (oq : PlanOk qs) {b : Nat} {ls : List Bool} : dueL qs oq b ls = fdL ls.length (lrun (fun i => mod_at ps o.ne (b + i)) ls ls.length).2 :=
  fdL_eq (both (fun k => (h.mod (hp := o.ne) (hq := oq.ne) (b + k)).1) (fun k => (h.mod (hp := o.ne) (hq := oq.ne) (b + k)).2) ls.length).2
theorem run_ext {ph : Nat → Ph} {ls : List Bool} {x : Bool} : ∀ {k : Nat}, k ≤ ls.length → runN ph (ls ++ [x]) k = runN ph ls k
  | 0, _ => rfl
  | k + 1, h => by
    have e : (ls ++ [x]).getD k false = ls.getD k false := by
      rw [List.getD_eq_getElem?_getD, List.getD_eq_getElem?_getD, List.getElem?_append_left (by omega)]
    show turn k ((ls ++ [x]).getD k false) _ _ (runN ph (ls ++ [x]) k) = turn k (ls.getD k false) _ _ (runN ph ls k)
    rw [e, run_ext (by omega)]
theorem more_keeps {ph : Nat → Ph} {ls : List Bool} {x : Bool} {i a : Nat} (hi : i < ls.length) (h : (runN ph ls ls.length).fd i = some a) : (runN ph (ls ++ [x]) (ls.length + 1)).fd i = some a := by
  show (turn ls.length _ _ _ (runN ph (ls ++ [x]) ls.length)).fd i = some a
  refine turn_keeps ?_ (by omega)
  rw [run_ext (Nat.le_refl _)]
  exact h
/-! phases made; the law's end -/
def PK : List (List Nat) := [[1], [2], [1, 2], [3], [2, 3], [4], [1, 4], [1, 2, 3]]
def PK2 : List (List (List Nat)) := [] :: PK.map (fun a => [a]) ++ (PK.map fun a => (PK.filter fun b => decide (a ≠ b)).map fun b => [a, b]).flatten
def isA (p : Ph) : Bool := match ma__law_phase_1 [rowPD p] with
  | .ok d => D.eqb d (phD p)
  | _ => false
def phi (p : Ph) : Ph := if isA p then p else (p.1, p.2.reverse)
def okP (p : Ph) : Bool := match ma__law_phase_1 [rowPD p] with
  | .ok d => D.eqb d (phD p) || D.eqb d (phD (p.1, p.2.reverse))
  | _ => false
theorem phases_all : (PK2.all fun s => okP (true, s) && okP (false, s)) = true := by decide +kernel
theorem phase_r {m : Bool} {s : List (List Nat)} (h : s ∈ PK2) : ma__law_phase_1 [rowPD (m, s)] = .ok (phD (phi (m, s))) := by
  have a := List.all_eq_true.mp phases_all s h
  rw [Bool.and_eq_true] at a
  have o : okP (m, s) = true := by cases m; exact a.2; exact a.1
  unfold okP at o
  unfold phi isA
  generalize ma__law_phase_1 [rowPD (m, s)] = t at *
  cases t with
  | ok d =>
    simp only at o ⊢
    by_cases c : D.eqb d (phD (m, s)) = true
    · rw [if_pos c]
      rw [D.eqb_ok c]
    · rw [if_neg c]
      rw [Bool.or_eq_true] at o
      rcases o with o | o
      · exact absurd o c
      · rw [D.eqb_ok o]
  | exc e => cases o
  | stuck => cases o
  | draw n k => cases o
theorem phi_mem {p : Ph} : (phi p).1 = p.1 ∧ (phi p).2.length = p.2.length ∧ ∀ a, a ∈ (phi p).2 ↔ a ∈ p.2 := by
  unfold phi
  split
  · exact ⟨rfl, rfl, fun a => Iff.rfl⟩
  · exact ⟨rfl, List.length_reverse, fun a => List.mem_reverse⟩
theorem fd_last {k : Nat} {ms : List Nat} {s : GV.St} : (turn k false false ms s).fd k = some k := by
  show hear k _ (updF s.fd k (some k)) k = _
  unfold hear updF
  rw [if_neg (by simp), if_pos rfl]
def far : List Bool := true :: List.replicate 399 false
theorem far_len : far.length = 400 := by unfold far; rw [List.length_cons, List.length_replicate]
def one1 : List Ph := [(false, [[1]])]
theorem one1_ok : PlanOk one1 := ⟨by simp [one1], by simp [one1], fun p hp => by
  have : p = (false, [[1]]) := by simpa [one1] using hp
  subst this
  exact ⟨by simp, fun a ha => by
    have : a = [1] := by simpa using ha
    subst this
    simp⟩⟩
theorem copies_one : ma_Plan_copies_star [.cls 6, .int 1] = .ok (planD one1) := by kernel_rfl
theorem far_mul : gMulA (.val (.str ".")) (.val (.int 399)) = .ok (.val (.str (lossT (List.replicate 399 false)))) := by kernel_rfl
theorem far_add : gAdd (.val (.str "x")) (.val (.str (lossT (List.replicate 399 false)))) = .ok (.val (.str (lossT far))) := by kernel_rfl
theorem far_bit : far.getD 399 false = false := by decide +kernel
theorem law_end2 : st_law_2 [.no, .no, .no, .no, .no, .no, .no, .no, .no, .no, .no, .no, .no] = .ok (.nx [.no, .no, .no, .no, .no, .no, .no, .no, .no, .no, .no, .no, .no]) := by
  have c := copies_one
  have m := far_mul
  have a := far_add
  have k := known_r one1_ok (b := 0) (ls := far) (by decide) (by rw [far_len]; omega)
  have i := ix_tupAt (ds := dueL one1 one1_ok 0 far) (k := 399) (by unfold dueL; rw [fdL_len, far_len]; omega)
  have g : (dueL one1 one1_ok 0 far)[399]'(by unfold dueL; rw [fdL_len, far_len]; omega) = .int 399 := by
    unfold dueL
    rw [fdL_get (by rw [far_len]; omega)]
    have e : (runN (fun k => mod_at one1 one1_ok.ne (0 + k)) far far.length).fd 399 = some 399 := by
      rw [far_len]
      show (turn 399 (far.getD 399 false) _ _ _).fd 399 = _
      rw [far_bit]
      have z : (mod_at one1 one1_ok.ne (0 + 399)).1 = false := rfl
      rw [z]
      exact fd_last
    rw [e]
    rfl
  rw [g] at i
  have z0 : ((0 : Nat) : Int) = 0 := rfl
  have z9 : ((399 : Nat) : Int) = 399 := rfl
  rw [z0] at k
  rw [z9] at i
  have n : gNeO isT eqT (.val (.int 399)) (.val (.int 399)) = .ok (.val (.bl false)) := rfl
  unfold st_law_2
  clear g
  generalize planD one1 = Y at *
  generalize dueL one1 one1_ok 0 far = Z at *
  generalize lossT far = W at *
  generalize lossT (List.replicate 399 false) = V at *
  simp_arith [c, m, a, k, i, n]
theorem law_end3 : st_law_3 [.no, .no, .no, .no, .no, .no, .no, .no, .no, .no, .no, .no, .no] = .ok (.nx [.no, .no, .no, .no, .no, .no, .no, .no, .no, .no, .no, .no, .no]) := by kernel_rfl
theorem law_end4 : st_law_4 [.no, .no, .no, .no, .no, .no, .no, .no, .no, .no, .no, .no, .no] = .ok (.rt (.bl true)) := by kernel_rfl
/-! plans made -/
theorem isi_phase {p : Ph} : gIsi isT (.val (phD p)) (.val (.cls 5)) = .ok (.val (.bl true)) := rfl
theorem is_loop {S A : SV} {x4 x5 : SV} : ∀ {qs : List Ph} {i : Nat} {x2 x3 : SV}, ∃ y2 y3, forD (gmTup 2 (gmCons (gmName 2) (gmCons (gmName 3) gmNil))) b_Planu__initu__1 ((qs.map phD).mapIdx fun j d => .tup [.int ((j + i : Nat) : Int), d]) [S, A, x2, x3, x4, x5] = .ok (.nx [S, A, y2, y3, x4, x5])
  | [], i, x2, x3 => ⟨x2, x3, rfl⟩
  | q :: qs, i, x2, x3 => by
    obtain ⟨y2, y3, ih⟩ := is_loop (S := S) (A := A) (x4 := x4) (x5 := x5) (qs := qs) (i := i + 1) (x2 := .val (.int ((0 + i : Nat) : Int))) (x3 := .val (phD q))
    refine ⟨y2, y3, ?_⟩
    rw [List.map_cons, List.mapIdx_cons, forD_t2]
    have e : (fun (j : Nat) (d : D) => D.tup [.int ((j + 1 + i : Nat) : Int), d]) = fun (j : Nat) (d : D) => D.tup [.int ((j + (i + 1) : Nat) : Int), d] := by
      funext j d
      rw [show j + 1 + i = j + (i + 1) by omega]
    rw [e]
    have is := isi_phase (p := q)
    have b : b_Planu__initu__1 [S, A, .val (.int ((0 + i : Nat) : Int)), .val (phD q), x4, x5] = .ok (.nx [S, A, .val (.int ((0 + i : Nat) : Int)), .val (phD q), x4, x5]) := by
      unfold b_Planu__initu__1
      generalize phD q = Q at *
      simp_arith [is]
    show (b_Planu__initu__1 [S, A, .val (.int ((0 + i : Nat) : Int)), .val (phD q), x4, x5]).bind _ = _
    rw [b, ok_bind, forK_nx, ih]
/-- the phase age slots ahead -/
def back (qs : List Ph) (i a : Nat) : Bool := (qs.getD (((i : Int) - a) % (qs.length : Int)).toNat (false, [])).1
theorem ix_mod {qs : List Ph} (hq : qs ≠ []) (hl : qs.length ≤ 1000) {i a : Nat} : ∃ n : Int, gMod (.val (.int ((i : Int) - (a : Int)))) (.val (.int (qs.length : Nat))) = .ok (.val (.int n)) ∧ ∃ p : Ph, gIx (.val (.tup (qs.map phD))) (.val (.int n)) = .ok (.val (phD p)) ∧ p.1 = back qs i a := by
  have l := List.length_pos_iff.mpr hq
  have h0 := Int.emod_nonneg ((i : Int) - (a : Int)) (show (qs.length : Int) ≠ 0 by omega)
  have h1 := Int.emod_lt_of_pos ((i : Int) - (a : Int)) (show (0 : Int) < (qs.length : Int) by omega)
  refine ⟨((i : Int) - (a : Int)) % (qs.length : Int), gMod_int (by omega), qs[(((i : Int) - a) % (qs.length : Int)).toNat]'(by omega), ?_, ?_⟩
  · have e := ix_tupAt (ds := qs.map phD) (k := (((i : Int) - a) % (qs.length : Int)).toNat) (by rw [List.length_map]; omega)
    rw [List.getElem_map, Int.toNat_of_nonneg h0] at e
    exact e
  · unfold back
    rw [List.getD_eq_getElem?_getD, List.getElem?_eq_getElem (by omega)]
    rfl
theorem ages_lc {S : SV} {i : Nat} {qs : List Ph} {x3 x4 : SV} (hq : qs ≠ []) (hl : qs.length ≤ 1000) : ∀ {ages : List Nat} {acc : List D}, (∀ a ∈ ages, back qs i a = false) → ages.length + acc.length ≤ 1000 →
    lcD (gmName 5) tYesM (mUn (gFld [5] "mute") (mBin gIx (mVar 1) (mBin gMod (mUn gInt (mBin gSub (mVar 2) (mVar 5))) (mUn gLen (mVar 1))))) [S, .val (.tup (qs.map phD)), .val (.int (i : Int)), x3, x4, .no] (ages.map fun a : Nat => D.int (a : Int)) acc = .ok (acc ++ List.replicate ages.length (.bl false))
  | [], acc, _, _ => by
    show DL.T.ok acc = _
    rw [List.length_nil, List.replicate_zero, List.append_nil]
  | a :: ages, acc, h, hn => by
    rw [List.length_cons] at hn
    obtain ⟨n, e1, p, e2, e3⟩ := ix_mod (qs := qs) (i := i) (a := a) hq hl
    rw [h a (.head _)] at e3
    have f := fld_mute (p := p)
    rw [e3] at f
    have ih := ages_lc (S := S) (i := i) (qs := qs) (x3 := x3) (x4 := x4) hq hl (ages := ages) (acc := acc ++ [.bl false]) (fun b hb => h b (.tail _ hb)) (by rw [List.length_append, List.length_singleton]; omega)
    rw [List.map_cons, lcD_name]
    generalize lcD (gmName 5) tYesM (mUn (gFld [5] "mute") (mBin gIx (mVar 1) (mBin gMod (mUn gInt (mBin gSub (mVar 2) (mVar 5))) (mUn gLen (mVar 1))))) = LC at *
    have hs : ([S, .val (.tup (qs.map phD)), .val (.int (i : Int)), x3, x4, .no] : Gm).set 5 (.val (.int (a : Int))) = [S, .val (.tup (qs.map phD)), .val (.int (i : Int)), x3, x4, .val (.int (a : Int))] := rfl
    rw [hs]
    simp_arith [e1, e2, f]
    rw [ih, List.append_assoc]
    rfl
theorem sums_lc {S : SV} {i : Nat} {qs : List Ph} {x3 : SV} (hq : qs ≠ []) (hl : qs.length ≤ 1000) : ∀ {sums : List (List Nat)} {acc : List D}, (∀ s ∈ sums, ∀ a ∈ s, back qs i a = false) → (∀ s ∈ sums, s.length ≤ 4) → 4 * sums.length + acc.length ≤ 900 → ∃ n, n ≤ 4 * sums.length ∧
    lcD2 (gmName 4) tYesM (iAny (mVar 4)) (gmName 5) tYesM (mUn (gFld [5] "mute") (mBin gIx (mVar 1) (mBin gMod (mUn gInt (mBin gSub (mVar 2) (mVar 5))) (mUn gLen (mVar 1))))) [5] [S, .val (.tup (qs.map phD)), .val (.int (i : Int)), x3, .no, .no] (sums.map agesD) acc = .ok (acc ++ List.replicate n (.bl false))
  | [], acc, _, _, _ => ⟨0, by omega, by rw [List.replicate_zero, List.append_nil]; rfl⟩
  | s :: sums, acc, h, h4, hn => by
    rw [List.length_cons] at hn
    have l4 := h4 s (.head _)
    have e := ages_lc (S := S) (i := i) (qs := qs) (x3 := x3) (x4 := .val (agesD s)) hq hl (ages := s) (acc := acc) (h s (.head _)) (by omega)
    obtain ⟨n, hn2, ih⟩ := sums_lc (S := S) (i := i) (qs := qs) (x3 := x3) hq hl (sums := sums) (acc := acc ++ List.replicate s.length (.bl false)) (fun t ht => h t (.tail _ ht)) (fun t ht => h4 t (.tail _ ht)) (by rw [List.length_append, List.length_replicate]; omega)
    refine ⟨s.length + n, by rw [List.length_cons]; omega, ?_⟩
    show ((DL.T.ok (s.map fun a : Nat => D.int (a : Int)) : DL.T (List D)).bind fun es => (lcD (gmName 5) tYesM _ [S, .val (.tup (qs.map phD)), .val (.int (i : Int)), x3, .val (agesD s), .no] es acc).bind fun acc2 => lcD2 _ _ _ _ _ _ _ _ (sums.map agesD) acc2) = _
    rw [ok_bind, e, ok_bind, ih, List.append_assoc, List.replicate_append_replicate]
theorem any_no {n : Nat} : gAny (.val (.lst (List.replicate n (.bl false)))) = .ok (.val (.bl false)) := by
  have e : List.replicate n (D.bl false) = (List.replicate n false).map D.bl := by rw [List.map_replicate]
  show (match D.bls (List.replicate n (D.bl false)) with | some ns => okV (.bl (ns.any id)) | none => .stuck) = _
  rw [e, bls_map]
  show okV (.bl ((List.replicate n false).any id)) = _
  have a : (List.replicate n false).any id = false := by
    rw [List.any_eq_false]
    intro x hx
    rw [List.eq_of_mem_replicate hx]
    simp
  rw [a, okV_eq]
theorem mLc2_ap {mi mi1 : Gm → DL.T (List D)} {gm gm1 : D → Gm → Option Gm} {tt tt1 : Gm → DL.T Bool} {te : Gm → DL.T RV} {vs vs1 : List Nat} {γ : Gm} : mLc2 mi gm tt mi1 gm1 tt1 te vs vs1 γ = (mi γ).bind fun ds => (lcD2 gm tt mi1 gm1 tt1 te vs1 (wipeG γ vs) ds []).calm.bind fun zs => okV (.lst zs) := by
  unfold mLc2 fLc2
  rw [T.bind_assoc]
/-! the law's plan -/
structure QOk (qs : List Ph) : Prop where
  ne : qs ≠ []
  le : qs.length ≤ 3
  open_ : qs.all (·.1) = false
  sums : ∀ p ∈ qs, p.2.length ≤ 4 ∧ ∀ a ∈ p.2, a.length ≤ 4
  back : ∀ (i : Nat) (h : i < qs.length), ∀ s ∈ qs[i].2, ∀ a ∈ s, back qs i a = false
theorem QOk.plan {qs : List Ph} (h : QOk qs) : PlanOk qs := ⟨h.ne, h.le, h.sums⟩
theorem back_loop {S : SV} {qs : List Ph} (h : QOk qs) : ∀ {us : List Ph} {i : Nat} {x2 x3 : SV}, (∀ (j : Nat) (p : Ph), us[j]? = some p → qs[j + i]? = some p) → ∃ y2 y3, forD (gmTup 2 (gmCons (gmName 2) (gmCons (gmName 3) gmNil))) b_Planu__initu__2 ((us.map phD).mapIdx fun j d => .tup [.int ((j + i : Nat) : Int), d]) [S, .val (.tup (qs.map phD)), x2, x3, .no, .no] = .ok (.nx [S, .val (.tup (qs.map phD)), y2, y3, .no, .no])
  | [], i, x2, x3, _ => ⟨x2, x3, rfl⟩
  | q :: us, i, x2, x3, hu => by
    obtain ⟨y2, y3, ih⟩ := back_loop (S := S) h (us := us) (i := i + 1) (x2 := .val (.int ((0 + i : Nat) : Int))) (x3 := .val (phD q)) fun j p hj => by
      have := hu (j + 1) p (by simpa using hj)
      rwa [show j + 1 + i = j + (i + 1) by omega] at this
    refine ⟨y2, y3, ?_⟩
    rw [List.map_cons, List.mapIdx_cons, forD_t2]
    have e : (fun (j : Nat) (d : D) => D.tup [.int ((j + 1 + i : Nat) : Int), d]) = fun (j : Nat) (d : D) => D.tup [.int ((j + (i + 1) : Nat) : Int), d] := by
      funext j d
      rw [show j + 1 + i = j + (i + 1) by omega]
    rw [e]
    have hq : qs[0 + i]? = some q := hu 0 q rfl
    rw [Nat.zero_add] at hq ⊢
    obtain ⟨hi, hg⟩ := List.getElem?_eq_some_iff.mp hq
    have mem : q ∈ qs := by rw [← hg]; exact List.getElem_mem _
    have sm := h.sums q mem
    have bk := h.back i hi
    rw [hg] at bk
    obtain ⟨n, hn, lc⟩ := sums_lc (S := S) (i := i) (qs := qs) (x3 := .val (phD q)) h.ne (by have := h.le; omega) (sums := q.2) (acc := []) bk sm.2 (by have := sm.1; simp; omega)
    rw [List.nil_append] at lc
    have f := fld_sums (p := q)
    have it : asIt (.val (.tup (q.2.map agesD))) = .ok (q.2.map agesD) := rfl
    have an := any_no (n := n)
    have b : b_Planu__initu__2 [S, .val (.tup (qs.map phD)), .val (.int ((i : Nat) : Int)), .val (phD q), .no, .no] = .ok (.nx [S, .val (.tup (qs.map phD)), .val (.int ((i : Nat) : Int)), .val (phD q), .no, .no]) := by
      unfold b_Planu__initu__2
      generalize phD q = Q at *
      generalize List.replicate n (D.bl false) = R at *
      simp_arith [mLc2_ap, f, it, lc, an]
    show (b_Planu__initu__2 [S, .val (.tup (qs.map phD)), .val (.int ((i : Nat) : Int)), .val (phD q), .no, .no]).bind _ = _
    rw [b, ok_bind, forK_nx]
    rw [Nat.zero_add] at ih
    exact ih
theorem enum_phs {qs : List Ph} : enumK [.tup (qs.map phD)] = .ok ((qs.map phD).mapIdx fun j d => .tup [.int ((j + 0 : Nat) : Int), d]) := rfl
theorem init_r {qs : List Ph} (h : QOk qs) : ma_Planu__initu__star (qs.map phD) = .ok [("phases", .tup (qs.map phD))] := by
  have le := h.le
  have l := List.length_pos_iff.mpr h.ne
  obtain ⟨y2, y3, l1⟩ := is_loop (S := .obj 6 []) (A := .val (.tup (qs.map phD))) (x4 := .no) (x5 := .no) (qs := qs) (i := 0) (x2 := .no) (x3 := .no)
  obtain ⟨z2, z3, l2⟩ := back_loop (S := .obj 6 []) h (us := qs) (i := 0) (x2 := y2) (x3 := y3) fun j p hj => hj
  have en := enum_phs (qs := qs)
  have s1 := starM_ap (n := 0) (r := r_Planu__initu_) (ds := qs.map phD) (Nat.zero_le _) (by rw [List.length_map]; omega)
  have lc : lcD (gmName 3) tYesM (mUn (gFld [5] "mute") (mVar 3)) [.obj 6 [], .val (.tup (qs.map phD)), y2, .no, .no, .no] (qs.map phD) [] = .ok ((qs.map (·.1)).map D.bl) := by
    rw [lc_map (f := fun d => match gFld [5] "mute" (.val d) with | .ok (.val e) => e | _ => .non) (fun d hd => ?_) (by simp; omega)]
    · rw [List.map_map, List.map_map]
      rfl
    · obtain ⟨p, hp, rfl⟩ := List.mem_map.mp hd
      have f := fld_mute (p := p)
      refine ⟨_, rfl, ?_⟩
      show _ = DL.T.ok (RV.val (.bl p.1))
      generalize phD p = Q at *
      simp_arith [f]
  have al := all_bls (qs.map (·.1))
  have o : (qs.map (·.1)).all id = false := by rw [List.all_map]; exact h.open_
  rw [o] at al
  have d1 : decide ((1 : Int) ≤ (qs.length : Nat)) = true := decide_eq_true (by omega)
  have d2 : decide (((qs.length : Nat) : Int) ≤ 4) = true := decide_eq_true (by omega)
  unfold ma_Planu__initu__star
  rw [s1]
  unfold r_Planu__initu_ m_Planu__initu_
  have s3 : mFldS 0 [6] "phases" (mUn gTuple (mVar 1)) [.obj 6 [], .val (.tup (qs.map phD)), z2, z3, .no, .no] = .ok (.nx [.obj 6 [("phases", .tup (qs.map phD))], .val (.tup (qs.map phD)), z2, z3, .no, .no]) := by
    rw [mFldD_ap]
    refine fldSD_obj rfl ?_ rfl
    simp_arith []
  rw [List.take_zero, List.drop_zero, List.nil_append]
  have gl : gLen (.val (.tup (qs.map phD))) = .ok (.val (.int (qs.length : Nat))) := by rw [gLen_tup, List.length_map]
  have it : asIt (.val (.tup (qs.map phD))) = .ok (qs.map phD) := rfl
  have sy : ∀ L : List D, endI 6 (.nx (.obj 6 [("phases", .tup L)] :: [.val (.tup L), z2, z3, .no, .no])) = .ok [("phases", .tup L)] := fun L => endI_nx
  generalize qs.map phD = L at *
  simp_arith [en, l1, gl, d1, d2, it, lc, al, l2, s3, sy]
/-! the law's plan of drawn rows -/
structure Plain (ps : List Ph) : Prop where
  ne : ps ≠ []
  le : ps.length ≤ 3
  open_ : ps.all (·.1) = false
  pk : ∀ p ∈ ps, p.2 ∈ PK2
  back : ∀ (i : Nat) (h : i < ps.length), ∀ s ∈ ps[i].2, ∀ a ∈ s, back ps i a = false
theorem pk2_small : (PK2.all fun s => decide (s.length ≤ 4) && s.all fun a => decide (a.length ≤ 4)) = true := by decide +kernel
theorem pk2_ok {s : List (List Nat)} (h : s ∈ PK2) : s.length ≤ 4 ∧ ∀ a ∈ s, a.length ≤ 4 := by
  have := List.all_eq_true.mp pk2_small s h
  rw [Bool.and_eq_true, List.all_eq_true] at this
  exact ⟨of_decide_eq_true this.1, fun a ha => of_decide_eq_true (this.2 a ha)⟩
theorem Plain.plan {ps : List Ph} (h : Plain ps) : PlanOk ps := ⟨h.ne, h.le, fun p hp => pk2_ok (h.pk p hp)⟩
theorem back_phi {ps : List Ph} {i a : Nat} : back (ps.map phi) i a = back ps i a := by
  unfold back
  rw [List.length_map, List.getD_eq_getElem?_getD, List.getD_eq_getElem?_getD, List.getElem?_map]
  cases ps[(((i : Int) - a) % (ps.length : Int)).toNat]? with
  | none => rfl
  | some p => exact phi_mem.1
theorem Plain.q {ps : List Ph} (h : Plain ps) : QOk (ps.map phi) where
  ne := fun z => h.ne (List.map_eq_nil_iff.mp z)
  le := by rw [List.length_map]; exact h.le
  open_ := by
    rw [List.all_map, ← h.open_]
    congr 1
    funext p
    exact phi_mem.1
  sums := fun p hp => by
    obtain ⟨q, hq, rfl⟩ := List.mem_map.mp hp
    have := pk2_ok (h.pk q hq)
    obtain ⟨_, h2, h3⟩ := phi_mem (p := q)
    exact ⟨by rw [h2]; exact this.1, fun a ha => this.2 a ((h3 a).mp ha)⟩
  back := fun i hi s hs a ha => by
    rw [back_phi]
    rw [List.getElem_map] at hs
    rw [List.length_map] at hi
    exact h.back i hi s ((phi_mem.2.2 s).mp hs) a ha
theorem Plain.like {ps : List Ph} (h : Plain ps) : Like ps (ps.map phi) := ⟨by rw [List.length_map], fun i h1 h2 => by
  rw [List.getElem_map]
  exact ⟨phi_mem.1.symm, fun a => (phi_mem.2.2 a).symm⟩⟩
theorem plan_r {ps : List Ph} (h : Plain ps) : ma__law_plan_1 [plainD ps] = .ok (planD (ps.map phi)) := by
  have le := h.le
  have lc : lcD (gmName 2) tYesM (mCall ma__law_phase_1 (aCons (mVar 2) aNil)) [.val (plainD ps), .no, .no] (ps.map rowPD) [] = .ok ((ps.map phi).map phD) := by
    rw [lc_map (f := fun d => match ma__law_phase_1 [d] with | .ok e => e | _ => .non) (fun d hd => ?_) (by simp; omega)]
    · rw [List.map_map, List.map_map]
      congr 1
      refine List.map_congr_left fun p hp => ?_
      show (match ma__law_phase_1 [rowPD p] with | .ok e => e | _ => D.non) = phD (phi p)
      obtain ⟨m, s⟩ := p
      rw [phase_r (h.pk _ hp)]
    · obtain ⟨p, hp, rfl⟩ := List.mem_map.mp hd
      obtain ⟨m, s⟩ := p
      have e := phase_r (m := m) (h.pk _ hp)
      refine ⟨_, rfl, ?_⟩
      rw [e]
      generalize rowPD (m, s) = R at *
      simp_arith [e]
  have it : asIt (.val (plainD ps)) = .ok (ps.map rowPD) := rfl
  have ini := init_r h.q
  have len : gLenO T_len (.val (.lst ((ps.map phi).map phD))) = .ok (.val (.int ((ps.map phi).length : Nat))) := by rw [gLenO_lst, gLen_lst, List.length_map]
  have lp := List.length_pos_iff.mpr h.q.ne
  have le := h.q.le
  unfold ma__law_plan_1 r__law_plan m__law_plan st__law_plan_1 st__law_plan_2 st__law_plan_3
  generalize ps.map phi = qs at *
  generalize plainD ps = Y at *
  have e1 : ∀ n : Nat, gEqO isT eqT (.val (.int (qs.length : Nat))) (.val (.int (n : Int))) = .ok (.val (.bl (decide (qs.length = n)))) := fun n => by
    rw [gEqO_int, gEqD_int]
    congr 3
    rw [decide_eq_decide]
    omega
  have e11 := e1 1
  have e12 := e1 2
  have z1 : ((1 : Nat) : Int) = 1 := rfl
  have z2 : ((2 : Nat) : Int) = 2 := rfl
  rw [z1] at e11
  rw [z2] at e12
  unfold planD
  match qs, lp, le with
  | [a], _, _ =>
    rw [List.length_singleton] at e11
    simp only [List.map_cons, List.map_nil] at *
    have x0 := ix_l0 (a := phD a) (as := [])
    generalize phD a = A at *
    simp_arith [it, lc, len, e11, x0, ini]
    try rfl
  | [a, b], _, _ =>
    simp only [List.map_cons, List.map_nil, List.length_cons, List.length_nil, Nat.zero_add, Nat.reduceAdd] at *
    have x0 := ix_l0 (a := phD a) (as := [phD b])
    have x1 := ix_l1 (a := phD a) (b := phD b) (as := [])
    generalize phD a = A at *
    generalize phD b = B at *
    simp_arith [it, lc, len, e11, e12, x0, x1, ini]
    try rfl
  | [a, b, c], _, _ =>
    simp only [List.map_cons, List.map_nil, List.length_cons, List.length_nil, Nat.zero_add, Nat.reduceAdd] at *
    have x0 := ix_l0 (a := phD a) (as := [phD b, phD c])
    have x1 := ix_l1 (a := phD a) (b := phD b) (as := [phD c])
    have x2 := ix_l2 (a := phD a) (b := phD b) (c := phD c) (as := [])
    generalize phD a = A at *
    generalize phD b = B at *
    generalize phD c = C at *
    simp_arith [it, lc, len, e11, e12, x0, x1, x2, ini]
    try rfl
  | _ :: _ :: _ :: _ :: _, _, le => simp at le
/-! drawn sums -/
theorem draw_n {n : Int} (h : 0 < n) (h1 : n ≤ 1000000000000) : Al (ma__law_draw_2 [.pen, .int n]) 1 (fun d => ∃ k : Nat, d = .int k ∧ (k : Int) < n) := by
  unfold ma__law_draw_2
  try simp_arith []
  exact Al.draw h h1 fun d h0 h1 => .ok ⟨d.toNat, by rw [Int.toNat_of_nonneg h0], by omega⟩
theorem pick_l {ds : List D} (h : ds ≠ []) (h2 : ds.length ≤ 1000000) : Al (ma__law_pick_2 [.pen, .lst ds]) 1 (fun d => d ∈ ds) := by
  have hl := List.length_pos_iff.mpr h
  unfold ma__law_pick_2 r__law_pick m__law_pick
  try simp_arith []
  refine .bindw 1 0 (by omega) (draw_n (by omega) (by omega)) fun d ⟨k, e, hk⟩ => ?_
  subst e
  have e2 := gIx_at (ds := ds) (k := k) (by omega)
  simp_arith [e2]
  exact .ok (List.getElem_mem _)
structure SumsOk (s : List (List Nat)) : Prop where
  le : s.length ≤ 2
  nd : s.Nodup
  pk : ∀ a ∈ s, a ∈ PK
theorem SumsOk.pk2 {s : List (List Nat)} (h : SumsOk s) : s ∈ PK2 := by
  have le := h.le
  unfold PK2
  match s, h, le with
  | [], _, _ => exact List.mem_append.mpr (.inl (.head _))
  | [a], h, _ => exact List.mem_append.mpr (.inl (.tail _ (List.mem_map.mpr ⟨a, h.pk a (.head _), rfl⟩)))
  | [a, b], h, _ =>
    refine List.mem_append.mpr (.inr (List.mem_flatten.mpr ⟨_, List.mem_map.mpr ⟨a, h.pk a (.head _), rfl⟩, List.mem_map.mpr ⟨b, List.mem_filter.mpr ⟨h.pk b (.tail _ (.head _)), ?_⟩, rfl⟩⟩))
    have := h.nd
    simp only [List.nodup_cons, List.mem_singleton] at this
    exact decide_eq_true this.1
  | _ :: _ :: _ :: _, _, le => simp at le
theorem SumsOk.filter {s : List (List Nat)} (h : SumsOk s) (p : List Nat → Bool) : SumsOk (s.filter p) := ⟨Nat.le_trans (List.length_filter_le _ _) h.le, h.nd.filter _, fun a ha => h.pk a (List.mem_filter.mp ha).1⟩
def isBl (t : DL.T RV) (b : Bool) : Bool := match t with
  | .ok (.val (.bl c)) => c == b
  | _ => false
theorem isBl_ok {t : DL.T RV} {b : Bool} (h : isBl t b = true) : t = .ok (.val (.bl b)) := by
  unfold isBl at h
  split at h
  · rw [eq_of_beq h]
  · cases h
theorem in_all : (PK.all fun a => isBl (gInDT true (.val (agesD a)) (.brw [])) true && PK.all fun c => isBl (gInDT true (.val (agesD a)) (.brw [agesD c])) (decide (a ≠ c))) = true := by decide +kernel
theorem notin_r {a : List Nat} {s : List (List Nat)} (ha : a ∈ PK) (hs : SumsOk s) (l1 : s.length ≤ 1) : gInDT true (.val (agesD a)) (.brw (s.map agesD)) = .ok (.val (.bl (decide (a ∉ s)))) := by
  have h := List.all_eq_true.mp in_all a ha
  rw [Bool.and_eq_true, List.all_eq_true] at h
  match s, hs, l1 with
  | [], _, _ =>
    have := isBl_ok h.1
    simpa using this
  | [c], hs, _ =>
    have := isBl_ok (h.2 c (hs.pk c (.head _)))
    rw [List.map_cons, List.map_nil, this]
    congr 3
    rw [decide_eq_decide, List.mem_singleton]
  | _ :: _ :: _, _, l1 => simp at l1
def pkD : D := .lst (PK.map agesD)
theorem sums_al : Al (ma__law_sums_1 [.pen]) 3 (fun d => ∃ s, d = .lst (s.map agesD) ∧ SumsOk s) := by
  unfold ma__law_sums_1 r__law_sums m__law_sums
  have s1 : st__law_sums_1 [.val .pen, .no, .no, .no, .no] = .ok (.nx [.val .pen, .own [], .val pkD, .no, .no]) := by kernel_rfl
  simp_arith [s1]
  unfold st__law_sums_2
  simp_arith []
  refine .bindw 1 2 (by omega) (draw_n (by omega) (by omega)) fun d ⟨k, e, hk⟩ => ?_
  subst e
  simp_arith [Int.toNat_natCast]
  refine .bindw 2 0 (by omega) ((for_alN (fun N γ => ∃ s x3 x4, γ = [.val .pen, .own (s.map agesD), .val pkD, x3, x4] ∧ s.length ≤ N ∧ (N ≤ 2 → SumsOk s)) 1 (ds := rngD 0 k) 0 ⟨[], _, _, rfl, by simp, fun _ => ⟨by simp, .nil, by simp⟩⟩ ?_).mono (by rw [rngD_len]; omega)) ?_
  · rintro i d γ hd ⟨s, x3, x4, rfl, hl, ho⟩
    obtain ⟨rfl, hi⟩ := rng_get hd
    refine ⟨_, rfl, ?_⟩
    unfold b__law_sums_1
    have pk := pick_l (ds := PK.map agesD) (by simp [PK]) (by simp [PK])
    simp_arith []
    unfold pkD at *
    refine .bindw 1 0 (by omega) pk fun d hd => ?_
    obtain ⟨a, ha, rfl⟩ := List.mem_map.mp hd
    have o := ho (by omega)
    have ni := notin_r ha o (by omega)
    have ls : (s.map agesD).length < 1000000 := by rw [List.length_map]; have := o.le; omega
    by_cases c : a ∈ s
    · rw [decide_eq_false (by simpa using c)] at ni
      generalize agesD a = A at *
      simp_arith [ni]
      exact .ok ⟨_, .inl rfl, s, _, _, rfl, by omega, fun _ => o⟩
    · rw [decide_eq_true c] at ni
      have ap : s.map agesD ++ [agesD a] = (s ++ [a]).map agesD := by rw [List.map_append]; rfl
      have fin : SumsOk (s ++ [a]) := ⟨by rw [List.length_append, List.length_singleton]; omega, by
          rw [List.nodup_append]
          exact ⟨o.nd, by simp, fun x hx y hy e => by
            rw [List.mem_singleton] at hy
            subst hy e
            exact c hx⟩, fun x hx => by
          rcases List.mem_append.mp hx with hx | hx
          · exact o.pk x hx
          · rw [List.mem_singleton] at hx
            subst hx
            exact ha⟩
      generalize agesD a = A at *
      simp_arith [ni]
      rw [ap]
      exact .ok ⟨_, .inl rfl, s ++ [a], _, _, rfl, by rw [List.length_append, List.length_singleton]; omega, fun _ => fin⟩
  · rintro fl ⟨γ2, rfl, s, x3, x4, rfl, hl, ho⟩
    rw [rngD_len] at hl ho
    have o := ho (by omega)
    unfold st__law_sums_3
    simp_arith []
    exact .ok ⟨s, rfl, o⟩
/-! drawn plans -/
def backM (ms : List Bool) (i a : Nat) : Bool := ms.getD (((i : Int) - a) % (ms.length : Int)).toNat false
def good (ms : List Bool) (i : Nat) (s : List Nat) : Bool := decide ((s.filter fun a => backM ms i a) = [])
theorem good_iff {ms : List Bool} {i : Nat} {s : List Nat} : good ms i s = true ↔ ∀ a ∈ s, backM ms i a = false := by
  unfold good
  rw [decide_eq_true_eq, List.filter_eq_nil_iff]
  exact ⟨fun h a ha => Bool.eq_false_iff.mpr (h a ha), fun h a ha z => by rw [h a ha] at z; cases z⟩
def msD (ms : List Bool) : D := .lst (ms.map D.bl)
theorem ix_ms {ms : List Bool} {k : Nat} (h : k < ms.length) : gIx (.val (msD ms)) (.val (.int (k : Int))) = .ok (.val (.bl (ms.getD k false))) := by
  have e := gIx_at (ds := ms.map D.bl) (k := k) (by rw [List.length_map]; exact h)
  rw [List.getElem_map] at e
  rw [List.getD_eq_getElem?_getD, List.getElem?_eq_getElem h]
  exact e
theorem ix_backM {ms : List Bool} (h : ms ≠ []) {i a : Nat} : ∃ n : Int, gMod (.val (.int ((i : Int) - (a : Int)))) (.val (.int (ms.length : Nat))) = .ok (.val (.int n)) ∧ gIx (.val (msD ms)) (.val (.int n)) = .ok (.val (.bl (backM ms i a))) := by
  have l := List.length_pos_iff.mpr h
  have h0 := Int.emod_nonneg ((i : Int) - (a : Int)) (show (ms.length : Int) ≠ 0 by omega)
  have h1 := Int.emod_lt_of_pos ((i : Int) - (a : Int)) (show (0 : Int) < (ms.length : Int) by omega)
  refine ⟨((i : Int) - (a : Int)) % (ms.length : Int), gMod_int (by omega), ?_⟩
  have e := ix_ms (ms := ms) (k := (((i : Int) - a) % (ms.length : Int)).toNat) (by omega)
  rw [Int.toNat_of_nonneg h0] at e
  exact e
theorem ages_int {s : List Nat} : (s.map fun a : Nat => D.int (a : Int)) = (List.map DL.D.int (intL s)) := by unfold intL; rw [List.map_map]; rfl
section
variable {ms : List Bool} {i : Nat} {O x7 : SV}
theorem good_turn {us : List (List Nat)} {s : List Nat} (hm : ms ≠ []) (hs : s.length ≤ 1000) (hu : us.length ≤ 100) :
    b__law_plain_1 [.val .pen, .val (.int (ms.length : Nat)), .val (msD ms), .val (.int (i : Int)), O, .own (us.map agesD), .val (agesD s), x7] =
      .ok (.nx [.val .pen, .val (.int (ms.length : Nat)), .val (msD ms), .val (.int (i : Int)), O, .own ((us ++ if good ms i s then [s] else []).map agesD), .val (agesD s), x7]) := by
  have lf := lc_filt (γ := [.val .pen, .val (.int (ms.length : Nat)), .val (msD ms), .val (.int (i : Int)), O, .own (us.map agesD), .val (agesD s), .no]) (i := 7) (tt := mTru (mBin gIx (mVar 2) (mBin gMod (mUn gInt (mBin gSub (mVar 3) (mVar 7))) (mVar 1)))) (l := s) (p := fun a => backM ms i a) (by simp) (by omega) fun a ha => by
    obtain ⟨n, e1, e2⟩ := ix_backM hm (i := i) (a := a)
    generalize msD ms = M at *
    simp_arith [e1, e2]
  have it : asIt (.val (agesD s)) = .ok (List.map DL.D.int (intL s)) := by
    show DL.T.ok (s.map fun a : Nat => D.int (a : Int)) = _
    rw [ages_int]
  have em := empty_n (l := s.filter fun a => backM ms i a)
  unfold vecD at em
  have lu : (us.map agesD).length < 1000000 := by rw [List.length_map]; omega
  unfold b__law_plain_1 good
  rw [List.map_append]
  by_cases c : (s.filter fun a => backM ms i a) = []
  · rw [decide_eq_true c] at em ⊢
    simp only [if_true]
    generalize msD ms = M at *
    show _ = DL.T.ok (Fl.nx [_, _, _, _, _, .own (us.map agesD ++ [agesD s]), _, _])
    generalize agesD s = A at *
    generalize us.map agesD = U at *
    simp_arith [it, lf, em]
  · rw [decide_eq_false c] at em ⊢
    rw [if_neg (by simp), List.map_nil, List.append_nil]
    generalize msD ms = M at *
    generalize agesD s = A at *
    generalize us.map agesD = U at *
    simp_arith [it, lf, em]
theorem good_loop (hm : ms ≠ []) : ∀ {ss us : List (List Nat)} {x6 : SV}, (∀ s ∈ ss, s.length ≤ 1000) → us.length + ss.length ≤ 100 → ∃ y6, forD (gmName 6) b__law_plain_1 (ss.map agesD) [.val .pen, .val (.int (ms.length : Nat)), .val (msD ms), .val (.int (i : Int)), O, .own (us.map agesD), x6, x7] =
      .ok (.nx [.val .pen, .val (.int (ms.length : Nat)), .val (msD ms), .val (.int (i : Int)), O, .own ((us ++ ss.filter (good ms i)).map agesD), y6, x7])
  | [], us, x6, _, _ => ⟨x6, by rw [List.filter_nil, List.append_nil]; rfl⟩
  | s :: ss, us, x6, hs, hn => by
    rw [List.length_cons] at hn
    have e := good_turn (i := i) (O := O) (x7 := x7) (us := us) hm (hs s (.head _)) (by omega)
    obtain ⟨y6, ih⟩ := good_loop hm (ss := ss) (us := us ++ if good ms i s then [s] else []) (x6 := .val (agesD s)) (fun t ht => hs t (.tail _ ht)) (by rw [List.length_append]; split <;> simp <;> omega)
    refine ⟨y6, ?_⟩
    rw [List.map_cons, forD_name]
    show (b__law_plain_1 [.val .pen, .val (.int (ms.length : Nat)), .val (msD ms), .val (.int (i : Int)), O, .own (us.map agesD), .val (agesD s), x7]).bind _ = _
    rw [e, ok_bind, forK_nx, ih]
    congr 8
    rw [List.append_assoc]
    congr 1
    cases q : good ms i s with
    | true => rw [List.filter_cons_of_pos q]; rfl
    | false => rw [List.filter_cons_of_neg (by simp [q])]; rfl
end
/-- the flags -/
theorem rng_cons {n : Nat} : rngD 0 (n + 1) = .int 0 :: (List.range n).map fun i : Nat => D.int ((i + 1 : Nat) : Int) := by
  unfold rngD
  rw [List.range_succ_eq_map, List.map_cons, List.map_map]
  congr 1
  refine List.map_congr_left fun i _ => ?_
  show D.int (0 + ((i + 1 : Nat) : Int)) = _
  rw [Int.zero_add]
theorem eq0_i {k : Nat} : gEqO isT eqT (.val (.int (k : Int))) (.val (.int 0)) = .ok (.val (.bl (decide (k = 0)))) := by
  rw [gEqO_int, gEqD_int]
  congr 3
  rw [decide_eq_decide]
  omega
theorem flags_al {n : Nat} (hn : n ≤ 3) : Al (lcD (gmName 3) tYesM (mAndV (mBin gGt (mVar 3) (mC (.int 0))) (mBin (gEqO isT eqT) (mCall ma__law_draw_2 (aCons (mVar 0) (aCons (mC (.int 3)) aNil))) (mC (.int 0)))) [.val .pen, .val (.int ((n + 1 : Nat) : Int)), .no, .no, .no, .no, .no, .no] (rngD 0 (n + 1)) []) n
    (fun out => ∃ ms : List Bool, out = (false :: ms).map D.bl ∧ ms.length = n) := by
  rw [rng_cons, lcD_name]
  simp_arith []
  have g0 : asTru (.val (.bl (decide ((0 : Int) > 0)))) = .ok false := rfl
  try simp_arith [g0]
  refine ((lc_al (fun y => ∃ b, y = .bl b) 1 (fun d hd => ?_) (by simp; omega)).mono (by simp)).imp fun out ⟨ys, e, hl, h⟩ => ?_
  · obtain ⟨i, hi, rfl⟩ := List.mem_map.mp hd
    refine ⟨_, rfl, ?_⟩
    have g : decide (((i + 1 : Nat) : Int) > 0) = true := decide_eq_true (by omega)
    simp_arith [g]
    refine .bindw 1 0 (by omega) (draw_n (by omega) (by omega)) fun d ⟨k, e, hk⟩ => ?_
    subst e
    have q := eq0_i (k := k)
    simp_arith [q]
    exact .ok ⟨_, rfl, _, rfl⟩
  · have key : ∀ ys : List D, (∀ y ∈ ys, ∃ b, y = .bl b) → ∃ ms : List Bool, ys = ms.map D.bl := by
      intro ys
      induction ys with
      | nil => intro _; exact ⟨[], rfl⟩
      | cons y ys ih =>
        intro h
        obtain ⟨b, rfl⟩ := h y (.head _)
        obtain ⟨ms, e⟩ := ih fun z hz => h z (.tail _ hz)
        exact ⟨b :: ms, by rw [e]; rfl⟩
    obtain ⟨ms, e2⟩ := key ys h
    refine ⟨ms, by rw [e, e2]; rfl, ?_⟩
    rw [e2] at hl
    simpa using hl
/-! drawn plans, whole -/
/-- the rows made so far -/
structure Rows (ms : List Bool) (N : Nat) (ps : List Ph) : Prop where
  len : ps.length = N
  row : ∀ (i : Nat) (h : i < ps.length), ps[i].1 = ms.getD i false ∧ SumsOk ps[i].2 ∧ ∀ s ∈ ps[i].2, ∀ a ∈ s, backM ms i a = false
theorem pk_len {s : List (List Nat)} (h : SumsOk s) : ∀ a ∈ s, a.length ≤ 1000 := fun a ha => by
  have := (pk2_ok h.pk2).2 a ha
  omega
theorem Rows.plain {ms : List Bool} {ps : List Ph} (h : Rows (false :: ms) (ms.length + 1) ps) (hl : ms.length ≤ 2) : Plain ps where
  ne := fun z => by have := h.len; rw [z] at this; simp at this
  le := by rw [h.len]; omega
  open_ := by
    rw [List.all_eq_false]
    have l := h.len
    have r := (h.row 0 (by omega)).1
    refine ⟨ps[0], List.getElem_mem _, ?_⟩
    rw [r]
    simp
  pk := fun p hp => by
    obtain ⟨i, hi, rfl⟩ := List.getElem_of_mem hp
    exact (h.row i hi).2.1.pk2
  back := fun i hi s hs a ha => by
    have b := (h.row i hi).2.2 s hs a ha
    unfold backM at b
    unfold back
    rw [h.len]
    rw [List.length_cons] at b
    have h0 := Int.emod_nonneg ((i : Int) - (a : Int)) (show ((ms.length + 1 : Nat) : Int) ≠ 0 by omega)
    have h1 := Int.emod_lt_of_pos ((i : Int) - (a : Int)) (show (0 : Int) < ((ms.length + 1 : Nat) : Int) by omega)
    have hk : (((i : Int) - a) % ((ms.length + 1 : Nat) : Int)).toNat < ps.length := by rw [h.len]; omega
    rw [List.getD_eq_getElem?_getD, List.getElem?_eq_getElem hk]
    exact ((h.row _ hk).1).trans b
theorem plain_al : Al (ma__law_plain_1 [.pen]) 20 (fun d => ∃ ps, d = plainD ps ∧ Plain ps) := by
  unfold ma__law_plain_1 r__law_plain m__law_plain st__law_plain_1
  simp_arith []
  refine .bindw 1 19 (by omega) (draw_n (by omega) (by omega)) fun d ⟨k, e, hk⟩ => ?_
  subst e
  have c : (1 : Int) + (k : Int) = ((k + 1 : Nat) : Int) := by omega
  unfold st__law_plain_2
  have rg := rng1K_int (n := ((k + 1 : Nat) : Int)) (by omega) (by omega)
  rw [Int.toNat_natCast] at rg
  have fa := flags_al (n := k) (by omega)
  generalize rngD 0 (k + 1) = RG at rg fa
  simp_arith [c, rg]
  refine .bindw 3 16 (by omega) (fa.calm.mono (by omega)) fun out ⟨ms, e, hl⟩ => ?_
  subst e
  simp_arith []
  unfold st__law_plain_3 st__law_plain_4
  have rg := rng1K_int (n := ((k + 1 : Nat) : Int)) (by omega) (by omega)
  rw [Int.toNat_natCast] at rg
  have el : ((k + 1 : Nat) : Int) = (((false :: ms).length : Nat) : Int) := by rw [List.length_cons, hl]
  have em : D.lst (D.bl false :: ms.map D.bl) = msD (false :: ms) := rfl
  rw [em]
  simp_arith [rg]
  have lp : Al (forD (gmName 3) (mCl [5, 6] b__law_plain_2) (rngD 0 (k + 1)) [.val .pen, .val (.int ((k + 1 : Nat) : Int)), .val (msD (false :: ms)), .no, .own [], .no, .no, .no]) 9
      (fun fl => ∃ ps x3 x5 x6 x7, fl = .nx [.val .pen, .val (.int ((k + 1 : Nat) : Int)), .val (msD (false :: ms)), x3, .own (ps.map rowPD), x5, x6, x7] ∧ Rows (false :: ms) (k + 1) ps) := by
    refine ((for_alN (fun N γ => ∃ ps x3 x5 x6 x7, γ = [.val .pen, .val (.int ((k + 1 : Nat) : Int)), .val (msD (false :: ms)), x3, .own (ps.map rowPD), x5, x6, x7] ∧ Rows (false :: ms) N ps) 3 (ds := rngD 0 (k + 1)) 0 ⟨[], _, _, _, _, rfl, ⟨rfl, fun i h => absurd h (Nat.not_lt_zero i)⟩⟩ ?_).mono (by rw [rngD_len]; omega)).imp fun fl ⟨γ2, e, ps, x3, x5, x6, x7, e2, h⟩ => ?_
    · rintro i d γ hd ⟨ps, x3, x5, x6, x7, rfl, h⟩
      obtain ⟨rfl, hi⟩ := rng_get hd
      rw [Nat.zero_add] at h ⊢
      refine ⟨_, rfl, ?_⟩
      unfold b__law_plain_2
      simp_arith []
      refine .bindw 3 0 (by omega) sums_al fun d ⟨s, e, so⟩ => ?_
      subst e
      obtain ⟨y6, gl⟩ := good_loop (ms := false :: ms) (i := i) (O := .own (ps.map rowPD)) (x7 := x7) (by simp) (ss := s) (us := []) (x6 := .no) (pk_len so) (by have := so.le; simp; omega)
      rw [← el] at gl
      rw [List.nil_append, List.map_nil] at gl
      have ix := ix_ms (ms := false :: ms) (k := i) (by rw [List.length_cons]; omega)
      have it : asIt (.val (.lst (s.map agesD))) = .ok (s.map agesD) := rfl
      have lps : ps.length < 1000000 := by rw [h.len]; omega
      have ap : ps.map rowPD ++ [D.tup [.bl ((false :: ms).getD i false), .lst ((s.filter (good (false :: ms) i)).map agesD)]] = (ps ++ [((false :: ms).getD i false, s.filter (good (false :: ms) i))]).map rowPD := by rw [List.map_append]; rfl
      have fin : Rows (false :: ms) (i + 1) (ps ++ [((false :: ms).getD i false, s.filter (good (false :: ms) i))]) := by
        refine ⟨by rw [List.length_append, List.length_singleton, h.len], fun j hj => ?_⟩
        rw [List.length_append, List.length_singleton] at hj
        have hl := h.len
        by_cases c : j < ps.length
        · rw [List.getElem_append_left c]
          exact h.row j c
        · have ej : j = i := by omega
          subst ej
          rw [List.getElem_append_right (by omega)]
          simp only [List.getElem_singleton]
          refine ⟨trivial, so.filter _, fun t ht a ha => ?_⟩
          exact good_iff.mp (List.mem_filter.mp ht).2 a ha
      generalize (false :: ms).getD i false = b0 at *
      generalize msD (false :: ms) = M at *
      generalize List.map agesD (s.filter (good (false :: ms) i)) = G at *
      simp_arith [it, gl, ix]
      rw [ap]
      refine Al.ok ⟨_, .inl rfl, _, _, _, _, _, rfl, fin⟩
    · rw [rngD_len, Nat.zero_add] at h
      exact ⟨ps, x3, x5, x6, x7, by rw [e, e2], h⟩
  refine .bindw 9 0 (by omega) lp fun fl ⟨ps, x3, x5, x6, x7, e, h⟩ => ?_
  subst e
  unfold st__law_plain_5
  simp_arith []
  rw [← hl] at h
  exact .ok ⟨ps, rfl, h.plain (by omega)⟩
/-! texts of what is told; drawn losses -/
theorem fd_lt {ph : Nat → Ph} {ls : List Bool} : ∀ {k i a : Nat}, (runN ph ls k).fd i = some a → a < k
  | 0, i, a, h => by cases h
  | k + 1, i, a, h => by
    have ih := fun {i a : Nat} (h : (runN ph ls k).fd i = some a) => fd_lt (k := k) h
    have u : ∀ (f : Nat → Option Nat) (bs : List Nat), (∀ i a, f i = some a → a < k + 1) → ∀ i a, hear k bs f i = some a → a < k + 1 := fun f bs hf i a e => by
      unfold hear at e
      split at e
      · cases e; omega
      · exact hf i a e
    revert h
    show (turn k _ _ _ (runN ph ls k)).fd i = some a → _
    unfold turn
    cases ls.getD k false with
    | true =>
      intro h
      have := ih h
      omega
    | false =>
      refine u _ _ (fun i a e => ?_) i a
      cases m : (ph k).1 with
      | true =>
        rw [m] at e
        have := ih e
        omega
      | false =>
        rw [m] at e
        have e : updF (runN ph ls k).fd k (some k) i = some a := e
        unfold updF at e
        split at e
        · cases e; omega
        · have := ih e
          omega
def opP : Option Nat → PyData
  | none => .none
  | some a => .int (a : Int)
theorem pyRs_op : ∀ os : List (Option Nat), D.pyRs (os.map optD) = some (os.map opP)
  | [] => rfl
  | o :: os => by
    rw [List.map_cons]
    unfold D.pyRs
    rw [pyRs_op os]
    cases o <;> rfl
theorem smI_n {a : Nat} (h : a ≤ 100000) : SmI (a : Int) := ⟨by omega, by omega⟩
theorem show_op : ∀ {os : List (Option Nat)}, (∀ a, some a ∈ os → a ≤ 100000) → PyData.showableAll (os.map opP) = true
  | [], _ => rfl
  | o :: os, h => by
    rw [List.map_cons]
    unfold PyData.showableAll
    rw [show_op fun a ha => h a (.tail _ ha)]
    cases o with
    | none => rfl
    | some a =>
      have : PyData.showable (.int (a : Int)) = true := by unfold PyData.showable; exact decide_eq_true (log_sm (smI_n (h a (.head _))))
      show (PyData.showable (.int (a : Int)) && true) = true
      rw [this]
      rfl
theorem shown_op : ∀ {os : List (Option Nat)}, (∀ a, some a ∈ os → a ≤ 100000) → ((PyData.shownAll (os.map opP)).map (·.length)).sum ≤ 70 * os.length ∧ (PyData.shownAll (os.map opP)).length = os.length
  | [], _ => ⟨by simp [PyData.shownAll], by simp [PyData.shownAll]⟩
  | o :: os, h => by
    rw [List.map_cons]
    unfold PyData.shownAll
    obtain ⟨h1, h2⟩ := shown_op (os := os) fun a ha => h a (.tail _ ha)
    have h3 : (PyData.shown (opP o)).length ≤ 70 := by
      cases o with
      | none => decide
      | some a => exact shownI_len (smI_n (h a (.head _)))
    rw [List.map_cons, List.sum_cons, List.length_cons, List.length_cons, h2]
    exact ⟨by omega, rfl⟩
theorem depth_op : ∀ os : List (Option Nat), PyData.depthAll (os.map opP) = 0
  | [] => rfl
  | o :: os => by
    rw [List.map_cons]
    unfold PyData.depthAll
    rw [depth_op os]
    cases o <;> rfl
theorem repr_op {os : List (Option Nat)} (h : ∀ a, some a ∈ os → a ≤ 100000) (hl : os.length ≤ 1000) : ∃ z, gReprR (.val (.tup (os.map optD))) = .ok (.val (.str z)) := by
  have e1 : D.pyR (.tup (os.map optD)) = some (.tuple (os.map opP)) := by simp only [D.pyR, pyRs_op, Option.map_some]
  have e2 : PyData.showable (.tuple (os.map opP)) = true := by simp only [PyData.showable, show_op h]
  have e3 : (PyData.shown (.tuple (os.map opP))).length ≤ 1000000 := by
    unfold PyData.shown tupleText
    obtain ⟨h1, h2⟩ := shown_op h
    have h3 := StrLaws.join_length_le ", " (PyData.shownAll (os.map opP))
    rw [len_app, len_app]
    have e1 : (Str.ofString "(").length = 1 := rfl
    have e2 : (Str.ofString ", ").length = 2 := rfl
    have e3 : (Str.ofString (if (PyData.shownAll (os.map opP)).length == 1 then ",)" else ")")).length ≤ 2 := by split <;> decide
    rw [e2, h2] at h3
    rw [e1]
    omega
  have e4 : PyData.depth (.tuple (os.map opP)) ≤ 60 := by
    simp only [PyData.depth, depth_op]
    omega
  refine ⟨PyData.shown (.tuple (os.map opP)), ?_⟩
  unfold gReprR
  simp only [D.showsR, e1, e2, decide_eq_true e3, decide_eq_true e4, Bool.and_self, if_true]
theorem repr_due {ps : List Ph} (o : PlanOk ps) {b : Nat} {ls : List Bool} (hl : ls.length ≤ 400) : ∃ z, gReprR (.val (.tup (dueL ps o b ls))) = .ok (.val (.str z)) := by
  have e : dueL ps o b ls = ((List.range ls.length).map (runN (fun k => mod_at ps o.ne (b + k)) ls ls.length).fd).map optD := by unfold dueL fdL; rw [List.map_map]; rfl
  rw [e]
  refine repr_op (fun a ha => ?_) (by simp; omega)
  obtain ⟨i, hi, e⟩ := List.mem_map.mp ha
  have := fd_lt e
  omega
/-! drawn losses -/
theorem str_ext {a b : Str} (h : a.cps.toList = b.cps.toList) : a = b := by
  obtain ⟨a⟩ := a
  obtain ⟨b⟩ := b
  congr 1
  exact Array.toList_inj.mp h
theorem tl_app (a b : Str) : (a ++ b).cps.toList = a.cps.toList ++ b.cps.toList := by
  show (a.cps ++ b.cps).toList = _
  rw [Array.toList_append]
theorem join_emp : ∀ l : List Str, (Txt.join "" l).cps.toList = (l.map fun s => s.cps.toList).flatten
  | [] => rfl
  | [x] => by
    rw [TL.join_eq]
    show x.cps.toList = x.cps.toList ++ []
    rw [List.append_nil]
  | x :: z :: r => by
    have ih := join_emp (z :: r)
    rw [TL.join_eq] at ih ⊢
    show (x ++ "" ++ Str.join "" (z :: r)).cps.toList = _
    rw [tl_app, tl_app, ih, List.map_cons, List.flatten_cons]
    have e : (Str.ofString "").cps.toList = [] := rfl
    rw [e, List.append_nil]
    rfl
theorem join_loss {ls : List Bool} : Txt.join "" (ls.map sgT) = lossT ls := by
  refine str_ext ?_
  rw [join_emp, List.map_map]
  show _ = ls.map fun b => if b then 120 else 46
  induction ls with
  | nil => rfl
  | cons b ls ih =>
    rw [List.map_cons, List.map_cons, List.flatten_cons, ih]
    rfl
theorem gJoin_loss {ls : List Bool} (hl : ls.length ≤ 1000) : gJoin "" (.val (.lst (ls.map fun b => .str (sgT b)))) = .ok (.val (.str (lossT ls))) := by
  have m : (ls.map fun b => D.str (sgT b)) = (ls.map sgT).map D.str := by rw [List.map_map]; rfl
  rw [m]
  unfold gJoin
  simp only [RV.d, strs_mapD]
  have s : ((ls.map sgT).map (·.length)).sum = ls.length := by
    rw [List.map_map]
    induction ls with
    | nil => rfl
    | cons b ls ih =>
      rw [List.map_cons, List.sum_cons, ih (by rw [List.length_cons] at hl; omega) (by rw [List.map_map]; rfl), List.length_cons]
      show 1 + ls.length = _
      omega
  have e : (Str.ofString "").length = 0 := rfl
  rw [if_pos (by rw [s, List.length_map, e]; omega), okV_eq, join_loss]
theorem gAdd_loss {ls : List Bool} (hl : ls.length ≤ 1000) : gAdd (.val (.str (lossT ls))) (.val (.str ".")) = .ok (.val (.str (lossT (ls ++ [false])))) := by
  unfold gAdd
  simp only [RV.d]
  have e : (Str.ofString ".").length = 1 := rfl
  rw [if_pos (by rw [lossT_len, e]; omega), okV_eq]
  congr 3
  refine str_ext ?_
  rw [tl_app]
  show (ls.map fun b => if b then 120 else 46) ++ [46] = (ls ++ [false]).map fun b => if b then 120 else 46
  rw [List.map_append]
  rfl
theorem loss_al {γ : Gm} {n : Nat} (hn : n ≤ 11) (h1 : ∀ d, (γ.set 8 (SV.val d))[1]? = some (.val .pen)) : Al (lcD (gmName 8) tYesM (mCall ma__law_pick_2 (aCons (mVar 1) (aCons (mLst (aCons (mC (.str ".")) (aCons (mC (.str ".")) (aCons (mC (.str "x")) aNil)))) aNil))) γ (rngD 0 n) []) n
    (fun out => ∃ ls : List Bool, out = ls.map (fun b => .str (sgT b)) ∧ ls.length = n) := by
  refine ((lc_al (gm := gmName 8) (γ := γ) (ds := rngD 0 n) (acc := []) (fun y => ∃ b, y = .str (sgT b)) 1 (fun d hd => ⟨_, rfl, ?_⟩) (by rw [rngD_len]; simp; omega)).mono (m' := n) (by rw [rngD_len]; omega)).imp fun out ⟨ys, e, hl, h⟩ => ?_
  · have h1 := h1 d
    have pk := pick_l (ds := [.str ".", .str ".", .str "x"]) (by simp) (by simp)
    simp_arith [h1]
    refine .bindw 1 0 (by omega) pk fun d hd => ?_
    refine Al.ok ⟨_, rfl, ?_⟩
    simp only [List.mem_cons, List.not_mem_nil, or_false] at hd
    rcases hd with rfl | rfl | rfl
    · exact ⟨false, rfl⟩
    · exact ⟨false, rfl⟩
    · exact ⟨true, rfl⟩
  · rw [rngD_len] at hl
    have key : ∀ ys : List D, (∀ y ∈ ys, ∃ b, y = .str (sgT b)) → ∃ ls : List Bool, ys = ls.map (fun b => .str (sgT b)) := by
      intro ys
      induction ys with
      | nil => intro _; exact ⟨[], rfl⟩
      | cons y ys ih =>
        intro h
        obtain ⟨b, rfl⟩ := h y (.head _)
        obtain ⟨ms, e⟩ := ih fun z hz => h z (.tail _ hz)
        exact ⟨b :: ms, by rw [e]; rfl⟩
    obtain ⟨ls, e2⟩ := key ys h
    exact ⟨ls, by rw [e, e2]; rfl, by rw [e2] at hl; simpa using hl⟩
/-! the law, whole -/
theorem isnot_none : gIsNotA (.val .non) (.val .non) = .ok (.val (.bl false)) := rfl
theorem isnot_int {a : Int} : gIsNotA (.val (.int a)) (.val .non) = .ok (.val (.bl true)) := rfl
theorem keep_lc {x1 x2 x3 x4 x5 x6 x7 x8 x9 : SV} {f g : Nat → Option Nat} {L : Nat} (hL : L ≤ 1000) (h : ∀ i a, i < L → f i = some a → g i = some a) :
    lcD (gmTup 2 (gmCons (gmName 11) (gmCons (gmName 12) gmNil))) (tAndM (mB (mBin gIsNotA (mVar 12) (mC .non))) (mB (mBin (gNeO isT eqT) (mBin gIx (mVar 10) (mVar 11)) (mVar 12)))) (mVar 11)
      [.no, x1, x2, x3, x4, x5, x6, x7, x8, x9, .val (.tup (fdL (L + 1) g)), .no, .no] (enumD (fdL L f)) [] = .ok [] := by
  rw [lc_all (p := fun _ => false) (f := fun d => d) (fun d hd => ?_) (by rw [enumD_len, fdL_len]; simp; omega)]
  · simp
  · obtain ⟨i, hi⟩ := List.mem_iff_getElem?.mp hd
    obtain ⟨x, hx, rfl⟩ := enumD_get hi
    obtain ⟨hi2, rfl⟩ := List.getElem?_eq_some_iff.mp hx
    have hi : i < L := by rw [fdL_len] at hi2; exact hi2
    rw [fdL_get hi]
    have ix := ix_tupAt (ds := fdL (L + 1) g) (k := i) (by rw [fdL_len]; omega)
    rw [fdL_get (by omega : i < L + 1)] at ix
    refine ⟨_, rfl, ?_, fun z => by cases z⟩
    cases e : f i with
    | none => simp_arith [optD, isnot_none]
    | some a =>
      rw [h i a hi e] at ix
      have n1 : gNeO isT eqT (.val (.int (a : Int))) (.val (.int (a : Int))) = .ok (.val (.bl false)) := by rw [gNeO_int, gNeD_int]; simp
      show _ = DL.T.ok false
      simp_arith [optD, isnot_int]
      rw [ix]
      simp_arith [optD, n1]
theorem neO_str {z : Str} : gNeO isT eqT (.val (.str z)) (.val (.str z)) = .ok (.val (.bl false)) := by
  rw [gNeO_str, gNeD_str]
  simp
theorem again_al {ps : List Ph} (h : Plain ps) {b : Nat} (hb : b < ps.length) {x2 x6 : SV} :
    Al (b_law_1 [.no, .val .pen, x2, .val (plainD ps), .val (planD (ps.map phi)), .val (.int (b : Int)), x6, .no, .no, .no, .no, .no, .no]) 11
      (fun fl => ∃ x7 x9 x10, fl = .nx [.no, .val .pen, x2, .val (plainD ps), .val (planD (ps.map phi)), .val (.int (b : Int)), x6, x7, .no, x9, x10, .no, .no]) := by
  unfold b_law_1
  simp_arith []
  refine .bindw 1 10 (by omega) (draw_n (by omega) (by omega)) fun d ⟨n, e, hn⟩ => ?_
  subst e
  have rg := rng1K_int (n := ((n : Nat) : Int)) (by omega) (by omega)
  rw [Int.toNat_natCast] at rg
  simp_arith [rg]
  refine .bindw 10 0 (by omega) ((loss_al (n := n) (by omega) fun d => rfl).calm.mono (by omega)) fun out ⟨ls, e, hl⟩ => ?_
  subst e
  have le := h.le
  have j := gJoin_loss (ls := ls) (by omega)
  have lk := look_r h.plan (b := b) (ls := ls) (by omega)
  have kn := known_r h.q.plan (b := b) (ls := ls) (by rw [List.length_map]; exact hb) (by omega)
  have km := known_r h.q.plan (b := b) (ls := ls ++ [false]) (by rw [List.length_map]; exact hb) (by rw [List.length_append]; simp; omega)
  obtain ⟨z, rp⟩ := repr_due h.q.plan (b := b) (ls := ls) (by omega)
  have ne := neO_str (z := z)
  rw [← due_eq h.like h.plan h.q.plan] at lk
  have ad := gAdd_loss (ls := ls) (by omega)
  have kl := fun x1 x2 x3 x4 x5 x6 x7 x8 x9 => keep_lc (x1 := x1) (x2 := x2) (x3 := x3) (x4 := x4) (x5 := x5) (x6 := x6) (x7 := x7) (x8 := x8) (x9 := x9) (L := ls.length) (f := (runN (fun k => mod_at (ps.map phi) h.q.plan.ne (b + k)) ls ls.length).fd) (g := (runN (fun k => mod_at (ps.map phi) h.q.plan.ne (b + k)) (ls ++ [false]) (ls.length + 1)).fd) (by omega) fun i a hi e => more_keeps hi e
  have em : dueL (ps.map phi) h.q.plan b (ls ++ [false]) = fdL (ls.length + 1) (runN (fun k => mod_at (ps.map phi) h.q.plan.ne (b + k)) (ls ++ [false]) (ls.length + 1)).fd := by
    unfold dueL
    rw [List.length_append, List.length_singleton]
  rw [em] at km
  have ed : dueL (ps.map phi) h.q.plan b ls = fdL ls.length (runN (fun k => mod_at (ps.map phi) h.q.plan.ne (b + k)) ls ls.length).fd := rfl
  rw [ed] at lk kn rp
  have n0 : gNeO isT eqT (.val (.lst [])) (.val (.lst [])) = .ok (.val (.bl false)) := by kernel_rfl
  generalize plainD ps = Y1 at *
  generalize planD (ps.map phi) = Y2 at *
  generalize fdL ls.length (runN (fun k => mod_at (ps.map phi) h.q.plan.ne (b + k)) ls ls.length).fd = F1 at *
  generalize fdL (ls.length + 1) (runN (fun k => mod_at (ps.map phi) h.q.plan.ne (b + k)) (ls ++ [false]) (ls.length + 1)).fd = F2 at *
  simp_arith [j, lk, kn, rp, ne, ad, km, kl, n0]
  exact .ok ⟨_, _, _, rfl⟩
theorem turn_al {x2 : SV} : Al (b_law_2 [.no, .val .pen, x2, .no, .no, .no, .no, .no, .no, .no, .no, .no, .no]) 70
    (fun fl => ∃ x3 x4 x5 x6 x7 x8 x9 x10, fl = .nx [.no, .val .pen, x2, x3, x4, x5, x6, x7, x8, x9, x10, .no, .no]) := by
  unfold b_law_2
  simp_arith []
  refine .bindw 20 50 (by omega) plain_al fun d ⟨ps, e, h⟩ => ?_
  subst e
  have pl := plan_r h
  have ln := len_plain (ps := ps)
  have hp := List.length_pos_iff.mpr h.ne
  have le := h.le
  simp_arith [pl, ln]
  refine .bindw 1 49 (by omega) (draw_n (by omega) (by omega)) fun d ⟨b, e, hb⟩ => ?_
  subst e
  refine ((for_al (fun γ => ∃ x6 x7 x8 x9 x10, γ = [.no, .val .pen, x2, .val (plainD ps), .val (planD (ps.map phi)), .val (.int (b : Int)), x6, x7, x8, x9, x10, .no, .no]) 11 ⟨_, _, _, _, _, rfl⟩ ?_).mono (by rw [rngD_len]; decide)).imp ?_
  · rintro d hd γ ⟨x6, x7, x8, x9, x10, rfl⟩
    refine ⟨_, rfl, ?_⟩
    simp_arith []
    exact (again_al h (by omega)).imp fun fl ⟨x7, x9, x10, e⟩ => ⟨_, .inl e, _, _, _, _, _, rfl⟩
  · rintro fl ⟨γ2, rfl, x6, x7, x8, x9, x10, rfl⟩
    exact ⟨_, _, _, _, _, _, _, _, rfl⟩
theorem law_al : Al (m_law [.no, .val .pen, .no, .no, .no, .no, .no, .no, .no, .no, .no, .no, .no]) 1000 (fun fl => fl = .rt (.bl true)) := by
  unfold m_law st_law_1
  simp_arith []
  refine .bindw 500 0 (by omega) ((for_al (fun γ => ∃ x2 x3 x4 x5 x6 x7 x8 x9 x10, γ = [.no, .val .pen, x2, x3, x4, x5, x6, x7, x8, x9, x10, .no, .no]) 70 ⟨_, _, _, _, _, _, _, _, _, rfl⟩ ?_).mono (by rw [rngD_len]; decide)) ?_
  · rintro d hd γ ⟨x2, x3, x4, x5, x6, x7, x8, x9, x10, rfl⟩
    refine ⟨_, rfl, ?_⟩
    simp_arith []
    exact turn_al.imp fun fl ⟨x3, x4, x5, x6, x7, x8, x9, x10, e⟩ => ⟨_, .inl e, _, _, _, _, _, _, _, _, _, rfl⟩
  · rintro fl ⟨γ2, rfl, x2, x3, x4, x5, x6, x7, x8, x9, x10, rfl⟩
    simp_arith [law_end2, law_end3, law_end4]
    exact .ok rfl
theorem hall : (m_law [.no, .val .pen, .no, .no, .no, .no, .no, .no, .no, .no, .no, .no, .no]).All 0 (fun _ fl => ∃ b, fl = .rt (.bl b) ∧ b = true) (fun _ _ => False) :=
  (law_al.h 0 (by omega)).imp (fun j fl ⟨_, e⟩ => ⟨true, e, rfl⟩) fun _ _ z => z
end K19
set_option maxHeartbeats 0
open PySem PySem.W PySem.Calls PyProof.Rows
theorem PySem.Challenge.cw_layerpost_k19_rows_known_slot_by_slot_holds : PySem.Challenge.rw_layerpost_k19_rows_known_slot_by_slot.Holds := by
  w_on; o_law
  refine HandSHeadRun.head_any (r := K19.RR) (q := view K19.RR.prog [41]) (H := DL.hookZ K19.hdD) (ob := K19.ob) (M := 20000) (loose := K19.names) (d := HandSHeadRun.topDef K19.RR.prog 41) (kwd := []) K19.ob_eq
    (by kernel_rfl) (fun s => by kernel_rfl) K19.run (by kernel_rfl) (by kernel_rfl) (by kernel_rfl) (by rfl) (by first | assumption | decide +kernel) (by decide +kernel) ⟨rfl, rfl, rfl, rfl, rfl, by decide +kernel⟩ ?hw ?hc
  case hw => w_witness2
  case hc =>
    refine DL.walk_ofD (l := PySem.Challenge.rw_layerpost_k19_rows_known_slot_by_slot) (n := 63) (k := 10) (x := "_law_script") (CX := L2.CX K19.PG) rfl (by decide) (by kernel_rfl) ⟨⟨rfl, by decide, by decide⟩, rfl⟩ ?F ?g
    case F =>
      intro w mg fa h Y G hmg0
      obtain ⟨K, KX, c⟩ := Y
      have hmg : mg ("law" : PySem.Str) = some (.ref fa) := by
        have e : (HandSHeadRun.topDef K19.RR.prog 41).name = ("law" : PySem.Str) := by kernel_rfl
        rw [← e]
        exact hmg0
      exact ⟨K, KX, K19.law_at KX G c hmg K19.hall⟩
    case g =>
      intro w H s e s' h
      exact (by simpa [L2.CX] using h)
