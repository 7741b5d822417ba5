import PyProof.Rows.All
import Wide.All
import OpenK.AllK
import Wide.FinOn
import KE.KStateDown
import HandS.ForMost
import HandS.Exc
import HandS.ExcOwn
import HandS.TryOnly
import HandS.TryElse
import HandS.ExcCtx
import HandS.SuiteRaise
import HandS.CallSlots
import HandS.WordsExc
import HandS.Evl
import HandS.Defaults
import HandS.Head0
import HandS.Head1
import HandS.Head2
import HandS.HeadEnd
import HandS.HeadHook1
import HandS.HeadHook2
import HandS.Lambda
import HandS.Nested
import HandS.TupAny
import HandS.TupMul
import HandS.Wide
import HandS.Style
import HandS.SortInts
import HandS.SortRule
import HandS.IsInst
import HandS.StrMore
import HandS.Conv
import HandS.RaiseMore
import HandS.Deep
import HandS.Hot
import HandS.ExcIs
import HandS.HotCalls
import HandS.SetFor
import HandS.Replace
import HandS.Zip
import HandS.Strs
import PyProof.Rows.SortShellAny
import PyProof.AutoSeq1
import HandS.ReplaceLit
import HandS.New0
import HandS.ClsMeth
import HandS.Codes
import HandS.Iter
import HandS.SortKw
import KE.DataMinMax
import HandS.HeadHook4
import HandS.HeadWalk
import KE.KDictZip
import PyProof.ListNew
import HandS.Dict
import KE.GoesRaise
import PySem.Challenge.RW_hourhouse_k44_no_spans
section
set_option Elab.async false
set_option linter.all false
set_option maxRecDepth 100000
set_option maxHeartbeats 4000000
/-! The data layer: Python values as trees, a def as a function of data; each rule is proved once over the hand layer. -/
namespace DL
open PySem L2

/-- a Python value without addresses; scr: the script (a list that is read alone); ins: an instance of the class with that number, its attributes; clo: a lambda of the text by its number, what it captured; dic: a dict of ints and texts; gfn: a def of the module -/
inductive D where
  | non | bl (b : Bool) | int (i : Int) | str (s : Str)
  | tup (xs : List D) | lst (xs : List D) | scr (xs : List D) | ins (c : Nat) (fs : List (Str × D))
  | exc (a : Addr) | clo (k : Nat) (cs : List D) | dic (ks : List Key) (ds : List D) | gfn (k : Nat)

/-- a lambda of the text: its words, its parameters, the names that it captures -/
structure LamD where
  qual : Str
  params : Arguments
  body : Expr
  scope : Scope
  ps : List Str
  fr : List Str
instance : Inhabited LamD := ⟨⟨"", ⟨[], [], none, [], [], none, []⟩, .Constant .none 0 ⟨0, 0, 0, 0⟩, default, [], []⟩⟩
/-- the text's tables: where the class of a number stands, the exception class of a number; the exception that a suite holds; the tables of code objects; the lambdas; what is told of the running frame's cells; the store's places; the defs that are handed on -/
structure Tb where
  CA : Nat → Addr
  XA : Nat → Addr
  ea : Addr
  tabs : List NdefX.NTab := []
  lam : Nat → LamD := fun _ => default
  ck : Addr → D → Prop := fun _ _ => False
  GA : Nat → Addr := fun _ => 0
def isTbl : HO → Bool
  | .tbl _ => true
  | _ => false
/-- all that H knows is as it was in H', but for the tables of code objects -/
structure Exn (H H' : Hp) : Prop where
  a : ∀ b o, H b = some o → isTbl o = false → H' b = some o
  n : ∀ b, H' b = none → H b = none
class NTb (o : HO) : Prop where
  n : isTbl o = false
theorem Exn.at {H H' : Hp} (e : Exn H H') {b : Addr} {o : HO} (h : H b = some o) [z : NTb o] : H' b = some o := e.a b o h z.n
instance {xs : List V} : NTb (.lst xs) := ⟨rfl⟩
instance {xs : List V} : NTb (.tup xs) := ⟨rfl⟩
instance {C dx : Addr} {fs : List (Str × V)} : NTb (.ins C dx fs) := ⟨rfl⟩
instance {a : Addr} : NTb (.own a) := ⟨rfl⟩
instance {o : Obj} {u : HO} : NTb (.frz o u) := ⟨rfl⟩
instance {S : Int → Bool} {n : Nat} : NTb (.set S n) := ⟨rfl⟩
instance {kvs : List (Key × V)} : NTb (.dK kvs) := ⟨rfl⟩
instance {kvs : List (List Key × V)} : NTb (.dT kvs) := ⟨rfl⟩
instance {f : Heap → Prop} : NTb (.ext f) := ⟨rfl⟩
theorem Exn.refl (H : Hp) : Exn H H := ⟨fun _ _ h _ => h, fun _ h => h⟩
theorem Exn.of {H H' : Hp} (e : Evl.Ex H H') : Exn H H' := ⟨fun b o h _ => e b o h, fun _ h => Evl.fresh_back e h⟩
theorem Exn.trans {H H1 H2 : Hp} (a : Exn H H1) (b : Exn H1 H2) : Exn H H2 := ⟨fun x o h n => b.a x o (a.a x o h n) n, fun x h => a.n x (b.n x h)⟩
theorem Exn.new {H : Hp} {p : Addr} {o : HO} (h : H p = none) : Exn H (upd H p o) := .of (Evl.Ex.new h)
/-- an object that H does not know may change -/
theorem Exn.mut {H H' : Hp} {p : Addr} {o : HO} (e : Exn H H') (h : H p = none) : Exn H (upd H' p o) := ⟨fun a u ha n => by
  rw [upd_ne (ne_of_none ha h)]
  exact e.a a u ha n, fun b hb => by
  unfold upd at hb
  split at hb
  · cases hb
  · exact e.n b hb⟩
theorem Exn.back {H H' : Hp} {p : Addr} (e : Exn H H') (h : H' p = none) : H p = none := e.n p h
/-- the object at f is the lambda L, with the cells cl and the code object c -/
def LamO (f : Addr) (L : LamD) (cl : List (Str × Addr)) (c : Addr) : HO := .ext fun h => ∃ (od : Option Addr) (sl : Array (Option Value)) (pm ctv : Value), h.get? f = some (⟨.type "function", od, .func (PySem.W.kla_fn "<lambda>" L.qual L.params L.body L.scope cl pm (.ref c) ctv), sl⟩ : Obj)
/-- the cell at c holds v -/
def CellO (c : Addr) (v : V) : HO := .ext fun h => ∃ u, RelV v u ∧ h.IsCell c (some u)
instance {f : Addr} {L : LamD} {cl : List (Str × Addr)} {c : Addr} : NTb (LamO f L cl c) := ⟨rfl⟩
instance {c : Addr} {v : V} : NTb (CellO c v) := ⟨rfl⟩
instance {c : Addr} {q : Str} : NTb (LamX.CodeO c q) := ⟨rfl⟩

section
variable (K : PySem.W.Frag) (T : Tb)
mutual
/-- the value v of the heap F is the datum d -/
inductive Rep (F : Hp) : V → D → Prop
  | non : Rep F .non .non
  | bl (b : Bool) : Rep F (.bl b) (.bl b)
  | int (i : Int) : Rep F (.int i) (.int i)
  | str (s : Str) : Rep F (.str s) (.str s)
  | tup {a : Addr} {vs : List V} {ds : List D} (h : SqT K F a vs) (r : Reps F vs ds) : Rep F (.ref a) (.tup ds)
  | lst {a : Addr} {vs : List V} {ds : List D} (h : F a = some (.lst vs)) (r : Reps F vs ds) : Rep F (.ref a) (.lst ds)
  | scr {a : Addr} {vs : List V} {ds : List D} (h : SqL K F a vs) (r : Reps F vs ds) : Rep F (.ref a) (.scr ds)
  | ins {a dx : Addr} {c : Nat} {gs : List (Str × V)} {fs : List (Str × D)} (h : F a = some (.ins (T.CA c) dx gs)) (r : Repf F gs fs) : Rep F (.ref a) (.ins c fs)
  | exc (a : Addr) : Rep F (.ref a) (.exc a)
  | clo {f c : Addr} {cl : List (Str × Addr)} {k : Nat} {ds : List D} (h : F f = some (LamO f (T.lam k) cl c)) (hc : F c = some (LamX.CodeO c (T.lam k).qual)) (inj : ∀ x y b, cl.lookup x = some b → cl.lookup y = some b → x = y) (dom : ∀ y b, cl.lookup y = some b → y ∈ (T.lam k).fr) (r : Repc F cl (T.lam k).fr ds) : Rep F (.ref f) (.clo k ds)
  | dic {a : Addr} {ks : List Key} {us : List V} {ds : List D} (h : F a = some (.dK (ks.zip us))) (hl : us.length = ks.length) (r : Reps F us ds) : Rep F (.ref a) (.dic ks ds)
  | gfn (k : Nat) : Rep F (.ref (T.GA k)) (.gfn k)
inductive Reps (F : Hp) : List V → List D → Prop
  | nil : Reps F [] []
  | cons {v : V} {d : D} {vs : List V} {ds : List D} (h : Rep F v d) (r : Reps F vs ds) : Reps F (v :: vs) (d :: ds)
inductive Repf (F : Hp) : List (Str × V) → List (Str × D) → Prop
  | nil : Repf F [] []
  | cons {x : Str} {v : V} {d : D} {vs : List (Str × V)} {ds : List (Str × D)} (h : Rep F v d) (r : Repf F vs ds) : Repf F ((x, v) :: vs) ((x, d) :: ds)
inductive Repc (F : Hp) : List (Str × Addr) → List Str → List D → Prop
  | nil {cl : List (Str × Addr)} : Repc F cl [] []
  | here {cl : List (Str × Addr)} {y : Str} {c : Addr} {v : V} {d : D} {ys : List Str} {ds : List D} (e : cl.lookup y = some c) (hc : F c = some (CellO c v)) (h : Rep F v d) (r : Repc F cl ys ds) : Repc F cl (y :: ys) (d :: ds)
  | pend {cl : List (Str × Addr)} {y : Str} {c : Addr} {d : D} {ys : List Str} {ds : List D} (e : cl.lookup y = some c) (hc : T.ck c d) (r : Repc F cl ys ds) : Repc F cl (y :: ys) (d :: ds)
end
end

theorem ex_rd {H H' : Hp} {a : Addr} {u : HO} (e : Exn H H') (n : isTbl u = false) (h : Rd H a u) : Rd H' a u := by
  rcases h with h | ⟨o, h⟩
  · exact Or.inl (e.a a _ h n)
  · exact Or.inr ⟨o, e.a a _ h rfl⟩
section
variable {K : PySem.W.Frag} {T : Tb} {F F' : Hp}
theorem sqT_mono (e : Exn F F') {a : Addr} {xs : List V} (h : SqT K F a xs) : SqT K F' a xs := by
  rcases h with h | h
  · exact Or.inl (ex_rd e rfl h)
  · exact Or.inr h
theorem sqL_mono (e : Exn F F') {a : Addr} {xs : List V} (h : SqL K F a xs) : SqL K F' a xs := by
  rcases h with h | h
  · exact Or.inl (ex_rd e rfl h)
  · exact Or.inr h
mutual
theorem Rep.mono (e : Exn F F') : ∀ {v : V} {d : D}, Rep K T F v d → Rep K T F' v d
  | _, _, .non => .non
  | _, _, .bl b => .bl b
  | _, _, .int i => .int i
  | _, _, .str s => .str s
  | _, _, .tup h r => .tup (sqT_mono e h) (Reps.mono e r)
  | _, _, .lst h r => .lst (e.at h) (Reps.mono e r)
  | _, _, .scr h r => .scr (sqL_mono e h) (Reps.mono e r)
  | _, _, .ins h r => .ins (e.at h) (Repf.mono e r)
  | _, _, .exc a => .exc a
  | _, _, .clo h hc inj dom r => .clo (e.at h) (e.at hc) inj dom (Repc.mono e r)
  | _, _, .dic h hl r => .dic (e.at h) hl (Reps.mono e r)
  | _, _, .gfn k => .gfn k
theorem Reps.mono (e : Exn F F') : ∀ {v : List V} {d : List D}, Reps K T F v d → Reps K T F' v d
  | _, _, .nil => .nil
  | _, _, .cons h r => .cons (Rep.mono e h) (Reps.mono e r)
theorem Repf.mono (e : Exn F F') : ∀ {v : List (Str × V)} {d : List (Str × D)}, Repf K T F v d → Repf K T F' v d
  | _, _, .nil => .nil
  | _, _, .cons h r => .cons (Rep.mono e h) (Repf.mono e r)
theorem Repc.mono (e : Exn F F') : ∀ {cl : List (Str × Addr)} {v : List Str} {d : List D}, Repc K T F cl v d → Repc K T F' cl v d
  | _, _, _, .nil => .nil
  | _, _, _, .here q hc h r => .here q (e.at hc) (Rep.mono e h) (Repc.mono e r)
  | _, _, _, .pend q hc r => .pend q hc (Repc.mono e r)
end
theorem Reps.length : ∀ {v : List V} {d : List D}, Reps K T F v d → v.length = d.length
  | _, _, .nil => rfl
  | _, _, .cons _ r => congrArg Nat.succ (Reps.length r)
theorem Reps.append : ∀ {v w : List V} {d e : List D}, Reps K T F v d → Reps K T F w e → Reps K T F (v ++ w) (d ++ e)
  | _, _, _, _, .nil, s => s
  | _, _, _, _, .cons h r, s => .cons h (Reps.append r s)
theorem Reps.get : ∀ {v : List V} {d : List D} {i : Nat} {x : D}, Reps K T F v d → d[i]? = some x → ∃ y, v[i]? = some y ∧ Rep K T F y x
  | _, _, _, _, .nil, e => by simp at e
  | _, _, 0, _, .cons h _, e => ⟨_, rfl, by simp at e; subst e; exact h⟩
  | _, _, i + 1, _, .cons _ r, e => by
    obtain ⟨y, h1, h2⟩ := Reps.get (i := i) r (by simpa using e)
    exact ⟨y, by simpa using h1, h2⟩
theorem Reps.getV : ∀ {v : List V} {d : List D} {i : Nat} {y : V}, Reps K T F v d → v[i]? = some y → ∃ x, d[i]? = some x ∧ Rep K T F y x
  | _, _, _, _, .nil, e => by simp at e
  | _, _, 0, _, .cons h _, e => ⟨_, rfl, by simp at e; subst e; exact h⟩
  | _, _, i + 1, _, .cons _ r, e => by
    obtain ⟨y, h1, h2⟩ := Reps.getV (i := i) r (by simpa using e)
    exact ⟨y, by simpa using h1, h2⟩
theorem Reps.set : ∀ {v : List V} {d : List D} {i : Nat} {y : V} {x : D}, Reps K T F v d → Rep K T F y x → Reps K T F (v.set i y) (d.set i x)
  | _, _, _, _, _, .nil, _ => .nil
  | _, _, 0, _, _, .cons _ r, h => .cons h r
  | _, _, i + 1, _, _, .cons h' r, h => .cons h' (Reps.set (i := i) r h)
theorem Reps.take : ∀ {v : List V} {d : List D} (n : Nat), Reps K T F v d → Reps K T F (v.take n) (d.take n)
  | _, _, 0, _ => .nil
  | _, _, _ + 1, .nil => .nil
  | _, _, n + 1, .cons h r => .cons h (Reps.take n r)
theorem Reps.drop : ∀ {v : List V} {d : List D} (n : Nat), Reps K T F v d → Reps K T F (v.drop n) (d.drop n)
  | _, _, 0, r => r
  | _, _, _ + 1, .nil => .nil
  | _, _, n + 1, .cons h r => Reps.drop n r
theorem Repf.look : ∀ {v : List (Str × V)} {d : List (Str × D)} {f : Str} {x : D}, Repf K T F v d → d.lookup f = some x → ∃ y, v.lookup f = some y ∧ Rep K T F y x
  | _, _, _, _, .nil, e => by cases e
  | _, _, f, x, .cons (x := g) h r, e => by
    cases q : f == g with
    | true =>
      simp only [List.lookup_cons, q] at e ⊢
      cases e
      exact ⟨_, rfl, h⟩
    | false =>
      simp only [List.lookup_cons, q] at e ⊢
      exact Repf.look r e
theorem Repf.none : ∀ {v : List (Str × V)} {d : List (Str × D)} {f : Str}, Repf K T F v d → d.lookup f = none → v.lookup f = none
  | _, _, _, .nil, e => rfl
  | _, _, f, .cons (x := g) h r, e => by
    cases q : f == g with
    | true =>
      simp only [List.lookup_cons, q] at e
      cases e
    | false =>
      simp only [List.lookup_cons, q] at e ⊢
      exact Repf.none r e
end
end DL
end

section
set_option Elab.async false
set_option linter.all false
set_option autoImplicit false
set_option maxRecDepth 100000
set_option maxHeartbeats 4000000
namespace DL
open PySem L2

inductive Res (α : Type) where
  | ok (a : α) | ex (c : Nat) | bad
def Res.bind {α β : Type} (r : Res α) (f : α → Res β) : Res β := match r with
  | .ok a => f a
  | .ex c => .ex c
  | .bad => .bad
def Res.ofO {α : Type} : Option α → Res α
  | some a => .ok a
  | none => .bad
@[simp] theorem bind_ok {α β : Type} (a : α) (f : α → Res β) : (Res.ok a).bind f = f a := rfl
@[simp] theorem bind_ex {α β : Type} (c : Nat) (f : α → Res β) : (Res.ex c : Res α).bind f = .ex c := rfl
@[simp] theorem bind_bad {α β : Type} (f : α → Res β) : (Res.bad : Res α).bind f = .bad := rfl
@[simp] theorem ofO_some {α : Type} (a : α) : Res.ofO (some a) = .ok a := rfl
@[simp] theorem ofO_none {α : Type} : (Res.ofO none : Res α) = .bad := rfl

/-- what an expression gives: a datum that stands still, a new list of ours, the list of the slot i -/
inductive SV where
  | sh (d : D) | ow (ds : List D) | br (i : Nat) (ds : List D)
def SV.d : SV → D
  | .sh d => d
  | .ow ds => .lst ds
  | .br _ ds => .lst ds
/-- as an argument: a new list stands still from now on -/
def SV.fz : SV → SV
  | .ow ds => .sh (.lst ds)
  | s => s
/-- a slot -/
inductive Sl where
  | no | sh (d : D) | ow (ds : List D) | exc | me (a : Addr) (c : Nat) (fs : List (Str × D)) | od (ks : List Key) (ds : List D)
abbrev Env := List Sl

def isM : HO → Bool
  | .lst _ => true
  | .ins _ _ _ => true
  | .dK _ => true
  | _ => false
def Frs (F F' H : Hp) : Prop := ∀ a o, isM o = true → F a = none → H a = some o → F' a = none
theorem nt_isM {o : HO} (h : isM o = true) : isTbl o = false := by cases o <;> first | rfl | cases h
/-- the tables of code objects are in order -/
def TbG (T : Tb) (H : Hp) : Prop := NdefX.TabsN T.tabs H
theorem TbG.ex {T : Tb} {H H' : Hp} (t : TbG T H) (e : Evl.Ex H H') : TbG T H' := NdefX.TabsN.ext t e
/-- a thing that changes is no table and no code object -/
theorem TbG.put {T : Tb} {H : Hp} {a : Addr} {o o' : HO} (t : TbG T H) (h : H a = some o) (m : isM o = true) : TbG T (upd H a o') := fun p hp => by
  obtain ⟨ps, h1, h2, h3⟩ := t p hp
  have n1 : p.1 ≠ a := fun z => by rw [z, h] at h1; cases h1; cases m
  refine ⟨ps, by rw [upd_ne n1]; exact h1, h2, fun pos cv hc => ?_⟩
  obtain ⟨c, e1, e2⟩ := h3 pos cv hc
  have n2 : c ≠ a := fun z => by rw [z, h] at e2; cases e2; cases m
  exact ⟨c, e1, by rw [upd_ne n2]; exact e2⟩
theorem TbG.putM {T : Tb} {H : Hp} {a : Addr} {o' : HO} (t : TbG T H) (hm : ∀ u, H a = some u → isM u = true) : TbG T (upd H a o') := by
  cases h : H a with
  | none => exact t.ex (Evl.Ex.new h)
  | some o => exact t.put h (hm o h)
theorem TbG.drop {T : Tb} {H : Hp} {a : Addr} {o : HO} (t : TbG T H) (h : H a = some o) (m : isM o = true) : TbG T (fun b => if b = a then none else H b) := fun p hp => by
  obtain ⟨ps, h1, h2, h3⟩ := t p hp
  have n1 : p.1 ≠ a := fun z => by rw [z, h] at h1; cases h1; cases m
  refine ⟨ps, by simp only [n1, if_false]; exact h1, h2, fun pos cv hc => ?_⟩
  obtain ⟨c, e1, e2⟩ := h3 pos cv hc
  have n2 : c ≠ a := fun z => by rw [z, h] at e2; cases e2; cases m
  exact ⟨c, e1, by simp only [n2, if_false]; exact e2⟩
/-- from the still part F of the heap H to F' of H' -/
structure Stp (T : Tb) (F H F' H' : Hp) : Prop where
  ff : Exn F F'
  fh : Exn F' H'
  hh : Exn H H'
  fr : Frs F F' H
  tb : TbG T H → TbG T H'
section
variable {T : Tb}
theorem Stp.refl {F H : Hp} (e : Exn F H) : Stp T F H F H := ⟨Exn.refl _, e, Exn.refl _, fun _ _ _ h _ => h, id⟩
theorem Stp.trans {F H F1 H1 F2 H2 : Hp} (a : Stp T F H F1 H1) (b : Stp T F1 H1 F2 H2) : Stp T F H F2 H2 :=
  ⟨Exn.trans a.ff b.ff, b.fh, Exn.trans a.hh b.hh, fun x o m h1 h2 => b.fr x o m (a.fr x o m h1 h2) (a.hh.a x _ h2 (nt_isM m)), fun t => b.tb (a.tb t)⟩
/-- a new object -/
theorem Stp.new {F H : Hp} {p : Addr} {o : HO} (e : Exn F H) (h : H p = none) : Stp T F H F (upd H p o) :=
  ⟨Exn.refl _, Exn.trans e (Exn.new h), Exn.new h, fun _ _ _ h _ => h, fun t => t.ex (Evl.Ex.new h)⟩
/-- a new object that stands still -/
theorem Stp.newF {F H : Hp} {p : Addr} {o : HO} (e : Exn F H) (h : H p = none) : Stp T F H (upd F p o) (upd H p o) :=
  ⟨Exn.new (Exn.back e h), ⟨fun a u ha n => by
    by_cases z : a = p
    · subst z; rw [upd_same] at ha ⊢; exact ha
    · rw [upd_ne z] at ha ⊢; exact e.a a u ha n, fun a ha => by
    by_cases z : a = p
    · subst z; rw [upd_same] at ha; cases ha
    · rw [upd_ne z] at ha ⊢; exact e.n a ha⟩, Exn.new h, fun a u _ h1 h2 => by
    have z : a ≠ p := fun z => by
      subst z; rw [h] at h2; cases h2
    rw [upd_ne z]; exact h1, fun t => t.ex (Evl.Ex.new h)⟩
/-- an object that was new stands still from now on -/
theorem Stp.fz {F H F' H' : Hp} {a : Addr} {o : HO} (s : Stp T F H F' H') (h0 : H a = none) (hF : F' a = none) (h : H' a = some o) : Stp T F H (upd F' a o) H' :=
  ⟨Exn.trans s.ff (Exn.new hF), ⟨fun b u hb n => by
    by_cases z : b = a
    · subst z; rw [upd_same] at hb; rw [h]; exact hb
    · rw [upd_ne z] at hb; exact s.fh.a b u hb n, fun b hb => by
    have z : b ≠ a := fun z => by subst z; rw [h] at hb; cases hb
    rw [upd_ne z]; exact s.fh.n b hb⟩, s.hh, fun b u m h1 h2 => by
    have z : b ≠ a := fun z => by
      subst z; rw [h0] at h2; cases h2
    rw [upd_ne z]; exact s.fr b u m h1 h2, s.tb⟩
end

section
variable (K : PySem.W.Frag) (T : Tb)
structure EnvR (F0 G F H : Hp) (σ : L2.St) (δ : Env) : Prop where
  f0 : Exn F0 F
  gh : Exn G H
  fh : Exn F H
  fr : Frs F0 F G
  len : σ.length = δ.length
  sh : ∀ (i : Nat) (d : D), δ[i]? = some (Sl.sh d) → ∃ v, σ[i]? = some (some v) ∧ Rep K T F v d
  ow : ∀ (i : Nat) (ds : List D), δ[i]? = some (Sl.ow ds) → ∃ a vs, σ[i]? = some (some (V.ref a)) ∧ F a = none ∧ G a = none ∧ H a = some (.lst vs) ∧ Reps K T F vs ds
  ex : ∀ (i : Nat), δ[i]? = some Sl.exc → σ[i]? = some (some (V.ref T.ea))
  me : ∀ (i : Nat) (a : Addr) (c : Nat) (fs : List (Str × D)), δ[i]? = some (Sl.me a c fs) → i = 0 ∧ ∃ dx gs, σ[i]? = some (some (V.ref a)) ∧ F a = none ∧ G a = none ∧ H a = some (.ins (T.CA c) dx gs) ∧ Repf K T F gs fs
  od : ∀ (i : Nat) (ks : List Key) (ds : List D), δ[i]? = some (Sl.od ks ds) → ∃ a us, σ[i]? = some (some (V.ref a)) ∧ F a = none ∧ G a = none ∧ H a = some (.dK (ks.zip us)) ∧ us.length = ks.length ∧ Reps K T F us ds
  ap : ∀ (i j : Nat) (a : Addr) (ds es : List D), i ≠ j → δ[i]? = some (Sl.ow ds) → δ[j]? = some (Sl.ow es) → σ[i]? = some (some (V.ref a)) → σ[j]? = some (some (V.ref a)) → False
  tb : TbG T H

/-- a value that an operation may look at -/
def RepB (F H : Hp) (v : V) : D → Prop
  | .lst ds => ∃ a vs, v = .ref a ∧ H a = some (.lst vs) ∧ Reps K T F vs ds
  | d => Rep K T F v d
def RepS (F H H0 : Hp) (σ : L2.St) (δ : Env) (v : V) : SV → Prop
  | .sh d => Rep K T F v d
  | .ow ds => ∃ a vs, v = .ref a ∧ H0 a = none ∧ F a = none ∧ H a = some (.lst vs) ∧ Reps K T F vs ds
  | .br i ds => ∃ a vs, v = .ref a ∧ σ[i]? = some (some v) ∧ F a = none ∧ H a = some (.lst vs) ∧ Reps K T F vs ds ∧ δ[i]? = some (Sl.ow ds)
inductive RepSs (F H H0 : Hp) (σ : L2.St) (δ : Env) : List V → List SV → Prop
  | nil : RepSs F H H0 σ δ [] []
  | cons {v : V} {s : SV} {vs : List V} {ss : List SV} (h : RepS K T F H H0 σ δ v s) (r : RepSs F H H0 σ δ vs ss) : RepSs F H H0 σ δ (v :: vs) (s :: ss)
end
section
variable {K : PySem.W.Frag} {T : Tb} {F0 G F F' H H' H0 H1 : Hp} {σ : L2.St} {δ : Env} {v : V} {d : D} {s : SV}
theorem Rep.b (e : Exn F H) (h : Rep K T F v d) : RepB K T F H v d := by
  cases h with
  | lst h r => exact ⟨_, _, rfl, e.at h, r⟩
  | scr h r => exact .scr h r
  | non => exact .non
  | bl b => exact .bl b
  | int i => exact .int i
  | str s => exact .str s
  | tup h r => exact .tup h r
  | ins h r => exact .ins h r
  | exc a => exact .exc a
  | clo h hc i d r => exact .clo h hc i d r
  | dic h l r => exact .dic h l r
  | gfn k => exact .gfn k
theorem RepS.b (e : Exn F H) (h : RepS K T F H H0 σ δ v s) : RepB K T F H v s.d := by
  cases s with
  | sh d => exact Rep.b e h
  | ow ds =>
    obtain ⟨a, vs, rfl, _, _, h1, h2⟩ := h
    exact ⟨a, vs, rfl, h1, h2⟩
  | br i ds =>
    obtain ⟨a, vs, rfl, _, _, h1, h2, _⟩ := h
    exact ⟨a, vs, rfl, h1, h2⟩
theorem RepB.mono (e : Exn F F') (e2 : Exn H H') (h : RepB K T F H v d) : RepB K T F' H' v d := by
  cases d with
  | lst ds =>
    obtain ⟨a, vs, rfl, h1, h2⟩ := h
    exact ⟨a, vs, rfl, e2.at h1, h2.mono e⟩
  | _ => exact Rep.mono e h
theorem RepS.mono (p : Stp T F H F' H') (h : RepS K T F H H0 σ δ v s) : RepS K T F' H' H0 σ δ v s := by
  cases s with
  | sh d => exact Rep.mono p.ff h
  | ow ds =>
    obtain ⟨a, vs, rfl, h0, h1, h2, h3⟩ := h
    exact ⟨a, vs, rfl, h0, p.fr _ _ rfl h1 h2, p.hh.at h2, h3.mono p.ff⟩
  | br i ds =>
    obtain ⟨a, vs, rfl, h0, h1, h2, h3, h4⟩ := h
    exact ⟨a, vs, rfl, h0, p.fr _ _ rfl h1 h2, p.hh.at h2, h3.mono p.ff, h4⟩
theorem RepS.old (e : Exn H0 H1) (h : RepS K T F H H1 σ δ v s) : RepS K T F H H0 σ δ v s := by
  cases s with
  | sh d => exact h
  | ow ds =>
    obtain ⟨a, vs, rfl, h0, h1, h2, h3⟩ := h
    exact ⟨a, vs, rfl, Exn.back e h0, h1, h2, h3⟩
  | br i ds => exact h
theorem RepSs.mono (p : Stp T F H F' H') : ∀ {vs : List V} {ss : List SV}, RepSs K T F H H0 σ δ vs ss → RepSs K T F' H' H0 σ δ vs ss
  | _, _, .nil => .nil
  | _, _, .cons h r => .cons (h.mono p) (RepSs.mono p r)
theorem RepSs.old (e : Exn H0 H1) : ∀ {vs : List V} {ss : List SV}, RepSs K T F H H1 σ δ vs ss → RepSs K T F H H0 σ δ vs ss
  | _, _, .nil => .nil
  | _, _, .cons h r => .cons (h.old e) (RepSs.old e r)
theorem EnvR.br {i : Nat} {ds : List D} (E : EnvR K T F0 G F H σ δ) (h : δ[i]? = some (Sl.ow ds)) : ∃ v, σ[i]? = some (some v) ∧ RepS K T F H H σ δ v (.br i ds) := by
  obtain ⟨a, vs, h1, h2, h3, h4, h5⟩ := E.ow i ds h
  exact ⟨_, h1, a, vs, rfl, h1, h2, h4, h5, h⟩
theorem EnvR.grow (E : EnvR K T F0 G F H σ δ) (p : Stp T F H F' H') : EnvR K T F0 G F' H' σ δ where
  f0 := Exn.trans E.f0 p.ff
  gh := Exn.trans E.gh p.hh
  fh := p.fh
  fr := fun a o m h1 h2 => p.fr a o m (E.fr a o m h1 h2) (E.gh.a a _ h2 (nt_isM m))
  len := E.len
  sh := fun i d h => by
    obtain ⟨v, h1, h2⟩ := E.sh i d h
    exact ⟨v, h1, h2.mono p.ff⟩
  ow := fun i ds h => by
    obtain ⟨a, vs, h1, h2, h3, h4, h5⟩ := E.ow i ds h
    exact ⟨a, vs, h1, p.fr _ _ rfl h2 h4, h3, p.hh.at h4, h5.mono p.ff⟩
  ex := E.ex
  me := fun i a c fs h => by
    obtain ⟨z, dx, gs, h1, h2, h3, h4, h5⟩ := E.me i a c fs h
    exact ⟨z, dx, gs, h1, p.fr _ _ rfl h2 h4, h3, p.hh.at h4, h5.mono p.ff⟩
  od := fun i ks ds h => by
    obtain ⟨a, us, h1, h2, h3, h4, h5, h6⟩ := E.od i ks ds h
    exact ⟨a, us, h1, p.fr _ _ rfl h2 h4, h3, p.hh.at h4, h5, h6.mono p.ff⟩
  ap := E.ap
  tb := p.tb E.tb
/-- a value that was new stands still from now on -/
theorem RepS.fz (p : Stp T F H F' H') (h : RepS K T F' H' H σ δ v s) : ∃ F2, Stp T F H F2 H' ∧ RepS K T F2 H' H σ δ v s.fz := by
  cases s with
  | sh d => exact ⟨F', p, h⟩
  | br i ds => exact ⟨F', p, h⟩
  | ow ds =>
    obtain ⟨a, vs, rfl, h0, h1, h2, h3⟩ := h
    exact ⟨upd F' a (.lst vs), p.fz h0 h1 h2, .lst upd_same (h3.mono (Exn.new h1))⟩
end

section
variable (K : PySem.W.Frag) (T : Tb) (W : WX)
def REnd (F H : Hp) (σ : L2.St) (δ : Env) (Q : VK) : Res SV → Prop
  | .ok s => ∀ v F' H', Stp T F H F' H' → RepS K T F' H' H σ δ v s → Q v H'
  | .ex c => ∀ F' H', Stp T F H F' H' → W (.ref (T.XA c)) none σ H'
  | .bad => False
/-- the reading of an expression whose value is told by f -/
def rd (f : Env → Res SV) : TE := fun σ H Q => ∃ F0 G F δ, EnvR K T F0 G F H σ δ ∧ REnd K T W F H σ δ Q (f δ)
def RTnd (F H : Hp) (σ : L2.St) (δ : Env) (Q : Bool → Hp → Prop) : Res Bool → Prop
  | .ok b => ∀ F' H', Stp T F H F' H' → Q b H'
  | .ex c => ∀ F' H', Stp T F H F' H' → W (.ref (T.XA c)) none σ H'
  | .bad => False
def rdT (f : Env → Res Bool) : TT := fun σ H Q => ∃ F0 G F δ, EnvR K T F0 G F H σ δ ∧ RTnd T W F H σ δ Q (f δ)
def RAnd (F H : Hp) (σ : L2.St) (δ : Env) (Q : List V → Hp → Prop) : Res (List SV) → Prop
  | .ok s => ∀ vs F' H', Stp T F H F' H' → RepSs K T F' H' H σ δ vs s → Q vs H'
  | .ex c => ∀ F' H', Stp T F H F' H' → W (.ref (T.XA c)) none σ H'
  | .bad => False
def rdA (f : Env → Res (List SV)) : TA := fun σ H Q => ∃ F0 G F δ, EnvR K T F0 G F H σ δ ∧ RAnd K T W F H σ δ Q (f δ)
end

theorem PEimp {X : Cx} {e : Expr} {t t' : TE} (h : PE X e t) (i : ∀ σ H Q, t' σ H Q → t σ H Q) : PE X e t' := ⟨fun pins s σ H Q I q => h.run pins s σ H Q I (i σ H Q q)⟩
theorem PTimp {X : Cx} {e : Expr} {t t' : TT} (h : PT X e t) (i : ∀ σ H Q, t' σ H Q → t σ H Q) : PT X e t' := ⟨fun pins s σ H Q I q => h.run pins s σ H Q I (i σ H Q q)⟩
theorem PWimp {X : Cx} {e : Expr} {t t' : TT} (h : PW X e t) (i : ∀ σ H Q, t' σ H Q → t σ H Q) : PW X e t' := ⟨fun whole pins s σ H Q I q => h.run whole pins s σ H Q I (i σ H Q q)⟩
theorem PAimp {X : Cx} {e : List Expr} {t t' : TA} (h : PA X e t) (i : ∀ σ H Q, t' σ H Q → t σ H Q) : PA X e t' := ⟨fun pos pins s σ H Q I q => h.run pos pins s σ H Q I (i σ H Q q)⟩

/-! ### expressions -/
def fVar (i : Nat) : Env → Res SV := fun δ => match δ[i]? with
  | some (.sh d) => .ok (.sh d)
  | some (.ow ds) => .ok (.br i ds)
  | _ => .bad
def fC (d : D) : Env → Res SV := fun _ => .ok (.sh d)
def f1 (g : D → Option SV) (fa : Env → Res SV) : Env → Res SV := fun δ => (fa δ).bind fun a => Res.ofO (g a.d)
def f2 (g : D → D → Option SV) (fa fb : Env → Res SV) : Env → Res SV := fun δ => (fa δ).bind fun a => (fb δ).bind fun b => Res.ofO (g a.d b.d)
/-- a value as a truth -/
def asB : SV → Res Bool
  | .sh (.bl b) => .ok b
  | _ => .bad
def fT (f : Env → Res SV) : Env → Res Bool := fun δ => (f δ).bind asB
def fAnd (a b : Env → Res Bool) : Env → Res Bool := fun δ => (a δ).bind fun x => if x = true then b δ else .ok false
def fOr (a b : Env → Res Bool) : Env → Res Bool := fun δ => (a δ).bind fun x => if x = true then .ok true else b δ
def fNot (a : Env → Res Bool) : Env → Res Bool := fun δ => (a δ).bind fun x => .ok (!x)
def fIf (c : Env → Res Bool) (a b : Env → Res SV) : Env → Res SV := fun δ => (c δ).bind fun x => if x = true then a δ else b δ
/-- a truth as a value -/
def fV (c : Env → Res Bool) : Env → Res SV := fun δ => (c δ).bind fun x => .ok (.sh (.bl x))
def aNil : Env → Res (List SV) := fun _ => .ok []
def aCons (fa : Env → Res SV) (fr : Env → Res (List SV)) : Env → Res (List SV) := fun δ => (fa δ).bind fun a => (fr δ).bind fun r => .ok (a.fz :: r)

section
variable {K : PySem.W.Frag} {T : Tb} {W : WX} {σ : L2.St} {F H F' H' : Hp} {δ : Env}
theorem REnd.later {Q : VK} {r : Res SV} (p : Stp T F H F' H') (h : REnd K T W F H σ δ Q r) : REnd K T W F' H' σ δ Q r := by
  cases r with
  | ok s => exact fun v F2 H2 q r => h v F2 H2 (p.trans q) (r.old p.hh)
  | ex c => exact fun F2 H2 q => h F2 H2 (p.trans q)
  | bad => exact h
theorem RTnd.later {Q : Bool → Hp → Prop} {r : Res Bool} (p : Stp T F H F' H') (h : RTnd T W F H σ δ Q r) : RTnd T W F' H' σ δ Q r := by
  cases r with
  | ok s => exact fun F2 H2 q => h F2 H2 (p.trans q)
  | ex c => exact fun F2 H2 q => h F2 H2 (p.trans q)
  | bad => exact h
theorem RAnd.later {Q : List V → Hp → Prop} {r : Res (List SV)} (p : Stp T F H F' H') (h : RAnd K T W F H σ δ Q r) : RAnd K T W F' H' σ δ Q r := by
  cases r with
  | ok s => exact fun v F2 H2 q r => h v F2 H2 (p.trans q) (r.old p.hh)
  | ex c => exact fun F2 H2 q => h F2 H2 (p.trans q)
  | bad => exact h
/-- one expression, then the rest: hk is asked where it has given a value -/
theorem rdE {F0 G : Hp} {fa : Env → Res SV} {Q' : VK} (E : EnvR K T F0 G F H σ δ)
    (hok : ∀ s, fa δ = .ok s → ∀ v F' H', Stp T F H F' H' → RepS K T F' H' H σ δ v s → Q' v H') (hex : ∀ c, fa δ = .ex c → ∀ F' H', Stp T F H F' H' → W (.ref (T.XA c)) none σ H') (hbad : fa δ = .bad → False) : rd K T W fa σ H Q' := by
  refine ⟨F0, G, F, δ, E, ?_⟩
  cases h : fa δ with
  | ok s => exact hok s h
  | ex c => exact hex c h
  | bad => exact hbad h
theorem rdTE {F0 G : Hp} {fa : Env → Res Bool} {Q' : Bool → Hp → Prop} (E : EnvR K T F0 G F H σ δ)
    (hok : ∀ s, fa δ = .ok s → ∀ F' H', Stp T F H F' H' → Q' s H') (hex : ∀ c, fa δ = .ex c → ∀ F' H', Stp T F H F' H' → W (.ref (T.XA c)) none σ H') (hbad : fa δ = .bad → False) : rdT K T W fa σ H Q' := by
  refine ⟨F0, G, F, δ, E, ?_⟩
  cases h : fa δ with
  | ok s => exact hok s h
  | ex c => exact hex c h
  | bad => exact hbad h
theorem rdAE {F0 G : Hp} {fa : Env → Res (List SV)} {Q' : List V → Hp → Prop} (E : EnvR K T F0 G F H σ δ)
    (hok : ∀ s, fa δ = .ok s → ∀ v F' H', Stp T F H F' H' → RepSs K T F' H' H σ δ v s → Q' v H') (hex : ∀ c, fa δ = .ex c → ∀ F' H', Stp T F H F' H' → W (.ref (T.XA c)) none σ H') (hbad : fa δ = .bad → False) : rdA K T W fa σ H Q' := by
  refine ⟨F0, G, F, δ, E, ?_⟩
  cases h : fa δ with
  | ok s => exact hok s h
  | ex c => exact hex c h
  | bad => exact hbad h
/-- an expression, then k of its value -/
theorem rd_bind {F0 G : Hp} {fa : Env → Res SV} {k : SV → Res SV} {Q Q' : VK} (E : EnvR K T F0 G F H σ δ) (h : REnd K T W F H σ δ Q ((fa δ).bind k))
    (hk : ∀ v s F' H', Stp T F H F' H' → RepS K T F' H' H σ δ v s → REnd K T W F H σ δ Q (k s) → Q' v H') : rd K T W fa σ H Q' :=
  rdE E (fun s e v F' H' p r => hk v s F' H' p r (by rw [e] at h; exact h)) (fun c e => by rw [e] at h; exact h) fun e => by rw [e] at h; exact h
theorem rdT_bind {F0 G : Hp} {fa : Env → Res Bool} {k : Bool → Res SV} {Q : VK} {Q' : Bool → Hp → Prop} (E : EnvR K T F0 G F H σ δ) (h : REnd K T W F H σ δ Q ((fa δ).bind k))
    (hk : ∀ s F' H', Stp T F H F' H' → REnd K T W F H σ δ Q (k s) → Q' s H') : rdT K T W fa σ H Q' :=
  rdTE E (fun s e F' H' p => hk s F' H' p (by rw [e] at h; exact h)) (fun c e => by rw [e] at h; exact h) fun e => by rw [e] at h; exact h
theorem rdA_bind {F0 G : Hp} {fa : Env → Res (List SV)} {k : List SV → Res SV} {Q : VK} {Q' : List V → Hp → Prop} (E : EnvR K T F0 G F H σ δ) (h : REnd K T W F H σ δ Q ((fa δ).bind k))
    (hk : ∀ v s F' H', Stp T F H F' H' → RepSs K T F' H' H σ δ v s → REnd K T W F H σ δ Q (k s) → Q' v H') : rdA K T W fa σ H Q' :=
  rdAE E (fun s e v F' H' p r => hk v s F' H' p r (by rw [e] at h; exact h)) (fun c e => by rw [e] at h; exact h) fun e => by rw [e] at h; exact h
theorem rd_bindT {F0 G : Hp} {fa : Env → Res SV} {k : SV → Res Bool} {Q : Bool → Hp → Prop} {Q' : VK} (E : EnvR K T F0 G F H σ δ) (h : RTnd T W F H σ δ Q ((fa δ).bind k))
    (hk : ∀ v s F' H', Stp T F H F' H' → RepS K T F' H' H σ δ v s → RTnd T W F H σ δ Q (k s) → Q' v H') : rd K T W fa σ H Q' :=
  rdE E (fun s e v F' H' p r => hk v s F' H' p r (by rw [e] at h; exact h)) (fun c e => by rw [e] at h; exact h) fun e => by rw [e] at h; exact h
theorem rdT_bindT {F0 G : Hp} {fa : Env → Res Bool} {k : Bool → Res Bool} {Q Q' : Bool → Hp → Prop} (E : EnvR K T F0 G F H σ δ) (h : RTnd T W F H σ δ Q ((fa δ).bind k))
    (hk : ∀ s F' H', Stp T F H F' H' → RTnd T W F H σ δ Q (k s) → Q' s H') : rdT K T W fa σ H Q' :=
  rdTE E (fun s e F' H' p => hk s F' H' p (by rw [e] at h; exact h)) (fun c e => by rw [e] at h; exact h) fun e => by rw [e] at h; exact h
theorem rd_bindA {F0 G : Hp} {fa : Env → Res SV} {k : SV → Res (List SV)} {Q : List V → Hp → Prop} {Q' : VK} (E : EnvR K T F0 G F H σ δ) (h : RAnd K T W F H σ δ Q ((fa δ).bind k))
    (hk : ∀ v s F' H', Stp T F H F' H' → RepS K T F' H' H σ δ v s → RAnd K T W F H σ δ Q (k s) → Q' v H') : rd K T W fa σ H Q' :=
  rdE E (fun s e v F' H' p r => hk v s F' H' p r (by rw [e] at h; exact h)) (fun c e => by rw [e] at h; exact h) fun e => by rw [e] at h; exact h
theorem rdA_bindA {F0 G : Hp} {fa : Env → Res (List SV)} {k : List SV → Res (List SV)} {Q Q' : List V → Hp → Prop} (E : EnvR K T F0 G F H σ δ) (h : RAnd K T W F H σ δ Q ((fa δ).bind k))
    (hk : ∀ v s F' H', Stp T F H F' H' → RepSs K T F' H' H σ δ v s → RAnd K T W F H σ δ Q (k s) → Q' v H') : rdA K T W fa σ H Q' :=
  rdAE E (fun s e v F' H' p r => hk v s F' H' p r (by rw [e] at h; exact h)) (fun c e => by rw [e] at h; exact h) fun e => by rw [e] at h; exact h
end

section
variable {X : Cx} {T : Tb} {W : WX} {e a b : Expr} {pos : Pos}
theorem de_var {i : Nat} {x : Str} (h : PE X (.Name x pos) (tVar i)) : PE X (.Name x pos) (rd X.K T W (fVar i)) := PEimp h fun σ H Q ⟨F0, G, F, δ, E, q⟩ => by
  unfold fVar at q
  split at q
  · rename_i d e
    obtain ⟨v, h1, h2⟩ := E.sh i d e
    exact ⟨v, h1, q v F H (Stp.refl E.fh) h2⟩
  · rename_i ds e
    obtain ⟨v, h1, h2⟩ := E.br e
    exact ⟨v, h1, q v F H (Stp.refl E.fh) h2⟩
  · exact q.elim
theorem de_c {v : V} {d : D} (h : PE X e (tC v)) (r : ∀ F, Rep X.K T F v d) : PE X e (rd X.K T W (fC d)) := PEimp h fun σ H Q ⟨F0, G, F, δ, E, q⟩ => q v F H (Stp.refl E.fh) (r F)
theorem de_int {i : Int} {j} : PE X (.Constant (.int i) j pos) (rd X.K T W (fC (.int i))) := de_c pe_int fun _ => .int i
theorem de_bl {i : Bool} {j} : PE X (.Constant (.bool i) j pos) (rd X.K T W (fC (.bl i))) := de_c pe_bl fun _ => .bl i
theorem de_non {j} : PE X (.Constant .none j pos) (rd X.K T W (fC .non)) := de_c pe_non fun _ => .non
theorem de_str {x : Str} {j} : PE X (.Constant (.str x) j pos) (rd X.K T W (fC (.str x))) := de_c pe_str fun _ => .str x

/-- what an operation gives: v in the heap H' is s -/
def RepN (K : PySem.W.Frag) (T : Tb) (F' H' H : Hp) (v : V) : SV → Prop
  | .sh d => Rep K T F' v d
  | .ow ds => ∃ a vs, v = .ref a ∧ H a = none ∧ F' a = none ∧ H' a = some (.lst vs) ∧ Reps K T F' vs ds
  | .br _ _ => False
def Gives (K : PySem.W.Frag) (T : Tb) (F H : Hp) (s : SV) (v : V) (H' : Hp) : Prop := ∃ F', Stp T F H F' H' ∧ RepN K T F' H' H v s
theorem RepN.s {K : PySem.W.Frag} {T : Tb} {F' H' H : Hp} {v : V} {s : SV} {σ : L2.St} {δ : Env} (h : RepN K T F' H' H v s) : RepS K T F' H' H σ δ v s := by
  cases s with
  | sh d => exact h
  | ow ds => exact h
  | br i ds => exact h.elim
/-- what an operation on two data does, by the heap -/
def Good2 (K : PySem.W.Frag) (T : Tb) (r : R2) (g : D → D → Option SV) : Prop := ∀ (F H : Hp) (x y : V) (d e : D) (s : SV) (Q : VK), Exn F H → RepB K T F H x d → RepB K T F H y e → g d e = some s →
  (∀ v H', Gives K T F H s v H' → Q v H') → r x y H Q
def Good1 (K : PySem.W.Frag) (T : Tb) (r : V → Hp → VK → Prop) (g : D → Option SV) : Prop := ∀ (F H : Hp) (x : V) (d : D) (s : SV) (Q : VK), Exn F H → RepB K T F H x d → g d = some s →
  (∀ v H', Gives K T F H s v H' → Q v H') → r x H Q
theorem gives_end {K : PySem.W.Frag} {F H H' : Hp} {σ : L2.St} {δ : Env} {s : SV} {v : V} {Q : VK} (g : Gives K T F H s v H') (h : REnd K T W F H σ δ Q (.ok s)) : Q v H' := by
  obtain ⟨F', p, r⟩ := g
  exact h v F' H' p r.s
theorem rd_f2 {K : PySem.W.Frag} {σ : L2.St} {H : Hp} {Q : VK} {r : R2} {g : D → D → Option SV} {fa fb : Env → Res SV} (hg : Good2 K T r g) (h : rd K T W (f2 g fa fb) σ H Q) : tOp r (rd K T W fa) (rd K T W fb) σ H Q := by
  obtain ⟨F0, G, F, δ, E, h⟩ := h
  refine rd_bind E h fun x s F1 H1 p1 r1 h1 => ?_
  refine rd_bind (E.grow p1) (h1.later p1) fun y s2 F2 H2 p2 r2 h2 => ?_
  cases q : g s.d s2.d with
  | none => rw [q] at h2; exact h2.elim
  | some z =>
    rw [q] at h2
    exact hg F2 H2 x y s.d s2.d z Q p2.fh ((r1.b p1.fh).mono p2.ff p2.hh) (r2.b p2.fh) q fun v H' gv => gives_end gv (h2.later p2)
theorem rd_f1 {K : PySem.W.Frag} {σ : L2.St} {H : Hp} {Q : VK} {r : V → Hp → VK → Prop} {g : D → Option SV} {fa : Env → Res SV} (hg : Good1 K T r g) (h : rd K T W (f1 g fa) σ H Q) : tUn r (rd K T W fa) σ H Q := by
  obtain ⟨F0, G, F, δ, E, h⟩ := h
  refine rd_bind E h fun x s F1 H1 p1 r1 h1 => ?_
  cases q : g s.d with
  | none => rw [q] at h1; exact h1.elim
  | some z =>
    rw [q] at h1
    exact hg F1 H1 x s.d z Q p1.fh (r1.b p1.fh) q fun v H' gv => gives_end gv (h1.later p1)
theorem de_op {op : Operator} {r : R2} {g : D → D → Option SV} {fa fb : Env → Res SV} (ho : OpR X (binaryOp op) r) (hg : Good2 X.K T r g) (ha : PE X a (rd X.K T W fa)) (hb : PE X b (rd X.K T W fb)) : PE X (.BinOp a op b pos) (rd X.K T W (f2 g fa fb)) :=
  PEimp (pe_op ho ha hb) fun _ _ _ h => rd_f2 hg h
theorem de_cmp {op : CmpOp} {r : R2} {g : D → D → Option SV} {fa fb : Env → Res SV} (ho : OpR X (compareOp op) r) (hg : Good2 X.K T r g) (ha : PE X a (rd X.K T W fa)) (hb : PE X b (rd X.K T W fb)) (hm : behindInMarks op b = false) : PE X (.Compare a [op] [b] pos) (rd X.K T W (f2 g fa fb)) :=
  PEimp (pe_cmpR ho ha hb hm) fun _ _ _ h => rd_f2 hg h
theorem de_un {op : UnaryOp} {r : V → Hp → VK → Prop} {g : D → Option SV} {fa : Env → Res SV} (ho : UnR X (unaryOp op) r) (hg : Good1 X.K T r g) (ha : PE X a (rd X.K T W fa)) : PE X (.UnaryOp op a pos) (rd X.K T W (f1 g fa)) :=
  PEimp (pe_un ho ha) fun _ _ _ h => rd_f1 hg h
theorem de_ix {r : R2} {g : D → D → Option SV} {fa fb : Env → Res SV} (ho : IxR X r) (hg : Good2 X.K T r g) (ha : PE X a (rd X.K T W fa)) (hb : PE X b (rd X.K T W fb)) (hs : PlainIx b) : PE X (.Subscript a b pos) (rd X.K T W (f2 g fa fb)) :=
  PEimp (pe_ix ho ha hb hs) fun _ _ _ h => rd_f2 hg h
end
end DL
end

section
set_option Elab.async false
set_option linter.all false
set_option autoImplicit false
set_option maxRecDepth 100000
set_option maxHeartbeats 4000000
namespace DL
open PySem L2
/-! ### tests -/
section
variable {X : Cx} {T : Tb} {W : WX} {e a b c : Expr} {pos : Pos} {rest : List Expr}
theorem rd_fT {K : PySem.W.Frag} {σ : L2.St} {H : Hp} {Q : Bool → Hp → Prop} {f : Env → Res SV} (h : rdT K T W (fT f) σ H Q) : rd K T W f σ H (fun x H1 => ∃ k, x = .bl k ∧ Q k H1) := by
  obtain ⟨F0, G, F, δ, E, h⟩ := h
  refine rd_bindT E h fun v s F1 H1 p r h1 => ?_
  cases s with
  | sh d =>
    cases d with
    | bl k =>
      cases r with
      | bl => exact ⟨k, rfl, h1 F1 H1 p⟩
    | _ => exact h1.elim
  | _ => exact h1.elim
theorem dt_val {f : Env → Res SV} (h : PE X e (rd X.K T W f)) (he : ∀ whole, isTrue e X.env whole = (do let v ← whole; standAt e.pos; holding [v] (truthy v)) := by intro _; rfl) : PT X e (rdT X.K T W (fT f)) :=
  PTimp (pt_val h he) fun _ _ _ h => rd_fT h
theorem dt_cmp {op : CmpOp} {r : R2} {g : D → D → Option SV} {fa fb : Env → Res SV} (ho : OpR X (compareOp op) r) (hg : Good2 X.K T r g) (ha : PE X a (rd X.K T W fa)) (hb : PE X b (rd X.K T W fb)) (hm : behindInMarks op b = false) : PT X (.Compare a [op] [b] pos) (rdT X.K T W (fT (f2 g fa fb))) :=
  PTimp (pt_cmpR ho ha hb hm) fun _ _ _ h => rd_f2 hg (rd_fT h)
/-- a op b op' c -/
def fChain (g g' : D → D → Option SV) (fa fb fc : Env → Res SV) : Env → Res SV := fun δ => (fa δ).bind fun x => (fb δ).bind fun y => match g x.d y.d with
  | some (.sh (.bl k)) => if k = true then (fc δ).bind fun z => Res.ofO (g' y.d z.d) else .ok (.sh (.bl false))
  | _ => .bad
theorem rd_chain {K : PySem.W.Frag} {σ : L2.St} {H : Hp} {Q : VK} {r r' : R2} {g g' : D → D → Option SV} {fa fb fc : Env → Res SV} (hg : Good2 K T r g) (hg' : Good2 K T r' g') (h : rd K T W (fChain g g' fa fb fc) σ H Q) :
    tChain r r' (rd K T W fa) (rd K T W fb) (rd K T W fc) σ H Q := by
  obtain ⟨F0, G, F, δ, E, h⟩ := h
  refine rd_bind E h fun x s F1 H1 p1 r1 h1 => ?_
  refine rd_bind (E.grow p1) (h1.later p1) fun y s2 F2 H2 p2 r2 h2 => ?_
  cases q : g s.d s2.d with
  | none => rw [q] at h2; exact h2.elim
  | some z =>
    rw [q] at h2
    cases z with
    | sh d =>
      cases d with
      | bl k =>
        refine hg F2 H2 x y s.d s2.d _ _ p2.fh ((r1.b p1.fh).mono p2.ff p2.hh) (r2.b p2.fh) q fun v H3 gv => ?_
        obtain ⟨F3, p3, rv⟩ := gv
        cases rv with
        | bl =>
          refine ⟨k, rfl, ?_⟩
          cases k with
          | true =>
            refine iteT ?_
            have p23 := p2.trans p3
            refine rd_bind ((E.grow p1).grow p23) (h2.later p23) fun w s4 F4 H4 p4 r4 h4 => ?_
            cases q' : g' s2.d s4.d with
            | none => rw [q'] at h4; exact h4.elim
            | some z' =>
              rw [q'] at h4
              exact hg' F4 H4 y w s2.d s4.d z' Q p4.fh ((r2.b p2.fh).mono (p3.trans p4).ff (p3.trans p4).hh) (r4.b p4.fh) q' fun v H' gv => gives_end gv (h4.later p4)
          | false =>
            refine iteF ?_
            exact h2 (.bl false) F3 H3 (p2.trans p3) (.bl false)
      | _ => exact h2.elim
    | _ => exact h2.elim
theorem de_chain {op op' : CmpOp} {r r' : R2} {g g' : D → D → Option SV} {fa fb fc : Env → Res SV} (ho : OpR X (compareOp op) r) (ho' : OpR X (compareOp op') r') (hg : Good2 X.K T r g) (hg' : Good2 X.K T r' g') (ha : PE X a (rd X.K T W fa)) (hb : PE X b (rd X.K T W fb)) (hc : PE X c (rd X.K T W fc))
    (hm : lastMarks [op, op'] [b, c] = false := by with_unfolding_all rfl) : PE X (.Compare a [op, op'] [b, c] pos) (rd X.K T W (fChain g g' fa fb fc)) :=
  PEimp (pe_chain ho ho' ha hb hc hm) fun _ _ _ h => rd_chain hg hg' h
theorem dt_chain {op op' : CmpOp} {r r' : R2} {g g' : D → D → Option SV} {fa fb fc : Env → Res SV} (ho : OpR X (compareOp op) r) (ho' : OpR X (compareOp op') r') (hg : Good2 X.K T r g) (hg' : Good2 X.K T r' g') (ha : PE X a (rd X.K T W fa)) (hb : PE X b (rd X.K T W fb)) (hc : PE X c (rd X.K T W fc))
    (hm : lastMarks [op, op'] [b, c] = false := by with_unfolding_all rfl) : PT X (.Compare a [op, op'] [b, c] pos) (rdT X.K T W (fT (fChain g g' fa fb fc))) :=
  PTimp (pt_chain ho ho' ha hb hc hm) fun _ _ _ h => rd_chain hg hg' (rd_fT h)

theorem rdT_and {K : PySem.W.Frag} {σ : L2.St} {H : Hp} {Q : Bool → Hp → Prop} {fa fb : Env → Res Bool} (h : rdT K T W (fAnd fa fb) σ H Q) : tAnd (rdT K T W fa) (rdT K T W fb) σ H Q := by
  obtain ⟨F0, G, F, δ, E, h⟩ := h
  refine rdT_bindT E h fun s F1 H1 p1 h1 => ?_
  cases s with
  | true => exact iteT ⟨F0, G, F1, δ, E.grow p1, h1.later p1⟩
  | false => exact iteF (h1 F1 H1 p1)
theorem rdT_or {K : PySem.W.Frag} {σ : L2.St} {H : Hp} {Q : Bool → Hp → Prop} {fa fb : Env → Res Bool} (h : rdT K T W (fOr fa fb) σ H Q) : tOr (rdT K T W fa) (rdT K T W fb) σ H Q := by
  obtain ⟨F0, G, F, δ, E, h⟩ := h
  refine rdT_bindT E h fun s F1 H1 p1 h1 => ?_
  cases s with
  | true => exact iteT (h1 F1 H1 p1)
  | false => exact iteF ⟨F0, G, F1, δ, E.grow p1, h1.later p1⟩
theorem rdT_not {K : PySem.W.Frag} {σ : L2.St} {H : Hp} {Q : Bool → Hp → Prop} {fa : Env → Res Bool} (h : rdT K T W (fNot fa) σ H Q) : tNot (rdT K T W fa) σ H Q := by
  obtain ⟨F0, G, F, δ, E, h⟩ := h
  exact rdT_bindT E h fun s F1 H1 p1 h1 => h1 F1 H1 p1
theorem dw_and {fa fb : Env → Res Bool} (ha : PT X a (rdT X.K T W fa)) (hb : PW X (.BoolOp .And (b :: rest) pos) (rdT X.K T W fb)) : PW X (.BoolOp .And (a :: b :: rest) pos) (rdT X.K T W (fAnd fa fb)) := PWimp (pw_and ha hb) fun _ _ _ h => rdT_and h
theorem dw_or {fa fb : Env → Res Bool} (ha : PT X a (rdT X.K T W fa)) (hb : PW X (.BoolOp .Or (b :: rest) pos) (rdT X.K T W fb)) : PW X (.BoolOp .Or (a :: b :: rest) pos) (rdT X.K T W (fOr fa fb)) := PWimp (pw_or ha hb) fun _ _ _ h => rdT_or h
theorem dt_not {fa : Env → Res Bool} (ha : PT X a (rdT X.K T W fa)) : PT X (.UnaryOp .Not a pos) (rdT X.K T W (fNot fa)) := PTimp (pt_not ha) fun _ _ _ h => rdT_not h
/-- truths as values: a and b, a or b, not a -/
def fAndV (fa fb : Env → Res SV) : Env → Res SV := fun δ => ((fa δ).bind asB).bind fun x => if x = true then fb δ else .ok (.sh (.bl false))
def fOrV (fa fb : Env → Res SV) : Env → Res SV := fun δ => ((fa δ).bind asB).bind fun x => if x = true then .ok (.sh (.bl true)) else fb δ
def fNotV (fa : Env → Res SV) : Env → Res SV := fun δ => ((fa δ).bind asB).bind fun x => .ok (.sh (.bl (!x)))
theorem rd_asB {K : PySem.W.Frag} {F0 G F H : Hp} {σ : L2.St} {δ : Env} {Q : VK} {fa : Env → Res SV} {k : Bool → Res SV} {Q' : Bool → Hp → Prop} (E : EnvR K T F0 G F H σ δ) (h : REnd K T W F H σ δ Q (((fa δ).bind asB).bind k))
    (hk : ∀ b F' H', Stp T F H F' H' → REnd K T W F H σ δ Q (k b) → Q' b H') : rd K T W fa σ H (fun x H1 => ∃ c, x = .bl c ∧ Q' c H1) := by
  refine rdE E (fun s e v F' H' p r => ?_) (fun c e => by rw [e] at h; exact h) fun e => by rw [e] at h; exact h
  rw [e] at h
  cases s with
  | sh d =>
    cases d with
    | bl b =>
      cases r with
      | bl => exact ⟨b, rfl, hk b F' H' p h⟩
    | _ => exact h.elim
  | _ => exact h.elim
theorem de_and {fa fb : Env → Res SV} (ha : PE X a (rd X.K T W fa)) (hb : PE X (.BoolOp .And (b :: rest) pos) (rd X.K T W fb)) : PE X (.BoolOp .And (a :: b :: rest) pos) (rd X.K T W (fAndV fa fb)) :=
  PEimp (pe_and ha hb) fun σ H Q ⟨F0, G, F, δ, E, h⟩ => by
    refine rd_asB E h fun x F1 H1 p h1 => ?_
    cases x with
    | true => exact iteT ⟨F0, G, F1, δ, E.grow p, h1.later p⟩
    | false => exact iteF (h1 _ F1 H1 p (.bl false))
theorem de_or {fa fb : Env → Res SV} (ha : PE X a (rd X.K T W fa)) (hb : PE X (.BoolOp .Or (b :: rest) pos) (rd X.K T W fb)) : PE X (.BoolOp .Or (a :: b :: rest) pos) (rd X.K T W (fOrV fa fb)) :=
  PEimp (pe_or ha hb) fun σ H Q ⟨F0, G, F, δ, E, h⟩ => by
    refine rd_asB E h fun x F1 H1 p h1 => ?_
    cases x with
    | true => exact iteT (h1 _ F1 H1 p (.bl true))
    | false => exact iteF ⟨F0, G, F1, δ, E.grow p, h1.later p⟩
theorem de_not {fa : Env → Res SV} (ha : PE X a (rd X.K T W fa)) : PE X (.UnaryOp .Not a pos) (rd X.K T W (fNotV fa)) :=
  PEimp (pe_not ha) fun σ H Q ⟨F0, G, F, δ, E, h⟩ => rd_asB E h fun x F1 H1 p h1 => h1 _ F1 H1 p (.bl _)
theorem de_if {fc : Env → Res Bool} {fa fb : Env → Res SV} (hc : PT X c (rdT X.K T W fc)) (ha : PE X a (rd X.K T W fa)) (hb : PE X b (rd X.K T W fb)) : PE X (.IfExp c a b pos) (rd X.K T W (fIf fc fa fb)) :=
  PEimp (pe_ifExp hc ha hb) fun σ H Q ⟨F0, G, F, δ, E, h⟩ => by
    refine rdT_bind E h fun x F1 H1 p h1 => ?_
    cases x with
    | true => exact iteT ⟨F0, G, F1, δ, E.grow p, h1.later p⟩
    | false => exact iteF ⟨F0, G, F1, δ, E.grow p, h1.later p⟩

/-! ### arguments, displays -/
theorem RepS.anyz {K : PySem.W.Frag} {T : Tb} {F H H0 H1 : Hp} {σ : L2.St} {δ : Env} {v : V} {s : SV} (h : RepS K T F H H0 σ δ v s.fz) : RepS K T F H H1 σ δ v s.fz := by
  cases s with
  | sh d => exact h
  | ow ds => exact h
  | br i ds => exact h
theorem da_nil : PA X [] (rdA X.K T W aNil) := PAimp pa_nil fun σ H Q ⟨F0, G, F, δ, E, h⟩ => h [] F H (Stp.refl E.fh) .nil
theorem da_cons {fa : Env → Res SV} {fr : Env → Res (List SV)} (ha : PE X a (rd X.K T W fa)) (hr : PA X rest (rdA X.K T W fr)) (hs : starEach (a :: rest) X.env = (false, eval a X.env) :: starEach rest X.env := by rfl) : PA X (a :: rest) (rdA X.K T W (aCons fa fr)) :=
  PAimp (pa_cons ha hr hs) fun σ H Q ⟨F0, G, F, δ, E, h⟩ => by
    refine rd_bindA E h fun x s F1 H1 p1 r1 h1 => ?_
    obtain ⟨F1, p1, r1⟩ := r1.fz p1
    refine rdA_bindA (E.grow p1) (h1.later p1) fun vs ss F2 H2 p2 r2 h2 => ?_
    exact h2 (x :: vs) F2 H2 p2 (.cons (r1.anyz.mono p2) r2)
/-- the data of arguments; none of them a list that still grows -/
def stills : List SV → Option (List D)
  | [] => some []
  | .sh d :: r => (stills r).map (d :: ·)
  | _ :: _ => none
theorem stills_reps {K : PySem.W.Frag} {F H H0 : Hp} {σ : L2.St} {δ : Env} : ∀ {vs : List V} {ss : List SV} {ds : List D}, RepSs K T F H H0 σ δ vs ss → stills ss = some ds → Reps K T F vs ds
  | _, _, _, .nil, e => by cases e; exact .nil
  | _, _, ds, .cons (s := s) h r, e => by
    cases s with
    | sh d =>
      rename_i vs ss
      unfold stills at e
      cases q : stills ss with
      | none => rw [q] at e; cases e
      | some es =>
        rw [q] at e
        cases e
        exact .cons h (stills_reps r q)
    | _ => cases e
def fTup (fa : Env → Res (List SV)) : Env → Res SV := fun δ => (fa δ).bind fun ss => match stills ss with
  | some ds => if ds.length ≤ sizeLine then .ok (.sh (.tup ds)) else .bad
  | none => .bad
def fLst (fa : Env → Res (List SV)) : Env → Res SV := fun δ => (fa δ).bind fun ss => match stills ss with
  | some ds => if ds.length ≤ sizeLine then .ok (.ow ds) else .bad
  | none => .bad
theorem de_tup {fa : Env → Res (List SV)} {x1} (h : PA X rest (rdA X.K T W fa)) : PE X (.Tuple rest x1 pos) (rd X.K T W (fTup fa)) := PEimp (pe_tup h) fun σ H Q ⟨F0, G, F, δ, E, h⟩ => by
  refine rdA_bind E h fun vs ss F1 H1 p1 r1 h1 => ?_
  cases q : stills ss with
  | none => rw [q] at h1; exact h1.elim
  | some ds =>
    rw [q] at h1
    have r := stills_reps r1 q
    by_cases l : ds.length ≤ sizeLine
    · simp only [if_pos l] at h1
      refine ⟨by rw [r.length]; exact l, fun p hp => ?_⟩
      have st := Stp.newF (T := T) (o := .tup vs) p1.fh hp
      exact h1 _ _ _ (p1.trans st) (.tup (SqT.of upd_same) (r.mono st.ff))
    · simp only [if_neg l] at h1; exact h1.elim
theorem de_lst {fa : Env → Res (List SV)} (h : PA X rest (rdA X.K T W fa)) : PE X (.List rest pos) (rd X.K T W (fLst fa)) := PEimp (pe_lst h) fun σ H Q ⟨F0, G, F, δ, E, h⟩ => by
  refine rdA_bind E h fun vs ss F1 H1 p1 r1 h1 => ?_
  cases q : stills ss with
  | none => rw [q] at h1; exact h1.elim
  | some ds =>
    rw [q] at h1
    have r := stills_reps r1 q
    by_cases l : ds.length ≤ sizeLine
    · simp only [if_pos l] at h1
      refine ⟨by rw [r.length]; exact l, fun p hp => ?_⟩
      have st := Stp.new (T := T) (o := .lst vs) p1.fh hp
      exact h1 _ _ _ (p1.trans st) ⟨p, vs, rfl, Exn.back p1.hh hp, Exn.back p1.fh hp, upd_same, r⟩
    · simp only [if_neg l] at h1; exact h1.elim

/-! ### calls of built-ins -/
inductive RepBs (K : PySem.W.Frag) (T : Tb) (F H : Hp) : List V → List D → Prop
  | nil : RepBs K T F H [] []
  | cons {v : V} {d : D} {vs : List V} {ds : List D} (h : RepB K T F H v d) (r : RepBs K T F H vs ds) : RepBs K T F H (v :: vs) (d :: ds)
theorem RepSs.toB {K : PySem.W.Frag} {F H H0 : Hp} {σ : L2.St} {δ : Env} (e : Exn F H) : ∀ {vs : List V} {ss : List SV}, RepSs K T F H H0 σ δ vs ss → RepBs K T F H vs (ss.map SV.d)
  | _, _, .nil => .nil
  | _, _, .cons h r => .cons (h.b e) (RepSs.toB e r)
def GoodN (K : PySem.W.Frag) (T : Tb) (r : List V → Hp → VK → Prop) (g : List D → Option SV) : Prop := ∀ (F H : Hp) (vs : List V) (ds : List D) (s : SV) (Q : VK), Exn F H → RepBs K T F H vs ds → g ds = some s →
  (∀ v H', Gives K T F H s v H' → Q v H') → r vs H Q
def fN (g : List D → Option SV) (fa : Env → Res (List SV)) : Env → Res SV := fun δ => (fa δ).bind fun ss => Res.ofO (g (ss.map SV.d))
theorem rd_fN {K : PySem.W.Frag} {σ : L2.St} {H : Hp} {Q : VK} {r : List V → Hp → VK → Prop} {g : List D → Option SV} {fa : Env → Res (List SV)} (hg : GoodN K T r g) (h : rd K T W (fN g fa) σ H Q) : tCB r (rdA K T W fa) σ H Q := by
  obtain ⟨F0, G, F, δ, E, h⟩ := h
  refine rdA_bind E h fun vs ss F1 H1 p1 r1 h1 => ?_
  cases q : g (ss.map SV.d) with
  | none => rw [q] at h1; exact h1.elim
  | some z =>
    rw [q] at h1
    exact hg F1 H1 vs _ z Q p1.fh (r1.toB p1.fh) q fun v H' gv => gives_end gv (h1.later p1)
theorem de_callB {x : Str} {p : Pos} {id : String} {r : List V → Hp → VK → Prop} {g : List D → Option SV} {fa : Env → Res (List SV)} (hc : CallR X (.builtin id) r) (hq : GoodN X.K T r g) (hg : Gl X x) (hm : X.mg x = none) (hv : bootBuiltins x = some (.builtin id)) (ha : PA X (e :: rest) (rdA X.K T W fa)) (hn : x ≠ "__name__" := by decide) (hdb : (x == ("__debug__" : Str)) = false := by decide)
    (he : starEach (e :: rest) X.env = (false, eval e X.env) :: starEach rest X.env := by rfl) (hpl : (backTo pos (starEach rest X.env)).any (·.1) = false := by rfl) : PE X (.Call (.Name x p) (e :: rest) [] pos) (rd X.K T W (fN g fa)) :=
  PEimp (pe_callB hc hg hm hv ha hn hdb he hpl) fun _ _ _ h => rd_fN hq h
theorem de_callTy {x : Str} {p : Pos} {Ty : String} {r : List V → Hp → VK → Prop} {g : List D → Option SV} {fa : Env → Res (List SV)} (hc : CallR X (.type Ty) r) (hq : GoodN X.K T r g) (hg : Gl X x) (hm : X.mg x = none) (hv : bootBuiltins x = some (.type Ty)) (ha : PA X (e :: rest) (rdA X.K T W fa)) (hn : x ≠ "__name__" := by decide) (hdb : (x == ("__debug__" : Str)) = false := by decide)
    (he : starEach (e :: rest) X.env = (false, eval e X.env) :: starEach rest X.env := by rfl) (hpl : (backTo pos (starEach rest X.env)).any (·.1) = false := by rfl) : PE X (.Call (.Name x p) (e :: rest) [] pos) (rd X.K T W (fN g fa)) :=
  PEimp (pe_callTy hc hg hm hv ha hn hdb he hpl) fun _ _ _ h => rd_fN hq h
def tyD (Ty : String) : D → Bool
  | .str _ => Ty == "str"
  | .lst _ => Ty == "list"
  | .scr _ => Ty == "list"
  | _ => false
theorem tyD_ok {K : PySem.W.Frag} {F H : Hp} {Ty : String} {x : V} {d : D} (e : Exn F H) (h : RepB K T F H x d) (t : tyD Ty d = true) : tyV K Ty x H := by
  cases d with
  | str s =>
    cases h with
    | str => exact beq_iff_eq.mp t
  | lst ds =>
    obtain ⟨a, vs, rfl, h1, h2⟩ := h
    exact Or.inl ⟨beq_iff_eq.mp t, vs, SqL.of h1⟩
  | scr ds =>
    cases h with
    | scr h1 h2 => exact Or.inl ⟨beq_iff_eq.mp t, _, sqL_mono e h1⟩
  | _ => cases t
def fM (Ty : String) (g : D → List D → Option SV) (fo : Env → Res SV) (fa : Env → Res (List SV)) : Env → Res SV := fun δ => (fo δ).bind fun o => if tyD Ty o.d = true then (fa δ).bind fun ss => Res.ofO (g o.d (ss.map SV.d)) else .bad
def GoodR (K : PySem.W.Frag) (T : Tb) (r : V → List V → Hp → VK → Prop) (g : D → List D → Option SV) : Prop := ∀ (F H : Hp) (x : V) (vs : List V) (d : D) (ds : List D) (s : SV) (Q : VK), Exn F H → RepB K T F H x d → RepBs K T F H vs ds → g d ds = some s →
  (∀ v H', Gives K T F H s v H' → Q v H') → r x vs H Q
theorem rd_fM {K : PySem.W.Frag} {σ : L2.St} {H : Hp} {Q : VK} {Ty : String} {r : V → List V → Hp → VK → Prop} {g : D → List D → Option SV} {fo : Env → Res SV} {fa : Env → Res (List SV)} (hg : GoodR K T r g) (h : rd K T W (fM Ty g fo fa) σ H Q) : tBM K Ty r (rd K T W fo) (rdA K T W fa) σ H Q := by
  obtain ⟨F0, G, F, δ, E, h⟩ := h
  refine rd_bind E h fun x s F1 H1 p1 r1 h1 => ?_
  by_cases t : tyD Ty s.d = true
  · rw [if_pos t] at h1
    refine ⟨tyD_ok p1.fh (r1.b p1.fh) t, ?_⟩
    refine rdA_bind (E.grow p1) (h1.later p1) fun vs ss F2 H2 p2 r2 h2 => ?_
    cases q : g s.d (ss.map SV.d) with
    | none => rw [q] at h2; exact h2.elim
    | some z =>
      rw [q] at h2
      exact hg F2 H2 x vs _ _ z Q p2.fh ((r1.b p1.fh).mono p2.ff p2.hh) (r2.toB p2.fh) q fun v H' gv => gives_end gv (h2.later p2)
  · rw [if_neg t] at h1; exact h1.elim
theorem rd_fM0 {K : PySem.W.Frag} {σ : L2.St} {H : Hp} {Q : VK} {Ty : String} {r : V → List V → Hp → VK → Prop} {g : D → List D → Option SV} {fo : Env → Res SV} (hg : GoodR K T r g) (h : rd K T W (fM Ty g fo aNil) σ H Q) : tBM0 K Ty r (rd K T W fo) σ H Q := by
  obtain ⟨F0, G, F, δ, E, h⟩ := h
  refine rd_bind E h fun x s F1 H1 p1 r1 h1 => ?_
  by_cases t : tyD Ty s.d = true
  · rw [if_pos t] at h1
    refine ⟨tyD_ok p1.fh (r1.b p1.fh) t, ?_⟩
    have h1 : REnd K T W F H σ δ Q (Res.ofO (g s.d [])) := h1
    cases q : g s.d [] with
    | none => rw [q] at h1; exact h1.elim
    | some z =>
      rw [q] at h1
      exact hg F1 H1 x [] _ _ z Q p1.fh (r1.b p1.fh) .nil q fun v H' gv => gives_end gv (h1.later p1)
  · rw [if_neg t] at h1; exact h1.elim
theorem de_bm {o : Expr} {name : Str} {apos cpos : Pos} {Ty id : String} {r : V → List V → Hp → VK → Prop} {g : D → List D → Option SV} {fo : Env → Res SV} {fa : Env → Res (List SV)} (pa : PlainAttrs Ty) (slot : Slot Ty name id) (hty : typeOf (.builtin id) = pure (.type "method_descriptor")) (hm : MtR X id r) (hq : GoodR X.K T r g) (ho : PE X o (rd X.K T W fo)) (ha : PA X (e :: rest) (rdA X.K T W fa))
    (hbase : attributeBase o name X.env (eval o X.env) = eval o X.env := by rfl)
    (hfew : ((backTo cpos (starEach (e :: rest) X.env)).all (fun x => !x.1) && (backToKw cpos (keywordEach [] X.env)).all (fun x => x.1.isSome)
      && decide ((e :: rest).length + ([] : List Keyword).length + (if ([] : List Keyword).isEmpty then 0 else 1) < 30)) = true := by rfl)
    (hline : (apos.endLine == cpos.line) = true := by rfl) (hs : starEach (e :: rest) X.env = (false, eval e X.env) :: starEach rest X.env := by rfl) (hplain : (backTo cpos (starEach rest X.env)).any (·.1) = false := by rfl) :
    PE X (.Call (.Attribute o name apos) (e :: rest) [] cpos) (rd X.K T W (fM Ty g fo fa)) := PEimp (pe_bm pa slot hty hm ho ha hbase hfew hline hs hplain) fun _ _ _ h => rd_fM hq h
theorem de_bm0 {o : Expr} {name : Str} {apos cpos : Pos} {Ty id : String} {r : V → List V → Hp → VK → Prop} {g : D → List D → Option SV} {fo : Env → Res SV} (pa : PlainAttrs Ty) (slot : Slot Ty name id) (hty : typeOf (.builtin id) = pure (.type "method_descriptor")) (hm : MtR X id r) (hq : GoodR X.K T r g) (ho : PE X o (rd X.K T W fo))
    (hbase : attributeBase o name X.env (eval o X.env) = eval o X.env := by rfl) (hline : (apos.endLine == cpos.line) = true := by rfl) : PE X (.Call (.Attribute o name apos) [] [] cpos) (rd X.K T W (fM Ty g fo aNil)) := PEimp (pe_bm0 pa slot hty hm ho hbase hline) fun _ _ _ h => rd_fM0 hq h
end

/-! ### calls of the text's own defs -/
def scalarD : D → Bool
  | .non => true
  | .bl _ => true
  | .int _ => true
  | .str _ => true
  | _ => false
/-- a def's promise: phi tells what it gives of its arguments' data -/
def SpF (K : PySem.W.Frag) (T : Tb) (n : Nat) (phi : List D → Res SV) : Sp := fun vs H Q E => vs.length = n ∧ TbG T H ∧ ∃ F ds, Exn F H ∧ Reps K T F vs ds ∧ match phi ds with
  | .ok s => ∀ v H', Gives K T F H s v H' → Q v H'
  | .ex c => ∀ F' H', Stp T F H F' H' → E (.ref (T.XA c)) none H'
  | .bad => False
mutual
/-- no list is in it -/
def noL : D → Bool
  | .non => true
  | .bl _ => true
  | .int _ => true
  | .str _ => true
  | .tup ds => noLs ds
  | .dic _ _ => false
  | .gfn _ => true
  | _ => false
def noLs : List D → Bool
  | [] => true
  | d :: ds => noL d && noLs ds
end
/-- F' without the lists that grow in H -/
noncomputable def cutF (F F' H : Hp) : Hp := fun a => open Classical in if F a = none ∧ ∃ o, isM o = true ∧ H a = some o then none else F' a
theorem cutF_sub {F F' H : Hp} : Exn (cutF F F' H) F' := ⟨fun a o h _ => by
  unfold cutF at h
  split at h
  · cases h
  · exact h, fun a h => by
  unfold cutF
  split
  · rfl
  · exact h⟩
theorem cutF_sup {F F' H : Hp} (e : Exn F F') : Exn F (cutF F F' H) := ⟨fun a o h n => by
  unfold cutF
  rw [if_neg (fun z => by rw [h] at z; cases z.1)]
  exact e.a a o h n, fun a h => by
  unfold cutF at h
  split at h
  · rename_i z
    exact z.1
  · exact e.n a h⟩
theorem cutF_keep {F F' H : Hp} (e : Exn H F') {a : Addr} {o : HO} (h : F' a = some o) (n : isM o = false) : cutF F F' H a = some o := by
  unfold cutF
  rw [if_neg]
  · exact h
  · rintro ⟨_, u, m, q⟩
    have := e.a a _ q (nt_isM m)
    rw [h] at this
    cases this
    rw [n] at m
    cases m
mutual
theorem Rep.noLcut {K : PySem.W.Frag} {T : Tb} {F F' H : Hp} (e : Exn H F') : ∀ {v : V} {d : D}, Rep K T F' v d → noL d = true → Rep K T (cutF F F' H) v d
  | _, _, .non, _ => .non
  | _, _, .bl b, _ => .bl b
  | _, _, .int i, _ => .int i
  | _, _, .str s, _ => .str s
  | _, _, .tup h r, n => .tup (by
      rcases h with (h | ⟨o, h⟩) | h
      · exact .inl (.inl (cutF_keep e h rfl))
      · exact .inl (.inr ⟨o, cutF_keep e h rfl⟩)
      · exact .inr h) (Reps.noLcut e r (by unfold noL at n; exact n))
  | _, _, .lst _ _, n => by unfold noL at n; cases n
  | _, _, .scr _ _, n => by unfold noL at n; cases n
  | _, _, .ins _ _, n => by unfold noL at n; cases n
  | _, _, .exc _, n => by unfold noL at n; cases n
  | _, _, .clo _ _ _ _ _, n => by unfold noL at n; cases n
  | _, _, .dic h hl r, n => by unfold noL at n; cases n
  | _, _, .gfn k, n => .gfn k
theorem Reps.noLcut {K : PySem.W.Frag} {T : Tb} {F F' H : Hp} (e : Exn H F') : ∀ {v : List V} {d : List D}, Reps K T F' v d → noLs d = true → Reps K T (cutF F F' H) v d
  | _, _, .nil, _ => .nil
  | _, _, .cons h r, n => by
    unfold noLs at n
    rw [Bool.and_eq_true] at n
    exact .cons (Rep.noLcut e h n.1) (Reps.noLcut e r n.2)
end
theorem Stp.cut {T : Tb} {F H F' H' : Hp} (e : Exn F H) (p : Stp T H H F' H') : Stp T F H (cutF F F' H) H' :=
  ⟨cutF_sup (Exn.trans e p.ff), Exn.trans cutF_sub p.fh, p.hh, fun a o m h1 h2 => by
    unfold cutF
    rw [if_pos ⟨h1, o, m, h2⟩], p.tb⟩
/-- a list that still grows may be handed in where no list comes back, or a new one of no lists -/
def fCall (n : Nat) (phi : List D → Res SV) (dds : List D) (fa : Env → Res (List SV)) : Env → Res SV := fun δ => (fa δ).bind fun ss => if ss.length + dds.length = n then match stills ss with
  | some ds => phi (ds ++ dds)
  | none => match phi (ss.map SV.d ++ dds) with
    | .ok (.sh d) => if noL d = true then .ok (.sh d) else .bad
    | .ok (.ow es) => if noLs es = true then .ok (.ow es) else .bad
    | .ex c => .ex c
    | _ => .bad else .bad
theorem RepSs.length {K : PySem.W.Frag} {T : Tb} {F H H0 : Hp} {σ : L2.St} {δ : Env} : ∀ {vs : List V} {ss : List SV}, RepSs K T F H H0 σ δ vs ss → vs.length = ss.length
  | _, _, .nil => rfl
  | _, _, .cons _ r => congrArg Nat.succ (RepSs.length r)
theorem RepB.full {K : PySem.W.Frag} {T : Tb} {F H : Hp} {v : V} {d : D} (e : Exn F H) (h : RepB K T F H v d) : Rep K T H v d := by
  cases d with
  | lst ds =>
    obtain ⟨a, vs, rfl, h1, h2⟩ := h
    exact .lst h1 (h2.mono e)
  | _ => exact Rep.mono e h
theorem RepBs.full {K : PySem.W.Frag} {T : Tb} {F H : Hp} (e : Exn F H) : ∀ {vs : List V} {ds : List D}, RepBs K T F H vs ds → Reps K T H vs ds
  | _, _, .nil => .nil
  | _, _, .cons h r => .cons (h.full e) (RepBs.full e r)
theorem Rep.scalar {K : PySem.W.Frag} {T : Tb} {F F' : Hp} {v : V} {d : D} (s : scalarD d = true) (h : Rep K T F v d) : Rep K T F' v d := by
  cases h with
  | non => exact .non
  | bl b => exact .bl b
  | int i => exact .int i
  | str z => exact .str z
  | _ => cases s
theorem rd_call {K : PySem.W.Frag} {T : Tb} {W : WX} {σ : L2.St} {H : Hp} {Q : VK} {n : Nat} {phi : List D → Res SV} {dvs : List V} {dds : List D} {fa : Env → Res (List SV)} (hd : ∀ F, Reps K T F dvs dds) (h : rd K T W (fCall n phi dds fa) σ H Q) :
    tCallSD (SpF K T n phi) dvs (WE W) (rdA K T W fa) σ H Q := by
  obtain ⟨F0, G, F, δ, E, h⟩ := h
  refine rdA_bind E h fun vs ss F1 H1 p1 r1 h1 => ?_
  by_cases l : ss.length + dds.length = n
  · rw [if_pos l] at h1
    refine ⟨by rw [List.length_append, r1.length, (hd F).length]; exact l, p1.tb E.tb, ?_⟩
    cases q : stills ss with
    | some ds =>
      rw [q] at h1
      dsimp only at h1
      refine ⟨F1, ds ++ dds, p1.fh, (stills_reps r1 q).append (hd F1), ?_⟩
      revert h1
      cases phi (ds ++ dds) with
      | ok s => exact fun h1 v H' g => gives_end g (h1.later p1)
      | ex c => exact fun h1 F' H' p => h1 F' H' (p1.trans p)
      | bad => exact fun h1 => h1
    | none =>
      rw [q] at h1
      dsimp only at h1
      refine ⟨H1, ss.map SV.d ++ dds, Exn.refl _, ((r1.toB p1.fh).full p1.fh).append (hd H1), ?_⟩
      revert h1
      cases phi (ss.map SV.d ++ dds) with
      | ok s =>
        intro h1 v H' g
        obtain ⟨F2, p2, r2⟩ := g
        cases s with
        | sh d =>
          by_cases sc : noL d = true
          · simp only [if_pos sc] at h1
            exact (h1.later p1) v (cutF F1 F2 H1) H' (Stp.cut p1.fh p2) (Rep.noLcut p2.ff r2 sc)
          · simp only [if_neg sc] at h1; exact h1.elim
        | ow ds =>
          by_cases sc : noLs ds = true
          · simp only [if_pos sc] at h1
            obtain ⟨a, vs, rfl, q1, q2, q3, q4⟩ := r2
            refine (h1.later p1) _ (cutF F1 F2 H1) H' (Stp.cut p1.fh p2) ⟨a, vs, rfl, q1, ?_, q3, Reps.noLcut p2.ff q4 sc⟩
            unfold cutF
            split
            · rfl
            · exact q2
          · simp only [if_neg sc] at h1; exact h1.elim
        | br i ds => exact h1.elim
      | ex c => exact fun h1 F' H' p => (h1.later p1) F1 H' ⟨Exn.refl _, Exn.trans p1.fh p.hh, p.hh, fun _ _ _ z _ => z, p.tb⟩
      | bad => exact fun h1 => h1.elim
  · rw [if_neg l] at h1; exact h1.elim
theorem de_call {X : Cx} {T : Tb} {W : WX} {CX : CXT} {k n : Nat} {f : Addr} {fd : FuncData} {ps : List Str} {phi : List D → Res SV} {dvs : List V} {dds : List D} {ds : List Value} {x : Str} {p pos : Pos} {e : Expr} {es : List Expr} {fa : Env → Res (List SV)}
    (F : FnOk X.prog X.w X.K X.mg X.base CX k f fd ps (SpF X.K T n phi)) (hr : Room k X.A) (hg : Gl X x) (hm : X.mg x = some (.ref f)) (hk : PySem.W.keepIn X.K (.ref f) = true) (hb : Binds X.K fd ps ds) (hd : Vals dvs ds) (hdd : ∀ F, Reps X.K T F dvs dds) (hx : ∀ σ, PassesAt CX X σ (WE W σ))
    (ha : PA X (e :: es) (rdA X.K T W fa)) (hdb : (x == ("__debug__" : Str)) = false := by decide) (he : starEach (e :: es) X.env = (false, eval e X.env) :: starEach es X.env := by rfl) (hpl : (backTo pos (starEach es X.env)).any (·.1) = false := by rfl) :
    PE X (.Call (.Name x p) (e :: es) [] pos) (rd X.K T W (fCall n phi dds fa)) := PEimp (pe_callSD F hr hg hm hk hb hd hx ha hdb he hpl) fun _ _ _ h => rd_call hdd h
end DL
end

section
set_option Elab.async false
set_option linter.all false
set_option autoImplicit false
set_option maxRecDepth 100000
set_option maxHeartbeats 4000000
namespace DL
open PySem L2
/-! ### statements -/
inductive Out where
  | nx (δ : Env) | rt (s : SV) | bk (δ : Env) | ct (δ : Env) | ex (c : Nat) (δ : Env) | bad
abbrev FS := Env → Out
def Out.seq (o : Out) (b : FS) : Out := match o with
  | .nx δ => b δ
  | r => r
@[simp] theorem seq_nx (δ : Env) (b : FS) : (Out.nx δ).seq b = b δ := rfl
@[simp] theorem seq_rt (s : SV) (b : FS) : (Out.rt s).seq b = .rt s := rfl
@[simp] theorem seq_bk (δ : Env) (b : FS) : (Out.bk δ).seq b = .bk δ := rfl
@[simp] theorem seq_ct (δ : Env) (b : FS) : (Out.ct δ).seq b = .ct δ := rfl
@[simp] theorem seq_ex (c : Nat) (δ : Env) (b : FS) : (Out.ex c δ).seq b = .ex c δ := rfl
@[simp] theorem seq_bad (b : FS) : Out.bad.seq b = .bad := rfl
/-- of an expression's end a statement's -/
def Res.out {α : Type} (r : Res α) (δ : Env) (k : α → Out) : Out := match r with
  | .ok a => k a
  | .ex c => .ex c δ
  | .bad => .bad
@[simp] theorem out_ok {α : Type} (a : α) (δ : Env) (k : α → Out) : (Res.ok a).out δ k = k a := rfl
@[simp] theorem out_ex {α : Type} (c : Nat) (δ : Env) (k : α → Out) : (Res.ex c : Res α).out δ k = .ex c δ := rfl
@[simp] theorem out_bad {α : Type} (δ : Env) (k : α → Out) : (Res.bad : Res α).out δ k = .bad := rfl

section
variable (K : PySem.W.Frag) (T : Tb) (W : WX)
def SEnd (F0 G F : Hp) (D : Ends) : Out → Prop
  | .nx δ => ∀ σ F' H', EnvR K T F0 G F' H' σ δ → Exn F F' → D.nx σ H'
  | .rt s => ∀ v F' H', Exn F0 F' → Exn F' H' → Exn G H' → Frs F0 F' G → TbG T H' → RepN K T F' H' G v s → D.rt v H'
  | .bk δ => ∀ σ F' H', EnvR K T F0 G F' H' σ δ → Exn F F' → D.bk σ H'
  | .ct δ => ∀ σ F' H', EnvR K T F0 G F' H' σ δ → Exn F F' → D.ct σ H'
  | .ex c δ => ∀ σ F' H', EnvR K T F0 G F' H' σ δ → Exn F F' → W (.ref (T.XA c)) none σ H'
  | .bad => False
def rdS (f : FS) : TS := fun D σ H => ∃ F0 G F δ, EnvR K T F0 G F H σ δ ∧ SEnd K T W F0 G F D (f δ)
end
theorem PSimp {X : Cx} {e : Stmt} {t t' : TS} (h : PS X e t) (i : ∀ D σ H, t' D σ H → t D σ H) : PS X e t' := ⟨fun pins s σ H D I q => h.run pins s σ H D I (i D σ H q)⟩
theorem PSsimp {X : Cx} {e : List Stmt} {t t' : TS} (h : PSs X e t) (i : ∀ D σ H, t' D σ H → t D σ H) : PSs X e t' := ⟨fun pins s σ H D I q => h.run pins s σ H D I (i D σ H q)⟩
section
variable {K : PySem.W.Frag} {T : Tb} {W : WX} {F0 G F F' H H' : Hp} {σ : L2.St} {δ : Env} {En : Ends}
theorem SEnd.later {o : Out} (e : Exn F F') (h : SEnd K T W F0 G F En o) : SEnd K T W F0 G F' En o := by
  cases o with
  | nx δ => exact fun σ F2 H2 E q => h σ F2 H2 E (Exn.trans e q)
  | rt s => exact h
  | bk δ => exact fun σ F2 H2 E q => h σ F2 H2 E (Exn.trans e q)
  | ct δ => exact fun σ F2 H2 E q => h σ F2 H2 E (Exn.trans e q)
  | ex c δ => exact fun σ F2 H2 E q => h σ F2 H2 E (Exn.trans e q)
  | bad => exact h
/-- an expression, then the statement's end -/
theorem rd_out {f : Env → Res SV} {k : SV → Out} {Q : VK} (E : EnvR K T F0 G F H σ δ) (h : SEnd K T W F0 G F En ((f δ).out δ k))
    (hk : ∀ v s F' H', Stp T F H F' H' → RepS K T F' H' H σ δ v s → SEnd K T W F0 G F En (k s) → Q v H') : rd K T W f σ H Q :=
  rdE E (fun s e v F' H' p r => hk v s F' H' p r (by rw [e] at h; exact h)) (fun c e => by rw [e] at h; exact fun F' H' p => h σ F' H' (E.grow p) p.ff) fun e => by rw [e] at h; exact h
theorem rdT_out {f : Env → Res Bool} {k : Bool → Out} {Q : Bool → Hp → Prop} (E : EnvR K T F0 G F H σ δ) (h : SEnd K T W F0 G F En ((f δ).out δ k))
    (hk : ∀ s F' H', Stp T F H F' H' → SEnd K T W F0 G F En (k s) → Q s H') : rdT K T W f σ H Q :=
  rdTE E (fun s e F' H' p => hk s F' H' p (by rw [e] at h; exact h)) (fun c e => by rw [e] at h; exact fun F' H' p => h σ F' H' (E.grow p) p.ff) fun e => by rw [e] at h; exact h
theorem rdA_out {f : Env → Res (List SV)} {k : List SV → Out} {Q : List V → Hp → Prop} (E : EnvR K T F0 G F H σ δ) (h : SEnd K T W F0 G F En ((f δ).out δ k))
    (hk : ∀ v s F' H', Stp T F H F' H' → RepSs K T F' H' H σ δ v s → SEnd K T W F0 G F En (k s) → Q v H') : rdA K T W f σ H Q :=
  rdAE E (fun s e v F' H' p r => hk v s F' H' p r (by rw [e] at h; exact h)) (fun c e => by rw [e] at h; exact fun F' H' p => h σ F' H' (E.grow p) p.ff) fun e => by rw [e] at h; exact h
/-- the slot that a value is put into -/
def slotOf : SV → Option Sl
  | .sh d => some (.sh d)
  | .ow ds => some (.ow ds)
  | .br _ _ => none
theorem getset {α : Type} {l : List α} {i j : Nat} {x y : α} (h : (l.set i x)[j]? = some y) : (i = j ∧ x = y ∧ i < l.length) ∨ (i ≠ j ∧ l[j]? = some y) := by
  by_cases e : i = j
  · subst e
    by_cases hl : i < l.length
    · rw [List.getElem?_set_self hl] at h
      exact .inl ⟨rfl, Option.some.inj h, hl⟩
    · rw [List.getElem?_eq_none (by simpa using hl)] at h
      cases h
  · rw [List.getElem?_set_ne e] at h
    exact .inr ⟨e, h⟩
/-- a datum is put into a slot -/
theorem EnvR.setD {i : Nat} {v : V} {d : D} (E : EnvR K T F0 G F H σ δ) (r : Rep K T F v d) : EnvR K T F0 G F H (σ.set i (some v)) (δ.set i (.sh d)) where
  f0 := E.f0
  gh := E.gh
  fh := E.fh
  tb := E.tb
  fr := E.fr
  len := by rw [List.length_set, List.length_set]; exact E.len
  sh := fun j e h => by
    rcases getset h with ⟨rfl, q, hl⟩ | ⟨hn, h⟩
    · cases q
      exact ⟨v, List.getElem?_set_self (by rw [E.len]; exact hl), r⟩
    · obtain ⟨w, h1, h2⟩ := E.sh j e h
      exact ⟨w, by rw [List.getElem?_set_ne hn]; exact h1, h2⟩
  ow := fun j ds h => by
    rcases getset h with ⟨_, q, _⟩ | ⟨hn, h⟩
    · cases q
    · obtain ⟨a, vs, h1, h2⟩ := E.ow j ds h
      exact ⟨a, vs, by rw [List.getElem?_set_ne hn]; exact h1, h2⟩
  ex := fun j h => by
    rcases getset h with ⟨_, q, _⟩ | ⟨hn, h⟩
    · cases q
    · rw [List.getElem?_set_ne hn]; exact E.ex j h
  me := fun j a c fs h => by
    rcases getset h with ⟨_, q, _⟩ | ⟨hn, h⟩
    · cases q
    · obtain ⟨z, dx, gs, h1, h2⟩ := E.me j a c fs h
      exact ⟨z, dx, gs, by rw [List.getElem?_set_ne hn]; exact h1, h2⟩
  od := fun j ks ds h => by
    rcases getset h with ⟨_, q, _⟩ | ⟨hn, h⟩
    · cases q
    · obtain ⟨a, us, h1, h2⟩ := E.od j ks ds h
      exact ⟨a, us, by rw [List.getElem?_set_ne hn]; exact h1, h2⟩
  ap := fun j k a ds es hjk h1 h2 h3 h4 => by
    rcases getset h1 with ⟨_, q, _⟩ | ⟨n1, h1⟩
    · cases q
    · rcases getset h2 with ⟨_, q, _⟩ | ⟨n2, h2⟩
      · cases q
      · rw [List.getElem?_set_ne n1] at h3
        rw [List.getElem?_set_ne n2] at h4
        exact E.ap j k a ds es hjk h1 h2 h3 h4
/-- a slot is emptied -/
theorem EnvR.setN {i : Nat} {o : Option V} (E : EnvR K T F0 G F H σ δ) : EnvR K T F0 G F H (σ.set i o) (δ.set i .no) where
  f0 := E.f0
  gh := E.gh
  fh := E.fh
  tb := E.tb
  fr := E.fr
  len := by rw [List.length_set, List.length_set]; exact E.len
  sh := fun j e h => by
    rcases getset h with ⟨_, q, _⟩ | ⟨hn, h⟩
    · cases q
    · obtain ⟨w, h1, h2⟩ := E.sh j e h
      exact ⟨w, by rw [List.getElem?_set_ne hn]; exact h1, h2⟩
  ow := fun j ds h => by
    rcases getset h with ⟨_, q, _⟩ | ⟨hn, h⟩
    · cases q
    · obtain ⟨a, vs, h1, h2⟩ := E.ow j ds h
      exact ⟨a, vs, by rw [List.getElem?_set_ne hn]; exact h1, h2⟩
  ex := fun j h => by
    rcases getset h with ⟨_, q, _⟩ | ⟨hn, h⟩
    · cases q
    · rw [List.getElem?_set_ne hn]; exact E.ex j h
  me := fun j a c fs h => by
    rcases getset h with ⟨_, q, _⟩ | ⟨hn, h⟩
    · cases q
    · obtain ⟨z, dx, gs, h1, h2⟩ := E.me j a c fs h
      exact ⟨z, dx, gs, by rw [List.getElem?_set_ne hn]; exact h1, h2⟩
  od := fun j ks ds h => by
    rcases getset h with ⟨_, q, _⟩ | ⟨hn, h⟩
    · cases q
    · obtain ⟨a, us, h1, h2⟩ := E.od j ks ds h
      exact ⟨a, us, by rw [List.getElem?_set_ne hn]; exact h1, h2⟩
  ap := fun j k a ds es hjk h1 h2 h3 h4 => by
    rcases getset h1 with ⟨_, q, _⟩ | ⟨n1, h1⟩
    · cases q
    · rcases getset h2 with ⟨_, q, _⟩ | ⟨n2, h2⟩
      · cases q
      · rw [List.getElem?_set_ne n1] at h3
        rw [List.getElem?_set_ne n2] at h4
        exact E.ap j k a ds es hjk h1 h2 h3 h4
/-- a list of ours at a, which no other slot holds, is put into the slot i -/
theorem EnvR.setO {i : Nat} {a : Addr} {vs : List V} {ds : List D} (E : EnvR K T F0 G F H σ δ) (hF : F a = none) (hG : G a = none) (hH : H a = some (.lst vs)) (r : Reps K T F vs ds)
    (hap : ∀ (j : Nat) (es : List D), j ≠ i → δ[j]? = some (Sl.ow es) → σ[j]? = some (some (V.ref a)) → False) : EnvR K T F0 G F H (σ.set i (some (.ref a))) (δ.set i (.ow ds)) where
  f0 := E.f0
  gh := E.gh
  fh := E.fh
  tb := E.tb
  fr := E.fr
  len := by rw [List.length_set, List.length_set]; exact E.len
  sh := fun j e h => by
    rcases getset h with ⟨_, q, _⟩ | ⟨hn, h⟩
    · cases q
    · obtain ⟨w, h1, h2⟩ := E.sh j e h
      exact ⟨w, by rw [List.getElem?_set_ne hn]; exact h1, h2⟩
  ow := fun j es h => by
    rcases getset h with ⟨rfl, q, hl⟩ | ⟨hn, h⟩
    · cases q
      exact ⟨a, vs, List.getElem?_set_self (by rw [E.len]; exact hl), hF, hG, hH, r⟩
    · obtain ⟨b, ws, h1, h2⟩ := E.ow j es h
      exact ⟨b, ws, by rw [List.getElem?_set_ne hn]; exact h1, h2⟩
  ex := fun j h => by
    rcases getset h with ⟨_, q, _⟩ | ⟨hn, h⟩
    · cases q
    · rw [List.getElem?_set_ne hn]; exact E.ex j h
  me := fun j a c fs h => by
    rcases getset h with ⟨_, q, _⟩ | ⟨hn, h⟩
    · cases q
    · obtain ⟨z, dx, gs, h1, h2⟩ := E.me j a c fs h
      exact ⟨z, dx, gs, by rw [List.getElem?_set_ne hn]; exact h1, h2⟩
  od := fun j ks ds h => by
    rcases getset h with ⟨_, q, _⟩ | ⟨hn, h⟩
    · cases q
    · obtain ⟨a, us, h1, h2⟩ := E.od j ks ds h
      exact ⟨a, us, by rw [List.getElem?_set_ne hn]; exact h1, h2⟩
  ap := fun j k b ds es hjk h1 h2 h3 h4 => by
    rcases getset h1 with ⟨e1, _, l1⟩ | ⟨n1, h1⟩
    · subst e1
      rcases getset h2 with ⟨e2, _, _⟩ | ⟨n2, h2⟩
      · exact hjk e2
      · rw [List.getElem?_set_self (by rw [E.len]; exact l1)] at h3
        rw [List.getElem?_set_ne n2] at h4
        cases h3
        exact hap k es (fun z => hjk z.symm) h2 h4
    · rw [List.getElem?_set_ne n1] at h3
      rcases getset h2 with ⟨e2, _, l2⟩ | ⟨n2, h2⟩
      · subst e2
        rw [List.getElem?_set_self (by rw [E.len]; exact l2)] at h4
        cases h4
        exact hap j ds (fun z => hjk z) h1 h3
      · rw [List.getElem?_set_ne n2] at h4
        exact E.ap j k b ds es hjk h1 h2 h3 h4
/-- a value is put into a slot -/
theorem EnvR.setS {i : Nat} {v : V} {s : SV} {sl : Sl} (E : EnvR K T F0 G F H σ δ) (p : Stp T F H F' H') (r : RepS K T F' H' H σ δ v s) (e : slotOf s = some sl) : EnvR K T F0 G F' H' (σ.set i (some v)) (δ.set i sl) := by
  cases s with
  | sh d =>
    cases e
    exact (E.grow p).setD r
  | br j ds => cases e
  | ow ds =>
    cases e
    obtain ⟨a, vs, rfl, h0, h1, h2, h3⟩ := r
    refine (E.grow p).setO h1 (Exn.back E.gh h0) h2 h3 fun j es _ hj hs => ?_
    obtain ⟨b, ws, g1, _, _, g4, _⟩ := E.ow j es hj
    rw [hs] at g1
    cases g1
    rw [h0] at g4
    cases g4
/-- the list of the slot i stands still from now on -/
theorem EnvR.freeze {i : Nat} {ds : List D} (E : EnvR K T F0 G F H σ δ) (hi : δ[i]? = some (Sl.ow ds)) : ∃ F', Exn F F' ∧ EnvR K T F0 G F' H σ (δ.set i (.sh (.lst ds))) := by
  obtain ⟨a, vs, h1, h2, h3, h4, h5⟩ := E.ow i ds hi
  have new : Exn F (upd F a (.lst vs)) := Exn.new h2
  refine ⟨upd F a (.lst vs), new, Exn.trans E.f0 new, E.gh, ⟨fun b u hb n => ?_, fun b hb => ?_⟩, fun b u m g1 g2 => ?_, by rw [List.length_set]; exact E.len, fun j e h => ?_, fun j es h => ?_, fun j h => ?_, fun j b c fs h => ?_, fun j ks' us' h => ?_, fun j k b ds' es hjk g1 g2 g3 g4 => ?_, E.tb⟩
  · by_cases z : b = a
    · subst z; rw [upd_same] at hb; rw [h4]; exact hb
    · rw [upd_ne z] at hb; exact E.fh.a b u hb n
  · have z : b ≠ a := fun z => by subst z; rw [h4] at hb; cases hb
    rw [upd_ne z]; exact E.fh.n b hb
  · have z : b ≠ a := fun z => by subst z; rw [h3] at g2; cases g2
    rw [upd_ne z]; exact E.fr b u m g1 g2
  · rcases getset h with ⟨rfl, q, hl⟩ | ⟨hn, h⟩
    · cases q
      exact ⟨_, h1, .lst upd_same (h5.mono new)⟩
    · obtain ⟨w, g1, g2⟩ := E.sh j e h
      exact ⟨w, g1, g2.mono new⟩
  · rcases getset h with ⟨_, q, _⟩ | ⟨hn, h⟩
    · cases q
    · obtain ⟨b, ws, g1, g2, g3, g4, g5⟩ := E.ow j es h
      have z : b ≠ a := fun z => by subst z; exact E.ap i j b ds es hn hi h h1 g1
      exact ⟨b, ws, g1, by rw [upd_ne z]; exact g2, g3, g4, g5.mono new⟩
  · rcases getset h with ⟨_, q, _⟩ | ⟨hn, h⟩
    · cases q
    · exact E.ex j h
  · rcases getset h with ⟨_, q, _⟩ | ⟨hn, h⟩
    · cases q
    · obtain ⟨z, dx, gs, g1, g2, g3, g4, g5⟩ := E.me j b c fs h
      have z2 : b ≠ a := fun z2 => by subst z2; rw [h4] at g4; cases g4
      exact ⟨z, dx, gs, g1, by rw [upd_ne z2]; exact g2, g3, g4, g5.mono new⟩
  · rcases getset h with ⟨_, q, _⟩ | ⟨hn, h⟩
    · cases q
    · obtain ⟨b, ws, g1, g2, g3, g4, g5, g6⟩ := E.od j ks' us' h
      have z : b ≠ a := fun z => by subst z; rw [h4] at g4; cases g4
      exact ⟨b, ws, g1, by rw [upd_ne z]; exact g2, g3, g4, g5, g6.mono new⟩
  · rcases getset g1 with ⟨_, q, _⟩ | ⟨n1, g1⟩
    · cases q
    · rcases getset g2 with ⟨_, q, _⟩ | ⟨n2, g2⟩
      · cases q
      · exact E.ap j k b ds' es hjk g1 g2 g3 g4
/-- the list of the slot i is changed -/
theorem EnvR.store {i : Nat} {a : Addr} {ds es : List D} {ws : List V} (E : EnvR K T F0 G F H σ δ) (hi : δ[i]? = some (Sl.ow ds)) (ha : σ[i]? = some (some (V.ref a))) (r : Reps K T F ws es) : EnvR K T F0 G F (upd H a (.lst ws)) σ (δ.set i (.ow es)) := by
  obtain ⟨b, vs, h1, h2, h3, h4, h5⟩ := E.ow i ds hi
  rw [ha] at h1
  cases h1
  have hl : i < δ.length := (List.getElem?_eq_some_iff.mp hi).1
  refine ⟨E.f0, Exn.mut E.gh h3, Exn.mut E.fh h2, E.fr, by rw [List.length_set]; exact E.len, fun j e h => ?_, fun j es' h => ?_, fun j h => ?_, fun j b c fs h => ?_, fun j ks' us' h => ?_, fun j k b ds' es' hjk g1 g2 g3 g4 => ?_, E.tb.put h4 rfl⟩
  · rcases getset h with ⟨_, q, _⟩ | ⟨hn, h⟩
    · cases q
    · exact E.sh j e h
  · rcases getset h with ⟨rfl, q, _⟩ | ⟨hn, h⟩
    · cases q
      exact ⟨a, ws, ha, h2, h3, upd_same, r⟩
    · obtain ⟨c, us, g1, g2, g3, g4, g5⟩ := E.ow j es' h
      have z : c ≠ a := fun z => by subst z; exact E.ap i j c ds es' hn hi h ha g1
      exact ⟨c, us, g1, g2, g3, by rw [upd_ne z]; exact g4, g5⟩
  · rcases getset h with ⟨_, q, _⟩ | ⟨hn, h⟩
    · cases q
    · exact E.ex j h
  · rcases getset h with ⟨_, q, _⟩ | ⟨hn, h⟩
    · cases q
    · obtain ⟨z, dx, gs, g1, g2, g3, g4, g5⟩ := E.me j b c fs h
      have z2 : b ≠ a := fun z2 => by subst z2; rw [h4] at g4; cases g4
      exact ⟨z, dx, gs, g1, g2, g3, by rw [upd_ne z2]; exact g4, g5⟩
  · rcases getset h with ⟨_, q, _⟩ | ⟨hn, h⟩
    · cases q
    · obtain ⟨b, ws, g1, g2, g3, g4, g5, g6⟩ := E.od j ks' us' h
      have z : b ≠ a := fun z => by subst z; rw [h4] at g4; cases g4
      exact ⟨b, ws, g1, g2, g3, by rw [upd_ne z]; exact g4, g5, g6⟩
  · rcases getset g1 with ⟨e1, _, _⟩ | ⟨n1, g1⟩
    · subst e1
      rcases getset g2 with ⟨e2, _, _⟩ | ⟨n2, g2⟩
      · exact hjk e2
      · exact E.ap i k b ds es' hjk hi g2 g3 g4
    · rcases getset g2 with ⟨e2, _, _⟩ | ⟨n2, g2⟩
      · subst e2
        exact E.ap j i b ds' ds hjk g1 hi g3 g4
      · exact E.ap j k b ds' es' hjk g1 g2 g3 g4
end

/-! ### the statements' readings -/
def fSkip : FS := fun δ => .nx δ
def fSeq (a b : FS) : FS := fun δ => (a δ).seq b
def fAsg (i : Nat) (f : Env → Res SV) : FS := fun δ => (f δ).out δ fun s => match slotOf s with
  | some sl => .nx (δ.set i sl)
  | none => .bad
def fDrop (f : Env → Res SV) : FS := fun δ => (f δ).out δ fun _ => .nx δ
def retS : SV → SV
  | .br _ ds => .ow ds
  | s => s
def fRet (f : Env → Res SV) : FS := fun δ => (f δ).out δ fun s => .rt (retS s)
def fRetN : FS := fun _ => .rt (.sh .non)
def fIte (c : Env → Res Bool) (a b : FS) : FS := fun δ => (c δ).out δ fun x => if x = true then a δ else b δ
def fBrk : FS := fun δ => .bk δ
def fCnt : FS := fun δ => .ct δ
def fRaise (c : Nat) : FS := fun δ => .ex c δ
/-- the list of the slot i stands still from now on -/
def fFz (i : Nat) (s : FS) : FS := fun δ => match δ[i]? with
  | some (.ow ds) => s (δ.set i (.sh (.lst ds)))
  | _ => s δ
section
variable {X : Cx} {T : Tb} {W : WX} {st : Stmt} {rest : List Stmt} {e : Expr} {pos : Pos} {f g : FS}
theorem ds_nil : PSs X [] (rdS X.K T W fSkip) := PSsimp pss_nil fun D σ H ⟨F0, G, F, δ, E, h⟩ => h σ F H E (Exn.refl _)
theorem ds_cons (h1 : PS X st (rdS X.K T W f)) (h2 : PSs X rest (rdS X.K T W g)) : PSs X (st :: rest) (rdS X.K T W (fSeq f g)) := PSsimp (pss_cons h1 h2) fun D σ H ⟨F0, G, F, δ, E, h⟩ => by
  refine ⟨F0, G, F, δ, E, ?_⟩
  unfold fSeq at h
  revert h
  cases f δ with
  | nx δ' => exact fun h σ' F' H' E' q => ⟨F0, G, F', δ', E', SEnd.later q h⟩
  | rt s => exact fun h => h
  | bk δ' => exact fun h => h
  | ct δ' => exact fun h => h
  | ex c δ' => exact fun h => h
  | bad => exact fun h => h
theorem ds_one (h1 : PS X st (rdS X.K T W f)) : PSs X [st] (rdS X.K T W f) := pss_one h1
theorem ds_fz {i : Nat} (h1 : PS X st (rdS X.K T W f)) : PS X st (rdS X.K T W (fFz i f)) := PSimp h1 fun D σ H ⟨F0, G, F, δ, E, h⟩ => by
  unfold fFz at h
  split at h
  · rename_i ds hi
    obtain ⟨F', q, E'⟩ := E.freeze hi
    exact ⟨F0, G, F', _, E', SEnd.later q h⟩
  · exact ⟨F0, G, F, δ, E, h⟩
theorem rd_asg {K : PySem.W.Frag} {i : Nat} {fe : Env → Res SV} {D : Ends} {σ : L2.St} {H : Hp} (h : rdS K T W (fAsg i fe) D σ H) : tAsg (rd K T W fe) (gName i) D σ H := by
  obtain ⟨F0, G, F, δ, E, h⟩ := h
  refine rd_out E h fun v s F' H' p r h1 => ?_
  cases q : slotOf s with
  | none => rw [q] at h1; exact h1.elim
  | some sl =>
    rw [q] at h1
    exact h1 _ F' H' (E.setS p r q) p.ff
theorem ds_set {i : Nat} {x : Str} {pos' : Pos} {fe : Env → Res SV} (hN : X.N.Nodup) (hi : X.N[i]? = some x) (hx : Loc X.env.scope x) (he : PE X e (rd X.K T W fe)) (hs : swapsWith e (some (.Name x pos')) pos.line X.env = pure false := by rfl) (hf : X.fn x = true ∨ X.env.scope.names.lookup x = some .local := by first | exact .inl rfl | exact .inr rfl | assumption) :
    PS X (.Assign [.Name x pos'] e pos) (rdS X.K T W (fAsg i fe)) := PSimp (ps_set hN hi hx he hs hf) fun _ _ _ h => rd_asg h
theorem ds_expr {fe : Env → Res SV} (he : PE X e (rd X.K T W fe)) (hs : swapsWith e none pos.line X.env = pure false := by rfl) : PS X (.Expr e pos) (rdS X.K T W (fDrop fe)) := PSimp (ps_expr he hs) fun D σ H ⟨F0, G, F, δ, E, h⟩ =>
  rd_out E h fun v s F' H' p r h1 => h1 σ F' H' (E.grow p) p.ff
theorem ds_ret {fe : Env → Res SV} (he : PE X e (rd X.K T W fe)) : PS X (.Return (some e) pos) (rdS X.K T W (fRet fe)) := PSimp (ps_ret he) fun D σ H ⟨F0, G, F, δ, E, h⟩ =>
  rd_out E h fun v s F' H' p r h1 => by
    have E' := E.grow p
    refine h1 v F' H' E'.f0 E'.fh E'.gh E'.fr E'.tb ?_
    cases s with
    | sh d => exact r
    | ow ds =>
      obtain ⟨a, vs, rfl, h0, g1, g2, g3⟩ := r
      exact ⟨a, vs, rfl, Exn.back E.gh h0, g1, g2, g3⟩
    | br i ds =>
      obtain ⟨a, vs, rfl, h0, g1, g2, g3, hi⟩ := r
      obtain ⟨b, ws, k1, k2, k3, k4, k5⟩ := E.ow i ds hi
      rw [h0] at k1
      cases k1
      exact ⟨a, vs, rfl, k3, g1, g2, g3⟩
theorem ds_retN : PS X (.Return none pos) (rdS X.K T W fRetN) := PSimp ps_retN fun D σ H ⟨F0, G, F, δ, E, h⟩ => h .non F H E.f0 E.fh E.gh E.fr E.tb .non
theorem ds_if {c : Expr} {a b : List Stmt} {fc : Env → Res Bool} (hc : PT X c (rdT X.K T W fc)) (ha : PSs X a (rdS X.K T W f)) (hb : PSs X b (rdS X.K T W g)) : PS X (.If c a b pos) (rdS X.K T W (fIte fc f g)) := PSimp (ps_if hc ha hb) fun D σ H ⟨F0, G, F, δ, E, h⟩ =>
  rdT_out E h fun x F' H' p h1 => by
    cases x with
    | true => exact iteT ⟨F0, G, F', δ, E.grow p, SEnd.later p.ff h1⟩
    | false => exact iteF ⟨F0, G, F', δ, E.grow p, SEnd.later p.ff h1⟩
theorem ds_pass : PS X (.Pass pos) (rdS X.K T W fSkip) := PSimp ps_pass fun D σ H ⟨F0, G, F, δ, E, h⟩ => h σ F H E (Exn.refl _)
theorem ds_brk : PS X (.Break pos) (rdS X.K T W fBrk) := PSimp ps_break fun D σ H ⟨F0, G, F, δ, E, h⟩ => h σ F H E (Exn.refl _)
theorem ds_cnt : PS X (.Continue pos) (rdS X.K T W fCnt) := PSimp ps_continue fun D σ H ⟨F0, G, F, δ, E, h⟩ => h σ F H E (Exn.refl _)
end
end DL
end

section
set_option Elab.async false
set_option linter.all false
set_option autoImplicit false
set_option maxRecDepth 100000
set_option maxHeartbeats 4000000
namespace DL
open PySem L2
/-! ### while -/
noncomputable section
def whileR (c : Env → Res Bool) (b : FS) : Nat → Env → Out
  | 0, _ => .bad
  | n + 1, δ => (c δ).out δ fun x => if x = true then (match b δ with
    | .nx δ' => whileR c b n δ'
    | .ct δ' => whileR c b n δ'
    | .bk δ' => .nx δ'
    | r => r) else .nx δ
open Classical in
def fWhile (c : Env → Res Bool) (b : FS) : FS := fun δ => if h : ∃ n, whileR c b n δ ≠ .bad then whileR c b (choose h) δ else .bad
end
theorem whileR_mono {c : Env → Res Bool} {b : FS} : ∀ (n m : Nat) (δ : Env), n ≤ m → whileR c b n δ ≠ .bad → whileR c b m δ = whileR c b n δ
  | 0, _, _, _, h => absurd rfl h
  | n + 1, 0, _, hl, _ => absurd hl (by omega)
  | n + 1, m + 1, δ, hl, h => by
    unfold whileR at h ⊢
    revert h
    cases c δ with
    | ok x =>
      cases x with
      | true =>
        simp only [out_ok, if_true]
        cases b δ with
        | nx δ' => exact fun h => whileR_mono n m δ' (by omega) h
        | ct δ' => exact fun h => whileR_mono n m δ' (by omega) h
        | _ => exact fun _ => rfl
      | false => exact fun _ => rfl
    | _ => exact fun _ => rfl
theorem fWhile_of {c : Env → Res Bool} {b : FS} {n : Nat} {δ : Env} {o : Out} (h : whileR c b n δ = o) (ho : o ≠ .bad) : fWhile c b δ = o := by
  have ex : ∃ n, whileR c b n δ ≠ .bad := ⟨n, by rw [h]; exact ho⟩
  unfold fWhile
  rw [dif_pos ex]
  have hc := Classical.choose_spec ex
  rcases Nat.le_total n (Classical.choose ex) with l | l
  · rw [whileR_mono _ _ δ l (by rw [h]; exact ho), h]
  · rw [← whileR_mono _ _ δ l hc, h]
/-- one turn -/
theorem fWhile_eq {c : Env → Res Bool} {b : FS} (δ : Env) : fWhile c b δ = (c δ).out δ fun x => if x = true then (match b δ with
    | .nx δ' => fWhile c b δ'
    | .ct δ' => fWhile c b δ'
    | .bk δ' => .nx δ'
    | r => r) else .nx δ := by
  have key : ∀ δ', fWhile c b δ' ≠ .bad → ∃ n, whileR c b n δ' = fWhile c b δ' := fun δ' h => by
    unfold fWhile at h ⊢
    by_cases ex : ∃ n, whileR c b n δ' ≠ .bad
    · rw [dif_pos ex]
      exact ⟨_, rfl⟩
    · rw [dif_neg ex] at h; exact absurd rfl h
  have none_ : ∀ δ', fWhile c b δ' = .bad → ∀ n, whileR c b n δ' = .bad := fun δ' h n => by
    cases q : whileR c b n δ' with
    | bad => rfl
    | _ =>
      have := fWhile_of (c := c) (b := b) q (by intro z; cases z)
      rw [h] at this
      cases this
  cases hc : c δ with
  | ex k => exact fWhile_of (n := 1) (by unfold whileR; rw [hc]; rfl) (by intro z; cases z)
  | bad =>
    cases q : fWhile c b δ with
    | bad => rfl
    | _ =>
      obtain ⟨n, hn⟩ := key δ (by rw [q]; intro z; cases z)
      cases n with
      | zero => rw [q] at hn; cases hn
      | succ n =>
        unfold whileR at hn
        rw [hc, q] at hn
        cases hn
  | ok x =>
    cases x with
    | false => exact fWhile_of (n := 1) (by unfold whileR; rw [hc]; rfl) (by intro z; cases z)
    | true =>
      simp only [out_ok, if_true]
      have go : ∀ δ', (∀ n, whileR c b (n + 1) δ = whileR c b n δ') → fWhile c b δ = fWhile c b δ' := fun δ' step => by
        cases q : fWhile c b δ' with
        | bad =>
          cases q2 : fWhile c b δ with
          | bad => rfl
          | _ =>
            obtain ⟨n, hn⟩ := key δ (by rw [q2]; intro z; cases z)
            cases n with
            | zero => rw [q2] at hn; cases hn
            | succ n => rw [step, none_ _ q, q2] at hn; cases hn
        | _ =>
          obtain ⟨n, hn⟩ := key δ' (by rw [q]; intro z; cases z)
          exact fWhile_of (n := n + 1) (by rw [step, hn, q]) (by intro z; cases z)
      cases hb : b δ with
      | nx δ' => exact go δ' fun n => by rw [whileR, hc, out_ok, if_pos rfl, hb]
      | ct δ' => exact go δ' fun n => by rw [whileR, hc, out_ok, if_pos rfl, hb]
      | bad =>
        cases q2 : fWhile c b δ with
        | bad => rfl
        | _ =>
          obtain ⟨n, hn⟩ := key δ (by rw [q2]; intro z; cases z)
          cases n with
          | zero => rw [q2] at hn; cases hn
          | succ n => rw [whileR, hc, out_ok, if_pos rfl, hb, q2] at hn; cases hn
      | _ => exact fWhile_of (n := 1) (by rw [whileR, hc, out_ok, if_pos rfl, hb]) (by intro z; cases z)
section
variable {K : PySem.W.Frag} {T : Tb} {W : WX}
theorem rd_while {c : Env → Res Bool} {b : FS} {D : Ends} {σ : L2.St} {H : Hp} (h : rdS K T W (fWhile c b) D σ H) : tWhile (rdT K T W c) (rdS K T W b) D σ H := by
  obtain ⟨F0, G, F, δ, E, h⟩ := h
  unfold fWhile at h
  by_cases ex : ∃ n, whileR c b n δ ≠ .bad
  · rw [dif_pos ex] at h
    refine ⟨fun m σ' H' => ∃ F' δ', EnvR K T F0 G F' H' σ' δ' ∧ SEnd K T W F0 G F' D (whileR c b m δ'), ⟨_, F, δ, E, h⟩, ?_⟩
    clear h ex E
    rintro m σ H ⟨F, δ, E, h⟩
    cases m with
    | zero => exact h.elim
    | succ m =>
      rw [whileR] at h
      refine rdT_out E h fun x F1 H1 p h1 => ?_
      cases x with
      | false => exact iteF (h1 σ F1 H1 (E.grow p) p.ff)
      | true =>
        refine iteT ?_
        rw [if_pos rfl] at h1
        refine ⟨fun σ' H' => ∃ F' δ', EnvR K T F0 G F' H' σ' δ' ∧ SEnd K T W F0 G F' D (whileR c b m δ'), fun σ' H' q => ⟨m, Nat.lt_succ_self m, q⟩, F0, G, F1, δ, E.grow p, ?_⟩
        have h1 := SEnd.later p.ff h1
        revert h1
        cases b δ with
        | nx δ' => exact fun h1 σ' F' H' E' q => ⟨F', δ', E', SEnd.later q h1⟩
        | ct δ' => exact fun h1 σ' F' H' E' q => ⟨F', δ', E', SEnd.later q h1⟩
        | bk δ' => exact fun h1 => h1
        | rt s => exact fun h1 => h1
        | ex k δ' => exact fun h1 => h1
        | bad => exact fun h1 => h1
  · rw [dif_neg ex] at h; exact h.elim
theorem ds_while {X : Cx} {T : Tb} {c : Expr} {body : List Stmt} {pos : Pos} {fc : Env → Res Bool} {fb : FS} (hp : PassesOwn (model X.prog X.w) X.A X.env X.xe) (hc : PT X c (rdT X.K T W fc)) (hb : PSs X body (rdS X.K T W fb)) : PS X (.While c body [] pos) (rdS X.K T W (fWhile fc fb)) :=
  PSimp (ps_while hp hc hb) fun _ _ _ h => rd_while h
end

/-! ### what is walked -/
/-- J walks the data ds, that stand in F -/
structure Walks (K : PySem.W.Frag) (T : Tb) (J : It) (F : Hp) (ds : List D) : Prop where
  go : ∀ i H, Exn F H → i < ds.length → J.go i H
  stop : ∀ H, Exn F H → J.stop ds.length H
  yld : ∀ i F1 H1 x H2 d, Exn F F1 → Exn F1 H1 → ds[i]? = some d → J.yld i H1 x H2 → ∃ F2, Stp T F1 H1 F2 H2 ∧ Rep K T F2 x d
theorem Walks.mono {K : PySem.W.Frag} {T : Tb} {J : It} {F F' : Hp} {ds : List D} (e : Exn F F') (w : Walks K T J F ds) : Walks K T J F' ds :=
  ⟨fun i H q => w.go i H (Exn.trans e q), fun H q => w.stop H (Exn.trans e q), fun i F1 H1 x H2 d q => w.yld i F1 H1 x H2 d (Exn.trans e q)⟩
section
variable (K : PySem.W.Frag) (T : Tb) (W : WX)
def IEnd (F H : Hp) (σ : L2.St) (R : It → Hp → Prop) : Res (List D) → Prop
  | .ok ds => ∀ J F' H', Stp T F H F' H' → Walks K T J F' ds → R J H'
  | .ex c => ∀ F' H', Stp T F H F' H' → W (.ref (T.XA c)) none σ H'
  | .bad => False
def rdI (f : Env → Res (List D)) : TI := fun σ H R => ∃ F0 G F δ, EnvR K T F0 G F H σ δ ∧ IEnd K T W F H σ R (f δ)
end
theorem PIimp {X : Cx} {tg e : Expr} {t t' : TI} (h : PI X tg e t) (i : ∀ σ H R, t' σ H R → t σ H R) : PI X tg e t' := ⟨fun pins s σ H R I q => h.run pins s σ H R I (i σ H R q)⟩
theorem PIor {X : Cx} {tg e : Expr} {t t' : TI} (h : PI X tg e t) (h' : PI X tg e t') : PI X tg e (fun σ H R => t σ H R ∨ t' σ H R) :=
  ⟨fun pins s σ H R I q => q.elim (h.run pins s σ H R I) (h'.run pins s σ H R I)⟩
/-- the items of a list, a tuple, a text -/
def itemsOf : D → Option (List D)
  | .lst ds => some ds
  | .scr ds => some ds
  | .tup ds => some ds
  | .str s => some (s.cps.toList.map fun c => .str ⟨#[c]⟩)
  | _ => none
def iSeq (f : Env → Res SV) : Env → Res (List D) := fun δ => (f δ).bind fun s => match s.fz with
  | .sh d => Res.ofO (itemsOf d)
  | _ => .bad
section
variable {K : PySem.W.Frag} {T : Tb} {W : WX}
theorem walks_list {F : Hp} {a : Addr} {vs : List V} {ds : List D} (h : SqL K F a vs) (r : Reps K T F vs ds) : Walks K T (Itl K a) F ds where
  go := fun i H e l => by
    have hl : i < vs.length := by rw [r.length]; exact l
    exact ⟨vs, vs[i], sqL_mono e h, List.getElem?_eq_getElem hl⟩
  stop := fun H e => ⟨vs, sqL_mono e h, Nat.le_of_eq r.length⟩
  yld := fun i F1 H1 x H2 d e e2 hd y => by
    obtain ⟨rfl, y⟩ := y
    have hv := y vs (sqL_mono (Exn.trans e e2) h)
    obtain ⟨z, h1, h2⟩ := r.getV hv
    rw [hd] at h1
    cases h1
    exact ⟨F1, Stp.refl e2, h2.mono e⟩
theorem walks_tup {F : Hp} {a : Addr} {vs : List V} {ds : List D} (h : SqT K F a vs) (r : Reps K T F vs ds) : Walks K T (Itt K a) F ds where
  go := fun i H e l => by
    have hl : i < vs.length := by rw [r.length]; exact l
    exact ⟨vs, vs[i], sqT_mono e h, List.getElem?_eq_getElem hl⟩
  stop := fun H e => ⟨vs, sqT_mono e h, Nat.le_of_eq r.length⟩
  yld := fun i F1 H1 x H2 d e e2 hd y => by
    obtain ⟨rfl, y⟩ := y
    have hv := y vs (sqT_mono (Exn.trans e e2) h)
    obtain ⟨z, h1, h2⟩ := r.getV hv
    rw [hd] at h1
    cases h1
    exact ⟨F1, Stp.refl e2, h2.mono e⟩
theorem walks_str {F : Hp} (s : Str) : Walks K T (Its s) F (s.cps.toList.map fun c => .str ⟨#[c]⟩) where
  go := fun i H e l => by
    rw [List.length_map, Array.length_toList] at l
    exact l
  stop := fun H e => by
    rw [List.length_map, Array.length_toList]
    exact Nat.le_refl _
  yld := fun i F1 H1 x H2 d e e2 hd y => by
    obtain ⟨rfl, c, hc, rfl⟩ := y
    rw [List.getElem?_map, Array.getElem?_toList, hc] at hd
    cases hd
    exact ⟨F1, Stp.refl e2, .str _⟩
theorem walks_range {F : Hp} (lo : Int) (n : Nat) : Walks K T (Itr lo n) F ((List.range n).map fun i => .int (lo + (i : Nat))) where
  go := fun i H e l => by
    rw [List.length_map, List.length_range] at l
    exact l
  stop := fun H e => by
    rw [List.length_map, List.length_range]
    exact Nat.le_refl _
  yld := fun i F1 H1 x H2 d e e2 hd y => by
    obtain ⟨rfl, rfl⟩ := y
    by_cases l : i < n
    · rw [List.getElem?_map, List.getElem?_range l] at hd
      cases hd
      exact ⟨F1, Stp.refl e2, .int _⟩
    · rw [List.getElem?_eq_none (by rw [List.length_map, List.length_range]; omega)] at hd
      cases hd
theorem rd_iseq {σ : L2.St} {H : Hp} {R : It → Hp → Prop} {f : Env → Res SV} (h : rdI K T W (iSeq f) σ H R) : iList K (rd K T W f) σ H R ∨ iTup K (rd K T W f) σ H R ∨ iStr (rd K T W f) σ H R := by
  obtain ⟨F0, G, F, δ, E, h⟩ := h
  unfold iSeq at h
  cases q : f δ with
  | ex c =>
    rw [q] at h
    exact .inl ⟨F0, G, F, δ, E, by rw [q]; exact h⟩
  | bad => rw [q] at h; exact h.elim
  | ok s =>
    rw [q] at h
    rw [bind_ok] at h
    cases qs : s.fz with
    | ow ds => rw [qs] at h; exact h.elim
    | br i ds => rw [qs] at h; exact h.elim
    | sh d =>
      rw [qs] at h
      dsimp only at h
      cases d with
      | lst ds =>
        refine .inl ⟨F0, G, F, δ, E, ?_⟩
        rw [q]
        intro v F' H' p r
        obtain ⟨F2, p2, r2⟩ := r.fz p
        rw [qs] at r2
        cases r2 with
        | lst h1 h2 => exact ⟨_, rfl, ⟨_, SqL.of (p2.fh.at h1)⟩, h _ F2 H' p2 (walks_list (SqL.of h1) h2)⟩
      | scr ds =>
        refine .inl ⟨F0, G, F, δ, E, ?_⟩
        rw [q]
        intro v F' H' p r
        obtain ⟨F2, p2, r2⟩ := r.fz p
        rw [qs] at r2
        cases r2 with
        | scr h1 h2 => exact ⟨_, rfl, ⟨_, sqL_mono p2.fh h1⟩, h _ F2 H' p2 (walks_list h1 h2)⟩
      | tup ds =>
        refine .inr (.inl ⟨F0, G, F, δ, E, ?_⟩)
        rw [q]
        intro v F' H' p r
        obtain ⟨F2, p2, r2⟩ := r.fz p
        rw [qs] at r2
        cases r2 with
        | tup h1 h2 => exact ⟨_, rfl, ⟨_, sqT_mono p2.fh h1⟩, h _ F2 H' p2 (walks_tup h1 h2)⟩
      | str z =>
        refine .inr (.inr ⟨F0, G, F, δ, E, ?_⟩)
        rw [q]
        intro v F' H' p r
        obtain ⟨F2, p2, r2⟩ := r.fz p
        rw [qs] at r2
        cases r2 with
        | str => exact ⟨_, rfl, h _ F2 H' p2 (walks_str z)⟩
      | _ => exact h.elim
theorem di_seq {X : Cx} {T : Tb} {tg e : Expr} {f : Env → Res SV} (he : PE X e (rd X.K T W f)) : PI X tg e (rdI X.K T W (iSeq f)) :=
  PIimp (PIor (pi_list he) (PIor (pi_tup he) (pi_str he))) fun _ _ _ h => rd_iseq h
/- by choice: so no check of types runs down such a number -/
noncomputable def rng1 : List SV → Option (List D)
  | [.sh (.int j)] => @ite _ (-(2 ^ 62) ≤ j ∧ j < 2 ^ 62) (Classical.propDecidable _) (some ((List.range j.toNat).map fun i => .int ((i : Nat) : Int))) none
  | _ => none
noncomputable def rng2 : List SV → Option (List D)
  | [.sh (.int i), .sh (.int j)] => @ite _ (-(2 ^ 62) ≤ i ∧ i < 2 ^ 62 ∧ -(2 ^ 62) ≤ j ∧ j < 2 ^ 62) (Classical.propDecidable _) (some ((List.range (j - i).toNat).map fun k => .int (i + (k : Nat)))) none
  | _ => none
def iRg (g : List SV → Option (List D)) (fa : Env → Res (List SV)) : Env → Res (List D) := fun δ => (fa δ).bind fun ss => Res.ofO (g ss)
theorem di_range1 {X : Cx} {T : Tb} {tg a : Expr} {fa : Env → Res (List SV)} {p pos : Pos} (hg : Gl X "range") (hm : X.mg "range" = none) (ha : PA X [a] (rdA X.K T W fa)) (hs : starEach [a] X.env = [(false, eval a X.env)] := by rfl) : PI X tg (.Call (.Name "range" p) [a] [] pos) (rdI X.K T W (iRg rng1 fa)) :=
  PIimp (pi_range1 hg hm ha hs) fun σ H R ⟨F0, G, F, δ, E, h⟩ => by
    refine ⟨F0, G, F, δ, E, ?_⟩
    unfold iRg at h
    cases q : fa δ with
    | ex c => rw [q] at h; exact h
    | bad => rw [q] at h; exact h
    | ok ss =>
      rw [q, bind_ok] at h
      intro vs F' H' pp r
      unfold rng1 at h
      split at h
      · rename_i j
        split at h
        · rename_i hj
          cases r with
          | cons h1 r =>
            cases r
            cases h1
            refine ⟨j, rfl, hj.1, hj.2, h _ F' H' pp ?_⟩
            have w := walks_range (K := X.K) (T := T) (F := F') 0 j.toNat
            simp only [Int.zero_add] at w
            exact w
        · exact h.elim
      · exact h.elim
theorem di_range2 {X : Cx} {T : Tb} {tg a b : Expr} {fa : Env → Res (List SV)} {p pos : Pos} (hg : Gl X "range") (hm : X.mg "range" = none) (ha : PA X [a, b] (rdA X.K T W fa)) (hs : starEach [a, b] X.env = [(false, eval a X.env), (false, eval b X.env)] := by rfl) (hs2 : starEach [b] X.env = [(false, eval b X.env)] := by rfl) :
    PI X tg (.Call (.Name "range" p) [a, b] [] pos) (rdI X.K T W (iRg rng2 fa)) :=
  PIimp (pi_range2 hg hm ha hs hs2) fun σ H R ⟨F0, G, F, δ, E, h⟩ => by
    refine ⟨F0, G, F, δ, E, ?_⟩
    unfold iRg at h
    cases q : fa δ with
    | ex c => rw [q] at h; exact h
    | bad => rw [q] at h; exact h
    | ok ss =>
      rw [q, bind_ok] at h
      intro vs F' H' pp r
      unfold rng2 at h
      split at h
      · rename_i i j
        split at h
        · rename_i hj
          cases r with
          | cons h1 r =>
            cases r with
            | cons h2 r =>
              cases r
              cases h1
              cases h2
              exact ⟨i, j, rfl, hj, h _ F' H' pp (walks_range i _)⟩
        · exact h.elim
      · exact h.elim
end

/-! ### targets -/
/-- a target's reading: g puts a datum into the slots; is: which -/
def rdG (K : PySem.W.Frag) (T : Tb) (is : List Nat) (g : D → Env → Option Env) : TG := fun v σ H Q => ∃ F0 G F δ d, EnvR K T F0 G F H σ δ ∧ Rep K T F v d ∧ match g d δ with
  | some δ' => ∀ σ', EnvR K T F0 G F H σ' δ' → (∀ vs : List Nat, (∀ i ∈ is, i ∈ vs) → wipe σ' vs = wipe σ vs) → Q σ' H
  | none => False
theorem PGimp {X : Cx} {e : Expr} {t t' : TG} (h : PG X e t) (i : ∀ v σ H Q, t' v σ H Q → t v σ H Q) : PG X e t' := ⟨fun pins s σ H v u Q I r q => h.run pins s σ H v u Q I r (i v σ H Q q)⟩
theorem PGor {X : Cx} {e : Expr} {t t' : TG} (h : PG X e t) (h' : PG X e t') : PG X e (fun v σ H Q => t v σ H Q ∨ t' v σ H Q) :=
  ⟨fun pins s σ H v u Q I r q => q.elim (h.run pins s σ H v u Q I r) (h'.run pins s σ H v u Q I r)⟩
theorem wipe_set {σ : L2.St} {i : Nat} {x : Option V} : ∀ {vs : List Nat}, (i ∈ vs → wipe (σ.set i x) vs = wipe σ vs) ∧ (i ∉ vs → wipe (σ.set i x) vs = (wipe σ vs).set i x)
  | [] => ⟨fun h => by simp at h, fun _ => rfl⟩
  | v :: vs => by
    obtain ⟨h1, h2⟩ := wipe_set (σ := σ) (i := i) (x := x) (vs := vs)
    refine ⟨fun h => ?_, fun h => ?_⟩
    · show (wipe (σ.set i x) vs).set v none = (wipe σ vs).set v none
      by_cases m : i ∈ vs
      · rw [h1 m]
      · rw [h2 m]
        have e : i = v := by
          rcases List.mem_cons.mp h with e | e
          · exact e
          · exact absurd e m
        rw [e, List.set_set]
    · show (wipe (σ.set i x) vs).set v none = ((wipe σ vs).set v none).set i x
      have hn : i ≠ v ∧ i ∉ vs := by simpa using h
      rw [h2 hn.2, List.set_comm _ _ hn.1]
def tgOne (i : Nat) (d : D) (δ : Env) : Option Env := some (δ.set i (.sh d))
def setAll : List Nat → List D → Env → Option Env
  | [], [], δ => some δ
  | i :: is, d :: ds, δ => setAll is ds (δ.set i (.sh d))
  | _, _, _ => none
/-- several names of a tuple, of a list -/
def tgMany (is : List Nat) (d : D) (δ : Env) : Option Env := match d with
  | .tup ds => setAll is ds δ
  | .lst ds => setAll is ds δ
  | _ => none
section
variable {X : Cx} {T : Tb} {pos : Pos}
theorem dg_one {i : Nat} {x : Str} (h : PG X (.Name x pos) (gName i)) : PG X (.Name x pos) (rdG X.K T [i] (tgOne i)) := PGimp h fun v σ H Q ⟨F0, G, F, δ, d, E, r, h⟩ =>
  h _ (E.setD r) fun vs hv => wipe_set.1 (hv i (List.mem_singleton.mpr rfl))
/-- the names of a tuple's target, one after the other -/
def gSlots : List Nat → TGs
  | [] => gNil
  | i :: is => gCons (gName i) (gSlots is)
theorem gslots_ok {K : PySem.W.Frag} {F0 G F H : Hp} {Q : L2.St → Hp → Prop} : ∀ (is : List Nat) (vs : List V) (ds : List D) (σ σ0 : L2.St) (δ δ' : Env), Reps K T F vs ds → EnvR K T F0 G F H σ δ → setAll is ds δ = some δ' → ∀ all : List Nat, (∀ i ∈ is, i ∈ all) →
    (∀ ws : List Nat, (∀ i ∈ all, i ∈ ws) → wipe σ ws = wipe σ0 ws) → (∀ σ', EnvR K T F0 G F H σ' δ' → (∀ ws : List Nat, (∀ i ∈ all, i ∈ ws) → wipe σ' ws = wipe σ0 ws) → Q σ' H) → gSlots is vs σ H Q
  | [], _, [], σ, σ0, δ, δ', .nil, E, e, all, hall, hw, h => by
    cases e
    exact ⟨rfl, h σ E hw⟩
  | [], _, _ :: _, _, _, _, _, .cons _ _, E, e, all, hall, hw, h => by cases e
  | i :: is, _, [], _, _, _, _, .nil, E, e, all, hall, hw, h => by cases e
  | i :: is, _, d :: ds, σ, σ0, δ, δ', .cons (v := v) (vs := vs) hr r, E, e, all, hall, hw, h => by
    refine ⟨v, vs, rfl, ?_⟩
    refine gslots_ok is vs ds (σ.set i (some v)) σ0 _ δ' r (E.setD hr) e all (fun j hj => hall j (List.mem_cons_of_mem _ hj)) (fun ws hws => ?_) h
    rw [wipe_set.1 (hws i (hall i (List.mem_cons_self ..)))]
    exact hw ws hws
theorem setAll_len : ∀ {is : List Nat} {ds : List D} {δ δ' : Env}, setAll is ds δ = some δ' → ds.length = is.length
  | [], [], _, _, _ => rfl
  | i :: is, d :: ds, _, _, e => congrArg Nat.succ (setAll_len (is := is) e)
theorem dg_many {es : List Expr} {k : Nat} {is : List Nat} (hc : X.calm = true) (h : PGs X es (gSlots is)) (hl : (assignEach es X.env).length = is.length := by rfl) (hst : (assignEach es X.env).findIdx? (·.1) = none := by rfl) : PG X (.Tuple es k pos) (rdG X.K T is (tgMany is)) :=
  PGimp (PGor (pg_tup hc h hl hst) (pg_lst hc h hl hst)) fun v σ H Q ⟨F0, G, F, δ, d, E, r, h⟩ => by
    unfold tgMany at h
    split at h
    · rename_i δ' q
      split at q
      · rename_i ds
        cases r with
        | tup h1 h2 => exact .inl ⟨_, _, rfl, sqT_mono E.fh h1, by rw [h2.length]; exact setAll_len q, gslots_ok is _ ds σ σ δ δ' h2 E q is (fun _ z => z) (fun _ _ => rfl) h⟩
      · rename_i ds
        cases r with
        | lst h1 h2 => exact .inr ⟨_, _, rfl, SqL.of (E.fh.at h1), by rw [h2.length]; exact setAll_len q, gslots_ok is _ ds σ σ δ δ' h2 E q is (fun _ z => z) (fun _ _ => rfl) h⟩
      · cases q
    · exact h.elim
/-- a, b = e -/
def fUnp (g : D → Env → Option Env) (f : Env → Res SV) : FS := fun δ => (f δ).out δ fun s => match s.fz with
  | .sh d => match g d δ with
    | some δ' => .nx δ'
    | none => .bad
  | _ => .bad
theorem ds_unp {W : WX} {tg e : Expr} {is : List Nat} {g : D → Env → Option Env} {fe : Env → Res SV} (he : PE X e (rd X.K T W fe)) (hg : PG X tg (rdG X.K T is g)) (hs : swapsWithSole [tg] e pos.line X.env = pure false := by rfl) (hw : swappedStores [tg] e X.env = pure none := by rfl)
    (h1 : (assignEach [tg] X.env).map (·.2) = [assign tg X.env] := by rfl) : PS X (.Assign [tg] e pos) (rdS X.K T W (fUnp g fe)) := PSimp (ps_asg he hg hs hw h1) fun D σ H ⟨F0, G, F, δ, E, h⟩ => by
  refine rd_out E h fun v s F' H' p r h1 => ?_
  obtain ⟨F2, p2, r2⟩ := r.fz p
  cases q : s.fz with
  | sh d =>
    rw [q] at h1 r2
    refine ⟨F0, G, F2, δ, d, E.grow p2, r2, ?_⟩
    cases q2 : g d δ with
    | none => simp only [q2] at h1; exact h1.elim
    | some δ' =>
      simp only [q2] at h1
      exact fun σ' E' _ => h1 σ' F2 H' E' p2.ff
  | ow ds => rw [q] at h1; exact h1.elim
  | br i ds => rw [q] at h1; exact h1.elim
end

/-! ### for -/
def forR (g : D → Env → Option Env) (b : FS) : List D → Env → Out
  | [], δ => .nx δ
  | d :: ds, δ => match g d δ with
    | none => .bad
    | some δ1 => match b δ1 with
      | .nx δ2 => forR g b ds δ2
      | .ct δ2 => forR g b ds δ2
      | .bk δ2 => .nx δ2
      | r => r
def fFor (fi : Env → Res (List D)) (g : D → Env → Option Env) (b : FS) : FS := fun δ => (fi δ).out δ fun ds => forR g b ds δ
section
variable {K : PySem.W.Frag} {T : Tb} {W : WX}
theorem rd_for {fi : Env → Res (List D)} {is : List Nat} {g : D → Env → Option Env} {b : FS} {D : Ends} {σ : L2.St} {H : Hp} (h : rdS K T W (fFor fi g b) D σ H) : tFor (rdI K T W fi) (rdG K T is g) (rdS K T W b) D σ H := by
  obtain ⟨F0, G, F, δ, E, h⟩ := h
  refine ⟨F0, G, F, δ, E, ?_⟩
  unfold fFor at h
  cases q : fi δ with
  | ex c => rw [q] at h; exact fun F' H' p => h σ F' H' (E.grow p) p.ff
  | bad => rw [q] at h; exact h
  | ok ds =>
    rw [q, out_ok] at h
    intro J F1 H1 p w
    refine ⟨fun i m σ' H' => m = ds.length - i ∧ ∃ F' δ', EnvR K T F0 G F' H' σ' δ' ∧ Exn F1 F' ∧ i ≤ ds.length ∧ SEnd K T W F0 G F' D (forR g b (ds.drop i) δ'), ⟨ds.length, by simp, F1, δ, E.grow p, Exn.refl _, Nat.zero_le _, by rw [List.drop_zero]; exact SEnd.later p.ff h⟩, ?_⟩
    rintro i m σ2 H2 ⟨rfl, F2, δ2, E2, e2, hi, h2⟩
    by_cases l : i < ds.length
    · refine .inr ⟨w.go i H2 (Exn.trans e2 E2.fh) l, fun σ' H' => ∃ F' δ', EnvR K T F0 G F' H' σ' δ' ∧ Exn F1 F' ∧ SEnd K T W F0 G F' D (forR g b (ds.drop (i + 1)) δ'), fun σ' H' ⟨F', δ', a1, a2, a3⟩ => ⟨ds.length - (i + 1), by omega, rfl, F', δ', a1, a2, l, a3⟩, fun x H3 y => ?_⟩
      rw [List.drop_eq_getElem_cons l, forR] at h2
      obtain ⟨F3, p3, r3⟩ := w.yld i F2 H2 x H3 ds[i] e2 E2.fh (List.getElem?_eq_getElem l) y
      refine ⟨F0, G, F3, δ2, ds[i], E2.grow p3, r3, ?_⟩
      cases q3 : g ds[i] δ2 with
      | none => rw [q3] at h2; exact h2.elim
      | some δ3 =>
        rw [q3] at h2
        dsimp only at h2 ⊢
        intro σ' E' _
        refine ⟨F0, G, F3, δ3, E', ?_⟩
        have h2 := SEnd.later p3.ff h2
        have e3 := Exn.trans e2 p3.ff
        revert h2
        cases b δ3 with
        | nx δ' => exact fun h1 σ' F' H' E' q => ⟨F', δ', E', Exn.trans e3 q, SEnd.later q h1⟩
        | ct δ' => exact fun h1 σ' F' H' E' q => ⟨F', δ', E', Exn.trans e3 q, SEnd.later q h1⟩
        | bk δ' => exact fun h1 => h1
        | rt s => exact fun h1 => h1
        | ex k δ' => exact fun h1 => h1
        | bad => exact fun h1 => h1
    · have e : i = ds.length := by omega
      subst e
      rw [List.drop_length] at h2
      exact .inl ⟨w.stop H2 (Exn.trans e2 E2.fh), h2 σ2 F2 H2 E2 (Exn.refl _)⟩
theorem ds_for {X : Cx} {T : Tb} {tg iter : Expr} {body : List Stmt} {pos : Pos} {fi : Env → Res (List D)} {is : List Nat} {g : D → Env → Option Env} {fb : FS} (hp : PassesOwn (model X.prog X.w) X.A X.env X.xe) (hc : X.calm = true) (hi : PI X tg iter (rdI X.K T W fi)) (hg : PG X tg (rdG X.K T is g)) (hb : PSs X body (rdS X.K T W fb))
    (hs : ∀ x, foldedSetIterable iter X.env x = pure x := by intro _; rfl) : PS X (.For tg iter body [] pos) (rdS X.K T W (fFor fi g fb)) := PSimp (ps_for hp hc hi hg hb hs) fun _ _ _ h => rd_for h
end
end DL
end

section
set_option Elab.async false
set_option linter.all false
set_option autoImplicit false
set_option maxRecDepth 100000
set_option maxHeartbeats 4000000
namespace DL
open PySem PySem.Spec PyProof.Rows L2
/-! ### comprehensions -/
def dwipe (δ : Env) : List Nat → Env
  | [] => δ
  | v :: vs => (dwipe δ vs).set v .no
def fYes : Env → Res Bool := fun _ => .ok true
def lcR (g : D → Env → Option Env) (ft : Env → Res Bool) (fe : Env → Res SV) (δ : Env) : List D → Option (List D)
  | [] => some []
  | d :: ds => match g d δ with
    | none => none
    | some δ1 => match ft δ1 with
      | .ok true => (match fe δ1 with
        | .ok s => (match s.fz with
          | .sh e => (lcR g ft fe δ ds).map (e :: ·)
          | _ => none)
        | _ => none)
      | .ok false => lcR g ft fe δ ds
      | _ => none
def fLc (fi : Env → Res (List D)) (g : D → Env → Option Env) (ft : Env → Res Bool) (fe : Env → Res SV) (vs : List Nat) : Env → Res SV := fun δ => (fi δ).bind fun ds => match lcR g ft fe (dwipe δ vs) ds with
  | some es => if es.length ≤ sizeLine then .ok (.ow es) else .bad
  | none => .bad
def WF : WX := fun _ _ _ _ => False
section
variable {K : PySem.W.Frag} {T : Tb} {W : WX}
theorem EnvR.wipe {F0 G F H : Hp} {σ : L2.St} {δ : Env} (E : EnvR K T F0 G F H σ δ) : ∀ vs : List Nat, EnvR K T F0 G F H (L2.wipe σ vs) (dwipe δ vs)
  | [] => E
  | v :: vs => (EnvR.wipe E vs).setN
theorem wipe_wipe (σ : L2.St) : ∀ vs : List Nat, L2.wipe (L2.wipe σ vs) vs = L2.wipe σ vs
  | [] => rfl
  | v :: vs => by
    show (L2.wipe ((L2.wipe σ vs).set v none) vs).set v none = (L2.wipe σ vs).set v none
    by_cases m : v ∈ vs
    · rw [wipe_set.1 m, wipe_wipe σ vs]
    · rw [wipe_set.2 m, wipe_wipe σ vs, List.set_set]
/-- a new list D grows beside -/
theorem Stp.mutNew {F H F' H' : Hp} {a : Addr} {o : HO} (p : Stp T F H F' H') (h0 : H a = none) (hF : F' a = none) (hm : ∀ u, H' a = some u → isM u = true) : Stp T F H F' (upd H' a o) :=
  ⟨p.ff, Exn.mut p.fh hF, Exn.mut p.hh h0, p.fr, fun t => (p.tb t).putM hm⟩
theorem rd_lc {fi : Env → Res (List D)} {is vs : List Nat} {g : D → Env → Option Env} {ft : Env → Res Bool} {fe : Env → Res SV} {σ : L2.St} {H : Hp} {Q : VK} (hv : ∀ i ∈ is, i ∈ vs) (h : rd K T W (fLc fi g ft fe vs) σ H Q) :
    tLc (rdI K T W fi) (rdG K T is g) (rdT K T WF ft) (rd K T WF fe) vs σ H Q := by
  obtain ⟨F0, G, F, δ, E, h⟩ := h
  refine ⟨F0, G, F, δ, E, ?_⟩
  unfold fLc at h
  cases q : fi δ with
  | ex c => rw [q] at h; exact h
  | bad => rw [q] at h; exact h
  | ok ds =>
    rw [q, bind_ok] at h
    intro J F1 H1 p w A hA
    cases ql : lcR g ft fe (dwipe δ vs) ds with
    | none => rw [ql] at h; exact h.elim
    | some es =>
      rw [ql] at h
      by_cases le : es.length ≤ sizeLine
      · simp only [if_pos le] at h
        have E1 := E.grow p
        have hF1 : F1 A = none := Exn.back p.fh hA
        refine ⟨fun i m H' => m = ds.length - i ∧ i ≤ ds.length ∧ ∃ F' vs' done rest, Stp T F1 H1 F' H' ∧ F' A = none ∧ H' A = some (.lst vs') ∧ Reps K T F' vs' done ∧ lcR g ft fe (dwipe δ vs) (ds.drop i) = some rest ∧ es = done ++ rest,
          ⟨ds.length, by simp, Nat.zero_le _, F1, [], [], es, Stp.new p.fh hA, hF1, upd_same, .nil, by rw [List.drop_zero]; exact ql, rfl⟩, ?_⟩
        rintro i m H2 ⟨rfl, hi, F2, vs2, done, rest, p2, hF2, hH2, r2, l2, e2⟩
        by_cases l : i < ds.length
        · refine .inr ⟨w.go i H2 (Exn.trans p2.ff p2.fh) l, fun H' => ∃ F' vs' done rest, Stp T F1 H1 F' H' ∧ F' A = none ∧ H' A = some (.lst vs') ∧ Reps K T F' vs' done ∧ lcR g ft fe (dwipe δ vs) (ds.drop (i + 1)) = some rest ∧ es = done ++ rest,
            fun H' q => ⟨ds.length - (i + 1), by omega, rfl, l, q⟩, fun x H3 y => ?_⟩
          rw [List.drop_eq_getElem_cons l, lcR] at l2
          obtain ⟨F3, p3, r3⟩ := w.yld i F2 H2 x H3 ds[i] p2.ff p2.fh (List.getElem?_eq_getElem l) y
          have E2 : EnvR K T F0 G F2 H2 (L2.wipe σ vs) (dwipe δ vs) := (E1.wipe vs).grow p2
          refine ⟨F0, G, F3, dwipe δ vs, ds[i], E2.grow p3, r3, ?_⟩
          cases q3 : g ds[i] (dwipe δ vs) with
          | none => rw [q3] at l2; cases l2
          | some δ3 =>
            rw [q3] at l2
            dsimp only at l2 ⊢
            intro σ3 E3 wp
            refine ⟨by rw [wp vs hv, wipe_wipe], ?_⟩
            have p23 := p2.trans p3
            refine rdTE E3 (fun b hb F4 H4 p4 => ?_) (fun c hc => by rw [hc] at l2; cases l2) fun hc => by rw [hc] at l2; cases l2
            rw [hb] at l2
            have p24 := p23.trans p4
            cases b with
            | false =>
              refine iteF ⟨F4, vs2, done, rest, p24, ?_, (p3.trans p4).hh.at hH2, r2.mono (p3.trans p4).ff, l2, e2⟩
              exact (p3.trans p4).fr A _ rfl hF2 hH2
            | true =>
              refine iteT ?_
              refine rdE (E3.grow p4) (fun s hs v F5 H5 p5 r5 => ?_) (fun c hc => by dsimp only at l2; rw [hc] at l2; cases l2) fun hc => by dsimp only at l2; rw [hc] at l2; cases l2
              dsimp only at l2
              rw [hs] at l2
              obtain ⟨F6, p6, r6⟩ := r5.fz p5
              cases qs : s.fz with
              | ow _ => simp only [qs] at l2; cases l2
              | br _ _ => simp only [qs] at l2; cases l2
              | sh e =>
                simp only [qs] at l2
                rw [qs] at r6
                cases qr : lcR g ft fe (dwipe δ vs) (ds.drop (i + 1)) with
                | none => rw [qr] at l2; cases l2
                | some more =>
                  rw [qr] at l2
                  cases l2
                  have p26 := (p3.trans p4).trans p6
                  have hH5 := p26.hh.at hH2
                  have hF6 := p26.fr A _ rfl hF2 hH2
                  have len : vs2.length < sizeLine := by
                    rw [r2.length]
                    have := congrArg List.length e2
                    rw [List.length_append, List.length_cons] at this
                    omega
                  refine ⟨vs2, hH5, len, F6, vs2 ++ [v], done ++ [e], more, (p2.trans p26).mutNew hA hF6 (fun u hu => by rw [hH5] at hu; cases hu; rfl), hF6, upd_same, (r2.mono p26.ff).append (.cons r6 .nil), rfl, by rw [List.append_assoc]; exact e2⟩
        · have e : i = ds.length := by omega
          subst e
          rw [List.drop_length] at l2
          cases l2
          rw [List.append_nil] at e2
          subst e2
          exact .inl ⟨w.stop H2 (Exn.trans p2.ff p2.fh), h _ F2 H2 (p.trans p2) ⟨A, vs2, rfl, Exn.back p.hh hA, hF2, hH2, r2⟩⟩
      · simp only [if_neg le] at h; exact h.elim
theorem dts_nil {X : Cx} {T : Tb} : PTs X [] (rdT X.K T WF fYes) := ⟨fun pins s σ H Q I ⟨F0, G, F, δ, E, h⟩ => pts_nil.run pins s σ H Q I (h F H (Stp.refl E.fh))⟩
theorem dts_one {X : Cx} {c : Expr} {t : TT} (h : PT X c t) : PTs X [c] t := pts_one h
theorem de_lc {X : Cx} {T : Tb} {elt tg iter : Expr} {ifs : List Expr} {scope : Scope} {own : List (Str × Nat)} {pos : Pos} {fi : Env → Res (List D)} {is : List Nat} {g : D → Env → Option Env} {ft : Env → Res Bool} {fe : Env → Res SV} (hv : ∀ i ∈ is, i ∈ own.map (·.2)) (hc : X.calm = true) (hN : X.N.Nodup) (hi : PI X tg iter (rdI X.K T W fi)) (ok : BlkOk X.N X.env.scope scope own)
    (hg : ∀ (s : Shared) (H : Hp) (C : Addr) (cl : List (Str × Addr)) (fp : List Addr), PG (X.blk s H scope (compEnvC scope cl C X.env) fp) tg (rdG X.K T is g)) (ht : ∀ (s : Shared) (H : Hp) (C : Addr) (cl : List (Str × Addr)) (fp : List Addr), PTs (X.blk s H scope (compEnvC scope cl C X.env) fp) ifs (rdT X.K T WF ft))
    (he : ∀ (s : Shared) (H : Hp) (C : Addr) (cl : List (Str × Addr)) (fp : List Addr), PE (X.blk s H scope (compEnvC scope cl C X.env) fp) elt (rd X.K T WF fe)) (hs : ∀ x, foldedSetIterable iter X.env x = pure x := by intro _; rfl) :
    PE X (.ListComp elt [⟨tg, iter, ifs, 0⟩] scope pos) (rd X.K T W (fLc fi g ft fe (own.map (·.2)))) := PEimp (pe_lc hc hN hi ok hg ht he hs) fun _ _ _ h => rd_lc hv h
theorem ds_setLc {X : Cx} {T : Tb} {i : Nat} {y : Str} {py : Pos} {elt tg iter : Expr} {ifs : List Expr} {scope : Scope} {own : List (Str × Nat)} {pos spos : Pos} {fi : Env → Res (List D)} {is : List Nat} {g : D → Env → Option Env} {ft : Env → Res Bool} {fe : Env → Res SV} (hv : ∀ i ∈ is, i ∈ own.map (·.2)) (hc : X.calm = true) (hN : X.N.Nodup) (hy : X.N[i]? = some y) (hyl : X.env.scope.names.lookup y = some .local)
    (hsw : swapsWith (.ListComp elt [⟨tg, iter, ifs, 0⟩] scope pos) (some (.Name y py)) spos.line X.env = pure true) (hi : PI X tg iter (rdI X.K T W fi)) (ok : BlkOk X.N X.env.scope scope own)
    (hg : ∀ (s : Shared) (H : Hp) (C : Addr) (cl : List (Str × Addr)) (fp : List Addr), PG (X.blk s H scope (compEnvC scope cl C X.env) fp) tg (rdG X.K T is g)) (ht : ∀ (s : Shared) (H : Hp) (C : Addr) (cl : List (Str × Addr)) (fp : List Addr), PTs (X.blk s H scope (compEnvC scope cl C X.env) fp) ifs (rdT X.K T WF ft))
    (he : ∀ (s : Shared) (H : Hp) (C : Addr) (cl : List (Str × Addr)) (fp : List Addr), PE (X.blk s H scope (compEnvC scope cl C X.env) fp) elt (rd X.K T WF fe)) (hs : ∀ x, foldedSetIterable iter X.env x = pure x := by intro _; rfl) :
    PS X (.Assign [.Name y py] (.ListComp elt [⟨tg, iter, ifs, 0⟩] scope pos) spos) (rdS X.K T W (fAsg i (fLc fi g ft fe (own.map (·.2))))) := PSimp (ps_setLc hc hN hy hyl hsw hi ok hg ht he hs) fun D σ H h => by
  obtain ⟨F0, G, F, δ, E, h⟩ := h
  refine rd_lc hv (rd_out E h fun v s F' H' p r h1 => ?_)
  cases q : slotOf s with
  | none => rw [q] at h1; exact h1.elim
  | some sl =>
    rw [q] at h1
    exact h1 _ F' H' (E.setS p r q) p.ff
end

/-! ### a list of ours is changed; x op= e -/
/-- a method that changes the list in the slot i: g tells the new list and what comes back -/
def fMut (i : Nat) (g : List D → List D → Option (List D × D)) (fa : Env → Res (List SV)) : FS := fun δ => match δ[i]? with
  | some (.ow ds) => (fa δ).out δ fun ss => match stills ss with
    | some es => match g ds es with
      | some (ds', _) => .nx (δ.set i (.ow ds'))
      | none => .bad
    | none => .bad
  | _ => .bad
/-- what such a method does -/
def GoodMu (K : PySem.W.Frag) (T : Tb) (r : V → List V → Hp → VK → Prop) (g : List D → List D → Option (List D × D)) : Prop := ∀ (F H : Hp) (a : Addr) (vs us : List V) (ds es ds' : List D) (d : D) (Q : VK), Exn F H → H a = some (.lst vs) → Reps K T F vs ds → Reps K T F us es → g ds es = some (ds', d) →
  (∀ v ws, Reps K T F ws ds' → Rep K T F v d → Q v (upd H a (.lst ws))) → r (.ref a) us H Q
section
variable {X : Cx} {T : Tb} {W : WX} {pos : Pos}
theorem rd_mut {K : PySem.W.Frag} {i : Nat} {r : V → List V → Hp → VK → Prop} {g : List D → List D → Option (List D × D)} {fa : Env → Res (List SV)} {D : Ends} {σ : L2.St} {H : Hp} (hg : GoodMu K T r g) (h : rdS K T W (fMut i g fa) D σ H) :
    tDrop (tBM K "list" r (tVar i) (rdA K T W fa)) D σ H := by
  obtain ⟨F0, G, F, δ, E, h⟩ := h
  unfold fMut at h
  split at h
  · rename_i ds hi
    obtain ⟨a, vs, h1, h2, h3, h4, h5⟩ := E.ow i ds hi
    refine ⟨_, h1, Or.inl ⟨rfl, _, SqL.of h4⟩, rdA_out E h fun us ss F' H' p rr hh => ?_⟩
    cases q : stills ss with
    | none => rw [q] at hh; exact hh.elim
    | some es =>
      rw [q] at hh
      dsimp only at hh
      cases q2 : g ds es with
      | none => rw [q2] at hh; exact hh.elim
      | some z =>
        obtain ⟨ds', d⟩ := z
        rw [q2] at hh
        exact hg F' H' a vs us ds es ds' d _ p.fh (p.hh.at h4) (h5.mono p.ff) (stills_reps rr q) q2 fun v ws k1 k2 => hh σ F' _ ((E.grow p).store hi h1 k1) p.ff
  · exact h.elim
theorem rd_mut0 {K : PySem.W.Frag} {i : Nat} {r : V → List V → Hp → VK → Prop} {g : List D → List D → Option (List D × D)} {D : Ends} {σ : L2.St} {H : Hp} (hg : GoodMu K T r g) (h : rdS K T W (fMut i g aNil) D σ H) :
    tDrop (tBM0 K "list" r (tVar i)) D σ H := by
  obtain ⟨F0, G, F, δ, E, h⟩ := h
  unfold fMut at h
  split at h
  · rename_i ds hi
    obtain ⟨a, vs, h1, h2, h3, h4, h5⟩ := E.ow i ds hi
    refine ⟨_, h1, Or.inl ⟨rfl, _, SqL.of h4⟩, ?_⟩
    have h : SEnd K T W F0 G F D (match g ds [] with
      | some (ds', _) => .nx (δ.set i (.ow ds'))
      | none => .bad) := h
    cases q2 : g ds [] with
    | none => rw [q2] at h; exact h.elim
    | some z =>
      obtain ⟨ds', d⟩ := z
      rw [q2] at h
      exact hg F H a vs [] ds [] ds' d _ E.fh h4 h5 .nil q2 fun v ws k1 k2 => h σ F _ (E.store hi h1 k1) (Exn.refl _)
  · exact h.elim
theorem ds_mut {i : Nat} {x name : Str} {id : String} {e : Expr} {rest : List Expr} {p apos cpos : Pos} {r : V → List V → Hp → VK → Prop} {g : List D → List D → Option (List D × D)} {fa : Env → Res (List SV)} (slot : Slot "list" name id) (hty : typeOf (.builtin id) = pure (.type "method_descriptor")) (hm : MtR X id r) (hq : GoodMu X.K T r g)
    (hv : PE X (.Name x p) (tVar i)) (ha : PA X (e :: rest) (rdA X.K T W fa))
    (hbase : attributeBase (.Name x p) name X.env (eval (.Name x p) X.env) = eval (.Name x p) X.env := by rfl)
    (hfew : ((backTo cpos (starEach (e :: rest) X.env)).all (fun x => !x.1) && (backToKw cpos (keywordEach [] X.env)).all (fun x => x.1.isSome)
      && decide ((e :: rest).length + ([] : List Keyword).length + (if ([] : List Keyword).isEmpty then 0 else 1) < 30)) = true := by rfl)
    (hline : (apos.endLine == cpos.line) = true := by rfl) (hs : starEach (e :: rest) X.env = (false, eval e X.env) :: starEach rest X.env := by rfl) (hplain : (backTo cpos (starEach rest X.env)).any (·.1) = false := by rfl)
    (hsw : swapsWith (.Call (.Attribute (.Name x p) name apos) (e :: rest) [] cpos) none pos.line X.env = pure false := by rfl) : PS X (.Expr (.Call (.Attribute (.Name x p) name apos) (e :: rest) [] cpos) pos) (rdS X.K T W (fMut i g fa)) :=
  PSimp (ps_expr (pe_bm PySem.F.plainAttrs_list slot hty hm hv ha hbase hfew hline hs hplain) hsw) fun _ _ _ h => rd_mut hq h
theorem ds_mut0 {i : Nat} {x name : Str} {id : String} {p apos cpos : Pos} {r : V → List V → Hp → VK → Prop} {g : List D → List D → Option (List D × D)} (slot : Slot "list" name id) (hty : typeOf (.builtin id) = pure (.type "method_descriptor")) (hm : MtR X id r) (hq : GoodMu X.K T r g)
    (hv : PE X (.Name x p) (tVar i)) (hbase : attributeBase (.Name x p) name X.env (eval (.Name x p) X.env) = eval (.Name x p) X.env := by rfl) (hline : (apos.endLine == cpos.line) = true := by rfl)
    (hsw : swapsWith (.Call (.Attribute (.Name x p) name apos) [] [] cpos) none pos.line X.env = pure false := by rfl) : PS X (.Expr (.Call (.Attribute (.Name x p) name apos) [] [] cpos) pos) (rdS X.K T W (fMut i g aNil)) :=
  PSimp (ps_expr (pe_bm0 PySem.F.plainAttrs_list slot hty hm hv hbase hline) hsw) fun _ _ _ h => rd_mut0 hq h
/-- x[k] = e of a list of ours -/
def fSetIx (i : Nat) (fk fe : Env → Res SV) : FS := fun δ => (fe δ).out δ fun s => match s.fz with
  | .sh d => match δ[i]? with
    | some (.ow ds) => (fk δ).out δ fun k => match k with
      | .sh (.int n) => match ixN ds.length n with
        | some j => .nx (δ.set i (.ow (ds.set j d)))
        | none => .bad
      | _ => .bad
    | _ => .bad
  | _ => .bad
theorem ds_setIx {i : Nat} {x : Str} {k e : Expr} {p tpos : Pos} {fk fe : Env → Res SV} (hv : PE X (.Name x p) (tVar i)) (hk : PE X k (rd X.K T W fk)) (he : PE X e (rd X.K T W fe))
    (ha : ∀ v, assign (.Subscript (.Name x p) k tpos) X.env v = (do
      let ov ← holding [v] (eval (.Name x p) X.env)
      let iv ← holding [v, ov] (eval k X.env)
      standAt tpos
      holding [v, ov, iv] (setItem ov iv v)
      release [v, ov, iv] []) := by intro _; rfl)
    (hs : swapsWithSole [.Subscript (.Name x p) k tpos] e pos.line X.env = pure false := by rfl) (hw : swappedStores [.Subscript (.Name x p) k tpos] e X.env = pure none := by rfl)
    (h1 : (assignEach [.Subscript (.Name x p) k tpos] X.env).map (·.2) = [assign (.Subscript (.Name x p) k tpos) X.env] := by rfl) : PS X (.Assign [.Subscript (.Name x p) k tpos] e pos) (rdS X.K T W (fSetIx i fk fe)) :=
  PSimp (ps_asg he (pg_sub hv hk set_list ha) hs hw h1) fun D σ H ⟨F0, G, F, δ, E, h⟩ => by
    refine rd_out E h fun v s F1 H1 p1 r1 h1 => ?_
    obtain ⟨F2, p2, r2⟩ := r1.fz p1
    have E2 := E.grow p2
    cases qs : s.fz with
    | ow _ => rw [qs] at h1; exact h1.elim
    | br _ _ => rw [qs] at h1; exact h1.elim
    | sh d =>
      rw [qs] at h1 r2
      dsimp only at h1
      split at h1
      · rename_i ds hi
        obtain ⟨a, vs, g1, g2, g3, g4, g5⟩ := E2.ow i ds hi
        refine ⟨_, g1, rd_out E2 (SEnd.later p2.ff h1) fun z k2 F3 H3 p3 r3 h3 => ?_⟩
        split at h3
        · rename_i n
          split at h3
          · rename_i j hj
            cases r3
            refine ⟨a, vs, n, j, rfl, rfl, p3.hh.at g4, by rw [g5.length]; exact hj, ?_⟩
            exact h3 σ F3 _ ((E2.grow p3).store hi g1 ((g5.mono p3.ff).set (Rep.mono p3.ff r2))) p3.ff
          · exact h3.elim
        · exact h3.elim
      · exact h1.elim
/-- x op= e -/
def fAug (i : Nat) (g : D → D → Option SV) (fe : Env → Res SV) : FS := fun δ => match δ[i]? with
  | some (.sh d) => (fe δ).out δ fun s => match g d s.d with
    | some z => match slotOf z with
      | some sl => .nx (δ.set i sl)
      | none => .bad
    | none => .bad
  | _ => .bad
theorem ds_aug {i : Nat} {x : Str} {e : Expr} {op : Operator} {r : R2} {g : D → D → Option SV} {pos' : Pos} {fe : Env → Res SV} (hN : X.N.Nodup) (hi : X.N[i]? = some x) (hx : Loc X.env.scope x) (ho : OpR X (inplaceOp op) r) (hg : Good2 X.K T r g) (he : PE X e (rd X.K T W fe))
    (hf : X.fn x = true ∨ X.env.scope.names.lookup x = some .local := by first | exact .inl rfl | exact .inr rfl | assumption) : PS X (.AugAssign (.Name x pos') op e pos) (rdS X.K T W (fAug i g fe)) :=
  PSimp (ps_aug (ti := r) hN hi hx he ho hf) fun D σ H ⟨F0, G, F, δ, E, h⟩ => by
    unfold fAug at h
    split at h
    · rename_i d hi
      obtain ⟨w, h1, h2⟩ := E.sh i d hi
      refine ⟨w, h1, rd_out E h fun v s F1 H1 p1 r1 hh => ?_⟩
      cases q : g d s.d with
      | none => rw [q] at hh; exact hh.elim
      | some z =>
        rw [q] at hh
        dsimp only at hh
        cases q2 : slotOf z with
        | none => rw [q2] at hh; exact hh.elim
        | some sl =>
          rw [q2] at hh
          refine hg F1 H1 w v d s.d z _ p1.fh ((Rep.b E.fh h2).mono p1.ff p1.hh) (r1.b p1.fh) q fun u H' gv => ?_
          obtain ⟨F2, p2, r2⟩ := gv
          exact hh _ F2 H' ((E.grow p1).setS p2 r2.s q2) (p1.trans p2).ff
    · exact h.elim
end

/-! ### raise; a def of the text -/
section
variable {X : Cx} {T : Tb} {W : WX} {pos : Pos}
theorem ds_raise {c : Nat} {C : Addr} {bmB : List Value} {B newId initId : String} {x m : Str} {j : Nat} {p p2 pos2 : Pos} (hX : T.XA c = C) (hc : X.calm = true) (tk : Takes X W) (F : ExcBaseFacts B newId initId bmB) (q : PySem.W.excIn X.K C bmB newId = true) (gC : X.mg x = some (.ref C)) (kC : PySem.W.keepIn X.K (.ref C) = true) (r : Raises X (.ref C)) (hg : Gl X x)
    (hdb : (x == ("__debug__" : Str)) = false := by decide) : PS X (.Raise (some (.Call (.Name x p) [.Constant (.str m) j p2] [] pos2)) none pos) (rdS X.K T W (fRaise c)) :=
  PSimp (ps_raise hc tk (pmk_own F q gC kC r hg hdb)) fun D σ H ⟨F0, G, F, δ, E, h⟩ => by
    subst hX
    exact h σ F H E (Exn.refl _)
end
def slots : List D → Env := List.map Sl.sh
/-- a def's function: the body's, from the arguments' data -/
def runF (n : Nat) (body : FS) : List D → Res SV := fun ds => match body (slots ds ++ List.replicate (n - ds.length) .no) with
  | .nx _ => .ok (.sh .non)
  | .rt s => .ok s
  | .ex c _ => .ex c
  | _ => .bad
theorem getElem_start {N : List Str} {vs : List V} {i : Nat} (h : i < vs.length) : (L2.start N vs)[i]? = some (vs[i]?) := by
  unfold L2.start
  rw [List.getElem?_append_left (by simpa using h), List.getElem?_map]
  rw [List.getElem?_eq_getElem h]
  rfl
theorem env_start {K : PySem.W.Frag} {T : Tb} {F H : Hp} {N : List Str} {vs : List V} {ds : List D} (e : Exn F H) (r : Reps K T F vs ds) (hl : vs.length ≤ N.length) (tg : TbG T H) : EnvR K T F H F H (L2.start N vs) (slots ds ++ List.replicate (N.length - ds.length) .no) := by
  have hlen := r.length
  have key : ∀ (i : Nat) (s : Sl), (slots ds ++ List.replicate (N.length - ds.length) Sl.no)[i]? = some s → s = .no ∨ ∃ d, s = .sh d ∧ ds[i]? = some d ∧ i < ds.length := fun i s h => by
    by_cases hi : i < ds.length
    · unfold slots at h
      rw [List.getElem?_append_left (by simpa using hi), List.getElem?_map, List.getElem?_eq_getElem hi] at h
      cases h
      exact .inr ⟨_, rfl, List.getElem?_eq_getElem hi, hi⟩
    · unfold slots at h
      rw [List.getElem?_append_right (by simpa using hi), List.getElem?_replicate] at h
      split at h
      · cases h; exact .inl rfl
      · cases h
  refine ⟨Exn.refl _, Exn.refl _, e, fun _ _ _ h _ => h, ?_, fun i d h => ?_, fun i ds' h => ?_, fun i h => ?_, fun i b c fs h => ?_, fun i ks' ds' h => ?_, fun i j a ds' es hij h1 => ?_, tg⟩
  · unfold L2.start slots
    rw [List.length_append, List.length_append, List.length_map, List.length_map, List.length_replicate, List.length_replicate]
    omega
  · rcases key i _ h with z | ⟨d', z, hd, hi⟩
    · cases z
    · cases z
      obtain ⟨v, h1, h2⟩ := r.get hd
      exact ⟨v, by rw [getElem_start (by omega), h1], h2⟩
  · rcases key i _ h with z | ⟨d', z, _⟩ <;> cases z
  · rcases key i _ h with z | ⟨d', z, _⟩ <;> cases z
  · rcases key i _ h with z | ⟨d', z, _⟩ <;> cases z
  · rcases key i _ h with z | ⟨d', z, _⟩ <;> cases z
  · rcases key i _ h1 with z | ⟨d', z, _⟩ <;> cases z
/-- the body's reading is the def's promise -/
theorem run_ok {K : PySem.W.Frag} {T : Tb} {N : List Str} {n : Nat} {body : FS} {vs : List V} {H : Hp} {Q : VK} {E : XK} (hn : n ≤ N.length) (h : SpF K T n (runF N.length body) vs H Q E) :
    rdS K T (fun cls d _ H => E cls d H) body { nx := fun _ H' => Q .non H', rt := Q } (L2.start N vs) H := by
  obtain ⟨hl, tg, F, ds, e, r, h⟩ := h
  refine ⟨F, H, F, _, env_start e r (by omega) tg, ?_⟩
  unfold runF at h
  cases q : body (slots ds ++ List.replicate (N.length - ds.length) Sl.no) with
  | nx δ =>
    rw [q] at h
    exact fun σ F' H' E' _ => h .non H' ⟨F', ⟨E'.f0, E'.fh, E'.gh, E'.fr, fun _ => E'.tb⟩, .non⟩
  | rt s =>
    rw [q] at h
    exact fun v F' H' a b c d t r => h v H' ⟨F', ⟨a, b, c, d, fun _ => t⟩, r⟩
  | ex c δ =>
    rw [q] at h
    exact fun σ F' H' E' _ => h F' H' ⟨E'.f0, E'.fh, E'.gh, E'.fr, fun _ => E'.tb⟩
  | bk δ => rw [q] at h; exact h.elim
  | ct δ => rw [q] at h; exact h.elim
  | bad => rw [q] at h; exact h.elim
/-- THE RULE for a def of the text: CX is what it may let out -/
theorem def_ok {P : Program} {w : World} {K : PySem.W.Frag} {mg : Str → Option Value} {base : Heap} {CX : CXT} {x qual : Str} {params : Arguments} {body : List Stmt} {scope : Scope} {dvs : List V} {kws : List (Str × V)} {f : Addr} {fd : FuncData} {N ps : List Str} {k n : Nat} {fb : FS} (T : Tb)
    (F : FunD K x qual params body scope dvs kws f fd) (S : FnScope N ps scope) (hn : n = ps.length)
    (hb : ∀ (cdv : Value) (A : Around) (outer : List PySem.Env) (s : Shared) (H : Hp) (E : XK), Room k (A.deeper (envOfC qual scope s.heap.objs.size f cdv)) → PSs (cxOf CX P w K mg base N qual scope f cdv A outer s H E) body (rdS K T (fun cls d _ H => E cls d H) fb)) :
    FnOk P w K mg base CX (k + 1) f fd ps (SpF K T n (runF N.length fb)) := by
  have hpl : n ≤ N.length := by
    have := congrArg List.length S.pre
    rw [List.length_take] at this
    omega
  exact F.ok S (fun vs H Q E h => by rw [← hn]; exact h.1) fun cdv A outer s H vs Q E hr h => ⟨_, hb cdv A outer s H E hr, run_ok hpl h⟩
end DL
end

section
set_option Elab.async false
set_option linter.all false
set_option autoImplicit false
set_option maxRecDepth 100000
set_option maxHeartbeats 4000000
namespace DL
open PySem PySem.Spec PyProof.Rows L2
section
variable {K : PySem.W.Frag} {T : Tb} {F H : Hp}
theorem gives_sh {v : V} {d : D} (e : Exn F H) (h : Rep K T F v d) : Gives K T F H (.sh d) v H := ⟨F, Stp.refl e, h⟩
theorem gives_lst {p : Addr} {vs : List V} {ds : List D} (e : Exn F H) (hp : H p = none) (r : Reps K T F vs ds) : Gives K T F H (.ow ds) (.ref p) (upd H p (.lst vs)) :=
  ⟨F, Stp.new e hp, p, vs, rfl, hp, Exn.back e hp, upd_same, r⟩
theorem gives_tup {p : Addr} {vs : List V} {ds : List D} (e : Exn F H) (hp : H p = none) (r : Reps K T F vs ds) : Gives K T F H (.sh (.tup ds)) (.ref p) (upd H p (.tup vs)) :=
  ⟨upd F p (.tup vs), Stp.newF e hp, .tup (SqT.of upd_same) (r.mono (Exn.new (Exn.back e hp)))⟩
end
theorem ite_some {c : Prop} [Decidable c] {a s : SV} (h : (if c then some a else none) = some s) : c ∧ a = s := by
  by_cases hc : c
  · rw [if_pos hc] at h
    exact ⟨hc, Option.some.inj h⟩
  · rw [if_neg hc] at h
    cases h
/-! ### whole numbers -/
/-- of two whole numbers, under C -/
def gI (C : Int → Int → Bool) (f : Int → Int → D) : D → D → Option SV
  | .int i, .int j => if C i j = true then some (.sh (f i j)) else none
  | _, _ => none
theorem good_I {K : PySem.W.Frag} {T : Tb} {C : Int → Int → Bool} {P : Int → Int → Prop} {f : Int → Int → D} {f' : Int → Int → V} (hC : ∀ i j, C i j = true → P i j) (hf : ∀ F i j, Rep K T F (f' i j) (f i j)) : Good2 K T (rI P f') (gI C f) := fun F H x y d e s Q eh rx ry h k => by
  cases d with
  | int i =>
    cases e with
    | int j =>
      cases rx
      cases ry
      obtain ⟨hc, rfl⟩ := ite_some (show (if C i j = true then some (SV.sh (f i j)) else none) = some s from h)
      exact ⟨i, j, rfl, rfl, hC i j hc, k _ _ (gives_sh eh (hf F i j))⟩
    | _ => cases h
  | _ => cases h
theorem good_I0 {K : PySem.W.Frag} {T : Tb} {f : Int → Int → D} {f' : Int → Int → V} (hf : ∀ F i j, Rep K T F (f' i j) (f i j)) : Good2 K T (rI0 f') (gI (fun _ _ => true) f) := fun F H x y d e s Q eh rx ry h k => by
  cases d with
  | int i =>
    cases e with
    | int j =>
      cases rx
      cases ry
      cases h
      exact ⟨i, j, rfl, rfl, k _ _ (gives_sh eh (hf F i j))⟩
    | _ => cases h
  | _ => cases h
theorem Good2.or {K : PySem.W.Frag} {T : Tb} {r r' : R2} {g g' : D → D → Option SV} (h : Good2 K T r g) (h' : Good2 K T r' g') : Good2 K T (fun x y H Q => r x y H Q ∨ r' x y H Q) (fun d e => (g d e).or (g' d e)) := fun F H x y d e s Q eh rx ry q k => by
  have q : (g d e).or (g' d e) = some s := q
  cases z : g d e with
  | some s' =>
    rw [z] at q
    cases q
    exact .inl (h F H x y d e s Q eh rx ry z k)
  | none =>
    rw [z] at q
    exact .inr (h' F H x y d e s Q eh rx ry q k)
def gSub : D → D → Option SV := gI (fun _ _ => true) fun i j => .int (i - j)
def gLt : D → D → Option SV := gI (fun _ _ => true) fun i j => .bl (decide (i < j))
def gLe : D → D → Option SV := gI (fun _ _ => true) fun i j => .bl (decide (i ≤ j))
def gGt : D → D → Option SV := gI (fun _ _ => true) fun i j => .bl (decide (j < i))
def gGe : D → D → Option SV := gI (fun _ _ => true) fun i j => .bl (decide (j ≤ i))
def gMod : D → D → Option SV := gI (fun _ j => decide (0 < j)) fun i j => .int (i % j)
def gDiv : D → D → Option SV := gI (fun _ j => decide (0 < j ∧ j.natAbs.log2 < 9000)) fun i j => .int (i / j)
def mulOk (i j : Int) : Bool := decide ((-(2 ^ 64) < i ∧ i < 2 ^ 64) ∨ (-(2 ^ 64) < j ∧ j < 2 ^ 64))
def gMulI : D → D → Option SV := gI mulOk fun i j => .int (i * j)
def gPow : D → D → Option SV := gI (fun i j => decide (0 ≤ j ∧ j ≤ 1000000 ∧ i.natAbs < 2 ^ 64)) fun i j => .int (i ^ j.toNat)
def gAnd2 : D → D → Option SV := gI (fun _ _ => true) fun i j => .int (Builtin.bitAnd i j)
def gShl : D → D → Option SV := gI (fun i j => decide (0 ≤ j ∧ j ≤ 1000000 ∧ i.natAbs < 2 ^ 64)) fun i j => .int (i * 2 ^ j.toNat)
section
variable {K : PySem.W.Frag} {T : Tb}
theorem good_sub : Good2 K T (rI0 fun i j => .int (i - j)) gSub := good_I0 fun _ _ _ => .int _
theorem good_lt : Good2 K T (rI0 fun i j => .bl (decide (i < j))) gLt := good_I0 fun _ _ _ => .bl _
theorem good_le : Good2 K T (rI0 fun i j => .bl (decide (i ≤ j))) gLe := good_I0 fun _ _ _ => .bl _
theorem good_gt : Good2 K T (rI0 fun i j => .bl (decide (j < i))) gGt := good_I0 fun _ _ _ => .bl _
theorem good_ge : Good2 K T (rI0 fun i j => .bl (decide (j ≤ i))) gGe := good_I0 fun _ _ _ => .bl _
theorem good_mod : Good2 K T (rI (fun _ j => 0 < j) fun i j => .int (i % j)) gMod := good_I (fun i j h => by have h2 := of_decide_eq_true h; exact h2) fun _ _ _ => .int _
theorem good_div : Good2 K T (rI CDivW fun i j => .int (i / j)) gDiv := good_I (fun i j h => by have h2 := of_decide_eq_true h; exact h2) fun _ _ _ => .int _
theorem good_mulI : Good2 K T (rI CMul fun i j => .int (i * j)) gMulI := good_I (fun i j h => by have h2 := of_decide_eq_true h; exact h2) fun _ _ _ => .int _
theorem good_pow : Good2 K T (rI CPow fun i j => .int (i ^ j.toNat)) gPow := good_I (fun i j h => by have h2 := of_decide_eq_true h; exact h2) fun _ _ _ => .int _
theorem good_and : Good2 K T (rI0 fun i j => .int (Builtin.bitAnd i j)) gAnd2 := good_I0 fun _ _ _ => .int _
theorem good_shl : Good2 K T (rI CPow fun i j => .int (i * 2 ^ j.toNat)) gShl := good_I (fun i j h => by have h2 := of_decide_eq_true h; exact h2) fun _ _ _ => .int _
end
def gNeg : D → Option SV
  | .int i => some (.sh (.int (-i)))
  | _ => none
theorem good_neg {K : PySem.W.Frag} {T : Tb} : Good1 K T (rU fun i => .int (-i)) gNeg := fun F H x d s Q eh rx h k => by
  cases d with
  | int i =>
    cases rx
    cases h
    exact ⟨i, rfl, k _ _ (gives_sh eh (.int _))⟩
  | _ => cases h

/-! ### + of numbers, texts, lists, tuples; * -/
def rStrAdd : R2 := fun x y H Q => ∃ i j, x = .str i ∧ y = .str j ∧ i.length + j.length ≤ sizeLine ∧ Q (.str (i ++ j)) H
def gAddS : D → D → Option SV
  | .str x, .str y => if x.length + y.length ≤ sizeLine then some (.sh (.str (x ++ y))) else none
  | .lst xs, .lst ys => if xs.length + ys.length ≤ sizeLine then some (.ow (xs ++ ys)) else none
  | .tup xs, .tup ys => if xs.length + ys.length ≤ sizeLine then some (.sh (.tup (xs ++ ys))) else none
  | _, _ => none
def gAddI : D → D → Option SV := gI (fun _ _ => true) fun i j => .int (i + j)
def gAdd : D → D → Option SV := fun d e => (gAddI d e).or (gAddS d e)
def rAddS (K : PySem.W.Frag) : R2 := fun x y H Q => rStrAdd x y H Q ∨ rCat x y H Q ∨ rCatA K x y H Q
theorem op_addS {X : Cx} : OpR X (binaryOp .Add) (rAddS X.K) := op_add_str.or (op_cat.or op_catA)
theorem Reps.nil_iff {K : PySem.W.Frag} {T : Tb} {F : Hp} {vs : List V} {ds : List D} (r : Reps K T F vs ds) : vs = [] ↔ ds = [] := by
  have l := r.length
  constructor
  · intro h
    subst h
    exact List.eq_nil_of_length_eq_zero l.symm
  · intro h
    subst h
    exact List.eq_nil_of_length_eq_zero l
theorem good_addS {K : PySem.W.Frag} {T : Tb} : Good2 K T (rAddS K) gAddS := fun F H x y d e s Q eh rx ry h k => by
  cases d with
  | str a =>
    cases e with
    | str b =>
      cases rx
      cases ry
      obtain ⟨hl, rfl⟩ := ite_some (show (if a.length + b.length ≤ sizeLine then some (SV.sh (.str (a ++ b))) else none) = some s from h)
      exact .inl ⟨a, b, rfl, rfl, hl, k _ _ (gives_sh eh (.str _))⟩
    | _ => cases h
  | lst xs =>
    cases e with
    | lst ys =>
      obtain ⟨a, vs, rfl, h1, h2⟩ := rx
      obtain ⟨b, ws, rfl, h3, h4⟩ := ry
      obtain ⟨hl, rfl⟩ := ite_some (show (if xs.length + ys.length ≤ sizeLine then some (SV.ow (xs ++ ys)) else none) = some s from h)
      exact .inr (.inl ⟨a, b, vs, ws, rfl, rfl, h1, h3, by rw [h2.length, h4.length]; exact hl, fun p hp => k _ _ (gives_lst eh hp (h2.append h4))⟩)
    | _ => cases h
  | tup xs =>
    cases e with
    | tup ys =>
      cases rx with
      | tup g1 g2 =>
        cases ry with
        | tup g3 g4 =>
          obtain ⟨hl, rfl⟩ := ite_some (show (if xs.length + ys.length ≤ sizeLine then some (SV.sh (.tup (xs ++ ys))) else none) = some s from h)
          · refine .inr (.inr ⟨_, _, _, _, rfl, rfl, sqT_mono eh g1, sqT_mono eh g3, by rw [g2.length, g4.length]; exact hl, fun z => ?_, fun _ z => ?_, fun _ _ p hp => k _ _ (gives_tup eh hp (g2.append g4))⟩)
            · have z' := g2.nil_iff.mp z
              subst z'
              exact k _ _ (gives_sh eh (.tup g3 g4))
            · have z' := g4.nil_iff.mp z
              subst z'
              refine k _ _ (gives_sh eh ?_)
              rw [List.append_nil]
              exact .tup g1 g2
    | _ => cases h
  | _ => cases h
theorem good_addI {K : PySem.W.Frag} {T : Tb} : Good2 K T (rI0 fun i j => .int (i + j)) gAddI := good_I0 fun _ _ _ => .int _
def rAdd (K : PySem.W.Frag) : R2 := fun x y H Q => rI0 (fun i j => .int (i + j)) x y H Q ∨ rAddS K x y H Q
theorem op_addA {X : Cx} : OpR X (binaryOp .Add) (rAdd X.K) := L2.op_add.or op_addS
theorem good_add {K : PySem.W.Frag} {T : Tb} : Good2 K T (rAdd K) gAdd := good_addI.or good_addS
def gAddT : D → D → Option SV
  | .str x, .str y => if x.length + y.length ≤ sizeLine then some (.sh (.str (x ++ y))) else none
  | _, _ => none
theorem good_addT {K : PySem.W.Frag} {T : Tb} : Good2 K T rStrAdd gAddT := fun F H x y d e s Q eh rx ry h k => by
  cases d with
  | str a =>
    cases e with
    | str b =>
      cases rx
      cases ry
      obtain ⟨hl, rfl⟩ := ite_some (show (if a.length + b.length ≤ sizeLine then some (SV.sh (.str (a ++ b))) else none) = some s from h)
      exact ⟨a, b, rfl, rfl, hl, k _ _ (gives_sh eh (.str _))⟩
    | _ => cases h
  | _ => cases h
/-- x += e of numbers and texts -/
def gAddIS : D → D → Option SV := fun d e => (gAddI d e).or (gAddT d e)
theorem iop_addA {X : Cx} : OpR X (inplaceOp .Add) (fun x y H Q => rI0 (fun i j => .int (i + j)) x y H Q ∨ rStrAdd x y H Q) := iop_add.or iop_add_str
theorem good_addIS {K : PySem.W.Frag} {T : Tb} : Good2 K T (fun x y H Q => rI0 (fun i j => .int (i + j)) x y H Q ∨ rStrAdd x y H Q) gAddIS := good_addI.or good_addT
/-- a text times a number -/
def repS (x : Str) (n : Int) : Str := ⟨((List.replicate n.toNat x.cps.toList).flatten).toArray⟩
def rMulS : R2 := fun x y H Q => ∃ a n, x = .str a ∧ y = .int n ∧ -(2 ^ 62) < n ∧ n < 2 ^ 20 ∧ a.length ≤ 16 ∧ Q (.str (repS a n)) H
theorem foldl_cps (x : Array Nat) : ∀ (k : Nat) (acc : List Nat), List.foldl (fun a b => a ++ b) acc.toArray (List.replicate k x) = (acc ++ (List.replicate k x.toList).flatten).toArray
  | 0, acc => by simp
  | k + 1, acc => by
    have e : acc.toArray ++ x = (acc ++ x.toList).toArray := by
      apply Array.toList_inj.mp
      simp
    rw [List.replicate_succ, List.replicate_succ, List.foldl_cons, e, foldl_cps x k, List.flatten_cons, List.append_assoc]
theorem op_mulS {X : Cx} : OpR X (binaryOp .Mult) rMulS := by
  intro pins s σ H x y v u Q I rx ry h
  obtain ⟨a, n, rfl, rfl, h1, h2, h3, q⟩ := h
  obtain ⟨t, rfl⟩ := rx
  obtain ⟨t', rfl⟩ := ry
  refine PySem.P.mul_str ?_ ?_ ?_ ?_
  · rw [decide_eq_false (by omega), decide_eq_false (by omega)]; rfl
  · intro hn hz hh
    have h0 : 0 < n := by omega
    have e1 : ((2 : Int) ^ 63 - 1) / 2 ^ 20 ≤ (2 ^ 63 - 1) / n := by
      apply Int.le_ediv_of_mul_le h0
      have : ((2 : Int) ^ 63 - 1) / 2 ^ 20 * n ≤ ((2 : Int) ^ 63 - 1) / 2 ^ 20 * 2 ^ 20 := Int.mul_le_mul_of_nonneg_left (by omega) (by decide)
      exact Int.le_trans this (by decide)
    have e2 : (16 : Int) ≤ ((2 : Int) ^ 63 - 1) / 2 ^ 20 := by decide
    omega
  · intro hn hz
    have : a.length * n.toNat ≤ 16 * 2 ^ 20 := Nat.mul_le_mul h3 (by omega)
    have e : sizeLine = 16 * 2 ^ 20 := by decide
    show decide (a.length * n.toNat > sizeLine) = false
    exact decide_eq_false (by omega)
  · have e0 : (List.replicate n.toNat a.cps).foldl (· ++ ·) #[] = ((List.replicate n.toNat a.cps.toList).flatten).toArray := by
      have := foldl_cps a.cps n.toNat []
      simpa using this
    split
    · rename_i hn
      refine ⟨by decide, ?_⟩
      have e : repS a n = Str.empty := by
        unfold repS
        have : n.toNat = 0 := by omega
        rw [this]
        rfl
      rw [← e]
      exact ⟨.str _, H, I.tok _, ⟨_, rfl⟩, q⟩
    · rename_i hn
      split
      · rename_i hz
        have e : repS a n = a := by
          unfold repS
          rcases Bool.or_eq_true_iff.mp hz with z | z
          · have z : n = 1 := by simpa using z
            subst z
            simp
          · have z : a.length = 0 := by simpa using z
            have z' : a.cps.toList = [] := by
              have : a.cps.toList.length = 0 := by simpa [Str.length] using z
              exact List.eq_nil_of_length_eq_zero this
            have z2 : a.cps = #[] := Array.toList_inj.mp z'
            rw [z']
            have : (List.replicate n.toNat ([] : List Nat)).flatten = [] := by simp
            rw [this]
            cases a
            simp at z2
            rw [z2]
        rw [e] at q
        exact ⟨.str _, H, I, ⟨_, rfl⟩, q⟩
      · refine ⟨?_, ?_⟩
        · rw [e0]
          show ((List.replicate n.toNat a.cps.toList).flatten).toArray.size ≤ sizeLine
          have e : sizeLine = 16 * 2 ^ 20 := by decide
          have : a.cps.toList.length ≤ 16 := by simpa [Str.length] using h3
          have : n.toNat * a.cps.toList.length ≤ 2 ^ 20 * 16 := Nat.mul_le_mul (by omega) this
          rw [List.size_toArray, List.length_flatten, List.map_replicate, List.sum_replicate_nat]
          omega
        · rw [e0]
          exact ⟨.str _, H, I.tok _, ⟨_, rfl⟩, q⟩
def gMulS : D → D → Option SV
  | .str x, .int n => if -(2 ^ 62) < n ∧ n < 2 ^ 20 ∧ x.length ≤ 16 then some (.sh (.str (repS x n))) else none
  | .lst xs, .int n => if -(2 ^ 62) < n ∧ n < 2 ^ 62 ∧ xs.length * n.toNat ≤ sizeLine then some (.ow (List.replicate n.toNat xs).flatten) else none
  | _, _ => none
def rMulAny : R2 := fun x y H Q => rMulS x y H Q ∨ rRep x y H Q
theorem Reps.rep {K : PySem.W.Frag} {T : Tb} {F : Hp} {vs : List V} {ds : List D} (r : Reps K T F vs ds) : ∀ n : Nat, Reps K T F (List.replicate n vs).flatten (List.replicate n ds).flatten
  | 0 => .nil
  | n + 1 => by
    rw [List.replicate_succ, List.replicate_succ, List.flatten_cons, List.flatten_cons]
    exact r.append (Reps.rep r n)
theorem good_mulS {K : PySem.W.Frag} {T : Tb} : Good2 K T rMulAny gMulS := fun F H x y d e s Q eh rx ry h k => by
  cases d with
  | str a =>
    cases e with
    | int n =>
      cases rx
      cases ry
      obtain ⟨hl, rfl⟩ := ite_some (show (if -(2 ^ 62) < n ∧ n < 2 ^ 20 ∧ a.length ≤ 16 then some (SV.sh (.str (repS a n))) else none) = some s from h)
      exact .inl ⟨a, n, rfl, rfl, hl.1, hl.2.1, hl.2.2, k _ _ (gives_sh eh (.str _))⟩
    | _ => cases h
  | lst xs =>
    cases e with
    | int n =>
      obtain ⟨a, vs, rfl, h1, h2⟩ := rx
      cases ry
      obtain ⟨hl, rfl⟩ := ite_some (show (if -(2 ^ 62) < n ∧ n < 2 ^ 62 ∧ xs.length * n.toNat ≤ sizeLine then some (SV.ow (List.replicate n.toNat xs).flatten) else none) = some s from h)
      exact .inr ⟨a, n, vs, rfl, rfl, h1, by omega, by omega, by rw [h2.length]; exact hl.2.2, fun p hp => k _ _ (gives_lst eh hp (h2.rep _))⟩
    | _ => cases h
  | _ => cases h
def gMul : D → D → Option SV := fun d e => (gMulI d e).or (gMulS d e)
def rMul : R2 := fun x y H Q => rI CMul (fun i j => .int (i * j)) x y H Q ∨ rMulAny x y H Q
theorem op_mulA {X : Cx} : OpR X (binaryOp .Mult) rMul := L2.op_mul.or (op_mulS.or op_rep)
theorem good_mul {K : PySem.W.Frag} {T : Tb} : Good2 K T rMul gMul := good_mulI.or good_mulS

/-! ### ==, != -/
mutual
def toPy : D → Option PyData
  | .non => some .none
  | .bl b => some (.bool b)
  | .int i => some (.int i)
  | .str s => some (.str s)
  | .tup xs => (toPys xs).map .tuple
  | .lst xs => (toPys xs).map .list
  | .scr xs => (toPys xs).map .list
  | _ => none
def toPys : List D → Option (List PyData)
  | [] => some []
  | x :: xs => match toPy x, toPys xs with
    | some p, some ps => some (p :: ps)
    | _, _ => none
end
mutual
theorem Rep.dp {K : PySem.W.Frag} {T : Tb} {F H : Hp} (e : Exn F H) : ∀ {v : V} {d : D} {p : PyData}, Rep K T F v d → toPy d = some p → Dp K H v p
  | _, _, _, .non, h => by cases h; exact .non
  | _, _, _, .bl b, h => by cases h; exact .bl b
  | _, _, _, .int i, h => by cases h; exact .int i
  | _, _, _, .str s, h => by cases h; exact .str s
  | _, .tup ds, _, .tup g r, h => by
    rw [toPy] at h
    obtain ⟨ps, h1, rfl⟩ := Option.map_eq_some_iff.mp h
    exact .tup (sqT_mono e g) (Reps.dp e r h1)
  | _, .lst ds, _, .lst g r, h => by
    rw [toPy] at h
    obtain ⟨ps, h1, rfl⟩ := Option.map_eq_some_iff.mp h
    exact .lst (SqL.of (e.at g)) (Reps.dp e r h1)
  | _, .scr ds, _, .scr g r, h => by
    rw [toPy] at h
    obtain ⟨ps, h1, rfl⟩ := Option.map_eq_some_iff.mp h
    exact .lst (sqL_mono e g) (Reps.dp e r h1)
  | _, .ins c fs, _, .ins g r, h => by simp [toPy] at h
theorem Reps.dp {K : PySem.W.Frag} {T : Tb} {F H : Hp} (e : Exn F H) : ∀ {v : List V} {d : List D} {p : List PyData}, Reps K T F v d → toPys d = some p → DpAll K H v p
  | _, _, _, .nil, h => by rw [toPys] at h; cases h; exact .nil
  | _, d :: ds, _, .cons g r, h => by
    rw [toPys] at h
    cases q : toPy d with
    | none => rw [q] at h; cases h
    | some p1 =>
      cases q2 : toPys ds with
      | none => rw [q, q2] at h; cases h
      | some ps =>
        rw [q, q2] at h
        cases h
        exact .cons (Rep.dp e g q) (Reps.dp e r q2)
end
theorem RepB.dp {K : PySem.W.Frag} {T : Tb} {F H : Hp} {v : V} {d : D} {p : PyData} (e : Exn F H) (h : RepB K T F H v d) (q : toPy d = some p) : Dp K H v p := (h.full e).dp (Exn.refl _) q
/-- == of two data, where it is told -/
def deq (d e : D) : Option Bool := match d, e with
  | .int i, .int j => some (decide (i = j))
  | .str i, .str j => some (decide (i = j))
  | .bl i, .bl j => some (decide (i = j))
  | .non, .non => some true
  | d, e => match toPy d, toPy e with
    | some p, some q => if SeqAt.shaped p = true ∧ SeqAt.shaped q = true then some (PyData.eqv p q) else none
    | _, _ => none
def gEq (d e : D) : Option SV := (deq d e).map fun b => .sh (.bl b)
def gNe (d e : D) : Option SV := (deq d e).map fun b => .sh (.bl (!b))
def rEqA (K : PySem.W.Frag) : R2 := fun x y H Q => rEq x y H Q ∨ rEqD K x y H Q
def rNeA (K : PySem.W.Frag) : R2 := fun x y H Q => rNe x y H Q ∨ rNeD K x y H Q
theorem deq_cases {K : PySem.W.Frag} {T : Tb} {F H : Hp} {x y : V} {d e : D} {b : Bool} (eh : Exn F H) (rx : RepB K T F H x d) (ry : RepB K T F H y e) (h : deq d e = some b) : (scal x y = true ∧ decide (x = y) = b) ∨ (∃ p q, Dp K H x p ∧ Dp K H y q ∧ SeqAt.shaped p = true ∧ SeqAt.shaped q = true ∧ PyData.eqv p q = b) := by
  unfold deq at h
  split at h
  · cases h; cases rx; cases ry; exact .inl ⟨rfl, by rw [dec_int]; exact Bool.beq_eq_decide_eq ..⟩
  · cases h; cases rx; cases ry; exact .inl ⟨rfl, by rw [dec_str]; exact Bool.beq_eq_decide_eq ..⟩
  · cases h; cases rx; cases ry; exact .inl ⟨rfl, by rw [dec_bl]; exact Bool.beq_eq_decide_eq ..⟩
  · cases h; cases rx; cases ry; exact .inl ⟨rfl, rfl⟩
  · split at h
    · rename_i p q hp hq
      by_cases c : SeqAt.shaped p = true ∧ SeqAt.shaped q = true
      · rw [if_pos c] at h
        cases h
        exact .inr ⟨p, q, rx.dp eh hp, ry.dp eh hq, c.1, c.2, rfl⟩
      · rw [if_neg c] at h
        cases h
    · cases h
theorem good_eq {K : PySem.W.Frag} {T : Tb} : Good2 K T (rEqA K) gEq := fun F H x y d e s Q eh rx ry h k => by
  obtain ⟨b, hb, rfl⟩ := Option.map_eq_some_iff.mp (show (deq d e).map (fun b => SV.sh (.bl b)) = some s from h)
  rcases deq_cases eh rx ry hb with ⟨h1, rfl⟩ | ⟨p, q, h1, h2, h3, h4, rfl⟩
  · exact .inl ⟨h1, k _ _ (gives_sh eh (.bl _))⟩
  · exact .inr ⟨p, q, h1, h2, h3, h4, k _ _ (gives_sh eh (.bl _))⟩
theorem good_ne {K : PySem.W.Frag} {T : Tb} : Good2 K T (rNeA K) gNe := fun F H x y d e s Q eh rx ry h k => by
  obtain ⟨b, hb, rfl⟩ := Option.map_eq_some_iff.mp (show (deq d e).map (fun b => SV.sh (.bl (!b))) = some s from h)
  rcases deq_cases eh rx ry hb with ⟨h1, rfl⟩ | ⟨p, q, h1, h2, h3, h4, rfl⟩
  · exact .inl ⟨h1, k _ _ (gives_sh eh (.bl _))⟩
  · exact .inr ⟨p, q, h1, h2, h3, h4, k _ _ (gives_sh eh (.bl _))⟩
theorem op_eqA {X : Cx} (hu : X.A.units + 64 < cLine) : OpR X (compareOp .Eq) (rEqA X.K) := L2.op_eq.or (op_eqD hu)
theorem op_neA {X : Cx} (hu : X.A.units + 64 < cLine) : OpR X (compareOp .NotEq) (rNeA X.K) := L2.op_ne.or (op_neD hu)

/-! ### is: None, True, False -/
def isNon : D → Bool
  | .non => true
  | _ => false
def gIs : D → D → Option SV
  | d, .non => some (.sh (.bl (isNon d)))
  | .bl a, .bl b => some (.sh (.bl (decide (a = b))))
  | _, _ => none
def gIsNot : D → D → Option SV
  | d, .non => some (.sh (.bl (!isNon d)))
  | .bl a, .bl b => some (.sh (.bl (!decide (a = b))))
  | _, _ => none
def rIs : R2 := fun x y H Q => (y = .non ∧ Q (.bl (decide (x = .non))) H) ∨ rIsB x y H Q
def rIsNot : R2 := fun x y H Q => (y = .non ∧ Q (.bl (!decide (x = .non))) H) ∨ rNotB x y H Q
theorem op_isA {X : Cx} : OpR X (compareOp .Is) rIs := op_isN.or op_isBl
theorem op_isNotA {X : Cx} : OpR X (compareOp .IsNot) rIsNot := op_notN.or op_notBl
theorem non_dec {K : PySem.W.Frag} {T : Tb} {F H : Hp} {x : V} {d : D} (r : RepB K T F H x d) : decide (x = .non) = isNon d := by
  cases d with
  | lst ds => obtain ⟨a, vs, rfl, _⟩ := r; rfl
  | _ => cases r <;> rfl
theorem good_is {K : PySem.W.Frag} {T : Tb} : Good2 K T rIs gIs := fun F H x y d e s Q eh rx ry h k => by
  unfold gIs at h
  split at h
  · cases h
    cases ry
    refine .inl ⟨rfl, ?_⟩
    rw [non_dec rx]
    exact k _ _ (gives_sh eh (.bl _))
  · cases h
    cases rx
    cases ry
    exact .inr ⟨_, _, rfl, rfl, k _ _ (gives_sh eh (.bl _))⟩
  · cases h
theorem good_isNot {K : PySem.W.Frag} {T : Tb} : Good2 K T rIsNot gIsNot := fun F H x y d e s Q eh rx ry h k => by
  unfold gIsNot at h
  split at h
  · cases h
    cases ry
    refine .inl ⟨rfl, ?_⟩
    rw [non_dec rx]
    exact k _ _ (gives_sh eh (.bl _))
  · cases h
    cases rx
    cases ry
    exact .inr ⟨_, _, rfl, rfl, k _ _ (gives_sh eh (.bl _))⟩
  · cases h

/-! ### in, not in -/
def feq : D → D → Bool
  | .non, .non => true
  | .bl a, .bl b => a == b
  | .bl a, .int b => (if a then 1 else 0) == b
  | .int a, .bl b => a == (if b then 1 else 0)
  | .int a, .int b => a == b
  | .str a, .str b => a == b
  | _, _ => false
theorem feq_V {K : PySem.W.Frag} {T : Tb} {F F' : Hp} {x y : V} {d e : D} (rx : Rep K T F x d) (ry : Rep K T F' y e) (fx : scalarD d = true) (fy : scalarD e = true) : eqV x y = feq d e := by
  cases rx <;> first | (cases fx; done) | (cases ry <;> first | (cases fy; done) | rfl)
theorem flat_V {K : PySem.W.Frag} {T : Tb} {F : Hp} {x : V} {d : D} (rx : Rep K T F x d) (fx : scalarD d = true) : flatV x = true := by
  cases rx <;> first | rfl | cases fx
theorem flat_Vs {K : PySem.W.Frag} {T : Tb} {F : Hp} : ∀ {xs : List V} {ds : List D}, Reps K T F xs ds → ds.all scalarD = true → xs.all flatV = true
  | _, _, .nil, _ => rfl
  | _, d :: ds, .cons h r, f => by
    rw [List.all_cons, Bool.and_eq_true] at f ⊢
    exact ⟨flat_V h f.1, flat_Vs r f.2⟩
theorem inV_eq {K : PySem.W.Frag} {T : Tb} {F F' : Hp} {x : V} {d : D} (rx : Rep K T F' x d) (fx : scalarD d = true) : ∀ {xs : List V} {ds : List D}, Reps K T F xs ds → ds.all scalarD = true → inV x xs = ds.any fun e => feq e d
  | _, _, .nil, _ => rfl
  | _, e :: ds, .cons h r, f => by
    rw [List.all_cons, Bool.and_eq_true] at f
    have ih := inV_eq rx fx r f.2
    unfold inV at ih ⊢
    rw [List.any_cons, List.any_cons, feq_V h rx f.1 fx, ih]
/-- is it in -/
def dIn (d e : D) : Option Bool := match e with
  | .str z => (match d with
    | .str x => if x.length = 1 then some (decide (x.cps.getD 0 0 ∈ z.cps.toList)) else some (!(Builtin.Str.occurrences z x 0 z.length 1).isEmpty)
    | _ => none)
  | .lst ds => if scalarD d = true ∧ ds.all scalarD = true then some (ds.any fun e => feq e d) else none
  | .scr ds => if scalarD d = true ∧ ds.all scalarD = true then some (ds.any fun e => feq e d) else none
  | .tup ds => if scalarD d = true ∧ ds.all scalarD = true then some (ds.any fun e => feq e d) else none
  | _ => none
def gIn (neg : Bool) (d e : D) : Option SV := (dIn d e).map fun b => .sh (.bl (if neg then !b else b))
def rInSign (neg : Bool) : R2 := fun x y H Q => ∃ (c : Nat) (z : Str), x = .str ⟨#[c]⟩ ∧ y = .str z ∧ Q (.bl (if neg then !decide (c ∈ z.cps.toList) else decide (c ∈ z.cps.toList))) H
def rInStr (neg : Bool) : R2 := fun x y H Q => ∃ i j, x = .str i ∧ y = .str j ∧ Q (.bl (if neg then !(!(Builtin.Str.occurrences j i 0 j.length 1).isEmpty) else !(Builtin.Str.occurrences j i 0 j.length 1).isEmpty)) H
def rInA (K : PySem.W.Frag) (neg : Bool) : R2 := fun x y H Q => rInSign neg x y H Q ∨ rInStr neg x y H Q ∨ rIn K neg x y H Q
theorem op_inA {X : Cx} : OpR X (compareOp .In) (rInA X.K false) := (op_in_sign : OpR X (compareOp .In) (rInSign false)).or ((op_in_str : OpR X (compareOp .In) (rInStr false)).or op_in_seq)
theorem op_notInA {X : Cx} : OpR X (compareOp .NotIn) (rInA X.K true) := (op_notIn_sign : OpR X (compareOp .NotIn) (rInSign true)).or ((L2.op_notIn_str : OpR X (compareOp .NotIn) (rInStr true)).or op_notIn_seq)
theorem one_sign {x : Str} (h : x.length = 1) : x = ⟨#[x.cps.getD 0 0]⟩ := by
  obtain ⟨a⟩ := x
  have h : a.size = 1 := h
  congr 1
  apply Array.ext
  · rw [h]; rfl
  · intro i h1 h2
    have : i = 0 := by omega
    subst this
    simp [h]
theorem good_in {K : PySem.W.Frag} {T : Tb} {neg : Bool} : Good2 K T (rInA K neg) (gIn neg) := fun F H x y d e s Q eh rx ry h k => by
  obtain ⟨b, hb, rfl⟩ := Option.map_eq_some_iff.mp (show (dIn d e).map (fun b => SV.sh (.bl (if neg then !b else b))) = some s from h)
  have seq : ∀ {p : Addr} {vs : List V} {ds : List D}, y = .ref p → (SqL K H p vs ∨ SqT K H p vs) → Reps K T F vs ds → (if scalarD d = true ∧ ds.all scalarD = true then some (ds.any fun e => feq e d) else none) = some b → rInA K neg x y H Q := fun {p vs ds} ey hs r hb => by
    by_cases c : scalarD d = true ∧ ds.all scalarD = true
    · rw [if_pos c] at hb
      cases hb
      have rx' := rx.full eh
      refine .inr (.inr ⟨p, vs, ey, hs, flat_V rx' c.1, flat_Vs r c.2, ?_⟩)
      rw [inV_eq rx' c.1 r c.2]
      exact k _ _ (gives_sh eh (.bl _))
    · rw [if_neg c] at hb
      cases hb
  unfold dIn at hb
  split at hb
  · rename_i z
    cases ry
    split at hb
    · rename_i a
      cases rx
      by_cases l : a.length = 1
      · rw [if_pos l] at hb
        cases hb
        exact .inl ⟨_, z, by rw [← one_sign l], rfl, k _ _ (gives_sh eh (.bl _))⟩
      · rw [if_neg l] at hb
        cases hb
        exact .inr (.inl ⟨a, z, rfl, rfl, k _ _ (gives_sh eh (.bl _))⟩)
    · cases hb
  · obtain ⟨a, vs, rfl, h1, h2⟩ := ry
    exact seq rfl (.inl (SqL.of h1)) h2 hb
  · cases ry with
    | scr h1 h2 => exact seq rfl (.inl (sqL_mono eh h1)) h2 hb
  · cases ry with
    | tup h1 h2 => exact seq rfl (.inr (sqT_mono eh h1)) h2 hb
  · cases hb
end DL
end

section
set_option Elab.async false
set_option linter.all false
set_option autoImplicit false
set_option maxRecDepth 100000
set_option maxHeartbeats 4000000
namespace DL
open PySem PySem.Spec PyProof.Rows L2
/-! ### built-in functions -/
theorem GoodN.or {K : PySem.W.Frag} {T : Tb} {r r' : List V → Hp → VK → Prop} {g g' : List D → Option SV} (h : GoodN K T r g) (h' : GoodN K T r' g') : GoodN K T (fun xs H Q => r xs H Q ∨ r' xs H Q) (fun d => (g d).or (g' d)) := fun F H vs ds s Q eh rx q k => by
  have q : (g ds).or (g' ds) = some s := q
  cases z : g ds with
  | some s' =>
    rw [z] at q
    cases q
    exact .inl (h F H vs ds s Q eh rx z k)
  | none =>
    rw [z] at q
    exact .inr (h' F H vs ds s Q eh rx q k)
section
variable {K : PySem.W.Frag} {T : Tb}
/-- one argument -/
theorem goodN1 {r : List V → Hp → VK → Prop} {g : List D → Option SV} (hn : ∀ ds s, g ds = some s → ∃ d, ds = [d])
    (h : ∀ (F H : Hp) (x : V) (d : D) (s : SV) (Q : VK), Exn F H → RepB K T F H x d → g [d] = some s → (∀ v H', Gives K T F H s v H' → Q v H') → r [x] H Q) : GoodN K T r g := fun F H vs ds s Q eh rx q k => by
  obtain ⟨d, rfl⟩ := hn ds s q
  cases rx with
  | cons h1 r1 =>
    cases r1
    exact h F H _ d s Q eh h1 q k
def gLen : List D → Option SV
  | [.str s] => if s.length ≤ sizeLine then some (.sh (.int s.length)) else none
  | [.lst ds] => some (.sh (.int ds.length))
  | [.scr ds] => some (.sh (.int ds.length))
  | [.tup ds] => some (.sh (.int ds.length))
  | _ => none
def rLen (K : PySem.W.Frag) : List V → Hp → VK → Prop := fun xs H Q => ∃ x n, xs = [x] ∧ LenV K x H n ∧ Q (.int n) H
theorem good_len : GoodN K T (rLen K) gLen := goodN1 (fun ds s h => by unfold gLen at h; split at h <;> first | exact ⟨_, rfl⟩ | cases h) fun F H x d s Q eh rx h k => by
  unfold gLen at h
  split at h
  · rename_i e
    cases e
    cases rx
    obtain ⟨hl, rfl⟩ := ite_some h
    exact ⟨_, _, rfl, ⟨hl, rfl⟩, k _ _ (gives_sh eh (.int _))⟩
  · rename_i e
    cases e
    cases h
    obtain ⟨a, vs, rfl, h1, h2⟩ := rx
    exact ⟨_, vs.length, rfl, .inl ⟨vs, SqL.of h1, rfl⟩, by rw [h2.length]; exact k _ _ (gives_sh eh (.int _))⟩
  · rename_i e
    cases e
    cases h
    cases rx with
    | scr h1 h2 => exact ⟨_, _, rfl, .inl ⟨_, sqL_mono eh h1, rfl⟩, by rw [h2.length]; exact k _ _ (gives_sh eh (.int _))⟩
  · rename_i e
    cases e
    cases h
    cases rx with
    | tup h1 h2 => exact ⟨_, _, rfl, .inr ⟨_, sqT_mono eh h1, rfl⟩, by rw [h2.length]; exact k _ _ (gives_sh eh (.int _))⟩
  · cases h
def gInt : List D → Option SV
  | [.int i] => some (.sh (.int i))
  | [.bl b] => some (.sh (.int (if b then 1 else 0)))
  | [.str s] => match PySem.intText? s with
    | some n => if s.length ≤ 640 then some (.sh (.int n)) else none
    | none => none
  | _ => none
def rInt : List V → Hp → VK → Prop := fun xs H Q => ((∃ i, xs = [.int i] ∧ Q (.int i) H) ∨ ∃ k, xs = [.bl k] ∧ Q (.int (if k then 1 else 0)) H) ∨ ∃ a n, xs = [.str a] ∧ PySem.intText? a = some n ∧ a.length ≤ 640 ∧ Q (.int n) H
theorem call_intA {X : Cx} : CallR X (.type "int") rInt := call_int1.or call_int_str
theorem good_int : GoodN K T rInt gInt := goodN1 (fun ds s h => by unfold gInt at h; split at h <;> first | exact ⟨_, rfl⟩ | cases h) fun F H x d s Q eh rx h k => by
  unfold gInt at h
  split at h
  · rename_i e
    cases e
    cases h
    cases rx
    exact .inl (.inl ⟨_, rfl, k _ _ (gives_sh eh (.int _))⟩)
  · rename_i e
    cases e
    cases h
    cases rx
    exact .inl (.inr ⟨_, rfl, k _ _ (gives_sh eh (.int _))⟩)
  · rename_i e
    cases e
    cases rx
    split at h
    · rename_i n hn
      obtain ⟨hl, rfl⟩ := ite_some h
      exact .inr ⟨_, n, rfl, hn, hl, k _ _ (gives_sh eh (.int _))⟩
    · cases h
  · cases h
def gStr : List D → Option SV
  | [.int i] => if i.natAbs.log2 < 1920 then some (.sh (.str (toString i))) else none
  | [.str s] => some (.sh (.str s))
  | _ => none
def rStr : List V → Hp → VK → Prop := fun xs H Q => (∃ i, xs = [.int i] ∧ i.natAbs.log2 < 1920 ∧ Q (.str (toString i)) H) ∨ ∃ a, xs = [.str a] ∧ Q (.str a) H
theorem call_strA {X : Cx} : CallR X (.type "str") rStr := call_str_int.or SkE.call_str_str
theorem good_str : GoodN K T rStr gStr := goodN1 (fun ds s h => by unfold gStr at h; split at h <;> first | exact ⟨_, rfl⟩ | cases h) fun F H x d s Q eh rx h k => by
  unfold gStr at h
  split at h
  · rename_i e
    cases e
    cases rx
    obtain ⟨hl, rfl⟩ := ite_some h
    exact .inl ⟨_, rfl, hl, k _ _ (gives_sh eh (.str _))⟩
  · rename_i e
    cases e
    cases h
    cases rx
    exact .inr ⟨_, rfl, k _ _ (gives_sh eh (.str _))⟩
  · cases h
def gAbs : List D → Option SV
  | [.int i] => some (.sh (.int (if i < 0 then -i else i)))
  | _ => none
theorem good_abs : GoodN K T (fun xs H Q => ∃ i, xs = [.int i] ∧ Q (.int (if i < 0 then -i else i)) H) gAbs := goodN1 (fun ds s h => by unfold gAbs at h; split at h <;> first | exact ⟨_, rfl⟩ | cases h) fun F H x d s Q eh rx h k => by
  unfold gAbs at h
  split at h
  · rename_i e
    cases e
    cases h
    cases rx
    exact ⟨_, rfl, k _ _ (gives_sh eh (.int _))⟩
  · cases h
def gMax2 : List D → Option SV
  | [.int i, .int j] => some (.sh (.int (if j > i then j else i)))
  | _ => none
def gMin2 : List D → Option SV
  | [.int i, .int j] => some (.sh (.int (if j < i then j else i)))
  | _ => none
theorem good_max2 : GoodN K T (fun xs H Q => ∃ i j, xs = [.int i, .int j] ∧ Q (.int (if j > i then j else i)) H) gMax2 := fun F H vs ds s Q eh rx h k => by
  unfold gMax2 at h
  split at h
  · cases h
    cases rx with
    | cons h1 r =>
      cases r with
      | cons h2 r =>
        cases r
        cases h1
        cases h2
        exact ⟨_, _, rfl, k _ _ (gives_sh eh (.int _))⟩
  · cases h
theorem good_min2 : GoodN K T (fun xs H Q => ∃ i j, xs = [.int i, .int j] ∧ Q (.int (if j < i then j else i)) H) gMin2 := fun F H vs ds s Q eh rx h k => by
  unfold gMin2 at h
  split at h
  · cases h
    cases rx with
    | cons h1 r =>
      cases r with
      | cons h2 r =>
        cases r
        cases h1
        cases h2
        exact ⟨_, _, rfl, k _ _ (gives_sh eh (.int _))⟩
  · cases h
/-- the numbers of a list -/
def dInts : List D → Option (List Int)
  | [] => some []
  | .int i :: r => (dInts r).map (i :: ·)
  | _ :: _ => none
theorem Reps.dInts {F : Hp} : ∀ {vs : List V} {ds : List D} {ns : List Int}, Reps K T F vs ds → dInts ds = some ns → vs = ns.map V.int
  | _, _, _, .nil, e => by cases e; rfl
  | _, d :: ds, ns, .cons h r, e => by
    cases d with
    | int i =>
      cases h
      obtain ⟨ms, h1, rfl⟩ := Option.map_eq_some_iff.mp (show (DL.dInts ds).map (i :: ·) = some ns from e)
      rw [Reps.dInts r h1]
      rfl
    | _ => cases e
theorem reps_ints {F : Hp} : ∀ ns : List Int, Reps K T F (ns.map V.int) (ns.map D.int)
  | [] => .nil
  | n :: ns => .cons (.int n) (reps_ints ns)
def dBls : List D → Option (List Bool)
  | [] => some []
  | .bl i :: r => (dBls r).map (i :: ·)
  | _ :: _ => none
theorem Reps.dBls {F : Hp} : ∀ {vs : List V} {ds : List D} {ns : List Bool}, Reps K T F vs ds → dBls ds = some ns → vs = ns.map V.bl
  | _, _, _, .nil, e => by cases e; rfl
  | _, d :: ds, ns, .cons h r, e => by
    cases d with
    | bl i =>
      cases h
      obtain ⟨ms, h1, rfl⟩ := Option.map_eq_some_iff.mp (show (DL.dBls ds).map (i :: ·) = some ns from e)
      rw [Reps.dBls r h1]
      rfl
    | _ => cases e
def dStrs : List D → Option (List Str)
  | [] => some []
  | .str i :: r => (dStrs r).map (i :: ·)
  | _ :: _ => none
theorem Reps.dStrs {F : Hp} : ∀ {vs : List V} {ds : List D} {ns : List Str}, Reps K T F vs ds → dStrs ds = some ns → vs = ns.map V.str
  | _, _, _, .nil, e => by cases e; rfl
  | _, d :: ds, ns, .cons h r, e => by
    cases d with
    | str i =>
      cases h
      obtain ⟨ms, h1, rfl⟩ := Option.map_eq_some_iff.mp (show (DL.dStrs ds).map (i :: ·) = some ns from e)
      rw [Reps.dStrs r h1]
      rfl
    | _ => cases e
theorem reps_strs {F : Hp} : ∀ ns : List Str, Reps K T F (ns.map V.str) (ns.map D.str)
  | [] => .nil
  | n :: ns => .cons (.str n) (reps_strs ns)
/-- the items of a list that is read -/
def lstOf : D → Option (List D)
  | .lst ds => some ds
  | .scr ds => some ds
  | _ => none
theorem RepB.list {F H : Hp} {x : V} {d : D} {ds : List D} (eh : Exn F H) (r : RepB K T F H x d) (h : lstOf d = some ds) : ∃ a vs, x = .ref a ∧ SqL K H a vs ∧ Reps K T F vs ds := by
  cases d with
  | lst es =>
    cases h
    obtain ⟨a, vs, rfl, h1, h2⟩ := r
    exact ⟨a, vs, rfl, SqL.of h1, h2⟩
  | scr es =>
    cases h
    cases r with
    | scr h1 h2 => exact ⟨_, _, rfl, sqL_mono eh h1, h2⟩
  | _ => cases h
def seqOf : D → Option (List D)
  | .lst ds => some ds
  | .scr ds => some ds
  | .tup ds => some ds
  | _ => none
theorem RepB.seq {F H : Hp} {x : V} {d : D} {ds : List D} (eh : Exn F H) (r : RepB K T F H x d) (h : seqOf d = some ds) : ∃ a vs, x = .ref a ∧ (SqL K H a vs ∨ SqT K H a vs) ∧ Reps K T F vs ds := by
  cases d with
  | lst es =>
    cases h
    obtain ⟨a, vs, rfl, h1, h2⟩ := r
    exact ⟨a, vs, rfl, .inl (SqL.of h1), h2⟩
  | scr es =>
    cases h
    cases r with
    | scr h1 h2 => exact ⟨_, _, rfl, .inl (sqL_mono eh h1), h2⟩
  | tup es =>
    cases h
    cases r with
    | tup h1 h2 => exact ⟨_, _, rfl, .inr (sqT_mono eh h1), h2⟩
  | _ => cases h
def gSum : List D → Option SV
  | [d] => match lstOf d with
    | some ds => (dInts ds).map fun ns => .sh (.int ns.sum)
    | none => none
  | _ => none
theorem good_sum : GoodN K T (rSum K) gSum := goodN1 (fun ds s h => by unfold gSum at h; split at h <;> first | exact ⟨_, rfl⟩ | cases h) fun F H x d s Q eh rx h k => by
  have h : (match lstOf d with | some ds => (dInts ds).map fun ns => SV.sh (.int ns.sum) | none => none) = some s := h
  split at h
  · rename_i ds hd
    obtain ⟨ns, h1, rfl⟩ := Option.map_eq_some_iff.mp h
    obtain ⟨a, vs, rfl, g1, g2⟩ := rx.list eh hd
    rw [g2.dInts h1] at g1
    exact ⟨a, ns, rfl, g1, k _ _ (gives_sh eh (.int _))⟩
  · cases h
def gAll : List D → Option SV
  | [d] => match lstOf d with
    | some ds => (dBls ds).map fun ns => .sh (.bl (ns.all id))
    | none => none
  | _ => none
theorem good_all : GoodN K T (rAll K) gAll := goodN1 (fun ds s h => by unfold gAll at h; split at h <;> first | exact ⟨_, rfl⟩ | cases h) fun F H x d s Q eh rx h k => by
  have h : (match lstOf d with | some ds => (dBls ds).map fun ns => SV.sh (.bl (ns.all id)) | none => none) = some s := h
  split at h
  · rename_i ds hd
    obtain ⟨ns, h1, rfl⟩ := Option.map_eq_some_iff.mp h
    obtain ⟨a, vs, rfl, g1, g2⟩ := rx.list eh hd
    rw [g2.dBls h1] at g1
    exact ⟨a, ns, rfl, g1, k _ _ (gives_sh eh (.bl _))⟩
  · cases h
def gAny : List D → Option SV
  | [d] => match lstOf d with
    | some ds => (dBls ds).map fun ns => .sh (.bl (ns.any id))
    | none => none
  | _ => none
theorem good_any : GoodN K T (rAny K) gAny := goodN1 (fun ds s h => by unfold gAny at h; split at h <;> first | exact ⟨_, rfl⟩ | cases h) fun F H x d s Q eh rx h k => by
  have h : (match lstOf d with | some ds => (dBls ds).map fun ns => SV.sh (.bl (ns.any id)) | none => none) = some s := h
  split at h
  · rename_i ds hd
    obtain ⟨ns, h1, rfl⟩ := Option.map_eq_some_iff.mp h
    obtain ⟨a, vs, rfl, g1, g2⟩ := rx.list eh hd
    rw [g2.dBls h1] at g1
    exact ⟨a, ns, rfl, g1, k _ _ (gives_sh eh (.bl _))⟩
  · cases h
def gList : List D → Option SV
  | [d] => (seqOf d).map .ow
  | _ => none
theorem good_list : GoodN K T (fun xs H Q => ∃ p ys, xs = [.ref p] ∧ (SqL K H p ys ∨ SqT K H p ys) ∧ ∀ l, H l = none → Q (.ref l) (upd H l (.lst ys))) gList := goodN1 (fun ds s h => by unfold gList at h; split at h <;> first | exact ⟨_, rfl⟩ | cases h) fun F H x d s Q eh rx h k => by
  obtain ⟨ds, hd, rfl⟩ := Option.map_eq_some_iff.mp (show (seqOf d).map SV.ow = some s from h)
  obtain ⟨a, vs, rfl, g1, g2⟩ := rx.seq eh hd
  exact ⟨a, vs, rfl, g1, fun l hl => k _ _ (gives_lst eh hl g2)⟩
def gTuple : List D → Option SV
  | [d] => (seqOf d).map fun ds => .sh (.tup ds)
  | _ => none
theorem good_tuple : GoodN K T (fun xs H Q => ∃ p ys, xs = [.ref p] ∧ ((SqL K H p ys ∧ ∀ l, H l = none → Q (.ref l) (upd H l (.tup ys))) ∨ (SqT K H p ys ∧ Q (.ref p) H))) gTuple := goodN1 (fun ds s h => by unfold gTuple at h; split at h <;> first | exact ⟨_, rfl⟩ | cases h) fun F H x d s Q eh rx h k => by
  obtain ⟨ds, hd, rfl⟩ := Option.map_eq_some_iff.mp (show (seqOf d).map (fun ds => SV.sh (.tup ds)) = some s from h)
  cases d with
  | tup es =>
    cases hd
    cases rx with
    | tup g1 g2 => exact ⟨_, _, rfl, .inr ⟨sqT_mono eh g1, k _ _ (gives_sh eh (.tup g1 g2))⟩⟩
  | lst es =>
    cases hd
    obtain ⟨a, vs, rfl, h1, h2⟩ := rx
    exact ⟨_, _, rfl, .inl ⟨SqL.of h1, fun l hl => k _ _ (gives_tup eh hl h2)⟩⟩
  | scr es =>
    cases hd
    cases rx with
    | scr g1 g2 => exact ⟨_, _, rfl, .inl ⟨sqL_mono eh g1, fun l hl => k _ _ (gives_tup eh hl g2)⟩⟩
  | _ => cases hd
def gDivmod : List D → Option SV
  | [.int i, .int j] => if 0 < j ∧ j < 1073741824 then some (.sh (.tup [.int (i / j), .int (i % j)])) else none
  | _ => none
theorem good_divmod : GoodN K T (fun xs H Q => ∃ i j, xs = [.int i, .int j] ∧ CDiv i j ∧ ∀ p, H p = none → Q (.ref p) (upd H p (.tup [.int (i / j), .int (i % j)]))) gDivmod := fun F H vs ds s Q eh rx h k => by
  unfold gDivmod at h
  split at h
  · obtain ⟨hl, rfl⟩ := ite_some h
    cases rx with
    | cons h1 r =>
      cases r with
      | cons h2 r =>
        cases r
        cases h1
        cases h2
        exact ⟨_, _, rfl, hl, fun p hp => k _ _ (gives_tup eh hp (.cons (.int _) (.cons (.int _) .nil)))⟩
  · cases h
end

/-! ### isinstance of a built-in type -/
def tyName : D → Option String
  | .non => some "NoneType"
  | .bl _ => some "bool"
  | .int _ => some "int"
  | .str _ => some "str"
  | .tup _ => some "tuple"
  | .lst _ => some "list"
  | .scr _ => some "list"
  | _ => none
def isTy (Ty a : String) : Bool := (Ty == a) || (Ty == "int" && a == "bool")
def gIsi (Ty : String) (d : D) : Option SV := (tyName d).map fun a => .sh (.bl (isTy Ty a))
theorem tyX_of {K : PySem.W.Frag} {T : Tb} {F H : Hp} {x : V} {d : D} {a : String} (eh : Exn F H) (r : RepB K T F H x d) (h : tyName d = some a) : TyX K H x (.type a) := by
  cases d with
  | non => cases h; cases r; exact .base .non
  | bl b => cases h; cases r; exact .base (.bl b)
  | int i => cases h; cases r; exact .base (.int i)
  | str s => cases h; cases r; exact .base (.str s)
  | tup ds =>
    cases h
    cases r with
    | tup g1 g2 =>
      rcases sqT_mono eh g1 with (g | ⟨o, g⟩) | ⟨o, its, n, g, c, _⟩
      · exact .base (.tup g)
      · exact .fTuple g
      · exact .kTuple g c
  | lst ds =>
    cases h
    obtain ⟨a, vs, rfl, h1, h2⟩ := r
    exact .base (.lst h1)
  | scr ds =>
    cases h
    cases r with
    | scr g1 g2 =>
      rcases sqL_mono eh g1 with (g | ⟨o, g⟩) | ⟨o, its, n, g, c, _⟩
      · exact .base (.lst g)
      · exact .base (.frz g)
      · exact .kList g c
  | _ => cases h
theorem kit_tab {K : PySem.W.Frag} {d : D} {a Ty : String} (hT : Ty = "bool" ∨ Ty = "int" ∨ Ty = "str" ∨ Ty = "tuple" ∨ Ty = "list") (h : tyName d = some a) : PySem.W.kitOne K (.type a) (.type Ty) = some (isTy Ty a) := by
  have ha : a = "NoneType" ∨ a = "bool" ∨ a = "int" ∨ a = "str" ∨ a = "tuple" ∨ a = "list" := by
    cases d <;> first | (cases h; done) | (cases h; simp)
  refine kit_ty ?_
  rcases hT with rfl | rfl | rfl | rfl | rfl <;> rcases ha with rfl | rfl | rfl | rfl | rfl | rfl <;> decide +kernel
theorem de_isi {X : Cx} {T : Tb} {W : WX} {e : Expr} {Ty : Str} {S : String} {fe : Env → Res SV} {p p2 pos : Pos} (hT : S = "bool" ∨ S = "int" ∨ S = "str" ∨ S = "tuple" ∨ S = "list") (hg : Gl X "isinstance") (hm : X.mg "isinstance" = none) (hg2 : Gl X Ty) (hm2 : X.mg Ty = none) (hv2 : bootBuiltins Ty = some (.type S)) (he : PE X e (rd X.K T W fe)) (hn : Ty ≠ "__name__" := by decide) (hd : (Ty == ("__debug__" : Str)) = false := by decide)
    (hs : starEach [e, .Name Ty p2] X.env = (false, eval e X.env) :: starEach [.Name Ty p2] X.env := by rfl) (hs2 : starEach [.Name Ty p2] X.env = (false, eval (.Name Ty p2) X.env) :: starEach [] X.env := by rfl) (hpl : (backTo pos (starEach [.Name Ty p2] X.env)).any (·.1) = false := by rfl) :
    PE X (.Call (.Name "isinstance" p) [e, .Name Ty p2] [] pos) (rd X.K T W (f1 (gIsi S) fe)) :=
  PEimp (pe_callB call_isi hg hm (by decide +kernel) (pa_cons he (pa_cons (pe_bltn (v := .ty S) hg2 hm2 hv2 rfl hn hd) pa_nil hs2) hs) (by decide) (by decide) hs hpl) fun σ H Q ⟨F0, G, F, δ, E, h⟩ => by
    refine rd_bind E h fun v s F' H' pp r h1 => ?_
    cases q : gIsi S s.d with
    | none => rw [q] at h1; exact h1.elim
    | some z =>
      rw [q] at h1
      obtain ⟨a, ha, rfl⟩ := Option.map_eq_some_iff.mp (show (tyName s.d).map (fun a => SV.sh (.bl (isTy S a))) = some z from q)
      exact ⟨v, .ty S, _, _, _, rfl, .ty S, tyX_of pp.fh (r.b pp.fh) ha, kit_tab hT ha, h1 _ F' H' pp (.bl _)⟩

/-! ### subscripts, slices -/
def gIx : D → D → Option SV
  | .lst ds, .int i => (atI ds i).map .sh
  | .scr ds, .int i => (atI ds i).map .sh
  | .tup ds, .int i => (atI ds i).map .sh
  | .str z, .int i => if z.length ≤ sizeLine then (atI z.cps.toList i).map fun c => .sh (.str ⟨#[c]⟩) else none
  | _, _ => none
theorem atI_rep {K : PySem.W.Frag} {T : Tb} {F : Hp} {vs : List V} {ds : List D} {i : Int} {d : D} (r : Reps K T F vs ds) (h : atI ds i = some d) : ∃ v, atI vs i = some v ∧ Rep K T F v d := by
  unfold atI at h ⊢
  rw [r.length]
  cases q : ixN ds.length i with
  | none => rw [q] at h; cases h
  | some j =>
    rw [q] at h
    exact r.get h
theorem good_ix {K : PySem.W.Frag} {T : Tb} : Good2 K T (rIx K) gIx := fun F H x y d e s Q eh rx ry h k => by
  unfold gIx at h
  split at h
  · rename_i ds i
    cases ry
    obtain ⟨z, hz, rfl⟩ := Option.map_eq_some_iff.mp h
    obtain ⟨a, vs, rfl, h1, h2⟩ := rx
    obtain ⟨v, g1, g2⟩ := atI_rep h2 hz
    exact .inl ⟨a, vs, i, v, rfl, rfl, SqL.of h1, g1, k _ _ (gives_sh eh g2)⟩
  · rename_i ds i
    cases ry
    obtain ⟨z, hz, rfl⟩ := Option.map_eq_some_iff.mp h
    cases rx with
    | scr h1 h2 =>
      obtain ⟨v, g1, g2⟩ := atI_rep h2 hz
      exact .inl ⟨_, _, i, v, rfl, rfl, sqL_mono eh h1, g1, k _ _ (gives_sh eh g2)⟩
  · rename_i ds i
    cases ry
    obtain ⟨z, hz, rfl⟩ := Option.map_eq_some_iff.mp h
    cases rx with
    | tup h1 h2 =>
      obtain ⟨v, g1, g2⟩ := atI_rep h2 hz
      exact .inr (.inl ⟨_, _, i, v, rfl, rfl, sqT_mono eh h1, g1, k _ _ (gives_sh eh g2)⟩)
  · rename_i z i
    cases ry
    cases rx
    by_cases l : z.length ≤ sizeLine
    · rw [if_pos l] at h
      obtain ⟨c, hc, rfl⟩ := Option.map_eq_some_iff.mp h
      exact .inr (.inr ⟨z, i, c, rfl, rfl, l, hc, k _ _ (gives_sh eh (.str _))⟩)
    · rw [if_neg l] at h
      cases h
  · cases h
/-- the items between two places -/
def cutD (xs : List D) (lo hi : Option Int) : List D := (xs.drop (HT.sIx xs.length 0 lo)).take (HT.sIx xs.length xs.length hi - HT.sIx xs.length 0 lo)
theorem Reps.cut {K : PySem.W.Frag} {T : Tb} {F : Hp} {vs : List V} {ds : List D} (r : Reps K T F vs ds) (lo hi : Option Int) : Reps K T F (cutV vs lo hi) (cutD ds lo hi) := by
  unfold cutV cutD
  rw [r.length]
  exact (r.drop _).take _
def gSl (d : D) (lo hi : Option Int) : Option SV := match d with
  | .lst ds => some (.ow (cutD ds lo hi))
  | .scr ds => some (.ow (cutD ds lo hi))
  | .tup ds => some (.sh (.tup (cutD ds lo hi)))
  | .str z => if z.length ≤ sizeLine then some (.sh (.str (cutS z lo hi))) else none
  | _ => none
def rSlAny (K : PySem.W.Frag) : V → Option Int → Option Int → Hp → VK → Prop := fun x lo hi H Q => rSlL K x lo hi H Q ∨ rSlA K x lo hi H Q ∨ rSlS x lo hi H Q
theorem sl_any {X : Cx} : SlR X (rSlAny X.K) := sl_list.or (sl_tupA.or sl_str)
theorem good_sl {K : PySem.W.Frag} {T : Tb} {F H : Hp} {x : V} {d : D} {lo hi : Option Int} {s : SV} {Q : VK} (eh : Exn F H) (rx : RepB K T F H x d) (h : gSl d lo hi = some s) (k : ∀ v H', Gives K T F H s v H' → Q v H') : rSlAny K x lo hi H Q := by
  cases d with
  | lst ds =>
    cases h
    obtain ⟨a, vs, rfl, h1, h2⟩ := rx
    exact .inl ⟨a, vs, rfl, SqL.of h1, fun p hp => k _ _ (gives_lst eh hp (h2.cut lo hi))⟩
  | scr ds =>
    cases h
    cases rx with
    | scr h1 h2 => exact .inl ⟨_, _, rfl, sqL_mono eh h1, fun p hp => k _ _ (gives_lst eh hp (h2.cut lo hi))⟩
  | tup ds =>
    cases h
    cases rx with
    | tup h1 h2 =>
      refine .inr (.inl ⟨_, _, rfl, sqT_mono eh h1, fun z => k _ _ (gives_sh eh ?_), fun _ p hp => k _ _ (gives_tup eh hp (h2.cut lo hi))⟩)
      have e : cutD ds lo hi = ds := by
        unfold cutD
        rw [← h2.length, z.1, z.2, List.drop_zero, h2.length, Nat.sub_zero]
        exact List.take_length ..
      rw [e]
      exact .tup h1 h2
  | str z =>
    cases rx
    obtain ⟨l, rfl⟩ := ite_some (show (if z.length ≤ sizeLine then some (SV.sh (.str (cutS z lo hi))) else none) = some s from h)
    exact .inr (.inr ⟨z, rfl, l, k _ _ (gives_sh eh (.str _))⟩)
  | _ => cases h
/-- a slice's part -/
def evP (f : Option (Env → Res SV)) (δ : Env) : Res (Option Int) := match f with
  | none => .ok none
  | some f => (f δ).bind fun s => match s with
    | .sh (.int i) => .ok (some i)
    | _ => .bad
def rdP (K : PySem.W.Frag) (T : Tb) (W : WX) : Option (Env → Res SV) → TO
  | none => tNoPart
  | some f => tPart (rd K T W f)
theorem rdP_ok {K : PySem.W.Frag} {T : Tb} {W : WX} {F0 G F H : Hp} {σ : L2.St} {δ : Env} {f : Option (Env → Res SV)} {k : Option Int → Res SV} {Q : VK} {Q' : Option Int → Hp → Prop} (E : EnvR K T F0 G F H σ δ) (h : REnd K T W F H σ δ Q ((evP f δ).bind k))
    (hk : ∀ o F' H', Stp T F H F' H' → REnd K T W F H σ δ Q (k o) → Q' o H') : rdP K T W f σ H Q' := by
  cases f with
  | none => exact hk none F H (Stp.refl E.fh) h
  | some f =>
    refine rdE E (fun s hs v F' H' p r => ?_) (fun c hc => ?_) fun hc => ?_
    · have h : REnd K T W F H σ δ Q (((f δ).bind fun s => match s with | .sh (.int i) => Res.ok (some i) | _ => .bad).bind k) := h
      rw [hs, bind_ok] at h
      split at h
      · rename_i i
        cases r
        exact ⟨i, rfl, hk _ F' H' p h⟩
      · exact h.elim
    · have h : REnd K T W F H σ δ Q (((f δ).bind fun s => match s with | .sh (.int i) => Res.ok (some i) | _ => .bad).bind k) := h
      rw [hc] at h
      exact h
    · have h : REnd K T W F H σ δ Q (((f δ).bind fun s => match s with | .sh (.int i) => Res.ok (some i) | _ => .bad).bind k) := h
      rw [hc] at h
      exact h
def fSl (fe : Env → Res SV) (fl fh : Option (Env → Res SV)) : Env → Res SV := fun δ => (fe δ).bind fun s => (evP fl δ).bind fun lo => (evP fh δ).bind fun hi => Res.ofO (gSl s.d lo hi)
section
variable {X : Cx} {T : Tb} {W : WX}
theorem dp_none : PO X none (rdP X.K T W none) := po_none
theorem dp_some {e : Expr} {f : Env → Res SV} (h : PE X e (rd X.K T W f)) : PO X (some e) (rdP X.K T W (some f)) := po_some h
theorem de_slice {e : Expr} {lo hi : Option Expr} {p2 pos : Pos} {fe : Env → Res SV} {fl fh : Option (Env → Res SV)} (he : PE X e (rd X.K T W fe)) (hl : PO X lo (rdP X.K T W fl)) (hh : PO X hi (rdP X.K T W fh)) : PE X (.Subscript e (.Slice lo hi none p2) pos) (rd X.K T W (fSl fe fl fh)) :=
  PEimp (pe_slice sl_any he hl hh) fun σ H Q ⟨F0, G, F, δ, E, h⟩ => by
    refine rd_bind E h fun x s F1 H1 p1 r1 h1 => ?_
    have E1 := E.grow p1
    refine rdP_ok E1 (h1.later p1) fun l F2 H2 p2 h2 => ?_
    have E2 := E1.grow p2
    refine rdP_ok E2 (h2.later p2) fun u F3 H3 p3 h3 => ?_
    cases q : gSl s.d l u with
    | none => rw [q] at h3; exact h3.elim
    | some z =>
      rw [q] at h3
      exact good_sl p3.fh ((r1.b p1.fh).mono (p2.trans p3).ff (p2.trans p3).hh) q fun v H' gv => gives_end gv (h3.later p3)
end

/-! ### methods -/
def mJoin : D → List D → Option SV
  | .str a, [d] => match seqOf d with
    | some ds => (dStrs ds).bind fun ys => if (ys.map (·.length)).sum + ys.length * a.length ≤ 16777216 then some (.sh (.str (Txt.join a ys))) else none
    | none => none
  | _, _ => none
def mSplit : D → List D → Option SV
  | .str a, [.str b] => if (b.length == 0) = false ∧ a.length + 2 ≤ sizeLine then some (.ow ((Txt.split a b).map .str)) else none
  | _, _ => none
def mZfill : D → List D → Option SV
  | .str a, [.int i] => if PadOk i = true then some (.sh (.str (Txt.zfill a i))) else none
  | _, _ => none
theorem good_join {K : PySem.W.Frag} {T : Tb} : GoodR K T (fun x xs H Q => ∃ a p, ∃ ys : List Str, x = .str a ∧ xs = [.ref p] ∧ (SqL K H p (ys.map V.str) ∨ SqT K H p (ys.map V.str)) ∧
    (ys.map (·.length)).sum + ys.length * a.length ≤ 16777216 ∧ Q (.str (Txt.join a ys)) H) mJoin := fun F H x vs d ds s Q eh rx rs h k => by
  unfold mJoin at h
  split at h
  · rename_i a d
    cases rx
    split at h
    · rename_i es he
      obtain ⟨ys, hy, h⟩ := Option.bind_eq_some_iff.mp h
      obtain ⟨l, rfl⟩ := ite_some h
      cases rs with
      | cons h1 r =>
        cases r
        obtain ⟨p, ws, rfl, g1, g2⟩ := h1.seq eh he
        have e := g2.dStrs hy
        subst e
        exact ⟨a, p, ys, rfl, rfl, g1, l, k _ _ (gives_sh eh (.str _))⟩
    · cases h
  · cases h
theorem good_zfill {K : PySem.W.Frag} {T : Tb} : GoodR K T (fun x xs H Q => ∃ (a : Str) (i : Int), x = .str a ∧ xs = [.int i] ∧ PadOk i = true ∧ Q (.str (Txt.zfill a i)) H) mZfill := fun F H x vs d ds s Q eh rx rs h k => by
  unfold mZfill at h
  split at h
  · obtain ⟨l, rfl⟩ := ite_some h
    cases rx
    cases rs with
    | cons h1 r =>
      cases r
      cases h1
      exact ⟨_, _, rfl, rfl, l, k _ _ (gives_sh eh (.str _))⟩
  · cases h
theorem good_split {K : PySem.W.Frag} {T : Tb} : GoodR K T (fun x xs H Q => ∃ a b, x = .str a ∧ xs = [.str b] ∧ (b.length == 0) = false ∧ a.length + 2 ≤ sizeLine ∧ rNewStrs (Txt.split a b) H Q) mSplit := fun F H x vs d ds s Q eh rx rs h k => by
  unfold mSplit at h
  split at h
  · obtain ⟨l, rfl⟩ := ite_some h
    cases rx
    cases rs with
    | cons h1 r =>
      cases r
      cases h1
      exact ⟨_, _, rfl, rfl, l.1, l.2, fun p hp => k _ _ (gives_lst eh hp (reps_strs _))⟩
  · cases h

/-! ### methods that change a list of ours -/
def mAppend (ds es : List D) : Option (List D × D) := match es with
  | [e] => if ds.length < sizeLine then some (ds ++ [e], .non) else none
  | _ => none
theorem good_append {K : PySem.W.Frag} {T : Tb} : GoodMu K T rAppend mAppend := fun F H a vs us ds es ds' d Q eh h1 h2 h3 h k => by
  unfold mAppend at h
  split at h
  · rename_i e
    by_cases l : ds.length < sizeLine
    · rw [if_pos l] at h
      cases h
      cases h3 with
      | cons g1 r =>
        cases r
        exact ⟨a, vs, _, rfl, rfl, h1, by rw [h2.length]; exact l, k _ _ (h2.append (.cons g1 .nil)) .non⟩
    · rw [if_neg l] at h
      cases h
  · cases h
end DL
end

section
set_option Elab.async false
set_option linter.all false
set_option autoImplicit false
set_option maxRecDepth 100000
set_option maxHeartbeats 4000000
namespace DL
open PySem PySem.Spec PyProof.Rows L2
/-! ### the module's names -/
section
variable {X : Cx} {T : Tb} {W : WX} {x : Str} {pos : Pos}
theorem de_gint {i : Int} (hg : Gl X x) (h : ∃ t, X.mg x = some (.int i t)) (hd : (x == ("__debug__" : Str)) = false := by decide) : PE X (.Name x pos) (rd X.K T W (fC (.int i))) := by
  obtain ⟨t, h⟩ := h
  exact de_c (pe_glob (v := .int i) hg h ⟨t, rfl⟩ hd) fun _ => .int i
theorem de_gstr {s : Str} (hg : Gl X x) (h : ∃ t, X.mg x = some (.str s t)) (hd : (x == ("__debug__" : Str)) = false := by decide) : PE X (.Name x pos) (rd X.K T W (fC (.str s))) := by
  obtain ⟨t, h⟩ := h
  exact de_c (pe_glob (v := .str s) hg h ⟨t, rfl⟩ hd) fun _ => .str s
/-- a tuple of the module -/
theorem de_gtup {a : Addr} {vs : List V} {ds : List D} (hg : Gl X x) (h : X.mg x = some (.ref a)) (ht : ∀ H, SqT X.K H a vs) (hr : ∀ F, Reps X.K T F vs ds) (hd : (x == ("__debug__" : Str)) = false := by decide) : PE X (.Name x pos) (rd X.K T W (fC (.tup ds))) :=
  de_c (pe_glob (v := .ref a) hg h rfl hd) fun F => .tup (ht F) (hr F)
end
/-- a def of the module as a caller takes it: n arguments, the last of them the defaults dds -/
structure Fnc (P : Program) (w : World) (K : PySem.W.Frag) (mg : Str → Option Value) (base : Heap) (CX : CXT) (T : Tb) (k : Nat) (x : Str) (n : Nat) (phi : List D → Res SV) (dds : List D) : Prop where
  ex : ∃ (f : Addr) (fd : FuncData) (ps : List Str) (dvs : List V) (ds : List Value), FnOk P w K mg base CX k f fd ps (SpF K T n phi) ∧ mg x = some (.ref f) ∧ PySem.W.keepIn K (.ref f) = true ∧ Binds K fd ps ds ∧ Vals dvs ds ∧ ∀ F, Reps K T F dvs dds
theorem de_fn {X : Cx} {T : Tb} {W : WX} {CX : CXT} {k j n : Nat} {phi : List D → Res SV} {dds : List D} {x : Str} {p pos : Pos} {e : Expr} {es : List Expr} {fa : Env → Res (List SV)}
    (F : Fnc X.prog X.w X.K X.mg X.base CX T k x n phi dds) (hr : Room j X.A) (hkj : k ≤ j) (hg : Gl X x) (hx : ∀ σ, PassesAt CX X σ (WE W σ))
    (ha : PA X (e :: es) (rdA X.K T W fa)) (hdb : (x == ("__debug__" : Str)) = false := by decide) (he : starEach (e :: es) X.env = (false, eval e X.env) :: starEach es X.env := by rfl) (hpl : (backTo pos (starEach es X.env)).any (·.1) = false := by rfl) :
    PE X (.Call (.Name x p) (e :: es) [] pos) (rd X.K T W (fCall n phi dds fa)) := by
  obtain ⟨f, fd, ps, dvs, ds, h1, h2, h3, h4, h5, h6⟩ := F.ex
  exact de_call h1 (hr.mono hkj) hg h2 h3 h4 h5 h6 hx ha hdb he hpl
/-- the law's own def: nothing leaves it -/
def SpL (K : PySem.W.Frag) (T : Tb) (n : Nat) (phi : List D → Res SV) : Sp := fun vs H Q _ => vs.length = n ∧ TbG T H ∧ ∃ F ds, Exn F H ∧ Reps K T F vs ds ∧ match phi ds with
  | .ok s => ∀ v H', Gives K T F H s v H' → Q v H'
  | _ => False
theorem run_okL {K : PySem.W.Frag} {T : Tb} {N : List Str} {n : Nat} {body : FS} {vs : List V} {H : Hp} {Q : VK} {E : XK} (hn : n ≤ N.length) (h : SpL K T n (runF N.length body) vs H Q E) :
    rdS K T WF body { nx := fun _ H' => Q .non H', rt := Q } (L2.start N vs) H := by
  obtain ⟨hl, tg, F, ds, e, r, h⟩ := h
  refine ⟨F, H, F, _, env_start e r (by omega) tg, ?_⟩
  unfold runF at h
  cases q : body (slots ds ++ List.replicate (N.length - ds.length) Sl.no) with
  | nx δ =>
    rw [q] at h
    exact fun σ F' H' E' _ => h .non H' ⟨F', ⟨E'.f0, E'.fh, E'.gh, E'.fr, fun _ => E'.tb⟩, .non⟩
  | rt s =>
    rw [q] at h
    exact fun v F' H' a b c d t r => h v H' ⟨F', ⟨a, b, c, d, fun _ => t⟩, r⟩
  | ex c δ => rw [q] at h; exact h.elim
  | bk δ => rw [q] at h; exact h.elim
  | ct δ => rw [q] at h; exact h.elim
  | bad => rw [q] at h; exact h.elim
theorem law_ok {P : Program} {w : World} {K : PySem.W.Frag} {mg : Str → Option Value} {base : Heap} {x qual : Str} {params : Arguments} {body : List Stmt} {scope : Scope} {dvs : List V} {kws : List (Str × V)} {f : Addr} {fd : FuncData} {N ps : List Str} {k n : Nat} {fb : FS} (T : Tb)
    (F : FunD K x qual params body scope dvs kws f fd) (S : FnScope N ps scope) (hn : n = ps.length)
    (hb : ∀ (cdv : Value) (A : Around) (outer : List PySem.Env) (s : Shared) (H : Hp) (E : XK), Room k (A.deeper (envOfC qual scope s.heap.objs.size f cdv)) → PSs (cxOf CX0 P w K mg base N qual scope f cdv A outer s H E) body (rdS K T WF fb)) :
    FnOk P w K mg base CX0 (k + 1) f fd ps (SpL K T n (runF N.length fb)) := by
  have hpl : n ≤ N.length := by
    have := congrArg List.length S.pre
    rw [List.length_take] at this
    omega
  exact F.ok S (fun vs H Q E h => by rw [← hn]; exact h.1) fun cdv A outer s H vs Q E hr h => ⟨_, hb cdv A outer s H E hr, run_okL hpl h⟩
theorem tbg0 {T : Tb} {H : Hp} (h : T.tabs = []) : TbG T H := fun p hp => by
  rw [h] at hp
  cases hp
theorem spL_law {K : PySem.W.Frag} {T : Tb} {phi : List D → Res SV} {H : Hp} {a : Addr} {ns : List Int} (h : phi [.scr (ns.map D.int)] = .ok (.sh (.bl true))) (hS : SqL K H a (ns.map V.int)) (tg : TbG T H) : SpL K T 1 phi [.ref a] H (fun v _ => v = .bl true) fun _ _ _ => False := by
  refine ⟨rfl, tg, H, _, Exn.refl _, .cons (.scr hS (reps_ints ns)) .nil, ?_⟩
  rw [h]
  rintro v H' ⟨F', _, r⟩
  cases r
  rfl
/-- in a block, in the law's def: what a callee lets out is nothing -/
theorem passF {X : Cx} (σ : L2.St) : PassesAt (L2N.CX X.prog X.w) X σ (WE WF σ) := fun pins H s e s' I h => by
  obtain ⟨_, _, _, _, _, _, _, _, _, _, _, _, z⟩ := h
  exact z.elim
theorem passN {X : Cx} {W : WX} (tk : L2N.Takes X W) (σ : L2.St) : PassesAt (L2N.CX X.prog X.w) X σ (WE W σ) := fun pins H s e s' I h => tk _ _ (L2N.XE.of_call I (fun _ _ _ z => z) h)
theorem ds_raiseN {X : Cx} {T : Tb} {W : WX} {pos : Pos} {c : Nat} {C : Addr} {bmB : List Value} {B newId initId : String} {x m : Str} {j : Nat} {p p2 pos2 : Pos} (hX : T.XA c = C) (hc : X.calm = true) (tk : L2N.Takes X W) (F : ExcBaseFacts B newId initId bmB) (q : PySem.W.excIn X.K C bmB newId = true) (gC : X.mg x = some (.ref C)) (kC : PySem.W.keepIn X.K (.ref C) = true) (r : Raises X (.ref C)) (hg : Gl X x)
    (hdb : (x == ("__debug__" : Str)) = false := by decide) : PS X (.Raise (some (.Call (.Name x p) [.Constant (.str m) j p2] [] pos2)) none pos) (rdS X.K T W (fRaise c)) :=
  PSimp (L2N.ps_raise hc tk (L2N.pmk_own F q gC kC r hg hdb)) fun D σ H ⟨F0, G, F, δ, E, h⟩ => by
    subst hX
    exact h σ F H E (Exn.refl _)
/-- a def that promises nothing keeps it -/
theorem bad_ok {P : Program} {w : World} {K : PySem.W.Frag} {mg : Str → Option Value} {base : Heap} {CX : CXT} {k n : Nat} {f : Addr} {fd : FuncData} {ps : List Str} (T : Tb) (hn : n = ps.length) : FnOk P w K mg base CX k f fd ps (SpF K T n fun _ => .bad) :=
  ⟨fun _ _ _ _ h => by rw [← hn]; exact h.1, fun _ _ _ _ _ _ _ _ _ _ _ _ _ h => by
    obtain ⟨_, _, _, _, _, _, z⟩ := h
    exact z.elim⟩
end DL
end

section
set_option Elab.async false
set_option linter.all false
set_option autoImplicit false
set_option maxRecDepth 100000
set_option maxHeartbeats 4000000
/-! Sorted pairs, turned lists, more of lists. -/
namespace DL
open PySem PySem.Spec PyProof.Rows L2
/-! ### sorted(xs): pairs of ints -/
abbrev IP := Int × Int
def mkP (p : IP) : D := .tup [.int p.1, .int p.2]
def leP (p q : IP) : Bool := !SrtO.lexB q p
/-- put into a rising list -/
def insP (p : IP) : List IP → List IP
  | [] => [p]
  | q :: r => if leP p q = true then p :: q :: r else q :: insP p r
def srtP : List IP → List IP
  | [] => []
  | p :: r => insP p (srtP r)
theorem insP_perm (p : IP) : ∀ l, (insP p l).Perm (p :: l)
  | [] => List.Perm.refl _
  | q :: r => by
    unfold insP
    split
    · exact List.Perm.refl _
    · exact ((insP_perm p r).cons q).trans (List.Perm.swap p q r)
theorem srtP_perm : ∀ l, (srtP l).Perm l
  | [] => List.Perm.refl _
  | p :: r => (insP_perm p (srtP r)).trans ((srtP_perm r).cons p)
theorem leP_iff (p q : IP) : leP p q = true ↔ p.1 < q.1 ∨ (p.1 = q.1 ∧ p.2 ≤ q.2) := by
  unfold leP
  rw [Bool.not_eq_true', ← Bool.not_eq_true, SrtO.lexB_iff]
  omega
theorem leP_total (p q : IP) : leP p q = true ∨ leP q p = true := by
  rw [leP_iff, leP_iff]
  omega
theorem leP_trans {p q r : IP} (h : leP p q = true) (h2 : leP q r = true) : leP p r = true := by
  rw [leP_iff] at *
  omega
theorem leP_anti {p q : IP} (h : leP p q = true) (h2 : leP q p = true) : p = q := by
  rw [leP_iff] at *
  exact Prod.ext (by omega) (by omega)
abbrev Ris (l : List IP) : Prop := l.Pairwise fun p q => leP p q = true
theorem insP_ris (p : IP) : ∀ l, Ris l → Ris (insP p l)
  | [], _ => List.pairwise_singleton _ _
  | q :: r, h => by
    have h' := List.pairwise_cons.mp h
    unfold insP
    split
    · rename_i e
      exact List.pairwise_cons.mpr ⟨fun z m => by
        rcases List.mem_cons.mp m with rfl | m
        · exact e
        · exact leP_trans e (h'.1 z m), h⟩
    · rename_i e
      refine List.pairwise_cons.mpr ⟨fun z m => ?_, insP_ris p r h'.2⟩
      rcases List.mem_cons.mp ((insP_perm p r).mem_iff.mp m) with rfl | m
      · exact (leP_total _ _).resolve_left e
      · exact h'.1 z m
theorem srtP_ris : ∀ l, Ris (srtP l)
  | [] => List.Pairwise.nil
  | p :: r => insP_ris p _ (srtP_ris r)
theorem ris_uniq {l m : List IP} (p : l.Perm m) (h : Ris l) (h2 : Ris m) : l = m := List.Perm.eq_of_pairwise (fun a b _ _ h h' => leP_anti h h') h h2 p
def pairsOf : List D → Option (List IP)
  | [] => some []
  | .tup [.int i, .int j] :: r => (pairsOf r).map ((i, j) :: ·)
  | _ :: _ => none
theorem pairsOf_eq : ∀ {ds : List D} {ps : List IP}, pairsOf ds = some ps → ds = ps.map mkP
  | [], _, h => by cases h; rfl
  | d :: ds, ps, h => by
    unfold pairsOf at h
    split at h
    · rename_i e
      cases e
    · rename_i i j r e
      cases e
      obtain ⟨qs, h1, rfl⟩ := Option.map_eq_some_iff.mp h
      rw [pairsOf_eq h1]
      rfl
    · cases h
theorem pairsOf_map (ps : List IP) : pairsOf (ps.map mkP) = some ps := by
  induction ps with
  | nil => rfl
  | cons p ps ih =>
    rw [List.map_cons]
    show (pairsOf (ps.map mkP)).map _ = _
    rw [ih]
    rfl
section
variable {K : PySem.W.Frag} {T : Tb}
def PairR1 (K : PySem.W.Frag) (F : Hp) (x : V) (p : IP) : Prop := ∃ t, x = .ref t ∧ SqT K F t [.int p.1, .int p.2]
inductive PairsR (K : PySem.W.Frag) (F : Hp) : List V → List IP → Prop
  | nil : PairsR K F [] []
  | cons {x : V} {p : IP} {xs : List V} {ps : List IP} (h : PairR1 K F x p) (r : PairsR K F xs ps) : PairsR K F (x :: xs) (p :: ps)
theorem PairsR.mem {F : Hp} : ∀ {xs : List V} {ps : List IP} {x : V}, PairsR K F xs ps → x ∈ xs → ∃ p, PairR1 K F x p
  | _, _, x, .nil, m => by cases m
  | _, _, x, .cons h r, m => by
    rcases List.mem_cons.mp m with e | m
    · subst e
      exact ⟨_, h⟩
    · exact PairsR.mem r m
theorem PairsR.map {F : Hp} {α : Type} {f : α → V} {k : α → IP} : ∀ {l : List α}, (∀ x ∈ l, PairR1 K F (f x) (k x)) → PairsR K F (l.map f) (l.map k)
  | [], _ => .nil
  | x :: l, h => .cons (h x (List.mem_cons_self ..)) (PairsR.map fun y m => h y (List.mem_cons_of_mem _ m))
theorem PairsR.eq {F : Hp} {α : Type} {f : α → V} {k : α → IP} : ∀ {l : List α} {ps : List IP}, PairsR K F (l.map f) ps → (∀ x ∈ l, ∀ p, PairR1 K F (f x) p → k x = p) → l.map k = ps
  | [], _, h, _ => by cases h; rfl
  | x :: l, _, h, u => by
    cases h with
    | cons h r => rw [List.map_cons, u x (List.mem_cons_self ..) _ h, PairsR.eq r fun y m => u y (List.mem_cons_of_mem _ m)]
/-- sorted(xs), xs a list of pairs of ints -/
def rSrtP (K : PySem.W.Frag) : List V → Hp → VK → Prop := fun vs H Q => ∃ (F : Hp) (a : Addr) (xs : List V) (ps : List IP), vs = [V.ref a] ∧ Exn F H ∧ SqL K H a xs ∧ PairsR K F xs ps ∧
  ∀ ys p, PairsR K F ys (srtP ps) → ys.length = xs.length → H p = none → Q (.ref p) (upd H p (.lst ys))
/-- the pair at a value -/
def kv (h : Heap) : Value → IP
  | .ref t => match h.get? t with
    | some o => match o.data with
      | .seq its _ => match its.toList with
        | [.int i _, .int j _] => (i, j)
        | _ => (0, 0)
      | _ => (0, 0)
    | none => (0, 0)
  | _ => (0, 0)
theorem cr_srtP {X : Cx} : CallR X (.builtin "sorted") (rSrtP X.K) := by
  intro pins s σ H vs us Q I r ⟨F, a, xs, ps, e0, eF, hs, hx, q⟩
  subst e0
  obtain ⟨its, rv, hl, hz⟩ := I.list hs
  obtain ⟨u, e0, ru⟩ := vals1 r
  subst e0
  obtain rfl : u = Value.ref a := ru
  obtain ⟨e1, e2⟩ := refs_back rv fun x m => (hx.mem m).elim fun _ z => z.imp fun _ z => z.1
  have pr : ∀ v ∈ its, ∀ p, PairR1 X.K F (backV v) p → Srt.IsPair s.heap v p.1 p.2 ∧ kv s.heap v = p := fun v hv p hp => by
    obtain ⟨t, e⟩ := e2 v hv
    subst e
    obtain ⟨t', e, ht⟩ := hp
    cases e
    obtain ⟨jts, r2, ⟨o, ho, hc, n, hd⟩, _⟩ := I.tuple (sqT_mono eF ht)
    obtain ⟨u1, u2, e3, ri, rj⟩ := vals2 r2
    subst e3
    obtain ⟨t1, e4⟩ := ri
    obtain ⟨t2, e5⟩ := rj
    subst e4 e5
    refine ⟨⟨t, o, t1, t2, n, rfl, ho, hc, hd⟩, ?_⟩
    unfold kv
    simp only [ho, hd]
  rw [e1] at hx
  have ek : its.map (kv s.heap) = ps := hx.eq fun v m p hp => (pr v m p hp).2
  have pr2 : ∀ v ∈ its, PairR1 X.K F (backV v) (kv s.heap v) := fun v hv => by
    obtain ⟨p, hp⟩ := hx.mem (List.mem_map.mpr ⟨v, hv, rfl⟩)
    rw [(pr v hv p hp).2]
    exact hp
  refine SrtO.sorted_pairsO (k := kv s.heap) hl.isList (by rw [← rv.length]; exact hz) (fun v hv => (pr v hv _ (pr2 v hv)).1) fun h' d out h1 h2 kp hd ⟨n, hn⟩ => ?_
  have inn : ∀ v ∈ out, v ∈ its := fun v hv => h2.perm.mem_iff.mp hv
  have e5 : out.map (kv s.heap) = srtP ps := by
    refine ris_uniq ((h2.perm.map _).trans (by rw [ek]; exact (srtP_perm ps).symm)) ?_ (srtP_ris ps)
    refine List.pairwise_map.mpr (List.Pairwise.imp ?_ h1)
    intro x y z
    unfold leP
    have z' : SrtO.lexB (kv s.heap y) (kv s.heap x) = false := z
    rw [z']
    rfl
  have hlen : (out.map backV).length = xs.length := by
    rw [e1, List.length_map, List.length_map, h2.perm.length_eq]
  exact ⟨.ref d, upd H d (.lst (out.map backV)), I.laid (t' := s.toks) kp hd ⟨by rw [hlen]; exact hz, out, n, vals_back fun v hv => e2 v (inn v hv), hn⟩, rfl, q _ d (by rw [← e5]; exact PairsR.map fun v hv => pr2 v (inn v hv)) hlen (I.hok.fresh hd)⟩
theorem Reps.pairs {F : Hp} : ∀ {vs : List V} {ps : List IP}, Reps K T F vs (ps.map mkP) → PairsR K F vs ps
  | [], [], _ => .nil
  | v :: vs, p :: ps, h => by
    cases h with
    | cons h1 r =>
      refine .cons ?_ (Reps.pairs r)
      cases h1 with
      | tup g r =>
        cases r with
        | cons h1 r =>
          cases r with
          | cons h2 r =>
            cases r
            cases h1
            cases h2
            exact ⟨_, rfl, g⟩
  | [], _ :: _, h => by cases h
  | _ :: _, [], h => by cases h
theorem PairsR.reps {F : Hp} : ∀ {vs : List V} {ps : List IP}, PairsR K F vs ps → Reps K T F vs (ps.map mkP)
  | _, _, .nil => .nil
  | _, _, .cons ⟨t, e, h⟩ r => .cons (by subst e; exact .tup h (.cons (.int _) (.cons (.int _) .nil))) (PairsR.reps r)
def gSrt : List D → Option SV
  | [d] => match lstOf d with
    | some ds => (pairsOf ds).map fun ps => .ow ((srtP ps).map mkP)
    | none => none
  | _ => none
theorem good_srt : GoodN K T (rSrtP K) gSrt := goodN1 (fun ds s h => by unfold gSrt at h; split at h <;> first | exact ⟨_, rfl⟩ | cases h) fun F H x d s Q eh rx h k => by
  have h : (match lstOf d with | some ds => (pairsOf ds).map fun ps => SV.ow ((srtP ps).map mkP) | none => none) = some s := h
  split at h
  · rename_i ds hd
    obtain ⟨ps, h1, rfl⟩ := Option.map_eq_some_iff.mp h
    obtain ⟨a, vs, rfl, g1, g2⟩ := rx.list eh hd
    rw [pairsOf_eq h1] at g2
    exact ⟨F, a, vs, ps, rfl, eh, g1, g2.pairs, fun ys p hy _ hp => k _ _ (gives_lst eh hp hy.reps)⟩
  · cases h
end
/-! ### sorted(xs): ints too -/
def insI (i : Int) : List Int → List Int
  | [] => [i]
  | j :: r => if i ≤ j then i :: j :: r else j :: insI i r
def srtI : List Int → List Int
  | [] => []
  | i :: r => insI i (srtI r)
theorem insI_perm (i : Int) : ∀ l, (insI i l).Perm (i :: l)
  | [] => List.Perm.refl _
  | j :: r => by
    unfold insI
    split
    · exact List.Perm.refl _
    · exact ((insI_perm i r).cons j).trans (List.Perm.swap i j r)
theorem srtI_perm : ∀ l, (srtI l).Perm l
  | [] => List.Perm.refl _
  | i :: r => (insI_perm i (srtI r)).trans ((srtI_perm r).cons i)
theorem insI_ris (i : Int) : ∀ l : List Int, l.Pairwise (· ≤ ·) → (insI i l).Pairwise (· ≤ ·)
  | [], _ => List.pairwise_singleton _ _
  | j :: r, h => by
    have h' := List.pairwise_cons.mp h
    unfold insI
    split
    · rename_i e
      exact List.pairwise_cons.mpr ⟨fun z m => by
        rcases List.mem_cons.mp m with rfl | m
        · exact e
        · exact Int.le_trans e (h'.1 z m), h⟩
    · rename_i e
      refine List.pairwise_cons.mpr ⟨fun z m => ?_, insI_ris i r h'.2⟩
      rcases List.mem_cons.mp ((insI_perm i r).mem_iff.mp m) with rfl | m
      · omega
      · exact h'.1 z m
theorem srtI_ris : ∀ l, (srtI l).Pairwise (· ≤ ·)
  | [] => List.Pairwise.nil
  | i :: r => insI_ris i _ (srtI_ris r)
theorem risI_uniq {l m : List Int} (p : l.Perm m) (h : l.Pairwise (· ≤ ·)) (h2 : m.Pairwise (· ≤ ·)) : l = m := List.Perm.eq_of_pairwise (fun a b _ _ h h' => Int.le_antisymm h h') h h2 p
section
variable {K : PySem.W.Frag} {T : Tb}
theorem reps_intL {F : Hp} : ∀ ns : List Int, Reps K T F (ns.map V.int) (ns.map D.int)
  | [] => .nil
  | i :: ns => .cons (.int i) (reps_intL ns)
def gSrtI : List D → Option SV
  | [d] => match lstOf d with
    | some ds => (dInts ds).map fun ns => .ow ((srtI ns).map D.int)
    | none => none
  | _ => none
theorem good_srtI : GoodN K T (rSortedI K) gSrtI := goodN1 (fun ds s h => by unfold gSrtI at h; split at h <;> first | exact ⟨_, rfl⟩ | cases h) fun F H x d s Q eh rx h k => by
  have h : (match lstOf d with | some ds => (dInts ds).map fun ns => SV.ow ((srtI ns).map D.int) | none => none) = some s := h
  split at h
  · rename_i ds hd
    obtain ⟨ns, h1, rfl⟩ := Option.map_eq_some_iff.mp h
    obtain ⟨a, vs, rfl, g1, g2⟩ := rx.list eh hd
    rw [g2.dInts h1] at g1
    refine ⟨a, ns, rfl, g1, fun ns' p hp hr hn => ?_⟩
    have e : ns' = srtI ns := risI_uniq (hp.trans (srtI_perm ns).symm) hr (srtI_ris ns)
    subst e
    exact k _ _ (gives_lst eh hn (reps_intL _))
  · cases h
def gSrtA : List D → Option SV := fun ds => (gSrtI ds).or (gSrt ds)
theorem good_srtA : GoodN K T (fun vs H Q => rSortedI K vs H Q ∨ rSrtP K vs H Q) gSrtA := fun F H vs ds s Q eh r h k => by
  unfold gSrtA at h
  cases q : gSrtI ds with
  | some z =>
    rw [q] at h
    cases h
    exact .inl (good_srtI F H vs ds _ Q eh r q k)
  | none =>
    rw [q] at h
    exact .inr (good_srt F H vs ds s Q eh r h k)
end
theorem cr_srtA {X : Cx} : CallR X (.builtin "sorted") (fun vs H Q => rSortedI X.K vs H Q ∨ rSrtP X.K vs H Q) := by
  intro pins s σ H vs us Q I r h
  rcases h with h | h
  · exact cr_sortedI pins s σ H vs us Q I r h
  · exact cr_srtP pins s σ H vs us Q I r h
section
variable {K : PySem.W.Frag} {T : Tb}
/-! ### xs[::-1] -/
def gRev : D → Option SV
  | .lst ds => some (.ow ds.reverse)
  | .scr ds => some (.ow ds.reverse)
  | _ => none
theorem Reps.rev {F : Hp} : ∀ {vs : List V} {ds : List D}, Reps K T F vs ds → Reps K T F vs.reverse ds.reverse
  | _, _, .nil => .nil
  | _, _, .cons h r => by
    rw [List.reverse_cons, List.reverse_cons]
    exact (Reps.rev r).append (.cons h .nil)
end
section
variable {X : Cx} {T : Tb} {W : WX}
theorem de_rev {e : Expr} {fe : Env → Res SV} {k : Nat} {p1 p2 p3 pos : Pos} (he : PE X e (rd X.K T W fe)) : PE X (.Subscript e (.Slice none none (some (.UnaryOp .USub (.Constant (.int 1) k p1) p2)) p3) pos) (rd X.K T W (f1 gRev fe)) :=
  PEimp (pe_revL he) fun σ H Q ⟨F0, G, F, δ, E, h⟩ => rd_bind E h fun x s F1 H1 p1 r1 h1 => by
    have b := r1.b p1.fh
    cases q : gRev s.d with
    | none => rw [q] at h1; exact h1.elim
    | some z =>
      rw [q] at h1
      have h2 := h1.later p1
      unfold gRev at q
      split at q
      · rename_i ds e
        cases q
        rw [e] at b
        obtain ⟨a, vs, rfl, g1, g2⟩ := b
        exact ⟨a, vs, rfl, SqL.of g1, fun p hp => gives_end (gives_lst p1.fh hp g2.rev) h2⟩
      · rename_i ds e
        cases q
        rw [e] at b
        cases b with
        | scr g1 g2 => exact ⟨_, _, rfl, sqL_mono p1.fh g1, fun p hp => gives_end (gives_lst p1.fh hp g2.rev) h2⟩
      · cases q
end
/-! ### max(xs), min(xs) of ints; xs.extend(ys) -/
def maxI : List Int → Int
  | [] => 0
  | [i] => i
  | i :: r => max i (maxI r)
def minI : List Int → Int
  | [] => 0
  | [i] => i
  | i :: r => min i (minI r)
theorem maxI_spec : ∀ {l : List Int}, l ≠ [] → maxI l ∈ l ∧ ∀ y ∈ l, y ≤ maxI l
  | [], h => absurd rfl h
  | [i], _ => ⟨List.mem_singleton.mpr rfl, fun y m => by rw [List.mem_singleton] at m; subst m; exact Int.le_refl _⟩
  | i :: j :: r, _ => by
    obtain ⟨h1, h2⟩ := maxI_spec (l := j :: r) (by simp)
    have e : maxI (i :: j :: r) = max i (maxI (j :: r)) := rfl
    rw [e]
    refine ⟨?_, fun y m => ?_⟩
    · rw [Int.max_def]
      split
      · exact List.mem_cons_of_mem _ h1
      · exact List.mem_cons_self ..
    · rcases List.mem_cons.mp m with rfl | m
      · exact Int.le_max_left ..
      · exact Int.le_trans (h2 y m) (Int.le_max_right ..)
theorem minI_spec : ∀ {l : List Int}, l ≠ [] → minI l ∈ l ∧ ∀ y ∈ l, minI l ≤ y
  | [], h => absurd rfl h
  | [i], _ => ⟨List.mem_singleton.mpr rfl, fun y m => by rw [List.mem_singleton] at m; subst m; exact Int.le_refl _⟩
  | i :: j :: r, _ => by
    obtain ⟨h1, h2⟩ := minI_spec (l := j :: r) (by simp)
    have e : minI (i :: j :: r) = min i (minI (j :: r)) := rfl
    rw [e]
    refine ⟨?_, fun y m => ?_⟩
    · rw [Int.min_def]
      split
      · exact List.mem_cons_self ..
      · exact List.mem_cons_of_mem _ h1
    · rcases List.mem_cons.mp m with rfl | m
      · exact Int.min_le_left ..
      · exact Int.le_trans (Int.min_le_right ..) (h2 y m)
section
variable {K : PySem.W.Frag} {T : Tb}
def gMaxL : List D → Option SV
  | [d] => match lstOf d with
    | some ds => (dInts ds).bind fun ns => if ns = [] then none else some (.sh (.int (maxI ns)))
    | none => none
  | _ => none
def gMinL : List D → Option SV
  | [d] => match lstOf d with
    | some ds => (dInts ds).bind fun ns => if ns = [] then none else some (.sh (.int (minI ns)))
    | none => none
  | _ => none
theorem good_maxL : GoodN K T (rMax K) gMaxL := goodN1 (fun ds s h => by unfold gMaxL at h; split at h <;> first | exact ⟨_, rfl⟩ | cases h) fun F H x d s Q eh rx h k => by
  have h : (match lstOf d with | some ds => (dInts ds).bind fun ns => if ns = [] then none else some (SV.sh (.int (maxI ns))) | none => none) = some s := h
  split at h
  · rename_i ds hd
    obtain ⟨ns, h1, h2⟩ := Option.bind_eq_some_iff.mp h
    split at h2
    · cases h2
    · rename_i ne
      cases h2
      obtain ⟨a, vs, rfl, g1, g2⟩ := rx.list eh hd
      rw [g2.dInts h1] at g1
      obtain ⟨m1, m2⟩ := maxI_spec ne
      refine ⟨a, ns, rfl, g1, List.length_pos_iff.mpr ne, fun m hm hy => ?_⟩
      have e : m = maxI ns := Int.le_antisymm (m2 m hm) (hy _ m1)
      subst e
      exact k _ _ (gives_sh eh (.int _))
  · cases h
theorem good_minL : GoodN K T (rMin K) gMinL := goodN1 (fun ds s h => by unfold gMinL at h; split at h <;> first | exact ⟨_, rfl⟩ | cases h) fun F H x d s Q eh rx h k => by
  have h : (match lstOf d with | some ds => (dInts ds).bind fun ns => if ns = [] then none else some (SV.sh (.int (minI ns))) | none => none) = some s := h
  split at h
  · rename_i ds hd
    obtain ⟨ns, h1, h2⟩ := Option.bind_eq_some_iff.mp h
    split at h2
    · cases h2
    · rename_i ne
      cases h2
      obtain ⟨a, vs, rfl, g1, g2⟩ := rx.list eh hd
      rw [g2.dInts h1] at g1
      obtain ⟨m1, m2⟩ := minI_spec ne
      refine ⟨a, ns, rfl, g1, List.length_pos_iff.mpr ne, fun m hm hy => ?_⟩
      have e : m = minI ns := Int.le_antisymm (hy _ m1) (m2 m hm)
      subst e
      exact k _ _ (gives_sh eh (.int _))
  · cases h
/-- xs.extend(ys), ys a list that stands still -/
def mExtend (ds es : List D) : Option (List D × D) := match es with
  | [.lst ys] => if ds.length + ys.length ≤ sizeLine then some (ds ++ ys, .non) else none
  | _ => none
theorem good_extend : GoodMu K T rExtend mExtend := fun F H a vs us ds es ds' d Q eh h1 h2 h3 h k => by
  unfold mExtend at h
  split at h
  · rename_i ys
    by_cases l : ds.length + ys.length ≤ sizeLine
    · rw [if_pos l] at h
      cases h
      cases h3 with
      | cons g1 r =>
        cases r
        cases g1 with
        | lst g2 g3 => exact ⟨a, _, vs, _, rfl, rfl, h1, eh.at g2, by rw [h2.length, g3.length]; exact l, k _ _ (h2.append g3) .non⟩
    · rw [if_neg l] at h
      cases h
  · cases h
/-! ### in: of values in a list -/
def gInD (neg : Bool) (d e : D) : Option SV := match e with
  | .lst ds => match toPy d, toPys ds with
    | some p, some ps => if SeqAt.shaped p = true ∧ SeqAt.shaped (.list ps) = true then some (.sh (.bl (if neg then !(ps.any fun z => PyData.eqv z p) else ps.any fun z => PyData.eqv z p))) else none
    | _, _ => none
  | _ => none
def gInB (neg : Bool) (d e : D) : Option SV := (gIn neg d e).or (gInD neg d e)
theorem RepB.dpL {F H : Hp} {y : V} {ds : List D} {ps : List PyData} (eh : Exn F H) (r : RepB K T F H y (.lst ds)) (h : toPys ds = some ps) : Dp K H y (.list ps) := (r.full eh).dp (Exn.refl _) (by simp [toPy, h])
theorem good_inD : Good2 K T (rInD K) (gInD false) := fun F H x y d e s Q eh rx ry h k => by
  unfold gInD at h
  split at h
  · split at h
    · rename_i ds p ps h1 h2
      split at h
      · rename_i c
        cases h
        exact ⟨p, ps, (rx.full eh).dp (Exn.refl _) h1, RepB.dpL eh ry h2, c.1, c.2, k _ _ (gives_sh eh (.bl _))⟩
      · cases h
    · cases h
  · cases h
theorem good_inB : Good2 K T (fun x y H Q => rInA K false x y H Q ∨ rInD K x y H Q) (gInB false) := good_in.or good_inD
end
theorem op_inB {X : Cx} (hu : X.A.units + 65 < cLine) : OpR X (compareOp .In) (fun x y H Q => rInA X.K false x y H Q ∨ rInD X.K x y H Q) := op_inA.or (op_inD hu)
theorem room65 {k : Nat} {A : Around} (r : Room k A) : A.units + 65 < cLine := by have := r.un; omega
/-! ### a, b = x, y -/
def fPar (i j : Nat) (fa : DL.Env → Res (List SV)) : FS := fun δ => (fa δ).out δ fun ss => match ss with
  | [.sh d, .sh e] => .nx ((δ.set i (.sh d)).set j (.sh e))
  | _ => .bad
theorem ds_par {X : Cx} {T : Tb} {W : WX} {i j : Nat} {x y : Str} {a b : Expr} {fa : DL.Env → Res (List SV)} {px py pt pos : Pos} {kt k2 pt2} (hN : X.N.Nodup) (hi : X.N[i]? = some x) (hj : X.N[j]? = some y) (hij : i ≠ j)
    (hx : X.env.scope.names.lookup x = some .local) (hy : X.env.scope.names.lookup y = some .local) (ha : PA X [a, b] (rdA X.K T W fa))
    (hw : swappedStores [.Tuple [.Name x px, .Name y py] kt pt] (.Tuple [a, b] k2 pt2) X.env = pure (some [x, y])) (hc : X.calm = true := by rfl)
    (hs : swapsWithSole [.Tuple [.Name x px, .Name y py] kt pt] (.Tuple [a, b] k2 pt2) pos.line X.env = pure false := by rfl) :
    PS X (.Assign [.Tuple [.Name x px, .Name y py] kt pt] (.Tuple [a, b] k2 pt2) pos) (rdS X.K T W (fPar i j fa)) :=
  PSimp (ps_par hc hN hi hj hij hx hy ha hw hs) fun D σ H ⟨F0, G, F, δ, E, h⟩ => by
    unfold fPar at h
    refine rdA_out E h fun vs ss F1 H1 p1 r1 hh => ?_
    split at hh
    · rename_i d e
      cases r1 with
      | cons r1 rr =>
        cases rr with
        | cons r2 rr =>
          cases rr
          exact ⟨_, _, rfl, hh _ F1 H1 (((E.grow p1).setD r1).setD r2) p1.ff⟩
    · exact hh.elim
end DL
end

section
set_option Elab.async false
set_option linter.all false
set_option autoImplicit false
set_option maxRecDepth 100000
set_option maxHeartbeats 4000000
/-! Instances: making one, its attributes. -/
namespace DL
open PySem PySem.Spec PyProof.Rows L2
abbrev FTab := List (Nat × Str)
def gFld (tab : FTab) (f : Str) : D → Option SV
  | .ins c fs => if (c, f) ∈ tab then (fs.lookup f).map .sh else none
  | _ => none
/-- what the classes of the text must be -/
abbrev TabOk (K : PySem.W.Frag) (T : Tb) (tab : FTab) : Prop := ∀ c f, (c, f) ∈ tab → Cls K (T.CA c) ∧ NoAttr K (T.CA c) f
section
variable {X : Cx} {T : Tb} {W : WX}
theorem de_fld {e : Expr} {f : Str} {pos : Pos} {fe : DL.Env → Res SV} {tab : FTab} (ht : TabOk X.K T tab) (he : PE X e (rd X.K T W fe)) (hb : attributeBase e f X.env (eval e X.env) = eval e X.env := by rfl) : PE X (.Attribute e f pos) (rd X.K T W (f1 (gFld tab f) fe)) :=
  PEimp (pe_fld he hb) fun σ H Q ⟨F0, G, F, δ, E, h⟩ => rd_bind E h fun x s F1 H1 p1 r1 h1 => by
    have b := r1.b p1.fh
    cases q : gFld tab f s.d with
    | none => rw [q] at h1; exact h1.elim
    | some z =>
      rw [q] at h1
      unfold gFld at q
      split at q
      · rename_i c fs e
        split at q
        · rename_i m
          obtain ⟨d, hd, rfl⟩ := Option.map_eq_some_iff.mp q
          rw [e] at b
          cases b with
          | ins g1 g2 =>
            obtain ⟨y, l1, l2⟩ := g2.look hd
            obtain ⟨c1, c2⟩ := ht c f m
            exact ⟨_, _, _, _, y, rfl, p1.fh.at g1, c1, c2, l1, (h1.later p1) y F1 H1 (Stp.refl p1.fh) l2⟩
        · cases q
      · cases q
end
def putD (f : Str) (v : D) : List (Str × D) → List (Str × D)
  | [] => [(f, v)]
  | (g, x) :: r => if g = f then (g, v) :: r else (g, x) :: putD f v r
theorem Repf.put {K : PySem.W.Frag} {T : Tb} {F : Hp} {f : Str} {y : V} {d : D} (h : Rep K T F y d) : ∀ {gs : List (Str × V)} {fs : List (Str × D)}, Repf K T F gs fs → Repf K T F (putF f y gs) (putD f d fs)
  | _, _, .nil => .cons h .nil
  | _, _, .cons (x := g) h' r => by
    unfold putF putD
    by_cases e : g = f
    · rw [if_pos e, if_pos e]
      exact .cons h r
    · rw [if_neg e, if_neg e]
      exact .cons h' (Repf.put h r)
theorem Repf.length {K : PySem.W.Frag} {T : Tb} {F : Hp} : ∀ {gs : List (Str × V)} {fs : List (Str × D)}, Repf K T F gs fs → gs.length = fs.length
  | _, _, .nil => rfl
  | _, _, .cons _ r => congrArg Nat.succ (Repf.length r)
/-- an attribute of the instance at work is set -/
theorem EnvR.put {K : PySem.W.Frag} {T : Tb} {F0 G F H : Hp} {σ : L2.St} {δ : DL.Env} {a dx : Addr} {c : Nat} {fs : List (Str × D)} {gs : List (Str × V)} {f : Str} {y : V} {d : D} (E : EnvR K T F0 G F H σ δ) (hi : δ[0]? = some (Sl.me a c fs)) (hH : H a = some (.ins (T.CA c) dx gs)) (hg : Repf K T F gs fs) (r : Rep K T F y d) :
    EnvR K T F0 G F (upd H a (.ins (T.CA c) dx (putF f y gs))) σ (δ.set 0 (.me a c (putD f d fs))) := by
  obtain ⟨_, dx', gs', h1, h2, h3, h4, h5⟩ := E.me 0 a c fs hi
  refine ⟨E.f0, Exn.mut E.gh h3, Exn.mut E.fh h2, E.fr, by rw [List.length_set]; exact E.len, fun j e h => ?_, fun j es h => ?_, fun j h => ?_, fun j b c' fs' h => ?_, fun j ks' us' h => ?_, fun j k b ds es hjk g1 g2 g3 g4 => ?_, E.tb.put hH rfl⟩
  · rcases getset h with ⟨_, q, _⟩ | ⟨hn, h⟩
    · cases q
    · exact E.sh j e h
  · rcases getset h with ⟨_, q, _⟩ | ⟨hn, h⟩
    · cases q
    · obtain ⟨b, us, g1, g2, g3, g4, g5⟩ := E.ow j es h
      have z : b ≠ a := fun z => by subst z; rw [hH] at g4; cases g4
      exact ⟨b, us, g1, g2, g3, by rw [upd_ne z]; exact g4, g5⟩
  · rcases getset h with ⟨_, q, _⟩ | ⟨hn, h⟩
    · cases q
    · exact E.ex j h
  · rcases getset h with ⟨e, q, _⟩ | ⟨hn, h⟩
    · cases q
      subst e
      exact ⟨rfl, dx, _, h1, h2, h3, upd_same, hg.put r⟩
    · have := (E.me j b c' fs' h).1
      exact absurd this.symm hn
  · rcases getset h with ⟨_, q, _⟩ | ⟨hn, h⟩
    · cases q
    · obtain ⟨b, ws, g1, g2, g3, g4, g5, g6⟩ := E.od j ks' us' h
      have z : b ≠ a := fun z => by subst z; rw [hH] at g4; cases g4
      exact ⟨b, ws, g1, g2, g3, by rw [upd_ne z]; exact g4, g5, g6⟩
  · rcases getset g1 with ⟨_, q, _⟩ | ⟨n1, g1⟩
    · cases q
    · rcases getset g2 with ⟨_, q, _⟩ | ⟨n2, g2⟩
      · cases q
      · exact E.ap j k b ds es hjk g1 g2 g3 g4
/-- self.f = e -/
def fPut (tab : FTab) (f : Str) (fe : DL.Env → Res SV) : FS := fun δ => (fe δ).out δ fun s => match s.fz with
  | .sh d => match δ[0]? with
    | some (Sl.me a c fs) => if (c, f) ∈ tab ∧ fs.length < 1000 then .nx (δ.set 0 (.me a c (putD f d fs))) else .bad
    | _ => .bad
  | _ => .bad
section
variable {X : Cx} {T : Tb} {W : WX}
theorem ds_put {x f : Str} {p pos' pos : Pos} {value : Expr} {fe : DL.Env → Res SV} {tab : FTab} (ht : TabOk X.K T tab) (hs : PE X (.Name x p) (tVar 0)) (he : PE X value (rd X.K T W fe)) (hw : swapsWith value (some (.Attribute (.Name x p) f pos')) pos.line X.env = pure false := by rfl) :
    PS X (.Assign [.Attribute (.Name x p) f pos'] value pos) (rdS X.K T W (fPut tab f fe)) :=
  PSimp (ps_fld hs he hw) fun D σ H ⟨F0, G, F, δ, E, h⟩ => by
    unfold fPut at h
    refine rd_out E h fun v s F1 H1 p1 r1 hh => ?_
    obtain ⟨F2, p2, r2⟩ := RepS.fz p1 r1
    cases q : s.fz with
    | sh d =>
      rw [q] at hh r2
      dsimp only at hh
      split at hh
      · rename_i a c fs hi
        split at hh
        · rename_i hc
          have E2 := E.grow p2
          obtain ⟨_, dx, gs, h1, h2, h3, h4, h5⟩ := E2.me 0 a c fs hi
          obtain ⟨c1, c2⟩ := ht c f hc.1
          refine ⟨.ref a, h1, a, _, dx, gs, rfl, h4, c1, c2, by rw [h5.length]; exact hc.2, ?_⟩
          exact hh σ F2 _ (E2.put hi h4 h5 r2) p2.ff
        · exact hh.elim
      · exact hh.elim
    | ow ds => rw [q] at hh; exact hh.elim
    | br i ds => rw [q] at hh; exact hh.elim
end
/-! ### __init__ and the making -/
def runI (n : Nat) (c : Nat) (b : FS) (a : Addr) (ds : List D) : Res (List (Str × D)) := match b (.me a c [] :: slots ds ++ List.replicate (n - 1 - ds.length) .no) with
  | .nx δ => match δ[0]? with
    | some (Sl.me a' c' fs) => if a' = a ∧ c' = c then .ok fs else .bad
    | _ => .bad
  | .ex k _ => .ex k
  | _ => .bad
/-- the promise of __init__: the instance's attributes by the arguments -/
def SpI (K : PySem.W.Frag) (T : Tb) (n c : Nat) (phi : Addr → List D → Res (List (Str × D))) : Sp := fun vs H Q E => ∃ (a dx : Addr) (ws : List V) (F G : Hp) (ds : List D), vs = .ref a :: ws ∧ ws.length = n ∧ TbG T G ∧ Exn F G ∧ G a = none ∧ H = upd G a (.ins (T.CA c) dx []) ∧ Reps K T F ws ds ∧ match phi a ds with
  | .ok fs => ∀ F' H' dx' gs, Stp T F G F' H' → F' a = none → H' a = some (.ins (T.CA c) dx' gs) → Repf K T F' gs fs → Q .non H'
  | .ex k => ∀ F' H', Stp T F G F' H' → E (.ref (T.XA k)) none H'
  | .bad => False
theorem init_start {K : PySem.W.Frag} {T : Tb} {F G : Hp} {N : List Str} {a dx : Addr} {c : Nat} {ws : List V} {ds : List D} (e : Exn F G) (ha : G a = none) (r : Reps K T F ws ds) (hl : ws.length + 1 ≤ N.length) (tg : TbG T G) :
    EnvR K T F G F (upd G a (.ins (T.CA c) dx [])) (L2.start N (.ref a :: ws)) (.me a c [] :: slots ds ++ List.replicate (N.length - 1 - ds.length) .no) := by
  have hlen := r.length
  have key : ∀ (i : Nat) (s : Sl), (Sl.me a c [] :: slots ds ++ List.replicate (N.length - 1 - ds.length) Sl.no)[i]? = some s → (i = 0 ∧ s = .me a c []) ∨ s = .no ∨ ∃ d, s = .sh d ∧ i - 1 < ds.length ∧ ds[i - 1]? = some d ∧ i ≠ 0 := fun i s h => by
    cases i with
    | zero =>
      left
      rw [List.cons_append, List.getElem?_cons_zero] at h
      cases h
      exact ⟨rfl, rfl⟩
    | succ i =>
      right
      rw [List.cons_append, List.getElem?_cons_succ] at h
      by_cases hi : i < ds.length
      · unfold slots at h
        rw [List.getElem?_append_left (by simpa using hi), List.getElem?_map, List.getElem?_eq_getElem hi] at h
        cases h
        exact .inr ⟨_, rfl, hi, List.getElem?_eq_getElem hi, by omega⟩
      · unfold slots at h
        rw [List.getElem?_append_right (by simpa using hi), List.getElem?_replicate] at h
        split at h
        · cases h; exact .inl rfl
        · cases h
  have hF : F a = none := Exn.back e ha
  have new : Exn G (upd G a (.ins (T.CA c) dx [])) := Exn.new ha
  refine ⟨Exn.refl _, new, Exn.trans e new, fun _ _ _ h _ => h, ?_, fun i d h => ?_, fun i ds' h => ?_, fun i h => ?_, fun i b c' fs h => ?_, fun i ks' ds' h => ?_, fun i j b ds' es hij h1 => ?_, tg.ex (Evl.Ex.new ha)⟩
  · unfold L2.start slots
    simp only [List.cons_append, List.length_cons, List.length_append, List.length_map, List.length_replicate]
    omega
  · rcases key i _ h with ⟨_, z⟩ | z | ⟨d', z, hi, hd, h0⟩
    · cases z
    · cases z
    · cases z
      obtain ⟨v, h1, h2⟩ := r.get hd
      refine ⟨v, ?_, h2⟩
      rw [getElem_start (by rw [List.length_cons]; omega)]
      cases i with
      | zero => exact absurd rfl h0
      | succ i => rw [List.getElem?_cons_succ]; exact congrArg some h1
  · rcases key i _ h with ⟨_, z⟩ | z | ⟨d', z, _⟩ <;> cases z
  · rcases key i _ h with ⟨_, z⟩ | z | ⟨d', z, _⟩ <;> cases z
  · rcases key i _ h with ⟨e0, z⟩ | z | ⟨d', z, _⟩
    · cases z
      subst e0
      refine ⟨rfl, dx, [], ?_, hF, ha, upd_same, .nil⟩
      rw [getElem_start (by rw [List.length_cons]; omega), List.getElem?_cons_zero]
    · cases z
    · cases z
  · rcases key i _ h with ⟨_, z⟩ | z | ⟨d', z, _⟩ <;> cases z
  · rcases key i _ h1 with ⟨_, z⟩ | z | ⟨d', z, _⟩ <;> cases z
theorem run_init {K : PySem.W.Frag} {T : Tb} {N : List Str} {n c : Nat} {body : FS} {vs : List V} {H : Hp} {Q : VK} {E : XK} (hn : n + 1 ≤ N.length) (h : SpI K T n c (runI N.length c body) vs H Q E) :
    rdS K T (fun cls d _ H => E cls d H) body { nx := fun _ H' => Q .non H', rt := Q } (L2.start N vs) H := by
  obtain ⟨a, dx, ws, F, G, ds, rfl, hl, tg, e, ha, rfl, r, h⟩ := h
  refine ⟨F, G, F, _, init_start e ha r (by omega) tg, ?_⟩
  unfold runI at h
  cases q : body (.me a c [] :: slots ds ++ List.replicate (N.length - 1 - ds.length) Sl.no) with
  | nx δ =>
    rw [q] at h
    dsimp only at h
    split at h
    · rename_i fs hi
      split at hi
      · rename_i a' c' fs' hs
        split at hi
        · rename_i z
          obtain ⟨z1, z2⟩ := z
          cases hi
          subst z1 z2
          intro σ F' H' E' _
          obtain ⟨_, dx', gs, h1, h2, h3, h4, h5⟩ := E'.me 0 _ _ _ hs
          exact h F' H' dx' gs ⟨E'.f0, E'.fh, E'.gh, E'.fr, fun _ => E'.tb⟩ h2 h4 h5
        · cases hi
      · cases hi
    · rename_i k hi
      split at hi
      · split at hi <;> cases hi
      · cases hi
    · exact h.elim
  | ex k δ =>
    rw [q] at h
    exact fun σ F' H' E' _ => h F' H' ⟨E'.f0, E'.fh, E'.gh, E'.fr, fun _ => E'.tb⟩
  | rt s => rw [q] at h; exact h.elim
  | bk δ => rw [q] at h; exact h.elim
  | ct δ => rw [q] at h; exact h.elim
  | bad => rw [q] at h; exact h.elim
theorem init_ok {P : Program} {w : World} {K : PySem.W.Frag} {mg : Str → Option Value} {base : Heap} {CX : CXT} {x qual : Str} {params : Arguments} {body : List Stmt} {scope : Scope} {dvs : List V} {kws : List (Str × V)} {f : Addr} {fd : FuncData} {N ps : List Str} {k n c : Nat} {fb : FS} (T : Tb)
    (F : FunD K x qual params body scope dvs kws f fd) (S : FnScope N ps scope) (hn : n + 1 = ps.length)
    (hb : ∀ (cdv : Value) (A : Around) (outer : List PySem.Env) (s : Shared) (H : Hp) (E : XK), Room k (A.deeper (envOfC qual scope s.heap.objs.size f cdv)) → PSs (cxOf CX P w K mg base N qual scope f cdv A outer s H E) body (rdS K T (fun cls d _ H => E cls d H) fb)) :
    FnOk P w K mg base CX (k + 1) f fd ps (SpI K T n c (runI N.length c fb)) := by
  have hpl : n + 1 ≤ N.length := by
    have := congrArg List.length S.pre
    rw [List.length_take] at this
    omega
  exact F.ok S (fun vs H Q E h => by
    obtain ⟨a, dx, ws, F, G, ds, rfl, hl, _⟩ := h
    rw [← hn, List.length_cons, hl]) fun cdv A outer s H vs Q E hr h => ⟨_, hb cdv A outer s H E hr, run_init hpl h⟩
/-- what does not ask for the address -/
noncomputable def uni {α : Type} (phi : Addr → List D → Res α) (ds : List D) : Res α := open Classical in if h : ∃ r, ∀ a, phi a ds = r then h.choose else .bad
theorem uni_eq {α : Type} {phi : Addr → List D → Res α} {ds : List D} {r : Res α} (h : ∀ a, phi a ds = r) : uni phi ds = r := by
  have e : ∃ r, ∀ a, phi a ds = r := ⟨r, h⟩
  unfold uni
  rw [dif_pos e, ← e.choose_spec 0, h]
theorem uni_of {α : Type} {phi : Addr → List D → Res α} {ds : List D} (a : Addr) (h : uni phi ds ≠ .bad) : phi a ds = uni phi ds := by
  unfold uni at h ⊢
  by_cases e : ∃ r, ∀ a, phi a ds = r
  · rw [dif_pos e]
    exact e.choose_spec a
  · rw [dif_neg e] at h
    exact absurd rfl h
/-- the class as a function of data -/
noncomputable def mkD (c : Nat) (phi : Addr → List D → Res (List (Str × D))) (ds : List D) : Res SV := (uni phi ds).bind fun fs => .ok (.sh (.ins c fs))
def fMake (n : Nat) (phi : List D → Res SV) (dds : List D) (fa : DL.Env → Res (List SV)) : DL.Env → Res SV := fun δ => (fa δ).bind fun ss => if ss.length + dds.length = n then match stills ss with
  | some ds => phi (ds ++ dds)
  | none => .bad else .bad
theorem run_mk {X : Cx} {CX : CXT} {k : Nat} {f C : Addr} {fd : FuncData} {ps : List Str} {sp : Sp} {dvs : List V} {ds : List Value} {E : XK} {pins : List (Addr × Obj)} {σ : L2.St} {H : Hp} {s : Shared} {Q : VK} {us : List Value} {vs : List V} (M : Mk X.K C f) (F : FnOk X.prog X.w X.K X.mg X.base CX k f fd ps sp)
    (hr : Room (k + 1) X.A) (hb : Binds X.K fd ps ds) (hd : Vals dvs ds) (hx : PassesAt CX X σ E) (I : Inv X pins σ H s) (r : Vals vs us)
    (h : ∀ x dx, H x = none → H dx = none → dx ≠ x → sp (.ref x :: (vs ++ dvs)) (upd (upd H dx (.own x)) x (.ins C dx [])) (fun v H2 => v = .non ∧ Q (.ref x) H2) E) : wpAny (model X.prog X.w) X.A (call (.ref C) us) (EP X pins σ Q) X.xe s := by
  have q0 := h (s.heap.objs.size + 1) s.heap.objs.size (I.hok.fresh (Nat.le_add_right _ 1)) (I.hok.fresh (Nat.le_refl _)) (Nat.ne_of_lt (Nat.lt_succ_self _))
  have J := Inv.made (C := C) I
  have rr : Vals (V.ref (s.heap.objs.size + 1) :: (vs ++ dvs)) (Value.ref (s.heap.objs.size + 1) :: (us ++ ds)) := .cons rfl (r.append hd)
  have len : (Value.ref (s.heap.objs.size + 1) :: us ++ ds).length = ps.length := rr.length.symm.trans (F.len _ _ _ _ q0)
  have go := F.run _ X.stack _ _ ⟨Value.ref (s.heap.objs.size + 1) :: us, []⟩ _ _ _ E (hr.make C us []) (J.env0.make C us []) (hb _ (Value.ref (s.heap.objs.size + 1) :: us) J.kIn len) rr q0
  refine wpAny_call (make_map (f := f) I.kIn M.makes M.init (beq_iff_eq.mp M.fn) (codeAny_mono go fun res s' hres => ?_))
  match res with
  | .error e => exact hx pins _ _ e s' J hres
  | .ok (.ret u) =>
    obtain ⟨v, H', J3, rv, e0, q3⟩ := J.after hres
    subst e0
    exact ⟨rv, V.ref (s.heap.objs.size + 1), H', J3, rfl, q3⟩
  | .ok .next => exact False.elim hres
  | .ok .brk => exact False.elim hres
  | .ok .cont => exact False.elim hres
/-- a class of the text: its number, how its instances are made -/
structure Mkc (P : Program) (w : World) (K : PySem.W.Frag) (mg : Str → Option Value) (base : Heap) (CX : CXT) (T : Tb) (k : Nat) (x : Str) (n c : Nat) (phi : Addr → List D → Res (List (Str × D))) (dds : List D) : Prop where
  ex : ∃ (f : Addr) (fd : FuncData) (ps : List Str) (dvs : List V) (ds : List Value), Mk K (T.CA c) f ∧ FnOk P w K mg base CX k f fd ps (SpI K T n c phi) ∧ mg x = some (.ref (T.CA c)) ∧ Binds K fd ps ds ∧ Vals dvs ds ∧ ∀ F, Reps K T F dvs dds
theorem de_mk {X : Cx} {T : Tb} {W : WX} {CX : CXT} {k j n c : Nat} {phi : Addr → List D → Res (List (Str × D))} {dds : List D} {x : Str} {p pos : Pos} {e : Expr} {es : List Expr} {fa : DL.Env → Res (List SV)}
    (F : Mkc X.prog X.w X.K X.mg X.base CX T k x n c phi dds) (hr : Room j X.A) (hkj : k + 1 ≤ j) (hg : Gl X x) (hx : ∀ σ, PassesAt CX X σ (WE W σ))
    (ha : PA X (e :: es) (rdA X.K T W fa)) (hdb : (x == ("__debug__" : Str)) = false := by decide) (he : starEach (e :: es) X.env = (false, eval e X.env) :: starEach es X.env := by rfl) (hpl : (backTo pos (starEach es X.env)).any (·.1) = false := by rfl) :
    PE X (.Call (.Name x p) (e :: es) [] pos) (rd X.K T W (fMake n (mkD c phi) dds fa)) := by
  obtain ⟨f, fd, ps, dvs, ds, M, Fo, hm, hb, hd, hdd⟩ := F.ex
  refine ⟨fun pins s σ H Q I ⟨F0, G, F, δ, E, h⟩ => ?_⟩
  refine wpAny_Call_Name_kw (ld_glob I hg hm ?_ hdb)
  have hargs : rdA X.K T W fa σ H fun vs H1 => ∀ x dx, H1 x = none → H1 dx = none → dx ≠ x →
      SpI X.K T n c phi (.ref x :: (vs ++ dvs)) (upd (upd H1 dx (.own x)) x (.ins (T.CA c) dx [])) (fun v H2 => v = .non ∧ Q (.ref x) H2) (WE W σ) := by
    refine rdA_bind E h fun vs ss F1 H1 p1 r1 h1 x dx hx0 hdx hne => ?_
    by_cases l : ss.length + dds.length = n
    · rw [if_pos l] at h1
      cases q : stills ss with
      | none => rw [q] at h1; exact h1.elim
      | some es =>
        rw [q] at h1
        dsimp only at h1
        have rs := (stills_reps r1 q).append (hdd F1)
        have h1 := h1.later p1
        have nb : uni phi (es ++ dds) ≠ .bad := fun z => by
          unfold mkD at h1
          rw [z] at h1
          exact h1.elim
        have pg : Stp T F1 H1 F1 (upd H1 dx (.own x)) := Stp.new p1.fh hdx
        refine ⟨x, dx, _, F1, upd H1 dx (.own x), es ++ dds, rfl, by rw [List.length_append, r1.length, (hdd F1).length]; exact l, pg.tb (p1.tb E.tb), pg.fh, by rw [upd_ne (Ne.symm hne)]; exact hx0, rfl, rs, ?_⟩
        rw [uni_of x nb]
        unfold mkD at h1
        revert h1
        cases uni phi (es ++ dds) with
        | ok fs =>
          intro h1 F' H' dx' gs p2 hF hH hg
          refine ⟨rfl, ?_⟩
          have p3 := (pg.trans p2).fz hx0 hF hH
          exact h1 (.ref x) _ _ p3 (.ins upd_same (hg.mono (Exn.new hF)))
        | ex k => exact fun h1 F' H' p2 => h1 F' H' (pg.trans p2)
        | bad => exact fun h1 => h1.elim
    · rw [if_neg l] at h1; exact h1.elim
  refine PySem.W.callWith_K (h₀ := X.base) I.ok.mod.kin M.kp (thn (ha.run pos pins s σ H _ I hargs) fun us s1 ⟨vs, H1, I1, r, q⟩ => ⟨I1.kIn, ?_⟩) he hpl
  exact run_mk M Fo (hr.mono hkj) hb hd (hx σ) I1 r q
end DL
end

section
set_option Elab.async false
set_option linter.all false
set_option autoImplicit false
set_option maxRecDepth 100000
set_option maxHeartbeats 4000000
/-! Exceptions with whatever hangs behind them (their contexts): raised, let out, caught, raised in a suite. -/
namespace XK
open PySem PySem.Spec PyProof.Rows L2
abbrev Pin := Addr × Obj
/-- the contexts behind a value, one behind the other, to None -/
def Chn : List Pin → Value → Prop
  | [], c => c = .none
  | p :: r, c => c = .ref p.1 ∧ ∃ vs c', p.2.data = .fields vs ∧ vs[2]? = some c' ∧ Chn r c'
structure ChnOk (B : Heap) (H : Hp) (ps : List Pin) : Prop where
  nd : (ps.map (·.1)).Nodup
  at_ : ∀ p ∈ ps, B.get? p.1 = some p.2 ∧ H p.1 = none ∧ ∃ vs, p.2.data = .fields vs
theorem ChnOk.nil {B : Heap} {H : Hp} : ChnOk B H [] := ⟨List.nodup_nil, fun _ h => nomatch h⟩
/-- what is kept of an exception's object -/
def Zk (cls : Value) (d : Option Addr) (ps : List Pin) : Obj → Prop := fun o => o.cls = cls ∧ o.dict = d ∧ ∀ vs, o.data = .fields vs → ∃ c, vs[2]? = some c ∧ Chn ps c
theorem Zk.steady {cls : Value} {d : Option Addr} {ps : List Pin} : PXN.Steady1 (Zk cls d ps) := fun o v h =>
  ⟨PXN.steady_cls o v h.1, PXN.steady_dict o v h.2.1, by
    have h3 := h.2.2
    obtain ⟨c, d, dt, sl⟩ := o
    cases dt with
    | fields vs0 =>
      intro vs e
      have e2 : vs0.setIfInBounds 1 v = vs := Data.fields.inj e
      obtain ⟨c, q1, q2⟩ := h3 vs0 rfl
      refine ⟨c, ?_, q2⟩
      rw [← e2, Array.getElem?_setIfInBounds_ne (by decide)]
      exact q1
    | _ =>
      intro vs e
      first
      | exact Data.noConfusion e
      | cases e⟩
def XE (X : Cx) (W : WX) (u : Value) (t : Shared) : Prop :=
  ∃ (a : Addr) (B : Heap) (m : Shared) (pins : List Pin) (σ : L2.St) (H : Hp) (cls : Value) (d : Option Addr) (ps : List Pin), u = .ref a ∧ Inv X pins σ H m ∧
    (∀ b o, m.heap.get? b = some o → b ∉ frs X.stack → B.get? b = some o) ∧ m.heap.UpToSlots t.heap ∧ Sky B X.stack a (Zk cls d ps) X.env.locals t.heap ∧ ChnOk B H ps ∧ H a = none ∧ t.os = m.os ∧ AllBare t.gens ∧ W cls d σ H
def Takes (X : Cx) (W : WX) : Prop := ∀ u t, XE X W u t → X.xe u t
theorem XE.imp {X : Cx} {W W' : WX} {u : Value} {t : Shared} (h : ∀ c d σ H, W' c d σ H → W c d σ H) (x : XE X W' u t) : XE X W u t := by
  obtain ⟨a, B, m, pins, σ, H, cls, d, ps, e1, e2, e3, e4, e5, e6, e7, e8, e9, w⟩ := x
  exact ⟨a, B, m, pins, σ, H, cls, d, ps, e1, e2, e3, e4, e5, e6, e7, e8, e9, h _ _ _ _ w⟩
/-- behind a call that let an exception out -/
def CX (P : Program) (w : World) (outer : List Env) (H : Hp) (s : Shared) (E : XK) (u : Value) (t : Shared) : Prop :=
  ∃ (a : Addr) (B : Heap) (H' : Hp) (cls : Value) (d : Option Addr) (ps : List Pin), u = .ref a ∧ HandSPX.FlyingZ B outer a (Zk cls d ps) t.heap ∧ HOk P w H' B ∧ UB (frs outer) H H' s.heap B t.heap ∧ ChnOk B H' ps ∧ H' a = none ∧ t.os = s.os ∧ AllBare t.gens ∧ E cls d H'
section
variable {X : Cx} {pins : List Pin} {σ : L2.St} {H : Hp} {m s t : Shared} {B : Heap} {W : WX} {E : XK}
/-- what a call lets out is in our air -/
theorem XE.of_call (I : Inv X pins σ H s) (hW : ∀ cls d H', E cls d H' → W cls d σ H') {u : Value} (c : CX X.prog X.w X.stack H s E u t) : XE X W u t := by
  obtain ⟨a, B, H', cls, d, ps, rfl, fl, hok, ub, ck, na, os, ag, hE⟩ := c
  obtain ⟨G, g1, g2⟩ := restrict t.heap fun b => (B.get? b).isSome || decide (b ∈ frs X.stack)
  have st : B.StaysIn t.heap := fl.1
  have inB : ∀ b o, B.get? b = some o → G.get? b = some o := fun b o e => (g1 b (by simp [e])).trans (st b o e)
  have inF : ∀ b, b ∈ frs X.stack → G.get? b = t.heap.get? b := fun b hb => g1 b (by simp [hb])
  have back : ∀ b o, G.get? b = some o → t.heap.get? b = some o ∧ ((B.get? b).isSome = true ∨ b ∈ frs X.stack) := fun b o e => by
    cases q : ((B.get? b).isSome || decide (b ∈ frs X.stack)) with
    | false => cases (g2 b q).symm.trans e
    | true => exact ⟨(g1 b q).symm.trans e, by simpa [Bool.or_eq_true] using q⟩
  have sl : ∀ b o, s.heap.get? b = some o → b ∈ frs X.stack → ∃ z, G.get? b = some { o with slots := z } := fun b o e hb => by
    obtain ⟨z, q⟩ := ub.slot b o e hb
    exact ⟨z, (inF b hb).trans q⟩
  have J : Inv X pins σ H' { s with heap := G, gens := t.gens, drawn := t.drawn, toks := t.toks } := by
    refine I.call (ch := []) ⟨fun b o e n hb _ => inB b o (ub.keep b o e n hb), fun b o e n hb _ => sl b o e hb, fun b o e n _ => ub.free b o e n, fun b o e _ => ?_, ub.tups, ub.frzs, ub.tbls⟩ (hok.kept inB) ag (fun _ z => nomatch z)
    by_cases hb : b ∈ frs X.stack
    · obtain ⟨z, q⟩ := sl b o e hb
      exact ⟨_, q⟩
    · obtain ⟨o', q⟩ := ub.there b o e hb
      exact ⟨o', inB b o' q⟩
  refine ⟨a, B, _, pins, σ, H', cls, d, ps, rfl, J, fun b o e hb => ?_, Heap.UpToSlots.of_keeps fun b o e => (back b o e).1, .inr (.inl fl), ck, na, os, ag, hW _ _ _ hE⟩
  obtain ⟨e', h⟩ := back b o e
  rcases h with h | h
  · obtain ⟨o', q⟩ := Option.isSome_iff_exists.mp h
    cases e'.symm.trans (st b o' q)
    exact q
  · exact absurd h hb
/-- a new exception; what hangs behind it stands already -/
theorem XE.fresh {a : Addr} {oe : Obj} {vs : Array Value} {cls : Value} {d : Option Addr} {ps : List Pin} (I : Inv X pins σ H m) (k : ∀ b o, m.heap.get? b = some o → t.heap.get? b = some o) (hne : m.heap.get? a = none) (he : t.heap.get? a = some oe)
    (hz : Zk cls d ps oe) (hd : oe.data = .fields vs) (h1 : vs[1]? = some .none) (nd : (ps.map (·.1)).Nodup) (hp : ∀ p ∈ ps, m.heap.get? p.1 = some p.2 ∧ p.1 ∉ frs X.stack ∧ H p.1 = none ∧ ∃ vs, p.2.data = .fields vs) (na : H a = none) (os : t.os = m.os) (ag : AllBare t.gens) (w : W cls d σ H) : XE X W (.ref a) t := by
  have hid : (PySem.W.hideAll m.heap (frs X.stack)).get? a = none := by
    cases q : (PySem.W.hideAll m.heap (frs X.stack)).get? a with
    | none => rfl
    | some o => cases hne.symm.trans (PySem.W.of_hideAll _ q)
  exact ⟨a, PySem.W.hideAll m.heap (frs X.stack), m, pins, σ, H, cls, d, ps, rfl, I, fun b o e hb => PySem.W.hideAll_get _ e hb, Heap.UpToSlots.of_keeps k,
    .inl ⟨fun b o e => k b o (PySem.W.of_hideAll _ e), hid, Heap.FunFrames.of_keeps (fun b o e _ => ⟨o, k b o e, rfl⟩) (funFrames_none I.stack fun b hb => PySem.W.hideAll_none _ hb), oe, vs, he, hz, hd, h1⟩,
    ⟨nd, fun p m => ⟨PySem.W.hideAll_get _ (hp p m).1 (hp p m).2.1, (hp p m).2.2⟩⟩, na, os, ag, w⟩
/-- it leaves the def -/
theorem XE.leave (hs : X.stack = X.env :: X.outer) (hf : X.env.frame = some X.env.locals) (hex : X.ex = []) {E₁ : Value → Shared → Prop} {u : Value} (x : XE X (fun cls d _ H => E cls d H) u t) :
    wpAny (model X.prog X.w) X.A (leaving X.env u) (fun _ z => CX X.prog X.w X.outer X.H_0 X.s_0 E u z) E₁ t := by
  obtain ⟨a, B, m, pins, σ, H, cls, d, ps, rfl, I, nb, up, sky, ck, na, os, ag, w⟩ := x
  have hfr : X.A.frames = some (X.env :: X.outer) := hs ▸ I.ok.frames
  have hex' : ∀ b, b ∉ X.ex := fun b hb => by rw [hex] at hb; exact nomatch hb
  have old : ∀ b o, X.s_0.heap.get? b = some o → b ∉ X.fs → b ∉ frs X.stack := fun b o e hb hm => by
    rcases List.mem_cons.mp (I.stkSub b hm) with z | z
    · subst z
      exact Nat.lt_irrefl _ (Nat.lt_of_lt_of_le (Heap.lt_size e) I.ok.above)
    · exact hb z
  have out : ∀ h', HandSPX.FlyingZ B X.outer a (Zk cls d ps) h' → t.heap.UpToSlots h' → CX X.prog X.w X.outer X.H_0 X.s_0 E (.ref a) { t with heap := h' } := fun h' fl up' => by
    have ub : UB (frs X.outer) X.H_0 H X.s_0.heap B h' := by
      refine ⟨fun b o e n hb => nb b o (I.base.keep b o e n hb (hex' b)) (old b o e hb), fun b o e hb => ?_, fun b o e n => I.base.free b o e n (hex' b), fun b o e hb => ?_, I.base.tups, I.base.frzs, I.base.tbls⟩
      · obtain ⟨_, o₀, e₀, hnf⟩ := I.ok.funs.mem hb
        cases e.symm.trans e₀
        obtain ⟨z1, e1⟩ := I.base.slot b o e (I.ok.frf b hb) hb (hex' b)
        obtain ⟨z2, e2⟩ := up b _ e1 hnf
        obtain ⟨z3, e3⟩ := up' b _ e2 hnf
        exact ⟨z3, e3⟩
      · obtain ⟨o', e1⟩ := I.base.there b o e (hex' b)
        exact ⟨o', nb b o' e1 (old b o e hb)⟩
    exact ⟨a, B, H, cls, d, ps, rfl, fl, I.inGround nb, ub, ck, na, os.trans I.os, ag, w⟩
  rw [hs] at sky
  rcases sky with ⟨hB, hn, hl, oe, vs, he, hz, hd, h1⟩ | fl | hd
  · exact PXN.leaving_firstZ Zk.steady hfr hl hf he hB hn hd h1 hz out
  · exact PXN.leaves_onZ Zk.steady hfr hf fl out
  · exact HandSPX.leaves_heldZ hf hd out
theorem takes_of (hs : X.stack = X.env :: X.outer) (hf : X.env.frame = some X.env.locals) (hex : X.ex = []) {E₁ : Value → Shared → Prop}
    (hx : X.xe = fun e z => wpAny (model X.prog X.w) X.A (leaving X.env e) (fun _ y => CX X.prog X.w X.outer X.H_0 X.s_0 E e y) E₁ z) : Takes X (fun cls d _ H => E cls d H) := fun u t x => by
  rw [hx]
  exact XE.leave hs hf hex x
/-- noted, then on the ground -/
theorem land {M : Model} {A : Around} {E₁ : Value → Shared → Prop} {env : Env} {outer : List Env} {L a : Addr} {cls : Value} {d : Option Addr} {ps : List Pin} {Q : Unit → Shared → Prop} (hfr : A.frames = some (env :: outer)) (hf : env.frame = some L)
    (x : Sky B (env :: outer) a (Zk cls d ps) L s.heap) (hQ : ∀ h', HandSPX.FlyingZ B (env :: outer) a (Zk cls d ps) h' → s.heap.UpToSlots h' → Q () { s with heap := h' }) :
    wpAny M A (noteFrame (.ref a) env) (fun _ z => wpAny M A (setFlight (.ref a) none) Q E₁ z) E₁ s := L2N.Sky.land Zk.steady hfr hf x hQ
end

/-! ### raise -/
section
variable {X : Cx} {W : WX} {e : Expr} {t : L2.St → Hp → L2.XK → Prop} {pos : Pos}
theorem Zn_k {cls : Value} {d : Option Addr} {o : Obj} (h : L2N.Zn cls d o) : Zk cls d [] o := ⟨h.1, h.2.1, fun vs e => ⟨_, h.2.2 vs e, rfl⟩⟩
theorem ps_raise (hc : X.calm = true) (tk : Takes X W) (he : L2N.PMk X e t) : PS X (.Raise (some e) none pos) (fun _ σ H => t σ H fun cls d H' => W cls d σ H') := by
  refine ⟨fun pins s σ H D I h => ?_⟩
  show wpAny _ _ (do standAt pos; raiseStmt X.env (some (do let v ← eval e X.env; standAt pos; pure v)) none) _ _ _
  refine wpAny_bind (wpAny_standAt (raise_made (I.ok.hd hc) (wpAny_bind (wpAny_mono (he pins s σ H _ I h) (fun u s1 hu => wpAny_bind (wpAny_standAt (wpAny_pure ?_))) fun _ _ x => x))))
  obtain ⟨a, oe, vs, m, H', cls, d, rfl, J, k, hne, ha, hz, hd, h1, na, os, ag, r, q⟩ := hu
  obtain ⟨r1, r2⟩ := r (model X.prog X.w) s1.heap (J.kIn.keeps k)
  exact ⟨a, oe, vs, cls, rfl, ha, hz.1, hd, h1, r1, r2, tk _ _ (XE.fresh J k hne ha (Zn_k hz) hd h1 List.nodup_nil (fun _ z => nomatch z) na os ag q)⟩
end
end XK
end

section
set_option Elab.async false
set_option linter.all false
set_option autoImplicit false
set_option maxRecDepth 100000
set_option maxHeartbeats 4000000
namespace XK
open PySem PySem.Spec PyProof.Rows L2
/-! ### a raise while another one is handled -/
section
variable {prog : Program} {w : World} {A : Around} {s : Shared}
def Stands (h : Heap) (ps : List Pin) : Prop := ∀ p ∈ ps, h.get? p.1 = some p.2
theorem beq_none {x : Addr} : (Value.ref x == Value.none) = false := rfl
theorem beq_refs {x y : Addr} (h : x ≠ y) : (Value.ref x == Value.ref y) = false := beq_eq_false_iff_ne.mpr fun e => h (Value.ref.inj e)
/-- what hangs behind a value, and the object there -/
theorem Chn.obj {p : Pin} {r : List Pin} {c : Value} (h : Chn (p :: r) c) : ∃ vs c', p.2.data = .fields vs ∧ vs[2]? = some c' ∧ Chn r c' := h.2
theorem quiet_unch {as : List Value} : (Code.builtin "proto.unchain" ⟨as, []⟩).quiet = true := by
  have h : ∀ x : Args, (Code.builtin "proto.unchain" x).quiet = (Code.builtin "proto.unchain" ⟨[], []⟩).quiet := fun _ => rfl
  rw [h]
  decide +kernel
/-- the walk behind the handled exception meets neither the new one nor a ring -/
theorem unch {a : Addr} {R : Result → Shared → Prop} (k : R (.ok (.ret .none)) s) : ∀ (r : List Pin) (p q : Pin) (z : List Pin) (c cq : Value) (b : Bool), Chn (p :: r) c → Chn (q :: z) cq → (p :: r) <:+ (q :: z) → ((q :: z).map (·.1)).Nodup → Stands s.heap (q :: z) → (∀ x ∈ p :: r, x.1 ≠ a) →
    codeAny (model prog w) A (.builtin "proto.unchain" ⟨[.ref a, .ref p.1, .ref q.1, .bool b], []⟩) R s
  | [], p, q, z, c, cq, b, hp, hq, sf, nd, st, na => by
    obtain ⟨vs, c', d1, d2, d3⟩ := hp.2
    have d3 : c' = .none := d3
    subst d3
    refine codeAny_builtin HotX.entry_unchain ?_
    show wpAny _ _ (field (.ref p.1) 2 >>= _) _ _ s
    refine wpAny_bind (wpAny_field (st p (sf.subset List.mem_cons_self)) d1 d2 ?_)
    rw [if_pos (show (Value.none == Value.none) = true from rfl)]
    first
    | exact wpAny_bind (wpAny_pure (wpAny_pure k))
    | exact wpAny_pure k
  | x :: r, p, q, z, c, cq, b, hp, hq, sf, nd, st, na => by
    obtain ⟨vs, c', d1, d2, d3⟩ := hp.2
    obtain ⟨vq, cq', g1, g2, g3⟩ := hq.2
    obtain ⟨e, d4⟩ := d3
    subst e
    have nq : x.1 ≠ q.1 := by
      obtain ⟨pre, e⟩ := sf
      intro e1
      have hx : x.1 ∈ z.map (·.1) := by
        cases pre with
        | nil => cases e; exact List.mem_map_of_mem (List.mem_cons_self ..)
        | cons y pre =>
          have e2 := (List.cons.inj e).2
          rw [← e2]
          exact List.mem_map_of_mem (List.mem_append_right _ (List.mem_cons_of_mem _ (List.mem_cons_self ..)))
      rw [List.map_cons, List.nodup_cons] at nd
      exact nd.1 (e1 ▸ hx)
    have sf2 : (x :: r) <:+ z := by
      obtain ⟨pre, e⟩ := sf
      cases pre with
      | nil => cases e; exact List.suffix_refl _
      | cons y pre => exact ⟨pre ++ [p], by rw [List.append_assoc]; exact (List.cons.inj e).2⟩
    refine codeAny_builtin HotX.entry_unchain ?_
    show wpAny _ _ (field (.ref p.1) 2 >>= _) _ _ s
    refine wpAny_bind (wpAny_field (st p (sf.subset List.mem_cons_self)) d1 d2 ?_)
    rw [beq_none, if_neg Bool.false_ne_true, beq_refs (na x (List.mem_cons_of_mem _ (List.mem_cons_self ..))), if_neg Bool.false_ne_true, beq_refs nq, if_neg Bool.false_ne_true]
    cases b with
    | false =>
      rw [if_neg Bool.false_ne_true]
      refine wpAny_bind (wpAny_pure ?_)
      refine wpAny_pure ⟨quiet_unch, unch k r x q z _ cq true ⟨rfl, d4⟩ hq (sf2.trans (List.suffix_cons _ _)) nd st fun y m => na y (List.mem_cons_of_mem _ m)⟩
    | true =>
      rw [if_pos rfl]
      refine wpAny_bind (wpAny_field (st q (List.mem_cons_self ..)) g1 g2 ?_)
      cases z with
      | nil => exact nomatch sf2.subset (List.mem_cons_self ..)
      | cons y z =>
        obtain ⟨e5, g5⟩ := g3
        subst e5
        rw [List.map_cons, List.nodup_cons] at nd
        refine wpAny_pure ⟨quiet_unch, unch k r x y z _ _ false ⟨rfl, d4⟩ ⟨rfl, g5⟩ sf2 nd.2 (fun v m => st v (List.mem_cons_of_mem _ m)) fun v m => na v (List.mem_cons_of_mem _ m)⟩
end
end XK
end

section
set_option Elab.async false
set_option linter.all false
set_option autoImplicit false
set_option maxRecDepth 100000
set_option maxHeartbeats 4000000
namespace XK
open PySem PySem.Spec PyProof.Rows L2
section
variable {prog : Program} {w : World} {A : Around} {s : Shared} {E : Value → Shared → Prop}
/-- the heap with the handled exception put behind the new one -/
abbrev behind (h : Heap) (a x : Addr) : Heap := h.update a (Obj.mapFields (·.setIfInBounds 2 (.ref x)))
theorem raiseNew_k {α : Type} {a : Addr} {p : Pin} {ps : List Pin} {oe : Obj} {vs : Array Value} {Q : α → Shared → Prop} (hh : A.handled = some (.ref p.1)) (ch : Chn (p :: ps) (.ref p.1)) (nd : ((p :: ps).map (·.1)).Nodup) (st : Stands s.heap (p :: ps))
    (na : ∀ x ∈ p :: ps, x.1 ≠ a) (ha : s.heap.get? a = some oe) (da : oe.data = .fields vs) (hi : 2 < vs.size) (hE : E (.ref a) { s with heap := behind s.heap a p.1 }) : wpAny (model prog w) A (raiseNew (.ref a) : Sem α) Q E s := by
  have hb : (Value.ref p.1 != Value.ref a) = true := HotX.ref_bne (na p (List.mem_cons_self ..))
  have go : ∀ {Q' : Value → Shared → Prop}, Q' .none s → wpAny (model prog w) A (holding [Value.ref a] (runValue (.builtin "proto.unchain" ⟨[.ref a, .ref p.1, .ref p.1, .bool false], []⟩))) Q' E s := fun q =>
    wpAny_holding (wpAny_runValue (unch q ps p p ps _ _ false ch ch (List.suffix_refl _) nd st na))
  unfold raiseNew
  refine wpAny_bind (wpAny_handled ?_)
  rw [hh]
  first
  | (show wpAny _ _ (if (Value.ref p.1 != Value.ref a) = true then _ else _) _ _ _
     rw [if_pos hb]
     first
     | exact wpAny_bind (go (wpAny_bind (HotX.chained ha da hi (wpAny_throw hE))))
     | exact wpAny_bind (wpAny_bind (go (HotX.chained ha da hi (wpAny_throw hE)))))
  | (refine wpAny_bind ?_
     show wpAny _ _ (if (Value.ref p.1 != Value.ref a) = true then _ else _) _ _ _
     rw [if_pos hb]
     exact wpAny_bind (go (HotX.chained ha da hi (wpAny_throw hE))))
/-- a made exception raised, whatever raiseNew does with it -/
theorem raiseStmt_k {env : Env} {x : Sem Value} {Q : Flow → Shared → Prop}
    (h : wpAny (model prog w) A x (fun v t => ∃ a oe vs cls, v = .ref a ∧ t.heap.get? a = some oe ∧ oe.cls = cls ∧ oe.data = .fields vs ∧ vs[1]? = some .none ∧
      PySem.W.Looks (model prog w) t.heap (isSubtype cls (.type "BaseException")) true ∧ PySem.W.Looks (model prog w) t.heap (typeOf cls) (.type "type") ∧ wpAny (model prog w) A (raiseNew (.ref a) : Sem Flow) Q E t) E s) :
    wpAny (model prog w) A (raiseStmt env (some x) none) Q E s := by
  unfold raiseStmt
  dsimp only
  refine wpAny_bind (wpAny_mono h (fun v t ht => ?_) fun _ _ y => y)
  obtain ⟨a, oe, vs, cls, rfl, ha, hcls, hd, h1, L1, L3, go⟩ := ht
  have ty : PySem.W.Looks (model prog w) t.heap (typeOf (.ref a)) cls := fun _ _ _ _ k q => wpAny_typeOf_ref (k _ _ ha) (hcls ▸ q)
  have inst : PySem.W.Looks (model prog w) t.heap (isInstance (.ref a) (.type "BaseException")) true := ty.andThen L1
  have nty : ∀ {Q' : Bool → Shared → Prop}, Q' false t → wpAny (model prog w) A (isType (.ref a)) Q' E t := by
    intro Q' hq
    simp only [isType, loadHead]
    exact wpAny_bind (wpAny_loadPart ha (by rw [hd]; exact wpAny_pure hq))
  refine wpAny_bind (wpAny_pure ?_)
  dsimp only
  refine wpAny_bind (wpAny_holding ?_)
  unfold excFromValue isExcClass
  refine wpAny_bind (wpAny_bind (nty ?_))
  simp only [Bool.false_eq_true, if_false]
  refine wpAny_pure ?_
  simp only [Bool.false_eq_true, if_false]
  refine wpAny_bind (inst.here ?_)
  simp only [if_true]
  refine wpAny_pure (wpAny_bind (nty ?_))
  simp only [Bool.false_eq_true, if_false]
  unfold raisedInstance
  refine wpAny_bind (wpAny_bind (ty.here (wpAny_bind (L3.here ?_))))
  rw [if_pos (beq_self_eq_true _)]
  refine wpAny_pure ?_
  unfold setFlight
  refine wpAny_bind (wpAny_bind (wpAny_field ha hd h1 ?_))
  rw [if_neg (by decide)]
  exact wpAny_pure go
end
/-- the exception that is handled, with what hangs behind it, is pinned -/
structure Hot (X : Cx) (p : Pin) (ps : List Pin) : Prop where
  hd : X.A.handled = some (.ref p.1)
  ch : Chn (p :: ps) (.ref p.1)
  nd : ((p :: ps).map (·.1)).Nodup
  fl : ∀ q ∈ p :: ps, ∃ vs, q.2.data = .fields vs
  pn : ∀ q ∈ p :: ps, q ∈ X.pn
theorem Hot.at_ {X : Cx} {p : Pin} {ps pins : List Pin} {σ : L2.St} {H : Hp} {s : Shared} (h : Hot X p ps) (I : Inv X pins σ H s) : ∀ q ∈ p :: ps, s.heap.get? q.1 = some q.2 ∧ q.1 ∉ frs X.stack ∧ H q.1 = none := fun q hq => by
  have z := I.pin q (List.mem_append_left _ (h.pn q hq))
  exact ⟨z.1, fun hm => (List.mem_cons.mp (I.stkSub q.1 hm)).elim z.2.2.1 z.2.2.2.1, z.2.1⟩
theorem ps_raiseHot {X : Cx} {W : WX} {e : Expr} {t : L2.St → Hp → L2.XK → Prop} {pos : Pos} {p : Pin} {ps : List Pin} (hot : Hot X p ps) (tk : Takes X W) (he : L2N.PMk X e t) : PS X (.Raise (some e) none pos) (fun _ σ H => t σ H fun cls d H' => W cls d σ H') := by
  refine ⟨fun pins s σ H D I h => ?_⟩
  show wpAny _ _ (do standAt pos; raiseStmt X.env (some (do let v ← eval e X.env; standAt pos; pure v)) none) _ _ _
  refine wpAny_bind (wpAny_standAt (raiseStmt_k (wpAny_bind (wpAny_mono (he pins s σ H _ I h) (fun u s1 hu => wpAny_bind (wpAny_standAt (wpAny_pure ?_))) fun _ _ x => x))))
  obtain ⟨a, oe, vs, m, H', cls, d, rfl, J, k, hne, ha, hz, hd, h1, na, os, ag, r, q⟩ := hu
  obtain ⟨r1, r2⟩ := r (model X.prog X.w) s1.heap (J.kIn.keeps k)
  have at_ := hot.at_ J
  have apart : ∀ x ∈ p :: ps, x.1 ≠ a := fun x hx z => by
    have e := (at_ x hx).1
    rw [z, hne] at e
    cases e
  have h2 := hz.2.2 vs hd
  have hi : 2 < vs.size := (Array.getElem?_eq_some_iff.mp h2).1
  refine ⟨a, oe, vs, cls, rfl, ha, hz.1, hd, h1, r1, r2, raiseNew_k hot.hd hot.ch hot.nd (fun x hx => k _ _ (at_ x hx).1) apart ha hd hi (tk _ _ ?_)⟩
  have keep : ∀ b o, m.heap.get? b = some o → (behind s1.heap a p.1).get? b = some o := fun b o e => by
    have nb : a ≠ b := fun y => by rw [← y, hne] at e; cases e
    exact (Heap.get?_update_other _ _ nb).trans (k b o e)
  have new : (behind s1.heap a p.1).get? a = some (oe.mapFields (·.setIfInBounds 2 (.ref p.1))) := Heap.get?_update_self _ ha (Obj.isFreed_of_fields (Obj.data_mapFields hd _))
  have z1 : (vs.setIfInBounds 2 (Value.ref p.1))[1]? = some Value.none := (Array.getElem?_setIfInBounds_ne (by decide)).trans h1
  have zz : Zk cls d (p :: ps) (oe.mapFields (·.setIfInBounds 2 (.ref p.1))) := ⟨(Obj.cls_mapFields ..).trans hz.1, (HandSPX.dict_mapFields ..).trans hz.2.1, fun us e => by
    rw [Obj.data_mapFields hd] at e
    cases e
    exact ⟨_, Array.getElem?_setIfInBounds_self_of_lt hi, hot.ch⟩⟩
  exact XE.fresh J keep hne new zz (Obj.data_mapFields hd _) z1 hot.nd (fun x hx => ⟨(at_ x hx).1, (at_ x hx).2.1, (at_ x hx).2.2, hot.fl x hx⟩) na os ag q

/-! ### try -/
section
variable {X : Cx} {pins : List Pin}
/-- the context of a suite: pn stands still, xe is what it may let out -/
abbrev sx (X : Cx) (a : Addr) (pn : List Pin) (xe : Value → Shared → Prop) : Cx := { X with A := X.A.mark (some (.ref a)), calm := false, pn := pn, xe := xe }
/-- an exception of a try's body that has been noted: the state that it leaves -/
structure Caught (X : Cx) (pins : List Pin) (a : Addr) (B : Heap) (m : Shared) (σ : L2.St) (H : Hp) (cls : Value) (d : Option Addr) (ps : List Pin) (t : Shared) : Prop where
  J : Inv X pins σ H m
  nb : ∀ b o, m.heap.get? b = some o → b ∉ frs X.stack → B.get? b = some o
  up : m.heap.UpToSlots t.heap
  fl : HandSPX.FlyingZ B (X.env :: X.outer) a (Zk cls d ps) t.heap
  ck : ChnOk B H ps
  na : H a = none
  os : t.os = m.os
  ag : AllBare t.gens
variable {a : Addr} {B : Heap} {m t : Shared} {σ : L2.St} {H : Hp} {cls : Value} {d : Option Addr} {ps : List Pin}
theorem Caught.step (c : Caught X pins a B m σ H cls d ps t) {h : Heap} (fl : HandSPX.FlyingZ B (X.env :: X.outer) a (Zk cls d ps) h) (up : t.heap.UpToSlots h) : Caught X pins a B m σ H cls d ps { t with heap := h } :=
  ⟨c.J, c.nb, c.up.trans up, fl, c.ck, c.na, c.os, c.ag⟩
theorem Caught.inv (c : Caught X pins a B m σ H cls d ps t) : Inv X pins σ H t := c.J.landed c.nb c.fl.1 c.up c.os c.ag
/-- the exception's object and its pins -/
theorem Caught.pin (c : Caught X pins a B m σ H cls d ps t) (hf : X.env.frame = some X.env.locals) : ∃ oe, Zk cls d ps oe ∧ (∃ vs, oe.data = .fields vs) ∧ (a ∉ ps.map (·.1)) ∧
    ∀ q ∈ (a, oe) :: ps, t.heap.get? q.1 = some q.2 ∧ H q.1 = none ∧ q.1 ≠ X.env.locals ∧ q.1 ∉ X.fs ∧ ∃ vs, q.2.data = .fields vs := by
  obtain ⟨oe, vs, he, hz, hd⟩ := c.fl.there
  refine ⟨oe, hz, ⟨vs, hd⟩, fun hm => ?_, fun q hq => ?_⟩
  · obtain ⟨p, hp, e⟩ := List.mem_map.mp hm
    have := (c.ck.at_ p hp).1
    rw [e, c.fl.2.1] at this
    cases this
  · have key : t.heap.get? q.1 = some q.2 ∧ H q.1 = none ∧ ∃ vs, q.2.data = .fields vs := by
      rcases List.mem_cons.mp hq with e | e
      · subst e; exact ⟨he, c.na, vs, hd⟩
      · obtain ⟨k1, k2, k3⟩ := c.ck.at_ q e
        exact ⟨c.fl.1 _ _ k1, k2, k3⟩
    obtain ⟨k1, k2, ws, k3⟩ := key
    have nfr : q.1 ∉ frs (X.env :: X.outer) := fun hm => by
      obtain ⟨_, o', e', hnf⟩ := c.fl.2.2.1.mem hm
      cases k1.symm.trans e'
      exact hnf _ k3
    refine ⟨k1, k2, fun z => nfr (List.mem_filterMap.mpr ⟨X.env, List.mem_cons_self, by rw [hf, z]⟩), fun hm => ?_, ws, k3⟩
    obtain ⟨e, he, qq⟩ := List.mem_filterMap.mp hm
    exact nfr (List.mem_filterMap.mpr ⟨e, List.mem_cons_of_mem _ he, qq⟩)
/-- into the suite -/
theorem Caught.enter (c : Caught X pins a B m σ H cls d ps t) (hf : X.env.frame = some X.env.locals) (xe : Value → Shared → Prop) : ∃ oe, Zk cls d ps oe ∧ (∃ vs, oe.data = .fields vs) ∧ Inv (sx X a ((a, oe) :: (ps ++ (X.pn ++ pins))) xe) [] σ H t ∧ Hot (sx X a ((a, oe) :: (ps ++ (X.pn ++ pins))) xe) (a, oe) ps := by
  obtain ⟨oe, hz, ⟨vs, hd⟩, hn, hp⟩ := c.pin hf
  have I := c.inv
  have ok := I.ok
  obtain ⟨ctx, z1, z2⟩ := hz.2.2 vs hd
  refine ⟨oe, hz, ⟨vs, hd⟩, ⟨⟨ok.mod, ok.kind, ok.glob, ok.blt, ok.above, ok.inj, ok.has, ok.cab, (fun z => absurd (show false = true from z) Bool.false_ne_true), ok.frames, ok.stk, ok.exf, ok.bs, ok.bsz, ok.noex, ok.exfs, ok.funs, ok.frf⟩,
    I.os, I.bare, I.base, I.loc, I.cell, I.free, I.freeC, fun q hq => ?_, I.hok, I.len⟩, ⟨rfl, ⟨rfl, vs, ctx, hd, z1, z2⟩, ?_, fun q hq => ?_, fun q hq => ?_⟩⟩
  · rw [List.append_nil] at hq
    rcases List.mem_cons.mp hq with e | hq
    · obtain ⟨k1, k2, k3, k4, ws, k5⟩ := hp q (e ▸ List.mem_cons_self ..)
      exact ⟨k1, k2, k3, k4, fun v z => by cases k5.symm.trans z⟩
    · rcases List.mem_append.mp hq with e | e
      · obtain ⟨k1, k2, k3, k4, ws, k5⟩ := hp q (List.mem_cons_of_mem _ e)
        exact ⟨k1, k2, k3, k4, fun v z => by cases k5.symm.trans z⟩
      · exact I.pin q e
  · rw [List.map_cons, List.nodup_cons]
    exact ⟨hn, c.ck.nd⟩
  · obtain ⟨_, _, _, _, k⟩ := hp q hq
    exact k
  · rcases List.mem_cons.mp hq with e | e
    · exact e ▸ List.mem_cons_self ..
    · exact List.mem_cons_of_mem _ (List.mem_append_left _ e)
/-- out of the suite -/
theorem unsx {oe : Obj} {pn' : List Pin} {xe : Value → Shared → Prop} (I : Inv (sx X a ((a, oe) :: (ps ++ (X.pn ++ pins))) xe) pn' σ H t) (ok : X.Ok) : Inv X pins σ H t :=
  ⟨ok, I.os, I.bare, I.base, I.loc, I.cell, I.free, I.freeC, fun q hq => I.pin q (List.mem_append_left _ (List.mem_cons_of_mem _ (List.mem_append_right _ hq))), I.hok, I.len⟩
/-- from the air to the first look at the clauses -/
theorem XE.caught {W : WX} {xe : Value → Shared → Prop} {u : Value} {Q : Flow → Shared → Prop} {E : Value → Shared → Prop} {hds : List ExceptHandler} (ok : X.Ok) (hs : X.stack = X.env :: X.outer) (hf : X.env.frame = some X.env.locals) (x : XE (X.tr (X.pn ++ pins) xe) W u t)
    (k : ∀ a B m σ H cls d ps z, u = .ref a → Caught X pins a B m σ H cls d ps z → W cls d σ H → wpAny (model X.prog X.w) X.A (handleBy (.ref a) X.env hds) Q E z) :
    wpAny (model X.prog X.w) X.A (noteFrame u X.env) (fun _ s₂ => wpAny (model X.prog X.w) X.A (setFlight u none) (fun _ s₃ => wpAny (model X.prog X.w) X.A (handleBy u X.env hds) Q E s₃) E s₂) E t := by
  obtain ⟨a, B, m, pins', σ', H', cls, d, ps, rfl, J', nb, up, sky, ck, na, os, ag, w⟩ := x
  have J : Inv X pins σ' H' m := J'.ofTry ok
  have sky' : Sky B (X.env :: X.outer) a (Zk cls d ps) X.env.locals t.heap := by rw [← hs]; exact sky
  exact land (hs ▸ ok.frames) hf sky' fun h3 fl3 up3 => k a B m σ' H' cls d ps _ rfl ⟨J, nb, up.trans up3, fl3, ck, na, os, ag⟩ w
/-- no clause is left: it flies on -/
theorem Caught.on {W : WX} {D : Ends} (c : Caught X pins a B m σ H cls d ps t) (hs : X.stack = X.env :: X.outer) (hf : X.env.frame = some X.env.locals) (tk : Takes X W) (w : W cls d σ H) : wpAny (model X.prog X.w) X.A (handleBy (.ref a) X.env []) (SP X pins D) X.xe t := by
  refine wpAny_handleBy_nil ?_
  obtain ⟨k1, k2, k3, oe, vs, T, oT, ts', he, hz, hd, h1, hr⟩ := id c.fl
  unfold PySem.passOn
  refine wpAny_bind (wpAny_field he hd h1 ?_)
  rw [if_neg (show ¬ ((Value.ref T == Value.none) = true) from by simp)]
  have fin : wpAny (model X.prog X.w) X.A (setFlight (.ref a) X.env.frame) (fun _ z => wpAny (model X.prog X.w) X.A (throw (.ref a) : Sem Flow) (SP X pins D) X.xe z) X.xe t := by
    rw [hf]
    refine HandSPX.setFlight_upZ c.fl fun h4 hh4 up4 => wpAny_throw (tk _ _ ?_)
    exact ⟨a, B, m, pins, σ, H, cls, d, ps, rfl, c.J, c.nb, c.up.trans up4, .inr (.inr (by rw [hs]; exact hh4)), c.ck, c.na, c.os, c.ag, w⟩
  first
    | exact wpAny_bind (wpAny_pure (wpAny_bind fin))
    | exact wpAny_bind fin
/-- the clause's class is looked at -/
theorem Caught.test {x : Str} {c : Value} {np : Pos} {b : Bool} {E' : Value → Shared → Prop} {Q : Bool → Shared → Prop} (k : Caught X pins a B m σ H cls d ps t) (hf : X.env.frame = some X.env.locals) (hc : Names X x c) (hb : PySem.W.exmOne X.K cls c = some b) (q : Q b t) :
    wpAny (model X.prog X.w) (X.A.mark (some (.ref a))) (eval (.Name x np) X.env) (fun v z => wpAny (model X.prog X.w) (X.A.mark (some (.ref a))) (excMatches (.ref a) v) Q E' z) E' t := by
  obtain ⟨oe, hz, _, I, _⟩ := k.enter hf fun _ _ => False
  obtain ⟨oe3, vs3, he3, hz3, hd3⟩ := k.fl.there
  have LT : PySem.W.Looks (model X.prog X.w) t.heap (typeOf (.ref a)) cls := fun _ _ _ _ k' q' => wpAny_typeOf_ref (k' _ _ he3) (by rw [hz3.1]; exact q')
  have LM := PySem.W.exm_one (M := model X.prog X.w) (k.inv.kIn) LT hb
  obtain ⟨hg, hdbg, hm | ⟨hm, hv, hnn⟩⟩ := hc
  · exact ld_glob (X := sx X a ((a, oe) :: (ps ++ (X.pn ++ pins))) fun _ _ => False) I hg hm (LM.here q) hdbg
  · exact ld_blt (X := sx X a ((a, oe) :: (ps ++ (X.pn ++ pins))) fun _ _ => False) I hg hm hv (LM.here q) hnn hdbg
end
end XK
end

section
set_option Elab.async false
set_option linter.all false
set_option autoImplicit false
set_option maxRecDepth 100000
set_option maxHeartbeats 4000000
namespace XK
open PySem PySem.Spec PyProof.Rows L2
section
variable {X : Cx} {x n : Str} {c : Value} {i : Nat} {body suite orelse : List Stmt} {b₀ : Stmt} {np pos pos' : Pos} {tb : WX → TS} {u : TS} {Wout : WX}
/-- what the clause 'except x' wishes; the suite's reading by the exception's place and class -/
def wR (K : PySem.W.Frag) (c : Value) (ts : Addr → Value → Option Addr → TS) (Wout : WX) (D : Ends) : WX := fun cls d σ H =>
  ∃ b, PySem.W.exmOne K cls c = some b ∧ (b = true → ∀ a, H a = none → ts a cls d D σ H) ∧ (b = false → Wout cls d σ H)
/-- the body's end: the else part, or what it wished -/
theorem tail_ok {pins : List Pin} {xe : Value → Shared → Prop} {D : Ends} (ho : PSs X orelse u) (ok : X.Ok) {f : Flow} {s1 : Shared} (hsp : SP (X.tr (X.pn ++ pins) xe) [] { D with nx := u D } f s1) :
    (f = .next → wpAny (model X.prog X.w) X.A (execs orelse X.env) (SP X pins D) X.xe s1) ∧ (f ≠ .next → SP X pins D f s1) := by
  refine ⟨fun e => ?_, fun ne => ?_⟩
  · subst e
    obtain ⟨σ', H', J, q⟩ := hsp
    exact ho.run pins s1 σ' H' D (J.ofTry ok) q
  cases f with
  | next => exact absurd rfl ne
  | brk =>
    obtain ⟨σ', H', J, q⟩ := hsp
    exact ⟨σ', H', J.ofTry ok, q⟩
  | cont =>
    obtain ⟨σ', H', J, q⟩ := hsp
    exact ⟨σ', H', J.ofTry ok, q⟩
  | ret v =>
    obtain ⟨v', σ', H', J, r, q⟩ := hsp
    exact ⟨v', σ', H', J.ofTry ok, r, q⟩
/-- one clause without a name; its suite may raise -/
theorem ps_tryR {ts : Addr → Value → Option Addr → TS} (ho : PSs X orelse u) (hs : X.stack = X.env :: X.outer) (hf : X.env.frame = some X.env.locals) (hc : Names X x c) (hpa : ∀ hd : Option Value, PassesOwnAt (model X.prog X.w) (X.A.mark hd) X.A X.env X.xe) (tk : Takes X Wout)
    (hb : ∀ (W : WX) (pn : List Pin) (xe : Value → Shared → Prop), Takes (X.tr pn xe) W → PassesOwn (model X.prog X.w) X.A X.env xe → PSs (X.tr pn xe) body (tb W))
    (hsu : ∀ (a : Addr) (oe : Obj) (cls : Value) (d : Option Addr) (ps pn : List Pin), Zk cls d ps oe → (∃ vs, oe.data = .fields vs) → Takes (sx X a ((a, oe) :: pn) X.xe) Wout → Hot (sx X a ((a, oe) :: pn) X.xe) (a, oe) ps →
      PSs (sx X a ((a, oe) :: pn) X.xe) (b₀ :: suite) (ts a cls d)) :
    PS X (.Try body [.ExceptHandler (some (.Name x np)) none (b₀ :: suite) pos'] orelse [] pos) (fun D σ H => tb (wR X.K c ts Wout D) { D with nx := u D } σ H) := by
  refine ⟨fun pins s σ H D I h => ?_⟩
  have ok := I.ok
  refine wpAny_Try_except (wpAny_mono ((hb (wR X.K c ts Wout D) (X.pn ++ pins) _ (fun v t xx => XE.caught (pins := pins) (hds := [.ExceptHandler (some (.Name x np)) none (b₀ :: suite) pos']) (Q := SP X pins D) (E := X.xe) ok hs hf xx fun a B m σ' H' cls d ps z e cg w => ?_) PassesOwn.looking).run [] s σ H { D with nx := u D } (I.toTry _) h) (fun f s1 hsp => by
    have z := tail_ok ho ok hsp
    cases f with
    | next => exact z.1 rfl
    | brk => exact z.2 (fun e => nomatch e)
    | cont => exact z.2 (fun e => nomatch e)
    | ret v => exact z.2 (fun e => nomatch e)) fun e s1 he => he)
  obtain ⟨b, hb1, hyes, hno⟩ := w
  refine wpAny_handleBy_cons (codeAny_handlers_test (cg.test hf hc hb1 ?_)) (by intro q; cases q)
  cases b with
  | false => exact cg.on hs hf tk (hno rfl)
  | true =>
    refine codeAny_handlers_suite (HandSPX.lands_againZ cg.fl fun h4 fl4 up4 => ?_)
    have cg4 := cg.step fl4 up4
    obtain ⟨oe, hz, hd, S, hot⟩ := cg4.enter hf X.xe
    have tkS : Takes (sx X a ((a, oe) :: (ps ++ (X.pn ++ pins))) X.xe) Wout := fun v t xx => by
      obtain ⟨a2, B2, m2, pn2, σ2, H2, cls2, d2, ps2, e1, I2, e3, e4, e5, e6, e7, e8, e9, w2⟩ := xx
      exact tk v t ⟨a2, B2, m2, pins, σ2, H2, cls2, d2, ps2, e1, unsx I2 ok, e3, e4, e5, e6, e7, e8, e9, w2⟩
    refine wpAny_mono ((hsu a oe cls d ps (ps ++ (X.pn ++ pins)) hz hd tkS hot).run [] _ _ H' _ S (hyes rfl a cg4.na)) (fun f s6 hsp => ?_) (fun e6 s6 z => hpa (some (.ref a)) e6 s6 z)
    cases f with
    | next =>
      obtain ⟨σ6, H6, S6, q6⟩ := hsp
      exact ⟨_, _, unsx S6 ok, q6⟩
    | brk =>
      obtain ⟨σ6, H6, S6, q6⟩ := hsp
      exact ⟨_, _, unsx S6 ok, q6⟩
    | cont =>
      obtain ⟨σ6, H6, S6, q6⟩ := hsp
      exact ⟨_, _, unsx S6 ok, q6⟩
    | ret v =>
      obtain ⟨v6, σ6, H6, S6, r6, q6⟩ := hsp
      exact ⟨_, _, _, unsx S6 ok, r6, q6⟩
/-- what the clause 'except x as n' wishes: n's slot i holds the exception, and is emptied behind the suite -/
def wN (K : PySem.W.Frag) (c : Value) (i : Nat) (ts : Addr → Value → Option Addr → TS) (Wout : WX) (D : Ends) : WX := fun cls d σ H =>
  ∃ b, PySem.W.exmOne K cls c = some b ∧ (b = true → ∀ a, H a = none → ts a cls d { nx := fun σ' H' => D.nx (σ'.set i none) H', rt := D.rt, bk := fun σ' H' => D.bk (σ'.set i none) H', ct := fun σ' H' => D.ct (σ'.set i none) H' } (σ.set i (some (.ref a))) H) ∧
    (b = false → Wout cls d σ H)
/-- one clause with a name; its suite lets nothing out -/
theorem ps_tryN {ts : Addr → Value → Option Addr → TS} (ho : PSs X orelse u) (hs : X.stack = X.env :: X.outer) (hf : X.env.frame = some X.env.locals) (hN : X.N.Nodup) (hi : X.N[i]? = some n) (hln : X.env.kindOf n = some .local) (hc : Names X x c) (tk : Takes X Wout)
    (hb : ∀ (W : WX) (pn : List Pin) (xe : Value → Shared → Prop), Takes (X.tr pn xe) W → PassesOwn (model X.prog X.w) X.A X.env xe → PSs (X.tr pn xe) body (tb W))
    (hsu : ∀ (a : Addr) (oe : Obj) (cls : Value) (d : Option Addr) (ps pn : List Pin), Zk cls d ps oe → (∃ vs, oe.data = .fields vs) → PSs (sx X a ((a, oe) :: pn) fun _ _ => False) (b₀ :: suite) (ts a cls d)) :
    PS X (.Try body [.ExceptHandler (some (.Name x np)) (some n) (b₀ :: suite) pos'] orelse [] pos) (fun D σ H => tb (wN X.K c i ts Wout D) { D with nx := u D } σ H) := by
  refine ⟨fun pins s σ H D I h => ?_⟩
  have ok := I.ok
  have hloc : Loc X.env.scope n := .inl hln
  refine wpAny_Try_except (wpAny_mono ((hb (wN X.K c i ts Wout D) (X.pn ++ pins) _ (fun v t xx => XE.caught (pins := pins) (hds := [.ExceptHandler (some (.Name x np)) (some n) (b₀ :: suite) pos']) (Q := SP X pins D) (E := X.xe) ok hs hf xx fun a B m σ' H' cls d ps z e cg w => ?_) PassesOwn.looking).run [] s σ H { D with nx := u D } (I.toTry _) h) (fun f s1 hsp => by
    have z := tail_ok ho ok hsp
    cases f with
    | next => exact z.1 rfl
    | brk => exact z.2 (fun e => nomatch e)
    | cont => exact z.2 (fun e => nomatch e)
    | ret v => exact z.2 (fun e => nomatch e)) fun e s1 he => he)
  obtain ⟨b, hb1, hyes, hno⟩ := w
  refine wpAny_handleBy_cons (codeAny_handlers_test (cg.test hf hc hb1 ?_)) (by intro q; cases q)
  cases b with
  | false => exact cg.on hs hf tk (hno rfl)
  | true =>
    refine codeAny_handlers_suite_as (HandSPX.lands_againZ cg.fl fun h4 fl4 up4 => ?_)
    have cg4 := cg.step fl4 up4
    obtain ⟨oe, hz, hd, S, hot⟩ := cg4.enter hf fun _ _ => False
    refine store_ok (X := sx X a ((a, oe) :: (ps ++ (X.pn ++ pins))) fun _ _ => False) (v := .ref a) S hN hi hloc rfl (fun s5 S5 => ?_) (.inr hln)
    refine wpAny_mono ((hsu a oe cls d ps (ps ++ (X.pn ++ pins)) hz hd).run [] s5 _ H' _ S5 (hyes rfl a cg4.na)) (fun f s6 hsp => ?_) (fun _ _ z => False.elim z)
    have bye : ∀ {σ6 : L2.St} {H6 : Hp} {Q : Shared → Prop}, Inv (sx X a ((a, oe) :: (ps ++ (X.pn ++ pins))) fun _ _ => False) [] σ6 H6 s6 → (∀ s7, Inv X pins (σ6.set i none) H6 s7 → Q s7) →
        wpAny (model X.prog X.w) X.A (do bindName X.env n .none; unbindBehindTheSuite X.env n pos') (fun _ s7 => Q s7) X.xe s6 := fun {σ6 H6 Q} S6 hq => gone_ok (unsx S6 ok) hN hi hln hq
    cases f with
    | next =>
      obtain ⟨σ6, H6, S6, q6⟩ := hsp
      exact bye S6 fun s7 J7 => ⟨_, _, J7, q6⟩
    | brk =>
      obtain ⟨σ6, H6, S6, q6⟩ := hsp
      exact bye S6 fun s7 J7 => ⟨_, _, J7, q6⟩
    | cont =>
      obtain ⟨σ6, H6, S6, q6⟩ := hsp
      exact bye S6 fun s7 J7 => ⟨_, _, J7, q6⟩
    | ret v =>
      obtain ⟨v6, σ6, H6, S6, r6, q6⟩ := hsp
      exact bye S6 fun s7 J7 => ⟨_, _, _, J7, r6, q6⟩
end
end XK
end

section
set_option Elab.async false
set_option linter.all false
set_option autoImplicit false
set_option maxRecDepth 100000
set_option maxHeartbeats 4000000
/-! try .. except; the exception that a suite holds; defs that it is handed to. -/
namespace DL
open PySem PySem.Spec PyProof.Rows L2
/-! ### what a callee lets out; raise -/
theorem passFK {X : Cx} (σ : L2.St) : PassesAt (XK.CX X.prog X.w) X σ (WE WF σ) := fun pins H s e s' I h => by
  obtain ⟨_, _, _, _, _, _, _, _, _, _, _, _, _, _, z⟩ := h
  exact z.elim
theorem passK {X : Cx} {W : WX} (tk : XK.Takes X W) (σ : L2.St) : PassesAt (XK.CX X.prog X.w) X σ (WE W σ) := fun pins H s e s' I h => tk _ _ (XK.XE.of_call I (fun _ _ _ z => z) h)
section
variable {X : Cx} {T : Tb} {W : WX} {pos : Pos}
theorem ds_raiseK {c : Nat} {C : Addr} {bmB : List Value} {B newId initId : String} {x m : Str} {j : Nat} {p p2 pos2 : Pos} (hX : T.XA c = C) (hc : X.calm = true) (tk : XK.Takes X W) (F : ExcBaseFacts B newId initId bmB) (q : PySem.W.excIn X.K C bmB newId = true) (gC : X.mg x = some (.ref C)) (kC : PySem.W.keepIn X.K (.ref C) = true) (r : Raises X (.ref C)) (hg : Gl X x)
    (hdb : (x == ("__debug__" : Str)) = false := by decide) : PS X (.Raise (some (.Call (.Name x p) [.Constant (.str m) j p2] [] pos2)) none pos) (rdS X.K T W (fRaise c)) :=
  PSimp (XK.ps_raise hc tk (L2N.pmk_own F q gC kC r hg hdb)) fun D σ H ⟨F0, G, F, δ, E, h⟩ => by
    subst hX
    exact h σ F H E (Exn.refl _)
theorem ds_raiseH {c : Nat} {C : Addr} {bmB : List Value} {B newId initId : String} {x m : Str} {j : Nat} {p p2 pos2 : Pos} {q1 : XK.Pin} {qs : List XK.Pin} (hX : T.XA c = C) (hot : XK.Hot X q1 qs) (tk : XK.Takes X W) (F : ExcBaseFacts B newId initId bmB) (q : PySem.W.excIn X.K C bmB newId = true) (gC : X.mg x = some (.ref C)) (kC : PySem.W.keepIn X.K (.ref C) = true) (r : Raises X (.ref C)) (hg : Gl X x)
    (hdb : (x == ("__debug__" : Str)) = false := by decide) : PS X (.Raise (some (.Call (.Name x p) [.Constant (.str m) j p2] [] pos2)) none pos) (rdS X.K T W (fRaise c)) :=
  PSimp (XK.ps_raiseHot hot tk (L2N.pmk_own F q gC kC r hg hdb)) fun D σ H ⟨F0, G, F, δ, E, h⟩ => by
    subst hX
    exact h σ F H E (Exn.refl _)
end
/-! ### the classes of exceptions -/
/-- is one of the class number c one of C's (0: HouseError, 15: ValueError) -/
def isX (c C : Nat) : Bool := C == 15 || C == 0 || c == C
/-- the class number C as isinstance gets it -/
def clsX (T : Tb) (C : Nat) : Value := if C = 15 then .type "ValueError" else .ref (T.XA C)
/-- what the text's exception classes must say: us are raised, cs stand in clauses, is are asked for -/
structure XOk (K : PySem.W.Frag) (T : Tb) (us cs is : List Nat) : Prop where
  m : ∀ c ∈ us, ∀ C ∈ cs, PySem.W.exmOne K (.ref (T.XA c)) (.ref (T.XA C)) = some (isX c C)
  i : ∀ c ∈ us, ∀ C ∈ is, PySem.W.kitOne K (.ref (T.XA c)) (clsX T C) = some (isX c C)
  x : ∀ c ∈ us, is ≠ [] → ExcC K (T.XA c)
def clauseK (us : List Nat) (C : Nat) (c : Nat) : Option Bool := if c ∈ us then some (isX c C) else none
theorem clauseK_ok {K : PySem.W.Frag} {T : Tb} {us cs is : List Nat} {C : Nat} (h : XOk K T us cs is) (hC : C ∈ cs) : ∀ n b, clauseK us C n = some b → PySem.W.exmOne K (.ref (T.XA n)) (.ref (T.XA C)) = some b := fun n b e => by
  unfold clauseK at e
  split at e
  · rename_i m
    rw [h.m n m C hC]
    exact e
  · cases e
/-! ### try -/
section
variable {K : PySem.W.Frag} {T : Tb}
/-- a suite without a name; e is the else part -/
def fTryR (k : Nat → Option Bool) (b h e : FS) : FS := fun δ => match b δ with
  | .ex c δ' => (match k c with
    | some true => h δ'
    | some false => .ex c δ'
    | none => .bad)
  | .nx δ' => e δ'
  | r => r
theorem SEnd.nx {W W' : WX} {F0 G F F' H' : Hp} {σ : L2.St} {D : Ends} {δ : DL.Env} {e : FS} (h : SEnd K T W F0 G F D (e δ)) (E : EnvR K T F0 G F' H' σ δ) (p : Exn F F') : rdS K T W e D σ H' := ⟨F0, G, F', δ, E, SEnd.later p h⟩
theorem ds_tryR {X : Cx} {Wout : WX} {body suite orelse : List Stmt} {b₀ : Stmt} {x : Str} {c : Value} {np pos' pos : Pos} {k : Nat → Option Bool} {fb fh fe : FS} (hs : X.stack = X.env :: X.outer) (hf : X.env.frame = some X.env.locals) (hpa : ∀ hd : Option Value, PassesOwnAt (model X.prog X.w) (X.A.mark hd) X.A X.env X.xe) (tk : XK.Takes X Wout) (hc : Names X x c)
    (hk : ∀ n b, k n = some b → PySem.W.exmOne X.K (.ref (T.XA n)) c = some b)
    (hb : ∀ (W : WX) (pn : List XK.Pin) (xe : Value → Shared → Prop), XK.Takes (X.tr pn xe) W → PassesOwn (model X.prog X.w) X.A X.env xe → PSs (X.tr pn xe) body (rdS X.K T W fb))
    (hh : ∀ (a : Addr) (oe : Obj) (ps pn : List XK.Pin), XK.Takes (XK.sx X a ((a, oe) :: pn) X.xe) Wout → XK.Hot (XK.sx X a ((a, oe) :: pn) X.xe) (a, oe) ps → PSs (XK.sx X a ((a, oe) :: pn) X.xe) (b₀ :: suite) (rdS X.K T Wout fh))
    (he : PSs X orelse (rdS X.K T Wout fe)) :
    PS X (.Try body [.ExceptHandler (some (.Name x np)) none (b₀ :: suite) pos'] orelse [] pos) (rdS X.K T Wout (fTryR k fb fh fe)) := by
  refine PSimp (XK.ps_tryR (tb := fun W => rdS X.K T W fb) (ts := fun _ _ _ => rdS X.K T Wout fh) he hs hf hc hpa tk hb fun a oe _ _ ps pn _ _ t ho => hh a oe ps pn t ho) fun D σ H ⟨F0, G, F, δ, E, h⟩ => ⟨F0, G, F, δ, E, ?_⟩
  unfold fTryR at h
  cases q : fb δ with
  | ex n δ' =>
    rw [q] at h
    dsimp only at h
    intro σ' F' H' E' e'
    cases q2 : k n with
    | none => rw [q2] at h; exact h.elim
    | some b =>
      rw [q2] at h
      refine ⟨b, hk n b q2, fun hb a _ => ?_, fun hb => ?_⟩
      · subst hb
        exact ⟨F0, G, F', δ', E', SEnd.later e' h⟩
      · subst hb
        exact h σ' F' H' E' e'
  | nx z => rw [q] at h; exact fun σ' F' H' E' e' => SEnd.nx (W' := Wout) h E' e'
  | rt z => rw [q] at h; exact h
  | bk z => rw [q] at h; exact h
  | ct z => rw [q] at h; exact h
  | bad => rw [q] at h; exact h
/-- an end behind a suite whose name's slot is i -/
def endN (i : Nat) : Out → Out
  | .nx δ => .nx (δ.set i .no)
  | .bk δ => .bk (δ.set i .no)
  | .ct δ => .ct (δ.set i .no)
  | .rt s => .rt s
  | _ => .bad
noncomputable def uniO (phi : Addr → Out) : Out := open Classical in if h : ∃ r, ∀ a, phi a = r then h.choose else .bad
theorem uniO_eq {phi : Addr → Out} {r : Out} (h : ∀ a, phi a = r) : uniO phi = r := by
  have e : ∃ r, ∀ a, phi a = r := ⟨r, h⟩
  unfold uniO
  rw [dif_pos e, ← e.choose_spec 0, h]
theorem uniO_of {phi : Addr → Out} (a : Addr) (h : uniO phi ≠ .bad) : phi a = uniO phi := by
  unfold uniO at h ⊢
  by_cases e : ∃ r, ∀ a, phi a = r
  · rw [dif_pos e]
    exact e.choose_spec a
  · rw [dif_neg e] at h
    exact absurd rfl h
noncomputable def fTryN (k : Nat → Option Bool) (i : Nat) (b : FS) (h : Addr → Nat → FS) (e : FS) : FS := fun δ => match b δ with
  | .ex c δ' => (match k c with
    | some true => uniO fun a => endN i (h a c (δ'.set i (.sh (.exc a))))
    | some false => .ex c δ'
    | none => .bad)
  | .nx δ' => e δ'
  | r => r
theorem PSsEx {X : Cx} {body : List Stmt} {α : Type} {p : α → Prop} {t : α → TS} (h : ∀ z, p z → PSs X body (t z)) : PSs X body (fun D σ H => ∃ z, p z ∧ t z D σ H) := ⟨fun pins s σ H D I ⟨z, hz, q⟩ => (h z hz).run pins s σ H D I q⟩
/-- a named suite holds an exception of the class at D, at a -/
def PinX (X : Cx) (a D : Addr) : Prop := ∃ oe : Obj, (a, oe) ∈ X.pn ∧ oe.cls = .ref D ∧ oe.dict = none ∧ ∃ vs, oe.data = .fields vs
theorem ds_tryN {X : Cx} {Wout : WX} {body suite orelse : List Stmt} {b₀ : Stmt} {x n : Str} {i : Nat} {c : Value} {np pos' pos : Pos} {k : Nat → Option Bool} {fb fe : FS} {fh : Addr → Nat → FS} (hs : X.stack = X.env :: X.outer) (hf : X.env.frame = some X.env.locals) (hN : X.N.Nodup) (hi : X.N[i]? = some n) (hln : X.env.kindOf n = some .local) (tk : XK.Takes X Wout) (hc : Names X x c)
    (hk : ∀ n b, k n = some b → PySem.W.exmOne X.K (.ref (T.XA n)) c = some b)
    (hb : ∀ (W : WX) (pn : List XK.Pin) (xe : Value → Shared → Prop), XK.Takes (X.tr pn xe) W → PassesOwn (model X.prog X.w) X.A X.env xe → PSs (X.tr pn xe) body (rdS X.K T W fb))
    (hh : ∀ (a : Addr) (m : Nat) (pn : List XK.Pin), PinX (XK.sx X a pn fun _ _ => False) a (T.XA m) → PSs (XK.sx X a pn fun _ _ => False) (b₀ :: suite) (rdS X.K T WF (fh a m)))
    (he : PSs X orelse (rdS X.K T Wout fe)) :
    PS X (.Try body [.ExceptHandler (some (.Name x np)) (some n) (b₀ :: suite) pos'] orelse [] pos) (rdS X.K T Wout (fTryN k i fb fh fe)) := by
  refine PSimp (XK.ps_tryN (i := i) (tb := fun W => rdS X.K T W fb) (ts := fun a cls d D σ H => ∃ m : Nat, (cls = .ref (T.XA m) ∧ d = none) ∧ rdS X.K T WF (fh a m) D σ H) he hs hf hN hi hln hc tk hb fun a oe cls d ps pn hz hd => PSsEx fun m hm => hh a m _ ⟨oe, List.mem_cons_self .., hz.1.trans hm.1, hz.2.1.trans hm.2, hd⟩)
    fun D σ H ⟨F0, G, F, δ, E, h⟩ => ⟨F0, G, F, δ, E, ?_⟩
  unfold fTryN at h
  cases q : fb δ with
  | ex m δ' =>
    rw [q] at h
    dsimp only at h
    intro σ' F' H' E' e'
    cases q2 : k m with
    | none => rw [q2] at h; exact h.elim
    | some b =>
      rw [q2] at h
      refine ⟨b, hk m b q2, fun hb a _ => ?_, fun hb => ?_⟩
      · subst hb
        dsimp only at h
        refine ⟨m, ⟨rfl, rfl⟩, F0, G, F', _, E'.setD (i := i) (.exc a), ?_⟩
        have nb : uniO (fun a => endN i (fh a m (δ'.set i (.sh (.exc a))))) ≠ .bad := fun z => by rw [z] at h; exact h
        rw [← uniO_of a nb] at h
        cases q3 : fh a m (δ'.set i (.sh (.exc a))) with
        | nx z =>
          rw [q3] at h
          exact fun σ2 F2 H2 E2 e2 => h _ F2 H2 E2.setN (Exn.trans e' e2)
        | bk z =>
          rw [q3] at h
          exact fun σ2 F2 H2 E2 e2 => h _ F2 H2 E2.setN (Exn.trans e' e2)
        | ct z =>
          rw [q3] at h
          exact fun σ2 F2 H2 E2 e2 => h _ F2 H2 E2.setN (Exn.trans e' e2)
        | rt s =>
          rw [q3] at h
          exact h
        | ex c z => rw [q3] at h; exact h.elim
        | bad => rw [q3] at h; exact h.elim
      · subst hb
        exact h σ' F' H' E' e'
  | nx z => rw [q] at h; exact fun σ' F' H' E' e' => SEnd.nx (W' := Wout) h E' e'
  | rt z => rw [q] at h; exact h
  | bk z => rw [q] at h; exact h
  | ct z => rw [q] at h; exact h
  | bad => rw [q] at h; exact h
end
end DL
end

section
set_option Elab.async false
set_option linter.all false
set_option autoImplicit false
set_option maxRecDepth 100000
set_option maxHeartbeats 4000000
/-! isinstance of the held exception; a list's count; defs that it is handed to. -/
namespace DL
open PySem PySem.Spec PyProof.Rows L2
theorem call_isX {X : Cx} {a D : Addr} (C : ExcC X.K D) (h : PinX X a D) : CallR X (.builtin "isinstance") (rIsE X.K D a) := by
  intro pins s σ H xs us Q I r hh
  obtain ⟨c, cv, b, rfl, hcv, e, q⟩ := hh
  obtain ⟨oe, hm, hc, hd, vs, hv⟩ := h
  cases r with
  | cons rx rr =>
    cases rr with
    | cons rt rr =>
      cases rr
      cases rx
      cases hcv _ rt
      have get := (I.pin (a, oe) (List.mem_append_left _ hm)).1
      have J : PySem.W.InstAt s.heap a oe D none := by
        obtain ⟨oc, od, oda, osl⟩ := oe
        dsimp only at hc hd hv
        subst hc hd hv
        exact ⟨get, rfl, rfl, trivial⟩
      exact PySem.W.kia_one (PySem.W.handS_kitx_exc C.hg C.hk C.hs C.hd C.ha C.hn C.ht C.hm) I.kIn J e (fun z => nomatch z) fun tk => ⟨.bl b, H, I.kept (t' := tk) fun _ _ z => z, rfl, q⟩
/-- isinstance(e, C), e the exception at a of the class number m -/
def fIsX (us is : List Nat) (a : Addr) (m C : Nat) (fe : DL.Env → Res SV) : DL.Env → Res SV := fun δ => (fe δ).bind fun s => match s with
  | .sh (.exc b) => if b = a ∧ m ∈ us ∧ C ∈ is then .ok (.sh (.bl (isX m C))) else .bad
  | _ => .bad
section
variable {X : Cx} {T : Tb} {W : WX} {pos : Pos}
/-- the class as the call's second part -/
inductive ClsE (X : Cx) (T : Tb) (C : Nat) : Expr → Prop
  | own {x : Str} {p : Pos} (hC : C ≠ 15) (hg : Gl X x) (hm : X.mg x = some (.ref (T.XA C))) (hd : (x == ("__debug__" : Str)) = false) : ClsE X T C (.Name x p)
  | ve {p : Pos} (hC : C = 15) (hg : Gl X "ValueError") (hm : X.mg "ValueError" = none) : ClsE X T C (.Name "ValueError" p)
def clsV (T : Tb) (C : Nat) : V := if C = 15 then .ty "ValueError" else .ref (T.XA C)
theorem ClsE.pe {C : Nat} {e : Expr} (h : ClsE X T C e) : PE X e (tC (clsV T C)) := by
  cases h with
  | own hC hg hm hd =>
    have e : clsV T C = .ref (T.XA C) := if_neg hC
    rw [e]
    exact pe_glob (v := .ref (T.XA C)) hg hm rfl hd
  | ve hC hg hm =>
    have e : clsV T C = .ty "ValueError" := if_pos hC
    rw [e]
    exact pe_bltn (v := .ty "ValueError") hg hm (by decide +kernel) rfl (by decide) (by decide)
theorem clsV_rel {C : Nat} (u : Value) (r : RelV (clsV T C) u) : u = clsX T C := by
  unfold clsV at r
  unfold clsX
  by_cases h : C = 15
  · rw [if_pos h] at r ⊢; exact r
  · rw [if_neg h] at r ⊢; exact r
theorem de_isX {a : Addr} {m C : Nat} {us cs is : List Nat} {e eC : Expr} {fe : DL.Env → Res SV} {p : Pos} (hx : XOk X.K T us cs is) (hp : PinX X a (T.XA m)) (hg : Gl X "isinstance") (hm : X.mg "isinstance" = none) (hC : ClsE X T C eC) (he : PE X e (rd X.K T W fe))
    (hs : starEach [e, eC] X.env = (false, eval e X.env) :: starEach [eC] X.env := by rfl) (hs2 : starEach [eC] X.env = (false, eval eC X.env) :: starEach [] X.env := by rfl) (hpl : (backTo pos (starEach [eC] X.env)).any (·.1) = false := by rfl) :
    PE X (.Call (.Name "isinstance" p) [e, eC] [] pos) (rd X.K T W (fIsX us is a m C fe)) := by
  refine ⟨fun pins s σ H Q I ⟨F0, G, F, δ, E, h⟩ => ?_⟩
  by_cases ok : m ∈ us ∧ C ∈ is
  · have xc : ExcC X.K (T.XA m) := hx.x m ok.1 (fun z => by rw [z] at ok; exact nomatch ok.2)
    refine (pe_callB (call_isX xc hp) hg hm (by decide +kernel) (pa_cons he (pa_cons hC.pe pa_nil hs2) hs) (by decide) (by decide) hs hpl).run pins s σ H Q I ?_
    refine rd_bind E h fun v sv F' H' pp r h1 => ?_
    cases sv with
    | sh d =>
      cases d with
      | exc b =>
        dsimp only at h1
        split at h1
        · rename_i hb
          obtain ⟨hb, _, _⟩ := hb
          subst hb
          cases r
          exact ⟨clsV T C, clsX T C, isX m C, rfl, clsV_rel, hx.i m ok.1 C ok.2, h1 _ F' H' pp (.bl _)⟩
        · exact h1.elim
      | _ => exact h1.elim
    | _ => exact h1.elim
  · refine (pe_callB (id := "isinstance") (r := fun _ _ _ => False) (fun _ _ _ _ _ _ _ _ _ z => z.elim) hg hm (by decide +kernel) (pa_cons he (pa_cons hC.pe pa_nil hs2) hs) (by decide) (by decide) hs hpl).run pins s σ H Q I ?_
    refine rd_bind E h fun v sv F' H' pp r h1 => ?_
    cases sv with
    | sh d =>
      cases d with
      | exc b =>
        dsimp only at h1
        rw [if_neg (fun z => ok z.2)] at h1
        exact h1.elim
      | _ => exact h1.elim
    | _ => exact h1.elim
end
/-! ### count -/
def eqB (b : Bool) : Value → Bool
  | .bool c => c == b
  | _ => false
theorem countB {b : Bool} : ∀ {bs : List Bool} {its : List Value}, Vals (bs.map V.bl) its → its.countP (eqB b) = bs.count b
  | [], _, .nil => rfl
  | c :: bs, _, .cons r t => by
    cases r
    rw [List.countP_cons, List.count_cons, countB t]
    rfl
def rCntB (K : PySem.W.Frag) : V → List V → Hp → VK → Prop := fun x xs H Q => ∃ (p : Addr) (bs : List Bool) (b : Bool), x = .ref p ∧ xs = [.bl b] ∧ SqL K H p (bs.map V.bl) ∧ Q (.int (bs.count b : Nat)) H
theorem mt_countB {X : Cx} : MtR X "list.count" (rCntB X.K) := by
  intro pins s σ H x xs v us Q I rx rxs h
  obtain ⟨p, bs, b, rfl, rfl, hs, q⟩ := h
  cases rx
  obtain ⟨u, rfl, ru⟩ := rxs.one
  cases ru
  obtain ⟨its, rv, ⟨⟨cls, dd, data, sl⟩, n, ho, hc, hdn, hd⟩, hlen⟩ := I.list hs
  simp only at hc hd
  subst hc hd
  have key : ∀ y ∈ its.toArray, ∃ c, y = .bool c := fun y hy => by
    obtain ⟨i, hi, e⟩ := List.mem_iff_getElem.mp (show y ∈ its by simpa using hy)
    have hb : (bs.map V.bl)[i]? = some ((bs.map V.bl)[i]'(by rw [rv.length]; exact hi)) := List.getElem?_eq_getElem _
    obtain ⟨u, hu, ru⟩ := rv.get hb
    rw [List.getElem?_eq_getElem hi] at hu
    cases hu
    rw [List.getElem_map] at ru
    exact ⟨_, e.symm.trans ru⟩
  refine call_meets PySem.F.slot_list_count ⟨_, ho, rfl⟩ PySem.F.entry_list_count (PySem.F.args_list_count_2 _ _)
    (SeqAt.list_countAt p its.toArray n dd sl (.bool b) (eqB b)) ⟨ho, fun y hy => ?_, ?_⟩
  · obtain ⟨c, rfl⟩ := key y hy
    exact SeqAt.EqAt.bool_bool c b
  have ec : its.toArray.toList.countP (eqB b) = bs.count b := countB rv
  refine ⟨.int (bs.count b : Nat), H, I.tok _, ⟨s.toks, ?_⟩, q⟩
  show Value.int ((its.toArray.toList.countP (eqB b) : Nat) : Int) s.toks = Value.int ((bs.count b : Nat) : Int) s.toks
  rw [ec]
def mCountB : D → List D → Option SV
  | .lst ds, [.bl b] => (dBls ds).map fun bs => .sh (.int (bs.count b : Nat))
  | _, _ => none
theorem good_countB {K : PySem.W.Frag} {T : Tb} : GoodR K T (rCntB K) mCountB := fun F H x vs d ds s Q eh rx rs h k => by
  unfold mCountB at h
  split at h
  · rename_i es b
    obtain ⟨bs, e, rfl⟩ := Option.map_eq_some_iff.mp h
    obtain ⟨a, ws, rfl, h1, h2⟩ := rx
    cases rs with
    | cons r rr =>
      cases rr
      cases r
      cases h2.dBls e
      exact ⟨a, bs, b, rfl, rfl, SqL.of h1, k _ _ (gives_sh eh (.int _))⟩
  · cases h
/-! ### defs that the exception is handed to -/
/-- f keeps sp p while p is pinned; it lets nothing out -/
structure FnX (P : Program) (w : World) (K : PySem.W.Frag) (mg : Str → Option Value) (base : Heap) (k : Nat) (f : Addr) (fd : FuncData) (ps : List Str) (sp : XK.Pin → Sp) : Prop where
  len : ∀ p vs H Q E, sp p vs H Q E → vs.length = ps.length
  run : ∀ (A : Around) (outer : List PySem.Env) (s : Shared) (H : Hp) (args : Args) (us : List Value) (vs : List V) (Q : VK) (p : XK.Pin), L2H.RoomH k A → L2H.PinOk outer H s p → Env0 P w K mg base A outer s H → BindsTo s fd args (ps.zip us) → Vals vs us → sp p vs H Q (fun _ _ _ => False) →
    codeAny (model P w) A (.call (.ref f) args) (CR CX0 outer P w H s Q fun _ _ _ => False) s
theorem fnX_of {P : Program} {w : World} {K : PySem.W.Frag} {mg : Str → Option Value} {base : Heap} {k : Nat} {f : Addr} {name qual : Str} {params : Arguments} {body : List Stmt} {scope : Scope} {dV kV doc pm cdv ct oc : Value} {an od : Option Addr}
    {osl : Array (Option Value)} {N ps : List Str} {sp : XK.Pin → Sp} (lk : K.lookup f = some ⟨oc, od, .func (PySem.W.fnOf name qual params body scope dV kV doc pm an cdv ct), osl⟩) (hcd : PySem.W.codeIn K cdv qual = true) (S : FnScope N ps scope)
    (len : ∀ p vs H Q E, sp p vs H Q E → vs.length = ps.length)
    (go : ∀ (A : Around) (outer : List PySem.Env) (s : Shared) (H : Hp) (vs : List V) (Q : VK) (p : XK.Pin), L2H.RoomH k (A.deeper (envOfC qual scope s.heap.objs.size f cdv)) → sp p vs H Q (fun _ _ _ => False) →
      ∃ t, PSs (L2H.cxH CX0 P w K mg base N qual scope f cdv A outer s H (fun _ _ _ => False) p) body t ∧ t { nx := fun _ H' => Q .non H', rt := Q } (L2.start N vs) H) :
    FnX P w K mg base (k + 1) f (PySem.W.fnOf name qual params body scope dV kV doc pm an cdv ct) ps sp := by
  refine ⟨len, fun A outer s H args us vs Q p hr hpin e0 hb r hsp => ?_⟩
  have kIn : K.In s.heap := e0.mod.kin.keeps fun b o e => (e0.bs b o e).1
  have lim : s.heap.NoLimit := e0.mod.nolimit.keeps fun b o e => (e0.bs b o e).1
  have kind : ∀ y ∈ ps.zip us, scope.names.lookup y.1 = some .local ∨ (scope.names.lookup y.1 = some .cell ∧ ((cellsFrom (s.heap.objs.size + 1) scope.names []).lookup y.1).isSome = true) := fun ⟨n, v⟩ hy => by
    rcases S.par n (List.of_mem_zip hy).1 with q | q
    · exact .inl q
    · exact .inr ⟨q, PySem.W.cellsFrom_some _ _ _ (.inl q)⟩
  refine codeAny_call_function hr.depth (kIn _ _ lk) rfl S.co S.gen rfl (PySem.W.codeRec_of kIn hcd) (hb _ _ _ _ ?_)
  refine wpAny_newFunctionEnv_cells S.kind kind fun env he s1 x => ?_
  subst he
  obtain ⟨t, ht, hq⟩ := go A outer s H vs Q p (hr.deeper _) hsp
  have I := L2H.inv_startH (CX := CX0) (P := P) (w := w) (mg := mg) (base := base) (E := fun _ _ _ => False) S hpin e0 (len _ _ _ _ _ hsp) r x
  refine ⟨lim.keeps x.toInCall.keep, codeAny_func (wpAny_mono (ht.run [] s1 (L2.start N vs) H _ I hq) (fun fl s' hs => ?_) fun e s' hs => hs)⟩
  have bye : ∀ {σ' : L2.St} {H' : Hp} {v : V} {u : Value}, Inv (L2H.cxH CX0 P w K mg base N qual scope f cdv A outer s H (fun _ _ _ => False) p) [] σ' H' s' → RelV v u → Q v H' → CE outer P w H s Q u s' := fun {σ' H' v u} J rv q => ⟨v, H', J.os, J.bare, J.base, J.hok, rv, q⟩
  cases fl with
  | ret u =>
    obtain ⟨v, σ', H', J, rv, q⟩ := hs
    exact bye J rv q
  | next =>
    obtain ⟨σ', H', J, q⟩ := hs
    exact bye (v := V.non) (u := Value.none) J rfl q
  | brk => exact hs.elim fun _ h => h.elim fun _ h => False.elim h.2
  | cont => exact hs.elim fun _ h => h.elim fun _ h => False.elim h.2
section
variable {X : Cx} {k : Nat} {f : Addr} {fd : FuncData} {ps : List Str} {sp : XK.Pin → Sp} {x : Str} {q pos : Pos} {e : Expr} {es : List Expr} {t : TA}
theorem pe_callX {p : XK.Pin} (F : FnX X.prog X.w X.K X.mg X.base k f fd ps sp) (hr : L2H.RoomH k X.A) (hp : p ∈ X.pn) (hg : Gl X x) (hm : X.mg x = some (.ref f)) (hk : PySem.W.keepIn X.K (.ref f) = true) (hb : Binds X.K fd ps [])
    (ha : PA X (e :: es) t) (hdb : (x == ("__debug__" : Str)) = false := by decide) (he : starEach (e :: es) X.env = (false, eval e X.env) :: starEach es X.env := by rfl) (hpl : (backTo pos (starEach es X.env)).any (·.1) = false := by rfl) :
    PE X (.Call (.Name x q) (e :: es) [] pos) (fun σ H Q => t σ H fun vs H1 => sp p vs H1 Q (fun _ _ _ => False)) := by
  refine ⟨fun pins s σ H Q I h => ?_⟩
  refine wpAny_Call_Name_kw (ld_glob I hg hm ?_ hdb)
  refine PySem.W.callWith_K (h₀ := X.base) I.ok.mod.kin hk (thn (ha.run pos pins s σ H _ I h) fun us s1 ⟨vs, H1, I1, r, q1⟩ => ⟨I1.kIn, ?_⟩) he hpl
  have hl : us.length = ps.length := by rw [← r.length]; exact F.len _ _ _ _ _ q1
  have b := hb s1 us I1.kIn (by rw [List.append_nil]; exact hl)
  rw [List.append_nil] at b
  have z := I1.pin p (List.mem_append_left _ hp)
  have hpin : L2H.PinOk X.stack H1 s1 p := ⟨z.1, z.2.1, fun hm => (List.mem_cons.mp (I1.stkSub p.1 hm)).elim z.2.2.1 z.2.2.2.1, z.2.2.2.2⟩
  refine wpAny_call (codeAny_mono (F.run X.A X.stack s1 H1 ⟨us, []⟩ us vs Q p hr hpin I1.env0 b r q1) fun r s' hq => ?_)
  cases r with
  | error e => exact False.elim hq
  | ok fl =>
    cases fl with
    | ret u => exact I1.after hq
    | next => exact False.elim hq
    | brk => exact False.elim hq
    | cont => exact False.elim hq
end
/-- the promise: phi tells by the exception's place and class -/
def SpX (K : PySem.W.Frag) (T : Tb) (n : Nat) (phi : Addr → Nat → List D → Res SV) : XK.Pin → Sp := fun p vs H Q E => ∃ m : Nat, (p.2.cls = .ref (T.XA m) ∧ p.2.dict = none ∧ ∃ us, p.2.data = .fields us) ∧ SpL K T n (phi p.1 m) vs H Q E
/-- such a def as a suite takes it -/
structure Fnx (P : Program) (w : World) (K : PySem.W.Frag) (mg : Str → Option Value) (base : Heap) (T : Tb) (k : Nat) (x : Str) (n : Nat) (phi : Addr → Nat → List D → Res SV) : Prop where
  ex : ∃ (f : Addr) (fd : FuncData) (ps : List Str), FnX P w K mg base k f fd ps (SpX K T n phi) ∧ mg x = some (.ref f) ∧ PySem.W.keepIn K (.ref f) = true ∧ Binds K fd ps []
def fCallX (n : Nat) (phi : List D → Res SV) (fa : DL.Env → Res (List SV)) : DL.Env → Res SV := fun δ => (fa δ).bind fun ss => if ss.length = n then match stills ss with
  | some ds => match phi ds with
    | .ok s => .ok s
    | _ => .bad
  | none => .bad else .bad
theorem de_fnX {X : Cx} {T : Tb} {W : WX} {k j n m : Nat} {a : Addr} {phi : Addr → Nat → List D → Res SV} {x : Str} {p pos : Pos} {e : Expr} {es : List Expr} {fa : DL.Env → Res (List SV)}
    (F : Fnx X.prog X.w X.K X.mg X.base T k x n phi) (hr : L2H.RoomH j X.A) (hkj : k ≤ j) (hp : PinX X a (T.XA m)) (hg : Gl X x)
    (ha : PA X (e :: es) (rdA X.K T W fa)) (hdb : (x == ("__debug__" : Str)) = false := by decide) (he : starEach (e :: es) X.env = (false, eval e X.env) :: starEach es X.env := by rfl) (hpl : (backTo pos (starEach es X.env)).any (·.1) = false := by rfl) :
    PE X (.Call (.Name x p) (e :: es) [] pos) (rd X.K T W (fCallX n (phi a m) fa)) := by
  obtain ⟨f, fd, ps, h1, h2, h3, h4⟩ := F.ex
  obtain ⟨oe, hm, hc, hd, hv⟩ := hp
  refine PEimp (pe_callX (p := (a, oe)) h1 (hr.mono hkj) hm hg h2 h3 h4 ha hdb he hpl) fun σ H Q ⟨F0, G, F, δ, E, h⟩ => ?_
  refine rdA_bind E h fun vs ss F1 H1 p1 r1 h1 => ⟨m, ⟨hc, hd, hv⟩, ?_⟩
  by_cases l : ss.length = n
  · rw [if_pos l] at h1
    cases q : stills ss with
    | none => rw [q] at h1; exact h1.elim
    | some ds =>
      rw [q] at h1
      dsimp only at h1
      refine ⟨by rw [r1.length]; exact l, p1.tb E.tb, F1, ds, p1.fh, stills_reps r1 q, ?_⟩
      revert h1
      cases phi a m ds with
      | ok s => exact fun h1 v H' g => gives_end g (h1.later p1)
      | ex c => exact fun h1 => h1
      | bad => exact fun h1 => h1
  · rw [if_neg l] at h1; exact h1.elim
theorem hot_ok {P : Program} {w : World} {K : PySem.W.Frag} {mg : Str → Option Value} {base : Heap} {x qual : Str} {params : Arguments} {body : List Stmt} {scope : Scope} {dvs : List V} {kws : List (Str × V)} {f : Addr} {fd : FuncData} {N ps : List Str} {k n : Nat} {fb : Addr → Nat → FS} {phi : Addr → Nat → List D → Res SV} (T : Tb)
    (F : FunD K x qual params body scope dvs kws f fd) (S : FnScope N ps scope) (hn : n = ps.length) (hphi : ∀ a m, phi a m = runF N.length (fb a m))
    (hb : ∀ (cdv : Value) (A : Around) (outer : List PySem.Env) (s : Shared) (H : Hp) (p : XK.Pin) (m : Nat), L2H.RoomH k (A.deeper (envOfC qual scope s.heap.objs.size f cdv)) → PinX (L2H.cxH CX0 P w K mg base N qual scope f cdv A outer s H (fun _ _ _ => False) p) p.1 (T.XA m) →
      PSs (L2H.cxH CX0 P w K mg base N qual scope f cdv A outer s H (fun _ _ _ => False) p) body (rdS K T WF (fb p.1 m))) :
    FnX P w K mg base (k + 1) f fd ps (SpX K T n phi) := by
  obtain rfl : phi = fun a m => runF N.length (fb a m) := funext fun a => funext fun m => hphi a m
  have hpl : n ≤ N.length := by
    have := congrArg List.length S.pre
    rw [List.length_take] at this
    omega
  obtain ⟨oc, od, dV, kV, doc, pm, an, cdv, ct, osl, rfl, lk, hcd, _, _⟩ := F.ex
  refine fnX_of lk hcd S (fun p vs H Q E h => ?_) fun A outer s H vs Q p hr h => ?_
  · obtain ⟨m, _, h⟩ := h
    rw [← hn]
    exact h.1
  · obtain ⟨m, ⟨hc, hd, hv⟩, h⟩ := h
    exact ⟨_, hb cdv A outer s H p m hr ⟨p.2, List.mem_cons_self .., hc, hd, hv⟩, run_okL hpl h⟩
end DL
namespace L2H
theorem RoomH.units {k : Nat} {A : PySem.Around} (r : RoomH k A) : A.units + 64 < PySem.cLine := by have := r.un; omega
end L2H
namespace DL
open PySem PySem.Spec PyProof.Rows L2
theorem roomX {k : Nat} {A : Around} (r : Room k A) (z : Option Value) : L2H.RoomH k (A.mark z) := ⟨r.dp, r.un⟩
theorem takesF {X : Cx} : XK.Takes X WF := fun u t x => by
  obtain ⟨_, _, _, _, _, _, _, _, _, _, _, _, _, _, _, _, _, _, z⟩ := x
  exact z.elim
end DL
end

section
set_option Elab.async false
set_option linter.all false
set_option autoImplicit false
set_option maxRecDepth 100000
set_option maxHeartbeats 4000000
/-! list(range(..)) and more calls. -/
namespace DL
open PySem PySem.Spec PyProof.Rows L2
theorem reps_rg {K : PySem.W.Frag} {T : Tb} {F : Hp} (a : Int) : ∀ l : List Nat, Reps K T F (l.map fun i => V.int (a + (i : Nat))) (l.map fun i => D.int (a + (i : Nat)))
  | [] => .nil
  | _ :: l => .cons (.int _) (reps_rg a l)
noncomputable def fListRg1 (f : DL.Env → Res SV) : DL.Env → Res SV := fun δ => (f δ).bind fun s => match s with
  | .sh (.int n) => open Classical in if 0 ≤ n ∧ n ≤ 100000 then .ok (.ow ((List.range n.toNat).map fun k => .int ((k : Nat) : Int))) else .bad
  | _ => .bad
noncomputable def fListRg2 (f g : DL.Env → Res SV) : DL.Env → Res SV := fun δ => (f δ).bind fun s => (g δ).bind fun t => match s, t with
  | .sh (.int i), .sh (.int j) => open Classical in if 0 ≤ i ∧ i ≤ 100000 ∧ 0 ≤ j ∧ j ≤ 100000 then .ok (.ow ((List.range (j - i).toNat).map fun k => .int (i + (k : Nat)))) else .bad
  | _, _ => .bad
section
variable {X : Cx} {T : Tb} {W : WX} {a b : Expr} {p p2 q2 pos : Pos} {f g : DL.Env → Res SV}
theorem de_listRg1 (hc : X.calm = true) (hg : Gl X "list") (hm : X.mg "list" = none) (hg2 : Gl X "range") (hm2 : X.mg "range" = none) (ha : PE X a (rd X.K T W f)) (na : starEach [a] X.env = (false, eval a X.env) :: starEach [] X.env := by rfl)
    (nb : starEach [.Call (.Name "range" p2) [a] [] q2] X.env = (false, eval (.Call (.Name "range" p2) [a] [] q2) X.env) :: starEach [] X.env := by rfl) :
    PE X (.Call (.Name "list" p) [.Call (.Name "range" p2) [a] [] q2] [] pos) (rd X.K T W (fListRg1 f)) :=
  PEimp (pe_listRg hc hg hm (prg_1 hg2 hm2 ha na) nb) fun σ H Q ⟨F0, G, F, δ, E, h⟩ => by
    refine rd_bind E h fun v s F1 H1 p1 r1 h1 => ?_
    cases s with
    | sh d =>
      cases d with
      | int n =>
        dsimp only at h1
        split at h1
        · rename_i b
          cases r1
          refine ⟨n, rfl, RgOk.of_le (by omega) (by omega) (by omega) (by omega), fun q hq => ?_⟩
          have st := Stp.new (T := T) (o := .lst (rgV 0 n)) p1.fh hq
          refine h1 _ _ _ (p1.trans st) ⟨q, _, rfl, Exn.back p1.hh hq, Exn.back p1.fh hq, upd_same, ?_⟩
          have := reps_rg (K := X.K) (T := T) (F := F1) 0 (List.range n.toNat)
          unfold rgV
          simpa using this
        · exact h1.elim
      | _ => exact h1.elim
    | _ => exact h1.elim
theorem de_listRg2 (hc : X.calm = true) (hg : Gl X "list") (hm : X.mg "list" = none) (hg2 : Gl X "range") (hm2 : X.mg "range" = none) (ha : PE X a (rd X.K T W f)) (hb : PE X b (rd X.K T W g)) (na : starEach [a, b] X.env = (false, eval a X.env) :: starEach [b] X.env := by rfl)
    (nb : starEach [b] X.env = (false, eval b X.env) :: starEach [] X.env := by rfl) (hp : (backTo q2 (starEach [b] X.env)).any (·.1) = false := by rfl)
    (nc : starEach [.Call (.Name "range" p2) [a, b] [] q2] X.env = (false, eval (.Call (.Name "range" p2) [a, b] [] q2) X.env) :: starEach [] X.env := by rfl) :
    PE X (.Call (.Name "list" p) [.Call (.Name "range" p2) [a, b] [] q2] [] pos) (rd X.K T W (fListRg2 f g)) :=
  PEimp (pe_listRg hc hg hm (prg_2 hg2 hm2 ha hb na nb hp) nc) fun σ H Q ⟨F0, G, F, δ, E, h⟩ => by
    refine rd_bind E h fun v s F1 H1 p1 r1 h1 => ?_
    refine rd_bind (E.grow p1) (h1.later p1) fun v2 s2 F2 H2 p2 r2 h2 => ?_
    have h2 := h2
    cases s with
    | sh d =>
      cases d with
      | int i =>
        cases s2 with
        | sh d2 =>
          cases d2 with
          | int j =>
            dsimp only at h2
            split at h2
            · rename_i b
              cases r1
              cases r2
              refine ⟨i, j, rfl, rfl, RgOk.of_le (by omega) (by omega) (by omega) (by omega), fun q hq => ?_⟩
              have st := Stp.new (T := T) (o := .lst (rgV i j)) p2.fh hq
              refine h2 _ _ _ (p2.trans st) ⟨q, _, rfl, Exn.back p2.hh hq, Exn.back p2.fh hq, upd_same, ?_⟩
              exact reps_rg i _
            · exact h2.elim
          | _ => exact h2.elim
        | _ => exact h2.elim
      | _ => exact h2.elim
    | _ => exact h2.elim
end
end DL
namespace DL
open PySem PySem.Spec PyProof.Rows L2
/-! ### a call without arguments -/
theorem de_call0 {X : Cx} {T : Tb} {W : WX} {CX : CXT} {k n : Nat} {f : Addr} {fd : FuncData} {ps : List Str} {phi : List D → Res SV} {dvs : List V} {dds : List D} {ds : List Value} {x : Str} {p pos : Pos}
    (F : FnOk X.prog X.w X.K X.mg X.base CX k f fd ps (SpF X.K T n phi)) (hr : Room k X.A) (hg : Gl X x) (hm : X.mg x = some (.ref f)) (hk : PySem.W.keepIn X.K (.ref f) = true) (hb : Binds X.K fd ps ds) (hd : Vals dvs ds) (hdd : ∀ F, Reps X.K T F dvs dds) (hx : ∀ σ, PassesAt CX X σ (WE W σ))
    (hdb : (x == ("__debug__" : Str)) = false := by decide) : PE X (.Call (.Name x p) [] [] pos) (rd X.K T W (fCall n phi dds aNil)) := by
  refine ⟨fun pins s σ H Q I h => ?_⟩
  refine wpAny_Call_Name_kw (ld_glob I hg hm ?_ hdb)
  obtain ⟨F0, G, F1, δ, E, h⟩ := h
  have go : tCallSD (SpF X.K T n phi) dvs (WE W) (rdA X.K T W aNil) σ H Q := rd_call hdd ⟨F0, G, F1, δ, E, h⟩
  obtain ⟨G0, G1, G2, δ', E', go⟩ := id go
  have := go [] G2 H (Stp.refl E'.fh) .nil
  exact PySem.W.callWith_K0 I.kIn hk (run_fnSD (us := []) (vs := []) F hr hb hd (hx σ) I .nil this)
theorem de_fn0 {X : Cx} {T : Tb} {W : WX} {CX : CXT} {k j n : Nat} {phi : List D → Res SV} {dds : List D} {x : Str} {p pos : Pos}
    (F : Fnc X.prog X.w X.K X.mg X.base CX T k x n phi dds) (hr : Room j X.A) (hkj : k ≤ j) (hg : Gl X x) (hx : ∀ σ, PassesAt CX X σ (WE W σ)) (hdb : (x == ("__debug__" : Str)) = false := by decide) :
    PE X (.Call (.Name x p) [] [] pos) (rd X.K T W (fCall n phi dds aNil)) := by
  obtain ⟨f, fd, ps, dvs, ds, h1, h2, h3, h4, h5, h6⟩ := F.ex
  exact de_call0 h1 (hr.mono hkj) hg h2 h3 h4 h5 h6 hx hdb
end DL
end

section
set_option Elab.async false
set_option linter.all false
set_option autoImplicit false
set_option maxRecDepth 100000
set_option maxHeartbeats 4000000
/-! sorted(set(..)) of ints, however many. -/
namespace DL
open PySem PySem.Spec PyProof.Rows L2
section
variable {P : Program} {w : World} {A : Around} {E : Value → Shared → Prop} {s : Shared} {a : Addr}
set_option maxHeartbeats 6400000 in
/-- set(l) of a list of ints -/
theorem set_of_list {l : Addr} {items : Array Value} (ns : List Int) {Q : Value → Shared → Prop} (hh : A.handled = none) (hl : s.heap.IsList l items) (hit : IntsAre items.toList ns) (hb : ns.length + 1 < scanBound)
    (h : ∀ (h' : Heap) (tk c : Nat), SetR w h' s.heap.objs.size (fun j => decide (j ∈ ns)) c → c ≤ ns.length → (∀ b o, s.heap.get? b = some o → h'.get? b = some o) → Q (.ref s.heap.objs.size) { s with heap := h', toks := tk }) :
    wpAny (model P w) A (call (.type "set") [.ref l]) Q E s := by
  have hisz : items.size = ns.length := by
    have q := IntsAre.length hit
    rw [Array.length_toList] at q
    exact q
  obtain ⟨c, tl, hmro⟩ := F.called_set.mro
  have hmade := F.called_set.made
  have hsub := F.called_set.sub
  refine wpAny_call (codeAny_of_tree ?_)
  show wpAny _ _ (callAny (.type "set") _) _ _ _
  refine wpAny_pure ⟨Code.quiet_builtin _ (by decide +kernel), codeAny_builtin F.entry_type_call ?_⟩
  rw [Around.under_plain (weight_type_call_type "set" [.ref l] []) rfl]
  have h1 := F.called_set.notType
  have h2 := F.called_set.canCreate
  have hct := F.typeCall_set_1 (.ref l)
  repeat (any_goals (first | assumption | wp_step))
  refine codeAny_mono (code_set_led1 (.ref l) (E := E) (Q₁ := fun obj s₁ => obj = .ref s.heap.objs.size ∧ s₁ = { s with heap := s.heap.push { cls := .type "set", dict := none, data := .set #[] 0 (.fresh 0 0 (!w.params.followText "set-order")) } }) (⟨rfl, rfl⟩)) fun r s₁ hr => ?_
  cases r with
  | error e => exact hr
  | ok fl =>
    cases fl with
    | ret obj =>
      obtain ⟨rfl, rfl⟩ := hr
      have hS : (s.heap.push { cls := .type "set", dict := none, data := .set #[] 0 (.fresh 0 0 (!w.params.followText "set-order")) }).get? s.heap.objs.size = some { cls := .type "set", dict := none, data := .set #[] 0 (.fresh 0 0 (!w.params.followText "set-order")) } := Heap.get?_push_size _ rfl
      have hT : Shared.TypeIs { s with heap := s.heap.push { cls := .type "set", dict := none, data := .set #[] 0 (.fresh 0 0 (!w.params.followText "set-order")) } } (.ref s.heap.objs.size) "set" := ⟨_, hS, rfl⟩
      have hli := F.called_set.init.lookup
      have hbi := F.called_set.init.bind (.ref s.heap.objs.size)
      repeat (any_goals (first | assumption | wp_step))
      refine codeAny_mono (codeAny_call_builtin (R := wants (fun r s₂ => r = .none ∧ ∃ h' tk c, s₂ = { s with heap := h', toks := tk } ∧ SetR w h' s.heap.objs.size (fun j => decide (j ∈ ns)) c ∧ c ≤ ns.length ∧
          (∀ b o, s.heap.get? b = some o → h'.get? b = some o)) E) F.called_set.init.plain F.entry_set_init (check_set_init_1 hT ?_)) fun r₂ s₂ hr₂ => ?_
      · obtain ⟨ol, hol, hcl, nl, hdl⟩ := hl
        obtain ⟨ocls, odict, odata, oslots⟩ := ol
        simp only at hcl hdl
        subst hcl; subst hdl
        have hol' : (s.heap.push { cls := .type "set", dict := none, data := .set #[] 0 (.fresh 0 0 (!w.params.followText "set-order")) }).get? l = some { cls := .type "list", dict := odict, data := .seq items nl, slots := oslots } := Heap.get?_push_of_some _ hol
        have hsls := F.sub_list_set
        have hslf := F.sub_list_frozenset
        have hne : (Value.type "list" == Value.type "dict") = false := by decide
        have hl1 : (s.heap.push { cls := .type "set", dict := none, data := .set #[] 0 (.fresh 0 0 (!w.params.followText "set-order")) }).IsList l items := ⟨_, hol', rfl, nl, rfl⟩
        unfold Builtin.«set.__init__» noKeywords Builtin.Frozenset.updateFrom
        generalize hPI : pyIter = PI
        wp_walk
        subst hPI
        refine wpAny_pyIter_list hl1 ?_
        refine wpAny_bind (wpAny_runValue ?_)
        have hlS : l < s.heap.objs.size := Heap.lt_size hol
        have hh3 : A.in1.in1.in1.handled = none := by simp [hh]
        have hneI : l ≠ (s.heap.push { cls := .type "set", dict := none, data := .set #[] 0 (.fresh 0 0 (!w.params.followText "set-order")) }).objs.size := by
          rw [Heap.size_push]; exact Nat.ne_of_lt (Nat.lt_succ_of_lt hlS)
        have hSf : s.heap.objs.size ∉ [(s.heap.push { cls := .type "set", dict := none, data := .set #[] 0 (.fresh 0 0 (!w.params.followText "set-order")) }).objs.size, l] := by
          rw [Heap.size_push]; simp only [List.mem_cons, List.mem_singleton, List.not_mem_nil, or_false, not_or]
          exact ⟨Nat.ne_of_lt (Nat.lt_succ_self _), Nat.ne_of_gt hlS⟩
        have hval : ∀ (i : Nat) (v : Value), items[i]? = some v → ∃ k t, ns[i]? = some k ∧ v = .int k t := fun i v hv => by
          have hi : i < ns.length := by rw [← hisz]; exact (Array.getElem?_eq_some_iff.mp hv).1
          obtain ⟨t, e⟩ := PyProof.Rows.IntsAre.int_at hit i v (by rw [Array.getElem?_toList]; exact hv)
          refine ⟨ns[i], t, List.getElem?_eq_getElem hi, ?_⟩
          rw [e, List.getD_eq_getElem?_getD, List.getElem?_eq_getElem hi] <;> rfl
        refine set_update_ints ((Walks.list hh3 _ l hneI items).toS) s.heap.objs.size
          hSf ns hisz hb hval (items.size - 0) 0 _ (by omega) (Nat.zero_le _)
          ⟨⟨_, Heap.get?_push_size _ rfl, rfl, rfl⟩, (hl1.push _)⟩ ?hS0 ?hR
        case hS0 =>
          have hget : ((s.heap.push { cls := .type "set", dict := none, data := .set #[] 0 (.fresh 0 0 (!w.params.followText "set-order")) }).push { cls := .type "list_iterator", data := .fields #[.ref l, .int 0 0] }).get? s.heap.objs.size = some { cls := .type "set", dict := none, data := .set #[] 0 (.fresh 0 0 (!w.params.followText "set-order")) } := Heap.get?_push_of_some _ hS
          exact ⟨0, Nat.le_refl 0, setR_new_at hget⟩
        case hR =>
          intro s' c' hm hc' hS'
          obtain ⟨h', g2, d', tk', os'⟩ := s'
          have eg : g2 = s.gens := hm.gens
          have ed : d' = s.drawn := hm.drawn
          have eo : os' = s.os := hm.os
          subst eg; subst ed; subst eo
          show wpAny _ _ _ _ _ _
          refine wpAny_pure ?_
          show wpAny _ _ (ret Value.none) _ _ _
          rw [hisz] at hc'
          refine wpAny_pure ⟨rfl, h', tk', c', rfl, hS', hc', fun b o e => ?_⟩
          have hb0 : b < s.heap.objs.size := Heap.lt_size e
          have hb1 : b ≠ s.heap.objs.size := Nat.ne_of_lt hb0
          have hb2 : b ≠ (s.heap.push { cls := .type "set", dict := none, data := .set #[] 0 (.fresh 0 0 (!w.params.followText "set-order")) }).objs.size := by
            rw [Heap.size_push]; exact Nat.ne_of_lt (Nat.lt_succ_of_lt hb0)
          exact hm.heap b o (by simp only [List.mem_cons, List.mem_singleton, List.not_mem_nil, or_false, not_or]; exact ⟨hb1, hb2⟩) (Heap.get?_push_of_some _ (Heap.get?_push_of_some _ e))
      · cases r₂ with
        | error e => exact hr₂
        | ok fl₂ =>
          cases fl₂ with
          | ret r =>
            obtain ⟨rfl, h', tk, c', rfl, hS', hc', hk'⟩ := hr₂
            repeat (any_goals (first | assumption | wp_step))
            exact h _ _ _ hS' hc' hk'
          | _ => exact hr₂.elim
    | _ => exact hr.elim
/-- sorted(set) -/
theorem sorted_of_set {S : Int → Bool} {n : Nat} {Q : Value → Shared → Prop} (R : SetR w s.heap a S n) (hh : A.handled = none) (hn4 : n ≤ 4096)
    (hQ : ∀ s' p (out : Array Value) (c : Nat) (ns : List Int), (∀ b o, s.heap.get? b = some o → s'.heap.get? b = some o) → s'.gens = s.gens → s'.os = s.os → s.heap.objs.size ≤ p →
      s'.heap.get? p = some (seqObj "list" out c) → IntsAre out.toList ns → ns.Pairwise (· < ·) → (∀ k, k ∈ ns ↔ S k = true) → ns.length = n → Q (.ref p) s') :
    wpAny (model P w) A (call (.builtin "sorted") [.ref a]) Q E s := by
  obtain ⟨o, es, ep, t, ho, hex, hd, g, nd, hm, hb, hf, hn, hr, hl⟩ := R
  refine Calls.call_function_entry kind_sorted plain_sorted entry_sorted (args_sorted1 _) ?_
  unfold Builtin.«sorted»
  refine wpAny_bind (m := checkCount "sorted" 1 1 _) (wpAny_pure ?_)
  refine wpAny_bind (collect_set (A := A.in1) hh ⟨o, ho, hex.1, hd⟩ hf hb hr hl fun s1 vs k1 hz g1 o1 pm => ?_)
  have hvl : vs.length = n := by rw [pm.length_eq, List.length_map, Array.length_toList]; exact hn
  have hI : IntsAre vs (vs.map Builtin.Re.reRawOf) := ints_of vs fun v hv => by
    obtain ⟨e, he, q⟩ := List.mem_map.mp (pm.mem_iff.mp hv)
    obtain ⟨k, tk, h1, _⟩ := g e he
    exact ⟨k, tk, by rw [← q]; exact h1⟩
  have pk : (vs.map Builtin.Re.reRawOf).Perm (es.toList.map keyOf) := by
    have q := pm.map Builtin.Re.reRawOf
    rw [List.map_map] at q
    exact q
  have hL : vs.length ≤ sizeLine := by rw [hvl, sizeLine_eq]; omega
  refine wpAny_bind (wpAny_newList ?_ hL)
  have hoL : (s1.heap.push (seqObj "list" vs.toArray 0)).get? s1.heap.objs.size = some (seqObj "list" vs.toArray 0) := Heap.get?_push_size _ rfl
  refine wpAny_bind (wpAny_holding (wpAny_call_entry slot_list_sort ⟨_, hoL, rfl⟩ entry_list_sort (list_sort_treeAny hoL hI hL fun out ns' a1 a2 a3 => ⟨_, rfl, ?_⟩) (args_list_sort _)))
  obtain ⟨c, hc⟩ := sortedHeap_at (vs := vs) (out := out) hoL
  have pn : ns'.Perm (es.toList.map keyOf) := a2.trans pk
  refine wpAny_pure ⟨_, rfl, hQ _ s1.heap.objs.size out c ns' (fun b u e => ?_) g1 o1 hz hc a1 (lt_of_le_nodup ns' a3 (pn.nodup_iff.mpr nd)) (fun k => by rw [pn.mem_iff, ← hm k]) ?_⟩
  · have q := k1 b u e
    have hlt := Heap.lt_size q
    show (sortedHeap (s1.heap.push (seqObj "list" vs.toArray 0)) s1.heap.objs.size vs out).get? b = some u
    rw [sortedHeap_old (Nat.ne_of_lt hlt) (by rw [size_push']; exact Nat.lt_succ_of_lt hlt)]
    exact Heap.get?_push_of_some _ q
  · rw [pn.length_eq, List.length_map, Array.length_toList]; exact hn
end
end DL
end

section
set_option Elab.async false
set_option linter.all false
set_option autoImplicit false
set_option maxRecDepth 100000
set_option maxHeartbeats 4000000
/-! sorted(set(..)) as an expression. -/
namespace DL
open PySem PySem.Spec PyProof.Rows L2
/-! ### rising rows without doubles -/
def insU (k : Int) : List Int → List Int
  | [] => [k]
  | x :: r => if k < x then k :: x :: r else if k = x then x :: r else x :: insU k r
def srt (ns : List Int) : List Int := ns.foldr insU []
theorem mem_insU (k j : Int) : ∀ l, j ∈ insU k l ↔ j = k ∨ j ∈ l
  | [] => by simp [insU]
  | x :: r => by
    have ih := mem_insU k j r
    unfold insU
    split
    · simp
    · split
      · rename_i h
        subst h
        simp
      · rw [List.mem_cons, ih, List.mem_cons]
        constructor
        · rintro (h | h | h)
          · exact .inr (.inl h)
          · exact .inl h
          · exact .inr (.inr h)
        · rintro (h | h | h)
          · exact .inr (.inl h)
          · exact .inl h
          · exact .inr (.inr h)
theorem mem_srt (j : Int) : ∀ ns, j ∈ srt ns ↔ j ∈ ns
  | [] => Iff.rfl
  | k :: ns => by
    have ih := mem_srt j ns
    show j ∈ insU k (srt ns) ↔ _
    rw [mem_insU, ih, List.mem_cons]
theorem rise_insU (k : Int) : ∀ l : List Int, l.Pairwise (· < ·) → (insU k l).Pairwise (· < ·)
  | [], _ => List.pairwise_singleton _ _
  | x :: r, h => by
    obtain ⟨h1, h2⟩ := List.pairwise_cons.mp h
    unfold insU
    split
    · rename_i hk
      refine List.pairwise_cons.mpr ⟨fun y hy => ?_, h⟩
      rcases List.mem_cons.mp hy with rfl | hy
      · exact hk
      · have := h1 y hy
        omega
    · split
      · exact h
      · refine List.pairwise_cons.mpr ⟨fun y hy => ?_, rise_insU k r h2⟩
        rcases (mem_insU k y r).mp hy with rfl | hy
        · omega
        · exact h1 y hy
theorem rise_srt : ∀ ns, (srt ns).Pairwise (· < ·)
  | [] => List.Pairwise.nil
  | k :: ns => rise_insU k _ (rise_srt ns)
theorem rise_uniq : ∀ l m : List Int, l.Pairwise (· < ·) → m.Pairwise (· < ·) → (∀ k, k ∈ l ↔ k ∈ m) → l = m
  | [], [], _, _, _ => rfl
  | [], y :: m, _, _, h => by have := (h y).mpr (List.mem_cons_self ..); cases this
  | x :: l, [], _, _, h => by have := (h x).mp (List.mem_cons_self ..); cases this
  | x :: l, y :: m, hl, hm, h => by
    obtain ⟨a1, a2⟩ := List.pairwise_cons.mp hl
    obtain ⟨b1, b2⟩ := List.pairwise_cons.mp hm
    have e : x = y := by
      have p := (h x).mp (List.mem_cons_self ..)
      have q := (h y).mpr (List.mem_cons_self ..)
      rcases List.mem_cons.mp p with p | p
      · exact p
      · rcases List.mem_cons.mp q with q | q
        · exact q.symm
        · have := a1 y q
          have := b1 x p
          omega
    subst e
    refine congrArg _ (rise_uniq l m a2 b2 fun k => ?_)
    constructor
    · intro hk
      have := a1 k hk
      rcases List.mem_cons.mp ((h k).mp (List.mem_cons_of_mem _ hk)) with q | q
      · omega
      · exact q
    · intro hk
      have := b1 k hk
      rcases List.mem_cons.mp ((h k).mpr (List.mem_cons_of_mem _ hk)) with q | q
      · omega
      · exact q
theorem len_insU (k : Int) : ∀ l, (insU k l).length ≤ l.length + 1
  | [] => Nat.le_refl _
  | x :: r => by
    have := len_insU k r
    unfold insU
    split
    · simp
    · split
      · simp
      · simp only [List.length_cons]
        omega
theorem len_srt : ∀ ns, (srt ns).length ≤ ns.length
  | [] => Nat.le_refl _
  | k :: ns => by
    have := len_srt ns
    have := len_insU k (srt ns)
    show (insU k (srt ns)).length ≤ ns.length + 1
    omega
/-! ### sorted(set(e)) -/
def tSoSet (K : PySem.W.Frag) (ta : TE) : TE := fun σ H Q => ta σ H fun x H1 => ∃ (l : Addr) (ns : List Int), x = .ref l ∧ (SqL K H1 l (ns.map V.int) ∨ SqT K H1 l (ns.map V.int)) ∧ ns.length ≤ 4000 ∧ ∀ p, H1 p = none → Q (.ref p) (upd H1 p (.lst ((srt ns).map V.int)))
theorem sos_end {X : Cx} {pins : List (Addr × Obj)} {σ : L2.St} {H1 : Hp} {s1 : Shared} {ns : List Int} {Q : VK} (hc : X.calm = true) (I1 : Inv X pins σ H1 s1) (hl : ns.length ≤ 4000) (q1 : ∀ p, H1 p = none → Q (V.ref p) (upd H1 p (.lst ((srt ns).map V.int))))
    {h' : Heap} {tk c : Nat} (R : SetR X.w h' s1.heap.objs.size (fun j => decide (j ∈ ns)) c) (hc' : c ≤ ns.length) (hk : ∀ b o, s1.heap.get? b = some o → h'.get? b = some o) :
    wpAny (model X.prog X.w) X.A (call (.builtin "sorted") [.ref s1.heap.objs.size]) (EP X pins σ Q) X.xe { s1 with heap := h', toks := tk } := by
  have I2 : Inv X pins σ H1 { s1 with heap := h', toks := tk } := I1.kept hk
  refine sorted_of_set (s := { s1 with heap := h', toks := tk }) R (I1.ok.hd hc) (by omega) fun s' p out c2 ms k g o hp hg hi hs hm hlm => ?_
  have es : ms = srt ns := rise_uniq ms (srt ns) hs (rise_srt ns) fun j => by rw [hm j, mem_srt, decide_eq_true_eq]
  subst es
  have hn : H1 p = none := I2.hok.fresh hp
  have hlen : ((srt ns).map V.int).length ≤ sizeLine := by
    have := len_srt ns
    rw [List.length_map, sizeLine_eq]
    omega
  have J : Inv X pins σ (upd H1 p (.lst ((srt ns).map V.int))) { { s1 with heap := h', toks := tk } with heap := s'.heap, gens := s'.gens, drawn := s'.drawn, toks := s'.toks } :=
    I2.call (ch := []) (Un.laid k hp hn) (I2.hok.laid k hp ⟨hlen, out.toList, c2, vals_of_ints hi, hg⟩) (by rw [g]; exact I2.bare) (fun _ z => nomatch z)
  have e : s' = { { s1 with heap := h', toks := tk } with heap := s'.heap, gens := s'.gens, drawn := s'.drawn, toks := s'.toks } := by
    cases s'
    cases s1
    cases o
    rfl
  rw [e]
  exact ⟨.ref p, _, J, rfl, q1 p hn⟩
theorem pe_sortedSet {X : Cx} {a : Expr} {ta : TE} {p p2 q pos : Pos} (hc : X.calm = true) (hg : Gl X "sorted") (hm : X.mg "sorted" = none) (hg2 : Gl X "set") (hm2 : X.mg "set" = none) (ha : PE X a ta)
    (na : starEach [a] X.env = (false, eval a X.env) :: starEach [] X.env := by rfl)
    (nb : starEach [.Call (.Name "set" p2) [a] [] q] X.env = (false, eval (.Call (.Name "set" p2) [a] [] q) X.env) :: starEach [] X.env := by rfl) :
    PE X (.Call (.Name "sorted" p) [.Call (.Name "set" p2) [a] [] q] [] pos) (tSoSet X.K ta) := by
  refine ⟨fun pins s σ H Q I h => ?_⟩
  refine Call_ (ld_blt I hg hm boot_sorted ?_)
  refine PyProof.Rows.callWith_builtin1 (PyProof.Rows.args_cons ?_ nb) nb rfl
  refine Call_ (ld_blt I hg2 hm2 boot_set ?_)
  refine PyProof.Rows.callWith_type1 (PyProof.Rows.args_cons (thn (ha.run pins s σ H _ I h) fun v s1 ⟨x, H1, I1, r1, q1⟩ => PyProof.Rows.args_nil ?_) na) na rfl
  obtain ⟨l, ns, rfl, hq, hl, q1⟩ := q1
  cases r1
  rcases hq with hq | hq
  · obtain ⟨its, r, pl, hz⟩ := I1.list hq
    refine set_of_list ns (I1.ok.hd hc) pl.isList (by simpa using RZ.intsAre_vals r) (by unfold scanBound; omega) fun h' tk c R hc' hk => ?_
    exact PyProof.Rows.args_nil (sos_end hc I1 hl q1 R hc' hk)
  · obtain ⟨its, r, pl, hz⟩ := I1.tuple hq
    refine call_set_tupI ns (I1.ok.hd hc) pl (by simpa using RZ.intsAre_vals r) (by unfold scanBound; omega) fun h' tk c R hc' hk => ?_
    exact PyProof.Rows.args_nil (sos_end hc I1 hl q1 R hc' hk)
noncomputable def fSoSet (f : DL.Env → Res SV) : DL.Env → Res SV := fun δ => (f δ).bind fun s => match seqOf s.d with
  | some ds => (match dInts ds with
    | some ns => open Classical in if ns.length ≤ 4000 then .ok (.ow ((srt ns).map D.int)) else .bad
    | none => .bad)
  | none => .bad
theorem reps_intsU {K : PySem.W.Frag} {T : Tb} {F : Hp} : ∀ ns : List Int, Reps K T F (ns.map V.int) (ns.map D.int)
  | [] => .nil
  | _ :: ns => .cons (.int _) (reps_ints ns)
theorem de_soSet {X : Cx} {T : Tb} {W : WX} {a : Expr} {p p2 q pos : Pos} {f : DL.Env → Res SV} (hc : X.calm = true) (hg : Gl X "sorted") (hm : X.mg "sorted" = none) (hg2 : Gl X "set") (hm2 : X.mg "set" = none) (ha : PE X a (rd X.K T W f))
    (na : starEach [a] X.env = (false, eval a X.env) :: starEach [] X.env := by rfl)
    (nb : starEach [.Call (.Name "set" p2) [a] [] q] X.env = (false, eval (.Call (.Name "set" p2) [a] [] q) X.env) :: starEach [] X.env := by rfl) :
    PE X (.Call (.Name "sorted" p) [.Call (.Name "set" p2) [a] [] q] [] pos) (rd X.K T W (fSoSet f)) :=
  PEimp (pe_sortedSet hc hg hm hg2 hm2 ha na nb) fun σ H Q ⟨F0, G, F, δ, E, h⟩ => by
    refine rd_bind E h fun v s F1 H1 p1 r1 h1 => ?_
    cases hs : seqOf s.d with
    | none => rw [hs] at h1; exact h1.elim
    | some ds =>
      rw [hs] at h1
      dsimp only at h1
      cases hi : dInts ds with
      | none => rw [hi] at h1; exact h1.elim
      | some ns =>
        rw [hi] at h1
        dsimp only at h1
        split at h1
        · rename_i hl
          obtain ⟨a, vs, rfl, g1, g2⟩ := (r1.b p1.fh).seq p1.fh hs
          have e := g2.dInts hi
          subst e
          refine ⟨a, ns, rfl, g1, hl, fun q hq => ?_⟩
          have st := Stp.new (T := T) (o := .lst ((srt ns).map V.int)) p1.fh hq
          exact h1 _ _ _ (p1.trans st) ⟨q, _, rfl, Exn.back p1.hh hq, Exn.back p1.fh hq, upd_same, reps_intsU _⟩
        · exact h1.elim

/-! ### for x, y in zip(a, b) of lists -/
def zipD (ds es : List D) : List D := (ds.zip es).map fun p => .tup [p.1, p.2]
theorem walks_zip {K : PySem.W.Frag} {T : Tb} {F : Hp} {a b : Addr} {vs ws : List V} {ds es : List D} (h : SqL K F a vs) (r : Reps K T F vs ds) (h' : SqL K F b ws) (r' : Reps K T F ws es) : Walks K T (Itz K a b) F (zipD ds es) where
  go := fun i H e l => by
    unfold zipD at l
    rw [List.length_map, List.length_zip] at l
    have l1 : i < vs.length := by rw [r.length]; omega
    have l2 : i < ws.length := by rw [r'.length]; omega
    exact ⟨vs, ws, vs[i], ws[i], sqL_mono e h, sqL_mono e h', List.getElem?_eq_getElem l1, List.getElem?_eq_getElem l2⟩
  stop := fun H e => by
    refine ⟨vs, ws, sqL_mono e h, sqL_mono e h', ?_⟩
    unfold zipD
    rw [List.length_map, List.length_zip, r.length, r'.length]
    by_cases q : ds.length ≤ es.length
    · exact .inl (by omega)
    · exact .inr (by omega)
  yld := fun i F1 H1 x H2 d e e2 hd y => by
    obtain ⟨A, u, v, rfl, hA, rfl, f1, f2⟩ := y
    have g1 := f1 vs (sqL_mono (Exn.trans e e2) h)
    have g2 := f2 ws (sqL_mono (Exn.trans e e2) h')
    obtain ⟨d1, k1, k2⟩ := r.getV g1
    obtain ⟨d2, k3, k4⟩ := r'.getV g2
    unfold zipD at hd
    rw [List.getElem?_map, List.getElem?_zip_eq_some.mpr (show ds[i]? = some (d1, d2).1 ∧ es[i]? = some (d1, d2).2 from ⟨k1, k3⟩)] at hd
    cases hd
    obtain ⟨F2, st, rr⟩ := gives_tup e2 hA (.cons (k2.mono e) (.cons (k4.mono e) .nil))
    exact ⟨F2, st, rr⟩
def iZip (fa : DL.Env → Res (List SV)) : DL.Env → Res (List D) := fun δ => (fa δ).bind fun ss => match ss with
  | [.sh (.lst ds), .sh (.lst es)] => .ok (zipD ds es)
  | _ => .bad
theorem di_zip {X : Cx} {T : Tb} {W : WX} {e e2 : Expr} {p pos tpos : Pos} {elts : List Expr} {kk : Nat} {fa : DL.Env → Res (List SV)} (hg : Gl X "zip") (hm : X.mg "zip" = none) (ha : PA X [e, e2] (rdA X.K T W fa))
    (hs : starEach [e, e2] X.env = (false, eval e X.env) :: starEach [e2] X.env := by rfl) (hpl : (backTo pos (starEach [e2] X.env)).any (·.1) = false := by rfl) :
    PI X (.Tuple elts kk tpos) (.Call (.Name "zip" p) [e, e2] [] pos) (rdI X.K T W (iZip fa)) :=
  PIimp (RZ.pi_zipA hg hm ha hs hpl) fun σ H R ⟨F0, G, F, δ, E, h⟩ => by
    refine ⟨F0, G, F, δ, E, ?_⟩
    unfold iZip at h
    cases q : fa δ with
    | ex c => rw [q] at h; exact h
    | bad => rw [q] at h; exact h
    | ok ss =>
      rw [q, bind_ok] at h
      intro vs F' H' pp r
      split at h
      · rename_i ds es
        cases r with
        | cons h1 r =>
          cases r with
          | cons h2 r =>
            cases r
            cases h1 with
            | lst g1 g2 =>
              cases h2 with
              | lst k1 k2 =>
                exact ⟨_, _, _, _, rfl, .inl ⟨SqL.of (pp.fh.at g1), SqL.of (pp.fh.at k1), h _ F' H' pp (walks_zip (SqL.of g1) g2 (SqL.of k1) k2)⟩⟩
      · exact h.elim
end DL
end

section
set_option Elab.async false
set_option linter.all false
set_option autoImplicit false
set_option maxRecDepth 100000
set_option maxHeartbeats 4000000
/-! xs.extend(ys), ys a tuple. -/
namespace DL
open PySem PySem.Spec PyProof.Rows L2
open PySem.AutoSeq1 in
theorem extend_tup (l : Addr) (items : Array Value) (n : Nat) (b : Addr) (items2 : Array Value) (n2 : Nat) (dd : Option Addr) (sl : Array (Option Value)) (hs0 : ¬(!items.isEmpty && Builtin.List.listTooLong (items.size + items2.size)) = true) (hs1 : items.size ≤ sizeLine) (hs2 : items.size + items2.size ≤ sizeLine + 1) :
    Meets (Builtin.«list.extend» ⟨[.ref l, .ref b], []⟩) (fun _ R s => s.heap.get? l = some { cls := .type "list", dict := none, data := .seq items n, slots := #[] } ∧ s.heap.get? b = some { cls := .type "tuple", dict := dd, data := .seq items2 n2, slots := sl } ∧ R (.ok (.ret Value.none)) { s with heap := s.heap.update l (Obj.mapSeq fun x => x ++ items2), toks := s.toks }) :=
  .of_wp fun prog w A R s h => by
    obtain ⟨hp, g, d, tk, os⟩ := s; obtain ⟨hl, hb, h⟩ := h; have f1 := idx_int; have f2 := PySem.AutoSeq1.sub_tuple_tuple; have f3 := PySem.AutoSeq1.sub_list_list; have f4 := PySem.AutoSeq1.sub_tuple_list; have f5 := PySem.AutoSeq1.sub_list_tuple
    have hz' : (items ++ items2).size ≤ sizeLine + 1 := by rw [Array.size_append]; exact hs2
    wp_walk using (wpAny_updateSeq hl rfl (hz := hs1) (_hz' := hz')), wpAny_loadPart' hl, wpAny_loadPart' hb
    exact ⟨_, rfl, h⟩
def rExtendT (K : PySem.W.Frag) : V → List V → Hp → VK → Prop := fun x vs H Q => ∃ l b xs zs, x = .ref l ∧ vs = [.ref b] ∧ H l = some (.lst xs) ∧ SqT K H b zs ∧ xs.length + zs.length ≤ sizeLine ∧ Q .non (upd H l (.lst (xs ++ zs)))
theorem mt_extendT {X : Cx} : MtR X "list.extend" (rExtendT X.K) := by
  intro pins s σ H x vs v us Q I rx rv h
  obtain ⟨l, b, xs, zs, rfl, rfl, hH, hB, hz, q⟩ := h
  cases rx
  obtain ⟨u, rfl, ru⟩ := rv.one
  cases ru
  obtain ⟨z, its, n, r, hl, e⟩ := I.lstM hH
  obtain ⟨its2, r2, p2, _⟩ := I.tuple hB
  obtain ⟨⟨oc, od, oda, osl⟩, e2, hc, n2, hd⟩ := p2
  simp only at hc hd
  subst hc
  subst hd
  have hl2 := r2.length
  have hsz : its.toArray.size + its2.toArray.size ≤ sizeLine := by rw [List.size_toArray, List.size_toArray]; omega
  have hlong : ¬ (!its.toArray.isEmpty && Builtin.List.listTooLong (its.toArray.size + its2.toArray.size)) = true := by
    rw [notLongL hsz, Bool.and_false]
    exact Bool.false_ne_true
  refine call_meets F.slot_list_extend ⟨_, e, rfl⟩ F.entry_list_extend (F.args_list_extend_2 _ _)
    (extend_tup l its.toArray n b its2.toArray n2 od osl hlong (by rw [List.size_toArray]; omega) (by omega)) ⟨e, e2, ?_⟩
  refine ⟨.non, _, I.lset (its' := its ++ its2) hH e (by simp) (r.append r2) ?_, rfl, q⟩
  rw [List.length_append]
  omega
theorem mt_extendA {X : Cx} : MtR X "list.extend" (fun x xs H Q => rExtend x xs H Q ∨ rExtendT X.K x xs H Q) := fun pins s σ H x xs v us Q I rx rxs h => h.elim (mt_extend pins s σ H x xs v us Q I rx rxs) (mt_extendT pins s σ H x xs v us Q I rx rxs)
def mExtendA (ds es : List D) : Option (List D × D) := match es with
  | [.tup ys] => if ds.length + ys.length ≤ sizeLine then some (ds ++ ys, .non) else none
  | _ => mExtend ds es
theorem good_extendA {K : PySem.W.Frag} {T : Tb} : GoodMu K T (fun x xs H Q => rExtend x xs H Q ∨ rExtendT K x xs H Q) mExtendA := fun F H a vs us ds es ds' d Q eh h1 h2 h3 h k => by
  unfold mExtendA at h
  split at h
  · rename_i ys
    by_cases l : ds.length + ys.length ≤ sizeLine
    · rw [if_pos l] at h
      cases h
      cases h3 with
      | cons g1 r =>
        cases r
        cases g1 with
        | tup g2 g3 => exact .inr ⟨a, _, vs, _, rfl, rfl, h1, sqT_mono eh g2, by rw [h2.length, g3.length]; exact l, k _ _ (h2.append g3) .non⟩
    · rw [if_neg l] at h
      cases h
  · exact .inl (good_extend F H a vs us ds es ds' d Q eh h1 h2 h3 h k)
end DL
end

section
set_option Elab.async false
set_option linter.all false
set_option autoImplicit false
set_option maxRecDepth 100000
set_option maxHeartbeats 4000000
/-! An expression that walks a list of ours, which grows later. -/
namespace DL
open PySem PySem.Spec PyProof.Rows L2
theorem cutF_keepW {F F1 H H1 : Hp} (e : Exn F1 H1) (e2 : Exn H H1) {a : Addr} {o : HO} (h : F1 a = some o) (n : isM o = false) (t : isTbl o = false) : cutF F F1 H a = some o := by
  unfold cutF
  rw [if_neg]
  · exact h
  · rintro ⟨_, u, m, q⟩
    have x := e.a a _ h t
    have y := e2.a a _ q (nt_isM m)
    rw [x] at y
    cases y
    rw [n] at m
    cases m
mutual
theorem Rep.noLcutW {K : PySem.W.Frag} {T : Tb} {F F1 H H1 : Hp} (e : Exn F1 H1) (e2 : Exn H H1) : ∀ {v : V} {d : D}, Rep K T F1 v d → noL d = true → Rep K T (cutF F F1 H) v d
  | _, _, .non, _ => .non
  | _, _, .bl b, _ => .bl b
  | _, _, .int i, _ => .int i
  | _, _, .str s, _ => .str s
  | _, _, .tup h r, n => .tup (by
      rcases h with (h | ⟨o, h⟩) | h
      · exact .inl (.inl (cutF_keepW e e2 h rfl rfl))
      · exact .inl (.inr ⟨o, cutF_keepW e e2 h rfl rfl⟩)
      · exact .inr h) (Reps.noLcutW e e2 r (by unfold noL at n; exact n))
  | _, _, .lst _ _, n => by unfold noL at n; cases n
  | _, _, .scr _ _, n => by unfold noL at n; cases n
  | _, _, .ins _ _, n => by unfold noL at n; cases n
  | _, _, .exc _, n => by unfold noL at n; cases n
  | _, _, .clo _ _ _ _ _, n => by unfold noL at n; cases n
  | _, _, .dic _ _ _, n => by unfold noL at n; cases n
  | _, _, .gfn k, n => .gfn k
theorem Reps.noLcutW {K : PySem.W.Frag} {T : Tb} {F F1 H H1 : Hp} (e : Exn F1 H1) (e2 : Exn H H1) : ∀ {v : List V} {d : List D}, Reps K T F1 v d → noLs d = true → Reps K T (cutF F F1 H) v d
  | _, _, .nil, _ => .nil
  | _, _, .cons h r, n => by
    unfold noLs at n
    rw [Bool.and_eq_true] at n
    exact .cons (Rep.noLcutW e e2 h n.1) (Reps.noLcutW e e2 r n.2)
end
theorem Stp.cutW {T : Tb} {F F' H F1 H1 : Hp} (e : Exn F F') (p : Stp T F' H F1 H1) : Stp T F H (cutF F F1 H) H1 :=
  ⟨cutF_sup (Exn.trans e p.ff), Exn.trans cutF_sub p.fh, p.hh, fun a o m h1 h2 => by
    unfold cutF
    rw [if_pos ⟨h1, o, m, h2⟩], p.tb⟩
def fBor (i : Nat) (f : DL.Env → Res SV) : DL.Env → Res SV := fun δ => match δ[i]? with
  | some (.ow ds) => (match f (δ.set i (.sh (.lst ds))) with
    | .ok (.sh d) => if noL d = true then .ok (.sh d) else .bad
    | .ok (.ow es) => if noLs es = true then .ok (.ow es) else .bad
    | .ex c => .ex c
    | _ => .bad)
  | _ => f δ
theorem rd_bor {K : PySem.W.Frag} {T : Tb} {W : WX} {i : Nat} {f : DL.Env → Res SV} {σ : L2.St} {H : Hp} {Q : VK} (h : rd K T W (fBor i f) σ H Q) : rd K T W f σ H Q := by
  obtain ⟨F0, G, F, δ, E, h⟩ := h
  unfold fBor at h
  split at h
  · rename_i ds hi
    obtain ⟨F', q, E'⟩ := E.freeze hi
    refine ⟨F0, G, F', _, E', ?_⟩
    revert h
    cases f (δ.set i (.sh (.lst ds))) with
    | ok s =>
      cases s with
      | sh d =>
        intro h v F1 H1 p r
        by_cases sc : noL d = true
        · simp only [if_pos sc] at h
          exact h v _ H1 (Stp.cutW q p) (Rep.noLcutW p.fh p.hh r sc)
        · simp only [if_neg sc] at h; exact h.elim
      | ow es =>
        intro h v F1 H1 p r
        by_cases sc : noLs es = true
        · simp only [if_pos sc] at h
          obtain ⟨a, vs, rfl, q1, q2, q3, q4⟩ := r
          refine h _ _ H1 (Stp.cutW q p) ⟨a, vs, rfl, q1, ?_, q3, Reps.noLcutW p.fh p.hh q4 sc⟩
          unfold cutF
          split
          · rfl
          · exact q2
        · simp only [if_neg sc] at h; exact h.elim
      | br i ds => exact fun h => h.elim
    | ex c => exact fun h F1 H1 p => h _ H1 (Stp.cutW q p)
    | bad => exact fun h => h.elim
  · exact ⟨F0, G, F, δ, E, h⟩
theorem de_bor {X : Cx} {T : Tb} {W : WX} {i : Nat} {e : Expr} {f : DL.Env → Res SV} (h : PE X e (rd X.K T W f)) : PE X e (rd X.K T W (fBor i f)) := PEimp h fun _ _ _ => rd_bor
theorem ds_setLcB {X : Cx} {T : Tb} {W : WX} {i j : Nat} {y : Str} {py : Pos} {elt tg iter : Expr} {ifs : List Expr} {scope : Scope} {own : List (Str × Nat)} {pos spos : Pos} {fi : DL.Env → Res (List D)} {is : List Nat} {g : D → DL.Env → Option DL.Env} {ft : DL.Env → Res Bool} {fe : DL.Env → Res SV} (hv : ∀ i ∈ is, i ∈ own.map (·.2)) (hc : X.calm = true) (hN : X.N.Nodup) (hy : X.N[i]? = some y) (hyl : X.env.scope.names.lookup y = some .local)
    (hsw : swapsWith (.ListComp elt [⟨tg, iter, ifs, 0⟩] scope pos) (some (.Name y py)) spos.line X.env = pure true) (hi : PI X tg iter (rdI X.K T W fi)) (ok : BlkOk X.N X.env.scope scope own)
    (hg : ∀ (s : Shared) (H : Hp) (C : Addr) (cl : List (Str × Addr)) (fp : List Addr), PG (X.blk s H scope (compEnvC scope cl C X.env) fp) tg (rdG X.K T is g)) (ht : ∀ (s : Shared) (H : Hp) (C : Addr) (cl : List (Str × Addr)) (fp : List Addr), PTs (X.blk s H scope (compEnvC scope cl C X.env) fp) ifs (rdT X.K T WF ft))
    (he : ∀ (s : Shared) (H : Hp) (C : Addr) (cl : List (Str × Addr)) (fp : List Addr), PE (X.blk s H scope (compEnvC scope cl C X.env) fp) elt (rd X.K T WF fe)) (hs : ∀ x, foldedSetIterable iter X.env x = pure x := by intro _; rfl) :
    PS X (.Assign [.Name y py] (.ListComp elt [⟨tg, iter, ifs, 0⟩] scope pos) spos) (rdS X.K T W (fAsg i (fBor j (fLc fi g ft fe (own.map (·.2)))))) := PSimp (ps_setLc hc hN hy hyl hsw hi ok hg ht he hs) fun D σ H h => by
  obtain ⟨F0, G, F, δ, E, h⟩ := h
  refine rd_lc hv (rd_bor (rd_out E h fun v s F' H' p r h1 => ?_))
  cases q : slotOf s with
  | none => rw [q] at h1; exact h1.elim
  | some sl =>
    rw [q] at h1
    exact h1 _ F' H' (E.setS p r q) p.ff
end DL
end

section
set_option Elab.async false
set_option linter.all false
set_option autoImplicit false
set_option maxRecDepth 100000
set_option maxHeartbeats 4000000
/-! text.replace(..) of written texts, within a written list behind an item with a written text. -/
namespace DL
open PySem PySem.Spec PyProof.Rows L2
/-- behind e a token is out -/
def PEG (X : Cx) (e : Expr) (t : TE) : Prop :=
  ∀ (pins : List (Addr × Obj)) (s : Shared) (σ : L2.St) (H : Hp) (Q : VK), Inv X pins σ H s → t σ H Q → wpAny (model X.prog X.w) X.A (eval e X.env) (fun v s' => 1 ≤ s'.toks ∧ EP X pins σ Q v s') X.xe s
section
variable {X : Cx} {T : Tb} {W : WX} {e : Expr} {es : List Expr} {pos : Pos}
theorem PEG.imp {t t' : TE} (h : PEG X e t) (i : ∀ σ H Q, t' σ H Q → t σ H Q) : PEG X e t' := fun pins s σ H Q I q => h pins s σ H Q I (i σ H Q q)
theorem PETimp {t t' : TE} (h : PET X e t) (i : ∀ σ H Q, t' σ H Q → t σ H Q) : PET X e t' := fun pins s σ H Q h0 I q => h pins s σ H Q h0 I (i σ H Q q)
theorem PATimp {t t' : TA} (h : PAT X es t) (i : ∀ σ H Q, t' σ H Q → t σ H Q) : PAT X es t' := fun p pins s σ H Q h0 I q => h p pins s σ H Q h0 I (i σ H Q q)
/-- e op 'text' -/
theorem peg_op {op : Operator} {r : R2} {te : TE} {c : Str} {j : Nat} {cpos : Pos} (ho : OpR X (binaryOp op) r) (ha : PE X e te) : PEG X (.BinOp e op (.Constant (.str c) j cpos) pos) (tOp r te (tC (.str c))) := by
  intro pins s σ H Q I h
  refine wpAny_BinOp (thn (ha.run pins s σ H _ I h) fun v s1 ⟨x, H1, I1, r1, q1⟩ => ?_)
  refine Calls.Constant_str ?_
  refine wpAny_mono (PySem.wpAny_toks (ho pins { s1 with toks := s1.toks + 1 } σ H1 x (V.str c) v (Value.str c s1.toks) Q (I1.tok (s1.toks + 1)) r1 ⟨s1.toks, rfl⟩ q1)) (fun u s2 q => ?_) fun _ _ z => z.2
  have hk : s1.toks + 1 ≤ s2.toks := q.1
  exact ⟨by omega, q.2⟩
theorem pag_cons {te : TE} {ta : TA} (ha : PEG X e te) (hr : PAT X es ta) (hs : starEach (e :: es) X.env = (false, eval e X.env) :: starEach es X.env := by rfl) : PA X (e :: es) (tCons te ta) := by
  refine ⟨fun pos pins s σ H Q I h => ?_⟩
  rw [hs]
  show wpAny _ _ (spliced ((false, eval e X.env) :: backTo pos (starEach es X.env))) _ _ s
  refine Calls.spliced_cons (thn (ha pins s σ H _ I h) fun v s1 q => ?_)
  obtain ⟨hk, x, H1, I1, r1, q1⟩ := q
  exact thn (hr pos pins s1 σ H1 _ hk I1 q1) fun us s2 ⟨xs, H2, I2, r2, q2⟩ => ⟨x :: xs, H2, I2, .cons r1 r2, q2⟩
theorem aCons_of {fa : DL.Env → Res SV} {fr : DL.Env → Res (List SV)} {σ : L2.St} {H : Hp} {Q : List V → Hp → Prop} (h : rdA X.K T W (aCons fa fr) σ H Q) : tCons (rd X.K T W fa) (rdA X.K T W fr) σ H Q := by
  obtain ⟨F0, G, F, δ, E, h⟩ := h
  refine rd_bindA E h fun x s F1 H1 p1 r1 h1 => ?_
  obtain ⟨F1, p1, r1⟩ := r1.fz p1
  refine rdA_bindA (E.grow p1) (h1.later p1) fun vs ss F2 H2 p2 r2 h2 => ?_
  exact h2 (x :: vs) F2 H2 p2 (.cons (r1.anyz.mono p2) r2)
theorem dat_nil : PAT X [] (rdA X.K T W aNil) := PATimp pat_nil fun σ H Q ⟨F0, G, F, δ, E, h⟩ => h [] F H (Stp.refl E.fh) .nil
theorem dat_cons {fa : DL.Env → Res SV} {fr : DL.Env → Res (List SV)} (ha : PET X e (rd X.K T W fa)) (hr : PAT X es (rdA X.K T W fr)) (hs : starEach (e :: es) X.env = (false, eval e X.env) :: starEach es X.env := by rfl) : PAT X (e :: es) (rdA X.K T W (aCons fa fr)) :=
  PATimp (pat_cons ha hr hs) fun _ _ _ => aCons_of
theorem dag_cons {fa : DL.Env → Res SV} {fr : DL.Env → Res (List SV)} (ha : PEG X e (rd X.K T W fa)) (hr : PAT X es (rdA X.K T W fr)) (hs : starEach (e :: es) X.env = (false, eval e X.env) :: starEach es X.env := by rfl) : PA X (e :: es) (rdA X.K T W (aCons fa fr)) :=
  PAimp (pag_cons ha hr hs) fun _ _ _ => aCons_of
theorem rd_opC {K : PySem.W.Frag} {σ : L2.St} {H : Hp} {Q : VK} {r : R2} {g : D → D → Option SV} {fa : DL.Env → Res SV} {c : Str} (hg : Good2 K T r g) (h : rd K T W (f2 g fa (fC (.str c))) σ H Q) : tOp r (rd K T W fa) (tC (.str c)) σ H Q := by
  obtain ⟨F0, G, F, δ, E, h⟩ := h
  refine rd_bind E h fun x s F1 H1 p1 r1 h1 => ?_
  have h1 : REnd K T W F H σ δ Q (Res.ofO (g s.d (.str c))) := h1
  cases q : g s.d (.str c) with
  | none => rw [q] at h1; exact h1.elim
  | some z =>
    rw [q] at h1
    exact hg F1 H1 x (.str c) s.d (.str c) z Q p1.fh (r1.b p1.fh) (.str _) q fun v H' gv => gives_end gv (h1.later p1)
theorem dg_op {op : Operator} {r : R2} {g : D → D → Option SV} {fa : DL.Env → Res SV} {c : Str} {j : Nat} {cpos : Pos} (ho : OpR X (binaryOp op) r) (hg : Good2 X.K T r g) (ha : PE X e (rd X.K T W fa)) : PEG X (.BinOp e op (.Constant (.str c) j cpos) pos) (rd X.K T W (f2 g fa (fC (.str c)))) :=
  PEG.imp (peg_op ho ha) fun σ H Q h => rd_opC hg h
theorem dt_of {fa : DL.Env → Res SV} (h : PE X e (rd X.K T W fa)) : PET X e (rd X.K T W fa) := CwR.PET.of h
def fRepl (f : DL.Env → Res SV) (y z : Str) : DL.Env → Res SV := fun δ => (f δ).bind fun s => match s with
  | .sh (.str x) => if x.length + (x.length + 1) * z.length ≤ 16777216 then .ok (.sh (.str (Txt.replace x y z))) else .bad
  | _ => .bad
theorem dt_repl {y z : Str} {j k : Nat} {c0 c1 apos : Pos} {f : DL.Env → Res SV} (ho : PE X e (rd X.K T W f)) (hyz : (y == z) = false := by decide)
    (hst : starEach [.Constant (.str y) j c0, .Constant (.str z) k c1] X.env = [(false, eval (.Constant (.str y) j c0) X.env), (false, eval (.Constant (.str z) k c1) X.env)] := by rfl)
    (hbase : attributeBase e "replace" X.env (eval e X.env) = eval e X.env := by rfl) (hline : (apos.endLine == pos.line) = true := by rfl) :
    PET X (.Call (.Attribute e "replace" apos) [.Constant (.str y) j c0, .Constant (.str z) k c1] [] pos) (rd X.K T W (fRepl f y z)) :=
  PETimp (CwR.pet_replC ho hyz hst hbase hline) fun σ H Q ⟨F0, G, F, δ, E, h⟩ => by
    refine rd_bind E h fun v s F1 H1 p1 r1 h1 => ?_
    cases s with
    | sh d =>
      cases d with
      | str x =>
        dsimp only at h1
        split at h1
        · rename_i hl
          cases r1
          exact ⟨x, rfl, hl, h1 _ _ _ p1 (.str _)⟩
        · exact h1.elim
      | _ => exact h1.elim
    | _ => exact h1.elim
end
end DL
end

section
set_option Elab.async false
set_option linter.all false
set_option autoImplicit false
set_option maxRecDepth 100000
set_option maxHeartbeats 4000000
/-! Methods, told apart by the instance's class; instances of classes without an own __init__. -/
namespace DL
open PySem PySem.Spec PyProof.Rows L2
/-- the method m at the classes cs, each by its own reading -/
structure MtC (P : Program) (w : World) (K : PySem.W.Frag) (mg : Str → Option Value) (base : Heap) (CX : CXT) (T : Tb) (k : Nat) (m : Str) (cs : List Nat) (n : Nat) (phi : Nat → List D → Res SV) (dds : List D) : Prop where
  ex : ∀ c, c ∈ cs → ∃ (f : Addr) (fd : FuncData) (ps : List Str) (dvs : List V) (ds : List Value), Cls K (T.CA c) ∧ Meth K (T.CA c) m f ∧ FnOk P w K mg base CX k f fd ps (SpF K T n (phi c)) ∧ Binds K fd ps ds ∧ Vals dvs ds ∧ ∀ F, Reps K T F dvs dds
def fCallK (n : Nat) (phi : List D → Res SV) (dds : List D) (ss : List SV) : Res SV := if ss.length + dds.length = n then match stills ss with
  | some ds => phi (ds ++ dds)
  | none => match phi (ss.map SV.d ++ dds) with
    | .ok (.sh d) => if noL d = true then .ok (.sh d) else .bad
    | .ok (.ow es) => if noLs es = true then .ok (.ow es) else .bad
    | .ex c => .ex c
    | _ => .bad else .bad
def fMeth (m : Str) (cs : List Nat) (n : Nat) (phi : Nat → List D → Res SV) (dds : List D) (fo : DL.Env → Res SV) (fa : DL.Env → Res (List SV)) : DL.Env → Res SV := fun δ => (fo δ).bind fun s => match s with
  | .sh (.ins c fs) => if c ∈ cs ∧ fs.lookup m = none then (fa δ).bind fun ss => fCallK n (phi c) dds (.sh (.ins c fs) :: ss) else .bad
  | _ => .bad
theorem call_fin {K : PySem.W.Frag} {T : Tb} {W : WX} {σ σ0 : L2.St} {δ δ0 : DL.Env} {F H F1 H1 : Hp} {Q : VK} {n : Nat} {phi : List D → Res SV} {dvs vs : List V} {dds : List D} {ss : List SV} (hd : ∀ F, Reps K T F dvs dds) (tg : TbG T H) (p1 : Stp T F H F1 H1) (r1 : RepSs K T F1 H1 H σ0 δ0 vs ss) (h1 : REnd K T W F H σ δ Q (fCallK n phi dds ss)) :
    SpF K T n phi (vs ++ dvs) H1 Q (WE W σ) := by
  unfold fCallK at h1
  by_cases l : ss.length + dds.length = n
  · rw [if_pos l] at h1
    refine ⟨by rw [List.length_append, r1.length, (hd F).length]; exact l, p1.tb tg, ?_⟩
    cases q : stills ss with
    | some ds =>
      rw [q] at h1
      dsimp only at h1
      refine ⟨F1, ds ++ dds, p1.fh, (stills_reps r1 q).append (hd F1), ?_⟩
      revert h1
      cases phi (ds ++ dds) with
      | ok s => exact fun h1 v H' g => gives_end g (h1.later p1)
      | ex c => exact fun h1 F' H' p => h1 F' H' (p1.trans p)
      | bad => exact fun h1 => h1
    | none =>
      rw [q] at h1
      dsimp only at h1
      refine ⟨H1, ss.map SV.d ++ dds, Exn.refl _, ((r1.toB p1.fh).full p1.fh).append (hd H1), ?_⟩
      revert h1
      cases phi (ss.map SV.d ++ dds) with
      | ok s =>
        intro h1 v H' g
        obtain ⟨F2, p2, r2⟩ := g
        cases s with
        | sh d =>
          by_cases sc : noL d = true
          · simp only [if_pos sc] at h1
            exact (h1.later p1) v (cutF F1 F2 H1) H' (Stp.cut p1.fh p2) (Rep.noLcut p2.ff r2 sc)
          · simp only [if_neg sc] at h1; exact h1.elim
        | ow ds =>
          by_cases sc : noLs ds = true
          · simp only [if_pos sc] at h1
            obtain ⟨a, vs, rfl, q1, q2, q3, q4⟩ := r2
            refine (h1.later p1) _ (cutF F1 F2 H1) H' (Stp.cut p1.fh p2) ⟨a, vs, rfl, q1, ?_, q3, Reps.noLcut p2.ff q4 sc⟩
            unfold cutF
            split
            · rfl
            · exact q2
          · simp only [if_neg sc] at h1; exact h1.elim
        | br i ds => exact h1.elim
      | ex c => exact fun h1 F' H' p => (h1.later p1) F1 H' ⟨Exn.refl _, Exn.trans p1.fh p.hh, p.hh, fun _ _ _ z _ => z, p.tb⟩
      | bad => exact fun h1 => h1.elim
  · rw [if_neg l] at h1; exact h1.elim
theorem lookN {K : PySem.W.Frag} {T : Tb} {F : Hp} : ∀ {v : List (Str × V)} {d : List (Str × D)} {f : Str}, Repf K T F v d → d.lookup f = Option.none → v.lookup f = Option.none
  | _, _, _, .nil, _ => rfl
  | _, _, f, .cons (x := g) h r, e => by
    cases q : f == g with
    | true =>
      simp only [List.lookup_cons, q] at e
      cases e
    | false =>
      simp only [List.lookup_cons, q] at e ⊢
      exact lookN r e
section
variable {X : Cx} {T : Tb} {W : WX} {CX : CXT} {k j n : Nat} {m : Str} {cs : List Nat} {phi : Nat → List D → Res SV} {dds : List D} {fo : DL.Env → Res SV} {fa : DL.Env → Res (List SV)} {o e : Expr} {es : List Expr} {pos apos : Pos} {pl : Sem Bool}
theorem de_meth (M : MtC X.prog X.w X.K X.mg X.base CX T k m cs n phi dds) (hr : Room j X.A) (hkj : k ≤ j) (hx : ∀ σ, PassesAt CX X σ (WE W σ)) (ho : PE X o (rd X.K T W fo)) (ha : PA X (e :: es) (rdA X.K T W fa))
    (hst : starEach (e :: es) X.env = (false, eval e X.env) :: starEach es X.env := by rfl) (hpl : (backTo pos (starEach es X.env)).any (·.1) = false := by rfl)
    (ht : eval (.Call (.Attribute o m apos) (e :: es) [] pos) X.env = (do
      let ov ← eval o X.env
      standAt apos.atName
      let (f, first) ← holding [ov] (getMethod ov m pl)
      callWith pos f first (backTo pos (starEach (e :: es) X.env)) (backToKw pos (keywordEach [] X.env))) := by rfl) :
    PE X (.Call (.Attribute o m apos) (e :: es) [] pos) (rd X.K T W (fMeth m cs n phi dds fo fa)) := by
  refine ⟨fun pins s σ H Q I h => ?_⟩
  obtain ⟨F0, G, F, δ, E, h⟩ := h
  have hX : rd X.K T W fo σ H fun x H1 => ∃ (c : Nat) (a dx : Addr) (gs : List (Str × V)) (f : Addr) (fd : FuncData) (ps : List Str) (dvs : List V) (ds : List Value), x = .ref a ∧ H1 a = some (.ins (T.CA c) dx gs) ∧ gs.lookup m = none ∧ Cls X.K (T.CA c) ∧ Meth X.K (T.CA c) m f ∧
      FnOk X.prog X.w X.K X.mg X.base CX k f fd ps (SpF X.K T n (phi c)) ∧ Binds X.K fd ps ds ∧ Vals dvs ds ∧ rdA X.K T W fa σ H1 fun vs H2 => SpF X.K T n (phi c) ((.ref a :: vs) ++ dvs) H2 Q (WE W σ) := by
    refine rd_bind E h fun x s F1 H1 p1 r1 h1 => ?_
    cases s with
    | sh d =>
      cases d with
      | ins c fs =>
        dsimp only at h1
        split at h1
        · rename_i hc
          obtain ⟨f, fd, ps, dvs, ds, g1, g2, g3, g4, g5, g6⟩ := M.ex c hc.1
          cases r1 with
          | ins q1 q2 =>
            refine ⟨c, _, _, _, f, fd, ps, dvs, ds, rfl, p1.fh.at q1, lookN q2 hc.2, g1, g2, g3, g4, g5, ?_⟩
            refine rdA_bind (E.grow p1) (h1.later p1) fun vs ss F2 H2 p2 r2 h2 => ?_
            exact call_fin g6 (p1.tb E.tb) p2 (RepSs.cons (s := SV.sh (.ins c fs)) ((Rep.ins q1 q2).mono p2.ff) r2) h2
        · exact h1.elim
      | _ => exact h1.elim
    | _ => exact h1.elim
  refine PySem.W.methodCall_KW (pl := pl) (thn (ho.run pins s σ H _ I hX) fun u s1 ⟨x, H1, I1, rx, c, a, dx, gs, f, fd, ps, dvs, ds, ex, ea, l, g1, g2, g3, g4, g5, q⟩ => ?_) ht
  subst ex
  obtain rfl : u = Value.ref a := rx
  refine getmeth_ok I1 ea g1 g2 l ?_
  refine PySem.W.callWith_K (first := [.ref a]) (h₀ := X.base) I.ok.mod.kin g2.kp (thn (ha.run pos pins s1 σ H1 _ I1 q) fun us s2 ⟨vs, H2, I2, r, q2⟩ => ⟨I2.kIn, ?_⟩) hst hpl
  exact run_fnSD (us := .ref a :: us) (vs := .ref a :: vs) g3 (hr.mono hkj) g4 g5 (hx σ) I2 (.cons rfl r) q2
theorem de_meth0 (M : MtC X.prog X.w X.K X.mg X.base CX T k m cs n phi dds) (hr : Room j X.A) (hkj : k ≤ j) (hx : ∀ σ, PassesAt CX X σ (WE W σ)) (ho : PE X o (rd X.K T W fo))
    (ht : eval (.Call (.Attribute o m apos) [] [] pos) X.env = (do
      let ov ← eval o X.env
      standAt apos.atName
      let (f, first) ← holding [ov] (getMethod ov m pl)
      callWith pos f first (backTo pos (starEach [] X.env)) (backToKw pos (keywordEach [] X.env))) := by rfl) :
    PE X (.Call (.Attribute o m apos) [] [] pos) (rd X.K T W (fMeth m cs n phi dds fo aNil)) := by
  refine ⟨fun pins s σ H Q I h => ?_⟩
  obtain ⟨F0, G, F, δ, E, h⟩ := h
  have hX : rd X.K T W fo σ H fun x H1 => ∃ (c : Nat) (a dx : Addr) (gs : List (Str × V)) (f : Addr) (fd : FuncData) (ps : List Str) (dvs : List V) (ds : List Value), x = .ref a ∧ H1 a = some (.ins (T.CA c) dx gs) ∧ gs.lookup m = none ∧ Cls X.K (T.CA c) ∧ Meth X.K (T.CA c) m f ∧
      FnOk X.prog X.w X.K X.mg X.base CX k f fd ps (SpF X.K T n (phi c)) ∧ Binds X.K fd ps ds ∧ Vals dvs ds ∧ SpF X.K T n (phi c) ((.ref a :: []) ++ dvs) H1 Q (WE W σ) := by
    refine rd_bind E h fun x s F1 H1 p1 r1 h1 => ?_
    cases s with
    | sh d =>
      cases d with
      | ins c fs =>
        dsimp only at h1
        split at h1
        · rename_i hc
          obtain ⟨f, fd, ps, dvs, ds, g1, g2, g3, g4, g5, g6⟩ := M.ex c hc.1
          cases r1 with
          | ins q1 q2 =>
            refine ⟨c, _, _, _, f, fd, ps, dvs, ds, rfl, p1.fh.at q1, lookN q2 hc.2, g1, g2, g3, g4, g5, ?_⟩
            have h2 : REnd X.K T W F H σ δ Q (fCallK n (phi c) dds [.sh (.ins c fs)]) := h1
            exact call_fin (σ0 := σ) (δ0 := δ) g6 E.tb p1 (RepSs.cons (s := SV.sh (.ins c fs)) (Rep.ins q1 q2) .nil) h2
        · exact h1.elim
      | _ => exact h1.elim
    | _ => exact h1.elim
  refine PySem.W.methodCall_KW (pl := pl) (thn (ho.run pins s σ H _ I hX) fun u s1 ⟨x, H1, I1, rx, c, a, dx, gs, f, fd, ps, dvs, ds, ex, ea, l, g1, g2, g3, g4, g5, q⟩ => ?_) ht
  subst ex
  obtain rfl : u = Value.ref a := rx
  refine getmeth_ok I1 ea g1 g2 l ?_
  exact PySem.W.callWith_K0 (first := [.ref a]) I1.kIn g2.kp (run_fnSD (us := [.ref a]) (vs := [.ref a]) g3 (hr.mono hkj) g4 g5 (hx σ) I1 (.cons rfl .nil) q)
end
end DL
namespace DL
open PySem PySem.Spec PyProof.Rows L2
/-! ### C() where there is no __init__ but object's -/
structure Mk0 (K : PySem.W.Frag) (C : Addr) : Prop where
  makes : PySem.W.makesIn K C = true
  init : PySem.W.findIn K (.ref C) "__init__" = some (some (.builtin "object.__init__"))
  kp : PySem.W.keepIn K (.ref C) = true
def mk0B (K : PySem.W.Frag) (C : Addr) : Bool := PySem.W.makesIn K C && (decide (PySem.W.findIn K (.ref C) "__init__" = some (some (.builtin "object.__init__"))) && PySem.W.keepIn K (.ref C))
theorem mk0_ok {K : PySem.W.Frag} {C : Addr} (h : mk0B K C = true) : Mk0 K C := by
  unfold mk0B at h
  simp only [Bool.and_eq_true, decide_eq_true_eq] at h
  exact ⟨h.1, h.2.1, h.2.2⟩
theorem run_mk0 {X : Cx} {C : Addr} {pins : List (Addr × Obj)} {σ : L2.St} {H : Hp} {s : Shared} {Q : VK} (M : Mk0 X.K C) (I : Inv X pins σ H s)
    (h : ∀ x dx, H x = none → H dx = none → dx ≠ x → Q (.ref x) (upd (upd H dx (.own x)) x (.ins C dx []))) : wpAny (model X.prog X.w) X.A (call (.ref C) []) (EP X pins σ Q) X.xe s := by
  have q0 := h (s.heap.objs.size + 1) s.heap.objs.size (I.hok.fresh (Nat.le_add_right _ 1)) (I.hok.fresh (Nat.le_refl _)) (Nat.ne_of_lt (Nat.lt_succ_self _))
  have J := Inv.made (C := C) I
  have Y := PySem.W.makes_of (M := model X.prog X.w) I.kIn M.makes
  refine wpAny_call (make_map0 I.kIn M.makes M.init (fun self => PySem.W.Looks.of_pure (PySem.W.oi_bind self)) ?_)
  have ob : ((s.heap.push PySem.W.emptyDict).push (PySem.W.instObj C s.heap.objs.size)).get? (s.heap.objs.size + 1) = some (PySem.W.instObj C s.heap.objs.size) := by
    have := Heap.get?_push_size (s.heap.push PySem.W.emptyDict) (o := PySem.W.instObj C s.heap.objs.size) rfl
    rwa [Heap.size_push] at this
  have t1 : PySem.W.Looks (model X.prog X.w) ((s.heap.push PySem.W.emptyDict).push (PySem.W.instObj C s.heap.objs.size)) (typeOf (.ref (s.heap.objs.size + 1))) (.ref C) := (PySem.W.Looks.ld ob).andThen .now
  have t2 : PySem.W.Looks (model X.prog X.w) ((s.heap.push PySem.W.emptyDict).push (PySem.W.instObj C s.heap.objs.size)) (isInstance (.ref (s.heap.objs.size + 1)) (.type "object")) true := t1.andThen (Y.top.keeps fun b o e => Heap.get?_push_of_some _ (Heap.get?_push_of_some _ e))
  refine codeAny_call_builtin PySem.W.oi_plain PySem.W.entry_oi (@PySem.W.check_slot (model X.prog X.w) _ _ _ "object.__init__" "object" "__init__" (.ref (s.heap.objs.size + 1)) [] [] _ PySem.W.oi_kind PySem.W.oi_split t2 (PySem.W.oi_args (.ref (s.heap.objs.size + 1))) ?_)
  rw [PySem.W.oi_run]
  exact wpAny_pure (And.intro rfl ⟨V.ref (s.heap.objs.size + 1), _, J, rfl, q0⟩)
theorem de_mk0 {X : Cx} {T : Tb} {W : WX} {c : Nat} {x : Str} {p pos : Pos} (M : Mk0 X.K (T.CA c)) (hg : Gl X x) (hm : X.mg x = some (.ref (T.CA c))) (hdb : (x == ("__debug__" : Str)) = false := by decide) :
    PE X (.Call (.Name x p) [] [] pos) (rd X.K T W (fC (.ins c []))) := by
  refine ⟨fun pins s σ H Q I ⟨F0, G, F, δ, E, h⟩ => ?_⟩
  refine wpAny_Call_Name_kw (ld_glob I hg hm ?_ hdb)
  refine PySem.W.callWith_K0 I.kIn M.kp (run_mk0 M I fun a dx ha hdx hne => ?_)
  have h1 : Stp T F H F (upd H dx (.own a)) := Stp.new E.fh hdx
  have ha' : upd H dx (.own a) a = none := by rw [upd_ne (Ne.symm hne)]; exact ha
  have h2 : Stp T F H F (upd (upd H dx (.own a)) a (.ins (T.CA c) dx [])) := h1.trans (Stp.new h1.fh ha')
  have hF : F a = none := by
    cases q : F a with
    | none => rfl
    | some o => rw [E.fh.n a ha] at q; cases q
  have h3 := h2.fz ha hF upd_same
  exact h _ _ _ h3 (.ins upd_same .nil)
end DL
end

section
set_option Elab.async false
set_option linter.all false
set_option autoImplicit false
set_option maxRecDepth 100000
set_option maxHeartbeats 4000000
/-! Within an __init__: self's attributes read, a base's __init__ called; isinstance of own classes. -/
namespace DL
open PySem PySem.Spec PyProof.Rows L2
def fMeFld (tab : FTab) (f : Str) : DL.Env → Res SV := fun δ => match δ[0]? with
  | some (Sl.me _ c fs) => if (c, f) ∈ tab then Res.ofO ((fs.lookup f).map SV.sh) else .bad
  | _ => .bad
theorem de_meFld {X : Cx} {T : Tb} {W : WX} {x f : Str} {p pos : Pos} {tab : FTab} (ht : TabOk X.K T tab) (hs : PE X (.Name x p) (tVar 0)) (hb : attributeBase (.Name x p) f X.env (eval (.Name x p) X.env) = eval (.Name x p) X.env := by rfl) :
    PE X (.Attribute (.Name x p) f pos) (rd X.K T W (fMeFld tab f)) := PEimp (pe_fld hs hb) fun σ H Q ⟨F0, G, F, δ, E, h⟩ => by
  unfold fMeFld at h
  split at h
  · rename_i a c fs hi
    split at h
    · rename_i m
      cases q : fs.lookup f with
      | none => rw [q] at h; exact h.elim
      | some d =>
        rw [q] at h
        obtain ⟨_, dx, gs, h1, h2, h3, h4, h5⟩ := E.me 0 a c fs hi
        obtain ⟨y, l1, l2⟩ := h5.look q
        obtain ⟨c1, c2⟩ := ht c f m
        exact ⟨.ref a, h1, _, _, _, _, y, rfl, h4, c1, c2, l1, h y F H (Stp.refl E.fh) l2⟩
    · exact h.elim
  · exact h.elim
/-- the instance at work, its attributes told anew -/
theorem EnvR.putAll {K : PySem.W.Frag} {T : Tb} {F0 G F H : Hp} {σ : L2.St} {δ : DL.Env} {a dx : Addr} {c : Nat} {fs fs2 : List (Str × D)} {gs2 : List (Str × V)} (E : EnvR K T F0 G F H σ δ) (hi : δ[0]? = some (Sl.me a c fs)) (hg : Repf K T F gs2 fs2) :
    EnvR K T F0 G F (upd H a (.ins (T.CA c) dx gs2)) σ (δ.set 0 (.me a c fs2)) := by
  obtain ⟨_, dx', gs', h1, h2, h3, h4, h5⟩ := E.me 0 a c fs hi
  refine ⟨E.f0, Exn.mut E.gh h3, Exn.mut E.fh h2, E.fr, by rw [List.length_set]; exact E.len, fun j e h => ?_, fun j es h => ?_, fun j h => ?_, fun j b c' fs' h => ?_, fun j ks' us' h => ?_, fun j k b ds es hjk g1 g2 g3 g4 => ?_, E.tb.put h4 rfl⟩
  · rcases getset h with ⟨_, q, _⟩ | ⟨hn, h⟩
    · cases q
    · exact E.sh j e h
  · rcases getset h with ⟨_, q, _⟩ | ⟨hn, h⟩
    · cases q
    · obtain ⟨b, us, g1, g2, g3, g4, g5⟩ := E.ow j es h
      have z : b ≠ a := fun z => by subst z; rw [h4] at g4; cases g4
      exact ⟨b, us, g1, g2, g3, by rw [upd_ne z]; exact g4, g5⟩
  · rcases getset h with ⟨_, q, _⟩ | ⟨hn, h⟩
    · cases q
    · exact E.ex j h
  · rcases getset h with ⟨e, q, _⟩ | ⟨hn, h⟩
    · cases q
      subst e
      exact ⟨rfl, dx, _, h1, h2, h3, upd_same, hg⟩
    · have := (E.me j b c' fs' h).1
      exact absurd this.symm hn
  · rcases getset h with ⟨_, q, _⟩ | ⟨hn, h⟩
    · cases q
    · obtain ⟨b, ws, g1, g2, g3, g4, g5, g6⟩ := E.od j ks' us' h
      have z : b ≠ a := fun z => by subst z; rw [h4] at g4; cases g4
      exact ⟨b, ws, g1, g2, g3, by rw [upd_ne z]; exact g4, g5, g6⟩
  · rcases getset g1 with ⟨_, q, _⟩ | ⟨n1, g1⟩
    · cases q
    · rcases getset g2 with ⟨_, q, _⟩ | ⟨n2, g2⟩
      · cases q
      · exact E.ap j k b ds es hjk g1 g2 g3 g4
/-- a class whose __init__ is called by name: its promise for instances of the class of number c -/
structure Bsc (P : Program) (w : World) (K : PySem.W.Frag) (mg : Str → Option Value) (base : Heap) (CX : CXT) (T : Tb) (k : Nat) (x : Str) (n c : Nat) (phi : Addr → List D → Res (List (Str × D))) : Prop where
  ex : ∃ (C f : Addr) (mc : Value) (fd : FuncData) (ps : List Str), mg x = some (.ref C) ∧ ClX.CRead K C mc ∧ PySem.W.findCls K (.ref C) mc "__init__" = some (.val (.ref f)) ∧ PySem.W.handedIn (.ref f) = true ∧ PySem.W.keepIn K (.ref f) = true ∧ FnOk P w K mg base CX k f fd ps (SpI K T n c phi) ∧ Binds K fd ps []
def fBase (n c : Nat) (phi : Addr → List D → Res (List (Str × D))) (fa : DL.Env → Res (List SV)) : FS := fun δ => match δ[0]? with
  | some (Sl.me a c' []) => if c' = c then (fa δ).out δ fun ss => (if ss.length = n then (match stills ss with
    | some ds => (match phi a ds with
      | .ok fs => .nx (δ.set 0 (.me a c fs))
      | _ => .bad)
    | none => .bad) else .bad) else .bad
  | _ => .bad
section
variable {X : Cx} {T : Tb} {W : WX} {CX : CXT} {k j n c : Nat} {phi : Addr → List D → Res (List (Str × D))} {x y : Str} {p p2 apos cpos pos : Pos} {es : List Expr} {pl : Sem Bool}
theorem pe_base {t : TA} {C f : Addr} {mc : Value} {fd : FuncData} {ps : List Str} {sp : Sp} {E : L2.St → XK} (hm : X.mg x = some (.ref C)) (r : ClX.CRead X.K C mc) (hat : PySem.W.findCls X.K (.ref C) mc "__init__" = some (.val (.ref f))) (hh : PySem.W.handedIn (.ref f) = true) (kp : PySem.W.keepIn X.K (.ref f) = true)
    (F : FnOk X.prog X.w X.K X.mg X.base CX k f fd ps sp) (hb : Binds X.K fd ps []) (hr : Room j X.A) (hkj : k ≤ j) (hg : Gl X x) (hx : ∀ σ, PassesAt CX X σ (E σ)) (hs : PE X (.Name y p2) (tVar 0)) (ha : PA X es t)
    (hdb : (x == ("__debug__" : Str)) = false := by decide)
    (hst : starEach (.Name y p2 :: es) X.env = (false, eval (.Name y p2) X.env) :: starEach es X.env := by rfl) (hpl : (backTo cpos (starEach es X.env)).any (·.1) = false := by rfl)
    (ht : eval (.Call (.Attribute (.Name x p) "__init__" apos) (.Name y p2 :: es) [] cpos) X.env = (do
      let ov ← eval (.Name x p) X.env
      standAt apos.atName
      let (f, first) ← holding [ov] (getMethod ov "__init__" pl)
      callWith cpos f first (backTo cpos (starEach (.Name y p2 :: es) X.env)) (backToKw cpos (keywordEach [] X.env))) := by rfl) :
    PE X (.Call (.Attribute (.Name x p) "__init__" apos) (.Name y p2 :: es) [] cpos) (fun σ H Q => tCons (tVar 0) t σ H fun vs H1 => sp (vs ++ []) H1 Q (E σ)) := by
  have ho : PE X (.Name x p) (tC (.ref C)) := pe_glob hg hm rfl hdb
  refine ⟨fun pins s σ H Q I h => ?_⟩
  refine PySem.W.methodCall_KW (pl := pl) (thn (ho.run pins s σ H (fun v H1 => v = .ref C ∧ H1 = H) I ⟨rfl, rfl⟩) fun u s1 ⟨v, H1, I1, rv, e1, e2⟩ => ?_) ht
  subst e1 e2
  obtain rfl : u = Value.ref C := rv
  refine PySem.W.method_cls I1.kIn r.ga (PySem.W.cls_value I1.kIn r.rd hat hh ?_)
  have I1' := I1.tok (s1.toks + 1)
  refine PySem.W.callWith_K (first := []) (h₀ := X.base) I.ok.mod.kin kp (thn ((pa_cons hs ha hst).run cpos pins _ σ _ _ I1' h) fun us s2 ⟨vs, H2, I2, r2, q2⟩ => ⟨I2.kIn, ?_⟩) hst hpl
  exact run_fnSD (dvs := []) (ds := []) F (hr.mono hkj) hb .nil (hx σ) I2 r2 q2
theorem ds_base {fa : DL.Env → Res (List SV)} (B : Bsc X.prog X.w X.K X.mg X.base CX T k x n c phi) (hr : Room j X.A) (hkj : k ≤ j) (hg : Gl X x) (hx : ∀ σ, PassesAt CX X σ (WE W σ)) (hs : PE X (.Name y p2) (tVar 0)) (ha : PA X es (rdA X.K T W fa))
    (hdb : (x == ("__debug__" : Str)) = false := by decide)
    (hst : starEach (.Name y p2 :: es) X.env = (false, eval (.Name y p2) X.env) :: starEach es X.env := by rfl) (hpl : (backTo cpos (starEach es X.env)).any (·.1) = false := by rfl)
    (ht : eval (.Call (.Attribute (.Name x p) "__init__" apos) (.Name y p2 :: es) [] cpos) X.env = (do
      let ov ← eval (.Name x p) X.env
      standAt apos.atName
      let (f, first) ← holding [ov] (getMethod ov "__init__" pl)
      callWith cpos f first (backTo cpos (starEach (.Name y p2 :: es) X.env)) (backToKw cpos (keywordEach [] X.env))) := by rfl)
    (hsw : swapsWith (.Call (.Attribute (.Name x p) "__init__" apos) (.Name y p2 :: es) [] cpos) none pos.line X.env = pure false := by rfl) :
    PS X (.Expr (.Call (.Attribute (.Name x p) "__init__" apos) (.Name y p2 :: es) [] cpos) pos) (rdS X.K T W (fBase n c phi fa)) := by
  obtain ⟨C, f, mc, fd, ps, hm, r, hat, hh, kp, F, hb⟩ := B.ex
  refine PSimp (ps_expr (pe_base hm r hat hh kp F hb hr hkj hg hx hs ha hdb hst hpl ht) hsw) fun En σ H ⟨F0, G, Fz, δ, E, h⟩ => ?_
  unfold fBase at h
  split at h
  · rename_i a c' hi
    split at h
    · rename_i hc
      subst hc
      obtain ⟨_, dx0, gs0, s1, _, _, _, _⟩ := E.me 0 a c' [] hi
      refine ⟨.ref a, s1, ?_⟩
      refine rdA_out E h fun vs ss F1 H1 p1 r1 h1 => ?_
      split at h1
      · rename_i hl
        cases q : stills ss with
        | none => rw [q] at h1; exact h1.elim
        | some ds =>
          rw [q] at h1
          dsimp only at h1
          have E1 := E.grow p1
          obtain ⟨_, dx, gs, t1, t2, t3, t4, t5⟩ := E1.me 0 a c' [] hi
          cases t5
          have rs := stills_reps r1 q
          have hH : H1 = upd (fun b => if b = a then none else H1 b) a (.ins (T.CA c') dx []) := by
            funext b
            by_cases z : b = a
            · subst z
              rw [upd_same]
              exact t4
            · rw [upd_ne z]
              simp [z]
          have eG : Exn F1 (fun b => if b = a then none else H1 b) := ⟨fun b o e n => by
            have z : b ≠ a := fun z => by subst z; rw [t2] at e; cases e
            simp only [z, if_false]
            exact p1.fh.a b o e n, fun b e => by
            by_cases z : b = a
            · subst z; exact t2
            · simp only [z, if_false] at e; exact p1.fh.n b e⟩
          have tG : TbG T (fun b => if b = a then none else H1 b) := TbG.drop (p1.tb E.tb) t4 rfl
          refine ⟨a, dx, vs, F1, fun b => if b = a then none else H1 b, ds, by rw [List.append_nil], by rw [r1.length]; exact hl, tG, eG, by simp, hH, rs, ?_⟩
          revert h1
          cases phi a ds with
          | ok fs =>
            intro h1 F' H' dx' gs' p2 hF hA hR
            have p3 : Stp T F1 H1 F' (upd H' a (.ins (T.CA c') dx [])) := by
              refine ⟨p2.ff, ⟨fun b o e n => ?_, fun b e => ?_⟩, ⟨fun b o e n => ?_, fun b e => ?_⟩, fun b o m e1 e2 => ?_, fun _ => (p2.tb tG).put hA rfl⟩
              · have z : b ≠ a := fun z => by subst z; rw [hF] at e; cases e
                rw [upd_ne z]
                exact p2.fh.a b o e n
              · by_cases z : b = a
                · subst z; exact hF
                · rw [upd_ne z] at e; exact p2.fh.n b e
              · by_cases z : b = a
                · subst z
                  rw [upd_same]
                  rw [t4] at e
                  exact e
                · rw [upd_ne z]
                  exact p2.hh.a b o (by simp only [z, if_false]; exact e) n
              · by_cases z : b = a
                · subst z; rw [upd_same] at e; cases e
                · rw [upd_ne z] at e
                  have := p2.hh.n b e
                  simp only [z, if_false] at this
                  exact this
              · by_cases z : b = a
                · subst z
                  exact hF
                · exact p2.fr b o m e1 (by simp only [z, if_false]; exact e2)
            have E2 := (E1.grow p3).putAll (dx := dx') hi hR
            have e3 : upd (upd H' a (.ins (T.CA c') dx [])) a (.ins (T.CA c') dx' gs') = H' := by
              funext b
              by_cases z : b = a
              · subst z
                rw [upd_same]
                exact hA.symm
              · rw [upd_ne z, upd_ne z]
            rw [e3] at E2
            exact h1 σ F' H' E2 (Exn.trans p1.ff p2.ff)
          | ex k => exact fun h1 => h1.elim
          | bad => exact fun h1 => h1.elim
      · exact h1.elim
    · exact h.elim
  · exact h.elim
end
end DL
namespace DL
open PySem PySem.Spec PyProof.Rows L2
/-! ### isinstance(x, C), C a class of the text, x an instance of one of the classes cs -/
structure InsT (K : PySem.W.Frag) (C : Addr) : Prop where
  cl : Cls K C
  ha : PySem.W.findIn K (.ref C) "__class__" = some (some (.builtin "object.__class__"))
  hn : PySem.W.specialIn K (.builtin "object.__class__") "__get__" = some (some (.builtin "getset_descriptor.__get__"))
  htk : PySem.W.takesIn K (.builtin "object.__class__") = some true
  hm : PySem.W.mroIn K C (.type "object") = some true
def insTB (K : PySem.W.Frag) (C : Addr) : Bool := decide (PySem.W.findIn K (.ref C) "__class__" = some (some (.builtin "object.__class__"))) && (decide (PySem.W.specialIn K (.builtin "object.__class__") "__get__" = some (some (.builtin "getset_descriptor.__get__"))) &&
  (decide (PySem.W.takesIn K (.builtin "object.__class__") = some true) && decide (PySem.W.mroIn K C (.type "object") = some true)))
theorem insT_ok {K : PySem.W.Frag} {C : Addr} (c : Cls K C) (h : insTB K C = true) : InsT K C := by
  unfold insTB at h
  simp only [Bool.and_eq_true, decide_eq_true_eq] at h
  exact ⟨c, h.1, h.2.1, h.2.2.1, h.2.2.2⟩
/-- C's own among cs: ts -/
def IcOk (K : PySem.W.Frag) (T : Tb) (cs ts : List Nat) (C : Addr) : Prop := ∀ c ∈ cs, InsT K (T.CA c) ∧ PySem.W.kitOne K (.ref (T.CA c)) (.ref C) = some (decide (c ∈ ts))
def fIsC (cs ts : List Nat) (f : DL.Env → Res SV) : DL.Env → Res SV := fun δ => (f δ).bind fun s => match s with
  | .sh (.ins c _) => if c ∈ cs then .ok (.sh (.bl (decide (c ∈ ts)))) else .bad
  | _ => .bad
theorem de_isC {X : Cx} {T : Tb} {W : WX} {cs ts : List Nat} {C : Addr} {e : Expr} {x : Str} {fe : DL.Env → Res SV} {p p2 pos : Pos} (ic : IcOk X.K T cs ts C) (hgC : Gl X x) (hmC : X.mg x = some (.ref C)) (hg : Gl X "isinstance") (hm : X.mg "isinstance" = none) (he : PE X e (rd X.K T W fe))
    (hd : (x == ("__debug__" : Str)) = false := by decide)
    (hs : starEach [e, .Name x p2] X.env = (false, eval e X.env) :: starEach [.Name x p2] X.env := by rfl) (hs2 : starEach [.Name x p2] X.env = (false, eval (.Name x p2) X.env) :: starEach [] X.env := by rfl) (hpl : (backTo pos (starEach [.Name x p2] X.env)).any (·.1) = false := by rfl) :
    PE X (.Call (.Name "isinstance" p) [e, .Name x p2] [] pos) (rd X.K T W (fIsC cs ts fe)) := by
  have hC : PE X (.Name x p2) (tC (.ref C)) := pe_glob hgC hmC rfl hd
  refine ⟨fun pins s σ H Q I ⟨F0, G, F, δ, E, h⟩ => ?_⟩
  refine (pe_callB call_isi hg hm (by decide +kernel) (pa_cons he (pa_cons hC pa_nil hs2) hs) (by decide) (by decide) hs hpl).run pins s σ H Q I ?_
  refine rd_bind E h fun v sv F' H' pp r h1 => ?_
  cases sv with
  | sh d =>
    cases d with
    | ins c fs =>
      dsimp only at h1
      split at h1
      · rename_i hc
        obtain ⟨it, kt⟩ := ic c hc
        cases r with
        | ins q1 q2 =>
          exact ⟨_, .ref C, .ref (T.CA c), .ref C, _, rfl, .own C, .base (TyOf.ins (pp.fh.at q1) it.cl it.ha it.hn it.htk it.hm), kt, h1 _ F' H' pp (.bl _)⟩
      · exact h1.elim
    | _ => exact h1.elim
  | _ => exact h1.elim
end DL
end

section
set_option Elab.async false
set_option linter.all false
set_option autoImplicit false
set_option maxRecDepth 100000
set_option maxHeartbeats 4000000
/-! range with a step. -/
namespace DL
open PySem PySem.Spec PyProof.Rows L2
section
variable {T : Tb} {W : WX}
/-- by choice: where the kit's bounds hold (RgC), the row lo, lo + c, .. -/
noncomputable def rng3 : List SV → Option (List D)
  | [.sh (.int i), .sh (.int j), .sh (.int c)] => open Classical in if RgC i j c (Builtin.Range.rangeSize i j c).toNat then some ((List.range (Builtin.Range.rangeSize i j c).toNat).map fun k => .int (i + (k : Nat) * c)) else none
  | _ => none
theorem walks_step {K : PySem.W.Frag} {F : Hp} (lo c : Int) (n : Nat) : Walks K T (Itc lo c n) F ((List.range n).map fun i => .int (lo + (i : Nat) * c)) where
  go := fun i H e l => by
    rw [List.length_map, List.length_range] at l
    exact l
  stop := fun H e => by
    rw [List.length_map, List.length_range]
    exact Nat.le_refl _
  yld := fun i F1 H1 x H2 d e e2 hd y => by
    obtain ⟨rfl, rfl⟩ := y
    by_cases l : i < n
    · rw [List.getElem?_map, List.getElem?_range l] at hd
      cases hd
      exact ⟨F1, Stp.refl e2, .int _⟩
    · rw [List.getElem?_eq_none (by rw [List.length_map, List.length_range]; omega)] at hd
      cases hd
theorem di_range3 {X : Cx} {tg a b c : Expr} {fa : DL.Env → Res (List SV)} {p pos : Pos} (hg : Gl X "range") (hm : X.mg "range" = none) (ha : PA X [a, b, c] (rdA X.K T W fa))
    (hs : starEach [a, b, c] X.env = (false, eval a X.env) :: starEach [b, c] X.env := by rfl) (hpl : (backTo pos (starEach [b, c] X.env)).any (·.1) = false := by rfl) :
    PI X tg (.Call (.Name "range" p) [a, b, c] [] pos) (rdI X.K T W (iRg rng3 fa)) :=
  PIimp (pi_range3 hg hm ha hs hpl) fun σ H R ⟨F0, G, F, δ, E, h⟩ => by
    refine ⟨F0, G, F, δ, E, ?_⟩
    unfold iRg at h
    cases q : fa δ with
    | ex c => rw [q] at h; exact h
    | bad => rw [q] at h; exact h
    | ok ss =>
      rw [q, bind_ok] at h
      intro vs F' H' pp r
      unfold rng3 at h
      split at h
      · rename_i i j c
        split at h
        · rename_i hj
          cases r with
          | cons h1 r =>
            cases r with
            | cons h2 r =>
              cases r with
              | cons h3 r =>
                cases r
                cases h1
                cases h2
                cases h3
                exact ⟨i, j, c, _, rfl, hj, h _ F' H' pp (walks_step i c _)⟩
        · exact h.elim
      · exact h.elim
end
end DL
end

section
set_option Elab.async false
set_option linter.all false
set_option autoImplicit false
set_option maxRecDepth 100000
set_option maxHeartbeats 4000000
/-! min(xs, default=d) of a list of ints. -/
namespace PySem
section
variable {prog : Program} {w : World} {A : Around} {E : Value → Shared → Prop} {s : Shared} {l : Addr} {xs : Array (Int × Tok)}
theorem min_intListD {d : Value} {Q : Value → Shared → Prop} (hh : A.handled = none) (hl : s.heap.IsList l (intItems xs))
    (h0 : xs.size = 0 → ∀ h' tk, (∀ b o, s.heap.get? b = some o → h'.get? b = some o) → Q d { s with heap := h', toks := tk })
    (h : 0 < xs.size → ∀ v h' tk, (intItems xs)[argBest (fun i j => decide (numAt xs i < numAt xs j)) (xs.size - 1)]? = some v → (∀ b o, s.heap.get? b = some o → h'.get? b = some o) → Q v { s with heap := h', toks := tk }) :
    wpAny (model prog w) A (call (.builtin "min") [.ref l] [(Str.ofString "default", d)]) Q E s := by
  have sz : (intItems xs).size = xs.size := by simp [intItems]
  refine call_min_walkD (PySem.W.iter_listW (A := A.in1) hh hl fun s₂ e W st hfp hw hk => ?_)
  refine ⟨_, _, _, _, _, _, _, s.heap, (fun i j => decide (numAt xs i < numAt xs j)), rfl, W, st, hfp, hw, hk, fun hz s' m => ?_, fun hp => ⟨fun i j vi vj s Q E _ hi hj q => CmpOf.ints_lt (numAt xs) (fun _ _ => intItems_at) i j vi vj s Q E hi hj q, fun v s' hP m => ?_⟩⟩
  · obtain ⟨h', tk, rfl, hk'⟩ := PySem.W.moved_old e rfl m
    exact h0 (by omega) h' tk hk'
  · obtain ⟨h', tk, rfl, hk'⟩ := PySem.W.moved_old e rfl m
    rw [sz] at hP
    exact h (by omega) v h' tk hP hk'
end
end PySem
namespace L2
open PySem PySem.Spec PyProof.Rows
/-- min(xs, default=d): of an empty list d -/
def rMinD (K : PySem.W.Frag) : List V → List V → Hp → VK → Prop := fun vs zs H Q => ∃ (a : Addr) (ns : List Int) (d : V), vs = [V.ref a] ∧ zs = [d] ∧ SqL K H a (ns.map V.int) ∧ (ns = [] → Q d H) ∧ ∀ m, m ∈ ns → (∀ y, y ∈ ns → m ≤ y) → Q (.int m) H
theorem cr_minD {X : Cx} (hc : X.calm = true) : CallRK X (.builtin "min") [Str.ofString "default"] (rMinD X.K) := by
  intro pins s σ H vs zs us ws Q I r rz h
  obtain ⟨a, ns, d, rfl, rfl, hs, q0, q⟩ := h
  obtain ⟨its, rv, hl, _⟩ := I.list hs
  obtain rfl := Vals.ref1 r
  obtain ⟨w1, rfl, e1⟩ := vals1 rz
  have hi := rv.ints
  obtain ⟨xs, e⟩ := hi.allInts.items
  have hn : numsOf (intItems xs).toList = ns := by rw [← e]; exact hi.numsOf
  rw [nums_intItems] at hn
  subst hn
  have hl' := hl.isList
  rw [e] at hl'
  refine min_intListD (I.ok.hd hc) hl' (fun hz h' tk hk => ⟨d, H, I.kept hk, e1, q0 ?_⟩) fun hz v h' tk hv hk => ?_
  · rw [List.map_eq_nil_iff]
    exact List.eq_nil_of_length_eq_zero (by rw [Array.length_toList]; exact hz)
  · obtain ⟨t, rfl⟩ := intItems_at hv
    obtain ⟨h1, h2⟩ := argBest_lt (numAt xs) (xs.size - 1)
    refine ⟨.int _, H, I.kept hk, ⟨t, rfl⟩, q _ ?_ fun b hb => ?_⟩
    · rw [numAt_eq]; exact PySem.getD_mem (by rw [List.length_map, Array.length_toList]; omega)
    · obtain ⟨j, hj, rfl⟩ := mem_getD hb
      rw [List.length_map, Array.length_toList] at hj
      rw [← numAt_eq]; exact h2 j (by omega)
end L2
end

section
set_option Elab.async false
set_option linter.all false
set_option autoImplicit false
set_option maxRecDepth 100000
set_option maxHeartbeats 4000000
/-! min(xs, default=None). -/
namespace DL
open PySem PySem.Spec PyProof.Rows L2
section
variable {K : PySem.W.Frag} {T : Tb} {W : WX}
def gMinN : List D → Option SV
  | [d] => match lstOf d with
    | some ds => (dInts ds).map fun ns => if ns = [] then .sh .non else .sh (.int (minI ns))
    | none => none
  | _ => none
theorem good_minN : GoodN K T (fun vs H Q => rMinD K vs [.non] H Q) gMinN := goodN1 (fun ds s h => by unfold gMinN at h; split at h <;> first | exact ⟨_, rfl⟩ | cases h) fun F H x d s Q eh rx h k => by
  have h : (match lstOf d with | some ds => (dInts ds).map fun ns => if ns = [] then SV.sh .non else SV.sh (.int (minI ns)) | none => none) = some s := h
  split at h
  · rename_i ds hd
    obtain ⟨ns, h1, h2⟩ := Option.map_eq_some_iff.mp h
    obtain ⟨a, vs, rfl, g1, g2⟩ := rx.list eh hd
    rw [g2.dInts h1] at g1
    split at h2
    · rename_i ne
      subst h2
      subst ne
      exact ⟨a, [], .non, rfl, rfl, g1, fun _ => k _ _ (gives_sh eh .non), fun m hm _ => absurd hm (List.not_mem_nil)⟩
    · rename_i ne
      subst h2
      obtain ⟨m1, m2⟩ := minI_spec ne
      refine ⟨a, ns, .non, rfl, rfl, g1, fun z => absurd z ne, fun m hm hy => ?_⟩
      have e : m = minI ns := Int.le_antisymm (hy _ m1) (m2 m hm)
      subst e
      exact k _ _ (gives_sh eh (.int _))
  · cases h
theorem de_minN {X : Cx} {p kpos pos npos : Pos} {j : Nat} {e : Expr} {fa : DL.Env → Res (List SV)} (hc : X.calm = true) (hg : Gl X "min") (hm : X.mg "min" = none) (hv : bootBuiltins "min" = some (.builtin "min")) (ha : PA X [e] (rdA X.K T W fa))
    (he : backTo pos (starEach [e] X.env) = (false, eval e X.env) :: backTo pos (starEach [] X.env) := by rfl) (hpl : (backTo pos (starEach [e] X.env)).any (·.1) = false := by rfl)
    (hall : (backToKw pos (keywordEach [⟨some "default", .Constant .none j npos, kpos⟩] X.env)).all (·.1.isSome) = true := by rfl) (hnone : (backToKw pos (keywordEach [⟨some "default", .Constant .none j npos, kpos⟩] X.env)).any (·.1.isNone) = false := by rfl) (hks : (backToKw pos (keywordEach [⟨some "default", .Constant .none j npos, kpos⟩] X.env)).filterMap (·.1) = [Str.ofString "default"] := by rfl) :
    PE X (.Call (.Name "min" p) [e] [⟨some "default", .Constant .none j npos, kpos⟩] pos) (rd X.K T W (fN gMinN fa)) :=
  PEimp (pe_callBK (cr_minD hc) hg hm hv ha (pk_cons pe_non pk_nil) (by decide) (by decide) he hpl hall hnone hks) fun _ _ _ h => rd_fN (r := fun vs H Q => rMinD X.K vs [.non] H Q) good_minN h
end
end DL
end

section
set_option Elab.async false
set_option linter.all false
set_option autoImplicit false
set_option maxRecDepth 100000
set_option maxHeartbeats 4000000
namespace DL
open PySem PySem.Spec PyProof.Rows L2
/-! ### the head's facts, one Bool more -/
def obsB (n : Nat) (fa : List He.Fa) (fn : List He.DefD) (ex : PySem.W.Frag → Bool) (g : Addr → Option Obj) : He.AlD × Bool := (He.obsD fa fn (He.frG g (He.asD g n ++ [PySem.cStatics])), ex (He.frG g (He.asD g n ++ [PySem.cStatics])))
def hookB (n : Nat) (fa : List He.Fa) (fn : List He.DefD) (ex : PySem.W.Frag → Bool) : PySem.W.Hook where
  α := He.AlD × Bool
  obs := fun s => obsB n fa fn ex s.heap.get?
  val := fun _ => (He.valD fn, true)
  says := fun _ h => ∃ K : PySem.W.Frag, K.In h ∧ He.SaysD fa fn K ∧ ex K = true
  of := fun _ _ e => ⟨_, He.frG_in, congrArg (fun z : He.AlD × Bool => z.1) e, congrArg (fun z : He.AlD × Bool => z.2) e⟩
  keeps := fun _ _ _ ⟨K, hK, c⟩ k => ⟨K, PySem.W.Frag.In.keeps hK k, c⟩
theorem obsB_eq {n : Nat} {fa : List He.Fa} {fn : List He.DefD} {ex : PySem.W.Frag → Bool} {g : Addr → Option Obj} {s : Shared} (h : ∀ a, g a = s.heap.get? a) : obsB n fa fn ex g = (hookB n fa fn ex).obs s := by
  have e : g = s.heap.get? := funext h
  rw [e] <;> rfl
/-- the numbers of the program's exception classes -/
def xcName : Nat → Str
  | 0 => "HouseError" | 1 => "NoDay" | 2 => "NoText" | 3 => "NoRule" | 4 => "NoPlace" | 5 => "NoSpan" | 6 => "NoThing" | 7 => "Known" | 8 => "Full"
  | 9 => "NoLetter" | 10 => "NoHand" | 11 => "NoWord" | 12 => "NoMeeting" | 13 => "Closed" | 14 => "Busy" | _ => "ValueError"
def caName : Nat → Str
  | 0 => "Rule" | 1 => "Every" | 2 => "Weekly" | 3 => "Monthly" | 4 => "Nth" | 5 => "Yearly" | 6 => "Days" | 7 => "Where" | 8 => "Either" | 9 => "Both" | 10 => "But" | 11 => "Within" | 12 => "Shifted" | 13 => "Changed"
  | 14 => "Place" | 15 => "Once" | 16 => "Again" | 17 => "Book" | 18 => "Table" | 19 => "House" | _ => "Thing"
def tbOf (K : PySem.W.Frag) : Tb := { CA := fun n => He.ga K (caName n), XA := fun n => He.ga K (xcName n), ea := 0 }
theorem exB {l : List Bool} {b : Bool} (h : l.all id = true) (i : Nat) (e : l[i]? = some b) : b = true := List.all_eq_true.mp h b (List.mem_of_getElem? e)
end DL
namespace DL
open PySem PySem.Spec PyProof.Rows L2
/-! ### the exceptions' classes, as one Bool -/
def excB (K : PySem.W.Frag) (D : Addr) : Bool := decide (PySem.W.findIn K (.ref D) "__getattribute__" = some (some (.builtin "BaseException.__getattribute__"))) && (decide (PySem.W.findIn K (.ref D) "__getattr__" = some none) && (decide (PySem.W.subIn K (.ref D) (.type "BaseException") = some true) &&
  (PySem.W.hasDictIn K D && (decide (PySem.W.findIn K (.ref D) "__class__" = some (some (.builtin "object.__class__"))) && (decide (PySem.W.specialIn K (.builtin "object.__class__") "__get__" = some (some (.builtin "getset_descriptor.__get__"))) &&
  (decide (PySem.W.takesIn K (.builtin "object.__class__") = some true) && decide (PySem.W.mroIn K D (.type "object") = some true)))))))
theorem excB_ok {K : PySem.W.Frag} {D : Addr} (h : excB K D = true) : ExcC K D := by
  unfold excB at h
  simp only [Bool.and_eq_true, decide_eq_true_eq] at h
  obtain ⟨h1, h2, h3, h4, h5, h6, h7, h8⟩ := h
  exact ⟨h1, h2, h3, h4, h5, h6, h7, h8⟩
def xB (K : PySem.W.Frag) (us cs is : List Nat) : Bool := us.all fun c => (cs.all fun C => decide (PySem.W.exmOne K (.ref ((tbOf K).XA c)) (.ref ((tbOf K).XA C)) = some (isX c C))) &&
  ((is.all fun C => decide (PySem.W.kitOne K (.ref ((tbOf K).XA c)) (clsX (tbOf K) C) = some (isX c C))) && (is.isEmpty || excB K ((tbOf K).XA c)))
theorem xB_ok {K : PySem.W.Frag} {us cs is : List Nat} {T : Tb} (h : xB K us cs is = true) (hT : T.XA = (tbOf K).XA := by rfl) : XOk K T us cs is := by
  have key : ∀ c ∈ us, (∀ C ∈ cs, PySem.W.exmOne K (.ref ((tbOf K).XA c)) (.ref ((tbOf K).XA C)) = some (isX c C)) ∧ (∀ C ∈ is, PySem.W.kitOne K (.ref ((tbOf K).XA c)) (clsX (tbOf K) C) = some (isX c C)) ∧ (is ≠ [] → ExcC K ((tbOf K).XA c)) := fun c hc => by
    have z := List.all_eq_true.mp h c hc
    rw [Bool.and_eq_true, Bool.and_eq_true] at z
    obtain ⟨z1, z2, z3⟩ := z
    refine ⟨fun C hC => of_decide_eq_true (List.all_eq_true.mp z1 C hC), fun C hC => of_decide_eq_true (List.all_eq_true.mp z2 C hC), fun ne => excB_ok ?_⟩
    cases is with
    | nil => exact absurd rfl ne
    | cons a r => simpa using z3
  have e : ∀ C, clsX T C = clsX (tbOf K) C := fun C => by unfold clsX; rw [hT]
  refine ⟨fun c hc => ?_, fun c hc C hC => ?_, fun c hc => ?_⟩
  · rw [hT]; exact (key c hc).1
  · rw [e, hT]; exact (key c hc).2.1 C hC
  · rw [hT]; exact (key c hc).2.2
end DL
namespace DL
open PySem PySem.Spec PyProof.Rows L2
/-! ### bases' __init__, isinstance of own classes, as one Bool -/
def bscB (K : PySem.W.Frag) (x : Str) : Bool := PySem.W.readsIn K (He.ga K x) (.type "type") && (decide (PySem.W.specialIn K (.ref (He.ga K x)) "__getattribute__" = some (some (.builtin "type.__getattribute__"))) &&
  ((match PySem.W.findCls K (.ref (He.ga K x)) (.type "type") "__init__" with
    | some (.val v) => decide (v = .ref (He.ma K (He.ga K x) "__init__"))
    | _ => false) && (PySem.W.handedIn (.ref (He.ma K (He.ga K x) "__init__")) && PySem.W.keepIn K (.ref (He.ma K (He.ga K x) "__init__")))))
theorem bsc_ok {P : Program} {w : World} {K : PySem.W.Frag} {mg : Str → Option Value} {base : Heap} {CX : CXT} {T : Tb} {k n c : Nat} {x : Str} {fd : FuncData} {ps : List Str} {phi : Addr → List D → Res (List (Str × D))} (hm : mg x = some (.ref (He.ga K x))) (h : bscB K x = true)
    (F : FnOk P w K mg base CX k (He.ma K (He.ga K x) "__init__") fd ps (SpI K T n c phi)) (hb : Binds K fd ps []) : Bsc P w K mg base CX T k x n c phi := by
  unfold bscB at h
  simp only [Bool.and_eq_true, decide_eq_true_eq] at h
  obtain ⟨h1, h2, h3, h4, h5⟩ := h
  have e : PySem.W.findCls K (.ref (He.ga K x)) (.type "type") "__init__" = some (.val (.ref (He.ma K (He.ga K x) "__init__"))) := by
    split at h3
    · rename_i v hv
      rw [hv, of_decide_eq_true h3]
    · cases h3
  exact ⟨_, _, _, fd, ps, hm, ⟨h1, h2⟩, e, h4, h5, F, hb⟩
def icB (K : PySem.W.Frag) (cs ts : List Nat) (C : Addr) : Bool := cs.all fun c => insTB K ((tbOf K).CA c) && decide (PySem.W.kitOne K (.ref ((tbOf K).CA c)) (.ref C) = some (decide (c ∈ ts)))
theorem icB_ok {K : PySem.W.Frag} {cs ts : List Nat} {C : Addr} {T : Tb} (hc : ∀ c, c ∈ cs → Cls K ((tbOf K).CA c)) (h : icB K cs ts C = true) (hT : T.CA = (tbOf K).CA := by rfl) : IcOk K T cs ts C := fun c m => by
  have z := List.all_eq_true.mp h c m
  rw [Bool.and_eq_true, decide_eq_true_eq] at z
  rw [hT]
  exact ⟨insT_ok (hc c m) z.1, z.2⟩
end DL
end

section
set_option Elab.async false
set_option linter.all false
set_option autoImplicit false
set_option maxRecDepth 100000
set_option maxHeartbeats 4000000
/-! How a def's function is reckoned: one row a construct, for simp. -/
namespace DL
open PySem L2
section
variable (d e : D) (ds es : List D) (i j : Int) (x y : Str) (a b : Bool) (n : Nat)
theorem ev_d1 : (SV.sh d).d = d := rfl
theorem ev_d2 : (SV.ow ds).d = .lst ds := rfl
theorem ev_d3 : (SV.br n ds).d = .lst ds := rfl
theorem ev_f1 : (SV.sh d).fz = .sh d := rfl
theorem ev_f2 : (SV.ow ds).fz = .sh (.lst ds) := rfl
theorem ev_f3 : (SV.br n ds).fz = .br n ds := rfl
theorem ev_o1 : slotOf (.sh d) = some (.sh d) := rfl
theorem ev_o2 : slotOf (.ow ds) = some (.ow ds) := rfl
theorem ev_r1 : retS (.sh d) = .sh d := rfl
theorem ev_r2 : retS (.ow ds) = .ow ds := rfl
theorem ev_r3 : retS (.br n ds) = .ow ds := rfl
theorem ev_asB : asB (.sh (.bl a)) = .ok a := rfl
theorem ev_st0 : stills [] = some [] := rfl
theorem ev_st1 (r : List SV) : stills (.sh d :: r) = (stills r).map (d :: ·) := rfl
theorem ev_st2 (r : List SV) : stills (.br n ds :: r) = none := rfl
theorem ev_add : gAdd (.int i) (.int j) = some (.sh (.int (i + j))) := rfl
theorem ev_addS : gAdd (.str x) (.str y) = if x.length + y.length ≤ sizeLine then some (.sh (.str (x ++ y))) else none := rfl
theorem ev_addL : gAdd (.lst ds) (.lst es) = if ds.length + es.length ≤ sizeLine then some (.ow (ds ++ es)) else none := rfl
theorem ev_addT : gAdd (.tup ds) (.tup es) = if ds.length + es.length ≤ sizeLine then some (.sh (.tup (ds ++ es))) else none := rfl
theorem ev_aug : gAddIS (.int i) (.int j) = some (.sh (.int (i + j))) := rfl
theorem ev_augS : gAddIS (.str x) (.str y) = if x.length + y.length ≤ sizeLine then some (.sh (.str (x ++ y))) else none := rfl
theorem ev_sub : DL.gSub (.int i) (.int j) = some (.sh (.int (i - j))) := rfl
theorem ev_mul (h : mulOk i j = true) : gMul (.int i) (.int j) = some (.sh (.int (i * j))) := by
  unfold gMul gMulI gI
  simp [h]
theorem mulOk_r (h : -(2 ^ 64) < j) (h2 : j < 2 ^ 64) : mulOk i j = true := decide_eq_true (.inr ⟨h, h2⟩)
theorem mulOk_l (h : -(2 ^ 64) < i) (h2 : i < 2 ^ 64) : mulOk i j = true := decide_eq_true (.inl ⟨h, h2⟩)
theorem ev_mulS (h1 : -(2 ^ 62) < i) (h2 : i < 2 ^ 20) (h3 : x.length ≤ 16) : gMul (.str x) (.int i) = some (.sh (.str (repS x i))) := by
  unfold gMul gMulI gI gMulS
  simp only [Option.none_or]
  rw [if_pos ⟨h1, h2, h3⟩]
theorem log2_small {j : Int} (h0 : 0 < j) (h : j < 2 ^ 100) : j.natAbs.log2 < 9000 := by
  have : j.natAbs < 2 ^ 100 := by omega
  have h2 := (Nat.log2_lt (by omega)).mpr this
  omega
theorem ev_div (h0 : 0 < j) (h : j < 2 ^ 100) : gDiv (.int i) (.int j) = some (.sh (.int (i / j))) := by
  unfold gDiv gI
  simp only [decide_eq_true_eq]
  rw [if_pos ⟨h0, log2_small h0 h⟩]
theorem ev_mod (h0 : 0 < j) : gMod (.int i) (.int j) = some (.sh (.int (i % j))) := by
  unfold gMod gI
  simp only [decide_eq_true_eq]
  rw [if_pos h0]
theorem ev_lt : gLt (.int i) (.int j) = some (.sh (.bl (decide (i < j)))) := rfl
theorem ev_le : gLe (.int i) (.int j) = some (.sh (.bl (decide (i ≤ j)))) := rfl
theorem ev_gt : gGt (.int i) (.int j) = some (.sh (.bl (decide (j < i)))) := rfl
theorem ev_ge : gGe (.int i) (.int j) = some (.sh (.bl (decide (j ≤ i)))) := rfl
theorem ev_neg : gNeg (.int i) = some (.sh (.int (-i))) := rfl
theorem ev_eqI : gEq (.int i) (.int j) = some (.sh (.bl (decide (i = j)))) := rfl
theorem ev_eqS : gEq (.str x) (.str y) = some (.sh (.bl (decide (x = y)))) := rfl
theorem ev_eqB : gEq (.bl a) (.bl b) = some (.sh (.bl (decide (a = b)))) := rfl
theorem ev_neI : gNe (.int i) (.int j) = some (.sh (.bl (!decide (i = j)))) := rfl
theorem ev_neS : gNe (.str x) (.str y) = some (.sh (.bl (!decide (x = y)))) := rfl
theorem ev_neB : gNe (.bl a) (.bl b) = some (.sh (.bl (!decide (a = b)))) := rfl
theorem ev_isN : gIs d .non = some (.sh (.bl (isNon d))) := by cases d <;> rfl
theorem ev_isB : gIs (.bl a) (.bl b) = some (.sh (.bl (decide (a = b)))) := rfl
theorem ev_ntN : gIsNot d .non = some (.sh (.bl (!isNon d))) := by cases d <;> rfl
theorem ev_ntB : gIsNot (.bl a) (.bl b) = some (.sh (.bl (!decide (a = b)))) := rfl
theorem ev_nn0 : isNon .non = true := rfl
theorem ev_nn1 : isNon (.bl a) = false := rfl
theorem ev_nn2 : isNon (.int i) = false := rfl
theorem ev_nn3 : isNon (.str x) = false := rfl
theorem ev_nn4 : isNon (.tup ds) = false := rfl
theorem ev_nn5 : isNon (.lst ds) = false := rfl
theorem ev_isi0 (T : String) : gIsi T .non = some (.sh (.bl (isTy T "NoneType"))) := rfl
theorem ev_isi1 (T : String) : gIsi T (.bl a) = some (.sh (.bl (isTy T "bool"))) := rfl
theorem ev_isi2 (T : String) : gIsi T (.int i) = some (.sh (.bl (isTy T "int"))) := rfl
theorem ev_isi3 (T : String) : gIsi T (.str x) = some (.sh (.bl (isTy T "str"))) := rfl
theorem ev_isi4 (T : String) : gIsi T (.tup ds) = some (.sh (.bl (isTy T "tuple"))) := rfl
theorem ev_isi5 (T : String) : gIsi T (.lst ds) = some (.sh (.bl (isTy T "list"))) := rfl
theorem ty_bb : isTy "bool" "bool" = true := by decide
theorem ty_bi : isTy "bool" "int" = false := by decide
theorem ty_bs : isTy "bool" "str" = false := by decide
theorem ty_bt : isTy "bool" "tuple" = false := by decide
theorem ty_bl : isTy "bool" "list" = false := by decide
theorem ty_bn : isTy "bool" "NoneType" = false := by decide
theorem ty_ib : isTy "int" "bool" = true := by decide
theorem ty_ii : isTy "int" "int" = true := by decide
theorem ty_is : isTy "int" "str" = false := by decide
theorem ty_it : isTy "int" "tuple" = false := by decide
theorem ty_il : isTy "int" "list" = false := by decide
theorem ty_in : isTy "int" "NoneType" = false := by decide
theorem ty_sb : isTy "str" "bool" = false := by decide
theorem ty_si : isTy "str" "int" = false := by decide
theorem ty_ss : isTy "str" "str" = true := by decide
theorem ty_st : isTy "str" "tuple" = false := by decide
theorem ty_sl : isTy "str" "list" = false := by decide
theorem ty_sn : isTy "str" "NoneType" = false := by decide
theorem ty_tb : isTy "tuple" "bool" = false := by decide
theorem ty_ti : isTy "tuple" "int" = false := by decide
theorem ty_ts : isTy "tuple" "str" = false := by decide
theorem ty_tt : isTy "tuple" "tuple" = true := by decide
theorem ty_tl : isTy "tuple" "list" = false := by decide
theorem ty_tn : isTy "tuple" "NoneType" = false := by decide
theorem ty_lb : isTy "list" "bool" = false := by decide
theorem ty_li : isTy "list" "int" = false := by decide
theorem ty_ls : isTy "list" "str" = false := by decide
theorem ty_lt : isTy "list" "tuple" = false := by decide
theorem ty_ll : isTy "list" "list" = true := by decide
theorem ty_ln : isTy "list" "NoneType" = false := by decide
theorem ev_lenL : gLen [.lst ds] = some (.sh (.int ds.length)) := rfl
theorem ev_lenT : gLen [.tup ds] = some (.sh (.int ds.length)) := rfl
theorem ev_lenR : gLen [.scr ds] = some (.sh (.int ds.length)) := rfl
theorem ev_lenS (h : x.length ≤ sizeLine) : gLen [.str x] = some (.sh (.int x.length)) := by
  show (if x.length ≤ sizeLine then _ else _) = _
  rw [if_pos h]
theorem ev_intI : gInt [.int i] = some (.sh (.int i)) := rfl
theorem ev_intB : gInt [.bl a] = some (.sh (.int (if a then 1 else 0))) := rfl
theorem ev_strS : gStr [.str x] = some (.sh (.str x)) := rfl
theorem ev_max2 : gMax2 [.int i, .int j] = some (.sh (.int (if j > i then j else i))) := rfl
theorem ev_min2 : gMin2 [.int i, .int j] = some (.sh (.int (if j < i then j else i))) := rfl
theorem ev_abs : gAbs [.int i] = some (.sh (.int (if i < 0 then -i else i))) := rfl
theorem ev_listL : gList [.lst ds] = some (.ow ds) := rfl
theorem ev_listR : gList [.scr ds] = some (.ow ds) := rfl
theorem ev_listT : gList [.tup ds] = some (.ow ds) := rfl
theorem ev_tupL : gTuple [.lst ds] = some (.sh (.tup ds)) := rfl
theorem ev_tupT : gTuple [.tup ds] = some (.sh (.tup ds)) := rfl
theorem ev_ixL : gIx (.lst ds) (.int i) = (atI ds i).map .sh := rfl
theorem ev_ixT : gIx (.tup ds) (.int i) = (atI ds i).map .sh := rfl
theorem ev_ixR : gIx (.scr ds) (.int i) = (atI ds i).map .sh := rfl
theorem ev_ixS (h : x.length ≤ sizeLine) : gIx (.str x) (.int i) = (atI x.cps.toList i).map fun c => .sh (.str ⟨#[c]⟩) := by
  show (if x.length ≤ sizeLine then _ else _) = _
  rw [if_pos h]
theorem ev_slL (lo hi : Option Int) : gSl (.lst ds) lo hi = some (.ow (cutD ds lo hi)) := rfl
theorem ev_slR (lo hi : Option Int) : gSl (.scr ds) lo hi = some (.ow (cutD ds lo hi)) := rfl
theorem ev_slT (lo hi : Option Int) : gSl (.tup ds) lo hi = some (.sh (.tup (cutD ds lo hi))) := rfl
theorem ev_slS (lo hi : Option Int) (h : x.length ≤ sizeLine) : gSl (.str x) lo hi = some (.sh (.str (cutS x lo hi))) := by
  show (if x.length ≤ sizeLine then _ else _) = _
  rw [if_pos h]
theorem ev_evP0 (δ : Env) : evP none δ = .ok none := rfl
theorem ev_evP1 (f : Env → Res SV) (δ : Env) (h : f δ = .ok (.sh (.int i))) : evP (some f) δ = .ok (some i) := by
  unfold evP
  simp only [h, bind_ok]
theorem ev_itL : itemsOf (.lst ds) = some ds := rfl
theorem ev_itR : itemsOf (.scr ds) = some ds := rfl
theorem ev_itT : itemsOf (.tup ds) = some ds := rfl
theorem ev_itS : itemsOf (.str x) = some (x.cps.toList.map fun c => .str ⟨#[c]⟩) := rfl
theorem ev_rg1 (h : -(2 ^ 62) ≤ j) (h2 : j < 2 ^ 62) : rng1 [.sh (.int j)] = some ((List.range j.toNat).map fun k => .int ((k : Nat) : Int)) := by
  unfold rng1
  dsimp only
  rw [if_pos ⟨h, h2⟩]
theorem ev_rg2 (h : -(2 ^ 62) ≤ i) (h2 : i < 2 ^ 62) (h3 : -(2 ^ 62) ≤ j) (h4 : j < 2 ^ 62) : rng2 [.sh (.int i), .sh (.int j)] = some ((List.range (j - i).toNat).map fun k => .int (i + (k : Nat))) := by
  unfold rng2
  dsimp only
  rw [if_pos ⟨h, h2, h3, h4⟩]
theorem ev_tg1 (k : Nat) (δ : Env) : tgOne k d δ = some (δ.set k (.sh d)) := rfl
theorem ev_tgT (ks : List Nat) (δ : Env) : tgMany ks (.tup ds) δ = setAll ks ds δ := rfl
theorem ev_tgL (ks : List Nat) (δ : Env) : tgMany ks (.lst ds) δ = setAll ks ds δ := rfl
theorem ev_sa0 (δ : Env) : setAll [] [] δ = some δ := rfl
theorem ev_sa1 (k : Nat) (ks : List Nat) (δ : Env) : setAll (k :: ks) (d :: ds) δ = setAll ks ds (δ.set k (.sh d)) := rfl
theorem ev_dm (h : 0 < j) (h2 : j < 1073741824) : gDivmod [.int i, .int j] = some (.sh (.tup [.int (i / j), .int (i % j)])) := by
  show (if 0 < j ∧ j < 1073741824 then _ else _) = _
  rw [if_pos ⟨h, h2⟩]
end
section
variable {α β : Type} (c : Prop) [Decidable c]
theorem ev_ite_bind (r s : Res α) (f : α → Res β) : (if c then r else s).bind f = if c then r.bind f else s.bind f := by split <;> rfl
theorem ev_ite_out (r s : Res α) (δ : Env) (f : α → Out) : (if c then r else s).out δ f = if c then r.out δ f else s.out δ f := by split <;> rfl
theorem ev_ite_seq (r s : Out) (f : FS) : (if c then r else s).seq f = if c then r.seq f else s.seq f := by split <;> rfl
end
theorem ev_bind_out {α β : Type} (r : Res α) (f : α → Res β) (δ : Env) (k : β → Out) : (r.bind f).out δ k = r.out δ fun a => (f a).out δ k := by cases r <;> rfl
theorem ev_forN (g : D → Env → Option Env) (b : FS) (δ : Env) : forR g b [] δ = .nx δ := rfl
/-- what a body's end gives the def's caller -/
def endR : Out → Res SV
  | .nx _ => .ok (.sh .non)
  | .rt s => .ok s
  | .ex c _ => .ex c
  | _ => .bad
theorem runF_eq (n : Nat) (b : FS) (ds : List D) : runF n b ds = endR (b (slots ds ++ List.replicate (n - ds.length) .no)) := by
  unfold runF endR
  rfl
theorem ev_e1 (δ : Env) : endR (.nx δ) = .ok (.sh .non) := rfl
theorem ev_e2 (s : SV) : endR (.rt s) = .ok s := rfl
theorem ev_e3 (c : Nat) (δ : Env) : endR (.ex c δ) = .ex c := rfl
theorem ev_ite_end (c : Prop) [Decidable c] (r s : Out) : endR (if c then r else s) = if c then endR r else endR s := by split <;> rfl
theorem forR_nx {g : D → Env → Option Env} {b : FS} {P : D → Prop} {I : Env → Prop} (step : ∀ d δ, P d → I δ → ∃ δ1 δ2, g d δ = some δ1 ∧ b δ1 = .nx δ2 ∧ I δ2) : ∀ (ds : List D) (δ : Env), (∀ d ∈ ds, P d) → I δ → ∃ δ', forR g b ds δ = .nx δ' ∧ I δ'
  | [], δ, _, i => ⟨δ, rfl, i⟩
  | d :: ds, δ, h, i => by
    obtain ⟨δ1, δ2, e1, e2, i2⟩ := step d δ (h d (List.mem_cons_self ..)) i
    obtain ⟨δ', e3, i3⟩ := forR_nx step ds δ2 (fun x m => h x (List.mem_cons_of_mem _ m)) i2
    refine ⟨δ', ?_, i3⟩
    show (match g d δ with | none => Out.bad | some δ1 => _) = _
    rw [e1]
    show (match b δ1 with | .nx δ2 => _ | .ct δ2 => _ | .bk δ2 => _ | r => r) = _
    rw [e2]
    exact e3
theorem ev_forC (g : D → Env → Option Env) (b : FS) (d : D) (ds : List D) (δ δ1 : Env) (h : g d δ = some δ1) : forR g b (d :: ds) δ = match b δ1 with
      | .nx δ2 => forR g b ds δ2
      | .ct δ2 => forR g b ds δ2
      | .bk δ2 => .nx δ2
      | r => r := by
  show (match g d δ with | none => Out.bad | some δ1 => _) = _
  rw [h]
  try rfl
/-- a text of signs -/
abbrev tx (l : List Nat) : Str := ⟨l.toArray⟩
theorem tx_of (t : Str) : t = tx t.cps.toList := rfl
theorem line_of {n : Nat} (h : n ≤ 1000000) : n ≤ sizeLine := by
  have : sizeLine = 16777216 := by decide
  omega
theorem tx_len (l : List Nat) : (tx l).length = l.length := by
  show l.toArray.size = _
  simp
theorem ev_lenX (l : List Nat) (h : l.length ≤ 1000000) : gLen [.str (tx l)] = some (.sh (.int l.length)) := by
  have := ev_lenS (tx l) (by rw [tx_len]; exact line_of h)
  rw [this, tx_len]
theorem ev_ixX (l : List Nat) (i : Int) (h : l.length ≤ 1000000) : gIx (.str (tx l)) (.int i) = (atI l i).map fun c => .sh (.str ⟨#[c]⟩) := ev_ixS i (tx l) (by rw [tx_len]; exact line_of h)
theorem ev_itX (l : List Nat) : itemsOf (.str (tx l)) = some (l.map fun c => .str ⟨#[c]⟩) := rfl
theorem ev_in1 (neg : Bool) (c : Nat) (z : Str) : gIn neg (.str ⟨#[c]⟩) (.str z) = some (.sh (.bl (if neg then !decide (c ∈ z.cps.toList) else decide (c ∈ z.cps.toList)))) := rfl
theorem ev_emp (l : List Nat) : (tx l = Str.ofString "") = (l = []) := by
  have : Str.ofString "" = tx [] := by decide
  rw [this]
  apply propext
  constructor
  · intro h
    have := congrArg (fun s : Str => s.cps.toList) h
    simpa using this
  · rintro rfl; rfl
theorem atI_at {α : Type} (xs : List α) (i : Int) (h0 : 0 ≤ i) (h : i < xs.length) : ∃ x ∈ xs, atI xs i = some x := by
  have hn : i.toNat < xs.length := by omega
  refine ⟨xs[i.toNat], List.getElem_mem _, ?_⟩
  unfold atI ixN
  rw [if_pos h0, if_pos h]
  show xs[i.toNat]? = _
  exact List.getElem?_eq_getElem hn
theorem len_repS (x : Str) (n : Int) : (repS x n).length = n.toNat * x.length := by
  show (List.toArray _).size = _
  unfold Str.length
  simp
theorem len_app (x y : Str) : (x ++ y).length = x.length + y.length := by
  show (x.cps ++ y.cps).size = _
  unfold Str.length
  simp
theorem ev_evPC (i : Int) (δ : Env) : evP (some (fC (.int i))) δ = .ok (some i) := rfl
theorem cutD_take (xs : List D) (k : Nat) : cutD xs none (some (k : Int)) = xs.take k := by
  unfold cutD HT.sIx
  simp only [List.drop_zero, Nat.sub_zero]
  split
  · omega
  · rw [List.take_eq_take_iff]
    simp
/-- a comprehension: the items that p takes, each by h -/
theorem lcR_eq {g : D → Env → Option Env} {ft : Env → Res Bool} {fe : Env → Res SV} {δ : Env} (p : D → Bool) (h : D → D) : ∀ ds : List D, (∀ d ∈ ds, ∃ δ1, g d δ = some δ1 ∧ ft δ1 = .ok (p d) ∧ (p d = true → ∃ s, fe δ1 = .ok s ∧ s.fz = .sh (h d))) → lcR g ft fe δ ds = some ((ds.filter p).map h)
  | [], _ => rfl
  | d :: ds, H => by
    obtain ⟨δ1, e1, e2, e3⟩ := H d (List.mem_cons_self ..)
    have ih := lcR_eq p h ds fun x m => H x (List.mem_cons_of_mem _ m)
    unfold lcR
    rw [e1]
    dsimp only
    rw [e2, List.filter_cons]
    cases q : p d with
    | true =>
      obtain ⟨s, e4, e5⟩ := e3 q
      dsimp only
      rw [e4]
      dsimp only
      rw [e5]
      dsimp only
      rw [ih]
      rfl
    | false => exact ih
theorem fLc_eq {fi : Env → Res (List D)} {g : D → Env → Option Env} {ft : Env → Res Bool} {fe : Env → Res SV} {vs : List Nat} {δ : Env} {ds : List D} (p : D → Bool) (h : D → D) (hi : fi δ = .ok ds) (hl : ds.length ≤ 1000000) (H : ∀ d ∈ ds, ∃ δ1, g d (dwipe δ vs) = some δ1 ∧ ft δ1 = .ok (p d) ∧ (p d = true → ∃ s, fe δ1 = .ok s ∧ s.fz = .sh (h d))) : fLc fi g ft fe vs δ = .ok (.ow ((ds.filter p).map h)) := by
  unfold fLc
  rw [hi, bind_ok, lcR_eq p h ds H]
  dsimp only
  rw [if_pos]
  refine line_of ?_
  rw [List.length_map]
  have := List.length_filter_le p ds
  omega
/-- without a test -/
theorem fLc_map {fi : Env → Res (List D)} {g : D → Env → Option Env} {fe : Env → Res SV} {vs : List Nat} {δ : Env} {ds : List D} (h : D → D) (hi : fi δ = .ok ds) (hl : ds.length ≤ 1000000) (H : ∀ d ∈ ds, ∃ δ1 s, g d (dwipe δ vs) = some δ1 ∧ fe δ1 = .ok s ∧ s.fz = .sh (h d)) : fLc fi g fYes fe vs δ = .ok (.ow (ds.map h)) := by
  have := fLc_eq (ft := fYes) (fun _ => true) h hi hl (fun d m => by
    obtain ⟨δ1, s, e1, e2, e3⟩ := H d m
    exact ⟨δ1, e1, rfl, fun _ => ⟨s, e2, e3⟩⟩)
  rw [this, List.filter_eq_self.mpr fun _ _ => rfl]
theorem dInts_map (l : List Int) : dInts (l.map D.int) = some l := by
  induction l with
  | nil => rfl
  | cons a l ih =>
    rw [List.map_cons]
    unfold dInts
    rw [ih]
    rfl
theorem ev_sum (l : List Int) : gSum [.lst (l.map D.int)] = some (.sh (.int l.sum)) := by
  show (dInts (l.map D.int)).map _ = _
  rw [dInts_map]
  rfl
theorem ev_line {n : Nat} (h : n ≤ 1000000) : (n ≤ sizeLine) = True := eq_true (line_of h)
/-! ### == of numbers in lists and tuples -/
mutual
def plainD : Nat → D → Bool
  | _, .int _ => true
  | n + 1, .tup ds => plainDs n ds
  | n + 1, .lst ds => plainDs n ds
  | _, _ => false
def plainDs : Nat → List D → Bool
  | _, [] => true
  | n, d :: ds => plainD n d && plainDs n ds
end
mutual
theorem plain_py : ∀ (n : Nat) (d : D), plainD n d = true → ∃ p, toPy d = some p ∧ p.canLay0 = true ∧ p.depth ≤ n
  | n, .int i, _ => ⟨.int i, by unfold toPy; rfl, by unfold PyData.canLay0; rfl, by unfold PyData.depth; omega⟩
  | n + 1, .tup ds, h => by
    unfold plainD at h
    obtain ⟨ps, h1, h2, h3⟩ := plain_pys n ds h
    exact ⟨.tuple ps, by unfold toPy; rw [h1]; rfl, by unfold PyData.canLay0; exact h2, by unfold PyData.depth; omega⟩
  | n + 1, .lst ds, h => by
    unfold plainD at h
    obtain ⟨ps, h1, h2, h3⟩ := plain_pys n ds h
    exact ⟨.list ps, by unfold toPy; rw [h1]; rfl, by unfold PyData.canLay0; exact h2, by unfold PyData.depth; omega⟩
  | 0, .tup _, h | 0, .lst _, h | _, .non, h | _, .bl _, h | _, .str _, h | _, .scr _, h | _, .ins _ _, h | _, .exc _, h => by unfold plainD at h; cases h
theorem plain_pys : ∀ (n : Nat) (d : List D), plainDs n d = true → ∃ p, toPys d = some p ∧ PyData.canLayAll0 p = true ∧ PyData.depthAll p ≤ n
  | n, [], _ => ⟨[], by unfold toPys; rfl, by unfold PyData.canLayAll0; rfl, by unfold PyData.depthAll; omega⟩
  | n, d :: ds, h => by
    unfold plainDs at h
    rw [Bool.and_eq_true] at h
    obtain ⟨p, a1, a2, a3⟩ := plain_py n d h.1
    obtain ⟨ps, b1, b2, b3⟩ := plain_pys n ds h.2
    exact ⟨p :: ps, by unfold toPys; rw [a1, b1], by unfold PyData.canLayAll0; rw [a2, b2]; rfl, by unfold PyData.depthAll; omega⟩
end
mutual
theorem plain_eqv : ∀ (n m : Nat) (d e : D) (p q : PyData), plainD n d = true → plainD m e = true → toPy d = some p → toPy e = some q → (p.eqv q = true ↔ d = e)
  | n, m, .int i, .int j, p, q, _, _, h, g => by
    unfold toPy at h g
    cases h
    cases g
    unfold PyData.eqv
    simp
  | n + 1, m + 1, .tup ds, .tup es, p, q, a, b, h, g => by
    unfold plainD at a b
    unfold toPy at h g
    obtain ⟨ps, h1, rfl⟩ := Option.map_eq_some_iff.mp h
    obtain ⟨qs, g1, rfl⟩ := Option.map_eq_some_iff.mp g
    unfold PyData.eqv
    rw [plain_eqvs n m ds es ps qs a b h1 g1]
    simp
  | n + 1, m + 1, .lst ds, .lst es, p, q, a, b, h, g => by
    unfold plainD at a b
    unfold toPy at h g
    obtain ⟨ps, h1, rfl⟩ := Option.map_eq_some_iff.mp h
    obtain ⟨qs, g1, rfl⟩ := Option.map_eq_some_iff.mp g
    unfold PyData.eqv
    rw [plain_eqvs n m ds es ps qs a b h1 g1]
    simp
  | _, _, .int _, .tup _, p, q, _, _, h, g | _, _, .int _, .lst _, p, q, _, _, h, g | _, _, .tup _, .int _, p, q, _, _, h, g | _, _, .tup _, .lst _, p, q, _, _, h, g | _, _, .lst _, .int _, p, q, _, _, h, g | _, _, .lst _, .tup _, p, q, _, _, h, g => by
    unfold toPy at h g
    first
    | (cases h; obtain ⟨qs, g1, rfl⟩ := Option.map_eq_some_iff.mp g; unfold PyData.eqv; simp)
    | (cases g; obtain ⟨qs, g1, rfl⟩ := Option.map_eq_some_iff.mp h; unfold PyData.eqv; simp)
    | (obtain ⟨ps, h1, rfl⟩ := Option.map_eq_some_iff.mp h; obtain ⟨qs, g1, rfl⟩ := Option.map_eq_some_iff.mp g; unfold PyData.eqv; simp)
  | 0, _, .tup _, .tup _, _, _, h, _, _, _ | 0, _, .lst _, .lst _, _, _, h, _, _, _ => by unfold plainD at h; cases h
  | _, 0, .tup _, .tup _, _, _, _, h, _, _ | _, 0, .lst _, .lst _, _, _, _, h, _, _ => by unfold plainD at h; cases h
  | _, _, .non, _, _, _, h, _, _, _ | _, _, .bl _, _, _, _, h, _, _, _ | _, _, .str _, _, _, _, h, _, _, _ | _, _, .scr _, _, _, _, h, _, _, _ | _, _, .ins _ _, _, _, _, h, _, _, _ | _, _, .exc _, _, _, _, h, _, _, _ => by unfold plainD at h; cases h
  | _, _, _, .non, _, _, _, h, _, _ | _, _, _, .bl _, _, _, _, h, _, _ | _, _, _, .str _, _, _, _, h, _, _ | _, _, _, .scr _, _, _, _, h, _, _ | _, _, _, .ins _ _, _, _, _, h, _, _ | _, _, _, .exc _, _, _, _, h, _, _ => by unfold plainD at h; cases h
theorem plain_eqvs : ∀ (n m : Nat) (d e : List D) (p q : List PyData), plainDs n d = true → plainDs m e = true → toPys d = some p → toPys e = some q → (PyData.eqvAll p q = true ↔ d = e)
  | n, m, [], [], p, q, _, _, h, g => by
    unfold toPys at h g
    cases h
    cases g
    unfold PyData.eqvAll
    simp
  | n, m, d :: ds, e :: es, p, q, a, b, h, g => by
    unfold plainDs at a b
    rw [Bool.and_eq_true] at a b
    obtain ⟨p1, x1, _⟩ := plain_py n d a.1
    obtain ⟨ps, x2, _⟩ := plain_pys n ds a.2
    obtain ⟨q1, y1, _⟩ := plain_py m e b.1
    obtain ⟨qs, y2, _⟩ := plain_pys m es b.2
    unfold toPys at h g
    rw [x1, x2] at h
    rw [y1, y2] at g
    cases h
    cases g
    unfold PyData.eqvAll
    rw [Bool.and_eq_true, plain_eqv n m d e p1 q1 a.1 b.1 x1 y1, plain_eqvs n m ds es ps qs a.2 b.2 x2 y2]
    simp
  | n, m, [], e :: es, p, q, a, b, h, g => by
    unfold plainDs at b
    rw [Bool.and_eq_true] at b
    obtain ⟨q1, y1, _⟩ := plain_py m e b.1
    obtain ⟨qs, y2, _⟩ := plain_pys m es b.2
    unfold toPys at h g
    rw [y1, y2] at g
    cases h
    cases g
    unfold PyData.eqvAll
    simp
  | n, m, d :: ds, [], p, q, a, b, h, g => by
    unfold plainDs at a
    rw [Bool.and_eq_true] at a
    obtain ⟨p1, x1, _⟩ := plain_py n d a.1
    obtain ⟨ps, x2, _⟩ := plain_pys n ds a.2
    unfold toPys at h g
    rw [x1, x2] at h
    cases h
    cases g
    unfold PyData.eqvAll
    simp
end
theorem deq_seq {d e : D} {p q : PyData} (hd : toPy d = some p) (he : toPy e = some q) (h : (∃ ds, d = .lst ds ∨ d = .tup ds)) (s1 : SeqAt.shaped p = true) (s2 : SeqAt.shaped q = true) : deq d e = some (p.eqv q) := by
  obtain ⟨ds, rfl | rfl⟩ := h
  · unfold deq
    split <;> first | contradiction | (rw [hd, he]; simp [s1, s2])
  · unfold deq
    split <;> first | contradiction | (rw [hd, he]; simp [s1, s2])
theorem deq_plain {d e : D} (n : Nat) (hn : n ≤ 60) (hd : plainD n d = true) (he : plainD n e = true) (h : (∃ ds, d = .lst ds ∨ d = .tup ds)) : ∃ b, deq d e = some b ∧ (b = true ↔ d = e) := by
  obtain ⟨p, a1, a2, a3⟩ := plain_py n d hd
  obtain ⟨q, b1, b2, b3⟩ := plain_py n e he
  refine ⟨p.eqv q, deq_seq a1 b1 h ?_ ?_, plain_eqv n n d e p q hd he a1 b1⟩
  · unfold SeqAt.shaped
    rw [a2, Bool.true_and]
    exact decide_eq_true (by omega)
  · unfold SeqAt.shaped
    rw [b2, Bool.true_and]
    exact decide_eq_true (by omega)
theorem map_inj {α β : Type} {f : α → β} (h : ∀ x y, f x = f y → x = y) : ∀ {l m : List α}, l.map f = m.map f → l = m
  | [], [], _ => rfl
  | [], _ :: _, e => by simp at e
  | _ :: _, [], e => by simp at e
  | x :: l, y :: m, e => by
    rw [List.map_cons, List.map_cons, List.cons.injEq] at e
    rw [h x y e.1, map_inj h e.2]
theorem mkP_inj (p q : IP) (h : mkP p = mkP q) : p = q := by
  unfold mkP at h
  injection h with h
  injection h with h1 h2
  injection h2 with h2 h3
  injection h1 with h1
  injection h2 with h2
  exact Prod.ext h1 h2
theorem plain_pairs (ps : List IP) : plainD 2 (.lst (ps.map mkP)) = true := by
  unfold plainD
  induction ps with
  | nil => rfl
  | cons p ps ih =>
    rw [List.map_cons]
    unfold plainDs
    rw [ih]
    rfl
theorem ev_eqPs (ps qs : List IP) : gEq (.lst (ps.map mkP)) (.lst (qs.map mkP)) = some (.sh (.bl (decide (ps = qs)))) := by
  obtain ⟨b, h1, h2⟩ := deq_plain 2 (by omega) (plain_pairs ps) (plain_pairs qs) ⟨_, .inl rfl⟩
  show (deq _ _).map _ = _
  rw [h1]
  have : b = decide (ps = qs) := by
    rw [Bool.eq_iff_iff, h2, decide_eq_true_eq]
    exact ⟨fun h => map_inj mkP_inj (by injection h), fun h => by rw [h]⟩
  rw [this]
  rfl
theorem ev_nePs (ps qs : List IP) : gNe (.lst (ps.map mkP)) (.lst (qs.map mkP)) = some (.sh (.bl (!decide (ps = qs)))) := by
  have h : (deq (.lst (ps.map mkP)) (.lst (qs.map mkP))).map (fun b => SV.sh (.bl b)) = some (.sh (.bl (decide (ps = qs)))) := ev_eqPs ps qs
  obtain ⟨b, h1, h2⟩ := Option.map_eq_some_iff.mp h
  show (deq _ _).map _ = _
  rw [h1]
  cases h2
  rfl
theorem ev_neNil (ps : List IP) : gNe (.lst (ps.map mkP)) (.lst []) = some (.sh (.bl (!decide (ps = [])))) := ev_nePs ps []
theorem ev_srt (ps : List IP) : gSrtA [.lst (ps.map mkP)] = some (.ow ((srtP ps).map mkP)) := by
  have e : gSrt [.lst (ps.map mkP)] = some (.ow ((srtP ps).map mkP)) := by
    show (pairsOf (ps.map mkP)).map _ = _
    rw [pairsOf_map]
    rfl
  unfold gSrtA
  rw [e]
  cases ps with
  | nil => rfl
  | cons p ps => rfl
theorem ev_srtI (ns : List Int) : gSrtA [.lst (ns.map D.int)] = some (.ow ((srtI ns).map D.int)) := by
  have e : gSrtI [.lst (ns.map D.int)] = some (.ow ((srtI ns).map D.int)) := by
    show (dInts (ns.map D.int)).map _ = _
    rw [dInts_map]
    rfl
  unfold gSrtA
  rw [e]
  rfl
theorem ev_rev (ds : List D) : gRev (.lst ds) = some (.ow ds.reverse) := rfl
theorem ev_app (ds : List D) (e : D) (h : ds.length ≤ 1000000) : mAppend ds [e] = some (ds ++ [e], .non) := by
  unfold mAppend
  have : sizeLine = 16777216 := by decide
  dsimp only
  rw [if_pos (by omega)]
theorem ev_ixP0 (p : IP) : gIx (mkP p) (.int 0) = some (.sh (.int p.1)) := rfl
theorem ev_ixP1 (p : IP) : gIx (mkP p) (.int 1) = some (.sh (.int p.2)) := rfl
theorem ev_lenP (p : IP) : gLen [mkP p] = some (.sh (.int 2)) := rfl
theorem ev_isiP (T : String) (p : IP) : gIsi T (mkP p) = some (.sh (.bl (isTy T "tuple"))) := rfl
theorem mkP_mk (i j : Int) : D.tup [.int i, .int j] = mkP (i, j) := rfl
theorem noL_P : ∀ l : List IP, noLs (l.map mkP) = true
  | [] => by unfold noLs; rfl
  | p :: l => by
    rw [List.map_cons]
    unfold noLs
    rw [noL_P l]
    rfl
theorem noL_B (b : Bool) : noL (.bl b) = true := rfl
theorem noL_I (i : Int) : noL (.int i) = true := rfl
theorem noL_S (s : Str) : noL (.str s) = true := rfl
theorem noL_N : noL .non = true := rfl
theorem cutD_len (xs : List D) (a b : Option Int) : (cutD xs a b).length ≤ xs.length := by
  unfold cutD
  rw [List.length_take, List.length_drop]
  omega
theorem cutD_mem {xs : List D} {a b : Option Int} {d : D} (h : d ∈ cutD xs a b) : d ∈ xs := List.mem_of_mem_drop (List.mem_of_mem_take h)
theorem ev_eqTs (ps qs : List IP) : gEq (.tup (ps.map mkP)) (.tup (qs.map mkP)) = some (.sh (.bl (decide (ps = qs)))) := by
  have h1 : plainD 2 (.tup (ps.map mkP)) = true := by have := plain_pairs ps; unfold plainD at this ⊢; exact this
  have h2 : plainD 2 (.tup (qs.map mkP)) = true := by have := plain_pairs qs; unfold plainD at this ⊢; exact this
  obtain ⟨b, h1, h2⟩ := deq_plain 2 (by omega) h1 h2 ⟨_, .inr rfl⟩
  show (deq _ _).map _ = _
  rw [h1]
  have : b = decide (ps = qs) := by
    rw [Bool.eq_iff_iff, h2, decide_eq_true_eq]
    exact ⟨fun h => map_inj mkP_inj (by injection h), fun h => by rw [h]⟩
  rw [this]
  rfl
theorem plain_ints (ns : List Int) : plainD 1 (.lst (ns.map D.int)) = true := by
  unfold plainD
  induction ns with
  | nil => rfl
  | cons p ps ih =>
    rw [List.map_cons]
    unfold plainDs
    rw [ih]
    rfl
theorem ev_eqIs (ps qs : List Int) : gEq (.lst (ps.map D.int)) (.lst (qs.map D.int)) = some (.sh (.bl (decide (ps = qs)))) := by
  obtain ⟨b, h1, h2⟩ := deq_plain 1 (by omega) (plain_ints ps) (plain_ints qs) ⟨_, .inl rfl⟩
  show (deq _ _).map _ = _
  rw [h1]
  have : b = decide (ps = qs) := by
    rw [Bool.eq_iff_iff, h2, decide_eq_true_eq]
    exact ⟨fun h => map_inj (f := D.int) (fun _ _ z => by cases z; rfl) (by injection h), fun h => by rw [h]⟩
  rw [this]
  rfl
theorem ev_neIs (ps qs : List Int) : gNe (.lst (ps.map D.int)) (.lst (qs.map D.int)) = some (.sh (.bl (!decide (ps = qs)))) := by
  have h : (deq (.lst (ps.map D.int)) (.lst (qs.map D.int))).map (fun b => SV.sh (.bl b)) = some (.sh (.bl (decide (ps = qs)))) := ev_eqIs ps qs
  obtain ⟨b, h1, h2⟩ := Option.map_eq_some_iff.mp h
  show (deq _ _).map _ = _
  rw [h1]
  cases h2
  rfl
theorem ev_eqI0 (ps : List Int) : gEq (.lst (ps.map D.int)) (.lst []) = some (.sh (.bl (decide (ps = [])))) := ev_eqIs ps []
theorem atI_last (ns : List Int) (h : ns ≠ []) : atI (ns.map D.int) (-1) = some (.int (ns.getLast h)) := by
  unfold atI ixN
  have hl : 0 < ns.length := List.length_pos_iff.mpr h
  rw [if_neg (by omega), if_pos (by rw [List.length_map]; omega)]
  show (ns.map D.int)[_]? = _
  rw [List.length_map, List.getLast_eq_getElem]
  have : (-1 + ((ns.length : Nat) : Int)).toNat = ns.length - 1 := by omega
  rw [this, List.getElem?_map, List.getElem?_eq_getElem (by omega)]
  rfl
theorem atI_nth (ns : List Int) (k : Nat) (h : k < ns.length) : atI (ns.map D.int) (k : Int) = some (.int ns[k]) := by
  unfold atI ixN
  rw [if_pos (by omega), if_pos (by rw [List.length_map]; omega)]
  show (ns.map D.int)[_]? = _
  rw [Int.toNat_natCast, List.getElem?_map, List.getElem?_eq_getElem h]
  rfl
theorem ev_p9 : gPow (.int 10) (.int 9) = some (.sh (.int 1000000000)) := rfl
theorem ev_p20 : gPow (.int 10) (.int 20) = some (.sh (.int 100000000000000000000)) := rfl
theorem ev_p12 : gPow (.int 10) (.int 12) = some (.sh (.int 1000000000000)) := rfl
theorem ev_p15 : gPow (.int 10) (.int 15) = some (.sh (.int 1000000000000000)) := rfl
theorem ev_p18 : gPow (.int 10) (.int 18) = some (.sh (.int 1000000000000000000)) := rfl
theorem ev_p6 : gPow (.int 10) (.int 6) = some (.sh (.int 1000000)) := rfl
theorem uniO_c (r : Out) : (uniO fun _ => r) = r := uniO_eq fun _ => rfl
end DL
end

section
set_option Elab.async false
set_option linter.all false
set_option autoImplicit false
set_option maxRecDepth 100000
set_option maxHeartbeats 4000000
/-! Lambdas as data: making one, what its frame's cells hold behind the frame, calls. -/
namespace DL
open PySem PySem.Spec PyProof.Rows L2 LamX
section
variable {X : Cx} {pins : List (Addr × Obj)} {σ : L2.St} {H : Hp} {s : Shared}
theorem inv_lam {L : LamD} {cl : List (Str × Addr)} {c : Addr} {o : Obj} {t' : Nat} {pm ctv : Value} (I : L2.Inv X pins σ H s) (ho : o = { cls := .type "function", data := .func (PySem.W.kla_fn "<lambda>" L.qual L.params L.body L.scope cl pm (.ref c) ctv) }) :
    L2.Inv X pins σ (upd H s.heap.objs.size (LamO s.heap.objs.size L cl c)) { s with heap := s.heap.push o, toks := t' } := by
  subst ho
  refine I.laid (a := s.heap.objs.size) (fun b u e => Heap.get?_push_of_some _ e) (Nat.le_refl _) ?_
  have e : (s.heap.push ({ cls := .type "function", data := .func (PySem.W.kla_fn "<lambda>" L.qual L.params L.body L.scope cl pm (.ref c) ctv) } : Obj)).get? s.heap.objs.size = some ({ cls := .type "function", data := .func (PySem.W.kla_fn "<lambda>" L.qual L.params L.body L.scope cl pm (.ref c) ctv) } : Obj) := Heap.get?_push_size _ rfl
  exact ⟨⟨_, _, pm, ctv, e⟩, ⟨_, e⟩, fun h1 h2 ⟨od, sl, p, t, z⟩ st => ⟨od, sl, p, t, st _ z⟩⟩
theorem lam_mk {T : Tb} {nm : Nat → Nat → Str} {c P : Addr} {L : LamD} {pos : Pos} {E : Value → Shared → Prop} {Q : Value → Shared → Prop} (I : L2.Inv X pins σ H s) (TB : TabB X.base X.mg c P) (hcode : X.env.code = .ref c)
    (hm : (P, nm) ∈ T.tabs) (hn : nm pos.line pos.col = L.qual) (hq : L.qual = X.env.qual ++ "<lambda>") (hu : ∀ p ∈ T.tabs, p.1 = P → p.2 = nm) (hT : TbG T H) (hdef : defaultsOf L.params X.env = ([], [])) (hfree : ∀ y ∈ L.scope.names, y.2 = .free → ∃ c, X.env.cells.lookup y.1 = some c)
    (h : ∀ (f c' : Addr) (H1 : Hp) (s' : Shared), L2.Inv X pins σ H1 s' → H f = none → f ≠ c' → f ≠ P → c' ≠ P → (H c' = none ∨ H c' = some (CodeO c' L.qual)) → (∀ b, b ≠ f → b ≠ c' → b ≠ P → H1 b = H b) → H1 f = some (LamO f L (cloFrom X.env.cells L.scope.names []) c') → H1 c' = some (CodeO c' L.qual) →
      (∃ ps, H P = some (.tbl ps)) → (∃ ps, H1 P = some (.tbl ps)) → TbG T H1 → Q (.ref f) s') :
    wpAny (model X.prog X.w) X.A (eval (.Lambda L.params L.body L.scope pos) X.env) Q E s := by
  refine PySem.W.kla_eval hdef ?_
  rw [← hq]
  obtain ⟨ps, hP, ht, ha⟩ := (show NdefX.TabN H P nm from hT _ hm)
  have bP : s.heap.BuiltinsAt X.mg P := TB.bm.keeps I.bk
  have hP' : s.heap.get? P = some { cls := .none, data := .fields ps } := I.hok P _ hP
  cases hc : codeAmong pos ps.toList with
  | none =>
    refine PySem.W.kla_makeFunction (mg := X.mg) (c := c) (P := P) (ps := ps) (closure_ok hfree) I.ok.glob (I.mod.glob.keeps I.bk) hcode (TB.code.keeps I.bk) hP' ht hc TB.gP bP fun c' ctv h' tk hx hge hlt hrec htb => ?_
    obtain ⟨c2, oc, vs, t, e2, hoc, hd, hv⟩ := hrec
    cases e2
    have nC : H c' = none := I.hok.fresh hge
    have I1 := inv_table (t' := tk) (more := #[rawInt pos.line, rawInt pos.col, .ref c']) (h' := h') I hP (fun b o hb e => hx b o hb e) htb hge ⟨oc, vs, t, hoc, hd, hv⟩
    have nPc : P ≠ c' := ne_of_none hP nC
    have hE : ExtN H (upd (upd H P (.tbl (ps ++ #[rawInt pos.line, rawInt pos.col, .ref c']))) c' (CodeO c' L.qual)) := fun b o e n => by
      rw [upd_ne (ne_of_none e nC), upd_ne (fun z => n ps (Option.some.inj (e.symm.trans (by rw [z]; exact hP))))]
      exact e
    have eL : (ps ++ #[rawInt pos.line, rawInt pos.col, .ref c']).toList = ps.toList ++ [rawInt pos.line, rawInt pos.col, .ref c'] := by simp
    have T1 : TbG T (upd (upd H P (.tbl (ps ++ #[rawInt pos.line, rawInt pos.col, .ref c']))) c' (CodeO c' L.qual)) := fun p hp => by
      by_cases hb : p.1 = P
      · rw [hu p hp hb, hb]
        refine ⟨_, by rw [upd_ne nPc, upd_same], by rw [eL]; exact PySem.TriplesOk_snoc _ _ _ _ ht, fun p' cv hcv => ?_⟩
        rw [eL] at hcv
        rcases NdefX.among_app2 _ ht hcv with z | ⟨z, z1, z2⟩
        · obtain ⟨c0, e1, e2⟩ := ha p' cv z
          exact ⟨c0, e1, hE _ _ e2 codeO_ne⟩
        · refine ⟨c', z, ?_⟩
          rw [← z1, ← z2, hn]
          exact upd_same
      · obtain ⟨ps', a1, a2, a3⟩ := hT p hp
        refine ⟨ps', by rw [upd_ne (ne_of_none a1 nC), upd_ne hb]; exact a1, a2, fun p' cv hcv => ?_⟩
        obtain ⟨c0, e1, e2⟩ := a3 p' cv hcv
        exact ⟨c0, e1, hE _ _ e2 codeO_ne⟩
    have nF := I1.hok.fresh (Nat.le_refl _)
    have nFc : h'.objs.size ≠ c' := Nat.ne_of_gt hlt
    have nFP : h'.objs.size ≠ P := fun z => by
      have := Heap.lt_size htb
      rw [z] at this
      exact Nat.lt_irrefl _ this
    have I2 := inv_lam (L := L) (c := c') (cl := cloFrom X.env.cells L.scope.names []) (t' := tk) (pm := (X.mg "__name__").getD .none) (ctv := ctv) I1 rfl
    refine h h'.objs.size c' _ _ I2 (I.hok.fresh (Nat.le_trans hge (Nat.le_of_lt hlt))) nFc nFP nPc.symm (.inl nC) (fun b h1 h2 h3 => ?_) upd_same ?_ ⟨_, hP⟩ ⟨ps ++ #[rawInt pos.line, rawInt pos.col, .ref c'], ?_⟩ (T1.ex fun b o e => ?_)
    · rw [upd_ne h1, upd_ne h2, upd_ne h3]
    · rw [upd_ne nFc.symm, upd_same]
    · rw [upd_ne nFP.symm, upd_ne nPc, upd_same]
    · exact (upd_ne (ne_of_none e nF)).trans e
  | some cv =>
    obtain ⟨c', e, hco⟩ := ha pos cv hc
    subst e
    rw [hn] at hco
    refine PySem.W.kla_makeFunctionHit (mg := X.mg) (c := c) (P := P) (ps := ps) (closure_ok hfree) I.ok.glob (I.mod.glob.keeps I.bk) hcode (TB.code.keeps I.bk) hP' ht hc bP fun ctv h' tk hx hsz => ?_
    have I1 : L2.Inv X pins σ H { s with heap := h', toks := tk } := I.kept hx
    have nF : H h'.objs.size = none := I1.hok.fresh (Nat.le_refl _)
    have I2 := inv_lam (L := L) (c := c') (cl := cloFrom X.env.cells L.scope.names []) (t' := tk) (pm := (X.mg "__name__").getD .none) (ctv := ctv) I1 rfl
    have nFc : h'.objs.size ≠ c' := (ne_of_none hco nF).symm
    have nFP : h'.objs.size ≠ P := (ne_of_none hP nF).symm
    have ncP : c' ≠ P := fun z => by
      rw [z, hP] at hco
      exact codeO_ne _ (Option.some.inj hco).symm
    refine h h'.objs.size c' _ _ I2 nF nFc nFP ncP (.inr hco) (fun b h1 _ _ => upd_ne h1) upd_same ?_ ⟨_, hP⟩ ⟨ps, ?_⟩ (hT.ex fun b o e => ?_)
    · exact (upd_ne nFc.symm).trans hco
    · exact (upd_ne nFP.symm).trans hP
    · exact (upd_ne (ne_of_none e nF)).trans e
end
/-- a lambda's datum: what its captured names hold, by the def's arguments -/
def fLam (k : Nat) (js : List Nat) (ds : List D) : DL.Env → Res SV := fun _ => match js.mapM fun j => ds[j]? with
  | some cs => .ok (.sh (.clo k cs))
  | none => .bad
/-- the running frame's cells hold, behind it, the arguments ds -/
def CkOf (X : Cx) (T : Tb) (ds : List D) : Prop := ∀ (y : Str) (c : Addr) (j : Nat) (d : D), X.env.cells.lookup y = some c → X.N[j]? = some y → ds[j]? = some d → T.ck c d
theorem repc_pend {K : PySem.W.Frag} {T : Tb} {X : Cx} {F : Hp} {ds : List D} {cl : List (Str × Addr)} (hk : CkOf X T ds) :
    ∀ {fr : List Str} {js : List Nat} {cs : List D}, js.map (fun j => X.N[j]?) = fr.map some → (js.mapM fun j => ds[j]?) = some cs → (∀ y ∈ fr, ∃ c, cl.lookup y = some c ∧ X.env.cells.lookup y = some c) → Repc K T F cl fr cs
  | [], [], cs, _, e, _ => by
    simp at e
    subst e
    exact .nil
  | y :: fr, j :: js, cs, h, e, hc => by
    simp only [List.map_cons, List.cons.injEq] at h
    rw [List.mapM_cons] at e
    cases q : ds[j]? with
    | none => rw [q] at e; cases e
    | some d =>
      rw [q] at e
      cases q2 : js.mapM fun j => ds[j]? with
      | none => simp [q2] at e
      | some cs' =>
        simp [q2] at e
        subst e
        obtain ⟨c, h1, h2⟩ := hc y List.mem_cons_self
        exact .pend h1 (hk y c j d h2 h.1 q) (repc_pend hk h.2 q2 fun z hz => hc z (List.mem_cons_of_mem _ hz))
  | [], j :: js, cs, h, _, _ => by simp at h
  | y :: fr, [], cs, h, _, _ => by simp at h
theorem clo_dom {cells : List (Str × Addr)} {names : List (Str × NameKind)} {y : Str} {c : Addr} (e : (cloFrom cells names []).lookup y = some c) : (y, NameKind.free) ∈ names := by
  rcases cloFrom_mem (PySem.mem_of_lookup e) with hm | ⟨h1, h2⟩
  · cases hm
  · exact h1
section
variable {X : Cx} {T : Tb} {W : WX} {nm : Nat → Nat → Str} {c P : Addr} {k : Nat} {js : List Nat} {ds : List D} {params : Arguments} {body : Expr} {scope : Scope} {pos : Pos}
/-- the expression lambda .. -/
theorem de_lam (TB : TabB X.base X.mg c P) (hcode : X.env.code = .ref c) (hm : (P, nm) ∈ T.tabs) (hu : ∀ p ∈ T.tabs, p.1 = P → p.2 = nm) (hck : CkOf X T ds)
    (hL : params = (T.lam k).params ∧ body = (T.lam k).body ∧ scope = (T.lam k).scope ∧ (T.lam k).qual = X.env.qual ++ "<lambda>") (hn : nm pos.line pos.col = (T.lam k).qual) (hdef : defaultsOf params X.env = ([], []))
    (hfree : NdefX.ndefB X.env.scope scope (T.lam k).fr = true) (hdom : scope.names.all (fun y => !decide (y.2 = .free) || decide (y.1 ∈ (T.lam k).fr)) = true) (hjs : js.map (fun j => X.N[j]?) = (T.lam k).fr.map some) :
    PE X (.Lambda params body scope pos) (rd X.K T W (fLam k js ds)) := by
  obtain ⟨rfl, rfl, rfl, hq⟩ := hL
  refine ⟨fun pins s σ H Q I ⟨F0, G, F, δ, E, h⟩ => ?_⟩
  have hfree' : ∀ y ∈ (T.lam k).scope.names, y.2 = .free → ∃ c, X.env.cells.lookup y.1 = some c := fun y hy e => (NdefX.ndef_free hfree y hy e).elim (fun z => I.ok.has _ (.inl z)) fun z => I.ok.has _ (.inr z)
  refine lam_mk (T := T) (nm := nm) I TB hcode hm hn hq hu E.tb hdef hfree' fun f c' H1 s' I1 nf nfc nfP ncP hc hb hf hc1 hP hP1 t1 => ?_
  unfold fLam at h
  cases q : js.mapM fun j => ds[j]? with
  | none => rw [q] at h; exact h.elim
  | some cs =>
    rw [q] at h
    obtain ⟨ps, hP⟩ := hP
    obtain ⟨ps1, hP1⟩ := hP1
    have FP : ∀ o, F P = some o → isTbl o = true := fun o e => by
      cases z : isTbl o with
      | true => rfl
      | false =>
        have := E.fh.a P o e z
        rw [hP] at this
        cases this
        cases z
    let F1 : Hp := fun b => if b = f then some (LamO f (T.lam k) (cloFrom X.env.cells (T.lam k).scope.names []) c') else if b = c' then some (CodeO c' (T.lam k).qual) else F b
    have f1 : F1 f = some (LamO f (T.lam k) (cloFrom X.env.cells (T.lam k).scope.names []) c') := if_pos rfl
    have f2 : F1 c' = some (CodeO c' (T.lam k).qual) := by show (if c' = f then _ else _) = _; rw [if_neg nfc.symm, if_pos rfl]
    have f3 : ∀ b, b ≠ f → b ≠ c' → F1 b = F b := fun b z1 z2 => by show (if b = f then _ else _) = _; rw [if_neg z1, if_neg z2]
    have fF : F f = none := E.fh.n f nf
    have cF : ∀ o, F c' = some o → isTbl o = false → o = CodeO c' (T.lam k).qual := fun o e n => by
      have z := E.fh.a c' o e n
      rcases hc with z2 | z2
      · rw [z] at z2; cases z2
      · rw [z] at z2; exact Option.some.inj z2
    have cH : ∀ o, H c' = some o → o = CodeO c' (T.lam k).qual := fun o z => by
      rcases hc with z2 | z2
      · rw [z] at z2; cases z2
      · rw [z] at z2; exact Option.some.inj z2
    have st : Stp T F H F1 H1 := by
      refine ⟨⟨fun b o e n => ?_, fun b e => ?_⟩, ⟨fun b o e n => ?_, fun b e => ?_⟩, ⟨fun b o e n => ?_, fun b e => ?_⟩, fun b o m e1 e2 => ?_, fun _ => t1⟩
      · by_cases z1 : b = f
        · subst z1; rw [fF] at e; cases e
        · by_cases z2 : b = c'
          · subst z2; rw [f2, cF o e n]
          · rw [f3 b z1 z2]; exact e
      · by_cases z1 : b = f
        · subst z1; exact fF
        · by_cases z2 : b = c'
          · subst z2; rw [f2] at e; cases e
          · rw [f3 b z1 z2] at e; exact e
      · by_cases z1 : b = f
        · subst z1; rw [f1] at e; cases e; exact hf
        · by_cases z2 : b = c'
          · subst z2; rw [f2] at e; cases e; exact hc1
          · rw [f3 b z1 z2] at e
            by_cases z3 : b = P
            · subst z3; rw [FP o e] at n; cases n
            · rw [hb b z1 z2 z3]; exact E.fh.a b o e n
      · by_cases z1 : b = f
        · subst z1; rw [hf] at e; cases e
        · by_cases z2 : b = c'
          · subst z2; rw [hc1] at e; cases e
          · rw [f3 b z1 z2]
            by_cases z3 : b = P
            · subst z3; rw [hP1] at e; cases e
            · rw [hb b z1 z2 z3] at e; exact E.fh.n b e
      · by_cases z1 : b = f
        · subst z1; rw [nf] at e; cases e
        · by_cases z2 : b = c'
          · subst z2; rw [hc1, cH o e]
          · by_cases z3 : b = P
            · subst z3; rw [hP] at e; cases e; cases n
            · rw [hb b z1 z2 z3]; exact e
      · by_cases z1 : b = f
        · subst z1; rw [hf] at e; cases e
        · by_cases z2 : b = c'
          · subst z2; rw [hc1] at e; cases e
          · by_cases z3 : b = P
            · subst z3; rw [hP1] at e; cases e
            · rw [hb b z1 z2 z3] at e; exact e
      · by_cases z1 : b = f
        · subst z1; rw [nf] at e2; cases e2
        · by_cases z2 : b = c'
          · subst z2; rw [cH o e2] at m; cases m
          · rw [f3 b z1 z2]; exact e1
    refine ⟨.ref f, H1, I1, rfl, h (.ref f) F1 H1 st ?_⟩
    refine .clo f1 f2 (fun x y b h1 h2 => I.ok.inj x y b (NdefX.clo_cm hfree' h1) (NdefX.clo_cm hfree' h2)) (fun y b e => ?_) (repc_pend hck hjs q fun y hy => ?_)
    · have z := List.all_eq_true.mp hdom _ (clo_dom e)
      simp only [Bool.or_eq_true, Bool.not_eq_true', decide_eq_false_iff_not, decide_eq_true_eq] at z
      exact z.elim (fun z => absurd True.intro z) id
    · have hy2 := NdefX.ndef_fr hfree y hy
      obtain ⟨c2, hc2⟩ := hfree' _ hy2 rfl
      exact ⟨c2, NdefX.clo_has hfree' hy2 hc2, hc2⟩
end
end DL
end

section
set_option Elab.async false
set_option linter.all false
set_option autoImplicit false
set_option maxRecDepth 100000
set_option maxHeartbeats 4000000
/-! Calls of lambdas; what a frame's cells held is known behind it. -/
namespace DL
open PySem PySem.Spec PyProof.Rows L2 LamX
/-! ### cells laid over a heap, taken away -/
def ovr (M H : Hp) : Hp := fun b => match M b with
  | some o => some o
  | none => H b
def und (M H : Hp) : Hp := fun b => match M b with
  | some _ => none
  | none => H b
theorem ovr_s {M H : Hp} {b : Addr} {o : HO} (h : M b = some o) : ovr M H b = some o := by unfold ovr; rw [h]
theorem ovr_n {M H : Hp} {b : Addr} (h : M b = none) : ovr M H b = H b := by unfold ovr; rw [h]
theorem und_s {M H : Hp} {b : Addr} {o : HO} (h : M b = some o) : und M H b = none := by unfold und; rw [h]
theorem und_n {M H : Hp} {b : Addr} (h : M b = none) : und M H b = H b := by unfold und; rw [h]
/-- M tells cells alone -/
def Cells (M : Hp) : Prop := ∀ b o, M b = some o → ∃ v, o = CellO b v
theorem hok_ovr {P : Program} {w : World} {M H : Hp} {h : Heap} (ok : HOk P w H h) (cm : Cells M) (hn : ∀ b o, M b = some o → H b = none) (hc : ∀ b v, M b = some (CellO b v) → ∃ u, RelV v u ∧ h.IsCell b (some u)) : HOk P w (ovr M H) h := fun b o e => by
  cases q : M b with
  | some z =>
    obtain ⟨v, rfl⟩ := cm b z q
    rw [ovr_s q] at e
    cases e
    obtain ⟨u, ru, oo, ho, hd⟩ := hc b v q
    exact ⟨⟨u, ru, oo, ho, hd⟩, ⟨oo, ho⟩, fun h1 h2 ⟨u, ru, o1, e1, d1⟩ st => ⟨u, ru, o1, st _ e1, d1⟩⟩
  | none =>
    rw [ovr_n q] at e
    refine (ok b o e).stay (fun _ _ _ q => q) (fun c z => ?_) fun c xs z => ?_
    · have n : M c = none := by
        cases r : M c with
        | none => rfl
        | some y => rw [hn c y r] at z; cases z
      rw [ovr_n n]; exact z
    · have n : M c = none := by
        cases r : M c with
        | none => rfl
        | some y => rw [hn c y r] at z; cases z
      rw [ovr_n n]; exact z
theorem hok_und {P : Program} {w : World} {M H : Hp} {h : Heap} (ok : HOk P w H h) (cm : Cells M) (hs : ∀ b o, M b = some o → H b = some o) : HOk P w (und M H) h := fun b o e => by
  have n : ∀ {c u}, H c = some u → (∀ v, u ≠ CellO c v) → M c = none := fun {c u} z ne => by
    cases r : M c with
    | none => rfl
    | some y =>
      obtain ⟨v, rfl⟩ := cm c y r
      rw [hs c _ r] at z
      exact absurd (Option.some.inj z).symm (ne v)
  cases q : M b with
  | some z => rw [und_s q] at e; cases e
  | none =>
    rw [und_n q] at e
    refine (ok b o e).stay (fun _ _ _ q => q) (fun c z => ?_) fun c xs z => ?_
    · rw [und_n (n z fun v y => by unfold CellO at y; cases y)]; exact z
    · rw [und_n (n z fun v y => by unfold CellO at y; cases y)]; exact z
theorem cells_of_hok {P : Program} {w : World} {H : Hp} {h : Heap} (ok : HOk P w H h) {b : Addr} {v : V} (e : H b = some (CellO b v)) : ∃ u, RelV v u ∧ h.IsCell b (some u) := by
  obtain ⟨z, _, _⟩ := ok b _ e
  exact z
/-! ### data without lambdas -/
mutual
def noK : D → Bool
  | .tup ds => noKs ds
  | .lst ds => noKs ds
  | .scr ds => noKs ds
  | .ins _ fs => noKf fs
  | .clo _ _ => false
  | .non => true
  | .bl _ => true
  | .int _ => true
  | .str _ => true
  | .exc _ => true
  | .dic _ _ => false
  | .gfn _ => true
def noKs : List D → Bool
  | [] => true
  | d :: ds => noK d && noKs ds
def noKf : List (Str × D) → Bool
  | [] => true
  | (_, d) :: ds => noK d && noKf ds
end
section
variable {K : PySem.W.Frag} {T : Tb} {F M : Hp}
theorem und_keep {M F : Hp} (cm : Cells M) (hs : ∀ b o, M b = some o → F b = none ∨ F b = some o) {b : Addr} {o : HO} (h : F b = some o) (n : ∀ v, o ≠ CellO b v) : und M F b = some o := by
  cases r : M b with
  | none => rw [und_n r]; exact h
  | some y =>
    obtain ⟨v, rfl⟩ := cm b y r
    rcases hs b _ r with z | z
    · rw [h] at z; cases z
    · rw [h] at z
      exact absurd (Option.some.inj z) (n v)
mutual
theorem Rep.und (cm : Cells M) (hs : ∀ b o, M b = some o → F b = none ∨ F b = some o) : ∀ {v : V} {d : D}, Rep K T F v d → noK d = true → Rep K T (und M F) v d
  | _, _, .non, _ => .non
  | _, _, .bl b, _ => .bl b
  | _, _, .int i, _ => .int i
  | _, _, .str s, _ => .str s
  | _, _, .tup h r, n => .tup (by
      rcases h with (h | ⟨o, h⟩) | h
      · exact .inl (.inl (und_keep cm hs h fun v y => by unfold CellO at y; cases y))
      · exact .inl (.inr ⟨o, und_keep cm hs h fun v y => by unfold CellO at y; cases y⟩)
      · exact .inr h) (Reps.und cm hs r (by unfold noK at n; exact n))
  | _, _, .lst h r, n => .lst (und_keep cm hs h fun v y => by unfold CellO at y; cases y) (Reps.und cm hs r (by unfold noK at n; exact n))
  | _, _, .scr h r, n => .scr (by
      rcases h with (h | ⟨o, h⟩) | h
      · exact .inl (.inl (und_keep cm hs h fun v y => by unfold CellO at y; cases y))
      · exact .inl (.inr ⟨o, und_keep cm hs h fun v y => by unfold CellO at y; cases y⟩)
      · exact .inr h) (Reps.und cm hs r (by unfold noK at n; exact n))
  | _, _, .ins h r, n => .ins (und_keep cm hs h fun v y => by unfold CellO at y; cases y) (Repf.und cm hs r (by unfold noK at n; exact n))
  | _, _, .exc a, _ => .exc a
  | _, _, .clo _ _ _ _ _, n => by unfold noK at n; cases n
  | _, _, .dic _ _ _, n => by unfold noK at n; cases n
  | _, _, .gfn k, _ => .gfn k
theorem Reps.und (cm : Cells M) (hs : ∀ b o, M b = some o → F b = none ∨ F b = some o) : ∀ {v : List V} {d : List D}, Reps K T F v d → noKs d = true → Reps K T (und M F) v d
  | _, _, .nil, _ => .nil
  | _, _, .cons h r, n => by
    unfold noKs at n
    rw [Bool.and_eq_true] at n
    exact .cons (Rep.und cm hs h n.1) (Reps.und cm hs r n.2)
theorem Repf.und (cm : Cells M) (hs : ∀ b o, M b = some o → F b = none ∨ F b = some o) : ∀ {v : List (Str × V)} {d : List (Str × D)}, Repf K T F v d → noKf d = true → Repf K T (und M F) v d
  | _, _, .nil, _ => .nil
  | _, _, .cons h r, n => by
    unfold noKf at n
    rw [Bool.and_eq_true] at n
    exact .cons (Rep.und cm hs h n.1) (Repf.und cm hs r n.2)
end
theorem und_ex {M F : Hp} : Exn (und M F) F where
  a := fun b o h _ => by
    cases r : M b with
    | none => rw [und_n r] at h; exact h
    | some y => rw [und_s r] at h; cases h
  n := fun b h => by
    cases r : M b with
    | none => rw [und_n r]; exact h
    | some y => exact und_s r
theorem code_cell {P : Program} {w : World} {H : Hp} {h : Heap} (ok : HOk P w H h) {c : Addr} {q : Str} (e : H c = some (CodeO c q)) (v : V) : CodeO c q ≠ CellO c v := fun z => by
  have h1 := NdefX.codeO_at ok e
  rw [z] at e
  obtain ⟨u, _, o, ho, hd⟩ := cells_of_hok ok e
  obtain ⟨c2, oc, vs, t, e2, hoc, hdc, _⟩ := h1
  cases e2
  rw [ho] at hoc
  cases hoc
  rw [hd] at hdc
  cases hdc
theorem TbG.und {P : Program} {w : World} {H : Hp} {h : Heap} (ok : HOk P w H h) (cm : Cells M) (hs : ∀ b o, M b = some o → H b = some o) (t : TbG T H) : TbG T (und M H) := fun p hp => by
  obtain ⟨ps, h1, h2, h3⟩ := t p hp
  have e : ∀ {b o}, H b = some o → (∀ v, o ≠ CellO b v) → DL.und M H b = some o := fun h n => und_keep cm (fun b o e => .inr (hs b o e)) h n
  refine ⟨ps, e h1 (fun v y => by unfold CellO at y; cases y), h2, fun pos cv hc => ?_⟩
  obtain ⟨c, e1, e2⟩ := h3 pos cv hc
  exact ⟨c, e1, e e2 (code_cell ok e2)⟩
theorem TbG.ovr {H : Hp} (hn : ∀ b o, M b = some o → H b = none) (t : TbG T H) : TbG T (ovr M H) := t.ex fun b o e => by
  cases r : M b with
  | none => rw [ovr_n r]; exact e
  | some y => rw [hn b y r] at e; cases e
end
/-! ### what a lambda's captured names hold -/
theorem repc_get {K : PySem.W.Frag} {T : Tb} {F : Hp} {cl : List (Str × Addr)} (hk : ∀ c d, ¬ T.ck c d) : ∀ {fr : List Str} {cs : List D}, Repc K T F cl fr cs →
    ∃ vs : List V, Reps K T F vs cs ∧ vs.length = fr.length ∧ ∀ (i : Nat) (y : Str), fr[i]? = some y → ∃ c v, cl.lookup y = some c ∧ F c = some (CellO c v) ∧ vs[i]? = some v
  | _, _, .nil => ⟨[], .nil, rfl, fun i y e => by simp at e⟩
  | _, _, .here (c := c) (v := v) e hc h r => by
    obtain ⟨vs, h1, h2, h3⟩ := repc_get hk r
    refine ⟨v :: vs, .cons h h1, by rw [List.length_cons, List.length_cons, h2], fun i y q => ?_⟩
    cases i with
    | zero =>
      simp at q
      subst q
      exact ⟨c, v, e, hc, rfl⟩
    | succ i =>
      obtain ⟨c2, v2, g1, g2, g3⟩ := h3 i y (by simpa using q)
      exact ⟨c2, v2, g1, g2, by simpa using g3⟩
  | _, _, .pend _ h _ => (hk _ _ h).elim
/-- the promise of the lambda of number m: of its arguments and what it captured -/
structure LOk (P : Program) (w : World) (K : PySem.W.Frag) (mg : Str → Option Value) (base : Heap) (CX : CXT) (T : Tb) (k m : Nat) (phi : List D → Res SV) : Prop where
  run : ∀ (A : Around) (outer : List PySem.Env) (s : Shared) (H F : Hp) (us : List Value) (vs : List V) (ds cs : List D) (f : Addr) (Q : VK) (E : XK), Room k A → Env0 P w K mg base A outer s H → TbG T H → Exn F H → Rep K T F (.ref f) (.clo m cs) → Vals vs us → Reps K T F vs ds → vs.length = (T.lam m).ps.length → noKs ds = true → noKs cs = true →
    (match phi (ds ++ cs) with
      | .ok s => ∀ v H', Gives K T F H s v H' → Q v H'
      | _ => False) → codeAny (model P w) A (.call (.ref f) ⟨us, []⟩) (CR CX outer P w H s Q E) s
def runL (fe : DL.Env → Res SV) (ds : List D) : Res SV := match fe (slots ds) with
  | .ok (.sh d) => .ok (.sh d)
  | .ok (.ow ds) => .ok (.ow ds)
  | _ => .bad
theorem startF_eq {N : List Str} {vs ws : List V} : NdefX.startF N vs (ws.map some) = L2.start N (vs ++ ws) := by
  unfold NdefX.startF L2.start
  rw [List.map_append, List.length_map, List.length_append, List.append_assoc, Nat.sub_sub]
theorem reps_app {K : PySem.W.Frag} {T : Tb} {F : Hp} {vs ws : List V} {ds es : List D} (h1 : Reps K T F vs ds) (h2 : Reps K T F ws es) : Reps K T F (vs ++ ws) (ds ++ es) := Reps.append h1 h2
/-- THE RULE for a lambda, by its body -/
theorem lok_of {P : Program} {w : World} {K : PySem.W.Frag} {mg : Str → Option Value} {base : Heap} {CX : CXT} {T : Tb} {k m : Nat} {fe : DL.Env → Res SV} (hk : ∀ c d, ¬ T.ck c d) (S : NdefX.NScope ((T.lam m).ps ++ (T.lam m).fr) (T.lam m).ps (T.lam m).fr (T.lam m).scope)
    (hb : ∀ (cl : List (Str × Addr)) (pm cdv ctv : Value) (us : List Value), us.length = (T.lam m).ps.length → bindArgs (PySem.W.kla_fn "<lambda>" (T.lam m).qual (T.lam m).params (T.lam m).body (T.lam m).scope cl pm cdv ctv) ⟨us, []⟩ = pure ((T.lam m).ps.zip us))
    (hCX : ∀ outer H s e s', CX outer H s (fun _ _ _ => False) e s' → False)
    (hbody : ∀ (f c : Addr) (cl : List (Str × Addr)) (A : Around) (outer : List PySem.Env) (s : Shared) (H : Hp), Room k (A.deeper (NdefX.envF ⟨"<lambda>", (T.lam m).qual, (T.lam m).params, [], (T.lam m).scope, cl, c⟩ f s.heap.objs.size)) →
      PE (NdefX.ncx CX P w K mg base ((T.lam m).ps ++ (T.lam m).fr) ⟨"<lambda>", (T.lam m).qual, (T.lam m).params, [], (T.lam m).scope, cl, c⟩ f A outer s H (fun _ _ _ => False)) (T.lam m).body (rd K T WF fe)) :
    LOk P w K mg base CX T (k + 1) m (runL fe) := by
  refine ⟨fun A outer s H F us vs ds cs f Q E hr e0 tg ex hf r rs hl nd nc h => ?_⟩
  cases hf with
  | clo h1 h2 inj dom rc =>
    rename_i c cl
    obtain ⟨ws, hw1, hw2, hw3⟩ := repc_get hk rc
    have Hf := ex.at h1
    have Hc := ex.at h2
    let M : Hp := fun b => open Classical in if ∃ y, cl.lookup y = some b then F b else none
    have Ms : ∀ b o, M b = some o → F b = some o ∧ ∃ y, cl.lookup y = some b := fun b o e => by
      have e : (open Classical in if ∃ y, cl.lookup y = some b then F b else none) = some o := e
      split at e
      · rename_i q
        exact ⟨e, q⟩
      · cases e
    have Mcl : ∀ y b, cl.lookup y = some b → ∃ v, M b = some (CellO b v) := fun y b e => by
      obtain ⟨i, hi⟩ := List.mem_iff_getElem?.mp (dom y b e)
      obtain ⟨c2, v2, g1, g2, _⟩ := hw3 i y hi
      rw [e] at g1
      cases g1
      refine ⟨v2, ?_⟩
      show (open Classical in if ∃ y, cl.lookup y = some b then F b else none) = _
      rw [if_pos ⟨y, e⟩]
      exact g2
    have cm : Cells M := fun b o e => by
      obtain ⟨e1, y, e2⟩ := Ms b o e
      obtain ⟨v, e3⟩ := Mcl y b e2
      rw [e] at e3
      exact ⟨v, Option.some.inj e3⟩
    have MH : ∀ b o, M b = some o → H b = some o := fun b o e => by
      obtain ⟨v, rfl⟩ := cm b o e
      exact ex.at (Ms b _ e).1
    have MF : ∀ b o, M b = some o → F b = some o := fun b o e => (Ms b o e).1
    have okU := hok_und e0.hok cm MH
    have fU : und M H f = some (LamO f (T.lam m) cl c) := und_keep cm (fun b o e => .inr (MH b o e)) Hf (fun v z => by
      obtain ⟨q, _, _⟩ := e0.hok f _ Hf
      rw [z] at Hf
      obtain ⟨u, _, o, ho, hd⟩ := cells_of_hok e0.hok Hf
      obtain ⟨od, sl, pm, ctv, q⟩ := q
      rw [ho] at q
      cases q
      cases hd)
    have cU : und M H c = some (CodeO c (T.lam m).qual) := und_keep cm (fun b o e => .inr (MH b o e)) Hc (code_cell e0.hok Hc)
    have e0U : Env0 P w K mg base A outer s (und M H) := ⟨e0.frames, e0.mod, fun b o e => ⟨(e0.bs b o e).1, by
      cases q : M b with
      | none => rw [und_n q]; exact (e0.bs b o e).2
      | some z => exact und_s q⟩, e0.bsz, e0.funs, fun b hb => by
      cases q : M b with
      | none => rw [und_n q]; exact e0.frf b hb
      | some z => exact und_s q, okU, e0.bare⟩
    have exU : Exn (und M F) (und M H) := by
      refine ⟨fun b o e n => ?_, fun b e => ?_⟩
      · cases q : M b with
        | none => rw [und_n q] at e ⊢; exact ex.a b o e n
        | some z => rw [und_s q] at e; cases e
      · cases q : M b with
        | none => rw [und_n q] at e ⊢; exact ex.n b e
        | some z => exact und_s q
    have tU : TbG T (und M H) := tg.und e0.hok cm MH
    have CA : NdefX.CellsAt cl (T.lam m).fr (ws.map some) s.heap (und M H) := by
      refine ⟨by rw [List.length_map, hw2], fun y b e => ?_, inj, fun i y e => ?_⟩
      · obtain ⟨v, e2⟩ := Mcl y b e
        obtain ⟨u, _, z⟩ := cells_of_hok e0.hok (MH b _ e2)
        exact ⟨und_s e2, some u, z⟩
      · obtain ⟨b, v, g1, g2, g3⟩ := hw3 i y e
        refine ⟨b, g1, fun v2 e2 => ?_⟩
        rw [List.getElem?_map, g3] at e2
        cases e2
        exact cells_of_hok e0.hok (ex.at g2)
    obtain ⟨od, sl, pm, ctv, ho⟩ : ∃ (od : Option Addr) (sl : Array (Option Value)) (pm ctv : Value), s.heap.get? f = some (⟨.type "function", od, .func (PySem.W.kla_fn "<lambda>" (T.lam m).qual (T.lam m).params (T.lam m).body (T.lam m).scope cl pm (.ref c) ctv), sl⟩ : Obj) := by
      obtain ⟨q, _, _⟩ := e0.hok f _ Hf
      exact q
    have lim : s.heap.NoLimit := e0.mod.nolimit.keeps fun b o e => (e0.bs b o e).1
    refine PySem.W.kla_callFunE hr.depth ho rfl S.co S.gen rfl (NdefX.codeO_at e0.hok Hc) ?_
    rw [hb cl pm (.ref c) ctv us (by rw [← r.length]; exact hl)]
    refine wpAny_pure (wpAny_newFunctionEnv S.nocell (fun ⟨n, _⟩ hy => S.par n (List.of_mem_zip hy).1) (fun h₁ hns hsb => ⟨lim.fresh _ hsb, ?_⟩) S.kind)
    have kp : ∀ b o, s.heap.get? b = some o → h₁.get? b = some o := fun b o e => hsb.extBut b o (Nat.ne_of_lt (Heap.lt_size e)) (Heap.get?_push_of_some _ e)
    let NFm : NdefX.NF := ⟨"<lambda>", (T.lam m).qual, (T.lam m).params, [], (T.lam m).scope, cl, c⟩
    have I := NdefX.inv_startN (CX := CX) (F := NFm) (f := f) (E := fun _ _ _ => False) (tk := s.toks + ((T.lam m).ps.zip us).length) S hr.hd e0U hl r CA hns kp
    show codeAny _ _ (.expr (T.lam m).body (NdefX.envF NFm f s.heap.objs.size)) _ _
    refine PySem.W.kla_codeExpr (wpAny_mono ((hbody f c cl A outer s (und M H) (hr.deeper _)).run [] _ _ _ (fun v H' => (∀ b o, M b = some o → H' b = none) → Q v (ovr M H')) I ?_) (fun u s' hq => ?_) fun e s' hq => ?_)
    · have hlen : ((T.lam m).ps ++ (T.lam m).fr).length - (ds ++ cs).length = 0 := by
        have e1 := rs.length
        have e2 := hw1.length
        rw [List.length_append, List.length_append]
        omega
      have Ev := env_start (N := (T.lam m).ps ++ (T.lam m).fr) exU ((Reps.und cm (fun b o e => .inr (MF b o e)) rs nd).append (Reps.und cm (fun b o e => .inr (MF b o e)) hw1 nc)) (by rw [List.length_append, List.length_append, hl, hw2]; exact Nat.le_refl _) tU
      rw [hlen, List.replicate_zero, List.append_nil, ← startF_eq] at Ev
      refine ⟨und M F, und M H, und M F, _, Ev, ?_⟩
      unfold runL at h
      cases q : fe (slots (ds ++ cs)) with
      | ex k => rw [q] at h; exact h.elim
      | bad => rw [q] at h; exact h.elim
      | ok sv =>
        rw [q] at h
        have fin : ∀ (sv : SV) (v : V) (F' H' : Hp), (∀ v H', Gives K T F H sv v H' → Q v H') → Stp T (und M F) (und M H) F' H' → RepN K T F' H' (und M H) v sv → (∀ b o, M b = some o → H' b = none) → Q v (ovr M H') := fun sv v F' H' hh p rp nH => by
          have nF : ∀ b o, M b = some o → F' b = none := fun b o e => p.fh.n b (nH b o e)
          have x1 : Exn F' (ovr M F') := .of fun b o e => by
            cases q : M b with
            | none => rw [ovr_n q]; exact e
            | some z => rw [nF b z q] at e; cases e
          have x2 : Exn H' (ovr M H') := .of fun b o e => by
            cases q : M b with
            | none => rw [ovr_n q]; exact e
            | some z => rw [nH b z q] at e; cases e
          refine hh v _ ⟨ovr M F', ⟨⟨fun b o e n => ?_, fun b e => ?_⟩, ⟨fun b o e n => ?_, fun b e => ?_⟩, ⟨fun b o e n => ?_, fun b e => ?_⟩, fun b o m e1 e2 => ?_, fun _ => (p.tb tU).ovr nH⟩, ?_⟩
          · cases q : M b with
            | none => rw [ovr_n q]; exact p.ff.a b o (by rw [und_n q]; exact e) n
            | some z => rw [ovr_s q, ← MF b z q]; exact e
          · cases q : M b with
            | none => rw [ovr_n q] at e; have := p.ff.n b e; rw [und_n q] at this; exact this
            | some z => rw [ovr_s q] at e; cases e
          · cases q : M b with
            | none => rw [ovr_n q] at e ⊢; exact p.fh.a b o e n
            | some z => rw [ovr_s q] at e ⊢; exact e
          · cases q : M b with
            | none => rw [ovr_n q] at e ⊢; exact p.fh.n b e
            | some z => rw [ovr_s q] at e; cases e
          · cases q : M b with
            | none => rw [ovr_n q]; exact p.hh.a b o (by rw [und_n q]; exact e) n
            | some z => rw [ovr_s q, ← MH b z q]; exact e
          · cases q : M b with
            | none => rw [ovr_n q] at e; have := p.hh.n b e; rw [und_n q] at this; exact this
            | some z => rw [ovr_s q] at e; cases e
          · cases q : M b with
            | none => rw [ovr_n q]; exact p.fr b o m (by rw [und_n q]; exact e1) (by rw [und_n q]; exact e2)
            | some z => rw [MF b z q] at e1; cases e1
          · cases sv with
            | sh d => exact Rep.mono x1 rp
            | br i ds => exact rp.elim
            | ow es =>
              obtain ⟨a, us, rfl, q1, q2, q3, q4⟩ := rp
              have qM : M a = none := by
                cases q : M a with
                | none => rfl
                | some z => rw [nH a z q] at q3; cases q3
              refine ⟨a, us, rfl, ?_, ?_, ?_, q4.mono x1⟩
              · rw [und_n qM] at q1; exact q1
              · rw [ovr_n qM]; exact q2
              · rw [ovr_n qM]; exact q3
        cases sv with
        | br i es => exact h.elim
        | sh d => exact fun v F' H' p rp nH => fin (.sh d) v F' H' h p rp nH
        | ow es => exact fun v F' H' p rp nH => fin (.ow es) v F' H' h p rp nH
    · obtain ⟨v, H', J, rv, q⟩ := hq
      have keep : ∀ b o, M b = some o → ∃ ob, s.heap.get? b = some ob ∧ s'.heap.get? b = some ob ∧ H' b = none := fun b o e => by
        obtain ⟨v2, rfl⟩ := cm b o e
        obtain ⟨u2, _, ob, ho2, hd2⟩ := cells_of_hok e0.hok (MH b _ e)
        have nfs : b ∉ frs outer := fun z => by
          have := e0.frf b z
          rw [MH b _ e] at this
          cases this
        exact ⟨ob, ho2, J.base.keep b ob ho2 (und_s e) nfs (by simp [NdefX.ncx]), J.base.free b ob ho2 (und_s e) (by simp [NdefX.ncx])⟩
      have nH : ∀ b o, M b = some o → H' b = none := fun b o e => (keep b o e).choose_spec.2.2
      have MN : ∀ b, H b = none → M b = none := fun b e => by
        cases q : M b with
        | none => rfl
        | some z => rw [MH b z q] at e; cases e
      have HN : ∀ b, H b = none → und M H b = none := fun b n => by rw [und_n (MN b n)]; exact n
      have un : Un (frs outer) [] H (ovr M H') s.heap s'.heap := by
        refine ⟨fun b o e n hb hx => J.base.keep b o e (HN b n) hb hx, fun b o e n hb hx => J.base.slot b o e (HN b n) hb hx, fun b o e n hx => ?_, fun b o e hx => J.base.there b o e hx, fun b xs e => ?_, fun b o u e => ?_, fun b ps e => ?_⟩
        · rw [ovr_n (MN b n)]
          exact J.base.free b o e (HN b n) hx
        · have qM : M b = none := by
            cases q : M b with
            | none => rfl
            | some z =>
              obtain ⟨v2, rfl⟩ := cm b z q
              rw [MH b _ q] at e
              unfold CellO at e
              cases e
          rw [ovr_n qM]
          exact J.base.tups b xs (show und M H b = _ by rw [und_n qM]; exact e)
        · have qM : M b = none := by
            cases q : M b with
            | none => rfl
            | some z =>
              obtain ⟨v2, rfl⟩ := cm b z q
              rw [MH b _ q] at e
              unfold CellO at e
              cases e
          rw [ovr_n qM]
          exact J.base.frzs b o u (show und M H b = _ by rw [und_n qM]; exact e)
        · have qM : M b = none := by
            cases q : M b with
            | none => rfl
            | some z =>
              obtain ⟨v2, rfl⟩ := cm b z q
              rw [MH b _ q] at e
              unfold CellO at e
              cases e
          rw [ovr_n qM]
          exact J.base.tbls b ps (show und M H b = _ by rw [und_n qM]; exact e)
      refine ⟨v, ovr M H', J.os, J.bare, un, hok_ovr J.hok cm nH fun b v2 e => ?_, rv, q nH⟩
      obtain ⟨u2, ru, o2, ho2, hd2⟩ := cells_of_hok e0.hok (MH b _ e)
      obtain ⟨ob, g1, g2, _⟩ := keep b _ e
      rw [ho2] at g1
      cases g1
      exact ⟨u2, ru, o2, g2, hd2⟩
    · exact wpAny_mono hq (fun _ s'' z => (hCX _ _ _ _ _ z).elim) fun _ s'' z => (hCX _ _ _ _ _ z).elim
end DL
end

section
set_option Elab.async false
set_option linter.all false
set_option autoImplicit false
set_option maxRecDepth 100000
set_option maxHeartbeats 4000000
/-! A lambda kept in an attribute is called; defs that make lambdas. -/
namespace DL
open PySem PySem.Spec PyProof.Rows L2 LamX
/-! ### o.m(e, ..), m an attribute that holds a lambda -/
def fCloM (tab : FTab) (m : Str) (ms : List Nat) (ar : Nat → Nat) (phi : Nat → List D → Res SV) (fo : DL.Env → Res SV) (fa : DL.Env → Res (List SV)) : DL.Env → Res SV := fun δ => (fo δ).bind fun s => match s with
  | .sh (.ins c fs) => if (c, m) ∈ tab then (match fs.lookup m with
    | some (.clo k cs) => if k ∈ ms ∧ noKs cs = true then (fa δ).bind fun ss => (match stills ss with
      | some ds => if ds.length = ar k ∧ noKs ds = true then (match phi k (ds ++ cs) with
        | .ok s => .ok s
        | _ => .bad) else .bad
      | none => .bad) else .bad
    | _ => .bad) else .bad
  | _ => .bad
theorem lam_fnAt {P : Program} {w : World} {H : Hp} {h : Heap} {f c : Addr} {L : LamD} {cl : List (Str × Addr)} (ok : HOk P w H h) (e : H f = some (LamO f L cl c)) : PySem.W.FnAt f h := by
  obtain ⟨⟨od, sl, pm, ctv, q⟩, _, _⟩ := ok f _ e
  exact ⟨_, od, _, sl, q⟩
section
variable {X : Cx} {T : Tb} {W : WX} {CX : CXT} {k j : Nat} {tab : FTab} {m : Str} {ms : List Nat} {ar : Nat → Nat} {phi : Nat → List D → Res SV} {fo : DL.Env → Res SV} {fa : DL.Env → Res (List SV)} {o e : Expr} {es : List Expr} {pos apos : Pos} {pl : Sem Bool}
theorem de_cloM (hL : ∀ c ∈ ms, LOk X.prog X.w X.K X.mg X.base CX T k c (phi c) ∧ (T.lam c).ps.length = ar c) (htab : TabOk X.K T tab) (hr : Room j X.A) (hkj : k ≤ j) (hx : Passes CX X (fun _ _ _ => False)) (ho : PE X o (rd X.K T W fo)) (ha : PA X (e :: es) (rdA X.K T W fa))
    (hst : starEach (e :: es) X.env = (false, eval e X.env) :: starEach es X.env := by rfl) (hpl : (backTo pos (starEach es X.env)).any (·.1) = false := by rfl)
    (ht : eval (.Call (.Attribute o m apos) (e :: es) [] pos) X.env = (do
      let ov ← eval o X.env
      standAt apos.atName
      let (f, first) ← holding [ov] (getMethod ov m pl)
      callWith pos f first (backTo pos (starEach (e :: es) X.env)) (backToKw pos (keywordEach [] X.env))) := by rfl) :
    PE X (.Call (.Attribute o m apos) (e :: es) [] pos) (rd X.K T W (fCloM tab m ms ar phi fo fa)) := by
  refine ⟨fun pins s σ H Q I h => ?_⟩
  obtain ⟨F0, G, F, δ, E, h⟩ := h
  have hX : rd X.K T W fo σ H fun x H1 => ∃ (c : Nat) (a dx f : Addr) (gs : List (Str × V)) (q : Nat) (cs : List D), x = .ref a ∧ H1 a = some (.ins (T.CA c) dx gs) ∧ gs.lookup m = some (.ref f) ∧ Cls X.K (T.CA c) ∧ NoAttr X.K (T.CA c) m ∧ q ∈ ms ∧ (∃ L cl c, H1 f = some (LamO f L cl c)) ∧
      rdA X.K T W fa σ H1 fun vs H2 => (∃ L cl c, H2 f = some (LamO f L cl c)) ∧ ∃ F2 ds, TbG T H2 ∧ Exn F2 H2 ∧ Rep X.K T F2 (.ref f) (.clo q cs) ∧ Reps X.K T F2 vs ds ∧ vs.length = (T.lam q).ps.length ∧ noKs ds = true ∧ noKs cs = true ∧ (match phi q (ds ++ cs) with
        | .ok s => ∀ v H', Gives X.K T F2 H2 s v H' → Q v H'
        | _ => False) := by
    refine rd_bind E h fun x s F1 H1 p1 r1 h1 => ?_
    cases s with
    | sh d =>
      cases d with
      | ins c fs =>
        dsimp only at h1
        split at h1
        · rename_i hc
          split at h1
          · rename_i q cs hf
            split at h1
            · rename_i hq
              cases r1 with
              | ins q1 q2 =>
                obtain ⟨y, l1, l2⟩ := q2.look hf
                cases l2 with
                | clo g1 g2 g3 g4 g5 =>
                  rename_i f c2 cl
                  refine ⟨c, _, _, f, _, q, cs, rfl, p1.fh.at q1, l1, (htab c m hc).1, (htab c m hc).2, hq.1, ⟨_, _, _, p1.fh.at g1⟩, ?_⟩
                  refine rdA_bind (E.grow p1) (h1.later p1) fun vs ss F2 H2 p2 r2 h2 => ⟨⟨_, _, _, p2.hh.at (p1.fh.at g1)⟩, ?_⟩
                  cases qs : stills ss with
                  | none => rw [qs] at h2; exact h2.elim
                  | some ds =>
                    rw [qs] at h2
                    dsimp only at h2
                    split at h2
                    · rename_i hd
                      refine ⟨F2, ds, p2.tb (p1.tb E.tb), p2.fh, (Rep.clo g1 g2 g3 g4 g5).mono p2.ff, stills_reps r2 qs, ?_, hd.2, hq.2, ?_⟩
                      · rw [(stills_reps r2 qs).length, hd.1, (hL q hq.1).2]
                      · revert h2
                        cases phi q (ds ++ cs) with
                        | ok s => exact fun h2 v H' g => gives_end g (h2.later p2)
                        | ex c => exact fun h2 => h2.elim
                        | bad => exact fun h2 => h2.elim
                    · exact h2.elim
            · exact h1.elim
          · exact h1.elim
        · exact h1.elim
      | _ => exact h1.elim
    | _ => exact h1.elim
  refine PySem.W.methodCall_KW (pl := pl) (thn (ho.run pins s σ H _ I hX) fun u s1 ⟨x, H1, I1, rx, c, a, dx, f, gs, q, cs, ex, ea, l, g1, g2, g3, g4, ht2⟩ => ?_) ht
  subst ex
  obtain rfl : u = Value.ref a := rx
  obtain ⟨mA, O, _, _, _, _⟩ := ins_get I1.hok ea
  obtain ⟨od, J, _⟩ := O.look
  refine PySem.W.method_usual (r := none) I1.kIn J (PySem.W.plainGet_of (g1.get m)).1 (PySem.W.plainGet_of (g1.get m)).2 g2 rfl (getattr_ok I1 ea g1 g2 l fun u s2 I2 ru => ?_)
  obtain rfl : u = Value.ref f := ru
  obtain ⟨L4, cl4, c4, g4⟩ := g4
  refine PySem.W.callWith_F (first := []) (lam_fnAt I2.hok g4) (thn (ha.run pos pins s2 σ H1 _ I2 ht2) fun us s3 ⟨vs, H3, I3, r3, ⟨_, _, _, z⟩, F2, ds, z1, z2, z3, z4, z5, z6, z7, z8⟩ => ⟨lam_fnAt I3.hok z, ?_⟩) hst hpl
  show wpAny _ _ (call (.ref f) us) _ _ _
  refine wpAny_call (codeAny_mono ((hL q g3).1.run X.A X.stack s3 H3 F2 us vs ds cs f Q (fun _ _ _ => False) (hr.mono hkj) I3.env0 z1 z2 z3 r3 z4 z5 z6 z7 z8) fun r s' hq => ?_)
  cases r with
  | error e => exact hx pins σ H3 s3 e s' I3 hq
  | ok fl =>
    cases fl with
    | ret u => exact I3.after hq
    | next => exact False.elim hq
    | brk => exact False.elim hq
    | cont => exact False.elim hq
end
end DL
end

section
set_option Elab.async false
set_option linter.all false
set_option autoImplicit false
set_option maxRecDepth 100000
set_option maxHeartbeats 4000000
/-! Defs that make lambdas: what their cells held is known behind them. -/
namespace DL
open PySem PySem.Spec PyProof.Rows L2 LamX
/-! ### blocks whose return tells the slots -/
structure EndsQ where
  nx : L2.St → Hp → Prop
  rt : L2.St → VK
def SQ (X : Cx) (pins : List (Addr × Obj)) (D : EndsQ) (f : Flow) (s' : Shared) : Prop :=
  match f with
  | .next => ∃ σ' H', L2.Inv X pins σ' H' s' ∧ D.nx σ' H'
  | .ret u => ∃ v σ' H', L2.Inv X pins σ' H' s' ∧ RelV v u ∧ D.rt σ' v H'
  | _ => False
abbrev TQ := EndsQ → L2.St → Hp → Prop
structure PQ (X : Cx) (st : Stmt) (t : TQ) : Prop where
  run : ∀ (pins : List (Addr × Obj)) (s : Shared) (σ : L2.St) (H : Hp) (D : EndsQ), L2.Inv X pins σ H s → t D σ H → wpAny (model X.prog X.w) X.A (exec st X.env) (SQ X pins D) X.xe s
structure PQs (X : Cx) (st : List Stmt) (t : TQ) : Prop where
  run : ∀ (pins : List (Addr × Obj)) (s : Shared) (σ : L2.St) (H : Hp) (D : EndsQ), L2.Inv X pins σ H s → t D σ H → wpAny (model X.prog X.w) X.A (execs st X.env) (SQ X pins D) X.xe s
section
variable {X : Cx} {st : Stmt} {rest a b : List Stmt} {t u : TQ} {ts : TS} {te : TE} {tc : TT} {c e : Expr} {pos : Pos}
theorem q_nil : PQs X [] (fun D σ H => D.nx σ H) := ⟨fun _ _ σ H _ I h => wpAny_execs_nil ⟨σ, H, I, h⟩⟩
theorem q_cons (h1 : PQ X st t) (h2 : PQs X rest u) : PQs X (st :: rest) (fun D σ H => t { D with nx := u D } σ H) := by
  refine ⟨fun pins s σ H D I h => ?_⟩
  refine wpAny_execs_cons (thn (h1.run pins s σ H { D with nx := u D } I h) fun f s1 q => ?_)
  cases f with
  | next =>
    obtain ⟨σ', H', I', q⟩ := q
    exact h2.run pins s1 σ' H' D I' q
  | ret v => exact q
  | brk => exact q
  | cont => exact q
theorem q_ret (he : PE X e te) : PQ X (.Return (some e) pos) (fun D σ H => te σ H (D.rt σ)) := by
  refine ⟨fun pins s σ H D I h => ?_⟩
  exact wpAny_Return_some (thn (he.run pins s σ H _ I h) fun v s1 ⟨x, H1, I1, r1, q1⟩ => ⟨x, σ, H1, I1, r1, q1⟩)
theorem q_if (hc : PT X c tc) (ha : PQs X a t) (hb : PQs X b u) : PQ X (.If c a b pos) (fun D σ H => tc σ H fun b H1 => if b = true then t D σ H1 else u D σ H1) := by
  refine ⟨fun pins s σ H D I h => ?_⟩
  refine wpAny_If (thn (hc.run pins s σ H _ I h) fun d s1 ⟨H1, I1, q1⟩ => ?_)
  cases d with
  | true => exact ha.run pins s1 σ H1 D I1 q1
  | false => exact hb.run pins s1 σ H1 D I1 q1
theorem q_st (h : PS X st ts) : PQ X st (fun D σ H => ts { nx := D.nx, rt := fun _ _ => False } σ H) := by
  refine ⟨fun pins s σ H D I q => thn (h.run pins s σ H _ I q) fun f s1 q => ?_⟩
  cases f with
  | next => exact q
  | ret v =>
    obtain ⟨_, _, _, _, _, z⟩ := q
    exact z.elim
  | brk =>
    obtain ⟨_, _, _, z⟩ := q
    exact z.elim
  | cont =>
    obtain ⟨_, _, _, z⟩ := q
    exact z.elim
end
/-! ### their readings -/
inductive OutQ where
  | nx (δ : DL.Env) | rt (s : SV) (δ : DL.Env) | ex (c : Nat) (δ : DL.Env) | bad
abbrev FQ := DL.Env → OutQ
def qSt (f : FS) : FQ := fun δ => match f δ with
  | .nx δ' => .nx δ'
  | .ex c δ' => .ex c δ'
  | _ => .bad
def qNil : FQ := fun δ => .nx δ
def qSeq (a b : FQ) : FQ := fun δ => match a δ with
  | .nx δ' => b δ'
  | r => r
def qIte (c : DL.Env → Res Bool) (a b : FQ) : FQ := fun δ => match c δ with
  | .ok x => if x = true then a δ else b δ
  | .ex c => .ex c δ
  | .bad => .bad
def qRet (f : DL.Env → Res SV) : FQ := fun δ => match f δ with
  | .ok s => .rt (retS s) δ
  | .ex c => .ex c δ
  | .bad => .bad
section
variable (K : PySem.W.Frag) (T : Tb) (W : WX)
def QEnd (F0 G F : Hp) (D : EndsQ) : OutQ → Prop
  | .nx δ => ∀ σ F' H', EnvR K T F0 G F' H' σ δ → Exn F F' → D.nx σ H'
  | .rt s δ => ∀ v σ F' H', EnvR K T F0 G F' H' σ δ → Exn F F' → RepN K T F' H' G v s → D.rt σ v H'
  | .ex c δ => ∀ σ F' H', EnvR K T F0 G F' H' σ δ → Exn F F' → W (.ref (T.XA c)) none σ H'
  | .bad => False
def rdQ (f : FQ) : TQ := fun D σ H => ∃ F0 G F δ, EnvR K T F0 G F H σ δ ∧ QEnd K T W F0 G F D (f δ)
end
theorem PQimp {X : Cx} {e : Stmt} {t t' : TQ} (h : PQ X e t) (i : ∀ D σ H, t' D σ H → t D σ H) : PQ X e t' := ⟨fun pins s σ H D I q => h.run pins s σ H D I (i D σ H q)⟩
theorem PQsimp {X : Cx} {e : List Stmt} {t t' : TQ} (h : PQs X e t) (i : ∀ D σ H, t' D σ H → t D σ H) : PQs X e t' := ⟨fun pins s σ H D I q => h.run pins s σ H D I (i D σ H q)⟩
theorem QEnd.later {K : PySem.W.Frag} {T : Tb} {W : WX} {F0 G F F' : Hp} {En : EndsQ} {o : OutQ} (e : Exn F F') (h : QEnd K T W F0 G F En o) : QEnd K T W F0 G F' En o := by
  cases o with
  | nx δ => exact fun σ F2 H2 a b => h σ F2 H2 a (Exn.trans e b)
  | rt s δ => exact fun v σ F2 H2 a b r => h v σ F2 H2 a (Exn.trans e b) r
  | ex c δ => exact fun σ F2 H2 a b => h σ F2 H2 a (Exn.trans e b)
  | bad => exact h
section
variable {X : Cx} {T : Tb} {W : WX} {st : Stmt} {rest a b : List Stmt} {c e : Expr} {pos : Pos} {f g : FQ} {fs : FS} {fe : DL.Env → Res SV} {fc : DL.Env → Res Bool}
theorem dq_nil : PQs X [] (rdQ X.K T W qNil) := PQsimp q_nil fun D σ H ⟨F0, G, F, δ, E, h⟩ => h σ F H E (Exn.refl _)
theorem dq_cons (h1 : PQ X st (rdQ X.K T W f)) (h2 : PQs X rest (rdQ X.K T W g)) : PQs X (st :: rest) (rdQ X.K T W (qSeq f g)) := PQsimp (q_cons h1 h2) fun D σ H ⟨F0, G, F, δ, E, h⟩ => by
  refine ⟨F0, G, F, δ, E, ?_⟩
  unfold qSeq at h
  cases q : f δ with
  | nx δ' =>
    rw [q] at h
    exact fun σ' F' H' E' e => ⟨F0, G, F', δ', E', h.later e⟩
  | rt s δ' => rw [q] at h; exact h
  | ex c δ' => rw [q] at h; exact h
  | bad => rw [q] at h; exact h
theorem dq_st (h : PS X st (rdS X.K T W fs)) : PQ X st (rdQ X.K T W (qSt fs)) := PQimp (q_st h) fun D σ H ⟨F0, G, F, δ, E, h⟩ => by
  refine ⟨F0, G, F, δ, E, ?_⟩
  unfold qSt at h
  cases q : fs δ with
  | nx δ' => rw [q] at h; exact h
  | ex c δ' => rw [q] at h; exact h
  | rt s => rw [q] at h; exact h.elim
  | bk δ' => rw [q] at h; exact h.elim
  | ct δ' => rw [q] at h; exact h.elim
  | bad => rw [q] at h; exact h.elim
theorem dq_ret (he : PE X e (rd X.K T W fe)) : PQ X (.Return (some e) pos) (rdQ X.K T W (qRet fe)) := PQimp (q_ret he) fun D σ H ⟨F0, G, F, δ, E, h⟩ => by
  unfold qRet at h
  refine rdE E (fun s hs v F' H' p r => ?_) (fun c hc => ?_) fun hb => ?_
  · rw [hs] at h
    refine h v σ F' H' (E.grow p) p.ff ?_
    cases s with
    | sh d => exact r
    | ow ds =>
      obtain ⟨a, vs, rfl, h0, g1, g2, g3⟩ := r
      exact ⟨a, vs, rfl, Exn.back E.gh h0, g1, g2, g3⟩
    | br i ds =>
      obtain ⟨a, vs, rfl, h0, g1, g2, g3, hi⟩ := r
      obtain ⟨b, ws, k1, k2, k3, k4, k5⟩ := E.ow i ds hi
      rw [h0] at k1
      cases k1
      exact ⟨a, vs, rfl, k3, g1, g2, g3⟩
  · rw [hc] at h
    exact fun F' H' p => h σ F' H' (E.grow p) p.ff
  · rw [hb] at h; exact h
theorem dq_if (hc : PT X c (rdT X.K T W fc)) (ha : PQs X a (rdQ X.K T W f)) (hb : PQs X b (rdQ X.K T W g)) : PQ X (.If c a b pos) (rdQ X.K T W (qIte fc f g)) := PQimp (q_if hc ha hb) fun D σ H ⟨F0, G, F, δ, E, h⟩ => by
  unfold qIte at h
  refine rdTE E (fun s hs F' H' p => ?_) (fun c hc => ?_) fun hb => ?_
  · rw [hs] at h
    cases s with
    | true => exact ⟨F0, G, F', δ, E.grow p, h.later p.ff⟩
    | false => exact ⟨F0, G, F', δ, E.grow p, h.later p.ff⟩
  · rw [hc] at h
    exact fun F' H' p => h σ F' H' (E.grow p) p.ff
  · rw [hb] at h; exact h
end
/-! ### the frame's cells, behind the frame -/
/-- the same tables, ck told of the frame's cells -/
def Tb.w (T : Tb) (ck : Addr → D → Prop) : Tb := { T with ck := ck }
section
variable {K : PySem.W.Frag} {T : Tb} {ck : Addr → D → Prop} {F F' : Hp}
mutual
theorem conv (hx : Exn F F') (hk : ∀ c d, ck c d → ∃ v, F' c = some (CellO c v) ∧ Rep K (T.w ck) F v d) : ∀ (d : D) (v : V), Rep K (T.w ck) F v d → Rep K T F' v d
  | .non, _, .non => .non
  | .bl b, _, .bl _ => .bl b
  | .int i, _, .int _ => .int i
  | .str s, _, .str _ => .str s
  | .tup ds, _, .tup h r => .tup (sqT_mono hx h) (convs hx hk ds _ r)
  | .lst ds, _, .lst h r => .lst (hx.at h) (convs hx hk ds _ r)
  | .scr ds, _, .scr h r => .scr (sqL_mono hx h) (convs hx hk ds _ r)
  | .ins c fs, _, .ins h r => .ins (hx.at (show F _ = some (.ins (T.CA c) _ _) from h)) (convf hx hk fs _ r)
  | .exc a, _, .exc _ => .exc a
  | .clo k cs, _, .clo h hc inj dom r => .clo (hx.at (show F _ = some (LamO _ (T.lam k) _ _) from h)) (hx.at (show F _ = some (CodeO _ (T.lam k).qual) from hc)) inj dom (convc hx hk cs _ _ r)
  | .dic ks ds, _, .dic h hl r => .dic (hx.at h) hl (convs hx hk ds _ r)
  | .gfn k, _, .gfn _ => .gfn k
termination_by d _ _ => sizeOf d
theorem convs (hx : Exn F F') (hk : ∀ c d, ck c d → ∃ v, F' c = some (CellO c v) ∧ Rep K (T.w ck) F v d) : ∀ (ds : List D) (vs : List V), Reps K (T.w ck) F vs ds → Reps K T F' vs ds
  | [], _, .nil => .nil
  | d :: ds, _, .cons h r => .cons (conv hx hk d _ h) (convs hx hk ds _ r)
termination_by ds _ _ => sizeOf ds
theorem convf (hx : Exn F F') (hk : ∀ c d, ck c d → ∃ v, F' c = some (CellO c v) ∧ Rep K (T.w ck) F v d) : ∀ (ds : List (Str × D)) (vs : List (Str × V)), Repf K (T.w ck) F vs ds → Repf K T F' vs ds
  | [], _, .nil => .nil
  | (x, d) :: ds, _, .cons h r => .cons (conv hx hk d _ h) (convf hx hk ds _ r)
termination_by ds _ _ => sizeOf ds
theorem convc (hx : Exn F F') (hk : ∀ c d, ck c d → ∃ v, F' c = some (CellO c v) ∧ Rep K (T.w ck) F v d) : ∀ (ds : List D) (cl : List (Str × Addr)) (fr : List Str), Repc K (T.w ck) F cl fr ds → Repc K T F' cl fr ds
  | [], _, _, .nil => .nil
  | d :: ds, _, _, .here e hc h r => .here e (hx.at hc) (conv hx hk d _ h) (convc hx hk ds _ _ r)
  | d :: ds, _, _, .pend e hc r => by
    obtain ⟨v, h1, h2⟩ := hk _ _ hc
    exact .here e h1 (conv hx hk d v h2) (convc hx hk ds _ _ r)
termination_by ds _ _ _ => sizeOf ds
end
end
end DL
end

section
set_option Elab.async false
set_option linter.all false
set_option autoImplicit false
set_option maxRecDepth 100000
set_option maxHeartbeats 4000000
/-! The rule for a def that makes lambdas. -/
namespace DL
open PySem PySem.Spec PyProof.Rows L2 LamX
section
variable {K : PySem.W.Frag} {T : Tb} {ck : Addr → D → Prop} {F : Hp}
mutual
theorem toW (hk : ∀ c d, ¬ T.ck c d) : ∀ {v : V} {d : D}, Rep K T F v d → Rep K (T.w ck) F v d
  | _, _, .non => .non
  | _, _, .bl b => .bl b
  | _, _, .int i => .int i
  | _, _, .str s => .str s
  | _, _, .tup h r => .tup h (toWs hk r)
  | _, _, .lst h r => .lst h (toWs hk r)
  | _, _, .scr h r => .scr h (toWs hk r)
  | _, _, .ins h r => .ins h (toWf hk r)
  | _, _, .exc a => .exc a
  | _, _, .clo h hc inj dom r => .clo (T := T.w ck) h hc inj dom (toWc hk r)
  | _, _, .dic h hl r => .dic h hl (toWs hk r)
  | _, _, .gfn k => .gfn (T := T.w ck) k
theorem toWs (hk : ∀ c d, ¬ T.ck c d) : ∀ {v : List V} {d : List D}, Reps K T F v d → Reps K (T.w ck) F v d
  | _, _, .nil => .nil
  | _, _, .cons h r => .cons (toW hk h) (toWs hk r)
theorem toWf (hk : ∀ c d, ¬ T.ck c d) : ∀ {v : List (Str × V)} {d : List (Str × D)}, Repf K T F v d → Repf K (T.w ck) F v d
  | _, _, .nil => .nil
  | _, _, .cons h r => .cons (toW hk h) (toWf hk r)
theorem toWc (hk : ∀ c d, ¬ T.ck c d) : ∀ {cl : List (Str × Addr)} {v : List Str} {d : List D}, Repc K T F cl v d → Repc K (T.w ck) F cl v d
  | _, _, _, .nil => .nil
  | _, _, _, .here q hc h r => .here q hc (toW hk h) (toWc hk r)
  | _, _, _, .pend q hc r => (hk _ _ hc).elim
end
end
theorem cellsFrom_cell {x : Str} {c : Addr} : ∀ (names : List (Str × NameKind)) (n : Nat) (acc : List (Str × Addr)), (x, c) ∈ cellsFrom n names acc → (x, c) ∈ acc ∨ (x, NameKind.cell) ∈ names
  | [], _, _, h => .inl h
  | (y, k) :: r, n, acc, h => by
    unfold cellsFrom at h
    split at h
    · rename_i q
      have q := beq_iff_eq.mp q
      subst q
      rcases cellsFrom_cell r _ _ h with z | z
      · rcases List.mem_cons.mp z with z | z
        · cases z
          exact .inr List.mem_cons_self
        · exact .inl z
      · exact .inr (List.mem_cons_of_mem _ z)
    · rcases cellsFrom_cell r _ _ h with z | z
      · exact .inl z
      · exact .inr (List.mem_cons_of_mem _ z)
/-- the slots js hold the arguments still -/
def keepsJ (js : List Nat) (ds : List D) (δ : DL.Env) : Prop := ∀ j ∈ js, ∃ d, ds[j]? = some d ∧ δ[j]? = some (Sl.sh d)
noncomputable def runQ (n : Nat) (js : List Nat) (b : List D → FQ) (ds : List D) : Res SV := match b ds (slots ds ++ List.replicate (n - ds.length) .no) with
  | .nx δ => open Classical in if keepsJ js ds δ then .ok (.sh .non) else .bad
  | .rt s δ => open Classical in if keepsJ js ds δ then .ok s else .bad
  | .ex c _ => .ex c
  | .bad => .bad
theorem stp_w {T : Tb} {ck : Addr → D → Prop} {F H F' H' : Hp} (p : Stp T F H F' H') : Stp (T.w ck) F H F' H' := ⟨p.ff, p.fh, p.hh, p.fr, p.tb⟩
theorem stp_v {T : Tb} {ck : Addr → D → Prop} {F H F' H' : Hp} (p : Stp (T.w ck) F H F' H') : Stp T F H F' H' := ⟨p.ff, p.fh, p.hh, p.fr, p.tb⟩
/-- THE RULE for a def that makes lambdas: js, where the captured parameters stand; cd, its code object -/
theorem def_okC {P : Program} {w : World} {K : PySem.W.Frag} {mg : Str → Option Value} {base : Heap} {CX : CXT} {x qual : Str} {params : Arguments} {body : List Stmt} {scope : Scope} {dvs : List V} {kws : List (Str × V)} {f : Addr} {fd : FuncData} {N ps : List Str} {k n : Nat} {js : List Nat} {fb : List D → FQ} {cd : Addr} (T : Tb)
    (F : FunD K x qual params body scope dvs kws f fd) (hcode : ∀ (oc : Value) (od : Option Addr) (dV kV doc pm : Value) (an : Option Addr) (cdv ct : Value) (osl : Array (Option Value)), K.lookup f = some ⟨oc, od, .func (PySem.W.fnOf x qual params body scope dV kV doc pm an cdv ct), osl⟩ → PySem.W.codeIn K cdv qual = true → cdv = .ref cd)
    (S : FnScope N ps scope) (hn : n = ps.length) (hk : ∀ c d, ¬ T.ck c d)
    (hcl : scope.names.all (fun y => !decide (y.2 = .cell) || (decide (scope.names.lookup y.1 = some .cell) && js.any fun j => decide (N[j]? = some y.1))) = true)
    (hb : ∀ (A : Around) (outer : List PySem.Env) (s : Shared) (H : Hp) (E : XK) (ds : List D) (ck : Addr → D → Prop), CkOf (cxOf CX P w K mg base N qual scope f (.ref cd) A outer s H E) (T.w ck) ds → Room k (A.deeper (envOfC qual scope s.heap.objs.size f (.ref cd))) →
      PQs (cxOf CX P w K mg base N qual scope f (.ref cd) A outer s H E) body (rdQ K (T.w ck) (fun cls d _ H => E cls d H) (fb ds))) :
    FnOk P w K mg base CX (k + 1) f fd ps (SpF K T n (runQ N.length js fb)) := by
  have hpl : n ≤ N.length := by
    have := congrArg List.length S.pre
    rw [List.length_take] at this
    omega
  obtain ⟨oc, od, dV, kV, doc, pm, an, cdv, ct, osl, rfl, lk, hcd, _, _⟩ := F.ex
  obtain rfl := hcode _ _ _ _ _ _ _ _ _ _ lk hcd
  refine ⟨fun vs H Q E h => by rw [← hn]; exact h.1, fun A outer s H args us vs Q E hr e0 hbi r hsp => ?_⟩
  have hl : vs.length = ps.length := by rw [← hn]; exact hsp.1
  have KX : K.In s.heap := e0.mod.kin.keeps fun b o e => (e0.bs b o e).1
  have lim : s.heap.NoLimit := e0.mod.nolimit.keeps fun b o e => (e0.bs b o e).1
  have hkind : ∀ y ∈ ps.zip us, scope.names.lookup y.1 = some .local ∨ (scope.names.lookup y.1 = some .cell ∧ ((cellsFrom (s.heap.objs.size + 1) scope.names []).lookup y.1).isSome = true) := fun ⟨n, v⟩ hy => by
    rcases S.par n (List.of_mem_zip hy).1 with q | q
    · exact .inl q
    · exact .inr ⟨q, PySem.W.cellsFrom_some _ _ _ (.inl q)⟩
  refine codeAny_call_function hr.depth (KX _ _ lk) rfl S.co S.gen rfl (PySem.W.codeRec_of KX hcd) (hbi _ _ _ _ ?_)
  refine wpAny_newFunctionEnv_cells S.kind hkind fun env he s1 x => ?_
  subst he
  refine ⟨lim.keeps x.toInCall.keep, codeAny_func ?_⟩
  obtain ⟨_, tg, F0, ds, ex, rs, h⟩ := hsp
  let X := cxOf CX P w K mg base N qual scope f (.ref cd) A outer s H E
  let ck : Addr → D → Prop := fun c d => ∃ (y : Str) (j : Nat), X.env.cells.lookup y = some c ∧ N[j]? = some y ∧ ds[j]? = some d
  have hck : CkOf X (T.w ck) ds := fun y c j d h1 h2 h3 => ⟨y, j, h1, h2, h3⟩
  have ht := hb A outer s H E ds ck hck (hr.deeper _)
  have I : L2.Inv X [] (L2.start N vs) H s1 := inv_start S hr.hd e0 hl r x
  have Ev := env_start (N := N) (T := T.w ck) ex (toWs hk rs) (by omega) tg
  -- the end: what the captured slots held is told of the cells
  have fin : ∀ (sv : SV) {s' : Shared} {σ' : L2.St} {F' H' : Hp} {δ : DL.Env} {v : V} {u : Value}, L2.Inv X [] σ' H' s' → RelV v u → EnvR K (T.w ck) F0 H F' H' σ' δ → RepN K (T.w ck) F' H' H v sv → keepsJ js ds δ → (∀ v H', Gives K T F0 H sv v H' → Q v H') → CE outer P w H s Q u s' := by
    intro sv s' σ' F' H' δ v u J rv E' rp kj hq
    have key : ∀ y b, X.env.cells.lookup y = some b → ∃ (j : Nat) (d : D) (z : V), N[j]? = some y ∧ ds[j]? = some d ∧ Rep K (T.w ck) F' z d ∧ ∃ u, RelV z u ∧ s'.heap.IsCell b (some u) := fun y b e => by
      have hy : (y, NameKind.cell) ∈ scope.names := (cellsFrom_cell scope.names _ [] (PySem.mem_of_lookup e)).elim (fun z => nomatch z) id
      have hj := List.all_eq_true.mp hcl _ hy
      simp only [decide_true, Bool.not_true, Bool.false_or, Bool.and_eq_true, List.any_eq_true, decide_eq_true_eq] at hj
      obtain ⟨hcell, j, jm, hN⟩ := hj
      obtain ⟨d, h1, h2⟩ := kj j jm
      obtain ⟨z, g1, g2⟩ := E'.sh j d h2
      refine ⟨j, d, z, hN, h1, g2, ?_⟩
      obtain ⟨m, _, hl2⟩ := J.loc
      obtain ⟨u, ru, lk⟩ := hl2 j y z hN g1 (.inr (.inl hcell))
      rcases lk with ⟨lk, _⟩ | ⟨_, c, lk, ic⟩
      · have lk : scope.names.lookup y = some .local := lk
        rw [hcell] at lk
        cases lk
      · rw [e] at lk
        cases lk
        exact ⟨u, ru, ic⟩
    have key2 : ∀ b, ∃ z : V, ∀ y, X.env.cells.lookup y = some b → ∃ (j : Nat) (d : D), N[j]? = some y ∧ ds[j]? = some d ∧ Rep K (T.w ck) F' z d ∧ ∃ u, RelV z u ∧ s'.heap.IsCell b (some u) := fun b => by
      by_cases q : ∃ y, X.env.cells.lookup y = some b
      · obtain ⟨y, hy⟩ := q
        obtain ⟨j, d, z, h1, h2, h3, h4⟩ := key y b hy
        refine ⟨z, fun y2 hy2 => ?_⟩
        obtain rfl : y = y2 := J.ok.inj _ _ b hy hy2
        exact ⟨j, d, h1, h2, h3, h4⟩
      · exact ⟨.non, fun y hy => absurd ⟨y, hy⟩ q⟩
    let zf : Addr → V := fun b => (key2 b).choose
    let M : Hp := fun b => open Classical in if ∃ y, X.env.cells.lookup y = some b then some (CellO b (zf b)) else none
    have Ms : ∀ b o, M b = some o → ∃ y, X.env.cells.lookup y = some b := fun b o e => by
      have e : (open Classical in if ∃ y, X.env.cells.lookup y = some b then some (CellO b (zf b)) else none) = some o := e
      split at e
      · rename_i q
        exact q
      · cases e
    have Mv : ∀ y b, X.env.cells.lookup y = some b → ∃ (j : Nat) (d : D) (z : V), M b = some (CellO b z) ∧ N[j]? = some y ∧ ds[j]? = some d ∧ Rep K (T.w ck) F' z d ∧ ∃ u, RelV z u ∧ s'.heap.IsCell b (some u) := fun y b e => by
      obtain ⟨j, d, h⟩ := (key2 b).choose_spec y e
      exact ⟨j, d, _, if_pos ⟨y, e⟩, h⟩
    have cm : Cells M := fun b o e => by
      obtain ⟨y, hy⟩ := Ms b o e
      obtain ⟨j, d, z, h1, _⟩ := Mv y b hy
      rw [e] at h1
      exact ⟨z, Option.some.inj h1⟩
    have nH : ∀ b o, M b = some o → H' b = none := fun b o e => by
      obtain ⟨y, hy⟩ := Ms b o e
      exact J.freeC y b hy
    have nF : ∀ b o, M b = some o → F' b = none := fun b o e => E'.fh.n b (nH b o e)
    have new : ∀ b o, M b = some o → s.heap.get? b = none := fun b o e => by
      obtain ⟨y, hy⟩ := Ms b o e
      exact Heap.get?_none_of_le (J.ok.cab y b rfl hy)
    have n0 : ∀ b o, M b = some o → H b = none := fun b o e => by
      obtain ⟨y, hy⟩ := Ms b o e
      exact e0.hok.fresh (J.ok.cab y b rfl hy)
    have x1 : Exn F' (ovr M F') := .of fun b o e => by
      cases q : M b with
      | none => rw [ovr_n q]; exact e
      | some z => rw [nF b z q] at e; cases e
    have x2 : Exn H' (ovr M H') := .of fun b o e => by
      cases q : M b with
      | none => rw [ovr_n q]; exact e
      | some z => rw [nH b z q] at e; cases e
    have hkk : ∀ c d, ck c d → ∃ v, ovr M F' c = some (CellO c v) ∧ Rep K (T.w ck) F' v d := fun c d ⟨y, j, h1, h2, h3⟩ => by
      obtain ⟨j2, d2, z, g1, g2, g3, g4, _⟩ := Mv y c h1
      have ej : j = j2 := nodup_ix S.nd h2 g2
      subst ej
      rw [h3] at g3
      cases g3
      exact ⟨z, ovr_s g1, g4⟩
    have un : Un (frs outer) [] H (ovr M H') s.heap s'.heap := by
      have MN : ∀ b o, s.heap.get? b = some o → M b = none := fun b o e => by
        cases q : M b with
        | none => rfl
        | some z => rw [new b z q] at e; cases e
      have MH : ∀ b o, H b = some o → M b = none := fun b o e => by
        cases q : M b with
        | none => rfl
        | some z => rw [n0 b z q] at e; cases e
      refine ⟨fun b o e n hb hx => J.base.keep b o e n hb hx, fun b o e n hb hx => J.base.slot b o e n hb hx, fun b o e n hx => ?_, fun b o e hx => J.base.there b o e hx, fun b xs e => ?_, fun b o u e => ?_, fun b ps e => ?_⟩
      · rw [ovr_n (MN b o e)]
        exact J.base.free b o e n hx
      · rw [ovr_n (MH b _ e)]
        exact J.base.tups b xs e
      · rw [ovr_n (MH b _ e)]
        exact J.base.frzs b o u e
      · rw [ovr_n (MH b _ e)]
        exact J.base.tbls b ps e
    refine ⟨v, ovr M H', J.os, J.bare, un, hok_ovr J.hok cm nH fun b v2 e => ?_, rv, hq v _ ⟨ovr M F', ⟨Exn.trans E'.f0 x1, ⟨fun b o e n => ?_, fun b e => ?_⟩, Exn.trans E'.gh x2, fun b o m e1 e2 => ?_, fun _ => TbG.ovr nH E'.tb⟩, ?_⟩⟩
    · obtain ⟨y, hy⟩ := Ms b _ e
      obtain ⟨j, d, z, h1, _, _, _, u, ru, ic⟩ := Mv y b hy
      rw [e] at h1
      have ez : CellO b v2 = CellO b z := Option.some.inj h1
      have : (∃ u, RelV v2 u ∧ s'.heap.IsCell b (some u)) := by
        have h2 : (fun h : Heap => ∃ u, RelV v2 u ∧ h.IsCell b (some u)) = (fun h : Heap => ∃ u, RelV z u ∧ h.IsCell b (some u)) := by
          unfold CellO at ez
          exact HO.ext.inj ez
        have h3 := congrFun h2 s'.heap
        rw [h3]
        exact ⟨u, ru, ic⟩
      exact this
    · cases q : M b with
      | none => rw [ovr_n q] at e ⊢; exact E'.fh.a b o e n
      | some z => rw [ovr_s q] at e ⊢; exact e
    · cases q : M b with
      | none => rw [ovr_n q] at e ⊢; exact E'.fh.n b e
      | some z => rw [ovr_s q] at e; cases e
    · cases q : M b with
      | none => rw [ovr_n q]; exact E'.fr b o m e1 e2
      | some z => rw [n0 b z q] at e2; cases e2
    · cases sv with
      | sh d => exact conv x1 hkk d v rp
      | br i ds => exact rp.elim
      | ow es =>
        obtain ⟨a, us, rfl, q1, q2, q3, q4⟩ := rp
        have qM : M a = none := by
          cases q : M a with
          | none => rfl
          | some z => rw [nH a z q] at q3; cases q3
        refine ⟨a, us, rfl, q1, ?_, ?_, convs x1 hkk es us q4⟩
        · rw [ovr_n qM]; exact q2
        · rw [ovr_n qM]; exact q3
  refine wpAny_mono (ht.run [] s1 (L2.start N vs) H { nx := fun σ' H' => ∃ F' δ, EnvR K (T.w ck) F0 H F' H' σ' δ ∧ keepsJ js ds δ ∧ ∀ v H', Gives K T F0 H (.sh .non) v H' → Q v H', rt := fun σ' v H' => ∃ F' δ sv, EnvR K (T.w ck) F0 H F' H' σ' δ ∧ RepN K (T.w ck) F' H' H v sv ∧ keepsJ js ds δ ∧ ∀ v H', Gives K T F0 H sv v H' → Q v H' } I ?_) (fun fl s' hs => ?_) fun e s' hs => hs
  · refine ⟨F0, H, F0, _, Ev, ?_⟩
    unfold runQ at h
    cases q : fb ds (slots ds ++ List.replicate (N.length - ds.length) Sl.no) with
    | nx δ =>
      rw [q] at h
      dsimp only at h
      split at h
      · rename_i r hr
        split at hr
        · rename_i kj
          cases hr
          exact fun σ F' H' E' _ => ⟨F', δ, E', kj, h⟩
        · cases hr
      · rename_i r hr
        split at hr <;> cases hr
      · exact h.elim
    | rt sv δ =>
      rw [q] at h
      dsimp only at h
      split at h
      · rename_i r hr
        split at hr
        · rename_i kj
          cases hr
          exact fun v σ F' H' E' _ rp => ⟨F', δ, _, E', rp, kj, h⟩
        · cases hr
      · rename_i r hr
        split at hr <;> cases hr
      · exact h.elim
    | ex c δ =>
      rw [q] at h
      exact fun σ F' H' E' _ => h F' H' ⟨E'.f0, E'.fh, E'.gh, E'.fr, fun _ => E'.tb⟩
    | bad => rw [q] at h; exact h.elim
  · cases fl with
    | ret u =>
      obtain ⟨v, σ', H', J, rv, F', δ, sv, E', rp, kj, hq⟩ := hs
      exact fin sv J rv E' rp kj hq
    | next =>
      obtain ⟨σ', H', J, F', δ, E', kj, hq⟩ := hs
      exact fin (.sh .non) (v := V.non) (u := Value.none) J rfl E' .non kj hq
    | brk => exact hs.elim
    | cont => exact hs.elim
end DL
end

section
set_option Elab.async false
set_option linter.all false
set_option autoImplicit false
set_option maxRecDepth 100000
set_option maxHeartbeats 4000000
/-! The head with tables of code objects; lambdas as they are printed. -/
namespace DL
open PySem PySem.Spec PyProof.Rows L2 LamX
/-! ### the head's facts, tables left out -/
abbrev frC (n : Nat) (g : Addr → Option Obj) : PySem.W.Frag := He.frT g (He.asD g n ++ [PySem.cStatics])
def obsC (n : Nat) (fa : List He.Fa) (fn : List He.DefD) (tf : List He.Defn) (ex : PySem.W.Frag → Bool) (g : Addr → Option Obj) : He.AlD × Bool := (He.obsD fa fn (frC n g), ex (frC n g) && He.tabsB g tf (frC n g))
structure SaysC (fa : List He.Fa) (fn : List He.DefD) (tf : List He.Defn) (ex : PySem.W.Frag → Bool) (h : Heap) (K : PySem.W.Frag) : Prop where
  t : He.SaysD fa fn K
  more : ex K = true
  hd : ∀ p ∈ tf, PySem.W.codeHdIn K (He.cT K p).1 (He.cT K p).2 = true
  out : ∀ p ∈ tf, K.lookup (He.cT K p).2 = none
  empty : ∀ p ∈ tf, h.get? (He.cT K p).2 = some { cls := .none, data := .fields #[] }
theorem saysC_of {n : Nat} {fa : List He.Fa} {fn : List He.DefD} {tf : List He.Defn} {ex : PySem.W.Frag → Bool} {h : Heap} (e : obsC n fa fn tf ex h.get? = (He.valD fn, true)) : SaysC fa fn tf ex h (frC n h.get?) := by
  have e1 : He.obsD fa fn (frC n h.get?) = He.valD fn := congrArg (fun z : He.AlD × Bool => z.1) e
  have e2 : (ex (frC n h.get?) && He.tabsB h.get? tf (frC n h.get?)) = true := congrArg (fun z : He.AlD × Bool => z.2) e
  rw [Bool.and_eq_true] at e2
  obtain ⟨h1, h2⟩ := e2
  have key : ∀ p ∈ tf, PySem.W.codeHdIn (frC n h.get?) (He.cT (frC n h.get?) p).1 (He.cT (frC n h.get?) p).2 = true ∧ ∃ o, h.get? (He.cT (frC n h.get?) p).2 = some o ∧ He.emptyTab o = true := fun p hp => by
    have z := List.all_eq_true.mp h2 p hp
    rw [Bool.and_eq_true] at z
    obtain ⟨h3, h4⟩ := z
    refine ⟨h3, ?_⟩
    cases q : h.get? (He.cT (frC n h.get?) p).2 with
    | none => rw [q] at h4; cases h4
    | some o => rw [q] at h4; exact ⟨o, rfl, h4⟩
  exact ⟨e1, h1, fun p hp => (key p hp).1, fun p hp => by
    obtain ⟨_, o, q, z⟩ := key p hp
    exact He.frT_none q z, fun p hp => by
    obtain ⟨_, o, q, z⟩ := key p hp
    rw [q, He.emptyTab_eq z]⟩
def hookC (n : Nat) (fa : List He.Fa) (fn : List He.DefD) (tf : List He.Defn) (ex : PySem.W.Frag → Bool) : PySem.W.Hook where
  α := He.AlD × Bool
  obs := fun s => obsC n fa fn tf ex s.heap.get?
  val := fun _ => (He.valD fn, true)
  says := fun _ h => ∃ K : PySem.W.Frag, K.In h ∧ SaysC fa fn tf ex h K
  of := fun _ _ e => ⟨_, He.frT_in, saysC_of e⟩
  keeps := fun _ _ _ ⟨K, hK, c⟩ k => ⟨K, PySem.W.Frag.In.keeps hK k, ⟨c.t, c.more, c.hd, c.out, fun p hp => k _ _ (c.empty p hp)⟩⟩
theorem obsC_eq {n : Nat} {fa : List He.Fa} {fn : List He.DefD} {tf : List He.Defn} {ex : PySem.W.Frag → Bool} {g : Addr → Option Obj} {s : Shared} (h : ∀ a, g a = s.heap.get? a) : obsC n fa fn tf ex g = (hookC n fa fn tf ex).obs s := by
  have e : g = s.heap.get? := funext h
  rw [e] <;> rfl
/-! ### lambdas as they are printed -/
theorem xcx_false {P : Program} {w : World} (outer : List PySem.Env) (H : Hp) (s : Shared) (e : Value) (s' : Shared) (h : XK.CX P w outer H s (fun _ _ _ => False) e s') : False := by
  obtain ⟨_, _, _, _, _, _, _, _, _, _, _, _, _, _, z⟩ := h
  exact z
theorem pass0 {X : Cx} : Passes (XK.CX X.prog X.w) X (fun _ _ _ => False) := fun pins σ H s e s' I h => (xcx_false _ _ _ _ _ h).elim
abbrev eNo : Expr := .Constant .none 0 ⟨0, 0, 0, 0⟩
def sIfA : Stmt → List Stmt
  | .If _ a _ _ => a
  | _ => []
def sIfB : Stmt → List Stmt
  | .If _ _ b _ => b
  | _ => []
def sRet : Stmt → Expr
  | .Return (some e) _ => e
  | _ => eNo
def eArg (i : Nat) : Expr → Expr
  | .Call _ as _ _ => as.getD i eNo
  | _ => eNo
def eLamP : Expr → Arguments
  | .Lambda p _ _ _ => p
  | _ => ⟨[], [], none, [], [], none, []⟩
def eLamB : Expr → Expr
  | .Lambda _ b _ _ => b
  | _ => eNo
def eLamS : Expr → Scope
  | .Lambda _ _ s _ => s
  | _ => default
section
variable {X : Cx} {T : Tb} {W : WX} {nm : Nat → Nat → Str} {c P : Addr} {k : Nat} {js : List Nat} {ds : List D} {params : Arguments} {body : Expr} {scope : Scope} {pos : Pos} {L : LamD}
theorem de_lamL (hT : T.lam k = L) (TB : TabB X.base X.mg c P) (hcode : X.env.code = .ref c) (hm : (P, nm) ∈ T.tabs) (hu : ∀ p ∈ T.tabs, p.1 = P → p.2 = nm) (hck : CkOf X T ds)
    (hL : params = L.params ∧ body = L.body ∧ scope = L.scope ∧ L.qual = X.env.qual ++ "<lambda>") (hn : nm pos.line pos.col = L.qual) (hdef : defaultsOf params X.env = ([], []))
    (hfree : NdefX.ndefB X.env.scope scope L.fr = true) (hdom : scope.names.all (fun y => !decide (y.2 = .free) || decide (y.1 ∈ L.fr)) = true) (hjs : js.map (fun j => X.N[j]?) = L.fr.map some) :
    PE X (.Lambda params body scope pos) (rd X.K T W (fLam k js ds)) := by
  subst hT
  exact de_lam TB hcode hm hu hck hL hn hdef hfree hdom hjs
end
theorem lok_by {P : Program} {w : World} {K : PySem.W.Frag} {mg : Str → Option Value} {base : Heap} {CX : CXT} {T : Tb} {k m : Nat} {fe : DL.Env → Res SV} {L : LamD} (hT : T.lam m = L) (hk : ∀ c d, ¬ T.ck c d) (S : NdefX.NScope (L.ps ++ L.fr) L.ps L.fr L.scope)
    (hb : ∀ (cl : List (Str × Addr)) (pm cdv ctv : Value) (us : List Value), us.length = L.ps.length → bindArgs (PySem.W.kla_fn "<lambda>" L.qual L.params L.body L.scope cl pm cdv ctv) ⟨us, []⟩ = pure (L.ps.zip us))
    (hCX : ∀ outer H s e s', CX outer H s (fun _ _ _ => False) e s' → False)
    (hbody : ∀ (f c : Addr) (cl : List (Str × Addr)) (A : Around) (outer : List PySem.Env) (s : Shared) (H : Hp), Room k (A.deeper (NdefX.envF ⟨"<lambda>", L.qual, L.params, [], L.scope, cl, c⟩ f s.heap.objs.size)) →
      PE (NdefX.ncx CX P w K mg base (L.ps ++ L.fr) ⟨"<lambda>", L.qual, L.params, [], L.scope, cl, c⟩ f A outer s H (fun _ _ _ => False)) L.body (rd K T WF fe)) :
    LOk P w K mg base CX T (k + 1) m (runL fe) := by
  subst hT
  exact lok_of hk S hb hCX hbody
theorem code_is {K : PySem.W.Frag} {p : He.Defn} {x qual : Str} {params : Arguments} {body : List Stmt} {scope : Scope} (oc : Value) (od : Option Addr) (dV kV doc pm : Value) (an : Option Addr) (cdv ct : Value) (osl : Array (Option Value))
    (lk : K.lookup (He.fAd K p) = some ⟨oc, od, .func (PySem.W.fnOf x qual params body scope dV kV doc pm an cdv ct), osl⟩) (hc : PySem.W.codeIn K cdv qual = true) : cdv = .ref (He.cT K p).1 := by
  obtain ⟨c, rfl⟩ := He.codeIn_ref hc
  exact congrArg Value.ref (He.codeOf_eq lk rfl).symm
theorem tu_one {P : Addr} {nm : Nat → Nat → Str} {l : List NdefX.NTab} (h : l = [(P, nm)]) : ∀ p ∈ l, p.1 = P → p.2 = nm := fun p hp _ => by
  rw [h, List.mem_singleton] at hp
  rw [hp]
theorem tabs_start {P : Addr} {nm : Nat → Nat → Str} {T : Tb} {H : Hp} (h : T.tabs = [(P, nm)]) (hT : H P = some (.tbl #[])) : TbG T H := fun p hp => by
  rw [h, List.mem_singleton] at hp
  rw [hp]
  exact NdefX.TabN.nil hT
theorem codeHd_ok {K : PySem.W.Frag} {h : Heap} {c P : Addr} (X : K.In h) (e : PySem.W.codeHdIn K c P = true) : PySem.W.CodeHd h c P := PySem.W.codeHd_of_K X e
end DL
end

section
set_option Elab.async false
set_option linter.all false
set_option autoImplicit false
set_option maxRecDepth 100000
set_option maxHeartbeats 4000000
/-! The head's facts, reckoned with less room. -/
namespace DL
open PySem PySem.Spec PyProof.Rows L2 LamX
def frc {α : Type} (n : Nat) (k : Nat → α) : α := match n with
  | 0 => k 0
  | m + 1 => k (m + 1)
def freshA : List Addr → Nat → List Addr → List Addr × Nat
  | [], seen, acc => (acc, seen)
  | a :: r, seen, acc => frc a fun a => match Nat.testBit seen a with
    | true => freshA r seen acc
    | false => frc (Nat.lor seen (Nat.shiftLeft 1 a)) fun s => freshA r s (a :: acc)
def levA (g : Addr → Option Obj) : Nat → Nat → List Addr → List Addr
  | 0, _, _ => []
  | n + 1, seen, fr => match freshA (fr.flatMap fun a => match g a with
      | some o => He.refsD o
      | none => []) seen [] with
    | (new, s) => new ++ levA g n s new
def asX (g : Addr → Option Obj) (n : Nat) : List Addr := mainGlobals :: levA g n (Nat.shiftLeft 1 mainGlobals) [mainGlobals]
def mkK {α : Type} (g : Addr → Option Obj) : List Addr → PySem.W.Frag → (PySem.W.Frag → α) → α
  | [], acc, k => k acc
  | a :: r, acc, k => match g a with
    | none => mkK g r acc k
    | some o => match He.emptyTab o with
      | true => mkK g r acc k
      | false => mkK g r ((a, o) :: acc) k
theorem mkK_eq {α : Type} (g : Addr → Option Obj) (k : PySem.W.Frag → α) : ∀ (as : List Addr) (acc : PySem.W.Frag), ∃ K : PySem.W.Frag, mkK g as acc k = k K ∧ ∀ p ∈ K, p ∈ acc ∨ (g p.1 = some p.2 ∧ He.emptyTab p.2 = false)
  | [], acc => ⟨acc, rfl, fun _ m => .inl m⟩
  | a :: r, acc => by
    unfold mkK
    cases q : g a with
    | none => exact mkK_eq g k r acc
    | some o =>
      dsimp only
      cases z : He.emptyTab o with
      | true => exact mkK_eq g k r acc
      | false =>
        obtain ⟨K, e, h⟩ := mkK_eq g k r ((a, o) :: acc)
        refine ⟨K, e, fun p m => ?_⟩
        rcases h p m with m | m
        · rcases List.mem_cons.mp m with rfl | m
          · exact .inr ⟨q, z⟩
          · exact .inl m
        · exact .inr m
theorem lookup_mem {a : Addr} {o : Obj} : ∀ {K : PySem.W.Frag}, K.lookup a = some o → (a, o) ∈ K
  | [], e => nomatch (show (none : Option Obj) = some o from e)
  | (b, u) :: K, e => by
    have e2 : (match a == b with | true => some u | false => List.lookup a K) = some o := e
    cases q : (a == b) with
    | true =>
      rw [q] at e2
      have h1 := beq_iff_eq.mp q
      cases e2
      rw [h1]
      exact List.mem_cons_self ..
    | false =>
      rw [q] at e2
      exact List.mem_cons_of_mem _ (lookup_mem e2)
def obsE (n : Nat) (fa : List He.Fa) (fn : List He.DefD) (tf : List He.Defn) (ex : PySem.W.Frag → Bool) (g : Addr → Option Obj) : He.AlD × Bool := mkK g (asX g n ++ [PySem.cStatics]).reverse [] fun K => (He.obsD fa fn K, ex K && He.tabsB g tf K)
theorem saysE_of {n : Nat} {fa : List He.Fa} {fn : List He.DefD} {tf : List He.Defn} {ex : PySem.W.Frag → Bool} {h : Heap} (e : obsE n fa fn tf ex h.get? = (He.valD fn, true)) : ∃ K : PySem.W.Frag, K.In h ∧ SaysC fa fn tf ex h K := by
  unfold obsE at e
  obtain ⟨K, eK, hK⟩ := mkK_eq h.get? (fun K => (He.obsD fa fn K, ex K && He.tabsB h.get? tf K)) (asX h.get? n ++ [PySem.cStatics]).reverse []
  rw [eK] at e
  have hK : ∀ p ∈ K, h.get? p.1 = some p.2 ∧ He.emptyTab p.2 = false := fun p m => (hK p m).elim (fun z => nomatch z) id
  have e1 : He.obsD fa fn K = He.valD fn := congrArg (fun z : He.AlD × Bool => z.1) e
  have e2 : (ex K && He.tabsB h.get? tf K) = true := congrArg (fun z : He.AlD × Bool => z.2) e
  rw [Bool.and_eq_true] at e2
  obtain ⟨h1, h2⟩ := e2
  have key : ∀ p ∈ tf, PySem.W.codeHdIn K (He.cT K p).1 (He.cT K p).2 = true ∧ ∃ o, h.get? (He.cT K p).2 = some o ∧ He.emptyTab o = true := fun p hp => by
    have z := List.all_eq_true.mp h2 p hp
    rw [Bool.and_eq_true] at z
    obtain ⟨h3, h4⟩ := z
    refine ⟨h3, ?_⟩
    cases q : h.get? (He.cT K p).2 with
    | none => rw [q] at h4; cases h4
    | some o => rw [q] at h4; exact ⟨o, rfl, h4⟩
  refine ⟨K, fun a o q => (hK _ (lookup_mem q)).1, e1, h1, fun p hp => (key p hp).1, fun p hp => ?_, fun p hp => ?_⟩
  · obtain ⟨_, o, q, z⟩ := key p hp
    cases l : K.lookup (He.cT K p).2 with
    | none => rfl
    | some u =>
      obtain ⟨k1, k2⟩ := hK _ (lookup_mem l)
      have k1 : h.get? (He.cT K p).2 = some u := k1
      rw [q] at k1
      cases k1
      have k2 : He.emptyTab o = false := k2
      rw [z] at k2
      cases k2
  · obtain ⟨_, o, q, z⟩ := key p hp
    rw [q, He.emptyTab_eq z]
def hookE (n : Nat) (fa : List He.Fa) (fn : List He.DefD) (tf : List He.Defn) (ex : PySem.W.Frag → Bool) : PySem.W.Hook where
  α := He.AlD × Bool
  obs := fun s => obsE n fa fn tf ex s.heap.get?
  val := fun _ => (He.valD fn, true)
  says := fun _ h => ∃ K : PySem.W.Frag, K.In h ∧ SaysC fa fn tf ex h K
  of := fun _ _ e => saysE_of e
  keeps := fun _ _ _ ⟨K, hK, c⟩ k => ⟨K, PySem.W.Frag.In.keeps hK k, ⟨c.t, c.more, c.hd, c.out, fun p hp => k _ _ (c.empty p hp)⟩⟩
theorem obsE_eq {n : Nat} {fa : List He.Fa} {fn : List He.DefD} {tf : List He.Defn} {ex : PySem.W.Frag → Bool} {g : Addr → Option Obj} {s : Shared} (h : ∀ a, g a = s.heap.get? a) : obsE n fa fn tf ex g = (hookE n fa fn tf ex).obs s := by
  have e : g = s.heap.get? := funext h
  rw [e] <;> rfl
end DL
end

section
set_option Elab.async false
set_option linter.all false
set_option autoImplicit false
set_option maxRecDepth 100000
set_option maxHeartbeats 4000000
/-! a dict display of three texts, looked at once: {k1: a, k2: b, k3: c}[w] -/
namespace DL
open PySem PySem.Spec PyProof.Rows L2
def dix3 (k1 k2 k3 : Str) : SV → SV → SV → SV → Res SV
  | .sh a, .sh b, .sh c, .sh (.str x) => if scalarD a = true ∧ scalarD b = true ∧ scalarD c = true then (if x = k1 then .ok (.sh a) else if x = k2 then .ok (.sh b) else if x = k3 then .ok (.sh c) else .bad) else .bad
  | _, _, _, _ => .bad
def fDix3 (k1 k2 k3 : Str) (f1 f2 f3 fw : DL.Env → Res SV) : DL.Env → Res SV := fun δ => (f1 δ).bind fun a => (f2 δ).bind fun b => (f3 δ).bind fun c => (fw δ).bind fun w => dix3 k1 k2 k3 a b c w
theorem Rep.scal {K : PySem.W.Frag} {T : Tb} {F F' : Hp} {v : V} {d : D} (h : Rep K T F v d) (s : scalarD d = true) : Rep K T F' v d := by
  cases h <;> first | (cases s; done) | constructor
/-- an object taken out of what stands still -/
def offF (F : Hp) (p : Addr) : Hp := fun a => if a = p then none else F a
theorem Stp.off {T : Tb} {F H F' H' : Hp} {p : Addr} (s : Stp T F H F' H') (h : F p = none) : Stp T F H (offF F' p) H' :=
  ⟨⟨fun a o ha n => by
    have z : a ≠ p := fun z => by rw [z, h] at ha; cases ha
    unfold offF; rw [if_neg z]; exact s.ff.a a o ha n, fun a ha => by
    by_cases z : a = p
    · subst z; exact h
    · unfold offF at ha; rw [if_neg z] at ha; exact s.ff.n a ha⟩, ⟨fun a o ha n => by
    unfold offF at ha
    split at ha
    · cases ha
    · exact s.fh.a a o ha n, fun a ha => by
    unfold offF
    split
    · rfl
    · exact s.fh.n a ha⟩, s.hh, fun a o m h1 h2 => by
    unfold offF
    split
    · rfl
    · exact s.fr a o m h1 h2, s.tb⟩
theorem TbG.putD {T : Tb} {H : Hp} {a : Addr} {kvs : List (Key × V)} {o' : HO} (t : TbG T H) (h : H a = some (.dK kvs)) : TbG T (upd H a o') := fun p hp => by
  obtain ⟨ps, h1, h2, h3⟩ := t p hp
  have n1 : p.1 ≠ a := fun z => by rw [z, h] at h1; cases h1
  refine ⟨ps, by rw [upd_ne n1]; exact h1, h2, fun pos cv hc => ?_⟩
  obtain ⟨c, e1, e2⟩ := h3 pos cv hc
  have n2 : c ≠ a := fun z => by rw [z, h] at e2; cases e2
  exact ⟨c, e1, by rw [upd_ne n2]; exact e2⟩
theorem Stp.mutD {T : Tb} {F H F' H' : Hp} {a : Addr} {o : HO} {kvs : List (Key × V)} (p : Stp T F H F' H') (h0 : H a = none) (hF : F' a = none) (h : H' a = some (.dK kvs)) : Stp T F H F' (upd H' a o) :=
  ⟨p.ff, Exn.mut p.fh hF, Exn.mut p.hh h0, p.fr, fun t => (p.tb t).putD h⟩
theorem dix_ok {k1 k2 k3 : Str} {a b c w s : SV} (h : dix3 k1 k2 k3 a b c w = .ok s) : ∃ a' b' c' x, a = .sh a' ∧ b = .sh b' ∧ c = .sh c' ∧ w = .sh (.str x) ∧ scalarD a' = true ∧ scalarD b' = true ∧ scalarD c' = true ∧ ((x = k1 ∧ s = .sh a') ∨ (x ≠ k1 ∧ x = k2 ∧ s = .sh b') ∨ (x ≠ k1 ∧ x ≠ k2 ∧ x = k3 ∧ s = .sh c')) := by
  unfold dix3 at h
  split at h
  · rename_i a' b' c' x
    split at h
    · rename_i q
      obtain ⟨q1, q2, q3⟩ := q
      refine ⟨a', b', c', x, rfl, rfl, rfl, rfl, q1, q2, q3, ?_⟩
      split at h
      · cases h; exact .inl ⟨‹_›, rfl⟩
      · split at h
        · cases h; exact .inr (.inl ⟨‹_›, ‹_›, rfl⟩)
        · split at h
          · cases h; exact .inr (.inr ⟨‹_›, ‹_›, ‹_›, rfl⟩)
          · cases h
    · cases h
  · cases h
theorem dix_ex {k1 k2 k3 : Str} {a b c w : SV} {n : Nat} (h : dix3 k1 k2 k3 a b c w = .ex n) : False := by
  unfold dix3 at h
  split at h
  · split at h
    · split at h
      · cases h
      · split at h
        · cases h
        · split at h <;> cases h
    · cases h
  · cases h
theorem de_dix3 {X : Cx} {T : Tb} {W : WX} {k1 k2 k3 : Str} {e1 e2 e3 w : Expr} {j1 j2 j3 : Nat} {p1 p2 p3 pos pos2 : Pos} {f1 f2 f3 fw : DL.Env → Res SV} (hu : X.A.units + 65 < cLine) (d12 : k1 ≠ k2) (d13 : k1 ≠ k3) (d23 : k2 ≠ k3) (hs : NoSl w) (h1 : PE X e1 (rd X.K T W f1)) (h2 : PE X e2 (rd X.K T W f2)) (h3 : PE X e3 (rd X.K T W f3)) (hw : PE X w (rd X.K T W fw)) :
    PE X (.Subscript (.Dict [some (.Constant (.str k1) j1 p1), some (.Constant (.str k2) j2 p2), some (.Constant (.str k3) j3 p3)] [e1, e2, e3] pos) w pos2) (rd X.K T W (fDix3 k1 k2 k3 f1 f2 f3 fw)) :=
  PEimp (pe_dget (by omega) (pe_disp (pps_cons pe_str h1 (pps_cons pe_str h2 (pps_cons pe_str h3 pps_nil))) rfl rfl (by simp) (show 3 ≤ 15 by decide)) hw hs) fun σ H Q ⟨F0, G, F, δ, E, h⟩ => by
    unfold fDix3 at h
    intro p hp
    have st0 : Stp T F H (upd F p (.dK [])) (upd H p (.dK [])) := Stp.newF E.fh hp
    have E' := E.grow st0
    show rd X.K T W f1 σ (upd H p (.dK [])) fun y H2 => rd X.K T W f2 σ H2 fun y2 H3 => rd X.K T W f3 σ H3 fun y3 H4 => _
    refine rdE E' (fun a ea v1 F1 H1 q1 r1 => ?_) (fun c ec => by rw [ec] at h; exact fun F'' H'' q => h F'' H'' (st0.trans q)) (fun eb => by rw [eb] at h; exact h)
    rw [ea, bind_ok] at h
    refine rdE (E'.grow q1) (fun b eb v2 F2 H2 q2 r2 => ?_) (fun c ec => by rw [ec] at h; exact fun F'' H'' q => h F'' H'' ((st0.trans q1).trans q)) (fun eb => by rw [eb] at h; exact h)
    rw [eb, bind_ok] at h
    refine rdE ((E'.grow q1).grow q2) (fun c ec v3 F3 H3 q3 r3 => ?_) (fun c ec => by rw [ec] at h; exact fun F'' H'' q => h F'' H'' (((st0.trans q1).trans q2).trans q)) (fun eb => by rw [eb] at h; exact h)
    rw [ec, bind_ok] at h
    have q13 := (q1.trans q2).trans q3
    have hFp : F p = none := Exn.back E.fh hp
    have fp3 : F3 p = some (.dK []) := q13.ff.a p _ (upd_same ..) rfl
    have hp3 : H3 p = some (.dK []) := q13.fh.a p _ fp3 rfl
    refine ⟨hp3, [(.inr k1, v1), (.inr k2, v2), (.inr k3, v3)], rfl, (by decide : 3 ≤ 15), ?_⟩
    have m : mergeK ([] : List (Key × V)) [(.inr k1, v1), (.inr k2, v2), (.inr k3, v3)] = [(.inr k1, v1), (.inr k2, v2), (.inr k3, v3)] := by
      have n12 : ¬ (Sum.inr k1 : Key) = .inr k2 := fun z => d12 (by injection z)
      have n13 : ¬ (Sum.inr k1 : Key) = .inr k3 := fun z => d13 (by injection z)
      have n23 : ¬ (Sum.inr k2 : Key) = .inr k3 := fun z => d23 (by injection z)
      simp [mergeK, putK, n12, n13, n23, d12, d13, d23]
    rw [m]
    have op : offF F3 p p = none := if_pos rfl
    have s1 := ((st0.trans q13).off hFp).mutD (o := .dK [(.inr k1, v1), (.inr k2, v2), (.inr k3, v3)]) hp op hp3
    have s2 := s1.fz hp op (upd_same ..)
    refine rdE (E.grow s2) (fun sw ew vw F4 H4 q4 r4 => ?_) (fun c ec => by rw [ec] at h; exact fun F'' H'' q => h F'' H'' (s2.trans q)) (fun eb => by rw [eb] at h; exact h)
    rw [ew, bind_ok] at h
    have hp4 : H4 p = some (.dK [(.inr k1, v1), (.inr k2, v2), (.inr k3, v3)]) := q4.fh.a p _ (q4.ff.a p _ (upd_same ..) rfl) rfl
    cases hd : dix3 k1 k2 k3 a b c sw with
    | bad => rw [hd] at h; exact h.elim
    | ex n => exact (dix_ex hd).elim
    | ok s =>
      rw [hd] at h
      obtain ⟨a', b', c', x, rfl, rfl, rfl, rfl, c1, c2, c3, cs⟩ := dix_ok hd
      have r1 : Rep X.K T F1 v1 a' := r1
      have r2 : Rep X.K T F2 v2 b' := r2
      have r3 : Rep X.K T F3 v3 c' := r3
      have r4 : Rep X.K T F4 vw (.str x) := r4
      have ex : vw = .str x := by cases r4; rfl
      subst ex
      have st := s2.trans q4
      rcases cs with ⟨e, rfl⟩ | ⟨n1, e, rfl⟩ | ⟨n1, n2, e, rfl⟩
      · subst e
        exact ⟨p, v1, rfl, by
          have := DGet.k (k := .inr x) hp4
          rw [show valV [((.inr x : Key), v1), (.inr k2, v2), (.inr k3, v3)] (.inr x) = some v1 by simp [valV]] at this
          exact this, h v1 F4 H4 st (r1.scal c1)⟩
      · subst e
        exact ⟨p, v2, rfl, by
          have := DGet.k (k := .inr x) hp4
          rw [show valV [((.inr k1 : Key), v1), (.inr x, v2), (.inr k3, v3)] (.inr x) = some v2 by simp [valV, d12]] at this
          exact this, h v2 F4 H4 st (r2.scal c2)⟩
      · subst e
        exact ⟨p, v3, rfl, by
          have := DGet.k (k := .inr x) hp4
          rw [show valV [((.inr k1 : Key), v1), (.inr k2, v2), (.inr x, v3)] (.inr x) = some v3 by simp [valV, d13, d23]] at this
          exact this, h v3 F4 H4 st (r3.scal c3)⟩
end DL
end

section
set_option Elab.async false
set_option linter.all false
set_option autoImplicit false
set_option maxRecDepth 100000
set_option maxHeartbeats 4000000
/-! texts: <, sorted, list.index -/
namespace DL
open PySem PySem.Spec PyProof.Rows L2
/-! ### < of texts -/
def ltS (x y : Str) : Bool := decide (x.cps.toList < y.cps.toList)
def gLtS : D → D → Option SV
  | .str i, .str j => some (.sh (.bl (ltS i j)))
  | _, _ => none
def rLtS : R2 := fun x y H Q => ∃ i j, x = .str i ∧ y = .str j ∧ Q (.bl (decide (i.cps.toList < j.cps.toList))) H
theorem good_ltS {K : PySem.W.Frag} {T : Tb} : Good2 K T rLtS gLtS := fun F H x y d e s Q eh rx ry h k => by
  cases d with
  | str i =>
    cases e with
    | str j =>
      cases rx
      cases ry
      cases h
      exact ⟨i, j, rfl, rfl, k _ _ (gives_sh eh (.bl _))⟩
    | _ => cases h
  | _ => cases h
/-- < of whole numbers or of texts -/
def gLtB (d e : D) : Option SV := (gLt d e).or (gLtS d e)
def rLtB : R2 := fun x y H Q => rI0 (fun i j => .bl (decide (i < j))) x y H Q ∨ rLtS x y H Q
theorem good_ltB {K : PySem.W.Frag} {T : Tb} : Good2 K T rLtB gLtB := fun F H x y d e s Q eh rx ry h k => by
  unfold gLtB at h
  cases q : gLt d e with
  | some z =>
    rw [q] at h
    cases h
    exact .inl (good_lt F H x y d e _ Q eh rx ry q k)
  | none =>
    rw [q] at h
    exact .inr (good_ltS F H x y d e s Q eh rx ry h k)
theorem op_ltB {X : Cx} : OpR X (compareOp .Lt) rLtB := op_lt.or op_lt_str
/-! ### sorted of texts -/
def insS (x : Str) : List Str → List Str
  | [] => [x]
  | y :: r => if ltS y x = true then y :: insS x r else x :: y :: r
def srtS : List Str → List Str
  | [] => []
  | x :: r => insS x (srtS r)
theorem insS_perm (x : Str) : ∀ l, (insS x l).Perm (x :: l)
  | [] => List.Perm.refl _
  | y :: r => by
    unfold insS
    split
    · exact ((insS_perm x r).cons y).trans (List.Perm.swap x y r)
    · exact List.Perm.refl _
theorem srtS_perm : ∀ l, (srtS l).Perm l
  | [] => List.Perm.refl _
  | x :: r => (insS_perm x (srtS r)).trans ((srtS_perm r).cons x)
def LeS (x y : Str) : Prop := x.cps.toList ≤ y.cps.toList
theorem LeS.trans {x y z : Str} (h : LeS x y) (h' : LeS y z) : LeS x z := List.le_trans h h'
theorem LeS.anti {x y : Str} (h : LeS x y) (h' : LeS y x) : x = y := by
  have := List.le_antisymm h h'
  cases x; cases y
  congr 1
  exact Array.toList_inj.mp this
theorem leS_not {x y : Str} : ltS y x = false ↔ LeS x y := by
  unfold ltS LeS
  rw [decide_eq_false_iff_not]
  exact List.not_lt
theorem ltS_le {x y : Str} (h : ltS x y = true) : LeS x y := List.le_of_lt (of_decide_eq_true h)
theorem insS_ris (x : Str) : ∀ l : List Str, l.Pairwise LeS → (insS x l).Pairwise LeS
  | [], _ => List.pairwise_singleton _ _
  | y :: r, h => by
    have h' := List.pairwise_cons.mp h
    unfold insS
    split
    · rename_i e
      refine List.pairwise_cons.mpr ⟨fun z m => ?_, insS_ris x r h'.2⟩
      rcases List.mem_cons.mp ((insS_perm x r).mem_iff.mp m) with rfl | m
      · exact ltS_le e
      · exact h'.1 z m
    · rename_i e
      have e := leS_not.mp (Bool.eq_false_iff.mpr e)
      exact List.pairwise_cons.mpr ⟨fun z m => by
        rcases List.mem_cons.mp m with rfl | m
        · exact e
        · exact e.trans (h'.1 z m), h⟩
theorem srtS_ris : ∀ l, (srtS l).Pairwise LeS
  | [] => List.Pairwise.nil
  | x :: r => insS_ris x _ (srtS_ris r)
theorem risingS_pw : ∀ (x : Str) (l : List Str), risingS x l = true → (x :: l).Pairwise LeS
  | x, [], _ => List.pairwise_singleton _ _
  | x, y :: r, h => by
    unfold risingS at h
    rw [Bool.and_eq_true, Bool.not_eq_true', ltCps_eq] at h
    have e : LeS x y := leS_not.mp h.1
    have ih := risingS_pw y r h.2
    exact List.pairwise_cons.mpr ⟨fun z m => by
      rcases List.mem_cons.mp m with rfl | m
      · exact e
      · exact e.trans ((List.pairwise_cons.mp ih).1 z m), ih⟩
theorem sortedS_pw : ∀ l : List Str, sortedS l = true → l.Pairwise LeS
  | [], _ => List.Pairwise.nil
  | x :: r, h => risingS_pw x r h
section
variable {K : PySem.W.Frag} {T : Tb}
def gSrtS : List D → Option SV
  | [d] => match lstOf d with
    | some ds => (dStrs ds).bind fun ns => if ns.length < 64 then some (.ow ((srtS ns).map D.str)) else none
    | none => none
  | _ => none
theorem good_srtS : GoodN K T (rSortedS K) gSrtS := goodN1 (fun ds s h => by unfold gSrtS at h; split at h <;> first | exact ⟨_, rfl⟩ | cases h) fun F H x d s Q eh rx h k => by
  have h : (match lstOf d with | some ds => (dStrs ds).bind fun ns => if ns.length < 64 then some (SV.ow ((srtS ns).map D.str)) else none | none => none) = some s := h
  split at h
  · rename_i ds hd
    obtain ⟨ns, h1, h2⟩ := Option.bind_eq_some_iff.mp h
    split at h2
    · rename_i h64
      cases h2
      obtain ⟨a, vs, rfl, g1, g2⟩ := rx.list eh hd
      rw [g2.dStrs h1] at g1
      refine ⟨a, ns, rfl, g1, h64, fun ys p hp hr hn => ?_⟩
      have e : ys = srtS ns := List.Perm.eq_of_pairwise (fun a b _ _ h h' => LeS.anti h h') (sortedS_pw ys hr) (srtS_ris ns) (hp.trans (srtS_perm ns).symm)
      subst e
      exact k _ _ (gives_lst eh hn (reps_strs _))
    · cases h2
  · cases h
/-- sorted of whole numbers, pairs of them, or texts -/
def gSrtB : List D → Option SV := fun ds => (gSrtA ds).or (gSrtS ds)
theorem good_srtB : GoodN K T (fun vs H Q => (rSortedI K vs H Q ∨ rSrtP K vs H Q) ∨ rSortedS K vs H Q) gSrtB := fun F H vs ds s Q eh r h k => by
  unfold gSrtB at h
  cases q : gSrtA ds with
  | some z =>
    rw [q] at h
    cases h
    exact .inl (good_srtA F H vs ds _ Q eh r q k)
  | none =>
    rw [q] at h
    exact .inr (good_srtS F H vs ds s Q eh r h k)
end
theorem cr_srtB {X : Cx} : CallR X (.builtin "sorted") (fun vs H Q => (rSortedI X.K vs H Q ∨ rSrtP X.K vs H Q) ∨ rSortedS X.K vs H Q) := by
  intro pins s σ H vs us Q I r h
  rcases h with h | h
  · exact cr_srtA pins s σ H vs us Q I r h
  · exact cr_sortedS pins s σ H vs us Q I r h
end DL
end

section
set_option Elab.async false
set_option linter.all false
set_option autoImplicit false
set_option maxRecDepth 100000
set_option maxHeartbeats 4000000
/-! xs.index(t): a list of texts -/
namespace DL
open PySem PySem.Spec PyProof.Rows L2
def mIdxS (d : D) (es : List D) : Option SV := match lstOf d, es with
  | some ds, [.str y] => (dStrs ds).bind fun ns => if ns.findIdx (· == y) < ns.length then some (.sh (.int ((ns.findIdx (· == y) : Nat) : Int))) else none
  | _, _ => none
theorem flat_strs : ∀ ns : List Str, (ns.map V.str).all flatV = true
  | [] => rfl
  | _ :: ns => flat_strs ns
theorem good_idxS {K : PySem.W.Frag} {T : Tb} : GoodR K T (rIndex K) mIdxS := fun F H x vs d es s Q eh rx rs h k => by
  unfold mIdxS at h
  split at h
  · rename_i ds y hd
    obtain ⟨ns, h1, h2⟩ := Option.bind_eq_some_iff.mp h
    split at h2
    · rename_i hl
      cases h2
      obtain ⟨a, us, rfl, g1, g2⟩ := rx.list eh hd
      rw [g2.dStrs h1] at g1
      cases rs with
      | cons r1 r2 =>
        cases r2
        cases r1
        refine ⟨a, ns.map V.str, .str y, ns.findIdx (· == y), .str ns[ns.findIdx (· == y)], rfl, rfl, g1, rfl, flat_strs ns, ?_, ?_, fun m z' hm hz => ?_, k _ _ (gives_sh eh (.int _))⟩
        · rw [List.getElem?_map, List.getElem?_eq_getElem hl]; rfl
        · exact List.findIdx_getElem (w := hl)
        · rw [List.getElem?_map] at hz
          obtain ⟨t, ht, rfl⟩ := Option.map_eq_some_iff.mp hz
          obtain ⟨hm2, rfl⟩ := List.getElem?_eq_some_iff.mp ht
          have := List.not_of_lt_findIdx hm
          exact this
    · cases h2
  · cases h
/-! ### text.upper() -/
def mUpper (d : D) (es : List D) : Option SV := match d, es with
  | .str a, [] => if a.length ≤ 5592405 then some (.sh (.str (Txt.upper a))) else none
  | _, _ => none
theorem good_upper {K : PySem.W.Frag} {T : Tb} : GoodR K T (fun x xs H Q => ∃ a, x = .str a ∧ xs = [] ∧ a.length ≤ 5592405 ∧ Q (.str (Txt.upper a)) H) mUpper := fun F H x vs d es s Q eh rx rs h k => by
  unfold mUpper at h
  split at h
  · split at h
    · rename_i hl
      cases h
      cases rx
      cases rs
      exact ⟨_, rfl, rfl, hl, k _ _ (gives_sh eh (.str _))⟩
    · cases h
  · cases h
end DL
end

section
set_option Elab.async false
set_option linter.all false
set_option autoImplicit false
set_option maxRecDepth 100000
set_option maxHeartbeats 4000000
/-! for x, y in zip(a, b) of lists or of tuples -/
namespace DL
open PySem PySem.Spec PyProof.Rows L2
theorem walks_zipT {K : PySem.W.Frag} {T : Tb} {F : Hp} {a b : Addr} {vs ws : List V} {ds es : List D} (h : SqT K F a vs) (r : Reps K T F vs ds) (h' : SqT K F b ws) (r' : Reps K T F ws es) : Walks K T (RZ.ItzT K a b) F (zipD ds es) where
  go := fun i H e l => by
    unfold zipD at l
    rw [List.length_map, List.length_zip] at l
    have l1 : i < vs.length := by rw [r.length]; omega
    have l2 : i < ws.length := by rw [r'.length]; omega
    exact ⟨vs, ws, vs[i], ws[i], sqT_mono e h, sqT_mono e h', List.getElem?_eq_getElem l1, List.getElem?_eq_getElem l2⟩
  stop := fun H e => by
    refine ⟨vs, ws, sqT_mono e h, sqT_mono e h', ?_⟩
    unfold zipD
    rw [List.length_map, List.length_zip, r.length, r'.length]
    by_cases q : ds.length ≤ es.length
    · exact .inl (by omega)
    · exact .inr (by omega)
  yld := fun i F1 H1 x H2 d e e2 hd y => by
    obtain ⟨A, u, v, rfl, hA, rfl, f1, f2⟩ := y
    have g1 := f1 vs (sqT_mono (Exn.trans e e2) h)
    have g2 := f2 ws (sqT_mono (Exn.trans e e2) h')
    obtain ⟨d1, k1, k2⟩ := r.getV g1
    obtain ⟨d2, k3, k4⟩ := r'.getV g2
    unfold zipD at hd
    rw [List.getElem?_map, List.getElem?_zip_eq_some.mpr (show ds[i]? = some (d1, d2).1 ∧ es[i]? = some (d1, d2).2 from ⟨k1, k3⟩)] at hd
    cases hd
    obtain ⟨F2, st, rr⟩ := gives_tup e2 hA (.cons (k2.mono e) (.cons (k4.mono e) .nil))
    exact ⟨F2, st, rr⟩
def iZipB (fa : DL.Env → Res (List SV)) : DL.Env → Res (List D) := fun δ => (fa δ).bind fun ss => match ss with
  | [.sh (.lst ds), .sh (.lst es)] => .ok (zipD ds es)
  | [.sh (.tup ds), .sh (.tup es)] => .ok (zipD ds es)
  | _ => .bad
theorem di_zipB {X : Cx} {T : Tb} {W : WX} {e e2 : Expr} {p pos tpos : Pos} {elts : List Expr} {kk : Nat} {fa : DL.Env → Res (List SV)} (hg : Gl X "zip") (hm : X.mg "zip" = none) (ha : PA X [e, e2] (rdA X.K T W fa))
    (hs : starEach [e, e2] X.env = (false, eval e X.env) :: starEach [e2] X.env := by rfl) (hpl : (backTo pos (starEach [e2] X.env)).any (·.1) = false := by rfl) :
    PI X (.Tuple elts kk tpos) (.Call (.Name "zip" p) [e, e2] [] pos) (rdI X.K T W (iZipB fa)) :=
  PIimp (RZ.pi_zipA hg hm ha hs hpl) fun σ H R ⟨F0, G, F, δ, E, h⟩ => by
    refine ⟨F0, G, F, δ, E, ?_⟩
    unfold iZipB at h
    cases q : fa δ with
    | ex c => rw [q] at h; exact h
    | bad => rw [q] at h; exact h
    | ok ss =>
      rw [q, bind_ok] at h
      intro vs F' H' pp r
      split at h
      · rename_i ds es
        cases r with
        | cons h1 r =>
          cases r with
          | cons h2 r =>
            cases r
            cases h1 with
            | lst g1 g2 =>
              cases h2 with
              | lst k1 k2 =>
                exact ⟨_, _, _, _, rfl, .inl ⟨SqL.of (pp.fh.at g1), SqL.of (pp.fh.at k1), h _ F' H' pp (walks_zip (SqL.of g1) g2 (SqL.of k1) k2)⟩⟩
      · rename_i ds es
        cases r with
        | cons h1 r =>
          cases r with
          | cons h2 r =>
            cases r
            cases h1 with
            | tup g1 g2 =>
              cases h2 with
              | tup k1 k2 =>
                exact ⟨_, _, _, _, rfl, .inr ⟨sqT_mono pp.fh g1, sqT_mono pp.fh k1, h _ F' H' pp (walks_zipT g1 g2 k1 k2)⟩⟩
      · exact h.elim
end DL
end

section
set_option Elab.async false
set_option linter.all false
set_option autoImplicit false
set_option maxRecDepth 100000
set_option maxHeartbeats 4000000
/-! t[::-1] of a tuple -/
namespace DL
open PySem PySem.Spec PyProof.Rows L2 HT
section
variable {prog : Program} {w : World} {A : Around} {E : Value → Shared → Prop} {s : Shared}
theorem rev_places (n : Nat) : Builtin.Slice.slicePlaces ((n : Int) - 1) (-1) (-1) = n := by
  unfold Builtin.Slice.slicePlaces
  have h1 : ¬ ((-1 : Int) > 0) := by omega
  simp only [h1, if_false]
  by_cases h : (n : Int) - 1 > -1
  · rw [if_pos h, show (-(-1 : Int)) = 1 from rfl, Int.ediv_one]
    omega
  · rw [if_neg h]
    omega
theorem sliceApplied_rev {sl : Addr} {vs : Value} {n : Nat} {Q : Int × Int × Nat → Shared → Prop} (hs : s.heap.IsSliceOf sl .none .none vs) (ps : IsPart vs (some (-1)))
    (h : Q ((n : Int) - 1, -1, n) s) : wpAny (model prog w) A (Builtin.Slice.sliceApplied (.ref sl) (pure (n : Int))) Q E s := by
  obtain ⟨os, hos, hcs, hds⟩ := id hs
  unfold Builtin.Slice.sliceApplied Builtin.Slice.sliceFields
  refine wpAny_bind (wpAny_bind (wpAny_field hos hds (x := .none) rfl (wpAny_bind (wpAny_field hos hds (x := .none) rfl (wpAny_bind (wpAny_field hos hds (x := vs) rfl (wpAny_pure ?_)))))))
  refine wpAny_bind (slicePart_ ps ?_)
  show wpAny _ _ (if ((-1 : Int) == 0) = true then _ else _) _ _ s
  rw [if_neg (by decide)]
  refine wpAny_bind (slicePart_none (wpAny_bind (slicePart_none (wpAny_bind (wpAny_pure ?_)))))
  show wpAny _ _ (pure ((n : Int) - 1, (-1 : Int), Builtin.Slice.slicePlaces ((n : Int) - 1) (-1) (-1))) _ _ s
  rw [rev_places]
  exact wpAny_pure h
theorem rev_pick (xs : List Value) : (List.range xs.length).filterMap (fun (m : Nat) => xs[((xs.length : Int) - 1 + (m : Int) * (-1)).toNat]?) = xs.reverse := by
  apply List.ext_getElem?
  intro i
  have key : ∀ k, k ≤ xs.length → ((List.range k).filterMap fun (m : Nat) => xs[((xs.length : Int) - 1 + (m : Int) * (-1)).toNat]?) = (xs.reverse).take k := by
    intro k hk
    induction k with
    | zero => rfl
    | succ k ih =>
      rw [List.range_succ, List.filterMap_append, ih (by omega)]
      have e : ((xs.length : Int) - 1 + (k : Int) * (-1)).toNat = xs.length - 1 - k := by omega
      have hl : xs.length - 1 - k < xs.length := by omega
      rw [List.take_succ, List.getElem?_reverse (by omega)]
      congr 1
      simp only [List.filterMap_cons, List.filterMap_nil, e, List.getElem?_eq_getElem hl]
      rfl
  rw [key _ (Nat.le_refl _), List.take_of_length_le (by rw [List.length_reverse]; exact Nat.le_refl _)]
theorem getItem_tuple_rev {t sl : Addr} {its : List Value} {vs : Value} {Q : Value → Shared → Prop} (ht : IsTup s.heap t its.toArray) (hs : s.heap.IsSliceOf sl .none .none vs) (ps : IsPart vs (some (-1)))
    (h : Q (.ref s.heap.objs.size) { s with heap := s.heap.push { cls := .type "tuple", data := .seq its.reverse.toArray } })
    (hsz : its.length ≤ sizeLine) : wpAny (model prog w) A (getItem (.ref t) (.ref sl)) Q E s := by
  have htake : sizeOk (.seq its.reverse.toArray) := by
    show its.reverse.toArray.size ≤ sizeLine
    rw [List.size_toArray, List.length_reverse]
    exact hsz
  obtain ⟨os, hos, hcs, hds⟩ := id hs
  have hTs : s.TypeIs (.ref sl) "slice" := ⟨os, hos, hcs⟩
  unfold getItem
  try with_reducible refine wpAny_holding ?_
  first | refine wpAny_bind (wpAny_pure ?_) | skip
  refine wpAny_bind (wpAny_sequenceKey ht.typeIs (by decide) ?_)
  refine wpAny_bind (wpAny_callSpecial?_slot (name := Str.ofString "__getitem__") ht.typeIs PyProof.Rows.slot_tuple_getitem
    (wpAny_call_entry PyProof.Rows.slot_tuple_getitem ht.typeIs entry_tuple_getitem ?_ (args_tuple_getitem _ _)))
  show wpAny _ _ (Builtin.Tuple.tupleItemsOf (.ref t) >>= _) _ _ s
  refine wpAny_bind (tupleItemsOf_ ht ?_)
  refine wpAny_bind (wpAny_typeOf hTs ?_)
  rw [if_pos (by decide)]
  refine wpAny_bind (sliceApplied_rev hs ps ?_)
  have hno : ¬ (((((its.toArray.size : Nat) : Int) - 1) == 0 && (-1 : Int) == 1 && its.toArray.size == its.toArray.size) = true) := by
    rw [show ((-1 : Int) == 1) = false from rfl, Bool.and_false, Bool.false_and]
    decide
  show wpAny _ _ (if ((((its.toArray.size : Nat) : Int) - 1) == 0 && (-1 : Int) == 1 && its.toArray.size == its.toArray.size) = true then _ else _) _ _ s
  rw [if_neg hno]
  have pk : ((List.range its.toArray.size).filterMap fun (k : Nat) => its.toArray[((its.toArray.size : Int) - 1 + (k : Int) * (-1)).toNat]?).toArray = its.reverse.toArray := by
    have := rev_pick its
    simp only [List.size_toArray, List.getElem?_toArray]
    rw [this]
  rw [pk]
  first
    | exact wpAny_bind (m := Builtin.Tuple.tupleExact _) (wpAny_newObj_type (wpAny_pure ⟨_, rfl, wpAny_pure h⟩) htake)
    | exact wpAny_bind (m := Builtin.Tuple.tupleExact _) (wpAny_newObj_type (wpAny_bind (wpAny_pure (wpAny_pure ⟨_, rfl, wpAny_pure h⟩))) htake)
    | exact wpAny_bind (wpAny_bind (m := Builtin.Tuple.tupleExact _) (wpAny_newObj_type (wpAny_pure (wpAny_pure ⟨_, rfl, wpAny_pure h⟩)) htake))
    | exact wpAny_bind (wpAny_bind (m := Builtin.Tuple.tupleExact _) (wpAny_newObj_type (wpAny_pure ⟨_, rfl, wpAny_pure h⟩) htake))
end
section
variable {X : Cx}
def tRevT (K : PySem.W.Frag) (te : TE) : TE := fun σ H Q => te σ H fun x H1 => ∃ a xs, x = .ref a ∧ ((SqL K H1 a xs ∧ ∀ p, H1 p = none → Q (.ref p) (upd H1 p (.lst xs.reverse))) ∨ (SqT K H1 a xs ∧ ∀ p, H1 p = none → Q (.ref p) (upd H1 p (.tup xs.reverse))))
theorem pe_revT {e : Expr} {te : TE} {k : Nat} {p1 p2 p3 pos : Pos} (he : PE X e te) : PE X (.Subscript e (.Slice none none (some (.UnaryOp .USub (.Constant (.int 1) k p1) p2)) p3) pos) (tRevT X.K te) := by
  refine ⟨fun pins s σ H Q I h => ?_⟩
  refine Subscript_ (thn (he.run pins s σ H _ I h) fun v s1 ⟨x, H1, I1, r1, q1⟩ => ?_)
  obtain ⟨a, xs, ex, hq⟩ := q1
  subst ex
  cases r1
  have hst : PO X (some (.UnaryOp .USub (.Constant (.int 1) k p1) p2)) (tPart (tUn (rU fun i => .int (-i)) (tC (.int 1)))) := po_some (pe_un un_neg pe_int)
  rw [show (eval (.Slice none none (some (.UnaryOp .USub (.Constant (.int 1) k p1) p2)) p3) X.env) = _ from rfl]
  refine wpAny_Slice (thn (po_none.run pins s1 σ H1 (fun o H2 => o = none ∧ H2 = H1) I1 ⟨rfl, rfl⟩) fun vl s2 ⟨l, H2, I2, pl, el, e2⟩ => ?_)
  subst el e2
  refine thn (po_none.run pins s2 σ H2 (fun o H3 => o = none ∧ H3 = H2) I2 ⟨rfl, rfl⟩) fun vu s3 ⟨u, H3, I3, pu, eu, e3⟩ => ?_
  subst eu e3
  refine thn (hst.run pins s3 σ H3 (fun o H4 => o = some (-1) ∧ H4 = H3) I3 ⟨1, rfl, -1, rfl, rfl, rfl⟩) fun vs s4 ⟨o, H4, I4, ps, eo, e4⟩ => ?_
  subst eo e4
  have I5 : Inv X pins σ H4 { s4 with heap := s4.heap.push { cls := .type "slice", data := .fields #[vl, vu, vs] } } := I4.kept (t' := s4.toks) fun b ob q => Heap.get?_push_of_some _ q
  show wpAny (model X.prog X.w) X.A (subscriptTail e (.Slice none none (some (.UnaryOp .USub (.Constant (.int 1) k p1) p2)) p3) (.ref a) (.ref s4.heap.objs.size)) (EP X pins σ Q) X.xe { s4 with heap := s4.heap.push { cls := .type "slice", data := .fields #[vl, vu, vs] } }
  rcases hq with ⟨hx, q⟩ | ⟨hx, q⟩
  · obtain ⟨its, r, ht, hz⟩ := I5.list hx
    have hlen := r.length
    refine tail_any (ops := [.ref a, .ref s4.heap.objs.size]) ht.isList.typeIs (PySem.slot_list_getitem.lookup) ?_ (by with_unfolding_all rfl)
    refine wpAny_getItem_list_slice ht.isList (Heap.IsSliceOf.new _ vl vu vs) pl pu ps (by decide) ?_ (by rw [List.size_toArray]; omega)
    rw [PySem.W.krv_pick]
    refine ⟨.ref _, _, I5.laid (t' := s4.toks) (o := .lst xs.reverse) (fun b ob q => Heap.get?_push_of_some _ q) (Nat.le_refl _) ?_, rfl, q _ (I5.hok.fresh (Nat.le_refl _))⟩
    exact ⟨by rw [List.length_reverse]; exact hz, _, 0, r.reverse, Heap.get?_push_size _ rfl⟩
  · obtain ⟨its, r, ht, hz⟩ := I5.tuple hx
    have hlen := r.length
    cases pl
    cases pu
    refine tail_any (ops := [.ref a, .ref s4.heap.objs.size]) ht.typeIs (PyProof.Rows.slot_tuple_getitem.lookup) ?_ (by with_unfolding_all rfl)
    refine getItem_tuple_rev ht (Heap.IsSliceOf.new _ .none .none vs) ps ?_ (by omega)
    refine ⟨.ref _, _, I5.laid (t' := s4.toks) (o := .tup xs.reverse) (fun b ob q => Heap.get?_push_of_some _ q) (Nat.le_refl _) ?_, rfl, q _ (I5.hok.fresh (Nat.le_refl _))⟩
    exact ⟨by rw [List.length_reverse]; exact hz, _, r.reverse, ⟨_, Heap.get?_push_size _ rfl, rfl, 0, rfl⟩⟩
end
def gRevB : D → Option SV
  | .lst ds => some (.ow ds.reverse)
  | .scr ds => some (.ow ds.reverse)
  | .tup ds => some (.sh (.tup ds.reverse))
  | _ => none
section
variable {X : Cx} {T : Tb} {W : WX}
theorem de_revB {e : Expr} {fe : DL.Env → Res SV} {k : Nat} {p1 p2 p3 pos : Pos} (he : PE X e (rd X.K T W fe)) : PE X (.Subscript e (.Slice none none (some (.UnaryOp .USub (.Constant (.int 1) k p1) p2)) p3) pos) (rd X.K T W (f1 gRevB fe)) :=
  PEimp (pe_revT he) fun σ H Q ⟨F0, G, F, δ, E, h⟩ => rd_bind E h fun x s F1 H1 p1 r1 h1 => by
    have b := r1.b p1.fh
    cases q : gRevB s.d with
    | none => rw [q] at h1; exact h1.elim
    | some z =>
      rw [q] at h1
      have h2 := h1.later p1
      unfold gRevB at q
      split at q
      · rename_i ds e
        cases q
        rw [e] at b
        obtain ⟨a, vs, rfl, g1, g2⟩ := b
        exact ⟨a, vs, rfl, .inl ⟨SqL.of g1, fun p hp => gives_end (gives_lst p1.fh hp g2.rev) h2⟩⟩
      · rename_i ds e
        cases q
        rw [e] at b
        cases b with
        | scr g1 g2 => exact ⟨_, _, rfl, .inl ⟨sqL_mono p1.fh g1, fun p hp => gives_end (gives_lst p1.fh hp g2.rev) h2⟩⟩
      · rename_i ds e
        cases q
        rw [e] at b
        cases b with
        | tup g1 g2 => exact ⟨_, _, rfl, .inr ⟨sqT_mono p1.fh g1, fun p hp => gives_end (gives_tup p1.fh hp g2.rev) h2⟩⟩
      · cases q
end
end DL
end

section
set_option Elab.async false
set_option linter.all false
set_option autoImplicit false
set_option maxRecDepth 100000
set_option maxHeartbeats 4000000
/-! list(zip(t, u)) of two tuples: the pairs are kept, so each is a new tuple -/
namespace DLZ
open PySem
/-- the objects of a zip of two tuples, i pairs told -/
structure ZSt (z TI TO i1 i2 l1 l2 : Addr) (i : Nat) (h : Heap) : Prop where
  ti : IsPair h TI (.ref i1) (.ref i2)
  u1 : h.IsTupleIter i1 l1 i
  u2 : h.IsTupleIter i2 l2 i
  out : (i = 0 ∧ IsZip h z TI TO .none ∧ ∃ a b, IsPair h TO a b) ∨ ∃ T f oT, IsZipHeld h z TI TO T f ∧ h.get? T = some oT ∧ oT.cls = .type "tuple" ∧ T ≠ z ∧ T ≠ i1 ∧ T ≠ i2
section
variable {prog : Program} {w : World} {A : Around} {E : Value → Shared → Prop} {s : Shared} {z TI TO i1 i2 l1 l2 : Addr} {i : Nat} {xs ys : Array Value} {Q : Option Value → Shared → Prop}
/-- one turn, the tuple of an earlier turn still out -/
theorem turn_held {T : Addr} {f : Bool} {oT : Obj} (hh : A.handled = none) (D : ZipApart z TI TO i1 i2 l1 l2) (hz : IsZipHeld s.heap z TI TO T f) (hT : s.heap.get? T = some oT) (tc : oT.cls = .type "tuple") (tz : T ≠ z) (t1 : T ≠ i1) (t2 : T ≠ i2) (hTI : IsPair s.heap TI (.ref i1) (.ref i2))
    (h1 : s.heap.IsTupleIter i1 l1 i) (h2 : s.heap.IsTupleIter i2 l2 i) (hl1 : s.heap.IsTuple l1 xs) (hl2 : s.heap.IsTuple l2 ys)
    (go : ∀ x y h', xs[i]? = some x → ys[i]? = some y → ZSt z TI TO i1 i2 l1 l2 (i + 1) h' → IsPair h' s.heap.objs.size x y → h'.objs.size = s.heap.objs.size + 1 → (∀ c o, c ∉ [z, TO, i1, i2] → s.heap.get? c = some o → h'.get? c = some o) → Q (some (.ref s.heap.objs.size)) { s with heap := h' })
    (no : ∀ h', (xs[i]? = none ∨ ys[i]? = none) → (∀ c o, c ∉ [z, TO, i1, i2] → s.heap.get? c = some o → h'.get? c = some o) → Q none { s with heap := h' }) : wpAny (model prog w) A (pyNext (.ref z)) Q E s := by
  have ty : s.TypeIs (.ref z) "zip" := ⟨_, hz, rfl⟩
  have ap : ∀ c, c ∉ [z, TO, i1, i2] → c ≠ z ∧ c ≠ i1 ∧ c ≠ i2 := fun c hc => ⟨fun q => hc (by simp [q]), fun q => hc (by simp [q]), fun q => hc (by simp [q])⟩
  unfold pyNext
  refine wpAny_bind (wpAny_attempt (wpAny_callSpecial?_slot (name := Str.ofString "__next__") ty F.slot_zip_next (wpAny_call_entry F.slot_zip_next ty F.entry_zip_next ?_ (F.args_zip_next_1 _))))
  refine (show wpAny _ _ (field (.ref z) 2 >>= _) _ _ _ from wpAny_bind (wpAny_field hz rfl (x := .bool false) rfl (show wpAny _ _ (field (.ref z) 3 >>= _) _ _ _ from wpAny_bind (wpAny_field hz rfl (x := .ref TI) rfl (wpAny_bind (wpAny_seqItems hTI rfl (show wpAny _ _ (Builtin.SmallTypes.ownedTupleIsFree (.ref z) >>= _) _ _ _ from wpAny_bind (wpAny_tupleHeld_zip hz hT fun ha za sa => ?_))))))))
  simp only [Bool.false_eq_true, if_false]
  have g1 := h1.extBut sa.extBut D.i1z
  have m1 := hl1.extBut sa.extBut D.l1z
  have g2 := h2.extBut sa.extBut D.i2z
  have m2 := hl2.extBut sa.extBut D.l2z
  refine wpAny_bind ?_
  rw [← Array.forIn_toList]
  simp only [List.forIn_cons, List.forIn_nil]
  refine wpAny_bind (wpAny_bind (wpAny_holding (show wpAny _ _ (Builtin.SmallTypes.nextOf (.ref i1) >>= _) _ _ _ from ?_)))
  cases hx : xs[i]? with
  | none => exact wpAny_bind (RZ.nextOf_tuple_end (s := { s with heap := ha }) hh g1 m1 hx fun hb e sb ⟨o, ho, hc⟩ => wpAny_bind (wpAny_isInstance (T := "StopIteration") (b := true) ⟨o, ho, hc⟩ isSubtype_stop (wpAny_pure (no hb (.inl hx) fun c o hc q => sb _ _ (ap c hc).2.1 (sa.extBut _ _ (ap c hc).1 q)))))
  | some x =>
    refine wpAny_bind (RZ.nextOf_tuple_item (s := { s with heap := ha }) g1 m1 hx fun hb v1 sb => wpAny_pure (wpAny_pure (wpAny_bind (wpAny_bind (wpAny_holding (show wpAny _ _ (Builtin.SmallTypes.nextOf (.ref i2) >>= _) _ _ _ from ?_))))))
    have g3 := g2.extBut sb.extBut D.i12.symm
    have m3 := m2.extBut sb.extBut D.l2i1
    cases hy : ys[i]? with
    | none => exact wpAny_bind (RZ.nextOf_tuple_end (s := { s with heap := hb }) hh g3 m3 hy fun hd e sd ⟨o, ho, hc⟩ => wpAny_bind (wpAny_isInstance (T := "StopIteration") (b := true) ⟨o, ho, hc⟩ isSubtype_stop (wpAny_pure (no hd (.inr hy) fun c o hc q => sd _ _ (ap c hc).2.2 (sb.extBut _ _ (ap c hc).2.1 (sa.extBut _ _ (ap c hc).1 q))))))
    | some y =>
      refine wpAny_bind (RZ.nextOf_tuple_item (s := { s with heap := hb }) g3 m3 hy fun hd v2 sd => wpAny_pure (wpAny_pure (wpAny_pure (show wpAny _ _ (newTuple [x, y] >>= _) _ _ _ from wpAny_bind (wpAny_newTuple (wpAny_pure ⟨_, rfl, wpAny_pure ?_⟩))))))
      have up : ∀ c o, c ≠ z → c ≠ i1 → c ≠ i2 → s.heap.get? c = some o → (hd.push { cls := .type "tuple", data := .seq #[x, y] }).get? c = some o := fun c o c1 c2 c3 q => Heap.get?_push_of_some _ (sd.extBut _ _ c3 (sb.extBut _ _ c2 (sa.extBut _ _ c1 q)))
      have sz : hd.objs.size = s.heap.objs.size := by rw [sd.1, sb.1, sa.1]
      have zz : IsZipHeld hd z TI TO T true := sd.extBut _ _ D.i2z.symm (sb.extBut _ _ D.i1z.symm za)
      have w1 : hd.IsTupleIter i1 l1 (i + 1) := v1.extBut sd.extBut D.i12
      have nw : IsPair (hd.push { cls := .type "tuple", data := .seq #[x, y] }) hd.objs.size x y := Heap.get?_push_size _ rfl
      show Q (some (.ref hd.objs.size)) _
      rw [sz] at nw ⊢
      exact go x y _ hx hy ⟨up _ _ D.TIz D.TIi1 D.TIi2 hTI, w1.at fun o q => Heap.get?_push_of_some _ q, v2.at fun o q => Heap.get?_push_of_some _ q, .inr ⟨T, true, oT, Heap.get?_push_of_some _ zz, up _ _ tz t1 t2 hT, tc, tz, t1, t2⟩⟩ nw (by rw [Heap.size_push, sz]) fun c o hc q => up c o (ap c hc).1 (ap c hc).2.1 (ap c hc).2.2 q
/-- one turn -/
theorem turn_any (hh : A.handled = none) (D : ZipApart z TI TO i1 i2 l1 l2) (st : ZSt z TI TO i1 i2 l1 l2 i s.heap) (hl1 : s.heap.IsTuple l1 xs) (hl2 : s.heap.IsTuple l2 ys)
    (go : ∀ x y h', xs[i]? = some x → ys[i]? = some y → ZSt z TI TO i1 i2 l1 l2 (i + 1) h' → IsPair h' s.heap.objs.size x y → h'.objs.size = s.heap.objs.size + 1 → (∀ c o, c ∉ [z, TO, i1, i2] → s.heap.get? c = some o → h'.get? c = some o) → Q (some (.ref s.heap.objs.size)) { s with heap := h' })
    (no : ∀ h', (xs[i]? = none ∨ ys[i]? = none) → (∀ c o, c ∉ [z, TO, i1, i2] → s.heap.get? c = some o → h'.get? c = some o) → Q none { s with heap := h' }) : wpAny (model prog w) A (pyNext (.ref z)) Q E s := by
  have ap : ∀ c, c ∉ [z, TO, i1, i2] → c ≠ z ∧ c ≠ TO ∧ c ≠ i1 ∧ c ≠ i2 := fun c hc => ⟨fun q => hc (by simp [q]), fun q => hc (by simp [q]), fun q => hc (by simp [q]), fun q => hc (by simp [q])⟩
  rcases st.out with ⟨i0, hz, a, b, hTO⟩ | ⟨T, f, oT, hz, hT, tc, tz, t1, t2⟩
  · by_cases e : xs[i]? = none ∨ ys[i]? = none
    · exact RZ.pyNext_zipT_end hh D hz st.ti hTO st.u1 st.u2 hl1 hl2 e fun h' k => no h' e fun c o hc q => k c o (ap c hc).1 (ap c hc).2.1 (ap c hc).2.2.1 (ap c hc).2.2.2 q
    · cases hx : xs[i]? with
      | none => exact absurd (.inl hx) e
      | some x =>
        cases hy : ys[i]? with
        | none => exact absurd (.inr hy) e
        | some y =>
          have lz : z < s.heap.objs.size := Heap.lt_size hz
          have l1' : i1 < s.heap.objs.size := by obtain ⟨_, q, _⟩ := st.u1; exact Heap.lt_size q
          have l2' : i2 < s.heap.objs.size := by obtain ⟨_, q, _⟩ := st.u2; exact Heap.lt_size q
          exact RZ.pyNext_zipT_item D hz st.ti hTO st.u1 st.u2 hl1 hl2 hx hy fun h' z' o' v1 v2 nw sz k => go x y h' hx hy ⟨k _ _ D.TIz D.TITO D.TIi1 D.TIi2 st.ti, v1, v2, .inr ⟨_, false, _, z', nw, rfl, Nat.ne_of_gt lz, Nat.ne_of_gt l1', Nat.ne_of_gt l2'⟩⟩ nw sz fun c o hc q => k c o (ap c hc).1 (ap c hc).2.1 (ap c hc).2.2.1 (ap c hc).2.2.2 q
  · exact turn_held hh D hz hT tc tz t1 t2 st.ti st.u1 st.u2 hl1 hl2 go no
end
theorem zip_no_len : typeLookup (.type "zip") "__len__" = pure none := by rw [typeLookup_type, builtinLookup_eq_fast]; kernel_rfl
theorem zip_no_hint : typeLookup (.type "zip") "__length_hint__" = pure none := by rw [typeLookup_type, builtinLookup_eq_fast]; kernel_rfl
def lstO (Ts : List Addr) (c : Nat) : Obj := { cls := .type "list", dict := none, data := .seq (Ts.map Value.ref).toArray c, slots := #[] }
/-- the list S holds the tuples Ts, one a turn; h0: the heap as the list was laid, S its size -/
structure LSt (z TO i1 i2 : Addr) (xs ys : Array Value) (h0 : Heap) (Ts : List Addr) (c : Nat) (h : Heap) : Prop where
  prs : ∀ (k : Nat) (T : Addr) (x y : Value), Ts[k]? = some T → xs[k]? = some x → ys[k]? = some y → IsPair h T x y
  fresh : ∀ T ∈ Ts, h0.objs.size < T
  nd : Ts.Nodup
  lst : h.get? h0.objs.size = some (lstO Ts c)
  old : ∀ b o, b ∉ [z, TO, i1, i2] → h0.get? b = some o → h.get? b = some o
theorem ZSt.keep {z TI TO i1 i2 l1 l2 S : Addr} {i : Nat} {h h' : Heap} {l : Obj} (st : ZSt z TI TO i1 i2 l1 l2 i h) (hl : h.get? S = some l) (lc : l.cls = .type "list") (k : ∀ b o, b ≠ S → h.get? b = some o → h'.get? b = some o) : ZSt z TI TO i1 i2 l1 l2 i h' := by
  have ne : ∀ b o, h.get? b = some o → o.cls ≠ .type "list" → b ≠ S := fun b o q n z => by
    rw [z, hl] at q
    cases q
    exact n lc
  have tk : ∀ b o, h.get? b = some o → o.cls ≠ .type "list" → h'.get? b = some o := fun b o q n => k b o (ne b o q n) q
  refine ⟨tk _ _ st.ti (by simp), st.u1.at fun o q => ?_, st.u2.at fun o q => ?_, ?_⟩
  · obtain ⟨o', q', c', _⟩ := st.u1
    rw [q'] at q
    cases q
    exact tk _ _ q' (by rw [c']; simp)
  · obtain ⟨o', q', c', _⟩ := st.u2
    rw [q'] at q
    cases q
    exact tk _ _ q' (by rw [c']; simp)
  · rcases st.out with ⟨i0, hz, a, b, hTO⟩ | ⟨T, f, oT, hz, hT, tc, tz, t1, t2⟩
    · exact .inl ⟨i0, tk _ _ hz (by simp), a, b, tk _ _ hTO (by simp)⟩
    · exact .inr ⟨T, f, oT, tk _ _ hz (by simp), tk _ _ hT (by rw [tc]; simp), tc, tz, t1, t2⟩
section
variable {prog : Program} {w : World} {A : Around} {E : Value → Shared → Prop} {z TI TO i1 i2 l1 l2 : Addr} {xs ys : Array Value} {R : Result → Shared → Prop} {h0 : Heap}
theorem LSt.keep {h h' : Heap} {Ts : List Addr} {c : Nat} (low : ∀ b ∈ [z, TO, i1, i2], b < h0.objs.size) (st : LSt z TO i1 i2 xs ys h0 Ts c h) (k : ∀ b o, b ∉ [z, TO, i1, i2] → h.get? b = some o → h'.get? b = some o) : LSt z TO i1 i2 xs ys h0 Ts c h' where
  prs := fun j T x y hT hx hy => k _ _ (fun m => Nat.lt_irrefl _ (Nat.lt_trans (low _ m) (st.fresh T (List.mem_of_getElem? hT)))) (st.prs j T x y hT hx hy)
  fresh := st.fresh
  nd := st.nd
  lst := k _ _ (fun m => Nat.lt_irrefl _ (low _ m)) st.lst
  old := fun b o hb q => k _ _ hb (st.old b o hb q)
theorem loop (hh : A.in1.handled = none) (D : ZipApart z TI TO i1 i2 l1 l2) (hl1 : h0.IsTuple l1 xs) (hl2 : h0.IsTuple l2 ys) (a1 : l1 ∉ [z, TO, i1, i2]) (a2 : l2 ∉ [z, TO, i1, i2]) (low : ∀ b ∈ [z, TO, i1, i2], b < h0.objs.size) (hn : xs.size ≤ sizeLine) (res : Value) (g : Array GenState) (d : Drawn) (tk : Nat) (os : OsState)
    (hR : ∀ (Ts : List Addr) (c : Nat) (h : Heap), LSt z TO i1 i2 xs ys h0 Ts c h → Ts.length = min xs.size ys.size → R (.ok (.ret res)) ⟨h, g, d, tk, os⟩) :
    ∀ (m : Nat) (Ts : List Addr) (c : Nat) (h : Heap), min xs.size ys.size - Ts.length = m → Ts.length ≤ min xs.size ys.size → ZSt z TI TO i1 i2 l1 l2 Ts.length h → (∀ T ∈ Ts, T < h.objs.size) → LSt z TO i1 i2 xs ys h0 Ts c h → codeAny (model prog w) A (.builtin "list.extend.loop" ⟨[.ref h0.objs.size, .ref z, res], []⟩) R ⟨h, g, d, tk, os⟩
  | m, Ts, c, h, em, le, zs0, up, st => by
    refine codeAny_builtin F.entry_extend_loop ?_
    rw [Around.under_plainId F.plain_extend_loop _]
    have t1 : Heap.IsTuple h l1 xs := hl1.at fun o q => st.old _ o a1 q
    have t2 : Heap.IsTuple h l2 ys := hl2.at fun o q => st.old _ o a2 q
    refine (show wpAny _ A.in1 (pyNext (.ref z) >>= _) _ _ _ from wpAny_bind (turn_any (i := Ts.length) (s := ⟨h, g, d, tk, os⟩) hh D zs0 t1 t2 (fun x y h' hx hy zs nw sz k => ?_) fun h' hno k => ?_))
    · have sz : h'.objs.size = h.objs.size + 1 := sz
      have nw : IsPair h' h.objs.size x y := nw
      have k : ∀ (b : Addr) (o : Obj), b ∉ [z, TO, i1, i2] → h.get? b = some o → h'.get? b = some o := k
      have lt1 := (Array.getElem?_eq_some_iff.mp hx).1
      have lt2 := (Array.getElem?_eq_some_iff.mp hy).1
      have st1 := st.keep low k
      have hS : h0.objs.size < h.objs.size := Heap.lt_size st.lst
      have nS : h.objs.size ≠ h0.objs.size := Nat.ne_of_gt hS
      have oth : ∀ b o, b ≠ h0.objs.size → h'.get? b = some o → (h'.update h0.objs.size (Obj.mapSeq (·.push (Value.ref h.objs.size)))).get? b = some o := fun b o hb q => (Heap.get?_update_other _ _ (Ne.symm hb)).trans q
      have nl : ∃ c', (h'.update h0.objs.size (Obj.mapSeq (·.push (Value.ref h.objs.size)))).get? h0.objs.size = some (lstO (Ts ++ [h.objs.size]) c') := by
        have e := Heap.get?_update_self (Obj.mapSeq (·.push (Value.ref h.objs.size))) st1.lst rfl
        rw [e]
        unfold lstO
        simp only [Obj.mapSeq, List.map_append, List.map_cons, List.map_nil, List.push_toArray]
        exact ⟨_, rfl⟩
      obtain ⟨c', nl⟩ := nl
      have zk := zs.keep st1.lst rfl oth
      have sz2 : (h'.update h0.objs.size (Obj.mapSeq (·.push (Value.ref h.objs.size)))).objs.size = h.objs.size + 1 := by rw [Heap.size_update, sz]
      have st' : LSt z TO i1 i2 xs ys h0 (Ts ++ [h.objs.size]) c' (h'.update h0.objs.size (Obj.mapSeq (·.push (Value.ref h.objs.size)))) := {
        prs := fun j T x' y' hT hx' hy' => by
          by_cases hj : j < Ts.length
          · rw [List.getElem?_append_left hj] at hT
            exact oth _ _ (Nat.ne_of_gt (st.fresh T (List.mem_of_getElem? hT))) (st1.prs j T x' y' hT hx' hy')
          · rw [List.getElem?_append_right (by omega)] at hT
            have e0 : j - Ts.length = 0 := by
              have := (List.getElem?_eq_some_iff.mp hT).1
              simp at this
              omega
            rw [e0] at hT
            cases hT
            have ej : j = Ts.length := by omega
            subst ej
            rw [hx] at hx'
            rw [hy] at hy'
            cases hx'
            cases hy'
            exact oth _ _ nS nw
        fresh := fun T m => by
          rcases List.mem_append.mp m with m | m
          · exact st.fresh T m
          · rw [List.mem_singleton] at m
            rw [m]; exact hS
        nd := by
          rw [List.nodup_append]
          refine ⟨st.nd, by simp, fun a ha b hb => ?_⟩
          rw [List.mem_singleton] at hb
          rw [hb]
          exact Nat.ne_of_lt (up a ha)
        lst := nl
        old := fun b o hb q => oth _ _ (Nat.ne_of_lt (Heap.lt_size q)) (st1.old b o hb q) }
      have len : (Ts.map Value.ref).toArray.size = Ts.length := by simp
      have le1 : (Ts ++ [h.objs.size]).length ≤ min xs.size ys.size := by rw [List.length_append, List.length_singleton]; omega
      have up1 : ∀ T ∈ Ts ++ [h.objs.size], T < (h'.update h0.objs.size (Obj.mapSeq (·.push (Value.ref h.objs.size)))).objs.size := fun T m => by
        rw [sz2]
        rcases List.mem_append.mp m with m | m
        · exact Nat.lt_succ_of_lt (up T m)
        · rw [List.mem_singleton] at m
          rw [m]
          exact Nat.lt_succ_self _
      have s1 : (Ts.map Value.ref).toArray.size ≤ sizeLine := by rw [len]; omega
      have s2 : ((Ts.map Value.ref).toArray.push (Value.ref h.objs.size)).size ≤ sizeLine + 1 := by rw [Array.size_push, len]; omega
      have zk1 : ZSt z TI TO i1 i2 l1 l2 (Ts ++ [h.objs.size]).length (h'.update h0.objs.size (Obj.mapSeq (·.push (Value.ref h.objs.size)))) := by rw [List.length_append, List.length_singleton]; exact zk
      exact (show wpAny _ A.in1 (updateSeq h0.objs.size (·.push (.ref h.objs.size)) >>= _) _ _ _ from wpAny_bind (wpAny_updateSeq (n := c) st1.lst rfl (wpAny_pure ⟨plainId_quiet F.plain_extend_loop _, loop hh D hl1 hl2 a1 a2 low hn res g d tk os hR _ (Ts ++ [h.objs.size]) c' _ rfl le1 zk1 up1 st'⟩) s1 s2))
    · refine wpAny_pure (hR Ts c h' (st.keep low k) ?_)
      rcases hno with q | q
      · have := Array.getElem?_eq_none_iff.mp q
        omega
      · have := Array.getElem?_eq_none_iff.mp q
        omega
  termination_by m => m
  decreasing_by
    rw [List.length_append, List.length_singleton]
    omega
end
section
variable {prog : Program} {w : World} {A : Around} {E : Value → Shared → Prop} {s : Shared} {z TI TO i1 i2 l1 l2 : Addr} {xs ys : Array Value}
theorem call_list_zip {Q : Value → Shared → Prop} (hh : A.in1.in1.handled = none) (D : ZipApart z TI TO i1 i2 l1 l2) (st : ZSt z TI TO i1 i2 l1 l2 0 s.heap) (hl1 : s.heap.IsTuple l1 xs) (hl2 : s.heap.IsTuple l2 ys) (a1 : l1 ∉ [z, TO, i1, i2]) (a2 : l2 ∉ [z, TO, i1, i2]) (low : ∀ b ∈ [z, TO, i1, i2], b < s.heap.objs.size) (hz : IsZip s.heap z TI TO .none) (hn : xs.size ≤ sizeLine)
    (hQ : ∀ (Ts : List Addr) (c : Nat) (h : Heap), LSt z TO i1 i2 xs ys s.heap Ts c h → Ts.length = min xs.size ys.size → Q (.ref s.heap.objs.size) { s with heap := h }) : wpAny (model prog w) A (call (.type "list") [.ref z]) Q E s := by
  obtain ⟨h0, g, d, tk, os⟩ := s
  have zS : z ≠ h0.objs.size := Nat.ne_of_lt (low z (by simp))
  refine callType_codes (Q₁ := fun obj s₁ => obj = .ref h0.objs.size ∧ s₁ = ⟨h0.push { cls := .type "list", data := .seq #[] }, g, d, tk, os⟩) F.called_list (F.typeCall_list_1 _) F.entry_list_init (code_list_new _ ⟨rfl, rfl⟩) fun obj s₁ e₁ => ?_
  obtain ⟨rfl, rfl⟩ := e₁
  have at0 : (h0.push { cls := .type "list", data := .seq #[] }).get? h0.objs.size = some { cls := .type "list", data := .seq #[] } := Heap.get?_push_size _ rfl
  have up0 : ∀ b o, h0.get? b = some o → (h0.push { cls := .type "list", data := .seq #[] }).get? b = some o := fun b o q => Heap.get?_push_of_some _ q
  refine ⟨⟨_, at0, rfl⟩, F.args_list_init_2 _ _, ?_⟩
  -- the list is emptied, then made longer
  have at1 := Heap.get?_update_self (Obj.mapSeq fun _ => (#[] : Array Value)) at0 rfl
  have at2 := Heap.get?_update_self (Obj.mapSeq (·.push Value.none)) at1 rfl
  have at3 := Heap.get?_update_self (Obj.mapSeq (·.pop)) at2 rfl
  have up3 : ∀ b o, b ≠ h0.objs.size → h0.get? b = some o → ((((h0.push { cls := .type "list", data := .seq #[] }).update h0.objs.size (Obj.mapSeq fun _ => (#[] : Array Value))).update h0.objs.size (Obj.mapSeq (·.push Value.none))).update h0.objs.size (Obj.mapSeq (·.pop))).get? b = some o := fun b o hb q =>
    (Heap.get?_update_other _ _ (Ne.symm hb)).trans ((Heap.get?_update_other _ _ (Ne.symm hb)).trans ((Heap.get?_update_other _ _ (Ne.symm hb)).trans (up0 b o q)))
  have upl : ∀ b o, h0.get? b = some o → ((((h0.push { cls := .type "list", data := .seq #[] }).update h0.objs.size (Obj.mapSeq fun _ => (#[] : Array Value))).update h0.objs.size (Obj.mapSeq (·.push Value.none))).update h0.objs.size (Obj.mapSeq (·.pop))).get? b = some o := fun b o q => up3 b o (Nat.ne_of_lt (Heap.lt_size q)) q
  have zy : ∀ h : Heap, (∀ b o, b ≠ h0.objs.size → h0.get? b = some o → h.get? b = some o) → Shared.TypeIs ⟨h, g, d, tk, os⟩ (.ref z) "zip" := fun h k => ⟨_, k z _ zS hz, rfl⟩
  have k1 : ∀ b o, b ≠ h0.objs.size → h0.get? b = some o → ((h0.push { cls := .type "list", data := .seq #[] }).update h0.objs.size (Obj.mapSeq fun _ => (#[] : Array Value))).get? b = some o := fun b o hb q => (Heap.get?_update_other _ _ (Ne.symm hb)).trans (up0 b o q)
  refine (show wpAny _ A.in1.in1 (do let old ← Builtin.List.listItems (.ref h0.objs.size); Builtin.List.listUpdate (.ref h0.objs.size) (fun _ => #[]); letGo old.toList.reverse; Builtin.List.listExtendWith (.ref h0.objs.size) (.ref z) .none) _ _ _ from wpAny_bind ?_)
  unfold Builtin.List.listItems
  refine wpAny_bind (wpAny_seqItems at0 rfl (wpAny_pure (show wpAny _ A.in1.in1 (updateSeq h0.objs.size (fun _ => #[]) >>= fun _ => letGo (#[] : Array Value).toList.reverse >>= fun _ => Builtin.List.listExtendWith (.ref h0.objs.size) (.ref z) .none) _ _ _ from wpAny_bind (wpAny_updateSeq at0 rfl (wpAny_bind (wpAny_letGo ?_))))))
  unfold Builtin.List.listExtendWith
  refine wpAny_bind (wpAny_typeOf (zy _ k1) ?_)
  have n1 : Builtin.List.listSameRef (.ref h0.objs.size) (.ref z) = false := by simp [Builtin.List.listSameRef, Ne.symm zS]
  have n2 : (Value.type "zip" == Value.type "list") = false := by decide
  have n3 : (Value.type "zip" == Value.type "tuple") = false := by decide
  simp only [n1, n2, n3, Bool.or_false, Bool.false_eq_true, if_false]
  refine wpAny_bind (wpAny_pyIter_zip (k1 z _ zS hz) (wpAny_bind (wpAny_holding ?_)))
  unfold Builtin.List.listLengthHint
  refine wpAny_bind (wpAny_specialOf (zy _ k1) zip_no_len (show wpAny _ _ (specialOf (Value.ref z) (Str.ofString "__length_hint__") >>= _) _ _ _ from wpAny_bind (wpAny_specialOf (zy _ k1) zip_no_hint (wpAny_pure ?_))))
  refine (show wpAny _ _ (rule "list.extend.makes-room" >>= fun _ => Builtin.List.listTouch (.ref h0.objs.size) >>= fun _ => again (.builtin "list.extend.loop" ⟨[.ref h0.objs.size, .ref z, .none], []⟩)) _ _ _ from wpAny_bind (wpAny_rule (wpAny_bind ?_)))
  refine (show wpAny _ _ (updateSeq h0.objs.size (·.push .none) >>= fun _ => updateSeq h0.objs.size (·.pop)) _ _ _ from wpAny_bind (wpAny_updateSeq at1 rfl (wpAny_updateSeq (hz := by seq_fits) at2 rfl ?_)))
  refine wpAny_pure ⟨plainId_quiet F.plain_extend_loop _, ?_⟩
  have ls : ∃ c, ((((h0.push { cls := .type "list", data := .seq #[] }).update h0.objs.size (Obj.mapSeq fun _ => (#[] : Array Value))).update h0.objs.size (Obj.mapSeq (·.push Value.none))).update h0.objs.size (Obj.mapSeq (·.pop))).get? h0.objs.size = some (lstO [] c) := by
    rw [at3]
    exact ⟨_, rfl⟩
  obtain ⟨c, ls⟩ := ls
  have zk : ZSt z TI TO i1 i2 l1 l2 0 ((((h0.push { cls := .type "list", data := .seq #[] }).update h0.objs.size (Obj.mapSeq fun _ => (#[] : Array Value))).update h0.objs.size (Obj.mapSeq (·.push Value.none))).update h0.objs.size (Obj.mapSeq (·.pop))) := by
    refine ⟨upl _ _ st.ti, st.u1.at fun o q => upl _ o q, st.u2.at fun o q => upl _ o q, ?_⟩
    rcases st.out with ⟨i0, hz, a, b, hTO⟩ | ⟨T, f, oT, hz, hT, r⟩
    · exact .inl ⟨i0, upl _ _ hz, a, b, upl _ _ hTO⟩
    · exact .inr ⟨T, f, oT, upl _ _ hz, upl _ _ hT, r⟩
  exact loop hh D hl1 hl2 a1 a2 low hn .none g d tk os (fun Ts c h l e => ⟨rfl, hQ Ts c h l e⟩) _ [] c _ rfl (Nat.zero_le _) zk (fun T m => (nomatch m)) ⟨fun k T x y hT => (by simp at hT), fun T m => (nomatch m), List.nodup_nil, ls, fun b o _ q => upl b o q⟩
end
end DLZ
end

section
set_option Elab.async false
set_option linter.all false
set_option autoImplicit false
set_option maxRecDepth 100000
set_option maxHeartbeats 4000000
namespace DLZ
open PySem PySem.Spec PyProof.Rows L2
/-! ### list(zip(t, u)) over the hand's heap -/
def addT (H : Hp) : List (Addr × V × V) → Hp
  | [] => H
  | (T, x, y) :: r => addT (upd H T (.tup [x, y])) r
theorem addT_out {b : Addr} : ∀ (L : List (Addr × V × V)) (H : Hp), b ∉ L.map (·.1) → addT H L b = H b
  | [], _, _ => rfl
  | (T, x, y) :: r, H, n => by
    rw [List.map_cons, List.mem_cons, not_or] at n
    exact (addT_out r _ n.2).trans (upd_ne n.1)
theorem addT_in {b : Addr} {x y : V} : ∀ (L : List (Addr × V × V)) (H : Hp), (L.map (·.1)).Nodup → (b, x, y) ∈ L → addT H L b = some (.tup [x, y])
  | (T, u, v) :: r, H, nd, m => by
    rw [List.map_cons, List.nodup_cons] at nd
    rcases List.mem_cons.mp m with e | m
    · cases e
      exact (addT_out r _ nd.1).trans upd_same
    · exact addT_in r _ nd.2 m
section
variable {X : Cx} {pins : List (Addr × Obj)} {σ : L2.St} {H H' : Hp} {s : Shared} {h' : Heap}
/-- many new objects at once -/
theorem inv_more (I : Inv X pins σ H s) (k : ∀ b o, s.heap.get? b = some o → h'.get? b = some o) (ext : ∀ b o, H b = some o → H' b = some o) (nw : ∀ b o, H b = none → H' b = some o → s.heap.objs.size ≤ b ∧ ObjOk X.prog X.w H' h' b o) : Inv X pins σ H' { s with heap := h' } := by
  refine I.un (t' := s.toks) ⟨fun b o q _ _ _ => k b o q, fun b o q _ _ _ => ⟨o.slots, k b o q⟩, fun b o q n _ => ?_, fun b o q _ => ⟨o, k b o q⟩, fun b xs q => ext b _ q, fun b o u q => ext b _ q, fun b ps q => ⟨#[], by rw [ext b _ q]; simp⟩⟩ fun b o q => ?_
  · cases e : H' b with
    | none => rfl
    | some u => exact absurd (Nat.lt_of_lt_of_le (Heap.lt_size q) (nw b u n e).1) (Nat.lt_irrefl _)
  · cases e : H b with
    | none => exact (nw b o e q).2
    | some u =>
      have := ext b u e
      rw [this] at q
      cases q
      exact (I.hok b _ e).stay (fun c v _ z => k c v z) (fun c z => ext c _ z) fun c xs z => ext c _ z
theorem vals_refs : ∀ Ts : List Addr, Vals (Ts.map V.ref) (Ts.map Value.ref)
  | [] => .nil
  | _ :: Ts => .cons rfl (vals_refs Ts)
def tListZip (K : PySem.W.Frag) (ta : TA) : TE := fun σ H Q => ta σ H fun vs H1 => ∃ a b xs ys, vs = [.ref a, .ref b] ∧ SqT K H1 a xs ∧ SqT K H1 b ys ∧
  ∀ (Ts : List Addr) (p : Addr), (p :: Ts).Nodup → (∀ T ∈ p :: Ts, H1 T = none) → Ts.length = min xs.length ys.length → Q (.ref p) (upd (addT H1 (Ts.zip (xs.zip ys))) p (.lst (Ts.map V.ref)))
theorem pe_listZip {e e2 : Expr} {ta : TA} {p p2 q pos : Pos} (hc : X.calm = true) (hg : Gl X "list") (hm : X.mg "list" = none) (hg2 : Gl X "zip") (hm2 : X.mg "zip" = none) (ha : PA X [e, e2] ta)
    (hs : starEach [e, e2] X.env = (false, eval e X.env) :: starEach [e2] X.env := by rfl) (hpl : (backTo q (starEach [e2] X.env)).any (·.1) = false := by rfl)
    (nb : starEach [.Call (.Name "zip" p2) [e, e2] [] q] X.env = (false, eval (.Call (.Name "zip" p2) [e, e2] [] q) X.env) :: starEach [] X.env := by rfl) :
    PE X (.Call (.Name "list" p) [.Call (.Name "zip" p2) [e, e2] [] q] [] pos) (tListZip X.K ta) := by
  refine ⟨fun pins s σ H Q I h => Call_ (ld_blt I hg hm boot_list (PyProof.Rows.callWith_type1 (PyProof.Rows.args_cons (Call_ (ld_blt I hg2 hm2 boot_zip (PyProof.Rows.callWith_type1 (thn (ha.run q pins s σ H _ I h) fun us s1 ⟨vs, H1, I1, r1, q1⟩ => ?_) hs hpl))) nb) nb rfl))⟩
  obtain ⟨a, b, xs, ys, ex, hx, hy, q1⟩ := q1
  subst ex
  cases r1 with
  | cons r rr =>
    cases rr with
    | cons r' rr =>
      cases rr
      cases r
      cases r'
      obtain ⟨its, rv, pa, hz1⟩ := I1.tuple hx
      obtain ⟨its2, rv2, pb, _⟩ := I1.tuple hy
      have la : a < s1.heap.objs.size := by obtain ⟨o, ho, _⟩ := id pa; exact Heap.lt_size ho
      have lb : b < s1.heap.objs.size := by obtain ⟨o, ho, _⟩ := id pb; exact Heap.lt_size ho
      have ta1 : s1.heap.IsTuple a its.toArray := pa
      have tb1 : s1.heap.IsTuple b its2.toArray := pb
      refine RZ.call_zipT ta1 tb1 fun h1 hz hTI hTO u1 u2 hsz hk => PyProof.Rows.args_nil ?_
      have ap : ∀ c, c < s1.heap.objs.size → c ∉ [s1.heap.objs.size + 4, s1.heap.objs.size + 3, s1.heap.objs.size, s1.heap.objs.size + 1] := fun c lc m => by
        simp only [List.mem_cons, List.not_mem_nil, or_false] at m
        rcases m with e | e | e | e
        · rw [e] at lc; exact Nat.not_lt.mpr (Nat.le_add_right _ _) lc
        · rw [e] at lc; exact Nat.not_lt.mpr (Nat.le_add_right _ _) lc
        · rw [e] at lc; exact Nat.lt_irrefl _ lc
        · rw [e] at lc; exact Nat.not_lt.mpr (Nat.le_add_right _ _) lc
      have sizes : its.toArray.size = xs.length ∧ its2.toArray.size = ys.length := ⟨by rw [List.size_toArray]; exact rv.length.symm, by rw [List.size_toArray]; exact rv2.length.symm⟩
      refine call_list_zip (s := { s1 with heap := h1 }) (TI := s1.heap.objs.size + 2) (xs := its.toArray) (ys := its2.toArray) (I1.ok.hd hc) (PySem.W.ktu_apart s1.heap.objs.size a b la lb) ⟨hTI, u1, u2, .inl ⟨rfl, hz, _, _, hTO⟩⟩ (ta1.at fun o z => hk _ o z) (tb1.at fun o z => hk _ o z) (ap a la) (ap b lb) (fun c m => ?_) hz (by rw [sizes.1]; exact hz1) fun Ts c h2 st hl => ?_
      · show c < h1.objs.size
        rw [hsz]
        simp only [List.mem_cons, List.not_mem_nil, or_false] at m
        rcases m with e | e | e | e
        · rw [e]; exact Nat.add_lt_add_left (by decide) _
        · rw [e]; exact Nat.add_lt_add_left (by decide) _
        · rw [e]; exact Nat.lt_add_of_pos_right (by decide)
        · rw [e]; exact Nat.add_lt_add_left (by decide) _
      · have hS : h1.objs.size = s1.heap.objs.size + 5 := hsz
        have hlen : Ts.length = min xs.length ys.length := by rw [hl, sizes.1, sizes.2]
        have fr : ∀ T ∈ h1.objs.size :: Ts, s1.heap.objs.size ≤ T := fun T m => by
          rcases List.mem_cons.mp m with e | m
          · rw [e, hS]; exact Nat.le_add_right _ _
          · have := st.fresh T m
            have : h1.objs.size < T := this
            omega
        have nd : (h1.objs.size :: Ts).Nodup := List.nodup_cons.mpr ⟨fun m => Nat.lt_irrefl _ (st.fresh _ m), st.nd⟩
        have fn : ∀ T ∈ h1.objs.size :: Ts, H1 T = none := fun T m => I1.hok.fresh (fr T m)
        have keys : (Ts.zip (xs.zip ys)).map (·.1) = Ts := by
          rw [List.map_fst_zip]
          rw [List.length_zip]
          omega
        have kin : ∀ t ∈ Ts.zip (xs.zip ys), t.1 ∈ Ts := fun t m => by
          have : t.1 ∈ (Ts.zip (xs.zip ys)).map (·.1) := List.mem_map.mpr ⟨t, m, rfl⟩
          rwa [keys] at this
        have upk : ∀ b o, s1.heap.get? b = some o → h2.get? b = some o := fun b o z => st.old b o (ap b (Heap.lt_size z)) (hk b o z)
        refine ⟨.ref h1.objs.size, _, (show L2.Inv X pins σ _ { s1 with heap := h2 } from inv_more I1 upk (fun b o z => ?_) (fun b o n z => ?_)), rfl, q1 Ts h1.objs.size nd fn hlen⟩
        · have nb : b ∉ h1.objs.size :: Ts := fun m => by
            rw [fn b m] at z
            cases z
          rw [List.mem_cons, not_or] at nb
          rw [upd_ne nb.1, addT_out _ _ (by rw [keys]; exact nb.2)]
          exact z
        · by_cases e : b = h1.objs.size
          · subst e
            rw [upd_same] at z
            cases z
            refine ⟨fr _ (List.mem_cons_self ..), by rw [List.length_map, hlen]; omega, Ts.map Value.ref, c, vals_refs Ts, st.lst⟩
          · rw [upd_ne e] at z
            by_cases m : b ∈ Ts
            · obtain ⟨j, hj, ej⟩ := List.getElem_of_mem m
              have j1 : j < xs.length := by omega
              have j2 : j < ys.length := by omega
              have mem : (b, xs[j], ys[j]) ∈ Ts.zip (xs.zip ys) := by
                rw [← ej]
                refine List.mem_iff_getElem.mpr ⟨j, by rw [List.length_zip, List.length_zip]; omega, ?_⟩
                rw [List.getElem_zip, List.getElem_zip]
              rw [addT_in _ _ (by rw [keys]; exact st.nd) mem] at z
              cases z
              obtain ⟨u, hu, ru⟩ := rv.get (List.getElem?_eq_getElem j1)
              obtain ⟨v, hv, rv'⟩ := rv2.get (List.getElem?_eq_getElem j2)
              have ip := st.prs j b u v (by rw [List.getElem?_eq_getElem hj, ej]) (by simpa using hu) (by simpa using hv)
              exact ⟨fr _ (List.mem_cons_of_mem _ m), by show 2 ≤ sizeLine; decide, [u, v], .cons ru (.cons rv' .nil), ⟨_, ip, rfl, 0, rfl⟩⟩
            · rw [addT_out _ _ (by rw [keys]; exact m), n] at z
              cases z
end
end DLZ
namespace DL
open PySem PySem.Spec PyProof.Rows L2 DLZ
/-! ### over data -/
def fListZip (fa : DL.Env → Res (List SV)) : DL.Env → Res SV := fun δ => (fa δ).bind fun ss => match ss with
  | [.sh (.tup ds), .sh (.tup es)] => .ok (.ow (zipD ds es))
  | _ => .bad
theorem addT_stp {K : PySem.W.Frag} {T : Tb} : ∀ {Ts : List Addr} {vs ws : List V} {ds es : List D} {F H : Hp}, Exn F H → Ts.Nodup → (∀ a ∈ Ts, H a = none) → Ts.length = min vs.length ws.length → Reps K T F vs ds → Reps K T F ws es →
    ∃ F', Stp T F H F' (addT H (Ts.zip (vs.zip ws))) ∧ Reps K T F' (Ts.map V.ref) (zipD ds es)
  | [], vs, ws, ds, es, F, H, e, _, _, l, r1, r2 => by
    refine ⟨F, Stp.refl e, ?_⟩
    have : zipD ds es = [] := by
      unfold zipD
      rw [List.map_eq_nil_iff, ← List.length_eq_zero_iff, List.length_zip, ← r1.length, ← r2.length]
      exact l.symm
    rw [this]
    exact .nil
  | a :: Ts, [], ws, ds, es, F, H, e, _, _, l, r1, r2 => by simp at l
  | a :: Ts, _ :: _, [], ds, es, F, H, e, _, _, l, r1, r2 => by simp at l
  | a :: Ts, v :: vs, w :: ws, _, _, F, H, e, nd, fr, l, .cons (d := d1) (ds := ds) g1 r1, .cons (d := d2) (ds := es) g2 r2 => by
    obtain ⟨F1, st, rr⟩ := gives_tup (T := T) (K := K) e (fr a (List.mem_cons_self ..)) (.cons g1 (.cons g2 .nil))
    have nd := List.nodup_cons.mp nd
    obtain ⟨F2, st2, r3⟩ := addT_stp (Ts := Ts) (H := upd H a (.tup [v, w])) st.fh nd.2 (fun b m => by
      rw [upd_ne (fun z => nd.1 (by rw [← z]; exact m))]
      exact fr b (List.mem_cons_of_mem _ m)) (by simp only [List.length_cons] at l; omega) (r1.mono st.ff) (r2.mono st.ff)
    exact ⟨F2, st.trans st2, .cons (Rep.mono st2.ff (show Rep K T F1 (.ref a) (.tup [d1, d2]) from rr)) r3⟩
theorem de_listZip {X : Cx} {T : Tb} {W : WX} {e e2 : Expr} {p p2 q pos : Pos} {fa : DL.Env → Res (List SV)} (hc : X.calm = true) (hg : Gl X "list") (hm : X.mg "list" = none) (hg2 : Gl X "zip") (hm2 : X.mg "zip" = none) (ha : PA X [e, e2] (rdA X.K T W fa))
    (hs : starEach [e, e2] X.env = (false, eval e X.env) :: starEach [e2] X.env := by rfl) (hpl : (backTo q (starEach [e2] X.env)).any (·.1) = false := by rfl)
    (nb : starEach [.Call (.Name "zip" p2) [e, e2] [] q] X.env = (false, eval (.Call (.Name "zip" p2) [e, e2] [] q) X.env) :: starEach [] X.env := by rfl) :
    PE X (.Call (.Name "list" p) [.Call (.Name "zip" p2) [e, e2] [] q] [] pos) (rd X.K T W (fListZip fa)) :=
  PEimp (pe_listZip hc hg hm hg2 hm2 ha hs hpl nb) fun σ H Q ⟨F0, G, F, δ, E, h⟩ => by
    refine rdA_bind E h fun vs ss F1 H1 p1 r1 h1 => ?_
    split at h1
    · rename_i ds es
      cases r1 with
      | cons g r1 =>
        cases r1 with
        | cons g2 r1 =>
          cases r1
          cases g with
          | @tup a1 v1 _ k1 k2 =>
            cases g2 with
            | @tup a2 v2 _ k3 k4 =>
              refine ⟨_, _, _, _, rfl, sqT_mono p1.fh k1, sqT_mono p1.fh k3, fun Ts pp nd fr l => ?_⟩
              have nd := List.nodup_cons.mp nd
              obtain ⟨F2, st, rr⟩ := addT_stp (T := T) (K := X.K) p1.fh nd.2 (fun a m => fr a (List.mem_cons_of_mem _ m)) l k2 k4
              have hp : H1 pp = none := fr pp (List.mem_cons_self ..)
              have hp2 : addT H1 (Ts.zip (v1.zip v2)) pp = none := (addT_out _ _ (fun m => nd.1 (by
                obtain ⟨t, mt, rfl⟩ := List.mem_map.mp m
                exact (List.of_mem_zip mt).1))).trans hp
              have st2 := Stp.new (T := T) (o := .lst (Ts.map V.ref)) st.fh hp2
              exact h1 _ _ _ ((p1.trans st).trans st2) ⟨pp, _, rfl, Exn.back p1.hh hp, Exn.back st.fh hp2, upd_same, rr⟩
    · exact h1.elim
end DL
end

section
set_option Elab.async false
set_option linter.all false
set_option autoImplicit false
set_option maxRecDepth 100000
set_option maxHeartbeats 4000000
/-! xs.clear(); list(range(a, b, c)) -/
namespace DL
open PySem PySem.Spec PyProof.Rows L2
def mClear (ds es : List D) : Option (List D × D) := match es with
  | [] => some ([], .non)
  | _ => none
theorem good_clear {K : PySem.W.Frag} {T : Tb} : GoodMu K T rClear mClear := fun F H a vs us ds es ds' d Q eh h1 h2 h3 h k => by
  unfold mClear at h
  split at h
  · cases h
    cases h3
    exact ⟨a, vs, rfl, rfl, h1, k _ _ .nil .non⟩
  · cases h
/-- lo, lo + c, .. -/
def stV (lo c : Int) (n : Nat) : List V := (List.range n).map fun k => V.int (lo + (k : Nat) * c)
theorem reps_st {K : PySem.W.Frag} {T : Tb} {F : Hp} (lo c : Int) : ∀ l : List Nat, Reps K T F (l.map fun k => V.int (lo + (k : Nat) * c)) (l.map fun k => D.int (lo + (k : Nat) * c))
  | [] => .nil
  | _ :: l => .cons (.int _) (reps_st lo c l)
def tListRg3 (ta : TA) : TE := fun σ H Q => ta σ H fun vs H1 => ∃ (i j c : Int) (n : Nat), vs = [.int i, .int j, .int c] ∧ RgC i j c n ∧ n ≤ 2 ^ 20 ∧ ∀ p, H1 p = none → Q (.ref p) (upd H1 p (.lst (stV i c n)))
theorem pe_listRg3 {X : Cx} {a b c : Expr} {ta : TA} {p p2 q pos : Pos} (hcalm : X.calm = true) (hg : Gl X "list") (hm : X.mg "list" = none) (hg2 : Gl X "range") (hm2 : X.mg "range" = none) (ha : PA X [a, b, c] ta)
    (hs : starEach [a, b, c] X.env = (false, eval a X.env) :: starEach [b, c] X.env := by rfl) (hpl : (backTo q (starEach [b, c] X.env)).any (·.1) = false := by rfl)
    (nb : starEach [.Call (.Name "range" p2) [a, b, c] [] q] X.env = (false, eval (.Call (.Name "range" p2) [a, b, c] [] q) X.env) :: starEach [] X.env := by rfl) :
    PE X (.Call (.Name "list" p) [.Call (.Name "range" p2) [a, b, c] [] q] [] pos) (tListRg3 ta) := by
  refine ⟨fun pins s σ H Q I h => Call_ (ld_blt I hg hm boot_list (PyProof.Rows.callWith_type1 (PyProof.Rows.args_cons (Call_ (ld_blt I hg2 hm2 boot_range (PyProof.Rows.callWith_type1 (thn (ha.run q pins s σ H _ I h) fun us s1 ⟨vs, H1, I1, r1, q1⟩ => ?_) hs hpl))) nb) nb rfl))⟩
  obtain ⟨i, j, k, n, e, ⟨c0, c1, c2, c3⟩, hn, q1⟩ := q1
  subst e
  cases r1 with
  | cons r rr =>
    cases rr with
    | cons r' rr =>
      cases rr with
      | cons r'' rr =>
        cases rr
        obtain ⟨t, rfl⟩ := r
        obtain ⟨t', rfl⟩ := r'
        obtain ⟨t'', rfl⟩ := r''
        have I2 : L2.Inv X pins σ H1 { s1 with heap := s1.heap.push { cls := .type "range", data := .fields #[.int i t, .int j t', .int k t''] } } := I1.kept (t' := s1.toks) fun b o e => Heap.get?_push_of_some _ e
        refine call_range_3 c0 (PyProof.Rows.args_nil ?_) (.inl (PyProof.noPylong_small c1))
        refine call_list_range (n := n) (s := { s1 with heap := s1.heap.push { cls := .type "range", data := .fields #[.int i t, .int j t', .int k t''] } }) (I1.ok.hd hcalm) (IsRange.new ..) c2 c3 (Nat.le_trans hn (by decide)) fun h' tk acc c' hk e' hi => ?_
        have l1 : acc.toList.length = n := by rw [Array.length_toList]; exact hi.1
        have vv : Vals (stV i k n) acc.toList := by
          unfold stV
          rw [← l1]
          exact vals_of_get acc.toList _ fun j u hj => hi.2 j u (by rw [← hj, Array.getElem?_toList])
        have sl : (stV i k n).length ≤ sizeLine := by
          unfold stV
          rw [List.length_map, List.length_range, sizeLine_eq]
          omega
        exact ⟨.ref _, _, I2.laid hk (Nat.le_refl _) (show ObjOk X.prog X.w _ _ _ (.lst (stV i k n)) from ⟨sl, acc.toList, c', vv, by rw [Array.toArray_toList]; exact e'⟩), rfl, q1 _ (I2.hok.fresh (Nat.le_refl _))⟩
noncomputable def fListRg3 (fa : DL.Env → Res (List SV)) : DL.Env → Res SV := fun δ => (fa δ).bind fun ss => match ss with
  | [.sh (.int i), .sh (.int j), .sh (.int c)] => open Classical in if RgC i j c (Builtin.Range.rangeSize i j c).toNat ∧ (Builtin.Range.rangeSize i j c).toNat ≤ 2 ^ 20 then .ok (.ow ((List.range (Builtin.Range.rangeSize i j c).toNat).map fun k => .int (i + (k : Nat) * c))) else .bad
  | _ => .bad
theorem de_listRg3 {X : Cx} {T : Tb} {W : WX} {a b c : Expr} {p p2 q pos : Pos} {fa : DL.Env → Res (List SV)} (hcalm : X.calm = true) (hg : Gl X "list") (hm : X.mg "list" = none) (hg2 : Gl X "range") (hm2 : X.mg "range" = none) (ha : PA X [a, b, c] (rdA X.K T W fa))
    (hs : starEach [a, b, c] X.env = (false, eval a X.env) :: starEach [b, c] X.env := by rfl) (hpl : (backTo q (starEach [b, c] X.env)).any (·.1) = false := by rfl)
    (nb : starEach [.Call (.Name "range" p2) [a, b, c] [] q] X.env = (false, eval (.Call (.Name "range" p2) [a, b, c] [] q) X.env) :: starEach [] X.env := by rfl) :
    PE X (.Call (.Name "list" p) [.Call (.Name "range" p2) [a, b, c] [] q] [] pos) (rd X.K T W (fListRg3 fa)) :=
  PEimp (pe_listRg3 hcalm hg hm hg2 hm2 ha hs hpl nb) fun σ H Q ⟨F0, G, F, δ, E, h⟩ => by
    refine rdA_bind E h fun vs ss F1 H1 p1 r1 h1 => ?_
    split at h1
    · rename_i i j c
      split at h1
      · rename_i hj
        cases r1 with
        | cons g1 r1 =>
          cases r1 with
          | cons g2 r1 =>
            cases r1 with
            | cons g3 r1 =>
              cases r1
              cases g1
              cases g2
              cases g3
              refine ⟨i, j, c, _, rfl, hj.1, hj.2, fun pp hp => ?_⟩
              have st := Stp.new (T := T) (o := .lst (stV i c (Builtin.Range.rangeSize i j c).toNat)) p1.fh hp
              exact h1 _ _ _ (p1.trans st) ⟨pp, _, rfl, Exn.back p1.hh hp, Exn.back p1.fh hp, upd_same, reps_st i c _⟩
      · exact h1.elim
    · exact h1.elim
end DL
end

section
set_option Elab.async false
set_option linter.all false
set_option autoImplicit false
set_option maxRecDepth 100000
set_option maxHeartbeats 4000000
/-! for x, y in [(e, c), (e', c')]: the lists that e and e' give are the frame's own while their turn runs. -/
namespace DL
open PySem PySem.Spec PyProof.Rows L2
/-- the objects of the frame's own -/
def Mine (σ : L2.St) (δ : Env) (b : Addr) : Prop := ∃ i : Nat, σ[i]? = some (some (V.ref b)) ∧ ((∃ ds : List D, δ[i]? = some (Sl.ow ds)) ∨ (∃ (c : Nat) (fs : List (Str × D)), δ[i]? = some (Sl.me b c fs)) ∨ ∃ (ks : List Key) (ds : List D), δ[i]? = some (Sl.od ks ds))
open Classical in
noncomputable def past (σ : L2.St) (δ : Env) (a : Addr) (H : Hp) : Hp := fun b => if Mine σ δ b ∨ b = a then none else H b
section
variable {K : PySem.W.Frag} {T : Tb} {W : WX} {F0 G F F' H H' : Hp} {σ σ' : L2.St} {δ δ' : Env} {a : Addr} {D : Ends}
theorem past_n {b : Addr} (h : Mine σ δ b ∨ b = a) : past σ δ a H b = none := if_pos h
theorem past_s {b : Addr} (h : ¬ (Mine σ δ b ∨ b = a)) : past σ δ a H b = H b := if_neg h
theorem mine_G (E : EnvR K T F0 G F H σ δ) {b : Addr} (h : Mine σ δ b) : G b = none := by
  obtain ⟨i, h1, ⟨ds, h2⟩ | ⟨c, fs, h2⟩ | ⟨ks, ds, h2⟩⟩ := h
  · obtain ⟨a, vs, e, _, g, _⟩ := E.ow i ds h2
    rw [h1] at e
    cases e
    exact g
  · obtain ⟨_, dx, gs, _, _, g, _⟩ := E.me i _ c fs h2
    exact g
  · obtain ⟨a, us, e, _, g, _⟩ := E.od i ks ds h2
    rw [h1] at e
    cases e
    exact g
theorem mine_H (E : EnvR K T F0 G F H σ δ) {b : Addr} (h : Mine σ δ b) : H b ≠ none := by
  obtain ⟨i, h1, ⟨ds, h2⟩ | ⟨c, fs, h2⟩ | ⟨ks, ds, h2⟩⟩ := h
  · obtain ⟨a, vs, e, _, _, g, _⟩ := E.ow i ds h2
    rw [h1] at e
    cases e
    rw [g]
    exact fun z => by cases z
  · obtain ⟨_, dx, gs, _, _, _, g, _⟩ := E.me i _ c fs h2
    rw [g]
    exact fun z => by cases z
  · obtain ⟨a, us, e, _, _, g, _⟩ := E.od i ks ds h2
    rw [h1] at e
    cases e
    rw [g]
    exact fun z => by cases z
theorem past_none (E : EnvR K T F0 G F H σ δ) (hG : G a = none) {b : Addr} (h : past σ δ a H b = none) : G b = none := by
  by_cases q : Mine σ δ b ∨ b = a
  · rcases q with q | rfl
    · exact mine_G E q
    · exact hG
  · rw [past_s q] at h
    exact E.gh.n b h
theorem past_some (E : EnvR K T F0 G F H σ δ) (hG : G a = none) {b : Addr} {o : HO} (h : G b = some o) (n : isTbl o = false) : past σ δ a H b = some o := by
  have q : ¬ (Mine σ δ b ∨ b = a) := fun q => by
    have : G b = none := q.elim (mine_G E) fun z => z ▸ hG
    rw [h] at this
    cases this
  rw [past_s q]
  exact E.gh.a b o h n
theorem EnvR.focus (E : EnvR K T F0 G F H σ δ) : EnvR K T F (past σ δ a H) F H σ δ where
  f0 := Exn.refl F
  gh := ⟨fun b o h _ => by
    by_cases q : Mine σ δ b ∨ b = a
    · rw [past_n q] at h; cases h
    · rw [past_s q] at h; exact h, fun b h => by
    by_cases q : Mine σ δ b ∨ b = a
    · exact past_n q
    · rw [past_s q]; exact h⟩
  fh := E.fh
  fr := fun _ _ _ h _ => h
  len := E.len
  sh := E.sh
  ow := fun i ds h => by
    obtain ⟨b, vs, e, h1, _, h3⟩ := E.ow i ds h
    exact ⟨b, vs, e, h1, past_n (.inl ⟨i, e, .inl ⟨ds, h⟩⟩), h3⟩
  ex := E.ex
  me := fun i b c fs h => by
    obtain ⟨z, dx, gs, e, h1, _, h3⟩ := E.me i b c fs h
    exact ⟨z, dx, gs, e, h1, past_n (.inl ⟨i, e, .inr (.inl ⟨c, fs, h⟩)⟩), h3⟩
  od := fun i ks ds h => by
    obtain ⟨b, us, e, h1, _, h3⟩ := E.od i ks ds h
    exact ⟨b, us, e, h1, past_n (.inl ⟨i, e, .inr (.inr ⟨ks, ds, h⟩)⟩), h3⟩
  ap := E.ap
  tb := E.tb
theorem ex_back (E : EnvR K T F0 G F H σ δ) (hG : G a = none) (h : Exn (past σ δ a H) H') : Exn G H' := ⟨fun b o q n => h.a b o (past_some E hG q n) n, fun b q => past_none E hG (h.n b q)⟩
theorem fr_back (E : EnvR K T F0 G F H σ δ) (hG : G a = none) (h : Frs F F' (past σ δ a H)) : Frs F0 F' G := fun b o m q1 q2 => h b o m (E.fr b o m q1 q2) (past_some E hG q2 (nt_isM m))
theorem EnvR.unfocus (E : EnvR K T F0 G F H σ δ) (hG : G a = none) (E' : EnvR K T F (past σ δ a H) F' H' σ' δ') : EnvR K T F0 G F' H' σ' δ' where
  f0 := Exn.trans E.f0 E'.f0
  gh := ex_back E hG E'.gh
  fh := E'.fh
  fr := fr_back E hG E'.fr
  len := E'.len
  sh := E'.sh
  ow := fun i ds h => by
    obtain ⟨b, vs, e, h1, h2, h3⟩ := E'.ow i ds h
    exact ⟨b, vs, e, h1, past_none E hG h2, h3⟩
  ex := E'.ex
  me := fun i b c fs h => by
    obtain ⟨z, dx, gs, e, h1, h2, h3⟩ := E'.me i b c fs h
    exact ⟨z, dx, gs, e, h1, past_none E hG h2, h3⟩
  od := fun i ks ds h => by
    obtain ⟨b, us, e, h1, h2, h3⟩ := E'.od i ks ds h
    exact ⟨b, us, e, h1, past_none E hG h2, h3⟩
  ap := E'.ap
  tb := E'.tb
theorem SEnd.unfocus (E : EnvR K T F0 G F H σ δ) (hG : G a = none) {o : Out} (h : SEnd K T W F0 G F D o) : SEnd K T W F (past σ δ a H) F D o := by
  cases o with
  | nx δ1 => exact fun σ1 F1 H1 E1 q => h σ1 F1 H1 (E.unfocus hG E1) q
  | bk δ1 => exact fun σ1 F1 H1 E1 q => h σ1 F1 H1 (E.unfocus hG E1) q
  | ct δ1 => exact fun σ1 F1 H1 E1 q => h σ1 F1 H1 (E.unfocus hG E1) q
  | ex c δ1 => exact fun σ1 F1 H1 E1 q => h σ1 F1 H1 (E.unfocus hG E1) q
  | bad => exact h
  | rt s =>
    refine fun v F1 H1 q1 q2 q3 q4 q5 q6 => h v F1 H1 (Exn.trans E.f0 q1) q2 (ex_back E hG q3) (fr_back E hG q4) q5 ?_
    cases s with
    | sh d => exact q6
    | br i ds => exact q6
    | ow ds =>
      obtain ⟨b, vs, e, z1, z2⟩ := q6
      exact ⟨b, vs, e, past_none E hG z1, z2⟩
end
/-! ### the statement -/
def lastR (i j : Nat) (b : FS) (ds : List D) (d : D) : FS := fun δ => match b ((δ.set i (.ow ds)).set j (.sh d)) with
  | .nx δ1 => .nx δ1
  | .ct δ1 => .nx δ1
  | .bk δ1 => .nx δ1
  | r => r
def twoR (i j : Nat) (b : FS) (ds : List D) (d : D) (es : List D) (e : D) : FS := fun δ => match b ((δ.set i (.ow ds)).set j (.sh d)) with
  | .nx δ1 => lastR i j b es e δ1
  | .ct δ1 => lastR i j b es e δ1
  | .bk δ1 => .nx δ1
  | r => r
def fTwo (i j : Nat) (f1 g1 f2 g2 : DL.Env → Res SV) (b : FS) : FS := fun δ => (f1 δ).out δ fun s1 => (g1 δ).out δ fun c1 => (f2 δ).out δ fun s2 => (g2 δ).out δ fun c2 => match s1, c1, s2, c2 with
  | .ow ds1, .sh d1, .ow ds2, .sh d2 => twoR i j b ds1 d1 ds2 d2 δ
  | _, _, _, _ => .bad
section
variable {K : PySem.W.Frag} {T : Tb} {W : WX}
/-- what waits: the list L of the two tuples, the turn's tuple t of the list at a and the value v -/
structure Wait (K : PySem.W.Frag) (T : Tb) (G F H : Hp) (σ : L2.St) (δ : Env) (L : Addr) (xs : List V) (t a : Addr) (vs : List V) (ds : List D) (v : V) (d : D) : Prop where
  lt : H L = some (.lst xs)
  tt : H t = some (.tup [.ref a, v])
  la : H a = some (.lst vs)
  fa : F a = none
  ga : G a = none
  ra : Reps K T F vs ds
  rv : Rep K T F v d
  ma : ¬ Mine σ δ a
  mL : ¬ Mine σ δ L
  mt : ¬ Mine σ δ t
  aL : L ≠ a
theorem Wait.pass {G F H F1 H1 : Hp} {σ σ1 : L2.St} {δ δ1 : Env} {L t a t2 a2 : Addr} {xs vs vs2 : List V} {ds ds2 : List D} {v v2 : V} {d d2 : D} (w : Wait K T G F H σ δ L xs t a vs ds v d) (w2 : Wait K T G F H σ δ L xs t2 a2 vs2 ds2 v2 d2) (ne : a2 ≠ a)
    (E1 : EnvR K T F (past σ δ a H) F1 H1 σ1 δ1) : Wait K T G F1 H1 σ1 δ1 L xs t2 a2 vs2 ds2 v2 d2 := by
  have nt : t2 ≠ a := fun z => by
    have := w2.tt
    rw [z, w.la] at this
    cases this
  have sL : past σ δ a H L = some (.lst xs) := (past_s fun z => z.elim w.mL w.aL).trans w.lt
  have st : past σ δ a H t2 = some (.tup [.ref a2, v2]) := (past_s fun z => z.elim w2.mt nt).trans w2.tt
  have sa : past σ δ a H a2 = some (.lst vs2) := (past_s fun z => z.elim w2.ma ne).trans w2.la
  have mm : ∀ {b : Addr} {o : HO}, past σ δ a H b = some o → ¬ Mine σ1 δ1 b := fun h z => by
    rw [mine_G E1 z] at h
    cases h
  exact ⟨E1.gh.at sL, E1.gh.at st, E1.gh.at sa, E1.fr a2 _ rfl w2.fa sa, w2.ga, w2.ra.mono E1.f0, w2.rv.mono E1.f0, mm sa, mm sL, mm st, w2.aL⟩
theorem turn_env {F0 G F H : Hp} {σ : L2.St} {δ : Env} {L t a : Addr} {xs vs : List V} {ds : List D} {v : V} {d : D} (i j : Nat) (E : EnvR K T F0 G F H σ δ) (w : Wait K T G F H σ δ L xs t a vs ds v d) :
    EnvR K T F (past σ δ a H) F H ((σ.set i (some (.ref a))).set j (some v)) ((δ.set i (.ow ds)).set j (.sh d)) :=
  ((E.focus (a := a)).setO (i := i) w.fa (past_n (.inr rfl)) w.la w.ra (fun q es _ h1 h2 => w.ma ⟨q, h2, .inl ⟨es, h1⟩⟩)).setD (i := j) w.rv
theorem rd_two {i j : Nat} {f1 g1 f2 g2 : DL.Env → Res SV} {b : FS} {D : Ends} {σ : L2.St} {H : Hp} (h : rdS K T W (fTwo i j f1 g1 f2 g2 b) D σ H) :
    tFor (iList K (tLst (tCons (tTup (tCons (rd K T W f1) (tCons (rd K T W g1) tNil))) (tCons (tTup (tCons (rd K T W f2) (tCons (rd K T W g2) tNil))) tNil)))) (gTup K 2 (gCons (gName i) (gCons (gName j) gNil))) (rdS K T W b) D σ H := by
  obtain ⟨F0, G, F, δ, E, h⟩ := h
  unfold fTwo at h
  refine rd_out E h fun u1 s1 Fa Ha p1 r1 h1 => ?_
  refine rd_out (E.grow p1) (SEnd.later p1.ff h1) fun u2 s2 Fb Hb p2 r2 h2 => ?_
  refine ⟨line_of (by simp), fun t1 ht1 => ?_⟩
  have q1 := Stp.new (T := T) (o := .tup [u1, u2]) p2.fh ht1
  have P2 := p1.trans (p2.trans q1)
  refine rd_out (E.grow P2) (SEnd.later (Exn.trans p2.ff q1.ff) h2) fun u3 s3 Fc Hc p3 r3 h3 => ?_
  refine rd_out ((E.grow P2).grow p3) (SEnd.later p3.ff h3) fun u4 s4 Fd Hd p4 r4 h4 => ?_
  refine ⟨line_of (by simp), fun t2 ht2 => ?_⟩
  have q2 := Stp.new (T := T) (o := .tup [u3, u4]) p4.fh ht2
  refine ⟨line_of (by simp), fun L hL => ?_⟩
  have q3 := Stp.new (T := T) (o := .lst [.ref t1, .ref t2]) q2.fh hL
  cases s1 with
  | sh _ => exact h4.elim
  | br _ _ => exact h4.elim
  | ow ds1 =>
  cases s2 with
  | ow _ => exact h4.elim
  | br _ _ => exact h4.elim
  | sh d1 =>
  cases s3 with
  | sh _ => exact h4.elim
  | br _ _ => exact h4.elim
  | ow ds2 =>
  cases s4 with
  | ow _ => exact h4.elim
  | br _ _ => exact h4.elim
  | sh d2 =>
  obtain ⟨a1, vs1, rfl, n1, f1n, l1, rs1⟩ := r1
  obtain ⟨a2, vs2, rfl, n2, f2n, l2, rs2⟩ := r3
  have P45 := p4.trans (q2.trans q3)
  have P34 := p3.trans P45
  have P24 := p2.trans (q1.trans P34)
  have PA := p1.trans P24
  have EA := E.grow PA
  have hb : ∀ {x : Addr}, H x = none → ¬ Mine σ δ x := fun h z => mine_H E z h
  have n2' : H a2 = none := P2.hh.n _ n2
  have nt1 : H t1 = none := (p1.trans p2).hh.n _ ht1
  have nt2 : H t2 = none := (P2.trans (p3.trans p4)).hh.n _ ht2
  have nL : H L = none := (P2.trans (p3.trans (p4.trans q2))).hh.n _ hL
  have la1 := P24.hh.at l1
  have la2 := P45.hh.at l2
  have lt1 : (upd (upd Hd t2 (.tup [.ref a2, u4])) L (.lst [.ref t1, .ref t2])) t1 = some (.tup [.ref a1, u2]) := P34.hh.at (upd_same (H := Hb))
  have lt2 : (upd (upd Hd t2 (.tup [.ref a2, u4])) L (.lst [.ref t1, .ref t2])) t2 = some (.tup [.ref a2, u4]) := q3.hh.at (upd_same (H := Hd))
  have lL : (upd (upd Hd t2 (.tup [.ref a2, u4])) L (.lst [.ref t1, .ref t2])) L = some (.lst [.ref t1, .ref t2]) := upd_same
  have aL1 : L ≠ a1 := fun z => by
    have := (p2.trans (q1.trans (p3.trans (p4.trans q2)))).hh.at l1
    have hL' := hL
    rw [z] at hL'
    rw [hL'] at this
    cases this
  have aL2 : L ≠ a2 := fun z => by
    have := (p4.trans q2).hh.at l2
    have hL' := hL
    rw [z] at hL'
    rw [hL'] at this
    cases this
  have a21 : a2 ≠ a1 := fun z => by
    have := (p2.trans q1).hh.at l1
    have n2' := n2
    rw [z] at n2'
    rw [n2'] at this
    cases this
  have w1 : Wait K T G Fd _ σ δ L [.ref t1, .ref t2] t1 a1 vs1 ds1 u2 d1 := ⟨lL, lt1, la1, P24.fr a1 _ rfl f1n l1, E.gh.n _ n1, rs1.mono P24.ff, Rep.mono (q1.trans P34).ff r2, hb n1, hb nL, hb nt1, aL1⟩
  have w2 : Wait K T G Fd _ σ δ L [.ref t1, .ref t2] t2 a2 vs2 ds2 u4 d2 := ⟨lL, lt2, la2, P45.fr a2 _ rfl f2n l2, E.gh.n _ n2', rs2.mono P45.ff, r4, hb n2', hb nL, hb nt2, aL2⟩
  have h5 : SEnd K T W F0 G Fd D (twoR i j b ds1 d1 ds2 d2 δ) := SEnd.later p4.ff h4
  generalize (upd (upd Hd t2 (.tup [.ref a2, u4])) L (.lst [.ref t1, .ref t2])) = HA at EA w1 w2
  refine ⟨L, rfl, ⟨_, SqL.of w1.lt⟩, fun n m σ' H' => (n = 0 ∧ m = 2 ∧ ∃ F' δ', EnvR K T F0 G F' H' σ' δ' ∧ Wait K T G F' H' σ' δ' L [.ref t1, .ref t2] t1 a1 vs1 ds1 u2 d1 ∧ Wait K T G F' H' σ' δ' L [.ref t1, .ref t2] t2 a2 vs2 ds2 u4 d2 ∧ SEnd K T W F0 G F' D (twoR i j b ds1 d1 ds2 d2 δ')) ∨
    (n = 1 ∧ m = 1 ∧ ∃ F' δ', EnvR K T F0 G F' H' σ' δ' ∧ Wait K T G F' H' σ' δ' L [.ref t1, .ref t2] t2 a2 vs2 ds2 u4 d2 ∧ SEnd K T W F0 G F' D (lastR i j b ds2 d2 δ')) ∨
    (n = 2 ∧ m = 0 ∧ SqL K H' L [.ref t1, .ref t2] ∧ D.nx σ' H'), ⟨2, .inl ⟨rfl, rfl, Fd, δ, EA, w1, w2, h5⟩⟩, ?_⟩
  rintro n m σ' H' (⟨rfl, rfl, F', δ', E', w1, w2, h'⟩ | ⟨rfl, rfl, F', δ', E', w2, h'⟩ | ⟨rfl, rfl, hs, hd⟩)
  · refine .inr ⟨⟨_, _, SqL.of w1.lt, rfl⟩, fun σ2 H2 => ∃ F2 δ2, EnvR K T F0 G F2 H2 σ2 δ2 ∧ Wait K T G F2 H2 σ2 δ2 L [.ref t1, .ref t2] t2 a2 vs2 ds2 u4 d2 ∧ SEnd K T W F0 G F2 D (lastR i j b ds2 d2 δ2), fun σ2 H2 q => ⟨1, by omega, .inr (.inl ⟨rfl, rfl, q⟩)⟩, fun x H3 ⟨e3, hx⟩ => ?_⟩
    subst e3
    have ex := hx _ (SqL.of w1.lt)
    cases ex
    refine ⟨t1, _, rfl, SqT.of w1.tt, rfl, _, _, rfl, _, _, rfl, rfl, F', past σ' δ' a1 H3, F', _, turn_env i j E' w1, ?_⟩
    unfold twoR at h'
    revert h'
    cases b ((δ'.set i (.ow ds1)).set j (.sh d1)) with
    | nx δ1 => exact fun h' σ1 F1 H1 E1 q => ⟨F1, δ1, E'.unfocus w1.ga E1, Wait.pass w1 w2 a21 E1, SEnd.later q h'⟩
    | ct δ1 => exact fun h' σ1 F1 H1 E1 q => ⟨F1, δ1, E'.unfocus w1.ga E1, Wait.pass w1 w2 a21 E1, SEnd.later q h'⟩
    | bk δ1 => exact fun h' σ1 F1 H1 E1 q => h' σ1 F1 H1 (E'.unfocus w1.ga E1) q
    | rt s => exact fun h' => SEnd.unfocus E' w1.ga (o := .rt s) h'
    | ex c δ1 => exact fun h' => SEnd.unfocus E' w1.ga (o := .ex c δ1) h'
    | bad => exact fun h' => h'
  · refine .inr ⟨⟨_, _, SqL.of w2.lt, rfl⟩, fun σ2 H2 => SqL K H2 L [.ref t1, .ref t2] ∧ D.nx σ2 H2, fun σ2 H2 q => ⟨0, by omega, .inr (.inr ⟨rfl, rfl, q⟩)⟩, fun x H3 ⟨e3, hx⟩ => ?_⟩
    subst e3
    have ex := hx _ (SqL.of w2.lt)
    cases ex
    refine ⟨t2, _, rfl, SqT.of w2.tt, rfl, _, _, rfl, _, _, rfl, rfl, F', past σ' δ' a2 H3, F', _, turn_env i j E' w2, ?_⟩
    have sL : past σ' δ' a2 H3 L = some (.lst [.ref t1, .ref t2]) := (past_s fun z => z.elim w2.mL w2.aL).trans w2.lt
    unfold lastR at h'
    revert h'
    cases b ((δ'.set i (.ow ds2)).set j (.sh d2)) with
    | nx δ1 => exact fun h' σ1 F1 H1 E1 q => ⟨SqL.of (E1.gh.at sL), h' σ1 F1 H1 (E'.unfocus w2.ga E1) q⟩
    | ct δ1 => exact fun h' σ1 F1 H1 E1 q => ⟨SqL.of (E1.gh.at sL), h' σ1 F1 H1 (E'.unfocus w2.ga E1) q⟩
    | bk δ1 => exact fun h' σ1 F1 H1 E1 q => h' σ1 F1 H1 (E'.unfocus w2.ga E1) q
    | rt s => exact fun h' => SEnd.unfocus E' w2.ga (o := .rt s) h'
    | ex c δ1 => exact fun h' => SEnd.unfocus E' w2.ga (o := .ex c δ1) h'
    | bad => exact fun h' => h'
  · exact .inl ⟨⟨_, hs, by simp⟩, hd⟩
end
section
variable {X : Cx} {T : Tb} {W : WX}
theorem ds_two {i j : Nat} {tx ty e1 c1 e2 c2 : Expr} {k k1 k2 : Nat} {p0 p1 p2 p3 pos : Pos} {f1 g1 f2 g2 : DL.Env → Res SV} {b : FS} {body : List Stmt} (hp : PassesOwn (model X.prog X.w) X.A X.env X.xe) (hc : X.calm = true)
    (h1 : PE X e1 (rd X.K T W f1)) (h2 : PE X c1 (rd X.K T W g1)) (h3 : PE X e2 (rd X.K T W f2)) (h4 : PE X c2 (rd X.K T W g2)) (hb : PSs X body (rdS X.K T W b))
    (hg : PGs X [tx, ty] (gCons (gName i) (gCons (gName j) gNil)))
    (m1 : starEach [e1, c1] X.env = (false, eval e1 X.env) :: starEach [c1] X.env := by rfl) (m2 : starEach [c1] X.env = (false, eval c1 X.env) :: starEach [] X.env := by rfl) (m3 : starEach [e2, c2] X.env = (false, eval e2 X.env) :: starEach [c2] X.env := by rfl) (m4 : starEach [c2] X.env = (false, eval c2 X.env) :: starEach [] X.env := by rfl)
    (hl : (assignEach [tx, ty] X.env).length = 2 := by rfl) (hst : (assignEach [tx, ty] X.env).findIdx? (·.1) = none := by rfl)
    (hs : ∀ x, foldedSetIterable (.List [.Tuple [e1, c1] k1 p1, .Tuple [e2, c2] k2 p2] p3) X.env x = pure x := by intro _; rfl) :
    PS X (.For (.Tuple [tx, ty] k p0) (.List [.Tuple [e1, c1] k1 p1, .Tuple [e2, c2] k2 p2] p3) body [] pos) (rdS X.K T W (fTwo i j f1 g1 f2 g2 b)) :=
  PSimp (ps_for hp hc (pi_list (pe_lst (pa_cons (pe_tup (pa_cons h1 (pa_cons h2 pa_nil m2) m1)) (pa_cons (pe_tup (pa_cons h3 (pa_cons h4 pa_nil m4) m3)) pa_nil)))) (pg_tup hc hg hl hst) hb hs) fun _ _ _ h => rd_two h
end
end DL
end

section
set_option Elab.async false
set_option linter.all false
set_option autoImplicit false
set_option maxRecDepth 100000
set_option maxHeartbeats 4000000
/-! Dicts of the frame's own: {}, x[k] = e, x.get(k, e); dicts that stand still. -/
namespace DL
open PySem PySem.Spec PyProof.Rows L2
/-! ### keys and what stands at them -/
def hasK (ks : List Key) (k : Key) : Bool := ks.any fun j => decide (j = k)
def putKs (ks : List Key) (k : Key) : List Key := if hasK ks k = true then ks else ks ++ [k]
def putI {α : Type} (ks : List Key) (xs : List α) (k : Key) (x : α) : List α := if hasK ks k = true then List.zipWith (fun j y => if j = k then x else y) ks xs else xs ++ [x]
def getI {α : Type} : List Key → List α → Key → Option α
  | j :: ks, x :: xs, k => if j = k then some x else getI ks xs k
  | _, _, _ => none
theorem valV_zip (k : Key) : ∀ (ks : List Key) (us : List V), valV (ks.zip us) k = getI ks us k
  | [], us => by cases us <;> rfl
  | j :: ks, [] => rfl
  | j :: ks, u :: us => by
    show valV ((j, u) :: ks.zip us) k = if j = k then some u else getI ks us k
    by_cases e : j = k
    · rw [if_pos e]
      exact valV_pos (p := (j, u)) e
    · rw [if_neg e, ← valV_zip k ks us]
      exact valV_neg (p := (j, u)) e
theorem any_zip (k : Key) : ∀ (ks : List Key) (us : List V), us.length = ks.length → ((ks.zip us).any fun kv => decide (kv.1 = k)) = hasK ks k
  | [], us, _ => by cases us <;> rfl
  | j :: ks, [], h => by cases h
  | j :: ks, u :: us, h => by
    have ih := any_zip k ks us (Nat.succ.inj h)
    show (decide (j = k) || (ks.zip us).any fun kv => decide (kv.1 = k)) = (decide (j = k) || hasK ks k)
    rw [ih]
theorem map_zip (k : Key) (v : V) : ∀ (ks : List Key) (us : List V), (ks.zip us).map (fun kv => if kv.1 = k then (kv.1, v) else kv) = ks.zip (List.zipWith (fun j y => if j = k then v else y) ks us)
  | [], us => by cases us <;> rfl
  | j :: ks, [] => rfl
  | j :: ks, u :: us => by
    show (if j = k then (j, v) else (j, u)) :: (ks.zip us).map (fun kv => if kv.1 = k then (kv.1, v) else kv) = (j, if j = k then v else u) :: ks.zip (List.zipWith (fun j y => if j = k then v else y) ks us)
    rw [map_zip k v ks us]
    split <;> rfl
theorem putK_zip {ks : List Key} {us : List V} (k : Key) (v : V) (h : us.length = ks.length) : putK (ks.zip us) k v = (putKs ks k).zip (putI ks us k v) := by
  unfold putK putKs putI
  rw [any_zip k ks us h]
  by_cases e : hasK ks k = true
  · rw [if_pos e, if_pos e, if_pos e]
    exact map_zip k v ks us
  · rw [if_neg e, if_neg e, if_neg e, List.zip_append h.symm]
    rfl
theorem putI_len {α : Type} {ks : List Key} {xs : List α} (k : Key) (x : α) (h : xs.length = ks.length) : (putI ks xs k x).length = (putKs ks k).length := by
  unfold putI putKs
  split
  · rw [List.length_zipWith, h, Nat.min_self]
  · rw [List.length_append, List.length_append, h]
    rfl
section
variable {K : PySem.W.Frag} {T : Tb} {F : Hp}
theorem get_rep (k : Key) : ∀ {ks : List Key} {us : List V} {ds : List D}, Reps K T F us ds → us.length = ks.length → (getI ks us k = none ∧ getI ks ds k = none) ∨ ∃ u d, getI ks us k = some u ∧ getI ks ds k = some d ∧ Rep K T F u d
  | [], _, _, .nil, _ => .inl ⟨rfl, rfl⟩
  | _ :: _, _, _, .nil, h => by cases h
  | [], _, _, .cons _ _, h => by cases h
  | j :: ks, _, _, .cons (v := u) (d := d) r rs, h => by
    unfold getI
    by_cases e : j = k
    · rw [if_pos e, if_pos e]
      exact .inr ⟨u, d, rfl, rfl, r⟩
    · rw [if_neg e, if_neg e]
      exact get_rep k rs (Nat.succ.inj h)
theorem zw_rep (k : Key) {v : V} {d : D} (hv : Rep K T F v d) : ∀ {ks : List Key} {us : List V} {ds : List D}, Reps K T F us ds → Reps K T F (List.zipWith (fun j y => if j = k then v else y) ks us) (List.zipWith (fun j y => if j = k then d else y) ks ds)
  | [], _, _, _ => .nil
  | _ :: _, _, _, .nil => .nil
  | j :: ks, _, _, .cons r rs => by
    refine .cons ?_ (zw_rep k hv rs)
    show Rep K T F (if j = k then v else _) (if j = k then d else _)
    split
    · exact hv
    · exact r
theorem put_rep (k : Key) {v : V} {d : D} (hv : Rep K T F v d) {ks : List Key} {us : List V} {ds : List D} (r : Reps K T F us ds) : Reps K T F (putI ks us k v) (putI ks ds k d) := by
  unfold putI
  split
  · exact zw_rep k hv r
  · exact r.append (.cons hv .nil)
end
def keyOf : D → Option Key
  | .int i => some (.inl i)
  | .str x => some (.inr x)
  | _ => none
theorem rep_key {K : PySem.W.Frag} {T : Tb} {F : Hp} {y : V} {d : D} {k : Key} (r : Rep K T F y d) (h : keyOf d = some k) : y = kV k := by
  cases r <;> cases h <;> rfl
theorem reps_key {K : PySem.W.Frag} {T : Tb} {F H H0 : Hp} {σ : L2.St} {δ : Env} {y : V} {s : SV} {k : Key} (r : RepS K T F H H0 σ δ y s) (h : keyOf s.d = some k) : y = kV k := by
  cases s with
  | sh d => exact rep_key r h
  | ow ds => cases h
  | br i ds => cases h
/-! ### the slots -/
def isOd : Sl → Bool
  | .od _ _ => true
  | _ => false
/-- no other slot holds a dict of ours -/
def soleD (i : Nat) (δ : Env) : Bool := (δ.set i .no).all fun s => !isOd s
theorem soleD_ne {i j : Nat} {δ : Env} {ks : List Key} {ds : List D} (h : soleD i δ = true) (hj : δ[j]? = some (Sl.od ks ds)) : j = i := by
  by_cases e : j = i
  · exact e
  · have hm : (δ.set i .no)[j]? = some (Sl.od ks ds) := by rw [List.getElem?_set_ne (fun z => e z.symm)]; exact hj
    have := List.all_eq_true.mp h _ (List.mem_of_getElem? hm)
    cases this
section
variable {K : PySem.W.Frag} {T : Tb} {W : WX} {F0 G F F' H H' : Hp} {σ : L2.St} {δ : Env}
/-- a new dict is put into the slot i -/
theorem EnvR.setE {i : Nat} {a : Addr} {ks : List Key} {us : List V} {ds : List D} (E : EnvR K T F0 G F H σ δ) (hF : F a = none) (hG : G a = none) (hH : H a = some (.dK (ks.zip us))) (hl : us.length = ks.length) (r : Reps K T F us ds) : EnvR K T F0 G F H (σ.set i (some (.ref a))) (δ.set i (.od ks ds)) where
  f0 := E.f0
  gh := E.gh
  fh := E.fh
  tb := E.tb
  fr := E.fr
  len := by rw [List.length_set, List.length_set]; exact E.len
  sh := fun j e h => by
    rcases getset h with ⟨_, q, _⟩ | ⟨hn, h⟩
    · cases q
    · obtain ⟨w, h1, h2⟩ := E.sh j e h
      exact ⟨w, by rw [List.getElem?_set_ne hn]; exact h1, h2⟩
  ow := fun j ds h => by
    rcases getset h with ⟨_, q, _⟩ | ⟨hn, h⟩
    · cases q
    · obtain ⟨a, vs, h1, h2⟩ := E.ow j ds h
      exact ⟨a, vs, by rw [List.getElem?_set_ne hn]; exact h1, h2⟩
  ex := fun j h => by
    rcases getset h with ⟨_, q, _⟩ | ⟨hn, h⟩
    · cases q
    · rw [List.getElem?_set_ne hn]; exact E.ex j h
  me := fun j a c fs h => by
    rcases getset h with ⟨_, q, _⟩ | ⟨hn, h⟩
    · cases q
    · obtain ⟨z, dx, gs, h1, h2⟩ := E.me j a c fs h
      exact ⟨z, dx, gs, by rw [List.getElem?_set_ne hn]; exact h1, h2⟩
  od := fun j ks' ds' h => by
    rcases getset h with ⟨e, q, l⟩ | ⟨hn, h⟩
    · cases q
      subst e
      exact ⟨a, us, List.getElem?_set_self (by rw [E.len]; exact l), hF, hG, hH, hl, r⟩
    · obtain ⟨b, us', h1, h2⟩ := E.od j ks' ds' h
      exact ⟨b, us', by rw [List.getElem?_set_ne hn]; exact h1, h2⟩
  ap := fun j k a ds es hjk h1 h2 h3 h4 => by
    rcases getset h1 with ⟨_, q, _⟩ | ⟨n1, h1⟩
    · cases q
    · rcases getset h2 with ⟨_, q, _⟩ | ⟨n2, h2⟩
      · cases q
      · rw [List.getElem?_set_ne n1] at h3
        rw [List.getElem?_set_ne n2] at h4
        exact E.ap j k a ds es hjk h1 h2 h3 h4
/-- the dict of the slot i is changed -/
theorem EnvR.storeE {i : Nat} {a : Addr} {ks ks2 : List Key} {ds es : List D} {ws : List V} (E : EnvR K T F0 G F H σ δ) (so : soleD i δ = true) (hi : δ[i]? = some (Sl.od ks ds)) (ha : σ[i]? = some (some (V.ref a))) (hl : ws.length = ks2.length) (r : Reps K T F ws es) :
    EnvR K T F0 G F (upd H a (.dK (ks2.zip ws))) σ (δ.set i (.od ks2 es)) := by
  obtain ⟨b, vs, h1, h2, h3, h4, h5, h6⟩ := E.od i ks ds hi
  rw [ha] at h1
  cases h1
  refine ⟨E.f0, Exn.mut E.gh h3, Exn.mut E.fh h2, E.fr, by rw [List.length_set]; exact E.len, fun j e h => ?_, fun j es' h => ?_, fun j h => ?_, fun j b c fs h => ?_, fun j ks' ds' h => ?_, fun j k b ds' es' hjk g1 g2 g3 g4 => ?_, E.tb.put h4 rfl⟩
  · rcases getset h with ⟨_, q, _⟩ | ⟨hn, h⟩
    · cases q
    · exact E.sh j e h
  · rcases getset h with ⟨_, q, _⟩ | ⟨hn, h⟩
    · cases q
    · obtain ⟨c, us, g1, g2, g3, g4, g5⟩ := E.ow j es' h
      have z : c ≠ a := fun z => by subst z; rw [h4] at g4; cases g4
      exact ⟨c, us, g1, g2, g3, by rw [upd_ne z]; exact g4, g5⟩
  · rcases getset h with ⟨_, q, _⟩ | ⟨hn, h⟩
    · cases q
    · exact E.ex j h
  · rcases getset h with ⟨_, q, _⟩ | ⟨hn, h⟩
    · cases q
    · obtain ⟨z, dx, gs, g1, g2, g3, g4, g5⟩ := E.me j b c fs h
      have z2 : b ≠ a := fun z2 => by subst z2; rw [h4] at g4; cases g4
      exact ⟨z, dx, gs, g1, g2, g3, by rw [upd_ne z2]; exact g4, g5⟩
  · rcases getset h with ⟨e, q, _⟩ | ⟨hn, h⟩
    · cases q
      subst e
      exact ⟨a, ws, ha, h2, h3, upd_same, hl, r⟩
    · exact absurd (soleD_ne so h).symm hn
  · rcases getset g1 with ⟨_, q, _⟩ | ⟨n1, g1⟩
    · cases q
    · rcases getset g2 with ⟨_, q, _⟩ | ⟨n2, g2⟩
      · cases q
      · exact E.ap j k b ds' es' hjk g1 g2 g3 g4
/-- the dict of the slot i stands still from now on -/
theorem EnvR.freezeE {i : Nat} {ks : List Key} {ds : List D} (E : EnvR K T F0 G F H σ δ) (so : soleD i δ = true) (hi : δ[i]? = some (Sl.od ks ds)) : ∃ F', Exn F F' ∧ EnvR K T F0 G F' H σ (δ.set i (.sh (.dic ks ds))) := by
  obtain ⟨a, vs, h1, h2, h3, h4, h5, h6⟩ := E.od i ks ds hi
  have new : Exn F (upd F a (.dK (ks.zip vs))) := Exn.new h2
  refine ⟨upd F a (.dK (ks.zip vs)), new, Exn.trans E.f0 new, E.gh, ⟨fun b u hb n => ?_, fun b hb => ?_⟩, fun b u m g1 g2 => ?_, by rw [List.length_set]; exact E.len, fun j e h => ?_, fun j es h => ?_, fun j h => ?_, fun j b c fs h => ?_, fun j ks' ds' h => ?_, fun j k b ds' es hjk g1 g2 g3 g4 => ?_, E.tb⟩
  · by_cases z : b = a
    · subst z; rw [upd_same] at hb; rw [h4]; exact hb
    · rw [upd_ne z] at hb; exact E.fh.a b u hb n
  · have z : b ≠ a := fun z => by subst z; rw [h4] at hb; cases hb
    rw [upd_ne z]; exact E.fh.n b hb
  · have z : b ≠ a := fun z => by subst z; rw [h3] at g2; cases g2
    rw [upd_ne z]; exact E.fr b u m g1 g2
  · rcases getset h with ⟨rfl, q, hl⟩ | ⟨hn, h⟩
    · cases q
      exact ⟨_, h1, .dic upd_same h5 (h6.mono new)⟩
    · obtain ⟨w, g1, g2⟩ := E.sh j e h
      exact ⟨w, g1, g2.mono new⟩
  · rcases getset h with ⟨_, q, _⟩ | ⟨hn, h⟩
    · cases q
    · obtain ⟨b, ws, g1, g2, g3, g4, g5⟩ := E.ow j es h
      have z : b ≠ a := fun z => by subst z; rw [h4] at g4; cases g4
      exact ⟨b, ws, g1, by rw [upd_ne z]; exact g2, g3, g4, g5.mono new⟩
  · rcases getset h with ⟨_, q, _⟩ | ⟨hn, h⟩
    · cases q
    · exact E.ex j h
  · rcases getset h with ⟨_, q, _⟩ | ⟨hn, h⟩
    · cases q
    · obtain ⟨z, dx, gs, g1, g2, g3, g4, g5⟩ := E.me j b c fs h
      have z2 : b ≠ a := fun z2 => by subst z2; rw [h4] at g4; cases g4
      exact ⟨z, dx, gs, g1, by rw [upd_ne z2]; exact g2, g3, g4, g5.mono new⟩
  · rcases getset h with ⟨_, q, _⟩ | ⟨hn, h⟩
    · cases q
    · exact absurd (soleD_ne so h).symm hn
  · rcases getset g1 with ⟨_, q, _⟩ | ⟨n1, g1⟩
    · cases q
    · rcases getset g2 with ⟨_, q, _⟩ | ⟨n2, g2⟩
      · cases q
      · exact E.ap j k b ds' es hjk g1 g2 g3 g4
end
/-! ### the rules -/
def fDnew (i : Nat) : FS := fun δ => .nx (δ.set i (.od [] []))
def fDput (i : Nat) (fk fe : Env → Res SV) : FS := fun δ => match δ[i]? with
  | some (.od ks ds) => (fe δ).out δ fun s => (fk δ).out δ fun k => match keyOf k.d, s.fz with
    | some key, .sh d => if ks.length ≤ 1000000 ∧ soleD i δ = true then .nx (δ.set i (.od (putKs ks key) (putI ks ds key d))) else .bad
    | _, _ => .bad
  | _ => .bad
def fFzE (i : Nat) (s : FS) : FS := fun δ => match δ[i]? with
  | some (.od ks ds) => if soleD i δ = true then s (δ.set i (.sh (.dic ks ds))) else .bad
  | _ => s δ
def fDgot (ks : List Key) (ds : List D) (fk fe : Env → Res SV) : Env → Res SV := fun δ => (fk δ).bind fun k => (fe δ).bind fun z => match keyOf k.d with
  | some key => (match getI ks ds key with
    | some d => .ok (.sh d)
    | none => .ok z.fz)
  | none => .bad
def fDget (i : Nat) (fk fe : Env → Res SV) : Env → Res SV := fun δ => match δ[i]? with
  | some (.od ks ds) => fDgot ks ds fk fe δ
  | some (.sh (.dic ks ds)) => fDgot ks ds fk fe δ
  | _ => .bad
section
variable {X : Cx} {T : Tb} {W : WX}
theorem ds_dnew {i : Nat} {x : Str} {pd pos pos' : Pos} (hN : X.N.Nodup) (hi : X.N[i]? = some x) (hx : Loc X.env.scope x) (hs : swapsWith (.Dict [] [] pd) (some (.Name x pos')) pos.line X.env = pure false := by rfl) (hf : X.fn x = true ∨ X.env.scope.names.lookup x = some .local := by first | exact .inl rfl | exact .inr rfl | assumption) :
    PS X (.Assign [.Name x pos'] (.Dict [] [] pd) pos) (rdS X.K T W (fDnew i)) := PSimp (ps_set hN hi hx pe_dnewK hs hf) fun D σ H ⟨F0, G, F, δ, E, h⟩ => by
  intro p hp
  have st := Stp.new (T := T) (o := .dK []) E.fh hp
  have E2 := (E.grow st).setE (i := i) (ks := []) (us := []) (ds := []) (Exn.back E.fh hp) (Exn.back E.gh hp) upd_same rfl .nil
  exact h _ F _ E2 (Exn.refl _)
theorem ds_fzE {i : Nat} {st : Stmt} {f : FS} (h1 : PS X st (rdS X.K T W f)) : PS X st (rdS X.K T W (fFzE i f)) := PSimp h1 fun D σ H ⟨F0, G, F, δ, E, h⟩ => by
  unfold fFzE at h
  split at h
  · rename_i ks ds hi
    split at h
    · rename_i so
      obtain ⟨F', q, E'⟩ := E.freezeE so hi
      exact ⟨F0, G, F', _, E', SEnd.later q h⟩
    · exact h.elim
  · exact ⟨F0, G, F, δ, E, h⟩
theorem ds_dput {i : Nat} {x : Str} {e value : Expr} {p pos' pos : Pos} {fk fe : Env → Res SV} (hu : X.A.units + 1 < cLine) (hv : PE X (.Name x p) (tVar i)) (hk : PE X e (rd X.K T W fk)) (he : PE X value (rd X.K T W fe)) (hs : swapsWith value (some (.Subscript (.Name x p) e pos')) pos.line X.env = pure false := by rfl) :
    PS X (.Assign [.Subscript (.Name x p) e pos'] value pos) (rdS X.K T W (fDput i fk fe)) := PSimp (ps_dput hu hv hk he hs) fun D σ H ⟨F0, G, F, δ, E, h⟩ => by
  unfold fDput at h
  split at h
  · rename_i ks ds hi
    refine rd_out E h fun v s F1 H1 p1 r1 h1 => ?_
    obtain ⟨F2, p2, r2⟩ := RepS.fz p1 r1
    have E1 := E.grow p2
    obtain ⟨a, us, e1, _⟩ := E1.od i ks ds hi
    refine ⟨_, e1, rd_out E1 (SEnd.later p2.ff h1) fun y k F3 H3 p3 r3 h3 => ?_⟩
    cases q : keyOf k.d with
    | none => rw [q] at h3; exact h3.elim
    | some key =>
      rw [q] at h3
      cases q2 : s.fz with
      | ow ds' => rw [q2] at h3; exact h3.elim
      | br j ds' => rw [q2] at h3; exact h3.elim
      | sh d =>
        rw [q2] at h3 r2
        dsimp only at h3
        split at h3
        · rename_i c
          have E3 := E1.grow p3
          obtain ⟨a', us', e2, f2, g2, l2, n2, rs2⟩ := E3.od i ks ds hi
          rw [e1] at e2
          cases e2
          have ey := reps_key r3 q
          subst ey
          have rd2 : Rep X.K T F3 v d := Rep.mono p3.ff r2
          refine ⟨a, _, rfl, DPut.k l2 (by rw [List.length_zip, n2, Nat.min_self]; exact Nat.lt_of_le_of_lt c.1 (by decide)), ?_⟩
          rw [putK_zip key v n2]
          exact h3 _ F3 _ (E3.storeE c.2 hi e1 (putI_len key v n2) (put_rep key rd2 rs2)) p3.ff
        · exact h3.elim
  · exact h.elim
theorem de_dget {i : Nat} {x : Str} {e f : Expr} {p apos cpos : Pos} {fk fe : Env → Res SV} (hu : X.A.units + 1 < cLine) (hv : PE X (.Name x p) (tVar i)) (hk : PE X e (rd X.K T W fk)) (hf : PE X f (rd X.K T W fe)) (m : M2 X (.Name x p) "get" apos e f cpos) :
    PE X (.Call (.Attribute (.Name x p) "get" apos) [e, f] [] cpos) (rd X.K T W (fDget i fk fe)) := PEimp (pe_dget2 hu hv hk hf m) fun σ H Q ⟨F0, G, F, δ, E, h⟩ => by
  have main : ∀ (a : Addr) (ks : List Key) (us : List V) (ds : List D), σ[i]? = some (some (V.ref a)) → H a = some (.dK (ks.zip us)) → us.length = ks.length → Reps X.K T F us ds → REnd X.K T W F H σ δ Q (fDgot ks ds fk fe δ) → tDGet2 (tVar i) (rd X.K T W fk) (rd X.K T W fe) σ H Q := fun a ks us ds e1 l1 n1 rs h => by
    refine ⟨_, e1, a, rfl, .inl ⟨_, .inl l1⟩, ?_⟩
    unfold fDgot at h
    refine rd_bind E h fun y k F1 H1 p1 r1 h1 => ?_
    refine rd_bind (E.grow p1) (h1.later p1) fun z s F2 H2 p2 r2 h2 => ?_
    cases q : keyOf k.d with
    | none => rw [q] at h2; exact h2.elim
    | some key =>
      rw [q] at h2
      dsimp only at h2
      have ey := reps_key r1 q
      subst ey
      obtain ⟨F3, p3, r3⟩ := RepS.fz p2 r2
      have l2 := (p1.trans p2).hh.at l1
      refine ⟨_, DGet.k l2, ?_⟩
      rw [valV_zip]
      rcases get_rep key rs n1 with ⟨g1, g2⟩ | ⟨u, d, g1, g2, g3⟩
      · rw [g1]
        rw [g2] at h2
        exact h2 z F3 H2 p3 r3
      · rw [g1]
        rw [g2] at h2
        exact h2 u F2 H2 p2 (Rep.mono (p1.trans p2).ff g3)
  unfold fDget at h
  split at h
  · rename_i ks ds hi
    obtain ⟨a, us, e1, _, _, l1, n1, rs⟩ := E.od i ks ds hi
    exact main a ks us ds e1 l1 n1 rs h
  · rename_i ks ds hi
    obtain ⟨v, e1, r⟩ := E.sh i _ hi
    cases r with
    | dic l1 n1 rs => exact main _ ks _ ds e1 (E.fh.at l1) n1 rs h
  · exact h.elim
end
end DL
end

section
set_option Elab.async false
set_option linter.all false
set_option autoImplicit false
set_option maxRecDepth 100000
set_option maxHeartbeats 4000000
/-! An exception that a comprehension's element lets out. -/
namespace XK
open PySem PySem.Spec PyProof.Rows L2
/-- a block's context with a wish for what its element lets out -/
abbrev blkE (X : Cx) (s : Shared) (H : Hp) (scope : Scope) (cenv : Env) (fp : List Addr) (xe : Value → Shared → Prop) : Cx := { X.blk s H scope cenv fp with xe := xe }
section
variable {X : Cx} {s m t : Shared} {H H' : Hp} {scope : Scope} {cenv : Env} {fp : List Addr} {xe : Value → Shared → Prop} {pins : List Pin} {σ : L2.St}
theorem okE (k : (X.blk s H scope cenv fp).Ok) : (blkE X s H scope cenv fp xe).Ok :=
  ⟨k.mod, k.kind, k.glob, k.blt, k.above, k.inj, k.has, k.cab, k.hd, k.frames, k.stk, k.exf, k.bs, k.bsz, k.noex, k.exfs, k.funs, k.frf⟩
theorem okF (k : (blkE X s H scope cenv fp xe).Ok) : (X.blk s H scope cenv fp).Ok :=
  ⟨k.mod, k.kind, k.glob, k.blt, k.above, k.inj, k.has, k.cab, k.hd, k.frames, k.stk, k.exf, k.bs, k.bsz, k.noex, k.exfs, k.funs, k.frf⟩
theorem toE (I : Inv (X.blk s H scope cenv fp) pins σ H' m) : Inv (blkE X s H scope cenv fp xe) pins σ H' m :=
  ⟨okE I.ok, I.os, I.bare, I.base, I.loc, I.cell, I.free, I.freeC, I.pin, I.hok, I.len⟩
theorem ofE (I : Inv (blkE X s H scope cenv fp xe) pins σ H' m) : Inv (X.blk s H scope cenv fp) pins σ H' m :=
  ⟨okF I.ok, I.os, I.bare, I.base, I.loc, I.cell, I.free, I.freeC, I.pin, I.hok, I.len⟩
theorem funs_sub {B B2 h : Heap} (k : ∀ b, B.get? b = none → B2.get? b = none) : ∀ {l : List Env}, h.FunFrames B l → h.FunFrames B2 l
  | [], _ => trivial
  | _ :: _, ⟨h1, ⟨L, o, h2, h3, h4⟩, h5⟩ => ⟨h1, ⟨L, o, h2, k L h3, h4⟩, funs_sub k h5⟩
/-- noted by the frame though another place stands in its entry -/
theorem look_odd {M : Model} {A : Around} {E : Value → Shared → Prop} {Z : Obj → Prop} {base : Heap} {env : Env} {outer : List Env} {L C e : Addr} {Q : Unit → Shared → Prop} (hZ : PXN.Steady1 Z) (hfr : A.frames = some (env :: outer)) (hf : env.frame = some L) (ne : C ≠ L)
    (hh : HandSPX.HeldZ base (env :: outer) e Z C s.heap) (hQ : ∀ h', HandSPX.HeldZ base (env :: outer) e Z L h' → s.heap.UpToSlots h' → Q () { s with heap := h' }) : wpAny M A (noteFrame (.ref e) env) Q E s := by
  obtain ⟨kb, en, fl, oe, us, T, oT, ts, g1, z1, d1, f1, nT, Te, g2, d2, f3⟩ := hh
  unfold noteFrame
  simp only [hf]
  refine wpAny_bind (wpAny_field g1 d1 f1 ?_)
  rw [if_pos (by simp : (Value.ref T != Value.none) = true)]
  refine wpAny_bind (wpAny_field g2 d2 f3 ?_)
  have nq : ¬ ((rawInt C == rawInt L) = true) := by
    intro q
    have q := eq_of_beq q
    unfold rawInt at q
    injection q with q _
    exact ne (Int.ofNat.inj q)
  rw [if_neg nq]
  refine wpAny_bind (wpAny_setField g2 d2 (Array.getElem?_eq_some_iff.mp f3).1 ?_)
  have oth : ∀ b, b ≠ T → (s.heap.update T (Obj.mapFields (·.setIfInBounds 3 Value.none))).get? b = s.heap.get? b := fun b hb => Heap.get?_update_other _ _ (Ne.symm hb)
  have nT' : ∀ b o, s.heap.get? b = some o → (∀ vs, o.data ≠ .fields vs) → b ≠ T := fun b o hb hnf q => by
    subst q
    cases g2.symm.trans hb
    exact hnf ts d2
  have fl' := fl.of_keeps (h' := s.heap.update T (Obj.mapFields (·.setIfInBounds 3 Value.none))) fun b o hb hnf => ⟨o, (oth b (nT' b o hb hnf)).trans hb, rfl⟩
  have kb' : base.StaysIn (s.heap.update T (Obj.mapFields (·.setIfInBounds 3 Value.none))) := fun b o hbo => by
    have q : b ≠ T := fun q => by subst q; rw [nT] at hbo; cases hbo
    exact (oth b q).trans (kb b o hbo)
  refine PXN.wpAny_entryZ hZ hfr fl' hf ((oth e (Ne.symm Te)).trans g1) kb' en d1 (Array.getElem?_eq_some_iff.mp f1).1 z1 fun h' hN => ?_
  exact hQ h' ⟨hN.1, en, hN.2.1, hN.2.2.1⟩ fun b o hb hnf => hN.2.2.2 b o ((oth b (nT' b o hb hnf)).trans hb) hnf
/-- what is in the block's air is let out of the def's frame -/
theorem XE.out {Wb W : WX} {u : Value} (I : Inv X pins σ H s) (hs : X.stack = X.env :: X.outer) (hf : X.env.frame = some X.env.locals) (hfp : ∀ b ∈ fp, FpOk X pins H b) (hC : cenv.locals = s.heap.objs.size) (hcf : cenv.frame = X.env.frame)
    (tk : Takes X W) (hW : ∀ cls d σ' H', Wb cls d σ' H' → W cls d σ H') (x : XE (blkE X s H scope cenv fp xe) Wb u t) :
    notedBy (model X.prog X.w) X.A cenv (CompFails (model X.prog X.w) X.A X.xe cenv) u t := by
  obtain ⟨a, B, m, pins', σ', H', cls, d, ps, rfl, Im, nb, up, sky, ck, na, os, ag, w⟩ := x
  have J : Inv X pins σ H' m := I.call' (ch := fp) Im.os Im.base Im.hok Im.bare fun b hb => ⟨(hfp b hb).2.2.2.1, (hfp b hb).2.1, (hfp b hb).2.2.2.2.1, (hfp b hb).2.2.2.2.2⟩
  have nC : H' cenv.locals = none := Im.free
  have fC : FpOk X pins H' cenv.locals := by
    rw [hC] at nC ⊢
    exact I.fpOk (Nat.le_refl _) nC
  have hL : cenv.locals ≠ X.env.locals := fC.2.1
  obtain ⟨mm, hn, _⟩ := Im.loc
  have hn : m.heap.Ns cenv.locals mm := hn
  have hfr : X.A.frames = some (X.env :: X.outer) := hs ▸ I.ok.frames
  have sky : Sky B (X.env :: X.outer) a (Zk cls d ps) cenv.locals t.heap := hs ▸ sky
  show wpAny _ X.A (noteFrame (.ref a) cenv) _ _ t
  rw [noteFrame_env _ hcf]
  -- held by the def's frame
  have fin : ∀ h1, HandSPX.HeldZ B (X.env :: X.outer) a (Zk cls d ps) X.env.locals h1 → t.heap.UpToSlots h1 → CompFails (model X.prog X.w) X.A X.xe cenv (.ref a) { t with heap := h1 } := fun h1 hh up1 => by
    refine ⟨mm, (up.trans up1).ns hn, fun h2 m2 hn2 sb => ?_⟩
    obtain ⟨kb, en, fl, oe, us, T, oT, ts, g1, z1, d1, f1, nT, Te, g2, d2, f3⟩ := hh
    have notC : ∀ b o vs, h1.get? b = some o → o.data = .fields vs → b ≠ cenv.locals := fun b o vs e dd q => by
      subst q
      obtain ⟨o', es, ep, e', d', _⟩ := (up.trans up1).ns hn
      cases e.symm.trans e'
      cases dd.symm.trans d'
    have kp : ∀ b o, b ≠ cenv.locals → h1.get? b = some o → h2.get? b = some o := fun b o hb e => (sb.2 b hb).trans e
    have hid : ∀ b, B.get? b = none → (PySem.W.hideAll B [cenv.locals]).get? b = none := fun b e => by
      cases q : (PySem.W.hideAll B [cenv.locals]).get? b with
      | none => rfl
      | some o => cases e.symm.trans (PySem.W.of_hideAll _ q)
    have hidC : ∀ b o, (PySem.W.hideAll B [cenv.locals]).get? b = some o → b ≠ cenv.locals := fun b o e q => by
      subst q
      rw [PySem.W.hideAll_none _ (List.mem_singleton.mpr rfl)] at e
      cases e
    have st : (PySem.W.hideAll B [cenv.locals]).StaysIn h2 := fun b o e => kp b o (hidC b o e) (kb b o (PySem.W.of_hideAll _ e))
    have tr : HandSPX.TracedZ h2 (PySem.W.hideAll B [cenv.locals]) a (Zk cls d ps) (rawInt X.env.locals) :=
      ⟨oe, us, T, oT, ts, kp a oe (notC a oe us g1 d1) g1, z1, d1, f1, hid T nT, Te, kp T oT (notC T oT ts g2 d2) g2, d2, f3⟩
    have fl2 : h2.FunFrames (PySem.W.hideAll B [cenv.locals]) (X.env :: X.outer) := funs_sub hid (Heap.FunFrames.sameBut sb hn2 fl)
    unfold PySem.passOn
    refine wpAny_bind (wpAny_field (kp a oe (notC a oe us g1 d1) g1) d1 f1 ?_)
    rw [if_neg (by simp : ¬ ((Value.ref T == Value.none) = true))]
    rw [hcf, hf]
    refine wpAny_bind (HandSPX.setFlight_anyZ st fl2 tr fun h3 s3 f3' t3 up3 => wpAny_throw (tk _ _ ?_))
    have Jm : Inv X pins σ H' { m with heap := PySem.W.hideAll m.heap [cenv.locals] } :=
      J.turned (t' := m.toks) (fun b o hb e => PySem.W.hideAll_get _ e fun q => hb (List.mem_singleton.mp q)) fC.1 fC.2.1 fC.2.2.2.1 fC.2.2.2.2.1 fC.2.2.2.2.2
    refine ⟨a, PySem.W.hideAll B [cenv.locals], _, pins, σ, H', cls, d, ps, rfl, Jm, fun b o e hb => ?_, fun b o e hnf => ?_, .inr (.inr ?_), ⟨ck.nd, fun p hp => ?_⟩, na, os, ag, hW _ _ _ _ w⟩
    · have e1 : m.heap.get? b = some o := PySem.W.of_hideAll _ e
      refine PySem.W.hideAll_get _ (nb b o e1 hb) fun q => ?_
      rw [List.mem_singleton.mp q] at e
      rw [PySem.W.hideAll_none _ (List.mem_singleton.mpr rfl)] at e
      cases e
    · have e1 : m.heap.get? b = some o := PySem.W.of_hideAll _ e
      have bC : b ≠ cenv.locals := fun q => by
        rw [q, PySem.W.hideAll_none _ (List.mem_singleton.mpr rfl)] at e
        cases e
      obtain ⟨z, q⟩ := (up.trans up1) b o e1 hnf
      obtain ⟨z2, q2⟩ := up3 b _ (kp b _ bC q) hnf
      exact ⟨z2, q2⟩
    · rw [hs]
      exact ⟨s3, hid a en, f3', t3⟩
    · obtain ⟨q1, q2, vs, q3⟩ := ck.at_ p hp
      refine ⟨PySem.W.hideAll_get _ q1 fun q => ?_, q2, vs, q3⟩
      exact notC p.1 p.2 vs (kb _ _ q1) q3 (List.mem_singleton.mp q)
  rcases sky with ⟨hB, en, fl, oe, vs, he, hz, hd, h1⟩ | fl | hd
  · exact PXN.look_newZ Zk.steady hfr fl hf he hB en hd h1 hz fin
  · exact PXN.looks_onZ Zk.steady hfr hf fl fin
  · exact look_odd Zk.steady hfr hf hL hd fin
end
end XK
namespace XK
open PySem PySem.Spec PyProof.Rows L2
section
variable {X : Cx} {W : WX}
/-- a wish within the block, of a wish without -/
def wBlk (W : WX) (σ : L2.St) : WX := fun cls d _ H => W cls d σ H
/-- [elt for target in iter if ..], the element may let something out -/
def tLcX (W : WX) (wi : TI) (g : TG) (tt : TT) (te : WX → TE) (vs : List Nat) : TE := fun σ H Q => tLc wi g tt (te (wBlk W σ)) vs σ H Q
theorem lcx_core {pins : List Pin} {s : Shared} {σ : L2.St} {H : Hp} {Q : VK} {elt tg iter : Expr} {ifs : List Expr} {scope : Scope} {own : List (Str × Nat)} {pos pos' : Pos} {wi : TI} {g : TG} {tt : TT} {te : WX → TE} {use : Option (Value → Sem Unit)} {Qf : Value → Shared → Prop}
    (hs : X.stack = X.env :: X.outer) (hf : X.env.frame = some X.env.locals) (tk : Takes X W) (hc : X.calm = true) (hN : X.N.Nodup) (I : Inv X pins σ H s) (hi : PI X tg iter wi) (ok : BlkOk X.N X.env.scope scope own)
    (hg : ∀ (s : Shared) (H : Hp) (C : Addr) (cl : List (Str × Addr)) (fp : List Addr), PG (X.blk s H scope (compEnvC scope cl C X.env) fp) tg g)
    (ht : ∀ (s : Shared) (H : Hp) (C : Addr) (cl : List (Str × Addr)) (fp : List Addr), PTs (X.blk s H scope (compEnvC scope cl C X.env) fp) ifs tt)
    (he : ∀ (s : Shared) (H : Hp) (C : Addr) (cl : List (Str × Addr)) (fp : List Addr) (xe : Value → Shared → Prop) (Wb : WX), Takes (blkE X s H scope (compEnvC scope cl C X.env) fp xe) Wb → PE (blkE X s H scope (compEnvC scope cl C X.env) fp xe) elt (te Wb))
    (hsi : ∀ x, foldedSetIterable iter X.env x = pure x) (h : tLcX W wi g tt te (own.map (·.2)) σ H Q)
    (hRR : ∀ D (cenv : Env) s' m H', Inv X pins σ H' s' → Q (.ref D) H' → s'.heap.Ns cenv.locals m → FpOk X pins H' cenv.locals → compEnds (model X.prog X.w) X.A X.xe use Qf (.ref D) cenv (.ok .next) s') :
    wpAny (model X.prog X.w) X.A (comprehension (.ListComp elt [⟨tg, iter, ifs, 0⟩] scope pos) scope X.env pos' (newList []) false (eval iter X.env) use) Qf X.xe s := by
  have cap : ∀ y ∈ scope.names, y.2 = .free → ∃ c, X.env.cells.lookup y.1 = some c := fun y hy e => I.ok.has _ ((ok.free y hy e).imp id id)
  refine comprehension_at (use := use) rfl hsi (closure_ok cap) ok.kind (fun y hy e => by rw [ok.uniq y hy, e]) ?_
  refine thn (hi.run pins s σ H _ I h) fun xv t1 hx => ?_
  refine thn hx fun itv t2 h2 => ?_
  obtain ⟨it, fp, tn, J, H2, rfl, V2, T, k2, p2, q⟩ := h2
  refine wpAny_newObj_type (newEnv_comp ?_) (by show 0 ≤ sizeLine; decide)
  obtain ⟨D, hD⟩ : ∃ D, D = t2.heap.objs.size := ⟨_, rfl⟩
  have hDn : H2 D = none := V2.hok.fresh (Nat.le_of_eq hD.symm)
  obtain ⟨Wv, ⟨n0, u0⟩, turn⟩ := q D hDn
  rw [← hD]
  -- the list
  obtain ⟨t3, hz3⟩ : ∃ z : Shared, z = { t2 with heap := t2.heap.push { cls := .type "list", data := .seq ([] : List Value).toArray } } := ⟨_, rfl⟩
  have hp3 : t3.heap = t2.heap.push { cls := .type "list", data := .seq ([] : List Value).toArray } := by rw [hz3]
  have V3 : Inv X pins σ (upd H2 D (.lst [])) t3 := by
    rw [hz3]
    refine V2.laid (t' := t2.toks) (fun b o e => Heap.get?_push_of_some _ e) (Nat.le_of_eq hD.symm) ⟨Nat.zero_le _, [], 0, .nil, ?_⟩
    rw [hD]
    exact Heap.get?_push_size _ rfl
  have lt2 : ∀ b ∈ fp, b < t2.heap.objs.size := fun b hb => by
    obtain ⟨o, e, _⟩ := T.obj _ _ k2 b hb
    exact Heap.lt_size e
  have p3 : ∀ b ∈ fp, FpOk X pins (upd H2 D (.lst [])) b ∧ b < t3.heap.objs.size := fun b hb => by
    have hlt := lt2 b hb
    refine ⟨⟨?_, (p2 b hb).2⟩, by rw [hp3, Heap.size_push]; exact Nat.lt_succ_of_lt hlt⟩
    rw [upd_ne (fun z => by rw [z, hD] at hlt; exact Nat.lt_irrefl _ hlt)]
    exact (p2 b hb).1
  have k3 : tn 0 t3.heap := T.keep _ _ _ k2 fun b _ o e => by rw [hp3]; exact Heap.get?_push_of_some _ e
  have V4 := block_start V3 ok hN p3
  have nfp : ∀ b ∈ fp, (upd H2 D (.lst [])) b = none := fun b hb => (p3 b hb).1.1
  rw [← hz3]
  obtain ⟨cl, hcl⟩ : ∃ z, z = cellsFrom (t3.heap.objs.size + 1) scope.names (cloFrom X.env.cells scope.names []) := ⟨_, rfl⟩
  rw [← hcl] at V4
  obtain ⟨ce, hce⟩ : ∃ z, z = compEnvC scope cl t3.heap.objs.size X.env := ⟨_, rfl⟩
  obtain ⟨H3, hH3⟩ : ∃ z, z = upd H2 D (.lst []) := ⟨_, rfl⟩
  rw [← hH3] at V3 p3 nfp u0
  have pg := hg t3 H3 t3.heap.objs.size cl fp
  have pt := ht t3 H3 t3.heap.objs.size cl fp
  have pe := he t3 H3 t3.heap.objs.size cl fp (notedBy (model X.prog X.w) X.A ce (CompFails (model X.prog X.w) X.A X.xe ce)) (wBlk W σ)
  obtain ⟨t4, hs4⟩ : ∃ z : Shared, z = { t3 with heap := pushCells (t3.heap.push { cls := .type "dict", data := .dict #[] }) scope.names } := ⟨_, rfl⟩
  rw [← hs4, ← hH3, ← hce] at V4
  rw [← hce] at pg pt pe
  have cL : ce.locals = t3.heap.objs.size := by rw [hce]; rfl
  have cF : ce.frame = X.env.frame := by rw [hce]; rfl
  have pe := pe fun u t x => XE.out (W := W) V3 hs hf (fun b hb => (p3 b hb).1) cL cF tk (fun _ _ _ _ z => z) x
  have k4 : tn 0 t4.heap := T.keep _ _ _ k3 fun b _ o e => by rw [hs4]; exact pushCells_keeps _ _ _ _ (Heap.get?_push_of_some _ e)
  have stat : ∀ {σ' : L2.St} {H' : Hp} {z : Shared}, Inv (X.blk t3 H3 scope ce fp) [] σ' H' z → (∀ b ∈ fp, H' b = none) → ∀ b ∈ fp, FpOk (X.blk t3 H3 scope ce fp) [] H' b := fun {σ' H' z} I' hn b hb =>
    ⟨hn b hb, (I'.ok.exf b hb).1, I'.ok.exfs b hb, .inl hb, fun x c e => (I'.ok.exf b hb).2 x c e, fun p hp => absurd hp (by simp)⟩
  have loop : codeAny (model X.prog X.w) X.A (.compLoop (.ListComp elt [⟨tg, iter, ifs, 0⟩] scope pos) 0 (.ref it) (.ref D) ce) (compEnds (model X.prog X.w) X.A X.xe use Qf (.ref D) ce) t4 := by
    refine compLoop_any (fun n z => ∃ i H', Inv (X.blk t3 H3 scope ce fp) [] (wipe σ (own.map (·.2))) H' z ∧ tn i z.heap ∧ (∀ b ∈ fp, H' b = none) ∧ Wv i n H') ?_ n0 ⟨0, H3, V4, k4, nfp, u0⟩
    rintro n t5 ⟨i, H5, V5, k5, v5, u5⟩
    rcases turn i n H5 u5 with ⟨stop, qq⟩ | ⟨go, Nx, hNx, step⟩
    · have dn := T.done (X.blk t3 H3 scope ce fp) rfl rfl rfl hc i [] t5 _ H5 (fun _ _ => False) V5 (stat V5 v5) k5 stop
      refine thnF dn fun r t6 ⟨hr, V6⟩ => ?_
      subst hr
      have V7 : Inv X pins σ H5 t6 := V3.call' (ch := fp) V6.os V6.base V6.hok V6.bare fun b hb => ⟨(p3 b hb).1.2.2.2.1, (p3 b hb).1.2.1, (p3 b hb).1.2.2.2.2.1, (p3 b hb).1.2.2.2.2.2⟩
      have nC : H5 ce.locals = none := V6.free
      obtain ⟨mm, hn, _⟩ := V6.loc
      refine hRR D ce t6 mm H5 V7 qq hn ?_
      rw [cL] at nC ⊢
      exact V3.fpOk (Nat.le_refl _) nC
    · have tm := T.item (X.blk t3 H3 scope ce fp) rfl rfl rfl hc i [] t5 _ H5 (fun _ _ => False) V5 (stat V5 v5) k5 go
      refine thnF tm fun r t6 ⟨u, hr, g6⟩ => ?_
      subst hr
      refine thnF g6 fun _ t7 ⟨x, H7, V7, e7, j7, k7, v7⟩ => ?_
      have P7 := V7.pinned (stat V7 v7) (T.obj _ _ k7)
      refine thnF (pg.run _ t7 _ H7 x u _ P7 e7 (step x H7 j7)) fun _ t8 ⟨σ8, H8, V8, hw8, y8⟩ => ?_
      refine thnF (pt.run _ t8 σ8 H8 _ V8 y8) fun b t9 ⟨H9, V9, y9⟩ => ?_
      have back : ∀ {z : Shared} {H' : Hp}, Inv (X.blk t3 H3 scope ce fp) ([] ++ pinsAt fp t7.heap) σ8 H' z → Nx H' → ∃ k, k < n ∧ ∃ i H', Inv (X.blk t3 H3 scope ce fp) [] (wipe σ (own.map (·.2))) H' z ∧ tn i z.heap ∧ (∀ b ∈ fp, H' b = none) ∧ Wv i k H' := fun {z H'} I' nx => by
        obtain ⟨k, hk, w'⟩ := hNx H' nx
        have pin : ∀ b ∈ fp, ∀ o, t7.heap.get? b = some o → z.heap.get? b = some o ∧ H' b = none := fun b hb o e =>
          let y := I'.pin (b, o) (List.mem_append_right _ (List.mem_append_right _ (mem_pinsAt hb e)))
          ⟨y.1, y.2.1⟩
        have len : (wipe σ (own.map (·.2))).length = σ8.length := by rw [← hw8, wipe_length]
        refine ⟨k, hk, i + 1, H', (I'.unpinned (pins := [])).weak len (fun j v e => ?_), T.keep _ _ _ k7 fun b hb o e => (pin b hb o e).1, fun b hb => ?_, w'⟩
        · rw [← hw8] at e
          exact (wipe_some e).1
        · obtain ⟨o, e, _⟩ := T.obj _ _ k7 b hb
          exact (pin b hb o e).2
      cases b with
      | false =>
        rw [if_neg Bool.false_ne_true] at y9 ⊢
        exact back V9 y9
      | true =>
        rw [if_pos rfl] at y9 ⊢
        refine wpAny_mono (pe.run _ t9 σ8 H9 _ (toE V9) y9) (fun z t10 ⟨yv, H10, V10, e10, acc, hD10, hz10, nx⟩ => ?_) fun _ _ z => z
        exact app_ok (X := X.blk t3 H3 scope ce fp) (ofE V10) hD10 hz10 e10 fun t11 V11 => back V11 nx
  rw [hs4, hce, hcl] at *
  exact codeAny_compStart_list loop (T.self X.A 0 _ _ _ k4 loop)
end
end XK
namespace XK
open PySem PySem.Spec PyProof.Rows L2
section
variable {X : Cx} {W : WX} {elt tg iter : Expr} {ifs : List Expr} {scope : Scope} {own : List (Str × Nat)} {pos : Pos} {wi : TI} {g : TG} {tt : TT} {te : WX → TE}
theorem pe_lcx (hs : X.stack = X.env :: X.outer) (hf : X.env.frame = some X.env.locals) (tk : Takes X W) (hc : X.calm = true) (hN : X.N.Nodup) (hi : PI X tg iter wi) (ok : BlkOk X.N X.env.scope scope own)
    (hg : ∀ (s : Shared) (H : Hp) (C : Addr) (cl : List (Str × Addr)) (fp : List Addr), PG (X.blk s H scope (compEnvC scope cl C X.env) fp) tg g)
    (ht : ∀ (s : Shared) (H : Hp) (C : Addr) (cl : List (Str × Addr)) (fp : List Addr), PTs (X.blk s H scope (compEnvC scope cl C X.env) fp) ifs tt)
    (he : ∀ (s : Shared) (H : Hp) (C : Addr) (cl : List (Str × Addr)) (fp : List Addr) (xe : Value → Shared → Prop) (Wb : WX), Takes (blkE X s H scope (compEnvC scope cl C X.env) fp xe) Wb → PE (blkE X s H scope (compEnvC scope cl C X.env) fp xe) elt (te Wb))
    (hsi : ∀ x, foldedSetIterable iter X.env x = pure x := by intro _; rfl) : PE X (.ListComp elt [⟨tg, iter, ifs, 0⟩] scope pos) (tLcX W wi g tt te (own.map (·.2))) := by
  refine ⟨fun pins s σ H Q I h => ?_⟩
  rw [eval_ListComp]
  refine lcx_core hs hf tk hc hN I hi ok hg ht he hsi h fun D cenv z m H' J q hn f => ⟨m, hn, fun h2 sb => ?_⟩
  exact ⟨.ref D, H', J.turned (t' := z.toks) (fun b o hb e => (sb.2 b hb).trans e) f.1 f.2.1 f.2.2.2.1 f.2.2.2.2.1 f.2.2.2.2.2, rfl, q⟩
theorem ps_setLcx {i : Nat} {y : Str} {py spos : Pos} (hs : X.stack = X.env :: X.outer) (hf : X.env.frame = some X.env.locals) (tk : Takes X W) (hc : X.calm = true) (hN : X.N.Nodup) (hy : X.N[i]? = some y) (hyl : X.env.scope.names.lookup y = some .local)
    (hsw : swapsWith (.ListComp elt [⟨tg, iter, ifs, 0⟩] scope pos) (some (.Name y py)) spos.line X.env = pure true) (hi : PI X tg iter wi) (ok : BlkOk X.N X.env.scope scope own)
    (hg : ∀ (s : Shared) (H : Hp) (C : Addr) (cl : List (Str × Addr)) (fp : List Addr), PG (X.blk s H scope (compEnvC scope cl C X.env) fp) tg g)
    (ht : ∀ (s : Shared) (H : Hp) (C : Addr) (cl : List (Str × Addr)) (fp : List Addr), PTs (X.blk s H scope (compEnvC scope cl C X.env) fp) ifs tt)
    (he : ∀ (s : Shared) (H : Hp) (C : Addr) (cl : List (Str × Addr)) (fp : List Addr) (xe : Value → Shared → Prop) (Wb : WX), Takes (blkE X s H scope (compEnvC scope cl C X.env) fp xe) Wb → PE (blkE X s H scope (compEnvC scope cl C X.env) fp xe) elt (te Wb))
    (hsi : ∀ x, foldedSetIterable iter X.env x = pure x := by intro _; rfl) :
    PS X (.Assign [.Name y py] (.ListComp elt [⟨tg, iter, ifs, 0⟩] scope pos) spos) (tAsg (tLcX W wi g tt te (own.map (·.2))) (gName i)) := by
  refine ⟨fun pins s σ H D I h => ?_⟩
  rw [exec_Assign_Name_used _ _ _ _ hsw]
  refine wpAny_bind (wpAny_standAt (wpAny_bind ?_))
  have h : tLcX W wi g tt te (own.map (·.2)) σ H (fun x H1 => gName i x σ H1 D.nx) := h
  refine wpAny_bind (thn (Q := fun _ z => SP X pins D .next z) ?_ fun _ z hq => wpAny_pure (wpAny_pure hq))
  refine lcx_core (pos := pos) (use := some (assign (.Name y py) X.env)) (Qf := fun _ z => SP X pins D .next z) (pos' := firstIterPos [⟨tg, iter, ifs, 0⟩] pos) hs hf tk hc hN I hi ok hg ht he hsi h fun L cenv z m H' J q hn f => ?_
  · show wpAny _ _ (assign (.Name y py) X.env (.ref L)) _ _ _
    refine wpAny_assign_Name (store_ok2 (v := V.ref L) J hN hy (.inl hyl) rfl (fun s2 J2 ⟨a, sb, ha⟩ => ?_) (.inr hyl))
    have ne : cenv.locals ≠ a := by
      rcases ha with q | q
      · rw [q]; exact f.2.1
      · exact fun e => f.2.2.2.2.1 y a q e.symm
    refine ⟨m, hn.sameBut sb ne, fun h3 sb3 => ⟨_, H', J2.turned (t' := s2.toks) (fun b o hb e => (sb3.2 b hb).trans e) f.1 f.2.1 f.2.2.2.1 f.2.2.2.2.1 f.2.2.2.2.2, q⟩⟩
end
end XK
namespace DL
open PySem PySem.Spec PyProof.Rows L2
/-- a comprehension whose element may let something out -/
def lcRX (g : D → Env → Option Env) (ft : Env → Res Bool) (fe : Env → Res SV) (δ : Env) : List D → Res (List D)
  | [] => .ok []
  | d :: ds => match g d δ with
    | none => .bad
    | some δ1 => match ft δ1 with
      | .ok true => (match fe δ1 with
        | .ok s => (match s.fz with
          | .sh e => (lcRX g ft fe δ ds).bind fun r => .ok (e :: r)
          | _ => .bad)
        | .ex c => .ex c
        | .bad => .bad)
      | .ok false => lcRX g ft fe δ ds
      | _ => .bad
def fLcX (fi : Env → Res (List D)) (g : D → Env → Option Env) (ft : Env → Res Bool) (fe : Env → Res SV) (vs : List Nat) : Env → Res SV := fun δ => (fi δ).bind fun ds => if ds.length ≤ sizeLine then (lcRX g ft fe (dwipe δ vs) ds).bind fun es => .ok (.ow es) else .bad
theorem bind_cat (r : Res (List D)) (done : List D) (e : D) : (r.bind fun x => .ok (e :: x)).bind (fun x => Res.ok (done ++ x)) = r.bind fun x => .ok ((done ++ [e]) ++ x) := by
  cases r <;> simp [Res.bind]
section
variable {K : PySem.W.Frag} {T : Tb} {W : WX}
theorem rd_lcx {fi : Env → Res (List D)} {is vs : List Nat} {g : D → Env → Option Env} {ft : Env → Res Bool} {fe : Env → Res SV} {σ : L2.St} {H : Hp} {Q : VK} (hv : ∀ i ∈ is, i ∈ vs) (h : rd K T W (fLcX fi g ft fe vs) σ H Q) :
    XK.tLcX W (rdI K T W fi) (rdG K T is g) (rdT K T WF ft) (fun Wb => rd K T Wb fe) vs σ H Q := by
  obtain ⟨F0, G, F, δ, E, h⟩ := h
  refine ⟨F0, G, F, δ, E, ?_⟩
  unfold fLcX at h
  cases q : fi δ with
  | ex c => rw [q] at h; exact h
  | bad => rw [q] at h; exact h
  | ok ds =>
    rw [q, bind_ok] at h
    by_cases le : ds.length ≤ sizeLine
    · rw [if_pos le] at h
      intro J F1 H1 p w A hA
      obtain ⟨tot, htot⟩ : ∃ z, z = lcRX g ft fe (dwipe δ vs) ds := ⟨_, rfl⟩
      rw [← htot] at h
      have E1 := E.grow p
      have hF1 : F1 A = none := Exn.back p.fh hA
      refine ⟨fun i m H' => m = ds.length - i ∧ i ≤ ds.length ∧ ∃ F' vs' done, Stp T F1 H1 F' H' ∧ F' A = none ∧ H' A = some (.lst vs') ∧ Reps K T F' vs' done ∧ done.length ≤ i ∧ tot = (lcRX g ft fe (dwipe δ vs) (ds.drop i)).bind fun r => .ok (done ++ r),
        ⟨ds.length, by simp, Nat.zero_le _, F1, [], [], Stp.new p.fh hA, hF1, upd_same, .nil, Nat.le_refl _, by rw [List.drop_zero, htot]; cases lcRX g ft fe (dwipe δ vs) ds <;> rfl⟩, ?_⟩
      rintro i m H2 ⟨rfl, hi, F2, vs2, done, p2, hF2, hH2, r2, l2, e2⟩
      by_cases l : i < ds.length
      · refine .inr ⟨w.go i H2 (Exn.trans p2.ff p2.fh) l, fun H' => ∃ F' vs' done, Stp T F1 H1 F' H' ∧ F' A = none ∧ H' A = some (.lst vs') ∧ Reps K T F' vs' done ∧ done.length ≤ i + 1 ∧ tot = (lcRX g ft fe (dwipe δ vs) (ds.drop (i + 1))).bind fun r => .ok (done ++ r),
          fun H' q => ⟨ds.length - (i + 1), by omega, rfl, l, q⟩, fun x H3 y => ?_⟩
        rw [List.drop_eq_getElem_cons l, lcRX] at e2
        obtain ⟨F3, p3, r3⟩ := w.yld i F2 H2 x H3 ds[i] p2.ff p2.fh (List.getElem?_eq_getElem l) y
        have E2 : EnvR K T F0 G F2 H2 (L2.wipe σ vs) (dwipe δ vs) := (E1.wipe vs).grow p2
        refine ⟨F0, G, F3, dwipe δ vs, ds[i], E2.grow p3, r3, ?_⟩
        cases q3 : g ds[i] (dwipe δ vs) with
        | none => rw [q3] at e2; rw [e2] at h; exact h.elim
        | some δ3 =>
          rw [q3] at e2
          dsimp only at e2 ⊢
          intro σ3 E3 wp
          refine ⟨by rw [wp vs hv, wipe_wipe], ?_⟩
          have p23 := p2.trans p3
          refine rdTE E3 (fun b hb F4 H4 p4 => ?_) (fun c hc => by rw [hc] at e2; rw [e2] at h; exact h.elim) fun hc => by rw [hc] at e2; rw [e2] at h; exact h.elim
          rw [hb] at e2
          have p24 := p23.trans p4
          cases b with
          | false =>
            refine iteF ⟨F4, vs2, done, p24, ?_, (p3.trans p4).hh.at hH2, r2.mono (p3.trans p4).ff, by omega, e2⟩
            exact (p3.trans p4).fr A _ rfl hF2 hH2
          | true =>
            refine iteT ?_
            dsimp only at e2
            refine rdE (E3.grow p4) (fun s hs v F5 H5 p5 r5 => ?_) (fun c hc F5 H5 p5 => ?_) fun hc => by rw [hc] at e2; rw [e2] at h; exact h.elim
            · rw [hs] at e2
              obtain ⟨F6, p6, r6⟩ := r5.fz p5
              cases qs : s.fz with
              | ow _ => simp only [qs] at e2; rw [e2] at h; exact h.elim
              | br _ _ => simp only [qs] at e2; rw [e2] at h; exact h.elim
              | sh e =>
                simp only [qs] at e2
                rw [qs] at r6
                rw [bind_cat] at e2
                have p26 := (p3.trans p4).trans p6
                have hH5 := p26.hh.at hH2
                have hF6 := p26.fr A _ rfl hF2 hH2
                have len : vs2.length < sizeLine := by
                  rw [r2.length]
                  omega
                refine ⟨vs2, hH5, len, F6, vs2 ++ [v], done ++ [e], (p2.trans p26).mutNew hA hF6 (fun u hu => by rw [hH5] at hu; cases hu; rfl), hF6, upd_same, (r2.mono p26.ff).append (.cons r6 .nil), by rw [List.length_append]; simpa using l2, e2⟩
            · rw [hc] at e2
              dsimp only [Res.bind] at e2
              rw [e2] at h
              exact h F5 H5 (p.trans (p24.trans p5))
      · have e : i = ds.length := by omega
        subst e
        rw [List.drop_length] at e2
        have e2 : tot = .ok (done ++ []) := e2
        rw [List.append_nil] at e2
        rw [e2] at h
        exact .inl ⟨w.stop H2 (Exn.trans p2.ff p2.fh), h _ F2 H2 (p.trans p2) ⟨A, vs2, rfl, Exn.back p.hh hA, hF2, hH2, r2⟩⟩
    · rw [if_neg le] at h; exact h.elim
end
section
variable {X : Cx} {T : Tb} {W : WX} {elt tg iter : Expr} {ifs : List Expr} {scope : Scope} {own : List (Str × Nat)} {pos : Pos} {fi : Env → Res (List D)} {is : List Nat} {g : D → Env → Option Env} {ft : Env → Res Bool} {fe : Env → Res SV}
theorem de_lcx (hv : ∀ i ∈ is, i ∈ own.map (·.2)) (hs : X.stack = X.env :: X.outer) (hf : X.env.frame = some X.env.locals) (tk : XK.Takes X W) (hc : X.calm = true) (hN : X.N.Nodup) (hi : PI X tg iter (rdI X.K T W fi)) (ok : BlkOk X.N X.env.scope scope own)
    (hg : ∀ (s : Shared) (H : Hp) (C : Addr) (cl : List (Str × Addr)) (fp : List Addr), PG (X.blk s H scope (compEnvC scope cl C X.env) fp) tg (rdG X.K T is g)) (ht : ∀ (s : Shared) (H : Hp) (C : Addr) (cl : List (Str × Addr)) (fp : List Addr), PTs (X.blk s H scope (compEnvC scope cl C X.env) fp) ifs (rdT X.K T WF ft))
    (he : ∀ (s : Shared) (H : Hp) (C : Addr) (cl : List (Str × Addr)) (fp : List Addr) (xe : Value → Shared → Prop) (Wb : WX), XK.Takes (XK.blkE X s H scope (compEnvC scope cl C X.env) fp xe) Wb → PE (XK.blkE X s H scope (compEnvC scope cl C X.env) fp xe) elt (rd X.K T Wb fe))
    (hsi : ∀ x, foldedSetIterable iter X.env x = pure x := by intro _; rfl) : PE X (.ListComp elt [⟨tg, iter, ifs, 0⟩] scope pos) (rd X.K T W (fLcX fi g ft fe (own.map (·.2)))) :=
  PEimp (XK.pe_lcx (te := fun Wb => rd X.K T Wb fe) hs hf tk hc hN hi ok hg ht he hsi) fun _ _ _ h => rd_lcx hv h
theorem ds_setLcx {i : Nat} {y : Str} {py spos : Pos} (hv : ∀ i ∈ is, i ∈ own.map (·.2)) (hs : X.stack = X.env :: X.outer) (hf : X.env.frame = some X.env.locals) (tk : XK.Takes X W) (hc : X.calm = true) (hN : X.N.Nodup) (hy : X.N[i]? = some y) (hyl : X.env.scope.names.lookup y = some .local)
    (hsw : swapsWith (.ListComp elt [⟨tg, iter, ifs, 0⟩] scope pos) (some (.Name y py)) spos.line X.env = pure true) (hi : PI X tg iter (rdI X.K T W fi)) (ok : BlkOk X.N X.env.scope scope own)
    (hg : ∀ (s : Shared) (H : Hp) (C : Addr) (cl : List (Str × Addr)) (fp : List Addr), PG (X.blk s H scope (compEnvC scope cl C X.env) fp) tg (rdG X.K T is g)) (ht : ∀ (s : Shared) (H : Hp) (C : Addr) (cl : List (Str × Addr)) (fp : List Addr), PTs (X.blk s H scope (compEnvC scope cl C X.env) fp) ifs (rdT X.K T WF ft))
    (he : ∀ (s : Shared) (H : Hp) (C : Addr) (cl : List (Str × Addr)) (fp : List Addr) (xe : Value → Shared → Prop) (Wb : WX), XK.Takes (XK.blkE X s H scope (compEnvC scope cl C X.env) fp xe) Wb → PE (XK.blkE X s H scope (compEnvC scope cl C X.env) fp xe) elt (rd X.K T Wb fe))
    (hsi : ∀ x, foldedSetIterable iter X.env x = pure x := by intro _; rfl) : PS X (.Assign [.Name y py] (.ListComp elt [⟨tg, iter, ifs, 0⟩] scope pos) spos) (rdS X.K T W (fAsg i (fLcX fi g ft fe (own.map (·.2))))) :=
  PSimp (XK.ps_setLcx (te := fun Wb => rd X.K T Wb fe) hs hf tk hc hN hy hyl hsw hi ok hg ht he hsi) fun D σ H h => by
  obtain ⟨F0, G, F, δ, E, h⟩ := h
  refine rd_lcx hv (rd_out E h fun v s F' H' p r h1 => ?_)
  cases q : slotOf s with
  | none => rw [q] at h1; exact h1.elim
  | some sl =>
    rw [q] at h1
    exact h1 _ F' H' (E.setS p r q) p.ff
end
end DL
end

section
set_option Elab.async false
set_option linter.all false
set_option autoImplicit false
set_option maxRecDepth 100000
set_option maxHeartbeats 4000000
/-! isinstance(e, (C1, C2, ..)) of the held exception. -/
namespace DL
open PySem PySem.Spec PyProof.Rows L2
def rIsXs (K : PySem.W.Frag) (D a : Addr) : List V → Hp → VK → Prop := fun xs H Q => ∃ (tp : Addr) (cs : List V) (us : List Value) (b : Bool), xs = [.ref a, .ref tp] ∧ H tp = some (.tup cs) ∧ (∀ ws, Vals cs ws → ws = us) ∧ PySem.W.kitAny K (.ref D) us = some b ∧ Q (.bl b) H
theorem call_isXs {X : Cx} {a D : Addr} (C : ExcC X.K D) (h : PinX X a D) : CallR X (.builtin "isinstance") (rIsXs X.K D a) := by
  intro pins s σ H xs us Q I r hh
  obtain ⟨tp, cs, ws, b, rfl, hT, hcv, e, q⟩ := hh
  obtain ⟨oe, hm, hc, hd, vs, hv⟩ := h
  obtain ⟨ua, ub, rfl, ra, rb⟩ := vals2 r
  cases ra
  cases (show ub = Value.ref tp from rb)
  have get := (I.pin (a, oe) (List.mem_append_left _ hm)).1
  have In : PySem.W.InstAt s.heap a oe D none := by
    obtain ⟨c0, d0, t0, l0⟩ := oe
    dsimp only at hc hd hv
    subst hc hd hv
    exact ⟨get, rfl, rfl, trivial⟩
  obtain ⟨_, its, rv, ⟨oc, od, dt, sl⟩, h1, h2, n, h3⟩ := (show ObjOk X.prog X.w H s.heap tp (.tup cs) from I.hok tp _ hT)
  dsimp only at h2 h3
  subst h2 h3
  cases hcv _ rv
  exact PySem.W.kia_tup (PySem.W.handS_kitx_exc C.hg C.hk C.hs C.hd C.ha C.hn C.ht C.hm) I.kIn In h1 e (fun z => nomatch z) fun tk => ⟨.bl b, H, I.kept (t' := tk) fun _ _ z => z, rfl, q⟩
section
variable {X : Cx} {T : Tb} {W : WX} {pos : Pos}
inductive ClsEs (X : Cx) (T : Tb) : List Nat → List Expr → Prop
  | nil : ClsEs X T [] []
  | cons {C : Nat} {Cs : List Nat} {e : Expr} {es : List Expr} (h : ClsE X T C e) (r : ClsEs X T Cs es) (hs : starEach (e :: es) X.env = (false, eval e X.env) :: starEach es X.env := by rfl) : ClsEs X T (C :: Cs) (e :: es)
theorem ClsEs.pa : ∀ {Cs : List Nat} {es : List Expr}, ClsEs X T Cs es → PA X es (fun _ H Q => Q (Cs.map (clsV T)) H)
  | _, _, .nil => PAimp pa_nil fun _ _ _ h => h
  | _, _, .cons h r hs => PAimp (pa_cons h.pe r.pa hs) fun _ _ _ h => h
theorem clsVs_rel : ∀ {Cs : List Nat} {ws : List Value}, Vals (Cs.map (clsV T)) ws → ws = Cs.map (clsX T)
  | [], _, .nil => rfl
  | _ :: _, _, .cons r t => by rw [clsV_rel _ r, clsVs_rel t]; rfl
theorem any_ok {K : PySem.W.Frag} {us cs is : List Nat} (hx : XOk K T us cs is) {m : Nat} (hm : m ∈ us) : ∀ {Cs : List Nat}, (∀ C ∈ Cs, C ∈ is) → PySem.W.kitAny K (.ref (T.XA m)) (Cs.map (clsX T)) = some (Cs.any (isX m))
  | [], _ => rfl
  | C :: Cs, h => by
    rw [List.map_cons, PySem.W.kitAny, hx.i m hm C (h C (List.mem_cons_self ..)), List.any_cons]
    cases isX m C with
    | true => rfl
    | false =>
      dsimp only
      rw [any_ok hx hm fun D hD => h D (List.mem_cons_of_mem _ hD), Bool.false_or]
def fIsXs (us is : List Nat) (a : Addr) (m : Nat) (Cs : List Nat) (fe : DL.Env → Res SV) : DL.Env → Res SV := fun δ => (fe δ).bind fun s => match s with
  | .sh (.exc b) => if b = a ∧ m ∈ us ∧ Cs.all (fun C => is.contains C) = true then .ok (.sh (.bl (Cs.any (isX m)))) else .bad
  | _ => .bad
theorem de_isXs {a : Addr} {m k : Nat} {us cs is Cs : List Nat} {e : Expr} {eC : List Expr} {fe : DL.Env → Res SV} {p tp : Pos} (hx : XOk X.K T us cs is) (hne : is ≠ []) (hsz : Cs.length ≤ sizeLine) (hp : PinX X a (T.XA m)) (hg : Gl X "isinstance") (hm : X.mg "isinstance" = none) (hC : ClsEs X T Cs eC) (he : PE X e (rd X.K T W fe))
    (hs : starEach [e, .Tuple eC k tp] X.env = (false, eval e X.env) :: starEach [.Tuple eC k tp] X.env := by rfl) (hs2 : starEach [.Tuple eC k tp] X.env = (false, eval (.Tuple eC k tp) X.env) :: starEach [] X.env := by rfl) (hpl : (backTo pos (starEach [.Tuple eC k tp] X.env)).any (·.1) = false := by rfl) :
    PE X (.Call (.Name "isinstance" p) [e, .Tuple eC k tp] [] pos) (rd X.K T W (fIsXs us is a m Cs fe)) := by
  refine ⟨fun pins s σ H Q I ⟨F0, G, F, δ, E, h⟩ => ?_⟩
  by_cases ok : m ∈ us ∧ Cs.all (fun C => is.contains C) = true
  · have xc : ExcC X.K (T.XA m) := hx.x m ok.1 hne
    have hin : ∀ C ∈ Cs, C ∈ is := fun C hC => by simpa using List.all_eq_true.mp ok.2 C hC
    refine (pe_callB (call_isXs xc hp) hg hm (by decide +kernel) (pa_cons he (pa_cons (pe_tup hC.pa) pa_nil hs2) hs) (by decide) (by decide) hs hpl).run pins s σ H Q I ?_
    refine rd_bind E h fun v sv F' H' pp r h1 => ?_
    cases sv with
    | sh d =>
      cases d with
      | exc b =>
        dsimp only at h1
        split at h1
        · rename_i hb
          obtain ⟨hb, _, _⟩ := hb
          subst hb
          cases r
          refine ⟨by rw [List.length_map]; exact hsz, fun q hq => ⟨q, Cs.map (clsV T), Cs.map (clsX T), Cs.any (isX m), rfl, upd_same, fun ws r => clsVs_rel r, any_ok hx ok.1 hin, ?_⟩⟩
          have sn : Stp T F' H' F' (upd H' q (.tup (Cs.map (clsV T)))) := Stp.new pp.fh hq
          exact h1 _ F' _ (pp.trans sn) (.bl _)
        · exact h1.elim
      | _ => exact h1.elim
    | _ => exact h1.elim
  · refine (pe_callB (id := "isinstance") (r := fun _ _ _ => False) (fun _ _ _ _ _ _ _ _ _ z => z.elim) hg hm (by decide +kernel) (pa_cons he (pa_cons (pe_tup hC.pa) pa_nil hs2) hs) (by decide) (by decide) hs hpl).run pins s σ H Q I ?_
    refine rd_bind E h fun v sv F' H' pp r h1 => ?_
    cases sv with
    | sh d =>
      cases d with
      | exc b =>
        dsimp only at h1
        rw [if_neg (fun z => ok z.2)] at h1
        exact h1.elim
      | _ => exact h1.elim
    | _ => exact h1.elim
end
end DL
end

section
set_option Elab.async false
set_option linter.all false
set_option autoImplicit false
set_option maxRecDepth 100000
set_option maxHeartbeats 4000000
/-! x = [list(y) for y in ys]; if ..: return ..; x[k].pop(a): one of the new lists is changed. -/
namespace DL
open PySem PySem.Spec PyProof.Rows L2
/-- new lists, each by itself -/
structure Outs (K : PySem.W.Frag) (T : Tb) (F H H0 : Hp) (as : List Addr) (xss : List (List D)) : Prop where
  nd : as.Nodup
  len : as.length = xss.length
  at_ : ∀ (j : Nat) (a : Addr), as[j]? = some a → H0 a = none ∧ F a = none ∧ ∃ vs ds, xss[j]? = some ds ∧ H a = some (.lst vs) ∧ Reps K T F vs ds
def cpR (g : D → Env → Option Env) (fe : Env → Res SV) (δ : Env) : List D → Option (List (List D))
  | [] => some []
  | d :: ds => match g d δ with
    | none => none
    | some δ1 => match fe δ1 with
      | .ok (.ow es) => (cpR g fe δ ds).map (es :: ·)
      | _ => none
noncomputable def popI (xs : List D) (a : Int) : Option (List D) := @ite _ (-(2 ^ 63) ≤ a ∧ a < 2 ^ 63) (Classical.propDecidable _) (match seqIndex? a xs.length with
  | some m => if m < xs.length then some (xs.eraseIdx m) else none
  | none => none) none
open Classical in
noncomputable def frz (F H : Hp) (L : List Addr) : Hp := fun b => if b ∈ L then H b else F b
section
variable {K : PySem.W.Frag} {T : Tb} {W : WX} {F F' F1 H H' H0 H1 H2 : Hp} {as L : List Addr} {xss : List (List D)}
theorem frz_in {b : Addr} (h : b ∈ L) : frz F H L b = H b := if_pos h
theorem frz_out {b : Addr} (h : b ∉ L) : frz F H L b = F b := if_neg h
theorem Outs.known (o : Outs K T F H H0 as xss) {a : Addr} (h : a ∈ as) : H0 a = none ∧ F a = none ∧ ∃ vs, H a = some (.lst vs) := by
  obtain ⟨j, hj⟩ := List.mem_iff_getElem?.mp h
  obtain ⟨h1, h2, vs, ds, _, h3, _⟩ := o.at_ j a hj
  exact ⟨h1, h2, vs, h3⟩
theorem Outs.mono (p : Stp T F H F' H') (o : Outs K T F H H0 as xss) : Outs K T F' H' H0 as xss := ⟨o.nd, o.len, fun j a h => by
  obtain ⟨h1, h2, vs, ds, h3, h4, h5⟩ := o.at_ j a h
  exact ⟨h1, p.fr a _ rfl h2 h4, vs, ds, h3, p.hh.at h4, h5.mono p.ff⟩⟩
theorem Outs.beside {A : Addr} {u : HO} (o : Outs K T F H H0 as xss) (h : A ∉ as) : Outs K T F (upd H A u) H0 as xss := ⟨o.nd, o.len, fun j a q => by
  obtain ⟨h1, h2, vs, ds, h3, h4, h5⟩ := o.at_ j a q
  have ne : a ≠ A := fun z => h (z ▸ List.mem_iff_getElem?.mpr ⟨j, q⟩)
  exact ⟨h1, h2, vs, ds, h3, by rw [upd_ne ne]; exact h4, h5⟩⟩
theorem Outs.snoc {a : Addr} {vs : List V} {ds : List D} (o : Outs K T F H H0 as xss) (na : a ∉ as) (h0 : H0 a = none) (hF : F a = none) (hH : H a = some (.lst vs)) (r : Reps K T F vs ds) : Outs K T F H H0 (as ++ [a]) (xss ++ [ds]) where
  nd := List.nodup_append.mpr ⟨o.nd, List.nodup_cons.mpr ⟨by simp, List.nodup_nil⟩, fun x hx y hy z => by
    rw [List.mem_singleton.mp hy] at z
    exact na (z ▸ hx)⟩
  len := by rw [List.length_append, List.length_append, o.len]; rfl
  at_ := fun j b q => by
    rcases Nat.lt_or_ge j as.length with l | l
    · rw [List.getElem?_append_left l] at q
      obtain ⟨h1, h2, ws, es, h3, h4, h5⟩ := o.at_ j b q
      exact ⟨h1, h2, ws, es, by rw [List.getElem?_append_left (by rw [← o.len]; exact l)]; exact h3, h4, h5⟩
    · rw [List.getElem?_append_right l] at q
      cases k : j - as.length with
      | zero =>
        rw [k] at q
        cases q
        have e : j = xss.length := by have := o.len; omega
        exact ⟨h0, hF, vs, ds, by rw [e, List.getElem?_append_right (Nat.le_refl _), Nat.sub_self]; rfl, hH, r⟩
      | succ n => rw [k] at q; simp at q
theorem Reps.erase : ∀ {us : List V} {ds : List D} (m : Nat), Reps K T F us ds → Reps K T F (us.eraseIdx m) (ds.eraseIdx m)
  | _, _, _, .nil => .nil
  | _, _, 0, .cons _ r => r
  | _, _, m + 1, .cons h r => .cons h (Reps.erase m r)
theorem reps_at : ∀ {as : List Addr} {xss : List (List D)}, as.length = xss.length → (∀ (j : Nat) (a : Addr) (ds : List D), as[j]? = some a → xss[j]? = some ds → Rep K T F (.ref a) (.lst ds)) → Reps K T F (as.map V.ref) (xss.map D.lst)
  | [], [], _, _ => .nil
  | a :: as, x :: xss, l, h => .cons (h 0 a x rfl rfl) (reps_at (by simpa using l) fun j b ds h1 h2 => h (j + 1) b ds h1 h2)
theorem Stp.frzL (p : Stp T F H F1 H1) (hL : ∀ b ∈ L, H b = none ∧ F1 b = none) (e : ∀ b o, H1 b = some o → isTbl o = false → b ∉ L → H2 b = some o) (en : ∀ b, H2 b = none → H1 b = none) (t : TbG T H1 → TbG T H2) : Exn F1 (frz F1 H2 L) ∧ Stp T F H (frz F1 H2 L) H2 := by
  have x : Exn F1 (frz F1 H2 L) := ⟨fun b o h _ => by
    by_cases q : b ∈ L
    · rw [(hL b q).2] at h; cases h
    · rw [frz_out q]; exact h, fun b h => by
    by_cases q : b ∈ L
    · exact (hL b q).2
    · rw [frz_out q] at h; exact h⟩
  refine ⟨x, Exn.trans p.ff x, ⟨fun b o h n => ?_, fun b h => ?_⟩, ⟨fun b o h n => ?_, fun b h => p.hh.n b (en b h)⟩, fun b o m h1 h2 => ?_, fun z => t (p.tb z)⟩
  · by_cases q : b ∈ L
    · rw [frz_in q] at h; exact h
    · rw [frz_out q] at h; exact e b o (p.fh.a b o h n) n q
  · by_cases q : b ∈ L
    · rw [frz_in q]; exact h
    · rw [frz_out q]; exact p.fh.n b (en b h)
  · exact e b o (p.hh.a b o h n) n fun q => by rw [(hL b q).1] at h; cases h
  · have q : b ∉ L := fun q => by rw [(hL b q).1] at h2; cases h2
    rw [frz_out q]
    exact p.fr b o m h1 h2
theorem nodup_inj {α : Type} : ∀ {l : List α} {i j : Nat} (_ : l.Nodup) (hi : i < l.length) (hj : j < l.length), l[i] = l[j] → i = j
  | [], i, _, _, hi, _, _ => absurd hi (Nat.not_lt_zero _)
  | x :: l, 0, 0, _, _, _, _ => rfl
  | x :: l, 0, j + 1, n, _, hj, e => absurd (show x ∈ l from by have e : x = l[j]'(by simpa using hj) := e; rw [e]; exact List.getElem_mem _) (List.nodup_cons.mp n).1
  | x :: l, i + 1, 0, n, hi, _, e => absurd (show x ∈ l from by have e : l[i]'(by simpa using hi) = x := e; rw [← e]; exact List.getElem_mem _) (List.nodup_cons.mp n).1
  | x :: l, i + 1, j + 1, n, hi, hj, e => congrArg Nat.succ (nodup_inj (List.nodup_cons.mp n).2 (by simpa using hi) (by simpa using hj) e)
/-- the comprehension: each item a new list -/
theorem rd_cp {F0 G : Hp} {δ : Env} {σ : L2.St} {fi : Env → Res (List D)} {is vs : List Nat} {g : D → Env → Option Env} {fe : Env → Res SV} {ds : List D} {Q : VK} (hv : ∀ i ∈ is, i ∈ vs) (E : EnvR K T F0 G F H σ δ) (q : fi δ = .ok ds) (ql : cpR g fe (dwipe δ vs) ds = some xss) (le : xss.length ≤ sizeLine)
    (hQ : ∀ A as F1 H1, Stp T F H F1 H1 → H A = none → F1 A = none → H1 A = some (.lst (as.map V.ref)) → A ∉ as → Outs K T F1 H1 H as xss → Q (.ref A) H1) : tLc (rdI K T W fi) (rdG K T is g) (rdT K T WF fYes) (rd K T WF fe) vs σ H Q := by
  refine ⟨F0, G, F, δ, E, ?_⟩
  rw [q]
  intro J F1 H1 p w A hA
  have E1 := E.grow p
  have hF1 : F1 A = none := Exn.back p.fh hA
  have hHA : H A = none := Exn.back p.hh hA
  refine ⟨fun i m H' => m = ds.length - i ∧ i ≤ ds.length ∧ ∃ F' as done rest, Stp T F1 H1 F' H' ∧ F' A = none ∧ H' A = some (.lst (as.map V.ref)) ∧ A ∉ as ∧ Outs K T F' H' H1 as done ∧ cpR g fe (dwipe δ vs) (ds.drop i) = some rest ∧ xss = done ++ rest,
    ⟨ds.length, by simp, Nat.zero_le _, F1, [], [], xss, Stp.new p.fh hA, hF1, upd_same, by simp, ⟨List.nodup_nil, rfl, fun j a z => by simp at z⟩, by rw [List.drop_zero]; exact ql, rfl⟩, ?_⟩
  rintro i m H2 ⟨rfl, hi, F2, as, done, rest, p2, hF2, hH2, nA, o2, l2, e2⟩
  by_cases l : i < ds.length
  · refine .inr ⟨w.go i H2 (Exn.trans p2.ff p2.fh) l, fun H' => ∃ F' as done rest, Stp T F1 H1 F' H' ∧ F' A = none ∧ H' A = some (.lst (as.map V.ref)) ∧ A ∉ as ∧ Outs K T F' H' H1 as done ∧ cpR g fe (dwipe δ vs) (ds.drop (i + 1)) = some rest ∧ xss = done ++ rest,
      fun H' q => ⟨ds.length - (i + 1), by omega, rfl, l, q⟩, fun x H3 y => ?_⟩
    rw [List.drop_eq_getElem_cons l, cpR] at l2
    obtain ⟨F3, p3, r3⟩ := w.yld i F2 H2 x H3 ds[i] p2.ff p2.fh (List.getElem?_eq_getElem l) y
    have E2 : EnvR K T F0 G F2 H2 (L2.wipe σ vs) (dwipe δ vs) := (E1.wipe vs).grow p2
    refine ⟨F0, G, F3, dwipe δ vs, ds[i], E2.grow p3, r3, ?_⟩
    cases q3 : g ds[i] (dwipe δ vs) with
    | none => rw [q3] at l2; cases l2
    | some δ3 =>
      rw [q3] at l2
      dsimp only at l2 ⊢
      intro σ3 E3 wp
      refine ⟨by rw [wp vs hv, wipe_wipe], ?_⟩
      refine ⟨F0, G, F3, δ3, E3, fun F4 H4 p4 => iteT ?_⟩
      refine ⟨F0, G, F4, δ3, E3.grow p4, ?_⟩
      cases hs : fe δ3 with
      | ex c => rw [hs] at l2; cases l2
      | bad => rw [hs] at l2; cases l2
      | ok s =>
        rw [hs] at l2
        cases s with
        | sh d => cases l2
        | br i d => cases l2
        | ow es =>
          dsimp only at l2
          cases qr : cpR g fe (dwipe δ vs) (ds.drop (i + 1)) with
          | none => rw [qr] at l2; cases l2
          | some more =>
            rw [qr] at l2
            cases l2
            intro v F5 H5 p5 r5
            obtain ⟨a, us, rfl, h0, f0, h5, r5⟩ := r5
            have p24 := (p2.trans p3).trans p4
            have p35 := (p3.trans p4).trans p5
            have hH5 := p35.hh.at hH2
            have hF5 := p35.fr A _ rfl hF2 hH2
            have o5 := o2.mono p35
            have a1 : H1 a = none := Exn.back p24.hh h0
            have na : a ∉ as := fun z => by
              obtain ⟨ws, hw⟩ := (o2.mono (p3.trans p4)).known z |>.2.2
              rw [h0] at hw; cases hw
            have aA : a ≠ A := fun z => by
              have hw := (p3.trans p4).hh.at hH2
              rw [← z, h0] at hw; cases hw
            have len : (as.map V.ref).length < sizeLine := by
              have h1 := congrArg List.length e2
              rw [List.length_append, List.length_cons] at h1
              rw [List.length_map, o2.len]
              omega
            refine ⟨as.map V.ref, hH5, len, F5, as ++ [a], done ++ [es], more, (p24.trans p5).mutNew hA hF5 (fun u hu => by rw [hH5] at hu; cases hu; rfl), hF5, ?_, ?_, ?_, rfl, by rw [List.append_assoc]; exact e2⟩
            · rw [List.map_append]; exact upd_same
            · rw [List.mem_append, List.mem_singleton]
              rintro (z | z)
              · exact nA z
              · exact aA z.symm
            · exact (o5.beside nA).snoc na a1 f0 (by rw [upd_ne aA]; exact h5) r5
  · have e : i = ds.length := by omega
    subst e
    rw [List.drop_length] at l2
    cases l2
    rw [List.append_nil] at e2
    subst e2
    refine .inl ⟨w.stop H2 (Exn.trans p2.ff p2.fh), hQ A as F2 H2 (p.trans p2) hHA hF2 hH2 nA ⟨o2.nd, o2.len, fun j a z => ?_⟩⟩
    obtain ⟨h1, h2, h3⟩ := o2.at_ j a z
    exact ⟨Exn.back p.hh h1, h2, h3⟩
end
/-- x = [list(y) for y in ys]; if c: return ..; x[k].pop(a); rest -/
noncomputable def fPopd (c : Nat) (δ δ1 : Env) (xss : List (List D)) (fk fa : Env → Res SV) (rest : FS) : Out := if c < δ.length then match fk δ1, fa δ1 with
  | .ok (.sh (.int k)), .ok (.sh (.int a)) => (match ixN xss.length k with
    | some j => (match xss[j]? with
      | some xs => (match popI xs a with
        | some ys => rest (δ.set c (.sh (.lst ((xss.set j ys).map .lst))))
        | none => .bad)
      | none => .bad)
    | none => .bad)
  | _, _ => .bad else .bad
noncomputable def fCp (c : Nat) (fi : Env → Res (List D)) (g : D → Env → Option Env) (fe : Env → Res SV) (vs : List Nat) (fc : Env → Res Bool) (fb : FS) (fk fa : Env → Res SV) (rest : FS) : FS := fun δ => match fi δ with
  | .ok ds => (match cpR g fe (dwipe δ vs) ds with
    | some xss => if xss.length ≤ sizeLine then (match fc (δ.set c (.sh (.lst (xss.map .lst)))) with
      | .ok true => (match fb (δ.set c (.sh (.lst (xss.map .lst)))) with
        | .rt s => .rt s
        | _ => .bad)
      | .ok false => fPopd c δ (δ.set c (.sh (.lst (xss.map .lst)))) xss fk fa rest
      | _ => .bad) else .bad
    | none => .bad)
  | _ => .bad
section
variable {X : Cx} {T : Tb} {W : WX}
theorem dss_fz {i : Nat} {sts : List Stmt} {f : FS} (h1 : PSs X sts (rdS X.K T W f)) : PSs X sts (rdS X.K T W (fFz i f)) := PSsimp h1 fun D σ H ⟨F0, G, F, δ, E, h⟩ => by
  unfold fFz at h
  split at h
  · rename_i ds hi
    obtain ⟨F', q, E'⟩ := E.freeze hi
    exact ⟨F0, G, F', _, E', SEnd.later q h⟩
  · exact ⟨F0, G, F, δ, E, h⟩
theorem dss_cp {st1 st2 st3 : Stmt} {rest : List Stmt} {c : Nat} {fi : Env → Res (List D)} {is vs : List Nat} {g : D → Env → Option Env} {fe fk fa : Env → Res SV} {fc : Env → Res Bool} {fb fr : FS} (hv : ∀ i ∈ is, i ∈ vs)
    (h1 : PS X st1 (tAsg (tLc (rdI X.K T W fi) (rdG X.K T is g) (rdT X.K T WF fYes) (rd X.K T WF fe) vs) (gName c)))
    (h2 : PS X st2 (tIfS (rdT X.K T W fc) (rdS X.K T W fb) tNext))
    (h3 : PS X st3 (tDrop (tBM X.K "list" rPopAt (tOp (rIx X.K) (tVar c) (rd X.K T W fk)) (tCons (rd X.K T W fa) tNil))))
    (hr : PSs X rest (rdS X.K T W fr)) : PSs X (st1 :: st2 :: st3 :: rest) (rdS X.K T W (fCp c fi g fe vs fc fb fk fa fr)) :=
  PSsimp (pss_cons h1 (pss_cons h2 (pss_cons h3 hr))) fun D σ H ⟨F0, G, F, δ, E, h⟩ => by
  unfold fCp at h
  cases q : fi δ with
  | ex _ => rw [q] at h; exact h.elim
  | bad => rw [q] at h; exact h.elim
  | ok ds =>
    rw [q] at h
    dsimp only at h
    cases ql : cpR g fe (dwipe δ vs) ds with
    | none => rw [ql] at h; exact h.elim
    | some xss =>
      rw [ql] at h
      dsimp only at h
      by_cases le : xss.length ≤ sizeLine
      · rw [if_pos le] at h
        show tLc _ _ _ _ _ σ H (fun x H1 => gName c x σ H1 _)
        refine rd_cp hv E q ql le fun A as F1 H1 p hA fA lA nA o => ?_
        have hL : ∀ b ∈ A :: as, H b = none ∧ F1 b = none := fun b hb => by
          rcases List.mem_cons.mp hb with rfl | hb
          · exact ⟨hA, fA⟩
          · exact ⟨(o.known hb).1, (o.known hb).2.1⟩
        -- ahead of the change
        obtain ⟨x2, p2⟩ := p.frzL (H2 := H1) hL (fun b u hb _ _ => hb) (fun b hb => hb) id
        have rA : Rep X.K T (frz F1 H1 (A :: as)) (.ref A) (.lst (xss.map .lst)) := by
          refine .lst (vs := as.map V.ref) (by rw [frz_in (List.mem_cons_self ..)]; exact lA) (reps_at o.len fun j a es ha he => ?_)
          obtain ⟨_, _, us, es', e1, e2, e3⟩ := o.at_ j a ha
          rw [he] at e1
          cases e1
          exact .lst (vs := us) (by rw [frz_in (List.mem_cons_of_mem _ (List.mem_iff_getElem?.mpr ⟨j, ha⟩))]; exact e2) (e3.mono x2)
        have E1 : EnvR X.K T F0 G (frz F1 H1 (A :: as)) H1 (σ.set c (some (.ref A))) (δ.set c (.sh (.lst (xss.map .lst)))) := (E.grow p2).setD rA
        show tIfS (rdT X.K T W fc) (rdS X.K T W fb) tNext { D with nx := tSeq (tDrop (tBM X.K "list" rPopAt (tOp (rIx X.K) (tVar c) (rd X.K T W fk)) (tCons (rd X.K T W fa) tNil))) (rdS X.K T W fr) D } (σ.set c (some (.ref A))) H1
        refine rdTE E1 (fun b hb F2 H2 p3 => ?_) (fun z hz => by rw [hz] at h; exact h.elim) fun hz => by rw [hz] at h; exact h.elim
        rw [hb] at h
        cases b with
        | true =>
          refine iteT ⟨F0, G, F2, _, E1.grow p3, ?_⟩
          dsimp only at h
          cases qb : fb (δ.set c (.sh (.lst (xss.map .lst)))) with
          | rt s => rw [qb] at h; exact h
          | _ => rw [qb] at h; exact h.elim
        | false =>
          refine iteF ?_
          dsimp only at h
          unfold fPopd at h
          by_cases lc : c < δ.length
          · rw [if_pos lc] at h
            have E2 := E1.grow p3
            have sA : (σ.set c (some (V.ref A)))[c]? = some (some (V.ref A)) := List.getElem?_set_self (by rw [E.len]; exact lc)
            show tBM X.K "list" rPopAt (tOp (rIx X.K) (tVar c) (rd X.K T W fk)) (tCons (rd X.K T W fa) tNil) (σ.set c (some (.ref A))) H2 (fun _ H1 => rdS X.K T W fr D (σ.set c (some (.ref A))) H1)
            refine ⟨.ref A, sA, rdE E2 (fun s3 e3 v F3 H3 p4 r4 => ?_) (fun z hz => by rw [hz] at h; exact h.elim) fun hz => by rw [hz] at h; exact h.elim⟩
            rw [e3] at h
            cases s3 with
            | ow _ => exact h.elim
            | br _ _ => exact h.elim
            | sh d3 =>
              cases d3 with
              | int k =>
                cases r4
                cases e4 : fa (δ.set c (.sh (.lst (xss.map .lst)))) with
                | ex z => rw [e4] at h; exact h.elim
                | bad => rw [e4] at h; exact h.elim
                | ok s4 =>
                  rw [e4] at h
                  cases s4 with
                  | ow _ => exact h.elim
                  | br _ _ => exact h.elim
                  | sh d4 =>
                    cases d4 with
                    | int a =>
                      dsimp only at h
                      cases ej : ixN xss.length k with
                      | none => rw [ej] at h; exact h.elim
                      | some j =>
                        rw [ej] at h
                        dsimp only at h
                        cases ex : xss[j]? with
                        | none => rw [ex] at h; exact h.elim
                        | some xs =>
                          rw [ex] at h
                          dsimp only at h
                          cases ey : popI xs a with
                          | none => rw [ey] at h; exact h.elim
                          | some ys =>
                            rw [ey] at h
                            dsimp only at h
                            have lj : j < as.length := by rw [o.len]; exact (List.getElem?_eq_some_iff.mp ex).1
                            have ea : as[j]? = some as[j] := List.getElem?_eq_getElem lj
                            obtain ⟨n0, f0, us, es, g1, g2, g3⟩ := o.at_ j _ ea
                            rw [ex] at g1
                            cases g1
                            have p34 := p3.trans p4
                            have atA : atI (as.map V.ref) k = some (V.ref as[j]) := by
                              unfold atI
                              rw [List.length_map, o.len, ej]
                              show (as.map V.ref)[j]? = _
                              rw [List.getElem?_map, ea]; rfl
                            refine .inl ⟨A, _, k, _, rfl, rfl, SqL.of (p34.hh.at lA), atA, Or.inl ⟨rfl, us, SqL.of (p34.hh.at g2)⟩, ?_⟩
                            refine rdE (E2.grow p4) (fun s5 e5 v5 F5 H5 p5 r5 => ?_) (fun z hz => by rw [e4] at hz; cases hz) fun hz => by rw [e4] at hz; cases hz
                            rw [e4] at e5
                            cases e5
                            cases r5
                            have pz := p34.trans p5
                            unfold popI at ey
                            split at ey
                            · rename_i bd
                              cases em : seqIndex? a xs.length with
                              | none => rw [em] at ey; cases ey
                              | some m =>
                                rw [em] at ey
                                dsimp only at ey
                                by_cases lm : m < xs.length
                                · rw [if_pos lm] at ey
                                  cases ey
                                  have lu : us.length = xs.length := g3.length
                                  refine ⟨as[j], us, a, m, us[m], rfl, rfl, pz.hh.at g2, bd.1, bd.2, by rw [lu]; exact em, List.getElem?_eq_getElem (by rw [lu]; exact lm), ?_⟩
                                  have jA : as[j] ≠ A := fun z => nA (z ▸ List.getElem_mem lj)
                                  have jL : as[j] ∈ A :: as := List.mem_cons_of_mem _ (List.getElem_mem lj)
                                  obtain ⟨x6, p6⟩ := p.frzL (L := A :: as) (H2 := upd H5 as[j] (.lst (us.eraseIdx m))) hL
                                    (fun b u hb n nb => by
                                      have ne : b ≠ as[j] := fun z => by rw [z] at nb; exact nb jL
                                      rw [upd_ne ne]; exact pz.hh.a b u hb n)
                                    (fun b hb => by
                                      by_cases z : b = as[j]
                                      · rw [z, upd_same] at hb; cases hb
                                      · rw [upd_ne z] at hb; exact pz.hh.n b hb)
                                    (fun t => (pz.tb t).put (pz.hh.at g2) rfl)
                                  have r6 : Rep X.K T (frz F1 (upd H5 as[j] (.lst (us.eraseIdx m))) (A :: as)) (.ref A) (.lst ((xss.set j (xs.eraseIdx m)).map .lst)) := by
                                    refine .lst (vs := as.map V.ref) (by rw [frz_in (List.mem_cons_self ..), upd_ne (fun z => jA z.symm)]; exact pz.hh.at lA) (reps_at (by rw [List.length_set]; exact o.len) fun i b ds hb hd => ?_)
                                    have bm : b ∈ A :: as := List.mem_cons_of_mem _ (List.mem_iff_getElem?.mpr ⟨i, hb⟩)
                                    by_cases ij : j = i
                                    · subst ij
                                      rw [ea] at hb
                                      cases hb
                                      rw [List.getElem?_set_self (by rw [← o.len]; exact lj)] at hd
                                      cases hd
                                      exact .lst (vs := us.eraseIdx m) (by rw [frz_in bm]; exact upd_same) (Reps.erase m (g3.mono x6))
                                    · rw [List.getElem?_set_ne ij] at hd
                                      obtain ⟨_, _, ws, xs', k1, k2, k3⟩ := o.at_ i b hb
                                      rw [hd] at k1
                                      cases k1
                                      have nb : b ≠ as[j] := fun z => by
                                        have li : i < as.length := (List.getElem?_eq_some_iff.mp hb).1
                                        have e6 : as[i] = as[j] := by rw [← z]; exact (List.getElem?_eq_some_iff.mp hb).2
                                        exact ij (nodup_inj o.nd lj li e6.symm)
                                      exact .lst (vs := ws) (by rw [frz_in bm, upd_ne nb]; exact pz.hh.at k2) (k3.mono x6)
                                  exact ⟨F0, G, _, _, (E.grow p6).setD r6, SEnd.later p6.ff h⟩
                                · rw [if_neg lm] at ey; cases ey
                            · cases ey
                    | _ => exact h.elim
              | _ => exact h.elim
          · rw [if_neg lc] at h; exact h.elim
      · rw [if_neg le] at h; exact h.elim
end
end DL
end

section
set_option Elab.async false
set_option linter.all false
set_option autoImplicit false
set_option maxRecDepth 100000
set_option maxHeartbeats 4000000
/-! A calculus for what a printed function of data gives: one lemma a construct, used from the outside in. -/
namespace DL
open PySem PySem.Spec PyProof.Rows L2
section
variable {δ : DL.Env} {fa fb fc fd fe : DL.Env → Res SV} {ft fu : DL.Env → Res Bool} {a b c : Int} {p q : Bool} {d e f x y z : D} {s s' t u v : SV} {r : Res SV} {ss tt : List SV}
/-! ### numbers -/
theorem v_add (h1 : fa δ = .ok (.sh (.int a))) (h2 : fb δ = .ok (.sh (.int b))) : f2 gAdd fa fb δ = .ok (.sh (.int (a + b))) := by
  unfold f2; rw [h1, h2]; rfl
theorem v_sub (h1 : fa δ = .ok (.sh (.int a))) (h2 : fb δ = .ok (.sh (.int b))) : f2 gSub fa fb δ = .ok (.sh (.int (a - b))) := by
  unfold f2; rw [h1, h2]; rfl
theorem v_mul (h1 : fa δ = .ok (.sh (.int a))) (h2 : fb δ = .ok (.sh (.int b))) (h : mulOk a b = true) : f2 gMul fa fb δ = .ok (.sh (.int (a * b))) := by
  unfold f2; rw [h1, h2]
  show Res.ofO (gMul (.int a) (.int b)) = _
  have e : gMulI (.int a) (.int b) = some (.sh (.int (a * b))) := if_pos h
  unfold gMul
  rw [e]; rfl
theorem v_mod (h1 : fa δ = .ok (.sh (.int a))) (h2 : fb δ = .ok (.sh (.int b))) (h : 0 < b) : f2 gMod fa fb δ = .ok (.sh (.int (a % b))) := by
  unfold f2; rw [h1, h2]
  have e : gMod (.int a) (.int b) = some (.sh (.int (a % b))) := if_pos (decide_eq_true h)
  show Res.ofO (gMod (.int a) (.int b)) = _
  rw [e]; rfl
theorem v_div (h1 : fa δ = .ok (.sh (.int a))) (h2 : fb δ = .ok (.sh (.int b))) (h : 0 < b ∧ b.natAbs.log2 < 9000) : f2 gDiv fa fb δ = .ok (.sh (.int (a / b))) := by
  unfold f2; rw [h1, h2]
  have e : gDiv (.int a) (.int b) = some (.sh (.int (a / b))) := if_pos (decide_eq_true h)
  show Res.ofO (gDiv (.int a) (.int b)) = _
  rw [e]; rfl
theorem v_neg (h1 : fa δ = .ok (.sh (.int a))) : f1 gNeg fa δ = .ok (.sh (.int (-a))) := by
  unfold f1; rw [h1]; rfl
theorem v_lt (h1 : fa δ = .ok (.sh (.int a))) (h2 : fb δ = .ok (.sh (.int b))) : f2 gLt fa fb δ = .ok (.sh (.bl (decide (a < b)))) := by
  unfold f2; rw [h1, h2]; rfl
theorem v_le (h1 : fa δ = .ok (.sh (.int a))) (h2 : fb δ = .ok (.sh (.int b))) : f2 gLe fa fb δ = .ok (.sh (.bl (decide (a ≤ b)))) := by
  unfold f2; rw [h1, h2]; rfl
theorem v_gt (h1 : fa δ = .ok (.sh (.int a))) (h2 : fb δ = .ok (.sh (.int b))) : f2 gGt fa fb δ = .ok (.sh (.bl (decide (b < a)))) := by
  unfold f2; rw [h1, h2]; rfl
theorem v_ge (h1 : fa δ = .ok (.sh (.int a))) (h2 : fb δ = .ok (.sh (.int b))) : f2 gGe fa fb δ = .ok (.sh (.bl (decide (b ≤ a)))) := by
  unfold f2; rw [h1, h2]; rfl
theorem v_eq (h1 : fa δ = .ok (.sh (.int a))) (h2 : fb δ = .ok (.sh (.int b))) : f2 gEq fa fb δ = .ok (.sh (.bl (decide (a = b)))) := by
  unfold f2; rw [h1, h2]; rfl
theorem v_ne (h1 : fa δ = .ok (.sh (.int a))) (h2 : fb δ = .ok (.sh (.int b))) : f2 gNe fa fb δ = .ok (.sh (.bl (!decide (a = b)))) := by
  unfold f2; rw [h1, h2]; rfl
theorem v_max2 (h1 : fa δ = .ok (.sh (.int a))) (h2 : fb δ = .ok (.sh (.int b))) : fN gMax2 (aCons fa (aCons fb aNil)) δ = .ok (.sh (.int (max a b))) := by
  unfold fN aCons; rw [h1, h2]
  show Res.ok (SV.sh (.int (if b > a then b else a))) = _
  rw [show (if b > a then b else a) = max a b by split <;> omega]
theorem v_min2 (h1 : fa δ = .ok (.sh (.int a))) (h2 : fb δ = .ok (.sh (.int b))) : fN gMin2 (aCons fa (aCons fb aNil)) δ = .ok (.sh (.int (min a b))) := by
  unfold fN aCons; rw [h1, h2]
  show Res.ok (SV.sh (.int (if b < a then b else a))) = _
  rw [show (if b < a then b else a) = min a b by split <;> omega]
theorem v_intB (h1 : fa δ = .ok (.sh (.bl p))) : fN gInt (aCons fa aNil) δ = .ok (.sh (.int (if p then 1 else 0))) := by
  unfold fN aCons; rw [h1]; rfl
/-- of two data, the operation's answer told -/
theorem v_f2 {g : D → D → Option SV} (h1 : fa δ = .ok s) (h2 : fb δ = .ok t) (h : g s.d t.d = some u) : f2 g fa fb δ = .ok u := by
  unfold f2; rw [h1, h2]
  show Res.ofO (g s.d t.d) = _
  rw [h]; rfl
theorem v_f1 {g : D → Option SV} (h1 : fa δ = .ok s) (h : g s.d = some u) : f1 g fa δ = .ok u := by
  unfold f1; rw [h1]
  show Res.ofO (g s.d) = _
  rw [h]; rfl
theorem v_fN {g : List D → Option SV} {fl : DL.Env → Res (List SV)} (h1 : fl δ = .ok ss) (h : g (ss.map SV.d) = some u) : fN g fl δ = .ok u := by
  unfold fN; rw [h1]
  show Res.ofO (g (ss.map SV.d)) = _
  rw [h]; rfl
/-! ### truth -/
theorem v_chLL (h1 : fa δ = .ok (.sh (.int a))) (h2 : fb δ = .ok (.sh (.int b))) (h3 : fc δ = .ok (.sh (.int c))) : fChain gLe gLe fa fb fc δ = .ok (.sh (.bl (decide (a ≤ b ∧ b ≤ c)))) := by
  unfold fChain
  rw [h1, h2, bind_ok, bind_ok]
  show (match some (SV.sh (.bl (decide (a ≤ b)))) with | some (.sh (.bl k)) => if k = true then (fc δ).bind fun z => Res.ofO (gLe (.int b) z.d) else .ok (.sh (.bl false)) | _ => .bad) = _
  by_cases q : a ≤ b
  · simp only [q, decide_true, if_true, h3, bind_ok, true_and]; rfl
  · simp [q]
theorem v_chLT (h1 : fa δ = .ok (.sh (.int a))) (h2 : fb δ = .ok (.sh (.int b))) (h3 : fc δ = .ok (.sh (.int c))) : fChain gLe gLt fa fb fc δ = .ok (.sh (.bl (decide (a ≤ b ∧ b < c)))) := by
  unfold fChain
  rw [h1, h2, bind_ok, bind_ok]
  show (match some (SV.sh (.bl (decide (a ≤ b)))) with | some (.sh (.bl k)) => if k = true then (fc δ).bind fun z => Res.ofO (gLt (.int b) z.d) else .ok (.sh (.bl false)) | _ => .bad) = _
  by_cases q : a ≤ b
  · simp only [q, decide_true, if_true, h3, bind_ok, true_and]; rfl
  · simp [q]
theorem v_and (h1 : fa δ = .ok (.sh (.bl p))) (h2 : p = true → fb δ = .ok (.sh (.bl q))) : fAndV fa fb δ = .ok (.sh (.bl (p && q))) := by
  unfold fAndV; rw [h1]
  cases p
  · rfl
  · show fb δ = _
    rw [h2 rfl]; rfl
theorem v_or (h1 : fa δ = .ok (.sh (.bl p))) (h2 : p = false → fb δ = .ok (.sh (.bl q))) : fOrV fa fb δ = .ok (.sh (.bl (p || q))) := by
  unfold fOrV; rw [h1]
  cases p
  · show fb δ = _
    rw [h2 rfl]; rfl
  · rfl
theorem v_not (h1 : fa δ = .ok (.sh (.bl p))) : fNotV fa δ = .ok (.sh (.bl (!p))) := by
  unfold fNotV; rw [h1]; rfl
theorem v_if (h1 : ft δ = .ok p) (h2 : p = true → fa δ = .ok s) (h3 : p = false → fb δ = .ok t) : fIf ft fa fb δ = .ok (if p = true then s else t) := by
  unfold fIf; rw [h1]
  cases p
  · exact h3 rfl
  · exact h2 rfl
theorem v_ifT (h1 : ft δ = .ok true) (h2 : fa δ = r) : fIf ft fa fb δ = r := by
  unfold fIf; rw [h1, ← h2]; rfl
theorem v_ifF (h1 : ft δ = .ok false) (h2 : fb δ = r) : fIf ft fa fb δ = r := by
  unfold fIf; rw [h1, ← h2]; rfl
theorem t_val (h1 : fa δ = .ok (.sh (.bl p))) : fT fa δ = .ok p := by
  unfold fT; rw [h1]; rfl
theorem t_not (h1 : ft δ = .ok p) : fNot ft δ = .ok (!p) := by
  unfold fNot; rw [h1]; rfl
theorem t_and (h1 : ft δ = .ok p) (h2 : p = true → fu δ = .ok q) : fAnd ft fu δ = .ok (p && q) := by
  unfold fAnd; rw [h1]
  cases p
  · rfl
  · show fu δ = _
    rw [h2 rfl]; rfl
theorem t_or (h1 : ft δ = .ok p) (h2 : p = false → fu δ = .ok q) : fOr ft fu δ = .ok (p || q) := by
  unfold fOr; rw [h1]
  cases p
  · show fu δ = _
    rw [h2 rfl]; rfl
  · rfl
/-! ### arguments, calls -/
theorem w_nil : aNil δ = .ok [] := rfl
theorem w_cons {fl : DL.Env → Res (List SV)} (h1 : fa δ = .ok s) (h2 : fl δ = .ok ss) : aCons fa fl δ = .ok (s.fz :: ss) := by
  unfold aCons; rw [h1, h2]; rfl
theorem v_call {n : Nat} {phi : List D → Res SV} {dds ds : List D} {fl : DL.Env → Res (List SV)} (h1 : fl δ = .ok ss) (hn : ss.length + dds.length = n) (hs : stills ss = some ds) (h : phi (ds ++ dds) = r) : fCall n phi dds fl δ = r := by
  unfold fCall; rw [h1]
  show (if _ then _ else _) = _
  rw [if_pos hn, hs]; exact h
theorem v_make {n : Nat} {phi : List D → Res SV} {dds ds : List D} {fl : DL.Env → Res (List SV)} (h1 : fl δ = .ok ss) (hn : ss.length + dds.length = n) (hs : stills ss = some ds) (h : phi (ds ++ dds) = r) : fMake n phi dds fl δ = r := by
  unfold fMake; rw [h1]
  show (if _ then _ else _) = _
  rw [if_pos hn, hs]; exact h
theorem v_meth {m : Str} {cs : List Nat} {n k : Nat} {phi : Nat → List D → Res SV} {dds ds : List D} {fs : List (Str × D)} {fl : DL.Env → Res (List SV)} (h0 : fa δ = .ok (.sh (.ins k fs))) (hk : k ∈ cs) (hm : fs.lookup m = none) (h1 : fl δ = .ok ss) (hn : ss.length + 1 + dds.length = n) (hs : stills ss = some ds) (h : phi k (.ins k fs :: ds ++ dds) = r) : fMeth m cs n phi dds fa fl δ = r := by
  unfold fMeth; rw [h0]
  show (if k ∈ cs ∧ fs.lookup m = none then _ else _) = _
  rw [if_pos ⟨hk, hm⟩, h1]
  show fCallK n (phi k) dds (.sh (.ins k fs) :: ss) = _
  unfold fCallK
  rw [if_pos (by rw [List.length_cons]; exact hn)]
  have e : stills (.sh (.ins k fs) :: ss) = some (.ins k fs :: ds) := by unfold stills; rw [hs]; rfl
  rw [e]; exact h
theorem v_fld {tab : FTab} {g : Str} {k : Nat} {fs : List (Str × D)} (h0 : fa δ = .ok (.sh (.ins k fs))) (ht : (k, g) ∈ tab) (h : fs.lookup g = some d) : f1 (gFld tab g) fa δ = .ok (.sh d) := by
  unfold f1; rw [h0]
  show Res.ofO (if (k, g) ∈ tab then _ else _) = _
  rw [if_pos ht, h]; rfl
theorem v_clo {tab : FTab} {g : Str} {ms : List Nat} {ar : Nat → Nat} {phi : Nat → List D → Res SV} {k m : Nat} {fs : List (Str × D)} {cs ds : List D} {fl : DL.Env → Res (List SV)} (h0 : fa δ = .ok (.sh (.ins k fs))) (ht : (k, g) ∈ tab) (hg : fs.lookup g = some (.clo m cs)) (hm : m ∈ ms) (hc : noKs cs = true) (h1 : fl δ = .ok ss) (hs : stills ss = some ds) (ha : ds.length = ar m) (hd : noKs ds = true) (h : phi m (ds ++ cs) = .ok s) : fCloM tab g ms ar phi fa fl δ = .ok s := by
  unfold fCloM; rw [h0]
  show (if (k, g) ∈ tab then _ else _) = _
  rw [if_pos ht, hg]
  show (if m ∈ ms ∧ noKs cs = true then _ else _) = _
  rw [if_pos ⟨hm, hc⟩, h1]
  show (match stills ss with | some ds => _ | none => _) = _
  rw [hs]
  show (if ds.length = ar m ∧ noKs ds = true then _ else _) = _
  rw [if_pos ⟨ha, hd⟩, h]
/-! ### displays -/
theorem v_tup {fl : DL.Env → Res (List SV)} {ds : List D} (h1 : fl δ = .ok ss) (hs : stills ss = some ds) (hl : ds.length ≤ 100000) : fTup fl δ = .ok (.sh (.tup ds)) := by
  unfold fTup; rw [h1]
  show (match stills ss with | some ds => _ | none => _) = _
  rw [hs]
  exact if_pos (Nat.le_trans hl (by decide))
theorem v_lst {fl : DL.Env → Res (List SV)} {ds : List D} (h1 : fl δ = .ok ss) (hs : stills ss = some ds) (hl : ds.length ≤ 100000) : fLst fl δ = .ok (.ow ds) := by
  unfold fLst; rw [h1]
  show (match stills ss with | some ds => _ | none => _) = _
  rw [hs]
  exact if_pos (Nat.le_trans hl (by decide))
theorem atI_tup {ds : List D} {i : Int} (h : atI ds i = some d) : gIx (.tup ds) (.int i) = some (.sh d) := by
  simp [gIx, h]
theorem atI_lst {ds : List D} {i : Int} (h : atI ds i = some d) : gIx (.lst ds) (.int i) = some (.sh d) := by
  simp [gIx, h]
theorem v_ixT {ds : List D} (h1 : fa δ = .ok (.sh (.tup ds))) (h2 : fb δ = .ok (.sh (.int a))) (h : atI ds a = some d) : f2 gIx fa fb δ = .ok (.sh d) := v_f2 h1 h2 (atI_tup h)
theorem v_ixO {ds : List D} (h1 : fa δ = .ok (.ow ds)) (h2 : fb δ = .ok (.sh (.int a))) (h : atI ds a = some d) : f2 gIx fa fb δ = .ok (.sh d) := v_f2 h1 h2 (atI_lst h)
theorem v_ixL {ds : List D} (h1 : fa δ = .ok (.sh (.lst ds))) (h2 : fb δ = .ok (.sh (.int a))) (h : atI ds a = some d) : f2 gIx fa fb δ = .ok (.sh d) := v_f2 h1 h2 (atI_lst h)
/-- an index that is one of few -/
theorem atI_of {ds : List D} {i : Int} (h0 : 0 ≤ i) (h : ds[i.toNat]? = some d) : atI ds i = some d := by
  have e := (List.getElem?_eq_some_iff.mp h).1
  unfold atI
  have e2 : ixN ds.length i = some i.toNat := by
    unfold ixN
    rw [if_pos h0, if_pos (by omega)]
  rw [e2]
  exact h
end
/-! ### statements -/
section
variable {δ δ' δ'' : DL.Env} {fa fb : DL.Env → Res SV} {ft : DL.Env → Res Bool} {A B : FS} {o : Out} {s u : SV} {sl : Sl} {d : D} {p : Bool} {i : Nat}
theorem s_seq (h1 : A δ = .nx δ') (h2 : B δ' = o) : fSeq A B δ = o := by
  unfold fSeq; rw [h1]; exact h2
theorem s_seqX (h1 : A δ = o) (h : ∀ δ', o ≠ .nx δ') : fSeq A B δ = o := by
  unfold fSeq; rw [h1]
  cases o with
  | nx δ' => exact absurd rfl (h δ')
  | _ => rfl
theorem s_rt {r : SV} (h1 : A δ = .rt r) : fSeq A B δ = .rt r := s_seqX h1 fun _ z => by cases z
theorem s_ex {c : Nat} (h1 : A δ = .ex c δ') : fSeq A B δ = .ex c δ' := s_seqX h1 fun _ z => by cases z
theorem s_asg (h : fa δ = .ok (.sh d)) : fAsg i fa δ = .nx (δ.set i (.sh d)) := by
  unfold fAsg; rw [h]; rfl
theorem s_asgO {ds : List D} (h : fa δ = .ok (.ow ds)) : fAsg i fa δ = .nx (δ.set i (.ow ds)) := by
  unfold fAsg; rw [h]; rfl
theorem s_ret (h : fa δ = .ok (.sh d)) : fRet fa δ = .rt (.sh d) := by
  unfold fRet; rw [h]; rfl
theorem s_retO {ds : List D} (h : fa δ = .ok (.ow ds)) : fRet fa δ = .rt (.ow ds) := by
  unfold fRet; rw [h]; rfl
theorem s_retB {ds : List D} {j : Nat} (h : fa δ = .ok (.br j ds)) : fRet fa δ = .rt (.ow ds) := by
  unfold fRet; rw [h]; rfl
theorem s_iteT (h1 : ft δ = .ok true) (h2 : A δ = o) : fIte ft A B δ = o := by
  unfold fIte; rw [h1]; exact h2
theorem s_iteF (h1 : ft δ = .ok false) (h2 : B δ = o) : fIte ft A B δ = o := by
  unfold fIte; rw [h1]; exact h2
theorem s_ite (h1 : ft δ = .ok p) (h2 : p = true → A δ = o) (h3 : p = false → B δ = o) : fIte ft A B δ = o := by
  cases p
  · exact s_iteF h1 (h3 rfl)
  · exact s_iteT h1 (h2 rfl)
theorem s_drop (h : fa δ = .ok s) : fDrop fa δ = .nx δ := by
  unfold fDrop; rw [h]; rfl
theorem s_dropX {c : Nat} (h : fa δ = .ex c) : fDrop fa δ = .ex c δ := by
  unfold fDrop; rw [h]; rfl
theorem s_aug {g : D → D → Option SV} (h0 : δ[i]? = some (.sh d)) (h : fa δ = .ok s) (hg : g d s.d = some u) (hs : slotOf u = some sl) : fAug i g fa δ = .nx (δ.set i sl) := by
  unfold fAug
  rw [h0]
  show (fa δ).out δ _ = _
  rw [h]
  show (match g d s.d with | some z => _ | none => _) = _
  rw [hg]
  show (match slotOf u with | some sl => _ | none => _) = _
  rw [hs]
theorem s_unp {g : D → DL.Env → Option DL.Env} (h : fa δ = .ok (.sh d)) (hg : g d δ = some δ') : fUnp g fa δ = .nx δ' := by
  unfold fUnp; rw [h]
  show (match g d δ with | some δ' => _ | none => _) = _
  rw [hg]
theorem s_fzS (h0 : δ[i]? = some (.sh d)) (h : A δ = o) : fFz i A δ = o := by
  unfold fFz; rw [h0]; exact h
theorem s_fzN (h0 : δ[i]? = some .no) (h : A δ = o) : fFz i A δ = o := by
  unfold fFz; rw [h0]; exact h
theorem s_fzO {ds : List D} (h0 : δ[i]? = some (.ow ds)) (h : A (δ.set i (.sh (.lst ds))) = o) : fFz i A δ = o := by
  unfold fFz; rw [h0]; exact h
theorem run_rt {n : Nat} {ds : List D} (h : A (slots ds ++ List.replicate (n - ds.length) .no) = .rt s) : runF n A ds = .ok s := by
  unfold runF; rw [h]
theorem run_ex {n c : Nat} {ds : List D} (h : A (slots ds ++ List.replicate (n - ds.length) .no) = .ex c δ') : runF n A ds = .ex c := by
  unfold runF; rw [h]
theorem run_nx {n : Nat} {ds : List D} (h : A (slots ds ++ List.replicate (n - ds.length) .no) = .nx δ') : runF n A ds = .ok (.sh .non) := by
  unfold runF; rw [h]
end
end DL
namespace DL
open PySem PySem.Spec PyProof.Rows L2
section
variable {δ : DL.Env} {d : D} {i : Nat}
theorem v_var (h : δ[i]? = some (Sl.sh d)) : fVar i δ = .ok (.sh d) := by unfold fVar; rw [h]
theorem v_c : fC d δ = .ok (.sh d) := rfl
theorem v_varB {ds : List D} (h : δ[i]? = some (Sl.ow ds)) : fVar i δ = .ok (.br i ds) := by unfold fVar; rw [h]
/-- the rest of an __init__, an attribute put -/
theorem s_put {tab : FTab} {f : Str} {fe : DL.Env → Res SV} {a : Addr} {c : Nat} {fs : List (Str × D)} (h : fe δ = .ok (.sh d)) (h0 : δ[0]? = some (Sl.me a c fs)) (ht : (c, f) ∈ tab) (hn : fs.length < 1000) : fPut tab f fe δ = .nx (δ.set 0 (.me a c (putD f d fs))) := by
  unfold fPut
  rw [h]
  show (match δ[0]? with | some (Sl.me a c fs) => _ | _ => _) = _
  rw [h0]
  exact if_pos ⟨ht, hn⟩
theorem runI_nx {n c : Nat} {b : FS} {a : Addr} {ds : List D} {δ' : DL.Env} {fs : List (Str × D)} (h : b (.me a c [] :: slots ds ++ List.replicate (n - 1 - ds.length) .no) = .nx δ') (h0 : δ'[0]? = some (Sl.me a c fs)) : runI n c b a ds = .ok fs := by
  unfold runI
  rw [h]
  show (match δ'[0]? with | some (Sl.me a' c' fs) => _ | _ => _) = _
  rw [h0]
  exact if_pos ⟨rfl, rfl⟩
theorem runI_ex {n c k : Nat} {b : FS} {a : Addr} {ds : List D} {δ' : DL.Env} (h : b (.me a c [] :: slots ds ++ List.replicate (n - 1 - ds.length) .no) = .ex k δ') : runI n c b a ds = .ex k := by
  unfold runI
  rw [h]
theorem mkD_ok {c : Nat} {phi : Addr → List D → Res (List (Str × D))} {ds : List D} {fs : List (Str × D)} (h : ∀ a, phi a ds = .ok fs) : mkD c phi ds = .ok (.sh (.ins c fs)) := by
  unfold mkD
  rw [uni_eq h]; rfl
theorem mkD_ex {c k : Nat} {phi : Addr → List D → Res (List (Str × D))} {ds : List D} (h : ∀ a, phi a ds = .ex k) : mkD c phi ds = .ex k := by
  unfold mkD
  rw [uni_eq h]; rfl
theorem s_base {n c : Nat} {phi : Addr → List D → Res (List (Str × D))} {fl : DL.Env → Res (List SV)} {a : Addr} {ss : List SV} {ds : List D} {fs : List (Str × D)} (h0 : δ[0]? = some (Sl.me a c [])) (h1 : fl δ = .ok ss) (hn : ss.length = n) (h2 : stills ss = some ds) (h3 : phi a ds = .ok fs) : fBase n c phi fl δ = .nx (δ.set 0 (.me a c fs)) := by
  unfold fBase
  simp only [h0, h1, h2, h3, hn, out_ok, if_true]
end
/-! ### defs that make lambdas -/
section
variable {δ δ' : DL.Env} {fa : DL.Env → Res SV} {ft : DL.Env → Res Bool} {A B : FQ} {S : FS} {o : OutQ} {s : SV} {d : D} {p : Bool}
theorem q_seq (h1 : A δ = .nx δ') (h2 : B δ' = o) : qSeq A B δ = o := by
  unfold qSeq; rw [h1]; exact h2
theorem q_rt (h1 : A δ = .rt s δ') : qSeq A B δ = .rt s δ' := by
  unfold qSeq; rw [h1]
theorem q_iteT (h1 : ft δ = .ok true) (h2 : A δ = o) : qIte ft A B δ = o := by
  unfold qIte; rw [h1]; exact h2
theorem q_iteF (h1 : ft δ = .ok false) (h2 : B δ = o) : qIte ft A B δ = o := by
  unfold qIte; rw [h1]; exact h2
theorem q_stm (h : S δ = .nx δ') : qSt S δ = .nx δ' := by
  unfold qSt; rw [h]
theorem q_retS (h : fa δ = .ok (.sh d)) : qRet fa δ = .rt (.sh d) δ := by
  unfold qRet; rw [h]; rfl
theorem runQ_rt {n : Nat} {js : List Nat} {b : List D → FQ} {ds : List D} (h : b ds (slots ds ++ List.replicate (n - ds.length) .no) = .rt s δ) (hk : keepsJ js ds δ) : runQ n js b ds = .ok s := by
  unfold runQ
  rw [h]
  exact if_pos hk
end
theorem w_consS {δ : DL.Env} {fa : DL.Env → Res SV} {fl : DL.Env → Res (List SV)} {ss : List SV} {d : D} (h1 : fa δ = .ok (.sh d)) (h2 : fl δ = .ok ss) : aCons fa fl δ = .ok (.sh d :: ss) := DL.w_cons h1 h2
theorem t_is {δ : DL.Env} {ft : DL.Env → Res Bool} {p q : Bool} (h : ft δ = .ok p) (e : p = q) : ft δ = .ok q := e ▸ h
theorem t_orT {δ : DL.Env} {ft fu : DL.Env → Res Bool} (h : ft δ = .ok true) : fOr ft fu δ = .ok true := by unfold fOr; rw [h]; rfl
theorem t_orF {δ : DL.Env} {ft fu : DL.Env → Res Bool} {r : Res Bool} (h : ft δ = .ok false) (h2 : fu δ = r) : fOr ft fu δ = r := by unfold fOr; rw [h]; exact h2
theorem t_andF {δ : DL.Env} {ft fu : DL.Env → Res Bool} (h : ft δ = .ok false) : fAnd ft fu δ = .ok false := by unfold fAnd; rw [h]; rfl
theorem t_andT {δ : DL.Env} {ft fu : DL.Env → Res Bool} {r : Res Bool} (h : ft δ = .ok true) (h2 : fu δ = r) : fAnd ft fu δ = r := by unfold fAnd; rw [h]; exact h2
theorem v_ifS {δ : DL.Env} {ft : DL.Env → Res Bool} {fa fb : DL.Env → Res SV} {p : Bool} {d e : D} (h1 : ft δ = .ok p) (h2 : p = true → fa δ = .ok (.sh d)) (h3 : p = false → fb δ = .ok (.sh e)) : fIf ft fa fb δ = .ok (.sh (if p = true then d else e)) := by
  rw [v_if h1 h2 h3]
  cases p <;> rfl
theorem v_eqB {δ : DL.Env} {fa fb : DL.Env → Res SV} {p q : Bool} (h1 : fa δ = .ok (.sh (.bl p))) (h2 : fb δ = .ok (.sh (.bl q))) : f2 gEq fa fb δ = .ok (.sh (.bl (decide (p = q)))) := by
  unfold f2; rw [h1, h2]; rfl
theorem v_neB {δ : DL.Env} {fa fb : DL.Env → Res SV} {p q : Bool} (h1 : fa δ = .ok (.sh (.bl p))) (h2 : fb δ = .ok (.sh (.bl q))) : f2 gNe fa fb δ = .ok (.sh (.bl (!decide (p = q)))) := by
  unfold f2; rw [h1, h2]; rfl
theorem v_eqS {δ : DL.Env} {fa fb : DL.Env → Res SV} {x y : Str} (h1 : fa δ = .ok (.sh (.str x))) (h2 : fb δ = .ok (.sh (.str y))) : f2 gEq fa fb δ = .ok (.sh (.bl (decide (x = y)))) := by
  unfold f2; rw [h1, h2]; rfl
theorem v_ifB {δ : DL.Env} {ft : DL.Env → Res Bool} {fa fb : DL.Env → Res SV} {p : Bool} {r : Res SV} (h1 : ft δ = .ok p) (h2 : p = true → fa δ = r) (h3 : p = false → fb δ = r) : fIf ft fa fb δ = r := by
  unfold fIf; rw [h1]
  cases p
  · rw [← h3 rfl]; rfl
  · rw [← h2 rfl]; rfl
theorem atI_ints (ns : List Int) (i : Int) (h0 : 0 ≤ i) (h : i < ns.length) (P : Int → Prop) (hP : ∀ x ∈ ns, P x) : ∃ x, atI (ns.map D.int) i = some (.int x) ∧ P x := by
  obtain ⟨x, m, e⟩ := atI_at (ns.map D.int) i h0 (by rw [List.length_map]; exact h)
  obtain ⟨n, hn, rfl⟩ := List.mem_map.mp m
  exact ⟨n, e, hP n hn⟩
/-- a word's test -/
theorem t_wd {δ : DL.Env} {i : Nat} {x y : Str} {b : Bool} (h : δ[i]? = some (.sh (.str x))) (hb : decide (x = y) = b) : fT (f2 gEq (fVar i) (fC (.str y))) δ = .ok b := hb ▸ t_val (v_eqS (v_var h) v_c)
theorem i_rg2 {δ : DL.Env} {fl : DL.Env → Res (List SV)} {i j : Int} (h : fl δ = .ok [.sh (.int i), .sh (.int j)]) (h1 : -(2 ^ 62) ≤ i) (h2 : i < 2 ^ 62) (h3 : -(2 ^ 62) ≤ j) (h4 : j < 2 ^ 62) : iRg rng2 fl δ = .ok ((List.range (j - i).toNat).map fun k => .int (i + (k : Nat))) := by
  unfold iRg; rw [h]
  show Res.ofO (rng2 _) = _
  rw [ev_rg2 _ _ h1 h2 h3 h4]; rfl
theorem i_rg1 {δ : DL.Env} {fl : DL.Env → Res (List SV)} {j : Int} (h : fl δ = .ok [.sh (.int j)]) (h3 : -(2 ^ 62) ≤ j) (h4 : j < 2 ^ 62) : iRg rng1 fl δ = .ok ((List.range j.toNat).map fun k => .int ((k : Nat) : Int)) := by
  unfold iRg; rw [h]
  show Res.ofO (rng1 _) = _
  rw [ev_rg1 _ h3 h4]; rfl
theorem s_for {δ : DL.Env} {fi : DL.Env → Res (List D)} {g : D → DL.Env → Option DL.Env} {b : FS} {ds : List D} {o : Out} (h : fi δ = .ok ds) (h2 : forR g b ds δ = o) : fFor fi g b δ = o := by
  unfold fFor; rw [h]; exact h2
theorem s_whileF {δ : DL.Env} {ft : DL.Env → Res Bool} {B : FS} (h : ft δ = .ok false) : fWhile ft B δ = .nx δ := by
  rw [fWhile_eq, h]; rfl
theorem s_whileT {δ δ' : DL.Env} {ft : DL.Env → Res Bool} {B : FS} {o : Out} (h : ft δ = .ok true) (h2 : B δ = .nx δ') (h3 : fWhile ft B δ' = o) : fWhile ft B δ = o := by
  rw [fWhile_eq, h]
  show (match B δ with | .nx δ' => fWhile ft B δ' | .ct δ' => fWhile ft B δ' | .bk δ' => .nx δ' | r => r) = o
  rw [h2]; exact h3
theorem s_app {δ : DL.Env} {i : Nat} {fe : DL.Env → Res SV} {ds : List D} {d : D} (h0 : δ[i]? = some (.ow ds)) (h : fe δ = .ok (.sh d)) (hl : ds.length ≤ 1000000) : fMut i mAppend (aCons fe aNil) δ = .nx (δ.set i (.ow (ds ++ [d]))) := by
  unfold fMut
  rw [h0, w_cons h w_nil]
  show (match mAppend ds [d] with | some (ds', _) => Out.nx (δ.set i (.ow ds')) | none => .bad) = _
  rw [ev_app ds d hl]
theorem v_isC {δ : DL.Env} {fe : DL.Env → Res SV} {cs ts : List Nat} {c : Nat} {fs : List (Str × D)} (h : fe δ = .ok (.sh (.ins c fs))) (hc : c ∈ cs) : fIsC cs ts fe δ = .ok (.sh (.bl (decide (c ∈ ts)))) := by
  unfold fIsC; rw [h]
  exact if_pos hc
theorem ev_neTs (ps qs : List IP) : gNe (.tup (ps.map mkP)) (.tup (qs.map mkP)) = some (.sh (.bl (!decide (ps = qs)))) := by
  have h : (deq (.tup (ps.map mkP)) (.tup (qs.map mkP))).map (fun b => SV.sh (.bl b)) = some (.sh (.bl (decide (ps = qs)))) := ev_eqTs ps qs
  obtain ⟨b, h1, h2⟩ := Option.map_eq_some_iff.mp h
  show (deq _ _).map _ = _
  rw [h1]
  cases h2
  rfl
theorem s_iteN {δ : DL.Env} {ft : DL.Env → Res Bool} {A : FS} {o : Out} (h1 : ft δ = .ok false) (h2 : Out.nx δ = o) : fIte ft A fSkip δ = o := s_iteF h1 h2
theorem forC {g : D → DL.Env → Option DL.Env} {b : FS} {d : D} {ds : List D} {δ δ1 : DL.Env} (hg : g d δ = some δ1) {o : Out} (h : (match b δ1 with | .nx δ2 => forR g b ds δ2 | .ct δ2 => forR g b ds δ2 | .bk δ2 => .nx δ2 | r => r) = o) : forR g b (d :: ds) δ = o := (ev_forC _ _ _ _ _ _ hg).trans h
theorem forC_nx {g : D → DL.Env → Option DL.Env} {b : FS} {d : D} {ds : List D} {δ δ1 δ2 : DL.Env} {o : Out} (hg : g d δ = some δ1) (hb : b δ1 = .nx δ2) (h : forR g b ds δ2 = o) : forR g b (d :: ds) δ = o := forC hg (by rw [hb]; exact h)
theorem forC_rt {g : D → DL.Env → Option DL.Env} {b : FS} {d : D} {ds : List D} {δ δ1 : DL.Env} {s : SV} (hg : g d δ = some δ1) (hb : b δ1 = .rt s) : forR g b (d :: ds) δ = .rt s := forC hg (by rw [hb])
theorem dBls_const {α : Type} (l : List α) : dBls (l.map fun _ => D.bl true) = some (l.map fun _ => true) := by
  induction l with
  | nil => rfl
  | cons a l ih =>
    simp only [List.map_cons]
    unfold dBls
    rw [ih]
    rfl
theorem all_const {α : Type} (l : List α) : DL.gAll [.lst (l.map fun _ => .bl true)] = some (.sh (.bl true)) := by
  unfold DL.gAll
  show (dBls _).map _ = _
  rw [dBls_const]
  show some (SV.sh (.bl _)) = _
  congr 3
  simp
theorem dInts_of (ns : List Int) : dInts (ns.map D.int) = some ns := by
  induction ns with
  | nil => rfl
  | cons n ns ih =>
    simp only [List.map_cons]
    unfold dInts
    rw [ih]
    rfl
theorem fLc_mapN {fi : DL.Env → Res (List D)} {g : D → DL.Env → Option DL.Env} {fe : DL.Env → Res SV} {vs : List Nat} {δ : DL.Env} {n : Nat} (h : Nat → Int) (hi : fi δ = .ok ((List.range n).map fun k => .int ((k : Nat) : Int))) (hl : n ≤ 1000) (H : ∀ k : Nat, ∃ δ1, g (.int (k : Int)) (dwipe δ vs) = some δ1 ∧ fe δ1 = .ok (.sh (.int (h k)))) : fLc fi g fYes fe vs δ = .ok (.ow ((List.range n).map fun k => D.int (h k))) := by
  have := fLc_map (fi := fi) (g := g) (fe := fe) (vs := vs) (δ := δ) (fun d => match d with | .int k => D.int (h k.toNat) | _ => d) hi (by simp; omega) (fun d hd => by
    obtain ⟨k, _, rfl⟩ := List.mem_map.mp hd
    obtain ⟨δ1, e1, e2⟩ := H k
    exact ⟨δ1, _, e1, e2, rfl⟩)
  rw [this, List.map_map]
  rfl
theorem in_ints (d : Int) (l : List Int) : DL.gIn false (.int d) (.tup (l.map D.int)) = some (.sh (.bl (l.any fun x => x == d))) := by
  have e : (l.map D.int).all scalarD = true := by simp [scalarD]
  unfold DL.gIn DL.dIn
  simp only [e, List.any_map]
  rfl
theorem in_intsL (d : Int) (l : List Int) : DL.gIn false (.int d) (.lst (l.map D.int)) = some (.sh (.bl (l.any fun x => x == d))) := by
  have e : (l.map D.int).all scalarD = true := by simp [scalarD]
  unfold DL.gIn DL.dIn
  simp only [e, List.any_map]
  rfl
theorem notin_intsL (d : Int) (l : List Int) : DL.gIn true (.int d) (.lst (l.map D.int)) = some (.sh (.bl (!l.any fun x => x == d))) := by
  have e : (l.map D.int).all scalarD = true := by simp [scalarD]
  unfold DL.gIn DL.dIn
  simp only [e, List.any_map]
  rfl
theorem runL_ok {fe : DL.Env → Res SV} {ds : List D} {d : D} (h : fe (slots ds) = .ok (.sh d)) : runL fe ds = .ok (.sh d) := by
  unfold runL; rw [h]
end DL
end

section
set_option Elab.async false
set_option linter.all false

/-! Dates in plain numbers. -/
namespace DM
def leap (y : Int) : Bool := decide (y % 4 = 0) && (!decide (y % 100 = 0) || decide (y % 400 = 0))
/-- one more day in a leap year -/
def lp (y : Int) : Int := if leap y = true then 1 else 0
theorem lp_cases (y : Int) : (lp y = 1 ∧ y % 4 = 0 ∧ (y % 100 ≠ 0 ∨ y % 400 = 0)) ∨ (lp y = 0 ∧ (y % 4 ≠ 0 ∨ (y % 100 = 0 ∧ y % 400 ≠ 0))) := by
  unfold lp leap
  by_cases h4 : y % 4 = 0 <;> by_cases h1 : y % 100 = 0 <;> by_cases h5 : y % 400 = 0 <;> simp [h4, h1, h5]
theorem lp_01 (y : Int) : 0 ≤ lp y ∧ lp y ≤ 1 := by
  rcases lp_cases y with h | h <;> omega
def yb (y : Int) : Int := (y - 2000) * 365 + ((y - 1) / 4 - (y - 1) / 100 + (y - 1) / 400) - 484
theorem yb_succ (y : Int) : yb (y + 1) = yb y + 365 + lp y := by
  have := lp_cases y
  unfold yb
  omega
theorem yb_mono {y z : Int} (h : y ≤ z) : yb y ≤ yb z := by
  unfold yb
  omega
theorem yb_0 : yb 2000 = 0 := by decide
theorem yb_400 : yb 2400 = 146097 := by decide
/-- the days of a month -/
def ml (y m : Int) : Int := if m = 2 then 28 + lp y else if m = 4 ∨ m = 6 ∨ m = 9 ∨ m = 11 then 30 else 31
/-- the days of a year ahead of a month -/
def cum (y m : Int) : Int := if m ≤ 1 then 0 else if m = 2 then 31 else if m = 3 then 59 + lp y else if m = 4 then 90 + lp y else if m = 5 then 120 + lp y else if m = 6 then 151 + lp y else if m = 7 then 181 + lp y else if m = 8 then 212 + lp y else if m = 9 then 243 + lp y else if m = 10 then 273 + lp y else if m = 11 then 304 + lp y else 334 + lp y
theorem twelve {m : Int} (h1 : 1 ≤ m) (h2 : m ≤ 12) : m = 1 ∨ m = 2 ∨ m = 3 ∨ m = 4 ∨ m = 5 ∨ m = 6 ∨ m = 7 ∨ m = 8 ∨ m = 9 ∨ m = 10 ∨ m = 11 ∨ m = 12 := by omega
theorem cum_1 (y : Int) : cum y 1 = 0 := rfl
theorem cum_succ (y : Int) {m : Int} (h1 : 1 ≤ m) (h2 : m ≤ 11) : cum y (m + 1) = cum y m + ml y m := by
  have h2 : m ≤ 12 := by omega
  rcases twelve h1 h2 with h | h | h | h | h | h | h | h | h | h | h | h <;> subst h <;> simp [cum, ml] <;> omega
theorem cum_12 (y : Int) : cum y 12 + ml y 12 = 365 + lp y := by
  simp [cum, ml]; omega
theorem ml_pos (y m : Int) : 28 ≤ ml y m ∧ ml y m ≤ 31 := by
  have := lp_01 y
  unfold ml
  split
  · omega
  · split <;> omega
theorem cum_le (y : Int) {m : Int} (h1 : 1 ≤ m) (h2 : m ≤ 12) : 0 ≤ cum y m ∧ cum y m + ml y m ≤ 365 + lp y := by
  have := lp_01 y
  rcases twelve h1 h2 with h | h | h | h | h | h | h | h | h | h | h | h <;> subst h <;> simp [cum, ml] <;> omega
theorem cum_up (y : Int) {m : Int} (h1 : 1 ≤ m) : ∀ j : Nat, m + j ≤ 12 → cum y m ≤ cum y (m + j)
  | 0, _ => by simp
  | j + 1, h => by
    have ih := cum_up y h1 j (by omega)
    have e := cum_succ y (m := m + j) (by omega) (by omega)
    have := ml_pos y (m + j)
    have q : m + ((j + 1 : Nat) : Int) = m + j + 1 := by omega
    rw [q, e]
    omega
theorem cum_lt (y : Int) {m n : Int} (h1 : 1 ≤ m) (h : m < n) (h2 : n ≤ 12) : cum y m + ml y m ≤ cum y n := by
  rw [← cum_succ y h1 (by omega)]
  have := cum_up y (m := m + 1) (by omega) (n - (m + 1)).toNat (by omega)
  rw [show m + 1 + ((n - (m + 1)).toNat : Int) = n by omega] at this
  exact this
/-- d is the day of that date -/
structure IsDate (d y m k : Int) : Prop where
  y0 : 2000 ≤ y
  y1 : y ≤ 2399
  m0 : 1 ≤ m
  m1 : m ≤ 12
  k0 : 1 ≤ k
  k1 : k ≤ ml y m
  eq : d = yb y + cum y m + k - 1
theorem IsDate.rng {d y m k : Int} (h : IsDate d y m k) : 0 ≤ d ∧ d < 146097 ∧ yb y ≤ d ∧ d < yb (y + 1) := by
  have a := cum_le y h.m0 h.m1
  have b := yb_succ y
  have c := yb_mono h.y0
  have e := yb_mono (show y + 1 ≤ 2400 from by have := h.y1; omega)
  rw [yb_0] at c
  rw [yb_400] at e
  have := h.eq
  have := h.k0
  have := h.k1
  omega
theorem IsDate.uniq {d y m k y' m' k' : Int} (h : IsDate d y m k) (h' : IsDate d y' m' k') : y = y' ∧ m = m' ∧ k = k' := by
  have a := h.rng
  have a' := h'.rng
  have e : y = y' := by
    rcases Int.lt_trichotomy y y' with q | q | q
    · have := yb_mono (show y + 1 ≤ y' by omega)
      omega
    · exact q
    · have := yb_mono (show y' + 1 ≤ y by omega)
      omega
  subst e
  have e1 := h.eq
  have e2 := h'.eq
  have := h.k0
  have := h.k1
  have := h'.k0
  have := h'.k1
  have e : m = m' := by
    rcases Int.lt_trichotomy m m' with q | q | q
    · have := cum_lt y h.m0 q h'.m1
      omega
    · exact q
    · have := cum_lt y h'.m0 q h.m1
      omega
  subst e
  exact ⟨rfl, rfl, by omega⟩
theorem IsDate.first {d y m k : Int} (h : IsDate d y m k) : IsDate (d - k + 1) y m 1 := ⟨h.y0, h.y1, h.m0, h.m1, by omega, by have := ml_pos y m; omega, by have := h.eq; omega⟩
theorem yb_law (y : Int) : yb y = (y - 2000) * 365 + (y - 2000 + 3) / 4 - (y - 2000 + 99) / 100 + (y - 2000 + 399) / 400 := by
  unfold yb
  omega
theorem yb_366 {d : Int} (h : 0 ≤ d) : yb (2000 + d / 366) ≤ d := by
  unfold yb
  omega
theorem yb_far1 {d : Int} (h : 0 ≤ d) (h2 : d < 146097) : yb (2000 + d * 400 / 146097 - 1) ≤ d := by
  unfold yb
  omega
theorem yb_far2 {d : Int} (h : 0 ≤ d) (h2 : d < 146097) : d < yb (2000 + d * 400 / 146097 + 2) := by
  unfold yb
  omega
end DM
end

section
set_option Elab.async false
set_option linter.all false
set_option maxRecDepth 100000
set_option maxHeartbeats 4000000
/-! Texts as lists of signs: parting, figures, the texts of dates. -/
namespace TM
open PySem L2 DL DM
/-- l parted at each c -/
def splL (c : Nat) : List Nat → List (List Nat)
  | [] => [[]]
  | x :: r => if x = c then [] :: splL c r else match splL c r with
    | w :: ws => (x :: w) :: ws
    | [] => [[x]]
theorem splL_ne (c : Nat) : ∀ l, splL c l ≠ []
  | [] => by simp [splL]
  | x :: r => by
    unfold splL
    split
    · simp
    · split <;> simp
theorem pre_one (c x : Nat) (r : List Nat) : TL.pre [c] (x :: r) = (x == c) := by
  unfold TL.pre
  show ((x :: r).take 1 == [c]) = _
  simp only [List.take_succ_cons, List.take_zero]
  simp
theorem spl_one (c : Nat) : ∀ (l acc : List Nat), TL.spl [c] 0 acc l = match splL c l with
    | w :: ws => (acc ++ w) :: ws
    | [] => [acc]
  | [], acc => by simp [TL.spl, splL]
  | x :: r, acc => by
    unfold TL.spl splL
    rw [pre_one]
    by_cases e : x = c
    · subst e
      rw [if_pos (by simp), if_pos rfl]
      have := spl_one x r []
      show acc :: TL.spl [x] 0 [] r = _
      rw [this]
      have h := splL_ne x r
      cases q : splL x r with
      | nil => exact absurd q h
      | cons w ws => simp
    · rw [if_neg (by simp [e]), if_neg e, spl_one c r (acc ++ [x])]
      have h := splL_ne c r
      cases q : splL c r with
      | nil => exact absurd q h
      | cons w ws => simp
theorem spl_eq (c : Nat) (l : List Nat) : TL.spl [c] 0 [] l = splL c l := by
  rw [spl_one]
  have h := splL_ne c l
  cases q : splL c l with
  | nil => exact absurd q h
  | cons w ws => simp
theorem splL_other {c x : Nat} {r : List Nat} (h : x ≠ c) : splL c (x :: r) = match splL c r with
    | w :: ws => (x :: w) :: ws
    | [] => [[x]] := by
  rw [splL, if_neg h]
theorem splL_hit {c : Nat} {r : List Nat} : splL c (c :: r) = [] :: splL c r := by
  rw [splL, if_pos rfl]
theorem splL_free {c : Nat} : ∀ {w : List Nat}, c ∉ w → splL c w = [w]
  | [], _ => rfl
  | x :: r, h => by
    have h1 : x ≠ c := fun e => h (by rw [e]; exact List.mem_cons_self ..)
    rw [splL_other h1, splL_free (fun m => h (List.mem_cons_of_mem _ m))]
theorem splL_app {c : Nat} : ∀ {w : List Nat} (r : List Nat), c ∉ w → splL c (w ++ c :: r) = w :: splL c r
  | [], r, _ => splL_hit
  | x :: w, r, h => by
    have h1 : x ≠ c := fun e => h (by rw [e]; exact List.mem_cons_self ..)
    show splL c (x :: (w ++ c :: r)) = _
    rw [splL_other h1, splL_app r (fun m => h (List.mem_cons_of_mem _ m))]
theorem splL_len (c : Nat) : ∀ (l : List Nat), ∀ w ∈ splL c l, w.length ≤ l.length
  | [], w, m => by
    unfold splL at m
    rw [List.mem_singleton] at m
    subst m
    simp
  | x :: r, w, m => by
    have ih := splL_len c r
    unfold splL at m
    split at m
    · rcases List.mem_cons.mp m with m | m
      · subst m; simp
      · have := ih w m
        rw [List.length_cons]; omega
    · split at m
      · rename_i u us e
        rcases List.mem_cons.mp m with m | m
        · subst m
          have := ih u (by rw [e]; exact List.mem_cons_self ..)
          rw [List.length_cons, List.length_cons]; omega
        · have := ih w (by rw [e]; exact List.mem_cons_of_mem _ m)
          rw [List.length_cons]; omega
      · rename_i e
        exact absurd e (splL_ne c r)
theorem splL_many (c : Nat) : ∀ (l : List Nat), (splL c l).length ≤ l.length + 1
  | [] => by simp [splL]
  | x :: r => by
    have ih := splL_many c r
    unfold splL
    split
    · rw [List.length_cons, List.length_cons]; omega
    · split
      · rename_i u us e
        rw [e] at ih
        rw [List.length_cons] at ih ⊢
        rw [List.length_cons]; omega
      · simp
theorem ev_split (c : Nat) (hc : c < 256) (l : List Nat) (h : l.length ≤ 1000000) : mSplit (.str (tx l)) [.str (tx [c])] = some (.ow ((splL c l).map fun w => .str (tx w))) := by
  unfold mSplit
  have h1 : (((tx [c] : Str).length == 0) = false ∧ (tx l : Str).length + 2 ≤ sizeLine) := by
    rw [tx_len, tx_len]
    have : sizeLine = 16777216 := by decide
    exact ⟨rfl, by omega⟩
  dsimp only
  rw [if_pos h1]
  have := SX.split_S (a := l) (b := [c]) (by simp) (by simp [hc])
  show some (SV.ow ((Txt.split (SX.S l) (SX.S [c])).map D.str)) = _
  rw [this, spl_eq, List.map_map]
  rfl
theorem ev_joinX (c l : List Nat) (ws : List (List Nat)) (h : (ws.map (·.length)).sum + ws.length * c.length ≤ 1000000) (e : TL.joinL c ws = l) : mJoin (.str (tx c)) [.lst (ws.map fun w => .str (tx w))] = some (.sh (.str (tx l))) := by
  have hs : dStrs (ws.map fun w => D.str (tx w)) = some (ws.map SX.S) := by
    induction ws generalizing l with
    | nil => rfl
    | cons w ws ih =>
      rw [List.map_cons]
      unfold dStrs
      simp only [List.map_cons, List.sum_cons, List.length_cons] at h
      rw [ih (TL.joinL c ws) (by have : (ws.length + 1) * c.length = ws.length * c.length + c.length := Nat.succ_mul ..; omega) rfl]
      rfl
  show (dStrs _).bind _ = _
  rw [hs]
  show (if ((ws.map SX.S).map (·.length)).sum + (ws.map SX.S).length * (tx c).length ≤ 16777216 then _ else _) = _
  rw [if_pos (by rw [SX.lens, List.length_map, tx_len]; omega)]
  show some (SV.sh (.str (Txt.join (SX.S c) (ws.map SX.S)))) = _
  rw [SX.join_S, e]
theorem tx_cat (a b : List Nat) : tx a ++ tx b = tx (a ++ b) := SX.S_cat a b
theorem ev_addX (a b : List Nat) (h : a.length + b.length ≤ 1000000) : gAdd (.str (tx a)) (.str (tx b)) = some (.sh (.str (tx (a ++ b)))) := by
  rw [ev_addS, tx_len, tx_len, if_pos (line_of h), tx_cat]
theorem tx_inj {a b : List Nat} (h : tx a = tx b) : a = b := SX.S_inj h
theorem ev_eqX (a b : List Nat) : gEq (.str (tx a)) (.str (tx b)) = some (.sh (.bl (decide (a = b)))) := by
  rw [ev_eqS]
  congr 3
  rw [Bool.eq_iff_iff, decide_eq_true_eq, decide_eq_true_eq]
  exact ⟨tx_inj, fun h => by rw [h]⟩
/-! ### figures -/
def d2 (m : Int) : List Nat := [48 + (m / 10).toNat, 48 + (m % 10).toNat]
def d4 (y : Int) : List Nat := [48 + (y / 1000).toNat, 48 + (y / 100 % 10).toNat, 48 + (y / 10 % 10).toNat, 48 + (y % 10).toNat]
theorem log2_lt {i : Int} (h0 : 0 ≤ i) (h : i < 1000000) : i.natAbs.log2 < 1920 := by
  by_cases z : i = 0
  · subst z; decide
  have : i.natAbs < 2 ^ 20 := by omega
  have := (Nat.log2_lt (by omega)).mpr this
  omega
theorem ev_str (i : Int) (h0 : 0 ≤ i) (h : i < 1000000) : gStr [.int i] = some (.sh (.str (tx (TL.numL i.toNat)))) := by
  show (if i.natAbs.log2 < 1920 then _ else _) = _
  rw [if_pos (log2_lt h0 h)]
  have := SX.num_S i.toNat
  rw [show ((i.toNat : Nat) : Int) = i by omega] at this
  show some (SV.sh (.str (Str.ofString (toString i)))) = _
  rw [this]
theorem numL_4 (y : Int) (h0 : 2000 ≤ y) (h1 : y ≤ 2399) : TL.numL y.toNat = d4 y := by
  have key : ∀ k : Fin 400, TL.numL (2000 + k.val) = d4 ((2000 + k.val : Nat) : Int) := by decide +kernel
  have := key ⟨y.toNat - 2000, by omega⟩
  dsimp only at this
  rw [show 2000 + (y.toNat - 2000) = y.toNat by omega] at this
  rw [this]
  congr 1
  omega
theorem numL_1 (m : Int) (h0 : 0 ≤ m) (h1 : m < 10) : TL.numL m.toNat = [48 + m.toNat] := TL.numL_lt (by omega)
theorem numL_2 (m : Int) (h0 : 10 ≤ m) (h1 : m < 100) : TL.numL m.toNat = d2 m := by
  rw [TL.numL_step (by omega), TL.numL_lt (by omega)]
  unfold d2
  have e1 : m.toNat / 10 = (m / 10).toNat := by omega
  have e2 : m.toNat % 10 = (m % 10).toNat := by omega
  rw [e1, e2]
  rfl
theorem zf2 (m : Int) (h0 : 0 ≤ m) (h1 : m < 100) : mZfill (.str (tx (TL.numL m.toNat))) [.int 2] = some (.sh (.str (tx (d2 m)))) := by
  have key : ∀ k : Fin 100, Txt.zfill (tx (TL.numL k.val)) 2 = tx (d2 (k.val : Int)) := by decide +kernel
  have := key ⟨m.toNat, by omega⟩
  dsimp only at this
  rw [show ((m.toNat : Nat) : Int) = m by omega] at this
  show (if PadOk 2 = true then some (SV.sh (D.str (Txt.zfill (tx (TL.numL m.toNat)) 2))) else none) = _
  rw [if_pos (by decide), this]
theorem d2_not (m : Int) {c : Nat} (h : c < 48 ∨ 57 < c) (h0 : 0 ≤ m) (h1 : m < 100) : c ∉ d2 m := by
  unfold d2
  simp only [List.mem_cons, List.not_mem_nil, or_false]
  omega
theorem d4_not (y : Int) {c : Nat} (h : c < 48 ∨ 57 < c) (h0 : 0 ≤ y) (h1 : y < 10000) : c ∉ d4 y := by
  unfold d4
  simp only [List.mem_cons, List.not_mem_nil, or_false]
  omega
/-- a date's text -/
def dtx (y m k : Int) : List Nat := d4 y ++ 45 :: (d2 m ++ 45 :: d2 k)
theorem dtx_len (y m k : Int) : (dtx y m k).length = 10 := rfl
theorem spl_dtx (y m k : Int) (hy : 0 ≤ y) (hy2 : y < 10000) (hm : 0 ≤ m) (hm2 : m < 100) (hk : 0 ≤ k) (hk2 : k < 100) : splL 45 (dtx y m k) = [d4 y, d2 m, d2 k] := by
  unfold dtx
  rw [splL_app _ (d4_not y (.inl (by omega)) hy hy2), splL_app _ (d2_not m (.inl (by omega)) hm hm2), splL_free (d2_not k (.inl (by omega)) hk hk2)]
/-! ### numbers of figures -/
def fig (c : Nat) : Bool := decide (48 ≤ c) && decide (c ≤ 57)
theorem ev_intX (w : List Nat) (h : w.all fig = true) (hn : w ≠ []) (hl : w.length ≤ 640) : gInt [.str (tx w)] = some (.sh (.int (NumText.digitsVal w : Nat))) := by
  have e := SX.int_S (a := w) h hn (by omega)
  unfold gInt
  dsimp only
  have e2 : intText? (tx w) = some ((NumText.digitsVal w : Nat) : Int) := e
  rw [e2]
  dsimp only
  rw [if_pos (by rw [tx_len]; exact hl)]
theorem val_d2 (m : Int) (h0 : 0 ≤ m) (h1 : m < 100) : ((NumText.digitsVal (d2 m) : Nat) : Int) = m := by
  unfold d2 NumText.digitsVal
  simp only [List.foldl_cons, List.foldl_nil]
  omega
theorem val_d4 (y : Int) (h0 : 0 ≤ y) (h1 : y < 10000) : ((NumText.digitsVal (d4 y) : Nat) : Int) = y := by
  unfold d4 NumText.digitsVal
  simp only [List.foldl_cons, List.foldl_nil]
  omega
theorem fig_d2 (m : Int) (h0 : 0 ≤ m) (h1 : m < 100) : (d2 m).all fig = true := by
  unfold d2 fig
  simp only [List.all_cons, List.all_nil, Bool.and_true, Bool.and_eq_true, decide_eq_true_eq]
  omega
theorem fig_d4 (y : Int) (h0 : 0 ≤ y) (h1 : y < 10000) : (d4 y).all fig = true := by
  unfold d4 fig
  simp only [List.all_cons, List.all_nil, Bool.and_true, Bool.and_eq_true, decide_eq_true_eq]
  omega
theorem lit_of (s : String) (l : List Nat) (h : s.toList.map Char.toNat = l) : Str.ofString s = tx l := TL.ext_tl (by rw [TL.tl_ofString]; exact h)
/-! ### parts of lists and texts -/
def cutG {α : Type} (xs : List α) (lo hi : Option Int) : List α := (xs.drop (HT.sIx xs.length 0 lo)).take (HT.sIx xs.length xs.length hi - HT.sIx xs.length 0 lo)
theorem cutD_map {α : Type} (f : α → D) (xs : List α) (lo hi : Option Int) : cutD (xs.map f) lo hi = (cutG xs lo hi).map f := by
  unfold cutD cutG
  rw [List.length_map, List.map_take, List.map_drop]
theorem cutG_len {α : Type} (xs : List α) (a b : Option Int) : (cutG xs a b).length ≤ xs.length := by
  unfold cutG
  rw [List.length_take, List.length_drop]
  omega
theorem cutG_take {α : Type} (xs : List α) (k : Int) (h : 0 ≤ k) : cutG xs none (some k) = xs.take k.toNat := by
  unfold cutG HT.sIx
  dsimp only
  rw [if_neg (by omega), List.drop_zero, Nat.sub_zero, List.take_eq_take_iff]
  omega
theorem cutG_drop {α : Type} (xs : List α) (k : Int) (h : 0 ≤ k) : cutG xs (some k) none = xs.drop k.toNat := by
  unfold cutG HT.sIx
  dsimp only
  rw [if_neg (by omega)]
  by_cases q : k.toNat ≤ xs.length
  · rw [Nat.min_eq_left q]
    exact List.take_of_length_le (by rw [List.length_drop]; omega)
  · rw [Nat.min_eq_right (by omega), List.drop_of_length_le (Nat.le_refl _), List.drop_of_length_le (by omega), List.take_nil]
theorem ev_slX (l : List Nat) (lo hi : Option Int) (h : l.length ≤ 1000000) : gSl (.str (tx l)) lo hi = some (.sh (.str (tx (cutG l lo hi)))) := by
  rw [ev_slS _ lo hi (by rw [tx_len]; exact line_of h)]
  unfold cutS cutG
  rw [tx_len]
theorem dBls_map (l : List Bool) : dBls (l.map D.bl) = some l := by
  induction l with
  | nil => rfl
  | cons a l ih =>
    rw [List.map_cons]
    unfold dBls
    rw [ih]
    rfl
theorem ev_allL (l : List Bool) : gAll [.lst (l.map D.bl)] = some (.sh (.bl (l.all id))) := by
  unfold gAll
  dsimp only [lstOf]
  rw [dBls_map]
  rfl
end TM
end

section
set_option Elab.async false
set_option linter.all false
/-! Rows of spans in plain numbers. -/
namespace SM
open DL
/-- a rising row, laid: p is the span at work -/
def mrg : IP → List IP → List IP
  | p, [] => [p]
  | p, q :: r => if q.1 ≤ p.2 then mrg (p.1, max p.2 q.2) r else p :: mrg q r
def laidR : List IP → List IP
  | [] => []
  | p :: r => mrg p r
def laidP (l : List IP) : List IP := laidR (srtP l)
abbrev Good (l : List IP) : Prop := ∀ p ∈ l, p.1 < p.2
/-- apart, in order -/
abbrev Apart (l : List IP) : Prop := l.Pairwise fun p q => p.2 < q.1
def takes (l : List IP) (m : Int) : Bool := l.any fun p => decide (p.1 ≤ m) && decide (m < p.2)
theorem ris_tail {p : IP} {l : List IP} (h : Ris (p :: l)) : Ris l := (List.pairwise_cons.mp h).2
theorem mrg_len (p : IP) : ∀ l, (mrg p l).length ≤ l.length + 1 := by
  intro l
  induction l generalizing p with
  | nil => exact Nat.le_refl _
  | cons q r ih =>
    unfold mrg
    split
    · have := ih (p.1, max p.2 q.2)
      rw [List.length_cons]
      omega
    · have := ih q
      rw [List.length_cons, List.length_cons]
      omega
theorem laid_len (l : List IP) : (laidP l).length ≤ l.length := by
  unfold laidP
  have h := (srtP_perm l).length_eq
  cases e : srtP l with
  | nil => rw [← h, e]; exact Nat.le_refl _
  | cons p r =>
    have := mrg_len p r
    rw [e] at h
    rw [← h]
    exact this
/-- every begin is at or behind p's -/
theorem mrg_low (l : List IP) : ∀ (p : IP), Ris (p :: l) → ∀ q ∈ mrg p l, p.1 ≤ q.1 := by
  induction l with
  | nil =>
    intro p _ q m
    rw [mrg, List.mem_singleton] at m
    subst m
    exact Int.le_refl _
  | cons r l ih =>
    intro p h q m
    have h' := List.pairwise_cons.mp h
    have h2 := (leP_iff p r).mp (h'.1 r (List.mem_cons_self ..))
    unfold mrg at m
    split at m
    · refine ih (p.1, max p.2 r.2) ?_ q m
      refine List.pairwise_cons.mpr ⟨fun z mz => ?_, ris_tail h'.2⟩
      have a := (leP_iff p z).mp (h'.1 z (List.mem_cons_of_mem _ mz))
      have b := (leP_iff r z).mp ((List.pairwise_cons.mp h'.2).1 z mz)
      rw [leP_iff]
      dsimp only
      omega
    · rcases List.mem_cons.mp m with rfl | m
      · exact Int.le_refl _
      · have := ih r h'.2 q m
        omega
theorem mrg_good (l : List IP) : ∀ (p : IP), Good (p :: l) → Good (mrg p l) := by
  induction l with
  | nil =>
    intro p h q m
    rw [mrg, List.mem_singleton] at m
    subst m
    exact h _ (List.mem_cons_self ..)
  | cons r l ih =>
    intro p h
    have hp := h p (List.mem_cons_self ..)
    unfold mrg
    split
    · refine ih _ fun z m => ?_
      rcases List.mem_cons.mp m with rfl | m
      · dsimp only; omega
      · exact h z (List.mem_cons_of_mem _ (List.mem_cons_of_mem _ m))
    · intro q m
      rcases List.mem_cons.mp m with rfl | m
      · exact hp
      · exact ih r (fun z mz => h z (List.mem_cons_of_mem _ mz)) q m
theorem ris_max {p r : IP} {l : List IP} (h : Ris (p :: r :: l)) : Ris ((p.1, max p.2 r.2) :: l) := by
  have h' := List.pairwise_cons.mp h
  refine List.pairwise_cons.mpr ⟨fun z mz => ?_, ris_tail h'.2⟩
  have a := (leP_iff p z).mp (h'.1 z (List.mem_cons_of_mem _ mz))
  have b := (leP_iff r z).mp ((List.pairwise_cons.mp h'.2).1 z mz)
  have c := (leP_iff p r).mp (h'.1 r (List.mem_cons_self ..))
  rw [leP_iff]
  dsimp only
  omega
theorem mrg_apart (l : List IP) : ∀ (p : IP), Ris (p :: l) → Apart (mrg p l) := by
  induction l with
  | nil => intro p _; exact List.pairwise_singleton _ _
  | cons r l ih =>
    intro p h
    unfold mrg
    split
    · exact ih _ (ris_max h)
    · rename_i c
      have h' := List.pairwise_cons.mp h
      refine List.pairwise_cons.mpr ⟨fun z m => ?_, ih r h'.2⟩
      have := mrg_low l r h'.2 z m
      omega
theorem mrg_takes (m : Int) (l : List IP) : ∀ (p : IP), Ris (p :: l) → Good (p :: l) → takes (mrg p l) m = takes (p :: l) m := by
  induction l with
  | nil => intro p _ _; rfl
  | cons r l ih =>
    intro p h g
    have h' := List.pairwise_cons.mp h
    have a := (leP_iff p r).mp (h'.1 r (List.mem_cons_self ..))
    have gp := g p (List.mem_cons_self ..)
    have gr := g r (List.mem_cons_of_mem _ (List.mem_cons_self ..))
    unfold mrg
    split
    · rename_i c
      rw [ih _ (ris_max h) (fun z m => by
        rcases List.mem_cons.mp m with rfl | m
        · dsimp only; omega
        · exact g z (List.mem_cons_of_mem _ (List.mem_cons_of_mem _ m)))]
      unfold takes
      rw [List.any_cons, List.any_cons, List.any_cons, ← Bool.or_assoc]
      congr 1
      rw [Bool.eq_iff_iff]
      simp only [Bool.and_eq_true, Bool.or_eq_true, decide_eq_true_eq]
      omega
    · have e := ih r h'.2 fun z mz => g z (List.mem_cons_of_mem _ mz)
      unfold takes at e ⊢
      rw [List.any_cons, List.any_cons, e]
theorem laid_apart (l : List IP) : Apart (laidP l) := by
  unfold laidP
  have r := srtP_ris l
  cases e : srtP l with
  | nil => exact List.Pairwise.nil
  | cons p t => rw [e] at r; exact mrg_apart t p r
theorem good_srt {l : List IP} (g : Good l) : Good (srtP l) := fun p m => g p ((srtP_perm l).mem_iff.mp m)
theorem laid_good {l : List IP} (g : Good l) : Good (laidP l) := by
  have g2 := good_srt g
  unfold laidP
  cases e : srtP l with
  | nil => exact fun p m => nomatch m
  | cons p t => rw [e] at g2; exact mrg_good t p g2
theorem takes_perm {l k : List IP} (h : l.Perm k) (m : Int) : takes l m = takes k m := by
  unfold takes
  rw [Bool.eq_iff_iff, List.any_eq_true, List.any_eq_true]
  exact ⟨fun ⟨x, a, b⟩ => ⟨x, h.mem_iff.mp a, b⟩, fun ⟨x, a, b⟩ => ⟨x, h.mem_iff.mpr a, b⟩⟩
theorem laid_takes {l : List IP} (g : Good l) (m : Int) : takes (laidP l) m = takes l m := by
  have g2 := good_srt g
  have r := srtP_ris l
  rw [← takes_perm (srtP_perm l) m]
  unfold laidP
  cases e : srtP l with
  | nil => rfl
  | cons p t => rw [e] at g2 r; exact mrg_takes m t p r g2
theorem apart_ris {l : List IP} (g : Good l) (h : Apart l) : Ris l := by
  refine List.Pairwise.imp_of_mem ?_ h
  intro p q mp mq z
  rw [leP_iff]
  have := g p mp
  omega
theorem mrg_self (l : List IP) : ∀ p : IP, Apart (p :: l) → mrg p l = p :: l := by
  induction l with
  | nil => intro p _; rfl
  | cons r l ih =>
    intro p h
    have h' := List.pairwise_cons.mp h
    have := h'.1 r (List.mem_cons_self ..)
    unfold mrg
    rw [if_neg (by omega), ih r h'.2]
theorem laid_self {l : List IP} (g : Good l) (h : Apart l) : laidP l = l := by
  have e : srtP l = l := ris_uniq (srtP_perm l) (srtP_ris l) (apart_ris g h)
  unfold laidP
  rw [e]
  cases l with
  | nil => rfl
  | cons p t => exact mrg_self t p h
theorem srt_perm {l k : List IP} (h : l.Perm k) : srtP l = srtP k := ris_uniq ((srtP_perm l).trans (h.trans (srtP_perm k).symm)) (srtP_ris l) (srtP_ris k)
theorem laid_perm {l k : List IP} (h : l.Perm k) : laidP l = laidP k := by
  unfold laidP
  rw [srt_perm h]
end SM
end

section
set_option Elab.async false
set_option linter.all false
/-! Rows of spans in plain numbers: what is left of one. -/
namespace SM
open DL
def piece (s p : IP) : List IP := (if p.1 < s.1 then [(p.1, min p.2 s.1)] else []) ++ (if s.2 < p.2 then [(max p.1 s.2, p.2)] else [])
def withoutP (met : List IP) (s : IP) : List IP := met.flatMap (piece s)
def aheadP (R : List IP) (s : IP) : List IP := R.filter fun p => decide (p.2 ≤ s.1)
def behindP (R : List IP) (s : IP) : List IP := R.filter fun p => decide (s.2 ≤ p.1)
def metP (R : List IP) (s : IP) : List IP := R.filter fun p => decide (s.1 < p.2) && decide (p.1 < s.2)
def leftP (R : List IP) (s : IP) : List IP := aheadP R s ++ withoutP (metP R s) s ++ behindP R s
def minusP (one other : List IP) : List IP := (laidP other).foldl leftP (laidP one)
theorem mem_piece {s p q : IP} : q ∈ piece s p ↔ (p.1 < s.1 ∧ q = (p.1, min p.2 s.1)) ∨ (s.2 < p.2 ∧ q = (max p.1 s.2, p.2)) := by
  unfold piece
  rw [List.mem_append]
  constructor
  · rintro (h | h) <;> split at h
    · rename_i c
      exact .inl ⟨c, List.mem_singleton.mp h⟩
    · cases h
    · rename_i c
      exact .inr ⟨c, List.mem_singleton.mp h⟩
    · cases h
  · rintro (⟨c, h⟩ | ⟨c, h⟩)
    · exact .inl (by rw [if_pos c]; exact List.mem_singleton.mpr h)
    · exact .inr (by rw [if_pos c]; exact List.mem_singleton.mpr h)
theorem mem_met {R : List IP} {s p : IP} : p ∈ metP R s ↔ p ∈ R ∧ s.1 < p.2 ∧ p.1 < s.2 := by
  unfold metP
  rw [List.mem_filter, Bool.and_eq_true, decide_eq_true_eq, decide_eq_true_eq]
theorem mem_ahead {R : List IP} {s p : IP} : p ∈ aheadP R s ↔ p ∈ R ∧ p.2 ≤ s.1 := by
  unfold aheadP
  rw [List.mem_filter, decide_eq_true_eq]
theorem mem_behind {R : List IP} {s p : IP} : p ∈ behindP R s ↔ p ∈ R ∧ s.2 ≤ p.1 := by
  unfold behindP
  rw [List.mem_filter, decide_eq_true_eq]
theorem mem_without {R : List IP} {s q : IP} : q ∈ withoutP (metP R s) s ↔ ∃ p ∈ R, s.1 < p.2 ∧ p.1 < s.2 ∧ q ∈ piece s p := by
  unfold withoutP
  rw [List.mem_flatMap]
  constructor
  · rintro ⟨p, h, hq⟩
    obtain ⟨a, b, c⟩ := mem_met.mp h
    exact ⟨p, a, b, c, hq⟩
  · rintro ⟨p, a, b, c, hq⟩
    exact ⟨p, mem_met.mpr ⟨a, b, c⟩, hq⟩
/-- a piece lies within -/
theorem piece_in {s p q : IP} (hs : s.1 < s.2) (hp : p.1 < p.2) (h1 : s.1 < p.2) (h2 : p.1 < s.2) (h : q ∈ piece s p) : p.1 ≤ q.1 ∧ q.2 ≤ p.2 ∧ q.1 < q.2 ∧ (q.2 ≤ s.1 ∨ s.2 ≤ q.1) := by
  rcases mem_piece.mp h with ⟨c, rfl⟩ | ⟨c, rfl⟩ <;> dsimp only <;> omega
theorem apart_or {R : List IP} (h : Apart R) {a p : IP} (ha : a ∈ R) (hp : p ∈ R) : a = p ∨ a.2 < p.1 ∨ p.2 < a.1 := by
  induction R with
  | nil => cases ha
  | cons r R ih =>
    have h' := List.pairwise_cons.mp h
    rcases List.mem_cons.mp ha with e1 | h3
    · rcases List.mem_cons.mp hp with e2 | h4
      · exact .inl (e1.trans e2.symm)
      · subst e1
        exact .inr (.inl (h'.1 p h4))
    · rcases List.mem_cons.mp hp with e2 | h4
      · subst e2
        exact .inr (.inr (h'.1 a h3))
      · exact ih h'.2 h3 h4
theorem left_good {R : List IP} {s : IP} (hs : s.1 < s.2) (g : Good R) : Good (leftP R s) := fun q m => by
  unfold leftP at m
  rcases List.mem_append.mp m with m | m
  · rcases List.mem_append.mp m with m | m
    · exact g q (mem_ahead.mp m).1
    · obtain ⟨p, a, b, c, hq⟩ := mem_without.mp m
      exact (piece_in hs (g p a) b c hq).2.2.1
  · exact g q (mem_behind.mp m).1
theorem left_apart {R : List IP} {s : IP} (hs : s.1 < s.2) (g : Good R) (h : Apart R) : Apart (leftP R s) := by
  unfold leftP
  refine List.pairwise_append.mpr ⟨List.pairwise_append.mpr ⟨h.filter _, ?_, fun a ha y hy => ?_⟩, h.filter _, fun x hx b hb => ?_⟩
  · unfold withoutP
    refine List.pairwise_flatMap.mpr ⟨fun p hp => ?_, ?_⟩
    · unfold piece
      refine List.pairwise_append.mpr ⟨?_, ?_, fun x hx y hy => ?_⟩
      · split
        · exact List.pairwise_singleton _ _
        · exact List.Pairwise.nil
      · split
        · exact List.pairwise_singleton _ _
        · exact List.Pairwise.nil
      · split at hx
        · split at hy
          · rw [List.mem_singleton] at hx hy
            subst hx hy
            dsimp only
            omega
          · cases hy
        · cases hx
    · refine List.Pairwise.imp_of_mem ?_ (h.filter _)
      intro p q hp hq z x hx y hy
      obtain ⟨p0, p1, p2⟩ := mem_met.mp hp
      obtain ⟨q0, q1, q2⟩ := mem_met.mp hq
      have a := piece_in hs (g p p0) p1 p2 hx
      have b := piece_in hs (g q q0) q1 q2 hy
      omega
  · obtain ⟨a0, a1⟩ := mem_ahead.mp ha
    obtain ⟨p, p0, p1, p2, hq⟩ := mem_without.mp hy
    have b := piece_in hs (g p p0) p1 p2 hq
    have := g a a0
    rcases apart_or h a0 p0 with e | e | e
    · subst e; omega
    · omega
    · omega
  · obtain ⟨b0, b1⟩ := mem_behind.mp hb
    have := g b b0
    rcases List.mem_append.mp hx with hx | hx
    · obtain ⟨a0, a1⟩ := mem_ahead.mp hx
      have := g x a0
      rcases apart_or h a0 b0 with e | e | e
      · subst e; omega
      · exact e
      · omega
    · obtain ⟨p, p0, p1, p2, hq⟩ := mem_without.mp hx
      have c := piece_in hs (g p p0) p1 p2 hq
      rcases apart_or h p0 b0 with e | e | e
      · subst e; omega
      · omega
      · omega
theorem takes_iff (l : List IP) (m : Int) : takes l m = true ↔ ∃ p ∈ l, p.1 ≤ m ∧ m < p.2 := by
  unfold takes
  rw [List.any_eq_true]
  constructor
  · rintro ⟨p, a, b⟩
    rw [Bool.and_eq_true, decide_eq_true_eq, decide_eq_true_eq] at b
    exact ⟨p, a, b⟩
  · rintro ⟨p, a, b⟩
    exact ⟨p, a, by rw [Bool.and_eq_true, decide_eq_true_eq, decide_eq_true_eq]; exact b⟩
theorem left_takes {R : List IP} {s : IP} (hs : s.1 < s.2) (g : Good R) (m : Int) : takes (leftP R s) m = true ↔ takes R m = true ∧ ¬ (s.1 ≤ m ∧ m < s.2) := by
  rw [takes_iff, takes_iff]
  unfold leftP
  constructor
  · rintro ⟨q, hq, a, b⟩
    rcases List.mem_append.mp hq with hq | hq
    · rcases List.mem_append.mp hq with hq | hq
      · obtain ⟨q0, q1⟩ := mem_ahead.mp hq
        exact ⟨⟨q, q0, a, b⟩, by omega⟩
      · obtain ⟨p, p0, p1, p2, hq⟩ := mem_without.mp hq
        have c := piece_in hs (g p p0) p1 p2 hq
        exact ⟨⟨p, p0, by omega, by omega⟩, by omega⟩
    · obtain ⟨q0, q1⟩ := mem_behind.mp hq
      exact ⟨⟨q, q0, a, b⟩, by omega⟩
  · rintro ⟨⟨p, p0, a, b⟩, c⟩
    by_cases h1 : p.2 ≤ s.1
    · exact ⟨p, List.mem_append_left _ (List.mem_append_left _ (mem_ahead.mpr ⟨p0, h1⟩)), a, b⟩
    · by_cases h2 : s.2 ≤ p.1
      · exact ⟨p, List.mem_append_right _ (mem_behind.mpr ⟨p0, h2⟩), a, b⟩
      · by_cases h3 : m < s.1
        · exact ⟨(p.1, min p.2 s.1), List.mem_append_left _ (List.mem_append_right _ (mem_without.mpr ⟨p, p0, by omega, by omega, mem_piece.mpr (.inl ⟨by omega, rfl⟩)⟩)), a, by dsimp only; omega⟩
        · exact ⟨(max p.1 s.2, p.2), List.mem_append_left _ (List.mem_append_right _ (mem_without.mpr ⟨p, p0, by omega, by omega, mem_piece.mpr (.inr ⟨by omega, rfl⟩)⟩)), by dsimp only; omega, b⟩
theorem without_len {s : IP} (hs : s.1 < s.2) : ∀ met : List IP, Good met → Apart met → (∀ p ∈ met, s.1 < p.2 ∧ p.1 < s.2) → (withoutP met s).length ≤ met.length + 1
  | [], _, _, _ => Nat.zero_le _
  | p :: r, g, h, hm => by
    have h' := List.pairwise_cons.mp h
    have ih := without_len hs r (fun q m => g q (List.mem_cons_of_mem _ m)) h'.2 fun q m => hm q (List.mem_cons_of_mem _ m)
    unfold withoutP at ih ⊢
    have e : (piece s p).length = (if p.1 < s.1 then 1 else 0) + (if s.2 < p.2 then 1 else 0) := by
      unfold piece
      rw [List.length_append]
      split <;> split <;> rfl
    rw [List.flatMap_cons, List.length_append, List.length_cons, e]
    by_cases c1 : p.1 < s.1
    · by_cases c2 : s.2 < p.2
      · have e : r = [] := by
          cases r with
          | nil => rfl
          | cons q r =>
            have a := h'.1 q (List.mem_cons_self ..)
            have b := hm q (List.mem_cons_of_mem _ (List.mem_cons_self ..))
            omega
        subst e
        rw [if_pos c1, if_pos c2]
        exact Nat.le_refl _
      · rw [if_pos c1, if_neg c2]
        omega
    · rw [if_neg c1]
      split <;> omega
theorem parts_len (s : IP) : ∀ R : List IP, Good R → s.1 < s.2 → (aheadP R s).length + (metP R s).length + (behindP R s).length ≤ R.length
  | [], _, _ => Nat.le_refl _
  | p :: R, g, hs => by
    have ih := parts_len s R (fun q m => g q (List.mem_cons_of_mem _ m)) hs
    have := g p (List.mem_cons_self ..)
    unfold aheadP metP behindP at ih ⊢
    rw [List.filter_cons, List.filter_cons, List.filter_cons, List.length_cons]
    by_cases c1 : p.2 ≤ s.1
    · have c2 : ¬ s.1 < p.2 := by omega
      have c3 : ¬ s.2 ≤ p.1 := by omega
      simp only [c1, c2, c3, decide_true, decide_false, Bool.false_and, if_true, List.length_cons]
      simp
      omega
    · by_cases c3 : s.2 ≤ p.1
      · have c2 : ¬ p.1 < s.2 := by omega
        simp only [c1, c2, c3, decide_true, decide_false, Bool.and_false, if_true, List.length_cons]
        simp
        omega
      · have c2 : p.1 < s.2 := by omega
        have c4 : s.1 < p.2 := by omega
        simp only [c1, c2, c3, c4, decide_true, decide_false, Bool.and_self, if_true, List.length_cons]
        simp
        omega
theorem left_len {R : List IP} {s : IP} (hs : s.1 < s.2) (g : Good R) (h : Apart R) : (leftP R s).length ≤ R.length + 1 := by
  have a := parts_len s R g hs
  have b := without_len hs (metP R s) (fun p m => g p (mem_met.mp m).1) (h.filter _) fun p m => (mem_met.mp m).2
  unfold leftP
  rw [List.length_append, List.length_append]
  omega
theorem fold_left (l : List IP) : ∀ R : List IP, Good l → Good R → Apart R → Good (l.foldl leftP R) ∧ Apart (l.foldl leftP R) ∧ (l.foldl leftP R).length ≤ R.length + l.length ∧ ∀ m, takes (l.foldl leftP R) m = true ↔ takes R m = true ∧ takes l m = false := by
  induction l with
  | nil =>
    intro R _ g h
    exact ⟨g, h, Nat.le_refl _, fun m => by simp [takes]⟩
  | cons s l ih =>
    intro R gl g h
    have hs := gl s (List.mem_cons_self ..)
    obtain ⟨a, b, c, d⟩ := ih (leftP R s) (fun q m => gl q (List.mem_cons_of_mem _ m)) (left_good hs g) (left_apart hs g h)
    have e := left_len hs g h
    refine ⟨a, b, by rw [List.foldl_cons, List.length_cons]; omega, fun m => ?_⟩
    rw [List.foldl_cons, d m, left_takes hs g]
    have f : takes (s :: l) m = ((decide (s.1 ≤ m) && decide (m < s.2)) || takes l m) := by unfold takes; rw [List.any_cons]
    rw [f]
    by_cases c1 : s.1 ≤ m <;> by_cases c2 : m < s.2 <;> simp [c1, c2]
/-- what is left of one without the other -/
theorem minus_spec {one other : List IP} (g1 : Good one) (g2 : Good other) : Good (minusP one other) ∧ Apart (minusP one other) ∧ (minusP one other).length ≤ one.length + other.length ∧ ∀ m, takes (minusP one other) m = true ↔ takes one m = true ∧ takes other m = false := by
  obtain ⟨a, b, c, d⟩ := fold_left (laidP other) (laidP one) (laid_good g2) (laid_good g1) (laid_apart one)
  have l1 := laid_len one
  have l2 := laid_len other
  refine ⟨a, b, by unfold minusP; omega, fun m => ?_⟩
  have := d m
  rw [laid_takes g1, laid_takes g2] at this
  exact this
end SM
end

section
set_option Elab.async false
set_option linter.all false
set_option maxRecDepth 100000
set_option maxHeartbeats 4000000
/-! Spans cut, counted; crowds. -/
namespace SM
open DL
def clip (b e : Int) (p : IP) : List IP := if max p.1 b < min p.2 e then [(max p.1 b, min p.2 e)] else []
def clips (b e : Int) (l : List IP) : List IP := l.flatMap (clip b e)
def cutP (l : List IP) (b e : Int) : List IP := if e ≤ b then [] else clips b e (laidP l)
theorem mem_clip {b e : Int} {p q : IP} : q ∈ clip b e p ↔ max p.1 b < min p.2 e ∧ q = (max p.1 b, min p.2 e) := by
  unfold clip
  split
  · rename_i h
    rw [List.mem_singleton]
    exact ⟨fun z => ⟨h, z⟩, fun z => z.2⟩
  · rename_i h
    exact ⟨fun z => (nomatch z), fun z => absurd z.1 h⟩
theorem mem_clips {b e : Int} {l : List IP} {q : IP} : q ∈ clips b e l ↔ ∃ p ∈ l, max p.1 b < min p.2 e ∧ q = (max p.1 b, min p.2 e) := by
  unfold clips
  rw [List.mem_flatMap]
  constructor
  · rintro ⟨p, h1, h2⟩
    exact ⟨p, h1, mem_clip.mp h2⟩
  · rintro ⟨p, h1, h2⟩
    exact ⟨p, h1, mem_clip.mpr h2⟩
theorem clips_len (b e : Int) : ∀ l, (clips b e l).length ≤ l.length
  | [] => Nat.le_refl _
  | p :: l => by
    have ih := clips_len b e l
    unfold clips at ih ⊢
    rw [List.flatMap_cons, List.length_append, List.length_cons]
    have : (clip b e p).length ≤ 1 := by
      unfold clip
      split <;> simp
    omega
theorem clips_in {b e : Int} {l : List IP} {q : IP} (h : q ∈ clips b e l) : b ≤ q.1 ∧ q.1 < q.2 ∧ q.2 ≤ e := by
  obtain ⟨p, _, h1, rfl⟩ := mem_clips.mp h
  dsimp only
  omega
theorem clips_apart (b e : Int) : ∀ l, Apart l → Apart (clips b e l)
  | [], _ => List.Pairwise.nil
  | p :: l, h => by
    obtain ⟨h1, h2⟩ := List.pairwise_cons.mp h
    have ih := clips_apart b e l h2
    show Apart (clip b e p ++ clips b e l)
    refine List.pairwise_append.mpr ⟨?_, ih, fun x hx y hy => ?_⟩
    · unfold clip
      split
      · exact List.pairwise_singleton _ _
      · exact List.Pairwise.nil
    · obtain ⟨_, rfl⟩ := mem_clip.mp hx
      obtain ⟨q, hq, _, rfl⟩ := mem_clips.mp hy
      have := h1 q hq
      dsimp only
      omega
theorem clips_takes (b e m : Int) (l : List IP) : takes (clips b e l) m = true ↔ takes l m = true ∧ b ≤ m ∧ m < e := by
  rw [takes_iff, takes_iff]
  constructor
  · rintro ⟨q, hq, h1, h2⟩
    obtain ⟨p, hp, h3, rfl⟩ := mem_clips.mp hq
    dsimp only at h1 h2
    exact ⟨⟨p, hp, by omega, by omega⟩, by omega, by omega⟩
  · rintro ⟨⟨p, hp, h1, h2⟩, h3, h4⟩
    exact ⟨_, mem_clips.mpr ⟨p, hp, by omega, rfl⟩, by dsimp only; omega, by dsimp only; omega⟩
theorem cut_spec {l : List IP} (g : Good l) (b e : Int) : Good (cutP l b e) ∧ Apart (cutP l b e) ∧ (cutP l b e).length ≤ l.length ∧ (∀ p ∈ cutP l b e, b ≤ p.1 ∧ p.2 ≤ e) ∧ ∀ m, takes (cutP l b e) m = (takes l m && (decide (b ≤ m) && decide (m < e))) := by
  unfold cutP
  by_cases h : e ≤ b
  · rw [if_pos h]
    refine ⟨fun p m => (nomatch m), List.Pairwise.nil, Nat.zero_le _, fun p m => (nomatch m), fun m => ?_⟩
    show false = _
    by_cases h1 : b ≤ m
    · have : ¬ m < e := by omega
      simp [this]
    · simp [h1]
  · rw [if_neg h]
    refine ⟨fun p m => (clips_in m).2.1, clips_apart b e _ (laid_apart l), Nat.le_trans (clips_len b e _) (laid_len l), fun p m => ⟨(clips_in m).1, (clips_in m).2.2⟩, fun m => ?_⟩
    rw [Bool.eq_iff_iff, clips_takes, laid_takes g, Bool.and_eq_true, Bool.and_eq_true, decide_eq_true_eq, decide_eq_true_eq]
/-! ### how many moments -/
def cntI (f : Int → Bool) (a : Int) : Nat → Int
  | 0 => 0
  | n + 1 => (if f a = true then 1 else 0) + cntI f (a + 1) n
theorem cntI_add (f : Int → Bool) : ∀ (n k : Nat) (a : Int), cntI f a (n + k) = cntI f a n + cntI f (a + n) k
  | 0, k, a => by
    rw [Nat.zero_add, show a + ((0 : Nat) : Int) = a by omega]
    show _ = 0 + _
    omega
  | n + 1, k, a => by
    have ih := cntI_add f n k (a + 1)
    rw [show n + 1 + k = (n + k) + 1 by omega]
    show (if f a = true then 1 else 0) + cntI f (a + 1) (n + k) = ((if f a = true then 1 else 0) + cntI f (a + 1) n) + cntI f (a + ((n + 1 : Nat) : Int)) k
    rw [ih, show a + 1 + (n : Int) = a + ((n + 1 : Nat) : Int) by omega]
    omega
theorem cntI_congr (f g : Int → Bool) : ∀ (n : Nat) (a : Int), (∀ m, a ≤ m → m < a + n → f m = g m) → cntI f a n = cntI g a n
  | 0, a, _ => rfl
  | n + 1, a, h => by
    have ih := cntI_congr f g n (a + 1) fun m h1 h2 => h m (by omega) (by omega)
    show (if f a = true then 1 else 0) + cntI f (a + 1) n = (if g a = true then 1 else 0) + cntI g (a + 1) n
    rw [ih, h a (by omega) (by omega)]
theorem cntI_const (b : Bool) : ∀ (n : Nat) (a : Int), cntI (fun _ => b) a n = if b = true then (n : Int) else 0
  | 0, a => by
    show (0 : Int) = _
    split <;> rfl
  | n + 1, a => by
    have ih := cntI_const b n (a + 1)
    show (if b = true then 1 else 0) + cntI (fun _ => b) (a + 1) n = _
    rw [ih]
    split <;> omega
/-- from a up to b -/
def cnt (f : Int → Bool) (a b : Int) : Int := cntI f a (b - a).toNat
theorem cnt_add (f : Int → Bool) {a b c : Int} (h1 : a ≤ b) (h2 : b ≤ c) : cnt f a c = cnt f a b + cnt f b c := by
  unfold cnt
  have := cntI_add f (b - a).toNat (c - b).toNat a
  rw [show (b - a).toNat + (c - b).toNat = (c - a).toNat by omega, show a + ((b - a).toNat : Int) = b by omega] at this
  exact this
theorem cnt_congr (f g : Int → Bool) {a b : Int} (h : ∀ m, a ≤ m → m < b → f m = g m) : cnt f a b = cnt g a b := cntI_congr f g _ a fun m h1 h2 => h m h1 (by omega)
theorem cnt_const (f : Int → Bool) (v : Bool) {a b : Int} (h : ∀ m, a ≤ m → m < b → f m = v) (hab : a ≤ b) : cnt f a b = if v = true then b - a else 0 := by
  rw [cnt_congr f (fun _ => v) h]
  unfold cnt
  rw [cntI_const]
  split <;> omega
def lens (l : List IP) : Int := (l.map fun p => p.2 - p.1).sum
theorem lens_cnt : ∀ (l : List IP), Good l → Apart l → ∀ a b : Int, a ≤ b → (∀ p ∈ l, a ≤ p.1 ∧ p.2 ≤ b) → lens l = cnt (takes l) a b
  | [], _, _, a, b, hab, _ => by
    rw [cnt_const (takes []) false (fun _ _ _ => rfl) hab]
    rfl
  | p :: l, g, ap, a, b, hab, hin => by
    obtain ⟨h1, h2⟩ := List.pairwise_cons.mp ap
    have gp := g p (List.mem_cons_self ..)
    have ip := hin p (List.mem_cons_self ..)
    have ih := lens_cnt l (fun q m => g q (List.mem_cons_of_mem _ m)) h2 p.2 b ip.2 fun q m => ⟨by have := h1 q m; omega, (hin q (List.mem_cons_of_mem _ m)).2⟩
    have t : ∀ m, takes (p :: l) m = ((decide (p.1 ≤ m) && decide (m < p.2)) || takes l m) := fun m => rfl
    have no : ∀ m, m < p.2 → takes l m = false := fun m hm => by
      rw [← Bool.not_eq_true, takes_iff]
      rintro ⟨q, hq, z1, z2⟩
      have := h1 q hq
      omega
    rw [cnt_add (takes (p :: l)) (b := p.1) (by omega) (by omega), cnt_add (takes (p :: l)) (a := p.1) (b := p.2) (by omega) (by omega),
      cnt_const (takes (p :: l)) false (a := a) (b := p.1) (fun m h3 h4 => by rw [t, no m (by omega)]; simp; omega) (by omega),
      cnt_const (takes (p :: l)) true (a := p.1) (b := p.2) (fun m h3 h4 => by rw [t]; simp [h3, h4]) (by omega),
      cnt_congr (takes (p :: l)) (takes l) (a := p.2) (b := b) (fun m h3 h4 => by
        rw [t]
        have : ¬ m < p.2 := by omega
        simp [this]), ← ih]
    unfold lens
    rw [List.map_cons, List.sum_cons]
    simp
theorem taken_cnt {l : List IP} (g : Good l) {a b : Int} (hab : a ≤ b) (hin : ∀ p ∈ l, a ≤ p.1 ∧ p.2 ≤ b) : lens (laidP l) = cnt (takes l) a b := by
  rw [lens_cnt (laidP l) (laid_good g) (laid_apart l) a b hab fun p m => ?_]
  · exact cnt_congr _ _ fun m _ _ => laid_takes g m
  · have gp := laid_good g p m
    have t1 := laid_takes g p.1
    have t2 := laid_takes g (p.2 - 1)
    have u1 : takes (laidP l) p.1 = true := (takes_iff _ _).mpr ⟨p, m, by omega, by omega⟩
    have u2 : takes (laidP l) (p.2 - 1) = true := (takes_iff _ _).mpr ⟨p, m, by omega, by omega⟩
    rw [u1] at t1
    rw [u2] at t2
    obtain ⟨q, hq, z1, z2⟩ := (takes_iff _ _).mp t1.symm
    obtain ⟨r, hr, w1, w2⟩ := (takes_iff _ _).mp t2.symm
    have := hin q hq
    have := hin r hr
    omega
/-! ### between marks -/
/-- neighbours -/
def zp : List Int → List IP
  | u :: v :: r => (u, v) :: zp (v :: r)
  | _ => []
def psum (f : Int → Bool) : List Int → Int
  | u :: v :: r => (if f u = true then v - u else 0) + psum f (v :: r)
  | _ => 0
/-- each border of l stands in ms, or at its head or below -/
abbrev Marks (l : List IP) (u : Int) (r : List Int) : Prop := ∀ p ∈ l, (p.1 ≤ u ∨ p.1 ∈ r) ∧ (p.2 ≤ u ∨ p.2 ∈ r)
theorem Marks.next {l : List IP} {u v : Int} {r : List Int} (h : Marks l u (v :: r)) (huv : u < v) : Marks l v r := fun p m => by
  obtain ⟨h1, h2⟩ := h p m
  constructor
  · rcases h1 with h1 | h1
    · exact .inl (by omega)
    · rcases List.mem_cons.mp h1 with h1 | h1
      · exact .inl (by omega)
      · exact .inr h1
  · rcases h2 with h1 | h1
    · exact .inl (by omega)
    · rcases List.mem_cons.mp h1 with h1 | h1
      · exact .inl (by omega)
      · exact .inr h1
theorem Marks.same {l : List IP} {u v : Int} {r : List Int} (h : Marks l u (v :: r)) (hr : (v :: r).Pairwise (· < ·)) {m : Int} (h1 : u ≤ m) (h2 : m < v) : takes l m = takes l u := by
  obtain ⟨hv, _⟩ := List.pairwise_cons.mp hr
  have far : ∀ x, (x ≤ u ∨ x ∈ v :: r) → x ≤ u ∨ v ≤ x := fun x hx => by
    rcases hx with hx | hx
    · exact .inl hx
    · rcases List.mem_cons.mp hx with hx | hx
      · exact .inr (by omega)
      · exact .inr (by have := hv x hx; omega)
  rw [Bool.eq_iff_iff, takes_iff, takes_iff]
  constructor
  · rintro ⟨p, hp, a1, a2⟩
    have f1 := far _ (h p hp).1
    have f2 := far _ (h p hp).2
    exact ⟨p, hp, by omega, by omega⟩
  · rintro ⟨p, hp, a1, a2⟩
    have f1 := far _ (h p hp).1
    have f2 := far _ (h p hp).2
    exact ⟨p, hp, by omega, by omega⟩
theorem last_ge : ∀ (r : List Int) (u : Int), (u :: r).Pairwise (· < ·) → ∀ x ∈ u :: r, x ≤ (u :: r).getLast (List.cons_ne_nil _ _)
  | [], u, _, x, m => by
    rw [List.mem_singleton] at m
    rw [m]
    exact Int.le_refl _
  | v :: r, u, h, x, m => by
    obtain ⟨h1, h2⟩ := List.pairwise_cons.mp h
    have ih := last_ge r v h2
    rw [List.getLast_cons (List.cons_ne_nil _ _)]
    rcases List.mem_cons.mp m with rfl | m
    · have := ih v (List.mem_cons_self ..)
      have := h1 v (List.mem_cons_self ..)
      omega
    · exact ih x m
theorem psum_cnt (l : List IP) : ∀ (r : List Int) (u : Int), (u :: r).Pairwise (· < ·) → Marks l u r → psum (takes l) (u :: r) = cnt (takes l) u ((u :: r).getLast (List.cons_ne_nil _ _))
  | [], u, _, _ => by
    show (0 : Int) = cnt (takes l) u u
    unfold cnt
    rw [show (u - u).toNat = 0 by omega]
    rfl
  | v :: r, u, h, hm => by
    obtain ⟨h1, h2⟩ := List.pairwise_cons.mp h
    have huv := h1 v (List.mem_cons_self ..)
    have ih := psum_cnt l r v h2 (hm.next huv)
    have hl := last_ge r v h2 v (List.mem_cons_self ..)
    rw [List.getLast_cons (List.cons_ne_nil _ _), cnt_add (takes l) (b := v) (by omega) hl, ← ih]
    have c := cnt_const (takes l) (takes l u) (a := u) (b := v) (fun m a b => hm.same h2 a b) (by omega)
    rw [c]
    rfl
/-- both borders of each -/
def bds (l : List IP) : List Int := l.flatMap fun p => [p.1, p.2]
theorem mem_bds {l : List IP} {x : Int} : x ∈ bds l ↔ ∃ p ∈ l, x = p.1 ∨ x = p.2 := by
  unfold bds
  rw [List.mem_flatMap]
  constructor
  · rintro ⟨p, h1, h2⟩
    refine ⟨p, h1, ?_⟩
    simpa using h2
  · rintro ⟨p, h1, h2⟩
    exact ⟨p, h1, by simpa using h2⟩
/-- the law's count is what is taken -/
theorem count_taken {l : List IP} (g : Good l) : psum (takes l) (srt (bds l)) = lens (laidP l) := by
  cases hs : srt (bds l) with
  | nil =>
    have : l = [] := by
      cases l with
      | nil => rfl
      | cons p l =>
        have := (mem_srt p.1 (bds (p :: l))).mpr (mem_bds.mpr ⟨p, List.mem_cons_self .., .inl rfl⟩)
        rw [hs] at this
        cases this
    subst this
    rfl
  | cons u r =>
    have hr := rise_srt (bds l)
    rw [hs] at hr
    have hm : ∀ p ∈ l, p.1 ∈ u :: r ∧ p.2 ∈ u :: r := fun p m => by
      rw [← hs]
      exact ⟨(mem_srt _ _).mpr (mem_bds.mpr ⟨p, m, .inl rfl⟩), (mem_srt _ _).mpr (mem_bds.mpr ⟨p, m, .inr rfl⟩)⟩
    have low : ∀ x ∈ u :: r, u ≤ x := fun x m => by
      rcases List.mem_cons.mp m with rfl | m
      · exact Int.le_refl _
      · have := (List.pairwise_cons.mp hr).1 x m
        omega
    have hi := last_ge r u hr
    rw [psum_cnt l r u hr fun p m => ?_, taken_cnt g (a := u) (hi u (List.mem_cons_self ..)) fun p m => ⟨low _ (hm p m).1, hi _ (hm p m).2⟩]
    obtain ⟨a, b⟩ := hm p m
    constructor
    · rcases List.mem_cons.mp a with a | a
      · exact .inl (by omega)
      · exact .inr a
    · rcases List.mem_cons.mp b with a | a
      · exact .inl (by omega)
      · exact .inr a
theorem bds_len (l : List IP) : (bds l).length = 2 * l.length := by
  induction l with
  | nil => rfl
  | cons p l ih =>
    unfold bds at ih ⊢
    rw [List.flatMap_cons, List.length_append, ih, List.length_cons]
    simp
    omega
/-- three parts are the whole -/
theorem cut_three {l : List IP} (g : Good l) {low b e high : Int} (h1 : low ≤ b) (h2 : b < e) (h3 : e ≤ high) (hin : ∀ p ∈ l, low ≤ p.1 ∧ p.2 ≤ high) : lens (laidP (cutP l low b)) + lens (laidP (cutP l b e)) + lens (laidP (cutP l e high)) = lens (laidP l) := by
  have part : ∀ a c : Int, a ≤ c → lens (laidP (cutP l a c)) = cnt (takes l) a c := fun a c hac => by
    obtain ⟨s1, s2, s3, s4, s5⟩ := cut_spec g a c
    rw [taken_cnt s1 hac s4]
    refine cnt_congr _ _ fun m x y => ?_
    rw [s5, decide_eq_true x, decide_eq_true y]
    simp
  rw [part low b h1, part b e (by omega), part e high h3, taken_cnt g (a := low) (b := high) (by omega) hin, cnt_add (takes l) (a := low) (b := e) (c := high) (by omega) (by omega), cnt_add (takes l) (a := low) (b := b) (c := e) (by omega) (by omega)]
end SM
end

section
set_option Elab.async false
set_option linter.all false
set_option maxRecDepth 100000
set_option maxHeartbeats 4000000
/-! Crowds in plain numbers. -/
namespace SM
open DL
abbrev T3 := Int × Int × Int
/-- how many of the rows take a moment -/
def num (rs : List (List IP)) (m : Int) : Int := ((rs.filter fun r => takes r m).length : Nat)
def crw (f : Int → Int) : T3 → List IP → List T3
  | t, [] => [t]
  | t, p :: r => if t.2.2 = f p.1 then crw f (t.1, p.2, f p.1) r else t :: crw f (p.1, p.2, f p.1) r
def crwR (f : Int → Int) : List IP → List T3
  | [] => []
  | p :: r => crw f (p.1, p.2, f p.1) r
def inner (rs : List (List IP)) (b e : Int) : List (List IP) := rs.map fun r => cutP r b e
def marks (rs : List (List IP)) (b e : Int) : List Int := srt ([b, e] ++ (inner rs b e).flatMap bds)
def crowdP (rs : List (List IP)) (b e : Int) : List T3 := if e ≤ b then [] else crwR (num (inner rs b e)) (zp (marks rs b e))
/-- a row of pieces from u on, up to e, g's number in each, other than n ahead -/
def OkT (g : Int → Int) (e : Int) : Int → Option Int → List T3 → Prop
  | u, _, [] => u = e
  | u, n, t :: r => t.1 = u ∧ u < t.2.1 ∧ some t.2.2 ≠ n ∧ (∀ m, t.1 ≤ m → m < t.2.1 → g m = t.2.2) ∧ OkT g e t.2.1 (some t.2.2) r
theorem crw_ok (g : Int → Int) : ∀ (r : List Int) (u : Int) (t : T3) (n : Option Int), (u :: r).Pairwise (· < ·) → (∀ p ∈ zp (u :: r), ∀ m, p.1 ≤ m → m < p.2 → g m = g p.1) → t.2.1 = u → t.1 < u → some t.2.2 ≠ n → (∀ m, t.1 ≤ m → m < u → g m = t.2.2) →
    OkT g ((u :: r).getLast (List.cons_ne_nil _ _)) t.1 n (crw g t (zp (u :: r)))
  | [], u, t, n, _, _, h1, h2, h3, h4 => by
    subst h1
    exact ⟨rfl, h2, h3, h4, rfl⟩
  | v :: r, u, t, n, hp, hc, h1, h2, h3, h4 => by
    obtain ⟨a1, a2⟩ := List.pairwise_cons.mp hp
    have huv := a1 v (List.mem_cons_self ..)
    have z : zp (u :: v :: r) = (u, v) :: zp (v :: r) := rfl
    have hc1 := hc (u, v) (by rw [z]; exact List.mem_cons_self ..)
    have hc2 : ∀ p ∈ zp (v :: r), ∀ m, p.1 ≤ m → m < p.2 → g m = g p.1 := fun p m => hc p (by rw [z]; exact List.mem_cons_of_mem _ m)
    rw [z, List.getLast_cons (List.cons_ne_nil _ _)]
    unfold crw
    split
    · rename_i q
      exact crw_ok g r v (t.1, v, g u) n a2 hc2 rfl (by dsimp only; omega) (by rw [← q]; exact h3) (fun m x y => by
        by_cases w : m < u
        · rw [h4 m x w]
          exact q
        · exact hc1 m (by dsimp only; omega) y)
    · rename_i q
      refine ⟨rfl, h1 ▸ h2, h3, fun m x y => h4 m x (h1 ▸ y), ?_⟩
      have ih := crw_ok g r v (u, v, g u) (some t.2.2) a2 hc2 rfl huv (fun w => q (by injection w with w; exact w.symm)) (fun m x y => hc1 m x y)
      rw [h1]
      exact ih
theorem srt_cons {ns : List Int} {x : Int} (h : x ∈ ns) : ∃ u r, srt ns = u :: r := by
  have := (mem_srt x ns).mpr h
  cases e : srt ns with
  | nil => rw [e] at this; cases this
  | cons u r => exact ⟨u, r, rfl⟩
theorem mem_marks {rs : List (List IP)} {b e x : Int} : x ∈ marks rs b e ↔ x = b ∨ x = e ∨ ∃ r ∈ rs, ∃ p ∈ cutP r b e, x = p.1 ∨ x = p.2 := by
  unfold marks inner
  rw [mem_srt, List.mem_append, List.mem_flatMap]
  constructor
  · rintro (h | ⟨r', h1, h2⟩)
    · rcases List.mem_cons.mp h with h | h
      · exact .inl h
      · exact .inr (.inl (List.mem_singleton.mp h))
    · obtain ⟨r, h3, rfl⟩ := List.mem_map.mp h1
      exact .inr (.inr ⟨r, h3, mem_bds.mp h2⟩)
  · rintro (h | h | ⟨r, h1, h2⟩)
    · exact .inl (h ▸ List.mem_cons_self ..)
    · exact .inl (List.mem_cons_of_mem _ (List.mem_singleton.mpr h))
    · exact .inr ⟨_, List.mem_map.mpr ⟨r, h1, rfl⟩, mem_bds.mpr h2⟩
theorem num_congr (rs : List (List IP)) {m k : Int} (h : ∀ r ∈ rs, takes r m = takes r k) : num rs m = num rs k := by
  unfold num
  congr 2
  refine List.filter_congr fun r hr => ?_
  rw [h r hr]
/-- neighbours of a rising row, and what stands between -/
theorem zp_between : ∀ (r : List Int) (u : Int), (u :: r).Pairwise (· < ·) → ∀ p ∈ zp (u :: r), p.1 ∈ u :: r ∧ p.2 ∈ u :: r ∧ p.1 < p.2 ∧ ∀ x ∈ u :: r, x ≤ p.1 ∨ p.2 ≤ x
  | [], u, _, p, m => nomatch m
  | v :: r, u, h, p, m => by
    obtain ⟨h1, h2⟩ := List.pairwise_cons.mp h
    have huv := h1 v (List.mem_cons_self ..)
    have z : zp (u :: v :: r) = (u, v) :: zp (v :: r) := rfl
    rw [z] at m
    rcases List.mem_cons.mp m with rfl | m
    · refine ⟨List.mem_cons_self .., List.mem_cons_of_mem _ (List.mem_cons_self ..), huv, fun x hx => ?_⟩
      rcases List.mem_cons.mp hx with rfl | hx
      · exact .inl (Int.le_refl _)
      · rcases List.mem_cons.mp hx with rfl | hx
        · exact .inr (Int.le_refl _)
        · have := (List.pairwise_cons.mp h2).1 x hx
          exact .inr (by dsimp only; omega)
    · obtain ⟨a, b, c, d⟩ := zp_between r v h2 p m
      refine ⟨List.mem_cons_of_mem _ a, List.mem_cons_of_mem _ b, c, fun x hx => ?_⟩
      rcases List.mem_cons.mp hx with rfl | hx
      · have : v ≤ p.1 := by
          rcases List.mem_cons.mp a with a | a
          · omega
          · have := (List.pairwise_cons.mp h2).1 _ a
            omega
        exact .inl (by omega)
      · exact d x hx
theorem crowd_ok {rs : List (List IP)} (g : ∀ r ∈ rs, Good r) {b e : Int} (hbe : b < e) : OkT (num (inner rs b e)) e b none (crowdP rs b e) := by
  unfold crowdP
  rw [if_neg (by omega)]
  have hr : (marks rs b e).Pairwise (· < ·) := rise_srt _
  have hm : ∀ x, x ∈ marks rs b e ↔ _ := fun x => mem_marks
  have hin : ∀ x ∈ marks rs b e, b ≤ x ∧ x ≤ e := fun x m => by
    rcases (hm x).mp m with h | h | ⟨r, h1, p, h2, h3⟩
    · omega
    · omega
    · have s := cut_spec (g r h1) b e
      have := s.2.2.2.1 p h2
      have := s.1 p h2
      omega
  have hb : b ∈ marks rs b e := (hm b).mpr (.inl rfl)
  have he : e ∈ marks rs b e := (hm e).mpr (.inr (.inl rfl))
  have hbord : ∀ r ∈ inner rs b e, ∀ p ∈ r, p.1 ∈ marks rs b e ∧ p.2 ∈ marks rs b e := fun r' h1 p h2 => by
    obtain ⟨r, h3, rfl⟩ := List.mem_map.mp h1
    exact ⟨(hm _).mpr (.inr (.inr ⟨r, h3, p, h2, .inl rfl⟩)), (hm _).mpr (.inr (.inr ⟨r, h3, p, h2, .inr rfl⟩))⟩
  cases hk : marks rs b e with
  | nil => rw [hk] at hb; cases hb
  | cons u r =>
    rw [hk] at hr hin hb he hbord
    have ub : u = b := by
      have a1 := (hin u (List.mem_cons_self ..)).1
      rcases List.mem_cons.mp hb with z | z
      · exact z.symm
      · have := (List.pairwise_cons.mp hr).1 b z
        omega
    subst ub
    have el : (u :: r).getLast (List.cons_ne_nil _ _) = e := by
      have a1 := last_ge r u hr e he
      have a2 := (hin _ (List.getLast_mem (List.cons_ne_nil u r))).2
      omega
    have hc : ∀ p ∈ zp (u :: r), ∀ m, p.1 ≤ m → m < p.2 → num (inner rs u e) m = num (inner rs u e) p.1 := fun p hp m x y => by
      obtain ⟨_, _, _, far⟩ := zp_between r u hr p hp
      refine num_congr _ fun r' hr' => ?_
      rw [Bool.eq_iff_iff, takes_iff, takes_iff]
      constructor
      · rintro ⟨q, hq, z1, z2⟩
        obtain ⟨q1, q2⟩ := hbord r' hr' q hq
        have := far _ q1
        have := far _ q2
        exact ⟨q, hq, by omega, by omega⟩
      · rintro ⟨q, hq, z1, z2⟩
        obtain ⟨q1, q2⟩ := hbord r' hr' q hq
        have := far _ q1
        have := far _ q2
        exact ⟨q, hq, by omega, by omega⟩
    cases r with
    | nil =>
      have : u = e := el
      omega
    | cons v r =>
      have z : zp (u :: v :: r) = (u, v) :: zp (v :: r) := rfl
      obtain ⟨a1, a2⟩ := List.pairwise_cons.mp hr
      have huv := a1 v (List.mem_cons_self ..)
      rw [z]
      have := crw_ok (num (inner rs u e)) r v (u, v, num (inner rs u e) u) none a2 (fun p m => hc p (by rw [z]; exact List.mem_cons_of_mem _ m)) rfl huv (fun w => nomatch w) (fun m x y => hc (u, v) (by rw [z]; exact List.mem_cons_self ..) m x y)
      rw [List.getLast_cons (List.cons_ne_nil _ _)] at el
      rw [el] at this
      exact this
theorem ok_from {g : Int → Int} {e : Int} : ∀ (l : List T3) (u : Int) (n : Option Int), OkT g e u n l → u ≤ e ∧ ∀ t ∈ l, u ≤ t.1 ∧ t.1 < e
  | [], u, n, h => ⟨Int.le_of_eq h, fun t m => nomatch m⟩
  | t :: r, u, n, ⟨h1, h2, _, _, h5⟩ => by
    obtain ⟨a, b⟩ := ok_from r _ _ h5
    refine ⟨by omega, fun x m => ?_⟩
    rcases List.mem_cons.mp m with rfl | m
    · omega
    · have := b x m
      omega
def at3 (m : Int) (t : T3) : Bool := decide (t.1 ≤ m) && decide (m < t.2.1)
theorem ok_uniq {g : Int → Int} {e : Int} : ∀ (l : List T3) (u : Int) (n : Option Int), OkT g e u n l → ∀ m, u ≤ m → m < e → (l.filter (at3 m)).map (fun t => t.2.2) = [g m]
  | [], u, n, h, m, h1, h2 => by
    have : u = e := h
    omega
  | t :: r, u, n, ⟨h1, h2, h3, h4, h5⟩, m, h6, h7 => by
    rw [List.filter_cons]
    by_cases q : m < t.2.1
    · have a : at3 m t = true := by
        unfold at3
        rw [Bool.and_eq_true, decide_eq_true_eq, decide_eq_true_eq]
        omega
      have b : r.filter (at3 m) = [] := List.filter_eq_nil_iff.mpr fun x hx => by
        have := (ok_from r _ _ h5).2 x hx
        unfold at3
        rw [Bool.and_eq_true, decide_eq_true_eq, decide_eq_true_eq]
        omega
      rw [if_pos a, b, h4 m (by omega) q]
      rfl
    · have a : ¬ at3 m t = true := by
        unfold at3
        rw [Bool.and_eq_true, decide_eq_true_eq, decide_eq_true_eq]
        omega
      rw [if_neg a]
      exact ok_uniq r _ _ h5 m (by omega) h7
theorem num_inner {rs : List (List IP)} (g : ∀ r ∈ rs, Good r) {b e m : Int} (h1 : b ≤ m) (h2 : m < e) : num (inner rs b e) m = num rs m := by
  unfold num inner
  rw [List.filter_map, List.length_map]
  congr 2
  refine List.filter_congr fun r hr => ?_
  show takes (cutP r b e) m = takes r m
  rw [(cut_spec (g r hr) b e).2.2.2.2 m, decide_eq_true h1, decide_eq_true h2]
  simp
theorem crowd_rev (rs : List (List IP)) (b e : Int) : crowdP rs.reverse b e = crowdP rs b e := by
  unfold crowdP
  have h1 : num (inner rs.reverse b e) = num (inner rs b e) := by
    funext m
    unfold num inner
    rw [List.map_reverse, List.filter_reverse, List.length_reverse]
  have h2 : marks rs.reverse b e = marks rs b e := rise_uniq _ _ (rise_srt _) (rise_srt _) fun x => by
    show x ∈ marks _ _ _ ↔ x ∈ marks _ _ _
    rw [mem_marks, mem_marks]
    simp only [List.mem_reverse]
  rw [h1, h2]
theorem crw_len (f : Int → Int) : ∀ (l : List IP) (t : T3), (crw f t l).length ≤ l.length + 1
  | [], t => Nat.le_refl _
  | p :: r, t => by
    unfold crw
    split
    · have := crw_len f r (t.1, p.2, f p.1)
      rw [List.length_cons]
      omega
    · have := crw_len f r (p.1, p.2, f p.1)
      rw [List.length_cons, List.length_cons]
      omega
theorem zp_len : ∀ l : List Int, (zp l).length ≤ l.length
  | [] => Nat.le_refl _
  | [u] => Nat.zero_le _
  | u :: v :: r => by
    have := zp_len (v :: r)
    show (zp (v :: r)).length + 1 ≤ (v :: r).length + 1
    omega
theorem crowd_len (rs : List (List IP)) (b e : Int) : (crowdP rs b e).length ≤ (marks rs b e).length + 1 := by
  unfold crowdP
  split
  · exact Nat.zero_le _
  · have z := zp_len (marks rs b e)
    cases h : zp (marks rs b e) with
    | nil => exact Nat.zero_le _
    | cons p r =>
      have := crw_len (num (inner rs b e)) r (p.1, p.2, num (inner rs b e) p.1)
      rw [h, List.length_cons] at z
      show (crw _ _ r).length ≤ _
      omega
end SM
end

section
set_option Elab.async false
set_option linter.all false
set_option maxRecDepth 100000
set_option maxHeartbeats 4000000
namespace Lw
open PySem PySem.Spec PyProof.Rows L2 DL
noncomputable section
def top (i : Nat) : Stmt := PySem.Challenge.pw_hourhouse_k44_no_spans.main.body.getD i (.Pass ⟨0, 0, 0, 0⟩)
abbrev FnP (K : PySem.W.Frag) (x : Str) (st : Stmt) (dvs : List V) (f : Addr) (fd : FuncData) : Prop := FunD K x x (defArgs st) (defBody st) (defScope st) dvs [] f fd
theorem bt_ValueError : bootBuiltins "ValueError" = some (.type "ValueError") := by decide +kernel
theorem bt_isinstance : bootBuiltins "isinstance" = some (.builtin "isinstance") := by decide +kernel
theorem bt_len : bootBuiltins "len" = some (.builtin "len") := by decide +kernel
theorem bt_list : bootBuiltins "list" = some (.type "list") := by decide +kernel
theorem bt_max : bootBuiltins "max" = some (.builtin "max") := by decide +kernel
theorem bt_min : bootBuiltins "min" = some (.builtin "min") := by decide +kernel
theorem bt_range : bootBuiltins "range" = some (.type "range") := by decide +kernel
theorem bt_set : bootBuiltins "set" = some (.type "set") := by decide +kernel
theorem bt_sorted : bootBuiltins "sorted" = some (.builtin "sorted") := by decide +kernel
theorem bt_sum : bootBuiltins "sum" = some (.builtin "sum") := by decide +kernel
theorem bt_zip : bootBuiltins "zip" = some (.type "zip") := by decide +kernel
def usX : List Nat := [5]
def csX : List Nat := [0]
def isXs : List Nat := [1, 2, 3, 4, 5, 6, 7, 8, 9, 10, 11, 12, 13, 14, 15]
def tab : FTab := []
/-- what the walk asks of the text as its top has left it -/
structure Tx (K : PySem.W.Frag) (mg : Str → Option Value) (T : Tb) : Prop where
  b_ValueError : mg "ValueError" = none
  b_isinstance : mg "isinstance" = none
  b_len : mg "len" = none
  b_list : mg "list" = none
  b_max : mg "max" = none
  b_min : mg "min" = none
  b_range : mg "range" = none
  b_set : mg "set" = none
  b_sorted : mg "sorted" = none
  b_sum : mg "sum" = none
  b_zip : mg "zip" = none
  x_NoSpan : T.XA 5 = He.ga K "NoSpan" ∧ PySem.W.excIn K (He.ga K "NoSpan") He.veBase "ValueError.__new__" = true ∧ mg "NoSpan" = some (.ref (He.ga K "NoSpan")) ∧ PySem.W.keepIn K (.ref (He.ga K "NoSpan")) = true ∧ PySem.W.subIn K (.ref (He.ga K "NoSpan")) (.type "BaseException") = some true ∧ PySem.W.typeIn K (.ref (He.ga K "NoSpan")) = some (.type "type")
  g_Busy : mg "Busy" = some (.ref (T.XA 14))
  g_Closed : mg "Closed" = some (.ref (T.XA 13))
  g_Full : mg "Full" = some (.ref (T.XA 8))
  g_HouseError : mg "HouseError" = some (.ref (T.XA 0))
  g_Known : mg "Known" = some (.ref (T.XA 7))
  g_NoDay : mg "NoDay" = some (.ref (T.XA 1))
  g_NoHand : mg "NoHand" = some (.ref (T.XA 10))
  g_NoLetter : mg "NoLetter" = some (.ref (T.XA 9))
  g_NoMeeting : mg "NoMeeting" = some (.ref (T.XA 12))
  g_NoPlace : mg "NoPlace" = some (.ref (T.XA 4))
  g_NoRule : mg "NoRule" = some (.ref (T.XA 3))
  g_NoSpan : mg "NoSpan" = some (.ref (T.XA 5))
  g_NoText : mg "NoText" = some (.ref (T.XA 2))
  g_NoThing : mg "NoThing" = some (.ref (T.XA 6))
  g_NoWord : mg "NoWord" = some (.ref (T.XA 11))
  xx : XOk K T usX csX isXs
section
variable {P : Program} {w : World} {K : PySem.W.Frag} {mg : Str → Option Value} {base : Heap} {T : Tb}
abbrev s_need_spans : Stmt := top 17
abbrev V_need_spans : List V := []
abbrev N_need_spans : List Str := ["row", "begin", "end"]
theorem sc_need_spans : FnScope N_need_spans ["row"] (defScope s_need_spans) := ⟨rfl, rfl, rfl, by decide +kernel, rfl, by decide +kernel, by decide +kernel⟩
def b_need_spans : FS := (fFor (iSeq (fVar 0)) (tgMany [1, 2]) (fIte (fT (f2 gLe (fVar 2) (fVar 1))) (fRaise 5) fSkip))
def phi_need_spans : List D → Res SV := runF 3 b_need_spans
theorem ok_need_spans {f : Addr} {fd : FuncData} (X : Tx K mg T) (F : FnP K "need_spans" s_need_spans V_need_spans f fd) : FnOk P w K mg base (XK.CX P w) 1 f fd ["row"] (SpF K T 1 phi_need_spans) :=
  def_ok T F sc_need_spans rfl (fun cdv A outer s H E hr => by
    have sc := sc_need_spans
    have tk := XK.takes_of (X := cxOf (XK.CX P w) P w K mg base N_need_spans "need_spans" (defScope s_need_spans) f cdv A outer s H E) rfl rfl rfl rfl
    have hx := passK tk
    exact (ds_one (ds_for PassesOwn.leaving rfl (di_seq (de_var (pv 0))) (dg_many (is := [1, 2]) rfl (pgs_cons (pg_name (i := 1) sc.nd rfl (by first | exact Or.inl rfl | exact Or.inr rfl)) (pgs_cons (pg_name (i := 2) sc.nd rfl (by first | exact Or.inl rfl | exact Or.inr rfl)) pgs_nil))) (ds_one (ds_if (dt_cmp op_le good_le (de_var (pv 2)) (de_var (pv 1)) (nomark _)) (ds_one (ds_raiseK X.x_NoSpan.1 rfl tk PySem.F.excBase_ValueError X.x_NoSpan.2.1 X.x_NoSpan.2.2.1 X.x_NoSpan.2.2.2.1 (raises_own X.x_NoSpan.2.2.2.2.1 X.x_NoSpan.2.2.2.2.2) rfl)) ds_nil)))))
abbrev s_laid : Stmt := top 18
abbrev V_laid : List V := []
abbrev N_laid : List Str := ["row", "found", "begin", "end"]
theorem sc_laid : FnScope N_laid ["row"] (defScope s_laid) := ⟨rfl, rfl, rfl, by decide +kernel, rfl, by decide +kernel, by decide +kernel⟩
def b_laid : FS := fSeq (fDrop (fCall 1 phi_need_spans [] (aCons (fVar 0) aNil))) (fSeq (fAsg 1 (fLst aNil)) (fSeq (fFor (iSeq (fN gSrtA (aCons (fVar 0) aNil))) (tgMany [2, 3]) (fIte (fAnd (fT (f2 gNe (fVar 1) (fLst aNil))) (fT (f2 gLe (fVar 2) (f2 gIx (f2 gIx (fVar 1) (f1 gNeg (fC (.int 1)))) (fC (.int 1)))))) (fSetIx 1 (f1 gNeg (fC (.int 1))) (fTup (aCons (f2 gIx (f2 gIx (fVar 1) (f1 gNeg (fC (.int 1)))) (fC (.int 0))) (aCons (fN gMax2 (aCons (f2 gIx (f2 gIx (fVar 1) (f1 gNeg (fC (.int 1)))) (fC (.int 1))) (aCons (fVar 3) aNil))) aNil)))) (fMut 1 mAppend (aCons (fTup (aCons (fVar 2) (aCons (fVar 3) aNil))) aNil)))) (fRet (fVar 1))))
def phi_laid : List D → Res SV := runF 4 b_laid
theorem ok_laid {f : Addr} {fd : FuncData} (X : Tx K mg T) (G_need_spans : Fnc P w K mg base (XK.CX P w) T 1 "need_spans" 1 phi_need_spans []) (F : FnP K "laid" s_laid V_laid f fd) : FnOk P w K mg base (XK.CX P w) 2 f fd ["row"] (SpF K T 1 phi_laid) :=
  def_ok T F sc_laid rfl (fun cdv A outer s H E hr => by
    have sc := sc_laid
    have tk := XK.takes_of (X := cxOf (XK.CX P w) P w K mg base N_laid "laid" (defScope s_laid) f cdv A outer s H E) rfl rfl rfl rfl
    have hx := passK tk
    exact (ds_cons (ds_expr (de_fn G_need_spans hr (by decide) rfl hx (da_cons (de_var (pv 0)) da_nil))) (ds_cons (ds_set (i := 1) sc.nd rfl (by first | exact Or.inl rfl | exact Or.inr rfl) (de_lst da_nil)) (ds_cons (ds_for PassesOwn.leaving rfl (di_seq (de_callB cr_srtA good_srtA rfl X.b_sorted bt_sorted (da_cons (de_var (pv 0)) da_nil))) (dg_many (is := [2, 3]) rfl (pgs_cons (pg_name (i := 2) sc.nd rfl (by first | exact Or.inl rfl | exact Or.inr rfl)) (pgs_cons (pg_name (i := 3) sc.nd rfl (by first | exact Or.inl rfl | exact Or.inr rfl)) pgs_nil))) (ds_one (ds_if (PW.pt (dw_and (dt_cmp (op_neA hr.units) good_ne (de_var (pv 1)) (de_lst da_nil) (nomark _)) (pw_and1 (dt_cmp op_le good_le (de_var (pv 2)) (de_ix ix_seq good_ix (de_ix ix_seq good_ix (de_var (pv 1)) (de_un un_neg good_neg de_int) (fun _ _ => rfl)) de_int (fun _ _ => rfl)) (nomark _))))) (ds_one (ds_setIx (pv 1) (de_un un_neg good_neg de_int) (de_tup (da_cons (de_ix ix_seq good_ix (de_ix ix_seq good_ix (de_var (pv 1)) (de_un un_neg good_neg de_int) (fun _ _ => rfl)) de_int (fun _ _ => rfl)) (da_cons (de_callB (call_max2 rfl) good_max2 rfl X.b_max bt_max (da_cons (de_ix ix_seq good_ix (de_ix ix_seq good_ix (de_var (pv 1)) (de_un un_neg good_neg de_int) (fun _ _ => rfl)) de_int (fun _ _ => rfl)) (da_cons (de_var (pv 3)) da_nil))) da_nil))))) (ds_one (ds_mut PySem.F.slot_list_append PySem.F.type_list_append mt_append good_append (pv 1) (da_cons (de_tup (da_cons (de_var (pv 2)) (da_cons (de_var (pv 3)) da_nil))) da_nil)))))) (ds_one (ds_ret (de_var (pv 1))))))))
abbrev s_without : Stmt := top 19
abbrev V_without : List V := []
abbrev N_without : List Str := ["row", "begin", "end", "found", "first", "last"]
theorem sc_without : FnScope N_without ["row", "begin", "end"] (defScope s_without) := ⟨rfl, rfl, rfl, by decide +kernel, rfl, by decide +kernel, by decide +kernel⟩
def b_without : FS := fSeq (fAsg 3 (fLst aNil)) (fSeq (fFor (iSeq (fVar 0)) (tgMany [4, 5]) (fSeq (fIte (fT (f2 gLt (fVar 4) (fVar 1))) (fMut 3 mAppend (aCons (fTup (aCons (fVar 4) (aCons (fN gMin2 (aCons (fVar 5) (aCons (fVar 1) aNil))) aNil))) aNil)) fSkip) (fIte (fT (f2 gLt (fVar 2) (fVar 5))) (fMut 3 mAppend (aCons (fTup (aCons (fN gMax2 (aCons (fVar 4) (aCons (fVar 2) aNil))) (aCons (fVar 5) aNil))) aNil)) fSkip))) (fRet (fVar 3)))
def phi_without : List D → Res SV := runF 6 b_without
theorem ok_without {f : Addr} {fd : FuncData} (X : Tx K mg T) (F : FnP K "without" s_without V_without f fd) : FnOk P w K mg base (XK.CX P w) 1 f fd ["row", "begin", "end"] (SpF K T 3 phi_without) :=
  def_ok T F sc_without rfl (fun cdv A outer s H E hr => by
    have sc := sc_without
    have tk := XK.takes_of (X := cxOf (XK.CX P w) P w K mg base N_without "without" (defScope s_without) f cdv A outer s H E) rfl rfl rfl rfl
    have hx := passK tk
    exact (ds_cons (ds_set (i := 3) sc.nd rfl (by first | exact Or.inl rfl | exact Or.inr rfl) (de_lst da_nil)) (ds_cons (ds_for PassesOwn.leaving rfl (di_seq (de_var (pv 0))) (dg_many (is := [4, 5]) rfl (pgs_cons (pg_name (i := 4) sc.nd rfl (by first | exact Or.inl rfl | exact Or.inr rfl)) (pgs_cons (pg_name (i := 5) sc.nd rfl (by first | exact Or.inl rfl | exact Or.inr rfl)) pgs_nil))) (ds_cons (ds_if (dt_cmp op_lt good_lt (de_var (pv 4)) (de_var (pv 1)) (nomark _)) (ds_one (ds_mut PySem.F.slot_list_append PySem.F.type_list_append mt_append good_append (pv 3) (da_cons (de_tup (da_cons (de_var (pv 4)) (da_cons (de_callB (call_min2 rfl) good_min2 rfl X.b_min bt_min (da_cons (de_var (pv 5)) (da_cons (de_var (pv 1)) da_nil))) da_nil))) da_nil))) ds_nil) (ds_one (ds_if (dt_cmp op_lt good_lt (de_var (pv 2)) (de_var (pv 5)) (nomark _)) (ds_one (ds_mut PySem.F.slot_list_append PySem.F.type_list_append mt_append good_append (pv 3) (da_cons (de_tup (da_cons (de_callB (call_max2 rfl) good_max2 rfl X.b_max bt_max (da_cons (de_var (pv 4)) (da_cons (de_var (pv 2)) da_nil))) (da_cons (de_var (pv 5)) da_nil))) da_nil))) ds_nil)))) (ds_one (ds_ret (de_var (pv 3)))))))
abbrev s_left_of : Stmt := top 20
abbrev V_left_of : List V := []
abbrev N_left_of : List Str := ["row", "begin", "end", "ahead", "behind", "met", "span"]
theorem sc_left_of : FnScope N_left_of ["row", "begin", "end"] (defScope s_left_of) := ⟨rfl, rfl, rfl, by decide +kernel, rfl, by decide +kernel, by decide +kernel⟩
def b_left_of : FS := fSeq (fAsg 3 (fLc (iSeq (fVar 0)) (tgOne 6) (fT (f2 gLe (f2 gIx (fVar 6) (fC (.int 1))) (fVar 1))) (fVar 6) [6])) (fSeq (fAsg 4 (fLc (iSeq (fVar 0)) (tgOne 6) (fT (f2 gGe (f2 gIx (fVar 6) (fC (.int 0))) (fVar 2))) (fVar 6) [6])) (fSeq (fAsg 5 (fLc (iSeq (fVar 0)) (tgOne 6) (fAnd (fT (f2 gGt (f2 gIx (fVar 6) (fC (.int 1))) (fVar 1))) (fT (f2 gLt (f2 gIx (fVar 6) (fC (.int 0))) (fVar 2)))) (fVar 6) [6])) (fFz 5 (fRet (f2 gAdd (f2 gAdd (fVar 3) (fCall 3 phi_without [] (aCons (fVar 5) (aCons (fVar 1) (aCons (fVar 2) aNil))))) (fVar 4))))))
def phi_left_of : List D → Res SV := runF 7 b_left_of
theorem ok_left_of {f : Addr} {fd : FuncData} (X : Tx K mg T) (G_without : Fnc P w K mg base (XK.CX P w) T 1 "without" 3 phi_without []) (F : FnP K "left_of" s_left_of V_left_of f fd) : FnOk P w K mg base (XK.CX P w) 2 f fd ["row", "begin", "end"] (SpF K T 3 phi_left_of) :=
  def_ok T F sc_left_of rfl (fun cdv A outer s H E hr => by
    have sc := sc_left_of
    have tk := XK.takes_of (X := cxOf (XK.CX P w) P w K mg base N_left_of "left_of" (defScope s_left_of) f cdv A outer s H E) rfl rfl rfl rfl
    have hx := passK tk
    exact (ds_cons (ds_setLc (i := 3) (own := [("span", 6)]) (is := [6]) (g := (tgOne 6)) (ft := (fT (f2 gLe (f2 gIx (fVar 6) (fC (.int 1))) (fVar 1)))) (fe := (fVar 6)) (by decide) rfl sc.nd rfl rfl (sw_true rfl rfl rfl (by decide +kernel)) (di_seq (de_var (pv 0))) (blkOk_by (N := N_left_of) (sc := defScope s_left_of) (by decide +kernel)) (fun _ _ _ _ _ => (dg_one (pg_name (i := 6) sc.nd rfl (by first | exact Or.inl rfl | exact Or.inr rfl)))) (fun _ _ _ _ _ => by have hx := @passFK; exact (dts_one (dt_cmp op_le good_le (de_ix ix_seq good_ix (de_var (pv 6)) de_int (fun _ _ => rfl)) (de_var (pv 1)) (nomark _)))) (fun _ _ _ _ _ => by have hx := @passFK; exact (de_var (pv 6)))) (ds_cons (ds_setLc (i := 4) (own := [("span", 6)]) (is := [6]) (g := (tgOne 6)) (ft := (fT (f2 gGe (f2 gIx (fVar 6) (fC (.int 0))) (fVar 2)))) (fe := (fVar 6)) (by decide) rfl sc.nd rfl rfl (sw_true rfl rfl rfl (by decide +kernel)) (di_seq (de_var (pv 0))) (blkOk_by (N := N_left_of) (sc := defScope s_left_of) (by decide +kernel)) (fun _ _ _ _ _ => (dg_one (pg_name (i := 6) sc.nd rfl (by first | exact Or.inl rfl | exact Or.inr rfl)))) (fun _ _ _ _ _ => by have hx := @passFK; exact (dts_one (dt_cmp op_ge good_ge (de_ix ix_seq good_ix (de_var (pv 6)) de_int (fun _ _ => rfl)) (de_var (pv 2)) (nomark _)))) (fun _ _ _ _ _ => by have hx := @passFK; exact (de_var (pv 6)))) (ds_cons (ds_setLc (i := 5) (own := [("span", 6)]) (is := [6]) (g := (tgOne 6)) (ft := (fAnd (fT (f2 gGt (f2 gIx (fVar 6) (fC (.int 1))) (fVar 1))) (fT (f2 gLt (f2 gIx (fVar 6) (fC (.int 0))) (fVar 2))))) (fe := (fVar 6)) (by decide) rfl sc.nd rfl rfl (sw_true rfl rfl rfl (by decide +kernel)) (di_seq (de_var (pv 0))) (blkOk_by (N := N_left_of) (sc := defScope s_left_of) (by decide +kernel)) (fun _ _ _ _ _ => (dg_one (pg_name (i := 6) sc.nd rfl (by first | exact Or.inl rfl | exact Or.inr rfl)))) (fun _ _ _ _ _ => by have hx := @passFK; exact (dts_one (PW.pt (dw_and (dt_cmp op_gt good_gt (de_ix ix_seq good_ix (de_var (pv 6)) de_int (fun _ _ => rfl)) (de_var (pv 1)) (nomark _)) (pw_and1 (dt_cmp op_lt good_lt (de_ix ix_seq good_ix (de_var (pv 6)) de_int (fun _ _ => rfl)) (de_var (pv 2)) (nomark _))))))) (fun _ _ _ _ _ => by have hx := @passFK; exact (de_var (pv 6)))) (ds_one (ds_fz (i := 5) (ds_ret (de_op op_addA good_add (de_op op_addA good_add (de_var (pv 3)) (de_fn G_without hr (by decide) rfl hx (da_cons (de_var (pv 5)) (da_cons (de_var (pv 1)) (da_cons (de_var (pv 2)) da_nil))))) (de_var (pv 4))))))))))
abbrev s_minus : Stmt := top 21
abbrev V_minus : List V := []
abbrev N_minus : List Str := ["one", "other", "found", "begin", "end"]
theorem sc_minus : FnScope N_minus ["one", "other"] (defScope s_minus) := ⟨rfl, rfl, rfl, by decide +kernel, rfl, by decide +kernel, by decide +kernel⟩
def b_minus : FS := fSeq (fAsg 2 (fCall 1 phi_laid [] (aCons (fVar 0) aNil))) (fSeq (fFor (iSeq (fCall 1 phi_laid [] (aCons (fVar 1) aNil))) (tgMany [3, 4]) (fFz 2 (fAsg 2 (fCall 3 phi_left_of [] (aCons (fVar 2) (aCons (fVar 3) (aCons (fVar 4) aNil))))))) (fRet (fVar 2)))
def phi_minus : List D → Res SV := runF 5 b_minus
theorem ok_minus {f : Addr} {fd : FuncData} (X : Tx K mg T) (G_laid : Fnc P w K mg base (XK.CX P w) T 2 "laid" 1 phi_laid []) (G_left_of : Fnc P w K mg base (XK.CX P w) T 2 "left_of" 3 phi_left_of []) (F : FnP K "minus" s_minus V_minus f fd) : FnOk P w K mg base (XK.CX P w) 3 f fd ["one", "other"] (SpF K T 2 phi_minus) :=
  def_ok T F sc_minus rfl (fun cdv A outer s H E hr => by
    have sc := sc_minus
    have tk := XK.takes_of (X := cxOf (XK.CX P w) P w K mg base N_minus "minus" (defScope s_minus) f cdv A outer s H E) rfl rfl rfl rfl
    have hx := passK tk
    exact (ds_cons (ds_set (i := 2) sc.nd rfl (by first | exact Or.inl rfl | exact Or.inr rfl) (de_fn G_laid hr (by decide) rfl hx (da_cons (de_var (pv 0)) da_nil))) (ds_cons (ds_for PassesOwn.leaving rfl (di_seq (de_fn G_laid hr (by decide) rfl hx (da_cons (de_var (pv 1)) da_nil))) (dg_many (is := [3, 4]) rfl (pgs_cons (pg_name (i := 3) sc.nd rfl (by first | exact Or.inl rfl | exact Or.inr rfl)) (pgs_cons (pg_name (i := 4) sc.nd rfl (by first | exact Or.inl rfl | exact Or.inr rfl)) pgs_nil))) (ds_one (ds_fz (i := 2) (ds_set (i := 2) sc.nd rfl (by first | exact Or.inl rfl | exact Or.inr rfl) (de_fn G_left_of hr (by decide) rfl hx (da_cons (de_var (pv 2)) (da_cons (de_var (pv 3)) (da_cons (de_var (pv 4)) da_nil)))))))) (ds_one (ds_ret (de_var (pv 2)))))))
abbrev s_both : Stmt := top 22
abbrev V_both : List V := []
abbrev N_both : List Str := ["one", "other", "found", "second", "begin", "end", "first", "last"]
theorem sc_both : FnScope N_both ["one", "other"] (defScope s_both) := ⟨rfl, rfl, rfl, by decide +kernel, rfl, by decide +kernel, by decide +kernel⟩
def b_both : FS := fSeq (fAsg 2 (fLst aNil)) (fSeq (fAsg 3 (fCall 1 phi_laid [] (aCons (fVar 1) aNil))) (fSeq (fFor (iSeq (fCall 1 phi_laid [] (aCons (fVar 0) aNil))) (tgMany [4, 5]) (fFz 3 (fFor (iSeq (fVar 3)) (tgMany [6, 7]) (fIte (fT (f2 gLt (fN gMax2 (aCons (fVar 4) (aCons (fVar 6) aNil))) (fN gMin2 (aCons (fVar 5) (aCons (fVar 7) aNil))))) (fMut 2 mAppend (aCons (fTup (aCons (fN gMax2 (aCons (fVar 4) (aCons (fVar 6) aNil))) (aCons (fN gMin2 (aCons (fVar 5) (aCons (fVar 7) aNil))) aNil))) aNil)) fSkip)))) (fRet (fVar 2))))
def phi_both : List D → Res SV := runF 8 b_both
theorem ok_both {f : Addr} {fd : FuncData} (X : Tx K mg T) (G_laid : Fnc P w K mg base (XK.CX P w) T 2 "laid" 1 phi_laid []) (F : FnP K "both" s_both V_both f fd) : FnOk P w K mg base (XK.CX P w) 3 f fd ["one", "other"] (SpF K T 2 phi_both) :=
  def_ok T F sc_both rfl (fun cdv A outer s H E hr => by
    have sc := sc_both
    have tk := XK.takes_of (X := cxOf (XK.CX P w) P w K mg base N_both "both" (defScope s_both) f cdv A outer s H E) rfl rfl rfl rfl
    have hx := passK tk
    exact (ds_cons (ds_set (i := 2) sc.nd rfl (by first | exact Or.inl rfl | exact Or.inr rfl) (de_lst da_nil)) (ds_cons (ds_set (i := 3) sc.nd rfl (by first | exact Or.inl rfl | exact Or.inr rfl) (de_fn G_laid hr (by decide) rfl hx (da_cons (de_var (pv 1)) da_nil))) (ds_cons (ds_for PassesOwn.leaving rfl (di_seq (de_fn G_laid hr (by decide) rfl hx (da_cons (de_var (pv 0)) da_nil))) (dg_many (is := [4, 5]) rfl (pgs_cons (pg_name (i := 4) sc.nd rfl (by first | exact Or.inl rfl | exact Or.inr rfl)) (pgs_cons (pg_name (i := 5) sc.nd rfl (by first | exact Or.inl rfl | exact Or.inr rfl)) pgs_nil))) (ds_one (ds_fz (i := 3) (ds_for PassesOwn.leaving rfl (di_seq (de_var (pv 3))) (dg_many (is := [6, 7]) rfl (pgs_cons (pg_name (i := 6) sc.nd rfl (by first | exact Or.inl rfl | exact Or.inr rfl)) (pgs_cons (pg_name (i := 7) sc.nd rfl (by first | exact Or.inl rfl | exact Or.inr rfl)) pgs_nil))) (ds_one (ds_if (dt_cmp op_lt good_lt (de_callB (call_max2 rfl) good_max2 rfl X.b_max bt_max (da_cons (de_var (pv 4)) (da_cons (de_var (pv 6)) da_nil))) (de_callB (call_min2 rfl) good_min2 rfl X.b_min bt_min (da_cons (de_var (pv 5)) (da_cons (de_var (pv 7)) da_nil))) (nomark _)) (ds_one (ds_mut PySem.F.slot_list_append PySem.F.type_list_append mt_append good_append (pv 2) (da_cons (de_tup (da_cons (de_callB (call_max2 rfl) good_max2 rfl X.b_max bt_max (da_cons (de_var (pv 4)) (da_cons (de_var (pv 6)) da_nil))) (da_cons (de_callB (call_min2 rfl) good_min2 rfl X.b_min bt_min (da_cons (de_var (pv 5)) (da_cons (de_var (pv 7)) da_nil))) da_nil))) da_nil))) ds_nil)))))) (ds_one (ds_ret (de_var (pv 2))))))))
abbrev s_cut : Stmt := top 23
abbrev V_cut : List V := []
abbrev N_cut : List Str := ["row", "begin", "end"]
theorem sc_cut : FnScope N_cut ["row", "begin", "end"] (defScope s_cut) := ⟨rfl, rfl, rfl, by decide +kernel, rfl, by decide +kernel, by decide +kernel⟩
def b_cut : FS := fSeq (fIte (fT (f2 gLe (fVar 2) (fVar 1))) (fSeq (fDrop (fCall 1 phi_need_spans [] (aCons (fVar 0) aNil))) (fRet (fLst aNil))) fSkip) (fRet (fCall 2 phi_both [] (aCons (fVar 0) (aCons (fLst (aCons (fTup (aCons (fVar 1) (aCons (fVar 2) aNil))) aNil)) aNil))))
def phi_cut : List D → Res SV := runF 3 b_cut
theorem ok_cut {f : Addr} {fd : FuncData} (X : Tx K mg T) (G_both : Fnc P w K mg base (XK.CX P w) T 3 "both" 2 phi_both []) (G_need_spans : Fnc P w K mg base (XK.CX P w) T 1 "need_spans" 1 phi_need_spans []) (F : FnP K "cut" s_cut V_cut f fd) : FnOk P w K mg base (XK.CX P w) 4 f fd ["row", "begin", "end"] (SpF K T 3 phi_cut) :=
  def_ok T F sc_cut rfl (fun cdv A outer s H E hr => by
    have sc := sc_cut
    have tk := XK.takes_of (X := cxOf (XK.CX P w) P w K mg base N_cut "cut" (defScope s_cut) f cdv A outer s H E) rfl rfl rfl rfl
    have hx := passK tk
    exact (ds_cons (ds_if (dt_cmp op_le good_le (de_var (pv 2)) (de_var (pv 1)) (nomark _)) (ds_cons (ds_expr (de_fn G_need_spans hr (by decide) rfl hx (da_cons (de_var (pv 0)) da_nil))) (ds_one (ds_ret (de_lst da_nil)))) ds_nil) (ds_one (ds_ret (de_fn G_both hr (by decide) rfl hx (da_cons (de_var (pv 0)) (da_cons (de_lst (da_cons (de_tup (da_cons (de_var (pv 1)) (da_cons (de_var (pv 2)) da_nil))) da_nil)) da_nil)))))))
abbrev s_taken : Stmt := top 24
abbrev V_taken : List V := []
abbrev N_taken : List Str := ["row", "begin", "end"]
theorem sc_taken : FnScope N_taken ["row"] (defScope s_taken) := ⟨rfl, rfl, rfl, by decide +kernel, rfl, by decide +kernel, by decide +kernel⟩
def b_taken : FS := (fRet (fN gSum (aCons (fLc (iSeq (fCall 1 phi_laid [] (aCons (fVar 0) aNil))) (tgMany [1, 2]) fYes (f2 gSub (fVar 2) (fVar 1)) [1, 2]) aNil)))
def phi_taken : List D → Res SV := runF 3 b_taken
theorem ok_taken {f : Addr} {fd : FuncData} (X : Tx K mg T) (G_laid : Fnc P w K mg base (XK.CX P w) T 2 "laid" 1 phi_laid []) (F : FnP K "taken" s_taken V_taken f fd) : FnOk P w K mg base (XK.CX P w) 3 f fd ["row"] (SpF K T 1 phi_taken) :=
  def_ok T F sc_taken rfl (fun cdv A outer s H E hr => by
    have sc := sc_taken
    have tk := XK.takes_of (X := cxOf (XK.CX P w) P w K mg base N_taken "taken" (defScope s_taken) f cdv A outer s H E) rfl rfl rfl rfl
    have hx := passK tk
    exact (ds_one (ds_ret (de_callB (cr_sum rfl) good_sum rfl X.b_sum bt_sum (da_cons (de_lc (own := [("begin", 1), ("end", 2)]) (is := [1, 2]) (g := (tgMany [1, 2])) (ft := fYes) (fe := (f2 gSub (fVar 2) (fVar 1))) (by decide) rfl sc.nd (di_seq (de_fn G_laid hr (by decide) rfl hx (da_cons (de_var (pv 0)) da_nil))) (blkOk_by (N := N_taken) (sc := defScope s_taken) (by decide +kernel)) (fun _ _ _ _ _ => (dg_many (is := [1, 2]) rfl (pgs_cons (pg_name (i := 1) sc.nd rfl (by first | exact Or.inl rfl | exact Or.inr rfl)) (pgs_cons (pg_name (i := 2) sc.nd rfl (by first | exact Or.inl rfl | exact Or.inr rfl)) pgs_nil)))) (fun _ _ _ _ _ => dts_nil) (fun _ _ _ _ _ => by have hx := @passFK; exact (de_op op_sub good_sub (de_var (pv 2)) (de_var (pv 1))))) da_nil)))))
abbrev s_all_spans : Stmt := top 26
abbrev V_all_spans : List V := []
abbrev N_all_spans : List Str := ["rows", "found", "row"]
theorem sc_all_spans : FnScope N_all_spans ["rows"] (defScope s_all_spans) := ⟨rfl, rfl, rfl, by decide +kernel, rfl, by decide +kernel, by decide +kernel⟩
def b_all_spans : FS := fSeq (fAsg 1 (fLst aNil)) (fSeq (fFor (iSeq (fVar 0)) (tgOne 2) (fSeq (fDrop (fCall 1 phi_need_spans [] (aCons (fVar 2) aNil))) (fMut 1 mExtendA (aCons (fVar 2) aNil)))) (fRet (fVar 1)))
def phi_all_spans : List D → Res SV := runF 3 b_all_spans
theorem ok_all_spans {f : Addr} {fd : FuncData} (X : Tx K mg T) (G_need_spans : Fnc P w K mg base (XK.CX P w) T 1 "need_spans" 1 phi_need_spans []) (F : FnP K "all_spans" s_all_spans V_all_spans f fd) : FnOk P w K mg base (XK.CX P w) 2 f fd ["rows"] (SpF K T 1 phi_all_spans) :=
  def_ok T F sc_all_spans rfl (fun cdv A outer s H E hr => by
    have sc := sc_all_spans
    have tk := XK.takes_of (X := cxOf (XK.CX P w) P w K mg base N_all_spans "all_spans" (defScope s_all_spans) f cdv A outer s H E) rfl rfl rfl rfl
    have hx := passK tk
    exact (ds_cons (ds_set (i := 1) sc.nd rfl (by first | exact Or.inl rfl | exact Or.inr rfl) (de_lst da_nil)) (ds_cons (ds_for PassesOwn.leaving rfl (di_seq (de_var (pv 0))) (dg_one (pg_name (i := 2) sc.nd rfl (by first | exact Or.inl rfl | exact Or.inr rfl))) (ds_cons (ds_expr (de_fn G_need_spans hr (by decide) rfl hx (da_cons (de_var (pv 2)) da_nil))) (ds_one (ds_mut PySem.F.slot_list_extend PySem.F.type_list_extend mt_extendA good_extendA (pv 1) (da_cons (de_var (pv 2)) da_nil))))) (ds_one (ds_ret (de_var (pv 1)))))))
abbrev s_borders : Stmt := top 27
abbrev V_borders : List V := []
abbrev N_borders : List Str := ["laid_rows", "begin", "end", "found", "row", "span"]
theorem sc_borders : FnScope N_borders ["laid_rows", "begin", "end"] (defScope s_borders) := ⟨rfl, rfl, rfl, by decide +kernel, rfl, by decide +kernel, by decide +kernel⟩
def b_borders : FS := fSeq (fAsg 3 (fLst (aCons (fVar 1) (aCons (fVar 2) aNil)))) (fSeq (fFor (iSeq (fVar 0)) (tgOne 4) (fFor (iSeq (fVar 4)) (tgOne 5) (fMut 3 mExtendA (aCons (fVar 5) aNil)))) (fRet (fSoSet (fVar 3))))
def phi_borders : List D → Res SV := runF 6 b_borders
theorem ok_borders {f : Addr} {fd : FuncData} (X : Tx K mg T) (F : FnP K "borders" s_borders V_borders f fd) : FnOk P w K mg base (XK.CX P w) 1 f fd ["laid_rows", "begin", "end"] (SpF K T 3 phi_borders) :=
  def_ok T F sc_borders rfl (fun cdv A outer s H E hr => by
    have sc := sc_borders
    have tk := XK.takes_of (X := cxOf (XK.CX P w) P w K mg base N_borders "borders" (defScope s_borders) f cdv A outer s H E) rfl rfl rfl rfl
    have hx := passK tk
    exact (ds_cons (ds_set (i := 3) sc.nd rfl (by first | exact Or.inl rfl | exact Or.inr rfl) (de_lst (da_cons (de_var (pv 1)) (da_cons (de_var (pv 2)) da_nil)))) (ds_cons (ds_for PassesOwn.leaving rfl (di_seq (de_var (pv 0))) (dg_one (pg_name (i := 4) sc.nd rfl (by first | exact Or.inl rfl | exact Or.inr rfl))) (ds_one (ds_for PassesOwn.leaving rfl (di_seq (de_var (pv 4))) (dg_one (pg_name (i := 5) sc.nd rfl (by first | exact Or.inl rfl | exact Or.inr rfl))) (ds_one (ds_mut PySem.F.slot_list_extend PySem.F.type_list_extend mt_extendA good_extendA (pv 3) (da_cons (de_var (pv 5)) da_nil)))))) (ds_one (ds_ret (de_soSet rfl rfl X.b_sorted rfl X.b_set (de_var (pv 3))))))))
abbrev s_how_many : Stmt := top 28
abbrev V_how_many : List V := []
abbrev N_how_many : List Str := ["laid_rows", "moment", "row", "span"]
theorem sc_how_many : FnScope N_how_many ["laid_rows", "moment"] (defScope s_how_many) := ⟨rfl, rfl, rfl, by decide +kernel, rfl, by decide +kernel, by decide +kernel⟩
def b_how_many : FS := (fRet (fN gLen (aCons (fLc (iSeq (fVar 0)) (tgOne 2) (fT (f2 gNe (fLc (iSeq (fVar 2)) (tgOne 3) (fT (fChain gLe gLt (f2 gIx (fVar 3) (fC (.int 0))) (fVar 1) (f2 gIx (fVar 3) (fC (.int 1))))) (fVar 3) [3]) (fLst aNil))) (fVar 2) [2]) aNil)))
def phi_how_many : List D → Res SV := runF 4 b_how_many
theorem ok_how_many {f : Addr} {fd : FuncData} (X : Tx K mg T) (F : FnP K "how_many" s_how_many V_how_many f fd) : FnOk P w K mg base (XK.CX P w) 1 f fd ["laid_rows", "moment"] (SpF K T 2 phi_how_many) :=
  def_ok T F sc_how_many rfl (fun cdv A outer s H E hr => by
    have sc := sc_how_many
    have tk := XK.takes_of (X := cxOf (XK.CX P w) P w K mg base N_how_many "how_many" (defScope s_how_many) f cdv A outer s H E) rfl rfl rfl rfl
    have hx := passK tk
    exact (ds_one (ds_ret (de_callB call_len good_len rfl X.b_len bt_len (da_cons (de_lc (own := [("row", 2)]) (is := [2]) (g := (tgOne 2)) (ft := (fT (f2 gNe (fLc (iSeq (fVar 2)) (tgOne 3) (fT (fChain gLe gLt (f2 gIx (fVar 3) (fC (.int 0))) (fVar 1) (f2 gIx (fVar 3) (fC (.int 1))))) (fVar 3) [3]) (fLst aNil)))) (fe := (fVar 2)) (by decide) rfl sc.nd (di_seq (de_var (pv 0))) (blkOk_by (N := N_how_many) (sc := defScope s_how_many) (by decide +kernel)) (fun _ _ _ _ _ => (dg_one (pg_name (i := 2) sc.nd rfl (by first | exact Or.inl rfl | exact Or.inr rfl)))) (fun _ _ _ _ _ => by have hx := @passFK; exact (dts_one (dt_cmp (op_neA hr.units) good_ne (de_lc (own := [("span", 3)]) (is := [3]) (g := (tgOne 3)) (ft := (fT (fChain gLe gLt (f2 gIx (fVar 3) (fC (.int 0))) (fVar 1) (f2 gIx (fVar 3) (fC (.int 1)))))) (fe := (fVar 3)) (by decide) rfl sc.nd (di_seq (de_var (pv 2))) (blkOk_by (by kernel_rfl)) (fun _ _ _ _ _ => (dg_one (pg_name (i := 3) sc.nd rfl (by first | exact Or.inl rfl | exact Or.inr rfl)))) (fun _ _ _ _ _ => by have hx := @passFK; exact (dts_one (dt_chain op_le op_lt good_le good_lt (de_ix ix_seq good_ix (de_var (pv 3)) de_int (fun _ _ => rfl)) (de_var (pv 1)) (de_ix ix_seq good_ix (de_var (pv 3)) de_int (fun _ _ => rfl))))) (fun _ _ _ _ _ => by have hx := @passFK; exact (de_var (pv 3)))) (de_lst da_nil) (nomark _)))) (fun _ _ _ _ _ => by have hx := @passFK; exact (de_var (pv 2)))) da_nil)))))
abbrev s_crowd : Stmt := top 29
abbrev V_crowd : List V := []
abbrev N_crowd : List Str := ["rows", "begin", "end", "inner", "found", "marks", "first", "last", "number", "row"]
theorem sc_crowd : FnScope N_crowd ["rows", "begin", "end"] (defScope s_crowd) := ⟨rfl, rfl, rfl, by decide +kernel, rfl, by decide +kernel, by decide +kernel⟩
def b_crowd : FS := fSeq (fAsg 3 (fLcX (iSeq (fVar 0)) (tgOne 9) fYes (fCall 3 phi_cut [] (aCons (fVar 9) (aCons (fVar 1) (aCons (fVar 2) aNil)))) [9])) (fSeq (fIte (fT (f2 gLe (fVar 2) (fVar 1))) (fRet (fLst aNil)) fSkip) (fSeq (fAsg 4 (fLst aNil)) (fSeq (fFz 3 (fAsg 5 (fCall 3 phi_borders [] (aCons (fVar 3) (aCons (fVar 1) (aCons (fVar 2) aNil)))))) (fSeq (fFz 5 (fFor (iZip (aCons (fVar 5) (aCons (fSl (fVar 5) (some (fC (.int 1))) none) aNil))) (tgMany [6, 7]) (fSeq (fAsg 8 (fCall 2 phi_how_many [] (aCons (fVar 3) (aCons (fVar 6) aNil)))) (fIte (fAnd (fT (f2 gNe (fVar 4) (fLst aNil))) (fT (f2 gEq (f2 gIx (f2 gIx (fVar 4) (f1 gNeg (fC (.int 1)))) (fC (.int 2))) (fVar 8)))) (fSetIx 4 (f1 gNeg (fC (.int 1))) (fTup (aCons (f2 gIx (f2 gIx (fVar 4) (f1 gNeg (fC (.int 1)))) (fC (.int 0))) (aCons (fVar 7) (aCons (fVar 8) aNil))))) (fMut 4 mAppend (aCons (fTup (aCons (fVar 6) (aCons (fVar 7) (aCons (fVar 8) aNil)))) aNil)))))) (fRet (fVar 4))))))
def phi_crowd : List D → Res SV := runF 10 b_crowd
theorem ok_crowd {f : Addr} {fd : FuncData} (X : Tx K mg T) (G_borders : Fnc P w K mg base (XK.CX P w) T 1 "borders" 3 phi_borders []) (G_cut : Fnc P w K mg base (XK.CX P w) T 4 "cut" 3 phi_cut []) (G_how_many : Fnc P w K mg base (XK.CX P w) T 1 "how_many" 2 phi_how_many []) (F : FnP K "crowd" s_crowd V_crowd f fd) : FnOk P w K mg base (XK.CX P w) 5 f fd ["rows", "begin", "end"] (SpF K T 3 phi_crowd) :=
  def_ok T F sc_crowd rfl (fun cdv A outer s H E hr => by
    have sc := sc_crowd
    have tk := XK.takes_of (X := cxOf (XK.CX P w) P w K mg base N_crowd "crowd" (defScope s_crowd) f cdv A outer s H E) rfl rfl rfl rfl
    have hx := passK tk
    exact (ds_cons (ds_setLcx (i := 3) (own := [("row", 9)]) (is := [9]) (g := (tgOne 9)) (ft := fYes) (fe := (fCall 3 phi_cut [] (aCons (fVar 9) (aCons (fVar 1) (aCons (fVar 2) aNil))))) (by decide) rfl rfl tk rfl sc.nd rfl rfl (sw_true rfl rfl rfl (by decide +kernel)) (di_seq (de_var (pv 0))) (blkOk_by (N := N_crowd) (sc := defScope s_crowd) (by decide +kernel)) (fun _ _ _ _ _ => (dg_one (pg_name (i := 9) sc.nd rfl (by first | exact Or.inl rfl | exact Or.inr rfl)))) (fun _ _ _ _ _ => dts_nil) (fun _ _ _ _ _ xe Wb tk => by have hx := passK tk; exact (de_fn G_cut hr (by decide) rfl hx (da_cons (de_var (pv 9)) (da_cons (de_var (pv 1)) (da_cons (de_var (pv 2)) da_nil)))))) (ds_cons (ds_if (dt_cmp op_le good_le (de_var (pv 2)) (de_var (pv 1)) (nomark _)) (ds_one (ds_ret (de_lst da_nil))) ds_nil) (ds_cons (ds_set (i := 4) sc.nd rfl (by first | exact Or.inl rfl | exact Or.inr rfl) (de_lst da_nil)) (ds_cons (ds_fz (i := 3) (ds_set (i := 5) sc.nd rfl (by first | exact Or.inl rfl | exact Or.inr rfl) (de_fn G_borders hr (by decide) rfl hx (da_cons (de_var (pv 3)) (da_cons (de_var (pv 1)) (da_cons (de_var (pv 2)) da_nil)))))) (ds_cons (ds_fz (i := 5) (ds_for PassesOwn.leaving rfl (di_zip rfl X.b_zip (da_cons (de_var (pv 5)) (da_cons (de_slice (de_var (pv 5)) (dp_some de_int) dp_none) da_nil))) (dg_many (is := [6, 7]) rfl (pgs_cons (pg_name (i := 6) sc.nd rfl (by first | exact Or.inl rfl | exact Or.inr rfl)) (pgs_cons (pg_name (i := 7) sc.nd rfl (by first | exact Or.inl rfl | exact Or.inr rfl)) pgs_nil))) (ds_cons (ds_set (i := 8) sc.nd rfl (by first | exact Or.inl rfl | exact Or.inr rfl) (de_fn G_how_many hr (by decide) rfl hx (da_cons (de_var (pv 3)) (da_cons (de_var (pv 6)) da_nil)))) (ds_one (ds_if (PW.pt (dw_and (dt_cmp (op_neA hr.units) good_ne (de_var (pv 4)) (de_lst da_nil) (nomark _)) (pw_and1 (dt_cmp (op_eqA hr.units) good_eq (de_ix ix_seq good_ix (de_ix ix_seq good_ix (de_var (pv 4)) (de_un un_neg good_neg de_int) (fun _ _ => rfl)) de_int (fun _ _ => rfl)) (de_var (pv 8)) (nomark _))))) (ds_one (ds_setIx (pv 4) (de_un un_neg good_neg de_int) (de_tup (da_cons (de_ix ix_seq good_ix (de_ix ix_seq good_ix (de_var (pv 4)) (de_un un_neg good_neg de_int) (fun _ _ => rfl)) de_int (fun _ _ => rfl)) (da_cons (de_var (pv 7)) (da_cons (de_var (pv 8)) da_nil)))))) (ds_one (ds_mut PySem.F.slot_list_append PySem.F.type_list_append mt_append good_append (pv 4) (da_cons (de_tup (da_cons (de_var (pv 6)) (da_cons (de_var (pv 7)) (da_cons (de_var (pv 8)) da_nil)))) da_nil)))))))) (ds_one (ds_ret (de_var (pv 4))))))))))
abbrev s_free : Stmt := top 30
abbrev V_free : List V := [.int 1]
abbrev dd_free_1 : List D := [.int 1]
abbrev N_free : List Str := ["rows", "begin", "end", "least", "row", "span"]
theorem sc_free : FnScope N_free ["rows", "begin", "end", "least"] (defScope s_free) := ⟨rfl, rfl, rfl, by decide +kernel, rfl, by decide +kernel, by decide +kernel⟩
def b_free : FS := fSeq (fAsg 4 (fCall 1 phi_all_spans [] (aCons (fVar 0) aNil))) (fSeq (fIte (fT (f2 gLe (fVar 2) (fVar 1))) (fRet (fLst aNil)) fSkip) (fFz 4 (fRet (fLc (iSeq (fCall 2 phi_minus [] (aCons (fLst (aCons (fTup (aCons (fVar 1) (aCons (fVar 2) aNil))) aNil)) (aCons (fVar 4) aNil)))) (tgOne 5) (fT (f2 gGe (f2 gSub (f2 gIx (fVar 5) (fC (.int 1))) (f2 gIx (fVar 5) (fC (.int 0)))) (fVar 3))) (fVar 5) [5]))))
def phi_free : List D → Res SV := runF 6 b_free
theorem ok_free {f : Addr} {fd : FuncData} (X : Tx K mg T) (G_all_spans : Fnc P w K mg base (XK.CX P w) T 2 "all_spans" 1 phi_all_spans []) (G_minus : Fnc P w K mg base (XK.CX P w) T 3 "minus" 2 phi_minus []) (F : FnP K "free" s_free V_free f fd) : FnOk P w K mg base (XK.CX P w) 4 f fd ["rows", "begin", "end", "least"] (SpF K T 4 phi_free) :=
  def_ok T F sc_free rfl (fun cdv A outer s H E hr => by
    have sc := sc_free
    have tk := XK.takes_of (X := cxOf (XK.CX P w) P w K mg base N_free "free" (defScope s_free) f cdv A outer s H E) rfl rfl rfl rfl
    have hx := passK tk
    exact (ds_cons (ds_set (i := 4) sc.nd rfl (by first | exact Or.inl rfl | exact Or.inr rfl) (de_fn G_all_spans hr (by decide) rfl hx (da_cons (de_var (pv 0)) da_nil))) (ds_cons (ds_if (dt_cmp op_le good_le (de_var (pv 2)) (de_var (pv 1)) (nomark _)) (ds_one (ds_ret (de_lst da_nil))) ds_nil) (ds_one (ds_fz (i := 4) (ds_ret (de_lc (own := [("span", 5)]) (is := [5]) (g := (tgOne 5)) (ft := (fT (f2 gGe (f2 gSub (f2 gIx (fVar 5) (fC (.int 1))) (f2 gIx (fVar 5) (fC (.int 0)))) (fVar 3)))) (fe := (fVar 5)) (by decide) rfl sc.nd (di_seq (de_fn G_minus hr (by decide) rfl hx (da_cons (de_lst (da_cons (de_tup (da_cons (de_var (pv 1)) (da_cons (de_var (pv 2)) da_nil))) da_nil)) (da_cons (de_var (pv 4)) da_nil)))) (blkOk_by (N := N_free) (sc := defScope s_free) (by decide +kernel)) (fun _ _ _ _ _ => (dg_one (pg_name (i := 5) sc.nd rfl (by first | exact Or.inl rfl | exact Or.inr rfl)))) (fun _ _ _ _ _ => by have hx := @passFK; exact (dts_one (dt_cmp op_ge good_ge (de_op op_sub good_sub (de_ix ix_seq good_ix (de_var (pv 5)) de_int (fun _ _ => rfl)) (de_ix ix_seq good_ix (de_var (pv 5)) de_int (fun _ _ => rfl))) (de_var (pv 3)) (nomark _)))) (fun _ _ _ _ _ => by have hx := @passFK; exact (de_var (pv 5))))))))))
abbrev s_first_free : Stmt := top 31
abbrev V_first_free : List V := [.int 1]
abbrev dd_first_free_1 : List D := [.int 1]
abbrev N_first_free : List Str := ["rows", "begin", "end", "many", "span"]
theorem sc_first_free : FnScope N_first_free ["rows", "begin", "end", "many"] (defScope s_first_free) := ⟨rfl, rfl, rfl, by decide +kernel, rfl, by decide +kernel, by decide +kernel⟩
def b_first_free : FS := fSeq (fFor (iSeq (fCall 4 phi_free [] (aCons (fVar 0) (aCons (fVar 1) (aCons (fVar 2) (aCons (fVar 3) aNil)))))) (tgOne 4) (fRet (f2 gIx (fVar 4) (fC (.int 0))))) (fRet (fC .non))
def phi_first_free : List D → Res SV := runF 5 b_first_free
theorem ok_first_free {f : Addr} {fd : FuncData} (X : Tx K mg T) (G_free : Fnc P w K mg base (XK.CX P w) T 4 "free" 4 phi_free []) (F : FnP K "first_free" s_first_free V_first_free f fd) : FnOk P w K mg base (XK.CX P w) 5 f fd ["rows", "begin", "end", "many"] (SpF K T 4 phi_first_free) :=
  def_ok T F sc_first_free rfl (fun cdv A outer s H E hr => by
    have sc := sc_first_free
    have tk := XK.takes_of (X := cxOf (XK.CX P w) P w K mg base N_first_free "first_free" (defScope s_first_free) f cdv A outer s H E) rfl rfl rfl rfl
    have hx := passK tk
    exact (ds_cons (ds_for PassesOwn.leaving rfl (di_seq (de_fn G_free hr (by decide) rfl hx (da_cons (de_var (pv 0)) (da_cons (de_var (pv 1)) (da_cons (de_var (pv 2)) (da_cons (de_var (pv 3)) da_nil)))))) (dg_one (pg_name (i := 4) sc.nd rfl (by first | exact Or.inl rfl | exact Or.inr rfl))) (ds_one (ds_ret (de_ix ix_seq good_ix (de_var (pv 4)) de_int (fun _ _ => rfl))))) (ds_one (ds_ret de_non))))
abbrev s__law_cell_at : Stmt := top 33
abbrev V__law_cell_at : List V := []
abbrev N__law_cell_at : List Str := ["script", "k"]
theorem sc__law_cell_at : FnScope N__law_cell_at ["script", "k"] (defScope s__law_cell_at) := ⟨rfl, rfl, rfl, by decide +kernel, rfl, by decide +kernel, by decide +kernel⟩
def b__law_cell_at : FS := fSeq (fIte (fT (f2 gLt (fVar 1) (fN gLen (aCons (fVar 0) aNil)))) (fRet (f2 gIx (fVar 0) (fVar 1))) fSkip) (fRet (fC (.int 0)))
def phi__law_cell_at : List D → Res SV := runF 2 b__law_cell_at
theorem ok__law_cell_at {f : Addr} {fd : FuncData} (X : Tx K mg T) (F : FnP K "_law_cell_at" s__law_cell_at V__law_cell_at f fd) : FnOk P w K mg base (XK.CX P w) 1 f fd ["script", "k"] (SpF K T 2 phi__law_cell_at) :=
  def_ok T F sc__law_cell_at rfl (fun cdv A outer s H E hr => by
    have sc := sc__law_cell_at
    have tk := XK.takes_of (X := cxOf (XK.CX P w) P w K mg base N__law_cell_at "_law_cell_at" (defScope s__law_cell_at) f cdv A outer s H E) rfl rfl rfl rfl
    have hx := passK tk
    exact (ds_cons (ds_if (dt_cmp op_lt good_lt (de_var (pv 1)) (de_callB call_len good_len rfl X.b_len bt_len (da_cons (de_var (pv 0)) da_nil)) (nomark _)) (ds_one (ds_ret (de_ix ix_seq good_ix (de_var (pv 0)) (de_var (pv 1)) (fun _ _ => rfl)))) ds_nil) (ds_one (ds_ret de_int))))
abbrev s__law_mixed : Stmt := top 34
abbrev V__law_mixed : List V := []
abbrev N__law_mixed : List Str := ["cell", "k", "many", "mixed"]
theorem sc__law_mixed : FnScope N__law_mixed ["cell", "k", "many"] (defScope s__law_mixed) := ⟨rfl, rfl, rfl, by decide +kernel, rfl, by decide +kernel, by decide +kernel⟩
def b__law_mixed : FS := fSeq (fAsg 3 (f2 gMod (f2 gMul (f2 gAdd (f2 gAdd (fVar 0) (f2 gMul (fC (.int 7919)) (fVar 1))) (fC (.int 11))) (fC (.int 48271))) (fC (.int 2147483647)))) (fRet (f2 gMod (f2 gDiv (f2 gMod (f2 gMul (fVar 3) (fVar 3)) (fC (.int 1000003))) (fC (.int 7))) (fVar 2)))
def phi__law_mixed : List D → Res SV := runF 4 b__law_mixed
theorem ok__law_mixed {f : Addr} {fd : FuncData} (X : Tx K mg T) (F : FnP K "_law_mixed" s__law_mixed V__law_mixed f fd) : FnOk P w K mg base (XK.CX P w) 1 f fd ["cell", "k", "many"] (SpF K T 3 phi__law_mixed) :=
  def_ok T F sc__law_mixed rfl (fun cdv A outer s H E hr => by
    have sc := sc__law_mixed
    have tk := XK.takes_of (X := cxOf (XK.CX P w) P w K mg base N__law_mixed "_law_mixed" (defScope s__law_mixed) f cdv A outer s H E) rfl rfl rfl rfl
    have hx := passK tk
    exact (ds_cons (ds_set (i := 3) sc.nd rfl (by first | exact Or.inl rfl | exact Or.inr rfl) (de_op op_mod good_mod (de_op op_mulA good_mul (de_op op_addA good_add (de_op op_addA good_add (de_var (pv 0)) (de_op op_mulA good_mul de_int (de_var (pv 1)))) de_int) de_int) de_int)) (ds_one (ds_ret (de_op op_mod good_mod (de_op op_fdivW good_div (de_op op_mod good_mod (de_op op_mulA good_mul (de_var (pv 3)) (de_var (pv 3))) de_int) de_int) (de_var (pv 2)))))))
abbrev s__law_row : Stmt := top 35
abbrev V__law_row : List V := []
abbrev N__law_row : List Str := ["script", "first", "cell", "count", "wide", "far", "row", "k", "own", "begin"]
theorem sc__law_row : FnScope N__law_row ["script", "first", "cell"] (defScope s__law_row) := ⟨rfl, rfl, rfl, by decide +kernel, rfl, by decide +kernel, by decide +kernel⟩
def b__law_row : FS := fSeq (fAsg 3 (f2 gIx (fLst (aCons (fCall 3 phi__law_mixed [] (aCons (fVar 2) (aCons (fC (.int 1)) (aCons (fC (.int 4)) aNil)))) (aCons (fCall 3 phi__law_mixed [] (aCons (fVar 2) (aCons (fC (.int 1)) (aCons (fC (.int 13)) aNil)))) (aCons (fCall 3 phi__law_mixed [] (aCons (fVar 2) (aCons (fC (.int 1)) (aCons (fC (.int 61)) aNil)))) aNil)))) (f2 gDiv (fCall 3 phi__law_mixed [] (aCons (fVar 2) (aCons (fC (.int 2)) (aCons (fC (.int 9)) aNil)))) (fC (.int 4))))) (fSeq (fAsg 4 (f2 gIx (fLst (aCons (fC (.int 9)) (aCons (fC (.int 40)) (aCons (fC (.int 100000)) aNil)))) (fCall 3 phi__law_mixed [] (aCons (fVar 2) (aCons (fC (.int 3)) (aCons (fC (.int 3)) aNil)))))) (fSeq (fAsg 5 (f2 gIx (fLst (aCons (fC (.int 0)) (aCons (fC (.int 0)) (aCons (f1 gNeg (fC (.int 20))) (aCons (f2 gSub (f2 gPow (fC (.int 10)) (fC (.int 20))) (f2 gMod (fVar 2) (f2 gPow (fC (.int 10)) (fC (.int 9))))) (aCons (f1 gNeg (f2 gPow (fC (.int 10)) (fC (.int 20)))) aNil)))))) (fCall 3 phi__law_mixed [] (aCons (fVar 2) (aCons (fC (.int 4)) (aCons (fC (.int 5)) aNil)))))) (fSeq (fAsg 6 (fLst aNil)) (fSeq (fFor (iRg rng1 (aCons (fVar 3) aNil)) (tgOne 7) (fSeq (fAsg 8 (fCall 2 phi__law_cell_at [] (aCons (fVar 0) (aCons (f2 gAdd (fVar 1) (f2 gMod (fVar 7) (fC (.int 18)))) aNil)))) (fSeq (fAsg 9 (f2 gAdd (fVar 5) (fCall 3 phi__law_mixed [] (aCons (fVar 8) (aCons (f2 gAdd (fC (.int 5)) (fVar 7)) (aCons (fVar 4) aNil)))))) (fMut 6 mAppend (aCons (fTup (aCons (fVar 9) (aCons (f2 gAdd (f2 gAdd (fVar 9) (fC (.int 1))) (fCall 3 phi__law_mixed [] (aCons (fVar 8) (aCons (f2 gAdd (fC (.int 70)) (fVar 7)) (aCons (f2 gIx (fLst (aCons (fC (.int 3)) (aCons (fC (.int 12)) (aCons (fVar 4) aNil)))) (fCall 3 phi__law_mixed [] (aCons (fVar 8) (aCons (f2 gAdd (fC (.int 140)) (fVar 7)) (aCons (fC (.int 3)) aNil))))) aNil))))) aNil))) aNil))))) (fRet (fVar 6))))))
def phi__law_row : List D → Res SV := runF 10 b__law_row
theorem ok__law_row {f : Addr} {fd : FuncData} (X : Tx K mg T) (G__law_cell_at : Fnc P w K mg base (XK.CX P w) T 1 "_law_cell_at" 2 phi__law_cell_at []) (G__law_mixed : Fnc P w K mg base (XK.CX P w) T 1 "_law_mixed" 3 phi__law_mixed []) (F : FnP K "_law_row" s__law_row V__law_row f fd) : FnOk P w K mg base (XK.CX P w) 2 f fd ["script", "first", "cell"] (SpF K T 3 phi__law_row) :=
  def_ok T F sc__law_row rfl (fun cdv A outer s H E hr => by
    have sc := sc__law_row
    have tk := XK.takes_of (X := cxOf (XK.CX P w) P w K mg base N__law_row "_law_row" (defScope s__law_row) f cdv A outer s H E) rfl rfl rfl rfl
    have hx := passK tk
    exact (ds_cons (ds_set (i := 3) sc.nd rfl (by first | exact Or.inl rfl | exact Or.inr rfl) (de_ix ix_seq good_ix (de_lst (da_cons (de_fn G__law_mixed hr (by decide) rfl hx (da_cons (de_var (pv 2)) (da_cons de_int (da_cons de_int da_nil)))) (da_cons (de_fn G__law_mixed hr (by decide) rfl hx (da_cons (de_var (pv 2)) (da_cons de_int (da_cons de_int da_nil)))) (da_cons (de_fn G__law_mixed hr (by decide) rfl hx (da_cons (de_var (pv 2)) (da_cons de_int (da_cons de_int da_nil)))) da_nil)))) (de_op op_fdivW good_div (de_fn G__law_mixed hr (by decide) rfl hx (da_cons (de_var (pv 2)) (da_cons de_int (da_cons de_int da_nil)))) de_int) (fun _ _ => rfl))) (ds_cons (ds_set (i := 4) sc.nd rfl (by first | exact Or.inl rfl | exact Or.inr rfl) (de_ix ix_seq good_ix (de_lst (da_cons de_int (da_cons de_int (da_cons de_int da_nil)))) (de_fn G__law_mixed hr (by decide) rfl hx (da_cons (de_var (pv 2)) (da_cons de_int (da_cons de_int da_nil)))) (fun _ _ => rfl))) (ds_cons (ds_set (i := 5) sc.nd rfl (by first | exact Or.inl rfl | exact Or.inr rfl) (de_ix ix_seq good_ix (de_lst (da_cons de_int (da_cons de_int (da_cons (de_un un_neg good_neg de_int) (da_cons (de_op op_sub good_sub (de_op op_pow good_pow de_int de_int) (de_op op_mod good_mod (de_var (pv 2)) (de_op op_pow good_pow de_int de_int))) (da_cons (de_un un_neg good_neg (de_op op_pow good_pow de_int de_int)) da_nil)))))) (de_fn G__law_mixed hr (by decide) rfl hx (da_cons (de_var (pv 2)) (da_cons de_int (da_cons de_int da_nil)))) (fun _ _ => rfl))) (ds_cons (ds_set (i := 6) sc.nd rfl (by first | exact Or.inl rfl | exact Or.inr rfl) (de_lst da_nil)) (ds_cons (ds_for PassesOwn.leaving rfl (di_range1 rfl X.b_range (da_cons (de_var (pv 3)) da_nil)) (dg_one (pg_name (i := 7) sc.nd rfl (by first | exact Or.inl rfl | exact Or.inr rfl))) (ds_cons (ds_set (i := 8) sc.nd rfl (by first | exact Or.inl rfl | exact Or.inr rfl) (de_fn G__law_cell_at hr (by decide) rfl hx (da_cons (de_var (pv 0)) (da_cons (de_op op_addA good_add (de_var (pv 1)) (de_op op_mod good_mod (de_var (pv 7)) de_int)) da_nil)))) (ds_cons (ds_set (i := 9) sc.nd rfl (by first | exact Or.inl rfl | exact Or.inr rfl) (de_op op_addA good_add (de_var (pv 5)) (de_fn G__law_mixed hr (by decide) rfl hx (da_cons (de_var (pv 8)) (da_cons (de_op op_addA good_add de_int (de_var (pv 7))) (da_cons (de_var (pv 4)) da_nil)))))) (ds_one (ds_mut PySem.F.slot_list_append PySem.F.type_list_append mt_append good_append (pv 6) (da_cons (de_tup (da_cons (de_var (pv 9)) (da_cons (de_op op_addA good_add (de_op op_addA good_add (de_var (pv 9)) de_int) (de_fn G__law_mixed hr (by decide) rfl hx (da_cons (de_var (pv 8)) (da_cons (de_op op_addA good_add de_int (de_var (pv 7))) (da_cons (de_ix ix_seq good_ix (de_lst (da_cons de_int (da_cons de_int (da_cons (de_var (pv 4)) da_nil)))) (de_fn G__law_mixed hr (by decide) rfl hx (da_cons (de_var (pv 8)) (da_cons (de_op op_addA good_add de_int (de_var (pv 7))) (da_cons de_int da_nil)))) (fun _ _ => rfl)) da_nil))))) da_nil))) da_nil)))))) (ds_one (ds_ret (de_var (pv 6))))))))))
abbrev s__law_asked : Stmt := top 36
abbrev V__law_asked : List V := []
abbrev N__law_asked : List Str := ["way", "row", "rows", "end"]
theorem sc__law_asked : FnScope N__law_asked ["way", "row", "rows", "end"] (defScope s__law_asked) := ⟨rfl, rfl, rfl, by decide +kernel, rfl, by decide +kernel, by decide +kernel⟩
def b__law_asked : FS := fSeq (fIte (fT (f2 gEq (fVar 0) (fC (.int 0)))) (fRet (fCall 1 phi_laid [] (aCons (fVar 1) aNil))) fSkip) (fSeq (fIte (fT (f2 gEq (fVar 0) (fC (.int 1)))) (fRet (fCall 2 phi_minus [] (aCons (fVar 1) (aCons (fLst (aCons (fTup (aCons (fC (.int 0)) (aCons (fC (.int 9)) aNil))) aNil)) aNil)))) fSkip) (fSeq (fIte (fT (f2 gEq (fVar 0) (fC (.int 2)))) (fRet (fCall 2 phi_minus [] (aCons (fLst (aCons (fTup (aCons (fC (.int 0)) (aCons (fC (.int 9)) aNil))) aNil)) (aCons (fVar 1) aNil)))) fSkip) (fSeq (fIte (fT (f2 gEq (fVar 0) (fC (.int 3)))) (fRet (fCall 2 phi_both [] (aCons (fVar 1) (aCons (fLst (aCons (fTup (aCons (fC (.int 0)) (aCons (fC (.int 9)) aNil))) aNil)) aNil)))) fSkip) (fSeq (fIte (fT (f2 gEq (fVar 0) (fC (.int 4)))) (fRet (fCall 2 phi_both [] (aCons (fLst aNil) (aCons (fVar 1) aNil)))) fSkip) (fSeq (fIte (fT (f2 gEq (fVar 0) (fC (.int 10)))) (fRet (fCall 2 phi_both [] (aCons (fLst (aCons (fTup (aCons (fC (.int 0)) (aCons (fC (.int 9)) aNil))) aNil)) (aCons (fVar 1) aNil)))) fSkip) (fSeq (fIte (fT (f2 gEq (fVar 0) (fC (.int 5)))) (fRet (fCall 3 phi_cut [] (aCons (fVar 1) (aCons (fC (.int 0)) (aCons (fVar 3) aNil))))) fSkip) (fSeq (fIte (fT (f2 gEq (fVar 0) (fC (.int 6)))) (fRet (fCall 1 phi_taken [] (aCons (fVar 1) aNil))) fSkip) (fSeq (fIte (fT (f2 gEq (fVar 0) (fC (.int 7)))) (fRet (fCall 3 phi_crowd [] (aCons (fVar 2) (aCons (fC (.int 0)) (aCons (fVar 3) aNil))))) fSkip) (fSeq (fIte (fT (f2 gEq (fVar 0) (fC (.int 8)))) (fRet (fCall 4 phi_free dd_free_1 (aCons (fVar 2) (aCons (fC (.int 0)) (aCons (fVar 3) aNil))))) fSkip) (fRet (fCall 4 phi_first_free dd_first_free_1 (aCons (fVar 2) (aCons (fC (.int 0)) (aCons (fVar 3) aNil))))))))))))))
def phi__law_asked : List D → Res SV := runF 4 b__law_asked
theorem ok__law_asked {f : Addr} {fd : FuncData} (X : Tx K mg T) (G_both : Fnc P w K mg base (XK.CX P w) T 3 "both" 2 phi_both []) (G_crowd : Fnc P w K mg base (XK.CX P w) T 5 "crowd" 3 phi_crowd []) (G_cut : Fnc P w K mg base (XK.CX P w) T 4 "cut" 3 phi_cut []) (G_first_free_1 : Fnc P w K mg base (XK.CX P w) T 5 "first_free" 4 phi_first_free dd_first_free_1) (G_free_1 : Fnc P w K mg base (XK.CX P w) T 4 "free" 4 phi_free dd_free_1) (G_laid : Fnc P w K mg base (XK.CX P w) T 2 "laid" 1 phi_laid []) (G_minus : Fnc P w K mg base (XK.CX P w) T 3 "minus" 2 phi_minus []) (G_taken : Fnc P w K mg base (XK.CX P w) T 3 "taken" 1 phi_taken []) (F : FnP K "_law_asked" s__law_asked V__law_asked f fd) : FnOk P w K mg base (XK.CX P w) 6 f fd ["way", "row", "rows", "end"] (SpF K T 4 phi__law_asked) :=
  def_ok T F sc__law_asked rfl (fun cdv A outer s H E hr => by
    have sc := sc__law_asked
    have tk := XK.takes_of (X := cxOf (XK.CX P w) P w K mg base N__law_asked "_law_asked" (defScope s__law_asked) f cdv A outer s H E) rfl rfl rfl rfl
    have hx := passK tk
    exact (ds_cons (ds_if (dt_cmp (op_eqA hr.units) good_eq (de_var (pv 0)) de_int (nomark _)) (ds_one (ds_ret (de_fn G_laid hr (by decide) rfl hx (da_cons (de_var (pv 1)) da_nil)))) ds_nil) (ds_cons (ds_if (dt_cmp (op_eqA hr.units) good_eq (de_var (pv 0)) de_int (nomark _)) (ds_one (ds_ret (de_fn G_minus hr (by decide) rfl hx (da_cons (de_var (pv 1)) (da_cons (de_lst (da_cons (de_tup (da_cons de_int (da_cons de_int da_nil))) da_nil)) da_nil))))) ds_nil) (ds_cons (ds_if (dt_cmp (op_eqA hr.units) good_eq (de_var (pv 0)) de_int (nomark _)) (ds_one (ds_ret (de_fn G_minus hr (by decide) rfl hx (da_cons (de_lst (da_cons (de_tup (da_cons de_int (da_cons de_int da_nil))) da_nil)) (da_cons (de_var (pv 1)) da_nil))))) ds_nil) (ds_cons (ds_if (dt_cmp (op_eqA hr.units) good_eq (de_var (pv 0)) de_int (nomark _)) (ds_one (ds_ret (de_fn G_both hr (by decide) rfl hx (da_cons (de_var (pv 1)) (da_cons (de_lst (da_cons (de_tup (da_cons de_int (da_cons de_int da_nil))) da_nil)) da_nil))))) ds_nil) (ds_cons (ds_if (dt_cmp (op_eqA hr.units) good_eq (de_var (pv 0)) de_int (nomark _)) (ds_one (ds_ret (de_fn G_both hr (by decide) rfl hx (da_cons (de_lst da_nil) (da_cons (de_var (pv 1)) da_nil))))) ds_nil) (ds_cons (ds_if (dt_cmp (op_eqA hr.units) good_eq (de_var (pv 0)) de_int (nomark _)) (ds_one (ds_ret (de_fn G_both hr (by decide) rfl hx (da_cons (de_lst (da_cons (de_tup (da_cons de_int (da_cons de_int da_nil))) da_nil)) (da_cons (de_var (pv 1)) da_nil))))) ds_nil) (ds_cons (ds_if (dt_cmp (op_eqA hr.units) good_eq (de_var (pv 0)) de_int (nomark _)) (ds_one (ds_ret (de_fn G_cut hr (by decide) rfl hx (da_cons (de_var (pv 1)) (da_cons de_int (da_cons (de_var (pv 3)) da_nil)))))) ds_nil) (ds_cons (ds_if (dt_cmp (op_eqA hr.units) good_eq (de_var (pv 0)) de_int (nomark _)) (ds_one (ds_ret (de_fn G_taken hr (by decide) rfl hx (da_cons (de_var (pv 1)) da_nil)))) ds_nil) (ds_cons (ds_if (dt_cmp (op_eqA hr.units) good_eq (de_var (pv 0)) de_int (nomark _)) (ds_one (ds_ret (de_fn G_crowd hr (by decide) rfl hx (da_cons (de_var (pv 2)) (da_cons de_int (da_cons (de_var (pv 3)) da_nil)))))) ds_nil) (ds_cons (ds_if (dt_cmp (op_eqA hr.units) good_eq (de_var (pv 0)) de_int (nomark _)) (ds_one (ds_ret (de_fn G_free_1 hr (by decide) rfl hx (da_cons (de_var (pv 2)) (da_cons de_int (da_cons (de_var (pv 3)) da_nil)))))) ds_nil) (ds_one (ds_ret (de_fn G_first_free_1 hr (by decide) rfl hx (da_cons (de_var (pv 2)) (da_cons de_int (da_cons (de_var (pv 3)) da_nil)))))))))))))))))
abbrev s__law_alone : Stmt := top 37
abbrev V__law_alone : List V := []
abbrev N__law_alone : List Str := ["e"]
theorem sc__law_alone : FnScope N__law_alone ["e"] (defScope s__law_alone) := ⟨rfl, rfl, rfl, by decide +kernel, rfl, by decide +kernel, by decide +kernel⟩
def b__law_alone (a : Addr) (m : Nat) : FS := fSeq (fIte (fOr (fT (fIsXs usX isXs a m [14, 13, 8, 7] (fVar 0))) (fT (fIsXs usX isXs a m [1, 10, 9, 12] (fVar 0)))) (fRet (fC (.bl false))) fSkip) (fSeq (fIte (fOr (fT (fIsXs usX isXs a m [4, 3, 2] (fVar 0))) (fT (fIsXs usX isXs a m [6, 11] (fVar 0)))) (fRet (fC (.bl false))) fSkip) (fRet (fAndV (fIsX usX isXs a m 5 (fVar 0)) (fIsX usX isXs a m 15 (fVar 0)))))
def phi__law_alone (a : Addr) (m : Nat) : List D → Res SV := runF 1 (b__law_alone a m)
theorem ok__law_alone {f : Addr} {fd : FuncData} (X : Tx K mg T) (F : FnP K "_law_alone" s__law_alone V__law_alone f fd) : FnX P w K mg base 1 f fd ["e"] (SpX K T 1 phi__law_alone) :=
  hot_ok (fb := b__law_alone) T F sc__law_alone rfl (fun _ _ => rfl) (fun cdv A outer s H p m hr hpx => by
    have sc := sc__law_alone
    have hx := @passFK
    exact (ds_cons (ds_if (PW.pt (dw_or (dt_val (de_isXs X.xx (by decide) (by decide +kernel) hpx rfl X.b_isinstance (.cons (.own (by decide) rfl X.g_Busy (by decide)) (.cons (.own (by decide) rfl X.g_Closed (by decide)) (.cons (.own (by decide) rfl X.g_Full (by decide)) (.cons (.own (by decide) rfl X.g_Known (by decide)) .nil)))) (de_var (pv 0)))) (pw_or1 (dt_val (de_isXs X.xx (by decide) (by decide +kernel) hpx rfl X.b_isinstance (.cons (.own (by decide) rfl X.g_NoDay (by decide)) (.cons (.own (by decide) rfl X.g_NoHand (by decide)) (.cons (.own (by decide) rfl X.g_NoLetter (by decide)) (.cons (.own (by decide) rfl X.g_NoMeeting (by decide)) .nil)))) (de_var (pv 0))))))) (ds_one (ds_ret de_bl)) ds_nil) (ds_cons (ds_if (PW.pt (dw_or (dt_val (de_isXs X.xx (by decide) (by decide +kernel) hpx rfl X.b_isinstance (.cons (.own (by decide) rfl X.g_NoPlace (by decide)) (.cons (.own (by decide) rfl X.g_NoRule (by decide)) (.cons (.own (by decide) rfl X.g_NoText (by decide)) .nil))) (de_var (pv 0)))) (pw_or1 (dt_val (de_isXs X.xx (by decide) (by decide +kernel) hpx rfl X.b_isinstance (.cons (.own (by decide) rfl X.g_NoThing (by decide)) (.cons (.own (by decide) rfl X.g_NoWord (by decide)) .nil)) (de_var (pv 0))))))) (ds_one (ds_ret de_bl)) ds_nil) (ds_one (ds_ret (de_and (de_isX X.xx hpx rfl X.b_isinstance (.own (by decide) rfl X.g_NoSpan (by decide)) (de_var (pv 0))) (pe_one (de_isX X.xx hpx rfl X.b_isinstance (.ve rfl rfl X.b_ValueError) (de_var (pv 0))))))))))
abbrev s__law_refused : Stmt := top 38
abbrev V__law_refused : List V := []
abbrev N__law_refused : List Str := ["way", "row", "rows", "end", "e"]
theorem sc__law_refused : FnScope N__law_refused ["way", "row", "rows", "end"] (defScope s__law_refused) := ⟨rfl, rfl, rfl, by decide +kernel, rfl, by decide +kernel, by decide +kernel⟩
def b__law_refused : FS := fSeq (fTryN (clauseK usX 0) 4 (fDrop (fCall 4 phi__law_asked [] (aCons (fVar 0) (aCons (fVar 1) (aCons (fVar 2) (aCons (fVar 3) aNil)))))) (fun a m => (fRet (fCallX 1 (phi__law_alone a m) (aCons (fVar 4) aNil)))) fSkip) (fRet (fC (.bl false)))
def phi__law_refused : List D → Res SV := runF 5 b__law_refused
theorem ok__law_refused {f : Addr} {fd : FuncData} (X : Tx K mg T) (G__law_alone : Fnx P w K mg base T 1 "_law_alone" 1 phi__law_alone) (G__law_asked : Fnc P w K mg base (XK.CX P w) T 6 "_law_asked" 4 phi__law_asked []) (F : FnP K "_law_refused" s__law_refused V__law_refused f fd) : FnOk P w K mg base (XK.CX P w) 7 f fd ["way", "row", "rows", "end"] (SpF K T 4 phi__law_refused) :=
  def_ok T F sc__law_refused rfl (fun cdv A outer s H E hr => by
    have sc := sc__law_refused
    have tk := XK.takes_of (X := cxOf (XK.CX P w) P w K mg base N__law_refused "_law_refused" (defScope s__law_refused) f cdv A outer s H E) rfl rfl rfl rfl
    have hx := passK tk
    exact (ds_cons (ds_tryN (i := 4) rfl rfl sc.nd rfl rfl tk ⟨rfl, by decide, .inl X.g_HouseError⟩ (clauseK_ok X.xx (by decide)) (fun W pn xe tk hp => by have hx := passK tk; exact (ds_one (ds_expr (de_fn G__law_asked hr (by decide) rfl hx (da_cons (de_var (pv 0)) (da_cons (de_var (pv 1)) (da_cons (de_var (pv 2)) (da_cons (de_var (pv 3)) da_nil)))))))) (fun a m pn hpx => by have hx := @passFK; exact (ds_one (ds_ret (de_fnX G__law_alone (roomX hr _) (by decide) hpx rfl (da_cons (de_var (pv 4)) da_nil))))) ds_nil) (ds_one (ds_ret de_bl))))
abbrev s_law : Stmt := top 39
abbrev V_law : List V := []
abbrev N_law : List Str := ["script", "good", "cell", "at", "begin", "row", "place", "way", "end", "others", "rows", "copies", "one"]
theorem sc_law : FnScope N_law ["script"] (defScope s_law) := ⟨rfl, rfl, rfl, by decide +kernel, rfl, by decide +kernel, by decide +kernel⟩
def b_law : FS := fSeq (fAsg 1 (fCall 3 phi__law_row [] (aCons (fVar 0) (aCons (fC (.int 4)) (aCons (fCall 2 phi__law_cell_at [] (aCons (fVar 0) (aCons (fC (.int 0)) aNil))) aNil))))) (fSeq (fAsg 2 (fCall 2 phi__law_cell_at [] (aCons (fVar 0) (aCons (fC (.int 1)) aNil)))) (fSeq (fAsg 3 (fCall 3 phi__law_mixed [] (aCons (fVar 2) (aCons (fC (.int 150)) (aCons (f2 gAdd (fN gLen (aCons (fVar 1) aNil)) (fC (.int 1))) aNil))))) (fSeq (fAsg 4 (f2 gIx (fLst (aCons (fCall 3 phi__law_mixed [] (aCons (fVar 2) (aCons (fC (.int 151)) (aCons (fC (.int 9)) aNil)))) (aCons (f1 gNeg (f2 gPow (fC (.int 10)) (fC (.int 12)))) (aCons (f2 gPow (fC (.int 10)) (fC (.int 12))) aNil)))) (fCall 3 phi__law_mixed [] (aCons (fVar 2) (aCons (fC (.int 152)) (aCons (fC (.int 3)) aNil)))))) (fSeq (fAsg 5 (f2 gAdd (f2 gAdd (fSl (fVar 1) none (some (fVar 3))) (fLst (aCons (fTup (aCons (fVar 4) (aCons (f2 gSub (fVar 4) (f2 gIx (fLst (aCons (fC (.int 0)) (aCons (fC (.int 1)) (aCons (fCall 3 phi__law_mixed [] (aCons (fVar 2) (aCons (fC (.int 153)) (aCons (fC (.int 30)) aNil)))) aNil)))) (fCall 3 phi__law_mixed [] (aCons (fVar 2) (aCons (fC (.int 154)) (aCons (fC (.int 3)) aNil)))))) aNil))) aNil))) (fSl (fVar 1) (some (fVar 3)) none))) (fSeq (fAsg 6 (fCall 3 phi__law_mixed [] (aCons (fVar 2) (aCons (fC (.int 155)) (aCons (fC (.int 3)) aNil))))) (fSeq (fAsg 7 (fCall 3 phi__law_mixed [] (aCons (fCall 2 phi__law_cell_at [] (aCons (fVar 0) (aCons (fC (.int 2)) aNil))) (aCons (fC (.int 156)) (aCons (fC (.int 11)) aNil))))) (fSeq (fAsg 8 (f2 gSub (fCall 3 phi__law_mixed [] (aCons (fCall 2 phi__law_cell_at [] (aCons (fVar 0) (aCons (fC (.int 3)) aNil))) (aCons (fC (.int 157)) (aCons (fC (.int 9)) aNil)))) (fC (.int 2)))) (fSeq (fAsg 9 (fLst (aCons (fLst (aCons (fTup (aCons (fC (.int 0)) (aCons (fC (.int 4)) aNil))) aNil)) (aCons (fLst aNil) aNil)))) (fSeq (fFz 5 (fAsg 10 (f2 gAdd (f2 gAdd (fSl (fVar 9) none (some (fVar 6))) (fLst (aCons (fVar 5) aNil))) (fSl (fVar 9) (some (fVar 6)) none)))) (fFz 10 (fCp 11 (iSeq (fVar 10)) (tgOne 12) (fN gList (aCons (fVar 12) aNil)) [12] (fOr (fNot (fT (fCall 4 phi__law_refused [] (aCons (fVar 7) (aCons (f2 gIx (fVar 11) (fVar 6)) (aCons (fVar 11) (aCons (fVar 8) aNil))))))) (fT (f2 gNe (fVar 11) (fVar 10)))) (fRet (fC (.bl false))) (fVar 6) (fVar 3) (fSeq (fFz 11 (fDrop (fCall 4 phi__law_asked [] (aCons (fVar 7) (aCons (f2 gIx (fVar 11) (fVar 6)) (aCons (fVar 11) (aCons (fVar 8) aNil))))))) (fRet (fAndV (f2 gEq (f2 gIx (fVar 11) (fVar 6)) (fVar 1)) (fNotV (fCall 4 phi__law_refused [] (aCons (fVar 7) (aCons (fVar 1) (aCons (fVar 9) (aCons (fVar 8) aNil))))))))))))))))))))
def phi_law : List D → Res SV := runF 13 b_law
theorem ok_law {f : Addr} {fd : FuncData} (X : Tx K mg T) (G__law_asked : Fnc P w K mg base (XK.CX P w) T 6 "_law_asked" 4 phi__law_asked []) (G__law_cell_at : Fnc P w K mg base (XK.CX P w) T 1 "_law_cell_at" 2 phi__law_cell_at []) (G__law_mixed : Fnc P w K mg base (XK.CX P w) T 1 "_law_mixed" 3 phi__law_mixed []) (G__law_refused : Fnc P w K mg base (XK.CX P w) T 7 "_law_refused" 4 phi__law_refused []) (G__law_row : Fnc P w K mg base (XK.CX P w) T 2 "_law_row" 3 phi__law_row []) (F : FnP K "law" s_law V_law f fd) : FnOk P w K mg base CX0 8 f fd ["script"] (SpL K T 1 phi_law) :=
  law_ok T F sc_law rfl (fun cdv A outer s H E hr => by
    have sc := sc_law
    have hx := @passFK
    have hp := @PassesOwn.never
    exact (ds_cons (ds_set (i := 1) sc.nd rfl (by first | exact Or.inl rfl | exact Or.inr rfl) (de_fn G__law_row hr (by decide) rfl hx (da_cons (de_var (pv 0)) (da_cons de_int (da_cons (de_fn G__law_cell_at hr (by decide) rfl hx (da_cons (de_var (pv 0)) (da_cons de_int da_nil))) da_nil))))) (ds_cons (ds_set (i := 2) sc.nd rfl (by first | exact Or.inl rfl | exact Or.inr rfl) (de_fn G__law_cell_at hr (by decide) rfl hx (da_cons (de_var (pv 0)) (da_cons de_int da_nil)))) (ds_cons (ds_set (i := 3) sc.nd rfl (by first | exact Or.inl rfl | exact Or.inr rfl) (de_fn G__law_mixed hr (by decide) rfl hx (da_cons (de_var (pv 2)) (da_cons de_int (da_cons (de_op op_addA good_add (de_callB call_len good_len rfl X.b_len bt_len (da_cons (de_var (pv 1)) da_nil)) de_int) da_nil))))) (ds_cons (ds_set (i := 4) sc.nd rfl (by first | exact Or.inl rfl | exact Or.inr rfl) (de_ix ix_seq good_ix (de_lst (da_cons (de_fn G__law_mixed hr (by decide) rfl hx (da_cons (de_var (pv 2)) (da_cons de_int (da_cons de_int da_nil)))) (da_cons (de_un un_neg good_neg (de_op op_pow good_pow de_int de_int)) (da_cons (de_op op_pow good_pow de_int de_int) da_nil)))) (de_fn G__law_mixed hr (by decide) rfl hx (da_cons (de_var (pv 2)) (da_cons de_int (da_cons de_int da_nil)))) (fun _ _ => rfl))) (ds_cons (ds_set (i := 5) sc.nd rfl (by first | exact Or.inl rfl | exact Or.inr rfl) (de_op op_addA good_add (de_op op_addA good_add (de_slice (de_var (pv 1)) dp_none (dp_some (de_var (pv 3)))) (de_lst (da_cons (de_tup (da_cons (de_var (pv 4)) (da_cons (de_op op_sub good_sub (de_var (pv 4)) (de_ix ix_seq good_ix (de_lst (da_cons de_int (da_cons de_int (da_cons (de_fn G__law_mixed hr (by decide) rfl hx (da_cons (de_var (pv 2)) (da_cons de_int (da_cons de_int da_nil)))) da_nil)))) (de_fn G__law_mixed hr (by decide) rfl hx (da_cons (de_var (pv 2)) (da_cons de_int (da_cons de_int da_nil)))) (fun _ _ => rfl))) da_nil))) da_nil))) (de_slice (de_var (pv 1)) (dp_some (de_var (pv 3))) dp_none))) (ds_cons (ds_set (i := 6) sc.nd rfl (by first | exact Or.inl rfl | exact Or.inr rfl) (de_fn G__law_mixed hr (by decide) rfl hx (da_cons (de_var (pv 2)) (da_cons de_int (da_cons de_int da_nil))))) (ds_cons (ds_set (i := 7) sc.nd rfl (by first | exact Or.inl rfl | exact Or.inr rfl) (de_fn G__law_mixed hr (by decide) rfl hx (da_cons (de_fn G__law_cell_at hr (by decide) rfl hx (da_cons (de_var (pv 0)) (da_cons de_int da_nil))) (da_cons de_int (da_cons de_int da_nil))))) (ds_cons (ds_set (i := 8) sc.nd rfl (by first | exact Or.inl rfl | exact Or.inr rfl) (de_op op_sub good_sub (de_fn G__law_mixed hr (by decide) rfl hx (da_cons (de_fn G__law_cell_at hr (by decide) rfl hx (da_cons (de_var (pv 0)) (da_cons de_int da_nil))) (da_cons de_int (da_cons de_int da_nil)))) de_int)) (ds_cons (ds_set (i := 9) sc.nd rfl (by first | exact Or.inl rfl | exact Or.inr rfl) (de_lst (da_cons (de_lst (da_cons (de_tup (da_cons de_int (da_cons de_int da_nil))) da_nil)) (da_cons (de_lst da_nil) da_nil)))) (ds_cons (ds_fz (i := 5) (ds_set (i := 10) sc.nd rfl (by first | exact Or.inl rfl | exact Or.inr rfl) (de_op op_addA good_add (de_op op_addA good_add (de_slice (de_var (pv 9)) dp_none (dp_some (de_var (pv 6)))) (de_lst (da_cons (de_var (pv 5)) da_nil))) (de_slice (de_var (pv 9)) (dp_some (de_var (pv 6))) dp_none)))) (dss_fz (i := 10) (dss_cp (c := 11) (is := [12]) (vs := [12]) (fi := (iSeq (fVar 10))) (g := (tgOne 12)) (fe := (fN gList (aCons (fVar 12) aNil))) (fc := (fOr (fNot (fT (fCall 4 phi__law_refused [] (aCons (fVar 7) (aCons (f2 gIx (fVar 11) (fVar 6)) (aCons (fVar 11) (aCons (fVar 8) aNil))))))) (fT (f2 gNe (fVar 11) (fVar 10))))) (fb := (fRet (fC (.bl false)))) (fk := (fVar 6)) (fa := (fVar 3)) (by decide) (L2.ps_setLc (i := 11) (own := [("one", 12)]) rfl sc.nd rfl rfl (sw_true rfl rfl rfl (by decide +kernel)) (di_seq (de_var (pv 10))) (blkOk_by (N := N_law) (sc := defScope s_law) (by decide +kernel)) (fun _ _ _ _ _ => (dg_one (pg_name (i := 12) sc.nd rfl (by first | exact Or.inl rfl | exact Or.inr rfl)))) (fun _ _ _ _ _ => dts_nil) (fun _ _ _ _ _ => by have hx := @passFK; exact (de_callTy call_list_of good_list rfl X.b_list bt_list (da_cons (de_var (pv 12)) da_nil)))) (ps_if (PW.pt (dw_or (dt_not (dt_val (de_fn G__law_refused hr (by decide) rfl hx (da_cons (de_var (pv 7)) (da_cons (de_ix ix_seq good_ix (de_var (pv 11)) (de_var (pv 6)) (fun _ _ => rfl)) (da_cons (de_var (pv 11)) (da_cons (de_var (pv 8)) da_nil))))))) (pw_or1 (dt_cmp (op_neA hr.units) good_ne (de_var (pv 11)) (de_var (pv 10)) (nomark _))))) (ds_one (ds_ret de_bl)) pss_nil) (ps_expr (pe_bm PySem.F.plainAttrs_list PySem.F.slot_list_pop PySem.F.type_list_pop mt_popAt (pe_ix ix_seq (pv 11) (de_var (pv 6)) (fun _ _ => rfl)) (pa_cons (de_var (pv 3)) pa_nil rfl))) (ds_cons (ds_fz (i := 11) (ds_expr (de_fn G__law_asked hr (by decide) rfl hx (da_cons (de_var (pv 7)) (da_cons (de_ix ix_seq good_ix (de_var (pv 11)) (de_var (pv 6)) (fun _ _ => rfl)) (da_cons (de_var (pv 11)) (da_cons (de_var (pv 8)) da_nil))))))) (ds_one (ds_ret (de_and (de_cmp (op_eqA hr.units) good_eq (de_ix ix_seq good_ix (de_var (pv 11)) (de_var (pv 6)) (fun _ _ => rfl)) (de_var (pv 1)) (nomark _)) (pe_one (de_not (de_fn G__law_refused hr (by decide) rfl hx (da_cons (de_var (pv 7)) (da_cons (de_var (pv 1)) (da_cons (de_var (pv 9)) (da_cons (de_var (pv 8)) da_nil))))))))))))))))))))))))
end
end
end Lw
end

section
set_option Elab.async false
set_option linter.all false
set_option maxRecDepth 100000
set_option maxHeartbeats 4000000
namespace Lw
open PySem PySem.Spec PyProof.Rows L2 DL SM
local macro_rules | `(tactic| walk_at "ev") => `(tactic| try simp only [runF_eq, slots, List.map_cons, List.map_nil, List.length_cons, List.length_nil, List.cons_append, List.nil_append, Nat.reduceAdd, Nat.reduceSub, List.replicate_succ, List.replicate_zero, fSeq, fAsg, fRet, fRetN, fIte, fVar, fC, f1, f2, fT, fAnd, fOr, fNot, fAndV, fOrV, fNotV, fIf, fV, aNil, aCons, fN, fM, fTup, fLst, fCall, fSkip, fBrk, fCnt, fRaise, fFz, fChain, fSl, fDrop, fUnp, fAug, fFor, iSeq, iRg, dwipe,
  bind_ok, bind_ex, bind_bad, out_ok, out_ex, out_bad, seq_nx, seq_rt, seq_bk, seq_ct, seq_ex, seq_bad, ofO_some, ofO_none, List.getElem?_cons_zero, List.getElem?_cons_succ, List.set_cons_zero, List.set_cons_succ, if_true, if_false, ite_true, ite_false, Bool.true_eq_false, Bool.false_eq_true, Option.map_some, Option.map_none, decide_eq_true_eq, Bool.not_eq_true', decide_eq_false_iff_not, reduceIte, Bool.not_true, Bool.not_false,
  ev_d1, ev_d2, ev_d3, ev_f1, ev_f2, ev_f3, ev_o1, ev_o2, ev_r1, ev_r2, ev_r3, ev_asB, ev_st0, ev_st1, ev_st2, ev_add, ev_addL, ev_addT, ev_aug, ev_sub, ev_mul, mulOk_r, mulOk_l, ev_div, ev_mod, ev_lt, ev_le, ev_gt, ev_ge, ev_neg, ev_eqI, ev_eqS, ev_eqB, ev_neI, ev_neS, ev_neB, ev_isN, ev_isB, ev_ntN, ev_ntB, ev_nn0, ev_nn1, ev_nn2, ev_nn3, ev_nn4, ev_nn5, ev_isi0, ev_isi1, ev_isi2, ev_isi3, ev_isi4, ev_isi5,
  ty_bb, ty_bi, ty_bs, ty_bt, ty_bl, ty_bn, ty_ib, ty_ii, ty_is, ty_it, ty_il, ty_in, ty_sb, ty_si, ty_ss, ty_st, ty_sl, ty_sn, ty_tb, ty_ti, ty_ts, ty_tt, ty_tl, ty_tn, ty_lb, ty_li, ty_ls, ty_lt, ty_ll, ty_ln,
  ev_lenL, ev_lenT, ev_lenR, ev_lenS, ev_intI, ev_intB, ev_strS, ev_max2, ev_min2, ev_abs, ev_listL, ev_listR, ev_listT, ev_tupL, ev_tupT, ev_ixL, ev_ixT, ev_ixR, ev_slL, ev_slR, ev_slT, ev_evP0, ev_evP1, ev_evPC, ev_itL, ev_itR, ev_itT, ev_itS, ev_rg1, ev_rg2, ev_tg1, ev_tgT, ev_tgL, ev_sa0, ev_sa1, ev_dm, ev_ite_bind, ev_ite_out, ev_ite_seq, ev_ite_end, ev_forN, ev_e1, ev_e2, ev_e3, Int.reduceNeg, Int.reducePow, Int.reduceLT, Int.reduceLE, Nat.reducePow, Int.reduceAdd, Int.reduceSub, Int.reduceMul, ev_ixP0, noL_P, noL_B, noL_I, noL_S, noL_N, ev_ixP1, ev_lenP, ev_isiP, fMut, fSetIx, Int.reduceEq, eq_self, ev_line, Nat.reduceLeDiff, not_true_eq_false, not_false_eq_true, decide_true, decide_false, Bool.true_or, Bool.false_or, Bool.true_and, Bool.false_and, Bool.and_true, Bool.or_true, Bool.and_false, Bool.or_false, ite_self, Nat.reduceBEq, beq_self_eq_true, Bool.true_or, Bool.or_true, Bool.or_false, Bool.false_or, Int.cast_ofNat_Int, Int.ofNat_zero, Int.natCast_zero, ev_p9, ev_p20, ev_p12, ev_p15, ev_p18, ev_p6, uniO_c, fTryR, fTryN, fCallX, fIsX, endN, clauseK, isX])

local macro_rules | `(tactic| walk_at "sd") => `(tactic| first | decide | omega | assumption)
local macro_rules | `(tactic| walk_at "mo") => `(tactic| first | exact mulOk_r _ _ (by omega) (by omega) | exact mulOk_l _ _ (by omega) (by omega))
local macro_rules | `(tactic| walk_at "ww") => `(tactic| first
  | with_reducible exact DL.w_nil
  | ((with_reducible apply w_consS); walk_at "vv"; walk_at "ww")
  | ((with_reducible apply DL.w_cons); walk_at "vv"; walk_at "ww"))
local macro_rules | `(tactic| walk_at "vv") => `(tactic| first
  | with_reducible exact DL.v_c
  | ((with_reducible apply DL.v_var); rfl)
  | ((with_reducible apply DL.v_add); walk_at "vv"; walk_at "vv")
  | ((with_reducible apply DL.v_sub); walk_at "vv"; walk_at "vv")
  | ((with_reducible apply DL.v_mul); walk_at "vv"; walk_at "vv"; walk_at "mo")
  | ((with_reducible apply DL.v_mod); walk_at "vv"; walk_at "vv"; walk_at "sd")
  | ((with_reducible apply DL.v_div); walk_at "vv"; walk_at "vv"; walk_at "sd")
  | ((with_reducible apply DL.v_neg); walk_at "vv")
  | ((with_reducible apply DL.v_lt); walk_at "vv"; walk_at "vv")
  | ((with_reducible apply DL.v_le); walk_at "vv"; walk_at "vv")
  | ((with_reducible apply DL.v_gt); walk_at "vv"; walk_at "vv")
  | ((with_reducible apply DL.v_ge); walk_at "vv"; walk_at "vv")
  | ((with_reducible apply DL.v_eq); walk_at "vv"; walk_at "vv")
  | ((with_reducible apply DL.v_eqB); walk_at "vv"; walk_at "vv")
  | ((with_reducible apply DL.v_ne); walk_at "vv"; walk_at "vv")
  | ((with_reducible apply DL.v_max2); walk_at "vv"; walk_at "vv")
  | ((with_reducible apply DL.v_min2); walk_at "vv"; walk_at "vv")
  | ((with_reducible apply DL.v_intB); walk_at "vv")
  | ((with_reducible apply DL.v_chLL); walk_at "vv"; walk_at "vv"; walk_at "vv")
  | ((with_reducible apply DL.v_chLT); walk_at "vv"; walk_at "vv"; walk_at "vv")
  | ((with_reducible apply DL.v_and); walk_at "vv"; intro _; walk_at "vv")
  | ((with_reducible apply DL.v_or); walk_at "vv"; intro _; walk_at "vv")
  | ((with_reducible apply DL.v_not); walk_at "vv")
  | ((with_reducible apply DL.v_fld); walk_at "vv"; (first | decide | assumption); (first | rfl | assumption))
  | ((with_reducible apply DL.v_call); walk_at "ww"; rfl; rfl; walk_at "cf")
  | ((with_reducible apply DL.v_make); walk_at "ww"; rfl; rfl; walk_at "cf")
  | ((with_reducible apply DL.v_meth); walk_at "vv"; (first | decide | assumption); (first | rfl | assumption); walk_at "ww"; rfl; rfl; walk_at "cf")
  | ((with_reducible apply DL.v_tup); walk_at "ww"; rfl; (first | decide | (simp)))
  | ((with_reducible apply DL.v_lst); walk_at "ww"; rfl; (first | decide | (simp)))
  | ((with_reducible apply DL.v_ixT); walk_at "vv"; walk_at "vv"; (first | rfl | assumption))
  | ((with_reducible apply DL.v_ixO); walk_at "vv"; walk_at "vv"; (first | rfl | assumption))
  | ((with_reducible apply DL.v_ixL); walk_at "vv"; walk_at "vv"; (first | rfl | assumption))
  | walk_at "vx")
local macro_rules | `(tactic| walk_at "tt") => `(tactic| first
  | ((with_reducible apply DL.t_and); walk_at "tt"; intro _; walk_at "tt")
  | ((with_reducible apply DL.t_or); walk_at "tt"; intro _; walk_at "tt")
  | ((with_reducible apply DL.t_not); walk_at "tt")
  | ((with_reducible apply DL.t_val); walk_at "vv"))
local macro_rules | `(tactic| walk_at "aa") => `(tactic| first
  | ((with_reducible apply DL.s_asg); walk_at "vv")
  | ((with_reducible apply DL.s_asgO); walk_at "vv"))
local macro_rules | `(tactic| walk_at "cf") => `(tactic| assumption)
theorem cellat_eq (ns : List Int) (k : Int) (h0 : 0 ≤ k) : ∃ c, phi__law_cell_at [.scr (ns.map D.int), .int k] = .ok (.sh (.int c)) := by
  unfold phi__law_cell_at b__law_cell_at
  walk_at "ev"
  by_cases h : k < ((ns.map D.int).length : Int)
  · obtain ⟨x, m, e⟩ := atI_at (ns.map D.int) k h0 h
    obtain ⟨i, _, rfl⟩ := List.mem_map.mp m
    refine ⟨i, ?_⟩
    rw [List.length_map] at h
    simp only [List.length_map, h, e]
    walk_at "ev"
  · refine ⟨0, ?_⟩
    rw [List.length_map] at h
    simp only [List.length_map, h]
    walk_at "ev"

theorem need_loop (a : Sl) : ∀ (l : List IP) (x y : Sl), Good l → ∃ x' y', forR (tgMany [1, 2]) (fIte (fT (f2 gLe (fVar 2) (fVar 1))) (fRaise 5) fSkip) (l.map mkP) [a, x, y] = .nx [a, x', y']
  | [], x, y, _ => ⟨x, y, rfl⟩
  | p :: l, x, y, g => by
    obtain ⟨x', y', h⟩ := need_loop a l (.sh (.int p.1)) (.sh (.int p.2)) fun q m => g q (List.mem_cons_of_mem _ m)
    refine ⟨x', y', ?_⟩
    rw [List.map_cons, ev_forC _ _ _ _ _ [a, .sh (.int p.1), .sh (.int p.2)] rfl]
    have := g p (List.mem_cons_self ..)
    walk_at "ev"
    rw [if_neg (by omega)]
    walk_at "ev"
    exact h
theorem need_eq (l : List IP) (g : Good l) : phi_need_spans [.lst (l.map mkP)] = .ok (.sh .non) := by
  unfold phi_need_spans b_need_spans
  obtain ⟨x', y', h⟩ := need_loop (.sh (.lst (l.map mkP))) l .no .no g
  walk_at "ev"
  rw [h]
  walk_at "ev"
theorem at_last (ds : List D) (d : D) : atI (ds ++ [d]) (-1) = some d := by
  unfold atI ixN
  rw [if_neg (by omega), if_pos (by rw [List.length_append, List.length_singleton]; omega)]
  show (ds ++ [d])[_]? = _
  rw [List.length_append, List.length_singleton]
  have : (-1 + ((ds.length + 1 : Nat) : Int)).toNat = ds.length := by omega
  rw [this]
  simp
theorem ixN_last (ds : List D) (d : D) : ixN (ds ++ [d]).length (-1) = some ds.length := by
  unfold ixN
  rw [if_neg (by omega), if_pos (by rw [List.length_append, List.length_singleton]; omega), List.length_append, List.length_singleton]
  congr 1
  omega
theorem set_last (ds : List D) (d e : D) : (ds ++ [d]).set ds.length e = ds ++ [e] := by
  rw [List.set_append_right _ _ (Nat.le_refl _), Nat.sub_self]
  rfl
abbrev laidB : FS := (fIte (fAnd (fT (f2 gNe (fVar 1) (fLst aNil))) (fT (f2 gLe (fVar 2) (f2 gIx (f2 gIx (fVar 1) (f1 gNeg (fC (.int 1)))) (fC (.int 1)))))) (fSetIx 1 (f1 gNeg (fC (.int 1))) (fTup (aCons (f2 gIx (f2 gIx (fVar 1) (f1 gNeg (fC (.int 1)))) (fC (.int 0))) (aCons (fN gMax2 (aCons (f2 gIx (f2 gIx (fVar 1) (f1 gNeg (fC (.int 1)))) (fC (.int 1))) (aCons (fVar 3) aNil))) aNil)))) (fMut 1 mAppend (aCons (fTup (aCons (fVar 2) (aCons (fVar 3) aNil))) aNil)))
theorem laid_body (a : Sl) (pre : List IP) (p q : IP) (hl : pre.length ≤ 100000) : laidB [a, .ow ((pre ++ [p]).map mkP), .sh (.int q.1), .sh (.int q.2)] = .nx [a, .ow ((pre ++ (if q.1 ≤ p.2 then [(p.1, max p.2 q.2)] else [p, q])).map mkP), .sh (.int q.1), .sh (.int q.2)] := by
  have e0 : (pre ++ [p]).map mkP = pre.map mkP ++ [mkP p] := by rw [List.map_append]; rfl
  have e1 : pre ++ [p] ≠ [] := by simp
  unfold laidB
  walk_at "ev"
  simp only [ev_neNil, e1]
  walk_at "ev"
  simp only [e0, at_last]
  walk_at "ev"
  by_cases c : q.1 ≤ p.2
  · rw [if_pos c, if_pos c]
    rw [ixN_last]
    walk_at "ev"
    rw [set_last, List.map_append]
    have : (if q.2 > p.2 then q.2 else p.2) = max p.2 q.2 := by
      rw [Int.max_def]
      split <;> split <;> omega
    rw [this]
    rfl
  · rw [if_neg c, if_neg c]
    walk_at "ev"
    rw [ev_app _ _ (by rw [List.length_append, List.length_map, List.length_singleton]; omega)]
    walk_at "ev"
    rw [List.append_assoc, List.map_append]
    rfl
theorem laid_loop (a : Sl) : ∀ (l pre : List IP) (p : IP) (x y : Sl), pre.length + l.length ≤ 100000 → ∃ x' y', forR (tgMany [2, 3]) laidB (l.map mkP) [a, .ow ((pre ++ [p]).map mkP), x, y] = .nx [a, .ow ((pre ++ mrg p l).map mkP), x', y']
  | [], pre, p, x, y, _ => ⟨x, y, rfl⟩
  | q :: l, pre, p, x, y, hl => by
    rw [List.length_cons] at hl
    rw [List.map_cons, ev_forC _ _ _ _ _ [a, .ow ((pre ++ [p]).map mkP), .sh (.int q.1), .sh (.int q.2)] rfl, laid_body a pre p q (by omega)]
    unfold mrg
    by_cases c : q.1 ≤ p.2
    · rw [if_pos c, if_pos c]
      exact laid_loop a l pre _ _ _ (by omega)
    · rw [if_neg c, if_neg c]
      have := laid_loop a l (pre ++ [p]) q (.sh (.int q.1)) (.sh (.int q.2)) (by rw [List.length_append, List.length_singleton]; omega)
      rw [List.append_assoc, List.append_assoc] at this
      exact this
theorem laid_first (a : Sl) (q : IP) : laidB [a, .ow [], .sh (.int q.1), .sh (.int q.2)] = .nx [a, .ow [mkP q], .sh (.int q.1), .sh (.int q.2)] := by
  unfold laidB
  have e : gNe (D.lst []) (D.lst []) = some (.sh (.bl false)) := ev_nePs [] []
  walk_at "ev"
  rw [e]
  walk_at "ev"
  rfl
theorem laid_eq (l : List IP) (g : Good l) (hl : l.length ≤ 10000) : phi_laid [.lst (l.map mkP)] = .ok (.ow ((laidP l).map mkP)) := by
  unfold phi_laid b_laid
  have hs : (srtP l).length ≤ 10000 := by rw [(srtP_perm l).length_eq]; exact hl
  walk_at "ev"
  simp only [need_eq l g]
  walk_at "ev"
  simp only [ev_srt]
  walk_at "ev"
  unfold laidP
  cases e : srtP l with
  | nil =>
    rw [List.map_nil, ev_forN]
    walk_at "ev"
    rfl
  | cons q r =>
    rw [e, List.length_cons] at hs
    have h1 := laid_first (.sh (.lst (l.map mkP))) q
    obtain ⟨x', y', h2⟩ := laid_loop (.sh (.lst (l.map mkP))) r [] q (.sh (.int q.1)) (.sh (.int q.2)) (by rw [List.length_nil]; omega)
    rw [List.map_cons, ev_forC _ _ _ _ _ [.sh (.lst (l.map mkP)), .ow [], .sh (.int q.1), .sh (.int q.2)] rfl]
    unfold laidB at h1 h2
    rw [h1]
    dsimp only
    have h3 : List.map mkP ([] ++ [q]) = [mkP q] := rfl
    rw [h3] at h2
    rw [h2]
    walk_at "ev"
    rfl

theorem mixed_eq (c k m : Int) (hm : 0 < m) : ∃ v, 0 ≤ v ∧ v < m ∧ phi__law_mixed [.int c, .int k, .int m] = .ok (.sh (.int v)) := by
  unfold phi__law_mixed b__law_mixed
  have h : mulOk ((c + 7919 * k + 11) * 48271 % 2147483647) ((c + 7919 * k + 11) * 48271 % 2147483647) = true := mulOk_l _ _ (by omega) (by omega)
  walk_at "ev"
  have h3 : mulOk (c + 7919 * k + 11) 48271 = true := mulOk_r _ _ (by omega) (by omega)
  simp only [h3, h, ev_mul]
  walk_at "ev"
  simp only [ev_mod _ _ hm]
  walk_at "ev"
  exact ⟨_, Int.emod_nonneg _ (by omega), Int.emod_lt_of_pos _ hm, rfl⟩
theorem at3 (a b c i : Int) (h0 : 0 ≤ i) (h : i < 3) : ∃ v, (v = a ∨ v = b ∨ v = c) ∧ atI [D.int a, D.int b, D.int c] i = some (.int v) := by
  have : i = 0 ∨ i = 1 ∨ i = 2 := by omega
  rcases this with h | h | h <;> subst h
  · exact ⟨a, .inl rfl, rfl⟩
  · exact ⟨b, .inr (.inl rfl), rfl⟩
  · exact ⟨c, .inr (.inr rfl), rfl⟩
theorem at5 (a b c d e i : Int) (h0 : 0 ≤ i) (h : i < 5) : ∃ v, atI [D.int a, D.int b, D.int c, D.int d, D.int e] i = some (.int v) := by
  have : i = 0 ∨ i = 1 ∨ i = 2 ∨ i = 3 ∨ i = 4 := by omega
  rcases this with h | h | h | h | h <;> subst h <;> exact ⟨_, rfl⟩

noncomputable section
def wtoB : FS := (fSeq (fIte (fT (f2 gLt (fVar 4) (fVar 1))) (fMut 3 mAppend (aCons (fTup (aCons (fVar 4) (aCons (fN gMin2 (aCons (fVar 5) (aCons (fVar 1) aNil))) aNil))) aNil)) fSkip) (fIte (fT (f2 gLt (fVar 2) (fVar 5))) (fMut 3 mAppend (aCons (fTup (aCons (fN gMax2 (aCons (fVar 4) (aCons (fVar 2) aNil))) (aCons (fVar 5) aNil))) aNil)) fSkip))
theorem min_if (a b : Int) : (if b < a then b else a) = min a b := by
  rw [Int.min_def]
  split <;> split <;> omega
theorem max_if (a b : Int) : (if b > a then b else a) = max a b := by
  rw [Int.max_def]
  split <;> split <;> omega
theorem wto_body (p0 : Sl) (s p : IP) (F : List IP) (hF : F.length ≤ 100000) : wtoB [p0, .sh (.int s.1), .sh (.int s.2), .ow (F.map mkP), .sh (.int p.1), .sh (.int p.2)] = .nx [p0, .sh (.int s.1), .sh (.int s.2), .ow ((F ++ piece s p).map mkP), .sh (.int p.1), .sh (.int p.2)] := by
  have e1 := ev_app (F.map mkP) (.tup [.int p.1, .int (min p.2 s.1)]) (by rw [List.length_map]; omega)
  have e2 := ev_app (F.map mkP) (.tup [.int (max p.1 s.2), .int p.2]) (by rw [List.length_map]; omega)
  have e3 := ev_app (F.map mkP ++ [.tup [.int p.1, .int (min p.2 s.1)]]) (.tup [.int (max p.1 s.2), .int p.2]) (by rw [List.length_append, List.length_map, List.length_singleton]; omega)
  have m1 := min_if p.2 s.1
  have m2 := max_if p.1 s.2
  unfold wtoB piece
  by_cases c1 : p.1 < s.1 <;> by_cases c2 : s.2 < p.2
  · walk_at "ev"
    repeat (simp only [c1, c2, m1, m2, e1, e2, e3]; walk_at "ev")
    simp [mkP]
  · walk_at "ev"
    repeat (simp only [c1, c2, m1, m2, e1, e2, e3]; walk_at "ev")
    simp [mkP]
  · walk_at "ev"
    repeat (simp only [c1, c2, m1, m2, e1, e2, e3]; walk_at "ev")
    simp [mkP]
  · walk_at "ev"
    repeat (simp only [c1, c2]; walk_at "ev")
    simp
theorem wto_loop (p0 : Sl) (s : IP) : ∀ (met F : List IP) (x4 x5 : Sl), F.length + 2 * met.length ≤ 100000 → ∃ y4 y5, forR (tgMany [4, 5]) wtoB (met.map mkP) [p0, .sh (.int s.1), .sh (.int s.2), .ow (F.map mkP), x4, x5] = .nx [p0, .sh (.int s.1), .sh (.int s.2), .ow ((F ++ withoutP met s).map mkP), y4, y5]
  | [], F, x4, x5, _ => ⟨x4, x5, by unfold withoutP; rw [List.flatMap_nil, List.append_nil]; rfl⟩
  | p :: met, F, x4, x5, h => by
    rw [List.length_cons] at h
    have lp : (piece s p).length ≤ 2 := by
      unfold piece
      rw [List.length_append]
      split <;> split <;> simp
    obtain ⟨y4, y5, e⟩ := wto_loop p0 s met (F ++ piece s p) (.sh (.int p.1)) (.sh (.int p.2)) (by rw [List.length_append]; omega)
    refine ⟨y4, y5, ?_⟩
    rw [List.map_cons, ev_forC _ _ _ _ _ [p0, .sh (.int s.1), .sh (.int s.2), .ow (F.map mkP), .sh (.int p.1), .sh (.int p.2)] rfl, wto_body p0 s p F (by omega)]
    dsimp only
    rw [e]
    unfold withoutP
    rw [List.flatMap_cons, List.append_assoc]
theorem without_eq (met : List IP) (s : IP) (hl : met.length ≤ 10000) : phi_without [.lst (met.map mkP), .int s.1, .int s.2] = .ok (.ow ((withoutP met s).map mkP)) := by
  have hb : phi_without = runF 6 (fSeq (fAsg 3 (fLst aNil)) (fSeq (fFor (iSeq (fVar 0)) (tgMany [4, 5]) wtoB) (fRet (fVar 3)))) := rfl
  obtain ⟨y4, y5, e⟩ := wto_loop (.sh (.lst (met.map mkP))) s met [] .no .no (by rw [List.length_nil]; omega)
  rw [List.map_nil, List.nil_append] at e
  rw [hb]
  walk_at "ev"
  rw [e]
  walk_at "ev"
/-- a comprehension over spans -/
theorem flt_eq {fi : DL.Env → Res (List D)} {ft : DL.Env → Res Bool} {k : Nat} {δ : DL.Env} (R : List IP) (p : IP → Bool) (hi : fi δ = .ok (R.map mkP)) (hl : R.length ≤ 100000)
    (ht : ∀ q ∈ R, ft ((dwipe δ [k]).set k (.sh (mkP q))) = .ok (p q)) (hk : k < δ.length) : fLc fi (tgOne k) ft (fVar k) [k] δ = .ok (.ow ((R.filter p).map mkP)) := by
  have e := fLc_eq (fi := fi) (g := tgOne k) (ft := ft) (fe := fVar k) (vs := [k]) (δ := δ) (ds := R.map mkP) (fun d => match d with | .tup [.int i, .int j] => p (i, j) | _ => false) (fun d => d) hi (by rw [List.length_map]; omega) (by
    intro d m
    obtain ⟨q, mq, rfl⟩ := List.mem_map.mp m
    refine ⟨_, rfl, ht q mq, fun _ => ⟨.sh (mkP q), ?_, rfl⟩⟩
    unfold fVar
    rw [List.getElem?_set_self (by show k < ((dwipe δ []).set k .no).length; rw [List.length_set]; exact hk)])
  rw [e, List.map_id', List.filter_map]
  rfl
theorem leftof_eq (R : List IP) (s : IP) (hl : R.length ≤ 10000) : phi_left_of [.lst (R.map mkP), .int s.1, .int s.2] = .ok (.ow ((leftP R s).map mkP)) := by
  unfold phi_left_of b_left_of
  have f1 := flt_eq (fi := iSeq (fVar 0)) (ft := fT (f2 gLe (f2 gIx (fVar 6) (fC (.int 1))) (fVar 1))) (k := 6) (δ := [.sh (.lst (R.map mkP)), .sh (.int s.1), .sh (.int s.2), .no, .no, .no, .no]) R (fun p => decide (p.2 ≤ s.1)) rfl (by omega) (fun q _ => by walk_at "ev") (by simp)
  have f2' := fun x3 => flt_eq (fi := iSeq (fVar 0)) (ft := fT (f2 gGe (f2 gIx (fVar 6) (fC (.int 0))) (fVar 2))) (k := 6) (δ := [.sh (.lst (R.map mkP)), .sh (.int s.1), .sh (.int s.2), x3, .no, .no, .no]) R (fun p => decide (s.2 ≤ p.1)) rfl (by omega) (fun q _ => by walk_at "ev") (by simp)
  have f3 := fun x3 x4 => flt_eq (fi := iSeq (fVar 0)) (ft := fAnd (fT (f2 gGt (f2 gIx (fVar 6) (fC (.int 1))) (fVar 1))) (fT (f2 gLt (f2 gIx (fVar 6) (fC (.int 0))) (fVar 2)))) (k := 6) (δ := [.sh (.lst (R.map mkP)), .sh (.int s.1), .sh (.int s.2), x3, x4, .no, .no]) R (fun p => decide (s.1 < p.2) && decide (p.1 < s.2)) rfl (by omega) (fun q _ => by
    walk_at "ev"
    by_cases c : s.1 < q.2 <;> simp [c]) (by simp)
  have hm : (metP R s).length ≤ R.length := List.length_filter_le _ _
  have ha : (aheadP R s).length ≤ R.length := List.length_filter_le _ _
  have hbh : (behindP R s).length ≤ R.length := List.length_filter_le _ _
  have w := without_eq (metP R s) s (by omega)
  have wl : (withoutP (metP R s) s).length ≤ 2 * (metP R s).length := by
    unfold withoutP
    induction metP R s with
    | nil => exact Nat.le_refl _
    | cons p r ih =>
      have lp : (piece s p).length ≤ 2 := by
        unfold piece
        rw [List.length_append]
        split <;> split <;> simp
      rw [List.flatMap_cons, List.length_append, List.length_cons]
      omega
  unfold metP at w
  walk_at "ev"
  rw [f1]
  walk_at "ev"
  rw [f2']
  walk_at "ev"
  rw [f3]
  walk_at "ev"
  rw [w]
  walk_at "ev"
  have s1 : ((aheadP R s).map mkP).length + ((withoutP (metP R s) s).map mkP).length ≤ sizeLine := by
    refine line_of ?_
    rw [List.length_map, List.length_map]
    omega
  have s2 : ((aheadP R s).map mkP ++ (withoutP (metP R s) s).map mkP).length + ((behindP R s).map mkP).length ≤ sizeLine := by
    refine line_of ?_
    rw [List.length_append, List.length_map, List.length_map, List.length_map]
    omega
  unfold aheadP metP at s1
  unfold aheadP metP behindP at s2
  simp only [s1, s2]
  walk_at "ev"
  simp only [s2]
  walk_at "ev"
  unfold leftP aheadP metP behindP
  rw [List.map_append, List.map_append]
theorem minus_loop (p0 p1 : Sl) : ∀ (l R : List IP) (x3 x4 : Sl), Good l → Good R → Apart R → R.length + l.length ≤ 10000 → ∃ y3 y4 : Sl,
    forR (tgMany [3, 4]) (fFz 2 (fAsg 2 (fCall 3 phi_left_of [] (aCons (fVar 2) (aCons (fVar 3) (aCons (fVar 4) aNil)))))) (l.map mkP) [p0, p1, .ow (R.map mkP), x3, x4] = .nx [p0, p1, .ow ((l.foldl leftP R).map mkP), y3, y4]
  | [], R, x3, x4, _, _, _, _ => ⟨x3, x4, rfl⟩
  | s :: l, R, x3, x4, gl, g, h, hl => by
    rw [List.length_cons] at hl
    have hs := gl s (List.mem_cons_self ..)
    have e := leftof_eq R s (by omega)
    have ll := left_len hs g h
    obtain ⟨y3, y4, e2⟩ := minus_loop p0 p1 l (leftP R s) (.sh (.int s.1)) (.sh (.int s.2)) (fun q m => gl q (List.mem_cons_of_mem _ m)) (left_good hs g) (left_apart hs g h) (by omega)
    refine ⟨y3, y4, ?_⟩
    rw [List.map_cons, ev_forC _ _ _ _ _ [p0, p1, .ow (R.map mkP), .sh (.int s.1), .sh (.int s.2)] rfl]
    walk_at "ev"
    simp only [e]
    walk_at "ev"
    exact e2
theorem minus_eq (one other : List IP) (g1 : Good one) (g2 : Good other) (h1 : one.length ≤ 1000) (h2 : other.length ≤ 1000) : phi_minus [.lst (one.map mkP), .lst (other.map mkP)] = .ok (.ow ((minusP one other).map mkP)) := by
  unfold phi_minus b_minus
  have e1 := laid_eq one g1 (by omega)
  have e2 := laid_eq other g2 (by omega)
  have l1 := laid_len one
  have l2 := laid_len other
  obtain ⟨y3, y4, e⟩ := minus_loop (.sh (.lst (one.map mkP))) (.sh (.lst (other.map mkP))) (laidP other) (laidP one) .no .no (laid_good g2) (laid_good g1) (laid_apart one) (by omega)
  walk_at "ev"
  simp only [e1]
  walk_at "ev"
  simp only [e2]
  walk_at "ev"
  rw [e]
  walk_at "ev"
  rfl

/-! ### what both takes -/
def bothP (one other : List IP) : List IP := (laidP one).flatMap fun p => clips p.1 p.2 (laidP other)
theorem both_in : ∀ {l R : List IP} {q : IP}, q ∈ l.flatMap (fun p => clips p.1 p.2 R) → ∃ p ∈ l, p.1 ≤ q.1 ∧ q.1 < q.2 ∧ q.2 ≤ p.2 := fun {l R q} h => by
  obtain ⟨p, hp, hq⟩ := List.mem_flatMap.mp h
  obtain ⟨a, b, c⟩ := clips_in hq
  exact ⟨p, hp, a, b, c⟩
theorem both_apart (R : List IP) (hR : Apart R) : ∀ l : List IP, Apart l → Apart (l.flatMap fun p => clips p.1 p.2 R)
  | [], _ => List.Pairwise.nil
  | p :: l, h => by
    obtain ⟨h1, h2⟩ := List.pairwise_cons.mp h
    rw [List.flatMap_cons]
    refine List.pairwise_append.mpr ⟨clips_apart _ _ _ hR, both_apart R hR l h2, fun a ha b hb => ?_⟩
    obtain ⟨_, _, c⟩ := clips_in ha
    obtain ⟨q, hq, d, _, _⟩ := both_in hb
    have := h1 q hq
    omega
theorem both_len (R : List IP) : ∀ l : List IP, (l.flatMap fun p => clips p.1 p.2 R).length ≤ l.length * R.length
  | [] => Nat.zero_le _
  | p :: l => by
    rw [List.flatMap_cons, List.length_append, List.length_cons, Nat.succ_mul]
    have a := clips_len p.1 p.2 R
    have b := both_len R l
    omega
theorem takes_mem {l : List IP} {m : Int} : takes l m = true ↔ ∃ p ∈ l, p.1 ≤ m ∧ m < p.2 := by
  unfold takes
  rw [List.any_eq_true]
  constructor
  · rintro ⟨p, hp, h⟩
    rw [Bool.and_eq_true, decide_eq_true_eq, decide_eq_true_eq] at h
    exact ⟨p, hp, h⟩
  · rintro ⟨p, hp, h1, h2⟩
    exact ⟨p, hp, by rw [Bool.and_eq_true, decide_eq_true_eq, decide_eq_true_eq]; exact ⟨h1, h2⟩⟩
theorem both_takes {one other : List IP} (g1 : Good one) (g2 : Good other) (m : Int) : takes (bothP one other) m = (takes one m && decide (takes other m = true)) := by
  have e1 := laid_takes g1 m
  have e2 := laid_takes g2 m
  rw [Bool.eq_iff_iff, Bool.and_eq_true, decide_eq_true_eq, ← e1, ← e2]
  constructor
  · intro h
    obtain ⟨q, hq, a⟩ := takes_mem.mp h
    obtain ⟨p, hp, hc⟩ := List.mem_flatMap.mp hq
    have := (clips_takes p.1 p.2 m (laidP other)).mp (takes_mem.mpr ⟨q, hc, a⟩)
    exact ⟨takes_mem.mpr ⟨p, hp, this.2⟩, this.1⟩
  · rintro ⟨h1, h2⟩
    obtain ⟨p, hp, a⟩ := takes_mem.mp h1
    obtain ⟨q, hq, b⟩ := takes_mem.mp ((clips_takes p.1 p.2 m (laidP other)).mpr ⟨h2, a⟩)
    exact takes_mem.mpr ⟨q, List.mem_flatMap.mpr ⟨p, hp, hq⟩, b⟩
theorem minus_takes {one other : List IP} (g1 : Good one) (g2 : Good other) (m : Int) : takes (minusP one other) m = (takes one m && decide (takes other m = false)) := by
  have := (minus_spec g1 g2).2.2.2 m
  rw [Bool.eq_iff_iff, this, Bool.and_eq_true, decide_eq_true_eq]
  try simp
/-! ### both -/
def biB : FS := fIte (fT (f2 gLt (fN gMax2 (aCons (fVar 4) (aCons (fVar 6) aNil))) (fN gMin2 (aCons (fVar 5) (aCons (fVar 7) aNil))))) (fMut 2 mAppend (aCons (fTup (aCons (fN gMax2 (aCons (fVar 4) (aCons (fVar 6) aNil))) (aCons (fN gMin2 (aCons (fVar 5) (aCons (fVar 7) aNil))) aNil))) aNil)) fSkip
theorem tg2 {i j : Nat} {p : IP} {δ δ' : DL.Env} (h : (δ.set i (.sh (.int p.1))).set j (.sh (.int p.2)) = δ') : tgMany [i, j] (mkP p) δ = some δ' := by rw [← h]; rfl
theorem inner_loop (p0 p1 x3 : Sl) (p : IP) : ∀ (R F : List IP) (x6 x7 : Sl), F.length + R.length ≤ 900000 → ∃ y6 y7, forR (tgMany [6, 7]) biB (R.map mkP) [p0, p1, .ow (F.map mkP), x3, .sh (.int p.1), .sh (.int p.2), x6, x7] = .nx [p0, p1, .ow ((F ++ clips p.1 p.2 R).map mkP), x3, .sh (.int p.1), .sh (.int p.2), y6, y7]
  | [], F, x6, x7, _ => ⟨x6, x7, by
    show Out.nx _ = _
    rw [show clips p.1 p.2 [] = [] from rfl, List.append_nil]⟩
  | q :: R, F, x6, x7, hl => by
    simp only [List.length_cons] at hl
    have e1 : clips p.1 p.2 (q :: R) = clip p.1 p.2 q ++ clips p.1 p.2 R := List.flatMap_cons
    have step : biB [p0, p1, .ow (F.map mkP), x3, .sh (.int p.1), .sh (.int p.2), .sh (.int q.1), .sh (.int q.2)] = .nx [p0, p1, .ow ((F ++ clip p.1 p.2 q).map mkP), x3, .sh (.int p.1), .sh (.int p.2), .sh (.int q.1), .sh (.int q.2)] := by
      have m1 : max p.1 q.1 = max q.1 p.1 := by omega
      have m2 : min p.2 q.2 = min q.2 p.2 := by omega
      unfold clip
      by_cases c : max q.1 p.1 < min q.2 p.2
      · rw [if_pos c, List.map_append]
        exact s_iteT (t_is (t_val (v_lt (v_max2 (v_var rfl) (v_var rfl)) (v_min2 (v_var rfl) (v_var rfl)))) (decide_eq_true (by omega))) (s_app rfl ((v_tup (w_consS (v_max2 (v_var rfl) (v_var rfl)) (w_consS (v_min2 (v_var rfl) (v_var rfl)) w_nil)) rfl (by simp)).trans (by rw [m1, m2]; rfl)) (by rw [List.length_map]; omega))
      · rw [if_neg c, List.append_nil]
        exact s_iteN (t_is (t_val (v_lt (v_max2 (v_var rfl) (v_var rfl)) (v_min2 (v_var rfl) (v_var rfl)))) (decide_eq_false (by omega))) rfl
    have lc : (clip p.1 p.2 q).length ≤ 1 := by unfold clip; split <;> simp
    obtain ⟨y6, y7, ih⟩ := inner_loop p0 p1 x3 p R (F ++ clip p.1 p.2 q) (.sh (.int q.1)) (.sh (.int q.2)) (by rw [List.length_append]; omega)
    exact ⟨y6, y7, by rw [e1, ← List.append_assoc]; exact forC_nx (tg2 rfl) step ih⟩
def boB : FS := fFz 3 (fFor (iSeq (fVar 3)) (tgMany [6, 7]) biB)
theorem seqL {δ : DL.Env} {i : Nat} {ds : List D} (h : δ[i]? = some (.sh (.lst ds))) : iSeq (fVar i) δ = .ok ds := by
  unfold iSeq
  rw [v_var h]
  rfl
theorem seqC {fa : DL.Env → Res SV} {δ : DL.Env} {ds : List D} (h : fa δ = .ok (.ow ds)) : iSeq fa δ = .ok ds := by
  unfold iSeq
  rw [h]
  rfl
theorem outer_loop (p0 p1 : Sl) (R : List IP) : ∀ (l F : List IP) (x3 x4 x5 x6 x7 : Sl), F.length + (l.length + 1) * R.length ≤ 900000 → (x3 = .ow (R.map mkP) ∨ x3 = .sh (.lst (R.map mkP))) → ∃ y3 y4 y5 y6 y7, forR (tgMany [4, 5]) boB (l.map mkP) [p0, p1, .ow (F.map mkP), x3, x4, x5, x6, x7] = .nx [p0, p1, .ow ((F ++ l.flatMap fun p => clips p.1 p.2 R).map mkP), y3, y4, y5, y6, y7]
  | [], F, x3, x4, x5, x6, x7, _, _ => ⟨x3, x4, x5, x6, x7, by
    show Out.nx _ = _
    rw [List.flatMap_nil, List.append_nil]⟩
  | p :: l, F, x3, x4, x5, x6, x7, hl, hx => by
    simp only [List.length_cons, Nat.succ_mul] at hl
    have lc := clips_len p.1 p.2 R
    obtain ⟨z6, z7, i1⟩ := inner_loop p0 p1 (.sh (.lst (R.map mkP))) p R F x6 x7 (by omega)
    have step : boB [p0, p1, .ow (F.map mkP), x3, .sh (.int p.1), .sh (.int p.2), x6, x7] = .nx [p0, p1, .ow ((F ++ clips p.1 p.2 R).map mkP), .sh (.lst (R.map mkP)), .sh (.int p.1), .sh (.int p.2), z6, z7] := by
      rcases hx with rfl | rfl
      · exact s_fzO rfl (s_for (seqL rfl) i1)
      · exact s_fzS rfl (s_for (seqL rfl) i1)
    obtain ⟨y3, y4, y5, y6, y7, ih⟩ := outer_loop p0 p1 R l (F ++ clips p.1 p.2 R) (.sh (.lst (R.map mkP))) (.sh (.int p.1)) (.sh (.int p.2)) z6 z7 (by rw [List.length_append, Nat.succ_mul]; omega) (.inr rfl)
    exact ⟨y3, y4, y5, y6, y7, by rw [List.flatMap_cons, ← List.append_assoc]; exact forC_nx (tg2 rfl) step ih⟩
theorem both_eq (one other : List IP) (g1 : Good one) (g2 : Good other) (h1 : one.length ≤ 200) (h2 : other.length ≤ 200) : phi_both [.lst (one.map mkP), .lst (other.map mkP)] = .ok (.ow ((bothP one other).map mkP)) := by
  have e1 := laid_eq one g1 (by omega)
  have e2 := laid_eq other g2 (by omega)
  have l1 := laid_len one
  have l2 := laid_len other
  obtain ⟨y3, y4, y5, y6, y7, h⟩ := outer_loop (.sh (.lst (one.map mkP))) (.sh (.lst (other.map mkP))) (laidP other) (laidP one) [] (.ow ((laidP other).map mkP)) .no .no .no .no (by
    have := Nat.mul_le_mul (show (laidP one).length + 1 ≤ 201 by omega) (show (laidP other).length ≤ 200 by omega)
    simp only [List.length_nil]
    omega) (.inl rfl)
  exact run_rt (s_seq (s_asgO (v_lst w_nil rfl (by decide))) (s_seq (s_asgO (v_call (w_consS (v_var rfl) w_nil) rfl rfl e2)) (s_seq (s_for (seqC (v_call (w_consS (v_var rfl) w_nil) rfl rfl e1)) h) (s_retB (v_varB rfl)))))
end

abbrev bothI : FS := (fIte (fT (f2 gLt (fN gMax2 (aCons (fVar 4) (aCons (fVar 6) aNil))) (fN gMin2 (aCons (fVar 5) (aCons (fVar 7) aNil))))) (fMut 2 mAppend (aCons (fTup (aCons (fN gMax2 (aCons (fVar 4) (aCons (fVar 6) aNil))) (aCons (fN gMin2 (aCons (fVar 5) (aCons (fVar 7) aNil))) aNil))) aNil)) fSkip)
abbrev bothB : FS := (fFz 3 (fFor (iSeq (fVar 3)) (tgMany [6, 7]) bothI))
theorem both_body (p0 p1 x3 x6 x7 : Sl) (b e : Int) (p : IP) (F : List IP) (hF : F.length ≤ 100000) (hx : x3 = .ow [mkP (b, e)] ∨ x3 = .sh (.lst [mkP (b, e)])) : bothB [p0, p1, .ow (F.map mkP), x3, .sh (.int p.1), .sh (.int p.2), x6, x7] = .nx [p0, p1, .ow ((F ++ clip b e p).map mkP), .sh (.lst [mkP (b, e)]), .sh (.int p.1), .sh (.int p.2), .sh (.int b), .sh (.int e)] := by
  have key : bothB [p0, p1, .ow (F.map mkP), x3, .sh (.int p.1), .sh (.int p.2), x6, x7] = forR (tgMany [6, 7]) bothI [mkP (b, e)] [p0, p1, .ow (F.map mkP), .sh (.lst [mkP (b, e)]), .sh (.int p.1), .sh (.int p.2), x6, x7] := by
    unfold bothB
    rcases hx with rfl | rfl <;> walk_at "ev"
  rw [key, ev_forC _ _ _ _ _ [p0, p1, .ow (F.map mkP), .sh (.lst [mkP (b, e)]), .sh (.int p.1), .sh (.int p.2), .sh (.int b), .sh (.int e)] rfl]
  have step : bothI [p0, p1, .ow (F.map mkP), .sh (.lst [mkP (b, e)]), .sh (.int p.1), .sh (.int p.2), .sh (.int b), .sh (.int e)] = .nx [p0, p1, .ow ((F ++ clip b e p).map mkP), .sh (.lst [mkP (b, e)]), .sh (.int p.1), .sh (.int p.2), .sh (.int b), .sh (.int e)] := by
    unfold bothI clip
    walk_at "ev"
    by_cases q : max p.1 b < min p.2 e
    · simp only [max_if, min_if, q]
      walk_at "ev"
      rw [ev_app _ _ (by rw [List.length_map]; omega)]
      walk_at "ev"
      rw [List.map_append]
      rfl
    · simp only [max_if, min_if, q]
      walk_at "ev"
      rw [List.append_nil]
  rw [step]
  rfl
theorem both_loop (p0 p1 : Sl) (b e : Int) : ∀ (l F : List IP) (x3 x4 x5 x6 x7 : Sl), F.length + l.length ≤ 100000 → (x3 = .ow [mkP (b, e)] ∨ x3 = .sh (.lst [mkP (b, e)])) → ∃ y3 y4 y5 y6 y7, forR (tgMany [4, 5]) bothB (l.map mkP) [p0, p1, .ow (F.map mkP), x3, x4, x5, x6, x7] = .nx [p0, p1, .ow ((F ++ clips b e l).map mkP), y3, y4, y5, y6, y7]
  | [], F, x3, x4, x5, x6, x7, _, _ => ⟨x3, x4, x5, x6, x7, by
    show _ = Out.nx [p0, p1, .ow ((F ++ []).map mkP), x3, x4, x5, x6, x7]
    rw [List.append_nil]
    rfl⟩
  | p :: l, F, x3, x4, x5, x6, x7, hl, hx => by
    rw [List.length_cons] at hl
    have c1 : (clip b e p).length ≤ 1 := by
      unfold clip
      split <;> simp
    obtain ⟨y3, y4, y5, y6, y7, h⟩ := both_loop p0 p1 b e l (F ++ clip b e p) (.sh (.lst [mkP (b, e)])) (.sh (.int p.1)) (.sh (.int p.2)) (.sh (.int b)) (.sh (.int e)) (by rw [List.length_append]; omega) (.inr rfl)
    refine ⟨y3, y4, y5, y6, y7, ?_⟩
    rw [List.map_cons, ev_forC _ _ _ _ _ [p0, p1, .ow (F.map mkP), x3, .sh (.int p.1), .sh (.int p.2), x6, x7] rfl, both_body p0 p1 x3 x6 x7 b e p F (by omega) hx]
    have z : F ++ clips b e (p :: l) = F ++ clip b e p ++ clips b e l := by
      rw [List.append_assoc]
      rfl
    rw [z]
    exact h
theorem cut_eq (l : List IP) (g : Good l) (hl : l.length ≤ 10000) (b e : Int) : phi_cut [.lst (l.map mkP), .int b, .int e] = .ok (.ow ((cutP l b e).map mkP)) := by
  unfold phi_cut b_cut cutP
  by_cases q : e ≤ b
  · walk_at "ev"
    simp only [q, need_eq l g]
    walk_at "ev"
  · have g1 : Good [(b, e)] := fun p m => by
      rw [List.mem_singleton] at m
      subst m
      dsimp only
      omega
    have e1 := laid_eq [(b, e)] g1 (by simp)
    rw [laid_self g1 (List.pairwise_singleton _ _)] at e1
    have e2 := laid_eq l g hl
    have n := laid_len l
    have e3 : phi_both [.lst (l.map mkP), .lst [mkP (b, e)]] = .ok (.ow ((clips b e (laidP l)).map mkP)) := by
      obtain ⟨y3, y4, y5, y6, y7, h⟩ := both_loop (.sh (.lst (l.map mkP))) (.sh (.lst [mkP (b, e)])) b e (laidP l) [] (.ow [mkP (b, e)]) .no .no .no .no (by rw [List.length_nil]; omega) (.inl rfl)
      unfold phi_both b_both
      unfold bothB bothI at h
      rw [List.map_nil, List.nil_append] at h
      simp only [List.map_cons, List.map_nil] at e1
      walk_at "ev"
      repeat (simp only [e1, e2]; walk_at "ev")
      rw [h]
      walk_at "ev"
    walk_at "ev"
    simp only [q]
    walk_at "ev"
    have e4 : [D.tup [D.int b, D.int e]] = [mkP (b, e)] := rfl
    rw [e4, e3]
    walk_at "ev"
theorem taken_eq (l : List IP) (g : Good l) (hl : l.length ≤ 10000) : phi_taken [.lst (l.map mkP)] = .ok (.sh (.int (lens (laidP l)))) := by
  unfold phi_taken b_taken
  have n := laid_len l
  have e2 := laid_eq l g hl
  have e := fLc_map (fi := iSeq (fCall 1 phi_laid [] (aCons (fVar 0) aNil))) (g := tgMany [1, 2]) (fe := f2 gSub (fVar 2) (fVar 1)) (vs := [1, 2]) (δ := [.sh (.lst (l.map mkP)), .no, .no]) (ds := (laidP l).map mkP)
    (fun d => match d with | .tup [.int i, .int j] => .int (j - i) | _ => .non) (by
      walk_at "ev"
      simp only [e2]
      walk_at "ev") (by rw [List.length_map]; omega) (by
      intro d m
      obtain ⟨p, _, rfl⟩ := List.mem_map.mp m
      exact ⟨[.sh (.lst (l.map mkP)), .sh (.int p.1), .sh (.int p.2)], _, rfl, rfl, rfl⟩)
  have z : (List.map mkP (laidP l)).map (fun d => match d with | .tup [.int i, .int j] => D.int (j - i) | _ => .non) = ((laidP l).map fun p => p.2 - p.1).map D.int := by
    rw [List.map_map, List.map_map]
    rfl
  rw [z] at e
  walk_at "ev"
  rw [e]
  walk_at "ev"
  rw [ev_sum]
  rfl

end Lw

set_option Elab.async false
set_option linter.all false
set_option maxRecDepth 100000
set_option maxHeartbeats 4000000
namespace Lw
open PySem PySem.Spec PyProof.Rows L2 DL SM
local macro_rules | `(tactic| walk_at "ev") => `(tactic| try simp only [runF_eq, slots, List.map_cons, List.map_nil, List.length_cons, List.length_nil, List.cons_append, List.nil_append, Nat.reduceAdd, Nat.reduceSub, List.replicate_succ, List.replicate_zero, fSeq, fAsg, fRet, fRetN, fIte, fVar, fC, f1, f2, fT, fAnd, fOr, fNot, fAndV, fOrV, fNotV, fIf, fV, aNil, aCons, fN, fM, fTup, fLst, fCall, fSkip, fBrk, fCnt, fRaise, fFz, fChain, fSl, fDrop, fUnp, fAug, fFor, iSeq, iRg, dwipe,
  bind_ok, bind_ex, bind_bad, out_ok, out_ex, out_bad, seq_nx, seq_rt, seq_bk, seq_ct, seq_ex, seq_bad, ofO_some, ofO_none, List.getElem?_cons_zero, List.getElem?_cons_succ, List.set_cons_zero, List.set_cons_succ, if_true, if_false, ite_true, ite_false, Bool.true_eq_false, Bool.false_eq_true, Option.map_some, Option.map_none, decide_eq_true_eq, Bool.not_eq_true', decide_eq_false_iff_not, reduceIte, Bool.not_true, Bool.not_false,
  ev_d1, ev_d2, ev_d3, ev_f1, ev_f2, ev_f3, ev_o1, ev_o2, ev_r1, ev_r2, ev_r3, ev_asB, ev_st0, ev_st1, ev_st2, ev_add, ev_addL, ev_addT, ev_aug, ev_sub, ev_mul, mulOk_r, mulOk_l, ev_div, ev_mod, ev_lt, ev_le, ev_gt, ev_ge, ev_neg, ev_eqI, ev_eqS, ev_eqB, ev_neI, ev_neS, ev_neB, ev_isN, ev_isB, ev_ntN, ev_ntB, ev_nn0, ev_nn1, ev_nn2, ev_nn3, ev_nn4, ev_nn5, ev_isi0, ev_isi1, ev_isi2, ev_isi3, ev_isi4, ev_isi5,
  ty_bb, ty_bi, ty_bs, ty_bt, ty_bl, ty_bn, ty_ib, ty_ii, ty_is, ty_it, ty_il, ty_in, ty_sb, ty_si, ty_ss, ty_st, ty_sl, ty_sn, ty_tb, ty_ti, ty_ts, ty_tt, ty_tl, ty_tn, ty_lb, ty_li, ty_ls, ty_lt, ty_ll, ty_ln,
  ev_lenL, ev_lenT, ev_lenR, ev_lenS, ev_intI, ev_intB, ev_strS, ev_max2, ev_min2, ev_abs, ev_listL, ev_listR, ev_listT, ev_tupL, ev_tupT, ev_ixL, ev_ixT, ev_ixR, ev_slL, ev_slR, ev_slT, ev_evP0, ev_evP1, ev_evPC, ev_itL, ev_itR, ev_itT, ev_itS, ev_rg1, ev_rg2, ev_tg1, ev_tgT, ev_tgL, ev_sa0, ev_sa1, ev_dm, ev_ite_bind, ev_ite_out, ev_ite_seq, ev_ite_end, ev_forN, ev_e1, ev_e2, ev_e3, Int.reduceNeg, Int.reducePow, Int.reduceLT, Int.reduceLE, Nat.reducePow, Int.reduceAdd, Int.reduceSub, Int.reduceMul, ev_ixP0, noL_P, noL_B, noL_I, noL_S, noL_N, ev_ixP1, ev_lenP, ev_isiP, fMut, fSetIx, Int.reduceEq, eq_self, ev_line, Nat.reduceLeDiff, not_true_eq_false, not_false_eq_true, decide_true, decide_false, Bool.true_or, Bool.false_or, Bool.true_and, Bool.false_and, Bool.and_true, Bool.or_true, Bool.and_false, Bool.or_false, ite_self, Nat.reduceBEq, beq_self_eq_true, Bool.true_or, Bool.or_true, Bool.or_false, Bool.false_or, Int.cast_ofNat_Int, Int.ofNat_zero, Int.natCast_zero, ev_p9, ev_p20, ev_p12, ev_p15, ev_p18, ev_p6, uniO_c, fTryR, fTryN, fCallX, fIsX, endN, clauseK, isX])

local macro_rules | `(tactic| walk_at "sd") => `(tactic| first | decide | omega | assumption)
local macro_rules | `(tactic| walk_at "mo") => `(tactic| first | exact mulOk_r _ _ (by omega) (by omega) | exact mulOk_l _ _ (by omega) (by omega))
local macro_rules | `(tactic| walk_at "ww") => `(tactic| first
  | with_reducible exact DL.w_nil
  | ((with_reducible apply w_consS); walk_at "vv"; walk_at "ww")
  | ((with_reducible apply DL.w_cons); walk_at "vv"; walk_at "ww"))
local macro_rules | `(tactic| walk_at "vv") => `(tactic| first
  | with_reducible exact DL.v_c
  | ((with_reducible apply DL.v_var); rfl)
  | ((with_reducible apply DL.v_add); walk_at "vv"; walk_at "vv")
  | ((with_reducible apply DL.v_sub); walk_at "vv"; walk_at "vv")
  | ((with_reducible apply DL.v_mul); walk_at "vv"; walk_at "vv"; walk_at "mo")
  | ((with_reducible apply DL.v_mod); walk_at "vv"; walk_at "vv"; walk_at "sd")
  | ((with_reducible apply DL.v_div); walk_at "vv"; walk_at "vv"; walk_at "sd")
  | ((with_reducible apply DL.v_neg); walk_at "vv")
  | ((with_reducible apply DL.v_lt); walk_at "vv"; walk_at "vv")
  | ((with_reducible apply DL.v_le); walk_at "vv"; walk_at "vv")
  | ((with_reducible apply DL.v_gt); walk_at "vv"; walk_at "vv")
  | ((with_reducible apply DL.v_ge); walk_at "vv"; walk_at "vv")
  | ((with_reducible apply DL.v_eq); walk_at "vv"; walk_at "vv")
  | ((with_reducible apply DL.v_eqB); walk_at "vv"; walk_at "vv")
  | ((with_reducible apply DL.v_ne); walk_at "vv"; walk_at "vv")
  | ((with_reducible apply DL.v_max2); walk_at "vv"; walk_at "vv")
  | ((with_reducible apply DL.v_min2); walk_at "vv"; walk_at "vv")
  | ((with_reducible apply DL.v_intB); walk_at "vv")
  | ((with_reducible apply DL.v_chLL); walk_at "vv"; walk_at "vv"; walk_at "vv")
  | ((with_reducible apply DL.v_chLT); walk_at "vv"; walk_at "vv"; walk_at "vv")
  | ((with_reducible apply DL.v_and); walk_at "vv"; intro _; walk_at "vv")
  | ((with_reducible apply DL.v_or); walk_at "vv"; intro _; walk_at "vv")
  | ((with_reducible apply DL.v_not); walk_at "vv")
  | ((with_reducible apply DL.v_fld); walk_at "vv"; (first | decide | assumption); (first | rfl | assumption))
  | ((with_reducible apply DL.v_call); walk_at "ww"; rfl; rfl; walk_at "cf")
  | ((with_reducible apply DL.v_make); walk_at "ww"; rfl; rfl; walk_at "cf")
  | ((with_reducible apply DL.v_meth); walk_at "vv"; (first | decide | assumption); (first | rfl | assumption); walk_at "ww"; rfl; rfl; walk_at "cf")
  | ((with_reducible apply DL.v_tup); walk_at "ww"; rfl; (first | decide | (simp)))
  | ((with_reducible apply DL.v_lst); walk_at "ww"; rfl; (first | decide | (simp)))
  | ((with_reducible apply DL.v_ixT); walk_at "vv"; walk_at "vv"; (first | rfl | assumption))
  | ((with_reducible apply DL.v_ixO); walk_at "vv"; walk_at "vv"; (first | rfl | assumption))
  | ((with_reducible apply DL.v_ixL); walk_at "vv"; walk_at "vv"; (first | rfl | assumption))
  | walk_at "vx")
local macro_rules | `(tactic| walk_at "tt") => `(tactic| first
  | ((with_reducible apply DL.t_and); walk_at "tt"; intro _; walk_at "tt")
  | ((with_reducible apply DL.t_or); walk_at "tt"; intro _; walk_at "tt")
  | ((with_reducible apply DL.t_not); walk_at "tt")
  | ((with_reducible apply DL.t_val); walk_at "vv"))
local macro_rules | `(tactic| walk_at "aa") => `(tactic| first
  | ((with_reducible apply DL.s_asg); walk_at "vv")
  | ((with_reducible apply DL.s_asgO); walk_at "vv"))
local macro_rules | `(tactic| walk_at "cf") => `(tactic| assumption)
noncomputable section
def mkR (r : List IP) : D := .lst (r.map mkP)
theorem alls_loop (p0 : Sl) : ∀ (rs : List (List IP)) (F : List IP) (x2 : Sl), (∀ r ∈ rs, Good r) → F.length + rs.flatten.length ≤ 100000 → ∃ y2, forR (tgOne 2) (fSeq (fDrop (fCall 1 phi_need_spans [] (aCons (fVar 2) aNil))) (fMut 1 mExtendA (aCons (fVar 2) aNil))) (rs.map mkR) [p0, .ow (F.map mkP), x2] = .nx [p0, .ow ((F ++ rs.flatten).map mkP), y2]
  | [], F, x2, _, _ => ⟨x2, by rw [List.flatten_nil, List.append_nil]; rfl⟩
  | r :: rs, F, x2, g, h => by
    rw [List.flatten_cons, List.length_append] at h
    obtain ⟨y2, e⟩ := alls_loop p0 rs (F ++ r) (.sh (mkR r)) (fun q m => g q (List.mem_cons_of_mem _ m)) (by rw [List.length_append]; omega)
    refine ⟨y2, ?_⟩
    rw [List.map_cons, ev_forC _ _ _ _ _ [p0, .ow (F.map mkP), .sh (mkR r)] rfl]
    have n := need_eq r (g r (List.mem_cons_self ..))
    have ex : mExtendA (F.map mkP) [.lst (r.map mkP)] = some ((F ++ r).map mkP, .non) := by
      unfold mExtendA
      dsimp only
      unfold mExtend
      dsimp only
      rw [if_pos (line_of (by rw [List.length_map, List.length_map]; omega)), List.map_append]
    unfold mkR at e ⊢
    walk_at "ev"
    repeat (simp only [n, ex]; walk_at "ev")
    rw [List.flatten_cons, ← List.append_assoc]
    exact e
theorem alls_eq (rs : List (List IP)) (g : ∀ r ∈ rs, Good r) (hl : rs.flatten.length ≤ 10000) : phi_all_spans [.lst (rs.map mkR)] = .ok (.ow (rs.flatten.map mkP)) := by
  unfold phi_all_spans b_all_spans
  obtain ⟨y2, e⟩ := alls_loop (.sh (.lst (rs.map mkR))) rs [] .no g (by rw [List.length_nil]; omega)
  rw [List.map_nil, List.nil_append] at e
  walk_at "ev"
  rw [e]
  walk_at "ev"
theorem good_flat {rs : List (List IP)} (g : ∀ r ∈ rs, Good r) : Good rs.flatten := fun p m => by
  obtain ⟨r, mr, mp⟩ := List.mem_flatten.mp m
  exact g r mr p mp
/-- the free hours -/
def freeP (rs : List (List IP)) (b e least : Int) : List IP := if e ≤ b then [] else (minusP [(b, e)] rs.flatten).filter fun p => decide (p.2 - p.1 ≥ least)
theorem free_eq (rs : List (List IP)) (g : ∀ r ∈ rs, Good r) (hl : rs.flatten.length ≤ 900) (b e least : Int) : phi_free [.lst (rs.map mkR), .int b, .int e, .int least] = .ok (.ow ((freeP rs b e least).map mkP)) := by
  unfold phi_free b_free freeP
  have a := alls_eq rs g (by omega)
  walk_at "ev"
  simp only [a]
  walk_at "ev"
  by_cases c : e ≤ b
  · rw [if_pos c, if_pos c]
    rfl
  · rw [if_neg c, if_neg c]
    have g1 : Good [(b, e)] := fun p m => by
      rw [List.mem_singleton] at m
      subst m
      dsimp only
      omega
    have m := minus_eq [(b, e)] rs.flatten g1 (good_flat g) (by simp) (by omega)
    have ms := (minus_spec g1 (good_flat g)).2.2.1
    rw [List.length_singleton] at ms
    have f := flt_eq (fi := iSeq (fCall 2 phi_minus [] (aCons (fLst (aCons (fTup (aCons (fVar 1) (aCons (fVar 2) aNil))) aNil)) (aCons (fVar 4) aNil)))) (ft := fT (f2 gGe (f2 DL.gSub (f2 gIx (fVar 5) (fC (.int 1))) (f2 gIx (fVar 5) (fC (.int 0)))) (fVar 3))) (k := 5) (δ := [.sh (.lst (rs.map mkR)), .sh (.int b), .sh (.int e), .sh (.int least), .sh (.lst (rs.flatten.map mkP)), .no]) (minusP [(b, e)] rs.flatten) (fun p => decide (p.2 - p.1 ≥ least)) (by
      walk_at "ev"
      rw [show [D.tup [.int b, .int e]] = [(b, e)].map mkP from rfl, m]
      walk_at "ev") (by omega) (fun q _ => by walk_at "ev") (by simp)
    rw [f]
    walk_at "ev"
theorem ffree_eq (rs : List (List IP)) (g : ∀ r ∈ rs, Good r) (hl : rs.flatten.length ≤ 900) (b e least : Int) : phi_first_free [.lst (rs.map mkR), .int b, .int e, .int least] = .ok (.sh (match freeP rs b e least with | [] => .non | p :: _ => .int p.1)) := by
  unfold phi_first_free b_first_free
  have a := free_eq rs g hl b e least
  walk_at "ev"
  simp only [a]
  walk_at "ev"
  cases freeP rs b e least with
  | nil =>
    rw [List.map_nil, ev_forN]
    walk_at "ev"
  | cons p r =>
    rw [List.map_cons, ev_forC _ _ _ _ _ [.sh (.lst (rs.map mkR)), .sh (.int b), .sh (.int e), .sh (.int least), .sh (mkP p)] rfl]
    walk_at "ev"

end

theorem lcR_F {α : Type} {g : D → DL.Env → Option DL.Env} {ft : DL.Env → Res Bool} {fe : DL.Env → Res SV} {δ : DL.Env} (mk : α → D) (p : α → Bool) (h : α → D) : ∀ xs : List α, (∀ x ∈ xs, ∃ δ1, g (mk x) δ = some δ1 ∧ ft δ1 = .ok (p x) ∧ (p x = true → ∃ s, fe δ1 = .ok s ∧ s.fz = .sh (h x))) → lcR g ft fe δ (xs.map mk) = some ((xs.filter p).map h)
  | [], _ => rfl
  | x :: xs, H => by
    obtain ⟨δ1, e1, e2, e3⟩ := H x (List.mem_cons_self ..)
    have ih := lcR_F mk p h xs fun x m => H x (List.mem_cons_of_mem _ m)
    rw [List.map_cons]
    unfold lcR
    rw [e1]
    dsimp only
    rw [e2, List.filter_cons]
    cases hp : p x with
    | false => exact ih
    | true =>
      obtain ⟨s, e4, e5⟩ := e3 hp
      dsimp only
      rw [e4]
      dsimp only
      rw [e5]
      dsimp only
      rw [ih]
      rfl
theorem fLc_F {α : Type} {fi : DL.Env → Res (List D)} {g : D → DL.Env → Option DL.Env} {ft : DL.Env → Res Bool} {fe : DL.Env → Res SV} {vs : List Nat} {δ : DL.Env} (xs : List α) (mk : α → D) (p : α → Bool) (h : α → D) (hi : fi δ = .ok (xs.map mk)) (hl : xs.length ≤ 1000000) (H : ∀ x ∈ xs, ∃ δ1, g (mk x) (dwipe δ vs) = some δ1 ∧ ft δ1 = .ok (p x) ∧ (p x = true → ∃ s, fe δ1 = .ok s ∧ s.fz = .sh (h x))) : fLc fi g ft fe vs δ = .ok (.ow ((xs.filter p).map h)) := by
  unfold fLc
  rw [hi, bind_ok, lcR_F mk p h xs H]
  dsimp only
  rw [if_pos]
  refine line_of ?_
  rw [List.length_map]
  have := List.length_filter_le p xs
  omega
theorem fLc_A {α : Type} {fi : DL.Env → Res (List D)} {g : D → DL.Env → Option DL.Env} {fe : DL.Env → Res SV} {vs : List Nat} {δ : DL.Env} (xs : List α) (mk : α → D) (h : α → D) (hi : fi δ = .ok (xs.map mk)) (hl : xs.length ≤ 1000000) (H : ∀ x ∈ xs, ∃ δ1 s, g (mk x) (dwipe δ vs) = some δ1 ∧ fe δ1 = .ok s ∧ s.fz = .sh (h x)) : fLc fi g fYes fe vs δ = .ok (.ow (xs.map h)) := by
  have := fLc_F (ft := fYes) xs mk (fun _ => true) h hi hl fun x m => by
    obtain ⟨δ1, s, a, b, c⟩ := H x m
    exact ⟨δ1, a, rfl, fun _ => ⟨s, b, c⟩⟩
  rw [this, List.filter_eq_self.mpr fun _ _ => rfl]
theorem tk_filter (l : List IP) (m : Int) : (!decide (l.filter (fun p : IP => decide (p.1 ≤ m) && decide (m < p.2)) = [])) = takes l m := by
  unfold takes
  rw [Bool.eq_iff_iff, Bool.not_eq_true', decide_eq_false_iff_not, List.filter_eq_nil_iff, List.any_eq_true]
  constructor
  · intro h
    exact Classical.byContradiction fun z => h fun a ma q => z ⟨a, ma, q⟩
  · rintro ⟨p, mp, q⟩ h
    exact h p mp q
theorem howmany_eq (rs : List (List IP)) (m : Int) (hl : rs.length ≤ 1000) (hr : ∀ r ∈ rs, r.length ≤ 1000) : phi_how_many [.lst (rs.map mkR), .int m] = .ok (.sh (.int (num rs m))) := by
  unfold phi_how_many b_how_many
  have lc := fLc_F (fi := iSeq (fVar 0)) (g := tgOne 2) (ft := (fT (f2 gNe (fLc (iSeq (fVar 2)) (tgOne 3) (fT (fChain gLe gLt (f2 gIx (fVar 3) (fC (.int 0))) (fVar 1) (f2 gIx (fVar 3) (fC (.int 1))))) (fVar 3) [3]) (fLst aNil)))) (fe := fVar 2) (vs := [2]) (δ := [.sh (.lst (rs.map mkR)), .sh (.int m), .no, .no]) rs mkR (fun r => takes r m) mkR rfl (by omega) (by
    intro r hr'
    refine ⟨[.sh (.lst (rs.map mkR)), .sh (.int m), .sh (mkR r), .no], rfl, ?_, fun _ => ⟨.sh (mkR r), rfl, rfl⟩⟩
    have l2 := fLc_F (fi := iSeq (fVar 2)) (g := tgOne 3) (ft := fT (fChain gLe gLt (f2 gIx (fVar 3) (fC (.int 0))) (fVar 1) (f2 gIx (fVar 3) (fC (.int 1))))) (fe := fVar 3) (vs := [3]) (δ := [.sh (.lst (rs.map mkR)), .sh (.int m), .sh (mkR r), .no]) r mkP (fun p => decide (p.1 ≤ m) && decide (m < p.2)) mkP rfl (by have := hr r hr'; omega) (by
      intro p _
      refine ⟨[.sh (.lst (rs.map mkR)), .sh (.int m), .sh (mkR r), .sh (mkP p)], rfl, ?_, fun _ => ⟨.sh (mkP p), rfl, rfl⟩⟩
      walk_at "ev"
      by_cases h1 : p.1 ≤ m
      · simp only [h1]
        walk_at "ev"
      · simp only [h1]
        walk_at "ev")
    walk_at "ev"
    rw [l2]
    walk_at "ev"
    rw [ev_neNil]
    walk_at "ev"
    rw [tk_filter])
  walk_at "ev"
  rw [lc]
  walk_at "ev"
  rw [List.length_map]
  rfl
theorem bd_in (a b e x4 : Sl) : ∀ (l : List IP) (ms : List Int) (x5 : Sl), ms.length + 2 * l.length ≤ 100000 → ∃ y5, forR (tgOne 5) (fMut 3 mExtendA (aCons (fVar 5) aNil)) (l.map mkP) [a, b, e, .ow (ms.map D.int), x4, x5] = .nx [a, b, e, .ow ((ms ++ bds l).map D.int), x4, y5]
  | [], ms, x5, _ => ⟨x5, by
    show _ = Out.nx [a, b, e, .ow ((ms ++ []).map D.int), x4, x5]
    rw [List.append_nil]
    rfl⟩
  | p :: l, ms, x5, hl => by
    rw [List.length_cons] at hl
    obtain ⟨y5, h⟩ := bd_in a b e x4 l (ms ++ [p.1, p.2]) (.sh (mkP p)) (by rw [List.length_append, List.length_cons, List.length_singleton]; omega)
    refine ⟨y5, ?_⟩
    rw [List.map_cons, ev_forC _ _ _ _ _ [a, b, e, .ow (ms.map D.int), x4, .sh (mkP p)] rfl]
    have q : mExtendA (ms.map D.int) [mkP p] = some ((ms ++ [p.1, p.2]).map D.int, .non) := by
      unfold mExtendA mkP
      dsimp only
      rw [if_pos (line_of (by rw [List.length_map]; simp; omega)), List.map_append]
      rfl
    walk_at "ev"
    simp only [q]
    have z : ms ++ bds (p :: l) = ms ++ [p.1, p.2] ++ bds l := by
      rw [List.append_assoc]
      rfl
    rw [z]
    exact h
theorem bd_out (a b e : Sl) : ∀ (rs : List (List IP)) (ms : List Int) (x4 x5 : Sl), ms.length + (rs.flatMap bds).length ≤ 100000 → ∃ y4 y5, forR (tgOne 4) (fFor (iSeq (fVar 4)) (tgOne 5) (fMut 3 mExtendA (aCons (fVar 5) aNil))) (rs.map mkR) [a, b, e, .ow (ms.map D.int), x4, x5] = .nx [a, b, e, .ow ((ms ++ rs.flatMap bds).map D.int), y4, y5]
  | [], ms, x4, x5, _ => ⟨x4, x5, by
    show _ = Out.nx [a, b, e, .ow ((ms ++ []).map D.int), x4, x5]
    rw [List.append_nil]
    rfl⟩
  | r :: rs, ms, x4, x5, hl => by
    rw [List.flatMap_cons, List.length_append] at hl
    have bl := bds_len r
    obtain ⟨y5, h⟩ := bd_in a b e (.sh (mkR r)) r ms x5 (by omega)
    obtain ⟨y4, y6, h2⟩ := bd_out a b e rs (ms ++ bds r) (.sh (mkR r)) y5 (by rw [List.length_append]; omega)
    refine ⟨y4, y6, ?_⟩
    rw [List.map_cons, ev_forC _ _ _ _ _ [a, b, e, .ow (ms.map D.int), .sh (mkR r), x5] rfl]
    have st : fFor (iSeq (fVar 4)) (tgOne 5) (fMut 3 mExtendA (aCons (fVar 5) aNil)) [a, b, e, .ow (ms.map D.int), .sh (mkR r), x5] = .nx [a, b, e, .ow ((ms ++ bds r).map D.int), .sh (mkR r), y5] := h
    rw [st, List.flatMap_cons, ← List.append_assoc]
    exact h2
theorem borders_eq (rs : List (List IP)) (b e : Int) (hl : (rs.flatMap bds).length ≤ 3900) : phi_borders [.lst (rs.map mkR), .int b, .int e] = .ok (.ow ((srt ([b, e] ++ rs.flatMap bds)).map D.int)) := by
  obtain ⟨y4, y5, h⟩ := bd_out (.sh (.lst (rs.map mkR))) (.sh (.int b)) (.sh (.int e)) rs [b, e] .no .no (by rw [List.length_cons, List.length_singleton]; omega)
  unfold phi_borders b_borders
  have z : ([b, e] : List Int).map D.int = [.int b, .int e] := rfl
  rw [z] at h
  walk_at "ev"
  rw [h]
  walk_at "ev"
  unfold fSoSet
  walk_at "ev"
  have a1 : ∀ ds, seqOf (.lst ds) = some ds := fun _ => rfl
  simp only [SV.d, a1]
  have di := dInts_map (b :: e :: rs.flatMap bds)
  simp only [List.map_cons] at di
  rw [di]
  dsimp only
  rw [if_pos (by rw [List.length_cons, List.length_cons]; omega)]
  walk_at "ev"
def mkT (t : T3) : D := .tup [.int t.1, .int t.2.1, .int t.2.2]
abbrev crB : FS := (fSeq (fAsg 8 (fCall 2 phi_how_many [] (aCons (fVar 3) (aCons (fVar 6) aNil)))) (fIte (fAnd (fT (f2 gNe (fVar 4) (fLst aNil))) (fT (f2 gEq (f2 gIx (f2 gIx (fVar 4) (f1 gNeg (fC (.int 1)))) (fC (.int 2))) (fVar 8)))) (fSetIx 4 (f1 gNeg (fC (.int 1))) (fTup (aCons (f2 gIx (f2 gIx (fVar 4) (f1 gNeg (fC (.int 1)))) (fC (.int 0))) (aCons (fVar 7) (aCons (fVar 8) aNil))))) (fMut 4 mAppend (aCons (fTup (aCons (fVar 6) (aCons (fVar 7) (aCons (fVar 8) aNil)))) aNil))))
theorem plain_T (ts : List T3) : plainD 2 (.lst (ts.map mkT)) = true := by
  unfold plainD
  induction ts with
  | nil => rfl
  | cons p ps ih =>
    rw [List.map_cons]
    unfold plainDs
    rw [ih]
    rfl
theorem ev_neT0 (ts : List T3) : gNe (.lst (ts.map mkT)) (.lst []) = some (.sh (.bl (!decide (ts = [])))) := by
  obtain ⟨b, h1, h2⟩ := deq_plain (e := .lst []) 2 (by omega) (plain_T ts) (plain_T []) ⟨_, .inl rfl⟩
  show (deq _ _).map _ = _
  rw [h1]
  have : b = decide (ts = []) := by
    rw [Bool.eq_iff_iff, h2, decide_eq_true_eq]
    constructor
    · intro h
      injection h with h
      exact List.map_eq_nil_iff.mp h
    · rintro rfl
      rfl
  rw [this]
  rfl
theorem ev_eqT (ts : List T3) : gEq (.lst (ts.map mkT)) (.lst (ts.map mkT)) = some (.sh (.bl true)) := by
  obtain ⟨b, h1, h2⟩ := deq_plain 2 (by omega) (plain_T ts) (plain_T ts) ⟨_, .inl rfl⟩
  show (deq _ _).map _ = _
  rw [h1, h2.mpr rfl]
  rfl
theorem cr_first (a b e : Sl) (rs : List (List IP)) (hl : rs.length ≤ 1000) (hr : ∀ r ∈ rs, r.length ≤ 1000) (x5 x8 : Sl) (u v : Int) : crB [a, b, e, .sh (.lst (rs.map mkR)), .ow [], x5, .sh (.int u), .sh (.int v), x8, .no] = .nx [a, b, e, .sh (.lst (rs.map mkR)), .ow [mkT (u, v, num rs u)], x5, .sh (.int u), .sh (.int v), .sh (.int (num rs u)), .no] := by
  have hm := howmany_eq rs u hl hr
  have n0 : gNe (.lst []) (.lst []) = some (.sh (.bl false)) := rfl
  unfold crB
  walk_at "ev"
  simp only [hm]
  walk_at "ev"
  simp only [n0]
  walk_at "ev"
  rw [ev_app _ _ (by simp)]
  walk_at "ev"
  rfl
theorem cr_body (a b e : Sl) (rs : List (List IP)) (hl : rs.length ≤ 1000) (hr : ∀ r ∈ rs, r.length ≤ 1000) (x5 x8 : Sl) (pre : List T3) (t : T3) (hp : pre.length ≤ 100000) (u v : Int) : crB [a, b, e, .sh (.lst (rs.map mkR)), .ow ((pre ++ [t]).map mkT), x5, .sh (.int u), .sh (.int v), x8, .no] = .nx [a, b, e, .sh (.lst (rs.map mkR)), .ow ((pre ++ (if t.2.2 = num rs u then [(t.1, v, num rs u)] else [t, (u, v, num rs u)])).map mkT), x5, .sh (.int u), .sh (.int v), .sh (.int (num rs u)), .no] := by
  have hm := howmany_eq rs u hl hr
  have n0 := ev_neT0 (pre ++ [t])
  have ne : ¬ (pre ++ [t] = []) := by simp
  have al : atI ((pre ++ [t]).map mkT) (-1) = some (mkT t) := by
    rw [List.map_append]
    exact at_last _ _
  have i2 : gIx (mkT t) (.int 2) = some (.sh (.int t.2.2)) := rfl
  have i0 : gIx (mkT t) (.int 0) = some (.sh (.int t.1)) := rfl
  unfold crB
  walk_at "ev"
  simp only [hm]
  walk_at "ev"
  simp only [n0, ne]
  walk_at "ev"
  simp only [al]
  walk_at "ev"
  simp only [i2]
  walk_at "ev"
  by_cases q : t.2.2 = num rs u
  · simp only [q]
    walk_at "ev"
    have e0 : (pre ++ [t]).map mkT = pre.map mkT ++ [mkT t] := by rw [List.map_append]; rfl
    simp only [i0]
    walk_at "ev"
    rw [e0, ixN_last]
    walk_at "ev"
    rw [set_last, List.map_append]
    rfl
  · simp only [q]
    walk_at "ev"
    rw [ev_app _ _ (by rw [List.length_map, List.length_append, List.length_singleton]; omega)]
    walk_at "ev"
    rw [List.map_append, List.map_append, List.append_assoc]
    rfl
theorem cr_loop (a b e : Sl) (rs : List (List IP)) (hl : rs.length ≤ 1000) (hr : ∀ r ∈ rs, r.length ≤ 1000) (x5 : Sl) : ∀ (l : List IP) (pre : List T3) (t : T3) (x6 x7 x8 : Sl), pre.length + l.length ≤ 100000 → ∃ y6 y7 y8, forR (tgMany [6, 7]) crB (l.map mkP) [a, b, e, .sh (.lst (rs.map mkR)), .ow ((pre ++ [t]).map mkT), x5, x6, x7, x8, .no] = .nx [a, b, e, .sh (.lst (rs.map mkR)), .ow ((pre ++ crw (num rs) t l).map mkT), x5, y6, y7, y8, .no]
  | [], pre, t, x6, x7, x8, _ => ⟨x6, x7, x8, rfl⟩
  | p :: l, pre, t, x6, x7, x8, hp => by
    rw [List.length_cons] at hp
    rw [List.map_cons]
    have st := cr_body a b e rs hl hr x5 x8 pre t (by omega) p.1 p.2
    by_cases q : t.2.2 = num rs p.1
    · obtain ⟨y6, y7, y8, h⟩ := cr_loop a b e rs hl hr x5 l pre (t.1, p.2, num rs p.1) (.sh (.int p.1)) (.sh (.int p.2)) (.sh (.int (num rs p.1))) (by omega)
      refine ⟨y6, y7, y8, ?_⟩
      rw [ev_forC _ _ _ _ _ [a, b, e, .sh (.lst (rs.map mkR)), .ow ((pre ++ [t]).map mkT), x5, .sh (.int p.1), .sh (.int p.2), x8, .no] rfl, st, if_pos q]
      have z : crw (num rs) t (p :: l) = crw (num rs) (t.1, p.2, num rs p.1) l := by
        show (if t.2.2 = num rs p.1 then _ else _) = _
        rw [if_pos q]
      rw [z]
      exact h
    · obtain ⟨y6, y7, y8, h⟩ := cr_loop a b e rs hl hr x5 l (pre ++ [t]) (p.1, p.2, num rs p.1) (.sh (.int p.1)) (.sh (.int p.2)) (.sh (.int (num rs p.1))) (by rw [List.length_append, List.length_singleton]; omega)
      refine ⟨y6, y7, y8, ?_⟩
      rw [ev_forC _ _ _ _ _ [a, b, e, .sh (.lst (rs.map mkR)), .ow ((pre ++ [t]).map mkT), x5, .sh (.int p.1), .sh (.int p.2), x8, .no] rfl, st, if_neg q]
      have z : crw (num rs) t (p :: l) = t :: crw (num rs) (p.1, p.2, num rs p.1) l := by
        show (if t.2.2 = num rs p.1 then _ else _) = _
        rw [if_neg q]
      rw [z]
      have z2 : pre ++ [t, (p.1, p.2, num rs p.1)] = pre ++ [t] ++ [(p.1, p.2, num rs p.1)] := by simp
      have z3 : pre ++ t :: crw (num rs) (p.1, p.2, num rs p.1) l = pre ++ [t] ++ crw (num rs) (p.1, p.2, num rs p.1) l := by simp
      rw [z2, z3]
      exact h
theorem zip_zp : ∀ ms : List Int, zipD (ms.map D.int) ((ms.drop 1).map D.int) = (zp ms).map mkP
  | [] => rfl
  | [u] => rfl
  | u :: v :: r => by
    have ih := zip_zp (v :: r)
    show D.tup [.int u, .int v] :: zipD ((v :: r).map D.int) (((v :: r).drop 1).map D.int) = _
    rw [ih]
    rfl
theorem crw_all (a b e x5 x6 x7 x8 : Sl) (rs : List (List IP)) (hl : rs.length ≤ 1000) (hr : ∀ r ∈ rs, r.length ≤ 1000) (l : List IP) (hp : l.length ≤ 100000) : ∃ y6 y7 y8, forR (tgMany [6, 7]) crB (l.map mkP) [a, b, e, .sh (.lst (rs.map mkR)), .ow [], x5, x6, x7, x8, .no] = .nx [a, b, e, .sh (.lst (rs.map mkR)), .ow ((crwR (num rs) l).map mkT), x5, y6, y7, y8, .no] := by
  cases l with
  | nil => exact ⟨x6, x7, x8, rfl⟩
  | cons p r =>
    rw [List.length_cons] at hp
    obtain ⟨y6, y7, y8, h⟩ := cr_loop a b e rs hl hr x5 r [] (p.1, p.2, num rs p.1) (.sh (.int p.1)) (.sh (.int p.2)) (.sh (.int (num rs p.1))) (by rw [List.length_nil]; omega)
    refine ⟨y6, y7, y8, ?_⟩
    rw [List.map_cons, ev_forC _ _ _ _ _ [a, b, e, .sh (.lst (rs.map mkR)), .ow [], x5, .sh (.int p.1), .sh (.int p.2), x8, .no] rfl, cr_first a b e rs hl hr x5 x8 p.1 p.2]
    exact h

theorem plain_rows (rs : List (List IP)) : plainD 3 (.lst (rs.map mkR)) = true := by
  unfold plainD
  induction rs with
  | nil => rfl
  | cons r rs ih =>
    rw [List.map_cons]
    unfold plainDs
    rw [ih]
    have := plain_pairs r
    unfold mkR
    rw [this]
    rfl
theorem mkR_inj (p q : List IP) (h : mkR p = mkR q) : p = q := by
  unfold mkR at h
  injection h with h
  exact map_inj mkP_inj h
theorem ev_neRs (ps qs : List (List IP)) : gNe (.lst (ps.map mkR)) (.lst (qs.map mkR)) = some (.sh (.bl (!decide (ps = qs)))) := by
  obtain ⟨b, h1, h2⟩ := deq_plain 3 (by omega) (plain_rows ps) (plain_rows qs) ⟨_, .inl rfl⟩
  show (deq _ _).map _ = _
  rw [h1]
  have : b = decide (ps = qs) := by
    rw [Bool.eq_iff_iff, h2, decide_eq_true_eq]
    exact ⟨fun h => map_inj mkR_inj (by injection h), fun h => by rw [h]⟩
  rw [this]
  rfl
theorem ev_neR0 (ps : List (List IP)) : gNe (.lst (ps.map mkR)) (.lst []) = some (.sh (.bl (!decide (ps = [])))) := ev_neRs ps []

end Lw

set_option Elab.async false
set_option linter.all false
set_option maxRecDepth 100000
set_option maxHeartbeats 4000000
namespace Lw
open PySem PySem.Spec PyProof.Rows L2 DL SM
local macro_rules | `(tactic| walk_at "ev") => `(tactic| try simp only [runF_eq, slots, List.map_cons, List.map_nil, List.length_cons, List.length_nil, List.cons_append, List.nil_append, Nat.reduceAdd, Nat.reduceSub, List.replicate_succ, List.replicate_zero, fSeq, fAsg, fRet, fRetN, fIte, fVar, fC, f1, f2, fT, fAnd, fOr, fNot, fAndV, fOrV, fNotV, fIf, fV, aNil, aCons, fN, fM, fTup, fLst, fCall, fSkip, fBrk, fCnt, fRaise, fFz, fChain, fSl, fDrop, fUnp, fAug, fFor, iSeq, iRg, dwipe,
  bind_ok, bind_ex, bind_bad, out_ok, out_ex, out_bad, seq_nx, seq_rt, seq_bk, seq_ct, seq_ex, seq_bad, ofO_some, ofO_none, List.getElem?_cons_zero, List.getElem?_cons_succ, List.set_cons_zero, List.set_cons_succ, if_true, if_false, ite_true, ite_false, Bool.true_eq_false, Bool.false_eq_true, Option.map_some, Option.map_none, decide_eq_true_eq, Bool.not_eq_true', decide_eq_false_iff_not, reduceIte, Bool.not_true, Bool.not_false,
  ev_d1, ev_d2, ev_d3, ev_f1, ev_f2, ev_f3, ev_o1, ev_o2, ev_r1, ev_r2, ev_r3, ev_asB, ev_st0, ev_st1, ev_st2, ev_add, ev_addL, ev_addT, ev_aug, ev_sub, ev_mul, mulOk_r, mulOk_l, ev_div, ev_mod, ev_lt, ev_le, ev_gt, ev_ge, ev_neg, ev_eqI, ev_eqS, ev_eqB, ev_neI, ev_neS, ev_neB, ev_isN, ev_isB, ev_ntN, ev_ntB, ev_nn0, ev_nn1, ev_nn2, ev_nn3, ev_nn4, ev_nn5, ev_isi0, ev_isi1, ev_isi2, ev_isi3, ev_isi4, ev_isi5,
  ty_bb, ty_bi, ty_bs, ty_bt, ty_bl, ty_bn, ty_ib, ty_ii, ty_is, ty_it, ty_il, ty_in, ty_sb, ty_si, ty_ss, ty_st, ty_sl, ty_sn, ty_tb, ty_ti, ty_ts, ty_tt, ty_tl, ty_tn, ty_lb, ty_li, ty_ls, ty_lt, ty_ll, ty_ln,
  ev_lenL, ev_lenT, ev_lenR, ev_lenS, ev_intI, ev_intB, ev_strS, ev_max2, ev_min2, ev_abs, ev_listL, ev_listR, ev_listT, ev_tupL, ev_tupT, ev_ixL, ev_ixT, ev_ixR, ev_slL, ev_slR, ev_slT, ev_evP0, ev_evP1, ev_evPC, ev_itL, ev_itR, ev_itT, ev_itS, ev_rg1, ev_rg2, ev_tg1, ev_tgT, ev_tgL, ev_sa0, ev_sa1, ev_dm, ev_ite_bind, ev_ite_out, ev_ite_seq, ev_ite_end, ev_forN, ev_e1, ev_e2, ev_e3, Int.reduceNeg, Int.reducePow, Int.reduceLT, Int.reduceLE, Nat.reducePow, Int.reduceAdd, Int.reduceSub, Int.reduceMul, ev_ixP0, noL_P, noL_B, noL_I, noL_S, noL_N, ev_ixP1, ev_lenP, ev_isiP, fMut, fSetIx, Int.reduceEq, eq_self, ev_line, Nat.reduceLeDiff, not_true_eq_false, not_false_eq_true, decide_true, decide_false, Bool.true_or, Bool.false_or, Bool.true_and, Bool.false_and, Bool.and_true, Bool.or_true, Bool.and_false, Bool.or_false, ite_self, Nat.reduceBEq, beq_self_eq_true, Bool.true_or, Bool.or_true, Bool.or_false, Bool.false_or, Int.cast_ofNat_Int, Int.ofNat_zero, Int.natCast_zero, ev_p9, ev_p20, ev_p12, ev_p15, ev_p18, ev_p6, uniO_c, fTryR, fTryN, fCallX, fIsX, endN, clauseK, isX])

local macro_rules | `(tactic| walk_at "sd") => `(tactic| first | decide | omega | assumption)
local macro_rules | `(tactic| walk_at "mo") => `(tactic| first | exact mulOk_r _ _ (by omega) (by omega) | exact mulOk_l _ _ (by omega) (by omega))
local macro_rules | `(tactic| walk_at "ww") => `(tactic| first
  | with_reducible exact DL.w_nil
  | ((with_reducible apply w_consS); walk_at "vv"; walk_at "ww")
  | ((with_reducible apply DL.w_cons); walk_at "vv"; walk_at "ww"))
local macro_rules | `(tactic| walk_at "vv") => `(tactic| first
  | with_reducible exact DL.v_c
  | ((with_reducible apply DL.v_var); rfl)
  | ((with_reducible apply DL.v_add); walk_at "vv"; walk_at "vv")
  | ((with_reducible apply DL.v_sub); walk_at "vv"; walk_at "vv")
  | ((with_reducible apply DL.v_mul); walk_at "vv"; walk_at "vv"; walk_at "mo")
  | ((with_reducible apply DL.v_mod); walk_at "vv"; walk_at "vv"; walk_at "sd")
  | ((with_reducible apply DL.v_div); walk_at "vv"; walk_at "vv"; walk_at "sd")
  | ((with_reducible apply DL.v_neg); walk_at "vv")
  | ((with_reducible apply DL.v_lt); walk_at "vv"; walk_at "vv")
  | ((with_reducible apply DL.v_le); walk_at "vv"; walk_at "vv")
  | ((with_reducible apply DL.v_gt); walk_at "vv"; walk_at "vv")
  | ((with_reducible apply DL.v_ge); walk_at "vv"; walk_at "vv")
  | ((with_reducible apply DL.v_eq); walk_at "vv"; walk_at "vv")
  | ((with_reducible apply DL.v_eqB); walk_at "vv"; walk_at "vv")
  | ((with_reducible apply DL.v_ne); walk_at "vv"; walk_at "vv")
  | ((with_reducible apply DL.v_max2); walk_at "vv"; walk_at "vv")
  | ((with_reducible apply DL.v_min2); walk_at "vv"; walk_at "vv")
  | ((with_reducible apply DL.v_intB); walk_at "vv")
  | ((with_reducible apply DL.v_chLL); walk_at "vv"; walk_at "vv"; walk_at "vv")
  | ((with_reducible apply DL.v_chLT); walk_at "vv"; walk_at "vv"; walk_at "vv")
  | ((with_reducible apply DL.v_and); walk_at "vv"; intro _; walk_at "vv")
  | ((with_reducible apply DL.v_or); walk_at "vv"; intro _; walk_at "vv")
  | ((with_reducible apply DL.v_not); walk_at "vv")
  | ((with_reducible apply DL.v_fld); walk_at "vv"; (first | decide | assumption); (first | rfl | assumption))
  | ((with_reducible apply DL.v_call); walk_at "ww"; rfl; rfl; walk_at "cf")
  | ((with_reducible apply DL.v_make); walk_at "ww"; rfl; rfl; walk_at "cf")
  | ((with_reducible apply DL.v_meth); walk_at "vv"; (first | decide | assumption); (first | rfl | assumption); walk_at "ww"; rfl; rfl; walk_at "cf")
  | ((with_reducible apply DL.v_tup); walk_at "ww"; rfl; (first | decide | (simp)))
  | ((with_reducible apply DL.v_lst); walk_at "ww"; rfl; (first | decide | (simp)))
  | ((with_reducible apply DL.v_ixT); walk_at "vv"; walk_at "vv"; (first | rfl | assumption))
  | ((with_reducible apply DL.v_ixO); walk_at "vv"; walk_at "vv"; (first | rfl | assumption))
  | ((with_reducible apply DL.v_ixL); walk_at "vv"; walk_at "vv"; (first | rfl | assumption))
  | walk_at "vx")
local macro_rules | `(tactic| walk_at "tt") => `(tactic| first
  | ((with_reducible apply DL.t_and); walk_at "tt"; intro _; walk_at "tt")
  | ((with_reducible apply DL.t_or); walk_at "tt"; intro _; walk_at "tt")
  | ((with_reducible apply DL.t_not); walk_at "tt")
  | ((with_reducible apply DL.t_val); walk_at "vv"))
local macro_rules | `(tactic| walk_at "aa") => `(tactic| first
  | ((with_reducible apply DL.s_asg); walk_at "vv")
  | ((with_reducible apply DL.s_asgO); walk_at "vv"))
local macro_rules | `(tactic| walk_at "cf") => `(tactic| assumption)
def Bad (l : List IP) : Prop := ∃ p ∈ l, p.2 ≤ p.1
theorem good_or (l : List IP) : Good l ∨ Bad l := by
  by_cases h : Bad l
  · exact .inr h
  · refine .inl fun p m => ?_
    have : ¬ p.2 ≤ p.1 := fun q => h ⟨p, m, q⟩
    omega
theorem forC_ex {g : D → DL.Env → Option DL.Env} {b : FS} {d : D} {ds : List D} {δ δ1 δ2 : DL.Env} {c : Nat} (hg : g d δ = some δ1) (hb : b δ1 = .ex c δ2) : forR g b (d :: ds) δ = .ex c δ2 := forC hg (by rw [hb])
theorem s_asgX {δ : DL.Env} {i c : Nat} {fa : DL.Env → Res SV} (h : fa δ = .ex c) : fAsg i fa δ = .ex c δ := by unfold fAsg; rw [h]; rfl
theorem s_retX {δ : DL.Env} {c : Nat} {fa : DL.Env → Res SV} (h : fa δ = .ex c) : fRet fa δ = .ex c δ := by unfold fRet; rw [h]; rfl
theorem s_forX {δ : DL.Env} {c : Nat} {fi : DL.Env → Res (List D)} {g : D → DL.Env → Option DL.Env} {b : FS} (h : fi δ = .ex c) : fFor fi g b δ = .ex c δ := by unfold fFor; rw [h]; rfl
theorem i_seqX {δ : DL.Env} {c : Nat} {fa : DL.Env → Res SV} (h : fa δ = .ex c) : iSeq fa δ = .ex c := by unfold iSeq; rw [h]; rfl
theorem w_consX {δ : DL.Env} {c : Nat} {fa : DL.Env → Res SV} {fl : DL.Env → Res (List SV)} (h : fa δ = .ex c) : aCons fa fl δ = .ex c := by unfold aCons; rw [h]; rfl
theorem v_fNX {δ : DL.Env} {c : Nat} {g : List D → Option SV} {fl : DL.Env → Res (List SV)} (h : fl δ = .ex c) : fN g fl δ = .ex c := by unfold fN; rw [h]; rfl
theorem v_lcX {δ : DL.Env} {c : Nat} {fi : DL.Env → Res (List D)} {g : D → DL.Env → Option DL.Env} {ft : DL.Env → Res Bool} {fe : DL.Env → Res SV} {vs : List Nat} (h : fi δ = .ex c) : fLc fi g ft fe vs δ = .ex c := by unfold fLc; rw [h]; rfl
theorem needB_loop (a : Sl) : ∀ (l : List IP) (x y : Sl), Bad l → ∃ δ', forR (tgMany [1, 2]) (fIte (fT (f2 gLe (fVar 2) (fVar 1))) (fRaise 5) fSkip) (l.map mkP) [a, x, y] = .ex 5 δ'
  | [], _, _, h => by obtain ⟨p, m, _⟩ := h; cases m
  | p :: l, x, y, h => by
    rw [List.map_cons]
    by_cases q : p.2 ≤ p.1
    · exact ⟨_, forC_ex (δ1 := [a, .sh (.int p.1), .sh (.int p.2)]) rfl (s_iteT (t_is (t_val (v_le (v_var rfl) (v_var rfl))) (decide_eq_true q)) rfl)⟩
    · obtain ⟨p', m, h'⟩ := h
      have hl : Bad l := by
        rcases List.mem_cons.mp m with rfl | m
        · exact absurd h' q
        · exact ⟨p', m, h'⟩
      obtain ⟨δ', e⟩ := needB_loop a l (.sh (.int p.1)) (.sh (.int p.2)) hl
      exact ⟨δ', forC_nx (δ1 := [a, .sh (.int p.1), .sh (.int p.2)]) rfl (s_iteN (t_is (t_val (v_le (v_var rfl) (v_var rfl))) (decide_eq_false q)) rfl) e⟩
theorem need_bad (l : List IP) (h : Bad l) : phi_need_spans [.lst (l.map mkP)] = .ex 5 := by
  obtain ⟨δ', e⟩ := needB_loop (.sh (.lst (l.map mkP))) l .no .no h
  exact run_ex (s_for (seqL rfl) e)
theorem laid_bad (l : List IP) (h : Bad l) : phi_laid [.lst (l.map mkP)] = .ex 5 :=
  run_ex (s_ex (s_dropX (v_call (w_consS (v_var rfl) w_nil) rfl rfl (need_bad l h))))
theorem minus_bad1 (l : List IP) (d : D) (h : Bad l) : phi_minus [.lst (l.map mkP), d] = .ex 5 :=
  run_ex (s_ex (s_asgX (v_call (w_consS (v_var rfl) w_nil) rfl rfl (laid_bad l h))))
theorem minus_bad2 (one l : List IP) (g : Good one) (hl : one.length ≤ 10000) (h : Bad l) : phi_minus [.lst (one.map mkP), .lst (l.map mkP)] = .ex 5 :=
  run_ex (s_seq (s_asgO (v_call (w_consS (v_var rfl) w_nil) rfl rfl (laid_eq one g hl))) (s_ex (s_forX (i_seqX (v_call (w_consS (v_var rfl) w_nil) rfl rfl (laid_bad l h))))))
theorem both_bad2 (l : List IP) (d : D) (h : Bad l) : phi_both [d, .lst (l.map mkP)] = .ex 5 :=
  run_ex (s_seq (s_asgO (v_lst w_nil rfl (by simp))) (s_ex (s_asgX (v_call (w_consS (v_var rfl) w_nil) rfl rfl (laid_bad l h)))))
theorem both_bad1 (l other : List IP) (g : Good other) (hl : other.length ≤ 10000) (h : Bad l) : phi_both [.lst (l.map mkP), .lst (other.map mkP)] = .ex 5 :=
  run_ex (s_seq (s_asgO (v_lst w_nil rfl (by simp))) (s_seq (s_asgO (v_call (w_consS (v_var rfl) w_nil) rfl rfl (laid_eq other g hl))) (s_ex (s_forX (i_seqX (v_call (w_consS (v_var rfl) w_nil) rfl rfl (laid_bad l h)))))))
theorem cut_bad (l : List IP) (b e : Int) (h : Bad l) : phi_cut [.lst (l.map mkP), .int b, .int e] = .ex 5 := by
  by_cases q : e ≤ b
  · exact run_ex (s_ex (s_iteT (t_is (t_val (v_le (v_var rfl) (v_var rfl))) (decide_eq_true q)) (s_ex (s_dropX (v_call (w_consS (v_var rfl) w_nil) rfl rfl (need_bad l h))))))
  · refine run_ex (s_seq (s_iteN (t_is (t_val (v_le (v_var rfl) (v_var rfl))) (decide_eq_false q)) rfl) (s_retX ?_))
    refine v_call (w_consS (v_var rfl) (DL.w_cons (v_lst (w_consS (v_tup (w_consS (v_var rfl) (w_consS (v_var rfl) w_nil)) rfl (by simp)) w_nil) rfl (by simp)) w_nil)) rfl rfl ?_
    exact both_bad1 l [(b, e)] (fun p m => by rw [List.mem_singleton] at m; subst m; dsimp only; omega) (by simp) h
theorem taken_bad (l : List IP) (h : Bad l) : phi_taken [.lst (l.map mkP)] = .ex 5 :=
  run_ex (s_retX (v_fNX (w_consX (v_lcX (i_seqX (v_call (w_consS (v_var rfl) w_nil) rfl rfl (laid_bad l h)))))))
theorem allsB_loop (p0 : Sl) : ∀ (rs : List (List IP)) (F : List IP) (x2 : Sl), (∃ r ∈ rs, Bad r) → F.length + rs.flatten.length ≤ 100000 → ∃ δ', forR (tgOne 2) (fSeq (fDrop (fCall 1 phi_need_spans [] (aCons (fVar 2) aNil))) (fMut 1 mExtendA (aCons (fVar 2) aNil))) (rs.map mkR) [p0, .ow (F.map mkP), x2] = .ex 5 δ'
  | [], _, _, h, _ => by obtain ⟨p, m, _⟩ := h; cases m
  | r :: rs, F, x2, h, hl => by
    rw [List.flatten_cons, List.length_append] at hl
    rw [List.map_cons]
    rcases good_or r with g | g
    · obtain ⟨r', m, h'⟩ := h
      have hr : ∃ r ∈ rs, Bad r := by
        rcases List.mem_cons.mp m with rfl | m
        · obtain ⟨p, mp, hp⟩ := h'
          have := g p mp
          omega
        · exact ⟨r', m, h'⟩
      obtain ⟨δ', e⟩ := allsB_loop p0 rs (F ++ r) (.sh (mkR r)) hr (by rw [List.length_append]; omega)
      have ex : mExtendA (F.map mkP) [.lst (r.map mkP)] = some ((F ++ r).map mkP, .non) := by
        unfold mExtendA
        dsimp only
        unfold mExtend
        dsimp only
        rw [if_pos (line_of (by rw [List.length_map, List.length_map]; omega)), List.map_append]
      refine ⟨δ', forC_nx (δ1 := [p0, .ow (F.map mkP), .sh (mkR r)]) (δ2 := [p0, .ow ((F ++ r).map mkP), .sh (mkR r)]) rfl (s_seq (s_drop (v_call (w_consS (v_var rfl) w_nil) rfl rfl (need_eq r g))) ?_) e⟩
      unfold fMut
      show ((aCons (fVar 2) aNil) [p0, .ow (F.map mkP), .sh (mkR r)]).out _ _ = _
      rw [w_consS (v_var rfl) w_nil]
      show (match mExtendA (F.map mkP) [.lst (r.map mkP)] with | some (ds', _) => Out.nx _ | none => .bad) = _
      rw [ex]
      rfl
    · exact ⟨_, forC_ex (δ1 := [p0, .ow (F.map mkP), .sh (mkR r)]) rfl (s_ex (s_dropX (v_call (w_consS (v_var rfl) w_nil) rfl rfl (need_bad r g))))⟩
theorem alls_bad (rs : List (List IP)) (h : ∃ r ∈ rs, Bad r) (hl : rs.flatten.length ≤ 10000) : phi_all_spans [.lst (rs.map mkR)] = .ex 5 := by
  obtain ⟨δ', e⟩ := allsB_loop (.sh (.lst (rs.map mkR))) rs [] .no h (by rw [List.length_nil]; omega)
  exact run_ex (s_seq (s_asgO (v_lst w_nil rfl (by simp))) (s_ex (s_for (seqL rfl) e)))
theorem free_bad (rs : List (List IP)) (b e least : Int) (h : ∃ r ∈ rs, Bad r) (hl : rs.flatten.length ≤ 10000) : phi_free [.lst (rs.map mkR), .int b, .int e, .int least] = .ex 5 :=
  run_ex (s_ex (s_asgX (v_call (w_consS (v_var rfl) w_nil) rfl rfl (alls_bad rs h hl))))
theorem ffree_bad (rs : List (List IP)) (b e least : Int) (h : ∃ r ∈ rs, Bad r) (hl : rs.flatten.length ≤ 10000) : phi_first_free [.lst (rs.map mkR), .int b, .int e, .int least] = .ex 5 :=
  run_ex (s_ex (s_forX (i_seqX (v_call (w_consS (v_var rfl) (w_consS (v_var rfl) (w_consS (v_var rfl) (w_consS (v_var rfl) w_nil)))) rfl rfl (free_bad rs b e least h hl)))))

end Lw

set_option Elab.async false
set_option linter.all false
set_option maxRecDepth 100000
set_option maxHeartbeats 4000000
namespace Lw
open PySem PySem.Spec PyProof.Rows L2 DL SM TM
local macro_rules | `(tactic| walk_at "ev") => `(tactic| try simp only [runF_eq, slots, List.map_cons, List.map_nil, List.length_cons, List.length_nil, List.cons_append, List.nil_append, Nat.reduceAdd, Nat.reduceSub, List.replicate_succ, List.replicate_zero, fSeq, fAsg, fRet, fRetN, fIte, fVar, fC, f1, f2, fT, fAnd, fOr, fNot, fAndV, fOrV, fNotV, fIf, fV, aNil, aCons, fN, fM, fTup, fLst, fCall, fSkip, fBrk, fCnt, fRaise, fFz, fChain, fSl, fDrop, fUnp, fAug, fFor, iSeq, iRg, dwipe,
  bind_ok, bind_ex, bind_bad, out_ok, out_ex, out_bad, seq_nx, seq_rt, seq_bk, seq_ct, seq_ex, seq_bad, ofO_some, ofO_none, List.getElem?_cons_zero, List.getElem?_cons_succ, List.set_cons_zero, List.set_cons_succ, if_true, if_false, ite_true, ite_false, Bool.true_eq_false, Bool.false_eq_true, Option.map_some, Option.map_none, decide_eq_true_eq, Bool.not_eq_true', decide_eq_false_iff_not, reduceIte, Bool.not_true, Bool.not_false,
  ev_d1, ev_d2, ev_d3, ev_f1, ev_f2, ev_f3, ev_o1, ev_o2, ev_r1, ev_r2, ev_r3, ev_asB, ev_st0, ev_st1, ev_st2, ev_add, ev_addL, ev_addT, ev_aug, ev_sub, ev_mul, mulOk_r, mulOk_l, ev_div, ev_mod, ev_lt, ev_le, ev_gt, ev_ge, ev_neg, ev_eqI, ev_eqS, ev_eqB, ev_neI, ev_neS, ev_neB, ev_isN, ev_isB, ev_ntN, ev_ntB, ev_nn0, ev_nn1, ev_nn2, ev_nn3, ev_nn4, ev_nn5, ev_isi0, ev_isi1, ev_isi2, ev_isi3, ev_isi4, ev_isi5,
  ty_bb, ty_bi, ty_bs, ty_bt, ty_bl, ty_bn, ty_ib, ty_ii, ty_is, ty_it, ty_il, ty_in, ty_sb, ty_si, ty_ss, ty_st, ty_sl, ty_sn, ty_tb, ty_ti, ty_ts, ty_tt, ty_tl, ty_tn, ty_lb, ty_li, ty_ls, ty_lt, ty_ll, ty_ln,
  ev_lenL, ev_lenT, ev_lenR, ev_lenS, ev_intI, ev_intB, ev_strS, ev_max2, ev_min2, ev_abs, ev_listL, ev_listR, ev_listT, ev_tupL, ev_tupT, ev_ixL, ev_ixT, ev_ixR, ev_slL, ev_slR, ev_slT, ev_evP0, ev_evP1, ev_evPC, ev_itL, ev_itR, ev_itT, ev_itS, ev_rg1, ev_rg2, ev_tg1, ev_tgT, ev_tgL, ev_sa0, ev_sa1, ev_dm, ev_ite_bind, ev_ite_out, ev_ite_seq, ev_ite_end, ev_forN, ev_e1, ev_e2, ev_e3, Int.reduceNeg, Int.reducePow, Int.reduceLT, Int.reduceLE, Nat.reducePow, Int.reduceAdd, Int.reduceSub, Int.reduceMul, ev_ixP0, noL_P, noL_B, noL_I, noL_S, noL_N, ev_ixP1, ev_lenP, ev_isiP, fMut, fSetIx, Int.reduceEq, eq_self, ev_line, Nat.reduceLeDiff, not_true_eq_false, not_false_eq_true, decide_true, decide_false, Bool.true_or, Bool.false_or, Bool.true_and, Bool.false_and, Bool.and_true, Bool.or_true, Bool.and_false, Bool.or_false, ite_self, Nat.reduceBEq, beq_self_eq_true, Bool.true_or, Bool.or_true, Bool.or_false, Bool.false_or, Int.cast_ofNat_Int, Int.ofNat_zero, Int.natCast_zero, ev_p9, ev_p20, ev_p12, ev_p15, ev_p18, ev_p6, uniO_c, fTryR, fTryN, fCallX, fIsX, endN, clauseK, isX])

local macro_rules | `(tactic| walk_at "sd") => `(tactic| first | decide | omega | assumption)
local macro_rules | `(tactic| walk_at "mo") => `(tactic| first | exact mulOk_r _ _ (by omega) (by omega) | exact mulOk_l _ _ (by omega) (by omega))
local macro_rules | `(tactic| walk_at "ww") => `(tactic| first
  | with_reducible exact DL.w_nil
  | ((with_reducible apply w_consS); walk_at "vv"; walk_at "ww")
  | ((with_reducible apply DL.w_cons); walk_at "vv"; walk_at "ww"))
local macro_rules | `(tactic| walk_at "vv") => `(tactic| first
  | with_reducible exact DL.v_c
  | ((with_reducible apply DL.v_var); rfl)
  | ((with_reducible apply DL.v_add); walk_at "vv"; walk_at "vv")
  | ((with_reducible apply DL.v_sub); walk_at "vv"; walk_at "vv")
  | ((with_reducible apply DL.v_mul); walk_at "vv"; walk_at "vv"; walk_at "mo")
  | ((with_reducible apply DL.v_mod); walk_at "vv"; walk_at "vv"; walk_at "sd")
  | ((with_reducible apply DL.v_div); walk_at "vv"; walk_at "vv"; walk_at "sd")
  | ((with_reducible apply DL.v_neg); walk_at "vv")
  | ((with_reducible apply DL.v_lt); walk_at "vv"; walk_at "vv")
  | ((with_reducible apply DL.v_le); walk_at "vv"; walk_at "vv")
  | ((with_reducible apply DL.v_gt); walk_at "vv"; walk_at "vv")
  | ((with_reducible apply DL.v_ge); walk_at "vv"; walk_at "vv")
  | ((with_reducible apply DL.v_eq); walk_at "vv"; walk_at "vv")
  | ((with_reducible apply DL.v_eqB); walk_at "vv"; walk_at "vv")
  | ((with_reducible apply DL.v_ne); walk_at "vv"; walk_at "vv")
  | ((with_reducible apply DL.v_max2); walk_at "vv"; walk_at "vv")
  | ((with_reducible apply DL.v_min2); walk_at "vv"; walk_at "vv")
  | ((with_reducible apply DL.v_intB); walk_at "vv")
  | ((with_reducible apply DL.v_chLL); walk_at "vv"; walk_at "vv"; walk_at "vv")
  | ((with_reducible apply DL.v_chLT); walk_at "vv"; walk_at "vv"; walk_at "vv")
  | ((with_reducible apply DL.v_and); walk_at "vv"; intro _; walk_at "vv")
  | ((with_reducible apply DL.v_or); walk_at "vv"; intro _; walk_at "vv")
  | ((with_reducible apply DL.v_not); walk_at "vv")
  | ((with_reducible apply DL.v_fld); walk_at "vv"; (first | decide | assumption); (first | rfl | assumption))
  | ((with_reducible apply DL.v_call); walk_at "ww"; rfl; rfl; walk_at "cf")
  | ((with_reducible apply DL.v_make); walk_at "ww"; rfl; rfl; walk_at "cf")
  | ((with_reducible apply DL.v_meth); walk_at "vv"; (first | decide | assumption); (first | rfl | assumption); walk_at "ww"; rfl; rfl; walk_at "cf")
  | ((with_reducible apply DL.v_tup); walk_at "ww"; rfl; (first | decide | (simp)))
  | ((with_reducible apply DL.v_lst); walk_at "ww"; rfl; (first | decide | (simp)))
  | ((with_reducible apply DL.v_ixT); walk_at "vv"; walk_at "vv"; (first | rfl | assumption))
  | ((with_reducible apply DL.v_ixO); walk_at "vv"; walk_at "vv"; (first | rfl | assumption))
  | ((with_reducible apply DL.v_ixL); walk_at "vv"; walk_at "vv"; (first | rfl | assumption))
  | walk_at "vx")
local macro_rules | `(tactic| walk_at "tt") => `(tactic| first
  | ((with_reducible apply DL.t_and); walk_at "tt"; intro _; walk_at "tt")
  | ((with_reducible apply DL.t_or); walk_at "tt"; intro _; walk_at "tt")
  | ((with_reducible apply DL.t_not); walk_at "tt")
  | ((with_reducible apply DL.t_val); walk_at "vv"))
local macro_rules | `(tactic| walk_at "aa") => `(tactic| first
  | ((with_reducible apply DL.s_asg); walk_at "vv")
  | ((with_reducible apply DL.s_asgO); walk_at "vv"))
local macro_rules | `(tactic| walk_at "cf") => `(tactic| assumption)
theorem flat_bds (f : List IP → List IP) (k : Nat) : ∀ rs : List (List IP), (∀ r ∈ rs, (f r).length ≤ k) → ((rs.map f).flatMap bds).length ≤ 2 * k * rs.length
  | [], _ => Nat.le_refl _
  | r :: rs, h => by
    have ih := flat_bds f k rs fun q m => h q (List.mem_cons_of_mem _ m)
    have := h r (List.mem_cons_self ..)
    rw [List.map_cons, List.flatMap_cons, List.length_append, bds_len, List.length_cons, Nat.mul_succ]
    omega
theorem lcRX_A {α : Type} {g : D → DL.Env → Option DL.Env} {fe : DL.Env → Res SV} {δ : DL.Env} (mk : α → D) (h : α → D) : ∀ xs : List α, (∀ x ∈ xs, ∃ δ1 s, g (mk x) δ = some δ1 ∧ fe δ1 = .ok s ∧ s.fz = .sh (h x)) → lcRX g fYes fe δ (xs.map mk) = .ok (xs.map h)
  | [], _ => rfl
  | x :: xs, H => by
    obtain ⟨δ1, s, e1, e2, e3⟩ := H x (List.mem_cons_self ..)
    have ih := lcRX_A mk h xs fun x m => H x (List.mem_cons_of_mem _ m)
    rw [List.map_cons]
    unfold lcRX
    rw [e1]
    dsimp only [fYes]
    rw [e2]
    dsimp only
    rw [e3]
    dsimp only
    rw [ih]
    rfl
theorem lcRX_E {α : Type} {g : D → DL.Env → Option DL.Env} {fe : DL.Env → Res SV} {δ : DL.Env} {c : Nat} (mk : α → D) (P : α → Prop) : ∀ xs : List α, (∀ x ∈ xs, ∃ δ1, g (mk x) δ = some δ1 ∧ ((P x ∧ fe δ1 = .ex c) ∨ (¬ P x ∧ ∃ s e, fe δ1 = .ok s ∧ s.fz = .sh e))) → (∃ x ∈ xs, P x) → lcRX g fYes fe δ (xs.map mk) = .ex c
  | [], _, h => by obtain ⟨_, m, _⟩ := h; cases m
  | x :: xs, H, h => by
    obtain ⟨δ1, e1, e2⟩ := H x (List.mem_cons_self ..)
    rw [List.map_cons]
    unfold lcRX
    rw [e1]
    dsimp only [fYes]
    rcases e2 with ⟨_, e2⟩ | ⟨np, s, e, e2, e3⟩
    · rw [e2]
    · have h' : ∃ x ∈ xs, P x := by
        obtain ⟨y, m, hy⟩ := h
        rcases List.mem_cons.mp m with rfl | m
        · exact absurd hy np
        · exact ⟨y, m, hy⟩
      have ih := lcRX_E mk P xs (fun x m => H x (List.mem_cons_of_mem _ m)) h'
      rw [e2]
      dsimp only
      rw [e3]
      dsimp only
      rw [ih]
      rfl
theorem crowd_bad (rs : List (List IP)) (b e : Int) (h : ∃ r ∈ rs, Bad r) (hl : rs.length ≤ 1000) (hr : ∀ r ∈ rs, r.length ≤ 10000) : phi_crowd [.lst (rs.map mkR), .int b, .int e] = .ex 5 := by
  refine run_ex (s_ex (s_asgX ?_))
  have x := lcRX_E (g := tgOne 9) (fe := fCall 3 phi_cut [] (aCons (fVar 9) (aCons (fVar 1) (aCons (fVar 2) aNil)))) (δ := [.sh (.lst (rs.map mkR)), .sh (.int b), .sh (.int e), .no, .no, .no, .no, .no, .no, .no]) (c := 5) mkR Bad rs (fun r m => by
    refine ⟨[.sh (.lst (rs.map mkR)), .sh (.int b), .sh (.int e), .no, .no, .no, .no, .no, .no, .sh (mkR r)], rfl, ?_⟩
    by_cases q : Bad r
    · exact .inl ⟨q, v_call (w_consS (v_var rfl) (w_consS (v_var rfl) (w_consS (v_var rfl) w_nil))) rfl rfl (cut_bad r b e q)⟩
    · have g : Good r := (good_or r).resolve_right q
      exact .inr ⟨q, _, _, v_call (w_consS (v_var rfl) (w_consS (v_var rfl) (w_consS (v_var rfl) w_nil))) rfl rfl (cut_eq r g (hr r m) b e), rfl⟩) h
  unfold fLcX
  rw [show iSeq (fVar 0) _ = .ok (rs.map mkR) from rfl, bind_ok, if_pos (line_of (by rw [List.length_map]; omega))]
  show (lcRX (tgOne 9) fYes (fCall 3 phi_cut [] (aCons (fVar 9) (aCons (fVar 1) (aCons (fVar 2) aNil)))) [.sh (.lst (rs.map mkR)), .sh (.int b), .sh (.int e), .no, .no, .no, .no, .no, .no, .no] (rs.map mkR)).bind _ = _
  rw [x]
  rfl
theorem crowd_ok (rs : List (List IP)) (g : ∀ r ∈ rs, Good r) (hr : ∀ r ∈ rs, r.length ≤ 100) (hl : rs.length ≤ 5) (b e : Int) : phi_crowd [.lst (rs.map mkR), .int b, .int e] = .ok (.ow ((crowdP rs b e).map mkT)) := by
  have cs := fun r (h : r ∈ rs) => cut_spec (g r h) b e
  have lc : fLcX (iSeq (fVar 0)) (tgOne 9) fYes (fCall 3 phi_cut [] (aCons (fVar 9) (aCons (fVar 1) (aCons (fVar 2) aNil)))) [9] [.sh (.lst (rs.map mkR)), .sh (.int b), .sh (.int e), .no, .no, .no, .no, .no, .no, .no] = .ok (.ow ((inner rs b e).map mkR)) := by
    have := lcRX_A (g := tgOne 9) (fe := fCall 3 phi_cut [] (aCons (fVar 9) (aCons (fVar 1) (aCons (fVar 2) aNil)))) (δ := [.sh (.lst (rs.map mkR)), .sh (.int b), .sh (.int e), .no, .no, .no, .no, .no, .no, .no]) mkR (fun r => mkR (cutP r b e)) rs (by
      intro r hr'
      have c := cut_eq r (g r hr') (by have := hr r hr'; omega) b e
      exact ⟨[.sh (.lst (rs.map mkR)), .sh (.int b), .sh (.int e), .no, .no, .no, .no, .no, .no, .sh (mkR r)], .ow ((cutP r b e).map mkP), rfl, v_call (w_consS (v_var rfl) (w_consS (v_var rfl) (w_consS (v_var rfl) w_nil))) rfl rfl c, rfl⟩)
    unfold fLcX
    rw [show iSeq (fVar 0) _ = .ok (rs.map mkR) from rfl, bind_ok, if_pos (line_of (by rw [List.length_map]; omega))]
    show (lcRX (tgOne 9) fYes (fCall 3 phi_cut [] (aCons (fVar 9) (aCons (fVar 1) (aCons (fVar 2) aNil)))) [.sh (.lst (rs.map mkR)), .sh (.int b), .sh (.int e), .no, .no, .no, .no, .no, .no, .no] (rs.map mkR)).bind _ = _
    rw [this]
    unfold inner
    rw [List.map_map]
    rfl
  unfold phi_crowd b_crowd
  walk_at "ev"
  rw [lc]
  walk_at "ev"
  unfold crowdP
  by_cases q : e ≤ b
  · simp only [q]
    walk_at "ev"
  · have il : (inner rs b e).length = rs.length := List.length_map ..
    have ir : ∀ r ∈ inner rs b e, r.length ≤ 100 := fun r' m => by
      obtain ⟨r, h1, rfl⟩ := List.mem_map.mp m
      have := (cs r h1).2.2.1
      have := hr r h1
      omega
    have fb : ((inner rs b e).flatMap bds).length ≤ 2 * 100 * rs.length := flat_bds (fun r => cutP r b e) 100 rs fun r m => by
      have := (cs r m).2.2.1
      have := hr r m
      omega
    have bo := borders_eq (inner rs b e) b e (by omega)
    have ml : (marks rs b e).length ≤ 2 + 1000 := by
      unfold marks
      have := len_srt ([b, e] ++ (inner rs b e).flatMap bds)
      rw [List.length_append, List.length_cons, List.length_singleton] at this
      omega
    have zl := zp_len (marks rs b e)
    obtain ⟨y6, y7, y8, h⟩ := crw_all (.sh (.lst (rs.map mkR))) (.sh (.int b)) (.sh (.int e)) (.sh (.lst ((marks rs b e).map D.int))) .no .no .no (inner rs b e) (by omega) (fun r m => by have := ir r m; omega) (zp (marks rs b e)) (by omega)
    have zz : iZip (aCons (fVar 5) (aCons (fSl (fVar 5) (some (fC (.int 1))) none) aNil)) [.sh (.lst (rs.map mkR)), .sh (.int b), .sh (.int e), .sh (.lst ((inner rs b e).map mkR)), .ow [], .sh (.lst ((marks rs b e).map D.int)), .no, .no, .no, .no] = .ok ((zp (marks rs b e)).map mkP) := by
      unfold DL.iZip
      walk_at "ev"
      rw [cutD_map, cutG_drop _ _ (by omega), show (1 : Int).toNat = 1 from rfl, zip_zp]
    have mk : srt ([b, e] ++ (inner rs b e).flatMap bds) = marks rs b e := rfl
    rw [mk] at bo
    unfold crB at h
    simp only [q]
    walk_at "ev"
    simp only [bo]
    walk_at "ev"
    rw [zz]
    walk_at "ev"
    rw [h]
    walk_at "ev"

end Lw

set_option Elab.async false
set_option linter.all false
set_option maxRecDepth 100000
set_option maxHeartbeats 4000000
namespace Lw
open PySem PySem.Spec PyProof.Rows L2 DL SM TM
local macro_rules | `(tactic| walk_at "ev") => `(tactic| try simp only [runF_eq, slots, List.map_cons, List.map_nil, List.length_cons, List.length_nil, List.cons_append, List.nil_append, Nat.reduceAdd, Nat.reduceSub, List.replicate_succ, List.replicate_zero, fSeq, fAsg, fRet, fRetN, fIte, fVar, fC, f1, f2, fT, fAnd, fOr, fNot, fAndV, fOrV, fNotV, fIf, fV, aNil, aCons, fN, fM, fTup, fLst, fCall, fSkip, fBrk, fCnt, fRaise, fFz, fChain, fSl, fDrop, fUnp, fAug, fFor, iSeq, iRg, dwipe,
  bind_ok, bind_ex, bind_bad, out_ok, out_ex, out_bad, seq_nx, seq_rt, seq_bk, seq_ct, seq_ex, seq_bad, ofO_some, ofO_none, List.getElem?_cons_zero, List.getElem?_cons_succ, List.set_cons_zero, List.set_cons_succ, if_true, if_false, ite_true, ite_false, Bool.true_eq_false, Bool.false_eq_true, Option.map_some, Option.map_none, decide_eq_true_eq, Bool.not_eq_true', decide_eq_false_iff_not, reduceIte, Bool.not_true, Bool.not_false,
  ev_d1, ev_d2, ev_d3, ev_f1, ev_f2, ev_f3, ev_o1, ev_o2, ev_r1, ev_r2, ev_r3, ev_asB, ev_st0, ev_st1, ev_st2, ev_add, ev_addL, ev_addT, ev_aug, ev_sub, ev_mul, mulOk_r, mulOk_l, ev_div, ev_mod, ev_lt, ev_le, ev_gt, ev_ge, ev_neg, ev_eqI, ev_eqS, ev_eqB, ev_neI, ev_neS, ev_neB, ev_isN, ev_isB, ev_ntN, ev_ntB, ev_nn0, ev_nn1, ev_nn2, ev_nn3, ev_nn4, ev_nn5, ev_isi0, ev_isi1, ev_isi2, ev_isi3, ev_isi4, ev_isi5,
  ty_bb, ty_bi, ty_bs, ty_bt, ty_bl, ty_bn, ty_ib, ty_ii, ty_is, ty_it, ty_il, ty_in, ty_sb, ty_si, ty_ss, ty_st, ty_sl, ty_sn, ty_tb, ty_ti, ty_ts, ty_tt, ty_tl, ty_tn, ty_lb, ty_li, ty_ls, ty_lt, ty_ll, ty_ln,
  ev_lenL, ev_lenT, ev_lenR, ev_lenS, ev_intI, ev_intB, ev_strS, ev_max2, ev_min2, ev_abs, ev_listL, ev_listR, ev_listT, ev_tupL, ev_tupT, ev_ixL, ev_ixT, ev_ixR, ev_slL, ev_slR, ev_slT, ev_evP0, ev_evP1, ev_evPC, ev_itL, ev_itR, ev_itT, ev_itS, ev_rg1, ev_rg2, ev_tg1, ev_tgT, ev_tgL, ev_sa0, ev_sa1, ev_dm, ev_ite_bind, ev_ite_out, ev_ite_seq, ev_ite_end, ev_forN, ev_e1, ev_e2, ev_e3, Int.reduceNeg, Int.reducePow, Int.reduceLT, Int.reduceLE, Nat.reducePow, Int.reduceAdd, Int.reduceSub, Int.reduceMul, ev_ixP0, noL_P, noL_B, noL_I, noL_S, noL_N, ev_ixP1, ev_lenP, ev_isiP, fMut, fSetIx, Int.reduceEq, eq_self, ev_line, Nat.reduceLeDiff, not_true_eq_false, not_false_eq_true, decide_true, decide_false, Bool.true_or, Bool.false_or, Bool.true_and, Bool.false_and, Bool.and_true, Bool.or_true, Bool.and_false, Bool.or_false, ite_self, Nat.reduceBEq, beq_self_eq_true, Bool.true_or, Bool.or_true, Bool.or_false, Bool.false_or, Int.cast_ofNat_Int, Int.ofNat_zero, Int.natCast_zero, ev_p9, ev_p20, ev_p12, ev_p15, ev_p18, ev_p6, uniO_c, fTryR, fTryN, fCallX, fIsX, endN, clauseK, isX])

local macro_rules | `(tactic| walk_at "sd") => `(tactic| first | decide | omega | assumption)
local macro_rules | `(tactic| walk_at "mo") => `(tactic| first | exact mulOk_r _ _ (by omega) (by omega) | exact mulOk_l _ _ (by omega) (by omega))
local macro_rules | `(tactic| walk_at "ww") => `(tactic| first
  | with_reducible exact DL.w_nil
  | ((with_reducible apply w_consS); walk_at "vv"; walk_at "ww")
  | ((with_reducible apply DL.w_cons); walk_at "vv"; walk_at "ww"))
local macro_rules | `(tactic| walk_at "vv") => `(tactic| first
  | with_reducible exact DL.v_c
  | ((with_reducible apply DL.v_var); rfl)
  | ((with_reducible apply DL.v_add); walk_at "vv"; walk_at "vv")
  | ((with_reducible apply DL.v_sub); walk_at "vv"; walk_at "vv")
  | ((with_reducible apply DL.v_mul); walk_at "vv"; walk_at "vv"; walk_at "mo")
  | ((with_reducible apply DL.v_mod); walk_at "vv"; walk_at "vv"; walk_at "sd")
  | ((with_reducible apply DL.v_div); walk_at "vv"; walk_at "vv"; walk_at "sd")
  | ((with_reducible apply DL.v_neg); walk_at "vv")
  | ((with_reducible apply DL.v_lt); walk_at "vv"; walk_at "vv")
  | ((with_reducible apply DL.v_le); walk_at "vv"; walk_at "vv")
  | ((with_reducible apply DL.v_gt); walk_at "vv"; walk_at "vv")
  | ((with_reducible apply DL.v_ge); walk_at "vv"; walk_at "vv")
  | ((with_reducible apply DL.v_eq); walk_at "vv"; walk_at "vv")
  | ((with_reducible apply DL.v_eqB); walk_at "vv"; walk_at "vv")
  | ((with_reducible apply DL.v_ne); walk_at "vv"; walk_at "vv")
  | ((with_reducible apply DL.v_max2); walk_at "vv"; walk_at "vv")
  | ((with_reducible apply DL.v_min2); walk_at "vv"; walk_at "vv")
  | ((with_reducible apply DL.v_intB); walk_at "vv")
  | ((with_reducible apply DL.v_chLL); walk_at "vv"; walk_at "vv"; walk_at "vv")
  | ((with_reducible apply DL.v_chLT); walk_at "vv"; walk_at "vv"; walk_at "vv")
  | ((with_reducible apply DL.v_and); walk_at "vv"; intro _; walk_at "vv")
  | ((with_reducible apply DL.v_or); walk_at "vv"; intro _; walk_at "vv")
  | ((with_reducible apply DL.v_not); walk_at "vv")
  | ((with_reducible apply DL.v_fld); walk_at "vv"; (first | decide | assumption); (first | rfl | assumption))
  | ((with_reducible apply DL.v_call); walk_at "ww"; rfl; rfl; walk_at "cf")
  | ((with_reducible apply DL.v_make); walk_at "ww"; rfl; rfl; walk_at "cf")
  | ((with_reducible apply DL.v_meth); walk_at "vv"; (first | decide | assumption); (first | rfl | assumption); walk_at "ww"; rfl; rfl; walk_at "cf")
  | ((with_reducible apply DL.v_tup); walk_at "ww"; rfl; (first | decide | (simp)))
  | ((with_reducible apply DL.v_lst); walk_at "ww"; rfl; (first | decide | (simp)))
  | ((with_reducible apply DL.v_ixT); walk_at "vv"; walk_at "vv"; (first | rfl | assumption))
  | ((with_reducible apply DL.v_ixO); walk_at "vv"; walk_at "vv"; (first | rfl | assumption))
  | ((with_reducible apply DL.v_ixL); walk_at "vv"; walk_at "vv"; (first | rfl | assumption))
  | walk_at "vx")
local macro_rules | `(tactic| walk_at "tt") => `(tactic| first
  | ((with_reducible apply DL.t_and); walk_at "tt"; intro _; walk_at "tt")
  | ((with_reducible apply DL.t_or); walk_at "tt"; intro _; walk_at "tt")
  | ((with_reducible apply DL.t_not); walk_at "tt")
  | ((with_reducible apply DL.t_val); walk_at "vv"))
local macro_rules | `(tactic| walk_at "aa") => `(tactic| first
  | ((with_reducible apply DL.s_asg); walk_at "vv")
  | ((with_reducible apply DL.s_asgO); walk_at "vv"))
local macro_rules | `(tactic| walk_at "cf") => `(tactic| assumption)
theorem alone_eq (a : Addr) : phi__law_alone a 5 [.exc a] = .ok (.sh (.bl true)) := by
  have s1 : ∀ (Cs : List Nat) (n : Nat), Cs.all (fun C => isXs.contains C) = true → fIsXs usX isXs a 5 Cs (fVar 0) (slots [.exc a] ++ List.replicate n .no) = .ok (.sh (.bl (Cs.any (isX 5)))) := fun Cs n h => by
    unfold fIsXs
    show (if a = a ∧ 5 ∈ usX ∧ Cs.all (fun C => isXs.contains C) = true then Res.ok (SV.sh (.bl (Cs.any (isX 5)))) else .bad) = _
    rw [if_pos ⟨rfl, by decide, h⟩]
  have s2 : ∀ (C n : Nat), C ∈ isXs → fIsX usX isXs a 5 C (fVar 0) (slots [.exc a] ++ List.replicate n .no) = .ok (.sh (.bl (isX 5 C))) := fun C n h => by
    unfold fIsX
    show (if a = a ∧ 5 ∈ usX ∧ C ∈ isXs then Res.ok (SV.sh (.bl (isX 5 C))) else .bad) = _
    rw [if_pos ⟨rfl, by decide, h⟩]
  refine run_rt (s_seq (s_iteN (t_orF (t_is (t_val (s1 _ _ (by decide))) (by decide)) (t_is (t_val (s1 _ _ (by decide))) (by decide))) rfl) (s_seq (s_iteN (t_orF (t_is (t_val (s1 _ _ (by decide))) (by decide)) (t_is (t_val (s1 _ _ (by decide))) (by decide))) rfl) ?_))
  exact s_ret (v_and (s2 5 _ (by decide)) fun _ => s2 15 _ (by decide))
theorem ex_seqN {A B : FS} {δ : DL.Env} (h : A δ = .nx δ) (k : ∃ s, B δ = .rt s) : ∃ s, fSeq A B δ = .rt s := k.elim fun s e => ⟨s, s_seq h e⟩
theorem ex_seqT {A B : FS} {δ : DL.Env} (k : ∃ s, A δ = .rt s) : ∃ s, fSeq A B δ = .rt s := k.elim fun s e => ⟨s, s_rt e⟩
theorem ex_iteT {ft : DL.Env → Res Bool} {A B : FS} {δ : DL.Env} (h : ft δ = .ok true) (k : ∃ s, A δ = .rt s) : ∃ s, fIte ft A B δ = .rt s := k.elim fun s e => ⟨s, s_iteT h e⟩
theorem run_asked_bad (w e : Int) (h0 : 0 ≤ w) (h1 : w < 11) (l : List IP) (rs : List (List IP)) (b : Bad l) (hb : ∃ r ∈ rs, Bad r) (hr : ∀ r ∈ rs, r.length ≤ 100) (hn : rs.length ≤ 5) (hf : rs.flatten.length ≤ 900) :
    phi__law_asked [.int w, .lst (l.map mkP), .lst (rs.map mkR), .int e] = .ex 5 := by
  have g9 : Good [((0 : Int), (9 : Int))] := fun p m => by rw [List.mem_singleton] at m; subst m; decide
  have : w = 0 ∨ w = 1 ∨ w = 2 ∨ w = 3 ∨ w = 4 ∨ w = 5 ∨ w = 6 ∨ w = 7 ∨ w = 8 ∨ w = 9 ∨ w = 10 := by omega
  refine run_ex (δ' := [.sh (.int w), .sh (.lst (l.map mkP)), .sh (.lst (rs.map mkR)), .sh (.int e)]) ?_
  rcases this with rfl | rfl | rfl | rfl | rfl | rfl | rfl | rfl | rfl | rfl | rfl
  all_goals (repeat (refine s_seq (s_iteN (t_is (t_val (v_eq (v_var rfl) v_c)) (by decide)) rfl) ?_))
  all_goals (first | refine s_ex (s_iteT (t_is (t_val (v_eq (v_var rfl) v_c)) (by decide)) (s_retX ?_)) | refine s_retX ?_)
  · exact v_call (w_consS (v_var rfl) w_nil) rfl rfl (laid_bad l b)
  · exact v_call (w_consS (v_var rfl) (DL.w_cons (v_lst (w_consS (v_tup (w_consS v_c (w_consS v_c w_nil)) rfl (by simp)) w_nil) rfl (by simp)) w_nil)) rfl rfl (minus_bad1 l _ b)
  · exact v_call (DL.w_cons (v_lst (w_consS (v_tup (w_consS v_c (w_consS v_c w_nil)) rfl (by simp)) w_nil) rfl (by simp)) (w_consS (v_var rfl) w_nil)) rfl rfl (minus_bad2 [(0, 9)] l g9 (by simp) b)
  · exact v_call (w_consS (v_var rfl) (DL.w_cons (v_lst (w_consS (v_tup (w_consS v_c (w_consS v_c w_nil)) rfl (by simp)) w_nil) rfl (by simp)) w_nil)) rfl rfl (both_bad1 l [(0, 9)] g9 (by simp) b)
  · exact v_call (DL.w_cons (v_lst w_nil rfl (by simp)) (w_consS (v_var rfl) w_nil)) rfl rfl (both_bad2 l _ b)
  · exact v_call (w_consS (v_var rfl) (w_consS v_c (w_consS (v_var rfl) w_nil))) rfl rfl (cut_bad l 0 e b)
  · exact v_call (w_consS (v_var rfl) w_nil) rfl rfl (taken_bad l b)
  · exact v_call (w_consS (v_var rfl) (w_consS v_c (w_consS (v_var rfl) w_nil))) rfl rfl (crowd_bad rs 0 e hb (by omega) fun r m => by have := hr r m; omega)
  · exact v_call (w_consS (v_var rfl) (w_consS v_c (w_consS (v_var rfl) w_nil))) rfl rfl (free_bad rs 0 e 1 hb (by omega))
  · exact v_call (w_consS (v_var rfl) (w_consS v_c (w_consS (v_var rfl) w_nil))) rfl rfl (ffree_bad rs 0 e 1 hb (by omega))
  · exact v_call (DL.w_cons (v_lst (w_consS (v_tup (w_consS v_c (w_consS v_c w_nil)) rfl (by simp)) w_nil) rfl (by simp)) (w_consS (v_var rfl) w_nil)) rfl rfl (both_bad2 l _ b)
theorem run_asked_ok (w e : Int) (h0 : 0 ≤ w) (h1 : w < 11) (l : List IP) (rs : List (List IP)) (b : Good l) (hl : l.length ≤ 100) (hb : ∀ r ∈ rs, Good r) (hr : ∀ r ∈ rs, r.length ≤ 100) (hn : rs.length ≤ 5) (hf : rs.flatten.length ≤ 900) :
    ∃ s, phi__law_asked [.int w, .lst (l.map mkP), .lst (rs.map mkR), .int e] = .ok s := by
  have g9 : Good [((0 : Int), (9 : Int))] := fun p m => by rw [List.mem_singleton] at m; subst m; decide
  have g0 : Good [] := fun p m => nomatch m
  have : w = 0 ∨ w = 1 ∨ w = 2 ∨ w = 3 ∨ w = 4 ∨ w = 5 ∨ w = 6 ∨ w = 7 ∨ w = 8 ∨ w = 9 ∨ w = 10 := by omega
  rcases this with rfl | rfl | rfl | rfl | rfl | rfl | rfl | rfl | rfl | rfl | rfl
  all_goals (refine Exists.elim (?_ : ∃ s, b__law_asked _ = .rt s) fun s h => ⟨s, run_rt h⟩)
  all_goals (repeat (refine ex_seqN (s_iteN (t_is (t_val (v_eq (v_var rfl) v_c)) (by decide)) rfl) ?_))
  all_goals (try refine ex_seqT (ex_iteT (t_is (t_val (v_eq (v_var rfl) v_c)) (by decide)) ?_))
  · exact ⟨_, s_retO (v_call (w_consS (v_var rfl) w_nil) rfl rfl (laid_eq l b (by omega)))⟩
  · exact ⟨_, s_retO (v_call (w_consS (v_var rfl) (DL.w_cons (v_lst (w_consS (v_tup (w_consS v_c (w_consS v_c w_nil)) rfl (by simp)) w_nil) rfl (by simp)) w_nil)) rfl rfl (minus_eq l [(0, 9)] b g9 (by omega) (by simp)))⟩
  · exact ⟨_, s_retO (v_call (DL.w_cons (v_lst (w_consS (v_tup (w_consS v_c (w_consS v_c w_nil)) rfl (by simp)) w_nil) rfl (by simp)) (w_consS (v_var rfl) w_nil)) rfl rfl (minus_eq [(0, 9)] l g9 b (by simp) (by omega)))⟩
  · exact ⟨_, s_retO (v_call (w_consS (v_var rfl) (DL.w_cons (v_lst (w_consS (v_tup (w_consS v_c (w_consS v_c w_nil)) rfl (by simp)) w_nil) rfl (by simp)) w_nil)) rfl rfl (both_eq l [(0, 9)] b g9 (by omega) (by simp)))⟩
  · exact ⟨_, s_retO (v_call (DL.w_cons (v_lst w_nil rfl (by simp)) (w_consS (v_var rfl) w_nil)) rfl rfl (both_eq [] l g0 b (by simp) (by omega)))⟩
  · exact ⟨_, s_retO (v_call (w_consS (v_var rfl) (w_consS v_c (w_consS (v_var rfl) w_nil))) rfl rfl (cut_eq l b (by omega) 0 e))⟩
  · exact ⟨_, s_ret (v_call (w_consS (v_var rfl) w_nil) rfl rfl (taken_eq l b (by omega)))⟩
  · exact ⟨_, s_retO (v_call (w_consS (v_var rfl) (w_consS v_c (w_consS (v_var rfl) w_nil))) rfl rfl (crowd_ok rs hb hr hn 0 e))⟩
  · exact ⟨_, s_retO (v_call (w_consS (v_var rfl) (w_consS v_c (w_consS (v_var rfl) w_nil))) rfl rfl (free_eq rs hb hf 0 e 1))⟩
  · exact ⟨_, s_ret (v_call (w_consS (v_var rfl) (w_consS v_c (w_consS (v_var rfl) w_nil))) rfl rfl (ffree_eq rs hb hf 0 e 1))⟩
  · exact ⟨_, s_retO (v_call (DL.w_cons (v_lst (w_consS (v_tup (w_consS v_c (w_consS v_c w_nil)) rfl (by simp)) w_nil) rfl (by simp)) (w_consS (v_var rfl) w_nil)) rfl rfl (both_eq [(0, 9)] l g9 b (by simp) (by omega)))⟩
theorem refused_t (w e : Int) (l : D) (rs : D) (h : phi__law_asked [.int w, l, rs, .int e] = .ex 5) : phi__law_refused [.int w, l, rs, .int e] = .ok (.sh (.bl true)) := by
  unfold phi__law_refused b__law_refused
  walk_at "ev"
  simp only [h]
  walk_at "ev"
  simp (config := {decide := true}) only [usX, isXs, alone_eq]
  walk_at "ev"
theorem refused_f (w e : Int) (l : D) (rs : D) (s : SV) (h : phi__law_asked [.int w, l, rs, .int e] = .ok s) : phi__law_refused [.int w, l, rs, .int e] = .ok (.sh (.bl false)) := by
  unfold phi__law_refused b__law_refused
  walk_at "ev"
  simp only [h]
  walk_at "ev"

end Lw

set_option Elab.async false
set_option linter.all false
set_option maxRecDepth 100000
set_option maxHeartbeats 4000000
namespace Lw
open PySem PySem.Spec PyProof.Rows L2 DL SM TM
local macro_rules | `(tactic| walk_at "ev") => `(tactic| try simp only [runF_eq, slots, List.map_cons, List.map_nil, List.length_cons, List.length_nil, List.cons_append, List.nil_append, Nat.reduceAdd, Nat.reduceSub, List.replicate_succ, List.replicate_zero, fSeq, fAsg, fRet, fRetN, fIte, fVar, fC, f1, f2, fT, fAnd, fOr, fNot, fAndV, fOrV, fNotV, fIf, fV, aNil, aCons, fN, fM, fTup, fLst, fCall, fSkip, fBrk, fCnt, fRaise, fFz, fChain, fSl, fDrop, fUnp, fAug, fFor, iSeq, iRg, dwipe,
  bind_ok, bind_ex, bind_bad, out_ok, out_ex, out_bad, seq_nx, seq_rt, seq_bk, seq_ct, seq_ex, seq_bad, ofO_some, ofO_none, List.getElem?_cons_zero, List.getElem?_cons_succ, List.set_cons_zero, List.set_cons_succ, if_true, if_false, ite_true, ite_false, Bool.true_eq_false, Bool.false_eq_true, Option.map_some, Option.map_none, decide_eq_true_eq, Bool.not_eq_true', decide_eq_false_iff_not, reduceIte, Bool.not_true, Bool.not_false,
  ev_d1, ev_d2, ev_d3, ev_f1, ev_f2, ev_f3, ev_o1, ev_o2, ev_r1, ev_r2, ev_r3, ev_asB, ev_st0, ev_st1, ev_st2, ev_add, ev_addL, ev_addT, ev_aug, ev_sub, ev_mul, mulOk_r, mulOk_l, ev_div, ev_mod, ev_lt, ev_le, ev_gt, ev_ge, ev_neg, ev_eqI, ev_eqS, ev_eqB, ev_neI, ev_neS, ev_neB, ev_isN, ev_isB, ev_ntN, ev_ntB, ev_nn0, ev_nn1, ev_nn2, ev_nn3, ev_nn4, ev_nn5, ev_isi0, ev_isi1, ev_isi2, ev_isi3, ev_isi4, ev_isi5,
  ty_bb, ty_bi, ty_bs, ty_bt, ty_bl, ty_bn, ty_ib, ty_ii, ty_is, ty_it, ty_il, ty_in, ty_sb, ty_si, ty_ss, ty_st, ty_sl, ty_sn, ty_tb, ty_ti, ty_ts, ty_tt, ty_tl, ty_tn, ty_lb, ty_li, ty_ls, ty_lt, ty_ll, ty_ln,
  ev_lenL, ev_lenT, ev_lenR, ev_lenS, ev_intI, ev_intB, ev_strS, ev_max2, ev_min2, ev_abs, ev_listL, ev_listR, ev_listT, ev_tupL, ev_tupT, ev_ixL, ev_ixT, ev_ixR, ev_slL, ev_slR, ev_slT, ev_evP0, ev_evP1, ev_evPC, ev_itL, ev_itR, ev_itT, ev_itS, ev_rg1, ev_rg2, ev_tg1, ev_tgT, ev_tgL, ev_sa0, ev_sa1, ev_dm, ev_ite_bind, ev_ite_out, ev_ite_seq, ev_ite_end, ev_forN, ev_e1, ev_e2, ev_e3, Int.reduceNeg, Int.reducePow, Int.reduceLT, Int.reduceLE, Nat.reducePow, Int.reduceAdd, Int.reduceSub, Int.reduceMul, ev_ixP0, noL_P, noL_B, noL_I, noL_S, noL_N, ev_ixP1, ev_lenP, ev_isiP, fMut, fSetIx, Int.reduceEq, eq_self, ev_line, Nat.reduceLeDiff, not_true_eq_false, not_false_eq_true, decide_true, decide_false, Bool.true_or, Bool.false_or, Bool.true_and, Bool.false_and, Bool.and_true, Bool.or_true, Bool.and_false, Bool.or_false, ite_self, Nat.reduceBEq, beq_self_eq_true, Bool.true_or, Bool.or_true, Bool.or_false, Bool.false_or, Int.cast_ofNat_Int, Int.ofNat_zero, Int.natCast_zero, ev_p9, ev_p20, ev_p12, ev_p15, ev_p18, ev_p6, uniO_c, fTryR, fTryN, fCallX, fIsX, endN, clauseK, isX])

local macro_rules | `(tactic| walk_at "sd") => `(tactic| first | decide | omega | assumption)
local macro_rules | `(tactic| walk_at "mo") => `(tactic| first | exact mulOk_r _ _ (by omega) (by omega) | exact mulOk_l _ _ (by omega) (by omega))
local macro_rules | `(tactic| walk_at "ww") => `(tactic| first
  | with_reducible exact DL.w_nil
  | ((with_reducible apply w_consS); walk_at "vv"; walk_at "ww")
  | ((with_reducible apply DL.w_cons); walk_at "vv"; walk_at "ww"))
local macro_rules | `(tactic| walk_at "vv") => `(tactic| first
  | with_reducible exact DL.v_c
  | ((with_reducible apply DL.v_var); rfl)
  | ((with_reducible apply DL.v_add); walk_at "vv"; walk_at "vv")
  | ((with_reducible apply DL.v_sub); walk_at "vv"; walk_at "vv")
  | ((with_reducible apply DL.v_mul); walk_at "vv"; walk_at "vv"; walk_at "mo")
  | ((with_reducible apply DL.v_mod); walk_at "vv"; walk_at "vv"; walk_at "sd")
  | ((with_reducible apply DL.v_div); walk_at "vv"; walk_at "vv"; walk_at "sd")
  | ((with_reducible apply DL.v_neg); walk_at "vv")
  | ((with_reducible apply DL.v_lt); walk_at "vv"; walk_at "vv")
  | ((with_reducible apply DL.v_le); walk_at "vv"; walk_at "vv")
  | ((with_reducible apply DL.v_gt); walk_at "vv"; walk_at "vv")
  | ((with_reducible apply DL.v_ge); walk_at "vv"; walk_at "vv")
  | ((with_reducible apply DL.v_eq); walk_at "vv"; walk_at "vv")
  | ((with_reducible apply DL.v_eqB); walk_at "vv"; walk_at "vv")
  | ((with_reducible apply DL.v_ne); walk_at "vv"; walk_at "vv")
  | ((with_reducible apply DL.v_max2); walk_at "vv"; walk_at "vv")
  | ((with_reducible apply DL.v_min2); walk_at "vv"; walk_at "vv")
  | ((with_reducible apply DL.v_intB); walk_at "vv")
  | ((with_reducible apply DL.v_chLL); walk_at "vv"; walk_at "vv"; walk_at "vv")
  | ((with_reducible apply DL.v_chLT); walk_at "vv"; walk_at "vv"; walk_at "vv")
  | ((with_reducible apply DL.v_and); walk_at "vv"; intro _; walk_at "vv")
  | ((with_reducible apply DL.v_or); walk_at "vv"; intro _; walk_at "vv")
  | ((with_reducible apply DL.v_not); walk_at "vv")
  | ((with_reducible apply DL.v_fld); walk_at "vv"; (first | decide | assumption); (first | rfl | assumption))
  | ((with_reducible apply DL.v_call); walk_at "ww"; rfl; rfl; walk_at "cf")
  | ((with_reducible apply DL.v_make); walk_at "ww"; rfl; rfl; walk_at "cf")
  | ((with_reducible apply DL.v_meth); walk_at "vv"; (first | decide | assumption); (first | rfl | assumption); walk_at "ww"; rfl; rfl; walk_at "cf")
  | ((with_reducible apply DL.v_tup); walk_at "ww"; rfl; (first | decide | (simp)))
  | ((with_reducible apply DL.v_lst); walk_at "ww"; rfl; (first | decide | (simp)))
  | ((with_reducible apply DL.v_ixT); walk_at "vv"; walk_at "vv"; (first | rfl | assumption))
  | ((with_reducible apply DL.v_ixO); walk_at "vv"; walk_at "vv"; (first | rfl | assumption))
  | ((with_reducible apply DL.v_ixL); walk_at "vv"; walk_at "vv"; (first | rfl | assumption))
  | walk_at "vx")
local macro_rules | `(tactic| walk_at "tt") => `(tactic| first
  | ((with_reducible apply DL.t_and); walk_at "tt"; intro _; walk_at "tt")
  | ((with_reducible apply DL.t_or); walk_at "tt"; intro _; walk_at "tt")
  | ((with_reducible apply DL.t_not); walk_at "tt")
  | ((with_reducible apply DL.t_val); walk_at "vv"))
local macro_rules | `(tactic| walk_at "aa") => `(tactic| first
  | ((with_reducible apply DL.s_asg); walk_at "vv")
  | ((with_reducible apply DL.s_asgO); walk_at "vv"))
local macro_rules | `(tactic| walk_at "cf") => `(tactic| assumption)
abbrev rowB : FS := (fSeq (fAsg 8 (fCall 2 phi__law_cell_at [] (aCons (fVar 0) (aCons (f2 gAdd (fVar 1) (f2 gMod (fVar 7) (fC (.int 18)))) aNil)))) (fSeq (fAsg 9 (f2 gAdd (fVar 5) (fCall 3 phi__law_mixed [] (aCons (fVar 8) (aCons (f2 gAdd (fC (.int 5)) (fVar 7)) (aCons (fVar 4) aNil)))))) (fMut 6 mAppend (aCons (fTup (aCons (fVar 9) (aCons (f2 gAdd (f2 gAdd (fVar 9) (fC (.int 1))) (fCall 3 phi__law_mixed [] (aCons (fVar 8) (aCons (f2 gAdd (fC (.int 70)) (fVar 7)) (aCons (f2 gIx (fLst (aCons (fC (.int 3)) (aCons (fC (.int 12)) (aCons (fVar 4) aNil)))) (fCall 3 phi__law_mixed [] (aCons (fVar 8) (aCons (f2 gAdd (fC (.int 140)) (fVar 7)) (aCons (fC (.int 3)) aNil))))) aNil))))) aNil))) aNil))))
theorem row_body (ns : List Int) (fi : Int) (h0 : 0 ≤ fi) (s2 s3 x8 x9 : Sl) (wide far : Int) (hw : 0 < wide) (k : Int) (hk : 0 ≤ k) (l : List IP) (hl : l.length ≤ 100000) : ∃ p : IP, p.1 < p.2 ∧ ∃ y8 y9, rowB [.sh (.scr (ns.map D.int)), .sh (.int fi), s2, s3, .sh (.int wide), .sh (.int far), .ow (l.map mkP), .sh (.int k), x8, x9] = .nx [.sh (.scr (ns.map D.int)), .sh (.int fi), s2, s3, .sh (.int wide), .sh (.int far), .ow ((l ++ [p]).map mkP), .sh (.int k), y8, y9] := by
  obtain ⟨own, e1⟩ := cellat_eq ns (fi + k % 18) (by omega)
  obtain ⟨b, b0, b1, e2⟩ := mixed_eq own (5 + k) wide hw
  obtain ⟨j, j0, j1, e3⟩ := mixed_eq own (140 + k) 3 (by omega)
  obtain ⟨t, ht, e4⟩ := at3 3 12 wide j j0 j1
  obtain ⟨w, w0, w1, e5⟩ := mixed_eq own (70 + k) t (by omega)
  refine ⟨(far + b, far + b + 1 + w), by dsimp only; omega, .sh (.int own), .sh (.int (far + b)), ?_⟩
  unfold rowB
  walk_at "ev"
  repeat (simp only [e1, e2, e3, e4, e5]; walk_at "ev")
  rw [ev_app _ _ (by rw [List.length_map]; omega)]
  walk_at "ev"
  rw [List.map_append]
  rfl
theorem row_loop (ns : List Int) (fi : Int) (h0 : 0 ≤ fi) (s2 s3 : Sl) (wide far : Int) (hw : 0 < wide) : ∀ (ks : List Nat) (x7 x8 x9 : Sl) (l : List IP), l.length + ks.length ≤ 100000 → (∀ p ∈ l, p.1 < p.2) → ∃ (l' : List IP) (y7 y8 y9 : Sl), l'.length = l.length + ks.length ∧ (∀ p ∈ l', p.1 < p.2) ∧
    forR (tgOne 7) rowB (ks.map fun k => D.int ((k : Nat) : Int)) [.sh (.scr (ns.map D.int)), .sh (.int fi), s2, s3, .sh (.int wide), .sh (.int far), .ow (l.map mkP), x7, x8, x9] = .nx [.sh (.scr (ns.map D.int)), .sh (.int fi), s2, s3, .sh (.int wide), .sh (.int far), .ow (l'.map mkP), y7, y8, y9]
  | [], x7, x8, x9, l, _, g => ⟨l, x7, x8, x9, rfl, g, rfl⟩
  | k :: ks, x7, x8, x9, l, hl, g => by
    rw [List.length_cons] at hl
    obtain ⟨p, hp, y8, y9, e⟩ := row_body ns fi h0 s2 s3 x8 x9 wide far hw k (by omega) l (by omega)
    obtain ⟨l', z7, z8, z9, h1, h2, h3⟩ := row_loop ns fi h0 s2 s3 wide far hw ks (.sh (.int k)) y8 y9 (l ++ [p]) (by rw [List.length_append, List.length_singleton]; omega) (fun q m => by
      rcases List.mem_append.mp m with m | m
      · exact g q m
      · rw [List.mem_singleton] at m
        subst m
        exact hp)
    refine ⟨l', z7, z8, z9, by rw [h1, List.length_append, List.length_singleton, List.length_cons]; omega, h2, ?_⟩
    rw [List.map_cons, ev_forC _ _ _ _ _ [.sh (.scr (ns.map D.int)), .sh (.int fi), s2, s3, .sh (.int wide), .sh (.int far), .ow (l.map mkP), .sh (.int k), x8, x9] rfl, e]
    exact h3
theorem row_eq (ns : List Int) (fi c : Int) (h0 : 0 ≤ fi) : ∃ l : List IP, l.length ≤ 60 ∧ (∀ p ∈ l, p.1 < p.2) ∧ phi__law_row [.scr (ns.map D.int), .int fi, .int c] = .ok (.ow (l.map mkP)) := by
  obtain ⟨m1, a0, a1, e1⟩ := mixed_eq c 1 4 (by omega)
  obtain ⟨m2, b0, b1, e2⟩ := mixed_eq c 1 13 (by omega)
  obtain ⟨m3, c0, c1, e3⟩ := mixed_eq c 1 61 (by omega)
  obtain ⟨m4, d0, d1, e4⟩ := mixed_eq c 2 9 (by omega)
  obtain ⟨m5, f0, f1, e5⟩ := mixed_eq c 3 3 (by omega)
  obtain ⟨m6, g0, g1, e6⟩ := mixed_eq c 4 5 (by omega)
  obtain ⟨count, hc, e7⟩ := at3 m1 m2 m3 (m4 / 4) (by omega) (by omega)
  obtain ⟨wide, hw, e8⟩ := at3 9 40 100000 m5 f0 f1
  have p20 : gPow (.int 10) (.int 20) = some (.sh (.int (10 ^ 20))) := rfl
  have p9 : gPow (.int 10) (.int 9) = some (.sh (.int (10 ^ 9))) := rfl
  obtain ⟨far, e9⟩ := at5 0 0 (-20) (100000000000000000000 - c % 1000000000) (-100000000000000000000) m6 g0 g1
  have m9 : DL.gMod (.int c) (.int (10 ^ 9)) = some (.sh (.int (c % 10 ^ 9))) := ev_mod _ _ (by decide)
  obtain ⟨l, y7, y8, y9, h1, h2, h3⟩ := row_loop ns fi h0 (.sh (.int c)) (.sh (.int count)) wide far (by omega) (List.range count.toNat) .no .no .no [] (by rw [List.length_range, List.length_nil]; omega) (fun p m => nomatch m)
  refine ⟨l, by rw [h1, List.length_range, List.length_nil]; omega, h2, ?_⟩
  unfold phi__law_row b__law_row
  walk_at "ev"
  repeat (simp only [e1, e2, e3, e4, e5, e6, e7, e8, p20, p9, m9]; walk_at "ev")
  rw [e9]
  walk_at "ev"
  rw [ev_rg1 _ (by omega) (by omega)]
  walk_at "ev"
  unfold rowB at h3
  rw [List.map_nil] at h3
  rw [h3]
  walk_at "ev"

theorem v_callB {δ : DL.Env} {ss : List SV} {d : D} {n : Nat} {phi : List D → Res SV} {fl : DL.Env → Res (List SV)} (h1 : fl δ = .ok ss) (hn : ss.length + ([] : List D).length = n) (hs : stills ss = none) (h : phi (ss.map SV.d) = .ok (.sh d)) (hl : noL d = true) : fCall n phi [] fl δ = .ok (.sh d) := by
  unfold fCall
  rw [h1]
  show (if _ then _ else _) = _
  rw [if_pos hn, hs]
  show (match phi (ss.map SV.d ++ []) with | .ok (.sh d) => if noL d = true then Res.ok (SV.sh d) else .bad | .ok (.ow es) => if noLs es = true then .ok (.ow es) else .bad | .ex c => .ex c | _ => .bad) = _
  rw [List.append_nil, h]
  exact if_pos hl
theorem addL {ds es : List D} (h : ds.length + es.length ≤ 1000000) : gAdd (.lst ds) (.lst es) = some (.ow (ds ++ es)) := by rw [ev_addL, if_pos (line_of h)]
theorem v_slA {δ : DL.Env} {fe : DL.Env → Res SV} {fl fh : Option (DL.Env → Res SV)} {s : SV} {ds : List D} {lo hi : Option Int} (h : fe δ = .ok s) (hs : s.d = .lst ds) (el : evP fl δ = .ok lo) (eh : evP fh δ = .ok hi) : fSl fe fl fh δ = .ok (.ow (DL.cutD ds lo hi)) := by
  unfold fSl
  rw [h, bind_ok, el, bind_ok, eh, bind_ok, hs]
  rfl
theorem cut_lo {α : Type} (f : α → D) (xs : List α) (k : Int) (h : 0 ≤ k) : DL.cutD (xs.map f) none (some k) = (xs.take k.toNat).map f := by rw [TM.cutD_map, TM.cutG_take _ _ h]
theorem cut_hi {α : Type} (f : α → D) (xs : List α) (k : Int) (h : 0 ≤ k) : DL.cutD (xs.map f) (some k) none = (xs.drop k.toNat).map f := by rw [TM.cutD_map, TM.cutG_drop _ _ h]
theorem s_cp {c : Nat} {fi : DL.Env → Res (List D)} {g : D → DL.Env → Option DL.Env} {fe fk fa : DL.Env → Res SV} {vs : List Nat} {fc : DL.Env → Res Bool} {fb rest : FS} {δ : DL.Env} {ds : List D} {xss : List (List D)} {k a : Int} {j : Nat} {xs ys : List D} {o : Out}
    (e1 : fi δ = .ok ds) (e2 : cpR g fe (dwipe δ vs) ds = some xss) (hl : xss.length ≤ 1000000) (e3 : fc (δ.set c (.sh (.lst (xss.map .lst)))) = .ok false) (hc : c < δ.length) (e4 : fk (δ.set c (.sh (.lst (xss.map .lst)))) = .ok (.sh (.int k))) (e5 : fa (δ.set c (.sh (.lst (xss.map .lst)))) = .ok (.sh (.int a)))
    (e6 : ixN xss.length k = some j) (e7 : xss[j]? = some xs) (e8 : popI xs a = some ys) (e9 : rest (δ.set c (.sh (.lst ((xss.set j ys).map .lst)))) = o) : fCp c fi g fe vs fc fb fk fa rest δ = o := by
  unfold fCp
  rw [e1]
  dsimp only
  rw [e2]
  dsimp only
  rw [if_pos (line_of hl), e3]
  dsimp only
  unfold fPopd
  rw [if_pos hc, e4, e5]
  dsimp only
  rw [e6]
  dsimp only
  rw [e7]
  dsimp only
  rw [e8]
  exact e9
theorem cpR_A (δ : DL.Env) (h : 12 < δ.length) : ∀ rs : List (List IP), cpR (tgOne 12) (fN gList (aCons (fVar 12) aNil)) δ (rs.map mkR) = some (rs.map fun r => r.map mkP)
  | [] => rfl
  | r :: rs => by
    have e : fN gList (aCons (fVar 12) aNil) (δ.set 12 (.sh (mkR r))) = .ok (.ow (r.map mkP)) := v_fN (w_consS (v_var (List.getElem?_set_self h)) w_nil) rfl
    rw [List.map_cons]
    unfold cpR
    dsimp only [tgOne]
    rw [e]
    dsimp only
    rw [cpR_A δ h rs]
    rfl
theorem popI_at (xs : List D) (k : Nat) (h : k < xs.length) (hk : k < 1000000) : popI xs (k : Int) = some (xs.eraseIdx k) := by
  unfold popI
  rw [if_pos (by omega)]
  have e : seqIndex? (k : Int) xs.length = some k := by
    unfold seqIndex?
    dsimp only
    rw [if_neg (by omega : ¬ ((k : Int) < 0)), if_pos (by simp; omega), Int.toNat_natCast]
  rw [e]
  exact if_pos h
theorem erase_mid {α : Type} (l : List α) (b : α) (k : Nat) (h : k ≤ l.length) : (l.take k ++ [b] ++ l.drop k).eraseIdx k = l := by
  rw [List.append_assoc, List.eraseIdx_append_of_length_le (by rw [List.length_take]; omega), List.length_take, Nat.min_eq_left h, Nat.sub_self]
  show l.take k ++ l.drop k = l
  exact List.take_append_drop k l
theorem cutD_le (xs : List D) (lo hi : Option Int) : (DL.cutD xs lo hi).length ≤ xs.length := by
  unfold DL.cutD
  rw [List.length_take, List.length_drop]
  omega
noncomputable section
/-- the rows: r at the place p of the two others -/
def RS (p : Nat) (r : List IP) : List (List IP) := ([[(0, 4)], []] : List (List IP)).take p ++ [r] ++ ([[(0, 4)], []] : List (List IP)).drop p
theorem RS_at {p : Nat} (h : p ≤ 2) (r : List IP) : (RS p r)[p]? = some r := by
  have : p = 0 ∨ p = 1 ∨ p = 2 := by omega
  rcases this with rfl | rfl | rfl <;> rfl
theorem RS_len {p : Nat} (h : p ≤ 2) (r : List IP) : (RS p r).length = 3 := by
  have : p = 0 ∨ p = 1 ∨ p = 2 := by omega
  rcases this with rfl | rfl | rfl <;> rfl
theorem RS_set {p : Nat} (h : p ≤ 2) (r q : List IP) : ((RS p r).map fun r => r.map mkP).set p (q.map mkP) = (RS p q).map fun r => r.map mkP := by
  have : p = 0 ∨ p = 1 ∨ p = 2 := by omega
  rcases this with rfl | rfl | rfl <;> rfl
theorem RS_mem {p : Nat} (r : List IP) : ∀ x ∈ RS p r, x = r ∨ x = [(0, 4)] ∨ x = [] := fun x m => by
  have two : x ∈ ([[(0, 4)], []] : List (List IP)) → x = [(0, 4)] ∨ x = [] := fun h => by
    rcases List.mem_cons.mp h with h | h
    · exact .inl h
    · exact .inr (List.mem_singleton.mp h)
  rcases List.mem_append.mp m with m | m
  · rcases List.mem_append.mp m with m | m
    · exact .inr (two (List.mem_of_mem_take m))
    · exact .inl (List.mem_singleton.mp m)
  · exact .inr (two (List.mem_of_mem_drop m))
theorem RS_flat {p : Nat} (h : p ≤ 2) (r : List IP) : (RS p r).flatten.length ≤ r.length + 1 := by
  have : p = 0 ∨ p = 1 ∨ p = 2 := by omega
  rcases this with rfl | rfl | rfl <;> simp [RS]
theorem g04 : Good [((0 : Int), (4 : Int))] := fun p m => by rw [List.mem_singleton] at m; subst m; decide
theorem RS_good {p : Nat} {r : List IP} (g : Good r) : ∀ x ∈ RS p r, Good x := fun x m => by
  rcases RS_mem r x m with rfl | rfl | rfl
  · exact g
  · exact g04
  · exact fun p m => nomatch m
theorem RS_le {p : Nat} {r : List IP} (h : r.length ≤ 100) : ∀ x ∈ RS p r, x.length ≤ 100 := fun x m => by
  rcases RS_mem r x m with rfl | rfl | rfl
  · exact h
  · decide
  · decide
theorem atI_RS {p : Nat} (h : p ≤ 2) (r : List IP) : atI ((RS p r).map mkR) (p : Int) = some (mkR r) := by
  have : p = 0 ∨ p = 1 ∨ p = 2 := by omega
  rcases this with rfl | rfl | rfl <;> rfl
theorem ix_RS {p : Nat} (h : p ≤ 2) (r : List IP) : ixN ((RS p r).map fun r => r.map mkP).length (p : Int) = some p := by
  have : p = 0 ∨ p = 1 ∨ p = 2 := by omega
  rcases this with rfl | rfl | rfl <;> rfl
theorem cond_eq {p : Nat} (p2 : p ≤ 2) (r : List IP) (w u : Int) (x0 x1 x2 x3 x4 x5 x9 x12 : Sl) (B1 : phi__law_refused [.int w, .lst (r.map mkP), .lst ((RS p r).map mkR), .int u] = .ok (.sh (.bl true))) :
    (fOr (fNot (fT (fCall 4 phi__law_refused [] (aCons (fVar 7) (aCons (f2 gIx (fVar 11) (fVar 6)) (aCons (fVar 11) (aCons (fVar 8) aNil))))))) (fT (f2 gNe (fVar 11) (fVar 10)))) [x0, x1, x2, x3, x4, x5, .sh (.int p), .sh (.int w), .sh (.int u), x9, .sh (.lst ((RS p r).map mkR)), .sh (.lst ((RS p r).map mkR)), x12] = .ok false := by
  have ix : atI ((RS p r).map mkR) (p : Int) = some (.lst (r.map mkP)) := atI_RS p2 r
  have ne : gNe (.lst ((RS p r).map mkR)) (.lst ((RS p r).map mkR)) = some (.sh (.bl false)) := by rw [ev_neRs, decide_eq_true rfl]; rfl
  exact t_orF (t_is (t_not (t_val (v_call (w_consS (v_var rfl) (w_consS (v_ixL (v_var rfl) (v_var rfl) ix) (w_consS (v_var rfl) (w_consS (v_var rfl) w_nil)))) rfl rfl B1))) rfl) (t_val (v_f2 (v_var rfl) (v_var rfl) ne))
theorem rest_eq {p : Nat} (p2 : p ≤ 2) (l : List IP) (w u : Int) (s2 : SV) (x0 x2 x3 x4 x5 x10 x12 : Sl) (A2 : phi__law_asked [.int w, .lst (l.map mkP), .lst ((RS p l).map mkR), .int u] = .ok s2) (B3 : phi__law_refused [.int w, .lst (l.map mkP), .lst (([[(0, 4)], []] : List (List IP)).map mkR), .int u] = .ok (.sh (.bl false))) :
    (fSeq (fFz 11 (fDrop (fCall 4 phi__law_asked [] (aCons (fVar 7) (aCons (f2 gIx (fVar 11) (fVar 6)) (aCons (fVar 11) (aCons (fVar 8) aNil))))))) (fRet (fAndV (f2 gEq (f2 gIx (fVar 11) (fVar 6)) (fVar 1)) (fNotV (fCall 4 phi__law_refused [] (aCons (fVar 7) (aCons (fVar 1) (aCons (fVar 9) (aCons (fVar 8) aNil)))))))))
      [x0, .ow (l.map mkP), x2, x3, x4, x5, .sh (.int p), .sh (.int w), .sh (.int u), .ow (([[(0, 4)], []] : List (List IP)).map mkR), x10, .sh (.lst ((RS p l).map mkR)), x12] = .rt (.sh (.bl true)) := by
  have ix : atI ((RS p l).map mkR) (p : Int) = some (.lst (l.map mkP)) := atI_RS p2 l
  have te : gEq (.lst (l.map mkP)) (.lst (l.map mkP)) = some (.sh (.bl true)) := by rw [ev_eqPs, decide_eq_true rfl]
  refine s_seq (s_fzS rfl (s_drop (v_call (w_consS (v_var rfl) (w_consS (v_ixL (v_var rfl) (v_var rfl) ix) (w_consS (v_var rfl) (w_consS (v_var rfl) w_nil)))) rfl rfl A2))) ?_
  exact s_ret (v_and (v_f2 (v_ixL (v_var rfl) (v_var rfl) ix) (v_varB rfl) te) fun _ => v_not (v_callB (w_consS (v_var rfl) (w_cons (v_varB rfl) (w_cons (v_varB rfl) (w_consS (v_var rfl) w_nil)))) rfl rfl B3 rfl))
theorem law_true (ns : List Int) (_ : ns.length ≤ 63) : phi_law [.scr (ns.map D.int)] = .ok (.sh (.bl true)) := by
  obtain ⟨c0, hc0⟩ := cellat_eq ns 0 (by omega)
  obtain ⟨c1, hc1⟩ := cellat_eq ns 1 (by omega)
  obtain ⟨c2, hc2⟩ := cellat_eq ns 2 (by omega)
  obtain ⟨c3, hc3⟩ := cellat_eq ns 3 (by omega)
  obtain ⟨l, hl, gl, el⟩ := row_eq ns 4 c0 (by omega)
  obtain ⟨a, a0, a1, ea⟩ := mixed_eq c1 150 (l.length + 1) (by omega)
  obtain ⟨m1, _, _, em1⟩ := mixed_eq c1 151 9 (by omega)
  obtain ⟨m2, m20, m21, em2⟩ := mixed_eq c1 152 3 (by omega)
  obtain ⟨m3, m30, _, em3⟩ := mixed_eq c1 153 30 (by omega)
  obtain ⟨m4, m40, m41, em4⟩ := mixed_eq c1 154 3 (by omega)
  obtain ⟨b, _, eb⟩ := at3 m1 (-1000000000000) 1000000000000 m2 m20 m21
  obtain ⟨x, hx, ex⟩ := at3 0 1 m3 m4 m40 m41
  obtain ⟨q, q0, q1, eq⟩ := mixed_eq c1 155 3 (by omega)
  obtain ⟨w, w0, w1, ew⟩ := mixed_eq c2 156 11 (by omega)
  obtain ⟨u, _, _, eu⟩ := mixed_eq c3 157 9 (by omega)
  obtain ⟨n, rfl⟩ : ∃ n : Nat, a = n := ⟨a.toNat, by omega⟩
  obtain ⟨p, rfl⟩ : ∃ p : Nat, q = p := ⟨q.toNat, by omega⟩
  have p2 : p ≤ 2 := by omega
  have nl : n ≤ l.length := by omega
  have row : ∃ r : List IP, r = l.take n ++ [(b, b - x)] ++ l.drop n := ⟨_, rfl⟩
  obtain ⟨r, hr⟩ := row
  have rl : r.length = l.length + 1 := by rw [hr]; simp; omega
  have rb : Bad r := ⟨(b, b - x), by rw [hr]; simp, by dsimp only; omega⟩
  have RSb : ∃ y ∈ RS p r, Bad y := ⟨r, List.mem_iff_getElem?.mpr ⟨p, RS_at p2 r⟩, rb⟩
  have fb := RS_flat p2 r
  have fl := RS_flat p2 l
  have n3 := RS_len p2 r
  have n3l := RS_len p2 l
  have A1 := run_asked_bad w (u - 2) w0 w1 r (RS p r) rb RSb (RS_le (by omega)) (by omega) (by omega)
  obtain ⟨s2, A2⟩ := run_asked_ok w (u - 2) w0 w1 l (RS p l) gl (by omega) (RS_good gl) (RS_le (by omega)) (by omega) (by omega)
  obtain ⟨s3, A3⟩ := run_asked_ok w (u - 2) w0 w1 l [[(0, 4)], []] gl (by omega) (fun y m => by
    rcases List.mem_cons.mp m with rfl | m
    · exact g04
    · rw [List.mem_singleton.mp m]; exact fun p m => nomatch m) (fun y m => by
    rcases List.mem_cons.mp m with rfl | m
    · decide
    · rw [List.mem_singleton.mp m]; decide) (by decide) (by decide)
  have B1 := refused_t w (u - 2) _ _ A1
  have B3 := refused_f w (u - 2) _ _ s3 A3
  have pw12 : gPow (.int 10) (.int 12) = some (.sh (.int 1000000000000)) := rfl
  refine run_rt ?_
  -- good, cell, at
  refine s_seq (s_asgO (v_call (w_consS (v_var rfl) (w_consS v_c (w_consS (v_call (w_consS (v_var rfl) (w_consS v_c w_nil)) rfl rfl hc0) w_nil))) rfl rfl el)) ?_
  refine s_seq (s_asg (v_call (w_consS (v_var rfl) (w_consS v_c w_nil)) rfl rfl hc1)) ?_
  refine s_seq (s_asg (v_call (w_consS (v_var rfl) (w_consS v_c (w_consS (v_f2 (v_fN (w_cons (v_varB rfl) w_nil) rfl) v_c rfl) w_nil))) rfl rfl (by
    show phi__law_mixed [.int c1, .int 150, .int (((l.map mkP).length : Nat) + 1)] = _
    rw [List.length_map]
    exact ea))) ?_
  -- begin
  refine s_seq (s_asg (v_ixO (v_lst (w_consS (v_call (w_consS (v_var rfl) (w_consS v_c (w_consS v_c w_nil))) rfl rfl em1) (w_consS (v_neg (v_f2 v_c v_c pw12)) (w_consS (v_f2 v_c v_c pw12) w_nil))) rfl (by simp)) (v_call (w_consS (v_var rfl) (w_consS v_c (w_consS v_c w_nil))) rfl rfl em2) eb)) ?_
  -- row
  have three := v_lst (δ := [.sh (.scr (ns.map D.int)), .ow (l.map mkP), .sh (.int c1), .sh (.int n), .sh (.int b), .no, .no, .no, .no, .no, .no, .no, .no]) (w_consS (v_tup (w_consS (v_var (i := 4) rfl) (w_consS (v_sub (v_var (i := 4) rfl) (v_ixO (v_lst (w_consS v_c (w_consS v_c (w_consS (v_call (w_consS (v_var (i := 2) rfl) (w_consS v_c (w_consS v_c w_nil))) rfl rfl em3) w_nil))) rfl (by simp)) (v_call (w_consS (v_var (i := 2) rfl) (w_consS v_c (w_consS v_c w_nil))) rfl rfl em4) ex)) w_nil)) rfl (by simp)) w_nil) rfl (by simp)
  refine s_seq (s_asgO (v_f2 (v_f2 (v_slA (v_varB rfl) rfl rfl (ev_evP1 _ _ _ (v_var rfl))) three (addL (by rw [cut_lo _ _ _ (by omega)]; simp; omega))) (v_slA (v_varB rfl) rfl (ev_evP1 _ _ _ (v_var rfl)) rfl) (addL (by rw [cut_lo _ _ _ (by omega), cut_hi _ _ _ (by omega)]; simp; omega)))) ?_
  have er : DL.cutD (l.map mkP) none (some (n : Int)) ++ [D.tup [.int b, .int (b - x)]] ++ DL.cutD (l.map mkP) (some (n : Int)) none = r.map mkP := by
    rw [cut_lo _ _ _ (by omega), cut_hi _ _ _ (by omega), hr, Int.toNat_natCast]
    simp [mkP]
  rw [er]
  -- place, way, end, others
  refine s_seq (s_asg (v_call (w_consS (v_var rfl) (w_consS v_c (w_consS v_c w_nil))) rfl rfl eq)) ?_
  refine s_seq (s_asg (v_call (w_consS (v_call (w_consS (v_var rfl) (w_consS v_c w_nil)) rfl rfl hc2) (w_consS v_c (w_consS v_c w_nil))) rfl rfl ew)) ?_
  refine s_seq (s_asg (v_sub (v_call (w_consS (v_call (w_consS (v_var rfl) (w_consS v_c w_nil)) rfl rfl hc3) (w_consS v_c (w_consS v_c w_nil))) rfl rfl eu) v_c)) ?_
  refine s_seq (s_asgO (v_lst (DL.w_cons (v_lst (w_consS (v_tup (w_consS v_c (w_consS v_c w_nil)) rfl (by simp)) w_nil) rfl (by simp)) (DL.w_cons (v_lst w_nil rfl (by simp)) w_nil)) rfl (by simp))) ?_
  have er2 : DL.cutD [D.lst [.tup [.int 0, .int 4]], .lst []] none (some (p : Int)) ++ [D.lst (r.map mkP)] ++ DL.cutD [D.lst [.tup [.int 0, .int 4]], .lst []] (some (p : Int)) none = (RS p r).map mkR := by
    have e : [D.lst [.tup [.int 0, .int 4]], .lst []] = ([[(0, 4)], []] : List (List IP)).map mkR := rfl
    rw [e, cut_lo _ _ _ (by omega), cut_hi _ _ _ (by omega), Int.toNat_natCast]
    unfold RS
    rw [List.map_append, List.map_append]
    rfl
  refine s_seq (s_fzO rfl (s_asgO (v_f2 (v_f2 (v_slA (v_varB rfl) rfl rfl (ev_evP1 _ _ _ (v_var rfl))) (v_lst (w_consS (v_var rfl) w_nil) rfl (by simp)) (addL (by
    have := cutD_le [D.lst [.tup [.int 0, .int 4]], .lst []] none (some (p : Int))
    exact Nat.le_trans (Nat.add_le_add_right this _) (by simp)))) (v_slA (v_varB rfl) rfl (ev_evP1 _ _ _ (v_var rfl)) rfl) (addL (by
    have h1 := cutD_le [D.lst [.tup [.int 0, .int 4]], .lst []] none (some (p : Int))
    have h2 := cutD_le [D.lst [.tup [.int 0, .int 4]], .lst []] (some (p : Int)) none
    rw [List.length_append]
    exact Nat.le_trans (Nat.add_le_add (Nat.add_le_add_right h1 _) h2) (by simp)))))) ?_
  refine Eq.trans (congrArg (fun z => (fFz 10 _ : FS) (List.set _ 10 (Sl.ow z))) er2) ?_
  refine s_fzO rfl (s_cp (ds := (RS p r).map mkR) (xss := (RS p r).map fun r => r.map mkP) (k := p) (a := n) (j := p) (xs := r.map mkP) (ys := l.map mkP) (seqL rfl) (cpR_A _ (Nat.le_of_ble_eq_true rfl) _) (by rw [List.length_map]; omega) ?_ (by simp [slots]) (v_var rfl) (v_var rfl) (ix_RS p2 r) (by rw [List.getElem?_map, RS_at p2]; rfl) ?_ ?_)
  · have mm : ((RS p r).map fun r => r.map mkP).map D.lst = (RS p r).map mkR := by rw [List.map_map]; rfl
    rw [mm]
    exact cond_eq p2 r w (u - 2) _ _ _ _ _ _ _ _ B1
  · rw [popI_at _ _ (by rw [List.length_map]; omega) (by omega)]
    congr 1
    rw [hr]
    have e := erase_mid (l.map mkP) (mkP (b, b - x)) n (by rw [List.length_map]; exact nl)
    rw [← List.map_take, ← List.map_drop] at e
    simpa using e
  · have mm : ((((RS p r).map fun r => r.map mkP).set p (l.map mkP)).map D.lst) = (RS p l).map mkR := by rw [RS_set p2, List.map_map]; rfl
    rw [mm]
    exact rest_eq p2 l w (u - 2) s2 _ _ _ _ _ _ _ A2 B3
end

end Lw
end

section
set_option Elab.async false
set_option linter.all false
set_option maxRecDepth 100000
set_option maxHeartbeats 8000000
namespace Lw
open PySem PySem.Spec PyProof.Rows L2 DL
local macro_rules | `(tactic| walk_at "lvl") => `(tactic| first | omega | exact Nat.le_trans (by decide) (Nat.le_add_right _ _))
def dd_need_spans : He.DefD := ⟨("need_spans", none), "need_spans", "need_spans", defArgs s_need_spans, defBody s_need_spans, defScope s_need_spans, [], []⟩
def dd_laid : He.DefD := ⟨("laid", none), "laid", "laid", defArgs s_laid, defBody s_laid, defScope s_laid, [], []⟩
def dd_without : He.DefD := ⟨("without", none), "without", "without", defArgs s_without, defBody s_without, defScope s_without, [], []⟩
def dd_left_of : He.DefD := ⟨("left_of", none), "left_of", "left_of", defArgs s_left_of, defBody s_left_of, defScope s_left_of, [], []⟩
def dd_minus : He.DefD := ⟨("minus", none), "minus", "minus", defArgs s_minus, defBody s_minus, defScope s_minus, [], []⟩
def dd_both : He.DefD := ⟨("both", none), "both", "both", defArgs s_both, defBody s_both, defScope s_both, [], []⟩
def dd_cut : He.DefD := ⟨("cut", none), "cut", "cut", defArgs s_cut, defBody s_cut, defScope s_cut, [], []⟩
def dd_taken : He.DefD := ⟨("taken", none), "taken", "taken", defArgs s_taken, defBody s_taken, defScope s_taken, [], []⟩
def dd_all_spans : He.DefD := ⟨("all_spans", none), "all_spans", "all_spans", defArgs s_all_spans, defBody s_all_spans, defScope s_all_spans, [], []⟩
def dd_borders : He.DefD := ⟨("borders", none), "borders", "borders", defArgs s_borders, defBody s_borders, defScope s_borders, [], []⟩
def dd_how_many : He.DefD := ⟨("how_many", none), "how_many", "how_many", defArgs s_how_many, defBody s_how_many, defScope s_how_many, [], []⟩
def dd_crowd : He.DefD := ⟨("crowd", none), "crowd", "crowd", defArgs s_crowd, defBody s_crowd, defScope s_crowd, [], []⟩
def dd_free : He.DefD := ⟨("free", none), "free", "free", defArgs s_free, defBody s_free, defScope s_free, [.int 1], []⟩
def dd_first_free : He.DefD := ⟨("first_free", none), "first_free", "first_free", defArgs s_first_free, defBody s_first_free, defScope s_first_free, [.int 1], []⟩
def dd__law_cell_at : He.DefD := ⟨("_law_cell_at", none), "_law_cell_at", "_law_cell_at", defArgs s__law_cell_at, defBody s__law_cell_at, defScope s__law_cell_at, [], []⟩
def dd__law_mixed : He.DefD := ⟨("_law_mixed", none), "_law_mixed", "_law_mixed", defArgs s__law_mixed, defBody s__law_mixed, defScope s__law_mixed, [], []⟩
def dd__law_row : He.DefD := ⟨("_law_row", none), "_law_row", "_law_row", defArgs s__law_row, defBody s__law_row, defScope s__law_row, [], []⟩
def dd__law_asked : He.DefD := ⟨("_law_asked", none), "_law_asked", "_law_asked", defArgs s__law_asked, defBody s__law_asked, defScope s__law_asked, [], []⟩
def dd__law_alone : He.DefD := ⟨("_law_alone", none), "_law_alone", "_law_alone", defArgs s__law_alone, defBody s__law_alone, defScope s__law_alone, [], []⟩
def dd__law_refused : He.DefD := ⟨("_law_refused", none), "_law_refused", "_law_refused", defArgs s__law_refused, defBody s__law_refused, defScope s__law_refused, [], []⟩
def dd_law : He.DefD := ⟨("law", none), "law", "law", defArgs s_law, defBody s_law, defScope s_law, [], []⟩
def fn : List He.DefD := [dd_need_spans, dd_laid, dd_without, dd_left_of, dd_minus, dd_both, dd_cut, dd_taken, dd_all_spans, dd_borders, dd_how_many, dd_crowd, dd_free, dd_first_free, dd__law_cell_at, dd__law_mixed, dd__law_row, dd__law_asked, dd__law_alone, dd__law_refused, dd_law]
def fa0 : List He.Fa := [.free "ValueError", .free "isinstance", .free "len", .free "list", .free "max", .free "min", .free "range", .free "set", .free "sorted", .free "sum", .free "zip", .exc "NoSpan", .glo "NoSpan", .glo "Busy", .glo "Closed", .glo "Full", .glo "HouseError", .glo "Known", .glo "NoDay", .glo "NoHand", .glo "NoLetter", .glo "NoMeeting", .glo "NoPlace", .glo "NoRule", .glo "NoText", .glo "NoThing", .glo "NoWord", .glo "need_spans", .glo "laid", .glo "without"]
def fa1 : List He.Fa := [.glo "left_of", .glo "minus", .glo "both", .glo "cut", .glo "taken", .glo "all_spans", .glo "borders", .glo "how_many", .glo "crowd", .glo "free", .glo "first_free", .glo "_law_cell_at", .glo "_law_mixed", .glo "_law_row", .glo "_law_asked", .glo "_law_alone", .glo "_law_refused", .glo "law"]
def fa : List He.Fa := fa0 ++ fa1
def loose0 : List Str := ["HouseError", "NoDay", "NoText", "NoRule", "NoPlace", "NoSpan", "NoThing", "Known", "Full", "NoLetter", "NoHand", "NoWord", "NoMeeting", "Closed", "Busy", "need_spans", "laid", "without", "left_of", "minus", "both", "cut", "taken", "all_spans", "borders", "how_many", "crowd", "free", "first_free", "_law_cell_at"]
def loose1 : List Str := ["_law_mixed", "_law_row", "_law_asked", "_law_alone", "_law_refused"]
def loose : List Str := loose0 ++ loose1
def exs (K : PySem.W.Frag) : List Bool := [xB K usX csX isXs]
def exK (K : PySem.W.Frag) : Bool := (exs K).all id
theorem facts {P : Program} {w : World} {K : PySem.W.Frag} {h : Heap} {mg : Str → Option Value} {f : Addr} (X : K.In h) (G : h.Ns mainGlobals mg) (hfa : mg ("law" : Str) = some (.ref f)) (c : He.SaysD fa fn K) (cx : exK K = true) :
    ∃ fd : FuncData, (∀ (s : Shared) (v : Value), BindsTo s fd ⟨[v], []⟩ [("script", v)]) ∧ ∀ base : Heap, K.In base → base.Ns mainGlobals mg → FnOk P w K mg base CX0 8 f fd ["script"] (SpL K (tbOf K) 1 phi_law) := by
  have TX : Tx K mg (tbOf K) := { b_ValueError := He.free_ok X G (c.fact 0 (f := .free "ValueError") rfl), b_isinstance := He.free_ok X G (c.fact 1 (f := .free "isinstance") rfl), b_len := He.free_ok X G (c.fact 2 (f := .free "len") rfl), b_list := He.free_ok X G (c.fact 3 (f := .free "list") rfl), b_max := He.free_ok X G (c.fact 4 (f := .free "max") rfl), b_min := He.free_ok X G (c.fact 5 (f := .free "min") rfl), b_range := He.free_ok X G (c.fact 6 (f := .free "range") rfl), b_set := He.free_ok X G (c.fact 7 (f := .free "set") rfl), b_sorted := He.free_ok X G (c.fact 8 (f := .free "sorted") rfl), b_sum := He.free_ok X G (c.fact 9 (f := .free "sum") rfl), b_zip := He.free_ok X G (c.fact 10 (f := .free "zip") rfl), x_NoSpan := ⟨rfl, (He.exc_ok (c.fact 11 (f := .exc "NoSpan") rfl)).1, He.glo_ok X G (c.fact 12 (f := .glo "NoSpan") rfl), (He.exc_ok (c.fact 11 (f := .exc "NoSpan") rfl)).2.1, (He.exc_ok (c.fact 11 (f := .exc "NoSpan") rfl)).2.2.1, (He.exc_ok (c.fact 11 (f := .exc "NoSpan") rfl)).2.2.2⟩, g_Busy := He.glo_ok X G (c.fact 13 (f := .glo "Busy") rfl), g_Closed := He.glo_ok X G (c.fact 14 (f := .glo "Closed") rfl), g_Full := He.glo_ok X G (c.fact 15 (f := .glo "Full") rfl), g_HouseError := He.glo_ok X G (c.fact 16 (f := .glo "HouseError") rfl), g_Known := He.glo_ok X G (c.fact 17 (f := .glo "Known") rfl), g_NoDay := He.glo_ok X G (c.fact 18 (f := .glo "NoDay") rfl), g_NoHand := He.glo_ok X G (c.fact 19 (f := .glo "NoHand") rfl), g_NoLetter := He.glo_ok X G (c.fact 20 (f := .glo "NoLetter") rfl), g_NoMeeting := He.glo_ok X G (c.fact 21 (f := .glo "NoMeeting") rfl), g_NoPlace := He.glo_ok X G (c.fact 22 (f := .glo "NoPlace") rfl), g_NoRule := He.glo_ok X G (c.fact 23 (f := .glo "NoRule") rfl), g_NoSpan := He.glo_ok X G (c.fact 12 (f := .glo "NoSpan") rfl), g_NoText := He.glo_ok X G (c.fact 24 (f := .glo "NoText") rfl), g_NoThing := He.glo_ok X G (c.fact 25 (f := .glo "NoThing") rfl), g_NoWord := He.glo_ok X G (c.fact 26 (f := .glo "NoWord") rfl), xx := xB_ok (exB cx 0 rfl) }
  obtain ⟨fd_need_spans, F_need_spans⟩ := c.def_ 0 (d := dd_need_spans) rfl
  have B_need_spans : Binds K fd_need_spans ["row"] [] := F_need_spans.bindsN fun _ _ _ _ _ _ us hl => match us, hl with | [_], _ => rfl
  have G_need_spans : ∀ base : Heap, Fnc P w K mg base (XK.CX P w) (tbOf K) 1 "need_spans" 1 phi_need_spans [] := fun base => ⟨_, _, _, _, _, ok_need_spans TX F_need_spans, He.glo_ok X G (c.fact 27 (f := .glo "need_spans") rfl), F_need_spans.kp, B_need_spans, .nil, fun _ => .nil⟩
  obtain ⟨fd_laid, F_laid⟩ := c.def_ 1 (d := dd_laid) rfl
  have B_laid : Binds K fd_laid ["row"] [] := F_laid.bindsN fun _ _ _ _ _ _ us hl => match us, hl with | [_], _ => rfl
  have G_laid : ∀ base : Heap, Fnc P w K mg base (XK.CX P w) (tbOf K) 2 "laid" 1 phi_laid [] := fun base => ⟨_, _, _, _, _, ok_laid TX (G_need_spans base) F_laid, He.glo_ok X G (c.fact 28 (f := .glo "laid") rfl), F_laid.kp, B_laid, .nil, fun _ => .nil⟩
  obtain ⟨fd_without, F_without⟩ := c.def_ 2 (d := dd_without) rfl
  have B_without : Binds K fd_without ["row", "begin", "end"] [] := F_without.bindsN fun _ _ _ _ _ _ us hl => match us, hl with | [_, _, _], _ => rfl
  have G_without : ∀ base : Heap, Fnc P w K mg base (XK.CX P w) (tbOf K) 1 "without" 3 phi_without [] := fun base => ⟨_, _, _, _, _, ok_without TX F_without, He.glo_ok X G (c.fact 29 (f := .glo "without") rfl), F_without.kp, B_without, .nil, fun _ => .nil⟩
  obtain ⟨fd_left_of, F_left_of⟩ := c.def_ 3 (d := dd_left_of) rfl
  have B_left_of : Binds K fd_left_of ["row", "begin", "end"] [] := F_left_of.bindsN fun _ _ _ _ _ _ us hl => match us, hl with | [_, _, _], _ => rfl
  have G_left_of : ∀ base : Heap, Fnc P w K mg base (XK.CX P w) (tbOf K) 2 "left_of" 3 phi_left_of [] := fun base => ⟨_, _, _, _, _, ok_left_of TX (G_without base) F_left_of, He.glo_ok X G (c.fact 30 (f := .glo "left_of") rfl), F_left_of.kp, B_left_of, .nil, fun _ => .nil⟩
  obtain ⟨fd_minus, F_minus⟩ := c.def_ 4 (d := dd_minus) rfl
  have B_minus : Binds K fd_minus ["one", "other"] [] := F_minus.bindsN fun _ _ _ _ _ _ us hl => match us, hl with | [_, _], _ => rfl
  have G_minus : ∀ base : Heap, Fnc P w K mg base (XK.CX P w) (tbOf K) 3 "minus" 2 phi_minus [] := fun base => ⟨_, _, _, _, _, ok_minus TX (G_laid base) (G_left_of base) F_minus, He.glo_ok X G (c.fact 31 (f := .glo "minus") rfl), F_minus.kp, B_minus, .nil, fun _ => .nil⟩
  obtain ⟨fd_both, F_both⟩ := c.def_ 5 (d := dd_both) rfl
  have B_both : Binds K fd_both ["one", "other"] [] := F_both.bindsN fun _ _ _ _ _ _ us hl => match us, hl with | [_, _], _ => rfl
  have G_both : ∀ base : Heap, Fnc P w K mg base (XK.CX P w) (tbOf K) 3 "both" 2 phi_both [] := fun base => ⟨_, _, _, _, _, ok_both TX (G_laid base) F_both, He.glo_ok X G (c.fact 32 (f := .glo "both") rfl), F_both.kp, B_both, .nil, fun _ => .nil⟩
  obtain ⟨fd_cut, F_cut⟩ := c.def_ 6 (d := dd_cut) rfl
  have B_cut : Binds K fd_cut ["row", "begin", "end"] [] := F_cut.bindsN fun _ _ _ _ _ _ us hl => match us, hl with | [_, _, _], _ => rfl
  have G_cut : ∀ base : Heap, Fnc P w K mg base (XK.CX P w) (tbOf K) 4 "cut" 3 phi_cut [] := fun base => ⟨_, _, _, _, _, ok_cut TX (G_both base) (G_need_spans base) F_cut, He.glo_ok X G (c.fact 33 (f := .glo "cut") rfl), F_cut.kp, B_cut, .nil, fun _ => .nil⟩
  obtain ⟨fd_taken, F_taken⟩ := c.def_ 7 (d := dd_taken) rfl
  have B_taken : Binds K fd_taken ["row"] [] := F_taken.bindsN fun _ _ _ _ _ _ us hl => match us, hl with | [_], _ => rfl
  have G_taken : ∀ base : Heap, Fnc P w K mg base (XK.CX P w) (tbOf K) 3 "taken" 1 phi_taken [] := fun base => ⟨_, _, _, _, _, ok_taken TX (G_laid base) F_taken, He.glo_ok X G (c.fact 34 (f := .glo "taken") rfl), F_taken.kp, B_taken, .nil, fun _ => .nil⟩
  obtain ⟨fd_all_spans, F_all_spans⟩ := c.def_ 8 (d := dd_all_spans) rfl
  have B_all_spans : Binds K fd_all_spans ["rows"] [] := F_all_spans.bindsN fun _ _ _ _ _ _ us hl => match us, hl with | [_], _ => rfl
  have G_all_spans : ∀ base : Heap, Fnc P w K mg base (XK.CX P w) (tbOf K) 2 "all_spans" 1 phi_all_spans [] := fun base => ⟨_, _, _, _, _, ok_all_spans TX (G_need_spans base) F_all_spans, He.glo_ok X G (c.fact 35 (f := .glo "all_spans") rfl), F_all_spans.kp, B_all_spans, .nil, fun _ => .nil⟩
  obtain ⟨fd_borders, F_borders⟩ := c.def_ 9 (d := dd_borders) rfl
  have B_borders : Binds K fd_borders ["laid_rows", "begin", "end"] [] := F_borders.bindsN fun _ _ _ _ _ _ us hl => match us, hl with | [_, _, _], _ => rfl
  have G_borders : ∀ base : Heap, Fnc P w K mg base (XK.CX P w) (tbOf K) 1 "borders" 3 phi_borders [] := fun base => ⟨_, _, _, _, _, ok_borders TX F_borders, He.glo_ok X G (c.fact 36 (f := .glo "borders") rfl), F_borders.kp, B_borders, .nil, fun _ => .nil⟩
  obtain ⟨fd_how_many, F_how_many⟩ := c.def_ 10 (d := dd_how_many) rfl
  have B_how_many : Binds K fd_how_many ["laid_rows", "moment"] [] := F_how_many.bindsN fun _ _ _ _ _ _ us hl => match us, hl with | [_, _], _ => rfl
  have G_how_many : ∀ base : Heap, Fnc P w K mg base (XK.CX P w) (tbOf K) 1 "how_many" 2 phi_how_many [] := fun base => ⟨_, _, _, _, _, ok_how_many TX F_how_many, He.glo_ok X G (c.fact 37 (f := .glo "how_many") rfl), F_how_many.kp, B_how_many, .nil, fun _ => .nil⟩
  obtain ⟨fd_crowd, F_crowd⟩ := c.def_ 11 (d := dd_crowd) rfl
  have B_crowd : Binds K fd_crowd ["rows", "begin", "end"] [] := F_crowd.bindsN fun _ _ _ _ _ _ us hl => match us, hl with | [_, _, _], _ => rfl
  have G_crowd : ∀ base : Heap, Fnc P w K mg base (XK.CX P w) (tbOf K) 5 "crowd" 3 phi_crowd [] := fun base => ⟨_, _, _, _, _, ok_crowd TX (G_borders base) (G_cut base) (G_how_many base) F_crowd, He.glo_ok X G (c.fact 38 (f := .glo "crowd") rfl), F_crowd.kp, B_crowd, .nil, fun _ => .nil⟩
  obtain ⟨fd_free, F_free⟩ := c.def_ 12 (d := dd_free) rfl
  obtain ⟨ds_free, V_free, B_free⟩ := F_free.binds1 (ps := ["rows", "begin", "end", "least"]) 4 1 (List.cons_ne_nil _ _) rfl (fun _ _ _ _ _ _ _ us its hu hi => match us, its, hu, hi with | [_, _, _, _], [_], _, _ => ⟨_, rfl, rfl⟩)
  have G_free : ∀ base : Heap, Fnc P w K mg base (XK.CX P w) (tbOf K) 4 "free" 4 phi_free [] := fun base => ⟨_, _, _, _, _, ok_free TX (G_all_spans base) (G_minus base) F_free, He.glo_ok X G (c.fact 39 (f := .glo "free") rfl), F_free.kp, B_free, V_free, fun _ => .nil⟩
  obtain ⟨ds_free_1, V_free_1, B_free_1⟩ := F_free.binds1 (ps := ["rows", "begin", "end", "least"]) 3 0 (List.cons_ne_nil _ _) rfl (fun _ _ _ _ _ _ _ us its hu hi => match us, its, hu, hi with | [_, _, _], [_], _, _ => ⟨_, rfl, rfl⟩)
  have G_free_1 : ∀ base : Heap, Fnc P w K mg base (XK.CX P w) (tbOf K) 4 "free" 4 phi_free dd_free_1 := fun base => ⟨_, _, _, _, _, ok_free TX (G_all_spans base) (G_minus base) F_free, He.glo_ok X G (c.fact 39 (f := .glo "free") rfl), F_free.kp, B_free_1, V_free_1, fun _ => (.cons (.int _) .nil)⟩
  obtain ⟨fd_first_free, F_first_free⟩ := c.def_ 13 (d := dd_first_free) rfl
  obtain ⟨ds_first_free_1, V_first_free_1, B_first_free_1⟩ := F_first_free.binds1 (ps := ["rows", "begin", "end", "many"]) 3 0 (List.cons_ne_nil _ _) rfl (fun _ _ _ _ _ _ _ us its hu hi => match us, its, hu, hi with | [_, _, _], [_], _, _ => ⟨_, rfl, rfl⟩)
  have G_first_free_1 : ∀ base : Heap, Fnc P w K mg base (XK.CX P w) (tbOf K) 5 "first_free" 4 phi_first_free dd_first_free_1 := fun base => ⟨_, _, _, _, _, ok_first_free TX (G_free base) F_first_free, He.glo_ok X G (c.fact 40 (f := .glo "first_free") rfl), F_first_free.kp, B_first_free_1, V_first_free_1, fun _ => (.cons (.int _) .nil)⟩
  obtain ⟨fd__law_cell_at, F__law_cell_at⟩ := c.def_ 14 (d := dd__law_cell_at) rfl
  have B__law_cell_at : Binds K fd__law_cell_at ["script", "k"] [] := F__law_cell_at.bindsN fun _ _ _ _ _ _ us hl => match us, hl with | [_, _], _ => rfl
  have G__law_cell_at : ∀ base : Heap, Fnc P w K mg base (XK.CX P w) (tbOf K) 1 "_law_cell_at" 2 phi__law_cell_at [] := fun base => ⟨_, _, _, _, _, ok__law_cell_at TX F__law_cell_at, He.glo_ok X G (c.fact 41 (f := .glo "_law_cell_at") rfl), F__law_cell_at.kp, B__law_cell_at, .nil, fun _ => .nil⟩
  obtain ⟨fd__law_mixed, F__law_mixed⟩ := c.def_ 15 (d := dd__law_mixed) rfl
  have B__law_mixed : Binds K fd__law_mixed ["cell", "k", "many"] [] := F__law_mixed.bindsN fun _ _ _ _ _ _ us hl => match us, hl with | [_, _, _], _ => rfl
  have G__law_mixed : ∀ base : Heap, Fnc P w K mg base (XK.CX P w) (tbOf K) 1 "_law_mixed" 3 phi__law_mixed [] := fun base => ⟨_, _, _, _, _, ok__law_mixed TX F__law_mixed, He.glo_ok X G (c.fact 42 (f := .glo "_law_mixed") rfl), F__law_mixed.kp, B__law_mixed, .nil, fun _ => .nil⟩
  obtain ⟨fd__law_row, F__law_row⟩ := c.def_ 16 (d := dd__law_row) rfl
  have B__law_row : Binds K fd__law_row ["script", "first", "cell"] [] := F__law_row.bindsN fun _ _ _ _ _ _ us hl => match us, hl with | [_, _, _], _ => rfl
  have G__law_row : ∀ base : Heap, Fnc P w K mg base (XK.CX P w) (tbOf K) 2 "_law_row" 3 phi__law_row [] := fun base => ⟨_, _, _, _, _, ok__law_row TX (G__law_cell_at base) (G__law_mixed base) F__law_row, He.glo_ok X G (c.fact 43 (f := .glo "_law_row") rfl), F__law_row.kp, B__law_row, .nil, fun _ => .nil⟩
  obtain ⟨fd__law_asked, F__law_asked⟩ := c.def_ 17 (d := dd__law_asked) rfl
  have B__law_asked : Binds K fd__law_asked ["way", "row", "rows", "end"] [] := F__law_asked.bindsN fun _ _ _ _ _ _ us hl => match us, hl with | [_, _, _, _], _ => rfl
  have G__law_asked : ∀ base : Heap, Fnc P w K mg base (XK.CX P w) (tbOf K) 6 "_law_asked" 4 phi__law_asked [] := fun base => ⟨_, _, _, _, _, ok__law_asked TX (G_both base) (G_crowd base) (G_cut base) (G_first_free_1 base) (G_free_1 base) (G_laid base) (G_minus base) (G_taken base) F__law_asked, He.glo_ok X G (c.fact 44 (f := .glo "_law_asked") rfl), F__law_asked.kp, B__law_asked, .nil, fun _ => .nil⟩
  obtain ⟨fd__law_alone, F__law_alone⟩ := c.def_ 18 (d := dd__law_alone) rfl
  have B__law_alone : Binds K fd__law_alone ["e"] [] := F__law_alone.bindsN fun _ _ _ _ _ _ us hl => match us, hl with | [_], _ => rfl
  have G__law_alone : ∀ base : Heap, Fnx P w K mg base (tbOf K) 1 "_law_alone" 1 phi__law_alone := fun base => ⟨_, _, _, ok__law_alone TX F__law_alone, He.glo_ok X G (c.fact 45 (f := .glo "_law_alone") rfl), F__law_alone.kp, B__law_alone⟩
  obtain ⟨fd__law_refused, F__law_refused⟩ := c.def_ 19 (d := dd__law_refused) rfl
  have B__law_refused : Binds K fd__law_refused ["way", "row", "rows", "end"] [] := F__law_refused.bindsN fun _ _ _ _ _ _ us hl => match us, hl with | [_, _, _, _], _ => rfl
  have G__law_refused : ∀ base : Heap, Fnc P w K mg base (XK.CX P w) (tbOf K) 7 "_law_refused" 4 phi__law_refused [] := fun base => ⟨_, _, _, _, _, ok__law_refused TX (G__law_alone base) (G__law_asked base) F__law_refused, He.glo_ok X G (c.fact 46 (f := .glo "_law_refused") rfl), F__law_refused.kp, B__law_refused, .nil, fun _ => .nil⟩
  obtain ⟨fd_law, F_law⟩ := c.def_ 20 (d := dd_law) rfl
  have e := hfa.symm.trans (He.glo_ok X G (c.fact 47 (f := .glo "law") rfl))
  cases e
  have b := FunD.bindsA (ps := ["script"]) F_law fun _ _ _ _ _ _ us hl => match us, hl with | [_], _ => rfl
  exact ⟨fd_law, fun s v => b s [v] rfl, fun base _ _ => ok_law TX (G__law_asked base) (G__law_cell_at base) (G__law_mixed base) (G__law_refused base) (G__law_row base) F_law⟩
abbrev R : PySem.W.OpenRow := PySem.W.OpenLaw.row PySem.Challenge.rw_hourhouse_k44_no_spans
abbrev hk : PySem.W.Hook := hookB 5 fa fn exK
def ob (s : PySem.W.SharedT) : He.AlD × Bool := obsB 5 fa fn exK (HandSHeadRun.getT s)
theorem ob_eq (s : PySem.W.SharedT) : ob s = hk.obs s.abs := obsB_eq (HandSHeadRun.getT_eq s)
theorem run (w : World) : HandSHeadRun.RunEq R (PySem.W.view R.prog [39]) hk ob 20000 loose w := by
  intro os
  kernel_rfl
end Lw
open PySem PySem.W PySem.Calls PyProof.Rows
theorem PySem.Challenge.cw_hourhouse_k44_no_spans_holds : PySem.Challenge.rw_hourhouse_k44_no_spans.Holds := by
  w_on; o_law
  refine HandSHeadRun.head_any (r := OpenLaw.row PySem.Challenge.rw_hourhouse_k44_no_spans) (q := view (OpenLaw.row PySem.Challenge.rw_hourhouse_k44_no_spans).prog [39]) (H := Lw.hk) (ob := Lw.ob) (M := 20000) (loose := Lw.loose) (d := HandSHeadRun.topDef (OpenLaw.row PySem.Challenge.rw_hourhouse_k44_no_spans).prog 39) (kwd := []) Lw.ob_eq
    (by kernel_rfl) (fun s => by kernel_rfl) Lw.run (by kernel_rfl) (by kernel_rfl) (by kernel_rfl) (by rfl) (by first | assumption | decide +kernel) (by decide +kernel) ⟨rfl, rfl, rfl, rfl, rfl, by decide +kernel⟩ ?hw ?hc
  case hw => w_witness2
  case hc =>
    refine L2.walk_ofE (l := PySem.Challenge.rw_hourhouse_k44_no_spans) (n := 63) (k := 8) (x := "script") (CX := L2.CX0) rfl (by decide) (by kernel_rfl) ⟨rfl, by decide, by decide⟩ ?F (fun _ _ _ _ z => z)
    intro w mg fa h Y G hmg0
    obtain ⟨K, KX, c, cx⟩ := Y
    have hmg : mg ("law" : PySem.Str) = some (.ref fa) := by
      have e : (HandSHeadRun.topDef (OpenLaw.row PySem.Challenge.rw_hourhouse_k44_no_spans).prog 39).name = ("law" : PySem.Str) := by kernel_rfl
      rw [← e]
      exact hmg0
    obtain ⟨fd, hb, hF⟩ := Lw.facts (P := (PySem.Challenge.rw_hourhouse_k44_no_spans).prog) (w := w) KX G hmg c cx
    exact ⟨K, fd, _, KX, hb, fun H a ns hl _ hS => DL.spL_law (Lw.law_true ns hl) hS (DL.tbg0 rfl), hF⟩
end
