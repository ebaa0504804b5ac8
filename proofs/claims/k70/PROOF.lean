import PyProof.Rows.All
import Wide.All
import OpenK.AllK
import Wide.FinOn
import HandS.ForMost
import HandS.ForExc
import HandS.Lambda
import KE.SortData
import HandS.IsInst
import HandS.TupAny
import HandS.TupMul
import HandS.Deep
import HandS.Star
import HandS.Conv
import KE.DataCmp
import KE.DataFind
import PyProof.StrOps2
import KE.DataEq
import PyProof.FactsAll.dict
import PyProof.EqKinds
import PyProof.ReprRoads
import PyProof.TupleOfStr
import HandS.CallSlots
import HandS.HeadWalk
import HandS.MakeKwOnly
import HandS.Zip
import PyProof.Draws
import HandS.ExcIs
import KE.KExcIs
import HandS.Style
import KE.KExcPX
import HandS.TryMany
import HandS.More
import OpenK.KOps
import PyProof.InstNe
import HandS.TupSets
import PyProof.WalksMore
import PyProof.FactsAll.subtypes_4
import HandS.Strs
import HandS.ExcInit
import KE.KExcSuper
import KE.KSuper
import KE.KExcInit
import HandS.Wide
import HandS.Head0
import HandS.Head1
import HandS.Head2
import HandS.HeadEnd
import HandS.HeadHook1
import HandS.HeadHook2
import HandS.EndBits
import HandS.EndTab
import PySem.Challenge.RW_roadmeets_k70_errors
section
set_option Elab.async false
set_option linter.all false
set_option maxRecDepth 100000
/-! data, trees of runs, the small language and its evaluator -/
namespace RM
open PySem PySem.Spec PyProof.Rows L2

/-- Python's data by value; mutable things by number -/
inductive D where
  | non | bl (b : Bool) | int (i : Int) | str (x : Str)
  | tup (xs : List D) | lst (xs : List D) | dct (kvs : List (D × D))
  | ins (c : Str) (fs : List (Str × D)) | exc (c : Str) (fs : List (Str × D))
  | scr (ns : List Int) | loc (n : Nat) | drw
  deriving Inhabited

/-- the state beside the data: have draws begun, how many there were, what changes -/
structure Sto where
  beg : Bool := false
  n : Nat := 0
  ob : List (Str × List (Str × D)) := []

/-- how a run ends: a value, an exception, a stop that nothing is known of; or a number below n is drawn -/
inductive T (α : Type) where
  | ret (a : α) (S : Sto)
  | raise (x : D) (S : Sto)
  | fail
  | draw (n : Nat) (k : Nat → T α)

def T.bind {α β : Type} : T α → (α → Sto → T β) → T β
  | .ret a S, f => f a S
  | .raise x S, _ => .raise x S
  | .fail, _ => .fail
  | .draw n k, f => .draw n fun i => (k i).bind f

def T.wp {α : Type} (Q : α → Sto → Prop) (R : D → Sto → Prop) : T α → Prop
  | .ret a S => Q a S
  | .raise x S => R x S
  | .fail => False
  | .draw n k => ∀ i, i < n → (k i).wp Q R

theorem T.wp_bind {α β : Type} {Q : β → Sto → Prop} {R : D → Sto → Prop} {f : α → Sto → T β} : ∀ {t : T α}, (t.bind f).wp Q R ↔ t.wp (fun a S => (f a S).wp Q R) R
  | .ret a S => Iff.rfl
  | .raise x S => Iff.rfl
  | .fail => Iff.rfl
  | .draw n k => by
    unfold T.bind T.wp
    exact forall_congr' fun i => forall_congr' fun _ => T.wp_bind

theorem T.wp_mono {α : Type} {Q Q' : α → Sto → Prop} {R R' : D → Sto → Prop} : ∀ {t : T α}, t.wp Q R → (∀ a S, Q a S → Q' a S) → (∀ x S, R x S → R' x S) → t.wp Q' R'
  | .ret a S, h, hq, _ => hq a S h
  | .raise x S, h, _, hr => hr x S h
  | .fail, h, _, _ => h
  | .draw n k, h, hq, hr => fun i hi => T.wp_mono (h i hi) hq hr

def M (α : Type) := Sto → T α
@[reducible] def M.pure {α : Type} (a : α) : M α := fun S => .ret a S
@[reducible] def M.bind {α β : Type} (m : M α) (f : α → M β) : M β := fun S => (m S).bind f
instance : Monad M := { pure := M.pure, bind := M.bind }
@[reducible] def M.fail {α : Type} : M α := fun _ => .fail
@[reducible] def M.raise {α : Type} (x : D) : M α := fun S => .raise x S
/-- a partial operation -/
def M.op {α : Type} : Option α → M α
  | some a => M.pure a
  | none => M.fail

theorem T.bind_assoc {α β γ : Type} {f : α → Sto → T β} {g : β → Sto → T γ} : ∀ {t : T α}, (t.bind f).bind g = t.bind fun a S => (f a S).bind g
  | .ret a S => rfl
  | .raise x S => rfl
  | .fail => rfl
  | .draw n k => by
    show T.draw n _ = T.draw n _
    congr 1
    funext i
    exact T.bind_assoc
theorem T.bind_ret {α : Type} : ∀ {t : T α}, t.bind (fun a S => .ret a S) = t
  | .ret a S => rfl
  | .raise x S => rfl
  | .fail => rfl
  | .draw n k => by
    show T.draw n _ = T.draw n _
    congr 1
    funext i
    exact T.bind_ret
instance : LawfulMonad M := LawfulMonad.mk'
  (id_map := fun x => by funext S; exact T.bind_ret)
  (pure_bind := fun _ _ => rfl)
  (bind_assoc := fun x f g => by funext S; exact T.bind_assoc)

def wpM {α : Type} (m : M α) (S : Sto) (Q : α → Sto → Prop) (R : D → Sto → Prop) : Prop := (m S).wp Q R
theorem wpM_bind {α β : Type} {m : M α} {f : α → M β} {S : Sto} {Q : β → Sto → Prop} {R : D → Sto → Prop} : wpM (m >>= f) S Q R ↔ wpM m S (fun a S' => wpM (f a) S' Q R) R := T.wp_bind
theorem wpM_pure {α : Type} {a : α} {S : Sto} {Q : α → Sto → Prop} {R : D → Sto → Prop} : wpM (pure a) S Q R ↔ Q a S := Iff.rfl
theorem wpM_op {α : Type} {o : Option α} {S : Sto} {Q : α → Sto → Prop} {R : D → Sto → Prop} : wpM (M.op o) S Q R ↔ ∃ a, o = some a ∧ Q a S := by
  cases o with
  | none => exact ⟨fun h => h.elim, fun ⟨_, h, _⟩ => nomatch h⟩
  | some a => exact ⟨fun h => ⟨a, rfl, h⟩, fun ⟨_, h, q⟩ => by cases h; exact q⟩
theorem wpM_mono {α : Type} {m : M α} {S : Sto} {Q Q' : α → Sto → Prop} {R R' : D → Sto → Prop} (h : wpM m S Q R) (hq : ∀ a S, Q a S → Q' a S) (hr : ∀ x S, R x S → R' x S) : wpM m S Q' R' := T.wp_mono h hq hr
end RM
end
section
set_option Elab.async false
set_option linter.all false
set_option maxRecDepth 100000
/-! how data lie in the abstract heap -/
namespace RM
open PySem PySem.Spec PyProof.Rows L2

/-- ghosts: what is frozen, what is shared and may change, where the draws' dict stands -/
structure Gh where
  Fz : Addr → Prop
  Mu : Addr → Prop
  dr : Option (Addr × Addr)

/-- the text's own classes -/
structure Tx where
  K : PySem.W.Frag
  cls : Str → Option Addr
  cur : Option (Addr × Value × Option Addr) := none
  slf : Option Addr := none
  tabs : List (Addr × Str) := []
  thk : Option (Addr × Gh × Hp) := none

def Gh.fz (G : Gh) (a : Addr) : Gh := { G with Fz := fun b => G.Fz b ∨ b = a }

/-- the script: locked, or of the written part -/
def Scr (K : PySem.W.Frag) (H : Hp) (a : Addr) (ns : List Int) : Prop :=
  (∃ o, H a = some (.frz o (.lst (ns.map V.int)))) ∨
    ∃ (o : Obj) (its : Array Value) (n : Nat), K.lookup a = some o ∧ o.cls = .type "list" ∧ o.dict = none ∧ o.data = .seq its n ∧ its.size ≤ sizeLine ∧ Vals (ns.map V.int) its.toList
theorem Scr.seq {K : PySem.W.Frag} {H : Hp} {a : Addr} {ns : List Int} (h : Scr K H a ns) : SqL K H a (ns.map V.int) := h.elim (fun ⟨o, q⟩ => .inl (.inr ⟨o, q⟩)) .inr

/-- an exception that is a value: its class, its dict -/
def xo (a C p : Addr) : HO := .ext fun h => ∃ (oe : Obj) (vs : Array Value), h.get? a = some oe ∧ Zc (.ref C) (some p) oe ∧ oe.data = .fields vs
def keyD : Key → D
  | .inl i => .int i
  | .inr x => .str x

mutual
inductive RD (Y : Tx) (G : Gh) (H : Hp) : V → D → Prop
  | non : RD Y G H .non .non
  | bl (b : Bool) : RD Y G H (.bl b) (.bl b)
  | int (i : Int) : RD Y G H (.int i) (.int i)
  | str (x : Str) : RD Y G H (.str x) (.str x)
  | tup {a : Addr} {vs : List V} {ds : List D} : SqT Y.K H a vs → RDs Y G H vs ds → RD Y G H (.ref a) (.tup ds)
  | scr {a : Addr} {ns : List Int} : Scr Y.K H a ns → RD Y G H (.ref a) (.scr ns)
  | lst {a : Addr} {vs : List V} {ds : List D} : H a = some (.lst vs) → G.Fz a → RDs Y G H vs ds → RD Y G H (.ref a) (.lst ds)
  | dct {a : Addr} {kvs : List (Key × V)} {ds : List (D × D)} : H a = some (.dK kvs) → G.Fz a → RDk Y G H kvs ds → RD Y G H (.ref a) (.dct ds)
  | dcT {a : Addr} {kvs : List (List Key × V)} {ds : List (D × D)} : H a = some (.dT kvs) → kvs ≠ [] → G.Fz a → RDt Y G H kvs ds → RD Y G H (.ref a) (.dct ds)
  | exc {a C p : Addr} {c : Str} {fv : List (Str × V)} {fs : List (Str × D)} : H a = some (xo a C p) → G.Fz a → H p = some (.xd fv) → G.Fz p → Y.cls c = some C → RDf Y G H fv fs → RD Y G H (.ref a) (.exc c fs)
  | ins {a C dx : Addr} {c : Str} {fv : List (Str × V)} {fs : List (Str × D)} : H a = some (.ins C dx fv) → G.Fz a → Y.cls c = some C → RDf Y G H fv fs → RD Y G H (.ref a) (.ins c fs)
  | drw {z : Addr × Addr} : G.dr = some z → RD Y G H (.ref z.1) .drw
inductive RDs (Y : Tx) (G : Gh) (H : Hp) : List V → List D → Prop
  | nil : RDs Y G H [] []
  | cons {v : V} {d : D} {vs : List V} {ds : List D} : RD Y G H v d → RDs Y G H vs ds → RDs Y G H (v :: vs) (d :: ds)
inductive RDf (Y : Tx) (G : Gh) (H : Hp) : List (Str × V) → List (Str × D) → Prop
  | nil : RDf Y G H [] []
  | cons {f : Str} {v : V} {d : D} {vs : List (Str × V)} {ds : List (Str × D)} : RD Y G H v d → RDf Y G H vs ds → RDf Y G H ((f, v) :: vs) ((f, d) :: ds)
inductive RDk (Y : Tx) (G : Gh) (H : Hp) : List (Key × V) → List (D × D) → Prop
  | nil : RDk Y G H [] []
  | cons {k : Key} {v : V} {d : D} {vs : List (Key × V)} {ds : List (D × D)} : RD Y G H v d → RDk Y G H vs ds → RDk Y G H ((k, v) :: vs) ((keyD k, d) :: ds)
inductive RDt (Y : Tx) (G : Gh) (H : Hp) : List (List Key × V) → List (D × D) → Prop
  | nil : RDt Y G H [] []
  | cons {k : List Key} {v : V} {d : D} {vs : List (List Key × V)} {ds : List (D × D)} : RD Y G H v d → RDt Y G H vs ds → RDt Y G H ((k, v) :: vs) ((.tup (k.map keyD), d) :: ds)
end

/-- what never changes -/
def Solid : HO → Prop
  | .tup _ => True
  | .frz _ _ => True
  | _ => False
/-- what a relation of data leans on is kept -/
structure Kp (G : Gh) (H : Hp) (G' : Gh) (H' : Hp) : Prop where
  fz : ∀ a, G.Fz a → G'.Fz a
  dr : ∀ z, G.dr = some z → G'.dr = some z
  keep : ∀ a o, H a = some o → (Solid o ∨ G.Fz a) → H' a = some o

theorem Kp.refl {G : Gh} {H : Hp} : Kp G H G H := ⟨fun _ h => h, fun _ h => h, fun _ _ h _ => h⟩
theorem Kp.trans {G G1 G2 : Gh} {H H1 H2 : Hp} (a : Kp G H G1 H1) (b : Kp G1 H1 G2 H2) : Kp G H G2 H2 :=
  ⟨fun x h => b.fz x (a.fz x h), fun z h => b.dr z (a.dr z h), fun x o h s => b.keep x o (a.keep x o h s) (s.imp id (a.fz x))⟩

section
variable {Y : Tx} {G G' : Gh} {H H' : Hp}
theorem Kp.sqT (k : Kp G H G' H') {a : Addr} {vs : List V} (h : SqT Y.K H a vs) : SqT Y.K H' a vs := by
  rcases h with (h | ⟨o, h⟩) | h
  · exact .inl (.inl (k.keep a _ h (.inl trivial)))
  · exact .inl (.inr ⟨o, k.keep a _ h (.inl trivial)⟩)
  · exact .inr h
theorem Kp.scr (k : Kp G H G' H') {a : Addr} {ns : List Int} (h : Scr Y.K H a ns) : Scr Y.K H' a ns :=
  h.elim (fun ⟨o, q⟩ => .inl ⟨o, k.keep a _ q (.inl trivial)⟩) .inr
mutual
theorem RD.mono (k : Kp G H G' H') : ∀ {v : V} {d : D}, RD Y G H v d → RD Y G' H' v d
  | _, _, .non => .non
  | _, _, .bl b => .bl b
  | _, _, .int i => .int i
  | _, _, .str x => .str x
  | _, _, .tup h r => .tup (k.sqT h) (RDs.mono k r)
  | _, _, .scr h => .scr (k.scr h)
  | _, _, .lst h f r => .lst (k.keep _ _ h (.inr f)) (k.fz _ f) (RDs.mono k r)
  | _, _, .dct h f r => .dct (k.keep _ _ h (.inr f)) (k.fz _ f) (RDk.mono k r)
  | _, _, .dcT h n f r => .dcT (k.keep _ _ h (.inr f)) n (k.fz _ f) (RDt.mono k r)
  | _, _, .exc h f hp fp c r => .exc (k.keep _ _ h (.inr f)) (k.fz _ f) (k.keep _ _ hp (.inr fp)) (k.fz _ fp) c (RDf.mono k r)
  | _, _, .ins h f c r => .ins (k.keep _ _ h (.inr f)) (k.fz _ f) c (RDf.mono k r)
  | _, _, .drw h => .drw (k.dr _ h)
theorem RDs.mono (k : Kp G H G' H') : ∀ {vs : List V} {ds : List D}, RDs Y G H vs ds → RDs Y G' H' vs ds
  | _, _, .nil => .nil
  | _, _, .cons h r => .cons (RD.mono k h) (RDs.mono k r)
theorem RDf.mono (k : Kp G H G' H') : ∀ {vs : List (Str × V)} {ds : List (Str × D)}, RDf Y G H vs ds → RDf Y G' H' vs ds
  | _, _, .nil => .nil
  | _, _, .cons h r => .cons (RD.mono k h) (RDf.mono k r)
theorem RDk.mono (k : Kp G H G' H') : ∀ {vs : List (Key × V)} {ds : List (D × D)}, RDk Y G H vs ds → RDk Y G' H' vs ds
  | _, _, .nil => .nil
  | _, _, .cons h r => .cons (RD.mono k h) (RDk.mono k r)
theorem RDt.mono (k : Kp G H G' H') : ∀ {vs : List (List Key × V)} {ds : List (D × D)}, RDt Y G H vs ds → RDt Y G' H' vs ds
  | _, _, .nil => .nil
  | _, _, .cons h r => .cons (RD.mono k h) (RDt.mono k r)
end

mutual
theorem RD.tx {Y' : Tx} (hK : Y'.K = Y.K) (hc : Y'.cls = Y.cls) : ∀ {v : V} {d : D}, RD Y G H v d → RD Y' G H v d
  | _, _, .non => .non
  | _, _, .bl b => .bl b
  | _, _, .int i => .int i
  | _, _, .str x => .str x
  | _, _, .tup h r => .tup (hK ▸ h) (RDs.tx hK hc r)
  | _, _, .scr h => .scr (hK ▸ h)
  | _, _, .lst h f r => .lst h f (RDs.tx hK hc r)
  | _, _, .dct h f r => .dct h f (RDk.tx hK hc r)
  | _, _, .dcT h n f r => .dcT h n f (RDt.tx hK hc r)
  | _, _, .exc h f hp fp c r => .exc h f hp fp (by rw [hc]; exact c) (RDf.tx hK hc r)
  | _, _, .ins h f c r => .ins h f (by rw [hc]; exact c) (RDf.tx hK hc r)
  | _, _, .drw h => .drw h
theorem RDs.tx {Y' : Tx} (hK : Y'.K = Y.K) (hc : Y'.cls = Y.cls) : ∀ {vs : List V} {ds : List D}, RDs Y G H vs ds → RDs Y' G H vs ds
  | _, _, .nil => .nil
  | _, _, .cons h r => .cons (RD.tx hK hc h) (RDs.tx hK hc r)
theorem RDf.tx {Y' : Tx} (hK : Y'.K = Y.K) (hc : Y'.cls = Y.cls) : ∀ {vs : List (Str × V)} {ds : List (Str × D)}, RDf Y G H vs ds → RDf Y' G H vs ds
  | _, _, .nil => .nil
  | _, _, .cons h r => .cons (RD.tx hK hc h) (RDf.tx hK hc r)
theorem RDk.tx {Y' : Tx} (hK : Y'.K = Y.K) (hc : Y'.cls = Y.cls) : ∀ {vs : List (Key × V)} {ds : List (D × D)}, RDk Y G H vs ds → RDk Y' G H vs ds
  | _, _, .nil => .nil
  | _, _, .cons h r => .cons (RD.tx hK hc h) (RDk.tx hK hc r)
theorem RDt.tx {Y' : Tx} (hK : Y'.K = Y.K) (hc : Y'.cls = Y.cls) : ∀ {vs : List (List Key × V)} {ds : List (D × D)}, RDt Y G H vs ds → RDt Y' G H vs ds
  | _, _, .nil => .nil
  | _, _, .cons h r => .cons (RD.tx hK hc h) (RDt.tx hK hc r)
end

theorem RDs.length : ∀ {vs : List V} {ds : List D}, RDs Y G H vs ds → vs.length = ds.length
  | _, _, .nil => rfl
  | _, _, .cons _ r => congrArg (· + 1) (RDs.length r)
theorem RDs.get : ∀ {vs : List V} {ds : List D} {i : Nat} {v : V}, RDs Y G H vs ds → vs[i]? = some v → ∃ d, ds[i]? = some d ∧ RD Y G H v d
  | _, _, _, _, .nil, e => by simp at e
  | _, _, 0, _, .cons h r, e => by simp at e; subst e; exact ⟨_, rfl, h⟩
  | _, _, i + 1, _, .cons h r, e => by
    obtain ⟨d, e', r'⟩ := RDs.get (i := i) r (by simpa using e)
    exact ⟨d, by simpa using e', r'⟩
theorem RDs.get' : ∀ {vs : List V} {ds : List D} {i : Nat} {d : D}, RDs Y G H vs ds → ds[i]? = some d → ∃ v, vs[i]? = some v ∧ RD Y G H v d
  | _, _, _, _, .nil, e => by simp at e
  | _, _, 0, _, .cons h r, e => by simp at e; subst e; exact ⟨_, rfl, h⟩
  | _, _, i + 1, _, .cons h r, e => by
    obtain ⟨d, e', r'⟩ := RDs.get' (i := i) r (by simpa using e)
    exact ⟨d, by simpa using e', r'⟩
theorem RDs.append : ∀ {vs ws : List V} {ds es : List D}, RDs Y G H vs ds → RDs Y G H ws es → RDs Y G H (vs ++ ws) (ds ++ es)
  | _, _, _, _, .nil, s => s
  | _, _, _, _, .cons h r, s => .cons h (RDs.append r s)
theorem RDs.take : ∀ {vs : List V} {ds : List D} (n : Nat), RDs Y G H vs ds → RDs Y G H (vs.take n) (ds.take n)
  | _, _, 0, _ => .nil
  | _, _, _ + 1, .nil => .nil
  | _, _, n + 1, .cons h r => .cons h (RDs.take n r)
theorem RDs.drop : ∀ {vs : List V} {ds : List D} (n : Nat), RDs Y G H vs ds → RDs Y G H (vs.drop n) (ds.drop n)
  | _, _, 0, r => r
  | _, _, _ + 1, .nil => .nil
  | _, _, n + 1, .cons _ r => RDs.drop n r
theorem RDs.reverse : ∀ {vs : List V} {ds : List D}, RDs Y G H vs ds → RDs Y G H vs.reverse ds.reverse
  | _, _, .nil => .nil
  | _, _, .cons h r => by
    rw [List.reverse_cons, List.reverse_cons]
    exact RDs.append (RDs.reverse r) (.cons h .nil)
end

/-- the heap goes on: what stood stands, but for what is shared and may change; new things alone are frozen or shared -/
structure Ext (G : Gh) (H : Hp) (G' : Gh) (H' : Hp) : Prop where
  fz : ∀ a, G.Fz a → G'.Fz a
  mu : ∀ a, G.Mu a → G'.Mu a
  dr : ∀ z, G.dr = some z → G'.dr = some z
  keep : ∀ a o, H a = some o → ¬ G.Mu a → H' a = some o
  there : ∀ a, H a ≠ none → H' a ≠ none
  nfz : ∀ a, G'.Fz a → G.Fz a ∨ H a = none
  nmu : ∀ a, G'.Mu a → G.Mu a ∨ H a = none
  ndr : ∀ z, G'.dr = some z → G.dr = some z ∨ H z.2 = none

/-- the draws' state in the heap: z's dict, its list of great cells -/
def DrawOk (G : Gh) (H : Hp) (S : Sto) (z : Addr × Addr) : Prop :=
  ∃ (l : Addr) (ns ms : List Int) (n : Int), H z.1 = some (.dK [(.inr "cells", .ref z.2), (.inr "left", .ref l), (.inr "at", .int n)]) ∧ G.Mu z.1 ∧ G.Mu l ∧ l ≠ z.1 ∧
    H z.2 = some (.lst (ns.map V.int)) ∧ G.Fz z.2 ∧ H l = some (.lst (ms.map V.int)) ∧ ns.length ≤ 63 ∧ ms.length ≤ 63 ∧ (∀ i ∈ ns, i.natAbs < 2 ^ 1048576) ∧ (∀ i ∈ ms, 0 ≤ i ∧ i.natAbs < 2 ^ 1048576) ∧ 0 ≤ n ∧ n ≤ S.n

structure GOk (Y : Tx) (G : Gh) (H : Hp) (S : Sto) : Prop where
  fzmu : ∀ a, G.Fz a → ¬ G.Mu a
  fzT : ∀ a, G.Fz a → H a ≠ none
  muT : ∀ a, G.Mu a → H a ≠ none
  solid : ∀ a o, H a = some o → Solid o → ¬ G.Mu a
  dr : ∀ z, G.dr = some z → DrawOk G H S z
  dr0 : S.beg = false → G.dr = none
  tab : ∀ p ∈ Y.tabs, G.Mu p.1 ∧ LamX.TabS H p.1 p.2
  ext : ∀ a f, H a = some (.ext f) → ¬ G.Mu a

section
variable {Y : Tx} {G G1 G2 : Gh} {H H1 H2 : Hp} {S : Sto}
theorem Ext.refl : Ext G H G H := ⟨fun _ h => h, fun _ h => h, fun _ h => h, fun _ _ h _ => h, fun _ h => h, fun _ h => .inl h, fun _ h => .inl h, fun _ h => .inl h⟩
theorem some_of_ne {α : Type} {o : Option α} (h : o ≠ none) : ∃ a, o = some a := by
  cases o with
  | none => exact absurd rfl h
  | some a => exact ⟨a, rfl⟩
theorem Ext.trans (a : Ext G H G1 H1) (b : Ext G1 H1 G2 H2) : Ext G H G2 H2 where
  fz := fun x h => b.fz x (a.fz x h)
  mu := fun x h => b.mu x (a.mu x h)
  dr := fun z h => b.dr z (a.dr z h)
  keep := fun x o h n => b.keep x o (a.keep x o h n) fun m => (a.nmu x m).elim n fun e => by rw [h] at e; cases e
  there := fun x h => b.there x (a.there x h)
  nfz := fun x h => (b.nfz x h).elim (a.nfz x) fun e => by
    by_cases q : H x = none
    · exact .inr q
    · exact absurd e (a.there x q)
  nmu := fun x h => (b.nmu x h).elim (a.nmu x) fun e => by
    by_cases q : H x = none
    · exact .inr q
    · exact absurd e (a.there x q)
  ndr := fun z h => (b.ndr z h).elim (a.ndr z) fun e => by
    by_cases q : H z.2 = none
    · exact .inr q
    · exact absurd e (a.there z.2 q)
theorem Ext.kp (x : Ext G H G1 H1) (ok : GOk Y G H S) : Kp G H G1 H1 := ⟨x.fz, x.dr, fun a o h s => x.keep a o h (s.elim (ok.solid a o h) (ok.fzmu a))⟩

/-- a new object, neither frozen nor shared -/
theorem Ext.new {p : Addr} {o : HO} (ok : GOk Y G H S) (np : H p = none) : Ext G H G (upd H p o) where
  fz := fun _ h => h
  mu := fun _ h => h
  dr := fun _ h => h
  keep := fun a u h _ => by rw [upd_ne (ne_of_none h np)]; exact h
  there := fun a h => by
    obtain ⟨u, e⟩ := some_of_ne h
    rw [upd_ne (ne_of_none e np)]; exact h
  nfz := fun _ h => .inl h
  nmu := fun _ h => .inl h
  ndr := fun _ h => .inl h
theorem Ext.freeze {p : Addr} {H0 : Hp} {G0 : Gh} (x : Ext G0 H0 G H) (np : H0 p = none) : Ext G0 H0 (G.fz p) H where
  fz := fun a h => .inl (x.fz a h)
  mu := x.mu
  dr := x.dr
  keep := x.keep
  there := x.there
  nfz := fun a h => by
    rcases h with h | h
    · exact x.nfz a h
    · rw [h]; exact .inr np
  nmu := x.nmu
  ndr := x.ndr
theorem DrawOk.keep {z : Addr × Addr} (h : DrawOk G H S z) (k : ∀ a o, H a = some o → (G.Mu a ∨ G.Fz a) → H1 a = some o) (m : ∀ a, G.Mu a → G1.Mu a) (f : ∀ a, G.Fz a → G1.Fz a) : DrawOk G1 H1 S z := by
  obtain ⟨l, ns, ms, n, h1, h2, h3, h4, h5, h6, h7, r⟩ := h
  exact ⟨l, ns, ms, n, k _ _ h1 (.inl h2), m _ h2, m _ h3, h4, k _ _ h5 (.inr h6), f _ h6, k _ _ h7 (.inl h3), r⟩
theorem new_keep {p : Addr} {o : HO} (np : H p = none) : ∀ a u, H a = some u → upd H p o a = some u := fun a u h => by rw [upd_ne (ne_of_none h np)]; exact h
theorem GOk.new {p : Addr} {o : HO} (ok : GOk Y G H S) (np : H p = none) : GOk Y G (upd H p o) S where
  fzmu := ok.fzmu
  fzT := fun a h => by
    obtain ⟨u, e⟩ := some_of_ne (ok.fzT a h)
    rw [new_keep np a u e]; exact fun z => nomatch z
  muT := fun a h => by
    obtain ⟨u, e⟩ := some_of_ne (ok.muT a h)
    rw [new_keep np a u e]; exact fun z => nomatch z
  solid := fun a u h s m => by
    by_cases q : a = p
    · subst q; exact ok.muT a m np
    · rw [upd_ne q] at h; exact ok.solid a u h s m
  dr := fun z h => (ok.dr z h).keep (fun a u e _ => new_keep np a u e) (fun _ h => h) fun _ h => h
  dr0 := ok.dr0
  tab := fun p h => ⟨(ok.tab p h).1, (ok.tab p h).2.ext (new_keep np)⟩
  ext := fun a f h m => by
    by_cases q : a = p
    · subst q; exact ok.muT a m np
    · rw [upd_ne q] at h; exact ok.ext a f h m
/-- a table is kept where neither it nor a code object is written -/
theorem tab_ne {H H' : Hp} {p P : Addr} {q : Str} (t : LamX.TabS H P q) (k : ∀ a u, a ≠ p → H a = some u → H' a = some u) (n : P ≠ p) (nx : ∀ f, H p ≠ some (.ext f)) : LamX.TabS H' P q := by
  obtain ⟨ps, h1, h2, h3⟩ := t
  refine ⟨ps, k _ _ n h1, h2, fun pos cv hc => ?_⟩
  obtain ⟨c, e1, e2⟩ := h3 pos cv hc
  exact ⟨c, e1, k _ _ (fun z => nx _ (z ▸ e2)) e2⟩
theorem GOk.freeze {p : Addr} (ok : GOk Y G H S) (t : H p ≠ none) (n : ¬ G.Mu p) : GOk Y (G.fz p) H S where
  fzmu := fun a h => h.elim (ok.fzmu a) fun e => by rw [e]; exact n
  fzT := fun a h => h.elim (ok.fzT a) fun e => by rw [e]; exact t
  muT := ok.muT
  solid := ok.solid
  dr := fun z h => (ok.dr z h).keep (fun _ _ e _ => e) (fun _ h => h) fun _ h => .inl h
  dr0 := ok.dr0
  tab := ok.tab
  ext := ok.ext
/-- a list of one's own is written -/
theorem GOk.write {p : Addr} {o u : HO} (ok : GOk Y G H S) (t : H p = some u) (f : ¬ G.Fz p) (n : ¬ G.Mu p) (nx : ∀ f, u ≠ .ext f := by intro _ z; cases z) : GOk Y G (upd H p o) S where
  fzmu := ok.fzmu
  fzT := fun a h => by rw [upd_ne (fun e : a = p => f (e ▸ h))]; exact ok.fzT a h
  muT := fun a h => by rw [upd_ne (fun e : a = p => n (e ▸ h))]; exact ok.muT a h
  solid := fun a x h s m => by
    by_cases q : a = p
    · exact n (q ▸ m)
    · rw [upd_ne q] at h; exact ok.solid a x h s m
  dr := fun z h => (ok.dr z h).keep (fun a x e q => by rw [upd_ne (fun e : a = p => q.elim (fun m => n (e ▸ m)) fun m => f (e ▸ m))]; exact e) (fun _ h => h) fun _ h => h
  dr0 := ok.dr0
  tab := fun p' h => ⟨(ok.tab p' h).1, tab_ne (ok.tab p' h).2 (fun a u hn e => by rw [upd_ne hn]; exact e) (fun z => n (by rw [← z]; exact (ok.tab p' h).1)) fun f z => nx f (Option.some.inj (t.symm.trans z))⟩
  ext := fun a f h m => by
    by_cases q : a = p
    · exact n (q ▸ m)
    · rw [upd_ne q] at h; exact ok.ext a f h m
theorem Kp.write {p : Addr} {o : HO} {xs : List V} (t : H p = some (.lst xs)) (f : ¬ G.Fz p) : Kp G H G (upd H p o) := ⟨fun _ h => h, fun _ h => h, fun a u h s => by
  rw [upd_ne (fun e => ?_)]
  · exact h
  · subst e
    rcases s with s | s
    · rw [t] at h; cases h; exact s
    · exact f s⟩
theorem Kp.writeN {p : Addr} {o u : HO} (t : H p = some u) (ns : ¬ Solid u) (f : ¬ G.Fz p) : Kp G H G (upd H p o) := ⟨fun _ h => h, fun _ h => h, fun a x h s => by
  rw [upd_ne (fun e => ?_)]
  · exact h
  · subst e
    rcases s with s | s
    · rw [t] at h; cases h; exact ns s
    · exact f s⟩
theorem Kp.freeze {p : Addr} : Kp G H (G.fz p) H := ⟨fun _ h => .inl h, fun _ h => h, fun _ _ h _ => h⟩
end
end RM
end
section
set_option Elab.async false
set_option linter.all false
set_option maxRecDepth 100000
set_option autoImplicit false
/-! the items of x[lo:hi:-1] -/
namespace RM
open PySem PySem.Spec PyProof.Rows L2
/-- the items of t[lo:hi:-1] -/
def backV {α : Type} (xs : List α) (lo hi : Option Int) : List α :=
  (List.range (Builtin.Slice.slicePlaces (Builtin.Slice.sliceAdjust lo hi (-1) xs.length).1 (Builtin.Slice.sliceAdjust lo hi (-1) xs.length).2 (-1))).filterMap
    fun (k : Nat) => xs[((Builtin.Slice.sliceAdjust lo hi (-1) (xs.length : Int)).1 + (k : Int) * (-1)).toNat]?
theorem backV_none {α : Type} (xs : List α) : backV xs none none = xs.reverse := by
  unfold backV
  have e1 : Builtin.Slice.sliceAdjust none none (-1) (xs.length : Int) = ((xs.length : Int) - 1, -1) := rfl
  have e2 : Builtin.Slice.slicePlaces ((xs.length : Int) - 1) (-1) (-1) = xs.length := by
    unfold Builtin.Slice.slicePlaces
    rw [if_neg (by decide)]
    split
    · rw [show (-(-1) : Int) = 1 by decide, Int.ediv_one]; omega
    · omega
  rw [e1]
  dsimp only
  rw [e2]
  apply List.ext_getElem?
  intro i
  have key : ∀ (n : Nat), n ≤ xs.length → (List.range n).filterMap (fun (k : Nat) => xs[((xs.length : Int) - 1 + (k : Int) * (-1)).toNat]?) = xs.reverse.take n := by
    intro n
    induction n with
    | zero => intro _; rfl
    | succ n ih =>
      intro hn
      rw [List.range_succ, List.filterMap_append, ih (by omega)]
      have e : ((xs.length : Int) - 1 + (n : Int) * (-1)).toNat = xs.length - 1 - n := by omega
      simp only [List.filterMap_cons, List.filterMap_nil, e]
      rw [List.take_succ, List.getElem?_reverse (by omega)]
      have : xs[xs.length - 1 - n]? = some (xs[xs.length - 1 - n]'(by omega)) := List.getElem?_eq_getElem _
      rw [this]
      rfl
  rw [key _ (Nat.le_refl _), List.take_of_length_le (by simp)]
theorem places_le (a b : Int) : ∀ (n : Nat), -1 ≤ b → a ≤ (n : Int) - 1 → Builtin.Slice.slicePlaces a b (-1) ≤ n := by
  intro n hb ha
  unfold Builtin.Slice.slicePlaces
  rw [if_neg (by decide)]
  split
  · rw [show (-(-1) : Int) = 1 by decide, Int.ediv_one]; omega
  · omega
theorem adjust_le (lo hi : Option Int) (n : Nat) : (Builtin.Slice.sliceAdjust lo hi (-1) (n : Int)).1 ≤ (n : Int) - 1 ∧ -1 ≤ (Builtin.Slice.sliceAdjust lo hi (-1) (n : Int)).2 := by
  unfold Builtin.Slice.sliceAdjust
  have h : ((-1 : Int) < 0) := by decide
  simp only [h, if_true]
  constructor
  · cases lo with
    | none => exact Int.le_refl _
    | some v =>
      dsimp only
      split <;> omega
  · cases hi with
    | none => exact Int.le_refl _
    | some v =>
      dsimp only
      split <;> omega
theorem backV_length {α : Type} (xs : List α) (lo hi : Option Int) : (backV xs lo hi).length ≤ xs.length := by
  unfold backV
  refine Nat.le_trans (List.length_filterMap_le _ _) ?_
  rw [List.length_range]
  exact places_le _ _ _ (adjust_le lo hi xs.length).2 (adjust_le lo hi xs.length).1

end RM
end
section
set_option Elab.async false
set_option linter.all false
set_option maxRecDepth 100000
/-! the small language and its evaluator -/
namespace RM
open PySem PySem.Spec PyProof.Rows L2

/-! ### data that are compared, sorted, shown as a whole -/
mutual
def D.pd : D → PyData
  | .bl b => .bool b
  | .int i => .int i
  | .str x => .str x
  | .tup xs => .tuple (D.pds xs)
  | .lst xs => .list (D.pds xs)
  | .dct _ => .dict []
  | _ => .none
def D.pds : List D → List PyData
  | [] => []
  | x :: xs => x.pd :: D.pds xs
end
mutual
def D.pure : D → Bool
  | .non => true
  | .bl _ => true
  | .int _ => true
  | .str _ => true
  | .tup xs => D.pures xs
  | .lst xs => D.pures xs
  | _ => false
def D.pures : List D → Bool
  | [] => true
  | x :: xs => x.pure && D.pures xs
end
mutual
/-- what may be shown: {} too -/
def D.shw : D → Bool
  | .non => true
  | .bl _ => true
  | .int _ => true
  | .str _ => true
  | .tup xs => D.shws xs
  | .lst xs => D.shws xs
  | .dct kvs => kvs.isEmpty
  | _ => false
def D.shws : List D → Bool
  | [] => true
  | x :: xs => x.shw && D.shws xs
end
def D.isNon : D → Bool
  | .non => true
  | _ => false
/-- == is told of both -/
def D.okE (x y : D) : Bool := x.pure && y.pure && decide (min x.pd.depth y.pd.depth ≤ 64)
/-- < is told of both -/
def D.okL (x y : D) : Bool := x.pure && y.pure && PySem.W.alike x.pd y.pd && !x.isNon && decide (min x.pd.depth y.pd.depth ≤ 64)

/-- t == (), xs == [], whatever they hold -/
def emptyEq : D → D → Option Bool
  | .tup xs, .tup [] => some xs.isEmpty
  | .lst xs, .lst [] => some xs.isEmpty
  | _, _ => none
/-- {} -/
def D.isEd : D → Bool
  | .dct kvs => kvs.isEmpty
  | _ => false
/-- what {} is told apart from -/
def D.isST : D → Bool
  | .str _ => true
  | .tup _ => true
  | _ => false
def edIn (x : D) (ys : List D) : Option Bool := if x.isEd && ys.all D.isST then some false else none
def cmpD (op : CmpOp) (x y : D) : Option D :=
  match op with
  | .Eq => if D.okE x y then some (.bl (PyData.eqv x.pd y.pd)) else (emptyEq x y).map .bl
  | .NotEq => if D.okE x y then some (.bl (!PyData.eqv x.pd y.pd)) else (emptyEq x y).map fun b => .bl (!b)
  | .Lt => if D.okL x y then some (.bl (PySem.W.dataLt x.pd y.pd)) else none
  | .Gt => if D.okL x y then some (.bl (PySem.W.dataLt y.pd x.pd)) else none
  | .LtE => if D.okL x y then some (.bl (!PySem.W.dataLt y.pd x.pd)) else none
  | .GtE => if D.okL x y then some (.bl (!PySem.W.dataLt x.pd y.pd)) else none
  | .In => match y with
    | .tup ys => if x.pure && D.pures ys && decide (x.pd.depth ≤ 64) then some (.bl (ys.any fun z => PyData.eqv z.pd x.pd)) else (edIn x ys).map fun b => .bl (b)
    | .lst ys => if x.pure && D.pures ys && decide (x.pd.depth ≤ 64) then some (.bl (ys.any fun z => PyData.eqv z.pd x.pd)) else (edIn x ys).map fun b => .bl (b)
    | .str z => match x with
      | .str c => match c.cps.toList with
        | [k] => some (.bl (decide (k ∈ z.cps.toList)))
        | _ => none
      | _ => none
    | _ => none
  | .NotIn => match y with
    | .tup ys => if x.pure && D.pures ys && decide (x.pd.depth ≤ 64) then some (.bl (!ys.any fun z => PyData.eqv z.pd x.pd)) else (edIn x ys).map fun b => .bl (!b)
    | .lst ys => if x.pure && D.pures ys && decide (x.pd.depth ≤ 64) then some (.bl (!ys.any fun z => PyData.eqv z.pd x.pd)) else (edIn x ys).map fun b => .bl (!b)
    | .str z => match x with
      | .str c => match c.cps.toList with
        | [k] => some (.bl (!decide (k ∈ z.cps.toList)))
        | _ => none
      | _ => none
    | _ => none
  | .Is => if y.isNon then some (.bl x.isNon) else none
  | .IsNot => if y.isNon then some (.bl (!x.isNon)) else none

def mulStr (x : Str) (k : Nat) : Str := ⟨(List.replicate k x.cps.toList).flatten.toArray⟩
def binD (op : Operator) (x y : D) : Option D :=
  match op, x, y with
  | .Add, .int i, .int j => some (.int (i + j))
  | .Sub, .int i, .int j => some (.int (i - j))
  | .Add, .str a, .str b => if a.length + b.length ≤ sizeLine then some (.str (a ++ b)) else none
  | .Add, .tup a, .tup b => if a.length + b.length ≤ sizeLine then some (.tup (a ++ b)) else none
  | .Add, .lst a, .lst b => if a.length + b.length ≤ sizeLine then some (.lst (a ++ b)) else none
  | .Mult, .int i, .int j => if (-(2 ^ 64) < i ∧ i < 2 ^ 64) ∨ (-(2 ^ 64) < j ∧ j < 2 ^ 64) then some (.int (i * j)) else none
  | .FloorDiv, .int i, .int j => if 0 < j ∧ j < 1073741824 then some (.int (i / j)) else none
  | .Mod, .int i, .int j => if 0 < j then some (.int (i % j)) else none
  | .Mult, .str a, .int k => if 0 ≤ k ∧ k ≤ 1000 ∧ a.length ≤ 1000 then some (.str (mulStr a k.toNat)) else none
  | .Mult, .lst a, .int k => if 0 ≤ k ∧ k ≤ 1000 ∧ a.length ≤ 1000 then some (.lst (List.replicate k.toNat a).flatten) else none
  | .Mult, .tup a, .int k => if 2 ≤ k ∧ k ≤ 1000 ∧ a.length ≤ 1000 then some (.tup (List.replicate k.toNat a).flatten) else none
  | .Pow, .int i, .int j => if 0 ≤ j ∧ j ≤ 1000000 ∧ i.natAbs < 2 ^ 64 then some (.int (i ^ j.toNat)) else none
  | _, _, _ => none

def subD (x i : D) : Option D :=
  match x, i with
  | .tup xs, .int i => atI xs i
  | .lst xs, .int i => atI xs i
  | .str z, .int i => if z.length ≤ sizeLine then (atI z.cps.toList i).map fun c => .str ⟨#[c]⟩ else none
  | _, _ => none
/-- a slice's bound -/
def bndD : D → Option (Option Int)
  | .non => some none
  | .int i => some (some i)
  | _ => none
def cutD (xs : List D) (lo hi : Option Int) : List D := (xs.drop (HT.sIx xs.length 0 lo)).take (HT.sIx xs.length xs.length hi - HT.sIx xs.length 0 lo)
def slO (x : D) (lo hi : Option Int) : Option D :=
  match x with
  | .tup xs => some (.tup (cutD xs lo hi))
  | .lst xs => some (.lst (cutD xs lo hi))
  | .str z => if z.length ≤ sizeLine then some (.str (cutS z lo hi)) else none
  | _ => none
/-- x[lo:hi:-1] -/
def bkO (x : D) (lo hi : Option Int) : Option D :=
  match x with
  | .tup xs => some (.tup (backV xs lo hi))
  | .lst xs => if lo.isNone && hi.isNone then some (.lst xs.reverse) else none
  | _ => none
def bkD (x lo hi : D) : Option D := (bndD lo).bind fun l => (bndD hi).bind fun h => bkO x l h
def slD (x lo hi : D) : Option D := (bndD lo).bind fun l => (bndD hi).bind fun h => slO x l h

/-- what an instance may be compared with by its own == -/
def D.isCmp (c : Str) : D → Bool
  | .ins c' _ => c' == c
  | .tup _ => true
  | _ => false
inductive Ty where
  | b (n : String) | c (n : Str)
/-- what is told of the own classes: the own ones over each, itself first; fields of instances; fields of exceptions; which are instances', which exceptions'; the field that an exception's __init__ stores -/
structure Kin where
  par : Str → List Str := fun _ => []
  fld : Str → List Str := fun _ => []
  xfl : Str → List Str := fun _ => []
  isI : Str → Bool := fun _ => false
  isX : Str → Bool := fun _ => false
  ini : Str → Option Str := fun _ => none
  xb : Str → List String := fun _ => []
def xnN (n : String) : Bool := n == "ValueError" || n == "LookupError" || n == "OverflowError" || n == "KeyError" || n == "IndexError"
def isiD (kin : Kin) (d : D) : Ty → Bool
  | .b n => match d with
    | .bl _ => n == "bool" || n == "int"
    | .int _ => n == "int"
    | .str _ => n == "str"
    | .tup _ => n == "tuple"
    | .lst _ => n == "list"
    | .scr _ => n == "list"
    | .dct _ => n == "dict"
    | .drw => n == "dict"
    | .exc c _ => xnN n && (kin.xb c).contains n
    | _ => false
  | .c n => match d with
    | .ins c _ => (kin.par c).contains n
    | .exc c _ => (kin.par c).contains n
    | _ => false

def D.basic (kin : Kin) : D → Bool
  | .ins c _ => kin.isI c
  | .exc c _ => kin.isX c
  | .loc _ => false
  | _ => true
inductive Bi where
  | len | all | any | tuple | tupS | lset | list | sorted | min2 | max2 | sum | repr | int1
  | isi (ts : List Ty)

def bools : List D → Option (List Bool)
  | [] => some []
  | .bl b :: r => (bools r).map (b :: ·)
  | _ => none
def intsD : List D → Option (List Int)
  | [] => some []
  | .int b :: r => (intsD r).map (b :: ·)
  | _ => none
def itemsD : D → Option (List D)
  | .tup xs => some xs
  | .lst xs => some xs
  | .scr ns => some (ns.map .int)
  | _ => none
def leD (a b : D) : Bool := !PySem.W.dataLt b.pd a.pd
/-- what may be sorted -/
def sortable (xs : List D) : Bool :=
  D.pures xs && xs.all (fun x => xs.all fun y => PySem.W.alike x.pd y.pd) && xs.all (fun x => !x.isNon && decide (x.pd.depth ≤ 64))
def lenD : D → Option D
  | .tup xs => some (.int xs.length)
  | .lst xs => some (.int xs.length)
  | .scr xs => some (.int xs.length)
  | .str z => if z.length ≤ sizeLine then some (.int z.length) else none
  | _ => none
/-- the greatest -/
def maxI : List Int → Option Int
  | [] => none
  | a :: r => some (r.foldl (fun x y => if x < y then y else x) a)
def reprOk (d : D) : Bool := d.shw && d.pd.showable && decide (d.pd.depth ≤ 64) && decide (d.pd.shown.length + 64 ≤ sizeLine)
/-- texts -/
def strsD : List D → Option (List Str)
  | [] => some []
  | .str x :: r => (strsD r).map (x :: ·)
  | _ => none
/-- tuples of texts -/
def wordsL : List D → Option (List (List Str))
  | [] => some []
  | .tup xs :: r => (strsD xs).bind fun k => (wordsL r).map (k :: ·)
  | _ => none
/-- each once -/
def dist : List (List Str) → List (List Str)
  | [] => []
  | k :: r => if k ∈ r then dist r else k :: dist r
/-- texts, each once -/
def distS : List Str → List Str
  | [] => []
  | k :: r => if k ∈ r then distS r else k :: distS r
/-- len(set(xs)) -/
def lsetD (xs : List D) : Option D := match wordsL xs with
  | some ks => if ks.length < 64 then some (.int ((dist ks).length : Nat)) else none
  | none => match strsD xs with
    | some ks => if ks.length < 1000 then some (.int ((distS ks).length : Nat)) else none
    | none => none
def biD (kin : Kin) (b : Bi) (xs : List D) : Option D :=
  match b, xs with
  | .len, [x] => lenD x
  | .all, [.lst xs] => (bools xs).map fun bs => .bl (bs.all id)
  | .any, [.lst xs] => (bools xs).map fun bs => .bl (bs.any id)
  | .tuple, [x] => (itemsD x).map .tup
  | .lset, [x] => (itemsD x).bind lsetD
  | .tupS, [.str z] => if z.length ≤ sizeLine then some (.tup (z.cps.toList.map fun c => .str ⟨#[c]⟩)) else none
  | .list, [x] => (itemsD x).map .lst
  | .sorted, [x] => (itemsD x).bind fun xs => if sortable xs then some (.lst (xs.mergeSort leD)) else none
  | .min2, [.int i, .int j] => some (.int (if j < i then j else i))
  | .max2, [.int i, .int j] => some (.int (if j > i then j else i))
  | .max2, [.lst xs] => ((intsD xs).bind maxI).map .int
  | .sum, [.lst xs] => (intsD xs).map fun is => .int is.sum
  | .repr, [x] => if reprOk x then some (.str x.pd.shown) else none
  | .int1, [.int i] => some (.int i)
  | .isi ts, [x] => if x.basic kin then some (.bl (ts.any (isiD kin x))) else none
  | _, _ => none

def truD : D → Option Bool
  | .bl b => some b
  | .non => some false
  | .int i => some (i != 0)
  | .str z => if z.length ≤ sizeLine then some (z.length != 0) else none
  | .tup xs => some (!xs.isEmpty)
  | .lst xs => some (!xs.isEmpty)
  | _ => none
def fldD (kin : Kin) (f : Str) : D → Option D
  | .ins c fs => if (kin.fld c).contains f then fs.lookup f else none
  | .exc c fs => if (kin.xfl c).contains f then fs.lookup f else none
  | _ => none
def xflD (kin : Kin) (f : Str) : D → Option D
  | .exc c fs => if (kin.xfl c).contains f then fs.lookup f else none
  | _ => none

/-- l.index(x) -/
def idxD (x y : D) : Option Nat := match x with
  | .lst ys => if y.pure && D.pures ys && decide (y.pd.depth ≤ 64) then (D.pds ys).findIdx? fun z => PyData.eqv z y.pd else none
  | _ => none

/-! ### the language -/
mutual
inductive E where
  | c (d : D) | v (i : Nat) | b (i : Nat)
  | tup (es : Es) | lst (es : Es)
  | bin (op : Operator) (a b : E) | cmp (op : CmpOp) (a b : E) | chain (o p : CmpOp) (a b c : E)
  | neg (a : E) | not (a : E) | and (a b : E) | or (a b : E) | ife (t : Q) (a b : E)
  | app (f : Str) (es : Es) | bi (b : Bi) (es : Es)
  | fld (o : E) (f : Str) | xfl (i : Nat) (f : Str) | sub (o i : E) | sl (o lo hi : E) | bnd (a : E) | bk (o lo hi : E) | dct0
  | mth (o : E) (m : Str) (cs : List (Str × Str)) (es : Es) | idx (o e : E)
  | appT (f : Str) (e : E) | thk (i : Nat)
  | eqo (ne : Bool) (cs : List (Str × Str)) (a b : E) | leno (cs : List (Str × Str)) (a : E)
  | lc (own : List Nat) (p : List Nat) (it : I) (t : Q) (e : E)
  | lc2 (own : List Nat) (p : List Nat) (it : I) (t : Q) (p2 : List Nat) (it2 : I) (t2 : Q) (e : E)
inductive Es where
  | nil | cons (e : E) (r : Es) | star (e : E) (r : Es)
inductive I where
  | seq (e : E) | rng1 (a : E) | rng2 (a b : E) | enum (e : E) | zip (a b : E)
inductive Q where
  | yes | val (e : E) | not (t : Q) | and (t u : Q) | or (t u : Q)
end

inductive Slot where
  | emp | val (d : D) | own (xs : List D) | exn (x : D) | new (c : Str) (fs : List (Str × D)) | thk
  deriving Inhabited
abbrev Fe := List Slot
/-- what the module's names do: defs, defs that are handed a lambda; what the lambda does that was handed in -/
structure Orc where
  run : Str → List D → M D
  hof : Str → M D → M D := fun _ _ => M.fail
  thk : M D := M.fail
instance : CoeFun Orc (fun _ => Str → List D → M D) := ⟨Orc.run⟩

def setS (ρ : Fe) (i : Nat) (d : D) : Fe := ρ.set i (.val d)
/-- one name, or several for a tuple's (a list's) items -/
def asgP (p : List Nat) (d : D) (ρ : Fe) : Option Fe :=
  match p with
  | [i] => some (setS ρ i d)
  | ps => match d with
    | .tup xs => if xs.length = ps.length then some ((ps.zip xs).foldl (fun ρ q => setS ρ q.1 q.2) ρ) else none
    | _ => none
def wipeE (ρ : Fe) : List Nat → Fe
  | [] => ρ
  | v :: vs => (wipeE ρ vs).set v .emp
/-- nothing may be raised -/
def T.quiet {α : Type} : T α → T α
  | .ret a S => .ret a S
  | .raise _ _ => .fail
  | .fail => .fail
  | .draw n k => .draw n fun i => (k i).quiet
def M.quiet {α : Type} (m : M α) : M α := fun S => (m S).quiet

def mapO (f : D → M (Option D)) : List D → M (List D)
  | [] => pure []
  | x :: xs => do
    let r ← f x
    let rs ← mapO f xs
    pure (match r with
      | some d => d :: rs
      | none => rs)
def mapL (f : D → M (List D)) : List D → M (List D)
  | [] => pure []
  | x :: xs => do
    let r ← f x
    let rs ← mapL f xs
    pure (r ++ rs)
def mkTup (xs : List D) : M D := if xs.length ≤ sizeLine then pure (.tup xs) else M.fail
def mkLst (xs : List D) : M D := if xs.length ≤ sizeLine then pure (.lst xs) else M.fail
def few (n : Nat) : M Unit := if n ≤ 4000 then pure () else M.fail
/-- a length that a list may have -/
def small (n : Nat) : M Unit := if n ≤ sizeLine then pure () else M.fail
def signsD (z : Str) : List D := z.cps.toList.map fun c => .str ⟨#[c]⟩
def iterD : D → Option (List D)
  | .tup xs => some xs
  | .lst xs => some xs
  | .scr ns => some (ns.map .int)
  | .str z => if z.length ≤ sizeLine then some (signsD z) else none
  | _ => none
def rngD (lo : Int) (n : Nat) : List D := (List.range n).map fun (k : Nat) => .int (lo + (k : Int))
def enumD (xs : List D) : List D := xs.zipIdx.map fun p => .tup [.int (p.2 : Nat), p.1]
def zipD (xs ys : List D) : List D := (xs.zip ys).map fun p => .tup [p.1, p.2]

/-- == by an own __eq__, != too -/
def eqoM (kin : Kin) (C : Orc) (ne : Bool) (cs : List (Str × Str)) (x y : D) : M D := match x with
  | .ins c fs => (match cs.lookup c with
    | some q => if y.isCmp c && kin.isI c then do
        match ← M.quiet (C q [.ins c fs, y]) with
        | .bl r => pure (.bl (r != ne))
        | _ => M.fail
      else M.fail
    | none => M.fail)
  | x => M.op (cmpD (if ne then .NotEq else .Eq) x y)
/-- len by an own __len__ -/
def lenoM (C : Orc) (cs : List (Str × Str)) (x : D) : M D := match x with
  | .ins c fs => (match cs.lookup c with
    | some q => do
      match ← M.quiet (C q [.ins c fs]) with
      | .int n => if 0 ≤ n ∧ n < 2 ^ 62 then pure (.int n) else M.fail
      | _ => M.fail
    | none => M.fail)
  | x => M.op (lenD x)
section
variable (kin : Kin) (C : Orc)
mutual
def evE : E → Fe → M D
  | .c d, _ => pure d
  | .v i, ρ => match ρ[i]? with
    | some (.val d) => pure d
    | _ => M.fail
  | .b i, ρ => match ρ[i]? with
    | some (.val d) => pure d
    | some (.own xs) => pure (.lst xs)
    | _ => M.fail
  | .tup es, ρ => do mkTup (← evEs es ρ)
  | .lst es, ρ => do mkLst (← evEs es ρ)
  | .bin op a b, ρ => do
    let x ← evE a ρ
    let y ← evE b ρ
    M.op (binD op x y)
  | .cmp op a b, ρ => do
    let x ← evE a ρ
    let y ← evE b ρ
    M.op (cmpD op x y)
  | .chain o p a b c, ρ => do
    let x ← evE a ρ
    let y ← evE b ρ
    match ← M.op (cmpD o x y) with
    | .bl true => do
      let z ← evE c ρ
      M.op (cmpD p y z)
    | .bl false => pure (.bl false)
    | _ => M.fail
  | .neg a, ρ => do
    match ← evE a ρ with
    | .int i => pure (.int (-i))
    | _ => M.fail
  | .not a, ρ => do
    match ← evE a ρ with
    | .bl b => pure (.bl (!b))
    | _ => M.fail
  | .and a b, ρ => do
    match ← evE a ρ with
    | .bl true => evE b ρ
    | .bl false => pure (.bl false)
    | _ => M.fail
  | .or a b, ρ => do
    match ← evE a ρ with
    | .bl true => pure (.bl true)
    | .bl false => evE b ρ
    | _ => M.fail
  | .ife t a b, ρ => do
    if ← evT t ρ then evE a ρ else evE b ρ
  | .app f es, ρ => do C f (← evEs es ρ)
  | .bi b es, ρ => do M.op (biD kin b (← evEs es ρ))
  | .fld o f, ρ => do M.op (fldD kin f (← evE o ρ))
  | .xfl i f, ρ => match ρ[i]? with
    | some (.exn x) => M.op (xflD kin f x)
    | _ => M.fail
  | .sub o i, ρ => do
    let x ← evE o ρ
    let y ← evE i ρ
    M.op (subD x y)
  | .sl o lo hi, ρ => do
    let x ← evE o ρ
    let l ← evE lo ρ
    let h ← evE hi ρ
    M.op (slD x l h)
  | .bk o lo hi, ρ => do
    let x ← evE o ρ
    let l ← evE lo ρ
    let h ← evE hi ρ
    M.op (bkD x l h)
  | .dct0, _ => pure (.dct [])
  | .idx a b, ρ => do
    match ← evE a ρ with
    | .lst ys => do
      let y ← evE b ρ
      M.op ((idxD (.lst ys) y).map fun (j : Nat) => .int (j : Int))
    | _ => M.fail
  | .mth o m cs es, ρ => do
    match ← evE o ρ with
    | .ins c fs => if (fs.lookup m).isNone then (match cs.lookup c with
      | some q => do
        let xs ← evEs es ρ
        C q (.ins c fs :: xs)
      | none => M.fail) else M.fail
    | _ => M.fail
  | .appT f e, ρ => C.hof f (evE e ρ)
  | .thk i, ρ => match ρ[i]? with
    | some .thk => C.thk
    | _ => M.fail
  | .eqo ne cs a b, ρ => do
    let x ← evE a ρ
    let y ← evE b ρ
    eqoM kin C ne cs x y
  | .leno cs a, ρ => do
    let x ← evE a ρ
    lenoM C cs x
  | .bnd a, ρ => do
    match ← evE a ρ with
    | .int i => pure (.int i)
    | _ => M.fail
  | .lc own p it t e, ρ => do
    let xs ← evI it ρ
    small xs.length
    let rs ← M.quiet (mapO (fun x => do
      let ρ1 ← M.op (asgP p x (wipeE ρ own))
      let b ← evT t ρ1
      if b then do
        let y ← evE e ρ1
        pure (some y)
      else pure none) xs)
    pure (.lst rs)
  | .lc2 own p it t p2 it2 t2 e, ρ => do
    let xs ← evI it ρ
    few xs.length
    let rs ← M.quiet (mapL (fun x => do
      let ρ1 ← M.op (asgP p x (wipeE ρ own))
      let b ← evT t ρ1
      if b then do
        let ys ← evI it2 ρ1
        few ys.length
        mapO (fun y => do
          let ρ2 ← M.op (asgP p2 y (wipeE ρ1 p2))
          let b ← evT t2 ρ2
          if b then do
            let z ← evE e ρ2
            pure (some z)
          else pure none) ys
      else pure []) xs)
    pure (.lst rs)
def evEs : Es → Fe → M (List D)
  | .nil, _ => pure []
  | .cons e r, ρ => do
    let x ← evE e ρ
    let xs ← evEs r ρ
    pure (x :: xs)
  | .star e r, ρ => do
    let x ← evE e ρ
    let ys ← M.op (itemsD x)
    let xs ← evEs r ρ
    pure (ys ++ xs)
def evI : I → Fe → M (List D)
  | .seq e, ρ => do M.op (iterD (← evE e ρ))
  | .rng1 a, ρ => do
    match ← evE a ρ with
    | .int j => if -(2 ^ 62) ≤ j ∧ j ≤ sizeLine then pure (rngD 0 j.toNat) else M.fail
    | _ => M.fail
  | .rng2 a b, ρ => do
    let x ← evE a ρ
    let y ← evE b ρ
    match x, y with
    | .int i, .int j => if -(2 ^ 62) ≤ i ∧ i < 2 ^ 62 ∧ -(2 ^ 62) ≤ j ∧ j < 2 ^ 62 ∧ j - i ≤ sizeLine then pure (rngD i (j - i).toNat) else M.fail
    | _, _ => M.fail
  | .enum e, ρ => do
    match ← evE e ρ with
    | .lst xs => pure (enumD xs)
    | .tup xs => pure (enumD xs)
    | _ => M.fail
  | .zip a b, ρ => do
    let x ← evE a ρ
    let y ← evE b ρ
    match x, y with
    | .lst xs, .lst ys => pure (zipD xs ys)
    | .tup xs, .tup ys => pure (zipD xs ys)
    | _, _ => M.fail
def evT : Q → Fe → M Bool
  | .yes, _ => pure true
  | .val e, ρ => do M.op (truD (← evE e ρ))
  | .not a, ρ => do
    let b ← evT a ρ
    pure (!b)
  | .and a b, ρ => do
    if ← evT a ρ then evT b ρ else pure false
  | .or a b, ρ => do
    if ← evT a ρ then pure true else evT b ρ
end
end
end RM
end
section
set_option Elab.async false
set_option linter.all false
set_option maxRecDepth 100000
set_option autoImplicit false
/-! from the evaluator to HandS's readings -/
namespace RM
open PySem PySem.Spec PyProof.Rows L2

/-- a value that is looked at: data, or a list that may still change later -/
def RV (Y : Tx) (G : Gh) (H : Hp) (v : V) (d : D) : Prop :=
  RD Y G H v d ∨ ∃ a vs ds, v = .ref a ∧ d = .lst ds ∧ H a = some (.lst vs) ∧ ¬ G.Mu a ∧ RDs Y G H vs ds

/-- an exception: its class, its dict -/
def RX (Y : Tx) (G : Gh) (H : Hp) (cls : Value) (dx : Option Addr) (x : D) : Prop :=
  ∃ c C fs p fv, x = .exc c fs ∧ Y.cls c = some C ∧ cls = .ref C ∧ dx = some p ∧ H p = some (.xd fv) ∧ ¬ G.Mu p ∧ RDf Y G H fv fs

section
variable {Y : Tx} {G G' : Gh} {H H' : Hp} {S S' : Sto}
theorem RX.ext {cls : Value} {dx : Option Addr} {x : D} (r : RX Y G H cls dx x) (e : Ext G H G' H') (ok : GOk Y G H S) : RX Y G' H' cls dx x := by
  obtain ⟨c, C, fs, p, fv, e1, e2, e3, e4, h, m, r⟩ := r
  exact ⟨c, C, fs, p, fv, e1, e2, e3, e4, e.keep p _ h m, fun q => (e.nmu p q).elim m fun z => (by rw [h] at z; cases z), r.mono (e.kp ok)⟩
end
def SlotR (Y : Tx) (H0 : Hp) (G : Gh) (H : Hp) (o : Option (Option V)) : Slot → Prop
  | .emp => True
  | .val d => ∃ v, o = some (some v) ∧ RD Y G H v d
  | .exn x => ∃ a cls dx, o = some (some (.ref a)) ∧ Y.cur = some (a, cls, dx) ∧ RX Y G H cls dx x
  | .new c fs => ∃ a C dx fv, o = some (some (.ref a)) ∧ (Y.cls c = some C ∧ Y.slf = some a) ∧ H a = some (.ins C dx fv) ∧ ¬ G.Fz a ∧ ¬ G.Mu a ∧ H0 a = none ∧ RDf Y G H fv fs
  | .thk => ∃ f G0 H1, o = some (some (.ref f)) ∧ Y.thk = some (f, G0, H1)
  | .own xs => ∃ a vs, o = some (some (.ref a)) ∧ H a = some (.lst vs) ∧ ¬ G.Fz a ∧ ¬ G.Mu a ∧ H0 a = none ∧ RDs Y G H vs xs

structure SR (Y : Tx) (H0 : Hp) (G : Gh) (H : Hp) (σ : L2.St) (ρ : Fe) : Prop where
  len : σ.length = ρ.length
  slot : ∀ (i : Nat) (s : Slot), ρ[i]? = some s → SlotR Y H0 G H σ[i]? s
  apart : ∀ (i j : Nat) (xs ys : List D) (a : Addr), ρ[i]? = some (.own xs) → ρ[j]? = some (.own ys) → σ[i]? = some (some (.ref a)) → σ[j]? = some (some (.ref a)) → i = j
  thx : ∀ z, Y.thk = some z → Ext z.2.1 z.2.2 G H ∧ ∀ a, H0 a = none → z.2.2 a = none

section
variable {Y : Tx} {G G' : Gh} {H H' H0 : Hp} {S S' : Sto} {σ : L2.St} {ρ : Fe}
theorem RD.ext {v : V} {d : D} (r : RD Y G H v d) (e : Ext G H G' H') (ok : GOk Y G H S) : RD Y G' H' v d := r.mono (e.kp ok)
theorem RDs.ext {v : List V} {d : List D} (r : RDs Y G H v d) (e : Ext G H G' H') (ok : GOk Y G H S) : RDs Y G' H' v d := r.mono (e.kp ok)
theorem RV.ext {v : V} {d : D} (r : RV Y G H v d) (e : Ext G H G' H') (ok : GOk Y G H S) : RV Y G' H' v d := by
  rcases r with r | ⟨a, vs, ds, rfl, rfl, h, m, r⟩
  · exact .inl (r.ext e ok)
  · exact .inr ⟨a, vs, ds, rfl, rfl, e.keep a _ h m, fun q => (e.nmu a q).elim m fun z => (by rw [h] at z; cases z), r.ext e ok⟩
theorem SlotR.ext {o : Option (Option V)} {s : Slot} (r : SlotR Y H0 G H o s) (e : Ext G H G' H') (ok : GOk Y G H S) : SlotR Y H0 G' H' o s := by
  cases s with
  | emp => trivial
  | val d => obtain ⟨v, h, r⟩ := r; exact ⟨v, h, r.ext e ok⟩
  | exn x => obtain ⟨a, cls, dx, h, c, r⟩ := r; exact ⟨a, cls, dx, h, c, r.ext e ok⟩
  | new c fs =>
    obtain ⟨a, C, dx, fv, h, hc, ha, f, m, h0, r⟩ := r
    have no : H a = none → False := fun z => by rw [ha] at z; cases z
    exact ⟨a, C, dx, fv, h, hc, e.keep a _ ha m, fun q => (e.nfz a q).elim f no, fun q => (e.nmu a q).elim m no, h0, r.mono (e.kp ok)⟩
  | thk => exact r
  | own xs =>
    obtain ⟨a, vs, h, ha, f, m, h0, r⟩ := r
    have no : H a = none → False := fun z => by rw [ha] at z; cases z
    exact ⟨a, vs, h, e.keep a _ ha m, fun q => (e.nfz a q).elim f no, fun q => (e.nmu a q).elim m no, h0, r.ext e ok⟩
theorem SR.ext (r : SR Y H0 G H σ ρ) (e : Ext G H G' H') (ok : GOk Y G H S) : SR Y H0 G' H' σ ρ := ⟨r.len, fun i s h => (r.slot i s h).ext e ok, r.apart, fun z hz => ⟨(r.thx z hz).1.trans e, (r.thx z hz).2⟩⟩
end

/-- what is wanted of a value, of an exception -/
def QE (Y : Tx) (G : Gh) (H : Hp) (R : Gh → Hp → V → D → Prop) (Q : VK) : D → Sto → Prop := fun d S' => ∀ G' H' v, Ext G H G' H' → GOk Y G' H' S' → R G' H' v d → Q v H'
def RE (Y : Tx) (G : Gh) (H : Hp) (σ : L2.St) (W : WX) : D → Sto → Prop := fun x S' => ∀ G' H' cls dx, Ext G H G' H' → GOk Y G' H' S' → RX Y G' H' cls dx x → W cls dx σ H'
def tE (Y : Tx) (W : WX) (R : Gh → Hp → V → D → Prop) (m : Fe → M D) : TE := fun σ H Q => ∃ H0 G ρ S, GOk Y G H S ∧ SR Y H0 G H σ ρ ∧ wpM (m ρ) S (QE Y G H R Q) (RE Y G H σ W)
/-- values -/
abbrev tEv (Y : Tx) (W : WX) : (Fe → M D) → TE := tE Y W (RD Y)
/-- looks -/
abbrev tEl (Y : Tx) (W : WX) : (Fe → M D) → TE := tE Y W (RV Y)
def tQ (Y : Tx) (W : WX) (m : Fe → M Bool) : TT := fun σ H Q => ∃ H0 G ρ S, GOk Y G H S ∧ SR Y H0 G H σ ρ ∧ wpM (m ρ) S (fun b S' => ∀ G' H', Ext G H G' H' → GOk Y G' H' S' → Q b H') (RE Y G H σ W)
def tEs (Y : Tx) (W : WX) (m : Fe → M (List D)) : TA := fun σ H Q => ∃ H0 G ρ S, GOk Y G H S ∧ SR Y H0 G H σ ρ ∧ wpM (m ρ) S (fun ds S' => ∀ G' H' vs, Ext G H G' H' → GOk Y G' H' S' → RDs Y G' H' vs ds → Q vs H') (RE Y G H σ W)

section
variable {X : Cx} {e : Expr} {t t' : TE}
theorem _root_.L2.PE.imp (h : PE X e t) (hi : ∀ σ H Q, t' σ H Q → t σ H Q) : PE X e t' := ⟨fun pins s σ H Q I w => h.run pins s σ H Q I (hi σ H Q w)⟩
theorem _root_.L2.PT.imp {t t' : TT} (h : PT X e t) (hi : ∀ σ H Q, t' σ H Q → t σ H Q) : PT X e t' := ⟨fun pins s σ H Q I w => h.run pins s σ H Q I (hi σ H Q w)⟩
theorem _root_.L2.PW.imp {t t' : TT} (h : PW X e t) (hi : ∀ σ H Q, t' σ H Q → t σ H Q) : PW X e t' := ⟨fun wh pins s σ H Q I w => h.run wh pins s σ H Q I (hi σ H Q w)⟩
theorem _root_.L2.PS.imp {X : Cx} {st : Stmt} {t t' : TS} (h : PS X st t) (hi : ∀ D σ H, t' D σ H → t D σ H) : PS X st t' := ⟨fun pins s σ H D I w => h.run pins s σ H D I (hi D σ H w)⟩
theorem _root_.L2.PSs.imp {X : Cx} {st : List Stmt} {t t' : TS} (h : PSs X st t) (hi : ∀ D σ H, t' D σ H → t D σ H) : PSs X st t' := ⟨fun pins s σ H D I w => h.run pins s σ H D I (hi D σ H w)⟩
theorem _root_.L2.PA.imp {es : List Expr} {t t' : TA} (h : PA X es t) (hi : ∀ σ H Q, t' σ H Q → t σ H Q) : PA X es t' := ⟨fun pos pins s σ H Q I w => h.run pos pins s σ H Q I (hi σ H Q w)⟩
end

section
variable {Y : Tx} {W : WX} {G G' G1 : Gh} {H H' H1 H0 : Hp} {S S' : Sto} {σ : L2.St} {ρ : Fe}
theorem RE.trans {x : D} (r : RE Y G H σ W x S) (e : Ext G H G1 H1) : RE Y G1 H1 σ W x S := fun G' H' cls dx e' ok rx => r G' H' cls dx (e.trans e') ok rx
theorem RD.rv {v : V} {d : D} (r : RD Y G H v d) : RV Y G H v d := .inl r
theorem tEv.look {m : Fe → M D} {Q : VK} (h : tEl Y W m σ H Q) : tEv Y W m σ H Q := by
  obtain ⟨H0, G, ρ, S, ok, sr, w⟩ := h
  exact ⟨H0, G, ρ, S, ok, sr, wpM_mono w (fun d S' q G' H' v e ok' r => q G' H' v e ok' r.rv) fun _ _ h => h⟩

/-- one operand, then an operation -/
theorem un1 {R : Gh → Hp → V → D → Prop} {ma : Fe → M D} {f : D → Option D} {r : V → Hp → VK → Prop} {Q : VK}
    (hr : ∀ G H S v x d (Q : VK), GOk Y G H S → R G H v x → f x = some d → (∀ G' H' w, Ext G H G' H' → GOk Y G' H' S → RD Y G' H' w d → Q w H') → r v H Q)
    (h : tEv Y W (fun ρ => do M.op (f (← ma ρ))) σ H Q) : tE Y W R ma σ H fun v H1 => r v H1 Q := by
  obtain ⟨H0, G, ρ, S, ok, sr, w⟩ := h
  refine ⟨H0, G, ρ, S, ok, sr, wpM_mono (wpM_bind.mp w) (fun x S1 w1 G1 H1 v e1 ok1 r1 => ?_) fun _ _ h => h⟩
  obtain ⟨d, hd, q⟩ := wpM_op.mp w1
  exact hr G1 H1 S1 v x d Q ok1 r1 hd fun G' H' w' e' ok' r' => q G' H' w' (e1.trans e') ok' r'
/-- two operands, then an operation -/
theorem bin2 {ma mb : Fe → M D} {f : D → D → Option D} {r : R2} {Q : VK}
    (hr : ∀ G H S v w x y d (Q : VK), GOk Y G H S → RV Y G H v x → RV Y G H w y → f x y = some d → (∀ G' H' w, Ext G H G' H' → GOk Y G' H' S → RD Y G' H' w d → Q w H') → r v w H Q)
    (h : tEv Y W (fun ρ => do
      let x ← ma ρ
      let y ← mb ρ
      M.op (f x y)) σ H Q) : tOp r (tEl Y W ma) (tEl Y W mb) σ H Q := by
  obtain ⟨H0, G, ρ, S, ok, sr, w⟩ := h
  refine ⟨H0, G, ρ, S, ok, sr, wpM_mono (wpM_bind.mp w) (fun x S1 w1 G1 H1 v e1 ok1 r1 => ?_) fun _ _ h => h⟩
  refine ⟨H0, G1, ρ, S1, ok1, sr.ext e1 ok, wpM_mono (wpM_bind.mp w1) (fun y S2 w2 G2 H2 u e2 ok2 r2 => ?_) fun x S h => h.trans e1⟩
  obtain ⟨d, hd, q⟩ := wpM_op.mp w2
  exact hr G2 H2 S2 v u x y d Q ok2 (r1.ext e2 ok1) r2 hd fun G' H' w' e' ok' r' => q G' H' w' (e1.trans (e2.trans e')) ok' r'

/-- a new tuple -/
theorem fin_tup {vs : List V} {ds : List D} {Q : VK} (ok : GOk Y G H S) (r : RDs Y G H vs ds) (q : ∀ G' H' w, Ext G H G' H' → GOk Y G' H' S → RD Y G' H' w (.tup ds) → Q w H') : ∀ p, H p = none → Q (.ref p) (upd H p (.tup vs)) := fun p np => by
  have e : Ext G H G (upd H p (.tup vs)) := Ext.new ok np
  exact q G _ _ e (ok.new np) (.tup (.of upd_same) (r.ext e ok))
/-- a new list, frozen -/
theorem fin_lst {vs : List V} {ds : List D} {Q : VK} (ok : GOk Y G H S) (r : RDs Y G H vs ds) (q : ∀ G' H' w, Ext G H G' H' → GOk Y G' H' S → RD Y G' H' w (.lst ds) → Q w H') : ∀ p, H p = none → Q (.ref p) (upd H p (.lst vs)) := fun p np => by
  have e : Ext G H G (upd H p (.lst vs)) := Ext.new ok np
  have m : ¬ G.Mu p := fun m => ok.muT p m np
  exact q (G.fz p) _ _ (e.freeze np) ((ok.new np).freeze (by rw [upd_same]; exact fun z => nomatch z) m) (.lst upd_same (.inr rfl) ((r.ext e ok).mono Kp.freeze))

theorem RV.int {v : V} {i : Int} (r : RV Y G H v (.int i)) : v = .int i := by
  rcases r with r | ⟨_, _, _, _, e, _⟩
  · cases r; rfl
  · cases e
theorem RV.str {v : V} {i : Str} (r : RV Y G H v (.str i)) : v = .str i := by
  rcases r with r | ⟨_, _, _, _, e, _⟩
  · cases r; rfl
  · cases e
theorem RV.bl {v : V} {i : Bool} (r : RV Y G H v (.bl i)) : v = .bl i := by
  rcases r with r | ⟨_, _, _, _, e, _⟩
  · cases r; rfl
  · cases e
theorem RV.non {v : V} (r : RV Y G H v .non) : v = .non := by
  rcases r with r | ⟨_, _, _, _, e, _⟩
  · cases r; rfl
  · cases e
theorem RV.tup {v : V} {ds : List D} (r : RV Y G H v (.tup ds)) : ∃ a vs, v = .ref a ∧ SqT Y.K H a vs ∧ RDs Y G H vs ds := by
  rcases r with r | ⟨_, _, _, _, e, _⟩
  · cases r with
    | tup h r => exact ⟨_, _, rfl, h, r⟩
  · cases e
theorem RV.lst {v : V} {ds : List D} (r : RV Y G H v (.lst ds)) : ∃ a vs, v = .ref a ∧ H a = some (.lst vs) ∧ RDs Y G H vs ds := by
  rcases r with r | ⟨a, vs, ds', e1, e, h, _, r⟩
  · cases r with
    | lst h f r => exact ⟨_, _, rfl, h, r⟩
  · cases e
    exact ⟨a, vs, e1, h, r⟩
end
end RM
end
section
set_option Elab.async false
set_option linter.all false
set_option maxRecDepth 100000
set_option autoImplicit false
/-! the operations keep what binD, cmpD, biD say -/
namespace RM
open PySem PySem.Spec PyProof.Rows L2

/-- a context that the rules serve -/
structure XOk (Y : Tx) (k : Nat) (hot : Bool) (X : Cx) : Prop where
  nd : X.N.Nodup
  calm : hot = false → X.calm = true
  hK : X.K = Y.K
  room : hot = false → Room k X.A
  units : X.A.units + 200 < cLine
  gd : X.A.guards = some []
  sys : ∃ o, X.base.get? sysModules = some o
  room1 : hot = false → Room (k + 1) X.A

section
variable {Y : Tx} {G : Gh} {H : Hp}
mutual
theorem RD.dp : ∀ {d : D} {v : V}, d.pure = true → RD Y G H v d → Dp Y.K H v d.pd
  | .non, _, _, r => by cases r; exact .non
  | .bl b, _, _, r => by cases r; exact .bl b
  | .int i, _, _, r => by cases r; exact .int i
  | .str x, _, _, r => by cases r; exact .str x
  | .tup xs, _, p, r => by
    cases r with
    | tup h r => exact .tup h (RDs.dp (by simpa [D.pure] using p) r)
  | .lst xs, _, p, r => by
    cases r with
    | lst h f r => exact .lst (.of h) (RDs.dp (by simpa [D.pure] using p) r)
  | .dct _, _, p, _ => by simp [D.pure] at p
  | .ins _ _, _, p, _ => by simp [D.pure] at p
  | .exc _ _, _, p, _ => by simp [D.pure] at p
  | .scr _, _, p, _ => by simp [D.pure] at p
  | .loc _, _, p, _ => by simp [D.pure] at p
  | .drw, _, p, _ => by simp [D.pure] at p
theorem RDs.dp : ∀ {ds : List D} {vs : List V}, D.pures ds = true → RDs Y G H vs ds → DpAll Y.K H vs (D.pds ds)
  | [], _, _, r => by cases r; exact .nil
  | d :: ds, _, p, r => by
    cases r with
    | cons h r =>
      have p' : d.pure = true ∧ D.pures ds = true := by simpa [D.pures] using p
      exact .cons (RD.dp p'.1 h) (RDs.dp p'.2 r)
end
theorem RV.dp {v : V} {d : D} (p : d.pure = true) (r : RV Y G H v d) : Dp Y.K H v d.pd := by
  rcases r with r | ⟨a, vs, ds, rfl, rfl, h, _, r⟩
  · exact r.dp p
  · exact .lst (.of h) (RDs.dp (by simpa [D.pure] using p) r)
mutual
theorem pure_plain : ∀ d : D, d.pure = true → d.pd.plain = true
  | .non, _ => rfl
  | .bl _, _ => rfl
  | .int _, _ => rfl
  | .str _, _ => rfl
  | .tup xs, p => by
    show PyData.plain (.tuple (D.pds xs)) = true
    simp only [PyData.plain]
    exact pures_plain xs (by simpa [D.pure] using p)
  | .lst xs, p => by
    show PyData.plain (.list (D.pds xs)) = true
    simp only [PyData.plain]
    exact pures_plain xs (by simpa [D.pure] using p)
  | .dct _, p => by simp [D.pure] at p
  | .ins _ _, p => by simp [D.pure] at p
  | .exc _ _, p => by simp [D.pure] at p
  | .scr _, p => by simp [D.pure] at p
  | .loc _, p => by simp [D.pure] at p
  | .drw, p => by simp [D.pure] at p
theorem pures_plain : ∀ ds : List D, D.pures ds = true → PyData.plainAll (D.pds ds) = true
  | [], _ => by simp [D.pds, PyData.plainAll]
  | d :: ds, p => by
    have p' : d.pure = true ∧ D.pures ds = true := by simpa [D.pures] using p
    simp [D.pds, PyData.plainAll, pure_plain d p'.1, pures_plain ds p'.2]
end
theorem pds_map : ∀ ds : List D, D.pds ds = ds.map D.pd
  | [] => rfl
  | d :: ds => by simp [D.pds, pds_map ds]
theorem any_pds (ds : List D) (p : PyData → Bool) : (D.pds ds).any p = ds.any fun z => p z.pd := by
  rw [pds_map, List.any_map]
  rfl
theorem isNon_pd {d : D} (h : d.pure = true) (n : d.isNon = false) : d.pd ≠ .none := by
  cases d <;> simp_all [D.pure, D.isNon, D.pd]
end

/-- by values: an operation that gives what f says -/
def rB (Y : Tx) (f : D → D → Option D) : R2 := fun v w H Q => ∃ G S x y d, GOk Y G H S ∧ RV Y G H v x ∧ RV Y G H w y ∧ f x y = some d ∧ ∀ G' H' u, Ext G H G' H' → GOk Y G' H' S → RD Y G' H' u d → Q u H'
theorem tB {Y : Tx} {W : WX} {σ : L2.St} {H : Hp} {ma mb : Fe → M D} {f : D → D → Option D} {Q : VK}
    (h : tEv Y W (fun ρ => do
      let x ← ma ρ
      let y ← mb ρ
      M.op (f x y)) σ H Q) : tOp (rB Y f) (tEl Y W ma) (tEl Y W mb) σ H Q :=
  bin2 (fun G H S v w x y d Q ok r1 r2 e q => ⟨G, S, x, y, d, ok, r1, r2, e, q⟩) h

section
variable {Y : Tx} {k : Nat} {hot : Bool} {X : Cx}
theorem tup_mul0 (l : Addr) (n : Nat) (dd : Option Addr) (sl : Array (Option Value)) (x : Int) (u : Tok) (c0 : (decide (x < -(2 ^ 63)) || decide (x ≥ 2 ^ 63)) = false) :
    Meets (Builtin.«tuple.__mul__» ⟨[.ref l, .int x u], []⟩) (fun _ R s => s.heap.get? l = some { cls := .type "tuple", dict := dd, data := .seq #[] n, slots := sl } ∧ R (.ok (.ret (Value.ref l))) s) :=
  .of_wp fun prog w A R s h => by
    obtain ⟨hp, g, d, tk, os⟩ := s
    obtain ⟨hl, h⟩ := h
    have f1 := AutoSeq1.idx_int
    wp_walk using wpAny_loadPart' hl
    repeat (first
      | (refine wpAny_ite_false (decide_eq_false (by rw [c0]; simp)) ?_
         wp_walk using wpAny_loadPart' hl)
      | (refine wpAny_ite_true (decide_eq_true (by rfl)) ?_
         wp_walk using wpAny_loadPart' hl))
    exact ⟨_, rfl, h⟩
theorem or_mulS {pins : List (Addr × Obj)} {s : Shared} {σ : L2.St} {H : Hp} {a : Str} {n : Int} {u1 u2 : Value} {Q : VK} (I : Inv X pins σ H s) (r1 : RelV (.str a) u1) (r2 : RelV (.int n) u2) (h0 : 0 ≤ n) (h1 : n ≤ 1000) (h2 : a.length ≤ 1000)
    (q : Q (.str (mulStr a n.toNat)) H) : wpAny (model X.prog X.w) X.A (binaryOp .Mult u1 u2) (EP X pins σ Q) X.xe s := by
  obtain ⟨t, rfl⟩ := r1
  obtain ⟨t', rfl⟩ := r2
  have e0 : mulStr a 0 = Str.empty := by
    unfold mulStr
    rfl
  have e1 : mulStr a 1 = a := by
    unfold mulStr
    cases a
    simp
  have en : ∀ m : Nat, a.length = 0 → mulStr a m = a := fun m hz => by
    have hl : a.cps.toList = [] := List.eq_nil_of_length_eq_zero (by rw [Array.length_toList]; exact hz)
    unfold mulStr
    rw [hl]
    have : (List.replicate m ([] : List Nat)).flatten = [] := by simp
    rw [this]
    cases a with
    | mk c =>
      have hc : c = #[] := Array.toList_inj.mp hl
      rw [hc]
  have ef : ∀ m : Nat, (⟨(List.replicate m a.cps).foldl (· ++ ·) #[]⟩ : Str) = mulStr a m := fun m => by
    unfold mulStr
    congr 1
    have g : ∀ (m : Nat) (z : Array Nat), (List.replicate m a.cps).foldl (· ++ ·) z = z ++ (List.replicate m a.cps.toList).flatten.toArray := by
      intro m
      induction m with
      | zero => intro z; simp
      | succ m ih =>
        intro z
        rw [List.replicate_succ, List.foldl_cons, ih, List.replicate_succ, List.flatten_cons]
        rw [Array.append_assoc]
        congr 1
        apply Array.ext'
        simp
    rw [g]
    simp
  have hlen : a.length * n.toNat ≤ 1000 * 1000 := Nat.mul_le_mul h2 (by omega)
  refine P.mul_str (by rw [decide_eq_false (by omega), decide_eq_false (by omega)]; rfl) (fun hn _ => ?_) (fun _ _ => ?_) ?_
  · have hm : (a.length : Int) * n ≤ 2 ^ 63 - 1 := by
      have h3 : (a.length : Int) * n ≤ 1000 * 1000 := Int.mul_le_mul (by omega) h1 h0 (by decide)
      omega
    exact Int.not_lt.mpr (Int.le_ediv_of_mul_le (by omega) hm)
  · unfold Builtin.Str.tooLong
    rw [sizeLine_eq]
    exact decide_eq_false (by omega)
  · have fin : ∀ (z : Str) (t : Tok), z = mulStr a n.toNat → EP X pins σ Q (.str z t) { s with toks := s.toks + 1 } := fun z t e => ⟨.str (mulStr a n.toNat), H, I.tok _, ⟨t, by rw [e]⟩, q⟩
    by_cases c1 : n < 1
    · rw [if_pos c1]
      have : n.toNat = 0 := by omega
      exact ⟨by decide, fin _ _ (by rw [this, e0])⟩
    · rw [if_neg c1]
      by_cases c2 : (n == 1 || a.length == 0) = true
      · rw [if_pos c2]
        have ea : a = mulStr a n.toNat := by
          rcases Bool.or_eq_true_iff.mp c2 with c2 | c2
          · have : n.toNat = 1 := by
              have := beq_iff_eq.mp c2
              omega
            rw [this, e1]
          · exact (en _ (beq_iff_eq.mp c2)).symm
        exact ⟨.str (mulStr a n.toNat), H, I, ⟨t, by rw [← ea]⟩, q⟩
      · rw [if_neg c2]
        refine ⟨?_, fin _ _ (ef _)⟩
        rw [ef, sizeLine_eq]
        show (mulStr a n.toNat).cps.size ≤ _
        unfold mulStr
        have hs : ((List.replicate n.toNat a.cps.toList).flatten.toArray).size = n.toNat * a.length := by
          simp [Str.length]
        have hc : n.toNat * a.length = a.length * n.toNat := Nat.mul_comm _ _
        show ((List.replicate n.toNat a.cps.toList).flatten.toArray).size ≤ 16777216
        rw [hs]
        omega
theorem or_bin (ox : XOk Y k hot X) (op : Operator) : OpR X (binaryOp op) (rB Y (binD op)) := by
  intro pins s σ H v w u1 u2 Q I ru1 ru2 ⟨G, S, x, y, d, ok, r1, r2, e, q⟩
  have scalar : ∀ z : V, (∀ G H, RD Y G H z d) → Q z H := fun z hz => q G H z Ext.refl ok (hz G H)
  cases op
  case Add =>
    cases x <;> cases y <;> simp only [binD] at e <;> try (cases e; done)
    · cases e
      cases r1.int; cases r2.int
      exact op_add pins s σ H _ _ u1 u2 Q I ru1 ru2 ⟨_, _, rfl, rfl, scalar _ fun _ _ => .int _⟩
    · split at e
      · rename_i hz
        cases e
        cases r1.str; cases r2.str
        exact op_add_str pins s σ H _ _ u1 u2 Q I ru1 ru2 ⟨_, _, rfl, rfl, hz, scalar _ fun _ _ => .str _⟩
      · cases e
    · split at e
      · rename_i xs ys hz
        cases e
        obtain ⟨a, vs, rfl, ha, rv⟩ := r1.tup
        obtain ⟨b, ws, rfl, hb, rw⟩ := r2.tup
        refine op_catA pins s σ H _ _ u1 u2 Q I ru1 ru2 ⟨a, b, vs, ws, rfl, rfl, by rw [ox.hK]; exact ha, by rw [ox.hK]; exact hb, by rw [rv.length, rw.length]; exact hz, fun e1 => ?_, fun e1 e2 => ?_, fun _ _ => fin_tup ok (rv.append rw) q⟩
        · subst e1
          cases rv
          exact q G H _ Ext.refl ok (.tup hb rw)
        · subst e2
          cases rw
          rw [List.append_nil] at q
          exact q G H _ Ext.refl ok (.tup ha rv)
      · cases e
    · split at e
      · rename_i xs ys hz
        cases e
        obtain ⟨a, vs, rfl, ha, rv⟩ := r1.lst
        obtain ⟨b, ws, rfl, hb, rw⟩ := r2.lst
        exact op_cat pins s σ H _ _ u1 u2 Q I ru1 ru2 ⟨a, b, vs, ws, rfl, rfl, ha, hb, by rw [rv.length, rw.length]; exact hz, fin_lst ok (rv.append rw) q⟩
      · cases e
  case Sub =>
    cases x <;> cases y <;> simp only [binD] at e <;> try (cases e; done)
    cases e
    cases r1.int; cases r2.int
    exact op_sub pins s σ H _ _ u1 u2 Q I ru1 ru2 ⟨_, _, rfl, rfl, scalar _ fun _ _ => .int _⟩
  case Mult =>
    cases x <;> cases y <;> simp only [binD] at e <;> try (cases e; done)
    · split at e
      · rename_i hz
        cases e
        cases r1.int; cases r2.int
        exact op_mul pins s σ H _ _ u1 u2 Q I ru1 ru2 ⟨_, _, rfl, rfl, hz, scalar _ fun _ _ => .int _⟩
      · cases e
    · split at e
      · rename_i x n hz
        cases e
        cases r1.str; cases r2.int
        exact or_mulS I ru1 ru2 hz.1 hz.2.1 hz.2.2 (scalar _ fun _ _ => .str _)
      · cases e
    · split at e
      · rename_i xs n hz
        cases e
        obtain ⟨a, vs, rfl, ha, rv⟩ := r1.tup
        cases r2.int
        have rr : ∀ m : Nat, RDs Y G H (List.replicate m vs).flatten (List.replicate m xs).flatten := fun m => by
          induction m with
          | zero => exact .nil
          | succ m ih =>
            rw [List.replicate_succ, List.replicate_succ, List.flatten_cons, List.flatten_cons]
            exact rv.append ih
        by_cases hv : vs = []
        · subst hv
          cases rv
          have e0 : (List.replicate n.toNat ([] : List D)).flatten = [] := by simp
          rw [e0] at q
          obtain ⟨t, rfl⟩ := ru2
          cases ru1
          have hT : SqT X.K H a [] := by rw [ox.hK]; exact ha
          obtain ⟨its, rz, ⟨⟨cls, dd, data, sl⟩, ho, hc, m, hd⟩, _⟩ := I.tuple hT
          cases rz
          simp only at hc hd
          subst hc hd
          refine wpAny_binaryOp_repeat_ref (T := "tuple") (U := "int") (by decide) ⟨_, ho, rfl⟩ (fun s' => typeIs_int s' n t) noFill_tuple_mul F.fills_int_mul F.slot_int_rmul repeat_tuple F.slot_int_index.lookup ?_
          refine call_meets F.slot_int_rmul (typeIs_int s n t) F.entry_int_rmul (F.args_int_rmul_2 _ _) (int_rmul_tuple n t a _ m dd sl) ⟨ho, rfl, ⟨_, ho, rfl⟩, ?_⟩
          have c0 : (decide (n < -(2 ^ 63)) || decide (n ≥ 2 ^ 63)) = false := by
            rw [decide_eq_false (by omega), decide_eq_false (by omega)] <;> rfl
          refine call_meets F.slot_tuple_mul ⟨_, ho, rfl⟩ F.entry_tuple_mul (F.args_tuple_mul_2 _ _) (tup_mul0 a m dd sl n t c0) ⟨ho, ?_⟩
          exact ⟨.ref a, H, I, rfl, q G H _ Ext.refl ok (.tup ha .nil)⟩
        · exact op_repT pins s σ H _ _ u1 u2 Q I ru1 ru2 ⟨a, n, vs, rfl, rfl, by rw [ox.hK]; exact ha, hv, hz.1, hz.2.1, by rw [rv.length]; exact hz.2.2, fin_tup ok (rr _) q⟩
      · cases e
    · split at e
      · rename_i xs n hz
        cases e
        obtain ⟨a, vs, rfl, ha, rv⟩ := r1.lst
        cases r2.int
        have rr : ∀ m : Nat, RDs Y G H (List.replicate m vs).flatten (List.replicate m xs).flatten := fun m => by
          induction m with
          | zero => exact .nil
          | succ m ih =>
            rw [List.replicate_succ, List.replicate_succ, List.flatten_cons, List.flatten_cons]
            exact rv.append ih
        refine op_rep pins s σ H _ _ u1 u2 Q I ru1 ru2 ⟨a, n, vs, rfl, rfl, ha, by omega, by omega, ?_, fin_lst ok (rr _) q⟩
        have hz2 : vs.length * n.toNat ≤ 1000 * 1000 := Nat.mul_le_mul (by rw [rv.length]; exact hz.2.2) (by omega)
        rw [sizeLine_eq]
        omega
      · cases e
  case FloorDiv =>
    cases x <;> cases y <;> simp only [binD] at e <;> try (cases e; done)
    split at e
    · rename_i hz
      cases e
      cases r1.int; cases r2.int
      exact op_fdiv pins s σ H _ _ u1 u2 Q I ru1 ru2 ⟨_, _, rfl, rfl, hz, scalar _ fun _ _ => .int _⟩
    · cases e
  case Mod =>
    cases x <;> cases y <;> simp only [binD] at e <;> try (cases e; done)
    split at e
    · rename_i hz
      cases e
      cases r1.int; cases r2.int
      exact op_mod pins s σ H _ _ u1 u2 Q I ru1 ru2 ⟨_, _, rfl, rfl, hz, scalar _ fun _ _ => .int _⟩
    · cases e
  case Pow =>
    cases x <;> cases y <;> simp only [binD] at e <;> try (cases e; done)
    split at e
    · rename_i hz
      cases e
      cases r1.int; cases r2.int
      exact op_pow pins s σ H _ _ u1 u2 Q I ru1 ru2 ⟨_, _, rfl, rfl, hz, scalar _ fun _ _ => .int _⟩
    · cases e
  all_goals (cases x <;> cases y <;> simp [binD] at e)
end
end RM
end
section
set_option Elab.async false
set_option linter.all false
set_option maxRecDepth 100000
set_option autoImplicit false
/-! {} among texts and tuples -/
namespace PySem.SeqAt
open AutoSeq1 (wpAny_loadPart')
open MeetsSeq
def IsDct (h : Heap) (a : Addr) : Prop := ∃ dd es ep sl, h.get? a = some { cls := .type "dict", dict := dd, data := .dict es ep, slots := sl }
section
variable {A : Around} {s : Shared}
theorem str_eq_declines_dct (b : Str) (u : Tok) (l : Addr) (dd : Option Addr) (es : Array DictEntry) (ep : Nat) (sl : Array (Option Value)) :
    Meets (Builtin.«str.__eq__» ⟨[.str b u, .ref l], []⟩) (fun _ R s => s.heap.get? l = some { cls := .type "dict", dict := dd, data := .dict es ep, slots := sl } ∧ R (.ok (.ret .notImplemented)) s) :=
  .of_wp fun prog w A R s h => by obtain ⟨hp, g, d, tk, os⟩ := s; obtain ⟨hl, h⟩ := h; wp_walk using wpAny_loadPart' hl, wpAny_load hl; exact ⟨_, rfl, h⟩
theorem dict_eq_declines_str (b : Str) (u : Tok) (l : Addr) (dd : Option Addr) (es : Array DictEntry) (ep : Nat) (sl : Array (Option Value)) :
    Meets (Builtin.«dict.__eq__» ⟨[.ref l, .str b u], []⟩) (fun _ R s => s.heap.get? l = some { cls := .type "dict", dict := dd, data := .dict es ep, slots := sl } ∧ R (.ok (.ret .notImplemented)) s) :=
  .of_wp fun prog w A R s h => by obtain ⟨hp, g, d, tk, os⟩ := s; obtain ⟨hl, h⟩ := h; have f1 := F.sub_str_dict; wp_walk using wpAny_loadPart' hl, wpAny_load hl; exact ⟨_, rfl, h⟩
theorem tuple_eq_declines_dct (l b : Addr) (items : Array Value) (n : Nat) (dd dd2 : Option Addr) (sl sl2 : Array (Option Value)) (es : Array DictEntry) (ep : Nat) :
    Meets (Builtin.«tuple.__eq__» ⟨[.ref l, .ref b], []⟩) (fun _ R s => s.heap.get? l = some { cls := .type "tuple", dict := dd, data := .seq items n, slots := sl } ∧ s.heap.get? b = some { cls := .type "dict", dict := dd2, data := .dict es ep, slots := sl2 } ∧ R (.ok (.ret .notImplemented)) s) :=
  .of_wp fun prog w A R s h => by obtain ⟨hp, g, d, tk, os⟩ := s; obtain ⟨hl, hb, h⟩ := h; have f1 := F.sub_dict_tuple; wp_walk using wpAny_loadPart' hl, wpAny_load hl, wpAny_loadPart' hb, wpAny_load hb; exact ⟨_, rfl, h⟩
theorem dict_eq_declines_tuple (l b : Addr) (items : Array Value) (n : Nat) (dd dd2 : Option Addr) (sl sl2 : Array (Option Value)) (es : Array DictEntry) (ep : Nat) :
    Meets (Builtin.«dict.__eq__» ⟨[.ref b, .ref l], []⟩) (fun _ R s => s.heap.get? l = some { cls := .type "tuple", dict := dd, data := .seq items n, slots := sl } ∧ s.heap.get? b = some { cls := .type "dict", dict := dd2, data := .dict es ep, slots := sl2 } ∧ R (.ok (.ret .notImplemented)) s) :=
  .of_wp fun prog w A R s h => by obtain ⟨hp, g, d, tk, os⟩ := s; obtain ⟨hl, hb, h⟩ := h; have f1 := F.sub_tuple_dict; wp_walk using wpAny_loadPart' hl, wpAny_load hl, wpAny_loadPart' hb, wpAny_load hb; exact ⟨_, rfl, h⟩
theorem EqAt.str_dct {l : Addr} (b : Str) (u : Tok) (hl : IsDct s.heap l) (hu : A.units < cLine) : EqAt A s (.str b u) (.ref l) false := fun prog w E Q h => by
  obtain ⟨dd, es, ep, sl, ho⟩ := hl
  unfold eqBool
  refine wpAny_holding ?_
  refine wpAny_ite_split (fun hab => absurd (eq_of_beq hab) nofun) (fun _ => ?_)
  exact wpAny_bind (rc_eq_decline_or (k := false) (typeIs_str s b u) ⟨_, ho, rfl⟩ (by decide) F.sub_dict_str F.slot_str_eq F.slot_dict_eq_refl
    (fun _ hq => call_meets F.slot_str_eq (typeIs_str s b u) F.entry_str_eq (F.args_str_eq_2 _ _) (str_eq_declines_dct b u l dd es ep sl) ⟨ho, hq⟩)
    (fun _ hq => call_meets F.slot_dict_eq_refl ⟨_, ho, rfl⟩ F.entry_dict_eq (F.args_dict_eq_2 _ _) (dict_eq_declines_str b u l dd es ep sl) ⟨ho, hq⟩)
    (fun _ hq => wpAny_of_eq (rfl : isSame (.str b u) (.ref l) = pure false) hq) (.inr hu) (wpAny_truthy_bool h))
theorem EqAt.tuple_dct {l b : Addr} {items : Array Value} (hl : s.heap.IsTuple l items) (hb : IsDct s.heap b) (hu : A.units < cLine) : EqAt A s (.ref l) (.ref b) false := by
  obtain ⟨dd2, es, ep, sl2, ho2⟩ := hb
  obtain ⟨⟨cls, dd, data, sl⟩, ho, hc, n, hd⟩ := id hl
  simp only at hc hd
  subst hc hd
  have hne : l ≠ b := fun e => by
    subst e
    rw [ho] at ho2
    have := congrArg (fun o => Option.map Obj.cls o) ho2
    simp at this
  refine .of_refs hne fun prog w E Q h => ?_
  exact (rc_eq_decline_or (k := false) ⟨_, ho, rfl⟩ ⟨_, ho2, rfl⟩ (by decide) F.sub_dict_tuple F.slot_tuple_eq F.slot_dict_eq_refl
    (fun _ hq => call_meets F.slot_tuple_eq ⟨_, ho, rfl⟩ F.entry_tuple_eq (F.args_tuple_eq_2 _ _) (tuple_eq_declines_dct l b items n dd dd2 sl sl2 es ep) ⟨ho, ho2, hq⟩)
    (fun _ hq => call_meets F.slot_dict_eq_refl ⟨_, ho2, rfl⟩ F.entry_dict_eq (F.args_dict_eq_2 _ _) (dict_eq_declines_tuple l b items n dd dd2 sl sl2 es ep) ⟨ho, ho2, hq⟩)
    (fun _ hq => wpAny_isSame_ref_other' hne ho ho2 (by simp) hq) (.inr hu) h)
end
end PySem.SeqAt
end
section
set_option Elab.async false
set_option linter.all false
set_option maxRecDepth 100000
set_option autoImplicit false
/-! comparisons -/
namespace RM
open PySem PySem.Spec PyProof.Rows L2
section
variable {Y : Tx} {k : Nat} {hot : Bool} {X : Cx}
theorem XOk.reads (ox : XOk Y k hot X) {pins : List (Addr × Obj)} {σ : L2.St} {H : Hp} {s : Shared} {G : Gh} {d : D} {v : V} {u : Value} (I : Inv X pins σ H s) (p : d.pure = true) (r : RV Y G H v d) (ru : RelV v u) : ∃ as, Reads s.heap u d.pd as :=
  Dp.reads I d.pd v u (by rw [ox.hK]; exact r.dp p) ru
theorem isNon_rv {G : Gh} {H : Hp} {v : V} {x : D} (r : RV Y G H v x) : decide (v = .non) = x.isNon := by
  rcases r with r | ⟨_, _, _, rfl, rfl, _⟩
  · cases r <;> rfl
  · rfl
theorem RV.dct0 {G : Gh} {H : Hp} {v : V} (r : RV Y G H v (.dct [])) : ∃ a, v = .ref a ∧ H a = some (.dK []) := by
  rcases r with r | ⟨_, _, _, _, e, _⟩
  · cases r with
    | dct h f rk => cases rk; exact ⟨_, rfl, h⟩
    | dcT h n f rt => cases rt; exact absurd rfl n
  · cases e
theorem anyF (l : Array Value) : (l.any fun _ => false) = false := by
  rw [Array.any_eq_false]
  intro i hi h
  cases h
theorem ed_items (ox : XOk Y k hot X) {pins : List (Addr × Obj)} {σ : L2.St} {H : Hp} {s : Shared} {G : Gh} (I : Inv X pins σ H s) {a : Addr} (dct : PySem.SeqAt.IsDct s.heap a) : ∀ (ys : List D) (vs : List V) (us : List Value), ys.all D.isST = true → RDs Y G H vs ys → Vals vs us → ∀ z, z ∈ us → PySem.SeqAt.EqAt X.A.in1 s z (.ref a) false
  | [], _, _, _, r, q, z, hz => by cases r; cases q; cases hz
  | d :: ds, _, _, hst, r, q, z, hz => by
    have hu := ox.units
    rw [List.all_cons, Bool.and_eq_true] at hst
    cases r with
    | cons r rs =>
      cases q with
      | cons q qs =>
        rcases List.mem_cons.mp hz with rfl | hz
        · have h1 := hst.1
          cases d <;> try (cases h1; done)
          · cases r
            obtain ⟨t, rfl⟩ := q
            exact PySem.SeqAt.EqAt.str_dct _ t dct (by show X.A.units + 1 < cLine; omega)
          · cases r with
            | tup h r =>
              cases q
              obtain ⟨its, _, t1, _⟩ := I.tuple (by rw [ox.hK]; exact h)
              exact PySem.SeqAt.EqAt.tuple_dct t1 dct (by show X.A.units + 1 < cLine; omega)
        · exact ed_items ox I dct ds _ _ hst.2 rs qs z hz
theorem or_cmp (ox : XOk Y k hot X) (op : CmpOp) : OpR X (compareOp op) (rB Y (cmpD op)) := by
  intro pins s σ H v w u1 u2 Q I ru1 ru2 ⟨G, S, x, y, d, ok, r1, r2, e, q⟩
  have hu := ox.units
  have fin : ∀ b : Bool, d = .bl b → EP X pins σ Q (.bool b) s := fun b eb => ⟨.bl b, H, I, rfl, q G H _ Ext.refl ok (by rw [eb]; exact .bl b)⟩
  have two : x.pure = true → y.pure = true → ∃ as bs, Reads s.heap u1 x.pd as ∧ Reads s.heap u2 y.pd bs := fun p1 p2 => by
    obtain ⟨as, h1⟩ := ox.reads I p1 r1 ru1
    obtain ⟨bs, h2⟩ := ox.reads I p2 r2 ru2
    exact ⟨as, bs, h1, h2⟩
  have lts : D.okL x y = true → ∃ as bs, Reads s.heap u1 x.pd as ∧ Reads s.heap u2 y.pd bs ∧ PySem.W.alike x.pd y.pd = true ∧ x.pd ≠ .none ∧ X.A.units + min x.pd.depth y.pd.depth < cLine := fun h => by
    simp only [D.okL, Bool.and_eq_true, decide_eq_true_eq, Bool.not_eq_true'] at h
    obtain ⟨⟨⟨⟨p1, p2⟩, al⟩, nn⟩, dp⟩ := h
    obtain ⟨as, bs, h1, h2⟩ := two p1 p2
    exact ⟨as, bs, h1, h2, al, isNon_pd p1 nn, by omega⟩
  have eqs : D.okE x y = true → ∃ as bs, Reads s.heap u1 x.pd as ∧ Reads s.heap u2 y.pd bs ∧ x.pd.plain = true ∧ y.pd.plain = true ∧ X.A.units + min x.pd.depth y.pd.depth < cLine := fun h => by
    simp only [D.okE, Bool.and_eq_true, decide_eq_true_eq] at h
    obtain ⟨⟨p1, p2⟩, dp⟩ := h
    obtain ⟨as, bs, h1, h2⟩ := two p1 p2
    exact ⟨as, bs, h1, h2, pure_plain x p1, pure_plain y p2, by omega⟩
  have ins : ∀ ys : List D, (y = .tup ys ∨ y = .lst ys) → (x.pure && D.pures ys && decide (x.pd.depth ≤ 64)) = true → ∃ as bs, Reads s.heap u1 x.pd as ∧ Reads s.heap u2 y.pd bs ∧ x.pd.plain = true ∧ PyData.plainAll (D.pds ys) = true ∧ X.A.units + 1 + min (PyData.depthAll (D.pds ys)) x.pd.depth < cLine := fun ys hy h => by
    simp only [Bool.and_eq_true, decide_eq_true_eq] at h
    obtain ⟨⟨p1, p2⟩, dp⟩ := h
    have p3 : y.pure = true := by rcases hy with rfl | rfl <;> simpa [D.pure] using p2
    obtain ⟨as, bs, h1, h2⟩ := two p1 p3
    exact ⟨as, bs, h1, h2, pure_plain x p1, pures_plain ys p2, by omega⟩
  have emptyRun : ∀ b, emptyEq x y = some b → (EP X pins σ Q (.bool b) s → wpAny (model X.prog X.w) X.A (compareOp .Eq u1 u2) (EP X pins σ Q) X.xe s) ∧ (EP X pins σ Q (.bool (!b)) s → wpAny (model X.prog X.w) X.A (compareOp .NotEq u1 u2) (EP X pins σ Q) X.xe s) := fun b eb => by
    unfold emptyEq at eb
    split at eb
    · rename_i xs
      cases eb
      obtain ⟨a, vs, rfl, ha, rs⟩ := r1.tup
      obtain ⟨b, ws, rfl, hb, rs2⟩ := r2.tup
      cases rs2
      cases ru1
      cases ru2
      obtain ⟨its, p1, t1, _⟩ := I.tuple (by rw [ox.hK]; exact ha)
      obtain ⟨its2, p2, t2, _⟩ := I.tuple (by rw [ox.hK]; exact hb)
      cases p2
      have hl : its.length = xs.length := by rw [← p1.length, rs.length]
      have val : ((List.range (min its.toArray.size ([] : List Value).toArray.size)).all (fun _ => true) && its.toArray.size == ([] : List Value).toArray.size) = xs.isEmpty := by
        cases xs with
        | nil =>
          have : its = [] := List.length_eq_zero_iff.mp hl
          subst this; rfl
        | cons x r =>
          cases its with
          | nil => cases hl
          | cons y r' => rfl
      refine ⟨fun q => PySem.SeqAt.RcAt.tuples (e := fun _ => true) t1 t2 (by omega) (fun j h1 h2 => absurd h2 (by simp)) X.prog X.w X.xe (EP X pins σ Q) ?_, fun q => PySem.SeqAt.RcNeAt.tuples (e := fun _ => true) t1 t2 (by omega) (fun j h1 h2 => absurd h2 (by simp)) X.prog X.w X.xe (EP X pins σ Q) ?_⟩
      · rw [val]; exact q
      · rw [val]; exact q
    · rename_i xs
      cases eb
      obtain ⟨a, vs, rfl, ha, rs⟩ := r1.lst
      obtain ⟨b, ws, rfl, hb, rs2⟩ := r2.lst
      cases rs2
      cases ru1
      cases ru2
      obtain ⟨its, p1, t1, _⟩ := I.list (.of ha)
      obtain ⟨its2, p2, t2, _⟩ := I.list (.of hb)
      cases p2
      have hl : its.length = xs.length := by rw [← p1.length, rs.length]
      cases xs with
      | nil =>
        have : its = [] := List.length_eq_zero_iff.mp hl
        subst this
        exact ⟨fun q => PySem.SeqAt.RcAt.lists (e := fun _ => true) t1.isList t2.isList rfl (by omega) (fun j h1 h2 => absurd h2 (by simp)) X.prog X.w X.xe (EP X pins σ Q) q, fun q => PySem.SeqAt.RcNeAt.lists (e := fun _ => true) t1.isList t2.isList rfl (by omega) (fun j h1 h2 => absurd h2 (by simp)) X.prog X.w X.xe (EP X pins σ Q) q⟩
      | cons x r =>
        have hne : (its.toArray.size != ([] : List Value).toArray.size) = true := by
          cases its with
          | nil => cases hl
          | cons y r' => rfl
        exact ⟨fun q => PySem.SeqAt.RcAt.lists_lengths t1.isList t2.isList hne (by omega) X.prog X.w X.xe (EP X pins σ Q) q, fun q => PySem.SeqAt.RcNeAt.lists_lengths t1.isList t2.isList hne (by omega) X.prog X.w X.xe (EP X pins σ Q) q⟩
    · cases eb
  have edRun : ∀ (ys : List D), (y = .tup ys ∨ y = .lst ys) → ∀ b, edIn x ys = some b → (EP X pins σ Q (.bool b) s → wpAny (model X.prog X.w) X.A (compareOp .In u1 u2) (EP X pins σ Q) X.xe s) ∧ (EP X pins σ Q (.bool (!b)) s → wpAny (model X.prog X.w) X.A (compareOp .NotIn u1 u2) (EP X pins σ Q) X.xe s) := fun ys hy b eb => by
    unfold edIn at eb
    split at eb
    · rename_i hc
      cases eb
      obtain ⟨hx, hst⟩ := (Bool.and_eq_true _ _).mp hc
      cases x <;> try (cases hx; done)
      rename_i kvs
      have ek : kvs = [] := List.isEmpty_iff.mp hx
      subst ek
      obtain ⟨a, rfl, ha⟩ := r1.dct0
      cases ru1
      obtain ⟨_, _, vs, kv, o, es, ep, ho, hx2, hd, _⟩ := (show ObjOk X.prog X.w H s.heap a (.dK []) from I.hok a _ ha)
      have dct : PySem.SeqAt.IsDct s.heap a := by
        obtain ⟨cls, dd, data, sl⟩ := o
        have hcls := hx2.1
        simp only at hd hcls
        subst hd hcls
        exact ⟨dd, es, ep, sl, ho⟩
      have items := fun vs us => ed_items (G := G) ox I dct ys vs us hst
      rcases hy with rfl | rfl
      · obtain ⟨b, ws, rfl, hb, rs2⟩ := r2.tup
        cases ru2
        obtain ⟨its, rv, t1, _⟩ := I.tuple (by rw [ox.hK]; exact hb)
        have it := items _ _ rs2 rv
        exact ⟨fun q => PySem.SeqAt.in_tupleAt (fun _ => false) t1 (fun z hz => it z (by simpa using hz)) (by rw [anyF]; exact q), fun q => PySem.SeqAt.notIn_tupleAt (fun _ => false) t1 (fun z hz => it z (by simpa using hz)) (by rw [anyF]; exact q)⟩
      · obtain ⟨b, ws, rfl, hb, rs2⟩ := r2.lst
        cases ru2
        obtain ⟨its, rv, t1, _⟩ := I.list (.of hb)
        have it := items _ _ rs2 rv
        exact ⟨fun q => PySem.SeqAt.in_listAt (fun _ => false) t1.isList (fun z hz => it z (by simpa using hz)) (by rw [anyF]; exact q), fun q => PySem.SeqAt.notIn_listAt (fun _ => false) t1.isList (fun z hz => it z (by simpa using hz)) (by rw [anyF]; exact q)⟩
    · cases eb
  cases op
  case Eq =>
    simp only [cmpD] at e
    split at e
    · rename_i h
      cases e
      obtain ⟨as, bs, h1, h2, p1, p2, z⟩ := eqs h
      exact PySem.SeqAt.eq_plain h1 h2 p1 p2 z (fin _ rfl)
    · cases eb : emptyEq x y with
      | none => rw [eb] at e; cases e
      | some b =>
        rw [eb] at e
        cases e
        exact (emptyRun b eb).1 (fin _ rfl)
  case NotEq =>
    simp only [cmpD] at e
    split at e
    · rename_i h
      cases e
      obtain ⟨as, bs, h1, h2, p1, p2, z⟩ := eqs h
      exact PySem.SeqAt.ne_plain h1 h2 p1 p2 z (fin _ rfl)
    · cases eb : emptyEq x y with
      | none => rw [eb] at e; cases e
      | some b =>
        rw [eb] at e
        cases e
        exact (emptyRun b eb).2 (fin _ rfl)
  case Lt =>
    simp only [cmpD] at e
    split at e
    · rename_i h
      cases e
      obtain ⟨as, bs, h1, h2, al, nn, z⟩ := lts h
      exact PySem.W.lt_data h1 h2 al nn z (fin _ rfl)
    · cases e
  case LtE =>
    simp only [cmpD] at e
    split at e
    · rename_i h
      cases e
      obtain ⟨as, bs, h1, h2, al, nn, z⟩ := lts h
      exact PySem.W.le_data h1 h2 al nn z (fin _ rfl)
    · cases e
  case Gt =>
    simp only [cmpD] at e
    split at e
    · rename_i h
      cases e
      obtain ⟨as, bs, h1, h2, al, nn, z⟩ := lts h
      exact PySem.W.gt_data h1 h2 al nn z (fin _ rfl)
    · cases e
  case GtE =>
    simp only [cmpD] at e
    split at e
    · rename_i h
      cases e
      obtain ⟨as, bs, h1, h2, al, nn, z⟩ := lts h
      exact PySem.W.ge_data h1 h2 al nn z (fin _ rfl)
    · cases e
  case Is =>
    simp only [cmpD] at e
    split at e
    · rename_i h
      cases e
      have ey : y = .non := by cases y <;> simp_all [D.isNon]
      subst ey
      cases r2.non
      exact op_isN pins s σ H _ _ u1 u2 Q I ru1 ru2 ⟨rfl, by rw [isNon_rv r1]; exact q G H _ Ext.refl ok (.bl _)⟩
    · cases e
  case IsNot =>
    simp only [cmpD] at e
    split at e
    · rename_i h
      cases e
      have ey : y = .non := by cases y <;> simp_all [D.isNon]
      subst ey
      cases r2.non
      exact op_notN pins s σ H _ _ u1 u2 Q I ru1 ru2 ⟨rfl, by rw [isNon_rv r1]; exact q G H _ Ext.refl ok (.bl _)⟩
    · cases e
  case In =>
    cases y <;> simp only [cmpD] at e <;> try (cases e; done)
    · rename_i z
      cases x <;> try (cases e; done)
      rename_i c
      simp only at e
      split at e
      · rename_i kk hc
        cases e
        cases r1.str; cases r2.str
        have ec : c = ⟨#[kk]⟩ := by
          cases c with
          | mk cps => exact congrArg Str.mk (Array.toList_inj.mp hc)
        subst ec
        exact op_in_sign pins s σ H _ _ u1 u2 Q I ru1 ru2 ⟨kk, z, rfl, rfl, q G H _ Ext.refl ok (.bl _)⟩
      · cases e
    · split at e
      · rename_i ys h
        cases e
        obtain ⟨as, bs, h1, h2, p1, p2, z⟩ := ins ys (.inl rfl) h
        exact PySem.SeqAt.in_tuple_data h2 h1 p2 p1 z (by rw [any_pds]; exact fin _ rfl)
      · rename_i ys _
        cases eb : edIn x ys with
        | none => rw [eb] at e; cases e
        | some b =>
          rw [eb] at e
          cases e
          exact (edRun ys (.inl rfl) b eb).1 (fin _ rfl)
    · split at e
      · rename_i ys h
        cases e
        obtain ⟨as, bs, h1, h2, p1, p2, z⟩ := ins ys (.inr rfl) h
        exact PySem.SeqAt.in_list_data h2 h1 p2 p1 z (by rw [any_pds]; exact fin _ rfl)
      · rename_i ys _
        cases eb : edIn x ys with
        | none => rw [eb] at e; cases e
        | some b =>
          rw [eb] at e
          cases e
          exact (edRun ys (.inr rfl) b eb).1 (fin _ rfl)
  case NotIn =>
    cases y <;> simp only [cmpD] at e <;> try (cases e; done)
    · rename_i z
      cases x <;> try (cases e; done)
      rename_i c
      simp only at e
      split at e
      · rename_i kk hc
        cases e
        cases r1.str; cases r2.str
        have ec : c = ⟨#[kk]⟩ := by
          cases c with
          | mk cps => exact congrArg Str.mk (Array.toList_inj.mp hc)
        subst ec
        exact op_notIn_sign pins s σ H _ _ u1 u2 Q I ru1 ru2 ⟨kk, z, rfl, rfl, q G H _ Ext.refl ok (.bl _)⟩
      · cases e
    · split at e
      · rename_i ys h
        cases e
        obtain ⟨as, bs, h1, h2, p1, p2, z⟩ := ins ys (.inl rfl) h
        exact PySem.SeqAt.notIn_tuple_data h2 h1 p2 p1 z (by rw [any_pds]; exact fin _ rfl)
      · rename_i ys _
        cases eb : edIn x ys with
        | none => rw [eb] at e; cases e
        | some b =>
          rw [eb] at e
          cases e
          exact (edRun ys (.inl rfl) b eb).2 (fin _ rfl)
    · split at e
      · rename_i ys h
        cases e
        obtain ⟨as, bs, h1, h2, p1, p2, z⟩ := ins ys (.inr rfl) h
        exact PySem.SeqAt.notIn_list_data h2 h1 p2 p1 z (by rw [any_pds]; exact fin _ rfl)
      · rename_i ys _
        cases eb : edIn x ys with
        | none => rw [eb] at e; cases e
        | some b =>
          rw [eb] at e
          cases e
          exact (edRun ys (.inr rfl) b eb).2 (fin _ rfl)
end
end RM
end
section
set_option Elab.async false
set_option linter.all false
set_option maxRecDepth 100000
set_option autoImplicit false
/-! sorting: tuples with empty ones among them too; lists and tuples sorted -/
namespace RM
open PySem PySem.Spec PyProof.Rows PySem.W PySem.SeqAt
section
variable {prog : Program} {w : World} {A : Around} {E : Value → Shared → Prop} {s : Shared}

/-- tuple's own __lt__ -/
theorem tup_lt_call {Q : Value → Shared → Prop} {l b : Addr} {us ws : Array Value} {e r : Nat → Bool} (hl : s.heap.IsTuple l us) (hb : s.heap.IsTuple b ws)
    (he : ∀ (j : Nat) (h1 : j < us.size) (h2 : j < ws.size), EqAt A.in1 s us[j] ws[j] (e j)) (hr : ∀ (j : Nat) (h1 : j < us.size) (h2 : j < ws.size), e j = false → RcLt A.in1 s us[j] ws[j] (r j))
    (h : Q (.bool (firstLt e r (decide (us.size < ws.size)) (List.range (min us.size ws.size)))) s) : wpAny (model prog w) A (call (.builtin "tuple.__lt__") [.ref l, .ref b]) Q E s := by
  obtain ⟨⟨c1, d1, t1, l1⟩, o1, q1, n1, p1⟩ := id hl
  obtain ⟨⟨c2, d2, t2, l2⟩, o2, q2, n2, p2⟩ := id hb
  simp only at q1 p1 q2 p2
  subst q1 p1 q2 p2
  exact call_meets F.slot_tuple_lt ⟨_, o1, rfl⟩ F.entry_tuple_lt (F.args_tuple_lt_2 _ _) (tuple_ltAt l b us ws n1 n2 d1 d2 l1 l2 e r) ⟨o1, o2, he, hr, h⟩

/-- two tuples, as keys of one type -/
theorem tup_oneLt {f : Bool} {xs ys : List PyData} {a b : Value} {as bs : List Addr} {Q : Bool → Shared → Prop} (ra : Reads s.heap a (.tuple xs) as) (rb : Reads s.heap b (.tuple ys) bs) (hal : alikeAll xs ys = true)
    (hu : A.units + min (PyData.tuple xs).depth (PyData.tuple ys).depth < cLine) (hq : Q (dataLt (.tuple xs) (.tuple ys)) s) : wpAny (model prog w) A (oneLt' f a b) Q E s := by
  cases f with
  | false => exact oneLt_alike (fun z => nomatch z) ra rb (by simpa [alike] using hal) (fun z => nomatch z) hu hq
  | true =>
    cases ra with
    | @tuple l o us n _ as1 h1 h2 h3 h4 =>
      cases rb with
      | @tuple l' o' ws n' _ bs1 k1 k2 k3 k4 =>
        have n1 : us.size = xs.length := by simpa using ReadsAll.length _ _ _ h4
        have n2 : ws.size = ys.length := by simpa using ReadsAll.length _ _ _ k4
        rw [dataLt_tuple, ← firstLt_toks xs ys hal, ← n1, ← n2] at hq
        rw [oneLt'_eq]
        simp only [if_true]
        refine wpAny_bind (wpAny_cRoomFor (room_here hu) ?_)
        have step := tup_lt_call (prog := prog) (w := w) (A := A) (E := E) (s := s) (e := pairEq xs ys) (r := fun j => dataLt (xs.getD j .none) (ys.getD j .none)) (Q := fun v s1 => ∃ c : Bool, v = .bool c ∧ Q c s1) ⟨_, h1, h2, _, h3⟩ ⟨_, k1, k2, _, k3⟩
          (fun j j1 j2 => eqAt_alikeAll xs ys A.in1 s us.toList ws.toList _ _ h4 k4 hal (room_in hu) j (by simpa using j1) (by simpa using j2))
          (fun j j1 j2 hj => rcLt_alikeAll xs ys A.in1 s us.toList ws.toList _ _ h4 k4 hal (room_in hu) j (by simpa using j1) (by simpa using j2) hj)
          ⟨_, rfl, hq⟩
        refine wpAny_bind (wpAny_callSpecialIfBound?_slot (T := "tuple") ⟨_, h1, h2⟩ F.slot_tuple_lt (wpAny_mono step (fun v s1 hv => ?_) fun _ _ z => z))
        obtain ⟨c, rfl, hc⟩ := hv
        exact wpAny_truthy_bool hc

/-- how an array of looks ends -/
theorem map_looks {M : Model} {f : Value → Sem (Option Value)} {g : Value → Option Value} : ∀ (vs : List Value) {Q : List (Option Value) → Shared → Prop}, (∀ v ∈ vs, ∀ {Q' : Option Value → Shared → Prop}, Q' (g v) s → wpAny M A (f v) Q' E s) → Q (vs.map g) s → wpAny M A (vs.mapM f) Q E s
  | [], Q, _, h => by rw [List.mapM_nil]; exact wpAny_pure h
  | v :: vs, Q, hf, h => by
    rw [List.mapM_cons]
    refine wpAny_bind (hf v List.mem_cons_self (wpAny_bind (map_looks vs (fun u hu => hf u (List.mem_cons_of_mem _ hu)) (wpAny_pure h))))
theorem map_looksV {M : Model} {f : Value → Sem Value} {g : Value → Value} : ∀ (vs : List Value) {Q : List Value → Shared → Prop}, (∀ v ∈ vs, ∀ {Q' : Value → Shared → Prop}, Q' (g v) s → wpAny M A (f v) Q' E s) → Q (vs.map g) s → wpAny M A (vs.mapM f) Q E s
  | [], Q, _, h => by rw [List.mapM_nil]; exact wpAny_pure h
  | v :: vs, Q, hf, h => by
    rw [List.mapM_cons]
    refine wpAny_bind (hf v List.mem_cons_self (wpAny_bind (map_looksV vs (fun u hu => hf u (List.mem_cons_of_mem _ hu)) (wpAny_pure h))))

/-- alike tuples, whatever their lengths, can be sorted -/
theorem sorts_tuples {vs : List Value} {ds : List PyData} (e : EachIs (fun v d => ∃ as, Reads s.heap v d as) vs ds) (hal : AllAlike ds) (ht : ∀ d ∈ ds, ∃ xs, d = .tuple xs) (hu : ∀ d, d ∈ ds → A.units + d.depth < cLine) : SortsAt prog w A s (dataKind s.heap ds) vs := by
  by_cases hne : ∀ d, d ∈ ds → ∃ x r, d = .tuple (x :: r)
  · exact SortsAt.data e hal (.inl hne) hu
  have room : ∀ {d d' : PyData}, d ∈ ds → A.units + min d.depth d'.depth < cLine := fun {d d'} hd => Nat.lt_of_le_of_lt (Nat.add_le_add_left (Nat.min_le_left _ _) _) (hu d hd)
  have lt : ∀ f, H.LtAt prog w A s (dataKind s.heap ds) (if f = true then oneType' else general') := fun f E x y a b Q ha hb hq => by
    obtain ⟨d, as, hd, ra, rfl⟩ := dataKind_inv ha
    obtain ⟨d', bs, hd', rb, rfl⟩ := dataKind_inv hb
    obtain ⟨xs, rfl⟩ := ht d hd
    obtain ⟨ys, rfl⟩ := ht d' hd'
    have q : wpAny (model prog w) A (oneLt' f x y) Q E s := tup_oneLt ra rb (by simpa [alike] using hal _ hd _ hd') (room hd) hq
    cases f with
    | true => exact q
    | false => exact q
  -- what the first item of each is
  have each : ∀ v ∈ vs, ∃ (a : Addr) (o : Obj) (us : Array Value) (n : Nat), v = .ref a ∧ s.heap.get? a = some o ∧ o.cls = .type "tuple" ∧ o.data = .seq us n := fun v hv => by
    obtain ⟨d, hd, as, r⟩ := e.left v hv
    obtain ⟨xs, rfl⟩ := ht d hd
    cases r with
    | tuple h1 h2 h3 h4 => exact ⟨_, _, _, _, rfl, h1, h2, h3⟩
  let g : Value → Option Value := fun v => match v with
    | .ref a => match s.heap.get? a with
      | some o => match o.data with
        | .seq us _ => us[0]?
        | _ => none
      | none => none
    | _ => none
  have hfirst : ∀ v ∈ vs, ∀ {E : Value → Shared → Prop} {Q' : Option Value → Shared → Prop}, Q' (g v) s → wpAny (model prog w) A (firstOfTuple' v) Q' E s := fun v hv E Q' hq => by
    obtain ⟨a, o, us, n, rfl, h1, h2, h3⟩ := each v hv
    have eg : g (.ref a) = us[0]? := by
      show (match s.heap.get? a with
        | some o => match o.data with
          | .seq us _ => us[0]?
          | _ => none
        | none => none) = _
      rw [h1]
      simp only [h3]
    rw [eg] at hq
    show wpAny _ _ (do
      if (← typeOf (.ref a)) != .type "tuple" then return none
      return (← Builtin.List.listItems (.ref a))[0]?) _ _ _
    refine wpAny_bind (wpAny_typeOf (T := "tuple") ⟨o, h1, h2⟩ ?_)
    rw [if_neg (by decide)]
    exact wpAny_bind (listItems_at h1 h3 (wpAny_pure hq))
  have hnone : ∃ v ∈ vs, g v = none := by
    obtain ⟨d, hd, hx⟩ : ∃ d, d ∈ ds ∧ ¬ ∃ x r, d = .tuple (x :: r) := by
      refine Classical.byContradiction fun z => hne fun d hd => ?_
      refine Classical.byContradiction fun y => z ⟨d, hd, y⟩
    obtain ⟨xs, rfl⟩ := ht d hd
    have hxs : xs = [] := by
      cases xs with
      | nil => rfl
      | cons x r => exact absurd ⟨x, r, rfl⟩ hx
    subst hxs
    have find : ∀ {vs : List Value} {ds : List PyData}, EachIs (fun v d => ∃ as, Reads s.heap v d as) vs ds → PyData.tuple [] ∈ ds → ∃ v ∈ vs, ∃ as, Reads s.heap v (.tuple []) as := by
      intro vs ds e
      induction e with
      | nil => intro h; cases h
      | cons h t ih =>
        intro hm
        rcases List.mem_cons.mp hm with hm | hm
        · subst hm; exact ⟨_, List.mem_cons_self, h⟩
        · obtain ⟨v, hv, q⟩ := ih hm
          exact ⟨v, List.mem_cons_of_mem _ hv, q⟩
    obtain ⟨v, hv, as, r⟩ := find e hd
    refine ⟨v, hv, ?_⟩
    cases r with
    | @tuple a o us n _ _ h1 h2 h3 h4 =>
      have hz : us.toList = [] := by
        generalize us.toList = l at h4
        cases h4
        rfl
      have hz' : us = #[] := Array.toList_inj.mp hz
      subst hz'
      show (match s.heap.get? a with
        | some o => match o.data with
          | .seq us _ => us[0]?
          | _ => none
        | none => none) = _
      rw [h1]
      simp only [h3]
      rfl
  have htype : ∀ v ∈ vs, ∀ {E : Value → Shared → Prop} {Q' : Value → Shared → Prop}, Q' (.type "tuple") s → wpAny (model prog w) A (typeOf v) Q' E s := fun v hv E Q' hq => by
    obtain ⟨a, o, us, n, rfl, h1, h2, h3⟩ := each v hv
    exact wpAny_typeOf (T := "tuple") ⟨o, h1, h2⟩ hq
  obtain ⟨v0, rest, rfl⟩ : ∃ v0 rest, vs = v0 :: rest := by
    cases vs with
    | nil => obtain ⟨v, hv, _⟩ := hnone; cases hv
    | cons v r => exact ⟨v, r, rfl⟩
  refine ⟨fun v hv => ?_, if (g v0).isSome = true then general' else oneType', ?_, fun _ E Q hq => ?_⟩
  · obtain ⟨d, hd, as, r⟩ := e.left v hv
    exact ⟨_, dataKind_some hal hd r⟩
  · by_cases c : (g v0).isSome = true
    · rw [if_pos c]; exact lt false
    · rw [if_neg c]; exact lt true
  · rw [kat_kind_eq, List.mapM_toArray, map_eq_pure_bind]
    refine wpAny_bind (wpAny_bind (map_looks (g := g) _ (fun v hv Q' hq' => hfirst v hv hq') (wpAny_pure ?_)))
    have hall : (((v0 :: rest).map g).toArray.all fun x => x.isSome) = false := by
      obtain ⟨v, hv, hg⟩ := hnone
      rw [List.all_toArray, List.all_eq_false]
      exact ⟨none, List.mem_map.mpr ⟨v, hv, hg⟩, by simp⟩
    rw [hall]
    simp only [Bool.false_eq_true, if_false]
    have h0 : (((v0 :: rest).map g).toArray)[0]? = some (g v0) := by simp
    refine wpAny_bind (wpAny_pure ?_)
    rw [h0]
    show wpAny _ _ (if ((some (g v0)).bind id).isSome = true then _ else _) _ _ _
    have hb : ((some (g v0)).bind id) = g v0 := rfl
    rw [hb]
    by_cases c : (g v0).isSome = true
    · rw [if_pos c] at hq ⊢
      exact wpAny_pure hq
    · rw [if_neg c] at hq ⊢
      have one : ∀ {Q' : Option Value → Shared → Prop}, Q' (some (.type "tuple")) s → wpAny (model prog w) A (oneTypeOnly' (v0 :: rest).toArray) Q' E s := fun {Q'} hq' => by
        rw [oneTypeOnly'_eq, List.mapM_toArray, map_eq_pure_bind]
        refine wpAny_bind (wpAny_bind (map_looksV (g := fun _ => .type "tuple") _ (fun v hv Q' hq' => htype v hv hq') (wpAny_pure ?_)))
        have e0 : (((v0 :: rest).map fun _ => Value.type "tuple").toArray)[0]? = some (.type "tuple") := by simp
        have ea : ((((v0 :: rest).map fun _ => Value.type "tuple").toArray).all fun x => x == Value.type "tuple") = true := by
          rw [List.all_toArray, List.all_eq_true]
          intro x hx
          obtain ⟨_, _, rfl⟩ := List.mem_map.mp hx
          rfl
        rw [e0]
        simp only [ea, if_true]
        exact wpAny_pure hq'
      exact wpAny_bind (one (wpAny_pure hq))
end
end RM
end
section
set_option Elab.async false
set_option linter.all false
set_option maxRecDepth 100000
set_option autoImplicit false
/-! the built-in functions -/
namespace RM
open PySem PySem.Spec PyProof.Rows L2

section
variable {prog : Program} {w : World} {A : Around} {E : Value → Shared → Prop} {s : Shared}
open PySem.W in
/-- a list or a tuple collected into a new list -/
theorem collect_seq {l : Addr} {o : Obj} {T : String} {vs : List Value} {n : Nat} {Q : List Value → Shared → Prop} (hT : T = "list" ∨ T = "tuple") (ho : s.heap.get? l = some o) (hc : o.cls = .type T) (hd : o.data = .seq vs.toArray n) (hz : vs.length ≤ sizeLine)
    (h : Q vs { s with heap := (s.heap.push (seqObj "list" #[] 0)).update s.heap.objs.size (Obj.mapSeq (· ++ vs.toArray)) }) : wpAny (model prog w) A (collect (.ref l)) Q E s := by
  have hn : (s.heap.push (seqObj "list" #[] 0)).get? s.heap.objs.size = some (seqObj "list" #[] 0) := Heap.get?_push_size _ rfl
  have ho' : (s.heap.push (seqObj "list" #[] 0)).get? l = some o := Heap.get?_push_of_some _ ho
  unfold collect
  refine wpAny_bind (wpAny_runValue (codeAny_builtin entry_proto_collect' ?_))
  show wpAny _ _ (do again (.builtin "list.__iadd__" ⟨[← newList [], .ref l], []⟩)) _ _ s
  refine wpAny_bind (wpAny_newList (wpAny_pure ?_))
  refine ⟨Code.quiet_builtin _ (by decide +kernel), codeAny_builtin entry_list_iadd' ?_⟩
  show wpAny _ _ (Builtin.List.listExtendWith (.ref s.heap.objs.size) (.ref l) (.ref s.heap.objs.size)) _ _ { s with heap := s.heap.push (seqObj "list" #[] 0) }
  unfold Builtin.List.listExtendWith
  refine wpAny_bind (wpAny_typeOf (T := T) ⟨o, ho', hc⟩ ?_)
  have yes : (Builtin.List.listSameRef (.ref s.heap.objs.size) (.ref l) || Value.type T == .type "list" || Value.type T == .type "tuple") = true := by
    rcases hT with rfl | rfl
    · have : (Value.type "list" == Value.type "list") = true := rfl
      rw [this]
      simp
    · have : (Value.type "tuple" == Value.type "tuple") = true := rfl
      rw [this]
      simp
  rw [if_pos yes]
  refine wpAny_bind (listItems_at ho' hd (wpAny_bind (listItems_at (xs := #[]) (n := 0) hn rfl ?_)))
  rw [if_neg (by simp)]
  refine wpAny_bind (listUpdate_at (xs := #[]) (n := 0) hn rfl ?_ (Nat.zero_le _) ?_)
  · refine wpAny_pure ?_
    show wpAny (model prog w) A (do
        let o ← load s.heap.objs.size
        match o.data with
        | .seq xs _ => pure xs.toList
        | _ => unsupported "internal:collect") Q E _
    refine wpAny_bind (wpAny_load (get?_update_seq hn _) ?_)
    have el : ((#[] : Array Value) ++ vs.toArray).toList = vs := by simp
    show wpAny _ _ (pure ((#[] : Array Value) ++ vs.toArray).toList) Q E _
    rw [el]
    exact wpAny_pure h
  · show ((#[] : Array Value) ++ vs.toArray).size ≤ sizeLine + 1
    simp
    omega

open PySem.W in
theorem sorted_seq {l : Addr} {o : Obj} {T : String} {vs : List Value} {n : Nat} {κ : PyProof.Rows.KeyKind} {Q : Value → Shared → Prop} (hT : T = "list" ∨ T = "tuple") (ho : s.heap.get? l = some o) (hc : o.cls = .type T) (hd : o.data = .seq vs.toArray n) (hz : vs.length ≤ sizeLine)
    (hs : SortsAt prog w A.in1.in1 { s with heap := sortingHeap (copyHeap s.heap vs) (s.heap.objs.size + 1) vs } κ vs)
    (h : Q (.ref (s.heap.objs.size + 1)) { s with heap := sortedAll s.heap vs (sortVals κ false vs vs).toArray }) : wpAny (model prog w) A (call (.builtin "sorted") [.ref l]) Q E s := by
  refine call_function_entry_kw kind_sorted plain_sorted entry_sorted (args_sorted1 _) ?_
  unfold Builtin.«sorted»
  refine wpAny_bind (m := checkCount "sorted" 1 1 _) (wpAny_pure ?_)
  refine wpAny_bind (collect_seq hT ho hc hd hz (wpAny_bind (wpAny_newList ?_ hz)))
  have hsz : ((s.heap.push (seqObj "list" #[] 0)).update s.heap.objs.size (Obj.mapSeq (· ++ vs.toArray))).objs.size = s.heap.objs.size + 1 := by
    rw [Heap.size_update, size_push']
  show wpAny _ _ _ _ _ { s with heap := copyHeap s.heap vs }
  rw [hsz]
  refine wpAny_bind (wpAny_holding (wpAny_call_entry_kw slot_list_sort ⟨_, copyHeap_at s.heap vs, rfl⟩ entry_list_sort ?_ (args_list_sort _)))
  refine wpAny_mono (list_sort_vals (s := { s with heap := copyHeap s.heap vs }) (P := fun f s' => f = .done (.ret .none) ∧ Q (.ref (s.heap.objs.size + 1)) s') (copyHeap_at s.heap vs) hs hz ⟨rfl, h⟩) (fun f s' hf => ?_) fun _ _ z => z
  obtain ⟨rfl, hq⟩ := hf
  exact ⟨_, rfl, wpAny_pure ⟨_, rfl, hq⟩⟩

theorem repr_any {v : Value} {d : PyData} {as : List Addr} {Q : Value → Shared → Prop} (r : Reads s.heap v d as) (hs : d.showable = true) (hd : sysModules ∉ as) (hg : A.guards = some []) (hu : A.units + (d.depth + 1) < cLine) (hz : d.shown.length ≤ sizeLine)
    (hQ : ∀ h' u tk, (∀ b o, s.heap.get? b = some o → h'.get? b = some o) → Q (.str d.shown u) { s with heap := h', toks := tk }) : wpAny (model prog w) A (call (.builtin "repr") [v]) Q E s := by
  cases r with
  | none => exact P.repr_of_none (hQ s.heap _ _ fun _ _ e => e)
  | bool b => exact P.repr_of_bool (hQ s.heap _ _ fun _ _ e => e)
  | int i t => exact P.repr_of_int (by simpa [PyData.showable] using hs) (hQ s.heap _ _ fun _ _ e => e)
  | str x t => exact P.repr_of_str (hQ s.heap _ _ fun _ _ e => e) hz
  | list h1 h2 h3 h4 => exact repr_of_reads' (.list h1 h2 h3 h4) hs (fun _ => hd) hg hu (fun _ _ e => e) hQ hz
  | tuple h1 h2 h3 h4 => exact repr_of_reads' (.tuple h1 h2 h3 h4) hs (fun _ => hd) hg hu (fun _ _ e => e) hQ hz
  | dict h1 h2 h3 h4 h5 => exact repr_of_reads' (.dict h1 h2 h3 h4 h5) hs (fun _ => hd) hg hu (fun _ _ e => e) hQ hz
end

section
variable {X : Cx} {Y : Tx} {pins : List (Addr × Obj)} {σ : L2.St} {H : Hp} {s : Shared} {G : Gh}
mutual
theorem RD.shows (hK : X.K = Y.K) (h1 : H sysModules = none) (I : Inv X pins σ H s) : ∀ {d : D} {v : V} {u : Value}, d.shw = true → RD Y G H v d → RelV v u → ∃ as, Reads s.heap u d.pd as ∧ sysModules ∉ as
  | .non, _, _, _, r, ru => by cases r; cases ru; exact ⟨_, Reads.none, by simp⟩
  | .bl b, _, _, _, r, ru => by cases r; cases ru; exact ⟨_, Reads.bool b, by simp⟩
  | .int i, _, _, _, r, ru => by cases r; obtain ⟨t, rfl⟩ := ru; exact ⟨_, Reads.int i t, by simp⟩
  | .str x, _, _, _, r, ru => by cases r; obtain ⟨t, rfl⟩ := ru; exact ⟨_, Reads.str x t, by simp⟩
  | .tup xs, _, _, p, r, ru => by
    cases r with
    | @tup a vs _ h rs =>
      cases ru
      obtain ⟨its, rv, ⟨o, ho, hc, n, hd⟩, _⟩ := I.tuple (show SqT X.K H a vs by rw [hK]; exact h)
      obtain ⟨as, q, n1⟩ := RDs.shows hK h1 I (by simpa [D.shw] using p) rs rv
      exact ⟨as, Reads.tuple ho hc hd (by simpa using q), n1⟩
  | .lst xs, _, _, p, r, ru => by
    cases r with
    | @lst a vs _ h f rs =>
      cases ru
      obtain ⟨its, rv, ⟨o, n, ho, hc, _, hd⟩, _⟩ := I.list (SqL.of (K := X.K) h)
      obtain ⟨as, q, n1⟩ := RDs.shows hK h1 I (by simpa [D.shw] using p) rs rv
      refine ⟨a :: as, Reads.list ho hc hd (by simpa using q), fun z => ?_⟩
      rcases List.mem_cons.mp z with z | z
      · rw [← z, h1] at h; cases h
      · exact n1 z
  | .dct kvs, _, _, p, r, ru => by
    have p0 : kvs = [] := by simpa [D.shw] using p
    subst p0
    cases r with
    | dcT h n f rt => cases rt; exact absurd rfl n
    | @dct a _ _ h f rk =>
      cases rk
      cases ru
      obtain ⟨_, hS, vs, kv, o, es, ep, ho, hx, hd, _, he, _⟩ := (show ObjOk X.prog X.w H s.heap a (.dK []) from I.hok a _ h)
      cases kv
      have he' : es = #[] := by
        have : es.toList = [] := by
          generalize es.toList = l at he
          cases he; rfl
        exact Array.toList_eq_nil_iff.mp this
      subst he'
      refine ⟨[a], ?_, fun z => ?_⟩
      · have q := Reads.dict (h := s.heap) (a := a) (kvs := []) ho hx.1 hd .nil .nil
        exact q
      · rw [← List.mem_singleton.mp z, h1] at h; cases h
  | .ins _ _, _, _, p, _, _ => by simp [D.shw] at p
  | .exc _ _, _, _, p, _, _ => by simp [D.shw] at p
  | .scr _, _, _, p, _, _ => by simp [D.shw] at p
  | .loc _, _, _, p, _, _ => by simp [D.shw] at p
  | .drw, _, _, p, _, _ => by simp [D.shw] at p
theorem RDs.shows (hK : X.K = Y.K) (h1 : H sysModules = none) (I : Inv X pins σ H s) : ∀ {ds : List D} {vs : List V} {us : List Value}, D.shws ds = true → RDs Y G H vs ds → Vals vs us → ∃ as, ReadsAll s.heap us (D.pds ds) as ∧ sysModules ∉ as
  | [], _, _, _, r, ru => by cases r; cases ru; exact ⟨_, ReadsAll.nil, by simp⟩
  | d :: ds, _, _, p, r, ru => by
    have p' : d.shw = true ∧ D.shws ds = true := by simpa [D.shws] using p
    cases r with
    | cons r rs =>
      cases ru with
      | cons q qs =>
        obtain ⟨as, q1, n1⟩ := RD.shows hK h1 I p'.1 r q
        obtain ⟨bs, q2, n2⟩ := RDs.shows hK h1 I p'.2 rs qs
        exact ⟨_, ReadsAll.cons q1 q2, fun z => (List.mem_append.mp z).elim n1 n2⟩
end
theorem RV.shows (hK : X.K = Y.K) (h1 : H sysModules = none) (I : Inv X pins σ H s) {d : D} {v : V} {u : Value} (p : d.shw = true) (r : RV Y G H v d) (ru : RelV v u) : ∃ as, Reads s.heap u d.pd as ∧ sysModules ∉ as := by
  rcases r with r | ⟨a, vs, ds, rfl, rfl, h, m, rs⟩
  · exact r.shows hK h1 I p ru
  · cases ru
    obtain ⟨its, rv, ⟨o, n, ho, hc, _, hd⟩, _⟩ := I.list (SqL.of (K := X.K) h)
    obtain ⟨as, q, n1⟩ := RDs.shows hK h1 I (by simpa [D.shw] using p) rs rv
    refine ⟨a :: as, Reads.list ho hc hd (by simpa using q), fun z => ?_⟩
    rcases List.mem_cons.mp z with z | z
    · rw [← z, h1] at h; cases h
    · exact n1 z
end

/-- the values by place -/
theorem each_of {Y : Tx} {G : Gh} {H : Hp} : ∀ {vs : List V} {ds : List D} {us : List Value}, RDs Y G H vs ds → Vals vs us → PySem.W.EachIs (fun u (p : V × D) => RelV p.1 u ∧ RD Y G H p.1 p.2) us (vs.zip ds)
  | _, _, _, .nil, .nil => .nil
  | _, _, _, .cons h r, .cons q t => .cons ⟨q, h⟩ (each_of r t)
theorem each_vals {R : Value → V × D → Prop} (hR : ∀ u p, R u p → RelV p.1 u) : ∀ {us : List Value} {ps : List (V × D)}, PySem.W.EachIs R us ps → Vals (ps.map (·.1)) us
  | _, _, .nil => .nil
  | _, _, .cons h r => .cons (hR _ _ h) (each_vals hR r)
theorem each_rds {Y : Tx} {G : Gh} {H : Hp} {R : Value → V × D → Prop} (hR : ∀ u p, R u p → RD Y G H p.1 p.2) : ∀ {us : List Value} {ps : List (V × D)}, PySem.W.EachIs R us ps → RDs Y G H (ps.map (·.1)) (ps.map (·.2))
  | _, _, .nil => .nil
  | _, _, .cons h r => .cons (hR _ _ h) (each_rds hR r)
theorem pures_mem : ∀ {ds : List D}, D.pures ds = true → ∀ d ∈ ds, d.pure = true
  | [], _, _, h => by cases h
  | x :: xs, p, d, h => by
    have p' : x.pure = true ∧ D.pures xs = true := by simpa [D.pures] using p
    rcases List.mem_cons.mp h with rfl | h
    · exact p'.1
    · exact pures_mem p'.2 d h

section
variable {Y : Tx} {k : Nat} {hot : Bool} {X : Cx}
open PySem.W in
theorem or_sorted (ox : XOk Y k hot X) {pins : List (Addr × Obj)} {s : Shared} {σ : L2.St} {H : Hp} {G : Gh} {S : Sto} {a : Addr} {vs : List V} {xs : List D} {Q : VK} (I : Inv X pins σ H s) (ok : GOk Y G H S) (hq : SqL X.K H a vs ∨ SqT X.K H a vs) (rv : RDs Y G H vs xs)
    (hs : sortable xs = true) (q : ∀ p, H p = none → Q (.ref p) (upd H p (.lst (((vs.zip xs).mergeSort fun x y => leD x.2 y.2).map (·.1)))))
    : wpAny (model X.prog X.w) X.A (call (.builtin "sorted") [.ref a]) (EP X pins σ Q) X.xe s := by
  simp only [sortable, Bool.and_eq_true, List.all_eq_true, decide_eq_true_eq, Bool.not_eq_true'] at hs
  obtain ⟨⟨hp, hal⟩, hn⟩ := hs
  obtain ⟨its, o, T, n, r, hT, ho, hc, hd, hz⟩ : ∃ (its : List Value) (o : Obj) (T : String) (n : Nat), Vals vs its ∧ (T = "list" ∨ T = "tuple") ∧ s.heap.get? a = some o ∧ o.cls = .type T ∧ o.data = .seq its.toArray n ∧ vs.length ≤ sizeLine := by
    rcases hq with hq | hq
    · obtain ⟨its, r, ⟨o, n, ho, hc, _, hd⟩, hz⟩ := I.list hq
      exact ⟨its, o, "list", n, r, .inl rfl, ho, hc, hd, hz⟩
    · obtain ⟨its, r, ⟨o, ho, hc, n, hd⟩, hz⟩ := I.tuple hq
      exact ⟨its, o, "tuple", n, r, .inr rfl, ho, hc, hd, hz⟩
  have hlen := r.length
  have hu := ox.units
  have ea := each_of rv r
  have em : ∀ p ∈ vs.zip xs, p.2 ∈ xs := fun p hp' => (List.of_mem_zip hp').2
  -- the heap in which list.sort compares
  have keepS : ∀ b ob, s.heap.get? b = some ob → (sortingHeap (copyHeap s.heap its) (s.heap.objs.size + 1) its).get? b = some ob := fun b ob e => sorting_copy_old e
  have er : EachIs (fun v (p : V × D) => ∃ as, Reads (sortingHeap (copyHeap s.heap its) (s.heap.objs.size + 1) its) v p.2.pd as) its (vs.zip xs) := (each_mem ea).mono fun u p ⟨⟨r1, r2⟩, hm⟩ => by
    obtain ⟨as, rr⟩ := ox.reads (G := G) (d := p.2) I (pures_mem hp _ (em p hm)) r2.rv r1
    exact ⟨as, PyProof.Rows.Reads.keeps keepS rr⟩
  have hAll : AllAlike ((vs.zip xs).map fun p => p.2.pd) := by
    intro d hd d' hd'
    obtain ⟨p, hp1, rfl⟩ := List.mem_map.mp hd
    obtain ⟨p', hp2, rfl⟩ := List.mem_map.mp hd'
    exact hal _ (em p hp1) _ (em p' hp2)
  have hU : ∀ d, d ∈ ((vs.zip xs).map fun p => p.2.pd) → X.A.in1.in1.units + d.depth < cLine := fun d hd => by
    obtain ⟨p, hp1, rfl⟩ := List.mem_map.mp hd
    have := (hn _ (em p hp1)).2
    show X.A.units + 1 + 1 + _ < cLine
    omega
  have sorts : SortsAt X.prog X.w X.A.in1.in1 { s with heap := sortingHeap (copyHeap s.heap its) (s.heap.objs.size + 1) its } (dataKind (sortingHeap (copyHeap s.heap its) (s.heap.objs.size + 1) its) ((vs.zip xs).map fun p => p.2.pd)) its := by
    have e2 := each_map (R := fun v d => ∃ as, Reads (sortingHeap (copyHeap s.heap its) (s.heap.objs.size + 1) its) v d as) (fun p : V × D => p.2.pd) er
    by_cases ht : ∃ d ∈ ((vs.zip xs).map fun p => p.2.pd), ∃ zs, d = .tuple zs
    · obtain ⟨d0, h0, zs, rfl⟩ := ht
      refine sorts_tuples (s := { s with heap := sortingHeap (copyHeap s.heap its) (s.heap.objs.size + 1) its }) e2 hAll (fun d hd => ?_) hU
      have := hAll _ h0 d hd
      cases d <;> first | exact ⟨_, rfl⟩ | exact absurd this (by simp [alike])
    · refine SortsAt.data (s := { s with heap := sortingHeap (copyHeap s.heap its) (s.heap.objs.size + 1) its }) e2 hAll (.inr fun d hd => ⟨?_, fun zs e => ht ⟨d, hd, zs, e⟩⟩) hU
      obtain ⟨p, hp1, rfl⟩ := List.mem_map.mp hd
      exact isNon_pd (pures_mem hp _ (em p hp1)) (hn _ (em p hp1)).1
  refine sorted_seq hT ho hc hd (by omega) sorts ?_
  have out := sortVals_data (h' := sortingHeap (copyHeap s.heap its) (s.heap.objs.size + 1) its) (R := fun u (p : V × D) => RelV p.1 u) (enc := fun p : V × D => p.2.pd) false (ea.mono fun _ _ z => z.1) er hAll
  have le_eq : (dataLe false fun p : V × D => p.2.pd) = fun x y : V × D => leD x.2 y.2 := by
    rw [dataLe_eq]
    rfl
  rw [le_eq] at out
  have vals := each_vals (fun _ _ z => z) out
  obtain ⟨ep, he'⟩ := sortedAll_at s.heap its (sortVals (dataKind (sortingHeap (copyHeap s.heap its) (s.heap.objs.size + 1) its) ((vs.zip xs).map fun p => p.2.pd)) false its its).toArray
  have hl2 : (((vs.zip xs).mergeSort fun x y => leD x.2 y.2).map (·.1)).length ≤ sizeLine := by
    rw [List.length_map, List.length_mergeSort, List.length_zip]
    omega
  exact ⟨.ref _, _, I.laid (o := .lst (((vs.zip xs).mergeSort fun x y => leD x.2 y.2).map (·.1))) (t' := s.toks) (fun _ _ => sortedAll_old) (Nat.le_succ _) ⟨hl2, _, ep, vals, he'⟩, rfl, q _ (I.hok.fresh (Nat.le_succ _))⟩
theorem rds_zip {Y : Tx} {G : Gh} {H : Hp} : ∀ {vs : List V} {ds : List D}, RDs Y G H vs ds → ∀ p ∈ vs.zip ds, RD Y G H p.1 p.2
  | _, _, .nil, p, h => by cases h
  | _, _, .cons h r, p, hp => by
    rcases List.mem_cons.mp hp with rfl | hp
    · exact h
    · exact rds_zip r p hp
theorem rds_map {Y : Tx} {G : Gh} {H : Hp} : ∀ {ps : List (V × D)}, (∀ p ∈ ps, RD Y G H p.1 p.2) → RDs Y G H (ps.map (·.1)) (ps.map (·.2))
  | [], _ => .nil
  | p :: ps, h => .cons (h p List.mem_cons_self) (rds_map fun q hq => h q (List.mem_cons_of_mem _ hq))
theorem rds_sorted {Y : Tx} {G : Gh} {H : Hp} {vs : List V} {ds : List D} (r : RDs Y G H vs ds) : RDs Y G H (((vs.zip ds).mergeSort fun x y => leD x.2 y.2).map (·.1)) (ds.mergeSort leD) := by
  have e : ((vs.zip ds).mergeSort fun x y => leD x.2 y.2).map (·.2) = ds.mergeSort leD := by
    rw [PySem.W.sort_maps (s := leD) (fun p : V × D => p.2) fun _ _ _ _ => rfl, List.map_snd_zip (by rw [r.length]; exact Nat.le_refl _)]
  rw [← e]
  exact rds_map fun p hp => rds_zip r p ((List.mergeSort_perm _ _).mem_iff.mp hp)

/-- a built-in by values -/
def rBi (Y : Tx) (kin : Kin) (b : Bi) : List V → Hp → VK → Prop := fun vs H Q => ∃ G S ds d, GOk Y G H S ∧ Paired (RV Y G H) vs ds ∧ biD kin b ds = some d ∧ ∀ G' H' u, Ext G H G' H' → GOk Y G' H' S → RD Y G' H' u d → Q u H'
def Bi.val : Bi → Value
  | .len => .builtin "len"
  | .all => .builtin "all"
  | .any => .builtin "any"
  | .tuple => .type "tuple"
  | .tupS => .type "tuple"
  | .lset => .builtin "len"
  | .list => .type "list"
  | .sorted => .builtin "sorted"
  | .min2 => .builtin "min"
  | .max2 => .builtin "max"
  | .sum => .builtin "sum"
  | .repr => .builtin "repr"
  | .int1 => .type "int"
  | .isi _ => .builtin "isinstance"
def Bi.plain : Bi → Bool
  | .isi _ => false
  | .lset => false
  | _ => true
theorem bools_map : ∀ {xs : List D} {bs : List Bool}, bools xs = some bs → ∀ {Y G H vs}, RDs Y G H vs xs → vs = bs.map V.bl
  | [], bs, h, _, _, _, _, r => by cases h; cases r; rfl
  | x :: xs, bs, h, _, _, _, _, r => by
    cases r with
    | cons h1 r =>
      cases x <;> simp only [bools] at h <;> try (cases h; done)
      cases e : bools xs with
      | none => rw [e] at h; cases h
      | some cs =>
        rw [e] at h
        cases h
        cases h1
        rw [bools_map e r]
        rfl
theorem ints_map : ∀ {xs : List D} {bs : List Int}, intsD xs = some bs → ∀ {Y G H vs}, RDs Y G H vs xs → vs = bs.map V.int
  | [], bs, h, _, _, _, _, r => by cases h; cases r; rfl
  | x :: xs, bs, h, _, _, _, _, r => by
    cases r with
    | cons h1 r =>
      cases x <;> simp only [intsD] at h <;> try (cases h; done)
      cases e : intsD xs with
      | none => rw [e] at h; cases h
      | some cs =>
        rw [e] at h
        cases h
        cases h1
        rw [ints_map e r]
        rfl
theorem fold_max : ∀ (r : List Int) (a : Int), (r.foldl (fun x y => if x < y then y else x) a = a ∨ r.foldl (fun x y => if x < y then y else x) a ∈ r) ∧ a ≤ r.foldl (fun x y => if x < y then y else x) a ∧ ∀ y ∈ r, y ≤ r.foldl (fun x y => if x < y then y else x) a
  | [], a => ⟨.inl rfl, Int.le_refl _, (fun _ h => nomatch h)⟩
  | b :: r, a => by
    rw [List.foldl_cons]
    obtain ⟨h1, h2, h3⟩ := fold_max r (if a < b then b else a)
    refine ⟨?_, ?_, fun y hy => ?_⟩
    · rcases h1 with h1 | h1
      · by_cases h : a < b
        · rw [if_pos h] at h1 ⊢; exact .inr (by rw [h1]; exact List.mem_cons_self)
        · rw [if_neg h] at h1 ⊢; exact .inl h1
      · exact .inr (List.mem_cons_of_mem _ h1)
    · refine Int.le_trans ?_ h2
      split <;> omega
    · rcases List.mem_cons.mp hy with rfl | hy
      · refine Int.le_trans ?_ h2
        split <;> omega
      · exact h3 y hy
theorem maxI_spec {ns : List Int} {m : Int} (h : maxI ns = some m) : m ∈ ns ∧ ∀ y ∈ ns, y ≤ m := by
  cases ns with
  | nil => cases h
  | cons a r =>
    cases h
    obtain ⟨h1, h2, h3⟩ := fold_max r a
    refine ⟨?_, fun y hy => ?_⟩
    · rcases h1 with h1 | h1
      · rw [h1]; exact List.mem_cons_self
      · exact List.mem_cons_of_mem _ h1
    · rcases List.mem_cons.mp hy with rfl | hy
      · exact h2
      · exact h3 y hy
theorem rds_ints {Y : Tx} {G : Gh} {H : Hp} : ∀ ns : List Int, RDs Y G H (ns.map V.int) (ns.map RM.D.int)
  | [] => .nil
  | n :: ns => .cons (.int n) (rds_ints ns)
theorem rds_signs {Y : Tx} {G : Gh} {H : Hp} : ∀ l : List Nat, RDs Y G H (l.map fun c => V.str ⟨#[c]⟩) (l.map fun c => RM.D.str ⟨#[c]⟩)
  | [] => .nil
  | c :: l => .cons (.str _) (rds_signs l)
theorem paired_at {α β : Type} {F : α → β → Prop} : ∀ {xs : List α} {us : List β}, xs.length = us.length → (∀ (i : Nat) x u, xs[i]? = some x → us[i]? = some u → F x u) → Paired F xs us
  | [], [], _, _ => .nil
  | x :: xs, u :: us, hl, h => .cons (h 0 x u rfl rfl) (paired_at (by simpa using hl) fun i y v hy hv => h (i + 1) y v (by simpa using hy) (by simpa using hv))
theorem signs_vals {z : Str} {acc : Array Value} (h : ItemsOf (SignAt z) acc z.cps.size) : Vals (z.cps.toList.map fun c => V.str ⟨#[c]⟩) acc.toList := paired_at (by rw [List.length_map, Array.length_toList, Array.length_toList, h.1]) fun i x u hx hu => by
  rw [Array.getElem?_toList] at hu
  obtain ⟨c, t, hc, rfl⟩ := h.2 i u hu
  rw [List.getElem?_map, Array.getElem?_toList, hc] at hx
  cases hx
  exact ⟨t, rfl⟩
theorem RV.scr {Y : Tx} {G : Gh} {H : Hp} {v : V} {ns : List Int} (r : RV Y G H v (.scr ns)) : ∃ a, v = .ref a ∧ Scr Y.K H a ns := by
  rcases r with r | ⟨_, _, _, _, e, _⟩
  · cases r with
    | scr h => exact ⟨_, rfl, h⟩
  · cases e
theorem RV.items {Y : Tx} {G : Gh} {H : Hp} {v : V} {x : D} {xs : List D} (r : RV Y G H v x) (e : itemsD x = some xs) : ∃ a vs, v = .ref a ∧ (SqL Y.K H a vs ∨ SqT Y.K H a vs) ∧ RDs Y G H vs xs := by
  cases x <;> simp only [itemsD] at e <;> try (cases e; done)
  · cases e
    obtain ⟨a, vs, h1, h2, h3⟩ := r.tup
    exact ⟨a, vs, h1, .inr h2, h3⟩
  · cases e
    obtain ⟨a, vs, h1, h2, h3⟩ := r.lst
    exact ⟨a, vs, h1, .inl (.of h2), h3⟩
  · cases e
    obtain ⟨a, h1, h2⟩ := r.scr
    exact ⟨a, _, h1, .inl h2.seq, rds_ints _⟩
theorem pair1 {α β : Type} {F : α → β → Prop} {vs : List α} {d : β} (r : Paired F vs [d]) : ∃ v, vs = [v] ∧ F v d := by
  cases r with
  | cons h t => cases t; exact ⟨_, rfl, h⟩
theorem pair2 {α β : Type} {F : α → β → Prop} {vs : List α} {d e : β} (r : Paired F vs [d, e]) : ∃ v w, vs = [v, w] ∧ F v d ∧ F w e := by
  cases r with
  | cons h t =>
    cases t with
    | cons h2 t => cases t; exact ⟨_, _, rfl, h, h2⟩
/-- what may be asked within an except suite too -/
def Bi.cold : Bi → Bool
  | .tupS => false
  | .lset => false
  | .all => false
  | .any => false
  | .min2 => false
  | .max2 => false
  | .sum => false
  | _ => true
theorem or_bi (ox : XOk Y k hot X) (kin : Kin) (b : Bi) (hb : b.plain = true) (hh : hot = false ∨ b.cold = true) : CallR X b.val (rBi Y kin b) := by
  intro pins s σ H vs us Q I rv ⟨G, S, ds, d, ok, r, e, q⟩
  have scalar : ∀ z : V, (∀ G H, RD Y G H z d) → Q z H := fun z hz => q G H z Ext.refl ok (hz G H)
  have hK := ox.hK
  have hu := ox.units
  have calm : b.cold = false → X.calm = true := fun z => ox.calm (hh.elim id fun q => by rw [z] at q; cases q)
  cases b with
  | isi ts => cases hb
  | lset => cases hb
  | len =>
    match ds, e, r with
    | [x], e, r =>
      obtain ⟨v, rfl, r0⟩ := pair1 r
      have e : lenD x = some d := e
      refine call_len pins s σ H _ us Q I rv ?_
      cases x <;> simp only [lenD] at e <;> try (cases e; done)
      · split at e
        · rename_i hz
          cases e
          cases r0.str
          exact ⟨_, _, rfl, ⟨hz, rfl⟩, scalar _ fun _ _ => .int _⟩
        · cases e
      · cases e
        obtain ⟨a, ws, rfl, h1, h2⟩ := r0.tup
        refine ⟨_, ws.length, rfl, .inr ⟨ws, by rw [hK]; exact h1, rfl⟩, ?_⟩
        rw [h2.length]
        exact scalar _ fun _ _ => .int _
      · cases e
        obtain ⟨a, ws, rfl, h1, h2⟩ := r0.lst
        refine ⟨_, ws.length, rfl, .inl ⟨ws, .of h1, rfl⟩, ?_⟩
        rw [h2.length]
        exact scalar _ fun _ _ => .int _
      · cases e
        rcases r0 with r1 | ⟨_, _, _, _, z, _⟩
        · cases r1 with
          | @scr a _ h1 =>
            refine ⟨_, _, rfl, .inl ⟨_, by rw [hK]; exact h1.seq, by simp⟩, scalar _ fun _ _ => .int _⟩
        · cases z
  | all =>
    match ds, e, r with
    | [.lst xs], e, r =>
      obtain ⟨v, rfl, r0⟩ := pair1 r
      have e : (bools xs).map (fun bs => D.bl (bs.all id)) = some d := e
      cases eb : bools xs with
      | none => rw [eb] at e; cases e
      | some bs =>
        rw [eb] at e
        cases e
        obtain ⟨a, ws, rfl, h1, h2⟩ := r0.lst
        cases bools_map eb h2
        exact cr_all (calm rfl) pins s σ H _ us Q I rv ⟨a, bs, rfl, .of h1, scalar _ fun _ _ => .bl _⟩
  | any =>
    match ds, e, r with
    | [.lst xs], e, r =>
      obtain ⟨v, rfl, r0⟩ := pair1 r
      have e : (bools xs).map (fun bs => D.bl (bs.any id)) = some d := e
      cases eb : bools xs with
      | none => rw [eb] at e; cases e
      | some bs =>
        rw [eb] at e
        cases e
        obtain ⟨a, ws, rfl, h1, h2⟩ := r0.lst
        cases bools_map eb h2
        exact cr_any (calm rfl) pins s σ H _ us Q I rv ⟨a, bs, rfl, .of h1, scalar _ fun _ _ => .bl _⟩
  | tuple =>
    match ds, e, r with
    | [x], e, r =>
      obtain ⟨v, rfl, r0⟩ := pair1 r
      have e : (itemsD x).map D.tup = some d := e
      cases ei : itemsD x with
      | none => rw [ei] at e; cases e
      | some xs =>
        rw [ei] at e
        cases e
        obtain ⟨a, ws, rfl, h1, h2⟩ := r0.items ei
        refine call_tuple_of pins s σ H _ us Q I rv ⟨a, ws, rfl, ?_⟩
        rcases h1 with h1 | h1
        · exact .inl ⟨by rw [hK]; exact h1, fin_tup ok h2 q⟩
        · exact .inr ⟨by rw [hK]; exact h1, q G H _ Ext.refl ok (.tup h1 h2)⟩
  | tupS =>
    match ds, e, r with
    | [.str z], e, r =>
      obtain ⟨v, rfl, r0⟩ := pair1 r
      have e : (if z.length ≤ sizeLine then some (D.tup (z.cps.toList.map fun c => .str ⟨#[c]⟩)) else none) = some d := e
      split at e
      · rename_i hz
        cases e
        cases r0.str
        obtain ⟨u, rfl, t, rfl⟩ := vals1 rv
        have fin := fin_tup ok (rds_signs z.cps.toList) q
        refine call_tuple_str (I.ok.hd (calm rfl)) z t (fun h' tk acc kp ha => ?_) hz
        have I1 : Inv X pins σ H { s with heap := h', toks := tk } := I.kept kp
        have I2 : Inv X pins σ (upd H h'.objs.size (.tup (z.cps.toList.map fun c => V.str ⟨#[c]⟩))) { s with heap := h'.push { cls := .type "tuple", data := .seq acc }, toks := tk } :=
          I1.laid (t' := tk) (fun b o e => Heap.get?_push_of_some _ e) (Nat.le_refl _) (show ObjOk X.prog X.w _ _ _ (.tup (z.cps.toList.map fun c => V.str ⟨#[c]⟩)) from ⟨by rw [List.length_map]; exact hz, acc.toList, signs_vals ha, by simpa using IsTup.new _ _⟩)
        exact ⟨.ref h'.objs.size, _, I2, rfl, fin _ (I1.hok.fresh (Nat.le_refl _))⟩
      · cases e
  | list =>
    match ds, e, r with
    | [x], e, r =>
      obtain ⟨v, rfl, r0⟩ := pair1 r
      have e : (itemsD x).map D.lst = some d := e
      cases ei : itemsD x with
      | none => rw [ei] at e; cases e
      | some xs =>
        rw [ei] at e
        cases e
        obtain ⟨a, ws, rfl, h1, h2⟩ := r0.items ei
        exact call_list_of pins s σ H _ us Q I rv ⟨a, ws, rfl, by rw [hK]; exact h1, fin_lst ok h2 q⟩
  | sorted =>
    match ds, e, r with
    | [x], e, r =>
      obtain ⟨v, rfl, r0⟩ := pair1 r
      have e : ((itemsD x).bind fun xs => if sortable xs then some (.lst (xs.mergeSort leD)) else none) = some d := e
      cases ei : itemsD x with
      | none => rw [ei] at e; cases e
      | some xs =>
        rw [ei] at e
        have e : (if sortable xs then some (.lst (xs.mergeSort leD)) else none) = some d := e
        split at e
        · rename_i hs
          cases e
          obtain ⟨a, ws, rfl, h1, h2⟩ := r0.items ei
          obtain ⟨u, rfl, ru⟩ := vals1 rv
          cases ru
          exact or_sorted ox I ok (by rw [hK]; exact h1) h2 hs (fin_lst ok (rds_sorted h2) q)
        · cases e
  | min2 =>
    match ds, e, r with
    | [.int i, .int j], e, r =>
      obtain ⟨v, w, rfl, r1, r2⟩ := pair2 r
      cases e
      cases r1.int; cases r2.int
      exact call_min2 (calm rfl) pins s σ H _ us Q I rv ⟨i, j, rfl, scalar _ fun _ _ => .int _⟩
  | max2 =>
    match ds, e, r with
    | [.int i, .int j], e, r =>
      obtain ⟨v, w, rfl, r1, r2⟩ := pair2 r
      cases e
      cases r1.int; cases r2.int
      exact call_max2 (calm rfl) pins s σ H _ us Q I rv ⟨i, j, rfl, scalar _ fun _ _ => .int _⟩
    | [.lst xs], e, r =>
      obtain ⟨v, rfl, r0⟩ := pair1 r
      have e : ((intsD xs).bind maxI).map D.int = some d := e
      cases eb : intsD xs with
      | none => rw [eb] at e; cases e
      | some bs =>
        rw [eb] at e
        cases em : maxI bs with
        | none => rw [Option.bind_some, em] at e; cases e
        | some m =>
          rw [Option.bind_some, em] at e
          cases e
          obtain ⟨a, ws, rfl, h1, h2⟩ := r0.lst
          cases ints_map eb h2
          have hm := maxI_spec em
          refine cr_max (calm rfl) pins s σ H _ us Q I rv ⟨a, bs, rfl, .of h1, ?_, fun m' h1 h2 => ?_⟩
          · cases bs with
            | nil => cases em
            | cons => simp
          · have : m' = m := Int.le_antisymm (hm.2 m' h1) (h2 m hm.1)
            rw [this]
            exact scalar _ fun _ _ => .int _
  | sum =>
    match ds, e, r with
    | [.lst xs], e, r =>
      obtain ⟨v, rfl, r0⟩ := pair1 r
      have e : (intsD xs).map (fun is => D.int is.sum) = some d := e
      cases eb : intsD xs with
      | none => rw [eb] at e; cases e
      | some bs =>
        rw [eb] at e
        cases e
        obtain ⟨a, ws, rfl, h1, h2⟩ := r0.lst
        cases ints_map eb h2
        exact cr_sum (calm rfl) pins s σ H _ us Q I rv ⟨a, bs, rfl, .of h1, scalar _ fun _ _ => .int _⟩
  | repr =>
    match ds, e, r with
    | [x], e, r =>
      obtain ⟨v, rfl, r0⟩ := pair1 r
      have e : (if reprOk x then some (D.str x.pd.shown) else none) = some d := e
      split at e
      · rename_i hr
        cases e
        simp only [reprOk, Bool.and_eq_true, decide_eq_true_eq] at hr
        obtain ⟨⟨⟨p1, p2⟩, p3⟩, p4⟩ := hr
        obtain ⟨u, rfl, ru⟩ := vals1 rv
        obtain ⟨as, rr, ns⟩ := r0.shows hK (ox.sys.elim fun o e => (I.bs _ _ e).2) I p1 ru
        exact repr_any rr p2 ns ox.gd (by omega) (by omega) fun h' t tk kp => ⟨.str _, H, I.kept (t' := tk) kp, ⟨t, rfl⟩, scalar _ fun _ _ => .str _⟩
      · cases e
  | int1 =>
    match ds, e, r with
    | [.int i], e, r =>
      obtain ⟨v, rfl, r0⟩ := pair1 r
      cases e
      cases r0.int
      exact call_int1 pins s σ H _ us Q I rv (.inl ⟨i, rfl, scalar _ fun _ _ => .int _⟩)
end
end RM
end
section
set_option Elab.async false
set_option linter.all false
set_option maxRecDepth 100000
set_option autoImplicit false
/-! defs called: a promise by positional arguments, no repr around -/
namespace RM
open PySem PySem.Spec PyProof.Rows L2

structure FnG (P : Program) (w : World) (K : PySem.W.Frag) (mg : Str → Option Value) (base : Heap) (k : Nat) (f : Addr) (n : Nat) (sp : Sp) : Prop where
  len : ∀ vs H Q E, sp vs H Q E → vs.length = n
  run : ∀ (A : Around) (outer : List Env) (s : Shared) (H : Hp) (us : List Value) (vs : List V) (Q : VK) (E : XK), Room k A → A.guards = some [] → Env0 P w K mg base A outer s H → Vals vs us → sp vs H Q E →
    codeAny (model P w) A (.call (.ref f) ⟨us, []⟩) (CR (L2.CX P w) outer P w H s Q E) s
section
variable {P : Program} {w : World} {K : PySem.W.Frag} {mg : Str → Option Value} {base : Heap} {k j n : Nat} {f : Addr} {sp sp' : Sp}
theorem FnG.mono (F : FnG P w K mg base j f n sp) (h : j ≤ k) : FnG P w K mg base k f n sp := ⟨F.len, fun A outer s H us vs Q E hr => F.run A outer s H us vs Q E (hr.mono h)⟩

/-- by its body, the last parameters by their defaults -/
theorem FnG.ofD {dvs : List V} {ds : List Value} {name qual : Str} {params : Arguments} {body : List Stmt} {scope : Scope} {dV kV doc pm cdv ct oc : Value} {an od : Option Addr} {osl : Array (Option Value)} {N ps : List Str}
    (lk : K.lookup f = some ⟨oc, od, .func (PySem.W.fnOf name qual params body scope dV kV doc pm an cdv ct), osl⟩) (hcd : PySem.W.codeIn K cdv qual = true) (sc : FnScope N ps scope)
    (hb : Binds K (PySem.W.fnOf name qual params body scope dV kV doc pm an cdv ct) ps ds) (hd : Vals dvs ds) (hn : n + dvs.length = ps.length) (len : ∀ vs H Q E, sp vs H Q E → vs.length = n)
    (hbody : ∀ (A : Around) (outer : List Env) (s : Shared) (H : Hp) (vs : List V) (Q : VK) (E : XK), Room k (A.deeper (envOfC qual scope s.heap.objs.size f cdv)) → (A.deeper (envOfC qual scope s.heap.objs.size f cdv)).guards = some [] → sp vs H Q E →
      ∃ t, PSs (cxOf (L2.CX P w) P w K mg base N qual scope f cdv A outer s H E) body t ∧ t { nx := fun _ H' => Q .non H', rt := Q } (start N (vs ++ dvs)) H) :
    FnG P w K mg base (k + 1) f n sp := by
  refine ⟨len, fun A outer s H us vs Q E hr hg e0 r hsp => ?_⟩
  have hl : (vs ++ dvs).length = ps.length := by rw [List.length_append, len _ _ _ _ hsp]; exact hn
  have r := r.append hd
  have hu : (us ++ ds).length = ps.length := by rw [← r.length]; exact hl
  have KX : K.In s.heap := e0.mod.kin.keeps fun b o e => (e0.bs b o e).1
  have lim : s.heap.NoLimit := e0.mod.nolimit.keeps fun b o e => (e0.bs b o e).1
  have bnd := hb s us KX hu
  have kinds : ∀ y ∈ ps.zip (us ++ ds), scope.names.lookup y.1 = some .local ∨ (scope.names.lookup y.1 = some .cell ∧ ((cellsFrom (s.heap.objs.size + 1) scope.names []).lookup y.1).isSome = true) := by
    intro y hy
    rcases sc.par y.1 (List.of_mem_zip (a := y.1) (b := y.2) hy).1 with q | q
    · exact .inl q
    · exact .inr ⟨q, PySem.W.cellsFrom_some _ _ _ (.inl q)⟩
  refine codeAny_call_function hr.depth (KX _ _ lk) rfl sc.co sc.gen rfl (PySem.W.codeRec_of KX hcd) (bnd _ _ _ _ ?_)
  refine wpAny_newFunctionEnv_cells sc.kind kinds fun env he s1 x => ?_
  subst he
  refine ⟨lim.keeps x.toInCall.keep, codeAny_func ?_⟩
  obtain ⟨t, ht, hq⟩ := hbody A outer s H vs Q E (hr.deeper _) hg hsp
  have I : Inv (cxOf (L2.CX P w) P w K mg base N qual scope f cdv A outer s H E) [] (start N (vs ++ dvs)) H s1 := inv_start sc hr.hd e0 hl r x
  refine wpAny_mono (ht.run [] s1 (start N (vs ++ dvs)) H _ I hq) (fun fl s' hs => ?_) fun _ _ z => z
  cases fl with
  | ret u =>
    obtain ⟨v, σ', H', J, rv, q⟩ := hs
    exact ⟨v, H', J.os, J.bare, J.base, J.hok, rv, q⟩
  | next =>
    obtain ⟨σ', H', J, q⟩ := hs
    exact ⟨.non, H', J.os, J.bare, J.base, J.hok, rfl, q⟩
  | brk => exact hs.elim fun _ z => z.elim fun _ z => z.2.elim
  | cont => exact hs.elim fun _ z => z.elim fun _ z => z.2.elim
/-- by its body -/
theorem FnG.of {name qual : Str} {params : Arguments} {body : List Stmt} {scope : Scope} {dV kV doc pm cdv ct oc : Value} {an od : Option Addr} {osl : Array (Option Value)} {N ps : List Str}
    (lk : K.lookup f = some ⟨oc, od, .func (PySem.W.fnOf name qual params body scope dV kV doc pm an cdv ct), osl⟩) (hcd : PySem.W.codeIn K cdv qual = true) (sc : FnScope N ps scope)
    (hb : Binds K (PySem.W.fnOf name qual params body scope dV kV doc pm an cdv ct) ps []) (len : ∀ vs H Q E, sp vs H Q E → vs.length = ps.length)
    (hbody : ∀ (A : Around) (outer : List Env) (s : Shared) (H : Hp) (vs : List V) (Q : VK) (E : XK), Room k (A.deeper (envOfC qual scope s.heap.objs.size f cdv)) → (A.deeper (envOfC qual scope s.heap.objs.size f cdv)).guards = some [] → sp vs H Q E →
      ∃ t, PSs (cxOf (L2.CX P w) P w K mg base N qual scope f cdv A outer s H E) body t ∧ t { nx := fun _ H' => Q .non H', rt := Q } (start N vs) H) :
    FnG P w K mg base (k + 1) f ps.length sp :=
  FnG.ofD lk hcd sc hb .nil (Nat.add_zero _) len fun A outer s H vs Q E hr hg hsp => by
    rw [List.append_nil]
    exact hbody A outer s H vs Q E hr hg hsp
end

/-- a class called with one keyword -/
def FnK (P : Program) (w : World) (K : PySem.W.Frag) (mg : Str → Option Value) (base : Heap) (k : Nat) (C : Addr) (kn : Str) (sp : Sp) : Prop :=
  ∀ (A : Around) (outer : List Env) (s : Shared) (H : Hp) (u : Value) (v : V) (Q : VK) (E : XK), Room k A → A.guards = some [] → Env0 P w K mg base A outer s H → RelV v u → sp [v] H Q E → codeAny (model P w) A (.call (.ref C) ⟨[], [(kn, u)]⟩) (CR (L2.CX P w) outer P w H s Q E) s
theorem FnK.mono {P : Program} {w : World} {K : PySem.W.Frag} {mg : Str → Option Value} {base : Heap} {k j : Nat} {C : Addr} {kn : Str} {sp : Sp} (F : FnK P w K mg base j C kn sp) (h : j ≤ k) : FnK P w K mg base k C kn sp := fun A outer s H u v Q E hr => F A outer s H u v Q E (hr.mono h)
theorem FnK.imp {P : Program} {w : World} {K : PySem.W.Frag} {mg : Str → Option Value} {base : Heap} {k : Nat} {C : Addr} {kn : Str} {sp sp' : Sp} (F : FnK P w K mg base k C kn sp) (h : ∀ vs H Q E, sp' vs H Q E → sp vs H Q E) : FnK P w K mg base k C kn sp' := fun A outer s H u v Q E hr hg e0 rv hs => F A outer s H u v Q E hr hg e0 rv (h _ _ _ _ hs)
section
variable {X : Cx} {k n : Nat} {f : Addr} {sp : Sp} {W : WX}
/-- f(kn=e) -/
theorem pe_callK {x kn : Str} {p pos kpos : Pos} {e : Expr} {te : TE} (F : FnK X.prog X.w X.K X.mg X.base k f kn sp) (hr : Room k X.A) (hgd : X.A.guards = some []) (tk : Takes X W) (hg : Gl X x) (hm : X.mg x = some (.ref f)) (hk : PySem.W.keepIn X.K (.ref f) = true)
    (he : PE X e te) (hdb : (x == ("__debug__" : Str)) = false) : PE X (.Call (.Name x p) [] [⟨some kn, e, kpos⟩] pos) (fun σ H Q => te σ H fun v H1 => sp [v] H1 Q (WE W σ)) := by
  refine ⟨fun pn s σ H Q I h => ?_⟩
  refine wpAny_Call_Name_kw (ld_glob I hg hm ?_ hdb)
  refine PySem.W.callWith_KW0 (h₀ := X.base) I.ok.mod.kin hk rfl ?_ rfl
  refine thn ((pk_cons he pk_nil).run pos pn s σ H (fun zs H2 => match zs with | [v] => sp [v] H2 Q (WE W σ) | _ => False) I ?_) fun ws s2 ⟨zs, H2, I2, rz, q2⟩ => ⟨I2.kIn, ?_⟩
  · exact h
  · cases rz with
    | nil => exact q2.elim
    | @cons v u vs us r rs =>
      cases rs with
      | cons _ _ => exact q2.elim
      | nil =>
        show wpAny _ _ (call (.ref f) [] [(kn, u)]) _ _ _
        refine wpAny_call (codeAny_mono (F X.A X.stack s2 H2 u v Q (WE W σ) hr hgd I2.env0 r q2) fun r s' hq => ?_)
        cases r with
        | error e => exact passAt tk σ pn H2 s2 e s' I2 hq
        | ok fl =>
          cases fl with
          | ret u => exact I2.after hq
          | next => exact hq.elim
          | brk => exact hq.elim
          | cont => exact hq.elim
end
section
variable {X : Cx} {k n : Nat} {f : Addr} {sp : Sp} {W : WX}
/-- the callee runs -/
theorem run_g {pins : List (Addr × Obj)} {σ : L2.St} {H : Hp} {s : Shared} {Q : VK} {us : List Value} {vs : List V} (F : FnG X.prog X.w X.K X.mg X.base k f n sp) (hr : Room k X.A) (hg : X.A.guards = some []) (tk : Takes X W)
    (I : Inv X pins σ H s) (r : Vals vs us) (h : sp vs H Q (WE W σ)) : wpAny (model X.prog X.w) X.A (call (.ref f) us) (EP X pins σ Q) X.xe s := by
  refine wpAny_call (codeAny_mono (F.run X.A X.stack s H us vs Q (WE W σ) hr hg I.env0 r h) fun r s' hq => ?_)
  cases r with
  | error e => exact passAt tk σ pins H s e s' I hq
  | ok fl =>
    cases fl with
    | ret u => exact I.after hq
    | next => exact hq.elim
    | brk => exact hq.elim
    | cont => exact hq.elim
def tCallG (sp : Sp) (W : WX) (t : TA) : TE := fun σ H Q => t σ H fun vs H1 => sp vs H1 Q (WE W σ)
/-- f(e, ..), f a def of the module -/
theorem pe_callG {x : Str} {p pos : Pos} {e : Expr} {es : List Expr} {t : TA} (F : FnG X.prog X.w X.K X.mg X.base k f n sp) (hr : Room k X.A) (hgd : X.A.guards = some []) (tk : Takes X W) (hg : Gl X x) (hm : X.mg x = some (.ref f)) (hk : PySem.W.keepIn X.K (.ref f) = true)
    (ha : PA X (e :: es) t) (hdb : (x == ("__debug__" : Str)) = false) (he : starEach (e :: es) X.env = (false, eval e X.env) :: starEach es X.env) (hpl : (backTo pos (starEach es X.env)).any (·.1) = false) :
    PE X (.Call (.Name x p) (e :: es) [] pos) (tCallG sp W t) := by
  refine ⟨fun pins s σ H Q I h => ?_⟩
  refine wpAny_Call_Name_kw (ld_glob I hg hm ?_ hdb)
  refine PySem.W.callWith_K (h₀ := X.base) I.ok.mod.kin hk (thn (ha.run pos pins s σ H _ I h) fun us s1 ⟨vs, H1, I1, r, q⟩ => ⟨I1.kIn, ?_⟩) he hpl
  exact run_g F hr hgd tk I1 r q
theorem pe_callG0 {x : Str} {p pos : Pos} (F : FnG X.prog X.w X.K X.mg X.base k f n sp) (hr : Room k X.A) (hgd : X.A.guards = some []) (tk : Takes X W) (hg : Gl X x) (hm : X.mg x = some (.ref f)) (hk : PySem.W.keepIn X.K (.ref f) = true)
    (hdb : (x == ("__debug__" : Str)) = false) : PE X (.Call (.Name x p) [] [] pos) (tCallG sp W tNil) := by
  refine ⟨fun pins s σ H Q I h => ?_⟩
  refine wpAny_Call_Name_kw (ld_glob I hg hm ?_ hdb)
  exact PySem.W.callWith_K0 I.kIn hk (run_g (us := []) F hr hgd tk I .nil h)
/-- o.m(e, ..): the class is known when it runs -/
def tMethG (X : Cx) (k : Nat) (m : Str) (W : WX) (ta : TE) (t : TA) : TE := fun σ H Q => ta σ H fun x H1 => ∃ a Ca dx fs f n sp, x = .ref a ∧ H1 a = some (.ins Ca dx fs) ∧ Cls X.K Ca ∧ Meth X.K Ca m f ∧ fs.lookup m = none ∧ FnG X.prog X.w X.K X.mg X.base k f n sp ∧
  t σ H1 fun vs H2 => sp (x :: vs) H2 Q (WE W σ)
theorem starEach_len {env : Env} : ∀ {es : List Expr}, (starEach es env).length = es.length
  | [] => rfl
  | e :: es => by
    have ih := starEach_len (env := env) (es := es)
    cases e <;> exact congrArg (· + 1) ih
theorem mth_eval {o : Expr} {m : Str} {apos pos : Pos} {args : List Expr} {env : Env} (hb : attributeBase o m env (eval o env) = eval o env) (hline : (apos.endLine == pos.line) = true) (hst : (backTo pos (starEach args env)).any (·.1) = false) (hn : args.length < 29) :
    eval (.Call (.Attribute o m apos) args [] pos) env = (do
      let ov ← eval o env
      standAt apos.atName
      let (f, first) ← holding [ov] (getMethod ov m (plainOf o env))
      callWith pos f first (backTo pos (starEach args env)) (backToKw pos (keywordEach [] env))) := by
  rw [arm_eval_Call, hb]
  congr 1
  funext ov
  congr 1
  funext _
  refine mcall_line ?_ hline
  have e1 : (backTo pos (starEach args env)).all (fun x => !x.1) = true := by
    rw [List.all_eq_true]
    intro x hx
    have := List.any_eq_false.mp hst x hx
    simpa using this
  unfold methodCallForm
  rw [e1]
  have : args.length < 30 := by omega
  simp [backToKw, keywordEach, this]
theorem pe_methG {o : Expr} {m : Str} {apos pos : Pos} {e : Expr} {es : List Expr} {ta : TE} {t : TA} (he : PE X o ta) (hr : Room k X.A) (hgd : X.A.guards = some []) (tk : Takes X W) (ha : PA X (e :: es) t) (hb : attributeBase o m X.env (eval o X.env) = eval o X.env) (hline : (apos.endLine == pos.line) = true)
    (hst : starEach (e :: es) X.env = (false, eval e X.env) :: starEach es X.env) (hpl : (backTo pos (starEach es X.env)).any (·.1) = false) (hn : (e :: es).length < 29) : PE X (.Call (.Attribute o m apos) (e :: es) [] pos) (tMethG X k m W ta t) := by
  refine ⟨fun pins s σ H Q I h => ?_⟩
  have hpl' : (backTo pos (starEach (e :: es) X.env)).any (·.1) = false := by
    rw [hst]
    show (false || (backTo pos (starEach es X.env)).any (·.1)) = false
    rw [hpl]; rfl
  refine PySem.W.methodCall_KW (pl := plainOf o X.env) (thn (he.run pins s σ H _ I h) fun u s1 ⟨x, H1, I1, rx, a, Ca, dx, fs, f, n, sp, ex, ea, c, hm, l, F, q⟩ => ?_) (mth_eval hb hline hpl' hn)
  subst ex
  obtain rfl : u = Value.ref a := rx
  refine getmeth_ok I1 ea c hm l ?_
  refine PySem.W.callWith_K (first := [.ref a]) (h₀ := X.base) I.ok.mod.kin hm.kp (thn (ha.run pos pins s1 σ H1 _ I1 q) fun us s2 ⟨vs, H2, I2, r, q2⟩ => ⟨I2.kIn, ?_⟩) hst hpl
  exact run_g (us := .ref a :: us) (vs := .ref a :: vs) F hr hgd tk I2 (.cons rfl r) q2
theorem pe_methG0 {o : Expr} {m : Str} {apos pos : Pos} {ta : TE} (he : PE X o ta) (hr : Room k X.A) (hgd : X.A.guards = some []) (tk : Takes X W) (hb : attributeBase o m X.env (eval o X.env) = eval o X.env) (hline : (apos.endLine == pos.line) = true) : PE X (.Call (.Attribute o m apos) [] [] pos) (tMethG X k m W ta tNil) := by
  refine ⟨fun pins s σ H Q I h => ?_⟩
  refine PySem.W.methodCall_KW (pl := plainOf o X.env) (thn (he.run pins s σ H _ I h) fun u s1 ⟨x, H1, I1, rx, a, Ca, dx, fs, f, n, sp, ex, ea, c, hm, l, F, q⟩ => ?_) (mth_eval hb hline rfl (by simp))
  subst ex
  obtain rfl : u = Value.ref a := rx
  refine getmeth_ok I1 ea c hm l ?_
  exact PySem.W.callWith_K0 (first := [.ref a]) I1.kIn hm.kp (run_g (us := [.ref a]) (vs := [.ref a]) F hr hgd tk I1 (.cons rfl .nil) q)
end
end RM
end
section
set_option Elab.async false
set_option linter.all false
set_option maxRecDepth 100000
set_option maxHeartbeats 1000000
set_option autoImplicit false
/-! enumerate over a tuple -/
namespace RM
open PySem PySem.Spec PyProof.Rows L2
open PySem.Sem (wp)
open AutoSeq1 (wpAny_loadPart')

theorem meets_enumerate_newT (l : Addr) (items : Array Value) (n : Nat) (dct : Option Addr) (sl : Array (Option Value)) :
    Meets (Builtin.«enumerate.__new__» ⟨[.type "enumerate", .ref l], []⟩) (fun _ R s => s.heap.get? l = some { cls := .type "tuple", dict := dct, data := .seq items n, slots := sl } ∧
      R (.ok (.ret (.ref (s.heap.push { cls := .type "tuple_iterator", data := .fields #[.ref l, .int 0 0] }).objs.size)))
        { s with heap := (s.heap.push { cls := .type "tuple_iterator", data := .fields #[.ref l, .int 0 0] }).push { cls := .type "enumerate", data := .fields #[.none, .bool false, .ref s.heap.objs.size, rawInt 0, .none, .none] } }) :=
  .of_wp fun prog w A R s h => by
    obtain ⟨hp, g, d, tk, os⟩ := s; obtain ⟨hl, h⟩ := h
    have hsub := sub_enumerate
    have hL : Heap.IsTuple (Shared.heap ⟨hp, g, d, tk, os⟩) l items := ⟨_, hl, rfl, n, rfl⟩
    wp_walk using wpAny_loadPart' hl
    refine wpAny_stack_any fun st => wpAny_pure ?_
    split
    · rename_i c _ _ _ _ _
      cases (c == Value.type "enumerate")
      · wp_walk using wpAny_loadPart' hl, wpAny_pyIter_tuple hL
        exact ⟨_, rfl, h⟩
      · wp_walk using wpAny_loadPart' hl, wpAny_pyIter_tuple hL
        exact ⟨_, rfl, h⟩
    · wp_walk using wpAny_loadPart' hl, wpAny_pyIter_tuple hL
      exact ⟨_, rfl, h⟩
section
variable {prog : Program} {w : World} {A : Around} {E : Value → Shared → Prop} {s : Shared}
theorem call_enumerate_tuple {l : Addr} {items : Array Value} {Q : Value → Shared → Prop} (hL : s.heap.IsTuple l items)
    (h : ∀ h', IsEnum h' (s.heap.objs.size + 1) s.heap.objs.size 0 .none → h'.IsTupleIter s.heap.objs.size l 0 → h'.objs.size = s.heap.objs.size + 2 →
      (∀ b o, s.heap.get? b = some o → h'.get? b = some o) → Q (.ref (s.heap.objs.size + 1)) { s with heap := h' }) :
    wpAny (model prog w) A (call (.type "enumerate") [.ref l]) Q E s := by
  obtain ⟨⟨c, dct, dt, sl⟩, hl, hc, n, hd⟩ := hL
  replace hc : c = .type "tuple" := hc
  replace hd : dt = .seq items n := hd
  subst hc hd
  refine callType_new F.called_enumerate (by decide) (F.typeCall_enumerate_1 _) (F.newCall_enumerate_1 _) (fun obj => F.args_object_init_2 obj _) F.entry_enumerate_new
    (meets_enumerate_newT l items n dct sl) ⟨hl, ?_⟩
  have hz : (s.heap.push { cls := .type "tuple_iterator", data := .fields #[.ref l, .int 0 0] }).objs.size = s.heap.objs.size + 1 := Heap.size_push ..
  show _ ∧ _
  rw [hz]
  have he : IsEnum ((s.heap.push { cls := .type "tuple_iterator", data := .fields #[.ref l, .int 0 0] }).push
      { cls := .type "enumerate", data := .fields #[.none, .bool false, .ref s.heap.objs.size, rawInt 0, .none, .none] }) (s.heap.objs.size + 1) s.heap.objs.size 0 .none := by
    have := Heap.get?_push_size (s.heap.push { cls := .type "tuple_iterator", data := .fields #[.ref l, .int 0 0] })
      (o := { cls := .type "enumerate", data := .fields #[.none, .bool false, .ref s.heap.objs.size, rawInt 0, .none, .none] }) rfl
    rw [hz] at this; exact this
  refine ⟨⟨_, he, rfl⟩, h _ he ⟨_, Heap.get?_push_of_some _ (Heap.get?_push_size _ rfl), rfl, rfl⟩ (by rw [Heap.size_push, hz]) fun b o x => Heap.get?_push_of_some _ (Heap.get?_push_of_some _ x)⟩
end
theorem draws_tuple {prog : Program} {w : World} {A : Around} (hh : A.handled = none) (it l : Addr) (hne : l ≠ it) (items : Array Value) :
    Draws prog w A it [it, l] items.size (fun i v => items[i]? = some v) (fun i h => h.IsTupleIter it l i ∧ h.IsTuple l items) where
  live := fun _ _ st => let ⟨o, ho, _⟩ := st.1; ⟨o, ho⟩
  frame := fun _ _ _ st hk => ⟨st.1.at fun o e => hk it (by simp) o e, let ⟨o, e, r⟩ := st.2; ⟨o, hk l (by simp) o e, r⟩⟩
  item := fun i s Q E hi st hQ => by
    refine RZ.nextOf_tuple_item st.1 st.2 (x := items[i]) (by simp [hi]) fun h' hit' hs' => ?_
    exact hQ _ h' s.toks (by simp [hi]) ⟨hit', let ⟨o, e, r⟩ := st.2; ⟨o, hs'.extBut l o hne e, r⟩⟩ hs'
  done := fun s Q E st hE => RZ.nextOf_tuple_end hh st.1 st.2 (by simp) hE
theorem pyNext_enumT_end {prog : Program} {w : World} {A : Around} {E : Value → Shared → Prop} {s : Shared} {e it l : Addr} {i : Nat} {items : Array Value} {old : Value} {Q : Option Value → Shared → Prop} (hh : A.handled = none)
    (he : IsEnum s.heap e it i old) (hit : s.heap.IsTupleIter it l i) (hl : s.heap.IsTuple l items) (hx : items[i]? = none)
    (hQ : ∀ h', Heap.ExtBut it s.heap h' → Q none { s with heap := h' }) : wpAny (model prog w) A (pyNext (.ref e)) Q E s := by
  have hT : s.TypeIs (.ref e) "enumerate" := ⟨_, he, rfl⟩
  unfold pyNext
  refine wpAny_bind (wpAny_attempt (wpAny_callSpecial?_slot (name := Str.ofString "__next__") hT F.slot_enumerate_next
    (wpAny_call_entry F.slot_enumerate_next hT F.entry_enumerate_next ?_ (F.args_enumerate_next_1 _))))
  show wpAny _ _ (field (.ref e) 2 >>= _) _ _ _
  refine wpAny_bind (wpAny_field he rfl (x := .ref it) rfl ?_)
  refine wpAny_bind (RZ.nextOf_tuple_end hh hit hl hx fun h' x he' hx' => ?_)
  obtain ⟨o, ho, hc⟩ := hx'
  refine wpAny_bind (wpAny_isInstance (T := "StopIteration") (b := true) ⟨o, ho, hc⟩ isSubtype_stop ?_)
  exact wpAny_pure (hQ _ he')
/-- the tuple at a, each item in a new pair -/
def IteT (K : PySem.W.Frag) (a : Addr) : It :=
  ⟨fun i H => ∃ (xs : List V) (x : V), SqT K H a xs ∧ xs[i]? = some x, fun i H v H' => ∃ T x, v = .ref T ∧ H T = none ∧ H' = upd H T (.tup [.int (i : Nat), x]) ∧ ∀ xs, SqT K H a xs → xs[i]? = some x, fun i H => ∃ xs : List V, SqT K H a xs ∧ xs.length ≤ i⟩
theorem turn_enumT {P : Program} {w : World} {K : PySem.W.Frag} {elts : List Expr} {kk : Nat} {tpos : Pos} (a e it : Addr) (hae : a ≠ e) (hai : a ≠ it) :
    Turn P w K (.Tuple elts kk tpos) (IteT K a) [e, it] e (fun i h => (∃ old, IsEnum h e it ((i : Nat) : Int) old) ∧ h.IsTupleIter it a i ∧ e ≠ it) where
  mem := by simp
  obj := fun i h st b hb => by
    obtain ⟨⟨old, he⟩, ⟨o, ho, hc, hd⟩, _⟩ := st
    have e' : b = e ∨ b = it := by simpa using hb
    rcases e' with z | z
    · rw [z]; exact ⟨_, he, fun v q => nomatch q⟩
    · rw [z]; exact ⟨o, ho, fun v q => by rw [hd] at q; cases q⟩
  keep := fun i h h' st k => let ⟨⟨old, he⟩, hi, hne⟩ := st; ⟨⟨old, k e (by simp) _ he⟩, hi.at fun o q => k it (by simp) o q, hne⟩
  item := by
    intro X hP hw hK hc i pins s σ H E I hf st hg
    subst hP hw hK
    obtain ⟨⟨old, he⟩, hit, hne⟩ := st
    obtain ⟨xs, x, hq, hx⟩ := hg
    obtain ⟨its, rv, p, hz⟩ := I.tuple hq
    obtain ⟨u, hu, ru⟩ := rv.get hx
    have hel : e < s.heap.objs.size := Heap.lt_size he
    have hil : it < s.heap.objs.size := by obtain ⟨_, q, _⟩ := hit; exact Heap.lt_size q
    have hlt : i < its.toArray.size := by
      have := (List.getElem?_eq_some_iff.mp hu).1
      simpa using this
    refine wpAny_pyNext_enum_itemD (draws_tuple (A := X.A.in1) (I.ok.hd hc) it a hai its.toArray) he ⟨hit, p⟩ hlt hne (by simp [hne, Ne.symm hae]) fun v h' tk hv ho hst hT hsz hk => ?_
    have ev : v = u := by
      have q : its.toArray[i]? = some u := by simpa using hu
      rw [q] at hv
      exact (Option.some.inj hv).symm
    subst ev
    obtain ⟨hit', _⟩ := hst
    refine ⟨_, rfl, wpAny_letOwnedTupleGo_enum (s := { s with heap := h', toks := tk + 1 }) ho fun h'' he' sb => ?_⟩
    have hT2 : h''.get? s.heap.objs.size = some { cls := .type "tuple", data := .seq #[.int i tk, v] } := (sb.2 _ (Nat.ne_of_gt hel)).trans hT
    have new : ObjOk X.prog X.w (upd H s.heap.objs.size (.tup [.int (i : Nat), x])) h'' s.heap.objs.size (.tup [.int (i : Nat), x]) :=
      ⟨by show 2 ≤ sizeLine; decide, [.int i tk, v], .cons ⟨_, rfl⟩ (.cons ru .nil), ⟨_, hT2, rfl, _, rfl⟩⟩
    have I1 : Inv X pins σ (upd H s.heap.objs.size (.tup [.int (i : Nat), x])) { s with heap := h'', toks := tk + 1 } :=
      I.turnedNew (ch := [e, it]) (fun b ob hb q => (sb.2 b (fun z => hb (by simp [z]))).trans (hk b ob (fun z => hb (by simp [z])) (fun z => hb (by simp [z])) q)) hf (Nat.le_refl _) new
    refine ⟨.ref s.heap.objs.size, _, I1, rfl, ⟨_, x, rfl, I.hok.fresh (Nat.le_refl _), rfl, fun ys hy => by rw [I.tuple_inj hy hq]; exact hx⟩, ⟨⟨v, ?_⟩, hit'.at fun o q => (sb.2 it (Ne.symm hne)).trans q, hne⟩, fun b hb => ?_⟩
    · have e1 : ((i + 1 : Nat) : Int) = (i : Int) + 1 := by omega
      rw [e1]; exact he'
    · have hb' : b < s.heap.objs.size := by
        have e' : b = e ∨ b = it := by simpa using hb
        rcases e' with z | z
        · rw [z]; exact hel
        · rw [z]; exact hil
      rw [upd_ne (Nat.ne_of_lt hb')]
      exact (hf b hb).1
  done := by
    intro X hP hw hK hc i pins s σ H E I hf st hg
    subst hP hw hK
    obtain ⟨⟨old, he⟩, hit, hne⟩ := st
    obtain ⟨xs, hq, hx⟩ := hg
    obtain ⟨its, rv, p, hz⟩ := I.tuple hq
    obtain ⟨f0, f1, f2, f3, f4, f5⟩ := hf it (by simp)
    have hl := rv.length
    exact pyNext_enumT_end (I.ok.hd hc) he hit p (by simp; omega) fun h' eb => ⟨rfl, I.turned (t' := s.toks) (fun b o hb q => eb b o hb q) f0 f1 f3 f4 f5⟩
  self := fun A i s Q E st h => let ⟨⟨_, he⟩, _⟩ := st; wpAny_pyIter_enum he h
def iEnumA (K : PySem.W.Frag) (ta : TA) : TI := fun σ H R => ta σ H fun vs H1 => ∃ a xs, vs = [.ref a] ∧ ((SqL K H1 a xs ∧ R (Ite K a) H1) ∨ (SqT K H1 a xs ∧ R (IteT K a) H1))
theorem pi_enumA {X : Cx} {e : Expr} {ta : TA} {p pos tpos : Pos} {elts : List Expr} {kk : Nat} (hg : Gl X "enumerate") (hm : X.mg "enumerate" = none) (ha : PA X [e] ta) (hs : starEach [e] X.env = [(false, eval e X.env)] := by rfl) :
    PI X (.Tuple elts kk tpos) (.Call (.Name "enumerate" p) [e] [] pos) (iEnumA X.K ta) := by
  refine ⟨fun pins s σ H R I h => ?_⟩
  refine Call_ (ld_blt I hg hm boot_enumerate (PyProof.Rows.callWith_type1 (thn (ha.run pos pins s σ H _ I h) fun us s1 ⟨vs, H1, I1, r1, q1⟩ => ?_) hs rfl))
  obtain ⟨a, xs, ex, q⟩ := q1
  subst ex
  cases r1 with
  | cons r rr =>
    cases rr
    cases r
    have fresh2 : ∀ b, b ∈ [s1.heap.objs.size + 1, s1.heap.objs.size] → FpOk X pins H1 b := fun b hb => by
      have e' : b = s1.heap.objs.size + 1 ∨ b = s1.heap.objs.size := by simpa using hb
      have hle : s1.heap.objs.size ≤ b := by
        rcases e' with z | z
        · rw [z]; exact Nat.le_add_right _ _
        · rw [z]; exact Nat.le_refl _
      exact I1.fpOk hle (I1.hok.fresh hle)
    rcases q with ⟨hq, q⟩ | ⟨hq, q⟩
    · obtain ⟨its, rv, p', hz⟩ := I1.list hq
      refine call_enumerate_list p'.isList fun h' he hit hsz hk => wpAny_pyIter_enum he ?_
      have I2 : Inv X pins σ H1 { s1 with heap := h' } := I1.kept (t' := s1.toks) hk
      exact ⟨s1.heap.objs.size + 1, [s1.heap.objs.size + 1, s1.heap.objs.size], _, _, H1, rfl, I2, turn_enum a (s1.heap.objs.size + 1) s1.heap.objs.size, ⟨⟨.none, he⟩, hit, Nat.succ_ne_self _⟩, fresh2, q⟩
    · obtain ⟨its, rv, p', hz⟩ := I1.tuple hq
      have hal : a < s1.heap.objs.size := by obtain ⟨_, q, _⟩ := p'; exact Heap.lt_size q
      refine call_enumerate_tuple p' fun h' he hit hsz hk => wpAny_pyIter_enum he ?_
      have I2 : Inv X pins σ H1 { s1 with heap := h' } := I1.kept (t' := s1.toks) hk
      exact ⟨s1.heap.objs.size + 1, [s1.heap.objs.size + 1, s1.heap.objs.size], _, _, H1, rfl, I2, turn_enumT a (s1.heap.objs.size + 1) s1.heap.objs.size (Nat.ne_of_lt (Nat.lt_succ_of_lt hal)) (Nat.ne_of_lt hal), ⟨⟨.none, he⟩, hit, Nat.succ_ne_self _⟩, fresh2, q⟩
end RM
end
section
set_option Elab.async false
set_option linter.all false
set_option maxRecDepth 100000
set_option autoImplicit false
/-! what loops and comprehensions walk -/
namespace RM
open PySem PySem.Spec PyProof.Rows L2

/-- J yields these data as long as Kr holds -/
structure YOk (Y : Tx) (Kr : Gh → Hp → Prop) (J : It) (xs : List D) : Prop where
  go : ∀ (i : Nat) (G : Gh) (H : Hp) (S : Sto), i < xs.length → Kr G H → GOk Y G H S → J.go i H ∧ ∀ x H', J.yld i H x H' → ∃ d, xs[i]? = some d ∧ Ext G H G H' ∧ GOk Y G H' S ∧ RD Y G H' x d
  stop : ∀ (i : Nat) (G : Gh) (H : Hp) (S : Sto), xs.length ≤ i → Kr G H → GOk Y G H S → J.stop i H

section
variable {Y : Tx} {Kr Kr' : Gh → Hp → Prop} {G1 : Gh} {H1 : Hp} {S1 : Sto} {xs ys : List D} {vs ws : List V} {a b : Addr}
theorem YOk.imp {J : It} (y : YOk Y Kr J xs) (h : ∀ G H, Kr' G H → Kr G H) : YOk Y Kr' J xs := ⟨fun i G H S hi k ok => y.go i G H S hi (h G H k) ok, fun i G H S hi k ok => y.stop i G H S hi (h G H k) ok⟩
theorem YOk.lst (h1 : ∀ G H, Kr G H → SqL Y.K H a vs) (h2 : ∀ G H, Kr G H → RDs Y G H vs xs) : YOk Y Kr (Itl Y.K a) xs where
  go := fun i G H S hi k ok => by
    have r := h2 G H k
    have hv : i < vs.length := by rw [r.length]; exact hi
    refine ⟨⟨vs, vs[i], h1 G H k, by simp [hv]⟩, fun x H' ⟨e, y⟩ => ?_⟩
    subst e
    obtain ⟨d, hd, rd⟩ := r.get (y vs (h1 G _ k))
    exact ⟨d, hd, Ext.refl, ok, rd⟩
  stop := fun i G H S hi k ok => ⟨vs, h1 G H k, by rw [(h2 G H k).length]; exact hi⟩
theorem YOk.tup (h1 : ∀ G H, Kr G H → SqT Y.K H a vs) (h2 : ∀ G H, Kr G H → RDs Y G H vs xs) : YOk Y Kr (Itt Y.K a) xs where
  go := fun i G H S hi k ok => by
    have r := h2 G H k
    have hv : i < vs.length := by rw [r.length]; exact hi
    refine ⟨⟨vs, vs[i], h1 G H k, by simp [hv]⟩, fun x H' ⟨e, y⟩ => ?_⟩
    subst e
    obtain ⟨d, hd, rd⟩ := r.get (y vs (h1 G _ k))
    exact ⟨d, hd, Ext.refl, ok, rd⟩
  stop := fun i G H S hi k ok => ⟨vs, h1 G H k, by rw [(h2 G H k).length]; exact hi⟩
theorem rngD_length (lo : Int) (n : Nat) : (rngD lo n).length = n := by simp [rngD]
theorem YOk.rng (lo : Int) (n : Nat) : YOk Y Kr (Itr lo n) (rngD lo n) where
  go := fun i G H S hi k ok => by
    rw [rngD_length] at hi
    refine ⟨hi, fun x H' ⟨e, y⟩ => ?_⟩
    subst e y
    exact ⟨.int (lo + (i : Int)), by simp [rngD, hi], Ext.refl, ok, .int _⟩
  stop := fun i G H S hi k ok => by rw [rngD_length] at hi; exact hi
theorem signsD_length (z : Str) : (signsD z).length = z.length := by simp [signsD, Str.length]
theorem YOk.str (z : Str) : YOk Y Kr (Its z) (signsD z) where
  go := fun i G H S hi k ok => by
    rw [signsD_length] at hi
    refine ⟨hi, fun x H' ⟨e, c, hc, y⟩ => ?_⟩
    subst e y
    refine ⟨.str ⟨#[c]⟩, ?_, Ext.refl, ok, .str _⟩
    have : z.cps.toList[i]? = some c := by simpa using hc
    simp [signsD, this]
  stop := fun i G H S hi k ok => by rw [signsD_length] at hi; exact hi
/-- a new pair -/
theorem new_pair {G : Gh} {H : Hp} {S : Sto} {T : Addr} {v w : V} {d e : D} (ok : GOk Y G H S) (hT : H T = none) (r1 : RD Y G H v d) (r2 : RD Y G H w e) :
    Ext G H G (upd H T (.tup [v, w])) ∧ GOk Y G (upd H T (.tup [v, w])) S ∧ RD Y G (upd H T (.tup [v, w])) (.ref T) (.tup [d, e]) := by
  have x : Ext G H G (upd H T (.tup [v, w])) := Ext.new ok hT
  exact ⟨x, ok.new hT, .tup (.of upd_same) (.cons (r1.ext x ok) (.cons (r2.ext x ok) .nil))⟩
theorem enumD_length (xs : List D) : (enumD xs).length = xs.length := by simp [enumD]
theorem enumD_get {i : Nat} {d : D} (h : xs[i]? = some d) : (enumD xs)[i]? = some (.tup [.int (i : Nat), d]) := by simp [enumD, h]
theorem YOk.enumL (h1 : ∀ G H, Kr G H → SqL Y.K H a vs) (h2 : ∀ G H, Kr G H → RDs Y G H vs xs) : YOk Y Kr (Ite Y.K a) (enumD xs) where
  go := fun i G H S hi k ok => by
    have r := h2 G H k
    rw [enumD_length] at hi
    have hv : i < vs.length := by rw [r.length]; exact hi
    refine ⟨⟨vs, vs[i], h1 G H k, by simp [hv]⟩, fun x H' ⟨T, u, e1, hT, e2, y⟩ => ?_⟩
    subst e1 e2
    obtain ⟨d, hd, rd⟩ := r.get (y vs (h1 G _ k))
    obtain ⟨q1, q2, q3⟩ := new_pair ok hT (.int ((i : Nat) : Int)) rd
    exact ⟨_, enumD_get hd, q1, q2, q3⟩
  stop := fun i G H S hi k ok => ⟨vs, h1 G H k, by rw [(h2 G H k).length]; rw [enumD_length] at hi; exact hi⟩
theorem YOk.enumT (h1 : ∀ G H, Kr G H → SqT Y.K H a vs) (h2 : ∀ G H, Kr G H → RDs Y G H vs xs) : YOk Y Kr (IteT Y.K a) (enumD xs) where
  go := fun i G H S hi k ok => by
    have r := h2 G H k
    rw [enumD_length] at hi
    have hv : i < vs.length := by rw [r.length]; exact hi
    refine ⟨⟨vs, vs[i], h1 G H k, by simp [hv]⟩, fun x H' ⟨T, u, e1, hT, e2, y⟩ => ?_⟩
    subst e1 e2
    obtain ⟨d, hd, rd⟩ := r.get (y vs (h1 G _ k))
    obtain ⟨q1, q2, q3⟩ := new_pair ok hT (.int ((i : Nat) : Int)) rd
    exact ⟨_, enumD_get hd, q1, q2, q3⟩
  stop := fun i G H S hi k ok => ⟨vs, h1 G H k, by rw [(h2 G H k).length]; rw [enumD_length] at hi; exact hi⟩
theorem zipD_length (xs ys : List D) : (zipD xs ys).length = min xs.length ys.length := by simp [zipD]
theorem zipD_get {i : Nat} {d e : D} (h : xs[i]? = some d) (h' : ys[i]? = some e) : (zipD xs ys)[i]? = some (.tup [d, e]) := by
  have q : (xs.zip ys)[i]? = some (d, e) := List.getElem?_zip_eq_some.mpr ⟨h, h'⟩
  simp [zipD, q]
theorem YOk.zipL (h1 : ∀ G H, Kr G H → SqL Y.K H a vs) (h2 : ∀ G H, Kr G H → RDs Y G H vs xs) (h3 : ∀ G H, Kr G H → SqL Y.K H b ws) (h4 : ∀ G H, Kr G H → RDs Y G H ws ys) : YOk Y Kr (Itz Y.K a b) (zipD xs ys) where
  go := fun i G H S hi k ok => by
    have r := h2 G H k
    have r' := h4 G H k
    rw [zipD_length] at hi
    have hv : i < vs.length := by rw [r.length]; omega
    have hw : i < ws.length := by rw [r'.length]; omega
    refine ⟨⟨vs, ws, vs[i], ws[i], h1 G H k, h3 G H k, by simp [hv], by simp [hw]⟩, fun x H' ⟨T, u, u', e1, hT, e2, y, y'⟩ => ?_⟩
    subst e1 e2
    obtain ⟨d, hd, rd⟩ := r.get (y vs (h1 G _ k))
    obtain ⟨d', hd', rd'⟩ := r'.get (y' ws (h3 G _ k))
    obtain ⟨q1, q2, q3⟩ := new_pair ok hT rd rd'
    exact ⟨_, zipD_get hd hd', q1, q2, q3⟩
  stop := fun i G H S hi k ok => ⟨vs, ws, h1 G H k, h3 G H k, by rw [(h2 G H k).length, (h4 G H k).length]; rw [zipD_length] at hi; omega⟩
theorem YOk.zipT (h1 : ∀ G H, Kr G H → SqT Y.K H a vs) (h2 : ∀ G H, Kr G H → RDs Y G H vs xs) (h3 : ∀ G H, Kr G H → SqT Y.K H b ws) (h4 : ∀ G H, Kr G H → RDs Y G H ws ys) : YOk Y Kr (RZ.ItzT Y.K a b) (zipD xs ys) where
  go := fun i G H S hi k ok => by
    have r := h2 G H k
    have r' := h4 G H k
    rw [zipD_length] at hi
    have hv : i < vs.length := by rw [r.length]; omega
    have hw : i < ws.length := by rw [r'.length]; omega
    refine ⟨⟨vs, ws, vs[i], ws[i], h1 G H k, h3 G H k, by simp [hv], by simp [hw]⟩, fun x H' ⟨T, u, u', e1, hT, e2, y, y'⟩ => ?_⟩
    subst e1 e2
    obtain ⟨d, hd, rd⟩ := r.get (y vs (h1 G _ k))
    obtain ⟨d', hd', rd'⟩ := r'.get (y' ws (h3 G _ k))
    obtain ⟨q1, q2, q3⟩ := new_pair ok hT rd rd'
    exact ⟨_, zipD_get hd hd', q1, q2, q3⟩
  stop := fun i G H S hi k ok => ⟨vs, ws, h1 G H k, h3 G H k, by rw [(h2 G H k).length, (h4 G H k).length]; rw [zipD_length] at hi; omega⟩
end

/-- what is walked: by comprehensions (nothing of one's own changes), by loops (lists of one's own may) -/
def Kk (look : Bool) (Y : Tx) (G1 : Gh) (H1 : Hp) (G : Gh) (H : Hp) : Prop := if look = true then Ext G1 H1 G H else Kp G1 H1 G H
/-- a source by what it yields -/
def tI (Y : Tx) (W : WX) (look : Bool) (m : Fe → M (List D)) : TI := fun σ H R => ∃ H0 G ρ S, GOk Y G H S ∧ SR Y H0 G H σ ρ ∧ wpM (m ρ) S (fun xs S' => ∀ G' H' J, Ext G H G' H' → GOk Y G' H' S' → YOk Y (Kk look Y G' H') J xs → R J H') (RE Y G H σ W)
theorem _root_.L2.PI.imp {X : Cx} {tg e : Expr} {t t' : TI} (h : PI X tg e t) (hi : ∀ σ H R, t' σ H R → t σ H R) : PI X tg e t' := ⟨fun pins s σ H R I w => h.run pins s σ H R I (hi σ H R w)⟩

section
variable {Y : Tx} {G1 : Gh} {H1 : Hp} {S1 : Sto} {look : Bool}
theorem Kk.kp {G : Gh} {H : Hp} (ok : GOk Y G1 H1 S1) (k : Kk look Y G1 H1 G H) : Kp G1 H1 G H := by
  unfold Kk at k
  split at k
  · exact k.kp ok
  · exact k
/-- a tuple -/
def D.isTup : D → Bool
  | .tup _ => true
  | _ => false
/-- what a look shows, kept -/
theorem Kk.seq {v : V} {d : D} {xs : List D} (ok : GOk Y G1 H1 S1) (r : if look = true then RV Y G1 H1 v d else RD Y G1 H1 v d) (e : itemsD d = some xs) :
    ∃ a vs, v = .ref a ∧ ((d.isTup = false ∧ SqL Y.K H1 a vs ∧ ∀ G H, Kk look Y G1 H1 G H → SqL Y.K H a vs) ∨ (d.isTup = true ∧ SqT Y.K H1 a vs ∧ ∀ G H, Kk look Y G1 H1 G H → SqT Y.K H a vs)) ∧ ∀ G H, Kk look Y G1 H1 G H → RDs Y G H vs xs := by
  have rr : RD Y G1 H1 v d ∨ (look = true ∧ ∃ a vs ds, v = .ref a ∧ d = .lst ds ∧ H1 a = some (.lst vs) ∧ ¬ G1.Mu a ∧ RDs Y G1 H1 vs ds) := by
    cases look with
    | true => exact r.imp id fun z => ⟨rfl, z⟩
    | false => exact .inl r
  rcases rr with r | ⟨rfl, a, vs, ds, rfl, rfl, h, m, r⟩
  · cases r with
    | tup h r' =>
      cases e
      exact ⟨_, _, rfl, .inr ⟨rfl, h, fun G H k => (k.kp ok).sqT h⟩, fun G H k => RDs.mono (k.kp ok) r'⟩
    | lst h f r' =>
      cases e
      exact ⟨_, _, rfl, .inl ⟨rfl, .of h, fun G H k => .of ((k.kp ok).keep _ _ h (.inr f))⟩, fun G H k => RDs.mono (k.kp ok) r'⟩
    | scr h =>
      cases e
      exact ⟨_, _, rfl, .inl ⟨rfl, h.seq, fun G H k => ((k.kp ok).scr h).seq⟩, fun G H k => rds_ints _⟩
    | _ => cases e
  · cases e
    refine ⟨a, vs, rfl, .inl ⟨rfl, .of h, fun G H k => ?_⟩, fun G H k => r.mono (k.kp ok)⟩
    have k' : Ext G1 H1 G H := k
    exact .of (k'.keep a _ h m)
end
end RM
end
section
set_option Elab.async false
set_option linter.all false
set_option maxRecDepth 100000
set_option autoImplicit false
/-! a lambda, with a default or none, handed to a def: its making, its run -/
namespace RM
open PySem PySem.Spec PyProof.Rows L2 LamX

abbrev klFn (q : Str) (params : Arguments) (body : Expr) (scope : Scope) (dV : Value) (cl : List (Str × Addr)) (pm cdv ct : Value) : FuncData :=
  { name := "<lambda>", qualname := q, params, body := .expr body, scope, globals := mainGlobals, closure := cl, defaults := dV, kwdefaults := .none, doc := .none, pyModule := pm, annotations := none, code := cdv, closureTuple := ct, builtins := builtinsNs }
abbrev klObj (q : Str) (params : Arguments) (body : Expr) (scope : Scope) (dV : Value) (cl : List (Str × Addr)) (pm : Value) (cdv ct : Value) : Obj :=
  { cls := .type "function", data := .func (klFn q params body scope dV cl pm cdv ct) }

section
variable {M : Model} {A : Around} {E : Value → Shared → Prop} {s : Shared} {q : Str} {params : Arguments} {body : Expr} {scope : Scope} {env : Env} {c P : Addr} {ps : Array Value} {pos : Pos} {mg : Str → Option Value} {clos : List (Str × Addr)} {Q : Value → Shared → Prop} {dV : Value}
open PySem.W in
theorem kl_tail (hcl : closureFor scope env = pure clos) (hge0 : env.globals = mainGlobals) (hg : s.heap.Ns mainGlobals mg) (hcode : env.code = .ref c) (C : CodeHd s.heap c P) (hP : s.heap.get? P = some (tabObj ps)) (ht : TriplesOk ps.toList)
    (hgP : mainGlobals ≠ P) (hb : s.heap.BuiltinsAt mg P)
    (h1 : ∀ cv, codeAmong pos ps.toList = some cv → ∀ (ctv : Value) (h' : Heap) (tk : Tok), (∀ b o, s.heap.get? b = some o → h'.get? b = some o) → s.heap.objs.size ≤ h'.objs.size →
      Q (.ref h'.objs.size) { s with heap := h'.push (klObj q params body scope dV clos ((mg "__name__").getD .none) cv ctv), toks := tk })
    (h2 : codeAmong pos ps.toList = none → ∀ (c' : Addr) (ctv : Value) (h' : Heap) (tk : Tok), Heap.ExtBut P s.heap h' → s.heap.objs.size ≤ c' → c' < h'.objs.size → h'.CodeRec (.ref c') q → h'.get? P = some (tabObj (ps ++ #[rawInt pos.line, rawInt pos.col, .ref c'])) →
      Q (.ref h'.objs.size) { s with heap := h'.push (klObj q params body scope dV clos ((mg "__name__").getD .none) (.ref c') ctv), toks := tk }) :
    wpAny M A (makeTail "<lambda>" q params (.expr body) scope env dV .none none pos pos.line) Q E s := by
  obtain ⟨bm, ob, hbm, hne0, _, hneP, hbo, hcls, hdict, hdata⟩ := hb
  -- behind the closure's tuple: the heap has grown
  have core : ∀ (ctv : Value) (h0 : Heap) (t0 : Tok), (∀ b o, s.heap.get? b = some o → h0.get? b = some o) → s.heap.objs.size ≤ h0.objs.size → h0.Ns mainGlobals mg →
      wpAny M A (do
        let code ← functionCode env pos pos.line "<lambda>" q params scope (.expr body)
        let bt ← builtinsFor env.globals env.builtins
        let pm ← nsGet env.globals "__name__"
        let doc ← (pure .none : Sem Value)
        newObj (.type "function") (.func { name := "<lambda>", qualname := q, params, body := .expr body, scope, globals := env.globals, closure := clos, closureTuple := ctv, code := code, builtins := bt, defaults := dV, kwdefaults := .none, annotations := none, pyModule := pm.getD .none, doc := doc })) Q E { s with heap := h0, toks := t0 } := by
    intro ctv h0 t0 k0 z0 g0
    have C0 := C.keeps k0
    have P0 := k0 _ _ hP
    cases e : codeAmong pos ps.toList with
    | some cv =>
      refine wpAny_bind (wpAny_functionCode_hit hcode (C0.code P0 ht) e ?_)
      rw [hge0]
      refine wpAny_bind (wpAny_builtinsFor g0 hbm hne0 (k0 _ _ hbo) hcls hdict hdata ?_)
      refine wpAny_bind (wpAny_nsGet g0 ?_)
      exact wpAny_bind (wpAny_pure (wpAny_newObj_type (h1 cv e ctv h0 _ k0 z0) (by size_fits)))
    | none =>
      refine wpAny_bind (wpAny_functionCodeX hcode (C0.code P0 ht) (C0.tab P0) e fun c' h' tk hx hge hlt _ hrec htb _ => ?_)
      have hg' := g0.extBut hx hgP
      have hx' : Heap.ExtBut P s.heap h' := fun b o hb' e => hx b o hb' (k0 _ _ e)
      rw [hge0]
      refine wpAny_bind (wpAny_builtinsFor hg' hbm hne0 (hx' _ _ hneP hbo) hcls hdict hdata ?_)
      refine wpAny_bind (wpAny_nsGet hg' ?_)
      exact wpAny_bind (wpAny_pure (wpAny_newObj_type (h2 e c' ctv h' tk hx' (Nat.le_trans z0 hge) hlt hrec htb.2) (by size_fits)))
  unfold makeTail
  rw [hcl]
  refine wpAny_bind (wpAny_pure ?_)
  cases clos with
  | nil =>
    simp only [List.isEmpty_nil, if_true]
    exact wpAny_bind (wpAny_pure (core .none s.heap s.toks (fun _ _ e => e) (Nat.le_refl _) hg))
  | cons p r =>
    simp only [List.isEmpty_cons, Bool.false_eq_true, if_false]
    exact wpAny_bind (wpAny_newTextTuple (core _ _ s.toks (fun b o e => Heap.get?_push_of_some _ e) (by rw [Heap.size_push]; omega) (hg.push _)))
end

/-- the lambda's parameters: none, or one with a whole number as its default -/
inductive LamPar : Arguments → Option (Str × Int) → Prop
  | zero : LamPar ⟨[], [], none, [], [], none, []⟩ none
  | one (x : Str) (an : Option Expr) (p : Pos) (i : Int) (j : Nat) (r : Pos) : LamPar ⟨[], [⟨x, an, p⟩], none, [], [], none, [.Constant (.int i) j r]⟩ (some (x, i))
def lamPar : Arguments → Option (Option (Str × Int))
  | ⟨[], [], none, [], [], none, []⟩ => some none
  | ⟨[], [⟨x, _, _⟩], none, [], [], none, [.Constant (.int i) _ _]⟩ => some (some (x, i))
  | _ => none
theorem lamPar_ok {a : Arguments} {d : Option (Str × Int)} (h : lamPar a = some d) : LamPar a d := by
  unfold lamPar at h
  split at h
  · cases h; exact .zero
  · cases h; exact .one ..
  · cases h
/-- the default as it stands -/
inductive DfAt (h : Heap) (H : Hp) (fs : List Addr) : Value → Option (Str × Int) → Prop
  | no : DfAt h H fs .none none
  | yes {T : Addr} {u : Value} {x : Str} {i : Int} : h.get? T = some { cls := .type "tuple", data := .seq #[u] } → RelV (.int i) u → H T = none → T ∉ fs → DfAt h H fs (.ref T) (some (x, i))
theorem DfAt.un {fs : List Addr} {h h' : Heap} {H H' : Hp} {dV : Value} {d : Option (Str × Int)} (z : DfAt h H fs dV d) (u : Un fs [] H H' h h') : DfAt h' H' fs dV d := by
  cases z with
  | no => exact .no
  | yes a b c n => exact .yes (u.keep _ _ a c n (by simp)) b (u.free _ _ a c (by simp)) n
/-- what the call binds -/
theorem lam_bind {M : Model} {A : Around} {E : Value → Shared → Prop} {s : Shared} {Q : List (Str × Value) → Shared → Prop} {q : Str} {params : Arguments} {body : Expr} {scope : Scope} {cl : List (Str × Addr)} {pm cdv ct dV : Value} {d : Option (Str × Int)} {H : Hp} {fs : List Addr}
    (L : LamPar params d) (D : DfAt s.heap H fs dV d) (h : ∀ bs : List (Str × Value), bs.length ≤ 1 → (∀ b ∈ bs, d.map (·.1) = some b.1) → Q bs s) : wpAny M A (bindArgs (klFn q params body scope dV cl pm cdv ct) ⟨[], []⟩) Q E s := by
  cases L with
  | zero =>
    cases D
    exact wpAny_pure (h [] (by simp) (by simp))
  | one x an p i j r =>
    cases D with
    | yes a b c n =>
      rename_i T u
      have e : ∃ k, bindArgs (klFn q ⟨[], [⟨x, an, p⟩], none, [], [], none, [.Constant (.int i) j r]⟩ body scope (.ref T) cl pm cdv ct) ⟨[], []⟩ = seqItems? (.ref T) >>= k ∧ k (some #[u]) = pure [(x, u)] := by
        refine ⟨_, rfl, ?_⟩
        simp [List.lookup]
      obtain ⟨k, e1, e2⟩ := e
      rw [e1]
      refine wpAny_bind (wpAny_seqItems a rfl ?_)
      rw [e2]
      exact wpAny_pure (h [(x, u)] (by simp) (by simp))

/-- what the making does to the abstract heap -/
def MadeH (H : Hp) (P c' : Addr) (q : Str) (H1 : Hp) : Prop := H1 = H ∨ ∃ ps more : Array Value, H P = some (.tbl ps) ∧ H c' = none ∧ TabS H1 P q ∧ H1 = upd (upd H P (.tbl (ps ++ more))) c' (CodeO c' q)
section
variable {X : Cx} {pins : List (Addr × Obj)} {σ : L2.St} {H : Hp} {s : Shared}
theorem nofr_new (I : Inv X pins σ H s) {f : Addr} (hf : s.heap.objs.size ≤ f) : f ∉ frs X.stack := fun z => by
  rcases List.mem_cons.mp (I.stkSub _ z) with e | e
  · have h1 := I.lt
    rw [← e] at h1
    exact Nat.lt_irrefl _ (Nat.lt_of_lt_of_le h1 hf)
  · exact I.nofs hf e
open PySem.W in
/-- behind the defaults -/
theorem lam_make0 {params : Arguments} {body : Expr} {scope : Scope} {pos : Pos} {d : Option (Str × Int)} {dV : Value} {c P : Addr} {E Q : Value → Shared → Prop} (I : Inv X pins σ H s) (TB : TabB X.base X.mg c P) (hcode : X.env.code = .ref c)
    (hT : TabS H P (X.env.qual ++ "<lambda>")) (D : DfAt s.heap H (frs X.stack) dV d) (hfree : ∀ y ∈ scope.names, y.2 = .free → ∃ c, X.env.cells.lookup y.1 = some c)
    (h : ∀ (f c' : Addr) (pm ctv : Value) (H1 : Hp) (s' : Shared), Inv X pins σ H1 s' → MadeH H P c' (X.env.qual ++ "<lambda>") H1 →
      s'.heap.get? f = some (klObj (X.env.qual ++ "<lambda>") params body scope dV (cloFrom X.env.cells scope.names []) pm (.ref c') ctv) → H1 f = none → f ∉ frs X.stack → H1 c' = some (CodeO c' (X.env.qual ++ "<lambda>")) → DfAt s'.heap H1 (frs X.stack) dV d → Q (.ref f) s') :
    wpAny (model X.prog X.w) X.A (makeTail "<lambda>" (X.env.qual ++ "<lambda>") params (.expr body) scope X.env dV .none none pos pos.line) Q E s := by
  obtain ⟨ps, hP, ht, ha⟩ := hT
  have hP' : s.heap.get? P = some { cls := .none, data := .fields ps } := I.hok P _ hP
  have bP : s.heap.BuiltinsAt X.mg P := TB.bm.keeps I.bk
  have bo : ∀ (q : Str) (ps more : Array Value) (t : Value), CodeO P q ≠ .tbl ps := fun q ps more t => codeO_ne ps
  refine kl_tail (mg := X.mg) (closure_ok hfree) I.ok.glob (I.mod.glob.keeps I.bk) hcode (TB.code.keeps I.bk) hP' ht TB.gP bP (fun cv e ctv h' tk hx hsz => ?_) fun e c' ctv h' tk hx hge hlt hrec htb => ?_
  · obtain ⟨c', rfl, hco⟩ := ha pos cv e
    have k1 : ∀ b o, s.heap.get? b = some o → (h'.push (klObj (X.env.qual ++ "<lambda>") params body scope dV (cloFrom X.env.cells scope.names []) ((X.mg "__name__").getD .none) (.ref c') ctv)).get? b = some o := fun b o e => Heap.get?_push_of_some _ (hx b o e)
    exact h h'.objs.size c' _ ctv H _ (I.kept k1) (.inl rfl) (Heap.get?_push_size _ rfl) (I.hok.fresh hsz) (nofr_new I hsz) hco (D.un (Un.kept k1))
  · obtain ⟨c2, oc, vs, t, e2, hoc, hd, hv⟩ := hrec
    cases e2
    have hsz : s.heap.objs.size ≤ h'.objs.size := Nat.le_trans hge (Nat.le_of_lt hlt)
    have nC : H c' = none := I.hok.fresh hge
    have I1 := inv_table (t' := tk) (more := #[rawInt pos.line, rawInt pos.col, .ref c']) (h' := h'.push (klObj (X.env.qual ++ "<lambda>") params body scope dV (cloFrom X.env.cells scope.names []) ((X.mg "__name__").getD .none) (.ref c') ctv)) I hP
      (fun b o hb e => Heap.get?_push_of_some _ (hx b o hb e)) (Heap.get?_push_of_some _ htb) hge ⟨oc, vs, t, Heap.get?_push_of_some _ hoc, hd, hv⟩
    have nPc : P ≠ c' := ne_of_none hP nC
    have eL : (ps ++ #[rawInt pos.line, rawInt pos.col, .ref c']).toList = ps.toList ++ [rawInt pos.line, rawInt pos.col, .ref c'] := by simp
    have T1 : TabS (upd (upd H P (.tbl (ps ++ #[rawInt pos.line, rawInt pos.col, .ref c']))) c' (CodeO c' (X.env.qual ++ "<lambda>"))) P (X.env.qual ++ "<lambda>") := by
      refine ⟨_, by rw [upd_ne nPc, upd_same], by rw [eL]; exact PySem.TriplesOk_snoc _ _ _ _ ht, fun p' cv hcv => ?_⟩
      rw [eL] at hcv
      rcases among_app _ ht hcv with z | z
      · obtain ⟨c0, e1, e2⟩ := ha p' cv z
        refine ⟨c0, e1, ?_⟩
        rw [upd_ne (ne_of_none e2 nC), upd_ne fun z => codeO_ne ps (Option.some.inj (e2.symm.trans (by rw [z]; exact hP)))]
        exact e2
      · exact ⟨c', z, upd_same⟩
    have Hf : upd (upd H P (.tbl (ps ++ #[rawInt pos.line, rawInt pos.col, .ref c']))) c' (CodeO c' (X.env.qual ++ "<lambda>")) h'.objs.size = none := by
      have n1 : h'.objs.size ≠ c' := Nat.ne_of_gt hlt
      have n2 : h'.objs.size ≠ P := Nat.ne_of_gt (Nat.lt_of_lt_of_le (Heap.lt_size hP') hsz)
      rw [upd_ne n1, upd_ne n2]
      exact I.hok.fresh hsz
    refine h h'.objs.size c' _ ctv _ _ I1 (.inr ⟨ps, _, hP, nC, T1, rfl⟩) (Heap.get?_push_size _ rfl) Hf (nofr_new I hsz) upd_same ?_
    cases D with
    | no => exact .no
    | yes a b n m =>
      rename_i T u x i
      have nT1 : T ≠ P := fun z => by rw [z, hP] at n; cases n
      have nT2 : T ≠ c' := fun z => by
        have := Heap.lt_size a
        rw [z] at this
        exact Nat.lt_irrefl _ (Nat.lt_of_lt_of_le this hge)
      exact .yes (Heap.get?_push_of_some _ (hx _ _ nT1 a)) b (by rw [upd_ne nT2, upd_ne nT1]; exact n) m
/-- the lambda is made -/
theorem lam_make {params : Arguments} {body : Expr} {scope : Scope} {pos : Pos} {d : Option (Str × Int)} {c P : Addr} {Q : Value → Shared → Prop} (I : Inv X pins σ H s) (TB : TabB X.base X.mg c P) (hcode : X.env.code = .ref c)
    (hT : TabS H P (X.env.qual ++ "<lambda>")) (L : LamPar params d) (hfree : ∀ y ∈ scope.names, y.2 = .free → ∃ c, X.env.cells.lookup y.1 = some c)
    (h : ∀ (f c' : Addr) (dV pm ctv : Value) (H1 : Hp) (s' : Shared), Inv X pins σ H1 s' → MadeH H P c' (X.env.qual ++ "<lambda>") H1 →
      s'.heap.get? f = some (klObj (X.env.qual ++ "<lambda>") params body scope dV (cloFrom X.env.cells scope.names []) pm (.ref c') ctv) → H1 f = none → f ∉ frs X.stack → H1 c' = some (CodeO c' (X.env.qual ++ "<lambda>")) → DfAt s'.heap H1 (frs X.stack) dV d → Q (.ref f) s') :
    wpAny (model X.prog X.w) X.A (eval (.Lambda params body scope pos) X.env) Q X.xe s := by
  rw [arm_eval_Lambda]
  cases L with
  | zero =>
    show wpAny _ _ (do let dv ← evalAll []; let kdv ← holding dv (evalAllOpt []); makeFunction "<lambda>" (X.env.qual ++ "<lambda>") _ (.expr body) scope X.env dv kdv [] pos pos.line) Q _ s
    refine wpAny_bind (wpAny_pure (wpAny_bind (wpAny_holding (wpAny_pure ?_))))
    rw [makeFunction_eq]
    simp only [List.zip_nil_right, List.filterMap_nil, List.isEmpty_nil, if_true, pure_bind]
    exact lam_make0 I TB hcode hT .no hfree fun f c' => h f c' .none
  | one x an p i j r =>
    show wpAny _ _ (do let dv ← evalAll [eval (.Constant (.int i) j r) X.env]; let kdv ← holding dv (evalAllOpt []); makeFunction "<lambda>" (X.env.qual ++ "<lambda>") _ (.expr body) scope X.env dv kdv [] pos pos.line) Q _ s
    refine wpAny_bind ?_
    show wpAny _ _ (do let v ← eval (.Constant (.int i) j r) X.env; let rest ← holding [v] (evalAll []); pure (v :: rest)) _ _ s
    refine wpAny_bind (wpAny_mono ((pe_int (X := X) (i := i) (j := j) (pos := r)).run pins s σ H (fun v H1 => v = .int i ∧ H1 = H) I ⟨rfl, rfl⟩) (fun u s1 hu => ?_) fun _ _ z => z)
    obtain ⟨v, H1, I1, r1, rfl, rfl⟩ := hu
    refine wpAny_bind (wpAny_holding (wpAny_pure (wpAny_pure (wpAny_bind (wpAny_holding (wpAny_pure ?_))))))
    rw [makeFunction_eq]
    simp only [List.zip_nil_right, List.filterMap_nil, List.isEmpty_nil, if_true, pure_bind, List.isEmpty_cons, Bool.false_eq_true, if_false]
    refine wpAny_bind (wpAny_newTextTuple ?_)
    have k1 : ∀ b o, s1.heap.get? b = some o → (s1.heap.push { cls := .type "tuple", data := .seq [u].toArray }).get? b = some o := fun b o e => Heap.get?_push_of_some _ e
    exact lam_make0 (d := some (x, i)) (I1.kept (t' := s1.toks) k1) TB hcode hT (.yes (Heap.get?_push_size _ rfl) r1 (I1.hok.fresh (Nat.le_refl _)) (nofr_new I1 (Nat.le_refl _))) hfree fun f c' => h f c' _
end
end RM
end
section
set_option Elab.async false
set_option linter.all false
set_option maxRecDepth 100000
set_option autoImplicit false
/-! the lambda runs -/
namespace RM
open PySem PySem.Spec PyProof.Rows L2 LamX

/-- the lambda's names: captured ones and globals; its parameter is none of the def's names -/
structure LamSc (sc scope : Scope) (N : List Str) (d : Option Str) : Prop where
  kind : scope.kind = .function
  co : scope.isCoroutine = false
  gen : scope.isGenerator = false
  own : ∀ y ∈ scope.names, y.2 ≠ .cell ∧ (y.2 = .local → d = some y.1)
  free : ∀ y ∈ scope.names, y.2 = .free → sc.names.lookup y.1 = some .cell ∨ sc.names.lookup y.1 = some .free
  dfl : ∀ x, d = some x → scope.names.lookup x = some .local ∧ x ∉ N
def lamScB (sc scope : Scope) (N : List Str) (d : Option Str) : Bool :=
  decide (scope.kind = .function) && !scope.isCoroutine && !scope.isGenerator && (scope.names.all fun y => !decide (y.2 = .cell) && (!decide (y.2 = .local) || decide (d = some y.1)) && (!decide (y.2 = .free) || decide (sc.names.lookup y.1 = some .cell) || decide (sc.names.lookup y.1 = some .free))) &&
    match d with
    | none => true
    | some x => decide (scope.names.lookup x = some .local) && !N.contains x
theorem lamSc_by {sc scope : Scope} {N : List Str} {d : Option Str} (h : lamScB sc scope N d = true) : LamSc sc scope N d := by
  unfold lamScB at h
  simp only [Bool.and_eq_true, Bool.or_eq_true, Bool.not_eq_true', decide_eq_true_eq, decide_eq_false_iff_not, List.all_eq_true] at h
  obtain ⟨⟨⟨⟨h1, h2⟩, h3⟩, h4⟩, h5⟩ := h
  refine ⟨h1, h2, h3, fun y hy => ⟨(h4 y hy).1.1, fun e => ?_⟩, fun y hy e => ?_, fun x e => ?_⟩
  · rcases (h4 y hy).1.2 with z | z
    · exact absurd e z
    · exact z
  · rcases (h4 y hy).2 with (z | z) | z
    · exact absurd e z
    · exact .inl z
    · exact .inr z
  · subst e
    simpa using h5
section
variable {X : Cx} {pins : List (Addr × Obj)} {σ : L2.St} {H HZ : Hp} {s s1 : Shared}
theorem LamSc.has {scope : Scope} {N : List Str} {d : Option Str} (L : LamSc X.env.scope scope N d) (ok : X.Ok) : ∀ y ∈ scope.names, y.2 = .free → ∃ c, X.env.cells.lookup y.1 = some c := fun y hy e => by
  rcases L.free y hy e with k | k
  · exact ok.has _ (.inl k)
  · exact ok.has _ (.inr k)
theorem lam_start {A : Around} {outer : List Env} {E : XK} {scope : Scope} {f c' : Addr} {h₁ : Heap} {tk : Nat} {d : Option Str} {m1 : Str → Option Value} (I : Inv X pins σ H s) (L : LamSc X.env.scope scope X.N d) (e0 : Env0 X.prog X.w X.K X.mg X.base A outer s1 HZ) (hd : A.handled = none)
    (un : Un (frs X.stack) [] H HZ s.heap s1.heap) (hns : h₁.Ns s1.heap.objs.size m1) (kp : ∀ b o, s1.heap.get? b = some o → h₁.get? b = some o) :
    Inv (lamCx X A outer s1 HZ E scope f c') [] σ HZ { s1 with heap := h₁, toks := tk } := by
  have hfree := L.has I.ok
  have cm : ∀ {y c}, (cloFrom X.env.cells scope.names []).lookup y = some c → X.env.cells.lookup y = some c := fun {y c} e => by
    rcases cloFrom_mem (PySem.mem_of_lookup e) with hm | ⟨h1, h2⟩
    · cases hm
    · obtain ⟨c1, hc⟩ := hfree _ h1 rfl
      have hc : X.env.cells.lookup y = some c1 := hc
      have e2 : c = c1 := by
        rw [h2, hc] <;> rfl
      rw [e2]
      exact hc
  have look : ∀ {y}, scope.names.lookup y = some .free → ∃ c, (cloFrom X.env.cells scope.names []).lookup y = some c := fun {y} hl => by
    have hy : (y, NameKind.free) ∈ scope.names := PySem.mem_of_lookup hl
    exact mem_lookup (cloFrom_has (cells := X.env.cells) (acc := []) hy)
  have cellK : ∀ {c : Addr} {v : Option Value}, H c = none → s.heap.IsCell c v → h₁.IsCell c v := fun {c v} n ⟨o, ho, hd⟩ => by
    obtain ⟨sl, q⟩ := un.any ho n (by simp)
    exact ⟨_, kp _ _ q, hd⟩
  have noA : ∀ b : Addr, b ∉ (lamCx X A outer s1 HZ E scope f c').ex := fun b z => absurd (show b ∈ ([] : List Addr) from z) (by simp)
  have visF : ∀ {y}, y ∈ X.N → Vis scope y → scope.names.lookup y = some .free := fun {y} hN v => by
    rcases v with k | k | k
    · exact absurd hN (L.dfl _ ((L.own _ (PySem.mem_of_lookup k)).2 rfl)).2
    · exact absurd rfl (L.own _ (PySem.mem_of_lookup k)).1
    · exact k
  refine ⟨⟨e0.mod, L.kind, rfl, rfl, Nat.le_refl _, fun y z c e1 e2 => I.ok.inj y z c (cm e1) (cm e2), fun y hy => ?_, fun y c z _ => ?_, fun _ => hd, Around.frames_deeper e0.frames, .inr ⟨rfl, rfl⟩, fun b z => absurd z (noA b), e0.bs, e0.bsz, fun b _ _ => noA b,
      fun b z => absurd z (noA b), e0.funs, e0.frf⟩,
    rfl, e0.bare, Un.kept kp, ⟨_, hns, fun i y v e1 e2 e3 => ?_⟩, fun y c e => ?_, e0.hok.fresh (Nat.le_refl _), fun y c e => ?_, fun q hq => absurd (show q ∈ ([] : List (Addr × Obj)) ++ [] from hq) (by simp), e0.hok.kept kp, I.len⟩
  · have hy : scope.names.lookup y = some .cell ∨ scope.names.lookup y = some .free := hy
    rcases hy with hy | hy
    · exact absurd rfl (L.own _ (PySem.mem_of_lookup hy)).1
    · exact look hy
  · have z : false = true := z
    cases z
  · have e3 : Vis scope y := e3
    have k := visF (List.mem_of_getElem? e1) e3
    obtain ⟨m, hn, hl⟩ := I.loc
    have hvis : Vis X.env.scope y := (L.free _ (PySem.mem_of_lookup k) rfl).elim (fun k => .inr (.inl k)) (fun k => .inr (.inr k))
    obtain ⟨w', r, q⟩ := hl i y v e1 e2 hvis
    obtain ⟨c2, h2⟩ := look k
    refine ⟨w', r, .inr ⟨.inr k, c2, h2, ?_⟩⟩
    have c1 := cm h2
    rcases q with ⟨k', _⟩ | ⟨_, c3, e', z⟩
    · have k' : X.env.scope.names.lookup y = some .local := k'
      rcases L.free _ (PySem.mem_of_lookup k) rfl with k2 | k2 <;> rw [show X.env.scope.names.lookup y = _ from k2] at k' <;> cases k'
    · rw [c1] at e'
      cases e'
      exact cellK (I.freeC y _ c1) z
  · obtain ⟨w', z⟩ := I.cell y c (cm e)
    exact ⟨w', cellK (I.freeC y c (cm e)) z⟩
  · obtain ⟨v, o, ho, hd⟩ := I.cell y c (cm e)
    exact un.free c o ho (I.freeC y c (cm e)) (by simp)
/-- the call of the lambda -/
theorem lam_act {A : Around} {outer : List Env} {E : XK} {Q : VK} {scope : Scope} {f c' : Addr} {pm ctv dV : Value} {params : Arguments} {body : Expr} {d : Option (Str × Int)} {k : Nat} {tb : TE} (I : Inv X pins σ H s) (L : LamSc X.env.scope scope X.N (d.map (·.1))) (LP : LamPar params d)
    (hf : s.heap.get? f = some (klObj (X.env.qual ++ "<lambda>") params body scope dV (cloFrom X.env.cells scope.names []) pm (.ref c') ctv)) (hfn : H f = none) (hfr : f ∉ frs X.stack) (D : DfAt s.heap H (frs X.stack) dV d)
    (un : Un (frs X.stack) [] H HZ s.heap s1.heap) (hc : HZ c' = some (CodeO c' (X.env.qual ++ "<lambda>"))) (e0 : Env0 X.prog X.w X.K X.mg X.base A outer s1 HZ) (hr : Room (k + 1) A)
    (hbody : PE (lamCx X A outer s1 HZ E scope f c') body tb) (ht : tb σ HZ Q) : codeAny (model X.prog X.w) A (.call (.ref f) ⟨[], []⟩) (CR (L2.CX X.prog X.w) outer X.prog X.w HZ s1 Q E) s1 := by
  have of1 := un.keep f _ hf hfn hfr (by simp)
  obtain ⟨⟨oc, vs, t, hoc, hdc, hvc⟩, _, _⟩ := e0.hok c' _ hc
  have lim : s1.heap.NoLimit := e0.mod.nolimit.keeps fun b o e => (e0.bs b o e).1
  refine PySem.W.kla_callFunE hr.depth of1 rfl L.co L.gen rfl ⟨c', oc, vs, t, rfl, hoc, hdc, hvc⟩ ?_
  refine lam_bind LP (D.un un) fun bs hb1 hb2 => ?_
  have hloc : ∀ x ∈ bs, scope.names.lookup x.1 = some .local := fun x hx => (L.dfl _ (hb2 x hx)).1
  refine wpAny_newFunctionEnv (fun y hy => (L.own y hy).1) hloc (fun h₁ hns hsb => ⟨lim.fresh _ hsb, ?_⟩) L.kind
  show codeAny _ _ (.expr body (lamEnv X scope s1.heap.objs.size f c')) _ _
  have kp : ∀ b o, s1.heap.get? b = some o → h₁.get? b = some o := fun b o e => hsb.extBut b o (Nat.ne_of_lt (Heap.lt_size e)) (Heap.get?_push_of_some _ e)
  have J : Inv (lamCx X A outer s1 HZ E scope f c') [] σ HZ { s1 with heap := h₁, toks := s1.toks + bs.length } := lam_start I L e0 hr.hd un hns kp
  refine PySem.W.kla_codeExpr (wpAny_mono (hbody.run [] _ _ HZ Q J ht) (fun v s' hq => ?_) fun e s' hq => hq)
  obtain ⟨w', H', J', rv, q⟩ := hq
  exact ⟨w', H', J'.os, J'.bare, J'.base, J'.hok, rv, q⟩
end
end RM
end
section
set_option Elab.async false
set_option linter.all false
set_option maxRecDepth 100000
set_option autoImplicit false
/-! from the text's expressions to the small language -/
namespace RM
open PySem PySem.Spec PyProof.Rows L2

inductive Gv where
  | cst (d : D) | fn (n : Nat) | blt | cls (c : Str) | cfn (c : Str) (n : Nat) | mth (c m : Str) (n : Nat) | hof | dfl (f : Str) (m : Nat) | xcl (c : Str) | xkw (c kn : Str)
abbrev Gt := List (Str × Gv)
structure Cfg where
  N : List Str
  sc : Scope
  fn : Str → Bool
  hot : Bool := false
  exn : Option Nat := none
  own : List Nat := []
  thk : Option Nat := none
  lam : Bool := false
  ins : List Nat := []
structure Cp where
  e : Bool → Expr → Option E
  q : Expr → Option Q
  i : Bool → Expr → Option I

def Cfg.loc (g : Cfg) (x : Str) : Option Nat := match g.sc.names.lookup x with
  | some .local => g.N.findIdx? (· == x)
  | some .cell => g.N.findIdx? (· == x)
  | some .free => g.N.findIdx? (· == x)
  | _ => none
def Cfg.glo (g : Cfg) (gt : Gt) (x : Str) : Option Gv := match g.sc.names.lookup x with
  | some .globalImplicit => gt.lookup x
  | _ => none
def okName (x : Str) : Bool := !(x == "__debug__") && !(x == "__classdict__") && !(x == "__name__")
def isStarred : Expr → Bool
  | .Starred .. => true
  | _ => false
def isSet : Expr → Bool
  | .Set .. => true
  | _ => false
def isSlice : Expr → Bool
  | .Slice .. => true
  | _ => false
def isTupE : Expr → Bool
  | .Tuple .. => true
  | _ => false
def constD : Const → Option D
  | .none => some .non
  | .bool b => some (.bl b)
  | .int i => some (.int i)
  | .str s => some (.str s)
  | _ => none
def biOf (x : Str) (n : Nat) : Option Bi :=
  if x == "len" then some .len else if x == "all" then some .all else if x == "any" then some .any else if x == "tuple" then (if n == 0 then some .tupS else some .tuple) else if x == "list" then some .list
  else if x == "sorted" then some .sorted else if x == "sum" then some .sum else if x == "repr" then some .repr else if x == "int" then some .int1
  else if x == "min" && n == 2 then some .min2 else if x == "max" && (n == 2 || n == 1) then some .max2 else none
def esW (fv fl : Expr → Option E) : List Expr → Option Es
  | [] => some .nil
  | .Starred e _ :: r => do
    let a ← fl e
    let b ← esW fv fl r
    some (.star a b)
  | e :: r => do
    let a ← fv e
    let b ← esW fv fl r
    some (.cons a b)
def Cfg.tgt (g : Cfg) (x : Str) : Option Nat :=
  match g.sc.names.lookup x with
  | some .local => g.N.findIdx? (· == x)
  | some .cell => if g.fn x then g.N.findIdx? (· == x) else none
  | _ => none
def tgts (g : Cfg) : List Expr → Option (List Nat)
  | [] => some []
  | .Name x _ :: r => do
    let i ← g.tgt x
    let is ← tgts g r
    some (i :: is)
  | _ => none
def patW (g : Cfg) : Expr → Option (List Nat)
  | .Name x _ => (g.tgt x).map ([·])
  | .Tuple (a :: b :: r) _ _ => if g.hot then none else tgts g (a :: b :: r)
  | _ => none
def namesOf : List Expr → List Str
  | [] => []
  | .Name x _ :: r => x :: namesOf r
  | _ :: r => namesOf r
def patN : Expr → List Str
  | .Name x _ => [x]
  | .Tuple es _ _ => namesOf es
  | _ => []
def ownOf (N : List Str) (ns : List Str) : List (Str × Nat) := ns.map fun x => (x, (N.findIdx? (· == x)).getD 0)
def I.pairs : I → Bool
  | .enum _ => true
  | .zip _ _ => true
  | _ => false
/-- the names of a comprehension's block -/
def Cfg.blk (g : Cfg) (scope : Scope) : Cfg := ⟨g.N, relS scope g.sc, fun x => scope.names.lookup x == some .cell, false, none, [], none, false, g.ins⟩
/-- the names of a lambda's body -/
def Cfg.lamC (g : Cfg) (scope : Scope) : Cfg := ⟨g.N, scope, fun _ => false, false, none, [], none, false, g.ins⟩
def tyOf (gt : Gt) (g : Cfg) : Expr → Option Ty
  | .Name x _ => match g.glo gt x with
    | some (.cls c) => if okName x then some (.c c) else none
    | some (.cfn c _) => if okName x then some (.c c) else none
    | some (.xcl c) => if okName x then some (.c c) else none
    | some .blt => if x == "str" then some (.b "str") else if x == "int" then some (.b "int") else if x == "bool" then some (.b "bool") else if x == "tuple" then some (.b "tuple") else if x == "list" then some (.b "list") else if x == "dict" then some (.b "dict") else if x == "ValueError" then some (.b "ValueError") else if x == "LookupError" then some (.b "LookupError") else if x == "OverflowError" then some (.b "OverflowError") else if x == "KeyError" then some (.b "KeyError") else if x == "IndexError" then some (.b "IndexError") else none
    | _ => none
  | _ => none
/-- a tuple of classes -/
def tysOf (gt : Gt) (g : Cfg) : List Expr → Option (List Ty)
  | [] => some []
  | e :: es => do
    let t ← tyOf gt g e
    let ts ← tysOf gt g es
    some (t :: ts)

section
variable (gt : Gt) (r : Cfg → Cp) (g : Cfg)
def boolW (op : BoolOp) : List Expr → Option E
  | [] => none
  | [e] => (r g).e false e
  | e :: es => do
    let a ← (r g).e false e
    let b ← boolW op es
    some (match op with
      | .And => .and a b
      | .Or => .or a b)
def condW : List Expr → Option Q
  | [] => some .yes
  | [c] => (r g).q c
  | _ => none
def lcW (elt tg iter : Expr) (ifs : List Expr) (scope : Scope) : Option E :=
  let own := ownOf g.N (patN tg)
  if blkC g.N g.sc scope own && !isSet iter && !g.hot then do
    let p ← patW (g.blk scope) tg
    let it ← (r g).i true iter
    let t ← condW r (g.blk scope) ifs
    let e ← (r (g.blk scope)).e false elt
    if it.pairs && !isTupE tg then none else some (.lc (own.map (·.2)) p it t e)
  else none
def lc2W (elt tg iter : Expr) (ifs : List Expr) (tg1 iter1 : Expr) (ifs1 : List Expr) (scope : Scope) : Option E :=
  let own := ownOf g.N (patN tg ++ patN tg1)
  if blkC g.N g.sc scope own && !isSet iter && !isSet iter1 && !g.hot then do
    let p ← patW (g.blk scope) tg
    let it ← (r g).i true iter
    let t ← condW r (g.blk scope) ifs
    let p1 ← patW (g.blk scope) tg1
    let it1 ← (r (g.blk scope)).i false iter1
    let t1 ← condW r (g.blk scope) ifs1
    let e ← (r (g.blk scope)).e false elt
    if it.pairs && !isTupE tg then none else if it1.pairs && !isTupE tg1 then none else if p1.all (fun i => (own.map (·.2)).contains i) then some (.lc2 (own.map (·.2)) p it t p1 it1 t1 e) else none
  else none
/-- f(lambda: body) -/
def hofW (f : Str) (args : List Expr) : Option E := match args with
  | [.Lambda params body scope _] => if g.lam && !g.hot then do
      let d ← lamPar params
      if lamScB g.sc scope g.N (d.map (·.1)) then do
        let i ← (r (g.lamC scope)).e false body
        some (.appT f i)
      else none
    else none
  | _ => none
/-- the call of what was handed in -/
def thkW (f : Str) (args : List Expr) : Option Nat := if args.isEmpty && !g.hot && okName f then
    match g.thk with
    | some i => if g.loc f = some i then some i else none
    | none => none
  else none
/-- len(set(a)) -/
def lsetA (f : Str) (e : Expr) : Option Expr := if f == "len" then (match e with
    | .Call (.Name x _) [a] [] _ => if x == "set" && !isStarred a then some a else none
    | _ => none) else none
/-- tuple of a text's signs -/
def arN (gt : Gt) (g : Cfg) (e : Expr) : Nat := match e with
  | .Constant (.str _) _ _ => 0
  | .Subscript (.Name x _) (.Slice _ _ _ _) _ => match g.glo gt x with
    | some (.cst (.str _)) => 0
    | _ => 1
  | _ => 1
/-- the name under which a class with one keyword is known -/
def kwF (gt : Gt) (f kn : Str) : Option Str := gt.findSome? fun p => match gt.lookup p.1 with
  | some (.xkw c k) => if c == f && k == kn then some p.1 else none
  | _ => none
def kwW (f : Str) : List Keyword → Option E
  | [⟨some kn, e, _⟩] => if okName f && !g.hot && (match g.glo gt f with
      | some (.xcl _) => true
      | _ => false) then (match kwF gt f kn with
    | some q => ((r g).e false e).map fun x => .app q (.cons x .nil)
    | none => none) else none
  | _ => none
/-- the name under which fewer arguments are known -/
def dflF (gt : Gt) (f : Str) (m : Nat) : Option Str := gt.findSome? fun p => match gt.lookup p.1 with
  | some (.dfl f' m') => if f' == f && m' == m then some p.1 else none
  | _ => none
def dflW (f : Str) (args : List Expr) : Option E := match dflF gt f args.length with
  | some q => if !g.hot then (esW ((r g).e false) ((r g).e true) args).map (.app q) else none
  | none => none
def callV (f : Str) (args : List Expr) : Option E :=
  if okName f && args.all (fun a => !isStarred a) then
    match g.glo gt f with
    | some .hof => hofW r g f args
    | some (.fn n) => if args.length == n && !g.hot then (esW ((r g).e false) ((r g).e true) args).map (.app f) else dflW gt r g f args
    | some (.cfn _ n) => if args.length == n && !g.hot then (esW ((r g).e false) ((r g).e true) args).map (.app f) else dflW gt r g f args
    | some (.xcl _) => if args.length == 1 && !g.hot then (esW ((r g).e false) ((r g).e true) args).map (.app f) else none
    | some .blt =>
      match args with
      | [e, .Tuple ts _ _] => if f == "isinstance" && decide (ts.length < 100) then do
          let x ← (r g).e true e
          let us ← tysOf gt g ts
          some (.bi (.isi us) (.cons x .nil))
        else none
      | [e, t] => if f == "isinstance" then do
          let x ← (r g).e true e
          let s ← tyOf gt g t
          some (.bi (.isi [s]) (.cons x .nil))
        else do
          let b ← biOf f 2
          let es ← esW ((r g).e true) ((r g).e true) args
          if g.hot && !b.cold then none else some (.bi b es)
      | [e] => match lsetA f e with
        | some a => if !g.hot && (match g.glo gt "set" with
            | some .blt => true
            | _ => false) then do
            let x ← (r g).e true a
            some (.bi .lset (.cons x .nil))
          else none
        | none => do
          let b ← biOf f (arN gt g e)
          let es ← esW ((r g).e true) ((r g).e true) args
          if g.hot && !b.cold then none else some (.bi b es)
      | _ => none
    | _ => none
  else none
def callW (f : Str) (args : List Expr) : Option E := match thkW g f args with
  | some i => some (.thk i)
  | none => callV gt r g f args
/-- the methods of a name -/
def mths (m : Str) (n : Nat) : List (Str × Str) := gt.filterMap fun p => match gt.lookup p.1 with
  | some (.mth c m' n') => if m' == m && n' == n then some (c, p.1) else none
  | _ => none
def plainO : Expr → Bool
  | .Name .. => true
  | .Attribute .. => true
  | .Subscript .. => true
  | .Call (.Attribute ..) _ _ _ => true
  | .Call _ (_ :: _) _ _ => true
  | _ => false
/-- an instance, as it seems -/
def isInsE (e : Expr) : Bool := match e with
  | .Name x _ => (match g.loc x with
    | some i => g.ins.contains i
    | none => false)
  | .Call (.Name f _) _ _ _ => (match g.glo gt f with
    | some (.cfn _ _) => true
    | _ => false)
  | _ => false
/-- a == b, a != b by an own __eq__ -/
def eqoW (op : CmpOp) (a b : Expr) : Option E := if (isInsE gt g a || isInsE gt g b) && !g.hot && !(mths gt "__eq__" 1).isEmpty then (match op with
    | .Eq => do
      let x ← (r g).e false a
      let y ← (r g).e false b
      some (.eqo false (mths gt "__eq__" 1) x y)
    | .NotEq => do
      let x ← (r g).e false a
      let y ← (r g).e false b
      some (.eqo true (mths gt "__eq__" 1) x y)
    | _ => none) else none
/-- len(x) by an own __len__ -/
def lenoB (f : Str) (e : Expr) : Bool := f == "len" && isInsE gt g e && !g.hot && !isStarred e && !(mths gt "__len__" 0).isEmpty && (match g.glo gt f with
      | some .blt => true
      | _ => false)
def lenoW (f : Str) (args : List Expr) : Option E := match args with
  | [e] => if lenoB gt g f e then ((r g).e false e).map (.leno (mths gt "__len__" 0)) else none
  | _ => none
def mthW (o : Expr) (m : Str) (apos : Pos) (args : List Expr) (pos : Pos) : Option E :=
  if args.all (fun a => !isStarred a) && (apos.endLine == pos.line) && !g.hot && plainO o && decide (args.length < 29) && !(mths gt m args.length).isEmpty then do
    let x ← (r g).e true o
    let es ← esW ((r g).e false) ((r g).e true) args
    some (.mth x m (mths gt m args.length) es)
  else none
def idxW (o : Expr) (apos : Pos) (args : List Expr) (pos : Pos) : Option E := match args with
  | [e] => if !isStarred e && (apos.endLine == pos.line) && plainO o then do
      let x ← (r g).e true o
      let y ← (r g).e true e
      some (.idx x y)
    else none
  | _ => none
def atW (o : Expr) (m : Str) (apos : Pos) (args : List Expr) (pos : Pos) : Option E := if m == "index" then idxW r g o apos args pos else mthW gt r g o m apos args pos
def nameW (look : Bool) (x : Str) : Option E := if okName x then
      match g.loc x with
      | some i => some (if look then .b i else .v i)
      | none => match g.glo gt x with
        | some (.cst d) => some (.c d)
        | _ => none
    else none
def bndW (e : Option Expr) : Option E := match e with
  | none => some (.c .non)
  | some e => ((r g).e true e).map .bnd
def stepE (look : Bool) (e : Expr) : Option E :=
  match e with
  | .Name x _ => nameW gt g look x
  | .Constant c _ _ => (constD c).map .c
  | .BinOp a op b _ => do
    let x ← (r g).e true a
    let y ← (r g).e true b
    some (.bin op x y)
  | .UnaryOp .Not a _ => ((r g).e true a).map .not
  | .UnaryOp .USub a _ => ((r g).e true a).map .neg
  | .BoolOp op es _ => boolW r g op es
  | .Compare a [op] [b] _ => if isSet b then none else match eqoW gt r g op a b with
    | some i => some i
    | none => do
      let x ← (r g).e true a
      let y ← (r g).e true b
      some (.cmp op x y)
  | .Compare a [o, p] [b, c] _ => if isSet b || isSet c then none else do
    let x ← (r g).e true a
    let y ← (r g).e true b
    let z ← (r g).e true c
    some (.chain o p x y z)
  | .IfExp t a b _ => do
    let q ← (r g).q t
    let x ← (r g).e false a
    let y ← (r g).e false b
    some (.ife q x y)
  | .Tuple es _ _ => (esW ((r g).e false) ((r g).e true) es).map .tup
  | .List es _ => (esW ((r g).e false) ((r g).e true) es).map .lst
  | .Call (.Name f _) args [] _ => match lenoW gt r g f args with
    | some i => some i
    | none => callW gt r g f args
  | .Call (.Name f _) [] (kw :: kws) _ => kwW gt r g f (kw :: kws)
  | .Call (.Attribute o m apos) args [] pos => atW gt r g o m apos args pos
  | .Attribute (.Name x _) f _ => if okName x then
      match g.loc x with
      | some i => if g.exn == some i then some (.xfl i f) else some (.fld (.b i) f)
      | none => none
    else none
  | .Attribute (.Attribute o f0 p0) f _ => do
    let x ← (r g).e true (.Attribute o f0 p0)
    some (.fld x f)
  | .Attribute (.Subscript o j p0) f _ => do
    let x ← (r g).e true (.Subscript o j p0)
    some (.fld x f)
  | .Subscript o (.Slice lo hi none _) _ => do
    let x ← (r g).e true o
    let l ← bndW r g lo
    let h ← bndW r g hi
    some (.sl x l h)
  | .Subscript o (.Slice lo hi (some (.UnaryOp .USub (.Constant (.int 1) _ _) _)) _) _ => do
    let x ← (r g).e true o
    let l ← bndW r g lo
    let h ← bndW r g hi
    some (.bk x l h)
  | .Dict [] [] _ => some .dct0
  | .Subscript o i _ => if isSlice i then none else do
    let x ← (r g).e true o
    let y ← (r g).e true i
    some (.sub x y)
  | .ListComp elt [⟨tg, iter, ifs, 0⟩] scope _ => lcW r g elt tg iter ifs scope
  | .ListComp elt [⟨tg, iter, ifs, 0⟩, ⟨tg1, iter1, ifs1, 0⟩] scope _ => lc2W r g elt tg iter ifs tg1 iter1 ifs1 scope
  | _ => none
def testW (op : BoolOp) : List Expr → Option Q
  | [] => none
  | [e] => (r g).q e
  | e :: es => do
    let a ← (r g).q e
    let b ← testW op es
    some (match op with
      | .And => .and a b
      | .Or => .or a b)
def stepQ (e : Expr) : Option Q :=
  match e with
  | .BoolOp op es _ => testW r g op es
  | .UnaryOp .Not a _ => ((r g).q a).map .not
  | .IfExp .. => none
  | .Compare .. => ((r g).e true e).map .val
  | e => ((r g).e true e).map .val
def stepI (look : Bool) (e : Expr) : Option I :=
  match e with
  | .Call (.Name f _) args [] _ =>
    if okName f && args.all (fun a => !isStarred a) then
      match g.glo gt f with
      | some .blt =>
        match args with
        | [a] => if f == "range" then ((r g).e true a).map .rng1 else if f == "enumerate" then ((r g).e look a).map .enum else ((r g).e look e).map .seq
        | [a, b] => if f == "range" then do
            let x ← (r g).e true a
            let y ← (r g).e true b
            some (.rng2 x y)
          else if f == "zip" then do
            let x ← (r g).e look a
            let y ← (r g).e look b
            some (.zip x y)
          else ((r g).e look e).map .seq
        | _ => none
      | _ => ((r g).e look e).map .seq
    else none
  | e => ((r g).e look e).map .seq
end
def stepC (gt : Gt) (r : Cfg → Cp) : Cfg → Cp := fun g => ⟨stepE gt r g, stepQ r g, stepI gt r g⟩
def cp (gt : Gt) : Nat → Cfg → Cp
  | 0 => fun _ => ⟨fun _ _ => none, fun _ => none, fun _ _ => none⟩
  | n + 1 => stepC gt (cp gt n)
end RM
end
section
set_option Elab.async false
set_option linter.all false
set_option maxRecDepth 100000
set_option autoImplicit false
/-! l.index(x) -/
namespace RM
open PySem PySem.Spec PyProof.Rows L2
def rIdxL (Y : Tx) : V → List V → Hp → VK → Prop := fun x xs H Q => ∃ y G S dx dy j, xs = [y] ∧ GOk Y G H S ∧ RV Y G H x dx ∧ RV Y G H y dy ∧ idxD dx dy = some j ∧ Q (.int (j : Nat)) H
theorem mt_idxL {X : Cx} {Y : Tx} {k : Nat} {hot : Bool} (o : XOk Y k hot X) : MtR X "list.index" (rIdxL Y) := by
  intro pins s σ H x xs v us Q I rx rxs h
  obtain ⟨y, G, S, dx, dy, j, rfl, ok, r1, r2, hj, q⟩ := h
  have hK := o.hK
  have hu := o.units
  cases rxs with
  | cons ry rt =>
    rename_i uy ut
    cases rt
    cases dx <;> try (simp only [idxD] at hj; cases hj; done)
    rename_i ys
    simp only [idxD] at hj
    split at hj
    · rename_i hc
      simp only [Bool.and_eq_true, decide_eq_true_eq] at hc
      obtain ⟨⟨p1, p2⟩, dp⟩ := hc
      obtain ⟨a, vs, rfl, ha, rs⟩ := r1.lst
      cases rx
      obtain ⟨bs, rb⟩ := Dp.reads I dy.pd y uy (by rw [hK]; exact r2.dp p1) ry
      obtain ⟨its, rv, ⟨⟨cls, dd, data, sls⟩, n, ho, hc, hdn, hdt⟩, hlen⟩ := I.list (.of ha)
      simp only at hc hdt
      subst hc hdt
      obtain ⟨as, h4⟩ := Dp.readsAll I (D.pds ys) _ its (by rw [hK]; exact RDs.dp p2 rs) rv
      have h4' : ReadsAll s.heap its.toArray.toList (D.pds ys) as := h4
      obtain ⟨hjl, hit, hno⟩ := PySem.SeqAt.hit_at h4' (pures_plain ys p2) hj
      have hsl := sizeLine_eq
      have hvl := rv.length
      have hjj : j < its.length := by simpa using hjl
      exact call_meets PySem.F.slot_list_index ⟨_, ho, rfl⟩ PySem.F.entry_list_index (PySem.F.args_list_index_2 _ _)
        (SeqAt.list_indexAt a its.toArray n dd sls uy (fun u => PyData.eqv (SeqAt.readOf s.heap u) dy.pd) j hjl (by omega) hit hno)
        ⟨ho, PySem.SeqAt.items_plain h4' rb (pures_plain ys p2) (pure_plain dy p1) (by omega), ⟨.int (j : Nat), H, I.tok _, ⟨_, rfl⟩, q⟩⟩
    · cases hj
end RM
end
section
set_option Elab.async false
set_option linter.all false
set_option maxRecDepth 100000
set_option autoImplicit false
/-! isinstance of exceptions that are values -/
namespace RM
open PySem PySem.Spec PyProof.Rows L2
/-- a value's type, exceptions among them -/
def TyY (K : PySem.W.Frag) (H : Hp) (x : V) (t : Value) : Prop := TyX K H x t ∨ ∃ a C p fv, x = .ref a ∧ H a = some (xo a C p) ∧ H p = some (.xd fv) ∧ t = .ref C ∧ ExcC K C
section
variable {X : Cx} {pn : List (Addr × Obj)} {sg : L2.St} {Hq : Hp} {st : Shared}
theorem kit_ofY {x : V} {u t : Value} (In : Inv X pn sg Hq st) (rx : RelV x u) (tq : TyY X.K Hq x t) : ∃ P : Heap → Prop, PySem.W.KitX X.K u t P ∧ P st.heap ∧ u ≠ .builtin "__main__.__loader__#opaque" := by
  rcases tq with tq | ⟨a, C, pp, fv, rfl, ha, hp, rfl, E⟩
  · exact kit_of In rx tq
  · cases (show u = Value.ref a from rx)
    obtain ⟨oe, vs, he, hz, hd⟩ := (show ObjOk X.prog X.w Hq st.heap a (xo a C pp) from In.hok a _ ha).1
    obtain ⟨mA, hns, hr⟩ := (show ObjOk X.prog X.w Hq st.heap pp (.xd fv) from In.hok pp _ hp)
    obtain ⟨o2, ho, hl⟩ := lookIn_ns hns
    obtain ⟨cd, hc, _⟩ := PySem.W.any_some E.hd
    exact ⟨_, PySem.W.kitx_exc (ox := oe) (od := some o2) (by rw [hc]; rfl) E.hg E.hk E.hs E.ha E.hn E.ht E.hm, ⟨he, hz.1, by unfold PySem.W.notCls; rw [hd] <;> rfl, by rw [hz.2]; exact ho⟩, fun z => nomatch z⟩
end
def rIsY (K : PySem.W.Frag) : List V → Hp → VK → Prop := fun vs1 Hq Qw => ∃ (x c : V) (t u : Value) (b : Bool), vs1 = [x, c] ∧ ClsV c u ∧ TyY K Hq x t ∧ PySem.W.kitOne K t u = some b ∧ Qw (.bl b) Hq
def rIsYT (K : PySem.W.Frag) : List V → Hp → VK → Prop := fun vs1 Hq Qw => ∃ (x : V) (tp : Addr) (cs : List V) (t : Value) (us1 : List Value) (b : Bool), vs1 = [x, .ref tp] ∧ Hq tp = some (.tup cs) ∧ Paired ClsV cs us1 ∧ TyY K Hq x t ∧ PySem.W.kitAny K t us1 = some b ∧ Qw (.bl b) Hq
section
variable {X : Cx}
theorem call_isY : CallR X (.builtin "isinstance") (rIsY X.K) := by
  intro pn st sg Hq vs1 us1 Qw In rl h
  obtain ⟨x, c, t, u, b, rfl, k, tq, e, q⟩ := h
  obtain ⟨ua, ub, rfl, rl1, rl2⟩ := vals2 rl
  have eb := k.eq rl2
  subst eb
  obtain ⟨P, KZ, pp, nB⟩ := kit_ofY In rl1 tq
  exact PySem.W.kia_one KZ In.kIn pp e nB fun tk => ⟨.bl b, Hq, In.tok tk, rfl, q⟩
theorem call_isYT : CallR X (.builtin "isinstance") (rIsYT X.K) := by
  intro pn st sg Hq vs1 us1 Qw In rl h
  obtain ⟨x, tp, cs, t, uw, b, rfl, hTp, k, tq, e, q⟩ := h
  obtain ⟨ua, ub, rfl, rl1, rl2⟩ := vals2 rl
  cases (show ub = Value.ref tp from rl2)
  obtain ⟨P, KZ, pp, nB⟩ := kit_ofY In rl1 tq
  obtain ⟨_, it1, rl3, o, g1, g2, n, g3⟩ := (show ObjOk X.prog X.w Hq st.heap tp (.tup cs) from In.hok tp _ hTp)
  have ec := ClsV.all k rl3
  subst ec
  obtain ⟨o1, o2, o3, o4⟩ := o
  simp only at g2 g3
  subst g2 g3
  exact PySem.W.kia_tup KZ In.kIn pp g1 e nB fun tk => ⟨.bl b, Hq, In.tok tk, rfl, q⟩
end
end RM
end
section
set_option Elab.async false
set_option linter.all false
set_option maxRecDepth 100000
set_option autoImplicit false
/-! the compile functions are sound: leaves, operations, displays, tests -/
namespace RM
open PySem PySem.Spec PyProof.Rows L2

/-- what a def of the module does, by its oracle -/
def spG (Y : Tx) (n : Nat) (m : List D → M D) : Sp := fun vs H Q E => vs.length = n ∧ ∃ G S ds, GOk Y G H S ∧ RDs Y G H vs ds ∧
  wpM (m ds) S (fun d S' => ∀ G' H' v, Ext G H G' H' → GOk Y G' H' S' → RD Y G' H' v d → Q v H') (fun x S' => ∀ G' H' cls dx, Ext G H G' H' → GOk Y G' H' S' → RX Y G' H' cls dx x → E cls dx H')
/-- what is wanted of a call -/
abbrev GetsD (Y : Tx) (G : Gh) (H : Hp) (Q : VK) : D → Sto → Prop := fun d S' => ∀ G' H' v, Ext G H G' H' → GOk Y G' H' S' → RD Y G' H' v d → Q v H'
abbrev GetsX (Y : Tx) (G : Gh) (H : Hp) (E : XK) : D → Sto → Prop := fun x S' => ∀ G' H' cls dx, Ext G H G' H' → GOk Y G' H' S' → RX Y G' H' cls dx x → E cls dx H'
/-- what stands at fv, called without arguments, from any state behind s -/
def ActOk (P : Program) (w : World) (K : PySem.W.Frag) (mg : Str → Option Value) (base : Heap) (k : Nat) (Y : Tx) (fv : Addr) (fs : List Addr) (s : Shared) (G : Gh) (H : Hp) (m : M D) : Prop :=
  ∀ (A : Around) (outer : List Env) (s1 : Shared) (G1 : Gh) (H1 : Hp) (S1 : Sto) (Q : VK) (E : XK), Room k A → A.guards = some [] → Env0 P w K mg base A outer s1 H1 → Un fs [] H H1 s.heap s1.heap → Ext G H G1 H1 → GOk Y G1 H1 S1 →
    wpM m S1 (GetsD Y G1 H1 Q) (GetsX Y G1 H1 E) → PySem.W.FnAt fv s1.heap ∧ codeAny (model P w) A (.call (.ref fv) ⟨[], []⟩) (CR (L2.CX P w) outer P w H1 s1 Q E) s1
/-- a def that is handed a lambda -/
def FnT (P : Program) (w : World) (K : PySem.W.Frag) (mg : Str → Option Value) (base : Heap) (k : Nat) (f : Addr) (Y : Tx) (hof : M D → M D) : Prop :=
  ∀ (j : Nat), k ≤ j + 1 → ∀ (A : Around) (outer : List Env) (s : Shared) (G : Gh) (H : Hp) (S : Sto) (fv : Addr) (m : M D) (Q : VK) (E : XK), Room (j + 1) A → A.guards = some [] → Env0 P w K mg base A outer s H → GOk Y G H S →
    ActOk P w K mg base j Y fv (frs outer) s G H m → wpM (hof m) S (GetsD Y G H Q) (GetsX Y G H E) → codeAny (model P w) A (.call (.ref f) ⟨[.ref fv], []⟩) (CR (L2.CX P w) outer P w H s Q E) s
/-- a def's lambdas -/
structure LamOk (gt : Gt) (Y : Tx) (k : Nat) (C : Orc) (X : Cx) : Prop where
  room : Room (k + 3) X.A
  tab : ∃ c P, LamX.TabB X.base X.mg c P ∧ X.env.code = .ref c ∧ (P, X.env.qual ++ "<lambda>") ∈ Y.tabs
  one : ∀ p ∈ Y.tabs, ∀ q ∈ Y.tabs, p.1 = q.1 → p = q
  hof : ∀ x, gt.lookup x = some .hof → ∃ f, X.mg x = some (.ref f) ∧ PySem.W.keepIn X.K (.ref f) = true ∧ FnT X.prog X.w X.K X.mg X.base (k + 3) f Y (C.hof x)
/-- what a def was handed -/
structure ThkOk (Y : Tx) (C : Orc) (X : Cx) : Prop where
  no : X.ex = []
  act : ∃ fv G0 k, Y.thk = some (fv, G0, X.H_0) ∧ Room k X.A ∧ ActOk X.prog X.w X.K X.mg X.base k Y fv X.fs X.s_0 G0 X.H_0 C.thk
/-- a name of the module is what the table says -/
def GvOk (hot : Bool) (Y : Tx) (k : Nat) (C : Orc) (P : Program) (w : World) (K : PySem.W.Frag) (mg : Str → Option Value) (base : Heap) (x : Str) : Gv → Prop
  | .cst d => ∃ v u, mg x = some u ∧ RelV v u ∧ ∀ G H, RD Y G H v d
  | .fn n => hot = false → ∃ f, mg x = some (.ref f) ∧ PySem.W.keepIn K (.ref f) = true ∧ FnG P w K mg base k f n (spG Y n (C x))
  | .blt => mg x = none
  | .cls c => ∃ C, mg x = some (.ref C) ∧ Y.cls c = some C
  | .cfn c n => (∃ C, mg x = some (.ref C) ∧ Y.cls c = some C) ∧ (hot = false → ∃ f, mg x = some (.ref f) ∧ PySem.W.keepIn K (.ref f) = true ∧ FnG P w K mg base k f n (spG Y n (C x)))
  | .hof => True
  | .xcl c => (∃ C, mg x = some (.ref C) ∧ Y.cls c = some C) ∧ (hot = false → ∃ f, mg x = some (.ref f) ∧ PySem.W.keepIn K (.ref f) = true ∧ FnG P w K mg base k f 1 (spG Y 1 (C x)))
  | .xkw c kn => hot = false → ∃ a, mg c = some (.ref a) ∧ Y.cls c = some a ∧ PySem.W.keepIn K (.ref a) = true ∧ FnK P w K mg base k a kn (spG Y 1 (C x))
  | .dfl f n => hot = false → ∃ a, mg f = some (.ref a) ∧ PySem.W.keepIn K (.ref a) = true ∧ FnG P w K mg base k a n (spG Y n (C x))
  | .mth c m n => hot = false → ∀ Ca, Y.cls c = some Ca → ∃ f, Cls K Ca ∧ Meth K Ca m f ∧ FnG P w K mg base k f (n + 1) (spG Y (n + 1) (C x))
abbrev GtOk (hot : Bool) (gt : Gt) (Y : Tx) (k : Nat) (C : Orc) (P : Program) (w : World) (K : PySem.W.Frag) (mg : Str → Option Value) (base : Heap) : Prop := ∀ x v, gt.lookup x = some v → GvOk hot Y k C P w K mg base x v
/-- what the written part says of an exception's class and field -/
structure XcF (K : PySem.W.Frag) (C : Addr) (f : Str) : Prop where
  ga : PySem.W.findIn K (.ref C) "__getattribute__" = some (some (.builtin "BaseException.__getattribute__"))
  gt : PySem.W.findIn K (.ref C) "__getattr__" = some none
  sub : PySem.W.subIn K (.ref C) (.type "BaseException") = some true
  hd : PySem.W.hasDictIn K C = true
  no : PySem.W.findIn K (.ref C) f = some none
/-- what it says of an instance's class -/
structure InsF (K : PySem.W.Frag) (C : Addr) : Prop where
  cl : Cls K C
  ha : PySem.W.findIn K (.ref C) "__class__" = some (some (.builtin "object.__class__"))
  hn : PySem.W.specialIn K (.builtin "object.__class__") "__get__" = some (some (.builtin "getset_descriptor.__get__"))
  tk : PySem.W.takesIn K (.builtin "object.__class__") = some true
  hm : PySem.W.mroIn K C (.type "object") = some true
  ne : PySem.W.findIn K (.ref C) "__ne__" = some (some (.builtin "object.__ne__"))
def tyNm (s : String) : Bool := s == "str" || s == "int" || s == "bool" || s == "tuple" || s == "list" || s == "dict" || s == "ValueError" || s == "LookupError" || s == "OverflowError" || s == "KeyError" || s == "IndexError"
def tyAll : List String := ["NoneType", "bool", "int", "str", "tuple", "list", "dict"]
structure KinOk (kin : Kin) (Y : Tx) : Prop where
  fld : ∀ c C f, Y.cls c = some C → (kin.fld c).contains f = true → Cls Y.K C ∧ NoAttr Y.K C f
  xfl : ∀ c C f, Y.cls c = some C → (kin.xfl c).contains f = true → XcF Y.K C f
  exm : ∀ c c' C C', kin.isX c = true → kin.isX c' = true → Y.cls c = some C → Y.cls c' = some C' → PySem.W.exmOne Y.K (.ref C) (.ref C') = some ((kin.par c).contains c')
  isT : ∀ c C T, Y.cls c = some C → T ∈ tyAll → PySem.W.kitOne Y.K (.type T) (.ref C) = some false
  isI : ∀ c C, kin.isI c = true → Y.cls c = some C → InsF Y.K C
  isC : ∀ c C n, kin.isI c = true → Y.cls c = some C → tyNm n = true → PySem.W.kitOne Y.K (.ref C) (.type n) = some false
  isK : ∀ c c' C C', kin.isI c = true → Y.cls c = some C → Y.cls c' = some C' → PySem.W.kitOne Y.K (.ref C) (.ref C') = some ((kin.par c).contains c')
  xI : ∀ c C, kin.isX c = true → Y.cls c = some C → ExcC Y.K C
  xC : ∀ c C n, kin.isX c = true → Y.cls c = some C → tyNm n = true → PySem.W.kitOne Y.K (.ref C) (.type n) = some (xnN n && (kin.xb c).contains n)
  xK : ∀ c c' C C', kin.isX c = true → Y.cls c = some C → Y.cls c' = some C' → PySem.W.kitOne Y.K (.ref C) (.ref C') = some ((kin.par c).contains c')
structure Cok (kin : Kin) (gt : Gt) (Y : Tx) (k : Nat) (C : Orc) (g : Cfg) (X : Cx) (W : WX) : Prop where
  ox : XOk Y k g.hot X
  N : X.N = g.N
  sc : X.env.scope = g.sc
  fn : X.fn = g.fn
  tk : Takes X W
  cold : g.hot = false → Y.cur = none
  kok : KinOk kin Y
  cur : ∀ a cls dx, Y.cur = some (a, cls, dx) → ∃ oe, (a, oe) ∈ X.pn ∧ Zc cls dx oe ∧ (∃ vs, oe.data = .fields vs)
  lm : g.lam = true → LamOk gt Y k C X
  th : ∀ i, g.thk = some i → ThkOk Y C X
  gt : GtOk g.hot gt Y k C X.prog X.w X.K X.mg X.base
def RL (look : Bool) (Y : Tx) : Gh → Hp → V → D → Prop := fun G H v d => if look = true then RV Y G H v d else RD Y G H v d
theorem RD.rl {look : Bool} {Y : Tx} {G : Gh} {H : Hp} {v : V} {d : D} (r : RD Y G H v d) : RL look Y G H v d := by
  cases look with
  | true => exact .inl r
  | false => exact r
theorem RL.rv {look : Bool} {Y : Tx} {G : Gh} {H : Hp} {v : V} {d : D} (r : RL look Y G H v d) : RV Y G H v d := by
  cases look with
  | true => exact r
  | false => exact .inl r
def isLstE : Expr → Bool
  | .List .. => true
  | _ => false
def isLcE : Expr → Bool
  | .ListComp .. => true
  | _ => false
/-- list(e), the built-in one -/
def isLiE (gt : Gt) (g : Cfg) : Expr → Bool
  | .Call (.Name x _) [e] [] _ => x == "list" && !isStarred e && (match g.glo gt x with
    | some .blt => true
    | _ => false)
  | _ => false
/-- what gives a new list -/
def isNwE (gt : Gt) (g : Cfg) (e : Expr) : Bool := isLstE e || isLcE e || isLiE gt g e
/-- a list just made: one's own -/
def tN (Y : Tx) (W : WX) (m : Fe → M D) : TE := fun σ H Q => ∃ H0 G ρ S, GOk Y G H S ∧ SR Y H0 G H σ ρ ∧ wpM (m ρ) S (fun d S' => ∀ G' H' a vs ds, d = .lst ds → Ext G H G' H' → GOk Y G' H' S' → H a = none → H' a = some (.lst vs) → ¬ G'.Fz a → ¬ G'.Mu a → RDs Y G' H' vs ds → Q (.ref a) H') (RE Y G H σ W)
/-- a new list, or a value that is none -/
def NV (Y : Tx) (Hb : Hp) (G : Gh) (H : Hp) (v : V) (d : D) : Prop := (∃ a vs ds, v = .ref a ∧ d = .lst ds ∧ Hb a = none ∧ H a = some (.lst vs) ∧ ¬ G.Fz a ∧ ¬ G.Mu a ∧ RDs Y G H vs ds) ∨ ((∀ ds, d ≠ .lst ds) ∧ RD Y G H v d)
def tNV (Y : Tx) (W : WX) (m : Fe → M D) : TE := fun σ H Q => ∃ H0 G ρ S, GOk Y G H S ∧ SR Y H0 G H σ ρ ∧ wpM (m ρ) S (fun d S' => ∀ G' H' v, Ext G H G' H' → GOk Y G' H' S' → NV Y H G' H' v d → Q v H') (RE Y G H σ W)
def isAddE : Expr → Bool
  | .BinOp _ .Add _ _ => true
  | _ => false
structure Snd (kin : Kin) (gt : Gt) (r : Cfg → Cp) : Prop where
  a : ∀ (g : Cfg) (ex : Expr) (i : E) (X : Cx) (Y : Tx) (k : Nat) (C : Orc) (W : WX), isAddE ex = true → (r g).e false ex = some i → Cok kin gt Y k C g X W → PE X ex (tNV Y W (evE kin C i))
  e : ∀ (g : Cfg) (look : Bool) (ex : Expr) (i : E) (X : Cx) (Y : Tx) (k : Nat) (C : Orc) (W : WX), (r g).e look ex = some i → Cok kin gt Y k C g X W → PE X ex (tE Y W (RL look Y) (evE kin C i))
  q : ∀ (g : Cfg) (ex : Expr) (i : Q) (X : Cx) (Y : Tx) (k : Nat) (C : Orc) (W : WX), (r g).q ex = some i → Cok kin gt Y k C g X W → PT X ex (tQ Y W (evT kin C i))
  i : ∀ (g : Cfg) (look : Bool) (tg ex : Expr) (i : I) (X : Cx) (Y : Tx) (k : Nat) (C : Orc) (W : WX), (r g).i look ex = some i → Cok kin gt Y k C g X W → (i.pairs = true → isTupE tg = true) → PI X tg ex (tI Y W look (evI kin C i))
  c : ∀ (g : Cfg) (a : Expr) (ops : List CmpOp) (cs : List Expr) (p : Pos) (i : E) (X : Cx) (Y : Tx) (k : Nat) (C : Orc) (W : WX), (r g).e true (.Compare a ops cs p) = some i → Cok kin gt Y k C g X W → PT X (.Compare a ops cs p) (tQ Y W (evT kin C (.val i)))

  n : ∀ (g : Cfg) (ex : Expr) (i : E) (X : Cx) (Y : Tx) (k : Nat) (C : Orc) (W : WX), isNwE gt g ex = true → (r g).e false ex = some i → Cok kin gt Y k C g X W → PE X ex (tN Y W (evE kin C i))
  l : ∀ (g : Cfg) (elt : Expr) (gs : List Comprehension) (scope : Scope) (p pos : Pos) (px : Pos) (x : Str) (j : Nat) (i : E) (X : Cx) (Y : Tx) (k : Nat) (C : Orc) (W : WX), (r g).e false (.ListComp elt gs scope p) = some i → Cok kin gt Y k C g X W →
    X.N[j]? = some x → X.env.scope.names.lookup x = some .local → swapsWith (.ListComp elt gs scope p) (some (.Name x px)) pos.line X.env = pure true → PS X (.Assign [.Name x px] (.ListComp elt gs scope p) pos) (tAsg (tN Y W (evE kin C i)) (gName j))

theorem starEach_plain {e : Expr} {es : List Expr} {env : Env} (h : isStarred e = false) : starEach (e :: es) env = (false, eval e env) :: starEach es env := by
  cases e <;> first | rfl | cases h
theorem starEach_none {env : Env} {pos : Pos} : ∀ {es : List Expr}, es.all (fun a => !isStarred a) = true → (backTo pos (starEach es env)).any (·.1) = false
  | [], _ => rfl
  | e :: es, h => by
    rw [List.all_cons, Bool.and_eq_true] at h
    rw [starEach_plain (by simpa using h.1)]
    show (false || (backTo pos (starEach es env)).any (·.1)) = false
    rw [starEach_none h.2]; rfl

section
variable {Y : Tx} {k : Nat} {C : Orc} {g : Cfg} {gt : Gt} {X : Cx} {W : WX} {kin : Kin} {look : Bool}

/-! ### leaves -/
theorem findIdx_get {N : List Str} {x : Str} {i : Nat} (h : N.findIdx? (· == x) = some i) : N[i]? = some x := by
  rw [List.findIdx?_eq_some_iff_getElem] at h
  obtain ⟨hl, e, _⟩ := h
  rw [List.getElem?_eq_getElem hl]
  simpa using e
theorem loc_ok (o : Cok kin gt Y k C g X W) {x : Str} {i : Nat} (h : g.loc x = some i) : X.N[i]? = some x ∧ Vis X.env.scope x := by
  unfold Cfg.loc at h
  rw [o.N, o.sc]
  unfold Vis
  split at h
  · rename_i e; exact ⟨findIdx_get h, .inl e⟩
  · rename_i e; exact ⟨findIdx_get h, .inr (.inl e)⟩
  · rename_i e; exact ⟨findIdx_get h, .inr (.inr e)⟩
  · cases h
theorem glo_ok (o : Cok kin gt Y k C g X W) {x : Str} {v : Gv} (h : g.glo gt x = some v) : Gl X x ∧ GvOk g.hot Y k C X.prog X.w X.K X.mg X.base x v := by
  unfold Cfg.glo at h
  split at h
  · rename_i e
    refine ⟨?_, o.gt x v h⟩
    show X.env.scope.names.lookup x = _
    rw [o.sc]; exact e
  · cases h
theorem okName_ok {x : Str} (h : okName x = true) : (x == ("__debug__" : Str)) = false ∧ (x == ("__classdict__" : Str)) = false ∧ x ≠ "__name__" := by
  unfold okName at h
  simp only [Bool.and_eq_true, Bool.not_eq_true', beq_eq_false_iff_ne, ne_eq] at h
  exact ⟨beq_eq_false_iff_ne.mpr h.1.1, beq_eq_false_iff_ne.mpr h.1.2, h.2⟩
theorem t_var {i : Nat} {σ : L2.St} {H : Hp} {Q : VK} (h : tE Y W (RL look Y) (evE kin C (if look = true then .b i else .v i)) σ H Q) : tVar i σ H Q := by
  obtain ⟨H0, G, ρ, S, ok, sr, w⟩ := h
  cases look with
  | false =>
    have w : wpM (evE kin C (.v i) ρ) S (QE Y G H (RL false Y) Q) (RE Y G H σ W) := w
    unfold evE at w
    split at w
    · rename_i d hd
      obtain ⟨v, hv, r⟩ := sr.slot i _ hd
      exact ⟨v, hv, w G H v Ext.refl ok r⟩
    · exact w.elim
  | true =>
    have w : wpM (evE kin C (.b i) ρ) S (QE Y G H (RL true Y) Q) (RE Y G H σ W) := w
    unfold evE at w
    split at w
    · rename_i d hd
      obtain ⟨v, hv, r⟩ := sr.slot i _ hd
      exact ⟨v, hv, w G H v Ext.refl ok (.inl r)⟩
    · rename_i xs hd
      obtain ⟨a, vs, hv, ha, hf, hm, _, r⟩ := sr.slot i _ hd
      exact ⟨.ref a, hv, w G H _ Ext.refl ok (.inr ⟨a, vs, xs, rfl, rfl, ha, hm, r⟩)⟩
    · exact w.elim
theorem t_c {v : V} {d : D} {σ : L2.St} {H : Hp} {Q : VK} (hr : ∀ G H, RD Y G H v d) (h : tE Y W (RL look Y) (evE kin C (.c d)) σ H Q) : tC v σ H Q := by
  obtain ⟨H0, G, ρ, S, ok, sr, w⟩ := h
  exact w G H v Ext.refl ok (hr G H).rl
theorem s_name {x : Str} {pos : Pos} {i : E} (h : nameW gt g look x = some i) (o : Cok kin gt Y k C g X W) : PE X (.Name x pos) (tE Y W (RL look Y) (evE kin C i)) := by
  unfold nameW at h
  split at h
  · rename_i hn
    obtain ⟨n1, n2, n3⟩ := okName_ok hn
    split at h
    · rename_i j hj
      obtain ⟨e1, e2⟩ := loc_ok o hj
      cases h
      refine (pe_var e1 e2 n1 n2).imp fun σ H Q h => ?_
      exact t_var (look := look) (kin := kin) (C := C) h
    · split at h
      · rename_i d hd
        cases h
        obtain ⟨hg, v, u, hm, rv, hr⟩ := glo_ok o hd
        exact (pe_glob hg hm rv n1).imp fun σ H Q h => t_c hr h
      · cases h
  · cases h
theorem s_const {c : Const} {j : Nat} {pos : Pos} {d : D} (h : constD c = some d) : PE X (.Constant c j pos) (tE Y W (RL look Y) (evE kin C (.c d))) := by
  cases c <;> cases h
  · exact pe_non.imp fun σ H Q h => t_c (fun _ _ => .non) h
  · exact pe_bl.imp fun σ H Q h => t_c (fun _ _ => .bl _) h
  · exact pe_int.imp fun σ H Q h => t_c (fun _ _ => .int _) h
  · exact pe_str.imp fun σ H Q h => t_c (fun _ _ => .str _) h

/-! ### operations -/
abbrev PEl (X : Cx) (Y : Tx) (W : WX) (kin : Kin) (C : Orc) (ex : Expr) (i : E) : Prop := PE X ex (tE Y W (RL true Y) (evE kin C i))
theorem t_rl {m : Fe → M D} {σ : L2.St} {H : Hp} {Q : VK} (h : tE Y W (RL look Y) m σ H Q) : tE Y W (RD Y) m σ H Q := by
  obtain ⟨H0, G, ρ, S, ok, sr, w⟩ := h
  exact ⟨H0, G, ρ, S, ok, sr, wpM_mono w (fun d S' q G' H' v e ok' r => q G' H' v e ok' r.rl) fun _ _ h => h⟩
theorem t_lr {m : Fe → M D} {σ : L2.St} {H : Hp} {Q : VK} (h : tE Y W (RV Y) m σ H Q) : tE Y W (RL true Y) m σ H Q := h
theorem s_bin {a b : Expr} {x y : E} {op : Operator} {pos : Pos} (o : Cok kin gt Y k C g X W) (ha : PEl X Y W kin C a x) (hb : PEl X Y W kin C b y) : PE X (.BinOp a op b pos) (tE Y W (RL look Y) (evE kin C (.bin op x y))) :=
  (pe_op (or_bin o.ox op) ha hb).imp fun σ H Q h => tB (t_rl h)
theorem s_cmp {a b : Expr} {x y : E} {op : CmpOp} {pos : Pos} (o : Cok kin gt Y k C g X W) (ha : PEl X Y W kin C a x) (hb : PEl X Y W kin C b y) (hs : isSet b = false) : PE X (.Compare a [op] [b] pos) (tE Y W (RL look Y) (evE kin C (.cmp op x y))) :=
  (pe_cmpR (or_cmp o.ox op) ha hb (by cases b <;> first | rfl | cases hs)).imp fun σ H Q h => tB (t_rl h)
theorem map_bl {o : Option Bool} {f : Bool → Bool} {d : D} (h : (o.map fun b => D.bl (f b)) = some d) : ∃ b, d = .bl b := by
  cases o with
  | none => cases h
  | some b => cases h; exact ⟨_, rfl⟩
theorem cmpD_bl {op : CmpOp} {x y d : D} (h : cmpD op x y = some d) : ∃ b, d = .bl b := by
  unfold cmpD at h
  split at h <;> first
    | (split at h
       · cases h; exact ⟨_, rfl⟩
       · cases eb : emptyEq x y with
         | none => rw [eb] at h; cases h
         | some b => rw [eb] at h; cases h; exact ⟨_, rfl⟩)
    | (repeat' (first | exact map_bl (f := id) h | exact map_bl (f := fun b => !b) h | (split at h <;> try (cases h; done)))
       all_goals first | exact map_bl (f := id) h | exact map_bl (f := fun b => !b) h | (cases h; exact ⟨_, rfl⟩))
theorem t_chain {x y z : E} {op op' : CmpOp} {σ : L2.St} {H : Hp} {Q : VK} (h : tE Y W (RD Y) (evE kin C (.chain op op' x y z)) σ H Q) : tChain (rB Y (cmpD op)) (rB Y (cmpD op')) (tE Y W (RL true Y) (evE kin C x)) (tE Y W (RL true Y) (evE kin C y)) (tE Y W (RL true Y) (evE kin C z)) σ H Q := by
    obtain ⟨H0, G, ρ, S, ok, sr, w⟩ := h
    have w : wpM (evE kin C (.chain op op' x y z) ρ) S (QE Y G H (RD Y) Q) (RE Y G H σ W) := w
    unfold evE at w
    refine ⟨H0, G, ρ, S, ok, sr, wpM_mono (wpM_bind.mp w) (fun d1 S1 w1 G1 H1 v1 e1 ok1 r1 => ?_) fun _ _ h => h⟩
    refine ⟨H0, G1, ρ, S1, ok1, sr.ext e1 ok, wpM_mono (wpM_bind.mp w1) (fun d2 S2 w2 G2 H2 v2 e2 ok2 r2 => ?_) fun x S h => h.trans e1⟩
    obtain ⟨d3, hd3, w3⟩ := wpM_op.mp (wpM_bind.mp w2)
    obtain ⟨bb, rfl⟩ := cmpD_bl hd3
    refine ⟨G2, S2, d1, d2, .bl bb, ok2, (RL.rv r1).ext e2 ok1, RL.rv r2, hd3, fun G3 H3 u e3 ok3 r3 => ?_⟩
    cases r3
    refine ⟨bb, rfl, ?_⟩
    cases bb with
    | false =>
      rw [if_neg (by decide)]
      exact w3 G3 H3 _ (e1.trans (e2.trans e3)) ok3 (.bl _)
    | true =>
      rw [if_pos rfl]
      have w4 := wpM_bind.mp w3
      refine ⟨H0, G3, ρ, S2, ok3, (sr.ext e1 ok).ext (e2.trans e3) ok1, wpM_mono w4 (fun d4 S4 w5 G4 H4 v4 e4 ok4 r4 => ?_) fun x S h => h.trans (e1.trans (e2.trans e3))⟩
      obtain ⟨d5, hd5, w6⟩ := wpM_op.mp w5
      exact ⟨G4, S4, d2, d4, d5, ok4, (RL.rv r2).ext (e3.trans e4) ok2, RL.rv r4, hd5, fun G5 H5 u e5 ok5 r5 => w6 G5 H5 u (e1.trans (e2.trans (e3.trans (e4.trans e5)))) ok5 r5⟩
theorem s_chain {a b c : Expr} {x y z : E} {op op' : CmpOp} {pos : Pos} (o : Cok kin gt Y k C g X W) (ha : PEl X Y W kin C a x) (hb : PEl X Y W kin C b y) (hc : PEl X Y W kin C c z) (hs : isSet c = false) : PE X (.Compare a [op, op'] [b, c] pos) (tE Y W (RL look Y) (evE kin C (.chain op op' x y z))) :=
  (pe_chain (or_cmp o.ox op) (or_cmp o.ox op') ha hb hc (by show behindInMarks op' c = false; cases c <;> first | rfl | cases hs)).imp fun σ H Q h => t_chain (t_rl h)
theorem s_neg {a : Expr} {x : E} {pos : Pos} (ha : PEl X Y W kin C a x) : PE X (.UnaryOp .USub a pos) (tE Y W (RL look Y) (evE kin C (.neg x))) :=
  (pe_un un_neg ha).imp fun σ H Q h => by
    obtain ⟨H0, G, ρ, S, ok, sr, w⟩ := t_rl h
    have w : wpM (evE kin C (.neg x) ρ) S (QE Y G H (RD Y) Q) (RE Y G H σ W) := w
    unfold evE at w
    refine ⟨H0, G, ρ, S, ok, sr, wpM_mono (wpM_bind.mp w) (fun d1 S1 w1 G1 H1 v1 e1 ok1 r1 => ?_) fun _ _ h => h⟩
    split at w1
    · rename_i i
      exact ⟨i, (RL.rv r1).int, w1 G1 H1 _ e1 ok1 (.int _)⟩
    · exact w1.elim
theorem s_not {a : Expr} {x : E} {pos : Pos} (ha : PEl X Y W kin C a x) : PE X (.UnaryOp .Not a pos) (tE Y W (RL look Y) (evE kin C (.not x))) :=
  (pe_not ha).imp fun σ H Q h => by
    obtain ⟨H0, G, ρ, S, ok, sr, w⟩ := t_rl h
    have w : wpM (evE kin C (.not x) ρ) S (QE Y G H (RD Y) Q) (RE Y G H σ W) := w
    unfold evE at w
    refine ⟨H0, G, ρ, S, ok, sr, wpM_mono (wpM_bind.mp w) (fun d1 S1 w1 G1 H1 v1 e1 ok1 r1 => ?_) fun _ _ h => h⟩
    split at w1
    · rename_i i
      exact ⟨i, (RL.rv r1).bl, w1 G1 H1 _ e1 ok1 (.bl _)⟩
    · exact w1.elim
theorem s_and {a b : Expr} {es : List Expr} {x y : E} {pos : Pos} (ha : PE X a (tE Y W (RD Y) (evE kin C x))) (hb : PE X (.BoolOp .And (b :: es) pos) (tE Y W (RD Y) (evE kin C y))) : PE X (.BoolOp .And (a :: b :: es) pos) (tE Y W (RD Y) (evE kin C (.and x y))) :=
  (pe_and ha hb).imp fun σ H Q h => by
    obtain ⟨H0, G, ρ, S, ok, sr, w⟩ := h
    have w : wpM (evE kin C (.and x y) ρ) S (QE Y G H (RD Y) Q) (RE Y G H σ W) := w
    unfold evE at w
    refine ⟨H0, G, ρ, S, ok, sr, wpM_mono (wpM_bind.mp w) (fun d1 S1 w1 G1 H1 v1 e1 ok1 r1 => ?_) fun _ _ h => h⟩
    split at w1
    · cases r1
      refine ⟨true, rfl, ?_⟩
      rw [if_pos rfl]
      exact ⟨H0, G1, ρ, S1, ok1, sr.ext e1 ok, wpM_mono w1 (fun d S2 q G' H' v e' ok' r => q G' H' v (e1.trans e') ok' r) fun x S h => h.trans e1⟩
    · cases r1
      refine ⟨false, rfl, ?_⟩
      rw [if_neg (by decide)]
      exact w1 G1 H1 _ e1 ok1 (.bl _)
    · exact w1.elim
theorem s_or {a b : Expr} {es : List Expr} {x y : E} {pos : Pos} (ha : PE X a (tE Y W (RD Y) (evE kin C x))) (hb : PE X (.BoolOp .Or (b :: es) pos) (tE Y W (RD Y) (evE kin C y))) : PE X (.BoolOp .Or (a :: b :: es) pos) (tE Y W (RD Y) (evE kin C (.or x y))) :=
  (pe_or ha hb).imp fun σ H Q h => by
    obtain ⟨H0, G, ρ, S, ok, sr, w⟩ := h
    have w : wpM (evE kin C (.or x y) ρ) S (QE Y G H (RD Y) Q) (RE Y G H σ W) := w
    unfold evE at w
    refine ⟨H0, G, ρ, S, ok, sr, wpM_mono (wpM_bind.mp w) (fun d1 S1 w1 G1 H1 v1 e1 ok1 r1 => ?_) fun _ _ h => h⟩
    split at w1
    · cases r1
      refine ⟨true, rfl, ?_⟩
      rw [if_pos rfl]
      exact w1 G1 H1 _ e1 ok1 (.bl _)
    · cases r1
      refine ⟨false, rfl, ?_⟩
      rw [if_neg (by decide)]
      exact ⟨H0, G1, ρ, S1, ok1, sr.ext e1 ok, wpM_mono w1 (fun d S2 q G' H' v e' ok' r => q G' H' v (e1.trans e') ok' r) fun x S h => h.trans e1⟩
    · exact w1.elim
theorem s_boolW {r : Cfg → Cp} (sn : Snd kin gt r) (o : Cok kin gt Y k C g X W) {op : BoolOp} {pos : Pos} : ∀ (es : List Expr) (i : E), boolW r g op es = some i → PE X (.BoolOp op es pos) (tE Y W (RD Y) (evE kin C i))
  | [], i, h => by simp [boolW] at h
  | [e], i, h => (pe_one (sn.e g false e i X Y k C W h o)).imp fun σ H Q h => h
  | e :: e2 :: es, i, h => by
    unfold boolW at h
    simp only [Option.bind_eq_bind, Option.bind_eq_some_iff, Option.some.injEq] at h
    obtain ⟨a, h1, b, h2, rfl⟩ := h
    have ih := s_boolW sn o (op := op) (pos := pos) (e2 :: es) b h2
    have h3 : PE X e (tE Y W (RD Y) (evE kin C a)) := sn.e g false e a X Y k C W h1 o
    cases op with
    | And => exact s_and h3 ih
    | Or => exact s_or h3 ih
theorem s_ife {t a b : Expr} {q : Q} {x y : E} {pos : Pos} (ht : PT X t (tQ Y W (evT kin C q))) (ha : PE X a (tE Y W (RD Y) (evE kin C x))) (hb : PE X b (tE Y W (RD Y) (evE kin C y))) : PE X (.IfExp t a b pos) (tE Y W (RL look Y) (evE kin C (.ife q x y))) :=
  (pe_ifExp ht ha hb).imp fun σ H Q h => by
    obtain ⟨H0, G, ρ, S, ok, sr, w⟩ := t_rl h
    have w : wpM (evE kin C (.ife q x y) ρ) S (QE Y G H (RD Y) Q) (RE Y G H σ W) := w
    unfold evE at w
    refine ⟨H0, G, ρ, S, ok, sr, wpM_mono (wpM_bind.mp w) (fun d1 S1 w1 G1 H1 e1 ok1 => ?_) fun _ _ h => h⟩
    have fin : ∀ z : E, wpM (evE kin C z ρ) S1 (QE Y G H (RD Y) Q) (RE Y G H σ W) → tE Y W (RD Y) (evE kin C z) σ H1 Q := fun z w1 => ⟨H0, G1, ρ, S1, ok1, sr.ext e1 ok, wpM_mono w1 (fun d S2 q G' H' v e' ok' r => q G' H' v (e1.trans e') ok' r) fun x S h => h.trans e1⟩
    cases d1 with
    | true => exact fin x w1
    | false => exact fin y w1

/-! ### tests -/
theorem isEmpty_rds {G : Gh} {H : Hp} {vs : List V} {ds : List D} (r : RDs Y G H vs ds) : (!ds.isEmpty) = !vs.isEmpty := by
  cases r <;> rfl
theorem truD_ok (o : Cok kin gt Y k C g X W) {G : Gh} {H : Hp} {v : V} {d : D} {b : Bool} (r : RV Y G H v d) (h : truD d = some b) : TruV X.K v H b := by
  have hK := o.ox.hK
  cases d <;> simp only [truD] at h <;> try (cases h; done)
  · cases r.non; cases h; rfl
  · cases r.bl; cases h; rfl
  · cases r.int; cases h; rfl
  · rename_i z
    cases r.str
    split at h
    · rename_i hz
      cases h
      refine ⟨hz, ?_⟩
      show (z.length != 0) = ((z.length : Int) != 0)
      cases z.length <;> rfl
    · cases h
  · obtain ⟨a, vs, rfl, hq, rs⟩ := r.tup
    cases h
    exact .inr (.inl ⟨vs, by rw [hK]; exact hq, isEmpty_rds rs⟩)
  · obtain ⟨a, vs, rfl, hq, rs⟩ := r.lst
    cases h
    exact .inl ⟨vs, .of hq, isEmpty_rds rs⟩
theorem s_val {a : Expr} {x : E} (o : Cok kin gt Y k C g X W) (ha : PEl X Y W kin C a x) (he : ∀ whole, isTrue a X.env whole = (do let v ← whole; standAt a.pos; holding [v] (truthy v))) : PT X a (tQ Y W (evT kin C (.val x))) :=
  (pt_truth ha he).imp fun σ H Q h => by
    obtain ⟨H0, G, ρ, S, ok, sr, w⟩ := h
    have w : wpM (evT kin C (.val x) ρ) S _ (RE Y G H σ W) := w
    unfold evT at w
    refine ⟨H0, G, ρ, S, ok, sr, wpM_mono (wpM_bind.mp w) (fun d1 S1 w1 G1 H1 v1 e1 ok1 r1 => ?_) fun _ _ h => h⟩
    obtain ⟨b, hb, w2⟩ := wpM_op.mp w1
    exact ⟨b, truD_ok o (RL.rv r1) hb, w2 G1 H1 e1 ok1⟩
/-- a comparison as a test -/
theorem t_test {m : Fe → M D} {t : TE} {σ : L2.St} {H : Hp} {Q : Bool → Hp → Prop} (ht : ∀ σ H Q, tE Y W (RD Y) m σ H Q → t σ H Q) (hbl : ∀ ρ S Qd R, wpM (m ρ) S Qd R → wpM (m ρ) S (fun d S' => Qd d S' ∧ ∃ b, d = .bl b) R) (h : tQ Y W (fun ρ => do M.op (truD (← m ρ))) σ H Q) : tTest t σ H Q := by
  obtain ⟨H0, G, ρ, S, ok, sr, w⟩ := h
  refine ht σ H _ ⟨H0, G, ρ, S, ok, sr, wpM_mono (hbl ρ S _ _ (wpM_bind.mp w)) (fun d1 S1 w1 G1 H1 v1 e1 ok1 r1 => ?_) fun _ _ h => h⟩
  obtain ⟨w1, b, rfl⟩ := w1
  cases r1
  exact ⟨b, rfl, w1 G1 H1 e1 ok1⟩
theorem wpM_and {α : Type} {m : M α} {S : Sto} {Q : α → Sto → Prop} {R : D → Sto → Prop} {p : α → Prop} (h : wpM m S Q R) (hp : ∀ S, wpM m S (fun a _ => p a) (fun _ _ => True)) : wpM m S (fun a S' => Q a S' ∧ p a) R := by
  have key : ∀ t : T α, t.wp Q R → t.wp (fun a _ => p a) (fun _ _ => True) → t.wp (fun a S' => Q a S' ∧ p a) R := by
    intro t
    induction t with
    | ret a S => exact fun h1 h2 => ⟨h1, h2⟩
    | raise x S => exact fun h1 _ => h1
    | fail => exact fun h1 _ => h1
    | draw n k ih => exact fun h1 h2 i hi => ih i (h1 i hi) (h2 i hi)
  exact key _ h (hp S)
/-- whatever ends, ends so -/
def endsIn {α : Type} (p : α → Prop) : T α → Prop
  | .ret a _ => p a
  | .raise _ _ => True
  | .fail => True
  | .draw _ k => ∀ i, endsIn p (k i)
theorem wp_ends {α : Type} {p : α → Prop} {Q : α → Sto → Prop} {R : D → Sto → Prop} : ∀ {t : T α}, endsIn p t → t.wp Q R → t.wp (fun a S' => Q a S' ∧ p a) R
  | .ret _ _, e, h => ⟨h, e⟩
  | .raise _ _, _, h => h
  | .fail, _, h => h
  | .draw _ _, e, h => fun i hi => wp_ends (e i) (h i hi)
theorem ends_bind {α β : Type} {p : β → Prop} {f : α → Sto → T β} : ∀ {t : T α}, (∀ a S, endsIn p (f a S)) → endsIn p (t.bind f)
  | .ret a S, h => h a S
  | .raise _ _, _ => trivial
  | .fail, _ => trivial
  | .draw _ _, h => fun i => ends_bind h
theorem cmp_ends {op : CmpOp} {x y : D} {S : Sto} : endsIn (fun d => ∃ b, d = .bl b) (M.op (cmpD op x y) S) := by
  cases h : cmpD op x y with
  | none => exact trivial
  | some d => exact cmpD_bl h
theorem evT_val (x : E) : evT kin C (.val x) = (fun ρ => do M.op (truD (← evE kin C x ρ))) := by
  funext ρ; unfold evT; rfl
theorem s_tcmp {a b : Expr} {x y : E} {op : CmpOp} {pos : Pos} (o : Cok kin gt Y k C g X W) (ha : PEl X Y W kin C a x) (hb : PEl X Y W kin C b y) (hs : isSet b = false) : PT X (.Compare a [op] [b] pos) (tQ Y W (evT kin C (.val (.cmp op x y)))) :=
  (pt_cmpR (or_cmp o.ox op) ha hb (by cases b <;> first | rfl | cases hs)).imp fun σ H Q h => t_test (m := evE kin C (.cmp op x y)) (fun σ H Q h => tB h) (fun ρ S Qd R h => wp_ends (by unfold evE; exact ends_bind fun d S => ends_bind fun d' S' => cmp_ends) h) (by rw [evT_val] at h; exact h)
theorem s_tchain {a b c : Expr} {x y z : E} {op op' : CmpOp} {pos : Pos} (o : Cok kin gt Y k C g X W) (ha : PEl X Y W kin C a x) (hb : PEl X Y W kin C b y) (hc : PEl X Y W kin C c z) (hs : isSet c = false) : PT X (.Compare a [op, op'] [b, c] pos) (tQ Y W (evT kin C (.val (.chain op op' x y z)))) :=
  (pt_chain (or_cmp o.ox op) (or_cmp o.ox op') ha hb hc (by show behindInMarks op' c = false; cases c <;> first | rfl | cases hs)).imp fun σ H Q h => t_test (m := evE kin C (.chain op op' x y z)) (fun σ H Q h => t_chain h)
    (fun ρ S Qd R h => wp_ends (by
      unfold evE
      refine ends_bind fun d S => ends_bind fun d' S' => ?_
      refine ends_bind fun d'' S'' => ?_
      split
      · exact ends_bind fun _ _ => cmp_ends
      · exact ⟨false, rfl⟩
      · exact trivial) h) (by rw [evT_val] at h; exact h)
/-- a test goes on -/
theorem tQ_on {H0 : Hp} {G G1 : Gh} {H H1 : Hp} {S S1 : Sto} {σ : L2.St} {ρ : Fe} {m : Fe → M Bool} {Q : Bool → Hp → Prop} (e1 : Ext G H G1 H1) (ok : GOk Y G H S) (ok1 : GOk Y G1 H1 S1) (sr : SR Y H0 G H σ ρ)
    (w : wpM (m ρ) S1 (fun b S' => ∀ G' H', Ext G H G' H' → GOk Y G' H' S' → Q b H') (RE Y G H σ W)) : tQ Y W m σ H1 Q :=
  ⟨H0, G1, ρ, S1, ok1, sr.ext e1 ok, wpM_mono w (fun b S2 q G' H' e' ok' => q G' H' (e1.trans e') ok') fun x S h => h.trans e1⟩
theorem t_tand {x y : Q} {σ : L2.St} {H : Hp} {Q : Bool → Hp → Prop} (h : tQ Y W (evT kin C (.and x y)) σ H Q) : tAnd (tQ Y W (evT kin C x)) (tQ Y W (evT kin C y)) σ H Q := by
  obtain ⟨H0, G, ρ, S, ok, sr, w⟩ := h
  unfold evT at w
  refine ⟨H0, G, ρ, S, ok, sr, wpM_mono (wpM_bind.mp w) (fun c S1 w1 G1 H1 e1 ok1 => ?_) fun _ _ h => h⟩
  cases c with
  | true => exact tQ_on e1 ok ok1 sr w1
  | false => exact w1 G1 H1 e1 ok1
theorem t_tor {x y : Q} {σ : L2.St} {H : Hp} {Q : Bool → Hp → Prop} (h : tQ Y W (evT kin C (.or x y)) σ H Q) : tOr (tQ Y W (evT kin C x)) (tQ Y W (evT kin C y)) σ H Q := by
  obtain ⟨H0, G, ρ, S, ok, sr, w⟩ := h
  unfold evT at w
  refine ⟨H0, G, ρ, S, ok, sr, wpM_mono (wpM_bind.mp w) (fun c S1 w1 G1 H1 e1 ok1 => ?_) fun _ _ h => h⟩
  cases c with
  | true => exact w1 G1 H1 e1 ok1
  | false => exact tQ_on e1 ok ok1 sr w1
theorem t_tnot {x : Q} {σ : L2.St} {H : Hp} {Q : Bool → Hp → Prop} (h : tQ Y W (evT kin C (.not x)) σ H Q) : tNot (tQ Y W (evT kin C x)) σ H Q := by
  obtain ⟨H0, G, ρ, S, ok, sr, w⟩ := h
  unfold evT at w
  exact ⟨H0, G, ρ, S, ok, sr, wpM_mono (wpM_bind.mp w) (fun c S1 w1 G1 H1 e1 ok1 => w1 G1 H1 e1 ok1) fun _ _ h => h⟩
theorem s_testW {r : Cfg → Cp} (sn : Snd kin gt r) (o : Cok kin gt Y k C g X W) {op : BoolOp} {pos : Pos} : ∀ (es : List Expr) (i : Q), testW r g op es = some i → PW X (.BoolOp op es pos) (tQ Y W (evT kin C i))
  | [], i, h => by simp [testW] at h
  | [e], i, h => by
    have h1 : PT X e (tQ Y W (evT kin C i)) := sn.q g e i X Y k C W h o
    cases op with
    | And => exact pw_and1 h1
    | Or => exact pw_or1 h1
  | e :: e2 :: es, i, h => by
    unfold testW at h
    simp only [Option.bind_eq_bind, Option.bind_eq_some_iff, Option.some.injEq] at h
    obtain ⟨a, h1, b, h2, rfl⟩ := h
    have ih := s_testW sn o (op := op) (pos := pos) (e2 :: es) b h2
    have h3 : PT X e (tQ Y W (evT kin C a)) := sn.q g e a X Y k C W h1 o
    cases op with
    | And => exact (pw_and h3 ih).imp fun σ H Q h => t_tand h
    | Or => exact (pw_or h3 ih).imp fun σ H Q h => t_tor h

/-! ### displays, argument lists -/
def tEsR (Y : Tx) (W : WX) (R : Gh → Hp → V → D → Prop) (m : Fe → M (List D)) : TA := fun σ H Q => ∃ H0 G ρ S, GOk Y G H S ∧ SR Y H0 G H σ ρ ∧ wpM (m ρ) S (fun ds S' => ∀ G' H' vs, Ext G H G' H' → GOk Y G' H' S' → Paired (R G' H') vs ds → Q vs H') (RE Y G H σ W)
theorem rds_paired {G : Gh} {H : Hp} : ∀ {vs : List V} {ds : List D}, RDs Y G H vs ds → Paired (RD Y G H) vs ds
  | _, _, .nil => .nil
  | _, _, .cons a b => .cons a (rds_paired b)
theorem paired_rds {G : Gh} {H : Hp} : ∀ {vs : List V} {ds : List D}, Paired (RD Y G H) vs ds → RDs Y G H vs ds
  | _, _, .nil => .nil
  | _, _, .cons a b => .cons a (paired_rds b)
theorem rv_paired_ext {G G' : Gh} {H H' : Hp} {S : Sto} (e : Ext G H G' H') (ok : GOk Y G H S) : ∀ {vs : List V} {ds : List D}, Paired (RV Y G H) vs ds → Paired (RV Y G' H') vs ds
  | _, _, .nil => .nil
  | _, _, .cons a b => .cons (a.ext e ok) (rv_paired_ext e ok b)
theorem tEs_nil {σ : L2.St} {H : Hp} {Q : List V → Hp → Prop} (h : tEs Y W (evEs kin C .nil) σ H Q) : tNil σ H Q := by
  obtain ⟨H0, G, ρ, S, ok, sr, w⟩ := h
  unfold evEs at w
  exact w G H [] Ext.refl ok .nil
theorem tEs_cons {x : E} {xs : Es} {σ : L2.St} {H : Hp} {Q : List V → Hp → Prop} (h : tEs Y W (evEs kin C (.cons x xs)) σ H Q) : tCons (tE Y W (RD Y) (evE kin C x)) (tEs Y W (evEs kin C xs)) σ H Q := by
  obtain ⟨H0, G, ρ, S, ok, sr, w⟩ := h
  unfold evEs at w
  refine ⟨H0, G, ρ, S, ok, sr, wpM_mono (wpM_bind.mp w) (fun d S1 w1 G1 H1 v1 e1 ok1 r1 => ?_) fun _ _ h => h⟩
  exact ⟨H0, G1, ρ, S1, ok1, sr.ext e1 ok, wpM_mono (wpM_bind.mp w1) (fun ds S2 w2 G2 H2 vs e2 ok2 r2 => w2 G2 H2 _ (e1.trans e2) ok2 (.cons (r1.ext e2 ok1) r2)) fun x S h => h.trans e1⟩
theorem tEs_star (hK : X.K = Y.K) {x : E} {xs : Es} {σ : L2.St} {H : Hp} {Q : List V → Hp → Prop} (h : tEs Y W (evEs kin C (.star x xs)) σ H Q) : StX.tStar X.K (tE Y W (RL true Y) (evE kin C x)) (tEs Y W (evEs kin C xs)) σ H Q := by
  obtain ⟨H0, G, ρ, S, ok, sr, w⟩ := h
  unfold evEs at w
  refine ⟨H0, G, ρ, S, ok, sr, wpM_mono (wpM_bind.mp w) (fun d S1 w1 G1 H1 v1 e1 ok1 r1 => ?_) fun _ _ h => h⟩
  obtain ⟨ys, hy, w2⟩ := wpM_op.mp (wpM_bind.mp w1)
  obtain ⟨a, vs, rfl, hq, rs⟩ := (RL.rv r1).items hy
  refine ⟨a, vs, rfl, by rw [hK]; exact hq.symm, ?_⟩
  exact ⟨H0, G1, ρ, S1, ok1, sr.ext e1 ok, wpM_mono (wpM_bind.mp w2) (fun ds S2 w2 G2 H2 vs' e2 ok2 r2 => w2 G2 H2 _ (e1.trans e2) ok2 ((rs.ext e2 ok1).append r2)) fun x S h => h.trans e1⟩
theorem tEl_nil {σ : L2.St} {H : Hp} {Q : List V → Hp → Prop} (h : tEsR Y W (RV Y) (evEs kin C .nil) σ H Q) : tNil σ H Q := by
  obtain ⟨H0, G, ρ, S, ok, sr, w⟩ := h
  unfold evEs at w
  exact w G H [] Ext.refl ok .nil
theorem tEl_cons {x : E} {xs : Es} {σ : L2.St} {H : Hp} {Q : List V → Hp → Prop} (h : tEsR Y W (RV Y) (evEs kin C (.cons x xs)) σ H Q) : tCons (tE Y W (RL true Y) (evE kin C x)) (tEsR Y W (RV Y) (evEs kin C xs)) σ H Q := by
  obtain ⟨H0, G, ρ, S, ok, sr, w⟩ := h
  unfold evEs at w
  refine ⟨H0, G, ρ, S, ok, sr, wpM_mono (wpM_bind.mp w) (fun d S1 w1 G1 H1 v1 e1 ok1 r1 => ?_) fun _ _ h => h⟩
  exact ⟨H0, G1, ρ, S1, ok1, sr.ext e1 ok, wpM_mono (wpM_bind.mp w1) (fun ds S2 w2 G2 H2 vs e2 ok2 r2 => w2 G2 H2 _ (e1.trans e2) ok2 (.cons ((RL.rv r1).ext e2 ok1) r2)) fun x S h => h.trans e1⟩
theorem s_es {r : Cfg → Cp} (sn : Snd kin gt r) (o : Cok kin gt Y k C g X W) : ∀ (es : List Expr) (i : Es), esW ((r g).e false) ((r g).e true) es = some i → PA X es (tEs Y W (evEs kin C i))
  | [], i, h => by cases h; exact pa_nil.imp fun σ H Q h => tEs_nil h
  | e :: es, i, h => by
    by_cases hs : isStarred e = true
    · cases e <;> try (cases hs; done)
      rename_i e p
      simp only [esW, Option.bind_eq_bind, Option.bind_eq_some_iff, Option.some.injEq] at h
      obtain ⟨a, h1, b, h2, rfl⟩ := h
      have h3 : PE X e (tE Y W (RL true Y) (evE kin C a)) := sn.e g true e a X Y k C W h1 o
      exact (StX.pa_star h3 (s_es sn o es b h2)).imp fun σ H Q h => tEs_star o.ox.hK h
    · have hs : isStarred e = false := by simpa using hs
      have h' : (do
        let a ← (r g).e false e
        let b ← esW ((r g).e false) ((r g).e true) es
        some (Es.cons a b)) = some i := by
        cases e <;> first | exact h | cases hs
      simp only [Option.bind_eq_bind, Option.bind_eq_some_iff, Option.some.injEq] at h'
      obtain ⟨a, h1, b, h2, rfl⟩ := h'
      have h3 : PE X e (tE Y W (RD Y) (evE kin C a)) := sn.e g false e a X Y k C W h1 o
      exact (pa_cons h3 (s_es sn o es b h2) (starEach_plain hs)).imp fun σ H Q h => tEs_cons h
theorem s_el {r : Cfg → Cp} (sn : Snd kin gt r) (o : Cok kin gt Y k C g X W) : ∀ (es : List Expr) (i : Es), es.all (fun a => !isStarred a) = true → esW ((r g).e true) ((r g).e true) es = some i → PA X es (tEsR Y W (RV Y) (evEs kin C i))
  | [], i, _, h => by cases h; exact pa_nil.imp fun σ H Q h => tEl_nil h
  | e :: es, i, hs, h => by
    rw [List.all_cons, Bool.and_eq_true] at hs
    have hs1 : isStarred e = false := by simpa using hs.1
    have h' : (do
      let a ← (r g).e true e
      let b ← esW ((r g).e true) ((r g).e true) es
      some (Es.cons a b)) = some i := by
      cases e <;> first | exact h | cases hs1
    simp only [Option.bind_eq_bind, Option.bind_eq_some_iff, Option.some.injEq] at h'
    obtain ⟨a, h1, b, h2, rfl⟩ := h'
    have h3 : PE X e (tE Y W (RL true Y) (evE kin C a)) := sn.e g true e a X Y k C W h1 o
    exact (pa_cons h3 (s_el sn o es b hs.2 h2) (starEach_plain hs1)).imp fun σ H Q h => tEl_cons h
theorem s_tup {es : List Expr} {i : Es} {x1 : Nat} {pos : Pos} (h : PA X es (tEs Y W (evEs kin C i))) : PE X (.Tuple es x1 pos) (tE Y W (RL look Y) (evE kin C (.tup i))) :=
  (pe_tup h).imp fun σ H Q h => by
    obtain ⟨H0, G, ρ, S, ok, sr, w⟩ := t_rl h
    unfold evE at w
    refine ⟨H0, G, ρ, S, ok, sr, wpM_mono (wpM_bind.mp w) (fun ds S1 w1 G1 H1 vs e1 ok1 r1 => ?_) fun _ _ h => h⟩
    unfold mkTup at w1
    split at w1
    · rename_i hz
      exact ⟨by rw [r1.length]; exact hz, fin_tup ok1 r1 fun G' H' w e' ok' r' => w1 G' H' w (e1.trans e') ok' r'⟩
    · exact w1.elim
theorem s_lst {es : List Expr} {i : Es} {pos : Pos} (h : PA X es (tEs Y W (evEs kin C i))) : PE X (.List es pos) (tE Y W (RL look Y) (evE kin C (.lst i))) :=
  (pe_lst h).imp fun σ H Q h => by
    obtain ⟨H0, G, ρ, S, ok, sr, w⟩ := t_rl h
    unfold evE at w
    refine ⟨H0, G, ρ, S, ok, sr, wpM_mono (wpM_bind.mp w) (fun ds S1 w1 G1 H1 vs e1 ok1 r1 => ?_) fun _ _ h => h⟩
    unfold mkLst at w1
    split at w1
    · rename_i hz
      exact ⟨by rw [r1.length]; exact hz, fin_lst ok1 r1 fun G' H' w e' ok' r' => w1 G' H' w (e1.trans e') ok' r'⟩
    · exact w1.elim
theorem s_lstN {es : List Expr} {i : Es} {pos : Pos} (h : PA X es (tEs Y W (evEs kin C i))) : PE X (.List es pos) (tN Y W (evE kin C (.lst i))) :=
  (pe_lst h).imp fun σ H Q h => by
    obtain ⟨H0, G, ρ, S, ok, sr, w⟩ := h
    unfold evE at w
    refine ⟨H0, G, ρ, S, ok, sr, wpM_mono (wpM_bind.mp w) (fun ds S1 w1 G1 H1 vs e1 ok1 r1 => ?_) fun _ _ h => h⟩
    unfold mkLst at w1
    split at w1
    · rename_i hz
      refine ⟨by rw [r1.length]; exact hz, fun p np => ?_⟩
      have x : Ext G1 H1 G1 (upd H1 p (.lst vs)) := Ext.new ok1 np
      have np' : H p = none := by
        cases hh : H p with
        | none => rfl
        | some u => exact absurd np (e1.there p (by rw [hh]; exact fun z => nomatch z))
      exact w1 G1 _ p vs ds rfl (e1.trans x) (ok1.new np) np' upd_same (fun z => ok1.fzT p z np) (fun z => ok1.muT p z np) (r1.ext x ok1)
    · exact w1.elim

end
end RM
end
section
set_option Elab.async false
set_option linter.all false
set_option maxRecDepth 100000
set_option autoImplicit false
/-! t[lo:hi:-1] of tuples, xs[::-1] of lists -/
namespace RM
open PySem PySem.Spec PyProof.Rows L2

section
variable {prog : Program} {w : World} {A : Around} {E : Value → Shared → Prop} {s : Shared}
theorem applied_back {sl : Addr} {vl vu vs : Value} {lo hi : Option Int} {n : Nat} {Q : Int × Int × Nat → Shared → Prop} (hs : s.heap.IsSliceOf sl vl vu vs) (pl : IsPart vl lo) (pu : IsPart vu hi) (ps : IsPart vs (some (-1)))
    (h : Q ((Builtin.Slice.sliceAdjust lo hi (-1) (n : Int)).1, -1, Builtin.Slice.slicePlaces (Builtin.Slice.sliceAdjust lo hi (-1) (n : Int)).1 (Builtin.Slice.sliceAdjust lo hi (-1) (n : Int)).2 (-1)) s) : wpAny (model prog w) A (Builtin.Slice.sliceApplied (.ref sl) (pure (n : Int))) Q E s := by
  obtain ⟨os, hos, hcs, hds⟩ := id hs
  unfold Builtin.Slice.sliceApplied Builtin.Slice.sliceFields
  refine wpAny_bind (wpAny_bind (wpAny_field hos hds (x := vl) rfl (wpAny_bind (wpAny_field hos hds (x := vu) rfl (wpAny_bind (wpAny_field hos hds (x := vs) rfl (wpAny_pure ?_)))))))
  refine wpAny_bind (HT.slicePart_ ps ?_)
  show wpAny _ _ (if ((-1 : Int) == 0) = true then _ else _) _ _ s
  rw [if_neg (by decide)]
  exact wpAny_bind (HT.slicePart_ pl (wpAny_bind (HT.slicePart_ pu (wpAny_bind (wpAny_pure (wpAny_pure h))))))
theorem item_back {t sl : Addr} {its : List Value} {vl vu vs : Value} {lo hi : Option Int} {Q : Value → Shared → Prop} (ht : IsTup s.heap t its.toArray) (hs : s.heap.IsSliceOf sl vl vu vs) (pl : IsPart vl lo) (pu : IsPart vu hi) (ps : IsPart vs (some (-1)))
    (h : Q (.ref s.heap.objs.size) { s with heap := s.heap.push { cls := .type "tuple", data := .seq (backV its lo hi).toArray } }) (hz : its.length ≤ sizeLine) : wpAny (model prog w) A (getItem (.ref t) (.ref sl)) Q E s := by
  obtain ⟨os, hos, hcs, hds⟩ := id hs
  have hT : s.TypeIs (.ref sl) "slice" := ⟨os, hos, hcs⟩
  have hlen : its.toArray.size = its.length := List.size_toArray
  have fits : sizeOk (.seq (backV its lo hi).toArray) := by
    show (backV its lo hi).toArray.size ≤ sizeLine
    rw [List.size_toArray]
    exact Nat.le_trans (backV_length its lo hi) hz
  unfold getItem
  try with_reducible refine wpAny_holding ?_
  first | refine wpAny_bind (wpAny_pure ?_) | skip
  refine wpAny_bind (wpAny_sequenceKey ht.typeIs (by decide) (wpAny_bind (wpAny_callSpecial?_slot (name := Str.ofString "__getitem__") ht.typeIs PyProof.Rows.slot_tuple_getitem
    (wpAny_call_entry PyProof.Rows.slot_tuple_getitem ht.typeIs entry_tuple_getitem ?_ (args_tuple_getitem _ _)))))
  show wpAny _ _ (Builtin.Tuple.tupleItemsOf (.ref t) >>= _) _ _ s
  refine wpAny_bind (tupleItemsOf_ ht (wpAny_bind (wpAny_typeOf hT ?_)))
  rw [if_pos (by decide), hlen]
  refine wpAny_bind (applied_back hs pl pu ps ?_)
  dsimp only
  rw [if_neg (by rw [show ((-1 : Int) == 1) = false by decide, Bool.and_false, Bool.false_and]; exact Bool.false_ne_true)]
  have ep : ((List.range (Builtin.Slice.slicePlaces (Builtin.Slice.sliceAdjust lo hi (-1) (its.length : Int)).1 (Builtin.Slice.sliceAdjust lo hi (-1) (its.length : Int)).2 (-1))).filterMap
      fun (k : Nat) => its.toArray[((Builtin.Slice.sliceAdjust lo hi (-1) (its.length : Int)).1 + (k : Int) * (-1)).toNat]?).toArray = (backV its lo hi).toArray := by
    unfold backV
    congr 1
    congr 1
    funext k
    exact List.getElem?_toArray
  rw [ep]
  first
    | exact wpAny_bind (m := Builtin.Tuple.tupleExact _) (wpAny_newObj_type (wpAny_pure ⟨_, rfl, wpAny_pure h⟩) fits)
    | exact wpAny_bind (m := Builtin.Tuple.tupleExact _) (wpAny_newObj_type (wpAny_bind (wpAny_pure (wpAny_pure ⟨_, rfl, wpAny_pure h⟩))) fits)
    | exact wpAny_bind (wpAny_bind (m := Builtin.Tuple.tupleExact _) (wpAny_newObj_type (wpAny_pure (wpAny_pure ⟨_, rfl, wpAny_pure h⟩)) fits))
    | exact wpAny_bind (wpAny_bind (m := Builtin.Tuple.tupleExact _) (wpAny_newObj_type (wpAny_pure ⟨_, rfl, wpAny_pure h⟩) fits))
end

/-- what x[lo:hi:-1] is, by values -/
def BkR (X : Cx) (r : V → Option Int → Option Int → Hp → VK → Prop) : Prop :=
  ∀ (pins : List (Addr × Obj)) (s : Shared) (σ : L2.St) (H : Hp) (x : V) (v vl vu vs : Value) (lo hi : Option Int) (sl : Addr) (Q : VK), Inv X pins σ H s → RelV x v → s.heap.IsSliceOf sl vl vu vs → IsPart vl lo → IsPart vu hi → IsPart vs (some (-1)) → r x lo hi H Q →
    ∃ T id, typeLookup (.type T) "__getitem__" = pure (some (.builtin id)) ∧ s.TypeIs v T ∧ wpAny (model X.prog X.w) X.A (getItem v (.ref sl)) (EP X pins σ Q) X.xe s
section
variable {X : Cx}
theorem pe_back {r : V → Option Int → Option Int → Hp → VK → Prop} {e : Expr} {lo hi : Option Expr} {te : TE} {tl th : TO} {k : Nat} {p1 p2 p3 pos : Pos} (hr : BkR X r) (he : PE X e te) (hl : PO X lo tl) (hu : PO X hi th) :
    PE X (.Subscript e (.Slice lo hi (some (.UnaryOp .USub (.Constant (.int 1) k p1) p2)) p3) pos) (tSl r te tl th) := by
  have hst : PO X (some (.UnaryOp .USub (.Constant (.int 1) k p1) p2)) (tPart (tUn (rU fun i => .int (-i)) (tC (.int 1)))) := po_some (pe_un un_neg pe_int)
  refine ⟨fun pins s σ H Q I h => ?_⟩
  refine Subscript_ (thn (he.run pins s σ H _ I h) fun v s1 ⟨x, H1, I1, r1, q1⟩ => ?_)
  refine wpAny_Slice (thn (hl.run pins s1 σ H1 _ I1 q1) fun vl s2 ⟨l, H2, I2, pl, q2⟩ => thn (hu.run pins s2 σ H2 _ I2 q2) fun vu s3 ⟨u, H3, I3, pu, q3⟩ => ?_)
  refine thn (hst.run pins s3 σ H3 (fun o H4 => o = some (-1) ∧ H4 = H3) I3 ⟨1, rfl, -1, rfl, rfl, rfl⟩) fun vs s4 ⟨o, H4, I4, ps, eo, e4⟩ => ?_
  subst eo e4
  have I5 : Inv X pins σ H4 { s4 with heap := s4.heap.push { cls := .type "slice", data := .fields #[vl, vu, vs] } } := I4.kept (t' := s4.toks) fun b ob q => Heap.get?_push_of_some _ q
  obtain ⟨T, id, hT, ht, hg⟩ := hr pins { s4 with heap := s4.heap.push { cls := .type "slice", data := .fields #[vl, vu, vs] } } σ H4 x v vl vu vs l u s4.heap.objs.size Q I5 r1 (Heap.IsSliceOf.new ..) pl pu ps q3
  show wpAny (model X.prog X.w) X.A (subscriptTail e (.Slice lo hi (some (.UnaryOp .USub (.Constant (.int 1) k p1) p2)) p3) v (.ref s4.heap.objs.size)) (EP X pins σ Q) X.xe { s4 with heap := s4.heap.push { cls := .type "slice", data := .fields #[vl, vu, vs] } }
  exact tail_any (ops := [v, .ref s4.heap.objs.size]) ht hT hg (by with_unfolding_all rfl)
theorem back_tup {pins : List (Addr × Obj)} {s : Shared} {σ : L2.St} {H : Hp} {v vl vu vs : Value} {lo hi : Option Int} {sl a : Addr} {xs : List V} {Q : VK} (I : Inv X pins σ H s) (rx : RelV (.ref a) v) (hs : s.heap.IsSliceOf sl vl vu vs) (pl : IsPart vl lo) (pu : IsPart vu hi) (ps : IsPart vs (some (-1)))
    (hx : SqT X.K H a xs) (q : ∀ p, H p = none → Q (.ref p) (upd H p (.tup (backV xs lo hi)))) :
    ∃ T id, typeLookup (.type T) "__getitem__" = pure (some (.builtin id)) ∧ s.TypeIs v T ∧ wpAny (model X.prog X.w) X.A (getItem v (.ref sl)) (EP X pins σ Q) X.xe s := by
  cases rx
  obtain ⟨its, r, ht, hz⟩ := I.tuple hx
  have hl : its.length = xs.length := r.length.symm
  refine ⟨"tuple", _, PyProof.Rows.slot_tuple_getitem.lookup, ht.typeIs, ?_⟩
  refine item_back ht hs pl pu ps ?_ (by rw [hl]; exact hz)
  refine ⟨.ref s.heap.objs.size, _, I.laid (t' := s.toks) (o := .tup (backV xs lo hi)) (fun b ob z => Heap.get?_push_of_some _ z) (Nat.le_refl _) ?_, rfl, q _ (I.hok.fresh (Nat.le_refl _))⟩
  refine ⟨Nat.le_trans (backV_length xs lo hi) hz, backV its lo hi, ?_, IsTup.new _ _⟩
  have get : ∀ (j : Nat), (xs[j]? = none ∧ its[j]? = none) ∨ ∃ x y, xs[j]? = some x ∧ its[j]? = some y ∧ RelV x y := by
    clear hx hl ht hz q
    intro j
    induction r generalizing j with
    | nil => exact .inl ⟨rfl, rfl⟩
    | @cons x y xs' ys' h t ih =>
      cases j with
      | zero => exact .inr ⟨x, y, rfl, rfl, h⟩
      | succ j => simpa using ih j
  unfold backV
  rw [hl]
  generalize (List.range _) = ks
  induction ks with
  | nil => exact .nil
  | cons k ks ih =>
    rw [List.filterMap_cons, List.filterMap_cons]
    rcases get ((Builtin.Slice.sliceAdjust lo hi (-1) (xs.length : Int)).1 + (k : Int) * (-1)).toNat with ⟨e1, e2⟩ | ⟨x, y, e1, e2, rv⟩
    · rw [e1, e2]; exact ih
    · rw [e1, e2]; exact .cons rv ih
theorem back_lst {pins : List (Addr × Obj)} {s : Shared} {σ : L2.St} {H : Hp} {v vl vu vs : Value} {sl a : Addr} {xs : List V} {Q : VK} (I : Inv X pins σ H s) (rx : RelV (.ref a) v) (hs : s.heap.IsSliceOf sl vl vu vs) (pl : IsPart vl none) (pu : IsPart vu none) (ps : IsPart vs (some (-1)))
    (hx : SqL X.K H a xs) (q : ∀ p, H p = none → Q (.ref p) (upd H p (.lst xs.reverse))) :
    ∃ T id, typeLookup (.type T) "__getitem__" = pure (some (.builtin id)) ∧ s.TypeIs v T ∧ wpAny (model X.prog X.w) X.A (getItem v (.ref sl)) (EP X pins σ Q) X.xe s := by
  cases rx
  obtain ⟨its, r, ht, hz⟩ := I.list hx
  have hl : its.length = xs.length := r.length.symm
  refine ⟨"list", _, PySem.slot_list_getitem.lookup, ht.isList.typeIs, ?_⟩
  refine wpAny_getItem_list_slice ht.isList hs pl pu ps (by decide) ?_ (by rw [List.size_toArray, hl]; exact hz)
  rw [PySem.W.krv_pick]
  exact ⟨.ref _, _, I.laid (t' := s.toks) (o := .lst xs.reverse) (fun b ob z => Heap.get?_push_of_some _ z) (Nat.le_refl _) ⟨by rw [List.length_reverse]; exact hz, _, 0, r.reverse, Heap.get?_push_size _ rfl⟩, rfl, q _ (I.hok.fresh (Nat.le_refl _))⟩
end
end RM
end
section
set_option Elab.async false
set_option linter.all false
set_option maxRecDepth 100000
set_option autoImplicit false
/-! sound: calls, isinstance, subscripts, slices -/
namespace RM
open PySem PySem.Spec PyProof.Rows L2
section
variable {Y : Tx} {k : Nat} {C : Orc} {g : Cfg} {gt : Gt} {X : Cx} {W : WX} {kin : Kin} {look : Bool}

/-! ### defs of the module -/
theorem t_app {f : Str} {n : Nat} {i : Es} {σ : L2.St} {H : Hp} {Q : VK} (hn : ∀ ρ S Qd R, wpM (evEs kin C i ρ) S Qd R → wpM (evEs kin C i ρ) S (fun ds S' => Qd ds S' ∧ ds.length = n) R) (h : tE Y W (RL look Y) (evE kin C (.app f i)) σ H Q) : tCallG (spG Y n (C f)) W (tEs Y W (evEs kin C i)) σ H Q := by
  obtain ⟨H0, G, ρ, S, ok, sr, w⟩ := t_rl h
  unfold evE at w
  refine ⟨H0, G, ρ, S, ok, sr, wpM_mono (hn ρ S _ _ (wpM_bind.mp w)) (fun ds S1 w1 G1 H1 vs e1 ok1 r1 => ?_) fun _ _ h => h⟩
  obtain ⟨w1, hl⟩ := w1
  exact ⟨by rw [r1.length, hl], G1, S1, ds, ok1, r1, wpM_mono w1 (fun d S2 q G' H' v e' ok' r => q G' H' v (e1.trans e') ok' r) fun x S h => h.trans e1⟩
def Es.len : Es → Option Nat
  | .nil => some 0
  | .cons _ r => r.len.map (· + 1)
  | .star _ _ => none
theorem es_ends : ∀ {i : Es} {n : Nat} {ρ : Fe} {S : Sto}, i.len = some n → endsIn (fun ds => ds.length = n) (evEs kin C i ρ S)
  | .nil, n, ρ, S, h => by
    cases h
    unfold evEs
    exact rfl
  | .cons e r, n, ρ, S, h => by
    simp only [Es.len, Option.map_eq_some_iff] at h
    obtain ⟨m, hm, rfl⟩ := h
    unfold evEs
    refine ends_bind fun d S' => ?_
    have ih := es_ends (i := r) (ρ := ρ) (S := S') hm
    show endsIn _ ((evEs kin C r ρ S').bind _)
    generalize evEs kin C r ρ S' = t at ih
    induction t with
    | ret a S => exact congrArg (· + 1) ih
    | raise x S => trivial
    | fail => trivial
    | draw n k ihk => exact fun i => ihk i (ih i)
  | .star _ _, n, ρ, S, h => by simp [Es.len] at h
theorem esW_len {fv fl : Expr → Option E} : ∀ {es : List Expr} {i : Es}, es.all (fun a => !isStarred a) = true → esW fv fl es = some i → i.len = some es.length
  | [], i, _, h => by cases h; rfl
  | e :: es, i, hs, h => by
    rw [List.all_cons, Bool.and_eq_true] at hs
    have hs1 : isStarred e = false := by simpa using hs.1
    have h' : (do
      let a ← fv e
      let b ← esW fv fl es
      some (Es.cons a b)) = some i := by
      cases e <;> first | exact h | cases hs1
    simp only [Option.bind_eq_bind, Option.bind_eq_some_iff, Option.some.injEq] at h'
    obtain ⟨a, h1, b, h2, rfl⟩ := h'
    simp only [Es.len, esW_len hs.2 h2, Option.map_some, List.length_cons]
theorem s_appQ {r : Cfg → Cp} (sn : Snd kin gt r) (o : Cok kin gt Y k C g X W) {f q : Str} {args : List Expr} {n : Nat} {i : Es} {p pos : Pos} (hf : okName f = true) (hs : args.all (fun a => !isStarred a) = true) (hgl : Gl X f) (hx : ∃ a, X.mg f = some (.ref a) ∧ PySem.W.keepIn X.K (.ref a) = true ∧ FnG X.prog X.w X.K X.mg X.base k a n (spG Y n (C q))) (hh : g.hot = false) (hl : args.length = n) (hi : esW ((r g).e false) ((r g).e true) args = some i) :
    PE X (.Call (.Name f p) args [] pos) (tE Y W (RL look Y) (evE kin C (.app q i))) := by
  obtain ⟨n1, n2, n3⟩ := okName_ok hf
  obtain ⟨a, hm, hk, F⟩ := hx
  have hlen := esW_len hs hi
  have hn : ∀ ρ S Qd R, wpM (evEs kin C i ρ) S Qd R → wpM (evEs kin C i ρ) S (fun ds S' => Qd ds S' ∧ ds.length = n) R := fun ρ S Qd R h => wp_ends (es_ends (hl ▸ hlen)) h
  have ha := s_es sn o args i hi
  cases args with
  | nil =>
    cases hi
    refine (pe_callG0 F (o.ox.room hh) o.ox.gd o.tk hgl hm hk n1).imp fun σ H Q h => ?_
    have h' := t_app hn h
    obtain ⟨H0, G, ρ, S, ok, sr, w⟩ := h'
    unfold evEs at w
    exact w G H [] Ext.refl ok .nil
  | cons e es =>
    rw [List.all_cons, Bool.and_eq_true] at hs
    exact (pe_callG F (o.ox.room hh) o.ox.gd o.tk hgl hm hk ha n1 (starEach_plain (by simpa using hs.1)) (starEach_none hs.2)).imp fun σ H Q h => t_app hn h

theorem s_app {r : Cfg → Cp} (sn : Snd kin gt r) (o : Cok kin gt Y k C g X W) {f : Str} {args : List Expr} {n : Nat} {i : Es} {p pos : Pos} (hf : okName f = true) (hs : args.all (fun a => !isStarred a) = true) (hg : g.glo gt f = some (.fn n) ∨ ∃ c, g.glo gt f = some (.cfn c n)) (hh : g.hot = false) (hl : args.length = n) (hi : esW ((r g).e false) ((r g).e true) args = some i) :
    PE X (.Call (.Name f p) args [] pos) (tE Y W (RL look Y) (evE kin C (.app f i))) := by
  rcases hg with hg | ⟨c, hg⟩
  · obtain ⟨hgl, hf0⟩ := glo_ok o hg
    exact s_appQ sn o hf hs hgl (hf0 hh) hh hl hi
  · obtain ⟨hgl, _, hf0⟩ := glo_ok o hg
    exact s_appQ sn o hf hs hgl (hf0 hh) hh hl hi
theorem dflF_ok {f q : Str} {m : Nat} (h : dflF gt f m = some q) : gt.lookup q = some (.dfl f m) := by
  unfold dflF at h
  obtain ⟨p, _, hp⟩ := List.exists_of_findSome?_eq_some h
  split at hp
  · rename_i f' m' hl
    split at hp
    · rename_i e
      cases hp
      rw [Bool.and_eq_true, beq_iff_eq, beq_iff_eq] at e
      rw [← e.1, ← e.2]; exact hl
    · cases hp
  · cases hp
theorem s_dfl {r : Cfg → Cp} (sn : Snd kin gt r) (o : Cok kin gt Y k C g X W) {f : Str} {args : List Expr} {i : E} {p pos : Pos} (hf : okName f = true) (hs : args.all (fun a => !isStarred a) = true) (hgl : Gl X f) (h : dflW gt r g f args = some i) :
    PE X (.Call (.Name f p) args [] pos) (tE Y W (RL look Y) (evE kin C i)) := by
  unfold dflW at h
  split at h
  · rename_i q hq
    split at h
    · rename_i hh
      simp only [Option.map_eq_some_iff] at h
      obtain ⟨es, he, rfl⟩ := h
      have hh : g.hot = false := by simpa using hh
      exact s_appQ sn o hf hs hgl (o.gt q _ (dflF_ok hq) hh) hh rfl he
    · cases h
  · cases h

/-! ### methods -/
theorem RDf.none_ {G : Gh} {H : Hp} {m : Str} : ∀ {fv : List (Str × V)} {fs : List (Str × D)}, RDf Y G H fv fs → (fs.lookup m).isNone = true → fv.lookup m = none
  | _, _, .nil, _ => rfl
  | _, _, .cons (f := f) h r, e => by
    rw [List.lookup_cons] at e ⊢
    split at e
    · cases e
    · exact RDf.none_ r e
theorem mths_ok {m : Str} {n : Nat} {c q : Str} (h : (mths gt m n).lookup c = some q) : gt.lookup q = some (.mth c m n) := by
  have : (c, q) ∈ mths gt m n := by
    revert h
    generalize mths gt m n = l
    induction l with
    | nil => intro h; cases h
    | cons p l ih =>
      intro h
      rw [List.lookup_cons] at h
      split at h
      · rename_i e
        cases h
        rw [beq_iff_eq] at e
        subst e
        exact List.mem_cons_self
      · exact List.mem_cons_of_mem _ (ih h)
  unfold mths at this
  obtain ⟨p, _, hp⟩ := List.mem_filterMap.mp this
  split at hp
  · rename_i c' m' n' hl
    split at hp
    · rename_i e
      cases hp
      rw [Bool.and_eq_true, beq_iff_eq, beq_iff_eq] at e
      rw [← e.1, ← e.2]; exact hl
    · cases hp
  · cases hp
theorem plainO_ok {o : Expr} (h : plainO o = true) (m : Str) (env : Env) : attributeBase o m env (eval o env) = eval o env := by
  cases o with
  | Call f as kws p =>
    cases f with
    | Attribute => rfl
    | _ =>
      cases as with
      | nil => cases h
      | cons => rfl
  | _ => first | rfl | cases h
theorem t_mth {m : Str} {n : Nat} {x : E} {i : Es} {σ : L2.St} {H : Hp} {Q : VK} (o : Cok kin gt Y k C g X W) (hh : g.hot = false) (hn : ∀ ρ S Qd R, wpM (evEs kin C i ρ) S Qd R → wpM (evEs kin C i ρ) S (fun ds S' => Qd ds S' ∧ ds.length = n) R)
    (h : tE Y W (RL look Y) (evE kin C (.mth x m (mths gt m n) i)) σ H Q) : tMethG X k m W (tE Y W (RL true Y) (evE kin C x)) (tEs Y W (evEs kin C i)) σ H Q := by
  obtain ⟨H0, G, ρ, S, ok, sr, w⟩ := t_rl h
  unfold evE at w
  refine ⟨H0, G, ρ, S, ok, sr, wpM_mono (wpM_bind.mp w) (fun d S1 w1 G1 H1 v e1 ok1 r1 => ?_) fun _ _ h => h⟩
  cases d with
  | ins c fs =>
    rcases RL.rv r1 with r | ⟨_, _, _, _, z, _⟩
    · cases r with
      | @ins a Ca dx _ fv _ ha hf hc rf =>
        have w1 : wpM (if (fs.lookup m).isNone then (match (mths gt m n).lookup c with
          | some q => (do
            let xs ← evEs kin C i ρ
            C q (.ins c fs :: xs))
          | none => M.fail) else M.fail) S1 (QE Y G H (RD Y) Q) (RE Y G H σ W) := w1
        split at w1
        · rename_i hnone
          split at w1
          · rename_i q hq
            obtain ⟨f, k1, k2, F⟩ := o.gt q _ (mths_ok hq) hh Ca hc
            have hl : fv.lookup m = none := rf.none_ hnone
            refine ⟨a, Ca, dx, fv, f, n + 1, _, rfl, ha, k1, k2, hl, F, H0, G1, ρ, S1, ok1, sr.ext e1 ok, wpM_mono (hn ρ S1 _ _ (wpM_bind.mp w1)) (fun ds S2 w2 G2 H2 vs e2 ok2 r2 => ?_) fun x S h => h.trans e1⟩
            obtain ⟨w2, hlen⟩ := w2
            exact ⟨by rw [List.length_cons, r2.length, hlen], G2, S2, _, ok2, .cons ((RD.ins ha hf hc rf).ext e2 ok1) r2, wpM_mono w2 (fun d S3 q G' H' v e' ok' r => q G' H' v (e1.trans (e2.trans e')) ok' r) fun x S h => (h.trans e1).trans e2⟩
          · exact w1.elim
        · exact w1.elim
    · cases z
  | _ => exact w1.elim
theorem s_mth {r : Cfg → Cp} (sn : Snd kin gt r) (o : Cok kin gt Y k C g X W) {a : Expr} {m : Str} {args : List Expr} {i : E} {apos pos : Pos} (h : mthW gt r g a m apos args pos = some i) : PE X (.Call (.Attribute a m apos) args [] pos) (tE Y W (RL look Y) (evE kin C i)) := by
  unfold mthW at h
  split at h
  · rename_i hc
    simp only [Bool.and_eq_true, Bool.not_eq_true', decide_eq_true_eq] at hc
    obtain ⟨⟨⟨⟨⟨hs, hline⟩, hh⟩, hp⟩, hl⟩, _⟩ := hc
    simp only [Option.bind_eq_bind, Option.bind_eq_some_iff, Option.some.injEq] at h
    obtain ⟨x, hx, es, he, rfl⟩ := h
    have hlen := esW_len hs he
    have hn : ∀ ρ S Qd R, wpM (evEs kin C es ρ) S Qd R → wpM (evEs kin C es ρ) S (fun ds S' => Qd ds S' ∧ ds.length = args.length) R := fun ρ S Qd R h => wp_ends (es_ends hlen) h
    have ho := sn.e g true a x X Y k C W hx o
    have ha := s_es sn o args es he
    have hb := plainO_ok hp m X.env
    cases args with
    | nil =>
      cases he
      refine (pe_methG0 ho (o.ox.room hh) o.ox.gd o.tk hb hline).imp fun σ H Q h => ?_
      have h' := t_mth o hh hn h
      obtain ⟨H0, G, ρ, S, ok, sr, w⟩ := h'
      refine ⟨H0, G, ρ, S, ok, sr, wpM_mono w (fun d S1 w1 G1 H1 v e1 ok1 r1 => ?_) fun _ _ h => h⟩
      obtain ⟨a, Ca, dx, fv, f, n, sp, q1, q2, q3, q4, q5, q6, q7⟩ := w1 G1 H1 v e1 ok1 r1
      refine ⟨a, Ca, dx, fv, f, n, sp, q1, q2, q3, q4, q5, q6, ?_⟩
      obtain ⟨H0', G', ρ', S', ok', sr', w'⟩ := q7
      unfold evEs at w'
      exact w' G' H1 [] Ext.refl ok' .nil
    | cons e es' =>
      rw [List.all_cons, Bool.and_eq_true] at hs
      exact (pe_methG ho (o.ox.room hh) o.ox.gd o.tk ha hb hline (starEach_plain (by simpa using hs.1)) (starEach_none hs.2) hl).imp fun σ H Q h => t_mth o hh hn h
  · cases h

theorem s_at {r : Cfg → Cp} (sn : Snd kin gt r) (o : Cok kin gt Y k C g X W) {a : Expr} {m : Str} {args : List Expr} {i : E} {apos pos : Pos} (h : atW gt r g a m apos args pos = some i) : PE X (.Call (.Attribute a m apos) args [] pos) (tE Y W (RL look Y) (evE kin C i)) := by
  unfold atW at h
  split at h
  · rename_i hm
    have hm : m = "index" := beq_iff_eq.mp hm
    subst hm
    unfold idxW at h
    split at h
    · rename_i e
      split at h
      · rename_i hc
        simp only [Bool.and_eq_true, Bool.not_eq_true'] at hc
        obtain ⟨⟨hs, hline⟩, hp⟩ := hc
        simp only [Option.bind_eq_bind, Option.bind_eq_some_iff, Option.some.injEq] at h
        obtain ⟨x, hx, y, hy, rfl⟩ := h
        have s1 := starEach_plain (es := []) (env := X.env) hs
        refine (pe_bm PySem.F.plainAttrs_list PySem.F.slot_list_index PySem.F.type_list_index (mt_idxL (Y := Y) o.ox) (sn.e g true a x X Y k C W hx o) (pa_cons (sn.e g true e y X Y k C W hy o) pa_nil s1) (plainO_ok hp _ _) (by rw [s1]; rfl) hline s1 (starEach_none (by simp [hs]))).imp fun σ H Q h => ?_
        obtain ⟨H0, G, ρ, S, ok, sr, w⟩ := t_rl h
        unfold evE at w
        refine ⟨H0, G, ρ, S, ok, sr, wpM_mono (wpM_bind.mp w) (fun d S1 w1 G1 H1 v e1 ok1 r1 => ?_) fun _ _ h => h⟩
        cases d with
        | lst ys =>
          obtain ⟨p, vs, rfl, ha, rs⟩ := (RL.rv r1).lst
          refine ⟨.inl ⟨rfl, vs, .of ha⟩, H0, G1, ρ, S1, ok1, sr.ext e1 ok, wpM_mono (wpM_bind.mp w1) (fun d2 S2 w2 G2 H2 v2 e2 ok2 r2 => ?_) fun x S h => h.trans e1⟩
          obtain ⟨d3, hd3, w3⟩ := wpM_op.mp w2
          obtain ⟨j, hj, rfl⟩ := Option.map_eq_some_iff.mp hd3
          exact ⟨v2, G2, S2, .lst ys, d2, j, rfl, ok2, (RL.rv r1).ext e2 ok1, RL.rv r2, hj, w3 G2 H2 _ (e1.trans e2) ok2 (.int _)⟩
        | _ => exact w1.elim
      · cases h
    · cases h
  · exact s_mth sn o h

/-! ### built-ins -/
theorem t_bi {b : Bi} {i : Es} {σ : L2.St} {H : Hp} {Q : VK} (h : tE Y W (RL look Y) (evE kin C (.bi b i)) σ H Q) : tCB (rBi Y kin b) (tEsR Y W (RV Y) (evEs kin C i)) σ H Q := by
  obtain ⟨H0, G, ρ, S, ok, sr, w⟩ := t_rl h
  unfold evE at w
  refine ⟨H0, G, ρ, S, ok, sr, wpM_mono (wpM_bind.mp w) (fun ds S1 w1 G1 H1 vs e1 ok1 r1 => ?_) fun _ _ h => h⟩
  obtain ⟨d, hd, w2⟩ := wpM_op.mp w1
  exact ⟨G1, S1, ds, d, ok1, r1, hd, fun G' H' v e' ok' r => w2 G' H' v (e1.trans e') ok' r⟩
theorem biOf_ok {x : Str} {n : Nat} {b : Bi} (h : biOf x n = some b) : bootBuiltins x = some b.val ∧ b.plain = true := by
  unfold biOf at h
  split at h
  · rename_i e; cases h; rw [beq_iff_eq.mp e]; exact ⟨boot_len, rfl⟩
  split at h
  · rename_i e; cases h; rw [beq_iff_eq.mp e]; exact ⟨boot_all, rfl⟩
  split at h
  · rename_i e; cases h; rw [beq_iff_eq.mp e]; exact ⟨boot_any, rfl⟩
  split at h
  · rename_i e
    rw [beq_iff_eq.mp e]
    split at h <;> cases h <;> exact ⟨boot_tuple, rfl⟩
  split at h
  · rename_i e; cases h; rw [beq_iff_eq.mp e]; exact ⟨boot_list, rfl⟩
  split at h
  · rename_i e; cases h; rw [beq_iff_eq.mp e]; exact ⟨boot_sorted, rfl⟩
  split at h
  · rename_i e; cases h; rw [beq_iff_eq.mp e]; exact ⟨boot_sum, rfl⟩
  split at h
  · rename_i e; cases h; rw [beq_iff_eq.mp e]; exact ⟨boot_repr, rfl⟩
  split at h
  · rename_i e; cases h; rw [beq_iff_eq.mp e]; exact ⟨boot_int, rfl⟩
  split at h
  · rename_i e
    rw [Bool.and_eq_true] at e
    cases h; rw [beq_iff_eq.mp e.1]; exact ⟨boot_min, rfl⟩
  split at h
  · rename_i e
    rw [Bool.and_eq_true] at e
    cases h; rw [beq_iff_eq.mp e.1]; exact ⟨boot_max, rfl⟩
  · cases h
theorem pe_bi {t : TA} {x : Str} {b : Bi} {e : Expr} {es : List Expr} {p pos : Pos} (o : Cok kin gt Y k C g X W) (hv : bootBuiltins x = some b.val) (hb : b.plain = true) (hh : g.hot = false ∨ b.cold = true) (hx : okName x = true) (hg : Gl X x) (hm : X.mg x = none) (ha : PA X (e :: es) t) (hs : (e :: es).all (fun a => !isStarred a) = true) :
    PE X (.Call (.Name x p) (e :: es) [] pos) (tCB (rBi Y kin b) t) := by
  obtain ⟨n1, n2, n3⟩ := okName_ok hx
  have hc := or_bi o.ox kin b hb hh
  rw [List.all_cons, Bool.and_eq_true] at hs
  have h1 := starEach_plain (es := es) (env := X.env) (show isStarred e = false by simpa using hs.1)
  have h2 := starEach_none (env := X.env) (pos := pos) hs.2
  cases b <;> first
    | exact pe_callB hc hg hm hv ha n3 n1 h1 h2
    | exact pe_callTy hc hg hm hv ha n3 n1 h1 h2
    | cases hb
theorem s_bi {r : Cfg → Cp} (sn : Snd kin gt r) (o : Cok kin gt Y k C g X W) {f : Str} {args : List Expr} {n : Nat} {b : Bi} {i : Es} {p pos : Pos} (hne : args ≠ []) (hf : okName f = true) (hs : args.all (fun a => !isStarred a) = true) (hg : g.glo gt f = some .blt) (hb : biOf f n = some b) (hh : g.hot = false ∨ b.cold = true) (hi : esW ((r g).e true) ((r g).e true) args = some i) :
    PE X (.Call (.Name f p) args [] pos) (tE Y W (RL look Y) (evE kin C (.bi b i))) := by
  obtain ⟨hgl, hm⟩ := glo_ok o hg
  obtain ⟨hv, hp⟩ := biOf_ok hb
  have ha := s_el sn o args i hs hi
  cases args with
  | nil => exact absurd rfl hne
  | cons e es => exact (pe_bi (kin := kin) o hv hp hh hf hgl hm ha hs).imp fun σ H Q h => t_bi h

/-- list(e): a new list -/
theorem esW_cons {fv fl : Expr → Option E} {e : Expr} {es : List Expr} (h : isStarred e = false) : esW fv fl (e :: es) = (do
    let a ← fv e
    let b ← esW fv fl es
    some (Es.cons a b)) := by
  cases e <;> first | rfl | cases h
theorem s_liN {r : Cfg → Cp} (sn : Snd kin gt r) (o : Cok kin gt Y k C g X W) {e : Expr} {y : E} {p pos : Pos} (hs : isStarred e = false) (hg : g.glo gt "list" = some .blt) (hi : (r g).e true e = some y) :
    PE X (.Call (.Name "list" p) [e] [] pos) (tN Y W (evE kin C (.bi .list (.cons y .nil)))) := by
  obtain ⟨hgl, hm⟩ := glo_ok o hg
  have h1 := starEach_plain (es := []) (env := X.env) hs
  refine (pe_callTy call_list_of hgl hm boot_list (pa_cons (sn.e g true e y X Y k C W hi o) pa_nil h1) (by decide) (by decide) h1 rfl).imp fun σ H Q h => ?_
  obtain ⟨H0, G, ρ, S, ok, sr, w⟩ := h
  unfold evE at w
  have w1 := wpM_bind.mp w
  unfold evEs at w1
  refine ⟨H0, G, ρ, S, ok, sr, wpM_mono (wpM_bind.mp w1) (fun d S1 w1 G1 H1 v e1 ok1 r1 => ?_) fun _ _ h => h⟩
  unfold evEs at w1
  have w1 := wpM_bind.mp w1
  have w1 : wpM (M.op (biD kin Bi.list [d])) S1 _ _ := w1
  obtain ⟨d2, hd, w2⟩ := wpM_op.mp w1
  have hd : (itemsD d).map D.lst = some d2 := hd
  cases ei : itemsD d with
  | none => rw [ei] at hd; cases hd
  | some xs =>
    rw [ei] at hd
    cases hd
    obtain ⟨a, ws, rfl, q1, q2⟩ := (RL.rv r1).items ei
    refine ⟨a, ws, rfl, by rw [o.ox.hK]; exact q1, fun l nl => ?_⟩
    have x : Ext G1 H1 G1 (upd H1 l (.lst ws)) := Ext.new ok1 nl
    have np' : H l = none := by
      cases hh : H l with
      | none => rfl
      | some u => exact absurd nl (e1.there l (by rw [hh]; exact fun z => nomatch z))
    exact w2 G1 _ l ws xs rfl (e1.trans x) (ok1.new nl) np' upd_same (fun z => ok1.fzT l z nl) (fun z => ok1.muT l z nl) (q2.ext x ok1)

/-! ### isinstance -/
/-- a class as a value -/
def TyV (Y : Tx) : Ty → V → Value → Prop
  | .b n, v, u => v = .ty n ∧ u = .type n ∧ tyNm n = true
  | .c c, v, u => ∃ C, Y.cls c = some C ∧ v = .ref C ∧ u = .ref C
theorem TyV.cls {t : Ty} {v : V} {u : Value} (h : TyV Y t v u) : ClsV v u := by
  cases t with
  | b n => obtain ⟨rfl, rfl, _⟩ := h; exact .ty n
  | c c => obtain ⟨C, _, rfl, rfl⟩ := h; exact .own C
set_option maxHeartbeats 4000000 in
theorem tyOf_ok {e : Expr} {t : Ty} (o : Cok kin gt Y k C g X W) (h : tyOf gt g e = some t) : isStarred e = false ∧ ∃ v u, TyV Y t v u ∧ PE X e (tC v) := by
  unfold tyOf at h
  split at h
  · rename_i x p
    refine ⟨rfl, ?_⟩
    split at h
    · rename_i c hg
      split at h
      · rename_i hn
        cases h
        obtain ⟨n1, n2, n3⟩ := okName_ok hn
        obtain ⟨hgl, C', hm, hc⟩ := glo_ok o hg
        exact ⟨.ref C', .ref C', ⟨C', hc, rfl, rfl⟩, pe_glob hgl hm rfl n1⟩
      · cases h
    · rename_i c n hg
      split at h
      · rename_i hn
        cases h
        obtain ⟨n1, n2, n3⟩ := okName_ok hn
        obtain ⟨hgl, ⟨C', hm, hc⟩, _⟩ := glo_ok o hg
        exact ⟨.ref C', .ref C', ⟨C', hc, rfl, rfl⟩, pe_glob hgl hm rfl n1⟩
      · cases h
    · rename_i c hg
      split at h
      · rename_i hn
        cases h
        obtain ⟨n1, n2, n3⟩ := okName_ok hn
        obtain ⟨hgl, ⟨C', hm, hc⟩, _⟩ := glo_ok o hg
        exact ⟨.ref C', .ref C', ⟨C', hc, rfl, rfl⟩, pe_glob hgl hm rfl n1⟩
      · cases h
    · rename_i hg
      obtain ⟨hgl, hm⟩ := glo_ok o hg
      split at h
      · rename_i e; cases h; rw [beq_iff_eq.mp e] at hgl hm ⊢; exact ⟨_, _, ⟨rfl, rfl, by decide⟩, pe_bltn hgl hm boot_str rfl⟩
      split at h
      · rename_i e; cases h; rw [beq_iff_eq.mp e] at hgl hm ⊢; exact ⟨_, _, ⟨rfl, rfl, by decide⟩, pe_bltn hgl hm boot_int rfl⟩
      split at h
      · rename_i e; cases h; rw [beq_iff_eq.mp e] at hgl hm ⊢; exact ⟨_, _, ⟨rfl, rfl, by decide⟩, pe_bltn hgl hm boot_bool rfl⟩
      split at h
      · rename_i e; cases h; rw [beq_iff_eq.mp e] at hgl hm ⊢; exact ⟨_, _, ⟨rfl, rfl, by decide⟩, pe_bltn hgl hm boot_tuple rfl⟩
      split at h
      · rename_i e; cases h; rw [beq_iff_eq.mp e] at hgl hm ⊢; exact ⟨_, _, ⟨rfl, rfl, by decide⟩, pe_bltn hgl hm boot_list rfl⟩
      split at h
      · rename_i e; cases h; rw [beq_iff_eq.mp e] at hgl hm ⊢; exact ⟨_, _, ⟨rfl, rfl, by decide⟩, pe_bltn hgl hm boot_dict rfl⟩
      split at h
      · rename_i e; cases h; rw [beq_iff_eq.mp e] at hgl hm ⊢; exact ⟨_, _, ⟨rfl, rfl, by decide⟩, pe_bltn hgl hm (show bootBuiltins "ValueError" = some (.type "ValueError") by decide +kernel) rfl⟩
      split at h
      · rename_i e; cases h; rw [beq_iff_eq.mp e] at hgl hm ⊢; exact ⟨_, _, ⟨rfl, rfl, by decide⟩, pe_bltn hgl hm (show bootBuiltins "LookupError" = some (.type "LookupError") by decide +kernel) rfl⟩
      split at h
      · rename_i e; cases h; rw [beq_iff_eq.mp e] at hgl hm ⊢; exact ⟨_, _, ⟨rfl, rfl, by decide⟩, pe_bltn hgl hm (show bootBuiltins "OverflowError" = some (.type "OverflowError") by decide +kernel) rfl⟩
      split at h
      · rename_i e; cases h; rw [beq_iff_eq.mp e] at hgl hm ⊢; exact ⟨_, _, ⟨rfl, rfl, by decide⟩, pe_bltn hgl hm (show bootBuiltins "KeyError" = some (.type "KeyError") by decide +kernel) rfl⟩
      split at h
      · rename_i e; cases h; rw [beq_iff_eq.mp e] at hgl hm ⊢; exact ⟨_, _, ⟨rfl, rfl, by decide⟩, pe_bltn hgl hm (show bootBuiltins "IndexError" = some (.type "IndexError") by decide +kernel) rfl⟩
      · cases h
    · cases h
  · cases h
/-- the type of a value -/
def D.ty : D → String
  | .non => "NoneType"
  | .bl _ => "bool"
  | .int _ => "int"
  | .str _ => "str"
  | .tup _ => "tuple"
  | .lst _ => "list"
  | .scr _ => "list"
  | _ => "dict"
def D.isIns : D → Bool
  | .ins _ _ => true
  | .exc _ _ => true
  | _ => false
theorem kit_all (n : String) (hn : tyNm n = true) (d : D) (hb : d.basic kin = true) (hi : d.isIns = false) : kitB d.ty n = some (isiD kin d (.b n)) := by
  unfold tyNm at hn
  simp only [Bool.or_eq_true, beq_iff_eq] at hn
  rcases hn with (((((((((rfl | rfl) | rfl) | rfl) | rfl) | rfl) | rfl) | rfl) | rfl) | rfl) | rfl <;> cases d <;> first | (cases hb; done) | (cases hi; done) | (simp only [D.ty, isiD]; decide +kernel)
theorem ty_all (d : D) (hb : d.basic kin = true) (hi : d.isIns = false) : d.ty ∈ tyAll ∧ ∀ c, isiD kin d (.c c) = false := by
  cases d <;> first | (cases hb; done) | (cases hi; done) | exact ⟨by simp [tyAll, D.ty], fun _ => rfl⟩
theorem isi_kit {G : Gh} {H : Hp} {S : Sto} {v : V} {d : D} (o : Cok kin gt Y k C g X W) (ok : GOk Y G H S) (r : RV Y G H v d) (hb : d.basic kin = true) : ∃ tv, TyY X.K H v tv ∧ ∀ {t : Ty} {cv : V} {cu : Value}, TyV Y t cv cu → PySem.W.kitOne X.K tv cu = some (isiD kin d t) := by
  have hK := o.ox.hK
  have plain : TyX X.K H v (.type d.ty) → d.isIns = false → ∃ tv, TyY X.K H v tv ∧ ∀ {t : Ty} {cv : V} {cu : Value}, TyV Y t cv cu → PySem.W.kitOne X.K tv cu = some (isiD kin d t) := fun h hi => by
    refine ⟨_, .inl h, fun {t cv cu} ht => ?_⟩
    cases t with
    | b n =>
      obtain ⟨_, rfl, hn⟩ := ht
      exact kit_ty (kit_all n hn d hb hi)
    | c c =>
      obtain ⟨C', hc, _, rfl⟩ := ht
      obtain ⟨h1, h2⟩ := ty_all (kin := kin) d hb hi
      rw [h2 c, hK]
      exact o.kok.isT c C' _ hc h1
  rcases r with r | ⟨a, vs, ds, rfl, rfl, h, _⟩
  · cases r with
    | non => exact plain (.base .non) rfl
    | bl b => exact plain (.base (.bl b)) rfl
    | int i => exact plain (.base (.int i)) rfl
    | str x => exact plain (.base (.str x)) rfl
    | tup h _ =>
      rcases h with (h | ⟨ob, h⟩) | ⟨ob, its, n, h, hc, _⟩
      · exact plain (.base (.tup h)) rfl
      · exact plain (.fTuple h) rfl
      · exact plain (.kTuple (by rw [hK]; exact h) hc) rfl
    | scr h =>
      rcases h with ⟨ob, h⟩ | ⟨ob, its, n, h, hc, _⟩
      · exact plain (.base (.frz h)) rfl
      · exact plain (.kList (by rw [hK]; exact h) hc) rfl
    | lst h _ _ => exact plain (.base (.lst h)) rfl
    | dct h _ _ => exact plain (.base (.dK h)) rfl
    | dcT h _ _ _ => exact plain (.base (.dT h)) rfl
    | @exc a C1 p c fv fs h _ hp _ hc _ =>
      have hb : kin.isX c = true := hb
      refine ⟨.ref C1, .inr ⟨a, C1, p, fv, rfl, h, hp, rfl, by rw [hK]; exact o.kok.xI c C1 hb hc⟩, fun {t cv cu} ht => ?_⟩
      rw [hK]
      cases t with
      | b n =>
        obtain ⟨_, rfl, hn⟩ := ht
        exact o.kok.xC c C1 n hb hc hn
      | c c' =>
        obtain ⟨C2, hc2, _, rfl⟩ := ht
        exact o.kok.xK c c' C1 C2 hb hc hc2
    | drw h =>
      obtain ⟨l, ns, ms, n, h, _⟩ := ok.dr _ h
      exact plain (.base (.dK h)) rfl
    | @ins a C1 dx c fv fs h _ hc _ =>
      have hb : kin.isI c = true := hb
      have f := o.kok.isI c C1 hb hc
      refine ⟨.ref C1, .inl (.base (.ins h (by rw [hK]; exact f.cl) (by rw [hK]; exact f.ha) (by rw [hK]; exact f.hn) (by rw [hK]; exact f.tk) (by rw [hK]; exact f.hm))), fun {t cv cu} ht => ?_⟩
      rw [hK]
      cases t with
      | b n =>
        obtain ⟨_, rfl, hn⟩ := ht
        exact o.kok.isC c C1 n hb hc hn
      | c c' =>
        obtain ⟨C2, hc2, _, rfl⟩ := ht
        exact o.kok.isK c c' C1 C2 hb hc hc2
  · exact plain (.base (.lst h)) rfl
theorem s_isi1 {a t : Expr} {x : E} {ty : Ty} {cv : V} {cu : Value} {p pos : Pos} (o : Cok kin gt Y k C g X W) (ha : PEl X Y W kin C a x) (h1 : isStarred a = false) (ht : PE X t (tC cv)) (h2 : isStarred t = false) (hn : TyV Y ty cv cu) (hg : g.glo gt "isinstance" = some .blt) :
    PE X (.Call (.Name "isinstance" p) [a, t] [] pos) (tE Y W (RL look Y) (evE kin C (.bi (.isi [ty]) (.cons x .nil)))) := by
  obtain ⟨hgl, hm⟩ := glo_ok o hg
  have s1 := starEach_plain (es := [t]) (env := X.env) h1
  have s2 := starEach_plain (es := []) (env := X.env) h2
  refine (pe_callB call_isY hgl hm boot_isinstance (pa_cons ha (pa_cons ht pa_nil s2) s1) (by decide) (by decide) s1 (starEach_none (by simp [h2]))).imp fun σ H Q h => ?_
  have h' := t_bi h
  obtain ⟨H0, G, ρ, S, ok, sr, w⟩ := h'
  unfold evEs at w
  refine ⟨H0, G, ρ, S, ok, sr, wpM_mono (wpM_bind.mp w) (fun d S1 w1 G1 H1 v1 e1 ok1 r1 => ?_) fun _ _ h => h⟩
  unfold evEs at w1
  obtain ⟨G2, S2, ds, d2, ok2, r2, e2, q2⟩ := w1 G1 H1 [v1] e1 ok1 (.cons (RL.rv r1) .nil)
  obtain ⟨x2, rfl⟩ : ∃ x2, ds = [x2] := by
    cases r2 with
    | cons _ t => cases t; exact ⟨_, rfl⟩
  have r3 : RV Y G2 H1 v1 x2 := by cases r2; assumption
  have e2 : (if x2.basic kin then some (D.bl ([ty].any (isiD kin x2))) else none) = some d2 := e2
  split at e2
  · rename_i hb
    cases e2
    obtain ⟨tv, t1, t2⟩ := isi_kit o ok2 r3 hb
    refine ⟨v1, cv, tv, cu, _, rfl, hn.cls, t1, t2 hn, ?_⟩
    have := q2 G2 H1 (.bl (isiD kin x2 ty)) Ext.refl ok2 (by simp only [List.any_cons, List.any_nil, Bool.or_false]; exact .bl _)
    exact this
  · cases e2
theorem tys_ok (o : Cok kin gt Y k C g X W) : ∀ {es : List Expr} {ts : List Ty}, tysOf gt g es = some ts → ∃ cvs cus, Paired ClsV cvs cus ∧ cvs.length = es.length ∧ (∃ ta, PA X es ta ∧ ∀ σ H Q, Q cvs H → ta σ H Q) ∧ (∀ tv d, (∀ {t : Ty} {cv : V} {cu : Value}, TyV Y t cv cu → PySem.W.kitOne X.K tv cu = some (isiD kin d t)) → PySem.W.kitAny X.K tv cus = some (ts.any (isiD kin d)))
  | [], ts, h => by
    cases h
    exact ⟨[], [], .nil, rfl, ⟨_, pa_nil, fun σ H Q q => q⟩, fun _ _ _ => rfl⟩
  | e :: es, ts, h => by
    simp only [tysOf, Option.bind_eq_bind, Option.bind_eq_some_iff, Option.some.injEq] at h
    obtain ⟨t, ht, ts', hts, rfl⟩ := h
    obtain ⟨s1, cv, cu, hv, he⟩ := tyOf_ok o ht
    obtain ⟨cvs, cus, hp, hl, ⟨ta, ha, q⟩, hk⟩ := tys_ok o hts
    refine ⟨cv :: cvs, cu :: cus, .cons hv.cls hp, by rw [List.length_cons, List.length_cons, hl], ⟨_, pa_cons he ha (starEach_plain s1), fun σ H Q z => q σ H _ z⟩, fun tv d hd => ?_⟩
    unfold PySem.W.kitAny
    rw [hd hv, List.any_cons]
    cases isiD kin d t with
    | true => rfl
    | false => exact hk tv d hd
theorem s_isiN {a : Expr} {es : List Expr} {x : E} {ts : List Ty} {p pos : Pos} {x1 : Nat} {p2 : Pos} (o : Cok kin gt Y k C g X W) (ha : PEl X Y W kin C a x) (h1 : isStarred a = false) (ht : tysOf gt g es = some ts) (hl : es.length < 100) (hg : g.glo gt "isinstance" = some .blt) :
    PE X (.Call (.Name "isinstance" p) [a, .Tuple es x1 p2] [] pos) (tE Y W (RL look Y) (evE kin C (.bi (.isi ts) (.cons x .nil)))) := by
  obtain ⟨hgl, hm⟩ := glo_ok o hg
  obtain ⟨cvs, cus, hp, hle, ⟨ta, hta, hq⟩, hk⟩ := tys_ok o ht
  have s1 := starEach_plain (es := [.Tuple es x1 p2]) (env := X.env) h1
  refine (pe_callB call_isYT hgl hm boot_isinstance (pa_cons ha (pa_cons (pe_tup hta) pa_nil rfl) s1) (by decide) (by decide) s1 (starEach_none rfl)).imp fun σ H Q h => ?_
  have h' := t_bi h
  obtain ⟨H0, G, ρ, S, ok, sr, w⟩ := h'
  unfold evEs at w
  refine ⟨H0, G, ρ, S, ok, sr, wpM_mono (wpM_bind.mp w) (fun d S1 w1 G1 H1 v1 e1 ok1 r1 => ?_) fun _ _ h => h⟩
  unfold evEs at w1
  obtain ⟨G2, S2, ds, d2, ok2, r2, e2, q2⟩ := w1 G1 H1 [v1] e1 ok1 (.cons (RL.rv r1) .nil)
  obtain ⟨x2, rfl⟩ : ∃ x2, ds = [x2] := by
    cases r2 with
    | cons _ t => cases t; exact ⟨_, rfl⟩
  have r3 : RV Y G2 H1 v1 x2 := by cases r2; assumption
  have e2 : (if x2.basic kin then some (D.bl (ts.any (isiD kin x2))) else none) = some d2 := e2
  refine hq _ _ _ ⟨by rw [hle]; exact Nat.le_trans (Nat.le_of_lt hl) (by decide), fun q hq => ?_⟩
  split at e2
  · rename_i hb
    cases e2
    have ex : Ext G2 H1 G2 (upd H1 q (.tup cvs)) := Ext.new ok2 hq
    obtain ⟨tv, t1, t2⟩ := isi_kit o (ok2.new hq) (r3.ext ex ok2) hb
    refine ⟨v1, q, cvs, tv, cus, ts.any (isiD kin x2), rfl, upd_same, hp, t1, hk tv x2 t2, ?_⟩
    exact q2 G2 _ (.bl (ts.any (isiD kin x2))) ex (ok2.new hq) (.bl _)
  · cases e2

/-! ### fields -/
theorem _root_.RM.RDf.at_ {G : Gh} {H : Hp} {f : Str} {e : D} : ∀ {fv : List (Str × V)} {fs : List (Str × D)}, RDf Y G H fv fs → fs.lookup f = some e → ∃ v, fv.lookup f = some v ∧ RD Y G H v e
  | _, _, .nil, h => by cases h
  | (g, v) :: vs, (_, d) :: ds, .cons r rs, h => by
    rw [List.lookup_cons] at h ⊢
    cases hb : f == g with
    | true => rw [hb] at h; cases h; exact ⟨v, rfl, r⟩
    | false => rw [hb] at h; exact RDf.at_ rs h
theorem s_fld {a : Expr} {x : E} {f : Str} {pos : Pos} (o : Cok kin gt Y k C g X W) (ha : PEl X Y W kin C a x) (hb : attributeBase a f X.env (eval a X.env) = eval a X.env) : PE X (.Attribute a f pos) (tE Y W (RL look Y) (evE kin C (.fld x f))) := by
  refine ⟨fun pins s σ H Q I h => ?_⟩
  obtain ⟨H0, G, ρ, S, ok, sr, w⟩ := t_rl h
  unfold evE at w
  refine attr_of hb (thn (ha.run pins s σ H (fun v1 H1 => ∃ G1 d d2, RV Y G1 H1 v1 d ∧ fldD kin f d = some d2 ∧ ∀ v2, RD Y G1 H1 v2 d2 → Q v2 H1) I ⟨H0, G, ρ, S, ok, sr, wpM_mono (wpM_bind.mp w) (fun d S1 w1 G1 H1 v1 e1 ok1 r1 => by
    obtain ⟨d2, hd, q⟩ := wpM_op.mp w1
    exact ⟨G1, d, d2, RL.rv r1, hd, fun v2 r2 => q G1 H1 v2 e1 ok1 r2⟩) fun _ _ h => h⟩) fun u s1 ⟨v1, H1, I1, ru, G1, d, d2, r1, hd, q⟩ => ?_)
  have hK := o.ox.hK
  cases d <;> simp only [fldD] at hd <;> try (cases hd; done)
  · rename_i c fs
    split at hd
    · rename_i hc
      rcases r1 with r | ⟨_, _, _, _, z, _⟩
      · cases r with
        | @ins a' C1 dx _ fv _ h hf hcl rf =>
          obtain ⟨k1, k2⟩ := o.kok.fld c C1 f hcl hc
          obtain ⟨v, hv, rv⟩ := rf.at_ hd
          obtain rfl : u = Value.ref a' := ru
          exact getattr_ok I1 h (by rw [hK]; exact k1) (by rw [hK]; exact k2) hv fun u' s2 I2 ru => ⟨v, H1, I2, ru, q v rv⟩
      · cases z
    · cases hd
  · rename_i c fs
    split at hd
    · rename_i hc
      rcases r1 with r | ⟨_, _, _, _, z, _⟩
      · cases r with
        | @exc a' C1 p _ fv _ h hf hp hf2 hcl rf =>
          have F := o.kok.xfl c C1 f hcl hc
          obtain ⟨v, hv1, rv⟩ := rf.at_ hd
          obtain rfl : u = Value.ref a' := ru
          obtain ⟨oe, vs, he, hz, hdt⟩ := (show ObjOk X.prog X.w H1 s1.heap a' (xo a' C1 p) from I1.hok a' _ h).1
          obtain ⟨mA, hn, hr⟩ := (show ObjOk X.prog X.w H1 s1.heap p (.xd fv) from I1.hok p _ hp)
          obtain ⟨od, ho, hl⟩ := lookIn_ns hn
          obtain ⟨u, hu, ru⟩ := RelO.some_of (v := v) (o := mA f) (by rw [← hv1]; exact hr f)
          refine PySem.PX.exc_get I1.kIn (od := some od) ⟨he, hz.1, ?_, ?_⟩ (by rw [hK]; exact F.ga) (by rw [hK]; exact F.gt) (by rw [hK]; exact F.sub) (PySem.W.findObj_own (by rw [hK]; exact F.hd) (by rw [hK]; exact F.no) rfl (by rw [hl, hu])) (handed_of ru) ?_
          · unfold PySem.W.notCls
            rw [hdt]
          · rw [hz.2]
            exact ho
          · exact ⟨v, H1, I1.tok _, ru, q v rv⟩
      · cases z
    · cases hd
/-- the field of the exception in hand -/
theorem s_xfl {x f : Str} {i : Nat} {p0 pos : Pos} (o : Cok kin gt Y k C g X W) (hN : X.N[i]? = some x) (hv : Vis X.env.scope x) (n1 : (x == ("__debug__" : Str)) = false) (n2 : (x == ("__classdict__" : Str)) = false) :
    PE X (.Attribute (.Name x p0) f pos) (tE Y W (RL look Y) (evE kin C (.xfl i f))) := by
  refine ⟨fun pins s σ H Q I h => ?_⟩
  obtain ⟨H0, G, ρ, S, ok, sr, w⟩ := t_rl h
  unfold evE at w
  split at w
  · rename_i xx hs
    obtain ⟨d, hd, q⟩ := wpM_op.mp w
    obtain ⟨a, cls, dx, hσ, hcur, c, C1, fs, p, fv, rfl, hc, rfl, rfl, hp, hm, rf⟩ := sr.slot i _ hs
    obtain ⟨oe, hpn, hz, vs, hvs⟩ := o.cur _ _ _ hcur
    simp only [xflD] at hd
    split at hd
    · rename_i hcf
      obtain ⟨v, hv1, rv⟩ := rf.at_ hd
      have F := o.kok.xfl c C1 f hc hcf
      have hK := o.ox.hK
      refine attr_of rfl (thn ((pe_var hN hv n1 n2).run pins s σ H (fun v H1 => v = .ref a ∧ H1 = H) I ⟨.ref a, hσ, rfl, rfl⟩) fun u s1 ⟨v1, H1, I1, r1, e1, e2⟩ => ?_)
      subst e1 e2
      obtain rfl : u = Value.ref a := r1
      obtain ⟨mA, hn, hr⟩ := (show ObjOk X.prog X.w H1 s1.heap p (.xd fv) from I1.hok p _ hp)
      obtain ⟨od, ho, hl⟩ := lookIn_ns hn
      obtain ⟨u, hu, ru⟩ := RelO.some_of (v := v) (o := mA f) (by rw [← hv1]; exact hr f)
      have hat := (I1.pin (a, oe) (List.mem_append_left _ hpn)).1
      refine PySem.PX.exc_get I1.kIn (od := some od) ⟨hat, hz.1, ?_, ?_⟩ (by rw [hK]; exact F.ga) (by rw [hK]; exact F.gt) (by rw [hK]; exact F.sub) (PySem.W.findObj_own (by rw [hK]; exact F.hd) (by rw [hK]; exact F.no) rfl (by rw [hl, hu])) (handed_of ru) ?_
      · unfold PySem.W.notCls
        rw [hvs]
      · rw [hz.2]
        exact ho
      · exact ⟨v, H1, I1.tok _, ru, q G H1 v Ext.refl ok rv⟩
    · cases hd
  · exact w.elim

/-! ### subscripts, slices -/
theorem or_ix (o : Cok kin gt Y k C g X W) : IxR X (rB Y subD) := by
  intro value slice pins s σ H v w u1 u2 Q I rx ry ⟨G, S, x, y, d, ok, r1, r2, e, q⟩ hs
  have hK := o.ox.hK
  have at_ok : ∀ {vs : List V} {ds : List D} {j : Int} {z : D}, RDs Y G H vs ds → atI ds j = some z → ∃ z', atI vs j = some z' ∧ RD Y G H z' z := fun {vs ds j z} rs h => by
    unfold atI at h ⊢
    rw [rs.length]
    cases hj : ixN ds.length j with
    | none => rw [hj] at h; cases h
    | some jj =>
      rw [hj] at h
      exact rs.get' h
  cases x <;> try (simp only [subD] at e; cases e; done)
  · rename_i z
    cases y <;> try (simp only [subD] at e; cases e; done)
    rename_i j
    cases r1.str
    cases r2.int
    simp only [subD] at e
    split at e
    · rename_i hz
      simp only [Option.map_eq_some_iff] at e
      obtain ⟨c, hc, rfl⟩ := e
      exact ix_str value slice pins s σ H _ _ u1 u2 Q I rx ry ⟨z, j, c, rfl, rfl, hz, hc, q G H _ Ext.refl ok (.str _)⟩ hs
    · cases e
  · rename_i xs
    cases y <;> try (simp only [subD] at e; cases e; done)
    rename_i j
    obtain ⟨a, vs, rfl, hq, rs⟩ := r1.tup
    cases r2.int
    obtain ⟨z', hz, rz⟩ := at_ok rs e
    exact ix_tup value slice pins s σ H _ _ u1 u2 Q I rx ry ⟨a, vs, j, z', rfl, rfl, by rw [hK]; exact hq, hz, q G H _ Ext.refl ok rz⟩ hs
  · rename_i xs
    cases y <;> try (simp only [subD] at e; cases e; done)
    rename_i j
    obtain ⟨a, vs, rfl, hq, rs⟩ := r1.lst
    cases r2.int
    obtain ⟨z', hz, rz⟩ := at_ok rs e
    exact ix_list value slice pins s σ H _ _ u1 u2 Q I rx ry ⟨a, vs, j, z', rfl, rfl, .of hq, hz, q G H _ Ext.refl ok rz⟩ hs
theorem s_sub {a b : Expr} {x y : E} {pos : Pos} (o : Cok kin gt Y k C g X W) (ha : PEl X Y W kin C a x) (hb : PEl X Y W kin C b y) (hs : isSlice b = false) : PE X (.Subscript a b pos) (tE Y W (RL look Y) (evE kin C (.sub x y))) :=
  (pe_ix (or_ix o) ha hb (fun v u => by cases b <;> first | rfl | cases hs)).imp fun σ H Q h => tB (f := subD) (by
    have h' := t_rl h
    obtain ⟨H0, G, ρ, S, ok, sr, w⟩ := h'
    unfold evE at w
    exact ⟨H0, G, ρ, S, ok, sr, w⟩)

/-- a slice by values -/
def rSl (Y : Tx) : V → Option Int → Option Int → Hp → VK → Prop := fun v lo hi H Q => ∃ G S x d, GOk Y G H S ∧ RV Y G H v x ∧ slO x lo hi = some d ∧ ∀ G' H' u, Ext G H G' H' → GOk Y G' H' S → RD Y G' H' u d → Q u H'
theorem cut_rds {G : Gh} {H : Hp} {vs : List V} {ds : List D} (r : RDs Y G H vs ds) (lo hi : Option Int) : RDs Y G H (cutV vs lo hi) (cutD ds lo hi) := by
  unfold cutV cutD
  rw [r.length]
  exact (r.drop _).take _
theorem or_sl (o : Cok kin gt Y k C g X W) : SlR X (rSl Y) := by
  intro pins s σ H v u vl vu lo hi sl Q I rx hs pl pu ⟨G, S, x, d, ok, r, e, q⟩
  have hK := o.ox.hK
  cases x <;> try (simp only [slO] at e; cases e; done)
  · rename_i z
    cases r.str
    simp only [slO] at e
    split at e
    · rename_i hz
      cases e
      exact sl_str pins s σ H _ u vl vu lo hi sl Q I rx hs pl pu ⟨z, rfl, hz, q G H _ Ext.refl ok (.str _)⟩
    · cases e
  · rename_i xs
    obtain ⟨a, vs, rfl, hq, rs⟩ := r.tup
    cases e
    refine sl_tupA pins s σ H _ u vl vu lo hi sl Q I rx hs pl pu ⟨a, vs, rfl, by rw [hK]; exact hq, fun hw => ?_, fun _ => fin_tup ok (cut_rds rs lo hi) q⟩
    have e1 : cutD xs lo hi = xs := by
      unfold cutD
      rw [← rs.length, hw.1, hw.2]
      simp [rs.length]
    have q' := q G H (.ref a) Ext.refl ok
    rw [e1] at q'
    exact q' (.tup hq rs)
  · rename_i xs
    obtain ⟨a, vs, rfl, hq, rs⟩ := r.lst
    cases e
    exact sl_list pins s σ H _ u vl vu lo hi sl Q I rx hs pl pu ⟨a, vs, rfl, .of hq, fin_lst ok (cut_rds rs lo hi) q⟩
def tO (Y : Tx) (W : WX) (m : Fe → M D) : TO := fun σ H Q => ∃ H0 G ρ S, GOk Y G H S ∧ SR Y H0 G H σ ρ ∧ wpM (m ρ) S (fun d S' => ∀ G' H' o, Ext G H G' H' → GOk Y G' H' S' → bndD d = some o → Q o H') (RE Y G H σ W)
theorem _root_.L2.PO.imp {X : Cx} {e : Option Expr} {t t' : TO} (h : PO X e t) (hi : ∀ σ H Q, t' σ H Q → t σ H Q) : PO X e t' := ⟨fun pins s σ H Q I w => h.run pins s σ H Q I (hi σ H Q w)⟩
theorem s_bnd {r : Cfg → Cp} (sn : Snd kin gt r) (o : Cok kin gt Y k C g X W) {e : Option Expr} {l : E} (h : bndW r g e = some l) : PO X e (tO Y W (evE kin C l)) := by
  cases e with
  | none =>
    cases h
    refine po_none.imp fun σ H Q h => ?_
    obtain ⟨H0, G, ρ, S, ok, sr, w⟩ := h
    unfold evE at w
    exact w G H none Ext.refl ok rfl
  | some e =>
    unfold bndW at h
    simp only [Option.map_eq_some_iff] at h
    obtain ⟨x, hx, rfl⟩ := h
    have hp : PE X e (tE Y W (RL true Y) (evE kin C x)) := sn.e g true e x X Y k C W hx o
    refine (po_some hp).imp fun σ H Q h => ?_
    obtain ⟨H0, G, ρ, S, ok, sr, w⟩ := h
    unfold evE at w
    refine ⟨H0, G, ρ, S, ok, sr, wpM_mono (wpM_bind.mp w) (fun d S1 w1 G1 H1 v1 e1 ok1 r1 => ?_) fun _ _ h => h⟩
    split at w1
    · rename_i i
      exact ⟨i, (RL.rv r1).int, w1 G1 H1 (some i) e1 ok1 rfl⟩
    · exact w1.elim
theorem s_sl {r : Cfg → Cp} (sn : Snd kin gt r) (o : Cok kin gt Y k C g X W) {a : Expr} {lo hi : Option Expr} {x l h : E} {pos p2 : Pos} (ha : PEl X Y W kin C a x) (hl : bndW r g lo = some l) (hh : bndW r g hi = some h) :
    PE X (.Subscript a (.Slice lo hi none p2) pos) (tE Y W (RL look Y) (evE kin C (.sl x l h))) :=
  (pe_slice (or_sl o) ha (s_bnd sn o hl) (s_bnd sn o hh)).imp fun σ H Q hq => by
    obtain ⟨H0, G, ρ, S, ok, sr, w⟩ := t_rl hq
    unfold evE at w
    refine ⟨H0, G, ρ, S, ok, sr, wpM_mono (wpM_bind.mp w) (fun d1 S1 w1 G1 H1 v1 e1 ok1 r1 => ?_) fun _ _ h => h⟩
    refine ⟨H0, G1, ρ, S1, ok1, sr.ext e1 ok, wpM_mono (wpM_bind.mp w1) (fun d2 S2 w2 G2 H2 o2 e2 ok2 b2 => ?_) fun x S h => h.trans e1⟩
    refine ⟨H0, G2, ρ, S2, ok2, (sr.ext e1 ok).ext e2 ok1, wpM_mono (wpM_bind.mp w2) (fun d3 S3 w3 G3 H3 o3 e3 ok3 b3 => ?_) fun x S h => h.trans (e1.trans e2)⟩
    obtain ⟨d4, hd4, w4⟩ := wpM_op.mp w3
    unfold slD at hd4
    rw [b2, b3] at hd4
    exact ⟨G3, S3, d1, d4, ok3, (RL.rv r1).ext (e2.trans e3) ok1, hd4, fun G4 H4 u e4 ok4 r4 => w4 G4 H4 u (e1.trans (e2.trans (e3.trans e4))) ok4 r4⟩
theorem back_rds {G : Gh} {H : Hp} {vs : List V} {ds : List D} (r : RDs Y G H vs ds) (lo hi : Option Int) : RDs Y G H (backV vs lo hi) (backV ds lo hi) := by
  unfold backV
  rw [r.length]
  generalize (List.range _) = ks
  induction ks with
  | nil => exact .nil
  | cons k ks ih =>
    rw [List.filterMap_cons, List.filterMap_cons]
    cases e : vs[((Builtin.Slice.sliceAdjust lo hi (-1) (ds.length : Int)).1 + (k : Int) * (-1)).toNat]? with
    | none =>
      cases e2 : ds[((Builtin.Slice.sliceAdjust lo hi (-1) (ds.length : Int)).1 + (k : Int) * (-1)).toNat]? with
      | none => exact ih
      | some d =>
        obtain ⟨v, h, _⟩ := r.get' e2
        rw [e] at h; cases h
    | some v =>
      obtain ⟨d, h, rv⟩ := r.get e
      rw [h]
      exact .cons rv ih
def rBk (Y : Tx) : V → Option Int → Option Int → Hp → VK → Prop := fun v lo hi H Q => ∃ G S x d, GOk Y G H S ∧ RV Y G H v x ∧ bkO x lo hi = some d ∧ ∀ G' H' u, Ext G H G' H' → GOk Y G' H' S → RD Y G' H' u d → Q u H'
theorem or_bk (o : Cok kin gt Y k C g X W) : BkR X (rBk Y) := by
  intro pins s σ H v u vl vu vs lo hi sl Q I rx hs pl pu ps ⟨G, S, x, d, ok, r, e, q⟩
  have hK := o.ox.hK
  cases x <;> try (simp only [bkO] at e; cases e; done)
  · rename_i xs
    obtain ⟨a, vs, rfl, hq, rs⟩ := r.tup
    cases e
    exact back_tup I rx hs pl pu ps (by rw [hK]; exact hq) (fin_tup ok (back_rds rs lo hi) q)
  · rename_i xs
    obtain ⟨a, vs, rfl, hq, rs⟩ := r.lst
    have e : (if lo.isNone && hi.isNone then some (D.lst xs.reverse) else none) = some d := e
    split at e
    · rename_i h2
      cases e
      simp only [Bool.and_eq_true, Option.isNone_iff_eq_none] at h2
      obtain ⟨rfl, rfl⟩ := h2
      exact back_lst I rx hs pl pu ps (.of hq) (fin_lst ok (RDs.reverse rs) q)
    · cases e
theorem s_bk {r : Cfg → Cp} (sn : Snd kin gt r) (o : Cok kin gt Y k C g X W) {a : Expr} {lo hi : Option Expr} {x l h : E} {j : Nat} {pos p1 p2 p3 : Pos} (ha : PEl X Y W kin C a x) (hl : bndW r g lo = some l) (hh : bndW r g hi = some h) :
    PE X (.Subscript a (.Slice lo hi (some (.UnaryOp .USub (.Constant (.int 1) j p1) p2)) p3) pos) (tE Y W (RL look Y) (evE kin C (.bk x l h))) :=
  (pe_back (or_bk o) ha (s_bnd sn o hl) (s_bnd sn o hh)).imp fun σ H Q hq => by
    obtain ⟨H0, G, ρ, S, ok, sr, w⟩ := t_rl hq
    unfold evE at w
    refine ⟨H0, G, ρ, S, ok, sr, wpM_mono (wpM_bind.mp w) (fun d1 S1 w1 G1 H1 v1 e1 ok1 r1 => ?_) fun _ _ h => h⟩
    refine ⟨H0, G1, ρ, S1, ok1, sr.ext e1 ok, wpM_mono (wpM_bind.mp w1) (fun d2 S2 w2 G2 H2 o2 e2 ok2 b2 => ?_) fun x S h => h.trans e1⟩
    refine ⟨H0, G2, ρ, S2, ok2, (sr.ext e1 ok).ext e2 ok1, wpM_mono (wpM_bind.mp w2) (fun d3 S3 w3 G3 H3 o3 e3 ok3 b3 => ?_) fun x S h => h.trans (e1.trans e2)⟩
    obtain ⟨d4, hd4, w4⟩ := wpM_op.mp w3
    unfold bkD at hd4
    rw [b2, b3] at hd4
    exact ⟨G3, S3, d1, d4, ok3, (RL.rv r1).ext (e2.trans e3) ok1, hd4, fun G4 H4 u e4 ok4 r4 => w4 G4 H4 u (e1.trans (e2.trans (e3.trans e4))) ok4 r4⟩
theorem s_dct0 {pos : Pos} : PE X (.Dict [] [] pos) (tE Y W (RL look Y) (evE kin C .dct0)) :=
  pe_dnewK.imp fun σ H Q hq => by
    obtain ⟨H0, G, ρ, S, ok, sr, w⟩ := t_rl hq
    unfold evE at w
    intro p np
    have e : Ext G H G (upd H p (.dK [])) := Ext.new ok np
    have m : ¬ G.Mu p := fun m => ok.muT p m np
    exact w (G.fz p) _ _ (e.freeze np) ((ok.new np).freeze (by rw [upd_same]; exact fun z => nomatch z) m) (.dct upd_same (.inr rfl) .nil)
end
end RM
end
section
set_option Elab.async false
set_option linter.all false
set_option maxRecDepth 100000
set_option autoImplicit false
/-! sound: targets, sources of loops -/
namespace RM
open PySem PySem.Spec PyProof.Rows L2
section
variable {Y : Tx} {k : Nat} {C : Orc} {g : Cfg} {gt : Gt} {X : Cx} {W : WX} {kin : Kin} {look : Bool} {G : Gh} {H H0 : Hp} {σ : L2.St} {ρ : Fe}

/-! ### slots -/
theorem SR.put (sr : SR Y H0 G H σ ρ) {s : Slot} {o : Option V} (i : Nat) (r : SlotR Y H0 G H (some o) s) (hn : ∀ xs, s ≠ .own xs) : SR Y H0 G H (σ.set i o) (ρ.set i s) := by
  refine ⟨by rw [List.length_set, List.length_set]; exact sr.len, fun j t h => ?_, fun j l xs ys a h1 h2 h3 h4 => ?_, sr.thx⟩
  · by_cases e : i = j
    · subst e
      have hl : i < ρ.length := by
        have := (List.getElem?_eq_some_iff.mp h).1
        simpa using this
      rw [List.getElem?_set_self hl] at h
      cases h
      rw [List.getElem?_set_self (by rw [sr.len]; exact hl)]
      exact r
    · rw [List.getElem?_set_ne e] at h ⊢
      exact sr.slot j t h
  · have nj : ∀ {l : Nat} {zs : List D}, (ρ.set i s)[l]? = some (.own zs) → i ≠ l := fun {l zs} h e => by
      subst e
      have hl : i < ρ.length := by
        have := (List.getElem?_eq_some_iff.mp h).1
        simpa using this
      rw [List.getElem?_set_self hl] at h
      cases h
      exact hn zs rfl
    have e1 := nj h1
    have e2 := nj h2
    rw [List.getElem?_set_ne e1] at h1 h3
    rw [List.getElem?_set_ne e2] at h2 h4
    exact sr.apart j l xs ys a h1 h2 h3 h4
theorem SR.set (sr : SR Y H0 G H σ ρ) {v : V} {d : D} (i : Nat) (r : RD Y G H v d) : SR Y H0 G H (σ.set i (some v)) (setS ρ i d) := sr.put i ⟨v, rfl, r⟩ fun xs e => nomatch e
theorem SR.wipe (sr : SR Y H0 G H σ ρ) : ∀ vs : List Nat, SR Y H0 G H (wipe σ vs) (wipeE ρ vs)
  | [] => sr
  | v :: vs => (SR.wipe sr vs).put v (show SlotR Y H0 G H _ .emp from trivial) fun xs e => nomatch e
theorem SR.sets : ∀ {is : List Nat} {vs : List V} {ds : List D} {σ : L2.St} {ρ : Fe}, SR Y H0 G H σ ρ → RDs Y G H vs ds → SR Y H0 G H ((is.zip vs).foldl (fun σ q => σ.set q.1 (some q.2)) σ) ((is.zip ds).foldl (fun ρ q => setS ρ q.1 q.2) ρ)
  | [], _, _, _, _, sr, _ => sr
  | i :: is, _, _, _, _, sr, .nil => sr
  | i :: is, _, _, _, _, sr, .cons r rs => by
    rw [List.zip_cons_cons, List.zip_cons_cons]
    exact SR.sets (sr.set i r) rs
theorem wipe_set1 (σ : L2.St) (i : Nat) (x : Option V) : ∀ vs : List Nat, (wipe (σ.set i x) vs).set i none = (wipe σ vs).set i none
  | [] => by unfold wipe; rw [List.set_set]
  | v :: vs => by
    unfold wipe
    by_cases e : v = i
    · subst e
      rw [List.set_set, List.set_set]
      exact wipe_set1 σ v x vs
    · rw [List.set_comm _ _ e, List.set_comm _ _ e, wipe_set1 σ i x vs]
theorem wipe_set {σ : L2.St} {i : Nat} {x : Option V} : ∀ {vs : List Nat}, i ∈ vs → wipe (σ.set i x) vs = wipe σ vs
  | [], h => by cases h
  | v :: vs, h => by
    unfold wipe
    rcases List.mem_cons.mp h with rfl | h
    · exact wipe_set1 σ i x vs
    · rw [wipe_set h]
theorem wipe_idem1 (σ : L2.St) : ∀ (us vs : List Nat), (∀ i ∈ us, i ∈ vs) → wipe (wipe σ us) vs = wipe σ vs
  | [], vs, _ => rfl
  | u :: us, vs, h => by
    show wipe ((wipe σ us).set u none) vs = _
    rw [wipe_set (h u List.mem_cons_self)]
    exact wipe_idem1 σ us vs fun i hi => h i (List.mem_cons_of_mem _ hi)
theorem wipe_idem (σ : L2.St) (vs : List Nat) : wipe (wipe σ vs) vs = wipe σ vs := wipe_idem1 σ vs vs fun _ h => h
theorem wipe_sets {vs : List Nat} : ∀ {is : List Nat} {xs : List V} {σ : L2.St}, (∀ i ∈ is, i ∈ vs) → wipe ((is.zip xs).foldl (fun σ q => σ.set q.1 (some q.2)) σ) vs = wipe σ vs
  | [], _, _, _ => rfl
  | i :: is, [], _, _ => rfl
  | i :: is, x :: xs, σ, h => by
    rw [List.zip_cons_cons, List.foldl_cons, wipe_sets fun j hj => h j (List.mem_cons_of_mem _ hj)]
    exact wipe_set (h i List.mem_cons_self)

/-! ### targets -/
def tG (Y : Tx) (p : List Nat) : TG := fun v σ H Q => ∃ H0 G ρ S d ρ', GOk Y G H S ∧ SR Y H0 G H σ ρ ∧ RD Y G H v d ∧ asgP p d ρ = some ρ' ∧ ∀ σ', SR Y H0 G H σ' ρ' → (∀ vs : List Nat, (∀ i ∈ p, i ∈ vs) → wipe σ' vs = wipe σ vs) → Q σ' H
theorem _root_.L2.PG.imp {X : Cx} {e : Expr} {t t' : TG} (h : PG X e t) (hi : ∀ v σ H Q, t' v σ H Q → t v σ H Q) : PG X e t' := ⟨fun pins s σ H v u Q I r w => h.run pins s σ H v u Q I r (hi v σ H Q w)⟩
theorem tgt_ok (o : Cok kin gt Y k C g X W) {x : Str} {i : Nat} (h : g.tgt x = some i) : X.N[i]? = some x ∧ L2.Loc X.env.scope x ∧ (X.fn x = true ∨ X.env.scope.names.lookup x = some .local) := by
  unfold Cfg.tgt at h
  rw [o.N, o.sc, o.fn]
  unfold L2.Loc
  split at h
  · rename_i e; exact ⟨findIdx_get h, .inl e, .inr e⟩
  · rename_i e
    split at h
    · rename_i hf; exact ⟨findIdx_get h, .inr e, .inl hf⟩
    · cases h
  · cases h
def gNames (is : List Nat) : TGs := fun vs σ H Q => vs.length = is.length ∧ Q ((is.zip vs).foldl (fun σ q => σ.set q.1 (some q.2)) σ) H
theorem pgs_names (o : Cok kin gt Y k C g X W) : ∀ {ts : List Expr} {is : List Nat}, tgts g ts = some is → PGs X ts (gNames is) ∧ (assignEach ts X.env).length = is.length ∧ (assignEach ts X.env).findIdx? (·.1) = none
  | [], is, h => by
    cases h
    refine ⟨⟨fun pins s σ H vs us Q I r hw => pgs_nil.run pins s σ H vs us Q I r ?_⟩, rfl, rfl⟩
    obtain ⟨hl, q⟩ := hw
    obtain rfl : vs = [] := by simpa using hl
    exact ⟨rfl, q⟩
  | e :: ts, is, h => by
    cases e <;> simp only [tgts] at h <;> try (cases h; done)
    rename_i x p
    simp only [Option.bind_eq_bind, Option.bind_eq_some_iff, Option.some.injEq] at h
    obtain ⟨i, hi, js, hj, rfl⟩ := h
    obtain ⟨h1, h2, h3⟩ := tgt_ok o hi
    obtain ⟨p1, p2, p3⟩ := pgs_names o hj
    refine ⟨⟨fun pins s σ H vs us Q I r hw => (pgs_cons (pg_name o.ox.nd h1 h2 h3) p1 rfl).run pins s σ H vs us Q I r ?_⟩, ?_, ?_⟩
    · obtain ⟨hl, q⟩ := hw
      cases vs with
      | nil => simp at hl
      | cons v vs => exact ⟨v, vs, rfl, by simpa using hl, q⟩
    · show (assignEach ts X.env).length + 1 = js.length + 1
      rw [p2]
    · show List.findIdx? (·.1) ((false, assign (.Name x p) X.env) :: assignEach ts X.env) = none
      rw [List.findIdx?_cons, p3]; rfl
theorem tgts_length {ts : List Expr} : ∀ {is : List Nat}, tgts g ts = some is → is.length = ts.length := by
  induction ts with
  | nil => intro is h; cases h; rfl
  | cons e ts ih =>
    intro is h
    cases e <;> simp only [tgts] at h <;> try (cases h; done)
    simp only [Option.bind_eq_bind, Option.bind_eq_some_iff, Option.some.injEq] at h
    obtain ⟨i, hi, js, hj, rfl⟩ := h
    simp [ih hj]
theorem asgP_many {p : List Nat} {d : D} {ρ' : Fe} (hl : 2 ≤ p.length) (h : asgP p d ρ = some ρ') : ∃ xs, d = .tup xs ∧ xs.length = p.length ∧ ρ' = (p.zip xs).foldl (fun ρ q => setS ρ q.1 q.2) ρ := by
  match p, hl, h with
  | a :: b :: r, _, h =>
    cases d <;> simp only [asgP] at h <;> try (cases h; done)
    split at h
    · rename_i hz
      cases h
      exact ⟨_, rfl, hz, rfl⟩
    · cases h
theorem pg_pat (o : Cok kin gt Y k C g X W) {tg : Expr} {p : List Nat} (h : patW g tg = some p) : PG X tg (tG Y p) := by
  unfold patW at h
  split at h
  · simp only [Option.map_eq_some_iff] at h
    obtain ⟨i, hi, rfl⟩ := h
    obtain ⟨h1, h2, h3⟩ := tgt_ok o hi
    refine (pg_name o.ox.nd h1 h2 h3).imp fun v σ H Q hq => ?_
    obtain ⟨H0, G, ρ, S, d, ρ', ok, sr, r, e, q⟩ := hq
    cases e
    exact q _ (sr.set i r) fun vs hv => wipe_set (hv i List.mem_cons_self)
  · split at h
    · cases h
    rename_i hh
    have hh : g.hot = false := by simpa using hh
    obtain ⟨p1, p2, p3⟩ := pgs_names o h
    refine (pg_tup (o.ox.calm hh) p1 p2 p3).imp fun v σ H Q hq => ?_
    obtain ⟨H0, G, ρ, S, d, ρ', ok, sr, r, e, q⟩ := hq
    have hl := tgts_length h
    obtain ⟨xs, rfl, hz, rfl⟩ := asgP_many (by rw [hl]; exact Nat.le_add_left _ _) e
    obtain ⟨a, vs, rfl, hs, rs⟩ := (RD.rv r).tup
    refine ⟨a, vs, rfl, by rw [o.ox.hK]; exact hs, by rw [rs.length]; exact hz, by rw [rs.length]; exact hz, ?_⟩
    exact q _ (sr.sets rs) fun vs hv => wipe_sets hv
  · cases h

/-! ### sources -/
theorem RL.ext {v : V} {d : D} {G' : Gh} {H' : Hp} {S : Sto} (r : RL look Y G H v d) (e : Ext G H G' H') (ok : GOk Y G H S) : RL look Y G' H' v d := by
  cases look with
  | true => exact RV.ext r e ok
  | false => exact RD.ext r e ok
theorem sI_seq {tg ex : Expr} {x : E} (o : Cok kin gt Y k C g X W) (he : PE X ex (tE Y W (RL look Y) (evE kin C x))) : PI X tg ex (tI Y W look (evI kin C (.seq x))) := by
  have hK := o.ox.hK
  refine ⟨fun pins s σ H R I h => ?_⟩
  obtain ⟨H0, G, ρ, S, ok, sr, w⟩ := h
  unfold evI at w
  refine thn (he.run pins s σ H (fun v H1 => ∃ G1 S1 d xs, GOk Y G1 H1 S1 ∧ RL look Y G1 H1 v d ∧ iterD d = some xs ∧ ∀ J, YOk Y (Kk look Y G1 H1) J xs → R J H1) I
    ⟨H0, G, ρ, S, ok, sr, wpM_mono (wpM_bind.mp w) (fun d S1 w1 G1 H1 v e1 ok1 r1 => ?_) fun _ _ h => h⟩) fun u s1 ⟨v, H1, I1, r1, G1, S1, d, xs, ok1, rl, hx, q⟩ => ?_
  · obtain ⟨xs, hx, w2⟩ := wpM_op.mp w1
    exact ⟨G1, S1, d, xs, ok1, r1, hx, fun J y => w2 G1 H1 J e1 ok1 y⟩
  · have seq : ∀ {xs : List D}, itemsD d = some xs → (∀ J, YOk Y (Kk look Y G1 H1) J xs → R J H1) → wpAny (model X.prog X.w) X.A (pyIter u) (PIE X pins σ tg R) X.xe s1 := fun {xs} hx q => by
      obtain ⟨a, vs, rfl, hv, hr⟩ := Kk.seq ok1 (show if look = true then RV Y G1 H1 v d else RD Y G1 H1 v d from rl) hx
      cases r1
      rcases hv with ⟨_, h1, h2⟩ | ⟨_, h1, h2⟩
      · obtain ⟨its, rv, p, hz⟩ := I1.list (by rw [hK]; exact h1)
        exact wpAny_pyIter_list p.isList (pi_one (tk := s1.toks) I1 _ (turn_list a _) ⟨_, Heap.get?_push_size _ rfl, rfl, rfl⟩ (by rw [hK]; exact q _ (YOk.lst h2 hr)))
      · obtain ⟨its, rv, p, hz⟩ := I1.tuple (by rw [hK]; exact h1)
        exact wpAny_pyIter_tuple (show s1.heap.IsTuple a its.toArray from p) (pi_one (tk := s1.toks) I1 _ (turn_tuple a _) ⟨_, Heap.get?_push_size _ rfl, rfl, rfl⟩ (by rw [hK]; exact q _ (YOk.tup h2 hr)))
    cases d <;> try (simp only [iterD] at hx; cases hx; done)
    · rename_i z
      cases (RL.rv rl).str
      obtain ⟨t, rfl⟩ := r1
      simp only [iterD] at hx
      split at hx
      · cases hx
        cases ha : z.cps.all (· < 128)
        · exact wpAny_pyIter_wide ha (pi_one (tk := s1.toks) I1 _ (turn_str _ z t "str_iterator" (.inr rfl)) ⟨_, Heap.get?_push_size _ rfl, rfl, rfl⟩ (q _ (YOk.str z)))
        · exact wpAny_pyIter_ascii ha (pi_one (tk := s1.toks) I1 _ (turn_str _ z t "str_ascii_iterator" (.inl rfl)) ⟨_, Heap.get?_push_size _ rfl, rfl, rfl⟩ (q _ (YOk.str z)))
      · cases hx
    · exact seq hx q
    · exact seq hx q
    · exact seq hx q
theorem sI_rng1 {tg a : Expr} {x : E} {p pos : Pos} (o : Cok kin gt Y k C g X W) (ha : PEl X Y W kin C a x) (hs : isStarred a = false) (hg : g.glo gt "range" = some .blt) : PI X tg (.Call (.Name "range" p) [a] [] pos) (tI Y W look (evI kin C (.rng1 x))) := by
  obtain ⟨hgl, hm⟩ := glo_ok o hg
  have s1 := starEach_plain (es := []) (env := X.env) hs
  refine (pi_range1 hgl hm (pa_cons ha pa_nil s1) s1).imp fun σ H R h => ?_
  obtain ⟨H0, G, ρ, S, ok, sr, w⟩ := h
  unfold evI at w
  refine ⟨H0, G, ρ, S, ok, sr, wpM_mono (wpM_bind.mp w) (fun d S1 w1 G1 H1 v e1 ok1 r1 => ?_) fun _ _ h => h⟩
  split at w1
  · rename_i j
    cases (RL.rv r1).int
    split at w1
    · rename_i hz
      have hl := line63
      have hz' := sizeLine_eq
      exact ⟨j, rfl, hz.1, by omega, w1 G1 H1 _ e1 ok1 (YOk.rng 0 j.toNat)⟩
    · exact w1.elim
  · exact w1.elim
theorem sI_rng2 {tg a b : Expr} {x y : E} {p pos : Pos} (o : Cok kin gt Y k C g X W) (ha : PEl X Y W kin C a x) (hs : isStarred a = false) (hb : PEl X Y W kin C b y) (hs' : isStarred b = false) (hg : g.glo gt "range" = some .blt) : PI X tg (.Call (.Name "range" p) [a, b] [] pos) (tI Y W look (evI kin C (.rng2 x y))) := by
  obtain ⟨hgl, hm⟩ := glo_ok o hg
  have s1 := starEach_plain (es := [b]) (env := X.env) hs
  have s2 := starEach_plain (es := []) (env := X.env) hs'
  refine (pi_range2 hgl hm (pa_cons ha (pa_cons hb pa_nil s2) s1) (by rw [s1, s2]; rfl) s2).imp fun σ H R h => ?_
  obtain ⟨H0, G, ρ, S, ok, sr, w⟩ := h
  unfold evI at w
  refine ⟨H0, G, ρ, S, ok, sr, wpM_mono (wpM_bind.mp w) (fun d S1 w1 G1 H1 v e1 ok1 r1 => ?_) fun _ _ h => h⟩
  refine ⟨H0, G1, ρ, S1, ok1, sr.ext e1 ok, wpM_mono (wpM_bind.mp w1) (fun d2 S2 w2 G2 H2 v2 e2 ok2 r2 => ?_) fun x S h => h.trans e1⟩
  split at w2
  · rename_i i j
    cases (RL.rv r1).int
    cases (RL.rv r2).int
    split at w2
    · rename_i hz
      exact ⟨i, j, rfl, ⟨hz.1, hz.2.1, hz.2.2.1, hz.2.2.2.1⟩, w2 G2 H2 _ (e1.trans e2) ok2 (YOk.rng i _)⟩
    · exact w2.elim
  · exact w2.elim
theorem sI_enum {a : Expr} {es : List Expr} {kk : Nat} {tpos : Pos} {x : E} {p pos : Pos} (o : Cok kin gt Y k C g X W) (ha : PE X a (tE Y W (RL look Y) (evE kin C x))) (hs : isStarred a = false) (hg : g.glo gt "enumerate" = some .blt) : PI X (.Tuple es kk tpos) (.Call (.Name "enumerate" p) [a] [] pos) (tI Y W look (evI kin C (.enum x))) := by
  have hK := o.ox.hK
  obtain ⟨hgl, hm⟩ := glo_ok o hg
  have s1 := starEach_plain (es := []) (env := X.env) hs
  refine (pi_enumA hgl hm (pa_cons ha pa_nil s1) s1).imp fun σ H R h => ?_
  obtain ⟨H0, G, ρ, S, ok, sr, w⟩ := h
  unfold evI at w
  refine ⟨H0, G, ρ, S, ok, sr, wpM_mono (wpM_bind.mp w) (fun d S1 w1 G1 H1 v e1 ok1 r1 => ?_) fun _ _ h => h⟩
  split at w1
  · rename_i xs
    obtain ⟨b, vs, rfl, hv, hr⟩ := Kk.seq ok1 (show if look = true then RV Y G1 H1 v (.lst xs) else RD Y G1 H1 v (.lst xs) from r1) rfl
    rcases hv with ⟨_, h1, h2⟩ | ⟨e, _⟩
    · exact ⟨b, vs, rfl, .inl ⟨by rw [hK]; exact h1, by rw [hK]; exact w1 G1 H1 _ e1 ok1 (YOk.enumL h2 hr)⟩⟩
    · cases e
  · rename_i xs
    obtain ⟨b, vs, rfl, hv, hr⟩ := Kk.seq ok1 (show if look = true then RV Y G1 H1 v (.tup xs) else RD Y G1 H1 v (.tup xs) from r1) rfl
    rcases hv with ⟨e, _⟩ | ⟨_, h1, h2⟩
    · cases e
    · exact ⟨b, vs, rfl, .inr ⟨by rw [hK]; exact h1, by rw [hK]; exact w1 G1 H1 _ e1 ok1 (YOk.enumT h2 hr)⟩⟩
  · exact w1.elim
theorem Kk.trans {G1 G2 G3 : Gh} {H1 H2 H3 : Hp} {S : Sto} (e : Ext G1 H1 G2 H2) (ok : GOk Y G1 H1 S) (k : Kk look Y G2 H2 G3 H3) : Kk look Y G1 H1 G3 H3 := by
  cases look with
  | true => exact Ext.trans e k
  | false => exact Kp.trans (e.kp ok) k
theorem sI_zip {a b : Expr} {es : List Expr} {kk : Nat} {tpos : Pos} {x y : E} {p pos : Pos} (o : Cok kin gt Y k C g X W) (ha : PE X a (tE Y W (RL look Y) (evE kin C x))) (hs : isStarred a = false) (hb : PE X b (tE Y W (RL look Y) (evE kin C y))) (hs' : isStarred b = false) (hg : g.glo gt "zip" = some .blt) :
    PI X (.Tuple es kk tpos) (.Call (.Name "zip" p) [a, b] [] pos) (tI Y W look (evI kin C (.zip x y))) := by
  have hK := o.ox.hK
  obtain ⟨hgl, hm⟩ := glo_ok o hg
  have s1 := starEach_plain (es := [b]) (env := X.env) hs
  have s2 := starEach_plain (es := []) (env := X.env) hs'
  refine (RZ.pi_zipA hgl hm (pa_cons ha (pa_cons hb pa_nil s2) s1) s1 (starEach_none (by simp [hs']))).imp fun σ H R h => ?_
  obtain ⟨H0, G, ρ, S, ok, sr, w⟩ := h
  unfold evI at w
  refine ⟨H0, G, ρ, S, ok, sr, wpM_mono (wpM_bind.mp w) (fun d S1 w1 G1 H1 v e1 ok1 r1 => ?_) fun _ _ h => h⟩
  refine ⟨H0, G1, ρ, S1, ok1, sr.ext e1 ok, wpM_mono (wpM_bind.mp w1) (fun d2 S2 w2 G2 H2 v2 e2 ok2 r2 => ?_) fun x S h => h.trans e1⟩
  have r1' := r1.ext e2 ok1
  split at w2
  · rename_i xs ys
    obtain ⟨q, vs, rfl, hv, hr⟩ := Kk.seq ok2 (show if look = true then RV Y G2 H2 v (.lst xs) else RD Y G2 H2 v (.lst xs) from r1') rfl
    obtain ⟨q', vs', rfl, hv', hr'⟩ := Kk.seq ok2 (show if look = true then RV Y G2 H2 v2 (.lst ys) else RD Y G2 H2 v2 (.lst ys) from r2) rfl
    rcases hv with ⟨_, h1, h2⟩ | ⟨e, _⟩
    · rcases hv' with ⟨_, h1', h2'⟩ | ⟨e, _⟩
      · exact ⟨q, q', vs, vs', rfl, .inl ⟨by rw [hK]; exact h1, by rw [hK]; exact h1', by rw [hK]; exact w2 G2 H2 _ (e1.trans e2) ok2 (YOk.zipL h2 hr h2' hr')⟩⟩
      · cases e
    · cases e
  · rename_i xs ys
    obtain ⟨q, vs, rfl, hv, hr⟩ := Kk.seq ok2 (show if look = true then RV Y G2 H2 v (.tup xs) else RD Y G2 H2 v (.tup xs) from r1') rfl
    obtain ⟨q', vs', rfl, hv', hr'⟩ := Kk.seq ok2 (show if look = true then RV Y G2 H2 v2 (.tup ys) else RD Y G2 H2 v2 (.tup ys) from r2) rfl
    rcases hv with ⟨e, _⟩ | ⟨_, h1, h2⟩
    · cases e
    · rcases hv' with ⟨e, _⟩ | ⟨_, h1', h2'⟩
      · cases e
      · exact ⟨q, q', vs, vs', rfl, .inr ⟨by rw [hK]; exact h1, by rw [hK]; exact h1', by rw [hK]; exact w2 G2 H2 _ (e1.trans e2) ok2 (YOk.zipT h2 hr h2' hr')⟩⟩
  · exact w2.elim
end
end RM
end
section
set_option Elab.async false
set_option linter.all false
set_option maxRecDepth 100000
set_option autoImplicit false
/-! sound: comprehensions; the whole -/
namespace RM
open PySem PySem.Spec PyProof.Rows L2

theorem quiet_wp {α : Type} {Q : α → Sto → Prop} {R : D → Sto → Prop} : ∀ {t : T α}, t.quiet.wp Q R → t.wp Q fun _ _ => False
  | .ret a S, h => h
  | .raise x S, h => h
  | .fail, h => h
  | .draw n k, h => fun i hi => quiet_wp (h i hi)
theorem wpM_quiet {α : Type} {m : M α} {S : Sto} {Q : α → Sto → Prop} {R : D → Sto → Prop} (h : wpM (M.quiet m) S Q R) : wpM m S Q fun _ _ => False := quiet_wp h

section
variable {Y : Tx} {k : Nat} {C : Orc} {g : Cfg} {gt : Gt} {X : Cx} {W : WX} {kin : Kin} {look : Bool} {G : Gh} {H H0 : Hp} {σ : L2.St} {ρ : Fe}

theorem t_new {m : Fe → M D} {Q : VK} (h : tE Y W (RL look Y) m σ H Q) : tN Y W m σ H Q := by
  obtain ⟨H0, G, ρ, S, ok, sr, w⟩ := t_rl h
  refine ⟨H0, G, ρ, S, ok, sr, wpM_mono w (fun d S1 q G1 H1 a vs ds e x ok1 na ha nf nm rs => ?_) fun _ _ h => h⟩
  subst e
  exact q (G1.fz a) H1 _ (x.freeze na) (ok1.freeze (by rw [ha]; exact fun z => nomatch z) nm) (.lst ha (.inr rfl) (rs.mono Kp.freeze))

abbrev WF : WX := fun _ _ _ _ => False
theorem blk_cok (o : Cok kin gt Y k C g X W) (hh : g.hot = false) (s : Shared) (H : Hp) (scope : Scope) (c : Addr) (cl : List (Str × Addr)) (fp : List Addr) : Cok kin gt Y k C (g.blk scope) (X.blk s H scope (compEnvC scope cl c X.env) fp) WF where
  ox := ⟨o.ox.nd, fun _ => o.ox.calm hh, o.ox.hK, fun _ => o.ox.room hh, o.ox.units, o.ox.gd, o.ox.sys, fun _ => o.ox.room1 hh⟩
  N := o.N
  sc := by
    show relS scope X.env.scope = relS scope g.sc
    rw [o.sc]
  fn := rfl
  tk := takes_none5
  cold := fun _ => o.cold hh
  kok := o.kok
  cur := fun a cls dx e => by rw [o.cold hh] at e; cases e
  lm := fun z => nomatch z
  th := fun i z => nomatch z
  gt := by
    have z := o.gt
    rw [hh] at z
    exact z
/-- a new list grows -/
theorem Ext.grow {G G' : Gh} {H H' : Hp} {p : Addr} {o : HO} (e : Ext G H G' H') (n : H p = none) : Ext G H G' (upd H' p o) where
  fz := e.fz
  mu := e.mu
  dr := e.dr
  keep := fun a u h m => by rw [upd_ne (ne_of_none h n)]; exact e.keep a u h m
  there := fun a h => by
    obtain ⟨u, q⟩ := some_of_ne h
    rw [upd_ne (ne_of_none q n)]; exact e.there a h
  nfz := e.nfz
  nmu := e.nmu
  ndr := e.ndr
theorem mapO_cons {f : D → M (Option D)} {x : D} {xs : List D} {S : Sto} {Q : List D → Sto → Prop} {R : D → Sto → Prop} (h : wpM (mapO f (x :: xs)) S Q R) :
    wpM (f x) S (fun r S1 => wpM (mapO f xs) S1 (fun rs S2 => Q (r.toList ++ rs) S2) R) R := by
  unfold mapO at h
  refine wpM_mono (wpM_bind.mp h) (fun r S1 h1 => ?_) fun _ _ z => z
  cases r with
  | none => exact wpM_mono (wpM_bind.mp h1) (fun _ _ q => q) fun _ _ z => z
  | some d => exact wpM_mono (wpM_bind.mp h1) (fun _ _ q => q) fun _ _ z => z
theorem mapL_cons {f : D → M (List D)} {x : D} {xs : List D} {S : Sto} {Q : List D → Sto → Prop} {R : D → Sto → Prop} (h : wpM (mapL f (x :: xs)) S Q R) :
    wpM (f x) S (fun r S1 => wpM (mapL f xs) S1 (fun rs S2 => Q (r ++ rs) S2) R) R := by
  unfold mapL at h
  refine wpM_mono (wpM_bind.mp h) (fun r S1 h1 => ?_) fun _ _ z => z
  exact wpM_mono (wpM_bind.mp h1) (fun _ _ q => q) fun _ _ z => z
def lcF (kin : Kin) (C : Orc) (ρ : Fe) (own p : List Nat) (t : Q) (e : E) (x : D) : M (Option D) := do
  let ρ1 ← M.op (asgP p x (wipeE ρ own))
  let b ← evT kin C t ρ1
  if b then do
    let y ← evE kin C e ρ1
    pure (some y)
  else pure none
theorem evE_lc (own p : List Nat) (it : I) (t : Q) (e : E) (ρ : Fe) : evE kin C (.lc own p it t e) ρ = (do
    let xs ← evI kin C it ρ
    small xs.length
    let rs ← M.quiet (mapO (lcF kin C ρ own p t e) xs)
    pure (.lst rs)) := by
  rw [evE]; rfl
theorem few_wp {n : Nat} {S : Sto} {Q : Unit → Sto → Prop} {R : D → Sto → Prop} (h : wpM (few n) S Q R) : n ≤ 4000 ∧ Q () S := by
  unfold few at h
  split at h
  · rename_i hz; exact ⟨hz, h⟩
  · exact h.elim
theorem small_wp {n : Nat} {S : Sto} {Q : Unit → Sto → Prop} {R : D → Sto → Prop} (h : wpM (small n) S Q R) : n ≤ sizeLine ∧ Q () S := by
  unfold small at h
  split at h
  · rename_i hz; exact ⟨hz, h⟩
  · exact h.elim
theorem t_lc {vs p : List Nat} {it : I} {t : Q} {e : E} {σ : L2.St} {H : Hp} {Q : VK} (hp : ∀ i ∈ p, i ∈ vs) (h : tN Y W (evE kin C (.lc vs p it t e)) σ H Q) :
    tLc (tI Y W true (evI kin C it)) (tG Y p) (tQ Y WF (evT kin C t)) (tE Y WF (RD Y) (evE kin C e)) vs σ H Q := by
  obtain ⟨H0, G, ρ, S, ok0, sr, w⟩ := h
  rw [evE_lc] at w
  refine ⟨H0, G, ρ, S, ok0, sr, wpM_mono (wpM_bind.mp w) (fun xs S1 w1 G1 H1 J e1 ok1 yk D hD => ?_) fun _ _ h => h⟩
  obtain ⟨hz, w1⟩ := small_wp (wpM_bind.mp w1)
  have w1 := wpM_quiet (wpM_bind.mp w1)
  have sr1 := sr.ext e1 ok0
  have nF : ¬ G1.Fz D := fun z => ok1.fzT D z hD
  have nM : ¬ G1.Mu D := fun z => ok1.muT D z hD
  refine ⟨fun i m H => m = xs.length - i ∧ i ≤ xs.length ∧ ∃ G S acc ds, GOk Y G H S ∧ Ext G1 H1 G H ∧ H D = some (.lst acc) ∧ ¬ G.Fz D ∧ ¬ G.Mu D ∧ RDs Y G H acc ds ∧ acc.length ≤ i ∧
    wpM (mapO (lcF kin C ρ vs p t e) (xs.drop i)) S (fun rs S' => ∀ G' H' a vs', Ext G1 H1 G' H' → GOk Y G' H' S' → H1 a = none → H' a = some (.lst vs') → ¬ G'.Fz a → ¬ G'.Mu a → RDs Y G' H' vs' (ds ++ rs) → Q (.ref a) H') (fun _ _ => False),
    ⟨xs.length, by simp, Nat.zero_le _, G1, S1, [], [], ok1.new hD, Ext.new ok1 hD, upd_same, nF, nM, .nil, Nat.zero_le _, ?_⟩, ?_⟩
  · refine wpM_mono w1 (fun rs S2 q G' H' a vs' x okx na ha nf nm rsx => ?_) fun _ _ z => z
    have na' : H a = none := by
      cases hh : H a with
      | none => rfl
      | some u => exact absurd na (e1.there a (by rw [hh]; exact fun z => nomatch z))
    exact q G' H' a vs' rs rfl (e1.trans x) okx na' ha nf nm rsx
  rintro i m H2 ⟨rfl, hle, G2, S2, acc, ds, ok2, e2, hacc, nf2, nm2, rs2, hlen, w2⟩
  by_cases hlt : i < xs.length
  · obtain ⟨hgo, hyl⟩ := yk.go i G2 H2 S2 hlt e2 ok2
    refine .inr ⟨hgo, fun H' => ∃ m', m' < xs.length - i ∧ m' = xs.length - (i + 1) ∧ i + 1 ≤ xs.length ∧ ∃ G S acc ds, GOk Y G H' S ∧ Ext G1 H1 G H' ∧ H' D = some (.lst acc) ∧ ¬ G.Fz D ∧ ¬ G.Mu D ∧ RDs Y G H' acc ds ∧ acc.length ≤ i + 1 ∧
      wpM (mapO (lcF kin C ρ vs p t e) (xs.drop (i + 1))) S (fun rs S' => ∀ G' H' a vs', Ext G1 H1 G' H' → GOk Y G' H' S' → H1 a = none → H' a = some (.lst vs') → ¬ G'.Fz a → ¬ G'.Mu a → RDs Y G' H' vs' (ds ++ rs) → Q (.ref a) H') (fun _ _ => False), fun H' h => h, fun x H3 y => ?_⟩
    obtain ⟨d, hd, e3, ok3, r3⟩ := hyl x H3 y
    have hdrop : xs.drop i = d :: xs.drop (i + 1) := by
      rw [List.drop_eq_getElem_cons hlt]
      rw [List.getElem?_eq_getElem hlt] at hd
      rw [Option.some.inj hd]
    rw [hdrop] at w2
    have w2 := mapO_cons w2
    unfold lcF at w2
    obtain ⟨ρ1, hρ, w2⟩ := wpM_op.mp (wpM_bind.mp w2)
    have w2 := wpM_bind.mp w2
    have e13 := e2.trans e3
    have srw : SR Y H0 G2 H3 (wipe σ vs) (wipeE ρ vs) := (sr1.ext e13 ok1).wipe vs
    refine ⟨H0, G2, wipeE ρ vs, S2, d, ρ1, ok3, srw, r3, hρ, fun σ2 sr2 hw => ⟨by rw [hw vs hp, wipe_idem], ?_⟩⟩
    refine ⟨H0, G2, ρ1, S2, ok3, sr2, wpM_mono w2 (fun b S3 w3 G4 H4 e4 ok4 => ?_) fun _ _ z => z.elim⟩
    have ne3 : H3 D = some (.lst acc) := e3.keep D _ hacc nm2
    have ne4 : H4 D = some (.lst acc) := e4.keep D _ ne3 nm2
    have nfz : ∀ {Ga Gb : Gh} {Ha Hb : Hp} {z : List V}, Ext Ga Ha Gb Hb → Ha D = some (.lst z) → ¬ Ga.Fz D → ¬ Gb.Fz D := fun x h n z => (x.nfz D z).elim n fun q => by rw [h] at q; cases q
    have nmu : ∀ {Ga Gb : Gh} {Ha Hb : Hp} {z : List V}, Ext Ga Ha Gb Hb → Ha D = some (.lst z) → ¬ Ga.Mu D → ¬ Gb.Mu D := fun x h n z => (x.nmu D z).elim n fun q => by rw [h] at q; cases q
    cases b with
    | false =>
      simp only [Bool.false_eq_true, if_false]
      exact ⟨_, by omega, rfl, hlt, G4, S3, acc, ds, ok4, e13.trans e4, ne4, nfz e4 ne3 nf2, nmu e4 ne3 nm2, (rs2.ext e3 ok2).ext e4 ok3, by omega, w3⟩
    | true =>
      simp only [if_true]
      have w3 := wpM_bind.mp w3
      refine ⟨H0, G4, ρ1, S3, ok4, sr2.ext e4 ok3, wpM_mono w3 (fun y S4 w4 G5 H5 v e5 ok5 r5 => ?_) fun _ _ z => z.elim⟩
      have ne5 : H5 D = some (.lst acc) := e5.keep D _ ne4 (nmu e4 ne3 nm2)
      have nf5 := nfz e5 ne4 (nfz e4 ne3 nf2)
      have nm5 := nmu e5 ne4 (nmu e4 ne3 nm2)
      have kp := Kp.write (G := G5) (o := .lst (acc ++ [v])) ne5 nf5
      refine ⟨acc, ne5, by omega, _, by omega, rfl, hlt, G5, S4, acc ++ [v], ds ++ [y], ok5.write ne5 nf5 nm5, ((e13.trans e4).trans e5).grow hD, upd_same, nf5, nm5, ?_, by simp; omega, ?_⟩
      · exact ((((rs2.ext e3 ok2).ext e4 ok3).ext e5 ok4).append (.cons r5 .nil)).mono kp
      · refine wpM_mono w4 (fun rs S5 w5 G' H' a vs' x okx na ha nf nm rsx => ?_) fun _ _ z => z
        exact w5 G' H' a vs' x okx na ha nf nm (by rw [List.append_assoc] at rsx; exact rsx)
  · have hi : i = xs.length := by omega
    subst hi
    rw [List.drop_length] at w2
    refine .inl ⟨yk.stop _ G2 H2 S2 (Nat.le_refl _) e2 ok2, ?_⟩
    exact w2 G2 H2 D acc e2 ok2 hD hacc nf2 nm2 (by rw [List.append_nil]; exact rs2)
theorem s_lcN {elt tg iter : Expr} {ifs : List Expr} {scope : Scope} {own : List (Str × Nat)} {pos : Pos} {p : List Nat} {it : I} {t : Q} {e : E} (o : Cok kin gt Y k C g X W) (hh : g.hot = false) (hi : PI X tg iter (tI Y W true (evI kin C it))) (ok : BlkOk X.N X.env.scope scope own) (hp : ∀ i ∈ p, i ∈ own.map (·.2))
    (hg : ∀ X' : Cx, Cok kin gt Y k C (g.blk scope) X' WF → PG X' tg (tG Y p)) (ht : ∀ X' : Cx, Cok kin gt Y k C (g.blk scope) X' WF → PTs X' ifs (tQ Y WF (evT kin C t))) (he : ∀ X' : Cx, Cok kin gt Y k C (g.blk scope) X' WF → PE X' elt (tE Y WF (RD Y) (evE kin C e))) (hs : ∀ env x, foldedSetIterable iter env x = pure x) :
    PE X (.ListComp elt [⟨tg, iter, ifs, 0⟩] scope pos) (tN Y W (evE kin C (.lc (own.map (·.2)) p it t e))) := by
  exact (pe_lc (o.ox.calm hh) o.ox.nd hi ok (fun s H c cl fp => hg _ (blk_cok o hh s H scope c cl fp)) (fun s H c cl fp => ht _ (blk_cok o hh s H scope c cl fp)) (fun s H c cl fp => he _ (blk_cok o hh s H scope c cl fp)) (fun x => hs _ x)).imp fun σ H Q h => t_lc hp h
end
end RM
end
section
set_option Elab.async false
set_option linter.all false
set_option maxRecDepth 100000
set_option autoImplicit false
/-! sound: comprehensions of two clauses -/
namespace RM
open PySem PySem.Spec PyProof.Rows L2

/-- as Ext, but for a list at D that may be written -/
structure ExtD (p : Addr) (G : Gh) (H : Hp) (G' : Gh) (H' : Hp) : Prop where
  fz : ∀ a, G.Fz a → G'.Fz a
  mu : ∀ a, G.Mu a → G'.Mu a
  dr : ∀ z, G.dr = some z → G'.dr = some z
  keep : ∀ a o, H a = some o → ¬ G.Mu a → a ≠ p → H' a = some o
  there : ∀ a, H a ≠ none → H' a ≠ none
  nfz : ∀ a, G'.Fz a → G.Fz a ∨ H a = none
  nmu : ∀ a, G'.Mu a → G.Mu a ∨ H a = none
  ndr : ∀ z, G'.dr = some z → G.dr = some z ∨ H z.2 = none
section
variable {Y : Tx} {G G1 G2 : Gh} {H H1 H2 H0 : Hp} {S S1 : Sto} {p : Addr} {σ : L2.St} {ρ : Fe}
theorem Ext.extD (e : Ext G H G1 H1) : ExtD p G H G1 H1 := ⟨e.fz, e.mu, e.dr, fun a o h m _ => e.keep a o h m, e.there, e.nfz, e.nmu, e.ndr⟩
theorem ExtD.refl : ExtD p G H G H := Ext.refl.extD
theorem ExtD.trans (a : ExtD p G H G1 H1) (b : ExtD p G1 H1 G2 H2) : ExtD p G H G2 H2 where
  fz := fun x h => b.fz x (a.fz x h)
  mu := fun x h => b.mu x (a.mu x h)
  dr := fun z h => b.dr z (a.dr z h)
  keep := fun x o h n q => b.keep x o (a.keep x o h n q) (fun m => (a.nmu x m).elim n fun e => by rw [h] at e; cases e) q
  there := fun x h => b.there x (a.there x h)
  nfz := fun x h => (b.nfz x h).elim (a.nfz x) fun e => by
    by_cases q : H x = none
    · exact .inr q
    · exact absurd e (a.there x q)
  nmu := fun x h => (b.nmu x h).elim (a.nmu x) fun e => by
    by_cases q : H x = none
    · exact .inr q
    · exact absurd e (a.there x q)
  ndr := fun z h => (b.ndr z h).elim (a.ndr z) fun e => by
    by_cases q : H z.2 = none
    · exact .inr q
    · exact absurd e (a.there z.2 q)
theorem _root_.RM.Ext.transD (a : Ext G H G1 H1) (b : ExtD p G1 H1 G2 H2) (hp : H p = none) : Ext G H G2 H2 where
  fz := fun x h => b.fz x (a.fz x h)
  mu := fun x h => b.mu x (a.mu x h)
  dr := fun z h => b.dr z (a.dr z h)
  keep := fun x o h n => b.keep x o (a.keep x o h n) (fun m => (a.nmu x m).elim n fun e => by rw [h] at e; cases e) (ne_of_none h hp)
  there := fun x h => b.there x (a.there x h)
  nfz := fun x h => (b.nfz x h).elim (a.nfz x) fun e => by
    by_cases q : H x = none
    · exact .inr q
    · exact absurd e (a.there x q)
  nmu := fun x h => (b.nmu x h).elim (a.nmu x) fun e => by
    by_cases q : H x = none
    · exact .inr q
    · exact absurd e (a.there x q)
  ndr := fun z h => (b.ndr z h).elim (a.ndr z) fun e => by
    by_cases q : H z.2 = none
    · exact .inr q
    · exact absurd e (a.there z.2 q)
theorem ExtD.write {o : HO} : ExtD p G H G (upd H p o) where
  fz := fun _ h => h
  mu := fun _ h => h
  dr := fun _ h => h
  keep := fun a u h _ q => by rw [upd_ne q]; exact h
  there := fun a h => by
    by_cases q : a = p
    · subst q; rw [upd_same]; exact fun z => nomatch z
    · rw [upd_ne q]; exact h
  nfz := fun _ h => .inl h
  nmu := fun _ h => .inl h
  ndr := fun _ h => .inl h
theorem ExtD.kp {xs : List V} (e : ExtD p G H G1 H1) (ok : GOk Y G H S) (hp : H p = some (.lst xs)) (nf : ¬ G.Fz p) : Kp G H G1 H1 := ⟨e.fz, e.dr, fun a o h s => e.keep a o h (s.elim (ok.solid a o h) (ok.fzmu a)) fun z => by
  subst z
  rcases s with s | s
  · rw [hp] at h; cases h; exact s
  · exact nf s⟩
theorem SR.extD {xs : List V} (sr : SR Y H0 G H σ ρ) (e : ExtD p G H G1 H1) (ok : GOk Y G H S) (hp : H p = some (.lst xs)) (nf : ¬ G.Fz p) (h0 : H0 p ≠ none) (hz : ∀ z, Y.thk = some z → z.2.2 p = none) : SR Y H0 G1 H1 σ ρ := by
  refine ⟨sr.len, fun i s h => ?_, sr.apart, fun z hz' => ⟨(sr.thx z hz').1.transD e (hz z hz'), (sr.thx z hz').2⟩⟩
  have q := sr.slot i s h
  cases s with
  | emp => trivial
  | thk => exact q
  | val d => obtain ⟨v, h, r⟩ := q; exact ⟨v, h, r.mono (e.kp ok hp nf)⟩
  | exn x =>
    obtain ⟨a, cls, dx, h, c, c', C, fs, q, fv, e1, e2, e3, e4, hq, m, r⟩ := q
    refine ⟨a, cls, dx, h, c, c', C, fs, q, fv, e1, e2, e3, e4, e.keep q _ hq m fun z => ?_, fun z => (e.nmu q z).elim m fun z => (by rw [hq] at z; cases z), r.mono (e.kp ok hp nf)⟩
    rw [z, hp] at hq; cases hq
  | own xs =>
    obtain ⟨a, vs, hs, ha, f, m, h00, r⟩ := q
    have ne : a ≠ p := fun z => h0 (z ▸ h00)
    have no : H a = none → False := fun z => by rw [ha] at z; cases z
    exact ⟨a, vs, hs, e.keep a _ ha m ne, fun q => (e.nfz a q).elim f no, fun q => (e.nmu a q).elim m no, h00, r.mono (e.kp ok hp nf)⟩
  | new c fs =>
    obtain ⟨a, C, dx, fv, hs, hc, ha, f, m, h00, r⟩ := q
    have ne : a ≠ p := fun z => h0 (z ▸ h00)
    have no : H a = none → False := fun z => by rw [ha] at z; cases z
    exact ⟨a, C, dx, fv, hs, hc, e.keep a _ ha m ne, fun q => (e.nfz a q).elim f no, fun q => (e.nmu a q).elim m no, h00, r.mono (e.kp ok hp nf)⟩
/-- a list that is not there yet is no one's own -/
theorem SR.avoid {o : HO} (sr : SR Y H0 G H σ ρ) (hp : H p = none) : SR Y (upd H0 p o) G H σ ρ := by
  refine ⟨sr.len, fun i s h => ?_, sr.apart, fun z hz => ⟨(sr.thx z hz).1, fun a h => (sr.thx z hz).2 a ?_⟩⟩
  case refine_2 =>
    by_cases e : a = p
    · subst e; rw [upd_same] at h; cases h
    · rw [upd_ne e] at h; exact h
  have q := sr.slot i s h
  cases s with
  | emp => trivial
  | thk => exact q
  | val d => exact q
  | exn x => exact q
  | own xs =>
    obtain ⟨a, vs, hs, ha, f, m, h00, r⟩ := q
    refine ⟨a, vs, hs, ha, f, m, ?_, r⟩
    rw [upd_ne (ne_of_none ha hp)]
    exact h00
  | new c fs =>
    obtain ⟨a, C, dx, fv, hs, hc, ha, f, m, h00, r⟩ := q
    refine ⟨a, C, dx, fv, hs, hc, ha, f, m, ?_, r⟩
    rw [upd_ne (ne_of_none ha hp)]
    exact h00
end

section
variable {Y : Tx} {k : Nat} {C : Orc} {g : Cfg} {gt : Gt} {X : Cx} {W : WX} {kin : Kin} {look : Bool} {G : Gh} {H H0 : Hp} {σ : L2.St} {ρ : Fe}
def lc2G (kin : Kin) (C : Orc) (ρ1 : Fe) (p2 : List Nat) (t2 : Q) (e : E) (y : RM.D) : M (Option RM.D) := do
  let ρ2 ← M.op (asgP p2 y (wipeE ρ1 p2))
  let b ← evT kin C t2 ρ2
  if b then do
    let z ← evE kin C e ρ2
    pure (some z)
  else pure none
def lc2F (kin : Kin) (C : Orc) (ρ : Fe) (own p : List Nat) (t : Q) (p2 : List Nat) (it2 : I) (t2 : Q) (e : E) (x : RM.D) : M (List RM.D) := do
  let ρ1 ← M.op (asgP p x (wipeE ρ own))
  let b ← evT kin C t ρ1
  if b then do
    let ys ← evI kin C it2 ρ1
    few ys.length
    mapO (lc2G kin C ρ1 p2 t2 e) ys
  else pure []
theorem evE_lc2 (own p : List Nat) (it : I) (t : Q) (p2 : List Nat) (it2 : I) (t2 : Q) (e : E) (ρ : Fe) : evE kin C (.lc2 own p it t p2 it2 t2 e) ρ = (do
    let xs ← evI kin C it ρ
    few xs.length
    let rs ← M.quiet (mapL (lc2F kin C ρ own p t p2 it2 t2 e) xs)
    pure (.lst rs)) := by
  rw [evE]; rfl
theorem t_lc2 {vs p p2 : List Nat} {it it2 : I} {t t2 : Q} {e : E} {σ : L2.St} {H : Hp} {Q : VK} (hp : ∀ i ∈ p, i ∈ vs) (hp2 : ∀ i ∈ p2, i ∈ vs) (h : tN Y W (evE kin C (.lc2 vs p it t p2 it2 t2 e)) σ H Q) :
    tLc2 (tI Y W true (evI kin C it)) (tG Y p) (tQ Y WF (evT kin C t)) (tI Y WF false (evI kin C it2)) (tG Y p2) (tQ Y WF (evT kin C t2)) (tE Y WF (RD Y) (evE kin C e)) vs p2 σ H Q := by
  obtain ⟨H0, G, ρ, S, ok0, sr, w⟩ := h
  rw [evE_lc2] at w
  refine ⟨H0, G, ρ, S, ok0, sr, wpM_mono (wpM_bind.mp w) (fun xs S1 w1 G1 H1 J e1 ok1 yk D hD => ?_) fun _ _ h => h⟩
  obtain ⟨hz, w1⟩ := few_wp (wpM_bind.mp w1)
  have w1 := wpM_quiet (wpM_bind.mp w1)
  have sr1 : SR Y (upd H0 D (.lst [])) G1 H1 σ ρ := (sr.ext e1 ok0).avoid hD
  have thD : ∀ z, Y.thk = some z → z.2.2 D = none := fun z hz => by
    cases e : z.2.2 D with
    | none => rfl
    | some u => exact absurd hD ((sr.ext e1 ok0).thx z hz |>.1.there D (by rw [e]; exact fun z => nomatch z))
  have h0D : upd H0 D (.lst []) D ≠ none := by rw [upd_same]; exact fun z => nomatch z
  have nF : ¬ G1.Fz D := fun z => ok1.fzT D z hD
  have nM : ¬ G1.Mu D := fun z => ok1.muT D z hD
  have hln := sizeLine_eq
  -- the wish
  let Kq : List RM.D → Sto → Prop := fun rs S' => ∀ G' H' a vs', Ext G1 H1 G' H' → GOk Y G' H' S' → H1 a = none → H' a = some (.lst vs') → ¬ G'.Fz a → ¬ G'.Mu a → RDs Y G' H' vs' rs → Q (.ref a) H'
  -- the invariant: the rest of the outer turns stands behind
  let Inv1 : Nat → Gh → Hp → Sto → List V → List RM.D → Prop := fun n G H S acc ds => GOk Y G H S ∧ Ext G1 H1 G H ∧ H D = some (.lst acc) ∧ ¬ G.Fz D ∧ ¬ G.Mu D ∧ RDs Y G H acc ds ∧ acc.length ≤ n
  refine ⟨fun i m H => m = xs.length - i ∧ i ≤ xs.length ∧ ∃ G S acc ds, Inv1 (4000 * i) G H S acc ds ∧
    wpM (mapL (lc2F kin C ρ vs p t p2 it2 t2 e) (xs.drop i)) S (fun rs S' => Kq (ds ++ rs) S') (fun _ _ => False),
    ⟨xs.length, by simp, Nat.zero_le _, G1, S1, [], [], ⟨ok1.new hD, Ext.new ok1 hD, upd_same, nF, nM, .nil, Nat.zero_le _⟩, ?_⟩, ?_⟩
  · refine wpM_mono w1 (fun rs S2 q G' H' a vs' x okx na ha nf nm rsx => ?_) fun _ _ z => z
    have na' : H a = none := by
      cases hh : H a with
      | none => rfl
      | some u => exact absurd na (e1.there a (by rw [hh]; exact fun z => nomatch z))
    exact q G' H' a vs' rs rfl (e1.trans x) okx na' ha nf nm rsx
  rintro i m H2 ⟨rfl, hle, G2, S2, acc, ds, ⟨ok2, e2, hacc, nf2, nm2, rs2, hlen⟩, w2⟩
  by_cases hlt : i < xs.length
  · obtain ⟨hgo, hyl⟩ := yk.go i G2 H2 S2 hlt e2 ok2
    refine .inr ⟨hgo, fun H' => ∃ m', m' < xs.length - i ∧ m' = xs.length - (i + 1) ∧ i + 1 ≤ xs.length ∧ ∃ G S acc ds, Inv1 (4000 * (i + 1)) G H' S acc ds ∧
      wpM (mapL (lc2F kin C ρ vs p t p2 it2 t2 e) (xs.drop (i + 1))) S (fun rs S' => Kq (ds ++ rs) S') (fun _ _ => False), fun H' h => h, fun x H3 y => ?_⟩
    obtain ⟨d, hd, e3, ok3, r3⟩ := hyl x H3 y
    have hdrop : xs.drop i = d :: xs.drop (i + 1) := by
      rw [List.drop_eq_getElem_cons hlt]
      rw [List.getElem?_eq_getElem hlt] at hd
      rw [Option.some.inj hd]
    rw [hdrop] at w2
    have w2 := mapL_cons w2
    unfold lc2F at w2
    obtain ⟨ρ1, hρ, w2⟩ := wpM_op.mp (wpM_bind.mp w2)
    have w2 := wpM_bind.mp w2
    have e13 := e2.trans e3
    have srw : SR Y (upd H0 D (.lst [])) G2 H3 (wipe σ vs) (wipeE ρ vs) := (sr1.ext e13 ok1).wipe vs
    refine ⟨_, G2, wipeE ρ vs, S2, d, ρ1, ok3, srw, r3, hρ, fun σ2 sr2 hw => ⟨by rw [hw vs hp, wipe_idem], ?_⟩⟩
    refine ⟨_, G2, ρ1, S2, ok3, sr2, wpM_mono w2 (fun b S3 w3 G4 H4 e4 ok4 => ?_) fun _ _ z => z.elim⟩
    have ne3 : H3 D = some (.lst acc) := e3.keep D _ hacc nm2
    have ne4 : H4 D = some (.lst acc) := e4.keep D _ ne3 nm2
    have nfz : ∀ {Ga Gb : Gh} {Ha Hb : Hp} {z : List V}, Ext Ga Ha Gb Hb → Ha D = some (.lst z) → ¬ Ga.Fz D → ¬ Gb.Fz D := fun x h n z => (x.nfz D z).elim n fun q => by rw [h] at q; cases q
    have nmu : ∀ {Ga Gb : Gh} {Ha Hb : Hp} {z : List V}, Ext Ga Ha Gb Hb → Ha D = some (.lst z) → ¬ Ga.Mu D → ¬ Gb.Mu D := fun x h n z => (x.nmu D z).elim n fun q => by rw [h] at q; cases q
    cases b with
    | false =>
      simp only [Bool.false_eq_true, if_false]
      refine ⟨_, by omega, rfl, hlt, G4, S3, acc, ds, ⟨ok4, e13.trans e4, ne4, nfz e4 ne3 nf2, nmu e4 ne3 nm2, (rs2.ext e3 ok2).ext e4 ok3, by omega⟩, w3⟩
    | true =>
      simp only [if_true]
      have w3 := wpM_bind.mp w3
      have sr4 := sr2.ext e4 ok3
      refine ⟨_, G4, ρ1, S3, ok4, sr4, wpM_mono w3 (fun ys S5 w5 G5 H5 J1 e5 ok5 yk1 => ?_) fun _ _ z => z.elim⟩
      obtain ⟨hz1, w5⟩ := few_wp (wpM_bind.mp w5)
      have ne5 : H5 D = some (.lst acc) := e5.keep D _ ne4 (nmu e4 ne3 nm2)
      have nf5 := nfz e5 ne4 (nfz e4 ne3 nf2)
      have nm5 := nmu e5 ne4 (nmu e4 ne3 nm2)
      have sr5 := sr4.ext e5 ok4
      have e15 := (e13.trans e4).trans e5
      have rs5 := ((rs2.ext e3 ok2).ext e4 ok3).ext e5 ok4
      refine ⟨fun j q H => q = ys.length - j ∧ j ≤ ys.length ∧ ∃ G S acc' ds', Inv1 (4000 * i + j) G H S acc' ds' ∧ ExtD D G5 H5 G H ∧
        wpM (mapO (lc2G kin C ρ1 p2 t2 e) (ys.drop j)) S (fun r1 S' => wpM (mapL (lc2F kin C ρ vs p t p2 it2 t2 e) (xs.drop (i + 1))) S' (fun rs S'' => Kq (ds' ++ (r1 ++ rs)) S'') (fun _ _ => False)) (fun _ _ => False),
        ⟨ys.length, by simp, Nat.zero_le _, G5, S5, acc, ds, ⟨ok5, e15, ne5, nf5, nm5, rs5, by omega⟩, ExtD.refl, w5⟩, ?_⟩
      rintro j q H6 ⟨rfl, hle6, G6, S6, acc6, ds6, ⟨ok6, e16, hacc6, nf6, nm6, rs6, hlen6⟩, x56, w6⟩
      have kp6 : Kk false Y G5 H5 G6 H6 := x56.kp ok5 ne5 nf5
      by_cases hlt6 : j < ys.length
      · obtain ⟨hgo6, hyl6⟩ := yk1.go j G6 H6 S6 hlt6 kp6 ok6
        refine .inr ⟨hgo6, fun H' => ∃ q', q' < ys.length - j ∧ q' = ys.length - (j + 1) ∧ j + 1 ≤ ys.length ∧ ∃ G S acc' ds', Inv1 (4000 * i + (j + 1)) G H' S acc' ds' ∧ ExtD D G5 H5 G H' ∧
          wpM (mapO (lc2G kin C ρ1 p2 t2 e) (ys.drop (j + 1))) S (fun r1 S' => wpM (mapL (lc2F kin C ρ vs p t p2 it2 t2 e) (xs.drop (i + 1))) S' (fun rs S'' => Kq (ds' ++ (r1 ++ rs)) S'') (fun _ _ => False)) (fun _ _ => False), fun H' h => h, fun x7 H7 y7 => ?_⟩
        obtain ⟨d7, hd7, e7, ok7, r7⟩ := hyl6 x7 H7 y7
        have hdrop7 : ys.drop j = d7 :: ys.drop (j + 1) := by
          rw [List.drop_eq_getElem_cons hlt6]
          rw [List.getElem?_eq_getElem hlt6] at hd7
          rw [Option.some.inj hd7]
        rw [hdrop7] at w6
        have w6 := mapO_cons w6
        unfold lc2G at w6
        obtain ⟨ρ2, hρ2, w7⟩ := wpM_op.mp (wpM_bind.mp w6)
        have w7 := wpM_bind.mp w7
        have x57 : ExtD D G5 H5 G6 H7 := x56.trans e7.extD
        have sr7 : SR Y (upd H0 D (.lst [])) G6 H7 (wipe σ2 p2) (wipeE ρ1 p2) := ((sr5.extD x57 ok5 ne5 nf5 h0D thD)).wipe p2
        refine ⟨_, G6, wipeE ρ1 p2, S6, d7, ρ2, ok7, sr7, r7, hρ2, fun σ3 sr8 hw8 => ⟨by rw [hw8 p2 fun i h => h, wipe_idem], ?_⟩⟩
        refine ⟨_, G6, ρ2, S6, ok7, sr8, wpM_mono w7 (fun b8 S8 w8 G8 H8 e8 ok8 => ?_) fun _ _ z => z.elim⟩
        have ne7 : H7 D = some (.lst acc6) := e7.keep D _ hacc6 nm6
        have ne8 : H8 D = some (.lst acc6) := e8.keep D _ ne7 nm6
        have e18 := (e16.trans e7).trans e8
        have rs8 := (rs6.ext e7 ok6).ext e8 ok7
        have x58 := x57.trans (e8.extD (p := D))
        cases b8 with
        | false =>
          simp only [Bool.false_eq_true, if_false]
          exact ⟨_, by omega, rfl, hlt6, G8, S8, acc6, ds6, ⟨ok8, e18, ne8, nfz e8 ne7 nf6, nmu e8 ne7 nm6, rs8, by omega⟩, x58, w8⟩
        | true =>
          simp only [if_true]
          have w8 := wpM_bind.mp w8
          refine ⟨_, G8, ρ2, S8, ok8, sr8.ext e8 ok7, wpM_mono w8 (fun y S9 w9 G9 H9 v e9 ok9 r9 => ?_) fun _ _ z => z.elim⟩
          have ne9 : H9 D = some (.lst acc6) := e9.keep D _ ne8 (nmu e8 ne7 nm6)
          have nf9 := nfz e9 ne8 (nfz e8 ne7 nf6)
          have nm9 := nmu e9 ne8 (nmu e8 ne7 nm6)
          have kp := Kp.write (G := G9) (o := .lst (acc6 ++ [v])) ne9 nf9
          refine ⟨acc6, ne9, by omega, _, by omega, rfl, hlt6, G9, S9, acc6 ++ [v], ds6 ++ [y], ⟨ok9.write ne9 nf9 nm9, (e18.trans e9).grow hD, upd_same, nf9, nm9, ?_, by simp; omega⟩, (x58.trans e9.extD).trans ExtD.write, ?_⟩
          · exact ((rs8.ext e9 ok8).append (.cons r9 .nil)).mono kp
          · refine wpM_mono w9 (fun r1 S10 w10 => wpM_mono w10 (fun rs S11 w11 => ?_) fun _ _ z => z) fun _ _ z => z
            rw [List.append_assoc]
            exact w11
      · have hi : j = ys.length := by omega
        subst hi
        rw [List.drop_length] at w6
        refine .inl ⟨yk1.stop _ G6 H6 S6 (Nat.le_refl _) kp6 ok6, _, by omega, rfl, hlt, G6, S6, acc6, ds6, ⟨ok6, e16, hacc6, nf6, nm6, rs6, by omega⟩, w6⟩
  · have hi : i = xs.length := by omega
    subst hi
    rw [List.drop_length] at w2
    refine .inl ⟨yk.stop _ G2 H2 S2 (Nat.le_refl _) e2 ok2, ?_⟩
    exact w2 G2 H2 D acc e2 ok2 hD hacc nf2 nm2 (by rw [List.append_nil]; exact rs2)
theorem s_lc2N {elt tg iter tg1 iter1 : Expr} {ifs ifs1 : List Expr} {scope : Scope} {own : List (Str × Nat)} {pos : Pos} {p p2 : List Nat} {it it2 : I} {t t2 : Q} {e : E} (o : Cok kin gt Y k C g X W) (hh : g.hot = false) (hi : PI X tg iter (tI Y W true (evI kin C it))) (ok : BlkOk X.N X.env.scope scope own) (hp : ∀ i ∈ p, i ∈ own.map (·.2)) (hp2 : ∀ i ∈ p2, i ∈ own.map (·.2))
    (hg : ∀ X' : Cx, Cok kin gt Y k C (g.blk scope) X' WF → PG X' tg (tG Y p)) (ht : ∀ X' : Cx, Cok kin gt Y k C (g.blk scope) X' WF → PTs X' ifs (tQ Y WF (evT kin C t)))
    (hi1 : ∀ X' : Cx, Cok kin gt Y k C (g.blk scope) X' WF → PI X' tg1 iter1 (tI Y WF false (evI kin C it2)))
    (hg1 : ∀ X' : Cx, Cok kin gt Y k C (g.blk scope) X' WF → PG X' tg1 (tG Y p2)) (ht1 : ∀ X' : Cx, Cok kin gt Y k C (g.blk scope) X' WF → PTs X' ifs1 (tQ Y WF (evT kin C t2)))
    (he : ∀ X' : Cx, Cok kin gt Y k C (g.blk scope) X' WF → PE X' elt (tE Y WF (RD Y) (evE kin C e))) (hs : ∀ env x, foldedSetIterable iter env x = pure x) (hs1 : ∀ env x, foldedSetIterable iter1 env x = pure x) :
    PE X (.ListComp elt [⟨tg, iter, ifs, 0⟩, ⟨tg1, iter1, ifs1, 0⟩] scope pos) (tN Y W (evE kin C (.lc2 (own.map (·.2)) p it t p2 it2 t2 e))) := by
  exact (pe_lc2 (o.ox.calm hh) o.ox.nd hi ok hp2 (fun s H c cl fp => hg _ (blk_cok o hh s H scope c cl fp)) (fun s H c cl fp => ht _ (blk_cok o hh s H scope c cl fp)) (fun s H c cl fp => hi1 _ (blk_cok o hh s H scope c cl fp))
    (fun s H c cl fp => hg1 _ (blk_cok o hh s H scope c cl fp)) (fun s H c cl fp => ht1 _ (blk_cok o hh s H scope c cl fp)) (fun s H c cl fp => he _ (blk_cok o hh s H scope c cl fp)) (fun x => hs _ x) hs1).imp fun σ H Q h => t_lc2 hp hp2 h
end
end RM
end
section
set_option Elab.async false
set_option linter.all false
set_option maxRecDepth 100000
set_option autoImplicit false
/-! a def called with a lambda; the call of what was handed in -/
namespace RM
open PySem PySem.Spec PyProof.Rows L2 LamX

section
variable {Y : Tx} {G : Gh} {H H1 : Hp} {S : Sto}
/-- a lambda was made -/
theorem made_ok {P c' : Addr} {q : Str} (ok : GOk Y G H S) (hp : (P, q) ∈ Y.tabs) (one : ∀ p ∈ Y.tabs, ∀ p' ∈ Y.tabs, p.1 = p'.1 → p = p') (m : MadeH H P c' q H1) : Ext G H G H1 ∧ GOk Y G H1 S := by
  rcases m with rfl | ⟨ps, more, hP, hc, T1, rfl⟩
  · exact ⟨Ext.refl, ok⟩
  have mP : G.Mu P := (ok.tab _ hp).1
  have nPc : P ≠ c' := ne_of_none hP hc
  have k : ∀ a o, a ≠ P → H a = some o → upd (upd H P (.tbl (ps ++ more))) c' (CodeO c' q) a = some o := fun a o n h => by rw [upd_ne (ne_of_none h hc), upd_ne n]; exact h
  have th : ∀ a, H a ≠ none → upd (upd H P (.tbl (ps ++ more))) c' (CodeO c' q) a ≠ none := fun a h => by
    by_cases e : a = P
    · subst e; rw [upd_ne nPc, upd_same]; exact fun z => nomatch z
    · obtain ⟨u, hu⟩ := some_of_ne h
      rw [k a u e hu]; exact fun z => nomatch z
  have nMu : ∀ a, G.Mu a → a ≠ c' := fun a h e => ok.muT a h (e ▸ hc)
  refine ⟨⟨fun _ h => h, fun _ h => h, fun _ h => h, fun a o h n => k a o (fun e => n (e ▸ mP)) h, th, fun _ h => .inl h, fun _ h => .inl h, fun _ h => .inl h⟩, ok.fzmu, fun a h => th a (ok.fzT a h), fun a h => th a (ok.muT a h), fun a o h s m => ?_, fun z hz => ?_, ok.dr0, fun p hp' => ⟨(ok.tab p hp').1, ?_⟩, fun a f h m => ?_⟩
  · rw [upd_ne (nMu a m)] at h
    by_cases e : a = P
    · subst e; rw [upd_same] at h; cases h; exact s
    · rw [upd_ne e] at h; exact ok.solid a o h s m
  · obtain ⟨l, ns, ms, n, h1, h2, h3, h4, h5, h6, h7, r⟩ := ok.dr z hz
    have nt : ∀ {a : Addr} {o : HO}, H a = some o → (∀ qs, o ≠ .tbl qs) → upd (upd H P (.tbl (ps ++ more))) c' (CodeO c' q) a = some o := fun {a o} h n => k a o (fun e => n ps (Option.some.inj (h.symm.trans (by rw [e]; exact hP)))) h
    exact ⟨l, ns, ms, n, nt h1 (fun _ z => nomatch z), h2, h3, h4, nt h5 (fun _ z => nomatch z), h6, nt h7 (fun _ z => nomatch z), r⟩
  · by_cases e : p.1 = P
    · have := one p hp' _ hp e
      rw [this]
      exact T1
    · exact tab_ne (p := P) ((ok.tab p hp').2.ext fun a u h => h) (fun a u n h => k a u n h) e fun f z => by rw [hP] at z; cases z
  · rw [upd_ne (nMu a m)] at h
    by_cases e : a = P
    · subst e; rw [upd_same] at h; cases h
    · rw [upd_ne e] at h; exact ok.ext a f h m
end
section
variable {Y : Tx} {k : Nat} {C : Orc} {g : Cfg} {gt : Gt} {X : Cx} {W : WX} {kin : Kin} {look : Bool} {r : Cfg → Cp}
/-- the context of a lambda's body -/
theorem lam_cok (o : Cok kin gt Y k C g X W) (hl : g.lam = true) (hh : g.hot = false) {A : Around} {outer : List Env} {s : Shared} {H : Hp} {E : XK} {scope : Scope} {f c' : Addr} (hr1 : Room (k + 1) (A.deeper (lamEnv X scope s.heap.objs.size f c'))) (hg : A.guards = some []) :
    Cok kin gt Y k C (g.lamC scope) (lamCx X A outer s H E scope f c') (fun cls d _ H => E cls d H) where
  ox := ⟨o.ox.nd, fun _ => rfl, o.ox.hK, fun _ => hr1.mono (by omega), (by have h := hr1.un; show (A.deeper (lamEnv X scope s.heap.objs.size f c')).units + 200 < cLine; omega), hg, o.ox.sys, fun _ => hr1⟩
  N := o.N
  sc := rfl
  fn := rfl
  tk := takes_of rfl rfl rfl rfl
  cold := fun _ => o.cold hh
  kok := o.kok
  cur := fun a cls dx e => by rw [o.cold hh] at e; cases e
  lm := fun z => nomatch z
  th := fun i z => nomatch z
  gt := by
    have z := o.gt
    rw [hh] at z
    exact z
/-- f(lambda: body) -/
theorem s_hof (sn : Snd kin gt r) (o : Cok kin gt Y k C g X W) {f : Str} {args : List Expr} {i : E} {p pos : Pos} (hf : okName f = true) (hgl : g.glo gt f = some .hof) (h : hofW r g f args = some i) :
    PE X (.Call (.Name f p) args [] pos) (tE Y W (RL look Y) (evE kin C i)) := by
  obtain ⟨n1, n2, n3⟩ := okName_ok hf
  unfold hofW at h
  split at h
  case h_2 => cases h
  rename_i params body scope lpos
  split at h
  case isFalse => cases h
  rename_i hc
  rw [Bool.and_eq_true, Bool.not_eq_true'] at hc
  obtain ⟨hlam, hh⟩ := hc
  simp only [Option.bind_eq_bind, Option.bind_eq_some_iff] at h
  obtain ⟨d, hd, h⟩ := h
  split at h
  case isFalse => cases h
  rename_i hsc
  simp only [Option.bind_eq_some_iff, Option.some.injEq] at h
  obtain ⟨e, he, rfl⟩ := h
  obtain ⟨hr, ⟨c, P, TB, hcode, hT⟩, one, hof⟩ := o.lm hlam
  have hgt : gt.lookup f = some .hof := by
    unfold Cfg.glo at hgl
    split at hgl
    · exact hgl
    · cases hgl
  obtain ⟨fa, hm, hk, F⟩ := hof f hgt
  obtain ⟨hg, _⟩ := glo_ok o hgl
  have L : LamSc X.env.scope scope X.N (d.map (·.1)) := by
    rw [o.sc, o.N]
    exact lamSc_by hsc
  have LP := lamPar_ok hd
  refine ⟨fun pins s σ H Q I h => ?_⟩
  obtain ⟨H0, G, ρ, S, ok, sr, w⟩ := h
  have w : wpM (C.hof f (evE kin C e ρ)) S (QE Y G H (RL look Y) Q) (RE Y G H σ W) := by
    unfold evE at w
    exact w
  refine wpAny_Call_Name_kw (ld_glob I hg hm ?_ n1)
  refine PySem.W.callWith_K (h₀ := X.base) I.ok.mod.kin hk ?_ (by rfl) (by rfl)
  show wpAny _ _ (spliced ((false, eval (.Lambda params body scope lpos) X.env) :: backTo pos (starEach [] X.env))) _ _ s
  refine Calls.spliced_cons (lam_make I TB hcode (ok.tab _ hT).2 LP (L.has I.ok) fun fv c' dV pm ctv H1 s' I1 md hfv hfn hfr hco D => ?_)
  refine Calls.spliced_nil ⟨I1.kIn, ?_⟩
  obtain ⟨e1, ok1⟩ := made_ok ok hT one md
  have act : ActOk X.prog X.w X.K X.mg X.base (k + 2) Y fv (frs X.stack) s' G H1 (evE kin C e ρ) := by
    intro A outer s1 G1 HZ S1 Q' E' hrA hgA e0 un ext ok2 w2
    have hrA' : Room (k + 1 + 1) A := hrA
    refine ⟨⟨_, _, _, _, un.keep fv _ hfv hfn hfr (by simp)⟩, lam_act (outer := outer) (Q := Q') (E := E') I1 L LP hfv hfn hfr D un (ext.keep _ _ hco fun m => ok1.ext c' _ hco m) e0 hrA' (sn.e (g.lamC scope) false body e (lamCx X A outer s1 HZ E' scope fv c') Y k C (fun cls d _ H => E' cls d H) he (lam_cok o hlam hh (hrA'.deeper _) hgA)) ?_⟩
    exact ⟨H0, G1, ρ, S1, ok2, (sr.ext e1 ok).ext ext ok1, wpM_mono w2 (fun d S' q G' H' v x o' r => q G' H' v x o' (by simpa [RL] using r)) fun x S' q => q⟩
  have rc := F (k + 2) (by omega) X.A X.stack s' G H1 S fv (evE kin C e ρ) Q (WE W σ) hr o.ox.gd I1.env0 ok1 act (wpM_mono w (fun d S' q G' H' v x o' r => q G' H' v (e1.trans x) o' r.rl) fun x S' q G' H' cls dx x' o' r => q G' H' cls dx (e1.trans x') o' r)
  refine wpAny_call (codeAny_mono rc fun rr s2 hq => ?_)
  cases rr with
  | error e => exact passAt o.tk σ pins H1 s' e s2 I1 hq
  | ok fl =>
    cases fl with
    | ret u => exact I1.after hq
    | next => exact hq.elim
    | brk => exact hq.elim
    | cont => exact hq.elim
/-- x(), x being what was handed in -/
theorem s_thk (o : Cok kin gt Y k C g X W) {f : Str} {i : Nat} {p pos : Pos} {args : List Expr} (h : thkW g f args = some i) : PE X (.Call (.Name f p) args [] pos) (tE Y W (RL look Y) (evE kin C (.thk i))) := by
  unfold thkW at h
  split at h
  case isFalse => cases h
  rename_i hc
  rw [Bool.and_eq_true, Bool.and_eq_true, Bool.not_eq_true', List.isEmpty_iff] at hc
  obtain ⟨⟨rfl, hh⟩, hf⟩ := hc
  obtain ⟨n1, n2, n3⟩ := okName_ok hf
  split at h
  case h_2 => cases h
  rename_i i' ht
  split at h
  case isFalse => cases h
  rename_i hl
  cases h
  obtain ⟨no, fv, G0, kk, hY, hr, act⟩ := o.th i ht
  obtain ⟨hN, hv⟩ := loc_ok o hl
  refine ⟨fun pins s σ H Q I h => ?_⟩
  obtain ⟨H0, G, ρ, S, ok, sr, w⟩ := h
  unfold evE at w
  split at w
  case h_2 => exact w.elim
  rename_i hi
  obtain ⟨fv', G0', H1', hs, hY'⟩ := sr.slot i .thk hi
  have ex := (sr.thx _ hY).1
  rw [hY] at hY'
  cases hY'
  refine wpAny_Call_Name_kw (thn ((pe_var (pos := p) (i := i) hN hv n1 n2).run pins s σ H (fun v H1 => v = .ref fv ∧ H1 = H) I ⟨.ref fv, hs, rfl, rfl⟩) fun u s1 ⟨v, H1, I1, r1, q1⟩ => ?_)
  obtain ⟨rfl, rfl⟩ := q1
  obtain rfl : u = Value.ref fv := r1
  have un := I1.base
  rw [no] at un
  obtain ⟨hF, hc⟩ := act X.A X.stack s1 G _ S Q (WE W σ) hr o.ox.gd I1.env0 un ex ok (wpM_mono w (fun d S' q G' H' v x o' r => q G' H' v x o' r.rl) fun x S' q G' H' cls dx x' o' r => q G' H' cls dx x' o' r)
  refine PySem.W.callWith_F0 hF (wpAny_call (codeAny_mono hc fun rr s2 hq => ?_))
  cases rr with
  | error e => exact passAt o.tk σ pins _ s1 e s2 I1 hq
  | ok fl =>
    cases fl with
    | ret u => exact I1.after hq
    | next => exact hq.elim
    | brk => exact hq.elim
    | cont => exact hq.elim
end
end RM
end
section
set_option Elab.async false
set_option linter.all false
set_option maxRecDepth 100000
set_option autoImplicit false
/-! == and != by an own __eq__, len by an own __len__ -/
namespace RM
open PySem PySem.Spec PyProof.Rows L2
open Builtin

section
variable {M : Model} {prog : Program} {w : World} {A : Around} {E : Value → Shared → Prop} {s : Shared} {K : PySem.W.Frag} {x C f : Addr} {ox : Obj} {od : Option Obj} {b tb : Value}
theorem ne_entry {Q : Fin → Shared → Prop} (X : K.In s.heap) (I : PySem.W.InstAt s.heap x ox C od) (hs : PySem.W.findIn K (.ref C) "__eq__" = some (some (.ref f))) (hf : PySem.W.isFn K (.ref f) = true) (hu : A.units < cLine)
    (h : wpAny M A (call (.ref f) [.ref x, b]) (fun v s' => ∃ r, v = .bool r ∧ Q (.done (.ret (.bool (!r)))) s') E s) : wpAny M A (Builtin.«object.__ne__» ⟨[.ref x, b], []⟩) Q E s := by
  unfold Builtin.«object.__ne__»
  repeat (first
    | with_reducible refine wpAny_cRoomFor hu ?_
    | (refine wpAny_bind (m := callSpecialIfBound? (.ref x) (Str.ofString "__eq__") [b])
        (PySem.W.ifBound_K X I hs hf (wpAny_mono h (fun r s' hr => by
          obtain ⟨b, rfl, hq⟩ := hr
          repeat (first | exact hq | exact wpAny_pure hq | exact wpAny_truthy_bool hq | (refine wpAny_bind (m := truthy (.bool _)) (wpAny_truthy_bool ?_)) | wp_step)) fun _ _ e => e)))
    | wp_step)
theorem call_objNe {Q : Value → Shared → Prop} (X : K.In s.heap) (I : PySem.W.InstAt s.heap x ox C od) (hm : PySem.W.mroIn K C (.type "object") = some true) (hs : PySem.W.findIn K (.ref C) "__eq__" = some (some (.ref f))) (hf : PySem.W.isFn K (.ref f) = true) (hu : A.in1.units < cLine)
    (h : wpAny (model prog w) A.in1 (call (.ref f) [.ref x, b]) (fun v s' => ∃ r, v = .bool r ∧ Q (.bool (!r)) s') E s) : wpAny (model prog w) A (call (.builtin "object.__ne__") [.ref x, b]) Q E s :=
  wpAny_call (codeAny_call_builtin F.cmp_object.ne.plain F.cmpEntry_ne (PySem.W.check_slot F.cmpKind_ne F.cmpSplit_ne (I.type.andThen (PySem.W.looks_mroIn X hm)) (F.cmpArgs_ne _ _) (ne_entry X I hs hf hu h)))
theorem ifBound_objNe {args : List Value} {Q : Option Value → Shared → Prop} (X : K.In s.heap) (I : PySem.W.InstAt s.heap x ox C od) (hs : PySem.W.findIn K (.ref C) "__ne__" = some (some (.builtin "object.__ne__")))
    (h : wpAny M A (call (.builtin "object.__ne__") (.ref x :: args)) (fun v => Q (some v)) E s) : wpAny M A (callSpecialIfBound? (.ref x) "__ne__" args) Q E s := by
  simp only [callSpecialIfBound?, bindSpecialIfBound?]
  refine wpAny_holding (wpAny_bind (wpAny_bind (wpAny_bind (I.type.here ((PySem.W.looks_findIn X hs).here ?_)))))
  refine wpAny_bind (wpAny_askSetting (wpAny_ite ?_))
  have fin : wpAny M A (call (.builtin "object.__ne__") ([.ref x] ++ args) >>= fun v => pure (some v)) Q E s := wpAny_bind (wpAny_mono h (fun v s' h' => wpAny_pure h') fun _ _ h' => h')
  split
  · exact wpAny_bind (wpAny_of_eq (F.cmp_object.ne.bind _) (wpAny_pure (by exact fin)))
  · exact wpAny_tryCatch (wpAny_bind (wpAny_of_eq (F.cmp_object.ne.bind _) (wpAny_pure (by exact fin))))
/-- x != b by x's own __eq__ -/
theorem ne_K {Q : Value → Shared → Prop} (hu : A.in1.units < cLine) (X : K.In s.heap) (I : PySem.W.InstAt s.heap x ox C od) (hb : PySem.W.Looks (model prog w) s.heap (typeOf b) tb) (hn : PySem.W.notFirst K C tb = true)
    (hm : PySem.W.mroIn K C (.type "object") = some true) (hs : PySem.W.findIn K (.ref C) "__eq__" = some (some (.ref f))) (hf : PySem.W.isFn K (.ref f) = true) (hne : PySem.W.findIn K (.ref C) "__ne__" = some (some (.builtin "object.__ne__")))
    (h : wpAny (model prog w) A.in1 (call (.ref f) [.ref x, b]) (fun v s' => ∃ r, v = .bool r ∧ Q (.bool (!r)) s') E s) : wpAny (model prog w) A (richCompare .NotEq (.ref x) b) Q E s := by
  have one : wpAny (model prog w) A (tryCompare (.ref x) "__ne__" b) (fun r s' => ∃ v, r = some v ∧ Q v s') E s := by
    unfold tryCompare
    refine wpAny_bind (ifBound_objNe X I hne (call_objNe X I hm hs hf hu (wpAny_mono h (fun v s' hv => ?_) fun _ _ e => e)))
    obtain ⟨r, rfl, hq⟩ := hv
    exact ⟨r, rfl, wpAny_pure ⟨_, rfl, hq⟩⟩
  unfold richCompare
  simp only [oneThing_ref]
  have hu0 : A.units < cLine := by
    have : A.units + 1 < cLine := hu
    omega
  refine wpAny_holding (wpAny_bind (wpAny_cRoomFor hu0 ?_))
  refine wpAny_bind (I.type.here (wpAny_bind (hb.here ?_)))
  split
  · rename_i q
    have e : PySem.W.subIn K tb (.ref C) = some false := by
      rcases Bool.or_eq_true_iff.mp hn with e | e
      · rw [beq_iff_eq.mp e] at q; simp at q
      · exact beq_iff_eq.mp e
    refine wpAny_bind ((PySem.W.looks_subIn X e).here ?_)
    simp only [Bool.false_eq_true, if_false]
    refine wpAny_bind (wpAny_mono one (fun r s' z => ?_) fun _ _ e => e)
    obtain ⟨v, rfl, hq⟩ := z
    exact wpAny_pure hq
  · refine wpAny_bind (wpAny_pure ?_)
    simp only [Bool.false_eq_true, if_false]
    refine wpAny_bind (wpAny_mono one (fun r s' z => ?_) fun _ _ e => e)
    obtain ⟨v, rfl, hq⟩ := z
    exact wpAny_pure hq
end
end RM
end
section
set_option Elab.async false
set_option linter.all false
set_option maxRecDepth 100000
set_option autoImplicit false
/-! own == and own len -/
namespace RM
open PySem PySem.Spec PyProof.Rows L2

section
variable {Y : Tx} {k : Nat} {C : Orc} {g : Cfg} {gt : Gt} {X : Cx} {W : WX} {kin : Kin} {look : Bool} {r : Cfg → Cp}
def rM2 (Y : Tx) (m : D → D → M D) : R2 := fun v w H Q => ∃ G S x y, ∃ R' : D → Sto → Prop, GOk Y G H S ∧ RD Y G H v x ∧ RD Y G H w y ∧ wpM (m x y) S (QE Y G H (RD Y) Q) R'
theorem sub_tuple {K : PySem.W.Frag} {C : Addr} : PySem.W.subIn K (.type "tuple") (.ref C) = some false := by
  have e : fastBuiltinMro "tuple" = some [.type "tuple", .type "object"] := by decide +kernel
  show (fastBuiltinMro "tuple").map (·.contains (.ref C)) = some false
  rw [e]
  first
    | rfl
    | simp
theorem ty_at {M : Model} {h : Heap} {b : Addr} {o : Obj} (e : h.get? b = some o) : PySem.W.Looks M h (typeOf (.ref b)) o.cls := fun A Q E s k q => wpAny_typeOf_ref (k _ _ e) q
/-- a method of the two, run at A -/
theorem run_own {A : Around} {pins : List (Addr × Obj)} {σ : L2.St} {H : Hp} {s : Shared} {G : Gh} {S : Sto} {f : Addr} {n : Nat} {m : List D → M D} {us : List Value} {vs : List V} {ds : List D} {Q : VK} {R' : D → Sto → Prop} (F : FnG X.prog X.w X.K X.mg X.base k f n (spG Y n m)) (hr : Room k A) (hgd : A.guards = some []) (hA : A.frames = X.A.frames)
    (I : Inv X pins σ H s) (ok : GOk Y G H S) (rv : Vals vs us) (rd : RDs Y G H vs ds) (hn : vs.length = n) (w : wpM (M.quiet (m ds)) S (QE Y G H (RD Y) Q) R') :
    wpAny (model X.prog X.w) A (call (.ref f) us) (EP X pins σ Q) X.xe s := by
  have e0 : Env0 X.prog X.w X.K X.mg X.base A X.stack s H := by
    have e := I.env0
    exact ⟨by rw [hA]; exact e.frames, e.mod, e.bs, e.bsz, e.funs, e.frf, e.hok, e.bare⟩
  refine wpAny_call (codeAny_mono (F.run A X.stack s H us vs Q (fun _ _ _ => False) hr hgd e0 rv ⟨hn, G, S, ds, ok, rd, wpM_mono (wpM_quiet w) (fun d S' q => q) fun x S' z => z.elim⟩) fun rr s' hq => ?_)
  cases rr with
  | error e =>
    obtain ⟨_, _, _, _, _, _, _, _, _, _, _, _, z⟩ := hq
    exact z.elim
  | ok fl =>
    cases fl with
    | ret u => exact I.after hq
    | next => exact hq.elim
    | brk => exact hq.elim
    | cont => exact hq.elim
theorem or_eqo (o : Cok kin gt Y k C g X W) (hh : g.hot = false) (ne : Bool) : OpR X (compareOp (if ne then .NotEq else .Eq)) (rM2 Y (eqoM kin C ne (mths gt "__eq__" 1))) := by
  intro pins s σ H v w u1 u2 Q I ru1 ru2 ⟨G, S, x, y, R', ok, r1, r2, hw⟩
  have plain : (∀ c fs, x ≠ .ins c fs) → wpAny (model X.prog X.w) X.A (compareOp (if ne then .NotEq else .Eq) u1 u2) (EP X pins σ Q) X.xe s := fun hx => by
    have hw : wpM (M.op (cmpD (if ne then .NotEq else .Eq) x y)) S (QE Y G H (RD Y) Q) R' := by
      cases x with
      | ins c fs => exact absurd rfl (hx c fs)
      | _ => exact hw
    obtain ⟨d, hd, q⟩ := wpM_op.mp hw
    exact or_cmp o.ox _ pins s σ H v w u1 u2 Q I ru1 ru2 ⟨G, S, x, y, d, ok, r1.rv, r2.rv, hd, q⟩
  cases x with
  | ins c fs =>
    cases r1 with
    | @ins a Ca dx _ fv _ ha hf hc rf =>
      have hw : wpM (match (mths gt "__eq__" 1).lookup c with
        | some q => if y.isCmp c && kin.isI c then (do
            match ← M.quiet (C q [.ins c fs, y]) with
            | .bl r => pure (.bl (r != ne))
            | _ => M.fail)
          else M.fail
        | none => M.fail) S (QE Y G H (RD Y) Q) R' := hw
      split at hw
      case h_2 => exact hw.elim
      rename_i q hq
      split at hw
      case isFalse => exact hw.elim
      rename_i hy
      rw [Bool.and_eq_true] at hy
      obtain ⟨hy, hi⟩ := hy
      obtain ⟨f, k1, k2, F⟩ := o.gt q _ (mths_ok hq) hh Ca hc
      obtain rfl : u1 = Value.ref a := ru1
      obtain ⟨mA, J, _⟩ := ins_get I.hok ha
      obtain ⟨od, J, _⟩ := J.look
      obtain ⟨m, hF⟩ := I.fr
      have hK : X.K = Y.K := o.ox.hK
      -- what stands to the right
      obtain ⟨b, tb, rfl, hb, hn⟩ : ∃ (b : Addr) (tb : Value), u2 = .ref b ∧ PySem.W.Looks (model X.prog X.w) s.heap (typeOf (.ref b)) tb ∧ PySem.W.notFirst X.K Ca tb = true := by
        cases y with
        | ins c' gs =>
          have ec : c' = c := beq_iff_eq.mp hy
          subst ec
          cases r2 with
          | @ins b Cb dx' _ gv _ hb hf' hc' rf' =>
            rw [hc] at hc'
            cases hc'
            obtain ⟨mB, J', _⟩ := ins_get I.hok hb
            obtain ⟨od', J', _⟩ := J'.look
            exact ⟨b, .ref Ca, ru2, J'.type, by simp [PySem.W.notFirst]⟩
        | tup ys =>
          cases r2 with
          | @tup b vs _ hb rs =>
            obtain ⟨its, _, ⟨ob, e1, e2, _⟩, _⟩ := I.tuple (hK ▸ hb)
            exact ⟨b, .type "tuple", ru2, e2 ▸ ty_at e1, by unfold PySem.W.notFirst; rw [sub_tuple]; simp⟩
        | _ => cases hy
      have rds : RDs Y G H [.ref a, w] [.ins c fs, y] := .cons (.ins ha hf hc rf) (.cons r2 .nil)
      have hrm := o.ox.room hh
      have hr1 := o.ox.room1 hh
      have end_ : ∀ {A : Around}, Room k A → A.guards = some [] → A.frames = X.A.frames → wpAny (model X.prog X.w) A (call (.ref f) [.ref a, .ref b]) (fun u s' => ∃ r, u = .bool r ∧ EP X pins σ Q (.bool (r != ne)) s') X.xe s := fun {A} hA gA fA => by
        refine wpAny_mono (run_own (vs := [.ref a, w]) (us := [.ref a, .ref b]) (Q := fun v' H' => ∃ r, v' = .bl r ∧ Q (.bl (r != ne)) H') F hA gA fA I ok (.cons rfl (.cons ru2 .nil)) rds rfl (wpM_mono (wpM_bind.mp hw) (fun d S1 w1 G1 H1 v1 e1 ok1 rv => ?_) fun _ _ z => z)) (fun u s' hu => ?_) fun _ _ z => z
        · cases d with
          | bl r =>
            cases rv
            exact ⟨r, rfl, w1 G1 H1 _ e1 ok1 (.bl _)⟩
          | _ => exact w1.elim
        · obtain ⟨v1, H1, I1, rr, r, rfl, q⟩ := hu
          obtain rfl : u = Value.bool r := rr
          exact ⟨r, rfl, .bl (r != ne), H1, I1, rfl, q⟩
      cases ne with
      | false =>
        show wpAny (model X.prog X.w) X.A (richCompare .Eq (.ref a) (.ref b)) _ _ s
        refine PySem.W.cmp_K (op := .Eq) (tb := tb) hrm.units0 hF I.ok.mod.kin J hb hn k2.at_ k2.fn (wpAny_mono (end_ hrm o.ox.gd rfl) (fun u s' hu => ?_) fun _ _ z => z)
        obtain ⟨r, rfl, q⟩ := hu
        have e : (r != false) = r := by cases r <;> rfl
        rw [e] at q
        exact q
      | true =>
        show wpAny (model X.prog X.w) X.A (richCompare .NotEq (.ref a) (.ref b)) _ _ s
        have IF := o.kok.isI c Ca hi hc
        refine ne_K (tb := tb) hr1.in1.units0 I.kIn J hb hn (hK ▸ IF.hm) k2.at_ k2.fn (hK ▸ IF.ne) (wpAny_mono (end_ hr1.in1 o.ox.gd rfl) (fun u s' hu => ?_) fun _ _ z => z)
        obtain ⟨r, rfl, q⟩ := hu
        have e : (r != true) = !r := by cases r <;> rfl
        rw [e] at q
        exact ⟨r, rfl, q⟩
  | _ => exact plain (fun _ _ z => by cases z)
theorem t_eqo {ne : Bool} {cs : List (Str × Str)} {x y : E} {σ : L2.St} {H : Hp} {Q : VK} (h : tE Y W (RD Y) (evE kin C (.eqo ne cs x y)) σ H Q) : tOp (rM2 Y (eqoM kin C ne cs)) (tE Y W (RL false Y) (evE kin C x)) (tE Y W (RL false Y) (evE kin C y)) σ H Q := by
  obtain ⟨H0, G, ρ, S, ok, sr, w⟩ := h
  unfold evE at w
  refine ⟨H0, G, ρ, S, ok, sr, wpM_mono (wpM_bind.mp w) (fun x S1 w1 G1 H1 v e1 ok1 r1 => ?_) fun _ _ h => h⟩
  refine ⟨H0, G1, ρ, S1, ok1, sr.ext e1 ok, wpM_mono (wpM_bind.mp w1) (fun y S2 w2 G2 H2 u e2 ok2 r2 => ?_) fun x S h => h.trans e1⟩
  have r1 : RD Y G1 H1 v x := by simpa [RL] using r1
  have r2 : RD Y G2 H2 u y := by simpa [RL] using r2
  exact ⟨G2, S2, x, y, _, ok2, r1.ext e2 ok1, r2, wpM_mono w2 (fun d S' q G' H' v' e' ok' r' => q G' H' v' (e1.trans (e2.trans e')) ok' r') fun _ _ z => z⟩
/-- a == b, a != b -/
theorem s_eqoW (sn : Snd kin gt r) (o : Cok kin gt Y k C g X W) {op : CmpOp} {a b : Expr} {i : E} {pos : Pos} (h : eqoW gt r g op a b = some i) (hs : isSet b = false) : PE X (.Compare a [op] [b] pos) (tE Y W (RL look Y) (evE kin C i)) := by
  unfold eqoW at h
  split at h
  case isFalse => cases h
  rename_i hc
  rw [Bool.and_eq_true, Bool.and_eq_true] at hc
  have hh : g.hot = false := by simpa using hc.1.2
  have key : ∀ (ne : Bool) (x y : E), (r g).e false a = some x → (r g).e false b = some y → PE X (.Compare a [if ne then .NotEq else .Eq] [b] pos) (tE Y W (RL look Y) (evE kin C (.eqo ne (mths gt "__eq__" 1) x y))) := fun ne x y hx hy =>
    (pe_cmpR (or_eqo o hh ne) (sn.e g false a x X Y k C W hx o) (sn.e g false b y X Y k C W hy o) (by cases b <;> first | rfl | cases hs)).imp fun σ H Q h => t_eqo (t_rl h)
  split at h
  · simp only [Option.bind_eq_bind, Option.bind_eq_some_iff, Option.some.injEq] at h
    obtain ⟨x, hx, y, hy, rfl⟩ := h
    exact key false x y hx hy
  · simp only [Option.bind_eq_bind, Option.bind_eq_some_iff, Option.some.injEq] at h
    obtain ⟨x, hx, y, hy, rfl⟩ := h
    exact key true x y hx hy
  · cases h
theorem eqoM_ends {ne : Bool} {cs : List (Str × Str)} {x y : D} {S : Sto} : endsIn (fun d => ∃ b, d = .bl b) (eqoM kin C ne cs x y S) := by
  cases x with
  | ins c fs =>
    unfold eqoM
    dsimp only
    cases h : cs.lookup c with
    | none => exact trivial
    | some q =>
      dsimp only
      by_cases hy : (y.isCmp c && kin.isI c) = true
      · rw [if_pos hy]
        refine ends_bind fun d2 S2 => ?_
        cases d2 <;> first | exact ⟨_, rfl⟩ | exact trivial
      · rw [if_neg hy]; exact trivial
  | _ => exact cmp_ends
theorem s_teqoW (sn : Snd kin gt r) (o : Cok kin gt Y k C g X W) {op : CmpOp} {a b : Expr} {i : E} {pos : Pos} (h : eqoW gt r g op a b = some i) (hs : isSet b = false) : PT X (.Compare a [op] [b] pos) (tQ Y W (evT kin C (.val i))) := by
  unfold eqoW at h
  split at h
  case isFalse => cases h
  rename_i hc
  rw [Bool.and_eq_true, Bool.and_eq_true] at hc
  have hh : g.hot = false := by simpa using hc.1.2
  have key : ∀ (ne : Bool) (x y : E), (r g).e false a = some x → (r g).e false b = some y → PT X (.Compare a [if ne then .NotEq else .Eq] [b] pos) (tQ Y W (evT kin C (.val (.eqo ne (mths gt "__eq__" 1) x y)))) := fun ne x y hx hy =>
    (pt_cmpR (or_eqo o hh ne) (sn.e g false a x X Y k C W hx o) (sn.e g false b y X Y k C W hy o) (by cases b <;> first | rfl | cases hs)).imp fun σ H Q h => t_test (m := evE kin C (.eqo ne (mths gt "__eq__" 1) x y)) (fun σ H Q h => t_eqo h) (fun ρ S Qd R h => wp_ends (by
      unfold evE
      refine ends_bind fun d S => ends_bind fun d' S' => ?_
      exact eqoM_ends) h) (by rw [evT_val] at h; exact h)
  split at h
  · simp only [Option.bind_eq_bind, Option.bind_eq_some_iff, Option.some.injEq] at h
    obtain ⟨x, hx, y, hy, rfl⟩ := h
    exact key false x y hx hy
  · simp only [Option.bind_eq_bind, Option.bind_eq_some_iff, Option.some.injEq] at h
    obtain ⟨x, hx, y, hy, rfl⟩ := h
    exact key true x y hx hy
  · cases h
def rLn (Y : Tx) (m : D → M D) : List V → Hp → VK → Prop := fun vs H Q => ∃ v G S x, ∃ R' : D → Sto → Prop, vs = [v] ∧ GOk Y G H S ∧ RD Y G H v x ∧ wpM (m x) S (QE Y G H (RD Y) Q) R'
theorem or_leno (o : Cok kin gt Y k C g X W) (hh : g.hot = false) : CallR X (.builtin "len") (rLn Y (lenoM C (mths gt "__len__" 0))) := by
  intro pins s σ H vs us Q I ru ⟨v, G, S, x, R', ev, ok, r1, hw⟩
  subst ev
  have plain : (∀ c fs, x ≠ .ins c fs) → wpAny (model X.prog X.w) X.A (call (.builtin "len") us) (EP X pins σ Q) X.xe s := fun hx => by
    have hw : wpM (M.op (lenD x)) S (QE Y G H (RD Y) Q) R' := by
      cases x with
      | ins c fs => exact absurd rfl (hx c fs)
      | _ => exact hw
    obtain ⟨d, hd, q⟩ := wpM_op.mp hw
    exact or_bi o.ox kin .len rfl (.inl hh) pins s σ H [v] us Q I ru ⟨G, S, [x], d, ok, .cons r1.rv .nil, hd, q⟩
  cases x with
  | ins c fs =>
    cases r1 with
    | @ins a Ca dx _ fv _ ha hf hc rf =>
      have hw : wpM (match (mths gt "__len__" 0).lookup c with
        | some q => (do
          match ← M.quiet (C q [.ins c fs]) with
          | .int n => if 0 ≤ n ∧ n < 2 ^ 62 then pure (.int n) else M.fail
          | _ => M.fail)
        | none => M.fail) S (QE Y G H (RD Y) Q) R' := hw
      split at hw
      case h_2 => exact hw.elim
      rename_i q hq
      obtain ⟨f, k1, k2, F⟩ := o.gt q _ (mths_ok hq) hh Ca hc
      obtain ⟨u1, rfl⟩ : ∃ u, us = [u] := by
        match us, ru.length with
        | [u], _ => exact ⟨u, rfl⟩
      obtain rfl : u1 = Value.ref a := by
        cases ru with
        | cons h _ => exact h
      obtain ⟨mA, J, _⟩ := ins_get I.hok ha
      obtain ⟨od, J, _⟩ := J.look
      obtain ⟨m, hF⟩ := I.fr
      have hr1 := o.ox.room1 hh
      refine PySem.W.len_K hF I.ok.mod.kin J k2.at_ k2.fn (wpAny_mono (run_own (vs := [.ref a]) (us := [.ref a]) (Q := fun v' H' => ∃ n : Int, v' = .int n ∧ (0 ≤ n ∧ n < 2 ^ 62) ∧ Q (.int n) H') F hr1.in1 o.ox.gd rfl I ok (.cons rfl .nil) (.cons (.ins ha hf hc rf) .nil) rfl (wpM_mono (wpM_bind.mp hw) (fun d S1 w1 G1 H1 v1 e1 ok1 rv => ?_) fun _ _ z => z)) (fun u s' hu => ?_) fun _ _ z => z)
      · cases d with
        | int n =>
          cases rv
          have w1 : wpM (if 0 ≤ n ∧ n < 2 ^ 62 then (pure (.int n) : M D) else M.fail) S1 (QE Y G H (RD Y) Q) R' := w1
          split at w1
          · rename_i hn
            exact ⟨n, rfl, hn, w1 G1 H1 _ e1 ok1 (.int _)⟩
          · exact w1.elim
        | _ => exact w1.elim
      · obtain ⟨v1, H1, I1, rr, n, rfl, hn, q⟩ := hu
        obtain ⟨t, rfl⟩ : ∃ t, u = Value.int n t := rr
        exact ⟨⟨hn.1, by omega⟩, .int n, H1, I1.tok _, ⟨_, rfl⟩, q⟩
  | _ => exact plain (fun _ _ z => by cases z)
/-- len(x) -/
theorem s_lenoW (sn : Snd kin gt r) (o : Cok kin gt Y k C g X W) {f : Str} {args : List Expr} {i : E} {p pos : Pos} (h : lenoW gt r g f args = some i) : PE X (.Call (.Name f p) args [] pos) (tE Y W (RL look Y) (evE kin C i)) := by
  unfold lenoW at h
  split at h
  case h_2 => cases h
  rename_i e
  split at h
  case isFalse => cases h
  rename_i hc
  unfold lenoB at hc
  simp only [Bool.and_eq_true, Bool.not_eq_true'] at hc
  obtain ⟨⟨⟨⟨⟨hf, _⟩, hh⟩, hs⟩, _⟩, hg⟩ := hc
  have ef := beq_iff_eq.mp hf
  subst ef
  simp only [Option.map_eq_some_iff] at h
  obtain ⟨x, hx, rfl⟩ := h
  have hg' : g.glo gt "len" = some .blt := by
    revert hg
    split
    · rename_i hg
      exact fun _ => hg
    · exact fun z => nomatch z
  obtain ⟨hgl, hm⟩ := glo_ok o hg'
  have h1 := starEach_plain (es := []) (env := X.env) hs
  refine (pe_callB (or_leno o hh) hgl hm rfl (pa_cons (sn.e g false e x X Y k C W hx o) pa_nil h1) (by decide) (by decide) h1 rfl).imp fun σ H Q h => ?_
  obtain ⟨H0, G, ρ, S, ok, sr, w⟩ := t_rl h
  unfold evE at w
  refine ⟨H0, G, ρ, S, ok, sr, wpM_mono (wpM_bind.mp w) (fun d S1 w1 G1 H1 v e1 ok1 r1 => ?_) fun _ _ h => h⟩
  have r1 : RD Y G1 H1 v d := by simpa [RL] using r1
  exact ⟨v, G1, S1, d, _, rfl, ok1, r1, wpM_mono w1 (fun d S' q G' H' v' e' ok' r' => q G' H' v' (e1.trans e') ok' r') fun _ _ z => z⟩
end
end RM
end
section
set_option Elab.async false
set_option linter.all false
set_option maxRecDepth 100000
set_option maxHeartbeats 1000000
set_option autoImplicit false
/-! sets of tuples of words: what the tables hold -/
namespace RM
open PySem PySem.Spec PyProof.Rows L2
section
variable {P : Program} {w : World} {A : Around} {E : Value → Shared → Prop} {s : Shared}
/-- a tuple of these words -/
abbrev WT (P : Program) (w : World) (h : Heap) (k : List Str) (b : Addr) : Prop := IsTupleKey (strKind P w) h k b
abbrev wh (P : Program) (w : World) (k : List Str) : Int := tupleKeyHash (strKind P w) k
theorem wt_words {k : List Str} {vs : List Value} (h : ItemsAre (strKind P w) k vs) : ∀ v ∈ vs, ∃ x t, v = Value.str x t := by
  induction h with
  | nil => exact fun v hv => absurd hv (List.not_mem_nil)
  | cons h1 _ ih =>
    intro v hv
    cases hv with
    | head =>
      obtain ⟨t, e⟩ := Value.isStrOf_shape h1
      exact ⟨_, t, e⟩
    | tail _ hv => exact ih v hv
theorem cls_word (n : Nat) (x : Str) (t : Tok) : ofAClassStatement n (.str x t) = pure false := by cases n <;> rfl
theorem hash_word (n : Nat) (x : Str) (t : Tok) : hashByValue n (.str x t) = pure false := by cases n <;> rfl
/-- a tuple of words is of no class statement -/
theorem cls_tuple {k : List Str} {b : Addr} {Q : Bool → Shared → Prop} (hk : WT P w s.heap k b) (h : Q false s) : wpAny (model P w) A (ofAClassStatement 8 (.ref b)) Q E s := by
  have ty := hk.typeIs
  obtain ⟨o, items, n, ho, _, hd, hi⟩ := hk
  have hw := wt_words hi
  unfold ofAClassStatement
  refine wpAny_bind (wpAny_typeOf ty ?_)
  have e : (("tuple" : String) == "tuple") = true := by decide
  dsimp only
  simp only [e, if_true, Bool.not_true, Bool.false_eq_true, if_false]
  try refine wpAny_bind (wpAny_pure ?_)
  try simp only [Bool.not_true, Bool.false_eq_true, if_false]
  show wpAny _ _ (seqItems? (.ref b) >>= _) _ _ s
  refine wpAny_bind (wpAny_seqItems ho hd ?_)
  dsimp only
  refine wpAny_bind ?_
  show wpAny _ _ (forIn items _ _) _ _ s
  rw [← Array.forIn_toList]
  refine wpAny_forIn_list _ (fun rest r s' => r.1 = none ∧ s' = s ∧ ∀ v ∈ rest, ∃ x t, v = Value.str x t) _ ?_ ?_ _ _ ⟨rfl, rfl, hw⟩
  · rintro v rest r s' ⟨hr, rfl, ha⟩
    obtain ⟨x, t, rfl⟩ := ha v List.mem_cons_self
    rw [cls_word]
    refine wpAny_bind (wpAny_pure ?_)
    simp only [Bool.false_eq_true, if_false]
    exact wpAny_pure ⟨rfl, rfl, fun u hu => ha u (List.mem_cons_of_mem _ hu)⟩
  · rintro ⟨r1, r2⟩ s' ⟨hr, rfl, _⟩
    simp only at hr
    subst hr
    exact wpAny_pure h
/-- whether a tuple of words is hashed by its value: told, nothing else -/
theorem hash_tuple {k : List Str} {b : Addr} {Q : Bool → Shared → Prop} (hk : WT P w s.heap k b) (h : ∀ z, Q z s) : wpAny (model P w) A (hashByValue 8 (.ref b)) Q E s := by
  have ty := hk.typeIs
  obtain ⟨o, items, n, ho, _, hd, hi⟩ := hk
  have hw := wt_words hi
  unfold hashByValue
  refine wpAny_bind (wpAny_specialOf ty F.slot_tuple_hash.lookup ?_)
  show wpAny _ _ (seqItems? (.ref b) >>= _) _ _ s
  refine wpAny_bind (wpAny_seqItems ho hd ?_)
  refine wpAny_bind ?_
  show wpAny _ _ (forIn items _ _) _ _ s
  rw [← Array.forIn_toList]
  refine wpAny_forIn_list _ (fun rest r s' => s' = s ∧ ∀ v ∈ rest, ∃ x t, v = Value.str x t) _ ?_ ?_ _ _ ⟨rfl, hw⟩
  · rintro v rest r s' ⟨rfl, ha⟩
    obtain ⟨x, t, rfl⟩ := ha v List.mem_cons_self
    rw [hash_word]
    refine wpAny_bind (wpAny_pure ?_)
    simp only [Bool.not_false, if_true]
    exact wpAny_pure (wpAny_pure (h _))
  · rintro ⟨r1, r2⟩ s' ⟨rfl, _⟩
    cases r1 <;> exact wpAny_pure (h _)
/-- a search among tuples of words shows nothing -/
theorem seen_tuple {k : List Str} {b : Addr} {Q : Bool → Shared → Prop} (hk : WT P w s.heap k b) {ys : List Value} (hy : ∀ y ∈ ys, ∃ k' c, y = Value.ref c ∧ WT P w s.heap k' c) (h : Q false s) : wpAny (model P w) A (searchCouldBeSeen (.ref b) ys) Q E s := by
  unfold searchCouldBeSeen
  refine wpAny_bind ?_
  refine wpAny_forIn_list _ (fun rest r s' => r.1 = none ∧ s' = s ∧ ∀ y ∈ rest, ∃ k' c, y = Value.ref c ∧ WT P w s.heap k' c) _ ?_ ?_ _ _ ⟨rfl, rfl, hy⟩
  · rintro v rest r s' ⟨hr, rfl, ha⟩
    obtain ⟨k', c, rfl, hc⟩ := ha v List.mem_cons_self
    have ha' : ∀ y ∈ rest, ∃ k' c, y = Value.ref c ∧ WT P w s'.heap k' c := fun u hu => ha u (List.mem_cons_of_mem _ hu)
    dsimp only
    by_cases q : (b == c || (carriedByValue (.ref b) && carriedByValue (.ref c))) = true
    · exact wp_if_pos q (wpAny_pure ⟨rfl, rfl, ha'⟩)
    · refine wp_if_neg q (wpAny_bind (wpAny_eqIsQuiet_tuple hk ?_))
      simp only [Bool.not_true, Bool.false_eq_true, if_false]
      refine wpAny_bind (wpAny_eqIsQuiet_tuple hc ?_)
      simp only [Bool.not_true, Bool.false_eq_true, if_false]
      refine wpAny_bind (cls_tuple hk ?_)
      simp only [Bool.false_eq_true, if_false]
      refine wpAny_bind (cls_tuple hc ?_)
      simp only [Bool.false_eq_true, if_false]
      exact wpAny_pure ⟨rfl, rfl, ha'⟩
  · rintro ⟨r1, r2⟩ s' ⟨hr, rfl, _⟩
    simp only at hr
    subst hr
    exact wpAny_pure h
/-! ### the table of a set of such tuples -/
def wrow (P : Program) (w : World) (q : Addr × List Str) : Int × Value := (wh P w q.2, .ref q.1)
variable {a : Addr} {o : Obj} {L : List (Addr × List Str)} {es : Array (Int × Value)} {ep : Nat} {t : SetTable}
structure WTab (P : Program) (w : World) (L : List (Addr × List Str)) (es : Array (Int × Value)) (t : SetTable) : Prop where
  rows : es.toList = L.map (wrow P w)
  tab : TabOk t (L.map fun q => wh P w q.2)
  room : L.length * 5 < t.mask * 3
theorem rows_size (h : es.toList = L.map (wrow P w)) : es.size = L.length := by
  rw [← Array.length_toList, h, List.length_map]
theorem rows_at (h : es.toList = L.map (wrow P w)) {i : Nat} {q : Addr × List Str} (hq : L[i]? = some q) : es[i]? = some (wh P w q.2, Value.ref q.1) := by
  rw [← Array.getElem?_toList, h, List.getElem?_map, hq]; rfl
theorem tab_fits (h : es.toList = L.map (wrow P w)) (T : TabOk t (L.map fun q => wh P w q.2)) (hl : L.length ≤ t.mask) : t.fits es.size = true := by
  have h1 := T.sz
  have h2 := rows_size h
  rw [List.length_map] at h1
  unfold SetTable.fits SetTable.fill
  rw [T.dm, Bool.and_eq_true, beq_iff_eq, decide_eq_true_eq]
  show t.place.size = es.size ∧ t.place.size + 0 ≤ t.mask
  omega
theorem WTab.fits (R : WTab P w L es t) : t.fits es.size = true := tab_fits R.rows R.tab (by have := R.room; omega)
theorem nth_clean (m : Nat) : ∀ (n : Nat) (p : SetTable.Probe), p.dummy = none → (nth m p n).dummy = none
  | 0, _, h => h
  | n + 1, p, h => nth_clean m n (adv m p) (by unfold adv; split <;> exact h)
/-- the place of a row -/
theorem place_lt (R : WTab P w L es t) {i j : Nat} (h : t.place.toList[i]? = some j) : i < L.length := by
  have h1 := (List.getElem?_eq_some_iff.mp h).1
  have h2 := R.tab.sz
  rw [List.length_map] at h2
  rw [Array.length_toList] at h1
  omega
/-- the search, from the c-th step on: K is the first empty step; rows of the same words stand ahead of K, not ahead of c -/
theorem find_from (ho : s.heap.get? a = some o) (hd : o.data = .set es ep t) (R : WTab P w L es t) (tp : ∀ q ∈ L, WT P w s.heap q.2 q.1) {x : Addr} {k : List Str} (hx : WT P w s.heap k x) (hu : A.units < cLine)
    {K : Nat} (kf : K < 10 * SetTable.turns t.mask) (kn : way t.mask (wh P w k) K ∉ t.place.toList) (kb : ∀ c, c < K → way t.mask (wh P w k) c ∈ t.place.toList) {Q : SetFound → Shared → Prop}
    (yes : k ∈ L.map (·.2) → Q (.there none) s) (no : k ∉ L.map (·.2) → Q (.free (way t.mask (wh P w k) K) false) s) :
    ∀ (f c : Nat) (st : Option SetTable.Probe), st.getD (t.probeStart (wh P w k)) = nth t.mask (t.probeStart (wh P w k)) c → c ≤ K → K < f + c →
      (∀ (i : Nat) q, L[i]? = some q → q.2 = k → ∃ c', c ≤ c' ∧ c' < K ∧ t.place.toList[i]? = some (way t.mask (wh P w k) c')) →
      wpAny (model P w) A (setSearchFrom a (.ref x) (wh P w k) true f st) Q E s := by
  intro f
  induction f with
  | zero => intro c st _ h1 h2; omega
  | succ f ih =>
    intro c st hst hc hf same
    have step : ∀ n, (nth t.mask (nth t.mask (t.probeStart (wh P w k)) c) n) = nth t.mask (t.probeStart (wh P w k)) (c + n) := fun n => (nth_add t.mask c _ n).symm
    have stepj : ∀ n, (nth t.mask (nth t.mask (t.probeStart (wh P w k)) c) n).j = way t.mask (wh P w k) (c + n) := fun n => congrArg SetTable.Probe.j (step n)
    have told : ∀ {i : Nat} {q}, L[i]? = some q → ((es[i]?.map fun e : Int × Value => e.1).getD 0) = wh P w q.2 := fun {i q} hq => by rw [rows_at R.rows hq]; rfl
    rw [setSearchFrom_succ]
    refine wpAny_bind (wpAny_setState_of ho hd R.fits ?_)
    dsimp only
    refine wp_if_neg (by unfold SetTable.gaveWay; rw [mask_odd R.tab.mok]; decide) ?_
    try refine wpAny_bind (wpAny_pure ?_)
    have spec := go_spec t R.tab.ris R.tab.dm (fun i => (es[i]?.map fun e : Int × Value => e.1).getD 0) (wh P w k) (10 * SetTable.turns t.mask) (K - c) (nth t.mask (t.probeStart (wh P w k)) c) (nth_clean _ _ _ rfl) (by omega)
      (fun n hn => by rw [stepj]; exact kb _ (by omega)) (by rw [stepj, show c + (K - c) = K by omega]; exact kn)
    -- a row of the same words isn't among the steps passed
    have passed : ∀ {n : Nat}, (∀ n' i', n' < n → t.place.toList[i']? = some (nth t.mask (nth t.mask (t.probeStart (wh P w k)) c) n').j → ((es[i']?.map fun e : Int × Value => e.1).getD 0) ≠ wh P w k) →
        ∀ (i : Nat) q, L[i]? = some q → q.2 = k → ∃ c', c + n ≤ c' ∧ c' < K ∧ t.place.toList[i]? = some (way t.mask (wh P w k) c') := fun {n} hno i q hq hk => by
      obtain ⟨c', h1, h2, h3⟩ := same i q hq hk
      refine ⟨c', ?_, h2, h3⟩
      apply Classical.byContradiction
      intro hlt
      exact hno (c' - c) i (by omega) (by rw [stepj, show c + (c' - c) = c' by omega]; exact h3) (by rw [told hq, hk])
    rcases spec with ⟨n, i, hn, hi, _, hno, hp⟩ | ⟨hno, hp⟩
    · rw [show t.probe (fun i => (es[i]?.map fun e : Int × Value => e.1).getD 0) (wh P w k) (st.getD (t.probeStart (wh P w k))) = some (.candidate (way t.mask (wh P w k) (c + n)) i (nth t.mask (t.probeStart (wh P w k)) (c + (n + 1)))) by
        rw [hst, ← stepj, ← step]; exact hp]
      dsimp only
      rw [stepj] at hi
      obtain ⟨q, hq⟩ : ∃ q, L[i]? = some q := ⟨_, List.getElem?_eq_getElem (place_lt R hi)⟩
      have qm := List.mem_of_getElem? hq
      have live : t.slot (way t.mask (wh P w k) (c + n)) = .live i := slot_live R.tab.ris hi
      have go : wpAny (model P w) A (searchRest a (.ref x) (wh P w k) true f es t (way t.mask (wh P w k) (c + n)) i (nth t.mask (t.probeStart (wh P w k)) (c + (n + 1)))) Q E s := by
        unfold searchRest
        rw [rows_at R.rows hq]
        dsimp only
        refine wpAny_bind (wpAny_holding (wpAny_eqBool_tuple hu (tp q qm) hx ?_))
        refine wpAny_bind (wpAny_setState_of ho hd R.fits ?_)
        dsimp only
        by_cases hk : q.2 = k
        · exact wp_if_pos (by simp [hk]) (wpAny_pure (yes (List.mem_map.mpr ⟨q, qm, hk⟩)))
        · refine wp_if_neg (by simp [hk]) ?_
          try refine wpAny_bind (wpAny_pure ?_)
          rw [sameMem]
          dsimp only
          simp only [if_true, live, rows_at R.rows hq]
          refine wpAny_bind (wpAny_isSame_ref_self (wpAny_bind (wpAny_pure ?_)))
          simp only [if_true]
          refine wp_if_neg (by simp [hk]) (ih (c + (n + 1)) _ rfl (by omega) (by omega) fun i' q' hq' hk' => ?_)
          obtain ⟨c', h1, h2, h3⟩ := passed hno i' q' hq' hk'
          refine ⟨c', ?_, h2, h3⟩
          apply Classical.byContradiction
          intro hlt
          have : c' = c + n := by omega
          rw [this] at h3
          have e := (slot_live R.tab.ris h3).symm.trans live
          injection e with e
          rw [e, hq] at hq'
          cases hq'
          exact hk hk'
      by_cases led : t.led = true
      · refine wp_if_neg (by simp [led]) ?_
        try refine wpAny_bind (wpAny_pure ?_)
        exact go
      · refine wp_if_pos (by simp [led]) (wpAny_bind (seen_tuple hx (fun y hy => ?_) (wp_if_neg (by decide) ?_)))
        · obtain ⟨e, he, rfl⟩ := List.mem_map.mp hy
          have he : e ∈ es.toList := by
            have : e ∈ es ∧ e.1 = wh P w k := by simpa using he
            simpa using this.1
          rw [R.rows] at he
          obtain ⟨q', hq', rfl⟩ := List.mem_map.mp he
          exact ⟨q'.2, q'.1, rfl, tp q' hq'⟩
        · try refine wpAny_bind (wpAny_pure ?_)
          exact go
    · rw [show t.probe (fun i => (es[i]?.map fun e : Int × Value => e.1).getD 0) (wh P w k) (st.getD (t.probeStart (wh P w k))) = some (.empty (way t.mask (wh P w k) K) none) by
        have e : way t.mask (wh P w k) K = (nth t.mask (nth t.mask (t.probeStart (wh P w k)) c) (K - c)).j := by rw [stepj, show c + (K - c) = K by omega]
        rw [hst, e]; exact hp]
      dsimp only
      refine wpAny_pure (no fun hm => ?_)
      obtain ⟨q, hq, hk⟩ := List.mem_map.mp hm
      obtain ⟨i, hi, e⟩ := List.getElem_of_mem hq
      obtain ⟨c', h1, h2, _⟩ := passed hno i q (by rw [List.getElem?_eq_getElem hi, e]) hk
      omega
/-- the search as adding asks for it -/
theorem find_add (ho : s.heap.get? a = some o) (hd : o.data = .set es ep t) (R : WTab P w L es t) (tp : ∀ q ∈ L, WT P w s.heap q.2 q.1) {x : Addr} {k : List Str} (hx : WT P w s.heap k x) (hu : A.units < cLine) {Q : SetFound → Shared → Prop}
    (yes : k ∈ L.map (·.2) → Q (.there none) s)
    (no : ∀ K, k ∉ L.map (·.2) → way t.mask (wh P w k) K ∉ t.place.toList → (∀ c, c < K → way t.mask (wh P w k) c ∈ t.place.toList) → Q (.free (way t.mask (wh P w k) K) false) s) :
    wpAny (model P w) A (setSearch a (.ref x) (wh P w k) true) Q E s := by
  have room := R.room
  obtain ⟨K, kf, kn, kb⟩ := R.tab.first (by rw [List.length_map]; omega) (wh P w k)
  have few : 10 * SetTable.turns t.mask ≤ 1420 := by
    unfold SetTable.turns
    rcases R.tab.mok with e | e | e <;> omega
  unfold setSearch
  refine find_from ho hd R tp hx hu kf kn kb yes (fun h => no K h kn kb) 100000 0 none rfl (Nat.zero_le _) (by omega) fun i q hq hk => ?_
  have hh : (L.map fun q => wh P w q.2)[i]? = some (wh P w k) := by rw [List.getElem?_map, hq, ← hk]; rfl
  have hil : i < t.place.toList.length := by
    have h1 := (List.getElem?_eq_some_iff.mp hq).1
    have h2 := R.tab.sz
    rw [List.length_map] at h2
    rw [Array.length_toList]
    omega
  have hj := List.getElem?_eq_getElem hil
  obtain ⟨c, hc, e⟩ := R.tab.before kn hh hj
  exact ⟨c, Nat.zero_le _, hc, by rw [hj, e]⟩
/-! ### the rows in another order -/
theorem pick_all {α : Type} : ∀ L : List α, (List.range L.length).filterMap (fun i => L[i]?) = L
  | [] => rfl
  | x :: L => by
    rw [List.length_cons, List.range_succ_eq_map, List.filterMap_cons_some (f := fun i => (x :: L)[i]?) (a := 0) (b := x) rfl, List.filterMap_map]
    exact congrArg (x :: ·) (pick_all L)
theorem pick_rows (h : es.toList = L.map (wrow P w)) (l : List Nat) : l.filterMap (fun i => es[i]?) = (l.filterMap fun i => L[i]?).map (wrow P w) := by
  rw [List.map_filterMap]
  congr 1
  funext i
  rw [← Array.getElem?_toList, h, List.getElem?_map]
theorem pick_hashes (h : es.toList = L.map (wrow P w)) : ∀ l : List Nat, (∀ i ∈ l, i < L.length) → ((l.filterMap fun i => L[i]?).map fun q => wh P w q.2) = l.map fun i => (es.map fun e : Int × Value => e.1).getD i 0
  | [], _ => rfl
  | i :: l, hl => by
    have hi := hl i List.mem_cons_self
    have hq := List.getElem?_eq_getElem hi
    rw [List.filterMap_cons_some hq, List.map_cons, List.map_cons, pick_hashes h l fun j hj => hl j (List.mem_cons_of_mem _ hj)]
    congr 1
    have e : (es.map fun e : Int × Value => e.1)[i]? = some (wh P w (L[i]).2) := by rw [Array.getElem?_map, rows_at h hq]; rfl
    simp [Array.getD_eq_getD_getElem?, e]
/-- a set of tuples of words, with its rows -/
structure WSet (P : Program) (w : World) (h : Heap) (a : Addr) (L : List (Addr × List Str)) : Prop where
  ex : ∃ o es ep t, h.get? a = some o ∧ o.ExactSet ∧ o.data = .set es ep t ∧ WTab P w L es t
  nd : (L.map (·.2)).Nodup
  tp : ∀ q ∈ L, WT P w h q.2 q.1
  few : L.length < 64
/-- a tuple is no set -/
theorem wt_same {h h' : Heap} {k : List Str} {b : Addr} (hb : WT P w h k b) (ho : h.get? a = some o) (hd : o.data = .set es ep t) (hs : Heap.SameBut a h h') : WT P w h' k b := by
  obtain ⟨o', items, n, ho', hc, hd', hi⟩ := hb
  refine ⟨o', items, n, (hs.2 b fun e => ?_).trans ho', hc, hd', hi⟩
  rw [e, ho] at ho'
  cases ho'
  rw [hd] at hd'
  cases hd'
theorem wt_kept {h h' : Heap} {k : List Str} {b : Addr} (hb : WT P w h k b) (hk : ∀ c u, h.get? c = some u → h'.get? c = some u) : WT P w h' k b := by
  obtain ⟨o, items, n, ho, r⟩ := hb
  exact ⟨o, items, n, hk b o ho, r⟩
theorem relay_to (ho : s.heap.get? a = some o) (hex : o.ExactSet) (hd : o.data = .set es ep t) (rows : es.toList = L.map (wrow P w)) (T : TabOk t (L.map fun q => wh P w q.2)) (hl : L.length ≤ t.mask) (nd : (L.map (·.2)).Nodup) (tp : ∀ q ∈ L, WT P w s.heap q.2 q.1) (few : L.length < 64)
    {wanted M : Nat} (hw : SetTable.sizeAbove wanted - 1 = M) (hM : MaskOk M) (h128 : SetTable.sizeAbove wanted ≤ 128) (room : L.length * 5 < M * 3) {Q : Unit → Shared → Prop}
    (hQ : ∀ h' L', Heap.SameBut a s.heap h' → WSet P w h' a L' → L'.Perm L → Q () { s with heap := h' }) : wpAny (model P w) A (setRelay a wanted) Q E s := by
  have hz := sizeLine_eq
  have n1 := rows_size rows
  obtain ⟨t', order, e, pm, T', em, _, _, _⟩ := relaid_ok t (hs := es.map fun e : Int × Value => e.1) (wanted := wanted) hw hM (by rw [Array.size_map, n1]; omega)
  rw [Array.size_map, n1] at pm
  have below : ∀ i ∈ order.toList, i < L.length := fun i hi => List.mem_range.mp (pm.mem_iff.mp hi)
  have rows' : (order.filterMap fun i => es[i]?).toList = (order.toList.filterMap fun i => L[i]?).map (wrow P w) := by
    rw [Array.toList_filterMap]
    exact pick_rows rows _
  have perm' : (order.toList.filterMap fun i => L[i]?).Perm L := by
    have := pm.filterMap fun i => L[i]?
    rw [pick_all] at this
    exact this
  rw [← pick_hashes rows _ below] at T'
  generalize (order.toList.filterMap fun i => L[i]?) = L' at rows' perm' T'
  have n2 : (order.filterMap fun i => es[i]?).size = es.size := by rw [rows_size rows', n1, perm'.length_eq]
  rw [setRelay_eq]
  refine wpAny_bind (wpAny_setState_of ho hd (tab_fits rows T hl) ?_)
  dsimp only
  refine wp_if_neg (by omega) ?_
  try refine wpAny_bind (wpAny_pure ?_)
  rw [e]
  dsimp only
  refine wpAny_bind ?_
  refine wp_if_neg (by rw [n2]; simp) ?_
  try refine wpAny_bind (wpAny_pure ?_)
  refine wpAny_pure ?_
  dsimp only
  refine wpAny_storeSet_of ho hd ?_ (by rw [n2, n1]; omega)
  have same : Heap.SameBut a s.heap (s.heap.update a (Obj.putSet (order.filterMap fun i => es[i]?) t')) := Heap.SameBut.update ..
  exact hQ _ L' same ⟨⟨_, _, _, _, store_at ho hd, ⟨hex.1, hex.2.1, hex.2.2⟩, rfl, rows', T', by rw [em, perm'.length_eq]; exact room⟩, (perm'.map (·.2)).nodup_iff.mpr nd, fun q hq => wt_same (tp q (perm'.mem_iff.mp hq)) ho hd same, by rw [perm'.length_eq]; exact few⟩ perm'
/-- one more -/
theorem add_one (S : WSet P w s.heap a L) {x : Addr} {k : List Str} (hx : WT P w s.heap k x) (hu : A.units < cLine) (few : L.length + 1 < 64) {Q : Bool → Shared → Prop}
    (hQ : ∀ b h' L', Heap.SameBut a s.heap h' → WSet P w h' a L' → ((k ∈ L.map (·.2) ∧ L' = L) ∨ (k ∉ L.map (·.2) ∧ L'.Perm ((x, k) :: L))) → Q b { s with heap := h' }) :
    wpAny (model P w) A (setAddHashed a (.ref x) (wh P w k)) Q E s := by
  have hz := sizeLine_eq
  obtain ⟨o, es, ep, t, ho, hex, hd, R⟩ := S.ex
  have room := R.room
  have n1 := rows_size R.rows
  unfold setAddHashed
  refine wpAny_holding ?_
  rw [show (100000 : Nat) = 99999 + 1 from rfl, setAddHashedIn_succ]
  refine wpAny_bind (wpAny_setState_of ho hd R.fits ?_)
  dsimp only
  refine wp_if_neg (by simp [byScan, Value.scannable]) ?_
  try refine wpAny_bind (wpAny_pure ?_)
  refine wpAny_bind (find_add ho hd R S.tp hx hu (fun hm => ?_) fun K hm kn kb => ?_)
  · dsimp only
    exact wpAny_pure (hQ false s.heap L (Heap.SameBut.refl a s.heap) S (.inl ⟨hm, rfl⟩))
  dsimp only
  refine wpAny_bind (wpAny_setState_of ho hd R.fits ?_)
  dsimp only
  obtain ⟨q1, q2, T1, m1, _, _, _, _, fill1⟩ := R.tab.put kn kb
  generalize t.put (way t.mask (wh P w k) K) = pt at q1 T1 m1 fill1 ⊢
  obtain ⟨t1, p⟩ := pt
  dsimp only at q1 T1 m1 fill1 ⊢
  subst q1
  have rows1 : (SetTable.insertAt es (SetTable.below t.place (way t.mask (wh P w k) K)) (wh P w k, Value.ref x)).toList = (L.take (SetTable.below t.place (way t.mask (wh P w k) K)) ++ (x, k) :: L.drop (SetTable.below t.place (way t.mask (wh P w k) K))).map (wrow P w) := by
    rw [SetTable.toList_insertAt, R.rows, List.map_append, List.map_cons, List.map_take, List.map_drop]
    rfl
  generalize SetTable.below t.place (way t.mask (wh P w k) K) = p at q2 T1 rows1 ⊢
  have pm : (L.take p ++ (x, k) :: L.drop p).Perm ((x, k) :: L) := by
    have := List.perm_middle (a := (x, k)) (l₁ := L.take p) (l₂ := L.drop p)
    rw [List.take_append_drop] at this
    exact this
  have T2 : TabOk t1 ((L.take p ++ (x, k) :: L.drop p).map fun q => wh P w q.2) := by
    rw [List.map_append, List.map_cons, List.map_take, List.map_drop]
    exact T1
  have n2 := rows_size rows1
  generalize SetTable.insertAt es p (wh P w k, Value.ref x) = es1 at rows1 n2 ⊢
  generalize L.take p ++ (x, k) :: L.drop p = L1 at rows1 n2 pm T2
  have l1 : L1.length = L.length + 1 := pm.length_eq
  have nd1 : (L1.map (·.2)).Nodup := by
    refine (pm.map (·.2)).nodup_iff.mpr ?_
    rw [List.map_cons]
    exact List.nodup_cons.mpr ⟨hm, S.nd⟩
  rw [List.length_map] at fill1
  have fin : ∀ t2 : SetTable, TabOk t2 (L1.map fun q => wh P w q.2) → t2.mask = t.mask → t2.fill = L.length + 1 → wpAny (model P w) A (do
      storeSet a es1 t2
      if (!false && t2.tooFull) = true then do
        setRelay a (SetTable.grown (es.size + 1))
        pure true
      else pure true) Q E s := fun t2 T2 m2 f2 => by
    refine wpAny_bind (wpAny_storeSet_of ho hd ?_ (by rw [n2, l1]; omega))
    have same : Heap.SameBut a s.heap (s.heap.update a (Obj.putSet es1 t2)) := Heap.SameBut.update ..
    have ho1 := store_at (es' := es1) (t' := t2) ho hd
    generalize s.heap.update a (Obj.putSet es1 t2) = h1 at same ho1 ⊢
    have tp1 : ∀ q ∈ L1, WT P w h1 q.2 q.1 := fun q hq => by
      rcases List.mem_cons.mp (pm.mem_iff.mp hq) with e | hq
      · rw [e]; exact wt_same hx ho hd same
      · exact wt_same (S.tp q hq) ho hd same
    have full : t2.tooFull = decide ((L.length + 1) * 5 ≥ t.mask * 3) := by
      unfold SetTable.tooFull
      rw [f2, m2]
    by_cases hf : (L.length + 1) * 5 ≥ t.mask * 3
    · refine wp_if_pos (by rw [full, decide_eq_true hf]; rfl) ?_
      have grow : ∀ {M : Nat}, SetTable.sizeAbove (SetTable.grown (es.size + 1)) - 1 = M → MaskOk M → SetTable.sizeAbove (SetTable.grown (es.size + 1)) ≤ 128 → (L.length + 1) * 5 < M * 3 →
          wpAny (model P w) A (do
            setRelay a (SetTable.grown (es.size + 1))
            pure true) Q E { s with heap := h1 } := fun {M} g1 g2 g3 g4 => by
        refine wpAny_bind (relay_to (s := { s with heap := h1 }) ho1 ⟨hex.1, hex.2.1, hex.2.2⟩ rfl rows1 T2 (by rw [m2, l1]; omega) nd1 tp1 (by rw [l1]; exact few) g1 g2 g3 (by rw [l1]; exact g4) fun h2 L2 same2 S2 pm2 => ?_)
        exact wpAny_pure (hQ true h2 L2 (same.trans same2) S2 (.inr ⟨hm, pm2.trans pm⟩))
      rcases R.tab.mok with e | e | e
      · have : L.length = 4 := by omega
        refine grow (M := 31) ?_ (.inr (.inl rfl)) ?_ (by omega)
        · rw [n1, this, size_20]
        · rw [n1, this, size_20]; decide
      · have : L.length = 18 := by omega
        refine grow (M := 127) ?_ (.inr (.inr rfl)) ?_ (by omega)
        · rw [n1, this, size_76]
        · rw [n1, this, size_76]; decide
      · omega
    · refine wp_if_neg (by rw [full, decide_eq_false hf]; decide) ?_
      exact wpAny_pure (hQ true h1 L1 same ⟨⟨_, _, _, _, ho1, ⟨hex.1, hex.2.1, hex.2.2⟩, rfl, rows1, T2, by rw [m2, l1]; omega⟩, nd1, tp1, by rw [l1]; exact few⟩ (.inr ⟨hm, pm⟩))
  have fin' : ∀ z : Bool, wpAny (model P w) A (do
      storeSet a es1 (if z = true then t1 else { t1 with plain := false })
      if (!false && (if z = true then t1 else { t1 with plain := false }).tooFull) = true then do
        setRelay a (SetTable.grown (es.size + 1))
        pure true
      else pure true) Q E s := fun z => by
    cases z with
    | true => exact fin t1 T2 m1 fill1
    | false => exact fin { t1 with plain := false } ⟨T2.ris, T2.dm, T2.sz, T2.mok, T2.bd, T2.reach⟩ m1 fill1
  by_cases hp : t1.plain = true
  · exact wp_if_pos hp (wpAny_bind (hash_tuple hx fun z => fin' z))
  · exact wp_if_neg hp (wpAny_bind (wpAny_pure (fin' true)))
/-! ### set(xs) -/
/-- what the set has of the first i tuples -/
structure Had (ks : List (Addr × List Str)) (i : Nat) (L : List (Addr × List Str)) : Prop where
  sub : ∀ q ∈ L, q ∈ ks
  key : ∀ k, k ∈ L.map (·.2) ↔ k ∈ (ks.take i).map (·.2)
  len : L.length ≤ i
theorem Had.step {ks L' : List (Addr × List Str)} {i : Nat} {q : Addr × List Str} (g : Had ks i L) (hq : ks[i]? = some q) (h : (q.2 ∈ L.map (·.2) ∧ L' = L) ∨ (q.2 ∉ L.map (·.2) ∧ L'.Perm (q :: L))) : Had ks (i + 1) L' := by
  have hi := (List.getElem?_eq_some_iff.mp hq).1
  have et : ks.take (i + 1) = ks.take i ++ [q] := by rw [List.take_succ, hq]; rfl
  rcases h with ⟨hm, rfl⟩ | ⟨_, pm⟩
  · refine ⟨g.sub, fun k => ?_, by have := g.len; omega⟩
    rw [et, List.map_append, List.mem_append, g.key]
    refine ⟨.inl, fun h => h.elim id fun z => ?_⟩
    have : k = q.2 := by simpa using z
    rw [this]
    exact (g.key _).mp hm
  · refine ⟨fun r hr => ?_, fun k => ?_, by rw [pm.length_eq, List.length_cons]; have := g.len; omega⟩
    · rcases List.mem_cons.mp (pm.mem_iff.mp hr) with rfl | hr
      · exact List.mem_of_getElem? hq
      · exact g.sub r hr
    · rw [(pm.map (·.2)).mem_iff, List.map_cons, List.mem_cons, g.key, et, List.map_append, List.mem_append]
      constructor
      · rintro (h | h)
        · exact .inr (by simp [h])
        · exact .inl h
      · rintro (h | h)
        · exact .inr h
        · exact .inl (by simpa using h)
theorem WSet.kept {h h' : Heap} (S : WSet P w h a L) (ha : ∀ u, h.get? a = some u → h'.get? a = some u) (ht : ∀ q ∈ L, WT P w h' q.2 q.1) : WSet P w h' a L := by
  obtain ⟨o, es, ep, t, ho, r⟩ := S.ex
  exact ⟨⟨o, es, ep, t, ha o ho, r⟩, S.nd, ht, S.few⟩
theorem set_loop {I : Addr} {fp wr : List Addr} {G : Array GenState → Array GenState → Prop} {n : Nat} {Pv : Nat → Value → Prop} {St : Nat → Shared → Prop} {R : Result → Shared → Prop} (W : WalksS P w A.in1 I fp wr G n Pv St) (a : Addr) (af : a ∉ fp)
    (ks : List (Addr × List Str)) (hn : n = ks.length) (few : ks.length < 64) (val : ∀ i v, Pv i v → ∃ q, ks[i]? = some q ∧ v = .ref q.1) (h0 : Heap) (kt : ∀ q ∈ ks, WT P w h0 q.2 q.1) (a0 : h0.get? a = none) (w0 : ∀ b ∈ wr, h0.get? b = none) (hu : A.in1.units < cLine) :
    ∀ (d i : Nat) (s : Shared) (L : List (Addr × List Str)), i + d = n → St i s → (∀ b u, h0.get? b = some u → s.heap.get? b = some u) → WSet P w s.heap a L → Had ks i L →
      (∀ s' L', Moved (a :: wr) G s s' → WSet P w s'.heap a L' → Had ks n L' → (∀ b u, h0.get? b = some u → s'.heap.get? b = some u) → R (.ok (.ret .none)) s') →
      codeAny (model P w) A (.builtin "set.update.loop" ⟨[.ref a, .ref I], []⟩) R s := by
  have aw : a ∉ wr := fun h => af (W.sub _ h)
  have wide : ∀ b ∈ wr, b ∈ a :: wr := fun b hb => List.mem_cons_of_mem _ hb
  have carry : ∀ {s s' : Shared}, Moved wr G s s' → (∀ b u, h0.get? b = some u → s.heap.get? b = some u) → ∀ b u, h0.get? b = some u → s'.heap.get? b = some u := fun m k b u e =>
    m.heap b u (fun hb => by rw [w0 b hb] at e; cases e) (k b u e)
  intro d
  induction d with
  | zero =>
    intro i s L hi st kp S g fin
    have hi : i = n := by omega
    subst hi
    refine codeAny_builtin F.entry_set_update_loop ?_
    rw [Around.under_plainId F.plain_set_update_loop _]
    show wpAny _ A.in1 (pyNext (.ref I) >>= _) _ _ s
    refine wpAny_bind (W.done s _ _ st fun s' m => ?_)
    show wpAny _ A.in1 (ret Value.none) _ _ s'
    have kp' := carry m kp
    exact wpAny_pure (fin s' L (m.mono wide) (S.kept (fun u e => m.heap a u aw e) fun q hq => wt_kept (kt q (g.sub q hq)) kp') g kp')
  | succ d ih =>
    intro i s L hi st kp S g fin
    refine codeAny_builtin F.entry_set_update_loop ?_
    rw [Around.under_plainId F.plain_set_update_loop _]
    show wpAny _ A.in1 (pyNext (.ref I) >>= _) _ _ s
    refine wpAny_bind (W.item i s _ _ (by omega) st fun v s' pv st' m => ?_)
    obtain ⟨q, hq, rfl⟩ := val i v pv
    have kp' := carry m kp
    have S' : WSet P w s'.heap a L := S.kept (fun u e => m.heap a u aw e) fun r hr => wt_kept (kt r (g.sub r hr)) kp'
    have hx : WT P w s'.heap q.2 q.1 := wt_kept (kt q (List.mem_of_getElem? hq)) kp'
    show wpAny _ A.in1 (holding [Value.ref q.1] (setAdd a (.ref q.1)) >>= _) _ _ s'
    refine wpAny_bind (wpAny_holding ?_)
    unfold setAdd
    refine wpAny_holding ?_
    refine wpAny_bind (wpAny_pyHash_tuple hu hx ?_)
    refine add_one (s := { s' with toks := s'.toks + (q.2.length + 1) }) S' hx hu (by have := g.len; omega) fun b h' L' same S2 alt => ?_
    have kp2 : ∀ b u, h0.get? b = some u → h'.get? b = some u := fun b u e => (same.2 b fun z => by rw [z, a0] at e; cases e).trans (kp' b u e)
    refine wpAny_pure ⟨plainId_quiet F.plain_set_update_loop _, ih (i + 1) _ L' (by omega) (W.frame _ s' _ _ st' (Nat.le_add_right _ _) fun b hb u e => ?_) kp2 S2 (g.step hq alt) fun s2 L2 m2 S3 g2 kp3 => ?_⟩
    · exact (same.2 b fun z => af (z ▸ hb)).trans e
    · refine fin s2 L2 (Moved.trans W.gtrans ((m.mono wide).then_heap (Nat.le_add_right _ _) fun b u hb e => ?_) m2) S3 g2 kp3
      exact (same.2 b fun z => hb (z ▸ List.mem_cons_self)).trans e
/-- a set as it is made -/
def newSetO (led : Bool) : Obj := { cls := .type "set", dict := none, data := .set #[] 0 (.fresh 0 0 led) }
theorem fresh_set {h : Heap} {a : Addr} {led : Bool} (ho : h.get? a = some (newSetO led)) : WSet P w h a [] where
  ex := ⟨_, #[], 0, .fresh 0 0 led, ho, ⟨rfl, rfl, rfl⟩, rfl, rfl, ⟨List.Pairwise.nil, rfl, rfl, .inl rfl, (fun x hx => absurd hx (List.not_mem_nil)), (fun i h j hi => absurd hi (by simp))⟩, by show 0 * 5 < 7 * 3; decide⟩
  nd := List.nodup_nil
  tp := fun q hq => absurd hq (List.not_mem_nil)
  few := by show 0 < 64; decide
set_option maxHeartbeats 3200000 in
/-- set(x), what it is made of put in by the run of set.__init__ -/
theorem set_made {x : Value} {Q : Value → Shared → Prop}
    (h : ∀ led : Bool, wpAny (model P w) A.in1.in1 (Builtin.«set.__init__» ⟨[.ref s.heap.objs.size, x], []⟩)
      (fun fin s' => match fin with | .done f => wants (fun r s₂ => r = .none ∧ Q (.ref s.heap.objs.size) s₂) E (.ok f) s' | .again c' => c'.quiet = true ∧ codeAny (model P w) A.in1 c' (wants (fun r s₂ => r = .none ∧ Q (.ref s.heap.objs.size) s₂) E) s')
      (fun e s' => wants (fun r s₂ => r = .none ∧ Q (.ref s.heap.objs.size) s₂) E (.error e) s') { s with heap := s.heap.push (newSetO led) }) :
    wpAny (model P w) A (call (.type "set") [x]) Q E s := by
  obtain ⟨c, tl, hmro⟩ := F.called_set.mro
  have hmade := F.called_set.made
  have hsub := F.called_set.sub
  refine wpAny_call (codeAny_of_tree ?_)
  show wpAny _ _ (callAny (.type "set") _) _ _ _
  refine wpAny_pure ⟨Code.quiet_builtin _ (by decide +kernel), codeAny_builtin F.entry_type_call ?_⟩
  rw [Around.under_plain (weight_type_call_type "set" [x] []) rfl]
  have h1 := F.called_set.notType
  have h2 := F.called_set.canCreate
  have hct := F.typeCall_set_1 x
  repeat (any_goals (first | assumption | wp_step))
  refine codeAny_mono (code_set_new_1 x (E := E) (Q₁ := fun obj s₁ => ∃ led : Bool, obj = .ref s.heap.objs.size ∧ s₁ = { s with heap := s.heap.push (newSetO led) }) fun led => ⟨led, rfl, rfl⟩) fun r s₁ hr => ?_
  cases r with
  | error e => exact hr
  | ok fl =>
    cases fl with
    | ret obj =>
      obtain ⟨led, rfl, rfl⟩ := hr
      have hS : (s.heap.push (newSetO led)).get? s.heap.objs.size = some (newSetO led) := Heap.get?_push_size _ rfl
      have hT : Shared.TypeIs { s with heap := s.heap.push (newSetO led) } (.ref s.heap.objs.size) "set" := ⟨_, hS, rfl⟩
      have hli := F.called_set.init.lookup
      have hbi := F.called_set.init.bind (.ref s.heap.objs.size)
      repeat (any_goals (first | assumption | wp_step))
      refine codeAny_mono (codeAny_call_builtin (R := wants (fun r s₂ => r = .none ∧ Q (.ref s.heap.objs.size) s₂) E) F.called_set.init.plain F.entry_set_init (check_set_init_1 hT (h led))) fun r₂ s₂ hr₂ => ?_
      cases r₂ with
      | error e => exact hr₂
      | ok fl₂ =>
        cases fl₂ with
        | ret r =>
          obtain ⟨rfl, hq⟩ := hr₂
          repeat (any_goals (first | assumption | wp_step))
        | _ => exact hr₂.elim
    | _ => exact hr.elim
end
end RM
end
section
set_option Elab.async false
set_option linter.all false
set_option maxRecDepth 100000
set_option maxHeartbeats 3200000
set_option autoImplicit false
/-! set(xs), xs a list or a tuple of tuples of words -/
namespace RM
open PySem PySem.Spec PyProof.Rows L2
open AutoSeq1 (wpAny_loadPart')
section
variable {P : Program} {w : World} {A : Around} {E : Value → Shared → Prop} {s : Shared}
theorem call_set_words {l : Addr} {items : Array Value} (ks : List (Addr × List Str)) {Q : Value → Shared → Prop} (hh : A.handled = none) (hl : s.heap.IsList l items ∨ s.heap.IsTuple l items) (hit : items.toList = ks.map fun q => Value.ref q.1)
    (kt : ∀ q ∈ ks, WT P w s.heap q.2 q.1) (few : ks.length < 64) (hu : A.units + 3 < cLine)
    (h : ∀ (h' : Heap) (tk : Nat) L, WSet P w h' s.heap.objs.size L → Had ks ks.length L → (∀ b u, s.heap.get? b = some u → h'.get? b = some u) → Q (.ref s.heap.objs.size) { s with heap := h', toks := tk }) :
    wpAny (model P w) A (call (.type "set") [.ref l]) Q E s := by
  refine set_made fun led => ?_
  have isz : items.size = ks.length := by rw [← Array.length_toList, hit, List.length_map]
  have hS : (s.heap.push (newSetO led)).get? s.heap.objs.size = some (newSetO led) := Heap.get?_push_size _ rfl
  have hT : Shared.TypeIs { s with heap := s.heap.push (newSetO led) } (.ref s.heap.objs.size) "set" := ⟨_, hS, rfl⟩
  have hsz : (s.heap.push (newSetO led)).objs.size = s.heap.objs.size + 1 := Heap.size_push ..
  have val : ∀ (i : Nat) (v : Value), items[i]? = some v → ∃ q, ks[i]? = some q ∧ v = .ref q.1 := fun i v hv => by
    rw [← Array.getElem?_toList, hit, List.getElem?_map] at hv
    obtain ⟨q, hq, rfl⟩ := Option.map_eq_some_iff.mp hv
    exact ⟨q, hq, rfl⟩
  have none_of : ∀ b, s.heap.objs.size ≤ b → s.heap.get? b = none := fun b hb => by
    cases q : s.heap.get? b with
    | none => rfl
    | some u => exact absurd (Nat.lt_of_lt_of_le (Heap.lt_size q) hb) (Nat.lt_irrefl _)
  have hh3 : A.in1.in1.in1.handled = none := by simp [hh]
  have last : ∀ {s' : Shared} {L : List (Addr × List Str)} {wr : List Addr}, Moved (s.heap.objs.size :: wr) (fun a b => b = a) { s with heap := s'.heap, toks := s'.toks } s' ∨ (s'.gens = s.gens ∧ s'.drawn = s.drawn ∧ s'.os = s.os) → WSet P w s'.heap s.heap.objs.size L → Had ks ks.length L → (∀ b u, s.heap.get? b = some u → s'.heap.get? b = some u) → Q (.ref s.heap.objs.size) s' := fun {s' L wr} hm S g kp => by
    obtain ⟨h', g', d', tk', os'⟩ := s'
    have e : g' = s.gens ∧ d' = s.drawn ∧ os' = s.os := hm.elim (fun m => ⟨m.gens, m.drawn, m.os⟩) id
    obtain ⟨rfl, rfl, rfl⟩ := e
    exact h h' tk' L S g kp
  rcases hl with hl | hl
  · have hlS : l < s.heap.objs.size := by obtain ⟨o, ho, _⟩ := hl; exact Heap.lt_size ho
    have lne : l ≠ (s.heap.push (newSetO led)).objs.size := by rw [hsz]; exact Nat.ne_of_lt (Nat.lt_succ_of_lt hlS)
    have saf : s.heap.objs.size ∉ [(s.heap.push (newSetO led)).objs.size, l] := by
      rw [hsz]
      intro hm
      rcases List.mem_cons.mp hm with e | hm
      · exact absurd e (Nat.ne_of_lt (Nat.lt_succ_self _))
      · exact absurd (List.mem_singleton.mp hm) (Nat.ne_of_gt hlS)
    have hl1 : (s.heap.push (newSetO led)).IsList l items := hl.push _
    obtain ⟨ol, hol, hcl, nl, hdl⟩ := id hl1
    obtain ⟨ocls, odict, odata, oslots⟩ := ol
    simp only at hcl hdl
    subst hcl; subst hdl
    have hsls := F.sub_list_set
    have hslf := F.sub_list_frozenset
    have hne : (Value.type "list" == Value.type "dict") = false := by decide
    unfold Builtin.«set.__init__» noKeywords Builtin.Frozenset.updateFrom
    generalize hPI : pyIter = PI
    unfold newSetO at hS hT hsz hl1 hol lne saf ⊢
    wp_walk
    subst hPI
    refine wpAny_pyIter_list hl1 ?_
    refine wpAny_bind (wpAny_runValue ?_)
    refine set_loop ((Walks.list hh3 _ l lne items).toS) s.heap.objs.size saf ks isz few val s.heap kt (none_of _ (Nat.le_refl _)) (fun b hb => none_of b (by rw [List.mem_singleton.mp hb, hsz]; omega)) hu items.size 0 _ [] (by omega)
      ⟨⟨_, Heap.get?_push_size _ rfl, rfl, rfl⟩, hl1.push _⟩ (fun b u e => Heap.get?_push_of_some _ (Heap.get?_push_of_some _ e)) (fresh_set (led := led) (Heap.get?_push_of_some _ hS)) ⟨fun q hq => absurd hq (List.not_mem_nil), fun k => (by simp), Nat.le_refl _⟩ fun s' L m S g kp => ?_
    rw [isz] at g
    have fin := last (wr := []) (.inr ⟨m.gens, m.drawn, m.os⟩) S g kp
    show wpAny _ _ _ _ _ _
    refine wpAny_pure ?_
    show wpAny _ _ (ret Value.none) _ _ _
    exact wpAny_pure ⟨rfl, fin⟩
  · have hlS : l < s.heap.objs.size := by obtain ⟨o, ho, _⟩ := hl; exact Heap.lt_size ho
    have lne : l ≠ (s.heap.push (newSetO led)).objs.size := by rw [hsz]; exact Nat.ne_of_lt (Nat.lt_succ_of_lt hlS)
    have saf : s.heap.objs.size ∉ [(s.heap.push (newSetO led)).objs.size, l] := by
      rw [hsz]
      intro hm
      rcases List.mem_cons.mp hm with e | hm
      · exact absurd e (Nat.ne_of_lt (Nat.lt_succ_self _))
      · exact absurd (List.mem_singleton.mp hm) (Nat.ne_of_gt hlS)
    obtain ⟨ol, hol0, hcl, nl, hdl⟩ := hl
    obtain ⟨ocls, odict, odata, oslots⟩ := ol
    simp only at hcl hdl
    subst hcl; subst hdl
    have hol : (s.heap.push (newSetO led)).get? l = some { cls := .type "tuple", dict := odict, data := .seq items nl, slots := oslots } := Heap.get?_push_of_some _ hol0
    have hl1 : (s.heap.push (newSetO led)).IsTuple l items := ⟨_, hol, rfl, nl, rfl⟩
    have hsls := F.sub_tuple_set
    have hslf := F.sub_tuple_frozenset
    have hne : (Value.type "tuple" == Value.type "dict") = false := by decide
    unfold Builtin.«set.__init__» noKeywords Builtin.Frozenset.updateFrom
    generalize hPI : pyIter = PI
    unfold newSetO at hS hT hsz hl1 hol lne saf ⊢
    wp_walk
    subst hPI
    refine wpAny_pyIter_tuple hl1 ?_
    refine wpAny_bind (wpAny_runValue ?_)
    refine set_loop ((Walks.tuple hh3 _ l lne items).toS) s.heap.objs.size saf ks isz few val s.heap kt (none_of _ (Nat.le_refl _)) (fun b hb => none_of b (by rw [List.mem_singleton.mp hb, hsz]; omega)) hu items.size 0 _ [] (by omega)
      ⟨⟨_, Heap.get?_push_size _ rfl, rfl, rfl⟩, ⟨_, Heap.get?_push_of_some _ hol, rfl, nl, rfl⟩⟩ (fun b u e => Heap.get?_push_of_some _ (Heap.get?_push_of_some _ e)) (fresh_set (led := led) (Heap.get?_push_of_some _ hS)) ⟨fun q hq => absurd hq (List.not_mem_nil), fun k => (by simp), Nat.le_refl _⟩ fun s' L m S g kp => ?_
    rw [isz] at g
    have fin := last (wr := []) (.inr ⟨m.gens, m.drawn, m.os⟩) S g kp
    show wpAny _ _ _ _ _ _
    refine wpAny_pure ?_
    show wpAny _ _ (ret Value.none) _ _ _
    exact wpAny_pure ⟨rfl, fin⟩
end
end RM
end
section
set_option Elab.async false
set_option linter.all false
set_option maxRecDepth 100000
set_option maxHeartbeats 1000000
set_option autoImplicit false
/-! len(set(xs)), xs a list or a tuple of tuples of words -/
namespace RM
open PySem PySem.Spec PyProof.Rows L2
theorem mem_dist {k : List Str} : ∀ {l : List (List Str)}, k ∈ dist l ↔ k ∈ l
  | [] => Iff.rfl
  | x :: r => by
    unfold dist
    split
    · rename_i h
      rw [mem_dist (l := r), List.mem_cons]
      exact ⟨.inr, fun q => q.elim (fun e => e ▸ h) id⟩
    · rw [List.mem_cons, List.mem_cons, mem_dist (l := r)]
theorem dist_nodup : ∀ l : List (List Str), (dist l).Nodup
  | [] => List.nodup_nil
  | x :: r => by
    unfold dist
    split
    · exact dist_nodup r
    · rename_i h
      exact List.nodup_cons.mpr ⟨fun q => h (mem_dist.mp q), dist_nodup r⟩
theorem dist_len {l m : List (List Str)} (h : m.Nodup) (e : ∀ k, k ∈ m ↔ k ∈ l) : m.length = (dist l).length :=
  ((List.perm_ext_iff_of_nodup h (dist_nodup l)).mpr fun k => (e k).trans mem_dist.symm).length_eq
/-- tuples of these words -/
def TupsW (K : PySem.W.Frag) (H : Hp) : List V → List (List Str) → Prop := Paired fun v k => ∃ t, v = V.ref t ∧ SqT K H t (k.map V.str)
theorem items_kind {P : Program} {w : World} : ∀ {k : List Str} {us : List Value}, Vals (k.map V.str) us → ItemsAre (strKind P w) k us
  | [], _, .nil => .nil
  | x :: k, _, .cons r t => by
    obtain ⟨tk, rfl⟩ := r
    refine .cons ?_ (items_kind t)
    show Value.isStrOf x (.str x tk) = true
    simp [Value.isStrOf, Value.isStr]
section
variable {X : Cx} {pins : List (Addr × Obj)} {σ : L2.St} {H : Hp} {s : Shared}
theorem wt_of (I : Inv X pins σ H s) {t : Addr} {k : List Str} (h : SqT X.K H t (k.map V.str)) : WT X.prog X.w s.heap k t := by
  obtain ⟨its, r, ⟨o, ho, hc, n, hd⟩, _⟩ := I.tuple h
  exact ⟨o, its.toArray, n, ho, hc, hd, by simpa using items_kind r⟩
theorem rows_of (I : Inv X pins σ H s) : ∀ {vs : List V} {ks : List (List Str)} {us : List Value}, TupsW X.K H vs ks → Vals vs us → ∃ qs : List (Addr × List Str), us = qs.map (fun q => Value.ref q.1) ∧ qs.map (·.2) = ks ∧ ∀ q ∈ qs, WT X.prog X.w s.heap q.2 q.1
  | [], [], _, .nil, .nil => ⟨[], rfl, rfl, fun q hq => absurd hq (List.not_mem_nil)⟩
  | v :: vs, k :: ks, _, .cons h t, .cons r rs => by
    obtain ⟨a, rfl, ha⟩ := h
    cases r
    obtain ⟨qs, e1, e2, e3⟩ := rows_of I t rs
    refine ⟨(a, k) :: qs, by rw [List.map_cons, e1], by rw [List.map_cons, e2], fun q hq => ?_⟩
    rcases List.mem_cons.mp hq with rfl | hq
    · exact wt_of I ha
    · exact e3 q hq
def tLset (K : PySem.W.Frag) (ta : TE) : TE := fun σ H Q => ta σ H fun x H1 => ∃ (l : Addr) (vs : List V) (ks : List (List Str)), x = V.ref l ∧ (SqL K H1 l vs ∨ SqT K H1 l vs) ∧ TupsW K H1 vs ks ∧ ks.length < 64 ∧ Q (.int (dist ks).length) H1
theorem pe_lset {a : Expr} {ta : TE} {p p2 q pos : Pos} (hc : X.calm = true) (hu : X.A.units + 3 < cLine) (hg : Gl X "len") (hm : X.mg "len" = none) (hg2 : Gl X "set") (hm2 : X.mg "set" = none) (ha : PE X a ta)
    (na : starEach [a] X.env = (false, eval a X.env) :: starEach [] X.env) : PE X (.Call (.Name "len" p) [.Call (.Name "set" p2) [a] [] q] [] pos) (tLset X.K ta) := by
  refine ⟨fun pins s σ H Q I h => ?_⟩
  refine Call_ (ld_blt I hg hm boot_len ?_)
  refine PyProof.Rows.callWith_builtin1 (PyProof.Rows.args_cons ?_ rfl) rfl rfl
  refine Call_ (ld_blt I hg2 hm2 boot_set ?_)
  refine PyProof.Rows.callWith_type1 (PyProof.Rows.args_cons (thn (ha.run pins s σ H _ I h) fun v s1 ⟨x, H1, I1, r1, q1⟩ => PyProof.Rows.args_nil ?_) na) na rfl
  obtain ⟨l, vs, ks, rfl, hq, ht, few, q1⟩ := q1
  cases r1
  have go : ∀ its : List Value, Vals vs its → (s1.heap.IsList l its.toArray ∨ s1.heap.IsTuple l its.toArray) → wpAny (model X.prog X.w) X.A (call (.type "set") [.ref l]) (fun v s₂ => wpAny (model X.prog X.w) X.A (spliced (backTo pos (starEach [] X.env))) (fun vs s₂ => wpAny (model X.prog X.w) X.A (call (.builtin "len") (v :: vs)) (EP X pins σ Q) X.xe s₂) X.xe s₂) X.xe s1 := fun its r hl => by
    obtain ⟨qs, e1, e2, e3⟩ := rows_of I1 ht r
    have ln : qs.length = ks.length := by rw [← e2, List.length_map]
    refine call_set_words qs (I1.ok.hd hc) hl (by simpa using e1) e3 (by omega) hu fun h' tk L S g kp => ?_
    refine PyProof.Rows.args_nil ?_
    have n1 : L.length = (dist ks).length := by
      rw [← List.length_map (f := fun q : Addr × List Str => q.2) (as := L)]
      refine dist_len S.nd fun k => ?_
      rw [g.key, List.take_length, e2]
    have few' := S.few
    obtain ⟨o, es, ep, t, ho, hex, hd, R⟩ := S.ex
    have n2 := rows_size R.rows
    have I2 : Inv X pins σ H1 { s1 with heap := h', toks := tk } := I1.kept kp
    refine call_len_set ho hex hd R.fits (by rw [n2]; omega) ⟨.int (dist ks).length, H1, I2.tok _, ⟨_, by rw [n2, n1]⟩, q1⟩
  rcases hq with hq | hq
  · obtain ⟨its, r, pl, _⟩ := I1.list hq
    exact go its r (.inl pl.isList)
  · obtain ⟨its, r, pl, _⟩ := I1.tuple hq
    exact go its r (.inr pl)
end
end RM
end
section
set_option Elab.async false
set_option linter.all false
set_option maxRecDepth 100000
set_option maxHeartbeats 3200000
set_option autoImplicit false
/-! len(set(xs)), xs a list or a tuple of texts -/
namespace RM
open PySem PySem.Spec PyProof.Rows L2
open AutoSeq1 (wpAny_loadPart')
theorem mem_distS {k : Str} : ∀ {l : List Str}, k ∈ distS l ↔ k ∈ l
  | [] => Iff.rfl
  | x :: r => by
    unfold distS
    split
    · rename_i h
      rw [mem_distS (l := r), List.mem_cons]
      exact ⟨.inr, fun q => q.elim (fun e => e ▸ h) id⟩
    · rw [List.mem_cons, List.mem_cons, mem_distS (l := r)]
theorem distS_nodup : ∀ l : List Str, (distS l).Nodup
  | [] => List.nodup_nil
  | x :: r => by
    unfold distS
    split
    · exact distS_nodup r
    · rename_i h
      exact List.nodup_cons.mpr ⟨fun q => h (mem_distS.mp q), distS_nodup r⟩
theorem distS_len {l m : List Str} (h : m.Nodup) (e : ∀ k, k ∈ m ↔ k ∈ l) : m.length = (distS l).length :=
  ((List.perm_ext_iff_of_nodup h (distS_nodup l)).mpr fun k => (e k).trans mem_distS.symm).length_eq
theorem distS_more (l : List Str) (x : Str) : (distS (l ++ [x])).length = if x ∈ l then (distS l).length else (distS l).length + 1 := by
  split
  · rename_i h
    refine (distS_len (distS_nodup l) fun k => ?_).symm
    rw [mem_distS, List.mem_append, List.mem_singleton]
    exact ⟨.inl, fun q => q.elim id fun e => e ▸ h⟩
  · rename_i h
    refine (distS_len (m := x :: distS l) (List.nodup_cons.mpr ⟨fun q => h (mem_distS.mp q), distS_nodup l⟩) fun k => ?_).symm
    rw [List.mem_cons, mem_distS, List.mem_append, List.mem_singleton]
    exact or_comm
section
variable {P : Program} {w : World} {A : Around} {E : Value → Shared → Prop} {s : Shared}
/-- the set at a has just these texts -/
def TSet (P : Program) (w : World) (h : Heap) (a : Addr) (l : List Str) : Prop := h.SetOf (strKind P w) a (fun k => decide (k ∈ l)) (distS l).length
theorem TSet.more {h : Heap} {a : Addr} {l : List Str} {x : Str} (q : h.SetOf (strKind P w) a (fun k => decide (k ∈ l) || decide (k = x)) (if decide (x ∈ l) = true then (distS l).length else (distS l).length + 1)) : TSet P w h a (l ++ [x]) := by
  unfold TSet
  have e1 : (fun k : Str => decide (k ∈ l ++ [x])) = fun k => decide (k ∈ l) || decide (k = x) := by
    funext k
    rw [Bool.eq_iff_iff]
    simp
  have e2 : (distS (l ++ [x])).length = if decide (x ∈ l) = true then (distS l).length else (distS l).length + 1 := by
    rw [distS_more]
    by_cases h : x ∈ l <;> simp [h]
  rw [e1, e2]
  exact q
theorem TSet.kept {h h' : Heap} {a : Addr} {l : List Str} (q : TSet P w h a l) (ha : ∀ u, h.get? a = some u → h'.get? a = some u) : TSet P w h' a l := by
  obtain ⟨o, es, ep, t, ho, r⟩ := q
  exact ⟨o, es, ep, t, ha o ho, r⟩
theorem tset_new {h : Heap} {a : Addr} {led : Bool} (ho : h.get? a = some (newSetO led)) : TSet P w h a [] := by
  refine ⟨_, #[], 0, .fresh 0 0 led, ho, ⟨rfl, rfl, rfl⟩, rfl, (fun e he => absurd he (List.not_mem_nil)), fun k => ?_, by unfold scanBound; decide, rfl, rfl⟩
  simp
theorem distS_le : ∀ l : List Str, (distS l).length ≤ l.length
  | [] => Nat.le_refl _
  | x :: r => by
    have := distS_le r
    unfold distS
    split <;> simp only [List.length_cons] <;> omega
theorem texts_loop {I : Addr} {fp wr : List Addr} {G : Array GenState → Array GenState → Prop} {n : Nat} {Pv : Nat → Value → Prop} {St : Nat → Shared → Prop} {R : Result → Shared → Prop} (W : WalksS P w A.in1 I fp wr G n Pv St) (a : Addr) (af : a ∉ fp)
    (xs : List Str) (hn : n = xs.length) (few : xs.length < 1000) (val : ∀ i v, Pv i v → ∃ x t, xs[i]? = some x ∧ v = .str x t) (h0 : Heap) (a0 : h0.get? a = none) (w0 : ∀ b ∈ wr, h0.get? b = none) :
    ∀ (d i : Nat) (s : Shared), i + d = n → St i s → (∀ b u, h0.get? b = some u → s.heap.get? b = some u) → TSet P w s.heap a (xs.take i) →
      (∀ s', Moved (a :: wr) G s s' → TSet P w s'.heap a xs → (∀ b u, h0.get? b = some u → s'.heap.get? b = some u) → R (.ok (.ret .none)) s') →
      codeAny (model P w) A (.builtin "set.update.loop" ⟨[.ref a, .ref I], []⟩) R s := by
  have aw : a ∉ wr := fun h => af (W.sub _ h)
  have wide : ∀ b ∈ wr, b ∈ a :: wr := fun b hb => List.mem_cons_of_mem _ hb
  have carry : ∀ {s s' : Shared}, Moved wr G s s' → (∀ b u, h0.get? b = some u → s.heap.get? b = some u) → ∀ b u, h0.get? b = some u → s'.heap.get? b = some u := fun m k b u e =>
    m.heap b u (fun hb => by rw [w0 b hb] at e; cases e) (k b u e)
  intro d
  induction d with
  | zero =>
    intro i s hi st kp q fin
    have hi : i = n := by omega
    subst hi
    refine codeAny_builtin F.entry_set_update_loop ?_
    rw [Around.under_plainId F.plain_set_update_loop _]
    show wpAny _ A.in1 (pyNext (.ref I) >>= _) _ _ s
    refine wpAny_bind (W.done s _ _ st fun s' m => ?_)
    show wpAny _ A.in1 (ret Value.none) _ _ s'
    rw [hn, List.take_length] at q
    exact wpAny_pure (fin s' (m.mono wide) (q.kept fun u e => m.heap a u aw e) (carry m kp))
  | succ d ih =>
    intro i s hi st kp q fin
    refine codeAny_builtin F.entry_set_update_loop ?_
    rw [Around.under_plainId F.plain_set_update_loop _]
    show wpAny _ A.in1 (pyNext (.ref I) >>= _) _ _ s
    refine wpAny_bind (W.item i s _ _ (by omega) st fun v s' pv st' m => ?_)
    obtain ⟨x, t, hx, rfl⟩ := val i v pv
    have kp' := carry m kp
    have q' : TSet P w s'.heap a (xs.take i) := q.kept fun u e => m.heap a u aw e
    have is_ : (strKind P w).is x (.str x t) = true := by show Value.isStrOf x (.str x t) = true; simp [Value.isStrOf, Value.isStr]
    have room : (distS (xs.take i)).length + 1 < scanBound := by
      have h1 := distS_le (xs.take i)
      have h2 := List.length_take_le' i xs
      unfold scanBound
      omega
    show wpAny _ A.in1 (holding [Value.str x t] (setAdd a (.str x t)) >>= _) _ _ s'
    refine wpAny_bind (wpAny_holding ?_)
    unfold setAdd
    refine wpAny_holding ?_
    refine wpAny_bind ((strKind P w).pyHash is_ ?_)
    refine wpAny_setAddHashed_of (knd := strKind P w) (s := { s' with toks := s'.toks + 1 }) is_ rfl q' room fun h' same q2 => ?_
    have q3 : TSet P w h' a (xs.take (i + 1)) := by
      rw [List.take_succ, hx]
      exact TSet.more q2
    have kp2 : ∀ b u, h0.get? b = some u → h'.get? b = some u := fun b u e => (same.2 b fun z => by rw [z, a0] at e; cases e).trans (kp' b u e)
    refine wpAny_pure ⟨plainId_quiet F.plain_set_update_loop _, ih (i + 1) _ (by omega) (W.frame _ s' _ _ st' (Nat.le_add_right _ _) fun b hb u e => ?_) kp2 q3 fun s2 m2 q4 kp3 => ?_⟩
    · exact (same.2 b fun z => af (z ▸ hb)).trans e
    · refine fin s2 (Moved.trans W.gtrans ((m.mono wide).then_heap (Nat.le_add_right _ _) fun b u hb e => ?_) m2) q4 kp3
      exact (same.2 b fun z => hb (z ▸ List.mem_cons_self)).trans e
theorem call_set_texts {l : Addr} {items : Array Value} (xs : List Str) {Q : Value → Shared → Prop} (hh : A.handled = none) (hl : s.heap.IsList l items ∨ s.heap.IsTuple l items) (hit : StrsAre items.toList xs) (few : xs.length < 1000)
    (h : ∀ (h' : Heap) (tk : Nat), TSet P w h' s.heap.objs.size xs → (∀ b u, s.heap.get? b = some u → h'.get? b = some u) → Q (.ref s.heap.objs.size) { s with heap := h', toks := tk }) :
    wpAny (model P w) A (call (.type "set") [.ref l]) Q E s := by
  refine set_made fun led => ?_
  have hit2 : ∀ {us : List Value} {ys : List Str}, StrsAre us ys → us.length = ys.length ∧ ∀ (i : Nat) (v : Value), us[i]? = some v → ∃ x t, ys[i]? = some x ∧ v = .str x t := fun {us ys} h => by
    induction h with
    | nil => exact ⟨rfl, fun i v hv => by simp at hv⟩
    | cons x t _ ih =>
      refine ⟨by simp [ih.1], fun i v hv => ?_⟩
      cases i with
      | zero =>
        cases hv
        exact ⟨x, t, rfl, rfl⟩
      | succ i => exact ih.2 i v (by simpa using hv)
  have isz : items.size = xs.length := by rw [← Array.length_toList]; exact (hit2 hit).1
  have hS : (s.heap.push (newSetO led)).get? s.heap.objs.size = some (newSetO led) := Heap.get?_push_size _ rfl
  have hT : Shared.TypeIs { s with heap := s.heap.push (newSetO led) } (.ref s.heap.objs.size) "set" := ⟨_, hS, rfl⟩
  have hsz : (s.heap.push (newSetO led)).objs.size = s.heap.objs.size + 1 := Heap.size_push ..
  have val : ∀ (i : Nat) (v : Value), items[i]? = some v → ∃ x t, xs[i]? = some x ∧ v = .str x t := fun i v hv => (hit2 hit).2 i v (by rw [Array.getElem?_toList]; exact hv)
  have none_of : ∀ b, s.heap.objs.size ≤ b → s.heap.get? b = none := fun b hb => by
    cases q : s.heap.get? b with
    | none => rfl
    | some u => exact absurd (Nat.lt_of_lt_of_le (Heap.lt_size q) hb) (Nat.lt_irrefl _)
  have hh3 : A.in1.in1.in1.handled = none := by simp [hh]
  have last : ∀ {s' : Shared}, s'.gens = s.gens ∧ s'.drawn = s.drawn ∧ s'.os = s.os → TSet P w s'.heap s.heap.objs.size xs → (∀ b u, s.heap.get? b = some u → s'.heap.get? b = some u) → Q (.ref s.heap.objs.size) s' := fun {s'} e S kp => by
    obtain ⟨h', g', d', tk', os'⟩ := s'
    obtain ⟨rfl, rfl, rfl⟩ := e
    exact h h' tk' S kp
  rcases hl with hl | hl
  · have hlS : l < s.heap.objs.size := by obtain ⟨o, ho, _⟩ := hl; exact Heap.lt_size ho
    have lne : l ≠ (s.heap.push (newSetO led)).objs.size := by rw [hsz]; exact Nat.ne_of_lt (Nat.lt_succ_of_lt hlS)
    have saf : s.heap.objs.size ∉ [(s.heap.push (newSetO led)).objs.size, l] := by
      rw [hsz]
      intro hm
      rcases List.mem_cons.mp hm with e | hm
      · exact absurd e (Nat.ne_of_lt (Nat.lt_succ_self _))
      · exact absurd (List.mem_singleton.mp hm) (Nat.ne_of_gt hlS)
    have hl1 : (s.heap.push (newSetO led)).IsList l items := hl.push _
    obtain ⟨ol, hol, hcl, nl, hdl⟩ := id hl1
    obtain ⟨ocls, odict, odata, oslots⟩ := ol
    simp only at hcl hdl
    subst hcl; subst hdl
    have hsls := F.sub_list_set
    have hslf := F.sub_list_frozenset
    have hne : (Value.type "list" == Value.type "dict") = false := by decide
    unfold Builtin.«set.__init__» noKeywords Builtin.Frozenset.updateFrom
    generalize hPI : pyIter = PI
    unfold newSetO at hS hT hsz hl1 hol lne saf ⊢
    wp_walk
    subst hPI
    refine wpAny_pyIter_list hl1 ?_
    refine wpAny_bind (wpAny_runValue ?_)
    refine texts_loop ((Walks.list hh3 _ l lne items).toS) s.heap.objs.size saf xs isz few val s.heap (none_of _ (Nat.le_refl _)) (fun b hb => none_of b (by rw [List.mem_singleton.mp hb, hsz]; omega)) items.size 0 _ (by omega)
      ⟨⟨_, Heap.get?_push_size _ rfl, rfl, rfl⟩, hl1.push _⟩ (fun b u e => Heap.get?_push_of_some _ (Heap.get?_push_of_some _ e)) (tset_new (led := led) (Heap.get?_push_of_some _ hS)) fun s' m S kp => ?_
    have fin := last ⟨m.gens, m.drawn, m.os⟩ S kp
    show wpAny _ _ _ _ _ _
    refine wpAny_pure ?_
    show wpAny _ _ (ret Value.none) _ _ _
    exact wpAny_pure ⟨rfl, fin⟩
  · have hlS : l < s.heap.objs.size := by obtain ⟨o, ho, _⟩ := hl; exact Heap.lt_size ho
    have lne : l ≠ (s.heap.push (newSetO led)).objs.size := by rw [hsz]; exact Nat.ne_of_lt (Nat.lt_succ_of_lt hlS)
    have saf : s.heap.objs.size ∉ [(s.heap.push (newSetO led)).objs.size, l] := by
      rw [hsz]
      intro hm
      rcases List.mem_cons.mp hm with e | hm
      · exact absurd e (Nat.ne_of_lt (Nat.lt_succ_self _))
      · exact absurd (List.mem_singleton.mp hm) (Nat.ne_of_gt hlS)
    obtain ⟨ol, hol0, hcl, nl, hdl⟩ := hl
    obtain ⟨ocls, odict, odata, oslots⟩ := ol
    simp only at hcl hdl
    subst hcl; subst hdl
    have hol : (s.heap.push (newSetO led)).get? l = some { cls := .type "tuple", dict := odict, data := .seq items nl, slots := oslots } := Heap.get?_push_of_some _ hol0
    have hl1 : (s.heap.push (newSetO led)).IsTuple l items := ⟨_, hol, rfl, nl, rfl⟩
    have hsls := F.sub_tuple_set
    have hslf := F.sub_tuple_frozenset
    have hne : (Value.type "tuple" == Value.type "dict") = false := by decide
    unfold Builtin.«set.__init__» noKeywords Builtin.Frozenset.updateFrom
    generalize hPI : pyIter = PI
    unfold newSetO at hS hT hsz hl1 hol lne saf ⊢
    wp_walk
    subst hPI
    refine wpAny_pyIter_tuple hl1 ?_
    refine wpAny_bind (wpAny_runValue ?_)
    refine texts_loop ((Walks.tuple hh3 _ l lne items).toS) s.heap.objs.size saf xs isz few val s.heap (none_of _ (Nat.le_refl _)) (fun b hb => none_of b (by rw [List.mem_singleton.mp hb, hsz]; omega)) items.size 0 _ (by omega)
      ⟨⟨_, Heap.get?_push_size _ rfl, rfl, rfl⟩, ⟨_, Heap.get?_push_of_some _ hol, rfl, nl, rfl⟩⟩ (fun b u e => Heap.get?_push_of_some _ (Heap.get?_push_of_some _ e)) (tset_new (led := led) (Heap.get?_push_of_some _ hS)) fun s' m S kp => ?_
    have fin := last ⟨m.gens, m.drawn, m.os⟩ S kp
    show wpAny _ _ _ _ _ _
    refine wpAny_pure ?_
    show wpAny _ _ (ret Value.none) _ _ _
    exact wpAny_pure ⟨rfl, fin⟩
end
section
variable {X : Cx}
theorem texts_are : ∀ {ys : List Str} {us : List Value}, Vals (ys.map V.str) us → StrsAre us ys
  | [], _, .nil => .nil
  | y :: ys, _, .cons r t => by
    obtain ⟨k, rfl⟩ := r
    exact .cons y k (texts_are t)
def tLset2 (K : PySem.W.Frag) (ta : TE) : TE := fun σ H Q => ta σ H fun x H1 => ∃ (l : Addr) (vs : List V), x = V.ref l ∧ (SqL K H1 l vs ∨ SqT K H1 l vs) ∧
  ((∃ ks : List (List Str), TupsW K H1 vs ks ∧ ks.length < 64 ∧ Q (.int (dist ks).length) H1) ∨ ∃ ks : List Str, vs = ks.map V.str ∧ ks.length < 1000 ∧ Q (.int (distS ks).length) H1)
theorem pe_lset2 {a : Expr} {ta : TE} {p p2 q pos : Pos} (hc : X.calm = true) (hu : X.A.units + 3 < cLine) (hg : Gl X "len") (hm : X.mg "len" = none) (hg2 : Gl X "set") (hm2 : X.mg "set" = none) (ha : PE X a ta)
    (na : starEach [a] X.env = (false, eval a X.env) :: starEach [] X.env) : PE X (.Call (.Name "len" p) [.Call (.Name "set" p2) [a] [] q] [] pos) (tLset2 X.K ta) := by
  refine ⟨fun pins s σ H Q I h => ?_⟩
  refine Call_ (ld_blt I hg hm boot_len ?_)
  refine PyProof.Rows.callWith_builtin1 (PyProof.Rows.args_cons ?_ rfl) rfl rfl
  refine Call_ (ld_blt I hg2 hm2 boot_set ?_)
  refine PyProof.Rows.callWith_type1 (PyProof.Rows.args_cons (thn (ha.run pins s σ H _ I h) fun v s1 ⟨x, H1, I1, r1, q1⟩ => PyProof.Rows.args_nil ?_) na) na rfl
  obtain ⟨l, vs, rfl, hq, alt⟩ := q1
  cases r1
  have seq : ∃ its : List Value, Vals vs its ∧ (s1.heap.IsList l its.toArray ∨ s1.heap.IsTuple l its.toArray) := by
    rcases hq with hq | hq
    · obtain ⟨its, r, pl, _⟩ := I1.list hq
      exact ⟨its, r, .inl pl.isList⟩
    · obtain ⟨its, r, pl, _⟩ := I1.tuple hq
      exact ⟨its, r, .inr pl⟩
  obtain ⟨its, r, hl⟩ := seq
  rcases alt with ⟨ks, ht, few, q1⟩ | ⟨ks, rfl, few, q1⟩
  · obtain ⟨qs, e1, e2, e3⟩ := rows_of I1 ht r
    have ln : qs.length = ks.length := by rw [← e2, List.length_map]
    refine call_set_words qs (I1.ok.hd hc) hl (by simpa using e1) e3 (by omega) hu fun h' tk L S g kp => ?_
    refine PyProof.Rows.args_nil ?_
    have n1 : L.length = (dist ks).length := by
      rw [← List.length_map (f := fun q : Addr × List Str => q.2) (as := L)]
      refine dist_len S.nd fun k => ?_
      rw [g.key, List.take_length, e2]
    have few' := S.few
    obtain ⟨o, es, ep, t, ho, hex, hd, R⟩ := S.ex
    have n2 := rows_size R.rows
    have I2 : Inv X pins σ H1 { s1 with heap := h', toks := tk } := I1.kept kp
    refine call_len_set ho hex hd R.fits (by rw [n2]; omega) ⟨.int (dist ks).length, H1, I2.tok _, ⟨_, by rw [n2, n1]⟩, q1⟩
  · refine call_set_texts ks (I1.ok.hd hc) hl (by simpa using texts_are r) few fun h' tk S kp => ?_
    refine PyProof.Rows.args_nil ?_
    have le := distS_le ks
    obtain ⟨o, es, ep, t, ho, hex, hd, _, _, _, hf, hn⟩ := S
    have I2 : Inv X pins σ H1 { s1 with heap := h', toks := tk } := I1.kept kp
    refine call_len_set ho hex hd hf (by rw [hn]; omega) ⟨.int (distS ks).length, H1, I2.tok _, ⟨_, by rw [hn]⟩, q1⟩
end
end RM
end
section
set_option Elab.async false
set_option linter.all false
set_option maxRecDepth 100000
set_option maxHeartbeats 1000000
set_option autoImplicit false
/-! len(set(xs)) in the evaluator -/
namespace RM
open PySem PySem.Spec PyProof.Rows L2
section
variable {kin : Kin} {gt : Gt} {Y : Tx} {k : Nat} {C : Orc} {g : Cfg} {X : Cx} {W : WX} {look : Bool}
theorem lsetA_ok {f : Str} {e a : Expr} (h : lsetA f e = some a) : f = "len" ∧ ∃ p q, e = .Call (.Name "set" p) [a] [] q ∧ isStarred a = false := by
  unfold lsetA at h
  split at h
  · rename_i hf
    refine ⟨beq_iff_eq.mp hf, ?_⟩
    split at h
    · split at h
      · rename_i hc
        rw [Bool.and_eq_true] at hc
        cases h
        exact ⟨_, _, by rw [beq_iff_eq.mp hc.1], by simpa using hc.2⟩
      · cases h
    · cases h
  · cases h
theorem strs_rd {Y : Tx} {G : Gh} {H : Hp} : ∀ {xs : List D} {vs : List V} {k : List Str}, RDs Y G H vs xs → strsD xs = some k → vs = k.map V.str
  | [], _, _, .nil, h => by cases h; rfl
  | x :: xs, _, k, .cons r rs, h => by
    cases x <;> first | (cases h; done) | skip
    rename_i z
    have h : (strsD xs).map (z :: ·) = some k := h
    obtain ⟨k', h', rfl⟩ := Option.map_eq_some_iff.mp h
    cases r
    rw [List.map_cons, strs_rd rs h']
theorem words_rd {Y : Tx} {G : Gh} {H : Hp} : ∀ {xs : List D} {vs : List V} {ks : List (List Str)}, RDs Y G H vs xs → wordsL xs = some ks → TupsW Y.K H vs ks
  | [], _, _, .nil, h => by cases h; exact .nil
  | x :: xs, _, ks, .cons r rs, h => by
    cases x <;> first | (cases h; done) | skip
    rename_i ds
    have h : ((strsD ds).bind fun k => (wordsL xs).map (k :: ·)) = some ks := h
    obtain ⟨k, hk, h⟩ := Option.bind_eq_some_iff.mp h
    obtain ⟨ks', h', rfl⟩ := Option.map_eq_some_iff.mp h
    cases r with
    | tup h1 h2 => exact .cons ⟨_, rfl, by rw [← strs_rd h2 hk]; exact h1⟩ (words_rd rs h')
theorem s_lset {r : Cfg → Cp} (sn : Snd kin gt r) (o : Cok kin gt Y k C g X W) {a : Expr} {y : E} {p p2 q pos : Pos} (hs : isStarred a = false) (hh : g.hot = false) (hg : g.glo gt "len" = some .blt) (hg2 : g.glo gt "set" = some .blt) (hi : (r g).e true a = some y) :
    PE X (.Call (.Name "len" p) [.Call (.Name "set" p2) [a] [] q] [] pos) (tE Y W (RL look Y) (evE kin C (.bi .lset (.cons y .nil)))) := by
  obtain ⟨hgl, hm⟩ := glo_ok o hg
  obtain ⟨hgl2, hm2⟩ := glo_ok o hg2
  have h1 := starEach_plain (es := []) (env := X.env) hs
  refine (pe_lset2 (o.ox.calm hh) (by have := o.ox.units; omega) hgl hm hgl2 hm2 (sn.e g true a y X Y k C W hi o) h1).imp fun σ H Q h => ?_
  obtain ⟨H0, G, ρ, S, ok, sr, w⟩ := t_rl h
  unfold evE at w
  have w1 := wpM_bind.mp w
  unfold evEs at w1
  refine ⟨H0, G, ρ, S, ok, sr, wpM_mono (wpM_bind.mp w1) (fun d S1 w1 G1 H1 v e1 ok1 r1 => ?_) fun _ _ h => h⟩
  unfold evEs at w1
  have w1 := wpM_bind.mp w1
  have w1 : wpM (M.op (biD kin Bi.lset [d])) S1 _ _ := w1
  obtain ⟨d2, hd, w2⟩ := wpM_op.mp w1
  have hd : (itemsD d).bind lsetD = some d2 := hd
  obtain ⟨xs, ei, hd⟩ := Option.bind_eq_some_iff.mp hd
  obtain ⟨l, vs, rfl, q1, q2⟩ := (RL.rv r1).items ei
  rw [o.ox.hK]
  unfold lsetD at hd
  split at hd
  · rename_i ks ew
    split at hd
    · rename_i few
      cases hd
      exact ⟨l, vs, rfl, q1, .inl ⟨ks, words_rd q2 ew, few, w2 G1 H1 _ e1 ok1 (.int _)⟩⟩
    · cases hd
  · split at hd
    · rename_i ks ew
      split at hd
      · rename_i few
        cases hd
        exact ⟨l, vs, rfl, q1, .inr ⟨ks, strs_rd q2 ew, few, w2 G1 H1 _ e1 ok1 (.int _)⟩⟩
      · cases hd
    · cases hd
end
end RM
end
section
set_option Elab.async false
set_option linter.all false
set_option maxRecDepth 100000
set_option autoImplicit false
/-! the compile functions are sound -/
namespace RM
open PySem PySem.Spec PyProof.Rows L2
section
variable {Y : Tx} {k : Nat} {C : Orc} {g : Cfg} {gt : Gt} {X : Cx} {W : WX} {kin : Kin} {look : Bool} {r : Cfg → Cp}

theorem tgt_idx {x : Str} {i : Nat} (h : g.tgt x = some i) : g.N.findIdx? (· == x) = some i := by
  unfold Cfg.tgt at h
  split at h
  · exact h
  · split at h
    · exact h
    · cases h
  · cases h
theorem tgts_own : ∀ {ts : List Expr} {is : List Nat} {i : Nat}, tgts g ts = some is → i ∈ is → ∃ x ∈ namesOf ts, g.N.findIdx? (· == x) = some i
  | [], is, i, h, hi => by cases h; cases hi
  | e :: ts, is, i, h, hi => by
    cases e <;> simp only [tgts] at h <;> try (cases h; done)
    simp only [Option.bind_eq_bind, Option.bind_eq_some_iff, Option.some.injEq] at h
    obtain ⟨j, hj, js, hjs, rfl⟩ := h
    rcases List.mem_cons.mp hi with rfl | hi
    · exact ⟨_, List.mem_cons_self, tgt_idx hj⟩
    · obtain ⟨x, hx, q⟩ := tgts_own hjs hi
      exact ⟨x, List.mem_cons_of_mem _ hx, q⟩
theorem pat_own {tg : Expr} {p : List Nat} (h : patW g tg = some p) : ∀ i ∈ p, ∃ x ∈ patN tg, g.N.findIdx? (· == x) = some i := by
  unfold patW at h
  split at h
  · simp only [Option.map_eq_some_iff] at h
    obtain ⟨i, hi, rfl⟩ := h
    intro j hj
    have e : j = i := by simpa using hj
    subst e
    exact ⟨_, List.mem_cons_self, tgt_idx hi⟩
  · split at h
    · cases h
    intro i hi
    exact tgts_own h hi
  · cases h
theorem own_mem {N ns : List Str} {x : Str} {i : Nat} (hx : x ∈ ns) (h : N.findIdx? (· == x) = some i) : i ∈ (ownOf N ns).map (·.2) := by
  unfold ownOf
  rw [List.map_map]
  refine List.mem_map.mpr ⟨x, hx, ?_⟩
  show (N.findIdx? (· == x)).getD 0 = i
  rw [h]; rfl
theorem pts_cond (sn : Snd kin gt r) {ifs : List Expr} {t : Q} (h : condW r g ifs = some t) (o : Cok kin gt Y k C g X W) : PTs X ifs (tQ Y W (evT kin C t)) := by
  unfold condW at h
  split at h
  · cases h
    refine ⟨fun pins s σ H Q I hw => pts_nil.run pins s σ H Q I ?_⟩
    obtain ⟨H0, G, ρ, S, ok, sr, w⟩ := hw
    unfold evT at w
    exact w G H Ext.refl ok
  · exact pts_one (sn.q g _ t X Y k C W h o)
  · cases h
theorem folded_plain {e : Expr} (h : isSet e = false) (env : Env) (x : Value) : foldedSetIterable e env x = pure x := by
  cases e <;> first | rfl | cases h
theorem isTup_shape {e : Expr} (h : isTupE e = true) : ∃ es kk p, e = .Tuple es kk p := by
  cases e <;> first | exact ⟨_, _, _, rfl⟩ | cases h
theorem s_lcW (sn : Snd kin gt r) (o : Cok kin gt Y k C g X W) {elt tg iter : Expr} {ifs : List Expr} {scope : Scope} {pos : Pos} {i : E} (h : lcW r g elt tg iter ifs scope = some i) : PE X (.ListComp elt [⟨tg, iter, ifs, 0⟩] scope pos) (tN Y W (evE kin C i)) := by
  unfold lcW at h
  simp only at h
  split at h
  · rename_i hb
    rw [Bool.and_eq_true, Bool.and_eq_true] at hb
    obtain ⟨⟨hb, hset⟩, hh⟩ := hb
    have hh : g.hot = false := by simpa using hh
    simp only [Option.bind_eq_bind, Option.bind_eq_some_iff] at h
    obtain ⟨p, hp, it, hit, t, ht, e, he, h⟩ := h
    split at h
    · cases h
    · rename_i hpr
      cases h
      rw [← o.N, ← o.sc] at hb
      have hset : isSet iter = false := by simpa using hset
      refine s_lcN (own := ownOf g.N (patN tg)) o hh (sn.i g true tg iter it X Y k C W hit o fun q => ?_) (by rw [← o.N]; exact blkOk_by hb) (fun i hi => ?_) (fun X' o' => pg_pat o' hp) (fun X' o' => pts_cond sn ht o') (fun X' o' => sn.e _ false elt e X' Y k C WF he o') (folded_plain hset)
      · simp only [Bool.and_eq_true, Bool.not_eq_true', not_and, Bool.not_eq_false] at hpr
        exact hpr q
      · obtain ⟨x, hx, q⟩ := pat_own hp i hi
        exact own_mem hx q
  · cases h
theorem s_lc2W (sn : Snd kin gt r) (o : Cok kin gt Y k C g X W) {elt tg iter tg1 iter1 : Expr} {ifs ifs1 : List Expr} {scope : Scope} {pos : Pos} {i : E} (h : lc2W r g elt tg iter ifs tg1 iter1 ifs1 scope = some i) : PE X (.ListComp elt [⟨tg, iter, ifs, 0⟩, ⟨tg1, iter1, ifs1, 0⟩] scope pos) (tN Y W (evE kin C i)) := by
  unfold lc2W at h
  simp only at h
  split at h
  · rename_i hb
    rw [Bool.and_eq_true, Bool.and_eq_true, Bool.and_eq_true] at hb
    obtain ⟨⟨⟨hb, hset⟩, hset1⟩, hh⟩ := hb
    have hh : g.hot = false := by simpa using hh
    simp only [Option.bind_eq_bind, Option.bind_eq_some_iff] at h
    obtain ⟨p, hp, it, hit, t, ht, p1, hp1, it1, hit1, t1, ht1, e, he, h⟩ := h
    split at h
    · cases h
    · rename_i hpr
      split at h
      · cases h
      · rename_i hpr1
        split at h
        · rename_i hall
          cases h
          rw [← o.N, ← o.sc] at hb
          have hset : isSet iter = false := by simpa using hset
          have hset1 : isSet iter1 = false := by simpa using hset1
          simp only [Bool.and_eq_true, Bool.not_eq_true', not_and, Bool.not_eq_false] at hpr hpr1
          refine s_lc2N (own := ownOf g.N (patN tg ++ patN tg1)) o hh (sn.i g true tg iter it X Y k C W hit o hpr) (by rw [← o.N]; exact blkOk_by hb) (fun i hi => ?_) (fun i hi => ?_) (fun X' o' => pg_pat o' hp) (fun X' o' => pts_cond sn ht o') (fun X' o' => sn.i _ false tg1 iter1 it1 X' Y k C WF hit1 o' hpr1)
            (fun X' o' => pg_pat o' hp1) (fun X' o' => pts_cond sn ht1 o') (fun X' o' => sn.e _ false elt e X' Y k C WF he o') (folded_plain hset) (folded_plain hset1)
          · obtain ⟨x, hx, q⟩ := pat_own hp i hi
            exact own_mem (List.mem_append_left _ hx) q
          · simp only [List.all_eq_true] at hall
            simpa using hall i hi
        · cases h
  · cases h
theorem cold_of {h : Bool} {b : Bi} (z : ¬ (h && !b.cold) = true) : h = false ∨ b.cold = true := by
  cases h
  · exact .inl rfl
  · refine .inr ?_
    simpa using z
/-! ### comprehensions stored on their own line -/
theorem s_setLc (sn : Snd kin gt r) (o : Cok kin gt Y k C g X W) {elt tg iter : Expr} {ifs : List Expr} {scope : Scope} {pos spos py : Pos} {y : Str} {j : Nat} {i : E} (h : lcW r g elt tg iter ifs scope = some i) (hy : X.N[j]? = some y) (hyl : X.env.scope.names.lookup y = some .local)
    (hsw : swapsWith (.ListComp elt [⟨tg, iter, ifs, 0⟩] scope pos) (some (.Name y py)) spos.line X.env = pure true) : PS X (.Assign [.Name y py] (.ListComp elt [⟨tg, iter, ifs, 0⟩] scope pos) spos) (tAsg (tN Y W (evE kin C i)) (gName j)) := by
  unfold lcW at h
  simp only at h
  split at h
  · rename_i hb
    rw [Bool.and_eq_true, Bool.and_eq_true] at hb
    obtain ⟨⟨hb, hset⟩, hh⟩ := hb
    have hh : g.hot = false := by simpa using hh
    simp only [Option.bind_eq_bind, Option.bind_eq_some_iff] at h
    obtain ⟨p, hp, it, hit, t, ht, e, he, h⟩ := h
    split at h
    · cases h
    · rename_i hpr
      cases h
      rw [← o.N, ← o.sc] at hb
      have hset : isSet iter = false := by simpa using hset
      have hown : ∀ i ∈ p, i ∈ (ownOf X.N (patN tg)).map (·.2) := fun i hi => by
        obtain ⟨x, hx, q⟩ := pat_own hp i hi
        rw [o.N]
        exact own_mem hx q
      simp only [Bool.and_eq_true, Bool.not_eq_true', not_and, Bool.not_eq_false] at hpr
      have hb' : blkC X.N X.env.scope scope (ownOf X.N (patN tg)) = true := by rw [o.N] at hb ⊢; exact hb
      rw [← o.N]
      exact (ps_setLc (o.ox.calm hh) o.ox.nd hy hyl hsw (sn.i g true tg iter it X Y k C W hit o hpr) (blkOk_by hb') (fun s H c cl fp => pg_pat (blk_cok o hh s H scope c cl fp) hp) (fun s H c cl fp => pts_cond sn ht (blk_cok o hh s H scope c cl fp))
        (fun s H c cl fp => sn.e _ false elt e _ Y k C WF he (blk_cok o hh s H scope c cl fp)) (fun x => folded_plain hset _ x)).imp fun D σ H h => t_lc hown h
  · cases h
theorem s_setLc2 (sn : Snd kin gt r) (o : Cok kin gt Y k C g X W) {elt tg iter tg1 iter1 : Expr} {ifs ifs1 : List Expr} {scope : Scope} {pos spos py : Pos} {y : Str} {j : Nat} {i : E} (h : lc2W r g elt tg iter ifs tg1 iter1 ifs1 scope = some i) (hy : X.N[j]? = some y) (hyl : X.env.scope.names.lookup y = some .local)
    (hsw : swapsWith (.ListComp elt [⟨tg, iter, ifs, 0⟩, ⟨tg1, iter1, ifs1, 0⟩] scope pos) (some (.Name y py)) spos.line X.env = pure true) : PS X (.Assign [.Name y py] (.ListComp elt [⟨tg, iter, ifs, 0⟩, ⟨tg1, iter1, ifs1, 0⟩] scope pos) spos) (tAsg (tN Y W (evE kin C i)) (gName j)) := by
  unfold lc2W at h
  simp only at h
  split at h
  · rename_i hb
    rw [Bool.and_eq_true, Bool.and_eq_true, Bool.and_eq_true] at hb
    obtain ⟨⟨⟨hb, hset⟩, hset1⟩, hh⟩ := hb
    have hh : g.hot = false := by simpa using hh
    simp only [Option.bind_eq_bind, Option.bind_eq_some_iff] at h
    obtain ⟨p, hp, it, hit, t, ht, p1, hp1, it1, hit1, t1, ht1, e, he, h⟩ := h
    split at h
    · cases h
    · rename_i hpr
      split at h
      · cases h
      · rename_i hpr1
        split at h
        · rename_i hall
          cases h
          have hset : isSet iter = false := by simpa using hset
          have hset1 : isSet iter1 = false := by simpa using hset1
          simp only [Bool.and_eq_true, Bool.not_eq_true', not_and, Bool.not_eq_false] at hpr hpr1
          have hb' : blkC X.N X.env.scope scope (ownOf X.N (patN tg ++ patN tg1)) = true := by rw [o.N, o.sc]; exact hb
          have hown : ∀ i ∈ p, i ∈ (ownOf X.N (patN tg ++ patN tg1)).map (·.2) := fun i hi => by
            obtain ⟨x, hx, q⟩ := pat_own hp i hi
            rw [o.N]
            exact own_mem (List.mem_append_left _ hx) q
          have hown1 : ∀ i ∈ p1, i ∈ (ownOf X.N (patN tg ++ patN tg1)).map (·.2) := fun i hi => by
            simp only [List.all_eq_true] at hall
            rw [o.N]
            simpa using hall i hi
          rw [← o.N]
          exact (ps_setLc2 (o.ox.calm hh) o.ox.nd hy hyl hsw (sn.i g true tg iter it X Y k C W hit o hpr) (blkOk_by hb') hown1 (fun s H c cl fp => pg_pat (blk_cok o hh s H scope c cl fp) hp) (fun s H c cl fp => pts_cond sn ht (blk_cok o hh s H scope c cl fp))
            (fun s H c cl fp => sn.i _ false tg1 iter1 it1 _ Y k C WF hit1 (blk_cok o hh s H scope c cl fp) hpr1) (fun s H c cl fp => pg_pat (blk_cok o hh s H scope c cl fp) hp1) (fun s H c cl fp => pts_cond sn ht1 (blk_cok o hh s H scope c cl fp))
            (fun s H c cl fp => sn.e _ false elt e _ Y k C WF he (blk_cok o hh s H scope c cl fp)) (fun x => folded_plain hset _ x) (fun env x => folded_plain hset1 env x)).imp fun D σ H h => t_lc2 hown hown1 h
        · cases h
  · cases h

theorem s_callV (sn : Snd kin gt r) (o : Cok kin gt Y k C g X W) {f : Str} {args : List Expr} {p pos : Pos} {i : E} (h : callV gt r g f args = some i) : PE X (.Call (.Name f p) args [] pos) (tE Y W (RL look Y) (evE kin C i)) := by
  unfold callV at h
  split at h
  · rename_i hc
    rw [Bool.and_eq_true] at hc
    obtain ⟨hf, hs⟩ := hc
    split at h
    · rename_i hg
      exact s_hof sn o hf hg h
    · rename_i n hg
      split at h
      · rename_i hl
        rw [Bool.and_eq_true] at hl
        simp only [Option.map_eq_some_iff] at h
        obtain ⟨es, he, rfl⟩ := h
        exact s_app sn o hf hs (.inl hg) (by simpa using hl.2) (by simpa using hl.1) he
      · exact s_dfl sn o hf hs (glo_ok o hg).1 h
    · rename_i c n hg
      split at h
      · rename_i hl
        rw [Bool.and_eq_true] at hl
        simp only [Option.map_eq_some_iff] at h
        obtain ⟨es, he, rfl⟩ := h
        exact s_app sn o hf hs (.inr ⟨c, hg⟩) (by simpa using hl.2) (by simpa using hl.1) he
      · exact s_dfl sn o hf hs (glo_ok o hg).1 h
    · rename_i c hg
      split at h
      · rename_i hl
        rw [Bool.and_eq_true] at hl
        simp only [Option.map_eq_some_iff] at h
        obtain ⟨es, he, rfl⟩ := h
        have hh : g.hot = false := by simpa using hl.2
        exact s_appQ sn o hf hs (glo_ok o hg).1 ((glo_ok o hg).2.2 hh) hh (by simpa using hl.1) he
      · cases h
    · rename_i hg
      split at h
      · rename_i e ts x1 p2
        split at h
        · rename_i hn
          obtain ⟨hn, hlt⟩ := Bool.and_eq_true_iff.mp hn
          have hlt := of_decide_eq_true hlt
          have e1 := beq_iff_eq.mp hn
          subst e1
          simp only [Option.bind_eq_bind, Option.bind_eq_some_iff, Option.some.injEq] at h
          obtain ⟨x, hx, us, hus, rfl⟩ := h
          simp only [List.all_cons, Bool.and_eq_true, Bool.not_eq_true'] at hs
          exact s_isiN o (sn.e g true e x X Y k C W hx o) hs.1 hus hlt hg
        · cases h
      · rename_i e t hnt
        split at h
        · rename_i hn
          have e1 := beq_iff_eq.mp hn
          subst e1
          simp only [Option.bind_eq_bind, Option.bind_eq_some_iff, Option.some.injEq] at h
          obtain ⟨x, hx, s, hs1, rfl⟩ := h
          obtain ⟨a1, _, _, a2, a3⟩ := tyOf_ok o hs1
          simp only [List.all_cons, Bool.and_eq_true, Bool.not_eq_true'] at hs
          exact s_isi1 o (sn.e g true e x X Y k C W hx o) hs.1 a3 a1 a2 hg
        · simp only [Option.bind_eq_bind, Option.bind_eq_some_iff] at h
          obtain ⟨b, hb, es, hes, h⟩ := h
          split at h
          · cases h
          · rename_i hh
            cases h
            exact s_bi sn o (by simp) hf hs hg hb (cold_of hh) hes
      · split at h
        · rename_i a ha
          obtain ⟨rfl, p1, p2, rfl, hsa⟩ := lsetA_ok ha
          split at h
          · rename_i hg2
            split at h
            · rename_i hc
              simp only [Option.bind_eq_bind, Option.bind_eq_some_iff, Option.some.injEq] at h
              obtain ⟨x, hx, rfl⟩ := h
              exact s_lset sn o hsa (by simpa using hc) hg hg2 hx
            · cases h
          · simp at h
        · simp only [Option.bind_eq_bind, Option.bind_eq_some_iff] at h
          obtain ⟨b, hb, es, hes, h⟩ := h
          split at h
          · cases h
          · rename_i hh
            cases h
            exact s_bi sn o (by simp) hf hs hg hb (cold_of hh) hes
      · cases h
    · cases h
  · cases h
theorem kwF_ok {f q kn : Str} (h : kwF gt f kn = some q) : gt.lookup q = some (.xkw f kn) := by
  unfold kwF at h
  obtain ⟨p, _, hp⟩ := List.exists_of_findSome?_eq_some h
  split at hp
  · rename_i c k' hl
    split at hp
    · rename_i e
      cases hp
      obtain ⟨e1, e2⟩ := Bool.and_eq_true_iff.mp e
      rw [← beq_iff_eq.mp e1, ← beq_iff_eq.mp e2]
      exact hl
    · cases hp
  · cases hp
theorem s_kwW (sn : Snd kin gt r) (o : Cok kin gt Y k C g X W) {f : Str} {kws : List Keyword} {p pos : Pos} {i : E} (h : kwW gt r g f kws = some i) : PE X (.Call (.Name f p) [] kws pos) (tE Y W (RL look Y) (evE kin C i)) := by
  unfold kwW at h
  split at h
  · rename_i kn e kp
    split at h
    · rename_i c hgl
      split at h
      · rename_i hc
        simp only [Bool.and_true, Bool.and_eq_true, Bool.not_eq_true'] at hc
        obtain ⟨hf, hh⟩ := hc
        obtain ⟨n1, n2, n3⟩ := okName_ok hf
        split at h
        · rename_i q hq
          simp only [Option.map_eq_some_iff] at h
          obtain ⟨x, hx, rfl⟩ := h
          have gl := (glo_ok o hgl).1
          obtain ⟨a, m1, m2, m3, F⟩ := (show GvOk g.hot Y k C X.prog X.w X.K X.mg X.base q (.xkw f kn) from o.gt q _ (kwF_ok hq)) hh
          refine (pe_callK F (o.ox.room hh) o.ox.gd o.tk gl m1 m3 (sn.e g false e x X Y k C W hx o) n1).imp fun σ H Q h => ?_
          obtain ⟨H0, G, ρ, S, ok, sr, w⟩ := t_rl h
          unfold evE at w
          have w := wpM_bind.mp w
          unfold evEs at w
          refine ⟨H0, G, ρ, S, ok, sr, wpM_mono (wpM_bind.mp w) (fun d S1 w1 G1 H1 v1 e1 ok1 r1 => ?_) fun _ _ h => h⟩
          have w1 := wpM_bind.mp w1
          unfold evEs at w1
          exact ⟨rfl, G1, S1, [d], ok1, .cons r1 .nil, wpM_mono w1 (fun d S2 q G' H' v e' ok' r => q G' H' v (e1.trans e') ok' r) fun x S h => h.trans e1⟩
        · cases h
      · cases h
    · simp at h
  · cases h
theorem s_callW (sn : Snd kin gt r) (o : Cok kin gt Y k C g X W) {f : Str} {args : List Expr} {p pos : Pos} {i : E} (h : callW gt r g f args = some i) : PE X (.Call (.Name f p) args [] pos) (tE Y W (RL look Y) (evE kin C i)) := by
  unfold callW at h
  split at h
  · rename_i j hj
    cases h
    exact s_thk o hj
  · exact s_callV sn o h
theorem val_ok {a : Expr} (h1 : ∀ x p, a ≠ .UnaryOp .Not x p) (h2 : ∀ op es p, a ≠ .BoolOp op es p) (h3 : ∀ t x y p, a ≠ .IfExp t x y p) (h4 : ∀ x ops cs p, a ≠ .Compare x ops cs p) (env : Env) (whole : Sem Value) : isTrue a env whole = (do let v ← whole; standAt a.pos; holding [v] (truthy v)) := by
  cases a with
  | UnaryOp op x p => cases op <;> first | exact absurd rfl (h1 _ _) | rfl
  | BoolOp => exact absurd rfl (h2 _ _ _)
  | IfExp => exact absurd rfl (h3 _ _ _ _)
  | Compare => exact absurd rfl (h4 _ _ _ _)
  | _ => rfl
theorem s_stepE (sn : Snd kin gt r) (o : Cok kin gt Y k C g X W) {ex : Expr} {i : E} (h : stepE gt r g look ex = some i) : PE X ex (tE Y W (RL look Y) (evE kin C i)) := by
  unfold stepE at h
  split at h
  · exact s_name h o
  · simp only [Option.map_eq_some_iff] at h
    obtain ⟨d, hd, rfl⟩ := h
    exact s_const hd
  · simp only [Option.bind_eq_bind, Option.bind_eq_some_iff, Option.some.injEq] at h
    obtain ⟨x, hx, y, hy, rfl⟩ := h
    exact s_bin o (sn.e g true _ x X Y k C W hx o) (sn.e g true _ y X Y k C W hy o)
  · simp only [Option.map_eq_some_iff] at h
    obtain ⟨x, hx, rfl⟩ := h
    exact s_not (sn.e g true _ x X Y k C W hx o)
  · simp only [Option.map_eq_some_iff] at h
    obtain ⟨x, hx, rfl⟩ := h
    exact s_neg (sn.e g true _ x X Y k C W hx o)
  · exact (s_boolW sn o _ _ h).imp fun σ H Q h => t_rl h
  · split at h
    · cases h
    · rename_i hs
      split at h
      · rename_i j hj
        cases h
        exact s_eqoW sn o hj (by simpa using hs)
      simp only [Option.bind_eq_bind, Option.bind_eq_some_iff, Option.some.injEq] at h
      obtain ⟨x, hx, y, hy, rfl⟩ := h
      exact s_cmp o (sn.e g true _ x X Y k C W hx o) (sn.e g true _ y X Y k C W hy o) (by simpa using hs)
  · split at h
    · cases h
    · rename_i hs
      simp only [Bool.or_eq_true, not_or, Bool.not_eq_true] at hs
      simp only [Option.bind_eq_bind, Option.bind_eq_some_iff, Option.some.injEq] at h
      obtain ⟨x, hx, y, hy, z, hz, rfl⟩ := h
      exact s_chain o (sn.e g true _ x X Y k C W hx o) (sn.e g true _ y X Y k C W hy o) (sn.e g true _ z X Y k C W hz o) hs.2
  · simp only [Option.bind_eq_bind, Option.bind_eq_some_iff, Option.some.injEq] at h
    obtain ⟨q, hq, x, hx, y, hy, rfl⟩ := h
    exact s_ife (sn.q g _ q X Y k C W hq o) (sn.e g false _ x X Y k C W hx o) (sn.e g false _ y X Y k C W hy o)
  · simp only [Option.map_eq_some_iff] at h
    obtain ⟨es, he, rfl⟩ := h
    exact s_tup (s_es sn o _ es he)
  · simp only [Option.map_eq_some_iff] at h
    obtain ⟨es, he, rfl⟩ := h
    exact s_lst (s_es sn o _ es he)
  · split at h
    · rename_i j hj
      cases h
      exact s_lenoW sn o hj
    · exact s_callW sn o h
  · exact s_kwW sn o h
  · exact s_at sn o h
  · split at h
    · rename_i hn
      obtain ⟨n1, n2, n3⟩ := okName_ok hn
      split at h
      · rename_i j hj
        obtain ⟨e1, e2⟩ := loc_ok o hj
        split at h
        · cases h
          exact s_xfl o e1 e2 n1 n2
        · cases h
          exact s_fld o ((pe_var e1 e2 n1 n2).imp fun σ H Q h => t_var (look := true) (kin := kin) (C := C) h) rfl
      · cases h
    · cases h
  · simp only [Option.bind_eq_bind, Option.bind_eq_some_iff, Option.some.injEq] at h
    obtain ⟨x, hx, rfl⟩ := h
    exact s_fld o (sn.e g true _ x X Y k C W hx o) rfl
  · simp only [Option.bind_eq_bind, Option.bind_eq_some_iff, Option.some.injEq] at h
    obtain ⟨x, hx, rfl⟩ := h
    exact s_fld o (sn.e g true _ x X Y k C W hx o) rfl
  · simp only [Option.bind_eq_bind, Option.bind_eq_some_iff, Option.some.injEq] at h
    obtain ⟨x, hx, l, hl, u, hu, rfl⟩ := h
    exact s_sl sn o (sn.e g true _ x X Y k C W hx o) hl hu
  · simp only [Option.bind_eq_bind, Option.bind_eq_some_iff, Option.some.injEq] at h
    obtain ⟨x, hx, l, hl, u, hu, rfl⟩ := h
    exact s_bk sn o (sn.e g true _ x X Y k C W hx o) hl hu
  · cases h
    exact s_dct0
  · split at h
    · cases h
    · rename_i hs
      simp only [Option.bind_eq_bind, Option.bind_eq_some_iff, Option.some.injEq] at h
      obtain ⟨x, hx, y, hy, rfl⟩ := h
      exact s_sub o (sn.e g true _ x X Y k C W hx o) (sn.e g true _ y X Y k C W hy o) (by simpa using hs)
  · exact (s_lcW sn o h).imp fun σ H Q h => t_new h
  · exact (s_lc2W sn o h).imp fun σ H Q h => t_new h
  · cases h
theorem s_stepQ (sn : Snd kin gt r)
    (o : Cok kin gt Y k C g X W) {ex : Expr} {i : Q} (h : stepQ r g ex = some i) : PT X ex (tQ Y W (evT kin C i)) := by
  unfold stepQ at h
  split at h
  · exact (s_testW sn o _ _ h).pt
  · simp only [Option.map_eq_some_iff] at h
    obtain ⟨x, hx, rfl⟩ := h
    exact (pt_not (sn.q g _ x X Y k C W hx o)).imp fun σ H Q h => t_tnot h
  · cases h
  · simp only [Option.map_eq_some_iff] at h
    obtain ⟨x, hx, rfl⟩ := h
    exact sn.c g _ _ _ _ x X Y k C W hx o
  · rename_i h1 h2 h3 h4
    simp only [Option.map_eq_some_iff] at h
    obtain ⟨x, hx, rfl⟩ := h
    exact s_val o (sn.e g true _ x X Y k C W hx o) (fun whole => val_ok (fun x p e => h2 x p e) (fun op es p e => h1 op es p e) (fun t x y p e => h3 t x y p e) (fun x ops cs p e => h4 x ops cs p e) X.env whole)
theorem s_stepC (sn : Snd kin gt r) (o : Cok kin gt Y k C g X W) {a : Expr} {ops : List CmpOp} {cs : List Expr} {p : Pos} {i : E} (h : stepE gt r g true (.Compare a ops cs p) = some i) : PT X (.Compare a ops cs p) (tQ Y W (evT kin C (.val i))) := by
  match ops, cs, h with
  | [op], [b], h =>
    have h : (if isSet b = true then none else match eqoW gt r g op a b with
      | some i => some i
      | none => do
        let x ← (r g).e true a
        let y ← (r g).e true b
        some (E.cmp op x y)) = some i := h
    split at h
    · cases h
    · rename_i hs
      split at h
      · rename_i j hj
        cases h
        exact s_teqoW sn o hj (by simpa using hs)
      simp only [Option.bind_eq_bind, Option.bind_eq_some_iff, Option.some.injEq] at h
      obtain ⟨x, hx, y, hy, rfl⟩ := h
      exact s_tcmp o (sn.e g true _ x X Y k C W hx o) (sn.e g true _ y X Y k C W hy o) (by simpa using hs)
  | [op, op'], [b, c], h =>
    have h : (if (isSet b || isSet c) = true then none else do
      let x ← (r g).e true a
      let y ← (r g).e true b
      let z ← (r g).e true c
      some (E.chain op op' x y z)) = some i := h
    split at h
    · cases h
    · rename_i hs
      simp only [Bool.or_eq_true, not_or, Bool.not_eq_true] at hs
      simp only [Option.bind_eq_bind, Option.bind_eq_some_iff, Option.some.injEq] at h
      obtain ⟨x, hx, y, hy, z, hz, rfl⟩ := h
      exact s_tchain o (sn.e g true _ x X Y k C W hx o) (sn.e g true _ y X Y k C W hy o) (sn.e g true _ z X Y k C W hz o) hs.2
  | [], _, h => simp [stepE] at h
  | [_], [], h => simp [stepE] at h
  | [_], _ :: _ :: _, h => simp [stepE] at h
  | [_, _], [], h => simp [stepE] at h
  | [_, _], [_], h => simp [stepE] at h
  | [_, _], _ :: _ :: _ :: _, h => simp [stepE] at h
  | _ :: _ :: _ :: _, _, h => simp [stepE] at h
theorem s_stepI (sn : Snd kin gt r) (o : Cok kin gt Y k C g X W) {tg ex : Expr} {i : I} (h : stepI gt r g look ex = some i) (hp : i.pairs = true → isTupE tg = true) : PI X tg ex (tI Y W look (evI kin C i)) := by
  have seq : ∀ {ex : Expr}, ((r g).e look ex).map .seq = some i → PI X tg ex (tI Y W look (evI kin C i)) := fun {ex} h => by
    simp only [Option.map_eq_some_iff] at h
    obtain ⟨x, hx, rfl⟩ := h
    exact sI_seq o (sn.e g look ex x X Y k C W hx o)
  unfold stepI at h
  split at h
  · rename_i f p args pos
    split at h
    · rename_i hc
      rw [Bool.and_eq_true] at hc
      obtain ⟨hf, hs⟩ := hc
      split at h
      · rename_i hg
        split at h
        · rename_i a
          simp only [List.all_cons, List.all_nil, Bool.and_true, Bool.not_eq_true'] at hs
          split at h
          · rename_i hn
            have e1 := beq_iff_eq.mp hn
            subst e1
            simp only [Option.map_eq_some_iff] at h
            obtain ⟨x, hx, rfl⟩ := h
            exact sI_rng1 o (sn.e g true _ x X Y k C W hx o) hs hg
          · split at h
            · rename_i hn
              have e1 := beq_iff_eq.mp hn
              subst e1
              simp only [Option.map_eq_some_iff] at h
              obtain ⟨x, hx, rfl⟩ := h
              obtain ⟨es, kk, tp, rfl⟩ := isTup_shape (hp rfl)
              exact sI_enum o (sn.e g look _ x X Y k C W hx o) hs hg
            · exact seq h
        · rename_i a b
          simp only [List.all_cons, List.all_nil, Bool.and_true, Bool.not_eq_true', Bool.and_eq_true] at hs
          split at h
          · rename_i hn
            have e1 := beq_iff_eq.mp hn
            subst e1
            simp only [Option.bind_eq_bind, Option.bind_eq_some_iff, Option.some.injEq] at h
            obtain ⟨x, hx, y, hy, rfl⟩ := h
            exact sI_rng2 o (sn.e g true _ x X Y k C W hx o) hs.1 (sn.e g true _ y X Y k C W hy o) hs.2 hg
          · split at h
            · rename_i hn
              have e1 := beq_iff_eq.mp hn
              subst e1
              simp only [Option.bind_eq_bind, Option.bind_eq_some_iff, Option.some.injEq] at h
              obtain ⟨x, hx, y, hy, rfl⟩ := h
              obtain ⟨es, kk, tp, rfl⟩ := isTup_shape (hp rfl)
              exact sI_zip o (sn.e g look _ x X Y k C W hx o) hs.1 (sn.e g look _ y X Y k C W hy o) hs.2 hg
            · exact seq h
        · cases h
      · exact seq h
    · cases h
  · exact seq h
theorem lenoW_len {f : Str} {args : List Expr} {i : E} (h : lenoW gt r g f args = some i) : f = "len" := by
  unfold lenoW at h
  split at h
  · split at h
    · rename_i hc
      unfold lenoB at hc
      simp only [Bool.and_eq_true] at hc
      exact beq_iff_eq.mp hc.1.1.1.1.1
    · cases h
  · cases h
theorem nwE_list {f : Str} {p pos : Pos} {args : List Expr} (hx : isNwE gt g (.Call (.Name f p) args [] pos) = true) : f = "list" := by
  have hx' : isLiE gt g (.Call (.Name f p) args [] pos) = true := by simpa [isNwE, isLstE, isLcE] using hx
  match args, hx' with
  | [e0], hx' =>
    have hx' : (f == "list" && !isStarred e0 && (match g.glo gt f with
      | some .blt => true
      | _ => false)) = true := hx'
    rw [Bool.and_eq_true, Bool.and_eq_true] at hx'
    exact beq_iff_eq.mp hx'.1.1
theorem s_liW (sn : Snd kin gt r) (o : Cok kin gt Y k C g X W) {f : Str} {p pos : Pos} {args : List Expr} {i : E} (hx : isNwE gt g (.Call (.Name f p) args [] pos) = true) (h : callW gt r g f args = some i) : PE X (.Call (.Name f p) args [] pos) (tN Y W (evE kin C i)) := by
  have hx' : isLiE gt g (.Call (.Name f p) args [] pos) = true := by simpa [isNwE, isLstE, isLcE] using hx
  clear hx
  cases args with
  | nil => cases hx'
  | cons e0 rest =>
  cases rest with
  | cons _ _ => cases hx'
  | nil =>
  have hx' : (f == "list" && !isStarred e0 && (match g.glo gt f with
    | some .blt => true
    | _ => false)) = true := hx'
  rw [Bool.and_eq_true, Bool.and_eq_true, beq_iff_eq] at hx'
  obtain ⟨⟨rfl, hs⟩, hg⟩ := hx'
  have hs : isStarred e0 = false := by simpa using hs
  have hg' : g.glo gt "list" = some .blt := by
    revert hg
    split
    · rename_i hg
      exact fun _ => hg
    · exact fun z => nomatch z
  have hb : biOf "list" (arN gt g e0) = some .list := by rfl
  unfold callW at h
  rw [show thkW g "list" [e0] = none by unfold thkW; rfl] at h
  dsimp only at h
  unfold callV at h
  rw [hg'] at h
  split at h
  · have hl : lsetA "list" e0 = none := by rfl
    simp only [hl, hb, Option.bind_eq_bind, Option.bind_some, Option.bind_eq_some_iff] at h
    obtain ⟨es, he, h⟩ := h
    split at h
    · exact nomatch h
    · have he' : (do
        let a ← (r g).e true e0
        let b ← esW ((r g).e true) ((r g).e true) []
        some (Es.cons a b)) = some es := by
        rw [← esW_cons hs]; exact he
      simp only [esW, Option.bind_eq_bind, Option.bind_eq_some_iff, Option.some.injEq] at he'
      obtain ⟨y, hy, _, rfl, rfl⟩ := he'
      cases h
      exact s_liN sn o hs hg' hy
  · exact nomatch h
theorem s_stepN (sn : Snd kin gt r) (o : Cok kin gt Y k C g X W) {ex : Expr} {i : E} (hx : isNwE gt g ex = true) (h : stepE gt r g false ex = some i) : PE X ex (tN Y W (evE kin C i)) := by
  unfold stepE at h
  split at h <;> try (simp [isNwE, isLstE, isLcE, isLiE] at hx; done)
  · simp only [Option.map_eq_some_iff] at h
    obtain ⟨es, he, rfl⟩ := h
    exact s_lstN (s_es sn o _ es he)
  · (split at h
     · rename_i j hj
       exact absurd ((lenoW_len hj).symm.trans (nwE_list hx)) (by decide)
     · rename_i hj
       exact s_liW sn o hx h)
  · exact s_lcW sn o h
  · exact s_lc2W sn o h
  · cases h
theorem s_stepL (sn : Snd kin gt r) (o : Cok kin gt Y k C g X W) {elt : Expr} {gs : List Comprehension} {scope : Scope} {p pos px : Pos} {x : Str} {j : Nat} {i : E} (h : stepE gt r g false (.ListComp elt gs scope p) = some i) (hN : X.N[j]? = some x) (hl : X.env.scope.names.lookup x = some .local)
    (hs : swapsWith (.ListComp elt gs scope p) (some (.Name x px)) pos.line X.env = pure true) : PS X (.Assign [.Name x px] (.ListComp elt gs scope p) pos) (tAsg (tN Y W (evE kin C i)) (gName j)) := by
  unfold stepE at h
  split at h <;> rename_i he <;> try (cases he; done)
  · cases he
    exact s_setLc sn o h hN hl hs
  · cases he
    exact s_setLc2 sn o h hN hl hs
  · cases h
/-- a + b: lists give a new one -/
def rBN (Y : Tx) : R2 := fun v w H Q => ∃ G S x y d, GOk Y G H S ∧ RV Y G H v x ∧ RV Y G H w y ∧ binD .Add x y = some d ∧ ∀ G' H' u, Ext G H G' H' → GOk Y G' H' S → NV Y H G' H' u d → Q u H'
theorem or_addN {hot : Bool} (ox : XOk Y k hot X) : OpR X (binaryOp .Add) (rBN Y) := by
  intro pins s σ H v w u1 u2 Q I ru1 ru2 h
  obtain ⟨G, S, x, y, d, ok, r1, r2, e, q⟩ := h
  by_cases hl : ∃ xs ys, x = .lst xs ∧ y = .lst ys
  · obtain ⟨xs, ys, rfl, rfl⟩ := hl
    have e : (if xs.length + ys.length ≤ sizeLine then some (D.lst (xs ++ ys)) else none) = some d := e
    split at e
    · rename_i hz
      cases e
      obtain ⟨a, vs, rfl, ha, rv⟩ := r1.lst
      obtain ⟨b, ws, rfl, hb, rw⟩ := r2.lst
      refine op_cat pins s σ H _ _ u1 u2 Q I ru1 ru2 ⟨a, b, vs, ws, rfl, rfl, ha, hb, by rw [rv.length, rw.length]; exact hz, fun p np => ?_⟩
      exact q G _ (.ref p) (Ext.new ok np) (ok.new np) (.inl ⟨p, _, _, rfl, rfl, np, upd_same, fun z => ok.fzT p z np, fun z => ok.muT p z np, (rv.append rw).ext (Ext.new ok np) ok⟩)
    · cases e
  · refine or_bin ox .Add pins s σ H _ _ u1 u2 Q I ru1 ru2 ⟨G, S, x, y, d, ok, r1, r2, e, fun G' H' u x' ok' r => q G' H' u x' ok' (.inr ⟨fun ds hd => hl ?_, r⟩)⟩
    subst hd
    cases x <;> cases y <;> simp only [binD] at e <;> first | (cases e; done) | exact ⟨_, _, rfl, rfl⟩ | (split at e <;> cases e)
theorem s_stepA (sn : Snd kin gt r) (o : Cok kin gt Y k C g X W) {ex : Expr} {i : E} (hx : isAddE ex = true) (h : stepE gt r g false ex = some i) : PE X ex (tNV Y W (evE kin C i)) := by
  unfold isAddE at hx
  split at hx
  · rename_i a b pos
    have h : (do
      let x ← (r g).e true a
      let y ← (r g).e true b
      some (E.bin .Add x y)) = some i := h
    simp only [Option.bind_eq_bind, Option.bind_eq_some_iff, Option.some.injEq] at h
    obtain ⟨x, hx', y, hy, rfl⟩ := h
    refine (pe_op (or_addN o.ox) (sn.e g true a x X Y k C W hx' o) (sn.e g true b y X Y k C W hy o)).imp fun σ H Q h => ?_
    obtain ⟨H0, G, ρ, S, ok, sr, w⟩ := h
    unfold evE at w
    refine ⟨H0, G, ρ, S, ok, sr, wpM_mono (wpM_bind.mp w) (fun d1 S1 w1 G1 H1 v e1 ok1 r1 => ?_) fun _ _ h => h⟩
    refine ⟨H0, G1, ρ, S1, ok1, sr.ext e1 ok, wpM_mono (wpM_bind.mp w1) (fun d2 S2 w2 G2 H2 u e2 ok2 r2 => ?_) fun x S h => h.trans e1⟩
    obtain ⟨d, hd, q⟩ := wpM_op.mp w2
    refine ⟨G2, S2, d1, d2, d, ok2, (RL.rv r1).ext e2 ok1, RL.rv r2, hd, fun G' H' w' e' ok' r' => q G' H' w' (e1.trans (e2.trans e')) ok' ?_⟩
    rcases r' with ⟨a, vs, ds, h1, h2, h3, h4⟩ | r'
    · refine .inl ⟨a, vs, ds, h1, h2, ?_, h4⟩
      cases q : H a with
      | none => rfl
      | some o => exact absurd h3 ((e1.trans e2).there a (by rw [q]; exact fun z => nomatch z))
    · exact .inr r'
  · cases hx
theorem snd_step (sn : Snd kin gt r) : Snd kin gt (stepC gt r) :=
  ⟨fun g ex i X Y k C W hx h o => s_stepA sn o hx h, fun g look ex i X Y k C W h o => s_stepE sn o h, fun g ex i X Y k C W h o => s_stepQ sn o h, fun g look tg ex i X Y k C W h o hp => s_stepI sn o h hp, fun g a ops cs p i X Y k C W h o => s_stepC sn o h,
    fun g ex i X Y k C W hx h o => s_stepN sn o hx h, fun g elt gs scope p pos px x j i X Y k C W h o hN hl hs => s_stepL sn o h hN hl hs⟩
theorem snd_zero : Snd kin gt (fun _ => ⟨fun _ _ => none, fun _ => none, fun _ _ => none⟩) where
  a := by intro g ex i X Y k C W hx h; exact nomatch h
  e := by intro g look ex i X Y k C W h; exact nomatch h
  q := by intro g ex i X Y k C W h; exact nomatch h
  i := by intro g look tg ex i X Y k C W h; exact nomatch h
  c := by intro g a ops cs p i X Y k C W h; exact nomatch h
  n := by intro g ex i X Y k C W hx h; exact nomatch h
  l := by intro g elt gs scope p pos px x j i X Y k C W h; exact nomatch h
theorem snd_cp (kin : Kin) (gt : Gt) : ∀ n, Snd kin gt (cp gt n)
  | 0 => snd_zero
  | n + 1 => snd_step (snd_cp kin gt n)
end
end RM
end
section
set_option Elab.async false
set_option linter.all false
set_option maxRecDepth 100000
set_option autoImplicit false
/-! statements: the language, its evaluator -/
namespace RM
open PySem PySem.Spec PyProof.Rows L2

inductive Out where
  | nx (ρ : Fe) | brk (ρ : Fe) | cont (ρ : Fe) | ret (d : D) | exc (x : D) (ρ : Fe)

mutual
inductive S1 where
  | fz (is : List Nat) (s : S1)
  | asg (p : List Nat) (e : E)
  | own (i : Nat) (e : E)
  | par (is : List Nat) (es : Es)
  | app (i : Nat) (e : E)
  | ifo (i : Nat) (q : Q) (a b : E)
  | owd (i : Nat) (e : E)
  | brw (is : List Nat) (p : List Nat) (e : E)
  | paro (is : List Nat) (nw : List Bool) (es : Es)
  | fst (i : Nat) (f : Str) (e : E)
  | ex (e : E)
  | ret (e : E) | retn | pass | brk | cont
  | iff (q : Q) (a b : Ss)
  | frl (p : List Nat) (it : I) (b : Ss)
  | whl (q : Q) (b : Ss)
  | rse (c : Str) (e : E)
  | tr (b : Ss) (h : Hs)
inductive Ss where
  | nil | cons (s : S1) (r : Ss)
inductive Hs where
  | nil | cons (c : Str) (i : Option Nat) (b : Ss) (r : Hs)
end

/-- what is raised is a value, too -/
def T.att {α : Type} : T α → T (Except D α)
  | .ret a S => .ret (.ok a) S
  | .raise x S => .ret (.error x) S
  | .fail => .fail
  | .draw n k => .draw n fun i => (k i).att
def M.att {α : Type} (m : M α) : M (Except D α) := fun S => (m S).att
theorem T.wp_att {α : Type} {Q : Except D α → Sto → Prop} {R : D → Sto → Prop} : ∀ {t : T α}, t.att.wp Q R ↔ t.wp (fun a S => Q (.ok a) S) (fun x S => Q (.error x) S)
  | .ret a S => Iff.rfl
  | .raise x S => Iff.rfl
  | .fail => Iff.rfl
  | .draw n k => by
    unfold T.att T.wp
    exact forall_congr' fun i => forall_congr' fun _ => T.wp_att
theorem wpM_att {α : Type} {m : M α} {S : Sto} {Q : Except D α → Sto → Prop} {R : D → Sto → Prop} : wpM (M.att m) S Q R ↔ wpM m S (fun a S => Q (.ok a) S) (fun x S => Q (.error x) S) := T.wp_att
/-- an expression within a statement -/
def exO {α : Type} (m : M α) (ρ : Fe) (k : α → M Out) : M Out := do
  match ← M.att m with
  | .ok a => k a
  | .error x => pure (.exc x ρ)

def frzE (is : List Nat) (ρ : Fe) : Fe := is.foldl (fun (ρ : Fe) (i : Nat) => match ρ[i]? with
  | some (.own xs) => ρ.set i (.val (.lst xs))
  | _ => ρ) ρ
mutual
/-- no list within -/
def D.noLst : D → Bool
  | .lst _ => false
  | .tup xs => D.noLsts xs
  | .ins _ fs => D.noLstf fs
  | .exc _ fs => D.noLstf fs
  | .dct kvs => D.noLstk kvs
  | _ => true
def D.noLsts : List D → Bool
  | [] => true
  | d :: ds => d.noLst && D.noLsts ds
def D.noLstf : List (Str × D) → Bool
  | [] => true
  | p :: ds => p.2.noLst && D.noLstf ds
def D.noLstk : List (D × D) → Bool
  | [] => true
  | p :: ds => p.2.noLst && D.noLstk ds
end
/-- a list is one's own -/
def owdF (i : Nat) (d : D) (ρ : Fe) : Fe := match d with
  | .lst xs => ρ.set i (.own xs)
  | d => setS ρ i d
/-- values, new lists among them, into slots -/
def paroF : List Nat → List Bool → List D → Fe → Option Fe
  | [], [], [], ρ => some ρ
  | i :: is, b :: bs, d :: ds, ρ => if b then (match d with
    | .lst xs => paroF is bs ds (ρ.set i (.own xs))
    | _ => none) else paroF is bs ds (setS ρ i d)
  | _, _, _, _ => none
/-- the turns of a for loop -/
def forM (f : D → Fe → M Out) : List D → Fe → M Out
  | [], ρ => pure (.nx ρ)
  | x :: xs, ρ => do
    match ← f x ρ with
    | .nx ρ1 => forM f xs ρ1
    | .cont ρ1 => forM f xs ρ1
    | .brk ρ1 => pure (.nx ρ1)
    | o => pure o
/-- the turns of a while loop -/
def whlM (t : Fe → M Bool) (f : Fe → M Out) : Nat → Fe → M Out
  | 0, _ => M.fail
  | n + 1, ρ => exO (t ρ) ρ fun b => if b then do
      match ← f ρ with
      | .nx ρ1 => whlM t f n ρ1
      | .cont ρ1 => whlM t f n ρ1
      | .brk ρ1 => pure (.nx ρ1)
      | o => pure o
    else pure (.nx ρ)
def Slot.isNew : Slot → Bool
  | .new .. => true
  | _ => false
/-- self.f = d, the field being new -/
def fstF (fld : Str → List Str) (i : Nat) (f : Str) (d : D) (ρ : Fe) : Option Fe := match ρ[i]? with
  | some (.new c fs) => if (fld c).contains f && !(fs.map (·.1)).contains f && decide (fs.length < 100) && (ρ.set i .emp).all (fun s => !s.isNew) then some (ρ.set i (.new c (fs ++ [(f, d)]))) else none
  | _ => none
def whlMost : Nat := 1000000
def D.xcls : D → Option Str
  | .exc c _ => some c
  | _ => none
/-- behind a suite whose name goes -/
def Slot.noEx : Slot → Slot
  | .exn _ => .emp
  | s => s
def goneF (i : Option Nat) (ρ : Fe) : Fe := match i with
  | none => ρ.map Slot.noEx
  | some i => (ρ.map Slot.noEx).set i .emp
def exnF (i : Option Nat) (x : D) (ρ : Fe) : Fe := match i with
  | none => ρ
  | some i => ρ.set i (.exn x)
def Out.gone (i : Option Nat) : Out → Out
  | .nx ρ => .nx (goneF i ρ)
  | .brk ρ => .brk (goneF i ρ)
  | .cont ρ => .cont (goneF i ρ)
  | .ret d => .ret d
  | .exc x ρ => .exc x ρ

section
variable (kin : Kin) (C : Orc)
mutual
def evS : S1 → Fe → M Out
  | .fz is s, ρ => evS s (frzE is ρ)
  | .asg p e, ρ => exO (evE kin C e ρ) ρ fun d => do
    let ρ' ← M.op (asgP p d ρ)
    pure (.nx ρ')
  | .own i e, ρ => exO (evE kin C e ρ) ρ fun d => match d with
    | .lst xs => pure (.nx (ρ.set i (.own xs)))
    | _ => M.fail
  | .par is es, ρ => exO (evEs kin C es ρ) ρ fun ds => if ds.length = is.length then pure (.nx ((is.zip ds).foldl (fun ρ q => setS ρ q.1 q.2) ρ)) else M.fail
  | .app i e, ρ => match ρ[i]? with
    | some (.own xs) => exO (evE kin C e ρ) ρ fun d => do
      small (xs.length + 1)
      pure (.nx (ρ.set i (.own (xs ++ [d]))))
    | _ => M.fail
  | .ifo i q a b, ρ => exO (evT kin C q ρ) ρ fun c => if c then exO (evE kin C a ρ) ρ fun d => (match d with
      | .lst xs => pure (.nx (ρ.set i (.own xs)))
      | _ => M.fail) else exO (evE kin C b ρ) ρ fun d => pure (.nx (setS ρ i d))
  | .owd i e, ρ => exO (evE kin C e ρ) ρ fun d => pure (.nx (owdF i d ρ))
  | .brw is p e, ρ => exO (evE kin C e (frzE is ρ)) (frzE is ρ) fun d => do
    let ρ' ← M.op (asgP p d (if d.noLst then ρ else frzE is ρ))
    pure (.nx ρ')
  | .paro is nw es, ρ => exO (evEs kin C es ρ) ρ fun ds => do
    let ρ' ← M.op (paroF is nw ds ρ)
    pure (.nx ρ')
  | .fst i f e, ρ => exO (evE kin C e ρ) ρ fun d => do
    let ρ' ← M.op (fstF kin.fld i f d ρ)
    pure (.nx ρ')
  | .ex e, ρ => exO (evE kin C e ρ) ρ fun _ => pure (.nx ρ)
  | .ret e, ρ => exO (evE kin C e ρ) ρ fun d => pure (.ret d)
  | .retn, _ => pure (.ret .non)
  | .pass, ρ => pure (.nx ρ)
  | .brk, ρ => pure (.brk ρ)
  | .cont, ρ => pure (.cont ρ)
  | .iff q a b, ρ => exO (evT kin C q ρ) ρ fun c => if c then evSs a ρ else evSs b ρ
  | .frl p it b, ρ => exO (evI kin C it ρ) ρ fun xs => forM (fun x ρ => do
      let ρ1 ← M.op (asgP p x ρ)
      evSs b ρ1) xs ρ
  | .whl q b, ρ => whlM (fun ρ => evT kin C q ρ) (fun ρ => evSs b ρ) whlMost ρ
  | .rse c e, ρ => exO (evE kin C e ρ) ρ fun d => match kin.ini c with
    | some f => pure (.exc (.exc c [(f, d)]) ρ)
    | none => M.fail
  | .tr b h, ρ => do
    match ← evSs b ρ with
    | .exc x ρ' => evHs h x ρ'
    | o => pure o
def evSs : Ss → Fe → M Out
  | .nil, ρ => pure (.nx ρ)
  | .cons s r, ρ => do
    match ← evS s ρ with
    | .nx ρ' => evSs r ρ'
    | o => pure o
/-- the clauses, one after the other -/
def evHs : Hs → D → Fe → M Out
  | .nil, x, ρ => pure (.exc x ρ)
  | .cons c i b r, x, ρ => match x.xcls with
    | some c0 => if kin.isX c0 && kin.isX c then
        if (kin.par c0).contains c then do
          let o ← evSs b (exnF i x ρ)
          match o with
          | .exc _ _ => M.fail
          | o => pure (o.gone i)
        else evHs r x ρ
      else M.fail
    | none => M.fail
end
/-- a def: its body, from its arguments -/
def runF (n : Nat) (body : Ss) (ds : List D) : M D := do
  match ← M.quiet (evSs kin C body (ds.map Slot.val ++ List.replicate n .emp)) with
  | .nx _ => pure .non
  | .ret d => pure d
  | .exc x _ => M.raise x
  | _ => M.fail
end
end RM
end
section
set_option Elab.async false
set_option linter.all false
set_option maxRecDepth 100000
set_option autoImplicit false
/-! statements: the relation, the rules -/
namespace RM
open PySem PySem.Spec PyProof.Rows L2

/-- what is wanted of an end -/
def OutQ (Y : Tx) (H0 : Hp) (B : Gh → Hp → Prop) (D : Ends) (W : WX) : Out → Sto → Prop
  | .nx ρ, S => ∀ G H σ, B G H → GOk Y G H S → SR Y H0 G H σ ρ → D.nx σ H
  | .brk ρ, S => ∀ G H σ, B G H → GOk Y G H S → SR Y H0 G H σ ρ → D.bk σ H
  | .cont ρ, S => ∀ G H σ, B G H → GOk Y G H S → SR Y H0 G H σ ρ → D.ct σ H
  | .ret d, S => ∀ G H v, B G H → GOk Y G H S → RD Y G H v d → D.rt v H
  | .exc x ρ, S => ∀ G H cls dx σ, B G H → GOk Y G H S → RX Y G H cls dx x → SR Y H0 G H σ ρ → W cls dx σ H
abbrev RN : D → Sto → Prop := fun _ _ => False
/-- what is kept of an earlier heap, whatever a statement does -/
structure Bs (Y : Tx) (H0 : Hp) (B : Gh → Hp → Prop) : Prop where
  ext : ∀ {G H G' H' S}, B G H → GOk Y G H S → Ext G H G' H' → B G' H'
  wr : ∀ {G H a u o}, B G H → H0 a = none → H a = some u → ¬ Solid u → ¬ G.Fz a → ¬ G.Mu a → B G (upd H a o)
  fz : ∀ {G H a}, B G H → H0 a = none → B (G.fz a) H
  th : ∀ {G H a}, B G H → H0 a ≠ none → H a ≠ none
def tS (Y : Tx) (W : WX) (m : Fe → M Out) : TS := fun D σ H => ∃ H0 B G ρ S, Bs Y H0 B ∧ GOk Y G H S ∧ B G H ∧ SR Y H0 G H σ ρ ∧ wpM (m ρ) S (OutQ Y H0 B D W) RN
/-- since the entry -/
theorem Bs.entry {Y : Tx} {G0 : Gh} {H0 : Hp} : Bs Y H0 (Ext G0 H0) := ⟨fun b _ e => b.trans e, fun b n _ _ _ _ => b.grow n, fun b n => b.freeze n, fun b n => b.there _ n⟩
/-- and since a statement began -/
theorem Bs.since {Y : Tx} {G1 : Gh} {H0 H1 : Hp} {B : Gh → Hp → Prop} (b : Bs Y H0 B) : Bs Y H0 (fun G H => B G H ∧ Kp G1 H1 G H) :=
  ⟨fun x ok e => ⟨b.ext x.1 ok e, x.2.trans (e.kp ok)⟩, fun x n h ns f m => ⟨b.wr x.1 n h ns f m, x.2.trans (Kp.writeN h ns f)⟩, fun x n => ⟨b.fz x.1 n, x.2.trans Kp.freeze⟩, fun x n => b.th x.1 n⟩

section
variable {Y : Tx} {k : Nat} {C : Orc} {g : Cfg} {gt : Gt} {X : Cx} {W : WX} {kin : Kin} {look : Bool} {G : Gh} {H H0 : Hp} {B : Gh → Hp → Prop} {σ : L2.St} {ρ : Fe} {S : Sto} {D : Ends}

theorem exO_wp {α : Type} {m : M α} {k : α → M Out} {Q : Out → Sto → Prop} (h : wpM (exO m ρ k) S Q RN) : wpM m S (fun a S1 => wpM (k a) S1 Q RN) (fun x S1 => Q (.exc x ρ) S1) := wpM_att.mp (wpM_bind.mp h)
/-- an exception of an expression -/
theorem exc_re {x : RM.D} {S1 : Sto} (bs : Bs Y H0 B) (e : B G H) (ok : GOk Y G H S) (sr : SR Y H0 G H σ ρ) (q : OutQ Y H0 B D W (.exc x ρ) S1) : RE Y G H σ W x S1 := fun G' H' cls dx e' ok' rx => q G' H' cls dx σ (bs.ext e ok e') ok' rx (sr.ext e' ok)
/-- an expression within a statement -/
theorem t_exO {R : Gh → Hp → V → RM.D → Prop} {m : Fe → M RM.D} {kk : Fe → RM.D → M Out} {Q : VK} (h : tS Y W (fun ρ => exO (m ρ) ρ (kk ρ)) D σ H)
    (hQ : ∀ H0 B G1 H1 ρ S1 v d, Bs Y H0 B → B G1 H1 → GOk Y G1 H1 S1 → SR Y H0 G1 H1 σ ρ → R G1 H1 v d → wpM (kk ρ d) S1 (OutQ Y H0 B D W) RN → Q v H1) : tE Y W R m σ H Q := by
  obtain ⟨H0, B, G, ρ, S, bs, ok, e, sr, w⟩ := h
  exact ⟨H0, G, ρ, S, ok, sr, wpM_mono (exO_wp w) (fun d S1 w1 G1 H1 v e1 ok1 r1 => hQ H0 B G1 H1 ρ S1 v d bs (bs.ext e ok e1) ok1 (sr.ext e1 ok) r1 w1) fun x S1 q => exc_re bs e ok sr q⟩
theorem t_exQ {m : Fe → M Bool} {kk : Fe → Bool → M Out} {Q : Bool → Hp → Prop} (h : tS Y W (fun ρ => exO (m ρ) ρ (kk ρ)) D σ H)
    (hQ : ∀ H0 B G1 H1 ρ S1 b, Bs Y H0 B → B G1 H1 → GOk Y G1 H1 S1 → SR Y H0 G1 H1 σ ρ → wpM (kk ρ b) S1 (OutQ Y H0 B D W) RN → Q b H1) : tQ Y W m σ H Q := by
  obtain ⟨H0, B, G, ρ, S, bs, ok, e, sr, w⟩ := h
  exact ⟨H0, G, ρ, S, ok, sr, wpM_mono (exO_wp w) (fun d S1 w1 G1 H1 e1 ok1 => hQ H0 B G1 H1 ρ S1 d bs (bs.ext e ok e1) ok1 (sr.ext e1 ok) w1) fun x S1 q => exc_re bs e ok sr q⟩
theorem t_exEs {m : Fe → M (List RM.D)} {kk : Fe → List RM.D → M Out} {Q : List V → Hp → Prop} (h : tS Y W (fun ρ => exO (m ρ) ρ (kk ρ)) D σ H)
    (hQ : ∀ H0 B G1 H1 ρ S1 vs ds, Bs Y H0 B → B G1 H1 → GOk Y G1 H1 S1 → SR Y H0 G1 H1 σ ρ → RDs Y G1 H1 vs ds → wpM (kk ρ ds) S1 (OutQ Y H0 B D W) RN → Q vs H1) : tEs Y W m σ H Q := by
  obtain ⟨H0, B, G, ρ, S, bs, ok, e, sr, w⟩ := h
  exact ⟨H0, G, ρ, S, ok, sr, wpM_mono (exO_wp w) (fun d S1 w1 G1 H1 vs e1 ok1 r1 => hQ H0 B G1 H1 ρ S1 vs d bs (bs.ext e ok e1) ok1 (sr.ext e1 ok) r1 w1) fun x S1 q => exc_re bs e ok sr q⟩
theorem t_exN {m : Fe → M RM.D} {kk : Fe → RM.D → M Out} {Q : VK} (h : tS Y W (fun ρ => exO (m ρ) ρ (kk ρ)) D σ H)
    (hQ : ∀ H0 B G1 H1 ρ S1 a vs ds, Bs Y H0 B → B G1 H1 → GOk Y G1 H1 S1 → SR Y H0 G1 H1 σ ρ → (∀ (i : Nat) b, (∃ xs, ρ[i]? = some (.own xs)) → σ[i]? = some (some (.ref b)) → b ≠ a) → H0 a = none → H1 a = some (.lst vs) → ¬ G1.Fz a → ¬ G1.Mu a → RDs Y G1 H1 vs ds → wpM (kk ρ (.lst ds)) S1 (OutQ Y H0 B D W) RN → Q (.ref a) H1) : tN Y W m σ H Q := by
  obtain ⟨H0, B, G, ρ, S, bs, ok, e, sr, w⟩ := h
  refine ⟨H0, G, ρ, S, ok, sr, wpM_mono (exO_wp w) (fun d S1 w1 G1 H1 a vs ds ed e1 ok1 na ha nf nm rs => ?_) fun x S1 q => exc_re bs e ok sr q⟩
  subst ed
  refine hQ H0 B G1 H1 ρ S1 a vs ds bs (bs.ext e ok e1) ok1 (sr.ext e1 ok) (fun i b ⟨xs, ho⟩ hb z => ?_) ?_ ha nf nm rs w1
  · obtain ⟨a', vs', h1, h2, _⟩ := sr.slot i _ ho
    rw [hb] at h1
    cases h1
    rw [z, na] at h2; cases h2
  · cases hh : H0 a with
    | none => rfl
    | some u => exact absurd na (bs.th e (by rw [hh]; exact fun z => nomatch z))

/-! ### frozen on the way -/
theorem SR.frz1at (sr : SR Y H0 G H σ ρ) (i : Nat) {xs : List RM.D} (h : ρ[i]? = some (.own xs)) {a : Addr} (hs : σ[i]? = some (some (.ref a))) : SR Y H0 (G.fz a) H σ (ρ.set i (.val (.lst xs))) := by
  obtain ⟨a', vs, hs', ha, nf, nm, h0, rs⟩ := sr.slot i _ h
  rw [hs] at hs'
  cases hs'
  refine ⟨by rw [List.length_set]; exact sr.len, fun j t hj => ?_, fun j l ys zs b h1 h2 h3 h4 => ?_, fun z hz => ⟨(sr.thx z hz).1.freeze ((sr.thx z hz).2 a h0), (sr.thx z hz).2⟩⟩
  · by_cases z : i = j
    · subst z
      rw [List.getElem?_set_self (List.getElem?_eq_some_iff.mp h).1] at hj
      cases hj
      exact ⟨.ref a, hs, .lst ha (.inr rfl) (rs.mono Kp.freeze)⟩
    · rw [List.getElem?_set_ne z] at hj
      have q := sr.slot j t hj
      cases t with
      | emp => trivial
      | thk => exact q
      | val d => obtain ⟨v, h1, r⟩ := q; exact ⟨v, h1, r.mono Kp.freeze⟩
      | exn x =>
        obtain ⟨b, cls, dx, h1, c, c', C1, fs, q, fv, e1, e2, e3, e4, hq, m, r⟩ := q
        exact ⟨b, cls, dx, h1, c, c', C1, fs, q, fv, e1, e2, e3, e4, hq, m, r.mono Kp.freeze⟩
      | own ys =>
        obtain ⟨b, ws, h1, hb, f, m, h00, r⟩ := q
        refine ⟨b, ws, h1, hb, fun y => y.elim f fun y => ?_, m, h00, r.mono Kp.freeze⟩
        subst y
        exact z (sr.apart i j xs ys b h hj hs h1)
      | new c fs =>
        obtain ⟨b, C, dx, fv, h1, hc, hb, f, m, h00, r⟩ := q
        refine ⟨b, C, dx, fv, h1, hc, hb, fun y => y.elim f fun y => ?_, m, h00, r.mono Kp.freeze⟩
        rw [y, ha] at hb
        cases hb
  · have nj : ∀ {l : Nat} {zs : List RM.D}, (ρ.set i (.val (.lst xs)))[l]? = some (.own zs) → i ≠ l := fun {l zs} hz y => by
      subst y
      rw [List.getElem?_set_self (List.getElem?_eq_some_iff.mp h).1] at hz
      cases hz
    have e1 := nj h1
    have e2 := nj h2
    rw [List.getElem?_set_ne e1] at h1
    rw [List.getElem?_set_ne e2] at h2
    exact sr.apart j l ys zs b h1 h2 h3 h4
theorem SR.frz1 (bs : Bs Y H0 B) (e : B G H) (ok : GOk Y G H S) (sr : SR Y H0 G H σ ρ) (i : Nat) {xs : List RM.D} (h : ρ[i]? = some (.own xs)) : ∃ G', GOk Y G' H S ∧ B G' H ∧ SR Y H0 G' H σ (ρ.set i (.val (.lst xs))) := by
  obtain ⟨a, vs, hs, ha, nf, nm, h0, rs⟩ := sr.slot i _ h
  have ne : H a ≠ none := by rw [ha]; exact fun z => nomatch z
  exact ⟨G.fz a, ok.freeze ne nm, bs.fz e h0, sr.frz1at i h hs⟩
theorem SR.frz (bs : Bs Y H0 B) : ∀ (is : List Nat) {G : Gh} {ρ : Fe}, B G H → GOk Y G H S → SR Y H0 G H σ ρ → ∃ G', GOk Y G' H S ∧ B G' H ∧ SR Y H0 G' H σ (frzE is ρ)
  | [], G, ρ, e, ok, sr => ⟨G, ok, e, sr⟩
  | i :: is, G, ρ, e, ok, sr => by
    unfold frzE
    rw [List.foldl_cons]
    split
    · rename_i xs h
      obtain ⟨G1, ok1, e1, sr1⟩ := sr.frz1 bs e ok i h
      exact SR.frz bs is e1 ok1 sr1
    · exact SR.frz bs is e ok sr
theorem t_fz {is : List Nat} {m : Fe → M Out} (h : tS Y W (fun ρ => m (frzE is ρ)) D σ H) : tS Y W m D σ H := by
  obtain ⟨H0, B, G, ρ, S, bs, ok, e, sr, w⟩ := h
  obtain ⟨G1, ok1, e1, sr1⟩ := SR.frz bs is e ok sr
  exact ⟨H0, B, G1, frzE is ρ, S, bs, ok1, e1, sr1, w⟩
theorem PS.fz {st : Stmt} {is : List Nat} {s : S1} (h : PS X st (tS Y W (evS kin C s))) : PS X st (tS Y W (evS kin C (.fz is s))) :=
  h.imp fun D σ H h => t_fz (is := is) (by
    have e : evS kin C (.fz is s) = fun ρ => evS kin C s (frzE is ρ) := by funext ρ; conv => lhs; unfold evS
    rw [e] at h; exact h)

/-- a new list of one's own into a slot -/
theorem SR.own (ok : GOk Y G H S) (sr : SR Y H0 G H σ ρ) {i : Nat} {a : Addr} {vs : List V} {ds : List RM.D} (ap : ∀ (i : Nat) b, (∃ xs, ρ[i]? = some (.own xs)) → σ[i]? = some (some (.ref b)) → b ≠ a) (h0 : H0 a = none) (ha : H a = some (.lst vs)) (nf : ¬ G.Fz a) (nm : ¬ G.Mu a) (rs : RDs Y G H vs ds) :
    SR Y H0 G H (σ.set i (some (.ref a))) (ρ.set i (.own ds)) := by
  refine ⟨by rw [List.length_set, List.length_set]; exact sr.len, fun j t h => ?_, fun j l xs ys b h1 h2 h3 h4 => ?_, sr.thx⟩
  · by_cases z : i = j
    · subst z
      have hl : i < ρ.length := by
        have := (List.getElem?_eq_some_iff.mp h).1
        simpa using this
      rw [List.getElem?_set_self hl] at h
      cases h
      rw [List.getElem?_set_self (by rw [sr.len]; exact hl)]
      exact ⟨a, vs, rfl, ha, nf, nm, h0, rs⟩
    · rw [List.getElem?_set_ne z] at h ⊢
      exact sr.slot j t h
  · by_cases z : i = j
    · subst z
      by_cases z' : i = l
      · exact z'
      · exfalso
        rw [List.getElem?_set_ne z'] at h2 h4
        have hl : i < σ.length := by
          have := (List.getElem?_eq_some_iff.mp h3).1
          simpa using this
        rw [List.getElem?_set_self hl] at h3
        cases h3
        exact ap l a ⟨_, h2⟩ h4 rfl
    · rw [List.getElem?_set_ne z] at h1 h3
      by_cases z' : i = l
      · exfalso
        subst z'
        have hl : i < σ.length := by
          have := (List.getElem?_eq_some_iff.mp h4).1
          simpa using this
        rw [List.getElem?_set_self hl] at h4
        cases h4
        exact ap j a ⟨_, h1⟩ h3 rfl
      · rw [List.getElem?_set_ne z'] at h2 h4
        exact sr.apart j l xs ys b h1 h2 h3 h4
/-- one's own list is written -/
theorem SR.wr (ok : GOk Y G H S) (sr : SR Y H0 G H σ ρ) {i : Nat} {a : Addr} {vs ws : List V} {ds es : List RM.D} (hi : ρ[i]? = some (.own ds)) (hs : σ[i]? = some (some (.ref a))) (ha : H a = some (.lst vs)) (nf : ¬ G.Fz a) (nm : ¬ G.Mu a) (h0 : H0 a = none) (rs : RDs Y G (upd H a (.lst ws)) ws es) :
    SR Y H0 G (upd H a (.lst ws)) σ (ρ.set i (.own es)) := by
  have kp : Kp G H G (upd H a (.lst ws)) := Kp.write ha nf
  refine ⟨by rw [List.length_set]; exact sr.len, fun j t h => ?_, fun j l xs ys b h1 h2 h3 h4 => ?_, fun z hz => ⟨(sr.thx z hz).1.grow ((sr.thx z hz).2 a h0), (sr.thx z hz).2⟩⟩
  · by_cases z : i = j
    · subst z
      rw [List.getElem?_set_self (List.getElem?_eq_some_iff.mp hi).1] at h
      cases h
      exact ⟨a, ws, hs, upd_same, nf, nm, h0, rs⟩
    · rw [List.getElem?_set_ne z] at h
      have q := sr.slot j t h
      cases t with
      | emp => trivial
      | thk => exact q
      | val d => obtain ⟨v, h1, r⟩ := q; exact ⟨v, h1, r.mono kp⟩
      | exn x =>
        obtain ⟨b, cls, dx, h1, c, c', C1, fs, q, fv, e1, e2, e3, e4, hq, m, r⟩ := q
        refine ⟨b, cls, dx, h1, c, c', C1, fs, q, fv, e1, e2, e3, e4, ?_, m, r.mono kp⟩
        rw [upd_ne (ne_of hq ha (fun z => nomatch z))]; exact hq
      | own ys =>
        obtain ⟨b, zs, h1, hb, f, m, h00, r⟩ := q
        have ne : b ≠ a := fun y => z (sr.apart i j ds ys a hi h hs (y ▸ h1))
        exact ⟨b, zs, h1, by rw [upd_ne ne]; exact hb, f, m, h00, r.mono kp⟩
      | new c fs =>
        obtain ⟨b, C, dx, fv, h1, hc, hb, f, m, h00, r⟩ := q
        have ne : b ≠ a := fun y => by (rw [y, ha] at hb; cases hb)
        exact ⟨b, C, dx, fv, h1, hc, by rw [upd_ne ne]; exact hb, f, m, h00, r.mono kp⟩
  · have own : ∀ {l : Nat} {zs : List RM.D}, (ρ.set i (.own es))[l]? = some (.own zs) → ∃ zs', ρ[l]? = some (.own zs') := fun {l zs} hz => by
      by_cases y : i = l
      · subst y; exact ⟨ds, hi⟩
      · rw [List.getElem?_set_ne y] at hz; exact ⟨zs, hz⟩
    obtain ⟨xs', h1'⟩ := own h1
    obtain ⟨ys', h2'⟩ := own h2
    exact sr.apart j l xs' ys' b h1' h2' h3 h4
theorem RDf.app {G : Gh} {H : Hp} : ∀ {fv gv : List (Str × V)} {fs gs : List (Str × RM.D)}, RDf Y G H fv fs → RDf Y G H gv gs → RDf Y G H (fv ++ gv) (fs ++ gs)
  | _, _, _, _, .nil, s => s
  | _, _, _, _, .cons h r, s => .cons h (RDf.app r s)
theorem RDf.keys {G : Gh} {H : Hp} : ∀ {fv : List (Str × V)} {fs : List (Str × RM.D)}, RDf Y G H fv fs → fv.map (·.1) = fs.map (·.1)
  | _, _, .nil => rfl
  | _, _, .cons h r => by rw [List.map_cons, List.map_cons, RDf.keys r]
theorem putF_new {f : Str} {v : V} : ∀ {fv : List (Str × V)}, (fv.map (·.1)).contains f = false → putF f v fv = fv ++ [(f, v)]
  | [], _ => rfl
  | (g, x) :: r, h => by
    rw [List.map_cons, List.contains_cons, Bool.or_eq_false_iff] at h
    have ne : ¬ g = f := fun z => by
      have := beq_eq_false_iff_ne.mp h.1
      exact this z.symm
    show (if g = f then (g, v) :: r else (g, x) :: putF f v r) = _
    rw [if_neg ne, putF_new h.2]; rfl
/-- the object under construction is written -/
theorem SR.wrN (sr : SR Y H0 G H σ ρ) {i : Nat} {a C dx : Addr} {c : Str} {fv gv : List (Str × V)} {fs gs : List (Str × RM.D)} (hi : ρ[i]? = some (.new c fs)) (hs : σ[i]? = some (some (.ref a))) (hc : Y.cls c = some C ∧ Y.slf = some a) (ha : H a = some (.ins C dx fv)) (nf : ¬ G.Fz a) (nm : ¬ G.Mu a) (h0 : H0 a = none)
    (only : (ρ.set i .emp).all (fun s => !s.isNew) = true) (rs : RDf Y G (upd H a (.ins C dx gv)) gv gs) : SR Y H0 G (upd H a (.ins C dx gv)) σ (ρ.set i (.new c gs)) := by
  have kp : Kp G H G (upd H a (.ins C dx gv)) := Kp.writeN ha (fun z => z) nf
  have hl := (List.getElem?_eq_some_iff.mp hi).1
  refine ⟨by rw [List.length_set]; exact sr.len, fun j t h => ?_, fun j l xs ys b h1 h2 h3 h4 => ?_, fun z hz => ⟨(sr.thx z hz).1.grow ((sr.thx z hz).2 a h0), (sr.thx z hz).2⟩⟩
  · by_cases z : i = j
    · subst z
      rw [List.getElem?_set_self hl] at h
      cases h
      exact ⟨a, C, dx, gv, hs, hc, upd_same, nf, nm, h0, rs⟩
    · rw [List.getElem?_set_ne z] at h
      have q := sr.slot j t h
      cases t with
      | emp => trivial
      | thk => exact q
      | val d => obtain ⟨v, h1, r⟩ := q; exact ⟨v, h1, r.mono kp⟩
      | exn x =>
        obtain ⟨b, cls, dx', h1, c, c', C1, fs, q, fv, e1, e2, e3, e4, hq, m, r⟩ := q
        refine ⟨b, cls, dx', h1, c, c', C1, fs, q, fv, e1, e2, e3, e4, ?_, m, r.mono kp⟩
        rw [upd_ne (fun z => by (rw [z, ha] at hq; cases hq))]; exact hq
      | own ys =>
        obtain ⟨b, zs, h1, hb, f, m, h00, r⟩ := q
        exact ⟨b, zs, h1, by rw [upd_ne (fun z => by (rw [z, ha] at hb; cases hb))]; exact hb, f, m, h00, r.mono kp⟩
      | new c' fs' =>
        have hm : Slot.new c' fs' ∈ ρ.set i .emp := by
          refine List.mem_of_getElem? (i := j) ?_
          rw [List.getElem?_set_ne z]; exact h
        have := List.all_eq_true.mp only _ hm
        cases this
  · have own : ∀ {l : Nat} {zs : List RM.D}, (ρ.set i (.new c gs))[l]? = some (.own zs) → ρ[l]? = some (.own zs) := fun {l zs} hz => by
      by_cases y : i = l
      · subst y
        rw [List.getElem?_set_self hl] at hz
        cases hz
      · rw [List.getElem?_set_ne y] at hz; exact hz
    exact sr.apart j l xs ys b (own h1) (own h2) h3 h4
end
end RM
end
section
set_option Elab.async false
set_option linter.all false
set_option maxRecDepth 100000
set_option autoImplicit false
/-! statements: the rules -/
namespace RM
open PySem PySem.Spec PyProof.Rows L2

structure Sok (kin : Kin) (gt : Gt) (Y : Tx) (k : Nat) (C : Orc) (g : Cfg) (X : Cx) (W : WX) : Prop where
  o : Cok kin gt Y k C g X W
  po : g.hot = false → PassesOwn (model X.prog X.w) X.A X.env X.xe
  stk : X.stack = X.env :: X.outer
  frm : X.env.frame = some X.env.locals
  kd : X.env.scope.kind = .function

section
variable {Y : Tx} {k : Nat} {C : Orc} {g : Cfg} {gt : Gt} {X : Cx} {W : WX} {kin : Kin} {look : Bool} {G : Gh} {H H0 : Hp} {B : Gh → Hp → Prop} {σ : L2.St} {ρ : Fe} {S : Sto} {D : Ends} {r : Cfg → Cp}

/-! ### assignments -/
theorem evS_asg (p : List Nat) (e : E) : evS kin C (.asg p e) = fun ρ => exO (evE kin C e ρ) ρ fun d => (do
    let ρ' ← M.op (asgP p d ρ)
    pure (.nx ρ')) := by funext ρ; conv => lhs; unfold evS
theorem evS_own (i : Nat) (e : E) : evS kin C (.own i e) = fun ρ => exO (evE kin C e ρ) ρ fun d => (match d with
    | .lst xs => pure (.nx (ρ.set i (.own xs)))
    | _ => M.fail) := by funext ρ; conv => { lhs; unfold evS }; try rfl
theorem t_asg {p : List Nat} {e : E} (h : tS Y W (evS kin C (.asg p e)) D σ H) : tAsg (tE Y W (RD Y) (evE kin C e)) (tG Y p) D σ H := by
  rw [evS_asg] at h
  refine t_exO h fun H0 B G1 H1 ρ S1 v d bs e1 ok1 sr1 r1 w => ?_
  obtain ⟨ρ', hρ, q⟩ := wpM_op.mp (wpM_bind.mp w)
  exact ⟨H0, G1, ρ, S1, d, ρ', ok1, sr1, r1, hρ, fun σ' sr' _ => q G1 H1 σ' e1 ok1 sr'⟩
theorem t_asg1 {i : Nat} {e : E} (h : tS Y W (evS kin C (.asg [i] e)) D σ H) : tAsg (tE Y W (RD Y) (evE kin C e)) (gName i) D σ H := by
  rw [evS_asg] at h
  refine t_exO h fun H0 B G1 H1 ρ S1 v d bs e1 ok1 sr1 r1 w => ?_
  obtain ⟨ρ', hρ, q⟩ := wpM_op.mp (wpM_bind.mp w)
  cases hρ
  exact q G1 H1 _ e1 ok1 (sr1.set i r1)
theorem t_own {i : Nat} {e : E} (h : tS Y W (evS kin C (.own i e)) D σ H) : tAsg (tN Y W (evE kin C e)) (gName i) D σ H := by
  rw [evS_own] at h
  refine t_exN h fun H0 B G1 H1 ρ S1 a vs ds bs e1 ok1 sr1 ap h0 ha nf nm rs w => ?_
  have w : wpM (pure (Out.nx (ρ.set i (.own ds)))) S1 (OutQ Y H0 B D W) RN := w
  exact w G1 H1 _ e1 ok1 (sr1.own ok1 ap h0 ha nf nm rs)
theorem t_asgN {i : Nat} {e : E} (h : tS Y W (evS kin C (.asg [i] e)) D σ H) : tAsg (tN Y W (evE kin C e)) (gName i) D σ H := t_new (look := false) (t_asg1 h)
/-- does the value stand on the line of its name? -/
def swE (g : Cfg) (x : Str) (px : Pos) (e : Expr) : Option Bool :=
  match e with
  | .ListComp _ _ s p => some (g.sc.names.lookup x == some .local && (px.line == p.line) && !(s.names.any fun (n, k) => n == x && (k == .local || k == .cell)))
  | .SetComp .. => none
  | .DictComp .. => none
  | _ => some false
theorem swE_ok (s : Sok kin gt Y k C g X W) {x : Str} {px : Pos} {l : Nat} {e : Expr} {b : Bool} (h : swE g x px e = some b) : swapsWith e (some (.Name x px)) l X.env = pure b := by
  have hb : X.env.blockKind = .function := by unfold Env.blockKind; rw [s.kd]; rfl
  unfold swE at h
  split at h
  · cases h
    unfold swapsWith
    simp only [hb]
    have ke : X.env.kindOf x = g.sc.names.lookup x := by
      show X.env.scope.names.lookup x = _
      rw [s.o.sc]
    simp only [ke, Expr.pos]
    rfl
  · cases h
  · cases h
  · rename_i h1 h2 h3
    cases h
    unfold swapsWith
    cases e <;> first | rfl | exact absurd rfl (h1 _ _ _ _) | exact absurd rfl (h2 _ _ _ _) | exact absurd rfl (h3 _ _ _ _ _)

/-! ### several names at once -/
/-- are the stores swapped? some none: no; some (some names): yes -/
def swpC (g : Cfg) (ts vs : List Expr) : Option (Option (List Str)) :=
  if !(ts.length == 2 || ts.length == 3) || vs.length != ts.length then some none
  else if vs.any isStarred then some none
  else
    let line := (ts.head?.map (·.pos.line)).getD 0
    let names := ts.filterMap fun
      | .Name id pos => if g.sc.names.lookup id == some .local && pos.line == line then some id else none
      | _ => none
    if names.length != ts.length || names.eraseDups.length != names.length then some none
    else if vs.all (foldedForSure 8) then some none
    else if vs.all (constantsAlone 8) then none
    else some (some names)
theorem swp_ok (s : Sok kin gt Y k C g X W) {ts vs : List Expr} {k1 k2 : Nat} {p1 p2 : Pos} {b : Option (List Str)} (h : swpC g ts vs = some b) : swappedStores [.Tuple ts k1 p1] (.Tuple vs k2 p2) X.env = pure b := by
  have hb : X.env.blockKind = .function := by unfold Env.blockKind; rw [s.kd]; rfl
  have ke : ∀ x, X.env.kindOf x = g.sc.names.lookup x := fun x => by
    show X.env.scope.names.lookup x = _
    rw [s.o.sc]
  unfold swappedStores
  simp only [hb, ke]
  unfold swpC at h
  split at h
  · rename_i c
    cases h
    refine if_pos ?_
    rw [c]; rfl
  · rename_i c
    refine (if_neg ?_).trans ?_
    · intro z
      apply c
      simpa using z
    · split at h
      · rename_i c2
        cases h
        refine if_pos (Eq.trans (b := vs.any isStarred) ?_ c2)
        congr 1
      · rename_i c2
        refine (if_neg ?_).trans ?_
        · intro z
          refine c2 (Eq.trans ?_ z)
          congr 1
        · simp only at h
          split at h
          · rename_i c3
            cases h
            exact if_pos c3
          · rename_i c3
            refine (if_neg c3).trans ?_
            split at h
            · rename_i c4
              cases h
              exact if_pos c4
            · rename_i c4
              refine (if_neg c4).trans ?_
              split at h
              · cases h
              · rename_i c5
                cases h
                exact if_neg c5
theorem evS_par (is : List Nat) (es : Es) : evS kin C (.par is es) = fun ρ => exO (evEs kin C es ρ) ρ fun ds => if ds.length = is.length then pure (.nx ((is.zip ds).foldl (fun ρ q => setS ρ q.1 q.2) ρ)) else M.fail := by
  funext ρ; conv => { lhs; unfold evS }
theorem t_par2 {i j : Nat} {es : Es} (h : tS Y W (evS kin C (.par [i, j] es)) D σ H) : tPar i j (tEs Y W (evEs kin C es)) D σ H := by
  rw [evS_par] at h
  refine t_exEs h fun H0 B G1 H1 ρ S1 vs ds bs e1 ok1 sr1 rs w => ?_
  split at w
  · rename_i hl
    cases rs with
    | nil => cases hl
    | cons r rs =>
      cases rs with
      | nil => cases hl
      | cons r2 rs =>
        cases rs with
        | nil => exact ⟨_, _, rfl, w G1 H1 _ e1 ok1 ((sr1.set i r).set j r2)⟩
        | cons _ rs => simp at hl
  · exact w.elim
theorem t_par3 {i j l : Nat} {es : Es} (h : tS Y W (evS kin C (.par [i, j, l] es)) D σ H) : tPar3 i j l (tEs Y W (evEs kin C es)) D σ H := by
  rw [evS_par] at h
  refine t_exEs h fun H0 B G1 H1 ρ S1 vs ds bs e1 ok1 sr1 rs w => ?_
  split at w
  · rename_i hl
    cases rs with
    | nil => cases hl
    | cons r rs =>
      cases rs with
      | nil => cases hl
      | cons r2 rs =>
        cases rs with
        | nil => cases hl
        | cons r3 rs =>
          cases rs with
          | nil => exact ⟨_, _, _, rfl, w G1 H1 _ e1 ok1 (((sr1.set i r).set j r2).set l r3)⟩
          | cons _ rs => simp at hl
  · exact w.elim

/-! ### append -/
theorem evS_app (i : Nat) (e : E) : evS kin C (.app i e) = fun ρ => (match ρ[i]? with
    | some (.own xs) => exO (evE kin C e ρ) ρ fun d => (do
      small (xs.length + 1)
      pure (.nx (ρ.set i (.own (xs ++ [d])))))
    | _ => M.fail) := by
  funext ρ; conv => { lhs; unfold evS }; try rfl
theorem s_app1 (s : Sok kin gt Y k C g X W) {x : Str} {e : Expr} {i : Nat} {y : E} {p0 apos cpos spos : Pos} (hN : X.N[i]? = some x) (hv : Vis X.env.scope x) (n1 : (x == ("__debug__" : Str)) = false) (n2 : (x == ("__classdict__" : Str)) = false) (he : PE X e (tE Y W (RD Y) (evE kin C y))) (hs : isStarred e = false)
    (hline : (apos.endLine == cpos.line) = true) : PS X (.Expr (.Call (.Attribute (.Name x p0) "append" apos) [e] [] cpos) spos) (tS Y W (evS kin C (.app i y))) := by
  have s1 := starEach_plain (es := []) (env := X.env) hs
  refine (ps_expr (pe_bm PySem.F.plainAttrs_list PySem.F.slot_list_append PySem.F.type_list_append mt_append (pe_var hN hv n1 n2) (pa_cons he pa_nil s1) rfl (by rw [s1]; rfl) hline s1 (starEach_none (by simp [hs])))).imp fun D σ H h => ?_
  rw [evS_app] at h
  obtain ⟨H0, B, G, ρ, S, bs, ok, e0, sr, w⟩ := h
  have w : wpM (match ρ[i]? with
    | some (Slot.own xs) => exO (evE kin C y ρ) ρ fun d => (do
      small (xs.length + 1)
      pure (Out.nx (ρ.set i (Slot.own (xs ++ [d])))))
    | _ => M.fail) S (OutQ Y H0 B D W) RN := w
  cases hsl : ρ[i]? with
  | none =>
    rw [hsl] at w
    exact w.elim
  | some sl =>
    cases sl with
    | own xs =>
      rw [hsl] at w
      have w := exO_wp w
      obtain ⟨a, vs, h1, ha, nf, nm, h0, rs⟩ := sr.slot i _ hsl
      refine ⟨.ref a, h1, .inl ⟨rfl, vs, .of ha⟩, H0, G, ρ, S, ok, sr, wpM_mono w (fun d S1 w1 G1 H1 v e1 ok1 r1 => ?_) fun x S1 q => exc_re bs e0 ok sr q⟩
      obtain ⟨hz, w1⟩ := small_wp (wpM_bind.mp w1)
      have ha1 := e1.keep a _ ha nm
      have no : H a = none → False := fun z => by rw [ha] at z; cases z
      have nf1 : ¬ G1.Fz a := fun q => (e1.nfz a q).elim nf no
      have nm1 : ¬ G1.Mu a := fun q => (e1.nmu a q).elim nm no
      have sr1 := sr.ext e1 ok
      refine ⟨a, vs, v, rfl, rfl, ha1, by rw [rs.length]; omega, ?_⟩
      have kp := Kp.write (G := G1) (o := .lst (vs ++ [v])) ha1 nf1
      refine w1 G1 _ _ (bs.wr (bs.ext e0 ok e1) h0 ha1 (fun z => z) nf1 nm1) (ok1.write ha1 nf1 nm1) (sr1.wr ok1 hsl h1 ha1 nf1 nm1 h0 (((rs.ext e1 ok).append (.cons r1 .nil)).mono kp))
    | _ =>
      rw [hsl] at w
      exact w.elim

/-! ### a new field of the object under construction -/
theorem evS_fst (i : Nat) (f : Str) (e : E) : evS kin C (.fst i f e) = fun ρ => exO (evE kin C e ρ) ρ fun d => (do
    let ρ' ← M.op (fstF kin.fld i f d ρ)
    pure (.nx ρ')) := by funext ρ; conv => lhs; unfold evS
theorem fstF_some {fld : Str → List Str} {i : Nat} {f : Str} {d : RM.D} {ρ ρ' : Fe} (h : fstF fld i f d ρ = some ρ') : ∃ c fs, ρ[i]? = some (.new c fs) ∧ (fld c).contains f = true ∧ (fs.map (·.1)).contains f = false ∧ fs.length < 100 ∧ (ρ.set i .emp).all (fun s => !s.isNew) = true ∧ ρ' = ρ.set i (.new c (fs ++ [(f, d)])) := by
  unfold fstF at h
  split at h
  · rename_i c fs hi
    split at h
    · rename_i q
      cases h
      simp only [Bool.and_eq_true, Bool.not_eq_true', decide_eq_true_eq] at q
      exact ⟨c, fs, hi, q.1.1.1, q.1.1.2, q.1.2, q.2, rfl⟩
    · cases h
  · cases h
theorem s_fst (s : Sok kin gt Y k C g X W) {x f : Str} {e : Expr} {i : Nat} {y : E} {p0 p1 pos : Pos} (hN : X.N[i]? = some x) (hv : Vis X.env.scope x) (n1 : (x == ("__debug__" : Str)) = false) (n2 : (x == ("__classdict__" : Str)) = false) (he : PE X e (tE Y W (RD Y) (evE kin C y)))
    (hs : swapsWith e (some (.Attribute (.Name x p0) f p1)) pos.line X.env = pure false) : PS X (.Assign [.Attribute (.Name x p0) f p1] e pos) (tS Y W (evS kin C (.fst i f y))) := by
  refine (ps_fld (pe_var hN hv n1 n2) he hs).imp fun D σ H h => ?_
  rw [evS_fst] at h
  refine t_exO h fun H0 B G1 H1 ρ S1 v d bs e1 ok1 sr1 r1 w => ?_
  obtain ⟨ρ', hρ, q⟩ := wpM_op.mp (wpM_bind.mp w)
  obtain ⟨c, fs, hi, hf, hk, hl, only, rfl⟩ := fstF_some hρ
  obtain ⟨a, Ca, dx, fv, hsl, hc, ha, nf, nm, h0, rs⟩ := sr1.slot i _ hi
  obtain ⟨k1, k2⟩ := s.o.kok.fld c Ca f hc.1 hf
  have hK := s.o.ox.hK
  have hkv : (fv.map (·.1)).contains f = false := by rw [rs.keys]; exact hk
  have kp : Kp G1 H1 G1 (upd H1 a (.ins Ca dx (fv ++ [(f, v)]))) := Kp.writeN ha (fun z => z) nf
  have hlen : fv.length < 1000 := by
    have := congrArg List.length rs.keys
    simp only [List.length_map] at this
    omega
  refine ⟨.ref a, hsl, a, Ca, dx, fv, rfl, ha, by rw [hK]; exact k1, by rw [hK]; exact k2, hlen, ?_⟩
  rw [putF_new hkv]
  exact q G1 _ σ (bs.wr e1 h0 ha (fun z => z) nf nm) (ok1.write ha nf nm) (sr1.wrN hi hsl hc ha nf nm h0 only (RDf.app (rs.mono kp) (.cons (r1.mono kp) .nil)))

/-! ### small statements -/
theorem s_expr {e : Expr} {x : E} {pos : Pos} (he : PE X e (tE Y W (RD Y) (evE kin C x))) (hs : swapsWith e none pos.line X.env = pure false) : PS X (.Expr e pos) (tS Y W (evS kin C (.ex x))) :=
  (ps_expr he hs).imp fun D σ H h => by
    have e : evS kin C (.ex x) = fun ρ => exO (evE kin C x ρ) ρ fun _ => pure (.nx ρ) := by funext ρ; conv => { lhs; unfold evS }
    rw [e] at h
    exact t_exO h fun H0 B G1 H1 ρ S1 v d bs e1 ok1 sr1 r1 w => w G1 H1 σ e1 ok1 sr1
theorem s_ret {e : Expr} {x : E} {pos : Pos} (he : PE X e (tE Y W (RD Y) (evE kin C x))) : PS X (.Return (some e) pos) (tS Y W (evS kin C (.ret x))) :=
  (ps_ret he).imp fun D σ H h => by
    have e : evS kin C (.ret x) = fun ρ => exO (evE kin C x ρ) ρ fun d => pure (.ret d) := by funext ρ; conv => { lhs; unfold evS }
    rw [e] at h
    exact t_exO h fun H0 B G1 H1 ρ S1 v d bs e1 ok1 sr1 r1 w => w G1 H1 v e1 ok1 r1
theorem s_retn {pos : Pos} : PS X (.Return none pos) (tS Y W (evS kin C .retn)) :=
  ps_retN.imp fun D σ H ⟨H0, B, G, ρ, S, bs, ok, e, sr, w⟩ => by
    unfold evS at w
    exact w G H .non e ok .non
theorem s_pass {pos : Pos} : PS X (.Pass pos) (tS Y W (evS kin C .pass)) :=
  ps_pass.imp fun D σ H ⟨H0, B, G, ρ, S, bs, ok, e, sr, w⟩ => by
    unfold evS at w
    exact w G H σ e ok sr
theorem s_brk {pos : Pos} : PS X (.Break pos) (tS Y W (evS kin C .brk)) :=
  ps_break.imp fun D σ H ⟨H0, B, G, ρ, S, bs, ok, e, sr, w⟩ => by
    unfold evS at w
    exact w G H σ e ok sr
theorem s_cont {pos : Pos} : PS X (.Continue pos) (tS Y W (evS kin C .cont)) :=
  ps_continue.imp fun D σ H ⟨H0, B, G, ρ, S, bs, ok, e, sr, w⟩ => by
    unfold evS at w
    exact w G H σ e ok sr
theorem s_if {c : Expr} {q : Q} {a b : List Stmt} {x y : Ss} {pos : Pos} (hc : PT X c (tQ Y W (evT kin C q))) (ha : PSs X a (tS Y W (evSs kin C x))) (hb : PSs X b (tS Y W (evSs kin C y))) : PS X (.If c a b pos) (tS Y W (evS kin C (.iff q x y))) :=
  (ps_if hc ha hb).imp fun D σ H h => by
    have e : evS kin C (.iff q x y) = fun ρ => exO (evT kin C q ρ) ρ fun c => if c then evSs kin C x ρ else evSs kin C y ρ := by funext ρ; conv => { lhs; unfold evS }
    rw [e] at h
    refine t_exQ h fun H0 B G1 H1 ρ S1 c bs e1 ok1 sr1 w => ?_
    cases c with
    | true => exact ⟨H0, B, G1, ρ, S1, bs, ok1, e1, sr1, w⟩
    | false => exact ⟨H0, B, G1, ρ, S1, bs, ok1, e1, sr1, w⟩
theorem s_nil : PSs X [] (tS Y W (evSs kin C .nil)) :=
  pss_nil.imp fun D σ H ⟨H0, B, G, ρ, S, bs, ok, e, sr, w⟩ => by
    unfold evSs at w
    exact w G H σ e ok sr
theorem s_cons {st : Stmt} {rest : List Stmt} {x : S1} {y : Ss} (h1 : PS X st (tS Y W (evS kin C x))) (h2 : PSs X rest (tS Y W (evSs kin C y))) : PSs X (st :: rest) (tS Y W (evSs kin C (.cons x y))) :=
  (pss_cons h1 h2).imp fun D σ H ⟨H0, B, G, ρ, S, bs, ok, e, sr, w⟩ => by
    unfold evSs at w
    refine ⟨H0, B, G, ρ, S, bs, ok, e, sr, wpM_mono (wpM_bind.mp w) (fun o S1 w1 => ?_) fun _ _ z => z⟩
    cases o with
    | nx ρ1 => exact fun G1 H1 σ1 e1 ok1 sr1 => ⟨H0, B, G1, ρ1, S1, bs, ok1, e1, sr1, w1⟩
    | brk ρ1 => exact w1
    | cont ρ1 => exact w1
    | ret d => exact w1
    | exc x ρ1 => exact w1
end
end RM
end
section
set_option Elab.async false
set_option linter.all false
set_option maxRecDepth 100000
set_option autoImplicit false
/-! statements: loops, raise, try -/
namespace RM
open PySem PySem.Spec PyProof.Rows L2
section
variable {Y : Tx} {k : Nat} {C : Orc} {g : Cfg} {gt : Gt} {X : Cx} {W : WX} {kin : Kin} {look : Bool} {G : Gh} {H H0 : Hp} {B : Gh → Hp → Prop} {σ : L2.St} {ρ : Fe} {S : Sto} {D : Ends} {r : Cfg → Cp}

theorem t_for {p : List Nat} {it : I} {b : Ss} (h : tS Y W (evS kin C (.frl p it b)) D σ H) : tFor (tI Y W false (evI kin C it)) (tG Y p) (tS Y W (evSs kin C b)) D σ H := by
  have e : evS kin C (.frl p it b) = fun ρ => exO (evI kin C it ρ) ρ fun xs => forM (fun x ρ => (do
      let ρ1 ← M.op (asgP p x ρ)
      evSs kin C b ρ1)) xs ρ := by funext ρ; conv => { lhs; unfold evS }
  rw [e] at h
  obtain ⟨H0, B, G, ρ, S, bs, ok, b0, sr, w⟩ := h
  refine ⟨H0, G, ρ, S, ok, sr, wpM_mono (exO_wp w) (fun xs S1 w1 G1 H1 J e1 ok1 yk => ?_) fun x S1 q => exc_re bs b0 ok sr q⟩
  have bs1 : Bs Y H0 (fun G H => B G H ∧ Kp G1 H1 G H) := bs.since
  generalize hf : (fun x ρ => (do
      let ρ1 ← M.op (asgP p x ρ)
      evSs kin C b ρ1) : RM.D → Fe → M Out) = f at w1
  refine ⟨fun i m σ H => m = xs.length - i ∧ i ≤ xs.length ∧ ∃ G ρ S, GOk Y G H S ∧ (B G H ∧ Kp G1 H1 G H) ∧ SR Y H0 G H σ ρ ∧ wpM (forM f (xs.drop i) ρ) S (OutQ Y H0 B D W) RN,
    ⟨xs.length, by simp, Nat.zero_le _, G1, ρ, S1, ok1, ⟨bs.ext b0 ok e1, Kp.refl⟩, sr.ext e1 ok, w1⟩, ?_⟩
  rintro i m σ2 H2 ⟨rfl, hle, G2, ρ2, S2, ok2, b2, sr2, w2⟩
  by_cases hlt : i < xs.length
  · obtain ⟨hgo, hyl⟩ := yk.go i G2 H2 S2 hlt b2.2 ok2
    refine .inr ⟨hgo, fun σ' H' => ∃ m', m' < xs.length - i ∧ m' = xs.length - (i + 1) ∧ i + 1 ≤ xs.length ∧ ∃ G ρ S, GOk Y G H' S ∧ (B G H' ∧ Kp G1 H1 G H') ∧ SR Y H0 G H' σ' ρ ∧ wpM (forM f (xs.drop (i + 1)) ρ) S (OutQ Y H0 B D W) RN, fun σ' H' h => h, fun x H3 y => ?_⟩
    obtain ⟨d, hd, e3, ok3, r3⟩ := hyl x H3 y
    have hdrop : xs.drop i = d :: xs.drop (i + 1) := by
      rw [List.drop_eq_getElem_cons hlt]
      rw [List.getElem?_eq_getElem hlt] at hd
      rw [Option.some.inj hd]
    rw [hdrop] at w2
    unfold forM at w2
    rw [← hf] at w2
    have w2 := wpM_bind.mp (wpM_bind.mp w2)
    obtain ⟨ρ3, hρ, w3⟩ := wpM_op.mp w2
    rw [hf] at w3
    refine ⟨H0, G2, ρ2, S2, d, ρ3, ok3, sr2.ext e3 ok2, r3, hρ, fun σ3 sr3 _ => ?_⟩
    refine ⟨H0, _, G2, ρ3, S2, bs1, ok3, bs1.ext b2 ok2 e3, sr3, wpM_mono w3 (fun o S4 w4 => ?_) fun _ _ z => z⟩
    cases o with
    | nx ρ4 => exact fun G4 H4 σ4 b4 ok4 sr4 => ⟨_, by omega, rfl, hlt, G4, ρ4, S4, ok4, b4, sr4, w4⟩
    | cont ρ4 => exact fun G4 H4 σ4 b4 ok4 sr4 => ⟨_, by omega, rfl, hlt, G4, ρ4, S4, ok4, b4, sr4, w4⟩
    | brk ρ4 => exact fun G4 H4 σ4 b4 ok4 sr4 => w4 G4 H4 σ4 b4.1 ok4 sr4
    | ret d => exact fun G4 H4 v b4 ok4 r4 => w4 G4 H4 v b4.1 ok4 r4
    | exc x ρ4 => exact fun G4 H4 cls dx σ4 b4 ok4 rx sr4 => w4 G4 H4 cls dx σ4 b4.1 ok4 rx sr4
  · have hi : i = xs.length := by omega
    subst hi
    rw [List.drop_length] at w2
    exact .inl ⟨yk.stop _ G2 H2 S2 (Nat.le_refl _) b2.2 ok2, w2 G2 H2 σ2 b2.1 ok2 sr2⟩
theorem s_for (s : Sok kin gt Y k C g X W) (hh : g.hot = false) {tg iter : Expr} {body : List Stmt} {p : List Nat} {it : I} {b : Ss} {pos : Pos} (hi : PI X tg iter (tI Y W false (evI kin C it))) (hg : PG X tg (tG Y p)) (hb : PSs X body (tS Y W (evSs kin C b))) (hs : isSet iter = false) :
    PS X (.For tg iter body [] pos) (tS Y W (evS kin C (.frl p it b))) :=
  (ps_for (s.po hh) (s.o.ox.calm hh) hi hg hb (folded_plain hs _)).imp fun D σ H h => t_for h

theorem t_whl {q : Q} {b : Ss} (h : tS Y W (evS kin C (.whl q b)) D σ H) : tWhile (tQ Y W (evT kin C q)) (tS Y W (evSs kin C b)) D σ H := by
  have e : evS kin C (.whl q b) = fun ρ => whlM (fun ρ => evT kin C q ρ) (fun ρ => evSs kin C b ρ) whlMost ρ := by funext ρ; conv => { lhs; unfold evS }
  rw [e] at h
  obtain ⟨H0, B, G, ρ, S, bs, ok, b0, sr, w⟩ := h
  generalize whlMost = n at w
  refine ⟨fun m σ H => ∃ G ρ S, GOk Y G H S ∧ B G H ∧ SR Y H0 G H σ ρ ∧ wpM (whlM (fun ρ => evT kin C q ρ) (fun ρ => evSs kin C b ρ) m ρ) S (OutQ Y H0 B D W) RN, ⟨n, G, ρ, S, ok, b0, sr, w⟩, ?_⟩
  rintro m σ2 H2 ⟨G2, ρ2, S2, ok2, b2, sr2, w2⟩
  cases m with
  | zero => exact w2.elim
  | succ m =>
    unfold whlM at w2
    refine ⟨H0, G2, ρ2, S2, ok2, sr2, wpM_mono (exO_wp w2) (fun c S3 w3 G3 H3 e3 ok3 => ?_) fun x S1 q => exc_re bs b2 ok2 sr2 q⟩
    have b3 := bs.ext b2 ok2 e3
    have sr3 := sr2.ext e3 ok2
    cases c with
    | false => exact w3 G3 H3 σ2 b3 ok3 sr3
    | true =>
      simp only [if_true] at w3 ⊢
      refine ⟨fun σ' H' => ∃ m', m' < m + 1 ∧ ∃ G ρ S, GOk Y G H' S ∧ B G H' ∧ SR Y H0 G H' σ' ρ ∧ wpM (whlM (fun ρ => evT kin C q ρ) (fun ρ => evSs kin C b ρ) m' ρ) S (OutQ Y H0 B D W) RN, fun σ' H' h => h, ?_⟩
      refine ⟨H0, B, G3, ρ2, S3, bs, ok3, b3, sr3, wpM_mono (wpM_bind.mp w3) (fun o S4 w4 => ?_) fun _ _ z => z⟩
      cases o with
      | nx ρ4 => exact fun G4 H4 σ4 b4 ok4 sr4 => ⟨m, Nat.lt_succ_self _, G4, ρ4, S4, ok4, b4, sr4, w4⟩
      | cont ρ4 => exact fun G4 H4 σ4 b4 ok4 sr4 => ⟨m, Nat.lt_succ_self _, G4, ρ4, S4, ok4, b4, sr4, w4⟩
      | brk ρ4 => exact w4
      | ret d => exact w4
      | exc x ρ4 => exact w4
theorem s_whl (s : Sok kin gt Y k C g X W) (hh : g.hot = false) {c : Expr} {body : List Stmt} {q : Q} {b : Ss} {pos : Pos} (hc : PT X c (tQ Y W (evT kin C q))) (hb : PSs X body (tS Y W (evSs kin C b))) : PS X (.While c body [] pos) (tS Y W (evS kin C (.whl q b))) :=
  (ps_while (s.po hh) hc hb).imp fun D σ H h => t_whl h

/-! ### raise -/
/-- C(v) for a class of exceptions: its own dict holds f -/
def tMkx (Cx : Addr) (f : Str) (te : TE) : L2.St → Hp → XK → Prop := fun σ H Q => te σ H fun v H1 => ∀ p, H1 p = none → Q (.ref Cx) (some p) (upd H1 p (.xd [(f, v)]))
/-- the classes of exceptions may be made -/
def MkOk (kin : Kin) (gt : Gt) (Y : Tx) (X : Cx) : Prop := ∀ (x c f : Str) (Ca : Addr) (e : Expr) (te : TE) (p p2 : Pos), gt.lookup x = some (.cls c) → kin.ini c = some f → Y.cls c = some Ca → Gl X x → X.mg x = some (.ref Ca) → okName x = true → isStarred e = false → PE X e te →
  PMk X (.Call (.Name x p) [e] [] p2) (tMkx Ca f te)
theorem t_rse {c : Str} {e : E} {f : Str} {Ca : Addr} (hf : kin.ini c = some f) (hc : Y.cls c = some Ca) (h : tS Y W (evS kin C (.rse c e)) D σ H) : tMkx Ca f (tE Y W (RD Y) (evE kin C e)) σ H fun cls d H' => W cls d σ H' := by
  have eq : evS kin C (.rse c e) = fun ρ => exO (evE kin C e ρ) ρ fun d => (match kin.ini c with
    | some f => pure (.exc (.exc c [(f, d)]) ρ)
    | none => M.fail) := by funext ρ; conv => { lhs; unfold evS }; try rfl
  rw [eq] at h
  refine t_exO h fun H0 B G1 H1 ρ S1 v d bs b1 ok1 sr1 r1 w p np => ?_
  rw [hf] at w
  have w : OutQ Y H0 B D W (.exc (.exc c [(f, d)]) ρ) S1 := w
  have e1 : Ext G1 H1 G1 (upd H1 p (.xd [(f, v)])) := Ext.new ok1 np
  exact w G1 _ (.ref Ca) (some p) σ (bs.ext b1 ok1 e1) (ok1.new np) ⟨c, Ca, _, p, _, rfl, hc, rfl, rfl, upd_same, fun z => ok1.muT p z np, .cons (r1.ext e1 ok1) .nil⟩ (sr1.ext e1 ok1)
theorem s_rse (s : Sok kin gt Y k C g X W) (mk : MkOk kin gt Y X) (hh : g.hot = false) {x c f : Str} {e : Expr} {y : E} {p p2 pos : Pos} (hg : g.glo gt x = some (.cls c)) (hf : kin.ini c = some f) (hx : okName x = true) (hs : isStarred e = false) (he : PE X e (tE Y W (RD Y) (evE kin C y))) :
    PS X (.Raise (some (.Call (.Name x p) [e] [] p2)) none pos) (tS Y W (evS kin C (.rse c y))) := by
  obtain ⟨hgl, Ca, hm, hc⟩ := glo_ok s.o hg
  have hl : gt.lookup x = some (.cls c) := by
    unfold Cfg.glo at hg
    split at hg
    · exact hg
    · cases hg
  exact (ps_raise (s.o.ox.calm hh) s.o.tk (mk x c f Ca e _ p p2 hl hf hc hgl hm hx hs he)).imp fun D σ H h => t_rse hf hc h
end
end RM
end
section
set_option Elab.async false
set_option linter.all false
set_option maxRecDepth 100000
set_option autoImplicit false
/-! try: any clauses, each with a name or without -/
namespace RM
open PySem PySem.Spec PyProof.Rows L2

/-- a clause: its class, its name's slot, what its suite does -/
structure Cl where
  c : Value
  nm : Option Nat
  ts : Addr → Value → Option Addr → TS
def goneD (D : Ends) : Option Nat → Ends
  | none => D
  | some i => { nx := fun σ H => D.nx (σ.set i none) H, rt := D.rt, bk := fun σ H => D.bk (σ.set i none) H, ct := fun σ H => D.ct (σ.set i none) H }
def nameS (σ : L2.St) (a : Addr) : Option Nat → L2.St
  | none => σ
  | some i => σ.set i (some (.ref a))
/-- what the clauses wish of an exception -/
def wCl (K : PySem.W.Frag) (Wout : WX) (D : Ends) : List Cl → WX
  | [] => Wout
  | q :: r => fun cls d σ H => ∃ b, PySem.W.exmOne K cls q.c = some b ∧ (b = true → ∀ a, H a = none → q.ts a cls d (goneD D q.nm) (nameS σ a q.nm) H) ∧ (b = false → wCl K Wout D r cls d σ H)
/-- a clause's name and its slot -/
def NmOk (X : Cx) : Option Str → Option Nat → Prop
  | none, none => True
  | some n, some i => X.N[i]? = some n ∧ X.env.kindOf n = some .local
  | _, _ => False
inductive ClOk (X : Cx) : List ExceptHandler → List Cl → Prop
  | nil : ClOk X [] []
  | cons {x : Str} {nm : Option Str} {q : Cl} {b₀ : Stmt} {suite : List Stmt} {np pos : Pos} {hs : List ExceptHandler} {l : List Cl} (hc : Names X x q.c) (hn : NmOk X nm q.nm)
      (hsu : ∀ (a : Addr) (oe : Obj) (cls : Value) (d : Option Addr) (pn : List (Addr × Obj)), Zc cls d oe → (∃ vs, oe.data = .fields vs) → PSs (X.suite a ((a, oe) :: pn)) (b₀ :: suite) (q.ts a cls d)) (r : ClOk X hs l) :
      ClOk X (.ExceptHandler (some (.Name x np)) nm (b₀ :: suite) pos :: hs) (q :: l)

/-- an exception stands ahead of the clauses -/
structure Hand (X : Cx) (pins : List (Addr × Obj)) (a : Addr) (cls : Value) (d : Option Addr) (σ : L2.St) (H : Hp) (B : Heap) (sI s : Shared) : Prop where
  inv : Inv X pins σ H sI
  nb : ∀ b o, sI.heap.get? b = some o → b ∉ frs X.stack → B.get? b = some o
  up : sI.heap.UpToSlots s.heap
  fly : HandSPX.FlyingZ B (X.env :: X.outer) a (Zc cls d) s.heap
  na : H a = none
  os : s.os = sI.os
  ag : AllBare s.gens

section
variable {X : Cx} {pins : List (Addr × Obj)} {a : Addr} {cls : Value} {d : Option Addr} {σ : L2.St} {H : Hp} {B : Heap} {sI s : Shared}
theorem Hand.now (h : Hand X pins a cls d σ H B sI s) : Inv X pins σ H s := h.inv.landed h.nb h.fly.1 h.up h.os h.ag
theorem Hand.obj (h : Hand X pins a cls d σ H B sI s) (hf : X.env.frame = some X.env.locals) : ∃ oe vs, s.heap.get? a = some oe ∧ Zc cls d oe ∧ oe.data = .fields vs ∧ a ≠ X.env.locals ∧ a ∉ X.fs := by
  obtain ⟨oe, vs, he, hz, hd⟩ := h.fly.there
  have no : a ∉ frs (X.env :: X.outer) := fun hm => by
    obtain ⟨_, o', e', hnf⟩ := h.fly.2.2.1.mem hm
    rw [he] at e'; cases e'
    exact hnf _ hd
  refine ⟨oe, vs, he, hz, hd, fun z => no (List.mem_filterMap.mpr ⟨X.env, List.mem_cons_self, by rw [hf, z]⟩), fun hm => ?_⟩
  obtain ⟨e, hq, q⟩ := List.mem_filterMap.mp hm
  exact no (List.mem_filterMap.mpr ⟨e, List.mem_cons_of_mem _ hq, q⟩)
/-- its flight is set anew: still ahead of the clauses -/
theorem Hand.again {Q : Unit → Shared → Prop} {A : Around} {E : Value → Shared → Prop} {M : Model} (h : Hand X pins a cls d σ H B sI s) (hQ : ∀ h', Hand X pins a cls d σ H B sI { s with heap := h' } → Q () { s with heap := h' }) : wpAny M A (setFlight (.ref a) none) Q E s :=
  HandSPX.lands_againZ h.fly fun h' fl up => hQ h' ⟨h.inv, h.nb, h.up.trans up, fl, h.na, h.os, h.ag⟩
/-- no clause takes it -/
theorem Hand.pass {D : Ends} {Wout : WX} {pl : String} (h : Hand X pins a cls d σ H B sI s) (hs : X.stack = X.env :: X.outer) (hf : X.env.frame = some X.env.locals) (tk : Takes X Wout) (w : Wout cls d σ H) :
    wpAny (model X.prog X.w) X.A (handleBy (.ref a) X.env []) (SP X pins D) X.xe s := by
  refine wpAny_handleBy_nil ?_
  obtain ⟨k1, k2, k3, oe, vs, T, oT, ts', he, hz, hd, h1, hr⟩ := id h.fly
  unfold PySem.passOn
  refine wpAny_bind (wpAny_field he hd h1 ?_)
  rw [if_neg (show ¬ ((Value.ref T == Value.none) = true) from by simp)]
  have fin : wpAny (model X.prog X.w) X.A (setFlight (.ref a) X.env.frame) (fun _ s4 => wpAny (model X.prog X.w) X.A (throw (.ref a) : Sem Flow) (SP X pins D) X.xe s4) X.xe s := by
    rw [hf]
    refine HandSPX.setFlight_upZ h.fly fun h4 hh4 up4 => wpAny_throw (tk _ _ ?_)
    exact ⟨a, B, sI, pins, σ, H, cls, d, rfl, h.inv, h.nb, h.up.trans up4, .inr (.inr (by rw [hs]; exact hh4)), h.na, h.os, h.ag, w⟩
  first
    | exact wpAny_bind (wpAny_pure (wpAny_bind fin))
    | exact wpAny_bind fin
/-- what a suite leaves, behind it -/
theorem suite_end {oe : Obj} {D : Ends} {f : Flow} {s6 : Shared} (ok : X.Ok) (h : SP (X.suite a ((a, oe) :: (X.pn ++ pins))) [] D f s6) : SP X pins D f s6 := by
  cases f with
  | ret u => obtain ⟨v, σ6, H6, S6, r6, q6⟩ := h; exact ⟨v, σ6, H6, S6.unsuite ok, r6, q6⟩
  | next => obtain ⟨σ6, H6, S6, q6⟩ := h; exact ⟨σ6, H6, S6.unsuite ok, q6⟩
  | brk => obtain ⟨σ6, H6, S6, q6⟩ := h; exact ⟨σ6, H6, S6.unsuite ok, q6⟩
  | cont => obtain ⟨σ6, H6, S6, q6⟩ := h; exact ⟨σ6, H6, S6.unsuite ok, q6⟩
theorem gone_end {i : Nat} {n : Str} {D : Ends} {f : Flow} {s6 : Shared} {pos : Pos} {M : Model} {A : Around} {E : Value → Shared → Prop} (hN : X.N.Nodup) (hi : X.N[i]? = some n) (hl : X.env.kindOf n = some .local) (h : SP X pins (goneD D (some i)) f s6) :
    wpAny M A (do bindName X.env n .none; unbindBehindTheSuite X.env n pos) (fun _ s7 => SP X pins D f s7) E s6 := by
  cases f with
  | ret u => obtain ⟨v, σ6, H6, S6, r6, q6⟩ := h; exact gone_ok S6 hN hi hl fun s7 J => ⟨v, _, H6, J, r6, q6⟩
  | next => obtain ⟨σ6, H6, S6, q6⟩ := h; exact gone_ok S6 hN hi hl fun s7 J => ⟨_, H6, J, q6⟩
  | brk => obtain ⟨σ6, H6, S6, q6⟩ := h; exact gone_ok S6 hN hi hl fun s7 J => ⟨_, H6, J, q6⟩
  | cont => obtain ⟨σ6, H6, S6, q6⟩ := h; exact gone_ok S6 hN hi hl fun s7 J => ⟨_, H6, J, q6⟩
/-- the clauses from the left -/
theorem Hand.go {D : Ends} {Wout : WX} (hs : X.stack = X.env :: X.outer) (hf : X.env.frame = some X.env.locals) (hN : X.N.Nodup) (tk : Takes X Wout) : ∀ {hds : List ExceptHandler} {l : List Cl} {s : Shared}, ClOk X hds l → Hand X pins a cls d σ H B sI s → wCl X.K Wout D l cls d σ H →
    wpAny (model X.prog X.w) X.A (handleBy (.ref a) X.env hds) (SP X pins D) X.xe s := by
  intro hds l s hk
  induction hk generalizing s with
  | nil => exact fun h w => h.pass (pl := "") hs hf tk w
  | @cons x nm q b₀ suite np pos hds2 l2 hc hn hsu r ih =>
    intro h ⟨b, hb, hyes, hno⟩
    obtain ⟨oe, vs, he, hz, hd, nL, nF⟩ := h.obj hf
    have S3 := h.now.suite he hd h.na nL nF
    have LT : PySem.W.Looks (model X.prog X.w) s.heap (typeOf (.ref a)) cls := fun A Q E s k q => wpAny_typeOf_ref (k _ _ he) (by rw [hz.1]; exact q)
    have LM := PySem.W.exm_one (M := model X.prog X.w) h.now.kIn LT hb
    have look : ∀ {Q : Value → Shared → Prop} {E : Value → Shared → Prop}, Q q.c s → wpAny (model X.prog X.w) (X.A.mark (some (.ref a))) (eval (.Name x np) X.env) Q E s := fun {Q E} qq => by
      obtain ⟨hg, hdbg, hm | ⟨hm, hv, hnn⟩⟩ := hc
      · exact ld_glob (X := X.suite a ((a, oe) :: (X.pn ++ pins))) S3 hg hm qq hdbg
      · exact ld_blt (X := X.suite a ((a, oe) :: (X.pn ++ pins))) S3 hg hm hv qq hnn hdbg
    refine wpAny_handleBy_cons (codeAny_handlers_test (look (LM.here ?_))) (by intro z; cases z)
    cases b with
    | false => exact ih h (hno rfl)
    | true =>
      have run := hyes rfl a h.na
      obtain ⟨c, qn, ts⟩ := q
      cases nm with
      | none =>
        cases qn with
        | some i => exact hn.elim
        | none =>
          refine codeAny_handlers_suite (h.again fun h' g => ?_)
          obtain ⟨oe', vs', he', hz', hd', nL', nF'⟩ := g.obj hf
          exact wpAny_mono ((hsu a oe' cls d (X.pn ++ pins) hz' ⟨_, hd'⟩).run [] _ _ H _ (g.now.suite he' hd' g.na nL' nF') run) (fun f s6 hsp => suite_end g.inv.ok hsp) (fun _ _ z => False.elim z)
      | some n =>
        cases qn with
        | none => exact hn.elim
        | some i =>
          obtain ⟨hi, hl⟩ := hn
          refine codeAny_handlers_suite_as (h.again fun h' g => ?_)
          obtain ⟨oe', vs', he', hz', hd', nL', nF'⟩ := g.obj hf
          refine store_ok (X := X.suite a ((a, oe') :: (X.pn ++ pins))) (v := .ref a) (g.now.suite he' hd' g.na nL' nF') hN hi (.inl hl) rfl (fun s5 S5 => ?_) (.inr hl)
          exact wpAny_mono ((hsu a oe' cls d (X.pn ++ pins) hz' ⟨_, hd'⟩).run [] s5 _ H _ S5 run) (fun f s6 hsp => gone_end hN hi hl (suite_end g.inv.ok hsp)) (fun _ _ z => False.elim z)
end
/-- try: body, except ..: suites -/
theorem ps_tryG {X : Cx} {body : List Stmt} {h₀ : ExceptHandler} {hds : List ExceptHandler} {l : List Cl} {pos : Pos} {tb : WX → TS} {Wout : WX} (hs : X.stack = X.env :: X.outer) (hf : X.env.frame = some X.env.locals) (hN : X.N.Nodup) (tk : Takes X Wout)
    (hb : ∀ (W : WX) (pn : List (Addr × Obj)) (xe : Value → Shared → Prop), Takes (X.tr pn xe) W → PassesOwn (model X.prog X.w) X.A X.env xe → PSs (X.tr pn xe) body (tb W))
    (hh : ClOk X (h₀ :: hds) l) : PS X (.Try body (h₀ :: hds) [] [] pos) (fun D σ H => tb (wCl X.K Wout D l) D σ H) := by
  refine ⟨fun pins s σ H D I h => ?_⟩
  have ok := I.ok
  have hfr : X.A.frames = some (X.env :: X.outer) := by rw [ok.frames, hs]
  refine wpAny_Try_except (wpAny_mono ((hb (wCl X.K Wout D l) (X.pn ++ pins) _ (fun u s' xx => ?_) PassesOwn.looking).run [] s σ H D (I.toTry _) h) (fun f s1 hsp => ?_) (fun e s1 he => he))
  · obtain ⟨a, B, sI, pins', σ', H', cls, d, rfl, J', nb, up, sky, na, os, ag, w⟩ := xx
    have J : Inv X pins σ' H' sI := J'.ofTry ok
    have sky' : Sky B (X.env :: X.outer) a (Zc cls d) X.env.locals s'.heap := by rw [← hs]; exact sky
    exact Sky.land Zc.steady hfr hf sky' fun h3 fl3 up3 => Hand.go hs hf hN tk hh ⟨J, nb, up.trans up3, fl3, na, os, ag⟩ w
  · cases f with
    | next => obtain ⟨σ', H', J', q⟩ := hsp; exact wpAny_execs_nil ⟨σ', H', J'.ofTry ok, q⟩
    | brk => obtain ⟨σ', H', J', q⟩ := hsp; exact ⟨σ', H', J'.ofTry ok, q⟩
    | cont => obtain ⟨σ', H', J', q⟩ := hsp; exact ⟨σ', H', J'.ofTry ok, q⟩
    | ret u => obtain ⟨v, σ', H', J', r, q⟩ := hsp; exact ⟨v, σ', H', J'.ofTry ok, r, q⟩
end RM
end
section
set_option Elab.async false
set_option linter.all false
set_option maxRecDepth 100000
set_option autoImplicit false
/-! try: by the evaluator -/
namespace RM
open PySem PySem.Spec PyProof.Rows L2

def Tx.hot (Y : Tx) (a : Addr) (cls : Value) (d : Option Addr) : Tx := { Y with cur := some (a, cls, d) }
section
variable {Y Y' : Tx} {G : Gh} {H H0 : Hp} {B : Gh → Hp → Prop} {σ : L2.St} {ρ : Fe} {S : Sto}
theorem GOk.tx (ok : GOk Y G H S) (ht : Y'.tabs = Y.tabs := by rfl) : GOk Y' G H S := ⟨ok.fzmu, ok.fzT, ok.muT, ok.solid, fun z h => ok.dr z h, ok.dr0, fun p h => ok.tab p (ht ▸ h), ok.ext⟩
theorem RX.tx {cls : Value} {dx : Option Addr} {x : D} (hK : Y'.K = Y.K) (hc : Y'.cls = Y.cls) (r : RX Y G H cls dx x) : RX Y' G H cls dx x := by
  obtain ⟨c, C, fs, p, fv, e1, e2, e3, e4, h, m, r⟩ := r
  exact ⟨c, C, fs, p, fv, e1, by rw [hc]; exact e2, e3, e4, h, m, r.tx hK hc⟩
theorem Bs.tx (b : Bs Y H0 B) (ht : Y.tabs = Y'.tabs := by rfl) : Bs Y' H0 B := ⟨fun x ok e => b.ext x (GOk.tx (Y := Y') (Y' := Y) ok ht) e, b.wr, b.fz, b.th⟩
/-- into a suite -/
theorem SR.into (hK : Y'.K = Y.K) (hc : Y'.cls = Y.cls) (hz : Y'.slf = Y.slf) (hn : Y.cur = none) (sr : SR Y H0 G H σ ρ) (ht : Y'.thk = Y.thk := by rfl) : SR Y' H0 G H σ ρ := by
  refine ⟨sr.len, fun i s h => ?_, sr.apart, fun z hz => sr.thx z (ht ▸ hz)⟩
  have q := sr.slot i s h
  cases s with
  | emp => trivial
  | thk => rw [SlotR, ht]; exact q
  | val d => obtain ⟨v, h, r⟩ := q; exact ⟨v, h, r.tx hK hc⟩
  | exn x => obtain ⟨a, cls, dx, _, c, _⟩ := q; rw [hn] at c; cases c
  | own xs =>
    obtain ⟨a, vs, hs, ha, f, m, h00, r⟩ := q
    exact ⟨a, vs, hs, ha, f, m, h00, r.tx hK hc⟩
  | new c fs =>
    obtain ⟨a, C, dx, fv, hs, hC, ha, f, m, h00, r⟩ := q
    exact ⟨a, C, dx, fv, hs, ⟨by rw [hc]; exact hC.1, by rw [hz]; exact hC.2⟩, ha, f, m, h00, r.tx hK hc⟩
/-- out of it -/
theorem SR.out (hK : Y'.K = Y.K) (hc : Y'.cls = Y.cls) (hz : Y'.slf = Y.slf) (sr : SR Y H0 G H σ ρ) (ht : Y'.thk = Y.thk := by rfl) : SR Y' H0 G H σ (ρ.map Slot.noEx) := by
  have own : ∀ {i : Nat} {xs : List D}, (ρ.map Slot.noEx)[i]? = some (.own xs) → ρ[i]? = some (.own xs) := fun {i xs} h => by
    rw [List.getElem?_map, Option.map_eq_some_iff] at h
    obtain ⟨s, h1, h2⟩ := h
    cases s <;> first | (cases h2; exact h1) | cases h2
  refine ⟨by rw [List.length_map]; exact sr.len, fun i s h => ?_, fun i j xs ys a h1 h2 h3 h4 => sr.apart i j xs ys a (own h1) (own h2) h3 h4, fun z hz => sr.thx z (ht ▸ hz)⟩
  rw [List.getElem?_map, Option.map_eq_some_iff] at h
  obtain ⟨s0, h1, rfl⟩ := h
  have q := sr.slot i s0 h1
  cases s0 with
  | emp => trivial
  | thk => show SlotR Y' H0 G H σ[i]? .thk; rw [SlotR, ht]; exact q
  | exn x => trivial
  | val d => obtain ⟨v, h, r⟩ := q; exact ⟨v, h, r.tx hK hc⟩
  | own xs =>
    obtain ⟨a, vs, hs, ha, f, m, h00, r⟩ := q
    exact ⟨a, vs, hs, ha, f, m, h00, r.tx hK hc⟩
  | new c fs =>
    obtain ⟨a, C, dx, fv, hs, hC, ha, f, m, h00, r⟩ := q
    exact ⟨a, C, dx, fv, hs, ⟨by rw [hc]; exact hC.1, by rw [hz]; exact hC.2⟩, ha, f, m, h00, r.tx hK hc⟩
end

section
variable {Y : Tx} {G : Gh} {H H0 : Hp} {B : Gh → Hp → Prop} {σ : L2.St} {ρ : Fe} {S : Sto} {a : Addr} {cls : Value} {d : Option Addr}
theorem RD.unhot {v : V} {x : D} (r : RD (Y.hot a cls d) G H v x) : RD Y G H v x := RD.tx (Y := Y.hot a cls d) (Y' := Y) rfl rfl r
theorem RD.hot {v : V} {x : D} (r : RD Y G H v x) : RD (Y.hot a cls d) G H v x := RD.tx (Y := Y) (Y' := Y.hot a cls d) rfl rfl r
theorem RX.hot {c : Value} {dx : Option Addr} {x : D} (r : RX Y G H c dx x) : RX (Y.hot a cls d) G H c dx x := RX.tx (Y := Y) (Y' := Y.hot a cls d) rfl rfl r
theorem SR.hot (hn : Y.cur = none) (sr : SR Y H0 G H σ ρ) : SR (Y.hot a cls d) H0 G H σ ρ := SR.into (Y := Y) (Y' := Y.hot a cls d) rfl rfl rfl hn sr
theorem SR.unhot (sr : SR (Y.hot a cls d) H0 G H σ ρ) : SR Y H0 G H σ (ρ.map Slot.noEx) := SR.out (Y := Y.hot a cls d) (Y' := Y) rfl rfl rfl sr
end
section
variable {Y : Tx} {k : Nat} {C : Orc} {g : Cfg} {gt : Gt} {X : Cx} {W : WX} {kin : Kin} {look : Bool} {G : Gh} {H H0 : Hp} {B : Gh → Hp → Prop} {σ : L2.St} {ρ : Fe} {S : Sto} {D : Ends} {r : Cfg → Cp}

/-- the suite's end told of the try's -/
theorem suite_out {a : Addr} {cls : Value} {d : Option Addr} {i : Option Nat} {o : Out} {S1 : Sto} (w : wpM (match o with
    | .exc _ _ => M.fail
    | o => pure (o.gone i)) S1 (OutQ Y H0 B D W) RN) : OutQ (Y.hot a cls d) H0 B (goneD D i) WF o S1 := by
  have put : ∀ {G : Gh} {H : Hp} {σ : L2.St} {ρ : Fe} {i : Nat}, SR (Y.hot a cls d) H0 G H σ ρ → SR Y H0 G H (σ.set i none) ((ρ.map Slot.noEx).set i .emp) := fun {G H σ ρ i} sr =>
    (sr.unhot).put (s := .emp) i trivial fun xs e => nomatch e
  cases o with
  | exc x ρ => exact w.elim
  | ret d =>
    cases i with
    | none => exact fun G H v b ok r => w G H v b ok.tx r.unhot
    | some i => exact fun G H v b ok r => w G H v b ok.tx r.unhot
  | nx ρ =>
    cases i with
    | none => exact fun G H σ b ok sr => w G H σ b ok.tx sr.unhot
    | some i => exact fun G H σ b ok sr => w G H _ b ok.tx (put sr)
  | brk ρ =>
    cases i with
    | none => exact fun G H σ b ok sr => w G H σ b ok.tx sr.unhot
    | some i => exact fun G H σ b ok sr => w G H _ b ok.tx (put sr)
  | cont ρ =>
    cases i with
    | none => exact fun G H σ b ok sr => w G H σ b ok.tx sr.unhot
    | some i => exact fun G H σ b ok sr => w G H _ b ok.tx (put sr)
/-- a clause of the text -/
structure ClS (Y : Tx) (kin : Kin) (C : Orc) (q : Cl) (c : Str) (i : Option Nat) (b : Ss) : Prop where
  nm : q.nm = i
  cl : ∃ Ca, Y.cls c = some Ca ∧ q.c = .ref Ca
  ts : ∀ a cls d, q.ts a cls d = tS (Y.hot a cls d) WF (evSs kin C b)
inductive HsS (Y : Tx) (kin : Kin) (C : Orc) : List Cl → Hs → Prop
  | nil : HsS Y kin C [] .nil
  | cons {q : Cl} {l : List Cl} {c : Str} {i : Option Nat} {b : Ss} {r : Hs} : ClS Y kin C q c i b → HsS Y kin C l r → HsS Y kin C (q :: l) (.cons c i b r)
theorem t_hs (hK : X.K = Y.K) (kok : KinOk kin Y) (hn : Y.cur = none) (bs : Bs Y H0 B) {cls : Value} {dx : Option Addr} {x : RM.D} : ∀ {l : List Cl} {hs : Hs} {ρ : Fe} {S1 : Sto}, HsS Y kin C l hs → B G H → GOk Y G H S1 → RX Y G H cls dx x → SR Y H0 G H σ ρ → wpM (evHs kin C hs x ρ) S1 (OutQ Y H0 B D W) RN → wCl X.K W D l cls dx σ H
  | _, _, ρ, S1, .nil, b, ok, rx, sr, w => by
    unfold evHs at w
    exact w G H cls dx σ b ok rx sr
  | q :: l, .cons c i b r, ρ, S1, .cons cs hr, bb, ok, rx, sr, w => by
    unfold evHs at w
    obtain ⟨c0, C0, fs, p, fv, rfl, hc0, rfl, rfl, hp, hm, rf⟩ := id rx
    have w : wpM (if kin.isX c0 && kin.isX c then
        if (kin.par c0).contains c then do
          let o ← evSs kin C b (exnF i (.exc c0 fs) ρ)
          match o with
          | .exc _ _ => M.fail
          | o => pure (o.gone i)
        else evHs kin C r (.exc c0 fs) ρ
      else M.fail) S1 (OutQ Y H0 B D W) RN := w
    split at w
    · rename_i hx
      rw [Bool.and_eq_true] at hx
      obtain ⟨Ca, hca, hqc⟩ := cs.cl
      refine ⟨(kin.par c0).contains c, by rw [hqc, hK]; exact kok.exm c0 c C0 Ca hx.1 hx.2 hc0 hca, fun hb a na => ?_, fun hb => ?_⟩
      · rw [if_pos hb] at w
        rw [cs.ts, cs.nm]
        have sr' : SR (Y.hot a (.ref C0) (some p)) H0 G H σ ρ := sr.hot hn
        refine ⟨H0, B, G, exnF i (.exc c0 fs) ρ, S1, bs.tx, ok.tx, bb, ?_, wpM_mono (wpM_bind.mp w) (fun o S2 w2 => suite_out w2) fun _ _ z => z⟩
        cases i with
        | none => exact sr'
        | some i => exact sr'.put (s := .exn (.exc c0 fs)) i ⟨a, .ref C0, some p, rfl, rfl, rx.hot⟩ fun xs e => nomatch e
      · rw [if_neg (by rw [hb]; exact Bool.false_ne_true)] at w
        exact t_hs hK kok hn bs hr bb ok rx sr w
    · exact w.elim
theorem t_try {b : Ss} {hs : Hs} {l : List Cl} (hK : X.K = Y.K) (kok : KinOk kin Y) (hn : Y.cur = none) (hl : HsS Y kin C l hs) (h : tS Y W (evS kin C (.tr b hs)) D σ H) : tS Y (wCl X.K W D l) (evSs kin C b) D σ H := by
  obtain ⟨H0, B, G, ρ, S, bs, ok, b0, sr, w⟩ := h
  unfold evS at w
  refine ⟨H0, B, G, ρ, S, bs, ok, b0, sr, wpM_mono (wpM_bind.mp w) (fun o S1 w1 => ?_) fun _ _ z => z⟩
  cases o with
  | nx ρ1 => exact w1
  | brk ρ1 => exact w1
  | cont ρ1 => exact w1
  | ret d => exact w1
  | exc x ρ1 => exact fun G1 H1 cls dx σ1 b1 ok1 rx sr1 => t_hs hK kok hn bs hl b1 ok1 rx sr1 w1
/-- the contexts of a try -/
theorem tr_sok (s : Sok kin gt Y k C g X W) (hh : g.hot = false) {W' : WX} {pn : List (Addr × Obj)} {xe : Value → Shared → Prop} (tk : Takes (X.tr pn xe) W') (po : PassesOwn (model X.prog X.w) X.A X.env xe) : Sok kin gt Y k C g (X.tr pn xe) W' where
  o := ⟨⟨s.o.ox.nd, s.o.ox.calm, s.o.ox.hK, s.o.ox.room, s.o.ox.units, s.o.ox.gd, s.o.ox.sys, s.o.ox.room1⟩, s.o.N, s.o.sc, s.o.fn, tk, s.o.cold, s.o.kok, fun a cls dx e => by (rw [s.o.cold hh] at e; cases e), fun z => let q := s.o.lm z; ⟨q.room, q.tab, q.one, q.hof⟩, fun i z => let q := s.o.th i z; ⟨q.no, q.act⟩, s.o.gt⟩
  po := fun _ => po
  stk := s.stk
  frm := s.frm
  kd := s.kd
def Cfg.suite (g : Cfg) (i : Option Nat) : Cfg := { g with hot := true, exn := i, thk := none, lam := false }
theorem KinOk.tx {Y' : Tx} (hK : Y'.K = Y.K) (hc : Y'.cls = Y.cls) (o : KinOk kin Y) : KinOk kin Y' := by
  obtain ⟨K, cls, cur, _, _, _⟩ := Y
  obtain ⟨K', cls', cur', _, _, _⟩ := Y'
  cases hK
  cases hc
  exact ⟨o.fld, o.xfl, o.exm, o.isT, o.isI, o.isC, o.isK, o.xI, o.xC, o.xK⟩
theorem suite_sok (s : Sok kin gt Y k C g X W) {i : Option Nat} {a : Addr} {oe : Obj} {cls : Value} {d : Option Addr} {pn : List (Addr × Obj)} (hz : Zc cls d oe) (hd : ∃ vs, oe.data = .fields vs) : Sok kin gt (Y.hot a cls d) k C (g.suite i) (X.suite a ((a, oe) :: pn)) WF where
  o := ⟨⟨s.o.ox.nd, (fun h => nomatch h), s.o.ox.hK, (fun h => nomatch h), s.o.ox.units, s.o.ox.gd, s.o.ox.sys, (fun h => nomatch h)⟩, s.o.N, s.o.sc, s.o.fn, takes_none5, (fun h => nomatch h), KinOk.tx (Y := Y) (Y' := Y.hot a cls d) rfl rfl s.o.kok, fun a' cls' dx' e => by
      cases e
      exact ⟨oe, List.mem_cons_self, hz, hd⟩, (fun z => nomatch z), (fun i z => nomatch z), fun x v h => by
      have q := s.o.gt x v h
      cases v with
      | cst d =>
        obtain ⟨v, u, h1, h2, h3⟩ := q
        exact ⟨v, u, h1, h2, fun G H => (h3 G H).hot⟩
      | fn n => exact fun z => nomatch z
      | blt => exact q
      | cls c => exact q
      | cfn c n => exact ⟨q.1, fun z => nomatch z⟩
      | xcl c => exact ⟨q.1, fun z => nomatch z⟩
      | xkw c kn => exact fun z => nomatch z
      | mth c m n => exact fun z => nomatch z
      | hof => trivial
      | dfl f m => exact fun z => nomatch z⟩
  po := fun h => nomatch h
  stk := s.stk
  frm := s.frm
  kd := s.kd
end
end RM
end
section
set_option Elab.async false
set_option linter.all false
set_option maxRecDepth 100000
set_option autoImplicit false
/-! statements: a new list or a value; a list that is lent; several at once, new lists among them -/
namespace RM
open PySem PySem.Spec PyProof.Rows L2

/-- frozen for a while -/
def Gh.fzs (G : Gh) (A : Addr → Prop) : Gh := { G with Fz := fun b => G.Fz b ∨ A b }
/-- thawed again -/
def Gh.thw (G : Gh) (A : Addr → Prop) : Gh := { G with Fz := fun b => G.Fz b ∧ ¬ A b }

section
variable {Y : Tx} {k : Nat} {C : Orc} {g : Cfg} {gt : Gt} {X : Cx} {W : WX} {kin : Kin} {look : Bool} {G G' : Gh} {H H' H0 : Hp} {B : Gh → Hp → Prop} {σ : L2.St} {ρ : Fe} {S S' : Sto} {D : Ends} {r : Cfg → Cp} {A : Addr → Prop}

/-- own lists, frozen: which ones -/
theorem SR.frzA (bs : Bs Y H0 B) : ∀ (is : List Nat) {G : Gh} {ρ : Fe}, B G H → GOk Y G H S → SR Y H0 G H σ ρ → ∃ A : Addr → Prop, (∀ a, A a → ¬ G.Fz a ∧ ∃ vs, H a = some (.lst vs)) ∧ GOk Y (G.fzs A) H S ∧ B (G.fzs A) H ∧ SR Y H0 (G.fzs A) H σ (frzE is ρ)
  | [], G, ρ, e, ok, sr => by
    have eg : G.fzs (fun _ => False) = G := by
      unfold Gh.fzs
      simp
    refine ⟨fun _ => False, fun _ z => z.elim, ?_⟩
    rw [eg]
    exact ⟨ok, e, sr⟩
  | i :: is, G, ρ, e, ok, sr => by
    unfold frzE
    rw [List.foldl_cons]
    split
    · rename_i xs h
      obtain ⟨a, vs, hs, ha, nf, nm, h0, rs⟩ := sr.slot i _ h
      have ne : H a ≠ none := by rw [ha]; exact fun z => nomatch z
      have ok1 : GOk Y (G.fz a) H S := ok.freeze ne nm
      have sr1 : SR Y H0 (G.fz a) H σ (ρ.set i (.val (.lst xs))) := sr.frz1at i h hs
      obtain ⟨A, hA, ok2, b2, sr2⟩ := SR.frzA bs is (bs.fz e h0) ok1 sr1
      refine ⟨fun b => A b ∨ b = a, fun b hb => ?_, ?_⟩
      · rcases hb with hb | rfl
        · obtain ⟨h1, h2⟩ := hA b hb
          exact ⟨fun z => h1 (.inl z), h2⟩
        · exact ⟨nf, vs, ha⟩
      · have eg : G.fzs (fun b => A b ∨ b = a) = (G.fz a).fzs A := by
          unfold Gh.fzs Gh.fz
          congr 1
          funext b
          simp only [eq_iff_iff]
          constructor
          · rintro (h | h | h)
            · exact .inl (.inl h)
            · exact .inr h
            · exact .inl (.inr h)
          · rintro ((h | h) | h)
            · exact .inl h
            · exact .inr (.inr h)
            · exact .inr (.inl h)
        rw [eg]
        exact ⟨ok2, b2, sr2⟩
    · exact SR.frzA bs is e ok sr
theorem thw_ext (ok : GOk Y G H S) (hA : ∀ a, A a → ¬ G.Fz a ∧ ∃ vs, H a = some (.lst vs)) (e : Ext (G.fzs A) H G' H') : Ext G H (G'.thw A) H' where
  fz := fun a h => ⟨e.fz a (.inl h), fun z => (hA a z).1 h⟩
  mu := e.mu
  dr := e.dr
  keep := e.keep
  there := e.there
  nfz := fun a h => (e.nfz a h.1).elim (fun h1 => h1.elim .inl fun z => absurd z h.2) .inr
  nmu := e.nmu
  ndr := e.ndr
theorem thw_ok (ok : GOk Y G H S) (hA : ∀ a, A a → ¬ G.Fz a ∧ ∃ vs, H a = some (.lst vs)) (e : Ext (G.fzs A) H G' H') (ok' : GOk Y G' H' S') : GOk Y (G'.thw A) H' S' where
  fzmu := fun a h => ok'.fzmu a h.1
  fzT := fun a h => ok'.fzT a h.1
  muT := ok'.muT
  solid := ok'.solid
  dr := fun z hz => by
    obtain ⟨l, ns, ms, n, h1, h2, h3, h4, h5, h6, r⟩ := ok'.dr z hz
    refine ⟨l, ns, ms, n, h1, h2, h3, h4, h5, ⟨h6, fun za => ?_⟩, r⟩
    obtain ⟨nf, vs, hv⟩ := hA _ za
    rcases e.ndr z hz with q | q
    · obtain ⟨_, _, _, _, _, _, _, _, _, q6, _⟩ := ok.dr z q
      exact nf q6
    · rw [q] at hv; cases hv
  dr0 := ok'.dr0
  tab := ok'.tab
  ext := ok'.ext
mutual
theorem RD.thaw (h : ∀ a, A a → ∃ vs, H a = some (.lst vs)) : ∀ {v : V} {d : RM.D}, d.noLst = true → RD Y G H v d → RD Y (G.thw A) H v d
  | _, _, _, .non => .non
  | _, _, _, .bl b => .bl b
  | _, _, _, .int i => .int i
  | _, _, _, .str x => .str x
  | _, _, n, .tup q r => .tup q (RDs.thaw h (by simpa [RM.D.noLst] using n) r)
  | _, _, _, .scr q => .scr q
  | _, _, n, .lst _ _ _ => by simp [RM.D.noLst] at n
  | _, _, n, .dct q f r => .dct q ⟨f, fun z => by
      obtain ⟨vs, hv⟩ := h _ z
      rw [q] at hv; cases hv⟩ (RDk.thaw h (by simpa [RM.D.noLst] using n) r)
  | _, _, n, .dcT q m f r => .dcT q m ⟨f, fun z => by
      obtain ⟨vs, hv⟩ := h _ z
      rw [q] at hv; cases hv⟩ (RDt.thaw h (by simpa [RM.D.noLst] using n) r)
  | _, _, n, .exc q f q2 f2 c r => .exc q ⟨f, fun z => by
      obtain ⟨vs, hv⟩ := h _ z
      rw [q] at hv; cases hv⟩ q2 ⟨f2, fun z => by
      obtain ⟨vs, hv⟩ := h _ z
      rw [q2] at hv; cases hv⟩ c (RDf.thaw h (by simpa [RM.D.noLst] using n) r)
  | _, _, n, .ins q f c r => .ins q ⟨f, fun z => by
      obtain ⟨vs, hv⟩ := h _ z
      rw [q] at hv; cases hv⟩ c (RDf.thaw h (by simpa [RM.D.noLst] using n) r)
  | _, _, _, .drw q => .drw q
theorem RDs.thaw (h : ∀ a, A a → ∃ vs, H a = some (.lst vs)) : ∀ {vs : List V} {ds : List RM.D}, RM.D.noLsts ds = true → RDs Y G H vs ds → RDs Y (G.thw A) H vs ds
  | _, _, _, .nil => .nil
  | _, _, n, .cons q r => by
    rw [RM.D.noLsts, Bool.and_eq_true] at n
    exact .cons (RD.thaw h n.1 q) (RDs.thaw h n.2 r)
theorem RDf.thaw (h : ∀ a, A a → ∃ vs, H a = some (.lst vs)) : ∀ {vs : List (Str × V)} {ds : List (Str × RM.D)}, RM.D.noLstf ds = true → RDf Y G H vs ds → RDf Y (G.thw A) H vs ds
  | _, _, _, .nil => .nil
  | _, _, n, .cons q r => by
    rw [RM.D.noLstf, Bool.and_eq_true] at n
    exact .cons (RD.thaw h n.1 q) (RDf.thaw h n.2 r)
theorem RDk.thaw (h : ∀ a, A a → ∃ vs, H a = some (.lst vs)) : ∀ {vs : List (L2.Key × V)} {ds : List (RM.D × RM.D)}, RM.D.noLstk ds = true → RDk Y G H vs ds → RDk Y (G.thw A) H vs ds
  | _, _, _, .nil => .nil
  | _, _, n, .cons q r => by
    rw [RM.D.noLstk, Bool.and_eq_true] at n
    exact .cons (RD.thaw h n.1 q) (RDk.thaw h n.2 r)
theorem RDt.thaw (h : ∀ a, A a → ∃ vs, H a = some (.lst vs)) : ∀ {vs : List (List L2.Key × V)} {ds : List (RM.D × RM.D)}, RM.D.noLstk ds = true → RDt Y G H vs ds → RDt Y (G.thw A) H vs ds
  | _, _, _, .nil => .nil
  | _, _, n, .cons q r => by
    rw [RM.D.noLstk, Bool.and_eq_true] at n
    exact .cons (RD.thaw h n.1 q) (RDt.thaw h n.2 r)
end

/-! ### x = a if q else b: a new list or a value -/
theorem evS_ifo (i : Nat) (q : RM.Q) (a b : E) : evS kin C (.ifo i q a b) = fun ρ => exO (evT kin C q ρ) ρ fun c => if c then exO (evE kin C a ρ) ρ fun d => (match d with
      | .lst xs => pure (.nx (ρ.set i (.own xs)))
      | _ => M.fail) else exO (evE kin C b ρ) ρ fun d => pure (.nx (setS ρ i d)) := by funext ρ; conv => { lhs; unfold evS }; try rfl
theorem t_ifo {i : Nat} {q : RM.Q} {a b : E} (h : tS Y W (evS kin C (.ifo i q a b)) D σ H) : tAsg (tIf (tQ Y W (evT kin C q)) (tN Y W (evE kin C a)) (tE Y W (RD Y) (evE kin C b))) (gName i) D σ H := by
  rw [evS_ifo] at h
  refine t_exQ h fun H0 B G1 H1 ρ S1 c bs e1 ok1 sr1 w => ?_
  cases c with
  | true =>
    have w : wpM (exO (evE kin C a ρ) ρ fun d => (match d with
      | .lst xs => pure (.nx (ρ.set i (.own xs)))
      | _ => M.fail : M Out)) S1 (OutQ Y H0 B D W) RN := w
    have h2 : tS Y W (evS kin C (.own i a)) D σ H1 := by
      rw [evS_own]
      exact ⟨H0, B, G1, ρ, S1, bs, ok1, e1, sr1, w⟩
    exact t_own h2
  | false =>
    have w : wpM (exO (evE kin C b ρ) ρ fun d => pure (.nx (setS ρ i d))) S1 (OutQ Y H0 B D W) RN := w
    have h2 : tS Y W (evS kin C (.asg [i] b)) D σ H1 := by
      rw [evS_asg]
      exact ⟨H0, B, G1, ρ, S1, bs, ok1, e1, sr1, w⟩
    exact t_asg1 h2

/-! ### x = a + b, x an own list's name -/
theorem evS_owd (i : Nat) (e : E) : evS kin C (.owd i e) = fun ρ => exO (evE kin C e ρ) ρ fun d => pure (.nx (owdF i d ρ)) := by funext ρ; conv => { lhs; unfold evS }
theorem t_owd {i : Nat} {e : E} (h : tS Y W (evS kin C (.owd i e)) D σ H) : tAsg (tNV Y W (evE kin C e)) (gName i) D σ H := by
  rw [evS_owd] at h
  obtain ⟨H0, B, G, ρ, S, bs, ok, b, sr, w⟩ := h
  refine ⟨H0, G, ρ, S, ok, sr, wpM_mono (exO_wp w) (fun d S1 w1 G1 H1 v e1 ok1 r1 => ?_) fun x S1 q => exc_re bs b ok sr q⟩
  have w1 : OutQ Y H0 B D W (.nx (owdF i d ρ)) S1 := w1
  rcases r1 with ⟨a, vs, ds, rfl, rfl, na, ha, nf, nm, rs⟩ | ⟨nl, r⟩
  · refine w1 G1 H1 _ (bs.ext b ok e1) ok1 ((sr.ext e1 ok).own ok1 (fun j c ho hc z => ?_) ?_ ha nf nm rs)
    · obtain ⟨xs, ho⟩ := ho
      obtain ⟨a', vs', h1, h2, _⟩ := sr.slot j _ ho
      rw [hc] at h1
      cases h1
      rw [z, na] at h2; cases h2
    · cases q : H0 a with
      | none => rfl
      | some u => exact absurd na (bs.th b (by rw [q]; exact fun z => nomatch z))
  · have eo : owdF i d ρ = setS ρ i d := by
      cases d <;> first | rfl | exact absurd rfl (nl _)
    rw [eo] at w1
    exact w1 G1 H1 _ (bs.ext b ok e1) ok1 ((sr.ext e1 ok).set i r)

/-! ### lent -/
theorem evS_brw (is p : List Nat) (e : E) : evS kin C (.brw is p e) = fun ρ => exO (evE kin C e (frzE is ρ)) (frzE is ρ) fun d => (do
    let ρ' ← M.op (asgP p d (if d.noLst then ρ else frzE is ρ))
    pure (.nx ρ')) := by funext ρ; conv => { lhs; unfold evS }
theorem t_brw {is : List Nat} {i : Nat} {e : E} (h : tS Y W (evS kin C (.brw is [i] e)) D σ H) : tAsg (tE Y W (RD Y) (evE kin C e)) (gName i) D σ H := by
  rw [evS_brw] at h
  obtain ⟨H0, B, G, ρ, S, bs, ok, b, sr, w⟩ := h
  obtain ⟨A, hA, ok1, b1, sr1⟩ := SR.frzA bs is b ok sr
  refine ⟨H0, G.fzs A, frzE is ρ, S, ok1, sr1, wpM_mono (exO_wp w) (fun d S1 w1 G2 H2 v e2 ok2 r2 => ?_) fun x S1 q => exc_re bs b1 ok1 sr1 q⟩
  obtain ⟨ρ', hρ, q⟩ := wpM_op.mp (wpM_bind.mp w1)
  cases hρ
  cases hn : d.noLst with
  | true =>
    rw [hn] at q
    have x := thw_ext ok hA e2
    have hk : ∀ a, A a → ∃ vs, H2 a = some (.lst vs) := fun a ha => by
      obtain ⟨nf, vs, hv⟩ := hA a ha
      exact ⟨vs, e2.keep a _ hv (ok1.fzmu a (.inr ha))⟩
    exact q (G2.thw A) H2 _ (bs.ext b ok x) (thw_ok ok hA e2 ok2) ((sr.ext x ok).set i (r2.thaw hk hn))
  | false =>
    rw [hn] at q
    exact q G2 H2 _ (bs.ext b1 ok1 e2) ok2 ((sr1.ext e2 ok1).set i r2)

/-! ### several at once, new lists among them -/
def newsOf : List Bool → List V → List Addr
  | true :: nw, .ref a :: vs => a :: newsOf nw vs
  | _ :: nw, _ :: vs => newsOf nw vs
  | _, _ => []
inductive MxR (Y : Tx) (Hb : Hp) (G : Gh) (H : Hp) : List Bool → List V → List RM.D → Prop
  | nil : MxR Y Hb G H [] [] []
  | val {nw : List Bool} {v : V} {d : RM.D} {vs : List V} {ds : List RM.D} : RD Y G H v d → MxR Y Hb G H nw vs ds → MxR Y Hb G H (false :: nw) (v :: vs) (d :: ds)
  | new {nw : List Bool} {a : Addr} {ws : List V} {xs : List RM.D} {vs : List V} {ds : List RM.D} : Hb a = none → H a = some (.lst ws) → ¬ G.Fz a → ¬ G.Mu a → RDs Y G H ws xs → a ∉ newsOf nw vs → MxR Y Hb G H nw vs ds → MxR Y Hb G H (true :: nw) (.ref a :: vs) (.lst xs :: ds)
theorem MxR.base {Hb Hb' : Hp} (h : ∀ b, Hb b = none → Hb' b = none) : ∀ {nw : List Bool} {vs : List V} {ds : List RM.D}, MxR Y Hb G H nw vs ds → MxR Y Hb' G H nw vs ds
  | _, _, _, .nil => .nil
  | _, _, _, .val q r => .val q (MxR.base h r)
  | _, _, _, .new q1 q2 q3 q4 q5 q6 r => .new (h _ q1) q2 q3 q4 q5 q6 (MxR.base h r)
theorem MxR.news {Hb : Hp} : ∀ {nw : List Bool} {vs : List V} {ds : List RM.D}, MxR Y Hb G H nw vs ds → ∀ a ∈ newsOf nw vs, Hb a = none
  | _, _, _, .nil, a, h => by cases h
  | _, _, _, .val (v := v) q r, a, h => MxR.news r a (by cases v <;> exact h)
  | _, _, _, .new q1 _ _ _ _ _ r, a, h => by
    rcases List.mem_cons.mp h with rfl | h
    · exact q1
    · exact MxR.news r a h
def tMx (Y : Tx) (W : WX) (nw : List Bool) (m : Fe → M (List RM.D)) : TA := fun σ H Q => ∃ H0 G ρ S, GOk Y G H S ∧ SR Y H0 G H σ ρ ∧ wpM (m ρ) S (fun ds S' => ∀ G' H' vs, Ext G H G' H' → GOk Y G' H' S' → MxR Y H G' H' nw vs ds → Q vs H') (RE Y G H σ W)
/-- a new list is still new -/
theorem there_of (e : Ext G H G' H') : ∀ b, H' b = none → H b = none := fun b h => by
  cases q : H b with
  | none => rfl
  | some u => exact absurd h (e.there b (by rw [q]; exact fun z => nomatch z))
theorem s_mx (sn : Snd kin gt r) (o : Cok kin gt Y k C g X W) : ∀ (es : List Expr) (nw : List Bool) (i : Es), es.all (fun a => !isStarred a) = true → es.length = nw.length → (∀ p ∈ nw.zip es, p.1 = true → isNwE gt g p.2 = true) → esW ((r g).e false) ((r g).e true) es = some i → PA X es (tMx Y W nw (evEs kin C i))
  | [], nw, i, _, hl, _, h => by
    cases h
    cases nw with
    | cons _ _ => cases hl
    | nil =>
      refine pa_nil.imp fun σ H Q h => ?_
      obtain ⟨H0, G, ρ, S, ok, sr, w⟩ := h
      unfold evEs at w
      exact w G H [] Ext.refl ok .nil
  | e :: es, nw, i, hs, hl, hn, h => by
    cases nw with
    | nil => cases hl
    | cons b nw =>
      rw [List.all_cons, Bool.and_eq_true] at hs
      have hs1 : isStarred e = false := by simpa using hs.1
      rw [esW_cons hs1] at h
      simp only [Option.bind_eq_bind, Option.bind_eq_some_iff, Option.some.injEq] at h
      obtain ⟨y, hy, j, hj, rfl⟩ := h
      have ih := s_mx sn o es nw j hs.2 (by simpa using hl) (fun p hp => hn p (List.mem_cons_of_mem _ hp)) hj
      cases b with
      | false =>
        refine (pa_cons (sn.e g false e y X Y k C W hy o) ih (starEach_plain hs1)).imp fun σ H Q h => ?_
        obtain ⟨H0, G, ρ, S, ok, sr, w⟩ := h
        unfold evEs at w
        refine ⟨H0, G, ρ, S, ok, sr, wpM_mono (wpM_bind.mp w) (fun d S1 w1 G1 H1 v e1 ok1 r1 => ?_) fun _ _ h => h⟩
        refine ⟨H0, G1, ρ, S1, ok1, sr.ext e1 ok, wpM_mono (wpM_bind.mp w1) (fun ds S2 w2 G2 H2 vs e2 ok2 m2 => ?_) fun x S h => h.trans e1⟩
        exact w2 G2 H2 (v :: vs) (e1.trans e2) ok2 (.val (RD.ext r1 e2 ok1) (m2.base (there_of e1)))
      | true =>
        have hx := hn (true, e) (by rw [List.zip_cons_cons]; exact List.mem_cons_self) rfl
        refine (pa_cons (sn.n g e y X Y k C W hx hy o) ih (starEach_plain hs1)).imp fun σ H Q h => ?_
        obtain ⟨H0, G, ρ, S, ok, sr, w⟩ := h
        unfold evEs at w
        refine ⟨H0, G, ρ, S, ok, sr, wpM_mono (wpM_bind.mp w) (fun d S1 w1 G1 H1 a ws xs ed e1 ok1 na ha nf nm rs => ?_) fun _ _ h => h⟩
        subst ed
        refine ⟨H0, G1, ρ, S1, ok1, sr.ext e1 ok, wpM_mono (wpM_bind.mp w1) (fun ds S2 w2 G2 H2 vs e2 ok2 m2 => ?_) fun x S h => h.trans e1⟩
        have no : H1 a = none → False := fun z => by rw [ha] at z; cases z
        exact w2 G2 H2 (.ref a :: vs) (e1.trans e2) ok2 (.new na (e2.keep a _ ha nm) (fun z => (e2.nfz a z).elim nf no) (fun z => (e2.nmu a z).elim nm no) (rs.ext e2 ok1) (fun z => no (m2.news a z)) (m2.base (there_of e1)))
theorem evS_paro (is : List Nat) (nw : List Bool) (es : Es) : evS kin C (.paro is nw es) = fun ρ => exO (evEs kin C es ρ) ρ fun ds => (do
    let ρ' ← M.op (paroF is nw ds ρ)
    pure (.nx ρ')) := by funext ρ; conv => { lhs; unfold evS }
theorem SR.paro {Hb : Hp} (ok : GOk Y G H S) (h0 : ∀ b, Hb b = none → H0 b = none) : ∀ {is : List Nat} {nw : List Bool} {vs : List V} {ds : List RM.D} {σ : L2.St} {ρ ρ' : Fe}, SR Y H0 G H σ ρ → MxR Y Hb G H nw vs ds → (∀ (i : Nat) b, (∃ xs, ρ[i]? = some (.own xs)) → σ[i]? = some (some (.ref b)) → b ∉ newsOf nw vs) → paroF is nw ds ρ = some ρ' →
    is.length = nw.length ∧ SR Y H0 G H ((is.zip vs).foldl (fun σ q => σ.set q.1 (some q.2)) σ) ρ'
  | [], _, _, _, σ, ρ, ρ', sr, .nil, _, e => by cases e; exact ⟨rfl, sr⟩
  | [], _, _, _, σ, ρ, ρ', sr, .val _ _, _, e => by simp [paroF] at e
  | [], _, _, _, σ, ρ, ρ', sr, .new _ _ _ _ _ _ _, _, e => by simp [paroF] at e
  | i :: is, _, _, _, σ, ρ, ρ', sr, .nil, _, e => by simp [paroF] at e
  | i :: is, _, _, _, σ, ρ, ρ', sr, .val (v := v) q r, ap, e => by
    have e : paroF is _ _ (setS ρ i _) = some ρ' := e
    have hnew : ∀ nw vs, newsOf (false :: nw) (v :: vs) = newsOf nw vs := fun nw vs => by cases v <;> rfl
    obtain ⟨hl, sr2⟩ := SR.paro ok h0 (sr.set i q) r (fun j b ho hb => by
      rw [hnew] at ap
      by_cases z : i = j
      · subst z
        obtain ⟨xs, ho⟩ := ho
        unfold setS at ho
        have hlt : i < ρ.length := by
          have := (List.getElem?_eq_some_iff.mp ho).1
          simpa using this
        rw [List.getElem?_set_self hlt] at ho
        cases ho
      · obtain ⟨xs, ho⟩ := ho
        unfold setS at ho
        rw [List.getElem?_set_ne z] at ho hb
        exact ap j b ⟨xs, ho⟩ hb) e
    exact ⟨congrArg (· + 1) hl, by rw [List.zip_cons_cons]; exact sr2⟩
  | i :: is, _, _, _, σ, ρ, ρ', sr, .new (a := a) q1 q2 q3 q4 q5 q6 r, ap, e => by
    have e : paroF is _ _ (ρ.set i (.own _)) = some ρ' := e
    have sr1 := sr.own (i := i) ok (fun j b ho hb z => ap j b ho hb (by rw [z]; exact List.mem_cons_self)) (h0 a q1) q2 q3 q4 q5
    obtain ⟨hl, sr2⟩ := SR.paro ok h0 sr1 r (fun j b ho hb z => by
      by_cases y : i = j
      · subst y
        obtain ⟨xs, ho⟩ := ho
        have hlt : i < σ.length := by
          have := (List.getElem?_eq_some_iff.mp hb).1
          simpa using this
        rw [List.getElem?_set_self hlt] at hb
        cases hb
        exact q6 z
      · obtain ⟨xs, ho⟩ := ho
        rw [List.getElem?_set_ne y] at ho hb
        exact ap j b ⟨xs, ho⟩ hb (List.mem_cons_of_mem _ z)) e
    exact ⟨congrArg (· + 1) hl, by rw [List.zip_cons_cons]; exact sr2⟩
theorem MxR.length {Hb : Hp} : ∀ {nw : List Bool} {vs : List V} {ds : List RM.D}, MxR Y Hb G H nw vs ds → nw.length = vs.length
  | _, _, _, .nil => rfl
  | _, _, _, .val _ r => congrArg (· + 1) (MxR.length r)
  | _, _, _, .new _ _ _ _ _ _ r => congrArg (· + 1) (MxR.length r)
theorem t_paroX {is : List Nat} {nw : List Bool} {es : Es} {Q : List V → Hp → Prop} (h : tS Y W (evS kin C (.paro is nw es)) D σ H) (hQ : ∀ vs H1, is.length = vs.length → D.nx ((is.zip vs).foldl (fun σ q => σ.set q.1 (some q.2)) σ) H1 → Q vs H1) : tMx Y W nw (evEs kin C es) σ H Q := by
  rw [evS_paro] at h
  obtain ⟨H0, B, G, ρ, S, bs, ok, b, sr, w⟩ := h
  refine ⟨H0, G, ρ, S, ok, sr, wpM_mono (exO_wp w) (fun ds S1 w1 G1 H1 vs e1 ok1 m1 => ?_) fun x S1 q => exc_re bs b ok sr q⟩
  obtain ⟨ρ', hρ, q⟩ := wpM_op.mp (wpM_bind.mp w1)
  obtain ⟨hl, sr2⟩ := SR.paro (Hb := H) ok1 (fun c hc => by
    cases q : H0 c with
    | none => rfl
    | some u => exact absurd hc (bs.th b (by rw [q]; exact fun z => nomatch z))) (sr.ext e1 ok) m1 (fun j c ho hc z => by
    obtain ⟨xs, ho⟩ := ho
    obtain ⟨a', vs', h1, h2, _⟩ := sr.slot j _ ho
    rw [hc] at h1
    cases h1
    rw [m1.news c z] at h2; cases h2) hρ
  exact hQ vs H1 (hl.trans m1.length) (q G1 H1 _ (bs.ext b ok e1) ok1 sr2)
theorem t_paro2 {i j : Nat} {nw : List Bool} {es : Es} (h : tS Y W (evS kin C (.paro [i, j] nw es)) D σ H) : tPar i j (tMx Y W nw (evEs kin C es)) D σ H :=
  t_paroX h fun vs H1 hl q => by
    match vs, hl with
    | [v, w], _ => exact ⟨v, w, rfl, q⟩
theorem t_paro3 {i j l : Nat} {nw : List Bool} {es : Es} (h : tS Y W (evS kin C (.paro [i, j, l] nw es)) D σ H) : tPar3 i j l (tMx Y W nw (evEs kin C es)) D σ H :=
  t_paroX h fun vs H1 hl q => by
    match vs, hl with
    | [u, v, w], _ => exact ⟨u, v, w, rfl, q⟩
end
end RM
end
section
set_option Elab.async false
set_option linter.all false
set_option maxRecDepth 100000
set_option autoImplicit false
/-! from the text's statements to the small language; sound -/
namespace RM
open PySem PySem.Spec PyProof.Rows L2

/-! ### slots read by value -/
mutual
def rdE : E → List Nat
  | .c _ => []
  | .v i => [i]
  | .b _ => []
  | .tup es => rdEs es
  | .lst es => rdEs es
  | .bin _ a b => rdE a ++ rdE b
  | .cmp _ a b => rdE a ++ rdE b
  | .chain _ _ a b c => rdE a ++ rdE b ++ rdE c
  | .neg a => rdE a
  | .not a => rdE a
  | .and a b => rdE a ++ rdE b
  | .or a b => rdE a ++ rdE b
  | .ife t a b => rdQ t ++ rdE a ++ rdE b
  | .app _ es => rdEs es
  | .bi _ es => rdEs es
  | .fld o _ => rdE o
  | .xfl _ _ => []
  | .sub o i => rdE o ++ rdE i
  | .sl o l h => rdE o ++ rdE l ++ rdE h
  | .bnd a => rdE a
  | .bk o l h => rdE o ++ rdE l ++ rdE h
  | .dct0 => []
  | .mth o _ _ es => rdE o ++ rdEs es
  | .idx a b => rdE a ++ rdE b
  | .appT _ e => rdE e
  | .thk _ => []
  | .eqo _ _ a b => rdE a ++ rdE b
  | .leno _ a => rdE a
  | .lc _ _ it t e => rdI it ++ rdQ t ++ rdE e
  | .lc2 _ _ it t _ it2 t2 e => rdI it ++ rdQ t ++ rdI it2 ++ rdQ t2 ++ rdE e
def rdEs : Es → List Nat
  | .nil => []
  | .cons e r => rdE e ++ rdEs r
  | .star e r => rdE e ++ rdEs r
def rdI : I → List Nat
  | .seq e => rdE e
  | .rng1 a => rdE a
  | .rng2 a b => rdE a ++ rdE b
  | .enum e => rdE e
  | .zip a b => rdE a ++ rdE b
def rdQ : Q → List Nat
  | .yes => []
  | .val e => rdE e
  | .not t => rdQ t
  | .and t u => rdQ t ++ rdQ u
  | .or t u => rdQ t ++ rdQ u
end
def fzW (g : Cfg) (is : List Nat) (s : S1) : S1 := match (is.filter fun i => g.own.contains i).eraseDups with
  | [] => s
  | l => .fz l s
def isComp : Expr → Bool
  | .ListComp .. => true
  | .SetComp .. => true
  | .DictComp .. => true
  | _ => false
def isTup2 (e : Expr) : Bool := isTupE e || isComp e
def nodupB : List Nat → Bool
  | [] => true
  | i :: r => !r.contains i && nodupB r

section
variable (kin : Kin) (gt : Gt) (r : Cfg → Cp) (rec : Cfg → List Stmt → Option Ss)
/-- one name -/
def isMk (g : Cfg) : Expr → Bool
  | .Call (.Name f _) _ [] _ => (match g.glo gt f with
    | some (.cfn _ _) => true
    | _ => false)
  | _ => false
/-- x = a if t else b, x an own list's name, a a new list -/
def ifoC (g : Cfg) (i : Nat) : Expr → Option (Expr × Expr × Expr)
  | .IfExp t a b _ => if g.own.contains i && isNwE gt g a then some (t, a, b) else none
  | _ => none
def ownsOf (g : Cfg) (is : List Nat) : List Nat := (is.filter fun i => g.own.contains i).eraseDups
def asg1W (g : Cfg) (x : Str) (px : Pos) (e : Expr) : Option S1 := do
  let i ← g.tgt x
  match ifoC gt g i e with
  | some (t, a, b) => do
    let q ← (r g).q t
    let y ← (r g).e false a
    let z ← (r g).e false b
    some (fzW g (rdQ q ++ rdE y ++ rdE z) (.ifo i q y z))
  | none => do
    let y ← (r g).e false e
    let _ ← swE g x px e
    some (if isMk gt g e && !(ownsOf g (rdE y)).isEmpty then .brw (ownsOf g (rdE y)) [i] y else fzW g (rdE y) (if g.own.contains i && isNwE gt g e then .own i y else if g.own.contains i && isAddE e then .owd i y else .asg [i] y))
def newF (g : Cfg) (is : List Nat) (vs : List Expr) : List Bool := (is.zip vs).map fun p => g.own.contains p.1 && isNwE gt g p.2
def parW (g : Cfg) (ts vs : List Expr) : Option S1 := do
  let is ← tgts g ts
  let es ← esW ((r g).e false) ((r g).e true) vs
  if nodupB is && !g.hot && vs.all (fun a => !isStarred a) then
    if is.all (fun i => !g.own.contains i) then some (fzW g (rdEs es) (.par is es))
    else if (is.zip vs).all (fun p => !g.own.contains p.1 || isNwE gt g p.2) then some (fzW g (rdEs es) (.paro is (newF gt g is vs) es)) else none
  else none
def asgW (g : Cfg) (tg e : Expr) : Option S1 := do
  let p ← patW g tg
  let y ← (r g).e false e
  some (fzW g (rdE y) (.asg p y))
def nmW (g : Cfg) : Option Str → Option (Option Nat)
  | none => some none
  | some n => if g.sc.names.lookup n == some .local then (g.N.findIdx? (· == n)).map some else none
def hdsW (g : Cfg) : List ExceptHandler → Option Hs
  | [] => some .nil
  | .ExceptHandler (some (.Name x _)) nm (b :: suite) _ :: hs =>
    match g.glo gt x with
    | some (.cls c) => do
      let i ← nmW g nm
      let b ← rec (g.suite i) (b :: suite)
      let q ← hdsW g hs
      if okName x then some (.cons c i b q) else none
    | _ => none
  | _ => none
def stW (g : Cfg) (st : Stmt) : Option S1 :=
  match st with
  | .Assign [.Name x px] e _ => asg1W gt r g x px e
  | .Assign [.Tuple ts k1 p1] (.Tuple vs k2 p2) _ =>
    match swpC g ts vs with
    | some (some _) => if ts.length == vs.length && (ts.length == 2 || ts.length == 3) then parW gt r g ts vs else none
    | some none => asgW r g (.Tuple ts k1 p1) (.Tuple vs k2 p2)
    | none => none
  | .Assign [.Tuple ts k1 p1] e _ => if isTup2 e then none else asgW r g (.Tuple ts k1 p1) e
  | .Assign [.Attribute (.Name x _) f _] e _ => if isTup2 e then none else
    match g.loc x with
    | some i => do
      let y ← (r g).e false e
      if okName x then some (fzW g (rdE y) (.fst i f y)) else none
    | none => none
  | .Expr (.Call (.Attribute (.Name x _) "append" apos) [e] [] cpos) _ =>
    match g.loc x with
    | some i => do
      let y ← (r g).e false e
      if okName x && !isStarred e && apos.endLine == cpos.line then some (fzW g ((rdE y).filter (· != i)) (.app i y)) else none
    | none => none
  | .Expr e _ => if isComp e then none else do
    let y ← (r g).e false e
    some (fzW g (rdE y) (.ex y))
  | .Return (some e) _ => do
    let y ← (r g).e false e
    some (fzW g (rdE y) (.ret y))
  | .Return none _ => some .retn
  | .Pass _ => some .pass
  | .Break _ => some .brk
  | .Continue _ => some .cont
  | .If c a b _ => do
    let q ← (r g).q c
    let x ← rec g a
    let y ← rec g b
    some (fzW g (rdQ q) (.iff q x y))
  | .For tg iter body [] _ => if g.hot || isSet iter then none else do
    let p ← patW g tg
    let it ← (r g).i false iter
    let b ← rec g body
    if it.pairs && !isTupE tg then none else some (fzW g (rdI it) (.frl p it b))
  | .While c body [] _ => if g.hot then none else do
    let q ← (r g).q c
    let b ← rec g body
    some (.whl q b)
  | .Raise (some (.Call (.Name x _) [e] [] _)) none _ => if g.hot then none else
    match g.glo gt x with
    | some (.cls c) => match kin.ini c with
      | some _ => do
        let y ← (r g).e false e
        if okName x && !isStarred e then some (fzW g (rdE y) (.rse c y)) else none
      | none => none
    | _ => none
  | .Try body (h :: hs) [] [] _ => if g.hot then none else do
    let b ← rec g body
    let q ← hdsW gt rec g (h :: hs)
    some (.tr b q)
  | _ => none
end
def cpSs (kin : Kin) (gt : Gt) (r : Cfg → Cp) : Nat → Cfg → List Stmt → Option Ss
  | 0, _, _ => none
  | _ + 1, _, [] => some .nil
  | n + 1, g, st :: rest => do
    let a ← stW kin gt r (cpSs kin gt r n) g st
    let b ← cpSs kin gt r n g rest
    some (.cons a b)

section
variable {Y : Tx} {k : Nat} {C : Orc} {g : Cfg} {gt : Gt} {X : Cx} {W : WX} {kin : Kin} {r : Cfg → Cp}

/-- one law's world -/
structure Wd where
  P : Program
  w : World
  mg : Str → Option Value
  base : Heap
def AtW (V : Wd) (X : Cx) : Prop := X.prog = V.P ∧ X.w = V.w ∧ X.mg = V.mg ∧ X.base = V.base
/-- exceptions may be made wherever it is calm -/
def Sms (kin : Kin) (gt : Gt) (Y : Tx) (k : Nat) (C : Orc) (V : Wd) : Prop := ∀ (g : Cfg) (X : Cx) (W : WX), Sok kin gt Y k C g X W → AtW V X → g.hot = false → MkOk kin gt Y X
theorem Sms.hot {V : Wd} {a : Addr} {cls : Value} {d : Option Addr} : Sms kin gt (Y.hot a cls d) k C V := fun g X W s _ h => by
  have := s.o.cold h
  cases this
/-- what is to be shown of a list of statements -/
def Rok (kin : Kin) (gt : Gt) (rec : Cfg → List Stmt → Option Ss) : Prop := ∀ (g : Cfg) (X : Cx) (Y : Tx) (k : Nat) (C : Orc) (W : WX) (V : Wd) (sts : List Stmt) (b : Ss), rec g sts = some b → Sok kin gt Y k C g X W → AtW V X → Sms kin gt Y k C V → PSs X sts (tS Y W (evSs kin C b))

theorem ps_fzW {st : Stmt} {is : List Nat} {s : S1} (h : PS X st (tS Y W (evS kin C s))) : PS X st (tS Y W (evS kin C (fzW g is s))) := by
  unfold fzW
  split
  · exact h
  · exact PS.fz h
theorem nodup_of : ∀ {is : List Nat}, nodupB is = true → is.Nodup
  | [], _ => List.nodup_nil
  | i :: r, h => by
    unfold nodupB at h
    rw [Bool.and_eq_true] at h
    refine List.nodup_cons.mpr ⟨?_, nodup_of h.2⟩
    simpa using h.1
theorem sole_ok {tg e : Expr} {l : Nat} {env : Env} (h : isTup2 e = false) : swapsWithSole [tg] e l env = pure false := by
  show swapsWith e (some tg) l env = pure false
  unfold swapsWith
  cases e <;> first | rfl | (simp [isTup2, isTupE, isComp] at h; done)
theorem sole_at {tg e : Expr} {l : Nat} {env : Env} (h : isTup2 e = false) : swapsWith e (some tg) l env = pure false := sole_ok (tg := tg) (l := l) (env := env) h
theorem sole_tup {ts vs : List Expr} {k1 k2 : Nat} {p1 p2 : Pos} {l : Nat} {env : Env} : swapsWithSole [.Tuple ts k1 p1] (.Tuple vs k2 p2) l env = pure false := rfl
theorem drop_ok {e : Expr} {l : Nat} {env : Env} (h : isComp e = false) : swapsWith e none l env = pure false := by
  unfold swapsWith
  cases e <;> first | rfl | (simp [isComp] at h; done)
theorem swapped_ok {ts : List Expr} {k1 : Nat} {p1 : Pos} {e : Expr} {env : Env} (h : isTup2 e = false) : swappedStores [.Tuple ts k1 p1] e env = pure none := by
  unfold swappedStores
  cases e <;> first | rfl | (simp [isTup2, isTupE, isComp] at h; done)
theorem s_asg1W (sn : Snd kin gt r) (s : Sok kin gt Y k C g X W) {x : Str} {px pos : Pos} {e : Expr} {i : S1} (h : asg1W gt r g x px e = some i) : PS X (.Assign [.Name x px] e pos) (tS Y W (evS kin C i)) := by
  unfold asg1W at h
  simp only [Option.bind_eq_bind, Option.bind_eq_some_iff] at h
  obtain ⟨j, hj, h⟩ := h
  obtain ⟨h1, h2, h3⟩ := tgt_ok s.o hj
  split at h
  · rename_i t a b hif
    simp only [Option.bind_eq_some_iff, Option.some.injEq] at h
    obtain ⟨q, hq, y, hy, z, hz, rfl⟩ := h
    refine ps_fzW ?_
    unfold ifoC at hif
    split at hif
    · rename_i t' a' b' p'
      split at hif
      · rename_i c
        cases hif
        rw [Bool.and_eq_true] at c
        exact (ps_set s.o.ox.nd h1 h2 (pe_ifExp (sn.q g _ q X Y k C W hq s.o) (sn.n g _ y X Y k C W c.2 hy s.o) (sn.e g false _ z X Y k C W hz s.o)) (swE_ok (l := pos.line) (px := px) s (b := false) rfl) h3).imp fun D σ H h => t_ifo h
      · cases hif
    · cases hif
  rename_i hif0
  clear hif0
  simp only [Option.bind_eq_some_iff, Option.some.injEq] at h
  obtain ⟨y, hy, sw, hsw, rfl⟩ := h
  split
  · rename_i hmk
    have hs := swE_ok (l := pos.line) s hsw
    have hsw' : sw = false := by
      rw [Bool.and_eq_true] at hmk
      have hm := hmk.1
      unfold isMk at hm
      split at hm
      · cases hsw; rfl
      · cases hm
    subst hsw'
    exact (ps_set s.o.ox.nd h1 h2 (sn.e g false e y X Y k C W hy s.o) hs h3).imp fun D σ H h => t_brw h
  rename_i hno
  clear hno
  have hs := swE_ok (l := pos.line) s hsw
  refine ps_fzW ?_
  cases sw with
  | true =>
    -- a comprehension on the name's own line
    unfold swE at hsw
    split at hsw
    · rename_i elt gs scope p
      simp only [Option.some.injEq, Bool.and_eq_true, beq_iff_eq] at hsw
      have hl : X.env.scope.names.lookup x = some .local := by rw [s.o.sc]; exact hsw.1.1
      have key : PS X (.Assign [.Name x px] (.ListComp elt gs scope p) pos) (tAsg (tN Y W (evE kin C y)) (gName j)) := by
        have hy' : (r g).e false (.ListComp elt gs scope p) = some y := hy
        exact sn.l g elt gs scope p pos px x j y X Y k C W hy' s.o h1 hl hs
      split
      · exact key.imp fun D σ H h => t_own h
      · rw [if_neg (by simp [isAddE])]
        exact key.imp fun D σ H h => t_asgN h
    · cases hsw
    · cases hsw
    · cases hsw
  | false =>
    split
    · rename_i ho
      rw [Bool.and_eq_true] at ho
      have he : PE X e (tN Y W (evE kin C y)) := sn.n g e y X Y k C W ho.2 hy s.o
      exact (ps_set s.o.ox.nd h1 h2 he hs h3).imp fun D σ H h => t_own h
    · split
      · rename_i ho
        rw [Bool.and_eq_true] at ho
        exact (ps_set s.o.ox.nd h1 h2 (sn.a g e y X Y k C W ho.2 hy s.o) hs h3).imp fun D σ H h => t_owd h
      · exact (ps_set s.o.ox.nd h1 h2 (sn.e g false e y X Y k C W hy s.o) hs h3).imp fun D σ H h => t_asg1 h
/-- the names of swapped stores -/
def nmL (g : Cfg) (line : Nat) : Expr → Option Str
  | .Name id pos => if g.sc.names.lookup id == some .local && pos.line == line then some id else none
  | _ => none
theorem nmL_some {line : Nat} {e : Expr} {n : Str} (h : nmL g line e = some n) : ∃ p, e = .Name n p ∧ g.sc.names.lookup n = some .local := by
  unfold nmL at h
  split at h
  · split at h
    · rename_i c
      cases h
      exact ⟨_, rfl, beq_iff_eq.mp ((Bool.and_eq_true _ _).mp c).1⟩
    · cases h
  · cases h
theorem swpC_some {ts vs : List Expr} {names : List Str} (h : swpC g ts vs = some (some names)) : ts.filterMap (nmL g ((ts.head?.map (·.pos.line)).getD 0)) = names ∧ names.length = ts.length := by
  unfold swpC at h
  split at h
  · cases h
  split at h
  · cases h
  simp only at h
  split at h
  · cases h
  rename_i c3
  split at h
  · cases h
  split at h
  · cases h
  simp only [Bool.or_eq_true, bne_iff_ne, ne_eq, not_or, Decidable.not_not] at c3
  cases h
  have e : (fun e => match e with
      | .Name id pos => if g.sc.names.lookup id == some .local && pos.line == (ts.head?.map (·.pos.line)).getD 0 then some id else none
      | _ => none) = nmL g ((ts.head?.map (·.pos.line)).getD 0) := by
    funext e
    cases e <;> rfl
  exact ⟨by rw [← e]; try rfl, c3.1⟩
theorem fm_all {α β : Type} {f : α → Option β} : ∀ {l : List α}, (l.filterMap f).length = l.length → ∀ x ∈ l, ∃ y, f x = some y
  | [], _, x, hx => by cases hx
  | a :: l, h, x, hx => by
    rw [List.filterMap_cons] at h
    cases hf : f a with
    | none =>
      rw [hf] at h
      have := List.length_filterMap_le f l
      simp only [List.length_cons] at h
      omega
    | some b =>
      rw [hf] at h
      rcases List.mem_cons.mp hx with rfl | hx
      · exact ⟨b, hf⟩
      · exact fm_all (Nat.succ.inj h) x hx
theorem par_gen (s : Sok kin gt Y k C g X W) {ts vs : List Expr} {k1 k2 : Nat} {p1 p2 pos : Pos} {names : List Str} {is : List Nat} {ta : TA} {t' : TS} (hsw : swpC g ts vs = some (some names)) (hl : ts.length = vs.length) (his : tgts g ts = some is) (hnd : nodupB is = true) (hh : g.hot = false) (ha : PA X vs ta)
    (f2 : ∀ i j, is = [i, j] → ∀ D σ H, t' D σ H → tPar i j ta D σ H) (f3 : ∀ i j l, is = [i, j, l] → ∀ D σ H, t' D σ H → tPar3 i j l ta D σ H) (h23 : ts.length = 2 ∨ ts.length = 3) :
    PS X (.Assign [.Tuple ts k1 p1] (.Tuple vs k2 p2) pos) t' := by
  have hsok := swp_ok (k1 := k1) (k2 := k2) (p1 := p1) (p2 := p2) s hsw
  obtain ⟨hn, hnl⟩ := swpC_some hsw
  have hnd := nodup_of hnd
  have all := fm_all (f := nmL g ((ts.head?.map (·.pos.line)).getD 0)) (l := ts) (by rw [hn, hnl])
  have lc : ∀ {n : Str}, g.sc.names.lookup n = some .local → X.env.scope.names.lookup n = some .local := fun {n} q => by rw [s.o.sc]; exact q
  rcases h23 with h2 | h3
  · obtain ⟨t1, t2, rfl⟩ : ∃ a b, ts = [a, b] := by
      match ts, h2 with
      | [a, b], _ => exact ⟨a, b, rfl⟩
    obtain ⟨v1, v2, rfl⟩ : ∃ a b, vs = [a, b] := by
      match vs, hl with
      | [a, b], _ => exact ⟨a, b, rfl⟩
    obtain ⟨n1, e1⟩ := all t1 (by simp)
    obtain ⟨n2, e2⟩ := all t2 (by simp)
    obtain ⟨q1, rfl, l1⟩ := nmL_some e1
    obtain ⟨q2, rfl, l2⟩ := nmL_some e2
    simp only [tgts, Option.bind_eq_bind, Option.bind_eq_some_iff, Option.some.injEq] at his
    obtain ⟨i1, hi1, _, ⟨i2, hi2, _, rfl, rfl⟩, rfl⟩ := his
    have hne : i1 ≠ i2 := by
      have := (List.nodup_cons.mp hnd).1
      simpa using this
    have hnames : names = [n1, n2] := by
      rw [← hn]
      simp only [List.filterMap_cons, List.filterMap_nil, e1, e2]
    rw [hnames] at hsok
    exact (ps_par (s.o.ox.calm hh) s.o.ox.nd (tgt_ok s.o hi1).1 (tgt_ok s.o hi2).1 hne (lc l1) (lc l2) ha hsok rfl).imp fun D σ H h => f2 _ _ rfl D σ H h
  · obtain ⟨t1, t2, t3, rfl⟩ : ∃ a b c, ts = [a, b, c] := by
      match ts, h3 with
      | [a, b, c], _ => exact ⟨a, b, c, rfl⟩
    obtain ⟨v1, v2, v3, rfl⟩ : ∃ a b c, vs = [a, b, c] := by
      match vs, hl with
      | [a, b, c], _ => exact ⟨a, b, c, rfl⟩
    obtain ⟨n1, e1⟩ := all t1 (by simp)
    obtain ⟨n2, e2⟩ := all t2 (by simp)
    obtain ⟨n3, e3⟩ := all t3 (by simp)
    obtain ⟨q1, rfl, l1⟩ := nmL_some e1
    obtain ⟨q2, rfl, l2⟩ := nmL_some e2
    obtain ⟨q3, rfl, l3⟩ := nmL_some e3
    simp only [tgts, Option.bind_eq_bind, Option.bind_eq_some_iff, Option.some.injEq] at his
    obtain ⟨i1, hi1, _, ⟨i2, hi2, _, ⟨i3, hi3, _, rfl, rfl⟩, rfl⟩, rfl⟩ := his
    have d1 := List.nodup_cons.mp hnd
    have d2 := List.nodup_cons.mp d1.2
    have n12 : i1 ≠ i2 := fun z => d1.1 (by simp [z])
    have n13 : i1 ≠ i3 := fun z => d1.1 (by simp [z])
    have n23 : i2 ≠ i3 := fun z => d2.1 (by simp [z])
    have hnames : names = [n1, n2, n3] := by
      rw [← hn]
      simp only [List.filterMap_cons, List.filterMap_nil, e1, e2, e3]
    rw [hnames] at hsok
    exact (ps_par3 (s.o.ox.calm hh) s.o.ox.nd (tgt_ok s.o hi1).1 (tgt_ok s.o hi2).1 (tgt_ok s.o hi3).1 n12 n13 n23 (lc l1) (lc l2) (lc l3) ha hsok rfl).imp fun D σ H h => f3 _ _ _ rfl D σ H h
theorem s_parW (sn : Snd kin gt r) (s : Sok kin gt Y k C g X W) {ts vs : List Expr} {k1 k2 : Nat} {p1 p2 pos : Pos} {names : List Str} {i : S1} (hsw : swpC g ts vs = some (some names)) (hl : ts.length = vs.length) (h : parW gt r g ts vs = some i) (h23 : ts.length = 2 ∨ ts.length = 3) :
    PS X (.Assign [.Tuple ts k1 p1] (.Tuple vs k2 p2) pos) (tS Y W (evS kin C i)) := by
  unfold parW at h
  simp only [Option.bind_eq_bind, Option.bind_eq_some_iff] at h
  obtain ⟨is, his, es, hes, h⟩ := h
  split at h
  · rename_i c
    simp only [Bool.and_eq_true, Bool.not_eq_true'] at c
    obtain ⟨⟨hnd, hh⟩, hst⟩ := c
    split at h
    · cases h
      refine ps_fzW ?_
      exact par_gen s hsw hl his hnd hh (s_es sn s.o vs es hes) (fun i j e D σ H h => by subst e; exact t_par2 h) (fun i j l e D σ H h => by subst e; exact t_par3 h) h23
    · split at h
      · rename_i c2
        cases h
        refine ps_fzW ?_
        have hil : is.length = vs.length := by
          have key : ∀ {ts : List Expr} {is : List Nat}, tgts g ts = some is → is.length = ts.length := by
            intro ts
            induction ts with
            | nil => intro is h; cases h; rfl
            | cons t ts ih =>
              intro is h
              unfold tgts at h
              split at h
              · cases ‹t :: ts = []›
              · rename_i e
                cases e
                simp only [Option.bind_eq_bind, Option.bind_eq_some_iff, Option.some.injEq] at h
                obtain ⟨i, _, js, hj, rfl⟩ := h
                rw [List.length_cons, List.length_cons, ih hj]
              · cases h
          rw [key his, hl]
        have hx : PA X vs (tMx Y W (newF gt g is vs) (evEs kin C es)) := s_mx sn s.o vs (newF gt g is vs) es hst (by unfold newF; rw [List.length_map, List.length_zip, hil, Nat.min_self]) (fun p hp hb => by
          have key : ∀ {is : List Nat} {vs : List Expr}, p ∈ (newF gt g is vs).zip vs → p.1 = true → isNwE gt g p.2 = true := by
            intro is
            induction is with
            | nil => intro vs h; unfold newF at h; simp at h
            | cons i is ih =>
              intro vs h hb
              cases vs with
              | nil => unfold newF at h; simp at h
              | cons v vs =>
                unfold newF at h
                rw [List.zip_cons_cons, List.map_cons, List.zip_cons_cons] at h
                rcases List.mem_cons.mp h with rfl | h
                · exact ((Bool.and_eq_true _ _).mp hb).2
                · exact ih h hb
          exact key hp hb) hes
        exact par_gen s hsw hl his hnd hh hx (fun i j e D σ H h => by subst e; exact t_paro2 h) (fun i j l e D σ H h => by subst e; exact t_paro3 h) h23
      · cases h
  · cases h
theorem h1_pat {tg : Expr} {p : List Nat} {env : Env} (h : patW g tg = some p) : (assignEach [tg] env).map (·.2) = [assign tg env] := by
  unfold patW at h
  split at h
  · rfl
  · rfl
  · cases h
theorem s_hdsW {rec : Cfg → List Stmt → Option Ss} {V : Wd} (rk : Rok kin gt rec) (s : Sok kin gt Y k C g X W) (av : AtW V X) : ∀ {hs : List ExceptHandler} {q : Hs}, hdsW gt rec g hs = some q → ∃ l, ClOk X hs l ∧ HsS Y kin C l q
  | [], q, h => by cases h; exact ⟨[], .nil, .nil⟩
  | hd :: hs, q, h => by
    unfold hdsW at h
    split at h
    · cases ‹hd :: hs = []›
    · rename_i x px nm b suite pp hs' he
      cases he
      split at h
      · rename_i c hg
        simp only [Option.bind_eq_bind, Option.bind_eq_some_iff] at h
        obtain ⟨i, hi, bb, hb, q', hq, h⟩ := h
        split at h
        · rename_i hn
          cases h
          obtain ⟨n1, n2, n3⟩ := okName_ok hn
          obtain ⟨hgl, Ca, hm, hc⟩ := glo_ok s.o hg
          obtain ⟨l, hl1, hl2⟩ := s_hdsW rk s av hq
          refine ⟨⟨.ref Ca, i, fun a cls d => tS (Y.hot a cls d) WF (evSs kin C bb)⟩ :: l, .cons ⟨hgl, n1, .inl hm⟩ ?_ (fun a oe cls d pn hz hd => rk _ _ _ k C WF V _ _ hb (suite_sok s hz hd) av Sms.hot) hl1, .cons ⟨rfl, ⟨Ca, hc, rfl⟩, fun _ _ _ => rfl⟩ hl2⟩
          cases nm with
          | none => cases hi; exact trivial
          | some n =>
            have hi : (if (g.sc.names.lookup n == some .local) = true then (g.N.findIdx? (· == n)).map some else none) = some i := hi
            split at hi
            · rename_i hloc
              simp only [Option.map_eq_some_iff] at hi
              obtain ⟨j, hj, rfl⟩ := hi
              refine ⟨by rw [s.o.N]; exact findIdx_get hj, ?_⟩
              show X.env.scope.names.lookup n = _
              rw [s.o.sc]
              exact beq_iff_eq.mp hloc
            · cases hi
        · cases h
      · cases h
    · cases h
theorem s_stW {rec : Cfg → List Stmt → Option Ss} {V : Wd} (sn : Snd kin gt r) (rk : Rok kin gt rec) (s : Sok kin gt Y k C g X W) (av : AtW V X) (ms : Sms kin gt Y k C V) {st : Stmt} {i : S1} (h : stW kin gt r rec g st = some i) : PS X st (tS Y W (evS kin C i)) := by
  unfold stW at h
  split at h
  · exact s_asg1W sn s h
  · split at h
    · rename_i names hsw
      split at h
      · rename_i c
        simp only [Bool.and_eq_true, beq_iff_eq, Bool.or_eq_true] at c
        exact s_parW sn s hsw c.1 h c.2
      · cases h
    · rename_i hsw
      unfold asgW at h
      simp only [Option.bind_eq_bind, Option.bind_eq_some_iff, Option.some.injEq] at h
      obtain ⟨p, hp, y, hy, rfl⟩ := h
      refine ps_fzW ?_
      exact (ps_asg (sn.e g false _ y X Y k C W hy s.o) (pg_pat s.o hp) sole_tup (swp_ok s hsw) (h1_pat hp)).imp fun D σ H h => t_asg h
    · cases h
  · split at h
    · cases h
    · rename_i hc
      have hc := (Bool.not_eq_true _).mp hc
      unfold asgW at h
      simp only [Option.bind_eq_bind, Option.bind_eq_some_iff, Option.some.injEq] at h
      obtain ⟨p, hp, y, hy, rfl⟩ := h
      refine ps_fzW ?_
      exact (ps_asg (sn.e g false _ y X Y k C W hy s.o) (pg_pat s.o hp) (sole_ok hc) (swapped_ok hc) (h1_pat hp)).imp fun D σ H h => t_asg h
  · split at h
    · cases h
    · rename_i hc
      have hc := (Bool.not_eq_true _).mp hc
      split at h
      · rename_i j hj
        simp only [Option.bind_eq_bind, Option.bind_eq_some_iff] at h
        obtain ⟨y, hy, h⟩ := h
        split at h
        · rename_i c
          cases h
          obtain ⟨n1, n2, n3⟩ := okName_ok c
          obtain ⟨e1, e2⟩ := loc_ok s.o hj
          exact ps_fzW (s_fst s e1 e2 n1 n2 (sn.e g false _ y X Y k C W hy s.o) (sole_at hc))
        · cases h
      · cases h
  · split at h
    · rename_i j hj
      simp only [Option.bind_eq_bind, Option.bind_eq_some_iff] at h
      obtain ⟨y, hy, h⟩ := h
      split at h
      · rename_i c
        cases h
        simp only [Bool.and_eq_true, Bool.not_eq_true'] at c
        obtain ⟨n1, n2, n3⟩ := okName_ok c.1.1
        obtain ⟨e1, e2⟩ := loc_ok s.o hj
        exact ps_fzW (s_app1 s e1 e2 n1 n2 (sn.e g false _ y X Y k C W hy s.o) c.1.2 c.2)
      · cases h
    · cases h
  · split at h
    · cases h
    · rename_i hc
      have hc := (Bool.not_eq_true _).mp hc
      simp only [Option.bind_eq_bind, Option.bind_eq_some_iff, Option.some.injEq] at h
      obtain ⟨y, hy, rfl⟩ := h
      exact ps_fzW (s_expr (sn.e g false _ y X Y k C W hy s.o) (drop_ok hc))
  · simp only [Option.bind_eq_bind, Option.bind_eq_some_iff, Option.some.injEq] at h
    obtain ⟨y, hy, rfl⟩ := h
    exact ps_fzW (s_ret (sn.e g false _ y X Y k C W hy s.o))
  · cases h; exact s_retn
  · cases h; exact s_pass
  · cases h; exact s_brk
  · cases h; exact s_cont
  · simp only [Option.bind_eq_bind, Option.bind_eq_some_iff, Option.some.injEq] at h
    obtain ⟨q, hq, x, hx, y, hy, rfl⟩ := h
    exact ps_fzW (s_if (sn.q g _ q X Y k C W hq s.o) (rk g X Y k C W V _ x hx s av ms) (rk g X Y k C W V _ y hy s av ms))
  · split at h
    · cases h
    · rename_i hc
      simp only [Bool.or_eq_true, not_or, Bool.not_eq_true] at hc
      simp only [Option.bind_eq_bind, Option.bind_eq_some_iff] at h
      obtain ⟨p, hp, it, hit, b, hb, h⟩ := h
      split at h
      · cases h
      · rename_i hpr
        cases h
        simp only [Bool.and_eq_true, Bool.not_eq_true', not_and, Bool.not_eq_false] at hpr
        exact ps_fzW (s_for s hc.1 (sn.i g false _ _ it X Y k C W hit s.o hpr) (pg_pat s.o hp) (rk g X Y k C W V _ b hb s av ms) hc.2)
  · split at h
    · cases h
    · rename_i hc
      simp only [Option.bind_eq_bind, Option.bind_eq_some_iff, Option.some.injEq] at h
      obtain ⟨q, hq, b, hb, rfl⟩ := h
      exact s_whl s (by simpa using hc) (sn.q g _ q X Y k C W hq s.o) (rk g X Y k C W V _ b hb s av ms)
  · split at h
    · cases h
    · rename_i hc
      have hh : g.hot = false := by simpa using hc
      split at h
      · rename_i c hg
        split at h
        · rename_i f hf
          simp only [Option.bind_eq_bind, Option.bind_eq_some_iff] at h
          obtain ⟨y, hy, h⟩ := h
          split at h
          · rename_i c2
            cases h
            simp only [Bool.and_eq_true, Bool.not_eq_true'] at c2
            exact ps_fzW (s_rse s (ms g X W s av hh) hh hg hf c2.1 c2.2 (sn.e g false _ y X Y k C W hy s.o))
          · cases h
        · cases h
      · cases h
  · split at h
    · cases h
    · rename_i hc
      have hh : g.hot = false := by simpa using hc
      simp only [Option.bind_eq_bind, Option.bind_eq_some_iff, Option.some.injEq] at h
      obtain ⟨b, hb, q, hq, rfl⟩ := h
      obtain ⟨l, hl1, hl2⟩ := s_hdsW rk s av hq
      exact (ps_tryG s.stk s.frm s.o.ox.nd s.o.tk (fun W' pn xe tk po => rk g _ Y k C W' V _ b hb (tr_sok s hh tk po) av ms) hl1).imp fun D σ H h => t_try s.o.ox.hK s.o.kok (s.o.cold hh) hl2 h
  · cases h
theorem rok_cp (kin : Kin) (gt : Gt) (r : Cfg → Cp) (sn : Snd kin gt r) : ∀ n, Rok kin gt (cpSs kin gt r n)
  | 0 => fun g X Y k C W V sts b h => by
    unfold cpSs at h
    cases h
  | n + 1 => fun g X Y k C W V sts b h s av ms => by
    cases sts with
    | nil =>
      unfold cpSs at h
      cases h
      exact s_nil
    | cons st rest =>
      unfold cpSs at h
      simp only [Option.bind_eq_bind, Option.bind_eq_some_iff, Option.some.injEq] at h
      obtain ⟨a, ha, b', hb, rfl⟩ := h
      exact s_cons (s_stW sn (rok_cp kin gt r sn n) s av ms ha) (rok_cp kin gt r sn n g X Y k C W V rest b' hb s av ms)
end
end RM
end
section
set_option Elab.async false
set_option linter.all false
set_option maxRecDepth 100000
set_option autoImplicit false
/-! defs by their bodies -/
namespace RM
open PySem PySem.Spec PyProof.Rows L2

/-- a def's names: N, its scope; own: the names of its own lists -/
def fnCfg (N : List Str) (sc : Scope) (own : List Nat) (lam : Bool := false) (thk : Option Nat := none) (ins : List Nat := []) : Cfg := ⟨N, sc, fun _ => true, false, none, own, thk, lam, ins⟩
theorem sr_start {Y : Tx} {G : Gh} {H : Hp} {vs : List V} {ds : List D} {N : List Str} (r : RDs Y G H vs ds) (ht : Y.thk = none) : SR Y H G H (L2.start N vs) (ds.map Slot.val ++ List.replicate (N.length - ds.length) Slot.emp) := by
  have hl := r.length
  have get : ∀ {i : Nat} {s : Slot}, (ds.map Slot.val ++ List.replicate (N.length - ds.length) Slot.emp)[i]? = some s → s = .emp ∨ ∃ d, s = .val d ∧ ds[i]? = some d := fun {i s} h => by
    rw [List.getElem?_append] at h
    split at h
    · rw [List.getElem?_map, Option.map_eq_some_iff] at h
      obtain ⟨d, h1, h2⟩ := h
      exact .inr ⟨d, h2.symm, h1⟩
    · rw [List.getElem?_replicate] at h
      split at h
      · cases h; exact .inl rfl
      · cases h
  refine ⟨by simp [L2.start, hl], fun i s h => ?_, fun i j xs ys a h1 => ?_, fun z hz => by rw [ht] at hz; cases hz⟩
  · rcases get h with rfl | ⟨d, rfl, hd⟩
    · trivial
    · obtain ⟨v, hv, rv⟩ := r.get' hd
      refine ⟨v, ?_, rv⟩
      unfold L2.start
      rw [List.getElem?_append_left (by rw [List.length_map]; exact (List.getElem?_eq_some_iff.mp hv).1), List.getElem?_map, hv]
      rfl
  · rcases get h1 with z | ⟨d, z, _⟩ <;> cases z

/-- a def's lambdas, told of what stands around -/
structure LamW (gt : Gt) (Y : Tx) (k : Nat) (C : Orc) (V : Wd) (cdv : Value) (qual : Str) : Prop where
  tab : ∃ c P, LamX.TabB V.base V.mg c P ∧ cdv = .ref c ∧ (P, qual ++ ".<locals>." ++ "<lambda>") ∈ Y.tabs
  one : ∀ p ∈ Y.tabs, ∀ q ∈ Y.tabs, p.1 = q.1 → p = q
  hof : ∀ x, gt.lookup x = some .hof → ∃ f, V.mg x = some (.ref f) ∧ PySem.W.keepIn Y.K (.ref f) = true ∧ FnT V.P V.w Y.K V.mg V.base (k + 3) f Y (C.hof x)
/-- by its body; the last parameters by their defaults dD -/
theorem fn_okD {dvs : List V} {us0 : List Value} {dD : List D} {m : Nat} {kin : Kin} {gt : Gt} {r : Cfg → Cp} {Y : Tx} {k : Nat} {C : Orc} {V : Wd} {f : Addr} {name qual : Str} {params : Arguments} {body : List Stmt} {scope : Scope} {dV kV doc pm cdv ct oc : Value} {an od : Option Addr} {osl : Array (Option Value)} {N ps : List Str} {own : List Nat} {lam : Bool} {ins : List Nat} {n : Nat} {b : Ss}
    (sn : Snd kin gt r) (lk : Y.K.lookup f = some ⟨oc, od, .func (PySem.W.fnOf name qual params body scope dV kV doc pm an cdv ct), osl⟩) (hcd : PySem.W.codeIn Y.K cdv qual = true) (sc : FnScope N ps scope) (hb : Binds Y.K (PySem.W.fnOf name qual params body scope dV kV doc pm an cdv ct) ps us0) (hdv : Vals dvs us0) (hdD : ∀ G H, RDs Y G H dvs dD) (hmn : m + dvs.length = ps.length)
    (hY : Y.cur = none) (hth : Y.thk = none) (hl : lam = true → LamW gt Y k C V cdv qual) (kok : KinOk kin Y) (sys : ∃ o, V.base.get? sysModules = some o) (gtk : GtOk false gt Y k C V.P V.w Y.K V.mg V.base) (ms : Sms kin gt Y k C V) (hc : cpSs kin gt r n (fnCfg N scope own lam none ins) body = some b) :
    FnG V.P V.w Y.K V.mg V.base (k + 4) f m (spG Y m fun xs => runF kin C (N.length - ps.length) b (xs ++ dD)) := by
  refine FnG.ofD (k := k + 3) lk hcd sc hb hdv hmn (fun vs H Q E h => h.1) fun A outer s H vs Q E hr3 hg hsp => ?_
  have hr := hr3.mono (show k ≤ k + 3 by omega)
  obtain ⟨hlen, G, S, ds, ok, rs, w⟩ := hsp
  have tk : Takes (cxOf (L2.CX V.P V.w) V.P V.w Y.K V.mg V.base N qual scope f cdv A outer s H E) (fun cls d _ H => E cls d H) := takes_of rfl rfl rfl rfl
  have so : Sok kin gt Y k C (fnCfg N scope own lam none ins) (cxOf (L2.CX V.P V.w) V.P V.w Y.K V.mg V.base N qual scope f cdv A outer s H E) (fun cls d _ H => E cls d H) :=
    { o := { ox := ⟨sc.nd, fun _ => rfl, rfl, fun _ => hr, (by have h := hr.un; show (A.deeper (envOfC qual scope s.heap.objs.size f cdv)).units + 200 < cLine; omega), hg, sys, fun _ => hr3.mono (by omega)⟩, N := rfl, sc := rfl, fn := rfl, tk := tk, cold := fun _ => hY, kok := kok, cur := fun a cls dx e => by (rw [hY] at e; cases e), lm := fun z => ⟨hr3, (hl z).tab, (hl z).one, (hl z).hof⟩, th := (fun i z => nomatch z), gt := gtk },
      po := fun _ => passes_of rfl, stk := rfl, frm := rfl, kd := sc.kind }
  refine ⟨_, rok_cp kin gt r sn n _ _ Y k C _ V body b hc so ⟨rfl, rfl, rfl, rfl⟩ ms, ?_⟩
  have rs := rs.append (hdD G H)
  have hdl : (ds ++ dD).length = ps.length := by rw [← rs.length, List.length_append, hlen]; exact hmn
  unfold runF at w
  rw [← hdl] at w
  refine ⟨H, Ext G H, G, _, S, Bs.entry, ok, Ext.refl, sr_start (N := N) rs hth, wpM_mono (wpM_quiet (wpM_bind.mp w)) (fun o S1 w1 => ?_) fun _ _ z => z⟩
  cases o with
    | nx ρ => exact fun G1 H1 σ e1 ok1 sr1 => w1 G1 H1 .non e1 ok1 .non
    | ret d => exact fun G1 H1 v e1 ok1 r1 => w1 G1 H1 v e1 ok1 r1
    | exc x ρ => exact fun G1 H1 cls dx σ e1 ok1 rx sr1 => w1 G1 H1 cls dx e1 ok1 rx
    | brk ρ => exact w1.elim
    | cont ρ => exact w1.elim
theorem fn_ok {kin : Kin} {gt : Gt} {r : Cfg → Cp} {Y : Tx} {k : Nat} {C : Orc} {V : Wd} {f : Addr} {name qual : Str} {params : Arguments} {body : List Stmt} {scope : Scope} {dV kV doc pm cdv ct oc : Value} {an od : Option Addr} {osl : Array (Option Value)} {N ps : List Str} {own : List Nat} {lam : Bool} {ins : List Nat} {n : Nat} {b : Ss}
    (sn : Snd kin gt r) (lk : Y.K.lookup f = some ⟨oc, od, .func (PySem.W.fnOf name qual params body scope dV kV doc pm an cdv ct), osl⟩) (hcd : PySem.W.codeIn Y.K cdv qual = true) (sc : FnScope N ps scope) (hb : Binds Y.K (PySem.W.fnOf name qual params body scope dV kV doc pm an cdv ct) ps [])
    (hY : Y.cur = none) (hth : Y.thk = none) (hl : lam = true → LamW gt Y k C V cdv qual) (kok : KinOk kin Y) (sys : ∃ o, V.base.get? sysModules = some o) (gtk : GtOk false gt Y k C V.P V.w Y.K V.mg V.base) (ms : Sms kin gt Y k C V) (hc : cpSs kin gt r n (fnCfg N scope own lam none ins) body = some b) :
    FnG V.P V.w Y.K V.mg V.base (k + 4) f ps.length (spG Y ps.length (runF kin C (N.length - ps.length) b)) := by
  have := fn_okD (dD := []) (m := ps.length) sn lk hcd sc hb .nil (fun _ _ => .nil) (Nat.add_zero _) hY hth hl kok sys gtk ms hc
  simp only [List.append_nil] at this
  exact this
end RM
end
section
set_option Elab.async false
set_option linter.all false
set_option maxRecDepth 100000
set_option autoImplicit false
/-! own exceptions made: __init__ says super().__init__(text), then self.f = v -/
namespace RM
open PySem PySem.Spec PyProof.Rows L2 PySem.W

/-- a built-in class of exceptions that an own one hangs on -/
structure XBase (B newId initId : String) (tl : List Value) : Prop where
  F : ExcBaseFacts B newId initId tl
  S : StoreFacts B tl "object.__setattr__" "object"
  kxs : KxsFacts B initId
  ne : tl.isEmpty = false
/-- own classes, then the built-in one's mro -/
def refsB (tl : List Value) : List Value → Bool
  | .ref _ :: r => refsB tl r
  | l => l == tl
theorem refsB_cases {tl : List Value} : ∀ ls : List Value, refsB tl ls = true → (∃ cc rr, ls = .ref cc :: rr ∧ refsB tl rr = true) ∨ ls = tl
  | [], ee => .inr (beq_iff_eq.mp ee)
  | .ref cc :: rr, ee => .inl ⟨cc, rr, rfl, ee⟩
  | .none :: _, ee => .inr (beq_iff_eq.mp ee)
  | .ellipsis :: _, ee => .inr (beq_iff_eq.mp ee)
  | .notImplemented :: _, ee => .inr (beq_iff_eq.mp ee)
  | .bool _ :: _, ee => .inr (beq_iff_eq.mp ee)
  | .int _ _ :: _, ee => .inr (beq_iff_eq.mp ee)
  | .float _ _ :: _, ee => .inr (beq_iff_eq.mp ee)
  | .str _ _ :: _, ee => .inr (beq_iff_eq.mp ee)
  | .bytes _ _ :: _, ee => .inr (beq_iff_eq.mp ee)
  | .type _ :: _, ee => .inr (beq_iff_eq.mp ee)
  | .builtin _ :: _, ee => .inr (beq_iff_eq.mp ee)
theorem refsB_pass {B newId initId : String} {tl : List Value} (X : XBase B newId initId tl) (self : Value) : ∀ ls : List Value, refsB tl ls = true → refuseLoop self "__setattr__" ls = pure () := by
  intro ls
  induction ls with
  | nil =>
    intro ee
    have : ([] : List Value) = tl := beq_iff_eq.mp ee
    exact absurd X.ne (by rw [← this]; decide)
  | cons aa rr ihr =>
    intro ee
    rcases refsB_cases (aa :: rr) ee with ⟨cc, r', qq, h⟩ | qq
    · obtain ⟨rfl, rfl⟩ := List.cons.inj qq
      rw [refuseLoop_ref]; exact ihr h
    · rw [qq]; exact X.S.passes self
theorem refsB_contains {tl : List Value} (nE : tl.isEmpty = false) (Y : String) : ∀ ls : List Value, refsB tl ls = true → ls.contains (.type Y) = tl.contains (.type Y) := by
  intro ls
  induction ls with
  | nil =>
    intro ee
    have : ([] : List Value) = tl := beq_iff_eq.mp ee
    rw [this]
  | cons aa rr ihr =>
    intro ee
    rcases refsB_cases (aa :: rr) ee with ⟨cc, r', qq, h⟩ | qq
    · obtain ⟨rfl, rfl⟩ := List.cons.inj qq
      rw [List.contains_cons, ihr h]; rfl
    · rw [qq]
theorem refsB_ne {tl ls : List Value} (nE : tl.isEmpty = false) (ee : refsB tl ls = true) : ls.isEmpty = false := by
  cases ls with
  | nil =>
    have : ([] : List Value) = tl := beq_iff_eq.mp ee
    exact absurd nE (by rw [← this]; decide)
  | cons _ _ => rfl
section
variable {P : Program} {w : World} {A : Around} {R : Result → Shared → Prop} {hp : Heap} {g : Array GenState} {d : Drawn} {t : Nat} {os : OsState}
/-- the first field of an exception of such aa class -/
theorem exc_osaB {B newId initId : String} {tl : List Value} (XB : XBase B newId initId tl) {K : Frag} {name : Str} {tk : Tok} {v : Value} {x C : Addr} {fvs : Array Value} {cdt : ClassData}
    (X : K.In hp) (hX : hp.get? x = some { cls := .ref C, data := .fields fvs }) (cdK : clsIn K C = some cdt) (hM : refsB tl cdt.mro = true) (hH : cdt.hasDict = true) (hA : findIn K (.ref C) name = some none)
    (hQ : ∀ hp1 tk1 dx, (∀ b o, b ≠ x → hp.get? b = some o → hp1.get? b = some o) → hp.objs.size ≤ dx → dx ≠ x → hp1.get? x = some { cls := .ref C, dict := some dx, data := .fields fvs } →
      hp1.Ns1 dx (fun y => if y = name then some v else none) → R (.ok (.ret .none)) ⟨hp1, g, d, tk1, os⟩) :
    codeAny (model P w) A (.call (.builtin "object.__setattr__") ⟨[.ref x, .str name tk, v], []⟩) R ⟨hp, g, d, t, os⟩ := by
  have Ix : InstAt hp x { cls := .ref C, data := .fields fvs } C none := ⟨hX, rfl, rfl, trivial⟩
  have so := F.store_object
  have nE := refsB_ne XB.ne hM
  have hOb : cdt.mro.contains (.type "object") = true := (refsB_contains XB.ne "object" _ hM).trans XB.S.hasOwner
  have hXs : x ≠ hp.objs.size := Nat.ne_of_lt (Heap.lt_size hX)
  have sB : Looks (model P w) hp (isInstance (.ref x) (.type "object")) true := Ix.type.andThen (looks_mroIn X (by unfold mroIn; rw [cdK, Option.bind_some, if_neg (by rw [nE]; decide), hOb]))
  refine codeAny_call_builtin so.slot.plain so.entry (@check_slot (model P w) _ _ ⟨hp, g, d, t, os⟩ "object.__setattr__" "object" "__setattr__" (.ref x) [.str name tk, v] [] _ so.kind so.split sB (so.args (.ref x) (.str name tk) v) ?_)
  have hMr : Looks (model P w) hp (mroOf (.ref C)) cdt.mro := (looks_clsIn X cdK).andThen .now
  have lT : Looks (model P w) hp (Builtin.ObjectAttr.storeTaker? none) none := .now
  have hCl : Looks (model P w) hp (classData C) cdt := looks_clsIn X cdK
  rw [osa_eq, refuse_eq]
  refine wpAny_bind (wpAny_bind (Ix.type.at (wpAny_bind (hMr.at ?_))))
  rw [refsB_pass XB _ _ hM]
  refine wpAny_pure (wpAny_bind (Ix.type.at (wpAny_bind ((looks_findIn X hA).at (wpAny_bind (lT.at ?_))))))
  show wpAny _ _ (Builtin.ObjectAttr.storeInOwnDict (.ref x) (.ref C) (.str name tk) name v false) _ _ _
  obtain ⟨nm1, bs1, mro1, ns1, qn1, hd1, sn1, sb1, ab1, col1, del1⟩ := cdt
  dsimp only at hH
  subst hH
  unfold Builtin.ObjectAttr.storeInOwnDict Builtin.ObjectAttr.ownDictForStores
  repeat (first | with_reducible refine PySem.HandSPX.store_in_new ?_ ?_ | with_reducible refine wpAny_loadPart_at hX ?_ | with_reducible refine hCl.at ?_ | wp_step)
  · exact ⟨_, #[], _, (Heap.get?_update_ne _ _ _ _ hXs.symm).trans (Heap.get?_push_at rfl rfl), rfl, fun ee he => absurd he (by simp), fun _ => rfl⟩
  · intro hp1 tk1 hN hS
    have hX1 : (hp.push { cls := .type "dict", data := .dict #[] }).get? x = some { cls := .ref C, data := .fields fvs } := Heap.get?_push_of_some _ hX
    refine hQ hp1 tk1 hp.objs.size (fun b o hB hO => ?_) (Nat.le_refl _) hXs.symm ?_ hN
    · exact (hS.2 b (Nat.ne_of_lt (Heap.lt_size hO))).trans ((Heap.get?_update_ne _ _ _ _ hB).trans (Heap.get?_push_of_some _ hO))
    · exact (hS.2 x hXs).trans (Heap.get?_update_self _ hX1 rfl)
end
/-- what the written part says of the class -/
structure OexB (K : Frag) (C : Addr) (newId : String) (tl : List Value) : Prop where
  cls : ∃ nm q N bs bm sn sub ab col dd k0 k1 k2 k3 k5, K.lookup C = some (excClassObj nm q C N bs bm true sn sub ab col dd k0 k1 k2 k3 k5 newId) ∧ refsB tl bm = true
  sa : findIn K (.ref C) "__setattr__" = some (some (.builtin "object.__setattr__"))
  exC : subIn K (.ref C) (.type "BaseException") = some true
  tyC : typeIn K (.ref C) = some (.type "type")
  kC : keepIn K (.ref C) = true
/-- the def of such an __init__ -/
def xBody (m : Str) (f pv : Str) (p0 p1 p2 p3 p4 p5 p6 p7 p8 p9 : Pos) (j : Nat) : List Stmt :=
  [.Expr (.Call (.Attribute (.Call (.Name "super" p0) [] [] p1) "__init__" p2) [.Constant (.str m) j p3] [] p4) p5, .Assign [.Attribute (.Name "self" p6) f p7] (.Name pv p8) p9]
/-- what the written part says of the class C and its __init__ -/
structure XinG (P : Program) (K : Frag) (C : Addr) (f : Str) (fI : Addr) (B newId initId : String) (tl : List Value) : Prop where
  T : OexB K C newId tl
  iC : findIn K (.ref C) "__init__" = some (some (.ref fI))
  tI : typeIn K (.ref fI) = some (.type "function")
  no : findIn K (.ref C) f = some none
  fn : ∃ (oc : Value) (od : Option Addr) (osl : Array (Option Value)) (name qual : Str) (params : Arguments) (scope : Scope) (dV kV doc pm ct : Value) (an : Option Addr) (cda cc : Addr) (m pv : Str) (p0 p1 p2 p3 p4 p5 p6 p7 p8 p9 : Pos) (j : Nat) (ar : Arg) (ccl cl : Value) (cdd cld : Option Addr) (vs : Array Value) (ccs csl : Array (Option Value)) (file : Str) (tf : Tok),
    K.lookup fI = some ⟨oc, od, .func (ksFn name qual params (xBody m f pv p0 p1 p2 p3 p4 p5 p6 p7 p8 p9 j) scope dV kV doc pm an (.ref cda) ct cc), osl⟩ ∧ codeIn K (.ref cda) qual = true ∧
    K.lookup cda = some ⟨ccl, cdd, .fields vs, ccs⟩ ∧ vs[2]? = some (.str file tf) ∧ ((P.main.file : Str) == file) = true ∧ K.lookup cc = some ⟨cl, cld, .cell (some (.ref C)), csl⟩ ∧
    (params.posonlyargs ++ params.args).head? = some ar ∧ ar.arg = "self" ∧ (∀ (s : Shared) (u v : Value), BindsTo s (ksFn name qual params (xBody m f pv p0 p1 p2 p3 p4 p5 p6 p7 p8 p9 j) scope dV kV doc pm an (.ref cda) ct cc) ⟨[u, v], []⟩ [("self", u), (pv, v)]) ∧ (∀ (s : Shared) (u v : Value), BindsTo s (ksFn name qual params (xBody m f pv p0 p1 p2 p3 p4 p5 p6 p7 p8 p9 j) scope dV kV doc pm an (.ref cda) ct cc) ⟨[u], [(f, v)]⟩ [("self", u), (pv, v)]) ∧
    scope.names.lookup ("super" : Str) = some .globalImplicit ∧ scope.names.lookup ("__class__" : Str) = some .free ∧ scope.names.lookup ("self" : Str) = some .local ∧ scope.names.lookup pv = some .local ∧ (∀ x ∈ scope.names, x.2 ≠ .cell) ∧ scope.isCoroutine = false ∧ scope.isGenerator = false ∧ scope.kind = .function ∧ (pv == ("__debug__" : Str)) = false ∧ (pv == ("self" : Str)) = false ∧ (p2.endLine == p4.line) = true
  sup : ks_superIn K C C "__init__" = some (some (.builtin initId))
  vE : subIn K (.ref C) (.type B) = some true
  self : mroIn K C (.ref C) = some true
  op : nsIn K cStatics "thirdparty.any" = some none
  top : (P.main.scope.names.lookup ("super" : Str)).isSome = false
def XinF (P : Program) (K : Frag) (C : Addr) (f : Str) (fI : Addr) : Prop := ∃ B newId initId tl, XBase B newId initId tl ∧ XinG P K C f fI B newId initId tl

section
variable {B newId initId : String} {tl : List Value} {P : Program} {w : World} {K : Frag} {C fI : Addr} {f : Str} {A : Around} {E : Value → Shared → Prop} {R : Result → Shared → Prop} {s : Shared}
/-- ValueError.__init__ bound to an instance, called -/
theorem mw_call {u x t0 : Addr} {rest : List Value} {Q : Value → Shared → Prop} (XB : XBase B newId initId tl) (T : OexB K C newId tl) (X : K.In s.heap) (hu : s.heap.get? u = some (kxs_mw initId x)) (he : s.heap.get? x = some (excRec (.ref C) t0 none .none .none (.bool false))) (hz : rest.length ≤ sizeLine)
    (h : ∀ h' t1, (∀ b o, b ≠ x → s.heap.get? b = some o → h'.get? b = some o) → h'.get? x = some (excRec (.ref C) t1 none .none .none (.bool false)) → Q .none { s with heap := h' }) : wpAny (model P w) A (call (.ref u) rest) Q E s := by
  obtain ⟨nm, q, N, bs, bm, sn, sub, ab, col, dd, k0, k1, k2, k3, k5, hC, hbm⟩ := T.cls
  obtain ⟨hh, g, d, tk, os⟩ := s
  have FB := XB.F
  refine wpAny_call (codeAny_of_tree ?_)
  show wpAny _ A.in1 (callAny (.ref u) ⟨rest, []⟩) _ _ _
  simp only [callAny]
  refine wpAny_bind (wpAny_load hu ?_)
  simp only [kxs_mw, show (Value.type "method-wrapper" == Value.type "method" || Value.type "method-wrapper" == Value.type "builtin_function_or_method" || Value.type "method-wrapper" == Value.type "method-wrapper") = true by decide, if_true]
  refine KFB.if_so (by decide) ?_
  refine wpAny_bind (check_bound_init FB.toExcCallFacts (X _ _ hC) he rfl ?_)
  refine wpAny_bind (wpAny_pure (wpAny_pure ?_))
  refine ⟨plainId_quiet FB.init.plain _, codeAny_builtin FB.initEntry ?_⟩
  exact exc_init_tree he hz fun h' k e' t' => h h' _ k e'
theorem xinit_run {args : Args} {a t0 : Addr} {v : Value} {mg mb : Str → Option Value} {hp : Heap} {g : Array GenState} {d : Drawn} {t : Nat} {os : OsState} (XB : XBase B newId initId tl) (F : XinG P K C f fI B newId initId tl) (X : K.In hp) (lim : hp.NoLimit) (hg : hp.Ns mainGlobals mg) (hb : hp.Ns builtinsNs mb) (hmb : ∀ x : Str, x ≠ "__name__" → mb x = bootBuiltins x) (hms : mg "super" = none)
    (ha : hp.get? a = some (PySem.HandSPX.excO C t0)) (hna : K.lookup a = none) (hroom : A.depth < recursionLimit) (hargs : args = ⟨[.ref a, v], []⟩ ∨ args = ⟨[.ref a], [(f, v)]⟩)
    (h : ∀ h' dx t1 tk', (∀ b o, b ≠ a → hp.get? b = some o → h'.get? b = some o) → hp.get? dx = none → dx ≠ a → h'.get? a = some ({ cls := .ref C, dict := some dx, data := .fields #[.ref t1, .none, .none, .none, .bool false, .none] } : Obj) → h'.Ns1 dx (fun y => if y = f then some v else none) → R (.ok (.ret .none)) ⟨h', g, d, tk', os⟩) :
    codeAny (model P w) A (.call (.ref fI) args) R ⟨hp, g, d, t, os⟩ := by
  obtain ⟨nmC, qC, NC, bsC, bmC, snC, subC, abC, colC, ddC, k0, k1, k2, k3, k5, hC, hbm⟩ := F.T.cls
  have hcl : clsIn K C = some { name := nmC, bases := bsC, mro := .ref C :: bmC, ns := NC, qualname := qC, hasDict := true, slotNames := snC, subclasses := subC, abstract := abC, collection := colC, hasDel := false } := by unfold clsIn; rw [hC] <;> rfl
  obtain ⟨oc, od, osl, name, qual, params, scope, dV, kV, doc, pm, ct, an, cda, cc, m, pv, p0, p1, p2, p3, p4, p5, p6, p7, p8, p9, j, ar, ccl, cl, cdd, cld, vs, ccs, csl, file, tf, hfn, hcode, hcda, hvs, hfile, hcell, har, harg, hbind1, hbindK, ks, kc, kself, kpv, hcells, hco, hgen, hk, hdb, hps, hline⟩ := F.fn
  have hbind : ∀ s, BindsTo s (ksFn name qual params (xBody m f pv p0 p1 p2 p3 p4 p5 p6 p7 p8 p9 j) scope dV kV doc pm an (.ref cda) ct cc) args [("self", .ref a), (pv, v)] := by
    rcases hargs with rfl | rfl
    · exact fun s => hbind1 s _ _
    · exact fun s => hbindK s _ _
  have hne : a ≠ C := fun z => by
    rw [z, X _ _ hC] at ha
    cases ha
  refine ks_codeAny_call_defAt (s := ⟨hp, g, d, t, os⟩) hroom (X _ _ hfn) rfl lim (codeRec_of X hcode) rfl (hbind _) hcells (fun x hx => ?_) (fun h1 hns hk1 => ?_) hco hgen hk
  · rcases List.mem_cons.mp hx with rfl | hx
    · exact kself
    · have e : x = (pv, v) := by simpa using hx
      rw [e]; exact kpv
  have X1 : K.In h1 := X.keeps hk1
  have ha1 := hk1 _ _ ha
  have mSelf : (fun x => (([("self", .ref a), (pv, v)] : List (Str × Value)).reverse).lookup x) ("self" : Str) = some (.ref a) := by
    show List.lookup ("self" : Str) [(pv, v), ("self", Value.ref a)] = _
    have e : (("self" : Str) == pv) = false := by
      rw [beq_eq_false_iff_ne] at hps ⊢
      exact fun z => hps z.symm
    rw [List.lookup_cons, e]; rfl
  have mPv : (fun x => (([("self", .ref a), (pv, v)] : List (Str × Value)).reverse).lookup x) pv = some v := by
    show List.lookup pv [(pv, v), ("self", Value.ref a)] = _
    rw [List.lookup_cons, beq_self_eq_true]
  have hoD : h1.get? C = some _ := X1 _ _ hC
  have mb_super : mb "super" = some (.type "super") := (hmb _ (by decide +kernel)).trans (by decide +kernel)
  generalize henv : callEnv (ksFn name qual params (xBody m f pv p0 p1 p2 p3 p4 p5 p6 p7 p8 p9 j) scope dV kV doc pm an (.ref cda) ct cc) hp.objs.size fI = env
  have esc : env.scope = scope := by rw [← henv]; rfl
  have ecl : env.cells = ([(("__class__" : Str), cc)] : List (Str × Addr)) := by rw [← henv]; rfl
  have eloc : env.locals = hp.objs.size := by rw [← henv]; rfl
  have egl : env.globals = mainGlobals := by rw [← henv]; rfl
  have ebl : env.builtins = builtinsNs := by rw [← henv]; rfl
  have efu : env.func = some fI := by rw [← henv]; rfl
  have eco : env.code = .ref cda := by rw [← henv]; rfl
  have ekd : env.scope.kind = .function := by rw [esc]; exact hk
  have kind : ∀ x, env.kindOf x = scope.names.lookup x := fun x => by show env.scope.names.lookup x = _; rw [esc]
  have he : eval (.Call (.Attribute (.Call (.Name "super" p0) [] [] p1) "__init__" p2) [.Constant (.str m) j p3] [] p4) env = (do
      let ov ← attributeBase (.Call (.Name "super" p0) [] [] p1) "__init__" env (eval (.Call (.Name "super" p0) [] [] p1) env)
      standAt p2.atName
      let (f, first) ← holding [ov] (getMethod ov "__init__" (plainOf (.Call (.Name "super" p0) [] [] p1) env))
      callWith p4 f first (backTo p4 (starEach [.Constant (.str m) j p3] env)) []) := by
    show (do
      let ov ← attributeBase (.Call (.Name "super" p0) [] [] p1) "__init__" env (eval (.Call (.Name "super" p0) [] [] p1) env)
      standAt p2.atName
      methodCall (.Call (.Name "super" p0) [] [] p1) "__init__" p2 p4 env ov 1 (backTo p4 (starEach [.Constant (.str m) j p3] env)) []) = _
    congr 1
    funext ov
    congr 1
    funext _
    exact mcall_line rfl hline
  have hns' : (h1).Ns env.locals (fun x => (([("self", .ref a), (pv, v)] : List (Str × Value)).reverse).lookup x) := by rw [eloc]; exact hns
  refine ks_wpAt_execs_cons (ks_wpAt_Expr_any (ks_wpAt_MethodCall (ks_wpAt_super_base (by rw [kind]; exact ks) (by rw [kind]; exact kc) (by decide) efu (X1 _ _ hfn) rfl har eco (X1 _ _ hcda) rfl hvs hfile F.top ?_) he) (by unfold interactive; rw [ekd]; rfl))
  refine ks_loadName_global ekd (by rw [kind]; exact ks) (PySem.Calls.loadGlobal_builtin (by rw [egl]; exact hg.keeps hk1) hms (by rw [ebl]; exact hb.keeps hk1) mb_super ⟨rfl, ?_⟩)
  refine wpAny_loadName_free ekd (by rw [kind]; exact kc) (by rw [ecl]; rfl) ⟨_, X1 _ _ hcell, rfl⟩ ?_
  rw [harg]
  refine wpAny_loadName_local ekd (by rw [kind]; exact kself) hns' mSelf ?_
  refine ks_wpAny_isType_cls hoD rfl ⟨rfl, ?_⟩
  refine ks_wpAny_call_super hoD rfl ha1 rfl (fun c e => nomatch e) (looks_mroIn X1 F.self) (fun h2 e2 k2 => ?_)
  have X2 : K.In h2 := X1.keeps k2
  have ha2 := k2 _ _ ha1
  have I2 : InstAt h2 a (PySem.HandSPX.excO C t0) C none := ⟨ha2, rfl, rfl, trivial⟩
  refine kxs_getMethod XB.kxs e2 (looks_opaque X2 F.op) (l₀ := .ref C :: bmC) (fun A Q E s k q => wpAny_bind ((looks_clsIn X2 hcl) A _ E s k (wpAny_pure q))) rfl X2 (by
    have z := F.sup
    unfold ks_superIn at z
    rw [hcl] at z
    exact z) (I2.type.andThen (looks_subIn X2 F.vE)) hne rfl ?_
  -- the wrapper is called
  have N : News ({} : Heap) (h2.objs.size + 1) (h2.push (kxs_mw initId a)) [(h2.objs.size, kxs_mw initId a)] := fun p hp => by
    have e : p = (h2.objs.size, kxs_mw initId a) := by simpa using hp
    subst e
    exact ⟨Heap.get?_push_size _ rfl, Nat.ne_of_lt (Nat.lt_succ_self _), rfl⟩
  have k3 : ∀ b o, h2.get? b = some o → (h2.push (kxs_mw initId a)).get? b = some o := fun b o e => Heap.get?_push_of_some _ e
  refine kxs_callWith1 N (List.mem_singleton.mpr rfl) (Calls.spliced_cons (Calls.Constant_str (pos := p3) (k := j) (Calls.spliced_nil ⟨Heap.get?_push_size _ rfl, ?_⟩)))
  refine mw_call XB F.T (X2.keeps k3) (Heap.get?_push_size _ rfl) (k3 _ _ ha2) (by show 1 ≤ sizeLine; decide) fun h4 t1 k4 ha4 => ?_
  have k14 : ∀ b o, b ≠ a → h1.get? b = some o → h4.get? b = some o := fun b o hb e => k4 b o hb (k3 b o (k2 b o e))
  have X4 : K.In h4 := fun b o e => k14 b o (fun z => by rw [z, hna] at e; cases e) (X1 _ _ e)
  have hloc4 : h4.Ns env.locals (fun x => (([("self", .ref a), (pv, v)] : List (Str × Value)).reverse).lookup x) := by
    obtain ⟨oL, es, ep, hL, r⟩ := hns'
    refine ⟨oL, es, ep, k14 _ _ (fun z => ?_) hL, r⟩
    rw [eloc] at z
    exact absurd (Heap.lt_size ha) (by rw [← z]; exact Nat.lt_irrefl _)
  refine wpAt_of_wpAny (wpAny_execs_cons (plainObj_wpAny_Assign_Attribute ?_))
  have nm : ∀ {x : Str} {u : Value} {pos : Pos} {s' : Shared} {Q : Value → Shared → Prop} {E : Value → Shared → Prop}, s'.heap = h4 → scope.names.lookup x = some .local → (fun x => (([("self", .ref a), (pv, v)] : List (Str × Value)).reverse).lookup x) x = some u → (x == ("__debug__" : Str)) = false → Q u s' → wpAny (model P w) (A.deeper env) (eval (.Name x pos) env) Q E s' := fun {x u pos s' Q E} hh hx hm hd hq => by
    subst henv
    exact ldc hk (by rw [kind]; exact hx) (by rw [hh]; rw [eloc] at hloc4; exact hloc4) hm hq hd
  refine nm rfl kpv mPv hdb (nm rfl kself mSelf (by decide) ?_)
  refine set_plain X4 (ox := PySem.HandSPX.excO C t1) (od := none) ⟨ha4, rfl, rfl, trivial⟩ F.T.sa ?_
  refine exc_osaB XB X4 ha4 hcl (show refsB tl (.ref C :: bmC) = true from hbm) rfl F.no (fun h5 tk5 dx k5 dn dne hx5 hn5 => ?_)
  refine wpAny_execs_nil (h h5 dx t1 tk5 (fun b o hb e => k5 b o hb (k14 b o hb (hk1 b o e))) ?_ dne hx5 hn5)
  cases e : hp.get? dx with
  | none => rfl
  | some o => exact absurd (Heap.lt_size (k14 dx o dne (hk1 dx o e))) (Nat.not_lt.mpr dn)
end
end RM
end
section
set_option Elab.async false
set_option linter.all false
set_option maxRecDepth 100000
set_option autoImplicit false
/-! own exceptions made: for raise -/
namespace RM
open PySem PySem.Spec PyProof.Rows L2
theorem obj_of {P : Program} {w : World} {H : Hp} {h : Heap} {a : Addr} {o : HO} (x : ObjOk P w H h a o) : ∃ ob, h.get? a = some ob := by
  cases o with
  | lst xs => obtain ⟨_, _, _, _, e⟩ := x; exact ⟨_, e⟩
  | tup xs => obtain ⟨_, _, _, ob, e, _⟩ := x; exact ⟨_, e⟩
  | dK kvs => obtain ⟨_, _, _, _, o, _, _, e, _⟩ := x; exact ⟨_, e⟩
  | dT kvs => obtain ⟨_, _, _, _, o, _, _, e, _⟩ := x; exact ⟨_, e⟩
  | set S n => obtain ⟨o, _, _, _, e, _⟩ := x; exact ⟨_, e⟩
  | ins C dx fs => obtain ⟨_, _, _, e, _⟩ := x; exact ⟨_, e⟩
  | own y => exact x
  | xd fs => obtain ⟨_, ⟨_, _, _, e, _⟩, _⟩ := x; exact ⟨_, e⟩
  | rng lo hi => obtain ⟨_, _, _, e⟩ := x; exact ⟨_, e⟩
  | frz ob u => obtain ⟨e, _⟩ := x; exact ⟨_, e⟩
  | tbl ps => exact ⟨_, x⟩
  | met f y => exact ⟨_, x⟩
  | ext φ => obtain ⟨_, e, _⟩ := x; exact e
theorem mkx_ok {X : Cx} {f : Str} {Ca fI : Addr} {e : Expr} {te : TE} {x : Str} {p p2 : Pos} {k : Nat} (F : XinF X.prog X.K Ca f fI) (hr : Room k X.A) (hms : X.mg "super" = none) (hg : Gl X x) (hm : X.mg x = some (.ref Ca)) (hdb : (x == ("__debug__" : Str)) = false) (hs : isStarred e = false) (he : PE X e te) :
    PMk X (.Call (.Name x p) [e] [] p2) (tMkx Ca f te) := by
  intro pins s σ H Q I h
  obtain ⟨B, newId, initId, tl, XB, F⟩ := F
  obtain ⟨nm, q, N, bs, bm, sn, sub, ab, col, dd, k0, k1, k2, k3, k5, hC, hbm⟩ := F.T.cls
  have s1 := starEach_plain (es := []) (env := X.env) hs
  refine wpAny_Call_Name_kw (ld_glob I hg hm ?_ hdb)
  refine PySem.W.callWith_K (h₀ := X.base) I.ok.mod.kin F.T.kC (thn ((pa_cons he pa_nil s1).run p2 pins s σ H (fun vs H1 => match vs with | [v] => ∀ p, H1 p = none → Q (.ref Ca) (some p) (upd H1 p (.xd [(f, v)])) | _ => False) I h) fun us s1 ⟨vs, H1, I1, r1, q1⟩ => ⟨I1.kIn, ?_⟩) s1 rfl
  obtain ⟨v, rfl⟩ : ∃ v, vs = [v] := by
    match vs, q1 with
    | [v], _ => exact ⟨v, rfl⟩
  cases r1 with
  | @cons _ u0 _ ur rv rr =>
  cases rr
  show wpAny _ _ (call (.ref Ca) [u0]) _ _ _
  obtain ⟨hp, g, dr, tk, os⟩ := s1
  have hsz : hp.objs.size ≤ hp.objs.size + 1 := Nat.le_succ _
  have hn : H1 (hp.objs.size + 1) = none := I1.hok.fresh hsz
  have kk : ∀ b o, hp.get? b = some o → ((hp.push (PySem.W.kdv_tup [u0])).push (PySem.HandSPX.excO Ca hp.objs.size)).get? b = some o := fun b o e => Heap.get?_push_of_some _ (Heap.get?_push_of_some _ e)
  have hget : ((hp.push (PySem.W.kdv_tup [u0])).push (PySem.HandSPX.excO Ca hp.objs.size)).get? (hp.objs.size + 1) = some (PySem.HandSPX.excO Ca hp.objs.size) := by heap_get
  have I2 : Inv X pins σ (upd H1 (hp.objs.size + 1) (exo (hp.objs.size + 1) Ca none)) ⟨(hp.push (PySem.W.kdv_tup [u0])).push (PySem.HandSPX.excO Ca hp.objs.size), g, dr, tk, os⟩ :=
    I1.laid (t' := tk) (a := hp.objs.size + 1) (o := exo (hp.objs.size + 1) Ca none) (h' := (hp.push (PySem.W.kdv_tup [u0])).push (PySem.HandSPX.excO Ca hp.objs.size)) kk hsz (exo_ok hget)
  have hna : X.K.lookup (hp.objs.size + 1) = none := by
    cases e : X.K.lookup (hp.objs.size + 1) with
    | none => rfl
    | some o => exact absurd (Heap.lt_size (I1.bk _ _ (I1.ok.mod.kin _ _ e))) (Nat.not_lt.mpr hsz)
  obtain ⟨mb, hb, hmb⟩ := I1.ok.mod.blt
  refine wpAny_call (PySem.HandSPX.call_own XB.F (fun Y => refsB_contains XB.ne Y bm hbm) (I1.kIn _ _ hC) (PySem.W.looks_findIn I1.kIn F.iC) (fun self => PySem.W.bind_fn I1.kIn self F.tI) (by show 1 ≤ sizeLine; decide)
    (xinit_run XB F I2.kIn I2.nolimit (I1.ok.mod.glob.keeps fun b o e => I2.bk b o e) (hb.keeps fun b o e => I2.bk b o e) hmb hms hget hna (by rw [make_depth]; have := hr.dp; omega) (.inl rfl) fun h' dx t1 tk' kp dn dne hx hns => ⟨rfl, ?_⟩))
  generalize ha : hp.objs.size + 1 = a at *
  generalize hhp2 : (hp.push (PySem.W.kdv_tup [u0])).push (PySem.HandSPX.excO Ca hp.objs.size) = hp2 at *
  have hd1 : H1 dx = none := by
    cases e : H1 dx with
    | none => rfl
    | some o =>
      obtain ⟨o', e'⟩ := obj_of (I1.hok dx o e)
      rw [kk _ _ e'] at dn; cases dn
  have nd : ∀ {b : Addr} {o : Obj}, hp2.get? b = some o → b ≠ dx := fun {b o} q z => by rw [z, dn] at q; cases q
  have e1 : upd H1 a (exo a Ca none) a = some (exo a Ca none) := upd_same
  have hnd : upd H1 a (exo a Ca none) dx = none := by rw [upd_ne dne]; exact hd1
  have na : ∀ {b : Addr}, upd H1 a (exo a Ca none) b = none → b ≠ a := fun {b} n z => by rw [z, e1] at n; cases n
  have Un1 : Un (frs X.stack) [] (upd H1 a (exo a Ca none)) (upd (upd (upd H1 a (exo a Ca none)) dx (exd dx [(f, v)])) a (exo a Ca (some dx))) hp2 h' := {
    keep := fun b o q n _ _ => kp b o (na n) q
    slot := fun b o q n _ _ => ⟨o.slots, kp b o (na n) q⟩
    free := fun b o q n _ => by rw [upd_ne (na n), upd_ne (nd q)]; exact n
    there := fun b o q _ => by
      by_cases hb : b = a
      · exact ⟨_, by rw [hb]; exact hx⟩
      · exact ⟨o, kp b o hb q⟩
    tups := fun b xs q => by rw [upd_ne (at_ne e1 q exo_tup), upd_ne (ne_of_none q hnd)]; exact q
    frzs := fun b o v q => by rw [upd_ne (at_ne e1 q exo_frz), upd_ne (ne_of_none q hnd)]; exact q
    tbls := fun b ps q => ⟨#[], by rw [upd_ne (at_ne e1 q exo_tbl), upd_ne (ne_of_none q hnd), q]; simp⟩ }
  have hok : HOk X.prog X.w (upd (upd (upd H1 a (exo a Ca none)) dx (exd dx [(f, v)])) a (exo a Ca (some dx))) h' := fun b o q => by
    by_cases hb : b = a
    · subst hb
      rw [upd_same] at q
      cases q
      exact exo_ok hx
    · rw [upd_ne hb] at q
      by_cases hd : b = dx
      · subst hd
        rw [upd_same] at q
        cases q
        exact exd_ok hns (relO_put (fs := []) rv fun g => True.intro)
      · rw [upd_ne hd] at q
        exact (I2.hok b o q).stay (fun c v hc z => kp c v (by
            rcases hc with hc | hc
            · rw [hc]
              exact hb
            · exact at_ne e1 hc exo_own) z)
          (fun c hc => by rw [upd_ne (at_ne e1 hc exo_own), upd_ne (ne_of_none hc hnd)]; exact hc) (fun c xs hc => by rw [upd_ne (at_ne e1 hc exo_tup), upd_ne (ne_of_none hc hnd)]; exact hc)
  refine mk_end (raises_own F.T.exC F.T.tyC) I1 (by omega) kk Un1 hok rfl I1.bare upd_same (by rw [upd_ne dne, upd_same]) hd1 ?_
  have eH : upd (del (upd (upd (upd H1 a (exo a Ca none)) dx (exd dx [(f, v)])) a (exo a Ca (some dx))) a) dx (.xd [(f, v)]) = upd H1 dx (.xd [(f, v)]) := by
    funext b
    by_cases hb : b = dx
    · rw [hb, upd_same, upd_same]
    · rw [upd_ne hb, upd_ne hb]
      by_cases hba : b = a
      · rw [hba, del_same]; exact hn.symm
      · rw [del_ne hba, upd_ne hba, upd_ne hb, upd_ne hba]
  rw [eH]
  exact q1 dx hd1
end RM
end
section
set_option Elab.async false
set_option linter.all false
set_option maxRecDepth 100000
set_option autoImplicit false
/-! draws: the state in the heap, its oracle -/
namespace RM
open PySem PySem.Spec PyProof.Rows L2

def drawMost : Nat := 2 ^ 50
/-- a number below n is drawn -/
def drawM (n : Nat) : M D := fun S => if S.beg && decide (S.n < drawMost) then .draw n fun i => .ret (.int (i : Nat)) { S with n := S.n + 1 } else .fail
def orcNext : List D → M D
  | [.drw, .int n] => if 0 < n ∧ n < 1073741824 then drawM n.toNat else M.fail
  | _ => M.fail
/-- a script that may be drawn from -/
def scriptOk (ns : List Int) : Bool := decide (ns.length ≤ 63) && ns.all fun i => decide (i.natAbs < 2 ^ 1048576)
def orcBegun : List D → M D
  | [.scr ns] => fun S => if !S.beg && decide (S.n = 0) && scriptOk ns then .ret .drw { S with beg := true } else .fail
  | _ => M.fail

/-- the cells, what is left of the great ones, how many draws were from the cells -/
def Dr (H : Hp) (z c l : Addr) (ns ms : List Int) (n : Int) : Prop :=
  H z = some (.dK [(.inr "cells", .ref c), (.inr "left", .ref l), (.inr "at", .int n)]) ∧ H c = some (.lst (ns.map V.int)) ∧ H l = some (.lst (ms.map V.int)) ∧ l ≠ z ∧ c ≠ z ∧ c ≠ l
section
variable {Y : Tx} {G : Gh} {H H' : Hp} {S : Sto} {z c l l' : Addr} {ns ms ms' : List Int} {n n' : Int}
theorem dr_open (ok : GOk Y G H S) (hz : G.dr = some (z, c)) : ∃ l ns ms n, Dr H z c l ns ms n ∧ G.Mu z ∧ G.Mu l ∧ G.Fz c ∧ ns.length ≤ 63 ∧ ms.length ≤ 63 ∧ (∀ i ∈ ns, i.natAbs < 2 ^ 1048576) ∧ (∀ i ∈ ms, 0 ≤ i ∧ i.natAbs < 2 ^ 1048576) ∧ 0 ≤ n ∧ n ≤ S.n := by
  obtain ⟨l, ns, ms, n, h1, h2, h3, h4, h5, h6, h7, r⟩ := ok.dr _ hz
  have cz : c ≠ z := fun e => ok.fzmu c h6 (e ▸ h2)
  have cl : c ≠ l := fun e => ok.fzmu c h6 (e ▸ h3)
  exact ⟨l, ns, ms, n, ⟨h1, h5, h7, h4, cz, cl⟩, h2, h3, h6, r⟩
/-- the dict and its list are changed; l' may be new -/
theorem dr_step {S' : Sto} (ok : GOk Y G H S) (hz : G.dr = some (z, c)) (mz : G.Mu z) (fc : G.Fz c) (d' : Dr H' z c l' ns ms' n') (hl : G.Mu l' ∨ H l' = none) (keep : ∀ a o, H a = some o → ¬ G.Mu a → H' a = some o) (there : ∀ a, H a ≠ none → H' a ≠ none)
    (kp2 : ∀ a o, H' a = some o → H a = some o ∨ G.Mu a ∨ a = l') (b1 : ns.length ≤ 63) (b2 : ms'.length ≤ 63) (b3 : ∀ i ∈ ns, i.natAbs < 2 ^ 1048576) (b4 : ∀ i ∈ ms', 0 ≤ i ∧ i.natAbs < 2 ^ 1048576) (b5 : 0 ≤ n') (b6 : n' ≤ S'.n) (bg : S'.beg = S.beg)
    (nt : ∀ a o, G.Mu a → H' a = some o → ¬ Solid o ∧ ∀ f, o ≠ .ext f) (kt : ∀ a ps, H a = some (.tbl ps) → H' a = some (.tbl ps)) : Ext G H { G with Mu := fun a => G.Mu a ∨ a = l' } H' ∧ GOk Y { G with Mu := fun a => G.Mu a ∨ a = l' } H' S' := by
  obtain ⟨e1, e2, e3, e4, e5, e6⟩ := d'
  have nl : H l' = none → ¬ G.Fz l' := fun h f => ok.fzT l' f h
  have fzl : ∀ a, G.Fz a → a ≠ l' := fun a f e => by
    subst e
    rcases hl with h | h
    · exact ok.fzmu a f h
    · exact nl h f
  refine ⟨⟨fun _ h => h, fun _ h => .inl h, fun _ h => h, keep, there, fun _ h => .inl h, fun a h => h.elim .inl fun e => by subst e; exact hl, fun _ h => .inl h⟩,
    ⟨fun a f => fun m => m.elim (ok.fzmu a f) (fzl a f), fun a f => there a (ok.fzT a f), fun a m => m.elim (fun m => there a (ok.muT a m)) fun e => by (rw [e, e3]; exact fun z => nomatch z), fun a o h s m => ?_, fun z' h' => ?_, fun h => ?_, fun p hp => ⟨.inl (ok.tab p hp).1, ?_⟩, fun a f h m => ?_⟩⟩
  · rcases m with m | rfl
    · exact (nt a o m h).1 s
    · rw [e3] at h; cases h; exact s
  · have e : z' = (z, c) := Option.some.inj (h'.symm.trans hz)
    subst e
    exact ⟨l', ns, ms', n', e1, .inl mz, .inr rfl, e4, e2, fc, e3, b1, b2, b3, b4, b5, b6⟩
  · exact ok.dr0 (bg ▸ h)
  · obtain ⟨ps, h1, h2, h3⟩ := (ok.tab p hp).2
    refine ⟨ps, kt _ _ h1, h2, fun pos cv hc => ?_⟩
    obtain ⟨c0, q1, q2⟩ := h3 pos cv hc
    exact ⟨c0, q1, keep _ _ q2 (ok.ext c0 _ q2)⟩
  · rcases m with m | rfl
    · exact (nt a _ m h).2 f rfl
    · rw [e3] at h; cases h
end
end RM
end
section
set_option Elab.async false
set_option linter.all false
set_option maxRecDepth 100000
set_option autoImplicit false
/-! draws: what _law_next's statements read and write -/
namespace RM
open PySem PySem.Spec PyProof.Rows L2

section
variable {Y : Tx} {G : Gh} {H H0 : Hp} {S : Sto} {z c l : Addr} {ns ms : List Int} {n : Int} {K : PySem.W.Frag} {σ : L2.St} {B : Gh → Hp → Prop}
theorem key_ne {a b : Str} (h : (a == b) = false) : ¬ (Sum.inr a : Key) = Sum.inr b := fun e => by
  have := Sum.inr.inj e
  rw [this] at h
  simp at h
theorem v_left : valV [((.inr "cells" : Key), V.ref c), (.inr "left", .ref l), (.inr "at", .int n)] (.inr "left") = some (.ref l) := by
  rw [valV_neg (key_ne (by decide)), valV_pos rfl]
theorem v_cells : valV [((.inr "cells" : Key), V.ref c), (.inr "left", .ref l), (.inr "at", .int n)] (.inr "cells") = some (.ref c) := by
  rw [valV_pos rfl]
theorem v_at : valV [((.inr "cells" : Key), V.ref c), (.inr "left", .ref l), (.inr "at", .int n)] (.inr "at") = some (.int n) := by
  rw [valV_neg (key_ne (by decide)), valV_neg (key_ne (by decide)), valV_pos rfl]
theorem p_left {v : V} : putK [((.inr "cells" : Key), V.ref c), (.inr "left", .ref l), (.inr "at", .int n)] (.inr "left") v = [(.inr "cells", .ref c), (.inr "left", v), (.inr "at", .int n)] := by rfl
theorem p_at {v : V} : putK [((.inr "cells" : Key), V.ref c), (.inr "left", .ref l), (.inr "at", .int n)] (.inr "at") v = [(.inr "cells", .ref c), (.inr "left", .ref l), (.inr "at", v)] := by rfl

/-- m['left'] -/
def tKey (k : Str) : TE := tDGet (tVar 0) (tC (.str k))
theorem t_left {Q : VK} (d : Dr H z c l ns ms n) (hs : σ[0]? = some (some (.ref z))) (q : Q (.ref l) H) : tKey "left" σ H Q := ⟨.ref z, hs, z, .ref l, rfl, by
  have := DGet.k (k := (.inr "left" : Key)) d.1
  rw [v_left] at this
  exact this, q⟩
theorem t_cells {Q : VK} (d : Dr H z c l ns ms n) (hs : σ[0]? = some (some (.ref z))) (q : Q (.ref c) H) : tKey "cells" σ H Q := ⟨.ref z, hs, z, .ref c, rfl, by
  have := DGet.k (k := (.inr "cells" : Key)) d.1
  rw [v_cells] at this
  exact this, q⟩
theorem t_at {Q : VK} (d : Dr H z c l ns ms n) (hs : σ[0]? = some (some (.ref z))) (q : Q (.int n) H) : tKey "at" σ H Q := ⟨.ref z, hs, z, .int n, rfl, by
  have := DGet.k (k := (.inr "at" : Key)) d.1
  rw [v_at] at this
  exact this, q⟩
/-- ints as data -/
theorem dp_ints : ∀ ms : List Int, DpAll K H (ms.map V.int) (ms.map PyData.int)
  | [] => .nil
  | m :: ms => .cons (.int m) (dp_ints ms)
theorem lay_ints : ∀ ms : List Int, PyData.canLayAll0 (ms.map PyData.int) = true
  | [] => by simp [PyData.canLayAll0]
  | m :: ms => by simp [PyData.canLayAll0, PyData.canLay0, lay_ints ms]
theorem depth_ints : ∀ ms : List Int, PyData.depthAll (ms.map PyData.int) ≤ 1
  | [] => by simp [PyData.depthAll]
  | m :: ms => by
    have := depth_ints ms
    simp [PyData.depthAll, PyData.depth]
    omega
theorem shaped_ints (ms : List Int) : SeqAt.shaped (.list (ms.map PyData.int)) = true := by
  unfold SeqAt.shaped
  rw [Bool.and_eq_true, decide_eq_true_eq]
  refine ⟨by simp [PyData.canLay0, lay_ints ms], ?_⟩
  have := depth_ints ms
  simp only [PyData.depth]
  omega
/-- m['left'] != [] -/
def qLeft (K : PySem.W.Frag) : TT := tTest (tOp (rNeD K) (tKey "left") (tLst tNil))
theorem q_left {Q : Bool → Hp → Prop} (ok : GOk Y G H S) (b : B G H) (bs : Bs Y H0 B) (d : Dr H z c l ns ms n) (hs : σ[0]? = some (some (.ref z))) (q : ∀ H1, B G H1 → GOk Y G H1 S → Dr H1 z c l ns ms n → (∀ a o, H a = some o → H1 a = some o) → Q (!ms.isEmpty) H1) : qLeft K σ H Q := by
  refine t_left d hs ⟨Nat.zero_le _, fun p np => ?_⟩
  have k : ∀ a o, H a = some o → upd H p (.lst []) a = some o := fun a o h => by rw [upd_ne (ne_of_none h np)]; exact h
  refine ⟨.list (ms.map PyData.int), .list [], .lst (.of (k _ _ d.2.2.1)) (dp_ints ms), .lst (.of upd_same) .nil, shaped_ints ms, shaped_ints [], _, rfl, ?_⟩
  have e : (!PyData.eqv (.list (ms.map PyData.int)) (.list [])) = !ms.isEmpty := by
    cases ms <;> rfl
  rw [e]
  exact q _ (bs.ext b ok (Ext.new ok np)) (ok.new np) ⟨k _ _ d.1, k _ _ d.2.1, k _ _ d.2.2.1, d.2.2.2⟩ k

/-- the draws' state, with ms left -/
def Zs (Y : Tx) (B : Gh → Hp → Prop) (z : Addr) (S : Sto) (ns : List Int) (n : Int) (ms : List Int) (H : Hp) : Prop :=
  ∃ G c l, GOk Y G H S ∧ B G H ∧ G.dr = some (z, c) ∧ Dr H z c l ns ms n ∧ G.Mu z ∧ G.Mu l ∧ G.Fz c ∧ ns.length ≤ 63 ∧ ms.length ≤ 63 ∧ (∀ i ∈ ns, i.natAbs < 2 ^ 1048576) ∧ (∀ i ∈ ms, 0 ≤ i ∧ i.natAbs < 2 ^ 1048576) ∧ 0 ≤ n ∧ n ≤ S.n
theorem zs_open (ok : GOk Y G H S) (b : B G H) (hz : G.dr = some (z, c)) : ∃ ns n ms, Zs Y B z S ns n ms H := by
  obtain ⟨l, ns, ms, n, d, mz, ml, fc, r⟩ := dr_open ok hz
  exact ⟨ns, n, ms, G, c, l, ok, b, hz, d, mz, ml, fc, r⟩
/-- a new list is left -/
theorem zs_left (bs : Bs Y H0 B) (h : Zs Y B z S ns n ms H) {p : Addr} {ms' : List Int} (np : H p = none) (b2 : ms'.length ≤ 63) (b4 : ∀ i ∈ ms', 0 ≤ i ∧ i.natAbs < 2 ^ 1048576) :
    ∀ {c l : Addr}, Dr H z c l ns ms n → Zs Y B z S ns n ms' (upd (upd H p (.lst (ms'.map V.int))) z (.dK [(.inr "cells", .ref c), (.inr "left", .ref p), (.inr "at", .int n)])) := by
  intro c l d
  obtain ⟨G, c', l', ok, b, hz, d', mz, ml, fc, q1, q2, q3, q4, q5, q6⟩ := h
  have ec : c' = c := by
    have := d.1.symm.trans d'.1
    cases this; rfl
  subst ec
  have zp : z ≠ p := fun e => by rw [← e, d.1] at np; cases np
  have cp : c' ≠ p := fun e => by rw [← e, d.2.1] at np; cases np
  have dd : Dr (upd (upd H p (.lst (ms'.map V.int))) z (.dK [(.inr "cells", .ref c'), (.inr "left", .ref p), (.inr "at", .int n)])) z c' p ns ms' n :=
    ⟨upd_same, by rw [upd_ne d.2.2.2.2.1, upd_ne cp]; exact d.2.1, by rw [upd_ne zp.symm, upd_same], zp.symm, d.2.2.2.2.1, cp⟩
  have key : ∀ a o, upd (upd H p (.lst (ms'.map V.int))) z (.dK [(.inr "cells", .ref c'), (.inr "left", .ref p), (.inr "at", .int n)]) a = some o → a = z ∨ a = p ∨ H a = some o := fun a o h => by
    by_cases e1 : a = z
    · exact .inl e1
    · rw [upd_ne e1] at h
      by_cases e2 : a = p
      · exact .inr (.inl e2)
      · rw [upd_ne e2] at h; exact .inr (.inr h)
  obtain ⟨ex, ok'⟩ := dr_step (S' := S) ok hz mz fc dd (.inr np) (fun a o h m => by
      have n1 : a ≠ z := fun e => m (by rw [e]; exact mz)
      rw [upd_ne n1, upd_ne (ne_of_none h np)]; exact h) (fun a h => by
      by_cases e1 : a = z
      · rw [e1, upd_same]; exact fun y => nomatch y
      · rw [upd_ne e1]
        by_cases e2 : a = p
        · rw [e2, upd_same]; exact fun y => nomatch y
        · rw [upd_ne e2]; exact h)
    (fun a o h => (key a o h).elim (fun e => .inr (.inl (by rw [e]; exact mz))) fun e => e.elim (fun e => .inr (.inr e)) .inl) q1 b2 q3 b4 q5 q6 rfl (fun a o m h => by
      by_cases e1 : a = z
      · rw [e1, upd_same] at h; cases h; exact ⟨fun s => s, fun _ y => nomatch y⟩
      · rw [upd_ne e1] at h
        by_cases e2 : a = p
        · rw [e2, upd_same] at h; cases h; exact ⟨fun s => s, fun _ y => nomatch y⟩
        · rw [upd_ne e2] at h; exact ⟨fun s => ok.solid a o h s m, fun f y => ok.ext a f (y ▸ h) m⟩) (fun a qs h => by
      have n1 : a ≠ z := fun e => by (rw [e, d.1] at h; cases h)
      rw [upd_ne n1, upd_ne (ne_of_none h np)]; exact h)
  exact ⟨_, c', p, ok', bs.ext b ok ex, hz, dd, .inl mz, .inr rfl, fc, q1, b2, q3, b4, q5, q6⟩
theorem Zs.ext {G' : Gh} {H' : Hp} {c l : Addr} (bs : Bs Y H0 B) (ok : GOk Y G H S) (b : B G H) (e : Ext G H G H') (ok' : GOk Y G H' S) (hz : G.dr = some (z, c)) (d : Dr H' z c l ns ms n) (mz : G.Mu z) (ml : G.Mu l) (fc : G.Fz c)
    (q : ns.length ≤ 63 ∧ ms.length ≤ 63 ∧ (∀ i ∈ ns, i.natAbs < 2 ^ 1048576) ∧ (∀ i ∈ ms, 0 ≤ i ∧ i.natAbs < 2 ^ 1048576) ∧ 0 ≤ n ∧ n ≤ S.n) : Zs Y B z S ns n ms H' := ⟨G, c, l, ok', bs.ext b ok e, hz, d, mz, ml, fc, q⟩
/-- m['left'] != [], from a state -/
theorem zq_left {Q : Bool → Hp → Prop} (bs : Bs Y H0 B) (h : Zs Y B z S ns n ms H) (hs : σ[0]? = some (some (.ref z))) (q : ∀ H1, Zs Y B z S ns n ms H1 → Q (!ms.isEmpty) H1) : qLeft K σ H Q := by
  obtain ⟨G, c, l, ok, b, hz, d, mz, ml, fc, r⟩ := h
  exact q_left ok b bs d hs fun H1 b1 ok1 d1 _ => q H1 ⟨G, c, l, ok1, b1, hz, d1, mz, ml, fc, r⟩
def qZero (K : PySem.W.Frag) : TT := L2.tB (tEqI (tOp (rIxL K) (tKey "left") (tC (.int 0))) (tC (.int 0)))
theorem zq_zero {Q : Bool → Hp → Prop} {m : Int} {r : List Int} (h : Zs Y B z S ns n (m :: r) H) (hs : σ[0]? = some (some (.ref z))) (q : ∀ b, Q b H) : qZero K σ H Q := by
  obtain ⟨G, c, l, ok, b, hz, d, _⟩ := h
  refine t_left d hs ⟨l, (m :: r).map V.int, 0, .int m, rfl, rfl, .of d.2.2.1, by simp [atI, ixN], m, 0, rfl, rfl, _, rfl, q _⟩
def sDrop (K : PySem.W.Frag) : TS := sDPut (tVar 0) (tC (.str "left")) (tSl (rSlL K) (tKey "left") (tPart (tC (.int 1))) tNoPart)
theorem z_drop {D : Ends} {m : Int} {r : List Int} (bs : Bs Y H0 B) (h : Zs Y B z S ns n (m :: r) H) (hs : σ[0]? = some (some (.ref z))) (q : ∀ H1, Zs Y B z S ns n r H1 → D.nx σ H1) : sDrop K D σ H := by
  obtain ⟨G, c, l, ok, b, hz, d, mz, ml, fc, q1, q2, q3, q4, q5⟩ := id h
  refine t_left d hs ⟨1, rfl, l, (m :: r).map V.int, rfl, .of d.2.2.1, fun p np => ⟨.ref z, hs, ?_⟩⟩
  have e : cutV ((m :: r).map V.int) (some 1) none = r.map V.int := by
    unfold cutV HT.sIx
    simp
    exact List.take_of_length_le (by simp)
  rw [e]
  have dz : upd H p (.lst (r.map V.int)) z = some (.dK [(.inr "cells", .ref c), (.inr "left", .ref l), (.inr "at", .int n)]) := by rw [upd_ne (ne_of_none d.1 np)]; exact d.1
  have put := DPut.k (k := (.inr "left" : Key)) (v := V.ref p) dz (by show 3 < sizeLine; decide)
  rw [p_left] at put
  exact ⟨z, _, rfl, put, q _ (zs_left bs h np (by have := q2; simp at this; omega) (fun i hi => q4 i (List.mem_cons_of_mem _ hi)) d)⟩
/-- the while ahead -/
theorem z_while {D : Ends} (bs : Bs Y H0 B) (h : Zs Y B z S ns n ms H) (hs : σ[0]? = some (some (.ref z))) (q : ∀ ms' H1, Zs Y B z S ns n ms' H1 → D.nx σ H1) : tWhile (tAnd (qLeft K) (qZero K)) (sDrop K) D σ H := by
  refine ⟨fun m σ' H' => σ' = σ ∧ ∃ ms', ms'.length = m ∧ Zs Y B z S ns n ms' H', ⟨ms.length, rfl, ms, rfl, h⟩, ?_⟩
  rintro m σ' H' ⟨rfl, ms', rfl, h'⟩
  refine zq_left bs h' hs fun H1 h1 => ?_
  cases ms' with
  | nil => exact q _ _ h1
  | cons m r =>
    refine zq_zero h1 hs fun b => ?_
    cases b with
    | false => exact q _ _ h1
    | true => exact ⟨fun σ2 H2 => ∃ m', m' < (m :: r).length ∧ σ2 = σ' ∧ ∃ ms', ms'.length = m' ∧ Zs Y B z S ns n ms' H2, fun _ _ z => z, z_drop bs h1 hs fun H2 h2 => ⟨r.length, Nat.lt_succ_self _, rfl, r, rfl, h2⟩⟩
/-- the list that is left is changed in its place -/
theorem zs_set {S' : Sto} (bs : Bs Y H0 B) (h : Zs Y B z S ns n ms H) {ms' : List Int} (b2 : ms'.length ≤ 63) (b4 : ∀ i ∈ ms', 0 ≤ i ∧ i.natAbs < 2 ^ 1048576) (b6 : n ≤ S'.n) (bg : S'.beg = S.beg) {c l : Addr} (d : Dr H z c l ns ms n) : Zs Y B z S' ns n ms' (upd H l (.lst (ms'.map V.int))) := by
  obtain ⟨G, c', l', ok, b, hz, d', mz, ml, fc, q1, q2, q3, q4, q5, q6⟩ := h
  have ecl : c' = c ∧ l' = l := by
    have := d.1.symm.trans d'.1
    cases this; exact ⟨rfl, rfl⟩
  obtain ⟨rfl, rfl⟩ := ecl
  have dd : Dr (upd H l' (.lst (ms'.map V.int))) z c' l' ns ms' n := ⟨by rw [upd_ne d.2.2.2.1.symm]; exact d.1, by rw [upd_ne d.2.2.2.2.2]; exact d.2.1, upd_same, d.2.2.2.1, d.2.2.2.2.1, d.2.2.2.2.2⟩
  obtain ⟨ex, ok'⟩ := dr_step (S' := S') ok hz mz fc dd (.inl ml) (fun a o h m => by
      have n1 : a ≠ l' := fun e => m (by rw [e]; exact ml)
      rw [upd_ne n1]; exact h) (fun a h => by
      by_cases e1 : a = l'
      · rw [e1, upd_same]; exact fun y => nomatch y
      · rw [upd_ne e1]; exact h)
    (fun a o h => by
      by_cases e1 : a = l'
      · exact .inr (.inr e1)
      · rw [upd_ne e1] at h; exact .inl h) q1 b2 q3 b4 q5 b6 bg (fun a o m h => by
      by_cases e1 : a = l'
      · rw [e1, upd_same] at h; cases h; exact ⟨fun s => s, fun _ y => nomatch y⟩
      · rw [upd_ne e1] at h; exact ⟨fun s => ok.solid a o h s m, fun f y => ok.ext a f (y ▸ h) m⟩) (fun a qs h => by
      have n1 : a ≠ l' := fun e => by (rw [e, d.2.2.1] at h; cases h)
      rw [upd_ne n1]; exact h)
  exact ⟨_, c', l', ok', bs.ext b ok ex, hz, dd, .inl mz, .inr rfl, fc, q1, b2, q3, b4, q5, b6⟩
/-- m['at'] = v -/
theorem zs_at {S' : Sto} (bs : Bs Y H0 B) (h : Zs Y B z S ns n ms H) {n' : Int} (b5 : 0 ≤ n') (b6 : n' ≤ S'.n) (bg : S'.beg = S.beg) {c l : Addr} (d : Dr H z c l ns ms n) : Zs Y B z S' ns n' ms (upd H z (.dK [(.inr "cells", .ref c), (.inr "left", .ref l), (.inr "at", .int n')])) := by
  obtain ⟨G, c', l', ok, b, hz, d', mz, ml, fc, q1, q2, q3, q4, q5, q6⟩ := h
  have ecl : c' = c ∧ l' = l := by
    have := d.1.symm.trans d'.1
    cases this; exact ⟨rfl, rfl⟩
  obtain ⟨rfl, rfl⟩ := ecl
  have dd : Dr (upd H z (.dK [(.inr "cells", .ref c'), (.inr "left", .ref l'), (.inr "at", .int n')])) z c' l' ns ms n' := ⟨upd_same, by rw [upd_ne d.2.2.2.2.1]; exact d.2.1, by rw [upd_ne d.2.2.2.1]; exact d.2.2.1, d.2.2.2⟩
  obtain ⟨ex, ok'⟩ := dr_step (S' := S') ok hz mz fc dd (.inl ml) (fun a o h m => by
      have n1 : a ≠ z := fun e => m (by rw [e]; exact mz)
      rw [upd_ne n1]; exact h) (fun a h => by
      by_cases e1 : a = z
      · rw [e1, upd_same]; exact fun y => nomatch y
      · rw [upd_ne e1]; exact h)
    (fun a o h => by
      by_cases e1 : a = z
      · exact .inr (.inl (by rw [e1]; exact mz))
      · rw [upd_ne e1] at h; exact .inl h) q1 q2 q3 q4 b5 b6 bg (fun a o m h => by
      by_cases e1 : a = z
      · rw [e1, upd_same] at h; cases h; exact ⟨fun s => s, fun _ y => nomatch y⟩
      · rw [upd_ne e1] at h; exact ⟨fun s => ok.solid a o h s m, fun f y => ok.ext a f (y ▸ h) m⟩) (fun a qs h => by
      have n1 : a ≠ z := fun e => by (rw [e, d.1] at h; cases h)
      rw [upd_ne n1]; exact h)
  exact ⟨_, c', l', ok', bs.ext b ok ex, hz, dd, .inl mz, .inr rfl, fc, q1, q2, q3, q4, b5, b6⟩
def rInt1 : List V → Hp → VK → Prop := fun xs H Q => (∃ i, xs = [.int i] ∧ Q (.int i) H) ∨ ∃ k, xs = [.bl k] ∧ Q (.int (if k then 1 else 0)) H
/-- the branch of great cells -/
def sGreat (K : PySem.W.Frag) : TS := tSeq (tAsg (tOp (rIxL K) (tKey "left") (tC (.int 0))) (gName 2)) (tSeq (tAsg (tOp (rI CDivW fun i j => .int (i / j)) (tVar 2) (tVar 1)) (gSub (tKey "left") (tC (.int 0)) rSetL))
  (tRet (tOp (rI (fun _ j => 0 < j) fun i j => .int (i % j)) (tCB rInt1 (tCons (tVar 2) tNil)) (tVar 1))))
theorem z_great {D : Ends} {m many : Int} {r : List Int} (bs : Bs Y H0 B) (h : Zs Y B z S ns n (m :: r) H) (hl : 7 ≤ σ.length) (hs : σ[0]? = some (some (.ref z))) (hm : σ[1]? = some (some (.int many))) (h0 : 0 < many) (h1 : many < 1073741824)
    (q : ∀ H1, Zs Y B z { S with n := S.n + 1 } ns n (m / many :: r) H1 → D.rt (.int (m % many)) H1) : sGreat K D σ H := by
  obtain ⟨G, c, l, ok, b, hz, d, mz, ml, fc, q1, q2, q3, q4, q5, q6⟩ := id h
  have hm0 := q4 m List.mem_cons_self
  have g0 : (σ.set 2 (some (.int m)))[0]? = some (some (.ref z)) := by rw [List.getElem?_set_ne (by decide)]; exact hs
  have g1 : (σ.set 2 (some (.int m)))[1]? = some (some (.int many)) := by rw [List.getElem?_set_ne (by decide)]; exact hm
  have g2 : (σ.set 2 (some (.int m)))[2]? = some (some (.int m)) := List.getElem?_set_self (by omega)
  have lg : many.natAbs.log2 < 9000 := by
    have : many.natAbs < 2 ^ 30 := by omega
    have h3 : many.natAbs ≠ 0 := by omega
    have := (Nat.log2_lt h3).mpr this
    omega
  refine t_left d hs ⟨l, (m :: r).map V.int, 0, .int m, rfl, rfl, .of d.2.2.1, by simp [atI, ixN], ?_⟩
  refine ⟨.int m, g2, .int many, g1, m, many, rfl, rfl, ⟨h0, lg⟩, ?_⟩
  refine t_left d g0 ⟨l, (m :: r).map V.int, 0, 0, rfl, rfl, d.2.2.1, by simp [ixN], ?_⟩
  refine ⟨.int m, g2, .inl ⟨m, rfl, .int many, g1, m, many, rfl, rfl, h0, ?_⟩⟩
  have e : ((m :: r).map V.int).set 0 (.int (m / many)) = (m / many :: r).map V.int := by simp
  rw [e]
  refine q _ (zs_set (S' := { S with n := S.n + 1 }) bs h (by simpa using q2) (fun i hi => ?_) (by show n ≤ ((S.n + 1 : Nat) : Int); omega) rfl d)
  rcases List.mem_cons.mp hi with rfl | hi
  · refine ⟨Int.ediv_nonneg hm0.1 (by omega), ?_⟩
    refine Nat.lt_of_le_of_lt ?_ hm0.2
    have : m / many ≤ m := Int.ediv_le_self _ hm0.1
    have := Int.ediv_nonneg hm0.1 (show 0 ≤ many by omega)
    omega
  · exact q4 i (List.mem_cons_of_mem _ hi)
end
end RM
end
section
set_option Elab.async false
set_option linter.all false
set_option maxRecDepth 100000
set_option autoImplicit false
/-! draws: the tail of _law_next -/
namespace RM
open PySem PySem.Spec PyProof.Rows L2

/-- cell = .., blend = .., return ..: many is 1, at 3, bits 4, cell 5, blend 6 -/
def nextTail : Ss :=
  .cons (.asg [5] (.ife (.val (.cmp .NotEq (.b 4) (.lst .nil)))
      (.bi .int1 (.cons (.sub (.b 4) (.bin .Mod (.bi .int1 (.cons (.bin .Add (.bin .Mult (.b 3) (.b 3)) (.bin .FloorDiv (.b 3) (.c (.int 2)))) .nil)) (.bi .len (.cons (.b 4) .nil)))) .nil)) (.c (.int 5))))
  (.cons (.asg [6] (.bin .Mod (.bi .int1 (.cons (.bin .Add (.bin .Add (.bin .Mult (.b 5) (.c (.int 40692))) (.bin .Mult (.b 3) (.c (.int 65539)))) (.bin .Mult (.bin .Mult (.c (.int 7001)) (.b 3)) (.b 3))) .nil)) (.c (.int 2147483399))))
  (.cons (.ret (.bin .Mod (.bi .int1 (.cons (.bin .FloorDiv (.bin .Mod (.bi .int1 (.cons (.bin .Add (.bin .Mult (.b 6) (.c (.int 48271))) (.bin .Mult (.c (.int 1013)) (.b 3))) .nil)) (.c (.int 2147483647))) (.c (.int 13))) .nil)) (.b 1)))
  .nil))
section
variable {kin : Kin} {C : Orc} {S : Sto}
theorem eqv_ints (ns : List Int) : PyData.eqv (.list (D.pds (ns.map D.int))) (.list (D.pds [])) = ns.isEmpty := by
  cases ns <;> rfl


theorem op_some {α : Type} (a : α) : (M.op (some a) : M α) = pure a := rfl
theorem exO_pure {α : Type} (a : α) (ρ : Fe) (k : α → M Out) : exO (pure a) ρ k = k a := rfl
theorem pures_ints : ∀ ns : List Int, D.pures (ns.map D.int) = true
  | [] => rfl
  | n :: ns => by simp [D.pures, D.pure, pures_ints ns]
theorem dpds_ints : ∀ ns : List Int, D.pds (ns.map D.int) = ns.map PyData.int
  | [] => rfl
  | n :: ns => by simp [D.pds, D.pd, dpds_ints ns]
theorem ne_empty (ns : List Int) : cmpD .NotEq (.lst (ns.map D.int)) (.lst []) = some (.bl (!ns.isEmpty)) := by
  unfold cmpD
  have h : D.okE (.lst (ns.map D.int)) (.lst []) = true := by
    unfold D.okE
    have h1 := depth_ints ns
    simp only [D.pure, D.pures, pures_ints, D.pd, D.pds, dpds_ints, Bool.and_true, Bool.true_and, decide_eq_true_eq, PyData.depth, PyData.depthAll]
    omega
  simp only [h, if_true]
  congr 2
  cases ns <;> rfl

theorem ne_nil0 : cmpD .NotEq (.lst []) (.lst []) = some (.bl false) := ne_empty []
theorem ne_cons0 (m : Int) (r : List Int) : cmpD .NotEq (.lst (.int m :: r.map D.int)) (.lst []) = some (.bl true) := ne_empty (m :: r)
theorem bMulR {i j : Int} (h0 : -(2 ^ 64) < j) (h : j < 2 ^ 64) : binD .Mult (.int i) (.int j) = some (.int (i * j)) := if_pos (Or.inr ⟨h0, h⟩)
theorem bMulL {i j : Int} (h0 : -(2 ^ 64) < i) (h : i < 2 ^ 64) : binD .Mult (.int i) (.int j) = some (.int (i * j)) := if_pos (Or.inl ⟨h0, h⟩)
theorem bFd {i j : Int} (h0 : 0 < j) (h : j < 1073741824) : binD .FloorDiv (.int i) (.int j) = some (.int (i / j)) := if_pos ⟨h0, h⟩
theorem bMd {i j : Int} (h0 : 0 < j) : binD .Mod (.int i) (.int j) = some (.int (i % j)) := if_pos h0
theorem bAd {i j : Int} : binD .Add (.int i) (.int j) = some (.int (i + j)) := rfl
theorem bSb {i j : Int} : binD .Sub (.int i) (.int j) = some (.int (i - j)) := rfl
theorem truD_bl {b : Bool} : truD (.bl b) = some b := rfl
theorem bI1 {i : Int} : biD kin .int1 [.int i] = some (.int i) := rfl
theorem atI_ints {ns : List Int} {i : Int} (h0 : 0 ≤ i) (h : i < ns.length) : ∃ j, subD (.lst (ns.map D.int)) (.int i) = some (.int j) := by
  have hn : i.toNat < ns.length := by omega
  refine ⟨ns[i.toNat], ?_⟩
  show atI _ _ = _
  unfold atI
  have : ixN ns.length i = some i.toNat := by unfold ixN; rw [if_pos h0, if_pos h]
  simp [this, List.getElem?_map, hn]

theorem next_tail {many at_ : Int} {ns : List Int} {Q : Out → Sto → Prop} (hlen : ns.length ≤ 63) (h0 : 0 < many) (a0 : 0 ≤ at_) (a1 : at_ < 2 ^ 60) (q : ∀ r, 0 ≤ r → r < many → Q (.ret (.int r)) S) :
    wpM (evSs kin C nextTail [.emp, .val (.int many), .emp, .val (.int at_), .val (.lst (ns.map D.int)), .emp, .emp]) S Q RN := by
  have cell : ∃ i : Int, evE kin C (.ife (.val (.cmp .NotEq (.b 4) (.lst .nil)))
      (.bi .int1 (.cons (.sub (.b 4) (.bin .Mod (.bi .int1 (.cons (.bin .Add (.bin .Mult (.b 3) (.b 3)) (.bin .FloorDiv (.b 3) (.c (.int 2)))) .nil)) (.bi .len (.cons (.b 4) .nil)))) .nil)) (.c (.int 5))) [.emp, .val (.int many), .emp, .val (.int at_), .val (.lst (ns.map D.int)), .emp, .emp] = pure (.int i) := by
    cases ns with
    | nil => exact ⟨5, by simp [evE, evT, evEs, mkLst, ne_nil0, op_some, truD_bl]⟩
    | cons m r =>
      have hl : biD kin .len [.lst (.int m :: r.map D.int)] = some (.int (r.length + 1 : Nat)) := by
        show some _ = some _
        simp
      have hp : (0 : Int) < ((r.length + 1 : Nat) : Int) := by omega
      obtain ⟨j, hj⟩ := atI_ints (ns := m :: r) (i := (at_ * at_ + at_ / 2) % ((r.length + 1 : Nat) : Int)) (Int.emod_nonneg _ (by omega)) (Int.emod_lt_of_pos _ hp)
      simp only [List.map_cons] at hj
      refine ⟨j, ?_⟩
      simp [evE, evT, evEs, mkLst, ne_cons0, op_some, truD_bl, bAd, bI1]
      simp (disch := omega) only [bMulR, bFd, bAd, bI1, op_some, pure_bind, hl, bMd]
      rw [hj]
      rfl
  obtain ⟨i, hi⟩ := cell
  unfold nextTail evSs
  rw [evS_asg]
  simp only [hi, exO_pure]
  have e1 : ∀ c : Int, asgP [5] (D.int c) [Slot.emp, Slot.val (D.int many), Slot.emp, Slot.val (D.int at_), Slot.val (D.lst (List.map D.int ns)), Slot.emp, Slot.emp] = some [Slot.emp, Slot.val (D.int many), Slot.emp, Slot.val (D.int at_), Slot.val (D.lst (List.map D.int ns)), Slot.val (.int c), Slot.emp] := fun _ => rfl
  rw [e1]
  simp only [op_some, pure_bind]
  unfold evSs
  rw [evS_asg]
  simp [evE, evEs, bAd, bI1, op_some]
  simp (disch := omega) only [bMulR, bMulL, bFd, bAd, bI1, op_some, pure_bind, bMd]
  simp only [exO_pure]
  have e2 : ∀ c d : Int, asgP [6] (D.int c) [Slot.emp, Slot.val (D.int many), Slot.emp, Slot.val (D.int at_), Slot.val (D.lst (List.map D.int ns)), Slot.val (.int d), Slot.emp] = some [Slot.emp, Slot.val (D.int many), Slot.emp, Slot.val (D.int at_), Slot.val (D.lst (List.map D.int ns)), Slot.val (.int d), Slot.val (.int c)] := fun _ _ => rfl
  rw [e2]
  simp only [op_some, pure_bind]
  generalize (i * 40692 + at_ * 65539 + 7001 * at_ * at_) % 2147483399 = b
  unfold evSs evS
  simp [evE, evEs, bAd, bI1, op_some]
  simp (disch := omega) only [bMulR, bMulL, bFd, bAd, bI1, op_some, pure_bind, bMd, exO_pure]
  exact wpM_pure.mpr (q _ (Int.emod_nonneg _ (by omega)) (Int.emod_lt_of_pos _ h0))
end
end RM
end
section
set_option Elab.async false
set_option linter.all false
set_option maxRecDepth 100000
set_option autoImplicit false
/-! draws: the whole of _law_next -/
namespace RM
open PySem PySem.Spec PyProof.Rows L2

section
variable {kin : Kin} {C : Orc} {Y : Tx} {W : WX} {H H0 : Hp} {S : Sto} {z : Addr} {ns ms : List Int} {n many : Int} {B : Gh → Hp → Prop} {D : Ends} {K : PySem.W.Frag}
def sAt : TS := sDPut (tVar 0) (tC (.str "at")) (tVar 3)
def tPar34 : TS := tPar 3 4 (tCons (tAdd (tKey "at") (tC (.int 1))) (tCons (tKey "cells") tNil))
theorem z_tail (hth : Y.thk = none) (bs : Bs Y H0 B) (h : Zs Y B z S ns n ms H) (hn : S.n < drawMost) (h0 : 0 < many) (q : ∀ r, 0 ≤ r → r < many → ∀ G1 H1, B G1 H1 → GOk Y G1 H1 { S with n := S.n + 1 } → D.rt (.int r) H1) :
    tSeq tPar34 (tSeq sAt (tS Y W (evSs kin C nextTail))) D [some (.ref z), some (.int many), none, none, none, none, none] H := by
  obtain ⟨G, c, l, ok, b, hz, d, mz, ml, fc, q1, q2, q3, q4, q5, q6⟩ := id h
  have put := DPut.k (k := (.inr "at" : Key)) (v := V.int (n + 1)) d.1 (by show 3 < sizeLine; decide)
  rw [p_at] at put
  have zs' := zs_at (S' := { S with n := S.n + 1 }) bs h (n' := n + 1) (by omega) (by show n + 1 ≤ ((S.n + 1 : Nat) : Int); omega) rfl d
  refine t_at d rfl ⟨n, 1, rfl, rfl, t_cells d rfl ⟨_, _, rfl, .int (n + 1), rfl, .ref z, rfl, z, _, rfl, put, ?_⟩⟩
  obtain ⟨G1, c1, l1, ok1, b1, hz1, d1, mz1, ml1, fc1, _⟩ := zs'
  have ec : c1 = c := by
    have := d1.1
    rw [upd_same] at this
    cases this; rfl
  subst ec
  refine ⟨H0, B, G1, [.emp, .val (.int many), .emp, .val (.int (n + 1)), .val (.lst (ns.map RM.D.int)), .emp, .emp], _, bs, ok1, b1, ?_, ?_⟩
  · refine ⟨rfl, fun i s hs => ?_, fun i j xs ys a e => ?_, fun z hz => by rw [hth] at hz; cases hz⟩
    · match i with
      | 0 => cases hs; trivial
      | 1 => cases hs; exact ⟨_, rfl, .int _⟩
      | 2 => cases hs; trivial
      | 3 => cases hs; exact ⟨_, rfl, .int _⟩
      | 4 => cases hs; exact ⟨_, rfl, .lst d1.2.1 fc1 (rds_ints ns)⟩
      | 5 => cases hs; trivial
      | 6 => cases hs; trivial
      | i + 7 => simp at hs
    · match i with
      | 0 => simp at e
      | 1 => simp at e
      | 2 => simp at e
      | 3 => simp at e
      | 4 => simp at e
      | 5 => simp at e
      | 6 => simp at e
      | i + 7 => simp at e
  · refine next_tail q1 h0 (by omega) (by have : S.n < 2 ^ 50 := hn; omega) fun r r0 r1 G2 H2 v b2 ok2 rv => ?_
    cases rv
    exact q r r0 r1 G2 H2 b2 ok2
/-- the whole -/
def sNext (K : PySem.W.Frag) (u : TS) : TS := tSeq (tWhile (tAnd (qLeft K) (qZero K)) (sDrop K)) (tSeq (tIfS (qLeft K) (sGreat K) tNext) (tSeq tPar34 (tSeq sAt u)))
theorem z_next (hth : Y.thk = none) (bs : Bs Y H0 B) (h : Zs Y B z S ns n ms H) (hn : S.n < drawMost) (h0 : 0 < many) (h1 : many < 1073741824) (q : ∀ r, 0 ≤ r → r < many → ∀ G1 H1, B G1 H1 → GOk Y G1 H1 { S with n := S.n + 1 } → D.rt (.int r) H1) :
    sNext K (tS Y W (evSs kin C nextTail)) D [some (.ref z), some (.int many), none, none, none, none, none] H := by
  refine z_while bs h rfl fun ms' H1 h' => ?_
  refine zq_left bs h' rfl fun H2 h2 => ?_
  cases ms' with
  | nil => exact z_tail hth bs h2 hn h0 q
  | cons m r =>
    refine z_great bs h2 (Nat.le_refl 7) rfl rfl h0 h1 fun H3 h3 => ?_
    obtain ⟨G3, _, _, ok3, b3, _⟩ := h3
    exact q _ (Int.emod_nonneg _ (by omega)) (Int.emod_lt_of_pos _ h0) G3 H3 b3 ok3
end
end RM
end
section
set_option Elab.async false
set_option linter.all false
set_option maxRecDepth 100000
set_option autoImplicit false
/-! draws: the promise of _law_next -/
namespace RM
open PySem PySem.Spec PyProof.Rows L2

section
variable {kin : Kin} {gt : Gt} {Y : Tx} {k : Nat} {C : Orc} {U : Wd} {f : Addr}
/-- a def by a script of its body: its context is Sok -/
theorem fn_by {name qual : Str} {params : Arguments} {body : List Stmt} {scope : Scope} {dV kV doc pm cdv ct oc : Value} {an od : Option Addr} {osl : Array (Option Value)} {N ps : List Str} {own : List Nat} {sp : Sp}
    (lk : Y.K.lookup f = some ⟨oc, od, .func (PySem.W.fnOf name qual params body scope dV kV doc pm an cdv ct), osl⟩) (hcd : PySem.W.codeIn Y.K cdv qual = true) (sc : FnScope N ps scope) (hb : Binds Y.K (PySem.W.fnOf name qual params body scope dV kV doc pm an cdv ct) ps [])
    (hY : Y.cur = none) (kok : KinOk kin Y) (sys : ∃ o, U.base.get? sysModules = some o) (gtk : GtOk false gt Y k C U.P U.w Y.K U.mg U.base) (len : ∀ vs H Q E, sp vs H Q E → vs.length = ps.length)
    (hbody : ∀ (X : Cx) (vs : List V) (H : Hp) (Q : VK) (E : XK), Sok kin gt Y k C (fnCfg N scope own) X (fun cls d _ H => E cls d H) → AtW U X → sp vs H Q E →
      ∃ t, PSs X body t ∧ t { nx := fun _ H' => Q .non H', rt := Q } (start N vs) H) : FnG U.P U.w Y.K U.mg U.base (k + 2) f ps.length sp := by
  refine FnG.of (k := k + 1) lk hcd sc hb len fun A outer s H vs Q E hr1 hg hsp => ?_
  have hr := hr1.mono (show k ≤ k + 1 by omega)
  have tk : Takes (cxOf (L2.CX U.P U.w) U.P U.w Y.K U.mg U.base N qual scope f cdv A outer s H E) (fun cls d _ H => E cls d H) := takes_of rfl rfl rfl rfl
  have so : Sok kin gt Y k C (fnCfg N scope own) (cxOf (L2.CX U.P U.w) U.P U.w Y.K U.mg U.base N qual scope f cdv A outer s H E) (fun cls d _ H => E cls d H) :=
    { o := { ox := ⟨sc.nd, fun _ => rfl, rfl, fun _ => hr, (by have h := hr.un; show (A.deeper (envOfC qual scope s.heap.objs.size f cdv)).units + 200 < cLine; omega), hg, sys, fun _ => hr1⟩, N := rfl, sc := rfl, fn := rfl, tk := tk, cold := fun _ => hY, kok := kok, cur := fun a cls dx e => by (rw [hY] at e; cases e), lm := (fun z => nomatch z), th := (fun i z => nomatch z), gt := gtk },
      po := fun _ => passes_of rfl, stk := rfl, frm := rfl, kd := sc.kind }
  exact hbody _ vs H Q E so ⟨rfl, rfl, rfl, rfl⟩ hsp

/-- what a law's text of _law_next is shown to be -/
def NextIs (kin : Kin) (gt : Gt) (C : Orc) (N : List Str) (scope : Scope) (body : List Stmt) : Prop :=
  ∀ (Y : Tx) (k : Nat) (X : Cx) (W : WX) (U : Wd), Sok kin gt Y k C (fnCfg N scope []) X W → AtW U X → Sms kin gt Y k C U → PSs X body (sNext Y.K (tS Y W (evSs kin C nextTail)))
theorem next_fn {name qual : Str} {params : Arguments} {body : List Stmt} {scope : Scope} {dV kV doc pm cdv ct oc : Value} {an od : Option Addr} {osl : Array (Option Value)} {N ps : List Str}
    (lk : Y.K.lookup f = some ⟨oc, od, .func (PySem.W.fnOf name qual params body scope dV kV doc pm an cdv ct), osl⟩) (hcd : PySem.W.codeIn Y.K cdv qual = true) (sc : FnScope N ps scope) (hb : Binds Y.K (PySem.W.fnOf name qual params body scope dV kV doc pm an cdv ct) ps [])
    (hY : Y.cur = none) (hth : Y.thk = none) (kok : KinOk kin Y) (sys : ∃ o, U.base.get? sysModules = some o) (gtk : GtOk false gt Y k C U.P U.w Y.K U.mg U.base) (ms : Sms kin gt Y k C U) (hN : N.length = 7) (hps : ps.length = 2) (hi : NextIs kin gt C N scope body) :
    FnG U.P U.w Y.K U.mg U.base (k + 2) f 2 (spG Y 2 orcNext) := by
  suffices key : FnG U.P U.w Y.K U.mg U.base (k + 2) f ps.length (spG Y ps.length orcNext) by
    rw [hps] at key
    exact key
  refine fn_by (own := []) lk hcd sc hb hY kok sys gtk (fun vs H Q E h => h.1) fun X vs H Q E so av hsp => ?_
  refine ⟨_, hi Y k X _ U so av ms, ?_⟩
  obtain ⟨hl, G, S, ds, ok, rs, w⟩ := hsp
  rw [hps] at hl
  obtain ⟨v0, v1, rfl⟩ : ∃ a b, vs = [a, b] := by
    match vs, hl with
    | [a, b], _ => exact ⟨a, b, rfl⟩
  cases rs with
  | cons r0 rs =>
  cases rs with
  | cons r1 rs =>
  cases rs
  unfold orcNext at w
  split at w
  · rename_i n e
    cases e
    cases r0 with
    | @drw z hz =>
    cases r1
    split at w
    · rename_i hn
      unfold drawM wpM at w
      dsimp only at w
      split at w
      · rename_i hd
        simp only [Bool.and_eq_true, decide_eq_true_eq] at hd
        obtain ⟨ns, n', ms', zs⟩ := zs_open (B := Ext G H) ok Ext.refl hz
        have st : L2.start N [V.ref z.1, V.int n] = [some (.ref z.1), some (.int n), none, none, none, none, none] := by
          unfold L2.start
          rw [hN]; rfl
        rw [st]
        refine z_next hth Bs.entry zs hd.2 hn.1 hn.2 fun r h0 h1 G1 H1 e1 ok1 => ?_
        have w1 := w r.toNat (by omega)
        have er : ((r.toNat : Nat) : Int) = r := by omega
        have w2 : ∀ G' H' v, Ext G H G' H' → GOk Y G' H' { S with n := S.n + 1 } → RD Y G' H' v (.int ((r.toNat : Nat) : Int)) → Q v H' := w1
        rw [er] at w2
        exact w2 G1 H1 _ e1 ok1 (.int r)
      · exact w.elim
    · exact w.elim
  · exact w.elim
end
end RM
end
section
set_option Elab.async false
set_option linter.all false
set_option maxRecDepth 100000
set_option autoImplicit false
/-! draws: the promise of _law_begun -/
namespace RM
open PySem PySem.Spec PyProof.Rows L2

def begCells : E := .bi .list (.cons (.b 0) .nil)
def begLeft : E := .lc [1] [1] (.seq (.b 0)) (.val (.cmp .GtE (.b 1) (.bin .Pow (.c (.int 10)) (.c (.int 18))))) (.v 1)
/-- the display of the draws' state -/
def sBegun (Y : Tx) (W : WX) (kin : Kin) (C : Orc) : TS := tRet (tDisp [(tC (.str "cells"), tN Y W (evE kin C begCells)), (tC (.str "left"), tN Y W (evE kin C begLeft)), (tC (.str "at"), tC (.int 0))])

section
variable {kin : Kin} {C : Orc} {gt : Gt} {Y : Tx} {k : Nat} {S : Sto} {W : WX} {U : Wd} {f : Addr}
theorem okL_int (i j : Int) : D.okL (.int i) (.int j) = true := by
  unfold D.okL
  simp [D.pure, D.pd, D.isNon, PyData.depth, PySem.W.alike]
theorem ge_int (i j : Int) : cmpD .GtE (.int i) (.int j) = some (.bl (!decide (i < j))) := by
  unfold cmpD
  simp only [okL_int, if_true, D.pd, PySem.W.dataLt_int]
theorem pow18 : binD .Pow (.int 10) (.int 18) = some (.int 1000000000000000000) := by
  show (if 0 ≤ (18 : Int) ∧ (18 : Int) ≤ 1000000 ∧ (10 : Int).natAbs < 2 ^ 64 then some (D.int ((10 : Int) ^ (18 : Int).toNat)) else none) = _
  rw [if_pos (by decide)]
  rfl
theorem left_one (ns : List Int) (i : Int) : lcF kin C [Slot.val (.scr ns), .emp] [1] [1] (.val (.cmp .GtE (.b 1) (.bin .Pow (.c (.int 10)) (.c (.int 18))))) (.v 1) (.int i) = pure (if 1000000000000000000 ≤ i then some (.int i) else none) := by
  have e : asgP [1] (D.int i) (wipeE [Slot.val (.scr ns), .emp] [1]) = some [Slot.val (.scr ns), .val (.int i)] := rfl
  unfold lcF
  rw [e]
  simp [evE, evT, op_some, pow18, ge_int, truD_bl]
  by_cases h : (1000000000000000000 : Int) ≤ i
  · simp [h]
  · simp [h]
theorem left_all (ns : List Int) : ∀ ms : List Int, mapO (lcF kin C [Slot.val (.scr ns), .emp] [1] [1] (.val (.cmp .GtE (.b 1) (.bin .Pow (.c (.int 10)) (.c (.int 18))))) (.v 1)) (ms.map D.int) = pure ((ms.filter fun i => decide (1000000000000000000 ≤ i)).map D.int)
  | [] => rfl
  | i :: r => by
    show mapO _ (D.int i :: r.map D.int) = _
    unfold mapO
    rw [left_one, left_all ns r]
    by_cases h : (1000000000000000000 : Int) ≤ i <;> simp [h]
theorem quiet_pure {α : Type} (a : α) : M.quiet (pure a : M α) = pure a := rfl
theorem beg_cells (ns : List Int) : evE kin C begCells [Slot.val (.scr ns), .emp] = pure (.lst (ns.map D.int)) := by
  unfold begCells
  simp [evE, evEs, biD, itemsD, op_some]
theorem beg_left (ns : List Int) (h : ns.length ≤ 63) : evE kin C begLeft [Slot.val (.scr ns), .emp] = pure (.lst ((ns.filter fun i => decide (1000000000000000000 ≤ i)).map D.int)) := by
  unfold begLeft
  rw [evE_lc]
  have hz := sizeLine_eq
  have e : evI kin C (.seq (.b 0)) [Slot.val (.scr ns), .emp] = pure (ns.map D.int) := by simp [evI, evE, iterD, op_some]
  have e2 : small (ns.map D.int).length = pure () := by
    unfold small
    rw [if_pos (by rw [List.length_map]; omega)]
  rw [e]
  simp only [pure_bind]
  rw [e2, left_all]
  rfl

/-- what a law's text of _law_begun is shown to be -/
def BegunIs (kin : Kin) (gt : Gt) (C : Orc) (N : List Str) (scope : Scope) (body : List Stmt) : Prop :=
  ∀ (Y : Tx) (k : Nat) (X : Cx) (W : WX) (U : Wd), Sok kin gt Y k C (fnCfg N scope []) X W → AtW U X → PSs X body (sBegun Y W kin C)
theorem fits {i : Int} {ns : List Int} (h : scriptOk ns = true) (hi : i ∈ ns) : i.natAbs < 2 ^ 1048576 := by
  unfold scriptOk at h
  rw [Bool.and_eq_true, List.all_eq_true] at h
  exact of_decide_eq_true (h.2 i hi)
theorem begun_fn {name qual : Str} {params : Arguments} {body : List Stmt} {scope : Scope} {dV kV doc pm cdv ct oc : Value} {an od : Option Addr} {osl : Array (Option Value)} {N ps : List Str}
    (lk : Y.K.lookup f = some ⟨oc, od, .func (PySem.W.fnOf name qual params body scope dV kV doc pm an cdv ct), osl⟩) (hcd : PySem.W.codeIn Y.K cdv qual = true) (sc : FnScope N ps scope) (hb : Binds Y.K (PySem.W.fnOf name qual params body scope dV kV doc pm an cdv ct) ps [])
    (hY : Y.cur = none) (hth : Y.thk = none) (kok : KinOk kin Y) (sys : ∃ o, U.base.get? sysModules = some o) (gtk : GtOk false gt Y k C U.P U.w Y.K U.mg U.base) (hN : N.length = 2) (hps : ps.length = 1) (hi : BegunIs kin gt C N scope body) :
    FnG U.P U.w Y.K U.mg U.base (k + 2) f 1 (spG Y 1 orcBegun) := by
  suffices key : FnG U.P U.w Y.K U.mg U.base (k + 2) f ps.length (spG Y ps.length orcBegun) by
    rw [hps] at key
    exact key
  refine fn_by (own := []) lk hcd sc hb hY kok sys gtk (fun vs H Q E h => h.1) fun X vs H Q E so av hsp => ?_
  refine ⟨_, hi Y k X _ U so av, ?_⟩
  obtain ⟨hl, G, S, ds, ok, rs, w⟩ := hsp
  rw [hps] at hl
  obtain ⟨v0, rfl⟩ : ∃ a, vs = [a] := by
    match vs, hl with
    | [a], _ => exact ⟨a, rfl⟩
  cases rs with
  | cons r0 rs =>
  cases rs
  rename_i d0'
  have hd : (∃ ns, d0' = .scr ns) ∨ orcBegun [d0'] = M.fail := by cases d0' <;> first | exact .inl ⟨_, rfl⟩ | exact .inr rfl
  rcases hd with ⟨ns, rfl⟩ | hd
  · obtain ⟨a, rfl, hs⟩ := (RD.rv r0).scr
    unfold orcBegun wpM at w
    dsimp only at w
    split at w
    · rename_i hc
      simp only [Bool.and_eq_true, Bool.not_eq_true', decide_eq_true_eq] at hc
      obtain ⟨⟨b0, n0⟩, sk⟩ := hc
      have hlen : ns.length ≤ 63 := by
        unfold scriptOk at sk
        rw [Bool.and_eq_true] at sk
        exact of_decide_eq_true sk.1
      have d0 := ok.dr0 b0
      have st : L2.start N [V.ref a] = [some (.ref a), none] := by
        unfold L2.start
        rw [hN]; rfl
      rw [st]
      intro p np
      have e1 : Ext G H G (upd H p (.dK [])) := Ext.new ok np
      have ok1 : GOk Y G (upd H p (.dK [])) S := ok.new np
      have pF : ¬ G.Fz p := fun z => ok.fzT p z np
      have pM : ¬ G.Mu p := fun z => ok.muT p z np
      have sr1 : SR Y H G (upd H p (.dK [])) [some (.ref a), none] [Slot.val (.scr ns), .emp] := by
        refine ⟨rfl, fun i s h => ?_, fun i j xs ys b h => ?_, fun z hz => by rw [hth] at hz; cases hz⟩
        · match i with
          | 0 => cases h; exact ⟨_, rfl, (RD.scr hs : RD Y G H _ _).ext e1 ok⟩
          | 1 => cases h; trivial
          | i + 2 => simp at h
        · match i with
          | 0 => simp at h
          | 1 => simp at h
          | i + 2 => simp at h
      refine ⟨H, G, _, S, ok1, sr1, ?_⟩
      rw [beg_cells]
      refine wpM_pure.mpr fun G2 H2 c vc dc edc e2 ok2 nc hc cF cM rc => ?_
      cases edc
      refine ⟨H, G2, _, S, ok2, sr1.ext e2 ok1, ?_⟩
      rw [beg_left ns hlen]
      refine wpM_pure.mpr fun G3 H3 l vs3 ds3 ed e3 ok3 nl hl3 lF lM r3 => ?_
      cases ed
      have pp : H3 p = some (.dK []) := e3.keep p _ (e2.keep p _ upd_same pM) fun m => (e2.nmu p m).elim pM fun z => by (rw [upd_same] at z; cases z)
      have nM2 : ¬ G2.Mu p := fun m => (e2.nmu p m).elim pM fun z => by (rw [upd_same] at z; cases z)
      have nM3 : ¬ G3.Mu p := fun m => (e3.nmu p m).elim nM2 fun z => by (rw [e2.keep p _ upd_same pM] at z; cases z)
      have nF2 : ¬ G2.Fz p := fun m => (e2.nfz p m).elim pF fun z => by (rw [upd_same] at z; cases z)
      have nF3 : ¬ G3.Fz p := fun m => (e3.nfz p m).elim nF2 fun z => by (rw [e2.keep p _ upd_same pM] at z; cases z)
      refine ⟨pp, [(.inr "cells", .ref c), (.inr "left", .ref l), (.inr "at", .int 0)], rfl, by simp, ?_⟩
      have em : mergeK [] [((.inr "cells" : Key), V.ref c), (.inr "left", .ref l), (.inr "at", .int 0)] = [(.inr "cells", .ref c), (.inr "left", .ref l), (.inr "at", .int 0)] := rfl
      rw [em]
      have ec : vc = ns.map V.int := by
        have aux : ∀ (ns : List Int) (vs : List V), RDs Y G2 H2 vs (ns.map D.int) → vs = ns.map V.int := by
          intro ns
          induction ns with
          | nil => intro vs h; cases h; rfl
          | cons n r ih =>
            intro vs h
            cases h with
            | cons h1 h2 => cases h1; rw [ih _ h2]; rfl
        exact aux ns vc rc
      have el : vs3 = (ns.filter fun i => decide (1000000000000000000 ≤ i)).map V.int := by
        have aux : ∀ (ns : List Int) (vs : List V), RDs Y G3 H3 vs (ns.map D.int) → vs = ns.map V.int := by
          intro ns
          induction ns with
          | nil => intro vs h; cases h; rfl
          | cons n r ih =>
            intro vs h
            cases h with
            | cons h1 h2 => cases h1; rw [ih _ h2]; rfl
        exact aux _ vs3 r3
      subst ec el
      have pc : p ≠ c := fun z => by (rw [← z, e2.keep p _ upd_same pM] at hc; cases hc)
      have pl : p ≠ l := fun z => by (rw [← z, pp] at hl3; cases hl3)
      have hc3 : H3 c = some (.lst (ns.map V.int)) := e3.keep c _ hc cM
      have cl : c ≠ l := fun z => by (rw [← z, hc] at nl; cases nl)
      have cM3 : ¬ G3.Mu c := fun m => (e3.nmu c m).elim cM fun z => by (rw [hc] at z; cases z)
      have e02 := e1.trans (e2.trans e3)
      have nd : G3.dr = G3.dr := rfl
      generalize hH4 : upd H3 p (.dK [((.inr "cells" : Key), V.ref c), (.inr "left", .ref l), (.inr "at", .int 0)]) = H4
      have k4 : ∀ b, b ≠ p → H4 b = H3 b := fun b hb => by rw [← hH4, upd_ne hb]
      have hp4 : H4 p = some (.dK [((.inr "cells" : Key), V.ref c), (.inr "left", .ref l), (.inr "at", .int 0)]) := by rw [← hH4, upd_same]
      let G4 : Gh := { Fz := fun b => G3.Fz b ∨ b = c, Mu := fun b => G3.Mu b ∨ b = p ∨ b = l, dr := some (p, c) }
      have hcH : H c = none := by
        cases z : H c with
        | none => rfl
        | some o => exact absurd nc (by rw [upd_ne (fun y => by rw [y, np] at z; cases z), z]; exact fun y => nomatch y)
      have npH : ∀ b, H b ≠ none → b ≠ p := fun b hb z => hb (z ▸ np)
      have hlH : H l = none := by
        cases z : H l with
        | none => rfl
        | some o =>
          have z1 : upd H p (.dK []) l ≠ none := e1.there l (by rw [z]; exact fun y => nomatch y)
          exact absurd nl (e2.there l z1)
      refine w G4 H4 (.ref p) ?_ ?_ (RD.drw (z := (p, c)) rfl)
      · refine ⟨fun b h => .inl (e02.fz b h), fun b h => .inl (e02.mu b h), fun z h => ?_, fun b o h m => ?_, fun b h => ?_, fun b h => h.elim (e02.nfz b) fun z => .inr (by rw [z]; exact hcH), fun b h => ?_, fun z h => ?_⟩
        · rw [d0] at h; cases h
        · rw [k4 b (npH b (by rw [h]; exact fun y => nomatch y))]
          exact e02.keep b o h m
        · rw [k4 b (npH b h)]
          exact e02.there b h
        · rcases h with h | h | h
          · exact e02.nmu b h
          · rw [h]; exact .inr np
          · rw [h]; exact .inr hlH
        · cases h
          exact .inr hcH
      · have mp : ∀ b, b = p ∨ b = l → ¬ G3.Fz b := fun b h => by
          rcases h with h | h
          · rw [h]; exact nF3
          · rw [h]; exact lF
        refine ⟨fun b f m => f.elim (fun f => m.elim (ok3.fzmu b f) fun m => mp b m f) fun f => m.elim (fun m => cM3 (f ▸ m)) fun m => m.elim (fun m => pc (m.symm.trans f)) fun m => cl (f.symm.trans m), fun b f => ?_, fun b m => ?_, fun b o h s m => ?_, fun z h => ?_, fun h => (by cases h), fun q hq => ⟨.inl (ok3.tab q hq).1, tab_ne (p := p) (ok3.tab q hq).2 (fun a u n h => by rw [k4 a n]; exact h) (fun z => nM3 (by rw [← z]; exact (ok3.tab q hq).1)) fun f z => by (rw [pp] at z; cases z)⟩, fun b f h m => ?_⟩
        · rcases f with f | f
          · rw [k4 b (fun z => nF3 (z ▸ f))]
            exact ok3.fzT b f
          · rw [f, k4 c pc.symm, hc3]; exact fun y => nomatch y
        · rcases m with m | m | m
          · rw [k4 b (fun z => nM3 (z ▸ m))]
            exact ok3.muT b m
          · rw [m, hp4]; exact fun y => nomatch y
          · rw [m, k4 l pl.symm, hl3]; exact fun y => nomatch y
        · rcases m with m | m | m
          · rw [k4 b (fun z => nM3 (z ▸ m))] at h
            exact ok3.solid b o h s m
          · rw [m, hp4] at h; cases h; exact s
          · rw [m, k4 l pl.symm, hl3] at h; cases h; exact s
        · have ez : z = (p, c) := (Option.some.inj h).symm
          subst ez
          refine ⟨l, ns, _, 0, hp4, .inr (.inl rfl), .inr (.inr rfl), pl.symm, by show H4 c = _; rw [k4 c pc.symm]; exact hc3, .inr rfl, by rw [k4 l pl.symm]; exact hl3, hlen, Nat.le_trans (List.length_filter_le _ _) hlen, fun i hi => fits sk hi, fun i hi => ?_, by omega, by show (0 : Int) ≤ (S.n : Int); omega⟩
          have := List.mem_filter.mp hi
          have h2 := of_decide_eq_true this.2
          exact ⟨by omega, fits sk this.1⟩
        · rcases m with m | m | m
          · rw [k4 b (fun z => nM3 (z ▸ m))] at h
            exact ok3.ext b f h m
          · rw [m, hp4] at h; cases h
          · rw [m, k4 l pl.symm, hl3] at h; cases h
    · exact w.elim
  · rw [hd] at w
    exact w.elim
end
end RM
end
section
set_option Elab.async false
set_option linter.all false
set_option maxRecDepth 100000
set_option autoImplicit false
/-! what the head tells of the classes and names, by tests -/
namespace RM
open PySem PySem.Spec PyProof.Rows L2 PySem.W

def eqB (a b : Option Bool) : Bool := decide (a = b)
theorem eqB_ok {a b : Option Bool} (h : eqB a b = true) : a = b := of_decide_eq_true h
def eqV (a b : Option Value) : Bool := decide (a = b)
theorem eqV_ok {a b : Option Value} (h : eqV a b = true) : a = b := of_decide_eq_true h
theorem and2 {a b : Bool} (h : (a && b) = true) : a = true ∧ b = true := (Bool.and_eq_true _ _).mp h

/-- the built-in classes that own exceptions hang on -/
def xbases : List (String × String × String × List Value) := [
  ("ValueError", "ValueError.__new__", "ValueError.__init__", [.type "ValueError", .type "Exception", .type "BaseException", .type "object"]),
  ("LookupError", "LookupError.__new__", "LookupError.__init__", [.type "LookupError", .type "Exception", .type "BaseException", .type "object"]),
  ("OverflowError", "OverflowError.__new__", "OverflowError.__init__", [.type "OverflowError", .type "ArithmeticError", .type "Exception", .type "BaseException", .type "object"])]
theorem xbases_ok : ∀ z ∈ xbases, XBase z.1 z.2.1 z.2.2.1 z.2.2.2 := by
  intro z hz
  unfold xbases at hz
  rcases List.mem_cons.mp hz with rfl | hz
  · exact ⟨PySem.F.excBase_ValueError, PySem.F.store_ValueError, kxs_ValueError, rfl⟩
  rcases List.mem_cons.mp hz with rfl | hz
  · exact ⟨PySem.F.excBase_LookupError, PySem.F.store_LookupError, kxs_LookupError, rfl⟩
  rcases List.mem_cons.mp hz with rfl | hz
  · exact ⟨PySem.F.excBase_OverflowError, PySem.F.store_OverflowError, kxs_OverflowError, rfl⟩
  cases hz
def xbOf (K : Frag) (C : Addr) : Option (String × String × String × List Value) := match K.lookup C with
  | some ⟨_, _, .cls _, sl⟩ => (match sl.toList with
    | [_, _, _, _, some (.builtin n), _] => xbases.find? fun z => z.2.1 == n
    | _ => none)
  | _ => none
theorem xbOf_ok {K : Frag} {C : Addr} {z : String × String × String × List Value} (h : xbOf K C = some z) : XBase z.1 z.2.1 z.2.2.1 z.2.2.2 := by
  unfold xbOf at h
  split at h
  · split at h
    · exact xbases_ok z (List.mem_of_find?_eq_some h)
    · cases h
  · cases h
/-- the class of an own exception -/
def oexB (K : Frag) (C : Addr) (nw : String) (tl : List Value) : Bool :=
  (match K.lookup C with
  | some ⟨.type t, dd, .cls cd, sl⟩ => t == "type" && (match cd.mro, sl.toList with
    | .ref C' :: bm, [_, _, _, _, some (.builtin n), _] => C' == C && (n == nw && (!cd.hasDel && (cd.hasDict && refsB tl bm)))
    | _, _ => false)
  | _ => false) && (He.eqO (findIn K (.ref C) "__setattr__") (some (some (.builtin "object.__setattr__"))) && (eqB (subIn K (.ref C) (.type "BaseException")) (some true) && (eqV (typeIn K (.ref C)) (some (.type "type")) && keepIn K (.ref C))))
theorem oexB_ok {K : Frag} {C : Addr} {nw : String} {tl : List Value} (h : oexB K C nw tl = true) : OexB K C nw tl := by
  obtain ⟨h1, h⟩ := and2 h
  obtain ⟨h2, h⟩ := and2 h
  obtain ⟨h3, h⟩ := and2 h
  obtain ⟨h4, h5⟩ := and2 h
  refine ⟨?_, He.eqO_ok h2, eqB_ok h3, eqV_ok h4, h5⟩
  split at h1
  · rename_i t dd cd sl ho
    obtain ⟨e0, h1⟩ := and2 h1
    split at h1
    · rename_i C' bm s0 s1 s2 s3 n s5 hm hs
      obtain ⟨e1, h1⟩ := and2 h1
      obtain ⟨e2, h1⟩ := and2 h1
      obtain ⟨e3, h1⟩ := and2 h1
      obtain ⟨e4, e5⟩ := and2 h1
      obtain ⟨nm, bs, mro, N, q, hd, sn, sub, ab, col, del⟩ := cd
      dsimp only at hm e3 e4
      have e0 := beq_iff_eq.mp e0
      have e1 := beq_iff_eq.mp e1
      have e2 := beq_iff_eq.mp e2
      have e3 : del = false := by simpa using e3
      subst e0 e1 e2 e3 hm e4
      refine ⟨nm, q, N, bs, bm, sn, sub, ab, col, dd, s0, s1, s2, s3, s5, ?_, e5⟩
      rw [ho]
      have : sl = #[s0, s1, s2, s3, some (.builtin n), s5] := by
        apply Array.toList_inj.mp
        rw [hs]
      rw [this]
    · cases h1
  · cases h1

/-- the body of such an __init__ -/
def isXB (f pv : Str) : List Stmt → Bool
  | [.Expr (.Call (.Attribute (.Call (.Name a p0) [] [] p1) b p2) [.Constant (.str m) j p3] [] p4) p5, .Assign [.Attribute (.Name c p6) g p7] (.Name v p8) p9] => a == "super" && (b == "__init__" && (c == "self" && (g == f && (v == pv && p2.endLine == p4.line))))
  | _ => false
theorem isXB_ok {f pv : Str} {b : List Stmt} (h : isXB f pv b = true) : ∃ m p0 p1 p2 p3 p4 p5 p6 p7 p8 p9 j, b = xBody m f pv p0 p1 p2 p3 p4 p5 p6 p7 p8 p9 j ∧ (p2.endLine == p4.line) = true := by
  unfold isXB at h
  split at h
  · rename_i a p0 p1 b p2 m j p3 p4 p5 c p6 g p7 v p8 p9
    simp only [Bool.and_eq_true, beq_iff_eq] at h
    obtain ⟨rfl, rfl, rfl, rfl, rfl, h6⟩ := h
    exact ⟨m, p0, p1, p2, p3, p4, p5, p6, p7, p8, p9, j, rfl, by simpa using h6⟩
  · cases h
def xFields : List Str := ["value", "place", "line", "paper", "most"]
def isXP (pv : Str) : Arguments → Bool
  | ⟨[], [⟨a, _, _⟩, ⟨b, _, _⟩], none, [], [], none, []⟩ => a == "self" && (b == pv && xFields.contains pv)
  | _ => false
theorem isXP_ok {pv : Str} {ps : Arguments} (h : isXP pv ps = true) : (∃ ar, (ps.posonlyargs ++ ps.args).head? = some ar ∧ ar.arg = "self") ∧ (pv == ("__debug__" : Str)) = false ∧ (pv == ("self" : Str)) = false ∧
    ∀ (name qual : Str) (body : List Stmt) (scope : Scope) (kV doc pm : Value) (an : Option Addr) (cdv ct : Value) (cc : Addr) (s : Shared) (u v : Value), BindsTo s (ksFn name qual ps body scope .none kV doc pm an cdv ct cc) ⟨[u, v], []⟩ [("self", u), (pv, v)] ∧ BindsTo s (ksFn name qual ps body scope .none kV doc pm an cdv ct cc) ⟨[u], [(pv, v)]⟩ [("self", u), (pv, v)] := by
  unfold isXP at h
  split at h
  · rename_i a n1 p1 b n2 p2
    obtain ⟨e1, h⟩ := and2 h
    obtain ⟨e2, h⟩ := and2 h
    have e1 := beq_iff_eq.mp e1
    have e2 := beq_iff_eq.mp e2
    subst e1 e2
    refine ⟨⟨_, rfl, rfl⟩, ?_⟩
    have h : b ∈ xFields := by simpa using h
    simp only [xFields, List.mem_cons, List.not_mem_nil, or_false] at h
    rcases h with rfl | rfl | rfl | rfl | rfl <;> exact ⟨by decide, by decide, fun _ _ _ _ _ _ _ _ _ _ _ _ _ _ => ⟨.of_eq rfl, .of_eq rfl⟩⟩
  · cases h
def isNoV : Value → Bool
  | .none => true
  | _ => false
theorem isNoV_ok {v : Value} (h : isNoV v = true) : v = .none := by
  cases v <;> first | rfl | cases h
def isXS (pv : Str) (sc : Scope) : Bool :=
  sc.names.lookup ("super" : Str) == some .globalImplicit && (sc.names.lookup ("__class__" : Str) == some .free && (sc.names.lookup ("self" : Str) == some .local && (sc.names.lookup pv == some .local &&
  (sc.names.all (fun x => !(x.2 == .cell)) && (!sc.isCoroutine && (!sc.isGenerator && decide (sc.kind = .function)))))))
def isXC (K : Frag) (file : Str) (fd : FuncData) (C : Addr) : Bool :=
  (match fd.code with
  | .ref cda => (match K.lookup cda with
    | some ⟨_, _, .fields vs, _⟩ => (match (vs[2]? : Option Value) with
      | some (Value.str g _) => file == g
      | _ => false)
    | _ => false)
  | _ => false) && (match fd.closure with
  | [(x, cc)] => x == "__class__" && (match K.lookup cc with
    | some ⟨_, _, .cell (some (.ref D)), _⟩ => D == C
    | _ => false)
  | _ => false)
theorem isXC_ok {K : Frag} {file : Str} {fd : FuncData} {C : Addr} (h : isXC K file fd C = true) : ∃ cda cc ccl cdd vs ccs gf tf cl cld csl, fd.code = .ref cda ∧ fd.closure = [(("__class__" : Str), cc)] ∧ K.lookup cda = some ⟨ccl, cdd, .fields vs, ccs⟩ ∧ vs[2]? = some (Value.str gf tf) ∧ (file == gf) = true ∧
    K.lookup cc = some ⟨cl, cld, .cell (some (.ref C)), csl⟩ := by
  unfold isXC at h
  obtain ⟨c1, c2⟩ := and2 h
  clear h
  cases hc : fd.code with
  | ref cda =>
    rw [hc] at c1
    dsimp only at c1
    cases hk : K.lookup cda with
    | none => rw [hk] at c1; cases c1
    | some o =>
      obtain ⟨ccl, cdd, dt, ccs⟩ := o
      rw [hk] at c1
      cases dt with
      | fields vs =>
        dsimp only at c1
        cases hv : vs[2]? with
        | none => rw [hv] at c1; cases c1
        | some v =>
          rw [hv] at c1
          cases v with
          | str gf tf =>
            dsimp only at c1
            split at c2
            · rename_i x cc hcl
              obtain ⟨e1, c3⟩ := and2 c2
              have e1 := beq_iff_eq.mp e1
              split at c3
              · rename_i cl cld D csl hcc
                have e2 := beq_iff_eq.mp c3
                exact ⟨cda, cc, ccl, cdd, vs, ccs, gf, tf, cl, cld, csl, rfl, by rw [hcl, e1], hk, hv, c1, by rw [hcc, e2]⟩
              · cases c3
            · cases c2
          | _ => cases c1
      | _ => cases c1
  | _ => rw [hc] at c1; cases c1
def xinC (file : Str) (K : Frag) (C fI : Addr) (f : Str) (B nw ini : String) (tl : List Value) : Bool :=
  oexB K C nw tl && (He.eqO (findIn K (.ref C) "__init__") (some (some (.ref fI))) && (eqV (typeIn K (.ref fI)) (some (.type "function")) && (He.eqO (findIn K (.ref C) f) (some none) &&
  ((match K.lookup fI with
  | some ⟨_, _, .func fd, _⟩ => (match fd.body with
    | .stmts b => isXB f f b && (isXP f fd.params && (isXS f fd.scope && (isXC K file fd C && (codeIn K fd.code fd.qualname && (fd.globals == mainGlobals && (isNoV fd.defaults && fd.builtins == builtinsNs))))))
    | _ => false)
  | _ => false) && (He.eqO (ks_superIn K C C "__init__") (some (some (.builtin ini))) && (eqB (subIn K (.ref C) (.type B)) (some true) && (eqB (mroIn K C (.ref C)) (some true) && He.eqO (nsIn K cStatics "thirdparty.any") (some none))))))))
def xinB (file : Str) (K : Frag) (C fI : Addr) (f : Str) : Bool := match xbOf K C with
  | some z => xinC file K C fI f z.1 z.2.1 z.2.2.1 z.2.2.2
  | none => false
theorem xinC_ok {P : Program} {K : Frag} {C fI : Addr} {f : Str} {B nw ini : String} {tl : List Value} (top : (P.main.scope.names.lookup ("super" : Str)).isSome = false) (h : xinC P.main.file K C fI f B nw ini tl = true) : XinG P K C f fI B nw ini tl := by
  obtain ⟨h1, h⟩ := and2 h
  obtain ⟨h2, h⟩ := and2 h
  obtain ⟨h3, h⟩ := and2 h
  obtain ⟨h4, h⟩ := and2 h
  obtain ⟨h5, h⟩ := and2 h
  obtain ⟨h6, h⟩ := and2 h
  obtain ⟨h7, h⟩ := and2 h
  obtain ⟨h8, h9⟩ := and2 h
  refine ⟨oexB_ok h1, He.eqO_ok h2, eqV_ok h3, He.eqO_ok h4, ?_, He.eqO_ok h6, eqB_ok h7, eqB_ok h8, He.eqO_ok h9, top⟩
  split at h5
  · rename_i oc od fd osl ho
    split at h5
    · rename_i b hb
      obtain ⟨g1, h5⟩ := and2 h5
      obtain ⟨g2, h5⟩ := and2 h5
      obtain ⟨g3, h5⟩ := and2 h5
      obtain ⟨g4, h5⟩ := and2 h5
      obtain ⟨g5, h5⟩ := and2 h5
      obtain ⟨g6, h5⟩ := and2 h5
      obtain ⟨g8, g7⟩ := and2 h5
      obtain ⟨cda, cc, ccl, cdd, vs, ccs, gf, tf, cl, cld, csl, k1, k2, k3, k4, k5, k6⟩ := isXC_ok g4
      obtain ⟨m, p0, p1, p2, p3, p4, p5, p6, p7, p8, p9, j, hb2, hl⟩ := isXB_ok g1
      obtain ⟨⟨ar, q1, q2⟩, q3, q4, q5⟩ := isXP_ok g2
      unfold isXS at g3
      obtain ⟨s1, g3⟩ := and2 g3
      obtain ⟨s2, g3⟩ := and2 g3
      obtain ⟨s3, g3⟩ := and2 g3
      obtain ⟨s4, g3⟩ := and2 g3
      obtain ⟨s5, g3⟩ := and2 g3
      obtain ⟨s6, g3⟩ := and2 g3
      obtain ⟨s7, s8⟩ := and2 g3
      have E6 := beq_iff_eq.mp g6
      have E7 := beq_iff_eq.mp g7
      have E8 := isNoV_ok g8
      have E9 := of_decide_eq_true s8
      clear g6 g7 g8 s8 h5 g1 g2 g4
      have nc : ∀ x ∈ fd.scope.names, x.2 ≠ .cell := fun x hx e => by
        have := List.all_eq_true.mp s5 x hx
        rw [e] at this
        cases this
      cases fd
      dsimp only at hb hb2 E6 E7 E8 k1 k2 s1 s2 s3 s4 s5 s6 s7 E9 nc q1 q5 g5
      subst hb2
      subst hb E6 E7 E8 k1 k2
      refine ⟨oc, od, osl, _, _, _, _, .none, _, _, _, _, _, cda, cc, m, f, p0, p1, p2, p3, p4, p5, p6, p7, p8, p9, j, ar, ccl, cl, cdd, cld, vs, ccs, csl, gf, tf, ho, g5, k3, k4, k5, k6, q1, q2, fun s u v => (q5 _ _ _ _ _ _ _ _ _ _ _ s u v).1, fun s u v => (q5 _ _ _ _ _ _ _ _ _ _ _ s u v).2,
        beq_iff_eq.mp s1, beq_iff_eq.mp s2, beq_iff_eq.mp s3, beq_iff_eq.mp s4, nc, by simpa using s6, by simpa using s7, E9, q3, q4, hl⟩
    · cases h5
  · cases h5
theorem xinB_ok {P : Program} {K : Frag} {C fI : Addr} {f : Str} (top : (P.main.scope.names.lookup ("super" : Str)).isSome = false) (h : xinB P.main.file K C fI f = true) : XinF P K C f fI := by
  unfold xinB at h
  cases e : xbOf K C with
  | none => rw [e] at h; cases h
  | some z =>
    rw [e] at h
    exact ⟨z.1, z.2.1, z.2.2.1, z.2.2.2, xbOf_ok e, xinC_ok top h⟩
end RM
end
section
set_option Elab.async false
set_option linter.all false
set_option maxRecDepth 100000
set_option autoImplicit false
/-! own classes made: C(..) is a callable like a def -/
namespace RM
open PySem PySem.Spec PyProof.Rows L2

section
variable {P : Program} {w : World} {K : PySem.W.Frag} {mg : Str → Option Value} {base : Heap}
/-- a new instance and its dict -/
theorem Env0.made {A : Around} {outer : List Env} {s : Shared} {H : Hp} {C : Addr} (e : Env0 P w K mg base A outer s H) :
    Env0 P w K mg base A outer { s with heap := (s.heap.push PySem.W.emptyDict).push (PySem.W.instObj C s.heap.objs.size) } (upd (upd H s.heap.objs.size (.own (s.heap.objs.size + 1))) (s.heap.objs.size + 1) (.ins C s.heap.objs.size [])) := by
  have kp : ∀ b u, s.heap.get? b = some u → ((s.heap.push PySem.W.emptyDict).push (PySem.W.instObj C s.heap.objs.size)).get? b = some u := fun b u q => Heap.get?_push_of_some _ (Heap.get?_push_of_some _ q)
  have far : ∀ b u, s.heap.get? b = some u → b ≠ s.heap.objs.size ∧ b ≠ s.heap.objs.size + 1 := fun b u q => ⟨Nat.ne_of_lt (Heap.lt_size q), Nat.ne_of_lt (Nat.lt_succ_of_lt (Heap.lt_size q))⟩
  have e1 : (s.heap.push PySem.W.emptyDict).get? s.heap.objs.size = some PySem.W.emptyDict := Heap.get?_push_size s.heap rfl
  have e2 : ((s.heap.push PySem.W.emptyDict).push (PySem.W.instObj C s.heap.objs.size)).get? (s.heap.objs.size + 1) = some (PySem.W.instObj C s.heap.objs.size) := by
    have := Heap.get?_push_size (s.heap.push PySem.W.emptyDict) (o := PySem.W.instObj C s.heap.objs.size) rfl
    rwa [Heap.size_push] at this
  have e3 : (s.heap.push PySem.W.emptyDict).Ns s.heap.objs.size (fun _ => none) := ⟨PySem.W.emptyDict, #[], _, e1, rfl, (fun e he => absurd he (by simp)), fun _ => rfl⟩
  have ne : s.heap.objs.size ≠ s.heap.objs.size + 1 := Nat.ne_of_lt (Nat.lt_succ_self _)
  refine ⟨e.frames, e.mod, fun b o q => ⟨kp _ _ (e.bs b o q).1, ?_⟩, Nat.le_trans e.bsz ?_, e.funs.of_keeps fun b o q _ => ⟨o, kp b o q, rfl⟩, fun b hb => ?_, ?_, e.bare⟩
  · obtain ⟨f1, f2⟩ := far _ _ (e.bs b o q).1
    rw [upd_ne f2, upd_ne f1]; exact (e.bs b o q).2
  · rw [Heap.size_push, Heap.size_push]; omega
  · obtain ⟨_, o, q, _⟩ := e.funs.mem hb
    obtain ⟨f1, f2⟩ := far _ _ q
    rw [upd_ne f2, upd_ne f1]; exact e.frf b hb
  · have h1 := e.hok.laid (a := s.heap.objs.size) (o := .own (s.heap.objs.size + 1)) (h' := s.heap.push PySem.W.emptyDict) (fun b u q => Heap.get?_push_of_some _ q) (Nat.le_refl _) ⟨_, e1⟩
    refine h1.laid (a := s.heap.objs.size + 1) (o := .ins C s.heap.objs.size []) (fun b u q => Heap.get?_push_of_some _ q) (Nat.le_of_eq (Heap.size_push _ _)) ?_
    refine ⟨by rw [upd_ne ne, upd_same], Nat.zero_le _, ne, e2, fun _ => none, (Heap.Ns1.of_empty e3).at fun o q => Heap.get?_push_of_some _ q, fun _ => True.intro, fun y hy => absurd rfl hy⟩
theorem made_free {s : Shared} {H : Hp} {C : Addr} {b : Addr} {u : Obj} (q : s.heap.get? b = some u) : upd (upd H s.heap.objs.size (.own (s.heap.objs.size + 1))) (s.heap.objs.size + 1) (.ins C s.heap.objs.size []) b = H b := by
  rw [upd_ne (Nat.ne_of_lt (Nat.lt_succ_of_lt (Heap.lt_size q))), upd_ne (Nat.ne_of_lt (Heap.lt_size q))]
/-- behind the making: as from before it -/
theorem Un.made {fs ex : List Addr} {s : Shared} {H H' : Hp} {h' : Heap} {C : Addr} (e : HOk P w H s.heap)
    (u : Un fs ex (upd (upd H s.heap.objs.size (.own (s.heap.objs.size + 1))) (s.heap.objs.size + 1) (.ins C s.heap.objs.size [])) H' ((s.heap.push PySem.W.emptyDict).push (PySem.W.instObj C s.heap.objs.size)) h') : Un fs ex H H' s.heap h' := by
  have n1 := e.fresh (Nat.le_refl s.heap.objs.size)
  have n2 := e.fresh (Nat.le_succ s.heap.objs.size)
  have ne : s.heap.objs.size ≠ s.heap.objs.size + 1 := Nat.ne_of_lt (Nat.lt_succ_self _)
  refine Un.trans (Un.laid (o := .own (s.heap.objs.size + 1)) (h' := s.heap.push PySem.W.emptyDict) (fun b u q => Heap.get?_push_of_some _ q) (Nat.le_refl _) n1) (Un.trans (Un.laid (o := .ins C s.heap.objs.size []) (h' := (s.heap.push PySem.W.emptyDict).push (PySem.W.instObj C s.heap.objs.size)) (fun b u q => Heap.get?_push_of_some _ q) (Nat.le_of_eq (Heap.size_push _ _)) ?_) u)
  rw [upd_ne ne.symm]; exact n2
theorem CX.made {outer : List Env} {s s' : Shared} {H : Hp} {C : Addr} {E : XK} {u : Value} (e : HOk P w H s.heap)
    (c : L2.CX P w outer (upd (upd H s.heap.objs.size (.own (s.heap.objs.size + 1))) (s.heap.objs.size + 1) (.ins C s.heap.objs.size [])) { s with heap := (s.heap.push PySem.W.emptyDict).push (PySem.W.instObj C s.heap.objs.size) } E u s') : L2.CX P w outer H s E u s' := by
  obtain ⟨a, B, H', cls, d, e1, fl, hok, ub, na, os, ag, q⟩ := c
  have n1 := e.fresh (Nat.le_refl s.heap.objs.size)
  have n2 := e.fresh (Nat.le_succ s.heap.objs.size)
  have kp : ∀ b u, s.heap.get? b = some u → ((s.heap.push PySem.W.emptyDict).push (PySem.W.instObj C s.heap.objs.size)).get? b = some u := fun b u q => Heap.get?_push_of_some _ (Heap.get?_push_of_some _ q)
  have up : ∀ b o, H b = some o → upd (upd H s.heap.objs.size (.own (s.heap.objs.size + 1))) (s.heap.objs.size + 1) (.ins C s.heap.objs.size []) b = some o := fun b o z => by
    rw [upd_ne (ne_of_none z n2), upd_ne (ne_of_none z n1)]; exact z
  refine ⟨a, B, H', cls, d, e1, fl, hok, ⟨fun b o z n f => ub.keep b o (kp b o z) (by rw [made_free z]; exact n) f, fun b o z f => ub.slot b o (kp b o z) f, fun b o z n => ub.free b o (kp b o z) (by rw [made_free z]; exact n), fun b o z f => ub.there b o (kp b o z) f, fun b xs z => ub.tups b xs (up _ _ z), fun b o xs z => ub.frzs b o xs (up _ _ z), fun b ps z => ub.tbls b ps (up _ _ z)⟩, na, os, ag, q⟩
/-- C(..), by its __init__ -/
theorem FnG.make {k n : Nat} {C f : Addr} {sp spi : Sp} (M : Mk K C f) (F : FnG P w K mg base k f (n + 1) spi) (hl : ∀ vs H Q E, sp vs H Q E → vs.length = n)
    (h : ∀ vs H Q E, sp vs H Q E → ∀ x dx, H x = none → H dx = none → dx ≠ x → spi (.ref x :: vs) (upd (upd H dx (.own x)) x (.ins C dx [])) (fun v H2 => v = .non ∧ Q (.ref x) H2) E) : FnG P w K mg base (k + 1) C n sp := by
  refine ⟨hl, fun A outer s H us vs Q E hr hg e0 r hsp => ?_⟩
  have KX : K.In s.heap := e0.mod.kin.keeps fun b o e => (e0.bs b o e).1
  have hq := h vs H Q E hsp (s.heap.objs.size + 1) s.heap.objs.size (e0.hok.fresh (Nat.le_succ _)) (e0.hok.fresh (Nat.le_refl _)) (Nat.ne_of_lt (Nat.lt_succ_self _))
  refine make_map (f := f) KX M.makes M.init (beq_iff_eq.mp M.fn) (codeAny_mono (F.run _ outer _ _ (Value.ref (s.heap.objs.size + 1) :: us) (V.ref (s.heap.objs.size + 1) :: vs) _ E (hr.make C us []) ?_ (L2.Env0.make (RM.Env0.made (C := C) e0) C us []) (.cons rfl r) hq) fun r s' hq' => ?_)
  · exact hg
  cases r with
  | error e => exact CX.made e0.hok hq'
  | ok fl =>
    cases fl with
    | ret u =>
      obtain ⟨v, H', os, bare, un, hok, rv, ev, q⟩ := hq'
      subst ev
      refine ⟨rv, V.ref (s.heap.objs.size + 1), H', os, bare, Un.made e0.hok un, hok, rfl, q⟩
    | next => exact hq'.elim
    | brk => exact hq'.elim
    | cont => exact hq'.elim
end
end RM
end
section
set_option Elab.async false
set_option linter.all false
set_option maxRecDepth 100000
set_option autoImplicit false
/-! own classes: __init__ by its body -/
namespace RM
open PySem PySem.Spec PyProof.Rows L2

def Tx.at (Y : Tx) (x : Addr) : Tx := { Y with slf := some x }
section
variable {Y Y' : Tx} {hot : Bool} {gt : Gt} {k n : Nat} {C : Orc} {kin : Kin} {g : Cfg} {X : Cx} {W : WX} {P : Program} {w : World} {K : PySem.W.Frag} {mg : Str → Option Value} {base : Heap}
theorem FnG.imp {f : Addr} {sp sp' : Sp} (F : FnG P w K mg base k f n sp) (h : ∀ vs H Q E, sp' vs H Q E → sp vs H Q E) : FnG P w K mg base k f n sp' :=
  ⟨fun vs H Q E q => F.len vs H Q E (h vs H Q E q), fun A outer s H us vs Q E hr hg e0 r q => F.run A outer s H us vs Q E hr hg e0 r (h vs H Q E q)⟩
theorem spG.tx (hK : Y'.K = Y.K) (hc : Y'.cls = Y.cls) (ht : Y'.tabs = Y.tabs) {m : List D → M D} {vs : List V} {H : Hp} {Q : VK} {E : XK} (h : spG Y' n m vs H Q E) : spG Y n m vs H Q E := by
  obtain ⟨hl, G, S, ds, ok, rs, w⟩ := h
  exact ⟨hl, G, S, ds, ok.tx ht.symm, RDs.tx hK.symm hc.symm rs, wpM_mono w (fun d S' q G' H' v e ok' r => q G' H' v e (ok'.tx ht) (RD.tx hK hc r)) fun x S' q G' H' cls dx e ok' r => q G' H' cls dx e (ok'.tx ht) (RX.tx hK hc r)⟩
theorem ActOk.tx (hK : Y'.K = Y.K) (hc : Y'.cls = Y.cls) (ht : Y'.tabs = Y.tabs) {fv : Addr} {fs : List Addr} {s : Shared} {G : Gh} {H : Hp} {m : M D} (h : ActOk P w K mg base k Y fv fs s G H m) : ActOk P w K mg base k Y' fv fs s G H m :=
  fun A outer s1 G1 H1 S1 Q E r g e0 un x ok w1 => h A outer s1 G1 H1 S1 Q E r g e0 un x (ok.tx ht.symm) (wpM_mono w1 (fun d S' q G' H' v e ok' r => q G' H' v e (ok'.tx ht) (RD.tx hK hc r)) fun x S' q G' H' cls dx e ok' r => q G' H' cls dx e (ok'.tx ht) (RX.tx hK hc r))
theorem FnT.tx (hK : Y'.K = Y.K) (hc : Y'.cls = Y.cls) (ht : Y'.tabs = Y.tabs) {f : Addr} {hof : M D → M D} (h : FnT P w K mg base k f Y hof) : FnT P w K mg base k f Y' hof :=
  fun j hj A outer s G H S fv m Q E r g e0 ok act w1 => h j hj A outer s G H S fv m Q E r g e0 (ok.tx ht.symm) (act.tx hK.symm hc.symm ht.symm) (wpM_mono w1 (fun d S' q G' H' v e ok' r => q G' H' v e (ok'.tx ht) (RD.tx hK hc r)) fun x S' q G' H' cls dx e ok' r => q G' H' cls dx e (ok'.tx ht) (RX.tx hK hc r))
theorem LamOk.tx (hK : Y'.K = Y.K) (hc : Y'.cls = Y.cls) (ht : Y'.tabs = Y.tabs) (o : LamOk gt Y k C X) : LamOk gt Y' k C X :=
  ⟨o.room, by rw [ht]; exact o.tab, by rw [ht]; exact o.one, fun x h => let ⟨f, a, b, c⟩ := o.hof x h; ⟨f, a, b, c.tx hK hc ht⟩⟩
theorem ThkOk.tx (hK : Y'.K = Y.K) (hc : Y'.cls = Y.cls) (ht : Y'.tabs = Y.tabs) (hh : Y'.thk = Y.thk) (o : ThkOk Y C X) : ThkOk Y' C X :=
  ⟨o.no, let ⟨fv, G0, k, a, b, c⟩ := o.act; ⟨fv, G0, k, by rw [hh]; exact a, b, c.tx hK hc ht⟩⟩
theorem GvOk.tx (hK : Y'.K = Y.K) (hc : Y'.cls = Y.cls) (ht : Y'.tabs = Y.tabs) {x : Str} : ∀ {v : Gv}, GvOk hot Y k C P w K mg base x v → GvOk hot Y' k C P w K mg base x v
  | .cst d, ⟨v, u, h1, h2, h3⟩ => ⟨v, u, h1, h2, fun G H => RD.tx hK hc (h3 G H)⟩
  | .fn n, h => fun hh => let ⟨f, h1, h2, h3⟩ := h hh; ⟨f, h1, h2, h3.imp fun vs H Q E q => spG.tx hK hc ht q⟩
  | .blt, h => h
  | .hof, h => h
  | .dfl f n, h => fun hh => let ⟨f, h1, h2, h3⟩ := h hh; ⟨f, h1, h2, h3.imp fun vs H Q E q => spG.tx hK hc ht q⟩
  | .cls c, ⟨C, h1, h2⟩ => ⟨C, h1, by rw [hc]; exact h2⟩
  | .cfn c n, ⟨⟨C, h1, h2⟩, h⟩ => ⟨⟨C, h1, by rw [hc]; exact h2⟩, fun hh => let ⟨f, h1, h2, h3⟩ := h hh; ⟨f, h1, h2, h3.imp fun vs H Q E q => spG.tx hK hc ht q⟩⟩
  | .xcl c, ⟨⟨C, h1, h2⟩, h⟩ => ⟨⟨C, h1, by rw [hc]; exact h2⟩, fun hh => let ⟨f, h1, h2, h3⟩ := h hh; ⟨f, h1, h2, h3.imp fun vs H Q E q => spG.tx hK hc ht q⟩⟩
  | .xkw c kn, h => fun hh => let ⟨f, h1, h2, h3, h4⟩ := h hh; ⟨f, h1, by rw [hc]; exact h2, h3, h4.imp fun vs H Q E q => spG.tx hK hc ht q⟩
  | .mth c m n, h => fun hh Ca hCa => let ⟨f, h1, h2, h3⟩ := h hh Ca (by rw [← hc]; exact hCa); ⟨f, h1, h2, h3.imp fun vs H Q E q => spG.tx hK hc ht q⟩
theorem Cok.tx (hK : Y'.K = Y.K) (hc : Y'.cls = Y.cls) (ht : Y'.tabs = Y.tabs) (hh : Y'.thk = Y.thk) (hu : Y'.cur = Y.cur) (o : Cok kin gt Y k C g X W) : Cok kin gt Y' k C g X W :=
  { ox := ⟨o.ox.nd, fun q => o.ox.calm q, by rw [hK]; exact o.ox.hK, o.ox.room, o.ox.units, o.ox.gd, o.ox.sys, o.ox.room1⟩, N := o.N, sc := o.sc, fn := o.fn, tk := o.tk, cold := fun q => by rw [hu]; exact o.cold q, kok := o.kok.tx (Y := Y) (Y' := Y') hK hc, cur := fun a cls dx e => o.cur a cls dx (by rw [← hu]; exact e), lm := fun z => (o.lm z).tx hK hc ht, th := fun i z => (o.th i z).tx hK hc ht hh, gt := fun x v e => (o.gt x v e).tx hK hc ht }
theorem Sms.tx {V : Wd} (hK : Y'.K = Y.K) (hc : Y'.cls = Y.cls) (ht : Y'.tabs = Y.tabs) (hq : Y'.thk = Y.thk) (hu : Y'.cur = Y.cur) (ms : Sms kin gt Y k C V) : Sms kin gt Y' k C V := fun g X W s av hh => by
  have m := ms g X W { o := s.o.tx hK.symm hc.symm ht.symm hq.symm hu.symm, po := s.po, stk := s.stk, frm := s.frm, kd := s.kd } av hh
  intro x c f Ca e te p p2 h1 h2 h3
  exact m x c f Ca e te p p2 h1 h2 (by rw [← hc]; exact h3)
end

/-- a new instance, by the body of its __init__ -/
def runI (kin : Kin) (C : Orc) (c : Str) (n : Nat) (body : Ss) (ds : List D) : M D := do
  match ← M.quiet (evSs kin C body (.new c [] :: (ds.map Slot.val ++ List.replicate n .emp))) with
  | .nx ρ => (match ρ[0]? with
    | some (Slot.new c fs) => pure (D.ins c fs)
    | _ => M.fail)
  | .exc x _ => M.raise x
  | _ => M.fail
/-- what an __init__ does, called from the making -/
def spI (Y : Tx) (Ca : Addr) (n : Nat) (m : List D → M D) : Sp := fun vs H Q E => vs.length = n + 1 ∧ ∃ x dx rest Hm G S ds, vs = .ref x :: rest ∧ Hm x = none ∧ Hm dx = none ∧ dx ≠ x ∧ H = upd (upd Hm dx (.own x)) x (.ins Ca dx []) ∧ GOk Y G Hm S ∧ RDs Y G Hm rest ds ∧
  wpM (m ds) S (fun d S' => ∀ G' H', Ext G Hm G' H' → GOk Y G' H' S' → RD Y G' H' (.ref x) d → Q .non H') (fun xx S' => ∀ G' H' cls d', Ext G Hm G' H' → GOk Y G' H' S' → RX Y G' H' cls d' xx → E cls d' H')
/-- the making by the promise of the __init__ -/
theorem cls_ok {P : Program} {w : World} {mg : Str → Option Value} {base : Heap} {Y : Tx} {k n : Nat} {Ca f : Addr} {m : List D → M D} (M : Mk Y.K Ca f) (F : FnG P w Y.K mg base k f (n + 1) (spI Y Ca n m)) : FnG P w Y.K mg base (k + 1) Ca n (spG Y n m) := by
  refine FnG.make M F (fun vs H Q E h => h.1) fun vs H Q E h x dx hx hd ne => ?_
  obtain ⟨hl, G, S, ds, ok, rs, wp⟩ := h
  exact ⟨by rw [List.length_cons, hl], x, dx, vs, H, G, S, ds, rfl, hx, hd, ne, rfl, ok, rs, wpM_mono wp (fun d S' q G' H' e ok' r => ⟨rfl, q G' H' _ e ok' r⟩) fun xx S' q => q⟩
theorem sr_startI {Y : Tx} {G : Gh} {Hm H : Hp} {S : Sto} {vs : List V} {ds : List D} {N : List Str} {x dx Ca : Addr} {c : Str} (ok : GOk Y G Hm S) (hx : Hm x = none) (hc : Y.cls c = some Ca) (hs : Y.slf = some x) (hth : Y.thk = none) (hH : H x = some (.ins Ca dx [])) (r : RDs Y G H vs ds) :
    SR Y Hm G H (L2.start N (.ref x :: vs)) (.new c [] :: (ds.map Slot.val ++ List.replicate (N.length - (ds.length + 1)) Slot.emp)) := by
  have hl := r.length
  have get : ∀ {i : Nat} {s : Slot}, (ds.map Slot.val ++ List.replicate (N.length - (ds.length + 1)) Slot.emp)[i]? = some s → s = .emp ∨ ∃ d, s = .val d ∧ ds[i]? = some d := fun {i s} h => by
    rw [List.getElem?_append] at h
    split at h
    · rw [List.getElem?_map, Option.map_eq_some_iff] at h
      obtain ⟨d, h1, h2⟩ := h
      exact .inr ⟨d, h2.symm, h1⟩
    · rw [List.getElem?_replicate] at h
      split at h
      · cases h; exact .inl rfl
      · cases h
  refine ⟨by simp [L2.start, hl], fun i s h => ?_, fun i j xs ys a h1 => ?_, fun z hz => by rw [hth] at hz; cases hz⟩
  · cases i with
    | zero =>
      cases h
      refine ⟨x, Ca, dx, [], rfl, ⟨hc, hs⟩, hH, fun z => ok.fzT x z hx, fun z => ok.muT x z hx, hx, .nil⟩
    | succ i =>
      rw [List.getElem?_cons_succ] at h
      rcases get h with rfl | ⟨d, rfl, hd⟩
      · trivial
      · obtain ⟨v, hv, rv⟩ := r.get' hd
        refine ⟨v, ?_, rv⟩
        unfold L2.start
        have hi := (List.getElem?_eq_some_iff.mp hv).1
        rw [List.getElem?_append_left (by rw [List.length_map, List.length_cons]; omega), List.getElem?_map, List.getElem?_cons_succ, hv]
        rfl
  · cases i with
    | zero => cases h1
    | succ i =>
      rw [List.getElem?_cons_succ] at h1
      rcases get h1 with z | ⟨d, z, _⟩ <;> cases z
/-- by its body; the last parameters by their defaults dD -/
theorem ini_okD {dvs : List V} {us0 : List Value} {dD : List D} {m : Nat} {kin : Kin} {gt : Gt} {r : Cfg → Cp} {Y : Tx} {k : Nat} {C : Orc} {V : Wd} {f Ca : Addr} {c : Str} {name qual : Str} {params : Arguments} {body : List Stmt} {scope : Scope} {dV kV doc pm cdv ct oc : Value} {an od : Option Addr} {osl : Array (Option Value)} {N ps : List Str} {p0 : Str} {own ins : List Nat} {n : Nat} {b : Ss}
    (sn : Snd kin gt r) (lk : Y.K.lookup f = some ⟨oc, od, .func (PySem.W.fnOf name qual params body scope dV kV doc pm an cdv ct), osl⟩) (hcd : PySem.W.codeIn Y.K cdv qual = true) (sc : FnScope N (p0 :: ps) scope) (hb : Binds Y.K (PySem.W.fnOf name qual params body scope dV kV doc pm an cdv ct) (p0 :: ps) us0) (hdv : Vals dvs us0) (hdD : ∀ G H, RDs Y G H dvs dD) (hmn : m + dvs.length = ps.length)
    (hcl : Y.cls c = some Ca) (hY : Y.cur = none) (hth : Y.thk = none) (kok : KinOk kin Y) (sys : ∃ o, V.base.get? sysModules = some o) (gtk : GtOk false gt Y k C V.P V.w Y.K V.mg V.base) (ms : Sms kin gt Y k C V) (hc : cpSs kin gt r n (fnCfg N scope own false none ins) body = some b) :
    FnG V.P V.w Y.K V.mg V.base (k + 2) f (m + 1) (spI Y Ca m fun xs => runI kin C c (N.length - (ps.length + 1)) b (xs ++ dD)) := by
  refine FnG.ofD (k := k + 1) lk hcd sc hb hdv (by rw [List.length_cons]; omega) (fun vs H Q E h => h.1) fun A outer s H vs Q E hr1 hg hsp => ?_
  have hr := hr1.mono (show k ≤ k + 1 by omega)
  obtain ⟨hl, x, dx, rest, Hm, G, S, ds, rfl, hx, hd, ne, rfl, ok, rs, w⟩ := hsp
  have tk : Takes (cxOf (L2.CX V.P V.w) V.P V.w Y.K V.mg V.base N qual scope f cdv A outer s (upd (upd Hm dx (.own x)) x (.ins Ca dx [])) E) (fun cls d _ H => E cls d H) := takes_of rfl rfl rfl rfl
  have so : Sok kin gt (Y.at x) k C (fnCfg N scope own false none ins) (cxOf (L2.CX V.P V.w) V.P V.w Y.K V.mg V.base N qual scope f cdv A outer s (upd (upd Hm dx (.own x)) x (.ins Ca dx [])) E) (fun cls d _ H => E cls d H) :=
    { o := { ox := ⟨sc.nd, fun _ => rfl, rfl, fun _ => hr, (by have h := hr.un; show (A.deeper (envOfC qual scope s.heap.objs.size f cdv)).units + 200 < cLine; omega), hg, sys, fun _ => hr1⟩, N := rfl, sc := rfl, fn := rfl, tk := tk, cold := fun _ => hY, kok := kok.tx (Y := Y) (Y' := Y.at x) rfl rfl, cur := fun a cls dx e => by (rw [show (Y.at x).cur = Y.cur from rfl, hY] at e; cases e), lm := (fun z => nomatch z), th := (fun i z => nomatch z), gt := fun y v e => (gtk y v e).tx (Y := Y) (Y' := Y.at x) rfl rfl rfl },
      po := fun _ => passes_of rfl, stk := rfl, frm := rfl, kd := sc.kind }
  refine ⟨_, rok_cp kin gt r sn n _ _ (Y.at x) k C _ V body b hc so ⟨rfl, rfl, rfl, rfl⟩ (ms.tx (Y := Y) (Y' := Y.at x) rfl rfl rfl rfl rfl), ?_⟩
  have hrl : rest.length = m := by simpa using hl
  have rs := rs.append (hdD G Hm)
  have hdl : (ds ++ dD).length = ps.length := by rw [← rs.length, List.length_append, hrl]; exact hmn
  have hx1 : upd Hm dx (.own x) x = none := by rw [upd_ne ne.symm]; exact hx
  have e1 : Ext G Hm G (upd Hm dx (.own x)) := Ext.new ok hd
  have ok1 := ok.new (o := .own x) hd
  have e2 : Ext G Hm G (upd (upd Hm dx (.own x)) x (.ins Ca dx [])) := e1.trans (Ext.new ok1 hx1)
  have ok2 := ok1.new (o := .ins Ca dx []) hx1
  have okT : GOk (Y.at x) G (upd (upd Hm dx (.own x)) x (.ins Ca dx [])) S := ok2.tx
  unfold runI at w
  rw [← hdl] at w
  refine ⟨Hm, Ext G Hm, G, _, S, Bs.entry, okT, e2, sr_startI (Y := Y.at x) (N := N) (S := S) ok.tx hx hcl rfl hth upd_same (RDs.tx (Y := Y) (Y' := Y.at x) rfl rfl (rs.ext e2 ok)), wpM_mono (wpM_quiet (wpM_bind.mp w)) (fun o S1 w1 => ?_) fun _ _ z => z⟩
  cases o with
    | nx ρ =>
      intro G1 H1 σ e1 ok1 sr1
      have w1 : wpM (match ρ[0]? with
        | some (Slot.new c fs) => pure (D.ins c fs)
        | _ => M.fail) S1 _ _ := w1
      cases h0 : ρ[0]? with
      | none => rw [h0] at w1; exact w1.elim
      | some sl =>
        rw [h0] at w1
        cases sl with
        | new c' fs =>
          obtain ⟨a, Ca', dx', fv, hsl, ⟨hc1, hc2⟩, ha, nf, nm, _, r⟩ := sr1.slot 0 _ h0
          have hc2 : some x = some a := hc2
          cases hc2
          have there : H1 x ≠ none := by rw [ha]; exact fun z => nomatch z
          have okf : GOk Y (G1.fz x) H1 S1 := GOk.freeze (GOk.tx ok1) there nm
          exact w1 (G1.fz x) H1 (e1.freeze hx) okf (.ins ha (.inr rfl) hc1 ((RDf.tx (Y := Y.at x) (Y' := Y) rfl rfl r).mono Kp.freeze))
        | _ => exact w1.elim
    | ret d => exact w1.elim
    | exc xx ρ => exact fun G1 H1 cls dx σ e1 ok1 rx sr1 => w1 G1 H1 cls dx e1 ok1.tx (RX.tx (Y := Y.at x) (Y' := Y) rfl rfl rx)
    | brk ρ => exact w1.elim
    | cont ρ => exact w1.elim
theorem ini_ok {kin : Kin} {gt : Gt} {r : Cfg → Cp} {Y : Tx} {k : Nat} {C : Orc} {V : Wd} {f Ca : Addr} {c : Str} {name qual : Str} {params : Arguments} {body : List Stmt} {scope : Scope} {dV kV doc pm cdv ct oc : Value} {an od : Option Addr} {osl : Array (Option Value)} {N ps : List Str} {p0 : Str} {own ins : List Nat} {n : Nat} {b : Ss}
    (sn : Snd kin gt r) (lk : Y.K.lookup f = some ⟨oc, od, .func (PySem.W.fnOf name qual params body scope dV kV doc pm an cdv ct), osl⟩) (hcd : PySem.W.codeIn Y.K cdv qual = true) (sc : FnScope N (p0 :: ps) scope) (hb : Binds Y.K (PySem.W.fnOf name qual params body scope dV kV doc pm an cdv ct) (p0 :: ps) [])
    (hcl : Y.cls c = some Ca) (hY : Y.cur = none) (hth : Y.thk = none) (kok : KinOk kin Y) (sys : ∃ o, V.base.get? sysModules = some o) (gtk : GtOk false gt Y k C V.P V.w Y.K V.mg V.base) (ms : Sms kin gt Y k C V) (hc : cpSs kin gt r n (fnCfg N scope own false none ins) body = some b) :
    FnG V.P V.w Y.K V.mg V.base (k + 2) f (ps.length + 1) (spI Y Ca ps.length (runI kin C c (N.length - (ps.length + 1)) b)) := by
  have := ini_okD (dD := []) (m := ps.length) sn lk hcd sc hb .nil (fun _ _ => .nil) (Nat.add_zero _) hcl hY hth kok sys gtk ms hc
  simp only [List.append_nil] at this
  exact this
end RM
end
section
set_option Elab.async false
set_option linter.all false
set_option maxRecDepth 100000
set_option autoImplicit false
/-! a def that is handed a lambda, by its body -/
namespace RM
open PySem PySem.Spec PyProof.Rows L2

theorem FnT.mono {P : Program} {w : World} {K : PySem.W.Frag} {mg : Str → Option Value} {base : Heap} {k k' : Nat} {f : Addr} {Y : Tx} {hof : M D → M D} (h : FnT P w K mg base k f Y hof) (hk : k ≤ k') : FnT P w K mg base k' f Y hof := fun j hj => h j (Nat.le_trans hk hj)
def Tx.with (Y : Tx) (fv : Addr) (G : Gh) (H : Hp) : Tx := { Y with thk := some (fv, G, H) }
def Orc.with (C : Orc) (m : M D) : Orc := { C with thk := m }
/-- by its body -/
def runT (kin : Kin) (C : Orc) (n : Nat) (body : Ss) (m : M D) : M D := do
  match ← M.quiet (evSs kin (C.with m) body (.thk :: List.replicate n .emp)) with
  | .nx _ => pure .non
  | .ret d => pure d
  | .exc x _ => M.raise x
  | _ => M.fail
theorem sr_startT {Y : Tx} {G : Gh} {H : Hp} {N : List Str} {fv : Addr} : SR (Y.with fv G H) H G H (L2.start N [.ref fv]) (.thk :: List.replicate (N.length - 1) Slot.emp) := by
  have get : ∀ {i : Nat} {s : Slot}, (List.replicate (N.length - 1) Slot.emp)[i]? = some s → s = .emp := fun {i s} h => by
    rw [List.getElem?_replicate] at h
    split at h
    · cases h; rfl
    · cases h
  refine ⟨by simp [L2.start], fun i s h => ?_, fun i j xs ys a h1 => ?_, fun z hz => ?_⟩
  · cases i with
    | zero =>
      cases h
      exact ⟨fv, G, H, rfl, rfl⟩
    | succ i =>
      rw [List.getElem?_cons_succ] at h
      rw [get h]
      trivial
  · cases i with
    | zero => cases h1
    | succ i =>
      rw [List.getElem?_cons_succ] at h1
      cases get h1
  · have hz : some (fv, G, H) = some z := hz
    cases hz
    exact ⟨Ext.refl, fun _ h => h⟩
theorem Sms.with {kin : Kin} {gt : Gt} {Y : Tx} {k : Nat} {C : Orc} {V : Wd} {fv : Addr} {G : Gh} {H : Hp} {m : M D} (ms : Sms kin gt Y k C V) : Sms kin gt (Y.with fv G H) k (C.with m) V := fun g X W s av hh => by
  have q := ms { g with thk := none, lam := false } X W { o := { ox := ⟨s.o.ox.nd, fun q => s.o.ox.calm q, s.o.ox.hK, s.o.ox.room, s.o.ox.units, s.o.ox.gd, s.o.ox.sys, s.o.ox.room1⟩, N := s.o.N, sc := s.o.sc, fn := s.o.fn, tk := s.o.tk, cold := fun q => s.o.cold q, kok := s.o.kok.tx (Y := Y.with fv G H) (Y' := Y) rfl rfl, cur := fun a cls dx e => s.o.cur a cls dx e, lm := (fun z => nomatch z), th := (fun i z => nomatch z), gt := fun x v e => GvOk.tx (Y := Y.with fv G H) (Y' := Y) rfl rfl rfl (s.o.gt x v e) }, po := s.po, stk := s.stk, frm := s.frm, kd := s.kd } av hh
  intro x c f Ca e te p p2 h1 h2 h3
  exact q x c f Ca e te p p2 h1 h2 h3
theorem hof_ok {kin : Kin} {gt : Gt} {r : Cfg → Cp} {Y : Tx} {k : Nat} {C : Orc} {V : Wd} {f : Addr} {name qual a0 : Str} {params : Arguments} {body : List Stmt} {scope : Scope} {dV kV doc pm cdv ct oc : Value} {an od : Option Addr} {osl : Array (Option Value)} {N : List Str} {own ins : List Nat} {n : Nat} {b : Ss}
    (sn : Snd kin gt r) (lk : Y.K.lookup f = some ⟨oc, od, .func (PySem.W.fnOf name qual params body scope dV kV doc pm an cdv ct), osl⟩) (hcd : PySem.W.codeIn Y.K cdv qual = true) (sc : FnScope N [a0] scope) (hb : Binds Y.K (PySem.W.fnOf name qual params body scope dV kV doc pm an cdv ct) [a0] [])
    (hY : Y.cur = none) (kok : KinOk kin Y) (sys : ∃ o, V.base.get? sysModules = some o) (gtk : GtOk false gt Y k C V.P V.w Y.K V.mg V.base) (ms : Sms kin gt Y k C V) (hc : cpSs kin gt r n (fnCfg N scope own false (some 0) ins) body = some b) :
    FnT V.P V.w Y.K V.mg V.base (k + 4) f Y (runT kin C (N.length - 1) b) := by
  intro j hj A outer s G H S fv m Q E hr hg e0 ok act w
  have KX : Y.K.In s.heap := e0.mod.kin.keeps fun b o e => (e0.bs b o e).1
  refine LamX.run_ofS (N := N) (ps := [a0]) (us := [.ref fv]) (vs := [.ref fv]) lk hcd sc hr e0 (hb s [.ref fv] KX rfl) (.cons rfl .nil) rfl fun hr' => ?_
  have hrk := hr'.mono (show k ≤ j by omega)
  have hgd : (A.deeper (envOfC qual scope s.heap.objs.size f cdv)).guards = some [] := hg
  have so : Sok kin gt (Y.with fv G H) k (C.with m) (fnCfg N scope own false (some 0) ins) (cxOf (L2.CX V.P V.w) V.P V.w Y.K V.mg V.base N qual scope f cdv A outer s H E) (fun cls d _ H => E cls d H) :=
    { o := { ox := ⟨sc.nd, fun _ => rfl, rfl, fun _ => hrk, (by have h := hrk.un; show (A.deeper (envOfC qual scope s.heap.objs.size f cdv)).units + 200 < cLine; omega), hgd, sys, fun _ => hr'.mono (by omega)⟩, N := rfl, sc := rfl, fn := rfl, tk := takes_of rfl rfl rfl rfl, cold := fun _ => hY, kok := kok.tx (Y := Y) (Y' := Y.with fv G H) rfl rfl, cur := fun a cls dx e => by (rw [show (Y.with fv G H).cur = Y.cur from rfl, hY] at e; cases e), lm := (fun z => nomatch z),
               th := (fun i z => ⟨rfl, fv, G, j, rfl, hr', act.tx (Y := Y) (Y' := Y.with fv G H) rfl rfl rfl⟩), gt := fun y v e => (GvOk.tx (Y := Y) (Y' := Y.with fv G H) rfl rfl rfl (gtk y v e)) },
      po := fun _ => passes_of rfl, stk := rfl, frm := rfl, kd := sc.kind }
  refine ⟨_, rok_cp kin gt r sn n _ _ (Y.with fv G H) k (C.with m) _ V body b hc so ⟨rfl, rfl, rfl, rfl⟩ (ms.with), ?_⟩
  unfold runT at w
  have okT : GOk (Y.with fv G H) G H S := ok.tx
  refine ⟨H, Ext G H, G, _, S, Bs.entry, okT, Ext.refl, sr_startT (N := N), wpM_mono (wpM_quiet (wpM_bind.mp w)) (fun o S1 w1 => ?_) fun _ _ z => z⟩
  have un : ∀ {v : L2.V} {d : D} {G1 : Gh} {H1 : Hp}, RD (Y.with fv G H) G1 H1 v d → RD Y G1 H1 v d := fun r => RD.tx (Y := Y.with fv G H) (Y' := Y) rfl rfl r
  cases o with
    | nx ρ => exact fun G1 H1 σ e1 ok1 sr1 => w1 G1 H1 .non e1 ok1.tx .non
    | ret d => exact fun G1 H1 v e1 ok1 r1 => w1 G1 H1 v e1 ok1.tx (un r1)
    | exc x ρ => exact fun G1 H1 cls dx σ e1 ok1 rx sr1 => w1 G1 H1 cls dx e1 ok1.tx (RX.tx (Y := Y.with fv G H) (Y' := Y) rfl rfl rx)
    | brk ρ => exact w1.elim
    | cont ρ => exact w1.elim
end RM
end
section
set_option Elab.async false
set_option linter.all false
set_option maxRecDepth 100000
set_option autoImplicit false
/-! own exceptions made by a call with a keyword: the built-in part -/
namespace PySem
namespace HandSPX
open PySem.W PySem.Calls PyProof.Rows
section
variable {prog : Program} {w : World} {A : Around} {E : Value → Shared → Prop} {Rs : Result → Shared → Prop} {h : Heap} {g : Array GenState} {d : Drawn} {t : Nat} {os : OsState}
variable {nm q : Str} {C N : Addr} {bs bm bmT : List Value} {hdct : Bool} {sn : List Str} {sub : List Value} {ab : Bool} {col : Option Bool} {dd : Option Addr} {k0 k1 k2 k3 k5 : Option Value} {B newId initId : String} {kn : Str} {kv : Value}
theorem check_new_ownK {M : Model} (XF : ExcBaseFacts B newId initId bmT) (hTl : ∀ X : String, bm.contains (.type X) = bmT.contains (.type X)) {Q : Unit → Shared → Prop}
    (oC : h.get? C = some (excClassObj nm q C N bs bm hdct sn sub ab col dd k0 k1 k2 k3 k5 newId)) (hz : Q () ⟨h, g, d, t, os⟩) : wpAny M A (checkBuiltinCall newId ⟨[.ref C], [(kn, kv)]⟩) Q E ⟨h, g, d, t, os⟩ := by
  have cnB : (Value.ref C :: bm).contains (.type B) = true := by rw [List.contains_cons, hTl, XF.hasB, Bool.or_true]
  have stF := XF.noStar
  simp only [checkBuiltinCall, XF.newKind, XF.newSplit, XF.newRow]
  repeat (first | refine wpAny_loadPart_at oC ?_ | (refine wpAny_isSubtype_exc oC ?_; rw [cnB]) | refine wpAny_staticBase_exc oC ?_ | refine wpAny_madeBy_exc oC ?_ | simp only [bne_self_eq_false, Bool.false_eq_true, if_false] | wp_step)
  exact hz
theorem new_ownK (XF : ExcBaseFacts B newId initId bmT) (hTl : ∀ X : String, bm.contains (.type X) = bmT.contains (.type X))
    (oC : h.get? C = some (excClassObj nm q C N bs bm hdct sn sub ab col dd k0 k1 k2 k3 k5 newId))
    (hz : Rs (.ok (.ret (.ref (h.objs.size + 1)))) ⟨(h.push { cls := .type "tuple", data := .seq ([] : List Value).toArray }).push
      { cls := .ref C, data := .fields #[.ref h.objs.size, .none, .none, .none, .bool false, .none] }, g, d, t, os⟩) :
    codeAny (model prog w) A (.builtin newId ⟨[.ref C], [(kn, kv)]⟩) Rs ⟨h, g, d, t, os⟩ := by
  have enF := XF.ends
  have cB1 : (Value.ref C :: bm).contains (.type B) = true := by rw [List.contains_cons, hTl, XF.hasB, Bool.or_true]
  have cA1 : (Value.ref C :: bm).contains (.type "AttributeError") = false := by rw [List.contains_cons, hTl, XF.noAttr]; rfl
  have cN1 : (Value.ref C :: bm).contains (.type "NameError") = false := by rw [List.contains_cons, hTl, XF.noName]; rfl
  refine codeAny_builtinAt XF.entry ?_
  unfold Builtin.«BaseException.__new__»
  refine wpAt_bind ?_
  show wpAt _ _ _ (stack >>= _) _ _ _
  refine wpAt_bind (wpAt_stack fun p below => wpAt_of_wpAny ?_)
  have rs0 : ([] : List Value).length ≤ sizeLine := Nat.zero_le _
  wp_walk
  refine wpAt_of_wpAny ?_
  rw [XF.owner]
  repeat (first | with_reducible refine wpAny_madeHere_exc XF.canon oC ?_ | with_reducible refine wpAny_loadPart_at oC ?_ | (with_reducible refine wpAny_isSubtype_exc oC ?_; first | rw [cB1] | rw [cA1] | rw [cN1]) | wp_step)
  show Rs _ _
  rw [Heap.size_push]
  exact hz
theorem type_call_ownK (XF : ExcBaseFacts B newId initId bmT) (hTl : ∀ X : String, bm.contains (.type X) = bmT.contains (.type X)) {fI : Addr} {Q : Fin → Shared → Prop}
    (oC : h.get? C = some (excClassObj nm q C N bs bm hdct sn sub ab col dd k0 k1 k2 k3 k5 newId))
    (hIni : W.Looks (model prog w) h (typeLookup (.ref C) "__init__") (some (.ref fI))) (hBnd : ∀ self, W.Looks (model prog w) h (bindSpecial (.ref fI) self) (.ref fI, [self]))
    (hz : codeAny (model prog w) A (.call (.ref fI) ⟨[.ref (h.objs.size + 1)], [(kn, kv)]⟩)
      (fun r s' => match r with | .ok (.ret v) => v = .none ∧ Q (.done (.ret (.ref (h.objs.size + 1)))) s' | .ok _ => False | .error ee => E ee s')
      ⟨(h.push (W.kdv_tup [])).push (excO C h.objs.size), g, d, t, os⟩) :
    wpAny (model prog w) A (Builtin.«type.__call__» ⟨[.ref C], [(kn, kv)]⟩) Q E ⟨h, g, d, t, os⟩ := by
  repeat (first | with_reducible refine wpAny_loadPart_at oC ?_ | with_reducible refine wpAny_madeBy_exc oC ?_ | wp_step)
  refine codeAny_call_builtin_code (Code.quiet_builtin _ XF.quiet) (check_new_ownK XF hTl oC ?_)
  refine new_ownK XF hTl oC ?_
  show wpAny _ _ _ _ _ _
  have kp1 : ∀ b o, h.get? b = some o → ((h.push (W.kdv_tup [])).push (excO C h.objs.size)).get? b = some o := fun b o ee => Heap.get?_push_of_some _ (Heap.get?_push_of_some _ ee)
  have oC1 := kp1 _ _ oC
  have hG1 : ((h.push (W.kdv_tup [])).push (excO C h.objs.size)).get? (h.objs.size + 1) = some (excO C h.objs.size) := by heap_get
  have cC1 : (Value.ref C :: bm).contains (.ref C) = true := by simp
  have iK := hIni.keeps kp1
  have bK := (hBnd (.ref (h.objs.size + 1))).keeps kp1
  unfold isInstance
  repeat (first | with_reducible refine wpAny_loadPart_at hG1 ?_ | (with_reducible refine wpAny_isSubtype_exc oC1 ?_; rw [cC1]) | wp_step)
  show wpAny _ _ (typeLookup (.ref C) _) _ _ _
  refine iK.at ?_
  refine wpAny_holding (wpAny_bind (bK.at ?_))
  refine wpAny_bind (wpAny_call (codeAny_mono hz fun r s' zz => ?_))
  rcases r with ee | (v | _ | _ | _) <;> first | exact zz | exact zz.elim | skip
  obtain ⟨rfl, zz⟩ := zz
  first
    | exact wpAny_pure (wpAny_pure zz)
    | (wp_walk; exact zz)
theorem call_ownK (XF : ExcBaseFacts B newId initId bmT) (hTl : ∀ X : String, bm.contains (.type X) = bmT.contains (.type X)) {fI : Addr}
    (oC : h.get? C = some (excClassObj nm q C N bs bm hdct sn sub ab col dd k0 k1 k2 k3 k5 newId))
    (hIni : W.Looks (model prog w) h (typeLookup (.ref C) "__init__") (some (.ref fI))) (hBnd : ∀ self, W.Looks (model prog w) h (bindSpecial (.ref fI) self) (.ref fI, [self]))
    (hz : codeAny (model prog w) (A.under (.builtin "type.__call__" ⟨[.ref C], [(kn, kv)]⟩)) (.call (.ref fI) ⟨[.ref (h.objs.size + 1)], [(kn, kv)]⟩) (W.InitBack (h.objs.size + 1) Rs)
      ⟨(h.push (W.kdv_tup [])).push (excO C h.objs.size), g, d, t, os⟩) :
    codeAny (model prog w) A (.call (.ref C) ⟨[], [(kn, kv)]⟩) Rs ⟨h, g, d, t, os⟩ := by
  have lk1 := tc_lookup
  have bd2 := tc_bind (.ref C)
  have tyC : (⟨h, g, d, t, os⟩ : Shared).TypeIs (.ref C) "type" := ⟨_, oC, rfl⟩
  refine codeAny_of_tree ?_
  show wpAny _ _ (callAny (.ref C) _) _ _ _
  repeat (any_goals (first | assumption | with_reducible refine wpAny_loadPart_at oC ?_ | wp_step))
  refine ⟨rfl, ?_⟩
  refine codeAny_call_builtin_at (Code.quiet_builtin _ (by decide +kernel)) entry_typeCall (wpAny_check_type_call_sub oC (type_call_ownK XF hTl oC hIni hBnd ?_))
  refine codeAny_mono hz fun r s' zz => ?_
  rcases r with ee | (v | _ | _ | _) <;> exact zz
end
end HandSPX
end PySem
end
section
set_option Elab.async false
set_option linter.all false
set_option maxRecDepth 100000
set_option autoImplicit false
/-! own exceptions made, as values -/
namespace RM
open PySem PySem.Spec PyProof.Rows L2
theorem xo_ok {P : Program} {w : World} {H : Hp} {h : Heap} {a C p : Addr} {fv : Array Value} (e : h.get? a = some ({ cls := .ref C, dict := some p, data := .fields fv } : Obj)) : ObjOk P w H h a (xo a C p) :=
  ⟨⟨_, fv, e, ⟨rfl, rfl⟩, rfl⟩, ⟨_, e⟩, fun h1 h2 z k => by
    obtain ⟨oe, vs, q, z1, z2⟩ := z
    exact ⟨oe, vs, k _ q, z1, z2⟩⟩
def spX (C : Addr) (f : Str) : Sp := fun vs H Q _ => ∃ v, vs = [v] ∧ ∀ a dx, H a = none → H dx = none → dx ≠ a → Q (.ref a) (upd (upd H dx (.xd [(f, v)])) a (xo a C dx))
/-- C(v) -/
theorem xmk_fn {P : Program} {w : World} {K : PySem.W.Frag} {mg : Str → Option Value} {base : Heap} {k : Nat} {f : Str} {C fI : Addr} (F : XinF P K C f fI) (hms : mg "super" = none) : FnG P w K mg base k C 1 (spX C f) := by
  obtain ⟨B, newId, initId, tl, XB, F⟩ := F
  obtain ⟨nm, q, N, bs, bm, sn, sub, ab, col, dd, k0, k1, k2, k3, k5, hC, hbm⟩ := F.T.cls
  refine ⟨fun vs H Q E ⟨v, e, _⟩ => by rw [e]; rfl, fun A outer s H us vs Q E hr hg e0 rv hsp => ?_⟩
  obtain ⟨v, rfl, hq⟩ := hsp
  cases rv with
  | @cons _ u0 _ ur rv rr =>
  cases rr
  obtain ⟨hp, gs, dr, tk, os⟩ := s
  have KX : K.In hp := e0.mod.kin.keeps fun b o e => (e0.bs b o e).1
  have hsz : hp.objs.size ≤ hp.objs.size + 1 := Nat.le_add_right _ 1
  have hn : H (hp.objs.size + 1) = none := e0.hok.fresh hsz
  have kk : ∀ b o, hp.get? b = some o → ((hp.push (PySem.W.kdv_tup [u0])).push (PySem.HandSPX.excO C hp.objs.size)).get? b = some o := fun b o e => Heap.get?_push_of_some _ (Heap.get?_push_of_some _ e)
  have hget : ((hp.push (PySem.W.kdv_tup [u0])).push (PySem.HandSPX.excO C hp.objs.size)).get? (hp.objs.size + 1) = some (PySem.HandSPX.excO C hp.objs.size) := by heap_get
  have hna : K.lookup (hp.objs.size + 1) = none := by
    cases e1 : K.lookup (hp.objs.size + 1) with
    | none => rfl
    | some o => exact absurd (Heap.lt_size (KX _ _ e1)) (Nat.not_lt.mpr hsz)
  obtain ⟨mb, hb, hmb⟩ := e0.mod.blt
  have bk : ∀ b o, base.get? b = some o → ((hp.push (PySem.W.kdv_tup [u0])).push (PySem.HandSPX.excO C hp.objs.size)).get? b = some o := fun b o e => kk b o (e0.bs b o e).1
  refine PySem.HandSPX.call_own XB.F (fun Y => refsB_contains XB.ne Y bm hbm) (KX _ _ hC) (PySem.W.looks_findIn KX F.iC) (fun self => PySem.W.bind_fn KX self F.tI) (by show 1 ≤ sizeLine; decide)
    (xinit_run XB F (KX.keeps fun b o e => kk b o e) (e0.mod.nolimit.keeps bk) (e0.mod.glob.keeps bk) (hb.keeps bk) hmb hms hget hna (by rw [make_depth]; have := hr.dp; omega) (.inl rfl) fun h' dx t1 tk' kp dn dne hx hns => ⟨rfl, ?_⟩)
  have far : ∀ {b : Addr} {o : Obj}, hp.get? b = some o → b ≠ hp.objs.size + 1 := fun q => Nat.ne_of_lt (Nat.lt_succ_of_lt (Heap.lt_size q))
  have up : ∀ b o, hp.get? b = some o → h'.get? b = some o := fun b o q => kp b o (far q) (kk b o q)
  have nd : ∀ {b : Addr} {o : Obj}, hp.get? b = some o → b ≠ dx := fun {b o} q z => by rw [z] at q; rw [kk _ _ q] at dn; cases dn
  have hd1 : H dx = none := by
    cases e : H dx with
    | none => rfl
    | some o =>
      obtain ⟨o', e'⟩ := obj_of (e0.hok dx o e)
      exact absurd rfl (nd e')
  refine ⟨.ref (hp.objs.size + 1), upd (upd H dx (.xd [(f, v)])) (hp.objs.size + 1) (xo (hp.objs.size + 1) C dx), rfl, e0.bare, {
    keep := fun b o q _ _ _ => up b o q
    slot := fun b o q _ _ _ => ⟨o.slots, up b o q⟩
    free := fun b o q n _ => by rw [upd_ne (far q), upd_ne (nd q)]; exact n
    there := fun b o q _ => ⟨o, up b o q⟩
    tups := fun b xs q => by rw [upd_ne (ne_of_none q hn), upd_ne (ne_of_none q hd1)]; exact q
    frzs := fun b o v q => by rw [upd_ne (ne_of_none q hn), upd_ne (ne_of_none q hd1)]; exact q
    tbls := fun b ps q => ⟨#[], by rw [upd_ne (ne_of_none q hn), upd_ne (ne_of_none q hd1), q]; simp⟩ }, fun b o q => ?_, rfl, hq _ _ hn hd1 dne⟩
  by_cases hb : b = hp.objs.size + 1
  · subst hb
    rw [upd_same] at q
    cases q
    exact xo_ok hx
  · rw [upd_ne hb] at q
    by_cases hd : b = dx
    · subst hd
      rw [upd_same] at q
      cases q
      exact ⟨_, hns, relO_put (fs := []) rv fun g => True.intro⟩
    · rw [upd_ne hd] at q
      exact (e0.hok b o q).stay (fun c v hc z => up c v z)
        (fun c hc => by rw [upd_ne (ne_of_none hc hn), upd_ne (ne_of_none hc hd1)]; exact hc) (fun c xs hc => by rw [upd_ne (ne_of_none hc hn), upd_ne (ne_of_none hc hd1)]; exact hc)
/-- C(f=v) -/
theorem xmk_fnK {P : Program} {w : World} {K : PySem.W.Frag} {mg : Str → Option Value} {base : Heap} {k : Nat} {f : Str} {C fI : Addr} (F : XinF P K C f fI) (hms : mg "super" = none) : FnK P w K mg base k C f (spX C f) := by
  obtain ⟨B, newId, initId, tl, XB, F⟩ := F
  obtain ⟨nm, q, N, bs, bm, sn, sub, ab, col, dd, k0, k1, k2, k3, k5, hC, hbm⟩ := F.T.cls
  refine fun A outer s H u0 v Q E hr hg e0 rv hsp => ?_
  obtain ⟨v', hv, hq⟩ := hsp
  obtain rfl : v = v' := by cases hv; rfl
  obtain ⟨hp, gs, dr, tk, os⟩ := s
  have KX : K.In hp := e0.mod.kin.keeps fun b o e => (e0.bs b o e).1
  have hsz : hp.objs.size ≤ hp.objs.size + 1 := Nat.le_add_right _ 1
  have hn : H (hp.objs.size + 1) = none := e0.hok.fresh hsz
  have kk : ∀ b o, hp.get? b = some o → ((hp.push (PySem.W.kdv_tup [])).push (PySem.HandSPX.excO C hp.objs.size)).get? b = some o := fun b o e => Heap.get?_push_of_some _ (Heap.get?_push_of_some _ e)
  have hget : ((hp.push (PySem.W.kdv_tup [])).push (PySem.HandSPX.excO C hp.objs.size)).get? (hp.objs.size + 1) = some (PySem.HandSPX.excO C hp.objs.size) := by heap_get
  have hna : K.lookup (hp.objs.size + 1) = none := by
    cases e1 : K.lookup (hp.objs.size + 1) with
    | none => rfl
    | some o => exact absurd (Heap.lt_size (KX _ _ e1)) (Nat.not_lt.mpr hsz)
  obtain ⟨mb, hb, hmb⟩ := e0.mod.blt
  have bk : ∀ b o, base.get? b = some o → ((hp.push (PySem.W.kdv_tup [])).push (PySem.HandSPX.excO C hp.objs.size)).get? b = some o := fun b o e => kk b o (e0.bs b o e).1
  refine PySem.HandSPX.call_ownK XB.F (fun Y => refsB_contains XB.ne Y bm hbm) (KX _ _ hC) (PySem.W.looks_findIn KX F.iC) (fun self => PySem.W.bind_fn KX self F.tI)
    (xinit_run XB F (KX.keeps fun b o e => kk b o e) (e0.mod.nolimit.keeps bk) (e0.mod.glob.keeps bk) (hb.keeps bk) hmb hms hget hna (by rw [make_depth]; have := hr.dp; omega) (.inr rfl) fun h' dx t1 tk' kp dn dne hx hns => ⟨rfl, ?_⟩)
  have far : ∀ {b : Addr} {o : Obj}, hp.get? b = some o → b ≠ hp.objs.size + 1 := fun q => Nat.ne_of_lt (Nat.lt_succ_of_lt (Heap.lt_size q))
  have up : ∀ b o, hp.get? b = some o → h'.get? b = some o := fun b o q => kp b o (far q) (kk b o q)
  have nd : ∀ {b : Addr} {o : Obj}, hp.get? b = some o → b ≠ dx := fun {b o} q z => by rw [z] at q; rw [kk _ _ q] at dn; cases dn
  have hd1 : H dx = none := by
    cases e : H dx with
    | none => rfl
    | some o =>
      obtain ⟨o', e'⟩ := obj_of (e0.hok dx o e)
      exact absurd rfl (nd e')
  refine ⟨.ref (hp.objs.size + 1), upd (upd H dx (.xd [(f, v)])) (hp.objs.size + 1) (xo (hp.objs.size + 1) C dx), rfl, e0.bare, {
    keep := fun b o q _ _ _ => up b o q
    slot := fun b o q _ _ _ => ⟨o.slots, up b o q⟩
    free := fun b o q n _ => by rw [upd_ne (far q), upd_ne (nd q)]; exact n
    there := fun b o q _ => ⟨o, up b o q⟩
    tups := fun b xs q => by rw [upd_ne (ne_of_none q hn), upd_ne (ne_of_none q hd1)]; exact q
    frzs := fun b o v q => by rw [upd_ne (ne_of_none q hn), upd_ne (ne_of_none q hd1)]; exact q
    tbls := fun b ps q => ⟨#[], by rw [upd_ne (ne_of_none q hn), upd_ne (ne_of_none q hd1), q]; simp⟩ }, fun b o q => ?_, rfl, hq _ _ hn hd1 dne⟩
  by_cases hb : b = hp.objs.size + 1
  · subst hb
    rw [upd_same] at q
    cases q
    exact xo_ok hx
  · rw [upd_ne hb] at q
    by_cases hd : b = dx
    · subst hd
      rw [upd_same] at q
      cases q
      exact ⟨_, hns, relO_put (fs := []) rv fun g => True.intro⟩
    · rw [upd_ne hd] at q
      exact (e0.hok b o q).stay (fun c v hc z => up c v z)
        (fun c hc => by rw [upd_ne (ne_of_none hc hn), upd_ne (ne_of_none hc hd1)]; exact hc) (fun c xs hc => by rw [upd_ne (ne_of_none hc hn), upd_ne (ne_of_none hc hd1)]; exact hc)
def mkX (c f : Str) : List D → M D := fun ds => match ds with
  | [d] => pure (.exc c [(f, d)])
  | _ => M.fail
theorem spX_of {c f : Str} {C : Addr} {Y : Tx} (hc : Y.cls c = some C) {vs : List V} {H : Hp} {Q : VK} {E : XK} (hsp : spG Y 1 (mkX c f) vs H Q E) : spX C f vs H Q E := by
  obtain ⟨hl, G, S, ds, ok, rs, wm⟩ := hsp
  cases rs with
  | nil => cases hl
  | @cons v d vs ds r rs =>
    cases rs with
    | cons _ _ => cases hl
    | nil =>
      refine ⟨v, rfl, fun a dx na nd ne => ?_⟩
      have ok1 := ok.new (o := .xd [(f, v)]) nd
      have n2 : upd H dx (.xd [(f, v)]) a = none := by rw [upd_ne ne.symm]; exact na
      have ok2 := ok1.new (o := xo a C dx) n2
      have x1 : Ext G H G (upd H dx (.xd [(f, v)])) := Ext.new ok nd
      have x2 := x1.trans (Ext.new (o := xo a C dx) ok1 n2)
      have hdx : upd (upd H dx (.xd [(f, v)])) a (xo a C dx) dx = some (.xd [(f, v)]) := by rw [upd_ne ne, upd_same]
      have ha : upd (upd H dx (.xd [(f, v)])) a (xo a C dx) a = some (xo a C dx) := upd_same
      have ok3 := ok2.freeze (p := dx) (by rw [hdx]; exact fun z => nomatch z) fun m => ok.muT dx m nd
      have ok4 := ok3.freeze (p := a) (by rw [ha]; exact fun z => nomatch z) fun m => ok.muT a m na
      have x4 := (x2.freeze (p := dx) nd).freeze (p := a) na
      exact wm _ _ (.ref a) x4 ok4 (.exc ha (.inr rfl) hdx (.inl (.inr rfl)) hc (.cons (r.ext x4 ok) .nil))
theorem xmk_G {P : Program} {w : World} {K : PySem.W.Frag} {mg : Str → Option Value} {base : Heap} {k : Nat} {f c : Str} {C : Addr} {Y : Tx} (F : FnG P w K mg base k C 1 (spX C f)) (hc : Y.cls c = some C) : FnG P w K mg base k C 1 (spG Y 1 (mkX c f)) :=
  ⟨fun vs H Q E h => h.1, fun A outer s H us vs Q E hr hg e0 rv hsp => F.run A outer s H us vs Q E hr hg e0 rv (spX_of hc hsp)⟩
theorem xmk_K {P : Program} {w : World} {K : PySem.W.Frag} {mg : Str → Option Value} {base : Heap} {k : Nat} {f c : Str} {C : Addr} {Y : Tx} (F : FnK P w K mg base k C f (spX C f)) (hc : Y.cls c = some C) : FnK P w K mg base k C f (spG Y 1 (mkX c f)) := fun A outer s H u v Q E hr hg e0 rv hsp => F A outer s H u v Q E hr hg e0 rv (spX_of hc hsp)
end RM
end
section
set_option Elab.async false
set_option linter.all false
set_option maxRecDepth 100000
set_option autoImplicit false
/-! the defs of a law's text, one behind the other; what the head tells; the law's end -/
namespace RM
open PySem PySem.Spec PyProof.Rows L2 PySem.W

/-! ### classes -/
def clsB (K : Frag) (C : Addr) : Bool := plainGet K C Str.empty && (hasDictIn K C && (plainOver K C && He.eqO (findIn K (.ref C) "__setattr__") (some (some (.builtin "object.__setattr__")))))
theorem clsB_ok {K : Frag} {C : Addr} (h : clsB K C = true) : Cls K C := by
  obtain ⟨h1, h⟩ := and2 h
  obtain ⟨h2, h⟩ := and2 h
  obtain ⟨h3, h4⟩ := and2 h
  exact ⟨h1, h2, h3, He.eqO_ok h4⟩
def xcfB (K : Frag) (C : Addr) (f : Str) : Bool := He.eqO (findIn K (.ref C) "__getattribute__") (some (some (.builtin "BaseException.__getattribute__"))) && (He.eqO (findIn K (.ref C) "__getattr__") (some none) && (eqB (subIn K (.ref C) (.type "BaseException")) (some true) && (hasDictIn K C && He.eqO (findIn K (.ref C) f) (some none))))
theorem xcfB_ok {K : Frag} {C : Addr} {f : Str} (h : xcfB K C f = true) : XcF K C f := by
  obtain ⟨h1, h⟩ := and2 h
  obtain ⟨h2, h⟩ := and2 h
  obtain ⟨h3, h⟩ := and2 h
  obtain ⟨h4, h5⟩ := and2 h
  exact ⟨He.eqO_ok h1, He.eqO_ok h2, eqB_ok h3, h4, He.eqO_ok h5⟩
def insB (K : Frag) (C : Addr) : Bool := clsB K C && (He.eqO (findIn K (.ref C) "__class__") (some (some (.builtin "object.__class__"))) && (He.eqO (specialIn K (.builtin "object.__class__") "__get__") (some (some (.builtin "getset_descriptor.__get__"))) &&
  (eqB (takesIn K (.builtin "object.__class__")) (some true) && (eqB (mroIn K C (.type "object")) (some true) && He.eqO (findIn K (.ref C) "__ne__") (some (some (.builtin "object.__ne__")))))))
theorem insB_ok {K : Frag} {C : Addr} (h : insB K C = true) : InsF K C := by
  obtain ⟨h1, h⟩ := and2 h
  obtain ⟨h2, h⟩ := and2 h
  obtain ⟨h3, h⟩ := and2 h
  obtain ⟨h4, h⟩ := and2 h
  obtain ⟨h5, h6⟩ := and2 h
  exact ⟨clsB_ok h1, He.eqO_ok h2, He.eqO_ok h3, eqB_ok h4, eqB_ok h5, He.eqO_ok h6⟩
def tyNms : List String := ["str", "int", "bool", "tuple", "list", "dict", "ValueError", "LookupError", "OverflowError", "KeyError", "IndexError"]
theorem tyNm_mem {n : String} (h : tyNm n = true) : n ∈ tyNms := by
  unfold tyNm at h
  simp only [Bool.or_eq_true, beq_iff_eq] at h
  simp only [tyNms, List.mem_cons, List.not_mem_nil, or_false]
  rcases h with (((((((((h | h) | h) | h) | h) | h) | h) | h) | h) | h) | h <;> simp [h]
def excB (K : Frag) (C : Addr) : Bool := He.eqO (findIn K (.ref C) "__getattribute__") (some (some (.builtin "BaseException.__getattribute__"))) && (He.eqO (findIn K (.ref C) "__getattr__") (some none) && (eqB (subIn K (.ref C) (.type "BaseException")) (some true) && (hasDictIn K C &&
  (He.eqO (findIn K (.ref C) "__class__") (some (some (.builtin "object.__class__"))) && (He.eqO (specialIn K (.builtin "object.__class__") "__get__") (some (some (.builtin "getset_descriptor.__get__"))) && (eqB (takesIn K (.builtin "object.__class__")) (some true) && eqB (mroIn K C (.type "object")) (some true)))))))
theorem excB_ok {K : Frag} {C : Addr} (h : excB K C = true) : ExcC K C := by
  obtain ⟨h1, h⟩ := and2 h
  obtain ⟨h2, h⟩ := and2 h
  obtain ⟨h3, h⟩ := and2 h
  obtain ⟨h4, h⟩ := and2 h
  obtain ⟨h5, h⟩ := and2 h
  obtain ⟨h6, h⟩ := and2 h
  obtain ⟨h7, h8⟩ := and2 h
  exact ⟨He.eqO_ok h1, He.eqO_ok h2, eqB_ok h3, h4, He.eqO_ok h5, He.eqO_ok h6, eqB_ok h7, eqB_ok h8⟩
/-- an exception's class, for isinstance -/
def xisB (kin : Kin) (cs : List Str) (K : Frag) (c : Str) : Bool := excB K (He.ga K c) && ((tyNms.all fun n => eqB (kitOne K (.ref (He.ga K c)) (.type n)) (some (xnN n && (kin.xb c).contains n))) && cs.all fun c' => eqB (kitOne K (.ref (He.ga K c)) (.ref (He.ga K c'))) (some ((kin.par c).contains c')))
def txOf (K : Frag) (cs : List Str) : Tx := { K := K, cls := fun c => if cs.contains c then some (He.ga K c) else none }
theorem tx_cls {K : Frag} {cs : List Str} {c : Str} {C : Addr} (h : (txOf K cs).cls c = some C) : c ∈ cs ∧ He.ga K c = C := by
  have h : (if cs.contains c then some (He.ga K c) else none) = some C := h
  split at h
  · rename_i e
    exact ⟨by simpa using e, Option.some.inj h⟩
  · cases h
def kinC (kin : Kin) (cs : List Str) (K : Frag) (c : Str) : Bool :=
  (kin.fld c).all (fun f => clsB K (He.ga K c) && He.eqO (findIn K (.ref (He.ga K c)) f) (some none)) && ((kin.xfl c).all (fun f => xcfB K (He.ga K c) f) && ((tyAll.all fun T => eqB (kitOne K (.type T) (.ref (He.ga K c))) (some false)) &&
  ((!kin.isI c || (insB K (He.ga K c) && ((tyNms.all fun n => eqB (kitOne K (.ref (He.ga K c)) (.type n)) (some false)) && cs.all fun c' => eqB (kitOne K (.ref (He.ga K c)) (.ref (He.ga K c'))) (some ((kin.par c).contains c'))))) &&
  ((!kin.isX c || cs.all fun c' => !kin.isX c' || eqB (exmOne K (.ref (He.ga K c)) (.ref (He.ga K c'))) (some ((kin.par c).contains c'))) && (!kin.isX c || xisB kin cs K c)))))
def kinB (kin : Kin) (cs : List Str) (K : Frag) : Bool := cs.all (kinC kin cs K)
theorem kinB_ok {kin : Kin} {cs : List Str} {K : Frag} (h : kinB kin cs K = true) : KinOk kin (txOf K cs) := by
  have key : ∀ c C, (txOf K cs).cls c = some C → He.ga K c = C ∧ c ∈ cs ∧ kinC kin cs K c = true := fun c C hc => ⟨(tx_cls hc).2, (tx_cls hc).1, List.all_eq_true.mp h c (tx_cls hc).1⟩
  have or2 : ∀ {a b : Bool}, (!a || b) = true → a = true → b = true := fun {a b} h e => by rw [e] at h; exact h
  constructor
  · intro c C f hc hf
    obtain ⟨rfl, m, q⟩ := key c C hc
    obtain ⟨q1, _⟩ := and2 q
    obtain ⟨q1, q2⟩ := and2 (List.all_eq_true.mp q1 f (by simpa using hf))
    exact ⟨clsB_ok q1, He.eqO_ok q2⟩
  · intro c C f hc hf
    obtain ⟨rfl, m, q⟩ := key c C hc
    obtain ⟨_, q⟩ := and2 q
    obtain ⟨q1, _⟩ := and2 q
    exact xcfB_ok (List.all_eq_true.mp q1 f (by simpa using hf))
  · intro c c' C C' h1 h2 hc hc'
    obtain ⟨rfl, m, q⟩ := key c C hc
    obtain ⟨e', m', _⟩ := key c' C' hc'
    subst e'
    obtain ⟨_, q⟩ := and2 q
    obtain ⟨_, q⟩ := and2 q
    obtain ⟨_, q⟩ := and2 q
    obtain ⟨_, q⟩ := and2 q
    obtain ⟨q, _⟩ := and2 q
    exact eqB_ok (or2 (List.all_eq_true.mp (or2 q h1) c' m') h2)
  · intro c C T hc hT
    obtain ⟨rfl, m, q⟩ := key c C hc
    obtain ⟨_, q⟩ := and2 q
    obtain ⟨_, q⟩ := and2 q
    obtain ⟨q1, _⟩ := and2 q
    exact eqB_ok (List.all_eq_true.mp q1 T hT)
  · intro c C hi hc
    obtain ⟨rfl, m, q⟩ := key c C hc
    obtain ⟨_, q⟩ := and2 q
    obtain ⟨_, q⟩ := and2 q
    obtain ⟨_, q⟩ := and2 q
    obtain ⟨q1, _⟩ := and2 q
    obtain ⟨q1, _⟩ := and2 (or2 q1 hi)
    exact insB_ok q1
  · intro c C n hi hc hn
    obtain ⟨rfl, m, q⟩ := key c C hc
    obtain ⟨_, q⟩ := and2 q
    obtain ⟨_, q⟩ := and2 q
    obtain ⟨_, q⟩ := and2 q
    obtain ⟨q1, _⟩ := and2 q
    obtain ⟨_, q1⟩ := and2 (or2 q1 hi)
    obtain ⟨q1, _⟩ := and2 q1
    exact eqB_ok (List.all_eq_true.mp q1 n (tyNm_mem hn))
  · intro c c' C C' hi hc hc'
    obtain ⟨rfl, m, q⟩ := key c C hc
    obtain ⟨e', m', _⟩ := key c' C' hc'
    subst e'
    obtain ⟨_, q⟩ := and2 q
    obtain ⟨_, q⟩ := and2 q
    obtain ⟨_, q⟩ := and2 q
    obtain ⟨q1, _⟩ := and2 q
    obtain ⟨_, q1⟩ := and2 (or2 q1 hi)
    obtain ⟨_, q1⟩ := and2 q1
    exact eqB_ok (List.all_eq_true.mp q1 c' m')
  · intro c C hi hc
    obtain ⟨rfl, m, q⟩ := key c C hc
    obtain ⟨_, q⟩ := and2 q
    obtain ⟨_, q⟩ := and2 q
    obtain ⟨_, q⟩ := and2 q
    obtain ⟨_, q⟩ := and2 q
    obtain ⟨_, q⟩ := and2 q
    exact excB_ok (and2 (or2 q hi)).1
  · intro c C n hi hc hn
    obtain ⟨rfl, m, q⟩ := key c C hc
    obtain ⟨_, q⟩ := and2 q
    obtain ⟨_, q⟩ := and2 q
    obtain ⟨_, q⟩ := and2 q
    obtain ⟨_, q⟩ := and2 q
    obtain ⟨_, q⟩ := and2 q
    obtain ⟨_, q⟩ := and2 (or2 q hi)
    exact eqB_ok (List.all_eq_true.mp (and2 q).1 n (tyNm_mem hn))
  · intro c c' C C' hi hc hc'
    obtain ⟨rfl, m, q⟩ := key c C hc
    obtain ⟨e', m', _⟩ := key c' C' hc'
    subst e'
    obtain ⟨_, q⟩ := and2 q
    obtain ⟨_, q⟩ := and2 q
    obtain ⟨_, q⟩ := and2 q
    obtain ⟨_, q⟩ := and2 q
    obtain ⟨_, q⟩ := and2 q
    obtain ⟨_, q⟩ := and2 (or2 q hi)
    exact eqB_ok (List.all_eq_true.mp (and2 q).2 c' m')

/-! ### names -/
def gvB (K : Frag) (cs : List Str) (x : Str) : Gv → Bool
  | .cst (.int i) => (He.Fa.int x i).ok K
  | .cst (.str z) => (He.Fa.str x z).ok K
  | .cst _ => false
  | .fn _ => (He.Fa.glo x).ok K && (He.Fa.keep x).ok K
  | .blt => (He.Fa.free x).ok K
  | .hof => (He.Fa.glo x).ok K && (He.Fa.keep x).ok K
  | .dfl f _ => (He.Fa.glo f).ok K && (He.Fa.keep f).ok K
  | .cls c => c == x && (cs.contains x && (He.Fa.glo x).ok K)
  | .cfn c _ => c == x && (cs.contains x && ((He.Fa.glo x).ok K && ((He.Fa.keep x).ok K && (He.Fa.mkr x).ok K)))
  | .xkw c _ => cs.contains c && ((He.Fa.glo c).ok K && (He.Fa.keep c).ok K)
  | .xcl c => c == x && (cs.contains x && ((He.Fa.glo x).ok K && (He.Fa.keep x).ok K))
  | .mth c m _ => cs.contains c && (clsB K (He.ga K c) && (He.Fa.meth c m).ok K)
def gtB (K : Frag) (cs : List Str) (gt : Gt) : Bool := gt.all fun p => gvB K cs p.1 p.2
def updO (C : Orc) (x : Str) (m : List D → M D) : Orc := { C with run := fun f => if f == x then m else C f }
def updH (C : Orc) (x : Str) (h : M D → M D) : Orc := { C with hof := fun f => if f == x then h else C.hof f }
def failO : Orc := { run := fun _ _ => M.fail }
theorem fail_k {P : Program} {w : World} {K : Frag} {mg : Str → Option Value} {base : Heap} {Y : Tx} {f : Addr} {kn : Str} : FnK P w K mg base 0 f kn (spG Y 1 (fun _ => M.fail)) :=
  fun A outer s H us vs Q E _ _ _ _ hs => hs.2.elim fun _ h => h.elim fun _ h => h.elim fun _ h => h.2.2.elim
theorem fail_fn {P : Program} {w : World} {K : Frag} {mg : Str → Option Value} {base : Heap} {Y : Tx} {f : Addr} {n : Nat} : FnG P w K mg base 0 f n (spG Y n (fun _ => M.fail)) :=
  ⟨fun vs H Q E h => h.1, fun A outer s H us vs Q E _ _ _ _ hs => hs.2.elim fun _ h => h.elim fun _ h => h.elim fun _ h => h.2.2.elim⟩
section
variable {P : Program} {w : World} {K : Frag} {mg : Str → Option Value} {base h : Heap} {cs : List Str} {gt : Gt} {k : Nat} {C : Orc} {Y : Tx}
theorem mem_of_lookup {α β : Type} [BEq α] [LawfulBEq α] {x : α} {v : β} : ∀ {l : List (α × β)}, l.lookup x = some v → (x, v) ∈ l
  | [], e => by cases e
  | (y, u) :: r, e => by
    rw [List.lookup_cons] at e
    split at e
    · rename_i c
      cases e
      rw [beq_iff_eq.mp c]
      exact List.mem_cons_self
    · exact List.mem_cons_of_mem _ (mem_of_lookup e)
theorem gt_start (X : K.In h) (G : h.Ns mainGlobals mg) (c : gtB K cs gt = true) {tabs : List (Addr × Str)} : GtOk false gt { txOf K cs with tabs := tabs } 0 failO P w K mg base := by
  intro x v hx
  have q : gvB K cs x v = true := List.all_eq_true.mp c (x, v) (mem_of_lookup hx)
  cases v with
  | cst d =>
    cases d with
    | int i =>
      obtain ⟨t, e⟩ := He.int_ok X G (x := x) (i := i) q
      exact ⟨.int i, _, e, ⟨t, rfl⟩, fun _ _ => .int i⟩
    | str z =>
      obtain ⟨t, e⟩ := He.str_ok X G (x := x) (z := z) q
      exact ⟨.str z, _, e, ⟨t, rfl⟩, fun _ _ => .str z⟩
    | _ => cases q
  | fn n =>
    obtain ⟨q1, q2⟩ := and2 q
    exact fun _ => ⟨_, He.glo_ok X G q1, q2, fail_fn⟩
  | blt => exact He.free_ok X G (x := x) q
  | hof => trivial
  | dfl f m =>
    obtain ⟨q1, q2⟩ := and2 q
    exact fun _ => ⟨_, He.glo_ok X G q1, q2, fail_fn⟩
  | cls c =>
    obtain ⟨q1, q2⟩ := and2 q
    obtain ⟨q2, q3⟩ := and2 q2
    have e := beq_iff_eq.mp q1
    subst e
    exact ⟨_, He.glo_ok X G q3, if_pos q2⟩
  | cfn c n =>
    obtain ⟨q1, q2⟩ := and2 q
    obtain ⟨q2, q3⟩ := and2 q2
    obtain ⟨q3, q4⟩ := and2 q3
    obtain ⟨q4, q5⟩ := and2 q4
    have e := beq_iff_eq.mp q1
    subst e
    exact ⟨⟨_, He.glo_ok X G q3, if_pos q2⟩, fun _ => ⟨_, He.glo_ok X G q3, q4, fail_fn⟩⟩
  | xcl c =>
    obtain ⟨q1, q2⟩ := and2 q
    obtain ⟨q2, q3⟩ := and2 q2
    obtain ⟨q3, q4⟩ := and2 q3
    have e := beq_iff_eq.mp q1
    subst e
    exact ⟨⟨_, He.glo_ok X G q3, if_pos q2⟩, fun _ => ⟨_, He.glo_ok X G q3, q4, fail_fn⟩⟩
  | xkw c kn =>
    obtain ⟨q1, q2⟩ := and2 q
    obtain ⟨q2, q3⟩ := and2 q2
    exact fun _ => ⟨_, He.glo_ok X G q2, if_pos q1, q3, fail_k⟩
  | mth c m n =>
    obtain ⟨q1, q2⟩ := and2 q
    obtain ⟨q2, q3⟩ := and2 q2
    intro _ Ca hc
    obtain ⟨_, rfl⟩ := tx_cls hc
    exact ⟨_, clsB_ok q2, He.meth_ok q3, fail_fn⟩
/-- one name more is known -/
theorem gt_keep {x y : Str} {m : List D → M D} {v : Gv} (e : y ≠ x) (q : GvOk false Y k C P w K mg base y v) : GvOk false Y (k + 1) (updO C x m) P w K mg base y v := by
  have eu : updO C x m y = C y := by
    show (if y == x then m else C y) = C y
    rw [if_neg]
    exact fun z => e (beq_iff_eq.mp z)
  cases v with
  | cst d => exact q
  | fn n' =>
    intro _
    obtain ⟨f, h1, h2, h3⟩ := q rfl
    exact ⟨f, h1, h2, by rw [eu]; exact h3.mono (Nat.le_succ k)⟩
  | blt => exact q
  | hof => trivial
  | dfl f m =>
    intro _
    obtain ⟨f, h1, h2, h3⟩ := q rfl
    exact ⟨f, h1, h2, by rw [eu]; exact h3.mono (Nat.le_succ k)⟩
  | cls c => exact q
  | cfn c n =>
    refine ⟨q.1, fun _ => ?_⟩
    obtain ⟨f, h1, h2, h3⟩ := q.2 rfl
    exact ⟨f, h1, h2, by rw [eu]; exact h3.mono (Nat.le_succ k)⟩
  | xcl c =>
    refine ⟨q.1, fun _ => ?_⟩
    obtain ⟨f, h1, h2, h3⟩ := q.2 rfl
    exact ⟨f, h1, h2, by rw [eu]; exact h3.mono (Nat.le_succ k)⟩
  | xkw c kn =>
    intro _
    obtain ⟨f, h1, h2, h3, h4⟩ := q rfl
    exact ⟨f, h1, h2, h3, by rw [eu]; exact h4.mono (Nat.le_succ k)⟩
  | mth c m n =>
    intro _ Ca hc
    obtain ⟨f, h1, h2, h3⟩ := q rfl Ca hc
    exact ⟨f, h1, h2, by rw [eu]; exact h3.mono (Nat.le_succ k)⟩
theorem upd_self {x : Str} {m : List D → M D} : updO C x m x = m := by show (if x == x then m else C x) = m; rw [if_pos (beq_self_eq_true _)]
theorem gt_upd {x : Str} {n : Nat} {m : List D → M D} (g : GtOk false gt Y k C P w K mg base) (hx : gt.lookup x = some (.fn n)) (hf : ∀ f, mg x = some (.ref f) → FnG P w K mg base (k + 1) f n (spG Y n m)) : GtOk false gt Y (k + 1) (updO C x m) P w K mg base := by
  intro y v hy
  have q := g y v hy
  by_cases e : y = x
  · subst e
    rw [hx] at hy
    cases hy
    intro _
    obtain ⟨f, h1, h2, _⟩ := q rfl
    refine ⟨f, h1, h2, ?_⟩
    rw [upd_self]
    exact hf f h1
  · exact gt_keep e q
theorem gt_updC {x c : Str} {n : Nat} {m : List D → M D} (g : GtOk false gt Y k C P w K mg base) (hx : gt.lookup x = some (.cfn c n)) (hf : ∀ f, mg x = some (.ref f) → FnG P w K mg base (k + 1) f n (spG Y n m)) : GtOk false gt Y (k + 1) (updO C x m) P w K mg base := by
  intro y v hy
  have q := g y v hy
  by_cases e : y = x
  · subst e
    rw [hx] at hy
    cases hy
    refine ⟨q.1, fun _ => ?_⟩
    obtain ⟨f, h1, h2, _⟩ := q.2 rfl
    refine ⟨f, h1, h2, ?_⟩
    rw [upd_self]
    exact hf f h1
  · exact gt_keep e q
theorem gt_updM {x c mm : Str} {n : Nat} {m : List D → M D} (g : GtOk false gt Y k C P w K mg base) (hx : gt.lookup x = some (.mth c mm n)) (hf : ∀ Ca f, Y.cls c = some Ca → Meth K Ca mm f → FnG P w K mg base (k + 1) f (n + 1) (spG Y (n + 1) m)) : GtOk false gt Y (k + 1) (updO C x m) P w K mg base := by
  intro y v hy
  have q := g y v hy
  by_cases e : y = x
  · subst e
    rw [hx] at hy
    cases hy
    intro _ Ca hc
    obtain ⟨f, h1, h2, _⟩ := q rfl Ca hc
    refine ⟨f, h1, h2, ?_⟩
    rw [upd_self]
    exact hf Ca f hc h2
  · exact gt_keep e q
theorem gt_updD {x fn : Str} {n : Nat} {m : List D → M D} (g : GtOk false gt Y k C P w K mg base) (hx : gt.lookup x = some (.dfl fn n)) (hf : ∀ f, mg fn = some (.ref f) → FnG P w K mg base (k + 1) f n (spG Y n m)) : GtOk false gt Y (k + 1) (updO C x m) P w K mg base := by
  intro y v hy
  have q := g y v hy
  by_cases e : y = x
  · subst e
    rw [hx] at hy
    cases hy
    intro _
    obtain ⟨f, h1, h2, _⟩ := q rfl
    refine ⟨f, h1, h2, ?_⟩
    rw [upd_self]
    exact hf f h1
  · exact gt_keep e q
theorem gt_updX {x c : Str} {m : List D → M D} (g : GtOk false gt Y k C P w K mg base) (hx : gt.lookup x = some (.xcl c)) (hf : ∀ f, mg x = some (.ref f) → Y.cls c = some f → FnG P w K mg base (k + 1) f 1 (spG Y 1 m)) : GtOk false gt Y (k + 1) (updO C x m) P w K mg base := by
  intro y v hy
  have q := g y v hy
  by_cases e : y = x
  · subst e
    rw [hx] at hy
    cases hy
    refine ⟨q.1, fun _ => ?_⟩
    obtain ⟨f, h1, h2, _⟩ := q.2 rfl
    obtain ⟨Ca, h3, h4⟩ := q.1
    rw [h1] at h3
    cases h3
    refine ⟨f, h1, h2, ?_⟩
    rw [upd_self]
    exact hf f h1 h4
  · exact gt_keep e q
theorem gt_updK {x c kn : Str} {m : List D → M D} (g : GtOk false gt Y k C P w K mg base) (hx : gt.lookup x = some (.xkw c kn)) (hf : ∀ f, Y.cls c = some f → FnK P w K mg base (k + 1) f kn (spG Y 1 m)) : GtOk false gt Y (k + 1) (updO C x m) P w K mg base := by
  intro y v hy
  have q := g y v hy
  by_cases e : y = x
  · subst e
    rw [hx] at hy
    cases hy
    intro _
    obtain ⟨f, h1, h2, h3, _⟩ := q rfl
    refine ⟨f, h1, h2, h3, ?_⟩
    rw [upd_self]
    exact hf f h2
  · exact gt_keep e q
theorem GtOk.mono (g : GtOk false gt Y k C P w K mg base) : GtOk false gt Y (k + 1) C P w K mg base := by
  intro y v hy
  have q := g y v hy
  cases v with
  | cst d => exact q
  | fn n' =>
    intro _
    obtain ⟨f, h1, h2, h3⟩ := q rfl
    exact ⟨f, h1, h2, h3.mono (Nat.le_succ k)⟩
  | blt => exact q
  | hof => trivial
  | dfl f m =>
    intro _
    obtain ⟨f, h1, h2, h3⟩ := q rfl
    exact ⟨f, h1, h2, h3.mono (Nat.le_succ k)⟩
  | cls c => exact q
  | cfn c n =>
    refine ⟨q.1, fun _ => ?_⟩
    obtain ⟨f, h1, h2, h3⟩ := q.2 rfl
    exact ⟨f, h1, h2, h3.mono (Nat.le_succ k)⟩
  | xcl c =>
    refine ⟨q.1, fun _ => ?_⟩
    obtain ⟨f, h1, h2, h3⟩ := q.2 rfl
    exact ⟨f, h1, h2, h3.mono (Nat.le_succ k)⟩
  | xkw c kn =>
    intro _
    obtain ⟨f, h1, h2, h3, h4⟩ := q rfl
    exact ⟨f, h1, h2, h3, h4.mono (Nat.le_succ k)⟩
  | mth c m n =>
    intro _ Ca hc
    obtain ⟨f, h1, h2, h3⟩ := q rfl Ca hc
    exact ⟨f, h1, h2, h3.mono (Nat.le_succ k)⟩
theorem GtOk.monoN (g : GtOk false gt Y k C P w K mg base) : ∀ j, GtOk false gt Y (k + j) C P w K mg base
  | 0 => g
  | j + 1 => GtOk.mono (GtOk.monoN g j)
/-- the defs that are handed lambdas -/
def HofOk (gt : Gt) (Y : Tx) (k : Nat) (C : Orc) (P : Program) (w : World) (K : Frag) (mg : Str → Option Value) (base : Heap) : Prop := ∀ x, gt.lookup x = some .hof → ∃ f, mg x = some (.ref f) ∧ keepIn K (.ref f) = true ∧ FnT P w K mg base (k + 3) f Y (C.hof x)
theorem HofOk.mono {k' : Nat} (g : HofOk gt Y k C P w K mg base) (h : k ≤ k') : HofOk gt Y k' C P w K mg base := fun x hx => let ⟨f, a, b, c⟩ := g x hx; ⟨f, a, b, c.mono (by omega)⟩
theorem hof_start (X : K.In h) (G : h.Ns mainGlobals mg) (c : gtB K cs gt = true) {tabs : List (Addr × Str)} : HofOk gt { txOf K cs with tabs := tabs } 0 failO P w K mg base := fun x hx => by
  have q : gvB K cs x .hof = true := List.all_eq_true.mp c (x, .hof) (mem_of_lookup hx)
  obtain ⟨q1, q2⟩ := and2 q
  exact ⟨_, He.glo_ok X G q1, q2, fun _ _ _ _ _ _ _ _ _ _ _ _ _ _ _ _ _ w => w.elim⟩
theorem hof_upd {x : Str} {m : M D → M D} (g : HofOk gt Y k C P w K mg base) (hf : ∀ f, mg x = some (.ref f) → FnT P w K mg base (k + 4) f Y m) : HofOk gt Y (k + 4) (updH C x m) P w K mg base := fun y hy => by
  obtain ⟨f, a, b, c⟩ := g y hy
  by_cases e : y = x
  · subst e
    refine ⟨f, a, b, ?_⟩
    show FnT P w K mg base (k + 4 + 3) f Y (if y == y then m else C.hof y)
    rw [if_pos (beq_self_eq_true _)]
    exact (hf f a).mono (by omega)
  · refine ⟨f, a, b, ?_⟩
    show FnT P w K mg base (k + 4 + 3) f Y (if y == x then m else C.hof y)
    rw [if_neg (fun z => e (beq_iff_eq.mp z))]
    exact c.mono (by omega)
end

/-! ### defaults -/
def dfl1 (K : Frag) (u : Value) : D → Bool
  | .non => (match u with
    | .none => true
    | _ => false)
  | .bl b => (match u with
    | .bool c => b == c
    | _ => false)
  | .int i => (match u with
    | .int j _ => decide (i = j)
    | _ => false)
  | .str x => (match u with
    | .str y _ => decide (x = y)
    | _ => false)
  | .tup [] => (match u with
    | .ref a => (match K.lookup a with
      | some ⟨.type c, _, .seq its _, _⟩ => decide (c = "tuple") && decide (its.toList = [])
      | _ => false)
    | _ => false)
  | _ => false
theorem dfl1_ok {K : Frag} {u : Value} {d : D} (h : dfl1 K u d = true) : ∃ v, RelV v u ∧ ∀ Y G H, Y.K = K → RD Y G H v d := by
  cases d with
  | non =>
    cases u with
    | none => exact ⟨.non, rfl, fun _ _ _ _ => .non⟩
    | _ => cases h
  | bl b =>
    cases u with
    | bool c =>
      have e : b = c := beq_iff_eq.mp h
      subst e
      exact ⟨.bl b, rfl, fun _ _ _ _ => .bl b⟩
    | _ => cases h
  | int i =>
    cases u with
    | int j t =>
      have e : i = j := of_decide_eq_true h
      subst e
      exact ⟨.int i, ⟨t, rfl⟩, fun _ _ _ _ => .int i⟩
    | _ => cases h
  | str x =>
    cases u with
    | str y t =>
      have e : x = y := of_decide_eq_true h
      subst e
      exact ⟨.str x, ⟨t, rfl⟩, fun _ _ _ _ => .str x⟩
    | _ => cases h
  | tup xs =>
    cases xs with
    | nil =>
      cases u with
      | ref a =>
        have h : (match K.lookup a with
          | some ⟨.type c, _, .seq its _, _⟩ => decide (c = "tuple") && decide (its.toList = [])
          | _ => false) = true := h
        split at h
        · rename_i c od its n sl hk
          obtain ⟨h1, h2⟩ := and2 h
          have h1 := of_decide_eq_true h1
          have h2 := of_decide_eq_true h2
          refine ⟨.ref a, rfl, fun Y G H hY => .tup (vs := []) (.inr ⟨_, its, n, by rw [hY]; exact hk, congrArg Value.type h1, rfl, ?_, by rw [h2]; exact .nil⟩) .nil⟩
          have := congrArg List.length h2
          simp only [Array.length_toList, List.length_nil] at this
          rw [this]; exact Nat.zero_le _
        · cases h
      | _ => cases h
    | cons => cases h
  | _ => cases h
def dflA (K : Frag) : List Value → List D → Bool
  | [], [] => true
  | u :: us, d :: ds => dfl1 K u d && dflA K us ds
  | _, _ => false
theorem dflA_ok {K : Frag} : ∀ {us : List Value} {ds : List D}, dflA K us ds = true → ∃ vs, Vals vs us ∧ ∀ Y G H, Y.K = K → RDs Y G H vs ds
  | [], [], _ => ⟨[], .nil, fun _ _ _ _ => .nil⟩
  | [], _ :: _, h => nomatch h
  | _ :: _, [], h => nomatch h
  | u :: us, d :: ds, h => by
    obtain ⟨h1, h2⟩ := and2 h
    obtain ⟨v, a, b⟩ := dfl1_ok h1
    obtain ⟨vs, a', b'⟩ := dflA_ok h2
    exact ⟨v :: vs, .cons a a', fun Y G H hY => .cons (b Y G H hY) (b' Y G H hY)⟩
/-- what stands for a def's defaults: n of them, the last ones known -/
def DflIn (K : Frag) (dV : Value) (n : Nat) (cut : List D) : Prop := match n with
  | 0 => dV = .none
  | n + 1 => ∃ (T : Addr) (o : Obj) (its : Array Value) (m : Nat), dV = .ref T ∧ K.lookup T = some o ∧ o.data = .seq its m ∧ its.toList.length = n + 1 ∧ ∃ dvs, Vals dvs (its.toList.drop (n + 1 - cut.length)) ∧ ∀ Y G H, Y.K = K → RDs Y G H dvs cut
def dflB (K : Frag) (dV : Value) (n : Nat) (cut : List D) : Bool := match n with
  | 0 => (match dV with
    | .none => true
    | _ => false)
  | n + 1 => (match dV with
    | .ref T => (match K.lookup T with
      | some ⟨_, _, .seq its _, _⟩ => decide (its.toList.length = n + 1) && dflA K (its.toList.drop (n + 1 - cut.length)) cut
      | _ => false)
    | _ => false)
theorem dflB_ok {K : Frag} {dV : Value} {n : Nat} {cut : List D} (h : dflB K dV n cut = true) : DflIn K dV n cut := by
  cases n with
  | zero =>
    cases dV with
    | none => rfl
    | _ => cases h
  | succ n =>
    cases dV with
    | ref T =>
      have h : (match K.lookup T with
        | some ⟨_, _, .seq its _, _⟩ => decide (its.toList.length = n + 1) && dflA K (its.toList.drop (n + 1 - cut.length)) cut
        | _ => false) = true := h
      split at h
      · rename_i oc od its m sl hk
        obtain ⟨h1, h2⟩ := and2 h
        exact ⟨T, _, its, m, rfl, hk, rfl, of_decide_eq_true h1, dflA_ok h2⟩
      · cases h
    | _ => cases h

/-! ### defs -/
/-- a def of the module, a method, an __init__; a def, a class called with fewer arguments -/
inductive Kd where
  | fn | mth (c m : Str) | ini (c : Str) | hof | fnc (f : Str) | inc (c : Str)
structure DefI where
  name : Str
  N : List Str
  ps : List Str
  args : Arguments
  body : List Stmt
  sc : Scope
  own : List Nat
  b : Ss
  kd : Kd := .fn
  pn : Str := name
  q : Str := name
  lam : Bool := false
  ins : List Nat := []
  dfl : Nat := 0
  cut : List D := []
def DefI.at_ (d : DefI) : Str × Option Str := match d.kd with
  | .fn => (d.name, none)
  | .mth c m => (c, some m)
  | .ini c => (c, some "__init__")
  | .hof => (d.name, none)
  | .fnc f => (f, none)
  | .inc c => (c, some "__init__")
/-- the slot of the parameter that a lambda is handed to -/
def DefI.thk (d : DefI) : Option Nat := match d.kd with
  | .hof => some 0
  | _ => none
/-- how it binds -/
def BdOk (d : DefI) : Prop := match d.dfl with
  | 0 => d.cut = [] ∧ ∀ (kV doc pm : Value) (an : Option Addr) (cdv ct : Value) (us : List Value), us.length = d.ps.length → bindArgs (fnOf d.pn d.q d.args d.body d.sc .none kV doc pm an cdv ct) ⟨us, []⟩ = pure (d.ps.zip us)
  | n + 1 => d.cut.length ≤ n + 1 ∧ ∀ (T : Addr) (kV doc pm : Value) (an : Option Addr) (cdv ct : Value) (us its : List Value), us.length + d.cut.length = d.ps.length → its.length = n + 1 →
    ∃ k, bindArgs (fnOf d.pn d.q d.args d.body d.sc (.ref T) kV doc pm an cdv ct) ⟨us, []⟩ = seqItems? (.ref T) >>= k ∧ k (some its.toArray) = pure (d.ps.zip (us ++ its.drop (n + 1 - d.cut.length)))
/-- what is told of its text -/
structure DefT (d : DefI) : Prop where
  sc : FnScope d.N d.ps d.sc
  bd : BdOk d
theorem bd_none {d : DefI} (h0 : d.dfl = 0) (h1 : d.cut = []) (h : ∀ (kV doc pm : Value) (an : Option Addr) (cdv ct : Value) (us : List Value), us.length = d.ps.length → bindArgs (fnOf d.pn d.q d.args d.body d.sc .none kV doc pm an cdv ct) ⟨us, []⟩ = pure (d.ps.zip us)) : BdOk d := by
  unfold BdOk
  rw [h0]
  exact ⟨h1, h⟩
theorem bd_some {d : DefI} {n : Nat} (h0 : d.dfl = n + 1) (h1 : d.cut.length ≤ n + 1) (h : ∀ (T : Addr) (kV doc pm : Value) (an : Option Addr) (cdv ct : Value) (us its : List Value), us.length + d.cut.length = d.ps.length → its.length = n + 1 →
    ∃ k, bindArgs (fnOf d.pn d.q d.args d.body d.sc (.ref T) kV doc pm an cdv ct) ⟨us, []⟩ = seqItems? (.ref T) >>= k ∧ k (some its.toArray) = pure (d.ps.zip (us ++ its.drop (n + 1 - d.cut.length)))) : BdOk d := by
  unfold BdOk
  rw [h0]
  exact ⟨h1, h⟩
/-- what is told of its object -/
def DefAt (K : Frag) (d : DefI) : Prop := ∃ oc od osl dV kV doc pm an cdv ct, K.lookup (He.fAd K d.at_) = some ⟨oc, od, .func (fnOf d.pn d.q d.args d.body d.sc dV kV doc pm an cdv ct), osl⟩ ∧ codeIn K cdv d.q = true ∧ DflIn K dV d.dfl d.cut
theorem looks_its {α : Type} {K : Frag} {M : Model} {h : Heap} {T : Addr} {o : Obj} {its : Array Value} {n : Nat} {k : Option (Array Value) → Sem α} {r : α} (X : K.In h) (lT : K.lookup T = some o) (oT : o.data = .seq its n)
    (e : Looks M h (k (some its)) r) : Looks M h (seqItems? (.ref T) >>= k) r := fun A Q E s kp q => wpAny_bind (wpAny_seqItems (kp _ _ (X _ _ lT)) oT (e A Q E s kp q))
theorem def_binds {K : Frag} {d : DefI} (t : DefT d) {dV kV doc pm cdv ct : Value} {an : Option Addr} (a : DflIn K dV d.dfl d.cut) : ∃ dvs ds, Vals dvs ds ∧ (∀ Y G H, Y.K = K → RDs Y G H dvs d.cut) ∧ Binds K (fnOf d.pn d.q d.args d.body d.sc dV kV doc pm an cdv ct) d.ps ds := by
  have b := t.bd
  unfold BdOk at b
  unfold DflIn at a
  split at b
  · rename_i h0
    rw [h0] at a
    have a : dV = .none := a
    subst a
    refine ⟨[], [], .nil, fun _ _ _ _ => ?_, Binds.all (b.2 _ _ _ _ _ _)⟩
    rw [b.1]; exact .nil
  · rename_i n h0
    rw [h0] at a
    obtain ⟨T, o, its, m, rfl, hk, hs, hl, dvs, rv, rd⟩ := a
    refine ⟨dvs, _, rv, rd, fun s us X hlen => ?_⟩
    have hz : us.length + d.cut.length = d.ps.length := by
      rw [List.length_append, List.length_drop, hl] at hlen
      have := b.1
      omega
    obtain ⟨k, e1, e2⟩ := b.2 T kV doc pm an cdv ct us its.toList hz hl
    intro M A Q E q
    rw [e1]
    exact (looks_its X hk hs (PySem.W.Looks.of_pure (show k (some its) = _ by rw [show its = its.toList.toArray from (Array.toArray_toList).symm]; exact e2))).here q
def DefI.fnD (d : DefI) : He.FnD := ⟨d.at_, d.pn, d.q, d.args, d.body, d.sc⟩
def DefI.gv (d : DefI) : Option Gv := match d.kd with
  | .fn => some (.fn d.ps.length)
  | .mth c m => match d.ps with
    | [] => none
    | _ :: r => some (.mth c m (r.length - d.cut.length))
  | .ini c => match d.ps with
    | [] => none
    | _ :: r => some (.cfn c r.length)
  | .hof => match d.ps with
    | [_] => some .hof
    | _ => none
  | .fnc f => some (.dfl f (d.ps.length - d.cut.length))
  | .inc c => match d.ps with
    | [] => none
    | _ :: r => some (.dfl c (r.length - d.cut.length))
def DefI.ok (d : DefI) : Bool := match d.kd with
  | .fn => d.cut.isEmpty
  | .mth _ _ => decide (d.cut.length + 1 ≤ d.ps.length)
  | .ini c => d.name == c && (!d.lam && d.cut.isEmpty)
  | .hof => !d.lam && d.cut.isEmpty
  | .fnc _ => decide (d.cut.length ≤ d.ps.length)
  | .inc _ => !d.lam && decide (d.cut.length + 1 ≤ d.ps.length)
/-- one's body is compiled -/
structure DefC (kin : Kin) (gt : Gt) (r : Cfg → Cp) (n : Nat) (d : DefI) : Prop where
  t : DefT d
  cp : cpSs kin gt r n (fnCfg d.N d.sc d.own d.lam d.thk d.ins) d.body = some d.b
  gt : gt.lookup d.name = d.gv
  gs : d.gv.isSome = true
  ok : d.ok = true
/-- the last arguments by their defaults -/
def cutR (l : List D) (m : List D → M D) : List D → M D := match l with
  | [] => m
  | l => fun xs => m (xs ++ l)
theorem cutR_eq {l : List D} {m : List D → M D} : cutR l m = fun xs => m (xs ++ l) := by
  cases l with
  | nil => funext xs; rw [List.append_nil]; rfl
  | cons => rfl
def DefI.run (kin : Kin) (C : Orc) (d : DefI) : List D → M D := match d.kd with
  | .ini c => runI kin C c (d.N.length - d.ps.length) d.b
  | .inc c => cutR d.cut (runI kin C c (d.N.length - d.ps.length) d.b)
  | .mth _ _ => cutR d.cut (runF kin C (d.N.length - d.ps.length) d.b)
  | .fnc _ => cutR d.cut (runF kin C (d.N.length - d.ps.length) d.b)
  | _ => runF kin C (d.N.length - d.ps.length) d.b
def DefI.put (kin : Kin) (C : Orc) (d : DefI) : Orc := match d.kd with
  | .hof => updH C d.name (runT kin C (d.N.length - 1) d.b)
  | _ => updO C d.name (d.run kin C)
def orcs (kin : Kin) (C : Orc) : List DefI → Orc
  | [] => C
  | d :: ds => orcs kin (d.put kin C) ds
/-- what stands around all defs -/
structure Arnd (kin : Kin) (gt : Gt) (Y : Tx) (U : Wd) : Prop where
  hY : Y.cur = none
  hth : Y.thk = none
  kok : KinOk kin Y
  sys : ∃ o, U.base.get? sysModules = some o
  ms : ∀ k C, Sms kin gt Y k C U
/-- where a def's object stands -/
def DefMg (Y : Tx) (U : Wd) (d : DefI) : Prop := match d.kd with
  | .fn => U.mg d.name = some (.ref (He.fAd Y.K d.at_))
  | .mth c m => ∀ Ca f, Y.cls c = some Ca → Meth Y.K Ca m f → f = He.fAd Y.K d.at_
  | .ini c => ∃ Ca, Y.cls c = some Ca ∧ U.mg c = some (.ref Ca) ∧ Mk Y.K Ca (He.fAd Y.K d.at_)
  | .hof => U.mg d.name = some (.ref (He.fAd Y.K d.at_))
  | .fnc f => U.mg f = some (.ref (He.fAd Y.K d.at_))
  | .inc c => ∃ Ca, Y.cls c = some Ca ∧ U.mg c = some (.ref Ca) ∧ Mk Y.K Ca (He.fAd Y.K d.at_)
/-- a def's lambdas: its table -/
def DefLm (Y : Tx) (U : Wd) (d : DefI) : Prop := d.lam = true → (∀ p ∈ Y.tabs, ∀ q ∈ Y.tabs, p.1 = q.1 → p = q) ∧ ∀ oc od osl dV kV doc pm an cdv ct, Y.K.lookup (He.fAd Y.K d.at_) = some ⟨oc, od, .func (fnOf d.pn d.q d.args d.body d.sc dV kV doc pm an cdv ct), osl⟩ → ∃ c P, LamX.TabB U.base U.mg c P ∧ cdv = .ref c ∧ (P, d.q ++ ".<locals>." ++ "<lambda>") ∈ Y.tabs
section
variable {kin : Kin} {gt : Gt} {Y : Tx} {U : Wd} {r : Cfg → Cp} {n k : Nat} {C : Orc}
theorem gt_def1 (sn : Snd kin gt r) (A : Arnd kin gt Y U) {d : DefI} (c : DefC kin gt r n d) (at_ : DefAt Y.K d) (hm : DefMg Y U d) (hlm : DefLm Y U d) (g : GtOk false gt Y k C U.P U.w Y.K U.mg U.base) (h : HofOk gt Y k C U.P U.w Y.K U.mg U.base) :
    GtOk false gt Y (k + 4) (d.put kin C) U.P U.w Y.K U.mg U.base ∧ HofOk gt Y (k + 4) (d.put kin C) U.P U.w Y.K U.mg U.base := by
  obtain ⟨oc, od, osl, dV, kV, doc, pm, an, cdv, ct, lk, hcd, hdf⟩ := at_
  obtain ⟨dvs, us0, rv, rd, hb⟩ := def_binds (kV := kV) (doc := doc) (pm := pm) (an := an) (cdv := cdv) (ct := ct) c.t hdf
  have rd : ∀ G H, RDs Y G H dvs d.cut := fun G H => rd Y G H rfl
  obtain ⟨name, N, ps, args, body, sc, own, b, kd, pn, q, lam, ins, dfl, cut⟩ := d
  have cg := c.gt
  have cs := c.gs
  have ck := c.ok
  unfold DefI.gv at cg cs
  unfold DefI.ok at ck
  unfold DefMg at hm
  have hl : lam = true → LamW gt Y k C U cdv q := fun z => by
    obtain ⟨one, tb⟩ := hlm z
    exact ⟨tb _ _ _ _ _ _ _ _ _ _ lk, one, h⟩
  have lc : dvs.length = cut.length := (rd ⟨fun _ => False, fun _ => False, none⟩ (fun _ => none)).length
  have nocut : cut.isEmpty = true → Binds Y.K (fnOf pn q args body sc dV kV doc pm an cdv ct) ps [] := fun z => by
    have z : cut = [] := by simpa using z
    subst z
    have : dvs = [] := List.eq_nil_of_length_eq_zero lc
    subst this
    cases rv
    exact hb
  cases kd with
  | fn =>
    refine ⟨gt_upd (k := k + 3) (GtOk.monoN g 3) cg fun f hf => ?_, h.mono (by omega)⟩
    dsimp only at hm
    rw [hf] at hm
    cases hm
    exact fn_ok (V := U) sn lk hcd c.t.sc (nocut ck) A.hY A.hth hl A.kok A.sys g (A.ms k C) c.cp
  | fnc fn =>
    have ck : cut.length ≤ ps.length := of_decide_eq_true ck
    refine ⟨gt_updD (k := k + 3) (GtOk.monoN g 3) cg fun f hf => ?_, h.mono (by omega)⟩
    dsimp only at hm
    rw [hf] at hm
    cases hm
    show FnG _ _ _ _ _ _ _ _ (spG _ _ (cutR cut _))
    rw [cutR_eq]
    exact fn_okD (V := U) sn lk hcd c.t.sc hb rv rd (by dsimp only; omega) A.hY A.hth hl A.kok A.sys g (A.ms k C) c.cp
  | mth cl m =>
    cases ps with
    | nil => cases cs
    | cons p0 ps =>
      have ck : cut.length + 1 ≤ (p0 :: ps).length := of_decide_eq_true ck
      rw [List.length_cons] at ck
      refine ⟨gt_updM (k := k + 3) (GtOk.monoN g 3) cg fun Ca f hc hM => ?_, h.mono (by omega)⟩
      cases hm Ca f hc hM
      show FnG _ _ _ _ _ _ _ _ (spG _ _ (cutR cut _))
      rw [cutR_eq]
      exact fn_okD (V := U) sn lk hcd c.t.sc hb rv rd (by dsimp only [List.length_cons]; omega) A.hY A.hth hl A.kok A.sys g (A.ms k C) c.cp
  | ini cl =>
    cases ps with
    | nil => cases cs
    | cons p0 ps =>
      obtain ⟨Ca, h1, h2, h3⟩ := hm
      obtain ⟨ck, cl0⟩ := and2 ck
      obtain ⟨cl0, cl1⟩ := and2 cl0
      have ck : name = cl := beq_iff_eq.mp ck
      have el : lam = false := by simpa using cl0
      subst ck
      subst el
      refine ⟨gt_updC (k := k + 3) (GtOk.monoN g 3) cg fun f hf => ?_, h.mono (by omega)⟩
      rw [hf] at h2
      cases h2
      exact (cls_ok h3 (ini_ok (V := U) sn lk hcd c.t.sc (nocut cl1) h1 A.hY A.hth A.kok A.sys g (A.ms k C) c.cp)).mono (by omega)
  | inc cl =>
    cases ps with
    | nil => cases cs
    | cons p0 ps =>
      obtain ⟨Ca, h1, h2, h3⟩ := hm
      obtain ⟨cl0, cl1⟩ := and2 ck
      have cl1 : cut.length + 1 ≤ (p0 :: ps).length := of_decide_eq_true cl1
      rw [List.length_cons] at cl1
      have el : lam = false := by simpa using cl0
      subst el
      refine ⟨gt_updD (k := k + 3) (GtOk.monoN g 3) cg fun f hf => ?_, h.mono (by omega)⟩
      rw [hf] at h2
      cases h2
      show FnG _ _ _ _ _ _ _ _ (spG _ _ (cutR cut _))
      rw [cutR_eq]
      exact (cls_ok h3 (ini_okD (V := U) sn lk hcd c.t.sc hb rv rd (by dsimp only; omega) h1 A.hY A.hth A.kok A.sys g (A.ms k C) c.cp)).mono (by omega)
  | hof =>
    match ps, cs with
    | [a0], _ =>
      obtain ⟨ck, ck1⟩ := and2 ck
      have el : lam = false := by simpa using ck
      subst el
      refine ⟨GtOk.monoN (show GtOk false gt Y k (updH C name _) U.P U.w Y.K U.mg U.base from g) 4, hof_upd h fun f hf => ?_⟩
      dsimp only at hm
      rw [hf] at hm
      cases hm
      exact hof_ok (V := U) sn lk hcd c.t.sc (nocut ck1) A.hY A.kok A.sys g (A.ms k C) c.cp
theorem gt_defs (sn : Snd kin gt r) (A : Arnd kin gt Y U) : ∀ {ds : List DefI} {k : Nat} {C : Orc}, (∀ d ∈ ds, DefC kin gt r n d ∧ DefAt Y.K d ∧ DefMg Y U d ∧ DefLm Y U d) → GtOk false gt Y k C U.P U.w Y.K U.mg U.base → HofOk gt Y k C U.P U.w Y.K U.mg U.base →
    GtOk false gt Y (k + 4 * ds.length) (orcs kin C ds) U.P U.w Y.K U.mg U.base
  | [], k, C, _, g, _ => g
  | d :: ds, k, C, h, g, g' => by
    obtain ⟨c, at_, hm, hl⟩ := h d List.mem_cons_self
    obtain ⟨q1, q2⟩ := gt_def1 sn A c at_ hm hl g g'
    have := gt_defs sn A (ds := ds) (fun d' hd => h d' (List.mem_cons_of_mem _ hd)) q1 q2
    rw [List.length_cons, show k + 4 * (ds.length + 1) = k + 4 + 4 * ds.length by omega]
    exact this
end
/-- own exceptions made as values: by the class's name, with its keyword -/
def xorcs (kin : Kin) : List (Str × Str) → Orc → Orc
  | [], C => C
  | (x, c) :: cs, C => xorcs kin cs (match kin.ini c with
    | some f => updO C x (mkX c f)
    | none => C)
def XsOk (kin : Kin) (gt : Gt) (p : Str × Str) : Prop := gt.lookup p.1 = some (.xcl p.2) ∨ ∃ f, kin.ini p.2 = some f ∧ gt.lookup p.1 = some (.xkw p.2 f)
theorem gt_xorcs {kin : Kin} {gt : Gt} {Y : Tx} {U : Wd} (fI : Str → Addr) (hs : U.mg "super" = none) (h : ∀ c f Ca, kin.ini c = some f → Y.cls c = some Ca → XinF U.P Y.K Ca f (fI c)) : ∀ {cs : List (Str × Str)} {k : Nat} {C : Orc}, (∀ p ∈ cs, XsOk kin gt p) → GtOk false gt Y k C U.P U.w Y.K U.mg U.base →
    GtOk false gt Y (k + cs.length) (xorcs kin cs C) U.P U.w Y.K U.mg U.base
  | [], k, C, _, g => g
  | (x, c) :: cs, k, C, hc, g => by
    have q : GtOk false gt Y (k + 1) (match kin.ini c with
    | some f => updO C x (mkX c f)
    | none => C) U.P U.w Y.K U.mg U.base := by
      cases e : kin.ini c with
      | none => exact GtOk.mono g
      | some f =>
        rcases hc _ List.mem_cons_self with q | ⟨f', q1, q2⟩
        · exact gt_updX g q fun Ca h1 h2 => xmk_G (xmk_fn (h _ f Ca e h2) hs) h2
        · have q1 : kin.ini c = some f' := q1
          rw [e] at q1
          cases q1
          exact gt_updK g q2 fun Ca h2 => xmk_K (xmk_fnK (h _ f Ca e h2) hs) h2
    have := gt_xorcs fI hs h (cs := cs) (fun c' hd => hc c' (List.mem_cons_of_mem _ hd)) q
    rw [List.length_cons, show k + (cs.length + 1) = k + 1 + cs.length by omega]
    exact this
theorem xorcs_hof {kin : Kin} : ∀ {cs : List (Str × Str)} {C : Orc}, (xorcs kin cs C).hof = C.hof
  | [], C => rfl
  | (x, c) :: cs, C => by
    unfold xorcs
    rw [xorcs_hof]
    cases kin.ini c <;> rfl
/-- exceptions are made by their texts -/
theorem sms_of {kin : Kin} {gt : Gt} {K : Frag} {cs : List Str} {U : Wd} (fI : Str → Addr) (hs : U.mg "super" = none) (h : ∀ c f, c ∈ cs → kin.ini c = some f → XinF U.P K (He.ga K c) f (fI c)) (k : Nat) (C : Orc) {tabs : List (Addr × Str)} : Sms kin gt { txOf K cs with tabs := tabs } k C U := by
  intro g X W so av hh x c f Ca e te p p2 hg hf hc hgl hm hn hst he
  obtain ⟨a1, a2, a3, a4⟩ := av
  obtain ⟨hcs, rfl⟩ := tx_cls hc
  have F := h c f hcs hf
  have hK : X.K = K := so.o.ox.hK
  refine mkx_ok (X := X) (fI := fI c) (by rw [a1, hK]; exact F) (so.o.ox.room hh) (by rw [a3]; exact hs) hgl hm ?_ hst he
  exact (okName_ok hn).1
end RM
end
section
set_option Elab.async false
set_option linter.all false
set_option maxRecDepth 100000
set_option autoImplicit false
/-! the head's Hook, the law's end -/
namespace RM
open PySem PySem.Spec PyProof.Rows L2 PySem.W

/-! ### the Hook -/
/-- what an object names, a def's cells too -/
def refsM (o : Obj) : List Addr := He.refsO o ++ match o.data with
  | .func fd => fd.closure.map (·.2)
  | _ => []
def asM (g : Addr → Option Obj) : Nat → List Addr
  | 0 => [mainGlobals, sysModules, cStatics]
  | n + 1 => (asM g n ++ (asM g n).flatMap fun a => match g a with
    | some o => refsM o
    | none => []).eraseDups
/-- a def's object, but for its defaults -/
abbrev FnO : Type := Option (Str × Str × Arguments × FuncBody × Scope × Addr × List (Str × Addr) × Addr)
def fnO (K : Frag) (p : Str × Option Str) : FnO := match K.lookup (He.fAd K p) with
  | some ⟨_, _, .func fd, _⟩ => some (fd.name, fd.qualname, fd.params, fd.body, fd.scope, fd.globals, fd.closure, fd.builtins)
  | _ => none
def fnB (K : Frag) (d : DefI) : Bool := match K.lookup (He.fAd K d.at_) with
  | some ⟨_, _, .func fd, _⟩ => codeIn K fd.code d.q && dflB K fd.defaults d.dfl d.cut
  | _ => false
def DefI.fval (d : DefI) : FnO := some (d.pn, d.q, d.args, .stmts d.body, d.sc, mainGlobals, [], builtinsNs)
abbrev AlM : Type := Bool × List FnO
def obsK (chk : Frag → Bool) (fn : List DefI) (K : Frag) : AlM := (chk K && fn.all (fnB K), fn.map fun d => fnO K d.at_)
/-! ### tables of code objects -/
def noTab (g : Addr → Option Obj) (a : Addr) : Bool := match g a with
  | some ⟨.none, _, .fields _, _⟩ => false
  | _ => true
/-- an empty table -/
def isTab0 : Option Obj → Bool
  | some ⟨.none, none, .fields vs, sl⟩ => vs.isEmpty && sl.isEmpty
  | _ => false
theorem isTab0_ok {o : Option Obj} (h : isTab0 o = true) : o = some { cls := .none, data := .fields #[] } := by
  unfold isTab0 at h
  split at h
  · obtain ⟨h1, h2⟩ := and2 h
    rw [Array.isEmpty_iff.mp h1, Array.isEmpty_iff.mp h2]
  · cases h
/-- the table of the code object at c -/
def codeTb (K : Frag) (c : Addr) : Option Addr := match K.lookup c with
  | some ⟨.type "code", _, .fields vs, _⟩ => match (vs[11]? : Option Value) with
    | some (.ref P) => (match vs.getD 18 .none, vs.getD 7 .none, vs.getD 9 .none, vs.getD 10 .none with
      | .str _ _, .int _ _, .bool _, .int _ _ => if c = P then none else some P
      | _, _, _, _ => none)
    | _ => none
  | _ => none
theorem codeTb_ok {K : Frag} {h : Heap} (X : K.In h) {c P : Addr} (e : codeTb K c = some P) : CodeHd h c P := by
  unfold codeTb at e
  split at e
  · rename_i od vs sl hk
    split at e
    · rename_i P' h11
      split at e
      · rename_i f tf fl tg inF tx tt h18 h7 h9 h10
        split at e
        · cases e
        · rename_i ne
          cases e
          refine ⟨_, vs, f, tf, fl, tg, inF, tx, tt, X _ _ hk, rfl, rfl, h11, ?_, h18, h7, h9, h10, ne⟩
          rw [Array.getD_eq_getD_getElem?, h11]; rfl
      · cases e
    · cases e
  · cases e
def codeOf (K : Frag) (d : DefI) : Option (Addr × Addr) := match K.lookup (He.fAd K d.at_) with
  | some ⟨_, _, .func fd, _⟩ => (match fd.code with
    | .ref c => (codeTb K c).map fun P => (c, P)
    | _ => none)
  | _ => none
def csOf (K : Frag) (ds : List DefI) : List (Addr × Addr) := ds.filterMap fun d => if d.lam then codeOf K d else none
def tabsOf (K : Frag) (ds : List DefI) : List (Addr × Str) := ds.filterMap fun d => if d.lam then (codeOf K d).map fun z => (z.2, d.q ++ ".<locals>." ++ "<lambda>") else none
def oneB : List (Addr × Str) → Bool
  | [] => true
  | p :: r => r.all (fun q => !(q.1 == p.1)) && oneB r
theorem oneB_ok : ∀ {l : List (Addr × Str)}, oneB l = true → ∀ p ∈ l, ∀ q ∈ l, p.1 = q.1 → p = q
  | [], _, p, hp, _, _, _ => nomatch hp
  | x :: r, h, p, hp, q, hq, e => by
    obtain ⟨h1, h2⟩ := and2 h
    have far : ∀ y ∈ r, y.1 ≠ x.1 := fun y hy z => by
      have := List.all_eq_true.mp h1 y hy
      simp [z] at this
    rcases List.mem_cons.mp hp with e1 | hp1 <;> rcases List.mem_cons.mp hq with e2 | hq1
    · rw [e1, e2]
    · exact absurd (by rw [← e, e1]) (far q hq1)
    · exact absurd (by rw [e, e2]) (far p hp1)
    · exact oneB_ok h2 p hp1 q hq1 e
def tabB (ds : List DefI) (K : Frag) (g : Addr → Option Obj) : Bool := (ds.all fun d => !d.lam || (match codeOf K d with
  | some z => isTab0 (g z.2) && (K.lookup z.2).isNone
  | none => false)) && oneB (tabsOf K ds)
def obsM (n : Nat) (chk : Frag → Bool) (ds : List DefI) (fn : List DefI) (g : Addr → Option Obj) : Bool × AlM :=
  let K := He.frG g ((asM g n).filter (noTab g))
  (tabB ds K g, obsK chk fn K)
def valM (fn : List DefI) : AlM := (true, fn.map DefI.fval)
def SaysM (chk : Frag → Bool) (ds : List DefI) (fn : List DefI) (h : Heap) : Prop := ∃ K : Frag, K.In h ∧ tabB ds K h.get? = true ∧ obsK chk fn K = valM fn
theorem tabB_keeps {ds : List DefI} {K : Frag} {g g' : Addr → Option Obj} (k : ∀ b o, g b = some o → g' b = some o) (h : tabB ds K g = true) : tabB ds K g' = true := by
  unfold tabB at h ⊢
  obtain ⟨h1, h2⟩ := and2 h
  rw [h2, Bool.and_true, List.all_eq_true]
  intro d hd
  have q := List.all_eq_true.mp h1 d hd
  cases hl : d.lam with
  | false => rfl
  | true =>
    rw [hl] at q
    cases hc : codeOf K d with
    | none => rw [hc] at q; cases q
    | some z =>
      rw [hc] at q
      have q : (isTab0 (g z.2) && (K.lookup z.2).isNone) = true := q
      obtain ⟨q1, q2⟩ := and2 q
      have e := isTab0_ok q1
      show (isTab0 (g' z.2) && (K.lookup z.2).isNone) = true
      rw [q2, k _ _ e]
      rfl
def hookM (n : Nat) (chk : Frag → Bool) (ds : List DefI) (fn : List DefI) : Hook where
  α := Bool × AlM
  obs := fun s => obsM n chk ds fn s.heap.get?
  val := fun _ => (true, valM fn)
  says := fun _ h => SaysM chk ds fn h
  of := fun _ _ e => ⟨_, He.frG_in, congrArg Prod.fst e, congrArg Prod.snd e⟩
  keeps := fun _ _ _ ⟨K, hK, t, c⟩ k => ⟨K, Frag.In.keeps hK k, tabB_keeps k t, c⟩
def obM (n : Nat) (chk : Frag → Bool) (ds : List DefI) (fn : List DefI) (s : SharedT) : Bool × AlM := obsM n chk ds fn (HandSHeadRun.getT s)
theorem obM_eq {n : Nat} {chk : Frag → Bool} {ds : List DefI} {fn : List DefI} (s : SharedT) : obM n chk ds fn s = (hookM n chk ds fn).obs s.abs := by
  have e : HandSHeadRun.getT s = s.abs.heap.get? := funext (HandSHeadRun.getT_eq s)
  show obsM n chk ds fn _ = obsM n chk ds fn _
  rw [e]
theorem says_chk {chk : Frag → Bool} {fn : List DefI} {K : Frag} (e : obsK chk fn K = valM fn) : chk K = true := (and2 (congrArg (fun z : AlM => z.1) e)).1
theorem says_def {chk : Frag → Bool} {fn : List DefI} {K : Frag} (e : obsK chk fn K = valM fn) {d : DefI} (hd : d ∈ fn) : DefAt K d := by
  have h1 : (fn.map fun d => fnO K d.at_) = fn.map DefI.fval := congrArg (fun z : AlM => z.2) e
  have h2 := List.all_eq_true.mp (and2 (congrArg (fun z : AlM => z.1) e)).2 d hd
  have h3 : fnO K d.at_ = d.fval := by
    obtain ⟨i, hi, rfl⟩ := List.mem_iff_getElem.mp hd
    have h3 := congrArg (fun l => l[i]?) h1
    simpa [hi] using h3
  unfold fnB at h2
  unfold fnO at h3
  split at h2
  · rename_i oc od fd sl hk
    rw [hk] at h3
    obtain ⟨n1, n2, n3, n4, n5, n6, n7, n8, n9, n10, n11, n12, n13, n14, n15⟩ := fd
    have e2 : (some (n1, n2, n3, n4, n5, n6, n7, n15) : FnO) = some (d.pn, d.q, d.args, .stmts d.body, d.sc, mainGlobals, [], builtinsNs) := h3
    simp only [Option.some.injEq, Prod.mk.injEq] at e2
    obtain ⟨g1, g2, g3, g4, g5, g6, g7, g8⟩ := e2
    subst g1 g2 g3 g4 g5 g6 g7 g8
    obtain ⟨q1, q2⟩ := and2 h2
    exact ⟨oc, od, sl, n8, n9, n10, n11, n12, n13, n14, hk, q1, dflB_ok q2⟩
  · cases h2

/-! ### a law's text -/
structure LawI where
  kin : Kin
  gt : Gt
  cs : List Str
  dB : DefI
  dN : DefI
  ds : List DefI
  xs : List (Str × Str) := []
def LawI.fns (L : LawI) : List DefI := L.dB :: L.dN :: L.ds
/-- where a def's object stands, by a test -/
def dmB (cs : List Str) (K : Frag) (d : DefI) : Bool := match d.kd with
  | .fn => (He.Fa.glo d.name).ok K
  | .mth _ _ => true
  | .hof => (He.Fa.glo d.name).ok K
  | .ini c => cs.contains c && ((He.Fa.glo c).ok K && (He.Fa.mkr c).ok K)
  | .fnc f => (He.Fa.glo f).ok K
  | .inc c => cs.contains c && ((He.Fa.glo c).ok K && (He.Fa.mkr c).ok K)
theorem dmB_ok {P : Program} {w : World} {K : Frag} {mg : Str → Option Value} {h base : Heap} {cs : List Str} (X : K.In h) (G : h.Ns mainGlobals mg) {d : DefI} (c : dmB cs K d = true) : DefMg (txOf K cs) ⟨P, w, mg, base⟩ d := by
  unfold dmB at c
  unfold DefMg DefI.at_
  split at c <;> rename_i hk <;> (try rw [hk])
  · exact He.glo_ok X G c
  · rename_i cc m
    intro Ca f hc hM
    obtain ⟨_, rfl⟩ := tx_cls hc
    show f = He.ma K (He.ga K cc) m
    unfold He.ma
    rw [show PySem.W.findIn K (.ref (He.ga K cc)) m = some (some (.ref f)) from hM.at_]
  · exact He.glo_ok X G c
  · obtain ⟨q1, q2⟩ := and2 c
    obtain ⟨q2, q3⟩ := and2 q2
    exact ⟨_, if_pos q1, He.glo_ok X G q2, He.mkr_ok q3⟩
  · exact He.glo_ok X G c
  · obtain ⟨q1, q2⟩ := and2 c
    obtain ⟨q2, q3⟩ := and2 q2
    exact ⟨_, if_pos q1, He.glo_ok X G q2, He.mkr_ok q3⟩
def chkL (L : LawI) (file : Str) (K : Frag) : Bool :=
  kinB L.kin L.cs K && (gtB K L.cs L.gt && ((L.cs.all fun c => match L.kin.ini c with
    | none => true
    | some f => xinB file K (He.ga K c) (He.ma K (He.ga K c) "__init__") f) && ((He.Fa.free "super").ok K && ((K.lookup sysModules).isSome && ((L.dB :: L.dN :: L.ds).all fun d => dmB L.cs K d)))))
structure LawOk (L : LawI) (r : Cfg → Cp) (n : Nat) : Prop where
  sn : Snd L.kin L.gt r
  tB : DefT L.dB
  tN : DefT L.dN
  kB : L.dB.kd = .fn
  kN : L.dN.kd = .fn
  fB : L.dB.dfl = 0
  fN : L.dN.dfl = 0
  nB : L.dB.N.length = 2
  pB : L.dB.ps.length = 1
  nN : L.dN.N.length = 7
  pN : L.dN.ps.length = 2
  gB : L.gt.lookup L.dB.name = some (Gv.fn 1)
  gN : L.gt.lookup L.dN.name = some (Gv.fn 2)
  iB : BegunIs L.kin L.gt failO L.dB.N L.dB.sc L.dB.body
  iN : NextIs L.kin L.gt (updO failO L.dB.name orcBegun) L.dN.N L.dN.sc L.dN.body
  ds : ∀ d ∈ L.ds, DefC L.kin L.gt r n d
  law : L.gt.lookup ("law" : Str) = some (Gv.fn 1)
  xs : ∀ p ∈ L.xs, XsOk L.kin L.gt p := by intro c h; cases h
theorem bd_all {d : DefI} (h : BdOk d) (h0 : d.dfl = 0) : ∀ (kV doc pm : Value) (an : Option Addr) (cdv ct : Value) (us : List Value), us.length = d.ps.length → bindArgs (fnOf d.pn d.q d.args d.body d.sc .none kV doc pm an cdv ct) ⟨us, []⟩ = pure (d.ps.zip us) := by
  unfold BdOk at h
  rw [h0] at h
  exact h.2
def LawI.orc (L : LawI) : Orc := orcs L.kin (xorcs L.kin L.xs (updO (updO failO L.dB.name orcBegun) L.dN.name orcNext)) L.ds
/-- a law's classes and tables -/
def txL (K : Frag) (L : LawI) : Tx := { txOf K L.cs with tabs := tabsOf K L.ds }
theorem tab_lm {L : LawI} {K : Frag} {P : Program} {w : World} {mg : Str → Option Value} {base : Heap} {g : Addr → Option Obj} (tb : tabB L.ds K g = true) (TB : ∀ p ∈ csOf K L.ds, LamX.TabB base mg p.1 p.2) {d : DefI} (hd : d ∈ L.ds) : DefLm (txL K L) ⟨P, w, mg, base⟩ d := fun hl => by
  obtain ⟨h1, h2⟩ := and2 tb
  refine ⟨oneB_ok h2, fun oc od osl dV kV doc pm an cdv ct lk => ?_⟩
  have q := List.all_eq_true.mp h1 d hd
  rw [hl] at q
  cases hc : codeOf K d with
  | none => rw [hc] at q; cases q
  | some z =>
    have lk' : K.lookup (He.fAd K d.at_) = _ := lk
    have hc' := hc
    unfold codeOf at hc'
    rw [lk'] at hc'
    dsimp only at hc'
    cases cdv with
    | ref c =>
      have hc' : (codeTb K c).map (fun P => (c, P)) = some z := hc'
      rw [Option.map_eq_some_iff] at hc'
      obtain ⟨P', hP, rfl⟩ := hc'
      exact ⟨c, P', TB (c, P') (List.mem_filterMap.mpr ⟨d, hd, by rw [hl, hc]; rfl⟩), rfl, List.mem_filterMap.mpr ⟨d, hd, by rw [hl, hc]; rfl⟩⟩
    | _ => cases hc'
theorem law_fn {L : LawI} {r : Cfg → Cp} {n : Nat} (o : LawOk L r n) {P : Program} {w : World} {K : Frag} {mg : Str → Option Value} {h base : Heap} {fa : Addr} (top : (P.main.scope.names.lookup ("super" : Str)).isSome = false)
    (X : K.In h) (G : h.Ns mainGlobals mg) (Xb : K.In base) (e : obsK (chkL L P.main.file) L.fns K = valM L.fns) {g : Addr → Option Obj} (tb : tabB L.ds K g = true) (TB : ∀ p ∈ csOf K L.ds, LamX.TabB base mg p.1 p.2) (hfa : mg ("law" : Str) = some (.ref fa)) :
    FnG P w K mg base (4 + L.xs.length + 4 * L.ds.length) fa 1 (spG (txL K L) 1 (L.orc "law")) := by
  have c := says_chk e
  obtain ⟨c1, c⟩ := and2 c
  obtain ⟨c2, c⟩ := and2 c
  obtain ⟨c3, c⟩ := and2 c
  obtain ⟨c4, c⟩ := and2 c
  obtain ⟨c5, c6⟩ := and2 c
  have hs : mg "super" = none := He.free_ok X G c4
  let U : Wd := ⟨P, w, mg, base⟩
  have A : Arnd L.kin L.gt (txL K L) U := by
    refine ⟨rfl, rfl, (kinB_ok c1).tx (Y := txOf K L.cs) (Y' := txL K L) rfl rfl, ?_, fun k C => sms_of (fun c => He.ma K (He.ga K c) "__init__") hs (fun c f hc hf => ?_) k C⟩
    · obtain ⟨o, ho⟩ := Option.isSome_iff_exists.mp c5
      exact ⟨o, Xb _ _ ho⟩
    · have q := List.all_eq_true.mp c3 c hc
      rw [hf] at q
      exact xinB_ok top q
  have at_ : ∀ d ∈ L.dB :: L.dN :: L.ds, DefAt K d ∧ DefMg (txL K L) U d := fun d hd => ⟨says_def e hd, dmB_ok X G (List.all_eq_true.mp c6 d hd)⟩
  have g0 : GtOk false L.gt (txL K L) 0 failO P w K mg base := gt_start X G c2
  have mB : L.dB ∈ L.dB :: L.dN :: L.ds := List.mem_cons_self
  have mN : L.dN ∈ L.dB :: L.dN :: L.ds := List.mem_cons_of_mem _ List.mem_cons_self
  have g1 : GtOk false L.gt (txL K L) 2 (updO failO L.dB.name orcBegun) P w K mg base := by
    refine gt_upd (k := 1) (GtOk.monoN g0 1) o.gB fun f hf => ?_
    obtain ⟨⟨oc, od, osl, dV, kV, doc, pm, an, cdv, ct, lk, hcd, hdf⟩, hm⟩ := at_ _ mB
    rw [o.fB] at hdf
    have hdf : dV = .none := hdf
    subst hdf
    unfold DefMg at hm
    rw [o.kB] at hm
    have hm : mg L.dB.name = some (.ref (He.fAd K L.dB.at_)) := hm
    rw [hf] at hm
    cases hm
    exact begun_fn (U := U) (Y := txL K L) lk hcd o.tB.sc (Binds.all (bd_all o.tB.bd o.fB _ _ _ _ _ _)) A.hY A.hth A.kok A.sys g0 o.nB o.pB o.iB
  have g2 : GtOk false L.gt (txL K L) 4 (updO (updO failO L.dB.name orcBegun) L.dN.name orcNext) P w K mg base := by
    refine gt_upd (k := 3) (GtOk.monoN g1 1) o.gN fun f hf => ?_
    obtain ⟨⟨oc, od, osl, dV, kV, doc, pm, an, cdv, ct, lk, hcd, hdf⟩, hm⟩ := at_ _ mN
    rw [o.fN] at hdf
    have hdf : dV = .none := hdf
    subst hdf
    unfold DefMg at hm
    rw [o.kN] at hm
    have hm : mg L.dN.name = some (.ref (He.fAd K L.dN.at_)) := hm
    rw [hf] at hm
    cases hm
    exact next_fn (U := U) (Y := txL K L) lk hcd o.tN.sc (Binds.all (bd_all o.tN.bd o.fN _ _ _ _ _ _)) A.hY A.hth A.kok A.sys g1 (A.ms _ _) o.nN o.pN o.iN
  have h0 : HofOk L.gt (txL K L) 4 (updO (updO failO L.dB.name orcBegun) L.dN.name orcNext) P w K mg base := (hof_start X G c2).mono (by omega)
  have gx := gt_xorcs (U := U) (fun c => He.ma K (He.ga K c) "__init__") hs (fun c f Ca hf hc => by
    obtain ⟨hcs, rfl⟩ := tx_cls (K := K) (cs := L.cs) hc
    have q := List.all_eq_true.mp c3 c hcs
    rw [hf] at q
    exact xinB_ok top q) o.xs g2
  have hx : HofOk L.gt (txL K L) (4 + L.xs.length) (xorcs L.kin L.xs (updO (updO failO L.dB.name orcBegun) L.dN.name orcNext)) P w K mg base := by
    unfold HofOk
    rw [xorcs_hof]
    exact h0.mono (by omega)
  have g3 := gt_defs (U := U) o.sn A (n := n) (ds := L.ds) (fun d hd => let q := at_ d (List.mem_cons_of_mem _ (List.mem_cons_of_mem _ hd)); ⟨o.ds d hd, q.1, q.2, tab_lm tb TB hd⟩) gx hx
  obtain ⟨f, h1, _, h3⟩ := g3 "law" _ o.law rfl
  have ef : f = fa := by
    have h1' : mg "law" = some (.ref f) := h1
    rw [hfa] at h1'
    cases h1'; rfl
  subst ef
  exact h3

/-! ### the law is called -/
/-- what the law's own value must be -/
def LawV (L : LawI) : Prop := ∀ ns : List Int, scriptOk ns = true → wpM (L.orc "law" [.scr ns]) {} (fun d _ => d = .bl true) fun _ _ => False
theorem go_call {P : Program} {w : World} {K : PySem.W.Frag} {mg mb : Str → Option Value} {k : Nat} {fa a : Addr} {L : LawI} {cs : List (Addr × Addr)} {m : List D → M D} {ns : List Int} {s₁ : Shared} {H : Hp}
    (KX : K.In s₁.heap) (hns : s₁.heap.Ns mainGlobals mg) (hb : s₁.heap.Ns builtinsNs mb) (hbb : ∀ x : Str, x ≠ "__name__" → mb x = bootBuiltins x) (hlim : s₁.heap.NoLimit) (hg : s₁.gens = #[]) (hr : Room k callerA)
    (ecs : cs = csOf K L.ds) (hT : ∀ p ∈ cs, s₁.heap.get? p.2 = some { cls := .none, data := .fields #[] }) (nT : ∀ p ∈ cs, K.lookup p.2 = none) (C : ∀ p ∈ cs, PySem.W.CodeHd s₁.heap p.1 p.2)
    (hbm : ∃ (bm : Addr) (ob : Obj), mg "__builtins__" = some (.ref bm) ∧ bm ≠ builtinsNs ∧ s₁.heap.get? bm = some ob ∧ ob.cls = .type "module" ∧ ob.dict = some builtinsNs ∧ ob.data = .plain)
    (F : ∀ base : Heap, K.In base → base.Ns mainGlobals mg → (∀ p ∈ cs, LamX.TabB base mg p.1 p.2) → FnG P w K mg base k fa 1 (spG (txL K L) 1 m)) (hv : wpM (m [.scr ns]) {} (fun d _ => d = .bl true) fun _ _ => False)
    (hok : HOk P w H s₁.heap) (hH : ∀ p ∈ cs, H p.2 = some (.tbl #[])) (one : ∀ b, H b ≠ none → (b ∈ cs.map (·.2)) ∨ (b = a ∧ (∃ o xs, H b = some (.frz o (.lst xs))))) (nd : ∀ o, H a ≠ none → s₁.heap.get? a = some o → ∃ vs n, o.data = .seq vs n) (nk : H a ≠ none → K.lookup a = none) (hs : Scr K H a ns) (aT : a ∉ cs.map (·.2)) :
    codeAny (model P w) callerA (.call (.ref fa) ⟨[.ref a], []⟩) (fun r s' => r = .ok (.ret (.bool true)) ∧ OldK s₁.heap s'.heap ∧ s'.os = s₁.os ∧ AllBare s'.gens) s₁ := by
  have away : ∀ b, (H b ≠ none → False) → H b = none := fun b q => Decidable.byContradiction fun z => q z
  have isT : ∀ b : Addr, b ∈ cs.map (·.2) → s₁.heap.get? b = some { cls := .none, data := .fields #[] } := fun b hb => by
    obtain ⟨p, hp, e⟩ := List.mem_map.mp hb
    rw [← e]
    exact hT p hp
  have base_of : ∀ {b : Addr} {o : Obj}, s₁.heap.get? b = some o → (∀ vs n, o.data ≠ .seq vs n) → o.data ≠ .fields #[] → (hidT s₁.heap H).get? b = some o := fun {b o} e h1 h2 => by
    refine hidT_get e (away b fun z => ?_)
    rcases one b z with q | ⟨q, _⟩
    · rw [isT b q] at e
      cases e
      exact h2 rfl
    · subst q
      obtain ⟨vs, n, q⟩ := nd o z e
      exact h1 vs n q
  have nsk : ∀ {b : Addr} {m : Str → Option Value}, s₁.heap.Ns b m → (hidT s₁.heap H).Ns b m := by
    intro b m hm
    obtain ⟨o, es, ep, e, d, q⟩ := hm
    exact ⟨o, es, ep, base_of e (fun vs n z => by (rw [d] at z; cases z)) (fun z => by (rw [d] at z; cases z)), d, q⟩
  have kin : K.In (hidT s₁.heap H) := by
    intro b o e
    refine hidT_get (KX b o e) (away b fun z => ?_)
    rcases one b z with q | ⟨q, _⟩
    · obtain ⟨p, hp, e2⟩ := List.mem_map.mp q
      rw [← e2, nT p hp] at e
      cases e
    · subst q
      rw [nk z] at e
      cases e
  have TB : ∀ p ∈ cs, LamX.TabB (hidT s₁.heap H) mg p.1 p.2 := fun p hp => by
    have hTp := hT p hp
    refine ⟨?_, ?_, fun z => ?_⟩
    · obtain ⟨o, us, file, tf, flags, tg, inF, text, tt, e1, r1, r2, r3, r4, r5, r6, r7, r8, hne⟩ := C p hp
      refine ⟨o, us, file, tf, flags, tg, inF, text, tt, base_of e1 (fun vs n z => ?_) fun z => ?_, r1, r2, r3, r4, r5, r6, r7, r8, hne⟩
      · rw [r2] at z; cases z
      · rw [r2] at z; cases z; simp at r3
    · obtain ⟨bm, ob, b1, b2, b3, b4, b5, b6⟩ := hbm
      have nG : bm ≠ mainGlobals := fun q => by
        obtain ⟨o, es, ep, e, hd, _⟩ := hns
        rw [q, e] at b3
        cases b3
        rw [hd] at b6
        cases b6
      have nP : bm ≠ p.2 := fun q => by
        rw [q, hTp] at b3
        cases b3
        cases b6
      exact ⟨bm, ob, b1, b2, nG, nP, base_of b3 (fun vs n z => by (rw [b6] at z; cases z)) (fun z => by (rw [b6] at z; cases z)), b4, b5, b6⟩
    · obtain ⟨o, es, ep, e, hd, _⟩ := hns
      rw [z, hTp] at e
      cases e
      cases hd
  have e0 : Env0 P w K mg (hidT s₁.heap H) callerA [] s₁ H := by
    refine { frames := rfl, mod := ⟨kin, nsk hns, ⟨mb, nsk hb, hbb⟩, ?_⟩, bs := fun b o e => of_hidT e, bsz := Nat.le_of_eq (hidT_size _ _), funs := trivial, frf := fun b hb => ?_, hok := hok, bare := .of_eq hg }
    · obtain ⟨mc, h1, h2⟩ := hlim
      exact ⟨mc, nsk h1, h2⟩
    · have z : b ∈ ([] : List Addr) := hb
      cases z
  let G : Gh := ⟨fun _ => False, fun b => b ∈ cs.map (·.2), none⟩
  have hM : ∀ b, b ∈ cs.map (·.2) → H b = some (.tbl #[]) := fun b hb => by
    obtain ⟨p, hp, e⟩ := List.mem_map.mp hb
    rw [← e]
    exact hH p hp
  have tab : ∀ p ∈ (txL K L).tabs, G.Mu p.1 ∧ LamX.TabS H p.1 p.2 := fun p hp => by
    obtain ⟨d, hd, e⟩ := List.mem_filterMap.mp (show p ∈ tabsOf K L.ds from hp)
    split at e
    · rename_i hl
      rw [Option.map_eq_some_iff] at e
      obtain ⟨z, hz, rfl⟩ := e
      have hm : z ∈ cs := by
        rw [ecs]
        exact List.mem_filterMap.mpr ⟨d, hd, by rw [if_pos hl]; exact hz⟩
      exact ⟨List.mem_map_of_mem hm, LamX.TabS.nil (hH z hm)⟩
    · cases e
  have ok : GOk (txL K L) G H {} := { fzmu := fun _ z => z.elim, fzT := fun _ z => z.elim, muT := fun b z => (by rw [hM b z]; exact fun y => nomatch y), solid := fun b o h s m => (by rw [hM b m] at h; cases h; exact s), dr := fun z e => (nomatch e), dr0 := fun _ => rfl, tab := tab, ext := fun b f h m => (by rw [hM b m] at h; cases h) }
  have sp : spG (txL K L) 1 m [.ref a] H (fun v _ => v = .bl true) fun _ _ _ => False := by
    refine ⟨rfl, G, {}, [.scr ns], ok, .cons (.scr hs) .nil, wpM_mono hv (fun d S e G' H' v _ _ r => ?_) fun _ _ z => z.elim⟩
    subst e
    cases r
    rfl
  refine codeAny_mono ((F _ kin (nsk hns) TB).run callerA [] s₁ H [.ref a] [.ref a] _ _ hr rfl e0 (.cons rfl .nil) sp) fun res s' q => ?_
  match res, q with
  | .error e, q =>
    obtain ⟨_, _, _, _, _, _, _, _, _, _, _, _, z⟩ := q
    exact z.elim
  | .ok .next, q => exact q.elim
  | .ok .brk, q => exact q.elim
  | .ok .cont, q => exact q.elim
  | .ok (.ret u), q =>
    obtain ⟨v, H', os, bare, un, hok', rv, e⟩ := q
    have e : v = .bl true := e
    subst e
    have eu : u = Value.bool true := rv
    subst eu
    have key : ∀ b o, b ∉ cs.map (·.2) → s₁.heap.get? b = some o → s'.heap.get? b = some o := fun b o nb e => by
      by_cases hb : H b = none
      · refine un.keep b o e hb (fun z => ?_) (by simp)
        have z : b ∈ ([] : List Addr) := z
        cases z
      · rcases one b hb with z | ⟨_, ob, xs, z⟩
        · exact absurd z nb
        have old := (hok b _ z).1
        have new := (hok' b _ (un.frzs b ob _ z)).1
        rw [e] at old
        cases old
        exact new
    have grown : ∀ p ∈ cs, ∃ more : Array Value, s'.heap.get? p.2 = some { cls := .none, data := .fields more } := fun p hp => by
      obtain ⟨more, z⟩ := un.tbls p.2 #[] (hH p hp)
      exact ⟨_, hok' p.2 _ z⟩
    refine ⟨rfl, ⟨fun b o e => ?_, fun b o e => ?_⟩, os, bare⟩
    · by_cases hb : b ∈ cs.map (·.2)
      · obtain ⟨p, hp, ep⟩ := List.mem_map.mp hb
        obtain ⟨more, hm⟩ := grown p hp
        rw [← ep] at e ⊢
        rw [hT p hp] at e
        cases e
        exact .inr (.inl ⟨((C p hp).tab (hT p hp)).isCodeTable, rfl, #[], more, rfl, by rw [Array.empty_append]; exact hm⟩)
      · exact .inl (key b o hb e)
    · by_cases hb : b ∈ cs.map (·.2)
      · obtain ⟨p, hp, ep⟩ := List.mem_map.mp hb
        obtain ⟨more, hm⟩ := grown p hp
        rw [← ep]
        exact ⟨_, hm⟩
      · exact ⟨o, key b o hb e⟩
theorem bits_fit {n : Int} (h : Builtin.Int.intBits n ≤ 1048576) : n.natAbs < 2 ^ 1048576 := by
  unfold Builtin.Int.intBits at h
  split at h
  · rename_i e
    have e := beq_iff_eq.mp e
    subst e
    exact Nat.two_pow_pos _
  · rename_i e
    have e : n.natAbs ≠ 0 := by
      intro z
      exact e (beq_iff_eq.mpr (by omega))
    exact (Nat.log2_lt e).mp (by omega)
theorem law_end {l : OpenLaw} {L : LawI} {r : Cfg → Cp} {n m : Nat} (o : LawOk L r n) (hv : LawV L) {q : Program} {loose : List Str} {XP : (Str → Option Value) → Heap → Prop} {d : DefRec} (hm : l.most = some 63) (hdf : d.params.defaults = []) (hdn : d.name = "law")
    (top : (l.prog.main.scope.names.lookup ("super" : Str)).isSome = false) (hr : Room (4 + L.xs.length + 4 * L.ds.length) callerA) : WalkO q loose XP (hookM m (chkL L l.prog.main.file) L.ds L.fns).says l.row.toRowW d [] (fun f vs => PySem.call f vs) := by
  refine Att.attach_callB hm hdf fun w s₀ s₁ mg mb fa o' pm cd doc a vs ns G Y ho hd hcd hmg hobj hints hlen hbits hg => ?_
  obtain ⟨K, KX, tb, e⟩ := Y
  rw [hdn] at hmg
  have rv := vals_ints hints
  have lenV := hints.length
  have hz := sizeLine_eq
  have hl : ns.length ≤ sizeLine := by omega
  have sk : scriptOk ns = true := by
    unfold scriptOk
    rw [Bool.and_eq_true, List.all_eq_true]
    exact ⟨decide_eq_true hlen, fun i hi => decide_eq_true (bits_fit (hbits i hi))⟩
  have F : ∀ base : Heap, K.In base → base.Ns mainGlobals mg → (∀ p ∈ csOf K L.ds, LamX.TabB base mg p.1 p.2) → FnG l.prog w K mg base (4 + L.xs.length + 4 * L.ds.length) fa 1 (spG (txL K L) 1 (L.orc "law")) := fun base hb _ TB => law_fn o top KX G.T.g hb e tb TB hmg
  -- the tables
  have tabs : ∀ p ∈ csOf K L.ds, isTab0 (s₁.heap.get? p.2) = true ∧ K.lookup p.2 = none ∧ CodeHd s₁.heap p.1 p.2 := fun p hp => by
    obtain ⟨d', hd', e'⟩ := List.mem_filterMap.mp hp
    split at e'
    · rename_i hl'
      have q := List.all_eq_true.mp (and2 tb).1 d' hd'
      rw [hl', e'] at q
      have q : (isTab0 (s₁.heap.get? p.2) && (K.lookup p.2).isNone) = true := q
      obtain ⟨q1, q2⟩ := and2 q
      refine ⟨q1, by simpa using q2, ?_⟩
      unfold codeOf at e'
      split at e'
      · split at e'
        · rw [Option.map_eq_some_iff] at e'
          obtain ⟨P', hP, rfl⟩ := e'
          exact codeTb_ok KX hP
        · cases e'
      · cases e'
    · cases e'
  have isT : ∀ b : Addr, b ∈ (csOf K L.ds).map (·.2) → s₁.heap.get? b = some { cls := .none, data := .fields #[] } := fun b hb => by
    obtain ⟨p, hp, e⟩ := List.mem_map.mp hb
    rw [← e]
    exact isTab0_ok (tabs p hp).1
  have aT : a ∉ (csOf K L.ds).map (·.2) := fun z => by
    have q := isT a z
    rw [hobj] at q
    have z' : Data.seq vs.toArray _ = Data.fields #[] := congrArg Obj.data (Option.some.inj q)
    cases z'
  have memT : ∀ p ∈ csOf K L.ds, p.2 ∈ (csOf K L.ds).map (·.2) := fun p hp => List.mem_map_of_mem hp
  cases hk : K.lookup a with
  | some ob =>
    have e2 := KX a ob hk
    rw [hobj] at e2
    cases e2
    have ha : (if a ∈ (csOf K L.ds).map (·.2) then some (HO.tbl #[]) else none) = none := if_neg aT
    refine go_call (L := L) (H := fun b => if b ∈ (csOf K L.ds).map (·.2) then some (.tbl #[]) else none) KX G.T.g G.T.b G.T.builtins G.T.nolimit hg hr rfl (fun p hp => isTab0_ok (tabs p hp).1) (fun p hp => (tabs p hp).2.1) (fun p hp => (tabs p hp).2.2) G.T.bmain F (hv ns sk) (fun b u z => ?_) (fun p hp => if_pos (memT p hp)) (fun b z => ?_) (fun o z => absurd ha z) (fun z => absurd ha z)
      (.inr ⟨_, vs.toArray, _, hk, rfl, rfl, rfl, by rw [List.size_toArray, lenV]; exact hl, by simpa using rv⟩) aT
    · by_cases hb : b ∈ (csOf K L.ds).map (·.2)
      · have z' := (if_pos hb).symm.trans z
        cases z'
        exact isT b hb
      · have z' := (if_neg hb).symm.trans z
        cases z'
    · by_cases hb : b ∈ (csOf K L.ds).map (·.2)
      · exact .inl hb
      · exact absurd (if_neg hb) z
  | none =>
    let H : Hp := fun b => if b = a then some (.frz { cls := .type "list", data := .seq vs.toArray } (.lst (ns.map V.int))) else if b ∈ (csOf K L.ds).map (·.2) then some (.tbl #[]) else none
    have ha : H a = some (.frz { cls := .type "list", data := .seq vs.toArray } (.lst (ns.map V.int))) := if_pos rfl
    have hn : ∀ b, b ≠ a → H b = if b ∈ (csOf K L.ds).map (·.2) then some (.tbl #[]) else none := fun b hb => if_neg hb
    have nea : ∀ b, b ∈ (csOf K L.ds).map (·.2) → b ≠ a := fun b hb z => aT (z ▸ hb)
    refine go_call (L := L) (H := H) KX G.T.g G.T.b G.T.builtins G.T.nolimit hg hr rfl (fun p hp => isTab0_ok (tabs p hp).1) (fun p hp => (tabs p hp).2.1) (fun p hp => (tabs p hp).2.2) G.T.bmain F (hv ns sk) (fun b u z => ?_) (fun p hp => by rw [hn _ (nea _ (memT p hp)), if_pos (memT p hp)]) (fun b z => ?_) (fun ob _ z => ?_) (fun _ => hk) (.inl ⟨_, ha⟩) aT
    · by_cases hb : b = a
      · subst hb
        rw [ha] at z
        cases z
        exact ⟨hobj, by rw [List.length_map]; exact hl, vs, _, rv, hobj⟩
      · rw [hn b hb] at z
        by_cases hb2 : b ∈ (csOf K L.ds).map (·.2)
        · rw [if_pos hb2] at z
          cases z
          exact isT b hb2
        · rw [if_neg hb2] at z
          cases z
    · by_cases hb : b = a
      · subst hb
        exact .inr ⟨rfl, _, _, ha⟩
      · rw [hn b hb] at z
        by_cases hb2 : b ∈ (csOf K L.ds).map (·.2)
        · exact .inl hb2
        · rw [if_neg hb2] at z
          exact absurd rfl z
    · rw [hobj] at z
      cases z
      exact ⟨_, _, rfl⟩
end RM
end
section
set_option Elab.async false
set_option linter.all false
set_option maxRecDepth 100000
set_option autoImplicit false
namespace RM
theorem all_cons {α : Type} {p : α → Prop} {a : α} {l : List α} (h : p a) (t : ∀ d ∈ l, p d) : ∀ d ∈ a :: l, p d := fun d hd => (List.mem_cons.mp hd).elim (fun e => e ▸ h) (t d)
end RM
end
section
set_option Elab.async false
set_option linter.all false
set_option maxRecDepth 100000
set_option autoImplicit false
/-! values: what runs give, how many draws they take -/
namespace RM
open PySem PySem.Spec PyProof.Rows L2

/-- m, wherever draws have begun: by at most c draws a value of P, or an exception of X -/
structure Tr {α : Type} (c : Nat) (m : M α) (P : α → Prop) (X : D → Prop) : Prop where
  go : ∀ (S : Sto) (Q : α → Sto → Prop) (R : D → Sto → Prop), S.beg = true → S.n + c ≤ drawMost → (∀ a n, P a → n ≤ S.n + c → Q a { S with n := n }) → (∀ x n, X x → n ≤ S.n + c → R x { S with n := n }) → wpM m S Q R
abbrev noX : D → Prop := fun _ => False
section
variable {α β : Type} {c d : Nat} {m : M α} {f : α → M β} {P P' : α → Prop} {P2 : β → Prop} {X X' : D → Prop}
theorem Tr.pure {a : α} (h : P a) : Tr c (pure a) P X := ⟨fun S Q R _ _ q _ => q a S.n h (Nat.le_add_right _ _)⟩
theorem Tr.bind (h : Tr c m P X) (k : ∀ a, P a → Tr d (f a) P2 X) : Tr (c + d) (m >>= f) P2 X := by
  refine ⟨fun S Q R b l q r => ?_⟩
  refine wpM_bind.mpr (h.go S _ R b (by omega) (fun a n pa ln => ?_) fun x n hx ln => r x n hx (by omega))
  exact (k a pa).go { S with n := n } Q R b (by show n + d ≤ _; omega) (fun a' n' h' l' => q a' n' h' (by have : n' ≤ n + d := l'; omega)) fun x n' h' l' => r x n' h' (by have : n' ≤ n + d := l'; omega)
theorem Tr.mono (h : Tr c m P X) (hc : c ≤ d) (hp : ∀ a, P a → P' a) (hx : ∀ x, X x → X' x) : Tr d m P' X' :=
  ⟨fun S Q R b l q r => h.go S Q R b (by omega) (fun a n pa ln => q a n (hp a pa) (by omega)) fun x n px ln => r x n (hx x px) (by omega)⟩
theorem Tr.le (h : Tr c m P X) (hc : c ≤ d) : Tr d m P X := h.mono hc (fun _ h => h) fun _ h => h
theorem Tr.imp (h : Tr c m P X) (hp : ∀ a, P a → P' a) : Tr c m P' X := h.mono (Nat.le_refl _) hp fun _ h => h
theorem Tr.raise {x : D} (h : X x) : Tr c (M.raise x : M α) P X := ⟨fun S Q R _ _ _ r => r x S.n h (Nat.le_add_right _ _)⟩
theorem Tr.drawn {n : Int} (h0 : 0 < n) (h1 : n < 1073741824) : Tr 1 (orcNext [.drw, .int n]) (fun d => ∃ i : Nat, (i : Int) < n ∧ d = .int i) X := by
  refine ⟨fun S Q R b l q r => ?_⟩
  unfold orcNext wpM
  dsimp only
  rw [if_pos ⟨h0, h1⟩]
  unfold drawM
  rw [if_pos (by rw [Bool.and_eq_true, b]; exact ⟨rfl, decide_eq_true (by omega)⟩)]
  intro i hi
  exact q _ (S.n + 1) ⟨i, by omega, rfl⟩ (Nat.le_refl _)
theorem quiet_tr {β : Type} {m : M β} {P : β → Prop} (h : Tr c m P noX) : Tr c (M.quiet m) P X := by
  have key : ∀ {t : T β} {Q : β → Sto → Prop} {R : D → Sto → Prop}, t.wp Q (fun _ _ => False) → t.quiet.wp Q R := by
    intro t
    induction t with
    | ret a S => intro Q R h; exact h
    | raise x S => intro Q R h; exact h.elim
    | fail => intro Q R h; exact h.elim
    | draw n k ih => intro Q R h i hi; exact ih i (h i hi)
  refine ⟨fun S Q R b l q r => ?_⟩
  exact key (h.go S Q (fun _ _ => False) b l q fun _ _ h => h.elim)
theorem att_tr (h : Tr c m P X) {P2 : Except D α → Prop} (h1 : ∀ a, P a → P2 (.ok a)) (h2 : ∀ x, X x → P2 (.error x)) : Tr c (M.att m) P2 noX := by
  refine ⟨fun S Q R b l q r => ?_⟩
  exact wpM_att.mpr (h.go S _ _ b l (fun a n pa ln => q _ n (h1 a pa) ln) fun x n px ln => q _ n (h2 x px) ln)
end

/-! ### statements -/
section
variable {kin : Kin} {C : Orc} {c d : Nat} {ρ : Fe} {P : Out → Prop}
theorem exO_tr {α : Type} {m : M α} {k : α → M Out} {Pa : α → Prop} {X : D → Prop} (h : Tr c m Pa X) (hk : ∀ a, Pa a → Tr d (k a) P noX) (hx : ∀ x, X x → P (.exc x ρ)) : Tr (c + d) (exO m ρ k) P noX := by
  unfold exO
  refine Tr.bind (att_tr h (P2 := fun e => match e with | .ok a => Pa a | .error x => X x) (fun _ h => h) fun _ h => h) fun e he => ?_
  cases e with
  | ok a => exact hk a he
  | error x => exact Tr.pure (hx x he)
/-- one statement, then the rest -/
def thenP (kin : Kin) (C : Orc) (d : Nat) (r : Ss) (P : Out → Prop) : Out → Prop
  | .nx ρ => Tr d (evSs kin C r ρ) P noX
  | o => P o
theorem cons_tr {s : S1} {r : Ss} (h : Tr c (evS kin C s ρ) (thenP kin C d r P) noX) : Tr (c + d) (evSs kin C (.cons s r) ρ) P noX := by
  unfold evSs
  refine Tr.bind h fun o ho => ?_
  cases o with
  | nx ρ' => exact ho
  | brk ρ' => exact Tr.pure ho
  | cont ρ' => exact Tr.pure ho
  | ret d => exact Tr.pure ho
  | exc x ρ' => exact Tr.pure ho
theorem nil_tr (h : P (.nx ρ)) : Tr c (evSs kin C .nil ρ) P noX := by
  unfold evSs
  exact Tr.pure h
/-- a def's body -/
def bodyP (P : D → Prop) (X : D → Prop) : Out → Prop
  | .nx _ => P .non
  | .ret d => P d
  | .exc x _ => X x
  | _ => False
theorem run_tr {n : Nat} {b : Ss} {ds : List D} {P : D → Prop} {X : D → Prop} (h : Tr c (evSs kin C b (ds.map Slot.val ++ List.replicate n .emp)) (bodyP P X) noX) : Tr c (runF kin C n b ds) P X := by
  unfold runF
  have : Tr (c + 0) (runF kin C n b ds) P X := by
    unfold runF
    refine Tr.bind (quiet_tr h) fun o ho => ?_
    cases o with
    | nx ρ' => exact Tr.pure ho
    | brk ρ' => exact ho.elim
    | cont ρ' => exact ho.elim
    | ret d => exact Tr.pure ho
    | exc x ρ' => exact Tr.raise ho
  exact this
/-- a def's body, without draws, by its value -/
theorem run_ret {n : Nat} {b : Ss} {ds : List D} {v : D} (h : evSs kin C b (ds.map Slot.val ++ List.replicate n .emp) = pure (.ret v)) : runF kin C n b ds = pure v := by
  unfold runF
  rw [h]; rfl
theorem run_exc {n : Nat} {b : Ss} {ds : List D} {x : D} {ρ : Fe} (h : evSs kin C b (ds.map Slot.val ++ List.replicate n .emp) = pure (.exc x ρ)) : runF kin C n b ds = M.raise x := by
  unfold runF
  rw [h]; rfl
/-! ### comprehensions -/
theorem mapO_pure {f : D → M (Option D)} {g : D → Option D} : ∀ {xs : List D}, (∀ x ∈ xs, f x = pure (g x)) → mapO f xs = pure (xs.filterMap g)
  | [], _ => rfl
  | x :: xs, h => by
    unfold mapO
    rw [h x List.mem_cons_self, mapO_pure fun y hy => h y (List.mem_cons_of_mem _ hy)]
    simp only [pure_bind, List.filterMap_cons]
    cases g x <;> rfl
theorem mapL_pure {f : D → M (List D)} {g : D → List D} : ∀ {xs : List D}, (∀ x ∈ xs, f x = pure (g x)) → mapL f xs = pure (xs.flatMap g)
  | [], _ => rfl
  | x :: xs, h => by
    unfold mapL
    rw [h x List.mem_cons_self, mapL_pure fun y hy => h y (List.mem_cons_of_mem _ hy)]
    simp only [pure_bind, List.flatMap_cons]
theorem small_pure {n : Nat} (h : n ≤ sizeLine) : small n = pure () := if_pos h
theorem few_pure {n : Nat} (h : n ≤ 4000) : few n = pure () := if_pos h
theorem lc_pure {own p : List Nat} {it : I} {t : Q} {e : E} {xs : List D} (g : D → Option D) (h : evI kin C it ρ = pure xs) (hl : xs.length ≤ sizeLine) (hg : ∀ x ∈ xs, lcF kin C ρ own p t e x = pure (g x)) :
    evE kin C (.lc own p it t e) ρ = pure (.lst (xs.filterMap g)) := by
  rw [evE_lc, h]
  simp only [pure_bind]
  rw [small_pure hl, mapO_pure hg]
  rfl
/-- one turn of a comprehension without a test -/
theorem lcF_yes {own p : List Nat} {e : E} {x v : D} {ρ1 : Fe} (h1 : asgP p x (wipeE ρ own) = some ρ1) (h2 : evE kin C e ρ1 = pure v) : lcF kin C ρ own p .yes e x = pure (some v) := by
  unfold lcF
  rw [h1]
  simp [op_some, evT, h2]
theorem lcF_q {own p : List Nat} {q : Q} {e : E} {x v : D} {b : Bool} {ρ1 : Fe} (h1 : asgP p x (wipeE ρ own) = some ρ1) (h2 : evT kin C q ρ1 = pure b) (h3 : b = true → evE kin C e ρ1 = pure v) : lcF kin C ρ own p q e x = pure (if b then some v else none) := by
  unfold lcF
  rw [h1]
  simp only [op_some, pure_bind, h2]
  cases b with
  | true => simp [h3 rfl]
  | false => rfl
theorem mapO_tr {f : D → M (Option D)} {X : D → Prop} {I : Nat → List D → Prop} : ∀ {xs : List D} {i : Nat} {acc : List D}, (∀ j x acc, xs[j]? = some x → I (i + j) acc → Tr c (f x) (fun o => I (i + j + 1) (acc ++ o.toList)) X) → I i acc →
    Tr (xs.length * c) (mapO f xs) (fun rs => I (i + xs.length) (acc ++ rs)) X
  | [], i, acc, _, h => by
    unfold mapO
    exact Tr.pure (by simpa using h)
  | x :: xs, i, acc, hs, h => by
    unfold mapO
    have h0 := hs 0 x acc rfl h
    have : Tr (c + (xs.length * c + 0)) (do
        let r ← f x
        let rs ← mapO f xs
        pure (match r with | some d => d :: rs | none => rs)) (fun rs => I (i + (x :: xs).length) (acc ++ rs)) X := by
      refine Tr.bind h0 fun o ho => ?_
      refine Tr.bind (mapO_tr (i := i + 1) (acc := acc ++ o.toList) (fun j y a hy ha => ?_) ho) fun rs hrs => Tr.pure ?_
      · have := hs (j + 1) y a (by simpa using hy) (by rw [show i + (j + 1) = i + 1 + j by omega]; exact ha)
        rw [show i + (j + 1) + 1 = i + 1 + j + 1 by omega] at this
        exact this
      · rw [show i + (x :: xs).length = i + 1 + xs.length by simp; omega]
        cases o with
        | none => simpa using hrs
        | some d => simpa using hrs
    refine this.le ?_
    rw [List.length_cons, Nat.succ_mul]
    omega
/-! ### loops -/
/-- behind one turn -/
def turnP (I : Fe → Prop) (P : Out → Prop) : Out → Prop
  | .nx ρ => I ρ
  | .cont ρ => I ρ
  | .brk ρ => P (.nx ρ)
  | o => P o
theorem forM_tr {f : D → Fe → M Out} {I : Nat → Fe → Prop} : ∀ {xs : List D} {i : Nat} {ρ : Fe}, (∀ j x ρ, xs[j]? = some x → I (i + j) ρ → Tr c (f x ρ) (turnP (I (i + j + 1)) P) noX) → I i ρ → (∀ ρ, I (i + xs.length) ρ → P (.nx ρ)) → Tr (xs.length * c) (forM f xs ρ) P noX
  | [], i, ρ, _, h, e => by
    unfold forM
    exact Tr.pure (e ρ h)
  | x :: xs, i, ρ, hs, h, e => by
    unfold forM
    have : Tr (c + xs.length * c) (do
        match ← f x ρ with
        | .nx ρ1 => forM f xs ρ1
        | .cont ρ1 => forM f xs ρ1
        | .brk ρ1 => pure (.nx ρ1)
        | o => pure o) P noX := by
      refine Tr.bind (hs 0 x ρ rfl h) fun o ho => ?_
      have next : ∀ ρ1, I (i + 1) ρ1 → Tr (xs.length * c) (forM f xs ρ1) P noX := fun ρ1 h1 => forM_tr (i := i + 1) (fun j y a hy ha => by
          have := hs (j + 1) y a (by simpa using hy) (by rw [show i + (j + 1) = i + 1 + j by omega]; exact ha)
          rw [show i + (j + 1) + 1 = i + 1 + j + 1 by omega] at this
          exact this) h1 fun ρ2 h2 => e ρ2 (by rw [show i + (x :: xs).length = i + 1 + xs.length by simp; omega]; exact h2)
      cases o with
      | nx ρ1 => exact next ρ1 ho
      | cont ρ1 => exact next ρ1 ho
      | brk ρ1 => exact Tr.pure ho
      | ret d => exact Tr.pure ho
      | exc x ρ' => exact Tr.pure ho
    refine this.le ?_
    rw [List.length_cons, Nat.succ_mul]
    omega
end
end RM
end
section
set_option Elab.async false
set_option linter.all false
set_option maxRecDepth 100000
set_option autoImplicit false
/-! values: statements without draws; ints, texts -/
namespace RM
open PySem PySem.Spec PyProof.Rows L2

section
variable {kin : Kin} {C : Orc} {ρ ρ1 : Fe} {e : E} {v : D} {r x y : Ss} {q : Q} {b : Bool} {p : List Nat}
/-- what comes behind a statement -/
def goOn (kin : Kin) (C : Orc) (r : Ss) : Out → M Out
  | .nx ρ => evSs kin C r ρ
  | o => pure o
theorem evSs_cons {s : S1} : evSs kin C (.cons s r) ρ = evS kin C s ρ >>= goOn kin C r := by
  conv => lhs; unfold evSs
  first
    | rfl
    | (congr 1; funext o; cases o <;> rfl)
theorem evSs_nil : evSs kin C .nil ρ = pure (.nx ρ) := by unfold evSs; rfl
theorem ret_pure (h : evE kin C e ρ = pure v) : evSs kin C (.cons (.ret e) r) ρ = pure (.ret v) := by
  rw [evSs_cons]
  unfold evS
  rw [h]; rfl
theorem ret_raise {z : D} (h : evE kin C e ρ = M.raise z) : evSs kin C (.cons (.ret e) r) ρ = pure (.exc z ρ) := by
  rw [evSs_cons]
  unfold evS
  rw [h]; rfl
theorem asg_pure (h : evE kin C e ρ = pure v) (h2 : asgP p v ρ = some ρ1) : evSs kin C (.cons (.asg p e) r) ρ = evSs kin C r ρ1 := by
  rw [evSs_cons, evS_asg]
  dsimp only
  rw [h]
  show (M.op (asgP p v ρ) >>= fun ρ' => pure (.nx ρ')) >>= goOn kin C r = _
  rw [h2]; rfl
theorem own_pure {i : Nat} {xs : List D} (h : evE kin C e ρ = pure (.lst xs)) : evSs kin C (.cons (.own i e) r) ρ = evSs kin C r (ρ.set i (.own xs)) := by
  rw [evSs_cons, evS_own]
  dsimp only
  rw [h]; rfl
theorem iff_pure (h : evT kin C q ρ = pure b) : evSs kin C (.cons (.iff q x y) r) ρ = (if b then evSs kin C x ρ else evSs kin C y ρ) >>= goOn kin C r := by
  rw [evSs_cons]
  unfold evS
  rw [h]; rfl
theorem iff_true (h : evT kin C q ρ = pure true) : evSs kin C (.cons (.iff q x y) r) ρ = evSs kin C x ρ >>= goOn kin C r := by rw [iff_pure h]; rfl
theorem iff_false (h : evT kin C q ρ = pure false) : evSs kin C (.cons (.iff q x .nil) r) ρ = evSs kin C r ρ := by
  rw [iff_pure h]
  simp only [Bool.false_eq_true, if_false, evSs_nil]
  rfl
theorem goOn_ret {d : D} : (pure (.ret d) : M Out) >>= goOn kin C r = pure (.ret d) := rfl
theorem goOn_exc {d : D} : (pure (.exc d ρ) : M Out) >>= goOn kin C r = pure (.exc d ρ) := rfl
theorem goOn_nx : (pure (.nx ρ) : M Out) >>= goOn kin C r = evSs kin C r ρ := rfl
theorem rse_pure {c f : Str} (h : evE kin C e ρ = pure v) (hk : kin.ini c = some f) : evSs kin C (.cons (.rse c e) r) ρ = pure (.exc (.exc c [(f, v)]) ρ) := by
  rw [evSs_cons]
  unfold evS
  rw [h]
  show (match kin.ini c with
    | some f => pure (.exc (.exc c [(f, v)]) ρ)
    | none => M.fail : M Out) >>= goOn kin C r = _
  rw [hk]; rfl
end

/-! ### expressions by their parts -/
section
variable {kin : Kin} {C : Orc} {ρ : Fe} {a b c : E} {x y z v : D} {p q : Bool} {t u : Q} {o op : CmpOp}
theorem ev_c : evE kin C (.c x) ρ = pure x := by unfold evE; rfl
theorem ev_v {i : Nat} (h : ρ[i]? = some (.val x)) : evE kin C (.v i) ρ = pure x := by unfold evE; rw [h]
theorem ev_b {i : Nat} (h : ρ[i]? = some (.val x)) : evE kin C (.b i) ρ = pure x := by unfold evE; rw [h]
theorem ev_bo {i : Nat} {xs : List D} (h : ρ[i]? = some (.own xs)) : evE kin C (.b i) ρ = pure (.lst xs) := by unfold evE; rw [h]
theorem ev_and (h1 : evE kin C a ρ = pure (.bl p)) (h2 : p = true → evE kin C b ρ = pure (.bl q)) : evE kin C (.and a b) ρ = pure (.bl (p && q)) := by
  unfold evE
  rw [h1]
  cases p with
  | true => exact h2 rfl
  | false => rfl
theorem ev_or (h1 : evE kin C a ρ = pure (.bl p)) (h2 : p = false → evE kin C b ρ = pure (.bl q)) : evE kin C (.or a b) ρ = pure (.bl (p || q)) := by
  unfold evE
  rw [h1]
  cases p with
  | true => rfl
  | false => exact h2 rfl
theorem ev_not (h1 : evE kin C a ρ = pure (.bl p)) : evE kin C (.not a) ρ = pure (.bl (!p)) := by
  unfold evE
  rw [h1]; rfl
theorem ev_neg {i : Int} (h1 : evE kin C a ρ = pure (.int i)) : evE kin C (.neg a) ρ = pure (.int (-i)) := by
  unfold evE
  rw [h1]; rfl
theorem ev_cmp (h1 : evE kin C a ρ = pure x) (h2 : evE kin C b ρ = pure y) (h : cmpD op x y = some v) : evE kin C (.cmp op a b) ρ = pure v := by
  unfold evE
  rw [h1, h2]
  simp only [pure_bind, h]
  rfl
theorem ev_bin {op : Operator} (h1 : evE kin C a ρ = pure x) (h2 : evE kin C b ρ = pure y) (h : binD op x y = some v) : evE kin C (.bin op a b) ρ = pure v := by
  unfold evE
  rw [h1, h2]
  simp only [pure_bind, h]
  rfl
theorem ev_chain (h1 : evE kin C a ρ = pure x) (h2 : evE kin C b ρ = pure y) (h3 : evE kin C c ρ = pure z) (hp : cmpD o x y = some (.bl p)) (hq : cmpD op y z = some (.bl q)) : evE kin C (.chain o op a b c) ρ = pure (.bl (p && q)) := by
  unfold evE
  rw [h1, h2, h3]
  simp only [pure_bind, hp, op_some]
  cases p with
  | true => simp only [pure_bind, hq, Bool.true_and]; rfl
  | false => rfl
theorem ev_ife (h : evT kin C t ρ = pure p) (h1 : p = true → evE kin C a ρ = pure v) (h2 : p = false → evE kin C b ρ = pure v) : evE kin C (.ife t a b) ρ = pure v := by
  unfold evE
  rw [h]
  cases p with
  | true => exact h1 rfl
  | false => exact h2 rfl
theorem ev_es0 : evEs kin C .nil ρ = pure [] := by unfold evEs; rfl
theorem ev_es {r : Es} {xs : List D} (h1 : evE kin C a ρ = pure x) (h2 : evEs kin C r ρ = pure xs) : evEs kin C (.cons a r) ρ = pure (x :: xs) := by
  unfold evEs
  rw [h1, h2]; rfl
theorem ev_ess {r : Es} {xs ys : List D} (h1 : evE kin C a ρ = pure x) (h : itemsD x = some ys) (h2 : evEs kin C r ρ = pure xs) : evEs kin C (.star a r) ρ = pure (ys ++ xs) := by
  unfold evEs
  rw [h1, h2]
  simp only [pure_bind, h]
  rfl
theorem ev_tup {es : Es} {xs : List D} (h : evEs kin C es ρ = pure xs) (hl : xs.length ≤ sizeLine) : evE kin C (.tup es) ρ = pure (.tup xs) := by
  unfold evE
  rw [h]
  exact if_pos hl
theorem ev_lst {es : Es} {xs : List D} (h : evEs kin C es ρ = pure xs) (hl : xs.length ≤ sizeLine) : evE kin C (.lst es) ρ = pure (.lst xs) := by
  unfold evE
  rw [h]
  exact if_pos hl
theorem ev_app {f : Str} {es : Es} {xs : List D} {m : M D} (h : evEs kin C es ρ = pure xs) (hm : C f xs = m) : evE kin C (.app f es) ρ = m := by
  unfold evE
  rw [h]; exact hm
theorem ev_bi {f : Bi} {es : Es} {xs : List D} (h : evEs kin C es ρ = pure xs) (hm : biD kin f xs = some v) : evE kin C (.bi f es) ρ = pure v := by
  unfold evE
  rw [h]
  simp only [pure_bind, hm]
  rfl
theorem ev_bi1 {f : Bi} (h : evE kin C a ρ = pure x) (hm : biD kin f [x] = some v) : evE kin C (.bi f (.cons a .nil)) ρ = pure v := ev_bi (ev_es h ev_es0) hm
theorem ev_sub (h1 : evE kin C a ρ = pure x) (h2 : evE kin C b ρ = pure y) (h : subD x y = some v) : evE kin C (.sub a b) ρ = pure v := by
  unfold evE
  rw [h1, h2]
  simp only [pure_bind, h]
  rfl
theorem ev_sl (h1 : evE kin C a ρ = pure x) (h2 : evE kin C b ρ = pure y) (h3 : evE kin C c ρ = pure z) (h : slD x y z = some v) : evE kin C (.sl a b c) ρ = pure v := by
  unfold evE
  rw [h1, h2, h3]
  simp only [pure_bind, h]
  rfl
theorem ev_bk (h1 : evE kin C a ρ = pure x) (h2 : evE kin C b ρ = pure y) (h3 : evE kin C c ρ = pure z) (h : bkD x y z = some v) : evE kin C (.bk a b c) ρ = pure v := by
  unfold evE
  rw [h1, h2, h3]
  simp only [pure_bind, h]
  rfl
theorem ev_bnd {i : Int} (h : evE kin C a ρ = pure (.int i)) : evE kin C (.bnd a) ρ = pure (.int i) := by
  unfold evE
  rw [h]; rfl
theorem ev_dct0 : evE kin C .dct0 ρ = pure (.dct []) := by unfold evE; rfl
theorem ev_fld {f : Str} (h : evE kin C a ρ = pure x) (hm : fldD kin f x = some v) : evE kin C (.fld a f) ρ = pure v := by
  unfold evE
  rw [h]
  simp only [pure_bind, hm]
  rfl
theorem evQ_val (h : evE kin C a ρ = pure x) (ht : truD x = some p) : evT kin C (.val a) ρ = pure p := by
  unfold evT
  rw [h]
  simp only [pure_bind, ht]
  rfl
theorem evQ_bl (h : evE kin C a ρ = pure (.bl p)) : evT kin C (.val a) ρ = pure p := evQ_val h rfl
theorem evQ_not (h : evT kin C t ρ = pure p) : evT kin C (.not t) ρ = pure (!p) := by
  unfold evT
  rw [h]; rfl
theorem evQ_and (h1 : evT kin C t ρ = pure p) (h2 : p = true → evT kin C u ρ = pure q) : evT kin C (.and t u) ρ = pure (p && q) := by
  unfold evT
  rw [h1]
  cases p with
  | true => exact h2 rfl
  | false => rfl
theorem evQ_or (h1 : evT kin C t ρ = pure p) (h2 : p = false → evT kin C u ρ = pure q) : evT kin C (.or t u) ρ = pure (p || q) := by
  unfold evT
  rw [h1]
  cases p with
  | true => rfl
  | false => exact h2 rfl
theorem evQ_yes : evT kin C .yes ρ = pure true := by unfold evT; rfl
theorem evI_seq {xs : List D} (h : evE kin C a ρ = pure x) (hi : iterD x = some xs) : evI kin C (.seq a) ρ = pure xs := by
  unfold evI
  rw [h]
  simp only [pure_bind, hi]
  rfl
theorem evI_rng1 {j : Int} (h : evE kin C a ρ = pure (.int j)) (h0 : -(2 ^ 62) ≤ j) (h1 : j ≤ sizeLine) : evI kin C (.rng1 a) ρ = pure (rngD 0 j.toNat) := by
  unfold evI
  rw [h]
  exact if_pos ⟨h0, h1⟩
theorem evI_enum {xs : List D} (h : evE kin C a ρ = pure (.lst xs)) : evI kin C (.enum a) ρ = pure (enumD xs) := by
  unfold evI
  rw [h]; rfl
theorem evI_zipT {xs ys : List D} (h1 : evE kin C a ρ = pure (.tup xs)) (h2 : evE kin C b ρ = pure (.tup ys)) : evI kin C (.zip a b) ρ = pure (zipD xs ys) := by
  unfold evI
  rw [h1, h2]; rfl
end

/-! ### comparisons -/
theorem eq_int (i j : Int) : cmpD .Eq (.int i) (.int j) = some (.bl (decide (i = j))) := by
  unfold cmpD
  have h : D.okE (.int i) (.int j) = true := by simp [D.okE, D.pure, D.pd, PyData.depth]
  rw [if_pos h]
  simp only [D.pd, PyData.eqv]
  rw [Bool.beq_eq_decide_eq]
theorem lt_int (i j : Int) : cmpD .Lt (.int i) (.int j) = some (.bl (decide (i < j))) := by
  unfold cmpD
  simp only [okL_int, if_true, D.pd, PySem.W.dataLt_int]
theorem gt_int (i j : Int) : cmpD .Gt (.int i) (.int j) = some (.bl (decide (j < i))) := by
  unfold cmpD
  simp only [okL_int, if_true, D.pd, PySem.W.dataLt_int]
theorem le_int (i j : Int) : cmpD .LtE (.int i) (.int j) = some (.bl (decide (i ≤ j))) := by
  unfold cmpD
  simp only [okL_int, if_true, D.pd, PySem.W.dataLt_int]
  congr 2
  by_cases h : i ≤ j
  · simp [h]
  · simp [h, Int.not_le.mp h]
theorem okL_str (x y : Str) : D.okL (.str x) (.str y) = true := by
  unfold D.okL
  simp [D.pure, D.pd, D.isNon, PyData.depth, PySem.W.alike]
/-- texts in their order -/
def ltS (x y : Str) : Bool := decide (x.cps.toList < y.cps.toList)
theorem lt_str (x y : Str) : cmpD .Lt (.str x) (.str y) = some (.bl (ltS x y)) := by
  unfold cmpD
  simp only [okL_str, if_true, D.pd, PySem.W.dataLt_str]
  rfl
theorem gt_str (x y : Str) : cmpD .Gt (.str x) (.str y) = some (.bl (ltS y x)) := by
  unfold cmpD
  simp only [okL_str, if_true, D.pd, PySem.W.dataLt_str]
  rfl
theorem eq_str (x y : Str) : cmpD .Eq (.str x) (.str y) = some (.bl (decide (x = y))) := by
  unfold cmpD
  have h : D.okE (.str x) (.str y) = true := by simp [D.okE, D.pure, D.pd, PyData.depth]
  rw [if_pos h]
  simp only [D.pd, PyData.eqv]
  rw [Bool.beq_eq_decide_eq]
theorem in_sign (c : Nat) (z : Str) : cmpD .In (.str ⟨#[c]⟩) (.str z) = some (.bl (decide (c ∈ z.cps.toList))) := rfl
theorem notin_sign (c : Nat) (z : Str) : cmpD .NotIn (.str ⟨#[c]⟩) (.str z) = some (.bl (!decide (c ∈ z.cps.toList))) := rfl
theorem sub_int (i j : Int) : binD .Sub (.int i) (.int j) = some (.int (i - j)) := rfl
theorem add_int (i j : Int) : binD .Add (.int i) (.int j) = some (.int (i + j)) := rfl
theorem add_str {a b : Str} (h : a.length + b.length ≤ sizeLine) : binD .Add (.str a) (.str b) = some (.str (a ++ b)) := if_pos h
theorem add_tup {a b : List D} (h : a.length + b.length ≤ sizeLine) : binD .Add (.tup a) (.tup b) = some (.tup (a ++ b)) := if_pos h
theorem add_lst {a b : List D} (h : a.length + b.length ≤ sizeLine) : binD .Add (.lst a) (.lst b) = some (.lst (a ++ b)) := if_pos h
theorem len_str {kin : Kin} {z : Str} (h : z.length ≤ sizeLine) : biD kin .len [.str z] = some (.int z.length) := if_pos h
theorem len_tup {kin : Kin} {xs : List D} : biD kin .len [.tup xs] = some (.int xs.length) := rfl
theorem len_lst {kin : Kin} {xs : List D} : biD kin .len [.lst xs] = some (.int xs.length) := rfl
theorem bools_bl : ∀ bs : List Bool, bools (bs.map D.bl) = some bs
  | [] => rfl
  | b :: bs => by simp [bools, bools_bl bs]
theorem all_bools {kin : Kin} (bs : List Bool) : biD kin .all [.lst (bs.map D.bl)] = some (.bl (bs.all id)) := by
  show (bools (bs.map D.bl)).map _ = _
  rw [bools_bl]; rfl
theorem any_bools {kin : Kin} (bs : List Bool) : biD kin .any [.lst (bs.map D.bl)] = some (.bl (bs.any id)) := by
  show (bools (bs.map D.bl)).map _ = _
  rw [bools_bl]; rfl
theorem list_tup {kin : Kin} {xs : List D} : biD kin .list [.tup xs] = some (.lst xs) := rfl
theorem list_lst {kin : Kin} {xs : List D} : biD kin .list [.lst xs] = some (.lst xs) := rfl
theorem tuple_lst {kin : Kin} {xs : List D} : biD kin .tuple [.lst xs] = some (.tup xs) := rfl
theorem tuple_tup {kin : Kin} {xs : List D} : biD kin .tuple [.tup xs] = some (.tup xs) := rfl
theorem isi_b {kin : Kin} {x : D} {n : String} (h : x.basic kin = true) : biD kin (.isi [.b n]) [x] = some (.bl (isiD kin x (.b n))) := by
  show (if x.basic kin then some (D.bl ([Ty.b n].any (isiD kin x))) else none) = _
  rw [if_pos h]
  simp
theorem at_nat {xs : List D} {i : Nat} {d : D} (h : xs[i]? = some d) : atI xs (i : Int) = some d := by
  unfold atI
  have hl := (List.getElem?_eq_some_iff.mp h).1
  have : ixN xs.length (i : Int) = some i := by
    unfold ixN
    rw [if_pos (by omega), if_pos (by omega)]
    simp
  simp [this, h]
theorem sub_tup {xs : List D} {i : Nat} {d : D} (h : xs[i]? = some d) : subD (.tup xs) (.int (i : Int)) = some d := at_nat h
theorem sub_lst {xs : List D} {i : Nat} {d : D} (h : xs[i]? = some d) : subD (.lst xs) (.int (i : Int)) = some d := at_nat h
theorem mkTup_pure {xs : List D} (h : xs.length ≤ sizeLine) : mkTup xs = pure (.tup xs) := if_pos h
theorem mkLst_pure {xs : List D} (h : xs.length ≤ sizeLine) : mkLst xs = pure (.lst xs) := if_pos h
end RM
end
section
set_option Elab.async false
set_option linter.all false
set_option maxRecDepth 100000
set_option autoImplicit false
/-! codes of the defs that many laws share -/
namespace RM
open PySem
def c_is_word : Ss :=
  (.cons (.ret (.and (.bi (.isi [.b "str"]) (.cons (.b 0) .nil)) (.and (.chain .LtE .LtE (.c (.int 1)) (.bi .len (.cons (.b 0) .nil)) (.c (.int 8))) (.bi .all (.cons (.lc [1] [1] (.seq (.b 0)) .yes (.cmp .In (.b 1) (.c (.str "abcdefghijklmnopqrstuvwxyz")))) .nil)))))
  .nil)
def c_are_ascending : Ss :=
  (.cons (.iff (.or (.not (.val (.bi (.isi [.b "tuple"]) (.cons (.b 0) .nil)))) (.not (.val (.bi .all (.cons (.lc [1] [1] (.seq (.b 0)) .yes (.app "is_word" (.cons (.v 1) .nil))) .nil)))))
  (.cons (.ret (.c (.bl false)))
  .nil)
  .nil)
  (.cons (.ret (.bi .all (.cons (.lc [1, 2] [1, 2] (.zip (.b 0) (.sl (.b 0) (.bnd (.c (.int 1))) (.c .non))) .yes (.cmp .Lt (.b 1) (.b 2))) .nil)))
  .nil))
def c_need_roads : Ss :=
  (.cons (.iff (.or (.not (.val (.app "are_ascending" (.cons (.v 0) .nil)))) (.not (.val (.chain .LtE .LtE (.c (.int 1)) (.bi .len (.cons (.b 0) .nil)) (.c (.int 7))))))
  (.cons (.rse "BadRoads" (.v 0))
  .nil)
  .nil)
  (.cons (.ret (.v 0))
  .nil))
def c_is_lot : Ss :=
  (.cons (.ret (.and (.app "are_ascending" (.cons (.v 1) .nil)) (.bi .all (.cons (.lc [2] [2] (.seq (.b 1)) .yes (.cmp .In (.b 2) (.b 0))) .nil))))
  .nil)
def c_lots_with : Ss :=
  (.cons (.asg [2] (.lst (.cons (.tup .nil) .nil)))
  (.cons (.frl [3] (.rng1 (.b 1))
  (.cons (.asg [2] (.lc2 [4, 5] [4] (.seq (.b 2)) .yes [5] (.seq (.v 0)) (.or (.val (.cmp .Eq (.b 4) (.tup .nil))) (.val (.cmp .Gt (.b 5) (.sub (.b 4) (.neg (.c (.int 1))))))) (.tup (.star (.b 4) (.cons (.v 5) .nil)))))
  .nil))
  (.cons (.ret (.v 2))
  .nil)))
def c_couples : Ss :=
  (.cons (.ret (.bi .tuple (.cons (.app "lots_with" (.cons (.v 0) (.cons (.c (.int 2)) .nil))) .nil)))
  .nil)
def c__law_names : Ss :=
  (.cons (.asg [2, 3] (.tup (.cons (.c (.str "abcdefghijklmnopqrstuvwxyz")) (.cons (.c (.str "")) .nil))))
  (.cons (.frl [4] (.rng1 (.app "_law_next" (.cons (.v 0) (.cons (.c (.int 8)) .nil))))
  (.cons (.asg [3] (.bin .Add (.b 3) (.sub (.b 2) (.app "_law_next" (.cons (.v 0) (.cons (.c (.int 26)) .nil))))))
  .nil))
  (.cons (.asg [5, 6, 7] (.tup (.cons (.app "_law_next" (.cons (.v 0) (.cons (.bin .Add (.bi .len (.cons (.b 3) .nil)) (.c (.int 1))) .nil))) (.cons (.app "_law_next" (.cons (.v 0) (.cons (.c (.int 26)) .nil))) (.cons (.sub (.lst (.cons (.c (.int 1)) (.cons (.c (.int 3)) (.cons (.c (.int 5)) (.cons (.c (.int 7)) (.cons (.c (.int 9)) (.cons (.c (.int 11)) .nil))))))) (.app "_law_next" (.cons (.v 0) (.cons (.c (.int 6)) .nil)))) .nil)))))
  (.cons (.asg [8] (.sl (.bin .Add (.b 3) (.bin .Mult (.sub (.b 2) (.b 6)) (.c (.int 8)))) (.c .non) (.bnd (.c (.int 8)))))
  (.cons (.iff (.and (.val (.cmp .Gt (.b 7) (.c (.int 5)))) (.val (.cmp .Lt (.b 1) (.c (.int 9)))))
  (.cons (.ret (.lc [4] [4] (.rng1 (.b 1)) .yes (.ife (.val (.cmp .Gt (.b 7) (.c (.int 7)))) (.sl (.b 8) (.bnd (.b 4)) (.c .non)) (.sl (.b 8) (.c .non) (.bnd (.bin .Sub (.bin .Add (.b 4) (.c (.int 9))) (.b 1)))))))
  .nil)
  .nil)
  (.cons (.ret (.lc [4] [4] (.rng1 (.b 1)) .yes (.bin .Add (.bin .Add (.sl (.b 3) (.c .non) (.bnd (.b 5))) (.sub (.b 2) (.bin .Mod (.bi .int1 (.cons (.bin .Add (.b 6) (.bin .Mult (.b 7) (.b 4))) .nil)) (.c (.int 26))))) (.sl (.b 3) (.bnd (.b 5)) (.c .non)))))
  .nil))))))
def c__law_is_name : Ss :=
  (.cons (.iff (.or (.not (.val (.bi (.isi [.b "str"]) (.cons (.b 0) .nil)))) (.not (.val (.chain .LtE .LtE (.c (.int 1)) (.bi .len (.cons (.b 0) .nil)) (.c (.int 8))))))
  (.cons (.ret (.c (.bl false)))
  .nil)
  .nil)
  (.cons (.ret (.cmp .Eq (.lc [1] [1] (.seq (.b 0)) (.val (.cmp .NotIn (.b 1) (.c (.str "abcdefghijklmnopqrstuvwxyz")))) (.v 1)) (.lst .nil)))
  .nil))
def c__law_odd : Ss :=
  (.cons (.asg [1] (.lst (.cons (.c .non) (.cons (.c (.int 0)) (.cons (.c (.int 1)) (.cons (.c (.int 2)) (.cons (.c (.int 3)) (.cons (.neg (.c (.int 1))) (.cons (.c (.int 101)) (.cons (.neg (.c (.int 10))) (.cons (.c (.bl true)) (.cons (.c (.bl false)) (.cons (.c (.str "")) (.cons (.c (.str "a")) (.cons (.c (.str "abcdefghi")) (.cons (.c (.str "A")) (.cons (.c (.str "net")) (.cons (.c (.str "bar")) (.cons (.tup .nil) (.cons (.tup (.cons (.tup .nil) .nil)) (.cons (.tup (.cons (.c (.str "a")) (.cons (.c (.int 0)) .nil))) .nil)))))))))))))))))))))
  (.cons (.asg [1] (.bin .Add (.b 1) (.lst (.cons (.lst .nil) (.cons .dct0 (.cons (.bin .Pow (.c (.int 10)) (.c (.int 30))) (.cons (.tup (.cons (.c (.str "far")) .nil)) (.cons (.tup (.cons (.c (.str "bar")) (.cons (.tup .nil) .nil))) (.cons (.c (.str "a1")) (.cons (.tup (.cons (.c .non) .nil)) (.cons (.tup (.cons (.c (.int 0)) .nil)) (.cons (.tup (.cons (.c (.str "a")) .nil)) (.cons (.tup (.cons (.c (.str "a")) (.cons (.c (.str "b")) .nil))) .nil)))))))))))))
  (.cons (.ret (.sub (.b 1) (.app "_law_next" (.cons (.v 0) (.cons (.c (.int 29)) .nil)))))
  .nil)))
def c__law_bent : Ss :=
  (.cons (.iff (.and (.val (.bi (.isi [.b "str"]) (.cons (.b 1) .nil))) (.val (.cmp .Eq (.app "_law_next" (.cons (.v 0) (.cons (.c (.int 2)) .nil))) (.c (.int 0)))))
  (.cons (.ret (.sub (.lst (.cons (.bin .Add (.b 1) (.c (.str "b"))) (.cons (.sl (.b 1) (.bnd (.c (.int 1))) (.c .non)) (.cons (.bin .Add (.b 1) (.c (.str "A"))) (.cons (.bin .Add (.b 1) (.c (.str " "))) (.cons (.bin .Mult (.b 1) (.c (.int 2))) (.cons (.bin .Add (.b 1) (.c (.str "1"))) .nil))))))) (.app "_law_next" (.cons (.v 0) (.cons (.c (.int 6)) .nil)))))
  .nil)
  .nil)
  (.cons (.iff (.and (.val (.bi (.isi [.b "int"]) (.cons (.b 1) .nil))) (.and (.not (.val (.bi (.isi [.b "bool"]) (.cons (.b 1) .nil)))) (.val (.cmp .Eq (.app "_law_next" (.cons (.v 0) (.cons (.c (.int 2)) .nil))) (.c (.int 0))))))
  (.cons (.ret (.bin .Add (.b 1) (.sub (.lst (.cons (.c (.int 1)) (.cons (.neg (.c (.int 1))) (.cons (.c (.int 2)) (.cons (.neg (.c (.int 2))) (.cons (.c (.int 10)) (.cons (.neg (.c (.int 10))) .nil))))))) (.app "_law_next" (.cons (.v 0) (.cons (.c (.int 6)) .nil))))))
  .nil)
  .nil)
  (.cons (.iff (.or (.not (.val (.bi (.isi [.b "tuple"]) (.cons (.b 1) .nil)))) (.or (.val (.cmp .Eq (.b 1) (.tup .nil))) (.val (.cmp .Eq (.app "_law_next" (.cons (.v 0) (.cons (.c (.int 6)) .nil))) (.c (.int 0))))))
  (.cons (.ret (.app "_law_odd" (.cons (.v 0) .nil)))
  .nil)
  .nil)
  (.cons (.par [2, 3] (.cons (.app "_law_next" (.cons (.v 0) (.cons (.bi .len (.cons (.b 1) .nil)) .nil))) (.cons (.app "_law_next" (.cons (.v 0) (.cons (.c (.int 11)) .nil))) .nil)))
  (.cons (.iff (.val (.cmp .Eq (.b 3) (.c (.int 0))))
  (.cons (.ret (.bin .Add (.sl (.b 1) (.c .non) (.bnd (.b 2))) (.sl (.b 1) (.bnd (.bin .Add (.b 2) (.c (.int 1)))) (.c .non))))
  .nil)
  .nil)
  (.cons (.iff (.val (.cmp .Eq (.b 3) (.c (.int 1))))
  (.cons (.ret (.bin .Add (.b 1) (.sl (.b 1) (.bnd (.b 2)) (.bnd (.bin .Add (.b 2) (.c (.int 1)))))))
  .nil)
  .nil)
  (.cons (.iff (.val (.cmp .Eq (.b 3) (.c (.int 2))))
  (.cons (.ret (.bi .list (.cons (.b 1) .nil)))
  .nil)
  .nil)
  (.cons (.iff (.val (.cmp .Eq (.b 3) (.c (.int 3))))
  (.cons (.ret (.bin .Add (.bin .Add (.sl (.b 1) (.c .non) (.bnd (.b 2))) (.tup (.cons (.app "_law_odd" (.cons (.v 0) .nil)) .nil))) (.sl (.b 1) (.bnd (.b 2)) (.c .non))))
  .nil)
  .nil)
  (.cons (.iff (.val (.cmp .Eq (.b 3) (.c (.int 4))))
  (.cons (.ret (.bk (.b 1) (.c .non) (.c .non)))
  .nil)
  .nil)
  (.cons (.ret (.bin .Add (.bin .Add (.sl (.b 1) (.c .non) (.bnd (.b 2))) (.tup (.cons (.app "_law_bent" (.cons (.v 0) (.cons (.sub (.b 1) (.b 2)) .nil))) .nil))) (.sl (.b 1) (.bnd (.bin .Add (.b 2) (.c (.int 1)))) (.c .non))))
  .nil))))))))))
def c__law_lots : Ss :=
  (.cons (.asg [1] (.lst (.cons (.tup .nil) .nil)))
  (.cons (.frl [2] (.seq (.v 0))
  (.cons (.asg [1] (.bin .Add (.b 1) (.lc [3] [3] (.seq (.b 1)) .yes (.bin .Add (.b 3) (.tup (.cons (.v 2) .nil))))))
  .nil))
  (.cons (.ret (.bi .sorted (.cons (.b 1) .nil)))
  .nil)))
def c__law_couples : Ss :=
  (.cons (.asg [1] (.lst .nil))
  (.cons (.frl [2] (.rng1 (.bi .len (.cons (.b 0) .nil)))
  (.cons (.asg [1] (.bin .Add (.b 1) (.lc [3] [3] (.seq (.sl (.b 0) (.bnd (.bin .Add (.b 2) (.c (.int 1)))) (.c .non))) .yes (.tup (.cons (.sub (.b 0) (.b 2)) (.cons (.v 3) .nil))))))
  .nil))
  (.cons (.ret (.v 1))
  .nil)))
def c__law_roads : Ss :=
  (.cons (.ret (.bi .tuple (.cons (.bi .sorted (.cons (.app "_law_names" (.cons (.v 0) (.cons (.bin .Add (.b 1) (.app "_law_next" (.cons (.v 0) (.cons (.bin .Sub (.bin .Add (.b 2) (.c (.int 1))) (.b 1)) .nil)))) .nil))) .nil)) .nil)))
  .nil)
def c__law_less : Ss :=
  (.cons (.ret (.bi .tuple (.cons (.lc [2] [2] (.seq (.b 0)) (.val (.cmp .NotIn (.b 2) (.b 1))) (.v 2)) .nil)))
  .nil)
def c__law_are_ascending : Ss :=
  (.cons (.iff (.or (.not (.val (.bi (.isi [.b "tuple"]) (.cons (.b 0) .nil)))) (.val (.cmp .NotEq (.lc [1] [1] (.seq (.b 0)) (.not (.val (.app "_law_is_name" (.cons (.v 1) .nil)))) (.v 1)) (.lst .nil))))
  (.cons (.ret (.c (.bl false)))
  .nil)
  .nil)
  (.cons (.ret (.cmp .Eq (.lc [1, 2] [1, 2] (.zip (.b 0) (.sl (.b 0) (.bnd (.c (.int 1))) (.c .non))) (.not (.val (.cmp .Lt (.b 1) (.b 2)))) (.c (.int 1))) (.lst .nil)))
  .nil))
end RM
end
section
set_option Elab.async false
set_option linter.all false
set_option maxRecDepth 100000
set_option autoImplicit false
/-! words, roads, lots: what the package's first defs give -/
namespace RM
open PySem PySem.Spec PyProof.Rows L2

def letters : List Nat := (Str.ofString "abcdefghijklmnopqrstuvwxyz").cps.toList
/-- a word -/
def isW (z : Str) : Bool := decide (1 ≤ z.length ∧ z.length ≤ 8) && z.cps.toList.all fun c => decide (c ∈ letters)
def isWd : D → Bool
  | .str z => isW z
  | _ => false
/-- texts are not too long -/
def D.okS : D → Bool
  | .str z => decide (z.length ≤ sizeLine)
  | _ => true
section
variable {kin : Kin} {C : Orc} {ρ : Fe}
theorem isStr_run {e : E} {d : D} (h : evE kin C e ρ = pure d) (hb : d.basic kin = true) : evE kin C (.bi (.isi [.b "str"]) (.cons e .nil)) ρ = pure (.bl (match d with | .str _ => true | _ => false)) := by
  refine ev_bi1 h ?_
  rw [isi_b hb]
  cases d <;> rfl
theorem isTup_run {e : E} {d : D} (h : evE kin C e ρ = pure d) (hb : d.basic kin = true) : evE kin C (.bi (.isi [.b "tuple"]) (.cons e .nil)) ρ = pure (.bl d.isTup) := by
  refine ev_bi1 h ?_
  rw [isi_b hb]
  cases d <;> rfl
theorem len1_8 {e : E} {n k : Nat} {x : D} (h : evE kin C e ρ = pure x) (hl : biD kin .len [x] = some (.int n)) :
    evE kin C (.chain .LtE .LtE (.c (.int 1)) (.bi .len (.cons e .nil)) (.c (.int k))) ρ = pure (.bl (decide (1 ≤ n ∧ n ≤ k))) := by
  have := ev_chain (kin := kin) (C := C) (ρ := ρ) (o := .LtE) (op := .LtE) (a := .c (.int 1)) (c := .c (.int k)) ev_c (ev_bi1 h hl) ev_c (le_int 1 n) (le_int n k)
  rw [this]
  congr 2
  rw [← Bool.decide_and]
  congr 1
  apply propext
  omega
theorem signs_all (z : Str) (f : Nat → Bool) : (signsD z).filterMap (fun x => match x with | .str w => some (D.bl (f (w.cps.toList.headD 0))) | _ => none) = (z.cps.toList.map fun c => f c).map D.bl := by
  unfold signsD
  rw [List.filterMap_map, List.map_map]
  induction z.cps.toList with
  | nil => rfl
  | cons c r ih =>
    rw [List.filterMap_cons, List.map_cons, ← ih]
    rfl
theorem is_word_run {d : D} (hb : d.basic kin = true) (hs : d.okS = true) : runF kin C 1 c_is_word [d] = pure (.bl (isWd d)) := by
  refine run_ret (ret_pure ?_)
  show evE kin C _ [.val d, .emp] = _
  have h0 : evE kin C (.b 0) [.val d, .emp] = pure d := ev_b rfl
  cases d with
  | str z =>
    have hz : z.length ≤ sizeLine := of_decide_eq_true hs
    have e := ev_and (kin := kin) (C := C) (isStr_run h0 hb) (q := isW z) (b := .and (.chain .LtE .LtE (.c (.int 1)) (.bi .len (.cons (.b 0) .nil)) (.c (.int 8))) (.bi .all (.cons (.lc [1] [1] (.seq (.b 0)) .yes (.cmp .In (.b 1) (.c (.str "abcdefghijklmnopqrstuvwxyz")))) .nil))) fun _ => ?_
    · rw [e]; rfl
    · refine ev_and (q := z.cps.toList.all fun c => decide (c ∈ letters)) (len1_8 (k := 8) h0 (len_str hz)) fun _ => ?_
      have hl : (signsD z).length ≤ sizeLine := by rw [signsD_length]; exact hz
      refine ev_bi1 (lc_pure (fun x => match x with | .str w => some (D.bl (decide (w.cps.toList.headD 0 ∈ letters))) | _ => none) (evI_seq h0 (if_pos hz)) hl fun x hx => ?_) ?_
      · obtain ⟨c, hc, rfl⟩ := List.mem_map.mp hx
        exact lcF_yes (ρ1 := [.val (.str z), .val (.str ⟨#[c]⟩)]) rfl (ev_cmp (ev_b rfl) ev_c (in_sign c _))
      · rw [signs_all z fun c => decide (c ∈ letters)]
        rw [all_bools]
        simp [List.all_map, Function.comp_def]
  | _ => exact ev_and (p := false) (q := false) (isStr_run h0 hb) (fun h => by cases h)

/-! ### ascending tuples of words -/
def strsOf : List D → List Str
  | [] => []
  | .str z :: r => z :: strsOf r
  | _ :: r => strsOf r
/-- ascending, each before the next one -/
def ascS : List Str → Bool
  | [] => true
  | [_] => true
  | a :: b :: r => ltS a b && ascS (b :: r)
def isAsc : D → Bool
  | .tup xs => xs.all isWd && ascS (strsOf xs)
  | _ => false
theorem isWd_str {d : D} (h : isWd d = true) : ∃ z, d = .str z ∧ isW z = true := by
  cases d <;> first | exact ⟨_, rfl, h⟩ | cases h
theorem words_strs : ∀ {xs : List D}, xs.all isWd = true → xs = (strsOf xs).map D.str
  | [], _ => rfl
  | d :: xs, h => by
    rw [List.all_cons, Bool.and_eq_true] at h
    obtain ⟨z, rfl, _⟩ := isWd_str h.1
    show _ = D.str z :: (strsOf xs).map D.str
    rw [← words_strs h.2]
theorem strsOf_map : ∀ zs : List Str, strsOf (zs.map D.str) = zs
  | [] => rfl
  | z :: zs => by show z :: strsOf (zs.map D.str) = _; rw [strsOf_map zs]
/-- what may be asked whether it is a word -/
def D.okW (kin : Kin) (d : D) : Bool := d.basic kin && d.okS
def D.okT (kin : Kin) : D → Bool
  | .tup xs => xs.all (D.okW kin) && decide (xs.length ≤ sizeLine)
  | d => d.basic kin
theorem okT_basic {d : D} (h : d.okT kin = true) : d.basic kin = true := by
  cases d <;> first | exact h | rfl
theorem cut1 {xs : List D} (h : xs.length ≤ sizeLine) : slD (.tup xs) (.int 1) .non = some (.tup (xs.drop 1)) := by
  show some (D.tup (cutD xs (some 1) none)) = _
  unfold cutD HT.sIx
  congr 2
  simp only [show ¬((1 : Int) < 0) by decide, if_false]
  by_cases h1 : 1 ≤ xs.length
  · rw [show min (Int.toNat 1) xs.length = 1 from by show min 1 xs.length = 1; omega]
    apply List.take_of_length_le
    simp
  · have : xs = [] := List.length_eq_zero_iff.mp (by omega)
    subst this
    rfl
theorem asc_zip : ∀ zs : List Str, (zipD (zs.map D.str) ((zs.map D.str).drop 1)).filterMap (fun p => match p with | .tup [.str a, .str b] => some (D.bl (ltS a b)) | _ => none) = ((zs.zip (zs.drop 1)).map fun p => ltS p.1 p.2).map D.bl := by
  intro zs
  unfold zipD
  rw [← List.map_drop, List.zip_map, List.map_map, List.filterMap_map, List.map_map]
  generalize zs.zip (zs.drop 1) = l
  induction l with
  | nil => rfl
  | cons c r ih =>
    rw [List.filterMap_cons, List.map_cons, ← ih]
    rfl
theorem asc_all : ∀ zs : List Str, ((zs.zip (zs.drop 1)).map fun p => ltS p.1 p.2).all id = ascS zs
  | [] => rfl
  | [_] => rfl
  | a :: b :: r => by
    have := asc_all (b :: r)
    simp only [List.drop_succ_cons, List.drop_zero, List.zip_cons_cons, List.map_cons, List.all_cons, id, ascS] at this ⊢
    rw [this]
theorem are_ascending_run {d : D} (hC : ∀ x, x.okW kin = true → C "is_word" [x] = pure (.bl (isWd x))) (h : d.okT kin = true) : runF kin C 2 c_are_ascending [d] = pure (.bl (isAsc d)) := by
  have h0 : ∀ s t, evE kin C (.b 0) [.val d, s, t] = pure d := fun s t => ev_b rfl
  cases d with
  | tup xs =>
    obtain ⟨hx, hl⟩ := (Bool.and_eq_true _ _).mp h
    have hl : xs.length ≤ sizeLine := of_decide_eq_true hl
    have words : evE kin C (.bi .all (.cons (.lc [1] [1] (.seq (.b 0)) .yes (.app "is_word" (.cons (.v 1) .nil))) .nil)) [.val (.tup xs), .emp, .emp] = pure (.bl (xs.all isWd)) := by
      refine ev_bi1 (lc_pure (fun x => some (D.bl (isWd x))) (evI_seq (h0 _ _) rfl) hl fun x hm => ?_) ?_
      · exact lcF_yes (ρ1 := [.val (.tup xs), .val x, .emp]) rfl (ev_app (ev_es (ev_v rfl) ev_es0) (hC x (List.all_eq_true.mp hx x hm)))
      · have : xs.filterMap (fun x => some (D.bl (isWd x))) = (xs.map isWd).map D.bl := by rw [List.map_map, List.filterMap_eq_map']; rfl
        rw [this, all_bools, List.all_map]
        rfl
    have test : evT kin C (.or (.not (.val (.bi (.isi [.b "tuple"]) (.cons (.b 0) .nil)))) (.not (.val (.bi .all (.cons (.lc [1] [1] (.seq (.b 0)) .yes (.app "is_word" (.cons (.v 1) .nil))) .nil))))) [.val (.tup xs), .emp, .emp] = pure (!xs.all isWd) :=
      evQ_or (p := false) (evQ_not (evQ_bl (isTup_run (h0 _ _) (okT_basic h)))) fun _ => evQ_not (evQ_bl words)
    refine run_ret ?_
    show evSs kin C c_are_ascending [.val (.tup xs), .emp, .emp] = _
    unfold c_are_ascending
    cases ha : xs.all isWd with
    | false =>
      rw [ha] at test
      rw [iff_true test, ret_pure ev_c]
      have e0 : isAsc (.tup xs) = false := by show (xs.all isWd && ascS (strsOf xs)) = _; rw [ha]; rfl
      rw [e0]; rfl
    | true =>
      rw [ha] at test
      rw [iff_false test]
      refine ret_pure ?_
      have e := words_strs ha
      refine ev_bi1 (lc_pure (fun p => match p with | .tup [.str a, .str b] => some (D.bl (ltS a b)) | _ => none) (evI_zipT (h0 _ _) (ev_sl (h0 _ _) (ev_bnd ev_c) ev_c (cut1 hl))) ?_ fun x hm => ?_) ?_
      · rw [zipD_length]; omega
      · rw [e] at hm
        unfold zipD at hm
        rw [← List.map_drop, List.zip_map, List.map_map] at hm
        obtain ⟨⟨a, b⟩, _, rfl⟩ := List.mem_map.mp hm
        exact lcF_yes (ρ1 := [.val (.tup xs), .val (.str a), .val (.str b)]) rfl (ev_cmp (ev_b rfl) (ev_b rfl) (lt_str a b))
      · have e1 : isAsc (.tup xs) = ascS (strsOf xs) := by show (xs.all isWd && ascS (strsOf xs)) = _; rw [ha]; rfl
        rw [e1]
        generalize strsOf xs = zs at e
        rw [e, asc_zip, all_bools, asc_all]
  | _ =>
    all_goals
      refine run_ret ?_
      show evSs kin C c_are_ascending [.val _, .emp, .emp] = _
      unfold c_are_ascending
      rw [iff_true (evQ_or (p := true) (q := true) (evQ_not (evQ_bl (isTup_run (h0 _ _) h))) fun z => by cases z), ret_pure ev_c]
      rfl
end
end RM
end
section
set_option Elab.async false
set_option linter.all false
set_option maxRecDepth 100000
set_option autoImplicit false
/-! roads by their places: lots are lists of places, named -/
namespace RM
open PySem PySem.Spec PyProof.Rows L2

/-- n roads, named in their order -/
structure Nm (n : Nat) (nm : Nat → Str) : Prop where
  lt : ∀ i j, i < n → j < n → ltS (nm i) (nm j) = decide (i < j)
  w : ∀ i, i < n → isW (nm i) = true
abbrev roadV (nm : Nat → Str) (i : Nat) : D := .str (nm i)
abbrev lotV (nm : Nat → Str) (l : List Nat) : D := .tup (l.map (roadV nm))
/-- all below n -/
def Bel (n : Nat) (l : List Nat) : Prop := ∀ i ∈ l, i < n
theorem ltS_irrefl (x : Str) : ltS x x = false := by
  unfold ltS
  rw [decide_eq_false_iff_not]
  exact List.lt_irrefl _
section
variable {n : Nat} {nm : Nat → Str} (N : Nm n nm)
include N
theorem Nm.inj {i j : Nat} (hi : i < n) (hj : j < n) : nm i = nm j ↔ i = j := by
  constructor
  · intro e
    have h1 := N.lt i j hi hj
    have h2 := N.lt j i hj hi
    rw [e, ltS_irrefl] at h1
    rw [e, ltS_irrefl] at h2
    have h1 := decide_eq_false_iff_not.mp h1.symm
    have h2 := decide_eq_false_iff_not.mp h2.symm
    omega
  · intro e; rw [e]
theorem Nm.eqv_lot : ∀ {l l' : List Nat}, Bel n l → Bel n l' → PyData.eqvAll (D.pds (l.map (roadV nm))) (D.pds (l'.map (roadV nm))) = decide (l = l')
  | [], [], _, _ => rfl
  | [], _ :: _, _, _ => rfl
  | _ :: _, [], _, _ => rfl
  | i :: l, j :: l', h, h' => by
    have ih := Nm.eqv_lot (l := l) (l' := l') (fun x hx => h x (List.mem_cons_of_mem _ hx)) fun x hx => h' x (List.mem_cons_of_mem _ hx)
    simp only [List.map_cons, D.pds, D.pd, PyData.eqvAll, PyData.eqv]
    rw [ih]
    by_cases e : i = j
    · subst e
      simp
    · have : (nm i == nm j) = false := by
        rw [beq_eq_false_iff_ne]
        exact fun z => e ((N.inj (h i List.mem_cons_self) (h' j List.mem_cons_self)).mp z)
      rw [this]
      simp [e]
/-- lists of places in their order -/
def ltL : List Nat → List Nat → Bool
  | [], [] => false
  | [], _ :: _ => true
  | _ :: _, [] => false
  | i :: l, j :: m => if i = j then ltL l m else decide (i < j)
omit N in
theorem alike_lot : ∀ (l l' : List Nat), PySem.W.alikeAll (D.pds (l.map (roadV nm))) (D.pds (l'.map (roadV nm))) = true
  | [], _ => by simp [D.pds, PySem.W.alikeAll]
  | _ :: _, [] => by simp [D.pds, PySem.W.alikeAll]
  | i :: l, j :: l' => by simp [D.pds, D.pd, PySem.W.alikeAll, PySem.W.alike, alike_lot l l']
theorem Nm.lt_lot : ∀ {l l' : List Nat}, Bel n l → Bel n l' → PyProof.Rows.lexLt itemOrd (PySem.W.keyToksAll (D.pds (l.map (roadV nm)))) (PySem.W.keyToksAll (D.pds (l'.map (roadV nm)))) = ltL l l'
  | [], [], _, _ => rfl
  | [], _ :: _, _, _ => rfl
  | _ :: _, [], _, _ => rfl
  | i :: l, j :: l', h, h' => by
    have ih := Nm.lt_lot (l := l) (l' := l') (fun x hx => h x (List.mem_cons_of_mem _ hx)) fun x hx => h' x (List.mem_cons_of_mem _ hx)
    have hi := h i List.mem_cons_self
    have hj := h' j List.mem_cons_self
    simp only [List.map_cons, D.pds, D.pd]
    rw [PySem.W.dataLt_cons (by rfl)]
    unfold ltL
    by_cases e : i = j
    · subst e
      rw [if_pos (by simp [PyData.eqv]), if_pos rfl]
      exact ih
    · have : PyData.eqv (.str (nm i)) (.str (nm j)) = false := by
        simp only [PyData.eqv]
        rw [beq_eq_false_iff_ne]
        exact fun z => e ((N.inj hi hj).mp z)
      rw [if_neg (by rw [this]; exact Bool.false_ne_true), if_neg e, PySem.W.dataLt_str]
      exact N.lt i j hi hj
omit N in
theorem pure_lot (l : List Nat) : D.pures (l.map (roadV nm)) = true := by
  induction l with
  | nil => rfl
  | cons i l ih => simp [D.pures, D.pure, ih]
omit N in
theorem depth_lot : ∀ l : List Nat, PyData.depthAll (D.pds (l.map (roadV nm))) ≤ 1
  | [] => by simp [D.pds, PyData.depthAll]
  | i :: l => by
    have := depth_lot l
    simp only [List.map_cons, D.pds, D.pd, PyData.depthAll, PyData.depth]
    omega
omit N in
theorem okE_lot (l l' : List Nat) : D.okE (lotV nm l) (lotV nm l') = true := by
  have h1 := depth_lot (nm := nm) l
  unfold D.okE
  simp only [D.pure, pure_lot, Bool.true_and, decide_eq_true_eq, D.pd, PyData.depth]
  omega
omit N in
theorem okL_lot (l l' : List Nat) : D.okL (lotV nm l) (lotV nm l') = true := by
  have h1 := depth_lot (nm := nm) l
  unfold D.okL
  simp only [D.pure, pure_lot, Bool.true_and, D.pd, PyData.depth, PySem.W.alike, alike_lot, D.isNon, Bool.not_false, decide_eq_true_eq]
  omega
theorem Nm.eq_lot {l l' : List Nat} (h : Bel n l) (h' : Bel n l') : cmpD .Eq (lotV nm l) (lotV nm l') = some (.bl (decide (l = l'))) := by
  unfold cmpD
  rw [if_pos (okE_lot l l')]
  simp only [D.pd, PyData.eqv]
  rw [N.eqv_lot h h']
theorem Nm.ne_lot {l l' : List Nat} (h : Bel n l) (h' : Bel n l') : cmpD .NotEq (lotV nm l) (lotV nm l') = some (.bl (!decide (l = l'))) := by
  unfold cmpD
  simp only [D.pd, PyData.eqv]
  rw [N.eqv_lot h h', if_pos (okE_lot l l')]
theorem Nm.dlt_lot {l l' : List Nat} (h : Bel n l) (h' : Bel n l') : PySem.W.dataLt (lotV nm l).pd (lotV nm l').pd = ltL l l' := by
  simp only [D.pd, PySem.W.dataLt_tuple]
  exact N.lt_lot h h'
theorem Nm.gt_road {i j : Nat} (hi : i < n) (hj : j < n) : cmpD .Gt (roadV nm i) (roadV nm j) = some (.bl (decide (j < i))) := by
  rw [gt_str, N.lt j i hj hi]
theorem Nm.any_road {x : Nat} (hx : x < n) : ∀ {l : List Nat}, Bel n l → ((l.map (roadV nm)).any fun z => PyData.eqv z.pd (roadV nm x).pd) = decide (x ∈ l)
  | [], _ => by simp
  | i :: l, h => by
    have ih := Nm.any_road hx (l := l) fun y hy => h y (List.mem_cons_of_mem _ hy)
    have hi := h i List.mem_cons_self
    rw [List.map_cons, List.any_cons, ih]
    show ((nm i == nm x) || _) = _
    by_cases e : x = i
    · subst e; simp
    · have : (nm i == nm x) = false := by
        rw [beq_eq_false_iff_ne]
        exact fun z => e ((N.inj hi hx).mp z).symm
      rw [this]
      simp [e]
theorem Nm.in_road {x : Nat} {l : List Nat} (hx : x < n) (h : Bel n l) : cmpD .In (roadV nm x) (lotV nm l) = some (.bl (decide (x ∈ l))) := by
  have e := N.any_road hx h
  simp only [cmpD]
  rw [if_pos (by simp [D.pure, pure_lot, D.pd, PyData.depth]), e]
theorem Nm.notin_road {x : Nat} {l : List Nat} (hx : x < n) (h : Bel n l) : cmpD .NotIn (roadV nm x) (lotV nm l) = some (.bl (!decide (x ∈ l))) := by
  have e := N.any_road hx h
  simp only [cmpD]
  rw [if_pos (by simp [D.pure, pure_lot, D.pd, PyData.depth]), e]
omit N in
/-- x among roads -/
theorem in_strs (x : Str) : ∀ (ys : List Str), ((ys.map D.str).any fun z => PyData.eqv z.pd (D.str x).pd) = decide (x ∈ ys)
  | [] => by simp
  | y :: ys => by
    have ih := in_strs x ys
    rw [List.map_cons, List.any_cons, ih]
    show ((y == x) || _) = _
    by_cases e : x = y
    · subst e; simp
    · have : (y == x) = false := by
        rw [beq_eq_false_iff_ne]
        exact fun z => e z.symm
      rw [this]
      simp [e]
/-! ### lots of a size -/
end
/-- all lots of k of n roads -/
def lotsI (n : Nat) : Nat → List (List Nat)
  | 0 => [[]]
  | k + 1 => (lotsI n k).flatMap fun l => ((List.range n).filter fun r => l.isEmpty || decide (l.getLastD 0 < r)).map fun r => l ++ [r]
def couplesI (n : Nat) : List (List Nat) := (List.range n).flatMap fun i => ((List.range n).drop (i + 1)).map fun j => [i, j]
def lotsOk (n k : Nat) : Bool := decide ((lotsI n k).length ≤ 35) && (lotsI n k).all fun l => decide (l.length = k) && l.all fun i => decide (i < n)
theorem lots_ok : ∀ n, n ≤ 7 → ∀ k, k ≤ 7 → lotsOk n k = true := by decide +kernel
theorem couples_eq : ∀ n, n ≤ 7 → lotsI n 2 = couplesI n := by decide +kernel
theorem lots_bel {n k : Nat} (hn : n ≤ 7) (hk : k ≤ 7) {l : List Nat} (h : l ∈ lotsI n k) : l.length = k ∧ Bel n l := by
  have q := lots_ok n hn k hk
  obtain ⟨_, q⟩ := (Bool.and_eq_true _ _).mp q
  obtain ⟨q1, q2⟩ := (Bool.and_eq_true _ _).mp (List.all_eq_true.mp q l h)
  exact ⟨of_decide_eq_true q1, fun i hi => of_decide_eq_true (List.all_eq_true.mp q2 i hi)⟩
theorem lots_few {n k : Nat} (hn : n ≤ 7) (hk : k ≤ 7) : (lotsI n k).length ≤ 35 := of_decide_eq_true ((Bool.and_eq_true _ _).mp (lots_ok n hn k hk)).1
end RM
end
section
set_option Elab.async false
set_option linter.all false
set_option maxRecDepth 100000
set_option autoImplicit false
/-! values: roads, lots, couples -/
namespace RM
open PySem PySem.Spec PyProof.Rows L2

section
variable {kin : Kin} {C : Orc} {ρ ρ1 : Fe} {r b : Ss} {it it2 : I} {p p2 own : List Nat} {t t2 : Q} {e : E} {xs ys : List D}
theorem frl_pure (st : Nat → Fe) (h : evI kin C it ρ = pure xs) (h0 : st 0 = ρ) (hs : ∀ i x, xs[i]? = some x → ∃ ρ1, asgP p x (st i) = some ρ1 ∧ evSs kin C b ρ1 = pure (.nx (st (i + 1)))) :
    evSs kin C (.cons (.frl p it b) r) ρ = evSs kin C r (st xs.length) := by
  rw [evSs_cons]
  unfold evS
  rw [h]
  have key : ∀ (ys : List D) (i : Nat), (∀ j x, ys[j]? = some x → xs[i + j]? = some x) → forM (fun x ρ => do
      let ρ1 ← M.op (asgP p x ρ)
      evSs kin C b ρ1) ys (st i) = pure (.nx (st (i + ys.length))) := by
    intro ys
    induction ys with
    | nil => intro i _; rfl
    | cons y ys ih =>
      intro i hy
      obtain ⟨ρ1, h1, h2⟩ := hs i y (hy 0 y rfl)
      unfold forM
      rw [h1]
      simp only [op_some, pure_bind, h2]
      have := ih (i + 1) fun j x hx => by
        have := hy (j + 1) x (by simpa using hx)
        rw [show i + (j + 1) = i + 1 + j by omega] at this
        exact this
      rw [show i + (y :: ys).length = i + 1 + ys.length by simp; omega]
      exact this
  have := key xs 0 fun j x hx => by rw [Nat.zero_add]; exact hx
  rw [Nat.zero_add, h0] at this
  show (forM (fun x ρ => do
      let ρ1 ← M.op (asgP p x ρ)
      evSs kin C b ρ1) xs ρ) >>= goOn kin C r = _
  rw [this]; rfl
theorem mapO_map {α : Type} {f : D → M (Option D)} {v : α → D} {g : α → Option D} : ∀ {ls : List α}, (∀ a ∈ ls, f (v a) = pure (g a)) → mapO f (ls.map v) = pure (ls.filterMap g)
  | [], _ => rfl
  | x :: xs, h => by
    rw [List.map_cons]
    unfold mapO
    rw [h x List.mem_cons_self, mapO_map fun y hy => h y (List.mem_cons_of_mem _ hy)]
    simp only [pure_bind, List.filterMap_cons]
    cases g x <;> rfl
theorem mapL_map {α : Type} {f : D → M (List D)} {v : α → D} {g : α → List D} : ∀ {ls : List α}, (∀ a ∈ ls, f (v a) = pure (g a)) → mapL f (ls.map v) = pure (ls.flatMap g)
  | [], _ => rfl
  | x :: xs, h => by
    rw [List.map_cons]
    unfold mapL
    rw [h x List.mem_cons_self, mapL_map fun y hy => h y (List.mem_cons_of_mem _ hy)]
    simp only [pure_bind, List.flatMap_cons]
theorem lc_map {α : Type} {ls : List α} {v : α → D} (g : α → Option D) (h : evI kin C it ρ = pure (ls.map v)) (hl : ls.length ≤ sizeLine) (hg : ∀ a ∈ ls, lcF kin C ρ own p t e (v a) = pure (g a)) :
    evE kin C (.lc own p it t e) ρ = pure (.lst (ls.filterMap g)) := by
  rw [evE_lc, h]
  simp only [pure_bind]
  rw [List.length_map, small_pure hl, mapO_map hg]
  rfl
theorem lc2_map {α : Type} {ls : List α} {v : α → D} (g : α → List D) (h : evI kin C it ρ = pure (ls.map v)) (hl : ls.length ≤ 4000) (hg : ∀ a ∈ ls, lc2F kin C ρ own p t p2 it2 t2 e (v a) = pure (g a)) :
    evE kin C (.lc2 own p it t p2 it2 t2 e) ρ = pure (.lst (ls.flatMap g)) := by
  rw [evE_lc2, h]
  simp only [pure_bind]
  rw [List.length_map, few_pure hl, mapL_map hg]
  rfl
theorem lc2F_map {α : Type} {ls : List α} {v : α → D} {x : D} (g : α → Option D) (h1 : asgP p x (wipeE ρ own) = some ρ1) (h2 : evT kin C t ρ1 = pure true) (h3 : evI kin C it2 ρ1 = pure (ls.map v)) (hl : ls.length ≤ 4000) (hg : ∀ a ∈ ls, lc2G kin C ρ1 p2 t2 e (v a) = pure (g a)) :
    lc2F kin C ρ own p t p2 it2 t2 e x = pure (ls.filterMap g) := by
  unfold lc2F
  rw [h1]
  simp only [op_some, pure_bind, h2, if_true, h3]
  rw [List.length_map, few_pure hl]
  exact mapO_map hg
theorem fm_if {α β : Type} {f : α → β} {q : α → Bool} : ∀ ls : List α, ls.filterMap (fun a => if q a then some (f a) else none) = (ls.filter q).map f
  | [] => rfl
  | a :: ls => by
    rw [List.filterMap_cons, List.filter_cons]
    cases h : q a with
    | true => simp [fm_if ls]
    | false => simp [fm_if ls]
theorem fm_some {α β : Type} {f : α → β} : ∀ ls : List α, ls.filterMap (fun a => some (f a)) = ls.map f
  | [] => rfl
  | a :: ls => by rw [List.filterMap_cons, List.map_cons, fm_some ls]
theorem lc2G_q {y v : D} {q : Bool} {ρ2 : Fe} (h1 : asgP p2 y (wipeE ρ1 p2) = some ρ2) (h2 : evT kin C t2 ρ2 = pure q) (h3 : q = true → evE kin C e ρ2 = pure v) : lc2G kin C ρ1 p2 t2 e y = pure (if q then some v else none) := by
  unfold lc2G
  rw [h1]
  simp only [op_some, pure_bind, h2]
  cases q with
  | true => simp [h3 rfl]
  | false => rfl
end

/-- roads -/
abbrev roadsV (n : Nat) (nm : Nat → Str) : D := lotV nm (List.range n)
section
variable {kin : Kin} {C : Orc} {n : Nat} {nm : Nat → Str}
theorem bel_range : Bel n (List.range n) := fun i hi => List.mem_range.mp hi
theorem sz {k : Nat} (h : k ≤ 100000) : k ≤ sizeLine := by have := sizeLine_eq; omega
theorem last_lot {l : List Nat} (h : l ≠ []) : subD (lotV nm l) (.int (-1)) = some (roadV nm (l.getLastD 0)) := by
  show atI (l.map (roadV nm)) (-1) = _
  unfold atI
  have hl : 0 < l.length := List.length_pos_iff.mpr h
  have e : ixN (l.map (roadV nm)).length (-1) = some (l.length - 1) := by
    unfold ixN
    rw [if_neg (by decide), List.length_map, if_pos (by omega)]
    congr 1
    omega
  rw [e]
  simp only [Option.bind_some, List.getElem?_map]
  rw [List.getLastD_eq_getLast?, List.getLast?_eq_getElem?]
  have : l[l.length - 1]? = some (l[l.length - 1]'(by omega)) := List.getElem?_eq_getElem _
  rw [this]
  rfl
theorem lots_with_run (N : Nm n nm) (hn : n ≤ 7) {k : Nat} (hk : k ≤ 7) : runF kin C 4 c_lots_with [roadsV n nm, .int k] = pure (.lst ((lotsI n k).map (lotV nm))) := by
  refine run_ret ?_
  show evSs kin C c_lots_with [.val (roadsV n nm), .val (.int k), .emp, .emp, .emp, .emp] = _
  unfold c_lots_with
  rw [asg_pure (ρ1 := [.val (roadsV n nm), .val (.int k), .val (.lst [.tup []]), .emp, .emp, .emp]) (ev_lst (ev_es (ev_tup ev_es0 (sz (by decide))) ev_es0) (sz (by decide))) rfl]
  have hz := sizeLine_eq
  refine Eq.trans (frl_pure (xs := rngD 0 k) (fun j => [.val (roadsV n nm), .val (.int k), .val (.lst ((lotsI n j).map (lotV nm))), (match j with | 0 => .emp | j + 1 => .val (.int (j : Int))), .emp, .emp]) (evI_rng1 (j := (k : Int)) (ev_b rfl) (by omega) (by omega)) rfl fun i x hx => ?_) ?_
  · have hik : i < k := by
      have := (List.getElem?_eq_some_iff.mp hx).1
      rwa [rngD_length] at this
    have ex : x = .int i := by
      unfold rngD at hx
      rw [List.getElem?_map, List.getElem?_range hik] at hx
      simpa using (Option.some.inj hx).symm
    subst ex
    refine ⟨[.val (roadsV n nm), .val (.int k), .val (.lst ((lotsI n i).map (lotV nm))), .val (.int i), .emp, .emp], rfl, ?_⟩
    have fi := lots_few hn (show i ≤ 7 by omega)
    have step : evE kin C (.lc2 [4, 5] [4] (.seq (.b 2)) .yes [5] (.seq (.v 0)) (.or (.val (.cmp .Eq (.b 4) (.tup .nil))) (.val (.cmp .Gt (.b 5) (.sub (.b 4) (.neg (.c (.int 1))))))) (.tup (.star (.b 4) (.cons (.v 5) .nil))))
        [.val (roadsV n nm), .val (.int k), .val (.lst ((lotsI n i).map (lotV nm))), .val (.int i), .emp, .emp] = pure (.lst ((lotsI n (i + 1)).map (lotV nm))) := by
      refine (lc2_map (ls := lotsI n i) (v := lotV nm) (fun l => ((List.range n).filter fun r => l.isEmpty || decide (l.getLastD 0 < r)).map fun r => lotV nm (l ++ [r])) (evI_seq (ev_b rfl) rfl) (by omega) fun l hl => ?_).trans ?_
      · obtain ⟨hll, hb⟩ := lots_bel hn (show i ≤ 7 by omega) hl
        refine (lc2F_map (ρ1 := [.val (roadsV n nm), .val (.int k), .val (.lst ((lotsI n i).map (lotV nm))), .val (.int i), .val (lotV nm l), .emp]) (ls := List.range n) (v := roadV nm) (fun r => if (l.isEmpty || decide (l.getLastD 0 < r)) then some (lotV nm (l ++ [r])) else none) rfl evQ_yes (evI_seq (ev_v rfl) rfl) (by rw [List.length_range]; omega) fun r hr => ?_).trans (by rw [fm_if])
        have hr := List.mem_range.mp hr
        refine lc2G_q (ρ2 := [.val (roadsV n nm), .val (.int k), .val (.lst ((lotsI n i).map (lotV nm))), .val (.int i), .val (lotV nm l), .val (roadV nm r)]) rfl ?_ fun _ => ?_
        · have e1 : evT kin C (.val (.cmp .Eq (.b 4) (.tup .nil))) [.val (roadsV n nm), .val (.int k), .val (.lst ((lotsI n i).map (lotV nm))), .val (.int i), .val (lotV nm l), .val (roadV nm r)] = pure l.isEmpty := by
            have := N.eq_lot hb (l' := []) (fun _ h => nomatch h)
            refine evQ_bl (ev_cmp (ev_b rfl) (ev_tup ev_es0 (sz (by decide))) (this.trans ?_))
            cases l <;> rfl
          refine evQ_or e1 fun he => evQ_bl (ev_cmp (ev_b rfl) (ev_sub (ev_b rfl) (ev_neg ev_c) (last_lot (fun z => by rw [z] at he; cases he))) ?_)
          refine N.gt_road hr (hb _ ?_)
          have : l ≠ [] := fun z => by rw [z] at he; cases he
          rw [List.getLastD_eq_getLast?, List.getLast?_eq_some_getLast this]
          exact List.getLast_mem this
        · have ee : lotV nm (l ++ [r]) = .tup (l.map (roadV nm) ++ [roadV nm r]) := by simp [lotV]
          rw [ee]
          exact ev_tup (ev_ess (ev_b rfl) rfl (ev_es (ev_v rfl) ev_es0)) (by rw [List.length_append, List.length_map]; exact sz (by simp; omega))
      · rw [lotsI, List.map_flatMap]
        simp only [List.map_map, Function.comp_def]
    rw [asg_pure (ρ1 := [.val (roadsV n nm), .val (.int k), .val (.lst ((lotsI n (i + 1)).map (lotV nm))), .val (.int i), .emp, .emp]) step rfl, evSs_nil]
  · refine ret_pure (ev_v ?_)
    rw [rngD_length]
    rfl
theorem couples_run (N : Nm n nm) (hn : n ≤ 7) (hC : C "lots_with" [roadsV n nm, .int 2] = pure (.lst ((lotsI n 2).map (lotV nm)))) : runF kin C 0 c_couples [roadsV n nm] = pure (.tup ((couplesI n).map (lotV nm))) := by
  refine run_ret (ret_pure ?_)
  show evE kin C _ [.val (roadsV n nm)] = _
  rw [← couples_eq n hn]
  exact ev_bi1 (ev_app (ev_es (ev_v rfl) (ev_es ev_c ev_es0)) hC) rfl
/-- drop of roads -/
theorem cut_lot {l : List Nat} {i : Nat} (h : l.length ≤ 100000) (hi : i ≤ l.length) : slD (lotV nm l) (.int (i : Int)) .non = some (lotV nm (l.drop i)) := by
  show some (D.tup (cutD (l.map (roadV nm)) (some (i : Int)) none)) = _
  unfold cutD HT.sIx
  have : ¬((i : Int) < 0) := by omega
  simp only [this, if_false, List.length_map]
  rw [show min ((i : Int)).toNat l.length = i by omega, ← List.map_drop]
  congr 2
  apply List.take_of_length_le
  simp
theorem law_couples_run (N : Nm n nm) (hn : n ≤ 7) : runF kin C 3 c__law_couples [roadsV n nm] = pure (.lst ((couplesI n).map (lotV nm))) := by
  refine run_ret ?_
  show evSs kin C c__law_couples [.val (roadsV n nm), .emp, .emp, .emp] = _
  unfold c__law_couples
  rw [asg_pure (ρ1 := [.val (roadsV n nm), .val (.lst []), .emp, .emp]) (ev_lst ev_es0 (sz (by decide))) rfl]
  have hz := sizeLine_eq
  let acc : Nat → List (List Nat) := fun m => (List.range m).flatMap fun i => ((List.range n).drop (i + 1)).map fun j => [i, j]
  have accl : ∀ m, m ≤ 7 → (acc m).length ≤ 49 := by
    intro m hm
    have h1 : ∀ m, (acc m).length ≤ m * 7 := by
      intro m
      induction m with
      | zero => exact Nat.le_refl _
      | succ m ih =>
        show ((List.range (m + 1)).flatMap _).length ≤ _
        rw [List.range_succ, List.flatMap_append, List.length_append]
        have : (((List.range n).drop (m + 1)).map fun j => [m, j]).length ≤ 7 := by
          rw [List.length_map, List.length_drop, List.length_range]; omega
        simp only [List.flatMap_cons, List.flatMap_nil, List.append_nil]
        have ih' : ((List.range m).flatMap fun i => ((List.range n).drop (i + 1)).map fun j => [i, j]).length ≤ m * 7 := ih
        omega
    have := h1 m
    omega
  refine Eq.trans (frl_pure (xs := rngD 0 n) (fun j => [.val (roadsV n nm), .val (.lst ((acc j).map (lotV nm))), (match j with | 0 => .emp | j + 1 => .val (.int (j : Int))), .emp]) ?_ rfl fun i x hx => ?_) ?_
  · have h1 : evE kin C (.bi .len (.cons (.b 0) .nil)) [.val (roadsV n nm), .val (.lst []), .emp, .emp] = pure (.int (n : Int)) := by
      refine ev_bi1 (ev_b rfl) ?_
      show some (D.int _) = _
      rw [List.length_map, List.length_range]
    have := evI_rng1 h1 (by omega) (by omega)
    rw [this]
    rfl
  · have hik : i < n := by
      have := (List.getElem?_eq_some_iff.mp hx).1
      rwa [rngD_length] at this
    have ex : x = .int i := by
      unfold rngD at hx
      rw [List.getElem?_map, List.getElem?_range hik] at hx
      simpa using (Option.some.inj hx).symm
    subst ex
    refine ⟨[.val (roadsV n nm), .val (.lst ((acc i).map (lotV nm))), .val (.int i), .emp], rfl, ?_⟩
    have hlen : (List.range n).length = n := List.length_range
    have h2 : evE kin C (.bnd (.bin .Add (.b 2) (.c (.int 1)))) [.val (roadsV n nm), .val (.lst ((acc i).map (lotV nm))), .val (.int i), .emp] = pure (.int ((i + 1 : Nat) : Int)) := ev_bnd (ev_bin (ev_b rfl) ev_c (add_int _ _))
    have inner : evE kin C (.lc [3] [3] (.seq (.sl (.b 0) (.bnd (.bin .Add (.b 2) (.c (.int 1)))) (.c .non))) .yes (.tup (.cons (.sub (.b 0) (.b 2)) (.cons (.v 3) .nil)))) [.val (roadsV n nm), .val (.lst ((acc i).map (lotV nm))), .val (.int i), .emp] =
        pure (.lst ((((List.range n).drop (i + 1)).map fun j => [i, j]).map (lotV nm))) := by
      refine (lc_map (ls := (List.range n).drop (i + 1)) (v := roadV nm) (fun j => some (lotV nm [i, j])) (evI_seq (ev_sl (ev_b rfl) h2 ev_c (cut_lot (by rw [hlen]; omega) (by rw [hlen]; omega))) rfl) (by rw [List.length_drop, hlen]; exact sz (by omega)) fun j hj => ?_).trans ?_
      · refine lcF_yes (ρ1 := [.val (roadsV n nm), .val (.lst ((acc i).map (lotV nm))), .val (.int i), .val (roadV nm j)]) rfl (ev_tup (ev_es (ev_sub (ev_b rfl) (ev_b rfl) (sub_tup (i := i) (d := roadV nm i) ?_)) (ev_es (ev_v rfl) ev_es0)) (sz (by simp)))
        rw [List.getElem?_map, List.getElem?_range hik]; rfl
      · rw [fm_some, List.map_map]; rfl
    have l1 := accl i (by omega)
    rw [asg_pure (ρ1 := [.val (roadsV n nm), .val (.lst ((acc (i + 1)).map (lotV nm))), .val (.int i), .emp]) (ev_bin (ev_b rfl) inner (add_lst ?_)) ?_, evSs_nil]
    · simp only [List.length_map, List.length_drop, List.length_range]
      omega
    · have ea : acc (i + 1) = acc i ++ (((List.range n).drop (i + 1)).map fun j => [i, j]) := by
        show (List.range (i + 1)).flatMap _ = _
        rw [List.range_succ, List.flatMap_append]
        simp only [List.flatMap_cons, List.flatMap_nil, List.append_nil]
        rfl
      rw [ea, List.map_append]
      rfl
  · refine ret_pure (ev_v ?_)
    rw [rngD_length]
    rfl
end
end RM
end
section
set_option Elab.async false
set_option linter.all false
set_option maxRecDepth 100000
set_option autoImplicit false
/-! values: sorting; drawn roads -/
namespace RM
open PySem PySem.Spec PyProof.Rows L2

/-! ### the order of texts -/
theorem ltS_trans {a b c : Str} (h1 : ltS a b = true) (h2 : ltS b c = true) : ltS a c = true := by
  unfold ltS at *
  exact decide_eq_true (List.lt_trans (of_decide_eq_true h1) (of_decide_eq_true h2))
theorem ltS_tri {a b : Str} (h1 : ltS a b = false) (h2 : ltS b a = false) : a = b := by
  unfold ltS at *
  have h1 := of_decide_eq_false h1
  have h2 := of_decide_eq_false h2
  have : a.cps.toList = b.cps.toList := List.le_antisymm (List.not_lt.mp h2) (List.not_lt.mp h1)
  exact PySem.W.str_of_cps this
theorem ltS_asymm {a b : Str} (h1 : ltS a b = true) : ltS b a = false := by
  cases h : ltS b a with
  | false => rfl
  | true =>
    have := ltS_trans h1 h
    rw [ltS_irrefl] at this
    cases this
def leS (a b : Str) : Bool := !ltS b a
theorem leS_trans (a b c : Str) (h1 : leS a b = true) (h2 : leS b c = true) : leS a c = true := by
  unfold leS at *
  cases h : ltS c a with
  | false => rfl
  | true =>
    have h1 : ltS b a = false := by simpa using h1
    have h2 : ltS c b = false := by simpa using h2
    cases hb : ltS a b with
    | true =>
      have := ltS_trans h hb
      rw [h2] at this; cases this
    | false =>
      have e := ltS_tri hb h1
      subst e
      rw [h2] at h; cases h
theorem leS_total (a b : Str) : (leS a b || leS b a) = true := by
  unfold leS
  cases h : ltS b a with
  | false => rfl
  | true => rw [ltS_asymm h]; rfl
theorem pure_strs : ∀ ws : List Str, D.pures (ws.map D.str) = true
  | [] => rfl
  | w :: ws => by simp [D.pures, D.pure, pure_strs ws]
theorem sortable_strs (ws : List Str) : sortable (ws.map D.str) = true := by
  unfold sortable
  rw [pure_strs]
  simp only [Bool.true_and, Bool.and_eq_true, List.all_eq_true, List.mem_map]
  refine ⟨fun x ⟨a, _, ea⟩ y ⟨b, _, eb⟩ => ?_, fun x ⟨a, _, ea⟩ => ?_⟩
  · subst ea eb; rfl
  · subst ea; exact ⟨rfl, decide_eq_true (Nat.zero_le 64)⟩
theorem sorted_strs {kin : Kin} (ws : List Str) : biD kin .sorted [.lst (ws.map D.str)] = some (.lst ((ws.mergeSort leS).map D.str)) := by
  show (if sortable (ws.map D.str) then some (D.lst ((ws.map D.str).mergeSort leD)) else none) = _
  rw [if_pos (sortable_strs ws)]
  congr 2
  refine (List.map_mergeSort fun a _ b _ => ?_).symm
  show (!ltS b a) = !PySem.W.dataLt _ _
  simp only [D.pd, PySem.W.dataLt_str]
  rfl
/-- strictly ascending -/
theorem sorted_strict {ws : List Str} (h : ws.Nodup) : (ws.mergeSort leS).Pairwise fun a b => ltS a b = true := by
  have h1 := List.pairwise_mergeSort leS_trans leS_total ws
  have h2 : (ws.mergeSort leS).Nodup := (List.mergeSort_perm ws leS).nodup_iff.mpr h
  refine (h1.and h2).imp ?_
  intro a b hab
  obtain ⟨q1, q2⟩ := hab
  unfold leS at q1
  have q1 : ltS b a = false := by simpa using q1
  cases h : ltS a b with
  | true => rfl
  | false => exact absurd (ltS_tri h q1) q2
theorem nm_of {ws : List Str} (h : ws.Pairwise fun a b => ltS a b = true) (hw : ∀ w ∈ ws, isW w = true) : Nm ws.length (fun i => ws.getD i default) := by
  refine ⟨fun i j hi hj => ?_, fun i hi => ?_⟩
  · have ei : ws.getD i default = ws[i] := by simp [hi]
    have ej : ws.getD j default = ws[j] := by simp [hj]
    rw [ei, ej]
    rcases Nat.lt_trichotomy i j with q | q | q
    · rw [List.pairwise_iff_getElem.mp h i j hi hj q]
      simp [q]
    · subst q
      rw [ltS_irrefl]
      simp
    · rw [ltS_asymm (List.pairwise_iff_getElem.mp h j i hj hi q)]
      simp
      omega
  · have ei : ws.getD i default = ws[i] := by simp [hi]
    rw [ei]
    exact hw _ (List.getElem_mem hi)
theorem roads_of (ws : List Str) : roadsV ws.length (fun i => ws.getD i default) = .tup (ws.map D.str) := by
  unfold roadsV lotV
  congr 1
  apply List.ext_getElem (by simp)
  intro i h1 h2
  simp only [List.getElem_map, List.getElem_range]
  have : i < ws.length := by simpa using h2
  simp [this]

/-! ### the order of lots -/
def leL (a b : List Nat) : Bool := !ltL b a
section
variable {kin : Kin} {C : Orc} {n : Nat} {nm : Nat → Str}
theorem pures_lots : ∀ ls : List (List Nat), D.pures (ls.map (lotV nm)) = true
  | [] => rfl
  | l :: ls => by
    rw [List.map_cons]
    unfold D.pures
    rw [pures_lots ls, Bool.and_true]
    exact pure_lot l
theorem sortable_lots (ls : List (List Nat)) : sortable (ls.map (lotV nm)) = true := by
  unfold sortable
  rw [pures_lots]
  simp only [Bool.true_and, Bool.and_eq_true, List.all_eq_true, List.mem_map]
  refine ⟨fun x ⟨a, _, ea⟩ y ⟨b, _, eb⟩ => ?_, fun x ⟨a, _, ea⟩ => ?_⟩
  · subst ea eb; exact alike_lot a b
  · subst ea
    refine ⟨rfl, decide_eq_true ?_⟩
    have := depth_lot (nm := nm) a
    simp only [D.pd, PyData.depth]
    omega
theorem Nm.sorted_lots (N : Nm n nm) {ls : List (List Nat)} (h : ∀ l ∈ ls, Bel n l) : biD kin .sorted [.lst (ls.map (lotV nm))] = some (.lst ((ls.mergeSort leL).map (lotV nm))) := by
  show (if sortable (ls.map (lotV nm)) then some (D.lst ((ls.map (lotV nm)).mergeSort leD)) else none) = _
  rw [if_pos (sortable_lots ls)]
  congr 2
  refine (List.map_mergeSort fun a ha b hb => ?_).symm
  show (!ltL b a) = !PySem.W.dataLt _ _
  rw [N.dlt_lot (h b hb) (h a ha)]
end
end RM
end
section
set_option Elab.async false
set_option linter.all false
set_option maxRecDepth 100000
set_option autoImplicit false
/-! values: expressions with draws; drawn names, roads -/
namespace RM
open PySem PySem.Spec PyProof.Rows L2

section
variable {kin : Kin} {C : Orc} {ρ : Fe} {a b : E} {c d : Nat} {P : D → Prop} {X : D → Prop} {bop : Operator} {cop : CmpOp} {r : Es} {Ps : List D → Prop}
theorem _root_.RM.Tr.of {α : Type} {m : M α} {v : α} {P : α → Prop} (h : m = Pure.pure v) (hp : P v) : Tr c m P X := by rw [h]; exact Tr.pure hp
theorem _root_.RM.Tr.op {α : Type} {o : Option α} {v : α} {P : α → Prop} (h : o = some v) (hp : P v) : Tr c (M.op o) P X := by rw [h]; exact Tr.pure hp
theorem tr_bin {Pa : D → Prop} (h1 : Tr c (evE kin C a ρ) Pa X) (h2 : ∀ x, Pa x → Tr d (evE kin C b ρ) (fun y => ∃ v, binD bop x y = some v ∧ P v) X) : Tr (c + d) (evE kin C (.bin bop a b) ρ) P X := by
  unfold evE
  refine Tr.bind h1 fun x hx => ?_
  have : Tr (d + 0) (do
      let y ← evE kin C b ρ
      M.op (binD bop x y)) P X := Tr.bind (h2 x hx) fun y ⟨v, e, hv⟩ => Tr.op e hv
  exact this
theorem tr_cmp {Pa : D → Prop} (h1 : Tr c (evE kin C a ρ) Pa X) (h2 : ∀ x, Pa x → Tr d (evE kin C b ρ) (fun y => ∃ v, cmpD cop x y = some v ∧ P v) X) : Tr (c + d) (evE kin C (.cmp cop a b) ρ) P X := by
  unfold evE
  refine Tr.bind h1 fun x hx => ?_
  have : Tr (d + 0) (do
      let y ← evE kin C b ρ
      M.op (cmpD cop x y)) P X := Tr.bind (h2 x hx) fun y ⟨v, e, hv⟩ => Tr.op e hv
  exact this
theorem tr_sub {Pa : D → Prop} (h1 : Tr c (evE kin C a ρ) Pa X) (h2 : ∀ x, Pa x → Tr d (evE kin C b ρ) (fun y => ∃ v, subD x y = some v ∧ P v) X) : Tr (c + d) (evE kin C (.sub a b) ρ) P X := by
  unfold evE
  refine Tr.bind h1 fun x hx => ?_
  have : Tr (d + 0) (do
      let y ← evE kin C b ρ
      M.op (subD x y)) P X := Tr.bind (h2 x hx) fun y ⟨v, e, hv⟩ => Tr.op e hv
  exact this
theorem tr_es0 (h : Ps []) : Tr c (evEs kin C .nil ρ) Ps X := Tr.of ev_es0 h
theorem tr_es {Pa : D → Prop} (h1 : Tr c (evE kin C a ρ) Pa X) (h2 : ∀ x, Pa x → Tr d (evEs kin C r ρ) (fun xs => Ps (x :: xs)) X) : Tr (c + d) (evEs kin C (.cons a r) ρ) Ps X := by
  unfold evEs
  refine Tr.bind h1 fun x hx => ?_
  have : Tr (d + 0) (do
      let xs ← evEs kin C r ρ
      pure (x :: xs)) Ps X := Tr.bind (h2 x hx) fun xs h => Tr.pure h
  exact this
theorem tr_tup (h : Tr c (evEs kin C r ρ) (fun xs => xs.length ≤ sizeLine ∧ P (.tup xs)) X) : Tr c (evE kin C (.tup r) ρ) P X := by
  unfold evE
  have : Tr (c + 0) (do mkTup (← evEs kin C r ρ)) P X := Tr.bind h fun xs ⟨hl, hp⟩ => Tr.of (mkTup_pure hl) hp
  exact this
theorem tr_lst (h : Tr c (evEs kin C r ρ) (fun xs => xs.length ≤ sizeLine ∧ P (.lst xs)) X) : Tr c (evE kin C (.lst r) ρ) P X := by
  unfold evE
  have : Tr (c + 0) (do mkLst (← evEs kin C r ρ)) P X := Tr.bind h fun xs ⟨hl, hp⟩ => Tr.of (mkLst_pure hl) hp
  exact this
theorem tr_app {f : Str} (h1 : Tr c (evEs kin C r ρ) Ps X) (h2 : ∀ xs, Ps xs → Tr d (C f xs) P X) : Tr (c + d) (evE kin C (.app f r) ρ) P X := by
  unfold evE
  exact Tr.bind h1 h2
theorem tr_bi {f : Bi} (h1 : Tr c (evEs kin C r ρ) (fun xs => ∃ v, biD kin f xs = some v ∧ P v) X) : Tr c (evE kin C (.bi f r) ρ) P X := by
  unfold evE
  have : Tr (c + 0) (do M.op (biD kin f (← evEs kin C r ρ))) P X := Tr.bind h1 fun xs ⟨v, e, hv⟩ => Tr.op e hv
  exact this
theorem tr_bi1 {f : Bi} {Pa : D → Prop} (h1 : Tr c (evE kin C a ρ) Pa X) (h : ∀ x, Pa x → ∃ v, biD kin f [x] = some v ∧ P v) : Tr c (evE kin C (.bi f (.cons a .nil)) ρ) P X := by
  have : Tr (c + 0) (evE kin C (.bi f (.cons a .nil)) ρ) P X := tr_bi (tr_es h1 fun x hx => tr_es0 (h x hx))
  exact this
theorem tr_ife {t : Q} {p : Bool} (h : evT kin C t ρ = pure p) (h1 : p = true → Tr c (evE kin C a ρ) P X) (h2 : p = false → Tr c (evE kin C b ρ) P X) : Tr c (evE kin C (.ife t a b) ρ) P X := by
  unfold evE
  rw [h]
  cases p with
  | true => exact h1 rfl
  | false => exact h2 rfl
/-- a number is drawn -/
theorem tr_next {i : Nat} {e : E} {n : Nat} (hC : C "_law_next" = orcNext) (h0 : ρ[i]? = some (.val .drw)) (h1 : evE kin C e ρ = pure (.int n)) (hn : 0 < n) (hn2 : n < 1073741824) : Tr 1 (evE kin C (.app "_law_next" (.cons (.v i) (.cons e .nil))) ρ) (fun d => ∃ j : Nat, j < n ∧ d = .int j) X := by
  have : Tr (0 + 1) (evE kin C (.app "_law_next" (.cons (.v i) (.cons e .nil))) ρ) (fun d => ∃ j : Nat, j < n ∧ d = .int j) X := by
    refine tr_app (Ps := fun xs => xs = [.drw, .int n]) (Tr.of (ev_es (ev_v h0) (ev_es h1 ev_es0)) rfl) fun xs hx => ?_
    subst hx
    rw [hC]
    refine (Tr.drawn (by omega) (by omega)).imp ?_
    rintro d ⟨j, hj, rfl⟩
    exact ⟨j, by omega, rfl⟩
  exact this
/-! ### statements -/
variable {e : E} {rest : Ss} {Po : Out → Prop}
theorem tr_asg {p : List Nat} {Pa : D → Prop} (h1 : Tr c (evE kin C e ρ) Pa noX) (h2 : ∀ x, Pa x → ∃ ρ1, asgP p x ρ = some ρ1 ∧ Tr d (evSs kin C rest ρ1) Po noX) : Tr (c + d) (evSs kin C (.cons (.asg p e) rest) ρ) Po noX := by
  refine cons_tr ?_
  rw [evS_asg]
  have : Tr (c + 0) (exO (evE kin C e ρ) ρ fun d => do
      let ρ' ← M.op (asgP p d ρ)
      pure (.nx ρ')) (thenP kin C d rest Po) noX := by
    refine exO_tr h1 (fun x hx => ?_) fun _ h => h.elim
    obtain ⟨ρ1, e1, t⟩ := h2 x hx
    rw [e1]
    exact Tr.pure t
  exact this
theorem tr_ret (h1 : Tr c (evE kin C e ρ) (fun d => Po (.ret d)) noX) : Tr c (evSs kin C (.cons (.ret e) rest) ρ) Po noX := by
  have : Tr (c + 0) (evSs kin C (.cons (.ret e) rest) ρ) Po noX := by
    refine cons_tr ?_
    unfold evS
    have : Tr (c + 0) (exO (evE kin C e ρ) ρ fun d => pure (.ret d)) (thenP kin C 0 rest Po) noX := exO_tr h1 (fun x hx => Tr.pure hx) fun _ h => h.elim
    exact this
  exact this
theorem tr_iff {q : Q} {x y : Ss} {Pb : Bool → Prop} (h1 : Tr c (evT kin C q ρ) Pb noX) (h2 : Pb true → Tr d (evSs kin C x ρ >>= goOn kin C rest) Po noX) (h3 : Pb false → Tr d (evSs kin C y ρ >>= goOn kin C rest) Po noX) : Tr (c + d) (evSs kin C (.cons (.iff q x y) rest) ρ) Po noX := by
  rw [evSs_cons]
  unfold evS exO
  rw [bind_assoc]
  refine Tr.bind (att_tr h1 (P2 := fun e => match e with | .ok a => Pb a | .error _ => False) (fun _ h => h) fun _ h => h.elim) fun o ho => ?_
  cases o with
  | error x => exact ho.elim
  | ok p =>
    cases p with
    | true => exact h2 ho
    | false => exact h3 ho
theorem tr_iffE {q : Q} {x y : Ss} {p : Bool} (h1 : evT kin C q ρ = pure p) (h2 : p = true → Tr d (evSs kin C x ρ >>= goOn kin C rest) Po noX) (h3 : p = false → Tr d (evSs kin C y ρ >>= goOn kin C rest) Po noX) : Tr d (evSs kin C (.cons (.iff q x y) rest) ρ) Po noX := by
  rw [iff_pure h1]
  cases p with
  | true => exact h2 rfl
  | false => exact h3 rfl
theorem tr_frl {p : List Nat} {it : I} {b : Ss} {xs : List D} {m : Nat} (I : Nat → Fe → Prop) (h : evI kin C it ρ = pure xs) (hm : xs.length ≤ m) (hs : ∀ i x ρ, xs[i]? = some x → I i ρ → ∃ ρ1, asgP p x ρ = some ρ1 ∧ Tr c (evSs kin C b ρ1) (turnP (I (i + 1)) (thenP kin C d rest Po)) noX)
    (h0 : I 0 ρ) (he : ∀ ρ, I xs.length ρ → Tr d (evSs kin C rest ρ) Po noX) : Tr (m * c + d) (evSs kin C (.cons (.frl p it b) rest) ρ) Po noX := by
  refine cons_tr ?_
  unfold evS
  rw [h]
  refine Tr.le (c := xs.length * c) ?_ (Nat.mul_le_mul_right c hm)
  refine forM_tr (I := I) (i := 0) (fun j x ρ hx hI => ?_) h0 fun ρ hI => he ρ (by rw [Nat.zero_add] at hI; exact hI)
  rw [Nat.zero_add] at hI ⊢
  obtain ⟨ρ1, e1, t⟩ := hs j x ρ hx hI
  show Tr c (M.op (asgP p x ρ) >>= fun ρ1 => evSs kin C b ρ1) _ _
  rw [e1]
  exact t
theorem tr_nil (h : Po (.nx ρ)) : Tr c (evSs kin C .nil ρ) Po noX := nil_tr h
end

/-! ### texts by their signs -/
def mkS (l : List Nat) : Str := ⟨l.toArray⟩
theorem mkS_cps (z : Str) : z = mkS z.cps.toList := by cases z; rfl
theorem mkS_len (l : List Nat) : (mkS l).length = l.length := List.size_toArray
theorem mkS_list (l : List Nat) : (mkS l).cps.toList = l := rfl
theorem mkS_app (l m : List Nat) : mkS l ++ mkS m = mkS (l ++ m) := by
  show (⟨l.toArray ++ m.toArray⟩ : Str) = ⟨(l ++ m).toArray⟩
  congr 1
  simp
theorem mkS_inj {l m : List Nat} : mkS l = mkS m ↔ l = m := by
  constructor
  · intro h
    have := congrArg (fun z : Str => z.cps.toList) h
    exact this
  · intro h; rw [h]
theorem cut_from {l : List Nat} {k : Nat} (h : k ≤ l.length) : cutS (mkS l) (some (k : Int)) none = mkS (l.drop k) := by
  unfold cutS
  have e : HT.sIx (mkS l).length 0 (some (k : Int)) = k := by rw [HT.sIx_nat, mkS_len]; omega
  have e2 : HT.sIx (mkS l).length (mkS l).length none = l.length := by rw [HT.sIx_none, mkS_len]
  rw [e, e2, mkS_list]
  show mkS _ = mkS _
  congr 1
  apply List.take_of_length_le
  simp
theorem cut_to {l : List Nat} {k : Nat} (h : k ≤ l.length) : cutS (mkS l) none (some (k : Int)) = mkS (l.take k) := by
  unfold cutS
  have e : HT.sIx (mkS l).length (mkS l).length (some (k : Int)) = k := by rw [HT.sIx_nat, mkS_len]; omega
  have e2 : HT.sIx (mkS l).length 0 none = 0 := rfl
  rw [e, e2, mkS_list]
  rfl
theorem mul_sign (c k : Nat) : mulStr (mkS [c]) k = mkS (List.replicate k c) := by
  unfold mulStr
  show mkS _ = mkS _
  congr 1
  induction k with
  | zero => rfl
  | succ k ih => rw [List.replicate_succ, List.flatten_cons, ih, List.replicate_succ]; rfl
theorem sl_from {l : List Nat} {k : Nat} (hl : l.length ≤ 100000) (h : k ≤ l.length) : slD (.str (mkS l)) (.int (k : Int)) .non = some (.str (mkS (l.drop k))) := by
  show (if (mkS l).length ≤ sizeLine then some (D.str (cutS (mkS l) (some (k : Int)) none)) else none) = _
  rw [if_pos (by rw [mkS_len]; exact sz hl), cut_from h]
theorem sl_to {l : List Nat} {k : Nat} (hl : l.length ≤ 100000) (h : k ≤ l.length) : slD (.str (mkS l)) .non (.int (k : Int)) = some (.str (mkS (l.take k))) := by
  show (if (mkS l).length ≤ sizeLine then some (D.str (cutS (mkS l) none (some (k : Int)))) else none) = _
  rw [if_pos (by rw [mkS_len]; exact sz hl), cut_to h]
theorem add_mk {l m : List Nat} (h : l.length + m.length ≤ 100000) : binD .Add (.str (mkS l)) (.str (mkS m)) = some (.str (mkS (l ++ m))) := by
  rw [add_str (by rw [mkS_len, mkS_len]; exact sz h), mkS_app]
def letS : Str := "abcdefghijklmnopqrstuvwxyz"
theorem let_at {j : Nat} (h : j < 26) : subD (.str letS) (.int (j : Int)) = some (.str (mkS [97 + j])) := by
  have hat : ∀ j, j < 26 → letS.cps.toList[j]? = some (97 + j) := by decide +kernel
  show (if letS.length ≤ sizeLine then (atI letS.cps.toList (j : Int)).map fun c => D.str ⟨#[c]⟩ else none) = _
  rw [if_pos (sz (by decide +kernel))]
  have e : atI letS.cps.toList (j : Int) = some (97 + j) := by
    unfold atI
    have hl : letS.cps.toList.length = 26 := by decide +kernel
    have : ixN letS.cps.toList.length (j : Int) = some j := by
      unfold ixN
      rw [if_pos (by omega), if_pos (by rw [hl]; omega)]
      simp
    rw [this]
    exact hat j h
  rw [e]; rfl
/-- letters -/
def Lets (l : List Nat) : Prop := ∀ c ∈ l, 97 ≤ c ∧ c < 123
theorem let_mem {c : Nat} (h0 : 97 ≤ c) (h1 : c < 123) : c ∈ letters := by
  have : ∀ c, c < 123 → 97 ≤ c → c ∈ letters := by decide +kernel
  exact this c h1 h0
theorem isW_mk {l : List Nat} (h : Lets l) (h0 : 1 ≤ l.length) (h1 : l.length ≤ 8) : isW (mkS l) = true := by
  unfold isW
  rw [mkS_len, Bool.and_eq_true]
  refine ⟨decide_eq_true ⟨h0, h1⟩, List.all_eq_true.mpr fun c hc => ?_⟩
  have := h c hc
  exact decide_eq_true (let_mem this.1 this.2)
end RM
end
section
set_option Elab.async false
set_option linter.all false
set_option maxRecDepth 100000
set_option autoImplicit false
/-! values: drawn names and roads -/
namespace RM
open PySem PySem.Spec PyProof.Rows L2

section
variable {kin : Kin} {C : Orc} {ρ : Fe} {c d e : Nat} {rest : Ss} {Po : Out → Prop} {X : D → Prop}
theorem tr_frlD {p : List Nat} {it : I} {b : Ss} {m : Nat} {Px : List D → Prop} (I : List D → Nat → Fe → Prop) (h : Tr e (evI kin C it ρ) Px noX) (hm : ∀ xs, Px xs → xs.length ≤ m)
    (hs : ∀ xs, Px xs → ∀ i x ρ, xs[i]? = some x → I xs i ρ → ∃ ρ1, asgP p x ρ = some ρ1 ∧ Tr c (evSs kin C b ρ1) (turnP (I xs (i + 1)) (thenP kin C d rest Po)) noX)
    (h0 : ∀ xs, Px xs → I xs 0 ρ) (he : ∀ xs, Px xs → ∀ ρ, I xs xs.length ρ → Tr d (evSs kin C rest ρ) Po noX) : Tr (e + m * c + d) (evSs kin C (.cons (.frl p it b) rest) ρ) Po noX := by
  refine cons_tr ?_
  unfold evS
  refine exO_tr h (fun xs hx => ?_) fun _ h => h.elim
  refine Tr.le (c := xs.length * c) ?_ (Nat.mul_le_mul_right c (hm xs hx))
  refine forM_tr (I := I xs) (i := 0) (fun j x ρ hx' hI => ?_) (h0 xs hx) fun ρ hI => he xs hx ρ (by rw [Nat.zero_add] at hI; exact hI)
  rw [Nat.zero_add] at hI ⊢
  obtain ⟨ρ1, e1, t⟩ := hs xs hx j x ρ hx' hI
  show Tr c (M.op (asgP p x ρ) >>= fun ρ1 => evSs kin C b ρ1) _ _
  rw [e1]
  exact t
theorem rng_nat (n : Nat) : rngD 0 n = (List.range n).map fun (i : Nat) => D.int (i : Int) := by
  unfold rngD
  apply List.map_congr_left
  intro i _
  congr 1
  omega
theorem rng_at {n i : Nat} {x : D} (h : (rngD 0 n)[i]? = some x) : i < n ∧ x = .int (i : Int) := by
  have hik : i < n := by
    have := (List.getElem?_eq_some_iff.mp h).1
    rwa [rngD_length] at this
  rw [rng_nat, List.getElem?_map, List.getElem?_range hik] at h
  exact ⟨hik, (Option.some.inj h).symm⟩
/-- a range by a drawn number -/
theorem tr_rngD {e' : E} {n : Nat} (h : Tr e (evE kin C e' ρ) (fun d => ∃ j : Nat, j < n ∧ d = .int j) X) (hn : n ≤ 100000) : Tr e (evI kin C (.rng1 e') ρ) (fun xs => ∃ j, j < n ∧ xs = rngD 0 j) X := by
  have hz := sizeLine_eq
  unfold evI
  have : Tr (e + 0) (do
      match ← evE kin C e' ρ with
      | .int j => if -(2 ^ 62) ≤ j ∧ j ≤ sizeLine then pure (rngD 0 j.toNat) else M.fail
      | _ => M.fail) (fun xs => ∃ j, j < n ∧ xs = rngD 0 j) X := by
    refine Tr.bind h fun d ⟨j, hj, ed⟩ => ?_
    subst ed
    dsimp only
    rw [if_pos ⟨by omega, by omega⟩]
    exact Tr.pure ⟨j, hj, rfl⟩
  exact this
end
theorem mod26 (f b k k' : Nat) (hk : k < 8) (hk' : k' < 8) (hb : b = 1 ∨ b = 3 ∨ b = 5) (h : (f + b * k) % 26 = (f + b * k') % 26) : k = k' := by
  rcases hb with rfl | rfl | rfl <;> omega
section
variable {kin : Kin} {C : Orc} {X : D → Prop}
/-- distinct words -/
def NamesOk (many : Nat) (d : D) : Prop := ∃ ws : List Str, d = .lst (ws.map .str) ∧ ws.length = many ∧ ws.Nodup ∧ ∀ w ∈ ws, isW w = true
theorem nodup_map {f : Nat → Str} {n : Nat} (h : ∀ i j, i < n → j < n → f i = f j → i = j) : ((List.range n).map f).Nodup := by
  rw [List.Nodup, List.pairwise_map]
  refine List.Pairwise.imp_of_mem ?_ (List.nodup_range (n := n))
  intro a b ha hb hab e
  exact hab (h a b (List.mem_range.mp ha) (List.mem_range.mp hb) e)
theorem lets_take {l : List Nat} (h : Lets l) (k : Nat) : Lets (l.take k) := fun c hc => h c (List.mem_of_mem_take hc)
theorem lets_drop {l : List Nat} (h : Lets l) (k : Nat) : Lets (l.drop k) := fun c hc => h c (List.mem_of_mem_drop hc)
theorem lets_app {l m : List Nat} (h : Lets l) (h' : Lets m) : Lets (l ++ m) := fun c hc => (List.mem_append.mp hc).elim (h c) (h' c)
theorem names_tr (hC : C "_law_next" = orcNext) {many : Nat} (h1 : 1 ≤ many) (h8 : many ≤ 8) : Tr 12 (runF kin C 7 c__law_names [.drw, .int many]) (NamesOk many) X := by
  have hz := sizeLine_eq
  refine run_tr ?_
  show Tr 12 (evSs kin C c__law_names [.val .drw, .val (.int many), .emp, .emp, .emp, .emp, .emp, .emp, .emp]) _ noX
  unfold c__law_names
  refine Tr.le (c := 0 + (1 + 7 * 1 + 3)) (tr_asg (Pa := fun x => x = .tup [.str letS, .str (mkS [])]) (Tr.of (ev_tup (ev_es ev_c (ev_es ev_c ev_es0)) (sz (by simp))) (by rfl)) fun x hx => ?_) (by decide)
  subst hx
  refine ⟨[.val .drw, .val (.int many), .val (.str letS), .val (.str (mkS [])), .emp, .emp, .emp, .emp, .emp], rfl, ?_⟩
  refine tr_frlD (Px := fun xs => ∃ j, j < 8 ∧ xs = rngD 0 j) (fun xs i ρ => ∃ l : List Nat, l.length = i ∧ Lets l ∧ ∃ s4, ρ = [.val .drw, .val (.int many), .val (.str letS), .val (.str (mkS l)), s4, .emp, .emp, .emp, .emp])
    (tr_rngD (tr_next (n := 8) hC rfl ev_c (by decide) (by decide)) (by decide)) (fun xs ⟨j, hj, e⟩ => by subst e; rw [rngD_length]; omega) ?_ (fun xs _ => ⟨[], rfl, (fun _ h => nomatch h), .emp, rfl⟩) ?_
  · rintro xs ⟨j, hj, rfl⟩ i x ρ hx ⟨l, hl, hlt, s4, rfl⟩
    obtain ⟨hij, rfl⟩ := rng_at hx
    refine ⟨[.val .drw, .val (.int many), .val (.str letS), .val (.str (mkS l)), .val (.int i), .emp, .emp, .emp, .emp], rfl, ?_⟩
    refine Tr.le (c := (0 + (0 + 1)) + 0) (tr_asg (Pa := fun d => ∃ c, 97 ≤ c ∧ c < 123 ∧ d = .str (mkS (l ++ [c]))) (tr_bin (Pa := fun d => d = .str (mkS l)) (Tr.of (ev_b rfl) rfl) fun d hd => ?_) fun d hd => ?_) (by decide)
    · subst hd
      refine (tr_sub (P := fun y => ∃ c, 97 ≤ c ∧ c < 123 ∧ y = .str (mkS [c])) (Pa := fun d => d = .str letS) (Tr.of (ev_b rfl) rfl) fun d hd => ?_).imp ?_
      · subst hd
        refine (tr_next (n := 26) hC rfl ev_c (by decide) (by decide)).imp ?_
        rintro y ⟨q, hq, rfl⟩
        exact ⟨_, let_at hq, 97 + q, by omega, by omega, rfl⟩
      · rintro y ⟨c, c0, c1, rfl⟩
        exact ⟨_, add_mk (by simp; omega), c, c0, c1, rfl⟩
    · obtain ⟨c, c0, c1, rfl⟩ := hd
      refine ⟨_, rfl, tr_nil ?_⟩
      refine ⟨l ++ [c], by simp [hl], lets_app hlt (fun y hy => ?_), .val (.int i), rfl⟩
      have : y = c := by simpa using hy
      subst this
      exact ⟨c0, c1⟩
  · rintro xs ⟨j, hj, rfl⟩ ρ ⟨l, hl, hlt, s4, rfl⟩
    rw [rngD_length] at hl
    have l7 : l.length ≤ 7 := by omega
    refine Tr.le (c := (1 + (1 + ((0 + 1) + 0))) + 0) (tr_asg (Pa := fun d => ∃ at_ first by_ : Nat, at_ ≤ l.length ∧ first < 26 ∧ by_ ∈ [1, 3, 5, 7, 9, 11] ∧ d = .tup [.int at_, .int first, .int by_]) (tr_tup (tr_es (tr_next (n := l.length + 1) hC rfl ?_ (by omega) (by omega)) fun x hx => ?_)) fun x hx => ?_) (by decide)
    · have hlen : evE kin C (.bi .len (.cons (.b 3) .nil)) [.val .drw, .val (.int many), .val (.str letS), .val (.str (mkS l)), s4, .emp, .emp, .emp, .emp] = pure (.int (l.length : Int)) := by
        have := ev_bi1 (kin := kin) (C := C) (ρ := [.val .drw, .val (.int many), .val (.str letS), .val (.str (mkS l)), s4, .emp, .emp, .emp, .emp]) (a := .b 3) (f := .len) (ev_b rfl) (len_str (z := mkS l) (by rw [mkS_len]; exact sz (by omega)))
        rw [mkS_len] at this
        exact this
      exact ev_bin hlen ev_c (add_int _ _)
    · obtain ⟨at_, ha, rfl⟩ := hx
      refine tr_es (tr_next (n := 26) hC rfl ev_c (by decide) (by decide)) fun x hx => ?_
      obtain ⟨first, hf, rfl⟩ := hx
      refine tr_es (Pa := fun d => ∃ b : Nat, b ∈ [1, 3, 5, 7, 9, 11] ∧ d = .int b) (tr_sub (Pa := fun d => d = .lst [.int 1, .int 3, .int 5, .int 7, .int 9, .int 11]) (Tr.of (ev_lst (ev_es ev_c (ev_es ev_c (ev_es ev_c (ev_es ev_c (ev_es ev_c (ev_es ev_c ev_es0)))))) (sz (by simp))) rfl) fun d hd => ?_) fun y hy => ?_
      · subst hd
        refine (tr_next (n := 6) hC rfl ev_c (by decide) (by decide)).imp ?_
        rintro y ⟨q, hq, rfl⟩
        match q, hq with
        | 0, _ => exact ⟨.int 1, rfl, 1, by simp, rfl⟩
        | 1, _ => exact ⟨.int 3, rfl, 3, by simp, rfl⟩
        | 2, _ => exact ⟨.int 5, rfl, 5, by simp, rfl⟩
        | 3, _ => exact ⟨.int 7, rfl, 7, by simp, rfl⟩
        | 4, _ => exact ⟨.int 9, rfl, 9, by simp, rfl⟩
        | 5, _ => exact ⟨.int 11, rfl, 11, by simp, rfl⟩
        | q + 6, h => omega
      · obtain ⟨b, hb, rfl⟩ := hy
        exact tr_es0 ⟨sz (by simp), at_, first, b, by omega, hf, hb, rfl⟩
    · obtain ⟨at_, first, by_, ha, hf, hb, rfl⟩ := hx
      refine ⟨[.val .drw, .val (.int many), .val (.str letS), .val (.str (mkS l)), s4, .val (.int at_), .val (.int first), .val (.int by_), .emp], rfl, ?_⟩
      let wd : List Nat := (l ++ List.replicate 8 (97 + first)).take 8
      have hwl : wd.length = 8 := by simp [wd]
      have hwt : Lets wd := lets_take (lets_app hlt fun c hc => by
        have := List.eq_of_mem_replicate hc
        omega) 8
      have word : evE kin C (.sl (.bin .Add (.b 3) (.bin .Mult (.sub (.b 2) (.b 6)) (.c (.int 8)))) (.c .non) (.bnd (.c (.int 8)))) [.val .drw, .val (.int many), .val (.str letS), .val (.str (mkS l)), s4, .val (.int at_), .val (.int first), .val (.int by_), .emp] = pure (.str (mkS wd)) := by
        refine ev_sl (ev_bin (ev_b rfl) (ev_bin (ev_sub (ev_b rfl) (ev_b rfl) (let_at hf)) ev_c ?_) (add_mk (m := List.replicate 8 (97 + first)) (by simp; omega))) ev_c (ev_bnd ev_c) (sl_to (k := 8) (by simp; omega) (by simp))
        show (if 0 ≤ (8 : Int) ∧ (8 : Int) ≤ 1000 ∧ (mkS [97 + first]).length ≤ 1000 then some (D.str (mulStr (mkS [97 + first]) (8 : Int).toNat)) else none) = _
        rw [if_pos ⟨by decide, by decide, by rw [mkS_len]; simp⟩]
        show some (D.str (mulStr (mkS [97 + first]) 8)) = _
        rw [mul_sign]
      refine Tr.le (c := 0 + 0) (tr_asg (Pa := fun d => d = .str (mkS wd)) (Tr.of word rfl) fun d hd => ?_) (by decide)
      subst hd
      refine ⟨[.val .drw, .val (.int many), .val (.str letS), .val (.str (mkS l)), s4, .val (.int at_), .val (.int first), .val (.int by_), .val (.str (mkS wd))], rfl, ?_⟩
      have range : ∀ s4, evI kin C (.rng1 (.b 1)) [.val .drw, .val (.int many), .val (.str letS), .val (.str (mkS l)), s4, .val (.int at_), .val (.int first), .val (.int by_), .val (.str (mkS wd))] = pure ((List.range many).map fun (i : Nat) => D.int (i : Int)) := fun s4 => by
        rw [← rng_nat]
        exact evI_rng1 (j := (many : Int)) (ev_b rfl) (by omega) (by omega)
      refine tr_iffE (p := decide (5 < by_)) ((evQ_and (q := true) (evQ_bl (ev_cmp (ev_b rfl) ev_c (gt_int _ _))) fun _ => ?_).trans ?_) (fun hq => ?_) fun hq => ?_
      · refine (evQ_bl (ev_cmp (ev_b rfl) ev_c (lt_int _ _))).trans ?_
        rw [decide_eq_true (show (many : Int) < 9 by omega)]
      · rw [Bool.and_true]
        congr 1
        apply decide_eq_decide.mpr
        omega
      · have hq := of_decide_eq_true hq
        -- words cut off
        have lc : evE kin C (.lc [4] [4] (.rng1 (.b 1)) .yes (.ife (.val (.cmp .Gt (.b 7) (.c (.int 7)))) (.sl (.b 8) (.bnd (.b 4)) (.c .non)) (.sl (.b 8) (.c .non) (.bnd (.bin .Sub (.bin .Add (.b 4) (.c (.int 9))) (.b 1))))))
            [.val .drw, .val (.int many), .val (.str letS), .val (.str (mkS l)), s4, .val (.int at_), .val (.int first), .val (.int by_), .val (.str (mkS wd))] = pure (.lst ((List.range many).map fun i => D.str (mkS (if 7 < by_ then wd.drop i else wd.take (i + 9 - many))))) := by
          refine (lc_map (ls := List.range many) (fun i => some (D.str (mkS (if 7 < by_ then wd.drop i else wd.take (i + 9 - many))))) (range s4) (by rw [List.length_range]; exact sz (by omega)) fun i hi => ?_).trans (by rw [fm_some])
          have hi := List.mem_range.mp hi
          refine lcF_yes (ρ1 := [.val .drw, .val (.int many), .val (.str letS), .val (.str (mkS l)), .val (.int i), .val (.int at_), .val (.int first), .val (.int by_), .val (.str (mkS wd))]) rfl (ev_ife (p := decide ((7 : Int) < by_)) (evQ_bl (ev_cmp (ev_b rfl) ev_c (gt_int _ _))) (fun h => ?_) fun h => ?_)
          · have h := of_decide_eq_true h
            rw [if_pos (by omega)]
            exact ev_sl (ev_b rfl) (ev_bnd (ev_b rfl)) ev_c (sl_from (by omega) (by omega))
          · have h := of_decide_eq_false h
            rw [if_neg (by omega)]
            have e9 : evE kin C (.bin .Sub (.bin .Add (.b 4) (.c (.int 9))) (.b 1)) [.val .drw, .val (.int many), .val (.str letS), .val (.str (mkS l)), .val (.int i), .val (.int at_), .val (.int first), .val (.int by_), .val (.str (mkS wd))] = pure (.int ((i + 9 - many : Nat) : Int)) := by
              refine (ev_bin (ev_bin (ev_b rfl) ev_c (add_int _ _)) (ev_b rfl) (sub_int _ _)).trans ?_
              congr 2
              omega
            exact ev_sl (ev_b rfl) ev_c (ev_bnd e9) (sl_to (by omega) (by omega))
        refine Tr.of ((congrArg (· >>= goOn kin C _) (ret_pure lc)).trans goOn_ret) ⟨(List.range many).map fun i => mkS (if 7 < by_ then wd.drop i else wd.take (i + 9 - many)), by rw [List.map_map]; rfl, by simp, nodup_map fun i j hi hj hij => ?_, fun w hw => ?_⟩
        · have := mkS_inj.mp hij
          have := congrArg List.length this
          split at this
          · simp only [List.length_drop, hwl] at this; omega
          · simp only [List.length_take, hwl] at this; omega
        · obtain ⟨i, hi, rfl⟩ := List.mem_map.mp hw
          have hi := List.mem_range.mp hi
          split
          · exact isW_mk (lets_drop hwt i) (by simp only [List.length_drop, hwl]; omega) (by simp only [List.length_drop, hwl]; omega)
          · exact isW_mk (lets_take hwt _) (by simp only [List.length_take, hwl]; omega) (by simp only [List.length_take, hwl]; omega)
      · have hq := of_decide_eq_false hq
        have hb3 : by_ = 1 ∨ by_ = 3 ∨ by_ = 5 := by
          simp only [List.mem_cons, List.not_mem_nil, or_false] at hb
          omega
        have lc : evE kin C (.lc [4] [4] (.rng1 (.b 1)) .yes (.bin .Add (.bin .Add (.sl (.b 3) (.c .non) (.bnd (.b 5))) (.sub (.b 2) (.bin .Mod (.bi .int1 (.cons (.bin .Add (.b 6) (.bin .Mult (.b 7) (.b 4))) .nil)) (.c (.int 26))))) (.sl (.b 3) (.bnd (.b 5)) (.c .non))))
            [.val .drw, .val (.int many), .val (.str letS), .val (.str (mkS l)), s4, .val (.int at_), .val (.int first), .val (.int by_), .val (.str (mkS wd))] = pure (.lst ((List.range many).map fun i => D.str (mkS (l.take at_ ++ [97 + (first + by_ * i) % 26] ++ l.drop at_)))) := by
          refine (lc_map (ls := List.range many) (fun i => some (D.str (mkS (l.take at_ ++ [97 + (first + by_ * i) % 26] ++ l.drop at_)))) (range s4) (by rw [List.length_range]; exact sz (by omega)) fun i hi => ?_).trans (by rw [fm_some])
          have hi := List.mem_range.mp hi
          have em : evE kin C (.bin .Mod (.bi .int1 (.cons (.bin .Add (.b 6) (.bin .Mult (.b 7) (.b 4))) .nil)) (.c (.int 26))) [.val .drw, .val (.int many), .val (.str letS), .val (.str (mkS l)), .val (.int i), .val (.int at_), .val (.int first), .val (.int by_), .val (.str (mkS wd))] = pure (.int (((first + by_ * i) % 26 : Nat) : Int)) := by
            refine (ev_bin (ev_bi1 (ev_bin (ev_b rfl) (ev_bin (ev_b rfl) (ev_b rfl) (bMulR (by omega) (by omega))) (add_int _ _)) bI1) ev_c (bMd (by decide))).trans ?_
            congr 2
          refine lcF_yes (ρ1 := [.val .drw, .val (.int many), .val (.str letS), .val (.str (mkS l)), .val (.int i), .val (.int at_), .val (.int first), .val (.int by_), .val (.str (mkS wd))]) rfl ?_
          refine ev_bin (ev_bin (ev_sl (ev_b rfl) ev_c (ev_bnd (ev_b rfl)) (sl_to (by omega) ha)) (ev_sub (ev_b rfl) em (let_at (Nat.mod_lt _ (by decide)))) (add_mk (by simp; omega))) (ev_sl (ev_b rfl) (ev_bnd (ev_b rfl)) ev_c (sl_from (by omega) ha)) (add_mk (by simp; omega))
        rw [evSs_nil, goOn_nx]
        refine Tr.of (ret_pure lc) ⟨(List.range many).map fun i => mkS (l.take at_ ++ [97 + (first + by_ * i) % 26] ++ l.drop at_), by rw [List.map_map]; rfl, by simp, nodup_map fun i j hi hj hij => ?_, fun w hw => ?_⟩
        · have := mkS_inj.mp hij
          have := List.append_cancel_right this
          have := List.append_cancel_left this
          have : 97 + (first + by_ * i) % 26 = 97 + (first + by_ * j) % 26 := by simpa using this
          exact mod26 first by_ i j (by omega) (by omega) hb3 (by omega)
        · obtain ⟨i, hi, rfl⟩ := List.mem_map.mp hw
          refine isW_mk (lets_app (lets_app (lets_take hlt _) fun c hc => ?_) (lets_drop hlt _)) (by simp; omega) (by simp; omega)
          have : c = 97 + (first + by_ * i) % 26 := by simpa using hc
          have := Nat.mod_lt (first + by_ * i) (show 0 < 26 by decide)
          omega
end
end RM
end
section
set_option Elab.async false
set_option linter.all false
set_option maxRecDepth 100000
set_option autoImplicit false
/-! values: what may be shown; odd things, bent things -/
namespace RM
open PySem PySem.Spec PyProof.Rows L2

/-! ### how long data are shown -/
mutual
def D.wt : D → Nat
  | .str z => z.length + 1
  | .tup xs => D.wts xs + 1
  | .lst xs => D.wts xs + 1
  | _ => 1
def D.wts : List D → Nat
  | [] => 0
  | x :: xs => x.wt + D.wts xs
end
/-- a letter, a figure, a blank -/
def okCh (c : Nat) : Bool := c == 32 || (decide (48 ≤ c) && decide (c ≤ 57)) || (decide (65 ≤ c) && decide (c ≤ 90)) || (decide (97 ≤ c) && decide (c ≤ 122))
theorem okCh_lt {c : Nat} (h : okCh c = true) : c < 123 := by
  unfold okCh at h
  simp only [Bool.or_eq_true, beq_iff_eq, Bool.and_eq_true, decide_eq_true_eq] at h
  omega
mutual
/-- ints below B, texts of letters, figures and blanks, {} alone as a dict -/
def D.fine (B : Nat) : D → Bool
  | .non => true
  | .bl _ => true
  | .int i => decide (i.natAbs < B)
  | .str z => z.cps.toList.all okCh
  | .tup xs => D.fines B xs
  | .lst xs => D.fines B xs
  | .dct kvs => kvs.isEmpty
  | _ => false
def D.fines (B : Nat) : List D → Bool
  | [] => true
  | x :: xs => x.fine B && D.fines B xs
end
theorem textFrom_le : ∀ (ts : List Str) (k : Nat) (acc : Str), (PySem.textFrom k acc ts).length ≤ acc.length + PySem.piled ts
  | [], k, acc => by show acc.length ≤ _; omega
  | t :: r, k, acc => by
    have ih := textFrom_le r (k + 1) (acc ++ (if k > 0 then ", " else "" : String) ++ t)
    have e : (acc ++ (if k > 0 then ", " else "" : String) ++ t).length = acc.length + (if k > 0 then 2 else 0) + t.length := by
      rw [PySem.Str.length_append, PySem.Str.length_append]
      split <;> rfl
    rw [e] at ih
    show (PySem.textFrom (k + 1) _ r).length ≤ _
    rw [PySem.piled_cons]
    have d1 : (if k > 0 then 2 else 0 : Nat) ≤ 2 := by split <;> omega
    omega
theorem tupleText_le (ts : List Str) : (PySem.tupleText ts).length ≤ PySem.piled ts + 4 := by
  unfold PySem.tupleText
  rw [PySem.Str.length_append, PySem.Str.length_append]
  have e3 : (((if ts.length == 1 then ",)" else ")" : String) : Str)).length ≤ 2 := by split <;> decide
  have e1 : ((("(" : String) : Str)).length = 1 := rfl
  rw [e1]
  by_cases h : ts = []
  · subst h
    show 1 + 0 + _ ≤ _
    omega
  · have := PySem.join_length_add ts h
    omega
theorem listText_le (ts : List Str) : (PySem.listText ts).length ≤ PySem.piled ts + 4 := by
  unfold PySem.listText
  rw [PySem.Str.length_append]
  have := textFrom_le ts 0 "["
  have e1 : ((("[" : String) : Str)).length = 1 := rfl
  have e2 : ((("]" : String) : Str)).length = 1 := rfl
  omega
mutual
theorem shown_le : ∀ {d : D}, d.fine (10 ^ 40) = true → d.pd.shown.length + 4 ≤ 60 * d.wt
  | .non, _ => by decide
  | .bl b, _ => by cases b <;> decide
  | .int i, h => by
    have h : i.natAbs < 10 ^ 40 := by simpa [D.fine] using h
    have := int_text_length_le10 (k := 40) (by decide) h
    show (Str.ofString (toString i)).length + 4 ≤ 60 * 1
    rw [PySem.ofString_length]
    omega
  | .str z, h => by
    have h : ∀ c ∈ z.cps.toList, c < 16 ^ 8 := by
      intro c hc
      have := okCh_lt (List.all_eq_true.mp h c hc)
      omega
    have := StrLaws.reprText_len z h
    show (PySem.reprText z).length + 4 ≤ 60 * (z.length + 1)
    omega
  | .tup xs, h => by
    have h : D.fines (10 ^ 40) xs = true := h
    have := piled_shown h
    have := tupleText_le (PyData.shownAll (D.pds xs))
    show (PySem.tupleText (PyData.shownAll (D.pds xs))).length + 4 ≤ 60 * (D.wts xs + 1)
    omega
  | .lst xs, h => by
    have h : D.fines (10 ^ 40) xs = true := h
    have := piled_shown h
    have := listText_le (PyData.shownAll (D.pds xs))
    show (PySem.listText (PyData.shownAll (D.pds xs))).length + 4 ≤ 60 * (D.wts xs + 1)
    omega
  | .dct kvs, _ => by
    show (PyData.dict []).shown.length + 4 ≤ 60 * 1
    decide
theorem piled_shown : ∀ {xs : List D}, D.fines (10 ^ 40) xs = true → PySem.piled (PyData.shownAll (D.pds xs)) ≤ 60 * D.wts xs
  | [], _ => by decide
  | x :: xs, h => by
    have h : (x.fine (10 ^ 40) && D.fines (10 ^ 40) xs) = true := h
    obtain ⟨h1, h2⟩ := (Bool.and_eq_true _ _).mp h
    have q1 := shown_le h1
    have q2 := piled_shown h2
    show PySem.piled (x.pd.shown :: PyData.shownAll (D.pds xs)) ≤ 60 * (x.wt + D.wts xs)
    rw [PySem.piled_cons]
    omega
end
end RM
end
section
set_option Elab.async false
set_option linter.all false
set_option maxRecDepth 100000
set_option autoImplicit false
/-! values: things of bounded size -/
namespace RM
open PySem PySem.Spec PyProof.Rows L2

/-- a thing: ints below B, size w, depth e -/
structure Th (B w e : Nat) (d : D) : Prop where
  fine : d.fine B = true
  wt : d.wt ≤ w
  dep : d.pd.depth ≤ e
/-- things of a row -/
structure Ths (B w e : Nat) (xs : List D) : Prop where
  fine : D.fines B xs = true
  wt : D.wts xs ≤ w
  dep : PyData.depthAll (D.pds xs) ≤ e
section
variable {B B' w w' e e' : Nat} {d : D} {xs ys : List D}
mutual
theorem fine_le (h : B ≤ B') : ∀ {d : D}, d.fine B = true → d.fine B' = true
  | .non, _ => rfl
  | .bl _, _ => rfl
  | .int i, q => by
    have q : decide (i.natAbs < B) = true := q
    have q := of_decide_eq_true q
    exact decide_eq_true (by omega)
  | .str _, q => q
  | .tup xs, q => fines_le h (xs := xs) q
  | .lst xs, q => fines_le h (xs := xs) q
  | .dct _, q => q
theorem fines_le (h : B ≤ B') : ∀ {xs : List D}, D.fines B xs = true → D.fines B' xs = true
  | [], _ => rfl
  | x :: xs, q => by
    have q : (x.fine B && D.fines B xs) = true := q
    obtain ⟨q1, q2⟩ := (Bool.and_eq_true _ _).mp q
    show (x.fine B' && D.fines B' xs) = true
    rw [fine_le h q1, fines_le h q2]; rfl
end
theorem Th.mono (h : Th B w e d) (hB : B ≤ B') (hw : w ≤ w') (he : e ≤ e') : Th B' w' e' d := ⟨fine_le hB h.fine, by have := h.wt; omega, by have := h.dep; omega⟩
theorem Ths.mono (h : Ths B w e xs) (hB : B ≤ B') (hw : w ≤ w') (he : e ≤ e') : Ths B' w' e' xs := ⟨fines_le hB h.fine, by have := h.wt; omega, by have := h.dep; omega⟩
theorem Ths.nil : Ths B w e [] := ⟨rfl, Nat.zero_le _, by show 0 ≤ e; omega⟩
theorem Ths.cons (h : Th B w e d) (t : Ths B w' e xs) : Ths B (w + w') e (d :: xs) := by
  refine ⟨?_, ?_, ?_⟩
  · show (d.fine B && D.fines B xs) = true
    rw [h.fine, t.fine]; rfl
  · show d.wt + D.wts xs ≤ _
    have := h.wt; have := t.wt; omega
  · show max d.pd.depth (PyData.depthAll (D.pds xs)) ≤ e
    have := h.dep; have := t.dep; omega
theorem Ths.app (h : Ths B w e xs) (t : Ths B w' e ys) : Ths B (w + w') e (xs ++ ys) := by
  obtain ⟨h1, h2, h3⟩ := h
  induction xs generalizing w with
  | nil => exact t.mono (Nat.le_refl _) (by omega) (Nat.le_refl _)
  | cons x xs ih =>
    have h1 : (x.fine B && D.fines B xs) = true := h1
    obtain ⟨q1, q2⟩ := (Bool.and_eq_true _ _).mp h1
    have h2 : x.wt + D.wts xs ≤ w := h2
    have h3 : max x.pd.depth (PyData.depthAll (D.pds xs)) ≤ e := h3
    have := ih (w := D.wts xs) q2 (Nat.le_refl _) (by omega)
    exact (Ths.cons ⟨q1, Nat.le_refl _, by omega⟩ this).mono (Nat.le_refl _) (by omega) (Nat.le_refl _)
theorem Ths.head (h : Ths B w e (d :: xs)) : Th B d.wt e d ∧ Ths B (D.wts xs) e xs ∧ d.wt + D.wts xs ≤ w := by
  obtain ⟨h1, h2, h3⟩ := h
  have h1 : (d.fine B && D.fines B xs) = true := h1
  obtain ⟨q1, q2⟩ := (Bool.and_eq_true _ _).mp h1
  have h2 : d.wt + D.wts xs ≤ w := h2
  have h3 : max d.pd.depth (PyData.depthAll (D.pds xs)) ≤ e := h3
  exact ⟨⟨q1, Nat.le_refl _, by omega⟩, ⟨q2, Nat.le_refl _, by omega⟩, h2⟩
/-- split at a place: the sizes add up -/
theorem Ths.split : ∀ {w : Nat} {xs : List D} (k : Nat), Ths B w e xs → ∃ w1 w2, w1 + w2 ≤ w ∧ Ths B w1 e (xs.take k) ∧ Ths B w2 e (xs.drop k)
  | w, xs, 0, h => ⟨0, w, by omega, .nil, h⟩
  | w, [], k + 1, _ => ⟨0, 0, by omega, .nil, .nil⟩
  | w, x :: xs, k + 1, h => by
    obtain ⟨h1, h2, h3⟩ := h.head
    obtain ⟨w1, w2, q, q1, q2⟩ := Ths.split k h2
    exact ⟨x.wt + w1, w2, by omega, Ths.cons h1 q1, q2⟩
theorem Ths.mem (h : Ths B w e xs) {i : Nat} (hi : xs[i]? = some d) : Th B w e d := by
  obtain ⟨w1, w2, q, _, q2⟩ := h.split i
  have : xs.drop i = d :: xs.drop (i + 1) := by
    have hl := (List.getElem?_eq_some_iff.mp hi)
    obtain ⟨hl, e1⟩ := hl
    rw [List.drop_eq_getElem_cons hl, e1]
  rw [this] at q2
  obtain ⟨h1, _, h3⟩ := q2.head
  exact h1.mono (Nat.le_refl _) (by omega) (Nat.le_refl _)
theorem wt_pos : ∀ d : D, 1 ≤ d.wt
  | .non => by decide
  | .bl _ => by exact Nat.le_refl 1
  | .int _ => by exact Nat.le_refl 1
  | .str z => by show 1 ≤ z.length + 1; omega
  | .tup xs => by show 1 ≤ D.wts xs + 1; omega
  | .lst xs => by show 1 ≤ D.wts xs + 1; omega
  | .dct _ => by exact Nat.le_refl 1
  | .ins _ _ => by exact Nat.le_refl 1
  | .exc _ _ => by exact Nat.le_refl 1
  | .scr _ => by exact Nat.le_refl 1
  | .loc _ => by exact Nat.le_refl 1
  | .drw => by exact Nat.le_refl 1
theorem len_wts : ∀ xs : List D, xs.length ≤ D.wts xs
  | [] => Nat.le_refl _
  | x :: xs => by
    have := len_wts xs
    have := wt_pos x
    show xs.length + 1 ≤ x.wt + D.wts xs
    omega
theorem Ths.len (h : Ths B w e xs) : xs.length ≤ w := Nat.le_trans (len_wts xs) h.wt
theorem Th.tup (h : Ths B w e xs) : Th B (w + 1) (e + 1) (.tup xs) := ⟨h.fine, by show D.wts xs + 1 ≤ _; have := h.wt; omega, by have := h.dep; simp only [D.pd, PyData.depth]; omega⟩
theorem Th.lst (h : Ths B w e xs) : Th B (w + 1) (e + 1) (.lst xs) := ⟨h.fine, by show D.wts xs + 1 ≤ _; have := h.wt; omega, by have := h.dep; simp only [D.pd, PyData.depth]; omega⟩
theorem Th.items (h : Th B w e (.tup xs)) : 1 ≤ w ∧ 1 ≤ e ∧ Ths B (w - 1) (e - 1) xs := by
  have h2 : D.wts xs + 1 ≤ w := h.wt
  have h3 := h.dep
  simp only [D.pd, PyData.depth] at h3
  exact ⟨by omega, by omega, h.fine, by omega, by omega⟩
theorem Th.itemsL (h : Th B w e (.lst xs)) : 1 ≤ w ∧ 1 ≤ e ∧ Ths B (w - 1) (e - 1) xs := by
  have h2 : D.wts xs + 1 ≤ w := h.wt
  have h3 := h.dep
  simp only [D.pd, PyData.depth] at h3
  exact ⟨by omega, by omega, h.fine, by omega, by omega⟩
theorem Th.str {l : List Nat} (h : ∀ c ∈ l, okCh c = true) : Th B (l.length + 1) e (.str (mkS l)) := ⟨List.all_eq_true.mpr h, by show (mkS l).length + 1 ≤ _; rw [mkS_len]; exact Nat.le_refl _, Nat.zero_le _⟩
theorem Th.signs {l : List Nat} (h : Th B w e (.str (mkS l))) : l.length + 1 ≤ w ∧ ∀ c ∈ l, okCh c = true := by
  have h2 : (mkS l).length + 1 ≤ w := h.wt
  rw [mkS_len] at h2
  exact ⟨h2, fun c hc => List.all_eq_true.mp h.fine c hc⟩
mutual
theorem fine_shw : ∀ {d : D}, d.fine B = true → d.shw = true
  | .non, _ => rfl
  | .bl _, _ => rfl
  | .int _, _ => rfl
  | .str _, _ => rfl
  | .tup xs, q => fines_shw (xs := xs) q
  | .lst xs, q => fines_shw (xs := xs) q
  | .dct _, q => q
theorem fines_shw : ∀ {xs : List D}, D.fines B xs = true → D.shws xs = true
  | [], _ => rfl
  | x :: xs, q => by
    have q : (x.fine B && D.fines B xs) = true := q
    obtain ⟨q1, q2⟩ := (Bool.and_eq_true _ _).mp q
    show (x.shw && D.shws xs) = true
    rw [fine_shw q1, fines_shw q2]; rfl
end
mutual
theorem fine_able : ∀ {d : D}, d.fine (10 ^ 40) = true → d.pd.showable = true
  | .non, _ => rfl
  | .bl _, _ => rfl
  | .int i, q => by
    have q : decide (i.natAbs < 10 ^ 40) = true := q
    have q := of_decide_eq_true q
    show decide (i.natAbs.log2 < 1920) = true
    refine decide_eq_true ?_
    by_cases z : i.natAbs = 0
    · rw [z]; decide
    · exact (Nat.log2_lt z).mpr (Nat.lt_trans q (by decide +kernel))
  | .str _, _ => rfl
  | .tup xs, q => fines_able (xs := xs) q
  | .lst xs, q => fines_able (xs := xs) q
  | .dct _, _ => rfl
theorem fines_able : ∀ {xs : List D}, D.fines (10 ^ 40) xs = true → PyData.showableAll (D.pds xs) = true
  | [], _ => rfl
  | x :: xs, q => by
    have q : (x.fine (10 ^ 40) && D.fines (10 ^ 40) xs) = true := q
    obtain ⟨q1, q2⟩ := (Bool.and_eq_true _ _).mp q
    show (x.pd.showable && PyData.showableAll (D.pds xs)) = true
    rw [fine_able q1, fines_able q2]; rfl
end
theorem Th.repr {kin : Kin} (h : Th B w e d) (hB : B ≤ 10 ^ 40) (hw : w ≤ 200000) (he : e ≤ 64) : biD kin .repr [d] = some (.str d.pd.shown) := by
  show (if reprOk d then some (D.str d.pd.shown) else none) = _
  have f := fine_le hB h.fine
  have hs := shown_le f
  have hz := sizeLine_eq
  have h1 := h.wt
  have h2 := h.dep
  rw [if_pos]
  unfold reprOk
  rw [fine_shw f, fine_able f]
  simp only [Bool.true_and, Bool.and_eq_true, decide_eq_true_eq]
  omega
theorem fine_basic {kin : Kin} (h : d.fine B = true) : d.basic kin = true := by
  cases d <;> first | rfl | cases h
theorem Th.okS (h : Th B w e d) (hw : w ≤ 100000) : d.okS = true := by
  cases d with
  | str z =>
    have := h.wt
    have h2 : z.length + 1 ≤ w := this
    exact decide_eq_true (sz (by omega))
  | _ => rfl
theorem Th.okT {kin : Kin} (h : Th B w e d) (hw : w ≤ 100000) : d.okT kin = true := by
  cases d with
  | tup xs =>
    obtain ⟨_, _, t⟩ := h.items
    show (xs.all (D.okW kin) && decide (xs.length ≤ sizeLine)) = true
    rw [Bool.and_eq_true]
    refine ⟨List.all_eq_true.mpr fun x hx => ?_, decide_eq_true (sz (by have := t.len; omega))⟩
    obtain ⟨i, hi, rfl⟩ := List.mem_iff_getElem.mp hx
    have q := t.mem (i := i) (List.getElem?_eq_getElem hi)
    show (_ && _) = true
    rw [fine_basic q.fine, q.okS (by omega)]; rfl
  | _ => exact fine_basic (kin := kin) h.fine
end
end RM
end
section
set_option Elab.async false
set_option linter.all false
set_option maxRecDepth 100000
set_option autoImplicit false
/-! values: odd things, bent things -/
namespace RM
open PySem PySem.Spec PyProof.Rows L2

def oddA : List D := [.non, .int 0, .int 1, .int 2, .int 3, .int (-1), .int 101, .int (-10), .bl true, .bl false, .str "", .str "a", .str "abcdefghi", .str "A", .str "net", .str "bar", .tup [], .tup [.tup []], .tup [.str "a", .int 0]]
def oddZ : List D := [.lst [], .dct [], .int 1000000000000000000000000000000, .tup [.str "far"], .tup [.str "bar", .tup []], .str "a1", .tup [.non], .tup [.int 0], .tup [.str "a"], .tup [.str "a", .str "b"]]
def oddL : List D := oddA ++ oddZ
def oddB : Nat := 1000000000000000000000000000001
theorem odd_all : (oddL.all fun d => d.fine oddB && (decide (d.wt ≤ 20) && decide (d.pd.depth ≤ 2))) = true := by decide +kernel
theorem pow30 : binD .Pow (.int 10) (.int 30) = some (.int 1000000000000000000000000000000) := by
  show (if 0 ≤ (30 : Int) ∧ (30 : Int) ≤ 1000000 ∧ (10 : Int).natAbs < 2 ^ 64 then some (D.int ((10 : Int) ^ (30 : Int).toNat)) else none) = _
  rw [if_pos (by decide)]
  rfl
section
variable {kin : Kin} {C : Orc} {X : D → Prop}
theorem odd_tr_mem (hC : C "_law_next" = orcNext) : Tr 1 (runF kin C 1 c__law_odd [.drw]) (fun d => d ∈ oddL) X := by
  refine run_tr ?_
  show Tr 1 (evSs kin C c__law_odd [.val .drw, .emp]) _ noX
  unfold c__law_odd
  have t0 : ∀ ρ, evE kin C (.tup .nil) ρ = pure (.tup []) := fun ρ => ev_tup ev_es0 (sz (by decide))
  have hadd : binD .Add (.lst oddA) (.lst oddZ) = some (.lst oddL) := add_lst (sz (by show 19 + 10 ≤ 100000; omega))
  refine Tr.le (c := 0 + (0 + 1)) (tr_asg (kin := kin) (C := C) (ρ := [.val .drw, .emp]) (Pa := fun x => x = .lst oddA) (Tr.of (v := .lst oddA) ?_ rfl) fun x hx => ?_) (by decide)
  · exact ev_lst (ev_es ev_c (ev_es ev_c (ev_es ev_c (ev_es ev_c (ev_es ev_c (ev_es (ev_neg ev_c) (ev_es ev_c (ev_es (ev_neg ev_c) (ev_es ev_c (ev_es ev_c (ev_es ev_c (ev_es ev_c (ev_es ev_c (ev_es ev_c (ev_es ev_c (ev_es ev_c
        (ev_es (t0 _) (ev_es (ev_tup (ev_es (t0 _) ev_es0) (sz (by simp))) (ev_es (ev_tup (ev_es ev_c (ev_es ev_c ev_es0)) (sz (by simp))) ev_es0))))))))))))))))))) (sz (by show 19 ≤ 100000; omega))
  subst hx
  refine ⟨[.val .drw, .val (.lst oddA)], rfl, ?_⟩
  have hlen : oddL.length = 29 := by decide
  generalize oddL = L at hadd hlen ⊢
  refine tr_asg (kin := kin) (C := C) (ρ := [.val .drw, .val (.lst oddA)]) (Pa := fun x => x = .lst L) (Tr.of (v := .lst L) (ev_bin (x := .lst oddA) (y := .lst oddZ) (ev_b rfl) ?_ hadd) rfl) fun x hx => ?_
  · exact ev_lst (ev_es (ev_lst ev_es0 (sz (by decide))) (ev_es ev_dct0 (ev_es (ev_bin ev_c ev_c pow30) (ev_es (ev_tup (ev_es ev_c ev_es0) (sz (by simp))) (ev_es (ev_tup (ev_es ev_c (ev_es (t0 _) ev_es0)) (sz (by simp))) (ev_es ev_c
        (ev_es (ev_tup (ev_es ev_c ev_es0) (sz (by simp))) (ev_es (ev_tup (ev_es ev_c ev_es0) (sz (by simp))) (ev_es (ev_tup (ev_es ev_c ev_es0) (sz (by simp))) (ev_es (ev_tup (ev_es ev_c (ev_es ev_c ev_es0)) (sz (by simp))) ev_es0)))))))))) (sz (by show 10 ≤ 100000; omega))
  subst hx
  refine ⟨[.val .drw, .val (.lst L)], rfl, ?_⟩
  refine tr_ret ?_
  refine Tr.le (c := 0 + 1) (tr_sub (Pa := fun x => x = .lst L) (Tr.of (ev_b rfl) rfl) fun x hx => ?_) (by decide)
  subst hx
  refine (tr_next (n := 29) hC rfl ev_c (by decide) (by decide)).imp ?_
  rintro y ⟨q, hq, rfl⟩
  have hl : q < L.length := by rw [hlen]; exact hq
  refine ⟨L[q], sub_lst (List.getElem?_eq_getElem hl), ?_⟩
  exact List.getElem_mem hl
theorem odd_th {d : D} (h : d ∈ oddL) : Th oddB 20 2 d := by
  have := List.all_eq_true.mp odd_all d h
  obtain ⟨h1, h⟩ := (Bool.and_eq_true _ _).mp this
  obtain ⟨h2, h3⟩ := (Bool.and_eq_true _ _).mp h
  exact ⟨h1, of_decide_eq_true h2, of_decide_eq_true h3⟩
theorem odd_tr (hC : C "_law_next" = orcNext) : Tr 1 (runF kin C 1 c__law_odd [.drw]) (Th oddB 20 2) X := (odd_tr_mem hC).imp fun _ h => odd_th h
end
end RM
end
section
set_option Elab.async false
set_option linter.all false
set_option maxRecDepth 100000
set_option autoImplicit false
/-! values: bent things -/
namespace RM
open PySem PySem.Spec PyProof.Rows L2

section
variable {kin : Kin} {C : Orc} {X : D → Prop} {ρ : Fe} {a b : E} {c d : Nat}
theorem tr_qval {P : Bool → Prop} {Pa : D → Prop} (h : Tr c (evE kin C a ρ) Pa X) (h2 : ∀ x, Pa x → ∃ p, truD x = some p ∧ P p) : Tr c (evT kin C (.val a) ρ) P X := by
  unfold evT
  have : Tr (c + 0) (do M.op (truD (← evE kin C a ρ))) P X := Tr.bind h fun x hx => by
    obtain ⟨p, e, hp⟩ := h2 x hx
    exact Tr.op e hp
  exact this
theorem tr_qand {t u : Q} {P Pt : Bool → Prop} (h1 : Tr c (evT kin C t ρ) Pt X) (h2 : Pt true → Tr d (evT kin C u ρ) P X) (h3 : Pt false → P false) : Tr (c + d) (evT kin C (.and t u) ρ) P X := by
  unfold evT
  refine Tr.bind h1 fun p hp => ?_
  cases p with
  | true => exact h2 hp
  | false => exact Tr.pure (h3 hp)
theorem tr_qor {t u : Q} {P Pt : Bool → Prop} (h1 : Tr c (evT kin C t ρ) Pt X) (h2 : Pt false → Tr d (evT kin C u ρ) P X) (h3 : Pt true → P true) : Tr (c + d) (evT kin C (.or t u) ρ) P X := by
  unfold evT
  refine Tr.bind h1 fun p hp => ?_
  cases p with
  | true => exact Tr.pure (h3 hp)
  | false => exact h2 hp
theorem tr_par {is : List Nat} {es : Es} {rest : Ss} {Po : Out → Prop} {Ps : List D → Prop} (h1 : Tr c (evEs kin C es ρ) Ps noX) (h2 : ∀ ds, Ps ds → ds.length = is.length ∧ Tr d (evSs kin C rest ((is.zip ds).foldl (fun ρ q => setS ρ q.1 q.2) ρ)) Po noX) :
    Tr (c + d) (evSs kin C (.cons (.par is es) rest) ρ) Po noX := by
  refine cons_tr ?_
  unfold evS
  have : Tr (c + 0) (exO (evEs kin C es ρ) ρ fun ds => if ds.length = is.length then pure (.nx ((is.zip ds).foldl (fun ρ q => setS ρ q.1 q.2) ρ)) else M.fail) (thenP kin C d rest Po) noX := by
    refine exO_tr h1 (fun ds hd => ?_) fun _ h => h.elim
    obtain ⟨hl, t⟩ := h2 ds hd
    rw [if_pos hl]
    exact Tr.pure t
  exact this
/-- if t: return e -/
theorem tr_ifret {q : Q} {e : E} {rest : Ss} {Po : Out → Prop} {Pb : Bool → Prop} (h1 : Tr c (evT kin C q ρ) Pb noX) (h2 : Pb true → Tr d (evE kin C e ρ) (fun v => Po (.ret v)) noX) (h3 : Pb false → Tr d (evSs kin C rest ρ) Po noX) :
    Tr (c + d) (evSs kin C (.cons (.iff q (.cons (.ret e) .nil) .nil) rest) ρ) Po noX := by
  refine tr_iff h1 (fun hp => ?_) fun hp => ?_
  · have : Tr (d + 0) (evSs kin C (.cons (.ret e) .nil) ρ >>= goOn kin C rest) Po noX := by
      refine Tr.bind (tr_ret (Po := fun o => match o with | .ret v => Po (.ret v) | _ => False) (h2 hp)) fun o ho => ?_
      cases o with
      | ret v => exact Tr.pure ho
      | _ => exact ho.elim
    exact this
  · rw [evSs_nil, goOn_nx]
    exact h3 hp
theorem tr_ifretE {q : Q} {e : E} {rest : Ss} {Po : Out → Prop} {p : Bool} (h1 : evT kin C q ρ = pure p) (h2 : p = true → Tr d (evE kin C e ρ) (fun v => Po (.ret v)) noX) (h3 : p = false → Tr d (evSs kin C rest ρ) Po noX) :
    Tr d (evSs kin C (.cons (.iff q (.cons (.ret e) .nil) .nil) rest) ρ) Po noX := by
  have : Tr (0 + d) (evSs kin C (.cons (.iff q (.cons (.ret e) .nil) .nil) rest) ρ) Po noX := tr_ifret (Pb := fun b => p = b) (Tr.of h1 rfl) h2 h3
  rw [Nat.zero_add] at this
  exact this
/-- d == 0 of a drawn number -/
theorem tr_next0 {i : Nat} {e : E} {n : Nat} (hC : C "_law_next" = orcNext) (h0 : ρ[i]? = some (.val .drw)) (h1 : evE kin C e ρ = pure (.int n)) (hn : 0 < n) (hn2 : n < 1073741824) :
    Tr 1 (evT kin C (.val (.cmp .Eq (.app "_law_next" (.cons (.v i) (.cons e .nil))) (.c (.int 0)))) ρ) (fun _ => True) X := by
  have : Tr (1 + 0) (evE kin C (.cmp .Eq (.app "_law_next" (.cons (.v i) (.cons e .nil))) (.c (.int 0))) ρ) (fun x => ∃ p, x = .bl p) X :=
    tr_cmp (tr_next hC h0 h1 hn hn2) fun x ⟨j, _, ex⟩ => by
      subst ex
      exact Tr.of ev_c ⟨_, eq_int _ _, _, rfl⟩
  exact tr_qval this fun x ⟨p, e⟩ => by subst e; exact ⟨p, rfl, trivial⟩
theorem isInt_run {e : E} {d : D} (h : evE kin C e ρ = pure d) (hb : d.basic kin = true) : evE kin C (.bi (.isi [.b "int"]) (.cons e .nil)) ρ = pure (.bl (match d with | .int _ => true | .bl _ => true | _ => false)) := by
  refine ev_bi1 h ?_
  rw [isi_b hb]
  cases d <;> rfl
theorem isBool_run {e : E} {d : D} (h : evE kin C e ρ = pure d) (hb : d.basic kin = true) : evE kin C (.bi (.isi [.b "bool"]) (.cons e .nil)) ρ = pure (.bl (match d with | .bl _ => true | _ => false)) := by
  refine ev_bi1 h ?_
  rw [isi_b hb]
  cases d <;> rfl
theorem isList_run {e : E} {d : D} (h : evE kin C e ρ = pure d) (hb : d.basic kin = true) : evE kin C (.bi (.isi [.b "list"]) (.cons e .nil)) ρ = pure (.bl (match d with | .lst _ => true | .scr _ => true | _ => false)) := by
  refine ev_bi1 h ?_
  rw [isi_b hb]
  cases d <;> rfl
/-- one of a written row, by a drawn place -/
theorem tr_pick {es : Es} {i : Nat} {n : Nat} {P : D → Prop} {xs : List D} (hC : C "_law_next" = orcNext) (h0 : ρ[i]? = some (.val .drw)) (h : evEs kin C es ρ = pure xs) (hl : xs.length = n) (hn : 0 < n) (hs : n ≤ 1000) (hp : ∀ x ∈ xs, P x) :
    Tr 1 (evE kin C (.sub (.lst es) (.app "_law_next" (.cons (.v i) (.cons (.c (.int n)) .nil)))) ρ) P X := by
  have : Tr (0 + 1) (evE kin C (.sub (.lst es) (.app "_law_next" (.cons (.v i) (.cons (.c (.int n)) .nil)))) ρ) P X := by
    refine tr_sub (Pa := fun x => x = .lst xs) (Tr.of (ev_lst h (sz (by omega))) rfl) fun x hx => ?_
    subst hx
    refine (tr_next (n := n) hC h0 ev_c hn (by omega)).imp ?_
    rintro y ⟨q, hq, rfl⟩
    have hql : q < xs.length := by omega
    exact ⟨xs[q], sub_lst (List.getElem?_eq_getElem hql), hp _ (List.getElem_mem hql)⟩
  exact this
/-! ### slices of tuples -/
theorem cutT_from {xs : List D} {k : Nat} (h : k ≤ xs.length) : slD (.tup xs) (.int (k : Int)) .non = some (.tup (xs.drop k)) := by
  show some (D.tup (cutD xs (some (k : Int)) none)) = _
  unfold cutD
  rw [HT.sIx_nat, HT.sIx_none, show min k xs.length = k by omega]
  congr 2
  apply List.take_of_length_le
  simp
theorem cutT_to {xs : List D} {k : Nat} (h : k ≤ xs.length) : slD (.tup xs) .non (.int (k : Int)) = some (.tup (xs.take k)) := by
  show some (D.tup (cutD xs none (some (k : Int)))) = _
  unfold cutD
  rw [HT.sIx_nat, show HT.sIx xs.length 0 none = 0 from rfl, show min k xs.length = k by omega]
  rfl
theorem cutT_one {xs : List D} {k : Nat} (h : k < xs.length) : slD (.tup xs) (.int (k : Int)) (.int ((k : Int) + 1)) = some (.tup ((xs.drop k).take 1)) := by
  show some (D.tup (cutD xs (some (k : Int)) (some (((k + 1 : Nat)) : Int)))) = _
  unfold cutD
  rw [HT.sIx_nat, HT.sIx_nat, show min k xs.length = k by omega, show min (k + 1) xs.length = k + 1 by omega, show k + 1 - k = 1 by omega]
end
section
variable {kin : Kin} {C : Orc} {X : D → Prop}
theorem eq_empty (xs : List D) : cmpD .Eq (.tup xs) (.tup []) = some (.bl xs.isEmpty) := by
  simp only [cmpD]
  split
  · congr 2
    cases xs <;> rfl
  · rfl
theorem Ths.rev {B e : Nat} : ∀ {w : Nat} {xs : List D}, Ths B w e xs → Ths B w e xs.reverse
  | w, [], h => h
  | w, x :: xs, h => by
    obtain ⟨h1, h2, h3⟩ := h.head
    rw [List.reverse_cons]
    exact ((Ths.rev h2).app (Ths.cons h1 .nil : Ths B (x.wt + 0) e [x])).mono (Nat.le_refl _) (by omega) (Nat.le_refl _)
theorem bent_tr {j c : Nat} (hc1 : 1 ≤ c) (hC : C "_law_next" = orcNext) (hO : Tr 1 (C "_law_odd" [.drw]) (Th oddB 20 2) noX)
    (hB : ∀ d B w e, e + 1 ≤ j → oddB ≤ B → w ≤ 500 → Th B w e d → Tr c (C "_law_bent" [.drw, d]) (Th (B + 10) (2 * w + 40) (e + 2)) noX) {d : D} {B w e : Nat} (he : e ≤ j) (hBo : oddB ≤ B) (hw : w ≤ 500) (h : Th B w e d) :
    Tr (5 + c) (runF kin C 2 c__law_bent [.drw, d]) (Th (B + 10) (2 * w + 40) (e + 2)) X := by
  have hb : d.basic kin = true := fine_basic h.fine
  refine (Tr.mono (X := noX) ?_ (Nat.le_refl _) (fun _ h => h) fun _ h => h.elim)
  refine run_tr ?_
  show Tr (5 + c) (evSs kin C c__law_bent [.val .drw, .val d, .emp, .emp]) _ noX
  unfold c__law_bent
  have oddE : ∀ s t, Tr 1 (evE kin C (.app "_law_odd" (.cons (.v 0) .nil)) [.val .drw, .val d, s, t]) (Th oddB 20 2) noX := fun s t => by
    have : Tr (0 + 1) (evE kin C (.app "_law_odd" (.cons (.v 0) .nil)) [.val .drw, .val d, s, t]) (Th oddB 20 2) noX := tr_app (Ps := fun xs => xs = [.drw]) (Tr.of (ev_es (ev_v rfl) ev_es0) rfl) fun xs hx => by subst hx; exact hO
    exact this
  have up : ∀ x, Th oddB 20 2 x → Th (B + 10) (2 * w + 40) (e + 2) x := fun x hx => hx.mono (by omega) (by omega) (by omega)
  -- a text may be changed
  refine Tr.le (c := 1 + (1 + (1 + ((1 + (1 + 0)) + c)))) (tr_ifret (Pb := fun p => p = true → ∃ z, d = .str z) ?_ (fun hp => ?_) fun _ => ?_) (by omega)
  · refine Tr.le (c := 0 + 1) (tr_qand (Pt := fun p => p = true → ∃ z, d = .str z) (Tr.of (evQ_bl (isStr_run (ev_b rfl) hb)) fun hp => ?_) (fun hp => ?_) fun _ => ?_) (by decide)
    · cases d <;> first | exact ⟨_, rfl⟩ | cases hp
    · exact (tr_next0 (n := 2) hC rfl ev_c (by decide) (by decide)).imp fun _ _ _ => hp rfl
    · intro z; cases z
  · obtain ⟨z, rfl⟩ := hp rfl
    rw [mkS_cps z] at h ⊢
    generalize z.cps.toList = l at h
    obtain ⟨hl, hc⟩ := h.signs
    have fits : ∀ m : List Nat, (∀ c ∈ m, okCh c = true) → m.length ≤ 2 * l.length + 1 → Th (B + 10) (2 * w + 40) (e + 2) (.str (mkS m)) := fun m hm hlm => (Th.str hm).mono (Nat.le_refl _) (by omega) (Nat.le_refl _)
    have app : ∀ k : Nat, okCh k = true → ∀ c ∈ l ++ [k], okCh c = true := fun k hk c hcm => by
      rcases List.mem_append.mp hcm with q | q
      · exact hc c q
      · have : c = k := by simpa using q
        rw [this]; exact hk
    have ev1 : ∀ (t : Str) (k : Nat), t = mkS [k] → evE kin C (.bin .Add (.b 1) (.c (.str t))) [.val .drw, .val (.str (mkS l)), .emp, .emp] = pure (.str (mkS (l ++ [k]))) := fun t k et => by
      subst et
      exact ev_bin (ev_b rfl) ev_c (add_mk (by simp; omega))
    refine Tr.le (c := 1) (tr_pick (i := 0) (n := 6) (xs := [.str (mkS (l ++ [98])), .str (mkS (l.drop 1)), .str (mkS (l ++ [65])), .str (mkS (l ++ [32])), .str (mkS (l ++ l)), .str (mkS (l ++ [49]))]) hC rfl ?_ rfl (by decide) (by decide) fun x hx => ?_) (by omega)
    · refine ev_es (ev1 _ 98 (by decide)) (ev_es (ev_sl (ev_b rfl) (ev_bnd ev_c) ev_c ?_) (ev_es (ev1 _ 65 (by decide)) (ev_es (ev1 _ 32 (by decide)) (ev_es (ev_bin (ev_b rfl) ev_c ?_) (ev_es (ev1 _ 49 (by decide)) ev_es0)))))
      · show (if (mkS l).length ≤ sizeLine then some (D.str (cutS (mkS l) (some ((1 : Nat) : Int)) none)) else none) = _
        rw [if_pos (by rw [mkS_len]; exact sz (by omega))]
        by_cases h1 : 1 ≤ l.length
        · rw [cut_from h1]
        · have : l = [] := List.length_eq_zero_iff.mp (by omega)
          subst this
          rfl
      · show (if 0 ≤ (2 : Int) ∧ (2 : Int) ≤ 1000 ∧ (mkS l).length ≤ 1000 then some (D.str (mulStr (mkS l) (2 : Int).toNat)) else none) = _
        rw [if_pos ⟨by decide, by decide, by rw [mkS_len]; omega⟩]
        congr 2
        unfold mulStr
        show mkS _ = mkS _
        congr 1
        show (List.replicate 2 l).flatten = _
        simp [List.replicate]
    · show Th (B + 10) (2 * w + 40) (e + 2) x
      simp only [List.mem_cons, List.not_mem_nil, or_false] at hx
      rcases hx with rfl | rfl | rfl | rfl | rfl | rfl
      · exact fits _ (app 98 (by decide)) (by simp; omega)
      · exact fits _ (fun c hcm => hc c (List.mem_of_mem_drop hcm)) (by simp; omega)
      · exact fits _ (app 65 (by decide)) (by simp; omega)
      · exact fits _ (app 32 (by decide)) (by simp; omega)
      · exact fits _ (fun c hcm => (List.mem_append.mp hcm).elim (hc c) (hc c)) (by simp; omega)
      · exact fits _ (app 49 (by decide)) (by simp; omega)
  -- an int may be changed
  refine tr_ifret (Pb := fun p => p = true → ∃ i, d = .int i) ?_ (fun hp => ?_) fun _ => ?_
  · refine Tr.le (c := 0 + (0 + 1)) (tr_qand (Pt := fun p => p = true → (∃ i, d = .int i) ∨ ∃ b, d = .bl b) (Tr.of (evQ_bl (isInt_run (ev_b rfl) hb)) fun hp => ?_) (fun hp => ?_) fun _ => ?_) (by decide)
    · cases d <;> first | exact .inl ⟨_, rfl⟩ | exact .inr ⟨_, rfl⟩ | cases hp
    · refine tr_qand (Pt := fun p => p = true → ∃ i, d = .int i) (Tr.of (evQ_not (evQ_bl (isBool_run (ev_b rfl) hb))) fun hq => ?_) (fun hq => ?_) fun _ z => by cases z
      · rcases hp rfl with q | ⟨b, rfl⟩
        · exact q
        · cases hq
      · exact (tr_next0 (n := 2) hC rfl ev_c (by decide) (by decide)).imp fun _ _ _ => hq rfl
    · intro z; cases z
  · obtain ⟨i, rfl⟩ := hp rfl
    have hi : i.natAbs < B := of_decide_eq_true h.fine
    refine Tr.le (c := 0 + 1) (tr_bin (Pa := fun x => x = .int i) (Tr.of (ev_b rfl) rfl) fun x hx => ?_) (by omega)
    subst hx
    refine (tr_pick (i := 0) (n := 6) (xs := [.int 1, .int (-1), .int 2, .int (-2), .int 10, .int (-10)]) (P := fun x => ∃ k : Int, x = .int k ∧ k.natAbs ≤ 10) hC rfl (ev_es ev_c (ev_es (ev_neg ev_c) (ev_es ev_c (ev_es (ev_neg ev_c) (ev_es ev_c (ev_es (ev_neg ev_c) ev_es0)))))) rfl (by decide) (by decide) fun x hx => ?_).imp ?_
    · simp only [List.mem_cons, List.not_mem_nil, or_false] at hx
      rcases hx with rfl | rfl | rfl | rfl | rfl | rfl <;> exact ⟨_, rfl, by decide⟩
    · rintro y ⟨k, rfl, hk⟩
      refine ⟨_, add_int _ _, ?_⟩
      refine ⟨decide_eq_true (by omega), by show 1 ≤ _; omega, Nat.zero_le _⟩
  -- an odd thing
  refine tr_ifret (Pb := fun p => p = false → ∃ xs, d = .tup xs ∧ xs ≠ []) ?_ (fun _ => ?_) fun hp => ?_
  · refine Tr.le (c := 0 + (0 + 1)) (tr_qor (Pt := fun p => p = false → ∃ xs, d = .tup xs) (Tr.of (evQ_not (evQ_bl (isTup_run (ev_b rfl) hb))) fun hp => ?_) (fun hp => ?_) fun _ z => by cases z) (by decide)
    · cases d <;> first | exact ⟨_, rfl⟩ | cases hp
    · obtain ⟨xs, rfl⟩ := hp rfl
      refine tr_qor (Pt := fun p => p = false → xs ≠ []) (Tr.of (evQ_bl (ev_cmp (ev_b rfl) (ev_tup ev_es0 (sz (by decide))) (eq_empty xs))) fun hq z => ?_) (fun hq => ?_) fun _ z => by cases z
      · subst z; cases hq
      · exact (tr_next0 (n := 6) hC rfl ev_c (by decide) (by decide)).imp fun _ _ _ => ⟨xs, rfl, hq rfl⟩
  · exact ((oddE _ _).imp up).le (by omega)
  obtain ⟨xs, rfl, hne⟩ := hp rfl
  obtain ⟨w1, e1, hxs⟩ := h.items
  have hxl := hxs.len
  have hpos : 0 < xs.length := List.length_pos_iff.mpr hne
  refine tr_par (Ps := fun ds => ∃ at_ pick : Nat, at_ < xs.length ∧ ds = [.int at_, .int pick]) (tr_es (tr_next (n := xs.length) hC rfl (ev_bi1 (ev_b rfl) len_tup) hpos (by omega)) fun x ⟨q, hq, ex⟩ => ?_) fun ds hd => ?_
  · subst ex
    exact tr_es (tr_next (n := 11) hC rfl ev_c (by decide) (by decide)) fun y ⟨p, hp, ey⟩ => by subst ey; exact tr_es0 ⟨q, p, hq, rfl⟩
  obtain ⟨at_, pick, ha, rfl⟩ := hd
  refine ⟨rfl, ?_⟩
  show Tr c (evSs kin C _ [.val .drw, .val (.tup xs), .val (.int at_), .val (.int pick)]) _ noX
  have test : ∀ k : Nat, evT kin C (.val (.cmp .Eq (.b 3) (.c (.int k)))) [.val .drw, .val (.tup xs), .val (.int at_), .val (.int pick)] = pure (decide ((pick : Int) = (k : Int))) := fun k => evQ_bl (ev_cmp (ev_b rfl) ev_c (eq_int _ _))
  obtain ⟨wa, wb, hw2, ta, tb⟩ := hxs.split at_
  have hat : xs[at_]? = some xs[at_] := List.getElem?_eq_getElem ha
  have drop1 : xs.drop at_ = xs[at_] :: xs.drop (at_ + 1) := List.drop_eq_getElem_cons ha
  rw [drop1] at tb
  obtain ⟨te, tr, hw3⟩ := tb.head
  have s_to : evE kin C (.sl (.b 1) (.c .non) (.bnd (.b 2))) [.val .drw, .val (.tup xs), .val (.int at_), .val (.int pick)] = pure (.tup (xs.take at_)) := ev_sl (ev_b rfl) ev_c (ev_bnd (ev_b rfl)) (cutT_to (by omega))
  have s_from : evE kin C (.sl (.b 1) (.bnd (.b 2)) (.c .non)) [.val .drw, .val (.tup xs), .val (.int at_), .val (.int pick)] = pure (.tup (xs.drop at_)) := ev_sl (ev_b rfl) (ev_bnd (ev_b rfl)) ev_c (cutT_from (by omega))
  have s_next : evE kin C (.sl (.b 1) (.bnd (.bin .Add (.b 2) (.c (.int 1)))) (.c .non)) [.val .drw, .val (.tup xs), .val (.int at_), .val (.int pick)] = pure (.tup (xs.drop (at_ + 1))) :=
    ev_sl (ev_b rfl) (ev_bnd (ev_bin (ev_b rfl) ev_c (add_int _ _))) ev_c (cutT_from (k := at_ + 1) (by omega))
  have mk : ∀ {ys : List D} {w' e' : Nat}, Ths (B + 10) w' e' ys → w' + 1 ≤ 2 * w + 40 → e' + 1 ≤ e + 2 → Th (B + 10) (2 * w + 40) (e + 2) (.tup ys) := fun h1 h2 h3 => (Th.tup h1).mono (Nat.le_refl _) h2 h3
  have upS : ∀ {ys : List D} {w' : Nat}, Ths B w' (e - 1) ys → Ths (B + 10) w' (e + 1) ys := fun h => h.mono (by omega) (Nat.le_refl _) (by omega)
  have la : (xs.take at_).length ≤ 500 := by rw [List.length_take]; omega
  have lb : (xs.drop (at_ + 1)).length ≤ 500 := by rw [List.length_drop]; omega
  have lc : (xs.drop at_).length ≤ 500 := by rw [List.length_drop]; omega
  refine tr_ifretE (test 0) (fun _ => ?_) fun _ => ?_
  · refine Tr.of (ev_bin s_to s_next (add_tup (sz (by omega)))) (mk ((upS ta).app (upS tr)) (by omega) (by omega))
  refine tr_ifretE (test 1) (fun _ => ?_) fun _ => ?_
  · have one : evE kin C (.sl (.b 1) (.bnd (.b 2)) (.bnd (.bin .Add (.b 2) (.c (.int 1))))) [.val .drw, .val (.tup xs), .val (.int at_), .val (.int pick)] = pure (.tup [xs[at_]]) := by
      refine (ev_sl (ev_b rfl) (ev_bnd (ev_b rfl)) (ev_bnd (ev_bin (ev_b rfl) ev_c (add_int _ _))) (cutT_one ha)).trans ?_
      rw [drop1]; rfl
    refine Tr.of (ev_bin (ev_b rfl) one (add_tup (sz (by simp; omega)))) (mk ((upS hxs).app (upS (Ths.cons te .nil : Ths B (_ + 0) (e - 1) [xs[at_]]))) (by omega) (by omega))
  refine tr_ifretE (test 2) (fun _ => ?_) fun _ => ?_
  · exact Tr.of (ev_bi1 (ev_b rfl) list_tup) ((Th.lst (upS hxs)).mono (Nat.le_refl _) (by omega) (by omega))
  refine tr_ifretE (test 3) (fun _ => ?_) fun _ => ?_
  · refine Tr.le (c := (0 + (1 + 0)) + 0) (tr_bin (Pa := fun x => ∃ z, x = .tup (xs.take at_ ++ [z]) ∧ Th oddB 20 2 z) (tr_bin (Pa := fun x => x = .tup (xs.take at_)) (Tr.of s_to rfl) fun x hx => ?_) fun x hx => ?_) ?_
    · subst hx
      refine tr_tup (tr_es (oddE _ _) fun z hz => tr_es0 ⟨sz (by simp), _, add_tup (sz (by simp; omega)), z, rfl, hz⟩)
    · obtain ⟨z, rfl, hz⟩ := hx
      refine Tr.of s_from ⟨_, add_tup (sz (by simp; omega)), ?_⟩
      have tz : Ths (B + 10) (20 + 0) (e + 1) [z] := Ths.cons (hz.mono (by omega) (Nat.le_refl _) (by omega)) .nil
      rw [drop1]
      exact mk (((upS ta).app tz).app (upS tb)) (by omega) (by omega)
    · omega
  refine tr_ifretE (test 4) (fun _ => ?_) fun _ => ?_
  · refine Tr.of (ev_bk (ev_b rfl) ev_c ev_c rfl) ?_
    show Th (B + 10) (2 * w + 40) (e + 2) (.tup (backV xs none none))
    rw [backV_none]
    exact mk (upS hxs.rev) (by omega) (by omega)
  refine tr_ret ?_
  refine Tr.le (c := (0 + (0 + c)) + 0) (tr_bin (Pa := fun x => ∃ z, x = .tup (xs.take at_ ++ [z]) ∧ Th (B + 10) (2 * xs[at_].wt + 40) (e + 1) z) (tr_bin (Pa := fun x => x = .tup (xs.take at_)) (Tr.of s_to rfl) fun x hx => ?_) fun x hx => ?_) (by omega)
  · subst hx
    refine Tr.le (c := (0 + c) + 0) (tr_tup (tr_es (Pa := Th (B + 10) (2 * xs[at_].wt + 40) (e + 1)) (tr_app (Ps := fun xs' => xs' = [.drw, xs[at_]]) (Tr.of (ev_es (ev_v rfl) (ev_es (ev_sub (ev_b rfl) (ev_b rfl) (sub_tup hat)) ev_es0)) rfl) fun ys hy => ?_) fun z hz => tr_es0 ⟨sz (by simp), _, add_tup (sz (by simp; omega)), z, rfl, hz⟩)) (by omega)
    subst hy
    exact (hB _ _ _ (e - 1) (by omega) hBo (by omega) te).imp fun z hz => hz.mono (Nat.le_refl _) (Nat.le_refl _) (by omega)
  · obtain ⟨z, rfl, hz⟩ := hx
    refine Tr.of s_next ⟨_, add_tup (sz (by simp; omega)), ?_⟩
    have tz : Ths (B + 10) (2 * xs[at_].wt + 40 + 0) (e + 1) [z] := Ths.cons hz .nil
    exact mk (((upS ta).app tz).app (upS tr)) (by omega) (by omega)
end
end RM
end
section
set_option Elab.async false
set_option linter.all false
set_option maxRecDepth 100000
set_option autoImplicit false
/-! values: roads needed, lots told; the law's own looks -/
namespace RM
open PySem PySem.Spec PyProof.Rows L2

/-- roads -/
def isRd : D → Bool
  | .tup xs => isAsc (.tup xs) && decide (1 ≤ xs.length ∧ xs.length ≤ 7)
  | _ => false
/-- a lot among roads -/
def isLotB (rs : List Str) (d : D) : Bool := isAsc d && (match d with | .tup xs => (strsOf xs).all fun z => decide (z ∈ rs) | _ => false)
section
variable {kin : Kin} {C : Orc} {X : D → Prop} {ρ : Fe}
theorem asc_tup {d : D} (h : isAsc d = true) : ∃ zs : List Str, d = .tup (zs.map D.str) ∧ (∀ z ∈ zs, isW z = true) ∧ ascS zs = true := by
  cases d with
  | tup xs =>
    have h : (xs.all isWd && ascS (strsOf xs)) = true := h
    obtain ⟨h1, h2⟩ := (Bool.and_eq_true _ _).mp h
    have e := words_strs h1
    refine ⟨strsOf xs, by rw [← e], fun z hz => ?_, h2⟩
    have : D.str z ∈ xs := by rw [e]; exact List.mem_map_of_mem hz
    exact List.all_eq_true.mp h1 _ this
  | _ => cases h
theorem need_roads_ok {d : D} (hi : kin.ini "BadRoads" = some ("value" : Str)) (hC : C "are_ascending" [d] = pure (.bl (isAsc d))) (h : isRd d = true) : runF kin C 0 c_need_roads [d] = pure d := by
  refine run_ret ?_
  show evSs kin C c_need_roads [.val d] = _
  unfold c_need_roads
  cases d with
  | tup xs =>
    have h : (isAsc (.tup xs) && decide (1 ≤ xs.length ∧ xs.length ≤ 7)) = true := h
    obtain ⟨h1, h2⟩ := (Bool.and_eq_true _ _).mp h
    rw [h1] at hC
    have len : evE kin C (.chain .LtE .LtE (.c (.int 1)) (.bi .len (.cons (.b 0) .nil)) (.c (.int 7))) [.val (.tup xs)] = pure (.bl (decide (1 ≤ xs.length ∧ xs.length ≤ 7))) := len1_8 (k := 7) (ev_b rfl) len_tup
    rw [h2] at len
    rw [iff_false (evQ_or (p := false) (q := false) (evQ_not (evQ_bl (ev_app (ev_es (ev_v rfl) ev_es0) hC))) fun _ => evQ_not (evQ_bl len))]
    exact ret_pure (ev_v rfl)
  | _ => cases h
theorem need_roads_no {d : D} (hi : kin.ini "BadRoads" = some ("value" : Str)) (hC : C "are_ascending" [d] = pure (.bl (isAsc d))) (h : isRd d = false) : runF kin C 0 c_need_roads [d] = M.raise (.exc "BadRoads" [("value", d)]) := by
  refine run_exc (ρ := [.val d]) ?_
  show evSs kin C c_need_roads [.val d] = _
  unfold c_need_roads
  have out : evSs kin C (.cons (.rse "BadRoads" (.v 0)) .nil) [.val d] >>= goOn kin C (.cons (.ret (.v 0)) .nil) = pure (.exc (.exc "BadRoads" [("value", d)]) [.val d]) := by
    rw [rse_pure (ev_v rfl) hi]; rfl
  cases ha : isAsc d with
  | false =>
    rw [ha] at hC
    rw [iff_true (evQ_or (p := true) (q := true) (evQ_not (evQ_bl (ev_app (ev_es (ev_v rfl) ev_es0) hC))) fun z => by cases z)]
    exact out
  | true =>
    rw [ha] at hC
    obtain ⟨zs, rfl, _, _⟩ := asc_tup ha
    have h2 : decide (1 ≤ (zs.map D.str).length ∧ (zs.map D.str).length ≤ 7) = false := by
      have h : (isAsc (.tup (zs.map D.str)) && decide (1 ≤ (zs.map D.str).length ∧ (zs.map D.str).length ≤ 7)) = false := h
      rw [ha, Bool.true_and] at h
      exact h
    have len : evE kin C (.chain .LtE .LtE (.c (.int 1)) (.bi .len (.cons (.b 0) .nil)) (.c (.int 7))) [.val (.tup (zs.map D.str))] = pure (.bl (decide (1 ≤ (zs.map D.str).length ∧ (zs.map D.str).length ≤ 7))) := len1_8 (k := 7) (ev_b rfl) len_tup
    rw [h2] at len
    rw [iff_true (evQ_or (p := false) (q := true) (evQ_not (evQ_bl (ev_app (ev_es (ev_v rfl) ev_es0) hC))) fun _ => evQ_not (evQ_bl len))]
    exact out
theorem in_strsT (x : Str) (ys : List Str) : cmpD .In (.str x) (.tup (ys.map D.str)) = some (.bl (decide (x ∈ ys))) := by
  simp only [cmpD]
  rw [if_pos (by simp [D.pure, pure_strs, D.pd, PyData.depth]), in_strs]
theorem notin_strsT (x : Str) (ys : List Str) : cmpD .NotIn (.str x) (.tup (ys.map D.str)) = some (.bl (!decide (x ∈ ys))) := by
  simp only [cmpD]
  rw [if_pos (by simp [D.pure, pure_strs, D.pd, PyData.depth]), in_strs]
theorem is_lot_run {rs : List Str} {d : D} (hC : C "are_ascending" [d] = pure (.bl (isAsc d))) (hl : d.wt ≤ 100000) : runF kin C 1 c_is_lot [.tup (rs.map D.str), d] = pure (.bl (isLotB rs d)) := by
  refine run_ret (ret_pure ?_)
  show evE kin C _ [.val (.tup (rs.map D.str)), .val d, .emp] = _
  unfold isLotB
  cases ha : isAsc d with
  | false =>
    rw [ha] at hC
    exact ev_and (p := false) (q := false) (ev_app (ev_es (ev_v rfl) ev_es0) hC) fun z => by cases z
  | true =>
    rw [ha] at hC
    obtain ⟨zs, rfl, _, _⟩ := asc_tup ha
    have hzl : zs.length ≤ sizeLine := by
      have h1 : D.wts (zs.map D.str) + 1 ≤ 100000 := hl
      have := len_wts (zs.map D.str)
      rw [List.length_map] at this
      exact sz (by omega)
    refine ev_and (p := true) (q := zs.all fun z => decide (z ∈ rs)) (ev_app (ev_es (ev_v rfl) ev_es0) hC) (fun _ => ?_) |>.trans ?_
    · refine ev_bi1 (lc_map (ls := zs) (v := D.str) (fun z => some (D.bl (decide (z ∈ rs)))) (evI_seq (ev_b rfl) rfl) hzl fun z hz => ?_) ?_
      · exact lcF_yes (ρ1 := [.val (.tup (rs.map D.str)), .val (.tup (zs.map D.str)), .val (.str z)]) rfl (ev_cmp (ev_b rfl) (ev_b rfl) (in_strsT z rs))
      · rw [fm_some]
        have : (zs.map fun z => D.bl (decide (z ∈ rs))) = (zs.map fun z => decide (z ∈ rs)).map D.bl := by rw [List.map_map]; rfl
        rw [this, all_bools, List.all_map]
        rfl
    · show pure (D.bl (true && zs.all _)) = pure (D.bl (true && (strsOf (zs.map D.str)).all _))
      rw [strsOf_map]
/-! ### the law's own looks -/
theorem notin_all (z : Str) : ((z.cps.toList.filter fun c => !decide (c ∈ letters)).isEmpty) = z.cps.toList.all fun c => decide (c ∈ letters) := by
  induction z.cps.toList with
  | nil => rfl
  | cons c r ih =>
    rw [List.filter_cons, List.all_cons]
    cases h : decide (c ∈ letters) with
    | true => simpa using ih
    | false => simp
theorem pures_signs (l : List Nat) : D.pures (l.map fun c => D.str ⟨#[c]⟩) = true := by
  induction l with
  | nil => rfl
  | cons c r ih => simp [D.pures, D.pure, ih]
theorem eq_nilL {xs : List D} (h : D.pures xs = true) : cmpD .Eq (.lst xs) (.lst []) = some (.bl xs.isEmpty) := by
  simp only [cmpD]
  rw [if_pos (by simp [D.okE, D.pure, h, D.pures, D.pd, D.pds, PyData.depth, PyData.depthAll])]
  congr 2
  cases xs <;> rfl
theorem ne_nilL {xs : List D} (h : D.pures xs = true) : cmpD .NotEq (.lst xs) (.lst []) = some (.bl (!xs.isEmpty)) := by
  simp only [cmpD]
  rw [if_pos (by simp [D.okE, D.pure, h, D.pures, D.pd, D.pds, PyData.depth, PyData.depthAll])]
  congr 3
  cases xs <;> rfl
theorem law_is_name_run {d : D} (hb : d.basic kin = true) (hs : d.okS = true) : runF kin C 1 c__law_is_name [d] = pure (.bl (isWd d)) := by
  refine run_ret ?_
  show evSs kin C c__law_is_name [.val d, .emp] = _
  unfold c__law_is_name
  have h0 : ∀ s, evE kin C (.b 0) [.val d, s] = pure d := fun s => ev_b rfl
  cases d with
  | str z =>
    have hz : z.length ≤ sizeLine := of_decide_eq_true hs
    have t1 := evQ_or (p := false) (q := !decide (1 ≤ z.length ∧ z.length ≤ 8)) (evQ_not (evQ_bl (isStr_run (C := C) (h0 .emp) hb))) fun _ => evQ_not (evQ_bl (show evE kin C (.chain .LtE .LtE (.c (.int 1)) (.bi .len (.cons (.b 0) .nil)) (.c (.int 8))) [.val (.str z), .emp] = _ from len1_8 (k := 8) (h0 .emp) (len_str hz)))
    cases hl : decide (1 ≤ z.length ∧ z.length ≤ 8) with
    | false =>
      rw [hl] at t1
      rw [iff_true t1, ret_pure ev_c]
      have : isWd (.str z) = false := by show isW z = false; unfold isW; rw [hl]; rfl
      rw [this]; rfl
    | true =>
      rw [hl] at t1
      rw [iff_false t1]
      refine ret_pure ?_
      have lc : evE kin C (.lc [1] [1] (.seq (.b 0)) (.val (.cmp .NotIn (.b 1) (.c (.str "abcdefghijklmnopqrstuvwxyz")))) (.v 1)) [.val (.str z), .emp] = pure (.lst ((z.cps.toList.filter fun c => !decide (c ∈ letters)).map fun c => D.str ⟨#[c]⟩)) := by
        refine (lc_map (ls := z.cps.toList) (v := fun c => D.str ⟨#[c]⟩) (fun c => if !decide (c ∈ letters) then some (D.str ⟨#[c]⟩) else none) (evI_seq (h0 .emp) (if_pos hz)) (by rw [show z.cps.toList.length = z.length by simp [Str.length]]; exact hz) fun c hc => ?_).trans (by rw [fm_if])
        exact lcF_q (ρ1 := [.val (.str z), .val (.str ⟨#[c]⟩)]) rfl (evQ_bl (ev_cmp (ev_b rfl) ev_c (notin_sign c _))) fun _ => ev_v rfl
      refine (ev_cmp lc (ev_lst ev_es0 (sz (by decide))) (eq_nilL (pures_signs (z.cps.toList.filter fun c => !decide (c ∈ letters))))).trans ?_
      have e1 : isWd (.str z) = z.cps.toList.all fun c => decide (c ∈ letters) := by show isW z = _; unfold isW; rw [hl]; rfl
      rw [e1, ← notin_all]
      congr 2
      cases z.cps.toList.filter fun c => !decide (c ∈ letters) <;> rfl
  | _ =>
    all_goals
      rw [iff_true (evQ_or (p := true) (q := true) (evQ_not (evQ_bl (isStr_run (h0 .emp) hb))) fun z => by cases z), ret_pure ev_c]
      rfl
end
end RM
end
section
set_option Elab.async false
set_option linter.all false
set_option maxRecDepth 100000
set_option autoImplicit false
/-! values: the law's own looks, lots, roads -/
namespace RM
open PySem PySem.Spec PyProof.Rows L2

section
variable {kin : Kin} {C : Orc} {X : D → Prop} {ρ : Fe}
theorem ne_emptyL (xs : List D) : cmpD .NotEq (.lst xs) (.lst []) = some (.bl (!xs.isEmpty)) := by
  simp only [cmpD]
  split
  · congr 3
    cases xs <;> rfl
  · rfl
theorem eq_emptyL (xs : List D) : cmpD .Eq (.lst xs) (.lst []) = some (.bl xs.isEmpty) := by
  simp only [cmpD]
  split
  · congr 2
    cases xs <;> rfl
  · rfl
theorem filter_all {α : Type} (q : α → Bool) : ∀ xs : List α, (xs.filter fun x => !q x).isEmpty = xs.all q
  | [] => rfl
  | x :: xs => by
    rw [List.filter_cons, List.all_cons]
    cases h : q x with
    | true => simpa using filter_all q xs
    | false => simp
theorem law_asc_run {d : D} (hC : ∀ x, x.okW kin = true → C "_law_is_name" [x] = pure (.bl (isWd x))) (h : d.okT kin = true) : runF kin C 2 c__law_are_ascending [d] = pure (.bl (isAsc d)) := by
  have h0 : ∀ s t, evE kin C (.b 0) [.val d, s, t] = pure d := fun s t => ev_b rfl
  refine run_ret ?_
  show evSs kin C c__law_are_ascending [.val d, .emp, .emp] = _
  unfold c__law_are_ascending
  cases d with
  | tup xs =>
    obtain ⟨hx, hl⟩ := (Bool.and_eq_true _ _).mp h
    have hl : xs.length ≤ sizeLine := of_decide_eq_true hl
    have names : evE kin C (.lc [1] [1] (.seq (.b 0)) (.not (.val (.app "_law_is_name" (.cons (.v 1) .nil)))) (.v 1)) [.val (.tup xs), .emp, .emp] = pure (.lst (xs.filter fun x => !isWd x)) := by
      refine (lc_map (ls := xs) (v := fun x => x) (fun x => if !isWd x then some x else none) (evI_seq (h0 _ _) (by simp [iterD])) hl fun x hm => ?_).trans (by rw [fm_if]; simp)
      exact lcF_q (ρ1 := [.val (.tup xs), .val x, .emp]) rfl (evQ_not (evQ_bl (ev_app (ev_es (ev_v rfl) ev_es0) (hC x (List.all_eq_true.mp hx x hm))))) fun _ => ev_v rfl
    have test : evT kin C (.or (.not (.val (.bi (.isi [.b "tuple"]) (.cons (.b 0) .nil)))) (.val (.cmp .NotEq (.lc [1] [1] (.seq (.b 0)) (.not (.val (.app "_law_is_name" (.cons (.v 1) .nil)))) (.v 1)) (.lst .nil)))) [.val (.tup xs), .emp, .emp] = pure (!xs.all isWd) := by
      refine (evQ_or (p := false) (evQ_not (evQ_bl (isTup_run (h0 _ _) (okT_basic h)))) fun _ => evQ_bl (ev_cmp names (ev_lst ev_es0 (sz (by decide))) (ne_emptyL _))).trans ?_
      rw [filter_all]; rfl
    cases ha : xs.all isWd with
    | false =>
      rw [ha] at test
      rw [iff_true test, ret_pure ev_c]
      have e0 : isAsc (.tup xs) = false := by show (xs.all isWd && ascS (strsOf xs)) = _; rw [ha]; rfl
      rw [e0]; rfl
    | true =>
      rw [ha] at test
      rw [iff_false test]
      refine ret_pure ?_
      have e := words_strs ha
      have e1 : isAsc (.tup xs) = ascS (strsOf xs) := by show (xs.all isWd && ascS (strsOf xs)) = _; rw [ha]; rfl
      rw [e1]
      generalize strsOf xs = zs at e
      subst e
      have zl : (zs.zip (zs.drop 1)).length ≤ sizeLine := by
        rw [List.length_zip]
        rw [List.length_map] at hl
        omega
      have lc : evE kin C (.lc [1, 2] [1, 2] (.zip (.b 0) (.sl (.b 0) (.bnd (.c (.int 1))) (.c .non))) (.not (.val (.cmp .Lt (.b 1) (.b 2)))) (.c (.int 1))) [.val (.tup (zs.map D.str)), .emp, .emp] = pure (.lst (((zs.zip (zs.drop 1)).filter fun p => !ltS p.1 p.2).map fun _ => D.int 1)) := by
        refine (lc_map (ls := zs.zip (zs.drop 1)) (v := fun p => .tup [.str p.1, .str p.2]) (fun p => if !ltS p.1 p.2 then some (D.int 1) else none) ((evI_zipT (h0 _ _) (ev_sl (h0 _ _) (ev_bnd ev_c) ev_c (cut1 hl))).trans ?_) zl fun p hp => ?_).trans (by rw [fm_if])
        · unfold zipD
          rw [← List.map_drop, List.zip_map, List.map_map]
          rfl
        · exact lcF_q (ρ1 := [.val (.tup (zs.map D.str)), .val (.str p.1), .val (.str p.2)]) rfl (evQ_not (evQ_bl (ev_cmp (ev_b rfl) (ev_b rfl) (lt_str _ _)))) fun _ => ev_c
      refine (ev_cmp lc (ev_lst ev_es0 (sz (by decide))) (eq_emptyL _)).trans ?_
      congr 2
      have := filter_all (fun p : Str × Str => ltS p.1 p.2) (zs.zip (zs.drop 1))
      rw [List.isEmpty_map, this, ← asc_all, List.all_map]
      rfl
  | _ =>
    all_goals
      rw [iff_true (evQ_or (p := true) (q := true) (evQ_not (evQ_bl (isTup_run (h0 _ _) h))) fun z => by cases z), ret_pure ev_c]
      rfl
/-! ### lots of all sizes -/
def subsI : Nat → List (List Nat)
  | 0 => [[]]
  | n + 1 => subsI n ++ (subsI n).map fun l => l ++ [n]
theorem subs_len : ∀ n, (subsI n).length = 2 ^ n
  | 0 => rfl
  | n + 1 => by
    show (subsI n ++ (subsI n).map fun l => l ++ [n]).length = _
    rw [List.length_append, List.length_map, subs_len n, Nat.pow_succ]
    omega
theorem subs_bel : ∀ {n : Nat} {l : List Nat}, l ∈ subsI n → Bel n l ∧ l.length ≤ n
  | 0, l, h => by
    have : l = [] := by simpa [subsI] using h
    subst this
    exact ⟨(fun _ h => nomatch h), Nat.le_refl _⟩
  | n + 1, l, h => by
    rcases List.mem_append.mp h with h | h
    · have := subs_bel h
      exact ⟨fun i hi => Nat.lt_succ_of_lt (this.1 i hi), by omega⟩
    · obtain ⟨m, hm, rfl⟩ := List.mem_map.mp h
      have := subs_bel hm
      refine ⟨fun i hi => ?_, by simp; omega⟩
      rcases List.mem_append.mp hi with q | q
      · exact Nat.lt_succ_of_lt (this.1 i q)
      · have : i = n := by simpa using q
        omega
variable {n : Nat} {nm : Nat → Str}
theorem law_lots_run (N : Nm n nm) (hn : n ≤ 7) : runF kin C 3 c__law_lots [roadsV n nm] = pure (.lst (((subsI n).mergeSort leL).map (lotV nm))) := by
  refine run_ret ?_
  show evSs kin C c__law_lots [.val (roadsV n nm), .emp, .emp, .emp] = _
  unfold c__law_lots
  rw [asg_pure (ρ1 := [.val (roadsV n nm), .val (.lst [.tup []]), .emp, .emp]) (ev_lst (ev_es (ev_tup ev_es0 (sz (by decide))) ev_es0) (sz (by simp))) rfl]
  have pw : ∀ i, i ≤ 7 → 2 ^ i ≤ 128 := by decide
  refine Eq.trans (frl_pure (xs := (List.range n).map (roadV nm)) (fun j => [.val (roadsV n nm), .val (.lst ((subsI j).map (lotV nm))), (match j with | 0 => .emp | j + 1 => .val (roadV nm j)), .emp]) (evI_seq (ev_v rfl) rfl) rfl fun i x hx => ?_) ?_
  · have hi : i < n := by
      have := (List.getElem?_eq_some_iff.mp hx).1
      simpa using this
    rw [List.getElem?_map, List.getElem?_range hi] at hx
    cases hx
    refine ⟨[.val (roadsV n nm), .val (.lst ((subsI i).map (lotV nm))), .val (roadV nm i), .emp], rfl, ?_⟩
    have hl := subs_len i
    have hp := pw i (by omega)
    have inner : evE kin C (.lc [3] [3] (.seq (.b 1)) .yes (.bin .Add (.b 3) (.tup (.cons (.v 2) .nil)))) [.val (roadsV n nm), .val (.lst ((subsI i).map (lotV nm))), .val (roadV nm i), .emp] = pure (.lst (((subsI i).map fun l => l ++ [i]).map (lotV nm))) := by
      refine (lc_map (ls := subsI i) (v := lotV nm) (fun l => some (lotV nm (l ++ [i]))) (evI_seq (ev_b rfl) rfl) (sz (by omega)) fun l hl => ?_).trans ?_
      · have hb := (subs_bel hl).2
        refine lcF_yes (ρ1 := [.val (roadsV n nm), .val (.lst ((subsI i).map (lotV nm))), .val (roadV nm i), .val (lotV nm l)]) rfl ?_
        have ee : lotV nm (l ++ [i]) = .tup (l.map (roadV nm) ++ [roadV nm i]) := by simp [lotV]
        rw [ee]
        exact ev_bin (ev_b rfl) (ev_tup (ev_es (ev_v rfl) ev_es0) (sz (by simp))) (add_tup (sz (by simp; omega)))
      · rw [fm_some, List.map_map]; rfl
    rw [asg_pure (ρ1 := [.val (roadsV n nm), .val (.lst ((subsI (i + 1)).map (lotV nm))), .val (roadV nm i), .emp]) (ev_bin (ev_b rfl) inner (add_lst (sz (by simp; omega)))) (by rw [← List.map_append]; rfl), evSs_nil]
  · refine ret_pure ?_
    have e : ((List.range n).map (roadV nm)).length = n := by simp
    rw [e]
    exact ev_bi1 (ev_b rfl) (N.sorted_lots fun l hl => (subs_bel hl).1)
/-! ### roads drawn -/
theorem roads_tr (hC : C "_law_next" = orcNext) (hN : ∀ many : Nat, 1 ≤ many → many ≤ 8 → Tr 12 (C "_law_names" [.drw, .int many]) (NamesOk many) noX) {lo hi : Nat} (h1 : 1 ≤ lo) (h2 : lo ≤ hi) (h8 : hi ≤ 8) :
    Tr 13 (runF kin C 0 c__law_roads [.drw, .int lo, .int hi]) (fun d => ∃ n nm, lo ≤ n ∧ n ≤ hi ∧ Nm n nm ∧ d = roadsV n nm) X := by
  refine Tr.mono (X := noX) ?_ (Nat.le_refl _) (fun _ h => h) fun _ h => h.elim
  refine run_tr ?_
  show Tr 13 (evSs kin C c__law_roads [.val .drw, .val (.int lo), .val (.int hi)]) _ noX
  unfold c__law_roads
  refine tr_ret ?_
  have number : Tr 1 (evE kin C (.bin .Add (.b 1) (.app "_law_next" (.cons (.v 0) (.cons (.bin .Sub (.bin .Add (.b 2) (.c (.int 1))) (.b 1)) .nil)))) [.val .drw, .val (.int lo), .val (.int hi)]) (fun d => ∃ m : Nat, lo ≤ m ∧ m ≤ hi ∧ d = .int m) noX := by
    refine Tr.le (c := 0 + 1) (tr_bin (Pa := fun x => x = .int lo) (Tr.of (ev_b rfl) rfl) fun x hx => ?_) (by decide)
    subst hx
    have e : evE kin C (.bin .Sub (.bin .Add (.b 2) (.c (.int 1))) (.b 1)) [.val .drw, .val (.int lo), .val (.int hi)] = pure (.int ((hi + 1 - lo : Nat) : Int)) := by
      refine (ev_bin (ev_bin (ev_b rfl) ev_c (add_int _ _)) (ev_b rfl) (sub_int _ _)).trans ?_
      congr 2
      omega
    refine (tr_next hC rfl e (by omega) (by omega)).imp ?_
    rintro y ⟨j, hj, rfl⟩
    exact ⟨_, add_int _ _, lo + j, by omega, by omega, by simp⟩
  have names : Tr (0 + (1 + 0) + 12) (evE kin C (.app "_law_names" (.cons (.v 0) (.cons (.bin .Add (.b 1) (.app "_law_next" (.cons (.v 0) (.cons (.bin .Sub (.bin .Add (.b 2) (.c (.int 1))) (.b 1)) .nil)))) .nil))) [.val .drw, .val (.int lo), .val (.int hi)])
      (fun d => ∃ m : Nat, lo ≤ m ∧ m ≤ hi ∧ NamesOk m d) noX := by
    refine tr_app (Ps := fun xs => ∃ m : Nat, lo ≤ m ∧ m ≤ hi ∧ xs = [.drw, .int m]) (tr_es (Pa := fun x => x = .drw) (Tr.of (ev_v rfl) rfl) fun x hx => ?_) fun xs hx => ?_
    · subst hx
      exact tr_es number fun y ⟨m, h1, h2, ey⟩ => by subst ey; exact tr_es0 ⟨m, h1, h2, rfl⟩
    · obtain ⟨m, h3, h4, rfl⟩ := hx
      exact (hN m (by omega) (by omega)).imp fun d hd => ⟨m, h3, h4, hd⟩
  refine tr_bi1 (Pa := fun d => ∃ n nm, lo ≤ n ∧ n ≤ hi ∧ Nm n nm ∧ ∃ ws : List Str, d = .lst (ws.map D.str) ∧ roadsV n nm = .tup (ws.map D.str)) ?_ fun d hd => ?_
  · refine tr_bi1 (Tr.le names (by decide)) fun d hd => ?_
    obtain ⟨m, h3, h4, ws, rfl, hl, hnd, hw⟩ := hd
    refine ⟨_, sorted_strs ws, m, fun i => (ws.mergeSort leS).getD i default, h3, h4, ?_, ws.mergeSort leS, rfl, ?_⟩
    · have := nm_of (sorted_strict hnd) fun w hw' => hw w ((List.mergeSort_perm ws leS).mem_iff.mp hw')
      rw [List.length_mergeSort, hl] at this
      exact this
    · have := roads_of (ws.mergeSort leS)
      rw [List.length_mergeSort, hl] at this
      exact this
  · obtain ⟨n, nm, h3, h4, N, ws, rfl, e⟩ := hd
    exact ⟨_, rfl, n, nm, h3, h4, N, e.symm⟩
end
end RM
end
section
set_option Elab.async false
set_option linter.all false
set_option maxRecDepth 100000
set_option autoImplicit false
/-! values: tries; a law's begin; rows of things -/
namespace RM
open PySem PySem.Spec PyProof.Rows L2

section
variable {kin : Kin} {C : Orc} {ρ ρ1 : Fe} {e : E} {r b : Ss} {h : Hs} {p : List Nat} {x : D}
theorem asg_raise (he : evE kin C e ρ = M.raise x) : evSs kin C (.cons (.asg p e) r) ρ = pure (.exc x ρ) := by
  rw [evSs_cons, evS_asg]
  dsimp only
  rw [he]; rfl
theorem try_ok (hb : evSs kin C b ρ = pure (.nx ρ1)) : evSs kin C (.cons (.tr b h) r) ρ = evSs kin C r ρ1 := by
  rw [evSs_cons]
  unfold evS
  rw [hb]; rfl
theorem try_ret {d : D} (hb : evSs kin C b ρ = pure (.ret d)) : evSs kin C (.cons (.tr b h) r) ρ = pure (.ret d) := by
  rw [evSs_cons]
  unfold evS
  rw [hb]; rfl
theorem try_exc {c0 : Str} {fs : List (Str × D)} (hb : evSs kin C b ρ = pure (.exc (.exc c0 fs) ρ1)) : evSs kin C (.cons (.tr b h) r) ρ = evHs kin C h (.exc c0 fs) ρ1 >>= goOn kin C r := by
  rw [evSs_cons]
  unfold evS
  rw [hb]; rfl
theorem hs_hit {c0 c : Str} {fs : List (Str × D)} {i : Option Nat} {hb : Ss} {hr : Hs} {o : Out} (h0 : kin.isX c0 = true) (h1 : kin.isX c = true) (h2 : (kin.par c0).contains c = true) (ho : evSs kin C hb (exnF i (.exc c0 fs) ρ) = pure o) (hn : ∀ x ρ', o ≠ .exc x ρ') :
    evHs kin C (.cons c i hb hr) (.exc c0 fs) ρ = pure (o.gone i) := by
  unfold evHs
  simp only [D.xcls, h0, h1, Bool.and_self, if_true, h2, ho, pure_bind]
theorem hs_miss {c0 c : Str} {fs : List (Str × D)} {i : Option Nat} {hb : Ss} {hr : Hs} (h0 : kin.isX c0 = true) (h1 : kin.isX c = true) (h2 : (kin.par c0).contains c = false) : evHs kin C (.cons c i hb hr) (.exc c0 fs) ρ = evHs kin C hr (.exc c0 fs) ρ := by
  conv => lhs; unfold evHs
  simp only [D.xcls, h0, h1, Bool.and_self, if_true, h2, Bool.false_eq_true, if_false]
theorem ev_xfl {i : Nat} {f : Str} {v : D} (h : ρ[i]? = some (.exn x)) (hv : xflD kin f x = some v) : evE kin C (.xfl i f) ρ = pure v := by
  unfold evE
  rw [h]
  simp only [hv]
  rfl
theorem par_pure {is : List Nat} {es : Es} {ds : List D} (h : evEs kin C es ρ = pure ds) (hl : ds.length = is.length) : evSs kin C (.cons (.par is es) r) ρ = evSs kin C r ((is.zip ds).foldl (fun ρ q => setS ρ q.1 q.2) ρ) := by
  rw [evSs_cons]
  unfold evS
  rw [h]
  show ((if ds.length = is.length then pure (.nx ((is.zip ds).foldl (fun ρ q => setS ρ q.1 q.2) ρ)) else M.fail : M Out) >>= goOn kin C r) = _
  rw [if_pos hl]; rfl
/-- a law: draws begin, then the rest -/
theorem law_begin {n : Nat} {rest : Ss} {ns : List Int} {c : Nat} {P : D → Prop} (hC : C "_law_begun" = orcBegun) (hs : scriptOk ns = true) (hc : c ≤ drawMost)
    (t : Tr c (evSs kin C rest (.val (.scr ns) :: .val .drw :: List.replicate n .emp)) (bodyP P noX) noX) :
    wpM (runF kin C (n + 1) (.cons (.asg [1] (.app "_law_begun" (.cons (.v 0) .nil))) rest) [.scr ns]) {} (fun d _ => P d) fun _ _ => False := by
  have e1 : evE kin C (.app "_law_begun" (.cons (.v 0) .nil)) (.val (.scr ns) :: List.replicate (n + 1) .emp) = orcBegun [.scr ns] := ev_app (ev_es (ev_v rfl) ev_es0) (congrFun hC _)
  have key := (run_tr (kin := kin) (C := C) (n := n) (b := rest) (ds := [.scr ns, .drw]) (X := noX) t).go { beg := true } (fun d _ => P d) (fun _ _ => False) rfl (by show 0 + c ≤ drawMost; omega) (fun a n h _ => h) fun _ _ h _ => h
  have e2 : (runF kin C (n + 1) (.cons (.asg [1] (.app "_law_begun" (.cons (.v 0) .nil))) rest) [.scr ns]) {} = (runF kin C n rest [.scr ns, .drw]) { beg := true } := by
    unfold runF
    rw [evSs_cons, evS_asg]
    show ((M.quiet ((exO (evE kin C (.app "_law_begun" (.cons (.v 0) .nil)) (.val (.scr ns) :: List.replicate (n + 1) .emp)) (.val (.scr ns) :: List.replicate (n + 1) .emp) fun d => do
      let ρ' ← M.op (asgP [1] d (.val (.scr ns) :: List.replicate (n + 1) .emp))
      pure (.nx ρ')) >>= goOn kin C rest)) >>= _) {} = _
    rw [e1]
    have e3 : orcBegun [.scr ns] {} = .ret .drw { beg := true } := by
      show (if !(({} : Sto)).beg && decide ((({} : Sto)).n = 0) && scriptOk ns then T.ret D.drw { ({} : Sto) with beg := true } else .fail) = _
      rw [hs]; rfl
    show T.bind (T.quiet (T.bind (T.bind (T.att (orcBegun [.scr ns] {})) _) _)) _ = _
    rw [e3]
    rfl
  unfold wpM
  rw [e2]
  exact key
end
end RM
end
section
set_option Elab.async false
set_option linter.all false
set_option maxRecDepth 100000
set_option maxHeartbeats 0
set_option autoImplicit false
/-! a law: its tables, its defs compiled -/
namespace RM
open PySem PySem.Spec PyProof.Rows L2
def top_ (i : Nat) : Stmt := PySem.Challenge.pw_roadmeets_k70_errors.main.body.getD i (.Pass ⟨0, 0, 0, 0⟩)
def kin_ : Kin where
  par := fun c => match ([("RoadError", ["RoadError"]), ("BadRoads", ["BadRoads", "RoadError"]), ("BadRoad", ["BadRoad", "RoadError"]), ("BadLot", ["BadLot", "RoadError"]), ("BadMeets", ["BadMeets", "RoadError"]), ("BadNet", ["BadNet", "RoadError"]), ("BadTold", ["BadTold", "RoadError"]), ("BadNumber", ["BadNumber", "RoadError"]), ("BadPaper", ["BadPaper", "RoadError"]), ("BadText", ["BadText", "RoadError"]), ("NoNet", ["NoNet"]), ("TooMany", ["TooMany"])] : List (Str × List Str)).lookup c with
    | some l => l
    | none => []
  xfl := fun c => match ([("BadRoads", ["value"]), ("BadRoad", ["value"]), ("BadLot", ["value"]), ("BadMeets", ["place"]), ("BadNet", ["place"]), ("BadTold", ["place"]), ("BadNumber", ["value"]), ("BadPaper", ["place"]), ("BadText", ["line"]), ("NoNet", ["paper"]), ("TooMany", ["most"])] : List (Str × List Str)).lookup c with
    | some l => l
    | none => []
  fld := fun c => match ([] : List (Str × List Str)).lookup c with
    | some l => l
    | none => []
  isI := fun c => ([] : List Str).contains c
  isX := fun c => (["RoadError", "BadRoads", "BadRoad", "BadLot", "BadMeets", "BadNet", "BadTold", "BadNumber", "BadPaper", "BadText", "NoNet", "TooMany"] : List Str).contains c
  ini := fun c => ([("BadRoads", "value"), ("BadRoad", "value"), ("BadLot", "value"), ("BadMeets", "place"), ("BadNet", "place"), ("BadTold", "place"), ("BadNumber", "value"), ("BadPaper", "place"), ("BadText", "line"), ("NoNet", "paper"), ("TooMany", "most")] : List (Str × Str)).lookup c
  xb := fun c => match ([("RoadError", ["ValueError"]), ("BadRoads", ["ValueError"]), ("BadRoad", ["ValueError"]), ("BadLot", ["ValueError"]), ("BadMeets", ["ValueError"]), ("BadNet", ["ValueError"]), ("BadTold", ["ValueError"]), ("BadNumber", ["ValueError"]), ("BadPaper", ["ValueError"]), ("BadText", ["ValueError"]), ("NoNet", ["LookupError"]), ("TooMany", ["OverflowError"])] : List (Str × List String)).lookup c with
    | some l => l
    | none => []
def gt_ : Gt := [(("_law_begun" : Str), Gv.fn 1), (("_law_next" : Str), Gv.fn 2), (("_law_value" : Str), Gv.fn 1), (("_law_kinds" : Str), Gv.fn 1), (("_law_field" : Str), Gv.fn 1), (("law" : Str), Gv.fn 1), (("RoadError" : Str), Gv.cls "RoadError"), (("BadRoads" : Str), Gv.xcl "BadRoads"), (("BadRoad" : Str), Gv.xcl "BadRoad"), (("BadLot" : Str), Gv.xcl "BadLot"), (("BadMeets" : Str), Gv.xcl "BadMeets"), (("BadNet" : Str), Gv.xcl "BadNet"), (("BadTold" : Str), Gv.xcl "BadTold"), (("BadNumber" : Str), Gv.xcl "BadNumber"), (("BadPaper" : Str), Gv.xcl "BadPaper"), (("BadText" : Str), Gv.xcl "BadText"), (("NoNet" : Str), Gv.xcl "NoNet"), (("TooMany" : Str), Gv.xcl "TooMany"), (("BadRoads=value" : Str), Gv.xkw "BadRoads" "value"), (("BadRoad=value" : Str), Gv.xkw "BadRoad" "value"), (("BadLot=value" : Str), Gv.xkw "BadLot" "value"), (("BadMeets=place" : Str), Gv.xkw "BadMeets" "place"), (("BadNet=place" : Str), Gv.xkw "BadNet" "place"), (("TooMany=most" : Str), Gv.xkw "TooMany" "most"), (("BadTold=place" : Str), Gv.xkw "BadTold" "place"), (("BadNumber=value" : Str), Gv.xkw "BadNumber" "value"), (("BadPaper=place" : Str), Gv.xkw "BadPaper" "place"), (("BadText=line" : Str), Gv.xkw "BadText" "line"), (("NoNet=paper" : Str), Gv.xkw "NoNet" "paper"), (("list" : Str), Gv.blt), (("int" : Str), Gv.blt), (("len" : Str), Gv.blt), (("isinstance" : Str), Gv.blt), (("range" : Str), Gv.blt), (("enumerate" : Str), Gv.blt), (("min" : Str), Gv.blt), (("ValueError" : Str), Gv.blt), (("LookupError" : Str), Gv.blt), (("repr" : Str), Gv.blt), (("OverflowError" : Str), Gv.blt), (("KeyError" : Str), Gv.blt), (("IndexError" : Str), Gv.blt)]
def sub_ (s : Stmt) (j : Nat) : Stmt := match s with
  | .ClassDef _ _ _ b _ _ _ _ _ _ _ => b.getD j (.Pass ⟨0, 0, 0, 0⟩)
  | _ => s
def cs_ : List Str := ["RoadError", "BadRoads", "BadRoad", "BadLot", "BadMeets", "BadNet", "BadTold", "BadNumber", "BadPaper", "BadText", "NoNet", "TooMany"]
def fuel_ : Nat := 40
def d__law_begun : DefI := { name := "_law_begun", N := ["_law_script", "_law_cell"], ps := ["_law_script"], args := defArgs (top_ 14), body := defBody (top_ 14), sc := defScope (top_ 14), own := [], b := .nil }
theorem t__law_begun : DefT d__law_begun := ⟨⟨by kernel_rfl, by kernel_rfl, by kernel_rfl, by decide +kernel, by kernel_rfl, by decide +kernel, by decide +kernel⟩, bd_none rfl rfl fun _ _ _ _ _ _ us hl => match us, hl with | [_], _ => by kernel_rfl⟩
def d__law_next : DefI := { name := "_law_next", N := ["_law_m", "_law_many", "_law_rest", "_law_at", "_law_bits", "_law_cell", "_law_blend"], ps := ["_law_m", "_law_many"], args := defArgs (top_ 15), body := defBody (top_ 15), sc := defScope (top_ 15), own := [], b := .nil }
theorem t__law_next : DefT d__law_next := ⟨⟨by kernel_rfl, by kernel_rfl, by kernel_rfl, by decide +kernel, by kernel_rfl, by decide +kernel, by decide +kernel⟩, bd_none rfl rfl fun _ _ _ _ _ _ us hl => match us, hl with | [_, _], _ => by kernel_rfl⟩
def c__law_value : Ss :=
  (.cons (.ret (.sub (.lst (.cons (.c .non) (.cons (.c (.int 0)) (.cons (.c (.int 5)) (.cons (.neg (.c (.int 1))) (.cons (.c (.str "a")) (.cons (.c (.str "")) (.cons (.tup .nil) (.cons (.tup (.cons (.c (.int 1)) (.cons (.c (.int 2)) .nil))) (.cons (.lst .nil) (.cons .dct0 (.cons (.c (.bl true)) (.cons (.bin .Pow (.c (.int 10)) (.c (.int 30))) .nil))))))))))))) (.app "_law_next" (.cons (.v 0) (.cons (.c (.int 12)) .nil)))))
  .nil)
def d__law_value : DefI := { name := "_law_value", N := ["_law_m"], ps := ["_law_m"], args := defArgs (top_ 16), body := defBody (top_ 16), sc := defScope (top_ 16), own := [], b := c__law_value }
theorem t__law_value : DefT d__law_value := ⟨⟨by kernel_rfl, by kernel_rfl, by kernel_rfl, by decide +kernel, by kernel_rfl, by decide +kernel, by decide +kernel⟩, bd_none rfl rfl fun _ _ _ _ _ _ us hl => match us, hl with | [_], _ => by kernel_rfl⟩
theorem k__law_value : DefC kin_ gt_ (cp gt_ fuel_) fuel_ d__law_value := ⟨t__law_value, by kernel_rfl, by kernel_rfl, rfl, by kernel_rfl⟩
def c__law_kinds : Ss :=
  (.cons (.asg [1] (.lst (.cons (.bi (.isi [.c "BadRoads"]) (.cons (.b 0) .nil)) (.cons (.bi (.isi [.c "BadRoad"]) (.cons (.b 0) .nil)) (.cons (.bi (.isi [.c "BadLot"]) (.cons (.b 0) .nil)) (.cons (.bi (.isi [.c "BadMeets"]) (.cons (.b 0) .nil)) .nil))))))
  (.cons (.asg [1] (.bin .Add (.b 1) (.lst (.cons (.bi (.isi [.c "BadNet"]) (.cons (.b 0) .nil)) (.cons (.bi (.isi [.c "BadTold"]) (.cons (.b 0) .nil)) (.cons (.bi (.isi [.c "BadNumber"]) (.cons (.b 0) .nil)) .nil))))))
  (.cons (.asg [1] (.bin .Add (.b 1) (.lst (.cons (.bi (.isi [.c "BadPaper"]) (.cons (.b 0) .nil)) (.cons (.bi (.isi [.c "BadText"]) (.cons (.b 0) .nil)) .nil)))))
  (.cons (.ret (.bin .Add (.b 1) (.lst (.cons (.bi (.isi [.c "NoNet"]) (.cons (.b 0) .nil)) (.cons (.bi (.isi [.c "TooMany"]) (.cons (.b 0) .nil)) .nil)))))
  .nil))))
def d__law_kinds : DefI := { name := "_law_kinds", N := ["_law_one", "_law_found"], ps := ["_law_one"], args := defArgs (top_ 17), body := defBody (top_ 17), sc := defScope (top_ 17), own := [], b := c__law_kinds }
theorem t__law_kinds : DefT d__law_kinds := ⟨⟨by kernel_rfl, by kernel_rfl, by kernel_rfl, by decide +kernel, by kernel_rfl, by decide +kernel, by decide +kernel⟩, bd_none rfl rfl fun _ _ _ _ _ _ us hl => match us, hl with | [_], _ => by kernel_rfl⟩
theorem k__law_kinds : DefC kin_ gt_ (cp gt_ fuel_) fuel_ d__law_kinds := ⟨t__law_kinds, by kernel_rfl, by kernel_rfl, rfl, by kernel_rfl⟩
def c__law_field : Ss :=
  (.cons (.iff (.val (.bi (.isi [.c "BadMeets", .c "BadNet", .c "BadTold", .c "BadPaper"]) (.cons (.b 0) .nil)))
  (.cons (.ret (.fld (.b 0) "place"))
  .nil)
  .nil)
  (.cons (.iff (.val (.bi (.isi [.c "BadRoads", .c "BadRoad", .c "BadLot", .c "BadNumber"]) (.cons (.b 0) .nil)))
  (.cons (.ret (.fld (.b 0) "value"))
  .nil)
  .nil)
  (.cons (.iff (.val (.bi (.isi [.c "BadText"]) (.cons (.b 0) .nil)))
  (.cons (.ret (.fld (.b 0) "line"))
  .nil)
  .nil)
  (.cons (.ret (.ife (.val (.bi (.isi [.c "NoNet"]) (.cons (.b 0) .nil))) (.fld (.b 0) "paper") (.fld (.b 0) "most")))
  .nil))))
def d__law_field : DefI := { name := "_law_field", N := ["_law_one"], ps := ["_law_one"], args := defArgs (top_ 18), body := defBody (top_ 18), sc := defScope (top_ 18), own := [], b := c__law_field }
theorem t__law_field : DefT d__law_field := ⟨⟨by kernel_rfl, by kernel_rfl, by kernel_rfl, by decide +kernel, by kernel_rfl, by decide +kernel, by decide +kernel⟩, bd_none rfl rfl fun _ _ _ _ _ _ us hl => match us, hl with | [_], _ => by kernel_rfl⟩
theorem k__law_field : DefC kin_ gt_ (cp gt_ fuel_) fuel_ d__law_field := ⟨t__law_field, by kernel_rfl, by kernel_rfl, rfl, by kernel_rfl⟩
def c_law : Ss :=
  (.cons (.asg [1] (.app "_law_begun" (.cons (.v 0) .nil)))
  (.cons (.frl [2] (.rng1 (.bin .Add (.c (.int 2)) (.bi .min2 (.cons (.bi .len (.cons (.b 0) .nil)) (.cons (.c (.int 6)) .nil)))))
  (.cons (.asg [3] (.app "_law_value" (.cons (.v 1) .nil)))
  (.cons (.asg [4] (.lst (.cons (.app "BadRoads" (.cons (.v 3) .nil)) (.cons (.app "BadRoad" (.cons (.v 3) .nil)) (.cons (.app "BadLot" (.cons (.v 3) .nil)) (.cons (.app "BadMeets" (.cons (.v 3) .nil)) (.cons (.app "BadNet" (.cons (.v 3) .nil)) (.cons (.app "BadTold" (.cons (.v 3) .nil)) (.cons (.app "BadNumber" (.cons (.v 3) .nil)) (.cons (.app "BadPaper" (.cons (.v 3) .nil)) .nil))))))))))
  (.cons (.asg [4] (.bin .Add (.b 4) (.lst (.cons (.app "BadText" (.cons (.v 3) .nil)) (.cons (.app "NoNet" (.cons (.v 3) .nil)) (.cons (.app "TooMany" (.cons (.v 3) .nil)) .nil))))))
  (.cons (.own 5 (.lst (.cons (.app "BadRoads=value" (.cons (.v 3) .nil)) (.cons (.app "BadRoad=value" (.cons (.v 3) .nil)) (.cons (.app "BadLot=value" (.cons (.v 3) .nil)) (.cons (.app "BadMeets=place" (.cons (.v 3) .nil)) (.cons (.app "BadNet=place" (.cons (.v 3) .nil)) .nil)))))))
  (.cons (.owd 5 (.bin .Add (.b 5) (.lst (.cons (.app "BadTold=place" (.cons (.v 3) .nil)) (.cons (.app "BadNumber=value" (.cons (.v 3) .nil)) (.cons (.app "BadPaper=place" (.cons (.v 3) .nil)) (.cons (.app "BadText=line" (.cons (.v 3) .nil)) (.cons (.app "NoNet=paper" (.cons (.v 3) .nil)) .nil))))))))
  (.cons (.app 5 (.app "TooMany=most" (.cons (.v 3) .nil)))
  (.cons (.frl [6, 7] (.enum (.v 4))
  (.cons (.iff (.or (.val (.cmp .NotEq (.bi .repr (.cons (.app "_law_field" (.cons (.v 7) .nil)) .nil)) (.bi .repr (.cons (.b 3) .nil)))) (.val (.cmp .NotEq (.bi .repr (.cons (.app "_law_field" (.cons (.sub (.b 5) (.b 6)) .nil)) .nil)) (.bi .repr (.cons (.b 3) .nil)))))
  (.cons (.ret (.c (.bl false)))
  .nil)
  .nil)
  (.cons (.iff (.or (.val (.cmp .NotEq (.app "_law_kinds" (.cons (.v 7) .nil)) (.lc [8] [8] (.rng1 (.c (.int 11))) .yes (.cmp .Eq (.b 8) (.b 6))))) (.val (.cmp .NotEq (.app "_law_kinds" (.cons (.sub (.b 5) (.b 6)) .nil)) (.app "_law_kinds" (.cons (.v 7) .nil)))))
  (.cons (.ret (.c (.bl false)))
  .nil)
  .nil)
  (.cons (.asg [9] (.lst (.cons (.bi (.isi [.c "RoadError"]) (.cons (.b 7) .nil)) (.cons (.bi (.isi [.b "ValueError"]) (.cons (.b 7) .nil)) (.cons (.bi (.isi [.b "LookupError"]) (.cons (.b 7) .nil)) .nil)))))
  (.cons (.asg [9] (.bin .Add (.b 9) (.lst (.cons (.bi (.isi [.b "OverflowError"]) (.cons (.b 7) .nil)) (.cons (.bi (.isi [.b "KeyError", .b "IndexError"]) (.cons (.b 7) .nil)) .nil)))))
  (.cons (.iff (.val (.cmp .NotEq (.b 9) (.lst (.cons (.cmp .Lt (.b 6) (.c (.int 9))) (.cons (.cmp .Lt (.b 6) (.c (.int 9))) (.cons (.cmp .Eq (.b 6) (.c (.int 9))) (.cons (.cmp .Eq (.b 6) (.c (.int 10))) (.cons (.c (.bl false)) .nil))))))))
  (.cons (.ret (.c (.bl false)))
  .nil)
  .nil)
  .nil))))))
  .nil))))))))
  (.cons (.ret (.c (.bl true)))
  .nil)))
def d_law : DefI := { name := "law", N := ["_law_script", "_law_m", "_law_turn", "_law_q", "_law_some", "_law_far", "_law_at", "_law_one", "_law_k", "_law_told"], ps := ["_law_script"], args := defArgs (top_ 19), body := defBody (top_ 19), sc := defScope (top_ 19), own := [5], b := c_law }
theorem t_law : DefT d_law := ⟨⟨by kernel_rfl, by kernel_rfl, by kernel_rfl, by decide +kernel, by kernel_rfl, by decide +kernel, by decide +kernel⟩, bd_none rfl rfl fun _ _ _ _ _ _ us hl => match us, hl with | [_], _ => by kernel_rfl⟩
theorem k_law : DefC kin_ gt_ (cp gt_ fuel_) fuel_ d_law := ⟨t_law, by kernel_rfl, by kernel_rfl, rfl, by kernel_rfl⟩
def law_ : LawI := { kin := kin_, gt := gt_, cs := cs_, dB := d__law_begun, dN := d__law_next, ds := [d__law_value, d__law_kinds, d__law_field, d_law], xs := [("BadRoads", "BadRoads"), ("BadRoad", "BadRoad"), ("BadLot", "BadLot"), ("BadMeets", "BadMeets"), ("BadNet", "BadNet"), ("BadTold", "BadTold"), ("BadNumber", "BadNumber"), ("BadPaper", "BadPaper"), ("TooMany", "TooMany"), ("BadText", "BadText"), ("NoNet", "NoNet"), ("BadRoads=value", "BadRoads"), ("BadRoad=value", "BadRoad"), ("BadLot=value", "BadLot"), ("BadMeets=place", "BadMeets"), ("BadNet=place", "BadNet"), ("TooMany=most", "TooMany"), ("BadTold=place", "BadTold"), ("BadNumber=value", "BadNumber"), ("BadPaper=place", "BadPaper"), ("BadText=line", "BadText"), ("NoNet=paper", "NoNet")] }
theorem xs_ok : ∀ p ∈ law_.xs, XsOk law_.kin law_.gt p := by
  intro p hp
  simp only [law_, List.mem_cons, List.not_mem_nil, or_false] at hp
  rcases hp with rfl | rfl | rfl | rfl | rfl | rfl | rfl | rfl | rfl | rfl | rfl | rfl | rfl | rfl | rfl | rfl | rfl | rfl | rfl | rfl | rfl | rfl
  · exact .inl rfl
  · exact .inl rfl
  · exact .inl rfl
  · exact .inl rfl
  · exact .inl rfl
  · exact .inl rfl
  · exact .inl rfl
  · exact .inl rfl
  · exact .inl rfl
  · exact .inl rfl
  · exact .inl rfl
  · exact .inr ⟨_, rfl, rfl⟩
  · exact .inr ⟨_, rfl, rfl⟩
  · exact .inr ⟨_, rfl, rfl⟩
  · exact .inr ⟨_, rfl, rfl⟩
  · exact .inr ⟨_, rfl, rfl⟩
  · exact .inr ⟨_, rfl, rfl⟩
  · exact .inr ⟨_, rfl, rfl⟩
  · exact .inr ⟨_, rfl, rfl⟩
  · exact .inr ⟨_, rfl, rfl⟩
  · exact .inr ⟨_, rfl, rfl⟩
  · exact .inr ⟨_, rfl, rfl⟩
theorem ds_ok : ∀ d ∈ law_.ds, DefC kin_ gt_ (cp gt_ fuel_) fuel_ d :=
  all_cons k__law_value (all_cons k__law_kinds (all_cons k__law_field (all_cons k_law ((fun _ hd => nomatch hd)))))
/-! ### the draws' defs -/
theorem begun_is : BegunIs kin_ gt_ failO d__law_begun.N d__law_begun.sc d__law_begun.body := by
  intro Y k X W U so av
  have sn : Snd kin_ gt_ (cp gt_ fuel_) := snd_cp kin_ gt_ fuel_
  refine pss_one (ps_ret (pe_disp (pps_cons pe_str ?_ (pps_cons pe_str ?_ (pps_cons pe_str pe_int pps_nil))) (by rfl) (by rfl) (fun z => by cases z) (by decide)))
  · exact sn.n _ _ _ X Y k failO W (by kernel_rfl) (by kernel_rfl) so.o
  · exact sn.n _ _ _ X Y k failO W (by rfl) (by kernel_rfl) so.o
theorem next_is (C : Orc) : NextIs kin_ gt_ C d__law_next.N d__law_next.sc d__law_next.body := by
  intro Y k X W U so av ms
  have sn : Snd kin_ gt_ (cp gt_ fuel_) := snd_cp kin_ gt_ fuel_
  rw [← so.o.ox.hK]
  have hu64 : X.A.units + 64 < cLine := by have := so.o.ox.units; omega
  have hu : X.A.units + 1 < cLine := by omega
  have nd := so.o.ox.nd
  have hm : ∀ p, PE X (.Name "_law_m" p) (tVar 0) := fun p => pe_var (by rw [so.o.N]; rfl) (by rw [so.o.sc]; exact .inl rfl)
  have hn : ∀ p, PE X (.Name "_law_many" p) (tVar 1) := fun p => pe_var (by rw [so.o.N]; rfl) (by rw [so.o.sc]; exact .inl rfl)
  have hr : ∀ p, PE X (.Name "_law_rest" p) (tVar 2) := fun p => pe_var (by rw [so.o.N]; rfl) (by rw [so.o.sc]; exact .inl rfl)
  have ha : ∀ p, PE X (.Name "_law_at" p) (tVar 3) := fun p => pe_var (by rw [so.o.N]; rfl) (by rw [so.o.sc]; exact .inl rfl)
  have tint := (glo_ok so.o (x := "int") (v := .blt) (by rfl))
  have left : ∀ {p1 p2 p3 j}, PE X (.Subscript (.Name "_law_m" p1) (.Constant (.str "left") j p2) p3) (tKey "left") := pe_dget hu (hm _) pe_str (fun _ _ => rfl)
  refine pss_cons (ps_while (so.po rfl) (PW.pt (pw_and (pt_cmpR (op_neD hu64) left (pe_lst pa_nil) (nomark _)) (pw_and1 (pt_cmp (pc_eqI (pe_ix ix_list left pe_int (fun _ _ => rfl)) pe_int)))))
      (pss_one (ps_dput hu (hm _) pe_str (pe_slice sl_list left (po_some pe_int) po_none) (by rfl))))
    (pss_cons (ps_if (pt_cmpR (op_neD hu64) left (pe_lst pa_nil) (nomark _)) (pss_cons (ps_set (i := 2) nd (by rw [so.o.N]; rfl) (by rw [so.o.sc]; exact .inl rfl) (pe_ix ix_list left pe_int (fun _ _ => rfl)) (by rfl) (.inl (by rw [so.o.fn]; rfl)))
        (pss_cons (ps_asg (pe_op op_fdivW (hr _) (hn _)) (pg_sub left pe_int set_list))
        (pss_one (ps_ret (pe_op op_mod (pe_callTy call_int1 tint.1 tint.2 boot_int (pa_cons (hr _) pa_nil)) (hn _))))))
      pss_nil)
    (pss_cons (ps_par (i := 3) (j := 4) (so.o.ox.calm rfl) nd (by rw [so.o.N]; rfl) (by rw [so.o.N]; rfl) (by decide) (by rw [so.o.sc]; rfl) (by rw [so.o.sc]; rfl) (pa_cons (pe_add (pe_dget hu (hm _) pe_str (fun _ _ => rfl)) pe_int) (pa_cons (pe_dget hu (hm _) pe_str (fun _ _ => rfl)) pa_nil)) (swp_ok so (by rfl)) (by rfl))
    (pss_cons (ps_dput hu (hm _) pe_str (ha _) (by rfl))
    (rok_cp kin_ gt_ (cp gt_ fuel_) sn fuel_ _ X Y k C W U _ nextTail (by kernel_rfl) so av ms))))
theorem law_ok : LawOk law_ (cp gt_ fuel_) fuel_ where
  xs := xs_ok
  sn := snd_cp kin_ gt_ fuel_
  tB := t__law_begun
  tN := t__law_next
  kB := rfl
  kN := rfl
  fB := rfl
  fN := rfl
  nB := rfl
  pB := rfl
  nN := rfl
  pN := rfl
  gB := by kernel_rfl
  gN := by kernel_rfl
  iB := begun_is
  iN := next_is _
  ds := ds_ok
  law := by kernel_rfl

end RM
end
section
set_option Elab.async false
set_option linter.all false
set_option maxRecDepth 100000
set_option maxHeartbeats 0
set_option autoImplicit false
namespace RM
open PySem PySem.Spec PyProof.Rows L2
/-! ### the defs, one behind the other -/
def O0 : Orc := xorcs kin_ law_.xs (updO (updO failO "_law_begun" orcBegun) "_law_next" orcNext)
def O1 : Orc := updO O0 "_law_value" (d__law_value.run kin_ O0)
def O2 : Orc := updO O1 "_law_kinds" (d__law_kinds.run kin_ O1)
def O3 : Orc := updO O2 "_law_field" (d__law_field.run kin_ O2)
def O4 : Orc := updO O3 "law" (d_law.run kin_ O3)
theorem orc_eq : law_.orc = O4 := rfl
theorem o0__law_next : O0 "_law_next" = orcNext := by kernel_rfl
theorem o3__law_begun : O3 "_law_begun" = orcBegun := by kernel_rfl
theorem o3__law_field : O3 "_law_field" = d__law_field.run kin_ O2 := by kernel_rfl
theorem o3__law_kinds : O3 "_law_kinds" = d__law_kinds.run kin_ O1 := by kernel_rfl
theorem o3__law_value : O3 "_law_value" = d__law_value.run kin_ O0 := by kernel_rfl
theorem o_law : O4 "law" = d_law.run kin_ O3 := by kernel_rfl
end RM
end
section
set_option Elab.async false
set_option linter.all false
set_option maxRecDepth 100000
set_option maxHeartbeats 0
set_option autoImplicit false
/-! the errors' law: its value -/
namespace RM
open PySem PySem.Spec PyProof.Rows L2
def body70 : Ss := match c_law with
  | .cons _ (.cons (.frl _ _ b) _) => b
  | _ => .nil
def rest70 : Ss := match body70 with
  | .cons _ r => r
  | _ => .nil
def qs70 : List D := [.non, .int 0, .int 5, .int (-1), .str "a", .str "", .tup [], .tup [.int 1, .int 2], .lst [], .dct [], .bl true, .int (10 ^ 30)]
def ex70 (q : D) : List D := [.exc "BadRoads" [("value", q)], .exc "BadRoad" [("value", q)], .exc "BadLot" [("value", q)], .exc "BadMeets" [("place", q)], .exc "BadNet" [("place", q)], .exc "BadTold" [("place", q)], .exc "BadNumber" [("value", q)], .exc "BadPaper" [("place", q)], .exc "BadText" [("line", q)], .exc "NoNet" [("paper", q)], .exc "TooMany" [("most", q)]]
def end70 (ns : List Int) (t q : D) (a8 : Slot) : Fe := [.val (.scr ns), .val .drw, .val t, .val q, .val (.lst (ex70 q)), .own (ex70 q), .val (.int 10), .val (.exc "TooMany" [("most", q)]), a8, .val (.lst [.bl false, .bl false, .bl false, .bl true, .bl false])]
theorem b70_0 (ns : List Int) (t : D) (a4 a5 a6 a7 a8 a9 : Slot) : evSs kin_ O3 rest70 [.val (.scr ns), .val .drw, .val t, .val (.non), a4, a5, a6, a7, a8, a9] = pure (.nx (end70 ns t (.non) a8)) := by kernel_rfl
theorem b70_1 (ns : List Int) (t : D) (a4 a5 a6 a7 a8 a9 : Slot) : evSs kin_ O3 rest70 [.val (.scr ns), .val .drw, .val t, .val (.int 0), a4, a5, a6, a7, a8, a9] = pure (.nx (end70 ns t (.int 0) a8)) := by kernel_rfl
theorem b70_2 (ns : List Int) (t : D) (a4 a5 a6 a7 a8 a9 : Slot) : evSs kin_ O3 rest70 [.val (.scr ns), .val .drw, .val t, .val (.int 5), a4, a5, a6, a7, a8, a9] = pure (.nx (end70 ns t (.int 5) a8)) := by kernel_rfl
theorem b70_3 (ns : List Int) (t : D) (a4 a5 a6 a7 a8 a9 : Slot) : evSs kin_ O3 rest70 [.val (.scr ns), .val .drw, .val t, .val (.int (-1)), a4, a5, a6, a7, a8, a9] = pure (.nx (end70 ns t (.int (-1)) a8)) := by kernel_rfl
theorem b70_4 (ns : List Int) (t : D) (a4 a5 a6 a7 a8 a9 : Slot) : evSs kin_ O3 rest70 [.val (.scr ns), .val .drw, .val t, .val (.str "a"), a4, a5, a6, a7, a8, a9] = pure (.nx (end70 ns t (.str "a") a8)) := by kernel_rfl
theorem b70_5 (ns : List Int) (t : D) (a4 a5 a6 a7 a8 a9 : Slot) : evSs kin_ O3 rest70 [.val (.scr ns), .val .drw, .val t, .val (.str ""), a4, a5, a6, a7, a8, a9] = pure (.nx (end70 ns t (.str "") a8)) := by kernel_rfl
theorem b70_6 (ns : List Int) (t : D) (a4 a5 a6 a7 a8 a9 : Slot) : evSs kin_ O3 rest70 [.val (.scr ns), .val .drw, .val t, .val (.tup []), a4, a5, a6, a7, a8, a9] = pure (.nx (end70 ns t (.tup []) a8)) := by kernel_rfl
theorem b70_7 (ns : List Int) (t : D) (a4 a5 a6 a7 a8 a9 : Slot) : evSs kin_ O3 rest70 [.val (.scr ns), .val .drw, .val t, .val (.tup [.int 1, .int 2]), a4, a5, a6, a7, a8, a9] = pure (.nx (end70 ns t (.tup [.int 1, .int 2]) a8)) := by kernel_rfl
theorem b70_8 (ns : List Int) (t : D) (a4 a5 a6 a7 a8 a9 : Slot) : evSs kin_ O3 rest70 [.val (.scr ns), .val .drw, .val t, .val (.lst []), a4, a5, a6, a7, a8, a9] = pure (.nx (end70 ns t (.lst []) a8)) := by kernel_rfl
theorem b70_9 (ns : List Int) (t : D) (a4 a5 a6 a7 a8 a9 : Slot) : evSs kin_ O3 rest70 [.val (.scr ns), .val .drw, .val t, .val (.dct []), a4, a5, a6, a7, a8, a9] = pure (.nx (end70 ns t (.dct []) a8)) := by kernel_rfl
theorem b70_10 (ns : List Int) (t : D) (a4 a5 a6 a7 a8 a9 : Slot) : evSs kin_ O3 rest70 [.val (.scr ns), .val .drw, .val t, .val (.bl true), a4, a5, a6, a7, a8, a9] = pure (.nx (end70 ns t (.bl true) a8)) := by kernel_rfl
theorem b70_11 (ns : List Int) (t : D) (a4 a5 a6 a7 a8 a9 : Slot) : evSs kin_ O3 rest70 [.val (.scr ns), .val .drw, .val t, .val (.int (10 ^ 30)), a4, a5, a6, a7, a8, a9] = pure (.nx (end70 ns t (.int (10 ^ 30)) a8)) := by kernel_rfl
theorem b70 {q : D} (hq : q ∈ qs70) (ns : List Int) (t : D) (a4 a5 a6 a7 a8 a9 : Slot) : evSs kin_ O3 rest70 [.val (.scr ns), .val .drw, .val t, .val q, a4, a5, a6, a7, a8, a9] = pure (.nx (end70 ns t q a8)) := by
  simp only [qs70, List.mem_cons, List.not_mem_nil, or_false] at hq
  rcases hq with rfl | rfl | rfl | rfl | rfl | rfl | rfl | rfl | rfl | rfl | rfl | rfl
  · exact b70_0 ns t a4 a5 a6 a7 a8 a9
  · exact b70_1 ns t a4 a5 a6 a7 a8 a9
  · exact b70_2 ns t a4 a5 a6 a7 a8 a9
  · exact b70_3 ns t a4 a5 a6 a7 a8 a9
  · exact b70_4 ns t a4 a5 a6 a7 a8 a9
  · exact b70_5 ns t a4 a5 a6 a7 a8 a9
  · exact b70_6 ns t a4 a5 a6 a7 a8 a9
  · exact b70_7 ns t a4 a5 a6 a7 a8 a9
  · exact b70_8 ns t a4 a5 a6 a7 a8 a9
  · exact b70_9 ns t a4 a5 a6 a7 a8 a9
  · exact b70_10 ns t a4 a5 a6 a7 a8 a9
  · exact b70_11 ns t a4 a5 a6 a7 a8 a9
theorem v_value {X : D → Prop} : Tr 1 (d__law_value.run kin_ O0 [.drw]) (fun d => d ∈ qs70) X := by
  show Tr 1 (runF kin_ O0 0 c__law_value [.drw]) _ _
  refine run_tr ?_
  show Tr 1 (evSs kin_ O0 c__law_value [.val .drw]) _ noX
  unfold c__law_value
  refine tr_ret ?_
  refine Tr.le (c := 0 + 1) (tr_sub (Pa := fun x => x = .lst qs70) (Tr.of (v := .lst qs70) (by kernel_rfl) rfl) fun x hx => ?_) (by decide)
  subst hx
  refine (tr_next (n := 12) o0__law_next rfl ev_c (by decide) (by decide)).imp ?_
  rintro y ⟨j, hj, rfl⟩
  have hv : qs70[j]? = some (qs70[j]'hj) := List.getElem?_eq_getElem hj
  exact ⟨_, sub_lst hv, List.mem_of_getElem? hv⟩
theorem value_ok : LawV law_ := by
  intro ns hs
  have hl : ns.length ≤ 63 := by
    unfold scriptOk at hs
    exact of_decide_eq_true ((Bool.and_eq_true _ _).mp hs).1
  have hz := sizeLine_eq
  rw [orc_eq, o_law]
  show wpM (runF kin_ O3 9 c_law [.scr ns]) {} _ _
  refine law_begin (c := 8 * 1 + 0) (P := fun d => d = .bl true) o3__law_begun hs (by decide) ?_
  show Tr _ (evSs kin_ O3 _ [.val (.scr ns), .val .drw, .emp, .emp, .emp, .emp, .emp, .emp, .emp, .emp]) _ noX
  have len : evE kin_ O3 (.bi .len (.cons (.b 0) .nil)) [.val (.scr ns), .val .drw, .emp, .emp, .emp, .emp, .emp, .emp, .emp, .emp] = pure (.int (ns.length : Int)) := ev_bi1 (ev_b rfl) rfl
  have num : ∃ k : Nat, k ≤ 8 ∧ evE kin_ O3 (.bin .Add (.c (.int 2)) (.bi .min2 (.cons (.bi .len (.cons (.b 0) .nil)) (.cons (.c (.int 6)) .nil)))) [.val (.scr ns), .val .drw, .emp, .emp, .emp, .emp, .emp, .emp, .emp, .emp] = pure (.int (k : Int)) := by
    refine ⟨2 + min ns.length 6, by omega, ?_⟩
    refine (ev_bin ev_c (ev_bi (ev_es len (ev_es ev_c ev_es0)) rfl) (add_int _ _)).trans ?_
    congr 2
    split <;> omega
  obtain ⟨k, hk, ek⟩ := num
  refine tr_frl (m := 8) (fun i ρ => ∃ a2 a3 a4 a5 a6 a7 a8 a9 : Slot, ρ = [.val (.scr ns), .val .drw, a2, a3, a4, a5, a6, a7, a8, a9]) (evI_rng1 (j := (k : Int)) ek (by omega) (by omega)) (by rw [rngD_length]; omega) ?_ ⟨_, _, _, _, _, _, _, _, rfl⟩ ?_
  rotate_left
  · rintro ρ _
    exact tr_ret (Tr.of ev_c rfl)
  rintro i t ρ _ ⟨a2, a3, a4, a5, a6, a7, a8, a9, rfl⟩
  refine ⟨[.val (.scr ns), .val .drw, .val t, a3, a4, a5, a6, a7, a8, a9], rfl, ?_⟩
  refine Tr.le (c := (0 + 1) + 0) ?_ (by decide)
  refine tr_asg (Pa := fun d => d ∈ qs70) (tr_app (Ps := fun xs => xs = [.drw]) (Tr.of (ev_es (ev_v rfl) ev_es0) rfl) fun xs hx => by subst hx; rw [o3__law_value]; exact v_value) fun q hq => ⟨[.val (.scr ns), .val .drw, .val t, .val q, a4, a5, a6, a7, a8, a9], rfl, ?_⟩
  exact Tr.of (b70 hq ns t a4 a5 a6 a7 a8 a9) ⟨_, _, _, _, _, _, _, _, rfl⟩
end RM
end
set_option maxHeartbeats 0
set_option maxRecDepth 100000
/-! ### the head, the end -/
namespace RM
open PySem PySem.W PySem.Calls PyProof.Rows
abbrev row_ : OpenRow := OpenLaw.row PySem.Challenge.rw_roadmeets_k70_errors
def names0_ : List PySem.Str := ["RoadError", "BadRoads", "BadRoad", "BadLot", "BadMeets", "BadNet", "BadTold", "BadNumber", "BadPaper", "BadText", "NoNet", "TooMany", "_law_begun", "_law_next", "_law_value", "_law_kinds", "_law_field"]
def names_ : List PySem.Str := names0_
abbrev hk_ : PySem.W.Hook := hookM 6 (chkL law_ row_.prog.main.file) law_.ds law_.fns
def ob_ (s : PySem.W.SharedT) : Bool × AlM := obM 6 (chkL law_ row_.prog.main.file) law_.ds law_.fns s
theorem run_ (w : World) : HandSHeadRun.RunEq row_ (PySem.W.view row_.prog [19]) hk_ ob_ 4000 names_ w := by
  intro os
  kernel_rfl
end RM
open PySem PySem.W PySem.Calls PyProof.Rows
theorem PySem.Challenge.cw_roadmeets_k70_errors_holds : PySem.Challenge.rw_roadmeets_k70_errors.Holds := by
  w_on; o_law
  refine HandSHeadRun.head_any (r := OpenLaw.row PySem.Challenge.rw_roadmeets_k70_errors) (q := view (OpenLaw.row PySem.Challenge.rw_roadmeets_k70_errors).prog [19]) (H := RM.hk_) (ob := RM.ob_) (M := 4000) (loose := RM.names_) (d := HandSHeadRun.topDef (OpenLaw.row PySem.Challenge.rw_roadmeets_k70_errors).prog 19) (kwd := []) RM.obM_eq
    (by kernel_rfl) (fun s => by kernel_rfl) RM.run_ (by kernel_rfl) (by kernel_rfl) (by kernel_rfl) (by rfl) (by first | assumption | decide +kernel) (by decide +kernel) ⟨rfl, rfl, rfl, rfl, rfl, by decide +kernel⟩ ?hw ?hc
  case hw => w_witness2
  case hc => exact RM.law_end (l := PySem.Challenge.rw_roadmeets_k70_errors) RM.law_ok RM.value_ok rfl (by kernel_rfl) (by kernel_rfl) (by kernel_rfl) ⟨rfl, by decide, by decide⟩
