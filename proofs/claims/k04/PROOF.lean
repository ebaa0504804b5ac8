import PyProof.Rows.All
import Wide.All
import OpenK.AllK
import Wide.FinOn
import HandS.ForMost
import HandS.ForExc
import KE.SortData
import HandS.IsInst
import HandS.TupAny
import HandS.TupMul
import HandS.Deep
import HandS.Star
import HandS.Conv
import KE.DataCmp
import KE.DataFind
import PyProof.StrOps2
import KE.DataEq
import PyProof.ReprRoads
import HandS.CallSlots
import HandS.HeadWalk
import HandS.Zip
import PyProof.Draws
import HandS.Style
import KE.KExcPX
import HandS.TryMany
import HandS.ExcInit
import KE.KExcSuper
import KE.KSuper
import HandS.Wide
import HandS.Head0
import HandS.Head1
import HandS.Head2
import HandS.HeadEnd
import HandS.HeadHook1
import HandS.HeadHook2
import HandS.EndBits
import PySem.Challenge.RW_roadmeets_k04_whole_nets_made
section
set_option Elab.async false
set_option linter.all false
set_option maxRecDepth 100000
/-! data, trees of runs, the small language and its evaluator -/
namespace RM
open PySem PySem.Spec PyProof.Rows L2

/-- Python's data by value; mutable things by number -/
inductive D where
  | non | bl (b : Bool) | int (i : Int) | str (x : Str)
  | tup (xs : List D) | lst (xs : List D) | dct (kvs : List (D × D))
  | ins (c : Str) (fs : List (Str × D)) | exc (c : Str) (fs : List (Str × D))
  | scr (ns : List Int) | loc (n : Nat) | drw
  deriving Inhabited

/-- the state beside the data: have draws begun, how many there were, what changes -/
structure Sto where
  beg : Bool := false
  n : Nat := 0
  ob : List (Str × List (Str × D)) := []

/-- how a run ends: a value, an exception, a stop that nothing is known of; or a number below n is drawn -/
inductive T (α : Type) where
  | ret (a : α) (S : Sto)
  | raise (x : D) (S : Sto)
  | fail
  | draw (n : Nat) (k : Nat → T α)

def T.bind {α β : Type} : T α → (α → Sto → T β) → T β
  | .ret a S, f => f a S
  | .raise x S, _ => .raise x S
  | .fail, _ => .fail
  | .draw n k, f => .draw n fun i => (k i).bind f

def T.wp {α : Type} (Q : α → Sto → Prop) (R : D → Sto → Prop) : T α → Prop
  | .ret a S => Q a S
  | .raise x S => R x S
  | .fail => False
  | .draw n k => ∀ i, i < n → (k i).wp Q R

theorem T.wp_bind {α β : Type} {Q : β → Sto → Prop} {R : D → Sto → Prop} {f : α → Sto → T β} : ∀ {t : T α}, (t.bind f).wp Q R ↔ t.wp (fun a S => (f a S).wp Q R) R
  | .ret a S => Iff.rfl
  | .raise x S => Iff.rfl
  | .fail => Iff.rfl
  | .draw n k => by
    unfold T.bind T.wp
    exact forall_congr' fun i => forall_congr' fun _ => T.wp_bind

theorem T.wp_mono {α : Type} {Q Q' : α → Sto → Prop} {R R' : D → Sto → Prop} : ∀ {t : T α}, t.wp Q R → (∀ a S, Q a S → Q' a S) → (∀ x S, R x S → R' x S) → t.wp Q' R'
  | .ret a S, h, hq, _ => hq a S h
  | .raise x S, h, _, hr => hr x S h
  | .fail, h, _, _ => h
  | .draw n k, h, hq, hr => fun i hi => T.wp_mono (h i hi) hq hr

def M (α : Type) := Sto → T α
@[reducible] def M.pure {α : Type} (a : α) : M α := fun S => .ret a S
@[reducible] def M.bind {α β : Type} (m : M α) (f : α → M β) : M β := fun S => (m S).bind f
instance : Monad M := { pure := M.pure, bind := M.bind }
@[reducible] def M.fail {α : Type} : M α := fun _ => .fail
@[reducible] def M.raise {α : Type} (x : D) : M α := fun S => .raise x S
/-- a partial operation -/
def M.op {α : Type} : Option α → M α
  | some a => M.pure a
  | none => M.fail

theorem T.bind_assoc {α β γ : Type} {f : α → Sto → T β} {g : β → Sto → T γ} : ∀ {t : T α}, (t.bind f).bind g = t.bind fun a S => (f a S).bind g
  | .ret a S => rfl
  | .raise x S => rfl
  | .fail => rfl
  | .draw n k => by
    show T.draw n _ = T.draw n _
    congr 1
    funext i
    exact T.bind_assoc
theorem T.bind_ret {α : Type} : ∀ {t : T α}, t.bind (fun a S => .ret a S) = t
  | .ret a S => rfl
  | .raise x S => rfl
  | .fail => rfl
  | .draw n k => by
    show T.draw n _ = T.draw n _
    congr 1
    funext i
    exact T.bind_ret
instance : LawfulMonad M := LawfulMonad.mk'
  (id_map := fun x => by funext S; exact T.bind_ret)
  (pure_bind := fun _ _ => rfl)
  (bind_assoc := fun x f g => by funext S; exact T.bind_assoc)

def wpM {α : Type} (m : M α) (S : Sto) (Q : α → Sto → Prop) (R : D → Sto → Prop) : Prop := (m S).wp Q R
theorem wpM_bind {α β : Type} {m : M α} {f : α → M β} {S : Sto} {Q : β → Sto → Prop} {R : D → Sto → Prop} : wpM (m >>= f) S Q R ↔ wpM m S (fun a S' => wpM (f a) S' Q R) R := T.wp_bind
theorem wpM_pure {α : Type} {a : α} {S : Sto} {Q : α → Sto → Prop} {R : D → Sto → Prop} : wpM (pure a) S Q R ↔ Q a S := Iff.rfl
theorem wpM_op {α : Type} {o : Option α} {S : Sto} {Q : α → Sto → Prop} {R : D → Sto → Prop} : wpM (M.op o) S Q R ↔ ∃ a, o = some a ∧ Q a S := by
  cases o with
  | none => exact ⟨fun h => h.elim, fun ⟨_, h, _⟩ => nomatch h⟩
  | some a => exact ⟨fun h => ⟨a, rfl, h⟩, fun ⟨_, h, q⟩ => by cases h; exact q⟩
theorem wpM_mono {α : Type} {m : M α} {S : Sto} {Q Q' : α → Sto → Prop} {R R' : D → Sto → Prop} (h : wpM m S Q R) (hq : ∀ a S, Q a S → Q' a S) (hr : ∀ x S, R x S → R' x S) : wpM m S Q' R' := T.wp_mono h hq hr
end RM
end
section
set_option Elab.async false
set_option linter.all false
set_option maxRecDepth 100000
/-! how data lie in the abstract heap -/
namespace RM
open PySem PySem.Spec PyProof.Rows L2

/-- ghosts: what is frozen, what is shared and may change, where the draws' dict stands -/
structure Gh where
  Fz : Addr → Prop
  Mu : Addr → Prop
  dr : Option (Addr × Addr)

/-- the text's own classes -/
structure Tx where
  K : PySem.W.Frag
  cls : Str → Option Addr
  cur : Option (Addr × Value × Option Addr) := none
  slf : Option Addr := none

def Gh.fz (G : Gh) (a : Addr) : Gh := { G with Fz := fun b => G.Fz b ∨ b = a }

/-- the script: locked, or of the written part -/
def Scr (K : PySem.W.Frag) (H : Hp) (a : Addr) (ns : List Int) : Prop :=
  (∃ o, H a = some (.frz o (.lst (ns.map V.int)))) ∨
    ∃ (o : Obj) (its : Array Value) (n : Nat), K.lookup a = some o ∧ o.cls = .type "list" ∧ o.dict = none ∧ o.data = .seq its n ∧ its.size ≤ sizeLine ∧ Vals (ns.map V.int) its.toList
theorem Scr.seq {K : PySem.W.Frag} {H : Hp} {a : Addr} {ns : List Int} (h : Scr K H a ns) : SqL K H a (ns.map V.int) := h.elim (fun ⟨o, q⟩ => .inl (.inr ⟨o, q⟩)) .inr

mutual
inductive RD (Y : Tx) (G : Gh) (H : Hp) : V → D → Prop
  | non : RD Y G H .non .non
  | bl (b : Bool) : RD Y G H (.bl b) (.bl b)
  | int (i : Int) : RD Y G H (.int i) (.int i)
  | str (x : Str) : RD Y G H (.str x) (.str x)
  | tup {a : Addr} {vs : List V} {ds : List D} : SqT Y.K H a vs → RDs Y G H vs ds → RD Y G H (.ref a) (.tup ds)
  | scr {a : Addr} {ns : List Int} : Scr Y.K H a ns → RD Y G H (.ref a) (.scr ns)
  | lst {a : Addr} {vs : List V} {ds : List D} : H a = some (.lst vs) → G.Fz a → RDs Y G H vs ds → RD Y G H (.ref a) (.lst ds)
  | dct0 {a : Addr} : H a = some (.dK []) → G.Fz a → RD Y G H (.ref a) (.dct [])
  | ins {a C dx : Addr} {c : Str} {fv : List (Str × V)} {fs : List (Str × D)} : H a = some (.ins C dx fv) → G.Fz a → Y.cls c = some C → RDf Y G H fv fs → RD Y G H (.ref a) (.ins c fs)
  | drw {z : Addr × Addr} : G.dr = some z → RD Y G H (.ref z.1) .drw
inductive RDs (Y : Tx) (G : Gh) (H : Hp) : List V → List D → Prop
  | nil : RDs Y G H [] []
  | cons {v : V} {d : D} {vs : List V} {ds : List D} : RD Y G H v d → RDs Y G H vs ds → RDs Y G H (v :: vs) (d :: ds)
inductive RDf (Y : Tx) (G : Gh) (H : Hp) : List (Str × V) → List (Str × D) → Prop
  | nil : RDf Y G H [] []
  | cons {f : Str} {v : V} {d : D} {vs : List (Str × V)} {ds : List (Str × D)} : RD Y G H v d → RDf Y G H vs ds → RDf Y G H ((f, v) :: vs) ((f, d) :: ds)
end

/-- what never changes -/
def Solid : HO → Prop
  | .tup _ => True
  | .frz _ _ => True
  | _ => False
/-- what a relation of data leans on is kept -/
structure Kp (G : Gh) (H : Hp) (G' : Gh) (H' : Hp) : Prop where
  fz : ∀ a, G.Fz a → G'.Fz a
  dr : ∀ z, G.dr = some z → G'.dr = some z
  keep : ∀ a o, H a = some o → (Solid o ∨ G.Fz a) → H' a = some o

theorem Kp.refl {G : Gh} {H : Hp} : Kp G H G H := ⟨fun _ h => h, fun _ h => h, fun _ _ h _ => h⟩
theorem Kp.trans {G G1 G2 : Gh} {H H1 H2 : Hp} (a : Kp G H G1 H1) (b : Kp G1 H1 G2 H2) : Kp G H G2 H2 :=
  ⟨fun x h => b.fz x (a.fz x h), fun z h => b.dr z (a.dr z h), fun x o h s => b.keep x o (a.keep x o h s) (s.imp id (a.fz x))⟩

section
variable {Y : Tx} {G G' : Gh} {H H' : Hp}
theorem Kp.sqT (k : Kp G H G' H') {a : Addr} {vs : List V} (h : SqT Y.K H a vs) : SqT Y.K H' a vs := by
  rcases h with (h | ⟨o, h⟩) | h
  · exact .inl (.inl (k.keep a _ h (.inl trivial)))
  · exact .inl (.inr ⟨o, k.keep a _ h (.inl trivial)⟩)
  · exact .inr h
theorem Kp.scr (k : Kp G H G' H') {a : Addr} {ns : List Int} (h : Scr Y.K H a ns) : Scr Y.K H' a ns :=
  h.elim (fun ⟨o, q⟩ => .inl ⟨o, k.keep a _ q (.inl trivial)⟩) .inr
mutual
theorem RD.mono (k : Kp G H G' H') : ∀ {v : V} {d : D}, RD Y G H v d → RD Y G' H' v d
  | _, _, .non => .non
  | _, _, .bl b => .bl b
  | _, _, .int i => .int i
  | _, _, .str x => .str x
  | _, _, .tup h r => .tup (k.sqT h) (RDs.mono k r)
  | _, _, .scr h => .scr (k.scr h)
  | _, _, .lst h f r => .lst (k.keep _ _ h (.inr f)) (k.fz _ f) (RDs.mono k r)
  | _, _, .dct0 h f => .dct0 (k.keep _ _ h (.inr f)) (k.fz _ f)
  | _, _, .ins h f c r => .ins (k.keep _ _ h (.inr f)) (k.fz _ f) c (RDf.mono k r)
  | _, _, .drw h => .drw (k.dr _ h)
theorem RDs.mono (k : Kp G H G' H') : ∀ {vs : List V} {ds : List D}, RDs Y G H vs ds → RDs Y G' H' vs ds
  | _, _, .nil => .nil
  | _, _, .cons h r => .cons (RD.mono k h) (RDs.mono k r)
theorem RDf.mono (k : Kp G H G' H') : ∀ {vs : List (Str × V)} {ds : List (Str × D)}, RDf Y G H vs ds → RDf Y G' H' vs ds
  | _, _, .nil => .nil
  | _, _, .cons h r => .cons (RD.mono k h) (RDf.mono k r)
end

mutual
theorem RD.tx {Y' : Tx} (hK : Y'.K = Y.K) (hc : Y'.cls = Y.cls) : ∀ {v : V} {d : D}, RD Y G H v d → RD Y' G H v d
  | _, _, .non => .non
  | _, _, .bl b => .bl b
  | _, _, .int i => .int i
  | _, _, .str x => .str x
  | _, _, .tup h r => .tup (hK ▸ h) (RDs.tx hK hc r)
  | _, _, .scr h => .scr (hK ▸ h)
  | _, _, .lst h f r => .lst h f (RDs.tx hK hc r)
  | _, _, .dct0 h f => .dct0 h f
  | _, _, .ins h f c r => .ins h f (by rw [hc]; exact c) (RDf.tx hK hc r)
  | _, _, .drw h => .drw h
theorem RDs.tx {Y' : Tx} (hK : Y'.K = Y.K) (hc : Y'.cls = Y.cls) : ∀ {vs : List V} {ds : List D}, RDs Y G H vs ds → RDs Y' G H vs ds
  | _, _, .nil => .nil
  | _, _, .cons h r => .cons (RD.tx hK hc h) (RDs.tx hK hc r)
theorem RDf.tx {Y' : Tx} (hK : Y'.K = Y.K) (hc : Y'.cls = Y.cls) : ∀ {vs : List (Str × V)} {ds : List (Str × D)}, RDf Y G H vs ds → RDf Y' G H vs ds
  | _, _, .nil => .nil
  | _, _, .cons h r => .cons (RD.tx hK hc h) (RDf.tx hK hc r)
end

theorem RDs.length : ∀ {vs : List V} {ds : List D}, RDs Y G H vs ds → vs.length = ds.length
  | _, _, .nil => rfl
  | _, _, .cons _ r => congrArg (· + 1) (RDs.length r)
theorem RDs.get : ∀ {vs : List V} {ds : List D} {i : Nat} {v : V}, RDs Y G H vs ds → vs[i]? = some v → ∃ d, ds[i]? = some d ∧ RD Y G H v d
  | _, _, _, _, .nil, e => by simp at e
  | _, _, 0, _, .cons h r, e => by simp at e; subst e; exact ⟨_, rfl, h⟩
  | _, _, i + 1, _, .cons h r, e => by
    obtain ⟨d, e', r'⟩ := RDs.get (i := i) r (by simpa using e)
    exact ⟨d, by simpa using e', r'⟩
theorem RDs.get' : ∀ {vs : List V} {ds : List D} {i : Nat} {d : D}, RDs Y G H vs ds → ds[i]? = some d → ∃ v, vs[i]? = some v ∧ RD Y G H v d
  | _, _, _, _, .nil, e => by simp at e
  | _, _, 0, _, .cons h r, e => by simp at e; subst e; exact ⟨_, rfl, h⟩
  | _, _, i + 1, _, .cons h r, e => by
    obtain ⟨d, e', r'⟩ := RDs.get' (i := i) r (by simpa using e)
    exact ⟨d, by simpa using e', r'⟩
theorem RDs.append : ∀ {vs ws : List V} {ds es : List D}, RDs Y G H vs ds → RDs Y G H ws es → RDs Y G H (vs ++ ws) (ds ++ es)
  | _, _, _, _, .nil, s => s
  | _, _, _, _, .cons h r, s => .cons h (RDs.append r s)
theorem RDs.take : ∀ {vs : List V} {ds : List D} (n : Nat), RDs Y G H vs ds → RDs Y G H (vs.take n) (ds.take n)
  | _, _, 0, _ => .nil
  | _, _, _ + 1, .nil => .nil
  | _, _, n + 1, .cons h r => .cons h (RDs.take n r)
theorem RDs.drop : ∀ {vs : List V} {ds : List D} (n : Nat), RDs Y G H vs ds → RDs Y G H (vs.drop n) (ds.drop n)
  | _, _, 0, r => r
  | _, _, _ + 1, .nil => .nil
  | _, _, n + 1, .cons _ r => RDs.drop n r
theorem RDs.reverse : ∀ {vs : List V} {ds : List D}, RDs Y G H vs ds → RDs Y G H vs.reverse ds.reverse
  | _, _, .nil => .nil
  | _, _, .cons h r => by
    rw [List.reverse_cons, List.reverse_cons]
    exact RDs.append (RDs.reverse r) (.cons h .nil)
end

/-- the heap goes on: what stood stands, but for what is shared and may change; new things alone are frozen or shared -/
structure Ext (G : Gh) (H : Hp) (G' : Gh) (H' : Hp) : Prop where
  fz : ∀ a, G.Fz a → G'.Fz a
  mu : ∀ a, G.Mu a → G'.Mu a
  dr : ∀ z, G.dr = some z → G'.dr = some z
  keep : ∀ a o, H a = some o → ¬ G.Mu a → H' a = some o
  there : ∀ a, H a ≠ none → H' a ≠ none
  nfz : ∀ a, G'.Fz a → G.Fz a ∨ H a = none
  nmu : ∀ a, G'.Mu a → G.Mu a ∨ H a = none
  ndr : ∀ z, G'.dr = some z → G.dr = some z ∨ H z.2 = none

/-- the draws' state in the heap: z's dict, its list of great cells -/
def DrawOk (G : Gh) (H : Hp) (S : Sto) (z : Addr × Addr) : Prop :=
  ∃ (l : Addr) (ns ms : List Int) (n : Int), H z.1 = some (.dK [(.inr "cells", .ref z.2), (.inr "left", .ref l), (.inr "at", .int n)]) ∧ G.Mu z.1 ∧ G.Mu l ∧ l ≠ z.1 ∧
    H z.2 = some (.lst (ns.map V.int)) ∧ G.Fz z.2 ∧ H l = some (.lst (ms.map V.int)) ∧ ns.length ≤ 63 ∧ ms.length ≤ 63 ∧ (∀ i ∈ ns, i.natAbs < 2 ^ 1048576) ∧ (∀ i ∈ ms, 0 ≤ i ∧ i.natAbs < 2 ^ 1048576) ∧ 0 ≤ n ∧ n ≤ S.n

structure GOk (Y : Tx) (G : Gh) (H : Hp) (S : Sto) : Prop where
  fzmu : ∀ a, G.Fz a → ¬ G.Mu a
  fzT : ∀ a, G.Fz a → H a ≠ none
  muT : ∀ a, G.Mu a → H a ≠ none
  solid : ∀ a o, H a = some o → Solid o → ¬ G.Mu a
  dr : ∀ z, G.dr = some z → DrawOk G H S z
  dr0 : S.beg = false → G.dr = none

section
variable {Y : Tx} {G G1 G2 : Gh} {H H1 H2 : Hp} {S : Sto}
theorem Ext.refl : Ext G H G H := ⟨fun _ h => h, fun _ h => h, fun _ h => h, fun _ _ h _ => h, fun _ h => h, fun _ h => .inl h, fun _ h => .inl h, fun _ h => .inl h⟩
theorem some_of_ne {α : Type} {o : Option α} (h : o ≠ none) : ∃ a, o = some a := by
  cases o with
  | none => exact absurd rfl h
  | some a => exact ⟨a, rfl⟩
theorem Ext.trans (a : Ext G H G1 H1) (b : Ext G1 H1 G2 H2) : Ext G H G2 H2 where
  fz := fun x h => b.fz x (a.fz x h)
  mu := fun x h => b.mu x (a.mu x h)
  dr := fun z h => b.dr z (a.dr z h)
  keep := fun x o h n => b.keep x o (a.keep x o h n) fun m => (a.nmu x m).elim n fun e => by rw [h] at e; cases e
  there := fun x h => b.there x (a.there x h)
  nfz := fun x h => (b.nfz x h).elim (a.nfz x) fun e => by
    by_cases q : H x = none
    · exact .inr q
    · exact absurd e (a.there x q)
  nmu := fun x h => (b.nmu x h).elim (a.nmu x) fun e => by
    by_cases q : H x = none
    · exact .inr q
    · exact absurd e (a.there x q)
  ndr := fun z h => (b.ndr z h).elim (a.ndr z) fun e => by
    by_cases q : H z.2 = none
    · exact .inr q
    · exact absurd e (a.there z.2 q)
theorem Ext.kp (x : Ext G H G1 H1) (ok : GOk Y G H S) : Kp G H G1 H1 := ⟨x.fz, x.dr, fun a o h s => x.keep a o h (s.elim (ok.solid a o h) (ok.fzmu a))⟩

/-- a new object, neither frozen nor shared -/
theorem Ext.new {p : Addr} {o : HO} (ok : GOk Y G H S) (np : H p = none) : Ext G H G (upd H p o) where
  fz := fun _ h => h
  mu := fun _ h => h
  dr := fun _ h => h
  keep := fun a u h _ => by rw [upd_ne (ne_of_none h np)]; exact h
  there := fun a h => by
    obtain ⟨u, e⟩ := some_of_ne h
    rw [upd_ne (ne_of_none e np)]; exact h
  nfz := fun _ h => .inl h
  nmu := fun _ h => .inl h
  ndr := fun _ h => .inl h
theorem Ext.freeze {p : Addr} {H0 : Hp} {G0 : Gh} (x : Ext G0 H0 G H) (np : H0 p = none) : Ext G0 H0 (G.fz p) H where
  fz := fun a h => .inl (x.fz a h)
  mu := x.mu
  dr := x.dr
  keep := x.keep
  there := x.there
  nfz := fun a h => by
    rcases h with h | h
    · exact x.nfz a h
    · rw [h]; exact .inr np
  nmu := x.nmu
  ndr := x.ndr
theorem DrawOk.keep {z : Addr × Addr} (h : DrawOk G H S z) (k : ∀ a o, H a = some o → (G.Mu a ∨ G.Fz a) → H1 a = some o) (m : ∀ a, G.Mu a → G1.Mu a) (f : ∀ a, G.Fz a → G1.Fz a) : DrawOk G1 H1 S z := by
  obtain ⟨l, ns, ms, n, h1, h2, h3, h4, h5, h6, h7, r⟩ := h
  exact ⟨l, ns, ms, n, k _ _ h1 (.inl h2), m _ h2, m _ h3, h4, k _ _ h5 (.inr h6), f _ h6, k _ _ h7 (.inl h3), r⟩
theorem new_keep {p : Addr} {o : HO} (np : H p = none) : ∀ a u, H a = some u → upd H p o a = some u := fun a u h => by rw [upd_ne (ne_of_none h np)]; exact h
theorem GOk.new {p : Addr} {o : HO} (ok : GOk Y G H S) (np : H p = none) : GOk Y G (upd H p o) S where
  fzmu := ok.fzmu
  fzT := fun a h => by
    obtain ⟨u, e⟩ := some_of_ne (ok.fzT a h)
    rw [new_keep np a u e]; exact fun z => nomatch z
  muT := fun a h => by
    obtain ⟨u, e⟩ := some_of_ne (ok.muT a h)
    rw [new_keep np a u e]; exact fun z => nomatch z
  solid := fun a u h s m => by
    by_cases q : a = p
    · subst q; exact ok.muT a m np
    · rw [upd_ne q] at h; exact ok.solid a u h s m
  dr := fun z h => (ok.dr z h).keep (fun a u e _ => new_keep np a u e) (fun _ h => h) fun _ h => h
  dr0 := ok.dr0
theorem GOk.freeze {p : Addr} (ok : GOk Y G H S) (t : H p ≠ none) (n : ¬ G.Mu p) : GOk Y (G.fz p) H S where
  fzmu := fun a h => h.elim (ok.fzmu a) fun e => by rw [e]; exact n
  fzT := fun a h => h.elim (ok.fzT a) fun e => by rw [e]; exact t
  muT := ok.muT
  solid := ok.solid
  dr := fun z h => (ok.dr z h).keep (fun _ _ e _ => e) (fun _ h => h) fun _ h => .inl h
  dr0 := ok.dr0
/-- a list of one's own is written -/
theorem GOk.write {p : Addr} {o u : HO} (ok : GOk Y G H S) (t : H p = some u) (f : ¬ G.Fz p) (n : ¬ G.Mu p) : GOk Y G (upd H p o) S where
  fzmu := ok.fzmu
  fzT := fun a h => by rw [upd_ne (fun e : a = p => f (e ▸ h))]; exact ok.fzT a h
  muT := fun a h => by rw [upd_ne (fun e : a = p => n (e ▸ h))]; exact ok.muT a h
  solid := fun a x h s m => by
    by_cases q : a = p
    · exact n (q ▸ m)
    · rw [upd_ne q] at h; exact ok.solid a x h s m
  dr := fun z h => (ok.dr z h).keep (fun a x e q => by rw [upd_ne (fun e : a = p => q.elim (fun m => n (e ▸ m)) fun m => f (e ▸ m))]; exact e) (fun _ h => h) fun _ h => h
  dr0 := ok.dr0
theorem Kp.write {p : Addr} {o : HO} {xs : List V} (t : H p = some (.lst xs)) (f : ¬ G.Fz p) : Kp G H G (upd H p o) := ⟨fun _ h => h, fun _ h => h, fun a u h s => by
  rw [upd_ne (fun e => ?_)]
  · exact h
  · subst e
    rcases s with s | s
    · rw [t] at h; cases h; exact s
    · exact f s⟩
theorem Kp.writeN {p : Addr} {o u : HO} (t : H p = some u) (ns : ¬ Solid u) (f : ¬ G.Fz p) : Kp G H G (upd H p o) := ⟨fun _ h => h, fun _ h => h, fun a x h s => by
  rw [upd_ne (fun e => ?_)]
  · exact h
  · subst e
    rcases s with s | s
    · rw [t] at h; cases h; exact ns s
    · exact f s⟩
theorem Kp.freeze {p : Addr} : Kp G H (G.fz p) H := ⟨fun _ h => .inl h, fun _ h => h, fun _ _ h _ => h⟩
end
end RM
end
section
set_option Elab.async false
set_option linter.all false
set_option maxRecDepth 100000
set_option autoImplicit false
/-! the items of x[lo:hi:-1] -/
namespace RM
open PySem PySem.Spec PyProof.Rows L2
/-- the items of t[lo:hi:-1] -/
def backV {α : Type} (xs : List α) (lo hi : Option Int) : List α :=
  (List.range (Builtin.Slice.slicePlaces (Builtin.Slice.sliceAdjust lo hi (-1) xs.length).1 (Builtin.Slice.sliceAdjust lo hi (-1) xs.length).2 (-1))).filterMap
    fun (k : Nat) => xs[((Builtin.Slice.sliceAdjust lo hi (-1) (xs.length : Int)).1 + (k : Int) * (-1)).toNat]?
theorem backV_none {α : Type} (xs : List α) : backV xs none none = xs.reverse := by
  unfold backV
  have e1 : Builtin.Slice.sliceAdjust none none (-1) (xs.length : Int) = ((xs.length : Int) - 1, -1) := rfl
  have e2 : Builtin.Slice.slicePlaces ((xs.length : Int) - 1) (-1) (-1) = xs.length := by
    unfold Builtin.Slice.slicePlaces
    rw [if_neg (by decide)]
    split
    · rw [show (-(-1) : Int) = 1 by decide, Int.ediv_one]; omega
    · omega
  rw [e1]
  dsimp only
  rw [e2]
  apply List.ext_getElem?
  intro i
  have key : ∀ (n : Nat), n ≤ xs.length → (List.range n).filterMap (fun (k : Nat) => xs[((xs.length : Int) - 1 + (k : Int) * (-1)).toNat]?) = xs.reverse.take n := by
    intro n
    induction n with
    | zero => intro _; rfl
    | succ n ih =>
      intro hn
      rw [List.range_succ, List.filterMap_append, ih (by omega)]
      have e : ((xs.length : Int) - 1 + (n : Int) * (-1)).toNat = xs.length - 1 - n := by omega
      simp only [List.filterMap_cons, List.filterMap_nil, e]
      rw [List.take_succ, List.getElem?_reverse (by omega)]
      have : xs[xs.length - 1 - n]? = some (xs[xs.length - 1 - n]'(by omega)) := List.getElem?_eq_getElem _
      rw [this]
      rfl
  rw [key _ (Nat.le_refl _), List.take_of_length_le (by simp)]
theorem places_le (a b : Int) : ∀ (n : Nat), -1 ≤ b → a ≤ (n : Int) - 1 → Builtin.Slice.slicePlaces a b (-1) ≤ n := by
  intro n hb ha
  unfold Builtin.Slice.slicePlaces
  rw [if_neg (by decide)]
  split
  · rw [show (-(-1) : Int) = 1 by decide, Int.ediv_one]; omega
  · omega
theorem adjust_le (lo hi : Option Int) (n : Nat) : (Builtin.Slice.sliceAdjust lo hi (-1) (n : Int)).1 ≤ (n : Int) - 1 ∧ -1 ≤ (Builtin.Slice.sliceAdjust lo hi (-1) (n : Int)).2 := by
  unfold Builtin.Slice.sliceAdjust
  have h : ((-1 : Int) < 0) := by decide
  simp only [h, if_true]
  constructor
  · cases lo with
    | none => exact Int.le_refl _
    | some v =>
      dsimp only
      split <;> omega
  · cases hi with
    | none => exact Int.le_refl _
    | some v =>
      dsimp only
      split <;> omega
theorem backV_length {α : Type} (xs : List α) (lo hi : Option Int) : (backV xs lo hi).length ≤ xs.length := by
  unfold backV
  refine Nat.le_trans (List.length_filterMap_le _ _) ?_
  rw [List.length_range]
  exact places_le _ _ _ (adjust_le lo hi xs.length).2 (adjust_le lo hi xs.length).1

end RM
end
section
set_option Elab.async false
set_option linter.all false
set_option maxRecDepth 100000
/-! the small language and its evaluator -/
namespace RM
open PySem PySem.Spec PyProof.Rows L2

/-! ### data that are compared, sorted, shown as a whole -/
mutual
def D.pd : D → PyData
  | .bl b => .bool b
  | .int i => .int i
  | .str x => .str x
  | .tup xs => .tuple (D.pds xs)
  | .lst xs => .list (D.pds xs)
  | .dct _ => .dict []
  | _ => .none
def D.pds : List D → List PyData
  | [] => []
  | x :: xs => x.pd :: D.pds xs
end
mutual
def D.pure : D → Bool
  | .non => true
  | .bl _ => true
  | .int _ => true
  | .str _ => true
  | .tup xs => D.pures xs
  | .lst xs => D.pures xs
  | _ => false
def D.pures : List D → Bool
  | [] => true
  | x :: xs => x.pure && D.pures xs
end
mutual
/-- what may be shown: {} too -/
def D.shw : D → Bool
  | .non => true
  | .bl _ => true
  | .int _ => true
  | .str _ => true
  | .tup xs => D.shws xs
  | .lst xs => D.shws xs
  | .dct kvs => kvs.isEmpty
  | _ => false
def D.shws : List D → Bool
  | [] => true
  | x :: xs => x.shw && D.shws xs
end
def D.isNon : D → Bool
  | .non => true
  | _ => false
/-- == is told of both -/
def D.okE (x y : D) : Bool := x.pure && y.pure && decide (min x.pd.depth y.pd.depth ≤ 64)
/-- < is told of both -/
def D.okL (x y : D) : Bool := x.pure && y.pure && PySem.W.alike x.pd y.pd && !x.isNon && decide (min x.pd.depth y.pd.depth ≤ 64)

/-- t == (), xs == [], whatever they hold -/
def emptyEq : D → D → Option Bool
  | .tup xs, .tup [] => some xs.isEmpty
  | .lst xs, .lst [] => some xs.isEmpty
  | _, _ => none
def cmpD (op : CmpOp) (x y : D) : Option D :=
  match op with
  | .Eq => if D.okE x y then some (.bl (PyData.eqv x.pd y.pd)) else (emptyEq x y).map .bl
  | .NotEq => if D.okE x y then some (.bl (!PyData.eqv x.pd y.pd)) else (emptyEq x y).map fun b => .bl (!b)
  | .Lt => if D.okL x y then some (.bl (PySem.W.dataLt x.pd y.pd)) else none
  | .Gt => if D.okL x y then some (.bl (PySem.W.dataLt y.pd x.pd)) else none
  | .LtE => if D.okL x y then some (.bl (!PySem.W.dataLt y.pd x.pd)) else none
  | .GtE => if D.okL x y then some (.bl (!PySem.W.dataLt x.pd y.pd)) else none
  | .In => match y with
    | .tup ys => if x.pure && D.pures ys && decide (x.pd.depth ≤ 64) then some (.bl (ys.any fun z => PyData.eqv z.pd x.pd)) else none
    | .lst ys => if x.pure && D.pures ys && decide (x.pd.depth ≤ 64) then some (.bl (ys.any fun z => PyData.eqv z.pd x.pd)) else none
    | .str z => match x with
      | .str c => match c.cps.toList with
        | [k] => some (.bl (decide (k ∈ z.cps.toList)))
        | _ => none
      | _ => none
    | _ => none
  | .NotIn => match y with
    | .tup ys => if x.pure && D.pures ys && decide (x.pd.depth ≤ 64) then some (.bl (!ys.any fun z => PyData.eqv z.pd x.pd)) else none
    | .lst ys => if x.pure && D.pures ys && decide (x.pd.depth ≤ 64) then some (.bl (!ys.any fun z => PyData.eqv z.pd x.pd)) else none
    | .str z => match x with
      | .str c => match c.cps.toList with
        | [k] => some (.bl (!decide (k ∈ z.cps.toList)))
        | _ => none
      | _ => none
    | _ => none
  | .Is => if y.isNon then some (.bl x.isNon) else none
  | .IsNot => if y.isNon then some (.bl (!x.isNon)) else none

def mulStr (x : Str) (k : Nat) : Str := ⟨(List.replicate k x.cps.toList).flatten.toArray⟩
def binD (op : Operator) (x y : D) : Option D :=
  match op, x, y with
  | .Add, .int i, .int j => some (.int (i + j))
  | .Sub, .int i, .int j => some (.int (i - j))
  | .Add, .str a, .str b => if a.length + b.length ≤ sizeLine then some (.str (a ++ b)) else none
  | .Add, .tup a, .tup b => if a.length + b.length ≤ sizeLine then some (.tup (a ++ b)) else none
  | .Add, .lst a, .lst b => if a.length + b.length ≤ sizeLine then some (.lst (a ++ b)) else none
  | .Mult, .int i, .int j => if (-(2 ^ 64) < i ∧ i < 2 ^ 64) ∨ (-(2 ^ 64) < j ∧ j < 2 ^ 64) then some (.int (i * j)) else none
  | .FloorDiv, .int i, .int j => if 0 < j ∧ j < 1073741824 then some (.int (i / j)) else none
  | .Mod, .int i, .int j => if 0 < j then some (.int (i % j)) else none
  | .Mult, .str a, .int k => if 0 ≤ k ∧ k ≤ 1000 ∧ a.length ≤ 1000 then some (.str (mulStr a k.toNat)) else none
  | .Mult, .lst a, .int k => if 0 ≤ k ∧ k ≤ 1000 ∧ a.length ≤ 1000 then some (.lst (List.replicate k.toNat a).flatten) else none
  | .Mult, .tup a, .int k => if 2 ≤ k ∧ k ≤ 1000 ∧ a.length ≤ 1000 then some (.tup (List.replicate k.toNat a).flatten) else none
  | .Pow, .int i, .int j => if 0 ≤ j ∧ j ≤ 1000000 ∧ i.natAbs < 2 ^ 64 then some (.int (i ^ j.toNat)) else none
  | _, _, _ => none

def subD (x i : D) : Option D :=
  match x, i with
  | .tup xs, .int i => atI xs i
  | .lst xs, .int i => atI xs i
  | .str z, .int i => if z.length ≤ sizeLine then (atI z.cps.toList i).map fun c => .str ⟨#[c]⟩ else none
  | _, _ => none
/-- a slice's bound -/
def bndD : D → Option (Option Int)
  | .non => some none
  | .int i => some (some i)
  | _ => none
def cutD (xs : List D) (lo hi : Option Int) : List D := (xs.drop (HT.sIx xs.length 0 lo)).take (HT.sIx xs.length xs.length hi - HT.sIx xs.length 0 lo)
def slO (x : D) (lo hi : Option Int) : Option D :=
  match x with
  | .tup xs => some (.tup (cutD xs lo hi))
  | .lst xs => some (.lst (cutD xs lo hi))
  | .str z => if z.length ≤ sizeLine then some (.str (cutS z lo hi)) else none
  | _ => none
/-- x[lo:hi:-1] -/
def bkO (x : D) (lo hi : Option Int) : Option D :=
  match x with
  | .tup xs => some (.tup (backV xs lo hi))
  | .lst xs => if lo.isNone && hi.isNone then some (.lst xs.reverse) else none
  | _ => none
def bkD (x lo hi : D) : Option D := (bndD lo).bind fun l => (bndD hi).bind fun h => bkO x l h
def slD (x lo hi : D) : Option D := (bndD lo).bind fun l => (bndD hi).bind fun h => slO x l h

inductive Ty where
  | b (n : String) | c (n : Str)
/-- what is told of the own classes: the own ones over each, itself first; fields of instances; fields of exceptions; which are instances', which exceptions'; the field that an exception's __init__ stores -/
structure Kin where
  par : Str → List Str := fun _ => []
  fld : Str → List Str := fun _ => []
  xfl : Str → List Str := fun _ => []
  isI : Str → Bool := fun _ => false
  isX : Str → Bool := fun _ => false
  ini : Str → Option Str := fun _ => none
def isiD (kin : Kin) (d : D) : Ty → Bool
  | .b n => match d with
    | .bl _ => n == "bool" || n == "int"
    | .int _ => n == "int"
    | .str _ => n == "str"
    | .tup _ => n == "tuple"
    | .lst _ => n == "list"
    | .scr _ => n == "list"
    | .dct _ => n == "dict"
    | .drw => n == "dict"
    | _ => false
  | .c n => match d with
    | .ins c _ => (kin.par c).contains n
    | .exc c _ => (kin.par c).contains n
    | _ => false

def D.basic (kin : Kin) : D → Bool
  | .ins c _ => kin.isI c
  | .exc _ _ => false
  | .loc _ => false
  | _ => true
inductive Bi where
  | len | all | any | tuple | list | sorted | min2 | max2 | sum | repr | int1
  | isi (ts : List Ty)

def bools : List D → Option (List Bool)
  | [] => some []
  | .bl b :: r => (bools r).map (b :: ·)
  | _ => none
def intsD : List D → Option (List Int)
  | [] => some []
  | .int b :: r => (intsD r).map (b :: ·)
  | _ => none
def itemsD : D → Option (List D)
  | .tup xs => some xs
  | .lst xs => some xs
  | .scr ns => some (ns.map .int)
  | _ => none
def leD (a b : D) : Bool := !PySem.W.dataLt b.pd a.pd
/-- what may be sorted -/
def sortable (xs : List D) : Bool :=
  D.pures xs && xs.all (fun x => xs.all fun y => PySem.W.alike x.pd y.pd) && xs.all (fun x => !x.isNon && decide (x.pd.depth ≤ 64))
def lenD : D → Option D
  | .tup xs => some (.int xs.length)
  | .lst xs => some (.int xs.length)
  | .scr xs => some (.int xs.length)
  | .str z => if z.length ≤ sizeLine then some (.int z.length) else none
  | _ => none
def reprOk (d : D) : Bool := d.shw && d.pd.showable && decide (d.pd.depth ≤ 64) && decide (d.pd.shown.length + 64 ≤ sizeLine)
def biD (kin : Kin) (b : Bi) (xs : List D) : Option D :=
  match b, xs with
  | .len, [x] => lenD x
  | .all, [.lst xs] => (bools xs).map fun bs => .bl (bs.all id)
  | .any, [.lst xs] => (bools xs).map fun bs => .bl (bs.any id)
  | .tuple, [x] => (itemsD x).map .tup
  | .list, [x] => (itemsD x).map .lst
  | .sorted, [x] => (itemsD x).bind fun xs => if sortable xs then some (.lst (xs.mergeSort leD)) else none
  | .min2, [.int i, .int j] => some (.int (if j < i then j else i))
  | .max2, [.int i, .int j] => some (.int (if j > i then j else i))
  | .sum, [.lst xs] => (intsD xs).map fun is => .int is.sum
  | .repr, [x] => if reprOk x then some (.str x.pd.shown) else none
  | .int1, [.int i] => some (.int i)
  | .isi ts, [x] => if x.basic kin then some (.bl (ts.any (isiD kin x))) else none
  | _, _ => none

def truD : D → Option Bool
  | .bl b => some b
  | .non => some false
  | .int i => some (i != 0)
  | .str z => if z.length ≤ sizeLine then some (z.length != 0) else none
  | .tup xs => some (!xs.isEmpty)
  | .lst xs => some (!xs.isEmpty)
  | _ => none
def fldD (kin : Kin) (f : Str) : D → Option D
  | .ins c fs => if (kin.fld c).contains f then fs.lookup f else none
  | _ => none
def xflD (kin : Kin) (f : Str) : D → Option D
  | .exc c fs => if (kin.xfl c).contains f then fs.lookup f else none
  | _ => none

/-- l.index(x) -/
def idxD (x y : D) : Option Nat := match x with
  | .lst ys => if y.pure && D.pures ys && decide (y.pd.depth ≤ 64) then (D.pds ys).findIdx? fun z => PyData.eqv z y.pd else none
  | _ => none

/-! ### the language -/
mutual
inductive E where
  | c (d : D) | v (i : Nat) | b (i : Nat)
  | tup (es : Es) | lst (es : Es)
  | bin (op : Operator) (a b : E) | cmp (op : CmpOp) (a b : E) | chain (o p : CmpOp) (a b c : E)
  | neg (a : E) | not (a : E) | and (a b : E) | or (a b : E) | ife (t : Q) (a b : E)
  | app (f : Str) (es : Es) | bi (b : Bi) (es : Es)
  | fld (o : E) (f : Str) | xfl (i : Nat) (f : Str) | sub (o i : E) | sl (o lo hi : E) | bnd (a : E) | bk (o lo hi : E) | dct0
  | mth (o : E) (m : Str) (cs : List (Str × Str)) (es : Es) | idx (o e : E)
  | lc (own : List Nat) (p : List Nat) (it : I) (t : Q) (e : E)
  | lc2 (own : List Nat) (p : List Nat) (it : I) (t : Q) (p2 : List Nat) (it2 : I) (t2 : Q) (e : E)
inductive Es where
  | nil | cons (e : E) (r : Es) | star (e : E) (r : Es)
inductive I where
  | seq (e : E) | rng1 (a : E) | rng2 (a b : E) | enum (e : E) | zip (a b : E)
inductive Q where
  | yes | val (e : E) | not (t : Q) | and (t u : Q) | or (t u : Q)
end

inductive Slot where
  | emp | val (d : D) | own (xs : List D) | exn (x : D) | new (c : Str) (fs : List (Str × D))
  deriving Inhabited
abbrev Fe := List Slot
abbrev Orc := Str → List D → M D

def setS (ρ : Fe) (i : Nat) (d : D) : Fe := ρ.set i (.val d)
/-- one name, or several for a tuple's (a list's) items -/
def asgP (p : List Nat) (d : D) (ρ : Fe) : Option Fe :=
  match p with
  | [i] => some (setS ρ i d)
  | ps => match d with
    | .tup xs => if xs.length = ps.length then some ((ps.zip xs).foldl (fun ρ q => setS ρ q.1 q.2) ρ) else none
    | _ => none
def wipeE (ρ : Fe) : List Nat → Fe
  | [] => ρ
  | v :: vs => (wipeE ρ vs).set v .emp
/-- nothing may be raised -/
def T.quiet {α : Type} : T α → T α
  | .ret a S => .ret a S
  | .raise _ _ => .fail
  | .fail => .fail
  | .draw n k => .draw n fun i => (k i).quiet
def M.quiet {α : Type} (m : M α) : M α := fun S => (m S).quiet

def mapO (f : D → M (Option D)) : List D → M (List D)
  | [] => pure []
  | x :: xs => do
    let r ← f x
    let rs ← mapO f xs
    pure (match r with
      | some d => d :: rs
      | none => rs)
def mapL (f : D → M (List D)) : List D → M (List D)
  | [] => pure []
  | x :: xs => do
    let r ← f x
    let rs ← mapL f xs
    pure (r ++ rs)
def mkTup (xs : List D) : M D := if xs.length ≤ sizeLine then pure (.tup xs) else M.fail
def mkLst (xs : List D) : M D := if xs.length ≤ sizeLine then pure (.lst xs) else M.fail
def few (n : Nat) : M Unit := if n ≤ 4000 then pure () else M.fail
/-- a length that a list may have -/
def small (n : Nat) : M Unit := if n ≤ sizeLine then pure () else M.fail
def signsD (z : Str) : List D := z.cps.toList.map fun c => .str ⟨#[c]⟩
def iterD : D → Option (List D)
  | .tup xs => some xs
  | .lst xs => some xs
  | .scr ns => some (ns.map .int)
  | .str z => if z.length ≤ sizeLine then some (signsD z) else none
  | _ => none
def rngD (lo : Int) (n : Nat) : List D := (List.range n).map fun (k : Nat) => .int (lo + (k : Int))
def enumD (xs : List D) : List D := xs.zipIdx.map fun p => .tup [.int (p.2 : Nat), p.1]
def zipD (xs ys : List D) : List D := (xs.zip ys).map fun p => .tup [p.1, p.2]

section
variable (kin : Kin) (C : Orc)
mutual
def evE : E → Fe → M D
  | .c d, _ => pure d
  | .v i, ρ => match ρ[i]? with
    | some (.val d) => pure d
    | _ => M.fail
  | .b i, ρ => match ρ[i]? with
    | some (.val d) => pure d
    | some (.own xs) => pure (.lst xs)
    | _ => M.fail
  | .tup es, ρ => do mkTup (← evEs es ρ)
  | .lst es, ρ => do mkLst (← evEs es ρ)
  | .bin op a b, ρ => do
    let x ← evE a ρ
    let y ← evE b ρ
    M.op (binD op x y)
  | .cmp op a b, ρ => do
    let x ← evE a ρ
    let y ← evE b ρ
    M.op (cmpD op x y)
  | .chain o p a b c, ρ => do
    let x ← evE a ρ
    let y ← evE b ρ
    match ← M.op (cmpD o x y) with
    | .bl true => do
      let z ← evE c ρ
      M.op (cmpD p y z)
    | .bl false => pure (.bl false)
    | _ => M.fail
  | .neg a, ρ => do
    match ← evE a ρ with
    | .int i => pure (.int (-i))
    | _ => M.fail
  | .not a, ρ => do
    match ← evE a ρ with
    | .bl b => pure (.bl (!b))
    | _ => M.fail
  | .and a b, ρ => do
    match ← evE a ρ with
    | .bl true => evE b ρ
    | .bl false => pure (.bl false)
    | _ => M.fail
  | .or a b, ρ => do
    match ← evE a ρ with
    | .bl true => pure (.bl true)
    | .bl false => evE b ρ
    | _ => M.fail
  | .ife t a b, ρ => do
    if ← evT t ρ then evE a ρ else evE b ρ
  | .app f es, ρ => do C f (← evEs es ρ)
  | .bi b es, ρ => do M.op (biD kin b (← evEs es ρ))
  | .fld o f, ρ => do M.op (fldD kin f (← evE o ρ))
  | .xfl i f, ρ => match ρ[i]? with
    | some (.exn x) => M.op (xflD kin f x)
    | _ => M.fail
  | .sub o i, ρ => do
    let x ← evE o ρ
    let y ← evE i ρ
    M.op (subD x y)
  | .sl o lo hi, ρ => do
    let x ← evE o ρ
    let l ← evE lo ρ
    let h ← evE hi ρ
    M.op (slD x l h)
  | .bk o lo hi, ρ => do
    let x ← evE o ρ
    let l ← evE lo ρ
    let h ← evE hi ρ
    M.op (bkD x l h)
  | .dct0, _ => pure (.dct [])
  | .idx a b, ρ => do
    match ← evE a ρ with
    | .lst ys => do
      let y ← evE b ρ
      M.op ((idxD (.lst ys) y).map fun (j : Nat) => .int (j : Int))
    | _ => M.fail
  | .mth o m cs es, ρ => do
    match ← evE o ρ with
    | .ins c fs => if (fs.lookup m).isNone then (match cs.lookup c with
      | some q => do
        let xs ← evEs es ρ
        C q (.ins c fs :: xs)
      | none => M.fail) else M.fail
    | _ => M.fail
  | .bnd a, ρ => do
    match ← evE a ρ with
    | .int i => pure (.int i)
    | _ => M.fail
  | .lc own p it t e, ρ => do
    let xs ← evI it ρ
    small xs.length
    let rs ← M.quiet (mapO (fun x => do
      let ρ1 ← M.op (asgP p x (wipeE ρ own))
      let b ← evT t ρ1
      if b then do
        let y ← evE e ρ1
        pure (some y)
      else pure none) xs)
    pure (.lst rs)
  | .lc2 own p it t p2 it2 t2 e, ρ => do
    let xs ← evI it ρ
    few xs.length
    let rs ← M.quiet (mapL (fun x => do
      let ρ1 ← M.op (asgP p x (wipeE ρ own))
      let b ← evT t ρ1
      if b then do
        let ys ← evI it2 ρ1
        few ys.length
        mapO (fun y => do
          let ρ2 ← M.op (asgP p2 y (wipeE ρ1 p2))
          let b ← evT t2 ρ2
          if b then do
            let z ← evE e ρ2
            pure (some z)
          else pure none) ys
      else pure []) xs)
    pure (.lst rs)
def evEs : Es → Fe → M (List D)
  | .nil, _ => pure []
  | .cons e r, ρ => do
    let x ← evE e ρ
    let xs ← evEs r ρ
    pure (x :: xs)
  | .star e r, ρ => do
    let x ← evE e ρ
    let ys ← M.op (itemsD x)
    let xs ← evEs r ρ
    pure (ys ++ xs)
def evI : I → Fe → M (List D)
  | .seq e, ρ => do M.op (iterD (← evE e ρ))
  | .rng1 a, ρ => do
    match ← evE a ρ with
    | .int j => if -(2 ^ 62) ≤ j ∧ j ≤ sizeLine then pure (rngD 0 j.toNat) else M.fail
    | _ => M.fail
  | .rng2 a b, ρ => do
    let x ← evE a ρ
    let y ← evE b ρ
    match x, y with
    | .int i, .int j => if -(2 ^ 62) ≤ i ∧ i < 2 ^ 62 ∧ -(2 ^ 62) ≤ j ∧ j < 2 ^ 62 ∧ j - i ≤ sizeLine then pure (rngD i (j - i).toNat) else M.fail
    | _, _ => M.fail
  | .enum e, ρ => do
    match ← evE e ρ with
    | .lst xs => pure (enumD xs)
    | .tup xs => pure (enumD xs)
    | _ => M.fail
  | .zip a b, ρ => do
    let x ← evE a ρ
    let y ← evE b ρ
    match x, y with
    | .lst xs, .lst ys => pure (zipD xs ys)
    | .tup xs, .tup ys => pure (zipD xs ys)
    | _, _ => M.fail
def evT : Q → Fe → M Bool
  | .yes, _ => pure true
  | .val e, ρ => do M.op (truD (← evE e ρ))
  | .not a, ρ => do
    let b ← evT a ρ
    pure (!b)
  | .and a b, ρ => do
    if ← evT a ρ then evT b ρ else pure false
  | .or a b, ρ => do
    if ← evT a ρ then pure true else evT b ρ
end
end
end RM
end
section
set_option Elab.async false
set_option linter.all false
set_option maxRecDepth 100000
set_option autoImplicit false
/-! from the evaluator to HandS's readings -/
namespace RM
open PySem PySem.Spec PyProof.Rows L2

/-- a value that is looked at: data, or a list that may still change later -/
def RV (Y : Tx) (G : Gh) (H : Hp) (v : V) (d : D) : Prop :=
  RD Y G H v d ∨ ∃ a vs ds, v = .ref a ∧ d = .lst ds ∧ H a = some (.lst vs) ∧ ¬ G.Mu a ∧ RDs Y G H vs ds

/-- an exception: its class, its dict -/
def RX (Y : Tx) (G : Gh) (H : Hp) (cls : Value) (dx : Option Addr) (x : D) : Prop :=
  ∃ c C fs p fv, x = .exc c fs ∧ Y.cls c = some C ∧ cls = .ref C ∧ dx = some p ∧ H p = some (.xd fv) ∧ ¬ G.Mu p ∧ RDf Y G H fv fs

section
variable {Y : Tx} {G G' : Gh} {H H' : Hp} {S S' : Sto}
theorem RX.ext {cls : Value} {dx : Option Addr} {x : D} (r : RX Y G H cls dx x) (e : Ext G H G' H') (ok : GOk Y G H S) : RX Y G' H' cls dx x := by
  obtain ⟨c, C, fs, p, fv, e1, e2, e3, e4, h, m, r⟩ := r
  exact ⟨c, C, fs, p, fv, e1, e2, e3, e4, e.keep p _ h m, fun q => (e.nmu p q).elim m fun z => (by rw [h] at z; cases z), r.mono (e.kp ok)⟩
end
def SlotR (Y : Tx) (H0 : Hp) (G : Gh) (H : Hp) (o : Option (Option V)) : Slot → Prop
  | .emp => True
  | .val d => ∃ v, o = some (some v) ∧ RD Y G H v d
  | .exn x => ∃ a cls dx, o = some (some (.ref a)) ∧ Y.cur = some (a, cls, dx) ∧ RX Y G H cls dx x
  | .new c fs => ∃ a C dx fv, o = some (some (.ref a)) ∧ (Y.cls c = some C ∧ Y.slf = some a) ∧ H a = some (.ins C dx fv) ∧ ¬ G.Fz a ∧ ¬ G.Mu a ∧ H0 a = none ∧ RDf Y G H fv fs
  | .own xs => ∃ a vs, o = some (some (.ref a)) ∧ H a = some (.lst vs) ∧ ¬ G.Fz a ∧ ¬ G.Mu a ∧ H0 a = none ∧ RDs Y G H vs xs

structure SR (Y : Tx) (H0 : Hp) (G : Gh) (H : Hp) (σ : L2.St) (ρ : Fe) : Prop where
  len : σ.length = ρ.length
  slot : ∀ (i : Nat) (s : Slot), ρ[i]? = some s → SlotR Y H0 G H σ[i]? s
  apart : ∀ (i j : Nat) (xs ys : List D) (a : Addr), ρ[i]? = some (.own xs) → ρ[j]? = some (.own ys) → σ[i]? = some (some (.ref a)) → σ[j]? = some (some (.ref a)) → i = j

section
variable {Y : Tx} {G G' : Gh} {H H' H0 : Hp} {S S' : Sto} {σ : L2.St} {ρ : Fe}
theorem RD.ext {v : V} {d : D} (r : RD Y G H v d) (e : Ext G H G' H') (ok : GOk Y G H S) : RD Y G' H' v d := r.mono (e.kp ok)
theorem RDs.ext {v : List V} {d : List D} (r : RDs Y G H v d) (e : Ext G H G' H') (ok : GOk Y G H S) : RDs Y G' H' v d := r.mono (e.kp ok)
theorem RV.ext {v : V} {d : D} (r : RV Y G H v d) (e : Ext G H G' H') (ok : GOk Y G H S) : RV Y G' H' v d := by
  rcases r with r | ⟨a, vs, ds, rfl, rfl, h, m, r⟩
  · exact .inl (r.ext e ok)
  · exact .inr ⟨a, vs, ds, rfl, rfl, e.keep a _ h m, fun q => (e.nmu a q).elim m fun z => (by rw [h] at z; cases z), r.ext e ok⟩
theorem SlotR.ext {o : Option (Option V)} {s : Slot} (r : SlotR Y H0 G H o s) (e : Ext G H G' H') (ok : GOk Y G H S) : SlotR Y H0 G' H' o s := by
  cases s with
  | emp => trivial
  | val d => obtain ⟨v, h, r⟩ := r; exact ⟨v, h, r.ext e ok⟩
  | exn x => obtain ⟨a, cls, dx, h, c, r⟩ := r; exact ⟨a, cls, dx, h, c, r.ext e ok⟩
  | new c fs =>
    obtain ⟨a, C, dx, fv, h, hc, ha, f, m, h0, r⟩ := r
    have no : H a = none → False := fun z => by rw [ha] at z; cases z
    exact ⟨a, C, dx, fv, h, hc, e.keep a _ ha m, fun q => (e.nfz a q).elim f no, fun q => (e.nmu a q).elim m no, h0, r.mono (e.kp ok)⟩
  | own xs =>
    obtain ⟨a, vs, h, ha, f, m, h0, r⟩ := r
    have no : H a = none → False := fun z => by rw [ha] at z; cases z
    exact ⟨a, vs, h, e.keep a _ ha m, fun q => (e.nfz a q).elim f no, fun q => (e.nmu a q).elim m no, h0, r.ext e ok⟩
theorem SR.ext (r : SR Y H0 G H σ ρ) (e : Ext G H G' H') (ok : GOk Y G H S) : SR Y H0 G' H' σ ρ := ⟨r.len, fun i s h => (r.slot i s h).ext e ok, r.apart⟩
end

/-- what is wanted of a value, of an exception -/
def QE (Y : Tx) (G : Gh) (H : Hp) (R : Gh → Hp → V → D → Prop) (Q : VK) : D → Sto → Prop := fun d S' => ∀ G' H' v, Ext G H G' H' → GOk Y G' H' S' → R G' H' v d → Q v H'
def RE (Y : Tx) (G : Gh) (H : Hp) (σ : L2.St) (W : WX) : D → Sto → Prop := fun x S' => ∀ G' H' cls dx, Ext G H G' H' → GOk Y G' H' S' → RX Y G' H' cls dx x → W cls dx σ H'
def tE (Y : Tx) (W : WX) (R : Gh → Hp → V → D → Prop) (m : Fe → M D) : TE := fun σ H Q => ∃ H0 G ρ S, GOk Y G H S ∧ SR Y H0 G H σ ρ ∧ wpM (m ρ) S (QE Y G H R Q) (RE Y G H σ W)
/-- values -/
abbrev tEv (Y : Tx) (W : WX) : (Fe → M D) → TE := tE Y W (RD Y)
/-- looks -/
abbrev tEl (Y : Tx) (W : WX) : (Fe → M D) → TE := tE Y W (RV Y)
def tQ (Y : Tx) (W : WX) (m : Fe → M Bool) : TT := fun σ H Q => ∃ H0 G ρ S, GOk Y G H S ∧ SR Y H0 G H σ ρ ∧ wpM (m ρ) S (fun b S' => ∀ G' H', Ext G H G' H' → GOk Y G' H' S' → Q b H') (RE Y G H σ W)
def tEs (Y : Tx) (W : WX) (m : Fe → M (List D)) : TA := fun σ H Q => ∃ H0 G ρ S, GOk Y G H S ∧ SR Y H0 G H σ ρ ∧ wpM (m ρ) S (fun ds S' => ∀ G' H' vs, Ext G H G' H' → GOk Y G' H' S' → RDs Y G' H' vs ds → Q vs H') (RE Y G H σ W)

section
variable {X : Cx} {e : Expr} {t t' : TE}
theorem _root_.L2.PE.imp (h : PE X e t) (hi : ∀ σ H Q, t' σ H Q → t σ H Q) : PE X e t' := ⟨fun pins s σ H Q I w => h.run pins s σ H Q I (hi σ H Q w)⟩
theorem _root_.L2.PT.imp {t t' : TT} (h : PT X e t) (hi : ∀ σ H Q, t' σ H Q → t σ H Q) : PT X e t' := ⟨fun pins s σ H Q I w => h.run pins s σ H Q I (hi σ H Q w)⟩
theorem _root_.L2.PW.imp {t t' : TT} (h : PW X e t) (hi : ∀ σ H Q, t' σ H Q → t σ H Q) : PW X e t' := ⟨fun wh pins s σ H Q I w => h.run wh pins s σ H Q I (hi σ H Q w)⟩
theorem _root_.L2.PS.imp {X : Cx} {st : Stmt} {t t' : TS} (h : PS X st t) (hi : ∀ D σ H, t' D σ H → t D σ H) : PS X st t' := ⟨fun pins s σ H D I w => h.run pins s σ H D I (hi D σ H w)⟩
theorem _root_.L2.PSs.imp {X : Cx} {st : List Stmt} {t t' : TS} (h : PSs X st t) (hi : ∀ D σ H, t' D σ H → t D σ H) : PSs X st t' := ⟨fun pins s σ H D I w => h.run pins s σ H D I (hi D σ H w)⟩
theorem _root_.L2.PA.imp {es : List Expr} {t t' : TA} (h : PA X es t) (hi : ∀ σ H Q, t' σ H Q → t σ H Q) : PA X es t' := ⟨fun pos pins s σ H Q I w => h.run pos pins s σ H Q I (hi σ H Q w)⟩
end

section
variable {Y : Tx} {W : WX} {G G' G1 : Gh} {H H' H1 H0 : Hp} {S S' : Sto} {σ : L2.St} {ρ : Fe}
theorem RE.trans {x : D} (r : RE Y G H σ W x S) (e : Ext G H G1 H1) : RE Y G1 H1 σ W x S := fun G' H' cls dx e' ok rx => r G' H' cls dx (e.trans e') ok rx
theorem RD.rv {v : V} {d : D} (r : RD Y G H v d) : RV Y G H v d := .inl r
theorem tEv.look {m : Fe → M D} {Q : VK} (h : tEl Y W m σ H Q) : tEv Y W m σ H Q := by
  obtain ⟨H0, G, ρ, S, ok, sr, w⟩ := h
  exact ⟨H0, G, ρ, S, ok, sr, wpM_mono w (fun d S' q G' H' v e ok' r => q G' H' v e ok' r.rv) fun _ _ h => h⟩

/-- one operand, then an operation -/
theorem un1 {R : Gh → Hp → V → D → Prop} {ma : Fe → M D} {f : D → Option D} {r : V → Hp → VK → Prop} {Q : VK}
    (hr : ∀ G H S v x d (Q : VK), GOk Y G H S → R G H v x → f x = some d → (∀ G' H' w, Ext G H G' H' → GOk Y G' H' S → RD Y G' H' w d → Q w H') → r v H Q)
    (h : tEv Y W (fun ρ => do M.op (f (← ma ρ))) σ H Q) : tE Y W R ma σ H fun v H1 => r v H1 Q := by
  obtain ⟨H0, G, ρ, S, ok, sr, w⟩ := h
  refine ⟨H0, G, ρ, S, ok, sr, wpM_mono (wpM_bind.mp w) (fun x S1 w1 G1 H1 v e1 ok1 r1 => ?_) fun _ _ h => h⟩
  obtain ⟨d, hd, q⟩ := wpM_op.mp w1
  exact hr G1 H1 S1 v x d Q ok1 r1 hd fun G' H' w' e' ok' r' => q G' H' w' (e1.trans e') ok' r'
/-- two operands, then an operation -/
theorem bin2 {ma mb : Fe → M D} {f : D → D → Option D} {r : R2} {Q : VK}
    (hr : ∀ G H S v w x y d (Q : VK), GOk Y G H S → RV Y G H v x → RV Y G H w y → f x y = some d → (∀ G' H' w, Ext G H G' H' → GOk Y G' H' S → RD Y G' H' w d → Q w H') → r v w H Q)
    (h : tEv Y W (fun ρ => do
      let x ← ma ρ
      let y ← mb ρ
      M.op (f x y)) σ H Q) : tOp r (tEl Y W ma) (tEl Y W mb) σ H Q := by
  obtain ⟨H0, G, ρ, S, ok, sr, w⟩ := h
  refine ⟨H0, G, ρ, S, ok, sr, wpM_mono (wpM_bind.mp w) (fun x S1 w1 G1 H1 v e1 ok1 r1 => ?_) fun _ _ h => h⟩
  refine ⟨H0, G1, ρ, S1, ok1, sr.ext e1 ok, wpM_mono (wpM_bind.mp w1) (fun y S2 w2 G2 H2 u e2 ok2 r2 => ?_) fun x S h => h.trans e1⟩
  obtain ⟨d, hd, q⟩ := wpM_op.mp w2
  exact hr G2 H2 S2 v u x y d Q ok2 (r1.ext e2 ok1) r2 hd fun G' H' w' e' ok' r' => q G' H' w' (e1.trans (e2.trans e')) ok' r'

/-- a new tuple -/
theorem fin_tup {vs : List V} {ds : List D} {Q : VK} (ok : GOk Y G H S) (r : RDs Y G H vs ds) (q : ∀ G' H' w, Ext G H G' H' → GOk Y G' H' S → RD Y G' H' w (.tup ds) → Q w H') : ∀ p, H p = none → Q (.ref p) (upd H p (.tup vs)) := fun p np => by
  have e : Ext G H G (upd H p (.tup vs)) := Ext.new ok np
  exact q G _ _ e (ok.new np) (.tup (.of upd_same) (r.ext e ok))
/-- a new list, frozen -/
theorem fin_lst {vs : List V} {ds : List D} {Q : VK} (ok : GOk Y G H S) (r : RDs Y G H vs ds) (q : ∀ G' H' w, Ext G H G' H' → GOk Y G' H' S → RD Y G' H' w (.lst ds) → Q w H') : ∀ p, H p = none → Q (.ref p) (upd H p (.lst vs)) := fun p np => by
  have e : Ext G H G (upd H p (.lst vs)) := Ext.new ok np
  have m : ¬ G.Mu p := fun m => ok.muT p m np
  exact q (G.fz p) _ _ (e.freeze np) ((ok.new np).freeze (by rw [upd_same]; exact fun z => nomatch z) m) (.lst upd_same (.inr rfl) ((r.ext e ok).mono Kp.freeze))

theorem RV.int {v : V} {i : Int} (r : RV Y G H v (.int i)) : v = .int i := by
  rcases r with r | ⟨_, _, _, _, e, _⟩
  · cases r; rfl
  · cases e
theorem RV.str {v : V} {i : Str} (r : RV Y G H v (.str i)) : v = .str i := by
  rcases r with r | ⟨_, _, _, _, e, _⟩
  · cases r; rfl
  · cases e
theorem RV.bl {v : V} {i : Bool} (r : RV Y G H v (.bl i)) : v = .bl i := by
  rcases r with r | ⟨_, _, _, _, e, _⟩
  · cases r; rfl
  · cases e
theorem RV.non {v : V} (r : RV Y G H v .non) : v = .non := by
  rcases r with r | ⟨_, _, _, _, e, _⟩
  · cases r; rfl
  · cases e
theorem RV.tup {v : V} {ds : List D} (r : RV Y G H v (.tup ds)) : ∃ a vs, v = .ref a ∧ SqT Y.K H a vs ∧ RDs Y G H vs ds := by
  rcases r with r | ⟨_, _, _, _, e, _⟩
  · cases r with
    | tup h r => exact ⟨_, _, rfl, h, r⟩
  · cases e
theorem RV.lst {v : V} {ds : List D} (r : RV Y G H v (.lst ds)) : ∃ a vs, v = .ref a ∧ H a = some (.lst vs) ∧ RDs Y G H vs ds := by
  rcases r with r | ⟨a, vs, ds', e1, e, h, _, r⟩
  · cases r with
    | lst h f r => exact ⟨_, _, rfl, h, r⟩
  · cases e
    exact ⟨a, vs, e1, h, r⟩
end
end RM
end
section
set_option Elab.async false
set_option linter.all false
set_option maxRecDepth 100000
set_option autoImplicit false
/-! the operations keep what binD, cmpD, biD say -/
namespace RM
open PySem PySem.Spec PyProof.Rows L2

/-- a context that the rules serve -/
structure XOk (Y : Tx) (k : Nat) (hot : Bool) (X : Cx) : Prop where
  nd : X.N.Nodup
  calm : hot = false → X.calm = true
  hK : X.K = Y.K
  room : hot = false → Room k X.A
  units : X.A.units + 200 < cLine
  gd : X.A.guards = some []
  sys : ∃ o, X.base.get? sysModules = some o

section
variable {Y : Tx} {G : Gh} {H : Hp}
mutual
theorem RD.dp : ∀ {d : D} {v : V}, d.pure = true → RD Y G H v d → Dp Y.K H v d.pd
  | .non, _, _, r => by cases r; exact .non
  | .bl b, _, _, r => by cases r; exact .bl b
  | .int i, _, _, r => by cases r; exact .int i
  | .str x, _, _, r => by cases r; exact .str x
  | .tup xs, _, p, r => by
    cases r with
    | tup h r => exact .tup h (RDs.dp (by simpa [D.pure] using p) r)
  | .lst xs, _, p, r => by
    cases r with
    | lst h f r => exact .lst (.of h) (RDs.dp (by simpa [D.pure] using p) r)
  | .dct _, _, p, _ => by simp [D.pure] at p
  | .ins _ _, _, p, _ => by simp [D.pure] at p
  | .exc _ _, _, p, _ => by simp [D.pure] at p
  | .scr _, _, p, _ => by simp [D.pure] at p
  | .loc _, _, p, _ => by simp [D.pure] at p
  | .drw, _, p, _ => by simp [D.pure] at p
theorem RDs.dp : ∀ {ds : List D} {vs : List V}, D.pures ds = true → RDs Y G H vs ds → DpAll Y.K H vs (D.pds ds)
  | [], _, _, r => by cases r; exact .nil
  | d :: ds, _, p, r => by
    cases r with
    | cons h r =>
      have p' : d.pure = true ∧ D.pures ds = true := by simpa [D.pures] using p
      exact .cons (RD.dp p'.1 h) (RDs.dp p'.2 r)
end
theorem RV.dp {v : V} {d : D} (p : d.pure = true) (r : RV Y G H v d) : Dp Y.K H v d.pd := by
  rcases r with r | ⟨a, vs, ds, rfl, rfl, h, _, r⟩
  · exact r.dp p
  · exact .lst (.of h) (RDs.dp (by simpa [D.pure] using p) r)
mutual
theorem pure_plain : ∀ d : D, d.pure = true → d.pd.plain = true
  | .non, _ => rfl
  | .bl _, _ => rfl
  | .int _, _ => rfl
  | .str _, _ => rfl
  | .tup xs, p => by
    show PyData.plain (.tuple (D.pds xs)) = true
    simp only [PyData.plain]
    exact pures_plain xs (by simpa [D.pure] using p)
  | .lst xs, p => by
    show PyData.plain (.list (D.pds xs)) = true
    simp only [PyData.plain]
    exact pures_plain xs (by simpa [D.pure] using p)
  | .dct _, p => by simp [D.pure] at p
  | .ins _ _, p => by simp [D.pure] at p
  | .exc _ _, p => by simp [D.pure] at p
  | .scr _, p => by simp [D.pure] at p
  | .loc _, p => by simp [D.pure] at p
  | .drw, p => by simp [D.pure] at p
theorem pures_plain : ∀ ds : List D, D.pures ds = true → PyData.plainAll (D.pds ds) = true
  | [], _ => by simp [D.pds, PyData.plainAll]
  | d :: ds, p => by
    have p' : d.pure = true ∧ D.pures ds = true := by simpa [D.pures] using p
    simp [D.pds, PyData.plainAll, pure_plain d p'.1, pures_plain ds p'.2]
end
theorem pds_map : ∀ ds : List D, D.pds ds = ds.map D.pd
  | [] => rfl
  | d :: ds => by simp [D.pds, pds_map ds]
theorem any_pds (ds : List D) (p : PyData → Bool) : (D.pds ds).any p = ds.any fun z => p z.pd := by
  rw [pds_map, List.any_map]
  rfl
theorem isNon_pd {d : D} (h : d.pure = true) (n : d.isNon = false) : d.pd ≠ .none := by
  cases d <;> simp_all [D.pure, D.isNon, D.pd]
end

/-- by values: an operation that gives what f says -/
def rB (Y : Tx) (f : D → D → Option D) : R2 := fun v w H Q => ∃ G S x y d, GOk Y G H S ∧ RV Y G H v x ∧ RV Y G H w y ∧ f x y = some d ∧ ∀ G' H' u, Ext G H G' H' → GOk Y G' H' S → RD Y G' H' u d → Q u H'
theorem tB {Y : Tx} {W : WX} {σ : L2.St} {H : Hp} {ma mb : Fe → M D} {f : D → D → Option D} {Q : VK}
    (h : tEv Y W (fun ρ => do
      let x ← ma ρ
      let y ← mb ρ
      M.op (f x y)) σ H Q) : tOp (rB Y f) (tEl Y W ma) (tEl Y W mb) σ H Q :=
  bin2 (fun G H S v w x y d Q ok r1 r2 e q => ⟨G, S, x, y, d, ok, r1, r2, e, q⟩) h

section
variable {Y : Tx} {k : Nat} {hot : Bool} {X : Cx}
theorem tup_mul0 (l : Addr) (n : Nat) (dd : Option Addr) (sl : Array (Option Value)) (x : Int) (u : Tok) (c0 : (decide (x < -(2 ^ 63)) || decide (x ≥ 2 ^ 63)) = false) :
    Meets (Builtin.«tuple.__mul__» ⟨[.ref l, .int x u], []⟩) (fun _ R s => s.heap.get? l = some { cls := .type "tuple", dict := dd, data := .seq #[] n, slots := sl } ∧ R (.ok (.ret (Value.ref l))) s) :=
  .of_wp fun prog w A R s h => by
    obtain ⟨hp, g, d, tk, os⟩ := s
    obtain ⟨hl, h⟩ := h
    have f1 := AutoSeq1.idx_int
    wp_walk using wpAny_loadPart' hl
    repeat (first
      | (refine wpAny_ite_false (decide_eq_false (by rw [c0]; simp)) ?_
         wp_walk using wpAny_loadPart' hl)
      | (refine wpAny_ite_true (decide_eq_true (by rfl)) ?_
         wp_walk using wpAny_loadPart' hl))
    exact ⟨_, rfl, h⟩
theorem or_mulS {pins : List (Addr × Obj)} {s : Shared} {σ : L2.St} {H : Hp} {a : Str} {n : Int} {u1 u2 : Value} {Q : VK} (I : Inv X pins σ H s) (r1 : RelV (.str a) u1) (r2 : RelV (.int n) u2) (h0 : 0 ≤ n) (h1 : n ≤ 1000) (h2 : a.length ≤ 1000)
    (q : Q (.str (mulStr a n.toNat)) H) : wpAny (model X.prog X.w) X.A (binaryOp .Mult u1 u2) (EP X pins σ Q) X.xe s := by
  obtain ⟨t, rfl⟩ := r1
  obtain ⟨t', rfl⟩ := r2
  have e0 : mulStr a 0 = Str.empty := by
    unfold mulStr
    rfl
  have e1 : mulStr a 1 = a := by
    unfold mulStr
    cases a
    simp
  have en : ∀ m : Nat, a.length = 0 → mulStr a m = a := fun m hz => by
    have hl : a.cps.toList = [] := List.eq_nil_of_length_eq_zero (by rw [Array.length_toList]; exact hz)
    unfold mulStr
    rw [hl]
    have : (List.replicate m ([] : List Nat)).flatten = [] := by simp
    rw [this]
    cases a with
    | mk c =>
      have hc : c = #[] := Array.toList_inj.mp hl
      rw [hc]
  have ef : ∀ m : Nat, (⟨(List.replicate m a.cps).foldl (· ++ ·) #[]⟩ : Str) = mulStr a m := fun m => by
    unfold mulStr
    congr 1
    have g : ∀ (m : Nat) (z : Array Nat), (List.replicate m a.cps).foldl (· ++ ·) z = z ++ (List.replicate m a.cps.toList).flatten.toArray := by
      intro m
      induction m with
      | zero => intro z; simp
      | succ m ih =>
        intro z
        rw [List.replicate_succ, List.foldl_cons, ih, List.replicate_succ, List.flatten_cons]
        rw [Array.append_assoc]
        congr 1
        apply Array.ext'
        simp
    rw [g]
    simp
  have hlen : a.length * n.toNat ≤ 1000 * 1000 := Nat.mul_le_mul h2 (by omega)
  refine P.mul_str (by rw [decide_eq_false (by omega), decide_eq_false (by omega)]; rfl) (fun hn _ => ?_) (fun _ _ => ?_) ?_
  · have hm : (a.length : Int) * n ≤ 2 ^ 63 - 1 := by
      have h3 : (a.length : Int) * n ≤ 1000 * 1000 := Int.mul_le_mul (by omega) h1 h0 (by decide)
      omega
    exact Int.not_lt.mpr (Int.le_ediv_of_mul_le (by omega) hm)
  · unfold Builtin.Str.tooLong
    rw [sizeLine_eq]
    exact decide_eq_false (by omega)
  · have fin : ∀ (z : Str) (t : Tok), z = mulStr a n.toNat → EP X pins σ Q (.str z t) { s with toks := s.toks + 1 } := fun z t e => ⟨.str (mulStr a n.toNat), H, I.tok _, ⟨t, by rw [e]⟩, q⟩
    by_cases c1 : n < 1
    · rw [if_pos c1]
      have : n.toNat = 0 := by omega
      exact ⟨by decide, fin _ _ (by rw [this, e0])⟩
    · rw [if_neg c1]
      by_cases c2 : (n == 1 || a.length == 0) = true
      · rw [if_pos c2]
        have ea : a = mulStr a n.toNat := by
          rcases Bool.or_eq_true_iff.mp c2 with c2 | c2
          · have : n.toNat = 1 := by
              have := beq_iff_eq.mp c2
              omega
            rw [this, e1]
          · exact (en _ (beq_iff_eq.mp c2)).symm
        exact ⟨.str (mulStr a n.toNat), H, I, ⟨t, by rw [← ea]⟩, q⟩
      · rw [if_neg c2]
        refine ⟨?_, fin _ _ (ef _)⟩
        rw [ef, sizeLine_eq]
        show (mulStr a n.toNat).cps.size ≤ _
        unfold mulStr
        have hs : ((List.replicate n.toNat a.cps.toList).flatten.toArray).size = n.toNat * a.length := by
          simp [Str.length]
        have hc : n.toNat * a.length = a.length * n.toNat := Nat.mul_comm _ _
        show ((List.replicate n.toNat a.cps.toList).flatten.toArray).size ≤ 16777216
        rw [hs]
        omega
theorem or_bin (ox : XOk Y k hot X) (op : Operator) : OpR X (binaryOp op) (rB Y (binD op)) := by
  intro pins s σ H v w u1 u2 Q I ru1 ru2 ⟨G, S, x, y, d, ok, r1, r2, e, q⟩
  have scalar : ∀ z : V, (∀ G H, RD Y G H z d) → Q z H := fun z hz => q G H z Ext.refl ok (hz G H)
  cases op
  case Add =>
    cases x <;> cases y <;> simp only [binD] at e <;> try (cases e; done)
    · cases e
      cases r1.int; cases r2.int
      exact op_add pins s σ H _ _ u1 u2 Q I ru1 ru2 ⟨_, _, rfl, rfl, scalar _ fun _ _ => .int _⟩
    · split at e
      · rename_i hz
        cases e
        cases r1.str; cases r2.str
        exact op_add_str pins s σ H _ _ u1 u2 Q I ru1 ru2 ⟨_, _, rfl, rfl, hz, scalar _ fun _ _ => .str _⟩
      · cases e
    · split at e
      · rename_i xs ys hz
        cases e
        obtain ⟨a, vs, rfl, ha, rv⟩ := r1.tup
        obtain ⟨b, ws, rfl, hb, rw⟩ := r2.tup
        refine op_catA pins s σ H _ _ u1 u2 Q I ru1 ru2 ⟨a, b, vs, ws, rfl, rfl, by rw [ox.hK]; exact ha, by rw [ox.hK]; exact hb, by rw [rv.length, rw.length]; exact hz, fun e1 => ?_, fun e1 e2 => ?_, fun _ _ => fin_tup ok (rv.append rw) q⟩
        · subst e1
          cases rv
          exact q G H _ Ext.refl ok (.tup hb rw)
        · subst e2
          cases rw
          rw [List.append_nil] at q
          exact q G H _ Ext.refl ok (.tup ha rv)
      · cases e
    · split at e
      · rename_i xs ys hz
        cases e
        obtain ⟨a, vs, rfl, ha, rv⟩ := r1.lst
        obtain ⟨b, ws, rfl, hb, rw⟩ := r2.lst
        exact op_cat pins s σ H _ _ u1 u2 Q I ru1 ru2 ⟨a, b, vs, ws, rfl, rfl, ha, hb, by rw [rv.length, rw.length]; exact hz, fin_lst ok (rv.append rw) q⟩
      · cases e
  case Sub =>
    cases x <;> cases y <;> simp only [binD] at e <;> try (cases e; done)
    cases e
    cases r1.int; cases r2.int
    exact op_sub pins s σ H _ _ u1 u2 Q I ru1 ru2 ⟨_, _, rfl, rfl, scalar _ fun _ _ => .int _⟩
  case Mult =>
    cases x <;> cases y <;> simp only [binD] at e <;> try (cases e; done)
    · split at e
      · rename_i hz
        cases e
        cases r1.int; cases r2.int
        exact op_mul pins s σ H _ _ u1 u2 Q I ru1 ru2 ⟨_, _, rfl, rfl, hz, scalar _ fun _ _ => .int _⟩
      · cases e
    · split at e
      · rename_i x n hz
        cases e
        cases r1.str; cases r2.int
        exact or_mulS I ru1 ru2 hz.1 hz.2.1 hz.2.2 (scalar _ fun _ _ => .str _)
      · cases e
    · split at e
      · rename_i xs n hz
        cases e
        obtain ⟨a, vs, rfl, ha, rv⟩ := r1.tup
        cases r2.int
        have rr : ∀ m : Nat, RDs Y G H (List.replicate m vs).flatten (List.replicate m xs).flatten := fun m => by
          induction m with
          | zero => exact .nil
          | succ m ih =>
            rw [List.replicate_succ, List.replicate_succ, List.flatten_cons, List.flatten_cons]
            exact rv.append ih
        by_cases hv : vs = []
        · subst hv
          cases rv
          have e0 : (List.replicate n.toNat ([] : List D)).flatten = [] := by simp
          rw [e0] at q
          obtain ⟨t, rfl⟩ := ru2
          cases ru1
          have hT : SqT X.K H a [] := by rw [ox.hK]; exact ha
          obtain ⟨its, rz, ⟨⟨cls, dd, data, sl⟩, ho, hc, m, hd⟩, _⟩ := I.tuple hT
          cases rz
          simp only at hc hd
          subst hc hd
          refine wpAny_binaryOp_repeat_ref (T := "tuple") (U := "int") (by decide) ⟨_, ho, rfl⟩ (fun s' => typeIs_int s' n t) noFill_tuple_mul F.fills_int_mul F.slot_int_rmul repeat_tuple F.slot_int_index.lookup ?_
          refine call_meets F.slot_int_rmul (typeIs_int s n t) F.entry_int_rmul (F.args_int_rmul_2 _ _) (int_rmul_tuple n t a _ m dd sl) ⟨ho, rfl, ⟨_, ho, rfl⟩, ?_⟩
          have c0 : (decide (n < -(2 ^ 63)) || decide (n ≥ 2 ^ 63)) = false := by
            rw [decide_eq_false (by omega), decide_eq_false (by omega)] <;> rfl
          refine call_meets F.slot_tuple_mul ⟨_, ho, rfl⟩ F.entry_tuple_mul (F.args_tuple_mul_2 _ _) (tup_mul0 a m dd sl n t c0) ⟨ho, ?_⟩
          exact ⟨.ref a, H, I, rfl, q G H _ Ext.refl ok (.tup ha .nil)⟩
        · exact op_repT pins s σ H _ _ u1 u2 Q I ru1 ru2 ⟨a, n, vs, rfl, rfl, by rw [ox.hK]; exact ha, hv, hz.1, hz.2.1, by rw [rv.length]; exact hz.2.2, fin_tup ok (rr _) q⟩
      · cases e
    · split at e
      · rename_i xs n hz
        cases e
        obtain ⟨a, vs, rfl, ha, rv⟩ := r1.lst
        cases r2.int
        have rr : ∀ m : Nat, RDs Y G H (List.replicate m vs).flatten (List.replicate m xs).flatten := fun m => by
          induction m with
          | zero => exact .nil
          | succ m ih =>
            rw [List.replicate_succ, List.replicate_succ, List.flatten_cons, List.flatten_cons]
            exact rv.append ih
        refine op_rep pins s σ H _ _ u1 u2 Q I ru1 ru2 ⟨a, n, vs, rfl, rfl, ha, by omega, by omega, ?_, fin_lst ok (rr _) q⟩
        have hz2 : vs.length * n.toNat ≤ 1000 * 1000 := Nat.mul_le_mul (by rw [rv.length]; exact hz.2.2) (by omega)
        rw [sizeLine_eq]
        omega
      · cases e
  case FloorDiv =>
    cases x <;> cases y <;> simp only [binD] at e <;> try (cases e; done)
    split at e
    · rename_i hz
      cases e
      cases r1.int; cases r2.int
      exact op_fdiv pins s σ H _ _ u1 u2 Q I ru1 ru2 ⟨_, _, rfl, rfl, hz, scalar _ fun _ _ => .int _⟩
    · cases e
  case Mod =>
    cases x <;> cases y <;> simp only [binD] at e <;> try (cases e; done)
    split at e
    · rename_i hz
      cases e
      cases r1.int; cases r2.int
      exact op_mod pins s σ H _ _ u1 u2 Q I ru1 ru2 ⟨_, _, rfl, rfl, hz, scalar _ fun _ _ => .int _⟩
    · cases e
  case Pow =>
    cases x <;> cases y <;> simp only [binD] at e <;> try (cases e; done)
    split at e
    · rename_i hz
      cases e
      cases r1.int; cases r2.int
      exact op_pow pins s σ H _ _ u1 u2 Q I ru1 ru2 ⟨_, _, rfl, rfl, hz, scalar _ fun _ _ => .int _⟩
    · cases e
  all_goals (cases x <;> cases y <;> simp [binD] at e)
end
end RM
end
section
set_option Elab.async false
set_option linter.all false
set_option maxRecDepth 100000
set_option autoImplicit false
/-! comparisons -/
namespace RM
open PySem PySem.Spec PyProof.Rows L2
section
variable {Y : Tx} {k : Nat} {hot : Bool} {X : Cx}
theorem XOk.reads (ox : XOk Y k hot X) {pins : List (Addr × Obj)} {σ : L2.St} {H : Hp} {s : Shared} {G : Gh} {d : D} {v : V} {u : Value} (I : Inv X pins σ H s) (p : d.pure = true) (r : RV Y G H v d) (ru : RelV v u) : ∃ as, Reads s.heap u d.pd as :=
  Dp.reads I d.pd v u (by rw [ox.hK]; exact r.dp p) ru
theorem isNon_rv {G : Gh} {H : Hp} {v : V} {x : D} (r : RV Y G H v x) : decide (v = .non) = x.isNon := by
  rcases r with r | ⟨_, _, _, rfl, rfl, _⟩
  · cases r <;> rfl
  · rfl
theorem or_cmp (ox : XOk Y k hot X) (op : CmpOp) : OpR X (compareOp op) (rB Y (cmpD op)) := by
  intro pins s σ H v w u1 u2 Q I ru1 ru2 ⟨G, S, x, y, d, ok, r1, r2, e, q⟩
  have hu := ox.units
  have fin : ∀ b : Bool, d = .bl b → EP X pins σ Q (.bool b) s := fun b eb => ⟨.bl b, H, I, rfl, q G H _ Ext.refl ok (by rw [eb]; exact .bl b)⟩
  have two : x.pure = true → y.pure = true → ∃ as bs, Reads s.heap u1 x.pd as ∧ Reads s.heap u2 y.pd bs := fun p1 p2 => by
    obtain ⟨as, h1⟩ := ox.reads I p1 r1 ru1
    obtain ⟨bs, h2⟩ := ox.reads I p2 r2 ru2
    exact ⟨as, bs, h1, h2⟩
  have lts : D.okL x y = true → ∃ as bs, Reads s.heap u1 x.pd as ∧ Reads s.heap u2 y.pd bs ∧ PySem.W.alike x.pd y.pd = true ∧ x.pd ≠ .none ∧ X.A.units + min x.pd.depth y.pd.depth < cLine := fun h => by
    simp only [D.okL, Bool.and_eq_true, decide_eq_true_eq, Bool.not_eq_true'] at h
    obtain ⟨⟨⟨⟨p1, p2⟩, al⟩, nn⟩, dp⟩ := h
    obtain ⟨as, bs, h1, h2⟩ := two p1 p2
    exact ⟨as, bs, h1, h2, al, isNon_pd p1 nn, by omega⟩
  have eqs : D.okE x y = true → ∃ as bs, Reads s.heap u1 x.pd as ∧ Reads s.heap u2 y.pd bs ∧ x.pd.plain = true ∧ y.pd.plain = true ∧ X.A.units + min x.pd.depth y.pd.depth < cLine := fun h => by
    simp only [D.okE, Bool.and_eq_true, decide_eq_true_eq] at h
    obtain ⟨⟨p1, p2⟩, dp⟩ := h
    obtain ⟨as, bs, h1, h2⟩ := two p1 p2
    exact ⟨as, bs, h1, h2, pure_plain x p1, pure_plain y p2, by omega⟩
  have ins : ∀ ys : List D, (y = .tup ys ∨ y = .lst ys) → (x.pure && D.pures ys && decide (x.pd.depth ≤ 64)) = true → ∃ as bs, Reads s.heap u1 x.pd as ∧ Reads s.heap u2 y.pd bs ∧ x.pd.plain = true ∧ PyData.plainAll (D.pds ys) = true ∧ X.A.units + 1 + min (PyData.depthAll (D.pds ys)) x.pd.depth < cLine := fun ys hy h => by
    simp only [Bool.and_eq_true, decide_eq_true_eq] at h
    obtain ⟨⟨p1, p2⟩, dp⟩ := h
    have p3 : y.pure = true := by rcases hy with rfl | rfl <;> simpa [D.pure] using p2
    obtain ⟨as, bs, h1, h2⟩ := two p1 p3
    exact ⟨as, bs, h1, h2, pure_plain x p1, pures_plain ys p2, by omega⟩
  have emptyRun : ∀ b, emptyEq x y = some b → (EP X pins σ Q (.bool b) s → wpAny (model X.prog X.w) X.A (compareOp .Eq u1 u2) (EP X pins σ Q) X.xe s) ∧ (EP X pins σ Q (.bool (!b)) s → wpAny (model X.prog X.w) X.A (compareOp .NotEq u1 u2) (EP X pins σ Q) X.xe s) := fun b eb => by
    unfold emptyEq at eb
    split at eb
    · rename_i xs
      cases eb
      obtain ⟨a, vs, rfl, ha, rs⟩ := r1.tup
      obtain ⟨b, ws, rfl, hb, rs2⟩ := r2.tup
      cases rs2
      cases ru1
      cases ru2
      obtain ⟨its, p1, t1, _⟩ := I.tuple (by rw [ox.hK]; exact ha)
      obtain ⟨its2, p2, t2, _⟩ := I.tuple (by rw [ox.hK]; exact hb)
      cases p2
      have hl : its.length = xs.length := by rw [← p1.length, rs.length]
      have val : ((List.range (min its.toArray.size ([] : List Value).toArray.size)).all (fun _ => true) && its.toArray.size == ([] : List Value).toArray.size) = xs.isEmpty := by
        cases xs with
        | nil =>
          have : its = [] := List.length_eq_zero_iff.mp hl
          subst this; rfl
        | cons x r =>
          cases its with
          | nil => cases hl
          | cons y r' => rfl
      refine ⟨fun q => PySem.SeqAt.RcAt.tuples (e := fun _ => true) t1 t2 (by omega) (fun j h1 h2 => absurd h2 (by simp)) X.prog X.w X.xe (EP X pins σ Q) ?_, fun q => PySem.SeqAt.RcNeAt.tuples (e := fun _ => true) t1 t2 (by omega) (fun j h1 h2 => absurd h2 (by simp)) X.prog X.w X.xe (EP X pins σ Q) ?_⟩
      · rw [val]; exact q
      · rw [val]; exact q
    · rename_i xs
      cases eb
      obtain ⟨a, vs, rfl, ha, rs⟩ := r1.lst
      obtain ⟨b, ws, rfl, hb, rs2⟩ := r2.lst
      cases rs2
      cases ru1
      cases ru2
      obtain ⟨its, p1, t1, _⟩ := I.list (.of ha)
      obtain ⟨its2, p2, t2, _⟩ := I.list (.of hb)
      cases p2
      have hl : its.length = xs.length := by rw [← p1.length, rs.length]
      cases xs with
      | nil =>
        have : its = [] := List.length_eq_zero_iff.mp hl
        subst this
        exact ⟨fun q => PySem.SeqAt.RcAt.lists (e := fun _ => true) t1.isList t2.isList rfl (by omega) (fun j h1 h2 => absurd h2 (by simp)) X.prog X.w X.xe (EP X pins σ Q) q, fun q => PySem.SeqAt.RcNeAt.lists (e := fun _ => true) t1.isList t2.isList rfl (by omega) (fun j h1 h2 => absurd h2 (by simp)) X.prog X.w X.xe (EP X pins σ Q) q⟩
      | cons x r =>
        have hne : (its.toArray.size != ([] : List Value).toArray.size) = true := by
          cases its with
          | nil => cases hl
          | cons y r' => rfl
        exact ⟨fun q => PySem.SeqAt.RcAt.lists_lengths t1.isList t2.isList hne (by omega) X.prog X.w X.xe (EP X pins σ Q) q, fun q => PySem.SeqAt.RcNeAt.lists_lengths t1.isList t2.isList hne (by omega) X.prog X.w X.xe (EP X pins σ Q) q⟩
    · cases eb
  cases op
  case Eq =>
    simp only [cmpD] at e
    split at e
    · rename_i h
      cases e
      obtain ⟨as, bs, h1, h2, p1, p2, z⟩ := eqs h
      exact PySem.SeqAt.eq_plain h1 h2 p1 p2 z (fin _ rfl)
    · cases eb : emptyEq x y with
      | none => rw [eb] at e; cases e
      | some b =>
        rw [eb] at e
        cases e
        exact (emptyRun b eb).1 (fin _ rfl)
  case NotEq =>
    simp only [cmpD] at e
    split at e
    · rename_i h
      cases e
      obtain ⟨as, bs, h1, h2, p1, p2, z⟩ := eqs h
      exact PySem.SeqAt.ne_plain h1 h2 p1 p2 z (fin _ rfl)
    · cases eb : emptyEq x y with
      | none => rw [eb] at e; cases e
      | some b =>
        rw [eb] at e
        cases e
        exact (emptyRun b eb).2 (fin _ rfl)
  case Lt =>
    simp only [cmpD] at e
    split at e
    · rename_i h
      cases e
      obtain ⟨as, bs, h1, h2, al, nn, z⟩ := lts h
      exact PySem.W.lt_data h1 h2 al nn z (fin _ rfl)
    · cases e
  case LtE =>
    simp only [cmpD] at e
    split at e
    · rename_i h
      cases e
      obtain ⟨as, bs, h1, h2, al, nn, z⟩ := lts h
      exact PySem.W.le_data h1 h2 al nn z (fin _ rfl)
    · cases e
  case Gt =>
    simp only [cmpD] at e
    split at e
    · rename_i h
      cases e
      obtain ⟨as, bs, h1, h2, al, nn, z⟩ := lts h
      exact PySem.W.gt_data h1 h2 al nn z (fin _ rfl)
    · cases e
  case GtE =>
    simp only [cmpD] at e
    split at e
    · rename_i h
      cases e
      obtain ⟨as, bs, h1, h2, al, nn, z⟩ := lts h
      exact PySem.W.ge_data h1 h2 al nn z (fin _ rfl)
    · cases e
  case Is =>
    simp only [cmpD] at e
    split at e
    · rename_i h
      cases e
      have ey : y = .non := by cases y <;> simp_all [D.isNon]
      subst ey
      cases r2.non
      exact op_isN pins s σ H _ _ u1 u2 Q I ru1 ru2 ⟨rfl, by rw [isNon_rv r1]; exact q G H _ Ext.refl ok (.bl _)⟩
    · cases e
  case IsNot =>
    simp only [cmpD] at e
    split at e
    · rename_i h
      cases e
      have ey : y = .non := by cases y <;> simp_all [D.isNon]
      subst ey
      cases r2.non
      exact op_notN pins s σ H _ _ u1 u2 Q I ru1 ru2 ⟨rfl, by rw [isNon_rv r1]; exact q G H _ Ext.refl ok (.bl _)⟩
    · cases e
  case In =>
    cases y <;> simp only [cmpD] at e <;> try (cases e; done)
    · rename_i z
      cases x <;> try (cases e; done)
      rename_i c
      simp only at e
      split at e
      · rename_i kk hc
        cases e
        cases r1.str; cases r2.str
        have ec : c = ⟨#[kk]⟩ := by
          cases c with
          | mk cps => exact congrArg Str.mk (Array.toList_inj.mp hc)
        subst ec
        exact op_in_sign pins s σ H _ _ u1 u2 Q I ru1 ru2 ⟨kk, z, rfl, rfl, q G H _ Ext.refl ok (.bl _)⟩
      · cases e
    · split at e
      · rename_i ys h
        cases e
        obtain ⟨as, bs, h1, h2, p1, p2, z⟩ := ins ys (.inl rfl) h
        exact PySem.SeqAt.in_tuple_data h2 h1 p2 p1 z (by rw [any_pds]; exact fin _ rfl)
      · cases e
    · split at e
      · rename_i ys h
        cases e
        obtain ⟨as, bs, h1, h2, p1, p2, z⟩ := ins ys (.inr rfl) h
        exact PySem.SeqAt.in_list_data h2 h1 p2 p1 z (by rw [any_pds]; exact fin _ rfl)
      · cases e
  case NotIn =>
    cases y <;> simp only [cmpD] at e <;> try (cases e; done)
    · rename_i z
      cases x <;> try (cases e; done)
      rename_i c
      simp only at e
      split at e
      · rename_i kk hc
        cases e
        cases r1.str; cases r2.str
        have ec : c = ⟨#[kk]⟩ := by
          cases c with
          | mk cps => exact congrArg Str.mk (Array.toList_inj.mp hc)
        subst ec
        exact op_notIn_sign pins s σ H _ _ u1 u2 Q I ru1 ru2 ⟨kk, z, rfl, rfl, q G H _ Ext.refl ok (.bl _)⟩
      · cases e
    · split at e
      · rename_i ys h
        cases e
        obtain ⟨as, bs, h1, h2, p1, p2, z⟩ := ins ys (.inl rfl) h
        exact PySem.SeqAt.notIn_tuple_data h2 h1 p2 p1 z (by rw [any_pds]; exact fin _ rfl)
      · cases e
    · split at e
      · rename_i ys h
        cases e
        obtain ⟨as, bs, h1, h2, p1, p2, z⟩ := ins ys (.inr rfl) h
        exact PySem.SeqAt.notIn_list_data h2 h1 p2 p1 z (by rw [any_pds]; exact fin _ rfl)
      · cases e
end
end RM
end
section
set_option Elab.async false
set_option linter.all false
set_option maxRecDepth 100000
set_option autoImplicit false
/-! sorting: tuples with empty ones among them too; lists and tuples sorted -/
namespace RM
open PySem PySem.Spec PyProof.Rows PySem.W PySem.SeqAt
section
variable {prog : Program} {w : World} {A : Around} {E : Value → Shared → Prop} {s : Shared}

/-- tuple's own __lt__ -/
theorem tup_lt_call {Q : Value → Shared → Prop} {l b : Addr} {us ws : Array Value} {e r : Nat → Bool} (hl : s.heap.IsTuple l us) (hb : s.heap.IsTuple b ws)
    (he : ∀ (j : Nat) (h1 : j < us.size) (h2 : j < ws.size), EqAt A.in1 s us[j] ws[j] (e j)) (hr : ∀ (j : Nat) (h1 : j < us.size) (h2 : j < ws.size), e j = false → RcLt A.in1 s us[j] ws[j] (r j))
    (h : Q (.bool (firstLt e r (decide (us.size < ws.size)) (List.range (min us.size ws.size)))) s) : wpAny (model prog w) A (call (.builtin "tuple.__lt__") [.ref l, .ref b]) Q E s := by
  obtain ⟨⟨c1, d1, t1, l1⟩, o1, q1, n1, p1⟩ := id hl
  obtain ⟨⟨c2, d2, t2, l2⟩, o2, q2, n2, p2⟩ := id hb
  simp only at q1 p1 q2 p2
  subst q1 p1 q2 p2
  exact call_meets F.slot_tuple_lt ⟨_, o1, rfl⟩ F.entry_tuple_lt (F.args_tuple_lt_2 _ _) (tuple_ltAt l b us ws n1 n2 d1 d2 l1 l2 e r) ⟨o1, o2, he, hr, h⟩

/-- two tuples, as keys of one type -/
theorem tup_oneLt {f : Bool} {xs ys : List PyData} {a b : Value} {as bs : List Addr} {Q : Bool → Shared → Prop} (ra : Reads s.heap a (.tuple xs) as) (rb : Reads s.heap b (.tuple ys) bs) (hal : alikeAll xs ys = true)
    (hu : A.units + min (PyData.tuple xs).depth (PyData.tuple ys).depth < cLine) (hq : Q (dataLt (.tuple xs) (.tuple ys)) s) : wpAny (model prog w) A (oneLt' f a b) Q E s := by
  cases f with
  | false => exact oneLt_alike (fun z => nomatch z) ra rb (by simpa [alike] using hal) (fun z => nomatch z) hu hq
  | true =>
    cases ra with
    | @tuple l o us n _ as1 h1 h2 h3 h4 =>
      cases rb with
      | @tuple l' o' ws n' _ bs1 k1 k2 k3 k4 =>
        have n1 : us.size = xs.length := by simpa using ReadsAll.length _ _ _ h4
        have n2 : ws.size = ys.length := by simpa using ReadsAll.length _ _ _ k4
        rw [dataLt_tuple, ← firstLt_toks xs ys hal, ← n1, ← n2] at hq
        rw [oneLt'_eq]
        simp only [if_true]
        refine wpAny_bind (wpAny_cRoomFor (room_here hu) ?_)
        have step := tup_lt_call (prog := prog) (w := w) (A := A) (E := E) (s := s) (e := pairEq xs ys) (r := fun j => dataLt (xs.getD j .none) (ys.getD j .none)) (Q := fun v s1 => ∃ c : Bool, v = .bool c ∧ Q c s1) ⟨_, h1, h2, _, h3⟩ ⟨_, k1, k2, _, k3⟩
          (fun j j1 j2 => eqAt_alikeAll xs ys A.in1 s us.toList ws.toList _ _ h4 k4 hal (room_in hu) j (by simpa using j1) (by simpa using j2))
          (fun j j1 j2 hj => rcLt_alikeAll xs ys A.in1 s us.toList ws.toList _ _ h4 k4 hal (room_in hu) j (by simpa using j1) (by simpa using j2) hj)
          ⟨_, rfl, hq⟩
        refine wpAny_bind (wpAny_callSpecialIfBound?_slot (T := "tuple") ⟨_, h1, h2⟩ F.slot_tuple_lt (wpAny_mono step (fun v s1 hv => ?_) fun _ _ z => z))
        obtain ⟨c, rfl, hc⟩ := hv
        exact wpAny_truthy_bool hc

/-- how an array of looks ends -/
theorem map_looks {M : Model} {f : Value → Sem (Option Value)} {g : Value → Option Value} : ∀ (vs : List Value) {Q : List (Option Value) → Shared → Prop}, (∀ v ∈ vs, ∀ {Q' : Option Value → Shared → Prop}, Q' (g v) s → wpAny M A (f v) Q' E s) → Q (vs.map g) s → wpAny M A (vs.mapM f) Q E s
  | [], Q, _, h => by rw [List.mapM_nil]; exact wpAny_pure h
  | v :: vs, Q, hf, h => by
    rw [List.mapM_cons]
    refine wpAny_bind (hf v List.mem_cons_self (wpAny_bind (map_looks vs (fun u hu => hf u (List.mem_cons_of_mem _ hu)) (wpAny_pure h))))
theorem map_looksV {M : Model} {f : Value → Sem Value} {g : Value → Value} : ∀ (vs : List Value) {Q : List Value → Shared → Prop}, (∀ v ∈ vs, ∀ {Q' : Value → Shared → Prop}, Q' (g v) s → wpAny M A (f v) Q' E s) → Q (vs.map g) s → wpAny M A (vs.mapM f) Q E s
  | [], Q, _, h => by rw [List.mapM_nil]; exact wpAny_pure h
  | v :: vs, Q, hf, h => by
    rw [List.mapM_cons]
    refine wpAny_bind (hf v List.mem_cons_self (wpAny_bind (map_looksV vs (fun u hu => hf u (List.mem_cons_of_mem _ hu)) (wpAny_pure h))))

/-- alike tuples, whatever their lengths, can be sorted -/
theorem sorts_tuples {vs : List Value} {ds : List PyData} (e : EachIs (fun v d => ∃ as, Reads s.heap v d as) vs ds) (hal : AllAlike ds) (ht : ∀ d ∈ ds, ∃ xs, d = .tuple xs) (hu : ∀ d, d ∈ ds → A.units + d.depth < cLine) : SortsAt prog w A s (dataKind s.heap ds) vs := by
  by_cases hne : ∀ d, d ∈ ds → ∃ x r, d = .tuple (x :: r)
  · exact SortsAt.data e hal (.inl hne) hu
  have room : ∀ {d d' : PyData}, d ∈ ds → A.units + min d.depth d'.depth < cLine := fun {d d'} hd => Nat.lt_of_le_of_lt (Nat.add_le_add_left (Nat.min_le_left _ _) _) (hu d hd)
  have lt : ∀ f, H.LtAt prog w A s (dataKind s.heap ds) (if f = true then oneType' else general') := fun f E x y a b Q ha hb hq => by
    obtain ⟨d, as, hd, ra, rfl⟩ := dataKind_inv ha
    obtain ⟨d', bs, hd', rb, rfl⟩ := dataKind_inv hb
    obtain ⟨xs, rfl⟩ := ht d hd
    obtain ⟨ys, rfl⟩ := ht d' hd'
    have q : wpAny (model prog w) A (oneLt' f x y) Q E s := tup_oneLt ra rb (by simpa [alike] using hal _ hd _ hd') (room hd) hq
    cases f with
    | true => exact q
    | false => exact q
  -- what the first item of each is
  have each : ∀ v ∈ vs, ∃ (a : Addr) (o : Obj) (us : Array Value) (n : Nat), v = .ref a ∧ s.heap.get? a = some o ∧ o.cls = .type "tuple" ∧ o.data = .seq us n := fun v hv => by
    obtain ⟨d, hd, as, r⟩ := e.left v hv
    obtain ⟨xs, rfl⟩ := ht d hd
    cases r with
    | tuple h1 h2 h3 h4 => exact ⟨_, _, _, _, rfl, h1, h2, h3⟩
  let g : Value → Option Value := fun v => match v with
    | .ref a => match s.heap.get? a with
      | some o => match o.data with
        | .seq us _ => us[0]?
        | _ => none
      | none => none
    | _ => none
  have hfirst : ∀ v ∈ vs, ∀ {E : Value → Shared → Prop} {Q' : Option Value → Shared → Prop}, Q' (g v) s → wpAny (model prog w) A (firstOfTuple' v) Q' E s := fun v hv E Q' hq => by
    obtain ⟨a, o, us, n, rfl, h1, h2, h3⟩ := each v hv
    have eg : g (.ref a) = us[0]? := by
      show (match s.heap.get? a with
        | some o => match o.data with
          | .seq us _ => us[0]?
          | _ => none
        | none => none) = _
      rw [h1]
      simp only [h3]
    rw [eg] at hq
    show wpAny _ _ (do
      if (← typeOf (.ref a)) != .type "tuple" then return none
      return (← Builtin.List.listItems (.ref a))[0]?) _ _ _
    refine wpAny_bind (wpAny_typeOf (T := "tuple") ⟨o, h1, h2⟩ ?_)
    rw [if_neg (by decide)]
    exact wpAny_bind (listItems_at h1 h3 (wpAny_pure hq))
  have hnone : ∃ v ∈ vs, g v = none := by
    obtain ⟨d, hd, hx⟩ : ∃ d, d ∈ ds ∧ ¬ ∃ x r, d = .tuple (x :: r) := by
      refine Classical.byContradiction fun z => hne fun d hd => ?_
      refine Classical.byContradiction fun y => z ⟨d, hd, y⟩
    obtain ⟨xs, rfl⟩ := ht d hd
    have hxs : xs = [] := by
      cases xs with
      | nil => rfl
      | cons x r => exact absurd ⟨x, r, rfl⟩ hx
    subst hxs
    have find : ∀ {vs : List Value} {ds : List PyData}, EachIs (fun v d => ∃ as, Reads s.heap v d as) vs ds → PyData.tuple [] ∈ ds → ∃ v ∈ vs, ∃ as, Reads s.heap v (.tuple []) as := by
      intro vs ds e
      induction e with
      | nil => intro h; cases h
      | cons h t ih =>
        intro hm
        rcases List.mem_cons.mp hm with hm | hm
        · subst hm; exact ⟨_, List.mem_cons_self, h⟩
        · obtain ⟨v, hv, q⟩ := ih hm
          exact ⟨v, List.mem_cons_of_mem _ hv, q⟩
    obtain ⟨v, hv, as, r⟩ := find e hd
    refine ⟨v, hv, ?_⟩
    cases r with
    | @tuple a o us n _ _ h1 h2 h3 h4 =>
      have hz : us.toList = [] := by
        generalize us.toList = l at h4
        cases h4
        rfl
      have hz' : us = #[] := Array.toList_inj.mp hz
      subst hz'
      show (match s.heap.get? a with
        | some o => match o.data with
          | .seq us _ => us[0]?
          | _ => none
        | none => none) = _
      rw [h1]
      simp only [h3]
      rfl
  have htype : ∀ v ∈ vs, ∀ {E : Value → Shared → Prop} {Q' : Value → Shared → Prop}, Q' (.type "tuple") s → wpAny (model prog w) A (typeOf v) Q' E s := fun v hv E Q' hq => by
    obtain ⟨a, o, us, n, rfl, h1, h2, h3⟩ := each v hv
    exact wpAny_typeOf (T := "tuple") ⟨o, h1, h2⟩ hq
  obtain ⟨v0, rest, rfl⟩ : ∃ v0 rest, vs = v0 :: rest := by
    cases vs with
    | nil => obtain ⟨v, hv, _⟩ := hnone; cases hv
    | cons v r => exact ⟨v, r, rfl⟩
  refine ⟨fun v hv => ?_, if (g v0).isSome = true then general' else oneType', ?_, fun _ E Q hq => ?_⟩
  · obtain ⟨d, hd, as, r⟩ := e.left v hv
    exact ⟨_, dataKind_some hal hd r⟩
  · by_cases c : (g v0).isSome = true
    · rw [if_pos c]; exact lt false
    · rw [if_neg c]; exact lt true
  · rw [kat_kind_eq, List.mapM_toArray, map_eq_pure_bind]
    refine wpAny_bind (wpAny_bind (map_looks (g := g) _ (fun v hv Q' hq' => hfirst v hv hq') (wpAny_pure ?_)))
    have hall : (((v0 :: rest).map g).toArray.all fun x => x.isSome) = false := by
      obtain ⟨v, hv, hg⟩ := hnone
      rw [List.all_toArray, List.all_eq_false]
      exact ⟨none, List.mem_map.mpr ⟨v, hv, hg⟩, by simp⟩
    rw [hall]
    simp only [Bool.false_eq_true, if_false]
    have h0 : (((v0 :: rest).map g).toArray)[0]? = some (g v0) := by simp
    refine wpAny_bind (wpAny_pure ?_)
    rw [h0]
    show wpAny _ _ (if ((some (g v0)).bind id).isSome = true then _ else _) _ _ _
    have hb : ((some (g v0)).bind id) = g v0 := rfl
    rw [hb]
    by_cases c : (g v0).isSome = true
    · rw [if_pos c] at hq ⊢
      exact wpAny_pure hq
    · rw [if_neg c] at hq ⊢
      have one : ∀ {Q' : Option Value → Shared → Prop}, Q' (some (.type "tuple")) s → wpAny (model prog w) A (oneTypeOnly' (v0 :: rest).toArray) Q' E s := fun {Q'} hq' => by
        rw [oneTypeOnly'_eq, List.mapM_toArray, map_eq_pure_bind]
        refine wpAny_bind (wpAny_bind (map_looksV (g := fun _ => .type "tuple") _ (fun v hv Q' hq' => htype v hv hq') (wpAny_pure ?_)))
        have e0 : (((v0 :: rest).map fun _ => Value.type "tuple").toArray)[0]? = some (.type "tuple") := by simp
        have ea : ((((v0 :: rest).map fun _ => Value.type "tuple").toArray).all fun x => x == Value.type "tuple") = true := by
          rw [List.all_toArray, List.all_eq_true]
          intro x hx
          obtain ⟨_, _, rfl⟩ := List.mem_map.mp hx
          rfl
        rw [e0]
        simp only [ea, if_true]
        exact wpAny_pure hq'
      exact wpAny_bind (one (wpAny_pure hq))
end
end RM
end
section
set_option Elab.async false
set_option linter.all false
set_option maxRecDepth 100000
set_option autoImplicit false
/-! the built-in functions -/
namespace RM
open PySem PySem.Spec PyProof.Rows L2

section
variable {prog : Program} {w : World} {A : Around} {E : Value → Shared → Prop} {s : Shared}
open PySem.W in
/-- a list or a tuple collected into a new list -/
theorem collect_seq {l : Addr} {o : Obj} {T : String} {vs : List Value} {n : Nat} {Q : List Value → Shared → Prop} (hT : T = "list" ∨ T = "tuple") (ho : s.heap.get? l = some o) (hc : o.cls = .type T) (hd : o.data = .seq vs.toArray n) (hz : vs.length ≤ sizeLine)
    (h : Q vs { s with heap := (s.heap.push (seqObj "list" #[] 0)).update s.heap.objs.size (Obj.mapSeq (· ++ vs.toArray)) }) : wpAny (model prog w) A (collect (.ref l)) Q E s := by
  have hn : (s.heap.push (seqObj "list" #[] 0)).get? s.heap.objs.size = some (seqObj "list" #[] 0) := Heap.get?_push_size _ rfl
  have ho' : (s.heap.push (seqObj "list" #[] 0)).get? l = some o := Heap.get?_push_of_some _ ho
  unfold collect
  refine wpAny_bind (wpAny_runValue (codeAny_builtin entry_proto_collect' ?_))
  show wpAny _ _ (do again (.builtin "list.__iadd__" ⟨[← newList [], .ref l], []⟩)) _ _ s
  refine wpAny_bind (wpAny_newList (wpAny_pure ?_))
  refine ⟨Code.quiet_builtin _ (by decide +kernel), codeAny_builtin entry_list_iadd' ?_⟩
  show wpAny _ _ (Builtin.List.listExtendWith (.ref s.heap.objs.size) (.ref l) (.ref s.heap.objs.size)) _ _ { s with heap := s.heap.push (seqObj "list" #[] 0) }
  unfold Builtin.List.listExtendWith
  refine wpAny_bind (wpAny_typeOf (T := T) ⟨o, ho', hc⟩ ?_)
  have yes : (Builtin.List.listSameRef (.ref s.heap.objs.size) (.ref l) || Value.type T == .type "list" || Value.type T == .type "tuple") = true := by
    rcases hT with rfl | rfl
    · have : (Value.type "list" == Value.type "list") = true := rfl
      rw [this]
      simp
    · have : (Value.type "tuple" == Value.type "tuple") = true := rfl
      rw [this]
      simp
  rw [if_pos yes]
  refine wpAny_bind (listItems_at ho' hd (wpAny_bind (listItems_at (xs := #[]) (n := 0) hn rfl ?_)))
  rw [if_neg (by simp)]
  refine wpAny_bind (listUpdate_at (xs := #[]) (n := 0) hn rfl ?_ (Nat.zero_le _) ?_)
  · refine wpAny_pure ?_
    show wpAny (model prog w) A (do
        let o ← load s.heap.objs.size
        match o.data with
        | .seq xs _ => pure xs.toList
        | _ => unsupported "internal:collect") Q E _
    refine wpAny_bind (wpAny_load (get?_update_seq hn _) ?_)
    have el : ((#[] : Array Value) ++ vs.toArray).toList = vs := by simp
    show wpAny _ _ (pure ((#[] : Array Value) ++ vs.toArray).toList) Q E _
    rw [el]
    exact wpAny_pure h
  · show ((#[] : Array Value) ++ vs.toArray).size ≤ sizeLine + 1
    simp
    omega

open PySem.W in
theorem sorted_seq {l : Addr} {o : Obj} {T : String} {vs : List Value} {n : Nat} {κ : PyProof.Rows.KeyKind} {Q : Value → Shared → Prop} (hT : T = "list" ∨ T = "tuple") (ho : s.heap.get? l = some o) (hc : o.cls = .type T) (hd : o.data = .seq vs.toArray n) (hz : vs.length ≤ sizeLine)
    (hs : SortsAt prog w A.in1.in1 { s with heap := sortingHeap (copyHeap s.heap vs) (s.heap.objs.size + 1) vs } κ vs)
    (h : Q (.ref (s.heap.objs.size + 1)) { s with heap := sortedAll s.heap vs (sortVals κ false vs vs).toArray }) : wpAny (model prog w) A (call (.builtin "sorted") [.ref l]) Q E s := by
  refine call_function_entry_kw kind_sorted plain_sorted entry_sorted (args_sorted1 _) ?_
  unfold Builtin.«sorted»
  refine wpAny_bind (m := checkCount "sorted" 1 1 _) (wpAny_pure ?_)
  refine wpAny_bind (collect_seq hT ho hc hd hz (wpAny_bind (wpAny_newList ?_ hz)))
  have hsz : ((s.heap.push (seqObj "list" #[] 0)).update s.heap.objs.size (Obj.mapSeq (· ++ vs.toArray))).objs.size = s.heap.objs.size + 1 := by
    rw [Heap.size_update, size_push']
  show wpAny _ _ _ _ _ { s with heap := copyHeap s.heap vs }
  rw [hsz]
  refine wpAny_bind (wpAny_holding (wpAny_call_entry_kw slot_list_sort ⟨_, copyHeap_at s.heap vs, rfl⟩ entry_list_sort ?_ (args_list_sort _)))
  refine wpAny_mono (list_sort_vals (s := { s with heap := copyHeap s.heap vs }) (P := fun f s' => f = .done (.ret .none) ∧ Q (.ref (s.heap.objs.size + 1)) s') (copyHeap_at s.heap vs) hs hz ⟨rfl, h⟩) (fun f s' hf => ?_) fun _ _ z => z
  obtain ⟨rfl, hq⟩ := hf
  exact ⟨_, rfl, wpAny_pure ⟨_, rfl, hq⟩⟩

theorem repr_any {v : Value} {d : PyData} {as : List Addr} {Q : Value → Shared → Prop} (r : Reads s.heap v d as) (hs : d.showable = true) (hd : sysModules ∉ as) (hg : A.guards = some []) (hu : A.units + (d.depth + 1) < cLine) (hz : d.shown.length ≤ sizeLine)
    (hQ : ∀ h' u tk, (∀ b o, s.heap.get? b = some o → h'.get? b = some o) → Q (.str d.shown u) { s with heap := h', toks := tk }) : wpAny (model prog w) A (call (.builtin "repr") [v]) Q E s := by
  cases r with
  | none => exact P.repr_of_none (hQ s.heap _ _ fun _ _ e => e)
  | bool b => exact P.repr_of_bool (hQ s.heap _ _ fun _ _ e => e)
  | int i t => exact P.repr_of_int (by simpa [PyData.showable] using hs) (hQ s.heap _ _ fun _ _ e => e)
  | str x t => exact P.repr_of_str (hQ s.heap _ _ fun _ _ e => e) hz
  | list h1 h2 h3 h4 => exact repr_of_reads' (.list h1 h2 h3 h4) hs (fun _ => hd) hg hu (fun _ _ e => e) hQ hz
  | tuple h1 h2 h3 h4 => exact repr_of_reads' (.tuple h1 h2 h3 h4) hs (fun _ => hd) hg hu (fun _ _ e => e) hQ hz
  | dict h1 h2 h3 h4 h5 => exact repr_of_reads' (.dict h1 h2 h3 h4 h5) hs (fun _ => hd) hg hu (fun _ _ e => e) hQ hz
end

section
variable {X : Cx} {Y : Tx} {pins : List (Addr × Obj)} {σ : L2.St} {H : Hp} {s : Shared} {G : Gh}
mutual
theorem RD.shows (hK : X.K = Y.K) (h1 : H sysModules = none) (I : Inv X pins σ H s) : ∀ {d : D} {v : V} {u : Value}, d.shw = true → RD Y G H v d → RelV v u → ∃ as, Reads s.heap u d.pd as ∧ sysModules ∉ as
  | .non, _, _, _, r, ru => by cases r; cases ru; exact ⟨_, Reads.none, by simp⟩
  | .bl b, _, _, _, r, ru => by cases r; cases ru; exact ⟨_, Reads.bool b, by simp⟩
  | .int i, _, _, _, r, ru => by cases r; obtain ⟨t, rfl⟩ := ru; exact ⟨_, Reads.int i t, by simp⟩
  | .str x, _, _, _, r, ru => by cases r; obtain ⟨t, rfl⟩ := ru; exact ⟨_, Reads.str x t, by simp⟩
  | .tup xs, _, _, p, r, ru => by
    cases r with
    | @tup a vs _ h rs =>
      cases ru
      obtain ⟨its, rv, ⟨o, ho, hc, n, hd⟩, _⟩ := I.tuple (show SqT X.K H a vs by rw [hK]; exact h)
      obtain ⟨as, q, n1⟩ := RDs.shows hK h1 I (by simpa [D.shw] using p) rs rv
      exact ⟨as, Reads.tuple ho hc hd (by simpa using q), n1⟩
  | .lst xs, _, _, p, r, ru => by
    cases r with
    | @lst a vs _ h f rs =>
      cases ru
      obtain ⟨its, rv, ⟨o, n, ho, hc, _, hd⟩, _⟩ := I.list (SqL.of (K := X.K) h)
      obtain ⟨as, q, n1⟩ := RDs.shows hK h1 I (by simpa [D.shw] using p) rs rv
      refine ⟨a :: as, Reads.list ho hc hd (by simpa using q), fun z => ?_⟩
      rcases List.mem_cons.mp z with z | z
      · rw [← z, h1] at h; cases h
      · exact n1 z
  | .dct kvs, _, _, p, r, ru => by
    cases r with
    | @dct0 a h f =>
      cases ru
      obtain ⟨_, hS, vs, kv, o, es, ep, ho, hx, hd, _, he, _⟩ := (show ObjOk X.prog X.w H s.heap a (.dK []) from I.hok a _ h)
      cases kv
      have he' : es = #[] := by
        have : es.toList = [] := by
          generalize es.toList = l at he
          cases he; rfl
        exact Array.toList_eq_nil_iff.mp this
      subst he'
      refine ⟨[a], ?_, fun z => ?_⟩
      · have q := Reads.dict (h := s.heap) (a := a) (kvs := []) ho hx.1 hd .nil .nil
        exact q
      · rw [← List.mem_singleton.mp z, h1] at h; cases h
  | .ins _ _, _, _, p, _, _ => by simp [D.shw] at p
  | .exc _ _, _, _, p, _, _ => by simp [D.shw] at p
  | .scr _, _, _, p, _, _ => by simp [D.shw] at p
  | .loc _, _, _, p, _, _ => by simp [D.shw] at p
  | .drw, _, _, p, _, _ => by simp [D.shw] at p
theorem RDs.shows (hK : X.K = Y.K) (h1 : H sysModules = none) (I : Inv X pins σ H s) : ∀ {ds : List D} {vs : List V} {us : List Value}, D.shws ds = true → RDs Y G H vs ds → Vals vs us → ∃ as, ReadsAll s.heap us (D.pds ds) as ∧ sysModules ∉ as
  | [], _, _, _, r, ru => by cases r; cases ru; exact ⟨_, ReadsAll.nil, by simp⟩
  | d :: ds, _, _, p, r, ru => by
    have p' : d.shw = true ∧ D.shws ds = true := by simpa [D.shws] using p
    cases r with
    | cons r rs =>
      cases ru with
      | cons q qs =>
        obtain ⟨as, q1, n1⟩ := RD.shows hK h1 I p'.1 r q
        obtain ⟨bs, q2, n2⟩ := RDs.shows hK h1 I p'.2 rs qs
        exact ⟨_, ReadsAll.cons q1 q2, fun z => (List.mem_append.mp z).elim n1 n2⟩
end
theorem RV.shows (hK : X.K = Y.K) (h1 : H sysModules = none) (I : Inv X pins σ H s) {d : D} {v : V} {u : Value} (p : d.shw = true) (r : RV Y G H v d) (ru : RelV v u) : ∃ as, Reads s.heap u d.pd as ∧ sysModules ∉ as := by
  rcases r with r | ⟨a, vs, ds, rfl, rfl, h, m, rs⟩
  · exact r.shows hK h1 I p ru
  · cases ru
    obtain ⟨its, rv, ⟨o, n, ho, hc, _, hd⟩, _⟩ := I.list (SqL.of (K := X.K) h)
    obtain ⟨as, q, n1⟩ := RDs.shows hK h1 I (by simpa [D.shw] using p) rs rv
    refine ⟨a :: as, Reads.list ho hc hd (by simpa using q), fun z => ?_⟩
    rcases List.mem_cons.mp z with z | z
    · rw [← z, h1] at h; cases h
    · exact n1 z
end

/-- the values by place -/
theorem each_of {Y : Tx} {G : Gh} {H : Hp} : ∀ {vs : List V} {ds : List D} {us : List Value}, RDs Y G H vs ds → Vals vs us → PySem.W.EachIs (fun u (p : V × D) => RelV p.1 u ∧ RD Y G H p.1 p.2) us (vs.zip ds)
  | _, _, _, .nil, .nil => .nil
  | _, _, _, .cons h r, .cons q t => .cons ⟨q, h⟩ (each_of r t)
theorem each_vals {R : Value → V × D → Prop} (hR : ∀ u p, R u p → RelV p.1 u) : ∀ {us : List Value} {ps : List (V × D)}, PySem.W.EachIs R us ps → Vals (ps.map (·.1)) us
  | _, _, .nil => .nil
  | _, _, .cons h r => .cons (hR _ _ h) (each_vals hR r)
theorem each_rds {Y : Tx} {G : Gh} {H : Hp} {R : Value → V × D → Prop} (hR : ∀ u p, R u p → RD Y G H p.1 p.2) : ∀ {us : List Value} {ps : List (V × D)}, PySem.W.EachIs R us ps → RDs Y G H (ps.map (·.1)) (ps.map (·.2))
  | _, _, .nil => .nil
  | _, _, .cons h r => .cons (hR _ _ h) (each_rds hR r)
theorem pures_mem : ∀ {ds : List D}, D.pures ds = true → ∀ d ∈ ds, d.pure = true
  | [], _, _, h => by cases h
  | x :: xs, p, d, h => by
    have p' : x.pure = true ∧ D.pures xs = true := by simpa [D.pures] using p
    rcases List.mem_cons.mp h with rfl | h
    · exact p'.1
    · exact pures_mem p'.2 d h

section
variable {Y : Tx} {k : Nat} {hot : Bool} {X : Cx}
open PySem.W in
theorem or_sorted (ox : XOk Y k hot X) {pins : List (Addr × Obj)} {s : Shared} {σ : L2.St} {H : Hp} {G : Gh} {S : Sto} {a : Addr} {vs : List V} {xs : List D} {Q : VK} (I : Inv X pins σ H s) (ok : GOk Y G H S) (hq : SqL X.K H a vs ∨ SqT X.K H a vs) (rv : RDs Y G H vs xs)
    (hs : sortable xs = true) (q : ∀ p, H p = none → Q (.ref p) (upd H p (.lst (((vs.zip xs).mergeSort fun x y => leD x.2 y.2).map (·.1)))))
    : wpAny (model X.prog X.w) X.A (call (.builtin "sorted") [.ref a]) (EP X pins σ Q) X.xe s := by
  simp only [sortable, Bool.and_eq_true, List.all_eq_true, decide_eq_true_eq, Bool.not_eq_true'] at hs
  obtain ⟨⟨hp, hal⟩, hn⟩ := hs
  obtain ⟨its, o, T, n, r, hT, ho, hc, hd, hz⟩ : ∃ (its : List Value) (o : Obj) (T : String) (n : Nat), Vals vs its ∧ (T = "list" ∨ T = "tuple") ∧ s.heap.get? a = some o ∧ o.cls = .type T ∧ o.data = .seq its.toArray n ∧ vs.length ≤ sizeLine := by
    rcases hq with hq | hq
    · obtain ⟨its, r, ⟨o, n, ho, hc, _, hd⟩, hz⟩ := I.list hq
      exact ⟨its, o, "list", n, r, .inl rfl, ho, hc, hd, hz⟩
    · obtain ⟨its, r, ⟨o, ho, hc, n, hd⟩, hz⟩ := I.tuple hq
      exact ⟨its, o, "tuple", n, r, .inr rfl, ho, hc, hd, hz⟩
  have hlen := r.length
  have hu := ox.units
  have ea := each_of rv r
  have em : ∀ p ∈ vs.zip xs, p.2 ∈ xs := fun p hp' => (List.of_mem_zip hp').2
  -- the heap in which list.sort compares
  have keepS : ∀ b ob, s.heap.get? b = some ob → (sortingHeap (copyHeap s.heap its) (s.heap.objs.size + 1) its).get? b = some ob := fun b ob e => sorting_copy_old e
  have er : EachIs (fun v (p : V × D) => ∃ as, Reads (sortingHeap (copyHeap s.heap its) (s.heap.objs.size + 1) its) v p.2.pd as) its (vs.zip xs) := (each_mem ea).mono fun u p ⟨⟨r1, r2⟩, hm⟩ => by
    obtain ⟨as, rr⟩ := ox.reads (G := G) (d := p.2) I (pures_mem hp _ (em p hm)) r2.rv r1
    exact ⟨as, PyProof.Rows.Reads.keeps keepS rr⟩
  have hAll : AllAlike ((vs.zip xs).map fun p => p.2.pd) := by
    intro d hd d' hd'
    obtain ⟨p, hp1, rfl⟩ := List.mem_map.mp hd
    obtain ⟨p', hp2, rfl⟩ := List.mem_map.mp hd'
    exact hal _ (em p hp1) _ (em p' hp2)
  have hU : ∀ d, d ∈ ((vs.zip xs).map fun p => p.2.pd) → X.A.in1.in1.units + d.depth < cLine := fun d hd => by
    obtain ⟨p, hp1, rfl⟩ := List.mem_map.mp hd
    have := (hn _ (em p hp1)).2
    show X.A.units + 1 + 1 + _ < cLine
    omega
  have sorts : SortsAt X.prog X.w X.A.in1.in1 { s with heap := sortingHeap (copyHeap s.heap its) (s.heap.objs.size + 1) its } (dataKind (sortingHeap (copyHeap s.heap its) (s.heap.objs.size + 1) its) ((vs.zip xs).map fun p => p.2.pd)) its := by
    have e2 := each_map (R := fun v d => ∃ as, Reads (sortingHeap (copyHeap s.heap its) (s.heap.objs.size + 1) its) v d as) (fun p : V × D => p.2.pd) er
    by_cases ht : ∃ d ∈ ((vs.zip xs).map fun p => p.2.pd), ∃ zs, d = .tuple zs
    · obtain ⟨d0, h0, zs, rfl⟩ := ht
      refine sorts_tuples (s := { s with heap := sortingHeap (copyHeap s.heap its) (s.heap.objs.size + 1) its }) e2 hAll (fun d hd => ?_) hU
      have := hAll _ h0 d hd
      cases d <;> first | exact ⟨_, rfl⟩ | exact absurd this (by simp [alike])
    · refine SortsAt.data (s := { s with heap := sortingHeap (copyHeap s.heap its) (s.heap.objs.size + 1) its }) e2 hAll (.inr fun d hd => ⟨?_, fun zs e => ht ⟨d, hd, zs, e⟩⟩) hU
      obtain ⟨p, hp1, rfl⟩ := List.mem_map.mp hd
      exact isNon_pd (pures_mem hp _ (em p hp1)) (hn _ (em p hp1)).1
  refine sorted_seq hT ho hc hd (by omega) sorts ?_
  have out := sortVals_data (h' := sortingHeap (copyHeap s.heap its) (s.heap.objs.size + 1) its) (R := fun u (p : V × D) => RelV p.1 u) (enc := fun p : V × D => p.2.pd) false (ea.mono fun _ _ z => z.1) er hAll
  have le_eq : (dataLe false fun p : V × D => p.2.pd) = fun x y : V × D => leD x.2 y.2 := by
    rw [dataLe_eq]
    rfl
  rw [le_eq] at out
  have vals := each_vals (fun _ _ z => z) out
  obtain ⟨ep, he'⟩ := sortedAll_at s.heap its (sortVals (dataKind (sortingHeap (copyHeap s.heap its) (s.heap.objs.size + 1) its) ((vs.zip xs).map fun p => p.2.pd)) false its its).toArray
  have hl2 : (((vs.zip xs).mergeSort fun x y => leD x.2 y.2).map (·.1)).length ≤ sizeLine := by
    rw [List.length_map, List.length_mergeSort, List.length_zip]
    omega
  exact ⟨.ref _, _, I.laid (o := .lst (((vs.zip xs).mergeSort fun x y => leD x.2 y.2).map (·.1))) (t' := s.toks) (fun _ _ => sortedAll_old) (Nat.le_succ _) ⟨hl2, _, ep, vals, he'⟩, rfl, q _ (I.hok.fresh (Nat.le_succ _))⟩
theorem rds_zip {Y : Tx} {G : Gh} {H : Hp} : ∀ {vs : List V} {ds : List D}, RDs Y G H vs ds → ∀ p ∈ vs.zip ds, RD Y G H p.1 p.2
  | _, _, .nil, p, h => by cases h
  | _, _, .cons h r, p, hp => by
    rcases List.mem_cons.mp hp with rfl | hp
    · exact h
    · exact rds_zip r p hp
theorem rds_map {Y : Tx} {G : Gh} {H : Hp} : ∀ {ps : List (V × D)}, (∀ p ∈ ps, RD Y G H p.1 p.2) → RDs Y G H (ps.map (·.1)) (ps.map (·.2))
  | [], _ => .nil
  | p :: ps, h => .cons (h p List.mem_cons_self) (rds_map fun q hq => h q (List.mem_cons_of_mem _ hq))
theorem rds_sorted {Y : Tx} {G : Gh} {H : Hp} {vs : List V} {ds : List D} (r : RDs Y G H vs ds) : RDs Y G H (((vs.zip ds).mergeSort fun x y => leD x.2 y.2).map (·.1)) (ds.mergeSort leD) := by
  have e : ((vs.zip ds).mergeSort fun x y => leD x.2 y.2).map (·.2) = ds.mergeSort leD := by
    rw [PySem.W.sort_maps (s := leD) (fun p : V × D => p.2) fun _ _ _ _ => rfl, List.map_snd_zip (by rw [r.length]; exact Nat.le_refl _)]
  rw [← e]
  exact rds_map fun p hp => rds_zip r p ((List.mergeSort_perm _ _).mem_iff.mp hp)

/-- a built-in by values -/
def rBi (Y : Tx) (kin : Kin) (b : Bi) : List V → Hp → VK → Prop := fun vs H Q => ∃ G S ds d, GOk Y G H S ∧ Paired (RV Y G H) vs ds ∧ biD kin b ds = some d ∧ ∀ G' H' u, Ext G H G' H' → GOk Y G' H' S → RD Y G' H' u d → Q u H'
def Bi.val : Bi → Value
  | .len => .builtin "len"
  | .all => .builtin "all"
  | .any => .builtin "any"
  | .tuple => .type "tuple"
  | .list => .type "list"
  | .sorted => .builtin "sorted"
  | .min2 => .builtin "min"
  | .max2 => .builtin "max"
  | .sum => .builtin "sum"
  | .repr => .builtin "repr"
  | .int1 => .type "int"
  | .isi _ => .builtin "isinstance"
def Bi.plain : Bi → Bool
  | .isi _ => false
  | _ => true
theorem bools_map : ∀ {xs : List D} {bs : List Bool}, bools xs = some bs → ∀ {Y G H vs}, RDs Y G H vs xs → vs = bs.map V.bl
  | [], bs, h, _, _, _, _, r => by cases h; cases r; rfl
  | x :: xs, bs, h, _, _, _, _, r => by
    cases r with
    | cons h1 r =>
      cases x <;> simp only [bools] at h <;> try (cases h; done)
      cases e : bools xs with
      | none => rw [e] at h; cases h
      | some cs =>
        rw [e] at h
        cases h
        cases h1
        rw [bools_map e r]
        rfl
theorem ints_map : ∀ {xs : List D} {bs : List Int}, intsD xs = some bs → ∀ {Y G H vs}, RDs Y G H vs xs → vs = bs.map V.int
  | [], bs, h, _, _, _, _, r => by cases h; cases r; rfl
  | x :: xs, bs, h, _, _, _, _, r => by
    cases r with
    | cons h1 r =>
      cases x <;> simp only [intsD] at h <;> try (cases h; done)
      cases e : intsD xs with
      | none => rw [e] at h; cases h
      | some cs =>
        rw [e] at h
        cases h
        cases h1
        rw [ints_map e r]
        rfl
theorem rds_ints {Y : Tx} {G : Gh} {H : Hp} : ∀ ns : List Int, RDs Y G H (ns.map V.int) (ns.map RM.D.int)
  | [] => .nil
  | n :: ns => .cons (.int n) (rds_ints ns)
theorem RV.scr {Y : Tx} {G : Gh} {H : Hp} {v : V} {ns : List Int} (r : RV Y G H v (.scr ns)) : ∃ a, v = .ref a ∧ Scr Y.K H a ns := by
  rcases r with r | ⟨_, _, _, _, e, _⟩
  · cases r with
    | scr h => exact ⟨_, rfl, h⟩
  · cases e
theorem RV.items {Y : Tx} {G : Gh} {H : Hp} {v : V} {x : D} {xs : List D} (r : RV Y G H v x) (e : itemsD x = some xs) : ∃ a vs, v = .ref a ∧ (SqL Y.K H a vs ∨ SqT Y.K H a vs) ∧ RDs Y G H vs xs := by
  cases x <;> simp only [itemsD] at e <;> try (cases e; done)
  · cases e
    obtain ⟨a, vs, h1, h2, h3⟩ := r.tup
    exact ⟨a, vs, h1, .inr h2, h3⟩
  · cases e
    obtain ⟨a, vs, h1, h2, h3⟩ := r.lst
    exact ⟨a, vs, h1, .inl (.of h2), h3⟩
  · cases e
    obtain ⟨a, h1, h2⟩ := r.scr
    exact ⟨a, _, h1, .inl h2.seq, rds_ints _⟩
theorem pair1 {α β : Type} {F : α → β → Prop} {vs : List α} {d : β} (r : Paired F vs [d]) : ∃ v, vs = [v] ∧ F v d := by
  cases r with
  | cons h t => cases t; exact ⟨_, rfl, h⟩
theorem pair2 {α β : Type} {F : α → β → Prop} {vs : List α} {d e : β} (r : Paired F vs [d, e]) : ∃ v w, vs = [v, w] ∧ F v d ∧ F w e := by
  cases r with
  | cons h t =>
    cases t with
    | cons h2 t => cases t; exact ⟨_, _, rfl, h, h2⟩
/-- what may be asked within an except suite too -/
def Bi.cold : Bi → Bool
  | .all => false
  | .any => false
  | .min2 => false
  | .max2 => false
  | .sum => false
  | _ => true
theorem or_bi (ox : XOk Y k hot X) (kin : Kin) (b : Bi) (hb : b.plain = true) (hh : hot = false ∨ b.cold = true) : CallR X b.val (rBi Y kin b) := by
  intro pins s σ H vs us Q I rv ⟨G, S, ds, d, ok, r, e, q⟩
  have scalar : ∀ z : V, (∀ G H, RD Y G H z d) → Q z H := fun z hz => q G H z Ext.refl ok (hz G H)
  have hK := ox.hK
  have hu := ox.units
  have calm : b.cold = false → X.calm = true := fun z => ox.calm (hh.elim id fun q => by rw [z] at q; cases q)
  cases b with
  | isi ts => cases hb
  | len =>
    match ds, e, r with
    | [x], e, r =>
      obtain ⟨v, rfl, r0⟩ := pair1 r
      have e : lenD x = some d := e
      refine call_len pins s σ H _ us Q I rv ?_
      cases x <;> simp only [lenD] at e <;> try (cases e; done)
      · split at e
        · rename_i hz
          cases e
          cases r0.str
          exact ⟨_, _, rfl, ⟨hz, rfl⟩, scalar _ fun _ _ => .int _⟩
        · cases e
      · cases e
        obtain ⟨a, ws, rfl, h1, h2⟩ := r0.tup
        refine ⟨_, ws.length, rfl, .inr ⟨ws, by rw [hK]; exact h1, rfl⟩, ?_⟩
        rw [h2.length]
        exact scalar _ fun _ _ => .int _
      · cases e
        obtain ⟨a, ws, rfl, h1, h2⟩ := r0.lst
        refine ⟨_, ws.length, rfl, .inl ⟨ws, .of h1, rfl⟩, ?_⟩
        rw [h2.length]
        exact scalar _ fun _ _ => .int _
      · cases e
        rcases r0 with r1 | ⟨_, _, _, _, z, _⟩
        · cases r1 with
          | @scr a _ h1 =>
            refine ⟨_, _, rfl, .inl ⟨_, by rw [hK]; exact h1.seq, by simp⟩, scalar _ fun _ _ => .int _⟩
        · cases z
  | all =>
    match ds, e, r with
    | [.lst xs], e, r =>
      obtain ⟨v, rfl, r0⟩ := pair1 r
      have e : (bools xs).map (fun bs => D.bl (bs.all id)) = some d := e
      cases eb : bools xs with
      | none => rw [eb] at e; cases e
      | some bs =>
        rw [eb] at e
        cases e
        obtain ⟨a, ws, rfl, h1, h2⟩ := r0.lst
        cases bools_map eb h2
        exact cr_all (calm rfl) pins s σ H _ us Q I rv ⟨a, bs, rfl, .of h1, scalar _ fun _ _ => .bl _⟩
  | any =>
    match ds, e, r with
    | [.lst xs], e, r =>
      obtain ⟨v, rfl, r0⟩ := pair1 r
      have e : (bools xs).map (fun bs => D.bl (bs.any id)) = some d := e
      cases eb : bools xs with
      | none => rw [eb] at e; cases e
      | some bs =>
        rw [eb] at e
        cases e
        obtain ⟨a, ws, rfl, h1, h2⟩ := r0.lst
        cases bools_map eb h2
        exact cr_any (calm rfl) pins s σ H _ us Q I rv ⟨a, bs, rfl, .of h1, scalar _ fun _ _ => .bl _⟩
  | tuple =>
    match ds, e, r with
    | [x], e, r =>
      obtain ⟨v, rfl, r0⟩ := pair1 r
      have e : (itemsD x).map D.tup = some d := e
      cases ei : itemsD x with
      | none => rw [ei] at e; cases e
      | some xs =>
        rw [ei] at e
        cases e
        obtain ⟨a, ws, rfl, h1, h2⟩ := r0.items ei
        refine call_tuple_of pins s σ H _ us Q I rv ⟨a, ws, rfl, ?_⟩
        rcases h1 with h1 | h1
        · exact .inl ⟨by rw [hK]; exact h1, fin_tup ok h2 q⟩
        · exact .inr ⟨by rw [hK]; exact h1, q G H _ Ext.refl ok (.tup h1 h2)⟩
  | list =>
    match ds, e, r with
    | [x], e, r =>
      obtain ⟨v, rfl, r0⟩ := pair1 r
      have e : (itemsD x).map D.lst = some d := e
      cases ei : itemsD x with
      | none => rw [ei] at e; cases e
      | some xs =>
        rw [ei] at e
        cases e
        obtain ⟨a, ws, rfl, h1, h2⟩ := r0.items ei
        exact call_list_of pins s σ H _ us Q I rv ⟨a, ws, rfl, by rw [hK]; exact h1, fin_lst ok h2 q⟩
  | sorted =>
    match ds, e, r with
    | [x], e, r =>
      obtain ⟨v, rfl, r0⟩ := pair1 r
      have e : ((itemsD x).bind fun xs => if sortable xs then some (.lst (xs.mergeSort leD)) else none) = some d := e
      cases ei : itemsD x with
      | none => rw [ei] at e; cases e
      | some xs =>
        rw [ei] at e
        have e : (if sortable xs then some (.lst (xs.mergeSort leD)) else none) = some d := e
        split at e
        · rename_i hs
          cases e
          obtain ⟨a, ws, rfl, h1, h2⟩ := r0.items ei
          obtain ⟨u, rfl, ru⟩ := vals1 rv
          cases ru
          exact or_sorted ox I ok (by rw [hK]; exact h1) h2 hs (fin_lst ok (rds_sorted h2) q)
        · cases e
  | min2 =>
    match ds, e, r with
    | [.int i, .int j], e, r =>
      obtain ⟨v, w, rfl, r1, r2⟩ := pair2 r
      cases e
      cases r1.int; cases r2.int
      exact call_min2 (calm rfl) pins s σ H _ us Q I rv ⟨i, j, rfl, scalar _ fun _ _ => .int _⟩
  | max2 =>
    match ds, e, r with
    | [.int i, .int j], e, r =>
      obtain ⟨v, w, rfl, r1, r2⟩ := pair2 r
      cases e
      cases r1.int; cases r2.int
      exact call_max2 (calm rfl) pins s σ H _ us Q I rv ⟨i, j, rfl, scalar _ fun _ _ => .int _⟩
  | sum =>
    match ds, e, r with
    | [.lst xs], e, r =>
      obtain ⟨v, rfl, r0⟩ := pair1 r
      have e : (intsD xs).map (fun is => D.int is.sum) = some d := e
      cases eb : intsD xs with
      | none => rw [eb] at e; cases e
      | some bs =>
        rw [eb] at e
        cases e
        obtain ⟨a, ws, rfl, h1, h2⟩ := r0.lst
        cases ints_map eb h2
        exact cr_sum (calm rfl) pins s σ H _ us Q I rv ⟨a, bs, rfl, .of h1, scalar _ fun _ _ => .int _⟩
  | repr =>
    match ds, e, r with
    | [x], e, r =>
      obtain ⟨v, rfl, r0⟩ := pair1 r
      have e : (if reprOk x then some (D.str x.pd.shown) else none) = some d := e
      split at e
      · rename_i hr
        cases e
        simp only [reprOk, Bool.and_eq_true, decide_eq_true_eq] at hr
        obtain ⟨⟨⟨p1, p2⟩, p3⟩, p4⟩ := hr
        obtain ⟨u, rfl, ru⟩ := vals1 rv
        obtain ⟨as, rr, ns⟩ := r0.shows hK (ox.sys.elim fun o e => (I.bs _ _ e).2) I p1 ru
        exact repr_any rr p2 ns ox.gd (by omega) (by omega) fun h' t tk kp => ⟨.str _, H, I.kept (t' := tk) kp, ⟨t, rfl⟩, scalar _ fun _ _ => .str _⟩
      · cases e
  | int1 =>
    match ds, e, r with
    | [.int i], e, r =>
      obtain ⟨v, rfl, r0⟩ := pair1 r
      cases e
      cases r0.int
      exact call_int1 pins s σ H _ us Q I rv (.inl ⟨i, rfl, scalar _ fun _ _ => .int _⟩)
end
end RM
end
section
set_option Elab.async false
set_option linter.all false
set_option maxRecDepth 100000
set_option autoImplicit false
/-! l.index(x) -/
namespace RM
open PySem PySem.Spec PyProof.Rows L2
def rIdxL (Y : Tx) : V → List V → Hp → VK → Prop := fun x xs H Q => ∃ y G S dx dy j, xs = [y] ∧ GOk Y G H S ∧ RV Y G H x dx ∧ RV Y G H y dy ∧ idxD dx dy = some j ∧ Q (.int (j : Nat)) H
theorem mt_idxL {X : Cx} {Y : Tx} {k : Nat} {hot : Bool} (o : XOk Y k hot X) : MtR X "list.index" (rIdxL Y) := by
  intro pins s σ H x xs v us Q I rx rxs h
  obtain ⟨y, G, S, dx, dy, j, rfl, ok, r1, r2, hj, q⟩ := h
  have hK := o.hK
  have hu := o.units
  cases rxs with
  | cons ry rt =>
    rename_i uy ut
    cases rt
    cases dx <;> try (simp only [idxD] at hj; cases hj; done)
    rename_i ys
    simp only [idxD] at hj
    split at hj
    · rename_i hc
      simp only [Bool.and_eq_true, decide_eq_true_eq] at hc
      obtain ⟨⟨p1, p2⟩, dp⟩ := hc
      obtain ⟨a, vs, rfl, ha, rs⟩ := r1.lst
      cases rx
      obtain ⟨bs, rb⟩ := Dp.reads I dy.pd y uy (by rw [hK]; exact r2.dp p1) ry
      obtain ⟨its, rv, ⟨⟨cls, dd, data, sls⟩, n, ho, hc, hdn, hdt⟩, hlen⟩ := I.list (.of ha)
      simp only at hc hdt
      subst hc hdt
      obtain ⟨as, h4⟩ := Dp.readsAll I (D.pds ys) _ its (by rw [hK]; exact RDs.dp p2 rs) rv
      have h4' : ReadsAll s.heap its.toArray.toList (D.pds ys) as := h4
      obtain ⟨hjl, hit, hno⟩ := PySem.SeqAt.hit_at h4' (pures_plain ys p2) hj
      have hsl := sizeLine_eq
      have hvl := rv.length
      have hjj : j < its.length := by simpa using hjl
      exact call_meets PySem.F.slot_list_index ⟨_, ho, rfl⟩ PySem.F.entry_list_index (PySem.F.args_list_index_2 _ _)
        (SeqAt.list_indexAt a its.toArray n dd sls uy (fun u => PyData.eqv (SeqAt.readOf s.heap u) dy.pd) j hjl (by omega) hit hno)
        ⟨ho, PySem.SeqAt.items_plain h4' rb (pures_plain ys p2) (pure_plain dy p1) (by omega), ⟨.int (j : Nat), H, I.tok _, ⟨_, rfl⟩, q⟩⟩
    · cases hj
end RM
end
section
set_option Elab.async false
set_option linter.all false
set_option maxRecDepth 100000
set_option autoImplicit false
/-! defs called: a promise by positional arguments, no repr around -/
namespace RM
open PySem PySem.Spec PyProof.Rows L2

structure FnG (P : Program) (w : World) (K : PySem.W.Frag) (mg : Str → Option Value) (base : Heap) (k : Nat) (f : Addr) (n : Nat) (sp : Sp) : Prop where
  len : ∀ vs H Q E, sp vs H Q E → vs.length = n
  run : ∀ (A : Around) (outer : List Env) (s : Shared) (H : Hp) (us : List Value) (vs : List V) (Q : VK) (E : XK), Room k A → A.guards = some [] → Env0 P w K mg base A outer s H → Vals vs us → sp vs H Q E →
    codeAny (model P w) A (.call (.ref f) ⟨us, []⟩) (CR (L2.CX P w) outer P w H s Q E) s
section
variable {P : Program} {w : World} {K : PySem.W.Frag} {mg : Str → Option Value} {base : Heap} {k j n : Nat} {f : Addr} {sp sp' : Sp}
theorem FnG.mono (F : FnG P w K mg base j f n sp) (h : j ≤ k) : FnG P w K mg base k f n sp := ⟨F.len, fun A outer s H us vs Q E hr => F.run A outer s H us vs Q E (hr.mono h)⟩

/-- by its body -/
theorem FnG.of {name qual : Str} {params : Arguments} {body : List Stmt} {scope : Scope} {dV kV doc pm cdv ct oc : Value} {an od : Option Addr} {osl : Array (Option Value)} {N ps : List Str}
    (lk : K.lookup f = some ⟨oc, od, .func (PySem.W.fnOf name qual params body scope dV kV doc pm an cdv ct), osl⟩) (hcd : PySem.W.codeIn K cdv qual = true) (sc : FnScope N ps scope)
    (hb : Binds K (PySem.W.fnOf name qual params body scope dV kV doc pm an cdv ct) ps []) (len : ∀ vs H Q E, sp vs H Q E → vs.length = ps.length)
    (hbody : ∀ (A : Around) (outer : List Env) (s : Shared) (H : Hp) (vs : List V) (Q : VK) (E : XK), Room k (A.deeper (envOfC qual scope s.heap.objs.size f cdv)) → (A.deeper (envOfC qual scope s.heap.objs.size f cdv)).guards = some [] → sp vs H Q E →
      ∃ t, PSs (cxOf (L2.CX P w) P w K mg base N qual scope f cdv A outer s H E) body t ∧ t { nx := fun _ H' => Q .non H', rt := Q } (start N vs) H) :
    FnG P w K mg base (k + 1) f ps.length sp := by
  refine ⟨len, fun A outer s H us vs Q E hr hg e0 r hsp => ?_⟩
  have hl : vs.length = ps.length := len _ _ _ _ hsp
  have hu : us.length = ps.length := by rw [← r.length]; exact hl
  have KX : K.In s.heap := e0.mod.kin.keeps fun b o e => (e0.bs b o e).1
  have lim : s.heap.NoLimit := e0.mod.nolimit.keeps fun b o e => (e0.bs b o e).1
  have bnd := hb s us KX (by rw [List.append_nil]; exact hu)
  rw [List.append_nil] at bnd
  have kinds : ∀ y ∈ ps.zip us, scope.names.lookup y.1 = some .local ∨ (scope.names.lookup y.1 = some .cell ∧ ((cellsFrom (s.heap.objs.size + 1) scope.names []).lookup y.1).isSome = true) := by
    intro y hy
    rcases sc.par y.1 (List.of_mem_zip (a := y.1) (b := y.2) hy).1 with q | q
    · exact .inl q
    · exact .inr ⟨q, PySem.W.cellsFrom_some _ _ _ (.inl q)⟩
  refine codeAny_call_function hr.depth (KX _ _ lk) rfl sc.co sc.gen rfl (PySem.W.codeRec_of KX hcd) (bnd _ _ _ _ ?_)
  refine wpAny_newFunctionEnv_cells sc.kind kinds fun env he s1 x => ?_
  subst he
  refine ⟨lim.keeps x.toInCall.keep, codeAny_func ?_⟩
  obtain ⟨t, ht, hq⟩ := hbody A outer s H vs Q E (hr.deeper _) hg hsp
  have I : Inv (cxOf (L2.CX P w) P w K mg base N qual scope f cdv A outer s H E) [] (start N vs) H s1 := inv_start sc hr.hd e0 hl r x
  refine wpAny_mono (ht.run [] s1 (start N vs) H _ I hq) (fun fl s' hs => ?_) fun _ _ z => z
  cases fl with
  | ret u =>
    obtain ⟨v, σ', H', J, rv, q⟩ := hs
    exact ⟨v, H', J.os, J.bare, J.base, J.hok, rv, q⟩
  | next =>
    obtain ⟨σ', H', J, q⟩ := hs
    exact ⟨.non, H', J.os, J.bare, J.base, J.hok, rfl, q⟩
  | brk => exact hs.elim fun _ z => z.elim fun _ z => z.2.elim
  | cont => exact hs.elim fun _ z => z.elim fun _ z => z.2.elim
end

section
variable {X : Cx} {k n : Nat} {f : Addr} {sp : Sp} {W : WX}
/-- the callee runs -/
theorem run_g {pins : List (Addr × Obj)} {σ : L2.St} {H : Hp} {s : Shared} {Q : VK} {us : List Value} {vs : List V} (F : FnG X.prog X.w X.K X.mg X.base k f n sp) (hr : Room k X.A) (hg : X.A.guards = some []) (tk : Takes X W)
    (I : Inv X pins σ H s) (r : Vals vs us) (h : sp vs H Q (WE W σ)) : wpAny (model X.prog X.w) X.A (call (.ref f) us) (EP X pins σ Q) X.xe s := by
  refine wpAny_call (codeAny_mono (F.run X.A X.stack s H us vs Q (WE W σ) hr hg I.env0 r h) fun r s' hq => ?_)
  cases r with
  | error e => exact passAt tk σ pins H s e s' I hq
  | ok fl =>
    cases fl with
    | ret u => exact I.after hq
    | next => exact hq.elim
    | brk => exact hq.elim
    | cont => exact hq.elim
def tCallG (sp : Sp) (W : WX) (t : TA) : TE := fun σ H Q => t σ H fun vs H1 => sp vs H1 Q (WE W σ)
/-- f(e, ..), f a def of the module -/
theorem pe_callG {x : Str} {p pos : Pos} {e : Expr} {es : List Expr} {t : TA} (F : FnG X.prog X.w X.K X.mg X.base k f n sp) (hr : Room k X.A) (hgd : X.A.guards = some []) (tk : Takes X W) (hg : Gl X x) (hm : X.mg x = some (.ref f)) (hk : PySem.W.keepIn X.K (.ref f) = true)
    (ha : PA X (e :: es) t) (hdb : (x == ("__debug__" : Str)) = false) (he : starEach (e :: es) X.env = (false, eval e X.env) :: starEach es X.env) (hpl : (backTo pos (starEach es X.env)).any (·.1) = false) :
    PE X (.Call (.Name x p) (e :: es) [] pos) (tCallG sp W t) := by
  refine ⟨fun pins s σ H Q I h => ?_⟩
  refine wpAny_Call_Name_kw (ld_glob I hg hm ?_ hdb)
  refine PySem.W.callWith_K (h₀ := X.base) I.ok.mod.kin hk (thn (ha.run pos pins s σ H _ I h) fun us s1 ⟨vs, H1, I1, r, q⟩ => ⟨I1.kIn, ?_⟩) he hpl
  exact run_g F hr hgd tk I1 r q
theorem pe_callG0 {x : Str} {p pos : Pos} (F : FnG X.prog X.w X.K X.mg X.base k f n sp) (hr : Room k X.A) (hgd : X.A.guards = some []) (tk : Takes X W) (hg : Gl X x) (hm : X.mg x = some (.ref f)) (hk : PySem.W.keepIn X.K (.ref f) = true)
    (hdb : (x == ("__debug__" : Str)) = false) : PE X (.Call (.Name x p) [] [] pos) (tCallG sp W tNil) := by
  refine ⟨fun pins s σ H Q I h => ?_⟩
  refine wpAny_Call_Name_kw (ld_glob I hg hm ?_ hdb)
  exact PySem.W.callWith_K0 I.kIn hk (run_g (us := []) F hr hgd tk I .nil h)
/-- o.m(e, ..): the class is known when it runs -/
def tMethG (X : Cx) (k : Nat) (m : Str) (W : WX) (ta : TE) (t : TA) : TE := fun σ H Q => ta σ H fun x H1 => ∃ a Ca dx fs f n sp, x = .ref a ∧ H1 a = some (.ins Ca dx fs) ∧ Cls X.K Ca ∧ Meth X.K Ca m f ∧ fs.lookup m = none ∧ FnG X.prog X.w X.K X.mg X.base k f n sp ∧
  t σ H1 fun vs H2 => sp (x :: vs) H2 Q (WE W σ)
theorem starEach_len {env : Env} : ∀ {es : List Expr}, (starEach es env).length = es.length
  | [] => rfl
  | e :: es => by
    have ih := starEach_len (env := env) (es := es)
    cases e <;> exact congrArg (· + 1) ih
theorem mth_eval {o : Expr} {m : Str} {apos pos : Pos} {args : List Expr} {env : Env} (hb : attributeBase o m env (eval o env) = eval o env) (hline : (apos.endLine == pos.line) = true) (hst : (backTo pos (starEach args env)).any (·.1) = false) (hn : args.length < 29) :
    eval (.Call (.Attribute o m apos) args [] pos) env = (do
      let ov ← eval o env
      standAt apos.atName
      let (f, first) ← holding [ov] (getMethod ov m (plainOf o env))
      callWith pos f first (backTo pos (starEach args env)) (backToKw pos (keywordEach [] env))) := by
  rw [arm_eval_Call, hb]
  congr 1
  funext ov
  congr 1
  funext _
  refine mcall_line ?_ hline
  have e1 : (backTo pos (starEach args env)).all (fun x => !x.1) = true := by
    rw [List.all_eq_true]
    intro x hx
    have := List.any_eq_false.mp hst x hx
    simpa using this
  unfold methodCallForm
  rw [e1]
  have : args.length < 30 := by omega
  simp [backToKw, keywordEach, this]
theorem pe_methG {o : Expr} {m : Str} {apos pos : Pos} {e : Expr} {es : List Expr} {ta : TE} {t : TA} (he : PE X o ta) (hr : Room k X.A) (hgd : X.A.guards = some []) (tk : Takes X W) (ha : PA X (e :: es) t) (hb : attributeBase o m X.env (eval o X.env) = eval o X.env) (hline : (apos.endLine == pos.line) = true)
    (hst : starEach (e :: es) X.env = (false, eval e X.env) :: starEach es X.env) (hpl : (backTo pos (starEach es X.env)).any (·.1) = false) (hn : (e :: es).length < 29) : PE X (.Call (.Attribute o m apos) (e :: es) [] pos) (tMethG X k m W ta t) := by
  refine ⟨fun pins s σ H Q I h => ?_⟩
  have hpl' : (backTo pos (starEach (e :: es) X.env)).any (·.1) = false := by
    rw [hst]
    show (false || (backTo pos (starEach es X.env)).any (·.1)) = false
    rw [hpl]; rfl
  refine PySem.W.methodCall_KW (pl := plainOf o X.env) (thn (he.run pins s σ H _ I h) fun u s1 ⟨x, H1, I1, rx, a, Ca, dx, fs, f, n, sp, ex, ea, c, hm, l, F, q⟩ => ?_) (mth_eval hb hline hpl' hn)
  subst ex
  obtain rfl : u = Value.ref a := rx
  refine getmeth_ok I1 ea c hm l ?_
  refine PySem.W.callWith_K (first := [.ref a]) (h₀ := X.base) I.ok.mod.kin hm.kp (thn (ha.run pos pins s1 σ H1 _ I1 q) fun us s2 ⟨vs, H2, I2, r, q2⟩ => ⟨I2.kIn, ?_⟩) hst hpl
  exact run_g (us := .ref a :: us) (vs := .ref a :: vs) F hr hgd tk I2 (.cons rfl r) q2
theorem pe_methG0 {o : Expr} {m : Str} {apos pos : Pos} {ta : TE} (he : PE X o ta) (hr : Room k X.A) (hgd : X.A.guards = some []) (tk : Takes X W) (hb : attributeBase o m X.env (eval o X.env) = eval o X.env) (hline : (apos.endLine == pos.line) = true) : PE X (.Call (.Attribute o m apos) [] [] pos) (tMethG X k m W ta tNil) := by
  refine ⟨fun pins s σ H Q I h => ?_⟩
  refine PySem.W.methodCall_KW (pl := plainOf o X.env) (thn (he.run pins s σ H _ I h) fun u s1 ⟨x, H1, I1, rx, a, Ca, dx, fs, f, n, sp, ex, ea, c, hm, l, F, q⟩ => ?_) (mth_eval hb hline rfl (by simp))
  subst ex
  obtain rfl : u = Value.ref a := rx
  refine getmeth_ok I1 ea c hm l ?_
  exact PySem.W.callWith_K0 (first := [.ref a]) I1.kIn hm.kp (run_g (us := [.ref a]) (vs := [.ref a]) F hr hgd tk I1 (.cons rfl .nil) q)
end
end RM
end
section
set_option Elab.async false
set_option linter.all false
set_option maxRecDepth 100000
set_option maxHeartbeats 1000000
set_option autoImplicit false
/-! enumerate over a tuple -/
namespace RM
open PySem PySem.Spec PyProof.Rows L2
open PySem.Sem (wp)
open AutoSeq1 (wpAny_loadPart')

theorem meets_enumerate_newT (l : Addr) (items : Array Value) (n : Nat) (dct : Option Addr) (sl : Array (Option Value)) :
    Meets (Builtin.«enumerate.__new__» ⟨[.type "enumerate", .ref l], []⟩) (fun _ R s => s.heap.get? l = some { cls := .type "tuple", dict := dct, data := .seq items n, slots := sl } ∧
      R (.ok (.ret (.ref (s.heap.push { cls := .type "tuple_iterator", data := .fields #[.ref l, .int 0 0] }).objs.size)))
        { s with heap := (s.heap.push { cls := .type "tuple_iterator", data := .fields #[.ref l, .int 0 0] }).push { cls := .type "enumerate", data := .fields #[.none, .bool false, .ref s.heap.objs.size, rawInt 0, .none, .none] } }) :=
  .of_wp fun prog w A R s h => by
    obtain ⟨hp, g, d, tk, os⟩ := s; obtain ⟨hl, h⟩ := h
    have hsub := sub_enumerate
    have hL : Heap.IsTuple (Shared.heap ⟨hp, g, d, tk, os⟩) l items := ⟨_, hl, rfl, n, rfl⟩
    wp_walk using wpAny_loadPart' hl
    refine wpAny_stack_any fun st => wpAny_pure ?_
    split
    · rename_i c _ _ _ _ _
      cases (c == Value.type "enumerate")
      · wp_walk using wpAny_loadPart' hl, wpAny_pyIter_tuple hL
        exact ⟨_, rfl, h⟩
      · wp_walk using wpAny_loadPart' hl, wpAny_pyIter_tuple hL
        exact ⟨_, rfl, h⟩
    · wp_walk using wpAny_loadPart' hl, wpAny_pyIter_tuple hL
      exact ⟨_, rfl, h⟩
section
variable {prog : Program} {w : World} {A : Around} {E : Value → Shared → Prop} {s : Shared}
theorem call_enumerate_tuple {l : Addr} {items : Array Value} {Q : Value → Shared → Prop} (hL : s.heap.IsTuple l items)
    (h : ∀ h', IsEnum h' (s.heap.objs.size + 1) s.heap.objs.size 0 .none → h'.IsTupleIter s.heap.objs.size l 0 → h'.objs.size = s.heap.objs.size + 2 →
      (∀ b o, s.heap.get? b = some o → h'.get? b = some o) → Q (.ref (s.heap.objs.size + 1)) { s with heap := h' }) :
    wpAny (model prog w) A (call (.type "enumerate") [.ref l]) Q E s := by
  obtain ⟨⟨c, dct, dt, sl⟩, hl, hc, n, hd⟩ := hL
  replace hc : c = .type "tuple" := hc
  replace hd : dt = .seq items n := hd
  subst hc hd
  refine callType_new F.called_enumerate (by decide) (F.typeCall_enumerate_1 _) (F.newCall_enumerate_1 _) (fun obj => F.args_object_init_2 obj _) F.entry_enumerate_new
    (meets_enumerate_newT l items n dct sl) ⟨hl, ?_⟩
  have hz : (s.heap.push { cls := .type "tuple_iterator", data := .fields #[.ref l, .int 0 0] }).objs.size = s.heap.objs.size + 1 := Heap.size_push ..
  show _ ∧ _
  rw [hz]
  have he : IsEnum ((s.heap.push { cls := .type "tuple_iterator", data := .fields #[.ref l, .int 0 0] }).push
      { cls := .type "enumerate", data := .fields #[.none, .bool false, .ref s.heap.objs.size, rawInt 0, .none, .none] }) (s.heap.objs.size + 1) s.heap.objs.size 0 .none := by
    have := Heap.get?_push_size (s.heap.push { cls := .type "tuple_iterator", data := .fields #[.ref l, .int 0 0] })
      (o := { cls := .type "enumerate", data := .fields #[.none, .bool false, .ref s.heap.objs.size, rawInt 0, .none, .none] }) rfl
    rw [hz] at this; exact this
  refine ⟨⟨_, he, rfl⟩, h _ he ⟨_, Heap.get?_push_of_some _ (Heap.get?_push_size _ rfl), rfl, rfl⟩ (by rw [Heap.size_push, hz]) fun b o x => Heap.get?_push_of_some _ (Heap.get?_push_of_some _ x)⟩
end
theorem draws_tuple {prog : Program} {w : World} {A : Around} (hh : A.handled = none) (it l : Addr) (hne : l ≠ it) (items : Array Value) :
    Draws prog w A it [it, l] items.size (fun i v => items[i]? = some v) (fun i h => h.IsTupleIter it l i ∧ h.IsTuple l items) where
  live := fun _ _ st => let ⟨o, ho, _⟩ := st.1; ⟨o, ho⟩
  frame := fun _ _ _ st hk => ⟨st.1.at fun o e => hk it (by simp) o e, let ⟨o, e, r⟩ := st.2; ⟨o, hk l (by simp) o e, r⟩⟩
  item := fun i s Q E hi st hQ => by
    refine RZ.nextOf_tuple_item st.1 st.2 (x := items[i]) (by simp [hi]) fun h' hit' hs' => ?_
    exact hQ _ h' s.toks (by simp [hi]) ⟨hit', let ⟨o, e, r⟩ := st.2; ⟨o, hs'.extBut l o hne e, r⟩⟩ hs'
  done := fun s Q E st hE => RZ.nextOf_tuple_end hh st.1 st.2 (by simp) hE
theorem pyNext_enumT_end {prog : Program} {w : World} {A : Around} {E : Value → Shared → Prop} {s : Shared} {e it l : Addr} {i : Nat} {items : Array Value} {old : Value} {Q : Option Value → Shared → Prop} (hh : A.handled = none)
    (he : IsEnum s.heap e it i old) (hit : s.heap.IsTupleIter it l i) (hl : s.heap.IsTuple l items) (hx : items[i]? = none)
    (hQ : ∀ h', Heap.ExtBut it s.heap h' → Q none { s with heap := h' }) : wpAny (model prog w) A (pyNext (.ref e)) Q E s := by
  have hT : s.TypeIs (.ref e) "enumerate" := ⟨_, he, rfl⟩
  unfold pyNext
  refine wpAny_bind (wpAny_attempt (wpAny_callSpecial?_slot (name := Str.ofString "__next__") hT F.slot_enumerate_next
    (wpAny_call_entry F.slot_enumerate_next hT F.entry_enumerate_next ?_ (F.args_enumerate_next_1 _))))
  show wpAny _ _ (field (.ref e) 2 >>= _) _ _ _
  refine wpAny_bind (wpAny_field he rfl (x := .ref it) rfl ?_)
  refine wpAny_bind (RZ.nextOf_tuple_end hh hit hl hx fun h' x he' hx' => ?_)
  obtain ⟨o, ho, hc⟩ := hx'
  refine wpAny_bind (wpAny_isInstance (T := "StopIteration") (b := true) ⟨o, ho, hc⟩ isSubtype_stop ?_)
  exact wpAny_pure (hQ _ he')
/-- the tuple at a, each item in a new pair -/
def IteT (K : PySem.W.Frag) (a : Addr) : It :=
  ⟨fun i H => ∃ (xs : List V) (x : V), SqT K H a xs ∧ xs[i]? = some x, fun i H v H' => ∃ T x, v = .ref T ∧ H T = none ∧ H' = upd H T (.tup [.int (i : Nat), x]) ∧ ∀ xs, SqT K H a xs → xs[i]? = some x, fun i H => ∃ xs : List V, SqT K H a xs ∧ xs.length ≤ i⟩
theorem turn_enumT {P : Program} {w : World} {K : PySem.W.Frag} {elts : List Expr} {kk : Nat} {tpos : Pos} (a e it : Addr) (hae : a ≠ e) (hai : a ≠ it) :
    Turn P w K (.Tuple elts kk tpos) (IteT K a) [e, it] e (fun i h => (∃ old, IsEnum h e it ((i : Nat) : Int) old) ∧ h.IsTupleIter it a i ∧ e ≠ it) where
  mem := by simp
  obj := fun i h st b hb => by
    obtain ⟨⟨old, he⟩, ⟨o, ho, hc, hd⟩, _⟩ := st
    have e' : b = e ∨ b = it := by simpa using hb
    rcases e' with z | z
    · rw [z]; exact ⟨_, he, fun v q => nomatch q⟩
    · rw [z]; exact ⟨o, ho, fun v q => by rw [hd] at q; cases q⟩
  keep := fun i h h' st k => let ⟨⟨old, he⟩, hi, hne⟩ := st; ⟨⟨old, k e (by simp) _ he⟩, hi.at fun o q => k it (by simp) o q, hne⟩
  item := by
    intro X hP hw hK hc i pins s σ H E I hf st hg
    subst hP hw hK
    obtain ⟨⟨old, he⟩, hit, hne⟩ := st
    obtain ⟨xs, x, hq, hx⟩ := hg
    obtain ⟨its, rv, p, hz⟩ := I.tuple hq
    obtain ⟨u, hu, ru⟩ := rv.get hx
    have hel : e < s.heap.objs.size := Heap.lt_size he
    have hil : it < s.heap.objs.size := by obtain ⟨_, q, _⟩ := hit; exact Heap.lt_size q
    have hlt : i < its.toArray.size := by
      have := (List.getElem?_eq_some_iff.mp hu).1
      simpa using this
    refine wpAny_pyNext_enum_itemD (draws_tuple (A := X.A.in1) (I.ok.hd hc) it a hai its.toArray) he ⟨hit, p⟩ hlt hne (by simp [hne, Ne.symm hae]) fun v h' tk hv ho hst hT hsz hk => ?_
    have ev : v = u := by
      have q : its.toArray[i]? = some u := by simpa using hu
      rw [q] at hv
      exact (Option.some.inj hv).symm
    subst ev
    obtain ⟨hit', _⟩ := hst
    refine ⟨_, rfl, wpAny_letOwnedTupleGo_enum (s := { s with heap := h', toks := tk + 1 }) ho fun h'' he' sb => ?_⟩
    have hT2 : h''.get? s.heap.objs.size = some { cls := .type "tuple", data := .seq #[.int i tk, v] } := (sb.2 _ (Nat.ne_of_gt hel)).trans hT
    have new : ObjOk X.prog X.w (upd H s.heap.objs.size (.tup [.int (i : Nat), x])) h'' s.heap.objs.size (.tup [.int (i : Nat), x]) :=
      ⟨by show 2 ≤ sizeLine; decide, [.int i tk, v], .cons ⟨_, rfl⟩ (.cons ru .nil), ⟨_, hT2, rfl, _, rfl⟩⟩
    have I1 : Inv X pins σ (upd H s.heap.objs.size (.tup [.int (i : Nat), x])) { s with heap := h'', toks := tk + 1 } :=
      I.turnedNew (ch := [e, it]) (fun b ob hb q => (sb.2 b (fun z => hb (by simp [z]))).trans (hk b ob (fun z => hb (by simp [z])) (fun z => hb (by simp [z])) q)) hf (Nat.le_refl _) new
    refine ⟨.ref s.heap.objs.size, _, I1, rfl, ⟨_, x, rfl, I.hok.fresh (Nat.le_refl _), rfl, fun ys hy => by rw [I.tuple_inj hy hq]; exact hx⟩, ⟨⟨v, ?_⟩, hit'.at fun o q => (sb.2 it (Ne.symm hne)).trans q, hne⟩, fun b hb => ?_⟩
    · have e1 : ((i + 1 : Nat) : Int) = (i : Int) + 1 := by omega
      rw [e1]; exact he'
    · have hb' : b < s.heap.objs.size := by
        have e' : b = e ∨ b = it := by simpa using hb
        rcases e' with z | z
        · rw [z]; exact hel
        · rw [z]; exact hil
      rw [upd_ne (Nat.ne_of_lt hb')]
      exact (hf b hb).1
  done := by
    intro X hP hw hK hc i pins s σ H E I hf st hg
    subst hP hw hK
    obtain ⟨⟨old, he⟩, hit, hne⟩ := st
    obtain ⟨xs, hq, hx⟩ := hg
    obtain ⟨its, rv, p, hz⟩ := I.tuple hq
    obtain ⟨f0, f1, f2, f3, f4, f5⟩ := hf it (by simp)
    have hl := rv.length
    exact pyNext_enumT_end (I.ok.hd hc) he hit p (by simp; omega) fun h' eb => ⟨rfl, I.turned (t' := s.toks) (fun b o hb q => eb b o hb q) f0 f1 f3 f4 f5⟩
  self := fun A i s Q E st h => let ⟨⟨_, he⟩, _⟩ := st; wpAny_pyIter_enum he h
def iEnumA (K : PySem.W.Frag) (ta : TA) : TI := fun σ H R => ta σ H fun vs H1 => ∃ a xs, vs = [.ref a] ∧ ((SqL K H1 a xs ∧ R (Ite K a) H1) ∨ (SqT K H1 a xs ∧ R (IteT K a) H1))
theorem pi_enumA {X : Cx} {e : Expr} {ta : TA} {p pos tpos : Pos} {elts : List Expr} {kk : Nat} (hg : Gl X "enumerate") (hm : X.mg "enumerate" = none) (ha : PA X [e] ta) (hs : starEach [e] X.env = [(false, eval e X.env)] := by rfl) :
    PI X (.Tuple elts kk tpos) (.Call (.Name "enumerate" p) [e] [] pos) (iEnumA X.K ta) := by
  refine ⟨fun pins s σ H R I h => ?_⟩
  refine Call_ (ld_blt I hg hm boot_enumerate (PyProof.Rows.callWith_type1 (thn (ha.run pos pins s σ H _ I h) fun us s1 ⟨vs, H1, I1, r1, q1⟩ => ?_) hs rfl))
  obtain ⟨a, xs, ex, q⟩ := q1
  subst ex
  cases r1 with
  | cons r rr =>
    cases rr
    cases r
    have fresh2 : ∀ b, b ∈ [s1.heap.objs.size + 1, s1.heap.objs.size] → FpOk X pins H1 b := fun b hb => by
      have e' : b = s1.heap.objs.size + 1 ∨ b = s1.heap.objs.size := by simpa using hb
      have hle : s1.heap.objs.size ≤ b := by
        rcases e' with z | z
        · rw [z]; exact Nat.le_add_right _ _
        · rw [z]; exact Nat.le_refl _
      exact I1.fpOk hle (I1.hok.fresh hle)
    rcases q with ⟨hq, q⟩ | ⟨hq, q⟩
    · obtain ⟨its, rv, p', hz⟩ := I1.list hq
      refine call_enumerate_list p'.isList fun h' he hit hsz hk => wpAny_pyIter_enum he ?_
      have I2 : Inv X pins σ H1 { s1 with heap := h' } := I1.kept (t' := s1.toks) hk
      exact ⟨s1.heap.objs.size + 1, [s1.heap.objs.size + 1, s1.heap.objs.size], _, _, H1, rfl, I2, turn_enum a (s1.heap.objs.size + 1) s1.heap.objs.size, ⟨⟨.none, he⟩, hit, Nat.succ_ne_self _⟩, fresh2, q⟩
    · obtain ⟨its, rv, p', hz⟩ := I1.tuple hq
      have hal : a < s1.heap.objs.size := by obtain ⟨_, q, _⟩ := p'; exact Heap.lt_size q
      refine call_enumerate_tuple p' fun h' he hit hsz hk => wpAny_pyIter_enum he ?_
      have I2 : Inv X pins σ H1 { s1 with heap := h' } := I1.kept (t' := s1.toks) hk
      exact ⟨s1.heap.objs.size + 1, [s1.heap.objs.size + 1, s1.heap.objs.size], _, _, H1, rfl, I2, turn_enumT a (s1.heap.objs.size + 1) s1.heap.objs.size (Nat.ne_of_lt (Nat.lt_succ_of_lt hal)) (Nat.ne_of_lt hal), ⟨⟨.none, he⟩, hit, Nat.succ_ne_self _⟩, fresh2, q⟩
end RM
end
section
set_option Elab.async false
set_option linter.all false
set_option maxRecDepth 100000
set_option autoImplicit false
/-! what loops and comprehensions walk -/
namespace RM
open PySem PySem.Spec PyProof.Rows L2

/-- J yields these data as long as Kr holds -/
structure YOk (Y : Tx) (Kr : Gh → Hp → Prop) (J : It) (xs : List D) : Prop where
  go : ∀ (i : Nat) (G : Gh) (H : Hp) (S : Sto), i < xs.length → Kr G H → GOk Y G H S → J.go i H ∧ ∀ x H', J.yld i H x H' → ∃ d, xs[i]? = some d ∧ Ext G H G H' ∧ GOk Y G H' S ∧ RD Y G H' x d
  stop : ∀ (i : Nat) (G : Gh) (H : Hp) (S : Sto), xs.length ≤ i → Kr G H → GOk Y G H S → J.stop i H

section
variable {Y : Tx} {Kr Kr' : Gh → Hp → Prop} {G1 : Gh} {H1 : Hp} {S1 : Sto} {xs ys : List D} {vs ws : List V} {a b : Addr}
theorem YOk.imp {J : It} (y : YOk Y Kr J xs) (h : ∀ G H, Kr' G H → Kr G H) : YOk Y Kr' J xs := ⟨fun i G H S hi k ok => y.go i G H S hi (h G H k) ok, fun i G H S hi k ok => y.stop i G H S hi (h G H k) ok⟩
theorem YOk.lst (h1 : ∀ G H, Kr G H → SqL Y.K H a vs) (h2 : ∀ G H, Kr G H → RDs Y G H vs xs) : YOk Y Kr (Itl Y.K a) xs where
  go := fun i G H S hi k ok => by
    have r := h2 G H k
    have hv : i < vs.length := by rw [r.length]; exact hi
    refine ⟨⟨vs, vs[i], h1 G H k, by simp [hv]⟩, fun x H' ⟨e, y⟩ => ?_⟩
    subst e
    obtain ⟨d, hd, rd⟩ := r.get (y vs (h1 G _ k))
    exact ⟨d, hd, Ext.refl, ok, rd⟩
  stop := fun i G H S hi k ok => ⟨vs, h1 G H k, by rw [(h2 G H k).length]; exact hi⟩
theorem YOk.tup (h1 : ∀ G H, Kr G H → SqT Y.K H a vs) (h2 : ∀ G H, Kr G H → RDs Y G H vs xs) : YOk Y Kr (Itt Y.K a) xs where
  go := fun i G H S hi k ok => by
    have r := h2 G H k
    have hv : i < vs.length := by rw [r.length]; exact hi
    refine ⟨⟨vs, vs[i], h1 G H k, by simp [hv]⟩, fun x H' ⟨e, y⟩ => ?_⟩
    subst e
    obtain ⟨d, hd, rd⟩ := r.get (y vs (h1 G _ k))
    exact ⟨d, hd, Ext.refl, ok, rd⟩
  stop := fun i G H S hi k ok => ⟨vs, h1 G H k, by rw [(h2 G H k).length]; exact hi⟩
theorem rngD_length (lo : Int) (n : Nat) : (rngD lo n).length = n := by simp [rngD]
theorem YOk.rng (lo : Int) (n : Nat) : YOk Y Kr (Itr lo n) (rngD lo n) where
  go := fun i G H S hi k ok => by
    rw [rngD_length] at hi
    refine ⟨hi, fun x H' ⟨e, y⟩ => ?_⟩
    subst e y
    exact ⟨.int (lo + (i : Int)), by simp [rngD, hi], Ext.refl, ok, .int _⟩
  stop := fun i G H S hi k ok => by rw [rngD_length] at hi; exact hi
theorem signsD_length (z : Str) : (signsD z).length = z.length := by simp [signsD, Str.length]
theorem YOk.str (z : Str) : YOk Y Kr (Its z) (signsD z) where
  go := fun i G H S hi k ok => by
    rw [signsD_length] at hi
    refine ⟨hi, fun x H' ⟨e, c, hc, y⟩ => ?_⟩
    subst e y
    refine ⟨.str ⟨#[c]⟩, ?_, Ext.refl, ok, .str _⟩
    have : z.cps.toList[i]? = some c := by simpa using hc
    simp [signsD, this]
  stop := fun i G H S hi k ok => by rw [signsD_length] at hi; exact hi
/-- a new pair -/
theorem new_pair {G : Gh} {H : Hp} {S : Sto} {T : Addr} {v w : V} {d e : D} (ok : GOk Y G H S) (hT : H T = none) (r1 : RD Y G H v d) (r2 : RD Y G H w e) :
    Ext G H G (upd H T (.tup [v, w])) ∧ GOk Y G (upd H T (.tup [v, w])) S ∧ RD Y G (upd H T (.tup [v, w])) (.ref T) (.tup [d, e]) := by
  have x : Ext G H G (upd H T (.tup [v, w])) := Ext.new ok hT
  exact ⟨x, ok.new hT, .tup (.of upd_same) (.cons (r1.ext x ok) (.cons (r2.ext x ok) .nil))⟩
theorem enumD_length (xs : List D) : (enumD xs).length = xs.length := by simp [enumD]
theorem enumD_get {i : Nat} {d : D} (h : xs[i]? = some d) : (enumD xs)[i]? = some (.tup [.int (i : Nat), d]) := by simp [enumD, h]
theorem YOk.enumL (h1 : ∀ G H, Kr G H → SqL Y.K H a vs) (h2 : ∀ G H, Kr G H → RDs Y G H vs xs) : YOk Y Kr (Ite Y.K a) (enumD xs) where
  go := fun i G H S hi k ok => by
    have r := h2 G H k
    rw [enumD_length] at hi
    have hv : i < vs.length := by rw [r.length]; exact hi
    refine ⟨⟨vs, vs[i], h1 G H k, by simp [hv]⟩, fun x H' ⟨T, u, e1, hT, e2, y⟩ => ?_⟩
    subst e1 e2
    obtain ⟨d, hd, rd⟩ := r.get (y vs (h1 G _ k))
    obtain ⟨q1, q2, q3⟩ := new_pair ok hT (.int ((i : Nat) : Int)) rd
    exact ⟨_, enumD_get hd, q1, q2, q3⟩
  stop := fun i G H S hi k ok => ⟨vs, h1 G H k, by rw [(h2 G H k).length]; rw [enumD_length] at hi; exact hi⟩
theorem YOk.enumT (h1 : ∀ G H, Kr G H → SqT Y.K H a vs) (h2 : ∀ G H, Kr G H → RDs Y G H vs xs) : YOk Y Kr (IteT Y.K a) (enumD xs) where
  go := fun i G H S hi k ok => by
    have r := h2 G H k
    rw [enumD_length] at hi
    have hv : i < vs.length := by rw [r.length]; exact hi
    refine ⟨⟨vs, vs[i], h1 G H k, by simp [hv]⟩, fun x H' ⟨T, u, e1, hT, e2, y⟩ => ?_⟩
    subst e1 e2
    obtain ⟨d, hd, rd⟩ := r.get (y vs (h1 G _ k))
    obtain ⟨q1, q2, q3⟩ := new_pair ok hT (.int ((i : Nat) : Int)) rd
    exact ⟨_, enumD_get hd, q1, q2, q3⟩
  stop := fun i G H S hi k ok => ⟨vs, h1 G H k, by rw [(h2 G H k).length]; rw [enumD_length] at hi; exact hi⟩
theorem zipD_length (xs ys : List D) : (zipD xs ys).length = min xs.length ys.length := by simp [zipD]
theorem zipD_get {i : Nat} {d e : D} (h : xs[i]? = some d) (h' : ys[i]? = some e) : (zipD xs ys)[i]? = some (.tup [d, e]) := by
  have q : (xs.zip ys)[i]? = some (d, e) := List.getElem?_zip_eq_some.mpr ⟨h, h'⟩
  simp [zipD, q]
theorem YOk.zipL (h1 : ∀ G H, Kr G H → SqL Y.K H a vs) (h2 : ∀ G H, Kr G H → RDs Y G H vs xs) (h3 : ∀ G H, Kr G H → SqL Y.K H b ws) (h4 : ∀ G H, Kr G H → RDs Y G H ws ys) : YOk Y Kr (Itz Y.K a b) (zipD xs ys) where
  go := fun i G H S hi k ok => by
    have r := h2 G H k
    have r' := h4 G H k
    rw [zipD_length] at hi
    have hv : i < vs.length := by rw [r.length]; omega
    have hw : i < ws.length := by rw [r'.length]; omega
    refine ⟨⟨vs, ws, vs[i], ws[i], h1 G H k, h3 G H k, by simp [hv], by simp [hw]⟩, fun x H' ⟨T, u, u', e1, hT, e2, y, y'⟩ => ?_⟩
    subst e1 e2
    obtain ⟨d, hd, rd⟩ := r.get (y vs (h1 G _ k))
    obtain ⟨d', hd', rd'⟩ := r'.get (y' ws (h3 G _ k))
    obtain ⟨q1, q2, q3⟩ := new_pair ok hT rd rd'
    exact ⟨_, zipD_get hd hd', q1, q2, q3⟩
  stop := fun i G H S hi k ok => ⟨vs, ws, h1 G H k, h3 G H k, by rw [(h2 G H k).length, (h4 G H k).length]; rw [zipD_length] at hi; omega⟩
theorem YOk.zipT (h1 : ∀ G H, Kr G H → SqT Y.K H a vs) (h2 : ∀ G H, Kr G H → RDs Y G H vs xs) (h3 : ∀ G H, Kr G H → SqT Y.K H b ws) (h4 : ∀ G H, Kr G H → RDs Y G H ws ys) : YOk Y Kr (RZ.ItzT Y.K a b) (zipD xs ys) where
  go := fun i G H S hi k ok => by
    have r := h2 G H k
    have r' := h4 G H k
    rw [zipD_length] at hi
    have hv : i < vs.length := by rw [r.length]; omega
    have hw : i < ws.length := by rw [r'.length]; omega
    refine ⟨⟨vs, ws, vs[i], ws[i], h1 G H k, h3 G H k, by simp [hv], by simp [hw]⟩, fun x H' ⟨T, u, u', e1, hT, e2, y, y'⟩ => ?_⟩
    subst e1 e2
    obtain ⟨d, hd, rd⟩ := r.get (y vs (h1 G _ k))
    obtain ⟨d', hd', rd'⟩ := r'.get (y' ws (h3 G _ k))
    obtain ⟨q1, q2, q3⟩ := new_pair ok hT rd rd'
    exact ⟨_, zipD_get hd hd', q1, q2, q3⟩
  stop := fun i G H S hi k ok => ⟨vs, ws, h1 G H k, h3 G H k, by rw [(h2 G H k).length, (h4 G H k).length]; rw [zipD_length] at hi; omega⟩
end

/-- what is walked: by comprehensions (nothing of one's own changes), by loops (lists of one's own may) -/
def Kk (look : Bool) (Y : Tx) (G1 : Gh) (H1 : Hp) (G : Gh) (H : Hp) : Prop := if look = true then Ext G1 H1 G H else Kp G1 H1 G H
/-- a source by what it yields -/
def tI (Y : Tx) (W : WX) (look : Bool) (m : Fe → M (List D)) : TI := fun σ H R => ∃ H0 G ρ S, GOk Y G H S ∧ SR Y H0 G H σ ρ ∧ wpM (m ρ) S (fun xs S' => ∀ G' H' J, Ext G H G' H' → GOk Y G' H' S' → YOk Y (Kk look Y G' H') J xs → R J H') (RE Y G H σ W)
theorem _root_.L2.PI.imp {X : Cx} {tg e : Expr} {t t' : TI} (h : PI X tg e t) (hi : ∀ σ H R, t' σ H R → t σ H R) : PI X tg e t' := ⟨fun pins s σ H R I w => h.run pins s σ H R I (hi σ H R w)⟩

section
variable {Y : Tx} {G1 : Gh} {H1 : Hp} {S1 : Sto} {look : Bool}
theorem Kk.kp {G : Gh} {H : Hp} (ok : GOk Y G1 H1 S1) (k : Kk look Y G1 H1 G H) : Kp G1 H1 G H := by
  unfold Kk at k
  split at k
  · exact k.kp ok
  · exact k
/-- a tuple -/
def D.isTup : D → Bool
  | .tup _ => true
  | _ => false
/-- what a look shows, kept -/
theorem Kk.seq {v : V} {d : D} {xs : List D} (ok : GOk Y G1 H1 S1) (r : if look = true then RV Y G1 H1 v d else RD Y G1 H1 v d) (e : itemsD d = some xs) :
    ∃ a vs, v = .ref a ∧ ((d.isTup = false ∧ SqL Y.K H1 a vs ∧ ∀ G H, Kk look Y G1 H1 G H → SqL Y.K H a vs) ∨ (d.isTup = true ∧ SqT Y.K H1 a vs ∧ ∀ G H, Kk look Y G1 H1 G H → SqT Y.K H a vs)) ∧ ∀ G H, Kk look Y G1 H1 G H → RDs Y G H vs xs := by
  have rr : RD Y G1 H1 v d ∨ (look = true ∧ ∃ a vs ds, v = .ref a ∧ d = .lst ds ∧ H1 a = some (.lst vs) ∧ ¬ G1.Mu a ∧ RDs Y G1 H1 vs ds) := by
    cases look with
    | true => exact r.imp id fun z => ⟨rfl, z⟩
    | false => exact .inl r
  rcases rr with r | ⟨rfl, a, vs, ds, rfl, rfl, h, m, r⟩
  · cases r with
    | tup h r' =>
      cases e
      exact ⟨_, _, rfl, .inr ⟨rfl, h, fun G H k => (k.kp ok).sqT h⟩, fun G H k => RDs.mono (k.kp ok) r'⟩
    | lst h f r' =>
      cases e
      exact ⟨_, _, rfl, .inl ⟨rfl, .of h, fun G H k => .of ((k.kp ok).keep _ _ h (.inr f))⟩, fun G H k => RDs.mono (k.kp ok) r'⟩
    | scr h =>
      cases e
      exact ⟨_, _, rfl, .inl ⟨rfl, h.seq, fun G H k => ((k.kp ok).scr h).seq⟩, fun G H k => rds_ints _⟩
    | _ => cases e
  · cases e
    refine ⟨a, vs, rfl, .inl ⟨rfl, .of h, fun G H k => ?_⟩, fun G H k => r.mono (k.kp ok)⟩
    have k' : Ext G1 H1 G H := k
    exact .of (k'.keep a _ h m)
end
end RM
end
section
set_option Elab.async false
set_option linter.all false
set_option maxRecDepth 100000
set_option autoImplicit false
/-! from the text's expressions to the small language -/
namespace RM
open PySem PySem.Spec PyProof.Rows L2

inductive Gv where
  | cst (d : D) | fn (n : Nat) | blt | cls (c : Str) | cfn (c : Str) (n : Nat) | mth (c m : Str) (n : Nat)
abbrev Gt := List (Str × Gv)
structure Cfg where
  N : List Str
  sc : Scope
  fn : Str → Bool
  hot : Bool := false
  exn : Option Nat := none
  own : List Nat := []
structure Cp where
  e : Bool → Expr → Option E
  q : Expr → Option Q
  i : Bool → Expr → Option I

def Cfg.loc (g : Cfg) (x : Str) : Option Nat := match g.sc.names.lookup x with
  | some .local => g.N.findIdx? (· == x)
  | some .cell => g.N.findIdx? (· == x)
  | some .free => g.N.findIdx? (· == x)
  | _ => none
def Cfg.glo (g : Cfg) (gt : Gt) (x : Str) : Option Gv := match g.sc.names.lookup x with
  | some .globalImplicit => gt.lookup x
  | _ => none
def okName (x : Str) : Bool := !(x == "__debug__") && !(x == "__classdict__") && !(x == "__name__")
def isStarred : Expr → Bool
  | .Starred .. => true
  | _ => false
def isSet : Expr → Bool
  | .Set .. => true
  | _ => false
def isSlice : Expr → Bool
  | .Slice .. => true
  | _ => false
def isTupE : Expr → Bool
  | .Tuple .. => true
  | _ => false
def constD : Const → Option D
  | .none => some .non
  | .bool b => some (.bl b)
  | .int i => some (.int i)
  | .str s => some (.str s)
  | _ => none
def biOf (x : Str) (n : Nat) : Option Bi :=
  if x == "len" then some .len else if x == "all" then some .all else if x == "any" then some .any else if x == "tuple" then some .tuple else if x == "list" then some .list
  else if x == "sorted" then some .sorted else if x == "sum" then some .sum else if x == "repr" then some .repr else if x == "int" then some .int1
  else if x == "min" && n == 2 then some .min2 else if x == "max" && n == 2 then some .max2 else none
def esW (fv fl : Expr → Option E) : List Expr → Option Es
  | [] => some .nil
  | .Starred e _ :: r => do
    let a ← fl e
    let b ← esW fv fl r
    some (.star a b)
  | e :: r => do
    let a ← fv e
    let b ← esW fv fl r
    some (.cons a b)
def Cfg.tgt (g : Cfg) (x : Str) : Option Nat :=
  match g.sc.names.lookup x with
  | some .local => g.N.findIdx? (· == x)
  | some .cell => if g.fn x then g.N.findIdx? (· == x) else none
  | _ => none
def tgts (g : Cfg) : List Expr → Option (List Nat)
  | [] => some []
  | .Name x _ :: r => do
    let i ← g.tgt x
    let is ← tgts g r
    some (i :: is)
  | _ => none
def patW (g : Cfg) : Expr → Option (List Nat)
  | .Name x _ => (g.tgt x).map ([·])
  | .Tuple (a :: b :: r) _ _ => if g.hot then none else tgts g (a :: b :: r)
  | _ => none
def namesOf : List Expr → List Str
  | [] => []
  | .Name x _ :: r => x :: namesOf r
  | _ :: r => namesOf r
def patN : Expr → List Str
  | .Name x _ => [x]
  | .Tuple es _ _ => namesOf es
  | _ => []
def ownOf (N : List Str) (ns : List Str) : List (Str × Nat) := ns.map fun x => (x, (N.findIdx? (· == x)).getD 0)
def I.pairs : I → Bool
  | .enum _ => true
  | .zip _ _ => true
  | _ => false
/-- the names of a comprehension's block -/
def Cfg.blk (g : Cfg) (scope : Scope) : Cfg := ⟨g.N, relS scope g.sc, fun x => scope.names.lookup x == some .cell, false, none, []⟩
def tyOf (gt : Gt) (g : Cfg) : Expr → Option Ty
  | .Name x _ => match g.glo gt x with
    | some (.cls c) => if okName x then some (.c c) else none
    | some (.cfn c _) => if okName x then some (.c c) else none
    | some .blt => if x == "str" then some (.b "str") else if x == "int" then some (.b "int") else if x == "bool" then some (.b "bool") else if x == "tuple" then some (.b "tuple") else if x == "list" then some (.b "list") else if x == "dict" then some (.b "dict") else none
    | _ => none
  | _ => none

section
variable (gt : Gt) (r : Cfg → Cp) (g : Cfg)
def boolW (op : BoolOp) : List Expr → Option E
  | [] => none
  | [e] => (r g).e false e
  | e :: es => do
    let a ← (r g).e false e
    let b ← boolW op es
    some (match op with
      | .And => .and a b
      | .Or => .or a b)
def condW : List Expr → Option Q
  | [] => some .yes
  | [c] => (r g).q c
  | _ => none
def lcW (elt tg iter : Expr) (ifs : List Expr) (scope : Scope) : Option E :=
  let own := ownOf g.N (patN tg)
  if blkC g.N g.sc scope own && !isSet iter && !g.hot then do
    let p ← patW (g.blk scope) tg
    let it ← (r g).i true iter
    let t ← condW r (g.blk scope) ifs
    let e ← (r (g.blk scope)).e false elt
    if it.pairs && !isTupE tg then none else some (.lc (own.map (·.2)) p it t e)
  else none
def lc2W (elt tg iter : Expr) (ifs : List Expr) (tg1 iter1 : Expr) (ifs1 : List Expr) (scope : Scope) : Option E :=
  let own := ownOf g.N (patN tg ++ patN tg1)
  if blkC g.N g.sc scope own && !isSet iter && !isSet iter1 && !g.hot then do
    let p ← patW (g.blk scope) tg
    let it ← (r g).i true iter
    let t ← condW r (g.blk scope) ifs
    let p1 ← patW (g.blk scope) tg1
    let it1 ← (r (g.blk scope)).i false iter1
    let t1 ← condW r (g.blk scope) ifs1
    let e ← (r (g.blk scope)).e false elt
    if it.pairs && !isTupE tg then none else if it1.pairs && !isTupE tg1 then none else if p1.all (fun i => (own.map (·.2)).contains i) then some (.lc2 (own.map (·.2)) p it t p1 it1 t1 e) else none
  else none
def callW (f : Str) (args : List Expr) : Option E :=
  if okName f && args.all (fun a => !isStarred a) then
    match g.glo gt f with
    | some (.fn n) => if args.length == n && !g.hot then (esW ((r g).e false) ((r g).e true) args).map (.app f) else none
    | some (.cfn _ n) => if args.length == n && !g.hot then (esW ((r g).e false) ((r g).e true) args).map (.app f) else none
    | some .blt =>
      match args with
      | [e, .Tuple [a, b] _ _] => if f == "isinstance" then do
          let x ← (r g).e true e
          let s ← tyOf gt g a
          let t ← tyOf gt g b
          some (.bi (.isi [s, t]) (.cons x .nil))
        else none
      | [e, t] => if f == "isinstance" then do
          let x ← (r g).e true e
          let s ← tyOf gt g t
          some (.bi (.isi [s]) (.cons x .nil))
        else do
          let b ← biOf f 2
          let es ← esW ((r g).e true) ((r g).e true) args
          if g.hot && !b.cold then none else some (.bi b es)
      | [_] => do
        let b ← biOf f 1
        let es ← esW ((r g).e true) ((r g).e true) args
        if g.hot && !b.cold then none else some (.bi b es)
      | _ => none
    | _ => none
  else none
/-- the methods of a name -/
def mths (m : Str) (n : Nat) : List (Str × Str) := gt.filterMap fun p => match gt.lookup p.1 with
  | some (.mth c m' n') => if m' == m && n' == n then some (c, p.1) else none
  | _ => none
def plainO : Expr → Bool
  | .Name .. => true
  | .Attribute .. => true
  | .Subscript .. => true
  | _ => false
def mthW (o : Expr) (m : Str) (apos : Pos) (args : List Expr) (pos : Pos) : Option E :=
  if args.all (fun a => !isStarred a) && (apos.endLine == pos.line) && !g.hot && plainO o && decide (args.length < 29) && !(mths gt m args.length).isEmpty then do
    let x ← (r g).e true o
    let es ← esW ((r g).e false) ((r g).e true) args
    some (.mth x m (mths gt m args.length) es)
  else none
def idxW (o : Expr) (apos : Pos) (args : List Expr) (pos : Pos) : Option E := match args with
  | [e] => if !isStarred e && (apos.endLine == pos.line) && plainO o then do
      let x ← (r g).e true o
      let y ← (r g).e true e
      some (.idx x y)
    else none
  | _ => none
def atW (o : Expr) (m : Str) (apos : Pos) (args : List Expr) (pos : Pos) : Option E := if m == "index" then idxW r g o apos args pos else mthW gt r g o m apos args pos
def nameW (look : Bool) (x : Str) : Option E := if okName x then
      match g.loc x with
      | some i => some (if look then .b i else .v i)
      | none => match g.glo gt x with
        | some (.cst d) => some (.c d)
        | _ => none
    else none
def bndW (e : Option Expr) : Option E := match e with
  | none => some (.c .non)
  | some e => ((r g).e true e).map .bnd
def stepE (look : Bool) (e : Expr) : Option E :=
  match e with
  | .Name x _ => nameW gt g look x
  | .Constant c _ _ => (constD c).map .c
  | .BinOp a op b _ => do
    let x ← (r g).e true a
    let y ← (r g).e true b
    some (.bin op x y)
  | .UnaryOp .Not a _ => ((r g).e true a).map .not
  | .UnaryOp .USub a _ => ((r g).e true a).map .neg
  | .BoolOp op es _ => boolW r g op es
  | .Compare a [op] [b] _ => if isSet b then none else do
    let x ← (r g).e true a
    let y ← (r g).e true b
    some (.cmp op x y)
  | .Compare a [o, p] [b, c] _ => if isSet b || isSet c then none else do
    let x ← (r g).e true a
    let y ← (r g).e true b
    let z ← (r g).e true c
    some (.chain o p x y z)
  | .IfExp t a b _ => do
    let q ← (r g).q t
    let x ← (r g).e false a
    let y ← (r g).e false b
    some (.ife q x y)
  | .Tuple es _ _ => (esW ((r g).e false) ((r g).e true) es).map .tup
  | .List es _ => (esW ((r g).e false) ((r g).e true) es).map .lst
  | .Call (.Name f _) args [] _ => callW gt r g f args
  | .Call (.Attribute o m apos) args [] pos => atW gt r g o m apos args pos
  | .Attribute (.Name x _) f _ => if okName x then
      match g.loc x with
      | some i => if g.exn == some i then some (.xfl i f) else some (.fld (.b i) f)
      | none => none
    else none
  | .Attribute (.Attribute o f0 p0) f _ => do
    let x ← (r g).e true (.Attribute o f0 p0)
    some (.fld x f)
  | .Attribute (.Subscript o j p0) f _ => do
    let x ← (r g).e true (.Subscript o j p0)
    some (.fld x f)
  | .Subscript o (.Slice lo hi none _) _ => do
    let x ← (r g).e true o
    let l ← bndW r g lo
    let h ← bndW r g hi
    some (.sl x l h)
  | .Subscript o (.Slice lo hi (some (.UnaryOp .USub (.Constant (.int 1) _ _) _)) _) _ => do
    let x ← (r g).e true o
    let l ← bndW r g lo
    let h ← bndW r g hi
    some (.bk x l h)
  | .Dict [] [] _ => some .dct0
  | .Subscript o i _ => if isSlice i then none else do
    let x ← (r g).e true o
    let y ← (r g).e true i
    some (.sub x y)
  | .ListComp elt [⟨tg, iter, ifs, 0⟩] scope _ => lcW r g elt tg iter ifs scope
  | .ListComp elt [⟨tg, iter, ifs, 0⟩, ⟨tg1, iter1, ifs1, 0⟩] scope _ => lc2W r g elt tg iter ifs tg1 iter1 ifs1 scope
  | _ => none
def testW (op : BoolOp) : List Expr → Option Q
  | [] => none
  | [e] => (r g).q e
  | e :: es => do
    let a ← (r g).q e
    let b ← testW op es
    some (match op with
      | .And => .and a b
      | .Or => .or a b)
def stepQ (e : Expr) : Option Q :=
  match e with
  | .BoolOp op es _ => testW r g op es
  | .UnaryOp .Not a _ => ((r g).q a).map .not
  | .IfExp .. => none
  | .Compare .. => ((r g).e true e).map .val
  | e => ((r g).e true e).map .val
def stepI (look : Bool) (e : Expr) : Option I :=
  match e with
  | .Call (.Name f _) args [] _ =>
    if okName f && args.all (fun a => !isStarred a) then
      match g.glo gt f with
      | some .blt =>
        match args with
        | [a] => if f == "range" then ((r g).e true a).map .rng1 else if f == "enumerate" then ((r g).e look a).map .enum else ((r g).e look e).map .seq
        | [a, b] => if f == "range" then do
            let x ← (r g).e true a
            let y ← (r g).e true b
            some (.rng2 x y)
          else if f == "zip" then do
            let x ← (r g).e look a
            let y ← (r g).e look b
            some (.zip x y)
          else ((r g).e look e).map .seq
        | _ => none
      | _ => ((r g).e look e).map .seq
    else none
  | e => ((r g).e look e).map .seq
end
def stepC (gt : Gt) (r : Cfg → Cp) : Cfg → Cp := fun g => ⟨stepE gt r g, stepQ r g, stepI gt r g⟩
def cp (gt : Gt) : Nat → Cfg → Cp
  | 0 => fun _ => ⟨fun _ _ => none, fun _ => none, fun _ _ => none⟩
  | n + 1 => stepC gt (cp gt n)
end RM
end
section
set_option Elab.async false
set_option linter.all false
set_option maxRecDepth 100000
set_option autoImplicit false
/-! t[lo:hi:-1] of tuples, xs[::-1] of lists -/
namespace RM
open PySem PySem.Spec PyProof.Rows L2

section
variable {prog : Program} {w : World} {A : Around} {E : Value → Shared → Prop} {s : Shared}
theorem applied_back {sl : Addr} {vl vu vs : Value} {lo hi : Option Int} {n : Nat} {Q : Int × Int × Nat → Shared → Prop} (hs : s.heap.IsSliceOf sl vl vu vs) (pl : IsPart vl lo) (pu : IsPart vu hi) (ps : IsPart vs (some (-1)))
    (h : Q ((Builtin.Slice.sliceAdjust lo hi (-1) (n : Int)).1, -1, Builtin.Slice.slicePlaces (Builtin.Slice.sliceAdjust lo hi (-1) (n : Int)).1 (Builtin.Slice.sliceAdjust lo hi (-1) (n : Int)).2 (-1)) s) : wpAny (model prog w) A (Builtin.Slice.sliceApplied (.ref sl) (pure (n : Int))) Q E s := by
  obtain ⟨os, hos, hcs, hds⟩ := id hs
  unfold Builtin.Slice.sliceApplied Builtin.Slice.sliceFields
  refine wpAny_bind (wpAny_bind (wpAny_field hos hds (x := vl) rfl (wpAny_bind (wpAny_field hos hds (x := vu) rfl (wpAny_bind (wpAny_field hos hds (x := vs) rfl (wpAny_pure ?_)))))))
  refine wpAny_bind (HT.slicePart_ ps ?_)
  show wpAny _ _ (if ((-1 : Int) == 0) = true then _ else _) _ _ s
  rw [if_neg (by decide)]
  exact wpAny_bind (HT.slicePart_ pl (wpAny_bind (HT.slicePart_ pu (wpAny_bind (wpAny_pure (wpAny_pure h))))))
theorem item_back {t sl : Addr} {its : List Value} {vl vu vs : Value} {lo hi : Option Int} {Q : Value → Shared → Prop} (ht : IsTup s.heap t its.toArray) (hs : s.heap.IsSliceOf sl vl vu vs) (pl : IsPart vl lo) (pu : IsPart vu hi) (ps : IsPart vs (some (-1)))
    (h : Q (.ref s.heap.objs.size) { s with heap := s.heap.push { cls := .type "tuple", data := .seq (backV its lo hi).toArray } }) (hz : its.length ≤ sizeLine) : wpAny (model prog w) A (getItem (.ref t) (.ref sl)) Q E s := by
  obtain ⟨os, hos, hcs, hds⟩ := id hs
  have hT : s.TypeIs (.ref sl) "slice" := ⟨os, hos, hcs⟩
  have hlen : its.toArray.size = its.length := List.size_toArray
  have fits : sizeOk (.seq (backV its lo hi).toArray) := by
    show (backV its lo hi).toArray.size ≤ sizeLine
    rw [List.size_toArray]
    exact Nat.le_trans (backV_length its lo hi) hz
  unfold getItem
  try with_reducible refine wpAny_holding ?_
  first | refine wpAny_bind (wpAny_pure ?_) | skip
  refine wpAny_bind (wpAny_sequenceKey ht.typeIs (by decide) (wpAny_bind (wpAny_callSpecial?_slot (name := Str.ofString "__getitem__") ht.typeIs PyProof.Rows.slot_tuple_getitem
    (wpAny_call_entry PyProof.Rows.slot_tuple_getitem ht.typeIs entry_tuple_getitem ?_ (args_tuple_getitem _ _)))))
  show wpAny _ _ (Builtin.Tuple.tupleItemsOf (.ref t) >>= _) _ _ s
  refine wpAny_bind (tupleItemsOf_ ht (wpAny_bind (wpAny_typeOf hT ?_)))
  rw [if_pos (by decide), hlen]
  refine wpAny_bind (applied_back hs pl pu ps ?_)
  dsimp only
  rw [if_neg (by rw [show ((-1 : Int) == 1) = false by decide, Bool.and_false, Bool.false_and]; exact Bool.false_ne_true)]
  have ep : ((List.range (Builtin.Slice.slicePlaces (Builtin.Slice.sliceAdjust lo hi (-1) (its.length : Int)).1 (Builtin.Slice.sliceAdjust lo hi (-1) (its.length : Int)).2 (-1))).filterMap
      fun (k : Nat) => its.toArray[((Builtin.Slice.sliceAdjust lo hi (-1) (its.length : Int)).1 + (k : Int) * (-1)).toNat]?).toArray = (backV its lo hi).toArray := by
    unfold backV
    congr 1
    congr 1
    funext k
    exact List.getElem?_toArray
  rw [ep]
  first
    | exact wpAny_bind (m := Builtin.Tuple.tupleExact _) (wpAny_newObj_type (wpAny_pure ⟨_, rfl, wpAny_pure h⟩) fits)
    | exact wpAny_bind (m := Builtin.Tuple.tupleExact _) (wpAny_newObj_type (wpAny_bind (wpAny_pure (wpAny_pure ⟨_, rfl, wpAny_pure h⟩))) fits)
    | exact wpAny_bind (wpAny_bind (m := Builtin.Tuple.tupleExact _) (wpAny_newObj_type (wpAny_pure (wpAny_pure ⟨_, rfl, wpAny_pure h⟩)) fits))
    | exact wpAny_bind (wpAny_bind (m := Builtin.Tuple.tupleExact _) (wpAny_newObj_type (wpAny_pure ⟨_, rfl, wpAny_pure h⟩) fits))
end

/-- what x[lo:hi:-1] is, by values -/
def BkR (X : Cx) (r : V → Option Int → Option Int → Hp → VK → Prop) : Prop :=
  ∀ (pins : List (Addr × Obj)) (s : Shared) (σ : L2.St) (H : Hp) (x : V) (v vl vu vs : Value) (lo hi : Option Int) (sl : Addr) (Q : VK), Inv X pins σ H s → RelV x v → s.heap.IsSliceOf sl vl vu vs → IsPart vl lo → IsPart vu hi → IsPart vs (some (-1)) → r x lo hi H Q →
    ∃ T id, typeLookup (.type T) "__getitem__" = pure (some (.builtin id)) ∧ s.TypeIs v T ∧ wpAny (model X.prog X.w) X.A (getItem v (.ref sl)) (EP X pins σ Q) X.xe s
section
variable {X : Cx}
theorem pe_back {r : V → Option Int → Option Int → Hp → VK → Prop} {e : Expr} {lo hi : Option Expr} {te : TE} {tl th : TO} {k : Nat} {p1 p2 p3 pos : Pos} (hr : BkR X r) (he : PE X e te) (hl : PO X lo tl) (hu : PO X hi th) :
    PE X (.Subscript e (.Slice lo hi (some (.UnaryOp .USub (.Constant (.int 1) k p1) p2)) p3) pos) (tSl r te tl th) := by
  have hst : PO X (some (.UnaryOp .USub (.Constant (.int 1) k p1) p2)) (tPart (tUn (rU fun i => .int (-i)) (tC (.int 1)))) := po_some (pe_un un_neg pe_int)
  refine ⟨fun pins s σ H Q I h => ?_⟩
  refine Subscript_ (thn (he.run pins s σ H _ I h) fun v s1 ⟨x, H1, I1, r1, q1⟩ => ?_)
  refine wpAny_Slice (thn (hl.run pins s1 σ H1 _ I1 q1) fun vl s2 ⟨l, H2, I2, pl, q2⟩ => thn (hu.run pins s2 σ H2 _ I2 q2) fun vu s3 ⟨u, H3, I3, pu, q3⟩ => ?_)
  refine thn (hst.run pins s3 σ H3 (fun o H4 => o = some (-1) ∧ H4 = H3) I3 ⟨1, rfl, -1, rfl, rfl, rfl⟩) fun vs s4 ⟨o, H4, I4, ps, eo, e4⟩ => ?_
  subst eo e4
  have I5 : Inv X pins σ H4 { s4 with heap := s4.heap.push { cls := .type "slice", data := .fields #[vl, vu, vs] } } := I4.kept (t' := s4.toks) fun b ob q => Heap.get?_push_of_some _ q
  obtain ⟨T, id, hT, ht, hg⟩ := hr pins { s4 with heap := s4.heap.push { cls := .type "slice", data := .fields #[vl, vu, vs] } } σ H4 x v vl vu vs l u s4.heap.objs.size Q I5 r1 (Heap.IsSliceOf.new ..) pl pu ps q3
  show wpAny (model X.prog X.w) X.A (subscriptTail e (.Slice lo hi (some (.UnaryOp .USub (.Constant (.int 1) k p1) p2)) p3) v (.ref s4.heap.objs.size)) (EP X pins σ Q) X.xe { s4 with heap := s4.heap.push { cls := .type "slice", data := .fields #[vl, vu, vs] } }
  exact tail_any (ops := [v, .ref s4.heap.objs.size]) ht hT hg (by with_unfolding_all rfl)
theorem back_tup {pins : List (Addr × Obj)} {s : Shared} {σ : L2.St} {H : Hp} {v vl vu vs : Value} {lo hi : Option Int} {sl a : Addr} {xs : List V} {Q : VK} (I : Inv X pins σ H s) (rx : RelV (.ref a) v) (hs : s.heap.IsSliceOf sl vl vu vs) (pl : IsPart vl lo) (pu : IsPart vu hi) (ps : IsPart vs (some (-1)))
    (hx : SqT X.K H a xs) (q : ∀ p, H p = none → Q (.ref p) (upd H p (.tup (backV xs lo hi)))) :
    ∃ T id, typeLookup (.type T) "__getitem__" = pure (some (.builtin id)) ∧ s.TypeIs v T ∧ wpAny (model X.prog X.w) X.A (getItem v (.ref sl)) (EP X pins σ Q) X.xe s := by
  cases rx
  obtain ⟨its, r, ht, hz⟩ := I.tuple hx
  have hl : its.length = xs.length := r.length.symm
  refine ⟨"tuple", _, PyProof.Rows.slot_tuple_getitem.lookup, ht.typeIs, ?_⟩
  refine item_back ht hs pl pu ps ?_ (by rw [hl]; exact hz)
  refine ⟨.ref s.heap.objs.size, _, I.laid (t' := s.toks) (o := .tup (backV xs lo hi)) (fun b ob z => Heap.get?_push_of_some _ z) (Nat.le_refl _) ?_, rfl, q _ (I.hok.fresh (Nat.le_refl _))⟩
  refine ⟨Nat.le_trans (backV_length xs lo hi) hz, backV its lo hi, ?_, IsTup.new _ _⟩
  have get : ∀ (j : Nat), (xs[j]? = none ∧ its[j]? = none) ∨ ∃ x y, xs[j]? = some x ∧ its[j]? = some y ∧ RelV x y := by
    clear hx hl ht hz q
    intro j
    induction r generalizing j with
    | nil => exact .inl ⟨rfl, rfl⟩
    | @cons x y xs' ys' h t ih =>
      cases j with
      | zero => exact .inr ⟨x, y, rfl, rfl, h⟩
      | succ j => simpa using ih j
  unfold backV
  rw [hl]
  generalize (List.range _) = ks
  induction ks with
  | nil => exact .nil
  | cons k ks ih =>
    rw [List.filterMap_cons, List.filterMap_cons]
    rcases get ((Builtin.Slice.sliceAdjust lo hi (-1) (xs.length : Int)).1 + (k : Int) * (-1)).toNat with ⟨e1, e2⟩ | ⟨x, y, e1, e2, rv⟩
    · rw [e1, e2]; exact ih
    · rw [e1, e2]; exact .cons rv ih
theorem back_lst {pins : List (Addr × Obj)} {s : Shared} {σ : L2.St} {H : Hp} {v vl vu vs : Value} {sl a : Addr} {xs : List V} {Q : VK} (I : Inv X pins σ H s) (rx : RelV (.ref a) v) (hs : s.heap.IsSliceOf sl vl vu vs) (pl : IsPart vl none) (pu : IsPart vu none) (ps : IsPart vs (some (-1)))
    (hx : SqL X.K H a xs) (q : ∀ p, H p = none → Q (.ref p) (upd H p (.lst xs.reverse))) :
    ∃ T id, typeLookup (.type T) "__getitem__" = pure (some (.builtin id)) ∧ s.TypeIs v T ∧ wpAny (model X.prog X.w) X.A (getItem v (.ref sl)) (EP X pins σ Q) X.xe s := by
  cases rx
  obtain ⟨its, r, ht, hz⟩ := I.list hx
  have hl : its.length = xs.length := r.length.symm
  refine ⟨"list", _, PySem.slot_list_getitem.lookup, ht.isList.typeIs, ?_⟩
  refine wpAny_getItem_list_slice ht.isList hs pl pu ps (by decide) ?_ (by rw [List.size_toArray, hl]; exact hz)
  rw [PySem.W.krv_pick]
  exact ⟨.ref _, _, I.laid (t' := s.toks) (o := .lst xs.reverse) (fun b ob z => Heap.get?_push_of_some _ z) (Nat.le_refl _) ⟨by rw [List.length_reverse]; exact hz, _, 0, r.reverse, Heap.get?_push_size _ rfl⟩, rfl, q _ (I.hok.fresh (Nat.le_refl _))⟩
end
end RM
end
section
set_option Elab.async false
set_option linter.all false
set_option maxRecDepth 100000
set_option autoImplicit false
/-! the compile functions are sound: leaves, operations, displays, tests -/
namespace RM
open PySem PySem.Spec PyProof.Rows L2

/-- what a def of the module does, by its oracle -/
def spG (Y : Tx) (n : Nat) (m : List D → M D) : Sp := fun vs H Q E => vs.length = n ∧ ∃ G S ds, GOk Y G H S ∧ RDs Y G H vs ds ∧
  wpM (m ds) S (fun d S' => ∀ G' H' v, Ext G H G' H' → GOk Y G' H' S' → RD Y G' H' v d → Q v H') (fun x S' => ∀ G' H' cls dx, Ext G H G' H' → GOk Y G' H' S' → RX Y G' H' cls dx x → E cls dx H')
/-- a name of the module is what the table says -/
def GvOk (hot : Bool) (Y : Tx) (k : Nat) (C : Orc) (P : Program) (w : World) (K : PySem.W.Frag) (mg : Str → Option Value) (base : Heap) (x : Str) : Gv → Prop
  | .cst d => ∃ v u, mg x = some u ∧ RelV v u ∧ ∀ G H, RD Y G H v d
  | .fn n => hot = false → ∃ f, mg x = some (.ref f) ∧ PySem.W.keepIn K (.ref f) = true ∧ FnG P w K mg base k f n (spG Y n (C x))
  | .blt => mg x = none
  | .cls c => ∃ C, mg x = some (.ref C) ∧ Y.cls c = some C
  | .cfn c n => (∃ C, mg x = some (.ref C) ∧ Y.cls c = some C) ∧ (hot = false → ∃ f, mg x = some (.ref f) ∧ PySem.W.keepIn K (.ref f) = true ∧ FnG P w K mg base k f n (spG Y n (C x)))
  | .mth c m n => hot = false → ∀ Ca, Y.cls c = some Ca → ∃ f, Cls K Ca ∧ Meth K Ca m f ∧ FnG P w K mg base k f (n + 1) (spG Y (n + 1) (C x))
abbrev GtOk (hot : Bool) (gt : Gt) (Y : Tx) (k : Nat) (C : Orc) (P : Program) (w : World) (K : PySem.W.Frag) (mg : Str → Option Value) (base : Heap) : Prop := ∀ x v, gt.lookup x = some v → GvOk hot Y k C P w K mg base x v
/-- what the written part says of an exception's class and field -/
structure XcF (K : PySem.W.Frag) (C : Addr) (f : Str) : Prop where
  ga : PySem.W.findIn K (.ref C) "__getattribute__" = some (some (.builtin "BaseException.__getattribute__"))
  gt : PySem.W.findIn K (.ref C) "__getattr__" = some none
  sub : PySem.W.subIn K (.ref C) (.type "BaseException") = some true
  hd : PySem.W.hasDictIn K C = true
  no : PySem.W.findIn K (.ref C) f = some none
/-- what it says of an instance's class -/
structure InsF (K : PySem.W.Frag) (C : Addr) : Prop where
  cl : Cls K C
  ha : PySem.W.findIn K (.ref C) "__class__" = some (some (.builtin "object.__class__"))
  hn : PySem.W.specialIn K (.builtin "object.__class__") "__get__" = some (some (.builtin "getset_descriptor.__get__"))
  tk : PySem.W.takesIn K (.builtin "object.__class__") = some true
  hm : PySem.W.mroIn K C (.type "object") = some true
def tyNm (s : String) : Bool := s == "str" || s == "int" || s == "bool" || s == "tuple" || s == "list" || s == "dict"
def tyAll : List String := ["NoneType", "bool", "int", "str", "tuple", "list", "dict"]
structure KinOk (kin : Kin) (Y : Tx) : Prop where
  fld : ∀ c C f, Y.cls c = some C → (kin.fld c).contains f = true → Cls Y.K C ∧ NoAttr Y.K C f
  xfl : ∀ c C f, Y.cls c = some C → (kin.xfl c).contains f = true → XcF Y.K C f
  exm : ∀ c c' C C', kin.isX c = true → kin.isX c' = true → Y.cls c = some C → Y.cls c' = some C' → PySem.W.exmOne Y.K (.ref C) (.ref C') = some ((kin.par c).contains c')
  isT : ∀ c C T, Y.cls c = some C → T ∈ tyAll → PySem.W.kitOne Y.K (.type T) (.ref C) = some false
  isI : ∀ c C, kin.isI c = true → Y.cls c = some C → InsF Y.K C
  isC : ∀ c C n, kin.isI c = true → Y.cls c = some C → tyNm n = true → PySem.W.kitOne Y.K (.ref C) (.type n) = some false
  isK : ∀ c c' C C', kin.isI c = true → Y.cls c = some C → Y.cls c' = some C' → PySem.W.kitOne Y.K (.ref C) (.ref C') = some ((kin.par c).contains c')
structure Cok (kin : Kin) (gt : Gt) (Y : Tx) (k : Nat) (C : Orc) (g : Cfg) (X : Cx) (W : WX) : Prop where
  ox : XOk Y k g.hot X
  N : X.N = g.N
  sc : X.env.scope = g.sc
  fn : X.fn = g.fn
  tk : Takes X W
  cold : g.hot = false → Y.cur = none
  kok : KinOk kin Y
  cur : ∀ a cls dx, Y.cur = some (a, cls, dx) → ∃ oe, (a, oe) ∈ X.pn ∧ Zc cls dx oe ∧ (∃ vs, oe.data = .fields vs)
  gt : GtOk g.hot gt Y k C X.prog X.w X.K X.mg X.base
def RL (look : Bool) (Y : Tx) : Gh → Hp → V → D → Prop := fun G H v d => if look = true then RV Y G H v d else RD Y G H v d
theorem RD.rl {look : Bool} {Y : Tx} {G : Gh} {H : Hp} {v : V} {d : D} (r : RD Y G H v d) : RL look Y G H v d := by
  cases look with
  | true => exact .inl r
  | false => exact r
theorem RL.rv {look : Bool} {Y : Tx} {G : Gh} {H : Hp} {v : V} {d : D} (r : RL look Y G H v d) : RV Y G H v d := by
  cases look with
  | true => exact r
  | false => exact .inl r
def isLstE : Expr → Bool
  | .List .. => true
  | _ => false
def isLcE : Expr → Bool
  | .ListComp .. => true
  | _ => false
/-- list(e), the built-in one -/
def isLiE (gt : Gt) (g : Cfg) : Expr → Bool
  | .Call (.Name x _) [e] [] _ => x == "list" && !isStarred e && (match g.glo gt x with
    | some .blt => true
    | _ => false)
  | _ => false
/-- what gives a new list -/
def isNwE (gt : Gt) (g : Cfg) (e : Expr) : Bool := isLstE e || isLcE e || isLiE gt g e
/-- a list just made: one's own -/
def tN (Y : Tx) (W : WX) (m : Fe → M D) : TE := fun σ H Q => ∃ H0 G ρ S, GOk Y G H S ∧ SR Y H0 G H σ ρ ∧ wpM (m ρ) S (fun d S' => ∀ G' H' a vs ds, d = .lst ds → Ext G H G' H' → GOk Y G' H' S' → H a = none → H' a = some (.lst vs) → ¬ G'.Fz a → ¬ G'.Mu a → RDs Y G' H' vs ds → Q (.ref a) H') (RE Y G H σ W)
/-- a new list, or a value that is none -/
def NV (Y : Tx) (Hb : Hp) (G : Gh) (H : Hp) (v : V) (d : D) : Prop := (∃ a vs ds, v = .ref a ∧ d = .lst ds ∧ Hb a = none ∧ H a = some (.lst vs) ∧ ¬ G.Fz a ∧ ¬ G.Mu a ∧ RDs Y G H vs ds) ∨ ((∀ ds, d ≠ .lst ds) ∧ RD Y G H v d)
def tNV (Y : Tx) (W : WX) (m : Fe → M D) : TE := fun σ H Q => ∃ H0 G ρ S, GOk Y G H S ∧ SR Y H0 G H σ ρ ∧ wpM (m ρ) S (fun d S' => ∀ G' H' v, Ext G H G' H' → GOk Y G' H' S' → NV Y H G' H' v d → Q v H') (RE Y G H σ W)
def isAddE : Expr → Bool
  | .BinOp _ .Add _ _ => true
  | _ => false
structure Snd (kin : Kin) (gt : Gt) (r : Cfg → Cp) : Prop where
  a : ∀ (g : Cfg) (ex : Expr) (i : E) (X : Cx) (Y : Tx) (k : Nat) (C : Orc) (W : WX), isAddE ex = true → (r g).e false ex = some i → Cok kin gt Y k C g X W → PE X ex (tNV Y W (evE kin C i))
  e : ∀ (g : Cfg) (look : Bool) (ex : Expr) (i : E) (X : Cx) (Y : Tx) (k : Nat) (C : Orc) (W : WX), (r g).e look ex = some i → Cok kin gt Y k C g X W → PE X ex (tE Y W (RL look Y) (evE kin C i))
  q : ∀ (g : Cfg) (ex : Expr) (i : Q) (X : Cx) (Y : Tx) (k : Nat) (C : Orc) (W : WX), (r g).q ex = some i → Cok kin gt Y k C g X W → PT X ex (tQ Y W (evT kin C i))
  i : ∀ (g : Cfg) (look : Bool) (tg ex : Expr) (i : I) (X : Cx) (Y : Tx) (k : Nat) (C : Orc) (W : WX), (r g).i look ex = some i → Cok kin gt Y k C g X W → (i.pairs = true → isTupE tg = true) → PI X tg ex (tI Y W look (evI kin C i))
  c : ∀ (g : Cfg) (a : Expr) (ops : List CmpOp) (cs : List Expr) (p : Pos) (i : E) (X : Cx) (Y : Tx) (k : Nat) (C : Orc) (W : WX), (r g).e true (.Compare a ops cs p) = some i → Cok kin gt Y k C g X W → PT X (.Compare a ops cs p) (tQ Y W (evT kin C (.val i)))

  n : ∀ (g : Cfg) (ex : Expr) (i : E) (X : Cx) (Y : Tx) (k : Nat) (C : Orc) (W : WX), isNwE gt g ex = true → (r g).e false ex = some i → Cok kin gt Y k C g X W → PE X ex (tN Y W (evE kin C i))
  l : ∀ (g : Cfg) (elt : Expr) (gs : List Comprehension) (scope : Scope) (p pos : Pos) (px : Pos) (x : Str) (j : Nat) (i : E) (X : Cx) (Y : Tx) (k : Nat) (C : Orc) (W : WX), (r g).e false (.ListComp elt gs scope p) = some i → Cok kin gt Y k C g X W →
    X.N[j]? = some x → X.env.scope.names.lookup x = some .local → swapsWith (.ListComp elt gs scope p) (some (.Name x px)) pos.line X.env = pure true → PS X (.Assign [.Name x px] (.ListComp elt gs scope p) pos) (tAsg (tN Y W (evE kin C i)) (gName j))

theorem starEach_plain {e : Expr} {es : List Expr} {env : Env} (h : isStarred e = false) : starEach (e :: es) env = (false, eval e env) :: starEach es env := by
  cases e <;> first | rfl | cases h
theorem starEach_none {env : Env} {pos : Pos} : ∀ {es : List Expr}, es.all (fun a => !isStarred a) = true → (backTo pos (starEach es env)).any (·.1) = false
  | [], _ => rfl
  | e :: es, h => by
    rw [List.all_cons, Bool.and_eq_true] at h
    rw [starEach_plain (by simpa using h.1)]
    show (false || (backTo pos (starEach es env)).any (·.1)) = false
    rw [starEach_none h.2]; rfl

section
variable {Y : Tx} {k : Nat} {C : Orc} {g : Cfg} {gt : Gt} {X : Cx} {W : WX} {kin : Kin} {look : Bool}

/-! ### leaves -/
theorem findIdx_get {N : List Str} {x : Str} {i : Nat} (h : N.findIdx? (· == x) = some i) : N[i]? = some x := by
  rw [List.findIdx?_eq_some_iff_getElem] at h
  obtain ⟨hl, e, _⟩ := h
  rw [List.getElem?_eq_getElem hl]
  simpa using e
theorem loc_ok (o : Cok kin gt Y k C g X W) {x : Str} {i : Nat} (h : g.loc x = some i) : X.N[i]? = some x ∧ Vis X.env.scope x := by
  unfold Cfg.loc at h
  rw [o.N, o.sc]
  unfold Vis
  split at h
  · rename_i e; exact ⟨findIdx_get h, .inl e⟩
  · rename_i e; exact ⟨findIdx_get h, .inr (.inl e)⟩
  · rename_i e; exact ⟨findIdx_get h, .inr (.inr e)⟩
  · cases h
theorem glo_ok (o : Cok kin gt Y k C g X W) {x : Str} {v : Gv} (h : g.glo gt x = some v) : Gl X x ∧ GvOk g.hot Y k C X.prog X.w X.K X.mg X.base x v := by
  unfold Cfg.glo at h
  split at h
  · rename_i e
    refine ⟨?_, o.gt x v h⟩
    show X.env.scope.names.lookup x = _
    rw [o.sc]; exact e
  · cases h
theorem okName_ok {x : Str} (h : okName x = true) : (x == ("__debug__" : Str)) = false ∧ (x == ("__classdict__" : Str)) = false ∧ x ≠ "__name__" := by
  unfold okName at h
  simp only [Bool.and_eq_true, Bool.not_eq_true', beq_eq_false_iff_ne, ne_eq] at h
  exact ⟨beq_eq_false_iff_ne.mpr h.1.1, beq_eq_false_iff_ne.mpr h.1.2, h.2⟩
theorem t_var {i : Nat} {σ : L2.St} {H : Hp} {Q : VK} (h : tE Y W (RL look Y) (evE kin C (if look = true then .b i else .v i)) σ H Q) : tVar i σ H Q := by
  obtain ⟨H0, G, ρ, S, ok, sr, w⟩ := h
  cases look with
  | false =>
    have w : wpM (evE kin C (.v i) ρ) S (QE Y G H (RL false Y) Q) (RE Y G H σ W) := w
    unfold evE at w
    split at w
    · rename_i d hd
      obtain ⟨v, hv, r⟩ := sr.slot i _ hd
      exact ⟨v, hv, w G H v Ext.refl ok r⟩
    · exact w.elim
  | true =>
    have w : wpM (evE kin C (.b i) ρ) S (QE Y G H (RL true Y) Q) (RE Y G H σ W) := w
    unfold evE at w
    split at w
    · rename_i d hd
      obtain ⟨v, hv, r⟩ := sr.slot i _ hd
      exact ⟨v, hv, w G H v Ext.refl ok (.inl r)⟩
    · rename_i xs hd
      obtain ⟨a, vs, hv, ha, hf, hm, _, r⟩ := sr.slot i _ hd
      exact ⟨.ref a, hv, w G H _ Ext.refl ok (.inr ⟨a, vs, xs, rfl, rfl, ha, hm, r⟩)⟩
    · exact w.elim
theorem t_c {v : V} {d : D} {σ : L2.St} {H : Hp} {Q : VK} (hr : ∀ G H, RD Y G H v d) (h : tE Y W (RL look Y) (evE kin C (.c d)) σ H Q) : tC v σ H Q := by
  obtain ⟨H0, G, ρ, S, ok, sr, w⟩ := h
  exact w G H v Ext.refl ok (hr G H).rl
theorem s_name {x : Str} {pos : Pos} {i : E} (h : nameW gt g look x = some i) (o : Cok kin gt Y k C g X W) : PE X (.Name x pos) (tE Y W (RL look Y) (evE kin C i)) := by
  unfold nameW at h
  split at h
  · rename_i hn
    obtain ⟨n1, n2, n3⟩ := okName_ok hn
    split at h
    · rename_i j hj
      obtain ⟨e1, e2⟩ := loc_ok o hj
      cases h
      refine (pe_var e1 e2 n1 n2).imp fun σ H Q h => ?_
      exact t_var (look := look) (kin := kin) (C := C) h
    · split at h
      · rename_i d hd
        cases h
        obtain ⟨hg, v, u, hm, rv, hr⟩ := glo_ok o hd
        exact (pe_glob hg hm rv n1).imp fun σ H Q h => t_c hr h
      · cases h
  · cases h
theorem s_const {c : Const} {j : Nat} {pos : Pos} {d : D} (h : constD c = some d) : PE X (.Constant c j pos) (tE Y W (RL look Y) (evE kin C (.c d))) := by
  cases c <;> cases h
  · exact pe_non.imp fun σ H Q h => t_c (fun _ _ => .non) h
  · exact pe_bl.imp fun σ H Q h => t_c (fun _ _ => .bl _) h
  · exact pe_int.imp fun σ H Q h => t_c (fun _ _ => .int _) h
  · exact pe_str.imp fun σ H Q h => t_c (fun _ _ => .str _) h

/-! ### operations -/
abbrev PEl (X : Cx) (Y : Tx) (W : WX) (kin : Kin) (C : Orc) (ex : Expr) (i : E) : Prop := PE X ex (tE Y W (RL true Y) (evE kin C i))
theorem t_rl {m : Fe → M D} {σ : L2.St} {H : Hp} {Q : VK} (h : tE Y W (RL look Y) m σ H Q) : tE Y W (RD Y) m σ H Q := by
  obtain ⟨H0, G, ρ, S, ok, sr, w⟩ := h
  exact ⟨H0, G, ρ, S, ok, sr, wpM_mono w (fun d S' q G' H' v e ok' r => q G' H' v e ok' r.rl) fun _ _ h => h⟩
theorem t_lr {m : Fe → M D} {σ : L2.St} {H : Hp} {Q : VK} (h : tE Y W (RV Y) m σ H Q) : tE Y W (RL true Y) m σ H Q := h
theorem s_bin {a b : Expr} {x y : E} {op : Operator} {pos : Pos} (o : Cok kin gt Y k C g X W) (ha : PEl X Y W kin C a x) (hb : PEl X Y W kin C b y) : PE X (.BinOp a op b pos) (tE Y W (RL look Y) (evE kin C (.bin op x y))) :=
  (pe_op (or_bin o.ox op) ha hb).imp fun σ H Q h => tB (t_rl h)
theorem s_cmp {a b : Expr} {x y : E} {op : CmpOp} {pos : Pos} (o : Cok kin gt Y k C g X W) (ha : PEl X Y W kin C a x) (hb : PEl X Y W kin C b y) (hs : isSet b = false) : PE X (.Compare a [op] [b] pos) (tE Y W (RL look Y) (evE kin C (.cmp op x y))) :=
  (pe_cmpR (or_cmp o.ox op) ha hb (by cases b <;> first | rfl | cases hs)).imp fun σ H Q h => tB (t_rl h)
theorem cmpD_bl {op : CmpOp} {x y d : D} (h : cmpD op x y = some d) : ∃ b, d = .bl b := by
  unfold cmpD at h
  split at h <;> first
    | (split at h
       · cases h; exact ⟨_, rfl⟩
       · cases eb : emptyEq x y with
         | none => rw [eb] at h; cases h
         | some b => rw [eb] at h; cases h; exact ⟨_, rfl⟩)
    | (repeat' (split at h <;> try (cases h; done))
       all_goals (cases h; exact ⟨_, rfl⟩))
theorem t_chain {x y z : E} {op op' : CmpOp} {σ : L2.St} {H : Hp} {Q : VK} (h : tE Y W (RD Y) (evE kin C (.chain op op' x y z)) σ H Q) : tChain (rB Y (cmpD op)) (rB Y (cmpD op')) (tE Y W (RL true Y) (evE kin C x)) (tE Y W (RL true Y) (evE kin C y)) (tE Y W (RL true Y) (evE kin C z)) σ H Q := by
    obtain ⟨H0, G, ρ, S, ok, sr, w⟩ := h
    have w : wpM (evE kin C (.chain op op' x y z) ρ) S (QE Y G H (RD Y) Q) (RE Y G H σ W) := w
    unfold evE at w
    refine ⟨H0, G, ρ, S, ok, sr, wpM_mono (wpM_bind.mp w) (fun d1 S1 w1 G1 H1 v1 e1 ok1 r1 => ?_) fun _ _ h => h⟩
    refine ⟨H0, G1, ρ, S1, ok1, sr.ext e1 ok, wpM_mono (wpM_bind.mp w1) (fun d2 S2 w2 G2 H2 v2 e2 ok2 r2 => ?_) fun x S h => h.trans e1⟩
    obtain ⟨d3, hd3, w3⟩ := wpM_op.mp (wpM_bind.mp w2)
    obtain ⟨bb, rfl⟩ := cmpD_bl hd3
    refine ⟨G2, S2, d1, d2, .bl bb, ok2, (RL.rv r1).ext e2 ok1, RL.rv r2, hd3, fun G3 H3 u e3 ok3 r3 => ?_⟩
    cases r3
    refine ⟨bb, rfl, ?_⟩
    cases bb with
    | false =>
      rw [if_neg (by decide)]
      exact w3 G3 H3 _ (e1.trans (e2.trans e3)) ok3 (.bl _)
    | true =>
      rw [if_pos rfl]
      have w4 := wpM_bind.mp w3
      refine ⟨H0, G3, ρ, S2, ok3, (sr.ext e1 ok).ext (e2.trans e3) ok1, wpM_mono w4 (fun d4 S4 w5 G4 H4 v4 e4 ok4 r4 => ?_) fun x S h => h.trans (e1.trans (e2.trans e3))⟩
      obtain ⟨d5, hd5, w6⟩ := wpM_op.mp w5
      exact ⟨G4, S4, d2, d4, d5, ok4, (RL.rv r2).ext (e3.trans e4) ok2, RL.rv r4, hd5, fun G5 H5 u e5 ok5 r5 => w6 G5 H5 u (e1.trans (e2.trans (e3.trans (e4.trans e5)))) ok5 r5⟩
theorem s_chain {a b c : Expr} {x y z : E} {op op' : CmpOp} {pos : Pos} (o : Cok kin gt Y k C g X W) (ha : PEl X Y W kin C a x) (hb : PEl X Y W kin C b y) (hc : PEl X Y W kin C c z) (hs : isSet c = false) : PE X (.Compare a [op, op'] [b, c] pos) (tE Y W (RL look Y) (evE kin C (.chain op op' x y z))) :=
  (pe_chain (or_cmp o.ox op) (or_cmp o.ox op') ha hb hc (by show behindInMarks op' c = false; cases c <;> first | rfl | cases hs)).imp fun σ H Q h => t_chain (t_rl h)
theorem s_neg {a : Expr} {x : E} {pos : Pos} (ha : PEl X Y W kin C a x) : PE X (.UnaryOp .USub a pos) (tE Y W (RL look Y) (evE kin C (.neg x))) :=
  (pe_un un_neg ha).imp fun σ H Q h => by
    obtain ⟨H0, G, ρ, S, ok, sr, w⟩ := t_rl h
    have w : wpM (evE kin C (.neg x) ρ) S (QE Y G H (RD Y) Q) (RE Y G H σ W) := w
    unfold evE at w
    refine ⟨H0, G, ρ, S, ok, sr, wpM_mono (wpM_bind.mp w) (fun d1 S1 w1 G1 H1 v1 e1 ok1 r1 => ?_) fun _ _ h => h⟩
    split at w1
    · rename_i i
      exact ⟨i, (RL.rv r1).int, w1 G1 H1 _ e1 ok1 (.int _)⟩
    · exact w1.elim
theorem s_not {a : Expr} {x : E} {pos : Pos} (ha : PEl X Y W kin C a x) : PE X (.UnaryOp .Not a pos) (tE Y W (RL look Y) (evE kin C (.not x))) :=
  (pe_not ha).imp fun σ H Q h => by
    obtain ⟨H0, G, ρ, S, ok, sr, w⟩ := t_rl h
    have w : wpM (evE kin C (.not x) ρ) S (QE Y G H (RD Y) Q) (RE Y G H σ W) := w
    unfold evE at w
    refine ⟨H0, G, ρ, S, ok, sr, wpM_mono (wpM_bind.mp w) (fun d1 S1 w1 G1 H1 v1 e1 ok1 r1 => ?_) fun _ _ h => h⟩
    split at w1
    · rename_i i
      exact ⟨i, (RL.rv r1).bl, w1 G1 H1 _ e1 ok1 (.bl _)⟩
    · exact w1.elim
theorem s_and {a b : Expr} {es : List Expr} {x y : E} {pos : Pos} (ha : PE X a (tE Y W (RD Y) (evE kin C x))) (hb : PE X (.BoolOp .And (b :: es) pos) (tE Y W (RD Y) (evE kin C y))) : PE X (.BoolOp .And (a :: b :: es) pos) (tE Y W (RD Y) (evE kin C (.and x y))) :=
  (pe_and ha hb).imp fun σ H Q h => by
    obtain ⟨H0, G, ρ, S, ok, sr, w⟩ := h
    have w : wpM (evE kin C (.and x y) ρ) S (QE Y G H (RD Y) Q) (RE Y G H σ W) := w
    unfold evE at w
    refine ⟨H0, G, ρ, S, ok, sr, wpM_mono (wpM_bind.mp w) (fun d1 S1 w1 G1 H1 v1 e1 ok1 r1 => ?_) fun _ _ h => h⟩
    split at w1
    · cases r1
      refine ⟨true, rfl, ?_⟩
      rw [if_pos rfl]
      exact ⟨H0, G1, ρ, S1, ok1, sr.ext e1 ok, wpM_mono w1 (fun d S2 q G' H' v e' ok' r => q G' H' v (e1.trans e') ok' r) fun x S h => h.trans e1⟩
    · cases r1
      refine ⟨false, rfl, ?_⟩
      rw [if_neg (by decide)]
      exact w1 G1 H1 _ e1 ok1 (.bl _)
    · exact w1.elim
theorem s_or {a b : Expr} {es : List Expr} {x y : E} {pos : Pos} (ha : PE X a (tE Y W (RD Y) (evE kin C x))) (hb : PE X (.BoolOp .Or (b :: es) pos) (tE Y W (RD Y) (evE kin C y))) : PE X (.BoolOp .Or (a :: b :: es) pos) (tE Y W (RD Y) (evE kin C (.or x y))) :=
  (pe_or ha hb).imp fun σ H Q h => by
    obtain ⟨H0, G, ρ, S, ok, sr, w⟩ := h
    have w : wpM (evE kin C (.or x y) ρ) S (QE Y G H (RD Y) Q) (RE Y G H σ W) := w
    unfold evE at w
    refine ⟨H0, G, ρ, S, ok, sr, wpM_mono (wpM_bind.mp w) (fun d1 S1 w1 G1 H1 v1 e1 ok1 r1 => ?_) fun _ _ h => h⟩
    split at w1
    · cases r1
      refine ⟨true, rfl, ?_⟩
      rw [if_pos rfl]
      exact w1 G1 H1 _ e1 ok1 (.bl _)
    · cases r1
      refine ⟨false, rfl, ?_⟩
      rw [if_neg (by decide)]
      exact ⟨H0, G1, ρ, S1, ok1, sr.ext e1 ok, wpM_mono w1 (fun d S2 q G' H' v e' ok' r => q G' H' v (e1.trans e') ok' r) fun x S h => h.trans e1⟩
    · exact w1.elim
theorem s_boolW {r : Cfg → Cp} (sn : Snd kin gt r) (o : Cok kin gt Y k C g X W) {op : BoolOp} {pos : Pos} : ∀ (es : List Expr) (i : E), boolW r g op es = some i → PE X (.BoolOp op es pos) (tE Y W (RD Y) (evE kin C i))
  | [], i, h => by simp [boolW] at h
  | [e], i, h => (pe_one (sn.e g false e i X Y k C W h o)).imp fun σ H Q h => h
  | e :: e2 :: es, i, h => by
    unfold boolW at h
    simp only [Option.bind_eq_bind, Option.bind_eq_some_iff, Option.some.injEq] at h
    obtain ⟨a, h1, b, h2, rfl⟩ := h
    have ih := s_boolW sn o (op := op) (pos := pos) (e2 :: es) b h2
    have h3 : PE X e (tE Y W (RD Y) (evE kin C a)) := sn.e g false e a X Y k C W h1 o
    cases op with
    | And => exact s_and h3 ih
    | Or => exact s_or h3 ih
theorem s_ife {t a b : Expr} {q : Q} {x y : E} {pos : Pos} (ht : PT X t (tQ Y W (evT kin C q))) (ha : PE X a (tE Y W (RD Y) (evE kin C x))) (hb : PE X b (tE Y W (RD Y) (evE kin C y))) : PE X (.IfExp t a b pos) (tE Y W (RL look Y) (evE kin C (.ife q x y))) :=
  (pe_ifExp ht ha hb).imp fun σ H Q h => by
    obtain ⟨H0, G, ρ, S, ok, sr, w⟩ := t_rl h
    have w : wpM (evE kin C (.ife q x y) ρ) S (QE Y G H (RD Y) Q) (RE Y G H σ W) := w
    unfold evE at w
    refine ⟨H0, G, ρ, S, ok, sr, wpM_mono (wpM_bind.mp w) (fun d1 S1 w1 G1 H1 e1 ok1 => ?_) fun _ _ h => h⟩
    have fin : ∀ z : E, wpM (evE kin C z ρ) S1 (QE Y G H (RD Y) Q) (RE Y G H σ W) → tE Y W (RD Y) (evE kin C z) σ H1 Q := fun z w1 => ⟨H0, G1, ρ, S1, ok1, sr.ext e1 ok, wpM_mono w1 (fun d S2 q G' H' v e' ok' r => q G' H' v (e1.trans e') ok' r) fun x S h => h.trans e1⟩
    cases d1 with
    | true => exact fin x w1
    | false => exact fin y w1

/-! ### tests -/
theorem isEmpty_rds {G : Gh} {H : Hp} {vs : List V} {ds : List D} (r : RDs Y G H vs ds) : (!ds.isEmpty) = !vs.isEmpty := by
  cases r <;> rfl
theorem truD_ok (o : Cok kin gt Y k C g X W) {G : Gh} {H : Hp} {v : V} {d : D} {b : Bool} (r : RV Y G H v d) (h : truD d = some b) : TruV X.K v H b := by
  have hK := o.ox.hK
  cases d <;> simp only [truD] at h <;> try (cases h; done)
  · cases r.non; cases h; rfl
  · cases r.bl; cases h; rfl
  · cases r.int; cases h; rfl
  · rename_i z
    cases r.str
    split at h
    · rename_i hz
      cases h
      refine ⟨hz, ?_⟩
      show (z.length != 0) = ((z.length : Int) != 0)
      cases z.length <;> rfl
    · cases h
  · obtain ⟨a, vs, rfl, hq, rs⟩ := r.tup
    cases h
    exact .inr (.inl ⟨vs, by rw [hK]; exact hq, isEmpty_rds rs⟩)
  · obtain ⟨a, vs, rfl, hq, rs⟩ := r.lst
    cases h
    exact .inl ⟨vs, .of hq, isEmpty_rds rs⟩
theorem s_val {a : Expr} {x : E} (o : Cok kin gt Y k C g X W) (ha : PEl X Y W kin C a x) (he : ∀ whole, isTrue a X.env whole = (do let v ← whole; standAt a.pos; holding [v] (truthy v))) : PT X a (tQ Y W (evT kin C (.val x))) :=
  (pt_truth ha he).imp fun σ H Q h => by
    obtain ⟨H0, G, ρ, S, ok, sr, w⟩ := h
    have w : wpM (evT kin C (.val x) ρ) S _ (RE Y G H σ W) := w
    unfold evT at w
    refine ⟨H0, G, ρ, S, ok, sr, wpM_mono (wpM_bind.mp w) (fun d1 S1 w1 G1 H1 v1 e1 ok1 r1 => ?_) fun _ _ h => h⟩
    obtain ⟨b, hb, w2⟩ := wpM_op.mp w1
    exact ⟨b, truD_ok o (RL.rv r1) hb, w2 G1 H1 e1 ok1⟩
/-- a comparison as a test -/
theorem t_test {m : Fe → M D} {t : TE} {σ : L2.St} {H : Hp} {Q : Bool → Hp → Prop} (ht : ∀ σ H Q, tE Y W (RD Y) m σ H Q → t σ H Q) (hbl : ∀ ρ S Qd R, wpM (m ρ) S Qd R → wpM (m ρ) S (fun d S' => Qd d S' ∧ ∃ b, d = .bl b) R) (h : tQ Y W (fun ρ => do M.op (truD (← m ρ))) σ H Q) : tTest t σ H Q := by
  obtain ⟨H0, G, ρ, S, ok, sr, w⟩ := h
  refine ht σ H _ ⟨H0, G, ρ, S, ok, sr, wpM_mono (hbl ρ S _ _ (wpM_bind.mp w)) (fun d1 S1 w1 G1 H1 v1 e1 ok1 r1 => ?_) fun _ _ h => h⟩
  obtain ⟨w1, b, rfl⟩ := w1
  cases r1
  exact ⟨b, rfl, w1 G1 H1 e1 ok1⟩
theorem wpM_and {α : Type} {m : M α} {S : Sto} {Q : α → Sto → Prop} {R : D → Sto → Prop} {p : α → Prop} (h : wpM m S Q R) (hp : ∀ S, wpM m S (fun a _ => p a) (fun _ _ => True)) : wpM m S (fun a S' => Q a S' ∧ p a) R := by
  have key : ∀ t : T α, t.wp Q R → t.wp (fun a _ => p a) (fun _ _ => True) → t.wp (fun a S' => Q a S' ∧ p a) R := by
    intro t
    induction t with
    | ret a S => exact fun h1 h2 => ⟨h1, h2⟩
    | raise x S => exact fun h1 _ => h1
    | fail => exact fun h1 _ => h1
    | draw n k ih => exact fun h1 h2 i hi => ih i (h1 i hi) (h2 i hi)
  exact key _ h (hp S)
/-- whatever ends, ends so -/
def endsIn {α : Type} (p : α → Prop) : T α → Prop
  | .ret a _ => p a
  | .raise _ _ => True
  | .fail => True
  | .draw _ k => ∀ i, endsIn p (k i)
theorem wp_ends {α : Type} {p : α → Prop} {Q : α → Sto → Prop} {R : D → Sto → Prop} : ∀ {t : T α}, endsIn p t → t.wp Q R → t.wp (fun a S' => Q a S' ∧ p a) R
  | .ret _ _, e, h => ⟨h, e⟩
  | .raise _ _, _, h => h
  | .fail, _, h => h
  | .draw _ _, e, h => fun i hi => wp_ends (e i) (h i hi)
theorem ends_bind {α β : Type} {p : β → Prop} {f : α → Sto → T β} : ∀ {t : T α}, (∀ a S, endsIn p (f a S)) → endsIn p (t.bind f)
  | .ret a S, h => h a S
  | .raise _ _, _ => trivial
  | .fail, _ => trivial
  | .draw _ _, h => fun i => ends_bind h
theorem cmp_ends {op : CmpOp} {x y : D} {S : Sto} : endsIn (fun d => ∃ b, d = .bl b) (M.op (cmpD op x y) S) := by
  cases h : cmpD op x y with
  | none => exact trivial
  | some d => exact cmpD_bl h
theorem evT_val (x : E) : evT kin C (.val x) = (fun ρ => do M.op (truD (← evE kin C x ρ))) := by
  funext ρ; unfold evT; rfl
theorem s_tcmp {a b : Expr} {x y : E} {op : CmpOp} {pos : Pos} (o : Cok kin gt Y k C g X W) (ha : PEl X Y W kin C a x) (hb : PEl X Y W kin C b y) (hs : isSet b = false) : PT X (.Compare a [op] [b] pos) (tQ Y W (evT kin C (.val (.cmp op x y)))) :=
  (pt_cmpR (or_cmp o.ox op) ha hb (by cases b <;> first | rfl | cases hs)).imp fun σ H Q h => t_test (m := evE kin C (.cmp op x y)) (fun σ H Q h => tB h) (fun ρ S Qd R h => wp_ends (by unfold evE; exact ends_bind fun d S => ends_bind fun d' S' => cmp_ends) h) (by rw [evT_val] at h; exact h)
theorem s_tchain {a b c : Expr} {x y z : E} {op op' : CmpOp} {pos : Pos} (o : Cok kin gt Y k C g X W) (ha : PEl X Y W kin C a x) (hb : PEl X Y W kin C b y) (hc : PEl X Y W kin C c z) (hs : isSet c = false) : PT X (.Compare a [op, op'] [b, c] pos) (tQ Y W (evT kin C (.val (.chain op op' x y z)))) :=
  (pt_chain (or_cmp o.ox op) (or_cmp o.ox op') ha hb hc (by show behindInMarks op' c = false; cases c <;> first | rfl | cases hs)).imp fun σ H Q h => t_test (m := evE kin C (.chain op op' x y z)) (fun σ H Q h => t_chain h)
    (fun ρ S Qd R h => wp_ends (by
      unfold evE
      refine ends_bind fun d S => ends_bind fun d' S' => ?_
      refine ends_bind fun d'' S'' => ?_
      split
      · exact ends_bind fun _ _ => cmp_ends
      · exact ⟨false, rfl⟩
      · exact trivial) h) (by rw [evT_val] at h; exact h)
/-- a test goes on -/
theorem tQ_on {H0 : Hp} {G G1 : Gh} {H H1 : Hp} {S S1 : Sto} {σ : L2.St} {ρ : Fe} {m : Fe → M Bool} {Q : Bool → Hp → Prop} (e1 : Ext G H G1 H1) (ok : GOk Y G H S) (ok1 : GOk Y G1 H1 S1) (sr : SR Y H0 G H σ ρ)
    (w : wpM (m ρ) S1 (fun b S' => ∀ G' H', Ext G H G' H' → GOk Y G' H' S' → Q b H') (RE Y G H σ W)) : tQ Y W m σ H1 Q :=
  ⟨H0, G1, ρ, S1, ok1, sr.ext e1 ok, wpM_mono w (fun b S2 q G' H' e' ok' => q G' H' (e1.trans e') ok') fun x S h => h.trans e1⟩
theorem t_tand {x y : Q} {σ : L2.St} {H : Hp} {Q : Bool → Hp → Prop} (h : tQ Y W (evT kin C (.and x y)) σ H Q) : tAnd (tQ Y W (evT kin C x)) (tQ Y W (evT kin C y)) σ H Q := by
  obtain ⟨H0, G, ρ, S, ok, sr, w⟩ := h
  unfold evT at w
  refine ⟨H0, G, ρ, S, ok, sr, wpM_mono (wpM_bind.mp w) (fun c S1 w1 G1 H1 e1 ok1 => ?_) fun _ _ h => h⟩
  cases c with
  | true => exact tQ_on e1 ok ok1 sr w1
  | false => exact w1 G1 H1 e1 ok1
theorem t_tor {x y : Q} {σ : L2.St} {H : Hp} {Q : Bool → Hp → Prop} (h : tQ Y W (evT kin C (.or x y)) σ H Q) : tOr (tQ Y W (evT kin C x)) (tQ Y W (evT kin C y)) σ H Q := by
  obtain ⟨H0, G, ρ, S, ok, sr, w⟩ := h
  unfold evT at w
  refine ⟨H0, G, ρ, S, ok, sr, wpM_mono (wpM_bind.mp w) (fun c S1 w1 G1 H1 e1 ok1 => ?_) fun _ _ h => h⟩
  cases c with
  | true => exact w1 G1 H1 e1 ok1
  | false => exact tQ_on e1 ok ok1 sr w1
theorem t_tnot {x : Q} {σ : L2.St} {H : Hp} {Q : Bool → Hp → Prop} (h : tQ Y W (evT kin C (.not x)) σ H Q) : tNot (tQ Y W (evT kin C x)) σ H Q := by
  obtain ⟨H0, G, ρ, S, ok, sr, w⟩ := h
  unfold evT at w
  exact ⟨H0, G, ρ, S, ok, sr, wpM_mono (wpM_bind.mp w) (fun c S1 w1 G1 H1 e1 ok1 => w1 G1 H1 e1 ok1) fun _ _ h => h⟩
theorem s_testW {r : Cfg → Cp} (sn : Snd kin gt r) (o : Cok kin gt Y k C g X W) {op : BoolOp} {pos : Pos} : ∀ (es : List Expr) (i : Q), testW r g op es = some i → PW X (.BoolOp op es pos) (tQ Y W (evT kin C i))
  | [], i, h => by simp [testW] at h
  | [e], i, h => by
    have h1 : PT X e (tQ Y W (evT kin C i)) := sn.q g e i X Y k C W h o
    cases op with
    | And => exact pw_and1 h1
    | Or => exact pw_or1 h1
  | e :: e2 :: es, i, h => by
    unfold testW at h
    simp only [Option.bind_eq_bind, Option.bind_eq_some_iff, Option.some.injEq] at h
    obtain ⟨a, h1, b, h2, rfl⟩ := h
    have ih := s_testW sn o (op := op) (pos := pos) (e2 :: es) b h2
    have h3 : PT X e (tQ Y W (evT kin C a)) := sn.q g e a X Y k C W h1 o
    cases op with
    | And => exact (pw_and h3 ih).imp fun σ H Q h => t_tand h
    | Or => exact (pw_or h3 ih).imp fun σ H Q h => t_tor h

/-! ### displays, argument lists -/
def tEsR (Y : Tx) (W : WX) (R : Gh → Hp → V → D → Prop) (m : Fe → M (List D)) : TA := fun σ H Q => ∃ H0 G ρ S, GOk Y G H S ∧ SR Y H0 G H σ ρ ∧ wpM (m ρ) S (fun ds S' => ∀ G' H' vs, Ext G H G' H' → GOk Y G' H' S' → Paired (R G' H') vs ds → Q vs H') (RE Y G H σ W)
theorem rds_paired {G : Gh} {H : Hp} : ∀ {vs : List V} {ds : List D}, RDs Y G H vs ds → Paired (RD Y G H) vs ds
  | _, _, .nil => .nil
  | _, _, .cons a b => .cons a (rds_paired b)
theorem paired_rds {G : Gh} {H : Hp} : ∀ {vs : List V} {ds : List D}, Paired (RD Y G H) vs ds → RDs Y G H vs ds
  | _, _, .nil => .nil
  | _, _, .cons a b => .cons a (paired_rds b)
theorem rv_paired_ext {G G' : Gh} {H H' : Hp} {S : Sto} (e : Ext G H G' H') (ok : GOk Y G H S) : ∀ {vs : List V} {ds : List D}, Paired (RV Y G H) vs ds → Paired (RV Y G' H') vs ds
  | _, _, .nil => .nil
  | _, _, .cons a b => .cons (a.ext e ok) (rv_paired_ext e ok b)
theorem tEs_nil {σ : L2.St} {H : Hp} {Q : List V → Hp → Prop} (h : tEs Y W (evEs kin C .nil) σ H Q) : tNil σ H Q := by
  obtain ⟨H0, G, ρ, S, ok, sr, w⟩ := h
  unfold evEs at w
  exact w G H [] Ext.refl ok .nil
theorem tEs_cons {x : E} {xs : Es} {σ : L2.St} {H : Hp} {Q : List V → Hp → Prop} (h : tEs Y W (evEs kin C (.cons x xs)) σ H Q) : tCons (tE Y W (RD Y) (evE kin C x)) (tEs Y W (evEs kin C xs)) σ H Q := by
  obtain ⟨H0, G, ρ, S, ok, sr, w⟩ := h
  unfold evEs at w
  refine ⟨H0, G, ρ, S, ok, sr, wpM_mono (wpM_bind.mp w) (fun d S1 w1 G1 H1 v1 e1 ok1 r1 => ?_) fun _ _ h => h⟩
  exact ⟨H0, G1, ρ, S1, ok1, sr.ext e1 ok, wpM_mono (wpM_bind.mp w1) (fun ds S2 w2 G2 H2 vs e2 ok2 r2 => w2 G2 H2 _ (e1.trans e2) ok2 (.cons (r1.ext e2 ok1) r2)) fun x S h => h.trans e1⟩
theorem tEs_star (hK : X.K = Y.K) {x : E} {xs : Es} {σ : L2.St} {H : Hp} {Q : List V → Hp → Prop} (h : tEs Y W (evEs kin C (.star x xs)) σ H Q) : StX.tStar X.K (tE Y W (RL true Y) (evE kin C x)) (tEs Y W (evEs kin C xs)) σ H Q := by
  obtain ⟨H0, G, ρ, S, ok, sr, w⟩ := h
  unfold evEs at w
  refine ⟨H0, G, ρ, S, ok, sr, wpM_mono (wpM_bind.mp w) (fun d S1 w1 G1 H1 v1 e1 ok1 r1 => ?_) fun _ _ h => h⟩
  obtain ⟨ys, hy, w2⟩ := wpM_op.mp (wpM_bind.mp w1)
  obtain ⟨a, vs, rfl, hq, rs⟩ := (RL.rv r1).items hy
  refine ⟨a, vs, rfl, by rw [hK]; exact hq.symm, ?_⟩
  exact ⟨H0, G1, ρ, S1, ok1, sr.ext e1 ok, wpM_mono (wpM_bind.mp w2) (fun ds S2 w2 G2 H2 vs' e2 ok2 r2 => w2 G2 H2 _ (e1.trans e2) ok2 ((rs.ext e2 ok1).append r2)) fun x S h => h.trans e1⟩
theorem tEl_nil {σ : L2.St} {H : Hp} {Q : List V → Hp → Prop} (h : tEsR Y W (RV Y) (evEs kin C .nil) σ H Q) : tNil σ H Q := by
  obtain ⟨H0, G, ρ, S, ok, sr, w⟩ := h
  unfold evEs at w
  exact w G H [] Ext.refl ok .nil
theorem tEl_cons {x : E} {xs : Es} {σ : L2.St} {H : Hp} {Q : List V → Hp → Prop} (h : tEsR Y W (RV Y) (evEs kin C (.cons x xs)) σ H Q) : tCons (tE Y W (RL true Y) (evE kin C x)) (tEsR Y W (RV Y) (evEs kin C xs)) σ H Q := by
  obtain ⟨H0, G, ρ, S, ok, sr, w⟩ := h
  unfold evEs at w
  refine ⟨H0, G, ρ, S, ok, sr, wpM_mono (wpM_bind.mp w) (fun d S1 w1 G1 H1 v1 e1 ok1 r1 => ?_) fun _ _ h => h⟩
  exact ⟨H0, G1, ρ, S1, ok1, sr.ext e1 ok, wpM_mono (wpM_bind.mp w1) (fun ds S2 w2 G2 H2 vs e2 ok2 r2 => w2 G2 H2 _ (e1.trans e2) ok2 (.cons ((RL.rv r1).ext e2 ok1) r2)) fun x S h => h.trans e1⟩
theorem s_es {r : Cfg → Cp} (sn : Snd kin gt r) (o : Cok kin gt Y k C g X W) : ∀ (es : List Expr) (i : Es), esW ((r g).e false) ((r g).e true) es = some i → PA X es (tEs Y W (evEs kin C i))
  | [], i, h => by cases h; exact pa_nil.imp fun σ H Q h => tEs_nil h
  | e :: es, i, h => by
    by_cases hs : isStarred e = true
    · cases e <;> try (cases hs; done)
      rename_i e p
      simp only [esW, Option.bind_eq_bind, Option.bind_eq_some_iff, Option.some.injEq] at h
      obtain ⟨a, h1, b, h2, rfl⟩ := h
      have h3 : PE X e (tE Y W (RL true Y) (evE kin C a)) := sn.e g true e a X Y k C W h1 o
      exact (StX.pa_star h3 (s_es sn o es b h2)).imp fun σ H Q h => tEs_star o.ox.hK h
    · have hs : isStarred e = false := by simpa using hs
      have h' : (do
        let a ← (r g).e false e
        let b ← esW ((r g).e false) ((r g).e true) es
        some (Es.cons a b)) = some i := by
        cases e <;> first | exact h | cases hs
      simp only [Option.bind_eq_bind, Option.bind_eq_some_iff, Option.some.injEq] at h'
      obtain ⟨a, h1, b, h2, rfl⟩ := h'
      have h3 : PE X e (tE Y W (RD Y) (evE kin C a)) := sn.e g false e a X Y k C W h1 o
      exact (pa_cons h3 (s_es sn o es b h2) (starEach_plain hs)).imp fun σ H Q h => tEs_cons h
theorem s_el {r : Cfg → Cp} (sn : Snd kin gt r) (o : Cok kin gt Y k C g X W) : ∀ (es : List Expr) (i : Es), es.all (fun a => !isStarred a) = true → esW ((r g).e true) ((r g).e true) es = some i → PA X es (tEsR Y W (RV Y) (evEs kin C i))
  | [], i, _, h => by cases h; exact pa_nil.imp fun σ H Q h => tEl_nil h
  | e :: es, i, hs, h => by
    rw [List.all_cons, Bool.and_eq_true] at hs
    have hs1 : isStarred e = false := by simpa using hs.1
    have h' : (do
      let a ← (r g).e true e
      let b ← esW ((r g).e true) ((r g).e true) es
      some (Es.cons a b)) = some i := by
      cases e <;> first | exact h | cases hs1
    simp only [Option.bind_eq_bind, Option.bind_eq_some_iff, Option.some.injEq] at h'
    obtain ⟨a, h1, b, h2, rfl⟩ := h'
    have h3 : PE X e (tE Y W (RL true Y) (evE kin C a)) := sn.e g true e a X Y k C W h1 o
    exact (pa_cons h3 (s_el sn o es b hs.2 h2) (starEach_plain hs1)).imp fun σ H Q h => tEl_cons h
theorem s_tup {es : List Expr} {i : Es} {x1 : Nat} {pos : Pos} (h : PA X es (tEs Y W (evEs kin C i))) : PE X (.Tuple es x1 pos) (tE Y W (RL look Y) (evE kin C (.tup i))) :=
  (pe_tup h).imp fun σ H Q h => by
    obtain ⟨H0, G, ρ, S, ok, sr, w⟩ := t_rl h
    unfold evE at w
    refine ⟨H0, G, ρ, S, ok, sr, wpM_mono (wpM_bind.mp w) (fun ds S1 w1 G1 H1 vs e1 ok1 r1 => ?_) fun _ _ h => h⟩
    unfold mkTup at w1
    split at w1
    · rename_i hz
      exact ⟨by rw [r1.length]; exact hz, fin_tup ok1 r1 fun G' H' w e' ok' r' => w1 G' H' w (e1.trans e') ok' r'⟩
    · exact w1.elim
theorem s_lst {es : List Expr} {i : Es} {pos : Pos} (h : PA X es (tEs Y W (evEs kin C i))) : PE X (.List es pos) (tE Y W (RL look Y) (evE kin C (.lst i))) :=
  (pe_lst h).imp fun σ H Q h => by
    obtain ⟨H0, G, ρ, S, ok, sr, w⟩ := t_rl h
    unfold evE at w
    refine ⟨H0, G, ρ, S, ok, sr, wpM_mono (wpM_bind.mp w) (fun ds S1 w1 G1 H1 vs e1 ok1 r1 => ?_) fun _ _ h => h⟩
    unfold mkLst at w1
    split at w1
    · rename_i hz
      exact ⟨by rw [r1.length]; exact hz, fin_lst ok1 r1 fun G' H' w e' ok' r' => w1 G' H' w (e1.trans e') ok' r'⟩
    · exact w1.elim
theorem s_lstN {es : List Expr} {i : Es} {pos : Pos} (h : PA X es (tEs Y W (evEs kin C i))) : PE X (.List es pos) (tN Y W (evE kin C (.lst i))) :=
  (pe_lst h).imp fun σ H Q h => by
    obtain ⟨H0, G, ρ, S, ok, sr, w⟩ := h
    unfold evE at w
    refine ⟨H0, G, ρ, S, ok, sr, wpM_mono (wpM_bind.mp w) (fun ds S1 w1 G1 H1 vs e1 ok1 r1 => ?_) fun _ _ h => h⟩
    unfold mkLst at w1
    split at w1
    · rename_i hz
      refine ⟨by rw [r1.length]; exact hz, fun p np => ?_⟩
      have x : Ext G1 H1 G1 (upd H1 p (.lst vs)) := Ext.new ok1 np
      have np' : H p = none := by
        cases hh : H p with
        | none => rfl
        | some u => exact absurd np (e1.there p (by rw [hh]; exact fun z => nomatch z))
      exact w1 G1 _ p vs ds rfl (e1.trans x) (ok1.new np) np' upd_same (fun z => ok1.fzT p z np) (fun z => ok1.muT p z np) (r1.ext x ok1)
    · exact w1.elim

end
end RM
end
section
set_option Elab.async false
set_option linter.all false
set_option maxRecDepth 100000
set_option autoImplicit false
/-! sound: calls, isinstance, subscripts, slices -/
namespace RM
open PySem PySem.Spec PyProof.Rows L2
section
variable {Y : Tx} {k : Nat} {C : Orc} {g : Cfg} {gt : Gt} {X : Cx} {W : WX} {kin : Kin} {look : Bool}

/-! ### defs of the module -/
theorem t_app {f : Str} {n : Nat} {i : Es} {σ : L2.St} {H : Hp} {Q : VK} (hn : ∀ ρ S Qd R, wpM (evEs kin C i ρ) S Qd R → wpM (evEs kin C i ρ) S (fun ds S' => Qd ds S' ∧ ds.length = n) R) (h : tE Y W (RL look Y) (evE kin C (.app f i)) σ H Q) : tCallG (spG Y n (C f)) W (tEs Y W (evEs kin C i)) σ H Q := by
  obtain ⟨H0, G, ρ, S, ok, sr, w⟩ := t_rl h
  unfold evE at w
  refine ⟨H0, G, ρ, S, ok, sr, wpM_mono (hn ρ S _ _ (wpM_bind.mp w)) (fun ds S1 w1 G1 H1 vs e1 ok1 r1 => ?_) fun _ _ h => h⟩
  obtain ⟨w1, hl⟩ := w1
  exact ⟨by rw [r1.length, hl], G1, S1, ds, ok1, r1, wpM_mono w1 (fun d S2 q G' H' v e' ok' r => q G' H' v (e1.trans e') ok' r) fun x S h => h.trans e1⟩
def Es.len : Es → Option Nat
  | .nil => some 0
  | .cons _ r => r.len.map (· + 1)
  | .star _ _ => none
theorem es_ends : ∀ {i : Es} {n : Nat} {ρ : Fe} {S : Sto}, i.len = some n → endsIn (fun ds => ds.length = n) (evEs kin C i ρ S)
  | .nil, n, ρ, S, h => by
    cases h
    unfold evEs
    exact rfl
  | .cons e r, n, ρ, S, h => by
    simp only [Es.len, Option.map_eq_some_iff] at h
    obtain ⟨m, hm, rfl⟩ := h
    unfold evEs
    refine ends_bind fun d S' => ?_
    have ih := es_ends (i := r) (ρ := ρ) (S := S') hm
    show endsIn _ ((evEs kin C r ρ S').bind _)
    generalize evEs kin C r ρ S' = t at ih
    induction t with
    | ret a S => exact congrArg (· + 1) ih
    | raise x S => trivial
    | fail => trivial
    | draw n k ihk => exact fun i => ihk i (ih i)
  | .star _ _, n, ρ, S, h => by simp [Es.len] at h
theorem esW_len {fv fl : Expr → Option E} : ∀ {es : List Expr} {i : Es}, es.all (fun a => !isStarred a) = true → esW fv fl es = some i → i.len = some es.length
  | [], i, _, h => by cases h; rfl
  | e :: es, i, hs, h => by
    rw [List.all_cons, Bool.and_eq_true] at hs
    have hs1 : isStarred e = false := by simpa using hs.1
    have h' : (do
      let a ← fv e
      let b ← esW fv fl es
      some (Es.cons a b)) = some i := by
      cases e <;> first | exact h | cases hs1
    simp only [Option.bind_eq_bind, Option.bind_eq_some_iff, Option.some.injEq] at h'
    obtain ⟨a, h1, b, h2, rfl⟩ := h'
    simp only [Es.len, esW_len hs.2 h2, Option.map_some, List.length_cons]
theorem s_app {r : Cfg → Cp} (sn : Snd kin gt r) (o : Cok kin gt Y k C g X W) {f : Str} {args : List Expr} {n : Nat} {i : Es} {p pos : Pos} (hf : okName f = true) (hs : args.all (fun a => !isStarred a) = true) (hg : g.glo gt f = some (.fn n) ∨ ∃ c, g.glo gt f = some (.cfn c n)) (hh : g.hot = false) (hl : args.length = n) (hi : esW ((r g).e false) ((r g).e true) args = some i) :
    PE X (.Call (.Name f p) args [] pos) (tE Y W (RL look Y) (evE kin C (.app f i))) := by
  obtain ⟨n1, n2, n3⟩ := okName_ok hf
  obtain ⟨hgl, a, hm, hk, F⟩ : Gl X f ∧ ∃ a, X.mg f = some (.ref a) ∧ PySem.W.keepIn X.K (.ref a) = true ∧ FnG X.prog X.w X.K X.mg X.base k a n (spG Y n (C f)) := by
    rcases hg with hg | ⟨c, hg⟩
    · obtain ⟨hgl, hf0⟩ := glo_ok o hg
      exact ⟨hgl, hf0 hh⟩
    · obtain ⟨hgl, _, hf0⟩ := glo_ok o hg
      exact ⟨hgl, hf0 hh⟩
  have hlen := esW_len hs hi
  have hn : ∀ ρ S Qd R, wpM (evEs kin C i ρ) S Qd R → wpM (evEs kin C i ρ) S (fun ds S' => Qd ds S' ∧ ds.length = n) R := fun ρ S Qd R h => wp_ends (es_ends (hl ▸ hlen)) h
  have ha := s_es sn o args i hi
  cases args with
  | nil =>
    cases hi
    refine (pe_callG0 F (o.ox.room hh) o.ox.gd o.tk hgl hm hk n1).imp fun σ H Q h => ?_
    have h' := t_app hn h
    obtain ⟨H0, G, ρ, S, ok, sr, w⟩ := h'
    unfold evEs at w
    exact w G H [] Ext.refl ok .nil
  | cons e es =>
    rw [List.all_cons, Bool.and_eq_true] at hs
    exact (pe_callG F (o.ox.room hh) o.ox.gd o.tk hgl hm hk ha n1 (starEach_plain (by simpa using hs.1)) (starEach_none hs.2)).imp fun σ H Q h => t_app hn h

/-! ### methods -/
theorem RDf.none_ {G : Gh} {H : Hp} {m : Str} : ∀ {fv : List (Str × V)} {fs : List (Str × D)}, RDf Y G H fv fs → (fs.lookup m).isNone = true → fv.lookup m = none
  | _, _, .nil, _ => rfl
  | _, _, .cons (f := f) h r, e => by
    rw [List.lookup_cons] at e ⊢
    split at e
    · cases e
    · exact RDf.none_ r e
theorem mths_ok {m : Str} {n : Nat} {c q : Str} (h : (mths gt m n).lookup c = some q) : gt.lookup q = some (.mth c m n) := by
  have : (c, q) ∈ mths gt m n := by
    revert h
    generalize mths gt m n = l
    induction l with
    | nil => intro h; cases h
    | cons p l ih =>
      intro h
      rw [List.lookup_cons] at h
      split at h
      · rename_i e
        cases h
        rw [beq_iff_eq] at e
        subst e
        exact List.mem_cons_self
      · exact List.mem_cons_of_mem _ (ih h)
  unfold mths at this
  obtain ⟨p, _, hp⟩ := List.mem_filterMap.mp this
  split at hp
  · rename_i c' m' n' hl
    split at hp
    · rename_i e
      cases hp
      rw [Bool.and_eq_true, beq_iff_eq, beq_iff_eq] at e
      rw [← e.1, ← e.2]; exact hl
    · cases hp
  · cases hp
theorem plainO_ok {o : Expr} (h : plainO o = true) (m : Str) (env : Env) : attributeBase o m env (eval o env) = eval o env := by
  cases o <;> first | rfl | cases h
theorem t_mth {m : Str} {n : Nat} {x : E} {i : Es} {σ : L2.St} {H : Hp} {Q : VK} (o : Cok kin gt Y k C g X W) (hh : g.hot = false) (hn : ∀ ρ S Qd R, wpM (evEs kin C i ρ) S Qd R → wpM (evEs kin C i ρ) S (fun ds S' => Qd ds S' ∧ ds.length = n) R)
    (h : tE Y W (RL look Y) (evE kin C (.mth x m (mths gt m n) i)) σ H Q) : tMethG X k m W (tE Y W (RL true Y) (evE kin C x)) (tEs Y W (evEs kin C i)) σ H Q := by
  obtain ⟨H0, G, ρ, S, ok, sr, w⟩ := t_rl h
  unfold evE at w
  refine ⟨H0, G, ρ, S, ok, sr, wpM_mono (wpM_bind.mp w) (fun d S1 w1 G1 H1 v e1 ok1 r1 => ?_) fun _ _ h => h⟩
  cases d with
  | ins c fs =>
    rcases RL.rv r1 with r | ⟨_, _, _, _, z, _⟩
    · cases r with
      | @ins a Ca dx _ fv _ ha hf hc rf =>
        have w1 : wpM (if (fs.lookup m).isNone then (match (mths gt m n).lookup c with
          | some q => (do
            let xs ← evEs kin C i ρ
            C q (.ins c fs :: xs))
          | none => M.fail) else M.fail) S1 (QE Y G H (RD Y) Q) (RE Y G H σ W) := w1
        split at w1
        · rename_i hnone
          split at w1
          · rename_i q hq
            obtain ⟨f, k1, k2, F⟩ := o.gt q _ (mths_ok hq) hh Ca hc
            have hl : fv.lookup m = none := rf.none_ hnone
            refine ⟨a, Ca, dx, fv, f, n + 1, _, rfl, ha, k1, k2, hl, F, H0, G1, ρ, S1, ok1, sr.ext e1 ok, wpM_mono (hn ρ S1 _ _ (wpM_bind.mp w1)) (fun ds S2 w2 G2 H2 vs e2 ok2 r2 => ?_) fun x S h => h.trans e1⟩
            obtain ⟨w2, hlen⟩ := w2
            exact ⟨by rw [List.length_cons, r2.length, hlen], G2, S2, _, ok2, .cons ((RD.ins ha hf hc rf).ext e2 ok1) r2, wpM_mono w2 (fun d S3 q G' H' v e' ok' r => q G' H' v (e1.trans (e2.trans e')) ok' r) fun x S h => (h.trans e1).trans e2⟩
          · exact w1.elim
        · exact w1.elim
    · cases z
  | _ => exact w1.elim
theorem s_mth {r : Cfg → Cp} (sn : Snd kin gt r) (o : Cok kin gt Y k C g X W) {a : Expr} {m : Str} {args : List Expr} {i : E} {apos pos : Pos} (h : mthW gt r g a m apos args pos = some i) : PE X (.Call (.Attribute a m apos) args [] pos) (tE Y W (RL look Y) (evE kin C i)) := by
  unfold mthW at h
  split at h
  · rename_i hc
    simp only [Bool.and_eq_true, Bool.not_eq_true', decide_eq_true_eq] at hc
    obtain ⟨⟨⟨⟨⟨hs, hline⟩, hh⟩, hp⟩, hl⟩, _⟩ := hc
    simp only [Option.bind_eq_bind, Option.bind_eq_some_iff, Option.some.injEq] at h
    obtain ⟨x, hx, es, he, rfl⟩ := h
    have hlen := esW_len hs he
    have hn : ∀ ρ S Qd R, wpM (evEs kin C es ρ) S Qd R → wpM (evEs kin C es ρ) S (fun ds S' => Qd ds S' ∧ ds.length = args.length) R := fun ρ S Qd R h => wp_ends (es_ends hlen) h
    have ho := sn.e g true a x X Y k C W hx o
    have ha := s_es sn o args es he
    have hb := plainO_ok hp m X.env
    cases args with
    | nil =>
      cases he
      refine (pe_methG0 ho (o.ox.room hh) o.ox.gd o.tk hb hline).imp fun σ H Q h => ?_
      have h' := t_mth o hh hn h
      obtain ⟨H0, G, ρ, S, ok, sr, w⟩ := h'
      refine ⟨H0, G, ρ, S, ok, sr, wpM_mono w (fun d S1 w1 G1 H1 v e1 ok1 r1 => ?_) fun _ _ h => h⟩
      obtain ⟨a, Ca, dx, fv, f, n, sp, q1, q2, q3, q4, q5, q6, q7⟩ := w1 G1 H1 v e1 ok1 r1
      refine ⟨a, Ca, dx, fv, f, n, sp, q1, q2, q3, q4, q5, q6, ?_⟩
      obtain ⟨H0', G', ρ', S', ok', sr', w'⟩ := q7
      unfold evEs at w'
      exact w' G' H1 [] Ext.refl ok' .nil
    | cons e es' =>
      rw [List.all_cons, Bool.and_eq_true] at hs
      exact (pe_methG ho (o.ox.room hh) o.ox.gd o.tk ha hb hline (starEach_plain (by simpa using hs.1)) (starEach_none hs.2) hl).imp fun σ H Q h => t_mth o hh hn h
  · cases h

theorem s_at {r : Cfg → Cp} (sn : Snd kin gt r) (o : Cok kin gt Y k C g X W) {a : Expr} {m : Str} {args : List Expr} {i : E} {apos pos : Pos} (h : atW gt r g a m apos args pos = some i) : PE X (.Call (.Attribute a m apos) args [] pos) (tE Y W (RL look Y) (evE kin C i)) := by
  unfold atW at h
  split at h
  · rename_i hm
    have hm : m = "index" := beq_iff_eq.mp hm
    subst hm
    unfold idxW at h
    split at h
    · rename_i e
      split at h
      · rename_i hc
        simp only [Bool.and_eq_true, Bool.not_eq_true'] at hc
        obtain ⟨⟨hs, hline⟩, hp⟩ := hc
        simp only [Option.bind_eq_bind, Option.bind_eq_some_iff, Option.some.injEq] at h
        obtain ⟨x, hx, y, hy, rfl⟩ := h
        have s1 := starEach_plain (es := []) (env := X.env) hs
        refine (pe_bm PySem.F.plainAttrs_list PySem.F.slot_list_index PySem.F.type_list_index (mt_idxL (Y := Y) o.ox) (sn.e g true a x X Y k C W hx o) (pa_cons (sn.e g true e y X Y k C W hy o) pa_nil s1) (plainO_ok hp _ _) (by rw [s1]; rfl) hline s1 (starEach_none (by simp [hs]))).imp fun σ H Q h => ?_
        obtain ⟨H0, G, ρ, S, ok, sr, w⟩ := t_rl h
        unfold evE at w
        refine ⟨H0, G, ρ, S, ok, sr, wpM_mono (wpM_bind.mp w) (fun d S1 w1 G1 H1 v e1 ok1 r1 => ?_) fun _ _ h => h⟩
        cases d with
        | lst ys =>
          obtain ⟨p, vs, rfl, ha, rs⟩ := (RL.rv r1).lst
          refine ⟨.inl ⟨rfl, vs, .of ha⟩, H0, G1, ρ, S1, ok1, sr.ext e1 ok, wpM_mono (wpM_bind.mp w1) (fun d2 S2 w2 G2 H2 v2 e2 ok2 r2 => ?_) fun x S h => h.trans e1⟩
          obtain ⟨d3, hd3, w3⟩ := wpM_op.mp w2
          obtain ⟨j, hj, rfl⟩ := Option.map_eq_some_iff.mp hd3
          exact ⟨v2, G2, S2, .lst ys, d2, j, rfl, ok2, (RL.rv r1).ext e2 ok1, RL.rv r2, hj, w3 G2 H2 _ (e1.trans e2) ok2 (.int _)⟩
        | _ => exact w1.elim
      · cases h
    · cases h
  · exact s_mth sn o h

/-! ### built-ins -/
theorem t_bi {b : Bi} {i : Es} {σ : L2.St} {H : Hp} {Q : VK} (h : tE Y W (RL look Y) (evE kin C (.bi b i)) σ H Q) : tCB (rBi Y kin b) (tEsR Y W (RV Y) (evEs kin C i)) σ H Q := by
  obtain ⟨H0, G, ρ, S, ok, sr, w⟩ := t_rl h
  unfold evE at w
  refine ⟨H0, G, ρ, S, ok, sr, wpM_mono (wpM_bind.mp w) (fun ds S1 w1 G1 H1 vs e1 ok1 r1 => ?_) fun _ _ h => h⟩
  obtain ⟨d, hd, w2⟩ := wpM_op.mp w1
  exact ⟨G1, S1, ds, d, ok1, r1, hd, fun G' H' v e' ok' r => w2 G' H' v (e1.trans e') ok' r⟩
theorem biOf_ok {x : Str} {n : Nat} {b : Bi} (h : biOf x n = some b) : bootBuiltins x = some b.val ∧ b.plain = true := by
  unfold biOf at h
  split at h
  · rename_i e; cases h; rw [beq_iff_eq.mp e]; exact ⟨boot_len, rfl⟩
  split at h
  · rename_i e; cases h; rw [beq_iff_eq.mp e]; exact ⟨boot_all, rfl⟩
  split at h
  · rename_i e; cases h; rw [beq_iff_eq.mp e]; exact ⟨boot_any, rfl⟩
  split at h
  · rename_i e; cases h; rw [beq_iff_eq.mp e]; exact ⟨boot_tuple, rfl⟩
  split at h
  · rename_i e; cases h; rw [beq_iff_eq.mp e]; exact ⟨boot_list, rfl⟩
  split at h
  · rename_i e; cases h; rw [beq_iff_eq.mp e]; exact ⟨boot_sorted, rfl⟩
  split at h
  · rename_i e; cases h; rw [beq_iff_eq.mp e]; exact ⟨boot_sum, rfl⟩
  split at h
  · rename_i e; cases h; rw [beq_iff_eq.mp e]; exact ⟨boot_repr, rfl⟩
  split at h
  · rename_i e; cases h; rw [beq_iff_eq.mp e]; exact ⟨boot_int, rfl⟩
  split at h
  · rename_i e
    rw [Bool.and_eq_true] at e
    cases h; rw [beq_iff_eq.mp e.1]; exact ⟨boot_min, rfl⟩
  split at h
  · rename_i e
    rw [Bool.and_eq_true] at e
    cases h; rw [beq_iff_eq.mp e.1]; exact ⟨boot_max, rfl⟩
  · cases h
theorem pe_bi {t : TA} {x : Str} {b : Bi} {e : Expr} {es : List Expr} {p pos : Pos} (o : Cok kin gt Y k C g X W) (hv : bootBuiltins x = some b.val) (hb : b.plain = true) (hh : g.hot = false ∨ b.cold = true) (hx : okName x = true) (hg : Gl X x) (hm : X.mg x = none) (ha : PA X (e :: es) t) (hs : (e :: es).all (fun a => !isStarred a) = true) :
    PE X (.Call (.Name x p) (e :: es) [] pos) (tCB (rBi Y kin b) t) := by
  obtain ⟨n1, n2, n3⟩ := okName_ok hx
  have hc := or_bi o.ox kin b hb hh
  rw [List.all_cons, Bool.and_eq_true] at hs
  have h1 := starEach_plain (es := es) (env := X.env) (show isStarred e = false by simpa using hs.1)
  have h2 := starEach_none (env := X.env) (pos := pos) hs.2
  cases b <;> first
    | exact pe_callB hc hg hm hv ha n3 n1 h1 h2
    | exact pe_callTy hc hg hm hv ha n3 n1 h1 h2
    | cases hb
theorem s_bi {r : Cfg → Cp} (sn : Snd kin gt r) (o : Cok kin gt Y k C g X W) {f : Str} {args : List Expr} {n : Nat} {b : Bi} {i : Es} {p pos : Pos} (hne : args ≠ []) (hf : okName f = true) (hs : args.all (fun a => !isStarred a) = true) (hg : g.glo gt f = some .blt) (hb : biOf f n = some b) (hh : g.hot = false ∨ b.cold = true) (hi : esW ((r g).e true) ((r g).e true) args = some i) :
    PE X (.Call (.Name f p) args [] pos) (tE Y W (RL look Y) (evE kin C (.bi b i))) := by
  obtain ⟨hgl, hm⟩ := glo_ok o hg
  obtain ⟨hv, hp⟩ := biOf_ok hb
  have ha := s_el sn o args i hs hi
  cases args with
  | nil => exact absurd rfl hne
  | cons e es => exact (pe_bi (kin := kin) o hv hp hh hf hgl hm ha hs).imp fun σ H Q h => t_bi h

/-- list(e): a new list -/
theorem esW_cons {fv fl : Expr → Option E} {e : Expr} {es : List Expr} (h : isStarred e = false) : esW fv fl (e :: es) = (do
    let a ← fv e
    let b ← esW fv fl es
    some (Es.cons a b)) := by
  cases e <;> first | rfl | cases h
theorem s_liN {r : Cfg → Cp} (sn : Snd kin gt r) (o : Cok kin gt Y k C g X W) {e : Expr} {y : E} {p pos : Pos} (hs : isStarred e = false) (hg : g.glo gt "list" = some .blt) (hi : (r g).e true e = some y) :
    PE X (.Call (.Name "list" p) [e] [] pos) (tN Y W (evE kin C (.bi .list (.cons y .nil)))) := by
  obtain ⟨hgl, hm⟩ := glo_ok o hg
  have h1 := starEach_plain (es := []) (env := X.env) hs
  refine (pe_callTy call_list_of hgl hm boot_list (pa_cons (sn.e g true e y X Y k C W hi o) pa_nil h1) (by decide) (by decide) h1 rfl).imp fun σ H Q h => ?_
  obtain ⟨H0, G, ρ, S, ok, sr, w⟩ := h
  unfold evE at w
  have w1 := wpM_bind.mp w
  unfold evEs at w1
  refine ⟨H0, G, ρ, S, ok, sr, wpM_mono (wpM_bind.mp w1) (fun d S1 w1 G1 H1 v e1 ok1 r1 => ?_) fun _ _ h => h⟩
  unfold evEs at w1
  have w1 := wpM_bind.mp w1
  have w1 : wpM (M.op (biD kin Bi.list [d])) S1 _ _ := w1
  obtain ⟨d2, hd, w2⟩ := wpM_op.mp w1
  have hd : (itemsD d).map D.lst = some d2 := hd
  cases ei : itemsD d with
  | none => rw [ei] at hd; cases hd
  | some xs =>
    rw [ei] at hd
    cases hd
    obtain ⟨a, ws, rfl, q1, q2⟩ := (RL.rv r1).items ei
    refine ⟨a, ws, rfl, by rw [o.ox.hK]; exact q1, fun l nl => ?_⟩
    have x : Ext G1 H1 G1 (upd H1 l (.lst ws)) := Ext.new ok1 nl
    have np' : H l = none := by
      cases hh : H l with
      | none => rfl
      | some u => exact absurd nl (e1.there l (by rw [hh]; exact fun z => nomatch z))
    exact w2 G1 _ l ws xs rfl (e1.trans x) (ok1.new nl) np' upd_same (fun z => ok1.fzT l z nl) (fun z => ok1.muT l z nl) (q2.ext x ok1)

/-! ### isinstance -/
/-- a class as a value -/
def TyV (Y : Tx) : Ty → V → Value → Prop
  | .b n, v, u => v = .ty n ∧ u = .type n ∧ tyNm n = true
  | .c c, v, u => ∃ C, Y.cls c = some C ∧ v = .ref C ∧ u = .ref C
theorem TyV.cls {t : Ty} {v : V} {u : Value} (h : TyV Y t v u) : ClsV v u := by
  cases t with
  | b n => obtain ⟨rfl, rfl, _⟩ := h; exact .ty n
  | c c => obtain ⟨C, _, rfl, rfl⟩ := h; exact .own C
theorem tyOf_ok {e : Expr} {t : Ty} (o : Cok kin gt Y k C g X W) (h : tyOf gt g e = some t) : isStarred e = false ∧ ∃ v u, TyV Y t v u ∧ PE X e (tC v) := by
  unfold tyOf at h
  split at h
  · rename_i x p
    refine ⟨rfl, ?_⟩
    split at h
    · rename_i c hg
      split at h
      · rename_i hn
        cases h
        obtain ⟨n1, n2, n3⟩ := okName_ok hn
        obtain ⟨hgl, C', hm, hc⟩ := glo_ok o hg
        exact ⟨.ref C', .ref C', ⟨C', hc, rfl, rfl⟩, pe_glob hgl hm rfl n1⟩
      · cases h
    · rename_i c n hg
      split at h
      · rename_i hn
        cases h
        obtain ⟨n1, n2, n3⟩ := okName_ok hn
        obtain ⟨hgl, ⟨C', hm, hc⟩, _⟩ := glo_ok o hg
        exact ⟨.ref C', .ref C', ⟨C', hc, rfl, rfl⟩, pe_glob hgl hm rfl n1⟩
      · cases h
    · rename_i hg
      obtain ⟨hgl, hm⟩ := glo_ok o hg
      split at h
      · rename_i e; cases h; rw [beq_iff_eq.mp e] at hgl hm ⊢; exact ⟨_, _, ⟨rfl, rfl, by decide⟩, pe_bltn hgl hm boot_str rfl⟩
      split at h
      · rename_i e; cases h; rw [beq_iff_eq.mp e] at hgl hm ⊢; exact ⟨_, _, ⟨rfl, rfl, by decide⟩, pe_bltn hgl hm boot_int rfl⟩
      split at h
      · rename_i e; cases h; rw [beq_iff_eq.mp e] at hgl hm ⊢; exact ⟨_, _, ⟨rfl, rfl, by decide⟩, pe_bltn hgl hm boot_bool rfl⟩
      split at h
      · rename_i e; cases h; rw [beq_iff_eq.mp e] at hgl hm ⊢; exact ⟨_, _, ⟨rfl, rfl, by decide⟩, pe_bltn hgl hm boot_tuple rfl⟩
      split at h
      · rename_i e; cases h; rw [beq_iff_eq.mp e] at hgl hm ⊢; exact ⟨_, _, ⟨rfl, rfl, by decide⟩, pe_bltn hgl hm boot_list rfl⟩
      split at h
      · rename_i e; cases h; rw [beq_iff_eq.mp e] at hgl hm ⊢; exact ⟨_, _, ⟨rfl, rfl, by decide⟩, pe_bltn hgl hm boot_dict rfl⟩
      · cases h
    · cases h
  · cases h
/-- the type of a value -/
def D.ty : D → String
  | .non => "NoneType"
  | .bl _ => "bool"
  | .int _ => "int"
  | .str _ => "str"
  | .tup _ => "tuple"
  | .lst _ => "list"
  | .scr _ => "list"
  | _ => "dict"
def D.isIns : D → Bool
  | .ins _ _ => true
  | _ => false
theorem kit_all (n : String) (hn : tyNm n = true) (d : D) (hb : d.basic kin = true) (hi : d.isIns = false) : kitB d.ty n = some (isiD kin d (.b n)) := by
  unfold tyNm at hn
  simp only [Bool.or_eq_true, beq_iff_eq] at hn
  rcases hn with ((((rfl | rfl) | rfl) | rfl) | rfl) | rfl <;> cases d <;> first | (cases hb; done) | (cases hi; done) | (simp only [D.ty, isiD]; decide +kernel)
theorem ty_all (d : D) (hb : d.basic kin = true) (hi : d.isIns = false) : d.ty ∈ tyAll ∧ ∀ c, isiD kin d (.c c) = false := by
  cases d <;> first | (cases hb; done) | (cases hi; done) | exact ⟨by simp [tyAll, D.ty], fun _ => rfl⟩
theorem isi_kit {G : Gh} {H : Hp} {S : Sto} {v : V} {d : D} (o : Cok kin gt Y k C g X W) (ok : GOk Y G H S) (r : RV Y G H v d) (hb : d.basic kin = true) : ∃ tv, TyX X.K H v tv ∧ ∀ {t : Ty} {cv : V} {cu : Value}, TyV Y t cv cu → PySem.W.kitOne X.K tv cu = some (isiD kin d t) := by
  have hK := o.ox.hK
  have plain : TyX X.K H v (.type d.ty) → d.isIns = false → ∃ tv, TyX X.K H v tv ∧ ∀ {t : Ty} {cv : V} {cu : Value}, TyV Y t cv cu → PySem.W.kitOne X.K tv cu = some (isiD kin d t) := fun h hi => by
    refine ⟨_, h, fun {t cv cu} ht => ?_⟩
    cases t with
    | b n =>
      obtain ⟨_, rfl, hn⟩ := ht
      exact kit_ty (kit_all n hn d hb hi)
    | c c =>
      obtain ⟨C', hc, _, rfl⟩ := ht
      obtain ⟨h1, h2⟩ := ty_all (kin := kin) d hb hi
      rw [h2 c, hK]
      exact o.kok.isT c C' _ hc h1
  rcases r with r | ⟨a, vs, ds, rfl, rfl, h, _⟩
  · cases r with
    | non => exact plain (.base .non) rfl
    | bl b => exact plain (.base (.bl b)) rfl
    | int i => exact plain (.base (.int i)) rfl
    | str x => exact plain (.base (.str x)) rfl
    | tup h _ =>
      rcases h with (h | ⟨ob, h⟩) | ⟨ob, its, n, h, hc, _⟩
      · exact plain (.base (.tup h)) rfl
      · exact plain (.fTuple h) rfl
      · exact plain (.kTuple (by rw [hK]; exact h) hc) rfl
    | scr h =>
      rcases h with ⟨ob, h⟩ | ⟨ob, its, n, h, hc, _⟩
      · exact plain (.base (.frz h)) rfl
      · exact plain (.kList (by rw [hK]; exact h) hc) rfl
    | lst h _ _ => exact plain (.base (.lst h)) rfl
    | dct0 h _ => exact plain (.base (.dK h)) rfl
    | drw h =>
      obtain ⟨l, ns, ms, n, h, _⟩ := ok.dr _ h
      exact plain (.base (.dK h)) rfl
    | @ins a C1 dx c fv fs h _ hc _ =>
      have hb : kin.isI c = true := hb
      have f := o.kok.isI c C1 hb hc
      refine ⟨.ref C1, .base (.ins h (by rw [hK]; exact f.cl) (by rw [hK]; exact f.ha) (by rw [hK]; exact f.hn) (by rw [hK]; exact f.tk) (by rw [hK]; exact f.hm)), fun {t cv cu} ht => ?_⟩
      rw [hK]
      cases t with
      | b n =>
        obtain ⟨_, rfl, hn⟩ := ht
        exact o.kok.isC c C1 n hb hc hn
      | c c' =>
        obtain ⟨C2, hc2, _, rfl⟩ := ht
        exact o.kok.isK c c' C1 C2 hb hc hc2
  · exact plain (.base (.lst h)) rfl
theorem s_isi1 {a t : Expr} {x : E} {ty : Ty} {cv : V} {cu : Value} {p pos : Pos} (o : Cok kin gt Y k C g X W) (ha : PEl X Y W kin C a x) (h1 : isStarred a = false) (ht : PE X t (tC cv)) (h2 : isStarred t = false) (hn : TyV Y ty cv cu) (hg : g.glo gt "isinstance" = some .blt) :
    PE X (.Call (.Name "isinstance" p) [a, t] [] pos) (tE Y W (RL look Y) (evE kin C (.bi (.isi [ty]) (.cons x .nil)))) := by
  obtain ⟨hgl, hm⟩ := glo_ok o hg
  have s1 := starEach_plain (es := [t]) (env := X.env) h1
  have s2 := starEach_plain (es := []) (env := X.env) h2
  refine (pe_callB call_isi hgl hm boot_isinstance (pa_cons ha (pa_cons ht pa_nil s2) s1) (by decide) (by decide) s1 (starEach_none (by simp [h2]))).imp fun σ H Q h => ?_
  have h' := t_bi h
  obtain ⟨H0, G, ρ, S, ok, sr, w⟩ := h'
  unfold evEs at w
  refine ⟨H0, G, ρ, S, ok, sr, wpM_mono (wpM_bind.mp w) (fun d S1 w1 G1 H1 v1 e1 ok1 r1 => ?_) fun _ _ h => h⟩
  unfold evEs at w1
  obtain ⟨G2, S2, ds, d2, ok2, r2, e2, q2⟩ := w1 G1 H1 [v1] e1 ok1 (.cons (RL.rv r1) .nil)
  obtain ⟨x2, rfl⟩ : ∃ x2, ds = [x2] := by
    cases r2 with
    | cons _ t => cases t; exact ⟨_, rfl⟩
  have r3 : RV Y G2 H1 v1 x2 := by cases r2; assumption
  have e2 : (if x2.basic kin then some (D.bl ([ty].any (isiD kin x2))) else none) = some d2 := e2
  split at e2
  · rename_i hb
    cases e2
    obtain ⟨tv, t1, t2⟩ := isi_kit o ok2 r3 hb
    refine ⟨v1, cv, tv, cu, _, rfl, hn.cls, t1, t2 hn, ?_⟩
    have := q2 G2 H1 (.bl (isiD kin x2 ty)) Ext.refl ok2 (by simp only [List.any_cons, List.any_nil, Bool.or_false]; exact .bl _)
    exact this
  · cases e2
theorem s_isi2 {a t u : Expr} {x : E} {ty ty' : Ty} {cv cv' : V} {cu cu' : Value} {p pos : Pos} {x1 : Nat} {p2 : Pos} (o : Cok kin gt Y k C g X W) (ha : PEl X Y W kin C a x) (h1 : isStarred a = false) (ht : PE X t (tC cv)) (h2 : isStarred t = false) (hn : TyV Y ty cv cu) (hu : PE X u (tC cv')) (h3 : isStarred u = false) (hm' : TyV Y ty' cv' cu') (hg : g.glo gt "isinstance" = some .blt) :
    PE X (.Call (.Name "isinstance" p) [a, .Tuple [t, u] x1 p2] [] pos) (tE Y W (RL look Y) (evE kin C (.bi (.isi [ty, ty']) (.cons x .nil)))) := by
  obtain ⟨hgl, hm⟩ := glo_ok o hg
  have s1 := starEach_plain (es := [.Tuple [t, u] x1 p2]) (env := X.env) h1
  have s2 := starEach_plain (es := [u]) (env := X.env) h2
  have s3 := starEach_plain (es := []) (env := X.env) h3
  refine (pe_callB call_isiT hgl hm boot_isinstance (pa_cons ha (pa_cons (pe_tup (pa_cons ht (pa_cons hu pa_nil s3) s2)) pa_nil rfl) s1) (by decide) (by decide) s1 (starEach_none rfl)).imp fun σ H Q h => ?_
  have h' := t_bi h
  obtain ⟨H0, G, ρ, S, ok, sr, w⟩ := h'
  unfold evEs at w
  refine ⟨H0, G, ρ, S, ok, sr, wpM_mono (wpM_bind.mp w) (fun d S1 w1 G1 H1 v1 e1 ok1 r1 => ?_) fun _ _ h => h⟩
  unfold evEs at w1
  obtain ⟨G2, S2, ds, d2, ok2, r2, e2, q2⟩ := w1 G1 H1 [v1] e1 ok1 (.cons (RL.rv r1) .nil)
  obtain ⟨x2, rfl⟩ : ∃ x2, ds = [x2] := by
    cases r2 with
    | cons _ t => cases t; exact ⟨_, rfl⟩
  have r3 : RV Y G2 H1 v1 x2 := by cases r2; assumption
  have e2 : (if x2.basic kin then some (D.bl ([ty, ty'].any (isiD kin x2))) else none) = some d2 := e2
  refine ⟨by show 2 ≤ sizeLine; decide, fun q hq => ?_⟩
  split at e2
  · rename_i hb
    cases e2
    have ex : Ext G2 H1 G2 (upd H1 q (.tup [cv, cv'])) := Ext.new ok2 hq
    obtain ⟨tv, t1, t2⟩ := isi_kit o (ok2.new hq) (r3.ext ex ok2) hb
    refine ⟨v1, q, [cv, cv'], tv, [cu, cu'], isiD kin x2 ty || isiD kin x2 ty', rfl, upd_same, .cons hn.cls (.cons hm'.cls .nil), t1, ?_, ?_⟩
    · unfold PySem.W.kitAny PySem.W.kitAny PySem.W.kitAny
      rw [t2 hn, t2 hm']
      cases isiD kin x2 ty <;> cases isiD kin x2 ty' <;> rfl
    · have := q2 G2 _ (.bl (isiD kin x2 ty || isiD kin x2 ty')) ex (ok2.new hq) (by simp only [List.any_cons, List.any_nil, Bool.or_false]; exact .bl _)
      exact this
  · cases e2

/-! ### fields -/
theorem _root_.RM.RDf.at_ {G : Gh} {H : Hp} {f : Str} {e : D} : ∀ {fv : List (Str × V)} {fs : List (Str × D)}, RDf Y G H fv fs → fs.lookup f = some e → ∃ v, fv.lookup f = some v ∧ RD Y G H v e
  | _, _, .nil, h => by cases h
  | (g, v) :: vs, (_, d) :: ds, .cons r rs, h => by
    rw [List.lookup_cons] at h ⊢
    cases hb : f == g with
    | true => rw [hb] at h; cases h; exact ⟨v, rfl, r⟩
    | false => rw [hb] at h; exact RDf.at_ rs h
theorem s_fld {a : Expr} {x : E} {f : Str} {pos : Pos} (o : Cok kin gt Y k C g X W) (ha : PEl X Y W kin C a x) (hb : attributeBase a f X.env (eval a X.env) = eval a X.env) : PE X (.Attribute a f pos) (tE Y W (RL look Y) (evE kin C (.fld x f))) :=
  (pe_fld ha hb).imp fun σ H Q h => by
    obtain ⟨H0, G, ρ, S, ok, sr, w⟩ := t_rl h
    unfold evE at w
    refine ⟨H0, G, ρ, S, ok, sr, wpM_mono (wpM_bind.mp w) (fun d S1 w1 G1 H1 v1 e1 ok1 r1 => ?_) fun _ _ h => h⟩
    obtain ⟨d2, hd, q⟩ := wpM_op.mp w1
    cases d <;> simp only [fldD] at hd <;> try (cases hd; done)
    rename_i c fs
    split at hd
    · rename_i hc
      rcases RL.rv r1 with r | ⟨_, _, _, _, z, _⟩
      · cases r with
        | @ins a' C1 dx _ fv _ h hf hcl rf =>
          obtain ⟨k1, k2⟩ := o.kok.fld c C1 f hcl hc
          obtain ⟨v, hv, rv⟩ := rf.at_ hd
          exact ⟨a', C1, dx, fv, v, rfl, h, by rw [o.ox.hK]; exact k1, by rw [o.ox.hK]; exact k2, hv, q G1 H1 v e1 ok1 rv⟩
      · cases z
    · cases hd
/-- the field of the exception in hand -/
theorem s_xfl {x f : Str} {i : Nat} {p0 pos : Pos} (o : Cok kin gt Y k C g X W) (hN : X.N[i]? = some x) (hv : Vis X.env.scope x) (n1 : (x == ("__debug__" : Str)) = false) (n2 : (x == ("__classdict__" : Str)) = false) :
    PE X (.Attribute (.Name x p0) f pos) (tE Y W (RL look Y) (evE kin C (.xfl i f))) := by
  refine ⟨fun pins s σ H Q I h => ?_⟩
  obtain ⟨H0, G, ρ, S, ok, sr, w⟩ := t_rl h
  unfold evE at w
  split at w
  · rename_i xx hs
    obtain ⟨d, hd, q⟩ := wpM_op.mp w
    obtain ⟨a, cls, dx, hσ, hcur, c, C1, fs, p, fv, rfl, hc, rfl, rfl, hp, hm, rf⟩ := sr.slot i _ hs
    obtain ⟨oe, hpn, hz, vs, hvs⟩ := o.cur _ _ _ hcur
    simp only [xflD] at hd
    split at hd
    · rename_i hcf
      obtain ⟨v, hv1, rv⟩ := rf.at_ hd
      have F := o.kok.xfl c C1 f hc hcf
      have hK := o.ox.hK
      refine attr_of rfl (thn ((pe_var hN hv n1 n2).run pins s σ H (fun v H1 => v = .ref a ∧ H1 = H) I ⟨.ref a, hσ, rfl, rfl⟩) fun u s1 ⟨v1, H1, I1, r1, e1, e2⟩ => ?_)
      subst e1 e2
      obtain rfl : u = Value.ref a := r1
      obtain ⟨mA, hn, hr⟩ := (show ObjOk X.prog X.w H1 s1.heap p (.xd fv) from I1.hok p _ hp)
      obtain ⟨od, ho, hl⟩ := lookIn_ns hn
      obtain ⟨u, hu, ru⟩ := RelO.some_of (v := v) (o := mA f) (by rw [← hv1]; exact hr f)
      have hat := (I1.pin (a, oe) (List.mem_append_left _ hpn)).1
      refine PySem.PX.exc_get I1.kIn (od := some od) ⟨hat, hz.1, ?_, ?_⟩ (by rw [hK]; exact F.ga) (by rw [hK]; exact F.gt) (by rw [hK]; exact F.sub) (PySem.W.findObj_own (by rw [hK]; exact F.hd) (by rw [hK]; exact F.no) rfl (by rw [hl, hu])) (handed_of ru) ?_
      · unfold PySem.W.notCls
        rw [hvs]
      · rw [hz.2]
        exact ho
      · exact ⟨v, H1, I1.tok _, ru, q G H1 v Ext.refl ok rv⟩
    · cases hd
  · exact w.elim

/-! ### subscripts, slices -/
theorem or_ix (o : Cok kin gt Y k C g X W) : IxR X (rB Y subD) := by
  intro value slice pins s σ H v w u1 u2 Q I rx ry ⟨G, S, x, y, d, ok, r1, r2, e, q⟩ hs
  have hK := o.ox.hK
  have at_ok : ∀ {vs : List V} {ds : List D} {j : Int} {z : D}, RDs Y G H vs ds → atI ds j = some z → ∃ z', atI vs j = some z' ∧ RD Y G H z' z := fun {vs ds j z} rs h => by
    unfold atI at h ⊢
    rw [rs.length]
    cases hj : ixN ds.length j with
    | none => rw [hj] at h; cases h
    | some jj =>
      rw [hj] at h
      exact rs.get' h
  cases x <;> try (simp only [subD] at e; cases e; done)
  · rename_i z
    cases y <;> try (simp only [subD] at e; cases e; done)
    rename_i j
    cases r1.str
    cases r2.int
    simp only [subD] at e
    split at e
    · rename_i hz
      simp only [Option.map_eq_some_iff] at e
      obtain ⟨c, hc, rfl⟩ := e
      exact ix_str value slice pins s σ H _ _ u1 u2 Q I rx ry ⟨z, j, c, rfl, rfl, hz, hc, q G H _ Ext.refl ok (.str _)⟩ hs
    · cases e
  · rename_i xs
    cases y <;> try (simp only [subD] at e; cases e; done)
    rename_i j
    obtain ⟨a, vs, rfl, hq, rs⟩ := r1.tup
    cases r2.int
    obtain ⟨z', hz, rz⟩ := at_ok rs e
    exact ix_tup value slice pins s σ H _ _ u1 u2 Q I rx ry ⟨a, vs, j, z', rfl, rfl, by rw [hK]; exact hq, hz, q G H _ Ext.refl ok rz⟩ hs
  · rename_i xs
    cases y <;> try (simp only [subD] at e; cases e; done)
    rename_i j
    obtain ⟨a, vs, rfl, hq, rs⟩ := r1.lst
    cases r2.int
    obtain ⟨z', hz, rz⟩ := at_ok rs e
    exact ix_list value slice pins s σ H _ _ u1 u2 Q I rx ry ⟨a, vs, j, z', rfl, rfl, .of hq, hz, q G H _ Ext.refl ok rz⟩ hs
theorem s_sub {a b : Expr} {x y : E} {pos : Pos} (o : Cok kin gt Y k C g X W) (ha : PEl X Y W kin C a x) (hb : PEl X Y W kin C b y) (hs : isSlice b = false) : PE X (.Subscript a b pos) (tE Y W (RL look Y) (evE kin C (.sub x y))) :=
  (pe_ix (or_ix o) ha hb (fun v u => by cases b <;> first | rfl | cases hs)).imp fun σ H Q h => tB (f := subD) (by
    have h' := t_rl h
    obtain ⟨H0, G, ρ, S, ok, sr, w⟩ := h'
    unfold evE at w
    exact ⟨H0, G, ρ, S, ok, sr, w⟩)

/-- a slice by values -/
def rSl (Y : Tx) : V → Option Int → Option Int → Hp → VK → Prop := fun v lo hi H Q => ∃ G S x d, GOk Y G H S ∧ RV Y G H v x ∧ slO x lo hi = some d ∧ ∀ G' H' u, Ext G H G' H' → GOk Y G' H' S → RD Y G' H' u d → Q u H'
theorem cut_rds {G : Gh} {H : Hp} {vs : List V} {ds : List D} (r : RDs Y G H vs ds) (lo hi : Option Int) : RDs Y G H (cutV vs lo hi) (cutD ds lo hi) := by
  unfold cutV cutD
  rw [r.length]
  exact (r.drop _).take _
theorem or_sl (o : Cok kin gt Y k C g X W) : SlR X (rSl Y) := by
  intro pins s σ H v u vl vu lo hi sl Q I rx hs pl pu ⟨G, S, x, d, ok, r, e, q⟩
  have hK := o.ox.hK
  cases x <;> try (simp only [slO] at e; cases e; done)
  · rename_i z
    cases r.str
    simp only [slO] at e
    split at e
    · rename_i hz
      cases e
      exact sl_str pins s σ H _ u vl vu lo hi sl Q I rx hs pl pu ⟨z, rfl, hz, q G H _ Ext.refl ok (.str _)⟩
    · cases e
  · rename_i xs
    obtain ⟨a, vs, rfl, hq, rs⟩ := r.tup
    cases e
    refine sl_tupA pins s σ H _ u vl vu lo hi sl Q I rx hs pl pu ⟨a, vs, rfl, by rw [hK]; exact hq, fun hw => ?_, fun _ => fin_tup ok (cut_rds rs lo hi) q⟩
    have e1 : cutD xs lo hi = xs := by
      unfold cutD
      rw [← rs.length, hw.1, hw.2]
      simp [rs.length]
    have q' := q G H (.ref a) Ext.refl ok
    rw [e1] at q'
    exact q' (.tup hq rs)
  · rename_i xs
    obtain ⟨a, vs, rfl, hq, rs⟩ := r.lst
    cases e
    exact sl_list pins s σ H _ u vl vu lo hi sl Q I rx hs pl pu ⟨a, vs, rfl, .of hq, fin_lst ok (cut_rds rs lo hi) q⟩
def tO (Y : Tx) (W : WX) (m : Fe → M D) : TO := fun σ H Q => ∃ H0 G ρ S, GOk Y G H S ∧ SR Y H0 G H σ ρ ∧ wpM (m ρ) S (fun d S' => ∀ G' H' o, Ext G H G' H' → GOk Y G' H' S' → bndD d = some o → Q o H') (RE Y G H σ W)
theorem _root_.L2.PO.imp {X : Cx} {e : Option Expr} {t t' : TO} (h : PO X e t) (hi : ∀ σ H Q, t' σ H Q → t σ H Q) : PO X e t' := ⟨fun pins s σ H Q I w => h.run pins s σ H Q I (hi σ H Q w)⟩
theorem s_bnd {r : Cfg → Cp} (sn : Snd kin gt r) (o : Cok kin gt Y k C g X W) {e : Option Expr} {l : E} (h : bndW r g e = some l) : PO X e (tO Y W (evE kin C l)) := by
  cases e with
  | none =>
    cases h
    refine po_none.imp fun σ H Q h => ?_
    obtain ⟨H0, G, ρ, S, ok, sr, w⟩ := h
    unfold evE at w
    exact w G H none Ext.refl ok rfl
  | some e =>
    unfold bndW at h
    simp only [Option.map_eq_some_iff] at h
    obtain ⟨x, hx, rfl⟩ := h
    have hp : PE X e (tE Y W (RL true Y) (evE kin C x)) := sn.e g true e x X Y k C W hx o
    refine (po_some hp).imp fun σ H Q h => ?_
    obtain ⟨H0, G, ρ, S, ok, sr, w⟩ := h
    unfold evE at w
    refine ⟨H0, G, ρ, S, ok, sr, wpM_mono (wpM_bind.mp w) (fun d S1 w1 G1 H1 v1 e1 ok1 r1 => ?_) fun _ _ h => h⟩
    split at w1
    · rename_i i
      exact ⟨i, (RL.rv r1).int, w1 G1 H1 (some i) e1 ok1 rfl⟩
    · exact w1.elim
theorem s_sl {r : Cfg → Cp} (sn : Snd kin gt r) (o : Cok kin gt Y k C g X W) {a : Expr} {lo hi : Option Expr} {x l h : E} {pos p2 : Pos} (ha : PEl X Y W kin C a x) (hl : bndW r g lo = some l) (hh : bndW r g hi = some h) :
    PE X (.Subscript a (.Slice lo hi none p2) pos) (tE Y W (RL look Y) (evE kin C (.sl x l h))) :=
  (pe_slice (or_sl o) ha (s_bnd sn o hl) (s_bnd sn o hh)).imp fun σ H Q hq => by
    obtain ⟨H0, G, ρ, S, ok, sr, w⟩ := t_rl hq
    unfold evE at w
    refine ⟨H0, G, ρ, S, ok, sr, wpM_mono (wpM_bind.mp w) (fun d1 S1 w1 G1 H1 v1 e1 ok1 r1 => ?_) fun _ _ h => h⟩
    refine ⟨H0, G1, ρ, S1, ok1, sr.ext e1 ok, wpM_mono (wpM_bind.mp w1) (fun d2 S2 w2 G2 H2 o2 e2 ok2 b2 => ?_) fun x S h => h.trans e1⟩
    refine ⟨H0, G2, ρ, S2, ok2, (sr.ext e1 ok).ext e2 ok1, wpM_mono (wpM_bind.mp w2) (fun d3 S3 w3 G3 H3 o3 e3 ok3 b3 => ?_) fun x S h => h.trans (e1.trans e2)⟩
    obtain ⟨d4, hd4, w4⟩ := wpM_op.mp w3
    unfold slD at hd4
    rw [b2, b3] at hd4
    exact ⟨G3, S3, d1, d4, ok3, (RL.rv r1).ext (e2.trans e3) ok1, hd4, fun G4 H4 u e4 ok4 r4 => w4 G4 H4 u (e1.trans (e2.trans (e3.trans e4))) ok4 r4⟩
theorem back_rds {G : Gh} {H : Hp} {vs : List V} {ds : List D} (r : RDs Y G H vs ds) (lo hi : Option Int) : RDs Y G H (backV vs lo hi) (backV ds lo hi) := by
  unfold backV
  rw [r.length]
  generalize (List.range _) = ks
  induction ks with
  | nil => exact .nil
  | cons k ks ih =>
    rw [List.filterMap_cons, List.filterMap_cons]
    cases e : vs[((Builtin.Slice.sliceAdjust lo hi (-1) (ds.length : Int)).1 + (k : Int) * (-1)).toNat]? with
    | none =>
      cases e2 : ds[((Builtin.Slice.sliceAdjust lo hi (-1) (ds.length : Int)).1 + (k : Int) * (-1)).toNat]? with
      | none => exact ih
      | some d =>
        obtain ⟨v, h, _⟩ := r.get' e2
        rw [e] at h; cases h
    | some v =>
      obtain ⟨d, h, rv⟩ := r.get e
      rw [h]
      exact .cons rv ih
def rBk (Y : Tx) : V → Option Int → Option Int → Hp → VK → Prop := fun v lo hi H Q => ∃ G S x d, GOk Y G H S ∧ RV Y G H v x ∧ bkO x lo hi = some d ∧ ∀ G' H' u, Ext G H G' H' → GOk Y G' H' S → RD Y G' H' u d → Q u H'
theorem or_bk (o : Cok kin gt Y k C g X W) : BkR X (rBk Y) := by
  intro pins s σ H v u vl vu vs lo hi sl Q I rx hs pl pu ps ⟨G, S, x, d, ok, r, e, q⟩
  have hK := o.ox.hK
  cases x <;> try (simp only [bkO] at e; cases e; done)
  · rename_i xs
    obtain ⟨a, vs, rfl, hq, rs⟩ := r.tup
    cases e
    exact back_tup I rx hs pl pu ps (by rw [hK]; exact hq) (fin_tup ok (back_rds rs lo hi) q)
  · rename_i xs
    obtain ⟨a, vs, rfl, hq, rs⟩ := r.lst
    have e : (if lo.isNone && hi.isNone then some (D.lst xs.reverse) else none) = some d := e
    split at e
    · rename_i h2
      cases e
      simp only [Bool.and_eq_true, Option.isNone_iff_eq_none] at h2
      obtain ⟨rfl, rfl⟩ := h2
      exact back_lst I rx hs pl pu ps (.of hq) (fin_lst ok (RDs.reverse rs) q)
    · cases e
theorem s_bk {r : Cfg → Cp} (sn : Snd kin gt r) (o : Cok kin gt Y k C g X W) {a : Expr} {lo hi : Option Expr} {x l h : E} {j : Nat} {pos p1 p2 p3 : Pos} (ha : PEl X Y W kin C a x) (hl : bndW r g lo = some l) (hh : bndW r g hi = some h) :
    PE X (.Subscript a (.Slice lo hi (some (.UnaryOp .USub (.Constant (.int 1) j p1) p2)) p3) pos) (tE Y W (RL look Y) (evE kin C (.bk x l h))) :=
  (pe_back (or_bk o) ha (s_bnd sn o hl) (s_bnd sn o hh)).imp fun σ H Q hq => by
    obtain ⟨H0, G, ρ, S, ok, sr, w⟩ := t_rl hq
    unfold evE at w
    refine ⟨H0, G, ρ, S, ok, sr, wpM_mono (wpM_bind.mp w) (fun d1 S1 w1 G1 H1 v1 e1 ok1 r1 => ?_) fun _ _ h => h⟩
    refine ⟨H0, G1, ρ, S1, ok1, sr.ext e1 ok, wpM_mono (wpM_bind.mp w1) (fun d2 S2 w2 G2 H2 o2 e2 ok2 b2 => ?_) fun x S h => h.trans e1⟩
    refine ⟨H0, G2, ρ, S2, ok2, (sr.ext e1 ok).ext e2 ok1, wpM_mono (wpM_bind.mp w2) (fun d3 S3 w3 G3 H3 o3 e3 ok3 b3 => ?_) fun x S h => h.trans (e1.trans e2)⟩
    obtain ⟨d4, hd4, w4⟩ := wpM_op.mp w3
    unfold bkD at hd4
    rw [b2, b3] at hd4
    exact ⟨G3, S3, d1, d4, ok3, (RL.rv r1).ext (e2.trans e3) ok1, hd4, fun G4 H4 u e4 ok4 r4 => w4 G4 H4 u (e1.trans (e2.trans (e3.trans e4))) ok4 r4⟩
theorem s_dct0 {pos : Pos} : PE X (.Dict [] [] pos) (tE Y W (RL look Y) (evE kin C .dct0)) :=
  pe_dnewK.imp fun σ H Q hq => by
    obtain ⟨H0, G, ρ, S, ok, sr, w⟩ := t_rl hq
    unfold evE at w
    intro p np
    have e : Ext G H G (upd H p (.dK [])) := Ext.new ok np
    have m : ¬ G.Mu p := fun m => ok.muT p m np
    exact w (G.fz p) _ _ (e.freeze np) ((ok.new np).freeze (by rw [upd_same]; exact fun z => nomatch z) m) (.dct0 upd_same (.inr rfl))
end
end RM
end
section
set_option Elab.async false
set_option linter.all false
set_option maxRecDepth 100000
set_option autoImplicit false
/-! sound: targets, sources of loops -/
namespace RM
open PySem PySem.Spec PyProof.Rows L2
section
variable {Y : Tx} {k : Nat} {C : Orc} {g : Cfg} {gt : Gt} {X : Cx} {W : WX} {kin : Kin} {look : Bool} {G : Gh} {H H0 : Hp} {σ : L2.St} {ρ : Fe}

/-! ### slots -/
theorem SR.put (sr : SR Y H0 G H σ ρ) {s : Slot} {o : Option V} (i : Nat) (r : SlotR Y H0 G H (some o) s) (hn : ∀ xs, s ≠ .own xs) : SR Y H0 G H (σ.set i o) (ρ.set i s) := by
  refine ⟨by rw [List.length_set, List.length_set]; exact sr.len, fun j t h => ?_, fun j l xs ys a h1 h2 h3 h4 => ?_⟩
  · by_cases e : i = j
    · subst e
      have hl : i < ρ.length := by
        have := (List.getElem?_eq_some_iff.mp h).1
        simpa using this
      rw [List.getElem?_set_self hl] at h
      cases h
      rw [List.getElem?_set_self (by rw [sr.len]; exact hl)]
      exact r
    · rw [List.getElem?_set_ne e] at h ⊢
      exact sr.slot j t h
  · have nj : ∀ {l : Nat} {zs : List D}, (ρ.set i s)[l]? = some (.own zs) → i ≠ l := fun {l zs} h e => by
      subst e
      have hl : i < ρ.length := by
        have := (List.getElem?_eq_some_iff.mp h).1
        simpa using this
      rw [List.getElem?_set_self hl] at h
      cases h
      exact hn zs rfl
    have e1 := nj h1
    have e2 := nj h2
    rw [List.getElem?_set_ne e1] at h1 h3
    rw [List.getElem?_set_ne e2] at h2 h4
    exact sr.apart j l xs ys a h1 h2 h3 h4
theorem SR.set (sr : SR Y H0 G H σ ρ) {v : V} {d : D} (i : Nat) (r : RD Y G H v d) : SR Y H0 G H (σ.set i (some v)) (setS ρ i d) := sr.put i ⟨v, rfl, r⟩ fun xs e => nomatch e
theorem SR.wipe (sr : SR Y H0 G H σ ρ) : ∀ vs : List Nat, SR Y H0 G H (wipe σ vs) (wipeE ρ vs)
  | [] => sr
  | v :: vs => (SR.wipe sr vs).put v (show SlotR Y H0 G H _ .emp from trivial) fun xs e => nomatch e
theorem SR.sets : ∀ {is : List Nat} {vs : List V} {ds : List D} {σ : L2.St} {ρ : Fe}, SR Y H0 G H σ ρ → RDs Y G H vs ds → SR Y H0 G H ((is.zip vs).foldl (fun σ q => σ.set q.1 (some q.2)) σ) ((is.zip ds).foldl (fun ρ q => setS ρ q.1 q.2) ρ)
  | [], _, _, _, _, sr, _ => sr
  | i :: is, _, _, _, _, sr, .nil => sr
  | i :: is, _, _, _, _, sr, .cons r rs => by
    rw [List.zip_cons_cons, List.zip_cons_cons]
    exact SR.sets (sr.set i r) rs
theorem wipe_set1 (σ : L2.St) (i : Nat) (x : Option V) : ∀ vs : List Nat, (wipe (σ.set i x) vs).set i none = (wipe σ vs).set i none
  | [] => by unfold wipe; rw [List.set_set]
  | v :: vs => by
    unfold wipe
    by_cases e : v = i
    · subst e
      rw [List.set_set, List.set_set]
      exact wipe_set1 σ v x vs
    · rw [List.set_comm _ _ e, List.set_comm _ _ e, wipe_set1 σ i x vs]
theorem wipe_set {σ : L2.St} {i : Nat} {x : Option V} : ∀ {vs : List Nat}, i ∈ vs → wipe (σ.set i x) vs = wipe σ vs
  | [], h => by cases h
  | v :: vs, h => by
    unfold wipe
    rcases List.mem_cons.mp h with rfl | h
    · exact wipe_set1 σ i x vs
    · rw [wipe_set h]
theorem wipe_idem1 (σ : L2.St) : ∀ (us vs : List Nat), (∀ i ∈ us, i ∈ vs) → wipe (wipe σ us) vs = wipe σ vs
  | [], vs, _ => rfl
  | u :: us, vs, h => by
    show wipe ((wipe σ us).set u none) vs = _
    rw [wipe_set (h u List.mem_cons_self)]
    exact wipe_idem1 σ us vs fun i hi => h i (List.mem_cons_of_mem _ hi)
theorem wipe_idem (σ : L2.St) (vs : List Nat) : wipe (wipe σ vs) vs = wipe σ vs := wipe_idem1 σ vs vs fun _ h => h
theorem wipe_sets {vs : List Nat} : ∀ {is : List Nat} {xs : List V} {σ : L2.St}, (∀ i ∈ is, i ∈ vs) → wipe ((is.zip xs).foldl (fun σ q => σ.set q.1 (some q.2)) σ) vs = wipe σ vs
  | [], _, _, _ => rfl
  | i :: is, [], _, _ => rfl
  | i :: is, x :: xs, σ, h => by
    rw [List.zip_cons_cons, List.foldl_cons, wipe_sets fun j hj => h j (List.mem_cons_of_mem _ hj)]
    exact wipe_set (h i List.mem_cons_self)

/-! ### targets -/
def tG (Y : Tx) (p : List Nat) : TG := fun v σ H Q => ∃ H0 G ρ S d ρ', GOk Y G H S ∧ SR Y H0 G H σ ρ ∧ RD Y G H v d ∧ asgP p d ρ = some ρ' ∧ ∀ σ', SR Y H0 G H σ' ρ' → (∀ vs : List Nat, (∀ i ∈ p, i ∈ vs) → wipe σ' vs = wipe σ vs) → Q σ' H
theorem _root_.L2.PG.imp {X : Cx} {e : Expr} {t t' : TG} (h : PG X e t) (hi : ∀ v σ H Q, t' v σ H Q → t v σ H Q) : PG X e t' := ⟨fun pins s σ H v u Q I r w => h.run pins s σ H v u Q I r (hi v σ H Q w)⟩
theorem tgt_ok (o : Cok kin gt Y k C g X W) {x : Str} {i : Nat} (h : g.tgt x = some i) : X.N[i]? = some x ∧ L2.Loc X.env.scope x ∧ (X.fn x = true ∨ X.env.scope.names.lookup x = some .local) := by
  unfold Cfg.tgt at h
  rw [o.N, o.sc, o.fn]
  unfold L2.Loc
  split at h
  · rename_i e; exact ⟨findIdx_get h, .inl e, .inr e⟩
  · rename_i e
    split at h
    · rename_i hf; exact ⟨findIdx_get h, .inr e, .inl hf⟩
    · cases h
  · cases h
def gNames (is : List Nat) : TGs := fun vs σ H Q => vs.length = is.length ∧ Q ((is.zip vs).foldl (fun σ q => σ.set q.1 (some q.2)) σ) H
theorem pgs_names (o : Cok kin gt Y k C g X W) : ∀ {ts : List Expr} {is : List Nat}, tgts g ts = some is → PGs X ts (gNames is) ∧ (assignEach ts X.env).length = is.length ∧ (assignEach ts X.env).findIdx? (·.1) = none
  | [], is, h => by
    cases h
    refine ⟨⟨fun pins s σ H vs us Q I r hw => pgs_nil.run pins s σ H vs us Q I r ?_⟩, rfl, rfl⟩
    obtain ⟨hl, q⟩ := hw
    obtain rfl : vs = [] := by simpa using hl
    exact ⟨rfl, q⟩
  | e :: ts, is, h => by
    cases e <;> simp only [tgts] at h <;> try (cases h; done)
    rename_i x p
    simp only [Option.bind_eq_bind, Option.bind_eq_some_iff, Option.some.injEq] at h
    obtain ⟨i, hi, js, hj, rfl⟩ := h
    obtain ⟨h1, h2, h3⟩ := tgt_ok o hi
    obtain ⟨p1, p2, p3⟩ := pgs_names o hj
    refine ⟨⟨fun pins s σ H vs us Q I r hw => (pgs_cons (pg_name o.ox.nd h1 h2 h3) p1 rfl).run pins s σ H vs us Q I r ?_⟩, ?_, ?_⟩
    · obtain ⟨hl, q⟩ := hw
      cases vs with
      | nil => simp at hl
      | cons v vs => exact ⟨v, vs, rfl, by simpa using hl, q⟩
    · show (assignEach ts X.env).length + 1 = js.length + 1
      rw [p2]
    · show List.findIdx? (·.1) ((false, assign (.Name x p) X.env) :: assignEach ts X.env) = none
      rw [List.findIdx?_cons, p3]; rfl
theorem tgts_length {ts : List Expr} : ∀ {is : List Nat}, tgts g ts = some is → is.length = ts.length := by
  induction ts with
  | nil => intro is h; cases h; rfl
  | cons e ts ih =>
    intro is h
    cases e <;> simp only [tgts] at h <;> try (cases h; done)
    simp only [Option.bind_eq_bind, Option.bind_eq_some_iff, Option.some.injEq] at h
    obtain ⟨i, hi, js, hj, rfl⟩ := h
    simp [ih hj]
theorem asgP_many {p : List Nat} {d : D} {ρ' : Fe} (hl : 2 ≤ p.length) (h : asgP p d ρ = some ρ') : ∃ xs, d = .tup xs ∧ xs.length = p.length ∧ ρ' = (p.zip xs).foldl (fun ρ q => setS ρ q.1 q.2) ρ := by
  match p, hl, h with
  | a :: b :: r, _, h =>
    cases d <;> simp only [asgP] at h <;> try (cases h; done)
    split at h
    · rename_i hz
      cases h
      exact ⟨_, rfl, hz, rfl⟩
    · cases h
theorem pg_pat (o : Cok kin gt Y k C g X W) {tg : Expr} {p : List Nat} (h : patW g tg = some p) : PG X tg (tG Y p) := by
  unfold patW at h
  split at h
  · simp only [Option.map_eq_some_iff] at h
    obtain ⟨i, hi, rfl⟩ := h
    obtain ⟨h1, h2, h3⟩ := tgt_ok o hi
    refine (pg_name o.ox.nd h1 h2 h3).imp fun v σ H Q hq => ?_
    obtain ⟨H0, G, ρ, S, d, ρ', ok, sr, r, e, q⟩ := hq
    cases e
    exact q _ (sr.set i r) fun vs hv => wipe_set (hv i List.mem_cons_self)
  · split at h
    · cases h
    rename_i hh
    have hh : g.hot = false := by simpa using hh
    obtain ⟨p1, p2, p3⟩ := pgs_names o h
    refine (pg_tup (o.ox.calm hh) p1 p2 p3).imp fun v σ H Q hq => ?_
    obtain ⟨H0, G, ρ, S, d, ρ', ok, sr, r, e, q⟩ := hq
    have hl := tgts_length h
    obtain ⟨xs, rfl, hz, rfl⟩ := asgP_many (by rw [hl]; exact Nat.le_add_left _ _) e
    obtain ⟨a, vs, rfl, hs, rs⟩ := (RD.rv r).tup
    refine ⟨a, vs, rfl, by rw [o.ox.hK]; exact hs, by rw [rs.length]; exact hz, by rw [rs.length]; exact hz, ?_⟩
    exact q _ (sr.sets rs) fun vs hv => wipe_sets hv
  · cases h

/-! ### sources -/
theorem RL.ext {v : V} {d : D} {G' : Gh} {H' : Hp} {S : Sto} (r : RL look Y G H v d) (e : Ext G H G' H') (ok : GOk Y G H S) : RL look Y G' H' v d := by
  cases look with
  | true => exact RV.ext r e ok
  | false => exact RD.ext r e ok
theorem sI_seq {tg ex : Expr} {x : E} (o : Cok kin gt Y k C g X W) (he : PE X ex (tE Y W (RL look Y) (evE kin C x))) : PI X tg ex (tI Y W look (evI kin C (.seq x))) := by
  have hK := o.ox.hK
  refine ⟨fun pins s σ H R I h => ?_⟩
  obtain ⟨H0, G, ρ, S, ok, sr, w⟩ := h
  unfold evI at w
  refine thn (he.run pins s σ H (fun v H1 => ∃ G1 S1 d xs, GOk Y G1 H1 S1 ∧ RL look Y G1 H1 v d ∧ iterD d = some xs ∧ ∀ J, YOk Y (Kk look Y G1 H1) J xs → R J H1) I
    ⟨H0, G, ρ, S, ok, sr, wpM_mono (wpM_bind.mp w) (fun d S1 w1 G1 H1 v e1 ok1 r1 => ?_) fun _ _ h => h⟩) fun u s1 ⟨v, H1, I1, r1, G1, S1, d, xs, ok1, rl, hx, q⟩ => ?_
  · obtain ⟨xs, hx, w2⟩ := wpM_op.mp w1
    exact ⟨G1, S1, d, xs, ok1, r1, hx, fun J y => w2 G1 H1 J e1 ok1 y⟩
  · have seq : ∀ {xs : List D}, itemsD d = some xs → (∀ J, YOk Y (Kk look Y G1 H1) J xs → R J H1) → wpAny (model X.prog X.w) X.A (pyIter u) (PIE X pins σ tg R) X.xe s1 := fun {xs} hx q => by
      obtain ⟨a, vs, rfl, hv, hr⟩ := Kk.seq ok1 (show if look = true then RV Y G1 H1 v d else RD Y G1 H1 v d from rl) hx
      cases r1
      rcases hv with ⟨_, h1, h2⟩ | ⟨_, h1, h2⟩
      · obtain ⟨its, rv, p, hz⟩ := I1.list (by rw [hK]; exact h1)
        exact wpAny_pyIter_list p.isList (pi_one (tk := s1.toks) I1 _ (turn_list a _) ⟨_, Heap.get?_push_size _ rfl, rfl, rfl⟩ (by rw [hK]; exact q _ (YOk.lst h2 hr)))
      · obtain ⟨its, rv, p, hz⟩ := I1.tuple (by rw [hK]; exact h1)
        exact wpAny_pyIter_tuple (show s1.heap.IsTuple a its.toArray from p) (pi_one (tk := s1.toks) I1 _ (turn_tuple a _) ⟨_, Heap.get?_push_size _ rfl, rfl, rfl⟩ (by rw [hK]; exact q _ (YOk.tup h2 hr)))
    cases d <;> try (simp only [iterD] at hx; cases hx; done)
    · rename_i z
      cases (RL.rv rl).str
      obtain ⟨t, rfl⟩ := r1
      simp only [iterD] at hx
      split at hx
      · cases hx
        cases ha : z.cps.all (· < 128)
        · exact wpAny_pyIter_wide ha (pi_one (tk := s1.toks) I1 _ (turn_str _ z t "str_iterator" (.inr rfl)) ⟨_, Heap.get?_push_size _ rfl, rfl, rfl⟩ (q _ (YOk.str z)))
        · exact wpAny_pyIter_ascii ha (pi_one (tk := s1.toks) I1 _ (turn_str _ z t "str_ascii_iterator" (.inl rfl)) ⟨_, Heap.get?_push_size _ rfl, rfl, rfl⟩ (q _ (YOk.str z)))
      · cases hx
    · exact seq hx q
    · exact seq hx q
    · exact seq hx q
theorem sI_rng1 {tg a : Expr} {x : E} {p pos : Pos} (o : Cok kin gt Y k C g X W) (ha : PEl X Y W kin C a x) (hs : isStarred a = false) (hg : g.glo gt "range" = some .blt) : PI X tg (.Call (.Name "range" p) [a] [] pos) (tI Y W look (evI kin C (.rng1 x))) := by
  obtain ⟨hgl, hm⟩ := glo_ok o hg
  have s1 := starEach_plain (es := []) (env := X.env) hs
  refine (pi_range1 hgl hm (pa_cons ha pa_nil s1) s1).imp fun σ H R h => ?_
  obtain ⟨H0, G, ρ, S, ok, sr, w⟩ := h
  unfold evI at w
  refine ⟨H0, G, ρ, S, ok, sr, wpM_mono (wpM_bind.mp w) (fun d S1 w1 G1 H1 v e1 ok1 r1 => ?_) fun _ _ h => h⟩
  split at w1
  · rename_i j
    cases (RL.rv r1).int
    split at w1
    · rename_i hz
      have hl := line63
      have hz' := sizeLine_eq
      exact ⟨j, rfl, hz.1, by omega, w1 G1 H1 _ e1 ok1 (YOk.rng 0 j.toNat)⟩
    · exact w1.elim
  · exact w1.elim
theorem sI_rng2 {tg a b : Expr} {x y : E} {p pos : Pos} (o : Cok kin gt Y k C g X W) (ha : PEl X Y W kin C a x) (hs : isStarred a = false) (hb : PEl X Y W kin C b y) (hs' : isStarred b = false) (hg : g.glo gt "range" = some .blt) : PI X tg (.Call (.Name "range" p) [a, b] [] pos) (tI Y W look (evI kin C (.rng2 x y))) := by
  obtain ⟨hgl, hm⟩ := glo_ok o hg
  have s1 := starEach_plain (es := [b]) (env := X.env) hs
  have s2 := starEach_plain (es := []) (env := X.env) hs'
  refine (pi_range2 hgl hm (pa_cons ha (pa_cons hb pa_nil s2) s1) (by rw [s1, s2]; rfl) s2).imp fun σ H R h => ?_
  obtain ⟨H0, G, ρ, S, ok, sr, w⟩ := h
  unfold evI at w
  refine ⟨H0, G, ρ, S, ok, sr, wpM_mono (wpM_bind.mp w) (fun d S1 w1 G1 H1 v e1 ok1 r1 => ?_) fun _ _ h => h⟩
  refine ⟨H0, G1, ρ, S1, ok1, sr.ext e1 ok, wpM_mono (wpM_bind.mp w1) (fun d2 S2 w2 G2 H2 v2 e2 ok2 r2 => ?_) fun x S h => h.trans e1⟩
  split at w2
  · rename_i i j
    cases (RL.rv r1).int
    cases (RL.rv r2).int
    split at w2
    · rename_i hz
      exact ⟨i, j, rfl, ⟨hz.1, hz.2.1, hz.2.2.1, hz.2.2.2.1⟩, w2 G2 H2 _ (e1.trans e2) ok2 (YOk.rng i _)⟩
    · exact w2.elim
  · exact w2.elim
theorem sI_enum {a : Expr} {es : List Expr} {kk : Nat} {tpos : Pos} {x : E} {p pos : Pos} (o : Cok kin gt Y k C g X W) (ha : PE X a (tE Y W (RL look Y) (evE kin C x))) (hs : isStarred a = false) (hg : g.glo gt "enumerate" = some .blt) : PI X (.Tuple es kk tpos) (.Call (.Name "enumerate" p) [a] [] pos) (tI Y W look (evI kin C (.enum x))) := by
  have hK := o.ox.hK
  obtain ⟨hgl, hm⟩ := glo_ok o hg
  have s1 := starEach_plain (es := []) (env := X.env) hs
  refine (pi_enumA hgl hm (pa_cons ha pa_nil s1) s1).imp fun σ H R h => ?_
  obtain ⟨H0, G, ρ, S, ok, sr, w⟩ := h
  unfold evI at w
  refine ⟨H0, G, ρ, S, ok, sr, wpM_mono (wpM_bind.mp w) (fun d S1 w1 G1 H1 v e1 ok1 r1 => ?_) fun _ _ h => h⟩
  split at w1
  · rename_i xs
    obtain ⟨b, vs, rfl, hv, hr⟩ := Kk.seq ok1 (show if look = true then RV Y G1 H1 v (.lst xs) else RD Y G1 H1 v (.lst xs) from r1) rfl
    rcases hv with ⟨_, h1, h2⟩ | ⟨e, _⟩
    · exact ⟨b, vs, rfl, .inl ⟨by rw [hK]; exact h1, by rw [hK]; exact w1 G1 H1 _ e1 ok1 (YOk.enumL h2 hr)⟩⟩
    · cases e
  · rename_i xs
    obtain ⟨b, vs, rfl, hv, hr⟩ := Kk.seq ok1 (show if look = true then RV Y G1 H1 v (.tup xs) else RD Y G1 H1 v (.tup xs) from r1) rfl
    rcases hv with ⟨e, _⟩ | ⟨_, h1, h2⟩
    · cases e
    · exact ⟨b, vs, rfl, .inr ⟨by rw [hK]; exact h1, by rw [hK]; exact w1 G1 H1 _ e1 ok1 (YOk.enumT h2 hr)⟩⟩
  · exact w1.elim
theorem Kk.trans {G1 G2 G3 : Gh} {H1 H2 H3 : Hp} {S : Sto} (e : Ext G1 H1 G2 H2) (ok : GOk Y G1 H1 S) (k : Kk look Y G2 H2 G3 H3) : Kk look Y G1 H1 G3 H3 := by
  cases look with
  | true => exact Ext.trans e k
  | false => exact Kp.trans (e.kp ok) k
theorem sI_zip {a b : Expr} {es : List Expr} {kk : Nat} {tpos : Pos} {x y : E} {p pos : Pos} (o : Cok kin gt Y k C g X W) (ha : PE X a (tE Y W (RL look Y) (evE kin C x))) (hs : isStarred a = false) (hb : PE X b (tE Y W (RL look Y) (evE kin C y))) (hs' : isStarred b = false) (hg : g.glo gt "zip" = some .blt) :
    PI X (.Tuple es kk tpos) (.Call (.Name "zip" p) [a, b] [] pos) (tI Y W look (evI kin C (.zip x y))) := by
  have hK := o.ox.hK
  obtain ⟨hgl, hm⟩ := glo_ok o hg
  have s1 := starEach_plain (es := [b]) (env := X.env) hs
  have s2 := starEach_plain (es := []) (env := X.env) hs'
  refine (RZ.pi_zipA hgl hm (pa_cons ha (pa_cons hb pa_nil s2) s1) s1 (starEach_none (by simp [hs']))).imp fun σ H R h => ?_
  obtain ⟨H0, G, ρ, S, ok, sr, w⟩ := h
  unfold evI at w
  refine ⟨H0, G, ρ, S, ok, sr, wpM_mono (wpM_bind.mp w) (fun d S1 w1 G1 H1 v e1 ok1 r1 => ?_) fun _ _ h => h⟩
  refine ⟨H0, G1, ρ, S1, ok1, sr.ext e1 ok, wpM_mono (wpM_bind.mp w1) (fun d2 S2 w2 G2 H2 v2 e2 ok2 r2 => ?_) fun x S h => h.trans e1⟩
  have r1' := r1.ext e2 ok1
  split at w2
  · rename_i xs ys
    obtain ⟨q, vs, rfl, hv, hr⟩ := Kk.seq ok2 (show if look = true then RV Y G2 H2 v (.lst xs) else RD Y G2 H2 v (.lst xs) from r1') rfl
    obtain ⟨q', vs', rfl, hv', hr'⟩ := Kk.seq ok2 (show if look = true then RV Y G2 H2 v2 (.lst ys) else RD Y G2 H2 v2 (.lst ys) from r2) rfl
    rcases hv with ⟨_, h1, h2⟩ | ⟨e, _⟩
    · rcases hv' with ⟨_, h1', h2'⟩ | ⟨e, _⟩
      · exact ⟨q, q', vs, vs', rfl, .inl ⟨by rw [hK]; exact h1, by rw [hK]; exact h1', by rw [hK]; exact w2 G2 H2 _ (e1.trans e2) ok2 (YOk.zipL h2 hr h2' hr')⟩⟩
      · cases e
    · cases e
  · rename_i xs ys
    obtain ⟨q, vs, rfl, hv, hr⟩ := Kk.seq ok2 (show if look = true then RV Y G2 H2 v (.tup xs) else RD Y G2 H2 v (.tup xs) from r1') rfl
    obtain ⟨q', vs', rfl, hv', hr'⟩ := Kk.seq ok2 (show if look = true then RV Y G2 H2 v2 (.tup ys) else RD Y G2 H2 v2 (.tup ys) from r2) rfl
    rcases hv with ⟨e, _⟩ | ⟨_, h1, h2⟩
    · cases e
    · rcases hv' with ⟨e, _⟩ | ⟨_, h1', h2'⟩
      · cases e
      · exact ⟨q, q', vs, vs', rfl, .inr ⟨by rw [hK]; exact h1, by rw [hK]; exact h1', by rw [hK]; exact w2 G2 H2 _ (e1.trans e2) ok2 (YOk.zipT h2 hr h2' hr')⟩⟩
  · exact w2.elim
end
end RM
end
section
set_option Elab.async false
set_option linter.all false
set_option maxRecDepth 100000
set_option autoImplicit false
/-! sound: comprehensions; the whole -/
namespace RM
open PySem PySem.Spec PyProof.Rows L2

theorem quiet_wp {α : Type} {Q : α → Sto → Prop} {R : D → Sto → Prop} : ∀ {t : T α}, t.quiet.wp Q R → t.wp Q fun _ _ => False
  | .ret a S, h => h
  | .raise x S, h => h
  | .fail, h => h
  | .draw n k, h => fun i hi => quiet_wp (h i hi)
theorem wpM_quiet {α : Type} {m : M α} {S : Sto} {Q : α → Sto → Prop} {R : D → Sto → Prop} (h : wpM (M.quiet m) S Q R) : wpM m S Q fun _ _ => False := quiet_wp h

section
variable {Y : Tx} {k : Nat} {C : Orc} {g : Cfg} {gt : Gt} {X : Cx} {W : WX} {kin : Kin} {look : Bool} {G : Gh} {H H0 : Hp} {σ : L2.St} {ρ : Fe}

theorem t_new {m : Fe → M D} {Q : VK} (h : tE Y W (RL look Y) m σ H Q) : tN Y W m σ H Q := by
  obtain ⟨H0, G, ρ, S, ok, sr, w⟩ := t_rl h
  refine ⟨H0, G, ρ, S, ok, sr, wpM_mono w (fun d S1 q G1 H1 a vs ds e x ok1 na ha nf nm rs => ?_) fun _ _ h => h⟩
  subst e
  exact q (G1.fz a) H1 _ (x.freeze na) (ok1.freeze (by rw [ha]; exact fun z => nomatch z) nm) (.lst ha (.inr rfl) (rs.mono Kp.freeze))

abbrev WF : WX := fun _ _ _ _ => False
theorem blk_cok (o : Cok kin gt Y k C g X W) (hh : g.hot = false) (s : Shared) (H : Hp) (scope : Scope) (c : Addr) (cl : List (Str × Addr)) (fp : List Addr) : Cok kin gt Y k C (g.blk scope) (X.blk s H scope (compEnvC scope cl c X.env) fp) WF where
  ox := ⟨o.ox.nd, fun _ => o.ox.calm hh, o.ox.hK, fun _ => o.ox.room hh, o.ox.units, o.ox.gd, o.ox.sys⟩
  N := o.N
  sc := by
    show relS scope X.env.scope = relS scope g.sc
    rw [o.sc]
  fn := rfl
  tk := takes_none5
  cold := fun _ => o.cold hh
  kok := o.kok
  cur := fun a cls dx e => by rw [o.cold hh] at e; cases e
  gt := by
    have z := o.gt
    rw [hh] at z
    exact z
/-- a new list grows -/
theorem Ext.grow {G G' : Gh} {H H' : Hp} {p : Addr} {o : HO} (e : Ext G H G' H') (n : H p = none) : Ext G H G' (upd H' p o) where
  fz := e.fz
  mu := e.mu
  dr := e.dr
  keep := fun a u h m => by rw [upd_ne (ne_of_none h n)]; exact e.keep a u h m
  there := fun a h => by
    obtain ⟨u, q⟩ := some_of_ne h
    rw [upd_ne (ne_of_none q n)]; exact e.there a h
  nfz := e.nfz
  nmu := e.nmu
  ndr := e.ndr
theorem mapO_cons {f : D → M (Option D)} {x : D} {xs : List D} {S : Sto} {Q : List D → Sto → Prop} {R : D → Sto → Prop} (h : wpM (mapO f (x :: xs)) S Q R) :
    wpM (f x) S (fun r S1 => wpM (mapO f xs) S1 (fun rs S2 => Q (r.toList ++ rs) S2) R) R := by
  unfold mapO at h
  refine wpM_mono (wpM_bind.mp h) (fun r S1 h1 => ?_) fun _ _ z => z
  cases r with
  | none => exact wpM_mono (wpM_bind.mp h1) (fun _ _ q => q) fun _ _ z => z
  | some d => exact wpM_mono (wpM_bind.mp h1) (fun _ _ q => q) fun _ _ z => z
theorem mapL_cons {f : D → M (List D)} {x : D} {xs : List D} {S : Sto} {Q : List D → Sto → Prop} {R : D → Sto → Prop} (h : wpM (mapL f (x :: xs)) S Q R) :
    wpM (f x) S (fun r S1 => wpM (mapL f xs) S1 (fun rs S2 => Q (r ++ rs) S2) R) R := by
  unfold mapL at h
  refine wpM_mono (wpM_bind.mp h) (fun r S1 h1 => ?_) fun _ _ z => z
  exact wpM_mono (wpM_bind.mp h1) (fun _ _ q => q) fun _ _ z => z
def lcF (kin : Kin) (C : Orc) (ρ : Fe) (own p : List Nat) (t : Q) (e : E) (x : D) : M (Option D) := do
  let ρ1 ← M.op (asgP p x (wipeE ρ own))
  let b ← evT kin C t ρ1
  if b then do
    let y ← evE kin C e ρ1
    pure (some y)
  else pure none
theorem evE_lc (own p : List Nat) (it : I) (t : Q) (e : E) (ρ : Fe) : evE kin C (.lc own p it t e) ρ = (do
    let xs ← evI kin C it ρ
    small xs.length
    let rs ← M.quiet (mapO (lcF kin C ρ own p t e) xs)
    pure (.lst rs)) := by
  rw [evE]; rfl
theorem few_wp {n : Nat} {S : Sto} {Q : Unit → Sto → Prop} {R : D → Sto → Prop} (h : wpM (few n) S Q R) : n ≤ 4000 ∧ Q () S := by
  unfold few at h
  split at h
  · rename_i hz; exact ⟨hz, h⟩
  · exact h.elim
theorem small_wp {n : Nat} {S : Sto} {Q : Unit → Sto → Prop} {R : D → Sto → Prop} (h : wpM (small n) S Q R) : n ≤ sizeLine ∧ Q () S := by
  unfold small at h
  split at h
  · rename_i hz; exact ⟨hz, h⟩
  · exact h.elim
theorem t_lc {vs p : List Nat} {it : I} {t : Q} {e : E} {σ : L2.St} {H : Hp} {Q : VK} (hp : ∀ i ∈ p, i ∈ vs) (h : tN Y W (evE kin C (.lc vs p it t e)) σ H Q) :
    tLc (tI Y W true (evI kin C it)) (tG Y p) (tQ Y WF (evT kin C t)) (tE Y WF (RD Y) (evE kin C e)) vs σ H Q := by
  obtain ⟨H0, G, ρ, S, ok0, sr, w⟩ := h
  rw [evE_lc] at w
  refine ⟨H0, G, ρ, S, ok0, sr, wpM_mono (wpM_bind.mp w) (fun xs S1 w1 G1 H1 J e1 ok1 yk D hD => ?_) fun _ _ h => h⟩
  obtain ⟨hz, w1⟩ := small_wp (wpM_bind.mp w1)
  have w1 := wpM_quiet (wpM_bind.mp w1)
  have sr1 := sr.ext e1 ok0
  have nF : ¬ G1.Fz D := fun z => ok1.fzT D z hD
  have nM : ¬ G1.Mu D := fun z => ok1.muT D z hD
  refine ⟨fun i m H => m = xs.length - i ∧ i ≤ xs.length ∧ ∃ G S acc ds, GOk Y G H S ∧ Ext G1 H1 G H ∧ H D = some (.lst acc) ∧ ¬ G.Fz D ∧ ¬ G.Mu D ∧ RDs Y G H acc ds ∧ acc.length ≤ i ∧
    wpM (mapO (lcF kin C ρ vs p t e) (xs.drop i)) S (fun rs S' => ∀ G' H' a vs', Ext G1 H1 G' H' → GOk Y G' H' S' → H1 a = none → H' a = some (.lst vs') → ¬ G'.Fz a → ¬ G'.Mu a → RDs Y G' H' vs' (ds ++ rs) → Q (.ref a) H') (fun _ _ => False),
    ⟨xs.length, by simp, Nat.zero_le _, G1, S1, [], [], ok1.new hD, Ext.new ok1 hD, upd_same, nF, nM, .nil, Nat.zero_le _, ?_⟩, ?_⟩
  · refine wpM_mono w1 (fun rs S2 q G' H' a vs' x okx na ha nf nm rsx => ?_) fun _ _ z => z
    have na' : H a = none := by
      cases hh : H a with
      | none => rfl
      | some u => exact absurd na (e1.there a (by rw [hh]; exact fun z => nomatch z))
    exact q G' H' a vs' rs rfl (e1.trans x) okx na' ha nf nm rsx
  rintro i m H2 ⟨rfl, hle, G2, S2, acc, ds, ok2, e2, hacc, nf2, nm2, rs2, hlen, w2⟩
  by_cases hlt : i < xs.length
  · obtain ⟨hgo, hyl⟩ := yk.go i G2 H2 S2 hlt e2 ok2
    refine .inr ⟨hgo, fun H' => ∃ m', m' < xs.length - i ∧ m' = xs.length - (i + 1) ∧ i + 1 ≤ xs.length ∧ ∃ G S acc ds, GOk Y G H' S ∧ Ext G1 H1 G H' ∧ H' D = some (.lst acc) ∧ ¬ G.Fz D ∧ ¬ G.Mu D ∧ RDs Y G H' acc ds ∧ acc.length ≤ i + 1 ∧
      wpM (mapO (lcF kin C ρ vs p t e) (xs.drop (i + 1))) S (fun rs S' => ∀ G' H' a vs', Ext G1 H1 G' H' → GOk Y G' H' S' → H1 a = none → H' a = some (.lst vs') → ¬ G'.Fz a → ¬ G'.Mu a → RDs Y G' H' vs' (ds ++ rs) → Q (.ref a) H') (fun _ _ => False), fun H' h => h, fun x H3 y => ?_⟩
    obtain ⟨d, hd, e3, ok3, r3⟩ := hyl x H3 y
    have hdrop : xs.drop i = d :: xs.drop (i + 1) := by
      rw [List.drop_eq_getElem_cons hlt]
      rw [List.getElem?_eq_getElem hlt] at hd
      rw [Option.some.inj hd]
    rw [hdrop] at w2
    have w2 := mapO_cons w2
    unfold lcF at w2
    obtain ⟨ρ1, hρ, w2⟩ := wpM_op.mp (wpM_bind.mp w2)
    have w2 := wpM_bind.mp w2
    have e13 := e2.trans e3
    have srw : SR Y H0 G2 H3 (wipe σ vs) (wipeE ρ vs) := (sr1.ext e13 ok1).wipe vs
    refine ⟨H0, G2, wipeE ρ vs, S2, d, ρ1, ok3, srw, r3, hρ, fun σ2 sr2 hw => ⟨by rw [hw vs hp, wipe_idem], ?_⟩⟩
    refine ⟨H0, G2, ρ1, S2, ok3, sr2, wpM_mono w2 (fun b S3 w3 G4 H4 e4 ok4 => ?_) fun _ _ z => z.elim⟩
    have ne3 : H3 D = some (.lst acc) := e3.keep D _ hacc nm2
    have ne4 : H4 D = some (.lst acc) := e4.keep D _ ne3 nm2
    have nfz : ∀ {Ga Gb : Gh} {Ha Hb : Hp} {z : List V}, Ext Ga Ha Gb Hb → Ha D = some (.lst z) → ¬ Ga.Fz D → ¬ Gb.Fz D := fun x h n z => (x.nfz D z).elim n fun q => by rw [h] at q; cases q
    have nmu : ∀ {Ga Gb : Gh} {Ha Hb : Hp} {z : List V}, Ext Ga Ha Gb Hb → Ha D = some (.lst z) → ¬ Ga.Mu D → ¬ Gb.Mu D := fun x h n z => (x.nmu D z).elim n fun q => by rw [h] at q; cases q
    cases b with
    | false =>
      simp only [Bool.false_eq_true, if_false]
      exact ⟨_, by omega, rfl, hlt, G4, S3, acc, ds, ok4, e13.trans e4, ne4, nfz e4 ne3 nf2, nmu e4 ne3 nm2, (rs2.ext e3 ok2).ext e4 ok3, by omega, w3⟩
    | true =>
      simp only [if_true]
      have w3 := wpM_bind.mp w3
      refine ⟨H0, G4, ρ1, S3, ok4, sr2.ext e4 ok3, wpM_mono w3 (fun y S4 w4 G5 H5 v e5 ok5 r5 => ?_) fun _ _ z => z.elim⟩
      have ne5 : H5 D = some (.lst acc) := e5.keep D _ ne4 (nmu e4 ne3 nm2)
      have nf5 := nfz e5 ne4 (nfz e4 ne3 nf2)
      have nm5 := nmu e5 ne4 (nmu e4 ne3 nm2)
      have kp := Kp.write (G := G5) (o := .lst (acc ++ [v])) ne5 nf5
      refine ⟨acc, ne5, by omega, _, by omega, rfl, hlt, G5, S4, acc ++ [v], ds ++ [y], ok5.write ne5 nf5 nm5, ((e13.trans e4).trans e5).grow hD, upd_same, nf5, nm5, ?_, by simp; omega, ?_⟩
      · exact ((((rs2.ext e3 ok2).ext e4 ok3).ext e5 ok4).append (.cons r5 .nil)).mono kp
      · refine wpM_mono w4 (fun rs S5 w5 G' H' a vs' x okx na ha nf nm rsx => ?_) fun _ _ z => z
        exact w5 G' H' a vs' x okx na ha nf nm (by rw [List.append_assoc] at rsx; exact rsx)
  · have hi : i = xs.length := by omega
    subst hi
    rw [List.drop_length] at w2
    refine .inl ⟨yk.stop _ G2 H2 S2 (Nat.le_refl _) e2 ok2, ?_⟩
    exact w2 G2 H2 D acc e2 ok2 hD hacc nf2 nm2 (by rw [List.append_nil]; exact rs2)
theorem s_lcN {elt tg iter : Expr} {ifs : List Expr} {scope : Scope} {own : List (Str × Nat)} {pos : Pos} {p : List Nat} {it : I} {t : Q} {e : E} (o : Cok kin gt Y k C g X W) (hh : g.hot = false) (hi : PI X tg iter (tI Y W true (evI kin C it))) (ok : BlkOk X.N X.env.scope scope own) (hp : ∀ i ∈ p, i ∈ own.map (·.2))
    (hg : ∀ X' : Cx, Cok kin gt Y k C (g.blk scope) X' WF → PG X' tg (tG Y p)) (ht : ∀ X' : Cx, Cok kin gt Y k C (g.blk scope) X' WF → PTs X' ifs (tQ Y WF (evT kin C t))) (he : ∀ X' : Cx, Cok kin gt Y k C (g.blk scope) X' WF → PE X' elt (tE Y WF (RD Y) (evE kin C e))) (hs : ∀ env x, foldedSetIterable iter env x = pure x) :
    PE X (.ListComp elt [⟨tg, iter, ifs, 0⟩] scope pos) (tN Y W (evE kin C (.lc (own.map (·.2)) p it t e))) := by
  exact (pe_lc (o.ox.calm hh) o.ox.nd hi ok (fun s H c cl fp => hg _ (blk_cok o hh s H scope c cl fp)) (fun s H c cl fp => ht _ (blk_cok o hh s H scope c cl fp)) (fun s H c cl fp => he _ (blk_cok o hh s H scope c cl fp)) (fun x => hs _ x)).imp fun σ H Q h => t_lc hp h
end
end RM
end
section
set_option Elab.async false
set_option linter.all false
set_option maxRecDepth 100000
set_option autoImplicit false
/-! sound: comprehensions of two clauses -/
namespace RM
open PySem PySem.Spec PyProof.Rows L2

/-- as Ext, but for a list at D that may be written -/
structure ExtD (p : Addr) (G : Gh) (H : Hp) (G' : Gh) (H' : Hp) : Prop where
  fz : ∀ a, G.Fz a → G'.Fz a
  mu : ∀ a, G.Mu a → G'.Mu a
  dr : ∀ z, G.dr = some z → G'.dr = some z
  keep : ∀ a o, H a = some o → ¬ G.Mu a → a ≠ p → H' a = some o
  there : ∀ a, H a ≠ none → H' a ≠ none
  nfz : ∀ a, G'.Fz a → G.Fz a ∨ H a = none
  nmu : ∀ a, G'.Mu a → G.Mu a ∨ H a = none
section
variable {Y : Tx} {G G1 G2 : Gh} {H H1 H2 H0 : Hp} {S S1 : Sto} {p : Addr} {σ : L2.St} {ρ : Fe}
theorem Ext.extD (e : Ext G H G1 H1) : ExtD p G H G1 H1 := ⟨e.fz, e.mu, e.dr, fun a o h m _ => e.keep a o h m, e.there, e.nfz, e.nmu⟩
theorem ExtD.refl : ExtD p G H G H := Ext.refl.extD
theorem ExtD.trans (a : ExtD p G H G1 H1) (b : ExtD p G1 H1 G2 H2) : ExtD p G H G2 H2 where
  fz := fun x h => b.fz x (a.fz x h)
  mu := fun x h => b.mu x (a.mu x h)
  dr := fun z h => b.dr z (a.dr z h)
  keep := fun x o h n q => b.keep x o (a.keep x o h n q) (fun m => (a.nmu x m).elim n fun e => by rw [h] at e; cases e) q
  there := fun x h => b.there x (a.there x h)
  nfz := fun x h => (b.nfz x h).elim (a.nfz x) fun e => by
    by_cases q : H x = none
    · exact .inr q
    · exact absurd e (a.there x q)
  nmu := fun x h => (b.nmu x h).elim (a.nmu x) fun e => by
    by_cases q : H x = none
    · exact .inr q
    · exact absurd e (a.there x q)
theorem ExtD.write {o : HO} : ExtD p G H G (upd H p o) where
  fz := fun _ h => h
  mu := fun _ h => h
  dr := fun _ h => h
  keep := fun a u h _ q => by rw [upd_ne q]; exact h
  there := fun a h => by
    by_cases q : a = p
    · subst q; rw [upd_same]; exact fun z => nomatch z
    · rw [upd_ne q]; exact h
  nfz := fun _ h => .inl h
  nmu := fun _ h => .inl h
theorem ExtD.kp {xs : List V} (e : ExtD p G H G1 H1) (ok : GOk Y G H S) (hp : H p = some (.lst xs)) (nf : ¬ G.Fz p) : Kp G H G1 H1 := ⟨e.fz, e.dr, fun a o h s => e.keep a o h (s.elim (ok.solid a o h) (ok.fzmu a)) fun z => by
  subst z
  rcases s with s | s
  · rw [hp] at h; cases h; exact s
  · exact nf s⟩
theorem SR.extD {xs : List V} (sr : SR Y H0 G H σ ρ) (e : ExtD p G H G1 H1) (ok : GOk Y G H S) (hp : H p = some (.lst xs)) (nf : ¬ G.Fz p) (h0 : H0 p ≠ none) : SR Y H0 G1 H1 σ ρ := by
  refine ⟨sr.len, fun i s h => ?_, sr.apart⟩
  have q := sr.slot i s h
  cases s with
  | emp => trivial
  | val d => obtain ⟨v, h, r⟩ := q; exact ⟨v, h, r.mono (e.kp ok hp nf)⟩
  | exn x =>
    obtain ⟨a, cls, dx, h, c, c', C, fs, q, fv, e1, e2, e3, e4, hq, m, r⟩ := q
    refine ⟨a, cls, dx, h, c, c', C, fs, q, fv, e1, e2, e3, e4, e.keep q _ hq m fun z => ?_, fun z => (e.nmu q z).elim m fun z => (by rw [hq] at z; cases z), r.mono (e.kp ok hp nf)⟩
    rw [z, hp] at hq; cases hq
  | own xs =>
    obtain ⟨a, vs, hs, ha, f, m, h00, r⟩ := q
    have ne : a ≠ p := fun z => h0 (z ▸ h00)
    have no : H a = none → False := fun z => by rw [ha] at z; cases z
    exact ⟨a, vs, hs, e.keep a _ ha m ne, fun q => (e.nfz a q).elim f no, fun q => (e.nmu a q).elim m no, h00, r.mono (e.kp ok hp nf)⟩
  | new c fs =>
    obtain ⟨a, C, dx, fv, hs, hc, ha, f, m, h00, r⟩ := q
    have ne : a ≠ p := fun z => h0 (z ▸ h00)
    have no : H a = none → False := fun z => by rw [ha] at z; cases z
    exact ⟨a, C, dx, fv, hs, hc, e.keep a _ ha m ne, fun q => (e.nfz a q).elim f no, fun q => (e.nmu a q).elim m no, h00, r.mono (e.kp ok hp nf)⟩
/-- a list that is not there yet is no one's own -/
theorem SR.avoid {o : HO} (sr : SR Y H0 G H σ ρ) (hp : H p = none) : SR Y (upd H0 p o) G H σ ρ := by
  refine ⟨sr.len, fun i s h => ?_, sr.apart⟩
  have q := sr.slot i s h
  cases s with
  | emp => trivial
  | val d => exact q
  | exn x => exact q
  | own xs =>
    obtain ⟨a, vs, hs, ha, f, m, h00, r⟩ := q
    refine ⟨a, vs, hs, ha, f, m, ?_, r⟩
    rw [upd_ne (ne_of_none ha hp)]
    exact h00
  | new c fs =>
    obtain ⟨a, C, dx, fv, hs, hc, ha, f, m, h00, r⟩ := q
    refine ⟨a, C, dx, fv, hs, hc, ha, f, m, ?_, r⟩
    rw [upd_ne (ne_of_none ha hp)]
    exact h00
end

section
variable {Y : Tx} {k : Nat} {C : Orc} {g : Cfg} {gt : Gt} {X : Cx} {W : WX} {kin : Kin} {look : Bool} {G : Gh} {H H0 : Hp} {σ : L2.St} {ρ : Fe}
def lc2G (kin : Kin) (C : Orc) (ρ1 : Fe) (p2 : List Nat) (t2 : Q) (e : E) (y : RM.D) : M (Option RM.D) := do
  let ρ2 ← M.op (asgP p2 y (wipeE ρ1 p2))
  let b ← evT kin C t2 ρ2
  if b then do
    let z ← evE kin C e ρ2
    pure (some z)
  else pure none
def lc2F (kin : Kin) (C : Orc) (ρ : Fe) (own p : List Nat) (t : Q) (p2 : List Nat) (it2 : I) (t2 : Q) (e : E) (x : RM.D) : M (List RM.D) := do
  let ρ1 ← M.op (asgP p x (wipeE ρ own))
  let b ← evT kin C t ρ1
  if b then do
    let ys ← evI kin C it2 ρ1
    few ys.length
    mapO (lc2G kin C ρ1 p2 t2 e) ys
  else pure []
theorem evE_lc2 (own p : List Nat) (it : I) (t : Q) (p2 : List Nat) (it2 : I) (t2 : Q) (e : E) (ρ : Fe) : evE kin C (.lc2 own p it t p2 it2 t2 e) ρ = (do
    let xs ← evI kin C it ρ
    few xs.length
    let rs ← M.quiet (mapL (lc2F kin C ρ own p t p2 it2 t2 e) xs)
    pure (.lst rs)) := by
  rw [evE]; rfl
theorem t_lc2 {vs p p2 : List Nat} {it it2 : I} {t t2 : Q} {e : E} {σ : L2.St} {H : Hp} {Q : VK} (hp : ∀ i ∈ p, i ∈ vs) (hp2 : ∀ i ∈ p2, i ∈ vs) (h : tN Y W (evE kin C (.lc2 vs p it t p2 it2 t2 e)) σ H Q) :
    tLc2 (tI Y W true (evI kin C it)) (tG Y p) (tQ Y WF (evT kin C t)) (tI Y WF false (evI kin C it2)) (tG Y p2) (tQ Y WF (evT kin C t2)) (tE Y WF (RD Y) (evE kin C e)) vs p2 σ H Q := by
  obtain ⟨H0, G, ρ, S, ok0, sr, w⟩ := h
  rw [evE_lc2] at w
  refine ⟨H0, G, ρ, S, ok0, sr, wpM_mono (wpM_bind.mp w) (fun xs S1 w1 G1 H1 J e1 ok1 yk D hD => ?_) fun _ _ h => h⟩
  obtain ⟨hz, w1⟩ := few_wp (wpM_bind.mp w1)
  have w1 := wpM_quiet (wpM_bind.mp w1)
  have sr1 : SR Y (upd H0 D (.lst [])) G1 H1 σ ρ := (sr.ext e1 ok0).avoid hD
  have h0D : upd H0 D (.lst []) D ≠ none := by rw [upd_same]; exact fun z => nomatch z
  have nF : ¬ G1.Fz D := fun z => ok1.fzT D z hD
  have nM : ¬ G1.Mu D := fun z => ok1.muT D z hD
  have hln := sizeLine_eq
  -- the wish
  let Kq : List RM.D → Sto → Prop := fun rs S' => ∀ G' H' a vs', Ext G1 H1 G' H' → GOk Y G' H' S' → H1 a = none → H' a = some (.lst vs') → ¬ G'.Fz a → ¬ G'.Mu a → RDs Y G' H' vs' rs → Q (.ref a) H'
  -- the invariant: the rest of the outer turns stands behind
  let Inv1 : Nat → Gh → Hp → Sto → List V → List RM.D → Prop := fun n G H S acc ds => GOk Y G H S ∧ Ext G1 H1 G H ∧ H D = some (.lst acc) ∧ ¬ G.Fz D ∧ ¬ G.Mu D ∧ RDs Y G H acc ds ∧ acc.length ≤ n
  refine ⟨fun i m H => m = xs.length - i ∧ i ≤ xs.length ∧ ∃ G S acc ds, Inv1 (4000 * i) G H S acc ds ∧
    wpM (mapL (lc2F kin C ρ vs p t p2 it2 t2 e) (xs.drop i)) S (fun rs S' => Kq (ds ++ rs) S') (fun _ _ => False),
    ⟨xs.length, by simp, Nat.zero_le _, G1, S1, [], [], ⟨ok1.new hD, Ext.new ok1 hD, upd_same, nF, nM, .nil, Nat.zero_le _⟩, ?_⟩, ?_⟩
  · refine wpM_mono w1 (fun rs S2 q G' H' a vs' x okx na ha nf nm rsx => ?_) fun _ _ z => z
    have na' : H a = none := by
      cases hh : H a with
      | none => rfl
      | some u => exact absurd na (e1.there a (by rw [hh]; exact fun z => nomatch z))
    exact q G' H' a vs' rs rfl (e1.trans x) okx na' ha nf nm rsx
  rintro i m H2 ⟨rfl, hle, G2, S2, acc, ds, ⟨ok2, e2, hacc, nf2, nm2, rs2, hlen⟩, w2⟩
  by_cases hlt : i < xs.length
  · obtain ⟨hgo, hyl⟩ := yk.go i G2 H2 S2 hlt e2 ok2
    refine .inr ⟨hgo, fun H' => ∃ m', m' < xs.length - i ∧ m' = xs.length - (i + 1) ∧ i + 1 ≤ xs.length ∧ ∃ G S acc ds, Inv1 (4000 * (i + 1)) G H' S acc ds ∧
      wpM (mapL (lc2F kin C ρ vs p t p2 it2 t2 e) (xs.drop (i + 1))) S (fun rs S' => Kq (ds ++ rs) S') (fun _ _ => False), fun H' h => h, fun x H3 y => ?_⟩
    obtain ⟨d, hd, e3, ok3, r3⟩ := hyl x H3 y
    have hdrop : xs.drop i = d :: xs.drop (i + 1) := by
      rw [List.drop_eq_getElem_cons hlt]
      rw [List.getElem?_eq_getElem hlt] at hd
      rw [Option.some.inj hd]
    rw [hdrop] at w2
    have w2 := mapL_cons w2
    unfold lc2F at w2
    obtain ⟨ρ1, hρ, w2⟩ := wpM_op.mp (wpM_bind.mp w2)
    have w2 := wpM_bind.mp w2
    have e13 := e2.trans e3
    have srw : SR Y (upd H0 D (.lst [])) G2 H3 (wipe σ vs) (wipeE ρ vs) := (sr1.ext e13 ok1).wipe vs
    refine ⟨_, G2, wipeE ρ vs, S2, d, ρ1, ok3, srw, r3, hρ, fun σ2 sr2 hw => ⟨by rw [hw vs hp, wipe_idem], ?_⟩⟩
    refine ⟨_, G2, ρ1, S2, ok3, sr2, wpM_mono w2 (fun b S3 w3 G4 H4 e4 ok4 => ?_) fun _ _ z => z.elim⟩
    have ne3 : H3 D = some (.lst acc) := e3.keep D _ hacc nm2
    have ne4 : H4 D = some (.lst acc) := e4.keep D _ ne3 nm2
    have nfz : ∀ {Ga Gb : Gh} {Ha Hb : Hp} {z : List V}, Ext Ga Ha Gb Hb → Ha D = some (.lst z) → ¬ Ga.Fz D → ¬ Gb.Fz D := fun x h n z => (x.nfz D z).elim n fun q => by rw [h] at q; cases q
    have nmu : ∀ {Ga Gb : Gh} {Ha Hb : Hp} {z : List V}, Ext Ga Ha Gb Hb → Ha D = some (.lst z) → ¬ Ga.Mu D → ¬ Gb.Mu D := fun x h n z => (x.nmu D z).elim n fun q => by rw [h] at q; cases q
    cases b with
    | false =>
      simp only [Bool.false_eq_true, if_false]
      refine ⟨_, by omega, rfl, hlt, G4, S3, acc, ds, ⟨ok4, e13.trans e4, ne4, nfz e4 ne3 nf2, nmu e4 ne3 nm2, (rs2.ext e3 ok2).ext e4 ok3, by omega⟩, w3⟩
    | true =>
      simp only [if_true]
      have w3 := wpM_bind.mp w3
      have sr4 := sr2.ext e4 ok3
      refine ⟨_, G4, ρ1, S3, ok4, sr4, wpM_mono w3 (fun ys S5 w5 G5 H5 J1 e5 ok5 yk1 => ?_) fun _ _ z => z.elim⟩
      obtain ⟨hz1, w5⟩ := few_wp (wpM_bind.mp w5)
      have ne5 : H5 D = some (.lst acc) := e5.keep D _ ne4 (nmu e4 ne3 nm2)
      have nf5 := nfz e5 ne4 (nfz e4 ne3 nf2)
      have nm5 := nmu e5 ne4 (nmu e4 ne3 nm2)
      have sr5 := sr4.ext e5 ok4
      have e15 := (e13.trans e4).trans e5
      have rs5 := ((rs2.ext e3 ok2).ext e4 ok3).ext e5 ok4
      refine ⟨fun j q H => q = ys.length - j ∧ j ≤ ys.length ∧ ∃ G S acc' ds', Inv1 (4000 * i + j) G H S acc' ds' ∧ ExtD D G5 H5 G H ∧
        wpM (mapO (lc2G kin C ρ1 p2 t2 e) (ys.drop j)) S (fun r1 S' => wpM (mapL (lc2F kin C ρ vs p t p2 it2 t2 e) (xs.drop (i + 1))) S' (fun rs S'' => Kq (ds' ++ (r1 ++ rs)) S'') (fun _ _ => False)) (fun _ _ => False),
        ⟨ys.length, by simp, Nat.zero_le _, G5, S5, acc, ds, ⟨ok5, e15, ne5, nf5, nm5, rs5, by omega⟩, ExtD.refl, w5⟩, ?_⟩
      rintro j q H6 ⟨rfl, hle6, G6, S6, acc6, ds6, ⟨ok6, e16, hacc6, nf6, nm6, rs6, hlen6⟩, x56, w6⟩
      have kp6 : Kk false Y G5 H5 G6 H6 := x56.kp ok5 ne5 nf5
      by_cases hlt6 : j < ys.length
      · obtain ⟨hgo6, hyl6⟩ := yk1.go j G6 H6 S6 hlt6 kp6 ok6
        refine .inr ⟨hgo6, fun H' => ∃ q', q' < ys.length - j ∧ q' = ys.length - (j + 1) ∧ j + 1 ≤ ys.length ∧ ∃ G S acc' ds', Inv1 (4000 * i + (j + 1)) G H' S acc' ds' ∧ ExtD D G5 H5 G H' ∧
          wpM (mapO (lc2G kin C ρ1 p2 t2 e) (ys.drop (j + 1))) S (fun r1 S' => wpM (mapL (lc2F kin C ρ vs p t p2 it2 t2 e) (xs.drop (i + 1))) S' (fun rs S'' => Kq (ds' ++ (r1 ++ rs)) S'') (fun _ _ => False)) (fun _ _ => False), fun H' h => h, fun x7 H7 y7 => ?_⟩
        obtain ⟨d7, hd7, e7, ok7, r7⟩ := hyl6 x7 H7 y7
        have hdrop7 : ys.drop j = d7 :: ys.drop (j + 1) := by
          rw [List.drop_eq_getElem_cons hlt6]
          rw [List.getElem?_eq_getElem hlt6] at hd7
          rw [Option.some.inj hd7]
        rw [hdrop7] at w6
        have w6 := mapO_cons w6
        unfold lc2G at w6
        obtain ⟨ρ2, hρ2, w7⟩ := wpM_op.mp (wpM_bind.mp w6)
        have w7 := wpM_bind.mp w7
        have x57 : ExtD D G5 H5 G6 H7 := x56.trans e7.extD
        have sr7 : SR Y (upd H0 D (.lst [])) G6 H7 (wipe σ2 p2) (wipeE ρ1 p2) := ((sr5.extD x57 ok5 ne5 nf5 h0D)).wipe p2
        refine ⟨_, G6, wipeE ρ1 p2, S6, d7, ρ2, ok7, sr7, r7, hρ2, fun σ3 sr8 hw8 => ⟨by rw [hw8 p2 fun i h => h, wipe_idem], ?_⟩⟩
        refine ⟨_, G6, ρ2, S6, ok7, sr8, wpM_mono w7 (fun b8 S8 w8 G8 H8 e8 ok8 => ?_) fun _ _ z => z.elim⟩
        have ne7 : H7 D = some (.lst acc6) := e7.keep D _ hacc6 nm6
        have ne8 : H8 D = some (.lst acc6) := e8.keep D _ ne7 nm6
        have e18 := (e16.trans e7).trans e8
        have rs8 := (rs6.ext e7 ok6).ext e8 ok7
        have x58 := x57.trans (e8.extD (p := D))
        cases b8 with
        | false =>
          simp only [Bool.false_eq_true, if_false]
          exact ⟨_, by omega, rfl, hlt6, G8, S8, acc6, ds6, ⟨ok8, e18, ne8, nfz e8 ne7 nf6, nmu e8 ne7 nm6, rs8, by omega⟩, x58, w8⟩
        | true =>
          simp only [if_true]
          have w8 := wpM_bind.mp w8
          refine ⟨_, G8, ρ2, S8, ok8, sr8.ext e8 ok7, wpM_mono w8 (fun y S9 w9 G9 H9 v e9 ok9 r9 => ?_) fun _ _ z => z.elim⟩
          have ne9 : H9 D = some (.lst acc6) := e9.keep D _ ne8 (nmu e8 ne7 nm6)
          have nf9 := nfz e9 ne8 (nfz e8 ne7 nf6)
          have nm9 := nmu e9 ne8 (nmu e8 ne7 nm6)
          have kp := Kp.write (G := G9) (o := .lst (acc6 ++ [v])) ne9 nf9
          refine ⟨acc6, ne9, by omega, _, by omega, rfl, hlt6, G9, S9, acc6 ++ [v], ds6 ++ [y], ⟨ok9.write ne9 nf9 nm9, (e18.trans e9).grow hD, upd_same, nf9, nm9, ?_, by simp; omega⟩, (x58.trans e9.extD).trans ExtD.write, ?_⟩
          · exact ((rs8.ext e9 ok8).append (.cons r9 .nil)).mono kp
          · refine wpM_mono w9 (fun r1 S10 w10 => wpM_mono w10 (fun rs S11 w11 => ?_) fun _ _ z => z) fun _ _ z => z
            rw [List.append_assoc]
            exact w11
      · have hi : j = ys.length := by omega
        subst hi
        rw [List.drop_length] at w6
        refine .inl ⟨yk1.stop _ G6 H6 S6 (Nat.le_refl _) kp6 ok6, _, by omega, rfl, hlt, G6, S6, acc6, ds6, ⟨ok6, e16, hacc6, nf6, nm6, rs6, by omega⟩, w6⟩
  · have hi : i = xs.length := by omega
    subst hi
    rw [List.drop_length] at w2
    refine .inl ⟨yk.stop _ G2 H2 S2 (Nat.le_refl _) e2 ok2, ?_⟩
    exact w2 G2 H2 D acc e2 ok2 hD hacc nf2 nm2 (by rw [List.append_nil]; exact rs2)
theorem s_lc2N {elt tg iter tg1 iter1 : Expr} {ifs ifs1 : List Expr} {scope : Scope} {own : List (Str × Nat)} {pos : Pos} {p p2 : List Nat} {it it2 : I} {t t2 : Q} {e : E} (o : Cok kin gt Y k C g X W) (hh : g.hot = false) (hi : PI X tg iter (tI Y W true (evI kin C it))) (ok : BlkOk X.N X.env.scope scope own) (hp : ∀ i ∈ p, i ∈ own.map (·.2)) (hp2 : ∀ i ∈ p2, i ∈ own.map (·.2))
    (hg : ∀ X' : Cx, Cok kin gt Y k C (g.blk scope) X' WF → PG X' tg (tG Y p)) (ht : ∀ X' : Cx, Cok kin gt Y k C (g.blk scope) X' WF → PTs X' ifs (tQ Y WF (evT kin C t)))
    (hi1 : ∀ X' : Cx, Cok kin gt Y k C (g.blk scope) X' WF → PI X' tg1 iter1 (tI Y WF false (evI kin C it2)))
    (hg1 : ∀ X' : Cx, Cok kin gt Y k C (g.blk scope) X' WF → PG X' tg1 (tG Y p2)) (ht1 : ∀ X' : Cx, Cok kin gt Y k C (g.blk scope) X' WF → PTs X' ifs1 (tQ Y WF (evT kin C t2)))
    (he : ∀ X' : Cx, Cok kin gt Y k C (g.blk scope) X' WF → PE X' elt (tE Y WF (RD Y) (evE kin C e))) (hs : ∀ env x, foldedSetIterable iter env x = pure x) (hs1 : ∀ env x, foldedSetIterable iter1 env x = pure x) :
    PE X (.ListComp elt [⟨tg, iter, ifs, 0⟩, ⟨tg1, iter1, ifs1, 0⟩] scope pos) (tN Y W (evE kin C (.lc2 (own.map (·.2)) p it t p2 it2 t2 e))) := by
  exact (pe_lc2 (o.ox.calm hh) o.ox.nd hi ok hp2 (fun s H c cl fp => hg _ (blk_cok o hh s H scope c cl fp)) (fun s H c cl fp => ht _ (blk_cok o hh s H scope c cl fp)) (fun s H c cl fp => hi1 _ (blk_cok o hh s H scope c cl fp))
    (fun s H c cl fp => hg1 _ (blk_cok o hh s H scope c cl fp)) (fun s H c cl fp => ht1 _ (blk_cok o hh s H scope c cl fp)) (fun s H c cl fp => he _ (blk_cok o hh s H scope c cl fp)) (fun x => hs _ x) hs1).imp fun σ H Q h => t_lc2 hp hp2 h
end
end RM
end
section
set_option Elab.async false
set_option linter.all false
set_option maxRecDepth 100000
set_option autoImplicit false
/-! the compile functions are sound -/
namespace RM
open PySem PySem.Spec PyProof.Rows L2
section
variable {Y : Tx} {k : Nat} {C : Orc} {g : Cfg} {gt : Gt} {X : Cx} {W : WX} {kin : Kin} {look : Bool} {r : Cfg → Cp}

theorem tgt_idx {x : Str} {i : Nat} (h : g.tgt x = some i) : g.N.findIdx? (· == x) = some i := by
  unfold Cfg.tgt at h
  split at h
  · exact h
  · split at h
    · exact h
    · cases h
  · cases h
theorem tgts_own : ∀ {ts : List Expr} {is : List Nat} {i : Nat}, tgts g ts = some is → i ∈ is → ∃ x ∈ namesOf ts, g.N.findIdx? (· == x) = some i
  | [], is, i, h, hi => by cases h; cases hi
  | e :: ts, is, i, h, hi => by
    cases e <;> simp only [tgts] at h <;> try (cases h; done)
    simp only [Option.bind_eq_bind, Option.bind_eq_some_iff, Option.some.injEq] at h
    obtain ⟨j, hj, js, hjs, rfl⟩ := h
    rcases List.mem_cons.mp hi with rfl | hi
    · exact ⟨_, List.mem_cons_self, tgt_idx hj⟩
    · obtain ⟨x, hx, q⟩ := tgts_own hjs hi
      exact ⟨x, List.mem_cons_of_mem _ hx, q⟩
theorem pat_own {tg : Expr} {p : List Nat} (h : patW g tg = some p) : ∀ i ∈ p, ∃ x ∈ patN tg, g.N.findIdx? (· == x) = some i := by
  unfold patW at h
  split at h
  · simp only [Option.map_eq_some_iff] at h
    obtain ⟨i, hi, rfl⟩ := h
    intro j hj
    have e : j = i := by simpa using hj
    subst e
    exact ⟨_, List.mem_cons_self, tgt_idx hi⟩
  · split at h
    · cases h
    intro i hi
    exact tgts_own h hi
  · cases h
theorem own_mem {N ns : List Str} {x : Str} {i : Nat} (hx : x ∈ ns) (h : N.findIdx? (· == x) = some i) : i ∈ (ownOf N ns).map (·.2) := by
  unfold ownOf
  rw [List.map_map]
  refine List.mem_map.mpr ⟨x, hx, ?_⟩
  show (N.findIdx? (· == x)).getD 0 = i
  rw [h]; rfl
theorem pts_cond (sn : Snd kin gt r) {ifs : List Expr} {t : Q} (h : condW r g ifs = some t) (o : Cok kin gt Y k C g X W) : PTs X ifs (tQ Y W (evT kin C t)) := by
  unfold condW at h
  split at h
  · cases h
    refine ⟨fun pins s σ H Q I hw => pts_nil.run pins s σ H Q I ?_⟩
    obtain ⟨H0, G, ρ, S, ok, sr, w⟩ := hw
    unfold evT at w
    exact w G H Ext.refl ok
  · exact pts_one (sn.q g _ t X Y k C W h o)
  · cases h
theorem folded_plain {e : Expr} (h : isSet e = false) (env : Env) (x : Value) : foldedSetIterable e env x = pure x := by
  cases e <;> first | rfl | cases h
theorem isTup_shape {e : Expr} (h : isTupE e = true) : ∃ es kk p, e = .Tuple es kk p := by
  cases e <;> first | exact ⟨_, _, _, rfl⟩ | cases h
theorem s_lcW (sn : Snd kin gt r) (o : Cok kin gt Y k C g X W) {elt tg iter : Expr} {ifs : List Expr} {scope : Scope} {pos : Pos} {i : E} (h : lcW r g elt tg iter ifs scope = some i) : PE X (.ListComp elt [⟨tg, iter, ifs, 0⟩] scope pos) (tN Y W (evE kin C i)) := by
  unfold lcW at h
  simp only at h
  split at h
  · rename_i hb
    rw [Bool.and_eq_true, Bool.and_eq_true] at hb
    obtain ⟨⟨hb, hset⟩, hh⟩ := hb
    have hh : g.hot = false := by simpa using hh
    simp only [Option.bind_eq_bind, Option.bind_eq_some_iff] at h
    obtain ⟨p, hp, it, hit, t, ht, e, he, h⟩ := h
    split at h
    · cases h
    · rename_i hpr
      cases h
      rw [← o.N, ← o.sc] at hb
      have hset : isSet iter = false := by simpa using hset
      refine s_lcN (own := ownOf g.N (patN tg)) o hh (sn.i g true tg iter it X Y k C W hit o fun q => ?_) (by rw [← o.N]; exact blkOk_by hb) (fun i hi => ?_) (fun X' o' => pg_pat o' hp) (fun X' o' => pts_cond sn ht o') (fun X' o' => sn.e _ false elt e X' Y k C WF he o') (folded_plain hset)
      · simp only [Bool.and_eq_true, Bool.not_eq_true', not_and, Bool.not_eq_false] at hpr
        exact hpr q
      · obtain ⟨x, hx, q⟩ := pat_own hp i hi
        exact own_mem hx q
  · cases h
theorem s_lc2W (sn : Snd kin gt r) (o : Cok kin gt Y k C g X W) {elt tg iter tg1 iter1 : Expr} {ifs ifs1 : List Expr} {scope : Scope} {pos : Pos} {i : E} (h : lc2W r g elt tg iter ifs tg1 iter1 ifs1 scope = some i) : PE X (.ListComp elt [⟨tg, iter, ifs, 0⟩, ⟨tg1, iter1, ifs1, 0⟩] scope pos) (tN Y W (evE kin C i)) := by
  unfold lc2W at h
  simp only at h
  split at h
  · rename_i hb
    rw [Bool.and_eq_true, Bool.and_eq_true, Bool.and_eq_true] at hb
    obtain ⟨⟨⟨hb, hset⟩, hset1⟩, hh⟩ := hb
    have hh : g.hot = false := by simpa using hh
    simp only [Option.bind_eq_bind, Option.bind_eq_some_iff] at h
    obtain ⟨p, hp, it, hit, t, ht, p1, hp1, it1, hit1, t1, ht1, e, he, h⟩ := h
    split at h
    · cases h
    · rename_i hpr
      split at h
      · cases h
      · rename_i hpr1
        split at h
        · rename_i hall
          cases h
          rw [← o.N, ← o.sc] at hb
          have hset : isSet iter = false := by simpa using hset
          have hset1 : isSet iter1 = false := by simpa using hset1
          simp only [Bool.and_eq_true, Bool.not_eq_true', not_and, Bool.not_eq_false] at hpr hpr1
          refine s_lc2N (own := ownOf g.N (patN tg ++ patN tg1)) o hh (sn.i g true tg iter it X Y k C W hit o hpr) (by rw [← o.N]; exact blkOk_by hb) (fun i hi => ?_) (fun i hi => ?_) (fun X' o' => pg_pat o' hp) (fun X' o' => pts_cond sn ht o') (fun X' o' => sn.i _ false tg1 iter1 it1 X' Y k C WF hit1 o' hpr1)
            (fun X' o' => pg_pat o' hp1) (fun X' o' => pts_cond sn ht1 o') (fun X' o' => sn.e _ false elt e X' Y k C WF he o') (folded_plain hset) (folded_plain hset1)
          · obtain ⟨x, hx, q⟩ := pat_own hp i hi
            exact own_mem (List.mem_append_left _ hx) q
          · simp only [List.all_eq_true] at hall
            simpa using hall i hi
        · cases h
  · cases h
theorem cold_of {h : Bool} {b : Bi} (z : ¬ (h && !b.cold) = true) : h = false ∨ b.cold = true := by
  cases h
  · exact .inl rfl
  · refine .inr ?_
    simpa using z
/-! ### comprehensions stored on their own line -/
theorem s_setLc (sn : Snd kin gt r) (o : Cok kin gt Y k C g X W) {elt tg iter : Expr} {ifs : List Expr} {scope : Scope} {pos spos py : Pos} {y : Str} {j : Nat} {i : E} (h : lcW r g elt tg iter ifs scope = some i) (hy : X.N[j]? = some y) (hyl : X.env.scope.names.lookup y = some .local)
    (hsw : swapsWith (.ListComp elt [⟨tg, iter, ifs, 0⟩] scope pos) (some (.Name y py)) spos.line X.env = pure true) : PS X (.Assign [.Name y py] (.ListComp elt [⟨tg, iter, ifs, 0⟩] scope pos) spos) (tAsg (tN Y W (evE kin C i)) (gName j)) := by
  unfold lcW at h
  simp only at h
  split at h
  · rename_i hb
    rw [Bool.and_eq_true, Bool.and_eq_true] at hb
    obtain ⟨⟨hb, hset⟩, hh⟩ := hb
    have hh : g.hot = false := by simpa using hh
    simp only [Option.bind_eq_bind, Option.bind_eq_some_iff] at h
    obtain ⟨p, hp, it, hit, t, ht, e, he, h⟩ := h
    split at h
    · cases h
    · rename_i hpr
      cases h
      rw [← o.N, ← o.sc] at hb
      have hset : isSet iter = false := by simpa using hset
      have hown : ∀ i ∈ p, i ∈ (ownOf X.N (patN tg)).map (·.2) := fun i hi => by
        obtain ⟨x, hx, q⟩ := pat_own hp i hi
        rw [o.N]
        exact own_mem hx q
      simp only [Bool.and_eq_true, Bool.not_eq_true', not_and, Bool.not_eq_false] at hpr
      have hb' : blkC X.N X.env.scope scope (ownOf X.N (patN tg)) = true := by rw [o.N] at hb ⊢; exact hb
      rw [← o.N]
      exact (ps_setLc (o.ox.calm hh) o.ox.nd hy hyl hsw (sn.i g true tg iter it X Y k C W hit o hpr) (blkOk_by hb') (fun s H c cl fp => pg_pat (blk_cok o hh s H scope c cl fp) hp) (fun s H c cl fp => pts_cond sn ht (blk_cok o hh s H scope c cl fp))
        (fun s H c cl fp => sn.e _ false elt e _ Y k C WF he (blk_cok o hh s H scope c cl fp)) (fun x => folded_plain hset _ x)).imp fun D σ H h => t_lc hown h
  · cases h
theorem s_setLc2 (sn : Snd kin gt r) (o : Cok kin gt Y k C g X W) {elt tg iter tg1 iter1 : Expr} {ifs ifs1 : List Expr} {scope : Scope} {pos spos py : Pos} {y : Str} {j : Nat} {i : E} (h : lc2W r g elt tg iter ifs tg1 iter1 ifs1 scope = some i) (hy : X.N[j]? = some y) (hyl : X.env.scope.names.lookup y = some .local)
    (hsw : swapsWith (.ListComp elt [⟨tg, iter, ifs, 0⟩, ⟨tg1, iter1, ifs1, 0⟩] scope pos) (some (.Name y py)) spos.line X.env = pure true) : PS X (.Assign [.Name y py] (.ListComp elt [⟨tg, iter, ifs, 0⟩, ⟨tg1, iter1, ifs1, 0⟩] scope pos) spos) (tAsg (tN Y W (evE kin C i)) (gName j)) := by
  unfold lc2W at h
  simp only at h
  split at h
  · rename_i hb
    rw [Bool.and_eq_true, Bool.and_eq_true, Bool.and_eq_true] at hb
    obtain ⟨⟨⟨hb, hset⟩, hset1⟩, hh⟩ := hb
    have hh : g.hot = false := by simpa using hh
    simp only [Option.bind_eq_bind, Option.bind_eq_some_iff] at h
    obtain ⟨p, hp, it, hit, t, ht, p1, hp1, it1, hit1, t1, ht1, e, he, h⟩ := h
    split at h
    · cases h
    · rename_i hpr
      split at h
      · cases h
      · rename_i hpr1
        split at h
        · rename_i hall
          cases h
          have hset : isSet iter = false := by simpa using hset
          have hset1 : isSet iter1 = false := by simpa using hset1
          simp only [Bool.and_eq_true, Bool.not_eq_true', not_and, Bool.not_eq_false] at hpr hpr1
          have hb' : blkC X.N X.env.scope scope (ownOf X.N (patN tg ++ patN tg1)) = true := by rw [o.N, o.sc]; exact hb
          have hown : ∀ i ∈ p, i ∈ (ownOf X.N (patN tg ++ patN tg1)).map (·.2) := fun i hi => by
            obtain ⟨x, hx, q⟩ := pat_own hp i hi
            rw [o.N]
            exact own_mem (List.mem_append_left _ hx) q
          have hown1 : ∀ i ∈ p1, i ∈ (ownOf X.N (patN tg ++ patN tg1)).map (·.2) := fun i hi => by
            simp only [List.all_eq_true] at hall
            rw [o.N]
            simpa using hall i hi
          rw [← o.N]
          exact (ps_setLc2 (o.ox.calm hh) o.ox.nd hy hyl hsw (sn.i g true tg iter it X Y k C W hit o hpr) (blkOk_by hb') hown1 (fun s H c cl fp => pg_pat (blk_cok o hh s H scope c cl fp) hp) (fun s H c cl fp => pts_cond sn ht (blk_cok o hh s H scope c cl fp))
            (fun s H c cl fp => sn.i _ false tg1 iter1 it1 _ Y k C WF hit1 (blk_cok o hh s H scope c cl fp) hpr1) (fun s H c cl fp => pg_pat (blk_cok o hh s H scope c cl fp) hp1) (fun s H c cl fp => pts_cond sn ht1 (blk_cok o hh s H scope c cl fp))
            (fun s H c cl fp => sn.e _ false elt e _ Y k C WF he (blk_cok o hh s H scope c cl fp)) (fun x => folded_plain hset _ x) (fun env x => folded_plain hset1 env x)).imp fun D σ H h => t_lc2 hown hown1 h
        · cases h
  · cases h

theorem s_callW (sn : Snd kin gt r) (o : Cok kin gt Y k C g X W) {f : Str} {args : List Expr} {p pos : Pos} {i : E} (h : callW gt r g f args = some i) : PE X (.Call (.Name f p) args [] pos) (tE Y W (RL look Y) (evE kin C i)) := by
  unfold callW at h
  split at h
  · rename_i hc
    rw [Bool.and_eq_true] at hc
    obtain ⟨hf, hs⟩ := hc
    split at h
    · rename_i n hg
      split at h
      · rename_i hl
        rw [Bool.and_eq_true] at hl
        simp only [Option.map_eq_some_iff] at h
        obtain ⟨es, he, rfl⟩ := h
        exact s_app sn o hf hs (.inl hg) (by simpa using hl.2) (by simpa using hl.1) he
      · cases h
    · rename_i c n hg
      split at h
      · rename_i hl
        rw [Bool.and_eq_true] at hl
        simp only [Option.map_eq_some_iff] at h
        obtain ⟨es, he, rfl⟩ := h
        exact s_app sn o hf hs (.inr ⟨c, hg⟩) (by simpa using hl.2) (by simpa using hl.1) he
      · cases h
    · rename_i hg
      split at h
      · rename_i e a b x1 p2
        split at h
        · rename_i hn
          have e1 := beq_iff_eq.mp hn
          subst e1
          simp only [Option.bind_eq_bind, Option.bind_eq_some_iff, Option.some.injEq] at h
          obtain ⟨x, hx, s, hs1, t, ht1, rfl⟩ := h
          obtain ⟨a1, _, _, a2, a3⟩ := tyOf_ok o hs1
          obtain ⟨b1, _, _, b2, b3⟩ := tyOf_ok o ht1
          simp only [List.all_cons, Bool.and_eq_true, Bool.not_eq_true'] at hs
          exact s_isi2 o (sn.e g true e x X Y k C W hx o) hs.1 a3 a1 a2 b3 b1 b2 hg
        · cases h
      · rename_i e t hnt
        split at h
        · rename_i hn
          have e1 := beq_iff_eq.mp hn
          subst e1
          simp only [Option.bind_eq_bind, Option.bind_eq_some_iff, Option.some.injEq] at h
          obtain ⟨x, hx, s, hs1, rfl⟩ := h
          obtain ⟨a1, _, _, a2, a3⟩ := tyOf_ok o hs1
          simp only [List.all_cons, Bool.and_eq_true, Bool.not_eq_true'] at hs
          exact s_isi1 o (sn.e g true e x X Y k C W hx o) hs.1 a3 a1 a2 hg
        · simp only [Option.bind_eq_bind, Option.bind_eq_some_iff] at h
          obtain ⟨b, hb, es, hes, h⟩ := h
          split at h
          · cases h
          · rename_i hh
            cases h
            exact s_bi sn o (by simp) hf hs hg hb (cold_of hh) hes
      · simp only [Option.bind_eq_bind, Option.bind_eq_some_iff] at h
        obtain ⟨b, hb, es, hes, h⟩ := h
        split at h
        · cases h
        · rename_i hh
          cases h
          exact s_bi sn o (by simp) hf hs hg hb (cold_of hh) hes
      · cases h
    · cases h
  · cases h
theorem val_ok {a : Expr} (h1 : ∀ x p, a ≠ .UnaryOp .Not x p) (h2 : ∀ op es p, a ≠ .BoolOp op es p) (h3 : ∀ t x y p, a ≠ .IfExp t x y p) (h4 : ∀ x ops cs p, a ≠ .Compare x ops cs p) (env : Env) (whole : Sem Value) : isTrue a env whole = (do let v ← whole; standAt a.pos; holding [v] (truthy v)) := by
  cases a with
  | UnaryOp op x p => cases op <;> first | exact absurd rfl (h1 _ _) | rfl
  | BoolOp => exact absurd rfl (h2 _ _ _)
  | IfExp => exact absurd rfl (h3 _ _ _ _)
  | Compare => exact absurd rfl (h4 _ _ _ _)
  | _ => rfl
theorem s_stepE (sn : Snd kin gt r) (o : Cok kin gt Y k C g X W) {ex : Expr} {i : E} (h : stepE gt r g look ex = some i) : PE X ex (tE Y W (RL look Y) (evE kin C i)) := by
  unfold stepE at h
  split at h
  · exact s_name h o
  · simp only [Option.map_eq_some_iff] at h
    obtain ⟨d, hd, rfl⟩ := h
    exact s_const hd
  · simp only [Option.bind_eq_bind, Option.bind_eq_some_iff, Option.some.injEq] at h
    obtain ⟨x, hx, y, hy, rfl⟩ := h
    exact s_bin o (sn.e g true _ x X Y k C W hx o) (sn.e g true _ y X Y k C W hy o)
  · simp only [Option.map_eq_some_iff] at h
    obtain ⟨x, hx, rfl⟩ := h
    exact s_not (sn.e g true _ x X Y k C W hx o)
  · simp only [Option.map_eq_some_iff] at h
    obtain ⟨x, hx, rfl⟩ := h
    exact s_neg (sn.e g true _ x X Y k C W hx o)
  · exact (s_boolW sn o _ _ h).imp fun σ H Q h => t_rl h
  · split at h
    · cases h
    · rename_i hs
      simp only [Option.bind_eq_bind, Option.bind_eq_some_iff, Option.some.injEq] at h
      obtain ⟨x, hx, y, hy, rfl⟩ := h
      exact s_cmp o (sn.e g true _ x X Y k C W hx o) (sn.e g true _ y X Y k C W hy o) (by simpa using hs)
  · split at h
    · cases h
    · rename_i hs
      simp only [Bool.or_eq_true, not_or, Bool.not_eq_true] at hs
      simp only [Option.bind_eq_bind, Option.bind_eq_some_iff, Option.some.injEq] at h
      obtain ⟨x, hx, y, hy, z, hz, rfl⟩ := h
      exact s_chain o (sn.e g true _ x X Y k C W hx o) (sn.e g true _ y X Y k C W hy o) (sn.e g true _ z X Y k C W hz o) hs.2
  · simp only [Option.bind_eq_bind, Option.bind_eq_some_iff, Option.some.injEq] at h
    obtain ⟨q, hq, x, hx, y, hy, rfl⟩ := h
    exact s_ife (sn.q g _ q X Y k C W hq o) (sn.e g false _ x X Y k C W hx o) (sn.e g false _ y X Y k C W hy o)
  · simp only [Option.map_eq_some_iff] at h
    obtain ⟨es, he, rfl⟩ := h
    exact s_tup (s_es sn o _ es he)
  · simp only [Option.map_eq_some_iff] at h
    obtain ⟨es, he, rfl⟩ := h
    exact s_lst (s_es sn o _ es he)
  · exact s_callW sn o h
  · exact s_at sn o h
  · split at h
    · rename_i hn
      obtain ⟨n1, n2, n3⟩ := okName_ok hn
      split at h
      · rename_i j hj
        obtain ⟨e1, e2⟩ := loc_ok o hj
        split at h
        · cases h
          exact s_xfl o e1 e2 n1 n2
        · cases h
          exact s_fld o ((pe_var e1 e2 n1 n2).imp fun σ H Q h => t_var (look := true) (kin := kin) (C := C) h) rfl
      · cases h
    · cases h
  · simp only [Option.bind_eq_bind, Option.bind_eq_some_iff, Option.some.injEq] at h
    obtain ⟨x, hx, rfl⟩ := h
    exact s_fld o (sn.e g true _ x X Y k C W hx o) rfl
  · simp only [Option.bind_eq_bind, Option.bind_eq_some_iff, Option.some.injEq] at h
    obtain ⟨x, hx, rfl⟩ := h
    exact s_fld o (sn.e g true _ x X Y k C W hx o) rfl
  · simp only [Option.bind_eq_bind, Option.bind_eq_some_iff, Option.some.injEq] at h
    obtain ⟨x, hx, l, hl, u, hu, rfl⟩ := h
    exact s_sl sn o (sn.e g true _ x X Y k C W hx o) hl hu
  · simp only [Option.bind_eq_bind, Option.bind_eq_some_iff, Option.some.injEq] at h
    obtain ⟨x, hx, l, hl, u, hu, rfl⟩ := h
    exact s_bk sn o (sn.e g true _ x X Y k C W hx o) hl hu
  · cases h
    exact s_dct0
  · split at h
    · cases h
    · rename_i hs
      simp only [Option.bind_eq_bind, Option.bind_eq_some_iff, Option.some.injEq] at h
      obtain ⟨x, hx, y, hy, rfl⟩ := h
      exact s_sub o (sn.e g true _ x X Y k C W hx o) (sn.e g true _ y X Y k C W hy o) (by simpa using hs)
  · exact (s_lcW sn o h).imp fun σ H Q h => t_new h
  · exact (s_lc2W sn o h).imp fun σ H Q h => t_new h
  · cases h
theorem s_stepQ (sn : Snd kin gt r)
    (o : Cok kin gt Y k C g X W) {ex : Expr} {i : Q} (h : stepQ r g ex = some i) : PT X ex (tQ Y W (evT kin C i)) := by
  unfold stepQ at h
  split at h
  · exact (s_testW sn o _ _ h).pt
  · simp only [Option.map_eq_some_iff] at h
    obtain ⟨x, hx, rfl⟩ := h
    exact (pt_not (sn.q g _ x X Y k C W hx o)).imp fun σ H Q h => t_tnot h
  · cases h
  · simp only [Option.map_eq_some_iff] at h
    obtain ⟨x, hx, rfl⟩ := h
    exact sn.c g _ _ _ _ x X Y k C W hx o
  · rename_i h1 h2 h3 h4
    simp only [Option.map_eq_some_iff] at h
    obtain ⟨x, hx, rfl⟩ := h
    exact s_val o (sn.e g true _ x X Y k C W hx o) (fun whole => val_ok (fun x p e => h2 x p e) (fun op es p e => h1 op es p e) (fun t x y p e => h3 t x y p e) (fun x ops cs p e => h4 x ops cs p e) X.env whole)
theorem s_stepC (sn : Snd kin gt r) (o : Cok kin gt Y k C g X W) {a : Expr} {ops : List CmpOp} {cs : List Expr} {p : Pos} {i : E} (h : stepE gt r g true (.Compare a ops cs p) = some i) : PT X (.Compare a ops cs p) (tQ Y W (evT kin C (.val i))) := by
  match ops, cs, h with
  | [op], [b], h =>
    have h : (if isSet b = true then none else do
      let x ← (r g).e true a
      let y ← (r g).e true b
      some (E.cmp op x y)) = some i := h
    split at h
    · cases h
    · rename_i hs
      simp only [Option.bind_eq_bind, Option.bind_eq_some_iff, Option.some.injEq] at h
      obtain ⟨x, hx, y, hy, rfl⟩ := h
      exact s_tcmp o (sn.e g true _ x X Y k C W hx o) (sn.e g true _ y X Y k C W hy o) (by simpa using hs)
  | [op, op'], [b, c], h =>
    have h : (if (isSet b || isSet c) = true then none else do
      let x ← (r g).e true a
      let y ← (r g).e true b
      let z ← (r g).e true c
      some (E.chain op op' x y z)) = some i := h
    split at h
    · cases h
    · rename_i hs
      simp only [Bool.or_eq_true, not_or, Bool.not_eq_true] at hs
      simp only [Option.bind_eq_bind, Option.bind_eq_some_iff, Option.some.injEq] at h
      obtain ⟨x, hx, y, hy, z, hz, rfl⟩ := h
      exact s_tchain o (sn.e g true _ x X Y k C W hx o) (sn.e g true _ y X Y k C W hy o) (sn.e g true _ z X Y k C W hz o) hs.2
  | [], _, h => simp [stepE] at h
  | [_], [], h => simp [stepE] at h
  | [_], _ :: _ :: _, h => simp [stepE] at h
  | [_, _], [], h => simp [stepE] at h
  | [_, _], [_], h => simp [stepE] at h
  | [_, _], _ :: _ :: _ :: _, h => simp [stepE] at h
  | _ :: _ :: _ :: _, _, h => simp [stepE] at h
theorem s_stepI (sn : Snd kin gt r) (o : Cok kin gt Y k C g X W) {tg ex : Expr} {i : I} (h : stepI gt r g look ex = some i) (hp : i.pairs = true → isTupE tg = true) : PI X tg ex (tI Y W look (evI kin C i)) := by
  have seq : ∀ {ex : Expr}, ((r g).e look ex).map .seq = some i → PI X tg ex (tI Y W look (evI kin C i)) := fun {ex} h => by
    simp only [Option.map_eq_some_iff] at h
    obtain ⟨x, hx, rfl⟩ := h
    exact sI_seq o (sn.e g look ex x X Y k C W hx o)
  unfold stepI at h
  split at h
  · rename_i f p args pos
    split at h
    · rename_i hc
      rw [Bool.and_eq_true] at hc
      obtain ⟨hf, hs⟩ := hc
      split at h
      · rename_i hg
        split at h
        · rename_i a
          simp only [List.all_cons, List.all_nil, Bool.and_true, Bool.not_eq_true'] at hs
          split at h
          · rename_i hn
            have e1 := beq_iff_eq.mp hn
            subst e1
            simp only [Option.map_eq_some_iff] at h
            obtain ⟨x, hx, rfl⟩ := h
            exact sI_rng1 o (sn.e g true _ x X Y k C W hx o) hs hg
          · split at h
            · rename_i hn
              have e1 := beq_iff_eq.mp hn
              subst e1
              simp only [Option.map_eq_some_iff] at h
              obtain ⟨x, hx, rfl⟩ := h
              obtain ⟨es, kk, tp, rfl⟩ := isTup_shape (hp rfl)
              exact sI_enum o (sn.e g look _ x X Y k C W hx o) hs hg
            · exact seq h
        · rename_i a b
          simp only [List.all_cons, List.all_nil, Bool.and_true, Bool.not_eq_true', Bool.and_eq_true] at hs
          split at h
          · rename_i hn
            have e1 := beq_iff_eq.mp hn
            subst e1
            simp only [Option.bind_eq_bind, Option.bind_eq_some_iff, Option.some.injEq] at h
            obtain ⟨x, hx, y, hy, rfl⟩ := h
            exact sI_rng2 o (sn.e g true _ x X Y k C W hx o) hs.1 (sn.e g true _ y X Y k C W hy o) hs.2 hg
          · split at h
            · rename_i hn
              have e1 := beq_iff_eq.mp hn
              subst e1
              simp only [Option.bind_eq_bind, Option.bind_eq_some_iff, Option.some.injEq] at h
              obtain ⟨x, hx, y, hy, rfl⟩ := h
              obtain ⟨es, kk, tp, rfl⟩ := isTup_shape (hp rfl)
              exact sI_zip o (sn.e g look _ x X Y k C W hx o) hs.1 (sn.e g look _ y X Y k C W hy o) hs.2 hg
            · exact seq h
        · cases h
      · exact seq h
    · cases h
  · exact seq h
theorem s_liW (sn : Snd kin gt r) (o : Cok kin gt Y k C g X W) {f : Str} {p pos : Pos} {args : List Expr} {i : E} (hx : isNwE gt g (.Call (.Name f p) args [] pos) = true) (h : callW gt r g f args = some i) : PE X (.Call (.Name f p) args [] pos) (tN Y W (evE kin C i)) := by
  have hx' : isLiE gt g (.Call (.Name f p) args [] pos) = true := by simpa [isNwE, isLstE, isLcE] using hx
  clear hx
  cases args with
  | nil => cases hx'
  | cons e0 rest =>
  cases rest with
  | cons _ _ => cases hx'
  | nil =>
  have hx' : (f == "list" && !isStarred e0 && (match g.glo gt f with
    | some .blt => true
    | _ => false)) = true := hx'
  rw [Bool.and_eq_true, Bool.and_eq_true, beq_iff_eq] at hx'
  obtain ⟨⟨rfl, hs⟩, hg⟩ := hx'
  have hs : isStarred e0 = false := by simpa using hs
  have hg' : g.glo gt "list" = some .blt := by
    revert hg
    split
    · rename_i hg
      exact fun _ => hg
    · exact fun z => nomatch z
  have hb : biOf "list" 1 = some .list := by rfl
  unfold callW at h
  rw [hg'] at h
  split at h
  · simp only [hb, Option.bind_eq_bind, Option.bind_some, Option.bind_eq_some_iff] at h
    obtain ⟨es, he, h⟩ := h
    split at h
    · exact nomatch h
    · have he' : (do
        let a ← (r g).e true e0
        let b ← esW ((r g).e true) ((r g).e true) []
        some (Es.cons a b)) = some es := by
        rw [← esW_cons hs]; exact he
      simp only [esW, Option.bind_eq_bind, Option.bind_eq_some_iff, Option.some.injEq] at he'
      obtain ⟨y, hy, _, rfl, rfl⟩ := he'
      cases h
      exact s_liN sn o hs hg' hy
  · exact nomatch h
theorem s_stepN (sn : Snd kin gt r) (o : Cok kin gt Y k C g X W) {ex : Expr} {i : E} (hx : isNwE gt g ex = true) (h : stepE gt r g false ex = some i) : PE X ex (tN Y W (evE kin C i)) := by
  unfold stepE at h
  split at h <;> try (simp [isNwE, isLstE, isLcE, isLiE] at hx; done)
  · simp only [Option.map_eq_some_iff] at h
    obtain ⟨es, he, rfl⟩ := h
    exact s_lstN (s_es sn o _ es he)
  · exact s_liW sn o hx h
  · exact s_lcW sn o h
  · exact s_lc2W sn o h
  · cases h
theorem s_stepL (sn : Snd kin gt r) (o : Cok kin gt Y k C g X W) {elt : Expr} {gs : List Comprehension} {scope : Scope} {p pos px : Pos} {x : Str} {j : Nat} {i : E} (h : stepE gt r g false (.ListComp elt gs scope p) = some i) (hN : X.N[j]? = some x) (hl : X.env.scope.names.lookup x = some .local)
    (hs : swapsWith (.ListComp elt gs scope p) (some (.Name x px)) pos.line X.env = pure true) : PS X (.Assign [.Name x px] (.ListComp elt gs scope p) pos) (tAsg (tN Y W (evE kin C i)) (gName j)) := by
  unfold stepE at h
  split at h <;> rename_i he <;> try (cases he; done)
  · cases he
    exact s_setLc sn o h hN hl hs
  · cases he
    exact s_setLc2 sn o h hN hl hs
  · cases h
/-- a + b: lists give a new one -/
def rBN (Y : Tx) : R2 := fun v w H Q => ∃ G S x y d, GOk Y G H S ∧ RV Y G H v x ∧ RV Y G H w y ∧ binD .Add x y = some d ∧ ∀ G' H' u, Ext G H G' H' → GOk Y G' H' S → NV Y H G' H' u d → Q u H'
theorem or_addN {hot : Bool} (ox : XOk Y k hot X) : OpR X (binaryOp .Add) (rBN Y) := by
  intro pins s σ H v w u1 u2 Q I ru1 ru2 h
  obtain ⟨G, S, x, y, d, ok, r1, r2, e, q⟩ := h
  by_cases hl : ∃ xs ys, x = .lst xs ∧ y = .lst ys
  · obtain ⟨xs, ys, rfl, rfl⟩ := hl
    have e : (if xs.length + ys.length ≤ sizeLine then some (D.lst (xs ++ ys)) else none) = some d := e
    split at e
    · rename_i hz
      cases e
      obtain ⟨a, vs, rfl, ha, rv⟩ := r1.lst
      obtain ⟨b, ws, rfl, hb, rw⟩ := r2.lst
      refine op_cat pins s σ H _ _ u1 u2 Q I ru1 ru2 ⟨a, b, vs, ws, rfl, rfl, ha, hb, by rw [rv.length, rw.length]; exact hz, fun p np => ?_⟩
      exact q G _ (.ref p) (Ext.new ok np) (ok.new np) (.inl ⟨p, _, _, rfl, rfl, np, upd_same, fun z => ok.fzT p z np, fun z => ok.muT p z np, (rv.append rw).ext (Ext.new ok np) ok⟩)
    · cases e
  · refine or_bin ox .Add pins s σ H _ _ u1 u2 Q I ru1 ru2 ⟨G, S, x, y, d, ok, r1, r2, e, fun G' H' u x' ok' r => q G' H' u x' ok' (.inr ⟨fun ds hd => hl ?_, r⟩)⟩
    subst hd
    cases x <;> cases y <;> simp only [binD] at e <;> first | (cases e; done) | exact ⟨_, _, rfl, rfl⟩ | (split at e <;> cases e)
theorem s_stepA (sn : Snd kin gt r) (o : Cok kin gt Y k C g X W) {ex : Expr} {i : E} (hx : isAddE ex = true) (h : stepE gt r g false ex = some i) : PE X ex (tNV Y W (evE kin C i)) := by
  unfold isAddE at hx
  split at hx
  · rename_i a b pos
    have h : (do
      let x ← (r g).e true a
      let y ← (r g).e true b
      some (E.bin .Add x y)) = some i := h
    simp only [Option.bind_eq_bind, Option.bind_eq_some_iff, Option.some.injEq] at h
    obtain ⟨x, hx', y, hy, rfl⟩ := h
    refine (pe_op (or_addN o.ox) (sn.e g true a x X Y k C W hx' o) (sn.e g true b y X Y k C W hy o)).imp fun σ H Q h => ?_
    obtain ⟨H0, G, ρ, S, ok, sr, w⟩ := h
    unfold evE at w
    refine ⟨H0, G, ρ, S, ok, sr, wpM_mono (wpM_bind.mp w) (fun d1 S1 w1 G1 H1 v e1 ok1 r1 => ?_) fun _ _ h => h⟩
    refine ⟨H0, G1, ρ, S1, ok1, sr.ext e1 ok, wpM_mono (wpM_bind.mp w1) (fun d2 S2 w2 G2 H2 u e2 ok2 r2 => ?_) fun x S h => h.trans e1⟩
    obtain ⟨d, hd, q⟩ := wpM_op.mp w2
    refine ⟨G2, S2, d1, d2, d, ok2, (RL.rv r1).ext e2 ok1, RL.rv r2, hd, fun G' H' w' e' ok' r' => q G' H' w' (e1.trans (e2.trans e')) ok' ?_⟩
    rcases r' with ⟨a, vs, ds, h1, h2, h3, h4⟩ | r'
    · refine .inl ⟨a, vs, ds, h1, h2, ?_, h4⟩
      cases q : H a with
      | none => rfl
      | some o => exact absurd h3 ((e1.trans e2).there a (by rw [q]; exact fun z => nomatch z))
    · exact .inr r'
  · cases hx
theorem snd_step (sn : Snd kin gt r) : Snd kin gt (stepC gt r) :=
  ⟨fun g ex i X Y k C W hx h o => s_stepA sn o hx h, fun g look ex i X Y k C W h o => s_stepE sn o h, fun g ex i X Y k C W h o => s_stepQ sn o h, fun g look tg ex i X Y k C W h o hp => s_stepI sn o h hp, fun g a ops cs p i X Y k C W h o => s_stepC sn o h,
    fun g ex i X Y k C W hx h o => s_stepN sn o hx h, fun g elt gs scope p pos px x j i X Y k C W h o hN hl hs => s_stepL sn o h hN hl hs⟩
theorem snd_zero : Snd kin gt (fun _ => ⟨fun _ _ => none, fun _ => none, fun _ _ => none⟩) where
  a := by intro g ex i X Y k C W hx h; exact nomatch h
  e := by intro g look ex i X Y k C W h; exact nomatch h
  q := by intro g ex i X Y k C W h; exact nomatch h
  i := by intro g look tg ex i X Y k C W h; exact nomatch h
  c := by intro g a ops cs p i X Y k C W h; exact nomatch h
  n := by intro g ex i X Y k C W hx h; exact nomatch h
  l := by intro g elt gs scope p pos px x j i X Y k C W h; exact nomatch h
theorem snd_cp (kin : Kin) (gt : Gt) : ∀ n, Snd kin gt (cp gt n)
  | 0 => snd_zero
  | n + 1 => snd_step (snd_cp kin gt n)
end
end RM
end
section
set_option Elab.async false
set_option linter.all false
set_option maxRecDepth 100000
set_option autoImplicit false
/-! statements: the language, its evaluator -/
namespace RM
open PySem PySem.Spec PyProof.Rows L2

inductive Out where
  | nx (ρ : Fe) | brk (ρ : Fe) | cont (ρ : Fe) | ret (d : D) | exc (x : D) (ρ : Fe)

mutual
inductive S1 where
  | fz (is : List Nat) (s : S1)
  | asg (p : List Nat) (e : E)
  | own (i : Nat) (e : E)
  | par (is : List Nat) (es : Es)
  | app (i : Nat) (e : E)
  | ifo (i : Nat) (q : Q) (a b : E)
  | owd (i : Nat) (e : E)
  | brw (is : List Nat) (p : List Nat) (e : E)
  | paro (is : List Nat) (nw : List Bool) (es : Es)
  | fst (i : Nat) (f : Str) (e : E)
  | ex (e : E)
  | ret (e : E) | retn | pass | brk | cont
  | iff (q : Q) (a b : Ss)
  | frl (p : List Nat) (it : I) (b : Ss)
  | whl (q : Q) (b : Ss)
  | rse (c : Str) (e : E)
  | tr (b : Ss) (h : Hs)
inductive Ss where
  | nil | cons (s : S1) (r : Ss)
inductive Hs where
  | nil | cons (c : Str) (i : Option Nat) (b : Ss) (r : Hs)
end

/-- what is raised is a value, too -/
def T.att {α : Type} : T α → T (Except D α)
  | .ret a S => .ret (.ok a) S
  | .raise x S => .ret (.error x) S
  | .fail => .fail
  | .draw n k => .draw n fun i => (k i).att
def M.att {α : Type} (m : M α) : M (Except D α) := fun S => (m S).att
theorem T.wp_att {α : Type} {Q : Except D α → Sto → Prop} {R : D → Sto → Prop} : ∀ {t : T α}, t.att.wp Q R ↔ t.wp (fun a S => Q (.ok a) S) (fun x S => Q (.error x) S)
  | .ret a S => Iff.rfl
  | .raise x S => Iff.rfl
  | .fail => Iff.rfl
  | .draw n k => by
    unfold T.att T.wp
    exact forall_congr' fun i => forall_congr' fun _ => T.wp_att
theorem wpM_att {α : Type} {m : M α} {S : Sto} {Q : Except D α → Sto → Prop} {R : D → Sto → Prop} : wpM (M.att m) S Q R ↔ wpM m S (fun a S => Q (.ok a) S) (fun x S => Q (.error x) S) := T.wp_att
/-- an expression within a statement -/
def exO {α : Type} (m : M α) (ρ : Fe) (k : α → M Out) : M Out := do
  match ← M.att m with
  | .ok a => k a
  | .error x => pure (.exc x ρ)

def frzE (is : List Nat) (ρ : Fe) : Fe := is.foldl (fun (ρ : Fe) (i : Nat) => match ρ[i]? with
  | some (.own xs) => ρ.set i (.val (.lst xs))
  | _ => ρ) ρ
mutual
/-- no list within -/
def D.noLst : D → Bool
  | .lst _ => false
  | .tup xs => D.noLsts xs
  | .ins _ fs => D.noLstf fs
  | .exc _ fs => D.noLstf fs
  | _ => true
def D.noLsts : List D → Bool
  | [] => true
  | d :: ds => d.noLst && D.noLsts ds
def D.noLstf : List (Str × D) → Bool
  | [] => true
  | p :: ds => p.2.noLst && D.noLstf ds
end
/-- a list is one's own -/
def owdF (i : Nat) (d : D) (ρ : Fe) : Fe := match d with
  | .lst xs => ρ.set i (.own xs)
  | d => setS ρ i d
/-- values, new lists among them, into slots -/
def paroF : List Nat → List Bool → List D → Fe → Option Fe
  | [], [], [], ρ => some ρ
  | i :: is, b :: bs, d :: ds, ρ => if b then (match d with
    | .lst xs => paroF is bs ds (ρ.set i (.own xs))
    | _ => none) else paroF is bs ds (setS ρ i d)
  | _, _, _, _ => none
/-- the turns of a for loop -/
def forM (f : D → Fe → M Out) : List D → Fe → M Out
  | [], ρ => pure (.nx ρ)
  | x :: xs, ρ => do
    match ← f x ρ with
    | .nx ρ1 => forM f xs ρ1
    | .cont ρ1 => forM f xs ρ1
    | .brk ρ1 => pure (.nx ρ1)
    | o => pure o
/-- the turns of a while loop -/
def whlM (t : Fe → M Bool) (f : Fe → M Out) : Nat → Fe → M Out
  | 0, _ => M.fail
  | n + 1, ρ => exO (t ρ) ρ fun b => if b then do
      match ← f ρ with
      | .nx ρ1 => whlM t f n ρ1
      | .cont ρ1 => whlM t f n ρ1
      | .brk ρ1 => pure (.nx ρ1)
      | o => pure o
    else pure (.nx ρ)
def Slot.isNew : Slot → Bool
  | .new .. => true
  | _ => false
/-- self.f = d, the field being new -/
def fstF (fld : Str → List Str) (i : Nat) (f : Str) (d : D) (ρ : Fe) : Option Fe := match ρ[i]? with
  | some (.new c fs) => if (fld c).contains f && !(fs.map (·.1)).contains f && decide (fs.length < 100) && (ρ.set i .emp).all (fun s => !s.isNew) then some (ρ.set i (.new c (fs ++ [(f, d)]))) else none
  | _ => none
def whlMost : Nat := 1000000
def D.xcls : D → Option Str
  | .exc c _ => some c
  | _ => none
/-- behind a suite whose name goes -/
def Slot.noEx : Slot → Slot
  | .exn _ => .emp
  | s => s
def goneF (i : Option Nat) (ρ : Fe) : Fe := match i with
  | none => ρ.map Slot.noEx
  | some i => (ρ.map Slot.noEx).set i .emp
def exnF (i : Option Nat) (x : D) (ρ : Fe) : Fe := match i with
  | none => ρ
  | some i => ρ.set i (.exn x)
def Out.gone (i : Option Nat) : Out → Out
  | .nx ρ => .nx (goneF i ρ)
  | .brk ρ => .brk (goneF i ρ)
  | .cont ρ => .cont (goneF i ρ)
  | .ret d => .ret d
  | .exc x ρ => .exc x ρ

section
variable (kin : Kin) (C : Orc)
mutual
def evS : S1 → Fe → M Out
  | .fz is s, ρ => evS s (frzE is ρ)
  | .asg p e, ρ => exO (evE kin C e ρ) ρ fun d => do
    let ρ' ← M.op (asgP p d ρ)
    pure (.nx ρ')
  | .own i e, ρ => exO (evE kin C e ρ) ρ fun d => match d with
    | .lst xs => pure (.nx (ρ.set i (.own xs)))
    | _ => M.fail
  | .par is es, ρ => exO (evEs kin C es ρ) ρ fun ds => if ds.length = is.length then pure (.nx ((is.zip ds).foldl (fun ρ q => setS ρ q.1 q.2) ρ)) else M.fail
  | .app i e, ρ => match ρ[i]? with
    | some (.own xs) => exO (evE kin C e ρ) ρ fun d => do
      small (xs.length + 1)
      pure (.nx (ρ.set i (.own (xs ++ [d]))))
    | _ => M.fail
  | .ifo i q a b, ρ => exO (evT kin C q ρ) ρ fun c => if c then exO (evE kin C a ρ) ρ fun d => (match d with
      | .lst xs => pure (.nx (ρ.set i (.own xs)))
      | _ => M.fail) else exO (evE kin C b ρ) ρ fun d => pure (.nx (setS ρ i d))
  | .owd i e, ρ => exO (evE kin C e ρ) ρ fun d => pure (.nx (owdF i d ρ))
  | .brw is p e, ρ => exO (evE kin C e (frzE is ρ)) (frzE is ρ) fun d => do
    let ρ' ← M.op (asgP p d (if d.noLst then ρ else frzE is ρ))
    pure (.nx ρ')
  | .paro is nw es, ρ => exO (evEs kin C es ρ) ρ fun ds => do
    let ρ' ← M.op (paroF is nw ds ρ)
    pure (.nx ρ')
  | .fst i f e, ρ => exO (evE kin C e ρ) ρ fun d => do
    let ρ' ← M.op (fstF kin.fld i f d ρ)
    pure (.nx ρ')
  | .ex e, ρ => exO (evE kin C e ρ) ρ fun _ => pure (.nx ρ)
  | .ret e, ρ => exO (evE kin C e ρ) ρ fun d => pure (.ret d)
  | .retn, _ => pure (.ret .non)
  | .pass, ρ => pure (.nx ρ)
  | .brk, ρ => pure (.brk ρ)
  | .cont, ρ => pure (.cont ρ)
  | .iff q a b, ρ => exO (evT kin C q ρ) ρ fun c => if c then evSs a ρ else evSs b ρ
  | .frl p it b, ρ => exO (evI kin C it ρ) ρ fun xs => forM (fun x ρ => do
      let ρ1 ← M.op (asgP p x ρ)
      evSs b ρ1) xs ρ
  | .whl q b, ρ => whlM (fun ρ => evT kin C q ρ) (fun ρ => evSs b ρ) whlMost ρ
  | .rse c e, ρ => exO (evE kin C e ρ) ρ fun d => match kin.ini c with
    | some f => pure (.exc (.exc c [(f, d)]) ρ)
    | none => M.fail
  | .tr b h, ρ => do
    match ← evSs b ρ with
    | .exc x ρ' => evHs h x ρ'
    | o => pure o
def evSs : Ss → Fe → M Out
  | .nil, ρ => pure (.nx ρ)
  | .cons s r, ρ => do
    match ← evS s ρ with
    | .nx ρ' => evSs r ρ'
    | o => pure o
/-- the clauses, one after the other -/
def evHs : Hs → D → Fe → M Out
  | .nil, x, ρ => pure (.exc x ρ)
  | .cons c i b r, x, ρ => match x.xcls with
    | some c0 => if kin.isX c0 && kin.isX c then
        if (kin.par c0).contains c then do
          let o ← evSs b (exnF i x ρ)
          match o with
          | .exc _ _ => M.fail
          | o => pure (o.gone i)
        else evHs r x ρ
      else M.fail
    | none => M.fail
end
/-- a def: its body, from its arguments -/
def runF (n : Nat) (body : Ss) (ds : List D) : M D := do
  match ← M.quiet (evSs kin C body (ds.map Slot.val ++ List.replicate n .emp)) with
  | .nx _ => pure .non
  | .ret d => pure d
  | .exc x _ => M.raise x
  | _ => M.fail
end
end RM
end
section
set_option Elab.async false
set_option linter.all false
set_option maxRecDepth 100000
set_option autoImplicit false
/-! statements: the relation, the rules -/
namespace RM
open PySem PySem.Spec PyProof.Rows L2

/-- what is wanted of an end -/
def OutQ (Y : Tx) (H0 : Hp) (B : Gh → Hp → Prop) (D : Ends) (W : WX) : Out → Sto → Prop
  | .nx ρ, S => ∀ G H σ, B G H → GOk Y G H S → SR Y H0 G H σ ρ → D.nx σ H
  | .brk ρ, S => ∀ G H σ, B G H → GOk Y G H S → SR Y H0 G H σ ρ → D.bk σ H
  | .cont ρ, S => ∀ G H σ, B G H → GOk Y G H S → SR Y H0 G H σ ρ → D.ct σ H
  | .ret d, S => ∀ G H v, B G H → GOk Y G H S → RD Y G H v d → D.rt v H
  | .exc x ρ, S => ∀ G H cls dx σ, B G H → GOk Y G H S → RX Y G H cls dx x → SR Y H0 G H σ ρ → W cls dx σ H
abbrev RN : D → Sto → Prop := fun _ _ => False
/-- what is kept of an earlier heap, whatever a statement does -/
structure Bs (Y : Tx) (H0 : Hp) (B : Gh → Hp → Prop) : Prop where
  ext : ∀ {G H G' H' S}, B G H → GOk Y G H S → Ext G H G' H' → B G' H'
  wr : ∀ {G H a u o}, B G H → H0 a = none → H a = some u → ¬ Solid u → ¬ G.Fz a → ¬ G.Mu a → B G (upd H a o)
  fz : ∀ {G H a}, B G H → H0 a = none → B (G.fz a) H
  th : ∀ {G H a}, B G H → H0 a ≠ none → H a ≠ none
def tS (Y : Tx) (W : WX) (m : Fe → M Out) : TS := fun D σ H => ∃ H0 B G ρ S, Bs Y H0 B ∧ GOk Y G H S ∧ B G H ∧ SR Y H0 G H σ ρ ∧ wpM (m ρ) S (OutQ Y H0 B D W) RN
/-- since the entry -/
theorem Bs.entry {Y : Tx} {G0 : Gh} {H0 : Hp} : Bs Y H0 (Ext G0 H0) := ⟨fun b _ e => b.trans e, fun b n _ _ _ _ => b.grow n, fun b n => b.freeze n, fun b n => b.there _ n⟩
/-- and since a statement began -/
theorem Bs.since {Y : Tx} {G1 : Gh} {H0 H1 : Hp} {B : Gh → Hp → Prop} (b : Bs Y H0 B) : Bs Y H0 (fun G H => B G H ∧ Kp G1 H1 G H) :=
  ⟨fun x ok e => ⟨b.ext x.1 ok e, x.2.trans (e.kp ok)⟩, fun x n h ns f m => ⟨b.wr x.1 n h ns f m, x.2.trans (Kp.writeN h ns f)⟩, fun x n => ⟨b.fz x.1 n, x.2.trans Kp.freeze⟩, fun x n => b.th x.1 n⟩

section
variable {Y : Tx} {k : Nat} {C : Orc} {g : Cfg} {gt : Gt} {X : Cx} {W : WX} {kin : Kin} {look : Bool} {G : Gh} {H H0 : Hp} {B : Gh → Hp → Prop} {σ : L2.St} {ρ : Fe} {S : Sto} {D : Ends}

theorem exO_wp {α : Type} {m : M α} {k : α → M Out} {Q : Out → Sto → Prop} (h : wpM (exO m ρ k) S Q RN) : wpM m S (fun a S1 => wpM (k a) S1 Q RN) (fun x S1 => Q (.exc x ρ) S1) := wpM_att.mp (wpM_bind.mp h)
/-- an exception of an expression -/
theorem exc_re {x : RM.D} {S1 : Sto} (bs : Bs Y H0 B) (e : B G H) (ok : GOk Y G H S) (sr : SR Y H0 G H σ ρ) (q : OutQ Y H0 B D W (.exc x ρ) S1) : RE Y G H σ W x S1 := fun G' H' cls dx e' ok' rx => q G' H' cls dx σ (bs.ext e ok e') ok' rx (sr.ext e' ok)
/-- an expression within a statement -/
theorem t_exO {R : Gh → Hp → V → RM.D → Prop} {m : Fe → M RM.D} {kk : Fe → RM.D → M Out} {Q : VK} (h : tS Y W (fun ρ => exO (m ρ) ρ (kk ρ)) D σ H)
    (hQ : ∀ H0 B G1 H1 ρ S1 v d, Bs Y H0 B → B G1 H1 → GOk Y G1 H1 S1 → SR Y H0 G1 H1 σ ρ → R G1 H1 v d → wpM (kk ρ d) S1 (OutQ Y H0 B D W) RN → Q v H1) : tE Y W R m σ H Q := by
  obtain ⟨H0, B, G, ρ, S, bs, ok, e, sr, w⟩ := h
  exact ⟨H0, G, ρ, S, ok, sr, wpM_mono (exO_wp w) (fun d S1 w1 G1 H1 v e1 ok1 r1 => hQ H0 B G1 H1 ρ S1 v d bs (bs.ext e ok e1) ok1 (sr.ext e1 ok) r1 w1) fun x S1 q => exc_re bs e ok sr q⟩
theorem t_exQ {m : Fe → M Bool} {kk : Fe → Bool → M Out} {Q : Bool → Hp → Prop} (h : tS Y W (fun ρ => exO (m ρ) ρ (kk ρ)) D σ H)
    (hQ : ∀ H0 B G1 H1 ρ S1 b, Bs Y H0 B → B G1 H1 → GOk Y G1 H1 S1 → SR Y H0 G1 H1 σ ρ → wpM (kk ρ b) S1 (OutQ Y H0 B D W) RN → Q b H1) : tQ Y W m σ H Q := by
  obtain ⟨H0, B, G, ρ, S, bs, ok, e, sr, w⟩ := h
  exact ⟨H0, G, ρ, S, ok, sr, wpM_mono (exO_wp w) (fun d S1 w1 G1 H1 e1 ok1 => hQ H0 B G1 H1 ρ S1 d bs (bs.ext e ok e1) ok1 (sr.ext e1 ok) w1) fun x S1 q => exc_re bs e ok sr q⟩
theorem t_exEs {m : Fe → M (List RM.D)} {kk : Fe → List RM.D → M Out} {Q : List V → Hp → Prop} (h : tS Y W (fun ρ => exO (m ρ) ρ (kk ρ)) D σ H)
    (hQ : ∀ H0 B G1 H1 ρ S1 vs ds, Bs Y H0 B → B G1 H1 → GOk Y G1 H1 S1 → SR Y H0 G1 H1 σ ρ → RDs Y G1 H1 vs ds → wpM (kk ρ ds) S1 (OutQ Y H0 B D W) RN → Q vs H1) : tEs Y W m σ H Q := by
  obtain ⟨H0, B, G, ρ, S, bs, ok, e, sr, w⟩ := h
  exact ⟨H0, G, ρ, S, ok, sr, wpM_mono (exO_wp w) (fun d S1 w1 G1 H1 vs e1 ok1 r1 => hQ H0 B G1 H1 ρ S1 vs d bs (bs.ext e ok e1) ok1 (sr.ext e1 ok) r1 w1) fun x S1 q => exc_re bs e ok sr q⟩
theorem t_exN {m : Fe → M RM.D} {kk : Fe → RM.D → M Out} {Q : VK} (h : tS Y W (fun ρ => exO (m ρ) ρ (kk ρ)) D σ H)
    (hQ : ∀ H0 B G1 H1 ρ S1 a vs ds, Bs Y H0 B → B G1 H1 → GOk Y G1 H1 S1 → SR Y H0 G1 H1 σ ρ → (∀ (i : Nat) b, (∃ xs, ρ[i]? = some (.own xs)) → σ[i]? = some (some (.ref b)) → b ≠ a) → H0 a = none → H1 a = some (.lst vs) → ¬ G1.Fz a → ¬ G1.Mu a → RDs Y G1 H1 vs ds → wpM (kk ρ (.lst ds)) S1 (OutQ Y H0 B D W) RN → Q (.ref a) H1) : tN Y W m σ H Q := by
  obtain ⟨H0, B, G, ρ, S, bs, ok, e, sr, w⟩ := h
  refine ⟨H0, G, ρ, S, ok, sr, wpM_mono (exO_wp w) (fun d S1 w1 G1 H1 a vs ds ed e1 ok1 na ha nf nm rs => ?_) fun x S1 q => exc_re bs e ok sr q⟩
  subst ed
  refine hQ H0 B G1 H1 ρ S1 a vs ds bs (bs.ext e ok e1) ok1 (sr.ext e1 ok) (fun i b ⟨xs, ho⟩ hb z => ?_) ?_ ha nf nm rs w1
  · obtain ⟨a', vs', h1, h2, _⟩ := sr.slot i _ ho
    rw [hb] at h1
    cases h1
    rw [z, na] at h2; cases h2
  · cases hh : H0 a with
    | none => rfl
    | some u => exact absurd na (bs.th e (by rw [hh]; exact fun z => nomatch z))

/-! ### frozen on the way -/
theorem SR.frz1at (sr : SR Y H0 G H σ ρ) (i : Nat) {xs : List RM.D} (h : ρ[i]? = some (.own xs)) {a : Addr} (hs : σ[i]? = some (some (.ref a))) : SR Y H0 (G.fz a) H σ (ρ.set i (.val (.lst xs))) := by
  obtain ⟨a', vs, hs', ha, nf, nm, h0, rs⟩ := sr.slot i _ h
  rw [hs] at hs'
  cases hs'
  refine ⟨by rw [List.length_set]; exact sr.len, fun j t hj => ?_, fun j l ys zs b h1 h2 h3 h4 => ?_⟩
  · by_cases z : i = j
    · subst z
      rw [List.getElem?_set_self (List.getElem?_eq_some_iff.mp h).1] at hj
      cases hj
      exact ⟨.ref a, hs, .lst ha (.inr rfl) (rs.mono Kp.freeze)⟩
    · rw [List.getElem?_set_ne z] at hj
      have q := sr.slot j t hj
      cases t with
      | emp => trivial
      | val d => obtain ⟨v, h1, r⟩ := q; exact ⟨v, h1, r.mono Kp.freeze⟩
      | exn x =>
        obtain ⟨b, cls, dx, h1, c, c', C1, fs, q, fv, e1, e2, e3, e4, hq, m, r⟩ := q
        exact ⟨b, cls, dx, h1, c, c', C1, fs, q, fv, e1, e2, e3, e4, hq, m, r.mono Kp.freeze⟩
      | own ys =>
        obtain ⟨b, ws, h1, hb, f, m, h00, r⟩ := q
        refine ⟨b, ws, h1, hb, fun y => y.elim f fun y => ?_, m, h00, r.mono Kp.freeze⟩
        subst y
        exact z (sr.apart i j xs ys b h hj hs h1)
      | new c fs =>
        obtain ⟨b, C, dx, fv, h1, hc, hb, f, m, h00, r⟩ := q
        refine ⟨b, C, dx, fv, h1, hc, hb, fun y => y.elim f fun y => ?_, m, h00, r.mono Kp.freeze⟩
        rw [y, ha] at hb
        cases hb
  · have nj : ∀ {l : Nat} {zs : List RM.D}, (ρ.set i (.val (.lst xs)))[l]? = some (.own zs) → i ≠ l := fun {l zs} hz y => by
      subst y
      rw [List.getElem?_set_self (List.getElem?_eq_some_iff.mp h).1] at hz
      cases hz
    have e1 := nj h1
    have e2 := nj h2
    rw [List.getElem?_set_ne e1] at h1
    rw [List.getElem?_set_ne e2] at h2
    exact sr.apart j l ys zs b h1 h2 h3 h4
theorem SR.frz1 (bs : Bs Y H0 B) (e : B G H) (ok : GOk Y G H S) (sr : SR Y H0 G H σ ρ) (i : Nat) {xs : List RM.D} (h : ρ[i]? = some (.own xs)) : ∃ G', GOk Y G' H S ∧ B G' H ∧ SR Y H0 G' H σ (ρ.set i (.val (.lst xs))) := by
  obtain ⟨a, vs, hs, ha, nf, nm, h0, rs⟩ := sr.slot i _ h
  have ne : H a ≠ none := by rw [ha]; exact fun z => nomatch z
  exact ⟨G.fz a, ok.freeze ne nm, bs.fz e h0, sr.frz1at i h hs⟩
theorem SR.frz (bs : Bs Y H0 B) : ∀ (is : List Nat) {G : Gh} {ρ : Fe}, B G H → GOk Y G H S → SR Y H0 G H σ ρ → ∃ G', GOk Y G' H S ∧ B G' H ∧ SR Y H0 G' H σ (frzE is ρ)
  | [], G, ρ, e, ok, sr => ⟨G, ok, e, sr⟩
  | i :: is, G, ρ, e, ok, sr => by
    unfold frzE
    rw [List.foldl_cons]
    split
    · rename_i xs h
      obtain ⟨G1, ok1, e1, sr1⟩ := sr.frz1 bs e ok i h
      exact SR.frz bs is e1 ok1 sr1
    · exact SR.frz bs is e ok sr
theorem t_fz {is : List Nat} {m : Fe → M Out} (h : tS Y W (fun ρ => m (frzE is ρ)) D σ H) : tS Y W m D σ H := by
  obtain ⟨H0, B, G, ρ, S, bs, ok, e, sr, w⟩ := h
  obtain ⟨G1, ok1, e1, sr1⟩ := SR.frz bs is e ok sr
  exact ⟨H0, B, G1, frzE is ρ, S, bs, ok1, e1, sr1, w⟩
theorem PS.fz {st : Stmt} {is : List Nat} {s : S1} (h : PS X st (tS Y W (evS kin C s))) : PS X st (tS Y W (evS kin C (.fz is s))) :=
  h.imp fun D σ H h => t_fz (is := is) (by
    have e : evS kin C (.fz is s) = fun ρ => evS kin C s (frzE is ρ) := by funext ρ; conv => lhs; unfold evS
    rw [e] at h; exact h)

/-- a new list of one's own into a slot -/
theorem SR.own (ok : GOk Y G H S) (sr : SR Y H0 G H σ ρ) {i : Nat} {a : Addr} {vs : List V} {ds : List RM.D} (ap : ∀ (i : Nat) b, (∃ xs, ρ[i]? = some (.own xs)) → σ[i]? = some (some (.ref b)) → b ≠ a) (h0 : H0 a = none) (ha : H a = some (.lst vs)) (nf : ¬ G.Fz a) (nm : ¬ G.Mu a) (rs : RDs Y G H vs ds) :
    SR Y H0 G H (σ.set i (some (.ref a))) (ρ.set i (.own ds)) := by
  refine ⟨by rw [List.length_set, List.length_set]; exact sr.len, fun j t h => ?_, fun j l xs ys b h1 h2 h3 h4 => ?_⟩
  · by_cases z : i = j
    · subst z
      have hl : i < ρ.length := by
        have := (List.getElem?_eq_some_iff.mp h).1
        simpa using this
      rw [List.getElem?_set_self hl] at h
      cases h
      rw [List.getElem?_set_self (by rw [sr.len]; exact hl)]
      exact ⟨a, vs, rfl, ha, nf, nm, h0, rs⟩
    · rw [List.getElem?_set_ne z] at h ⊢
      exact sr.slot j t h
  · by_cases z : i = j
    · subst z
      by_cases z' : i = l
      · exact z'
      · exfalso
        rw [List.getElem?_set_ne z'] at h2 h4
        have hl : i < σ.length := by
          have := (List.getElem?_eq_some_iff.mp h3).1
          simpa using this
        rw [List.getElem?_set_self hl] at h3
        cases h3
        exact ap l a ⟨_, h2⟩ h4 rfl
    · rw [List.getElem?_set_ne z] at h1 h3
      by_cases z' : i = l
      · exfalso
        subst z'
        have hl : i < σ.length := by
          have := (List.getElem?_eq_some_iff.mp h4).1
          simpa using this
        rw [List.getElem?_set_self hl] at h4
        cases h4
        exact ap j a ⟨_, h1⟩ h3 rfl
      · rw [List.getElem?_set_ne z'] at h2 h4
        exact sr.apart j l xs ys b h1 h2 h3 h4
/-- one's own list is written -/
theorem SR.wr (ok : GOk Y G H S) (sr : SR Y H0 G H σ ρ) {i : Nat} {a : Addr} {vs ws : List V} {ds es : List RM.D} (hi : ρ[i]? = some (.own ds)) (hs : σ[i]? = some (some (.ref a))) (ha : H a = some (.lst vs)) (nf : ¬ G.Fz a) (nm : ¬ G.Mu a) (h0 : H0 a = none) (rs : RDs Y G (upd H a (.lst ws)) ws es) :
    SR Y H0 G (upd H a (.lst ws)) σ (ρ.set i (.own es)) := by
  have kp : Kp G H G (upd H a (.lst ws)) := Kp.write ha nf
  refine ⟨by rw [List.length_set]; exact sr.len, fun j t h => ?_, fun j l xs ys b h1 h2 h3 h4 => ?_⟩
  · by_cases z : i = j
    · subst z
      rw [List.getElem?_set_self (List.getElem?_eq_some_iff.mp hi).1] at h
      cases h
      exact ⟨a, ws, hs, upd_same, nf, nm, h0, rs⟩
    · rw [List.getElem?_set_ne z] at h
      have q := sr.slot j t h
      cases t with
      | emp => trivial
      | val d => obtain ⟨v, h1, r⟩ := q; exact ⟨v, h1, r.mono kp⟩
      | exn x =>
        obtain ⟨b, cls, dx, h1, c, c', C1, fs, q, fv, e1, e2, e3, e4, hq, m, r⟩ := q
        refine ⟨b, cls, dx, h1, c, c', C1, fs, q, fv, e1, e2, e3, e4, ?_, m, r.mono kp⟩
        rw [upd_ne (ne_of hq ha (fun z => nomatch z))]; exact hq
      | own ys =>
        obtain ⟨b, zs, h1, hb, f, m, h00, r⟩ := q
        have ne : b ≠ a := fun y => z (sr.apart i j ds ys a hi h hs (y ▸ h1))
        exact ⟨b, zs, h1, by rw [upd_ne ne]; exact hb, f, m, h00, r.mono kp⟩
      | new c fs =>
        obtain ⟨b, C, dx, fv, h1, hc, hb, f, m, h00, r⟩ := q
        have ne : b ≠ a := fun y => by (rw [y, ha] at hb; cases hb)
        exact ⟨b, C, dx, fv, h1, hc, by rw [upd_ne ne]; exact hb, f, m, h00, r.mono kp⟩
  · have own : ∀ {l : Nat} {zs : List RM.D}, (ρ.set i (.own es))[l]? = some (.own zs) → ∃ zs', ρ[l]? = some (.own zs') := fun {l zs} hz => by
      by_cases y : i = l
      · subst y; exact ⟨ds, hi⟩
      · rw [List.getElem?_set_ne y] at hz; exact ⟨zs, hz⟩
    obtain ⟨xs', h1'⟩ := own h1
    obtain ⟨ys', h2'⟩ := own h2
    exact sr.apart j l xs' ys' b h1' h2' h3 h4
theorem RDf.app {G : Gh} {H : Hp} : ∀ {fv gv : List (Str × V)} {fs gs : List (Str × RM.D)}, RDf Y G H fv fs → RDf Y G H gv gs → RDf Y G H (fv ++ gv) (fs ++ gs)
  | _, _, _, _, .nil, s => s
  | _, _, _, _, .cons h r, s => .cons h (RDf.app r s)
theorem RDf.keys {G : Gh} {H : Hp} : ∀ {fv : List (Str × V)} {fs : List (Str × RM.D)}, RDf Y G H fv fs → fv.map (·.1) = fs.map (·.1)
  | _, _, .nil => rfl
  | _, _, .cons h r => by rw [List.map_cons, List.map_cons, RDf.keys r]
theorem putF_new {f : Str} {v : V} : ∀ {fv : List (Str × V)}, (fv.map (·.1)).contains f = false → putF f v fv = fv ++ [(f, v)]
  | [], _ => rfl
  | (g, x) :: r, h => by
    rw [List.map_cons, List.contains_cons, Bool.or_eq_false_iff] at h
    have ne : ¬ g = f := fun z => by
      have := beq_eq_false_iff_ne.mp h.1
      exact this z.symm
    show (if g = f then (g, v) :: r else (g, x) :: putF f v r) = _
    rw [if_neg ne, putF_new h.2]; rfl
/-- the object under construction is written -/
theorem SR.wrN (sr : SR Y H0 G H σ ρ) {i : Nat} {a C dx : Addr} {c : Str} {fv gv : List (Str × V)} {fs gs : List (Str × RM.D)} (hi : ρ[i]? = some (.new c fs)) (hs : σ[i]? = some (some (.ref a))) (hc : Y.cls c = some C ∧ Y.slf = some a) (ha : H a = some (.ins C dx fv)) (nf : ¬ G.Fz a) (nm : ¬ G.Mu a) (h0 : H0 a = none)
    (only : (ρ.set i .emp).all (fun s => !s.isNew) = true) (rs : RDf Y G (upd H a (.ins C dx gv)) gv gs) : SR Y H0 G (upd H a (.ins C dx gv)) σ (ρ.set i (.new c gs)) := by
  have kp : Kp G H G (upd H a (.ins C dx gv)) := Kp.writeN ha (fun z => z) nf
  have hl := (List.getElem?_eq_some_iff.mp hi).1
  refine ⟨by rw [List.length_set]; exact sr.len, fun j t h => ?_, fun j l xs ys b h1 h2 h3 h4 => ?_⟩
  · by_cases z : i = j
    · subst z
      rw [List.getElem?_set_self hl] at h
      cases h
      exact ⟨a, C, dx, gv, hs, hc, upd_same, nf, nm, h0, rs⟩
    · rw [List.getElem?_set_ne z] at h
      have q := sr.slot j t h
      cases t with
      | emp => trivial
      | val d => obtain ⟨v, h1, r⟩ := q; exact ⟨v, h1, r.mono kp⟩
      | exn x =>
        obtain ⟨b, cls, dx', h1, c, c', C1, fs, q, fv, e1, e2, e3, e4, hq, m, r⟩ := q
        refine ⟨b, cls, dx', h1, c, c', C1, fs, q, fv, e1, e2, e3, e4, ?_, m, r.mono kp⟩
        rw [upd_ne (fun z => by (rw [z, ha] at hq; cases hq))]; exact hq
      | own ys =>
        obtain ⟨b, zs, h1, hb, f, m, h00, r⟩ := q
        exact ⟨b, zs, h1, by rw [upd_ne (fun z => by (rw [z, ha] at hb; cases hb))]; exact hb, f, m, h00, r.mono kp⟩
      | new c' fs' =>
        have hm : Slot.new c' fs' ∈ ρ.set i .emp := by
          refine List.mem_of_getElem? (i := j) ?_
          rw [List.getElem?_set_ne z]; exact h
        have := List.all_eq_true.mp only _ hm
        cases this
  · have own : ∀ {l : Nat} {zs : List RM.D}, (ρ.set i (.new c gs))[l]? = some (.own zs) → ρ[l]? = some (.own zs) := fun {l zs} hz => by
      by_cases y : i = l
      · subst y
        rw [List.getElem?_set_self hl] at hz
        cases hz
      · rw [List.getElem?_set_ne y] at hz; exact hz
    exact sr.apart j l xs ys b (own h1) (own h2) h3 h4
end
end RM
end
section
set_option Elab.async false
set_option linter.all false
set_option maxRecDepth 100000
set_option autoImplicit false
/-! statements: the rules -/
namespace RM
open PySem PySem.Spec PyProof.Rows L2

structure Sok (kin : Kin) (gt : Gt) (Y : Tx) (k : Nat) (C : Orc) (g : Cfg) (X : Cx) (W : WX) : Prop where
  o : Cok kin gt Y k C g X W
  po : g.hot = false → PassesOwn (model X.prog X.w) X.A X.env X.xe
  stk : X.stack = X.env :: X.outer
  frm : X.env.frame = some X.env.locals
  kd : X.env.scope.kind = .function

section
variable {Y : Tx} {k : Nat} {C : Orc} {g : Cfg} {gt : Gt} {X : Cx} {W : WX} {kin : Kin} {look : Bool} {G : Gh} {H H0 : Hp} {B : Gh → Hp → Prop} {σ : L2.St} {ρ : Fe} {S : Sto} {D : Ends} {r : Cfg → Cp}

/-! ### assignments -/
theorem evS_asg (p : List Nat) (e : E) : evS kin C (.asg p e) = fun ρ => exO (evE kin C e ρ) ρ fun d => (do
    let ρ' ← M.op (asgP p d ρ)
    pure (.nx ρ')) := by funext ρ; conv => lhs; unfold evS
theorem evS_own (i : Nat) (e : E) : evS kin C (.own i e) = fun ρ => exO (evE kin C e ρ) ρ fun d => (match d with
    | .lst xs => pure (.nx (ρ.set i (.own xs)))
    | _ => M.fail) := by funext ρ; conv => { lhs; unfold evS }; try rfl
theorem t_asg {p : List Nat} {e : E} (h : tS Y W (evS kin C (.asg p e)) D σ H) : tAsg (tE Y W (RD Y) (evE kin C e)) (tG Y p) D σ H := by
  rw [evS_asg] at h
  refine t_exO h fun H0 B G1 H1 ρ S1 v d bs e1 ok1 sr1 r1 w => ?_
  obtain ⟨ρ', hρ, q⟩ := wpM_op.mp (wpM_bind.mp w)
  exact ⟨H0, G1, ρ, S1, d, ρ', ok1, sr1, r1, hρ, fun σ' sr' _ => q G1 H1 σ' e1 ok1 sr'⟩
theorem t_asg1 {i : Nat} {e : E} (h : tS Y W (evS kin C (.asg [i] e)) D σ H) : tAsg (tE Y W (RD Y) (evE kin C e)) (gName i) D σ H := by
  rw [evS_asg] at h
  refine t_exO h fun H0 B G1 H1 ρ S1 v d bs e1 ok1 sr1 r1 w => ?_
  obtain ⟨ρ', hρ, q⟩ := wpM_op.mp (wpM_bind.mp w)
  cases hρ
  exact q G1 H1 _ e1 ok1 (sr1.set i r1)
theorem t_own {i : Nat} {e : E} (h : tS Y W (evS kin C (.own i e)) D σ H) : tAsg (tN Y W (evE kin C e)) (gName i) D σ H := by
  rw [evS_own] at h
  refine t_exN h fun H0 B G1 H1 ρ S1 a vs ds bs e1 ok1 sr1 ap h0 ha nf nm rs w => ?_
  have w : wpM (pure (Out.nx (ρ.set i (.own ds)))) S1 (OutQ Y H0 B D W) RN := w
  exact w G1 H1 _ e1 ok1 (sr1.own ok1 ap h0 ha nf nm rs)
theorem t_asgN {i : Nat} {e : E} (h : tS Y W (evS kin C (.asg [i] e)) D σ H) : tAsg (tN Y W (evE kin C e)) (gName i) D σ H := t_new (look := false) (t_asg1 h)
/-- does the value stand on the line of its name? -/
def swE (g : Cfg) (x : Str) (px : Pos) (e : Expr) : Option Bool :=
  match e with
  | .ListComp _ _ s p => some (g.sc.names.lookup x == some .local && (px.line == p.line) && !(s.names.any fun (n, k) => n == x && (k == .local || k == .cell)))
  | .SetComp .. => none
  | .DictComp .. => none
  | _ => some false
theorem swE_ok (s : Sok kin gt Y k C g X W) {x : Str} {px : Pos} {l : Nat} {e : Expr} {b : Bool} (h : swE g x px e = some b) : swapsWith e (some (.Name x px)) l X.env = pure b := by
  have hb : X.env.blockKind = .function := by unfold Env.blockKind; rw [s.kd]; rfl
  unfold swE at h
  split at h
  · cases h
    unfold swapsWith
    simp only [hb]
    have ke : X.env.kindOf x = g.sc.names.lookup x := by
      show X.env.scope.names.lookup x = _
      rw [s.o.sc]
    simp only [ke, Expr.pos]
    rfl
  · cases h
  · cases h
  · rename_i h1 h2 h3
    cases h
    unfold swapsWith
    cases e <;> first | rfl | exact absurd rfl (h1 _ _ _ _) | exact absurd rfl (h2 _ _ _ _) | exact absurd rfl (h3 _ _ _ _ _)

/-! ### several names at once -/
/-- are the stores swapped? some none: no; some (some names): yes -/
def swpC (g : Cfg) (ts vs : List Expr) : Option (Option (List Str)) :=
  if !(ts.length == 2 || ts.length == 3) || vs.length != ts.length then some none
  else if vs.any isStarred then some none
  else
    let line := (ts.head?.map (·.pos.line)).getD 0
    let names := ts.filterMap fun
      | .Name id pos => if g.sc.names.lookup id == some .local && pos.line == line then some id else none
      | _ => none
    if names.length != ts.length || names.eraseDups.length != names.length then some none
    else if vs.all (foldedForSure 8) then some none
    else if vs.all (constantsAlone 8) then none
    else some (some names)
theorem swp_ok (s : Sok kin gt Y k C g X W) {ts vs : List Expr} {k1 k2 : Nat} {p1 p2 : Pos} {b : Option (List Str)} (h : swpC g ts vs = some b) : swappedStores [.Tuple ts k1 p1] (.Tuple vs k2 p2) X.env = pure b := by
  have hb : X.env.blockKind = .function := by unfold Env.blockKind; rw [s.kd]; rfl
  have ke : ∀ x, X.env.kindOf x = g.sc.names.lookup x := fun x => by
    show X.env.scope.names.lookup x = _
    rw [s.o.sc]
  unfold swappedStores
  simp only [hb, ke]
  unfold swpC at h
  split at h
  · rename_i c
    cases h
    refine if_pos ?_
    rw [c]; rfl
  · rename_i c
    refine (if_neg ?_).trans ?_
    · intro z
      apply c
      simpa using z
    · split at h
      · rename_i c2
        cases h
        refine if_pos (Eq.trans (b := vs.any isStarred) ?_ c2)
        congr 1
      · rename_i c2
        refine (if_neg ?_).trans ?_
        · intro z
          refine c2 (Eq.trans ?_ z)
          congr 1
        · simp only at h
          split at h
          · rename_i c3
            cases h
            exact if_pos c3
          · rename_i c3
            refine (if_neg c3).trans ?_
            split at h
            · rename_i c4
              cases h
              exact if_pos c4
            · rename_i c4
              refine (if_neg c4).trans ?_
              split at h
              · cases h
              · rename_i c5
                cases h
                exact if_neg c5
theorem evS_par (is : List Nat) (es : Es) : evS kin C (.par is es) = fun ρ => exO (evEs kin C es ρ) ρ fun ds => if ds.length = is.length then pure (.nx ((is.zip ds).foldl (fun ρ q => setS ρ q.1 q.2) ρ)) else M.fail := by
  funext ρ; conv => { lhs; unfold evS }
theorem t_par2 {i j : Nat} {es : Es} (h : tS Y W (evS kin C (.par [i, j] es)) D σ H) : tPar i j (tEs Y W (evEs kin C es)) D σ H := by
  rw [evS_par] at h
  refine t_exEs h fun H0 B G1 H1 ρ S1 vs ds bs e1 ok1 sr1 rs w => ?_
  split at w
  · rename_i hl
    cases rs with
    | nil => cases hl
    | cons r rs =>
      cases rs with
      | nil => cases hl
      | cons r2 rs =>
        cases rs with
        | nil => exact ⟨_, _, rfl, w G1 H1 _ e1 ok1 ((sr1.set i r).set j r2)⟩
        | cons _ rs => simp at hl
  · exact w.elim
theorem t_par3 {i j l : Nat} {es : Es} (h : tS Y W (evS kin C (.par [i, j, l] es)) D σ H) : tPar3 i j l (tEs Y W (evEs kin C es)) D σ H := by
  rw [evS_par] at h
  refine t_exEs h fun H0 B G1 H1 ρ S1 vs ds bs e1 ok1 sr1 rs w => ?_
  split at w
  · rename_i hl
    cases rs with
    | nil => cases hl
    | cons r rs =>
      cases rs with
      | nil => cases hl
      | cons r2 rs =>
        cases rs with
        | nil => cases hl
        | cons r3 rs =>
          cases rs with
          | nil => exact ⟨_, _, _, rfl, w G1 H1 _ e1 ok1 (((sr1.set i r).set j r2).set l r3)⟩
          | cons _ rs => simp at hl
  · exact w.elim

/-! ### append -/
theorem evS_app (i : Nat) (e : E) : evS kin C (.app i e) = fun ρ => (match ρ[i]? with
    | some (.own xs) => exO (evE kin C e ρ) ρ fun d => (do
      small (xs.length + 1)
      pure (.nx (ρ.set i (.own (xs ++ [d])))))
    | _ => M.fail) := by
  funext ρ; conv => { lhs; unfold evS }; try rfl
theorem s_app1 (s : Sok kin gt Y k C g X W) {x : Str} {e : Expr} {i : Nat} {y : E} {p0 apos cpos spos : Pos} (hN : X.N[i]? = some x) (hv : Vis X.env.scope x) (n1 : (x == ("__debug__" : Str)) = false) (n2 : (x == ("__classdict__" : Str)) = false) (he : PE X e (tE Y W (RD Y) (evE kin C y))) (hs : isStarred e = false)
    (hline : (apos.endLine == cpos.line) = true) : PS X (.Expr (.Call (.Attribute (.Name x p0) "append" apos) [e] [] cpos) spos) (tS Y W (evS kin C (.app i y))) := by
  have s1 := starEach_plain (es := []) (env := X.env) hs
  refine (ps_expr (pe_bm PySem.F.plainAttrs_list PySem.F.slot_list_append PySem.F.type_list_append mt_append (pe_var hN hv n1 n2) (pa_cons he pa_nil s1) rfl (by rw [s1]; rfl) hline s1 (starEach_none (by simp [hs])))).imp fun D σ H h => ?_
  rw [evS_app] at h
  obtain ⟨H0, B, G, ρ, S, bs, ok, e0, sr, w⟩ := h
  have w : wpM (match ρ[i]? with
    | some (Slot.own xs) => exO (evE kin C y ρ) ρ fun d => (do
      small (xs.length + 1)
      pure (Out.nx (ρ.set i (Slot.own (xs ++ [d])))))
    | _ => M.fail) S (OutQ Y H0 B D W) RN := w
  cases hsl : ρ[i]? with
  | none =>
    rw [hsl] at w
    exact w.elim
  | some sl =>
    cases sl with
    | own xs =>
      rw [hsl] at w
      have w := exO_wp w
      obtain ⟨a, vs, h1, ha, nf, nm, h0, rs⟩ := sr.slot i _ hsl
      refine ⟨.ref a, h1, .inl ⟨rfl, vs, .of ha⟩, H0, G, ρ, S, ok, sr, wpM_mono w (fun d S1 w1 G1 H1 v e1 ok1 r1 => ?_) fun x S1 q => exc_re bs e0 ok sr q⟩
      obtain ⟨hz, w1⟩ := small_wp (wpM_bind.mp w1)
      have ha1 := e1.keep a _ ha nm
      have no : H a = none → False := fun z => by rw [ha] at z; cases z
      have nf1 : ¬ G1.Fz a := fun q => (e1.nfz a q).elim nf no
      have nm1 : ¬ G1.Mu a := fun q => (e1.nmu a q).elim nm no
      have sr1 := sr.ext e1 ok
      refine ⟨a, vs, v, rfl, rfl, ha1, by rw [rs.length]; omega, ?_⟩
      have kp := Kp.write (G := G1) (o := .lst (vs ++ [v])) ha1 nf1
      refine w1 G1 _ _ (bs.wr (bs.ext e0 ok e1) h0 ha1 (fun z => z) nf1 nm1) (ok1.write ha1 nf1 nm1) (sr1.wr ok1 hsl h1 ha1 nf1 nm1 h0 (((rs.ext e1 ok).append (.cons r1 .nil)).mono kp))
    | _ =>
      rw [hsl] at w
      exact w.elim

/-! ### a new field of the object under construction -/
theorem evS_fst (i : Nat) (f : Str) (e : E) : evS kin C (.fst i f e) = fun ρ => exO (evE kin C e ρ) ρ fun d => (do
    let ρ' ← M.op (fstF kin.fld i f d ρ)
    pure (.nx ρ')) := by funext ρ; conv => lhs; unfold evS
theorem fstF_some {fld : Str → List Str} {i : Nat} {f : Str} {d : RM.D} {ρ ρ' : Fe} (h : fstF fld i f d ρ = some ρ') : ∃ c fs, ρ[i]? = some (.new c fs) ∧ (fld c).contains f = true ∧ (fs.map (·.1)).contains f = false ∧ fs.length < 100 ∧ (ρ.set i .emp).all (fun s => !s.isNew) = true ∧ ρ' = ρ.set i (.new c (fs ++ [(f, d)])) := by
  unfold fstF at h
  split at h
  · rename_i c fs hi
    split at h
    · rename_i q
      cases h
      simp only [Bool.and_eq_true, Bool.not_eq_true', decide_eq_true_eq] at q
      exact ⟨c, fs, hi, q.1.1.1, q.1.1.2, q.1.2, q.2, rfl⟩
    · cases h
  · cases h
theorem s_fst (s : Sok kin gt Y k C g X W) {x f : Str} {e : Expr} {i : Nat} {y : E} {p0 p1 pos : Pos} (hN : X.N[i]? = some x) (hv : Vis X.env.scope x) (n1 : (x == ("__debug__" : Str)) = false) (n2 : (x == ("__classdict__" : Str)) = false) (he : PE X e (tE Y W (RD Y) (evE kin C y)))
    (hs : swapsWith e (some (.Attribute (.Name x p0) f p1)) pos.line X.env = pure false) : PS X (.Assign [.Attribute (.Name x p0) f p1] e pos) (tS Y W (evS kin C (.fst i f y))) := by
  refine (ps_fld (pe_var hN hv n1 n2) he hs).imp fun D σ H h => ?_
  rw [evS_fst] at h
  refine t_exO h fun H0 B G1 H1 ρ S1 v d bs e1 ok1 sr1 r1 w => ?_
  obtain ⟨ρ', hρ, q⟩ := wpM_op.mp (wpM_bind.mp w)
  obtain ⟨c, fs, hi, hf, hk, hl, only, rfl⟩ := fstF_some hρ
  obtain ⟨a, Ca, dx, fv, hsl, hc, ha, nf, nm, h0, rs⟩ := sr1.slot i _ hi
  obtain ⟨k1, k2⟩ := s.o.kok.fld c Ca f hc.1 hf
  have hK := s.o.ox.hK
  have hkv : (fv.map (·.1)).contains f = false := by rw [rs.keys]; exact hk
  have kp : Kp G1 H1 G1 (upd H1 a (.ins Ca dx (fv ++ [(f, v)]))) := Kp.writeN ha (fun z => z) nf
  have hlen : fv.length < 1000 := by
    have := congrArg List.length rs.keys
    simp only [List.length_map] at this
    omega
  refine ⟨.ref a, hsl, a, Ca, dx, fv, rfl, ha, by rw [hK]; exact k1, by rw [hK]; exact k2, hlen, ?_⟩
  rw [putF_new hkv]
  exact q G1 _ σ (bs.wr e1 h0 ha (fun z => z) nf nm) (ok1.write ha nf nm) (sr1.wrN hi hsl hc ha nf nm h0 only (RDf.app (rs.mono kp) (.cons (r1.mono kp) .nil)))

/-! ### small statements -/
theorem s_expr {e : Expr} {x : E} {pos : Pos} (he : PE X e (tE Y W (RD Y) (evE kin C x))) (hs : swapsWith e none pos.line X.env = pure false) : PS X (.Expr e pos) (tS Y W (evS kin C (.ex x))) :=
  (ps_expr he hs).imp fun D σ H h => by
    have e : evS kin C (.ex x) = fun ρ => exO (evE kin C x ρ) ρ fun _ => pure (.nx ρ) := by funext ρ; conv => { lhs; unfold evS }
    rw [e] at h
    exact t_exO h fun H0 B G1 H1 ρ S1 v d bs e1 ok1 sr1 r1 w => w G1 H1 σ e1 ok1 sr1
theorem s_ret {e : Expr} {x : E} {pos : Pos} (he : PE X e (tE Y W (RD Y) (evE kin C x))) : PS X (.Return (some e) pos) (tS Y W (evS kin C (.ret x))) :=
  (ps_ret he).imp fun D σ H h => by
    have e : evS kin C (.ret x) = fun ρ => exO (evE kin C x ρ) ρ fun d => pure (.ret d) := by funext ρ; conv => { lhs; unfold evS }
    rw [e] at h
    exact t_exO h fun H0 B G1 H1 ρ S1 v d bs e1 ok1 sr1 r1 w => w G1 H1 v e1 ok1 r1
theorem s_retn {pos : Pos} : PS X (.Return none pos) (tS Y W (evS kin C .retn)) :=
  ps_retN.imp fun D σ H ⟨H0, B, G, ρ, S, bs, ok, e, sr, w⟩ => by
    unfold evS at w
    exact w G H .non e ok .non
theorem s_pass {pos : Pos} : PS X (.Pass pos) (tS Y W (evS kin C .pass)) :=
  ps_pass.imp fun D σ H ⟨H0, B, G, ρ, S, bs, ok, e, sr, w⟩ => by
    unfold evS at w
    exact w G H σ e ok sr
theorem s_brk {pos : Pos} : PS X (.Break pos) (tS Y W (evS kin C .brk)) :=
  ps_break.imp fun D σ H ⟨H0, B, G, ρ, S, bs, ok, e, sr, w⟩ => by
    unfold evS at w
    exact w G H σ e ok sr
theorem s_cont {pos : Pos} : PS X (.Continue pos) (tS Y W (evS kin C .cont)) :=
  ps_continue.imp fun D σ H ⟨H0, B, G, ρ, S, bs, ok, e, sr, w⟩ => by
    unfold evS at w
    exact w G H σ e ok sr
theorem s_if {c : Expr} {q : Q} {a b : List Stmt} {x y : Ss} {pos : Pos} (hc : PT X c (tQ Y W (evT kin C q))) (ha : PSs X a (tS Y W (evSs kin C x))) (hb : PSs X b (tS Y W (evSs kin C y))) : PS X (.If c a b pos) (tS Y W (evS kin C (.iff q x y))) :=
  (ps_if hc ha hb).imp fun D σ H h => by
    have e : evS kin C (.iff q x y) = fun ρ => exO (evT kin C q ρ) ρ fun c => if c then evSs kin C x ρ else evSs kin C y ρ := by funext ρ; conv => { lhs; unfold evS }
    rw [e] at h
    refine t_exQ h fun H0 B G1 H1 ρ S1 c bs e1 ok1 sr1 w => ?_
    cases c with
    | true => exact ⟨H0, B, G1, ρ, S1, bs, ok1, e1, sr1, w⟩
    | false => exact ⟨H0, B, G1, ρ, S1, bs, ok1, e1, sr1, w⟩
theorem s_nil : PSs X [] (tS Y W (evSs kin C .nil)) :=
  pss_nil.imp fun D σ H ⟨H0, B, G, ρ, S, bs, ok, e, sr, w⟩ => by
    unfold evSs at w
    exact w G H σ e ok sr
theorem s_cons {st : Stmt} {rest : List Stmt} {x : S1} {y : Ss} (h1 : PS X st (tS Y W (evS kin C x))) (h2 : PSs X rest (tS Y W (evSs kin C y))) : PSs X (st :: rest) (tS Y W (evSs kin C (.cons x y))) :=
  (pss_cons h1 h2).imp fun D σ H ⟨H0, B, G, ρ, S, bs, ok, e, sr, w⟩ => by
    unfold evSs at w
    refine ⟨H0, B, G, ρ, S, bs, ok, e, sr, wpM_mono (wpM_bind.mp w) (fun o S1 w1 => ?_) fun _ _ z => z⟩
    cases o with
    | nx ρ1 => exact fun G1 H1 σ1 e1 ok1 sr1 => ⟨H0, B, G1, ρ1, S1, bs, ok1, e1, sr1, w1⟩
    | brk ρ1 => exact w1
    | cont ρ1 => exact w1
    | ret d => exact w1
    | exc x ρ1 => exact w1
end
end RM
end
section
set_option Elab.async false
set_option linter.all false
set_option maxRecDepth 100000
set_option autoImplicit false
/-! statements: loops, raise, try -/
namespace RM
open PySem PySem.Spec PyProof.Rows L2
section
variable {Y : Tx} {k : Nat} {C : Orc} {g : Cfg} {gt : Gt} {X : Cx} {W : WX} {kin : Kin} {look : Bool} {G : Gh} {H H0 : Hp} {B : Gh → Hp → Prop} {σ : L2.St} {ρ : Fe} {S : Sto} {D : Ends} {r : Cfg → Cp}

theorem t_for {p : List Nat} {it : I} {b : Ss} (h : tS Y W (evS kin C (.frl p it b)) D σ H) : tFor (tI Y W false (evI kin C it)) (tG Y p) (tS Y W (evSs kin C b)) D σ H := by
  have e : evS kin C (.frl p it b) = fun ρ => exO (evI kin C it ρ) ρ fun xs => forM (fun x ρ => (do
      let ρ1 ← M.op (asgP p x ρ)
      evSs kin C b ρ1)) xs ρ := by funext ρ; conv => { lhs; unfold evS }
  rw [e] at h
  obtain ⟨H0, B, G, ρ, S, bs, ok, b0, sr, w⟩ := h
  refine ⟨H0, G, ρ, S, ok, sr, wpM_mono (exO_wp w) (fun xs S1 w1 G1 H1 J e1 ok1 yk => ?_) fun x S1 q => exc_re bs b0 ok sr q⟩
  have bs1 : Bs Y H0 (fun G H => B G H ∧ Kp G1 H1 G H) := bs.since
  generalize hf : (fun x ρ => (do
      let ρ1 ← M.op (asgP p x ρ)
      evSs kin C b ρ1) : RM.D → Fe → M Out) = f at w1
  refine ⟨fun i m σ H => m = xs.length - i ∧ i ≤ xs.length ∧ ∃ G ρ S, GOk Y G H S ∧ (B G H ∧ Kp G1 H1 G H) ∧ SR Y H0 G H σ ρ ∧ wpM (forM f (xs.drop i) ρ) S (OutQ Y H0 B D W) RN,
    ⟨xs.length, by simp, Nat.zero_le _, G1, ρ, S1, ok1, ⟨bs.ext b0 ok e1, Kp.refl⟩, sr.ext e1 ok, w1⟩, ?_⟩
  rintro i m σ2 H2 ⟨rfl, hle, G2, ρ2, S2, ok2, b2, sr2, w2⟩
  by_cases hlt : i < xs.length
  · obtain ⟨hgo, hyl⟩ := yk.go i G2 H2 S2 hlt b2.2 ok2
    refine .inr ⟨hgo, fun σ' H' => ∃ m', m' < xs.length - i ∧ m' = xs.length - (i + 1) ∧ i + 1 ≤ xs.length ∧ ∃ G ρ S, GOk Y G H' S ∧ (B G H' ∧ Kp G1 H1 G H') ∧ SR Y H0 G H' σ' ρ ∧ wpM (forM f (xs.drop (i + 1)) ρ) S (OutQ Y H0 B D W) RN, fun σ' H' h => h, fun x H3 y => ?_⟩
    obtain ⟨d, hd, e3, ok3, r3⟩ := hyl x H3 y
    have hdrop : xs.drop i = d :: xs.drop (i + 1) := by
      rw [List.drop_eq_getElem_cons hlt]
      rw [List.getElem?_eq_getElem hlt] at hd
      rw [Option.some.inj hd]
    rw [hdrop] at w2
    unfold forM at w2
    rw [← hf] at w2
    have w2 := wpM_bind.mp (wpM_bind.mp w2)
    obtain ⟨ρ3, hρ, w3⟩ := wpM_op.mp w2
    rw [hf] at w3
    refine ⟨H0, G2, ρ2, S2, d, ρ3, ok3, sr2.ext e3 ok2, r3, hρ, fun σ3 sr3 _ => ?_⟩
    refine ⟨H0, _, G2, ρ3, S2, bs1, ok3, bs1.ext b2 ok2 e3, sr3, wpM_mono w3 (fun o S4 w4 => ?_) fun _ _ z => z⟩
    cases o with
    | nx ρ4 => exact fun G4 H4 σ4 b4 ok4 sr4 => ⟨_, by omega, rfl, hlt, G4, ρ4, S4, ok4, b4, sr4, w4⟩
    | cont ρ4 => exact fun G4 H4 σ4 b4 ok4 sr4 => ⟨_, by omega, rfl, hlt, G4, ρ4, S4, ok4, b4, sr4, w4⟩
    | brk ρ4 => exact fun G4 H4 σ4 b4 ok4 sr4 => w4 G4 H4 σ4 b4.1 ok4 sr4
    | ret d => exact fun G4 H4 v b4 ok4 r4 => w4 G4 H4 v b4.1 ok4 r4
    | exc x ρ4 => exact fun G4 H4 cls dx σ4 b4 ok4 rx sr4 => w4 G4 H4 cls dx σ4 b4.1 ok4 rx sr4
  · have hi : i = xs.length := by omega
    subst hi
    rw [List.drop_length] at w2
    exact .inl ⟨yk.stop _ G2 H2 S2 (Nat.le_refl _) b2.2 ok2, w2 G2 H2 σ2 b2.1 ok2 sr2⟩
theorem s_for (s : Sok kin gt Y k C g X W) (hh : g.hot = false) {tg iter : Expr} {body : List Stmt} {p : List Nat} {it : I} {b : Ss} {pos : Pos} (hi : PI X tg iter (tI Y W false (evI kin C it))) (hg : PG X tg (tG Y p)) (hb : PSs X body (tS Y W (evSs kin C b))) (hs : isSet iter = false) :
    PS X (.For tg iter body [] pos) (tS Y W (evS kin C (.frl p it b))) :=
  (ps_for (s.po hh) (s.o.ox.calm hh) hi hg hb (folded_plain hs _)).imp fun D σ H h => t_for h

theorem t_whl {q : Q} {b : Ss} (h : tS Y W (evS kin C (.whl q b)) D σ H) : tWhile (tQ Y W (evT kin C q)) (tS Y W (evSs kin C b)) D σ H := by
  have e : evS kin C (.whl q b) = fun ρ => whlM (fun ρ => evT kin C q ρ) (fun ρ => evSs kin C b ρ) whlMost ρ := by funext ρ; conv => { lhs; unfold evS }
  rw [e] at h
  obtain ⟨H0, B, G, ρ, S, bs, ok, b0, sr, w⟩ := h
  generalize whlMost = n at w
  refine ⟨fun m σ H => ∃ G ρ S, GOk Y G H S ∧ B G H ∧ SR Y H0 G H σ ρ ∧ wpM (whlM (fun ρ => evT kin C q ρ) (fun ρ => evSs kin C b ρ) m ρ) S (OutQ Y H0 B D W) RN, ⟨n, G, ρ, S, ok, b0, sr, w⟩, ?_⟩
  rintro m σ2 H2 ⟨G2, ρ2, S2, ok2, b2, sr2, w2⟩
  cases m with
  | zero => exact w2.elim
  | succ m =>
    unfold whlM at w2
    refine ⟨H0, G2, ρ2, S2, ok2, sr2, wpM_mono (exO_wp w2) (fun c S3 w3 G3 H3 e3 ok3 => ?_) fun x S1 q => exc_re bs b2 ok2 sr2 q⟩
    have b3 := bs.ext b2 ok2 e3
    have sr3 := sr2.ext e3 ok2
    cases c with
    | false => exact w3 G3 H3 σ2 b3 ok3 sr3
    | true =>
      simp only [if_true] at w3 ⊢
      refine ⟨fun σ' H' => ∃ m', m' < m + 1 ∧ ∃ G ρ S, GOk Y G H' S ∧ B G H' ∧ SR Y H0 G H' σ' ρ ∧ wpM (whlM (fun ρ => evT kin C q ρ) (fun ρ => evSs kin C b ρ) m' ρ) S (OutQ Y H0 B D W) RN, fun σ' H' h => h, ?_⟩
      refine ⟨H0, B, G3, ρ2, S3, bs, ok3, b3, sr3, wpM_mono (wpM_bind.mp w3) (fun o S4 w4 => ?_) fun _ _ z => z⟩
      cases o with
      | nx ρ4 => exact fun G4 H4 σ4 b4 ok4 sr4 => ⟨m, Nat.lt_succ_self _, G4, ρ4, S4, ok4, b4, sr4, w4⟩
      | cont ρ4 => exact fun G4 H4 σ4 b4 ok4 sr4 => ⟨m, Nat.lt_succ_self _, G4, ρ4, S4, ok4, b4, sr4, w4⟩
      | brk ρ4 => exact w4
      | ret d => exact w4
      | exc x ρ4 => exact w4
theorem s_whl (s : Sok kin gt Y k C g X W) (hh : g.hot = false) {c : Expr} {body : List Stmt} {q : Q} {b : Ss} {pos : Pos} (hc : PT X c (tQ Y W (evT kin C q))) (hb : PSs X body (tS Y W (evSs kin C b))) : PS X (.While c body [] pos) (tS Y W (evS kin C (.whl q b))) :=
  (ps_while (s.po hh) hc hb).imp fun D σ H h => t_whl h

/-! ### raise -/
/-- C(v) for a class of exceptions: its own dict holds f -/
def tMkx (Cx : Addr) (f : Str) (te : TE) : L2.St → Hp → XK → Prop := fun σ H Q => te σ H fun v H1 => ∀ p, H1 p = none → Q (.ref Cx) (some p) (upd H1 p (.xd [(f, v)]))
/-- the classes of exceptions may be made -/
def MkOk (kin : Kin) (gt : Gt) (Y : Tx) (X : Cx) : Prop := ∀ (x c f : Str) (Ca : Addr) (e : Expr) (te : TE) (p p2 : Pos), gt.lookup x = some (.cls c) → kin.ini c = some f → Y.cls c = some Ca → Gl X x → X.mg x = some (.ref Ca) → okName x = true → isStarred e = false → PE X e te →
  PMk X (.Call (.Name x p) [e] [] p2) (tMkx Ca f te)
theorem t_rse {c : Str} {e : E} {f : Str} {Ca : Addr} (hf : kin.ini c = some f) (hc : Y.cls c = some Ca) (h : tS Y W (evS kin C (.rse c e)) D σ H) : tMkx Ca f (tE Y W (RD Y) (evE kin C e)) σ H fun cls d H' => W cls d σ H' := by
  have eq : evS kin C (.rse c e) = fun ρ => exO (evE kin C e ρ) ρ fun d => (match kin.ini c with
    | some f => pure (.exc (.exc c [(f, d)]) ρ)
    | none => M.fail) := by funext ρ; conv => { lhs; unfold evS }; try rfl
  rw [eq] at h
  refine t_exO h fun H0 B G1 H1 ρ S1 v d bs b1 ok1 sr1 r1 w p np => ?_
  rw [hf] at w
  have w : OutQ Y H0 B D W (.exc (.exc c [(f, d)]) ρ) S1 := w
  have e1 : Ext G1 H1 G1 (upd H1 p (.xd [(f, v)])) := Ext.new ok1 np
  exact w G1 _ (.ref Ca) (some p) σ (bs.ext b1 ok1 e1) (ok1.new np) ⟨c, Ca, _, p, _, rfl, hc, rfl, rfl, upd_same, fun z => ok1.muT p z np, .cons (r1.ext e1 ok1) .nil⟩ (sr1.ext e1 ok1)
theorem s_rse (s : Sok kin gt Y k C g X W) (mk : MkOk kin gt Y X) (hh : g.hot = false) {x c f : Str} {e : Expr} {y : E} {p p2 pos : Pos} (hg : g.glo gt x = some (.cls c)) (hf : kin.ini c = some f) (hx : okName x = true) (hs : isStarred e = false) (he : PE X e (tE Y W (RD Y) (evE kin C y))) :
    PS X (.Raise (some (.Call (.Name x p) [e] [] p2)) none pos) (tS Y W (evS kin C (.rse c y))) := by
  obtain ⟨hgl, Ca, hm, hc⟩ := glo_ok s.o hg
  have hl : gt.lookup x = some (.cls c) := by
    unfold Cfg.glo at hg
    split at hg
    · exact hg
    · cases hg
  exact (ps_raise (s.o.ox.calm hh) s.o.tk (mk x c f Ca e _ p p2 hl hf hc hgl hm hx hs he)).imp fun D σ H h => t_rse hf hc h
end
end RM
end
section
set_option Elab.async false
set_option linter.all false
set_option maxRecDepth 100000
set_option autoImplicit false
/-! try: any clauses, each with a name or without -/
namespace RM
open PySem PySem.Spec PyProof.Rows L2

/-- a clause: its class, its name's slot, what its suite does -/
structure Cl where
  c : Value
  nm : Option Nat
  ts : Addr → Value → Option Addr → TS
def goneD (D : Ends) : Option Nat → Ends
  | none => D
  | some i => { nx := fun σ H => D.nx (σ.set i none) H, rt := D.rt, bk := fun σ H => D.bk (σ.set i none) H, ct := fun σ H => D.ct (σ.set i none) H }
def nameS (σ : L2.St) (a : Addr) : Option Nat → L2.St
  | none => σ
  | some i => σ.set i (some (.ref a))
/-- what the clauses wish of an exception -/
def wCl (K : PySem.W.Frag) (Wout : WX) (D : Ends) : List Cl → WX
  | [] => Wout
  | q :: r => fun cls d σ H => ∃ b, PySem.W.exmOne K cls q.c = some b ∧ (b = true → ∀ a, H a = none → q.ts a cls d (goneD D q.nm) (nameS σ a q.nm) H) ∧ (b = false → wCl K Wout D r cls d σ H)
/-- a clause's name and its slot -/
def NmOk (X : Cx) : Option Str → Option Nat → Prop
  | none, none => True
  | some n, some i => X.N[i]? = some n ∧ X.env.kindOf n = some .local
  | _, _ => False
inductive ClOk (X : Cx) : List ExceptHandler → List Cl → Prop
  | nil : ClOk X [] []
  | cons {x : Str} {nm : Option Str} {q : Cl} {b₀ : Stmt} {suite : List Stmt} {np pos : Pos} {hs : List ExceptHandler} {l : List Cl} (hc : Names X x q.c) (hn : NmOk X nm q.nm)
      (hsu : ∀ (a : Addr) (oe : Obj) (cls : Value) (d : Option Addr) (pn : List (Addr × Obj)), Zc cls d oe → (∃ vs, oe.data = .fields vs) → PSs (X.suite a ((a, oe) :: pn)) (b₀ :: suite) (q.ts a cls d)) (r : ClOk X hs l) :
      ClOk X (.ExceptHandler (some (.Name x np)) nm (b₀ :: suite) pos :: hs) (q :: l)

/-- an exception stands ahead of the clauses -/
structure Hand (X : Cx) (pins : List (Addr × Obj)) (a : Addr) (cls : Value) (d : Option Addr) (σ : L2.St) (H : Hp) (B : Heap) (sI s : Shared) : Prop where
  inv : Inv X pins σ H sI
  nb : ∀ b o, sI.heap.get? b = some o → b ∉ frs X.stack → B.get? b = some o
  up : sI.heap.UpToSlots s.heap
  fly : HandSPX.FlyingZ B (X.env :: X.outer) a (Zc cls d) s.heap
  na : H a = none
  os : s.os = sI.os
  ag : AllBare s.gens

section
variable {X : Cx} {pins : List (Addr × Obj)} {a : Addr} {cls : Value} {d : Option Addr} {σ : L2.St} {H : Hp} {B : Heap} {sI s : Shared}
theorem Hand.now (h : Hand X pins a cls d σ H B sI s) : Inv X pins σ H s := h.inv.landed h.nb h.fly.1 h.up h.os h.ag
theorem Hand.obj (h : Hand X pins a cls d σ H B sI s) (hf : X.env.frame = some X.env.locals) : ∃ oe vs, s.heap.get? a = some oe ∧ Zc cls d oe ∧ oe.data = .fields vs ∧ a ≠ X.env.locals ∧ a ∉ X.fs := by
  obtain ⟨oe, vs, he, hz, hd⟩ := h.fly.there
  have no : a ∉ frs (X.env :: X.outer) := fun hm => by
    obtain ⟨_, o', e', hnf⟩ := h.fly.2.2.1.mem hm
    rw [he] at e'; cases e'
    exact hnf _ hd
  refine ⟨oe, vs, he, hz, hd, fun z => no (List.mem_filterMap.mpr ⟨X.env, List.mem_cons_self, by rw [hf, z]⟩), fun hm => ?_⟩
  obtain ⟨e, hq, q⟩ := List.mem_filterMap.mp hm
  exact no (List.mem_filterMap.mpr ⟨e, List.mem_cons_of_mem _ hq, q⟩)
/-- its flight is set anew: still ahead of the clauses -/
theorem Hand.again {Q : Unit → Shared → Prop} {A : Around} {E : Value → Shared → Prop} {M : Model} (h : Hand X pins a cls d σ H B sI s) (hQ : ∀ h', Hand X pins a cls d σ H B sI { s with heap := h' } → Q () { s with heap := h' }) : wpAny M A (setFlight (.ref a) none) Q E s :=
  HandSPX.lands_againZ h.fly fun h' fl up => hQ h' ⟨h.inv, h.nb, h.up.trans up, fl, h.na, h.os, h.ag⟩
/-- no clause takes it -/
theorem Hand.pass {D : Ends} {Wout : WX} {pl : String} (h : Hand X pins a cls d σ H B sI s) (hs : X.stack = X.env :: X.outer) (hf : X.env.frame = some X.env.locals) (tk : Takes X Wout) (w : Wout cls d σ H) :
    wpAny (model X.prog X.w) X.A (handleBy (.ref a) X.env []) (SP X pins D) X.xe s := by
  refine wpAny_handleBy_nil ?_
  obtain ⟨k1, k2, k3, oe, vs, T, oT, ts', he, hz, hd, h1, hr⟩ := id h.fly
  unfold PySem.passOn
  refine wpAny_bind (wpAny_field he hd h1 ?_)
  rw [if_neg (show ¬ ((Value.ref T == Value.none) = true) from by simp)]
  have fin : wpAny (model X.prog X.w) X.A (setFlight (.ref a) X.env.frame) (fun _ s4 => wpAny (model X.prog X.w) X.A (throw (.ref a) : Sem Flow) (SP X pins D) X.xe s4) X.xe s := by
    rw [hf]
    refine HandSPX.setFlight_upZ h.fly fun h4 hh4 up4 => wpAny_throw (tk _ _ ?_)
    exact ⟨a, B, sI, pins, σ, H, cls, d, rfl, h.inv, h.nb, h.up.trans up4, .inr (.inr (by rw [hs]; exact hh4)), h.na, h.os, h.ag, w⟩
  first
    | exact wpAny_bind (wpAny_pure (wpAny_bind fin))
    | exact wpAny_bind fin
/-- what a suite leaves, behind it -/
theorem suite_end {oe : Obj} {D : Ends} {f : Flow} {s6 : Shared} (ok : X.Ok) (h : SP (X.suite a ((a, oe) :: (X.pn ++ pins))) [] D f s6) : SP X pins D f s6 := by
  cases f with
  | ret u => obtain ⟨v, σ6, H6, S6, r6, q6⟩ := h; exact ⟨v, σ6, H6, S6.unsuite ok, r6, q6⟩
  | next => obtain ⟨σ6, H6, S6, q6⟩ := h; exact ⟨σ6, H6, S6.unsuite ok, q6⟩
  | brk => obtain ⟨σ6, H6, S6, q6⟩ := h; exact ⟨σ6, H6, S6.unsuite ok, q6⟩
  | cont => obtain ⟨σ6, H6, S6, q6⟩ := h; exact ⟨σ6, H6, S6.unsuite ok, q6⟩
theorem gone_end {i : Nat} {n : Str} {D : Ends} {f : Flow} {s6 : Shared} {pos : Pos} {M : Model} {A : Around} {E : Value → Shared → Prop} (hN : X.N.Nodup) (hi : X.N[i]? = some n) (hl : X.env.kindOf n = some .local) (h : SP X pins (goneD D (some i)) f s6) :
    wpAny M A (do bindName X.env n .none; unbindBehindTheSuite X.env n pos) (fun _ s7 => SP X pins D f s7) E s6 := by
  cases f with
  | ret u => obtain ⟨v, σ6, H6, S6, r6, q6⟩ := h; exact gone_ok S6 hN hi hl fun s7 J => ⟨v, _, H6, J, r6, q6⟩
  | next => obtain ⟨σ6, H6, S6, q6⟩ := h; exact gone_ok S6 hN hi hl fun s7 J => ⟨_, H6, J, q6⟩
  | brk => obtain ⟨σ6, H6, S6, q6⟩ := h; exact gone_ok S6 hN hi hl fun s7 J => ⟨_, H6, J, q6⟩
  | cont => obtain ⟨σ6, H6, S6, q6⟩ := h; exact gone_ok S6 hN hi hl fun s7 J => ⟨_, H6, J, q6⟩
/-- the clauses from the left -/
theorem Hand.go {D : Ends} {Wout : WX} (hs : X.stack = X.env :: X.outer) (hf : X.env.frame = some X.env.locals) (hN : X.N.Nodup) (tk : Takes X Wout) : ∀ {hds : List ExceptHandler} {l : List Cl} {s : Shared}, ClOk X hds l → Hand X pins a cls d σ H B sI s → wCl X.K Wout D l cls d σ H →
    wpAny (model X.prog X.w) X.A (handleBy (.ref a) X.env hds) (SP X pins D) X.xe s := by
  intro hds l s hk
  induction hk generalizing s with
  | nil => exact fun h w => h.pass (pl := "") hs hf tk w
  | @cons x nm q b₀ suite np pos hds2 l2 hc hn hsu r ih =>
    intro h ⟨b, hb, hyes, hno⟩
    obtain ⟨oe, vs, he, hz, hd, nL, nF⟩ := h.obj hf
    have S3 := h.now.suite he hd h.na nL nF
    have LT : PySem.W.Looks (model X.prog X.w) s.heap (typeOf (.ref a)) cls := fun A Q E s k q => wpAny_typeOf_ref (k _ _ he) (by rw [hz.1]; exact q)
    have LM := PySem.W.exm_one (M := model X.prog X.w) h.now.kIn LT hb
    have look : ∀ {Q : Value → Shared → Prop} {E : Value → Shared → Prop}, Q q.c s → wpAny (model X.prog X.w) (X.A.mark (some (.ref a))) (eval (.Name x np) X.env) Q E s := fun {Q E} qq => by
      obtain ⟨hg, hdbg, hm | ⟨hm, hv, hnn⟩⟩ := hc
      · exact ld_glob (X := X.suite a ((a, oe) :: (X.pn ++ pins))) S3 hg hm qq hdbg
      · exact ld_blt (X := X.suite a ((a, oe) :: (X.pn ++ pins))) S3 hg hm hv qq hnn hdbg
    refine wpAny_handleBy_cons (codeAny_handlers_test (look (LM.here ?_))) (by intro z; cases z)
    cases b with
    | false => exact ih h (hno rfl)
    | true =>
      have run := hyes rfl a h.na
      obtain ⟨c, qn, ts⟩ := q
      cases nm with
      | none =>
        cases qn with
        | some i => exact hn.elim
        | none =>
          refine codeAny_handlers_suite (h.again fun h' g => ?_)
          obtain ⟨oe', vs', he', hz', hd', nL', nF'⟩ := g.obj hf
          exact wpAny_mono ((hsu a oe' cls d (X.pn ++ pins) hz' ⟨_, hd'⟩).run [] _ _ H _ (g.now.suite he' hd' g.na nL' nF') run) (fun f s6 hsp => suite_end g.inv.ok hsp) (fun _ _ z => False.elim z)
      | some n =>
        cases qn with
        | none => exact hn.elim
        | some i =>
          obtain ⟨hi, hl⟩ := hn
          refine codeAny_handlers_suite_as (h.again fun h' g => ?_)
          obtain ⟨oe', vs', he', hz', hd', nL', nF'⟩ := g.obj hf
          refine store_ok (X := X.suite a ((a, oe') :: (X.pn ++ pins))) (v := .ref a) (g.now.suite he' hd' g.na nL' nF') hN hi (.inl hl) rfl (fun s5 S5 => ?_) (.inr hl)
          exact wpAny_mono ((hsu a oe' cls d (X.pn ++ pins) hz' ⟨_, hd'⟩).run [] s5 _ H _ S5 run) (fun f s6 hsp => gone_end hN hi hl (suite_end g.inv.ok hsp)) (fun _ _ z => False.elim z)
end
/-- try: body, except ..: suites -/
theorem ps_tryG {X : Cx} {body : List Stmt} {h₀ : ExceptHandler} {hds : List ExceptHandler} {l : List Cl} {pos : Pos} {tb : WX → TS} {Wout : WX} (hs : X.stack = X.env :: X.outer) (hf : X.env.frame = some X.env.locals) (hN : X.N.Nodup) (tk : Takes X Wout)
    (hb : ∀ (W : WX) (pn : List (Addr × Obj)) (xe : Value → Shared → Prop), Takes (X.tr pn xe) W → PassesOwn (model X.prog X.w) X.A X.env xe → PSs (X.tr pn xe) body (tb W))
    (hh : ClOk X (h₀ :: hds) l) : PS X (.Try body (h₀ :: hds) [] [] pos) (fun D σ H => tb (wCl X.K Wout D l) D σ H) := by
  refine ⟨fun pins s σ H D I h => ?_⟩
  have ok := I.ok
  have hfr : X.A.frames = some (X.env :: X.outer) := by rw [ok.frames, hs]
  refine wpAny_Try_except (wpAny_mono ((hb (wCl X.K Wout D l) (X.pn ++ pins) _ (fun u s' xx => ?_) PassesOwn.looking).run [] s σ H D (I.toTry _) h) (fun f s1 hsp => ?_) (fun e s1 he => he))
  · obtain ⟨a, B, sI, pins', σ', H', cls, d, rfl, J', nb, up, sky, na, os, ag, w⟩ := xx
    have J : Inv X pins σ' H' sI := J'.ofTry ok
    have sky' : Sky B (X.env :: X.outer) a (Zc cls d) X.env.locals s'.heap := by rw [← hs]; exact sky
    exact Sky.land Zc.steady hfr hf sky' fun h3 fl3 up3 => Hand.go hs hf hN tk hh ⟨J, nb, up.trans up3, fl3, na, os, ag⟩ w
  · cases f with
    | next => obtain ⟨σ', H', J', q⟩ := hsp; exact wpAny_execs_nil ⟨σ', H', J'.ofTry ok, q⟩
    | brk => obtain ⟨σ', H', J', q⟩ := hsp; exact ⟨σ', H', J'.ofTry ok, q⟩
    | cont => obtain ⟨σ', H', J', q⟩ := hsp; exact ⟨σ', H', J'.ofTry ok, q⟩
    | ret u => obtain ⟨v, σ', H', J', r, q⟩ := hsp; exact ⟨v, σ', H', J'.ofTry ok, r, q⟩
end RM
end
section
set_option Elab.async false
set_option linter.all false
set_option maxRecDepth 100000
set_option autoImplicit false
/-! try: by the evaluator -/
namespace RM
open PySem PySem.Spec PyProof.Rows L2

def Tx.hot (Y : Tx) (a : Addr) (cls : Value) (d : Option Addr) : Tx := { Y with cur := some (a, cls, d) }
section
variable {Y Y' : Tx} {G : Gh} {H H0 : Hp} {B : Gh → Hp → Prop} {σ : L2.St} {ρ : Fe} {S : Sto}
theorem GOk.tx (ok : GOk Y G H S) : GOk Y' G H S := ⟨ok.fzmu, ok.fzT, ok.muT, ok.solid, fun z h => ok.dr z h, ok.dr0⟩
theorem RX.tx {cls : Value} {dx : Option Addr} {x : D} (hK : Y'.K = Y.K) (hc : Y'.cls = Y.cls) (r : RX Y G H cls dx x) : RX Y' G H cls dx x := by
  obtain ⟨c, C, fs, p, fv, e1, e2, e3, e4, h, m, r⟩ := r
  exact ⟨c, C, fs, p, fv, e1, by rw [hc]; exact e2, e3, e4, h, m, r.tx hK hc⟩
theorem Bs.tx (b : Bs Y H0 B) : Bs Y' H0 B := ⟨fun x ok e => b.ext x ok.tx e, b.wr, b.fz, b.th⟩
/-- into a suite -/
theorem SR.into (hK : Y'.K = Y.K) (hc : Y'.cls = Y.cls) (hz : Y'.slf = Y.slf) (hn : Y.cur = none) (sr : SR Y H0 G H σ ρ) : SR Y' H0 G H σ ρ := by
  refine ⟨sr.len, fun i s h => ?_, sr.apart⟩
  have q := sr.slot i s h
  cases s with
  | emp => trivial
  | val d => obtain ⟨v, h, r⟩ := q; exact ⟨v, h, r.tx hK hc⟩
  | exn x => obtain ⟨a, cls, dx, _, c, _⟩ := q; rw [hn] at c; cases c
  | own xs =>
    obtain ⟨a, vs, hs, ha, f, m, h00, r⟩ := q
    exact ⟨a, vs, hs, ha, f, m, h00, r.tx hK hc⟩
  | new c fs =>
    obtain ⟨a, C, dx, fv, hs, hC, ha, f, m, h00, r⟩ := q
    exact ⟨a, C, dx, fv, hs, ⟨by rw [hc]; exact hC.1, by rw [hz]; exact hC.2⟩, ha, f, m, h00, r.tx hK hc⟩
/-- out of it -/
theorem SR.out (hK : Y'.K = Y.K) (hc : Y'.cls = Y.cls) (hz : Y'.slf = Y.slf) (sr : SR Y H0 G H σ ρ) : SR Y' H0 G H σ (ρ.map Slot.noEx) := by
  have own : ∀ {i : Nat} {xs : List D}, (ρ.map Slot.noEx)[i]? = some (.own xs) → ρ[i]? = some (.own xs) := fun {i xs} h => by
    rw [List.getElem?_map, Option.map_eq_some_iff] at h
    obtain ⟨s, h1, h2⟩ := h
    cases s <;> first | (cases h2; exact h1) | cases h2
  refine ⟨by rw [List.length_map]; exact sr.len, fun i s h => ?_, fun i j xs ys a h1 h2 h3 h4 => sr.apart i j xs ys a (own h1) (own h2) h3 h4⟩
  rw [List.getElem?_map, Option.map_eq_some_iff] at h
  obtain ⟨s0, h1, rfl⟩ := h
  have q := sr.slot i s0 h1
  cases s0 with
  | emp => trivial
  | exn x => trivial
  | val d => obtain ⟨v, h, r⟩ := q; exact ⟨v, h, r.tx hK hc⟩
  | own xs =>
    obtain ⟨a, vs, hs, ha, f, m, h00, r⟩ := q
    exact ⟨a, vs, hs, ha, f, m, h00, r.tx hK hc⟩
  | new c fs =>
    obtain ⟨a, C, dx, fv, hs, hC, ha, f, m, h00, r⟩ := q
    exact ⟨a, C, dx, fv, hs, ⟨by rw [hc]; exact hC.1, by rw [hz]; exact hC.2⟩, ha, f, m, h00, r.tx hK hc⟩
end

section
variable {Y : Tx} {G : Gh} {H H0 : Hp} {B : Gh → Hp → Prop} {σ : L2.St} {ρ : Fe} {S : Sto} {a : Addr} {cls : Value} {d : Option Addr}
theorem RD.unhot {v : V} {x : D} (r : RD (Y.hot a cls d) G H v x) : RD Y G H v x := RD.tx (Y := Y.hot a cls d) (Y' := Y) rfl rfl r
theorem RD.hot {v : V} {x : D} (r : RD Y G H v x) : RD (Y.hot a cls d) G H v x := RD.tx (Y := Y) (Y' := Y.hot a cls d) rfl rfl r
theorem RX.hot {c : Value} {dx : Option Addr} {x : D} (r : RX Y G H c dx x) : RX (Y.hot a cls d) G H c dx x := RX.tx (Y := Y) (Y' := Y.hot a cls d) rfl rfl r
theorem SR.hot (hn : Y.cur = none) (sr : SR Y H0 G H σ ρ) : SR (Y.hot a cls d) H0 G H σ ρ := SR.into (Y := Y) (Y' := Y.hot a cls d) rfl rfl rfl hn sr
theorem SR.unhot (sr : SR (Y.hot a cls d) H0 G H σ ρ) : SR Y H0 G H σ (ρ.map Slot.noEx) := SR.out (Y := Y.hot a cls d) (Y' := Y) rfl rfl rfl sr
end
section
variable {Y : Tx} {k : Nat} {C : Orc} {g : Cfg} {gt : Gt} {X : Cx} {W : WX} {kin : Kin} {look : Bool} {G : Gh} {H H0 : Hp} {B : Gh → Hp → Prop} {σ : L2.St} {ρ : Fe} {S : Sto} {D : Ends} {r : Cfg → Cp}

/-- the suite's end told of the try's -/
theorem suite_out {a : Addr} {cls : Value} {d : Option Addr} {i : Option Nat} {o : Out} {S1 : Sto} (w : wpM (match o with
    | .exc _ _ => M.fail
    | o => pure (o.gone i)) S1 (OutQ Y H0 B D W) RN) : OutQ (Y.hot a cls d) H0 B (goneD D i) WF o S1 := by
  have put : ∀ {G : Gh} {H : Hp} {σ : L2.St} {ρ : Fe} {i : Nat}, SR (Y.hot a cls d) H0 G H σ ρ → SR Y H0 G H (σ.set i none) ((ρ.map Slot.noEx).set i .emp) := fun {G H σ ρ i} sr =>
    (sr.unhot).put (s := .emp) i trivial fun xs e => nomatch e
  cases o with
  | exc x ρ => exact w.elim
  | ret d =>
    cases i with
    | none => exact fun G H v b ok r => w G H v b ok.tx r.unhot
    | some i => exact fun G H v b ok r => w G H v b ok.tx r.unhot
  | nx ρ =>
    cases i with
    | none => exact fun G H σ b ok sr => w G H σ b ok.tx sr.unhot
    | some i => exact fun G H σ b ok sr => w G H _ b ok.tx (put sr)
  | brk ρ =>
    cases i with
    | none => exact fun G H σ b ok sr => w G H σ b ok.tx sr.unhot
    | some i => exact fun G H σ b ok sr => w G H _ b ok.tx (put sr)
  | cont ρ =>
    cases i with
    | none => exact fun G H σ b ok sr => w G H σ b ok.tx sr.unhot
    | some i => exact fun G H σ b ok sr => w G H _ b ok.tx (put sr)
/-- a clause of the text -/
structure ClS (Y : Tx) (kin : Kin) (C : Orc) (q : Cl) (c : Str) (i : Option Nat) (b : Ss) : Prop where
  nm : q.nm = i
  cl : ∃ Ca, Y.cls c = some Ca ∧ q.c = .ref Ca
  ts : ∀ a cls d, q.ts a cls d = tS (Y.hot a cls d) WF (evSs kin C b)
inductive HsS (Y : Tx) (kin : Kin) (C : Orc) : List Cl → Hs → Prop
  | nil : HsS Y kin C [] .nil
  | cons {q : Cl} {l : List Cl} {c : Str} {i : Option Nat} {b : Ss} {r : Hs} : ClS Y kin C q c i b → HsS Y kin C l r → HsS Y kin C (q :: l) (.cons c i b r)
theorem t_hs (hK : X.K = Y.K) (kok : KinOk kin Y) (hn : Y.cur = none) (bs : Bs Y H0 B) {cls : Value} {dx : Option Addr} {x : RM.D} : ∀ {l : List Cl} {hs : Hs} {ρ : Fe} {S1 : Sto}, HsS Y kin C l hs → B G H → GOk Y G H S1 → RX Y G H cls dx x → SR Y H0 G H σ ρ → wpM (evHs kin C hs x ρ) S1 (OutQ Y H0 B D W) RN → wCl X.K W D l cls dx σ H
  | _, _, ρ, S1, .nil, b, ok, rx, sr, w => by
    unfold evHs at w
    exact w G H cls dx σ b ok rx sr
  | q :: l, .cons c i b r, ρ, S1, .cons cs hr, bb, ok, rx, sr, w => by
    unfold evHs at w
    obtain ⟨c0, C0, fs, p, fv, rfl, hc0, rfl, rfl, hp, hm, rf⟩ := id rx
    have w : wpM (if kin.isX c0 && kin.isX c then
        if (kin.par c0).contains c then do
          let o ← evSs kin C b (exnF i (.exc c0 fs) ρ)
          match o with
          | .exc _ _ => M.fail
          | o => pure (o.gone i)
        else evHs kin C r (.exc c0 fs) ρ
      else M.fail) S1 (OutQ Y H0 B D W) RN := w
    split at w
    · rename_i hx
      rw [Bool.and_eq_true] at hx
      obtain ⟨Ca, hca, hqc⟩ := cs.cl
      refine ⟨(kin.par c0).contains c, by rw [hqc, hK]; exact kok.exm c0 c C0 Ca hx.1 hx.2 hc0 hca, fun hb a na => ?_, fun hb => ?_⟩
      · rw [if_pos hb] at w
        rw [cs.ts, cs.nm]
        have sr' : SR (Y.hot a (.ref C0) (some p)) H0 G H σ ρ := sr.hot hn
        refine ⟨H0, B, G, exnF i (.exc c0 fs) ρ, S1, bs.tx, ok.tx, bb, ?_, wpM_mono (wpM_bind.mp w) (fun o S2 w2 => suite_out w2) fun _ _ z => z⟩
        cases i with
        | none => exact sr'
        | some i => exact sr'.put (s := .exn (.exc c0 fs)) i ⟨a, .ref C0, some p, rfl, rfl, rx.hot⟩ fun xs e => nomatch e
      · rw [if_neg (by rw [hb]; exact Bool.false_ne_true)] at w
        exact t_hs hK kok hn bs hr bb ok rx sr w
    · exact w.elim
theorem t_try {b : Ss} {hs : Hs} {l : List Cl} (hK : X.K = Y.K) (kok : KinOk kin Y) (hn : Y.cur = none) (hl : HsS Y kin C l hs) (h : tS Y W (evS kin C (.tr b hs)) D σ H) : tS Y (wCl X.K W D l) (evSs kin C b) D σ H := by
  obtain ⟨H0, B, G, ρ, S, bs, ok, b0, sr, w⟩ := h
  unfold evS at w
  refine ⟨H0, B, G, ρ, S, bs, ok, b0, sr, wpM_mono (wpM_bind.mp w) (fun o S1 w1 => ?_) fun _ _ z => z⟩
  cases o with
  | nx ρ1 => exact w1
  | brk ρ1 => exact w1
  | cont ρ1 => exact w1
  | ret d => exact w1
  | exc x ρ1 => exact fun G1 H1 cls dx σ1 b1 ok1 rx sr1 => t_hs hK kok hn bs hl b1 ok1 rx sr1 w1
/-- the contexts of a try -/
theorem tr_sok (s : Sok kin gt Y k C g X W) (hh : g.hot = false) {W' : WX} {pn : List (Addr × Obj)} {xe : Value → Shared → Prop} (tk : Takes (X.tr pn xe) W') (po : PassesOwn (model X.prog X.w) X.A X.env xe) : Sok kin gt Y k C g (X.tr pn xe) W' where
  o := ⟨⟨s.o.ox.nd, s.o.ox.calm, s.o.ox.hK, s.o.ox.room, s.o.ox.units, s.o.ox.gd, s.o.ox.sys⟩, s.o.N, s.o.sc, s.o.fn, tk, s.o.cold, s.o.kok, fun a cls dx e => by (rw [s.o.cold hh] at e; cases e), s.o.gt⟩
  po := fun _ => po
  stk := s.stk
  frm := s.frm
  kd := s.kd
def Cfg.suite (g : Cfg) (i : Option Nat) : Cfg := { g with hot := true, exn := i }
theorem KinOk.tx {Y' : Tx} (hK : Y'.K = Y.K) (hc : Y'.cls = Y.cls) (o : KinOk kin Y) : KinOk kin Y' := by
  obtain ⟨K, cls, cur⟩ := Y
  obtain ⟨K', cls', cur'⟩ := Y'
  cases hK
  cases hc
  exact ⟨o.fld, o.xfl, o.exm, o.isT, o.isI, o.isC, o.isK⟩
theorem suite_sok (s : Sok kin gt Y k C g X W) {i : Option Nat} {a : Addr} {oe : Obj} {cls : Value} {d : Option Addr} {pn : List (Addr × Obj)} (hz : Zc cls d oe) (hd : ∃ vs, oe.data = .fields vs) : Sok kin gt (Y.hot a cls d) k C (g.suite i) (X.suite a ((a, oe) :: pn)) WF where
  o := ⟨⟨s.o.ox.nd, (fun h => nomatch h), s.o.ox.hK, (fun h => nomatch h), s.o.ox.units, s.o.ox.gd, s.o.ox.sys⟩, s.o.N, s.o.sc, s.o.fn, takes_none5, (fun h => nomatch h), KinOk.tx (Y := Y) (Y' := Y.hot a cls d) rfl rfl s.o.kok, fun a' cls' dx' e => by
      cases e
      exact ⟨oe, List.mem_cons_self, hz, hd⟩, fun x v h => by
      have q := s.o.gt x v h
      cases v with
      | cst d =>
        obtain ⟨v, u, h1, h2, h3⟩ := q
        exact ⟨v, u, h1, h2, fun G H => (h3 G H).hot⟩
      | fn n => exact fun z => nomatch z
      | blt => exact q
      | cls c => exact q
      | cfn c n => exact ⟨q.1, fun z => nomatch z⟩
      | mth c m n => exact fun z => nomatch z⟩
  po := fun h => nomatch h
  stk := s.stk
  frm := s.frm
  kd := s.kd
end
end RM
end
section
set_option Elab.async false
set_option linter.all false
set_option maxRecDepth 100000
set_option autoImplicit false
/-! statements: a new list or a value; a list that is lent; several at once, new lists among them -/
namespace RM
open PySem PySem.Spec PyProof.Rows L2

/-- frozen for a while -/
def Gh.fzs (G : Gh) (A : Addr → Prop) : Gh := { G with Fz := fun b => G.Fz b ∨ A b }
/-- thawed again -/
def Gh.thw (G : Gh) (A : Addr → Prop) : Gh := { G with Fz := fun b => G.Fz b ∧ ¬ A b }

section
variable {Y : Tx} {k : Nat} {C : Orc} {g : Cfg} {gt : Gt} {X : Cx} {W : WX} {kin : Kin} {look : Bool} {G G' : Gh} {H H' H0 : Hp} {B : Gh → Hp → Prop} {σ : L2.St} {ρ : Fe} {S S' : Sto} {D : Ends} {r : Cfg → Cp} {A : Addr → Prop}

/-- own lists, frozen: which ones -/
theorem SR.frzA (bs : Bs Y H0 B) : ∀ (is : List Nat) {G : Gh} {ρ : Fe}, B G H → GOk Y G H S → SR Y H0 G H σ ρ → ∃ A : Addr → Prop, (∀ a, A a → ¬ G.Fz a ∧ ∃ vs, H a = some (.lst vs)) ∧ GOk Y (G.fzs A) H S ∧ B (G.fzs A) H ∧ SR Y H0 (G.fzs A) H σ (frzE is ρ)
  | [], G, ρ, e, ok, sr => by
    have eg : G.fzs (fun _ => False) = G := by
      unfold Gh.fzs
      simp
    refine ⟨fun _ => False, fun _ z => z.elim, ?_⟩
    rw [eg]
    exact ⟨ok, e, sr⟩
  | i :: is, G, ρ, e, ok, sr => by
    unfold frzE
    rw [List.foldl_cons]
    split
    · rename_i xs h
      obtain ⟨a, vs, hs, ha, nf, nm, h0, rs⟩ := sr.slot i _ h
      have ne : H a ≠ none := by rw [ha]; exact fun z => nomatch z
      have ok1 : GOk Y (G.fz a) H S := ok.freeze ne nm
      have sr1 : SR Y H0 (G.fz a) H σ (ρ.set i (.val (.lst xs))) := sr.frz1at i h hs
      obtain ⟨A, hA, ok2, b2, sr2⟩ := SR.frzA bs is (bs.fz e h0) ok1 sr1
      refine ⟨fun b => A b ∨ b = a, fun b hb => ?_, ?_⟩
      · rcases hb with hb | rfl
        · obtain ⟨h1, h2⟩ := hA b hb
          exact ⟨fun z => h1 (.inl z), h2⟩
        · exact ⟨nf, vs, ha⟩
      · have eg : G.fzs (fun b => A b ∨ b = a) = (G.fz a).fzs A := by
          unfold Gh.fzs Gh.fz
          congr 1
          funext b
          simp only [eq_iff_iff]
          constructor
          · rintro (h | h | h)
            · exact .inl (.inl h)
            · exact .inr h
            · exact .inl (.inr h)
          · rintro ((h | h) | h)
            · exact .inl h
            · exact .inr (.inr h)
            · exact .inr (.inl h)
        rw [eg]
        exact ⟨ok2, b2, sr2⟩
    · exact SR.frzA bs is e ok sr
theorem thw_ext (ok : GOk Y G H S) (hA : ∀ a, A a → ¬ G.Fz a ∧ ∃ vs, H a = some (.lst vs)) (e : Ext (G.fzs A) H G' H') : Ext G H (G'.thw A) H' where
  fz := fun a h => ⟨e.fz a (.inl h), fun z => (hA a z).1 h⟩
  mu := e.mu
  dr := e.dr
  keep := e.keep
  there := e.there
  nfz := fun a h => (e.nfz a h.1).elim (fun h1 => h1.elim .inl fun z => absurd z h.2) .inr
  nmu := e.nmu
  ndr := e.ndr
theorem thw_ok (ok : GOk Y G H S) (hA : ∀ a, A a → ¬ G.Fz a ∧ ∃ vs, H a = some (.lst vs)) (e : Ext (G.fzs A) H G' H') (ok' : GOk Y G' H' S') : GOk Y (G'.thw A) H' S' where
  fzmu := fun a h => ok'.fzmu a h.1
  fzT := fun a h => ok'.fzT a h.1
  muT := ok'.muT
  solid := ok'.solid
  dr := fun z hz => by
    obtain ⟨l, ns, ms, n, h1, h2, h3, h4, h5, h6, r⟩ := ok'.dr z hz
    refine ⟨l, ns, ms, n, h1, h2, h3, h4, h5, ⟨h6, fun za => ?_⟩, r⟩
    obtain ⟨nf, vs, hv⟩ := hA _ za
    rcases e.ndr z hz with q | q
    · obtain ⟨_, _, _, _, _, _, _, _, _, q6, _⟩ := ok.dr z q
      exact nf q6
    · rw [q] at hv; cases hv
  dr0 := ok'.dr0
mutual
theorem RD.thaw (h : ∀ a, A a → ∃ vs, H a = some (.lst vs)) : ∀ {v : V} {d : RM.D}, d.noLst = true → RD Y G H v d → RD Y (G.thw A) H v d
  | _, _, _, .non => .non
  | _, _, _, .bl b => .bl b
  | _, _, _, .int i => .int i
  | _, _, _, .str x => .str x
  | _, _, n, .tup q r => .tup q (RDs.thaw h (by simpa [RM.D.noLst] using n) r)
  | _, _, _, .scr q => .scr q
  | _, _, n, .lst _ _ _ => by simp [RM.D.noLst] at n
  | _, _, _, .dct0 q f => .dct0 q ⟨f, fun z => by
      obtain ⟨vs, hv⟩ := h _ z
      rw [q] at hv; cases hv⟩
  | _, _, n, .ins q f c r => .ins q ⟨f, fun z => by
      obtain ⟨vs, hv⟩ := h _ z
      rw [q] at hv; cases hv⟩ c (RDf.thaw h (by simpa [RM.D.noLst] using n) r)
  | _, _, _, .drw q => .drw q
theorem RDs.thaw (h : ∀ a, A a → ∃ vs, H a = some (.lst vs)) : ∀ {vs : List V} {ds : List RM.D}, RM.D.noLsts ds = true → RDs Y G H vs ds → RDs Y (G.thw A) H vs ds
  | _, _, _, .nil => .nil
  | _, _, n, .cons q r => by
    rw [RM.D.noLsts, Bool.and_eq_true] at n
    exact .cons (RD.thaw h n.1 q) (RDs.thaw h n.2 r)
theorem RDf.thaw (h : ∀ a, A a → ∃ vs, H a = some (.lst vs)) : ∀ {vs : List (Str × V)} {ds : List (Str × RM.D)}, RM.D.noLstf ds = true → RDf Y G H vs ds → RDf Y (G.thw A) H vs ds
  | _, _, _, .nil => .nil
  | _, _, n, .cons q r => by
    rw [RM.D.noLstf, Bool.and_eq_true] at n
    exact .cons (RD.thaw h n.1 q) (RDf.thaw h n.2 r)
end

/-! ### x = a if q else b: a new list or a value -/
theorem evS_ifo (i : Nat) (q : RM.Q) (a b : E) : evS kin C (.ifo i q a b) = fun ρ => exO (evT kin C q ρ) ρ fun c => if c then exO (evE kin C a ρ) ρ fun d => (match d with
      | .lst xs => pure (.nx (ρ.set i (.own xs)))
      | _ => M.fail) else exO (evE kin C b ρ) ρ fun d => pure (.nx (setS ρ i d)) := by funext ρ; conv => { lhs; unfold evS }; try rfl
theorem t_ifo {i : Nat} {q : RM.Q} {a b : E} (h : tS Y W (evS kin C (.ifo i q a b)) D σ H) : tAsg (tIf (tQ Y W (evT kin C q)) (tN Y W (evE kin C a)) (tE Y W (RD Y) (evE kin C b))) (gName i) D σ H := by
  rw [evS_ifo] at h
  refine t_exQ h fun H0 B G1 H1 ρ S1 c bs e1 ok1 sr1 w => ?_
  cases c with
  | true =>
    have w : wpM (exO (evE kin C a ρ) ρ fun d => (match d with
      | .lst xs => pure (.nx (ρ.set i (.own xs)))
      | _ => M.fail : M Out)) S1 (OutQ Y H0 B D W) RN := w
    have h2 : tS Y W (evS kin C (.own i a)) D σ H1 := by
      rw [evS_own]
      exact ⟨H0, B, G1, ρ, S1, bs, ok1, e1, sr1, w⟩
    exact t_own h2
  | false =>
    have w : wpM (exO (evE kin C b ρ) ρ fun d => pure (.nx (setS ρ i d))) S1 (OutQ Y H0 B D W) RN := w
    have h2 : tS Y W (evS kin C (.asg [i] b)) D σ H1 := by
      rw [evS_asg]
      exact ⟨H0, B, G1, ρ, S1, bs, ok1, e1, sr1, w⟩
    exact t_asg1 h2

/-! ### x = a + b, x an own list's name -/
theorem evS_owd (i : Nat) (e : E) : evS kin C (.owd i e) = fun ρ => exO (evE kin C e ρ) ρ fun d => pure (.nx (owdF i d ρ)) := by funext ρ; conv => { lhs; unfold evS }
theorem t_owd {i : Nat} {e : E} (h : tS Y W (evS kin C (.owd i e)) D σ H) : tAsg (tNV Y W (evE kin C e)) (gName i) D σ H := by
  rw [evS_owd] at h
  obtain ⟨H0, B, G, ρ, S, bs, ok, b, sr, w⟩ := h
  refine ⟨H0, G, ρ, S, ok, sr, wpM_mono (exO_wp w) (fun d S1 w1 G1 H1 v e1 ok1 r1 => ?_) fun x S1 q => exc_re bs b ok sr q⟩
  have w1 : OutQ Y H0 B D W (.nx (owdF i d ρ)) S1 := w1
  rcases r1 with ⟨a, vs, ds, rfl, rfl, na, ha, nf, nm, rs⟩ | ⟨nl, r⟩
  · refine w1 G1 H1 _ (bs.ext b ok e1) ok1 ((sr.ext e1 ok).own ok1 (fun j c ho hc z => ?_) ?_ ha nf nm rs)
    · obtain ⟨xs, ho⟩ := ho
      obtain ⟨a', vs', h1, h2, _⟩ := sr.slot j _ ho
      rw [hc] at h1
      cases h1
      rw [z, na] at h2; cases h2
    · cases q : H0 a with
      | none => rfl
      | some u => exact absurd na (bs.th b (by rw [q]; exact fun z => nomatch z))
  · have eo : owdF i d ρ = setS ρ i d := by
      cases d <;> first | rfl | exact absurd rfl (nl _)
    rw [eo] at w1
    exact w1 G1 H1 _ (bs.ext b ok e1) ok1 ((sr.ext e1 ok).set i r)

/-! ### lent -/
theorem evS_brw (is p : List Nat) (e : E) : evS kin C (.brw is p e) = fun ρ => exO (evE kin C e (frzE is ρ)) (frzE is ρ) fun d => (do
    let ρ' ← M.op (asgP p d (if d.noLst then ρ else frzE is ρ))
    pure (.nx ρ')) := by funext ρ; conv => { lhs; unfold evS }
theorem t_brw {is : List Nat} {i : Nat} {e : E} (h : tS Y W (evS kin C (.brw is [i] e)) D σ H) : tAsg (tE Y W (RD Y) (evE kin C e)) (gName i) D σ H := by
  rw [evS_brw] at h
  obtain ⟨H0, B, G, ρ, S, bs, ok, b, sr, w⟩ := h
  obtain ⟨A, hA, ok1, b1, sr1⟩ := SR.frzA bs is b ok sr
  refine ⟨H0, G.fzs A, frzE is ρ, S, ok1, sr1, wpM_mono (exO_wp w) (fun d S1 w1 G2 H2 v e2 ok2 r2 => ?_) fun x S1 q => exc_re bs b1 ok1 sr1 q⟩
  obtain ⟨ρ', hρ, q⟩ := wpM_op.mp (wpM_bind.mp w1)
  cases hρ
  cases hn : d.noLst with
  | true =>
    rw [hn] at q
    have x := thw_ext ok hA e2
    have hk : ∀ a, A a → ∃ vs, H2 a = some (.lst vs) := fun a ha => by
      obtain ⟨nf, vs, hv⟩ := hA a ha
      exact ⟨vs, e2.keep a _ hv (ok1.fzmu a (.inr ha))⟩
    exact q (G2.thw A) H2 _ (bs.ext b ok x) (thw_ok ok hA e2 ok2) ((sr.ext x ok).set i (r2.thaw hk hn))
  | false =>
    rw [hn] at q
    exact q G2 H2 _ (bs.ext b1 ok1 e2) ok2 ((sr1.ext e2 ok1).set i r2)

/-! ### several at once, new lists among them -/
def newsOf : List Bool → List V → List Addr
  | true :: nw, .ref a :: vs => a :: newsOf nw vs
  | _ :: nw, _ :: vs => newsOf nw vs
  | _, _ => []
inductive MxR (Y : Tx) (Hb : Hp) (G : Gh) (H : Hp) : List Bool → List V → List RM.D → Prop
  | nil : MxR Y Hb G H [] [] []
  | val {nw : List Bool} {v : V} {d : RM.D} {vs : List V} {ds : List RM.D} : RD Y G H v d → MxR Y Hb G H nw vs ds → MxR Y Hb G H (false :: nw) (v :: vs) (d :: ds)
  | new {nw : List Bool} {a : Addr} {ws : List V} {xs : List RM.D} {vs : List V} {ds : List RM.D} : Hb a = none → H a = some (.lst ws) → ¬ G.Fz a → ¬ G.Mu a → RDs Y G H ws xs → a ∉ newsOf nw vs → MxR Y Hb G H nw vs ds → MxR Y Hb G H (true :: nw) (.ref a :: vs) (.lst xs :: ds)
theorem MxR.base {Hb Hb' : Hp} (h : ∀ b, Hb b = none → Hb' b = none) : ∀ {nw : List Bool} {vs : List V} {ds : List RM.D}, MxR Y Hb G H nw vs ds → MxR Y Hb' G H nw vs ds
  | _, _, _, .nil => .nil
  | _, _, _, .val q r => .val q (MxR.base h r)
  | _, _, _, .new q1 q2 q3 q4 q5 q6 r => .new (h _ q1) q2 q3 q4 q5 q6 (MxR.base h r)
theorem MxR.news {Hb : Hp} : ∀ {nw : List Bool} {vs : List V} {ds : List RM.D}, MxR Y Hb G H nw vs ds → ∀ a ∈ newsOf nw vs, Hb a = none
  | _, _, _, .nil, a, h => by cases h
  | _, _, _, .val (v := v) q r, a, h => MxR.news r a (by cases v <;> exact h)
  | _, _, _, .new q1 _ _ _ _ _ r, a, h => by
    rcases List.mem_cons.mp h with rfl | h
    · exact q1
    · exact MxR.news r a h
def tMx (Y : Tx) (W : WX) (nw : List Bool) (m : Fe → M (List RM.D)) : TA := fun σ H Q => ∃ H0 G ρ S, GOk Y G H S ∧ SR Y H0 G H σ ρ ∧ wpM (m ρ) S (fun ds S' => ∀ G' H' vs, Ext G H G' H' → GOk Y G' H' S' → MxR Y H G' H' nw vs ds → Q vs H') (RE Y G H σ W)
/-- a new list is still new -/
theorem there_of (e : Ext G H G' H') : ∀ b, H' b = none → H b = none := fun b h => by
  cases q : H b with
  | none => rfl
  | some u => exact absurd h (e.there b (by rw [q]; exact fun z => nomatch z))
theorem s_mx (sn : Snd kin gt r) (o : Cok kin gt Y k C g X W) : ∀ (es : List Expr) (nw : List Bool) (i : Es), es.all (fun a => !isStarred a) = true → es.length = nw.length → (∀ p ∈ nw.zip es, p.1 = true → isNwE gt g p.2 = true) → esW ((r g).e false) ((r g).e true) es = some i → PA X es (tMx Y W nw (evEs kin C i))
  | [], nw, i, _, hl, _, h => by
    cases h
    cases nw with
    | cons _ _ => cases hl
    | nil =>
      refine pa_nil.imp fun σ H Q h => ?_
      obtain ⟨H0, G, ρ, S, ok, sr, w⟩ := h
      unfold evEs at w
      exact w G H [] Ext.refl ok .nil
  | e :: es, nw, i, hs, hl, hn, h => by
    cases nw with
    | nil => cases hl
    | cons b nw =>
      rw [List.all_cons, Bool.and_eq_true] at hs
      have hs1 : isStarred e = false := by simpa using hs.1
      rw [esW_cons hs1] at h
      simp only [Option.bind_eq_bind, Option.bind_eq_some_iff, Option.some.injEq] at h
      obtain ⟨y, hy, j, hj, rfl⟩ := h
      have ih := s_mx sn o es nw j hs.2 (by simpa using hl) (fun p hp => hn p (List.mem_cons_of_mem _ hp)) hj
      cases b with
      | false =>
        refine (pa_cons (sn.e g false e y X Y k C W hy o) ih (starEach_plain hs1)).imp fun σ H Q h => ?_
        obtain ⟨H0, G, ρ, S, ok, sr, w⟩ := h
        unfold evEs at w
        refine ⟨H0, G, ρ, S, ok, sr, wpM_mono (wpM_bind.mp w) (fun d S1 w1 G1 H1 v e1 ok1 r1 => ?_) fun _ _ h => h⟩
        refine ⟨H0, G1, ρ, S1, ok1, sr.ext e1 ok, wpM_mono (wpM_bind.mp w1) (fun ds S2 w2 G2 H2 vs e2 ok2 m2 => ?_) fun x S h => h.trans e1⟩
        exact w2 G2 H2 (v :: vs) (e1.trans e2) ok2 (.val (RD.ext r1 e2 ok1) (m2.base (there_of e1)))
      | true =>
        have hx := hn (true, e) (by rw [List.zip_cons_cons]; exact List.mem_cons_self) rfl
        refine (pa_cons (sn.n g e y X Y k C W hx hy o) ih (starEach_plain hs1)).imp fun σ H Q h => ?_
        obtain ⟨H0, G, ρ, S, ok, sr, w⟩ := h
        unfold evEs at w
        refine ⟨H0, G, ρ, S, ok, sr, wpM_mono (wpM_bind.mp w) (fun d S1 w1 G1 H1 a ws xs ed e1 ok1 na ha nf nm rs => ?_) fun _ _ h => h⟩
        subst ed
        refine ⟨H0, G1, ρ, S1, ok1, sr.ext e1 ok, wpM_mono (wpM_bind.mp w1) (fun ds S2 w2 G2 H2 vs e2 ok2 m2 => ?_) fun x S h => h.trans e1⟩
        have no : H1 a = none → False := fun z => by rw [ha] at z; cases z
        exact w2 G2 H2 (.ref a :: vs) (e1.trans e2) ok2 (.new na (e2.keep a _ ha nm) (fun z => (e2.nfz a z).elim nf no) (fun z => (e2.nmu a z).elim nm no) (rs.ext e2 ok1) (fun z => no (m2.news a z)) (m2.base (there_of e1)))
theorem evS_paro (is : List Nat) (nw : List Bool) (es : Es) : evS kin C (.paro is nw es) = fun ρ => exO (evEs kin C es ρ) ρ fun ds => (do
    let ρ' ← M.op (paroF is nw ds ρ)
    pure (.nx ρ')) := by funext ρ; conv => { lhs; unfold evS }
theorem SR.paro {Hb : Hp} (ok : GOk Y G H S) (h0 : ∀ b, Hb b = none → H0 b = none) : ∀ {is : List Nat} {nw : List Bool} {vs : List V} {ds : List RM.D} {σ : L2.St} {ρ ρ' : Fe}, SR Y H0 G H σ ρ → MxR Y Hb G H nw vs ds → (∀ (i : Nat) b, (∃ xs, ρ[i]? = some (.own xs)) → σ[i]? = some (some (.ref b)) → b ∉ newsOf nw vs) → paroF is nw ds ρ = some ρ' →
    is.length = nw.length ∧ SR Y H0 G H ((is.zip vs).foldl (fun σ q => σ.set q.1 (some q.2)) σ) ρ'
  | [], _, _, _, σ, ρ, ρ', sr, .nil, _, e => by cases e; exact ⟨rfl, sr⟩
  | [], _, _, _, σ, ρ, ρ', sr, .val _ _, _, e => by simp [paroF] at e
  | [], _, _, _, σ, ρ, ρ', sr, .new _ _ _ _ _ _ _, _, e => by simp [paroF] at e
  | i :: is, _, _, _, σ, ρ, ρ', sr, .nil, _, e => by simp [paroF] at e
  | i :: is, _, _, _, σ, ρ, ρ', sr, .val (v := v) q r, ap, e => by
    have e : paroF is _ _ (setS ρ i _) = some ρ' := e
    have hnew : ∀ nw vs, newsOf (false :: nw) (v :: vs) = newsOf nw vs := fun nw vs => by cases v <;> rfl
    obtain ⟨hl, sr2⟩ := SR.paro ok h0 (sr.set i q) r (fun j b ho hb => by
      rw [hnew] at ap
      by_cases z : i = j
      · subst z
        obtain ⟨xs, ho⟩ := ho
        unfold setS at ho
        have hlt : i < ρ.length := by
          have := (List.getElem?_eq_some_iff.mp ho).1
          simpa using this
        rw [List.getElem?_set_self hlt] at ho
        cases ho
      · obtain ⟨xs, ho⟩ := ho
        unfold setS at ho
        rw [List.getElem?_set_ne z] at ho hb
        exact ap j b ⟨xs, ho⟩ hb) e
    exact ⟨congrArg (· + 1) hl, by rw [List.zip_cons_cons]; exact sr2⟩
  | i :: is, _, _, _, σ, ρ, ρ', sr, .new (a := a) q1 q2 q3 q4 q5 q6 r, ap, e => by
    have e : paroF is _ _ (ρ.set i (.own _)) = some ρ' := e
    have sr1 := sr.own (i := i) ok (fun j b ho hb z => ap j b ho hb (by rw [z]; exact List.mem_cons_self)) (h0 a q1) q2 q3 q4 q5
    obtain ⟨hl, sr2⟩ := SR.paro ok h0 sr1 r (fun j b ho hb z => by
      by_cases y : i = j
      · subst y
        obtain ⟨xs, ho⟩ := ho
        have hlt : i < σ.length := by
          have := (List.getElem?_eq_some_iff.mp hb).1
          simpa using this
        rw [List.getElem?_set_self hlt] at hb
        cases hb
        exact q6 z
      · obtain ⟨xs, ho⟩ := ho
        rw [List.getElem?_set_ne y] at ho hb
        exact ap j b ⟨xs, ho⟩ hb (List.mem_cons_of_mem _ z)) e
    exact ⟨congrArg (· + 1) hl, by rw [List.zip_cons_cons]; exact sr2⟩
theorem MxR.length {Hb : Hp} : ∀ {nw : List Bool} {vs : List V} {ds : List RM.D}, MxR Y Hb G H nw vs ds → nw.length = vs.length
  | _, _, _, .nil => rfl
  | _, _, _, .val _ r => congrArg (· + 1) (MxR.length r)
  | _, _, _, .new _ _ _ _ _ _ r => congrArg (· + 1) (MxR.length r)
theorem t_paroX {is : List Nat} {nw : List Bool} {es : Es} {Q : List V → Hp → Prop} (h : tS Y W (evS kin C (.paro is nw es)) D σ H) (hQ : ∀ vs H1, is.length = vs.length → D.nx ((is.zip vs).foldl (fun σ q => σ.set q.1 (some q.2)) σ) H1 → Q vs H1) : tMx Y W nw (evEs kin C es) σ H Q := by
  rw [evS_paro] at h
  obtain ⟨H0, B, G, ρ, S, bs, ok, b, sr, w⟩ := h
  refine ⟨H0, G, ρ, S, ok, sr, wpM_mono (exO_wp w) (fun ds S1 w1 G1 H1 vs e1 ok1 m1 => ?_) fun x S1 q => exc_re bs b ok sr q⟩
  obtain ⟨ρ', hρ, q⟩ := wpM_op.mp (wpM_bind.mp w1)
  obtain ⟨hl, sr2⟩ := SR.paro (Hb := H) ok1 (fun c hc => by
    cases q : H0 c with
    | none => rfl
    | some u => exact absurd hc (bs.th b (by rw [q]; exact fun z => nomatch z))) (sr.ext e1 ok) m1 (fun j c ho hc z => by
    obtain ⟨xs, ho⟩ := ho
    obtain ⟨a', vs', h1, h2, _⟩ := sr.slot j _ ho
    rw [hc] at h1
    cases h1
    rw [m1.news c z] at h2; cases h2) hρ
  exact hQ vs H1 (hl.trans m1.length) (q G1 H1 _ (bs.ext b ok e1) ok1 sr2)
theorem t_paro2 {i j : Nat} {nw : List Bool} {es : Es} (h : tS Y W (evS kin C (.paro [i, j] nw es)) D σ H) : tPar i j (tMx Y W nw (evEs kin C es)) D σ H :=
  t_paroX h fun vs H1 hl q => by
    match vs, hl with
    | [v, w], _ => exact ⟨v, w, rfl, q⟩
theorem t_paro3 {i j l : Nat} {nw : List Bool} {es : Es} (h : tS Y W (evS kin C (.paro [i, j, l] nw es)) D σ H) : tPar3 i j l (tMx Y W nw (evEs kin C es)) D σ H :=
  t_paroX h fun vs H1 hl q => by
    match vs, hl with
    | [u, v, w], _ => exact ⟨u, v, w, rfl, q⟩
end
end RM
end
section
set_option Elab.async false
set_option linter.all false
set_option maxRecDepth 100000
set_option autoImplicit false
/-! from the text's statements to the small language; sound -/
namespace RM
open PySem PySem.Spec PyProof.Rows L2

/-! ### slots read by value -/
mutual
def rdE : E → List Nat
  | .c _ => []
  | .v i => [i]
  | .b _ => []
  | .tup es => rdEs es
  | .lst es => rdEs es
  | .bin _ a b => rdE a ++ rdE b
  | .cmp _ a b => rdE a ++ rdE b
  | .chain _ _ a b c => rdE a ++ rdE b ++ rdE c
  | .neg a => rdE a
  | .not a => rdE a
  | .and a b => rdE a ++ rdE b
  | .or a b => rdE a ++ rdE b
  | .ife t a b => rdQ t ++ rdE a ++ rdE b
  | .app _ es => rdEs es
  | .bi _ es => rdEs es
  | .fld o _ => rdE o
  | .xfl _ _ => []
  | .sub o i => rdE o ++ rdE i
  | .sl o l h => rdE o ++ rdE l ++ rdE h
  | .bnd a => rdE a
  | .bk o l h => rdE o ++ rdE l ++ rdE h
  | .dct0 => []
  | .mth o _ _ es => rdE o ++ rdEs es
  | .idx a b => rdE a ++ rdE b
  | .lc _ _ it t e => rdI it ++ rdQ t ++ rdE e
  | .lc2 _ _ it t _ it2 t2 e => rdI it ++ rdQ t ++ rdI it2 ++ rdQ t2 ++ rdE e
def rdEs : Es → List Nat
  | .nil => []
  | .cons e r => rdE e ++ rdEs r
  | .star e r => rdE e ++ rdEs r
def rdI : I → List Nat
  | .seq e => rdE e
  | .rng1 a => rdE a
  | .rng2 a b => rdE a ++ rdE b
  | .enum e => rdE e
  | .zip a b => rdE a ++ rdE b
def rdQ : Q → List Nat
  | .yes => []
  | .val e => rdE e
  | .not t => rdQ t
  | .and t u => rdQ t ++ rdQ u
  | .or t u => rdQ t ++ rdQ u
end
def fzW (g : Cfg) (is : List Nat) (s : S1) : S1 := match (is.filter fun i => g.own.contains i).eraseDups with
  | [] => s
  | l => .fz l s
def isComp : Expr → Bool
  | .ListComp .. => true
  | .SetComp .. => true
  | .DictComp .. => true
  | _ => false
def isTup2 (e : Expr) : Bool := isTupE e || isComp e
def nodupB : List Nat → Bool
  | [] => true
  | i :: r => !r.contains i && nodupB r

section
variable (kin : Kin) (gt : Gt) (r : Cfg → Cp) (rec : Cfg → List Stmt → Option Ss)
/-- one name -/
def isMk (g : Cfg) : Expr → Bool
  | .Call (.Name f _) _ [] _ => (match g.glo gt f with
    | some (.cfn _ _) => true
    | _ => false)
  | _ => false
/-- x = a if t else b, x an own list's name, a a new list -/
def ifoC (g : Cfg) (i : Nat) : Expr → Option (Expr × Expr × Expr)
  | .IfExp t a b _ => if g.own.contains i && isNwE gt g a then some (t, a, b) else none
  | _ => none
def ownsOf (g : Cfg) (is : List Nat) : List Nat := (is.filter fun i => g.own.contains i).eraseDups
def asg1W (g : Cfg) (x : Str) (px : Pos) (e : Expr) : Option S1 := do
  let i ← g.tgt x
  match ifoC gt g i e with
  | some (t, a, b) => do
    let q ← (r g).q t
    let y ← (r g).e false a
    let z ← (r g).e false b
    some (fzW g (rdQ q ++ rdE y ++ rdE z) (.ifo i q y z))
  | none => do
    let y ← (r g).e false e
    let _ ← swE g x px e
    some (if isMk gt g e && !(ownsOf g (rdE y)).isEmpty then .brw (ownsOf g (rdE y)) [i] y else fzW g (rdE y) (if g.own.contains i && isNwE gt g e then .own i y else if g.own.contains i && isAddE e then .owd i y else .asg [i] y))
def newF (g : Cfg) (is : List Nat) (vs : List Expr) : List Bool := (is.zip vs).map fun p => g.own.contains p.1 && isNwE gt g p.2
def parW (g : Cfg) (ts vs : List Expr) : Option S1 := do
  let is ← tgts g ts
  let es ← esW ((r g).e false) ((r g).e true) vs
  if nodupB is && !g.hot && vs.all (fun a => !isStarred a) then
    if is.all (fun i => !g.own.contains i) then some (fzW g (rdEs es) (.par is es))
    else if (is.zip vs).all (fun p => !g.own.contains p.1 || isNwE gt g p.2) then some (fzW g (rdEs es) (.paro is (newF gt g is vs) es)) else none
  else none
def asgW (g : Cfg) (tg e : Expr) : Option S1 := do
  let p ← patW g tg
  let y ← (r g).e false e
  some (fzW g (rdE y) (.asg p y))
def nmW (g : Cfg) : Option Str → Option (Option Nat)
  | none => some none
  | some n => if g.sc.names.lookup n == some .local then (g.N.findIdx? (· == n)).map some else none
def hdsW (g : Cfg) : List ExceptHandler → Option Hs
  | [] => some .nil
  | .ExceptHandler (some (.Name x _)) nm (b :: suite) _ :: hs =>
    match g.glo gt x with
    | some (.cls c) => do
      let i ← nmW g nm
      let b ← rec (g.suite i) (b :: suite)
      let q ← hdsW g hs
      if okName x then some (.cons c i b q) else none
    | _ => none
  | _ => none
def stW (g : Cfg) (st : Stmt) : Option S1 :=
  match st with
  | .Assign [.Name x px] e _ => asg1W gt r g x px e
  | .Assign [.Tuple ts k1 p1] (.Tuple vs k2 p2) _ =>
    match swpC g ts vs with
    | some (some _) => if ts.length == vs.length && (ts.length == 2 || ts.length == 3) then parW gt r g ts vs else none
    | some none => asgW r g (.Tuple ts k1 p1) (.Tuple vs k2 p2)
    | none => none
  | .Assign [.Tuple ts k1 p1] e _ => if isTup2 e then none else asgW r g (.Tuple ts k1 p1) e
  | .Assign [.Attribute (.Name x _) f _] e _ => if isTup2 e then none else
    match g.loc x with
    | some i => do
      let y ← (r g).e false e
      if okName x then some (fzW g (rdE y) (.fst i f y)) else none
    | none => none
  | .Expr (.Call (.Attribute (.Name x _) "append" apos) [e] [] cpos) _ =>
    match g.loc x with
    | some i => do
      let y ← (r g).e false e
      if okName x && !isStarred e && apos.endLine == cpos.line then some (fzW g ((rdE y).filter (· != i)) (.app i y)) else none
    | none => none
  | .Expr e _ => if isComp e then none else do
    let y ← (r g).e false e
    some (fzW g (rdE y) (.ex y))
  | .Return (some e) _ => do
    let y ← (r g).e false e
    some (fzW g (rdE y) (.ret y))
  | .Return none _ => some .retn
  | .Pass _ => some .pass
  | .Break _ => some .brk
  | .Continue _ => some .cont
  | .If c a b _ => do
    let q ← (r g).q c
    let x ← rec g a
    let y ← rec g b
    some (fzW g (rdQ q) (.iff q x y))
  | .For tg iter body [] _ => if g.hot || isSet iter then none else do
    let p ← patW g tg
    let it ← (r g).i false iter
    let b ← rec g body
    if it.pairs && !isTupE tg then none else some (fzW g (rdI it) (.frl p it b))
  | .While c body [] _ => if g.hot then none else do
    let q ← (r g).q c
    let b ← rec g body
    some (.whl q b)
  | .Raise (some (.Call (.Name x _) [e] [] _)) none _ => if g.hot then none else
    match g.glo gt x with
    | some (.cls c) => match kin.ini c with
      | some _ => do
        let y ← (r g).e false e
        if okName x && !isStarred e then some (fzW g (rdE y) (.rse c y)) else none
      | none => none
    | _ => none
  | .Try body (h :: hs) [] [] _ => if g.hot then none else do
    let b ← rec g body
    let q ← hdsW gt rec g (h :: hs)
    some (.tr b q)
  | _ => none
end
def cpSs (kin : Kin) (gt : Gt) (r : Cfg → Cp) : Nat → Cfg → List Stmt → Option Ss
  | 0, _, _ => none
  | _ + 1, _, [] => some .nil
  | n + 1, g, st :: rest => do
    let a ← stW kin gt r (cpSs kin gt r n) g st
    let b ← cpSs kin gt r n g rest
    some (.cons a b)

section
variable {Y : Tx} {k : Nat} {C : Orc} {g : Cfg} {gt : Gt} {X : Cx} {W : WX} {kin : Kin} {r : Cfg → Cp}

/-- one law's world -/
structure Wd where
  P : Program
  w : World
  mg : Str → Option Value
  base : Heap
def AtW (V : Wd) (X : Cx) : Prop := X.prog = V.P ∧ X.w = V.w ∧ X.mg = V.mg ∧ X.base = V.base
/-- exceptions may be made wherever it is calm -/
def Sms (kin : Kin) (gt : Gt) (Y : Tx) (k : Nat) (C : Orc) (V : Wd) : Prop := ∀ (g : Cfg) (X : Cx) (W : WX), Sok kin gt Y k C g X W → AtW V X → g.hot = false → MkOk kin gt Y X
theorem Sms.hot {V : Wd} {a : Addr} {cls : Value} {d : Option Addr} : Sms kin gt (Y.hot a cls d) k C V := fun g X W s _ h => by
  have := s.o.cold h
  cases this
/-- what is to be shown of a list of statements -/
def Rok (kin : Kin) (gt : Gt) (rec : Cfg → List Stmt → Option Ss) : Prop := ∀ (g : Cfg) (X : Cx) (Y : Tx) (k : Nat) (C : Orc) (W : WX) (V : Wd) (sts : List Stmt) (b : Ss), rec g sts = some b → Sok kin gt Y k C g X W → AtW V X → Sms kin gt Y k C V → PSs X sts (tS Y W (evSs kin C b))

theorem ps_fzW {st : Stmt} {is : List Nat} {s : S1} (h : PS X st (tS Y W (evS kin C s))) : PS X st (tS Y W (evS kin C (fzW g is s))) := by
  unfold fzW
  split
  · exact h
  · exact PS.fz h
theorem nodup_of : ∀ {is : List Nat}, nodupB is = true → is.Nodup
  | [], _ => List.nodup_nil
  | i :: r, h => by
    unfold nodupB at h
    rw [Bool.and_eq_true] at h
    refine List.nodup_cons.mpr ⟨?_, nodup_of h.2⟩
    simpa using h.1
theorem sole_ok {tg e : Expr} {l : Nat} {env : Env} (h : isTup2 e = false) : swapsWithSole [tg] e l env = pure false := by
  show swapsWith e (some tg) l env = pure false
  unfold swapsWith
  cases e <;> first | rfl | (simp [isTup2, isTupE, isComp] at h; done)
theorem sole_at {tg e : Expr} {l : Nat} {env : Env} (h : isTup2 e = false) : swapsWith e (some tg) l env = pure false := sole_ok (tg := tg) (l := l) (env := env) h
theorem sole_tup {ts vs : List Expr} {k1 k2 : Nat} {p1 p2 : Pos} {l : Nat} {env : Env} : swapsWithSole [.Tuple ts k1 p1] (.Tuple vs k2 p2) l env = pure false := rfl
theorem drop_ok {e : Expr} {l : Nat} {env : Env} (h : isComp e = false) : swapsWith e none l env = pure false := by
  unfold swapsWith
  cases e <;> first | rfl | (simp [isComp] at h; done)
theorem swapped_ok {ts : List Expr} {k1 : Nat} {p1 : Pos} {e : Expr} {env : Env} (h : isTup2 e = false) : swappedStores [.Tuple ts k1 p1] e env = pure none := by
  unfold swappedStores
  cases e <;> first | rfl | (simp [isTup2, isTupE, isComp] at h; done)
theorem s_asg1W (sn : Snd kin gt r) (s : Sok kin gt Y k C g X W) {x : Str} {px pos : Pos} {e : Expr} {i : S1} (h : asg1W gt r g x px e = some i) : PS X (.Assign [.Name x px] e pos) (tS Y W (evS kin C i)) := by
  unfold asg1W at h
  simp only [Option.bind_eq_bind, Option.bind_eq_some_iff] at h
  obtain ⟨j, hj, h⟩ := h
  obtain ⟨h1, h2, h3⟩ := tgt_ok s.o hj
  split at h
  · rename_i t a b hif
    simp only [Option.bind_eq_some_iff, Option.some.injEq] at h
    obtain ⟨q, hq, y, hy, z, hz, rfl⟩ := h
    refine ps_fzW ?_
    unfold ifoC at hif
    split at hif
    · rename_i t' a' b' p'
      split at hif
      · rename_i c
        cases hif
        rw [Bool.and_eq_true] at c
        exact (ps_set s.o.ox.nd h1 h2 (pe_ifExp (sn.q g _ q X Y k C W hq s.o) (sn.n g _ y X Y k C W c.2 hy s.o) (sn.e g false _ z X Y k C W hz s.o)) (swE_ok (l := pos.line) (px := px) s (b := false) rfl) h3).imp fun D σ H h => t_ifo h
      · cases hif
    · cases hif
  rename_i hif0
  clear hif0
  simp only [Option.bind_eq_some_iff, Option.some.injEq] at h
  obtain ⟨y, hy, sw, hsw, rfl⟩ := h
  split
  · rename_i hmk
    have hs := swE_ok (l := pos.line) s hsw
    have hsw' : sw = false := by
      rw [Bool.and_eq_true] at hmk
      have hm := hmk.1
      unfold isMk at hm
      split at hm
      · cases hsw; rfl
      · cases hm
    subst hsw'
    exact (ps_set s.o.ox.nd h1 h2 (sn.e g false e y X Y k C W hy s.o) hs h3).imp fun D σ H h => t_brw h
  rename_i hno
  clear hno
  have hs := swE_ok (l := pos.line) s hsw
  refine ps_fzW ?_
  cases sw with
  | true =>
    -- a comprehension on the name's own line
    unfold swE at hsw
    split at hsw
    · rename_i elt gs scope p
      simp only [Option.some.injEq, Bool.and_eq_true, beq_iff_eq] at hsw
      have hl : X.env.scope.names.lookup x = some .local := by rw [s.o.sc]; exact hsw.1.1
      have key : PS X (.Assign [.Name x px] (.ListComp elt gs scope p) pos) (tAsg (tN Y W (evE kin C y)) (gName j)) := by
        have hy' : (r g).e false (.ListComp elt gs scope p) = some y := hy
        exact sn.l g elt gs scope p pos px x j y X Y k C W hy' s.o h1 hl hs
      split
      · exact key.imp fun D σ H h => t_own h
      · rw [if_neg (by simp [isAddE])]
        exact key.imp fun D σ H h => t_asgN h
    · cases hsw
    · cases hsw
    · cases hsw
  | false =>
    split
    · rename_i ho
      rw [Bool.and_eq_true] at ho
      have he : PE X e (tN Y W (evE kin C y)) := sn.n g e y X Y k C W ho.2 hy s.o
      exact (ps_set s.o.ox.nd h1 h2 he hs h3).imp fun D σ H h => t_own h
    · split
      · rename_i ho
        rw [Bool.and_eq_true] at ho
        exact (ps_set s.o.ox.nd h1 h2 (sn.a g e y X Y k C W ho.2 hy s.o) hs h3).imp fun D σ H h => t_owd h
      · exact (ps_set s.o.ox.nd h1 h2 (sn.e g false e y X Y k C W hy s.o) hs h3).imp fun D σ H h => t_asg1 h
/-- the names of swapped stores -/
def nmL (g : Cfg) (line : Nat) : Expr → Option Str
  | .Name id pos => if g.sc.names.lookup id == some .local && pos.line == line then some id else none
  | _ => none
theorem nmL_some {line : Nat} {e : Expr} {n : Str} (h : nmL g line e = some n) : ∃ p, e = .Name n p ∧ g.sc.names.lookup n = some .local := by
  unfold nmL at h
  split at h
  · split at h
    · rename_i c
      cases h
      exact ⟨_, rfl, beq_iff_eq.mp ((Bool.and_eq_true _ _).mp c).1⟩
    · cases h
  · cases h
theorem swpC_some {ts vs : List Expr} {names : List Str} (h : swpC g ts vs = some (some names)) : ts.filterMap (nmL g ((ts.head?.map (·.pos.line)).getD 0)) = names ∧ names.length = ts.length := by
  unfold swpC at h
  split at h
  · cases h
  split at h
  · cases h
  simp only at h
  split at h
  · cases h
  rename_i c3
  split at h
  · cases h
  split at h
  · cases h
  simp only [Bool.or_eq_true, bne_iff_ne, ne_eq, not_or, Decidable.not_not] at c3
  cases h
  have e : (fun e => match e with
      | .Name id pos => if g.sc.names.lookup id == some .local && pos.line == (ts.head?.map (·.pos.line)).getD 0 then some id else none
      | _ => none) = nmL g ((ts.head?.map (·.pos.line)).getD 0) := by
    funext e
    cases e <;> rfl
  exact ⟨by rw [← e]; try rfl, c3.1⟩
theorem fm_all {α β : Type} {f : α → Option β} : ∀ {l : List α}, (l.filterMap f).length = l.length → ∀ x ∈ l, ∃ y, f x = some y
  | [], _, x, hx => by cases hx
  | a :: l, h, x, hx => by
    rw [List.filterMap_cons] at h
    cases hf : f a with
    | none =>
      rw [hf] at h
      have := List.length_filterMap_le f l
      simp only [List.length_cons] at h
      omega
    | some b =>
      rw [hf] at h
      rcases List.mem_cons.mp hx with rfl | hx
      · exact ⟨b, hf⟩
      · exact fm_all (Nat.succ.inj h) x hx
theorem par_gen (s : Sok kin gt Y k C g X W) {ts vs : List Expr} {k1 k2 : Nat} {p1 p2 pos : Pos} {names : List Str} {is : List Nat} {ta : TA} {t' : TS} (hsw : swpC g ts vs = some (some names)) (hl : ts.length = vs.length) (his : tgts g ts = some is) (hnd : nodupB is = true) (hh : g.hot = false) (ha : PA X vs ta)
    (f2 : ∀ i j, is = [i, j] → ∀ D σ H, t' D σ H → tPar i j ta D σ H) (f3 : ∀ i j l, is = [i, j, l] → ∀ D σ H, t' D σ H → tPar3 i j l ta D σ H) (h23 : ts.length = 2 ∨ ts.length = 3) :
    PS X (.Assign [.Tuple ts k1 p1] (.Tuple vs k2 p2) pos) t' := by
  have hsok := swp_ok (k1 := k1) (k2 := k2) (p1 := p1) (p2 := p2) s hsw
  obtain ⟨hn, hnl⟩ := swpC_some hsw
  have hnd := nodup_of hnd
  have all := fm_all (f := nmL g ((ts.head?.map (·.pos.line)).getD 0)) (l := ts) (by rw [hn, hnl])
  have lc : ∀ {n : Str}, g.sc.names.lookup n = some .local → X.env.scope.names.lookup n = some .local := fun {n} q => by rw [s.o.sc]; exact q
  rcases h23 with h2 | h3
  · obtain ⟨t1, t2, rfl⟩ : ∃ a b, ts = [a, b] := by
      match ts, h2 with
      | [a, b], _ => exact ⟨a, b, rfl⟩
    obtain ⟨v1, v2, rfl⟩ : ∃ a b, vs = [a, b] := by
      match vs, hl with
      | [a, b], _ => exact ⟨a, b, rfl⟩
    obtain ⟨n1, e1⟩ := all t1 (by simp)
    obtain ⟨n2, e2⟩ := all t2 (by simp)
    obtain ⟨q1, rfl, l1⟩ := nmL_some e1
    obtain ⟨q2, rfl, l2⟩ := nmL_some e2
    simp only [tgts, Option.bind_eq_bind, Option.bind_eq_some_iff, Option.some.injEq] at his
    obtain ⟨i1, hi1, _, ⟨i2, hi2, _, rfl, rfl⟩, rfl⟩ := his
    have hne : i1 ≠ i2 := by
      have := (List.nodup_cons.mp hnd).1
      simpa using this
    have hnames : names = [n1, n2] := by
      rw [← hn]
      simp only [List.filterMap_cons, List.filterMap_nil, e1, e2]
    rw [hnames] at hsok
    exact (ps_par (s.o.ox.calm hh) s.o.ox.nd (tgt_ok s.o hi1).1 (tgt_ok s.o hi2).1 hne (lc l1) (lc l2) ha hsok rfl).imp fun D σ H h => f2 _ _ rfl D σ H h
  · obtain ⟨t1, t2, t3, rfl⟩ : ∃ a b c, ts = [a, b, c] := by
      match ts, h3 with
      | [a, b, c], _ => exact ⟨a, b, c, rfl⟩
    obtain ⟨v1, v2, v3, rfl⟩ : ∃ a b c, vs = [a, b, c] := by
      match vs, hl with
      | [a, b, c], _ => exact ⟨a, b, c, rfl⟩
    obtain ⟨n1, e1⟩ := all t1 (by simp)
    obtain ⟨n2, e2⟩ := all t2 (by simp)
    obtain ⟨n3, e3⟩ := all t3 (by simp)
    obtain ⟨q1, rfl, l1⟩ := nmL_some e1
    obtain ⟨q2, rfl, l2⟩ := nmL_some e2
    obtain ⟨q3, rfl, l3⟩ := nmL_some e3
    simp only [tgts, Option.bind_eq_bind, Option.bind_eq_some_iff, Option.some.injEq] at his
    obtain ⟨i1, hi1, _, ⟨i2, hi2, _, ⟨i3, hi3, _, rfl, rfl⟩, rfl⟩, rfl⟩ := his
    have d1 := List.nodup_cons.mp hnd
    have d2 := List.nodup_cons.mp d1.2
    have n12 : i1 ≠ i2 := fun z => d1.1 (by simp [z])
    have n13 : i1 ≠ i3 := fun z => d1.1 (by simp [z])
    have n23 : i2 ≠ i3 := fun z => d2.1 (by simp [z])
    have hnames : names = [n1, n2, n3] := by
      rw [← hn]
      simp only [List.filterMap_cons, List.filterMap_nil, e1, e2, e3]
    rw [hnames] at hsok
    exact (ps_par3 (s.o.ox.calm hh) s.o.ox.nd (tgt_ok s.o hi1).1 (tgt_ok s.o hi2).1 (tgt_ok s.o hi3).1 n12 n13 n23 (lc l1) (lc l2) (lc l3) ha hsok rfl).imp fun D σ H h => f3 _ _ _ rfl D σ H h
theorem s_parW (sn : Snd kin gt r) (s : Sok kin gt Y k C g X W) {ts vs : List Expr} {k1 k2 : Nat} {p1 p2 pos : Pos} {names : List Str} {i : S1} (hsw : swpC g ts vs = some (some names)) (hl : ts.length = vs.length) (h : parW gt r g ts vs = some i) (h23 : ts.length = 2 ∨ ts.length = 3) :
    PS X (.Assign [.Tuple ts k1 p1] (.Tuple vs k2 p2) pos) (tS Y W (evS kin C i)) := by
  unfold parW at h
  simp only [Option.bind_eq_bind, Option.bind_eq_some_iff] at h
  obtain ⟨is, his, es, hes, h⟩ := h
  split at h
  · rename_i c
    simp only [Bool.and_eq_true, Bool.not_eq_true'] at c
    obtain ⟨⟨hnd, hh⟩, hst⟩ := c
    split at h
    · cases h
      refine ps_fzW ?_
      exact par_gen s hsw hl his hnd hh (s_es sn s.o vs es hes) (fun i j e D σ H h => by subst e; exact t_par2 h) (fun i j l e D σ H h => by subst e; exact t_par3 h) h23
    · split at h
      · rename_i c2
        cases h
        refine ps_fzW ?_
        have hil : is.length = vs.length := by
          have key : ∀ {ts : List Expr} {is : List Nat}, tgts g ts = some is → is.length = ts.length := by
            intro ts
            induction ts with
            | nil => intro is h; cases h; rfl
            | cons t ts ih =>
              intro is h
              unfold tgts at h
              split at h
              · cases ‹t :: ts = []›
              · rename_i e
                cases e
                simp only [Option.bind_eq_bind, Option.bind_eq_some_iff, Option.some.injEq] at h
                obtain ⟨i, _, js, hj, rfl⟩ := h
                rw [List.length_cons, List.length_cons, ih hj]
              · cases h
          rw [key his, hl]
        have hx : PA X vs (tMx Y W (newF gt g is vs) (evEs kin C es)) := s_mx sn s.o vs (newF gt g is vs) es hst (by unfold newF; rw [List.length_map, List.length_zip, hil, Nat.min_self]) (fun p hp hb => by
          have key : ∀ {is : List Nat} {vs : List Expr}, p ∈ (newF gt g is vs).zip vs → p.1 = true → isNwE gt g p.2 = true := by
            intro is
            induction is with
            | nil => intro vs h; unfold newF at h; simp at h
            | cons i is ih =>
              intro vs h hb
              cases vs with
              | nil => unfold newF at h; simp at h
              | cons v vs =>
                unfold newF at h
                rw [List.zip_cons_cons, List.map_cons, List.zip_cons_cons] at h
                rcases List.mem_cons.mp h with rfl | h
                · exact ((Bool.and_eq_true _ _).mp hb).2
                · exact ih h hb
          exact key hp hb) hes
        exact par_gen s hsw hl his hnd hh hx (fun i j e D σ H h => by subst e; exact t_paro2 h) (fun i j l e D σ H h => by subst e; exact t_paro3 h) h23
      · cases h
  · cases h
theorem h1_pat {tg : Expr} {p : List Nat} {env : Env} (h : patW g tg = some p) : (assignEach [tg] env).map (·.2) = [assign tg env] := by
  unfold patW at h
  split at h
  · rfl
  · rfl
  · cases h
theorem s_hdsW {rec : Cfg → List Stmt → Option Ss} {V : Wd} (rk : Rok kin gt rec) (s : Sok kin gt Y k C g X W) (av : AtW V X) : ∀ {hs : List ExceptHandler} {q : Hs}, hdsW gt rec g hs = some q → ∃ l, ClOk X hs l ∧ HsS Y kin C l q
  | [], q, h => by cases h; exact ⟨[], .nil, .nil⟩
  | hd :: hs, q, h => by
    unfold hdsW at h
    split at h
    · cases ‹hd :: hs = []›
    · rename_i x px nm b suite pp hs' he
      cases he
      split at h
      · rename_i c hg
        simp only [Option.bind_eq_bind, Option.bind_eq_some_iff] at h
        obtain ⟨i, hi, bb, hb, q', hq, h⟩ := h
        split at h
        · rename_i hn
          cases h
          obtain ⟨n1, n2, n3⟩ := okName_ok hn
          obtain ⟨hgl, Ca, hm, hc⟩ := glo_ok s.o hg
          obtain ⟨l, hl1, hl2⟩ := s_hdsW rk s av hq
          refine ⟨⟨.ref Ca, i, fun a cls d => tS (Y.hot a cls d) WF (evSs kin C bb)⟩ :: l, .cons ⟨hgl, n1, .inl hm⟩ ?_ (fun a oe cls d pn hz hd => rk _ _ _ k C WF V _ _ hb (suite_sok s hz hd) av Sms.hot) hl1, .cons ⟨rfl, ⟨Ca, hc, rfl⟩, fun _ _ _ => rfl⟩ hl2⟩
          cases nm with
          | none => cases hi; exact trivial
          | some n =>
            have hi : (if (g.sc.names.lookup n == some .local) = true then (g.N.findIdx? (· == n)).map some else none) = some i := hi
            split at hi
            · rename_i hloc
              simp only [Option.map_eq_some_iff] at hi
              obtain ⟨j, hj, rfl⟩ := hi
              refine ⟨by rw [s.o.N]; exact findIdx_get hj, ?_⟩
              show X.env.scope.names.lookup n = _
              rw [s.o.sc]
              exact beq_iff_eq.mp hloc
            · cases hi
        · cases h
      · cases h
    · cases h
theorem s_stW {rec : Cfg → List Stmt → Option Ss} {V : Wd} (sn : Snd kin gt r) (rk : Rok kin gt rec) (s : Sok kin gt Y k C g X W) (av : AtW V X) (ms : Sms kin gt Y k C V) {st : Stmt} {i : S1} (h : stW kin gt r rec g st = some i) : PS X st (tS Y W (evS kin C i)) := by
  unfold stW at h
  split at h
  · exact s_asg1W sn s h
  · split at h
    · rename_i names hsw
      split at h
      · rename_i c
        simp only [Bool.and_eq_true, beq_iff_eq, Bool.or_eq_true] at c
        exact s_parW sn s hsw c.1 h c.2
      · cases h
    · rename_i hsw
      unfold asgW at h
      simp only [Option.bind_eq_bind, Option.bind_eq_some_iff, Option.some.injEq] at h
      obtain ⟨p, hp, y, hy, rfl⟩ := h
      refine ps_fzW ?_
      exact (ps_asg (sn.e g false _ y X Y k C W hy s.o) (pg_pat s.o hp) sole_tup (swp_ok s hsw) (h1_pat hp)).imp fun D σ H h => t_asg h
    · cases h
  · split at h
    · cases h
    · rename_i hc
      have hc := (Bool.not_eq_true _).mp hc
      unfold asgW at h
      simp only [Option.bind_eq_bind, Option.bind_eq_some_iff, Option.some.injEq] at h
      obtain ⟨p, hp, y, hy, rfl⟩ := h
      refine ps_fzW ?_
      exact (ps_asg (sn.e g false _ y X Y k C W hy s.o) (pg_pat s.o hp) (sole_ok hc) (swapped_ok hc) (h1_pat hp)).imp fun D σ H h => t_asg h
  · split at h
    · cases h
    · rename_i hc
      have hc := (Bool.not_eq_true _).mp hc
      split at h
      · rename_i j hj
        simp only [Option.bind_eq_bind, Option.bind_eq_some_iff] at h
        obtain ⟨y, hy, h⟩ := h
        split at h
        · rename_i c
          cases h
          obtain ⟨n1, n2, n3⟩ := okName_ok c
          obtain ⟨e1, e2⟩ := loc_ok s.o hj
          exact ps_fzW (s_fst s e1 e2 n1 n2 (sn.e g false _ y X Y k C W hy s.o) (sole_at hc))
        · cases h
      · cases h
  · split at h
    · rename_i j hj
      simp only [Option.bind_eq_bind, Option.bind_eq_some_iff] at h
      obtain ⟨y, hy, h⟩ := h
      split at h
      · rename_i c
        cases h
        simp only [Bool.and_eq_true, Bool.not_eq_true'] at c
        obtain ⟨n1, n2, n3⟩ := okName_ok c.1.1
        obtain ⟨e1, e2⟩ := loc_ok s.o hj
        exact ps_fzW (s_app1 s e1 e2 n1 n2 (sn.e g false _ y X Y k C W hy s.o) c.1.2 c.2)
      · cases h
    · cases h
  · split at h
    · cases h
    · rename_i hc
      have hc := (Bool.not_eq_true _).mp hc
      simp only [Option.bind_eq_bind, Option.bind_eq_some_iff, Option.some.injEq] at h
      obtain ⟨y, hy, rfl⟩ := h
      exact ps_fzW (s_expr (sn.e g false _ y X Y k C W hy s.o) (drop_ok hc))
  · simp only [Option.bind_eq_bind, Option.bind_eq_some_iff, Option.some.injEq] at h
    obtain ⟨y, hy, rfl⟩ := h
    exact ps_fzW (s_ret (sn.e g false _ y X Y k C W hy s.o))
  · cases h; exact s_retn
  · cases h; exact s_pass
  · cases h; exact s_brk
  · cases h; exact s_cont
  · simp only [Option.bind_eq_bind, Option.bind_eq_some_iff, Option.some.injEq] at h
    obtain ⟨q, hq, x, hx, y, hy, rfl⟩ := h
    exact ps_fzW (s_if (sn.q g _ q X Y k C W hq s.o) (rk g X Y k C W V _ x hx s av ms) (rk g X Y k C W V _ y hy s av ms))
  · split at h
    · cases h
    · rename_i hc
      simp only [Bool.or_eq_true, not_or, Bool.not_eq_true] at hc
      simp only [Option.bind_eq_bind, Option.bind_eq_some_iff] at h
      obtain ⟨p, hp, it, hit, b, hb, h⟩ := h
      split at h
      · cases h
      · rename_i hpr
        cases h
        simp only [Bool.and_eq_true, Bool.not_eq_true', not_and, Bool.not_eq_false] at hpr
        exact ps_fzW (s_for s hc.1 (sn.i g false _ _ it X Y k C W hit s.o hpr) (pg_pat s.o hp) (rk g X Y k C W V _ b hb s av ms) hc.2)
  · split at h
    · cases h
    · rename_i hc
      simp only [Option.bind_eq_bind, Option.bind_eq_some_iff, Option.some.injEq] at h
      obtain ⟨q, hq, b, hb, rfl⟩ := h
      exact s_whl s (by simpa using hc) (sn.q g _ q X Y k C W hq s.o) (rk g X Y k C W V _ b hb s av ms)
  · split at h
    · cases h
    · rename_i hc
      have hh : g.hot = false := by simpa using hc
      split at h
      · rename_i c hg
        split at h
        · rename_i f hf
          simp only [Option.bind_eq_bind, Option.bind_eq_some_iff] at h
          obtain ⟨y, hy, h⟩ := h
          split at h
          · rename_i c2
            cases h
            simp only [Bool.and_eq_true, Bool.not_eq_true'] at c2
            exact ps_fzW (s_rse s (ms g X W s av hh) hh hg hf c2.1 c2.2 (sn.e g false _ y X Y k C W hy s.o))
          · cases h
        · cases h
      · cases h
  · split at h
    · cases h
    · rename_i hc
      have hh : g.hot = false := by simpa using hc
      simp only [Option.bind_eq_bind, Option.bind_eq_some_iff, Option.some.injEq] at h
      obtain ⟨b, hb, q, hq, rfl⟩ := h
      obtain ⟨l, hl1, hl2⟩ := s_hdsW rk s av hq
      exact (ps_tryG s.stk s.frm s.o.ox.nd s.o.tk (fun W' pn xe tk po => rk g _ Y k C W' V _ b hb (tr_sok s hh tk po) av ms) hl1).imp fun D σ H h => t_try s.o.ox.hK s.o.kok (s.o.cold hh) hl2 h
  · cases h
theorem rok_cp (kin : Kin) (gt : Gt) (r : Cfg → Cp) (sn : Snd kin gt r) : ∀ n, Rok kin gt (cpSs kin gt r n)
  | 0 => fun g X Y k C W V sts b h => by
    unfold cpSs at h
    cases h
  | n + 1 => fun g X Y k C W V sts b h s av ms => by
    cases sts with
    | nil =>
      unfold cpSs at h
      cases h
      exact s_nil
    | cons st rest =>
      unfold cpSs at h
      simp only [Option.bind_eq_bind, Option.bind_eq_some_iff, Option.some.injEq] at h
      obtain ⟨a, ha, b', hb, rfl⟩ := h
      exact s_cons (s_stW sn (rok_cp kin gt r sn n) s av ms ha) (rok_cp kin gt r sn n g X Y k C W V rest b' hb s av ms)
end
end RM
end
section
set_option Elab.async false
set_option linter.all false
set_option maxRecDepth 100000
set_option autoImplicit false
/-! defs by their bodies -/
namespace RM
open PySem PySem.Spec PyProof.Rows L2

/-- a def's names: N, its scope; own: the names of its own lists -/
def fnCfg (N : List Str) (sc : Scope) (own : List Nat) : Cfg := ⟨N, sc, fun _ => true, false, none, own⟩
theorem sr_start {Y : Tx} {G : Gh} {H : Hp} {vs : List V} {ds : List D} {N : List Str} (r : RDs Y G H vs ds) : SR Y H G H (L2.start N vs) (ds.map Slot.val ++ List.replicate (N.length - ds.length) Slot.emp) := by
  have hl := r.length
  have get : ∀ {i : Nat} {s : Slot}, (ds.map Slot.val ++ List.replicate (N.length - ds.length) Slot.emp)[i]? = some s → s = .emp ∨ ∃ d, s = .val d ∧ ds[i]? = some d := fun {i s} h => by
    rw [List.getElem?_append] at h
    split at h
    · rw [List.getElem?_map, Option.map_eq_some_iff] at h
      obtain ⟨d, h1, h2⟩ := h
      exact .inr ⟨d, h2.symm, h1⟩
    · rw [List.getElem?_replicate] at h
      split at h
      · cases h; exact .inl rfl
      · cases h
  refine ⟨by simp [L2.start, hl], fun i s h => ?_, fun i j xs ys a h1 => ?_⟩
  · rcases get h with rfl | ⟨d, rfl, hd⟩
    · trivial
    · obtain ⟨v, hv, rv⟩ := r.get' hd
      refine ⟨v, ?_, rv⟩
      unfold L2.start
      rw [List.getElem?_append_left (by rw [List.length_map]; exact (List.getElem?_eq_some_iff.mp hv).1), List.getElem?_map, hv]
      rfl
  · rcases get h1 with z | ⟨d, z, _⟩ <;> cases z

theorem fn_ok {kin : Kin} {gt : Gt} {r : Cfg → Cp} {Y : Tx} {k : Nat} {C : Orc} {V : Wd} {f : Addr} {name qual : Str} {params : Arguments} {body : List Stmt} {scope : Scope} {dV kV doc pm cdv ct oc : Value} {an od : Option Addr} {osl : Array (Option Value)} {N ps : List Str} {own : List Nat} {n : Nat} {b : Ss}
    (sn : Snd kin gt r) (lk : Y.K.lookup f = some ⟨oc, od, .func (PySem.W.fnOf name qual params body scope dV kV doc pm an cdv ct), osl⟩) (hcd : PySem.W.codeIn Y.K cdv qual = true) (sc : FnScope N ps scope) (hb : Binds Y.K (PySem.W.fnOf name qual params body scope dV kV doc pm an cdv ct) ps [])
    (hY : Y.cur = none) (kok : KinOk kin Y) (sys : ∃ o, V.base.get? sysModules = some o) (gtk : GtOk false gt Y k C V.P V.w Y.K V.mg V.base) (ms : Sms kin gt Y k C V) (hc : cpSs kin gt r n (fnCfg N scope own) body = some b) :
    FnG V.P V.w Y.K V.mg V.base (k + 1) f ps.length (spG Y ps.length (runF kin C (N.length - ps.length) b)) := by
  refine FnG.of lk hcd sc hb (fun vs H Q E h => h.1) fun A outer s H vs Q E hr hg hsp => ?_
  obtain ⟨hl, G, S, ds, ok, rs, w⟩ := hsp
  have tk : Takes (cxOf (L2.CX V.P V.w) V.P V.w Y.K V.mg V.base N qual scope f cdv A outer s H E) (fun cls d _ H => E cls d H) := takes_of rfl rfl rfl rfl
  have so : Sok kin gt Y k C (fnCfg N scope own) (cxOf (L2.CX V.P V.w) V.P V.w Y.K V.mg V.base N qual scope f cdv A outer s H E) (fun cls d _ H => E cls d H) :=
    { o := { ox := ⟨sc.nd, fun _ => rfl, rfl, fun _ => hr, (by have h := hr.un; show (A.deeper (envOfC qual scope s.heap.objs.size f cdv)).units + 200 < cLine; omega), hg, sys⟩, N := rfl, sc := rfl, fn := rfl, tk := tk, cold := fun _ => hY, kok := kok, cur := fun a cls dx e => by (rw [hY] at e; cases e), gt := gtk },
      po := fun _ => passes_of rfl, stk := rfl, frm := rfl, kd := sc.kind }
  refine ⟨_, rok_cp kin gt r sn n _ _ Y k C _ V body b hc so ⟨rfl, rfl, rfl, rfl⟩ ms, ?_⟩
  have hdl : ds.length = ps.length := by rw [← rs.length]; exact hl
  unfold runF at w
  rw [← hdl] at w
  refine ⟨H, Ext G H, G, _, S, Bs.entry, ok, Ext.refl, sr_start (N := N) rs, wpM_mono (wpM_quiet (wpM_bind.mp w)) (fun o S1 w1 => ?_) fun _ _ z => z⟩
  cases o with
    | nx ρ => exact fun G1 H1 σ e1 ok1 sr1 => w1 G1 H1 .non e1 ok1 .non
    | ret d => exact fun G1 H1 v e1 ok1 r1 => w1 G1 H1 v e1 ok1 r1
    | exc x ρ => exact fun G1 H1 cls dx σ e1 ok1 rx sr1 => w1 G1 H1 cls dx e1 ok1 rx
    | brk ρ => exact w1.elim
    | cont ρ => exact w1.elim
end RM
end
section
set_option Elab.async false
set_option linter.all false
set_option maxRecDepth 100000
set_option autoImplicit false
/-! own classes made: C(..) is a callable like a def -/
namespace RM
open PySem PySem.Spec PyProof.Rows L2

section
variable {P : Program} {w : World} {K : PySem.W.Frag} {mg : Str → Option Value} {base : Heap}
/-- a new instance and its dict -/
theorem Env0.made {A : Around} {outer : List Env} {s : Shared} {H : Hp} {C : Addr} (e : Env0 P w K mg base A outer s H) :
    Env0 P w K mg base A outer { s with heap := (s.heap.push PySem.W.emptyDict).push (PySem.W.instObj C s.heap.objs.size) } (upd (upd H s.heap.objs.size (.own (s.heap.objs.size + 1))) (s.heap.objs.size + 1) (.ins C s.heap.objs.size [])) := by
  have kp : ∀ b u, s.heap.get? b = some u → ((s.heap.push PySem.W.emptyDict).push (PySem.W.instObj C s.heap.objs.size)).get? b = some u := fun b u q => Heap.get?_push_of_some _ (Heap.get?_push_of_some _ q)
  have far : ∀ b u, s.heap.get? b = some u → b ≠ s.heap.objs.size ∧ b ≠ s.heap.objs.size + 1 := fun b u q => ⟨Nat.ne_of_lt (Heap.lt_size q), Nat.ne_of_lt (Nat.lt_succ_of_lt (Heap.lt_size q))⟩
  have e1 : (s.heap.push PySem.W.emptyDict).get? s.heap.objs.size = some PySem.W.emptyDict := Heap.get?_push_size s.heap rfl
  have e2 : ((s.heap.push PySem.W.emptyDict).push (PySem.W.instObj C s.heap.objs.size)).get? (s.heap.objs.size + 1) = some (PySem.W.instObj C s.heap.objs.size) := by
    have := Heap.get?_push_size (s.heap.push PySem.W.emptyDict) (o := PySem.W.instObj C s.heap.objs.size) rfl
    rwa [Heap.size_push] at this
  have e3 : (s.heap.push PySem.W.emptyDict).Ns s.heap.objs.size (fun _ => none) := ⟨PySem.W.emptyDict, #[], _, e1, rfl, (fun e he => absurd he (by simp)), fun _ => rfl⟩
  have ne : s.heap.objs.size ≠ s.heap.objs.size + 1 := Nat.ne_of_lt (Nat.lt_succ_self _)
  refine ⟨e.frames, e.mod, fun b o q => ⟨kp _ _ (e.bs b o q).1, ?_⟩, Nat.le_trans e.bsz ?_, e.funs.of_keeps fun b o q _ => ⟨o, kp b o q, rfl⟩, fun b hb => ?_, ?_, e.bare⟩
  · obtain ⟨f1, f2⟩ := far _ _ (e.bs b o q).1
    rw [upd_ne f2, upd_ne f1]; exact (e.bs b o q).2
  · rw [Heap.size_push, Heap.size_push]; omega
  · obtain ⟨_, o, q, _⟩ := e.funs.mem hb
    obtain ⟨f1, f2⟩ := far _ _ q
    rw [upd_ne f2, upd_ne f1]; exact e.frf b hb
  · have h1 := e.hok.laid (a := s.heap.objs.size) (o := .own (s.heap.objs.size + 1)) (h' := s.heap.push PySem.W.emptyDict) (fun b u q => Heap.get?_push_of_some _ q) (Nat.le_refl _) ⟨_, e1⟩
    refine h1.laid (a := s.heap.objs.size + 1) (o := .ins C s.heap.objs.size []) (fun b u q => Heap.get?_push_of_some _ q) (Nat.le_of_eq (Heap.size_push _ _)) ?_
    refine ⟨by rw [upd_ne ne, upd_same], Nat.zero_le _, ne, e2, fun _ => none, (Heap.Ns1.of_empty e3).at fun o q => Heap.get?_push_of_some _ q, fun _ => True.intro, fun y hy => absurd rfl hy⟩
theorem made_free {s : Shared} {H : Hp} {C : Addr} {b : Addr} {u : Obj} (q : s.heap.get? b = some u) : upd (upd H s.heap.objs.size (.own (s.heap.objs.size + 1))) (s.heap.objs.size + 1) (.ins C s.heap.objs.size []) b = H b := by
  rw [upd_ne (Nat.ne_of_lt (Nat.lt_succ_of_lt (Heap.lt_size q))), upd_ne (Nat.ne_of_lt (Heap.lt_size q))]
/-- behind the making: as from before it -/
theorem Un.made {fs ex : List Addr} {s : Shared} {H H' : Hp} {h' : Heap} {C : Addr} (e : HOk P w H s.heap)
    (u : Un fs ex (upd (upd H s.heap.objs.size (.own (s.heap.objs.size + 1))) (s.heap.objs.size + 1) (.ins C s.heap.objs.size [])) H' ((s.heap.push PySem.W.emptyDict).push (PySem.W.instObj C s.heap.objs.size)) h') : Un fs ex H H' s.heap h' := by
  have n1 := e.fresh (Nat.le_refl s.heap.objs.size)
  have n2 := e.fresh (Nat.le_succ s.heap.objs.size)
  have ne : s.heap.objs.size ≠ s.heap.objs.size + 1 := Nat.ne_of_lt (Nat.lt_succ_self _)
  refine Un.trans (Un.laid (o := .own (s.heap.objs.size + 1)) (h' := s.heap.push PySem.W.emptyDict) (fun b u q => Heap.get?_push_of_some _ q) (Nat.le_refl _) n1) (Un.trans (Un.laid (o := .ins C s.heap.objs.size []) (h' := (s.heap.push PySem.W.emptyDict).push (PySem.W.instObj C s.heap.objs.size)) (fun b u q => Heap.get?_push_of_some _ q) (Nat.le_of_eq (Heap.size_push _ _)) ?_) u)
  rw [upd_ne ne.symm]; exact n2
theorem CX.made {outer : List Env} {s s' : Shared} {H : Hp} {C : Addr} {E : XK} {u : Value} (e : HOk P w H s.heap)
    (c : L2.CX P w outer (upd (upd H s.heap.objs.size (.own (s.heap.objs.size + 1))) (s.heap.objs.size + 1) (.ins C s.heap.objs.size [])) { s with heap := (s.heap.push PySem.W.emptyDict).push (PySem.W.instObj C s.heap.objs.size) } E u s') : L2.CX P w outer H s E u s' := by
  obtain ⟨a, B, H', cls, d, e1, fl, hok, ub, na, os, ag, q⟩ := c
  have n1 := e.fresh (Nat.le_refl s.heap.objs.size)
  have n2 := e.fresh (Nat.le_succ s.heap.objs.size)
  have kp : ∀ b u, s.heap.get? b = some u → ((s.heap.push PySem.W.emptyDict).push (PySem.W.instObj C s.heap.objs.size)).get? b = some u := fun b u q => Heap.get?_push_of_some _ (Heap.get?_push_of_some _ q)
  have up : ∀ b o, H b = some o → upd (upd H s.heap.objs.size (.own (s.heap.objs.size + 1))) (s.heap.objs.size + 1) (.ins C s.heap.objs.size []) b = some o := fun b o z => by
    rw [upd_ne (ne_of_none z n2), upd_ne (ne_of_none z n1)]; exact z
  refine ⟨a, B, H', cls, d, e1, fl, hok, ⟨fun b o z n f => ub.keep b o (kp b o z) (by rw [made_free z]; exact n) f, fun b o z f => ub.slot b o (kp b o z) f, fun b o z n => ub.free b o (kp b o z) (by rw [made_free z]; exact n), fun b o z f => ub.there b o (kp b o z) f, fun b xs z => ub.tups b xs (up _ _ z), fun b o xs z => ub.frzs b o xs (up _ _ z), fun b ps z => ub.tbls b ps (up _ _ z)⟩, na, os, ag, q⟩
/-- C(..), by its __init__ -/
theorem FnG.make {k n : Nat} {C f : Addr} {sp spi : Sp} (M : Mk K C f) (F : FnG P w K mg base k f (n + 1) spi) (hl : ∀ vs H Q E, sp vs H Q E → vs.length = n)
    (h : ∀ vs H Q E, sp vs H Q E → ∀ x dx, H x = none → H dx = none → dx ≠ x → spi (.ref x :: vs) (upd (upd H dx (.own x)) x (.ins C dx [])) (fun v H2 => v = .non ∧ Q (.ref x) H2) E) : FnG P w K mg base (k + 1) C n sp := by
  refine ⟨hl, fun A outer s H us vs Q E hr hg e0 r hsp => ?_⟩
  have KX : K.In s.heap := e0.mod.kin.keeps fun b o e => (e0.bs b o e).1
  have hq := h vs H Q E hsp (s.heap.objs.size + 1) s.heap.objs.size (e0.hok.fresh (Nat.le_succ _)) (e0.hok.fresh (Nat.le_refl _)) (Nat.ne_of_lt (Nat.lt_succ_self _))
  refine make_map (f := f) KX M.makes M.init (beq_iff_eq.mp M.fn) (codeAny_mono (F.run _ outer _ _ (Value.ref (s.heap.objs.size + 1) :: us) (V.ref (s.heap.objs.size + 1) :: vs) _ E (hr.make C us []) ?_ (L2.Env0.make (RM.Env0.made (C := C) e0) C us []) (.cons rfl r) hq) fun r s' hq' => ?_)
  · exact hg
  cases r with
  | error e => exact CX.made e0.hok hq'
  | ok fl =>
    cases fl with
    | ret u =>
      obtain ⟨v, H', os, bare, un, hok, rv, ev, q⟩ := hq'
      subst ev
      refine ⟨rv, V.ref (s.heap.objs.size + 1), H', os, bare, Un.made e0.hok un, hok, rfl, q⟩
    | next => exact hq'.elim
    | brk => exact hq'.elim
    | cont => exact hq'.elim
end
end RM
end
section
set_option Elab.async false
set_option linter.all false
set_option maxRecDepth 100000
set_option autoImplicit false
/-! own classes: __init__ by its body -/
namespace RM
open PySem PySem.Spec PyProof.Rows L2

def Tx.at (Y : Tx) (x : Addr) : Tx := { Y with slf := some x }
section
variable {Y Y' : Tx} {hot : Bool} {gt : Gt} {k n : Nat} {C : Orc} {kin : Kin} {g : Cfg} {X : Cx} {W : WX} {P : Program} {w : World} {K : PySem.W.Frag} {mg : Str → Option Value} {base : Heap}
theorem FnG.imp {f : Addr} {sp sp' : Sp} (F : FnG P w K mg base k f n sp) (h : ∀ vs H Q E, sp' vs H Q E → sp vs H Q E) : FnG P w K mg base k f n sp' :=
  ⟨fun vs H Q E q => F.len vs H Q E (h vs H Q E q), fun A outer s H us vs Q E hr hg e0 r q => F.run A outer s H us vs Q E hr hg e0 r (h vs H Q E q)⟩
theorem spG.tx (hK : Y'.K = Y.K) (hc : Y'.cls = Y.cls) {m : List D → M D} {vs : List V} {H : Hp} {Q : VK} {E : XK} (h : spG Y' n m vs H Q E) : spG Y n m vs H Q E := by
  obtain ⟨hl, G, S, ds, ok, rs, w⟩ := h
  exact ⟨hl, G, S, ds, ok.tx, RDs.tx hK.symm hc.symm rs, wpM_mono w (fun d S' q G' H' v e ok' r => q G' H' v e ok'.tx (RD.tx hK hc r)) fun x S' q G' H' cls dx e ok' r => q G' H' cls dx e ok'.tx (RX.tx hK hc r)⟩
theorem GvOk.tx (hK : Y'.K = Y.K) (hc : Y'.cls = Y.cls) {x : Str} : ∀ {v : Gv}, GvOk hot Y k C P w K mg base x v → GvOk hot Y' k C P w K mg base x v
  | .cst d, ⟨v, u, h1, h2, h3⟩ => ⟨v, u, h1, h2, fun G H => RD.tx hK hc (h3 G H)⟩
  | .fn n, h => fun hh => let ⟨f, h1, h2, h3⟩ := h hh; ⟨f, h1, h2, h3.imp fun vs H Q E q => spG.tx hK hc q⟩
  | .blt, h => h
  | .cls c, ⟨C, h1, h2⟩ => ⟨C, h1, by rw [hc]; exact h2⟩
  | .cfn c n, ⟨⟨C, h1, h2⟩, h⟩ => ⟨⟨C, h1, by rw [hc]; exact h2⟩, fun hh => let ⟨f, h1, h2, h3⟩ := h hh; ⟨f, h1, h2, h3.imp fun vs H Q E q => spG.tx hK hc q⟩⟩
  | .mth c m n, h => fun hh Ca hCa => let ⟨f, h1, h2, h3⟩ := h hh Ca (by rw [← hc]; exact hCa); ⟨f, h1, h2, h3.imp fun vs H Q E q => spG.tx hK hc q⟩
theorem Cok.tx (hK : Y'.K = Y.K) (hc : Y'.cls = Y.cls) (hu : Y'.cur = Y.cur) (o : Cok kin gt Y k C g X W) : Cok kin gt Y' k C g X W :=
  { ox := ⟨o.ox.nd, fun q => o.ox.calm q, by rw [hK]; exact o.ox.hK, o.ox.room, o.ox.units, o.ox.gd, o.ox.sys⟩, N := o.N, sc := o.sc, fn := o.fn, tk := o.tk, cold := fun q => by rw [hu]; exact o.cold q, kok := o.kok.tx (Y := Y) (Y' := Y') hK hc, cur := fun a cls dx e => o.cur a cls dx (by rw [← hu]; exact e), gt := fun x v e => (o.gt x v e).tx hK hc }
theorem Sms.tx {V : Wd} (hK : Y'.K = Y.K) (hc : Y'.cls = Y.cls) (hu : Y'.cur = Y.cur) (ms : Sms kin gt Y k C V) : Sms kin gt Y' k C V := fun g X W s av hh => by
  have m := ms g X W { o := s.o.tx hK.symm hc.symm hu.symm, po := s.po, stk := s.stk, frm := s.frm, kd := s.kd } av hh
  intro x c f Ca e te p p2 h1 h2 h3
  exact m x c f Ca e te p p2 h1 h2 (by rw [← hc]; exact h3)
end

/-- a new instance, by the body of its __init__ -/
def runI (kin : Kin) (C : Orc) (c : Str) (n : Nat) (body : Ss) (ds : List D) : M D := do
  match ← M.quiet (evSs kin C body (.new c [] :: (ds.map Slot.val ++ List.replicate n .emp))) with
  | .nx ρ => (match ρ[0]? with
    | some (Slot.new c fs) => pure (D.ins c fs)
    | _ => M.fail)
  | .exc x _ => M.raise x
  | _ => M.fail
/-- what an __init__ does, called from the making -/
def spI (Y : Tx) (Ca : Addr) (n : Nat) (m : List D → M D) : Sp := fun vs H Q E => vs.length = n + 1 ∧ ∃ x dx rest Hm G S ds, vs = .ref x :: rest ∧ Hm x = none ∧ Hm dx = none ∧ dx ≠ x ∧ H = upd (upd Hm dx (.own x)) x (.ins Ca dx []) ∧ GOk Y G Hm S ∧ RDs Y G Hm rest ds ∧
  wpM (m ds) S (fun d S' => ∀ G' H', Ext G Hm G' H' → GOk Y G' H' S' → RD Y G' H' (.ref x) d → Q .non H') (fun xx S' => ∀ G' H' cls d', Ext G Hm G' H' → GOk Y G' H' S' → RX Y G' H' cls d' xx → E cls d' H')
/-- the making by the promise of the __init__ -/
theorem cls_ok {P : Program} {w : World} {mg : Str → Option Value} {base : Heap} {Y : Tx} {k n : Nat} {Ca f : Addr} {m : List D → M D} (M : Mk Y.K Ca f) (F : FnG P w Y.K mg base k f (n + 1) (spI Y Ca n m)) : FnG P w Y.K mg base (k + 1) Ca n (spG Y n m) := by
  refine FnG.make M F (fun vs H Q E h => h.1) fun vs H Q E h x dx hx hd ne => ?_
  obtain ⟨hl, G, S, ds, ok, rs, wp⟩ := h
  exact ⟨by rw [List.length_cons, hl], x, dx, vs, H, G, S, ds, rfl, hx, hd, ne, rfl, ok, rs, wpM_mono wp (fun d S' q G' H' e ok' r => ⟨rfl, q G' H' _ e ok' r⟩) fun xx S' q => q⟩
theorem sr_startI {Y : Tx} {G : Gh} {Hm H : Hp} {S : Sto} {vs : List V} {ds : List D} {N : List Str} {x dx Ca : Addr} {c : Str} (ok : GOk Y G Hm S) (hx : Hm x = none) (hc : Y.cls c = some Ca) (hs : Y.slf = some x) (hH : H x = some (.ins Ca dx [])) (r : RDs Y G H vs ds) :
    SR Y Hm G H (L2.start N (.ref x :: vs)) (.new c [] :: (ds.map Slot.val ++ List.replicate (N.length - (ds.length + 1)) Slot.emp)) := by
  have hl := r.length
  have get : ∀ {i : Nat} {s : Slot}, (ds.map Slot.val ++ List.replicate (N.length - (ds.length + 1)) Slot.emp)[i]? = some s → s = .emp ∨ ∃ d, s = .val d ∧ ds[i]? = some d := fun {i s} h => by
    rw [List.getElem?_append] at h
    split at h
    · rw [List.getElem?_map, Option.map_eq_some_iff] at h
      obtain ⟨d, h1, h2⟩ := h
      exact .inr ⟨d, h2.symm, h1⟩
    · rw [List.getElem?_replicate] at h
      split at h
      · cases h; exact .inl rfl
      · cases h
  refine ⟨by simp [L2.start, hl], fun i s h => ?_, fun i j xs ys a h1 => ?_⟩
  · cases i with
    | zero =>
      cases h
      refine ⟨x, Ca, dx, [], rfl, ⟨hc, hs⟩, hH, fun z => ok.fzT x z hx, fun z => ok.muT x z hx, hx, .nil⟩
    | succ i =>
      rw [List.getElem?_cons_succ] at h
      rcases get h with rfl | ⟨d, rfl, hd⟩
      · trivial
      · obtain ⟨v, hv, rv⟩ := r.get' hd
        refine ⟨v, ?_, rv⟩
        unfold L2.start
        have hi := (List.getElem?_eq_some_iff.mp hv).1
        rw [List.getElem?_append_left (by rw [List.length_map, List.length_cons]; omega), List.getElem?_map, List.getElem?_cons_succ, hv]
        rfl
  · cases i with
    | zero => cases h1
    | succ i =>
      rw [List.getElem?_cons_succ] at h1
      rcases get h1 with z | ⟨d, z, _⟩ <;> cases z
theorem ini_ok {kin : Kin} {gt : Gt} {r : Cfg → Cp} {Y : Tx} {k : Nat} {C : Orc} {V : Wd} {f Ca : Addr} {c : Str} {name qual : Str} {params : Arguments} {body : List Stmt} {scope : Scope} {dV kV doc pm cdv ct oc : Value} {an od : Option Addr} {osl : Array (Option Value)} {N ps : List Str} {p0 : Str} {own : List Nat} {n : Nat} {b : Ss}
    (sn : Snd kin gt r) (lk : Y.K.lookup f = some ⟨oc, od, .func (PySem.W.fnOf name qual params body scope dV kV doc pm an cdv ct), osl⟩) (hcd : PySem.W.codeIn Y.K cdv qual = true) (sc : FnScope N (p0 :: ps) scope) (hb : Binds Y.K (PySem.W.fnOf name qual params body scope dV kV doc pm an cdv ct) (p0 :: ps) [])
    (hcl : Y.cls c = some Ca) (hY : Y.cur = none) (kok : KinOk kin Y) (sys : ∃ o, V.base.get? sysModules = some o) (gtk : GtOk false gt Y k C V.P V.w Y.K V.mg V.base) (ms : Sms kin gt Y k C V) (hc : cpSs kin gt r n (fnCfg N scope own) body = some b) :
    FnG V.P V.w Y.K V.mg V.base (k + 1) f (ps.length + 1) (spI Y Ca ps.length (runI kin C c (N.length - (ps.length + 1)) b)) := by
  refine FnG.of lk hcd sc hb (fun vs H Q E h => h.1) fun A outer s H vs Q E hr hg hsp => ?_
  obtain ⟨hl, x, dx, rest, Hm, G, S, ds, rfl, hx, hd, ne, rfl, ok, rs, w⟩ := hsp
  have tk : Takes (cxOf (L2.CX V.P V.w) V.P V.w Y.K V.mg V.base N qual scope f cdv A outer s (upd (upd Hm dx (.own x)) x (.ins Ca dx [])) E) (fun cls d _ H => E cls d H) := takes_of rfl rfl rfl rfl
  have so : Sok kin gt (Y.at x) k C (fnCfg N scope own) (cxOf (L2.CX V.P V.w) V.P V.w Y.K V.mg V.base N qual scope f cdv A outer s (upd (upd Hm dx (.own x)) x (.ins Ca dx [])) E) (fun cls d _ H => E cls d H) :=
    { o := { ox := ⟨sc.nd, fun _ => rfl, rfl, fun _ => hr, (by have h := hr.un; show (A.deeper (envOfC qual scope s.heap.objs.size f cdv)).units + 200 < cLine; omega), hg, sys⟩, N := rfl, sc := rfl, fn := rfl, tk := tk, cold := fun _ => hY, kok := kok.tx (Y := Y) (Y' := Y.at x) rfl rfl, cur := fun a cls dx e => by (rw [show (Y.at x).cur = Y.cur from rfl, hY] at e; cases e), gt := fun y v e => (gtk y v e).tx (Y := Y) (Y' := Y.at x) rfl rfl },
      po := fun _ => passes_of rfl, stk := rfl, frm := rfl, kd := sc.kind }
  refine ⟨_, rok_cp kin gt r sn n _ _ (Y.at x) k C _ V body b hc so ⟨rfl, rfl, rfl, rfl⟩ (ms.tx (Y := Y) (Y' := Y.at x) rfl rfl rfl), ?_⟩
  have hrl : rest.length = ps.length := by simpa using hl
  have hdl : ds.length = ps.length := by rw [← rs.length]; exact hrl
  have hx1 : upd Hm dx (.own x) x = none := by rw [upd_ne ne.symm]; exact hx
  have e1 : Ext G Hm G (upd Hm dx (.own x)) := Ext.new ok hd
  have ok1 := ok.new (o := .own x) hd
  have e2 : Ext G Hm G (upd (upd Hm dx (.own x)) x (.ins Ca dx [])) := e1.trans (Ext.new ok1 hx1)
  have ok2 := ok1.new (o := .ins Ca dx []) hx1
  have okT : GOk (Y.at x) G (upd (upd Hm dx (.own x)) x (.ins Ca dx [])) S := ok2.tx
  unfold runI at w
  rw [← hdl] at w
  refine ⟨Hm, Ext G Hm, G, _, S, Bs.entry, okT, e2, sr_startI (Y := Y.at x) (N := N) (S := S) ok.tx hx hcl rfl upd_same (RDs.tx (Y := Y) (Y' := Y.at x) rfl rfl (rs.ext e2 ok)), wpM_mono (wpM_quiet (wpM_bind.mp w)) (fun o S1 w1 => ?_) fun _ _ z => z⟩
  cases o with
    | nx ρ =>
      intro G1 H1 σ e1 ok1 sr1
      have w1 : wpM (match ρ[0]? with
        | some (Slot.new c fs) => pure (D.ins c fs)
        | _ => M.fail) S1 _ _ := w1
      cases h0 : ρ[0]? with
      | none => rw [h0] at w1; exact w1.elim
      | some sl =>
        rw [h0] at w1
        cases sl with
        | new c' fs =>
          obtain ⟨a, Ca', dx', fv, hsl, ⟨hc1, hc2⟩, ha, nf, nm, _, r⟩ := sr1.slot 0 _ h0
          have hc2 : some x = some a := hc2
          cases hc2
          have there : H1 x ≠ none := by rw [ha]; exact fun z => nomatch z
          have okf : GOk Y (G1.fz x) H1 S1 := GOk.freeze (GOk.tx ok1) there nm
          exact w1 (G1.fz x) H1 (e1.freeze hx) okf (.ins ha (.inr rfl) hc1 ((RDf.tx (Y := Y.at x) (Y' := Y) rfl rfl r).mono Kp.freeze))
        | _ => exact w1.elim
    | ret d => exact w1.elim
    | exc xx ρ => exact fun G1 H1 cls dx σ e1 ok1 rx sr1 => w1 G1 H1 cls dx e1 ok1.tx (RX.tx (Y := Y.at x) (Y' := Y) rfl rfl rx)
    | brk ρ => exact w1.elim
    | cont ρ => exact w1.elim
end RM
end
section
set_option Elab.async false
set_option linter.all false
set_option maxRecDepth 100000
set_option autoImplicit false
/-! own exceptions made: __init__ says super().__init__(text), then self.f = v -/
namespace RM
open PySem PySem.Spec PyProof.Rows L2 PySem.W

/-- the def of such an __init__ -/
def xBody (m : Str) (f pv : Str) (p0 p1 p2 p3 p4 p5 p6 p7 p8 p9 : Pos) (j : Nat) : List Stmt :=
  [.Expr (.Call (.Attribute (.Call (.Name "super" p0) [] [] p1) "__init__" p2) [.Constant (.str m) j p3] [] p4) p5, .Assign [.Attribute (.Name "self" p6) f p7] (.Name pv p8) p9]
/-- what the written part says of the class C and its __init__ -/
structure XinF (P : Program) (K : Frag) (C : Addr) (f : Str) (fI : Addr) : Prop where
  T : OexC K C
  iC : findIn K (.ref C) "__init__" = some (some (.ref fI))
  tI : typeIn K (.ref fI) = some (.type "function")
  no : findIn K (.ref C) f = some none
  fn : ∃ (oc : Value) (od : Option Addr) (osl : Array (Option Value)) (name qual : Str) (params : Arguments) (scope : Scope) (dV kV doc pm ct : Value) (an : Option Addr) (cda cc : Addr) (m pv : Str) (p0 p1 p2 p3 p4 p5 p6 p7 p8 p9 : Pos) (j : Nat) (ar : Arg) (ccl cl : Value) (cdd cld : Option Addr) (vs : Array Value) (ccs csl : Array (Option Value)) (file : Str) (tf : Tok),
    K.lookup fI = some ⟨oc, od, .func (ksFn name qual params (xBody m f pv p0 p1 p2 p3 p4 p5 p6 p7 p8 p9 j) scope dV kV doc pm an (.ref cda) ct cc), osl⟩ ∧ codeIn K (.ref cda) qual = true ∧
    K.lookup cda = some ⟨ccl, cdd, .fields vs, ccs⟩ ∧ vs[2]? = some (.str file tf) ∧ ((P.main.file : Str) == file) = true ∧ K.lookup cc = some ⟨cl, cld, .cell (some (.ref C)), csl⟩ ∧
    (params.posonlyargs ++ params.args).head? = some ar ∧ ar.arg = "self" ∧ (∀ (s : Shared) (u v : Value), BindsTo s (ksFn name qual params (xBody m f pv p0 p1 p2 p3 p4 p5 p6 p7 p8 p9 j) scope dV kV doc pm an (.ref cda) ct cc) ⟨[u, v], []⟩ [("self", u), (pv, v)]) ∧
    scope.names.lookup ("super" : Str) = some .globalImplicit ∧ scope.names.lookup ("__class__" : Str) = some .free ∧ scope.names.lookup ("self" : Str) = some .local ∧ scope.names.lookup pv = some .local ∧ (∀ x ∈ scope.names, x.2 ≠ .cell) ∧ scope.isCoroutine = false ∧ scope.isGenerator = false ∧ scope.kind = .function ∧ (pv == ("__debug__" : Str)) = false ∧ (pv == ("self" : Str)) = false ∧ (p2.endLine == p4.line) = true
  sup : ks_superIn K C C "__init__" = some (some (.builtin "ValueError.__init__"))
  vE : subIn K (.ref C) (.type "ValueError") = some true
  self : mroIn K C (.ref C) = some true
  op : nsIn K cStatics "thirdparty.any" = some none
  top : (P.main.scope.names.lookup ("super" : Str)).isSome = false

section
variable {P : Program} {w : World} {K : Frag} {C fI : Addr} {f : Str} {A : Around} {E : Value → Shared → Prop} {R : Result → Shared → Prop} {s : Shared}
/-- ValueError.__init__ bound to an instance, called -/
theorem mw_call {u x t0 : Addr} {rest : List Value} {Q : Value → Shared → Prop} (T : OexC K C) (X : K.In s.heap) (hu : s.heap.get? u = some (kxs_mw "ValueError.__init__" x)) (he : s.heap.get? x = some (excRec (.ref C) t0 none .none .none (.bool false))) (hz : rest.length ≤ sizeLine)
    (h : ∀ h' t1, (∀ b o, b ≠ x → s.heap.get? b = some o → h'.get? b = some o) → h'.get? x = some (excRec (.ref C) t1 none .none .none (.bool false)) → Q .none { s with heap := h' }) : wpAny (model P w) A (call (.ref u) rest) Q E s := by
  obtain ⟨nm, q, N, bs, bm, sn, sub, ab, col, dd, k0, k1, k2, k3, k5, hC, hbm⟩ := T.cls
  obtain ⟨hh, g, d, tk, os⟩ := s
  have FB := PySem.F.excBase_ValueError
  refine wpAny_call (codeAny_of_tree ?_)
  show wpAny _ A.in1 (callAny (.ref u) ⟨rest, []⟩) _ _ _
  simp only [callAny]
  refine wpAny_bind (wpAny_load hu ?_)
  simp only [kxs_mw, show (Value.type "method-wrapper" == Value.type "method" || Value.type "method-wrapper" == Value.type "builtin_function_or_method" || Value.type "method-wrapper" == Value.type "method-wrapper") = true by decide, if_true]
  refine KFB.if_so (by decide) ?_
  refine wpAny_bind (check_bound_init FB.toExcCallFacts (X _ _ hC) he rfl ?_)
  refine wpAny_bind (wpAny_pure (wpAny_pure ?_))
  refine ⟨plainId_quiet FB.init.plain _, codeAny_builtin FB.initEntry ?_⟩
  exact exc_init_tree he hz fun h' k e' t' => h h' _ k e'
theorem xinit_run {a t0 : Addr} {v : Value} {mg mb : Str → Option Value} {hp : Heap} {g : Array GenState} {d : Drawn} {t : Nat} {os : OsState} (F : XinF P K C f fI) (X : K.In hp) (lim : hp.NoLimit) (hg : hp.Ns mainGlobals mg) (hb : hp.Ns builtinsNs mb) (hmb : ∀ x : Str, x ≠ "__name__" → mb x = bootBuiltins x) (hms : mg "super" = none)
    (ha : hp.get? a = some (PySem.HandSPX.excO C t0)) (hna : K.lookup a = none) (hroom : A.depth < recursionLimit)
    (h : ∀ h' dx t1 tk', (∀ b o, b ≠ a → hp.get? b = some o → h'.get? b = some o) → hp.get? dx = none → dx ≠ a → h'.get? a = some ({ cls := .ref C, dict := some dx, data := .fields #[.ref t1, .none, .none, .none, .bool false, .none] } : Obj) → h'.Ns1 dx (fun y => if y = f then some v else none) → R (.ok (.ret .none)) ⟨h', g, d, tk', os⟩) :
    codeAny (model P w) A (.call (.ref fI) ⟨[.ref a, v], []⟩) R ⟨hp, g, d, t, os⟩ := by
  obtain ⟨nmC, qC, NC, bsC, bmC, snC, subC, abC, colC, ddC, k0, k1, k2, k3, k5, hC, hbm⟩ := F.T.cls
  have hcl : clsIn K C = some { name := nmC, bases := bsC, mro := .ref C :: bmC, ns := NC, qualname := qC, hasDict := true, slotNames := snC, subclasses := subC, abstract := abC, collection := colC, hasDel := false } := by unfold clsIn; rw [hC] <;> rfl
  obtain ⟨oc, od, osl, name, qual, params, scope, dV, kV, doc, pm, ct, an, cda, cc, m, pv, p0, p1, p2, p3, p4, p5, p6, p7, p8, p9, j, ar, ccl, cl, cdd, cld, vs, ccs, csl, file, tf, hfn, hcode, hcda, hvs, hfile, hcell, har, harg, hbind, ks, kc, kself, kpv, hcells, hco, hgen, hk, hdb, hps, hline⟩ := F.fn
  have hne : a ≠ C := fun z => by
    rw [z, X _ _ hC] at ha
    cases ha
  refine ks_codeAny_call_defAt (s := ⟨hp, g, d, t, os⟩) hroom (X _ _ hfn) rfl lim (codeRec_of X hcode) rfl (hbind _ _ _) hcells (fun x hx => ?_) (fun h1 hns hk1 => ?_) hco hgen hk
  · rcases List.mem_cons.mp hx with rfl | hx
    · exact kself
    · have e : x = (pv, v) := by simpa using hx
      rw [e]; exact kpv
  have X1 : K.In h1 := X.keeps hk1
  have ha1 := hk1 _ _ ha
  have mSelf : (fun x => (([("self", .ref a), (pv, v)] : List (Str × Value)).reverse).lookup x) ("self" : Str) = some (.ref a) := by
    show List.lookup ("self" : Str) [(pv, v), ("self", Value.ref a)] = _
    have e : (("self" : Str) == pv) = false := by
      rw [beq_eq_false_iff_ne] at hps ⊢
      exact fun z => hps z.symm
    rw [List.lookup_cons, e]; rfl
  have mPv : (fun x => (([("self", .ref a), (pv, v)] : List (Str × Value)).reverse).lookup x) pv = some v := by
    show List.lookup pv [(pv, v), ("self", Value.ref a)] = _
    rw [List.lookup_cons, beq_self_eq_true]
  have hoD : h1.get? C = some _ := X1 _ _ hC
  have mb_super : mb "super" = some (.type "super") := (hmb _ (by decide +kernel)).trans (by decide +kernel)
  generalize henv : callEnv (ksFn name qual params (xBody m f pv p0 p1 p2 p3 p4 p5 p6 p7 p8 p9 j) scope dV kV doc pm an (.ref cda) ct cc) hp.objs.size fI = env
  have esc : env.scope = scope := by rw [← henv]; rfl
  have ecl : env.cells = ([(("__class__" : Str), cc)] : List (Str × Addr)) := by rw [← henv]; rfl
  have eloc : env.locals = hp.objs.size := by rw [← henv]; rfl
  have egl : env.globals = mainGlobals := by rw [← henv]; rfl
  have ebl : env.builtins = builtinsNs := by rw [← henv]; rfl
  have efu : env.func = some fI := by rw [← henv]; rfl
  have eco : env.code = .ref cda := by rw [← henv]; rfl
  have ekd : env.scope.kind = .function := by rw [esc]; exact hk
  have kind : ∀ x, env.kindOf x = scope.names.lookup x := fun x => by show env.scope.names.lookup x = _; rw [esc]
  have he : eval (.Call (.Attribute (.Call (.Name "super" p0) [] [] p1) "__init__" p2) [.Constant (.str m) j p3] [] p4) env = (do
      let ov ← attributeBase (.Call (.Name "super" p0) [] [] p1) "__init__" env (eval (.Call (.Name "super" p0) [] [] p1) env)
      standAt p2.atName
      let (f, first) ← holding [ov] (getMethod ov "__init__" (plainOf (.Call (.Name "super" p0) [] [] p1) env))
      callWith p4 f first (backTo p4 (starEach [.Constant (.str m) j p3] env)) []) := by
    show (do
      let ov ← attributeBase (.Call (.Name "super" p0) [] [] p1) "__init__" env (eval (.Call (.Name "super" p0) [] [] p1) env)
      standAt p2.atName
      methodCall (.Call (.Name "super" p0) [] [] p1) "__init__" p2 p4 env ov 1 (backTo p4 (starEach [.Constant (.str m) j p3] env)) []) = _
    congr 1
    funext ov
    congr 1
    funext _
    exact mcall_line rfl hline
  have hns' : (h1).Ns env.locals (fun x => (([("self", .ref a), (pv, v)] : List (Str × Value)).reverse).lookup x) := by rw [eloc]; exact hns
  refine ks_wpAt_execs_cons (ks_wpAt_Expr_any (ks_wpAt_MethodCall (ks_wpAt_super_base (by rw [kind]; exact ks) (by rw [kind]; exact kc) (by decide) efu (X1 _ _ hfn) rfl har eco (X1 _ _ hcda) rfl hvs hfile F.top ?_) he) (by unfold interactive; rw [ekd]; rfl))
  refine ks_loadName_global ekd (by rw [kind]; exact ks) (PySem.Calls.loadGlobal_builtin (by rw [egl]; exact hg.keeps hk1) hms (by rw [ebl]; exact hb.keeps hk1) mb_super ⟨rfl, ?_⟩)
  refine wpAny_loadName_free ekd (by rw [kind]; exact kc) (by rw [ecl]; rfl) ⟨_, X1 _ _ hcell, rfl⟩ ?_
  rw [harg]
  refine wpAny_loadName_local ekd (by rw [kind]; exact kself) hns' mSelf ?_
  refine ks_wpAny_isType_cls hoD rfl ⟨rfl, ?_⟩
  refine ks_wpAny_call_super hoD rfl ha1 rfl (fun c e => nomatch e) (looks_mroIn X1 F.self) (fun h2 e2 k2 => ?_)
  have X2 : K.In h2 := X1.keeps k2
  have ha2 := k2 _ _ ha1
  have I2 : InstAt h2 a (PySem.HandSPX.excO C t0) C none := ⟨ha2, rfl, rfl, trivial⟩
  refine kxs_getMethod kxs_ValueError e2 (looks_opaque X2 F.op) (l₀ := .ref C :: bmC) (fun A Q E s k q => wpAny_bind ((looks_clsIn X2 hcl) A _ E s k (wpAny_pure q))) rfl X2 (by
    have z := F.sup
    unfold ks_superIn at z
    rw [hcl] at z
    exact z) (I2.type.andThen (looks_subIn X2 F.vE)) hne rfl ?_
  -- the wrapper is called
  have N : News ({} : Heap) (h2.objs.size + 1) (h2.push (kxs_mw "ValueError.__init__" a)) [(h2.objs.size, kxs_mw "ValueError.__init__" a)] := fun p hp => by
    have e : p = (h2.objs.size, kxs_mw "ValueError.__init__" a) := by simpa using hp
    subst e
    exact ⟨Heap.get?_push_size _ rfl, Nat.ne_of_lt (Nat.lt_succ_self _), rfl⟩
  have k3 : ∀ b o, h2.get? b = some o → (h2.push (kxs_mw "ValueError.__init__" a)).get? b = some o := fun b o e => Heap.get?_push_of_some _ e
  refine kxs_callWith1 N (List.mem_singleton.mpr rfl) (Calls.spliced_cons (Calls.Constant_str (pos := p3) (k := j) (Calls.spliced_nil ⟨Heap.get?_push_size _ rfl, ?_⟩)))
  refine mw_call F.T (X2.keeps k3) (Heap.get?_push_size _ rfl) (k3 _ _ ha2) (by show 1 ≤ sizeLine; decide) fun h4 t1 k4 ha4 => ?_
  have k14 : ∀ b o, b ≠ a → h1.get? b = some o → h4.get? b = some o := fun b o hb e => k4 b o hb (k3 b o (k2 b o e))
  have X4 : K.In h4 := fun b o e => k14 b o (fun z => by rw [z, hna] at e; cases e) (X1 _ _ e)
  have hloc4 : h4.Ns env.locals (fun x => (([("self", .ref a), (pv, v)] : List (Str × Value)).reverse).lookup x) := by
    obtain ⟨oL, es, ep, hL, r⟩ := hns'
    refine ⟨oL, es, ep, k14 _ _ (fun z => ?_) hL, r⟩
    rw [eloc] at z
    exact absurd (Heap.lt_size ha) (by rw [← z]; exact Nat.lt_irrefl _)
  refine wpAt_of_wpAny (wpAny_execs_cons (plainObj_wpAny_Assign_Attribute ?_))
  have nm : ∀ {x : Str} {u : Value} {pos : Pos} {s' : Shared} {Q : Value → Shared → Prop} {E : Value → Shared → Prop}, s'.heap = h4 → scope.names.lookup x = some .local → (fun x => (([("self", .ref a), (pv, v)] : List (Str × Value)).reverse).lookup x) x = some u → (x == ("__debug__" : Str)) = false → Q u s' → wpAny (model P w) (A.deeper env) (eval (.Name x pos) env) Q E s' := fun {x u pos s' Q E} hh hx hm hd hq => by
    subst henv
    exact ldc hk (by rw [kind]; exact hx) (by rw [hh]; rw [eloc] at hloc4; exact hloc4) hm hq hd
  refine nm rfl kpv mPv hdb (nm rfl kself mSelf (by decide) ?_)
  refine set_plain X4 (ox := PySem.HandSPX.excO C t1) (od := none) ⟨ha4, rfl, rfl, trivial⟩ F.T.sa ?_
  refine PySem.HandSPX.exc_osa X4 ha4 hcl (show PySem.HandSPX.refsVE (.ref C :: bmC) = true from hbm) rfl F.no (fun h5 tk5 dx k5 dn dne hx5 hn5 => ?_)
  refine wpAny_execs_nil (h h5 dx t1 tk5 (fun b o hb e => k5 b o hb (k14 b o hb (hk1 b o e))) ?_ dne hx5 hn5)
  cases e : hp.get? dx with
  | none => rfl
  | some o => exact absurd (Heap.lt_size (k14 dx o dne (hk1 dx o e))) (Nat.not_lt.mpr dn)
end
end RM
end
section
set_option Elab.async false
set_option linter.all false
set_option maxRecDepth 100000
set_option autoImplicit false
/-! own exceptions made: for raise -/
namespace RM
open PySem PySem.Spec PyProof.Rows L2
theorem obj_of {P : Program} {w : World} {H : Hp} {h : Heap} {a : Addr} {o : HO} (x : ObjOk P w H h a o) : ∃ ob, h.get? a = some ob := by
  cases o with
  | lst xs => obtain ⟨_, _, _, _, e⟩ := x; exact ⟨_, e⟩
  | tup xs => obtain ⟨_, _, _, ob, e, _⟩ := x; exact ⟨_, e⟩
  | dK kvs => obtain ⟨_, _, _, _, o, _, _, e, _⟩ := x; exact ⟨_, e⟩
  | dT kvs => obtain ⟨_, _, _, _, o, _, _, e, _⟩ := x; exact ⟨_, e⟩
  | set S n => obtain ⟨o, _, _, _, e, _⟩ := x; exact ⟨_, e⟩
  | ins C dx fs => obtain ⟨_, _, _, e, _⟩ := x; exact ⟨_, e⟩
  | own y => exact x
  | xd fs => obtain ⟨_, ⟨_, _, _, e, _⟩, _⟩ := x; exact ⟨_, e⟩
  | rng lo hi => obtain ⟨_, _, _, e⟩ := x; exact ⟨_, e⟩
  | frz ob u => obtain ⟨e, _⟩ := x; exact ⟨_, e⟩
  | tbl ps => exact ⟨_, x⟩
  | met f y => exact ⟨_, x⟩
  | ext φ => obtain ⟨_, e, _⟩ := x; exact e
theorem mkx_ok {X : Cx} {f : Str} {Ca fI : Addr} {e : Expr} {te : TE} {x : Str} {p p2 : Pos} {k : Nat} (F : XinF X.prog X.K Ca f fI) (hr : Room k X.A) (hms : X.mg "super" = none) (hg : Gl X x) (hm : X.mg x = some (.ref Ca)) (hdb : (x == ("__debug__" : Str)) = false) (hs : isStarred e = false) (he : PE X e te) :
    PMk X (.Call (.Name x p) [e] [] p2) (tMkx Ca f te) := by
  intro pins s σ H Q I h
  obtain ⟨nm, q, N, bs, bm, sn, sub, ab, col, dd, k0, k1, k2, k3, k5, hC, hbm⟩ := F.T.cls
  have s1 := starEach_plain (es := []) (env := X.env) hs
  refine wpAny_Call_Name_kw (ld_glob I hg hm ?_ hdb)
  refine PySem.W.callWith_K (h₀ := X.base) I.ok.mod.kin F.T.kC (thn ((pa_cons he pa_nil s1).run p2 pins s σ H (fun vs H1 => match vs with | [v] => ∀ p, H1 p = none → Q (.ref Ca) (some p) (upd H1 p (.xd [(f, v)])) | _ => False) I h) fun us s1 ⟨vs, H1, I1, r1, q1⟩ => ⟨I1.kIn, ?_⟩) s1 rfl
  obtain ⟨v, rfl⟩ : ∃ v, vs = [v] := by
    match vs, q1 with
    | [v], _ => exact ⟨v, rfl⟩
  cases r1 with
  | @cons _ u0 _ ur rv rr =>
  cases rr
  show wpAny _ _ (call (.ref Ca) [u0]) _ _ _
  obtain ⟨hp, g, dr, tk, os⟩ := s1
  have hsz : hp.objs.size ≤ hp.objs.size + 1 := Nat.le_succ _
  have hn : H1 (hp.objs.size + 1) = none := I1.hok.fresh hsz
  have kk : ∀ b o, hp.get? b = some o → ((hp.push (PySem.W.kdv_tup [u0])).push (PySem.HandSPX.excO Ca hp.objs.size)).get? b = some o := fun b o e => Heap.get?_push_of_some _ (Heap.get?_push_of_some _ e)
  have hget : ((hp.push (PySem.W.kdv_tup [u0])).push (PySem.HandSPX.excO Ca hp.objs.size)).get? (hp.objs.size + 1) = some (PySem.HandSPX.excO Ca hp.objs.size) := by heap_get
  have I2 : Inv X pins σ (upd H1 (hp.objs.size + 1) (exo (hp.objs.size + 1) Ca none)) ⟨(hp.push (PySem.W.kdv_tup [u0])).push (PySem.HandSPX.excO Ca hp.objs.size), g, dr, tk, os⟩ :=
    I1.laid (t' := tk) (a := hp.objs.size + 1) (o := exo (hp.objs.size + 1) Ca none) (h' := (hp.push (PySem.W.kdv_tup [u0])).push (PySem.HandSPX.excO Ca hp.objs.size)) kk hsz (exo_ok hget)
  have hna : X.K.lookup (hp.objs.size + 1) = none := by
    cases e : X.K.lookup (hp.objs.size + 1) with
    | none => rfl
    | some o => exact absurd (Heap.lt_size (I1.bk _ _ (I1.ok.mod.kin _ _ e))) (Nat.not_lt.mpr hsz)
  obtain ⟨mb, hb, hmb⟩ := I1.ok.mod.blt
  refine wpAny_call (PySem.HandSPX.call_own PySem.F.excBase_ValueError (fun Y => PySem.HandSPX.refsVE_contains Y bm hbm) (I1.kIn _ _ hC) (PySem.W.looks_findIn I1.kIn F.iC) (fun self => PySem.W.bind_fn I1.kIn self F.tI) (by show 1 ≤ sizeLine; decide)
    (xinit_run F I2.kIn I2.nolimit (I1.ok.mod.glob.keeps fun b o e => I2.bk b o e) (hb.keeps fun b o e => I2.bk b o e) hmb hms hget hna (by rw [make_depth]; have := hr.dp; omega) fun h' dx t1 tk' kp dn dne hx hns => ⟨rfl, ?_⟩))
  generalize ha : hp.objs.size + 1 = a at *
  generalize hhp2 : (hp.push (PySem.W.kdv_tup [u0])).push (PySem.HandSPX.excO Ca hp.objs.size) = hp2 at *
  have hd1 : H1 dx = none := by
    cases e : H1 dx with
    | none => rfl
    | some o =>
      obtain ⟨o', e'⟩ := obj_of (I1.hok dx o e)
      rw [kk _ _ e'] at dn; cases dn
  have nd : ∀ {b : Addr} {o : Obj}, hp2.get? b = some o → b ≠ dx := fun {b o} q z => by rw [z, dn] at q; cases q
  have e1 : upd H1 a (exo a Ca none) a = some (exo a Ca none) := upd_same
  have hnd : upd H1 a (exo a Ca none) dx = none := by rw [upd_ne dne]; exact hd1
  have na : ∀ {b : Addr}, upd H1 a (exo a Ca none) b = none → b ≠ a := fun {b} n z => by rw [z, e1] at n; cases n
  have Un1 : Un (frs X.stack) [] (upd H1 a (exo a Ca none)) (upd (upd (upd H1 a (exo a Ca none)) dx (exd dx [(f, v)])) a (exo a Ca (some dx))) hp2 h' := {
    keep := fun b o q n _ _ => kp b o (na n) q
    slot := fun b o q n _ _ => ⟨o.slots, kp b o (na n) q⟩
    free := fun b o q n _ => by rw [upd_ne (na n), upd_ne (nd q)]; exact n
    there := fun b o q _ => by
      by_cases hb : b = a
      · exact ⟨_, by rw [hb]; exact hx⟩
      · exact ⟨o, kp b o hb q⟩
    tups := fun b xs q => by rw [upd_ne (at_ne e1 q exo_tup), upd_ne (ne_of_none q hnd)]; exact q
    frzs := fun b o v q => by rw [upd_ne (at_ne e1 q exo_frz), upd_ne (ne_of_none q hnd)]; exact q
    tbls := fun b ps q => ⟨#[], by rw [upd_ne (at_ne e1 q exo_tbl), upd_ne (ne_of_none q hnd), q]; simp⟩ }
  have hok : HOk X.prog X.w (upd (upd (upd H1 a (exo a Ca none)) dx (exd dx [(f, v)])) a (exo a Ca (some dx))) h' := fun b o q => by
    by_cases hb : b = a
    · subst hb
      rw [upd_same] at q
      cases q
      exact exo_ok hx
    · rw [upd_ne hb] at q
      by_cases hd : b = dx
      · subst hd
        rw [upd_same] at q
        cases q
        exact exd_ok hns (relO_put (fs := []) rv fun g => True.intro)
      · rw [upd_ne hd] at q
        exact (I2.hok b o q).stay (fun c v hc z => kp c v (by
            rcases hc with hc | hc
            · rw [hc]
              exact hb
            · exact at_ne e1 hc exo_own) z)
          (fun c hc => by rw [upd_ne (at_ne e1 hc exo_own), upd_ne (ne_of_none hc hnd)]; exact hc) (fun c xs hc => by rw [upd_ne (at_ne e1 hc exo_tup), upd_ne (ne_of_none hc hnd)]; exact hc)
  refine mk_end (raises_own F.T.exC F.T.tyC) I1 (by omega) kk Un1 hok rfl I1.bare upd_same (by rw [upd_ne dne, upd_same]) hd1 ?_
  have eH : upd (del (upd (upd (upd H1 a (exo a Ca none)) dx (exd dx [(f, v)])) a (exo a Ca (some dx))) a) dx (.xd [(f, v)]) = upd H1 dx (.xd [(f, v)]) := by
    funext b
    by_cases hb : b = dx
    · rw [hb, upd_same, upd_same]
    · rw [upd_ne hb, upd_ne hb]
      by_cases hba : b = a
      · rw [hba, del_same]; exact hn.symm
      · rw [del_ne hba, upd_ne hba, upd_ne hb, upd_ne hba]
  rw [eH]
  exact q1 dx hd1
end RM
end
section
set_option Elab.async false
set_option linter.all false
set_option maxRecDepth 100000
set_option autoImplicit false
/-! draws: the state in the heap, its oracle -/
namespace RM
open PySem PySem.Spec PyProof.Rows L2

def drawMost : Nat := 2 ^ 50
/-- a number below n is drawn -/
def drawM (n : Nat) : M D := fun S => if S.beg && decide (S.n < drawMost) then .draw n fun i => .ret (.int (i : Nat)) { S with n := S.n + 1 } else .fail
def orcNext : List D → M D
  | [.drw, .int n] => if 0 < n ∧ n < 1073741824 then drawM n.toNat else M.fail
  | _ => M.fail
/-- a script that may be drawn from -/
def scriptOk (ns : List Int) : Bool := decide (ns.length ≤ 63) && ns.all fun i => decide (i.natAbs < 2 ^ 1048576)
def orcBegun : List D → M D
  | [.scr ns] => fun S => if !S.beg && decide (S.n = 0) && scriptOk ns then .ret .drw { S with beg := true } else .fail
  | _ => M.fail

/-- the cells, what is left of the great ones, how many draws were from the cells -/
def Dr (H : Hp) (z c l : Addr) (ns ms : List Int) (n : Int) : Prop :=
  H z = some (.dK [(.inr "cells", .ref c), (.inr "left", .ref l), (.inr "at", .int n)]) ∧ H c = some (.lst (ns.map V.int)) ∧ H l = some (.lst (ms.map V.int)) ∧ l ≠ z ∧ c ≠ z ∧ c ≠ l
section
variable {Y : Tx} {G : Gh} {H H' : Hp} {S : Sto} {z c l l' : Addr} {ns ms ms' : List Int} {n n' : Int}
theorem dr_open (ok : GOk Y G H S) (hz : G.dr = some (z, c)) : ∃ l ns ms n, Dr H z c l ns ms n ∧ G.Mu z ∧ G.Mu l ∧ G.Fz c ∧ ns.length ≤ 63 ∧ ms.length ≤ 63 ∧ (∀ i ∈ ns, i.natAbs < 2 ^ 1048576) ∧ (∀ i ∈ ms, 0 ≤ i ∧ i.natAbs < 2 ^ 1048576) ∧ 0 ≤ n ∧ n ≤ S.n := by
  obtain ⟨l, ns, ms, n, h1, h2, h3, h4, h5, h6, h7, r⟩ := ok.dr _ hz
  have cz : c ≠ z := fun e => ok.fzmu c h6 (e ▸ h2)
  have cl : c ≠ l := fun e => ok.fzmu c h6 (e ▸ h3)
  exact ⟨l, ns, ms, n, ⟨h1, h5, h7, h4, cz, cl⟩, h2, h3, h6, r⟩
/-- the dict and its list are changed; l' may be new -/
theorem dr_step {S' : Sto} (ok : GOk Y G H S) (hz : G.dr = some (z, c)) (mz : G.Mu z) (fc : G.Fz c) (d' : Dr H' z c l' ns ms' n') (hl : G.Mu l' ∨ H l' = none) (keep : ∀ a o, H a = some o → ¬ G.Mu a → H' a = some o) (there : ∀ a, H a ≠ none → H' a ≠ none)
    (kp2 : ∀ a o, H' a = some o → H a = some o ∨ G.Mu a ∨ a = l') (b1 : ns.length ≤ 63) (b2 : ms'.length ≤ 63) (b3 : ∀ i ∈ ns, i.natAbs < 2 ^ 1048576) (b4 : ∀ i ∈ ms', 0 ≤ i ∧ i.natAbs < 2 ^ 1048576) (b5 : 0 ≤ n') (b6 : n' ≤ S'.n) (bg : S'.beg = S.beg)
    (nt : ∀ a o, G.Mu a → H' a = some o → ¬ Solid o) : Ext G H { G with Mu := fun a => G.Mu a ∨ a = l' } H' ∧ GOk Y { G with Mu := fun a => G.Mu a ∨ a = l' } H' S' := by
  obtain ⟨e1, e2, e3, e4, e5, e6⟩ := d'
  have nl : H l' = none → ¬ G.Fz l' := fun h f => ok.fzT l' f h
  have fzl : ∀ a, G.Fz a → a ≠ l' := fun a f e => by
    subst e
    rcases hl with h | h
    · exact ok.fzmu a f h
    · exact nl h f
  refine ⟨⟨fun _ h => h, fun _ h => .inl h, fun _ h => h, keep, there, fun _ h => .inl h, fun a h => h.elim .inl fun e => by subst e; exact hl, fun _ h => .inl h⟩,
    ⟨fun a f => fun m => m.elim (ok.fzmu a f) (fzl a f), fun a f => there a (ok.fzT a f), fun a m => m.elim (fun m => there a (ok.muT a m)) fun e => by (rw [e, e3]; exact fun z => nomatch z), fun a o h s m => ?_, fun z' h' => ?_, fun h => ?_⟩⟩
  · rcases m with m | rfl
    · exact nt a o m h s
    · rw [e3] at h; cases h; exact s
  · have e : z' = (z, c) := Option.some.inj (h'.symm.trans hz)
    subst e
    exact ⟨l', ns, ms', n', e1, .inl mz, .inr rfl, e4, e2, fc, e3, b1, b2, b3, b4, b5, b6⟩
  · exact ok.dr0 (bg ▸ h)
end
end RM
end
section
set_option Elab.async false
set_option linter.all false
set_option maxRecDepth 100000
set_option autoImplicit false
/-! draws: what _law_next's statements read and write -/
namespace RM
open PySem PySem.Spec PyProof.Rows L2

section
variable {Y : Tx} {G : Gh} {H H0 : Hp} {S : Sto} {z c l : Addr} {ns ms : List Int} {n : Int} {K : PySem.W.Frag} {σ : L2.St} {B : Gh → Hp → Prop}
theorem key_ne {a b : Str} (h : (a == b) = false) : ¬ (Sum.inr a : Key) = Sum.inr b := fun e => by
  have := Sum.inr.inj e
  rw [this] at h
  simp at h
theorem v_left : valV [((.inr "cells" : Key), V.ref c), (.inr "left", .ref l), (.inr "at", .int n)] (.inr "left") = some (.ref l) := by
  rw [valV_neg (key_ne (by decide)), valV_pos rfl]
theorem v_cells : valV [((.inr "cells" : Key), V.ref c), (.inr "left", .ref l), (.inr "at", .int n)] (.inr "cells") = some (.ref c) := by
  rw [valV_pos rfl]
theorem v_at : valV [((.inr "cells" : Key), V.ref c), (.inr "left", .ref l), (.inr "at", .int n)] (.inr "at") = some (.int n) := by
  rw [valV_neg (key_ne (by decide)), valV_neg (key_ne (by decide)), valV_pos rfl]
theorem p_left {v : V} : putK [((.inr "cells" : Key), V.ref c), (.inr "left", .ref l), (.inr "at", .int n)] (.inr "left") v = [(.inr "cells", .ref c), (.inr "left", v), (.inr "at", .int n)] := by rfl
theorem p_at {v : V} : putK [((.inr "cells" : Key), V.ref c), (.inr "left", .ref l), (.inr "at", .int n)] (.inr "at") v = [(.inr "cells", .ref c), (.inr "left", .ref l), (.inr "at", v)] := by rfl

/-- m['left'] -/
def tKey (k : Str) : TE := tDGet (tVar 0) (tC (.str k))
theorem t_left {Q : VK} (d : Dr H z c l ns ms n) (hs : σ[0]? = some (some (.ref z))) (q : Q (.ref l) H) : tKey "left" σ H Q := ⟨.ref z, hs, z, .ref l, rfl, by
  have := DGet.k (k := (.inr "left" : Key)) d.1
  rw [v_left] at this
  exact this, q⟩
theorem t_cells {Q : VK} (d : Dr H z c l ns ms n) (hs : σ[0]? = some (some (.ref z))) (q : Q (.ref c) H) : tKey "cells" σ H Q := ⟨.ref z, hs, z, .ref c, rfl, by
  have := DGet.k (k := (.inr "cells" : Key)) d.1
  rw [v_cells] at this
  exact this, q⟩
theorem t_at {Q : VK} (d : Dr H z c l ns ms n) (hs : σ[0]? = some (some (.ref z))) (q : Q (.int n) H) : tKey "at" σ H Q := ⟨.ref z, hs, z, .int n, rfl, by
  have := DGet.k (k := (.inr "at" : Key)) d.1
  rw [v_at] at this
  exact this, q⟩
/-- ints as data -/
theorem dp_ints : ∀ ms : List Int, DpAll K H (ms.map V.int) (ms.map PyData.int)
  | [] => .nil
  | m :: ms => .cons (.int m) (dp_ints ms)
theorem lay_ints : ∀ ms : List Int, PyData.canLayAll0 (ms.map PyData.int) = true
  | [] => by simp [PyData.canLayAll0]
  | m :: ms => by simp [PyData.canLayAll0, PyData.canLay0, lay_ints ms]
theorem depth_ints : ∀ ms : List Int, PyData.depthAll (ms.map PyData.int) ≤ 1
  | [] => by simp [PyData.depthAll]
  | m :: ms => by
    have := depth_ints ms
    simp [PyData.depthAll, PyData.depth]
    omega
theorem shaped_ints (ms : List Int) : SeqAt.shaped (.list (ms.map PyData.int)) = true := by
  unfold SeqAt.shaped
  rw [Bool.and_eq_true, decide_eq_true_eq]
  refine ⟨by simp [PyData.canLay0, lay_ints ms], ?_⟩
  have := depth_ints ms
  simp only [PyData.depth]
  omega
/-- m['left'] != [] -/
def qLeft (K : PySem.W.Frag) : TT := tTest (tOp (rNeD K) (tKey "left") (tLst tNil))
theorem q_left {Q : Bool → Hp → Prop} (ok : GOk Y G H S) (b : B G H) (bs : Bs Y H0 B) (d : Dr H z c l ns ms n) (hs : σ[0]? = some (some (.ref z))) (q : ∀ H1, B G H1 → GOk Y G H1 S → Dr H1 z c l ns ms n → (∀ a o, H a = some o → H1 a = some o) → Q (!ms.isEmpty) H1) : qLeft K σ H Q := by
  refine t_left d hs ⟨Nat.zero_le _, fun p np => ?_⟩
  have k : ∀ a o, H a = some o → upd H p (.lst []) a = some o := fun a o h => by rw [upd_ne (ne_of_none h np)]; exact h
  refine ⟨.list (ms.map PyData.int), .list [], .lst (.of (k _ _ d.2.2.1)) (dp_ints ms), .lst (.of upd_same) .nil, shaped_ints ms, shaped_ints [], _, rfl, ?_⟩
  have e : (!PyData.eqv (.list (ms.map PyData.int)) (.list [])) = !ms.isEmpty := by
    cases ms <;> rfl
  rw [e]
  exact q _ (bs.ext b ok (Ext.new ok np)) (ok.new np) ⟨k _ _ d.1, k _ _ d.2.1, k _ _ d.2.2.1, d.2.2.2⟩ k

/-- the draws' state, with ms left -/
def Zs (Y : Tx) (B : Gh → Hp → Prop) (z : Addr) (S : Sto) (ns : List Int) (n : Int) (ms : List Int) (H : Hp) : Prop :=
  ∃ G c l, GOk Y G H S ∧ B G H ∧ G.dr = some (z, c) ∧ Dr H z c l ns ms n ∧ G.Mu z ∧ G.Mu l ∧ G.Fz c ∧ ns.length ≤ 63 ∧ ms.length ≤ 63 ∧ (∀ i ∈ ns, i.natAbs < 2 ^ 1048576) ∧ (∀ i ∈ ms, 0 ≤ i ∧ i.natAbs < 2 ^ 1048576) ∧ 0 ≤ n ∧ n ≤ S.n
theorem zs_open (ok : GOk Y G H S) (b : B G H) (hz : G.dr = some (z, c)) : ∃ ns n ms, Zs Y B z S ns n ms H := by
  obtain ⟨l, ns, ms, n, d, mz, ml, fc, r⟩ := dr_open ok hz
  exact ⟨ns, n, ms, G, c, l, ok, b, hz, d, mz, ml, fc, r⟩
/-- a new list is left -/
theorem zs_left (bs : Bs Y H0 B) (h : Zs Y B z S ns n ms H) {p : Addr} {ms' : List Int} (np : H p = none) (b2 : ms'.length ≤ 63) (b4 : ∀ i ∈ ms', 0 ≤ i ∧ i.natAbs < 2 ^ 1048576) :
    ∀ {c l : Addr}, Dr H z c l ns ms n → Zs Y B z S ns n ms' (upd (upd H p (.lst (ms'.map V.int))) z (.dK [(.inr "cells", .ref c), (.inr "left", .ref p), (.inr "at", .int n)])) := by
  intro c l d
  obtain ⟨G, c', l', ok, b, hz, d', mz, ml, fc, q1, q2, q3, q4, q5, q6⟩ := h
  have ec : c' = c := by
    have := d.1.symm.trans d'.1
    cases this; rfl
  subst ec
  have zp : z ≠ p := fun e => by rw [← e, d.1] at np; cases np
  have cp : c' ≠ p := fun e => by rw [← e, d.2.1] at np; cases np
  have dd : Dr (upd (upd H p (.lst (ms'.map V.int))) z (.dK [(.inr "cells", .ref c'), (.inr "left", .ref p), (.inr "at", .int n)])) z c' p ns ms' n :=
    ⟨upd_same, by rw [upd_ne d.2.2.2.2.1, upd_ne cp]; exact d.2.1, by rw [upd_ne zp.symm, upd_same], zp.symm, d.2.2.2.2.1, cp⟩
  have key : ∀ a o, upd (upd H p (.lst (ms'.map V.int))) z (.dK [(.inr "cells", .ref c'), (.inr "left", .ref p), (.inr "at", .int n)]) a = some o → a = z ∨ a = p ∨ H a = some o := fun a o h => by
    by_cases e1 : a = z
    · exact .inl e1
    · rw [upd_ne e1] at h
      by_cases e2 : a = p
      · exact .inr (.inl e2)
      · rw [upd_ne e2] at h; exact .inr (.inr h)
  obtain ⟨ex, ok'⟩ := dr_step (S' := S) ok hz mz fc dd (.inr np) (fun a o h m => by
      have n1 : a ≠ z := fun e => m (by rw [e]; exact mz)
      rw [upd_ne n1, upd_ne (ne_of_none h np)]; exact h) (fun a h => by
      by_cases e1 : a = z
      · rw [e1, upd_same]; exact fun y => nomatch y
      · rw [upd_ne e1]
        by_cases e2 : a = p
        · rw [e2, upd_same]; exact fun y => nomatch y
        · rw [upd_ne e2]; exact h)
    (fun a o h => (key a o h).elim (fun e => .inr (.inl (by rw [e]; exact mz))) fun e => e.elim (fun e => .inr (.inr e)) .inl) q1 b2 q3 b4 q5 q6 rfl (fun a o m h s => by
      by_cases e1 : a = z
      · rw [e1, upd_same] at h; cases h; exact s
      · rw [upd_ne e1] at h
        by_cases e2 : a = p
        · rw [e2, upd_same] at h; cases h; exact s
        · rw [upd_ne e2] at h; exact ok.solid a o h s m)
  exact ⟨_, c', p, ok', bs.ext b ok ex, hz, dd, .inl mz, .inr rfl, fc, q1, b2, q3, b4, q5, q6⟩
theorem Zs.ext {G' : Gh} {H' : Hp} {c l : Addr} (bs : Bs Y H0 B) (ok : GOk Y G H S) (b : B G H) (e : Ext G H G H') (ok' : GOk Y G H' S) (hz : G.dr = some (z, c)) (d : Dr H' z c l ns ms n) (mz : G.Mu z) (ml : G.Mu l) (fc : G.Fz c)
    (q : ns.length ≤ 63 ∧ ms.length ≤ 63 ∧ (∀ i ∈ ns, i.natAbs < 2 ^ 1048576) ∧ (∀ i ∈ ms, 0 ≤ i ∧ i.natAbs < 2 ^ 1048576) ∧ 0 ≤ n ∧ n ≤ S.n) : Zs Y B z S ns n ms H' := ⟨G, c, l, ok', bs.ext b ok e, hz, d, mz, ml, fc, q⟩
/-- m['left'] != [], from a state -/
theorem zq_left {Q : Bool → Hp → Prop} (bs : Bs Y H0 B) (h : Zs Y B z S ns n ms H) (hs : σ[0]? = some (some (.ref z))) (q : ∀ H1, Zs Y B z S ns n ms H1 → Q (!ms.isEmpty) H1) : qLeft K σ H Q := by
  obtain ⟨G, c, l, ok, b, hz, d, mz, ml, fc, r⟩ := h
  exact q_left ok b bs d hs fun H1 b1 ok1 d1 _ => q H1 ⟨G, c, l, ok1, b1, hz, d1, mz, ml, fc, r⟩
def qZero (K : PySem.W.Frag) : TT := L2.tB (tEqI (tOp (rIxL K) (tKey "left") (tC (.int 0))) (tC (.int 0)))
theorem zq_zero {Q : Bool → Hp → Prop} {m : Int} {r : List Int} (h : Zs Y B z S ns n (m :: r) H) (hs : σ[0]? = some (some (.ref z))) (q : ∀ b, Q b H) : qZero K σ H Q := by
  obtain ⟨G, c, l, ok, b, hz, d, _⟩ := h
  refine t_left d hs ⟨l, (m :: r).map V.int, 0, .int m, rfl, rfl, .of d.2.2.1, by simp [atI, ixN], m, 0, rfl, rfl, _, rfl, q _⟩
def sDrop (K : PySem.W.Frag) : TS := sDPut (tVar 0) (tC (.str "left")) (tSl (rSlL K) (tKey "left") (tPart (tC (.int 1))) tNoPart)
theorem z_drop {D : Ends} {m : Int} {r : List Int} (bs : Bs Y H0 B) (h : Zs Y B z S ns n (m :: r) H) (hs : σ[0]? = some (some (.ref z))) (q : ∀ H1, Zs Y B z S ns n r H1 → D.nx σ H1) : sDrop K D σ H := by
  obtain ⟨G, c, l, ok, b, hz, d, mz, ml, fc, q1, q2, q3, q4, q5⟩ := id h
  refine t_left d hs ⟨1, rfl, l, (m :: r).map V.int, rfl, .of d.2.2.1, fun p np => ⟨.ref z, hs, ?_⟩⟩
  have e : cutV ((m :: r).map V.int) (some 1) none = r.map V.int := by
    unfold cutV HT.sIx
    simp
    exact List.take_of_length_le (by simp)
  rw [e]
  have dz : upd H p (.lst (r.map V.int)) z = some (.dK [(.inr "cells", .ref c), (.inr "left", .ref l), (.inr "at", .int n)]) := by rw [upd_ne (ne_of_none d.1 np)]; exact d.1
  have put := DPut.k (k := (.inr "left" : Key)) (v := V.ref p) dz (by show 3 < sizeLine; decide)
  rw [p_left] at put
  exact ⟨z, _, rfl, put, q _ (zs_left bs h np (by have := q2; simp at this; omega) (fun i hi => q4 i (List.mem_cons_of_mem _ hi)) d)⟩
/-- the while ahead -/
theorem z_while {D : Ends} (bs : Bs Y H0 B) (h : Zs Y B z S ns n ms H) (hs : σ[0]? = some (some (.ref z))) (q : ∀ ms' H1, Zs Y B z S ns n ms' H1 → D.nx σ H1) : tWhile (tAnd (qLeft K) (qZero K)) (sDrop K) D σ H := by
  refine ⟨fun m σ' H' => σ' = σ ∧ ∃ ms', ms'.length = m ∧ Zs Y B z S ns n ms' H', ⟨ms.length, rfl, ms, rfl, h⟩, ?_⟩
  rintro m σ' H' ⟨rfl, ms', rfl, h'⟩
  refine zq_left bs h' hs fun H1 h1 => ?_
  cases ms' with
  | nil => exact q _ _ h1
  | cons m r =>
    refine zq_zero h1 hs fun b => ?_
    cases b with
    | false => exact q _ _ h1
    | true => exact ⟨fun σ2 H2 => ∃ m', m' < (m :: r).length ∧ σ2 = σ' ∧ ∃ ms', ms'.length = m' ∧ Zs Y B z S ns n ms' H2, fun _ _ z => z, z_drop bs h1 hs fun H2 h2 => ⟨r.length, Nat.lt_succ_self _, rfl, r, rfl, h2⟩⟩
/-- the list that is left is changed in its place -/
theorem zs_set {S' : Sto} (bs : Bs Y H0 B) (h : Zs Y B z S ns n ms H) {ms' : List Int} (b2 : ms'.length ≤ 63) (b4 : ∀ i ∈ ms', 0 ≤ i ∧ i.natAbs < 2 ^ 1048576) (b6 : n ≤ S'.n) (bg : S'.beg = S.beg) {c l : Addr} (d : Dr H z c l ns ms n) : Zs Y B z S' ns n ms' (upd H l (.lst (ms'.map V.int))) := by
  obtain ⟨G, c', l', ok, b, hz, d', mz, ml, fc, q1, q2, q3, q4, q5, q6⟩ := h
  have ecl : c' = c ∧ l' = l := by
    have := d.1.symm.trans d'.1
    cases this; exact ⟨rfl, rfl⟩
  obtain ⟨rfl, rfl⟩ := ecl
  have dd : Dr (upd H l' (.lst (ms'.map V.int))) z c' l' ns ms' n := ⟨by rw [upd_ne d.2.2.2.1.symm]; exact d.1, by rw [upd_ne d.2.2.2.2.2]; exact d.2.1, upd_same, d.2.2.2.1, d.2.2.2.2.1, d.2.2.2.2.2⟩
  obtain ⟨ex, ok'⟩ := dr_step (S' := S') ok hz mz fc dd (.inl ml) (fun a o h m => by
      have n1 : a ≠ l' := fun e => m (by rw [e]; exact ml)
      rw [upd_ne n1]; exact h) (fun a h => by
      by_cases e1 : a = l'
      · rw [e1, upd_same]; exact fun y => nomatch y
      · rw [upd_ne e1]; exact h)
    (fun a o h => by
      by_cases e1 : a = l'
      · exact .inr (.inr e1)
      · rw [upd_ne e1] at h; exact .inl h) q1 b2 q3 b4 q5 b6 bg (fun a o m h s => by
      by_cases e1 : a = l'
      · rw [e1, upd_same] at h; cases h; exact s
      · rw [upd_ne e1] at h; exact ok.solid a o h s m)
  exact ⟨_, c', l', ok', bs.ext b ok ex, hz, dd, .inl mz, .inr rfl, fc, q1, b2, q3, b4, q5, b6⟩
/-- m['at'] = v -/
theorem zs_at {S' : Sto} (bs : Bs Y H0 B) (h : Zs Y B z S ns n ms H) {n' : Int} (b5 : 0 ≤ n') (b6 : n' ≤ S'.n) (bg : S'.beg = S.beg) {c l : Addr} (d : Dr H z c l ns ms n) : Zs Y B z S' ns n' ms (upd H z (.dK [(.inr "cells", .ref c), (.inr "left", .ref l), (.inr "at", .int n')])) := by
  obtain ⟨G, c', l', ok, b, hz, d', mz, ml, fc, q1, q2, q3, q4, q5, q6⟩ := h
  have ecl : c' = c ∧ l' = l := by
    have := d.1.symm.trans d'.1
    cases this; exact ⟨rfl, rfl⟩
  obtain ⟨rfl, rfl⟩ := ecl
  have dd : Dr (upd H z (.dK [(.inr "cells", .ref c'), (.inr "left", .ref l'), (.inr "at", .int n')])) z c' l' ns ms n' := ⟨upd_same, by rw [upd_ne d.2.2.2.2.1]; exact d.2.1, by rw [upd_ne d.2.2.2.1]; exact d.2.2.1, d.2.2.2⟩
  obtain ⟨ex, ok'⟩ := dr_step (S' := S') ok hz mz fc dd (.inl ml) (fun a o h m => by
      have n1 : a ≠ z := fun e => m (by rw [e]; exact mz)
      rw [upd_ne n1]; exact h) (fun a h => by
      by_cases e1 : a = z
      · rw [e1, upd_same]; exact fun y => nomatch y
      · rw [upd_ne e1]; exact h)
    (fun a o h => by
      by_cases e1 : a = z
      · exact .inr (.inl (by rw [e1]; exact mz))
      · rw [upd_ne e1] at h; exact .inl h) q1 q2 q3 q4 b5 b6 bg (fun a o m h s => by
      by_cases e1 : a = z
      · rw [e1, upd_same] at h; cases h; exact s
      · rw [upd_ne e1] at h; exact ok.solid a o h s m)
  exact ⟨_, c', l', ok', bs.ext b ok ex, hz, dd, .inl mz, .inr rfl, fc, q1, q2, q3, q4, b5, b6⟩
def rInt1 : List V → Hp → VK → Prop := fun xs H Q => (∃ i, xs = [.int i] ∧ Q (.int i) H) ∨ ∃ k, xs = [.bl k] ∧ Q (.int (if k then 1 else 0)) H
/-- the branch of great cells -/
def sGreat (K : PySem.W.Frag) : TS := tSeq (tAsg (tOp (rIxL K) (tKey "left") (tC (.int 0))) (gName 2)) (tSeq (tAsg (tOp (rI CDivW fun i j => .int (i / j)) (tVar 2) (tVar 1)) (gSub (tKey "left") (tC (.int 0)) rSetL))
  (tRet (tOp (rI (fun _ j => 0 < j) fun i j => .int (i % j)) (tCB rInt1 (tCons (tVar 2) tNil)) (tVar 1))))
theorem z_great {D : Ends} {m many : Int} {r : List Int} (bs : Bs Y H0 B) (h : Zs Y B z S ns n (m :: r) H) (hl : 7 ≤ σ.length) (hs : σ[0]? = some (some (.ref z))) (hm : σ[1]? = some (some (.int many))) (h0 : 0 < many) (h1 : many < 1073741824)
    (q : ∀ H1, Zs Y B z { S with n := S.n + 1 } ns n (m / many :: r) H1 → D.rt (.int (m % many)) H1) : sGreat K D σ H := by
  obtain ⟨G, c, l, ok, b, hz, d, mz, ml, fc, q1, q2, q3, q4, q5, q6⟩ := id h
  have hm0 := q4 m List.mem_cons_self
  have g0 : (σ.set 2 (some (.int m)))[0]? = some (some (.ref z)) := by rw [List.getElem?_set_ne (by decide)]; exact hs
  have g1 : (σ.set 2 (some (.int m)))[1]? = some (some (.int many)) := by rw [List.getElem?_set_ne (by decide)]; exact hm
  have g2 : (σ.set 2 (some (.int m)))[2]? = some (some (.int m)) := List.getElem?_set_self (by omega)
  have lg : many.natAbs.log2 < 9000 := by
    have : many.natAbs < 2 ^ 30 := by omega
    have h3 : many.natAbs ≠ 0 := by omega
    have := (Nat.log2_lt h3).mpr this
    omega
  refine t_left d hs ⟨l, (m :: r).map V.int, 0, .int m, rfl, rfl, .of d.2.2.1, by simp [atI, ixN], ?_⟩
  refine ⟨.int m, g2, .int many, g1, m, many, rfl, rfl, ⟨h0, lg⟩, ?_⟩
  refine t_left d g0 ⟨l, (m :: r).map V.int, 0, 0, rfl, rfl, d.2.2.1, by simp [ixN], ?_⟩
  refine ⟨.int m, g2, .inl ⟨m, rfl, .int many, g1, m, many, rfl, rfl, h0, ?_⟩⟩
  have e : ((m :: r).map V.int).set 0 (.int (m / many)) = (m / many :: r).map V.int := by simp
  rw [e]
  refine q _ (zs_set (S' := { S with n := S.n + 1 }) bs h (by simpa using q2) (fun i hi => ?_) (by show n ≤ ((S.n + 1 : Nat) : Int); omega) rfl d)
  rcases List.mem_cons.mp hi with rfl | hi
  · refine ⟨Int.ediv_nonneg hm0.1 (by omega), ?_⟩
    refine Nat.lt_of_le_of_lt ?_ hm0.2
    have : m / many ≤ m := Int.ediv_le_self _ hm0.1
    have := Int.ediv_nonneg hm0.1 (show 0 ≤ many by omega)
    omega
  · exact q4 i (List.mem_cons_of_mem _ hi)
end
end RM
end
section
set_option Elab.async false
set_option linter.all false
set_option maxRecDepth 100000
set_option autoImplicit false
/-! draws: the tail of _law_next -/
namespace RM
open PySem PySem.Spec PyProof.Rows L2

/-- cell = .., blend = .., return ..: many is 1, at 3, bits 4, cell 5, blend 6 -/
def nextTail : Ss :=
  .cons (.asg [5] (.ife (.val (.cmp .NotEq (.b 4) (.lst .nil)))
      (.bi .int1 (.cons (.sub (.b 4) (.bin .Mod (.bi .int1 (.cons (.bin .Add (.bin .Mult (.b 3) (.b 3)) (.bin .FloorDiv (.b 3) (.c (.int 2)))) .nil)) (.bi .len (.cons (.b 4) .nil)))) .nil)) (.c (.int 5))))
  (.cons (.asg [6] (.bin .Mod (.bi .int1 (.cons (.bin .Add (.bin .Add (.bin .Mult (.b 5) (.c (.int 40692))) (.bin .Mult (.b 3) (.c (.int 65539)))) (.bin .Mult (.bin .Mult (.c (.int 7001)) (.b 3)) (.b 3))) .nil)) (.c (.int 2147483399))))
  (.cons (.ret (.bin .Mod (.bi .int1 (.cons (.bin .FloorDiv (.bin .Mod (.bi .int1 (.cons (.bin .Add (.bin .Mult (.b 6) (.c (.int 48271))) (.bin .Mult (.c (.int 1013)) (.b 3))) .nil)) (.c (.int 2147483647))) (.c (.int 13))) .nil)) (.b 1)))
  .nil))
section
variable {kin : Kin} {C : Orc} {S : Sto}
theorem eqv_ints (ns : List Int) : PyData.eqv (.list (D.pds (ns.map D.int))) (.list (D.pds [])) = ns.isEmpty := by
  cases ns <;> rfl


theorem op_some {α : Type} (a : α) : (M.op (some a) : M α) = pure a := rfl
theorem exO_pure {α : Type} (a : α) (ρ : Fe) (k : α → M Out) : exO (pure a) ρ k = k a := rfl
theorem pures_ints : ∀ ns : List Int, D.pures (ns.map D.int) = true
  | [] => rfl
  | n :: ns => by simp [D.pures, D.pure, pures_ints ns]
theorem dpds_ints : ∀ ns : List Int, D.pds (ns.map D.int) = ns.map PyData.int
  | [] => rfl
  | n :: ns => by simp [D.pds, D.pd, dpds_ints ns]
theorem ne_empty (ns : List Int) : cmpD .NotEq (.lst (ns.map D.int)) (.lst []) = some (.bl (!ns.isEmpty)) := by
  unfold cmpD
  have h : D.okE (.lst (ns.map D.int)) (.lst []) = true := by
    unfold D.okE
    have h1 := depth_ints ns
    simp only [D.pure, D.pures, pures_ints, D.pd, D.pds, dpds_ints, Bool.and_true, Bool.true_and, decide_eq_true_eq, PyData.depth, PyData.depthAll]
    omega
  simp only [h, if_true]
  congr 2
  cases ns <;> rfl

theorem ne_nil0 : cmpD .NotEq (.lst []) (.lst []) = some (.bl false) := ne_empty []
theorem ne_cons0 (m : Int) (r : List Int) : cmpD .NotEq (.lst (.int m :: r.map D.int)) (.lst []) = some (.bl true) := ne_empty (m :: r)
theorem bMulR {i j : Int} (h0 : -(2 ^ 64) < j) (h : j < 2 ^ 64) : binD .Mult (.int i) (.int j) = some (.int (i * j)) := if_pos (Or.inr ⟨h0, h⟩)
theorem bMulL {i j : Int} (h0 : -(2 ^ 64) < i) (h : i < 2 ^ 64) : binD .Mult (.int i) (.int j) = some (.int (i * j)) := if_pos (Or.inl ⟨h0, h⟩)
theorem bFd {i j : Int} (h0 : 0 < j) (h : j < 1073741824) : binD .FloorDiv (.int i) (.int j) = some (.int (i / j)) := if_pos ⟨h0, h⟩
theorem bMd {i j : Int} (h0 : 0 < j) : binD .Mod (.int i) (.int j) = some (.int (i % j)) := if_pos h0
theorem bAd {i j : Int} : binD .Add (.int i) (.int j) = some (.int (i + j)) := rfl
theorem bSb {i j : Int} : binD .Sub (.int i) (.int j) = some (.int (i - j)) := rfl
theorem truD_bl {b : Bool} : truD (.bl b) = some b := rfl
theorem bI1 {i : Int} : biD kin .int1 [.int i] = some (.int i) := rfl
theorem atI_ints {ns : List Int} {i : Int} (h0 : 0 ≤ i) (h : i < ns.length) : ∃ j, subD (.lst (ns.map D.int)) (.int i) = some (.int j) := by
  have hn : i.toNat < ns.length := by omega
  refine ⟨ns[i.toNat], ?_⟩
  show atI _ _ = _
  unfold atI
  have : ixN ns.length i = some i.toNat := by unfold ixN; rw [if_pos h0, if_pos h]
  simp [this, List.getElem?_map, hn]

theorem next_tail {many at_ : Int} {ns : List Int} {Q : Out → Sto → Prop} (hlen : ns.length ≤ 63) (h0 : 0 < many) (a0 : 0 ≤ at_) (a1 : at_ < 2 ^ 60) (q : ∀ r, 0 ≤ r → r < many → Q (.ret (.int r)) S) :
    wpM (evSs kin C nextTail [.emp, .val (.int many), .emp, .val (.int at_), .val (.lst (ns.map D.int)), .emp, .emp]) S Q RN := by
  have cell : ∃ i : Int, evE kin C (.ife (.val (.cmp .NotEq (.b 4) (.lst .nil)))
      (.bi .int1 (.cons (.sub (.b 4) (.bin .Mod (.bi .int1 (.cons (.bin .Add (.bin .Mult (.b 3) (.b 3)) (.bin .FloorDiv (.b 3) (.c (.int 2)))) .nil)) (.bi .len (.cons (.b 4) .nil)))) .nil)) (.c (.int 5))) [.emp, .val (.int many), .emp, .val (.int at_), .val (.lst (ns.map D.int)), .emp, .emp] = pure (.int i) := by
    cases ns with
    | nil => exact ⟨5, by simp [evE, evT, evEs, mkLst, ne_nil0, op_some, truD_bl]⟩
    | cons m r =>
      have hl : biD kin .len [.lst (.int m :: r.map D.int)] = some (.int (r.length + 1 : Nat)) := by
        show some _ = some _
        simp
      have hp : (0 : Int) < ((r.length + 1 : Nat) : Int) := by omega
      obtain ⟨j, hj⟩ := atI_ints (ns := m :: r) (i := (at_ * at_ + at_ / 2) % ((r.length + 1 : Nat) : Int)) (Int.emod_nonneg _ (by omega)) (Int.emod_lt_of_pos _ hp)
      simp only [List.map_cons] at hj
      refine ⟨j, ?_⟩
      simp [evE, evT, evEs, mkLst, ne_cons0, op_some, truD_bl, bAd, bI1]
      simp (disch := omega) only [bMulR, bFd, bAd, bI1, op_some, pure_bind, hl, bMd]
      rw [hj]
      rfl
  obtain ⟨i, hi⟩ := cell
  unfold nextTail evSs
  rw [evS_asg]
  simp only [hi, exO_pure]
  have e1 : ∀ c : Int, asgP [5] (D.int c) [Slot.emp, Slot.val (D.int many), Slot.emp, Slot.val (D.int at_), Slot.val (D.lst (List.map D.int ns)), Slot.emp, Slot.emp] = some [Slot.emp, Slot.val (D.int many), Slot.emp, Slot.val (D.int at_), Slot.val (D.lst (List.map D.int ns)), Slot.val (.int c), Slot.emp] := fun _ => rfl
  rw [e1]
  simp only [op_some, pure_bind]
  unfold evSs
  rw [evS_asg]
  simp [evE, evEs, bAd, bI1, op_some]
  simp (disch := omega) only [bMulR, bMulL, bFd, bAd, bI1, op_some, pure_bind, bMd]
  simp only [exO_pure]
  have e2 : ∀ c d : Int, asgP [6] (D.int c) [Slot.emp, Slot.val (D.int many), Slot.emp, Slot.val (D.int at_), Slot.val (D.lst (List.map D.int ns)), Slot.val (.int d), Slot.emp] = some [Slot.emp, Slot.val (D.int many), Slot.emp, Slot.val (D.int at_), Slot.val (D.lst (List.map D.int ns)), Slot.val (.int d), Slot.val (.int c)] := fun _ _ => rfl
  rw [e2]
  simp only [op_some, pure_bind]
  generalize (i * 40692 + at_ * 65539 + 7001 * at_ * at_) % 2147483399 = b
  unfold evSs evS
  simp [evE, evEs, bAd, bI1, op_some]
  simp (disch := omega) only [bMulR, bMulL, bFd, bAd, bI1, op_some, pure_bind, bMd, exO_pure]
  exact wpM_pure.mpr (q _ (Int.emod_nonneg _ (by omega)) (Int.emod_lt_of_pos _ h0))
end
end RM
end
section
set_option Elab.async false
set_option linter.all false
set_option maxRecDepth 100000
set_option autoImplicit false
/-! draws: the whole of _law_next -/
namespace RM
open PySem PySem.Spec PyProof.Rows L2

section
variable {kin : Kin} {C : Orc} {Y : Tx} {W : WX} {H H0 : Hp} {S : Sto} {z : Addr} {ns ms : List Int} {n many : Int} {B : Gh → Hp → Prop} {D : Ends} {K : PySem.W.Frag}
def sAt : TS := sDPut (tVar 0) (tC (.str "at")) (tVar 3)
def tPar34 : TS := tPar 3 4 (tCons (tAdd (tKey "at") (tC (.int 1))) (tCons (tKey "cells") tNil))
theorem z_tail (bs : Bs Y H0 B) (h : Zs Y B z S ns n ms H) (hn : S.n < drawMost) (h0 : 0 < many) (q : ∀ r, 0 ≤ r → r < many → ∀ G1 H1, B G1 H1 → GOk Y G1 H1 { S with n := S.n + 1 } → D.rt (.int r) H1) :
    tSeq tPar34 (tSeq sAt (tS Y W (evSs kin C nextTail))) D [some (.ref z), some (.int many), none, none, none, none, none] H := by
  obtain ⟨G, c, l, ok, b, hz, d, mz, ml, fc, q1, q2, q3, q4, q5, q6⟩ := id h
  have put := DPut.k (k := (.inr "at" : Key)) (v := V.int (n + 1)) d.1 (by show 3 < sizeLine; decide)
  rw [p_at] at put
  have zs' := zs_at (S' := { S with n := S.n + 1 }) bs h (n' := n + 1) (by omega) (by show n + 1 ≤ ((S.n + 1 : Nat) : Int); omega) rfl d
  refine t_at d rfl ⟨n, 1, rfl, rfl, t_cells d rfl ⟨_, _, rfl, .int (n + 1), rfl, .ref z, rfl, z, _, rfl, put, ?_⟩⟩
  obtain ⟨G1, c1, l1, ok1, b1, hz1, d1, mz1, ml1, fc1, _⟩ := zs'
  have ec : c1 = c := by
    have := d1.1
    rw [upd_same] at this
    cases this; rfl
  subst ec
  refine ⟨H0, B, G1, [.emp, .val (.int many), .emp, .val (.int (n + 1)), .val (.lst (ns.map RM.D.int)), .emp, .emp], _, bs, ok1, b1, ?_, ?_⟩
  · refine ⟨rfl, fun i s hs => ?_, fun i j xs ys a e => ?_⟩
    · match i with
      | 0 => cases hs; trivial
      | 1 => cases hs; exact ⟨_, rfl, .int _⟩
      | 2 => cases hs; trivial
      | 3 => cases hs; exact ⟨_, rfl, .int _⟩
      | 4 => cases hs; exact ⟨_, rfl, .lst d1.2.1 fc1 (rds_ints ns)⟩
      | 5 => cases hs; trivial
      | 6 => cases hs; trivial
      | i + 7 => simp at hs
    · match i with
      | 0 => simp at e
      | 1 => simp at e
      | 2 => simp at e
      | 3 => simp at e
      | 4 => simp at e
      | 5 => simp at e
      | 6 => simp at e
      | i + 7 => simp at e
  · refine next_tail q1 h0 (by omega) (by have : S.n < 2 ^ 50 := hn; omega) fun r r0 r1 G2 H2 v b2 ok2 rv => ?_
    cases rv
    exact q r r0 r1 G2 H2 b2 ok2
/-- the whole -/
def sNext (K : PySem.W.Frag) (u : TS) : TS := tSeq (tWhile (tAnd (qLeft K) (qZero K)) (sDrop K)) (tSeq (tIfS (qLeft K) (sGreat K) tNext) (tSeq tPar34 (tSeq sAt u)))
theorem z_next (bs : Bs Y H0 B) (h : Zs Y B z S ns n ms H) (hn : S.n < drawMost) (h0 : 0 < many) (h1 : many < 1073741824) (q : ∀ r, 0 ≤ r → r < many → ∀ G1 H1, B G1 H1 → GOk Y G1 H1 { S with n := S.n + 1 } → D.rt (.int r) H1) :
    sNext K (tS Y W (evSs kin C nextTail)) D [some (.ref z), some (.int many), none, none, none, none, none] H := by
  refine z_while bs h rfl fun ms' H1 h' => ?_
  refine zq_left bs h' rfl fun H2 h2 => ?_
  cases ms' with
  | nil => exact z_tail bs h2 hn h0 q
  | cons m r =>
    refine z_great bs h2 (Nat.le_refl 7) rfl rfl h0 h1 fun H3 h3 => ?_
    obtain ⟨G3, _, _, ok3, b3, _⟩ := h3
    exact q _ (Int.emod_nonneg _ (by omega)) (Int.emod_lt_of_pos _ h0) G3 H3 b3 ok3
end
end RM
end
section
set_option Elab.async false
set_option linter.all false
set_option maxRecDepth 100000
set_option autoImplicit false
/-! draws: the promise of _law_next -/
namespace RM
open PySem PySem.Spec PyProof.Rows L2

section
variable {kin : Kin} {gt : Gt} {Y : Tx} {k : Nat} {C : Orc} {U : Wd} {f : Addr}
/-- a def by a script of its body: its context is Sok -/
theorem fn_by {name qual : Str} {params : Arguments} {body : List Stmt} {scope : Scope} {dV kV doc pm cdv ct oc : Value} {an od : Option Addr} {osl : Array (Option Value)} {N ps : List Str} {own : List Nat} {sp : Sp}
    (lk : Y.K.lookup f = some ⟨oc, od, .func (PySem.W.fnOf name qual params body scope dV kV doc pm an cdv ct), osl⟩) (hcd : PySem.W.codeIn Y.K cdv qual = true) (sc : FnScope N ps scope) (hb : Binds Y.K (PySem.W.fnOf name qual params body scope dV kV doc pm an cdv ct) ps [])
    (hY : Y.cur = none) (kok : KinOk kin Y) (sys : ∃ o, U.base.get? sysModules = some o) (gtk : GtOk false gt Y k C U.P U.w Y.K U.mg U.base) (len : ∀ vs H Q E, sp vs H Q E → vs.length = ps.length)
    (hbody : ∀ (X : Cx) (vs : List V) (H : Hp) (Q : VK) (E : XK), Sok kin gt Y k C (fnCfg N scope own) X (fun cls d _ H => E cls d H) → AtW U X → sp vs H Q E →
      ∃ t, PSs X body t ∧ t { nx := fun _ H' => Q .non H', rt := Q } (start N vs) H) : FnG U.P U.w Y.K U.mg U.base (k + 1) f ps.length sp := by
  refine FnG.of lk hcd sc hb len fun A outer s H vs Q E hr hg hsp => ?_
  have tk : Takes (cxOf (L2.CX U.P U.w) U.P U.w Y.K U.mg U.base N qual scope f cdv A outer s H E) (fun cls d _ H => E cls d H) := takes_of rfl rfl rfl rfl
  have so : Sok kin gt Y k C (fnCfg N scope own) (cxOf (L2.CX U.P U.w) U.P U.w Y.K U.mg U.base N qual scope f cdv A outer s H E) (fun cls d _ H => E cls d H) :=
    { o := { ox := ⟨sc.nd, fun _ => rfl, rfl, fun _ => hr, (by have h := hr.un; show (A.deeper (envOfC qual scope s.heap.objs.size f cdv)).units + 200 < cLine; omega), hg, sys⟩, N := rfl, sc := rfl, fn := rfl, tk := tk, cold := fun _ => hY, kok := kok, cur := fun a cls dx e => by (rw [hY] at e; cases e), gt := gtk },
      po := fun _ => passes_of rfl, stk := rfl, frm := rfl, kd := sc.kind }
  exact hbody _ vs H Q E so ⟨rfl, rfl, rfl, rfl⟩ hsp

/-- what a law's text of _law_next is shown to be -/
def NextIs (kin : Kin) (gt : Gt) (C : Orc) (N : List Str) (scope : Scope) (body : List Stmt) : Prop :=
  ∀ (Y : Tx) (k : Nat) (X : Cx) (W : WX) (U : Wd), Sok kin gt Y k C (fnCfg N scope []) X W → AtW U X → Sms kin gt Y k C U → PSs X body (sNext Y.K (tS Y W (evSs kin C nextTail)))
theorem next_fn {name qual : Str} {params : Arguments} {body : List Stmt} {scope : Scope} {dV kV doc pm cdv ct oc : Value} {an od : Option Addr} {osl : Array (Option Value)} {N ps : List Str}
    (lk : Y.K.lookup f = some ⟨oc, od, .func (PySem.W.fnOf name qual params body scope dV kV doc pm an cdv ct), osl⟩) (hcd : PySem.W.codeIn Y.K cdv qual = true) (sc : FnScope N ps scope) (hb : Binds Y.K (PySem.W.fnOf name qual params body scope dV kV doc pm an cdv ct) ps [])
    (hY : Y.cur = none) (kok : KinOk kin Y) (sys : ∃ o, U.base.get? sysModules = some o) (gtk : GtOk false gt Y k C U.P U.w Y.K U.mg U.base) (ms : Sms kin gt Y k C U) (hN : N.length = 7) (hps : ps.length = 2) (hi : NextIs kin gt C N scope body) :
    FnG U.P U.w Y.K U.mg U.base (k + 1) f 2 (spG Y 2 orcNext) := by
  rw [← hps]
  refine fn_by (own := []) lk hcd sc hb hY kok sys gtk (fun vs H Q E h => h.1) fun X vs H Q E so av hsp => ?_
  refine ⟨_, hi Y k X _ U so av ms, ?_⟩
  obtain ⟨hl, G, S, ds, ok, rs, w⟩ := hsp
  rw [hps] at hl
  obtain ⟨v0, v1, rfl⟩ : ∃ a b, vs = [a, b] := by
    match vs, hl with
    | [a, b], _ => exact ⟨a, b, rfl⟩
  cases rs with
  | cons r0 rs =>
  cases rs with
  | cons r1 rs =>
  cases rs
  unfold orcNext at w
  split at w
  · rename_i n e
    cases e
    cases r0 with
    | @drw z hz =>
    cases r1
    split at w
    · rename_i hn
      unfold drawM wpM at w
      dsimp only at w
      split at w
      · rename_i hd
        simp only [Bool.and_eq_true, decide_eq_true_eq] at hd
        obtain ⟨ns, n', ms', zs⟩ := zs_open (B := Ext G H) ok Ext.refl hz
        have st : L2.start N [V.ref z.1, V.int n] = [some (.ref z.1), some (.int n), none, none, none, none, none] := by
          unfold L2.start
          rw [hN]; rfl
        rw [st]
        refine z_next Bs.entry zs hd.2 hn.1 hn.2 fun r h0 h1 G1 H1 e1 ok1 => ?_
        have w1 := w r.toNat (by omega)
        have er : ((r.toNat : Nat) : Int) = r := by omega
        have w2 : ∀ G' H' v, Ext G H G' H' → GOk Y G' H' { S with n := S.n + 1 } → RD Y G' H' v (.int ((r.toNat : Nat) : Int)) → Q v H' := w1
        rw [er] at w2
        exact w2 G1 H1 _ e1 ok1 (.int r)
      · exact w.elim
    · exact w.elim
  · exact w.elim
end
end RM
end
section
set_option Elab.async false
set_option linter.all false
set_option maxRecDepth 100000
set_option autoImplicit false
/-! draws: the promise of _law_begun -/
namespace RM
open PySem PySem.Spec PyProof.Rows L2

def begCells : E := .bi .list (.cons (.b 0) .nil)
def begLeft : E := .lc [1] [1] (.seq (.b 0)) (.val (.cmp .GtE (.b 1) (.bin .Pow (.c (.int 10)) (.c (.int 18))))) (.v 1)
/-- the display of the draws' state -/
def sBegun (Y : Tx) (W : WX) (kin : Kin) (C : Orc) : TS := tRet (tDisp [(tC (.str "cells"), tN Y W (evE kin C begCells)), (tC (.str "left"), tN Y W (evE kin C begLeft)), (tC (.str "at"), tC (.int 0))])

section
variable {kin : Kin} {C : Orc} {gt : Gt} {Y : Tx} {k : Nat} {S : Sto} {W : WX} {U : Wd} {f : Addr}
theorem okL_int (i j : Int) : D.okL (.int i) (.int j) = true := by
  unfold D.okL
  simp [D.pure, D.pd, D.isNon, PyData.depth, PySem.W.alike]
theorem ge_int (i j : Int) : cmpD .GtE (.int i) (.int j) = some (.bl (!decide (i < j))) := by
  unfold cmpD
  simp only [okL_int, if_true, D.pd, PySem.W.dataLt_int]
theorem pow18 : binD .Pow (.int 10) (.int 18) = some (.int 1000000000000000000) := by
  show (if 0 ≤ (18 : Int) ∧ (18 : Int) ≤ 1000000 ∧ (10 : Int).natAbs < 2 ^ 64 then some (D.int ((10 : Int) ^ (18 : Int).toNat)) else none) = _
  rw [if_pos (by decide)]
  rfl
theorem left_one (ns : List Int) (i : Int) : lcF kin C [Slot.val (.scr ns), .emp] [1] [1] (.val (.cmp .GtE (.b 1) (.bin .Pow (.c (.int 10)) (.c (.int 18))))) (.v 1) (.int i) = pure (if 1000000000000000000 ≤ i then some (.int i) else none) := by
  have e : asgP [1] (D.int i) (wipeE [Slot.val (.scr ns), .emp] [1]) = some [Slot.val (.scr ns), .val (.int i)] := rfl
  unfold lcF
  rw [e]
  simp [evE, evT, op_some, pow18, ge_int, truD_bl]
  by_cases h : (1000000000000000000 : Int) ≤ i
  · simp [h]
  · simp [h]
theorem left_all (ns : List Int) : ∀ ms : List Int, mapO (lcF kin C [Slot.val (.scr ns), .emp] [1] [1] (.val (.cmp .GtE (.b 1) (.bin .Pow (.c (.int 10)) (.c (.int 18))))) (.v 1)) (ms.map D.int) = pure ((ms.filter fun i => decide (1000000000000000000 ≤ i)).map D.int)
  | [] => rfl
  | i :: r => by
    show mapO _ (D.int i :: r.map D.int) = _
    unfold mapO
    rw [left_one, left_all ns r]
    by_cases h : (1000000000000000000 : Int) ≤ i <;> simp [h]
theorem quiet_pure {α : Type} (a : α) : M.quiet (pure a : M α) = pure a := rfl
theorem beg_cells (ns : List Int) : evE kin C begCells [Slot.val (.scr ns), .emp] = pure (.lst (ns.map D.int)) := by
  unfold begCells
  simp [evE, evEs, biD, itemsD, op_some]
theorem beg_left (ns : List Int) (h : ns.length ≤ 63) : evE kin C begLeft [Slot.val (.scr ns), .emp] = pure (.lst ((ns.filter fun i => decide (1000000000000000000 ≤ i)).map D.int)) := by
  unfold begLeft
  rw [evE_lc]
  have hz := sizeLine_eq
  have e : evI kin C (.seq (.b 0)) [Slot.val (.scr ns), .emp] = pure (ns.map D.int) := by simp [evI, evE, iterD, op_some]
  have e2 : small (ns.map D.int).length = pure () := by
    unfold small
    rw [if_pos (by rw [List.length_map]; omega)]
  rw [e]
  simp only [pure_bind]
  rw [e2, left_all]
  rfl

/-- what a law's text of _law_begun is shown to be -/
def BegunIs (kin : Kin) (gt : Gt) (C : Orc) (N : List Str) (scope : Scope) (body : List Stmt) : Prop :=
  ∀ (Y : Tx) (k : Nat) (X : Cx) (W : WX) (U : Wd), Sok kin gt Y k C (fnCfg N scope []) X W → AtW U X → PSs X body (sBegun Y W kin C)
theorem fits {i : Int} {ns : List Int} (h : scriptOk ns = true) (hi : i ∈ ns) : i.natAbs < 2 ^ 1048576 := by
  unfold scriptOk at h
  rw [Bool.and_eq_true, List.all_eq_true] at h
  exact of_decide_eq_true (h.2 i hi)
theorem begun_fn {name qual : Str} {params : Arguments} {body : List Stmt} {scope : Scope} {dV kV doc pm cdv ct oc : Value} {an od : Option Addr} {osl : Array (Option Value)} {N ps : List Str}
    (lk : Y.K.lookup f = some ⟨oc, od, .func (PySem.W.fnOf name qual params body scope dV kV doc pm an cdv ct), osl⟩) (hcd : PySem.W.codeIn Y.K cdv qual = true) (sc : FnScope N ps scope) (hb : Binds Y.K (PySem.W.fnOf name qual params body scope dV kV doc pm an cdv ct) ps [])
    (hY : Y.cur = none) (kok : KinOk kin Y) (sys : ∃ o, U.base.get? sysModules = some o) (gtk : GtOk false gt Y k C U.P U.w Y.K U.mg U.base) (hN : N.length = 2) (hps : ps.length = 1) (hi : BegunIs kin gt C N scope body) :
    FnG U.P U.w Y.K U.mg U.base (k + 1) f 1 (spG Y 1 orcBegun) := by
  suffices key : FnG U.P U.w Y.K U.mg U.base (k + 1) f ps.length (spG Y ps.length orcBegun) by
    rw [hps] at key
    exact key
  refine fn_by (own := []) lk hcd sc hb hY kok sys gtk (fun vs H Q E h => h.1) fun X vs H Q E so av hsp => ?_
  refine ⟨_, hi Y k X _ U so av, ?_⟩
  obtain ⟨hl, G, S, ds, ok, rs, w⟩ := hsp
  rw [hps] at hl
  obtain ⟨v0, rfl⟩ : ∃ a, vs = [a] := by
    match vs, hl with
    | [a], _ => exact ⟨a, rfl⟩
  cases rs with
  | cons r0 rs =>
  cases rs
  rename_i d0'
  have hd : (∃ ns, d0' = .scr ns) ∨ orcBegun [d0'] = M.fail := by cases d0' <;> first | exact .inl ⟨_, rfl⟩ | exact .inr rfl
  rcases hd with ⟨ns, rfl⟩ | hd
  · obtain ⟨a, rfl, hs⟩ := (RD.rv r0).scr
    unfold orcBegun wpM at w
    dsimp only at w
    split at w
    · rename_i hc
      simp only [Bool.and_eq_true, Bool.not_eq_true', decide_eq_true_eq] at hc
      obtain ⟨⟨b0, n0⟩, sk⟩ := hc
      have hlen : ns.length ≤ 63 := by
        unfold scriptOk at sk
        rw [Bool.and_eq_true] at sk
        exact of_decide_eq_true sk.1
      have d0 := ok.dr0 b0
      have st : L2.start N [V.ref a] = [some (.ref a), none] := by
        unfold L2.start
        rw [hN]; rfl
      rw [st]
      intro p np
      have e1 : Ext G H G (upd H p (.dK [])) := Ext.new ok np
      have ok1 : GOk Y G (upd H p (.dK [])) S := ok.new np
      have pF : ¬ G.Fz p := fun z => ok.fzT p z np
      have pM : ¬ G.Mu p := fun z => ok.muT p z np
      have sr1 : SR Y H G (upd H p (.dK [])) [some (.ref a), none] [Slot.val (.scr ns), .emp] := by
        refine ⟨rfl, fun i s h => ?_, fun i j xs ys b h => ?_⟩
        · match i with
          | 0 => cases h; exact ⟨_, rfl, (RD.scr hs : RD Y G H _ _).ext e1 ok⟩
          | 1 => cases h; trivial
          | i + 2 => simp at h
        · match i with
          | 0 => simp at h
          | 1 => simp at h
          | i + 2 => simp at h
      refine ⟨H, G, _, S, ok1, sr1, ?_⟩
      rw [beg_cells]
      refine wpM_pure.mpr fun G2 H2 c vc dc edc e2 ok2 nc hc cF cM rc => ?_
      cases edc
      refine ⟨H, G2, _, S, ok2, sr1.ext e2 ok1, ?_⟩
      rw [beg_left ns hlen]
      refine wpM_pure.mpr fun G3 H3 l vs3 ds3 ed e3 ok3 nl hl3 lF lM r3 => ?_
      cases ed
      have pp : H3 p = some (.dK []) := e3.keep p _ (e2.keep p _ upd_same pM) fun m => (e2.nmu p m).elim pM fun z => by (rw [upd_same] at z; cases z)
      have nM2 : ¬ G2.Mu p := fun m => (e2.nmu p m).elim pM fun z => by (rw [upd_same] at z; cases z)
      have nM3 : ¬ G3.Mu p := fun m => (e3.nmu p m).elim nM2 fun z => by (rw [e2.keep p _ upd_same pM] at z; cases z)
      have nF2 : ¬ G2.Fz p := fun m => (e2.nfz p m).elim pF fun z => by (rw [upd_same] at z; cases z)
      have nF3 : ¬ G3.Fz p := fun m => (e3.nfz p m).elim nF2 fun z => by (rw [e2.keep p _ upd_same pM] at z; cases z)
      refine ⟨pp, [(.inr "cells", .ref c), (.inr "left", .ref l), (.inr "at", .int 0)], rfl, by simp, ?_⟩
      have em : mergeK [] [((.inr "cells" : Key), V.ref c), (.inr "left", .ref l), (.inr "at", .int 0)] = [(.inr "cells", .ref c), (.inr "left", .ref l), (.inr "at", .int 0)] := rfl
      rw [em]
      have ec : vc = ns.map V.int := by
        have aux : ∀ (ns : List Int) (vs : List V), RDs Y G2 H2 vs (ns.map D.int) → vs = ns.map V.int := by
          intro ns
          induction ns with
          | nil => intro vs h; cases h; rfl
          | cons n r ih =>
            intro vs h
            cases h with
            | cons h1 h2 => cases h1; rw [ih _ h2]; rfl
        exact aux ns vc rc
      have el : vs3 = (ns.filter fun i => decide (1000000000000000000 ≤ i)).map V.int := by
        have aux : ∀ (ns : List Int) (vs : List V), RDs Y G3 H3 vs (ns.map D.int) → vs = ns.map V.int := by
          intro ns
          induction ns with
          | nil => intro vs h; cases h; rfl
          | cons n r ih =>
            intro vs h
            cases h with
            | cons h1 h2 => cases h1; rw [ih _ h2]; rfl
        exact aux _ vs3 r3
      subst ec el
      have pc : p ≠ c := fun z => by (rw [← z, e2.keep p _ upd_same pM] at hc; cases hc)
      have pl : p ≠ l := fun z => by (rw [← z, pp] at hl3; cases hl3)
      have hc3 : H3 c = some (.lst (ns.map V.int)) := e3.keep c _ hc cM
      have cl : c ≠ l := fun z => by (rw [← z, hc] at nl; cases nl)
      have cM3 : ¬ G3.Mu c := fun m => (e3.nmu c m).elim cM fun z => by (rw [hc] at z; cases z)
      have e02 := e1.trans (e2.trans e3)
      have nd : G3.dr = G3.dr := rfl
      generalize hH4 : upd H3 p (.dK [((.inr "cells" : Key), V.ref c), (.inr "left", .ref l), (.inr "at", .int 0)]) = H4
      have k4 : ∀ b, b ≠ p → H4 b = H3 b := fun b hb => by rw [← hH4, upd_ne hb]
      have hp4 : H4 p = some (.dK [((.inr "cells" : Key), V.ref c), (.inr "left", .ref l), (.inr "at", .int 0)]) := by rw [← hH4, upd_same]
      let G4 : Gh := { Fz := fun b => G3.Fz b ∨ b = c, Mu := fun b => G3.Mu b ∨ b = p ∨ b = l, dr := some (p, c) }
      have hcH : H c = none := by
        cases z : H c with
        | none => rfl
        | some o => exact absurd nc (by rw [upd_ne (fun y => by rw [y, np] at z; cases z), z]; exact fun y => nomatch y)
      have npH : ∀ b, H b ≠ none → b ≠ p := fun b hb z => hb (z ▸ np)
      have hlH : H l = none := by
        cases z : H l with
        | none => rfl
        | some o =>
          have z1 : upd H p (.dK []) l ≠ none := e1.there l (by rw [z]; exact fun y => nomatch y)
          exact absurd nl (e2.there l z1)
      refine w G4 H4 (.ref p) ?_ ?_ (RD.drw (z := (p, c)) rfl)
      · refine ⟨fun b h => .inl (e02.fz b h), fun b h => .inl (e02.mu b h), fun z h => ?_, fun b o h m => ?_, fun b h => ?_, fun b h => h.elim (e02.nfz b) fun z => .inr (by rw [z]; exact hcH), fun b h => ?_, fun z h => ?_⟩
        · rw [d0] at h; cases h
        · rw [k4 b (npH b (by rw [h]; exact fun y => nomatch y))]
          exact e02.keep b o h m
        · rw [k4 b (npH b h)]
          exact e02.there b h
        · rcases h with h | h | h
          · exact e02.nmu b h
          · rw [h]; exact .inr np
          · rw [h]; exact .inr hlH
        · cases h
          exact .inr hcH
      · have mp : ∀ b, b = p ∨ b = l → ¬ G3.Fz b := fun b h => by
          rcases h with h | h
          · rw [h]; exact nF3
          · rw [h]; exact lF
        refine ⟨fun b f m => f.elim (fun f => m.elim (ok3.fzmu b f) fun m => mp b m f) fun f => m.elim (fun m => cM3 (f ▸ m)) fun m => m.elim (fun m => pc (m.symm.trans f)) fun m => cl (f.symm.trans m), fun b f => ?_, fun b m => ?_, fun b o h s m => ?_, fun z h => ?_, fun h => (by cases h)⟩
        · rcases f with f | f
          · rw [k4 b (fun z => nF3 (z ▸ f))]
            exact ok3.fzT b f
          · rw [f, k4 c pc.symm, hc3]; exact fun y => nomatch y
        · rcases m with m | m | m
          · rw [k4 b (fun z => nM3 (z ▸ m))]
            exact ok3.muT b m
          · rw [m, hp4]; exact fun y => nomatch y
          · rw [m, k4 l pl.symm, hl3]; exact fun y => nomatch y
        · rcases m with m | m | m
          · rw [k4 b (fun z => nM3 (z ▸ m))] at h
            exact ok3.solid b o h s m
          · rw [m, hp4] at h; cases h; exact s
          · rw [m, k4 l pl.symm, hl3] at h; cases h; exact s
        · have ez : z = (p, c) := (Option.some.inj h).symm
          subst ez
          refine ⟨l, ns, _, 0, hp4, .inr (.inl rfl), .inr (.inr rfl), pl.symm, by show H4 c = _; rw [k4 c pc.symm]; exact hc3, .inr rfl, by rw [k4 l pl.symm]; exact hl3, hlen, Nat.le_trans (List.length_filter_le _ _) hlen, fun i hi => fits sk hi, fun i hi => ?_, by omega, by show (0 : Int) ≤ (S.n : Int); omega⟩
          have := List.mem_filter.mp hi
          have h2 := of_decide_eq_true this.2
          exact ⟨by omega, fits sk this.1⟩
    · exact w.elim
  · rw [hd] at w
    exact w.elim
end
end RM
end
section
set_option Elab.async false
set_option linter.all false
set_option maxRecDepth 100000
set_option autoImplicit false
/-! what the head tells of the classes and names, by tests -/
namespace RM
open PySem PySem.Spec PyProof.Rows L2 PySem.W

def eqB (a b : Option Bool) : Bool := decide (a = b)
theorem eqB_ok {a b : Option Bool} (h : eqB a b = true) : a = b := of_decide_eq_true h
def eqV (a b : Option Value) : Bool := decide (a = b)
theorem eqV_ok {a b : Option Value} (h : eqV a b = true) : a = b := of_decide_eq_true h
theorem and2 {a b : Bool} (h : (a && b) = true) : a = true ∧ b = true := (Bool.and_eq_true _ _).mp h

/-- the class of an own exception -/
def oexB (K : Frag) (C : Addr) : Bool :=
  (match K.lookup C with
  | some ⟨.type t, dd, .cls cd, sl⟩ => t == "type" && (match cd.mro, sl.toList with
    | .ref C' :: bm, [_, _, _, _, some (.builtin n), _] => C' == C && (n == "ValueError.__new__" && (!cd.hasDel && (cd.hasDict && PySem.HandSPX.refsVE bm)))
    | _, _ => false)
  | _ => false) && (He.eqO (findIn K (.ref C) "__setattr__") (some (some (.builtin "object.__setattr__"))) && (eqB (subIn K (.ref C) (.type "BaseException")) (some true) && (eqV (typeIn K (.ref C)) (some (.type "type")) && keepIn K (.ref C))))
theorem oexB_ok {K : Frag} {C : Addr} (h : oexB K C = true) : OexC K C := by
  obtain ⟨h1, h⟩ := and2 h
  obtain ⟨h2, h⟩ := and2 h
  obtain ⟨h3, h⟩ := and2 h
  obtain ⟨h4, h5⟩ := and2 h
  refine ⟨?_, He.eqO_ok h2, eqB_ok h3, eqV_ok h4, h5⟩
  split at h1
  · rename_i t dd cd sl ho
    obtain ⟨e0, h1⟩ := and2 h1
    split at h1
    · rename_i C' bm s0 s1 s2 s3 n s5 hm hs
      obtain ⟨e1, h1⟩ := and2 h1
      obtain ⟨e2, h1⟩ := and2 h1
      obtain ⟨e3, h1⟩ := and2 h1
      obtain ⟨e4, e5⟩ := and2 h1
      obtain ⟨nm, bs, mro, N, q, hd, sn, sub, ab, col, del⟩ := cd
      dsimp only at hm e3 e4
      have e0 := beq_iff_eq.mp e0
      have e1 := beq_iff_eq.mp e1
      have e2 := beq_iff_eq.mp e2
      have e3 : del = false := by simpa using e3
      subst e0 e1 e2 e3 hm e4
      refine ⟨nm, q, N, bs, bm, sn, sub, ab, col, dd, s0, s1, s2, s3, s5, ?_, e5⟩
      rw [ho]
      have : sl = #[s0, s1, s2, s3, some (.builtin "ValueError.__new__"), s5] := by
        apply Array.toList_inj.mp
        rw [hs]
      rw [this]
    · cases h1
  · cases h1

/-- the body of such an __init__ -/
def isXB (f pv : Str) : List Stmt → Bool
  | [.Expr (.Call (.Attribute (.Call (.Name a p0) [] [] p1) b p2) [.Constant (.str m) j p3] [] p4) p5, .Assign [.Attribute (.Name c p6) g p7] (.Name v p8) p9] => a == "super" && (b == "__init__" && (c == "self" && (g == f && (v == pv && p2.endLine == p4.line))))
  | _ => false
theorem isXB_ok {f pv : Str} {b : List Stmt} (h : isXB f pv b = true) : ∃ m p0 p1 p2 p3 p4 p5 p6 p7 p8 p9 j, b = xBody m f pv p0 p1 p2 p3 p4 p5 p6 p7 p8 p9 j ∧ (p2.endLine == p4.line) = true := by
  unfold isXB at h
  split at h
  · rename_i a p0 p1 b p2 m j p3 p4 p5 c p6 g p7 v p8 p9
    simp only [Bool.and_eq_true, beq_iff_eq] at h
    obtain ⟨rfl, rfl, rfl, rfl, rfl, h6⟩ := h
    exact ⟨m, p0, p1, p2, p3, p4, p5, p6, p7, p8, p9, j, rfl, by simpa using h6⟩
  · cases h
def xFields : List Str := ["value", "place", "line", "paper", "most"]
def isXP (pv : Str) : Arguments → Bool
  | ⟨[], [⟨a, _, _⟩, ⟨b, _, _⟩], none, [], [], none, []⟩ => a == "self" && (b == pv && xFields.contains pv)
  | _ => false
theorem isXP_ok {pv : Str} {ps : Arguments} (h : isXP pv ps = true) : (∃ ar, (ps.posonlyargs ++ ps.args).head? = some ar ∧ ar.arg = "self") ∧ (pv == ("__debug__" : Str)) = false ∧ (pv == ("self" : Str)) = false ∧
    ∀ (name qual : Str) (body : List Stmt) (scope : Scope) (kV doc pm : Value) (an : Option Addr) (cdv ct : Value) (cc : Addr) (s : Shared) (u v : Value), BindsTo s (ksFn name qual ps body scope .none kV doc pm an cdv ct cc) ⟨[u, v], []⟩ [("self", u), (pv, v)] := by
  unfold isXP at h
  split at h
  · rename_i a n1 p1 b n2 p2
    obtain ⟨e1, h⟩ := and2 h
    obtain ⟨e2, h⟩ := and2 h
    have e1 := beq_iff_eq.mp e1
    have e2 := beq_iff_eq.mp e2
    subst e1 e2
    refine ⟨⟨_, rfl, rfl⟩, ?_⟩
    have h : b ∈ xFields := by simpa using h
    simp only [xFields, List.mem_cons, List.not_mem_nil, or_false] at h
    rcases h with rfl | rfl | rfl | rfl | rfl <;> exact ⟨by decide, by decide, fun _ _ _ _ _ _ _ _ _ _ _ _ _ _ => .of_eq rfl⟩
  · cases h
def isNoV : Value → Bool
  | .none => true
  | _ => false
theorem isNoV_ok {v : Value} (h : isNoV v = true) : v = .none := by
  cases v <;> first | rfl | cases h
def isXS (pv : Str) (sc : Scope) : Bool :=
  sc.names.lookup ("super" : Str) == some .globalImplicit && (sc.names.lookup ("__class__" : Str) == some .free && (sc.names.lookup ("self" : Str) == some .local && (sc.names.lookup pv == some .local &&
  (sc.names.all (fun x => !(x.2 == .cell)) && (!sc.isCoroutine && (!sc.isGenerator && decide (sc.kind = .function)))))))
def isXC (K : Frag) (file : Str) (fd : FuncData) (C : Addr) : Bool :=
  (match fd.code with
  | .ref cda => (match K.lookup cda with
    | some ⟨_, _, .fields vs, _⟩ => (match (vs[2]? : Option Value) with
      | some (Value.str g _) => file == g
      | _ => false)
    | _ => false)
  | _ => false) && (match fd.closure with
  | [(x, cc)] => x == "__class__" && (match K.lookup cc with
    | some ⟨_, _, .cell (some (.ref D)), _⟩ => D == C
    | _ => false)
  | _ => false)
theorem isXC_ok {K : Frag} {file : Str} {fd : FuncData} {C : Addr} (h : isXC K file fd C = true) : ∃ cda cc ccl cdd vs ccs gf tf cl cld csl, fd.code = .ref cda ∧ fd.closure = [(("__class__" : Str), cc)] ∧ K.lookup cda = some ⟨ccl, cdd, .fields vs, ccs⟩ ∧ vs[2]? = some (Value.str gf tf) ∧ (file == gf) = true ∧
    K.lookup cc = some ⟨cl, cld, .cell (some (.ref C)), csl⟩ := by
  unfold isXC at h
  obtain ⟨c1, c2⟩ := and2 h
  clear h
  cases hc : fd.code with
  | ref cda =>
    rw [hc] at c1
    dsimp only at c1
    cases hk : K.lookup cda with
    | none => rw [hk] at c1; cases c1
    | some o =>
      obtain ⟨ccl, cdd, dt, ccs⟩ := o
      rw [hk] at c1
      cases dt with
      | fields vs =>
        dsimp only at c1
        cases hv : vs[2]? with
        | none => rw [hv] at c1; cases c1
        | some v =>
          rw [hv] at c1
          cases v with
          | str gf tf =>
            dsimp only at c1
            split at c2
            · rename_i x cc hcl
              obtain ⟨e1, c3⟩ := and2 c2
              have e1 := beq_iff_eq.mp e1
              split at c3
              · rename_i cl cld D csl hcc
                have e2 := beq_iff_eq.mp c3
                exact ⟨cda, cc, ccl, cdd, vs, ccs, gf, tf, cl, cld, csl, rfl, by rw [hcl, e1], hk, hv, c1, by rw [hcc, e2]⟩
              · cases c3
            · cases c2
          | _ => cases c1
      | _ => cases c1
  | _ => rw [hc] at c1; cases c1
def xinB (file : Str) (K : Frag) (C fI : Addr) (f : Str) : Bool :=
  oexB K C && (He.eqO (findIn K (.ref C) "__init__") (some (some (.ref fI))) && (eqV (typeIn K (.ref fI)) (some (.type "function")) && (He.eqO (findIn K (.ref C) f) (some none) &&
  ((match K.lookup fI with
  | some ⟨_, _, .func fd, _⟩ => (match fd.body with
    | .stmts b => isXB f f b && (isXP f fd.params && (isXS f fd.scope && (isXC K file fd C && (codeIn K fd.code fd.qualname && (fd.globals == mainGlobals && (isNoV fd.defaults && fd.builtins == builtinsNs))))))
    | _ => false)
  | _ => false) && (He.eqO (ks_superIn K C C "__init__") (some (some (.builtin "ValueError.__init__"))) && (eqB (subIn K (.ref C) (.type "ValueError")) (some true) && (eqB (mroIn K C (.ref C)) (some true) && He.eqO (nsIn K cStatics "thirdparty.any") (some none))))))))
theorem xinB_ok {P : Program} {K : Frag} {C fI : Addr} {f : Str} (top : (P.main.scope.names.lookup ("super" : Str)).isSome = false) (h : xinB P.main.file K C fI f = true) : XinF P K C f fI := by
  obtain ⟨h1, h⟩ := and2 h
  obtain ⟨h2, h⟩ := and2 h
  obtain ⟨h3, h⟩ := and2 h
  obtain ⟨h4, h⟩ := and2 h
  obtain ⟨h5, h⟩ := and2 h
  obtain ⟨h6, h⟩ := and2 h
  obtain ⟨h7, h⟩ := and2 h
  obtain ⟨h8, h9⟩ := and2 h
  refine ⟨oexB_ok h1, He.eqO_ok h2, eqV_ok h3, He.eqO_ok h4, ?_, He.eqO_ok h6, eqB_ok h7, eqB_ok h8, He.eqO_ok h9, top⟩
  split at h5
  · rename_i oc od fd osl ho
    split at h5
    · rename_i b hb
      obtain ⟨g1, h5⟩ := and2 h5
      obtain ⟨g2, h5⟩ := and2 h5
      obtain ⟨g3, h5⟩ := and2 h5
      obtain ⟨g4, h5⟩ := and2 h5
      obtain ⟨g5, h5⟩ := and2 h5
      obtain ⟨g6, h5⟩ := and2 h5
      obtain ⟨g8, g7⟩ := and2 h5
      obtain ⟨cda, cc, ccl, cdd, vs, ccs, gf, tf, cl, cld, csl, k1, k2, k3, k4, k5, k6⟩ := isXC_ok g4
      obtain ⟨m, p0, p1, p2, p3, p4, p5, p6, p7, p8, p9, j, hb2, hl⟩ := isXB_ok g1
      obtain ⟨⟨ar, q1, q2⟩, q3, q4, q5⟩ := isXP_ok g2
      unfold isXS at g3
      obtain ⟨s1, g3⟩ := and2 g3
      obtain ⟨s2, g3⟩ := and2 g3
      obtain ⟨s3, g3⟩ := and2 g3
      obtain ⟨s4, g3⟩ := and2 g3
      obtain ⟨s5, g3⟩ := and2 g3
      obtain ⟨s6, g3⟩ := and2 g3
      obtain ⟨s7, s8⟩ := and2 g3
      have E6 := beq_iff_eq.mp g6
      have E7 := beq_iff_eq.mp g7
      have E8 := isNoV_ok g8
      have E9 := of_decide_eq_true s8
      clear g6 g7 g8 s8 h5 g1 g2 g4
      have nc : ∀ x ∈ fd.scope.names, x.2 ≠ .cell := fun x hx e => by
        have := List.all_eq_true.mp s5 x hx
        rw [e] at this
        cases this
      cases fd
      dsimp only at hb hb2 E6 E7 E8 k1 k2 s1 s2 s3 s4 s5 s6 s7 E9 nc q1 q5 g5
      subst hb2
      subst hb E6 E7 E8 k1 k2
      refine ⟨oc, od, osl, _, _, _, _, .none, _, _, _, _, _, cda, cc, m, f, p0, p1, p2, p3, p4, p5, p6, p7, p8, p9, j, ar, ccl, cl, cdd, cld, vs, ccs, csl, gf, tf, ho, g5, k3, k4, k5, k6, q1, q2, fun s u v => q5 _ _ _ _ _ _ _ _ _ _ _ s u v,
        beq_iff_eq.mp s1, beq_iff_eq.mp s2, beq_iff_eq.mp s3, beq_iff_eq.mp s4, nc, by simpa using s6, by simpa using s7, E9, q3, q4, hl⟩
    · cases h5
  · cases h5
end RM
end
section
set_option Elab.async false
set_option linter.all false
set_option maxRecDepth 100000
set_option autoImplicit false
/-! the defs of a law's text, one behind the other; what the head tells; the law's end -/
namespace RM
open PySem PySem.Spec PyProof.Rows L2 PySem.W

/-! ### classes -/
def clsB (K : Frag) (C : Addr) : Bool := plainGet K C Str.empty && (hasDictIn K C && (plainOver K C && He.eqO (findIn K (.ref C) "__setattr__") (some (some (.builtin "object.__setattr__")))))
theorem clsB_ok {K : Frag} {C : Addr} (h : clsB K C = true) : Cls K C := by
  obtain ⟨h1, h⟩ := and2 h
  obtain ⟨h2, h⟩ := and2 h
  obtain ⟨h3, h4⟩ := and2 h
  exact ⟨h1, h2, h3, He.eqO_ok h4⟩
def xcfB (K : Frag) (C : Addr) (f : Str) : Bool := He.eqO (findIn K (.ref C) "__getattribute__") (some (some (.builtin "BaseException.__getattribute__"))) && (He.eqO (findIn K (.ref C) "__getattr__") (some none) && (eqB (subIn K (.ref C) (.type "BaseException")) (some true) && (hasDictIn K C && He.eqO (findIn K (.ref C) f) (some none))))
theorem xcfB_ok {K : Frag} {C : Addr} {f : Str} (h : xcfB K C f = true) : XcF K C f := by
  obtain ⟨h1, h⟩ := and2 h
  obtain ⟨h2, h⟩ := and2 h
  obtain ⟨h3, h⟩ := and2 h
  obtain ⟨h4, h5⟩ := and2 h
  exact ⟨He.eqO_ok h1, He.eqO_ok h2, eqB_ok h3, h4, He.eqO_ok h5⟩
def insB (K : Frag) (C : Addr) : Bool := clsB K C && (He.eqO (findIn K (.ref C) "__class__") (some (some (.builtin "object.__class__"))) && (He.eqO (specialIn K (.builtin "object.__class__") "__get__") (some (some (.builtin "getset_descriptor.__get__"))) &&
  (eqB (takesIn K (.builtin "object.__class__")) (some true) && eqB (mroIn K C (.type "object")) (some true))))
theorem insB_ok {K : Frag} {C : Addr} (h : insB K C = true) : InsF K C := by
  obtain ⟨h1, h⟩ := and2 h
  obtain ⟨h2, h⟩ := and2 h
  obtain ⟨h3, h⟩ := and2 h
  obtain ⟨h4, h5⟩ := and2 h
  exact ⟨clsB_ok h1, He.eqO_ok h2, He.eqO_ok h3, eqB_ok h4, eqB_ok h5⟩
def tyNms : List String := ["str", "int", "bool", "tuple", "list", "dict"]
theorem tyNm_mem {n : String} (h : tyNm n = true) : n ∈ tyNms := by
  unfold tyNm at h
  simp only [Bool.or_eq_true, beq_iff_eq] at h
  simp only [tyNms, List.mem_cons, List.not_mem_nil, or_false]
  rcases h with ((((h | h) | h) | h) | h) | h <;> simp [h]
def txOf (K : Frag) (cs : List Str) : Tx := { K := K, cls := fun c => if cs.contains c then some (He.ga K c) else none }
theorem tx_cls {K : Frag} {cs : List Str} {c : Str} {C : Addr} (h : (txOf K cs).cls c = some C) : c ∈ cs ∧ He.ga K c = C := by
  have h : (if cs.contains c then some (He.ga K c) else none) = some C := h
  split at h
  · rename_i e
    exact ⟨by simpa using e, Option.some.inj h⟩
  · cases h
def kinC (kin : Kin) (cs : List Str) (K : Frag) (c : Str) : Bool :=
  (kin.fld c).all (fun f => clsB K (He.ga K c) && He.eqO (findIn K (.ref (He.ga K c)) f) (some none)) && ((kin.xfl c).all (fun f => xcfB K (He.ga K c) f) && ((tyAll.all fun T => eqB (kitOne K (.type T) (.ref (He.ga K c))) (some false)) &&
  ((!kin.isI c || (insB K (He.ga K c) && ((tyNms.all fun n => eqB (kitOne K (.ref (He.ga K c)) (.type n)) (some false)) && cs.all fun c' => eqB (kitOne K (.ref (He.ga K c)) (.ref (He.ga K c'))) (some ((kin.par c).contains c'))))) &&
  (!kin.isX c || cs.all fun c' => !kin.isX c' || eqB (exmOne K (.ref (He.ga K c)) (.ref (He.ga K c'))) (some ((kin.par c).contains c'))))))
def kinB (kin : Kin) (cs : List Str) (K : Frag) : Bool := cs.all (kinC kin cs K)
theorem kinB_ok {kin : Kin} {cs : List Str} {K : Frag} (h : kinB kin cs K = true) : KinOk kin (txOf K cs) := by
  have key : ∀ c C, (txOf K cs).cls c = some C → He.ga K c = C ∧ c ∈ cs ∧ kinC kin cs K c = true := fun c C hc => ⟨(tx_cls hc).2, (tx_cls hc).1, List.all_eq_true.mp h c (tx_cls hc).1⟩
  have or2 : ∀ {a b : Bool}, (!a || b) = true → a = true → b = true := fun {a b} h e => by rw [e] at h; exact h
  constructor
  · intro c C f hc hf
    obtain ⟨rfl, m, q⟩ := key c C hc
    obtain ⟨q1, _⟩ := and2 q
    obtain ⟨q1, q2⟩ := and2 (List.all_eq_true.mp q1 f (by simpa using hf))
    exact ⟨clsB_ok q1, He.eqO_ok q2⟩
  · intro c C f hc hf
    obtain ⟨rfl, m, q⟩ := key c C hc
    obtain ⟨_, q⟩ := and2 q
    obtain ⟨q1, _⟩ := and2 q
    exact xcfB_ok (List.all_eq_true.mp q1 f (by simpa using hf))
  · intro c c' C C' h1 h2 hc hc'
    obtain ⟨rfl, m, q⟩ := key c C hc
    obtain ⟨e', m', _⟩ := key c' C' hc'
    subst e'
    obtain ⟨_, q⟩ := and2 q
    obtain ⟨_, q⟩ := and2 q
    obtain ⟨_, q⟩ := and2 q
    obtain ⟨_, q⟩ := and2 q
    exact eqB_ok (or2 (List.all_eq_true.mp (or2 q h1) c' m') h2)
  · intro c C T hc hT
    obtain ⟨rfl, m, q⟩ := key c C hc
    obtain ⟨_, q⟩ := and2 q
    obtain ⟨_, q⟩ := and2 q
    obtain ⟨q1, _⟩ := and2 q
    exact eqB_ok (List.all_eq_true.mp q1 T hT)
  · intro c C hi hc
    obtain ⟨rfl, m, q⟩ := key c C hc
    obtain ⟨_, q⟩ := and2 q
    obtain ⟨_, q⟩ := and2 q
    obtain ⟨_, q⟩ := and2 q
    obtain ⟨q1, _⟩ := and2 q
    obtain ⟨q1, _⟩ := and2 (or2 q1 hi)
    exact insB_ok q1
  · intro c C n hi hc hn
    obtain ⟨rfl, m, q⟩ := key c C hc
    obtain ⟨_, q⟩ := and2 q
    obtain ⟨_, q⟩ := and2 q
    obtain ⟨_, q⟩ := and2 q
    obtain ⟨q1, _⟩ := and2 q
    obtain ⟨_, q1⟩ := and2 (or2 q1 hi)
    obtain ⟨q1, _⟩ := and2 q1
    exact eqB_ok (List.all_eq_true.mp q1 n (tyNm_mem hn))
  · intro c c' C C' hi hc hc'
    obtain ⟨rfl, m, q⟩ := key c C hc
    obtain ⟨e', m', _⟩ := key c' C' hc'
    subst e'
    obtain ⟨_, q⟩ := and2 q
    obtain ⟨_, q⟩ := and2 q
    obtain ⟨_, q⟩ := and2 q
    obtain ⟨q1, _⟩ := and2 q
    obtain ⟨_, q1⟩ := and2 (or2 q1 hi)
    obtain ⟨_, q1⟩ := and2 q1
    exact eqB_ok (List.all_eq_true.mp q1 c' m')

/-! ### names -/
def gvB (K : Frag) (cs : List Str) (x : Str) : Gv → Bool
  | .cst (.int i) => (He.Fa.int x i).ok K
  | .cst (.str z) => (He.Fa.str x z).ok K
  | .cst _ => false
  | .fn _ => (He.Fa.glo x).ok K && (He.Fa.keep x).ok K
  | .blt => (He.Fa.free x).ok K
  | .cls c => c == x && (cs.contains x && (He.Fa.glo x).ok K)
  | .cfn c _ => c == x && (cs.contains x && ((He.Fa.glo x).ok K && ((He.Fa.keep x).ok K && (He.Fa.mkr x).ok K)))
  | .mth c m _ => cs.contains c && (clsB K (He.ga K c) && (He.Fa.meth c m).ok K)
def gtB (K : Frag) (cs : List Str) (gt : Gt) : Bool := gt.all fun p => gvB K cs p.1 p.2
def updO (C : Orc) (x : Str) (m : List D → M D) : Orc := fun f => if f == x then m else C f
def failO : Orc := fun _ _ => M.fail
theorem fail_fn {P : Program} {w : World} {K : Frag} {mg : Str → Option Value} {base : Heap} {Y : Tx} {f : Addr} {n : Nat} : FnG P w K mg base 0 f n (spG Y n (fun _ => M.fail)) :=
  ⟨fun vs H Q E h => h.1, fun A outer s H us vs Q E _ _ _ _ hs => hs.2.elim fun _ h => h.elim fun _ h => h.elim fun _ h => h.2.2.elim⟩
section
variable {P : Program} {w : World} {K : Frag} {mg : Str → Option Value} {base h : Heap} {cs : List Str} {gt : Gt} {k : Nat} {C : Orc} {Y : Tx}
theorem mem_of_lookup {α β : Type} [BEq α] [LawfulBEq α] {x : α} {v : β} : ∀ {l : List (α × β)}, l.lookup x = some v → (x, v) ∈ l
  | [], e => by cases e
  | (y, u) :: r, e => by
    rw [List.lookup_cons] at e
    split at e
    · rename_i c
      cases e
      rw [beq_iff_eq.mp c]
      exact List.mem_cons_self
    · exact List.mem_cons_of_mem _ (mem_of_lookup e)
theorem gt_start (X : K.In h) (G : h.Ns mainGlobals mg) (c : gtB K cs gt = true) : GtOk false gt (txOf K cs) 0 failO P w K mg base := by
  intro x v hx
  have q : gvB K cs x v = true := List.all_eq_true.mp c (x, v) (mem_of_lookup hx)
  cases v with
  | cst d =>
    cases d with
    | int i =>
      obtain ⟨t, e⟩ := He.int_ok X G (x := x) (i := i) q
      exact ⟨.int i, _, e, ⟨t, rfl⟩, fun _ _ => .int i⟩
    | str z =>
      obtain ⟨t, e⟩ := He.str_ok X G (x := x) (z := z) q
      exact ⟨.str z, _, e, ⟨t, rfl⟩, fun _ _ => .str z⟩
    | _ => cases q
  | fn n =>
    obtain ⟨q1, q2⟩ := and2 q
    exact fun _ => ⟨_, He.glo_ok X G q1, q2, fail_fn⟩
  | blt => exact He.free_ok X G (x := x) q
  | cls c =>
    obtain ⟨q1, q2⟩ := and2 q
    obtain ⟨q2, q3⟩ := and2 q2
    have e := beq_iff_eq.mp q1
    subst e
    exact ⟨_, He.glo_ok X G q3, if_pos q2⟩
  | cfn c n =>
    obtain ⟨q1, q2⟩ := and2 q
    obtain ⟨q2, q3⟩ := and2 q2
    obtain ⟨q3, q4⟩ := and2 q3
    obtain ⟨q4, q5⟩ := and2 q4
    have e := beq_iff_eq.mp q1
    subst e
    exact ⟨⟨_, He.glo_ok X G q3, if_pos q2⟩, fun _ => ⟨_, He.glo_ok X G q3, q4, fail_fn⟩⟩
  | mth c m n =>
    obtain ⟨q1, q2⟩ := and2 q
    obtain ⟨q2, q3⟩ := and2 q2
    intro _ Ca hc
    obtain ⟨_, rfl⟩ := tx_cls hc
    exact ⟨_, clsB_ok q2, He.meth_ok q3, fail_fn⟩
/-- one name more is known -/
theorem gt_keep {x y : Str} {m : List D → M D} {v : Gv} (e : y ≠ x) (q : GvOk false Y k C P w K mg base y v) : GvOk false Y (k + 1) (updO C x m) P w K mg base y v := by
  have eu : updO C x m y = C y := by
    unfold updO
    rw [if_neg]
    exact fun z => e (beq_iff_eq.mp z)
  cases v with
  | cst d => exact q
  | fn n' =>
    intro _
    obtain ⟨f, h1, h2, h3⟩ := q rfl
    exact ⟨f, h1, h2, by rw [eu]; exact h3.mono (Nat.le_succ k)⟩
  | blt => exact q
  | cls c => exact q
  | cfn c n =>
    refine ⟨q.1, fun _ => ?_⟩
    obtain ⟨f, h1, h2, h3⟩ := q.2 rfl
    exact ⟨f, h1, h2, by rw [eu]; exact h3.mono (Nat.le_succ k)⟩
  | mth c m n =>
    intro _ Ca hc
    obtain ⟨f, h1, h2, h3⟩ := q rfl Ca hc
    exact ⟨f, h1, h2, by rw [eu]; exact h3.mono (Nat.le_succ k)⟩
theorem upd_self {x : Str} {m : List D → M D} : updO C x m x = m := by unfold updO; rw [if_pos (beq_self_eq_true _)]
theorem gt_upd {x : Str} {n : Nat} {m : List D → M D} (g : GtOk false gt Y k C P w K mg base) (hx : gt.lookup x = some (.fn n)) (hf : ∀ f, mg x = some (.ref f) → FnG P w K mg base (k + 1) f n (spG Y n m)) : GtOk false gt Y (k + 1) (updO C x m) P w K mg base := by
  intro y v hy
  have q := g y v hy
  by_cases e : y = x
  · subst e
    rw [hx] at hy
    cases hy
    intro _
    obtain ⟨f, h1, h2, _⟩ := q rfl
    refine ⟨f, h1, h2, ?_⟩
    rw [upd_self]
    exact hf f h1
  · exact gt_keep e q
theorem gt_updC {x c : Str} {n : Nat} {m : List D → M D} (g : GtOk false gt Y k C P w K mg base) (hx : gt.lookup x = some (.cfn c n)) (hf : ∀ f, mg x = some (.ref f) → FnG P w K mg base (k + 1) f n (spG Y n m)) : GtOk false gt Y (k + 1) (updO C x m) P w K mg base := by
  intro y v hy
  have q := g y v hy
  by_cases e : y = x
  · subst e
    rw [hx] at hy
    cases hy
    refine ⟨q.1, fun _ => ?_⟩
    obtain ⟨f, h1, h2, _⟩ := q.2 rfl
    refine ⟨f, h1, h2, ?_⟩
    rw [upd_self]
    exact hf f h1
  · exact gt_keep e q
theorem gt_updM {x c mm : Str} {n : Nat} {m : List D → M D} (g : GtOk false gt Y k C P w K mg base) (hx : gt.lookup x = some (.mth c mm n)) (hf : ∀ Ca f, Y.cls c = some Ca → Meth K Ca mm f → FnG P w K mg base (k + 1) f (n + 1) (spG Y (n + 1) m)) : GtOk false gt Y (k + 1) (updO C x m) P w K mg base := by
  intro y v hy
  have q := g y v hy
  by_cases e : y = x
  · subst e
    rw [hx] at hy
    cases hy
    intro _ Ca hc
    obtain ⟨f, h1, h2, _⟩ := q rfl Ca hc
    refine ⟨f, h1, h2, ?_⟩
    rw [upd_self]
    exact hf Ca f hc h2
  · exact gt_keep e q
theorem GtOk.mono (g : GtOk false gt Y k C P w K mg base) : GtOk false gt Y (k + 1) C P w K mg base := by
  intro y v hy
  have q := g y v hy
  cases v with
  | cst d => exact q
  | fn n' =>
    intro _
    obtain ⟨f, h1, h2, h3⟩ := q rfl
    exact ⟨f, h1, h2, h3.mono (Nat.le_succ k)⟩
  | blt => exact q
  | cls c => exact q
  | cfn c n =>
    refine ⟨q.1, fun _ => ?_⟩
    obtain ⟨f, h1, h2, h3⟩ := q.2 rfl
    exact ⟨f, h1, h2, h3.mono (Nat.le_succ k)⟩
  | mth c m n =>
    intro _ Ca hc
    obtain ⟨f, h1, h2, h3⟩ := q rfl Ca hc
    exact ⟨f, h1, h2, h3.mono (Nat.le_succ k)⟩
end

/-! ### defs -/
/-- a def of the module, a method, an __init__ -/
inductive Kd where
  | fn | mth (c m : Str) | ini (c : Str)
structure DefI where
  name : Str
  N : List Str
  ps : List Str
  args : Arguments
  body : List Stmt
  sc : Scope
  own : List Nat
  b : Ss
  kd : Kd := .fn
  pn : Str := name
  q : Str := name
def DefI.at_ (d : DefI) : Str × Option Str := match d.kd with
  | .fn => (d.name, none)
  | .mth c m => (c, some m)
  | .ini c => (c, some "__init__")
/-- what is told of its text -/
structure DefT (d : DefI) : Prop where
  sc : FnScope d.N d.ps d.sc
  bd : ∀ (kV doc pm : Value) (an : Option Addr) (cdv ct : Value) (us : List Value), us.length = d.ps.length → bindArgs (fnOf d.pn d.q d.args d.body d.sc .none kV doc pm an cdv ct) ⟨us, []⟩ = pure (d.ps.zip us)
/-- what is told of its object -/
def DefAt (K : Frag) (d : DefI) : Prop := ∃ oc od osl kV doc pm an cdv ct, K.lookup (He.fAd K d.at_) = some ⟨oc, od, .func (fnOf d.pn d.q d.args d.body d.sc .none kV doc pm an cdv ct), osl⟩ ∧ codeIn K cdv d.q = true
def DefI.fnD (d : DefI) : He.FnD := ⟨d.at_, d.pn, d.q, d.args, d.body, d.sc⟩
def DefI.gv (d : DefI) : Option Gv := match d.kd with
  | .fn => some (.fn d.ps.length)
  | .mth c m => match d.ps with
    | [] => none
    | _ :: r => some (.mth c m r.length)
  | .ini c => match d.ps with
    | [] => none
    | _ :: r => some (.cfn c r.length)
def DefI.ok (d : DefI) : Bool := match d.kd with
  | .ini c => d.name == c
  | _ => true
/-- one's body is compiled -/
structure DefC (kin : Kin) (gt : Gt) (r : Cfg → Cp) (n : Nat) (d : DefI) : Prop where
  t : DefT d
  cp : cpSs kin gt r n (fnCfg d.N d.sc d.own) d.body = some d.b
  gt : gt.lookup d.name = d.gv
  gs : d.gv.isSome = true
  ok : d.ok = true
def DefI.run (kin : Kin) (C : Orc) (d : DefI) : List D → M D := match d.kd with
  | .ini c => runI kin C c (d.N.length - d.ps.length) d.b
  | _ => runF kin C (d.N.length - d.ps.length) d.b
def orcs (kin : Kin) (C : Orc) : List DefI → Orc
  | [] => C
  | d :: ds => orcs kin (updO C d.name (d.run kin C)) ds
/-- what stands around all defs -/
structure Arnd (kin : Kin) (gt : Gt) (Y : Tx) (U : Wd) : Prop where
  hY : Y.cur = none
  kok : KinOk kin Y
  sys : ∃ o, U.base.get? sysModules = some o
  ms : ∀ k C, Sms kin gt Y k C U
/-- where a def's object stands -/
def DefMg (Y : Tx) (U : Wd) (d : DefI) : Prop := match d.kd with
  | .fn => U.mg d.name = some (.ref (He.fAd Y.K d.at_))
  | .mth c m => ∀ Ca f, Y.cls c = some Ca → Meth Y.K Ca m f → f = He.fAd Y.K d.at_
  | .ini c => ∃ Ca, Y.cls c = some Ca ∧ U.mg c = some (.ref Ca) ∧ Mk Y.K Ca (He.fAd Y.K d.at_)
section
variable {kin : Kin} {gt : Gt} {Y : Tx} {U : Wd} {r : Cfg → Cp} {n k : Nat} {C : Orc}
theorem gt_def1 (sn : Snd kin gt r) (A : Arnd kin gt Y U) {d : DefI} (c : DefC kin gt r n d) (at_ : DefAt Y.K d) (hm : DefMg Y U d) (g : GtOk false gt Y k C U.P U.w Y.K U.mg U.base) : GtOk false gt Y (k + 2) (updO C d.name (d.run kin C)) U.P U.w Y.K U.mg U.base := by
  obtain ⟨oc, od, osl, kV, doc, pm, an, cdv, ct, lk, hcd⟩ := at_
  obtain ⟨name, N, ps, args, body, sc, own, b, kd, pn, q⟩ := d
  have cg := c.gt
  have cs := c.gs
  have ck := c.ok
  unfold DefI.gv at cg cs
  unfold DefI.ok at ck
  unfold DefMg at hm
  cases kd with
  | fn =>
    refine GtOk.mono (gt_upd g cg fun f hf => ?_)
    dsimp only at hm
    rw [hf] at hm
    cases hm
    exact fn_ok (V := U) sn lk hcd c.t.sc (Binds.all (c.t.bd _ _ _ _ _ _)) A.hY A.kok A.sys g (A.ms k C) c.cp
  | mth cl m =>
    cases ps with
    | nil => cases cs
    | cons p0 ps =>
      refine GtOk.mono (gt_updM g cg fun Ca f hc hM => ?_)
      cases hm Ca f hc hM
      exact fn_ok (V := U) sn lk hcd c.t.sc (Binds.all (c.t.bd _ _ _ _ _ _)) A.hY A.kok A.sys g (A.ms k C) c.cp
  | ini cl =>
    cases ps with
    | nil => cases cs
    | cons p0 ps =>
      obtain ⟨Ca, h1, h2, h3⟩ := hm
      have ck : name = cl := beq_iff_eq.mp ck
      subst ck
      refine gt_updC (k := k + 1) (GtOk.mono g) cg fun f hf => ?_
      rw [hf] at h2
      cases h2
      exact cls_ok h3 (ini_ok (V := U) sn lk hcd c.t.sc (Binds.all (c.t.bd _ _ _ _ _ _)) h1 A.hY A.kok A.sys g (A.ms k C) c.cp)
theorem gt_defs (sn : Snd kin gt r) (A : Arnd kin gt Y U) : ∀ {ds : List DefI} {k : Nat} {C : Orc}, (∀ d ∈ ds, DefC kin gt r n d ∧ DefAt Y.K d ∧ DefMg Y U d) → GtOk false gt Y k C U.P U.w Y.K U.mg U.base →
    GtOk false gt Y (k + 2 * ds.length) (orcs kin C ds) U.P U.w Y.K U.mg U.base
  | [], k, C, _, g => g
  | d :: ds, k, C, h, g => by
    obtain ⟨c, at_, hm⟩ := h d List.mem_cons_self
    have := gt_defs sn A (ds := ds) (fun d' hd => h d' (List.mem_cons_of_mem _ hd)) (gt_def1 sn A c at_ hm g)
    rw [List.length_cons, show k + 2 * (ds.length + 1) = k + 2 + 2 * ds.length by omega]
    exact this
end
/-- exceptions are made by their texts -/
theorem sms_of {kin : Kin} {gt : Gt} {K : Frag} {cs : List Str} {U : Wd} (fI : Str → Addr) (hs : U.mg "super" = none) (h : ∀ c f, c ∈ cs → kin.ini c = some f → XinF U.P K (He.ga K c) f (fI c)) (k : Nat) (C : Orc) : Sms kin gt (txOf K cs) k C U := by
  intro g X W so av hh x c f Ca e te p p2 hg hf hc hgl hm hn hst he
  obtain ⟨a1, a2, a3, a4⟩ := av
  obtain ⟨hcs, rfl⟩ := tx_cls hc
  have F := h c f hcs hf
  have hK : X.K = K := so.o.ox.hK
  refine mkx_ok (X := X) (fI := fI c) (by rw [a1, hK]; exact F) (so.o.ox.room hh) (by rw [a3]; exact hs) hgl hm ?_ hst he
  exact (okName_ok hn).1
end RM
end
section
set_option Elab.async false
set_option linter.all false
set_option maxRecDepth 100000
set_option autoImplicit false
/-! the head's Hook, the law's end -/
namespace RM
open PySem PySem.Spec PyProof.Rows L2 PySem.W

/-! ### the Hook -/
/-- what an object names, a def's cells too -/
def refsM (o : Obj) : List Addr := He.refsO o ++ match o.data with
  | .func fd => fd.closure.map (·.2)
  | _ => []
def asM (g : Addr → Option Obj) : Nat → List Addr
  | 0 => [mainGlobals, sysModules, cStatics]
  | n + 1 => (asM g n ++ (asM g n).flatMap fun a => match g a with
    | some o => refsM o
    | none => []).eraseDups
abbrev AlM : Type := Bool × List He.FnV
def obsK (chk : Frag → Bool) (fn : List He.FnD) (K : Frag) : AlM := (chk K && fn.all fun d => (He.Fa.code d.at_ d.qual).ok K, fn.map fun d => He.fnObs K d.at_)
def obsM (n : Nat) (chk : Frag → Bool) (fn : List He.FnD) (g : Addr → Option Obj) : AlM := obsK chk fn (He.frG g (asM g n))
def valM (fn : List He.FnD) : AlM := (true, fn.map He.FnD.val)
def SaysM (chk : Frag → Bool) (fn : List He.FnD) (h : Heap) : Prop := ∃ K : Frag, K.In h ∧ obsK chk fn K = valM fn
def hookM (n : Nat) (chk : Frag → Bool) (fn : List He.FnD) : Hook where
  α := AlM
  obs := fun s => obsM n chk fn s.heap.get?
  val := fun _ => valM fn
  says := fun _ h => SaysM chk fn h
  of := fun _ _ e => ⟨_, He.frG_in, e⟩
  keeps := fun _ _ _ ⟨K, hK, c⟩ k => ⟨K, Frag.In.keeps hK k, c⟩
def obM (n : Nat) (chk : Frag → Bool) (fn : List He.FnD) (s : SharedT) : AlM := obsM n chk fn (HandSHeadRun.getT s)
theorem obM_eq {n : Nat} {chk : Frag → Bool} {fn : List He.FnD} (s : SharedT) : obM n chk fn s = (hookM n chk fn).obs s.abs := by
  have e : HandSHeadRun.getT s = s.abs.heap.get? := funext (HandSHeadRun.getT_eq s)
  show obsM n chk fn _ = obsM n chk fn _
  rw [e]
theorem says_chk {chk : Frag → Bool} {fn : List He.FnD} {K : Frag} (e : obsK chk fn K = valM fn) : chk K = true := (and2 (congrArg (fun z : AlM => z.1) e)).1
theorem says_def {chk : Frag → Bool} {fn : List He.FnD} {K : Frag} (e : obsK chk fn K = valM fn) {d : He.FnD} (hd : d ∈ fn) :
    ∃ oc od osl kV doc pm an cdv ct, K.lookup (He.fAd K d.at_) = some ⟨oc, od, .func (fnOf d.name d.qual d.params d.body d.scope .none kV doc pm an cdv ct), osl⟩ ∧ codeIn K cdv d.qual = true := by
  have h1 : (fn.map fun d => He.fnObs K d.at_) = fn.map He.FnD.val := congrArg (fun z : AlM => z.2) e
  have h2 := (and2 (congrArg (fun z : AlM => z.1) e)).2
  refine He.fn_ok ?_ (List.all_eq_true.mp h2 d hd)
  obtain ⟨i, hi, rfl⟩ := List.mem_iff_getElem.mp hd
  have h3 := congrArg (fun l => l[i]?) h1
  simpa [hi] using h3

/-! ### a law's text -/
structure LawI where
  kin : Kin
  gt : Gt
  cs : List Str
  dB : DefI
  dN : DefI
  ds : List DefI
def LawI.fns (L : LawI) : List He.FnD := (L.dB :: L.dN :: L.ds).map DefI.fnD
/-- where a def's object stands, by a test -/
def dmB (cs : List Str) (K : Frag) (d : DefI) : Bool := match d.kd with
  | .fn => (He.Fa.glo d.name).ok K
  | .mth _ _ => true
  | .ini c => cs.contains c && ((He.Fa.glo c).ok K && (He.Fa.mkr c).ok K)
theorem dmB_ok {P : Program} {w : World} {K : Frag} {mg : Str → Option Value} {h base : Heap} {cs : List Str} (X : K.In h) (G : h.Ns mainGlobals mg) {d : DefI} (c : dmB cs K d = true) : DefMg (txOf K cs) ⟨P, w, mg, base⟩ d := by
  unfold dmB at c
  unfold DefMg DefI.at_
  split at c <;> rename_i hk <;> (try rw [hk])
  · exact He.glo_ok X G c
  · rename_i cc m
    intro Ca f hc hM
    obtain ⟨_, rfl⟩ := tx_cls hc
    show f = He.ma K (He.ga K cc) m
    unfold He.ma
    rw [show PySem.W.findIn K (.ref (He.ga K cc)) m = some (some (.ref f)) from hM.at_]
  · obtain ⟨q1, q2⟩ := and2 c
    obtain ⟨q2, q3⟩ := and2 q2
    exact ⟨_, if_pos q1, He.glo_ok X G q2, He.mkr_ok q3⟩
def chkL (L : LawI) (file : Str) (K : Frag) : Bool :=
  kinB L.kin L.cs K && (gtB K L.cs L.gt && ((L.cs.all fun c => match L.kin.ini c with
    | none => true
    | some f => xinB file K (He.ga K c) (He.ma K (He.ga K c) "__init__") f) && ((He.Fa.free "super").ok K && ((K.lookup sysModules).isSome && ((L.dB :: L.dN :: L.ds).all fun d => dmB L.cs K d)))))
structure LawOk (L : LawI) (r : Cfg → Cp) (n : Nat) : Prop where
  sn : Snd L.kin L.gt r
  tB : DefT L.dB
  tN : DefT L.dN
  kB : L.dB.kd = .fn
  kN : L.dN.kd = .fn
  nB : L.dB.N.length = 2
  pB : L.dB.ps.length = 1
  nN : L.dN.N.length = 7
  pN : L.dN.ps.length = 2
  gB : L.gt.lookup L.dB.name = some (Gv.fn 1)
  gN : L.gt.lookup L.dN.name = some (Gv.fn 2)
  iB : BegunIs L.kin L.gt failO L.dB.N L.dB.sc L.dB.body
  iN : NextIs L.kin L.gt (updO failO L.dB.name orcBegun) L.dN.N L.dN.sc L.dN.body
  ds : ∀ d ∈ L.ds, DefC L.kin L.gt r n d
  law : L.gt.lookup ("law" : Str) = some (Gv.fn 1)
def LawI.orc (L : LawI) : Orc := orcs L.kin (updO (updO failO L.dB.name orcBegun) L.dN.name orcNext) L.ds
theorem law_fn {L : LawI} {r : Cfg → Cp} {n : Nat} (o : LawOk L r n) {P : Program} {w : World} {K : Frag} {mg : Str → Option Value} {h base : Heap} {fa : Addr} (top : (P.main.scope.names.lookup ("super" : Str)).isSome = false)
    (X : K.In h) (G : h.Ns mainGlobals mg) (Xb : K.In base) (e : obsK (chkL L P.main.file) L.fns K = valM L.fns) (hfa : mg ("law" : Str) = some (.ref fa)) :
    FnG P w K mg base (2 + 2 * L.ds.length) fa 1 (spG (txOf K L.cs) 1 (L.orc "law")) := by
  have c := says_chk e
  obtain ⟨c1, c⟩ := and2 c
  obtain ⟨c2, c⟩ := and2 c
  obtain ⟨c3, c⟩ := and2 c
  obtain ⟨c4, c⟩ := and2 c
  obtain ⟨c5, c6⟩ := and2 c
  have hs : mg "super" = none := He.free_ok X G c4
  let U : Wd := ⟨P, w, mg, base⟩
  have A : Arnd L.kin L.gt (txOf K L.cs) U := by
    refine ⟨rfl, kinB_ok c1, ?_, fun k C => sms_of (fun c => He.ma K (He.ga K c) "__init__") hs (fun c f hc hf => ?_) k C⟩
    · obtain ⟨o, ho⟩ := Option.isSome_iff_exists.mp c5
      exact ⟨o, Xb _ _ ho⟩
    · have q := List.all_eq_true.mp c3 c hc
      rw [hf] at q
      exact xinB_ok top q
  have at_ : ∀ d ∈ L.dB :: L.dN :: L.ds, DefAt K d ∧ DefMg (txOf K L.cs) U d := fun d hd => ⟨says_def e (d := d.fnD) (List.mem_map_of_mem hd), dmB_ok X G (List.all_eq_true.mp c6 d hd)⟩
  have g0 : GtOk false L.gt (txOf K L.cs) 0 failO P w K mg base := gt_start X G c2
  have mB : L.dB ∈ L.dB :: L.dN :: L.ds := List.mem_cons_self
  have mN : L.dN ∈ L.dB :: L.dN :: L.ds := List.mem_cons_of_mem _ List.mem_cons_self
  have g1 : GtOk false L.gt (txOf K L.cs) 1 (updO failO L.dB.name orcBegun) P w K mg base := by
    refine gt_upd g0 o.gB fun f hf => ?_
    obtain ⟨⟨oc, od, osl, kV, doc, pm, an, cdv, ct, lk, hcd⟩, hm⟩ := at_ _ mB
    unfold DefMg at hm
    rw [o.kB] at hm
    have hm : mg L.dB.name = some (.ref (He.fAd K L.dB.at_)) := hm
    rw [hf] at hm
    cases hm
    exact begun_fn (U := U) (Y := txOf K L.cs) lk hcd o.tB.sc (Binds.all (o.tB.bd _ _ _ _ _ _)) A.hY A.kok A.sys g0 o.nB o.pB o.iB
  have g2 : GtOk false L.gt (txOf K L.cs) 2 (updO (updO failO L.dB.name orcBegun) L.dN.name orcNext) P w K mg base := by
    refine gt_upd g1 o.gN fun f hf => ?_
    obtain ⟨⟨oc, od, osl, kV, doc, pm, an, cdv, ct, lk, hcd⟩, hm⟩ := at_ _ mN
    unfold DefMg at hm
    rw [o.kN] at hm
    have hm : mg L.dN.name = some (.ref (He.fAd K L.dN.at_)) := hm
    rw [hf] at hm
    cases hm
    exact next_fn (U := U) (Y := txOf K L.cs) lk hcd o.tN.sc (Binds.all (o.tN.bd _ _ _ _ _ _)) A.hY A.kok A.sys g1 (A.ms _ _) o.nN o.pN o.iN
  have g3 := gt_defs (U := U) o.sn A (n := n) (ds := L.ds) (fun d hd => ⟨o.ds d hd, at_ d (List.mem_cons_of_mem _ (List.mem_cons_of_mem _ hd))⟩) g2
  obtain ⟨f, h1, _, h3⟩ := g3 "law" _ o.law rfl
  have ef : f = fa := by
    have h1' : mg "law" = some (.ref f) := h1
    rw [hfa] at h1'
    cases h1'; rfl
  subst ef
  exact h3

/-! ### the law is called -/
/-- what the law's own value must be -/
def LawV (L : LawI) : Prop := ∀ ns : List Int, scriptOk ns = true → wpM (L.orc "law" [.scr ns]) {} (fun d _ => d = .bl true) fun _ _ => False
theorem go_call {P : Program} {w : World} {K : Frag} {mg mb : Str → Option Value} {k : Nat} {fa a : Addr} {cs : List Str} {m : List D → M D} {ns : List Int} {s₁ : Shared} {H : Hp}
    (KX : K.In s₁.heap) (hns : s₁.heap.Ns mainGlobals mg) (hb : s₁.heap.Ns builtinsNs mb) (hbb : ∀ x : Str, x ≠ "__name__" → mb x = bootBuiltins x) (hlim : s₁.heap.NoLimit) (hg : s₁.gens = #[]) (hr : Room k callerA)
    (F : ∀ base : Heap, K.In base → base.Ns mainGlobals mg → FnG P w K mg base k fa 1 (spG (txOf K cs) 1 m)) (hv : wpM (m [.scr ns]) {} (fun d _ => d = .bl true) fun _ _ => False)
    (hok : HOk P w H s₁.heap) (one : ∀ b, H b ≠ none → b = a ∧ (∃ o xs, H b = some (.frz o (.lst xs)))) (nd : ∀ o es ep, H a ≠ none → s₁.heap.get? a = some o → o.data ≠ .dict es ep) (nk : H a ≠ none → K.lookup a = none) (hs : Scr K H a ns) :
    codeAny (model P w) callerA (.call (.ref fa) ⟨[.ref a], []⟩) (fun r s' => r = .ok (.ret (.bool true)) ∧ OldK s₁.heap s'.heap ∧ s'.os = s₁.os ∧ AllBare s'.gens) s₁ := by
  have away : ∀ b, (H b ≠ none → False) → H b = none := fun b q => Decidable.byContradiction fun z => q z
  have nsk : ∀ {b : Addr} {m : Str → Option Value}, s₁.heap.Ns b m → (hidT s₁.heap H).Ns b m := by
    intro b m hm
    obtain ⟨o, es, ep, e, d, q⟩ := hm
    have hbn : H b = none := away b fun z => by
      have ez := (one b z).1
      subst ez
      exact nd o es ep z e d
    exact ⟨o, es, ep, hidT_get e hbn, d, q⟩
  have kin : K.In (hidT s₁.heap H) := by
    intro b o e
    refine hidT_get (KX b o e) (away b fun z => ?_)
    have ez := (one b z).1
    subst ez
    rw [nk z] at e
    cases e
  have e0 : Env0 P w K mg (hidT s₁.heap H) callerA [] s₁ H := by
    refine { frames := rfl, mod := ⟨kin, nsk hns, ⟨mb, nsk hb, hbb⟩, ?_⟩, bs := fun b o e => of_hidT e, bsz := Nat.le_of_eq (hidT_size _ _), funs := trivial, frf := fun b hb => ?_, hok := hok, bare := .of_eq hg }
    · obtain ⟨mc, h1, h2⟩ := hlim
      exact ⟨mc, nsk h1, h2⟩
    · have z : b ∈ ([] : List Addr) := hb
      cases z
  let G : Gh := ⟨fun _ => False, fun _ => False, none⟩
  have ok : GOk (txOf K cs) G H {} := { fzmu := fun _ z => z.elim, fzT := fun _ z => z.elim, muT := fun _ z => z.elim, solid := fun _ _ _ _ z => z, dr := fun z e => (nomatch e), dr0 := fun _ => rfl }
  have sp : spG (txOf K cs) 1 m [.ref a] H (fun v _ => v = .bl true) fun _ _ _ => False := by
    refine ⟨rfl, G, {}, [.scr ns], ok, .cons (.scr hs) .nil, wpM_mono hv (fun d S e G' H' v _ _ r => ?_) fun _ _ z => z.elim⟩
    subst e
    cases r
    rfl
  refine codeAny_mono ((F _ kin (nsk hns)).run callerA [] s₁ H [.ref a] [.ref a] _ _ hr rfl e0 (.cons rfl .nil) sp) fun res s' q => ?_
  match res, q with
  | .error e, q =>
    obtain ⟨_, _, _, _, _, _, _, _, _, _, _, _, z⟩ := q
    exact z.elim
  | .ok .next, q => exact q.elim
  | .ok .brk, q => exact q.elim
  | .ok .cont, q => exact q.elim
  | .ok (.ret u), q =>
    obtain ⟨v, H', os, bare, un, hok', rv, e⟩ := q
    have e : v = .bl true := e
    subst e
    have eu : u = Value.bool true := rv
    subst eu
    refine ⟨rfl, OldK.of_keep fun b o e => ?_, os, bare⟩
    by_cases hb : H b = none
    · refine un.keep b o e hb (fun z => ?_) (by simp)
      have z : b ∈ ([] : List Addr) := z
      cases z
    · obtain ⟨_, ob, xs, z⟩ := one b hb
      have old := (hok b _ z).1
      have new := (hok' b _ (un.frzs b ob _ z)).1
      rw [e] at old
      cases old
      exact new
theorem bits_fit {n : Int} (h : Builtin.Int.intBits n ≤ 1048576) : n.natAbs < 2 ^ 1048576 := by
  unfold Builtin.Int.intBits at h
  split at h
  · rename_i e
    have e := beq_iff_eq.mp e
    subst e
    exact Nat.two_pow_pos _
  · rename_i e
    have e : n.natAbs ≠ 0 := by
      intro z
      exact e (beq_iff_eq.mpr (by omega))
    exact (Nat.log2_lt e).mp (by omega)
theorem law_end {l : OpenLaw} {L : LawI} {r : Cfg → Cp} {n m : Nat} (o : LawOk L r n) (hv : LawV L) {q : Program} {loose : List Str} {XP : (Str → Option Value) → Heap → Prop} {d : DefRec} (hm : l.most = some 63) (hdf : d.params.defaults = []) (hdn : d.name = "law")
    (top : (l.prog.main.scope.names.lookup ("super" : Str)).isSome = false) (hr : Room (2 + 2 * L.ds.length) callerA) : WalkO q loose XP (hookM m (chkL L l.prog.main.file) L.fns).says l.row.toRowW d [] (fun f vs => PySem.call f vs) := by
  refine Att.attach_callB hm hdf fun w s₀ s₁ mg mb fa o' pm cd doc a vs ns G Y ho hd hcd hmg hobj hints hlen hbits hg => ?_
  obtain ⟨K, KX, e⟩ := Y
  rw [hdn] at hmg
  have rv := vals_ints hints
  have lenV := hints.length
  have hz := sizeLine_eq
  have hl : ns.length ≤ sizeLine := by omega
  have sk : scriptOk ns = true := by
    unfold scriptOk
    rw [Bool.and_eq_true, List.all_eq_true]
    exact ⟨decide_eq_true hlen, fun i hi => decide_eq_true (bits_fit (hbits i hi))⟩
  have F : ∀ base : Heap, K.In base → base.Ns mainGlobals mg → FnG l.prog w K mg base (2 + 2 * L.ds.length) fa 1 (spG (txOf K L.cs) 1 (L.orc "law")) := fun base hb _ => law_fn o top KX G.T.g hb e hmg
  cases hk : K.lookup a with
  | some ob =>
    have e2 := KX a ob hk
    rw [hobj] at e2
    cases e2
    exact go_call (H := fun _ => none) KX G.T.g G.T.b G.T.builtins G.T.nolimit hg hr F (hv ns sk) (fun _ _ z => by cases z) (fun _ z => absurd rfl z) (fun _ _ _ z => absurd rfl z) (fun z => absurd rfl z)
      (.inr ⟨_, vs.toArray, _, hk, rfl, rfl, rfl, by rw [List.size_toArray, lenV]; exact hl, by simpa using rv⟩)
  | none =>
    let H : Hp := fun b => if b = a then some (.frz { cls := .type "list", data := .seq vs.toArray } (.lst (ns.map V.int))) else none
    have ha : H a = some (.frz { cls := .type "list", data := .seq vs.toArray } (.lst (ns.map V.int))) := if_pos rfl
    have hn : ∀ b, b ≠ a → H b = none := fun b hb => if_neg hb
    refine go_call (H := H) KX G.T.g G.T.b G.T.builtins G.T.nolimit hg hr F (hv ns sk) (fun b u z => ?_) (fun b z => ?_) (fun ob es ep _ z d' => ?_) (fun _ => hk) (.inl ⟨_, ha⟩)
    · by_cases hb : b = a
      · subst hb
        rw [ha] at z
        cases z
        exact ⟨hobj, by rw [List.length_map]; exact hl, vs, _, rv, hobj⟩
      · rw [hn b hb] at z
        cases z
    · by_cases hb : b = a
      · subst hb
        exact ⟨rfl, _, _, ha⟩
      · exact absurd (hn b hb) z
    · rw [hobj] at z
      cases z
      cases d'
end RM
end
section
set_option Elab.async false
set_option linter.all false
set_option maxRecDepth 100000
set_option autoImplicit false
namespace RM
theorem all_cons {α : Type} {p : α → Prop} {a : α} {l : List α} (h : p a) (t : ∀ d ∈ l, p d) : ∀ d ∈ a :: l, p d := fun d hd => (List.mem_cons.mp hd).elim (fun e => e ▸ h) (t d)
end RM
end
section
set_option Elab.async false
set_option linter.all false
set_option maxRecDepth 100000
set_option autoImplicit false
/-! values: what runs give, how many draws they take -/
namespace RM
open PySem PySem.Spec PyProof.Rows L2

/-- m, wherever draws have begun: by at most c draws a value of P, or an exception of X -/
structure Tr {α : Type} (c : Nat) (m : M α) (P : α → Prop) (X : D → Prop) : Prop where
  go : ∀ (S : Sto) (Q : α → Sto → Prop) (R : D → Sto → Prop), S.beg = true → S.n + c ≤ drawMost → (∀ a n, P a → n ≤ S.n + c → Q a { S with n := n }) → (∀ x n, X x → n ≤ S.n + c → R x { S with n := n }) → wpM m S Q R
abbrev noX : D → Prop := fun _ => False
section
variable {α β : Type} {c d : Nat} {m : M α} {f : α → M β} {P P' : α → Prop} {P2 : β → Prop} {X X' : D → Prop}
theorem Tr.pure {a : α} (h : P a) : Tr c (pure a) P X := ⟨fun S Q R _ _ q _ => q a S.n h (Nat.le_add_right _ _)⟩
theorem Tr.bind (h : Tr c m P X) (k : ∀ a, P a → Tr d (f a) P2 X) : Tr (c + d) (m >>= f) P2 X := by
  refine ⟨fun S Q R b l q r => ?_⟩
  refine wpM_bind.mpr (h.go S _ R b (by omega) (fun a n pa ln => ?_) fun x n hx ln => r x n hx (by omega))
  exact (k a pa).go { S with n := n } Q R b (by show n + d ≤ _; omega) (fun a' n' h' l' => q a' n' h' (by have : n' ≤ n + d := l'; omega)) fun x n' h' l' => r x n' h' (by have : n' ≤ n + d := l'; omega)
theorem Tr.mono (h : Tr c m P X) (hc : c ≤ d) (hp : ∀ a, P a → P' a) (hx : ∀ x, X x → X' x) : Tr d m P' X' :=
  ⟨fun S Q R b l q r => h.go S Q R b (by omega) (fun a n pa ln => q a n (hp a pa) (by omega)) fun x n px ln => r x n (hx x px) (by omega)⟩
theorem Tr.le (h : Tr c m P X) (hc : c ≤ d) : Tr d m P X := h.mono hc (fun _ h => h) fun _ h => h
theorem Tr.imp (h : Tr c m P X) (hp : ∀ a, P a → P' a) : Tr c m P' X := h.mono (Nat.le_refl _) hp fun _ h => h
theorem Tr.raise {x : D} (h : X x) : Tr c (M.raise x : M α) P X := ⟨fun S Q R _ _ _ r => r x S.n h (Nat.le_add_right _ _)⟩
theorem Tr.drawn {n : Int} (h0 : 0 < n) (h1 : n < 1073741824) : Tr 1 (orcNext [.drw, .int n]) (fun d => ∃ i : Nat, (i : Int) < n ∧ d = .int i) X := by
  refine ⟨fun S Q R b l q r => ?_⟩
  unfold orcNext wpM
  dsimp only
  rw [if_pos ⟨h0, h1⟩]
  unfold drawM
  rw [if_pos (by rw [Bool.and_eq_true, b]; exact ⟨rfl, decide_eq_true (by omega)⟩)]
  intro i hi
  exact q _ (S.n + 1) ⟨i, by omega, rfl⟩ (Nat.le_refl _)
theorem quiet_tr {β : Type} {m : M β} {P : β → Prop} (h : Tr c m P noX) : Tr c (M.quiet m) P X := by
  have key : ∀ {t : T β} {Q : β → Sto → Prop} {R : D → Sto → Prop}, t.wp Q (fun _ _ => False) → t.quiet.wp Q R := by
    intro t
    induction t with
    | ret a S => intro Q R h; exact h
    | raise x S => intro Q R h; exact h.elim
    | fail => intro Q R h; exact h.elim
    | draw n k ih => intro Q R h i hi; exact ih i (h i hi)
  refine ⟨fun S Q R b l q r => ?_⟩
  exact key (h.go S Q (fun _ _ => False) b l q fun _ _ h => h.elim)
theorem att_tr (h : Tr c m P X) {P2 : Except D α → Prop} (h1 : ∀ a, P a → P2 (.ok a)) (h2 : ∀ x, X x → P2 (.error x)) : Tr c (M.att m) P2 noX := by
  refine ⟨fun S Q R b l q r => ?_⟩
  exact wpM_att.mpr (h.go S _ _ b l (fun a n pa ln => q _ n (h1 a pa) ln) fun x n px ln => q _ n (h2 x px) ln)
end

/-! ### statements -/
section
variable {kin : Kin} {C : Orc} {c d : Nat} {ρ : Fe} {P : Out → Prop}
theorem exO_tr {α : Type} {m : M α} {k : α → M Out} {Pa : α → Prop} {X : D → Prop} (h : Tr c m Pa X) (hk : ∀ a, Pa a → Tr d (k a) P noX) (hx : ∀ x, X x → P (.exc x ρ)) : Tr (c + d) (exO m ρ k) P noX := by
  unfold exO
  refine Tr.bind (att_tr h (P2 := fun e => match e with | .ok a => Pa a | .error x => X x) (fun _ h => h) fun _ h => h) fun e he => ?_
  cases e with
  | ok a => exact hk a he
  | error x => exact Tr.pure (hx x he)
/-- one statement, then the rest -/
def thenP (kin : Kin) (C : Orc) (d : Nat) (r : Ss) (P : Out → Prop) : Out → Prop
  | .nx ρ => Tr d (evSs kin C r ρ) P noX
  | o => P o
theorem cons_tr {s : S1} {r : Ss} (h : Tr c (evS kin C s ρ) (thenP kin C d r P) noX) : Tr (c + d) (evSs kin C (.cons s r) ρ) P noX := by
  unfold evSs
  refine Tr.bind h fun o ho => ?_
  cases o with
  | nx ρ' => exact ho
  | brk ρ' => exact Tr.pure ho
  | cont ρ' => exact Tr.pure ho
  | ret d => exact Tr.pure ho
  | exc x ρ' => exact Tr.pure ho
theorem nil_tr (h : P (.nx ρ)) : Tr c (evSs kin C .nil ρ) P noX := by
  unfold evSs
  exact Tr.pure h
/-- a def's body -/
def bodyP (P : D → Prop) (X : D → Prop) : Out → Prop
  | .nx _ => P .non
  | .ret d => P d
  | .exc x _ => X x
  | _ => False
theorem run_tr {n : Nat} {b : Ss} {ds : List D} {P : D → Prop} {X : D → Prop} (h : Tr c (evSs kin C b (ds.map Slot.val ++ List.replicate n .emp)) (bodyP P X) noX) : Tr c (runF kin C n b ds) P X := by
  unfold runF
  have : Tr (c + 0) (runF kin C n b ds) P X := by
    unfold runF
    refine Tr.bind (quiet_tr h) fun o ho => ?_
    cases o with
    | nx ρ' => exact Tr.pure ho
    | brk ρ' => exact ho.elim
    | cont ρ' => exact ho.elim
    | ret d => exact Tr.pure ho
    | exc x ρ' => exact Tr.raise ho
  exact this
/-- a def's body, without draws, by its value -/
theorem run_ret {n : Nat} {b : Ss} {ds : List D} {v : D} (h : evSs kin C b (ds.map Slot.val ++ List.replicate n .emp) = pure (.ret v)) : runF kin C n b ds = pure v := by
  unfold runF
  rw [h]; rfl
theorem run_exc {n : Nat} {b : Ss} {ds : List D} {x : D} {ρ : Fe} (h : evSs kin C b (ds.map Slot.val ++ List.replicate n .emp) = pure (.exc x ρ)) : runF kin C n b ds = M.raise x := by
  unfold runF
  rw [h]; rfl
/-! ### comprehensions -/
theorem mapO_pure {f : D → M (Option D)} {g : D → Option D} : ∀ {xs : List D}, (∀ x ∈ xs, f x = pure (g x)) → mapO f xs = pure (xs.filterMap g)
  | [], _ => rfl
  | x :: xs, h => by
    unfold mapO
    rw [h x List.mem_cons_self, mapO_pure fun y hy => h y (List.mem_cons_of_mem _ hy)]
    simp only [pure_bind, List.filterMap_cons]
    cases g x <;> rfl
theorem mapL_pure {f : D → M (List D)} {g : D → List D} : ∀ {xs : List D}, (∀ x ∈ xs, f x = pure (g x)) → mapL f xs = pure (xs.flatMap g)
  | [], _ => rfl
  | x :: xs, h => by
    unfold mapL
    rw [h x List.mem_cons_self, mapL_pure fun y hy => h y (List.mem_cons_of_mem _ hy)]
    simp only [pure_bind, List.flatMap_cons]
theorem small_pure {n : Nat} (h : n ≤ sizeLine) : small n = pure () := if_pos h
theorem few_pure {n : Nat} (h : n ≤ 4000) : few n = pure () := if_pos h
theorem lc_pure {own p : List Nat} {it : I} {t : Q} {e : E} {xs : List D} (g : D → Option D) (h : evI kin C it ρ = pure xs) (hl : xs.length ≤ sizeLine) (hg : ∀ x ∈ xs, lcF kin C ρ own p t e x = pure (g x)) :
    evE kin C (.lc own p it t e) ρ = pure (.lst (xs.filterMap g)) := by
  rw [evE_lc, h]
  simp only [pure_bind]
  rw [small_pure hl, mapO_pure hg]
  rfl
/-- one turn of a comprehension without a test -/
theorem lcF_yes {own p : List Nat} {e : E} {x v : D} {ρ1 : Fe} (h1 : asgP p x (wipeE ρ own) = some ρ1) (h2 : evE kin C e ρ1 = pure v) : lcF kin C ρ own p .yes e x = pure (some v) := by
  unfold lcF
  rw [h1]
  simp [op_some, evT, h2]
theorem lcF_q {own p : List Nat} {q : Q} {e : E} {x v : D} {b : Bool} {ρ1 : Fe} (h1 : asgP p x (wipeE ρ own) = some ρ1) (h2 : evT kin C q ρ1 = pure b) (h3 : b = true → evE kin C e ρ1 = pure v) : lcF kin C ρ own p q e x = pure (if b then some v else none) := by
  unfold lcF
  rw [h1]
  simp only [op_some, pure_bind, h2]
  cases b with
  | true => simp [h3 rfl]
  | false => rfl
theorem mapO_tr {f : D → M (Option D)} {X : D → Prop} {I : Nat → List D → Prop} : ∀ {xs : List D} {i : Nat} {acc : List D}, (∀ j x acc, xs[j]? = some x → I (i + j) acc → Tr c (f x) (fun o => I (i + j + 1) (acc ++ o.toList)) X) → I i acc →
    Tr (xs.length * c) (mapO f xs) (fun rs => I (i + xs.length) (acc ++ rs)) X
  | [], i, acc, _, h => by
    unfold mapO
    exact Tr.pure (by simpa using h)
  | x :: xs, i, acc, hs, h => by
    unfold mapO
    have h0 := hs 0 x acc rfl h
    have : Tr (c + (xs.length * c + 0)) (do
        let r ← f x
        let rs ← mapO f xs
        pure (match r with | some d => d :: rs | none => rs)) (fun rs => I (i + (x :: xs).length) (acc ++ rs)) X := by
      refine Tr.bind h0 fun o ho => ?_
      refine Tr.bind (mapO_tr (i := i + 1) (acc := acc ++ o.toList) (fun j y a hy ha => ?_) ho) fun rs hrs => Tr.pure ?_
      · have := hs (j + 1) y a (by simpa using hy) (by rw [show i + (j + 1) = i + 1 + j by omega]; exact ha)
        rw [show i + (j + 1) + 1 = i + 1 + j + 1 by omega] at this
        exact this
      · rw [show i + (x :: xs).length = i + 1 + xs.length by simp; omega]
        cases o with
        | none => simpa using hrs
        | some d => simpa using hrs
    refine this.le ?_
    rw [List.length_cons, Nat.succ_mul]
    omega
/-! ### loops -/
/-- behind one turn -/
def turnP (I : Fe → Prop) (P : Out → Prop) : Out → Prop
  | .nx ρ => I ρ
  | .cont ρ => I ρ
  | .brk ρ => P (.nx ρ)
  | o => P o
theorem forM_tr {f : D → Fe → M Out} {I : Nat → Fe → Prop} : ∀ {xs : List D} {i : Nat} {ρ : Fe}, (∀ j x ρ, xs[j]? = some x → I (i + j) ρ → Tr c (f x ρ) (turnP (I (i + j + 1)) P) noX) → I i ρ → (∀ ρ, I (i + xs.length) ρ → P (.nx ρ)) → Tr (xs.length * c) (forM f xs ρ) P noX
  | [], i, ρ, _, h, e => by
    unfold forM
    exact Tr.pure (e ρ h)
  | x :: xs, i, ρ, hs, h, e => by
    unfold forM
    have : Tr (c + xs.length * c) (do
        match ← f x ρ with
        | .nx ρ1 => forM f xs ρ1
        | .cont ρ1 => forM f xs ρ1
        | .brk ρ1 => pure (.nx ρ1)
        | o => pure o) P noX := by
      refine Tr.bind (hs 0 x ρ rfl h) fun o ho => ?_
      have next : ∀ ρ1, I (i + 1) ρ1 → Tr (xs.length * c) (forM f xs ρ1) P noX := fun ρ1 h1 => forM_tr (i := i + 1) (fun j y a hy ha => by
          have := hs (j + 1) y a (by simpa using hy) (by rw [show i + (j + 1) = i + 1 + j by omega]; exact ha)
          rw [show i + (j + 1) + 1 = i + 1 + j + 1 by omega] at this
          exact this) h1 fun ρ2 h2 => e ρ2 (by rw [show i + (x :: xs).length = i + 1 + xs.length by simp; omega]; exact h2)
      cases o with
      | nx ρ1 => exact next ρ1 ho
      | cont ρ1 => exact next ρ1 ho
      | brk ρ1 => exact Tr.pure ho
      | ret d => exact Tr.pure ho
      | exc x ρ' => exact Tr.pure ho
    refine this.le ?_
    rw [List.length_cons, Nat.succ_mul]
    omega
end
end RM
end
section
set_option Elab.async false
set_option linter.all false
set_option maxRecDepth 100000
set_option autoImplicit false
/-! values: statements without draws; ints, texts -/
namespace RM
open PySem PySem.Spec PyProof.Rows L2

section
variable {kin : Kin} {C : Orc} {ρ ρ1 : Fe} {e : E} {v : D} {r x y : Ss} {q : Q} {b : Bool} {p : List Nat}
/-- what comes behind a statement -/
def goOn (kin : Kin) (C : Orc) (r : Ss) : Out → M Out
  | .nx ρ => evSs kin C r ρ
  | o => pure o
theorem evSs_cons {s : S1} : evSs kin C (.cons s r) ρ = evS kin C s ρ >>= goOn kin C r := by
  conv => lhs; unfold evSs
  first
    | rfl
    | (congr 1; funext o; cases o <;> rfl)
theorem evSs_nil : evSs kin C .nil ρ = pure (.nx ρ) := by unfold evSs; rfl
theorem ret_pure (h : evE kin C e ρ = pure v) : evSs kin C (.cons (.ret e) r) ρ = pure (.ret v) := by
  rw [evSs_cons]
  unfold evS
  rw [h]; rfl
theorem ret_raise {z : D} (h : evE kin C e ρ = M.raise z) : evSs kin C (.cons (.ret e) r) ρ = pure (.exc z ρ) := by
  rw [evSs_cons]
  unfold evS
  rw [h]; rfl
theorem asg_pure (h : evE kin C e ρ = pure v) (h2 : asgP p v ρ = some ρ1) : evSs kin C (.cons (.asg p e) r) ρ = evSs kin C r ρ1 := by
  rw [evSs_cons, evS_asg]
  dsimp only
  rw [h]
  show (M.op (asgP p v ρ) >>= fun ρ' => pure (.nx ρ')) >>= goOn kin C r = _
  rw [h2]; rfl
theorem own_pure {i : Nat} {xs : List D} (h : evE kin C e ρ = pure (.lst xs)) : evSs kin C (.cons (.own i e) r) ρ = evSs kin C r (ρ.set i (.own xs)) := by
  rw [evSs_cons, evS_own]
  dsimp only
  rw [h]; rfl
theorem iff_pure (h : evT kin C q ρ = pure b) : evSs kin C (.cons (.iff q x y) r) ρ = (if b then evSs kin C x ρ else evSs kin C y ρ) >>= goOn kin C r := by
  rw [evSs_cons]
  unfold evS
  rw [h]; rfl
theorem iff_true (h : evT kin C q ρ = pure true) : evSs kin C (.cons (.iff q x y) r) ρ = evSs kin C x ρ >>= goOn kin C r := by rw [iff_pure h]; rfl
theorem iff_false (h : evT kin C q ρ = pure false) : evSs kin C (.cons (.iff q x .nil) r) ρ = evSs kin C r ρ := by
  rw [iff_pure h]
  simp only [Bool.false_eq_true, if_false, evSs_nil]
  rfl
theorem goOn_ret {d : D} : (pure (.ret d) : M Out) >>= goOn kin C r = pure (.ret d) := rfl
theorem goOn_exc {d : D} : (pure (.exc d ρ) : M Out) >>= goOn kin C r = pure (.exc d ρ) := rfl
theorem goOn_nx : (pure (.nx ρ) : M Out) >>= goOn kin C r = evSs kin C r ρ := rfl
theorem rse_pure {c f : Str} (h : evE kin C e ρ = pure v) (hk : kin.ini c = some f) : evSs kin C (.cons (.rse c e) r) ρ = pure (.exc (.exc c [(f, v)]) ρ) := by
  rw [evSs_cons]
  unfold evS
  rw [h]
  show (match kin.ini c with
    | some f => pure (.exc (.exc c [(f, v)]) ρ)
    | none => M.fail : M Out) >>= goOn kin C r = _
  rw [hk]; rfl
end

/-! ### expressions by their parts -/
section
variable {kin : Kin} {C : Orc} {ρ : Fe} {a b c : E} {x y z v : D} {p q : Bool} {t u : Q} {o op : CmpOp}
theorem ev_c : evE kin C (.c x) ρ = pure x := by unfold evE; rfl
theorem ev_v {i : Nat} (h : ρ[i]? = some (.val x)) : evE kin C (.v i) ρ = pure x := by unfold evE; rw [h]
theorem ev_b {i : Nat} (h : ρ[i]? = some (.val x)) : evE kin C (.b i) ρ = pure x := by unfold evE; rw [h]
theorem ev_bo {i : Nat} {xs : List D} (h : ρ[i]? = some (.own xs)) : evE kin C (.b i) ρ = pure (.lst xs) := by unfold evE; rw [h]
theorem ev_and (h1 : evE kin C a ρ = pure (.bl p)) (h2 : p = true → evE kin C b ρ = pure (.bl q)) : evE kin C (.and a b) ρ = pure (.bl (p && q)) := by
  unfold evE
  rw [h1]
  cases p with
  | true => exact h2 rfl
  | false => rfl
theorem ev_or (h1 : evE kin C a ρ = pure (.bl p)) (h2 : p = false → evE kin C b ρ = pure (.bl q)) : evE kin C (.or a b) ρ = pure (.bl (p || q)) := by
  unfold evE
  rw [h1]
  cases p with
  | true => rfl
  | false => exact h2 rfl
theorem ev_not (h1 : evE kin C a ρ = pure (.bl p)) : evE kin C (.not a) ρ = pure (.bl (!p)) := by
  unfold evE
  rw [h1]; rfl
theorem ev_neg {i : Int} (h1 : evE kin C a ρ = pure (.int i)) : evE kin C (.neg a) ρ = pure (.int (-i)) := by
  unfold evE
  rw [h1]; rfl
theorem ev_cmp (h1 : evE kin C a ρ = pure x) (h2 : evE kin C b ρ = pure y) (h : cmpD op x y = some v) : evE kin C (.cmp op a b) ρ = pure v := by
  unfold evE
  rw [h1, h2]
  simp only [pure_bind, h]
  rfl
theorem ev_bin {op : Operator} (h1 : evE kin C a ρ = pure x) (h2 : evE kin C b ρ = pure y) (h : binD op x y = some v) : evE kin C (.bin op a b) ρ = pure v := by
  unfold evE
  rw [h1, h2]
  simp only [pure_bind, h]
  rfl
theorem ev_chain (h1 : evE kin C a ρ = pure x) (h2 : evE kin C b ρ = pure y) (h3 : evE kin C c ρ = pure z) (hp : cmpD o x y = some (.bl p)) (hq : cmpD op y z = some (.bl q)) : evE kin C (.chain o op a b c) ρ = pure (.bl (p && q)) := by
  unfold evE
  rw [h1, h2, h3]
  simp only [pure_bind, hp, op_some]
  cases p with
  | true => simp only [pure_bind, hq, Bool.true_and]; rfl
  | false => rfl
theorem ev_ife (h : evT kin C t ρ = pure p) (h1 : p = true → evE kin C a ρ = pure v) (h2 : p = false → evE kin C b ρ = pure v) : evE kin C (.ife t a b) ρ = pure v := by
  unfold evE
  rw [h]
  cases p with
  | true => exact h1 rfl
  | false => exact h2 rfl
theorem ev_es0 : evEs kin C .nil ρ = pure [] := by unfold evEs; rfl
theorem ev_es {r : Es} {xs : List D} (h1 : evE kin C a ρ = pure x) (h2 : evEs kin C r ρ = pure xs) : evEs kin C (.cons a r) ρ = pure (x :: xs) := by
  unfold evEs
  rw [h1, h2]; rfl
theorem ev_ess {r : Es} {xs ys : List D} (h1 : evE kin C a ρ = pure x) (h : itemsD x = some ys) (h2 : evEs kin C r ρ = pure xs) : evEs kin C (.star a r) ρ = pure (ys ++ xs) := by
  unfold evEs
  rw [h1, h2]
  simp only [pure_bind, h]
  rfl
theorem ev_tup {es : Es} {xs : List D} (h : evEs kin C es ρ = pure xs) (hl : xs.length ≤ sizeLine) : evE kin C (.tup es) ρ = pure (.tup xs) := by
  unfold evE
  rw [h]
  exact if_pos hl
theorem ev_lst {es : Es} {xs : List D} (h : evEs kin C es ρ = pure xs) (hl : xs.length ≤ sizeLine) : evE kin C (.lst es) ρ = pure (.lst xs) := by
  unfold evE
  rw [h]
  exact if_pos hl
theorem ev_app {f : Str} {es : Es} {xs : List D} {m : M D} (h : evEs kin C es ρ = pure xs) (hm : C f xs = m) : evE kin C (.app f es) ρ = m := by
  unfold evE
  rw [h]; exact hm
theorem ev_bi {f : Bi} {es : Es} {xs : List D} (h : evEs kin C es ρ = pure xs) (hm : biD kin f xs = some v) : evE kin C (.bi f es) ρ = pure v := by
  unfold evE
  rw [h]
  simp only [pure_bind, hm]
  rfl
theorem ev_bi1 {f : Bi} (h : evE kin C a ρ = pure x) (hm : biD kin f [x] = some v) : evE kin C (.bi f (.cons a .nil)) ρ = pure v := ev_bi (ev_es h ev_es0) hm
theorem ev_sub (h1 : evE kin C a ρ = pure x) (h2 : evE kin C b ρ = pure y) (h : subD x y = some v) : evE kin C (.sub a b) ρ = pure v := by
  unfold evE
  rw [h1, h2]
  simp only [pure_bind, h]
  rfl
theorem ev_sl (h1 : evE kin C a ρ = pure x) (h2 : evE kin C b ρ = pure y) (h3 : evE kin C c ρ = pure z) (h : slD x y z = some v) : evE kin C (.sl a b c) ρ = pure v := by
  unfold evE
  rw [h1, h2, h3]
  simp only [pure_bind, h]
  rfl
theorem ev_bk (h1 : evE kin C a ρ = pure x) (h2 : evE kin C b ρ = pure y) (h3 : evE kin C c ρ = pure z) (h : bkD x y z = some v) : evE kin C (.bk a b c) ρ = pure v := by
  unfold evE
  rw [h1, h2, h3]
  simp only [pure_bind, h]
  rfl
theorem ev_bnd {i : Int} (h : evE kin C a ρ = pure (.int i)) : evE kin C (.bnd a) ρ = pure (.int i) := by
  unfold evE
  rw [h]; rfl
theorem ev_dct0 : evE kin C .dct0 ρ = pure (.dct []) := by unfold evE; rfl
theorem ev_fld {f : Str} (h : evE kin C a ρ = pure x) (hm : fldD kin f x = some v) : evE kin C (.fld a f) ρ = pure v := by
  unfold evE
  rw [h]
  simp only [pure_bind, hm]
  rfl
theorem evQ_val (h : evE kin C a ρ = pure x) (ht : truD x = some p) : evT kin C (.val a) ρ = pure p := by
  unfold evT
  rw [h]
  simp only [pure_bind, ht]
  rfl
theorem evQ_bl (h : evE kin C a ρ = pure (.bl p)) : evT kin C (.val a) ρ = pure p := evQ_val h rfl
theorem evQ_not (h : evT kin C t ρ = pure p) : evT kin C (.not t) ρ = pure (!p) := by
  unfold evT
  rw [h]; rfl
theorem evQ_and (h1 : evT kin C t ρ = pure p) (h2 : p = true → evT kin C u ρ = pure q) : evT kin C (.and t u) ρ = pure (p && q) := by
  unfold evT
  rw [h1]
  cases p with
  | true => exact h2 rfl
  | false => rfl
theorem evQ_or (h1 : evT kin C t ρ = pure p) (h2 : p = false → evT kin C u ρ = pure q) : evT kin C (.or t u) ρ = pure (p || q) := by
  unfold evT
  rw [h1]
  cases p with
  | true => rfl
  | false => exact h2 rfl
theorem evQ_yes : evT kin C .yes ρ = pure true := by unfold evT; rfl
theorem evI_seq {xs : List D} (h : evE kin C a ρ = pure x) (hi : iterD x = some xs) : evI kin C (.seq a) ρ = pure xs := by
  unfold evI
  rw [h]
  simp only [pure_bind, hi]
  rfl
theorem evI_rng1 {j : Int} (h : evE kin C a ρ = pure (.int j)) (h0 : -(2 ^ 62) ≤ j) (h1 : j ≤ sizeLine) : evI kin C (.rng1 a) ρ = pure (rngD 0 j.toNat) := by
  unfold evI
  rw [h]
  exact if_pos ⟨h0, h1⟩
theorem evI_enum {xs : List D} (h : evE kin C a ρ = pure (.lst xs)) : evI kin C (.enum a) ρ = pure (enumD xs) := by
  unfold evI
  rw [h]; rfl
theorem evI_zipT {xs ys : List D} (h1 : evE kin C a ρ = pure (.tup xs)) (h2 : evE kin C b ρ = pure (.tup ys)) : evI kin C (.zip a b) ρ = pure (zipD xs ys) := by
  unfold evI
  rw [h1, h2]; rfl
end

/-! ### comparisons -/
theorem eq_int (i j : Int) : cmpD .Eq (.int i) (.int j) = some (.bl (decide (i = j))) := by
  unfold cmpD
  have h : D.okE (.int i) (.int j) = true := by simp [D.okE, D.pure, D.pd, PyData.depth]
  rw [if_pos h]
  simp only [D.pd, PyData.eqv]
  rw [Bool.beq_eq_decide_eq]
theorem lt_int (i j : Int) : cmpD .Lt (.int i) (.int j) = some (.bl (decide (i < j))) := by
  unfold cmpD
  simp only [okL_int, if_true, D.pd, PySem.W.dataLt_int]
theorem gt_int (i j : Int) : cmpD .Gt (.int i) (.int j) = some (.bl (decide (j < i))) := by
  unfold cmpD
  simp only [okL_int, if_true, D.pd, PySem.W.dataLt_int]
theorem le_int (i j : Int) : cmpD .LtE (.int i) (.int j) = some (.bl (decide (i ≤ j))) := by
  unfold cmpD
  simp only [okL_int, if_true, D.pd, PySem.W.dataLt_int]
  congr 2
  by_cases h : i ≤ j
  · simp [h]
  · simp [h, Int.not_le.mp h]
theorem okL_str (x y : Str) : D.okL (.str x) (.str y) = true := by
  unfold D.okL
  simp [D.pure, D.pd, D.isNon, PyData.depth, PySem.W.alike]
/-- texts in their order -/
def ltS (x y : Str) : Bool := decide (x.cps.toList < y.cps.toList)
theorem lt_str (x y : Str) : cmpD .Lt (.str x) (.str y) = some (.bl (ltS x y)) := by
  unfold cmpD
  simp only [okL_str, if_true, D.pd, PySem.W.dataLt_str]
  rfl
theorem gt_str (x y : Str) : cmpD .Gt (.str x) (.str y) = some (.bl (ltS y x)) := by
  unfold cmpD
  simp only [okL_str, if_true, D.pd, PySem.W.dataLt_str]
  rfl
theorem eq_str (x y : Str) : cmpD .Eq (.str x) (.str y) = some (.bl (decide (x = y))) := by
  unfold cmpD
  have h : D.okE (.str x) (.str y) = true := by simp [D.okE, D.pure, D.pd, PyData.depth]
  rw [if_pos h]
  simp only [D.pd, PyData.eqv]
  rw [Bool.beq_eq_decide_eq]
theorem in_sign (c : Nat) (z : Str) : cmpD .In (.str ⟨#[c]⟩) (.str z) = some (.bl (decide (c ∈ z.cps.toList))) := rfl
theorem notin_sign (c : Nat) (z : Str) : cmpD .NotIn (.str ⟨#[c]⟩) (.str z) = some (.bl (!decide (c ∈ z.cps.toList))) := rfl
theorem sub_int (i j : Int) : binD .Sub (.int i) (.int j) = some (.int (i - j)) := rfl
theorem add_int (i j : Int) : binD .Add (.int i) (.int j) = some (.int (i + j)) := rfl
theorem add_str {a b : Str} (h : a.length + b.length ≤ sizeLine) : binD .Add (.str a) (.str b) = some (.str (a ++ b)) := if_pos h
theorem add_tup {a b : List D} (h : a.length + b.length ≤ sizeLine) : binD .Add (.tup a) (.tup b) = some (.tup (a ++ b)) := if_pos h
theorem add_lst {a b : List D} (h : a.length + b.length ≤ sizeLine) : binD .Add (.lst a) (.lst b) = some (.lst (a ++ b)) := if_pos h
theorem len_str {kin : Kin} {z : Str} (h : z.length ≤ sizeLine) : biD kin .len [.str z] = some (.int z.length) := if_pos h
theorem len_tup {kin : Kin} {xs : List D} : biD kin .len [.tup xs] = some (.int xs.length) := rfl
theorem len_lst {kin : Kin} {xs : List D} : biD kin .len [.lst xs] = some (.int xs.length) := rfl
theorem bools_bl : ∀ bs : List Bool, bools (bs.map D.bl) = some bs
  | [] => rfl
  | b :: bs => by simp [bools, bools_bl bs]
theorem all_bools {kin : Kin} (bs : List Bool) : biD kin .all [.lst (bs.map D.bl)] = some (.bl (bs.all id)) := by
  show (bools (bs.map D.bl)).map _ = _
  rw [bools_bl]; rfl
theorem any_bools {kin : Kin} (bs : List Bool) : biD kin .any [.lst (bs.map D.bl)] = some (.bl (bs.any id)) := by
  show (bools (bs.map D.bl)).map _ = _
  rw [bools_bl]; rfl
theorem list_tup {kin : Kin} {xs : List D} : biD kin .list [.tup xs] = some (.lst xs) := rfl
theorem list_lst {kin : Kin} {xs : List D} : biD kin .list [.lst xs] = some (.lst xs) := rfl
theorem tuple_lst {kin : Kin} {xs : List D} : biD kin .tuple [.lst xs] = some (.tup xs) := rfl
theorem tuple_tup {kin : Kin} {xs : List D} : biD kin .tuple [.tup xs] = some (.tup xs) := rfl
theorem isi_b {kin : Kin} {x : D} {n : String} (h : x.basic kin = true) : biD kin (.isi [.b n]) [x] = some (.bl (isiD kin x (.b n))) := by
  show (if x.basic kin then some (D.bl ([Ty.b n].any (isiD kin x))) else none) = _
  rw [if_pos h]
  simp
theorem at_nat {xs : List D} {i : Nat} {d : D} (h : xs[i]? = some d) : atI xs (i : Int) = some d := by
  unfold atI
  have hl := (List.getElem?_eq_some_iff.mp h).1
  have : ixN xs.length (i : Int) = some i := by
    unfold ixN
    rw [if_pos (by omega), if_pos (by omega)]
    simp
  simp [this, h]
theorem sub_tup {xs : List D} {i : Nat} {d : D} (h : xs[i]? = some d) : subD (.tup xs) (.int (i : Int)) = some d := at_nat h
theorem sub_lst {xs : List D} {i : Nat} {d : D} (h : xs[i]? = some d) : subD (.lst xs) (.int (i : Int)) = some d := at_nat h
theorem mkTup_pure {xs : List D} (h : xs.length ≤ sizeLine) : mkTup xs = pure (.tup xs) := if_pos h
theorem mkLst_pure {xs : List D} (h : xs.length ≤ sizeLine) : mkLst xs = pure (.lst xs) := if_pos h
end RM
end
section
set_option Elab.async false
set_option linter.all false
set_option maxRecDepth 100000
set_option autoImplicit false
/-! codes of the defs that many laws share -/
namespace RM
open PySem
def c_is_word : Ss :=
  (.cons (.ret (.and (.bi (.isi [.b "str"]) (.cons (.b 0) .nil)) (.and (.chain .LtE .LtE (.c (.int 1)) (.bi .len (.cons (.b 0) .nil)) (.c (.int 8))) (.bi .all (.cons (.lc [1] [1] (.seq (.b 0)) .yes (.cmp .In (.b 1) (.c (.str "abcdefghijklmnopqrstuvwxyz")))) .nil)))))
  .nil)
def c_are_ascending : Ss :=
  (.cons (.iff (.or (.not (.val (.bi (.isi [.b "tuple"]) (.cons (.b 0) .nil)))) (.not (.val (.bi .all (.cons (.lc [1] [1] (.seq (.b 0)) .yes (.app "is_word" (.cons (.v 1) .nil))) .nil)))))
  (.cons (.ret (.c (.bl false)))
  .nil)
  .nil)
  (.cons (.ret (.bi .all (.cons (.lc [1, 2] [1, 2] (.zip (.b 0) (.sl (.b 0) (.bnd (.c (.int 1))) (.c .non))) .yes (.cmp .Lt (.b 1) (.b 2))) .nil)))
  .nil))
def c_need_roads : Ss :=
  (.cons (.iff (.or (.not (.val (.app "are_ascending" (.cons (.v 0) .nil)))) (.not (.val (.chain .LtE .LtE (.c (.int 1)) (.bi .len (.cons (.b 0) .nil)) (.c (.int 7))))))
  (.cons (.rse "BadRoads" (.v 0))
  .nil)
  .nil)
  (.cons (.ret (.v 0))
  .nil))
def c_is_lot : Ss :=
  (.cons (.ret (.and (.app "are_ascending" (.cons (.v 1) .nil)) (.bi .all (.cons (.lc [2] [2] (.seq (.b 1)) .yes (.cmp .In (.b 2) (.b 0))) .nil))))
  .nil)
def c_lots_with : Ss :=
  (.cons (.asg [2] (.lst (.cons (.tup .nil) .nil)))
  (.cons (.frl [3] (.rng1 (.b 1))
  (.cons (.asg [2] (.lc2 [4, 5] [4] (.seq (.b 2)) .yes [5] (.seq (.v 0)) (.or (.val (.cmp .Eq (.b 4) (.tup .nil))) (.val (.cmp .Gt (.b 5) (.sub (.b 4) (.neg (.c (.int 1))))))) (.tup (.star (.b 4) (.cons (.v 5) .nil)))))
  .nil))
  (.cons (.ret (.v 2))
  .nil)))
def c_couples : Ss :=
  (.cons (.ret (.bi .tuple (.cons (.app "lots_with" (.cons (.v 0) (.cons (.c (.int 2)) .nil))) .nil)))
  .nil)
def c__law_names : Ss :=
  (.cons (.asg [2, 3] (.tup (.cons (.c (.str "abcdefghijklmnopqrstuvwxyz")) (.cons (.c (.str "")) .nil))))
  (.cons (.frl [4] (.rng1 (.app "_law_next" (.cons (.v 0) (.cons (.c (.int 8)) .nil))))
  (.cons (.asg [3] (.bin .Add (.b 3) (.sub (.b 2) (.app "_law_next" (.cons (.v 0) (.cons (.c (.int 26)) .nil))))))
  .nil))
  (.cons (.asg [5, 6, 7] (.tup (.cons (.app "_law_next" (.cons (.v 0) (.cons (.bin .Add (.bi .len (.cons (.b 3) .nil)) (.c (.int 1))) .nil))) (.cons (.app "_law_next" (.cons (.v 0) (.cons (.c (.int 26)) .nil))) (.cons (.sub (.lst (.cons (.c (.int 1)) (.cons (.c (.int 3)) (.cons (.c (.int 5)) (.cons (.c (.int 7)) (.cons (.c (.int 9)) (.cons (.c (.int 11)) .nil))))))) (.app "_law_next" (.cons (.v 0) (.cons (.c (.int 6)) .nil)))) .nil)))))
  (.cons (.asg [8] (.sl (.bin .Add (.b 3) (.bin .Mult (.sub (.b 2) (.b 6)) (.c (.int 8)))) (.c .non) (.bnd (.c (.int 8)))))
  (.cons (.iff (.and (.val (.cmp .Gt (.b 7) (.c (.int 5)))) (.val (.cmp .Lt (.b 1) (.c (.int 9)))))
  (.cons (.ret (.lc [4] [4] (.rng1 (.b 1)) .yes (.ife (.val (.cmp .Gt (.b 7) (.c (.int 7)))) (.sl (.b 8) (.bnd (.b 4)) (.c .non)) (.sl (.b 8) (.c .non) (.bnd (.bin .Sub (.bin .Add (.b 4) (.c (.int 9))) (.b 1)))))))
  .nil)
  .nil)
  (.cons (.ret (.lc [4] [4] (.rng1 (.b 1)) .yes (.bin .Add (.bin .Add (.sl (.b 3) (.c .non) (.bnd (.b 5))) (.sub (.b 2) (.bin .Mod (.bi .int1 (.cons (.bin .Add (.b 6) (.bin .Mult (.b 7) (.b 4))) .nil)) (.c (.int 26))))) (.sl (.b 3) (.bnd (.b 5)) (.c .non)))))
  .nil))))))
def c__law_is_name : Ss :=
  (.cons (.iff (.or (.not (.val (.bi (.isi [.b "str"]) (.cons (.b 0) .nil)))) (.not (.val (.chain .LtE .LtE (.c (.int 1)) (.bi .len (.cons (.b 0) .nil)) (.c (.int 8))))))
  (.cons (.ret (.c (.bl false)))
  .nil)
  .nil)
  (.cons (.ret (.cmp .Eq (.lc [1] [1] (.seq (.b 0)) (.val (.cmp .NotIn (.b 1) (.c (.str "abcdefghijklmnopqrstuvwxyz")))) (.v 1)) (.lst .nil)))
  .nil))
def c__law_odd : Ss :=
  (.cons (.asg [1] (.lst (.cons (.c .non) (.cons (.c (.int 0)) (.cons (.c (.int 1)) (.cons (.c (.int 2)) (.cons (.c (.int 3)) (.cons (.neg (.c (.int 1))) (.cons (.c (.int 101)) (.cons (.neg (.c (.int 10))) (.cons (.c (.bl true)) (.cons (.c (.bl false)) (.cons (.c (.str "")) (.cons (.c (.str "a")) (.cons (.c (.str "abcdefghi")) (.cons (.c (.str "A")) (.cons (.c (.str "net")) (.cons (.c (.str "bar")) (.cons (.tup .nil) (.cons (.tup (.cons (.tup .nil) .nil)) (.cons (.tup (.cons (.c (.str "a")) (.cons (.c (.int 0)) .nil))) .nil)))))))))))))))))))))
  (.cons (.asg [1] (.bin .Add (.b 1) (.lst (.cons (.lst .nil) (.cons .dct0 (.cons (.bin .Pow (.c (.int 10)) (.c (.int 30))) (.cons (.tup (.cons (.c (.str "far")) .nil)) (.cons (.tup (.cons (.c (.str "bar")) (.cons (.tup .nil) .nil))) (.cons (.c (.str "a1")) (.cons (.tup (.cons (.c .non) .nil)) (.cons (.tup (.cons (.c (.int 0)) .nil)) (.cons (.tup (.cons (.c (.str "a")) .nil)) (.cons (.tup (.cons (.c (.str "a")) (.cons (.c (.str "b")) .nil))) .nil)))))))))))))
  (.cons (.ret (.sub (.b 1) (.app "_law_next" (.cons (.v 0) (.cons (.c (.int 29)) .nil)))))
  .nil)))
def c__law_bent : Ss :=
  (.cons (.iff (.and (.val (.bi (.isi [.b "str"]) (.cons (.b 1) .nil))) (.val (.cmp .Eq (.app "_law_next" (.cons (.v 0) (.cons (.c (.int 2)) .nil))) (.c (.int 0)))))
  (.cons (.ret (.sub (.lst (.cons (.bin .Add (.b 1) (.c (.str "b"))) (.cons (.sl (.b 1) (.bnd (.c (.int 1))) (.c .non)) (.cons (.bin .Add (.b 1) (.c (.str "A"))) (.cons (.bin .Add (.b 1) (.c (.str " "))) (.cons (.bin .Mult (.b 1) (.c (.int 2))) (.cons (.bin .Add (.b 1) (.c (.str "1"))) .nil))))))) (.app "_law_next" (.cons (.v 0) (.cons (.c (.int 6)) .nil)))))
  .nil)
  .nil)
  (.cons (.iff (.and (.val (.bi (.isi [.b "int"]) (.cons (.b 1) .nil))) (.and (.not (.val (.bi (.isi [.b "bool"]) (.cons (.b 1) .nil)))) (.val (.cmp .Eq (.app "_law_next" (.cons (.v 0) (.cons (.c (.int 2)) .nil))) (.c (.int 0))))))
  (.cons (.ret (.bin .Add (.b 1) (.sub (.lst (.cons (.c (.int 1)) (.cons (.neg (.c (.int 1))) (.cons (.c (.int 2)) (.cons (.neg (.c (.int 2))) (.cons (.c (.int 10)) (.cons (.neg (.c (.int 10))) .nil))))))) (.app "_law_next" (.cons (.v 0) (.cons (.c (.int 6)) .nil))))))
  .nil)
  .nil)
  (.cons (.iff (.or (.not (.val (.bi (.isi [.b "tuple"]) (.cons (.b 1) .nil)))) (.or (.val (.cmp .Eq (.b 1) (.tup .nil))) (.val (.cmp .Eq (.app "_law_next" (.cons (.v 0) (.cons (.c (.int 6)) .nil))) (.c (.int 0))))))
  (.cons (.ret (.app "_law_odd" (.cons (.v 0) .nil)))
  .nil)
  .nil)
  (.cons (.par [2, 3] (.cons (.app "_law_next" (.cons (.v 0) (.cons (.bi .len (.cons (.b 1) .nil)) .nil))) (.cons (.app "_law_next" (.cons (.v 0) (.cons (.c (.int 11)) .nil))) .nil)))
  (.cons (.iff (.val (.cmp .Eq (.b 3) (.c (.int 0))))
  (.cons (.ret (.bin .Add (.sl (.b 1) (.c .non) (.bnd (.b 2))) (.sl (.b 1) (.bnd (.bin .Add (.b 2) (.c (.int 1)))) (.c .non))))
  .nil)
  .nil)
  (.cons (.iff (.val (.cmp .Eq (.b 3) (.c (.int 1))))
  (.cons (.ret (.bin .Add (.b 1) (.sl (.b 1) (.bnd (.b 2)) (.bnd (.bin .Add (.b 2) (.c (.int 1)))))))
  .nil)
  .nil)
  (.cons (.iff (.val (.cmp .Eq (.b 3) (.c (.int 2))))
  (.cons (.ret (.bi .list (.cons (.b 1) .nil)))
  .nil)
  .nil)
  (.cons (.iff (.val (.cmp .Eq (.b 3) (.c (.int 3))))
  (.cons (.ret (.bin .Add (.bin .Add (.sl (.b 1) (.c .non) (.bnd (.b 2))) (.tup (.cons (.app "_law_odd" (.cons (.v 0) .nil)) .nil))) (.sl (.b 1) (.bnd (.b 2)) (.c .non))))
  .nil)
  .nil)
  (.cons (.iff (.val (.cmp .Eq (.b 3) (.c (.int 4))))
  (.cons (.ret (.bk (.b 1) (.c .non) (.c .non)))
  .nil)
  .nil)
  (.cons (.ret (.bin .Add (.bin .Add (.sl (.b 1) (.c .non) (.bnd (.b 2))) (.tup (.cons (.app "_law_bent" (.cons (.v 0) (.cons (.sub (.b 1) (.b 2)) .nil))) .nil))) (.sl (.b 1) (.bnd (.bin .Add (.b 2) (.c (.int 1)))) (.c .non))))
  .nil))))))))))
def c__law_lots : Ss :=
  (.cons (.asg [1] (.lst (.cons (.tup .nil) .nil)))
  (.cons (.frl [2] (.seq (.v 0))
  (.cons (.asg [1] (.bin .Add (.b 1) (.lc [3] [3] (.seq (.b 1)) .yes (.bin .Add (.b 3) (.tup (.cons (.v 2) .nil))))))
  .nil))
  (.cons (.ret (.bi .sorted (.cons (.b 1) .nil)))
  .nil)))
def c__law_couples : Ss :=
  (.cons (.asg [1] (.lst .nil))
  (.cons (.frl [2] (.rng1 (.bi .len (.cons (.b 0) .nil)))
  (.cons (.asg [1] (.bin .Add (.b 1) (.lc [3] [3] (.seq (.sl (.b 0) (.bnd (.bin .Add (.b 2) (.c (.int 1)))) (.c .non))) .yes (.tup (.cons (.sub (.b 0) (.b 2)) (.cons (.v 3) .nil))))))
  .nil))
  (.cons (.ret (.v 1))
  .nil)))
def c__law_roads : Ss :=
  (.cons (.ret (.bi .tuple (.cons (.bi .sorted (.cons (.app "_law_names" (.cons (.v 0) (.cons (.bin .Add (.b 1) (.app "_law_next" (.cons (.v 0) (.cons (.bin .Sub (.bin .Add (.b 2) (.c (.int 1))) (.b 1)) .nil)))) .nil))) .nil)) .nil)))
  .nil)
def c__law_less : Ss :=
  (.cons (.ret (.bi .tuple (.cons (.lc [2] [2] (.seq (.b 0)) (.val (.cmp .NotIn (.b 2) (.b 1))) (.v 2)) .nil)))
  .nil)
def c__law_are_ascending : Ss :=
  (.cons (.iff (.or (.not (.val (.bi (.isi [.b "tuple"]) (.cons (.b 0) .nil)))) (.val (.cmp .NotEq (.lc [1] [1] (.seq (.b 0)) (.not (.val (.app "_law_is_name" (.cons (.v 1) .nil)))) (.v 1)) (.lst .nil))))
  (.cons (.ret (.c (.bl false)))
  .nil)
  .nil)
  (.cons (.ret (.cmp .Eq (.lc [1, 2] [1, 2] (.zip (.b 0) (.sl (.b 0) (.bnd (.c (.int 1))) (.c .non))) (.not (.val (.cmp .Lt (.b 1) (.b 2)))) (.c (.int 1))) (.lst .nil)))
  .nil))
end RM
end
section
set_option Elab.async false
set_option linter.all false
/-! codes of more shared defs (printed by gen.py) -/
namespace RM
open PySem
def c_is_couple : Ss :=
  (.cons (.ret (.and (.app "is_lot" (.cons (.v 0) (.cons (.v 1) .nil))) (.cmp .Eq (.bi .len (.cons (.b 1) .nil)) (.c (.int 2)))))
  .nil)
def c_Meets : Ss :=
  (.cons (.ex (.app "need_roads" (.cons (.v 1) .nil)))
  (.cons (.iff (.not (.val (.bi (.isi [.b "list", .b "tuple"]) (.cons (.b 2) .nil))))
  (.cons (.rse "BadMeets" (.c .non))
  .nil)
  .nil)
  (.cons (.frl [3, 4] (.enum (.v 2))
  (.cons (.iff (.or (.not (.val (.app "is_couple" (.cons (.v 1) (.cons (.v 4) .nil))))) (.val (.cmp .In (.b 4) (.sl (.b 2) (.c .non) (.bnd (.b 3))))))
  (.cons (.rse "BadMeets" (.v 3))
  .nil)
  .nil)
  .nil))
  (.cons (.fst 0 "roads" (.v 1))
  (.cons (.fst 0 "met" (.bi .tuple (.cons (.bi .sorted (.cons (.b 2) .nil)) .nil)))
  .nil)))))
def c_Meets_m___len__ : Ss :=
  (.cons (.ret (.bi .len (.cons (.fld (.b 0) "roads") .nil)))
  .nil)
def c_Meets_m___eq__ : Ss :=
  (.cons (.ret (.and (.bi (.isi [.c "Meets"]) (.cons (.b 1) .nil)) (.cmp .Eq (.tup (.cons (.fld (.b 0) "roads") (.cons (.fld (.b 0) "met") .nil))) (.tup (.cons (.fld (.b 1) "roads") (.cons (.fld (.b 1) "met") .nil))))))
  .nil)
def c__law_lots_drawn : Ss :=
  (.cons (.par [2, 3] (.cons (.lst .nil) (.cons (.lst .nil) .nil)))
  (.cons (.frl [4] (.seq (.v 1))
  (.cons (.asg [5] (.bin .Add (.bin .Add (.b 2) (.b 3)) (.lst (.cons (.tup .nil) .nil))))
  (.cons (.asg [6] (.sub (.b 5) (.app "_law_next" (.cons (.v 0) (.cons (.bi .len (.cons (.b 5) .nil)) .nil)))))
  (.cons (.asg [5] (.lc [7] [7] (.seq (.b 5)) (.or (.val (.cmp .Eq (.b 7) (.tup .nil))) (.val (.cmp .Eq (.lc [8] [8] (.seq (.b 7)) (.val (.cmp .In (.b 8) (.b 6))) (.v 8)) (.lst .nil)))) (.v 7)))
  (.cons (.asg [9] (.sub (.b 5) (.app "_law_next" (.cons (.v 0) (.cons (.bi .len (.cons (.b 5) .nil)) .nil)))))
  (.cons (.frl [7] (.seq (.tup (.cons (.v 6) (.cons (.v 9) .nil))))
  (.cons (.iff (.val (.cmp .Gt (.bi .len (.cons (.b 7) .nil)) (.c (.int 1))))
  (.cons (.asg [2] (.lc [10] [10] (.seq (.b 2)) (.val (.cmp .NotEq (.b 10) (.b 7))) (.v 10)))
  .nil)
  (.cons (.iff (.val (.cmp .NotEq (.b 7) (.tup .nil)))
  (.cons (.asg [11] (.idx (.b 3) (.b 7)))
  (.cons (.asg [3] (.bin .Add (.sl (.b 3) (.c .non) (.bnd (.b 11))) (.sl (.b 3) (.bnd (.bin .Add (.b 11) (.c (.int 1)))) (.c .non))))
  .nil))
  .nil)
  .nil))
  (.cons (.asg [12] (.bi .tuple (.cons (.bi .sorted (.cons (.bin .Add (.b 7) (.tup (.cons (.v 4) .nil))) .nil)) .nil)))
  (.cons (.iff (.val (.cmp .Gt (.bi .len (.cons (.b 12) .nil)) (.c (.int 1))))
  (.cons (.asg [2] (.bin .Add (.b 2) (.lst (.cons (.v 12) .nil))))
  .nil)
  (.cons (.asg [3] (.bin .Add (.b 3) (.lst (.cons (.v 12) .nil))))
  .nil))
  .nil))))
  .nil))))))
  (.cons (.ret (.bi .sorted (.cons (.b 2) .nil)))
  .nil)))
def c__law_meetings : Ss :=
  (.cons (.asg [1] (.lst .nil))
  (.cons (.frl [2] (.seq (.v 0))
  (.cons (.asg [1] (.bin .Add (.b 1) (.app "_law_couples" (.cons (.v 2) .nil))))
  .nil))
  (.cons (.ret (.bi .sorted (.cons (.b 1) .nil)))
  .nil)))
def c__law_met : Ss :=
  (.cons (.par [2, 3] (.cons (.app "_law_next" (.cons (.v 0) (.cons (.c (.int 4)) .nil))) (.cons (.app "_law_meetings" (.cons (.app "_law_lots_drawn" (.cons (.v 0) (.cons (.v 1) .nil))) .nil)) .nil)))
  (.cons (.iff (.val (.cmp .Eq (.b 2) (.c (.int 3))))
  (.cons (.ret (.lc [4] [4] (.seq (.app "_law_couples" (.cons (.v 1) .nil))) (.val (.cmp .Gt (.app "_law_next" (.cons (.v 0) (.cons (.c (.int 3)) .nil))) (.c (.int 0)))) (.v 4)))
  .nil)
  .nil)
  (.cons (.frl [5] (.rng1 (.bi .min2 (.cons (.b 2) (.cons (.bin .Sub (.bi .len (.cons (.b 1) .nil)) (.c (.int 1))) .nil))))
  (.cons (.asg [4] (.sub (.app "_law_couples" (.cons (.v 1) .nil)) (.app "_law_next" (.cons (.v 0) (.cons (.bi .len (.cons (.app "_law_couples" (.cons (.v 1) .nil)) .nil)) .nil)))))
  (.cons (.asg [3] (.ife (.val (.cmp .In (.b 4) (.b 3))) (.lc [6] [6] (.seq (.b 3)) (.val (.cmp .NotEq (.b 6) (.b 4))) (.v 6)) (.bin .Add (.b 3) (.lst (.cons (.v 4) .nil)))))
  .nil)))
  (.cons (.ret (.bi .sorted (.cons (.b 3) .nil)))
  .nil))))
def c_lots_of : Ss :=
  (.cons (.ret (.lc [2] [2] (.seq (.b 0)) (.val (.cmp .In (.b 1) (.b 2))) (.v 2)))
  .nil)
def c_need_lots : Ss :=
  (.cons (.iff (.not (.val (.bi (.isi [.b "list", .b "tuple"]) (.cons (.b 1) .nil))))
  (.cons (.rse "BadNet" (.c .non))
  .nil)
  .nil)
  (.cons (.frl [2, 3] (.enum (.v 1))
  (.cons (.iff (.or (.not (.val (.app "is_lot" (.cons (.v 0) (.cons (.v 3) .nil))))) (.val (.cmp .Lt (.bi .len (.cons (.b 3) .nil)) (.c (.int 2)))))
  (.cons (.rse "BadNet" (.v 2))
  .nil)
  .nil)
  .nil))
  .nil))
def c_is_over : Ss :=
  (.cons (.ret (.cmp .Gt (.bi .len (.cons (.lc [2] [2] (.seq (.b 0)) (.and (.val (.cmp .In (.sub (.b 1) (.c (.int 0))) (.b 2))) (.val (.cmp .In (.sub (.b 1) (.c (.int 1))) (.b 2)))) (.v 2)) .nil)) (.c (.int 1))))
  .nil)
def c_Net : Ss :=
  (.cons (.ex (.app "need_roads" (.cons (.v 1) .nil)))
  (.cons (.ex (.app "need_lots" (.cons (.v 1) (.cons (.v 2) .nil))))
  (.cons (.frl [3] (.seq (.v 1))
  (.cons (.iff (.val (.cmp .Gt (.bi .len (.cons (.app "lots_of" (.cons (.v 2) (.cons (.v 3) .nil))) .nil)) (.c (.int 2))))
  (.cons (.rse "BadNet" (.v 3))
  .nil)
  .nil)
  .nil))
  (.cons (.frl [4] (.seq (.app "couples" (.cons (.v 1) .nil)))
  (.cons (.iff (.val (.app "is_over" (.cons (.v 2) (.cons (.v 4) .nil))))
  (.cons (.rse "BadNet" (.v 4))
  .nil)
  .nil)
  .nil))
  (.cons (.fst 0 "roads" (.v 1))
  (.cons (.fst 0 "lots" (.bi .tuple (.cons (.bi .sorted (.cons (.b 2) .nil)) .nil)))
  .nil))))))
def c_Net_m___len__ : Ss :=
  (.cons (.ret (.bi .len (.cons (.fld (.b 0) "roads") .nil)))
  .nil)
def c_Net_m___eq__ : Ss :=
  (.cons (.ret (.and (.bi (.isi [.c "Net"]) (.cons (.b 1) .nil)) (.cmp .Eq (.tup (.cons (.fld (.b 0) "roads") (.cons (.fld (.b 0) "lots") .nil))) (.tup (.cons (.fld (.b 1) "roads") (.cons (.fld (.b 1) "lots") .nil))))))
  .nil)
end RM
end
section
set_option Elab.async false
set_option linter.all false
/-! codes of more shared defs (printed by gen.py) -/
namespace RM
open PySem
def c__law_wrong : Ss :=
  (.cons (.frl [2] (.seq (.v 0))
  (.cons (.iff (.val (.cmp .Gt (.bi .len (.cons (.lc [3] [3] (.seq (.b 1)) (.val (.cmp .In (.b 2) (.b 3))) (.v 3)) .nil)) (.c (.int 2))))
  (.cons (.ret (.v 2))
  .nil)
  .nil)
  .nil))
  (.cons (.frl [4] (.seq (.app "_law_couples" (.cons (.v 0) .nil)))
  (.cons (.iff (.val (.cmp .Gt (.bi .len (.cons (.lc [3] [3] (.seq (.b 1)) (.and (.val (.cmp .In (.sub (.b 4) (.c (.int 0))) (.b 3))) (.val (.cmp .In (.sub (.b 4) (.c (.int 1))) (.b 3)))) (.v 3)) .nil)) (.c (.int 1))))
  (.cons (.ret (.v 4))
  .nil)
  .nil)
  .nil))
  (.cons (.ret (.c .non))
  .nil)))
end RM
end
section
set_option Elab.async false
set_option linter.all false
set_option maxRecDepth 100000
set_option autoImplicit false
/-! words, roads, lots: what the package's first defs give -/
namespace RM
open PySem PySem.Spec PyProof.Rows L2

def letters : List Nat := (Str.ofString "abcdefghijklmnopqrstuvwxyz").cps.toList
/-- a word -/
def isW (z : Str) : Bool := decide (1 ≤ z.length ∧ z.length ≤ 8) && z.cps.toList.all fun c => decide (c ∈ letters)
def isWd : D → Bool
  | .str z => isW z
  | _ => false
/-- texts are not too long -/
def D.okS : D → Bool
  | .str z => decide (z.length ≤ sizeLine)
  | _ => true
section
variable {kin : Kin} {C : Orc} {ρ : Fe}
theorem isStr_run {e : E} {d : D} (h : evE kin C e ρ = pure d) (hb : d.basic kin = true) : evE kin C (.bi (.isi [.b "str"]) (.cons e .nil)) ρ = pure (.bl (match d with | .str _ => true | _ => false)) := by
  refine ev_bi1 h ?_
  rw [isi_b hb]
  cases d <;> rfl
theorem isTup_run {e : E} {d : D} (h : evE kin C e ρ = pure d) (hb : d.basic kin = true) : evE kin C (.bi (.isi [.b "tuple"]) (.cons e .nil)) ρ = pure (.bl d.isTup) := by
  refine ev_bi1 h ?_
  rw [isi_b hb]
  cases d <;> rfl
theorem len1_8 {e : E} {n k : Nat} {x : D} (h : evE kin C e ρ = pure x) (hl : biD kin .len [x] = some (.int n)) :
    evE kin C (.chain .LtE .LtE (.c (.int 1)) (.bi .len (.cons e .nil)) (.c (.int k))) ρ = pure (.bl (decide (1 ≤ n ∧ n ≤ k))) := by
  have := ev_chain (kin := kin) (C := C) (ρ := ρ) (o := .LtE) (op := .LtE) (a := .c (.int 1)) (c := .c (.int k)) ev_c (ev_bi1 h hl) ev_c (le_int 1 n) (le_int n k)
  rw [this]
  congr 2
  rw [← Bool.decide_and]
  congr 1
  apply propext
  omega
theorem signs_all (z : Str) (f : Nat → Bool) : (signsD z).filterMap (fun x => match x with | .str w => some (D.bl (f (w.cps.toList.headD 0))) | _ => none) = (z.cps.toList.map fun c => f c).map D.bl := by
  unfold signsD
  rw [List.filterMap_map, List.map_map]
  induction z.cps.toList with
  | nil => rfl
  | cons c r ih =>
    rw [List.filterMap_cons, List.map_cons, ← ih]
    rfl
theorem is_word_run {d : D} (hb : d.basic kin = true) (hs : d.okS = true) : runF kin C 1 c_is_word [d] = pure (.bl (isWd d)) := by
  refine run_ret (ret_pure ?_)
  show evE kin C _ [.val d, .emp] = _
  have h0 : evE kin C (.b 0) [.val d, .emp] = pure d := ev_b rfl
  cases d with
  | str z =>
    have hz : z.length ≤ sizeLine := of_decide_eq_true hs
    have e := ev_and (kin := kin) (C := C) (isStr_run h0 hb) (q := isW z) (b := .and (.chain .LtE .LtE (.c (.int 1)) (.bi .len (.cons (.b 0) .nil)) (.c (.int 8))) (.bi .all (.cons (.lc [1] [1] (.seq (.b 0)) .yes (.cmp .In (.b 1) (.c (.str "abcdefghijklmnopqrstuvwxyz")))) .nil))) fun _ => ?_
    · rw [e]; rfl
    · refine ev_and (q := z.cps.toList.all fun c => decide (c ∈ letters)) (len1_8 (k := 8) h0 (len_str hz)) fun _ => ?_
      have hl : (signsD z).length ≤ sizeLine := by rw [signsD_length]; exact hz
      refine ev_bi1 (lc_pure (fun x => match x with | .str w => some (D.bl (decide (w.cps.toList.headD 0 ∈ letters))) | _ => none) (evI_seq h0 (if_pos hz)) hl fun x hx => ?_) ?_
      · obtain ⟨c, hc, rfl⟩ := List.mem_map.mp hx
        exact lcF_yes (ρ1 := [.val (.str z), .val (.str ⟨#[c]⟩)]) rfl (ev_cmp (ev_b rfl) ev_c (in_sign c _))
      · rw [signs_all z fun c => decide (c ∈ letters)]
        rw [all_bools]
        simp [List.all_map, Function.comp_def]
  | _ => exact ev_and (p := false) (q := false) (isStr_run h0 hb) (fun h => by cases h)

/-! ### ascending tuples of words -/
def strsOf : List D → List Str
  | [] => []
  | .str z :: r => z :: strsOf r
  | _ :: r => strsOf r
/-- ascending, each before the next one -/
def ascS : List Str → Bool
  | [] => true
  | [_] => true
  | a :: b :: r => ltS a b && ascS (b :: r)
def isAsc : D → Bool
  | .tup xs => xs.all isWd && ascS (strsOf xs)
  | _ => false
theorem isWd_str {d : D} (h : isWd d = true) : ∃ z, d = .str z ∧ isW z = true := by
  cases d <;> first | exact ⟨_, rfl, h⟩ | cases h
theorem words_strs : ∀ {xs : List D}, xs.all isWd = true → xs = (strsOf xs).map D.str
  | [], _ => rfl
  | d :: xs, h => by
    rw [List.all_cons, Bool.and_eq_true] at h
    obtain ⟨z, rfl, _⟩ := isWd_str h.1
    show _ = D.str z :: (strsOf xs).map D.str
    rw [← words_strs h.2]
theorem strsOf_map : ∀ zs : List Str, strsOf (zs.map D.str) = zs
  | [] => rfl
  | z :: zs => by show z :: strsOf (zs.map D.str) = _; rw [strsOf_map zs]
/-- what may be asked whether it is a word -/
def D.okW (kin : Kin) (d : D) : Bool := d.basic kin && d.okS
def D.okT (kin : Kin) : D → Bool
  | .tup xs => xs.all (D.okW kin) && decide (xs.length ≤ sizeLine)
  | d => d.basic kin
theorem okT_basic {d : D} (h : d.okT kin = true) : d.basic kin = true := by
  cases d <;> first | exact h | rfl
theorem cut1 {xs : List D} (h : xs.length ≤ sizeLine) : slD (.tup xs) (.int 1) .non = some (.tup (xs.drop 1)) := by
  show some (D.tup (cutD xs (some 1) none)) = _
  unfold cutD HT.sIx
  congr 2
  simp only [show ¬((1 : Int) < 0) by decide, if_false]
  by_cases h1 : 1 ≤ xs.length
  · rw [show min (Int.toNat 1) xs.length = 1 from by show min 1 xs.length = 1; omega]
    apply List.take_of_length_le
    simp
  · have : xs = [] := List.length_eq_zero_iff.mp (by omega)
    subst this
    rfl
theorem asc_zip : ∀ zs : List Str, (zipD (zs.map D.str) ((zs.map D.str).drop 1)).filterMap (fun p => match p with | .tup [.str a, .str b] => some (D.bl (ltS a b)) | _ => none) = ((zs.zip (zs.drop 1)).map fun p => ltS p.1 p.2).map D.bl := by
  intro zs
  unfold zipD
  rw [← List.map_drop, List.zip_map, List.map_map, List.filterMap_map, List.map_map]
  generalize zs.zip (zs.drop 1) = l
  induction l with
  | nil => rfl
  | cons c r ih =>
    rw [List.filterMap_cons, List.map_cons, ← ih]
    rfl
theorem asc_all : ∀ zs : List Str, ((zs.zip (zs.drop 1)).map fun p => ltS p.1 p.2).all id = ascS zs
  | [] => rfl
  | [_] => rfl
  | a :: b :: r => by
    have := asc_all (b :: r)
    simp only [List.drop_succ_cons, List.drop_zero, List.zip_cons_cons, List.map_cons, List.all_cons, id, ascS] at this ⊢
    rw [this]
theorem are_ascending_run {d : D} (hC : ∀ x, x.okW kin = true → C "is_word" [x] = pure (.bl (isWd x))) (h : d.okT kin = true) : runF kin C 2 c_are_ascending [d] = pure (.bl (isAsc d)) := by
  have h0 : ∀ s t, evE kin C (.b 0) [.val d, s, t] = pure d := fun s t => ev_b rfl
  cases d with
  | tup xs =>
    obtain ⟨hx, hl⟩ := (Bool.and_eq_true _ _).mp h
    have hl : xs.length ≤ sizeLine := of_decide_eq_true hl
    have words : evE kin C (.bi .all (.cons (.lc [1] [1] (.seq (.b 0)) .yes (.app "is_word" (.cons (.v 1) .nil))) .nil)) [.val (.tup xs), .emp, .emp] = pure (.bl (xs.all isWd)) := by
      refine ev_bi1 (lc_pure (fun x => some (D.bl (isWd x))) (evI_seq (h0 _ _) rfl) hl fun x hm => ?_) ?_
      · exact lcF_yes (ρ1 := [.val (.tup xs), .val x, .emp]) rfl (ev_app (ev_es (ev_v rfl) ev_es0) (hC x (List.all_eq_true.mp hx x hm)))
      · have : xs.filterMap (fun x => some (D.bl (isWd x))) = (xs.map isWd).map D.bl := by rw [List.map_map, List.filterMap_eq_map']; rfl
        rw [this, all_bools, List.all_map]
        rfl
    have test : evT kin C (.or (.not (.val (.bi (.isi [.b "tuple"]) (.cons (.b 0) .nil)))) (.not (.val (.bi .all (.cons (.lc [1] [1] (.seq (.b 0)) .yes (.app "is_word" (.cons (.v 1) .nil))) .nil))))) [.val (.tup xs), .emp, .emp] = pure (!xs.all isWd) :=
      evQ_or (p := false) (evQ_not (evQ_bl (isTup_run (h0 _ _) (okT_basic h)))) fun _ => evQ_not (evQ_bl words)
    refine run_ret ?_
    show evSs kin C c_are_ascending [.val (.tup xs), .emp, .emp] = _
    unfold c_are_ascending
    cases ha : xs.all isWd with
    | false =>
      rw [ha] at test
      rw [iff_true test, ret_pure ev_c]
      have e0 : isAsc (.tup xs) = false := by show (xs.all isWd && ascS (strsOf xs)) = _; rw [ha]; rfl
      rw [e0]; rfl
    | true =>
      rw [ha] at test
      rw [iff_false test]
      refine ret_pure ?_
      have e := words_strs ha
      refine ev_bi1 (lc_pure (fun p => match p with | .tup [.str a, .str b] => some (D.bl (ltS a b)) | _ => none) (evI_zipT (h0 _ _) (ev_sl (h0 _ _) (ev_bnd ev_c) ev_c (cut1 hl))) ?_ fun x hm => ?_) ?_
      · rw [zipD_length]; omega
      · rw [e] at hm
        unfold zipD at hm
        rw [← List.map_drop, List.zip_map, List.map_map] at hm
        obtain ⟨⟨a, b⟩, _, rfl⟩ := List.mem_map.mp hm
        exact lcF_yes (ρ1 := [.val (.tup xs), .val (.str a), .val (.str b)]) rfl (ev_cmp (ev_b rfl) (ev_b rfl) (lt_str a b))
      · have e1 : isAsc (.tup xs) = ascS (strsOf xs) := by show (xs.all isWd && ascS (strsOf xs)) = _; rw [ha]; rfl
        rw [e1]
        generalize strsOf xs = zs at e
        rw [e, asc_zip, all_bools, asc_all]
  | _ =>
    all_goals
      refine run_ret ?_
      show evSs kin C c_are_ascending [.val _, .emp, .emp] = _
      unfold c_are_ascending
      rw [iff_true (evQ_or (p := true) (q := true) (evQ_not (evQ_bl (isTup_run (h0 _ _) h))) fun z => by cases z), ret_pure ev_c]
      rfl
end
end RM
end
section
set_option Elab.async false
set_option linter.all false
set_option maxRecDepth 100000
set_option autoImplicit false
/-! roads by their places: lots are lists of places, named -/
namespace RM
open PySem PySem.Spec PyProof.Rows L2

/-- n roads, named in their order -/
structure Nm (n : Nat) (nm : Nat → Str) : Prop where
  lt : ∀ i j, i < n → j < n → ltS (nm i) (nm j) = decide (i < j)
  w : ∀ i, i < n → isW (nm i) = true
abbrev roadV (nm : Nat → Str) (i : Nat) : D := .str (nm i)
abbrev lotV (nm : Nat → Str) (l : List Nat) : D := .tup (l.map (roadV nm))
/-- all below n -/
def Bel (n : Nat) (l : List Nat) : Prop := ∀ i ∈ l, i < n
theorem ltS_irrefl (x : Str) : ltS x x = false := by
  unfold ltS
  rw [decide_eq_false_iff_not]
  exact List.lt_irrefl _
section
variable {n : Nat} {nm : Nat → Str} (N : Nm n nm)
include N
theorem Nm.inj {i j : Nat} (hi : i < n) (hj : j < n) : nm i = nm j ↔ i = j := by
  constructor
  · intro e
    have h1 := N.lt i j hi hj
    have h2 := N.lt j i hj hi
    rw [e, ltS_irrefl] at h1
    rw [e, ltS_irrefl] at h2
    have h1 := decide_eq_false_iff_not.mp h1.symm
    have h2 := decide_eq_false_iff_not.mp h2.symm
    omega
  · intro e; rw [e]
theorem Nm.eqv_lot : ∀ {l l' : List Nat}, Bel n l → Bel n l' → PyData.eqvAll (D.pds (l.map (roadV nm))) (D.pds (l'.map (roadV nm))) = decide (l = l')
  | [], [], _, _ => rfl
  | [], _ :: _, _, _ => rfl
  | _ :: _, [], _, _ => rfl
  | i :: l, j :: l', h, h' => by
    have ih := Nm.eqv_lot (l := l) (l' := l') (fun x hx => h x (List.mem_cons_of_mem _ hx)) fun x hx => h' x (List.mem_cons_of_mem _ hx)
    simp only [List.map_cons, D.pds, D.pd, PyData.eqvAll, PyData.eqv]
    rw [ih]
    by_cases e : i = j
    · subst e
      simp
    · have : (nm i == nm j) = false := by
        rw [beq_eq_false_iff_ne]
        exact fun z => e ((N.inj (h i List.mem_cons_self) (h' j List.mem_cons_self)).mp z)
      rw [this]
      simp [e]
/-- lists of places in their order -/
def ltL : List Nat → List Nat → Bool
  | [], [] => false
  | [], _ :: _ => true
  | _ :: _, [] => false
  | i :: l, j :: m => if i = j then ltL l m else decide (i < j)
omit N in
theorem alike_lot : ∀ (l l' : List Nat), PySem.W.alikeAll (D.pds (l.map (roadV nm))) (D.pds (l'.map (roadV nm))) = true
  | [], _ => by simp [D.pds, PySem.W.alikeAll]
  | _ :: _, [] => by simp [D.pds, PySem.W.alikeAll]
  | i :: l, j :: l' => by simp [D.pds, D.pd, PySem.W.alikeAll, PySem.W.alike, alike_lot l l']
theorem Nm.lt_lot : ∀ {l l' : List Nat}, Bel n l → Bel n l' → PyProof.Rows.lexLt itemOrd (PySem.W.keyToksAll (D.pds (l.map (roadV nm)))) (PySem.W.keyToksAll (D.pds (l'.map (roadV nm)))) = ltL l l'
  | [], [], _, _ => rfl
  | [], _ :: _, _, _ => rfl
  | _ :: _, [], _, _ => rfl
  | i :: l, j :: l', h, h' => by
    have ih := Nm.lt_lot (l := l) (l' := l') (fun x hx => h x (List.mem_cons_of_mem _ hx)) fun x hx => h' x (List.mem_cons_of_mem _ hx)
    have hi := h i List.mem_cons_self
    have hj := h' j List.mem_cons_self
    simp only [List.map_cons, D.pds, D.pd]
    rw [PySem.W.dataLt_cons (by rfl)]
    unfold ltL
    by_cases e : i = j
    · subst e
      rw [if_pos (by simp [PyData.eqv]), if_pos rfl]
      exact ih
    · have : PyData.eqv (.str (nm i)) (.str (nm j)) = false := by
        simp only [PyData.eqv]
        rw [beq_eq_false_iff_ne]
        exact fun z => e ((N.inj hi hj).mp z)
      rw [if_neg (by rw [this]; exact Bool.false_ne_true), if_neg e, PySem.W.dataLt_str]
      exact N.lt i j hi hj
omit N in
theorem pure_lot (l : List Nat) : D.pures (l.map (roadV nm)) = true := by
  induction l with
  | nil => rfl
  | cons i l ih => simp [D.pures, D.pure, ih]
omit N in
theorem depth_lot : ∀ l : List Nat, PyData.depthAll (D.pds (l.map (roadV nm))) ≤ 1
  | [] => by simp [D.pds, PyData.depthAll]
  | i :: l => by
    have := depth_lot l
    simp only [List.map_cons, D.pds, D.pd, PyData.depthAll, PyData.depth]
    omega
omit N in
theorem okE_lot (l l' : List Nat) : D.okE (lotV nm l) (lotV nm l') = true := by
  have h1 := depth_lot (nm := nm) l
  unfold D.okE
  simp only [D.pure, pure_lot, Bool.true_and, decide_eq_true_eq, D.pd, PyData.depth]
  omega
omit N in
theorem okL_lot (l l' : List Nat) : D.okL (lotV nm l) (lotV nm l') = true := by
  have h1 := depth_lot (nm := nm) l
  unfold D.okL
  simp only [D.pure, pure_lot, Bool.true_and, D.pd, PyData.depth, PySem.W.alike, alike_lot, D.isNon, Bool.not_false, decide_eq_true_eq]
  omega
theorem Nm.eq_lot {l l' : List Nat} (h : Bel n l) (h' : Bel n l') : cmpD .Eq (lotV nm l) (lotV nm l') = some (.bl (decide (l = l'))) := by
  unfold cmpD
  rw [if_pos (okE_lot l l')]
  simp only [D.pd, PyData.eqv]
  rw [N.eqv_lot h h']
theorem Nm.ne_lot {l l' : List Nat} (h : Bel n l) (h' : Bel n l') : cmpD .NotEq (lotV nm l) (lotV nm l') = some (.bl (!decide (l = l'))) := by
  unfold cmpD
  simp only [D.pd, PyData.eqv]
  rw [N.eqv_lot h h', if_pos (okE_lot l l')]
theorem Nm.dlt_lot {l l' : List Nat} (h : Bel n l) (h' : Bel n l') : PySem.W.dataLt (lotV nm l).pd (lotV nm l').pd = ltL l l' := by
  simp only [D.pd, PySem.W.dataLt_tuple]
  exact N.lt_lot h h'
theorem Nm.gt_road {i j : Nat} (hi : i < n) (hj : j < n) : cmpD .Gt (roadV nm i) (roadV nm j) = some (.bl (decide (j < i))) := by
  rw [gt_str, N.lt j i hj hi]
theorem Nm.any_road {x : Nat} (hx : x < n) : ∀ {l : List Nat}, Bel n l → ((l.map (roadV nm)).any fun z => PyData.eqv z.pd (roadV nm x).pd) = decide (x ∈ l)
  | [], _ => by simp
  | i :: l, h => by
    have ih := Nm.any_road hx (l := l) fun y hy => h y (List.mem_cons_of_mem _ hy)
    have hi := h i List.mem_cons_self
    rw [List.map_cons, List.any_cons, ih]
    show ((nm i == nm x) || _) = _
    by_cases e : x = i
    · subst e; simp
    · have : (nm i == nm x) = false := by
        rw [beq_eq_false_iff_ne]
        exact fun z => e ((N.inj hi hx).mp z).symm
      rw [this]
      simp [e]
theorem Nm.in_road {x : Nat} {l : List Nat} (hx : x < n) (h : Bel n l) : cmpD .In (roadV nm x) (lotV nm l) = some (.bl (decide (x ∈ l))) := by
  have e := N.any_road hx h
  simp only [cmpD]
  rw [if_pos (by simp [D.pure, pure_lot, D.pd, PyData.depth]), e]
theorem Nm.notin_road {x : Nat} {l : List Nat} (hx : x < n) (h : Bel n l) : cmpD .NotIn (roadV nm x) (lotV nm l) = some (.bl (!decide (x ∈ l))) := by
  have e := N.any_road hx h
  simp only [cmpD]
  rw [if_pos (by simp [D.pure, pure_lot, D.pd, PyData.depth]), e]
omit N in
/-- x among roads -/
theorem in_strs (x : Str) : ∀ (ys : List Str), ((ys.map D.str).any fun z => PyData.eqv z.pd (D.str x).pd) = decide (x ∈ ys)
  | [] => by simp
  | y :: ys => by
    have ih := in_strs x ys
    rw [List.map_cons, List.any_cons, ih]
    show ((y == x) || _) = _
    by_cases e : x = y
    · subst e; simp
    · have : (y == x) = false := by
        rw [beq_eq_false_iff_ne]
        exact fun z => e z.symm
      rw [this]
      simp [e]
/-! ### lots of a size -/
end
/-- all lots of k of n roads -/
def lotsI (n : Nat) : Nat → List (List Nat)
  | 0 => [[]]
  | k + 1 => (lotsI n k).flatMap fun l => ((List.range n).filter fun r => l.isEmpty || decide (l.getLastD 0 < r)).map fun r => l ++ [r]
def couplesI (n : Nat) : List (List Nat) := (List.range n).flatMap fun i => ((List.range n).drop (i + 1)).map fun j => [i, j]
def lotsOk (n k : Nat) : Bool := decide ((lotsI n k).length ≤ 35) && (lotsI n k).all fun l => decide (l.length = k) && l.all fun i => decide (i < n)
theorem lots_ok : ∀ n, n ≤ 7 → ∀ k, k ≤ 7 → lotsOk n k = true := by decide +kernel
theorem couples_eq : ∀ n, n ≤ 7 → lotsI n 2 = couplesI n := by decide +kernel
theorem lots_bel {n k : Nat} (hn : n ≤ 7) (hk : k ≤ 7) {l : List Nat} (h : l ∈ lotsI n k) : l.length = k ∧ Bel n l := by
  have q := lots_ok n hn k hk
  obtain ⟨_, q⟩ := (Bool.and_eq_true _ _).mp q
  obtain ⟨q1, q2⟩ := (Bool.and_eq_true _ _).mp (List.all_eq_true.mp q l h)
  exact ⟨of_decide_eq_true q1, fun i hi => of_decide_eq_true (List.all_eq_true.mp q2 i hi)⟩
theorem lots_few {n k : Nat} (hn : n ≤ 7) (hk : k ≤ 7) : (lotsI n k).length ≤ 35 := of_decide_eq_true ((Bool.and_eq_true _ _).mp (lots_ok n hn k hk)).1
end RM
end
section
set_option Elab.async false
set_option linter.all false
set_option maxRecDepth 100000
set_option autoImplicit false
/-! values: roads, lots, couples -/
namespace RM
open PySem PySem.Spec PyProof.Rows L2

section
variable {kin : Kin} {C : Orc} {ρ ρ1 : Fe} {r b : Ss} {it it2 : I} {p p2 own : List Nat} {t t2 : Q} {e : E} {xs ys : List D}
theorem frl_pure (st : Nat → Fe) (h : evI kin C it ρ = pure xs) (h0 : st 0 = ρ) (hs : ∀ i x, xs[i]? = some x → ∃ ρ1, asgP p x (st i) = some ρ1 ∧ evSs kin C b ρ1 = pure (.nx (st (i + 1)))) :
    evSs kin C (.cons (.frl p it b) r) ρ = evSs kin C r (st xs.length) := by
  rw [evSs_cons]
  unfold evS
  rw [h]
  have key : ∀ (ys : List D) (i : Nat), (∀ j x, ys[j]? = some x → xs[i + j]? = some x) → forM (fun x ρ => do
      let ρ1 ← M.op (asgP p x ρ)
      evSs kin C b ρ1) ys (st i) = pure (.nx (st (i + ys.length))) := by
    intro ys
    induction ys with
    | nil => intro i _; rfl
    | cons y ys ih =>
      intro i hy
      obtain ⟨ρ1, h1, h2⟩ := hs i y (hy 0 y rfl)
      unfold forM
      rw [h1]
      simp only [op_some, pure_bind, h2]
      have := ih (i + 1) fun j x hx => by
        have := hy (j + 1) x (by simpa using hx)
        rw [show i + (j + 1) = i + 1 + j by omega] at this
        exact this
      rw [show i + (y :: ys).length = i + 1 + ys.length by simp; omega]
      exact this
  have := key xs 0 fun j x hx => by rw [Nat.zero_add]; exact hx
  rw [Nat.zero_add, h0] at this
  show (forM (fun x ρ => do
      let ρ1 ← M.op (asgP p x ρ)
      evSs kin C b ρ1) xs ρ) >>= goOn kin C r = _
  rw [this]; rfl
theorem mapO_map {α : Type} {f : D → M (Option D)} {v : α → D} {g : α → Option D} : ∀ {ls : List α}, (∀ a ∈ ls, f (v a) = pure (g a)) → mapO f (ls.map v) = pure (ls.filterMap g)
  | [], _ => rfl
  | x :: xs, h => by
    rw [List.map_cons]
    unfold mapO
    rw [h x List.mem_cons_self, mapO_map fun y hy => h y (List.mem_cons_of_mem _ hy)]
    simp only [pure_bind, List.filterMap_cons]
    cases g x <;> rfl
theorem mapL_map {α : Type} {f : D → M (List D)} {v : α → D} {g : α → List D} : ∀ {ls : List α}, (∀ a ∈ ls, f (v a) = pure (g a)) → mapL f (ls.map v) = pure (ls.flatMap g)
  | [], _ => rfl
  | x :: xs, h => by
    rw [List.map_cons]
    unfold mapL
    rw [h x List.mem_cons_self, mapL_map fun y hy => h y (List.mem_cons_of_mem _ hy)]
    simp only [pure_bind, List.flatMap_cons]
theorem lc_map {α : Type} {ls : List α} {v : α → D} (g : α → Option D) (h : evI kin C it ρ = pure (ls.map v)) (hl : ls.length ≤ sizeLine) (hg : ∀ a ∈ ls, lcF kin C ρ own p t e (v a) = pure (g a)) :
    evE kin C (.lc own p it t e) ρ = pure (.lst (ls.filterMap g)) := by
  rw [evE_lc, h]
  simp only [pure_bind]
  rw [List.length_map, small_pure hl, mapO_map hg]
  rfl
theorem lc2_map {α : Type} {ls : List α} {v : α → D} (g : α → List D) (h : evI kin C it ρ = pure (ls.map v)) (hl : ls.length ≤ 4000) (hg : ∀ a ∈ ls, lc2F kin C ρ own p t p2 it2 t2 e (v a) = pure (g a)) :
    evE kin C (.lc2 own p it t p2 it2 t2 e) ρ = pure (.lst (ls.flatMap g)) := by
  rw [evE_lc2, h]
  simp only [pure_bind]
  rw [List.length_map, few_pure hl, mapL_map hg]
  rfl
theorem lc2F_map {α : Type} {ls : List α} {v : α → D} {x : D} (g : α → Option D) (h1 : asgP p x (wipeE ρ own) = some ρ1) (h2 : evT kin C t ρ1 = pure true) (h3 : evI kin C it2 ρ1 = pure (ls.map v)) (hl : ls.length ≤ 4000) (hg : ∀ a ∈ ls, lc2G kin C ρ1 p2 t2 e (v a) = pure (g a)) :
    lc2F kin C ρ own p t p2 it2 t2 e x = pure (ls.filterMap g) := by
  unfold lc2F
  rw [h1]
  simp only [op_some, pure_bind, h2, if_true, h3]
  rw [List.length_map, few_pure hl]
  exact mapO_map hg
theorem fm_if {α β : Type} {f : α → β} {q : α → Bool} : ∀ ls : List α, ls.filterMap (fun a => if q a then some (f a) else none) = (ls.filter q).map f
  | [] => rfl
  | a :: ls => by
    rw [List.filterMap_cons, List.filter_cons]
    cases h : q a with
    | true => simp [fm_if ls]
    | false => simp [fm_if ls]
theorem fm_some {α β : Type} {f : α → β} : ∀ ls : List α, ls.filterMap (fun a => some (f a)) = ls.map f
  | [] => rfl
  | a :: ls => by rw [List.filterMap_cons, List.map_cons, fm_some ls]
theorem lc2G_q {y v : D} {q : Bool} {ρ2 : Fe} (h1 : asgP p2 y (wipeE ρ1 p2) = some ρ2) (h2 : evT kin C t2 ρ2 = pure q) (h3 : q = true → evE kin C e ρ2 = pure v) : lc2G kin C ρ1 p2 t2 e y = pure (if q then some v else none) := by
  unfold lc2G
  rw [h1]
  simp only [op_some, pure_bind, h2]
  cases q with
  | true => simp [h3 rfl]
  | false => rfl
end

/-- roads -/
abbrev roadsV (n : Nat) (nm : Nat → Str) : D := lotV nm (List.range n)
section
variable {kin : Kin} {C : Orc} {n : Nat} {nm : Nat → Str}
theorem bel_range : Bel n (List.range n) := fun i hi => List.mem_range.mp hi
theorem sz {k : Nat} (h : k ≤ 100000) : k ≤ sizeLine := by have := sizeLine_eq; omega
theorem last_lot {l : List Nat} (h : l ≠ []) : subD (lotV nm l) (.int (-1)) = some (roadV nm (l.getLastD 0)) := by
  show atI (l.map (roadV nm)) (-1) = _
  unfold atI
  have hl : 0 < l.length := List.length_pos_iff.mpr h
  have e : ixN (l.map (roadV nm)).length (-1) = some (l.length - 1) := by
    unfold ixN
    rw [if_neg (by decide), List.length_map, if_pos (by omega)]
    congr 1
    omega
  rw [e]
  simp only [Option.bind_some, List.getElem?_map]
  rw [List.getLastD_eq_getLast?, List.getLast?_eq_getElem?]
  have : l[l.length - 1]? = some (l[l.length - 1]'(by omega)) := List.getElem?_eq_getElem _
  rw [this]
  rfl
theorem lots_with_run (N : Nm n nm) (hn : n ≤ 7) {k : Nat} (hk : k ≤ 7) : runF kin C 4 c_lots_with [roadsV n nm, .int k] = pure (.lst ((lotsI n k).map (lotV nm))) := by
  refine run_ret ?_
  show evSs kin C c_lots_with [.val (roadsV n nm), .val (.int k), .emp, .emp, .emp, .emp] = _
  unfold c_lots_with
  rw [asg_pure (ρ1 := [.val (roadsV n nm), .val (.int k), .val (.lst [.tup []]), .emp, .emp, .emp]) (ev_lst (ev_es (ev_tup ev_es0 (sz (by decide))) ev_es0) (sz (by decide))) rfl]
  have hz := sizeLine_eq
  refine Eq.trans (frl_pure (xs := rngD 0 k) (fun j => [.val (roadsV n nm), .val (.int k), .val (.lst ((lotsI n j).map (lotV nm))), (match j with | 0 => .emp | j + 1 => .val (.int (j : Int))), .emp, .emp]) (evI_rng1 (j := (k : Int)) (ev_b rfl) (by omega) (by omega)) rfl fun i x hx => ?_) ?_
  · have hik : i < k := by
      have := (List.getElem?_eq_some_iff.mp hx).1
      rwa [rngD_length] at this
    have ex : x = .int i := by
      unfold rngD at hx
      rw [List.getElem?_map, List.getElem?_range hik] at hx
      simpa using (Option.some.inj hx).symm
    subst ex
    refine ⟨[.val (roadsV n nm), .val (.int k), .val (.lst ((lotsI n i).map (lotV nm))), .val (.int i), .emp, .emp], rfl, ?_⟩
    have fi := lots_few hn (show i ≤ 7 by omega)
    have step : evE kin C (.lc2 [4, 5] [4] (.seq (.b 2)) .yes [5] (.seq (.v 0)) (.or (.val (.cmp .Eq (.b 4) (.tup .nil))) (.val (.cmp .Gt (.b 5) (.sub (.b 4) (.neg (.c (.int 1))))))) (.tup (.star (.b 4) (.cons (.v 5) .nil))))
        [.val (roadsV n nm), .val (.int k), .val (.lst ((lotsI n i).map (lotV nm))), .val (.int i), .emp, .emp] = pure (.lst ((lotsI n (i + 1)).map (lotV nm))) := by
      refine (lc2_map (ls := lotsI n i) (v := lotV nm) (fun l => ((List.range n).filter fun r => l.isEmpty || decide (l.getLastD 0 < r)).map fun r => lotV nm (l ++ [r])) (evI_seq (ev_b rfl) rfl) (by omega) fun l hl => ?_).trans ?_
      · obtain ⟨hll, hb⟩ := lots_bel hn (show i ≤ 7 by omega) hl
        refine (lc2F_map (ρ1 := [.val (roadsV n nm), .val (.int k), .val (.lst ((lotsI n i).map (lotV nm))), .val (.int i), .val (lotV nm l), .emp]) (ls := List.range n) (v := roadV nm) (fun r => if (l.isEmpty || decide (l.getLastD 0 < r)) then some (lotV nm (l ++ [r])) else none) rfl evQ_yes (evI_seq (ev_v rfl) rfl) (by rw [List.length_range]; omega) fun r hr => ?_).trans (by rw [fm_if])
        have hr := List.mem_range.mp hr
        refine lc2G_q (ρ2 := [.val (roadsV n nm), .val (.int k), .val (.lst ((lotsI n i).map (lotV nm))), .val (.int i), .val (lotV nm l), .val (roadV nm r)]) rfl ?_ fun _ => ?_
        · have e1 : evT kin C (.val (.cmp .Eq (.b 4) (.tup .nil))) [.val (roadsV n nm), .val (.int k), .val (.lst ((lotsI n i).map (lotV nm))), .val (.int i), .val (lotV nm l), .val (roadV nm r)] = pure l.isEmpty := by
            have := N.eq_lot hb (l' := []) (fun _ h => nomatch h)
            refine evQ_bl (ev_cmp (ev_b rfl) (ev_tup ev_es0 (sz (by decide))) (this.trans ?_))
            cases l <;> rfl
          refine evQ_or e1 fun he => evQ_bl (ev_cmp (ev_b rfl) (ev_sub (ev_b rfl) (ev_neg ev_c) (last_lot (fun z => by rw [z] at he; cases he))) ?_)
          refine N.gt_road hr (hb _ ?_)
          have : l ≠ [] := fun z => by rw [z] at he; cases he
          rw [List.getLastD_eq_getLast?, List.getLast?_eq_some_getLast this]
          exact List.getLast_mem this
        · have ee : lotV nm (l ++ [r]) = .tup (l.map (roadV nm) ++ [roadV nm r]) := by simp [lotV]
          rw [ee]
          exact ev_tup (ev_ess (ev_b rfl) rfl (ev_es (ev_v rfl) ev_es0)) (by rw [List.length_append, List.length_map]; exact sz (by simp; omega))
      · rw [lotsI, List.map_flatMap]
        simp only [List.map_map, Function.comp_def]
    rw [asg_pure (ρ1 := [.val (roadsV n nm), .val (.int k), .val (.lst ((lotsI n (i + 1)).map (lotV nm))), .val (.int i), .emp, .emp]) step rfl, evSs_nil]
  · refine ret_pure (ev_v ?_)
    rw [rngD_length]
    rfl
theorem couples_run (N : Nm n nm) (hn : n ≤ 7) (hC : C "lots_with" [roadsV n nm, .int 2] = pure (.lst ((lotsI n 2).map (lotV nm)))) : runF kin C 0 c_couples [roadsV n nm] = pure (.tup ((couplesI n).map (lotV nm))) := by
  refine run_ret (ret_pure ?_)
  show evE kin C _ [.val (roadsV n nm)] = _
  rw [← couples_eq n hn]
  exact ev_bi1 (ev_app (ev_es (ev_v rfl) (ev_es ev_c ev_es0)) hC) rfl
/-- drop of roads -/
theorem cut_lot {l : List Nat} {i : Nat} (h : l.length ≤ 100000) (hi : i ≤ l.length) : slD (lotV nm l) (.int (i : Int)) .non = some (lotV nm (l.drop i)) := by
  show some (D.tup (cutD (l.map (roadV nm)) (some (i : Int)) none)) = _
  unfold cutD HT.sIx
  have : ¬((i : Int) < 0) := by omega
  simp only [this, if_false, List.length_map]
  rw [show min ((i : Int)).toNat l.length = i by omega, ← List.map_drop]
  congr 2
  apply List.take_of_length_le
  simp
theorem law_couples_run (N : Nm n nm) (hn : n ≤ 7) : runF kin C 3 c__law_couples [roadsV n nm] = pure (.lst ((couplesI n).map (lotV nm))) := by
  refine run_ret ?_
  show evSs kin C c__law_couples [.val (roadsV n nm), .emp, .emp, .emp] = _
  unfold c__law_couples
  rw [asg_pure (ρ1 := [.val (roadsV n nm), .val (.lst []), .emp, .emp]) (ev_lst ev_es0 (sz (by decide))) rfl]
  have hz := sizeLine_eq
  let acc : Nat → List (List Nat) := fun m => (List.range m).flatMap fun i => ((List.range n).drop (i + 1)).map fun j => [i, j]
  have accl : ∀ m, m ≤ 7 → (acc m).length ≤ 49 := by
    intro m hm
    have h1 : ∀ m, (acc m).length ≤ m * 7 := by
      intro m
      induction m with
      | zero => exact Nat.le_refl _
      | succ m ih =>
        show ((List.range (m + 1)).flatMap _).length ≤ _
        rw [List.range_succ, List.flatMap_append, List.length_append]
        have : (((List.range n).drop (m + 1)).map fun j => [m, j]).length ≤ 7 := by
          rw [List.length_map, List.length_drop, List.length_range]; omega
        simp only [List.flatMap_cons, List.flatMap_nil, List.append_nil]
        have ih' : ((List.range m).flatMap fun i => ((List.range n).drop (i + 1)).map fun j => [i, j]).length ≤ m * 7 := ih
        omega
    have := h1 m
    omega
  refine Eq.trans (frl_pure (xs := rngD 0 n) (fun j => [.val (roadsV n nm), .val (.lst ((acc j).map (lotV nm))), (match j with | 0 => .emp | j + 1 => .val (.int (j : Int))), .emp]) ?_ rfl fun i x hx => ?_) ?_
  · have h1 : evE kin C (.bi .len (.cons (.b 0) .nil)) [.val (roadsV n nm), .val (.lst []), .emp, .emp] = pure (.int (n : Int)) := by
      refine ev_bi1 (ev_b rfl) ?_
      show some (D.int _) = _
      rw [List.length_map, List.length_range]
    have := evI_rng1 h1 (by omega) (by omega)
    rw [this]
    rfl
  · have hik : i < n := by
      have := (List.getElem?_eq_some_iff.mp hx).1
      rwa [rngD_length] at this
    have ex : x = .int i := by
      unfold rngD at hx
      rw [List.getElem?_map, List.getElem?_range hik] at hx
      simpa using (Option.some.inj hx).symm
    subst ex
    refine ⟨[.val (roadsV n nm), .val (.lst ((acc i).map (lotV nm))), .val (.int i), .emp], rfl, ?_⟩
    have hlen : (List.range n).length = n := List.length_range
    have h2 : evE kin C (.bnd (.bin .Add (.b 2) (.c (.int 1)))) [.val (roadsV n nm), .val (.lst ((acc i).map (lotV nm))), .val (.int i), .emp] = pure (.int ((i + 1 : Nat) : Int)) := ev_bnd (ev_bin (ev_b rfl) ev_c (add_int _ _))
    have inner : evE kin C (.lc [3] [3] (.seq (.sl (.b 0) (.bnd (.bin .Add (.b 2) (.c (.int 1)))) (.c .non))) .yes (.tup (.cons (.sub (.b 0) (.b 2)) (.cons (.v 3) .nil)))) [.val (roadsV n nm), .val (.lst ((acc i).map (lotV nm))), .val (.int i), .emp] =
        pure (.lst ((((List.range n).drop (i + 1)).map fun j => [i, j]).map (lotV nm))) := by
      refine (lc_map (ls := (List.range n).drop (i + 1)) (v := roadV nm) (fun j => some (lotV nm [i, j])) (evI_seq (ev_sl (ev_b rfl) h2 ev_c (cut_lot (by rw [hlen]; omega) (by rw [hlen]; omega))) rfl) (by rw [List.length_drop, hlen]; exact sz (by omega)) fun j hj => ?_).trans ?_
      · refine lcF_yes (ρ1 := [.val (roadsV n nm), .val (.lst ((acc i).map (lotV nm))), .val (.int i), .val (roadV nm j)]) rfl (ev_tup (ev_es (ev_sub (ev_b rfl) (ev_b rfl) (sub_tup (i := i) (d := roadV nm i) ?_)) (ev_es (ev_v rfl) ev_es0)) (sz (by simp)))
        rw [List.getElem?_map, List.getElem?_range hik]; rfl
      · rw [fm_some, List.map_map]; rfl
    have l1 := accl i (by omega)
    rw [asg_pure (ρ1 := [.val (roadsV n nm), .val (.lst ((acc (i + 1)).map (lotV nm))), .val (.int i), .emp]) (ev_bin (ev_b rfl) inner (add_lst ?_)) ?_, evSs_nil]
    · simp only [List.length_map, List.length_drop, List.length_range]
      omega
    · have ea : acc (i + 1) = acc i ++ (((List.range n).drop (i + 1)).map fun j => [i, j]) := by
        show (List.range (i + 1)).flatMap _ = _
        rw [List.range_succ, List.flatMap_append]
        simp only [List.flatMap_cons, List.flatMap_nil, List.append_nil]
        rfl
      rw [ea, List.map_append]
      rfl
  · refine ret_pure (ev_v ?_)
    rw [rngD_length]
    rfl
end
end RM
end
section
set_option Elab.async false
set_option linter.all false
set_option maxRecDepth 100000
set_option autoImplicit false
/-! values: sorting; drawn roads -/
namespace RM
open PySem PySem.Spec PyProof.Rows L2

/-! ### the order of texts -/
theorem ltS_trans {a b c : Str} (h1 : ltS a b = true) (h2 : ltS b c = true) : ltS a c = true := by
  unfold ltS at *
  exact decide_eq_true (List.lt_trans (of_decide_eq_true h1) (of_decide_eq_true h2))
theorem ltS_tri {a b : Str} (h1 : ltS a b = false) (h2 : ltS b a = false) : a = b := by
  unfold ltS at *
  have h1 := of_decide_eq_false h1
  have h2 := of_decide_eq_false h2
  have : a.cps.toList = b.cps.toList := List.le_antisymm (List.not_lt.mp h2) (List.not_lt.mp h1)
  exact PySem.W.str_of_cps this
theorem ltS_asymm {a b : Str} (h1 : ltS a b = true) : ltS b a = false := by
  cases h : ltS b a with
  | false => rfl
  | true =>
    have := ltS_trans h1 h
    rw [ltS_irrefl] at this
    cases this
def leS (a b : Str) : Bool := !ltS b a
theorem leS_trans (a b c : Str) (h1 : leS a b = true) (h2 : leS b c = true) : leS a c = true := by
  unfold leS at *
  cases h : ltS c a with
  | false => rfl
  | true =>
    have h1 : ltS b a = false := by simpa using h1
    have h2 : ltS c b = false := by simpa using h2
    cases hb : ltS a b with
    | true =>
      have := ltS_trans h hb
      rw [h2] at this; cases this
    | false =>
      have e := ltS_tri hb h1
      subst e
      rw [h2] at h; cases h
theorem leS_total (a b : Str) : (leS a b || leS b a) = true := by
  unfold leS
  cases h : ltS b a with
  | false => rfl
  | true => rw [ltS_asymm h]; rfl
theorem pure_strs : ∀ ws : List Str, D.pures (ws.map D.str) = true
  | [] => rfl
  | w :: ws => by simp [D.pures, D.pure, pure_strs ws]
theorem sortable_strs (ws : List Str) : sortable (ws.map D.str) = true := by
  unfold sortable
  rw [pure_strs]
  simp only [Bool.true_and, Bool.and_eq_true, List.all_eq_true, List.mem_map]
  refine ⟨fun x ⟨a, _, ea⟩ y ⟨b, _, eb⟩ => ?_, fun x ⟨a, _, ea⟩ => ?_⟩
  · subst ea eb; rfl
  · subst ea; exact ⟨rfl, decide_eq_true (Nat.zero_le 64)⟩
theorem sorted_strs {kin : Kin} (ws : List Str) : biD kin .sorted [.lst (ws.map D.str)] = some (.lst ((ws.mergeSort leS).map D.str)) := by
  show (if sortable (ws.map D.str) then some (D.lst ((ws.map D.str).mergeSort leD)) else none) = _
  rw [if_pos (sortable_strs ws)]
  congr 2
  refine (List.map_mergeSort fun a _ b _ => ?_).symm
  show (!ltS b a) = !PySem.W.dataLt _ _
  simp only [D.pd, PySem.W.dataLt_str]
  rfl
/-- strictly ascending -/
theorem sorted_strict {ws : List Str} (h : ws.Nodup) : (ws.mergeSort leS).Pairwise fun a b => ltS a b = true := by
  have h1 := List.pairwise_mergeSort leS_trans leS_total ws
  have h2 : (ws.mergeSort leS).Nodup := (List.mergeSort_perm ws leS).nodup_iff.mpr h
  refine (h1.and h2).imp ?_
  intro a b hab
  obtain ⟨q1, q2⟩ := hab
  unfold leS at q1
  have q1 : ltS b a = false := by simpa using q1
  cases h : ltS a b with
  | true => rfl
  | false => exact absurd (ltS_tri h q1) q2
theorem nm_of {ws : List Str} (h : ws.Pairwise fun a b => ltS a b = true) (hw : ∀ w ∈ ws, isW w = true) : Nm ws.length (fun i => ws.getD i default) := by
  refine ⟨fun i j hi hj => ?_, fun i hi => ?_⟩
  · have ei : ws.getD i default = ws[i] := by simp [hi]
    have ej : ws.getD j default = ws[j] := by simp [hj]
    rw [ei, ej]
    rcases Nat.lt_trichotomy i j with q | q | q
    · rw [List.pairwise_iff_getElem.mp h i j hi hj q]
      simp [q]
    · subst q
      rw [ltS_irrefl]
      simp
    · rw [ltS_asymm (List.pairwise_iff_getElem.mp h j i hj hi q)]
      simp
      omega
  · have ei : ws.getD i default = ws[i] := by simp [hi]
    rw [ei]
    exact hw _ (List.getElem_mem hi)
theorem roads_of (ws : List Str) : roadsV ws.length (fun i => ws.getD i default) = .tup (ws.map D.str) := by
  unfold roadsV lotV
  congr 1
  apply List.ext_getElem (by simp)
  intro i h1 h2
  simp only [List.getElem_map, List.getElem_range]
  have : i < ws.length := by simpa using h2
  simp [this]

/-! ### the order of lots -/
def leL (a b : List Nat) : Bool := !ltL b a
section
variable {kin : Kin} {C : Orc} {n : Nat} {nm : Nat → Str}
theorem pures_lots : ∀ ls : List (List Nat), D.pures (ls.map (lotV nm)) = true
  | [] => rfl
  | l :: ls => by
    rw [List.map_cons]
    unfold D.pures
    rw [pures_lots ls, Bool.and_true]
    exact pure_lot l
theorem sortable_lots (ls : List (List Nat)) : sortable (ls.map (lotV nm)) = true := by
  unfold sortable
  rw [pures_lots]
  simp only [Bool.true_and, Bool.and_eq_true, List.all_eq_true, List.mem_map]
  refine ⟨fun x ⟨a, _, ea⟩ y ⟨b, _, eb⟩ => ?_, fun x ⟨a, _, ea⟩ => ?_⟩
  · subst ea eb; exact alike_lot a b
  · subst ea
    refine ⟨rfl, decide_eq_true ?_⟩
    have := depth_lot (nm := nm) a
    simp only [D.pd, PyData.depth]
    omega
theorem Nm.sorted_lots (N : Nm n nm) {ls : List (List Nat)} (h : ∀ l ∈ ls, Bel n l) : biD kin .sorted [.lst (ls.map (lotV nm))] = some (.lst ((ls.mergeSort leL).map (lotV nm))) := by
  show (if sortable (ls.map (lotV nm)) then some (D.lst ((ls.map (lotV nm)).mergeSort leD)) else none) = _
  rw [if_pos (sortable_lots ls)]
  congr 2
  refine (List.map_mergeSort fun a ha b hb => ?_).symm
  show (!ltL b a) = !PySem.W.dataLt _ _
  rw [N.dlt_lot (h b hb) (h a ha)]
end
end RM
end
section
set_option Elab.async false
set_option linter.all false
set_option maxRecDepth 100000
set_option autoImplicit false
/-! values: expressions with draws; drawn names, roads -/
namespace RM
open PySem PySem.Spec PyProof.Rows L2

section
variable {kin : Kin} {C : Orc} {ρ : Fe} {a b : E} {c d : Nat} {P : D → Prop} {X : D → Prop} {bop : Operator} {cop : CmpOp} {r : Es} {Ps : List D → Prop}
theorem _root_.RM.Tr.of {α : Type} {m : M α} {v : α} {P : α → Prop} (h : m = Pure.pure v) (hp : P v) : Tr c m P X := by rw [h]; exact Tr.pure hp
theorem _root_.RM.Tr.op {α : Type} {o : Option α} {v : α} {P : α → Prop} (h : o = some v) (hp : P v) : Tr c (M.op o) P X := by rw [h]; exact Tr.pure hp
theorem tr_bin {Pa : D → Prop} (h1 : Tr c (evE kin C a ρ) Pa X) (h2 : ∀ x, Pa x → Tr d (evE kin C b ρ) (fun y => ∃ v, binD bop x y = some v ∧ P v) X) : Tr (c + d) (evE kin C (.bin bop a b) ρ) P X := by
  unfold evE
  refine Tr.bind h1 fun x hx => ?_
  have : Tr (d + 0) (do
      let y ← evE kin C b ρ
      M.op (binD bop x y)) P X := Tr.bind (h2 x hx) fun y ⟨v, e, hv⟩ => Tr.op e hv
  exact this
theorem tr_cmp {Pa : D → Prop} (h1 : Tr c (evE kin C a ρ) Pa X) (h2 : ∀ x, Pa x → Tr d (evE kin C b ρ) (fun y => ∃ v, cmpD cop x y = some v ∧ P v) X) : Tr (c + d) (evE kin C (.cmp cop a b) ρ) P X := by
  unfold evE
  refine Tr.bind h1 fun x hx => ?_
  have : Tr (d + 0) (do
      let y ← evE kin C b ρ
      M.op (cmpD cop x y)) P X := Tr.bind (h2 x hx) fun y ⟨v, e, hv⟩ => Tr.op e hv
  exact this
theorem tr_sub {Pa : D → Prop} (h1 : Tr c (evE kin C a ρ) Pa X) (h2 : ∀ x, Pa x → Tr d (evE kin C b ρ) (fun y => ∃ v, subD x y = some v ∧ P v) X) : Tr (c + d) (evE kin C (.sub a b) ρ) P X := by
  unfold evE
  refine Tr.bind h1 fun x hx => ?_
  have : Tr (d + 0) (do
      let y ← evE kin C b ρ
      M.op (subD x y)) P X := Tr.bind (h2 x hx) fun y ⟨v, e, hv⟩ => Tr.op e hv
  exact this
theorem tr_es0 (h : Ps []) : Tr c (evEs kin C .nil ρ) Ps X := Tr.of ev_es0 h
theorem tr_es {Pa : D → Prop} (h1 : Tr c (evE kin C a ρ) Pa X) (h2 : ∀ x, Pa x → Tr d (evEs kin C r ρ) (fun xs => Ps (x :: xs)) X) : Tr (c + d) (evEs kin C (.cons a r) ρ) Ps X := by
  unfold evEs
  refine Tr.bind h1 fun x hx => ?_
  have : Tr (d + 0) (do
      let xs ← evEs kin C r ρ
      pure (x :: xs)) Ps X := Tr.bind (h2 x hx) fun xs h => Tr.pure h
  exact this
theorem tr_tup (h : Tr c (evEs kin C r ρ) (fun xs => xs.length ≤ sizeLine ∧ P (.tup xs)) X) : Tr c (evE kin C (.tup r) ρ) P X := by
  unfold evE
  have : Tr (c + 0) (do mkTup (← evEs kin C r ρ)) P X := Tr.bind h fun xs ⟨hl, hp⟩ => Tr.of (mkTup_pure hl) hp
  exact this
theorem tr_lst (h : Tr c (evEs kin C r ρ) (fun xs => xs.length ≤ sizeLine ∧ P (.lst xs)) X) : Tr c (evE kin C (.lst r) ρ) P X := by
  unfold evE
  have : Tr (c + 0) (do mkLst (← evEs kin C r ρ)) P X := Tr.bind h fun xs ⟨hl, hp⟩ => Tr.of (mkLst_pure hl) hp
  exact this
theorem tr_app {f : Str} (h1 : Tr c (evEs kin C r ρ) Ps X) (h2 : ∀ xs, Ps xs → Tr d (C f xs) P X) : Tr (c + d) (evE kin C (.app f r) ρ) P X := by
  unfold evE
  exact Tr.bind h1 h2
theorem tr_bi {f : Bi} (h1 : Tr c (evEs kin C r ρ) (fun xs => ∃ v, biD kin f xs = some v ∧ P v) X) : Tr c (evE kin C (.bi f r) ρ) P X := by
  unfold evE
  have : Tr (c + 0) (do M.op (biD kin f (← evEs kin C r ρ))) P X := Tr.bind h1 fun xs ⟨v, e, hv⟩ => Tr.op e hv
  exact this
theorem tr_bi1 {f : Bi} {Pa : D → Prop} (h1 : Tr c (evE kin C a ρ) Pa X) (h : ∀ x, Pa x → ∃ v, biD kin f [x] = some v ∧ P v) : Tr c (evE kin C (.bi f (.cons a .nil)) ρ) P X := by
  have : Tr (c + 0) (evE kin C (.bi f (.cons a .nil)) ρ) P X := tr_bi (tr_es h1 fun x hx => tr_es0 (h x hx))
  exact this
theorem tr_ife {t : Q} {p : Bool} (h : evT kin C t ρ = pure p) (h1 : p = true → Tr c (evE kin C a ρ) P X) (h2 : p = false → Tr c (evE kin C b ρ) P X) : Tr c (evE kin C (.ife t a b) ρ) P X := by
  unfold evE
  rw [h]
  cases p with
  | true => exact h1 rfl
  | false => exact h2 rfl
/-- a number is drawn -/
theorem tr_next {i : Nat} {e : E} {n : Nat} (hC : C "_law_next" = orcNext) (h0 : ρ[i]? = some (.val .drw)) (h1 : evE kin C e ρ = pure (.int n)) (hn : 0 < n) (hn2 : n < 1073741824) : Tr 1 (evE kin C (.app "_law_next" (.cons (.v i) (.cons e .nil))) ρ) (fun d => ∃ j : Nat, j < n ∧ d = .int j) X := by
  have : Tr (0 + 1) (evE kin C (.app "_law_next" (.cons (.v i) (.cons e .nil))) ρ) (fun d => ∃ j : Nat, j < n ∧ d = .int j) X := by
    refine tr_app (Ps := fun xs => xs = [.drw, .int n]) (Tr.of (ev_es (ev_v h0) (ev_es h1 ev_es0)) rfl) fun xs hx => ?_
    subst hx
    rw [hC]
    refine (Tr.drawn (by omega) (by omega)).imp ?_
    rintro d ⟨j, hj, rfl⟩
    exact ⟨j, by omega, rfl⟩
  exact this
/-! ### statements -/
variable {e : E} {rest : Ss} {Po : Out → Prop}
theorem tr_asg {p : List Nat} {Pa : D → Prop} (h1 : Tr c (evE kin C e ρ) Pa noX) (h2 : ∀ x, Pa x → ∃ ρ1, asgP p x ρ = some ρ1 ∧ Tr d (evSs kin C rest ρ1) Po noX) : Tr (c + d) (evSs kin C (.cons (.asg p e) rest) ρ) Po noX := by
  refine cons_tr ?_
  rw [evS_asg]
  have : Tr (c + 0) (exO (evE kin C e ρ) ρ fun d => do
      let ρ' ← M.op (asgP p d ρ)
      pure (.nx ρ')) (thenP kin C d rest Po) noX := by
    refine exO_tr h1 (fun x hx => ?_) fun _ h => h.elim
    obtain ⟨ρ1, e1, t⟩ := h2 x hx
    rw [e1]
    exact Tr.pure t
  exact this
theorem tr_ret (h1 : Tr c (evE kin C e ρ) (fun d => Po (.ret d)) noX) : Tr c (evSs kin C (.cons (.ret e) rest) ρ) Po noX := by
  have : Tr (c + 0) (evSs kin C (.cons (.ret e) rest) ρ) Po noX := by
    refine cons_tr ?_
    unfold evS
    have : Tr (c + 0) (exO (evE kin C e ρ) ρ fun d => pure (.ret d)) (thenP kin C 0 rest Po) noX := exO_tr h1 (fun x hx => Tr.pure hx) fun _ h => h.elim
    exact this
  exact this
theorem tr_iff {q : Q} {x y : Ss} {Pb : Bool → Prop} (h1 : Tr c (evT kin C q ρ) Pb noX) (h2 : Pb true → Tr d (evSs kin C x ρ >>= goOn kin C rest) Po noX) (h3 : Pb false → Tr d (evSs kin C y ρ >>= goOn kin C rest) Po noX) : Tr (c + d) (evSs kin C (.cons (.iff q x y) rest) ρ) Po noX := by
  rw [evSs_cons]
  unfold evS exO
  rw [bind_assoc]
  refine Tr.bind (att_tr h1 (P2 := fun e => match e with | .ok a => Pb a | .error _ => False) (fun _ h => h) fun _ h => h.elim) fun o ho => ?_
  cases o with
  | error x => exact ho.elim
  | ok p =>
    cases p with
    | true => exact h2 ho
    | false => exact h3 ho
theorem tr_iffE {q : Q} {x y : Ss} {p : Bool} (h1 : evT kin C q ρ = pure p) (h2 : p = true → Tr d (evSs kin C x ρ >>= goOn kin C rest) Po noX) (h3 : p = false → Tr d (evSs kin C y ρ >>= goOn kin C rest) Po noX) : Tr d (evSs kin C (.cons (.iff q x y) rest) ρ) Po noX := by
  rw [iff_pure h1]
  cases p with
  | true => exact h2 rfl
  | false => exact h3 rfl
theorem tr_frl {p : List Nat} {it : I} {b : Ss} {xs : List D} {m : Nat} (I : Nat → Fe → Prop) (h : evI kin C it ρ = pure xs) (hm : xs.length ≤ m) (hs : ∀ i x ρ, xs[i]? = some x → I i ρ → ∃ ρ1, asgP p x ρ = some ρ1 ∧ Tr c (evSs kin C b ρ1) (turnP (I (i + 1)) (thenP kin C d rest Po)) noX)
    (h0 : I 0 ρ) (he : ∀ ρ, I xs.length ρ → Tr d (evSs kin C rest ρ) Po noX) : Tr (m * c + d) (evSs kin C (.cons (.frl p it b) rest) ρ) Po noX := by
  refine cons_tr ?_
  unfold evS
  rw [h]
  refine Tr.le (c := xs.length * c) ?_ (Nat.mul_le_mul_right c hm)
  refine forM_tr (I := I) (i := 0) (fun j x ρ hx hI => ?_) h0 fun ρ hI => he ρ (by rw [Nat.zero_add] at hI; exact hI)
  rw [Nat.zero_add] at hI ⊢
  obtain ⟨ρ1, e1, t⟩ := hs j x ρ hx hI
  show Tr c (M.op (asgP p x ρ) >>= fun ρ1 => evSs kin C b ρ1) _ _
  rw [e1]
  exact t
theorem tr_nil (h : Po (.nx ρ)) : Tr c (evSs kin C .nil ρ) Po noX := nil_tr h
end

/-! ### texts by their signs -/
def mkS (l : List Nat) : Str := ⟨l.toArray⟩
theorem mkS_cps (z : Str) : z = mkS z.cps.toList := by cases z; rfl
theorem mkS_len (l : List Nat) : (mkS l).length = l.length := List.size_toArray
theorem mkS_list (l : List Nat) : (mkS l).cps.toList = l := rfl
theorem mkS_app (l m : List Nat) : mkS l ++ mkS m = mkS (l ++ m) := by
  show (⟨l.toArray ++ m.toArray⟩ : Str) = ⟨(l ++ m).toArray⟩
  congr 1
  simp
theorem mkS_inj {l m : List Nat} : mkS l = mkS m ↔ l = m := by
  constructor
  · intro h
    have := congrArg (fun z : Str => z.cps.toList) h
    exact this
  · intro h; rw [h]
theorem cut_from {l : List Nat} {k : Nat} (h : k ≤ l.length) : cutS (mkS l) (some (k : Int)) none = mkS (l.drop k) := by
  unfold cutS
  have e : HT.sIx (mkS l).length 0 (some (k : Int)) = k := by rw [HT.sIx_nat, mkS_len]; omega
  have e2 : HT.sIx (mkS l).length (mkS l).length none = l.length := by rw [HT.sIx_none, mkS_len]
  rw [e, e2, mkS_list]
  show mkS _ = mkS _
  congr 1
  apply List.take_of_length_le
  simp
theorem cut_to {l : List Nat} {k : Nat} (h : k ≤ l.length) : cutS (mkS l) none (some (k : Int)) = mkS (l.take k) := by
  unfold cutS
  have e : HT.sIx (mkS l).length (mkS l).length (some (k : Int)) = k := by rw [HT.sIx_nat, mkS_len]; omega
  have e2 : HT.sIx (mkS l).length 0 none = 0 := rfl
  rw [e, e2, mkS_list]
  rfl
theorem mul_sign (c k : Nat) : mulStr (mkS [c]) k = mkS (List.replicate k c) := by
  unfold mulStr
  show mkS _ = mkS _
  congr 1
  induction k with
  | zero => rfl
  | succ k ih => rw [List.replicate_succ, List.flatten_cons, ih, List.replicate_succ]; rfl
theorem sl_from {l : List Nat} {k : Nat} (hl : l.length ≤ 100000) (h : k ≤ l.length) : slD (.str (mkS l)) (.int (k : Int)) .non = some (.str (mkS (l.drop k))) := by
  show (if (mkS l).length ≤ sizeLine then some (D.str (cutS (mkS l) (some (k : Int)) none)) else none) = _
  rw [if_pos (by rw [mkS_len]; exact sz hl), cut_from h]
theorem sl_to {l : List Nat} {k : Nat} (hl : l.length ≤ 100000) (h : k ≤ l.length) : slD (.str (mkS l)) .non (.int (k : Int)) = some (.str (mkS (l.take k))) := by
  show (if (mkS l).length ≤ sizeLine then some (D.str (cutS (mkS l) none (some (k : Int)))) else none) = _
  rw [if_pos (by rw [mkS_len]; exact sz hl), cut_to h]
theorem add_mk {l m : List Nat} (h : l.length + m.length ≤ 100000) : binD .Add (.str (mkS l)) (.str (mkS m)) = some (.str (mkS (l ++ m))) := by
  rw [add_str (by rw [mkS_len, mkS_len]; exact sz h), mkS_app]
def letS : Str := "abcdefghijklmnopqrstuvwxyz"
theorem let_at {j : Nat} (h : j < 26) : subD (.str letS) (.int (j : Int)) = some (.str (mkS [97 + j])) := by
  have hat : ∀ j, j < 26 → letS.cps.toList[j]? = some (97 + j) := by decide +kernel
  show (if letS.length ≤ sizeLine then (atI letS.cps.toList (j : Int)).map fun c => D.str ⟨#[c]⟩ else none) = _
  rw [if_pos (sz (by decide +kernel))]
  have e : atI letS.cps.toList (j : Int) = some (97 + j) := by
    unfold atI
    have hl : letS.cps.toList.length = 26 := by decide +kernel
    have : ixN letS.cps.toList.length (j : Int) = some j := by
      unfold ixN
      rw [if_pos (by omega), if_pos (by rw [hl]; omega)]
      simp
    rw [this]
    exact hat j h
  rw [e]; rfl
/-- letters -/
def Lets (l : List Nat) : Prop := ∀ c ∈ l, 97 ≤ c ∧ c < 123
theorem let_mem {c : Nat} (h0 : 97 ≤ c) (h1 : c < 123) : c ∈ letters := by
  have : ∀ c, c < 123 → 97 ≤ c → c ∈ letters := by decide +kernel
  exact this c h1 h0
theorem isW_mk {l : List Nat} (h : Lets l) (h0 : 1 ≤ l.length) (h1 : l.length ≤ 8) : isW (mkS l) = true := by
  unfold isW
  rw [mkS_len, Bool.and_eq_true]
  refine ⟨decide_eq_true ⟨h0, h1⟩, List.all_eq_true.mpr fun c hc => ?_⟩
  have := h c hc
  exact decide_eq_true (let_mem this.1 this.2)
end RM
end
section
set_option Elab.async false
set_option linter.all false
set_option maxRecDepth 100000
set_option autoImplicit false
/-! values: drawn names and roads -/
namespace RM
open PySem PySem.Spec PyProof.Rows L2

section
variable {kin : Kin} {C : Orc} {ρ : Fe} {c d e : Nat} {rest : Ss} {Po : Out → Prop} {X : D → Prop}
theorem tr_frlD {p : List Nat} {it : I} {b : Ss} {m : Nat} {Px : List D → Prop} (I : List D → Nat → Fe → Prop) (h : Tr e (evI kin C it ρ) Px noX) (hm : ∀ xs, Px xs → xs.length ≤ m)
    (hs : ∀ xs, Px xs → ∀ i x ρ, xs[i]? = some x → I xs i ρ → ∃ ρ1, asgP p x ρ = some ρ1 ∧ Tr c (evSs kin C b ρ1) (turnP (I xs (i + 1)) (thenP kin C d rest Po)) noX)
    (h0 : ∀ xs, Px xs → I xs 0 ρ) (he : ∀ xs, Px xs → ∀ ρ, I xs xs.length ρ → Tr d (evSs kin C rest ρ) Po noX) : Tr (e + m * c + d) (evSs kin C (.cons (.frl p it b) rest) ρ) Po noX := by
  refine cons_tr ?_
  unfold evS
  refine exO_tr h (fun xs hx => ?_) fun _ h => h.elim
  refine Tr.le (c := xs.length * c) ?_ (Nat.mul_le_mul_right c (hm xs hx))
  refine forM_tr (I := I xs) (i := 0) (fun j x ρ hx' hI => ?_) (h0 xs hx) fun ρ hI => he xs hx ρ (by rw [Nat.zero_add] at hI; exact hI)
  rw [Nat.zero_add] at hI ⊢
  obtain ⟨ρ1, e1, t⟩ := hs xs hx j x ρ hx' hI
  show Tr c (M.op (asgP p x ρ) >>= fun ρ1 => evSs kin C b ρ1) _ _
  rw [e1]
  exact t
theorem rng_nat (n : Nat) : rngD 0 n = (List.range n).map fun (i : Nat) => D.int (i : Int) := by
  unfold rngD
  apply List.map_congr_left
  intro i _
  congr 1
  omega
theorem rng_at {n i : Nat} {x : D} (h : (rngD 0 n)[i]? = some x) : i < n ∧ x = .int (i : Int) := by
  have hik : i < n := by
    have := (List.getElem?_eq_some_iff.mp h).1
    rwa [rngD_length] at this
  rw [rng_nat, List.getElem?_map, List.getElem?_range hik] at h
  exact ⟨hik, (Option.some.inj h).symm⟩
/-- a range by a drawn number -/
theorem tr_rngD {e' : E} {n : Nat} (h : Tr e (evE kin C e' ρ) (fun d => ∃ j : Nat, j < n ∧ d = .int j) X) (hn : n ≤ 100000) : Tr e (evI kin C (.rng1 e') ρ) (fun xs => ∃ j, j < n ∧ xs = rngD 0 j) X := by
  have hz := sizeLine_eq
  unfold evI
  have : Tr (e + 0) (do
      match ← evE kin C e' ρ with
      | .int j => if -(2 ^ 62) ≤ j ∧ j ≤ sizeLine then pure (rngD 0 j.toNat) else M.fail
      | _ => M.fail) (fun xs => ∃ j, j < n ∧ xs = rngD 0 j) X := by
    refine Tr.bind h fun d ⟨j, hj, ed⟩ => ?_
    subst ed
    dsimp only
    rw [if_pos ⟨by omega, by omega⟩]
    exact Tr.pure ⟨j, hj, rfl⟩
  exact this
end
theorem mod26 (f b k k' : Nat) (hk : k < 8) (hk' : k' < 8) (hb : b = 1 ∨ b = 3 ∨ b = 5) (h : (f + b * k) % 26 = (f + b * k') % 26) : k = k' := by
  rcases hb with rfl | rfl | rfl <;> omega
section
variable {kin : Kin} {C : Orc} {X : D → Prop}
/-- distinct words -/
def NamesOk (many : Nat) (d : D) : Prop := ∃ ws : List Str, d = .lst (ws.map .str) ∧ ws.length = many ∧ ws.Nodup ∧ ∀ w ∈ ws, isW w = true
theorem nodup_map {f : Nat → Str} {n : Nat} (h : ∀ i j, i < n → j < n → f i = f j → i = j) : ((List.range n).map f).Nodup := by
  rw [List.Nodup, List.pairwise_map]
  refine List.Pairwise.imp_of_mem ?_ (List.nodup_range (n := n))
  intro a b ha hb hab e
  exact hab (h a b (List.mem_range.mp ha) (List.mem_range.mp hb) e)
theorem lets_take {l : List Nat} (h : Lets l) (k : Nat) : Lets (l.take k) := fun c hc => h c (List.mem_of_mem_take hc)
theorem lets_drop {l : List Nat} (h : Lets l) (k : Nat) : Lets (l.drop k) := fun c hc => h c (List.mem_of_mem_drop hc)
theorem lets_app {l m : List Nat} (h : Lets l) (h' : Lets m) : Lets (l ++ m) := fun c hc => (List.mem_append.mp hc).elim (h c) (h' c)
theorem names_tr (hC : C "_law_next" = orcNext) {many : Nat} (h1 : 1 ≤ many) (h8 : many ≤ 8) : Tr 12 (runF kin C 7 c__law_names [.drw, .int many]) (NamesOk many) X := by
  have hz := sizeLine_eq
  refine run_tr ?_
  show Tr 12 (evSs kin C c__law_names [.val .drw, .val (.int many), .emp, .emp, .emp, .emp, .emp, .emp, .emp]) _ noX
  unfold c__law_names
  refine Tr.le (c := 0 + (1 + 7 * 1 + 3)) (tr_asg (Pa := fun x => x = .tup [.str letS, .str (mkS [])]) (Tr.of (ev_tup (ev_es ev_c (ev_es ev_c ev_es0)) (sz (by simp))) (by rfl)) fun x hx => ?_) (by decide)
  subst hx
  refine ⟨[.val .drw, .val (.int many), .val (.str letS), .val (.str (mkS [])), .emp, .emp, .emp, .emp, .emp], rfl, ?_⟩
  refine tr_frlD (Px := fun xs => ∃ j, j < 8 ∧ xs = rngD 0 j) (fun xs i ρ => ∃ l : List Nat, l.length = i ∧ Lets l ∧ ∃ s4, ρ = [.val .drw, .val (.int many), .val (.str letS), .val (.str (mkS l)), s4, .emp, .emp, .emp, .emp])
    (tr_rngD (tr_next (n := 8) hC rfl ev_c (by decide) (by decide)) (by decide)) (fun xs ⟨j, hj, e⟩ => by subst e; rw [rngD_length]; omega) ?_ (fun xs _ => ⟨[], rfl, (fun _ h => nomatch h), .emp, rfl⟩) ?_
  · rintro xs ⟨j, hj, rfl⟩ i x ρ hx ⟨l, hl, hlt, s4, rfl⟩
    obtain ⟨hij, rfl⟩ := rng_at hx
    refine ⟨[.val .drw, .val (.int many), .val (.str letS), .val (.str (mkS l)), .val (.int i), .emp, .emp, .emp, .emp], rfl, ?_⟩
    refine Tr.le (c := (0 + (0 + 1)) + 0) (tr_asg (Pa := fun d => ∃ c, 97 ≤ c ∧ c < 123 ∧ d = .str (mkS (l ++ [c]))) (tr_bin (Pa := fun d => d = .str (mkS l)) (Tr.of (ev_b rfl) rfl) fun d hd => ?_) fun d hd => ?_) (by decide)
    · subst hd
      refine (tr_sub (P := fun y => ∃ c, 97 ≤ c ∧ c < 123 ∧ y = .str (mkS [c])) (Pa := fun d => d = .str letS) (Tr.of (ev_b rfl) rfl) fun d hd => ?_).imp ?_
      · subst hd
        refine (tr_next (n := 26) hC rfl ev_c (by decide) (by decide)).imp ?_
        rintro y ⟨q, hq, rfl⟩
        exact ⟨_, let_at hq, 97 + q, by omega, by omega, rfl⟩
      · rintro y ⟨c, c0, c1, rfl⟩
        exact ⟨_, add_mk (by simp; omega), c, c0, c1, rfl⟩
    · obtain ⟨c, c0, c1, rfl⟩ := hd
      refine ⟨_, rfl, tr_nil ?_⟩
      refine ⟨l ++ [c], by simp [hl], lets_app hlt (fun y hy => ?_), .val (.int i), rfl⟩
      have : y = c := by simpa using hy
      subst this
      exact ⟨c0, c1⟩
  · rintro xs ⟨j, hj, rfl⟩ ρ ⟨l, hl, hlt, s4, rfl⟩
    rw [rngD_length] at hl
    have l7 : l.length ≤ 7 := by omega
    refine Tr.le (c := (1 + (1 + ((0 + 1) + 0))) + 0) (tr_asg (Pa := fun d => ∃ at_ first by_ : Nat, at_ ≤ l.length ∧ first < 26 ∧ by_ ∈ [1, 3, 5, 7, 9, 11] ∧ d = .tup [.int at_, .int first, .int by_]) (tr_tup (tr_es (tr_next (n := l.length + 1) hC rfl ?_ (by omega) (by omega)) fun x hx => ?_)) fun x hx => ?_) (by decide)
    · have hlen : evE kin C (.bi .len (.cons (.b 3) .nil)) [.val .drw, .val (.int many), .val (.str letS), .val (.str (mkS l)), s4, .emp, .emp, .emp, .emp] = pure (.int (l.length : Int)) := by
        have := ev_bi1 (kin := kin) (C := C) (ρ := [.val .drw, .val (.int many), .val (.str letS), .val (.str (mkS l)), s4, .emp, .emp, .emp, .emp]) (a := .b 3) (f := .len) (ev_b rfl) (len_str (z := mkS l) (by rw [mkS_len]; exact sz (by omega)))
        rw [mkS_len] at this
        exact this
      exact ev_bin hlen ev_c (add_int _ _)
    · obtain ⟨at_, ha, rfl⟩ := hx
      refine tr_es (tr_next (n := 26) hC rfl ev_c (by decide) (by decide)) fun x hx => ?_
      obtain ⟨first, hf, rfl⟩ := hx
      refine tr_es (Pa := fun d => ∃ b : Nat, b ∈ [1, 3, 5, 7, 9, 11] ∧ d = .int b) (tr_sub (Pa := fun d => d = .lst [.int 1, .int 3, .int 5, .int 7, .int 9, .int 11]) (Tr.of (ev_lst (ev_es ev_c (ev_es ev_c (ev_es ev_c (ev_es ev_c (ev_es ev_c (ev_es ev_c ev_es0)))))) (sz (by simp))) rfl) fun d hd => ?_) fun y hy => ?_
      · subst hd
        refine (tr_next (n := 6) hC rfl ev_c (by decide) (by decide)).imp ?_
        rintro y ⟨q, hq, rfl⟩
        match q, hq with
        | 0, _ => exact ⟨.int 1, rfl, 1, by simp, rfl⟩
        | 1, _ => exact ⟨.int 3, rfl, 3, by simp, rfl⟩
        | 2, _ => exact ⟨.int 5, rfl, 5, by simp, rfl⟩
        | 3, _ => exact ⟨.int 7, rfl, 7, by simp, rfl⟩
        | 4, _ => exact ⟨.int 9, rfl, 9, by simp, rfl⟩
        | 5, _ => exact ⟨.int 11, rfl, 11, by simp, rfl⟩
        | q + 6, h => omega
      · obtain ⟨b, hb, rfl⟩ := hy
        exact tr_es0 ⟨sz (by simp), at_, first, b, by omega, hf, hb, rfl⟩
    · obtain ⟨at_, first, by_, ha, hf, hb, rfl⟩ := hx
      refine ⟨[.val .drw, .val (.int many), .val (.str letS), .val (.str (mkS l)), s4, .val (.int at_), .val (.int first), .val (.int by_), .emp], rfl, ?_⟩
      let wd : List Nat := (l ++ List.replicate 8 (97 + first)).take 8
      have hwl : wd.length = 8 := by simp [wd]
      have hwt : Lets wd := lets_take (lets_app hlt fun c hc => by
        have := List.eq_of_mem_replicate hc
        omega) 8
      have word : evE kin C (.sl (.bin .Add (.b 3) (.bin .Mult (.sub (.b 2) (.b 6)) (.c (.int 8)))) (.c .non) (.bnd (.c (.int 8)))) [.val .drw, .val (.int many), .val (.str letS), .val (.str (mkS l)), s4, .val (.int at_), .val (.int first), .val (.int by_), .emp] = pure (.str (mkS wd)) := by
        refine ev_sl (ev_bin (ev_b rfl) (ev_bin (ev_sub (ev_b rfl) (ev_b rfl) (let_at hf)) ev_c ?_) (add_mk (m := List.replicate 8 (97 + first)) (by simp; omega))) ev_c (ev_bnd ev_c) (sl_to (k := 8) (by simp; omega) (by simp))
        show (if 0 ≤ (8 : Int) ∧ (8 : Int) ≤ 1000 ∧ (mkS [97 + first]).length ≤ 1000 then some (D.str (mulStr (mkS [97 + first]) (8 : Int).toNat)) else none) = _
        rw [if_pos ⟨by decide, by decide, by rw [mkS_len]; simp⟩]
        show some (D.str (mulStr (mkS [97 + first]) 8)) = _
        rw [mul_sign]
      refine Tr.le (c := 0 + 0) (tr_asg (Pa := fun d => d = .str (mkS wd)) (Tr.of word rfl) fun d hd => ?_) (by decide)
      subst hd
      refine ⟨[.val .drw, .val (.int many), .val (.str letS), .val (.str (mkS l)), s4, .val (.int at_), .val (.int first), .val (.int by_), .val (.str (mkS wd))], rfl, ?_⟩
      have range : ∀ s4, evI kin C (.rng1 (.b 1)) [.val .drw, .val (.int many), .val (.str letS), .val (.str (mkS l)), s4, .val (.int at_), .val (.int first), .val (.int by_), .val (.str (mkS wd))] = pure ((List.range many).map fun (i : Nat) => D.int (i : Int)) := fun s4 => by
        rw [← rng_nat]
        exact evI_rng1 (j := (many : Int)) (ev_b rfl) (by omega) (by omega)
      refine tr_iffE (p := decide (5 < by_)) ((evQ_and (q := true) (evQ_bl (ev_cmp (ev_b rfl) ev_c (gt_int _ _))) fun _ => ?_).trans ?_) (fun hq => ?_) fun hq => ?_
      · refine (evQ_bl (ev_cmp (ev_b rfl) ev_c (lt_int _ _))).trans ?_
        rw [decide_eq_true (show (many : Int) < 9 by omega)]
      · rw [Bool.and_true]
        congr 1
        apply decide_eq_decide.mpr
        omega
      · have hq := of_decide_eq_true hq
        -- words cut off
        have lc : evE kin C (.lc [4] [4] (.rng1 (.b 1)) .yes (.ife (.val (.cmp .Gt (.b 7) (.c (.int 7)))) (.sl (.b 8) (.bnd (.b 4)) (.c .non)) (.sl (.b 8) (.c .non) (.bnd (.bin .Sub (.bin .Add (.b 4) (.c (.int 9))) (.b 1))))))
            [.val .drw, .val (.int many), .val (.str letS), .val (.str (mkS l)), s4, .val (.int at_), .val (.int first), .val (.int by_), .val (.str (mkS wd))] = pure (.lst ((List.range many).map fun i => D.str (mkS (if 7 < by_ then wd.drop i else wd.take (i + 9 - many))))) := by
          refine (lc_map (ls := List.range many) (fun i => some (D.str (mkS (if 7 < by_ then wd.drop i else wd.take (i + 9 - many))))) (range s4) (by rw [List.length_range]; exact sz (by omega)) fun i hi => ?_).trans (by rw [fm_some])
          have hi := List.mem_range.mp hi
          refine lcF_yes (ρ1 := [.val .drw, .val (.int many), .val (.str letS), .val (.str (mkS l)), .val (.int i), .val (.int at_), .val (.int first), .val (.int by_), .val (.str (mkS wd))]) rfl (ev_ife (p := decide ((7 : Int) < by_)) (evQ_bl (ev_cmp (ev_b rfl) ev_c (gt_int _ _))) (fun h => ?_) fun h => ?_)
          · have h := of_decide_eq_true h
            rw [if_pos (by omega)]
            exact ev_sl (ev_b rfl) (ev_bnd (ev_b rfl)) ev_c (sl_from (by omega) (by omega))
          · have h := of_decide_eq_false h
            rw [if_neg (by omega)]
            have e9 : evE kin C (.bin .Sub (.bin .Add (.b 4) (.c (.int 9))) (.b 1)) [.val .drw, .val (.int many), .val (.str letS), .val (.str (mkS l)), .val (.int i), .val (.int at_), .val (.int first), .val (.int by_), .val (.str (mkS wd))] = pure (.int ((i + 9 - many : Nat) : Int)) := by
              refine (ev_bin (ev_bin (ev_b rfl) ev_c (add_int _ _)) (ev_b rfl) (sub_int _ _)).trans ?_
              congr 2
              omega
            exact ev_sl (ev_b rfl) ev_c (ev_bnd e9) (sl_to (by omega) (by omega))
        refine Tr.of ((congrArg (· >>= goOn kin C _) (ret_pure lc)).trans goOn_ret) ⟨(List.range many).map fun i => mkS (if 7 < by_ then wd.drop i else wd.take (i + 9 - many)), by rw [List.map_map]; rfl, by simp, nodup_map fun i j hi hj hij => ?_, fun w hw => ?_⟩
        · have := mkS_inj.mp hij
          have := congrArg List.length this
          split at this
          · simp only [List.length_drop, hwl] at this; omega
          · simp only [List.length_take, hwl] at this; omega
        · obtain ⟨i, hi, rfl⟩ := List.mem_map.mp hw
          have hi := List.mem_range.mp hi
          split
          · exact isW_mk (lets_drop hwt i) (by simp only [List.length_drop, hwl]; omega) (by simp only [List.length_drop, hwl]; omega)
          · exact isW_mk (lets_take hwt _) (by simp only [List.length_take, hwl]; omega) (by simp only [List.length_take, hwl]; omega)
      · have hq := of_decide_eq_false hq
        have hb3 : by_ = 1 ∨ by_ = 3 ∨ by_ = 5 := by
          simp only [List.mem_cons, List.not_mem_nil, or_false] at hb
          omega
        have lc : evE kin C (.lc [4] [4] (.rng1 (.b 1)) .yes (.bin .Add (.bin .Add (.sl (.b 3) (.c .non) (.bnd (.b 5))) (.sub (.b 2) (.bin .Mod (.bi .int1 (.cons (.bin .Add (.b 6) (.bin .Mult (.b 7) (.b 4))) .nil)) (.c (.int 26))))) (.sl (.b 3) (.bnd (.b 5)) (.c .non))))
            [.val .drw, .val (.int many), .val (.str letS), .val (.str (mkS l)), s4, .val (.int at_), .val (.int first), .val (.int by_), .val (.str (mkS wd))] = pure (.lst ((List.range many).map fun i => D.str (mkS (l.take at_ ++ [97 + (first + by_ * i) % 26] ++ l.drop at_)))) := by
          refine (lc_map (ls := List.range many) (fun i => some (D.str (mkS (l.take at_ ++ [97 + (first + by_ * i) % 26] ++ l.drop at_)))) (range s4) (by rw [List.length_range]; exact sz (by omega)) fun i hi => ?_).trans (by rw [fm_some])
          have hi := List.mem_range.mp hi
          have em : evE kin C (.bin .Mod (.bi .int1 (.cons (.bin .Add (.b 6) (.bin .Mult (.b 7) (.b 4))) .nil)) (.c (.int 26))) [.val .drw, .val (.int many), .val (.str letS), .val (.str (mkS l)), .val (.int i), .val (.int at_), .val (.int first), .val (.int by_), .val (.str (mkS wd))] = pure (.int (((first + by_ * i) % 26 : Nat) : Int)) := by
            refine (ev_bin (ev_bi1 (ev_bin (ev_b rfl) (ev_bin (ev_b rfl) (ev_b rfl) (bMulR (by omega) (by omega))) (add_int _ _)) bI1) ev_c (bMd (by decide))).trans ?_
            congr 2
          refine lcF_yes (ρ1 := [.val .drw, .val (.int many), .val (.str letS), .val (.str (mkS l)), .val (.int i), .val (.int at_), .val (.int first), .val (.int by_), .val (.str (mkS wd))]) rfl ?_
          refine ev_bin (ev_bin (ev_sl (ev_b rfl) ev_c (ev_bnd (ev_b rfl)) (sl_to (by omega) ha)) (ev_sub (ev_b rfl) em (let_at (Nat.mod_lt _ (by decide)))) (add_mk (by simp; omega))) (ev_sl (ev_b rfl) (ev_bnd (ev_b rfl)) ev_c (sl_from (by omega) ha)) (add_mk (by simp; omega))
        rw [evSs_nil, goOn_nx]
        refine Tr.of (ret_pure lc) ⟨(List.range many).map fun i => mkS (l.take at_ ++ [97 + (first + by_ * i) % 26] ++ l.drop at_), by rw [List.map_map]; rfl, by simp, nodup_map fun i j hi hj hij => ?_, fun w hw => ?_⟩
        · have := mkS_inj.mp hij
          have := List.append_cancel_right this
          have := List.append_cancel_left this
          have : 97 + (first + by_ * i) % 26 = 97 + (first + by_ * j) % 26 := by simpa using this
          exact mod26 first by_ i j (by omega) (by omega) hb3 (by omega)
        · obtain ⟨i, hi, rfl⟩ := List.mem_map.mp hw
          refine isW_mk (lets_app (lets_app (lets_take hlt _) fun c hc => ?_) (lets_drop hlt _)) (by simp; omega) (by simp; omega)
          have : c = 97 + (first + by_ * i) % 26 := by simpa using hc
          have := Nat.mod_lt (first + by_ * i) (show 0 < 26 by decide)
          omega
end
end RM
end
section
set_option Elab.async false
set_option linter.all false
set_option maxRecDepth 100000
set_option autoImplicit false
/-! values: what may be shown; odd things, bent things -/
namespace RM
open PySem PySem.Spec PyProof.Rows L2

/-! ### how long data are shown -/
mutual
def D.wt : D → Nat
  | .str z => z.length + 1
  | .tup xs => D.wts xs + 1
  | .lst xs => D.wts xs + 1
  | _ => 1
def D.wts : List D → Nat
  | [] => 0
  | x :: xs => x.wt + D.wts xs
end
/-- a letter, a figure, a blank -/
def okCh (c : Nat) : Bool := c == 32 || (decide (48 ≤ c) && decide (c ≤ 57)) || (decide (65 ≤ c) && decide (c ≤ 90)) || (decide (97 ≤ c) && decide (c ≤ 122))
theorem okCh_lt {c : Nat} (h : okCh c = true) : c < 123 := by
  unfold okCh at h
  simp only [Bool.or_eq_true, beq_iff_eq, Bool.and_eq_true, decide_eq_true_eq] at h
  omega
mutual
/-- ints below B, texts of letters, figures and blanks, {} alone as a dict -/
def D.fine (B : Nat) : D → Bool
  | .non => true
  | .bl _ => true
  | .int i => decide (i.natAbs < B)
  | .str z => z.cps.toList.all okCh
  | .tup xs => D.fines B xs
  | .lst xs => D.fines B xs
  | .dct kvs => kvs.isEmpty
  | _ => false
def D.fines (B : Nat) : List D → Bool
  | [] => true
  | x :: xs => x.fine B && D.fines B xs
end
theorem textFrom_le : ∀ (ts : List Str) (k : Nat) (acc : Str), (PySem.textFrom k acc ts).length ≤ acc.length + PySem.piled ts
  | [], k, acc => by show acc.length ≤ _; omega
  | t :: r, k, acc => by
    have ih := textFrom_le r (k + 1) (acc ++ (if k > 0 then ", " else "" : String) ++ t)
    have e : (acc ++ (if k > 0 then ", " else "" : String) ++ t).length = acc.length + (if k > 0 then 2 else 0) + t.length := by
      rw [PySem.Str.length_append, PySem.Str.length_append]
      split <;> rfl
    rw [e] at ih
    show (PySem.textFrom (k + 1) _ r).length ≤ _
    rw [PySem.piled_cons]
    have d1 : (if k > 0 then 2 else 0 : Nat) ≤ 2 := by split <;> omega
    omega
theorem tupleText_le (ts : List Str) : (PySem.tupleText ts).length ≤ PySem.piled ts + 4 := by
  unfold PySem.tupleText
  rw [PySem.Str.length_append, PySem.Str.length_append]
  have e3 : (((if ts.length == 1 then ",)" else ")" : String) : Str)).length ≤ 2 := by split <;> decide
  have e1 : ((("(" : String) : Str)).length = 1 := rfl
  rw [e1]
  by_cases h : ts = []
  · subst h
    show 1 + 0 + _ ≤ _
    omega
  · have := PySem.join_length_add ts h
    omega
theorem listText_le (ts : List Str) : (PySem.listText ts).length ≤ PySem.piled ts + 4 := by
  unfold PySem.listText
  rw [PySem.Str.length_append]
  have := textFrom_le ts 0 "["
  have e1 : ((("[" : String) : Str)).length = 1 := rfl
  have e2 : ((("]" : String) : Str)).length = 1 := rfl
  omega
mutual
theorem shown_le : ∀ {d : D}, d.fine (10 ^ 40) = true → d.pd.shown.length + 4 ≤ 60 * d.wt
  | .non, _ => by decide
  | .bl b, _ => by cases b <;> decide
  | .int i, h => by
    have h : i.natAbs < 10 ^ 40 := by simpa [D.fine] using h
    have := int_text_length_le10 (k := 40) (by decide) h
    show (Str.ofString (toString i)).length + 4 ≤ 60 * 1
    rw [PySem.ofString_length]
    omega
  | .str z, h => by
    have h : ∀ c ∈ z.cps.toList, c < 16 ^ 8 := by
      intro c hc
      have := okCh_lt (List.all_eq_true.mp h c hc)
      omega
    have := StrLaws.reprText_len z h
    show (PySem.reprText z).length + 4 ≤ 60 * (z.length + 1)
    omega
  | .tup xs, h => by
    have h : D.fines (10 ^ 40) xs = true := h
    have := piled_shown h
    have := tupleText_le (PyData.shownAll (D.pds xs))
    show (PySem.tupleText (PyData.shownAll (D.pds xs))).length + 4 ≤ 60 * (D.wts xs + 1)
    omega
  | .lst xs, h => by
    have h : D.fines (10 ^ 40) xs = true := h
    have := piled_shown h
    have := listText_le (PyData.shownAll (D.pds xs))
    show (PySem.listText (PyData.shownAll (D.pds xs))).length + 4 ≤ 60 * (D.wts xs + 1)
    omega
  | .dct kvs, _ => by
    show (PyData.dict []).shown.length + 4 ≤ 60 * 1
    decide
theorem piled_shown : ∀ {xs : List D}, D.fines (10 ^ 40) xs = true → PySem.piled (PyData.shownAll (D.pds xs)) ≤ 60 * D.wts xs
  | [], _ => by decide
  | x :: xs, h => by
    have h : (x.fine (10 ^ 40) && D.fines (10 ^ 40) xs) = true := h
    obtain ⟨h1, h2⟩ := (Bool.and_eq_true _ _).mp h
    have q1 := shown_le h1
    have q2 := piled_shown h2
    show PySem.piled (x.pd.shown :: PyData.shownAll (D.pds xs)) ≤ 60 * (x.wt + D.wts xs)
    rw [PySem.piled_cons]
    omega
end
end RM
end
section
set_option Elab.async false
set_option linter.all false
set_option maxRecDepth 100000
set_option autoImplicit false
/-! values: things of bounded size -/
namespace RM
open PySem PySem.Spec PyProof.Rows L2

/-- a thing: ints below B, size w, depth e -/
structure Th (B w e : Nat) (d : D) : Prop where
  fine : d.fine B = true
  wt : d.wt ≤ w
  dep : d.pd.depth ≤ e
/-- things of a row -/
structure Ths (B w e : Nat) (xs : List D) : Prop where
  fine : D.fines B xs = true
  wt : D.wts xs ≤ w
  dep : PyData.depthAll (D.pds xs) ≤ e
section
variable {B B' w w' e e' : Nat} {d : D} {xs ys : List D}
mutual
theorem fine_le (h : B ≤ B') : ∀ {d : D}, d.fine B = true → d.fine B' = true
  | .non, _ => rfl
  | .bl _, _ => rfl
  | .int i, q => by
    have q : decide (i.natAbs < B) = true := q
    have q := of_decide_eq_true q
    exact decide_eq_true (by omega)
  | .str _, q => q
  | .tup xs, q => fines_le h (xs := xs) q
  | .lst xs, q => fines_le h (xs := xs) q
  | .dct _, q => q
theorem fines_le (h : B ≤ B') : ∀ {xs : List D}, D.fines B xs = true → D.fines B' xs = true
  | [], _ => rfl
  | x :: xs, q => by
    have q : (x.fine B && D.fines B xs) = true := q
    obtain ⟨q1, q2⟩ := (Bool.and_eq_true _ _).mp q
    show (x.fine B' && D.fines B' xs) = true
    rw [fine_le h q1, fines_le h q2]; rfl
end
theorem Th.mono (h : Th B w e d) (hB : B ≤ B') (hw : w ≤ w') (he : e ≤ e') : Th B' w' e' d := ⟨fine_le hB h.fine, by have := h.wt; omega, by have := h.dep; omega⟩
theorem Ths.mono (h : Ths B w e xs) (hB : B ≤ B') (hw : w ≤ w') (he : e ≤ e') : Ths B' w' e' xs := ⟨fines_le hB h.fine, by have := h.wt; omega, by have := h.dep; omega⟩
theorem Ths.nil : Ths B w e [] := ⟨rfl, Nat.zero_le _, by show 0 ≤ e; omega⟩
theorem Ths.cons (h : Th B w e d) (t : Ths B w' e xs) : Ths B (w + w') e (d :: xs) := by
  refine ⟨?_, ?_, ?_⟩
  · show (d.fine B && D.fines B xs) = true
    rw [h.fine, t.fine]; rfl
  · show d.wt + D.wts xs ≤ _
    have := h.wt; have := t.wt; omega
  · show max d.pd.depth (PyData.depthAll (D.pds xs)) ≤ e
    have := h.dep; have := t.dep; omega
theorem Ths.app (h : Ths B w e xs) (t : Ths B w' e ys) : Ths B (w + w') e (xs ++ ys) := by
  obtain ⟨h1, h2, h3⟩ := h
  induction xs generalizing w with
  | nil => exact t.mono (Nat.le_refl _) (by omega) (Nat.le_refl _)
  | cons x xs ih =>
    have h1 : (x.fine B && D.fines B xs) = true := h1
    obtain ⟨q1, q2⟩ := (Bool.and_eq_true _ _).mp h1
    have h2 : x.wt + D.wts xs ≤ w := h2
    have h3 : max x.pd.depth (PyData.depthAll (D.pds xs)) ≤ e := h3
    have := ih (w := D.wts xs) q2 (Nat.le_refl _) (by omega)
    exact (Ths.cons ⟨q1, Nat.le_refl _, by omega⟩ this).mono (Nat.le_refl _) (by omega) (Nat.le_refl _)
theorem Ths.head (h : Ths B w e (d :: xs)) : Th B d.wt e d ∧ Ths B (D.wts xs) e xs ∧ d.wt + D.wts xs ≤ w := by
  obtain ⟨h1, h2, h3⟩ := h
  have h1 : (d.fine B && D.fines B xs) = true := h1
  obtain ⟨q1, q2⟩ := (Bool.and_eq_true _ _).mp h1
  have h2 : d.wt + D.wts xs ≤ w := h2
  have h3 : max d.pd.depth (PyData.depthAll (D.pds xs)) ≤ e := h3
  exact ⟨⟨q1, Nat.le_refl _, by omega⟩, ⟨q2, Nat.le_refl _, by omega⟩, h2⟩
/-- split at a place: the sizes add up -/
theorem Ths.split : ∀ {w : Nat} {xs : List D} (k : Nat), Ths B w e xs → ∃ w1 w2, w1 + w2 ≤ w ∧ Ths B w1 e (xs.take k) ∧ Ths B w2 e (xs.drop k)
  | w, xs, 0, h => ⟨0, w, by omega, .nil, h⟩
  | w, [], k + 1, _ => ⟨0, 0, by omega, .nil, .nil⟩
  | w, x :: xs, k + 1, h => by
    obtain ⟨h1, h2, h3⟩ := h.head
    obtain ⟨w1, w2, q, q1, q2⟩ := Ths.split k h2
    exact ⟨x.wt + w1, w2, by omega, Ths.cons h1 q1, q2⟩
theorem Ths.mem (h : Ths B w e xs) {i : Nat} (hi : xs[i]? = some d) : Th B w e d := by
  obtain ⟨w1, w2, q, _, q2⟩ := h.split i
  have : xs.drop i = d :: xs.drop (i + 1) := by
    have hl := (List.getElem?_eq_some_iff.mp hi)
    obtain ⟨hl, e1⟩ := hl
    rw [List.drop_eq_getElem_cons hl, e1]
  rw [this] at q2
  obtain ⟨h1, _, h3⟩ := q2.head
  exact h1.mono (Nat.le_refl _) (by omega) (Nat.le_refl _)
theorem wt_pos : ∀ d : D, 1 ≤ d.wt
  | .non => by decide
  | .bl _ => by exact Nat.le_refl 1
  | .int _ => by exact Nat.le_refl 1
  | .str z => by show 1 ≤ z.length + 1; omega
  | .tup xs => by show 1 ≤ D.wts xs + 1; omega
  | .lst xs => by show 1 ≤ D.wts xs + 1; omega
  | .dct _ => by exact Nat.le_refl 1
  | .ins _ _ => by exact Nat.le_refl 1
  | .exc _ _ => by exact Nat.le_refl 1
  | .scr _ => by exact Nat.le_refl 1
  | .loc _ => by exact Nat.le_refl 1
  | .drw => by exact Nat.le_refl 1
theorem len_wts : ∀ xs : List D, xs.length ≤ D.wts xs
  | [] => Nat.le_refl _
  | x :: xs => by
    have := len_wts xs
    have := wt_pos x
    show xs.length + 1 ≤ x.wt + D.wts xs
    omega
theorem Ths.len (h : Ths B w e xs) : xs.length ≤ w := Nat.le_trans (len_wts xs) h.wt
theorem Th.tup (h : Ths B w e xs) : Th B (w + 1) (e + 1) (.tup xs) := ⟨h.fine, by show D.wts xs + 1 ≤ _; have := h.wt; omega, by have := h.dep; simp only [D.pd, PyData.depth]; omega⟩
theorem Th.lst (h : Ths B w e xs) : Th B (w + 1) (e + 1) (.lst xs) := ⟨h.fine, by show D.wts xs + 1 ≤ _; have := h.wt; omega, by have := h.dep; simp only [D.pd, PyData.depth]; omega⟩
theorem Th.items (h : Th B w e (.tup xs)) : 1 ≤ w ∧ 1 ≤ e ∧ Ths B (w - 1) (e - 1) xs := by
  have h2 : D.wts xs + 1 ≤ w := h.wt
  have h3 := h.dep
  simp only [D.pd, PyData.depth] at h3
  exact ⟨by omega, by omega, h.fine, by omega, by omega⟩
theorem Th.itemsL (h : Th B w e (.lst xs)) : 1 ≤ w ∧ 1 ≤ e ∧ Ths B (w - 1) (e - 1) xs := by
  have h2 : D.wts xs + 1 ≤ w := h.wt
  have h3 := h.dep
  simp only [D.pd, PyData.depth] at h3
  exact ⟨by omega, by omega, h.fine, by omega, by omega⟩
theorem Th.str {l : List Nat} (h : ∀ c ∈ l, okCh c = true) : Th B (l.length + 1) e (.str (mkS l)) := ⟨List.all_eq_true.mpr h, by show (mkS l).length + 1 ≤ _; rw [mkS_len]; exact Nat.le_refl _, Nat.zero_le _⟩
theorem Th.signs {l : List Nat} (h : Th B w e (.str (mkS l))) : l.length + 1 ≤ w ∧ ∀ c ∈ l, okCh c = true := by
  have h2 : (mkS l).length + 1 ≤ w := h.wt
  rw [mkS_len] at h2
  exact ⟨h2, fun c hc => List.all_eq_true.mp h.fine c hc⟩
mutual
theorem fine_shw : ∀ {d : D}, d.fine B = true → d.shw = true
  | .non, _ => rfl
  | .bl _, _ => rfl
  | .int _, _ => rfl
  | .str _, _ => rfl
  | .tup xs, q => fines_shw (xs := xs) q
  | .lst xs, q => fines_shw (xs := xs) q
  | .dct _, q => q
theorem fines_shw : ∀ {xs : List D}, D.fines B xs = true → D.shws xs = true
  | [], _ => rfl
  | x :: xs, q => by
    have q : (x.fine B && D.fines B xs) = true := q
    obtain ⟨q1, q2⟩ := (Bool.and_eq_true _ _).mp q
    show (x.shw && D.shws xs) = true
    rw [fine_shw q1, fines_shw q2]; rfl
end
mutual
theorem fine_able : ∀ {d : D}, d.fine (10 ^ 40) = true → d.pd.showable = true
  | .non, _ => rfl
  | .bl _, _ => rfl
  | .int i, q => by
    have q : decide (i.natAbs < 10 ^ 40) = true := q
    have q := of_decide_eq_true q
    show decide (i.natAbs.log2 < 1920) = true
    refine decide_eq_true ?_
    by_cases z : i.natAbs = 0
    · rw [z]; decide
    · exact (Nat.log2_lt z).mpr (Nat.lt_trans q (by decide +kernel))
  | .str _, _ => rfl
  | .tup xs, q => fines_able (xs := xs) q
  | .lst xs, q => fines_able (xs := xs) q
  | .dct _, _ => rfl
theorem fines_able : ∀ {xs : List D}, D.fines (10 ^ 40) xs = true → PyData.showableAll (D.pds xs) = true
  | [], _ => rfl
  | x :: xs, q => by
    have q : (x.fine (10 ^ 40) && D.fines (10 ^ 40) xs) = true := q
    obtain ⟨q1, q2⟩ := (Bool.and_eq_true _ _).mp q
    show (x.pd.showable && PyData.showableAll (D.pds xs)) = true
    rw [fine_able q1, fines_able q2]; rfl
end
theorem Th.repr {kin : Kin} (h : Th B w e d) (hB : B ≤ 10 ^ 40) (hw : w ≤ 200000) (he : e ≤ 64) : biD kin .repr [d] = some (.str d.pd.shown) := by
  show (if reprOk d then some (D.str d.pd.shown) else none) = _
  have f := fine_le hB h.fine
  have hs := shown_le f
  have hz := sizeLine_eq
  have h1 := h.wt
  have h2 := h.dep
  rw [if_pos]
  unfold reprOk
  rw [fine_shw f, fine_able f]
  simp only [Bool.true_and, Bool.and_eq_true, decide_eq_true_eq]
  omega
theorem fine_basic {kin : Kin} (h : d.fine B = true) : d.basic kin = true := by
  cases d <;> first | rfl | cases h
theorem Th.okS (h : Th B w e d) (hw : w ≤ 100000) : d.okS = true := by
  cases d with
  | str z =>
    have := h.wt
    have h2 : z.length + 1 ≤ w := this
    exact decide_eq_true (sz (by omega))
  | _ => rfl
theorem Th.okT {kin : Kin} (h : Th B w e d) (hw : w ≤ 100000) : d.okT kin = true := by
  cases d with
  | tup xs =>
    obtain ⟨_, _, t⟩ := h.items
    show (xs.all (D.okW kin) && decide (xs.length ≤ sizeLine)) = true
    rw [Bool.and_eq_true]
    refine ⟨List.all_eq_true.mpr fun x hx => ?_, decide_eq_true (sz (by have := t.len; omega))⟩
    obtain ⟨i, hi, rfl⟩ := List.mem_iff_getElem.mp hx
    have q := t.mem (i := i) (List.getElem?_eq_getElem hi)
    show (_ && _) = true
    rw [fine_basic q.fine, q.okS (by omega)]; rfl
  | _ => exact fine_basic (kin := kin) h.fine
end
end RM
end
section
set_option Elab.async false
set_option linter.all false
set_option maxRecDepth 100000
set_option autoImplicit false
/-! values: odd things, bent things -/
namespace RM
open PySem PySem.Spec PyProof.Rows L2

def oddA : List D := [.non, .int 0, .int 1, .int 2, .int 3, .int (-1), .int 101, .int (-10), .bl true, .bl false, .str "", .str "a", .str "abcdefghi", .str "A", .str "net", .str "bar", .tup [], .tup [.tup []], .tup [.str "a", .int 0]]
def oddZ : List D := [.lst [], .dct [], .int 1000000000000000000000000000000, .tup [.str "far"], .tup [.str "bar", .tup []], .str "a1", .tup [.non], .tup [.int 0], .tup [.str "a"], .tup [.str "a", .str "b"]]
def oddL : List D := oddA ++ oddZ
def oddB : Nat := 1000000000000000000000000000001
theorem odd_all : (oddL.all fun d => d.fine oddB && (decide (d.wt ≤ 20) && decide (d.pd.depth ≤ 2))) = true := by decide +kernel
theorem pow30 : binD .Pow (.int 10) (.int 30) = some (.int 1000000000000000000000000000000) := by
  show (if 0 ≤ (30 : Int) ∧ (30 : Int) ≤ 1000000 ∧ (10 : Int).natAbs < 2 ^ 64 then some (D.int ((10 : Int) ^ (30 : Int).toNat)) else none) = _
  rw [if_pos (by decide)]
  rfl
section
variable {kin : Kin} {C : Orc} {X : D → Prop}
theorem odd_tr (hC : C "_law_next" = orcNext) : Tr 1 (runF kin C 1 c__law_odd [.drw]) (Th oddB 20 2) X := by
  refine run_tr ?_
  show Tr 1 (evSs kin C c__law_odd [.val .drw, .emp]) _ noX
  unfold c__law_odd
  have t0 : ∀ ρ, evE kin C (.tup .nil) ρ = pure (.tup []) := fun ρ => ev_tup ev_es0 (sz (by decide))
  have hadd : binD .Add (.lst oddA) (.lst oddZ) = some (.lst oddL) := add_lst (sz (by show 19 + 10 ≤ 100000; omega))
  refine Tr.le (c := 0 + (0 + 1)) (tr_asg (kin := kin) (C := C) (ρ := [.val .drw, .emp]) (Pa := fun x => x = .lst oddA) (Tr.of (v := .lst oddA) ?_ rfl) fun x hx => ?_) (by decide)
  · exact ev_lst (ev_es ev_c (ev_es ev_c (ev_es ev_c (ev_es ev_c (ev_es ev_c (ev_es (ev_neg ev_c) (ev_es ev_c (ev_es (ev_neg ev_c) (ev_es ev_c (ev_es ev_c (ev_es ev_c (ev_es ev_c (ev_es ev_c (ev_es ev_c (ev_es ev_c (ev_es ev_c
        (ev_es (t0 _) (ev_es (ev_tup (ev_es (t0 _) ev_es0) (sz (by simp))) (ev_es (ev_tup (ev_es ev_c (ev_es ev_c ev_es0)) (sz (by simp))) ev_es0))))))))))))))))))) (sz (by show 19 ≤ 100000; omega))
  subst hx
  refine ⟨[.val .drw, .val (.lst oddA)], rfl, ?_⟩
  have hall := odd_all
  have hlen : oddL.length = 29 := by decide
  generalize oddL = L at hadd hall hlen
  refine tr_asg (kin := kin) (C := C) (ρ := [.val .drw, .val (.lst oddA)]) (Pa := fun x => x = .lst L) (Tr.of (v := .lst L) (ev_bin (x := .lst oddA) (y := .lst oddZ) (ev_b rfl) ?_ hadd) rfl) fun x hx => ?_
  · exact ev_lst (ev_es (ev_lst ev_es0 (sz (by decide))) (ev_es ev_dct0 (ev_es (ev_bin ev_c ev_c pow30) (ev_es (ev_tup (ev_es ev_c ev_es0) (sz (by simp))) (ev_es (ev_tup (ev_es ev_c (ev_es (t0 _) ev_es0)) (sz (by simp))) (ev_es ev_c
        (ev_es (ev_tup (ev_es ev_c ev_es0) (sz (by simp))) (ev_es (ev_tup (ev_es ev_c ev_es0) (sz (by simp))) (ev_es (ev_tup (ev_es ev_c ev_es0) (sz (by simp))) (ev_es (ev_tup (ev_es ev_c (ev_es ev_c ev_es0)) (sz (by simp))) ev_es0)))))))))) (sz (by show 10 ≤ 100000; omega))
  subst hx
  refine ⟨[.val .drw, .val (.lst L)], rfl, ?_⟩
  refine tr_ret ?_
  refine Tr.le (c := 0 + 1) (tr_sub (Pa := fun x => x = .lst L) (Tr.of (ev_b rfl) rfl) fun x hx => ?_) (by decide)
  subst hx
  refine (tr_next (n := 29) hC rfl ev_c (by decide) (by decide)).imp ?_
  rintro y ⟨q, hq, rfl⟩
  have hl : q < L.length := by rw [hlen]; exact hq
  refine ⟨L[q], sub_lst (List.getElem?_eq_getElem hl), ?_⟩
  have := List.all_eq_true.mp hall L[q] (List.getElem_mem hl)
  obtain ⟨h1, h⟩ := (Bool.and_eq_true _ _).mp this
  obtain ⟨h2, h3⟩ := (Bool.and_eq_true _ _).mp h
  exact ⟨h1, of_decide_eq_true h2, of_decide_eq_true h3⟩
end
end RM
end
section
set_option Elab.async false
set_option linter.all false
set_option maxRecDepth 100000
set_option autoImplicit false
/-! values: bent things -/
namespace RM
open PySem PySem.Spec PyProof.Rows L2

section
variable {kin : Kin} {C : Orc} {X : D → Prop} {ρ : Fe} {a b : E} {c d : Nat}
theorem tr_qval {P : Bool → Prop} {Pa : D → Prop} (h : Tr c (evE kin C a ρ) Pa X) (h2 : ∀ x, Pa x → ∃ p, truD x = some p ∧ P p) : Tr c (evT kin C (.val a) ρ) P X := by
  unfold evT
  have : Tr (c + 0) (do M.op (truD (← evE kin C a ρ))) P X := Tr.bind h fun x hx => by
    obtain ⟨p, e, hp⟩ := h2 x hx
    exact Tr.op e hp
  exact this
theorem tr_qand {t u : Q} {P Pt : Bool → Prop} (h1 : Tr c (evT kin C t ρ) Pt X) (h2 : Pt true → Tr d (evT kin C u ρ) P X) (h3 : Pt false → P false) : Tr (c + d) (evT kin C (.and t u) ρ) P X := by
  unfold evT
  refine Tr.bind h1 fun p hp => ?_
  cases p with
  | true => exact h2 hp
  | false => exact Tr.pure (h3 hp)
theorem tr_qor {t u : Q} {P Pt : Bool → Prop} (h1 : Tr c (evT kin C t ρ) Pt X) (h2 : Pt false → Tr d (evT kin C u ρ) P X) (h3 : Pt true → P true) : Tr (c + d) (evT kin C (.or t u) ρ) P X := by
  unfold evT
  refine Tr.bind h1 fun p hp => ?_
  cases p with
  | true => exact Tr.pure (h3 hp)
  | false => exact h2 hp
theorem tr_par {is : List Nat} {es : Es} {rest : Ss} {Po : Out → Prop} {Ps : List D → Prop} (h1 : Tr c (evEs kin C es ρ) Ps noX) (h2 : ∀ ds, Ps ds → ds.length = is.length ∧ Tr d (evSs kin C rest ((is.zip ds).foldl (fun ρ q => setS ρ q.1 q.2) ρ)) Po noX) :
    Tr (c + d) (evSs kin C (.cons (.par is es) rest) ρ) Po noX := by
  refine cons_tr ?_
  unfold evS
  have : Tr (c + 0) (exO (evEs kin C es ρ) ρ fun ds => if ds.length = is.length then pure (.nx ((is.zip ds).foldl (fun ρ q => setS ρ q.1 q.2) ρ)) else M.fail) (thenP kin C d rest Po) noX := by
    refine exO_tr h1 (fun ds hd => ?_) fun _ h => h.elim
    obtain ⟨hl, t⟩ := h2 ds hd
    rw [if_pos hl]
    exact Tr.pure t
  exact this
/-- if t: return e -/
theorem tr_ifret {q : Q} {e : E} {rest : Ss} {Po : Out → Prop} {Pb : Bool → Prop} (h1 : Tr c (evT kin C q ρ) Pb noX) (h2 : Pb true → Tr d (evE kin C e ρ) (fun v => Po (.ret v)) noX) (h3 : Pb false → Tr d (evSs kin C rest ρ) Po noX) :
    Tr (c + d) (evSs kin C (.cons (.iff q (.cons (.ret e) .nil) .nil) rest) ρ) Po noX := by
  refine tr_iff h1 (fun hp => ?_) fun hp => ?_
  · have : Tr (d + 0) (evSs kin C (.cons (.ret e) .nil) ρ >>= goOn kin C rest) Po noX := by
      refine Tr.bind (tr_ret (Po := fun o => match o with | .ret v => Po (.ret v) | _ => False) (h2 hp)) fun o ho => ?_
      cases o with
      | ret v => exact Tr.pure ho
      | _ => exact ho.elim
    exact this
  · rw [evSs_nil, goOn_nx]
    exact h3 hp
theorem tr_ifretE {q : Q} {e : E} {rest : Ss} {Po : Out → Prop} {p : Bool} (h1 : evT kin C q ρ = pure p) (h2 : p = true → Tr d (evE kin C e ρ) (fun v => Po (.ret v)) noX) (h3 : p = false → Tr d (evSs kin C rest ρ) Po noX) :
    Tr d (evSs kin C (.cons (.iff q (.cons (.ret e) .nil) .nil) rest) ρ) Po noX := by
  have : Tr (0 + d) (evSs kin C (.cons (.iff q (.cons (.ret e) .nil) .nil) rest) ρ) Po noX := tr_ifret (Pb := fun b => p = b) (Tr.of h1 rfl) h2 h3
  rw [Nat.zero_add] at this
  exact this
/-- d == 0 of a drawn number -/
theorem tr_next0 {i : Nat} {e : E} {n : Nat} (hC : C "_law_next" = orcNext) (h0 : ρ[i]? = some (.val .drw)) (h1 : evE kin C e ρ = pure (.int n)) (hn : 0 < n) (hn2 : n < 1073741824) :
    Tr 1 (evT kin C (.val (.cmp .Eq (.app "_law_next" (.cons (.v i) (.cons e .nil))) (.c (.int 0)))) ρ) (fun _ => True) X := by
  have : Tr (1 + 0) (evE kin C (.cmp .Eq (.app "_law_next" (.cons (.v i) (.cons e .nil))) (.c (.int 0))) ρ) (fun x => ∃ p, x = .bl p) X :=
    tr_cmp (tr_next hC h0 h1 hn hn2) fun x ⟨j, _, ex⟩ => by
      subst ex
      exact Tr.of ev_c ⟨_, eq_int _ _, _, rfl⟩
  exact tr_qval this fun x ⟨p, e⟩ => by subst e; exact ⟨p, rfl, trivial⟩
theorem isInt_run {e : E} {d : D} (h : evE kin C e ρ = pure d) (hb : d.basic kin = true) : evE kin C (.bi (.isi [.b "int"]) (.cons e .nil)) ρ = pure (.bl (match d with | .int _ => true | .bl _ => true | _ => false)) := by
  refine ev_bi1 h ?_
  rw [isi_b hb]
  cases d <;> rfl
theorem isBool_run {e : E} {d : D} (h : evE kin C e ρ = pure d) (hb : d.basic kin = true) : evE kin C (.bi (.isi [.b "bool"]) (.cons e .nil)) ρ = pure (.bl (match d with | .bl _ => true | _ => false)) := by
  refine ev_bi1 h ?_
  rw [isi_b hb]
  cases d <;> rfl
theorem isList_run {e : E} {d : D} (h : evE kin C e ρ = pure d) (hb : d.basic kin = true) : evE kin C (.bi (.isi [.b "list"]) (.cons e .nil)) ρ = pure (.bl (match d with | .lst _ => true | .scr _ => true | _ => false)) := by
  refine ev_bi1 h ?_
  rw [isi_b hb]
  cases d <;> rfl
/-- one of a written row, by a drawn place -/
theorem tr_pick {es : Es} {i : Nat} {n : Nat} {P : D → Prop} {xs : List D} (hC : C "_law_next" = orcNext) (h0 : ρ[i]? = some (.val .drw)) (h : evEs kin C es ρ = pure xs) (hl : xs.length = n) (hn : 0 < n) (hs : n ≤ 1000) (hp : ∀ x ∈ xs, P x) :
    Tr 1 (evE kin C (.sub (.lst es) (.app "_law_next" (.cons (.v i) (.cons (.c (.int n)) .nil)))) ρ) P X := by
  have : Tr (0 + 1) (evE kin C (.sub (.lst es) (.app "_law_next" (.cons (.v i) (.cons (.c (.int n)) .nil)))) ρ) P X := by
    refine tr_sub (Pa := fun x => x = .lst xs) (Tr.of (ev_lst h (sz (by omega))) rfl) fun x hx => ?_
    subst hx
    refine (tr_next (n := n) hC h0 ev_c hn (by omega)).imp ?_
    rintro y ⟨q, hq, rfl⟩
    have hql : q < xs.length := by omega
    exact ⟨xs[q], sub_lst (List.getElem?_eq_getElem hql), hp _ (List.getElem_mem hql)⟩
  exact this
/-! ### slices of tuples -/
theorem cutT_from {xs : List D} {k : Nat} (h : k ≤ xs.length) : slD (.tup xs) (.int (k : Int)) .non = some (.tup (xs.drop k)) := by
  show some (D.tup (cutD xs (some (k : Int)) none)) = _
  unfold cutD
  rw [HT.sIx_nat, HT.sIx_none, show min k xs.length = k by omega]
  congr 2
  apply List.take_of_length_le
  simp
theorem cutT_to {xs : List D} {k : Nat} (h : k ≤ xs.length) : slD (.tup xs) .non (.int (k : Int)) = some (.tup (xs.take k)) := by
  show some (D.tup (cutD xs none (some (k : Int)))) = _
  unfold cutD
  rw [HT.sIx_nat, show HT.sIx xs.length 0 none = 0 from rfl, show min k xs.length = k by omega]
  rfl
theorem cutT_one {xs : List D} {k : Nat} (h : k < xs.length) : slD (.tup xs) (.int (k : Int)) (.int ((k : Int) + 1)) = some (.tup ((xs.drop k).take 1)) := by
  show some (D.tup (cutD xs (some (k : Int)) (some (((k + 1 : Nat)) : Int)))) = _
  unfold cutD
  rw [HT.sIx_nat, HT.sIx_nat, show min k xs.length = k by omega, show min (k + 1) xs.length = k + 1 by omega, show k + 1 - k = 1 by omega]
end
section
variable {kin : Kin} {C : Orc} {X : D → Prop}
theorem eq_empty (xs : List D) : cmpD .Eq (.tup xs) (.tup []) = some (.bl xs.isEmpty) := by
  simp only [cmpD]
  split
  · congr 2
    cases xs <;> rfl
  · rfl
theorem Ths.rev {B e : Nat} : ∀ {w : Nat} {xs : List D}, Ths B w e xs → Ths B w e xs.reverse
  | w, [], h => h
  | w, x :: xs, h => by
    obtain ⟨h1, h2, h3⟩ := h.head
    rw [List.reverse_cons]
    exact ((Ths.rev h2).app (Ths.cons h1 .nil : Ths B (x.wt + 0) e [x])).mono (Nat.le_refl _) (by omega) (Nat.le_refl _)
theorem bent_tr {j c : Nat} (hc1 : 1 ≤ c) (hC : C "_law_next" = orcNext) (hO : Tr 1 (C "_law_odd" [.drw]) (Th oddB 20 2) noX)
    (hB : ∀ d B w e, e + 1 ≤ j → oddB ≤ B → w ≤ 500 → Th B w e d → Tr c (C "_law_bent" [.drw, d]) (Th (B + 10) (2 * w + 40) (e + 2)) noX) {d : D} {B w e : Nat} (he : e ≤ j) (hBo : oddB ≤ B) (hw : w ≤ 500) (h : Th B w e d) :
    Tr (5 + c) (runF kin C 2 c__law_bent [.drw, d]) (Th (B + 10) (2 * w + 40) (e + 2)) X := by
  have hb : d.basic kin = true := fine_basic h.fine
  refine (Tr.mono (X := noX) ?_ (Nat.le_refl _) (fun _ h => h) fun _ h => h.elim)
  refine run_tr ?_
  show Tr (5 + c) (evSs kin C c__law_bent [.val .drw, .val d, .emp, .emp]) _ noX
  unfold c__law_bent
  have oddE : ∀ s t, Tr 1 (evE kin C (.app "_law_odd" (.cons (.v 0) .nil)) [.val .drw, .val d, s, t]) (Th oddB 20 2) noX := fun s t => by
    have : Tr (0 + 1) (evE kin C (.app "_law_odd" (.cons (.v 0) .nil)) [.val .drw, .val d, s, t]) (Th oddB 20 2) noX := tr_app (Ps := fun xs => xs = [.drw]) (Tr.of (ev_es (ev_v rfl) ev_es0) rfl) fun xs hx => by subst hx; exact hO
    exact this
  have up : ∀ x, Th oddB 20 2 x → Th (B + 10) (2 * w + 40) (e + 2) x := fun x hx => hx.mono (by omega) (by omega) (by omega)
  -- a text may be changed
  refine Tr.le (c := 1 + (1 + (1 + ((1 + (1 + 0)) + c)))) (tr_ifret (Pb := fun p => p = true → ∃ z, d = .str z) ?_ (fun hp => ?_) fun _ => ?_) (by omega)
  · refine Tr.le (c := 0 + 1) (tr_qand (Pt := fun p => p = true → ∃ z, d = .str z) (Tr.of (evQ_bl (isStr_run (ev_b rfl) hb)) fun hp => ?_) (fun hp => ?_) fun _ => ?_) (by decide)
    · cases d <;> first | exact ⟨_, rfl⟩ | cases hp
    · exact (tr_next0 (n := 2) hC rfl ev_c (by decide) (by decide)).imp fun _ _ _ => hp rfl
    · intro z; cases z
  · obtain ⟨z, rfl⟩ := hp rfl
    rw [mkS_cps z] at h ⊢
    generalize z.cps.toList = l at h
    obtain ⟨hl, hc⟩ := h.signs
    have fits : ∀ m : List Nat, (∀ c ∈ m, okCh c = true) → m.length ≤ 2 * l.length + 1 → Th (B + 10) (2 * w + 40) (e + 2) (.str (mkS m)) := fun m hm hlm => (Th.str hm).mono (Nat.le_refl _) (by omega) (Nat.le_refl _)
    have app : ∀ k : Nat, okCh k = true → ∀ c ∈ l ++ [k], okCh c = true := fun k hk c hcm => by
      rcases List.mem_append.mp hcm with q | q
      · exact hc c q
      · have : c = k := by simpa using q
        rw [this]; exact hk
    have ev1 : ∀ (t : Str) (k : Nat), t = mkS [k] → evE kin C (.bin .Add (.b 1) (.c (.str t))) [.val .drw, .val (.str (mkS l)), .emp, .emp] = pure (.str (mkS (l ++ [k]))) := fun t k et => by
      subst et
      exact ev_bin (ev_b rfl) ev_c (add_mk (by simp; omega))
    refine Tr.le (c := 1) (tr_pick (i := 0) (n := 6) (xs := [.str (mkS (l ++ [98])), .str (mkS (l.drop 1)), .str (mkS (l ++ [65])), .str (mkS (l ++ [32])), .str (mkS (l ++ l)), .str (mkS (l ++ [49]))]) hC rfl ?_ rfl (by decide) (by decide) fun x hx => ?_) (by omega)
    · refine ev_es (ev1 _ 98 (by decide)) (ev_es (ev_sl (ev_b rfl) (ev_bnd ev_c) ev_c ?_) (ev_es (ev1 _ 65 (by decide)) (ev_es (ev1 _ 32 (by decide)) (ev_es (ev_bin (ev_b rfl) ev_c ?_) (ev_es (ev1 _ 49 (by decide)) ev_es0)))))
      · show (if (mkS l).length ≤ sizeLine then some (D.str (cutS (mkS l) (some ((1 : Nat) : Int)) none)) else none) = _
        rw [if_pos (by rw [mkS_len]; exact sz (by omega))]
        by_cases h1 : 1 ≤ l.length
        · rw [cut_from h1]
        · have : l = [] := List.length_eq_zero_iff.mp (by omega)
          subst this
          rfl
      · show (if 0 ≤ (2 : Int) ∧ (2 : Int) ≤ 1000 ∧ (mkS l).length ≤ 1000 then some (D.str (mulStr (mkS l) (2 : Int).toNat)) else none) = _
        rw [if_pos ⟨by decide, by decide, by rw [mkS_len]; omega⟩]
        congr 2
        unfold mulStr
        show mkS _ = mkS _
        congr 1
        show (List.replicate 2 l).flatten = _
        simp [List.replicate]
    · show Th (B + 10) (2 * w + 40) (e + 2) x
      simp only [List.mem_cons, List.not_mem_nil, or_false] at hx
      rcases hx with rfl | rfl | rfl | rfl | rfl | rfl
      · exact fits _ (app 98 (by decide)) (by simp; omega)
      · exact fits _ (fun c hcm => hc c (List.mem_of_mem_drop hcm)) (by simp; omega)
      · exact fits _ (app 65 (by decide)) (by simp; omega)
      · exact fits _ (app 32 (by decide)) (by simp; omega)
      · exact fits _ (fun c hcm => (List.mem_append.mp hcm).elim (hc c) (hc c)) (by simp; omega)
      · exact fits _ (app 49 (by decide)) (by simp; omega)
  -- an int may be changed
  refine tr_ifret (Pb := fun p => p = true → ∃ i, d = .int i) ?_ (fun hp => ?_) fun _ => ?_
  · refine Tr.le (c := 0 + (0 + 1)) (tr_qand (Pt := fun p => p = true → (∃ i, d = .int i) ∨ ∃ b, d = .bl b) (Tr.of (evQ_bl (isInt_run (ev_b rfl) hb)) fun hp => ?_) (fun hp => ?_) fun _ => ?_) (by decide)
    · cases d <;> first | exact .inl ⟨_, rfl⟩ | exact .inr ⟨_, rfl⟩ | cases hp
    · refine tr_qand (Pt := fun p => p = true → ∃ i, d = .int i) (Tr.of (evQ_not (evQ_bl (isBool_run (ev_b rfl) hb))) fun hq => ?_) (fun hq => ?_) fun _ z => by cases z
      · rcases hp rfl with q | ⟨b, rfl⟩
        · exact q
        · cases hq
      · exact (tr_next0 (n := 2) hC rfl ev_c (by decide) (by decide)).imp fun _ _ _ => hq rfl
    · intro z; cases z
  · obtain ⟨i, rfl⟩ := hp rfl
    have hi : i.natAbs < B := of_decide_eq_true h.fine
    refine Tr.le (c := 0 + 1) (tr_bin (Pa := fun x => x = .int i) (Tr.of (ev_b rfl) rfl) fun x hx => ?_) (by omega)
    subst hx
    refine (tr_pick (i := 0) (n := 6) (xs := [.int 1, .int (-1), .int 2, .int (-2), .int 10, .int (-10)]) (P := fun x => ∃ k : Int, x = .int k ∧ k.natAbs ≤ 10) hC rfl (ev_es ev_c (ev_es (ev_neg ev_c) (ev_es ev_c (ev_es (ev_neg ev_c) (ev_es ev_c (ev_es (ev_neg ev_c) ev_es0)))))) rfl (by decide) (by decide) fun x hx => ?_).imp ?_
    · simp only [List.mem_cons, List.not_mem_nil, or_false] at hx
      rcases hx with rfl | rfl | rfl | rfl | rfl | rfl <;> exact ⟨_, rfl, by decide⟩
    · rintro y ⟨k, rfl, hk⟩
      refine ⟨_, add_int _ _, ?_⟩
      refine ⟨decide_eq_true (by omega), by show 1 ≤ _; omega, Nat.zero_le _⟩
  -- an odd thing
  refine tr_ifret (Pb := fun p => p = false → ∃ xs, d = .tup xs ∧ xs ≠ []) ?_ (fun _ => ?_) fun hp => ?_
  · refine Tr.le (c := 0 + (0 + 1)) (tr_qor (Pt := fun p => p = false → ∃ xs, d = .tup xs) (Tr.of (evQ_not (evQ_bl (isTup_run (ev_b rfl) hb))) fun hp => ?_) (fun hp => ?_) fun _ z => by cases z) (by decide)
    · cases d <;> first | exact ⟨_, rfl⟩ | cases hp
    · obtain ⟨xs, rfl⟩ := hp rfl
      refine tr_qor (Pt := fun p => p = false → xs ≠ []) (Tr.of (evQ_bl (ev_cmp (ev_b rfl) (ev_tup ev_es0 (sz (by decide))) (eq_empty xs))) fun hq z => ?_) (fun hq => ?_) fun _ z => by cases z
      · subst z; cases hq
      · exact (tr_next0 (n := 6) hC rfl ev_c (by decide) (by decide)).imp fun _ _ _ => ⟨xs, rfl, hq rfl⟩
  · exact ((oddE _ _).imp up).le (by omega)
  obtain ⟨xs, rfl, hne⟩ := hp rfl
  obtain ⟨w1, e1, hxs⟩ := h.items
  have hxl := hxs.len
  have hpos : 0 < xs.length := List.length_pos_iff.mpr hne
  refine tr_par (Ps := fun ds => ∃ at_ pick : Nat, at_ < xs.length ∧ ds = [.int at_, .int pick]) (tr_es (tr_next (n := xs.length) hC rfl (ev_bi1 (ev_b rfl) len_tup) hpos (by omega)) fun x ⟨q, hq, ex⟩ => ?_) fun ds hd => ?_
  · subst ex
    exact tr_es (tr_next (n := 11) hC rfl ev_c (by decide) (by decide)) fun y ⟨p, hp, ey⟩ => by subst ey; exact tr_es0 ⟨q, p, hq, rfl⟩
  obtain ⟨at_, pick, ha, rfl⟩ := hd
  refine ⟨rfl, ?_⟩
  show Tr c (evSs kin C _ [.val .drw, .val (.tup xs), .val (.int at_), .val (.int pick)]) _ noX
  have test : ∀ k : Nat, evT kin C (.val (.cmp .Eq (.b 3) (.c (.int k)))) [.val .drw, .val (.tup xs), .val (.int at_), .val (.int pick)] = pure (decide ((pick : Int) = (k : Int))) := fun k => evQ_bl (ev_cmp (ev_b rfl) ev_c (eq_int _ _))
  obtain ⟨wa, wb, hw2, ta, tb⟩ := hxs.split at_
  have hat : xs[at_]? = some xs[at_] := List.getElem?_eq_getElem ha
  have drop1 : xs.drop at_ = xs[at_] :: xs.drop (at_ + 1) := List.drop_eq_getElem_cons ha
  rw [drop1] at tb
  obtain ⟨te, tr, hw3⟩ := tb.head
  have s_to : evE kin C (.sl (.b 1) (.c .non) (.bnd (.b 2))) [.val .drw, .val (.tup xs), .val (.int at_), .val (.int pick)] = pure (.tup (xs.take at_)) := ev_sl (ev_b rfl) ev_c (ev_bnd (ev_b rfl)) (cutT_to (by omega))
  have s_from : evE kin C (.sl (.b 1) (.bnd (.b 2)) (.c .non)) [.val .drw, .val (.tup xs), .val (.int at_), .val (.int pick)] = pure (.tup (xs.drop at_)) := ev_sl (ev_b rfl) (ev_bnd (ev_b rfl)) ev_c (cutT_from (by omega))
  have s_next : evE kin C (.sl (.b 1) (.bnd (.bin .Add (.b 2) (.c (.int 1)))) (.c .non)) [.val .drw, .val (.tup xs), .val (.int at_), .val (.int pick)] = pure (.tup (xs.drop (at_ + 1))) :=
    ev_sl (ev_b rfl) (ev_bnd (ev_bin (ev_b rfl) ev_c (add_int _ _))) ev_c (cutT_from (k := at_ + 1) (by omega))
  have mk : ∀ {ys : List D} {w' e' : Nat}, Ths (B + 10) w' e' ys → w' + 1 ≤ 2 * w + 40 → e' + 1 ≤ e + 2 → Th (B + 10) (2 * w + 40) (e + 2) (.tup ys) := fun h1 h2 h3 => (Th.tup h1).mono (Nat.le_refl _) h2 h3
  have upS : ∀ {ys : List D} {w' : Nat}, Ths B w' (e - 1) ys → Ths (B + 10) w' (e + 1) ys := fun h => h.mono (by omega) (Nat.le_refl _) (by omega)
  have la : (xs.take at_).length ≤ 500 := by rw [List.length_take]; omega
  have lb : (xs.drop (at_ + 1)).length ≤ 500 := by rw [List.length_drop]; omega
  have lc : (xs.drop at_).length ≤ 500 := by rw [List.length_drop]; omega
  refine tr_ifretE (test 0) (fun _ => ?_) fun _ => ?_
  · refine Tr.of (ev_bin s_to s_next (add_tup (sz (by omega)))) (mk ((upS ta).app (upS tr)) (by omega) (by omega))
  refine tr_ifretE (test 1) (fun _ => ?_) fun _ => ?_
  · have one : evE kin C (.sl (.b 1) (.bnd (.b 2)) (.bnd (.bin .Add (.b 2) (.c (.int 1))))) [.val .drw, .val (.tup xs), .val (.int at_), .val (.int pick)] = pure (.tup [xs[at_]]) := by
      refine (ev_sl (ev_b rfl) (ev_bnd (ev_b rfl)) (ev_bnd (ev_bin (ev_b rfl) ev_c (add_int _ _))) (cutT_one ha)).trans ?_
      rw [drop1]; rfl
    refine Tr.of (ev_bin (ev_b rfl) one (add_tup (sz (by simp; omega)))) (mk ((upS hxs).app (upS (Ths.cons te .nil : Ths B (_ + 0) (e - 1) [xs[at_]]))) (by omega) (by omega))
  refine tr_ifretE (test 2) (fun _ => ?_) fun _ => ?_
  · exact Tr.of (ev_bi1 (ev_b rfl) list_tup) ((Th.lst (upS hxs)).mono (Nat.le_refl _) (by omega) (by omega))
  refine tr_ifretE (test 3) (fun _ => ?_) fun _ => ?_
  · refine Tr.le (c := (0 + (1 + 0)) + 0) (tr_bin (Pa := fun x => ∃ z, x = .tup (xs.take at_ ++ [z]) ∧ Th oddB 20 2 z) (tr_bin (Pa := fun x => x = .tup (xs.take at_)) (Tr.of s_to rfl) fun x hx => ?_) fun x hx => ?_) ?_
    · subst hx
      refine tr_tup (tr_es (oddE _ _) fun z hz => tr_es0 ⟨sz (by simp), _, add_tup (sz (by simp; omega)), z, rfl, hz⟩)
    · obtain ⟨z, rfl, hz⟩ := hx
      refine Tr.of s_from ⟨_, add_tup (sz (by simp; omega)), ?_⟩
      have tz : Ths (B + 10) (20 + 0) (e + 1) [z] := Ths.cons (hz.mono (by omega) (Nat.le_refl _) (by omega)) .nil
      rw [drop1]
      exact mk (((upS ta).app tz).app (upS tb)) (by omega) (by omega)
    · omega
  refine tr_ifretE (test 4) (fun _ => ?_) fun _ => ?_
  · refine Tr.of (ev_bk (ev_b rfl) ev_c ev_c rfl) ?_
    show Th (B + 10) (2 * w + 40) (e + 2) (.tup (backV xs none none))
    rw [backV_none]
    exact mk (upS hxs.rev) (by omega) (by omega)
  refine tr_ret ?_
  refine Tr.le (c := (0 + (0 + c)) + 0) (tr_bin (Pa := fun x => ∃ z, x = .tup (xs.take at_ ++ [z]) ∧ Th (B + 10) (2 * xs[at_].wt + 40) (e + 1) z) (tr_bin (Pa := fun x => x = .tup (xs.take at_)) (Tr.of s_to rfl) fun x hx => ?_) fun x hx => ?_) (by omega)
  · subst hx
    refine Tr.le (c := (0 + c) + 0) (tr_tup (tr_es (Pa := Th (B + 10) (2 * xs[at_].wt + 40) (e + 1)) (tr_app (Ps := fun xs' => xs' = [.drw, xs[at_]]) (Tr.of (ev_es (ev_v rfl) (ev_es (ev_sub (ev_b rfl) (ev_b rfl) (sub_tup hat)) ev_es0)) rfl) fun ys hy => ?_) fun z hz => tr_es0 ⟨sz (by simp), _, add_tup (sz (by simp; omega)), z, rfl, hz⟩)) (by omega)
    subst hy
    exact (hB _ _ _ (e - 1) (by omega) hBo (by omega) te).imp fun z hz => hz.mono (Nat.le_refl _) (Nat.le_refl _) (by omega)
  · obtain ⟨z, rfl, hz⟩ := hx
    refine Tr.of s_next ⟨_, add_tup (sz (by simp; omega)), ?_⟩
    have tz : Ths (B + 10) (2 * xs[at_].wt + 40 + 0) (e + 1) [z] := Ths.cons hz .nil
    exact mk (((upS ta).app tz).app (upS tr)) (by omega) (by omega)
end
end RM
end
section
set_option Elab.async false
set_option linter.all false
set_option maxRecDepth 100000
set_option autoImplicit false
/-! values: roads needed, lots told; the law's own looks -/
namespace RM
open PySem PySem.Spec PyProof.Rows L2

/-- roads -/
def isRd : D → Bool
  | .tup xs => isAsc (.tup xs) && decide (1 ≤ xs.length ∧ xs.length ≤ 7)
  | _ => false
/-- a lot among roads -/
def isLotB (rs : List Str) (d : D) : Bool := isAsc d && (match d with | .tup xs => (strsOf xs).all fun z => decide (z ∈ rs) | _ => false)
section
variable {kin : Kin} {C : Orc} {X : D → Prop} {ρ : Fe}
theorem asc_tup {d : D} (h : isAsc d = true) : ∃ zs : List Str, d = .tup (zs.map D.str) ∧ (∀ z ∈ zs, isW z = true) ∧ ascS zs = true := by
  cases d with
  | tup xs =>
    have h : (xs.all isWd && ascS (strsOf xs)) = true := h
    obtain ⟨h1, h2⟩ := (Bool.and_eq_true _ _).mp h
    have e := words_strs h1
    refine ⟨strsOf xs, by rw [← e], fun z hz => ?_, h2⟩
    have : D.str z ∈ xs := by rw [e]; exact List.mem_map_of_mem hz
    exact List.all_eq_true.mp h1 _ this
  | _ => cases h
theorem need_roads_ok {d : D} (hi : kin.ini "BadRoads" = some ("value" : Str)) (hC : C "are_ascending" [d] = pure (.bl (isAsc d))) (h : isRd d = true) : runF kin C 0 c_need_roads [d] = pure d := by
  refine run_ret ?_
  show evSs kin C c_need_roads [.val d] = _
  unfold c_need_roads
  cases d with
  | tup xs =>
    have h : (isAsc (.tup xs) && decide (1 ≤ xs.length ∧ xs.length ≤ 7)) = true := h
    obtain ⟨h1, h2⟩ := (Bool.and_eq_true _ _).mp h
    rw [h1] at hC
    have len : evE kin C (.chain .LtE .LtE (.c (.int 1)) (.bi .len (.cons (.b 0) .nil)) (.c (.int 7))) [.val (.tup xs)] = pure (.bl (decide (1 ≤ xs.length ∧ xs.length ≤ 7))) := len1_8 (k := 7) (ev_b rfl) len_tup
    rw [h2] at len
    rw [iff_false (evQ_or (p := false) (q := false) (evQ_not (evQ_bl (ev_app (ev_es (ev_v rfl) ev_es0) hC))) fun _ => evQ_not (evQ_bl len))]
    exact ret_pure (ev_v rfl)
  | _ => cases h
theorem need_roads_no {d : D} (hi : kin.ini "BadRoads" = some ("value" : Str)) (hC : C "are_ascending" [d] = pure (.bl (isAsc d))) (h : isRd d = false) : runF kin C 0 c_need_roads [d] = M.raise (.exc "BadRoads" [("value", d)]) := by
  refine run_exc (ρ := [.val d]) ?_
  show evSs kin C c_need_roads [.val d] = _
  unfold c_need_roads
  have out : evSs kin C (.cons (.rse "BadRoads" (.v 0)) .nil) [.val d] >>= goOn kin C (.cons (.ret (.v 0)) .nil) = pure (.exc (.exc "BadRoads" [("value", d)]) [.val d]) := by
    rw [rse_pure (ev_v rfl) hi]; rfl
  cases ha : isAsc d with
  | false =>
    rw [ha] at hC
    rw [iff_true (evQ_or (p := true) (q := true) (evQ_not (evQ_bl (ev_app (ev_es (ev_v rfl) ev_es0) hC))) fun z => by cases z)]
    exact out
  | true =>
    rw [ha] at hC
    obtain ⟨zs, rfl, _, _⟩ := asc_tup ha
    have h2 : decide (1 ≤ (zs.map D.str).length ∧ (zs.map D.str).length ≤ 7) = false := by
      have h : (isAsc (.tup (zs.map D.str)) && decide (1 ≤ (zs.map D.str).length ∧ (zs.map D.str).length ≤ 7)) = false := h
      rw [ha, Bool.true_and] at h
      exact h
    have len : evE kin C (.chain .LtE .LtE (.c (.int 1)) (.bi .len (.cons (.b 0) .nil)) (.c (.int 7))) [.val (.tup (zs.map D.str))] = pure (.bl (decide (1 ≤ (zs.map D.str).length ∧ (zs.map D.str).length ≤ 7))) := len1_8 (k := 7) (ev_b rfl) len_tup
    rw [h2] at len
    rw [iff_true (evQ_or (p := false) (q := true) (evQ_not (evQ_bl (ev_app (ev_es (ev_v rfl) ev_es0) hC))) fun _ => evQ_not (evQ_bl len))]
    exact out
theorem in_strsT (x : Str) (ys : List Str) : cmpD .In (.str x) (.tup (ys.map D.str)) = some (.bl (decide (x ∈ ys))) := by
  simp only [cmpD]
  rw [if_pos (by simp [D.pure, pure_strs, D.pd, PyData.depth]), in_strs]
theorem notin_strsT (x : Str) (ys : List Str) : cmpD .NotIn (.str x) (.tup (ys.map D.str)) = some (.bl (!decide (x ∈ ys))) := by
  simp only [cmpD]
  rw [if_pos (by simp [D.pure, pure_strs, D.pd, PyData.depth]), in_strs]
theorem is_lot_run {rs : List Str} {d : D} (hC : C "are_ascending" [d] = pure (.bl (isAsc d))) (hl : d.wt ≤ 100000) : runF kin C 1 c_is_lot [.tup (rs.map D.str), d] = pure (.bl (isLotB rs d)) := by
  refine run_ret (ret_pure ?_)
  show evE kin C _ [.val (.tup (rs.map D.str)), .val d, .emp] = _
  unfold isLotB
  cases ha : isAsc d with
  | false =>
    rw [ha] at hC
    exact ev_and (p := false) (q := false) (ev_app (ev_es (ev_v rfl) ev_es0) hC) fun z => by cases z
  | true =>
    rw [ha] at hC
    obtain ⟨zs, rfl, _, _⟩ := asc_tup ha
    have hzl : zs.length ≤ sizeLine := by
      have h1 : D.wts (zs.map D.str) + 1 ≤ 100000 := hl
      have := len_wts (zs.map D.str)
      rw [List.length_map] at this
      exact sz (by omega)
    refine ev_and (p := true) (q := zs.all fun z => decide (z ∈ rs)) (ev_app (ev_es (ev_v rfl) ev_es0) hC) (fun _ => ?_) |>.trans ?_
    · refine ev_bi1 (lc_map (ls := zs) (v := D.str) (fun z => some (D.bl (decide (z ∈ rs)))) (evI_seq (ev_b rfl) rfl) hzl fun z hz => ?_) ?_
      · exact lcF_yes (ρ1 := [.val (.tup (rs.map D.str)), .val (.tup (zs.map D.str)), .val (.str z)]) rfl (ev_cmp (ev_b rfl) (ev_b rfl) (in_strsT z rs))
      · rw [fm_some]
        have : (zs.map fun z => D.bl (decide (z ∈ rs))) = (zs.map fun z => decide (z ∈ rs)).map D.bl := by rw [List.map_map]; rfl
        rw [this, all_bools, List.all_map]
        rfl
    · show pure (D.bl (true && zs.all _)) = pure (D.bl (true && (strsOf (zs.map D.str)).all _))
      rw [strsOf_map]
/-! ### the law's own looks -/
theorem notin_all (z : Str) : ((z.cps.toList.filter fun c => !decide (c ∈ letters)).isEmpty) = z.cps.toList.all fun c => decide (c ∈ letters) := by
  induction z.cps.toList with
  | nil => rfl
  | cons c r ih =>
    rw [List.filter_cons, List.all_cons]
    cases h : decide (c ∈ letters) with
    | true => simpa using ih
    | false => simp
theorem pures_signs (l : List Nat) : D.pures (l.map fun c => D.str ⟨#[c]⟩) = true := by
  induction l with
  | nil => rfl
  | cons c r ih => simp [D.pures, D.pure, ih]
theorem eq_nilL {xs : List D} (h : D.pures xs = true) : cmpD .Eq (.lst xs) (.lst []) = some (.bl xs.isEmpty) := by
  simp only [cmpD]
  rw [if_pos (by simp [D.okE, D.pure, h, D.pures, D.pd, D.pds, PyData.depth, PyData.depthAll])]
  congr 2
  cases xs <;> rfl
theorem ne_nilL {xs : List D} (h : D.pures xs = true) : cmpD .NotEq (.lst xs) (.lst []) = some (.bl (!xs.isEmpty)) := by
  simp only [cmpD]
  rw [if_pos (by simp [D.okE, D.pure, h, D.pures, D.pd, D.pds, PyData.depth, PyData.depthAll])]
  congr 3
  cases xs <;> rfl
theorem law_is_name_run {d : D} (hb : d.basic kin = true) (hs : d.okS = true) : runF kin C 1 c__law_is_name [d] = pure (.bl (isWd d)) := by
  refine run_ret ?_
  show evSs kin C c__law_is_name [.val d, .emp] = _
  unfold c__law_is_name
  have h0 : ∀ s, evE kin C (.b 0) [.val d, s] = pure d := fun s => ev_b rfl
  cases d with
  | str z =>
    have hz : z.length ≤ sizeLine := of_decide_eq_true hs
    have t1 := evQ_or (p := false) (q := !decide (1 ≤ z.length ∧ z.length ≤ 8)) (evQ_not (evQ_bl (isStr_run (C := C) (h0 .emp) hb))) fun _ => evQ_not (evQ_bl (show evE kin C (.chain .LtE .LtE (.c (.int 1)) (.bi .len (.cons (.b 0) .nil)) (.c (.int 8))) [.val (.str z), .emp] = _ from len1_8 (k := 8) (h0 .emp) (len_str hz)))
    cases hl : decide (1 ≤ z.length ∧ z.length ≤ 8) with
    | false =>
      rw [hl] at t1
      rw [iff_true t1, ret_pure ev_c]
      have : isWd (.str z) = false := by show isW z = false; unfold isW; rw [hl]; rfl
      rw [this]; rfl
    | true =>
      rw [hl] at t1
      rw [iff_false t1]
      refine ret_pure ?_
      have lc : evE kin C (.lc [1] [1] (.seq (.b 0)) (.val (.cmp .NotIn (.b 1) (.c (.str "abcdefghijklmnopqrstuvwxyz")))) (.v 1)) [.val (.str z), .emp] = pure (.lst ((z.cps.toList.filter fun c => !decide (c ∈ letters)).map fun c => D.str ⟨#[c]⟩)) := by
        refine (lc_map (ls := z.cps.toList) (v := fun c => D.str ⟨#[c]⟩) (fun c => if !decide (c ∈ letters) then some (D.str ⟨#[c]⟩) else none) (evI_seq (h0 .emp) (if_pos hz)) (by rw [show z.cps.toList.length = z.length by simp [Str.length]]; exact hz) fun c hc => ?_).trans (by rw [fm_if])
        exact lcF_q (ρ1 := [.val (.str z), .val (.str ⟨#[c]⟩)]) rfl (evQ_bl (ev_cmp (ev_b rfl) ev_c (notin_sign c _))) fun _ => ev_v rfl
      refine (ev_cmp lc (ev_lst ev_es0 (sz (by decide))) (eq_nilL (pures_signs (z.cps.toList.filter fun c => !decide (c ∈ letters))))).trans ?_
      have e1 : isWd (.str z) = z.cps.toList.all fun c => decide (c ∈ letters) := by show isW z = _; unfold isW; rw [hl]; rfl
      rw [e1, ← notin_all]
      congr 2
      cases z.cps.toList.filter fun c => !decide (c ∈ letters) <;> rfl
  | _ =>
    all_goals
      rw [iff_true (evQ_or (p := true) (q := true) (evQ_not (evQ_bl (isStr_run (h0 .emp) hb))) fun z => by cases z), ret_pure ev_c]
      rfl
end
end RM
end
section
set_option Elab.async false
set_option linter.all false
set_option maxRecDepth 100000
set_option autoImplicit false
/-! values: the law's own looks, lots, roads -/
namespace RM
open PySem PySem.Spec PyProof.Rows L2

section
variable {kin : Kin} {C : Orc} {X : D → Prop} {ρ : Fe}
theorem ne_emptyL (xs : List D) : cmpD .NotEq (.lst xs) (.lst []) = some (.bl (!xs.isEmpty)) := by
  simp only [cmpD]
  split
  · congr 3
    cases xs <;> rfl
  · rfl
theorem eq_emptyL (xs : List D) : cmpD .Eq (.lst xs) (.lst []) = some (.bl xs.isEmpty) := by
  simp only [cmpD]
  split
  · congr 2
    cases xs <;> rfl
  · rfl
theorem filter_all {α : Type} (q : α → Bool) : ∀ xs : List α, (xs.filter fun x => !q x).isEmpty = xs.all q
  | [] => rfl
  | x :: xs => by
    rw [List.filter_cons, List.all_cons]
    cases h : q x with
    | true => simpa using filter_all q xs
    | false => simp
theorem law_asc_run {d : D} (hC : ∀ x, x.okW kin = true → C "_law_is_name" [x] = pure (.bl (isWd x))) (h : d.okT kin = true) : runF kin C 2 c__law_are_ascending [d] = pure (.bl (isAsc d)) := by
  have h0 : ∀ s t, evE kin C (.b 0) [.val d, s, t] = pure d := fun s t => ev_b rfl
  refine run_ret ?_
  show evSs kin C c__law_are_ascending [.val d, .emp, .emp] = _
  unfold c__law_are_ascending
  cases d with
  | tup xs =>
    obtain ⟨hx, hl⟩ := (Bool.and_eq_true _ _).mp h
    have hl : xs.length ≤ sizeLine := of_decide_eq_true hl
    have names : evE kin C (.lc [1] [1] (.seq (.b 0)) (.not (.val (.app "_law_is_name" (.cons (.v 1) .nil)))) (.v 1)) [.val (.tup xs), .emp, .emp] = pure (.lst (xs.filter fun x => !isWd x)) := by
      refine (lc_map (ls := xs) (v := fun x => x) (fun x => if !isWd x then some x else none) (evI_seq (h0 _ _) (by simp [iterD])) hl fun x hm => ?_).trans (by rw [fm_if]; simp)
      exact lcF_q (ρ1 := [.val (.tup xs), .val x, .emp]) rfl (evQ_not (evQ_bl (ev_app (ev_es (ev_v rfl) ev_es0) (hC x (List.all_eq_true.mp hx x hm))))) fun _ => ev_v rfl
    have test : evT kin C (.or (.not (.val (.bi (.isi [.b "tuple"]) (.cons (.b 0) .nil)))) (.val (.cmp .NotEq (.lc [1] [1] (.seq (.b 0)) (.not (.val (.app "_law_is_name" (.cons (.v 1) .nil)))) (.v 1)) (.lst .nil)))) [.val (.tup xs), .emp, .emp] = pure (!xs.all isWd) := by
      refine (evQ_or (p := false) (evQ_not (evQ_bl (isTup_run (h0 _ _) (okT_basic h)))) fun _ => evQ_bl (ev_cmp names (ev_lst ev_es0 (sz (by decide))) (ne_emptyL _))).trans ?_
      rw [filter_all]; rfl
    cases ha : xs.all isWd with
    | false =>
      rw [ha] at test
      rw [iff_true test, ret_pure ev_c]
      have e0 : isAsc (.tup xs) = false := by show (xs.all isWd && ascS (strsOf xs)) = _; rw [ha]; rfl
      rw [e0]; rfl
    | true =>
      rw [ha] at test
      rw [iff_false test]
      refine ret_pure ?_
      have e := words_strs ha
      have e1 : isAsc (.tup xs) = ascS (strsOf xs) := by show (xs.all isWd && ascS (strsOf xs)) = _; rw [ha]; rfl
      rw [e1]
      generalize strsOf xs = zs at e
      subst e
      have zl : (zs.zip (zs.drop 1)).length ≤ sizeLine := by
        rw [List.length_zip]
        rw [List.length_map] at hl
        omega
      have lc : evE kin C (.lc [1, 2] [1, 2] (.zip (.b 0) (.sl (.b 0) (.bnd (.c (.int 1))) (.c .non))) (.not (.val (.cmp .Lt (.b 1) (.b 2)))) (.c (.int 1))) [.val (.tup (zs.map D.str)), .emp, .emp] = pure (.lst (((zs.zip (zs.drop 1)).filter fun p => !ltS p.1 p.2).map fun _ => D.int 1)) := by
        refine (lc_map (ls := zs.zip (zs.drop 1)) (v := fun p => .tup [.str p.1, .str p.2]) (fun p => if !ltS p.1 p.2 then some (D.int 1) else none) ((evI_zipT (h0 _ _) (ev_sl (h0 _ _) (ev_bnd ev_c) ev_c (cut1 hl))).trans ?_) zl fun p hp => ?_).trans (by rw [fm_if])
        · unfold zipD
          rw [← List.map_drop, List.zip_map, List.map_map]
          rfl
        · exact lcF_q (ρ1 := [.val (.tup (zs.map D.str)), .val (.str p.1), .val (.str p.2)]) rfl (evQ_not (evQ_bl (ev_cmp (ev_b rfl) (ev_b rfl) (lt_str _ _)))) fun _ => ev_c
      refine (ev_cmp lc (ev_lst ev_es0 (sz (by decide))) (eq_emptyL _)).trans ?_
      congr 2
      have := filter_all (fun p : Str × Str => ltS p.1 p.2) (zs.zip (zs.drop 1))
      rw [List.isEmpty_map, this, ← asc_all, List.all_map]
      rfl
  | _ =>
    all_goals
      rw [iff_true (evQ_or (p := true) (q := true) (evQ_not (evQ_bl (isTup_run (h0 _ _) h))) fun z => by cases z), ret_pure ev_c]
      rfl
/-! ### lots of all sizes -/
def subsI : Nat → List (List Nat)
  | 0 => [[]]
  | n + 1 => subsI n ++ (subsI n).map fun l => l ++ [n]
theorem subs_len : ∀ n, (subsI n).length = 2 ^ n
  | 0 => rfl
  | n + 1 => by
    show (subsI n ++ (subsI n).map fun l => l ++ [n]).length = _
    rw [List.length_append, List.length_map, subs_len n, Nat.pow_succ]
    omega
theorem subs_bel : ∀ {n : Nat} {l : List Nat}, l ∈ subsI n → Bel n l ∧ l.length ≤ n
  | 0, l, h => by
    have : l = [] := by simpa [subsI] using h
    subst this
    exact ⟨(fun _ h => nomatch h), Nat.le_refl _⟩
  | n + 1, l, h => by
    rcases List.mem_append.mp h with h | h
    · have := subs_bel h
      exact ⟨fun i hi => Nat.lt_succ_of_lt (this.1 i hi), by omega⟩
    · obtain ⟨m, hm, rfl⟩ := List.mem_map.mp h
      have := subs_bel hm
      refine ⟨fun i hi => ?_, by simp; omega⟩
      rcases List.mem_append.mp hi with q | q
      · exact Nat.lt_succ_of_lt (this.1 i q)
      · have : i = n := by simpa using q
        omega
variable {n : Nat} {nm : Nat → Str}
theorem law_lots_run (N : Nm n nm) (hn : n ≤ 7) : runF kin C 3 c__law_lots [roadsV n nm] = pure (.lst (((subsI n).mergeSort leL).map (lotV nm))) := by
  refine run_ret ?_
  show evSs kin C c__law_lots [.val (roadsV n nm), .emp, .emp, .emp] = _
  unfold c__law_lots
  rw [asg_pure (ρ1 := [.val (roadsV n nm), .val (.lst [.tup []]), .emp, .emp]) (ev_lst (ev_es (ev_tup ev_es0 (sz (by decide))) ev_es0) (sz (by simp))) rfl]
  have pw : ∀ i, i ≤ 7 → 2 ^ i ≤ 128 := by decide
  refine Eq.trans (frl_pure (xs := (List.range n).map (roadV nm)) (fun j => [.val (roadsV n nm), .val (.lst ((subsI j).map (lotV nm))), (match j with | 0 => .emp | j + 1 => .val (roadV nm j)), .emp]) (evI_seq (ev_v rfl) rfl) rfl fun i x hx => ?_) ?_
  · have hi : i < n := by
      have := (List.getElem?_eq_some_iff.mp hx).1
      simpa using this
    rw [List.getElem?_map, List.getElem?_range hi] at hx
    cases hx
    refine ⟨[.val (roadsV n nm), .val (.lst ((subsI i).map (lotV nm))), .val (roadV nm i), .emp], rfl, ?_⟩
    have hl := subs_len i
    have hp := pw i (by omega)
    have inner : evE kin C (.lc [3] [3] (.seq (.b 1)) .yes (.bin .Add (.b 3) (.tup (.cons (.v 2) .nil)))) [.val (roadsV n nm), .val (.lst ((subsI i).map (lotV nm))), .val (roadV nm i), .emp] = pure (.lst (((subsI i).map fun l => l ++ [i]).map (lotV nm))) := by
      refine (lc_map (ls := subsI i) (v := lotV nm) (fun l => some (lotV nm (l ++ [i]))) (evI_seq (ev_b rfl) rfl) (sz (by omega)) fun l hl => ?_).trans ?_
      · have hb := (subs_bel hl).2
        refine lcF_yes (ρ1 := [.val (roadsV n nm), .val (.lst ((subsI i).map (lotV nm))), .val (roadV nm i), .val (lotV nm l)]) rfl ?_
        have ee : lotV nm (l ++ [i]) = .tup (l.map (roadV nm) ++ [roadV nm i]) := by simp [lotV]
        rw [ee]
        exact ev_bin (ev_b rfl) (ev_tup (ev_es (ev_v rfl) ev_es0) (sz (by simp))) (add_tup (sz (by simp; omega)))
      · rw [fm_some, List.map_map]; rfl
    rw [asg_pure (ρ1 := [.val (roadsV n nm), .val (.lst ((subsI (i + 1)).map (lotV nm))), .val (roadV nm i), .emp]) (ev_bin (ev_b rfl) inner (add_lst (sz (by simp; omega)))) (by rw [← List.map_append]; rfl), evSs_nil]
  · refine ret_pure ?_
    have e : ((List.range n).map (roadV nm)).length = n := by simp
    rw [e]
    exact ev_bi1 (ev_b rfl) (N.sorted_lots fun l hl => (subs_bel hl).1)
/-! ### roads drawn -/
theorem roads_tr (hC : C "_law_next" = orcNext) (hN : ∀ many : Nat, 1 ≤ many → many ≤ 8 → Tr 12 (C "_law_names" [.drw, .int many]) (NamesOk many) noX) {lo hi : Nat} (h1 : 1 ≤ lo) (h2 : lo ≤ hi) (h8 : hi ≤ 8) :
    Tr 13 (runF kin C 0 c__law_roads [.drw, .int lo, .int hi]) (fun d => ∃ n nm, lo ≤ n ∧ n ≤ hi ∧ Nm n nm ∧ d = roadsV n nm) X := by
  refine Tr.mono (X := noX) ?_ (Nat.le_refl _) (fun _ h => h) fun _ h => h.elim
  refine run_tr ?_
  show Tr 13 (evSs kin C c__law_roads [.val .drw, .val (.int lo), .val (.int hi)]) _ noX
  unfold c__law_roads
  refine tr_ret ?_
  have number : Tr 1 (evE kin C (.bin .Add (.b 1) (.app "_law_next" (.cons (.v 0) (.cons (.bin .Sub (.bin .Add (.b 2) (.c (.int 1))) (.b 1)) .nil)))) [.val .drw, .val (.int lo), .val (.int hi)]) (fun d => ∃ m : Nat, lo ≤ m ∧ m ≤ hi ∧ d = .int m) noX := by
    refine Tr.le (c := 0 + 1) (tr_bin (Pa := fun x => x = .int lo) (Tr.of (ev_b rfl) rfl) fun x hx => ?_) (by decide)
    subst hx
    have e : evE kin C (.bin .Sub (.bin .Add (.b 2) (.c (.int 1))) (.b 1)) [.val .drw, .val (.int lo), .val (.int hi)] = pure (.int ((hi + 1 - lo : Nat) : Int)) := by
      refine (ev_bin (ev_bin (ev_b rfl) ev_c (add_int _ _)) (ev_b rfl) (sub_int _ _)).trans ?_
      congr 2
      omega
    refine (tr_next hC rfl e (by omega) (by omega)).imp ?_
    rintro y ⟨j, hj, rfl⟩
    exact ⟨_, add_int _ _, lo + j, by omega, by omega, by simp⟩
  have names : Tr (0 + (1 + 0) + 12) (evE kin C (.app "_law_names" (.cons (.v 0) (.cons (.bin .Add (.b 1) (.app "_law_next" (.cons (.v 0) (.cons (.bin .Sub (.bin .Add (.b 2) (.c (.int 1))) (.b 1)) .nil)))) .nil))) [.val .drw, .val (.int lo), .val (.int hi)])
      (fun d => ∃ m : Nat, lo ≤ m ∧ m ≤ hi ∧ NamesOk m d) noX := by
    refine tr_app (Ps := fun xs => ∃ m : Nat, lo ≤ m ∧ m ≤ hi ∧ xs = [.drw, .int m]) (tr_es (Pa := fun x => x = .drw) (Tr.of (ev_v rfl) rfl) fun x hx => ?_) fun xs hx => ?_
    · subst hx
      exact tr_es number fun y ⟨m, h1, h2, ey⟩ => by subst ey; exact tr_es0 ⟨m, h1, h2, rfl⟩
    · obtain ⟨m, h3, h4, rfl⟩ := hx
      exact (hN m (by omega) (by omega)).imp fun d hd => ⟨m, h3, h4, hd⟩
  refine tr_bi1 (Pa := fun d => ∃ n nm, lo ≤ n ∧ n ≤ hi ∧ Nm n nm ∧ ∃ ws : List Str, d = .lst (ws.map D.str) ∧ roadsV n nm = .tup (ws.map D.str)) ?_ fun d hd => ?_
  · refine tr_bi1 (Tr.le names (by decide)) fun d hd => ?_
    obtain ⟨m, h3, h4, ws, rfl, hl, hnd, hw⟩ := hd
    refine ⟨_, sorted_strs ws, m, fun i => (ws.mergeSort leS).getD i default, h3, h4, ?_, ws.mergeSort leS, rfl, ?_⟩
    · have := nm_of (sorted_strict hnd) fun w hw' => hw w ((List.mergeSort_perm ws leS).mem_iff.mp hw')
      rw [List.length_mergeSort, hl] at this
      exact this
    · have := roads_of (ws.mergeSort leS)
      rw [List.length_mergeSort, hl] at this
      exact this
  · obtain ⟨n, nm, h3, h4, N, ws, rfl, e⟩ := hd
    exact ⟨_, rfl, n, nm, h3, h4, N, e.symm⟩
end
end RM
end
section
set_option Elab.async false
set_option linter.all false
set_option maxRecDepth 100000
set_option autoImplicit false
/-! values: tries; a law's begin; rows of things -/
namespace RM
open PySem PySem.Spec PyProof.Rows L2

section
variable {kin : Kin} {C : Orc} {ρ ρ1 : Fe} {e : E} {r b : Ss} {h : Hs} {p : List Nat} {x : D}
theorem asg_raise (he : evE kin C e ρ = M.raise x) : evSs kin C (.cons (.asg p e) r) ρ = pure (.exc x ρ) := by
  rw [evSs_cons, evS_asg]
  dsimp only
  rw [he]; rfl
theorem try_ok (hb : evSs kin C b ρ = pure (.nx ρ1)) : evSs kin C (.cons (.tr b h) r) ρ = evSs kin C r ρ1 := by
  rw [evSs_cons]
  unfold evS
  rw [hb]; rfl
theorem try_ret {d : D} (hb : evSs kin C b ρ = pure (.ret d)) : evSs kin C (.cons (.tr b h) r) ρ = pure (.ret d) := by
  rw [evSs_cons]
  unfold evS
  rw [hb]; rfl
theorem try_exc {c0 : Str} {fs : List (Str × D)} (hb : evSs kin C b ρ = pure (.exc (.exc c0 fs) ρ1)) : evSs kin C (.cons (.tr b h) r) ρ = evHs kin C h (.exc c0 fs) ρ1 >>= goOn kin C r := by
  rw [evSs_cons]
  unfold evS
  rw [hb]; rfl
theorem hs_hit {c0 c : Str} {fs : List (Str × D)} {i : Option Nat} {hb : Ss} {hr : Hs} {o : Out} (h0 : kin.isX c0 = true) (h1 : kin.isX c = true) (h2 : (kin.par c0).contains c = true) (ho : evSs kin C hb (exnF i (.exc c0 fs) ρ) = pure o) (hn : ∀ x ρ', o ≠ .exc x ρ') :
    evHs kin C (.cons c i hb hr) (.exc c0 fs) ρ = pure (o.gone i) := by
  unfold evHs
  simp only [D.xcls, h0, h1, Bool.and_self, if_true, h2, ho, pure_bind]
theorem hs_miss {c0 c : Str} {fs : List (Str × D)} {i : Option Nat} {hb : Ss} {hr : Hs} (h0 : kin.isX c0 = true) (h1 : kin.isX c = true) (h2 : (kin.par c0).contains c = false) : evHs kin C (.cons c i hb hr) (.exc c0 fs) ρ = evHs kin C hr (.exc c0 fs) ρ := by
  conv => lhs; unfold evHs
  simp only [D.xcls, h0, h1, Bool.and_self, if_true, h2, Bool.false_eq_true, if_false]
theorem ev_xfl {i : Nat} {f : Str} {v : D} (h : ρ[i]? = some (.exn x)) (hv : xflD kin f x = some v) : evE kin C (.xfl i f) ρ = pure v := by
  unfold evE
  rw [h]
  simp only [hv]
  rfl
theorem par_pure {is : List Nat} {es : Es} {ds : List D} (h : evEs kin C es ρ = pure ds) (hl : ds.length = is.length) : evSs kin C (.cons (.par is es) r) ρ = evSs kin C r ((is.zip ds).foldl (fun ρ q => setS ρ q.1 q.2) ρ) := by
  rw [evSs_cons]
  unfold evS
  rw [h]
  show ((if ds.length = is.length then pure (.nx ((is.zip ds).foldl (fun ρ q => setS ρ q.1 q.2) ρ)) else M.fail : M Out) >>= goOn kin C r) = _
  rw [if_pos hl]; rfl
/-- a law: draws begin, then the rest -/
theorem law_begin {n : Nat} {rest : Ss} {ns : List Int} {c : Nat} {P : D → Prop} (hC : C "_law_begun" = orcBegun) (hs : scriptOk ns = true) (hc : c ≤ drawMost)
    (t : Tr c (evSs kin C rest (.val (.scr ns) :: .val .drw :: List.replicate n .emp)) (bodyP P noX) noX) :
    wpM (runF kin C (n + 1) (.cons (.asg [1] (.app "_law_begun" (.cons (.v 0) .nil))) rest) [.scr ns]) {} (fun d _ => P d) fun _ _ => False := by
  have e1 : evE kin C (.app "_law_begun" (.cons (.v 0) .nil)) (.val (.scr ns) :: List.replicate (n + 1) .emp) = orcBegun [.scr ns] := ev_app (ev_es (ev_v rfl) ev_es0) (congrFun hC _)
  have key := (run_tr (kin := kin) (C := C) (n := n) (b := rest) (ds := [.scr ns, .drw]) (X := noX) t).go { beg := true } (fun d _ => P d) (fun _ _ => False) rfl (by show 0 + c ≤ drawMost; omega) (fun a n h _ => h) fun _ _ h _ => h
  have e2 : (runF kin C (n + 1) (.cons (.asg [1] (.app "_law_begun" (.cons (.v 0) .nil))) rest) [.scr ns]) {} = (runF kin C n rest [.scr ns, .drw]) { beg := true } := by
    unfold runF
    rw [evSs_cons, evS_asg]
    show ((M.quiet ((exO (evE kin C (.app "_law_begun" (.cons (.v 0) .nil)) (.val (.scr ns) :: List.replicate (n + 1) .emp)) (.val (.scr ns) :: List.replicate (n + 1) .emp) fun d => do
      let ρ' ← M.op (asgP [1] d (.val (.scr ns) :: List.replicate (n + 1) .emp))
      pure (.nx ρ')) >>= goOn kin C rest)) >>= _) {} = _
    rw [e1]
    have e3 : orcBegun [.scr ns] {} = .ret .drw { beg := true } := by
      show (if !(({} : Sto)).beg && decide ((({} : Sto)).n = 0) && scriptOk ns then T.ret D.drw { ({} : Sto) with beg := true } else .fail) = _
      rw [hs]; rfl
    show T.bind (T.quiet (T.bind (T.bind (T.att (orcBegun [.scr ns] {})) _) _)) _ = _
    rw [e3]
    rfl
  unfold wpM
  rw [e2]
  exact key
end
end RM
end
section
set_option Elab.async false
set_option linter.all false
set_option maxRecDepth 100000
set_option autoImplicit false
/-! values: what is shown tells lots apart -/
namespace RM
open PySem PySem.Spec PyProof.Rows L2

/-- the signs of what is shown -/
def shL (d : D) : List Nat := d.pd.shown.cps.toList
theorem ok_repr : ∀ c, c < 123 → okCh c = true → PySem.Builtin.Str.reprChar 39 c = [c] ∧ c ≠ 39 := by decide +kernel
theorem foldl_ok : ∀ (l : List Nat) (acc : Array Nat), (∀ c ∈ l, okCh c = true) → (l.foldl (fun out c => out ++ (PySem.Builtin.Str.reprChar 39 c).toArray) acc) = acc ++ l.toArray
  | [], acc, _ => by simp
  | c :: r, acc, h => by
    have hc := h c List.mem_cons_self
    rw [List.foldl_cons, (ok_repr c (okCh_lt hc) hc).1, foldl_ok r _ fun d hd => h d (List.mem_cons_of_mem _ hd)]
    simp
theorem shL_str {z : Str} (h : z.cps.toList.all okCh = true) : shL (.str z) = 39 :: (z.cps.toList ++ [39]) := by
  have h' : ∀ c ∈ z.cps.toList, okCh c = true := fun c hc => List.all_eq_true.mp h c hc
  have q : PySem.reprQuote z = 39 := by
    unfold PySem.reprQuote
    have : z.cps.contains 39 = false := by
      rw [Bool.eq_false_iff]
      intro hc
      have hm : 39 ∈ z.cps.toList := by simpa using hc
      have := h' 39 hm
      revert this; decide
    rw [this]; rfl
  show (PySem.reprText z).cps.toList = _
  unfold PySem.reprText
  rw [q]
  show ((z.cps.foldl (fun out c => out ++ (PySem.Builtin.Str.reprChar 39 c).toArray) #[39]).push 39).toList = _
  rw [← Array.foldl_toList, foldl_ok _ _ h']
  simp
theorem cps_app (a b : Str) : (a ++ b).cps.toList = a.cps.toList ++ b.cps.toList := by
  show (a.cps ++ b.cps).toList = _
  simp
/-- joined by ", " -/
def jn : List (List Nat) → List Nat
  | [] => []
  | [x] => x
  | x :: y :: r => x ++ 44 :: 32 :: jn (y :: r)
theorem jn_cons (x y : List Nat) (r : List (List Nat)) : jn (x :: y :: r) = x ++ 44 :: 32 :: jn (y :: r) := rfl
theorem join_jn : ∀ ts : List Str, (Str.join ", " ts).cps.toList = jn (ts.map fun t => t.cps.toList)
  | [] => rfl
  | [x] => rfl
  | x :: y :: r => by
    show (x ++ ", " ++ Str.join ", " (y :: r)).cps.toList = _
    rw [cps_app, cps_app, join_jn (y :: r)]
    show x.cps.toList ++ [44, 32] ++ jn _ = _
    simp [jn]
theorem shownAll_map : ∀ ds : List D, PyData.shownAll (D.pds ds) = ds.map fun d => d.pd.shown
  | [] => rfl
  | d :: ds => by
    show d.pd.shown :: PyData.shownAll (D.pds ds) = _
    rw [shownAll_map ds]; rfl
theorem shL_tup (ds : List D) : shL (.tup ds) = 40 :: (jn (ds.map shL) ++ (if ds.length == 1 then [44, 41] else [41])) := by
  show (PySem.tupleText (PyData.shownAll (D.pds ds))).cps.toList = _
  unfold PySem.tupleText
  rw [cps_app, cps_app, join_jn, shownAll_map, List.map_map, List.length_map]
  have e : ((if ds.length == 1 then ",)" else ")" : String) : Str).cps.toList = if ds.length == 1 then [44, 41] else [41] := by split <;> rfl
  rw [e]
  rfl
theorem digit_not (c : Char) (h : c.isDigit = true) : c.toNat ≠ 39 ∧ c.toNat ≠ 40 := by
  simp only [Char.isDigit, Bool.and_eq_true, decide_eq_true_eq] at h
  have e : c.val.toNat = c.toNat := rfl
  have h2 : 48 ≤ c.val.toNat := by simpa using UInt32.le_iff_toNat_le.mp h.1
  omega
theorem int_not (i : Int) : ∀ c ∈ shL (.int i), c ≠ 39 ∧ c ≠ 40 := by
  intro c hc
  have hc : c ∈ (Str.ofString (toString i)).cps.toList := hc
  rw [Str.ofString_eq_toList] at hc
  simp only [List.mem_map] at hc
  obtain ⟨k, hk, rfl⟩ := hc
  have nat : ∀ n : Nat, k ∈ (Nat.repr n).toList → k.toNat ≠ 39 ∧ k.toNat ≠ 40 := fun n h => by
    rw [Nat.toList_repr] at h
    exact digit_not k (Nat.isDigit_of_mem_toDigits (by decide) (by decide) h)
  rw [Int.toString_eq_repr, Int.repr_eq_if] at hk
  split at hk
  · exact nat _ hk
  · rw [String.toList_append, List.mem_append] at hk
    rcases hk with hk | hk
    · have : k = '-' := by simpa using hk
      subst this; decide
    · exact nat _ hk
theorem lst_head (ts : List Str) : ∃ r, (PySem.listText ts).cps.toList = 91 :: r := by
  have key : ∀ (ts : List Str) (k : Nat) (acc : Str) (r : List Nat), acc.cps.toList = 91 :: r → ∃ r', (PySem.textFrom k acc ts).cps.toList = 91 :: r' := by
    intro ts
    induction ts with
    | nil => intro k acc r h; exact ⟨r, h⟩
    | cons t ts ih =>
      intro k acc r h
      refine ih (k + 1) _ (r ++ ((if k > 0 then ", " else "" : String) : Str).cps.toList ++ t.cps.toList) ?_
      rw [cps_app, cps_app, h]
      simp
  obtain ⟨r, h⟩ := key ts 0 "[" [] rfl
  exact ⟨r ++ [93], by
    show (PySem.textFrom 0 "[" ts ++ "]" : Str).cps.toList = _
    rw [cps_app, h]; rfl⟩
/-- what begins like a text is one, what begins like a tuple is one -/
theorem sh_head {B : Nat} {d : D} {c : Nat} {r : List Nat} (h : d.fine B = true) (e : shL d = c :: r) (hc : c = 39 ∨ c = 40) : (c = 39 ∧ ∃ z, d = .str z ∧ z.cps.toList.all okCh = true) ∨ (c = 40 ∧ ∃ ds, d = .tup ds ∧ D.fines B ds = true) := by
  have no : ∀ {k : Nat} {r' : List Nat}, k ≠ 39 → k ≠ 40 → shL d = k :: r' → False := fun h1 h2 h3 => by
    rw [e] at h3
    cases h3
    rcases hc with hc | hc
    · exact h1 hc
    · exact h2 hc
  cases d with
  | non => exact (no (k := 78) (by decide) (by decide) rfl).elim
  | bl b => cases b <;> exact (no (by decide) (by decide) rfl).elim
  | int i =>
    have := int_not i c (by rw [e]; exact List.mem_cons_self)
    exact (no this.1 this.2 e).elim
  | str z =>
    have h : z.cps.toList.all okCh = true := h
    rw [shL_str h] at e
    cases e
    exact .inl ⟨rfl, z, rfl, h⟩
  | tup ds =>
    rw [shL_tup] at e
    cases e
    exact .inr ⟨rfl, ds, rfl, h⟩
  | lst ds =>
    obtain ⟨r', h'⟩ := lst_head (PyData.shownAll (D.pds ds))
    exact (no (by decide) (by decide) h').elim
  | dct kvs =>
    have : kvs = [] := by simpa [D.fine] using h
    subst this
    exact (no (k := 123) (by decide) (by decide) rfl).elim
  | ins _ _ => cases h
  | exc _ _ => cases h
  | scr _ => cases h
  | loc _ => cases h
  | drw => cases h
/-- texts between quotes are told apart -/
theorem quote_inj {a b r s : List Nat} (ha : a.all okCh = true) (hb : b.all okCh = true) (h : 39 :: (a ++ 39 :: r) = 39 :: (b ++ 39 :: s)) : a = b ∧ r = s := by
  have h := (List.cons.inj h).2
  induction a generalizing b with
  | nil =>
    cases b with
    | nil => exact ⟨rfl, (List.cons.inj h).2⟩
    | cons y b =>
      rw [List.nil_append, List.cons_append] at h
      have e := (List.cons.inj h).1
      rw [List.all_cons, Bool.and_eq_true, ← e] at hb
      exact absurd hb.1 (by decide)
  | cons x a ih =>
    rw [List.all_cons, Bool.and_eq_true] at ha
    cases b with
    | nil =>
      rw [List.nil_append, List.cons_append] at h
      have e := (List.cons.inj h).1
      rw [e] at ha
      exact absurd ha.1 (by decide)
    | cons y b =>
      rw [List.all_cons, Bool.and_eq_true] at hb
      rw [List.cons_append, List.cons_append] at h
      obtain ⟨e1, e2⟩ := List.cons.inj h
      obtain ⟨q1, q2⟩ := ih ha.2 hb.2 (congrArg (39 :: ·) e2) e2
      exact ⟨by rw [e1, q1], q2⟩
theorem str_ext {a b : Str} (h : a.cps.toList = b.cps.toList) : a = b := by
  cases a; cases b
  congr 1
  exact Array.toList_inj.mp h
theorem jn_inj {B : Nat} : ∀ {ds : List D} {ws : List Str}, D.fines B ds = true → (∀ w ∈ ws, w.cps.toList.all okCh = true) → ws ≠ [] → jn (ds.map shL) ++ [41] = jn (ws.map fun w => shL (.str w)) ++ [41] → ds = ws.map D.str
  | _, [], _, _, h, _ => absurd rfl h
  | [], w :: ws, _, hw, _, e => by
    cases ws with
    | nil => rw [List.map_cons, List.map_nil, List.map_nil, jn, jn, shL_str (hw w List.mem_cons_self)] at e; cases e
    | cons v ws => rw [List.map_cons, List.map_cons, List.map_nil, jn, jn_cons, shL_str (hw w List.mem_cons_self)] at e; cases e
  | d :: ds, w :: ws, hd, hw, _, e => by
    have hd : (d.fine B && D.fines B ds) = true := hd
    obtain ⟨d1, d2⟩ := (Bool.and_eq_true _ _).mp hd
    have hw1 := hw w List.mem_cons_self
    have hw2 : ∀ v ∈ ws, v.cps.toList.all okCh = true := fun v hv => hw v (List.mem_cons_of_mem _ hv)
    -- what comes behind the first
    have tailD : jn ((d :: ds).map shL) ++ [41] = shL d ++ (match ds with
        | [] => [41]
        | x :: r => 44 :: 32 :: (jn ((x :: r).map shL) ++ [41])) := by
      cases ds with
      | nil => rfl
      | cons x r => rw [List.map_cons, List.map_cons, jn_cons]; simp
    have tailW : jn ((w :: ws).map fun w => shL (.str w)) ++ [41] = shL (.str w) ++ (match ws with
        | [] => [41]
        | x :: r => 44 :: 32 :: (jn ((x :: r).map fun w => shL (.str w)) ++ [41])) := by
      cases ws with
      | nil => rfl
      | cons x r => rw [List.map_cons, List.map_cons, jn_cons]; simp
    rw [tailD, tailW, shL_str hw1] at e
    cases hs : shL d with
    | nil =>
      exfalso
      have : d.fine B = true := d1
      cases d with
      | non => cases hs
      | bl b => cases b <;> cases hs
      | int i =>
        rw [hs, List.nil_append] at e
        cases ds with
        | nil => cases e
        | cons x r => cases e
      | str z => rw [shL_str d1] at hs; cases hs
      | tup ds => rw [shL_tup] at hs; cases hs
      | lst ds => obtain ⟨r', h'⟩ := lst_head (PyData.shownAll (D.pds ds)); rw [show shL (.lst ds) = _ from h'] at hs; cases hs
      | dct kvs =>
        have : kvs = [] := by simpa [D.fine] using d1
        subst this
        cases hs
      | ins _ _ => cases d1
      | exc _ _ => cases d1
      | scr _ => cases d1
      | loc _ => cases d1
      | drw => cases d1
    | cons c r =>
      have ec : c = 39 := by
        rw [hs] at e
        exact (List.cons.inj e).1
      subst ec
      rcases sh_head d1 hs (.inl rfl) with ⟨_, z, rfl, hz⟩ | ⟨q, _⟩
      · rw [shL_str hz] at e
        simp only [List.cons_append, List.append_assoc, List.nil_append] at e
        obtain ⟨ez, er⟩ := quote_inj hz hw1 e
        have ez := str_ext ez
        subst ez
        cases ds with
        | nil =>
          cases ws with
          | nil => rfl
          | cons x r' => cases er
        | cons x r0 =>
          cases ws with
          | nil => cases er
          | cons y r' =>
            have er : jn ((x :: r0).map shL) ++ [41] = jn ((y :: r').map fun w => shL (.str w)) ++ [41] := (List.cons.inj (List.cons.inj er).2).2
            have ih := jn_inj (ds := x :: r0) (ws := y :: r') d2 hw2 (by simp) er
            rw [ih]; rfl
      · cases q
/-- what is shown as a lot of two or more is one -/
theorem shown_lot {B : Nat} {d : D} {ws : List Str} (hd : d.fine B = true) (hw : ∀ w ∈ ws, w.cps.toList.all okCh = true) (h2 : 2 ≤ ws.length) (e : d.pd.shown = (D.tup (ws.map D.str)).pd.shown) : d = .tup (ws.map D.str) := by
  have e : shL d = shL (.tup (ws.map D.str)) := congrArg (fun z : Str => z.cps.toList) e
  have h1 : (ws.map D.str).length ≠ 1 := by rw [List.length_map]; omega
  rw [shL_tup, if_neg (by simpa using h1), List.map_map] at e
  rcases sh_head hd e (.inr rfl) with ⟨q, _⟩ | ⟨_, ds, rfl, hf⟩
  · cases q
  · rw [shL_tup] at e
    have e := (List.cons.inj e).2
    have hne : ws ≠ [] := fun z => by rw [z] at h2; simp at h2
    by_cases hl : ds.length = 1
    · exfalso
      rw [if_pos (by simpa using hl)] at e
      match ds, hl, hf with
      | [x], _, hf =>
        obtain ⟨w, v, r, rfl⟩ : ∃ w v r, ws = w :: v :: r := by
          match ws, h2 with
          | w :: v :: r, _ => exact ⟨w, v, r, rfl⟩
        have hf : (x.fine B && D.fines B []) = true := hf
        have hf := ((Bool.and_eq_true _ _).mp hf).1
        have hw1 := hw w List.mem_cons_self
        have e : shL x ++ [44, 41] = (jn (shL (.str w) :: shL (.str v) :: r.map fun w => shL (.str w))) ++ [41] := e
        rw [jn_cons, shL_str hw1] at e
        cases hs : shL x with
        | nil => rw [hs] at e; cases e
        | cons c r0 =>
          have ec : c = 39 := by
            rw [hs] at e
            exact (List.cons.inj e).1
          subst ec
          rcases sh_head hf hs (.inl rfl) with ⟨_, z, rfl, hz⟩ | ⟨q, _⟩
          · rw [shL_str hz] at e
            simp only [List.cons_append, List.append_assoc, List.nil_append] at e
            obtain ⟨_, er⟩ := quote_inj hz hw1 e
            have := (List.cons.inj (List.cons.inj er).2).1
            cases this
          · cases q
    · rw [if_neg (by simpa using hl)] at e
      rw [jn_inj hf hw hne e]
theorem word_ok {z : Str} (h : isW z = true) : z.cps.toList.all okCh = true := by
  obtain ⟨_, h2⟩ := (Bool.and_eq_true _ _).mp h
  rw [List.all_eq_true]
  intro c hc
  have := of_decide_eq_true (List.all_eq_true.mp h2 c hc)
  have lt : ∀ c ∈ letters, okCh c = true := by decide +kernel
  exact lt c this
/-! ### things made of words -/
theorem th_word {B e : Nat} {z : Str} (h : isW z = true) : Th B 9 e (.str z) := by
  rw [mkS_cps z]
  refine (Th.str fun c hc => List.all_eq_true.mp (word_ok h) c hc).mono (Nat.le_refl _) ?_ (Nat.le_refl _)
  obtain ⟨h1, _⟩ := (Bool.and_eq_true _ _).mp h
  have := (of_decide_eq_true h1).2
  have e : z.cps.toList.length = z.length := by simp [Str.length]
  omega
theorem ths_words {B e : Nat} : ∀ {ws : List Str}, (∀ w ∈ ws, isW w = true) → Ths B (9 * ws.length) e (ws.map D.str)
  | [], _ => .nil
  | w :: ws, h => by
    have := Ths.cons (th_word (B := B) (e := e) (h w List.mem_cons_self)) (ths_words fun x hx => h x (List.mem_cons_of_mem _ hx))
    exact this.mono (Nat.le_refl _) (by simp; omega) (Nat.le_refl _)
theorem ths_lot {n : Nat} {nm : Nat → Str} (N : Nm n nm) {B e : Nat} {l : List Nat} (h : Bel n l) : Ths B (9 * l.length) e (l.map (roadV nm)) := by
  have := ths_words (B := B) (e := e) (ws := l.map nm) fun w hw => by
    obtain ⟨i, hi, rfl⟩ := List.mem_map.mp hw
    exact N.w i (h i hi)
  rw [List.map_map, List.length_map] at this
  exact this
theorem th_lot {n : Nat} {nm : Nat → Str} (N : Nm n nm) {B e : Nat} {l : List Nat} (h : Bel n l) : Th B (9 * l.length + 1) (e + 1) (lotV nm l) := Th.tup (ths_lot N h)
theorem ths_lots {n : Nat} {nm : Nat → Str} (N : Nm n nm) {B e k : Nat} : ∀ {ls : List (List Nat)}, (∀ l ∈ ls, Bel n l ∧ l.length ≤ k) → Ths B ((9 * k + 1) * ls.length) (e + 1) (ls.map (lotV nm))
  | [], _ => .nil
  | l :: ls, h => by
    have h1 := h l List.mem_cons_self
    have := Ths.cons (th_lot N (B := B) (e := e) h1.1) (ths_lots N fun m hm => h m (List.mem_cons_of_mem _ hm))
    refine this.mono (Nat.le_refl _) ?_ (Nat.le_refl _)
    rw [List.length_cons, Nat.mul_succ]
    have := h1.2
    omega
end RM
end
section
set_option Elab.async false
set_option linter.all false
set_option maxRecDepth 100000
set_option autoImplicit false
/-! values: loops that end at the first bad item; lots told; couples, meetings made -/
namespace RM
open PySem PySem.Spec PyProof.Rows L2

/-- the first bad one -/
def firstB (bad : Nat → D → Bool) : Nat → List D → Option (Nat × D)
  | _, [] => none
  | i, x :: xs => if bad i x then some (i, x) else firstB bad (i + 1) xs
theorem firstB_congr {b1 b2 : Nat → D → Bool} : ∀ {xs : List D} {i : Nat}, (∀ j x, xs[j]? = some x → (∀ k y, k < j → xs[k]? = some y → b1 (i + k) y = false) → b1 (i + j) x = b2 (i + j) x) → firstB b1 i xs = firstB b2 i xs
  | [], _, _ => rfl
  | x :: xs, i, h => by
    have h0 := h 0 x rfl fun k y hk => by omega
    rw [Nat.add_zero] at h0
    unfold firstB
    rw [← h0]
    cases hb : b1 i x with
    | true => rfl
    | false =>
      simp only [Bool.false_eq_true, if_false]
      refine firstB_congr fun j y hy hk => ?_
      have := h (j + 1) y (by simpa using hy) fun k z hkj hz => by
        cases k with
        | zero =>
          have : x = z := by simpa using hz
          subst this
          exact hb
        | succ k =>
          have := hk k z (by omega) (by simpa using hz)
          rw [show i + 1 + k = i + (k + 1) by omega] at this
          exact this
      rw [show i + (j + 1) = i + 1 + j by omega] at this
      exact this
theorem firstB_none {bad : Nat → D → Bool} : ∀ {xs : List D} {i : Nat}, firstB bad i xs = none → ∀ j x, xs[j]? = some x → bad (i + j) x = false
  | [], _, _, j, x, hx => by simp at hx
  | y :: xs, i, h, j, x, hx => by
    unfold firstB at h
    split at h
    · cases h
    · rename_i hb
      cases j with
      | zero =>
        have : y = x := by simpa using hx
        subst this
        simpa using hb
      | succ j =>
        have := firstB_none h j x (by simpa using hx)
        rw [show i + 1 + j = i + (j + 1) by omega] at this
        exact this
theorem firstB_le {bad : Nat → D → Bool} : ∀ {xs : List D} {i j : Nat} {x : D}, firstB bad i xs = some (j, x) → i ≤ j ∧ j < i + xs.length ∧ xs[j - i]? = some x
  | [], _, _, _, h => by cases h
  | y :: xs, i, j, x, h => by
    unfold firstB at h
    split at h
    · cases h
      exact ⟨Nat.le_refl _, by simp, by simp⟩
    · obtain ⟨h1, h2, h3⟩ := firstB_le h
      refine ⟨by omega, by simp; omega, ?_⟩
      rw [show j - i = (j - (i + 1)) + 1 by omega]
      simpa using h3
def Out.stops : Out → Prop
  | .ret _ => True
  | .exc _ _ => True
  | _ => False
section
variable {kin : Kin} {C : Orc} {ρ ρ1 : Fe} {r b : Ss} {it : I} {p : List Nat} {xs : List D}
theorem forM_exit {f : D → Fe → M Out} (v : Nat → D → D) (I : Nat → Fe → Prop) (bad : Nat → D → Bool) (E : Nat → D → Out → Prop) (hE : ∀ i x o, E i x o → o.stops) : ∀ {xs : List D} {i : Nat} {ρ : Fe}, I i ρ →
    (∀ j x ρ, xs[j]? = some x → I (i + j) ρ → if bad (i + j) x then ∃ o, f (v (i + j) x) ρ = pure o ∧ E (i + j) x o else ∃ ρ', f (v (i + j) x) ρ = pure (.nx ρ') ∧ I (i + j + 1) ρ') →
    match firstB bad i xs with
    | none => ∃ ρ', forM f ((xs.zipIdx i).map fun p => v p.2 p.1) ρ = pure (.nx ρ') ∧ I (i + xs.length) ρ'
    | some (j, x) => ∃ o, forM f ((xs.zipIdx i).map fun p => v p.2 p.1) ρ = pure o ∧ E j x o
  | [], i, ρ, h0, _ => ⟨ρ, rfl, h0⟩
  | x :: xs, i, ρ, h0, hs => by
    have h1 := hs 0 x ρ rfl h0
    rw [Nat.add_zero] at h1
    rw [List.zipIdx_cons, List.map_cons]
    unfold firstB
    cases hb : bad i x with
    | true =>
      rw [if_pos hb] at h1
      obtain ⟨o, e, q⟩ := h1
      simp only [if_true]
      refine ⟨o, ?_, q⟩
      unfold forM
      rw [e, pure_bind]
      have := hE _ _ _ q
      cases o <;> first | rfl | exact this.elim
    | false =>
      rw [if_neg (by rw [hb]; decide)] at h1
      obtain ⟨ρ', e, q⟩ := h1
      simp only [Bool.false_eq_true, if_false]
      have ih := forM_exit (f := f) v I bad E hE (xs := xs) (i := i + 1) q fun j y ρ2 hy hi => by
        have := hs (j + 1) y ρ2 (by simpa using hy) (by rw [show i + (j + 1) = i + 1 + j by omega]; exact hi)
        rw [show i + (j + 1) = i + 1 + j by omega] at this
        exact this
      have ef : forM f (v i x :: ((xs.zipIdx (i + 1)).map fun p => v p.2 p.1)) ρ = forM f ((xs.zipIdx (i + 1)).map fun p => v p.2 p.1) ρ' := by
        conv => lhs; unfold forM
        rw [e, pure_bind]
      rw [ef, show i + (x :: xs).length = i + 1 + xs.length by simp; omega]
      exact ih
theorem frl_exitV (v : Nat → D → D) (I : Nat → Fe → Prop) (bad : Nat → D → Bool) (E : Nat → D → Out → Prop) (hE : ∀ i x o, E i x o → o.stops) (h : evI kin C it ρ = pure (xs.zipIdx.map fun p => v p.2 p.1)) (h0 : I 0 ρ)
    (hs : ∀ i x ρ, xs[i]? = some x → I i ρ → ∃ ρ1, asgP p (v i x) ρ = some ρ1 ∧ if bad i x then ∃ o, evSs kin C b ρ1 = pure o ∧ E i x o else ∃ ρ', evSs kin C b ρ1 = pure (.nx ρ') ∧ I (i + 1) ρ') :
    match firstB bad 0 xs with
    | none => ∃ ρ', evSs kin C (.cons (.frl p it b) r) ρ = evSs kin C r ρ' ∧ I xs.length ρ'
    | some (j, x) => ∃ o, evSs kin C (.cons (.frl p it b) r) ρ = pure o ∧ E j x o := by
  have key := forM_exit (f := fun x ρ => do
      let ρ1 ← M.op (asgP p x ρ)
      evSs kin C b ρ1) v I bad E hE (xs := xs) (i := 0) h0 fun j x ρ' hx hi => by
    rw [Nat.zero_add] at hi ⊢
    obtain ⟨ρ1, e1, q⟩ := hs j x ρ' hx hi
    cases hb : bad j x with
    | true =>
      rw [if_pos hb] at q
      obtain ⟨o, e2, q⟩ := q
      rw [if_pos rfl]
      exact ⟨o, by rw [e1]; simp only [op_some, pure_bind, e2], q⟩
    | false =>
      rw [if_neg (by rw [hb]; decide)] at q
      obtain ⟨ρ2, e2, q⟩ := q
      rw [if_neg (by decide)]
      exact ⟨ρ2, by rw [e1]; simp only [op_some, pure_bind, e2], q⟩
  have ef : ∀ o, forM (fun x ρ => do
      let ρ1 ← M.op (asgP p x ρ)
      evSs kin C b ρ1) (xs.zipIdx.map fun p => v p.2 p.1) ρ = pure o → evSs kin C (.cons (.frl p it b) r) ρ = goOn kin C r o := fun o e => by
    rw [evSs_cons]
    unfold evS
    rw [h]
    show (forM (fun x ρ => do
      let ρ1 ← M.op (asgP p x ρ)
      evSs kin C b ρ1) (xs.zipIdx.map fun p => v p.2 p.1) ρ) >>= goOn kin C r = _
    rw [e]; rfl
  rw [Nat.zero_add] at key
  split
  · rename_i e
    rw [e] at key
    obtain ⟨ρ', e', q⟩ := key
    exact ⟨ρ', (ef _ e').trans rfl, q⟩
  · rename_i j x e
    rw [e] at key
    obtain ⟨o, e', q⟩ := key
    refine ⟨o, (ef _ e').trans ?_, q⟩
    have := hE _ _ _ q
    cases o <;> first | rfl | exact this.elim
/-- a for loop that ends at the first bad item -/
theorem frl_exit (I : Nat → Fe → Prop) (bad : Nat → D → Bool) (E : Nat → D → Out → Prop) (hE : ∀ i x o, E i x o → o.stops) (h : evI kin C it ρ = pure xs) (h0 : I 0 ρ)
    (hs : ∀ i x ρ, xs[i]? = some x → I i ρ → ∃ ρ1, asgP p x ρ = some ρ1 ∧ if bad i x then ∃ o, evSs kin C b ρ1 = pure o ∧ E i x o else ∃ ρ', evSs kin C b ρ1 = pure (.nx ρ') ∧ I (i + 1) ρ') :
    match firstB bad 0 xs with
    | none => ∃ ρ', evSs kin C (.cons (.frl p it b) r) ρ = evSs kin C r ρ' ∧ I xs.length ρ'
    | some (j, x) => ∃ o, evSs kin C (.cons (.frl p it b) r) ρ = pure o ∧ E j x o :=
  frl_exitV (fun _ x => x) I bad E hE (by rw [h]; congr 1; exact (List.zipIdx_map_fst 0 xs).symm) h0 hs
/-- over enumerate(..) -/
theorem frl_exitE (I : Nat → Fe → Prop) (bad : Nat → D → Bool) (E : Nat → D → Out → Prop) (hE : ∀ i x o, E i x o → o.stops) (h : evI kin C it ρ = pure (enumD xs)) (h0 : I 0 ρ)
    (hs : ∀ i x ρ, xs[i]? = some x → I i ρ → ∃ ρ1, asgP p (.tup [.int (i : Nat), x]) ρ = some ρ1 ∧ if bad i x then ∃ o, evSs kin C b ρ1 = pure o ∧ E i x o else ∃ ρ', evSs kin C b ρ1 = pure (.nx ρ') ∧ I (i + 1) ρ') :
    match firstB bad 0 xs with
    | none => ∃ ρ', evSs kin C (.cons (.frl p it b) r) ρ = evSs kin C r ρ' ∧ I xs.length ρ'
    | some (j, x) => ∃ o, evSs kin C (.cons (.frl p it b) r) ρ = pure o ∧ E j x o :=
  frl_exitV (fun i x => .tup [.int (i : Nat), x]) I bad E hE h h0 hs
end

/-! ### lots among roads -/
abbrev rdS (n : Nat) (nm : Nat → Str) : List Str := (List.range n).map nm
theorem roadsV_eq {n : Nat} {nm : Nat → Str} : roadsV n nm = .tup ((rdS n nm).map D.str) := by rw [List.map_map]; rfl
section
variable {n : Nat} {nm : Nat → Str}
theorem asc_pw (N : Nm n nm) : ∀ {l : List Nat}, Bel n l → (ascS (l.map nm) = true ↔ l.Pairwise (· < ·))
  | [], _ => ⟨fun _ => .nil, fun _ => rfl⟩
  | [i], _ => ⟨fun _ => List.pairwise_singleton _ _, fun _ => rfl⟩
  | i :: j :: l, h => by
    have hi := h i (by simp)
    have hj := h j (by simp)
    have ih := asc_pw N (l := j :: l) fun x hx => h x (List.mem_cons_of_mem _ hx)
    show (ltS (nm i) (nm j) && ascS ((j :: l).map nm)) = true ↔ _
    rw [Bool.and_eq_true, ih, N.lt i j hi hj, decide_eq_true_eq, List.pairwise_cons (a := i)]
    constructor
    · rintro ⟨h1, h2⟩
      refine ⟨fun x hx => ?_, h2⟩
      rcases List.mem_cons.mp hx with rfl | hx
      · exact h1
      · exact Nat.lt_trans h1 ((List.pairwise_cons.mp h2).1 x hx)
    · rintro ⟨h1, h2⟩
      exact ⟨h1 j List.mem_cons_self, h2⟩
theorem strs_idx : ∀ {zs : List Str}, (∀ z ∈ zs, z ∈ rdS n nm) → ∃ l, Bel n l ∧ zs = l.map nm
  | [], _ => ⟨[], (fun _ h => nomatch h), rfl⟩
  | z :: zs, h => by
    obtain ⟨l, hb, e⟩ := strs_idx (zs := zs) fun x hx => h x (List.mem_cons_of_mem _ hx)
    obtain ⟨i, hi, rfl⟩ := List.mem_map.mp (h z List.mem_cons_self)
    refine ⟨i :: l, fun x hx => ?_, by rw [e]; rfl⟩
    rcases List.mem_cons.mp hx with rfl | hx
    · exact List.mem_range.mp hi
    · exact hb x hx
/-- a lot by the places of its roads -/
theorem lot_iff (N : Nm n nm) {d : D} : isLotB (rdS n nm) d = true ↔ ∃ l, Bel n l ∧ l.Pairwise (· < ·) ∧ d = lotV nm l := by
  unfold isLotB
  constructor
  · intro h
    obtain ⟨h1, h2⟩ := (Bool.and_eq_true _ _).mp h
    obtain ⟨zs, rfl, hw, ha⟩ := asc_tup h1
    have h2 : ((strsOf (zs.map D.str)).all fun z => decide (z ∈ rdS n nm)) = true := h2
    rw [strsOf_map] at h2
    obtain ⟨l, hb, rfl⟩ := strs_idx (n := n) (nm := nm) fun z hz => of_decide_eq_true (List.all_eq_true.mp h2 z hz)
    exact ⟨l, hb, (asc_pw N hb).mp ha, by rw [List.map_map]; rfl⟩
  · rintro ⟨l, hb, hp, rfl⟩
    have e : lotV nm l = .tup ((l.map nm).map D.str) := by rw [List.map_map]; rfl
    rw [e, Bool.and_eq_true]
    constructor
    · show (((l.map nm).map D.str).all isWd && ascS (strsOf ((l.map nm).map D.str))) = true
      rw [strsOf_map, Bool.and_eq_true, (asc_pw N hb)]
      refine ⟨?_, hp⟩
      rw [List.all_eq_true]
      intro x hx
      obtain ⟨z, hz, rfl⟩ := List.mem_map.mp hx
      obtain ⟨i, hi, rfl⟩ := List.mem_map.mp hz
      exact N.w i (hb i hi)
    · show ((strsOf ((l.map nm).map D.str)).all fun z => decide (z ∈ rdS n nm)) = true
      rw [strsOf_map, List.all_eq_true]
      intro z hz
      obtain ⟨i, hi, rfl⟩ := List.mem_map.mp hz
      exact decide_eq_true (List.mem_map_of_mem (List.mem_range.mpr (hb i hi)))
theorem isRd_roads (N : Nm n nm) (h1 : 1 ≤ n) (h7 : n ≤ 7) : isRd (roadsV n nm) = true := by
  have h := (lot_iff N (d := roadsV n nm)).mpr ⟨List.range n, bel_range, List.pairwise_lt_range, rfl⟩
  unfold isLotB at h
  have h := ((Bool.and_eq_true _ _).mp h).1
  show (isAsc (roadsV n nm) && decide (1 ≤ ((List.range n).map (roadV nm)).length ∧ ((List.range n).map (roadV nm)).length ≤ 7)) = true
  rw [h, Bool.true_and, List.length_map, List.length_range]
  exact decide_eq_true ⟨h1, h7⟩
theorem mem_couples {l : List Nat} : l ∈ couplesI n ↔ ∃ i j, i < j ∧ j < n ∧ l = [i, j] := by
  unfold couplesI
  rw [List.mem_flatMap]
  constructor
  · rintro ⟨i, hi, h⟩
    obtain ⟨j, hj, rfl⟩ := List.mem_map.mp h
    obtain ⟨k, hk, e⟩ := List.mem_iff_getElem.mp hj
    rw [List.getElem_drop, List.getElem_range] at e
    rw [List.length_drop, List.length_range] at hk
    exact ⟨i, j, by omega, by omega, rfl⟩
  · rintro ⟨i, j, hij, hj, rfl⟩
    refine ⟨i, List.mem_range.mpr (by omega), List.mem_map.mpr ⟨j, ?_, rfl⟩⟩
    refine List.mem_iff_getElem.mpr ⟨j - (i + 1), by rw [List.length_drop, List.length_range]; omega, ?_⟩
    rw [List.getElem_drop, List.getElem_range]
    omega
theorem couple_bel {l : List Nat} (h : l ∈ couplesI n) : Bel n l ∧ l.length = 2 ∧ l.Pairwise (· < ·) := by
  obtain ⟨i, j, hij, hj, rfl⟩ := mem_couples.mp h
  refine ⟨fun x hx => ?_, rfl, ?_⟩
  · simp only [List.mem_cons, List.not_mem_nil, or_false] at hx
    omega
  · simp [hij]
/-- a couple among roads -/
def isCplB (rs : List Str) (d : D) : Bool := isLotB rs d && (match d with | .tup xs => decide (xs.length = 2) | _ => false)
theorem cpl_iff (N : Nm n nm) {d : D} : isCplB (rdS n nm) d = true ↔ ∃ l ∈ couplesI n, d = lotV nm l := by
  unfold isCplB
  rw [Bool.and_eq_true, lot_iff N]
  constructor
  · rintro ⟨⟨l, hb, hp, rfl⟩, h2⟩
    have h2 : decide ((l.map (roadV nm)).length = 2) = true := h2
    have h2 := of_decide_eq_true h2
    rw [List.length_map] at h2
    obtain ⟨i, j, rfl⟩ : ∃ i j, l = [i, j] := by
      match l, h2 with
      | [i, j], _ => exact ⟨i, j, rfl⟩
    have hij : i < j := by simpa using hp
    exact ⟨_, mem_couples.mpr ⟨i, j, hij, hb j (by simp), rfl⟩, rfl⟩
  · rintro ⟨l, hl, rfl⟩
    obtain ⟨h1, h2, h3⟩ := couple_bel hl
    exact ⟨⟨l, h1, h3, rfl⟩, by show decide ((l.map (roadV nm)).length = 2) = true; rw [List.length_map, h2]; rfl⟩
theorem is_couple_run {kin : Kin} {C : Orc} {rs : List Str} {d : D} (hC : C "is_lot" [.tup (rs.map D.str), d] = pure (.bl (isLotB rs d))) : runF kin C 0 c_is_couple [.tup (rs.map D.str), d] = pure (.bl (isCplB rs d)) := by
  refine run_ret (ret_pure ?_)
  show evE kin C _ [.val (.tup (rs.map D.str)), .val d] = _
  unfold isCplB
  cases ha : isLotB rs d with
  | false =>
    rw [ha] at hC
    exact ev_and (p := false) (q := false) (ev_app (ev_es (ev_v rfl) (ev_es (ev_v rfl) ev_es0)) hC) fun z => by cases z
  | true =>
    rw [ha] at hC
    have h1 := ha
    unfold isLotB at h1
    obtain ⟨zs, rfl, _, _⟩ := asc_tup ((Bool.and_eq_true _ _).mp h1).1
    refine ev_and (ev_app (ev_es (ev_v rfl) (ev_es (ev_v rfl) ev_es0)) hC) fun _ => ?_
    refine (ev_cmp (ev_bi1 (ev_b rfl) len_tup) ev_c (eq_int _ _)).trans ?_
    congr 2
    show decide (((zs.map D.str).length : Int) = 2) = decide ((zs.map D.str).length = 2)
    congr 1
    simp only [eq_iff_iff]
    omega
/-! ### a lot among lots -/
theorem Nm.any_lot (N : Nm n nm) {l : List Nat} (h : Bel n l) : ∀ {ls : List (List Nat)}, (∀ m ∈ ls, Bel n m) → ((ls.map (lotV nm)).any fun z => PyData.eqv z.pd (lotV nm l).pd) = decide (l ∈ ls)
  | [], _ => rfl
  | m :: ls, hb => by
    rw [List.map_cons, List.any_cons, Nm.any_lot N h fun x hx => hb x (List.mem_cons_of_mem _ hx)]
    have e : PyData.eqv (lotV nm m).pd (lotV nm l).pd = decide (m = l) := N.eqv_lot (hb m List.mem_cons_self) h
    rw [e]
    by_cases z : m = l
    · subst z; simp
    · have : ¬ l = m := fun y => z y.symm
      simp [z, this]
theorem depth_lots : ∀ ls : List (List Nat), PyData.depthAll (D.pds (ls.map (lotV nm))) ≤ 2
  | [] => Nat.zero_le _
  | l :: ls => by
    have h1 := depth_lot (nm := nm) l
    have h2 := depth_lots ls
    simp only [List.map_cons, D.pds, D.pd, PyData.depthAll, PyData.depth] at h1 h2 ⊢
    omega
theorem depth_lotV (l : List Nat) : (lotV nm l).pd.depth ≤ 2 := by
  have h1 := depth_lot (nm := nm) l
  simp only [D.pd, PyData.depth]
  omega
theorem pure_lotV (l : List Nat) : (lotV nm l).pure = true := by
  show D.pures (l.map (roadV nm)) = true
  exact pure_lot l
theorem Nm.in_lots (N : Nm n nm) {l : List Nat} {ls : List (List Nat)} (h : Bel n l) (hb : ∀ m ∈ ls, Bel n m) : cmpD .In (lotV nm l) (.lst (ls.map (lotV nm))) = some (.bl (decide (l ∈ ls))) := by
  simp only [cmpD]
  rw [if_pos ?_, N.any_lot h hb]
  have := depth_lotV (nm := nm) l
  rw [pure_lotV, pures_lots, Bool.true_and, Bool.true_and]
  exact decide_eq_true (by omega)
theorem Nm.in_lotsT (N : Nm n nm) {l : List Nat} {ls : List (List Nat)} (h : Bel n l) (hb : ∀ m ∈ ls, Bel n m) : cmpD .In (lotV nm l) (.tup (ls.map (lotV nm))) = some (.bl (decide (l ∈ ls))) := by
  simp only [cmpD]
  rw [if_pos ?_, N.any_lot h hb]
  have := depth_lotV (nm := nm) l
  rw [pure_lotV, pures_lots, Bool.true_and, Bool.true_and]
  exact decide_eq_true (by omega)
end
end RM
end
section
set_option Elab.async false
set_option linter.all false
set_option maxRecDepth 100000
set_option autoImplicit false
/-! values: meetings made -/
namespace RM
open PySem PySem.Spec PyProof.Rows L2
section
variable {kin : Kin} {C : Orc} {ρ ρ1 : Fe} {r : Ss} {e : E} {v x : D} {i : Nat} {f c : Str} {fs : List (Str × D)} {n : Nat} {b : Ss} {ds : List D}
theorem fst_pure (h : evE kin C e ρ = pure v) (h2 : fstF kin.fld i f v ρ = some ρ1) : evSs kin C (.cons (.fst i f e) r) ρ = evSs kin C r ρ1 := by
  rw [evSs_cons]
  unfold evS
  rw [h]
  show (M.op (fstF kin.fld i f v ρ) >>= fun ρ' => pure (.nx ρ')) >>= goOn kin C r = _
  rw [h2]; rfl
theorem ex_pure (h : evE kin C e ρ = pure v) : evSs kin C (.cons (.ex e) r) ρ = evSs kin C r ρ := by
  rw [evSs_cons]
  unfold evS
  rw [h]; rfl
theorem ex_raise (h : evE kin C e ρ = M.raise x) : evSs kin C (.cons (.ex e) r) ρ = pure (.exc x ρ) := by
  rw [evSs_cons]
  unfold evS
  rw [h]; rfl
theorem runI_ok (h : evSs kin C b (.new c [] :: (ds.map Slot.val ++ List.replicate n .emp)) = pure (.nx ρ)) (h0 : ρ[0]? = some (.new c fs)) : runI kin C c n b ds = pure (.ins c fs) := by
  unfold runI
  rw [h]
  show (match ρ[0]? with
    | some (Slot.new c fs) => pure (D.ins c fs)
    | _ => M.fail : M D) = _
  rw [h0]
theorem runI_exc (h : evSs kin C b (.new c [] :: (ds.map Slot.val ++ List.replicate n .emp)) = pure (.exc x ρ)) : runI kin C c n b ds = M.raise x := by
  unfold runI
  rw [h]; rfl
/-- the first field of an instance, or a further one -/
theorem fst_new {a : D} (hc : (kin.fld c).contains f = true) (hn : (fs.map (·.1)).contains f = false) (hl : fs.length < 100) (ha : ρ.all (fun s => !s.isNew) = true) : fstF kin.fld 0 f a (.new c fs :: ρ) = some (.new c (fs ++ [(f, a)]) :: ρ) := by
  unfold fstF
  show (if (kin.fld c).contains f && !(fs.map (·.1)).contains f && decide (fs.length < 100) && (Slot.emp :: ρ).all (fun s => !s.isNew) then some (Slot.new c (fs ++ [(f, a)]) :: ρ) else none) = _
  rw [if_pos]
  rw [hc, hn, List.all_cons, ha]
  simp [Slot.isNew, hl]
theorem isi2_run {a : D} {s t : String} (h : evE kin C e ρ = pure a) (hb : a.basic kin = true) : evE kin C (.bi (.isi [.b s, .b t]) (.cons e .nil)) ρ = pure (.bl (isiD kin a (.b s) || isiD kin a (.b t))) := by
  refine ev_bi1 h ?_
  show (if a.basic kin then some (D.bl ([Ty.b s, Ty.b t].any (isiD kin a))) else none) = _
  rw [if_pos hb]
  simp
end
/-- a list or a tuple -/
def D.row : D → Option (List D)
  | .tup xs => some xs
  | .lst xs => some xs
  | _ => none
theorem isi_row {kin : Kin} {d : D} (hs : ∀ ns, d ≠ .scr ns) : (isiD kin d (.b "list") || isiD kin d (.b "tuple")) = d.row.isSome := by
  cases d <;> first | rfl | exact absurd rfl (hs _) | decide
theorem row_cut {d : D} {xs : List D} (h : d.row = some xs) (i : Nat) (hi : i ≤ xs.length) : ∃ d', slD d .non (.int (i : Int)) = some d' ∧ d'.row = some (xs.take i) := by
  have e : cutD xs none (some (i : Int)) = xs.take i := by
    unfold cutD
    rw [HT.sIx_nat, show HT.sIx xs.length 0 none = 0 from rfl, show min i xs.length = i by omega]
    rfl
  cases d with
  | tup ys => cases h; exact ⟨.tup (xs.take i), by show some (D.tup (cutD xs none (some (i : Int)))) = _; rw [e], rfl⟩
  | lst ys => cases h; exact ⟨.lst (xs.take i), by show some (D.lst (cutD xs none (some (i : Int)))) = _; rw [e], rfl⟩
  | _ => cases h
theorem row_in {d x : D} {xs : List D} (h : d.row = some xs) (hx : x.pure = true) (hp : D.pures xs = true) (hd : x.pd.depth ≤ 64) : cmpD .In x d = some (.bl (xs.any fun z => PyData.eqv z.pd x.pd)) := by
  cases d with
  | tup ys => cases h; simp only [cmpD]; rw [if_pos (by rw [hx, hp]; simpa using hd)]
  | lst ys => cases h; simp only [cmpD]; rw [if_pos (by rw [hx, hp]; simpa using hd)]
  | _ => cases h
theorem row_items {d : D} {xs : List D} (h : d.row = some xs) : itemsD d = some xs := by cases d <;> first | (cases h; done) | exact h
theorem row_enum {kin : Kin} {C : Orc} {ρ : Fe} {e : E} {d : D} {xs : List D} (h : d.row = some xs) (he : evE kin C e ρ = pure d) : evI kin C (.enum e) ρ = pure (enumD xs) := by
  unfold evI
  rw [he]
  cases d with
  | tup ys => cases h; rfl
  | lst ys => cases h; rfl
  | _ => cases h

section
variable {n : Nat} {nm : Nat → Str}
/-- all couples -/
theorem cpls_of (N : Nm n nm) : ∀ {xs : List D}, (∀ x ∈ xs, isCplB (rdS n nm) x = true) → ∃ ls : List (List Nat), xs = ls.map (lotV nm) ∧ ∀ l ∈ ls, l ∈ couplesI n
  | [], _ => ⟨[], rfl, (fun _ h => nomatch h)⟩
  | x :: xs, h => by
    obtain ⟨ls, e, hb⟩ := cpls_of N (xs := xs) fun y hy => h y (List.mem_cons_of_mem _ hy)
    obtain ⟨l, hl, rfl⟩ := (cpl_iff N).mp (h x List.mem_cons_self)
    refine ⟨l :: ls, by rw [e]; rfl, fun m hm => ?_⟩
    rcases List.mem_cons.mp hm with rfl | hm
    · exact hl
    · exact hb m hm
/-- the item that meetings are refused for -/
def badM (rs : List Str) (xs : List D) (i : Nat) (x : D) : Bool := !isCplB rs x || ((xs.take i).any fun z => PyData.eqv z.pd x.pd)
theorem take_mem {α : Type} {xs : List α} {i : Nat} {y : α} (h : y ∈ xs.take i) : ∃ k, k < i ∧ xs[k]? = some y := by
  obtain ⟨k, hk, e⟩ := List.mem_iff_getElem.mp h
  rw [List.length_take] at hk
  refine ⟨k, by omega, ?_⟩
  rw [List.getElem_take] at e
  rw [List.getElem?_eq_getElem (by omega), e]
theorem badM_cpl {rs : List Str} {xs : List D} {i : Nat} {x : D} (h : badM rs xs i x = false) : isCplB rs x = true := by
  unfold badM at h
  rw [Bool.or_eq_false_iff] at h
  simpa using h.1
theorem dup_eval {kin : Kin} {C : Orc} {ρ : Fe} (N : Nm n nm) {d x : D} {xs : List D} {i a b c : Nat} (hd : d.row = some xs) (hi : i ≤ xs.length) (hr : ∀ k y, k < i → xs[k]? = some y → isCplB (rdS n nm) y = true) (hx : isCplB (rdS n nm) x = true) (ha : ρ[a]? = some (.val x)) (hb : ρ[b]? = some (.val d)) (hc : ρ[c]? = some (.val (.int (i : Nat)))) :
    evE kin C (.cmp .In (.b a) (.sl (.b b) (.c .non) (.bnd (.b c)))) ρ = pure (.bl ((xs.take i).any fun z => PyData.eqv z.pd x.pd)) := by
  obtain ⟨d', e1, e2⟩ := row_cut hd i hi
  obtain ⟨ls, e3, _⟩ := cpls_of N (xs := xs.take i) fun y hy => by
    obtain ⟨k, hk, e⟩ := take_mem hy
    exact hr k y hk e
  obtain ⟨l, hl, rfl⟩ := (cpl_iff N).mp hx
  refine ev_cmp (ev_b ha) (ev_sl (ev_b hb) ev_c (ev_bnd (ev_b hc)) e1) (row_in e2 (pure_lotV l) (by rw [e3]; exact pures_lots ls) ?_)
  have := depth_lotV (nm := nm) l
  omega
theorem meets_run {kin : Kin} {C : Orc} (N : Nm n nm) (hi : kin.ini "BadMeets" = some ("place" : Str)) (hf : kin.fld "Meets" = (["roads", "met"] : List Str)) (hneed : C "need_roads" [roadsV n nm] = pure (roadsV n nm)) {d : D} {xs : List D} (hd : d.row = some xs) (hl : xs.length ≤ 100000)
    (hcpl : ∀ x ∈ xs, C "is_couple" [roadsV n nm, x] = pure (.bl (isCplB (rdS n nm) x))) : runI kin C "Meets" 2 c_Meets [roadsV n nm, d] = match firstB (badM (rdS n nm) xs) 0 xs with
    | none => pure (.ins "Meets" [("roads", roadsV n nm), ("met", .tup (xs.mergeSort leD))])
    | some (j, _) => M.raise (.exc "BadMeets" [("place", .int (j : Nat))]) := by
  have hbs : d.basic kin = true := by cases d <;> first | rfl | cases hd
  have hsc : ∀ ns, d ≠ .scr ns := fun ns z => by subst z; cases hd
  have body : ∀ (o : Out), evSs kin C c_Meets [.new "Meets" [], .val (roadsV n nm), .val d, .emp, .emp] = pure o → evSs kin C c_Meets (.new "Meets" [] :: ([roadsV n nm, d].map Slot.val ++ List.replicate 2 .emp)) = pure o := fun o h => h
  unfold c_Meets at body ⊢
  have start : ∀ r, evSs kin C (.cons (.ex (.app "need_roads" (.cons (.v 1) .nil))) (.cons (.iff (.not (.val (.bi (.isi [.b "list", .b "tuple"]) (.cons (.b 2) .nil)))) (.cons (.rse "BadMeets" (.c .non)) .nil) .nil) r)) [.new "Meets" [], .val (roadsV n nm), .val d, .emp, .emp] = evSs kin C r [.new "Meets" [], .val (roadsV n nm), .val d, .emp, .emp] := fun r => by
    rw [ex_pure (ev_app (ev_es (ev_v rfl) ev_es0) hneed), iff_false (evQ_not (p := true) (evQ_bl ((isi2_run (ev_b rfl) hbs).trans (by rw [isi_row hsc, hd]; rfl))))]
  have loop := frl_exitE (kin := kin) (C := C) (p := [3, 4]) (it := .enum (.v 2)) (xs := xs) (ρ := [.new "Meets" [], .val (roadsV n nm), .val d, .emp, .emp])
    (b := (.cons (.iff (.or (.not (.val (.app "is_couple" (.cons (.v 1) (.cons (.v 4) .nil))))) (.val (.cmp .In (.b 4) (.sl (.b 2) (.c .non) (.bnd (.b 3)))))) (.cons (.rse "BadMeets" (.v 3)) .nil) .nil) .nil))
    (r := (.cons (.fst 0 "roads" (.v 1)) (.cons (.fst 0 "met" (.bi .tuple (.cons (.bi .sorted (.cons (.b 2) .nil)) .nil))) .nil)))
    (fun i ρ => (∃ s3 s4, s3.isNew = false ∧ s4.isNew = false ∧ ρ = [.new "Meets" [], .val (roadsV n nm), .val d, s3, s4]) ∧ ∀ k y, k < i → xs[k]? = some y → isCplB (rdS n nm) y = true)
    (badM (rdS n nm) xs) (fun j _ o => ∃ ρ', o = .exc (.exc "BadMeets" [("place", .int (j : Nat))]) ρ') (fun _ _ o ⟨_, e⟩ => by subst e; trivial)
    (row_enum hd (ev_v rfl)) ⟨⟨.emp, .emp, rfl, rfl, rfl⟩, fun k y hk => by omega⟩ fun i x ρ hx ⟨⟨s3, s4, _, _, e⟩, hr⟩ => by
      subst e
      have hil : i < xs.length := (List.getElem?_eq_some_iff.mp hx).1
      refine ⟨[.new "Meets" [], .val (roadsV n nm), .val d, .val (.int (i : Nat)), .val x], rfl, ?_⟩
      have e1 : evE kin C (.app "is_couple" (.cons (.v 1) (.cons (.v 4) .nil))) [.new "Meets" [], .val (roadsV n nm), .val d, .val (.int (i : Nat)), .val x] = pure (.bl (isCplB (rdS n nm) x)) := ev_app (ev_es (ev_v rfl) (ev_es (ev_v rfl) ev_es0)) (hcpl x (List.mem_of_getElem? hx))
      have test : evT kin C (.or (.not (.val (.app "is_couple" (.cons (.v 1) (.cons (.v 4) .nil))))) (.val (.cmp .In (.b 4) (.sl (.b 2) (.c .non) (.bnd (.b 3)))))) [.new "Meets" [], .val (roadsV n nm), .val d, .val (.int (i : Nat)), .val x] = pure (badM (rdS n nm) xs i x) :=
        evQ_or (evQ_not (evQ_bl e1)) fun hb => evQ_bl (dup_eval N hd (by omega) hr (by simpa using hb) rfl rfl rfl)
      cases hb : badM (rdS n nm) xs i x with
      | true =>
        rw [hb] at test
        rw [if_pos rfl, iff_true test, rse_pure (ev_v rfl) hi]
        exact ⟨_, rfl, _, rfl⟩
      | false =>
        rw [hb] at test
        rw [if_neg (by decide), iff_false test, evSs_nil]
        refine ⟨_, rfl, ⟨_, _, rfl, rfl, rfl⟩, fun k y hk hy => ?_⟩
        by_cases z : k = i
        · subst z
          rw [hx] at hy
          cases hy
          exact badM_cpl hb
        · exact hr k y (by omega) hy
  cases hfb : firstB (badM (rdS n nm) xs) 0 xs with
  | none =>
    rw [hfb] at loop
    obtain ⟨ρ', e, ⟨s3, s4, n3, n4, rfl⟩, hr⟩ := loop
    obtain ⟨ls, e3, hb⟩ := cpls_of N (xs := xs) fun y hy => by
      obtain ⟨k, hk, e⟩ := List.mem_iff_getElem.mp hy
      exact hr k y hk (by rw [List.getElem?_eq_getElem hk, e])
    refine runI_ok (body _ ?_) (ρ := [.new "Meets" [("roads", roadsV n nm), ("met", .tup (xs.mergeSort leD))], .val (roadsV n nm), .val d, s3, s4]) rfl
    rw [start, e]
    have hs : biD kin .sorted [d] = some (.lst (xs.mergeSort leD)) := by
      show ((itemsD d).bind fun xs => if sortable xs then some (D.lst (xs.mergeSort leD)) else none) = _
      rw [row_items hd, Option.bind_some, if_pos (by rw [e3]; exact sortable_lots ls)]
    have all : ([Slot.val (roadsV n nm), .val d, s3, s4] : Fe).all (fun s => !s.isNew) = true := by simp only [List.all_cons, List.all_nil, n3, n4]; rfl
    rw [fst_pure (ev_v rfl) (fst_new (by rw [hf]; rfl) rfl (by decide) all), fst_pure (ev_bi1 (ev_bi1 (ev_b rfl) hs) tuple_lst) (fst_new (by rw [hf]; rfl) rfl (by show 1 < 100; decide) all), evSs_nil]
    rfl
  | some p =>
    obtain ⟨j, x⟩ := p
    rw [hfb] at loop
    obtain ⟨o, e, ρ', rfl⟩ := loop
    refine runI_exc (ρ := ρ') (body _ ?_)
    rw [start, e]
theorem meets_form {kin : Kin} {C : Orc} (hi : kin.ini "BadMeets" = some ("place" : Str)) (hneed : C "need_roads" [roadsV n nm] = pure (roadsV n nm)) {d : D} (hb : d.basic kin = true) (hsc : ∀ ns, d ≠ .scr ns) (hd : d.row = none) : runI kin C "Meets" 2 c_Meets [roadsV n nm, d] = M.raise (.exc "BadMeets" [("place", .non)]) := by
  refine runI_exc (ρ := [.new "Meets" [], .val (roadsV n nm), .val d, .emp, .emp]) ?_
  show evSs kin C c_Meets [.new "Meets" [], .val (roadsV n nm), .val d, .emp, .emp] = _
  unfold c_Meets
  rw [ex_pure (ev_app (ev_es (ev_v rfl) ev_es0) hneed), iff_true (evQ_not (p := false) (evQ_bl ((isi2_run (ev_b rfl) hb).trans (by rw [isi_row hsc, hd]; rfl)))), rse_pure ev_c hi]
  rfl
theorem meets_roads {kin : Kin} {C : Orc} {r d x : D} (hneed : C "need_roads" [r] = M.raise x) : runI kin C "Meets" 2 c_Meets [r, d] = M.raise x := by
  refine runI_exc (ρ := [.new "Meets" [], .val r, .val d, .emp, .emp]) ?_
  show evSs kin C c_Meets [.new "Meets" [], .val r, .val d, .emp, .emp] = _
  unfold c_Meets
  rw [ex_raise]
  unfold evE
  rw [ev_es (ev_v rfl) ev_es0, pure_bind]
  exact hneed
end
end RM
end
section
set_option Elab.async false
set_option linter.all false
set_option maxRecDepth 100000
set_option autoImplicit false
/-! the plain law of nets drawn road by road: lots by places -/
namespace RM

/-- two lots have at most one road in common -/
def Thin (l m : List Nat) : Prop := ∀ x y, x ∈ l → x ∈ m → y ∈ l → y ∈ m → x = y
theorem Thin.symm {l m : List Nat} (h : Thin l m) : Thin m l := fun x y a b c d => h x y b a d c
/-- two lots have none in common -/
def Apt (l m : List Nat) : Prop := ∀ x, x ∈ l → ¬ x ∈ m
/-- lots and single ends behind the roads below k -/
structure NInv (k : Nat) (ls ss : List (List Nat)) : Prop where
  l2 : ∀ l ∈ ls, 2 ≤ l.length ∧ l.Pairwise (· < ·) ∧ Bel k l
  s1 : ∀ s ∈ ss, ∃ x, x < k ∧ s = [x]
  th : ls.Pairwise Thin
  ct : ∀ x, (ls ++ ss).countP (fun l => decide (x ∈ l)) ≤ 2
/-- between the two places of road k -/
structure MInv (k c : Nat) (ls ss : List (List Nat)) : Prop where
  l2 : ∀ l ∈ ls, 2 ≤ l.length ∧ l.Pairwise (· < ·) ∧ Bel (k + 1) l
  s1 : ∀ s ∈ ss, ∃ x, x < k + 1 ∧ s = [x]
  th : ls.Pairwise Thin
  ct : ∀ x, (ls ++ ss).countP (fun l => decide (x ∈ l)) ≤ if x = k then c else 2
/-- road k is put at a place -/
def stepL (k : Nat) (ls : List (List Nat)) (p : List Nat) : List (List Nat) := (if 1 < p.length then ls.filter (fun l => !decide (l = p)) else ls) ++ (if p = [] then [] else [p ++ [k]])
def stepS (k : Nat) (ls ss : List (List Nat)) (p : List Nat) : List (List Nat) := (if p.length = 1 then ss.erase p else ss) ++ (if p = [] then [[k]] else [])
theorem NInv.mid {k : Nat} {ls ss : List (List Nat)} (h : NInv k ls ss) : MInv k 0 ls ss where
  l2 := fun l hl => ⟨(h.l2 l hl).1, (h.l2 l hl).2.1, fun x hx => Nat.lt_succ_of_lt ((h.l2 l hl).2.2 x hx)⟩
  s1 := fun s hs => by
    obtain ⟨x, hx, e⟩ := h.s1 s hs
    exact ⟨x, Nat.lt_succ_of_lt hx, e⟩
  th := h.th
  ct := fun x => by
    by_cases e : x = k
    · subst e
      rw [if_pos rfl]
      have : (ls ++ ss).countP (fun l => decide (x ∈ l)) = 0 := by
        rw [List.countP_eq_zero]
        intro l hl
        have : ¬ x ∈ l := fun hx => by
          rcases List.mem_append.mp hl with hl | hl
          · exact absurd ((h.l2 l hl).2.2 x hx) (Nat.lt_irrefl _)
          · obtain ⟨y, hy, e⟩ := h.s1 l hl
            subst e
            have : x = y := by simpa using hx
            omega
        simpa using this
      omega
    · rw [if_neg e]
      exact h.ct x
theorem MInv.fin {k : Nat} {ls ss : List (List Nat)} (h : MInv k 2 ls ss) : NInv (k + 1) ls ss := ⟨h.l2, h.s1, h.th, fun x => by
  have := h.ct x
  split at this <;> omega⟩
theorem pw_self {l : List Nat} (h2 : 2 ≤ l.length) (hp : l.Pairwise (· < ·)) : ¬ Thin l l := fun h => by
  match l, h2 with
  | a :: b :: r, _ =>
    have hab : a < b := (List.pairwise_cons.mp hp).1 b (by simp)
    have := h a b (by simp) (by simp) (by simp) (by simp)
    omega
theorem count_filter_ne {q : List Nat → Bool} {p : List Nat} : ∀ {ls : List (List Nat)}, p ∈ ls → (ls.filter fun l => !decide (l = p)).countP q + (if q p then 1 else 0) ≤ ls.countP q
  | [], h => by cases h
  | l :: ls, h => by
    have key : (ls.filter fun l => !decide (l = p)).countP q ≤ ls.countP q := List.Sublist.countP_le List.filter_sublist
    rw [List.filter_cons, List.countP_cons]
    by_cases e : l = p
    · subst e
      simp only [decide_true, Bool.not_true, Bool.false_eq_true, if_false]
      omega
    · have hm : p ∈ ls := (List.mem_cons.mp h).resolve_left fun z => e z.symm
      have ih := count_filter_ne (q := q) hm
      simp only [e, decide_false, Bool.not_false, if_true, List.countP_cons]
      omega
theorem count_erase {q : List Nat → Bool} {p : List Nat} {ls : List (List Nat)} (h : p ∈ ls) : (ls.erase p).countP q + (if q p then 1 else 0) = ls.countP q := by
  have := (List.perm_cons_erase h).countP_eq q
  rw [List.countP_cons] at this
  omega
/-- where a road may be put -/
structure PlaceOk (k : Nat) (ls ss : List (List Nat)) (p : List Nat) : Prop where
  mem : p = [] ∨ p ∈ ls ∨ p ∈ ss
  bel : Bel k p
  thin : ∀ l ∈ ls, l ≠ p → Thin l p ∧ (k ∈ l → Apt p l)
theorem MInv.step {k c : Nat} {ls ss : List (List Nat)} (h : MInv k c ls ss) {p : List Nat} (hp : PlaceOk k ls ss p) : MInv k (c + 1) (stepL k ls p) (stepS k ls ss p) := by
  have hpw : p.Pairwise (· < ·) := by
    rcases hp.mem with e | e | e
    · subst e; exact .nil
    · exact (h.l2 p e).2.1
    · obtain ⟨x, _, rfl⟩ := h.s1 p e
      exact List.pairwise_singleton _ _
  have sub : ∀ l, l ∈ (if 1 < p.length then ls.filter (fun l => !decide (l = p)) else ls) → l ∈ ls ∧ (p ≠ [] → l ≠ p) := fun l hl => by
    split at hl
    · rw [List.mem_filter] at hl
      exact ⟨hl.1, fun _ => by simpa using hl.2⟩
    · rename_i h1
      refine ⟨hl, fun hne e => ?_⟩
      subst e
      have := (h.l2 l hl).1
      omega
  have thin1 : (if 1 < p.length then ls.filter (fun l => !decide (l = p)) else ls).Pairwise Thin := by
    split
    · exact h.th.filter _
    · exact h.th
  refine ⟨fun l hl => ?_, fun s hs => ?_, ?_, fun x => ?_⟩
  · unfold stepL at hl
    rcases List.mem_append.mp hl with hl | hl
    · exact h.l2 l (sub l hl).1
    · split at hl
      · cases hl
      · rename_i hne
        have : l = p ++ [k] := by simpa using hl
        subst this
        refine ⟨by have := List.length_pos_iff.mpr hne; simp; omega, ?_, fun y hy => ?_⟩
        · rw [List.pairwise_append]
          refine ⟨hpw, List.pairwise_singleton _ _, fun a ha b hb => ?_⟩
          have : b = k := by simpa using hb
          subst this
          exact hp.bel a ha
        · rcases List.mem_append.mp hy with hy | hy
          · exact Nat.lt_succ_of_lt (hp.bel y hy)
          · have : y = k := by simpa using hy
            omega
  · unfold stepS at hs
    rcases List.mem_append.mp hs with hs | hs
    · have : s ∈ ss := by
        split at hs
        · exact List.mem_of_mem_erase hs
        · exact hs
      exact h.s1 s this
    · split at hs
      · have : s = [k] := by simpa using hs
        exact ⟨k, Nat.lt_succ_self _, this⟩
      · cases hs
  · unfold stepL
    rw [List.pairwise_append]
    refine ⟨thin1, by split <;> simp, fun l hl m hm => ?_⟩
    split at hm
    · cases hm
    · rename_i hne
      have : m = p ++ [k] := by simpa using hm
      subst this
      obtain ⟨q1, q2⟩ := sub l hl
      obtain ⟨t1, t2⟩ := hp.thin l q1 (q2 hne)
      intro x y hx hx' hy hy'
      rcases List.mem_append.mp hx' with a | a <;> rcases List.mem_append.mp hy' with b | b
      · exact t1 x y hx a hy b
      · have eb : y = k := by simpa using b
        subst eb
        exact absurd hx (t2 hy x a)
      · have ea : x = k := by simpa using a
        subst ea
        exact absurd hy (t2 hx y b)
      · have ea : x = k := by simpa using a
        have eb : y = k := by simpa using b
        omega
  · have h0 := h.ct x
    have key : (stepL k ls p ++ stepS k ls ss p).countP (fun l => decide (x ∈ l)) ≤ (ls ++ ss).countP (fun l => decide (x ∈ l)) + (if x = k then 1 else 0) := by
      unfold stepL stepS
      rw [List.countP_append, List.countP_append, List.countP_append, List.countP_append]
      by_cases e : p = []
      · subst e
        simp only [List.length_nil, if_true, show ¬ (1 < 0) by omega, show ¬ ((0 : Nat) = 1) by omega, if_false, List.countP_nil, List.countP_cons, List.mem_singleton]
        by_cases ex : x = k <;> simp [ex] <;> omega
      · rw [if_neg e, if_neg e]
        have hadd : List.countP (fun l => decide (x ∈ l)) [p ++ [k]] ≤ (if decide (x ∈ p) then 1 else 0) + (if x = k then 1 else 0) := by
          rw [List.countP_cons, List.countP_nil]
          by_cases ex : x = k
          · rw [if_pos ex]; split <;> omega
          · by_cases em : x ∈ p <;> simp [em, ex]
        rw [List.countP_nil]
        by_cases h1 : 1 < p.length
        · have hm : p ∈ ls := by
            rcases hp.mem with z | z | z
            · exact absurd z e
            · exact z
            · obtain ⟨y, _, rfl⟩ := h.s1 p z
              simp at h1
          have := count_filter_ne (q := fun l => decide (x ∈ l)) hm
          rw [if_pos h1, if_neg (by omega)]
          omega
        · have hl1 : p.length = 1 := by have := List.length_pos_iff.mpr e; omega
          have hm : p ∈ ss := by
            rcases hp.mem with z | z | z
            · exact absurd z e
            · have := (h.l2 p z).1
              omega
            · exact z
          have := count_erase (q := fun l => decide (x ∈ l)) hm
          rw [if_neg h1, if_pos hl1]
          omega
    by_cases ex : x = k
    · rw [if_pos ex] at h0 key ⊢
      omega
    · rw [if_neg ex] at h0 key ⊢
      omega
/-- the first place -/
theorem NInv.place {k : Nat} {ls ss : List (List Nat)} (h : NInv k ls ss) {p : List Nat} (hm : p = [] ∨ p ∈ ls ∨ p ∈ ss) : PlaceOk k ls ss p where
  mem := hm
  bel := by
    rcases hm with e | e | e
    · subst e; exact fun _ z => nomatch z
    · exact (h.l2 p e).2.2
    · obtain ⟨x, hx, rfl⟩ := h.s1 p e
      intro y hy
      have : y = x := by simpa using hy
      omega
  thin := fun l hl hne => by
    refine ⟨?_, fun hk => absurd ((h.l2 l hl).2.2 k hk) (Nat.lt_irrefl _)⟩
    rcases hm with e | e | e
    · subst e
      exact fun x y _ z => nomatch z
    · -- both among the lots
      have : ∀ {ls : List (List Nat)}, ls.Pairwise Thin → l ∈ ls → p ∈ ls → Thin l p := by
        intro ls
        induction ls with
        | nil => intro _ z; cases z
        | cons a r ih =>
          intro hp hl he
          rw [List.pairwise_cons] at hp
          rcases List.mem_cons.mp hl with e1 | hl'
          · rcases List.mem_cons.mp he with e2 | he'
            · exact absurd (e1.trans e2.symm) hne
            · rw [e1]; exact hp.1 p he'
          · rcases List.mem_cons.mp he with e2 | he'
            · rw [e2]; exact (hp.1 l hl').symm
            · exact ih hp.2 hl' he'
      exact this h.th hl e
    · obtain ⟨z, _, rfl⟩ := h.s1 p e
      intro x y _ hx _ hy
      have e1 : x = z := by simpa using hx
      have e2 : y = z := by simpa using hy
      omega
theorem apt_ne {p q : List Nat} (h : Apt q p) (hq : q ≠ []) : q ≠ p := fun e => by
  subst e
  match q, hq with
  | a :: r, _ => exact h a List.mem_cons_self List.mem_cons_self
/-- the second place, which has no road of the first one -/
theorem NInv.place2 {k : Nat} {ls ss : List (List Nat)} (h : NInv k ls ss) {p q : List Nat} (hp : p = [] ∨ p ∈ ls ∨ p ∈ ss) (hm : q = [] ∨ q ∈ ls ∨ q ∈ ss) (ha : q = [] ∨ Apt q p) : PlaceOk k (stepL k ls p) (stepS k ls ss p) q := by
  have ok := h.place hm
  have okp := h.place hp
  refine ⟨?_, ok.bel, fun l hl hne => ?_⟩
  · by_cases e : q = []
    · exact .inl e
    have ha := ha.resolve_left e
    have hne := apt_ne ha e
    rcases hm with z | z | z
    · exact absurd z e
    · refine .inr (.inl ?_)
      unfold stepL
      refine List.mem_append_left _ ?_
      split
      · rw [List.mem_filter]
        exact ⟨z, by simpa using hne⟩
      · exact z
    · refine .inr (.inr ?_)
      unfold stepS
      refine List.mem_append_left _ ?_
      split
      · exact (List.mem_erase_of_ne hne).mpr z
      · exact z
  · unfold stepL at hl
    rcases List.mem_append.mp hl with hl | hl
    · have : l ∈ ls := by
        split at hl
        · exact (List.mem_filter.mp hl).1
        · exact hl
      exact ok.thin l this hne
    · split at hl
      · cases hl
      · rename_i hpe
        have : l = p ++ [k] := by simpa using hl
        subst this
        have noq : q ≠ [] → ∀ x, x ∈ q → ¬ x ∈ p ++ [k] := fun e x hx hx' => by
          rcases List.mem_append.mp hx' with z | z
          · exact (ha.resolve_left e) x hx z
          · have : x = k := by simpa using z
            have := ok.bel x hx
            omega
        by_cases e : q = []
        · subst e
          exact ⟨fun x y _ z => (nomatch z), fun _ x z => (nomatch z)⟩
        · exact ⟨fun x y hx hx' => absurd hx (noq e x hx'), fun _ => noq e⟩
theorem NInv.step {k : Nat} {ls ss : List (List Nat)} (h : NInv k ls ss) {p q : List Nat} (hp : p = [] ∨ p ∈ ls ∨ p ∈ ss) (hm : q = [] ∨ q ∈ ls ∨ q ∈ ss) (ha : q = [] ∨ Apt q p) :
    NInv (k + 1) (stepL k (stepL k ls p) q) (stepS k (stepL k ls p) (stepS k ls ss p) q) := ((h.mid.step (h.place hp)).step (h.place2 hp hm ha)).fin
theorem stepL_len (k : Nat) (ls ss : List (List Nat)) (p : List Nat) : (stepL k ls p).length + (stepS k ls ss p).length ≤ ls.length + ss.length + 1 := by
  unfold stepL stepS
  have h1 : (ls.filter (fun l => !decide (l = p))).length ≤ ls.length := List.length_filter_le _ _
  have h2 : (ss.erase p).length ≤ ss.length := List.length_erase_le
  rw [List.length_append, List.length_append]
  by_cases e : p = []
  · rw [if_pos e, if_pos e]
    split <;> split <;> simp <;> omega
  · rw [if_neg e, if_neg e]
    split <;> split <;> simp <;> omega
/-- a net's lots -/
structure NetI (n : Nat) (ls : List (List Nat)) : Prop where
  l2 : ∀ l ∈ ls, 2 ≤ l.length ∧ l.Pairwise (· < ·) ∧ Bel n l
  th : ls.Pairwise Thin
  ct : ∀ x, ls.countP (fun l => decide (x ∈ l)) ≤ 2
  st : ls.Pairwise fun a b => ltL a b = true
  few : ls.length ≤ 14
theorem pw_len {n : Nat} : ∀ {l : List Nat}, l.Pairwise (· < ·) → Bel n l → l.length ≤ n := by
  have key : ∀ (l : List Nat) (m : Nat), l.Pairwise (· < ·) → (∀ x ∈ l, m ≤ x ∧ x < n) → m ≤ n → l.length + m ≤ n := by
    intro l
    induction l with
    | nil => intro m _ _ h; simpa using h
    | cons a r ih =>
      intro m hp hb hm
      rw [List.pairwise_cons] at hp
      have ha := hb a List.mem_cons_self
      have := ih (a + 1) hp.2 (fun x hx => ⟨hp.1 x hx, (hb x (List.mem_cons_of_mem _ hx)).2⟩) (by omega)
      rw [List.length_cons]
      omega
  intro l hp hb
  have := key l 0 hp (fun x hx => ⟨Nat.zero_le _, hb x hx⟩) (Nat.zero_le _)
  omega
theorem ltL_irrefl : ∀ l : List Nat, ltL l l = false
  | [] => rfl
  | a :: r => by unfold ltL; rw [if_pos rfl]; exact ltL_irrefl r
theorem ltL_trans : ∀ {a b c : List Nat}, ltL a b = true → ltL b c = true → ltL a c = true
  | [], [], _, h, _ => by cases h
  | [], _ :: _, [], _, h => by cases h
  | [], _ :: _, _ :: _, _, _ => rfl
  | _ :: _, [], _, h, _ => by cases h
  | _ :: _, _ :: _, [], _, h => by cases h
  | x :: a, y :: b, z :: c, h1, h2 => by
    unfold ltL at h1 h2 ⊢
    by_cases e1 : x = y
    · subst e1
      rw [if_pos rfl] at h1
      by_cases e2 : x = z
      · subst e2
        rw [if_pos rfl] at h2 ⊢
        exact ltL_trans h1 h2
      · rw [if_neg e2] at h2 ⊢
        exact h2
    · rw [if_neg e1] at h1
      have h1 := of_decide_eq_true h1
      by_cases e2 : y = z
      · subst e2
        rw [if_neg e1]
        exact decide_eq_true h1
      · rw [if_neg e2] at h2
        have h2 := of_decide_eq_true h2
        rw [if_neg (by omega)]
        exact decide_eq_true (by omega)
theorem ltL_tri : ∀ {a b : List Nat}, ltL a b = false → ltL b a = false → a = b
  | [], [], _, _ => rfl
  | [], _ :: _, h, _ => by cases h
  | _ :: _, [], _, h => by cases h
  | x :: a, y :: b, h1, h2 => by
    unfold ltL at h1 h2
    by_cases e : x = y
    · subst e
      rw [if_pos rfl] at h1 h2
      rw [ltL_tri h1 h2]
    · rw [if_neg e] at h1
      rw [if_neg (fun z => e z.symm)] at h2
      have h1 := of_decide_eq_false h1
      have h2 := of_decide_eq_false h2
      omega
theorem ltL_asymm {a b : List Nat} (h : ltL a b = true) : ltL b a = false := by
  cases e : ltL b a with
  | false => rfl
  | true =>
    have := ltL_trans h e
    rw [ltL_irrefl] at this
    cases this
theorem leL_trans (a b c : List Nat) (h1 : leL a b = true) (h2 : leL b c = true) : leL a c = true := by
  unfold leL at *
  simp only [Bool.not_eq_true'] at *
  cases e : ltL c a with
  | false => rfl
  | true =>
    cases e2 : ltL b c with
    | true => rw [ltL_trans e2 e] at h1; cases h1
    | false =>
      have := ltL_tri e2 h2
      subst this
      rw [e] at h1; cases h1
theorem leL_total (a b : List Nat) : (leL a b || leL b a) = true := by
  unfold leL
  cases e : ltL b a with
  | false => rfl
  | true => rw [ltL_asymm e]; rfl
/-- sorted, all different: strictly ascending -/
theorem sorted_strictL {ls : List (List Nat)} (h : ls.Nodup) : (ls.mergeSort leL).Pairwise fun a b => ltL a b = true := by
  have h1 := List.pairwise_mergeSort leL_trans leL_total ls
  have h2 : (ls.mergeSort leL).Nodup := (List.mergeSort_perm ls leL).nodup_iff.mpr h
  have h2 : (ls.mergeSort leL).Pairwise (· ≠ ·) := h2
  refine (h1.and h2).imp ?_
  rintro a b ⟨q1, q2⟩
  cases e : ltL a b with
  | true => rfl
  | false =>
    unfold leL at q1
    simp only [Bool.not_eq_true'] at q1
    exact absurd (ltL_tri e q1) q2
theorem NInv.nodup {k : Nat} {ls ss : List (List Nat)} (h : NInv k ls ss) : ls.Nodup := by
  have : ∀ {ls : List (List Nat)}, (∀ l ∈ ls, 2 ≤ l.length ∧ l.Pairwise (· < ·) ∧ Bel k l) → ls.Pairwise Thin → ls.Nodup := by
    intro ls
    induction ls with
    | nil => intro _ _; exact List.nodup_nil
    | cons a r ih =>
      intro h1 h2
      rw [List.pairwise_cons] at h2
      refine List.nodup_cons.mpr ⟨fun hm => ?_, ih (fun l hl => h1 l (List.mem_cons_of_mem _ hl)) h2.2⟩
      have ha := h1 a List.mem_cons_self
      exact pw_self ha.1 ha.2.1 (h2.1 a hm)
  exact this h.l2 h.th
theorem NInv.net {n : Nat} {ls ss : List (List Nat)} (h : NInv n ls ss) (hl : ls.length ≤ 14) : NetI n (ls.mergeSort leL) where
  l2 := fun l hm => h.l2 l ((List.mergeSort_perm ls leL).mem_iff.mp hm)
  th := (List.mergeSort_perm ls leL).symm.pairwise h.th (fun hxy => hxy.symm)
  ct := fun x => by
    rw [(List.mergeSort_perm ls leL).countP_eq]
    have := h.ct x
    rw [List.countP_append] at this
    omega
  st := sorted_strictL h.nodup
  few := by rw [List.length_mergeSort]; exact hl
end RM
end
section
set_option Elab.async false
set_option linter.all false
set_option maxRecDepth 100000
set_option maxHeartbeats 1000000
set_option autoImplicit false
/-! values: lots of a drawn net -/
namespace RM
open PySem PySem.Spec PyProof.Rows L2

section
variable {kin : Kin} {C : Orc} {n : Nat} {nm : Nat → Str}
def leN (a b : Nat) : Bool := decide (a ≤ b)
theorem Nm.sort_roads (N : Nm n nm) {l : List Nat} (h : Bel n l) : (l.map (roadV nm)).mergeSort leD = (l.mergeSort leN).map (roadV nm) := by
  refine (List.map_mergeSort fun a ha b hb => ?_).symm
  show leN a b = !PySem.W.dataLt _ _
  simp only [D.pd, PySem.W.dataLt_str]
  have := N.lt b a (h b hb) (h a ha)
  unfold ltS at this
  rw [this]
  unfold leN
  by_cases e : a ≤ b
  · simp [e, Nat.not_lt.mpr e]
  · simp [e, Nat.lt_of_not_le e]
theorem sortable_roads (l : List Nat) : sortable (l.map (roadV nm)) = true := by
  have e : l.map (roadV nm) = (l.map nm).map D.str := by rw [List.map_map]; rfl
  rw [e]
  exact sortable_strs _
theorem Nm.sorted_lot (N : Nm n nm) {l : List Nat} (h : Bel n l) : biD kin .sorted [lotV nm l] = some (.lst ((l.mergeSort leN).map (roadV nm))) := by
  show (if sortable (l.map (roadV nm)) then some (D.lst ((l.map (roadV nm)).mergeSort leD)) else none) = _
  rw [if_pos (sortable_roads l), N.sort_roads h]
theorem Nm.sorted_lotL (N : Nm n nm) {l : List Nat} (h : Bel n l) : biD kin .sorted [.lst (l.map (roadV nm))] = some (.lst ((l.mergeSort leN).map (roadV nm))) := by
  show (if sortable (l.map (roadV nm)) then some (D.lst ((l.map (roadV nm)).mergeSort leD)) else none) = _
  rw [if_pos (sortable_roads l), N.sort_roads h]
theorem sortN_id {l : List Nat} (h : l.Pairwise (· < ·)) : l.mergeSort leN = l := by
  refine List.mergeSort_of_pairwise (h.imp fun hab => ?_)
  exact decide_eq_true (Nat.le_of_lt hab)
/-- tuple(sorted(..)) of a lot in order -/
theorem Nm.tsorted (N : Nm n nm) {ρ : Fe} {e : E} {l : List Nat} (he : evE kin C e ρ = pure (lotV nm l)) (h : Bel n l) (hp : l.Pairwise (· < ·)) : evE kin C (.bi .tuple (.cons (.bi .sorted (.cons e .nil)) .nil)) ρ = pure (lotV nm l) := by
  refine ev_bi1 (ev_bi1 he (N.sorted_lot h)) ?_
  rw [sortN_id hp]; rfl
/-- l.index(p) -/
theorem Nm.find_lot (N : Nm n nm) {p : List Nat} (hp : Bel n p) : ∀ {ls : List (List Nat)}, (∀ m ∈ ls, Bel n m) → (D.pds (ls.map (lotV nm))).findIdx? (fun z => PyData.eqv z (lotV nm p).pd) = ls.findIdx? (fun m => decide (m = p))
  | [], _ => rfl
  | m :: ls, hb => by
    have e : PyData.eqv (lotV nm m).pd (lotV nm p).pd = decide (m = p) := N.eqv_lot (hb m List.mem_cons_self) hp
    show List.findIdx? _ ((lotV nm m).pd :: D.pds (ls.map (lotV nm))) = _
    rw [List.findIdx?_cons, List.findIdx?_cons, e, Nm.find_lot N hp fun x hx => hb x (List.mem_cons_of_mem _ hx)]
theorem find_erase {p : List Nat} : ∀ {ls : List (List Nat)}, p ∈ ls → ∃ j, ls.findIdx? (fun m => decide (m = p)) = some j ∧ j < ls.length ∧ ls.take j ++ ls.drop (j + 1) = ls.erase p
  | [], h => by cases h
  | m :: ls, h => by
    rw [List.findIdx?_cons]
    by_cases e : m = p
    · subst e
      refine ⟨0, by simp, by simp, by simp⟩
    · obtain ⟨j, h1, h2, h3⟩ := find_erase ((List.mem_cons.mp h).resolve_left fun z => e z.symm)
      refine ⟨j + 1, ?_, by simp; omega, ?_⟩
      · simp [e, h1]
      · rw [List.erase_cons, if_neg (by simpa using e), ← h3]
        rfl
theorem Nm.idx_lot (N : Nm n nm) {p : List Nat} {ls : List (List Nat)} (hp : Bel n p) (hb : ∀ m ∈ ls, Bel n m) {j : Nat} (h : ls.findIdx? (fun m => decide (m = p)) = some j) : idxD (.lst (ls.map (lotV nm))) (lotV nm p) = some j := by
  have := depth_lotV (nm := nm) p
  show (if (lotV nm p).pure && D.pures (ls.map (lotV nm)) && decide ((lotV nm p).pd.depth ≤ 64) then (D.pds (ls.map (lotV nm))).findIdx? fun z => PyData.eqv z (lotV nm p).pd else none) = _
  rw [if_pos (by rw [pure_lotV, pures_lots, Bool.true_and, Bool.true_and]; exact decide_eq_true (by omega)), N.find_lot hp hb, h]
theorem ev_idx {ρ : Fe} {a b : E} {ys : List D} {y : D} {j : Nat} (h1 : evE kin C a ρ = pure (.lst ys)) (h2 : evE kin C b ρ = pure y) (h : idxD (.lst ys) y = some j) : evE kin C (.idx a b) ρ = pure (.int (j : Nat)) := by
  unfold evE
  rw [h1]
  simp only [pure_bind, h2, h]
  rfl
theorem cutL_from {xs : List D} {k : Nat} (h : k ≤ xs.length) : slD (.lst xs) (.int (k : Int)) .non = some (.lst (xs.drop k)) := by
  show some (D.lst (cutD xs (some (k : Int)) none)) = _
  unfold cutD
  rw [HT.sIx_nat, HT.sIx_none, show min k xs.length = k by omega]
  congr 2
  apply List.take_of_length_le
  simp
theorem cutL_to {xs : List D} {k : Nat} (h : k ≤ xs.length) : slD (.lst xs) .non (.int (k : Int)) = some (.lst (xs.take k)) := by
  show some (D.lst (cutD xs none (some (k : Int)))) = _
  unfold cutD
  rw [HT.sIx_nat, show HT.sIx xs.length 0 none = 0 from rfl, show min k xs.length = k by omega]
  rfl
/-- two turns -/
theorem frl_two {ρ ρ1 ρ2 ρ3 ρ4 : Fe} {p : List Nat} {it : I} {b r : Ss} {x y : D} (h : evI kin C it ρ = pure [x, y]) (h1 : asgP p x ρ = some ρ1) (h2 : evSs kin C b ρ1 = pure (.nx ρ2)) (h3 : asgP p y ρ2 = some ρ3) (h4 : evSs kin C b ρ3 = pure (.nx ρ4)) :
    evSs kin C (.cons (.frl p it b) r) ρ = evSs kin C r ρ4 := by
  rw [evSs_cons]
  unfold evS
  rw [h]
  show (forM (fun x ρ => do
      let ρ1 ← M.op (asgP p x ρ)
      evSs kin C b ρ1) [x, y] ρ) >>= goOn kin C r = _
  unfold forM
  rw [h1]
  simp only [op_some, pure_bind, h2]
  unfold forM
  rw [h3]
  simp only [op_some, pure_bind, h4]
  rfl
def bPut : Ss :=
  (.cons (.iff (.val (.cmp .Gt (.bi .len (.cons (.b 7) .nil)) (.c (.int 1))))
  (.cons (.asg [2] (.lc [10] [10] (.seq (.b 2)) (.val (.cmp .NotEq (.b 10) (.b 7))) (.v 10)))
  .nil)
  (.cons (.iff (.val (.cmp .NotEq (.b 7) (.tup .nil)))
  (.cons (.asg [11] (.idx (.b 3) (.b 7)))
  (.cons (.asg [3] (.bin .Add (.sl (.b 3) (.c .non) (.bnd (.b 11))) (.sl (.b 3) (.bnd (.bin .Add (.b 11) (.c (.int 1)))) (.c .non))))
  .nil))
  .nil)
  .nil))
  (.cons (.asg [12] (.bi .tuple (.cons (.bi .sorted (.cons (.bin .Add (.b 7) (.tup (.cons (.v 4) .nil))) .nil)) .nil)))
  (.cons (.iff (.val (.cmp .Gt (.bi .len (.cons (.b 12) .nil)) (.c (.int 1))))
  (.cons (.asg [2] (.bin .Add (.b 2) (.lst (.cons (.v 12) .nil))))
  .nil)
  (.cons (.asg [3] (.bin .Add (.b 3) (.lst (.cons (.v 12) .nil))))
  .nil))
  .nil)))
theorem nil_nx {ρ : Fe} {r : Ss} : evSs kin C .nil ρ >>= goOn kin C r = evSs kin C r ρ := by rw [evSs_nil, goOn_nx]
theorem put_run (N : Nm n nm) (hn : n ≤ 7) {k c : Nat} (hk : k < n) {ls ss : List (List Nat)} (M : MInv k c ls ss) (few : ls.length + ss.length ≤ 20) {p : List Nat} (hp : PlaceOk k ls ss p) (a0 a1 a5 a6 a8 a9 a10 a11 a12 : Slot) :
    ∃ b11 b12, evSs kin C bPut [a0, a1, .val (.lst (ls.map (lotV nm))), .val (.lst (ss.map (lotV nm))), .val (roadV nm k), a5, a6, .val (lotV nm p), a8, a9, a10, a11, a12] =
      pure (.nx [a0, a1, .val (.lst ((stepL k ls p).map (lotV nm))), .val (.lst ((stepS k ls ss p).map (lotV nm))), .val (roadV nm k), a5, a6, .val (lotV nm p), a8, a9, a10, b11, b12]) := by
  have hpB : Bel n p := fun x hx => Nat.lt_trans (hp.bel x hx) hk
  have hlB : ∀ l ∈ ls, Bel n l := fun l hl x hx => Nat.lt_of_lt_of_le ((M.l2 l hl).2.2 x hx) hk
  have hsB : ∀ l ∈ ss, Bel n l := fun l hl x hx => by
    obtain ⟨y, hy, rfl⟩ := M.s1 l hl
    have : x = y := by simpa using hx
    omega
  have hpw : p.Pairwise (· < ·) := by
    rcases hp.mem with e | e | e
    · subst e; exact .nil
    · exact (M.l2 p e).2.1
    · obtain ⟨x, _, rfl⟩ := M.s1 p e
      exact List.pairwise_singleton _ _
  have hplen : p.length ≤ 7 := Nat.le_trans (pw_len hpw hpB) hn
  have gB : Bel n (p ++ [k]) := fun x hx => by
    rcases List.mem_append.mp hx with z | z
    · exact hpB x z
    · have : x = k := by simpa using z
      omega
  have gP : (p ++ [k]).Pairwise (· < ·) := by
    rw [List.pairwise_append]
    refine ⟨hpw, List.pairwise_singleton _ _, fun a ha b hb => ?_⟩
    have : b = k := by simpa using hb
    subst this
    exact hp.bel a ha
  have hzl : ls.length ≤ 100000 := by omega
  -- what the first test leaves
  have first : ∀ r, ∃ b11, evSs kin C (.cons (.iff (.val (.cmp .Gt (.bi .len (.cons (.b 7) .nil)) (.c (.int 1))))
  (.cons (.asg [2] (.lc [10] [10] (.seq (.b 2)) (.val (.cmp .NotEq (.b 10) (.b 7))) (.v 10)))
  .nil)
  (.cons (.iff (.val (.cmp .NotEq (.b 7) (.tup .nil)))
  (.cons (.asg [11] (.idx (.b 3) (.b 7)))
  (.cons (.asg [3] (.bin .Add (.sl (.b 3) (.c .non) (.bnd (.b 11))) (.sl (.b 3) (.bnd (.bin .Add (.b 11) (.c (.int 1)))) (.c .non))))
  .nil))
  .nil)
  .nil)) r) [a0, a1, .val (.lst (ls.map (lotV nm))), .val (.lst (ss.map (lotV nm))), .val (roadV nm k), a5, a6, .val (lotV nm p), a8, a9, a10, a11, a12] =
    evSs kin C r [a0, a1, .val (.lst ((if 1 < p.length then ls.filter (fun l => !decide (l = p)) else ls).map (lotV nm))), .val (.lst ((if p.length = 1 then ss.erase p else ss).map (lotV nm))), .val (roadV nm k), a5, a6, .val (lotV nm p), a8, a9, a10, b11, a12] := by
    intro r
    have test : evT kin C (.val (.cmp .Gt (.bi .len (.cons (.b 7) .nil)) (.c (.int 1)))) [a0, a1, .val (.lst (ls.map (lotV nm))), .val (.lst (ss.map (lotV nm))), .val (roadV nm k), a5, a6, .val (lotV nm p), a8, a9, a10, a11, a12] = pure (decide (1 < p.length)) := by
      refine (evQ_bl (ev_cmp (ev_bi1 (ev_b rfl) len_tup) ev_c (gt_int _ _))).trans ?_
      congr 1
      rw [List.length_map]
      congr 1
      simp only [eq_iff_iff]
      omega
    by_cases h1 : 1 < p.length
    · rw [decide_eq_true h1] at test
      refine ⟨a11, ?_⟩
      rw [iff_true test, if_pos h1, if_neg (by omega)]
      have e : evE kin C (.lc [10] [10] (.seq (.b 2)) (.val (.cmp .NotEq (.b 10) (.b 7))) (.v 10)) [a0, a1, .val (.lst (ls.map (lotV nm))), .val (.lst (ss.map (lotV nm))), .val (roadV nm k), a5, a6, .val (lotV nm p), a8, a9, a10, a11, a12] = pure (.lst ((ls.filter (fun l => !decide (l = p))).map (lotV nm))) := by
        refine (lc_map (ls := ls) (v := lotV nm) (fun l => if !decide (l = p) then some (lotV nm l) else none) (evI_seq (ev_b rfl) rfl) (sz hzl) fun l hl => ?_).trans (by rw [fm_if])
        exact lcF_q (ρ1 := [a0, a1, .val (.lst (ls.map (lotV nm))), .val (.lst (ss.map (lotV nm))), .val (roadV nm k), a5, a6, .val (lotV nm p), a8, a9, .val (lotV nm l), a11, a12]) rfl (evQ_bl (ev_cmp (ev_b rfl) (ev_b rfl) (N.ne_lot (hlB l hl) hpB))) fun _ => ev_v rfl
      rw [asg_pure e rfl]
      exact nil_nx
    · rw [decide_eq_false h1] at test
      rw [iff_pure test]
      simp only [Bool.false_eq_true, if_false]
      rw [if_neg h1]
      have test2 : evT kin C (.val (.cmp .NotEq (.b 7) (.tup .nil))) [a0, a1, .val (.lst (ls.map (lotV nm))), .val (.lst (ss.map (lotV nm))), .val (roadV nm k), a5, a6, .val (lotV nm p), a8, a9, a10, a11, a12] = pure (!decide (p = [])) :=
        evQ_bl (ev_cmp (ev_b rfl) (ev_tup ev_es0 (sz (by decide))) (N.ne_lot hpB (l' := []) (fun _ z => nomatch z)))
      by_cases h0 : p = []
      · rw [decide_eq_true h0] at test2
        refine ⟨a11, ?_⟩
        rw [iff_false test2, if_neg (by rw [h0]; decide)]
        exact nil_nx
      · rw [decide_eq_false h0] at test2
        have h11 : p.length = 1 := by have := List.length_pos_iff.mpr h0; omega
        have hm : p ∈ ss := by
          rcases hp.mem with z | z | z
          · exact absurd z h0
          · have := (M.l2 p z).1
            omega
          · exact z
        obtain ⟨j, hj, hjl, hje⟩ := find_erase hm
        refine ⟨.val (.int j), ?_⟩
        rw [iff_true test2, if_pos h11, asg_pure (ev_idx (ev_b rfl) (ev_b rfl) (N.idx_lot hpB hsB hj)) rfl]
        have hjm : j ≤ (ss.map (lotV nm)).length := by rw [List.length_map]; omega
        have hjm1 : j + 1 ≤ (ss.map (lotV nm)).length := by rw [List.length_map]; omega
        have er : (ss.erase p).map (lotV nm) = (ss.map (lotV nm)).take j ++ (ss.map (lotV nm)).drop (j + 1) := by rw [← hje, List.map_append, List.map_take, List.map_drop]
        rw [er, asg_pure (ev_bin (ev_sl (ev_b rfl) ev_c (ev_bnd (ev_b rfl)) (cutL_to hjm)) (ev_sl (ev_b rfl) (ev_bnd (ev_bin (ev_b rfl) ev_c (add_int _ _))) ev_c (cutL_from (k := j + 1) hjm1)) (add_lst (sz (by rw [List.length_take, List.length_drop, List.length_map]; omega)))) rfl, nil_nx, nil_nx]
        rfl
  obtain ⟨b11, e1⟩ := first _
  refine ⟨b11, .val (lotV nm (p ++ [k])), ?_⟩
  unfold bPut
  rw [e1]
  have eg : lotV nm (p ++ [k]) = .tup (p.map (roadV nm) ++ [roadV nm k]) := by simp [lotV]
  have hadd : binD .Add (lotV nm p) (.tup [roadV nm k]) = some (lotV nm (p ++ [k])) := by
    rw [eg]
    exact add_tup (sz (by simp; omega))
  have lf : (if 1 < p.length then ls.filter (fun l => !decide (l = p)) else ls).length ≤ 20 := by
    have : (ls.filter (fun l => !decide (l = p))).length ≤ ls.length := List.length_filter_le _ _
    split <;> omega
  have lg : (if p.length = 1 then ss.erase p else ss).length ≤ 20 := by
    have : (ss.erase p).length ≤ ss.length := List.length_erase_le
    split <;> omega
  unfold stepL stepS
  generalize hL : (if 1 < p.length then ls.filter (fun l => !decide (l = p)) else ls) = L at lf ⊢
  generalize hS : (if p.length = 1 then ss.erase p else ss) = S' at lg ⊢
  rw [asg_pure (ρ1 := [a0, a1, .val (.lst (L.map (lotV nm))), .val (.lst (S'.map (lotV nm))), .val (roadV nm k), a5, a6, .val (lotV nm p), a8, a9, a10, b11, .val (lotV nm (p ++ [k]))]) (N.tsorted (ev_bin (ev_b rfl) (ev_tup (ev_es (ev_v rfl) ev_es0) (sz (by simp))) hadd) gB gP) rfl]
  have test : evT kin C (.val (.cmp .Gt (.bi .len (.cons (.b 12) .nil)) (.c (.int 1)))) [a0, a1, .val (.lst (L.map (lotV nm))), .val (.lst (S'.map (lotV nm))), .val (roadV nm k), a5, a6, .val (lotV nm p), a8, a9, a10, b11, .val (lotV nm (p ++ [k]))] = pure (!decide (p = [])) := by
    refine (evQ_bl (ev_cmp (ev_bi1 (ev_b rfl) len_tup) ev_c (gt_int _ _))).trans ?_
    congr 1
    rw [List.length_map, List.length_append]
    by_cases h : p = []
    · subst h; rfl
    · have := List.length_pos_iff.mpr h
      rw [decide_eq_false h]
      exact decide_eq_true (by simp; omega)
  by_cases h0 : p = []
  · rw [decide_eq_true h0] at test
    rw [iff_pure test]
    simp only [Bool.not_true, Bool.false_eq_true, if_false]
    rw [if_pos h0, if_pos h0, List.append_nil, asg_pure (ev_bin (ev_b rfl) (ev_lst (ev_es (ev_v rfl) ev_es0) (sz (by simp))) (add_lst (sz (by simp; omega)))) rfl, nil_nx, evSs_nil, h0]
    simp
    rfl
  · rw [decide_eq_false h0] at test
    rw [iff_true test, if_neg h0, if_neg h0, List.append_nil, asg_pure (ev_bin (ev_b rfl) (ev_lst (ev_es (ev_v rfl) ev_es0) (sz (by simp))) (add_lst (sz (by simp; omega)))) rfl, nil_nx, evSs_nil]
    simp
    rfl
end
end RM
end
section
set_option Elab.async false
set_option linter.all false
set_option maxRecDepth 100000
set_option maxHeartbeats 1000000
set_option autoImplicit false
/-! values: lots of a drawn net; meetings drawn -/
namespace RM
open PySem PySem.Spec PyProof.Rows L2

section
variable {kin : Kin} {C : Orc} {n : Nat} {nm : Nat → Str} {X : D → Prop}
theorem places_bel {k : Nat} {ls ss : List (List Nat)} (I : NInv k ls ss) {p : List Nat} (h : p ∈ ls ++ ss ++ [[]]) : p = [] ∨ p ∈ ls ∨ p ∈ ss := by
  rcases List.mem_append.mp h with h | h
  · exact .inr (List.mem_append.mp h)
  · exact .inl (by simpa using h)
theorem lots_drawn_tr (N : Nm n nm) (hn : n ≤ 7) (hC : C "_law_next" = orcNext) : Tr 14 (runF kin C 11 c__law_lots_drawn [.drw, roadsV n nm]) (fun d => ∃ ls, NetI n ls ∧ d = .lst (ls.map (lotV nm))) X := by
  refine Tr.mono (X := noX) ?_ (Nat.le_refl _) (fun _ h => h) fun _ h => h.elim
  refine run_tr ?_
  show Tr 14 (evSs kin C c__law_lots_drawn [.val .drw, .val (roadsV n nm), .emp, .emp, .emp, .emp, .emp, .emp, .emp, .emp, .emp, .emp, .emp]) _ noX
  unfold c__law_lots_drawn
  rw [par_pure (ds := [.lst [], .lst []]) (ev_es (ev_lst ev_es0 (sz (by decide))) (ev_es (ev_lst ev_es0 (sz (by decide))) ev_es0)) rfl]
  show Tr 14 (evSs kin C _ [.val .drw, .val (roadsV n nm), .val (.lst []), .val (.lst []), .emp, .emp, .emp, .emp, .emp, .emp, .emp, .emp, .emp]) _ noX
  refine Tr.le (c := 7 * 2 + 0) ?_ (by decide)
  refine tr_frl (m := 7) (xs := (List.range n).map (roadV nm)) (fun k ρ => ∃ ls ss a4 a5 a6 a7 a8 a9 a10 a11 a12, NInv k ls ss ∧ ls.length + ss.length ≤ 2 * k ∧ ρ = [.val .drw, .val (roadsV n nm), .val (.lst (ls.map (lotV nm))), .val (.lst (ss.map (lotV nm))), a4, a5, a6, a7, a8, a9, a10, a11, a12])
    (evI_seq (ev_v rfl) rfl) (by rw [List.length_map, List.length_range]; exact hn) ?_ ⟨[], [], .emp, .emp, .emp, .emp, .emp, .emp, .emp, .emp, .emp, ⟨fun _ z => (nomatch z), fun _ z => (nomatch z), .nil, fun _ => Nat.zero_le _⟩, Nat.le_refl _, rfl⟩ ?_
  · rintro k x ρ hx ⟨ls, ss, a4, a5, a6, a7, a8, a9, a10, a11, a12, I, few, rfl⟩
    have hk : k < n := by
      have := (List.getElem?_eq_some_iff.mp hx).1
      simpa using this
    have ex : x = roadV nm k := by
      rw [List.getElem?_map, List.getElem?_range hk] at hx
      exact (Option.some.inj hx).symm
    subst ex
    refine ⟨[.val .drw, .val (roadsV n nm), .val (.lst (ls.map (lotV nm))), .val (.lst (ss.map (lotV nm))), .val (roadV nm k), a5, a6, a7, a8, a9, a10, a11, a12], rfl, ?_⟩
    generalize hP : ls ++ ss ++ [[]] = P
    have Pmem : ∀ p ∈ P, p = [] ∨ p ∈ ls ∨ p ∈ ss := fun p hp => places_bel I (hP ▸ hp)
    have Pb : ∀ p ∈ P, Bel n p := fun p hp => fun x hx => Nat.lt_trans ((I.place (Pmem p hp)).bel x hx) hk
    have Plen : P.length ≤ 20 := by rw [← hP]; simp; omega
    have Pnil : [] ∈ P := by rw [← hP]; simp
    have eP : P.map (lotV nm) = ls.map (lotV nm) ++ ss.map (lotV nm) ++ [.tup []] := by rw [← hP]; simp
    have e5 : evE kin C (.bin .Add (.bin .Add (.b 2) (.b 3)) (.lst (.cons (.tup .nil) .nil))) [.val .drw, .val (roadsV n nm), .val (.lst (ls.map (lotV nm))), .val (.lst (ss.map (lotV nm))), .val (roadV nm k), a5, a6, a7, a8, a9, a10, a11, a12] = pure (.lst (P.map (lotV nm))) := by
      rw [eP]
      exact ev_bin (ev_bin (ev_b rfl) (ev_b rfl) (add_lst (sz (by simp; omega)))) (ev_lst (ev_es (ev_tup ev_es0 (sz (by decide))) ev_es0) (sz (by simp))) (add_lst (sz (by simp; omega)))
    refine Tr.le (c := 0 + ((0 + 1) + (0 + ((0 + 1) + 0)))) (tr_asg (Pa := fun d => d = .lst (P.map (lotV nm))) (Tr.of e5 rfl) fun d hd => ?_) (by decide)
    subst hd
    refine ⟨_, rfl, ?_⟩
    refine tr_asg (Pa := fun d => ∃ p ∈ P, d = lotV nm p) (tr_sub (Pa := fun d => d = .lst (P.map (lotV nm))) (Tr.of (ev_b rfl) rfl) fun d hd => ?_) fun d hd => ?_
    · subst hd
      refine (tr_next (n := P.length) hC rfl ((ev_bi1 (ev_b rfl) len_lst).trans (by rw [List.length_map])) (List.length_pos_of_mem Pnil) (by omega)).imp ?_
      rintro y ⟨q, hq, rfl⟩
      exact ⟨lotV nm P[q], sub_lst (by rw [List.getElem?_map, List.getElem?_eq_getElem hq]; rfl), _, List.getElem_mem hq, rfl⟩
    obtain ⟨p, hp, rfl⟩ := hd
    refine ⟨[.val .drw, .val (roadsV n nm), .val (.lst (ls.map (lotV nm))), .val (.lst (ss.map (lotV nm))), .val (roadV nm k), .val (.lst (P.map (lotV nm))), .val (lotV nm p), a7, a8, a9, a10, a11, a12], rfl, ?_⟩
    -- the places without a road of the first one
    generalize hR : (P.filter fun q => q.isEmpty || (q.filter fun x => decide (x ∈ p)).isEmpty) = R
    have e5' : evE kin C (.lc [7] [7] (.seq (.b 5)) (.or (.val (.cmp .Eq (.b 7) (.tup .nil))) (.val (.cmp .Eq (.lc [8] [8] (.seq (.b 7)) (.val (.cmp .In (.b 8) (.b 6))) (.v 8)) (.lst .nil)))) (.v 7))
        [.val .drw, .val (roadsV n nm), .val (.lst (ls.map (lotV nm))), .val (.lst (ss.map (lotV nm))), .val (roadV nm k), .val (.lst (P.map (lotV nm))), .val (lotV nm p), a7, a8, a9, a10, a11, a12] = pure (.lst (R.map (lotV nm))) := by
      refine (lc_map (ls := P) (v := lotV nm) (fun q => if (q.isEmpty || (q.filter fun x => decide (x ∈ p)).isEmpty) then some (lotV nm q) else none) (evI_seq (ev_b rfl) rfl) (sz (by omega)) fun q hq => ?_).trans (by rw [fm_if, hR])
      refine lcF_q (ρ1 := [.val .drw, .val (roadsV n nm), .val (.lst (ls.map (lotV nm))), .val (.lst (ss.map (lotV nm))), .val (roadV nm k), .val (.lst (P.map (lotV nm))), .val (lotV nm p), .val (lotV nm q), a8, a9, a10, a11, a12]) rfl ?_ fun _ => ev_v rfl
      have hqb := Pb q hq
      have ql : q.length ≤ 100000 := by
        rcases Pmem q hq with e | e | e
        · subst e; simp
        · have := pw_len (I.l2 q e).2.1 (I.l2 q e).2.2; omega
        · obtain ⟨y, _, rfl⟩ := I.s1 q e
          simp
      refine evQ_or (evQ_bl ((ev_cmp (ev_b rfl) (ev_tup ev_es0 (sz (by decide))) (eq_empty _)).trans (by rw [List.isEmpty_map]))) fun _ => evQ_bl ?_
      refine (ev_cmp (lc_map (ls := q) (v := roadV nm) (fun x => if decide (x ∈ p) then some (roadV nm x) else none) (evI_seq (ev_b rfl) rfl) (sz ql) fun x hx => ?_) (ev_lst ev_es0 (sz (by decide))) (eq_emptyL _)).trans ?_
      · exact lcF_q (ρ1 := [.val .drw, .val (roadsV n nm), .val (.lst (ls.map (lotV nm))), .val (.lst (ss.map (lotV nm))), .val (roadV nm k), .val (.lst (P.map (lotV nm))), .val (lotV nm p), .val (lotV nm q), .val (roadV nm x), a9, a10, a11, a12]) rfl (evQ_bl (ev_cmp (ev_b rfl) (ev_b rfl) (N.in_road (hqb x hx) (Pb p hp)))) fun _ => ev_v rfl
      · rw [fm_if, List.isEmpty_map]
    refine tr_asg (Pa := fun d => d = .lst (R.map (lotV nm))) (Tr.of e5' rfl) fun d hd => ?_
    subst hd
    refine ⟨[.val .drw, .val (roadsV n nm), .val (.lst (ls.map (lotV nm))), .val (.lst (ss.map (lotV nm))), .val (roadV nm k), .val (.lst (R.map (lotV nm))), .val (lotV nm p), a7, a8, a9, a10, a11, a12], rfl, ?_⟩
    have Rnil : [] ∈ R := by rw [← hR]; exact List.mem_filter.mpr ⟨Pnil, rfl⟩
    have Rmem : ∀ q ∈ R, q ∈ P ∧ (q = [] ∨ Apt q p) := fun q hq => by
      rw [← hR] at hq
      obtain ⟨h1, h2⟩ := List.mem_filter.mp hq
      refine ⟨h1, ?_⟩
      rcases (Bool.or_eq_true _ _).mp h2 with h2 | h2
      · exact .inl (List.isEmpty_iff.mp h2)
      · refine .inr fun x hx hx' => ?_
        have : x ∈ q.filter fun x => decide (x ∈ p) := List.mem_filter.mpr ⟨hx, decide_eq_true hx'⟩
        rw [List.isEmpty_iff.mp h2] at this
        cases this
    have Rlen : R.length ≤ 20 := by
      rw [← hR]
      exact Nat.le_trans (List.length_filter_le _ _) Plen
    refine tr_asg (Pa := fun d => ∃ q ∈ R, d = lotV nm q) (tr_sub (Pa := fun d => d = .lst (R.map (lotV nm))) (Tr.of (ev_b rfl) rfl) fun d hd => ?_) fun d hd => ?_
    · subst hd
      refine (tr_next (n := R.length) hC rfl ((ev_bi1 (ev_b rfl) len_lst).trans (by rw [List.length_map])) (List.length_pos_of_mem Rnil) (by omega)).imp ?_
      rintro y ⟨q, hq, rfl⟩
      exact ⟨lotV nm R[q], sub_lst (by rw [List.getElem?_map, List.getElem?_eq_getElem hq]; rfl), _, List.getElem_mem hq, rfl⟩
    obtain ⟨q, hq, rfl⟩ := hd
    refine ⟨[.val .drw, .val (roadsV n nm), .val (.lst (ls.map (lotV nm))), .val (.lst (ss.map (lotV nm))), .val (roadV nm k), .val (.lst (R.map (lotV nm))), .val (lotV nm p), a7, a8, .val (lotV nm q), a10, a11, a12], rfl, ?_⟩
    obtain ⟨hqP, hqa⟩ := Rmem q hq
    have M0 := I.mid
    have ok1 := I.place (Pmem p hp)
    have M1 := M0.step ok1
    have ok2 := I.place2 (Pmem p hp) (Pmem q hqP) hqa
    have l1 := stepL_len k ls ss p
    have l2 := stepL_len k (stepL k ls p) (stepS k ls ss p) q
    obtain ⟨b11, b12, e1⟩ := put_run (kin := kin) (C := C) N hn hk M0 (by omega) ok1 (.val .drw) (.val (roadsV n nm)) (.val (.lst (R.map (lotV nm)))) (.val (lotV nm p)) a8 (.val (lotV nm q)) a10 a11 a12
    obtain ⟨c11, c12, e2⟩ := put_run (kin := kin) (C := C) N hn hk M1 (by omega) ok2 (.val .drw) (.val (roadsV n nm)) (.val (.lst (R.map (lotV nm)))) (.val (lotV nm p)) a8 (.val (lotV nm q)) a10 b11 b12
    have fin := frl_two (kin := kin) (C := C) (p := [7]) (it := .seq (.tup (.cons (.v 6) (.cons (.v 9) .nil)))) (b := bPut) (r := .nil) (ρ := [.val .drw, .val (roadsV n nm), .val (.lst (ls.map (lotV nm))), .val (.lst (ss.map (lotV nm))), .val (roadV nm k), .val (.lst (R.map (lotV nm))), .val (lotV nm p), a7, a8, .val (lotV nm q), a10, a11, a12]) (x := lotV nm p) (y := lotV nm q)
      (evI_seq (ev_tup (ev_es (ev_v rfl) (ev_es (ev_v rfl) ev_es0)) (sz (by simp))) rfl) rfl e1 rfl e2
    rw [evSs_nil] at fin
    exact Tr.of fin ⟨_, _, _, _, _, _, _, _, _, _, _, I.step (Pmem p hp) (Pmem q hqP) hqa, by omega, rfl⟩
  · rintro ρ ⟨ls, ss, a4, a5, a6, a7, a8, a9, a10, a11, a12, I, few, rfl⟩
    rw [List.length_map, List.length_range] at I few
    exact tr_ret (Tr.of (ev_bi1 (ev_b rfl) (N.sorted_lots fun l hl => (I.l2 l hl).2.2)) ⟨_, I.net (by omega), rfl⟩)
end
end RM
end
section
set_option Elab.async false
set_option linter.all false
set_option maxRecDepth 100000
set_option maxHeartbeats 1000000
set_option autoImplicit false
/-! values: couples within lots; meetings drawn -/
namespace RM
open PySem PySem.Spec PyProof.Rows L2

/-! ### a lot as roads of its own -/
section
variable {n : Nat} {nm : Nat → Str}
def subN (nm : Nat → Str) (l : List Nat) : Nat → Str := fun i => nm (l.getD i 0)
theorem getD_at {l : List Nat} {i : Nat} (h : i < l.length) : l.getD i 0 = l[i] := by simp [h]
theorem pw_lt {l : List Nat} (hp : l.Pairwise (· < ·)) {i j : Nat} (hi : i < l.length) (hj : j < l.length) : l[i] < l[j] ↔ i < j := by
  constructor
  · intro h
    rcases Nat.lt_trichotomy i j with z | z | z
    · exact z
    · subst z; exact absurd h (Nat.lt_irrefl _)
    · have := List.pairwise_iff_getElem.mp hp j i hj hi z
      omega
  · intro h
    exact List.pairwise_iff_getElem.mp hp i j hi hj h
theorem Nm.sub (N : Nm n nm) {l : List Nat} (hb : Bel n l) (hp : l.Pairwise (· < ·)) : Nm l.length (subN nm l) := by
  refine ⟨fun i j hi hj => ?_, fun i hi => ?_⟩
  · unfold subN
    rw [getD_at hi, getD_at hj, N.lt _ _ (hb _ (List.getElem_mem hi)) (hb _ (List.getElem_mem hj))]
    congr 1
    simp only [eq_iff_iff]
    exact pw_lt hp hi hj
  · unfold subN
    rw [getD_at hi]
    exact N.w _ (hb _ (List.getElem_mem hi))
theorem range_getD (l : List Nat) : (List.range l.length).map (fun i => l.getD i 0) = l := by
  refine List.ext_getElem (by simp) fun i h1 h2 => ?_
  rw [List.getElem_map, List.getElem_range]
  exact getD_at h2
theorem roads_sub (l : List Nat) : roadsV l.length (subN nm l) = lotV nm l := by
  show D.tup _ = D.tup _
  congr 1
  conv => rhs; rw [← range_getD l]
  rw [List.map_map]
  rfl
/-- a lot of places within a lot -/
def lotIn (l c : List Nat) : List Nat := c.map fun i => l.getD i 0
theorem lotV_sub (l c : List Nat) : lotV (subN nm l) c = lotV nm (lotIn l c) := by
  show D.tup _ = D.tup _
  unfold lotIn
  rw [List.map_map]
  rfl
/-- the couples within a lot -/
def cplOf (l : List Nat) : List (List Nat) := (couplesI l.length).map (lotIn l)
theorem mem_cplOf {l c : List Nat} (hp : l.Pairwise (· < ·)) : c ∈ cplOf l ↔ ∃ x y, x < y ∧ x ∈ l ∧ y ∈ l ∧ c = [x, y] := by
  unfold cplOf
  rw [List.mem_map]
  constructor
  · rintro ⟨d, hd, rfl⟩
    obtain ⟨i, j, hij, hj, rfl⟩ := mem_couples.mp hd
    have hi : i < l.length := by omega
    refine ⟨l[i], l[j], (pw_lt hp hi hj).mpr hij, List.getElem_mem hi, List.getElem_mem hj, ?_⟩
    show [l.getD i 0, l.getD j 0] = _
    rw [getD_at hi, getD_at hj]
  · rintro ⟨x, y, hxy, hx, hy, rfl⟩
    obtain ⟨i, hi, rfl⟩ := List.mem_iff_getElem.mp hx
    obtain ⟨j, hj, rfl⟩ := List.mem_iff_getElem.mp hy
    refine ⟨[i, j], mem_couples.mpr ⟨i, j, (pw_lt hp hi hj).mp hxy, hj, rfl⟩, ?_⟩
    show [l.getD i 0, l.getD j 0] = _
    rw [getD_at hi, getD_at hj]
theorem cpl_asc : ∀ n, n ≤ 7 → (couplesI n).Pairwise fun a b => ltL a b = true := by decide +kernel
theorem couples_few {n : Nat} (hn : n ≤ 7) : (couplesI n).length ≤ 21 := by
  have : ∀ n, n ≤ 7 → (couplesI n).length ≤ 21 := by decide +kernel
  exact this n hn
theorem cplOf_nodup {l : List Nat} (hp : l.Pairwise (· < ·)) (hl : l.length ≤ 7) : (cplOf l).Nodup := by
  have h1 : (couplesI l.length).Pairwise (· ≠ ·) := (cpl_asc l.length hl).imp fun {a b} h e => by rw [e, ltL_irrefl] at h; cases h
  unfold cplOf
  refine List.Pairwise.map _ ?_ (List.Pairwise.and_mem.mp h1)
  rintro a b ⟨ha, hb, hne⟩ e
  obtain ⟨i, j, hij, hj, rfl⟩ := mem_couples.mp ha
  obtain ⟨i', j', hij', hj', rfl⟩ := mem_couples.mp hb
  have e : [l.getD i 0, l.getD j 0] = [l.getD i' 0, l.getD j' 0] := e
  rw [getD_at (by omega), getD_at hj, getD_at (by omega), getD_at hj'] at e
  simp only [List.cons.injEq, and_true] at e
  have same : ∀ {a b : Nat} (ha : a < l.length) (hb : b < l.length), l[a] = l[b] → a = b := fun {a b} ha hb e => by
    rcases Nat.lt_trichotomy a b with z | z | z
    · have := (pw_lt hp ha hb).mpr z; omega
    · exact z
    · have := (pw_lt hp hb ha).mpr z; omega
  exact hne (by rw [same (by omega) (by omega) e.1, same hj hj' e.2])
theorem nodup_len {α : Type} [BEq α] [LawfulBEq α] : ∀ {l m : List α}, l.Nodup → (∀ x ∈ l, x ∈ m) → l.length ≤ m.length
  | [], _, _, _ => Nat.zero_le _
  | a :: r, m, h, hm => by
    obtain ⟨h1, h2⟩ := List.nodup_cons.mp h
    have ha := hm a List.mem_cons_self
    have := nodup_len (l := r) (m := m.erase a) h2 fun x hx => (List.mem_erase_of_ne (fun e => h1 (by rw [← e]; exact hx))).mpr (hm x (List.mem_cons_of_mem _ hx))
    have hl := List.length_erase_of_mem ha
    have := List.length_pos_of_mem ha
    rw [List.length_cons]
    omega
/-- the couples within lots -/
def meetI (ls : List (List Nat)) : List (List Nat) := ls.flatMap cplOf
theorem NetI.meet_mem {ls : List (List Nat)} (I : NetI n ls) {c : List Nat} (h : c ∈ meetI ls) : c ∈ couplesI n := by
  obtain ⟨l, hl, hc⟩ := List.mem_flatMap.mp h
  obtain ⟨x, y, hxy, hx, hy, rfl⟩ := (mem_cplOf (I.l2 l hl).2.1).mp hc
  exact mem_couples.mpr ⟨x, y, hxy, (I.l2 l hl).2.2 y hy, rfl⟩
theorem meet_nodup (hn : n ≤ 7) : ∀ {ls : List (List Nat)}, (∀ l ∈ ls, 2 ≤ l.length ∧ l.Pairwise (· < ·) ∧ Bel n l) → ls.Pairwise Thin → (meetI ls).Nodup
  | [], _, _ => List.nodup_nil
  | l :: ls, h, ht => by
    rw [List.pairwise_cons] at ht
    have hl := h l List.mem_cons_self
    have ih := meet_nodup hn (ls := ls) (fun m hm => h m (List.mem_cons_of_mem _ hm)) ht.2
    show (cplOf l ++ meetI ls).Nodup
    rw [List.nodup_append]
    refine ⟨cplOf_nodup hl.2.1 (Nat.le_trans (pw_len hl.2.1 hl.2.2) hn), ih, fun c hc d hd e => ?_⟩
    subst e
    obtain ⟨m, hm, hd⟩ := List.mem_flatMap.mp hd
    obtain ⟨x, y, hxy, hx, hy, rfl⟩ := (mem_cplOf hl.2.1).mp hc
    obtain ⟨x', y', _, hx', hy', e⟩ := (mem_cplOf (h m (List.mem_cons_of_mem _ hm)).2.1).mp hd
    simp only [List.cons.injEq, and_true] at e
    obtain ⟨rfl, rfl⟩ := e
    have := ht.1 m hm x y hx hx' hy hy'
    omega
/-- meetings: couples, ascending -/
structure MetI (n : Nat) (ms : List (List Nat)) : Prop where
  mem : ∀ c ∈ ms, c ∈ couplesI n
  st : ms.Pairwise fun a b => ltL a b = true
theorem MetI.bel {ms : List (List Nat)} (I : MetI n ms) : ∀ c ∈ ms, Bel n c := fun c hc => (couple_bel (I.mem c hc)).1
theorem MetI.nodup {ms : List (List Nat)} (I : MetI n ms) : ms.Nodup := I.st.imp fun {a b} h e => by rw [e, ltL_irrefl] at h; cases h
theorem MetI.few {ms : List (List Nat)} (I : MetI n ms) (hn : n ≤ 7) : ms.length ≤ 21 := Nat.le_trans (nodup_len I.nodup I.mem) (couples_few hn)
theorem met_of {ms : List (List Nat)} (h : ms.Nodup) (hm : ∀ c ∈ ms, c ∈ couplesI n) : MetI n (ms.mergeSort leL) := ⟨fun c hc => hm c ((List.mergeSort_perm ms leL).mem_iff.mp hc), sorted_strictL h⟩
end

section
variable {kin : Kin} {C : Orc} {n : Nat} {nm : Nat → Str} {X : D → Prop}
theorem law_couples_lot (N : Nm n nm) (hn : n ≤ 7) {l : List Nat} (hb : Bel n l) (hp : l.Pairwise (· < ·)) : runF kin C 3 c__law_couples [lotV nm l] = pure (.lst ((cplOf l).map (lotV nm))) := by
  have := law_couples_run (kin := kin) (C := C) (N.sub hb hp) (Nat.le_trans (pw_len hp hb) hn)
  rw [roads_sub] at this
  rw [this]
  congr 2
  unfold cplOf
  rw [List.map_map]
  exact List.map_congr_left fun c _ => lotV_sub l c
theorem couples_lot (N : Nm n nm) (hn : n ≤ 7) {l : List Nat} (hb : Bel n l) (hp : l.Pairwise (· < ·)) (hC : ∀ {m : Nat} {nm' : Nat → Str}, Nm m nm' → m ≤ 7 → C "couples" [roadsV m nm'] = pure (.tup ((couplesI m).map (lotV nm')))) : C "couples" [lotV nm l] = pure (.tup ((cplOf l).map (lotV nm))) := by
  have := hC (N.sub hb hp) (Nat.le_trans (pw_len hp hb) hn)
  rw [roads_sub] at this
  rw [this]
  congr 2
  unfold cplOf
  rw [List.map_map]
  exact List.map_congr_left fun c _ => lotV_sub l c
theorem cplOf_few {l : List Nat} (hl : l.length ≤ 7) : (cplOf l).length ≤ 21 := by
  unfold cplOf
  rw [List.length_map]
  exact couples_few hl
theorem law_meetings_run (N : Nm n nm) (hn : n ≤ 7) {ls : List (List Nat)} (I : NetI n ls) (hC : ∀ l, Bel n l → l.Pairwise (· < ·) → C "_law_couples" [lotV nm l] = pure (.lst ((cplOf l).map (lotV nm)))) :
    runF kin C 2 c__law_meetings [.lst (ls.map (lotV nm))] = pure (.lst (((meetI ls).mergeSort leL).map (lotV nm))) := by
  refine run_ret ?_
  show evSs kin C c__law_meetings [.val (.lst (ls.map (lotV nm))), .emp, .emp] = _
  unfold c__law_meetings
  rw [asg_pure (ρ1 := [.val (.lst (ls.map (lotV nm))), .val (.lst []), .emp]) (ev_lst ev_es0 (sz (by decide))) rfl]
  have len : ∀ k, (meetI (ls.take k)).length ≤ 21 * k := by
    intro k
    have : ∀ (ls : List (List Nat)), (∀ l ∈ ls, l.length ≤ 7) → (meetI ls).length ≤ 21 * ls.length := by
      intro ls
      induction ls with
      | nil => intro _; exact Nat.le_refl _
      | cons l ls ih =>
        intro h
        show (cplOf l ++ meetI ls).length ≤ _
        rw [List.length_append, List.length_cons]
        have := cplOf_few (h l List.mem_cons_self)
        have := ih fun m hm => h m (List.mem_cons_of_mem _ hm)
        omega
    have h1 := this (ls.take k) fun l hl => by
      have := I.l2 l (List.mem_of_mem_take hl)
      exact Nat.le_trans (pw_len this.2.1 this.2.2) hn
    have h2 : (ls.take k).length ≤ k := List.length_take_le k ls
    omega
  have few := I.few
  refine Eq.trans (frl_pure (xs := ls.map (lotV nm)) (fun j => [.val (.lst (ls.map (lotV nm))), .val (.lst ((meetI (ls.take j)).map (lotV nm))), (match j with | 0 => .emp | j + 1 => .val ((ls.map (lotV nm)).getD j .non))]) (evI_seq (ev_v rfl) rfl) rfl fun i x hx => ?_) ?_
  · have hi : i < ls.length := by
      have := (List.getElem?_eq_some_iff.mp hx).1
      simpa using this
    have ex : x = lotV nm ls[i] := by
      rw [List.getElem?_map, List.getElem?_eq_getElem hi] at hx
      exact (Option.some.inj hx).symm
    refine ⟨[.val (.lst (ls.map (lotV nm))), .val (.lst ((meetI (ls.take i)).map (lotV nm))), .val x], rfl, ?_⟩
    subst ex
    have hl := I.l2 ls[i] (List.getElem_mem hi)
    have step : meetI (ls.take (i + 1)) = meetI (ls.take i) ++ cplOf ls[i] := by
      unfold meetI
      rw [← List.take_append_getElem hi, List.flatMap_append]
      simp
    have h7 : ls[i].length ≤ 7 := Nat.le_trans (pw_len hl.2.1 hl.2.2) hn
    have := len i
    have := cplOf_few h7
    rw [asg_pure (ev_bin (ev_b rfl) (ev_app (ev_es (ev_v rfl) ev_es0) (hC _ hl.2.2 hl.2.1)) (add_lst (sz (by rw [List.length_map, List.length_map]; omega)))) rfl, evSs_nil, step, List.map_append]
    have eg : (ls.map (lotV nm)).getD i .non = lotV nm ls[i] := by simp [hi]
    show pure (Out.nx [_, _, _]) = pure (Out.nx [_, _, .val ((ls.map (lotV nm)).getD i .non)])
    rw [eg]
  · have et : ls.take (ls.map (lotV nm)).length = ls := by rw [List.length_map, List.take_length]
    rw [et]
    exact ret_pure (ev_bi1 (ev_b rfl) (N.sorted_lots fun c hc => (couple_bel (I.meet_mem hc)).1))
/-- a comprehension with draws -/
theorem tr_lc {c : Nat} {ρ : Fe} {own p : List Nat} {it : I} {t : Q} {e : E} {xs : List D} {P : D → Prop} {m : Nat} (I : Nat → List D → Prop) (h : evI kin C it ρ = pure xs) (hl : xs.length ≤ m) (hm : m ≤ 100000) (h0 : I 0 [])
    (hs : ∀ i x acc, xs[i]? = some x → I i acc → Tr c (lcF kin C ρ own p t e x) (fun o => I (i + 1) (acc ++ o.toList)) noX) (hP : ∀ rs, I xs.length rs → P (.lst rs)) : Tr (m * c) (evE kin C (.lc own p it t e) ρ) P X := by
  rw [evE_lc, h]
  simp only [pure_bind]
  rw [small_pure (sz (by omega))]
  simp only [pure_bind]
  have key : Tr (xs.length * c) (mapO (lcF kin C ρ own p t e) xs) (fun rs => I (0 + xs.length) ([] ++ rs)) noX := mapO_tr (I := I) (i := 0) (acc := []) (fun j x acc hx hi => by
    rw [Nat.zero_add] at hi ⊢
    exact hs j x acc hx hi) h0
  have : Tr (xs.length * c + 0) (do
    let rs ← M.quiet (mapO (lcF kin C ρ own p t e) xs)
    pure (D.lst rs)) P X := Tr.bind (quiet_tr key) fun rs hr => Tr.pure (hP rs (by simpa using hr))
  exact this.le (Nat.mul_le_mul_right c hl)
theorem law_met_tr (N : Nm n nm) (h1 : 1 ≤ n) (hn : n ≤ 7) (hC : C "_law_next" = orcNext) (hD : Tr 14 (C "_law_lots_drawn" [.drw, roadsV n nm]) (fun d => ∃ ls, NetI n ls ∧ d = .lst (ls.map (lotV nm))) noX)
    (hM : ∀ ls, NetI n ls → C "_law_meetings" [.lst (ls.map (lotV nm))] = pure (.lst (((meetI ls).mergeSort leL).map (lotV nm)))) (hK : C "_law_couples" [roadsV n nm] = pure (.lst ((couplesI n).map (lotV nm)))) :
    Tr 40 (runF kin C 5 c__law_met [.drw, roadsV n nm]) (fun d => ∃ ms, MetI n ms ∧ d = .lst (ms.map (lotV nm))) X := by
  refine Tr.mono (X := noX) ?_ (Nat.le_refl _) (fun _ h => h) fun _ h => h.elim
  refine run_tr ?_
  show Tr 40 (evSs kin C c__law_met [.val .drw, .val (roadsV n nm), .emp, .emp, .emp, .emp, .emp]) _ noX
  unfold c__law_met
  have few := couples_few hn
  refine Tr.le (c := (1 + (14 + 0)) + 24) (tr_par (Ps := fun ds => ∃ (j : Nat) (ls : List (List Nat)), j < 4 ∧ NetI n ls ∧ ds = [.int j, .lst (((meetI ls).mergeSort leL).map (lotV nm))]) ?_ fun ds hd => ?_) (by decide)
  · refine tr_es (tr_next (n := 4) hC rfl ev_c (by decide) (by decide)) fun x ⟨j, hj, ex⟩ => ?_
    subst ex
    refine tr_es (Pa := fun d => ∃ ls, NetI n ls ∧ d = .lst (((meetI ls).mergeSort leL).map (lotV nm))) ?_ fun d ⟨ls, I, ed⟩ => by subst ed; exact tr_es0 ⟨j, ls, hj, I, rfl⟩
    refine Tr.le (c := (((0 + (0 + 0)) + 14) + 0) + 0) (tr_app (Ps := fun xs => ∃ ls, NetI n ls ∧ xs = [.lst (ls.map (lotV nm))]) (tr_es (Pa := fun d => ∃ ls, NetI n ls ∧ d = .lst (ls.map (lotV nm))) (tr_app (Ps := fun xs => xs = [.drw, roadsV n nm]) (Tr.of (ev_es (ev_v rfl) (ev_es (ev_v rfl) ev_es0)) rfl) fun xs hx => by subst hx; exact hD) fun d ⟨ls, I, ed⟩ => by subst ed; exact tr_es0 ⟨ls, I, rfl⟩) fun xs ⟨ls, I, ex⟩ => ?_) (by decide)
    subst ex
    exact Tr.of (hM ls I) ⟨ls, I, rfl⟩
  obtain ⟨j, ls, hj, I, rfl⟩ := hd
  refine ⟨rfl, ?_⟩
  show Tr 24 (evSs kin C _ [.val .drw, .val (roadsV n nm), .val (.int j), .val (.lst (((meetI ls).mergeSort leL).map (lotV nm))), .emp, .emp, .emp]) _ noX
  have M0 : MetI n ((meetI ls).mergeSort leL) := met_of (meet_nodup hn I.l2 I.th) fun c hc => I.meet_mem hc
  generalize (meetI ls).mergeSort leL = ms at M0
  refine tr_ifretE (p := decide ((j : Int) = 3)) (evQ_bl (ev_cmp (ev_b rfl) ev_c (eq_int _ _))) (fun _ => ?_) fun hj3 => ?_
  · refine Tr.le (c := 21 * 1) (tr_lc (xs := (couplesI n).map (lotV nm)) (m := 21) (fun i acc => ∃ cs : List (List Nat), acc = cs.map (lotV nm) ∧ cs.Sublist ((couplesI n).take i)) (evI_seq (ev_app (ev_es (ev_v rfl) ev_es0) hK) rfl) (by rw [List.length_map]; exact few) (by decide) ⟨[], rfl, List.nil_sublist _⟩ (fun i x acc hx hi => ?_) fun rs hr => ?_) (by decide)
    · obtain ⟨cs, rfl, hs⟩ := hi
      have hil : i < (couplesI n).length := by
        have := (List.getElem?_eq_some_iff.mp hx).1
        simpa using this
      have ex : x = lotV nm (couplesI n)[i] := by
        rw [List.getElem?_map, List.getElem?_eq_getElem hil] at hx
        exact (Option.some.inj hx).symm
      subst ex
      have et : (couplesI n).take (i + 1) = (couplesI n).take i ++ [(couplesI n)[i]] := by rw [List.take_succ, List.getElem?_eq_getElem hil]; rfl
      unfold lcF
      have ea : asgP [4] (lotV nm (couplesI n)[i]) (wipeE [Slot.val .drw, .val (roadsV n nm), .val (.int j), .val (.lst (ms.map (lotV nm))), .emp, .emp, .emp] [4]) = some [Slot.val .drw, .val (roadsV n nm), .val (.int j), .val (.lst (ms.map (lotV nm))), .val (lotV nm (couplesI n)[i]), .emp, .emp] := rfl
      rw [ea]
      simp only [op_some, pure_bind]
      have test : Tr 1 (evT kin C (.val (.cmp .Gt (.app "_law_next" (.cons (.v 0) (.cons (.c (.int 3)) .nil))) (.c (.int 0)))) [Slot.val .drw, .val (roadsV n nm), .val (.int j), .val (.lst (ms.map (lotV nm))), .val (lotV nm (couplesI n)[i]), .emp, .emp]) (fun _ => True) noX := by
        have : Tr (1 + 0) (evE kin C (.cmp .Gt (.app "_law_next" (.cons (.v 0) (.cons (.c (.int 3)) .nil))) (.c (.int 0))) [Slot.val .drw, .val (roadsV n nm), .val (.int j), .val (.lst (ms.map (lotV nm))), .val (lotV nm (couplesI n)[i]), .emp, .emp]) (fun x => ∃ p, x = .bl p) noX :=
          tr_cmp (tr_next (n := 3) hC rfl ev_c (by decide) (by decide)) fun x ⟨k, _, ex⟩ => by
            subst ex
            exact Tr.of ev_c ⟨_, gt_int _ _, _, rfl⟩
        exact tr_qval this fun x ⟨p, e⟩ => by subst e; exact ⟨p, rfl, trivial⟩
      have : Tr (1 + 0) (do
        let b ← evT kin C (.val (.cmp .Gt (.app "_law_next" (.cons (.v 0) (.cons (.c (.int 3)) .nil))) (.c (.int 0)))) [Slot.val .drw, .val (roadsV n nm), .val (.int j), .val (.lst (ms.map (lotV nm))), .val (lotV nm (couplesI n)[i]), .emp, .emp]
        if b then do
          let y ← evE kin C (.v 4) [Slot.val .drw, .val (roadsV n nm), .val (.int j), .val (.lst (ms.map (lotV nm))), .val (lotV nm (couplesI n)[i]), .emp, .emp]
          pure (some y)
        else pure none) (fun o => ∃ cs' : List (List Nat), cs.map (lotV nm) ++ o.toList = cs'.map (lotV nm) ∧ cs'.Sublist ((couplesI n).take (i + 1))) noX := by
        refine Tr.bind test fun b _ => ?_
        cases b with
        | true =>
          refine Tr.of (v := some (lotV nm (couplesI n)[i])) ?_ ⟨cs ++ [(couplesI n)[i]], by simp, by rw [et]; exact hs.append (List.Sublist.refl _)⟩
          simp only [if_true, ev_v (kin := kin) (C := C) (ρ := [Slot.val .drw, .val (roadsV n nm), .val (.int j), .val (.lst (ms.map (lotV nm))), .val (lotV nm (couplesI n)[i]), .emp, .emp]) (i := 4) rfl, pure_bind]
        | false => exact Tr.of (v := none) rfl ⟨cs, by simp, by rw [et]; exact hs.trans (List.sublist_append_left _ _)⟩
      exact this
    · obtain ⟨cs, rfl, hs⟩ := hr
      rw [List.length_map, List.take_length] at hs
      exact ⟨cs, ⟨fun c hc => hs.subset hc, List.Pairwise.sublist hs (cpl_asc n hn)⟩, rfl⟩
  · have hj3 : j ≤ 3 := by omega
    have num : evE kin C (.bi .min2 (.cons (.b 2) (.cons (.bin .Sub (.bi .len (.cons (.b 1) .nil)) (.c (.int 1))) .nil))) [Slot.val .drw, .val (roadsV n nm), .val (.int j), .val (.lst (ms.map (lotV nm))), .emp, .emp, .emp] = pure (.int ((min j (n - 1) : Nat) : Int)) := by
      refine (ev_bi (ev_es (ev_b rfl) (ev_es (ev_bin (ev_bi1 (ev_b rfl) len_tup) ev_c (sub_int _ _)) ev_es0)) rfl).trans ?_
      congr 2
      rw [List.length_map, List.length_range]
      split <;> omega
    have hz := sizeLine_eq
    refine Tr.le (c := 3 * (0 + (1 + 0)) + 0) ?_ (by decide)
    refine tr_frl (m := 3) (fun i ρ => ∃ (cs : List (List Nat)) (a4 a5 a6 : Slot), cs.Nodup ∧ (∀ c ∈ cs, c ∈ couplesI n) ∧ ρ = [Slot.val .drw, .val (roadsV n nm), .val (.int j), .val (.lst (cs.map (lotV nm))), a4, a5, a6]) (evI_rng1 num (by omega) (by omega)) (by rw [rngD_length]; omega) ?_ ⟨ms, .emp, .emp, .emp, M0.nodup, M0.mem, rfl⟩ ?_
    · rintro i x ρ hx ⟨cs, a4, a5, a6, nd, hm, rfl⟩
      have hi : i < min j (n - 1) := by
        have := (List.getElem?_eq_some_iff.mp hx).1
        rw [rngD_length] at this
        omega
      have hpos : 0 < (couplesI n).length := List.length_pos_of_mem (a := [0, 1]) (mem_couples.mpr ⟨0, 1, by decide, by omega, rfl⟩)
      refine ⟨[Slot.val .drw, .val (roadsV n nm), .val (.int j), .val (.lst (cs.map (lotV nm))), a4, .val x, a6], rfl, ?_⟩
      have cb : ∀ c ∈ cs, Bel n c := fun c hc => (couple_bel (hm c hc)).1
      have cl : cs.length ≤ 21 := Nat.le_trans (nodup_len nd hm) few
      refine Tr.le (c := (0 + 1) + 0) (tr_asg (Pa := fun d => ∃ c ∈ couplesI n, d = lotV nm c) (tr_sub (Pa := fun d => d = .lst ((couplesI n).map (lotV nm))) (Tr.of (ev_app (ev_es (ev_v rfl) ev_es0) hK) rfl) fun d hd => ?_) fun d hd => ?_) (by decide)
      · subst hd
        refine (tr_next (n := (couplesI n).length) hC rfl ((ev_bi1 (ev_app (ev_es (ev_v rfl) ev_es0) hK) len_lst).trans (by rw [List.length_map])) hpos (by omega)).imp ?_
        rintro y ⟨q, hq, rfl⟩
        exact ⟨lotV nm (couplesI n)[q], sub_lst (by rw [List.getElem?_map, List.getElem?_eq_getElem hq]; rfl), _, List.getElem_mem hq, rfl⟩
      obtain ⟨c, hc, rfl⟩ := hd
      have hcb := (couple_bel hc).1
      refine ⟨[Slot.val .drw, .val (roadsV n nm), .val (.int j), .val (.lst (cs.map (lotV nm))), .val (lotV nm c), .val x, a6], rfl, ?_⟩
      have test : evT kin C (.val (.cmp .In (.b 4) (.b 3))) [Slot.val .drw, .val (roadsV n nm), .val (.int j), .val (.lst (cs.map (lotV nm))), .val (lotV nm c), .val x, a6] = pure (decide (c ∈ cs)) := evQ_bl (ev_cmp (ev_b rfl) (ev_b rfl) (N.in_lots hcb cb))
      have e : evE kin C (.ife (.val (.cmp .In (.b 4) (.b 3))) (.lc [6] [6] (.seq (.b 3)) (.val (.cmp .NotEq (.b 6) (.b 4))) (.v 6)) (.bin .Add (.b 3) (.lst (.cons (.v 4) .nil)))) [Slot.val .drw, .val (roadsV n nm), .val (.int j), .val (.lst (cs.map (lotV nm))), .val (lotV nm c), .val x, a6] =
          pure (.lst ((if c ∈ cs then cs.filter (fun l => !decide (l = c)) else cs ++ [c]).map (lotV nm))) := by
        refine ev_ife test (fun h => ?_) fun h => ?_
        · rw [if_pos (of_decide_eq_true h)]
          refine (lc_map (ls := cs) (v := lotV nm) (fun l => if !decide (l = c) then some (lotV nm l) else none) (evI_seq (ev_b rfl) rfl) (sz (by omega)) fun l hl => ?_).trans (by rw [fm_if])
          exact lcF_q (ρ1 := [Slot.val .drw, .val (roadsV n nm), .val (.int j), .val (.lst (cs.map (lotV nm))), .val (lotV nm c), .val x, .val (lotV nm l)]) rfl (evQ_bl (ev_cmp (ev_b rfl) (ev_b rfl) (N.ne_lot (cb l hl) hcb))) fun _ => ev_v rfl
        · rw [if_neg (of_decide_eq_false h), List.map_append]
          exact ev_bin (ev_b rfl) (ev_lst (ev_es (ev_v rfl) ev_es0) (sz (by simp))) (add_lst (sz (by simp; omega)))
      rw [asg_pure e rfl]
      refine tr_nil ⟨_, _, _, _, ?_, fun d hd => ?_, rfl⟩
      · split
        · exact List.Pairwise.filter _ nd
        · rename_i h
          rw [List.nodup_append]
          refine ⟨nd, by simp, fun a ha b hb e => h ?_⟩
          have : b = c := by simpa using hb
          rw [← this, ← e]
          exact ha
      · split at hd
        · exact hm d (List.mem_filter.mp hd).1
        · rcases List.mem_append.mp hd with z | z
          · exact hm d z
          · have : d = c := by simpa using z
            rw [this]; exact hc
    · rintro ρ ⟨cs, a4, a5, a6, nd, hm, rfl⟩
      exact tr_ret (Tr.of (ev_bi1 (ev_b rfl) (N.sorted_lots fun c hc => (couple_bel (hm c hc)).1)) ⟨_, met_of nd hm, rfl⟩)
end
end RM
end
section
set_option Elab.async false
set_option linter.all false
set_option maxRecDepth 100000
set_option maxHeartbeats 1000000
set_option autoImplicit false
/-! values: things in a law's list; looks at reprs; lent lists -/
namespace RM
open PySem PySem.Spec PyProof.Rows L2

/-- what may stand in a law's list -/
abbrev ThL : D → Prop := Th (oddB + 20) 2000 8
theorem thl_repr {kin : Kin} {d : D} (h : ThL d) : biD kin .repr [d] = some (.str d.pd.shown) := h.repr (by decide) (by decide) (by decide)
theorem ne_self {x : D} (p : x.pure = true) (hd : x.pd.depth ≤ 64) (he : PyData.eqv x.pd x.pd = true) : cmpD .NotEq x x = some (.bl false) := by
  simp only [cmpD]
  rw [if_pos (by simp [D.okE, p]; exact hd), he]; rfl
theorem ne_selfS (z : Str) : cmpD .NotEq (.str z) (.str z) = some (.bl false) := ne_self rfl (Nat.zero_le _) (by simp [D.pd, PyData.eqv])
theorem ne_pair2 (y z : Str) : cmpD .NotEq (.tup [.str y, .str z]) (.tup [.str y, .str z]) = some (.bl false) := ne_self rfl (by simp [D.pd, D.pds, PyData.depth, PyData.depthAll]) (by simp [D.pd, D.pds, PyData.eqv, PyData.eqvAll])
theorem th_zz {B e : Nat} : Th B 3 e (.str "zz") := ⟨by rfl, by decide, Nat.zero_le _⟩
theorem up {B w e : Nat} {d : D} (h : Th B w e d) (hB : B ≤ oddB + 20) (hw : w ≤ 2000) (he : e ≤ 8) : ThL d := h.mono hB hw he
/-- a row of things -/
def ThsL (xs : List D) : Prop := ∀ x ∈ xs, ThL x
theorem thsl_nil : ThsL [] := fun _ h => nomatch h
theorem thsl_cons {x : D} {xs : List D} (h : ThL x) (t : ThsL xs) : ThsL (x :: xs) := fun y hy => (List.mem_cons.mp hy).elim (fun e => e ▸ h) (t y)
theorem thsl_app {xs ys : List D} (h : ThsL xs) (t : ThsL ys) : ThsL (xs ++ ys) := fun y hy => (List.mem_append.mp hy).elim (h y) (t y)
theorem isRd_eq (d : D) : isRd d = (isAsc d && (match d with | .tup xs => decide (1 ≤ xs.length ∧ xs.length ≤ 7) | _ => false)) := by
  cases d <;> rfl
def D.isLst : D → Bool
  | .lst _ => true
  | _ => false
section
variable {ρ ρ1 : Fe} {C : Orc} {kin : Kin} {c i : Nat} {X : D → Prop} {e a b : E} {r : Ss} {q : Q} {v x : D} {p is : List Nat}
theorem rev_run {xs : List D} (h : evE kin C e ρ = pure (.tup xs)) : evE kin C (.bk e (.c .non) (.c .non)) ρ = pure (.tup xs.reverse) := by
  refine (ev_bk h ev_c ev_c rfl).trans ?_
  show pure (D.tup (backV xs none none)) = _
  rw [backV_none]
theorem rev_runL {xs : List D} (h : evE kin C e ρ = pure (.lst xs)) : evE kin C (.bk e (.c .non) (.c .non)) ρ = pure (.lst xs.reverse) := ev_bk h ev_c ev_c rfl
theorem brw_ok (h : evE kin C e (frzE is ρ) = pure v) (h2 : asgP p v (if v.noLst then ρ else frzE is ρ) = some ρ1) : evSs kin C (.cons (.brw is p e) r) ρ = evSs kin C r ρ1 := by
  rw [evSs_cons, evS_brw]
  dsimp only
  rw [h]
  show (M.op (asgP p v (if v.noLst then ρ else frzE is ρ)) >>= fun ρ' => pure (.nx ρ')) >>= goOn kin C r = _
  rw [h2]; rfl
theorem brw_raise (h : evE kin C e (frzE is ρ) = M.raise x) : evSs kin C (.cons (.brw is p e) r) ρ = pure (.exc x (frzE is ρ)) := by
  rw [evSs_cons, evS_brw]
  dsimp only
  rw [h]; rfl
theorem ifo_new {xs : List D} (h : evT kin C q ρ = pure true) (h2 : evE kin C a ρ = pure (.lst xs)) : evSs kin C (.cons (.ifo i q a b) r) ρ = evSs kin C r (ρ.set i (.own xs)) := by
  rw [evSs_cons, evS_ifo]
  dsimp only
  rw [h]
  show (exO (evE kin C a ρ) ρ fun d => (match d with
      | .lst xs => pure (.nx (ρ.set i (.own xs)))
      | _ => M.fail : M Out)) >>= goOn kin C r = _
  rw [h2]; rfl
theorem ifo_val (h : evT kin C q ρ = pure false) (h2 : evE kin C b ρ = pure v) : evSs kin C (.cons (.ifo i q a b) r) ρ = evSs kin C r (ρ.set i (.val v)) := by
  rw [evSs_cons, evS_ifo]
  dsimp only
  rw [h]
  show (exO (evE kin C b ρ) ρ fun d => pure (.nx (setS ρ i d))) >>= goOn kin C r = _
  rw [h2]; rfl
theorem app_pure {xs : List D} (h0 : ρ[i]? = some (.own xs)) (h : evE kin C e ρ = pure v) (hl : xs.length + 1 ≤ sizeLine) : evSs kin C (.cons (.app i e) r) ρ = evSs kin C r (ρ.set i (.own (xs ++ [v]))) := by
  rw [evSs_cons]
  unfold evS
  rw [h0]
  show (exO (evE kin C e ρ) ρ fun d => do
      small (xs.length + 1)
      pure (.nx (ρ.set i (.own (xs ++ [d]))))) >>= goOn kin C r = _
  rw [h]
  show (small (xs.length + 1) >>= fun _ => pure (.nx (ρ.set i (.own (xs ++ [v]))))) >>= goOn kin C r = _
  rw [small_pure hl]; rfl
theorem fz_run {s : S1} : evSs kin C (.cons (.fz is s) r) ρ = evSs kin C (.cons s r) (frzE is ρ) := by
  rw [evSs_cons, evSs_cons]
  have e : evS kin C (.fz is s) ρ = evS kin C s (frzE is ρ) := by conv => lhs; unfold evS
  rw [e]
theorem app_raise {f : Str} {es : Es} {xs : List D} (h : evEs kin C es ρ = pure xs) (h2 : C f xs = M.raise x) : evE kin C (.app f es) ρ = M.raise x := by
  unfold evE
  rw [h, pure_bind]
  exact h2
theorem isList_run' {d : D} (h : evE kin C e ρ = pure d) (hb : d.basic kin = true) (hs : ∀ ns, d ≠ .scr ns) : evE kin C (.bi (.isi [.b "list"]) (.cons e .nil)) ρ = pure (.bl d.isLst) := by
  refine (isList_run h hb).trans ?_
  cases d <;> first | rfl | exact absurd rfl (hs _)
end
theorem fine_scr {B : Nat} {d : D} (h : d.fine B = true) : ∀ ns, d ≠ .scr ns := fun ns e => by subst e; cases h
section
variable {n : Nat} {nm : Nat → Str}
theorem noLst_lot : ∀ l : List Nat, D.noLsts (l.map (roadV nm)) = true
  | [] => rfl
  | i :: l => by
    rw [List.map_cons, D.noLsts, noLst_lot l]; rfl
theorem noLst_lots : ∀ ls : List (List Nat), D.noLsts (ls.map (lotV nm)) = true
  | [] => rfl
  | l :: ls => by
    rw [List.map_cons, D.noLsts, noLst_lots ls, Bool.and_true, D.noLst]
    exact noLst_lot l
theorem ne_selfT (xs : List D) (p : D.pures xs = true) (hd : PyData.depthAll (D.pds xs) ≤ 60) (he : PyData.eqvAll (D.pds xs) (D.pds xs) = true) : cmpD .NotEq (.tup xs) (.tup xs) = some (.bl false) :=
  ne_self p (by simp only [D.pd, PyData.depth]; omega) (by simp only [D.pd, PyData.eqv]; exact he)
/-- the reprs of couples -/
theorem shown_cpl (N : Nm n nm) {B : Nat} {x : D} (hx : x.fine B = true) : decide (x.pd.shown ∈ (couplesI n).map fun l => (lotV nm l).pd.shown) = isCplB (rdS n nm) x := by
  rw [Bool.eq_iff_iff, decide_eq_true_eq, cpl_iff N, List.mem_map]
  constructor
  · rintro ⟨l, hl, e⟩
    obtain ⟨hb, h2, _⟩ := couple_bel hl
    refine ⟨l, hl, ?_⟩
    have el : lotV nm l = .tup ((l.map nm).map D.str) := by rw [List.map_map]; rfl
    rw [el] at e ⊢
    exact shown_lot hx (fun w hw => by
      obtain ⟨i, hi, rfl⟩ := List.mem_map.mp hw
      exact word_ok (N.w i (hb i hi))) (by rw [List.length_map, h2]; exact Nat.le_refl _) e.symm
  · rintro ⟨l, hl, rfl⟩
    exact ⟨l, hl, rfl⟩
end
theorem notin_strsL (x : Str) (ys : List Str) : cmpD .NotIn (.str x) (.lst (ys.map D.str)) = some (.bl (!decide (x ∈ ys))) := by
  simp only [cmpD]
  rw [if_pos (by simp [D.pure, pure_strs, D.pd, PyData.depth]), in_strs]
end RM
end
section
set_option Elab.async false
set_option linter.all false
set_option maxRecDepth 100000
set_option maxHeartbeats 1000000
set_option autoImplicit false
/-! values: nets made -/
namespace RM
open PySem PySem.Spec PyProof.Rows L2
section
variable {kin : Kin} {C : Orc} {ρ ρ1 : Fe} {r b : Ss} {it : I} {p : List Nat} {α : Type}
/-- a loop that ends at the first bad one -/
theorem forM_find {f : D → Fe → M Out} (v : α → D) (I : Fe → Prop) (bad : α → Bool) (E : α → Out → Prop) (hE : ∀ x o, E x o → o.stops) : ∀ {as : List α} {ρ : Fe}, I ρ →
    (∀ a ∈ as, ∀ ρ, I ρ → if bad a then ∃ o, f (v a) ρ = pure o ∧ E a o else ∃ ρ', f (v a) ρ = pure (.nx ρ') ∧ I ρ') →
    match as.find? bad with
    | none => ∃ ρ', forM f (as.map v) ρ = pure (.nx ρ') ∧ I ρ'
    | some a => ∃ o, forM f (as.map v) ρ = pure o ∧ E a o
  | [], ρ, h0, _ => ⟨ρ, rfl, h0⟩
  | x :: xs, ρ, h0, hs => by
    have h1 := hs x List.mem_cons_self ρ h0
    rw [List.map_cons, List.find?_cons]
    cases hb : bad x with
    | true =>
      rw [if_pos hb] at h1
      obtain ⟨o, e, q⟩ := h1
      refine ⟨o, ?_, q⟩
      unfold forM
      rw [e, pure_bind]
      have := hE _ _ q
      cases o <;> first | rfl | exact this.elim
    | false =>
      rw [if_neg (by rw [hb]; decide)] at h1
      obtain ⟨ρ', e, q⟩ := h1
      have ih := forM_find (f := f) v I bad E hE (as := xs) q fun a ha => hs a (List.mem_cons_of_mem _ ha)
      have ef : forM f (v x :: xs.map v) ρ = forM f (xs.map v) ρ' := by
        conv => lhs; unfold forM
        rw [e, pure_bind]
      rw [ef]
      exact ih
theorem frl_find (v : α → D) (as : List α) (I : Fe → Prop) (bad : α → Bool) (E : α → Out → Prop) (hE : ∀ x o, E x o → o.stops) (h : evI kin C it ρ = pure (as.map v)) (h0 : I ρ)
    (hs : ∀ a ∈ as, ∀ ρ, I ρ → ∃ ρ1, asgP p (v a) ρ = some ρ1 ∧ if bad a then ∃ o, evSs kin C b ρ1 = pure o ∧ E a o else ∃ ρ', evSs kin C b ρ1 = pure (.nx ρ') ∧ I ρ') :
    match as.find? bad with
    | none => ∃ ρ', evSs kin C (.cons (.frl p it b) r) ρ = evSs kin C r ρ' ∧ I ρ'
    | some a => ∃ o, evSs kin C (.cons (.frl p it b) r) ρ = pure o ∧ E a o := by
  have key := forM_find (f := fun x ρ => do
      let ρ1 ← M.op (asgP p x ρ)
      evSs kin C b ρ1) v I bad E hE (as := as) h0 fun a ha ρ' hi => by
    obtain ⟨ρ1, e1, q⟩ := hs a ha ρ' hi
    cases hb : bad a with
    | true =>
      rw [if_pos hb] at q
      obtain ⟨o, e2, q⟩ := q
      rw [if_pos rfl]
      exact ⟨o, by rw [e1]; simp only [op_some, pure_bind, e2], q⟩
    | false =>
      rw [if_neg (by rw [hb]; decide)] at q
      obtain ⟨ρ2, e2, q⟩ := q
      rw [if_neg (by decide)]
      exact ⟨ρ2, by rw [e1]; simp only [op_some, pure_bind, e2], q⟩
  have ef : ∀ o, forM (fun x ρ => do
      let ρ1 ← M.op (asgP p x ρ)
      evSs kin C b ρ1) (as.map v) ρ = pure o → evSs kin C (.cons (.frl p it b) r) ρ = goOn kin C r o := fun o e => by
    rw [evSs_cons]
    unfold evS
    rw [h]
    show (forM (fun x ρ => do
      let ρ1 ← M.op (asgP p x ρ)
      evSs kin C b ρ1) (as.map v) ρ) >>= goOn kin C r = _
    rw [e]; rfl
  split
  · rename_i e
    rw [e] at key
    obtain ⟨ρ', e', q⟩ := key
    exact ⟨ρ', (ef _ e').trans rfl, q⟩
  · rename_i a e
    rw [e] at key
    obtain ⟨o, e', q⟩ := key
    refine ⟨o, (ef _ e').trans ?_, q⟩
    have := hE _ _ q
    cases o <;> first | rfl | exact this.elim
end
theorem row_iter {d : D} {xs : List D} (h : d.row = some xs) : iterD d = some xs := by cases d <;> first | (cases h; done) | exact h
section
variable {n : Nat} {nm : Nat → Str}
/-! ### all lots of roads -/
theorem mem_subs : ∀ {n : Nat} {l : List Nat}, l ∈ subsI n ↔ Bel n l ∧ l.Pairwise (· < ·)
  | 0, l => by
    show l ∈ [[]] ↔ _
    rw [List.mem_singleton]
    constructor
    · rintro rfl; exact ⟨(fun _ h => nomatch h), .nil⟩
    · rintro ⟨h, _⟩
      cases l with
      | nil => rfl
      | cons a r => exact absurd (h a List.mem_cons_self) (Nat.not_lt_zero _)
  | n + 1, l => by
    show l ∈ subsI n ++ (subsI n).map (fun l => l ++ [n]) ↔ _
    rw [List.mem_append, List.mem_map]
    constructor
    · rintro (h | ⟨m, hm, rfl⟩)
      · obtain ⟨h1, h2⟩ := mem_subs.mp h
        exact ⟨fun x hx => Nat.lt_succ_of_lt (h1 x hx), h2⟩
      · obtain ⟨h1, h2⟩ := mem_subs.mp hm
        refine ⟨fun x hx => ?_, ?_⟩
        · rcases List.mem_append.mp hx with z | z
          · exact Nat.lt_succ_of_lt (h1 x z)
          · have : x = n := by simpa using z
            omega
        · rw [List.pairwise_append]
          refine ⟨h2, List.pairwise_singleton _ _, fun a ha b hb => ?_⟩
          have : b = n := by simpa using hb
          subst this
          exact h1 a ha
    · rintro ⟨h1, h2⟩
      rcases List.eq_nil_or_concat l with rfl | ⟨m, a, rfl⟩
      · exact .inl (mem_subs.mpr ⟨fun _ h => (nomatch h), .nil⟩)
      · rw [List.concat_eq_append] at h1 h2 ⊢
        obtain ⟨p1, _, p3⟩ := List.pairwise_append.mp h2
        have ha := h1 a (List.mem_append_right _ (List.mem_singleton.mpr rfl))
        have hm : ∀ x ∈ m, x < a := fun x hx => p3 x hx a (List.mem_singleton.mpr rfl)
        by_cases e : a = n
        · subst e
          exact .inr ⟨m, mem_subs.mpr ⟨hm, p1⟩, rfl⟩
        · refine .inl (mem_subs.mpr ⟨fun x hx => ?_, h2⟩)
          rcases List.mem_append.mp hx with z | z
          · have := hm x z; omega
          · have : x = a := by simpa using z
            omega
/-- a lot of two or more -/
def isLot2 (rs : List Str) (d : D) : Bool := isLotB rs d && (match d with | .tup xs => decide (2 ≤ xs.length) | _ => false)
theorem lot2_iff (N : Nm n nm) {d : D} : isLot2 (rdS n nm) d = true ↔ ∃ l, Bel n l ∧ l.Pairwise (· < ·) ∧ 2 ≤ l.length ∧ d = lotV nm l := by
  unfold isLot2
  rw [Bool.and_eq_true, lot_iff N]
  constructor
  · rintro ⟨⟨l, hb, hp, rfl⟩, h2⟩
    have h2 : decide (2 ≤ (l.map (roadV nm)).length) = true := h2
    have h2 := of_decide_eq_true h2
    rw [List.length_map] at h2
    exact ⟨l, hb, hp, h2, rfl⟩
  · rintro ⟨l, hb, hp, h2, rfl⟩
    exact ⟨⟨l, hb, hp, rfl⟩, by show decide (2 ≤ (l.map (roadV nm)).length) = true; rw [List.length_map]; exact decide_eq_true h2⟩
theorem lots2_of (N : Nm n nm) : ∀ {xs : List D}, (∀ x ∈ xs, isLot2 (rdS n nm) x = true) → ∃ ls : List (List Nat), xs = ls.map (lotV nm) ∧ ∀ l ∈ ls, Bel n l ∧ l.Pairwise (· < ·) ∧ 2 ≤ l.length
  | [], _ => ⟨[], rfl, (fun _ h => nomatch h)⟩
  | x :: xs, h => by
    obtain ⟨ls, e, hb⟩ := lots2_of N (xs := xs) fun y hy => h y (List.mem_cons_of_mem _ hy)
    obtain ⟨l, h1, h2, h3, rfl⟩ := (lot2_iff N).mp (h x List.mem_cons_self)
    refine ⟨l :: ls, by rw [e]; rfl, fun m hm => ?_⟩
    rcases List.mem_cons.mp hm with rfl | hm
    · exact ⟨h1, h2, h3⟩
    · exact hb m hm
/-- the reprs of lots of two or more -/
theorem shown_lot2 (N : Nm n nm) {B : Nat} {x : D} (hx : x.fine B = true) {L : List (List Nat)} (hL : ∀ l, l ∈ L ↔ Bel n l ∧ l.Pairwise (· < ·) ∧ 2 ≤ l.length) : decide (x.pd.shown ∈ L.map fun l => (lotV nm l).pd.shown) = isLot2 (rdS n nm) x := by
  rw [Bool.eq_iff_iff, decide_eq_true_eq, lot2_iff N, List.mem_map]
  constructor
  · rintro ⟨l, hl, e⟩
    obtain ⟨hb, hp, h2⟩ := (hL l).mp hl
    refine ⟨l, hb, hp, h2, ?_⟩
    have el : lotV nm l = .tup ((l.map nm).map D.str) := by rw [List.map_map]; rfl
    rw [el] at e ⊢
    exact shown_lot hx (fun w hw => by
      obtain ⟨i, hi, rfl⟩ := List.mem_map.mp hw
      exact word_ok (N.w i (hb i hi))) (by rw [List.length_map]; exact h2) e.symm
  · rintro ⟨l, hb, hp, h2, rfl⟩
    exact ⟨l, (hL l).mpr ⟨hb, hp, h2⟩, rfl⟩
/-! ### what is over -/
def badR (ls : List (List Nat)) (i : Nat) : Bool := decide (2 < (ls.filter fun l => decide (i ∈ l)).length)
def both (c l : List Nat) : Bool := decide (c.getD 0 0 ∈ l) && decide (c.getD 1 0 ∈ l)
def badC (ls : List (List Nat)) (c : List Nat) : Bool := decide (1 < (ls.filter (both c)).length)
section
variable {kin : Kin} {C : Orc} {ρ : Fe}
theorem lotsof_ev (N : Nm n nm) {ls : List (List Nat)} (hb : ∀ l ∈ ls, Bel n l) (hl : ls.length ≤ 100000) {d : D} (hd : d.row = some (ls.map (lotV nm))) {i : Nat} (hi : i < n) {a b c : Nat} (ha : ρ[a]? = some (.val d)) (hr : ρ[b]? = some (.val (roadV nm i))) (hc : c < ρ.length) (hca : c ≠ a) (hcb : c ≠ b) :
    evE kin C (.lc [c] [c] (.seq (.b a)) (.val (.cmp .In (.b b) (.b c))) (.v c)) ρ = pure (.lst ((ls.filter fun l => decide (i ∈ l)).map (lotV nm))) := by
  refine (lc_map (ls := ls) (v := lotV nm) (fun l => if decide (i ∈ l) then some (lotV nm l) else none) (evI_seq (ev_b ha) (row_iter hd)) (sz hl) fun l hl => ?_).trans (by rw [fm_if])
  have e1 : asgP [c] (lotV nm l) (wipeE ρ [c]) = some ((ρ.set c .emp).set c (.val (lotV nm l))) := rfl
  rw [List.set_set] at e1
  refine lcF_q e1 (evQ_bl (ev_cmp (ev_b (x := roadV nm i) ?_) (ev_b (x := lotV nm l) ?_) (N.in_road hi (hb l hl)))) fun _ => ev_v ?_
  · rw [List.getElem?_set_ne hcb]; exact hr
  · rw [List.getElem?_set_self hc]
  · rw [List.getElem?_set_self hc]
theorem over_ev (N : Nm n nm) {ls : List (List Nat)} (hb : ∀ l ∈ ls, Bel n l) (hl : ls.length ≤ 100000) {d : D} (hd : d.row = some (ls.map (lotV nm))) {q : List Nat} (hq : q ∈ couplesI n) {a b c : Nat} (ha : ρ[a]? = some (.val d)) (hr : ρ[b]? = some (.val (lotV nm q))) (hc : c < ρ.length) (hca : c ≠ a) (hcb : c ≠ b) :
    evE kin C (.lc [c] [c] (.seq (.b a)) (.and (.val (.cmp .In (.sub (.b b) (.c (.int 0))) (.b c))) (.val (.cmp .In (.sub (.b b) (.c (.int 1))) (.b c)))) (.v c)) ρ = pure (.lst ((ls.filter (both q)).map (lotV nm))) := by
  obtain ⟨i, j, hij, hj, rfl⟩ := mem_couples.mp hq
  refine (lc_map (ls := ls) (v := lotV nm) (fun l => if both [i, j] l then some (lotV nm l) else none) (evI_seq (ev_b ha) (row_iter hd)) (sz hl) fun l hl => ?_).trans (by rw [fm_if])
  have e1 : asgP [c] (lotV nm l) (wipeE ρ [c]) = some ((ρ.set c .emp).set c (.val (lotV nm l))) := rfl
  rw [List.set_set] at e1
  have hbb : (ρ.set c (.val (lotV nm l)))[b]? = some (.val (lotV nm [i, j])) := by rw [List.getElem?_set_ne hcb]; exact hr
  have hcc : (ρ.set c (.val (lotV nm l)))[c]? = some (.val (lotV nm l)) := by rw [List.getElem?_set_self hc]
  refine lcF_q e1 ?_ fun _ => ev_v hcc
  show evT kin C _ _ = pure (decide (i ∈ l) && decide (j ∈ l))
  refine evQ_and (evQ_bl (ev_cmp (ev_sub (ev_b hbb) ev_c (sub_tup (i := 0) rfl)) (ev_b hcc) (N.in_road (by omega) (hb l hl)))) fun _ => evQ_bl (ev_cmp (ev_sub (ev_b hbb) ev_c (sub_tup (i := 1) rfl)) (ev_b hcc) (N.in_road hj (hb l hl)))
theorem lots_of_run (N : Nm n nm) {ls : List (List Nat)} (hb : ∀ l ∈ ls, Bel n l) (hl : ls.length ≤ 100000) {d : D} (hd : d.row = some (ls.map (lotV nm))) {i : Nat} (hi : i < n) : runF kin C 1 c_lots_of [d, roadV nm i] = pure (.lst ((ls.filter fun l => decide (i ∈ l)).map (lotV nm))) := by
  refine run_ret (ret_pure ?_)
  exact lotsof_ev (ρ := [.val d, .val (roadV nm i), .emp]) N hb hl hd hi rfl rfl (by show 2 < 3; decide) (by decide) (by decide)
theorem is_over_run (N : Nm n nm) {ls : List (List Nat)} (hb : ∀ l ∈ ls, Bel n l) (hl : ls.length ≤ 100000) {d : D} (hd : d.row = some (ls.map (lotV nm))) {q : List Nat} (hq : q ∈ couplesI n) : runF kin C 1 c_is_over [d, lotV nm q] = pure (.bl (badC ls q)) := by
  refine run_ret (ret_pure ?_)
  refine (ev_cmp (ev_bi1 (over_ev (ρ := [.val d, .val (lotV nm q), .emp]) N hb hl hd hq rfl rfl (by show 2 < 3; decide) (by decide) (by decide)) len_lst) ev_c (gt_int _ _)).trans ?_
  congr 2
  unfold badC
  rw [List.length_map]
  congr 1
  simp only [eq_iff_iff]
  omega
end
end
end RM
end
section
set_option Elab.async false
set_option linter.all false
set_option maxRecDepth 100000
set_option maxHeartbeats 1000000
set_option autoImplicit false
/-! values: nets made -/
namespace RM
open PySem PySem.Spec PyProof.Rows L2
section
variable {n : Nat} {nm : Nat → Str} {kin : Kin} {C : Orc}
/-- the first road that is in too many lots, or the first couple -/
def wrongD (nm : Nat → Str) (n : Nat) (ls : List (List Nat)) : Option D := match (List.range n).find? (badR ls) with
  | some i => some (roadV nm i)
  | none => match (couplesI n).find? (badC ls) with
    | some c => some (lotV nm c)
    | none => none
theorem run_nx {b : Ss} {m : Nat} {ds : List D} {ρ : Fe} (h : evSs kin C b (ds.map Slot.val ++ List.replicate m .emp) = pure (.nx ρ)) : runF kin C m b ds = pure .non := by
  unfold runF
  rw [h]; rfl
def badN (rs : List Str) (_ : Nat) (x : D) : Bool := !isLot2 rs x
theorem need_lots_run (N : Nm n nm) (hi : kin.ini "BadNet" = some ("place" : Str)) {d : D} {xs : List D} (hd : d.row = some xs) (hl : xs.length ≤ 100000) (hlot : ∀ x ∈ xs, C "is_lot" [roadsV n nm, x] = pure (.bl (isLotB (rdS n nm) x))) :
    runF kin C 2 c_need_lots [roadsV n nm, d] = match firstB (badN (rdS n nm)) 0 xs with
    | none => pure .non
    | some (j, _) => M.raise (.exc "BadNet" [("place", .int (j : Nat))]) := by
  have hbs : d.basic kin = true := by cases d <;> first | rfl | cases hd
  have hsc : ∀ ns, d ≠ .scr ns := fun ns z => by subst z; cases hd
  have start : ∀ r, evSs kin C (.cons (.iff (.not (.val (.bi (.isi [.b "list", .b "tuple"]) (.cons (.b 1) .nil)))) (.cons (.rse "BadNet" (.c .non)) .nil) .nil) r) [.val (roadsV n nm), .val d, .emp, .emp] = evSs kin C r [.val (roadsV n nm), .val d, .emp, .emp] := fun r =>
    iff_false (evQ_not (p := true) (evQ_bl ((isi2_run (ev_b rfl) hbs).trans (by rw [isi_row hsc, hd]; rfl))))
  have loop := frl_exitE (kin := kin) (C := C) (p := [2, 3]) (it := .enum (.v 1)) (xs := xs) (ρ := [.val (roadsV n nm), .val d, .emp, .emp])
    (b := (.cons (.iff (.or (.not (.val (.app "is_lot" (.cons (.v 0) (.cons (.v 3) .nil))))) (.val (.cmp .Lt (.bi .len (.cons (.b 3) .nil)) (.c (.int 2))))) (.cons (.rse "BadNet" (.v 2)) .nil) .nil) .nil))
    (r := .nil) (fun i ρ => ∃ s2 s3, ρ = [.val (roadsV n nm), .val d, s2, s3])
    (badN (rdS n nm)) (fun j _ o => ∃ ρ', o = .exc (.exc "BadNet" [("place", .int (j : Nat))]) ρ') (fun _ _ o ⟨_, e⟩ => by subst e; trivial)
    (row_enum hd (ev_v rfl)) ⟨.emp, .emp, rfl⟩ fun i x ρ hx ⟨s2, s3, e⟩ => by
      subst e
      refine ⟨[.val (roadsV n nm), .val d, .val (.int (i : Nat)), .val x], rfl, ?_⟩
      have hC := hlot x (List.mem_of_getElem? hx)
      have e1 : evE kin C (.app "is_lot" (.cons (.v 0) (.cons (.v 3) .nil))) [.val (roadsV n nm), .val d, .val (.int (i : Nat)), .val x] = pure (.bl (isLotB (rdS n nm) x)) := ev_app (ev_es (ev_v rfl) (ev_es (ev_v rfl) ev_es0)) hC
      have test : evT kin C (.or (.not (.val (.app "is_lot" (.cons (.v 0) (.cons (.v 3) .nil))))) (.val (.cmp .Lt (.bi .len (.cons (.b 3) .nil)) (.c (.int 2))))) [.val (roadsV n nm), .val d, .val (.int (i : Nat)), .val x] = pure (badN (rdS n nm) i x) := by
        unfold badN isLot2
        cases hlb : isLotB (rdS n nm) x with
        | false =>
          rw [hlb] at e1
          exact evQ_or (p := true) (q := true) (evQ_not (evQ_bl e1)) fun z => by cases z
        | true =>
          rw [hlb] at e1
          obtain ⟨l, hb, hp, rfl⟩ := (lot_iff N).mp hlb
          refine (evQ_or (p := false) (q := !decide (2 ≤ l.length)) (evQ_not (evQ_bl e1)) fun _ => (evQ_bl (ev_cmp (ev_bi1 (ev_b rfl) len_tup) ev_c (lt_int _ _))).trans ?_).trans ?_
          · congr 1
            rw [List.length_map]
            by_cases h : 2 ≤ l.length
            · rw [decide_eq_true h]
              exact decide_eq_false (by omega)
            · rw [decide_eq_false h]
              exact decide_eq_true (by omega)
          · show pure (false || !decide (2 ≤ l.length)) = pure (!(true && decide (2 ≤ (l.map (roadV nm)).length)))
            rw [List.length_map, Bool.true_and, Bool.false_or]
      cases hb : badN (rdS n nm) i x with
      | true =>
        rw [hb] at test
        rw [if_pos rfl, iff_true test, rse_pure (ev_v rfl) hi]
        exact ⟨_, rfl, _, rfl⟩
      | false =>
        rw [hb] at test
        rw [if_neg (by decide), iff_false test, evSs_nil]
        exact ⟨_, rfl, _, _, rfl⟩
  unfold c_need_lots
  cases hfb : firstB (badN (rdS n nm)) 0 xs with
  | none =>
    rw [hfb] at loop
    obtain ⟨ρ', e, s2, s3, rfl⟩ := loop
    refine run_nx (ρ := [.val (roadsV n nm), .val d, s2, s3]) ?_
    show evSs kin C _ [.val (roadsV n nm), .val d, .emp, .emp] = _
    rw [start, e, evSs_nil]
  | some p =>
    obtain ⟨j, x⟩ := p
    rw [hfb] at loop
    obtain ⟨o, e, ρ', rfl⟩ := loop
    refine run_exc (ρ := ρ') ?_
    show evSs kin C _ [.val (roadsV n nm), .val d, .emp, .emp] = _
    rw [start, e]
theorem need_lots_form (hi : kin.ini "BadNet" = some ("place" : Str)) {r d : D} (hb : d.basic kin = true) (hsc : ∀ ns, d ≠ .scr ns) (hd : d.row = none) : runF kin C 2 c_need_lots [r, d] = M.raise (.exc "BadNet" [("place", .non)]) := by
  refine run_exc (ρ := [.val r, .val d, .emp, .emp]) ?_
  show evSs kin C c_need_lots [.val r, .val d, .emp, .emp] = _
  unfold c_need_lots
  rw [iff_true (evQ_not (p := false) (evQ_bl ((isi2_run (ev_b rfl) hb).trans (by rw [isi_row hsc, hd]; rfl)))), rse_pure ev_c hi]
  rfl
/-- the lots are such: a net, or the first that is in too many -/
theorem net_run (N : Nm n nm) (hn : n ≤ 7) (hi : kin.ini "BadNet" = some ("place" : Str)) (hf : kin.fld "Net" = (["roads", "lots"] : List Str)) (hneed : C "need_roads" [roadsV n nm] = pure (roadsV n nm)) {d : D} {ls : List (List Nat)} (hd : d.row = some (ls.map (lotV nm)))
    (hb : ∀ l ∈ ls, Bel n l) (hl : ls.length ≤ 100000) (hlots : C "need_lots" [roadsV n nm, d] = pure .non) (hof : ∀ i, i < n → C "lots_of" [d, roadV nm i] = pure (.lst ((ls.filter fun l => decide (i ∈ l)).map (lotV nm))))
    (hover : ∀ q ∈ couplesI n, C "is_over" [d, lotV nm q] = pure (.bl (badC ls q))) (hcp : C "couples" [roadsV n nm] = pure (.tup ((couplesI n).map (lotV nm)))) :
    runI kin C "Net" 2 c_Net [roadsV n nm, d] = match wrongD nm n ls with
    | some p => M.raise (.exc "BadNet" [("place", p)])
    | none => pure (.ins "Net" [("roads", roadsV n nm), ("lots", .tup ((ls.mergeSort leL).map (lotV nm)))]) := by
  have start : ∀ r, evSs kin C (.cons (.ex (.app "need_roads" (.cons (.v 1) .nil))) (.cons (.ex (.app "need_lots" (.cons (.v 1) (.cons (.v 2) .nil)))) r)) [.new "Net" [], .val (roadsV n nm), .val d, .emp, .emp] = evSs kin C r [.new "Net" [], .val (roadsV n nm), .val d, .emp, .emp] := fun r => by
    rw [ex_pure (ev_app (ev_es (ev_v rfl) ev_es0) hneed), ex_pure (ev_app (ev_es (ev_v rfl) (ev_es (ev_v rfl) ev_es0)) hlots)]
  have first := fun r => frl_find (kin := kin) (C := C) (p := [3]) (it := .seq (.v 1)) (r := r) (ρ := [.new "Net" [], .val (roadsV n nm), .val d, .emp, .emp]) (b := (.cons (.iff (.val (.cmp .Gt (.bi .len (.cons (.app "lots_of" (.cons (.v 2) (.cons (.v 3) .nil))) .nil)) (.c (.int 2)))) (.cons (.rse "BadNet" (.v 3)) .nil) .nil) .nil))
    (roadV nm) (List.range n) (fun ρ => ∃ s3, s3.isNew = false ∧ ρ = [.new "Net" [], .val (roadsV n nm), .val d, s3, .emp]) (badR ls) (fun i o => ∃ ρ', o = .exc (.exc "BadNet" [("place", roadV nm i)]) ρ') (fun _ o ⟨_, e⟩ => by subst e; trivial)
    (evI_seq (ev_v rfl) rfl) ⟨.emp, rfl, rfl⟩ fun i hir ρ ⟨s3, _, e⟩ => by
      subst e
      have hi' := List.mem_range.mp hir
      refine ⟨[.new "Net" [], .val (roadsV n nm), .val d, .val (roadV nm i), .emp], rfl, ?_⟩
      have test : evT kin C (.val (.cmp .Gt (.bi .len (.cons (.app "lots_of" (.cons (.v 2) (.cons (.v 3) .nil))) .nil)) (.c (.int 2)))) [.new "Net" [], .val (roadsV n nm), .val d, .val (roadV nm i), .emp] = pure (badR ls i) := by
        refine (evQ_bl (ev_cmp (ev_bi1 (ev_app (ev_es (ev_v rfl) (ev_es (ev_v rfl) ev_es0)) (hof i hi')) len_lst) ev_c (gt_int _ _))).trans ?_
        congr 1
        unfold badR
        rw [List.length_map]
        congr 1
        simp only [eq_iff_iff]
        omega
      cases hbr : badR ls i with
      | true =>
        rw [hbr] at test
        rw [if_pos rfl, iff_true test, rse_pure (ev_v rfl) hi]
        exact ⟨_, rfl, _, rfl⟩
      | false =>
        rw [hbr] at test
        rw [if_neg (by decide), iff_false test, evSs_nil]
        exact ⟨_, rfl, _, rfl, rfl⟩
  have second := fun r s3 => frl_find (kin := kin) (C := C) (p := [4]) (it := .seq (.app "couples" (.cons (.v 1) .nil))) (r := r) (ρ := [.new "Net" [], .val (roadsV n nm), .val d, s3, .emp]) (b := (.cons (.iff (.val (.app "is_over" (.cons (.v 2) (.cons (.v 4) .nil)))) (.cons (.rse "BadNet" (.v 4)) .nil) .nil) .nil))
    (lotV nm) (couplesI n) (fun ρ => ∃ s4, s4.isNew = false ∧ ρ = [.new "Net" [], .val (roadsV n nm), .val d, s3, s4]) (badC ls) (fun c o => ∃ ρ', o = .exc (.exc "BadNet" [("place", lotV nm c)]) ρ') (fun _ o ⟨_, e⟩ => by subst e; trivial)
    (evI_seq (ev_app (ev_es (ev_v rfl) ev_es0) hcp) rfl) ⟨.emp, rfl, rfl⟩ fun c hc ρ ⟨s4, _, e⟩ => by
      subst e
      refine ⟨[.new "Net" [], .val (roadsV n nm), .val d, s3, .val (lotV nm c)], rfl, ?_⟩
      have test : evT kin C (.val (.app "is_over" (.cons (.v 2) (.cons (.v 4) .nil)))) [.new "Net" [], .val (roadsV n nm), .val d, s3, .val (lotV nm c)] = pure (badC ls c) := evQ_bl (ev_app (ev_es (ev_v rfl) (ev_es (ev_v rfl) ev_es0)) (hover c hc))
      cases hbr : badC ls c with
      | true =>
        rw [hbr] at test
        rw [if_pos rfl, iff_true test, rse_pure (ev_v rfl) hi]
        exact ⟨_, rfl, _, rfl⟩
      | false =>
        rw [hbr] at test
        rw [if_neg (by decide), iff_false test, evSs_nil]
        exact ⟨_, rfl, _, rfl, rfl⟩
  have bodyE : ∀ {o : Out}, evSs kin C c_Net [.new "Net" [], .val (roadsV n nm), .val d, .emp, .emp] = pure o → evSs kin C c_Net (.new "Net" [] :: ([roadsV n nm, d].map Slot.val ++ List.replicate 2 .emp)) = pure o := fun h => h
  unfold c_Net at bodyE ⊢
  unfold wrongD
  cases h1 : (List.range n).find? (badR ls) with
  | some i =>
    have f := first (.cons (.frl [4] (.seq (.app "couples" (.cons (.v 1) .nil))) (.cons (.iff (.val (.app "is_over" (.cons (.v 2) (.cons (.v 4) .nil)))) (.cons (.rse "BadNet" (.v 4)) .nil) .nil) .nil)) (.cons (.fst 0 "roads" (.v 1)) (.cons (.fst 0 "lots" (.bi .tuple (.cons (.bi .sorted (.cons (.b 2) .nil)) .nil))) .nil)))
    rw [h1] at f
    obtain ⟨o, e, ρ', rfl⟩ := f
    refine runI_exc (ρ := ρ') (bodyE ?_)
    rw [start, e]
  | none =>
    have f := first (.cons (.frl [4] (.seq (.app "couples" (.cons (.v 1) .nil))) (.cons (.iff (.val (.app "is_over" (.cons (.v 2) (.cons (.v 4) .nil)))) (.cons (.rse "BadNet" (.v 4)) .nil) .nil) .nil)) (.cons (.fst 0 "roads" (.v 1)) (.cons (.fst 0 "lots" (.bi .tuple (.cons (.bi .sorted (.cons (.b 2) .nil)) .nil))) .nil)))
    rw [h1] at f
    obtain ⟨ρ', e, s3, n3, rfl⟩ := f
    have g := second (.cons (.fst 0 "roads" (.v 1)) (.cons (.fst 0 "lots" (.bi .tuple (.cons (.bi .sorted (.cons (.b 2) .nil)) .nil))) .nil)) s3
    cases h2 : (couplesI n).find? (badC ls) with
    | some c =>
      rw [h2] at g
      obtain ⟨o, e', ρ', rfl⟩ := g
      refine runI_exc (ρ := ρ') (bodyE ?_)
      rw [start, e, e']
    | none =>
      rw [h2] at g
      obtain ⟨ρ', e', s4, n4, rfl⟩ := g
      refine runI_ok (bodyE ?_) (ρ := [.new "Net" [("roads", roadsV n nm), ("lots", .tup ((ls.mergeSort leL).map (lotV nm)))], .val (roadsV n nm), .val d, s3, s4]) rfl
      rw [start, e, e']
      have hs : biD kin .sorted [d] = some (.lst ((ls.mergeSort leL).map (lotV nm))) := by
        have := N.sorted_lots (kin := kin) hb
        rw [← this]
        show ((itemsD d).bind fun xs => if sortable xs then some (D.lst (xs.mergeSort leD)) else none) = ((itemsD (.lst (ls.map (lotV nm)))).bind fun xs => if sortable xs then some (D.lst (xs.mergeSort leD)) else none)
        rw [row_items hd]
        rfl
      have all : ([Slot.val (roadsV n nm), .val d, s3, s4] : Fe).all (fun s => !s.isNew) = true := by simp only [List.all_cons, List.all_nil, n3, n4]; rfl
      rw [fst_pure (ev_v rfl) (fst_new (by rw [hf]; rfl) rfl (by decide) all), fst_pure (ev_bi1 (ev_bi1 (ev_b rfl) hs) tuple_lst) (fst_new (by rw [hf]; rfl) rfl (by show 1 < 100; decide) all), evSs_nil]
      rfl
theorem net_raise {r d x y : D} (hneed : C "need_roads" [r] = pure y) (hlots : C "need_lots" [r, d] = M.raise x) : runI kin C "Net" 2 c_Net [r, d] = M.raise x := by
  refine runI_exc (ρ := [.new "Net" [], .val r, .val d, .emp, .emp]) ?_
  show evSs kin C c_Net [.new "Net" [], .val r, .val d, .emp, .emp] = _
  unfold c_Net
  rw [ex_pure (ev_app (ev_es (ev_v rfl) ev_es0) hneed), ex_raise (app_raise (ev_es (ev_v rfl) (ev_es (ev_v rfl) ev_es0)) hlots)]
theorem net_roads {r d x : D} (hneed : C "need_roads" [r] = M.raise x) : runI kin C "Net" 2 c_Net [r, d] = M.raise x := by
  refine runI_exc (ρ := [.new "Net" [], .val r, .val d, .emp, .emp]) ?_
  show evSs kin C c_Net [.new "Net" [], .val r, .val d, .emp, .emp] = _
  unfold c_Net
  rw [ex_raise (app_raise (ev_es (ev_v rfl) ev_es0) hneed)]
/-- the law's own look -/
theorem law_wrong_run (N : Nm n nm) {d : D} {ls : List (List Nat)} (hd : d.row = some (ls.map (lotV nm))) (hb : ∀ l ∈ ls, Bel n l) (hl : ls.length ≤ 100000) (hK : C "_law_couples" [roadsV n nm] = pure (.lst ((couplesI n).map (lotV nm)))) :
    runF kin C 3 c__law_wrong [roadsV n nm, d] = pure ((wrongD nm n ls).getD .non) := by
  refine run_ret ?_
  show evSs kin C c__law_wrong [.val (roadsV n nm), .val d, .emp, .emp, .emp] = _
  have first := fun r => frl_find (kin := kin) (C := C) (p := [2]) (it := .seq (.v 0)) (r := r) (ρ := [.val (roadsV n nm), .val d, .emp, .emp, .emp]) (b := (.cons (.iff (.val (.cmp .Gt (.bi .len (.cons (.lc [3] [3] (.seq (.b 1)) (.val (.cmp .In (.b 2) (.b 3))) (.v 3)) .nil)) (.c (.int 2)))) (.cons (.ret (.v 2)) .nil) .nil) .nil))
    (roadV nm) (List.range n) (fun ρ => ∃ s2, ρ = [.val (roadsV n nm), .val d, s2, .emp, .emp]) (badR ls) (fun i o => o = .ret (roadV nm i)) (fun _ o e => by subst e; trivial)
    (evI_seq (ev_v rfl) rfl) ⟨.emp, rfl⟩ fun i hir ρ ⟨s2, e⟩ => by
      subst e
      have hi' := List.mem_range.mp hir
      refine ⟨[.val (roadsV n nm), .val d, .val (roadV nm i), .emp, .emp], rfl, ?_⟩
      have test : evT kin C (.val (.cmp .Gt (.bi .len (.cons (.lc [3] [3] (.seq (.b 1)) (.val (.cmp .In (.b 2) (.b 3))) (.v 3)) .nil)) (.c (.int 2)))) [.val (roadsV n nm), .val d, .val (roadV nm i), .emp, .emp] = pure (badR ls i) := by
        refine (evQ_bl (ev_cmp (ev_bi1 (lotsof_ev N hb hl hd hi' rfl rfl (by show 3 < 5; decide) (by decide) (by decide)) len_lst) ev_c (gt_int _ _))).trans ?_
        congr 1
        unfold badR
        rw [List.length_map]
        congr 1
        simp only [eq_iff_iff]
        omega
      cases hbr : badR ls i with
      | true =>
        rw [hbr] at test
        rw [if_pos rfl, iff_true test, ret_pure (ev_v rfl)]
        exact ⟨_, rfl, rfl⟩
      | false =>
        rw [hbr] at test
        rw [if_neg (by decide), iff_false test, evSs_nil]
        exact ⟨_, rfl, _, rfl⟩
  have second := fun r s2 => frl_find (kin := kin) (C := C) (p := [4]) (it := .seq (.app "_law_couples" (.cons (.v 0) .nil))) (r := r) (ρ := [.val (roadsV n nm), .val d, s2, .emp, .emp]) (b := (.cons (.iff (.val (.cmp .Gt (.bi .len (.cons (.lc [3] [3] (.seq (.b 1)) (.and (.val (.cmp .In (.sub (.b 4) (.c (.int 0))) (.b 3))) (.val (.cmp .In (.sub (.b 4) (.c (.int 1))) (.b 3)))) (.v 3)) .nil)) (.c (.int 1)))) (.cons (.ret (.v 4)) .nil) .nil) .nil))
    (lotV nm) (couplesI n) (fun ρ => ∃ s4, ρ = [.val (roadsV n nm), .val d, s2, .emp, s4]) (badC ls) (fun c o => o = .ret (lotV nm c)) (fun _ o e => by subst e; trivial)
    (evI_seq (ev_app (ev_es (ev_v rfl) ev_es0) hK) rfl) ⟨.emp, rfl⟩ fun c hc ρ ⟨s4, e⟩ => by
      subst e
      refine ⟨[.val (roadsV n nm), .val d, s2, .emp, .val (lotV nm c)], rfl, ?_⟩
      have test : evT kin C (.val (.cmp .Gt (.bi .len (.cons (.lc [3] [3] (.seq (.b 1)) (.and (.val (.cmp .In (.sub (.b 4) (.c (.int 0))) (.b 3))) (.val (.cmp .In (.sub (.b 4) (.c (.int 1))) (.b 3)))) (.v 3)) .nil)) (.c (.int 1)))) [.val (roadsV n nm), .val d, s2, .emp, .val (lotV nm c)] = pure (badC ls c) := by
        refine (evQ_bl (ev_cmp (ev_bi1 (over_ev N hb hl hd hc rfl rfl (by show 3 < 5; decide) (by decide) (by decide)) len_lst) ev_c (gt_int _ _))).trans ?_
        congr 1
        unfold badC
        rw [List.length_map]
        congr 1
        simp only [eq_iff_iff]
        omega
      cases hbr : badC ls c with
      | true =>
        rw [hbr] at test
        rw [if_pos rfl, iff_true test, ret_pure (ev_v rfl)]
        exact ⟨_, rfl, rfl⟩
      | false =>
        rw [hbr] at test
        rw [if_neg (by decide), iff_false test, evSs_nil]
        exact ⟨_, rfl, _, rfl⟩
  unfold c__law_wrong wrongD
  cases h1 : (List.range n).find? (badR ls) with
  | some i =>
    have f := first (.cons (.frl [4] (.seq (.app "_law_couples" (.cons (.v 0) .nil))) (.cons (.iff (.val (.cmp .Gt (.bi .len (.cons (.lc [3] [3] (.seq (.b 1)) (.and (.val (.cmp .In (.sub (.b 4) (.c (.int 0))) (.b 3))) (.val (.cmp .In (.sub (.b 4) (.c (.int 1))) (.b 3)))) (.v 3)) .nil)) (.c (.int 1)))) (.cons (.ret (.v 4)) .nil) .nil) .nil)) (.cons (.ret (.c .non)) .nil))
    rw [h1] at f
    obtain ⟨o, e, rfl⟩ := f
    rw [e]
    rfl
  | none =>
    have f := first (.cons (.frl [4] (.seq (.app "_law_couples" (.cons (.v 0) .nil))) (.cons (.iff (.val (.cmp .Gt (.bi .len (.cons (.lc [3] [3] (.seq (.b 1)) (.and (.val (.cmp .In (.sub (.b 4) (.c (.int 0))) (.b 3))) (.val (.cmp .In (.sub (.b 4) (.c (.int 1))) (.b 3)))) (.v 3)) .nil)) (.c (.int 1)))) (.cons (.ret (.v 4)) .nil) .nil) .nil)) (.cons (.ret (.c .non)) .nil))
    rw [h1] at f
    obtain ⟨ρ', e, s2, rfl⟩ := f
    have g := second (.cons (.ret (.c .non)) .nil) s2
    cases h2 : (couplesI n).find? (badC ls) with
    | some c =>
      rw [h2] at g
      obtain ⟨o, e', rfl⟩ := g
      rw [e, e']
      rfl
    | none =>
      rw [h2] at g
      obtain ⟨ρ', e', s4, rfl⟩ := g
      rw [e, e', ret_pure ev_c]
      rfl
end
end RM
end
section
set_option Elab.async false
set_option linter.all false
set_option maxRecDepth 100000
set_option maxHeartbeats 1000000
set_option autoImplicit false
/-! values: rules with draws for own lists; slices of lists -/
namespace RM
open PySem PySem.Spec PyProof.Rows L2
theorem cutL_fromA {xs : List D} {k : Nat} : slD (.lst xs) (.int (k : Int)) .non = some (.lst (xs.drop k)) := by
  show some (D.lst (cutD xs (some (k : Int)) none)) = _
  unfold cutD
  rw [HT.sIx_nat, HT.sIx_none]
  congr 2
  by_cases h : k ≤ xs.length
  · rw [show min k xs.length = k by omega]
    apply List.take_of_length_le
    simp
  · rw [show min k xs.length = xs.length by omega, List.drop_length, List.drop_eq_nil_of_le (by omega)]
    simp
theorem cutL_oneA {xs : List D} {k : Nat} (h : k ≤ xs.length) : slD (.lst xs) (.int (k : Int)) (.int ((k : Int) + 1)) = some (.lst ((xs.drop k).take 1)) := by
  show some (D.lst (cutD xs (some (k : Int)) (some (((k + 1 : Nat)) : Int)))) = _
  unfold cutD
  rw [HT.sIx_nat, HT.sIx_nat, show min k xs.length = k by omega]
  by_cases h1 : k = xs.length
  · subst h1
    rw [List.drop_length]
    simp
  · rw [show min (k + 1) xs.length = k + 1 by omega, show k + 1 - k = 1 by omega]
theorem cutL_toA {xs : List D} {k : Nat} : slD (.lst xs) .non (.int (k : Int)) = some (.lst (xs.take k)) := by
  show some (D.lst (cutD xs none (some (k : Int)))) = _
  unfold cutD
  rw [HT.sIx_nat, show HT.sIx xs.length 0 none = 0 from rfl]
  congr 2
  show (xs.drop 0).take (min k xs.length - 0) = _
  rw [List.drop_zero, Nat.sub_zero]
  by_cases h : k ≤ xs.length
  · rw [show min k xs.length = k by omega]
  · rw [show min k xs.length = xs.length by omega, List.take_length, List.take_of_length_le (by omega)]
section
variable {kin : Kin} {C : Orc} {ρ : Fe} {c d i : Nat} {e : E} {rest : Ss} {Po : Out → Prop} {Px : List D → Prop} {X : D → Prop}
theorem tr_own (h1 : Tr c (evE kin C e ρ) (fun x => ∃ xs, x = .lst xs ∧ Px xs) noX) (h2 : ∀ xs, Px xs → Tr d (evSs kin C rest (ρ.set i (.own xs))) Po noX) : Tr (c + d) (evSs kin C (.cons (.own i e) rest) ρ) Po noX := by
  refine cons_tr ?_
  rw [evS_own]
  have : Tr (c + 0) (exO (evE kin C e ρ) ρ fun d => (match d with
    | .lst xs => pure (.nx (ρ.set i (.own xs)))
    | _ => M.fail)) (thenP kin C d rest Po) noX := by
    refine exO_tr h1 (fun x hx => ?_) fun _ h => h.elim
    obtain ⟨xs, rfl, hp⟩ := hx
    exact Tr.pure (h2 xs hp)
  exact this
theorem tr_owd (h1 : Tr c (evE kin C e ρ) (fun x => ∃ xs, x = .lst xs ∧ Px xs) noX) (h2 : ∀ xs, Px xs → Tr d (evSs kin C rest (ρ.set i (.own xs))) Po noX) : Tr (c + d) (evSs kin C (.cons (.owd i e) rest) ρ) Po noX := by
  refine cons_tr ?_
  rw [evS_owd]
  have : Tr (c + 0) (exO (evE kin C e ρ) ρ fun d => pure (.nx (owdF i d ρ))) (thenP kin C d rest Po) noX := by
    refine exO_tr h1 (fun x hx => ?_) fun _ h => h.elim
    obtain ⟨xs, rfl, hp⟩ := hx
    exact Tr.pure (h2 xs hp)
  exact this
theorem tr_appS {xs : List D} {P : D → Prop} (h0 : ρ[i]? = some (.own xs)) (hl : xs.length + 1 ≤ 100000) (h1 : Tr c (evE kin C e ρ) P noX) (h2 : ∀ v, P v → Tr d (evSs kin C rest (ρ.set i (.own (xs ++ [v])))) Po noX) : Tr (c + d) (evSs kin C (.cons (.app i e) rest) ρ) Po noX := by
  refine cons_tr ?_
  unfold evS
  rw [h0]
  have : Tr (c + 0) (exO (evE kin C e ρ) ρ fun d => do
      small (xs.length + 1)
      pure (.nx (ρ.set i (.own (xs ++ [d]))))) (thenP kin C d rest Po) noX := by
    refine exO_tr h1 (fun x hx => ?_) fun _ h => h.elim
    rw [small_pure (sz hl), pure_bind]
    exact Tr.pure (h2 x hx)
  exact this
theorem tr_rng1 {a : E} {m : Nat} (hm : m ≤ 100000) (h : Tr c (evE kin C a ρ) (fun x => ∃ j : Nat, j ≤ m ∧ x = .int j) X) : Tr c (evI kin C (.rng1 a) ρ) (fun xs => ∃ j : Nat, j ≤ m ∧ xs = rngD 0 j) X := by
  unfold evI
  have hz := sizeLine_eq
  have : Tr (c + 0) (do
    match ← evE kin C a ρ with
    | .int j => if -(2 ^ 62) ≤ j ∧ j ≤ sizeLine then pure (rngD 0 j.toNat) else M.fail
    | _ => M.fail) (fun xs => ∃ j : Nat, j ≤ m ∧ xs = rngD 0 j) X := by
    refine Tr.bind h fun x hx => ?_
    obtain ⟨j, hj, rfl⟩ := hx
    show Tr 0 (if -(2 ^ 62) ≤ (j : Int) ∧ (j : Int) ≤ sizeLine then pure (rngD 0 (j : Int).toNat) else M.fail) _ X
    rw [if_pos ⟨by omega, by omega⟩]
    exact Tr.pure ⟨j, hj, rfl⟩
  exact this
/-- a comprehension with draws, also in what it walks -/
theorem tr_lcD {c0 : Nat} {own p : List Nat} {it : I} {t : Q} {P : D → Prop} {m : Nat} (I : List D → Nat → List D → Prop) (h : Tr c0 (evI kin C it ρ) (fun xs => Px xs ∧ xs.length ≤ m) X) (hm : m ≤ 100000) (h0 : ∀ xs, Px xs → I xs 0 [])
    (hs : ∀ xs, Px xs → ∀ i x acc, xs[i]? = some x → I xs i acc → Tr c (lcF kin C ρ own p t e x) (fun o => I xs (i + 1) (acc ++ o.toList)) noX) (hP : ∀ xs, Px xs → ∀ rs, I xs xs.length rs → P (.lst rs)) : Tr (c0 + m * c) (evE kin C (.lc own p it t e) ρ) P X := by
  rw [evE_lc]
  refine Tr.bind h fun xs ⟨hx, hl⟩ => ?_
  rw [small_pure (sz (by omega))]
  simp only [pure_bind]
  have key : Tr (xs.length * c) (mapO (lcF kin C ρ own p t e) xs) (fun rs => I xs (0 + xs.length) ([] ++ rs)) noX := mapO_tr (I := I xs) (i := 0) (acc := []) (fun j x acc hx' hi => by
    rw [Nat.zero_add] at hi ⊢
    exact hs xs hx j x acc hx' hi) (h0 xs hx)
  have : Tr (xs.length * c + 0) (do
    let rs ← M.quiet (mapO (lcF kin C ρ own p t e) xs)
    pure (D.lst rs)) P X := Tr.bind (quiet_tr key) fun rs hr => Tr.pure (hP xs hx rs (by simpa using hr))
  exact this.le (Nat.mul_le_mul_right c hl)
/-- one turn of a comprehension without a test, with draws -/
theorem lcF_tr {own p : List Nat} {x : D} {ρ1 : Fe} {P : Option D → Prop} (h1 : asgP p x (wipeE ρ own) = some ρ1) (h2 : Tr c (evE kin C e ρ1) (fun v => P (some v)) noX) : Tr c (lcF kin C ρ own p .yes e x) P noX := by
  unfold lcF
  rw [h1]
  simp only [op_some, pure_bind, evQ_yes, if_true]
  have : Tr (c + 0) (do
    let y ← evE kin C e ρ1
    pure (some y)) P noX := Tr.bind h2 fun v hv => Tr.pure hv
  exact this
end
section
variable {n : Nat} {nm : Nat → Str}
theorem not_rd {l : List Nat} (N : Nm n nm) (hb : Bel n l) (h : ¬ l.Pairwise (· < ·)) : isRd (lotV nm l) = false := by
  rw [isRd_eq]
  have e : lotV nm l = .tup ((l.map nm).map D.str) := by rw [List.map_map]; rfl
  have : isAsc (lotV nm l) = false := by
    rw [e]
    show (((l.map nm).map D.str).all isWd && ascS (strsOf ((l.map nm).map D.str))) = false
    rw [strsOf_map]
    have : ascS (l.map nm) = false := by
      rw [Bool.eq_false_iff]
      exact fun z => h ((asc_pw N hb).mp z)
    rw [this, Bool.and_false]
  rw [this, Bool.false_and]
end
end RM
end
section
set_option Elab.async false
set_option linter.all false
set_option maxRecDepth 100000
set_option maxHeartbeats 0
set_option autoImplicit false
/-! a law: its tables, its defs compiled -/
namespace RM
open PySem PySem.Spec PyProof.Rows L2
def top_ (i : Nat) : Stmt := PySem.Challenge.pw_roadmeets_k04_whole_nets_made.main.body.getD i (.Pass ⟨0, 0, 0, 0⟩)
def kin_ : Kin where
  par := fun c => match ([("RoadError", ["RoadError"]), ("BadRoads", ["BadRoads", "RoadError"]), ("BadNet", ["BadNet", "RoadError"]), ("Net", ["Net"])] : List (Str × List Str)).lookup c with
    | some l => l
    | none => []
  xfl := fun c => match ([("BadRoads", ["value"]), ("BadNet", ["place"])] : List (Str × List Str)).lookup c with
    | some l => l
    | none => []
  fld := fun c => match ([("Net", ["roads", "lots"])] : List (Str × List Str)).lookup c with
    | some l => l
    | none => []
  isI := fun c => (["Net"] : List Str).contains c
  isX := fun c => (["RoadError", "BadRoads", "BadNet"] : List Str).contains c
  ini := fun c => ([("BadRoads", "value"), ("BadNet", "place")] : List (Str × Str)).lookup c
def gt_ : Gt := [(("MOST_ROADS" : Str), Gv.cst (.int 7)), (("MOST_LETTERS" : Str), Gv.cst (.int 8)), (("LETTERS" : Str), Gv.cst (.str "abcdefghijklmnopqrstuvwxyz")), (("ENDS" : Str), Gv.cst (.int 2)), (("is_word" : Str), Gv.fn 1), (("are_ascending" : Str), Gv.fn 1), (("need_roads" : Str), Gv.fn 1), (("is_lot" : Str), Gv.fn 2), (("lots_with" : Str), Gv.fn 2), (("couples" : Str), Gv.fn 1), (("need_lots" : Str), Gv.fn 2), (("lots_of" : Str), Gv.fn 2), (("is_over" : Str), Gv.fn 2), (("_law_begun" : Str), Gv.fn 1), (("_law_next" : Str), Gv.fn 2), (("_law_names" : Str), Gv.fn 2), (("_law_odd" : Str), Gv.fn 1), (("_law_bent" : Str), Gv.fn 2), (("_law_lots" : Str), Gv.fn 1), (("_law_couples" : Str), Gv.fn 1), (("_law_roads" : Str), Gv.fn 3), (("_law_lots_drawn" : Str), Gv.fn 2), (("_law_wrong" : Str), Gv.fn 2), (("_law_due" : Str), Gv.fn 2), (("_law_told" : Str), Gv.fn 2), (("law" : Str), Gv.fn 1), (("RoadError" : Str), Gv.cls "RoadError"), (("BadRoads" : Str), Gv.cls "BadRoads"), (("BadNet" : Str), Gv.cls "BadNet"), (("Net" : Str), Gv.cfn "Net" 2), (("isinstance" : Str), Gv.blt), (("str" : Str), Gv.blt), (("all" : Str), Gv.blt), (("len" : Str), Gv.blt), (("tuple" : Str), Gv.blt), (("zip" : Str), Gv.blt), (("range" : Str), Gv.blt), (("enumerate" : Str), Gv.blt), (("list" : Str), Gv.blt), (("int" : Str), Gv.blt), (("bool" : Str), Gv.blt), (("sorted" : Str), Gv.blt), (("repr" : Str), Gv.blt), (("min" : Str), Gv.blt)]
def sub_ (s : Stmt) (j : Nat) : Stmt := match s with
  | .ClassDef _ _ _ b _ _ _ _ _ _ _ => b.getD j (.Pass ⟨0, 0, 0, 0⟩)
  | _ => s
def cs_ : List Str := ["RoadError", "BadRoads", "BadNet", "Net"]
def fuel_ : Nat := 40
def d_is_word : DefI := { name := "is_word", N := ["thing", "letter"], ps := ["thing"], args := defArgs (top_ 9), body := defBody (top_ 9), sc := defScope (top_ 9), own := [], b := c_is_word }
theorem t_is_word : DefT d_is_word := ⟨⟨by kernel_rfl, by kernel_rfl, by kernel_rfl, by decide +kernel, by kernel_rfl, by decide +kernel, by decide +kernel⟩, fun _ _ _ _ _ _ us hl => match us, hl with | [_], _ => by kernel_rfl⟩
theorem k_is_word : DefC kin_ gt_ (cp gt_ fuel_) fuel_ d_is_word := ⟨t_is_word, by kernel_rfl, by kernel_rfl, rfl, by kernel_rfl⟩
def d_are_ascending : DefI := { name := "are_ascending", N := ["thing", "one", "other"], ps := ["thing"], args := defArgs (top_ 10), body := defBody (top_ 10), sc := defScope (top_ 10), own := [], b := c_are_ascending }
theorem t_are_ascending : DefT d_are_ascending := ⟨⟨by kernel_rfl, by kernel_rfl, by kernel_rfl, by decide +kernel, by kernel_rfl, by decide +kernel, by decide +kernel⟩, fun _ _ _ _ _ _ us hl => match us, hl with | [_], _ => by kernel_rfl⟩
theorem k_are_ascending : DefC kin_ gt_ (cp gt_ fuel_) fuel_ d_are_ascending := ⟨t_are_ascending, by kernel_rfl, by kernel_rfl, rfl, by kernel_rfl⟩
def d_need_roads : DefI := { name := "need_roads", N := ["thing"], ps := ["thing"], args := defArgs (top_ 11), body := defBody (top_ 11), sc := defScope (top_ 11), own := [], b := c_need_roads }
theorem t_need_roads : DefT d_need_roads := ⟨⟨by kernel_rfl, by kernel_rfl, by kernel_rfl, by decide +kernel, by kernel_rfl, by decide +kernel, by decide +kernel⟩, fun _ _ _ _ _ _ us hl => match us, hl with | [_], _ => by kernel_rfl⟩
theorem k_need_roads : DefC kin_ gt_ (cp gt_ fuel_) fuel_ d_need_roads := ⟨t_need_roads, by kernel_rfl, by kernel_rfl, rfl, by kernel_rfl⟩
def d_is_lot : DefI := { name := "is_lot", N := ["roads", "thing", "one"], ps := ["roads", "thing"], args := defArgs (top_ 12), body := defBody (top_ 12), sc := defScope (top_ 12), own := [], b := c_is_lot }
theorem t_is_lot : DefT d_is_lot := ⟨⟨by kernel_rfl, by kernel_rfl, by kernel_rfl, by decide +kernel, by kernel_rfl, by decide +kernel, by decide +kernel⟩, fun _ _ _ _ _ _ us hl => match us, hl with | [_, _], _ => by kernel_rfl⟩
theorem k_is_lot : DefC kin_ gt_ (cp gt_ fuel_) fuel_ d_is_lot := ⟨t_is_lot, by kernel_rfl, by kernel_rfl, rfl, by kernel_rfl⟩
def d_lots_with : DefI := { name := "lots_with", N := ["roads", "size", "found", "turn", "lot", "road"], ps := ["roads", "size"], args := defArgs (top_ 13), body := defBody (top_ 13), sc := defScope (top_ 13), own := [], b := c_lots_with }
theorem t_lots_with : DefT d_lots_with := ⟨⟨by kernel_rfl, by kernel_rfl, by kernel_rfl, by decide +kernel, by kernel_rfl, by decide +kernel, by decide +kernel⟩, fun _ _ _ _ _ _ us hl => match us, hl with | [_, _], _ => by kernel_rfl⟩
theorem k_lots_with : DefC kin_ gt_ (cp gt_ fuel_) fuel_ d_lots_with := ⟨t_lots_with, by kernel_rfl, by kernel_rfl, rfl, by kernel_rfl⟩
def d_couples : DefI := { name := "couples", N := ["roads"], ps := ["roads"], args := defArgs (top_ 14), body := defBody (top_ 14), sc := defScope (top_ 14), own := [], b := c_couples }
theorem t_couples : DefT d_couples := ⟨⟨by kernel_rfl, by kernel_rfl, by kernel_rfl, by decide +kernel, by kernel_rfl, by decide +kernel, by decide +kernel⟩, fun _ _ _ _ _ _ us hl => match us, hl with | [_], _ => by kernel_rfl⟩
theorem k_couples : DefC kin_ gt_ (cp gt_ fuel_) fuel_ d_couples := ⟨t_couples, by kernel_rfl, by kernel_rfl, rfl, by kernel_rfl⟩
def d_need_lots : DefI := { name := "need_lots", N := ["roads", "lots", "number", "lot"], ps := ["roads", "lots"], args := defArgs (top_ 17), body := defBody (top_ 17), sc := defScope (top_ 17), own := [], b := c_need_lots }
theorem t_need_lots : DefT d_need_lots := ⟨⟨by kernel_rfl, by kernel_rfl, by kernel_rfl, by decide +kernel, by kernel_rfl, by decide +kernel, by decide +kernel⟩, fun _ _ _ _ _ _ us hl => match us, hl with | [_, _], _ => by kernel_rfl⟩
theorem k_need_lots : DefC kin_ gt_ (cp gt_ fuel_) fuel_ d_need_lots := ⟨t_need_lots, by kernel_rfl, by kernel_rfl, rfl, by kernel_rfl⟩
def d_lots_of : DefI := { name := "lots_of", N := ["lots", "road", "lot"], ps := ["lots", "road"], args := defArgs (top_ 18), body := defBody (top_ 18), sc := defScope (top_ 18), own := [], b := c_lots_of }
theorem t_lots_of : DefT d_lots_of := ⟨⟨by kernel_rfl, by kernel_rfl, by kernel_rfl, by decide +kernel, by kernel_rfl, by decide +kernel, by decide +kernel⟩, fun _ _ _ _ _ _ us hl => match us, hl with | [_, _], _ => by kernel_rfl⟩
theorem k_lots_of : DefC kin_ gt_ (cp gt_ fuel_) fuel_ d_lots_of := ⟨t_lots_of, by kernel_rfl, by kernel_rfl, rfl, by kernel_rfl⟩
def d_is_over : DefI := { name := "is_over", N := ["lots", "couple", "lot"], ps := ["lots", "couple"], args := defArgs (top_ 19), body := defBody (top_ 19), sc := defScope (top_ 19), own := [], b := c_is_over }
theorem t_is_over : DefT d_is_over := ⟨⟨by kernel_rfl, by kernel_rfl, by kernel_rfl, by decide +kernel, by kernel_rfl, by decide +kernel, by decide +kernel⟩, fun _ _ _ _ _ _ us hl => match us, hl with | [_, _], _ => by kernel_rfl⟩
theorem k_is_over : DefC kin_ gt_ (cp gt_ fuel_) fuel_ d_is_over := ⟨t_is_over, by kernel_rfl, by kernel_rfl, rfl, by kernel_rfl⟩
def d__law_begun : DefI := { name := "_law_begun", N := ["_law_script", "_law_cell"], ps := ["_law_script"], args := defArgs (top_ 22), body := defBody (top_ 22), sc := defScope (top_ 22), own := [], b := .nil }
theorem t__law_begun : DefT d__law_begun := ⟨⟨by kernel_rfl, by kernel_rfl, by kernel_rfl, by decide +kernel, by kernel_rfl, by decide +kernel, by decide +kernel⟩, fun _ _ _ _ _ _ us hl => match us, hl with | [_], _ => by kernel_rfl⟩
def d__law_next : DefI := { name := "_law_next", N := ["_law_m", "_law_many", "_law_rest", "_law_at", "_law_bits", "_law_cell", "_law_blend"], ps := ["_law_m", "_law_many"], args := defArgs (top_ 23), body := defBody (top_ 23), sc := defScope (top_ 23), own := [], b := .nil }
theorem t__law_next : DefT d__law_next := ⟨⟨by kernel_rfl, by kernel_rfl, by kernel_rfl, by decide +kernel, by kernel_rfl, by decide +kernel, by decide +kernel⟩, fun _ _ _ _ _ _ us hl => match us, hl with | [_, _], _ => by kernel_rfl⟩
def d__law_names : DefI := { name := "_law_names", N := ["_law_m", "_law_many", "_law_letters", "_law_stem", "_law_k", "_law_at", "_law_first", "_law_by", "_law_word"], ps := ["_law_m", "_law_many"], args := defArgs (top_ 24), body := defBody (top_ 24), sc := defScope (top_ 24), own := [], b := c__law_names }
theorem t__law_names : DefT d__law_names := ⟨⟨by kernel_rfl, by kernel_rfl, by kernel_rfl, by decide +kernel, by kernel_rfl, by decide +kernel, by decide +kernel⟩, fun _ _ _ _ _ _ us hl => match us, hl with | [_, _], _ => by kernel_rfl⟩
theorem k__law_names : DefC kin_ gt_ (cp gt_ fuel_) fuel_ d__law_names := ⟨t__law_names, by kernel_rfl, by kernel_rfl, rfl, by kernel_rfl⟩
def d__law_odd : DefI := { name := "_law_odd", N := ["_law_m", "_law_some"], ps := ["_law_m"], args := defArgs (top_ 25), body := defBody (top_ 25), sc := defScope (top_ 25), own := [], b := c__law_odd }
theorem t__law_odd : DefT d__law_odd := ⟨⟨by kernel_rfl, by kernel_rfl, by kernel_rfl, by decide +kernel, by kernel_rfl, by decide +kernel, by decide +kernel⟩, fun _ _ _ _ _ _ us hl => match us, hl with | [_], _ => by kernel_rfl⟩
theorem k__law_odd : DefC kin_ gt_ (cp gt_ fuel_) fuel_ d__law_odd := ⟨t__law_odd, by kernel_rfl, by kernel_rfl, rfl, by kernel_rfl⟩
def d__law_bent : DefI := { name := "_law_bent", N := ["_law_m", "_law_thing", "_law_at", "_law_pick"], ps := ["_law_m", "_law_thing"], args := defArgs (top_ 26), body := defBody (top_ 26), sc := defScope (top_ 26), own := [], b := c__law_bent }
theorem t__law_bent : DefT d__law_bent := ⟨⟨by kernel_rfl, by kernel_rfl, by kernel_rfl, by decide +kernel, by kernel_rfl, by decide +kernel, by decide +kernel⟩, fun _ _ _ _ _ _ us hl => match us, hl with | [_, _], _ => by kernel_rfl⟩
theorem k__law_bent : DefC kin_ gt_ (cp gt_ fuel_) fuel_ d__law_bent := ⟨t__law_bent, by kernel_rfl, by kernel_rfl, rfl, by kernel_rfl⟩
def d__law_lots : DefI := { name := "_law_lots", N := ["_law_many", "_law_rows", "_law_one", "_law_row"], ps := ["_law_many"], args := defArgs (top_ 27), body := defBody (top_ 27), sc := defScope (top_ 27), own := [], b := c__law_lots }
theorem t__law_lots : DefT d__law_lots := ⟨⟨by kernel_rfl, by kernel_rfl, by kernel_rfl, by decide +kernel, by kernel_rfl, by decide +kernel, by decide +kernel⟩, fun _ _ _ _ _ _ us hl => match us, hl with | [_], _ => by kernel_rfl⟩
theorem k__law_lots : DefC kin_ gt_ (cp gt_ fuel_) fuel_ d__law_lots := ⟨t__law_lots, by kernel_rfl, by kernel_rfl, rfl, by kernel_rfl⟩
def d__law_couples : DefI := { name := "_law_couples", N := ["_law_many", "_law_found", "_law_k", "_law_other"], ps := ["_law_many"], args := defArgs (top_ 28), body := defBody (top_ 28), sc := defScope (top_ 28), own := [], b := c__law_couples }
theorem t__law_couples : DefT d__law_couples := ⟨⟨by kernel_rfl, by kernel_rfl, by kernel_rfl, by decide +kernel, by kernel_rfl, by decide +kernel, by decide +kernel⟩, fun _ _ _ _ _ _ us hl => match us, hl with | [_], _ => by kernel_rfl⟩
theorem k__law_couples : DefC kin_ gt_ (cp gt_ fuel_) fuel_ d__law_couples := ⟨t__law_couples, by kernel_rfl, by kernel_rfl, rfl, by kernel_rfl⟩
def d__law_roads : DefI := { name := "_law_roads", N := ["_law_m", "_law_least", "_law_most"], ps := ["_law_m", "_law_least", "_law_most"], args := defArgs (top_ 29), body := defBody (top_ 29), sc := defScope (top_ 29), own := [], b := c__law_roads }
theorem t__law_roads : DefT d__law_roads := ⟨⟨by kernel_rfl, by kernel_rfl, by kernel_rfl, by decide +kernel, by kernel_rfl, by decide +kernel, by decide +kernel⟩, fun _ _ _ _ _ _ us hl => match us, hl with | [_, _, _], _ => by kernel_rfl⟩
theorem k__law_roads : DefC kin_ gt_ (cp gt_ fuel_) fuel_ d__law_roads := ⟨t__law_roads, by kernel_rfl, by kernel_rfl, rfl, by kernel_rfl⟩
def d__law_lots_drawn : DefI := { name := "_law_lots_drawn", N := ["_law_m", "_law_many", "_law_lots_here", "_law_singles", "_law_road", "_law_places", "_law_one", "_law_place", "_law_far", "_law_other", "_law_lot", "_law_at", "_law_grown"], ps := ["_law_m", "_law_many"], args := defArgs (top_ 31), body := defBody (top_ 31), sc := defScope (top_ 31), own := [], b := c__law_lots_drawn }
theorem t__law_lots_drawn : DefT d__law_lots_drawn := ⟨⟨by kernel_rfl, by kernel_rfl, by kernel_rfl, by decide +kernel, by kernel_rfl, by decide +kernel, by decide +kernel⟩, fun _ _ _ _ _ _ us hl => match us, hl with | [_, _], _ => by kernel_rfl⟩
theorem k__law_lots_drawn : DefC kin_ gt_ (cp gt_ fuel_) fuel_ d__law_lots_drawn := ⟨t__law_lots_drawn, by kernel_rfl, by kernel_rfl, rfl, by kernel_rfl⟩
def d__law_wrong : DefI := { name := "_law_wrong", N := ["_law_many", "_law_lots_here", "_law_road", "_law_lot", "_law_couple"], ps := ["_law_many", "_law_lots_here"], args := defArgs (top_ 33), body := defBody (top_ 33), sc := defScope (top_ 33), own := [], b := c__law_wrong }
theorem t__law_wrong : DefT d__law_wrong := ⟨⟨by kernel_rfl, by kernel_rfl, by kernel_rfl, by decide +kernel, by kernel_rfl, by decide +kernel, by decide +kernel⟩, fun _ _ _ _ _ _ us hl => match us, hl with | [_, _], _ => by kernel_rfl⟩
theorem k__law_wrong : DefC kin_ gt_ (cp gt_ fuel_) fuel_ d__law_wrong := ⟨t__law_wrong, by kernel_rfl, by kernel_rfl, rfl, by kernel_rfl⟩
def c__law_due : Ss :=
  (.cons (.iff (.not (.val (.bi (.isi [.b "list", .b "tuple"]) (.cons (.b 1) .nil))))
  (.cons (.ret (.tup (.cons (.c (.str "net")) (.cons (.c (.str "None")) .nil))))
  .nil)
  .nil)
  (.cons (.asg [2] (.lc [3] [3] (.seq (.app "_law_lots" (.cons (.v 0) .nil))) (.val (.cmp .Gt (.bi .len (.cons (.b 3) .nil)) (.c (.int 1)))) (.bi .repr (.cons (.b 3) .nil))))
  (.cons (.frl [4, 5] (.enum (.v 1))
  (.cons (.iff (.val (.cmp .NotIn (.bi .repr (.cons (.b 5) .nil)) (.b 2)))
  (.cons (.ret (.tup (.cons (.c (.str "net")) (.cons (.bi .repr (.cons (.b 4) .nil)) .nil))))
  .nil)
  .nil)
  .nil))
  (.cons (.asg [6] (.app "_law_wrong" (.cons (.v 0) (.cons (.v 1) .nil))))
  (.cons (.ret (.ife (.val (.cmp .Is (.b 6) (.c .non))) (.lst (.cons (.bi .tuple (.cons (.bi .sorted (.cons (.b 1) .nil)) .nil)) .nil)) (.tup (.cons (.c (.str "net")) (.cons (.bi .repr (.cons (.b 6) .nil)) .nil)))))
  .nil)))))
def d__law_due : DefI := { name := "_law_due", N := ["_law_many", "_law_lots_here", "_law_names_here", "_law_lot", "_law_at", "_law_one", "_law_wrong_here"], ps := ["_law_many", "_law_lots_here"], args := defArgs (top_ 34), body := defBody (top_ 34), sc := defScope (top_ 34), own := [], b := c__law_due }
theorem t__law_due : DefT d__law_due := ⟨⟨by kernel_rfl, by kernel_rfl, by kernel_rfl, by decide +kernel, by kernel_rfl, by decide +kernel, by decide +kernel⟩, fun _ _ _ _ _ _ us hl => match us, hl with | [_, _], _ => by kernel_rfl⟩
theorem k__law_due : DefC kin_ gt_ (cp gt_ fuel_) fuel_ d__law_due := ⟨t__law_due, by kernel_rfl, by kernel_rfl, rfl, by kernel_rfl⟩
def c__law_told : Ss :=
  (.cons (.ifo 2 (.val (.bi (.isi [.b "list"]) (.cons (.b 1) .nil))) (.bi .list (.cons (.b 1) .nil)) (.v 1))
  (.cons (.tr (.cons (.brw [2] [3] (.app "Net" (.cons (.v 0) (.cons (.v 2) .nil))))
  .nil) (.cons "BadNet" (some 4) (.cons (.ret (.tup (.cons (.c (.str "net")) (.cons (.bi .repr (.cons (.xfl 4 "place") .nil)) .nil))))
  .nil) (.cons "BadRoads" (some 4) (.cons (.ret (.tup (.cons (.c (.str "roads")) (.cons (.bi .repr (.cons (.xfl 4 "value") .nil)) .nil))))
  .nil) .nil)))
  (.cons (.iff (.val (.bi (.isi [.b "list"]) (.cons (.b 2) .nil)))
  (.cons (.app 2 (.c (.int 5)))
  .nil)
  .nil)
  (.cons (.ret (.ife (.val (.cmp .Eq (.fld (.b 3) "roads") (.b 0))) (.lst (.cons (.fld (.b 3) "lots") .nil)) (.c (.str "lost"))))
  .nil))))
def d__law_told : DefI := { name := "_law_told", N := ["_law_many", "_law_lots_here", "_law_handed", "_law_one", "e"], ps := ["_law_many", "_law_lots_here"], args := defArgs (top_ 35), body := defBody (top_ 35), sc := defScope (top_ 35), own := [2], b := c__law_told }
theorem t__law_told : DefT d__law_told := ⟨⟨by kernel_rfl, by kernel_rfl, by kernel_rfl, by decide +kernel, by kernel_rfl, by decide +kernel, by decide +kernel⟩, fun _ _ _ _ _ _ us hl => match us, hl with | [_, _], _ => by kernel_rfl⟩
theorem k__law_told : DefC kin_ gt_ (cp gt_ fuel_) fuel_ d__law_told := ⟨t__law_told, by kernel_rfl, by kernel_rfl, rfl, by kernel_rfl⟩
def c_law : Ss :=
  (.cons (.asg [1] (.app "_law_begun" (.cons (.v 0) .nil)))
  (.cons (.frl [2] (.rng1 (.bin .Add (.c (.int 3)) (.bi .min2 (.cons (.bi .len (.cons (.b 0) .nil)) (.cons (.c (.int 8)) .nil)))))
  (.cons (.asg [3] (.app "_law_roads" (.cons (.v 1) (.cons (.c (.int 1)) (.cons (.c (.int 7)) .nil)))))
  (.cons (.asg [4, 5] (.tup (.cons (.app "_law_lots_drawn" (.cons (.v 1) (.cons (.v 3) .nil))) (.cons (.app "_law_lots" (.cons (.v 3) .nil)) .nil))))
  (.cons (.own 6 (.lst (.cons (.v 4) (.cons (.bi .tuple (.cons (.b 4) .nil)) (.cons (.bk (.b 4) (.c .non) (.c .non)) (.cons (.bin .Add (.b 4) (.sl (.b 4) (.c .non) (.bnd (.c (.int 1))))) (.cons (.lst .nil) (.cons (.tup .nil) (.cons (.c .non) (.cons (.c (.int 5)) (.cons .dct0 (.cons (.c (.str "lots")) (.cons (.app "_law_odd" (.cons (.v 1) .nil)) .nil)))))))))))))
  (.cons (.app 6 (.bin .Add (.b 4) (.lst (.cons (.sl (.b 3) (.c .non) (.bnd (.c (.int 1)))) .nil))))
  (.cons (.frl [7] (.rng1 (.c (.int 6)))
  (.cons (.asg [8] (.ife (.val (.cmp .NotEq (.b 4) (.lst .nil))) (.app "_law_next" (.cons (.v 1) (.cons (.bi .len (.cons (.b 4) .nil)) .nil))) (.c (.int 0))))
  (.cons (.asg [9] (.lc [10] [10] (.seq (.sl (.b 4) (.bnd (.b 8)) (.bnd (.bin .Add (.b 8) (.c (.int 1)))))) .yes (.app "_law_bent" (.cons (.v 1) (.cons (.v 10) .nil)))))
  (.cons (.owd 6 (.bin .Add (.b 6) (.lst (.cons (.bin .Add (.bin .Add (.sl (.b 4) (.c .non) (.bnd (.b 8))) (.b 9)) (.sl (.b 4) (.bnd (.bin .Add (.b 8) (.c (.int 1)))) (.c .non))) (.cons (.bin .Add (.b 4) (.lst (.cons (.sub (.b 5) (.app "_law_next" (.cons (.v 1) (.cons (.bi .len (.cons (.b 5) .nil)) .nil)))) .nil))) .nil)))))
  (.cons (.app 6 (.lc [11] [11] (.rng1 (.app "_law_next" (.cons (.v 1) (.cons (.c (.int 5)) .nil)))) .yes (.sub (.b 5) (.app "_law_next" (.cons (.v 1) (.cons (.bi .len (.cons (.b 5) .nil)) .nil))))))
  .nil)))))
  (.cons (.fz [6] (.frl [12] (.seq (.v 6))
  (.cons (.iff (.val (.cmp .NotEq (.bi .repr (.cons (.app "_law_told" (.cons (.v 3) (.cons (.v 12) .nil))) .nil)) (.bi .repr (.cons (.app "_law_due" (.cons (.v 3) (.cons (.v 12) .nil))) .nil))))
  (.cons (.ret (.c (.bl false)))
  .nil)
  .nil)
  .nil)))
  (.cons (.asg [13] (.sub (.lst (.cons (.c .non) (.cons (.tup .nil) (.cons (.bin .Add (.bk (.b 3) (.c .non) (.c .non)) (.b 3)) (.cons (.bi .list (.cons (.b 3) .nil)) (.cons (.c (.str "a")) .nil)))))) (.app "_law_next" (.cons (.v 1) (.cons (.c (.int 5)) .nil)))))
  (.cons (.iff (.val (.cmp .NotEq (.app "_law_told" (.cons (.v 13) (.cons (.c (.int 5)) .nil))) (.tup (.cons (.c (.str "roads")) (.cons (.bi .repr (.cons (.b 13) .nil)) .nil)))))
  (.cons (.ret (.c (.bl false)))
  .nil)
  .nil)
  .nil)))))))))
  (.cons (.ret (.c (.bl true)))
  .nil)))
def d_law : DefI := { name := "law", N := ["_law_script", "_law_m", "_law_turn", "_law_many", "_law_lots_here", "_law_every", "_law_some", "_law_k", "_law_at", "_law_near", "_law_one", "_law_n", "_law_thing", "_law_odd_here"], ps := ["_law_script"], args := defArgs (top_ 36), body := defBody (top_ 36), sc := defScope (top_ 36), own := [6], b := c_law }
theorem t_law : DefT d_law := ⟨⟨by kernel_rfl, by kernel_rfl, by kernel_rfl, by decide +kernel, by kernel_rfl, by decide +kernel, by decide +kernel⟩, fun _ _ _ _ _ _ us hl => match us, hl with | [_], _ => by kernel_rfl⟩
theorem k_law : DefC kin_ gt_ (cp gt_ fuel_) fuel_ d_law := ⟨t_law, by kernel_rfl, by kernel_rfl, rfl, by kernel_rfl⟩
def d_Net : DefI := { name := "Net", N := ["self", "roads", "lots", "road", "couple"], ps := ["self", "roads", "lots"], args := defArgs (sub_ (top_ 20) 0), body := defBody (sub_ (top_ 20) 0), sc := defScope (sub_ (top_ 20) 0), own := [], b := c_Net, kd := .ini "Net", pn := "__init__", q := "Net.__init__" }
theorem t_Net : DefT d_Net := ⟨⟨by kernel_rfl, by kernel_rfl, by kernel_rfl, by decide +kernel, by kernel_rfl, by decide +kernel, by decide +kernel⟩, fun _ _ _ _ _ _ us hl => match us, hl with | [_, _, _], _ => by kernel_rfl⟩
theorem k_Net : DefC kin_ gt_ (cp gt_ fuel_) fuel_ d_Net := ⟨t_Net, by kernel_rfl, by kernel_rfl, rfl, by kernel_rfl⟩
def law_ : LawI := { kin := kin_, gt := gt_, cs := cs_, dB := d__law_begun, dN := d__law_next, ds := [d_is_word, d_are_ascending, d_need_roads, d_is_lot, d_lots_with, d_couples, d_need_lots, d_lots_of, d_is_over, d__law_names, d__law_odd, d__law_bent, d__law_bent, d__law_bent, d__law_bent, d__law_lots, d__law_couples, d__law_roads, d__law_lots_drawn, d__law_wrong, d__law_due, d_Net, d__law_told, d_law] }
theorem ds_ok : ∀ d ∈ law_.ds, DefC kin_ gt_ (cp gt_ fuel_) fuel_ d :=
  all_cons k_is_word (all_cons k_are_ascending (all_cons k_need_roads (all_cons k_is_lot (all_cons k_lots_with (all_cons k_couples (all_cons k_need_lots (all_cons k_lots_of (all_cons k_is_over (all_cons k__law_names (all_cons k__law_odd (all_cons k__law_bent (all_cons k__law_bent (all_cons k__law_bent (all_cons k__law_bent (all_cons k__law_lots (all_cons k__law_couples (all_cons k__law_roads (all_cons k__law_lots_drawn (all_cons k__law_wrong (all_cons k__law_due (all_cons k_Net (all_cons k__law_told (all_cons k_law ((fun _ hd => nomatch hd)))))))))))))))))))))))))
/-! ### the draws' defs -/
theorem begun_is : BegunIs kin_ gt_ failO d__law_begun.N d__law_begun.sc d__law_begun.body := by
  intro Y k X W U so av
  have sn : Snd kin_ gt_ (cp gt_ fuel_) := snd_cp kin_ gt_ fuel_
  refine pss_one (ps_ret (pe_disp (pps_cons pe_str ?_ (pps_cons pe_str ?_ (pps_cons pe_str pe_int pps_nil))) (by rfl) (by rfl) (fun z => by cases z) (by decide)))
  · exact sn.n _ _ _ X Y k failO W (by kernel_rfl) (by kernel_rfl) so.o
  · exact sn.n _ _ _ X Y k failO W (by rfl) (by kernel_rfl) so.o
theorem next_is (C : Orc) : NextIs kin_ gt_ C d__law_next.N d__law_next.sc d__law_next.body := by
  intro Y k X W U so av ms
  have sn : Snd kin_ gt_ (cp gt_ fuel_) := snd_cp kin_ gt_ fuel_
  rw [← so.o.ox.hK]
  have hu64 : X.A.units + 64 < cLine := by have := so.o.ox.units; omega
  have hu : X.A.units + 1 < cLine := by omega
  have nd := so.o.ox.nd
  have hm : ∀ p, PE X (.Name "_law_m" p) (tVar 0) := fun p => pe_var (by rw [so.o.N]; rfl) (by rw [so.o.sc]; exact .inl rfl)
  have hn : ∀ p, PE X (.Name "_law_many" p) (tVar 1) := fun p => pe_var (by rw [so.o.N]; rfl) (by rw [so.o.sc]; exact .inl rfl)
  have hr : ∀ p, PE X (.Name "_law_rest" p) (tVar 2) := fun p => pe_var (by rw [so.o.N]; rfl) (by rw [so.o.sc]; exact .inl rfl)
  have ha : ∀ p, PE X (.Name "_law_at" p) (tVar 3) := fun p => pe_var (by rw [so.o.N]; rfl) (by rw [so.o.sc]; exact .inl rfl)
  have tint := (glo_ok so.o (x := "int") (v := .blt) (by rfl))
  have left : ∀ {p1 p2 p3 j}, PE X (.Subscript (.Name "_law_m" p1) (.Constant (.str "left") j p2) p3) (tKey "left") := pe_dget hu (hm _) pe_str (fun _ _ => rfl)
  refine pss_cons (ps_while (so.po rfl) (PW.pt (pw_and (pt_cmpR (op_neD hu64) left (pe_lst pa_nil) (nomark _)) (pw_and1 (pt_cmp (pc_eqI (pe_ix ix_list left pe_int (fun _ _ => rfl)) pe_int)))))
      (pss_one (ps_dput hu (hm _) pe_str (pe_slice sl_list left (po_some pe_int) po_none) (by rfl))))
    (pss_cons (ps_if (pt_cmpR (op_neD hu64) left (pe_lst pa_nil) (nomark _)) (pss_cons (ps_set (i := 2) nd (by rw [so.o.N]; rfl) (by rw [so.o.sc]; exact .inl rfl) (pe_ix ix_list left pe_int (fun _ _ => rfl)) (by rfl) (.inl (by rw [so.o.fn]; rfl)))
        (pss_cons (ps_asg (pe_op op_fdivW (hr _) (hn _)) (pg_sub left pe_int set_list))
        (pss_one (ps_ret (pe_op op_mod (pe_callTy call_int1 tint.1 tint.2 boot_int (pa_cons (hr _) pa_nil)) (hn _))))))
      pss_nil)
    (pss_cons (ps_par (i := 3) (j := 4) (so.o.ox.calm rfl) nd (by rw [so.o.N]; rfl) (by rw [so.o.N]; rfl) (by decide) (by rw [so.o.sc]; rfl) (by rw [so.o.sc]; rfl) (pa_cons (pe_add (pe_dget hu (hm _) pe_str (fun _ _ => rfl)) pe_int) (pa_cons (pe_dget hu (hm _) pe_str (fun _ _ => rfl)) pa_nil)) (swp_ok so (by rfl)) (by rfl))
    (pss_cons (ps_dput hu (hm _) pe_str (ha _) (by rfl))
    (rok_cp kin_ gt_ (cp gt_ fuel_) sn fuel_ _ X Y k C W U _ nextTail (by kernel_rfl) so av ms))))
theorem law_ok : LawOk law_ (cp gt_ fuel_) fuel_ where
  sn := snd_cp kin_ gt_ fuel_
  tB := t__law_begun
  tN := t__law_next
  kB := rfl
  kN := rfl
  nB := rfl
  pB := rfl
  nN := rfl
  pN := rfl
  gB := by kernel_rfl
  gN := by kernel_rfl
  iB := begun_is
  iN := next_is _
  ds := ds_ok
  law := by kernel_rfl

end RM
end
section
set_option Elab.async false
set_option linter.all false
set_option maxRecDepth 100000
set_option maxHeartbeats 0
set_option autoImplicit false
namespace RM
open PySem PySem.Spec PyProof.Rows L2
/-! ### the defs, one behind the other -/
def O0 : Orc := updO (updO failO "_law_begun" orcBegun) "_law_next" orcNext
def O1 : Orc := updO O0 "is_word" (d_is_word.run kin_ O0)
def O2 : Orc := updO O1 "are_ascending" (d_are_ascending.run kin_ O1)
def O3 : Orc := updO O2 "need_roads" (d_need_roads.run kin_ O2)
def O4 : Orc := updO O3 "is_lot" (d_is_lot.run kin_ O3)
def O5 : Orc := updO O4 "lots_with" (d_lots_with.run kin_ O4)
def O6 : Orc := updO O5 "couples" (d_couples.run kin_ O5)
def O7 : Orc := updO O6 "need_lots" (d_need_lots.run kin_ O6)
def O8 : Orc := updO O7 "lots_of" (d_lots_of.run kin_ O7)
def O9 : Orc := updO O8 "is_over" (d_is_over.run kin_ O8)
def O10 : Orc := updO O9 "_law_names" (d__law_names.run kin_ O9)
def O11 : Orc := updO O10 "_law_odd" (d__law_odd.run kin_ O10)
def O12 : Orc := updO O11 "_law_bent" (d__law_bent.run kin_ O11)
def O13 : Orc := updO O12 "_law_bent" (d__law_bent.run kin_ O12)
def O14 : Orc := updO O13 "_law_bent" (d__law_bent.run kin_ O13)
def O15 : Orc := updO O14 "_law_bent" (d__law_bent.run kin_ O14)
def O16 : Orc := updO O15 "_law_lots" (d__law_lots.run kin_ O15)
def O17 : Orc := updO O16 "_law_couples" (d__law_couples.run kin_ O16)
def O18 : Orc := updO O17 "_law_roads" (d__law_roads.run kin_ O17)
def O19 : Orc := updO O18 "_law_lots_drawn" (d__law_lots_drawn.run kin_ O18)
def O20 : Orc := updO O19 "_law_wrong" (d__law_wrong.run kin_ O19)
def O21 : Orc := updO O20 "_law_due" (d__law_due.run kin_ O20)
def O22 : Orc := updO O21 "Net" (d_Net.run kin_ O21)
def O23 : Orc := updO O22 "_law_told" (d__law_told.run kin_ O22)
def O24 : Orc := updO O23 "law" (d_law.run kin_ O23)
theorem orc_eq : law_.orc = O24 := rfl
theorem o1_is_word : O1 "is_word" = d_is_word.run kin_ O0 := by kernel_rfl
theorem o2_are_ascending : O2 "are_ascending" = d_are_ascending.run kin_ O1 := by kernel_rfl
theorem o3_are_ascending : O3 "are_ascending" = d_are_ascending.run kin_ O1 := by kernel_rfl
theorem o5_lots_with : O5 "lots_with" = d_lots_with.run kin_ O4 := by kernel_rfl
theorem o6_is_lot : O6 "is_lot" = d_is_lot.run kin_ O3 := by kernel_rfl
theorem o9__law_next : O9 "_law_next" = orcNext := by kernel_rfl
theorem o10__law_next : O10 "_law_next" = orcNext := by kernel_rfl
theorem o11__law_next : O11 "_law_next" = orcNext := by kernel_rfl
theorem o11__law_odd : O11 "_law_odd" = d__law_odd.run kin_ O10 := by kernel_rfl
theorem o12__law_bent : O12 "_law_bent" = d__law_bent.run kin_ O11 := by kernel_rfl
theorem o12__law_next : O12 "_law_next" = orcNext := by kernel_rfl
theorem o12__law_odd : O12 "_law_odd" = d__law_odd.run kin_ O10 := by kernel_rfl
theorem o13__law_bent : O13 "_law_bent" = d__law_bent.run kin_ O12 := by kernel_rfl
theorem o13__law_next : O13 "_law_next" = orcNext := by kernel_rfl
theorem o13__law_odd : O13 "_law_odd" = d__law_odd.run kin_ O10 := by kernel_rfl
theorem o14__law_bent : O14 "_law_bent" = d__law_bent.run kin_ O13 := by kernel_rfl
theorem o14__law_next : O14 "_law_next" = orcNext := by kernel_rfl
theorem o14__law_odd : O14 "_law_odd" = d__law_odd.run kin_ O10 := by kernel_rfl
theorem o17__law_names : O17 "_law_names" = d__law_names.run kin_ O9 := by kernel_rfl
theorem o17__law_next : O17 "_law_next" = orcNext := by kernel_rfl
theorem o18__law_next : O18 "_law_next" = orcNext := by kernel_rfl
theorem o19__law_couples : O19 "_law_couples" = d__law_couples.run kin_ O16 := by kernel_rfl
theorem o20__law_lots : O20 "_law_lots" = d__law_lots.run kin_ O15 := by kernel_rfl
theorem o20__law_wrong : O20 "_law_wrong" = d__law_wrong.run kin_ O19 := by kernel_rfl
theorem o21_couples : O21 "couples" = d_couples.run kin_ O5 := by kernel_rfl
theorem o21_is_over : O21 "is_over" = d_is_over.run kin_ O8 := by kernel_rfl
theorem o21_lots_of : O21 "lots_of" = d_lots_of.run kin_ O7 := by kernel_rfl
theorem o21_need_lots : O21 "need_lots" = d_need_lots.run kin_ O6 := by kernel_rfl
theorem o21_need_roads : O21 "need_roads" = d_need_roads.run kin_ O2 := by kernel_rfl
theorem o22_Net : O22 "Net" = d_Net.run kin_ O21 := by kernel_rfl
theorem o23__law_begun : O23 "_law_begun" = orcBegun := by kernel_rfl
theorem o23__law_bent : O23 "_law_bent" = d__law_bent.run kin_ O14 := by kernel_rfl
theorem o23__law_due : O23 "_law_due" = d__law_due.run kin_ O20 := by kernel_rfl
theorem o23__law_lots : O23 "_law_lots" = d__law_lots.run kin_ O15 := by kernel_rfl
theorem o23__law_lots_drawn : O23 "_law_lots_drawn" = d__law_lots_drawn.run kin_ O18 := by kernel_rfl
theorem o23__law_next : O23 "_law_next" = orcNext := by kernel_rfl
theorem o23__law_odd : O23 "_law_odd" = d__law_odd.run kin_ O10 := by kernel_rfl
theorem o23__law_roads : O23 "_law_roads" = d__law_roads.run kin_ O17 := by kernel_rfl
theorem o23__law_told : O23 "_law_told" = d__law_told.run kin_ O22 := by kernel_rfl
theorem o_law : O24 "law" = d_law.run kin_ O23 := by kernel_rfl
end RM
end
section
set_option Elab.async false
set_option linter.all false
set_option maxRecDepth 100000
set_option maxHeartbeats 1000000
set_option autoImplicit false
/-! the law of nets made: its value -/
namespace RM
open PySem PySem.Spec PyProof.Rows L2

/-! ### what the defs give -/
theorem v_is_word (x : D) (h : x.okW kin_ = true) : O1 "is_word" [x] = pure (.bl (isWd x)) := by
  rw [o1_is_word]
  obtain ⟨h1, h2⟩ := (Bool.and_eq_true _ _).mp h
  exact is_word_run h1 h2
theorem v_asc (d : D) (h : d.okT kin_ = true) : d_are_ascending.run kin_ O1 [d] = pure (.bl (isAsc d)) := are_ascending_run v_is_word h
theorem v_need_ok (d : D) (h : d.okT kin_ = true) (r : isRd d = true) : O21 "need_roads" [d] = pure d := by
  rw [o21_need_roads]
  exact need_roads_ok (by rfl) (by rw [o2_are_ascending]; exact v_asc d h) r
theorem v_need_no (d : D) (h : d.okT kin_ = true) (r : isRd d = false) : O21 "need_roads" [d] = M.raise (.exc "BadRoads" [("value", d)]) := by
  rw [o21_need_roads]
  exact need_roads_no (by rfl) (by rw [o2_are_ascending]; exact v_asc d h) r
section
variable {n : Nat} {nm : Nat → Str}
theorem v_is_lot {d : D} (h : d.okT kin_ = true) (hl : d.wt ≤ 100000) : O6 "is_lot" [roadsV n nm, d] = pure (.bl (isLotB (rdS n nm) d)) := by
  rw [o6_is_lot, roadsV_eq]
  exact is_lot_run (by rw [o3_are_ascending]; exact v_asc d h) hl
theorem v_names {X : D → Prop} (many : Nat) (h1 : 1 ≤ many) (h8 : many ≤ 8) : Tr 12 (d__law_names.run kin_ O9 [.drw, .int many]) (NamesOk many) X := names_tr o9__law_next h1 h8
theorem v_roads : Tr 13 (O23 "_law_roads" [.drw, .int 1, .int 7]) (fun d => ∃ n nm, 1 ≤ n ∧ n ≤ 7 ∧ Nm n nm ∧ d = roadsV n nm) noX := by
  rw [o23__law_roads]
  exact roads_tr (lo := 1) (hi := 7) o17__law_next (fun many h1 h8 => by rw [o17__law_names]; exact v_names many h1 h8) (by decide) (by decide) (by decide)
theorem v_odd : Tr 1 (d__law_odd.run kin_ O10 [.drw]) (Th oddB 20 2) noX := odd_tr o10__law_next
theorem v_bent0 {d : D} {B w e : Nat} (he : e ≤ 0) (hB : oddB ≤ B) (hw : w ≤ 500) (h : Th B w e d) : Tr 6 (d__law_bent.run kin_ O11 [.drw, d]) (Th (B + 10) (2 * w + 40) (e + 2)) noX :=
  bent_tr (j := 0) (c := 1) (by decide) o11__law_next (by rw [o11__law_odd]; exact v_odd) (fun _ _ _ e h => by omega) he hB hw h
theorem v_bent1 {d : D} {B w e : Nat} (he : e ≤ 1) (hB : oddB ≤ B) (hw : w ≤ 500) (h : Th B w e d) : Tr 11 (d__law_bent.run kin_ O12 [.drw, d]) (Th (B + 10) (2 * w + 40) (e + 2)) noX :=
  bent_tr (j := 1) (c := 6) (by decide) o12__law_next (by rw [o12__law_odd]; exact v_odd) (fun _ _ _ e h hB hw ht => by rw [o12__law_bent]; exact v_bent0 (by omega) hB hw ht) he hB hw h
theorem v_bent2 {d : D} {B w e : Nat} (he : e ≤ 2) (hB : oddB ≤ B) (hw : w ≤ 500) (h : Th B w e d) : Tr 16 (d__law_bent.run kin_ O13 [.drw, d]) (Th (B + 10) (2 * w + 40) (e + 2)) noX :=
  bent_tr (j := 2) (c := 11) (by decide) o13__law_next (by rw [o13__law_odd]; exact v_odd) (fun _ _ _ e h hB hw ht => by rw [o13__law_bent]; exact v_bent1 (by omega) hB hw ht) he hB hw h
theorem v_bent {d : D} {B w e : Nat} (he : e ≤ 3) (hB : oddB ≤ B) (hw : w ≤ 500) (h : Th B w e d) : Tr 21 (O23 "_law_bent" [.drw, d]) (Th (B + 10) (2 * w + 40) (e + 2)) noX := by
  rw [o23__law_bent]
  exact bent_tr (j := 3) (c := 16) (by decide) o14__law_next (by rw [o14__law_odd]; exact v_odd) (fun _ _ _ e h hB hw ht => by rw [o14__law_bent]; exact v_bent2 (by omega) hB hw ht) he hB hw h
theorem odd_here : Tr 1 (O23 "_law_odd" [.drw]) (Th oddB 20 2) noX := by rw [o23__law_odd]; exact v_odd
theorem v_drawn (N : Nm n nm) (hn : n ≤ 7) : Tr 14 (O23 "_law_lots_drawn" [.drw, roadsV n nm]) (fun d => ∃ ls, NetI n ls ∧ d = .lst (ls.map (lotV nm))) noX := by
  rw [o23__law_lots_drawn]
  exact lots_drawn_tr N hn o18__law_next
theorem v_lots (N : Nm n nm) (hn : n ≤ 7) : O23 "_law_lots" [roadsV n nm] = pure (.lst (((subsI n).mergeSort leL).map (lotV nm))) := by
  rw [o23__law_lots]
  exact law_lots_run N hn
theorem v_lots20 (N : Nm n nm) (hn : n ≤ 7) : O20 "_law_lots" [roadsV n nm] = pure (.lst (((subsI n).mergeSort leL).map (lotV nm))) := by
  rw [o20__law_lots]
  exact law_lots_run N hn
theorem need_here (N : Nm n nm) (h1 : 1 ≤ n) (hn : n ≤ 7) : O21 "need_roads" [roadsV n nm] = pure (roadsV n nm) := by
  have t : Th oddB 64 1 (roadsV n nm) := (th_lot N (B := oddB) (e := 0) bel_range).mono (Nat.le_refl _) (by rw [List.length_range]; omega) (Nat.le_refl _)
  exact v_need_ok _ (t.okT (by decide)) (isRd_roads N h1 hn)
theorem row_items' {d : D} {xs : List D} {B w e : Nat} (h : Th B w e d) (hd : d.row = some xs) : 1 ≤ w ∧ Ths B (w - 1) (e - 1) xs := by
  cases d with
  | tup ys => cases hd; obtain ⟨h1, _, h3⟩ := h.items; exact ⟨h1, h3⟩
  | lst ys => cases hd; obtain ⟨h1, _, h3⟩ := h.itemsL; exact ⟨h1, h3⟩
  | _ => cases hd
theorem repr_nat {kin : Kin} {j : Nat} (h : j ≤ 100000) : biD kin .repr [.int (j : Nat)] = some (.str (D.int (j : Nat)).pd.shown) :=
  Th.repr (B := 10 ^ 6) (w := 1) (e := 0) ⟨decide_eq_true (by omega), Nat.le_refl _, Nat.le_refl _⟩ (by decide) (by decide) (by decide)

/-! ### what is told -/
def told2 : Ss :=
  (.cons (.iff (.val (.bi (.isi [.b "list"]) (.cons (.b 2) .nil)))
  (.cons (.app 2 (.c (.int 5)))
  .nil)
  .nil)
  (.cons (.ret (.ife (.val (.cmp .Eq (.fld (.b 3) "roads") (.b 0))) (.lst (.cons (.fld (.b 3) "lots") .nil)) (.c (.str "lost"))))
  .nil))
theorem told_end (N : Nm n nm) {m : D} {s1 s2 s4 : Slot} {d : D} (h2 : (s2 = .val d ∧ d.basic kin_ = true ∧ (∀ ns, d ≠ .scr ns) ∧ ∀ xs, d ≠ .lst xs) ∨ ∃ xs, s2 = .own xs ∧ xs.length ≤ 100000) :
    evSs kin_ O22 told2 [.val (roadsV n nm), s1, s2, .val (.ins "Net" [("roads", roadsV n nm), ("lots", m)]), s4] = pure (.ret (.lst [m])) := by
  have hr : ∀ s2', evE kin_ O22 (.ife (.val (.cmp .Eq (.fld (.b 3) "roads") (.b 0))) (.lst (.cons (.fld (.b 3) "lots") .nil)) (.c (.str "lost"))) [.val (roadsV n nm), s1, s2', .val (.ins "Net" [("roads", roadsV n nm), ("lots", m)]), s4] = pure (.lst [m]) := fun s2' => by
    refine ev_ife (p := true) ?_ (fun _ => ev_lst (ev_es (ev_fld (ev_b rfl) (by rfl)) ev_es0) (sz (by simp))) fun z => by cases z
    refine (evQ_bl (ev_cmp (ev_fld (x := .ins "Net" [("roads", roadsV n nm), ("lots", m)]) (v := roadsV n nm) (ev_b rfl) (by rfl)) (ev_b rfl) (N.eq_lot bel_range bel_range))).trans ?_
    rw [decide_eq_true rfl]
  unfold told2
  rcases h2 with ⟨rfl, hb, hs, hl⟩ | ⟨xs, rfl, hl⟩
  · have test : evT kin_ O22 (.val (.bi (.isi [.b "list"]) (.cons (.b 2) .nil))) [.val (roadsV n nm), s1, .val d, .val (.ins "Net" [("roads", roadsV n nm), ("lots", m)]), s4] = pure false := by
      refine (evQ_bl (isList_run' (ev_b rfl) hb hs)).trans ?_
      cases d <;> first | rfl | exact absurd rfl (hl _)
    rw [iff_false test]
    exact ret_pure (hr _)
  · have test : evT kin_ O22 (.val (.bi (.isi [.b "list"]) (.cons (.b 2) .nil))) [.val (roadsV n nm), s1, .own xs, .val (.ins "Net" [("roads", roadsV n nm), ("lots", m)]), s4] = pure true := evQ_bl (isList_run' (ev_bo rfl) rfl (fun ns z => by cases z))
    rw [iff_true test, app_pure (xs := xs) rfl ev_c (by have := sizeLine_eq; omega), nil_nx]
    exact ret_pure (hr _)
/-- the list that is handed over -/
theorem handed {d r : D} (h : ThL d) : ∃ s2, (∀ q, evSs kin_ O22 (.cons (.ifo 2 (.val (.bi (.isi [.b "list"]) (.cons (.b 1) .nil))) (.bi .list (.cons (.b 1) .nil)) (.v 1)) q) [.val r, .val d, .emp, .emp, .emp] = evSs kin_ O22 q [.val r, .val d, s2, .emp, .emp]) ∧
      frzE [2] [Slot.val r, .val d, s2, .emp, .emp] = [.val r, .val d, .val d, .emp, .emp] ∧ ((s2 = .val d ∧ d.basic kin_ = true ∧ (∀ ns, d ≠ .scr ns) ∧ ∀ xs, d ≠ .lst xs) ∨ ∃ xs, s2 = .own xs ∧ xs.length ≤ 100000) := by
  have hb : d.basic kin_ = true := fine_basic h.fine
  have hsc := fine_scr h.fine
  have test : evT kin_ O22 (.val (.bi (.isi [.b "list"]) (.cons (.b 1) .nil))) [.val r, .val d, .emp, .emp, .emp] = pure d.isLst := evQ_bl (isList_run' (ev_b rfl) hb hsc)
  by_cases hl : ∃ xs, d = .lst xs
  · obtain ⟨xs, rfl⟩ := hl
    obtain ⟨_, _, hx⟩ := h.itemsL
    exact ⟨.own xs, fun r => ifo_new test (ev_bi1 (ev_b rfl) list_lst), rfl, .inr ⟨xs, rfl, by have := hx.len; omega⟩⟩
  · have hl' : ∀ xs, d ≠ .lst xs := fun xs e => hl ⟨xs, e⟩
    refine ⟨.val d, fun r => ifo_val (test.trans ?_) (ev_v rfl), rfl, .inl ⟨rfl, hb, hsc, hl'⟩⟩
    cases d <;> first | rfl | exact absurd rfl (hl' _)
theorem told_raise {d r pl : D} {z f w c : Str} (h : ThL d) (hm : O22 "Net" [r, d] = M.raise (.exc c [(f, pl)])) (hc : (c = "BadNet" ∧ f = "place" ∧ w = "net") ∨ (c = "BadRoads" ∧ f = "value" ∧ w = "roads")) (hz : biD kin_ .repr [pl] = some (.str z)) : O23 "_law_told" [r, d] = pure (.tup [.str w, .str z]) := by
  rw [o23__law_told]
  show runF kin_ O22 3 c__law_told [r, d] = _
  refine run_ret ?_
  show evSs kin_ O22 c__law_told [.val r, .val d, .emp, .emp, .emp] = _
  unfold c__law_told
  obtain ⟨s2, first, fz, _⟩ := handed (r := r) h
  rw [first]
  have arg : evEs kin_ O22 (.cons (.v 0) (.cons (.v 2) .nil)) [.val r, .val d, .val d, .emp, .emp] = pure [r, d] := ev_es (ev_v rfl) (ev_es (ev_v rfl) ev_es0)
  have t := brw_raise (kin := kin_) (C := O22) (is := [2]) (p := [3]) (r := .nil) (e := .app "Net" (.cons (.v 0) (.cons (.v 2) .nil))) (ρ := [.val r, .val d, s2, .emp, .emp]) (by rw [fz]; exact app_raise arg hm)
  rw [fz] at t
  rcases hc with ⟨rfl, rfl, rfl⟩ | ⟨rfl, rfl, rfl⟩
  · have hd : evSs kin_ O22 (.cons (.ret (.tup (.cons (.c (.str "net")) (.cons (.bi .repr (.cons (.xfl 4 "place") .nil)) .nil)))) .nil) (exnF (some 4) (.exc "BadNet" [("place", pl)]) [.val r, .val d, .val d, .emp, .emp]) = pure (.ret (.tup [.str "net", .str z])) :=
      ret_pure (ev_tup (ev_es ev_c (ev_es (ev_bi1 (ev_xfl (x := .exc "BadNet" [("place", pl)]) (v := pl) rfl (by rfl)) hz) ev_es0)) (sz (by simp)))
    rw [try_exc t, hs_hit (by rfl) (by rfl) (by rfl) hd (fun _ _ z => by cases z)]
    rfl
  · have hd : evSs kin_ O22 (.cons (.ret (.tup (.cons (.c (.str "roads")) (.cons (.bi .repr (.cons (.xfl 4 "value") .nil)) .nil)))) .nil) (exnF (some 4) (.exc "BadRoads" [("value", pl)]) [.val r, .val d, .val d, .emp, .emp]) = pure (.ret (.tup [.str "roads", .str z])) :=
      ret_pure (ev_tup (ev_es ev_c (ev_es (ev_bi1 (ev_xfl (x := .exc "BadRoads" [("value", pl)]) (v := pl) rfl (by rfl)) hz) ev_es0)) (sz (by simp)))
    rw [try_exc t, hs_miss (by rfl) (by rfl) (by rfl), hs_hit (by rfl) (by rfl) (by rfl) hd (fun _ _ z => by cases z)]
    rfl
theorem told_ok (N : Nm n nm) {d : D} {ls : List (List Nat)} (h : ThL d) (hm : O22 "Net" [roadsV n nm, d] = pure (.ins "Net" [("roads", roadsV n nm), ("lots", .tup (ls.map (lotV nm)))])) : O23 "_law_told" [roadsV n nm, d] = pure (.lst [.tup (ls.map (lotV nm))]) := by
  rw [o23__law_told]
  show runF kin_ O22 3 c__law_told [roadsV n nm, d] = _
  refine run_ret ?_
  show evSs kin_ O22 c__law_told [.val (roadsV n nm), .val d, .emp, .emp, .emp] = _
  unfold c__law_told
  obtain ⟨s2, first, fz, s2k⟩ := handed (r := roadsV n nm) h
  rw [first]
  have arg : evEs kin_ O22 (.cons (.v 0) (.cons (.v 2) .nil)) [.val (roadsV n nm), .val d, .val d, .emp, .emp] = pure [roadsV n nm, d] := ev_es (ev_v rfl) (ev_es (ev_v rfl) ev_es0)
  have nl : (D.ins "Net" [("roads", roadsV n nm), ("lots", .tup (ls.map (lotV nm)))]).noLst = true := by
    show (D.noLst (roadsV n nm) && (D.noLst (.tup (ls.map (lotV nm))) && true)) = true
    rw [Bool.and_true, Bool.and_eq_true]
    exact ⟨by rw [D.noLst]; exact noLst_lot _, by rw [D.noLst]; exact noLst_lots _⟩
  have t := brw_ok (kin := kin_) (C := O22) (is := [2]) (p := [3]) (r := .nil) (e := .app "Net" (.cons (.v 0) (.cons (.v 2) .nil))) (ρ := [.val (roadsV n nm), .val d, s2, .emp, .emp]) (v := .ins "Net" [("roads", roadsV n nm), ("lots", .tup (ls.map (lotV nm)))])
    (ρ1 := [.val (roadsV n nm), .val d, s2, .val (.ins "Net" [("roads", roadsV n nm), ("lots", .tup (ls.map (lotV nm)))]), .emp]) (by rw [fz]; exact ev_app arg hm) (by rw [nl]; rfl)
  rw [evSs_nil] at t
  rw [try_ok t]
  exact told_end N s2k
end
end RM
end
section
set_option Elab.async false
set_option linter.all false
set_option maxRecDepth 100000
set_option maxHeartbeats 1000000
set_option autoImplicit false
/-! the law of nets made: told and due -/
namespace RM
open PySem PySem.Spec PyProof.Rows L2
section
variable {n : Nat} {nm : Nat → Str}
theorem ths_lots7 (N : Nm n nm) (hn : n ≤ 7) {B : Nat} {ls : List (List Nat)} (hb : ∀ l ∈ ls, Bel n l ∧ l.Pairwise (· < ·)) : Ths B (64 * ls.length) 1 (ls.map (lotV nm)) :=
  ths_lots N (B := B) (e := 0) (k := 7) fun l hl => ⟨(hb l hl).1, Nat.le_trans (pw_len (hb l hl).2 (hb l hl).1) hn⟩
def dueNet : Ss :=
  (.cons (.asg [6] (.app "_law_wrong" (.cons (.v 0) (.cons (.v 1) .nil))))
  (.cons (.ret (.ife (.val (.cmp .Is (.b 6) (.c .non))) (.lst (.cons (.bi .tuple (.cons (.bi .sorted (.cons (.b 1) .nil)) .nil)) .nil)) (.tup (.cons (.c (.str "net")) (.cons (.bi .repr (.cons (.b 6) .nil)) .nil)))))
  .nil))
/-- the names of all lots of two or more, the loop over the items -/
theorem due_loop (N : Nm n nm) (hn : n ≤ 7) {d : D} {xs : List D} (h : ThL d) (hd : d.row = some xs) : ∃ names : D, match firstB (badN (rdS n nm)) 0 xs with
    | some (j, _) => O23 "_law_due" [roadsV n nm, d] = pure (.tup [.str "net", .str (D.int (j : Nat)).pd.shown])
    | none => ∃ s4 s5, ∀ v, evSs kin_ O20 dueNet [.val (roadsV n nm), .val d, .val names, .emp, s4, s5, .emp] = pure (.ret v) → O23 "_law_due" [roadsV n nm, d] = pure v := by
  have hb : d.basic kin_ = true := fine_basic h.fine
  have hsc := fine_scr h.fine
  obtain ⟨_, hx⟩ := row_items' h hd
  have hxl := hx.len
  have test : evT kin_ O20 (.not (.val (.bi (.isi [.b "list", .b "tuple"]) (.cons (.b 1) .nil)))) [.val (roadsV n nm), .val d, .emp, .emp, .emp, .emp, .emp] = pure false :=
    evQ_not (p := true) (evQ_bl ((isi2_run (ev_b rfl) hb).trans (by rw [isi_row hsc, hd]; rfl)))
  have pw : ∀ i, i ≤ 7 → 2 ^ i ≤ 128 := by decide
  have sl : ((subsI n).mergeSort leL).length ≤ 128 := by
    rw [List.length_mergeSort, subs_len]
    exact pw n hn
  have smem : ∀ l, l ∈ (subsI n).mergeSort leL ↔ Bel n l ∧ l.Pairwise (· < ·) := fun l => by rw [(List.mergeSort_perm _ leL).mem_iff, mem_subs]
  have hK := v_lots20 N hn
  generalize (subsI n).mergeSort leL = S at sl smem hK
  generalize hL : (S.filter fun l => decide (1 < l.length)) = L
  have Lmem : ∀ l, l ∈ L ↔ Bel n l ∧ l.Pairwise (· < ·) ∧ 2 ≤ l.length := fun l => by
    rw [← hL, List.mem_filter, smem]
    simp only [decide_eq_true_eq]
    exact ⟨fun ⟨⟨a, b⟩, c⟩ => ⟨a, b, c⟩, fun ⟨a, b, c⟩ => ⟨⟨a, b⟩, c⟩⟩
  generalize hnames : L.map (fun l => (lotV nm l).pd.shown) = names
  have e2 : evE kin_ O20 (.lc [3] [3] (.seq (.app "_law_lots" (.cons (.v 0) .nil))) (.val (.cmp .Gt (.bi .len (.cons (.b 3) .nil)) (.c (.int 1)))) (.bi .repr (.cons (.b 3) .nil))) [.val (roadsV n nm), .val d, .emp, .emp, .emp, .emp, .emp] = pure (.lst (names.map D.str)) := by
    refine (lc_map (ls := S) (v := lotV nm) (fun l => if decide (1 < l.length) then some (.str (lotV nm l).pd.shown) else none) (evI_seq (ev_app (ev_es (ev_v rfl) ev_es0) hK) rfl) (sz (by omega)) fun l hl => ?_).trans ?_
    · refine lcF_q (ρ1 := [.val (roadsV n nm), .val d, .emp, .val (lotV nm l), .emp, .emp, .emp]) rfl ((evQ_bl (ev_cmp (ev_bi1 (ev_b rfl) len_tup) ev_c (gt_int _ _))).trans ?_) fun _ => ev_bi1 (ev_b rfl) (thl_repr ?_)
      · congr 1
        rw [List.length_map]
        congr 1
        simp only [eq_iff_iff]
        omega
      · obtain ⟨lb, lp⟩ := (smem l).mp hl
        exact up (th_lot N (B := oddB) (e := 0) lb) (by decide) (by have := pw_len lp lb; omega) (by decide)
    · rw [fm_if, hL, ← hnames, List.map_map]; rfl
  refine ⟨.lst (names.map D.str), ?_⟩
  have loop := frl_exitE (kin := kin_) (C := O20) (p := [4, 5]) (it := .enum (.v 1)) (xs := xs) (ρ := [.val (roadsV n nm), .val d, .val (.lst (names.map D.str)), .emp, .emp, .emp, .emp])
    (b := (.cons (.iff (.val (.cmp .NotIn (.bi .repr (.cons (.b 5) .nil)) (.b 2))) (.cons (.ret (.tup (.cons (.c (.str "net")) (.cons (.bi .repr (.cons (.b 4) .nil)) .nil)))) .nil) .nil) .nil))
    (r := dueNet) (fun i ρ => ∃ s4 s5, ρ = [.val (roadsV n nm), .val d, .val (.lst (names.map D.str)), .emp, s4, s5, .emp])
    (badN (rdS n nm)) (fun j _ o => o = .ret (.tup [.str "net", .str (D.int (j : Nat)).pd.shown])) (fun _ _ o e => by subst e; trivial)
    (row_enum hd (ev_v rfl)) ⟨.emp, .emp, rfl⟩ fun i x ρ hx' ⟨s4, s5, e⟩ => by
      subst e
      have hil : i < xs.length := (List.getElem?_eq_some_iff.mp hx').1
      refine ⟨[.val (roadsV n nm), .val d, .val (.lst (names.map D.str)), .emp, .val (.int (i : Nat)), .val x, .emp], rfl, ?_⟩
      have tx := hx.mem hx'
      have test : evT kin_ O20 (.val (.cmp .NotIn (.bi .repr (.cons (.b 5) .nil)) (.b 2))) [.val (roadsV n nm), .val d, .val (.lst (names.map D.str)), .emp, .val (.int (i : Nat)), .val x, .emp] = pure (badN (rdS n nm) i x) := by
        refine (evQ_bl (ev_cmp (ev_bi1 (ev_b rfl) (thl_repr (up tx (by decide) (by decide) (by decide)))) (ev_b rfl) (notin_strsL _ _))).trans ?_
        unfold badN
        rw [← hnames, shown_lot2 N tx.fine Lmem]
      cases hb : badN (rdS n nm) i x with
      | true =>
        rw [hb] at test
        rw [if_pos rfl, iff_true test, ret_pure (ev_tup (ev_es ev_c (ev_es (ev_bi1 (ev_b rfl) (repr_nat (by omega))) ev_es0)) (sz (by simp)))]
        exact ⟨_, rfl, rfl⟩
      | false =>
        rw [hb] at test
        rw [if_neg (by decide), iff_false test, evSs_nil]
        exact ⟨_, rfl, _, _, rfl⟩
  have start : ∀ {v}, evSs kin_ O20 (.cons (.frl [4, 5] (.enum (.v 1)) (.cons (.iff (.val (.cmp .NotIn (.bi .repr (.cons (.b 5) .nil)) (.b 2))) (.cons (.ret (.tup (.cons (.c (.str "net")) (.cons (.bi .repr (.cons (.b 4) .nil)) .nil)))) .nil) .nil) .nil)) dueNet) [.val (roadsV n nm), .val d, .val (.lst (names.map D.str)), .emp, .emp, .emp, .emp] = pure (.ret v) → O23 "_law_due" [roadsV n nm, d] = pure v := fun {v} e => by
    rw [o23__law_due]
    show runF kin_ O20 5 c__law_due [roadsV n nm, d] = _
    refine run_ret ?_
    show evSs kin_ O20 c__law_due [.val (roadsV n nm), .val d, .emp, .emp, .emp, .emp, .emp] = _
    unfold c__law_due
    rw [iff_false test, asg_pure (ρ1 := [.val (roadsV n nm), .val d, .val (.lst (names.map D.str)), .emp, .emp, .emp, .emp]) e2 rfl]
    exact e
  cases hfb : firstB (badN (rdS n nm)) 0 xs with
  | some p =>
    obtain ⟨j, x⟩ := p
    rw [hfb] at loop
    obtain ⟨o, e, rfl⟩ := loop
    exact start e
  | none =>
    rw [hfb] at loop
    obtain ⟨ρ', e, s4, s5, rfl⟩ := loop
    exact ⟨s4, s5, fun v hv => start (e.trans hv)⟩
theorem th_nat {j : Nat} (hj : j ≤ 100000) : Th (10 ^ 40) 70 0 (.str (D.int (j : Nat)).pd.shown) := by
  have f : (D.int (j : Nat)).fine (10 ^ 40) = true := decide_eq_true (by omega)
  have sl := shown_le f
  refine ⟨?_, ?_, Nat.zero_le _⟩
  · show (D.int (j : Nat)).pd.shown.cps.toList.all okCh = true
    rw [List.all_eq_true]
    intro c hc
    have hc : c ∈ (Str.ofString (toString (j : Int))).cps.toList := hc
    rw [Str.ofString_eq_toList] at hc
    simp only [List.mem_map] at hc
    obtain ⟨k, hk, rfl⟩ := hc
    rw [Int.toString_eq_repr, Int.repr_eq_if, if_pos (by omega)] at hk
    rw [Nat.toList_repr] at hk
    have hdg := Nat.isDigit_of_mem_toDigits (by decide) (by decide) hk
    simp only [Char.isDigit, Bool.and_eq_true, decide_eq_true_eq] at hdg
    have e : k.val.toNat = k.toNat := rfl
    have h2 : 48 ≤ k.val.toNat := by simpa using UInt32.le_iff_toNat_le.mp hdg.1
    have h3 : k.val.toNat ≤ 57 := by simpa using UInt32.le_iff_toNat_le.mp hdg.2
    unfold okCh
    simp only [Bool.or_eq_true, beq_iff_eq, Bool.and_eq_true, decide_eq_true_eq]
    omega
  · show (D.int (j : Nat)).pd.shown.length + 1 ≤ 70
    have : (D.int (j : Nat)).wt = 1 := rfl
    omega
theorem reprOk_pair {a b : Str} (ha : a.length ≤ 1000) (hb : b.length ≤ 100000) (h1 : ∀ c ∈ a.cps.toList, c < 16 ^ 8) (h2 : ∀ c ∈ b.cps.toList, c < 16 ^ 8) : ∃ z, biD kin_ .repr [.tup [.str a, .str b]] = some (.str z) := by
  refine ⟨_, if_pos ?_⟩
  have q1 := StrLaws.reprText_len a h1
  have q2 := StrLaws.reprText_len b h2
  have hz := sizeLine_eq
  unfold reprOk
  have e : (D.tup [.str a, .str b]).pd.shown.length ≤ 10 * a.length + 10 * b.length + 20 := by
    have := tupleText_le (PyData.shownAll (D.pds [.str a, .str b]))
    show (PySem.tupleText (PyData.shownAll (D.pds [.str a, .str b]))).length ≤ _
    have e2 : PySem.piled (PyData.shownAll (D.pds [.str a, .str b])) = ((PySem.reprText a).length + 2) + (((PySem.reprText b).length + 2) + 0) := rfl
    omega
  simp only [Bool.and_eq_true, decide_eq_true_eq]
  refine ⟨⟨⟨rfl, by rfl⟩, by show 1 ≤ 64; decide⟩, by omega⟩
/-- signs of what is shown of words -/
theorem shown_small {d : D} (h : d.fine (10 ^ 40) = true) (hs : ∀ c ∈ shL d, c < 16 ^ 8) (hw : d.wt ≤ 1000) : ∃ z, biD kin_ .repr [.tup [.str "net", .str d.pd.shown]] = some (.str z) := by
  have := shown_le h
  exact reprOk_pair (by decide) (by omega) (by decide) hs
theorem shL_lot_small (N : Nm n nm) {l : List Nat} (hb : Bel n l) : ∀ c ∈ shL (lotV nm l), c < 16 ^ 8 := by
  intro c hc
  rw [shL_tup] at hc
  have key : ∀ {ts : List (List Nat)}, (∀ t ∈ ts, ∀ c ∈ t, c < 16 ^ 8) → ∀ c ∈ jn ts, c < 16 ^ 8 := by
    intro ts
    induction ts with
    | nil => intro _ c hc; cases hc
    | cons t ts ih =>
      intro h c hc
      cases ts with
      | nil => exact h t List.mem_cons_self c hc
      | cons u ts =>
        rw [jn_cons] at hc
        rcases List.mem_append.mp hc with z | z
        · exact h t List.mem_cons_self c z
        · rcases List.mem_cons.mp z with rfl | z
          · decide
          · rcases List.mem_cons.mp z with rfl | z
            · decide
            · exact ih (fun t ht => h t (List.mem_cons_of_mem _ ht)) c z
  rcases List.mem_cons.mp hc with rfl | hc
  · decide
  · rcases List.mem_append.mp hc with z | z
    · refine key (fun t ht => ?_) c z
      obtain ⟨d, hd, rfl⟩ := List.mem_map.mp ht
      obtain ⟨i, hi, rfl⟩ := List.mem_map.mp hd
      have hw := word_ok (N.w i (hb i hi))
      rw [shL_str hw]
      intro c hc
      rcases List.mem_cons.mp hc with rfl | hc
      · decide
      · rcases List.mem_append.mp hc with z | z
        · have := okCh_lt (List.all_eq_true.mp hw c z)
          omega
        · have : c = 39 := by simpa using z
          omega
    · split at z
      · simp only [List.mem_cons, List.not_mem_nil, or_false] at z
        omega
      · have : c = 41 := by simpa using z
        omega
/-- told and due agree -/
theorem both_run (N : Nm n nm) (h1 : 1 ≤ n) (hn : n ≤ 7) {d : D} (h : ThL d) : ∃ v z, O23 "_law_told" [roadsV n nm, d] = pure v ∧ O23 "_law_due" [roadsV n nm, d] = pure v ∧ biD kin_ .repr [v] = some (.str z) := by
  have hb : d.basic kin_ = true := fine_basic h.fine
  have hsc := fine_scr h.fine
  have hneed := need_here N h1 hn
  have ini : kin_.ini "BadNet" = some ("place" : Str) := by rfl
  cases hd : d.row with
  | none =>
    have hl : O21 "need_lots" [roadsV n nm, d] = M.raise (.exc "BadNet" [("place", .non)]) := by
      rw [o21_need_lots]
      exact need_lots_form ini hb hsc hd
    have hm : O22 "Net" [roadsV n nm, d] = M.raise (.exc "BadNet" [("place", .non)]) := by
      rw [o22_Net]
      exact net_raise hneed hl
    have test : evT kin_ O20 (.not (.val (.bi (.isi [.b "list", .b "tuple"]) (.cons (.b 1) .nil)))) [.val (roadsV n nm), .val d, .emp, .emp, .emp, .emp, .emp] = pure true :=
      evQ_not (p := false) (evQ_bl ((isi2_run (ev_b rfl) hb).trans (by rw [isi_row hsc, hd]; rfl)))
    obtain ⟨z, hz⟩ := reprOk_pair (a := "net") (b := "None") (by decide) (by decide) (by decide) (by decide)
    refine ⟨.tup [.str "net", .str "None"], z, told_raise h hm (.inl ⟨rfl, rfl, rfl⟩) (by rfl), ?_, hz⟩
    rw [o23__law_due]
    show runF kin_ O20 5 c__law_due [roadsV n nm, d] = _
    refine run_ret ?_
    show evSs kin_ O20 c__law_due [.val (roadsV n nm), .val d, .emp, .emp, .emp, .emp, .emp] = _
    unfold c__law_due
    rw [iff_true test, ret_pure (ev_tup (ev_es ev_c (ev_es ev_c ev_es0)) (sz (by simp)))]
    rfl
  | some xs =>
    obtain ⟨_, hx⟩ := row_items' h hd
    have hxl := hx.len
    have hlot : ∀ x ∈ xs, O6 "is_lot" [roadsV n nm, x] = pure (.bl (isLotB (rdS n nm) x)) := fun x hx' => by
      obtain ⟨i, hi⟩ := List.mem_iff_getElem?.mp hx'
      have t := hx.mem hi
      exact v_is_lot (t.okT (by decide)) (by have := t.wt; omega)
    have hl := need_lots_run (kin := kin_) (C := O6) N ini hd (by omega) hlot
    rw [show runF kin_ O6 2 c_need_lots [roadsV n nm, d] = O21 "need_lots" [roadsV n nm, d] from (by rw [o21_need_lots]; rfl)] at hl
    obtain ⟨names, due⟩ := due_loop N hn h hd
    cases hfb : firstB (badN (rdS n nm)) 0 xs with
    | some p =>
      obtain ⟨j, x⟩ := p
      rw [hfb] at hl due
      have hj := firstB_le hfb
      have hm : O22 "Net" [roadsV n nm, d] = M.raise (.exc "BadNet" [("place", .int (j : Nat))]) := by
        rw [o22_Net]
        exact net_raise hneed hl
      have t1 := th_nat (j := j) (by omega)
      have t0 : Th (10 ^ 40) 4 0 (.str "net") := ⟨by rfl, by decide, Nat.zero_le _⟩
      exact ⟨_, _, told_raise h hm (.inl ⟨rfl, rfl, rfl⟩) (repr_nat (by omega)), due, Th.repr (kin := kin_) (Th.tup (Ths.cons t0 (Ths.cons t1 Ths.nil : Ths (10 ^ 40) (70 + 0) 0 _))) (Nat.le_refl _) (by decide) (by decide)⟩
    | none =>
      rw [hfb] at hl due
      obtain ⟨s4, s5, due⟩ := due
      obtain ⟨ls, e3, hm⟩ := lots2_of N (xs := xs) fun y hy => by
        obtain ⟨k, hk, e⟩ := List.mem_iff_getElem.mp hy
        have := firstB_none hfb k y (by rw [List.getElem?_eq_getElem hk, e])
        unfold badN at this
        simpa using this
      subst e3
      have lb : ∀ l ∈ ls, Bel n l := fun l hl => (hm l hl).1
      have ll : ls.length ≤ 1999 := by rw [List.length_map] at hxl; exact hxl
      have hw : O20 "_law_wrong" [roadsV n nm, d] = pure ((wrongD nm n ls).getD .non) := by
        rw [o20__law_wrong]
        exact law_wrong_run N hd lb (by omega) (by rw [o19__law_couples]; exact law_couples_run N hn)
      have net := net_run (C := O21) N hn ini (by rfl) hneed hd lb (by omega) hl (fun i hi => by rw [o21_lots_of]; exact lots_of_run N lb (by omega) hd hi) (fun q hq => by rw [o21_is_over]; exact is_over_run N lb (by omega) hd hq)
        (by rw [o21_couples]; exact couples_run N hn (by rw [o5_lots_with]; exact lots_with_run N hn (k := 2) (by decide)))
      rw [show runI kin_ O21 "Net" 2 c_Net [roadsV n nm, d] = O22 "Net" [roadsV n nm, d] from (by rw [o22_Net]; rfl)] at net
      have hs : biD kin_ .sorted [d] = some (.lst ((ls.mergeSort leL).map (lotV nm))) := by
        have := N.sorted_lots (kin := kin_) lb
        rw [← this]
        show ((itemsD d).bind fun xs => if sortable xs then some (D.lst (xs.mergeSort leD)) else none) = ((itemsD (.lst (ls.map (lotV nm)))).bind fun xs => if sortable xs then some (D.lst (xs.mergeSort leD)) else none)
        rw [row_items hd]
        rfl
      have dueW : ∀ p, wrongD nm n ls = some p → p ≠ .non → (∃ z, biD kin_ .repr [p] = some (.str z)) → cmpD .Is p .non = some (.bl false) → ∀ z, biD kin_ .repr [p] = some (.str z) → O23 "_law_due" [roadsV n nm, d] = pure (.tup [.str "net", .str z]) := fun p hp _ _ his z hz => by
        rw [hp] at hw
        have hw : O20 "_law_wrong" [roadsV n nm, d] = pure p := hw
        refine due _ ?_
        unfold dueNet
        rw [asg_pure (ρ1 := [.val (roadsV n nm), .val d, .val names, .emp, s4, s5, .val p]) (ev_app (ev_es (ev_v rfl) (ev_es (ev_v rfl) ev_es0)) hw) rfl]
        exact ret_pure (ev_ife (p := false) (evQ_bl (ev_cmp (ev_b rfl) ev_c his)) (fun z => by cases z) fun _ => ev_tup (ev_es ev_c (ev_es (ev_bi1 (ev_b rfl) hz) ev_es0)) (sz (by simp)))
      cases hwd : wrongD nm n ls with
      | none =>
        rw [hwd] at net hw
        have hw : O20 "_law_wrong" [roadsV n nm, d] = pure .non := hw
        have t2 : Th oddB 130000 3 (.lst [.tup ((ls.mergeSort leL).map (lotV nm))]) := by
          have t := ths_lots7 N hn (B := oddB) (ls := ls.mergeSort leL) fun l hl => by
            have := hm l ((List.mergeSort_perm ls leL).mem_iff.mp hl)
            exact ⟨this.1, this.2.1⟩
          rw [List.length_mergeSort] at t
          exact (Th.lst (Ths.cons (Th.tup t) Ths.nil : Ths oddB (64 * ls.length + 1 + 0) 2 _)).mono (Nat.le_refl _) (by omega) (Nat.le_refl _)
        refine ⟨.lst [.tup ((ls.mergeSort leL).map (lotV nm))], _, told_ok N h net, due _ ?_, t2.repr (by decide) (by decide) (by decide)⟩
        unfold dueNet
        rw [asg_pure (ρ1 := [.val (roadsV n nm), .val d, .val names, .emp, s4, s5, .val .non]) (ev_app (ev_es (ev_v rfl) (ev_es (ev_v rfl) ev_es0)) hw) rfl]
        exact ret_pure (ev_ife (p := true) (evQ_bl (ev_cmp (ev_b rfl) ev_c rfl)) (fun _ => ev_lst (ev_es (ev_bi1 (ev_bi1 (ev_b rfl) hs) tuple_lst) ev_es0) (sz (by simp))) fun z => by cases z)
      | some p =>
        rw [hwd] at net
        -- a road or a couple
        have kind : (∃ i, i < n ∧ p = roadV nm i) ∨ ∃ c, c ∈ couplesI n ∧ p = lotV nm c := by
          unfold wrongD at hwd
          split at hwd
          · rename_i i hi
            cases hwd
            exact .inl ⟨i, List.mem_range.mp (List.mem_of_find?_eq_some hi), rfl⟩
          · split at hwd
            · rename_i c hc
              cases hwd
              exact .inr ⟨c, List.mem_of_find?_eq_some hc, rfl⟩
            · cases hwd
        rcases kind with ⟨i, hi, rfl⟩ | ⟨c, hc, rfl⟩
        · have tp : Th oddB 9 0 (roadV nm i) := th_word (N.w i hi)
          have hz := thl_repr (kin := kin_) (up tp (by decide) (by decide) (by decide))
          obtain ⟨z, hz2⟩ := shown_small (d := roadV nm i) (fine_le (by decide) tp.fine) (fun c hc => by
            have hw := word_ok (N.w i hi)
            rw [shL_str hw] at hc
            rcases List.mem_cons.mp hc with rfl | hc
            · decide
            · rcases List.mem_append.mp hc with z | z
              · have := okCh_lt (List.all_eq_true.mp hw c z)
                omega
              · have : c = 39 := by simpa using z
                omega) (by have := tp.wt; omega)
          exact ⟨_, z, told_raise h net (.inl ⟨rfl, rfl, rfl⟩) hz, dueW _ hwd (fun z => by cases z) ⟨_, hz⟩ rfl _ hz, hz2⟩
        · obtain ⟨cb, c2, _⟩ := couple_bel hc
          have tp : Th oddB 19 1 (lotV nm c) := (th_lot N (B := oddB) (e := 0) cb).mono (Nat.le_refl _) (by rw [c2]; decide) (Nat.le_refl _)
          have hz := thl_repr (kin := kin_) (up tp (by decide) (by decide) (by decide))
          obtain ⟨z, hz2⟩ := shown_small (d := lotV nm c) (fine_le (by decide) tp.fine) (shL_lot_small N cb) (by have := tp.wt; omega)
          exact ⟨_, z, told_raise h net (.inl ⟨rfl, rfl, rfl⟩) hz, dueW _ hwd (fun z => by cases z) ⟨_, hz⟩ rfl _ hz, hz2⟩
theorem told_roads {r : D} (h : ThL r) (hr : isRd r = false) : O23 "_law_told" [r, .int 5] = pure (.tup [.str "roads", .str r.pd.shown]) := by
  have hm : O22 "Net" [r, .int 5] = M.raise (.exc "BadRoads" [("value", r)]) := by
    rw [o22_Net]
    exact net_roads (v_need_no r (h.okT (by decide)) hr)
  exact told_raise ⟨by rfl, by decide, Nat.zero_le _⟩ hm (.inr ⟨rfl, rfl, rfl⟩) (thl_repr h)
end
end RM
end
section
set_option Elab.async false
set_option linter.all false
set_option maxRecDepth 100000
set_option maxHeartbeats 1000000
set_option autoImplicit false
/-! the law of nets made: a turn, the whole -/
namespace RM
open PySem PySem.Spec PyProof.Rows L2
section
variable {n : Nat} {nm : Nat → Str} {ρ : Fe}
theorem net_few (hn : n ≤ 7) {ls : List (List Nat)} (I : NetI n ls) : Ths oddB 896 1 (([] : List D)) := Ths.nil.mono (Nat.le_refl _) (Nat.zero_le _) (Nat.le_refl _)
theorem ths_net (N : Nm n nm) (hn : n ≤ 7) {ls : List (List Nat)} (I : NetI n ls) : Ths oddB 896 1 (ls.map (lotV nm)) := by
  have := ths_lots7 N hn (B := oddB) (ls := ls) fun l hl => ⟨(I.l2 l hl).2.2, (I.l2 l hl).2.1⟩
  have few := I.few
  exact this.mono (Nat.le_refl _) (by omega) (Nat.le_refl _)
theorem th_any (N : Nm n nm) (hn : n ≤ 7) {l : List Nat} (hb : Bel n l) (hp : l.Pairwise (· < ·)) : Th oddB 64 1 (lotV nm l) := (th_lot N (B := oddB) (e := 0) hb).mono (Nat.le_refl _) (by have := pw_len hp hb; omega) (Nat.le_refl _)
def eSome : Es := (.cons (.v 4) (.cons (.bi .tuple (.cons (.b 4) .nil)) (.cons (.bk (.b 4) (.c .non) (.c .non)) (.cons (.bin .Add (.b 4) (.sl (.b 4) (.c .non) (.bnd (.c (.int 1))))) (.cons (.lst .nil) (.cons (.tup .nil) (.cons (.c .non) (.cons (.c (.int 5)) (.cons .dct0 (.cons (.c (.str "lots")) (.cons (.app "_law_odd" (.cons (.v 1) .nil)) .nil)))))))))))
theorem some_run (N : Nm n nm) (hn : n ≤ 7) {ls : List (List Nat)} (I : NetI n ls) (r1 : ρ[1]? = some (.val .drw)) (r4 : ρ[4]? = some (.val (.lst (ls.map (lotV nm))))) :
    Tr 1 (evE kin_ O23 (.lst eSome) ρ) (fun d => ∃ xs, d = .lst xs ∧ ThsL xs ∧ xs.length = 11) noX := by
  have few := I.few
  have tms := ths_net N hn I
  have ml : (ls.map (lotV nm)).length = ls.length := List.length_map _
  refine tr_lst ?_
  unfold eSome
  obtain ⟨w1, _, hw1, t1, _⟩ := tms.split 1
  refine Tr.le (c := 0 + (0 + (0 + (0 + (0 + (0 + (0 + (0 + (0 + (0 + (1 + 0))))))))))) (tr_es (Pa := ThL) (Tr.of (ev_v r4) (up (Th.lst tms) (by decide) (by decide) (by decide))) fun x0 h0 =>
    tr_es (Pa := ThL) (Tr.of (ev_bi1 (ev_b r4) tuple_lst) (up (Th.tup tms) (by decide) (by decide) (by decide))) fun x1 h1 =>
    tr_es (Pa := ThL) (Tr.of (rev_runL (ev_b r4)) (up (Th.lst tms.rev) (by decide) (by decide) (by decide))) fun x2 h2 =>
    tr_es (Pa := ThL) (Tr.of (ev_bin (ev_b r4) (ev_sl (ev_b r4) ev_c (ev_bnd ev_c) (cutL_toA (k := 1))) (add_lst (sz (by rw [List.length_take]; omega)))) (up (Th.lst (tms.app t1)) (by decide) (by omega) (by decide))) fun x3 h3 =>
    tr_es (Pa := ThL) (Tr.of (ev_lst ev_es0 (sz (by decide))) (up (Th.lst (Ths.nil : Ths oddB 0 0 [])) (by decide) (by decide) (by decide))) fun x4 h4 =>
    tr_es (Pa := ThL) (Tr.of (ev_tup ev_es0 (sz (by decide))) (up (Th.tup (Ths.nil : Ths oddB 0 0 [])) (by decide) (by decide) (by decide))) fun x5 h5 =>
    tr_es (Pa := ThL) (Tr.of ev_c ⟨by rfl, by decide, Nat.zero_le _⟩) fun x6 h6 =>
    tr_es (Pa := ThL) (Tr.of ev_c ⟨by rfl, by decide, Nat.zero_le _⟩) fun x7 h7 =>
    tr_es (Pa := ThL) (Tr.of ev_dct0 ⟨by rfl, by decide, by decide⟩) fun x8 h8 =>
    tr_es (Pa := ThL) (Tr.of ev_c ⟨by rfl, by decide, Nat.zero_le _⟩) fun x9 h9 =>
    tr_es (Pa := ThL) (Tr.le (c := 0 + 1) (tr_app (Ps := fun xs => xs = [.drw]) (Tr.of (ev_es (ev_v r1) ev_es0) rfl) fun xs hx => ?_) (by decide)) fun x10 h10 => tr_es0 ⟨sz (by simp), _, rfl, thsl_cons h0 (thsl_cons h1 (thsl_cons h2 (thsl_cons h3 (thsl_cons h4 (thsl_cons h5 (thsl_cons h6 (thsl_cons h7 (thsl_cons h8 (thsl_cons h9 (thsl_cons h10 thsl_nil)))))))))), rfl⟩) (by decide)
  subst hx
  exact odd_here.imp fun d hd => up hd (by decide) (by decide) (by decide)
def bSix : Ss :=
  (.cons (.asg [8] (.ife (.val (.cmp .NotEq (.b 4) (.lst .nil))) (.app "_law_next" (.cons (.v 1) (.cons (.bi .len (.cons (.b 4) .nil)) .nil))) (.c (.int 0))))
  (.cons (.asg [9] (.lc [10] [10] (.seq (.sl (.b 4) (.bnd (.b 8)) (.bnd (.bin .Add (.b 8) (.c (.int 1)))))) .yes (.app "_law_bent" (.cons (.v 1) (.cons (.v 10) .nil)))))
  (.cons (.owd 6 (.bin .Add (.b 6) (.lst (.cons (.bin .Add (.bin .Add (.sl (.b 4) (.c .non) (.bnd (.b 8))) (.b 9)) (.sl (.b 4) (.bnd (.bin .Add (.b 8) (.c (.int 1)))) (.c .non))) (.cons (.bin .Add (.b 4) (.lst (.cons (.sub (.b 5) (.app "_law_next" (.cons (.v 1) (.cons (.bi .len (.cons (.b 5) .nil)) .nil)))) .nil))) .nil)))))
  (.cons (.app 6 (.lc [11] [11] (.rng1 (.app "_law_next" (.cons (.v 1) (.cons (.c (.int 5)) .nil)))) .yes (.sub (.b 5) (.app "_law_next" (.cons (.v 1) (.cons (.bi .len (.cons (.b 5) .nil)) .nil))))))
  .nil))))
/-- all lots -/
structure EvL (n : Nat) (S : List (List Nat)) : Prop where
  mem : ∀ l ∈ S, Bel n l ∧ l.Pairwise (· < ·)
  pos : 0 < S.length
  few : S.length ≤ 128
theorem pick_every (N : Nm n nm) (hn : n ≤ 7) {S : List (List Nat)} (hS : EvL n S) (r1 : ρ[1]? = some (.val .drw)) (r5 : ρ[5]? = some (.val (.lst (S.map (lotV nm))))) :
    Tr 1 (evE kin_ O23 (.sub (.b 5) (.app "_law_next" (.cons (.v 1) (.cons (.bi .len (.cons (.b 5) .nil)) .nil)))) ρ) (fun d => ∃ l, Bel n l ∧ l.Pairwise (· < ·) ∧ d = lotV nm l) noX := by
  refine Tr.le (c := 0 + 1) (tr_sub (Pa := fun d => d = .lst (S.map (lotV nm))) (Tr.of (ev_b r5) rfl) fun d hd => ?_) (by decide)
  subst hd
  refine (tr_next (n := S.length) o23__law_next r1 ((ev_bi1 (ev_b r5) len_lst).trans (by rw [List.length_map])) hS.pos (by have := hS.few; omega)).imp ?_
  rintro y ⟨q, hq, rfl⟩
  have hm := hS.mem _ (List.getElem_mem hq)
  exact ⟨lotV nm S[q], sub_lst (by rw [List.getElem?_map, List.getElem?_eq_getElem hq]; rfl), _, hm.1, hm.2, rfl⟩
theorem six_turn (N : Nm n nm) (h1 : 1 ≤ n) (hn : n ≤ 7) {ls S : List (List Nat)} (I : NetI n ls) (hS : EvL n S) {xs : List D} (hx : ThsL xs) (hl : xs.length ≤ 1000) {a0 a2 a7 a8 a9 a10 a11 a12 a13 : Slot} {Po : Out → Prop}
    (hP : ∀ ys b8 b9, ThsL ys → ys.length = xs.length + 3 → Po (.nx [a0, .val .drw, a2, .val (roadsV n nm), .val (.lst (ls.map (lotV nm))), .val (.lst (S.map (lotV nm))), .own ys, a7, b8, b9, a10, a11, a12, a13])) :
    Tr 28 (evSs kin_ O23 bSix [a0, .val .drw, a2, .val (roadsV n nm), .val (.lst (ls.map (lotV nm))), .val (.lst (S.map (lotV nm))), .own xs, a7, a8, a9, a10, a11, a12, a13]) Po noX := by
  have few := I.few
  have tms := ths_net N hn I
  have ml : (ls.map (lotV nm)).length = ls.length := List.length_map _
  unfold bSix
  refine Tr.le (c := 1 + (21 + ((0 + (0 + ((0 + (1 + 0)) + 0))) + ((1 + 4 * 1) + 0)))) (tr_asg (Pa := fun d => ∃ k : Nat, k ≤ ls.length ∧ d = .int k) ?_ fun d hd => ?_) (by decide)
  · refine tr_ife (p := !(ls.map (lotV nm)).isEmpty) (evQ_bl (ev_cmp (ev_b rfl) (ev_lst ev_es0 (sz (by decide))) (ne_emptyL _))) (fun hp => ?_) fun _ => Tr.of ev_c ⟨0, Nat.zero_le _, rfl⟩
    have hpos : 0 < ls.length := by
      cases ls with
      | nil => cases hp
      | cons => simp
    exact (tr_next (n := ls.length) o23__law_next rfl ((ev_bi1 (ev_b rfl) len_lst).trans (by rw [ml])) hpos (by omega)).imp fun d ⟨j, hj, e⟩ => ⟨j, by omega, e⟩
  obtain ⟨k, hk, rfl⟩ := hd
  refine ⟨[a0, .val .drw, a2, .val (roadsV n nm), .val (.lst (ls.map (lotV nm))), .val (.lst (S.map (lotV nm))), .own xs, a7, .val (.int (k : Nat)), a9, a10, a11, a12, a13], rfl, ?_⟩
  refine tr_asg (Pa := fun d => ∃ ys, d = .lst ys ∧ ys.length ≤ 1 ∧ ∃ w, w ≤ 168 ∧ Ths (oddB + 10) w 3 ys) ?_ fun d hd => ?_
  · refine Tr.le (c := 1 * 21) (tr_lc (xs := ((ls.map (lotV nm)).drop k).take 1) (m := 1) (fun i acc => i ≤ 1 → acc.length ≤ i ∧ ∃ w, w ≤ 168 * i ∧ Ths (oddB + 10) w 3 acc)
      (evI_seq (ev_sl (ev_b rfl) (ev_bnd (ev_b rfl)) (ev_bnd (ev_bin (ev_b rfl) ev_c (add_int _ _))) (cutL_oneA (by rw [ml]; exact hk))) rfl) (by rw [List.length_take]; omega) (by decide) (fun _ => ⟨Nat.le_refl _, 0, Nat.le_refl _, .nil⟩) (fun i x acc hx' hi => ?_) fun rs hr => ?_) (by decide)
    · have hi0 : i = 0 := by
        have := (List.getElem?_eq_some_iff.mp hx').1
        rw [List.length_take] at this
        omega
      subst hi0
      obtain ⟨q1, w, q2, q3⟩ := hi (by decide)
      have hacc : acc = [] := List.length_eq_zero_iff.mp (by omega)
      subst hacc
      have hm : x ∈ ls.map (lotV nm) := List.mem_of_mem_drop (List.mem_of_mem_take (List.mem_of_getElem? hx'))
      obtain ⟨c, hc, rfl⟩ := List.mem_map.mp hm
      have tc := th_any N hn (I.l2 c hc).2.2 (I.l2 c hc).2.1
      refine lcF_tr (ρ1 := [a0, .val .drw, a2, .val (roadsV n nm), .val (.lst (ls.map (lotV nm))), .val (.lst (S.map (lotV nm))), .own xs, a7, .val (.int (k : Nat)), a9, .val (lotV nm c), a11, a12, a13]) rfl ?_
      refine Tr.le (c := 0 + 21) (tr_app (Ps := fun xs => xs = [.drw, lotV nm c]) (Tr.of (ev_es (ev_v rfl) (ev_es (ev_v rfl) ev_es0)) rfl) fun xs hx => ?_) (by decide)
      subst hx
      exact (v_bent (by decide) (Nat.le_refl _) (by decide) tc).imp fun d hd _ => ⟨Nat.le_refl _, 168 + 0, by decide, Ths.cons (hd.mono (Nat.le_refl _) (by decide) (by decide)) .nil⟩
    · have hle : (((ls.map (lotV nm)).drop k).take 1).length ≤ 1 := by rw [List.length_take]; omega
      obtain ⟨q1, w, q2, q3⟩ := hr hle
      exact ⟨rs, rfl, by omega, w, by omega, q3⟩
  obtain ⟨ys, rfl, yl, w, hw, ty⟩ := hd
  refine ⟨[a0, .val .drw, a2, .val (roadsV n nm), .val (.lst (ls.map (lotV nm))), .val (.lst (S.map (lotV nm))), .own xs, a7, .val (.int (k : Nat)), .val (.lst ys), a10, a11, a12, a13], rfl, ?_⟩
  obtain ⟨wa, _, hwa, ta, _⟩ := tms.split k
  obtain ⟨_, wb, hwb, _, tb⟩ := tms.split (k + 1)
  refine tr_owd (Px := fun zs => ThsL zs ∧ zs.length = xs.length + 2) (tr_bin (Pa := fun d => d = .lst xs) (Tr.of (ev_bo rfl) rfl) fun d hd => ?_) fun zs ⟨hz, zl⟩ => ?_
  · subst hd
    refine tr_lst ?_
    have e1 : evE kin_ O23 (.bin .Add (.bin .Add (.sl (.b 4) (.c .non) (.bnd (.b 8))) (.b 9)) (.sl (.b 4) (.bnd (.bin .Add (.b 8) (.c (.int 1)))) (.c .non))) [a0, .val .drw, a2, .val (roadsV n nm), .val (.lst (ls.map (lotV nm))), .val (.lst (S.map (lotV nm))), .own xs, a7, .val (.int (k : Nat)), .val (.lst ys), a10, a11, a12, a13] =
        pure (.lst ((ls.map (lotV nm)).take k ++ ys ++ (ls.map (lotV nm)).drop (k + 1))) := by
      refine ev_bin (ev_bin (ev_sl (ev_b rfl) ev_c (ev_bnd (ev_b rfl)) cutL_toA) (ev_b rfl) (add_lst (sz (by rw [List.length_take]; omega)))) (ev_sl (ev_b rfl) (ev_bnd (ev_bin (ev_b rfl) ev_c (add_int _ _))) ev_c (cutL_fromA (k := k + 1))) (add_lst (sz (by rw [List.length_append, List.length_take, List.length_drop]; omega)))
    have t1 : ThL (.lst ((ls.map (lotV nm)).take k ++ ys ++ (ls.map (lotV nm)).drop (k + 1))) := by
      have ta' : Ths (oddB + 10) wa 3 ((ls.map (lotV nm)).take k) := ta.mono (by decide) (Nat.le_refl _) (by decide)
      have tb' : Ths (oddB + 10) wb 3 ((ls.map (lotV nm)).drop (k + 1)) := tb.mono (by decide) (Nat.le_refl _) (by decide)
      exact up (Th.lst ((ta'.app ty).app tb')) (by decide) (by omega) (by decide)
    refine tr_es (Pa := ThL) (Tr.of e1 t1) fun x1 q1 => tr_es (Pa := ThL) (tr_bin (Pa := fun d => d = .lst (ls.map (lotV nm))) (Tr.of (ev_b rfl) rfl) fun d hd => ?_) fun x2 q2 => tr_es0 ⟨sz (by simp), _, add_lst (sz (by simp; omega)), _, rfl, thsl_app hx (thsl_cons q1 (thsl_cons q2 thsl_nil)), by simp⟩
    subst hd
    refine tr_lst (tr_es (pick_every N hn hS rfl rfl) fun d ⟨l, lb, lp, ed⟩ => ?_)
    subst ed
    refine tr_es0 ⟨sz (by simp), _, add_lst (sz (by simp; omega)), ?_⟩
    exact up (Th.lst (tms.app (Ths.cons (th_any N hn lb lp) .nil : Ths oddB (64 + 0) 1 _))) (by decide) (by decide) (by decide)
  · show Tr ((1 + 4 * 1) + 0) (evSs kin_ O23 _ [a0, .val .drw, a2, .val (roadsV n nm), .val (.lst (ls.map (lotV nm))), .val (.lst (S.map (lotV nm))), .own zs, a7, .val (.int (k : Nat)), .val (.lst ys), a10, a11, a12, a13]) Po noX
    refine tr_appS (xs := zs) (P := ThL) rfl (by omega) (tr_lcD (Px := fun ws => ∃ j : Nat, j ≤ 4 ∧ ws = rngD 0 j) (m := 4) (fun _ i acc => ∃ w, w ≤ 64 * i ∧ Ths oddB w 1 acc) ((tr_rng1 (m := 4) (by decide) ((tr_next (n := 5) o23__law_next rfl ev_c (by decide) (by decide)).imp fun d ⟨j, hj, e⟩ => ⟨j, by omega, e⟩)).imp fun ws ⟨j, hj, e⟩ => ⟨⟨j, hj, e⟩, by rw [e, rngD_length]; exact hj⟩) (by decide) (fun _ _ => ⟨0, Nat.le_refl _, .nil⟩)
      (fun ws hws i x acc hx' hi => ?_) fun ws hws rs hr => ?_) fun v hv => tr_nil (hP _ _ _ (thsl_app hz (thsl_cons hv thsl_nil)) (by simp; omega))
    · obtain ⟨w', hw', ta'⟩ := hi
      refine lcF_tr (ρ1 := [a0, .val .drw, a2, .val (roadsV n nm), .val (.lst (ls.map (lotV nm))), .val (.lst (S.map (lotV nm))), .own zs, a7, .val (.int (k : Nat)), .val (.lst ys), a10, .val x, a12, a13]) rfl ?_
      refine (pick_every N hn hS rfl rfl).imp fun d ⟨l, lb, lp, ed⟩ => ?_
      subst ed
      exact ⟨w' + (64 + 0), by omega, ta'.app (Ths.cons (th_any N hn lb lp) .nil)⟩
    · obtain ⟨w', hw', ta'⟩ := hr
      obtain ⟨j, hj, rfl⟩ := hws
      rw [rngD_length] at hw'
      exact up (Th.lst ta') (by decide) (by omega) (by decide)
def bLaw4 : Ss :=
  (.cons (.asg [3] (.app "_law_roads" (.cons (.v 1) (.cons (.c (.int 1)) (.cons (.c (.int 7)) .nil)))))
  (.cons (.asg [4, 5] (.tup (.cons (.app "_law_lots_drawn" (.cons (.v 1) (.cons (.v 3) .nil))) (.cons (.app "_law_lots" (.cons (.v 3) .nil)) .nil))))
  (.cons (.own 6 (.lst eSome))
  (.cons (.app 6 (.bin .Add (.b 4) (.lst (.cons (.sl (.b 3) (.c .non) (.bnd (.c (.int 1)))) .nil))))
  (.cons (.frl [7] (.rng1 (.c (.int 6))) bSix)
  (.cons (.fz [6] (.frl [12] (.seq (.v 6))
  (.cons (.iff (.val (.cmp .NotEq (.bi .repr (.cons (.app "_law_told" (.cons (.v 3) (.cons (.v 12) .nil))) .nil)) (.bi .repr (.cons (.app "_law_due" (.cons (.v 3) (.cons (.v 12) .nil))) .nil))))
  (.cons (.ret (.c (.bl false)))
  .nil)
  .nil)
  .nil)))
  (.cons (.asg [13] (.sub (.lst (.cons (.c .non) (.cons (.tup .nil) (.cons (.bin .Add (.bk (.b 3) (.c .non) (.c .non)) (.b 3)) (.cons (.bi .list (.cons (.b 3) .nil)) (.cons (.c (.str "a")) .nil)))))) (.app "_law_next" (.cons (.v 1) (.cons (.c (.int 5)) .nil)))))
  (.cons (.iff (.val (.cmp .NotEq (.app "_law_told" (.cons (.v 13) (.cons (.c (.int 5)) .nil))) (.tup (.cons (.c (.str "roads")) (.cons (.bi .repr (.cons (.b 13) .nil)) .nil)))))
  (.cons (.ret (.c (.bl false)))
  .nil)
  .nil)
  .nil))))))))
def SlotsN (ns : List Int) (ρ : Fe) : Prop := ∃ a2 a3 a4 a5 a6 a7 a8 a9 a10 a11 a12 a13 : Slot, ρ = [.val (.scr ns), .val .drw, a2, a3, a4, a5, a6, a7, a8, a9, a10, a11, a12, a13]
theorem turn_net {ns : List Int} {t : D} {a3 a4 a5 a6 a7 a8 a9 a10 a11 a12 a13 : Slot} {Po : Out → Prop} (hP : ∀ ρ, SlotsN ns ρ → Po (.nx ρ)) : Tr 300 (evSs kin_ O23 bLaw4 [.val (.scr ns), .val .drw, .val t, a3, a4, a5, a6, a7, a8, a9, a10, a11, a12, a13]) Po noX := by
  unfold bLaw4
  refine Tr.le (c := (0 + 13) + ((14 + (0 + 0)) + (1 + (6 * 28 + (100 * 0 + ((0 + 1) + 0)))))) (tr_asg (Pa := fun d => ∃ n nm, 1 ≤ n ∧ n ≤ 7 ∧ Nm n nm ∧ d = roadsV n nm) (tr_app (Ps := fun xs => xs = [.drw, .int 1, .int 7]) (Tr.of (ev_es (ev_v rfl) (ev_es ev_c (ev_es ev_c ev_es0))) rfl) fun xs hx => by subst hx; exact v_roads) fun d hd => ?_) (by decide)
  obtain ⟨n, nm, h1, hn, N, rfl⟩ := hd
  refine ⟨[.val (.scr ns), .val .drw, .val t, .val (roadsV n nm), a4, a5, a6, a7, a8, a9, a10, a11, a12, a13], rfl, ?_⟩
  refine tr_asg (Pa := fun d => ∃ ls S, NetI n ls ∧ EvL n S ∧ d = .tup [.lst (ls.map (lotV nm)), .lst (S.map (lotV nm))]) (tr_tup (tr_es (Pa := fun d => ∃ ls, NetI n ls ∧ d = .lst (ls.map (lotV nm))) (Tr.le (c := 0 + 14) (tr_app (Ps := fun xs => xs = [.drw, roadsV n nm]) (Tr.of (ev_es (ev_v rfl) (ev_es (ev_v rfl) ev_es0)) rfl) fun xs hx => by subst hx; exact v_drawn N hn) (by decide)) fun d ⟨ls, I, ed⟩ => ?_)) fun d hd => ?_
  · subst ed
    have pw : ∀ i, i ≤ 7 → 1 ≤ 2 ^ i ∧ 2 ^ i ≤ 128 := by decide
    have pn := pw n hn
    refine tr_es (Pa := fun d => ∃ S, EvL n S ∧ d = .lst (S.map (lotV nm))) (Tr.of (ev_app (ev_es (ev_v rfl) ev_es0) (v_lots N hn)) ⟨_, ⟨fun l hl => ?_, by rw [List.length_mergeSort, subs_len]; omega, by rw [List.length_mergeSort, subs_len]; omega⟩, rfl⟩) fun d ⟨S, hS, ed⟩ => by subst ed; exact tr_es0 ⟨sz (by simp), ls, S, I, hS, rfl⟩
    exact mem_subs.mp ((List.mergeSort_perm _ leL).mem_iff.mp hl)
  obtain ⟨ls, S, I, hS, rfl⟩ := hd
  refine ⟨[.val (.scr ns), .val .drw, .val t, .val (roadsV n nm), .val (.lst (ls.map (lotV nm))), .val (.lst (S.map (lotV nm))), a6, a7, a8, a9, a10, a11, a12, a13], rfl, ?_⟩
  refine tr_own (Px := fun xs => ThsL xs ∧ xs.length = 11) (some_run N hn I rfl rfl) fun xs ⟨hxs, hxl⟩ => ?_
  show Tr _ (evSs kin_ O23 _ [.val (.scr ns), .val .drw, .val t, .val (roadsV n nm), .val (.lst (ls.map (lotV nm))), .val (.lst (S.map (lotV nm))), .own xs, a7, a8, a9, a10, a11, a12, a13]) Po noX
  have few := I.few
  have tms := ths_net N hn I
  have tm : Ths oddB 63 0 ((List.range n).map (roadV nm)) := (ths_lot N (B := oddB) (e := 0) bel_range).mono (Nat.le_refl _) (by rw [List.length_range]; omega) (Nat.le_refl _)
  have rl : ((List.range n).map (roadV nm)).length = n := by simp
  have e12 : evE kin_ O23 (.bin .Add (.b 4) (.lst (.cons (.sl (.b 3) (.c .non) (.bnd (.c (.int 1)))) .nil))) [.val (.scr ns), .val .drw, .val t, .val (roadsV n nm), .val (.lst (ls.map (lotV nm))), .val (.lst (S.map (lotV nm))), .own xs, a7, a8, a9, a10, a11, a12, a13] =
      pure (.lst (ls.map (lotV nm) ++ [.tup (((List.range n).map (roadV nm)).take 1)])) :=
    ev_bin (ev_b rfl) (ev_lst (ev_es (ev_sl (ev_b rfl) ev_c (ev_bnd ev_c) (cutT_to (k := 1) (by omega))) ev_es0) (sz (by simp))) (add_lst (sz (by simp; omega)))
  have t12 : ThL (.lst (ls.map (lotV nm) ++ [.tup (((List.range n).map (roadV nm)).take 1)])) := by
    obtain ⟨w1, _, hw1, t1, _⟩ := tm.split 1
    have tt : Th oddB 64 1 (.tup (((List.range n).map (roadV nm)).take 1)) := (Th.tup t1).mono (Nat.le_refl _) (by omega) (Nat.le_refl _)
    exact up (Th.lst (tms.app (Ths.cons tt .nil : Ths oddB (64 + 0) 1 _))) (by decide) (by decide) (by decide)
  have hz := sizeLine_eq
  rw [app_pure (xs := xs) rfl e12 (by omega)]
  show Tr _ (evSs kin_ O23 _ [.val (.scr ns), .val .drw, .val t, .val (roadsV n nm), .val (.lst (ls.map (lotV nm))), .val (.lst (S.map (lotV nm))), .own (xs ++ [.lst (ls.map (lotV nm) ++ [.tup (((List.range n).map (roadV nm)).take 1)])]), a7, a8, a9, a10, a11, a12, a13]) Po noX
  have hx0 : ThsL (xs ++ [.lst (ls.map (lotV nm) ++ [.tup (((List.range n).map (roadV nm)).take 1)])]) := thsl_app hxs (thsl_cons t12 thsl_nil)
  have hl0 : (xs ++ [D.lst (ls.map (lotV nm) ++ [.tup (((List.range n).map (roadV nm)).take 1)])]).length = 12 := by rw [List.length_append, hxl]; rfl
  generalize xs ++ [D.lst (ls.map (lotV nm) ++ [.tup (((List.range n).map (roadV nm)).take 1)])] = ys at hx0 hl0
  refine tr_frl (m := 6) (fun i ρ => ∃ zs b7 b8 b9, ThsL zs ∧ zs.length = 12 + 3 * i ∧ ρ = [.val (.scr ns), .val .drw, .val t, .val (roadsV n nm), .val (.lst (ls.map (lotV nm))), .val (.lst (S.map (lotV nm))), .own zs, b7, b8, b9, a10, a11, a12, a13]) (evI_rng1 (j := 6) ev_c (by decide) (by rw [hz]; decide)) (by rw [rngD_length]; decide) ?_ ⟨ys, _, _, _, hx0, hl0, rfl⟩ ?_
  · rintro i x ρ hx ⟨zs, b7, b8, b9, hzs, hzl, rfl⟩
    have hi : i < 6 := by
      have := (List.getElem?_eq_some_iff.mp hx).1
      rwa [rngD_length] at this
    refine ⟨_, rfl, ?_⟩
    exact six_turn N h1 hn I hS hzs (by omega) fun ws c8 c9 hw hwl => ⟨ws, _, _, _, hw, by omega, rfl⟩
  rintro ρ ⟨zs, b7, b8, b9, hzs, hzl, rfl⟩
  rw [rngD_length] at hzl
  have hzl : zs.length = 30 := hzl
  rw [fz_run]
  show Tr _ (evSs kin_ O23 _ [.val (.scr ns), .val .drw, .val t, .val (roadsV n nm), .val (.lst (ls.map (lotV nm))), .val (.lst (S.map (lotV nm))), .val (.lst zs), b7, b8, b9, a10, a11, a12, a13]) Po noX
  refine tr_frl (m := 100) (fun i ρ => ∃ b12, ρ = [.val (.scr ns), .val .drw, .val t, .val (roadsV n nm), .val (.lst (ls.map (lotV nm))), .val (.lst (S.map (lotV nm))), .val (.lst zs), b7, b8, b9, a10, a11, b12, a13]) (evI_seq (ev_v rfl) rfl) (by omega) ?_ ⟨_, rfl⟩ ?_
  · rintro i x ρ hx ⟨b12, rfl⟩
    refine ⟨[.val (.scr ns), .val .drw, .val t, .val (roadsV n nm), .val (.lst (ls.map (lotV nm))), .val (.lst (S.map (lotV nm))), .val (.lst zs), b7, b8, b9, a10, a11, .val x, a13], rfl, ?_⟩
    have tx := hzs x (List.mem_of_getElem? hx)
    obtain ⟨v, z, ht, hdu, hz⟩ := both_run N h1 hn tx
    have arg : evEs kin_ O23 (.cons (.v 3) (.cons (.v 12) .nil)) [.val (.scr ns), .val .drw, .val t, .val (roadsV n nm), .val (.lst (ls.map (lotV nm))), .val (.lst (S.map (lotV nm))), .val (.lst zs), b7, b8, b9, a10, a11, .val x, a13] = pure [roadsV n nm, x] := ev_es (ev_v rfl) (ev_es (ev_v rfl) ev_es0)
    have test : evT kin_ O23 (.val (.cmp .NotEq (.bi .repr (.cons (.app "_law_told" (.cons (.v 3) (.cons (.v 12) .nil))) .nil)) (.bi .repr (.cons (.app "_law_due" (.cons (.v 3) (.cons (.v 12) .nil))) .nil)))) [.val (.scr ns), .val .drw, .val t, .val (roadsV n nm), .val (.lst (ls.map (lotV nm))), .val (.lst (S.map (lotV nm))), .val (.lst zs), b7, b8, b9, a10, a11, .val x, a13] = pure false :=
      evQ_bl (ev_cmp (ev_bi1 (ev_app arg ht) hz) (ev_bi1 (ev_app arg hdu) hz) (ne_selfS z))
    rw [iff_false test, evSs_nil]
    exact Tr.pure ⟨_, rfl⟩
  rintro ρ ⟨b12, rfl⟩
  refine tr_asg (Pa := fun d => ThL d ∧ isRd d = false) (tr_pick (i := 1) (n := 5) (xs := [.non, .tup [], .tup (((List.range n).map (roadV nm)).reverse ++ (List.range n).map (roadV nm)), .lst ((List.range n).map (roadV nm)), .str "a"]) o23__law_next rfl ?_ rfl (by decide) (by decide) fun x hx => ?_) fun d hd => ?_
  · exact ev_es ev_c (ev_es (ev_tup ev_es0 (sz (by decide))) (ev_es (ev_bin (rev_run (ev_b rfl)) (ev_b rfl) (add_tup (sz (by simp; omega)))) (ev_es (ev_bi1 (ev_b rfl) list_tup) (ev_es ev_c ev_es0))))
  · simp only [List.mem_cons, List.not_mem_nil, or_false] at hx
    rcases hx with rfl | rfl | rfl | rfl | rfl
    · exact ⟨⟨by rfl, by decide, Nat.zero_le _⟩, rfl⟩
    · exact ⟨up (Th.tup (Ths.nil : Ths oddB 0 0 [])) (by decide) (by decide) (by decide), by rfl⟩
    · refine ⟨up (Th.tup (tm.rev.app tm)) (by decide) (by decide) (by decide), ?_⟩
      have e : D.tup (((List.range n).map (roadV nm)).reverse ++ (List.range n).map (roadV nm)) = lotV nm ((List.range n).reverse ++ List.range n) := by
        show D.tup _ = D.tup _
        rw [List.map_append, List.map_reverse]
      rw [e]
      refine not_rd N (fun x hx => ?_) fun hp => ?_
      · rcases List.mem_append.mp hx with z | z
        · exact List.mem_range.mp (List.mem_reverse.mp z)
        · exact List.mem_range.mp z
      · have := (List.pairwise_append.mp hp).2.2 0 (List.mem_reverse.mpr (List.mem_range.mpr (by omega))) 0 (List.mem_range.mpr (by omega))
        omega
    · exact ⟨up (Th.lst tm) (by decide) (by decide) (by decide), rfl⟩
    · exact ⟨⟨by rfl, by decide, Nat.zero_le _⟩, rfl⟩
  obtain ⟨hd1, hd2⟩ := hd
  refine ⟨[.val (.scr ns), .val .drw, .val t, .val (roadsV n nm), .val (.lst (ls.map (lotV nm))), .val (.lst (S.map (lotV nm))), .val (.lst zs), b7, b8, b9, a10, a11, b12, .val d], rfl, ?_⟩
  have test : evT kin_ O23 (.val (.cmp .NotEq (.app "_law_told" (.cons (.v 13) (.cons (.c (.int 5)) .nil))) (.tup (.cons (.c (.str "roads")) (.cons (.bi .repr (.cons (.b 13) .nil)) .nil))))) [.val (.scr ns), .val .drw, .val t, .val (roadsV n nm), .val (.lst (ls.map (lotV nm))), .val (.lst (S.map (lotV nm))), .val (.lst zs), b7, b8, b9, a10, a11, b12, .val d] = pure false :=
    evQ_bl (ev_cmp (ev_app (ev_es (ev_v rfl) (ev_es ev_c ev_es0)) (told_roads hd1 hd2)) (ev_tup (ev_es ev_c (ev_es (ev_bi1 (ev_b rfl) (thl_repr hd1)) ev_es0)) (sz (by simp))) (ne_pair2 _ _))
  rw [iff_false test, evSs_nil]
  exact Tr.pure (hP _ ⟨_, _, _, _, _, _, _, _, _, _, _, _, rfl⟩)
end
theorem value_ok : LawV law_ := by
  intro ns hs
  have hl : ns.length ≤ 63 := by
    unfold scriptOk at hs
    exact of_decide_eq_true ((Bool.and_eq_true _ _).mp hs).1
  have hz := sizeLine_eq
  rw [orc_eq, o_law]
  show wpM (runF kin_ O23 13 c_law [.scr ns]) {} _ _
  refine law_begin (c := 11 * 300 + 0) (P := fun d => d = .bl true) o23__law_begun hs (by decide) ?_
  show Tr _ (evSs kin_ O23 _ [.val (.scr ns), .val .drw, .emp, .emp, .emp, .emp, .emp, .emp, .emp, .emp, .emp, .emp, .emp, .emp]) _ noX
  have len : evE kin_ O23 (.bi .len (.cons (.b 0) .nil)) [.val (.scr ns), .val .drw, .emp, .emp, .emp, .emp, .emp, .emp, .emp, .emp, .emp, .emp, .emp, .emp] = pure (.int (ns.length : Int)) := ev_bi1 (ev_b rfl) rfl
  have num : ∃ k : Nat, k ≤ 11 ∧ evE kin_ O23 (.bin .Add (.c (.int 3)) (.bi .min2 (.cons (.bi .len (.cons (.b 0) .nil)) (.cons (.c (.int 8)) .nil)))) [.val (.scr ns), .val .drw, .emp, .emp, .emp, .emp, .emp, .emp, .emp, .emp, .emp, .emp, .emp, .emp] = pure (.int (k : Int)) := by
    refine ⟨3 + min ns.length 8, by omega, ?_⟩
    refine (ev_bin ev_c (ev_bi (ev_es len (ev_es ev_c ev_es0)) rfl) (add_int _ _)).trans ?_
    congr 2
    split <;> omega
  obtain ⟨k, hk, ek⟩ := num
  refine tr_frl (m := 11) (fun i ρ => SlotsN ns ρ) (evI_rng1 (j := (k : Int)) ek (by omega) (by omega)) (by rw [rngD_length]; omega) ?_ ⟨_, _, _, _, _, _, _, _, _, _, _, _, rfl⟩ ?_
  · rintro i x ρ _ ⟨a2, a3, a4, a5, a6, a7, a8, a9, a10, a11, a12, a13, rfl⟩
    refine ⟨[.val (.scr ns), .val .drw, .val x, a3, a4, a5, a6, a7, a8, a9, a10, a11, a12, a13], rfl, ?_⟩
    exact turn_net fun ρ h => h
  · rintro ρ _
    exact tr_ret (Tr.of ev_c rfl)
end RM
end
/-! ### the head, the end -/
namespace RM
open PySem PySem.W PySem.Calls PyProof.Rows
abbrev row_ : OpenRow := OpenLaw.row PySem.Challenge.rw_roadmeets_k04_whole_nets_made
def names0_ : List PySem.Str := ["_wall", "RoadError", "BadRoads", "BadNet", "MOST_ROADS", "MOST_LETTERS", "LETTERS", "is_word", "are_ascending", "need_roads", "is_lot", "lots_with", "couples", "ENDS", "need_lots", "lots_of", "is_over", "Net", "_law_begun", "_law_next", "_law_names", "_law_odd", "_law_bent", "_law_lots", "_law_couples", "_law_roads", "_law_less", "_law_lots_drawn", "_law_meetings", "_law_wrong"]
def names1_ : List PySem.Str := ["_law_due", "_law_told"]
def names_ : List PySem.Str := names0_ ++ names1_
abbrev hk_ : PySem.W.Hook := hookM 6 (chkL law_ row_.prog.main.file) law_.fns
def ob_ (s : PySem.W.SharedT) : AlM := obM 6 (chkL law_ row_.prog.main.file) law_.fns s
theorem run_ (w : World) : HandSHeadRun.RunEq row_ (PySem.W.view row_.prog [36]) hk_ ob_ 4000 names_ w := by
  intro os
  kernel_rfl
end RM
open PySem PySem.W PySem.Calls PyProof.Rows
theorem PySem.Challenge.cw_roadmeets_k04_whole_nets_made_holds : PySem.Challenge.rw_roadmeets_k04_whole_nets_made.Holds := by
  w_on; o_law
  refine HandSHeadRun.head_any (r := OpenLaw.row PySem.Challenge.rw_roadmeets_k04_whole_nets_made) (q := view (OpenLaw.row PySem.Challenge.rw_roadmeets_k04_whole_nets_made).prog [36]) (H := RM.hk_) (ob := RM.ob_) (M := 4000) (loose := RM.names_) (d := HandSHeadRun.topDef (OpenLaw.row PySem.Challenge.rw_roadmeets_k04_whole_nets_made).prog 36) (kwd := []) RM.obM_eq
    (by kernel_rfl) (fun s => by kernel_rfl) RM.run_ (by kernel_rfl) (by kernel_rfl) (by kernel_rfl) (by rfl) (by first | assumption | decide +kernel) (by decide +kernel) ⟨rfl, rfl, rfl, rfl, rfl, by decide +kernel⟩ ?hw ?hc
  case hw => w_witness2
  case hc => exact RM.law_end (l := PySem.Challenge.rw_roadmeets_k04_whole_nets_made) RM.law_ok RM.value_ok rfl (by kernel_rfl) (by kernel_rfl) (by kernel_rfl) ⟨rfl, by decide, by decide⟩
